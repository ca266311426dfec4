import PyProof.Rows.All
import Wide.All
import OpenK.AllK
import Wide.FinOn
import OpenK.KCall
import PyProof.Rows.SetFrom
import KE.KDictSum
import KE.KSuper
import Lean
import PySem.Challenge.RW_qd0025_01
set_option Elab.async false
set_option maxErrors 5000
set_option autoImplicit true
set_option maxRecDepth 100000
set_option linter.all false
set_option compiler.extract_closed false
set_option genSizeOf false
set_option bootstrap.genMatcherCode false
set_option genInjectivity false
set_option genCtorIdx false
set_option tactic.hygienic false
section
open PySem
set_option backward.match.sparseCases false
namespace Mine
def qe:=@PySem.wpAny_bind
def qr:=@of_decide_eq_true
def qE:=@List.length_map
def qQ:=@List.mem_singleton
def qu:=@Nat.le_trans
def qA:=@Option.some.inj
def qp:=@PySem.wpAny_pure
def jd:=@PySem.Heap.get?_push_of_some
def qP:=@Nat.lt_of_le_of_lt
def q9:=@Bool.false_ne_true
def qU:=@List.length_append
def qY:=@List.mem_cons_self
def qN:=@decide_eq_true
def jL:=@List.getElem?_eq_some_iff
def jg:=@List.mem_cons_of_mem
def q6:=@Nat.lt_of_lt_of_le
def qS:=@Nat.le_add_right
def jy:=@PySem.Heap.get?_push_size
def jG:=@Nat.le_of_ble_eq_true
def zm:=@List.getElem?_eq_getElem
def zp:=@Bool.and_eq_true_iff
def q7:=@List.mem_cons
def qz:=@congrArg
def zP:=@beq_self_eq_true
def qW:=@Nat.le_refl
def ze:=@List.size_toArray
def j3:=@Nat.add_le_add_left
def wK:=@List.getElem?_append_left
def yl:=@Array.getElem?_eq_getElem
def jp:=@Nat.lt_trans
def jz:=@Nat.le_of_lt
def jH:=@Nat.add_comm
def jX:=@PySem.wpAny_holding
def jQ:=@Nat.add_assoc
def zQ:=@decide_eq_false
def zR:=@List.append_nil
def wj:=@List.append_assoc
def yK:=@Option.map_eq_some_iff
def zY:=@Nat.lt_succ_self
def ym:=@Array.length_toList
def zq:=@PySem.Heap.lt_size
def j4:=@Nat.zero_le
def kL:=@List.getElem?_append_right
def zZ:=@Nat.succ_le_succ
def yn:=@Nat.add_le_add_right
def jR:=@Nat.le_of_eq
def wk:=@PySem.wpAny_standAt
def yo:=@List.mem_flatMap
def yp:=@List.length_cons
def zr:=@beq_iff_eq
def gP:=@Option.isSome_iff_exists
def wl:=@List.mem_map
def yL:=@List.lookup_cons
def wq:=@Nat.ne_of_lt
def we:=@Int.le_of_lt
def zS:=@PySem.wpAny_mono
def yq:=@PySem.Heap.size_push
def yM:=@beq_false_of_ne
def yN:=@List.mem_append
def y7:=@PySem.wpAny_call_entry
def vG:=@Int.lt_of_le_of_lt
def x5:=@List.pairwise_singleton
def wt:=@Nat.le_succ
def kM:=@Nat.lt_succ_of_lt
def kN:=@List.getElem?_set
def kO:=@List.getElem?_map
def kP:=@List.flatMap_cons
def gQ:=@PySem.Heap.SameBut.update
def gR:=@Bool.or_eq_true_iff
def Q5:=@Option.isNone_iff_eq_none
def wL:=@Nat.ne_of_gt
def yr:=@Int.ofNat_lt
def Q6:=@List.filterMap_cons_some
def x6:=@List.mem_of_getElem?
def zB:=@Int.le_trans
def vH:=@PySem.wpAny_seqItems
def vI:=@Nat.lt_succ_of_le
def kQ:=@Nat.add_lt_add_left
def x7:=@Nat.add_left_cancel
def Q7:=@Nat.lt_of_succ_lt_succ
def Q8:=@Array.getElem?_eq_none
def gS:=@List.isEmpty_iff
def x8:=@List.pairwise_cons
def Q9:=@List.mem_append_right
def Za:=@List.getElem?_eq_none
def Zc:=@PySem.Heap.get?_update_self
def yO:=@PySem.sizeLine_eq
def yt:=@Nat.add_le_add
def Zd:=@Bool.or_eq_false_iff
def wM:=@LawfulBEq.eq_of_beq
def gT:=@PySem.codeAny_of_tree
def gU:=@List.map_append
def vJ:=@List.map_map
def Ze:=@Int.toNat_of_nonneg
def YB:=@Nat.add_sub_cancel_left
def x9:=@PySem.wpAny_askSetting
def Zf:=@PySem.wpAny_callSpecial?_slot
def yP:=@PySem.wpAny_field
set_option genInjectivity true in
set_option genCtorIdx true in
inductive PV where
 |none
 |bool (b:Bool)
 |int (i:Int)
 |str (s:Str)
 |tup (l:List PV)
 |lst (l:List PV)
set_option genInjectivity true in
set_option genCtorIdx true in
inductive AV where
 |pv (p:PV)
 |ref (i:Nat)
 |tupR (l:List AV)
 |lstR (l:List AV)
set_option genCtorIdx true in
inductive AObj where
 |list (l:List AV)
 |dictI (kvs:List (Int×AV))
 |dictT (kvs:List (PV×AV))
 |inst (c:Nat) (attrs:List (Nat×AV))
 |dead
structure St where
 heap:List AObj
 strict:Bool
noncomputable def ob{α β:Type}(o:Option α)(k:α→Option β):Option β:=match o with
 |none=>none
 |some a=>k a
noncomputable def Hd:PV→Bool
 | .none=>true
 |_=>false
noncomputable def eqB(a:Bool):PV→Bool
 | .bool b=>a == b
 | .int b=>(if a then 1 else 0) == b
 |_=>false
noncomputable def eqI(a:Int):PV→Bool
 | .int b=>a == b
 | .bool b=>a == (if b then 1 else 0)
 |_=>false
noncomputable def eqS(a:Str):PV→Bool
 | .str b=>a == b
 |_=>false
noncomputable def qdK:PV→Option (List PV)
 | .tup l=>some l
 |_=>none
noncomputable def qhx:PV→Option (List PV)
 | .lst l=>some l
 |_=>none
mutual
noncomputable def qJ:PV→PV→Bool
 | .none,q=>Hd q
 | .bool a,q=>eqB a q
 | .int a,q=>eqI a q
 | .str a,q=>eqS a q
 | .tup a,q=>match qdK q with
  |some b=>zF a b
  |none=>false
 | .lst a,q=>match qhx q with
  |some b=>zF a b
  |none=>false
noncomputable def zF:List PV→List PV→Bool
 |[],m=>m.isEmpty
 |a::l,m=>match m with
  |[]=>false
  |b::m=>qJ a b&&zF l m
end
theorem qmU(x:PV): qJ PV.none x=Hd x:=rfl
theorem qmV(x:PV)(a:Bool): qJ (PV.bool a) x=eqB a x:=rfl
theorem qmW(x:PV)(a:Int): qJ (PV.int a) x=eqI a x:=rfl
theorem qmX(x:PV)(a:PySem.Str): qJ (PV.str a) x=eqS a x:=rfl
theorem qmY(x:PV)(a:List PV): qJ (PV.tup a) x=match qdK x with | some b=>zF a b | none=>false:=rfl
theorem qmZ(x:PV)(a:List PV): qJ (PV.lst a) x=match qhx x with | some b=>zF a b | none=>false:=rfl
theorem YZ(x:List PV): zF [] x=x.isEmpty:=rfl
theorem Y0(a:PV)(l:List PV): zF (a::l) []=false:=rfl
theorem Y1(a:PV)(l:List PV)(b:PV)(m_1:List PV): zF (a::l) (b::m_1)=(qJ a b&&zF l m_1):=rfl
noncomputable def qnZ(a:Bool):PV→Bool
 | .bool b=>a == b
 |_=>false
noncomputable def qoa(a:Int):PV→Bool
 | .int b=>a == b
 |_=>false
mutual
noncomputable def PV.same:PV→PV→Bool
 | .none,q=>Hd q
 | .bool a,q=>qnZ a q
 | .int a,q=>qoa a q
 | .str a,q=>eqS a q
 | .tup a,q=>match qdK q with
  |some b=>PV.sames a b
  |Option.none=>false
 | .lst a,q=>match qhx q with
  |some b=>PV.sames a b
  |Option.none=>false
noncomputable def PV.sames:List PV→List PV→Bool
 |[],m=>m.isEmpty
 |a::l,m=>match m with
  |[]=>false
  |b::m=>PV.same a b&&PV.sames l m
end
noncomputable def asP:AV→Option PV
 | .pv p=>some p
 |_=>none
noncomputable def qcq:AV→Option Nat
 | .ref i=>some i
 |_=>none
noncomputable def qlq:AV→Option (List AV)
 | .tupR i=>some i
 |_=>none
noncomputable def qlp:AV→Option (List AV)
 | .lstR i=>some i
 |_=>none
mutual
noncomputable def AV.same:AV→AV→Bool
 | .pv a,w=>match asP w with
  |some b=>a.same b
  |none=>false
 | .ref a,w=>match qcq w with
  |some b=>a == b
  |none=>false
 | .tupR a,w=>match qlq w with
  |some b=>AV.sames a b
  |none=>false
 | .lstR a,w=>match qlp w with
  |some b=>AV.sames a b
  |none=>false
noncomputable def AV.sames:List AV→List AV→Bool
 |[],m=>m.isEmpty
 |a::l,m=>match m with
  |[]=>false
  |b::m=>AV.same a b&&AV.sames l m
end
noncomputable def wO:List AV→Option (List PV)
 |[]=>some []
 | .pv p::r=>(wO r).map (p::·)
 |_::_=>none
noncomputable def mkTup(l:List AV):AV:=match wO l with | some ps=>.pv (.tup ps) | none=>.tupR l
noncomputable def mkLst(l:List AV):AV:=match wO l with | some ps=>.pv (.lst ps) | none=>.lstR l
noncomputable def qR(U:St):AV→Option (List AV)
 | .pv (.tup l)=>some (l.map .pv)
 | .pv (.lst l)=>some (l.map .pv)
 | .tupR l=>some l
 | .lstR l=>some l
 | .ref i=>match U.heap[i]? with | some (.list l)=>some l | _=>none
 |_=>none
noncomputable def wd:AV→Bool
 | .pv (.tup _)=>true
 | .tupR _=>true
 |_=>false
noncomputable def zj:AV→Bool
 | .pv (.lst _)=>true
 | .lstR _=>true
 | .ref _=>true
 |_=>false
noncomputable def XW(U:St):AV→Option PV
 | .pv p=>some p
 | .ref i=>match U.heap[i]? with | some (.list l)=>(wO l).map .lst | _=>none
 |_=>none
noncomputable def St.set(U:St)(i:Nat)(o:AObj):St:={ U with heap:=U.heap.set i o }
noncomputable def St.new(U:St)(o:AObj):AV×St:=(.ref U.heap.length,{ U with heap:=U.heap++[o] })
noncomputable def jl:Nat:=100000
set_option genCtorIdx true in
inductive Op where | add | sub | mul | fdiv | mod | pow
set_option genCtorIdx true in
inductive Cmp where | eq | ne | lt | le | gt | ge | inn | notin | is
set_option genCtorIdx true in
inductive BI where | len | abs | int | max1 | min1 | max2 | min2 | tuple | isBool | isTuple | sorted | sortedSet | sortedKeys | list | listRange2 | dict
set_option genCtorIdx true in
inductive BM where | append | extend | get1 | get2
set_option genCtorIdx true in
inductive DK where | t
mutual
inductive CE where
 |none
 |bool (b:Bool)
 |int (i:Int)
 |str (s:Str)
 |var (x:Nat)
 |glob (g:Nat)
 |tup (es:CEs)
 |list (m:Bool) (es:CEs)
 |dict (k:DK) (kvs:CEs)
 |bin (o:Op) (m:Bool) (a b:CE)
 |neg (a:CE)
 |not (a:CE)
 |and (es:CEs)
 |or (es:CEs)
 |cmp (o:Cmp) (a b:CE)
 |ife (t a b:CE)
 |call (f:Nat) (es:CEs)
 |meth (a:CE) (m:Nat) (es:CEs)
 |new (c:Nat) (es:CEs)
 |bm (k:BM) (a:CE) (es:CEs)
 |bi (k:BI) (es:CEs)
 |attr (a:CE) (m:Nat)
 |sub (a i:CE)
 |slice (a:CE) (lo hi:CO)
 |comp (xs:List Nat) (c:CL)
 |fstr (ps:CEs)
 |stuck
inductive CEs where
 |nil
 |cons (e:CE) (r:CEs)
inductive CO where
 |none
 |some (e:CE)
inductive CI where
 |it (e:CE)
 |range1 (a:CE)
 |range2 (a b:CE)
 |zip (a b:CE)
inductive CL where
 |elt (e:CE)
 |cons (t:CT) (it:CI) (ifs:CEs) (more:CL)
inductive CT where
 |nm (x:Nat)
 |tup (ts:CTs)
inductive CTs where
 |nil
 |cons (t:CT) (r:CTs)
end
mutual
inductive CS where
 |assign (t:CT) (e:CE)
 |setAttr (a:CE) (m:Nat) (e:CE)
 |setSub (a i e:CE)
 |expr (e:CE)
 |ret (e:CE)
 |retF (e:CE)
 |retNone
 |ifS (t:CE) (a b:CSs)
 |forS (t:CT) (it:CI) (b:CSs)
 |whileS (t:CE) (b:CSs)
 |superInit (c f x:Nat)
 |stuck
inductive CSs where
 |nil
 |cons (s:CS) (r:CSs)
end
noncomputable abbrev Env:=List (Nat×AV)
noncomputable def Env.get:Env→Nat→Option AV
 |[],_=>none
 |(j,v)::r,i=>bif j == i then some v else Env.get r i
theorem Env.get'1(x:Nat): Env.get [] x=none:=rfl
theorem Env.get'2(x j:Nat)(v:AV)(r:List (Nat×AV)): Env.get ((j,v)::r) x=bif j == x then some v else Env.get r x:=rfl
noncomputable def Env.put(i:Nat)(v:AV):Env→Env
 |[]=>[(i,v)]
 |(j,w)::r=>bif j == i then (i,v)::r else (j,w)::Env.put i v r
theorem Env.put'1(i:Nat)(v:AV): Env.put i v []=[(i,v)]:=rfl
theorem Env.put'2(i:Nat)(v:AV)(j:Nat)(w:AV)(r:List (Nat×AV)): Env.put i v ((j,w)::r)=bif j == i then (i,v)::r else (j,w)::Env.put i v r:=rfl
noncomputable def Env.del(xs:List Nat):Env→Env
 |[]=>[]
 |(j,w)::r=>bif xs.contains j then Env.del xs r else (j,w)::Env.del xs r
theorem Env.del'1(xs:List Nat): Env.del xs []=[]:=rfl
theorem Env.del'2(xs:List Nat)(j:Nat)(w:AV)(r:List (Nat×AV)): Env.del xs ((j,w)::r)=bif xs.contains j then Env.del xs r else (j,w)::Env.del xs r:=rfl
noncomputable abbrev R(α:Type):=Option (α×St)
noncomputable def bnd{α β:Type}(x:R α)(k:α→St→R β):R β:=match x with | none=>none | some (a,s)=>k a s
noncomputable def xQ{α:Type}(x:Option α)(s:St):R α:=match x with | none=>none | some a=>some (a,s)
structure Ctx where
 call:Nat→List AV→St→R AV
 meth:Nat→Nat→Option Nat
 init:Nat→Option (Option Nat)
 glob:Nat→Option PV
noncomputable def xl:AV→Option (List AV)
 | .pv (.tup l)=>some (l.map .pv)
 | .pv (.lst l)=>some (l.map .pv)
 | .tupR l=>some l
 | .lstR l=>some l
 |_=>none
mutual
noncomputable def jC:CT→AV→Env→Option Env
 | .nm x,v,J=>some (J.put x v)
 | .tup ts,v,J=>ob (xl v) λl=>wp ts l J
noncomputable def wp:CTs→List AV→Env→Option Env
 | .nil,l,J=>match l with
  |[]=>some J
  |_::_=>none
 | .cons t r,l,J=>match l with
  |[]=>none
  |v::vs=>ob (jC t v J) λJ'=>wp r vs J'
end
mutual
noncomputable def yG:CT→Env→Bool
 | .nm x,J=>(J.get x).isNone
 | .tup ts,J=>X8 ts J
noncomputable def X8:CTs→Env→Bool
 | .nil,_=>true
 | .cons t r,J=>yG t J&&X8 r J
end
noncomputable def xZ:AV→Option Bool
 | .pv (.bool b)=>some b
 |_=>none
noncomputable def ZD(k:Int)(n:Nat):Option Nat :=
 if 0≤k then (if k<n then some k.toNat else none) else (if 0≤k+n then some (k+n).toNat else none)
noncomputable def xh{κ:Type}[DecidableEq κ](k:κ):List (κ×AV)→Option AV
 |[]=>none
 |(j,v)::r=>if j=k then some v else xh k r
theorem YO{κ:Type}[inst:DecidableEq κ](k:κ): xh k []=none:=rfl
theorem YQ{κ:Type}[inst:DecidableEq κ](k j:κ)(v:AV)(r:List (κ×AV)): xh k ((j,v)::r)=if j=k then some v else xh k r:=rfl
noncomputable def zE(k:PV):List (PV×AV)→Option AV
 |[]=>none
 |(j,v)::r=>bif qJ j k then some v else zE k r
theorem YR(k:PV): zE k []=none:=rfl
theorem YS(k j:PV)(v:AV)(r:List (PV×AV)): zE k ((j,v)::r)=bif qJ j k then some v else zE k r:=rfl
noncomputable def xU{κ:Type}[DecidableEq κ](k:κ)(v:AV):List (κ×AV)→List (κ×AV)
 |[]=>[(k,v)]
 |(j,w)::r=>if j=k then (j,v)::r else (j,w)::xU k v r
theorem XB{κ:Type}[inst:DecidableEq κ](k:κ)(v:AV): xU k v []=[(k,v)]:=rfl
theorem XC{κ:Type}[inst:DecidableEq κ](k:κ)(v:AV)(j:κ)(v_1:AV)(r:List (κ×AV)): xU k v ((j,v_1)::r)=if j=k then (j,v)::r else (j,v_1)::xU k v r:=rfl
noncomputable def kE(k:PV)(v:AV):List (PV×AV)→List (PV×AV)
 |[]=>[(k,v)]
 |(j,w)::r=>bif qJ j k then (j,v)::r else (j,w)::kE k v r
theorem XD(k:PV)(v:AV): kE k v []=[(k,v)]:=rfl
theorem XE(k:PV)(v:AV)(j:PV)(v_1:AV)(r:List (PV×AV)): kE k v ((j,v_1)::r)=bif qJ j k then (j,v)::r else (j,v_1)::kE k v r:=rfl
mutual
noncomputable def xg:PV→Bool
 | .bool _ | .int _ | .str _=>true
 | .none=>false
 | .tup l=>zN l
 | .lst _=>false
noncomputable def zN:List PV→Bool
 |[]=>true
 |a::r=>xg a&&zN r
end
noncomputable def qmo:PV→Bool
 | .tup _=>true
 |_=>false
mutual
noncomputable def ju:PV→Nat
 | .tup l=>jv l+1
 | .lst l=>jv l+1
 |_=>0
noncomputable def jv:List PV→Nat
 |[]=>0
 |a::r=>max (ju a) (jv r)
end
theorem HU:jv []=0:=rfl
theorem HV(b:PV)(m_1:List PV): jv (b::m_1)=max (ju b) (jv m_1):=rfl
noncomputable def onInt{β:Type}(v:AV)(k:Int→Option β):Option β:=match v with
 | .pv (.int i)=>k i
 |_=>none
noncomputable def onStr{β:Type}(v:AV)(k:Str→Option β):Option β:=match v with
 | .pv (.str i)=>k i
 |_=>none
noncomputable def vO{β:Type}(v:AV)(k:Nat→Option β):Option β:=match v with
 | .ref i=>k i
 |_=>none
noncomputable def onL{β:Type}(o:AObj)(k:List AV→Option β):Option β:=match o with
 | .list l=>k l
 |_=>none
noncomputable def Xu{β:Type}(v:AV)(k:List PV→Option β):Option β:=match v with
 | .pv (.tup i)=>k i
 |_=>none
noncomputable def on0{β:Type}(vs:List AV)(k:Option β):Option β:=match vs with
 |[]=>k
 |_::_=>none
noncomputable def kT{β:Type}(vs:List AV)(k:AV→Option β):Option β:=match vs with
 |[]=>none
 |v::r=>on0 r (k v)
noncomputable def BS{β:Type}(vs:List AV)(k:AV→AV→Option β):Option β:=match vs with
 |[]=>none
 |v::r=>kT r (k v)
noncomputable def zM(o:AObj)(k:AV):Option (Option AV):=match o with
 | .dictI kvs=>onInt k λi=>some (xh i kvs)
 | .dictT kvs=>Xu k λl=>if zN l&&decide (jv l<6) then some (zE (.tup l) kvs) else none
 |_=>none
noncomputable def ye(o:AObj)(k v:AV):Option AObj:=match o with
 | .dictI kvs=>onInt k λi=>if kvs.length<jl then some (.dictI (xU i v kvs)) else none
 | .dictT kvs=>Xu k λl=>if kvs.length<jl&&zN l&&decide (jv l<6) then some (.dictT (kE (.tup l) v kvs)) else none
 |_=>none
noncomputable def yz:AV→Bool
 | .pv _=>true
 |_=>false
noncomputable def vT(a:Int):Bool:=decide (a.natAbs<10 ^ 1001)
noncomputable def qlw(o:Op)(a b:Int):Option Int:=match o with
 | .add=>some (a+b)
 | .sub=>some (a - b)
 | .mul=>if vT a&&vT b then some (a * b) else none
 | .fdiv=>if b=0 then none else if b.natAbs<1073741824 then some (a.fdiv b) else none
 | .mod=>if b=0 then none else some (a.fmod b)
 | .pow=>if 0≤b&&decide (b≤1000)&&decide (a=10) then some (a ^ b.toNat) else none
noncomputable def qmk:AV→Bool
 | .pv (.int _)=>true
 |_=>false
noncomputable def qmn:AV→Bool
 | .pv (.str _)=>true
 |_=>false
noncomputable def qiL(m:Bool)(v w:AV)(U:St):R AV:=ob (qR U v) λl=>ob (qR U w) λr =>
   if wd v&&wd w then (if l.length+r.length≤jl then some (mkTup (l++r),U) else none)
   else if zj v&&zj w then (if l.length+r.length≤jl then (if m then some (U.new (.list (l++r))) else some (mkLst (l++r),U)) else none)
   else none
noncomputable def qnN:Op→Bool
 | .add=>true
 |_=>false
noncomputable def kj(o:Op)(m:Bool)(v w:AV)(U:St):R AV :=
 bif qmk v then onInt v λa=>onInt w λb=>ob (qlw o a b) λc=>some (.pv (.int c),U)
 else bif qnN o then (bif qmn v then onStr v λa=>onStr w λb=>if a.length+b.length≤jl then some (.pv (.str (a++b)),U) else none else qiL m v w U) else none
noncomputable def xc(U:St):List AV→Option (List PV)
 |[]=>some []
 |a::r=>match XW U a,xc U r with | some p,some ps=>some (p::ps) | _,_=>none
theorem qaY(U:St): xc U []=some []:=rfl
theorem qaZ(U:St)(b:AV)(m_1:List AV): xc U (b::m_1)=match XW U b,xc U m_1 with | some p,some ps=>some (p::ps) | x,x_1=>none:=rfl
noncomputable def vQ(x:PV):List PV→Bool
 |[]=>false
 |p::r=>qJ p x||vQ x r
theorem qln(x:PV): vQ x []=false:=rfl
theorem qlo(x b:PV)(m_1:List PV): vQ x (b::m_1)=(qJ b x||vQ x m_1):=rfl
noncomputable def qiD(U:St)(x:PV)(l:List AV):Option Bool:=(xc U l).map (vQ x)
noncomputable def X4(v w:AV)(U:St):Option Bool:=ob (XW U v) λp=>ob (XW U w) λq=>if ju p<20||ju q<20 then some (qJ p q) else none
noncomputable def K9(U:St)(v:AV)(l:List AV):Option Bool:=ob (asP v) λp=>if ju p<20 then qiD U p l else none
noncomputable def qiM(U:St)(v:AV)(o:AObj):Option Bool:=match o with
 | .list l=>K9 U v l
 | .dictI kvs=>(zM (.dictI kvs) v).map (·.isSome)
 | .dictT kvs=>(zM (.dictT kvs) v).map (·.isSome)
 | .inst _ _=>none
 | .dead=>none
noncomputable def Qq(v w:AV)(U:St):Option Bool:=match qcq w with
 |some i=>ob (U.heap[i]?) (qiM U v)
 |none=>ob (qR U w) (K9 U v)
noncomputable def YL:AV→Bool
 | .pv .none=>true
 |_=>false
noncomputable def jD(o:Cmp)(v w:AV)(U:St):Option Bool:=match o with
 | .eq=>X4 v w U
 | .ne=>(X4 v w U).map (!·)
 | .lt=>onInt v λa=>onInt w λb=>some (decide (a<b))
 | .le=>onInt v λa=>onInt w λb=>some (decide (a≤b))
 | .gt=>onInt v λa=>onInt w λb=>some (decide (b<a))
 | .ge=>onInt v λa=>onInt w λb=>some (decide (b≤a))
 | .inn=>Qq v w U
 | .notin=>(Qq v w U).map (!·)
 | .is=>bif YL w then some (YL v) else none
noncomputable def z0:List AV→Option (List Int)
 |[]=>some []
 | .pv (.int i)::r=>(z0 r).map (i::·)
 |_::_=>none
noncomputable def qj(l:List Int):List PV:=l.map .int
noncomputable def qnl(l:List Int):Bool:=l.all λi=>decide (0≤i)&&decide (i<32)
noncomputable def qmf(l:List Int):Bool:=match l with
 |[]=>true
 |a::r=>match r with
  |[]=>true
  |b::t=>decide (a<b)&&t.isEmpty
noncomputable def qaf(l:List AV):Option (List PV):=match l with
 |[]=>some []
 |v::r=>if r.isEmpty then ob (asP v) λp=>some [p] else none
noncomputable def wx:Int→List Int→Int
 |a,[]=>a
 |a,b::r=>wx (if a<b then b else a) r
theorem qpD(x:Int): wx x []=x:=rfl
theorem qpE(x b:Int)(r:List Int): wx x (b::r)=wx (if x<b then b else x) r:=rfl
noncomputable def yi:Int→List Int→Int
 |a,[]=>a
 |a,b::r=>yi (if b<a then b else a) r
theorem qpF(x:Int): yi x []=x:=rfl
theorem qpG(x b:Int)(r:List Int): yi x (b::r)=yi (if b<x then b else x) r:=rfl
noncomputable def jN(a b:Int):List Int:=(List.range (b - a).toNat).map λ(k:Nat)=>a+(k:Int)
noncomputable def v7(i:Int):Str:=Str.ofString (toString i)
noncomputable def Yn{α β:Type}(l:List α)(k:α→List α→Option β):Option β:=match l with
 |[]=>none
 |a::r=>k a r
noncomputable def qfD{β:Type}(U:St)(v:AV)(k:Int→List Int→Option β):Option β:=ob (qR U v) λl=>ob (z0 l) λis=>Yn is k
noncomputable def qiV:AV→Option Int
 | .pv (.int a)=>some a
 | .pv (.bool b)=>some (if b then 1 else 0)
 |_=>none
noncomputable def Hb:AV→Option Bool
 | .pv (.bool _)=>some true
 | .pv _=>some false
 |_=>none
noncomputable def Bl:AV→Option Bool
 | .pv p=>some (qmo p)
 |_=>none
noncomputable def BX(l:List AV):Option (List (Int×AV)):=match l with
 |[]=>none
 |x::r=>on0 r (Xu x λq=>match q with
  | .int k::w::[]=>some [(k,.pv w)]
  |_=>none)
noncomputable def qfF(o:AObj):Option (List Int):=match o with
 | .dictI kvs=>if kvs.length≤1 then some (kvs.map (·.1)) else none
 |_=>none
noncomputable def yI(a:Int):Bool:=-1000≤a&&decide (a≤1000)
noncomputable def Xp(U:St)(v:AV):Option (List AV):=if zj v then qR U v else none
noncomputable def qbZ(l:List AV):Option (List Int):=ob (z0 l) λis=>if qmf is&&qnl is then some is else none
noncomputable def yf(k:BI)(vs:List AV)(U:St):R AV:=match k with
 | .len=>kT vs λv=>ob (qR U v) λl=>if l.length≤jl then some (.pv (.int l.length),U) else none
 | .abs=>kT vs λv=>onInt v λa=>some (.pv (.int a.natAbs),U)
 | .int=>kT vs λv=>ob (qiV v) λi=>some (.pv (.int i),U)
 | .max1=>kT vs λv=>qfD U v λa r=>some (.pv (.int (wx a r)),U)
 | .min1=>kT vs λv=>qfD U v λa r=>some (.pv (.int (yi a r)),U)
 | .max2=>BS vs λv w=>onInt v λa=>onInt w λb=>some (.pv (.int (if a<b then b else a)),U)
 | .min2=>BS vs λv w=>onInt v λa=>onInt w λb=>some (.pv (.int (if b<a then b else a)),U)
 | .tuple=>kT vs λv=>ob (Xp U v) λl=>if l.length≤jl then some (mkTup l,U) else none
 | .isBool=>kT vs λv=>ob (Hb v) λb=>some (.pv (.bool b),U)
 | .isTuple=>kT vs λv=>ob (Bl v) λb=>some (.pv (.bool b),U)
 | .sortedKeys=>kT vs λv=>vO v λi=>ob (U.heap[i]?) λo=>ob (qfF o) λl=>some (.pv (.lst (qj l)),U)
 | .list=>kT vs λv=>ob (xl v) λl=>if wd v&&decide (l.length≤jl) then some (mkLst l,U) else none
 | .listRange2=>BS vs λv w=>onInt v λa=>onInt w λb=>if yI a&&yI b then some (.pv (.lst (qj (jN a b))),U) else none
 | .dict=>kT vs λv=>ob (xl v) λl=>if wd v then ob (BX l) λkvs=>some (U.new (.dictI kvs)) else none
 | .sorted=>kT vs λv=>ob (Xp U v) λl=>ob (qaf l) λr=>some (.pv (.lst r),U)
 | .sortedSet=>kT vs λv=>ob (Xp U v) λl=>ob (qbZ l) λis=>some (.pv (.lst (qj is)),U)
noncomputable def get2(U:St)(o:AObj)(k d:AV):R AV:=ob (zM o k) λr=>some (r.getD d,U)
noncomputable def qcE(k:BM)(i:Nat)(o:AObj)(vs:List AV)(U:St):R AV:=match k with
 | .append=>kT vs λv=>onL o λl=>if (yz v||!U.strict)&&decide (l.length<jl) then some (.pv .none,U.set i (.list (l++[v]))) else none
 | .extend=>kT vs λv=>onL o λl=>ob (xl v) λr=>if (r.all yz||!U.strict)&&(decide (l.length+r.length<jl)&&zj v) then some (.pv .none,U.set i (.list (l++r))) else none
 | .get1=>kT vs λk=>get2 U o k (.pv .none)
 | .get2=>BS vs λk d=>get2 U o k d
noncomputable def Zr(k:BM)(a:AV)(vs:List AV)(U:St):R AV:=vO a λi=>ob (U.heap[i]?) λo=>qcE k i o vs U
noncomputable def Bk:AObj→Bool
 | .list _=>true
 |_=>false
noncomputable def Hc:AObj→Bool
 | .dictI _=>true
 | .dictT _=>true
 |_=>false
noncomputable def gj:BM→Bool
 | .append=>true
 | .extend=>true
 |_=>false
noncomputable def Kr(k:BM)(v:AV)(U:St):Bool:=match v with
 | .ref i=>match U.heap[i]? with
  |some o=>bif gj k then Bk o else Hc o
  |none=>false
 |_=>false
noncomputable def k9(m:Nat):List (Nat×AV)→Option AV
 |[]=>none
 |(j,v)::r=>bif j == m then some v else k9 m r
theorem Xd(m:Nat): k9 m []=none:=rfl
theorem Xe(m j:Nat)(v:AV)(r:List (Nat×AV)): k9 m ((j,v)::r)=bif j == m then some v else k9 m r:=rfl
noncomputable def yC(m:Nat)(v:AV):List (Nat×AV)→List (Nat×AV)
 |[]=>[(m,v)]
 |(j,w)::r=>bif j == m then (j,v)::r else (j,w)::yC m v r
theorem Xz(m:Nat)(v:AV): yC m v []=[(m,v)]:=rfl
theorem XA(m:Nat)(v:AV)(j:Nat)(v_1:AV)(r:List (Nat×AV)): yC m v ((j,v_1)::r)=bif j == m then (j,v)::r else (j,v_1)::yC m v r:=rfl
noncomputable def Yo{β:Type}(o:AObj)(k:Nat→List (Nat×AV)→Option β):Option β:=match o with
 | .inst c as=>k c as
 |_=>none
noncomputable def K8(a:AV)(m:Nat)(U:St):Option AV:=vO a λi=>ob (U.heap[i]?) λo=>Yo o λB as=>k9 m as
noncomputable def kf(l:List AV)(i:AV):Option AV:=onInt i λn=>if n.natAbs<1000000000 then bif decide (0≤n) then l[n.toNat]? else ob (ZD n l.length) λj=>l[j]? else none
noncomputable def D2(i:AV)(o:AObj):Option AV:=match o with
 | .list l=>kf l i
 | .dictI kvs=>ob (zM (.dictI kvs) i) id
 | .dictT kvs=>ob (zM (.dictT kvs) i) id
 | .inst _ _=>none
 | .dead=>none
noncomputable def wv(a i:AV)(U:St):Option AV:=match qcq a with
 |some k=>ob (U.heap[k]?) (D2 i)
 |none=>ob (qR U a) λl=>kf l i
noncomputable def yE(v:AV):Option Nat:=onInt v λn=>if 0≤n&&decide (n<1000000) then some n.toNat else none
noncomputable def vg(a:AV)(lo hi:Option AV)(U:St):Option AV:=ob (qR U a) λl=>bif decide (l.length≤jl) then (match hi with
 |none=>ob lo λv=>ob (yE v) λi=>bif wd a then (bif decide (1≤i)&&decide (i≤l.length) then some (mkTup (l.drop i)) else none) else (bif zj a then some (mkLst (l.drop i)) else none)
 |some w=>bif lo.isNone&&zj a then ob (yE w) λn=>some (mkLst (l.take n)) else none) else none
structure Src where
 items:List AV
 held:List (Nat×List AV)
noncomputable def yh(U:St):AV→List (Nat×List AV)
 | .ref i=>match U.heap[i]? with | some (.list l)=>[(i,l)] | _=>[]
 |_=>[]
noncomputable def By(U:St)(x:Nat×List AV):Bool:=match U.heap[x.1]? with | some (.list l)=>AV.sames l x.2 | _=>false
noncomputable def jB(h:List (Nat×List AV))(U:St):Bool:=h.all (By U)
noncomputable def Qa:List AV→List AV→List AV
 |a::l,b::r=>mkTup [a,b]::Qa l r
 |_,_=>[]
noncomputable def wo(v:AV)(U:St):Option Src:=ob (qR U v) λl=>if l.length≤jl then some ⟨l,yh U v⟩ else none
noncomputable def yw(held:List (Nat×List AV))(f:AV→St→R (List AV)):List AV→St→R (List AV)
 |[],s=>some ([],s)
 |x::r,s=>bnd (f x s) λys s'=>bif jB held s' then bnd (yw held f r s') λzs s''=>some (ys++zs,s'') else none
theorem Ka(held:List (Nat×List AV))(f:AV→St→R (List AV))(x:St): yw held f [] x=some ([],x):=rfl
theorem Kb(held:List (Nat×List AV))(f:AV→St→R (List AV))(x:St)(x_2:AV)(r:List AV): yw held f (x_2::r) x=bnd (f x_2 x) λ(ys:List AV) (s':St)=>bif jB held s' then bnd (yw held f r s') λ(zs:List AV) (s'':St)=>some (ys++zs,s'') else none:=rfl
inductive Flow where
 |next
 |ret (v:AV)
noncomputable def jw(held:List (Nat×List AV))(f:AV→Env→St→R (Flow×Env)):List AV→Env→St→R (Flow×Env)
 |[],J,s=>some ((.next,J),s)
 |x::r,J,s=>bnd (f x J s) λfl s'=>match fl with
  |(.ret v,J')=>some ((.ret v,J'),s')
  |(.next,J')=>bif jB held s' then jw held f r J' s' else none
theorem qcG(held:List (Nat×List AV))(f:AV→Env→St→R (Flow×Env))(x:Env)(x_1:St): jw held f [] x x_1=some ((Flow.next,x),x_1):=rfl
theorem qcH(held:List (Nat×List AV))(f:AV→Env→St→R (Flow×Env))(x:Env)(x_1:St)(x_3:AV)(r:List AV): jw held f (x_3::r) x x_1=bnd (f x_3 x x_1) λ(fl:Flow×Env) (s':St)=>match fl with | (Flow.ret v,J')=>some ((Flow.ret v,J'),s') | (Flow.next,J')=>bif jB held s' then jw held f r J' s' else none:=rfl
noncomputable def qat(t:Env→St→R Bool)(f:Env→St→R (Flow×Env)):Nat→Env→St→R (Flow×Env)
 |0,_,_=>none
 |n+1,J,s=>bnd (t J s) λb s'=>bif b then bnd (f J s') λfl s''=>match fl with
   |(.ret v,J')=>some ((.ret v,J'),s'')
   |(.next,J')=>qat t f n J' s''
  else some ((.next,J),s')
noncomputable def qdG(v:AV)(s:St):R Bool:=match xZ v with | some b=>some (b,s) | none=>none
noncomputable def dictOf(k:DK):AObj:=match k with | .t=>.dictT []
noncomputable def Yq:AObj→List AV→Option AObj
 |o,[]=>some o
 |o,k::v::r=>ob (ye o k v) λo'=>Yq o' r
 |_,_=>none
noncomputable def HF(vs:List AV):Option Str:=BS vs λv w=>onStr v λx=>onInt w λi=>if x.length≤1000&&decide (i.natAbs<10 ^ 10) then some (x++v7 i) else none
noncomputable def qml:CEs→Bool
 | .nil=>true
 | .cons _ _=>false
mutual
noncomputable def qt(C:Ctx)(J:Env):CE→St→R AV
 | .none,s=>some (.pv .none,s)
 | .bool b,s=>some (.pv (.bool b),s)
 | .int i,s=>some (.pv (.int i),s)
 | .str x,s=>some (.pv (.str x),s)
 | .var x,s=>xQ (J.get x) s
 | .glob g,s=>ob (C.glob g) λp=>some (.pv p,s)
 | .tup es,s=>bnd (zf C J es s) λvs s=>some (mkTup vs,s)
 | .list m es,s=>bnd (zf C J es s) λvs s=>bif m then some (s.new (.list vs)) else some (mkLst vs,s)
 | .dict k kvs,s=>bnd (zf C J kvs s) λvs s=>ob (Yq (dictOf k) vs) λo=>some (s.new o)
 | .bin o m a b,s=>bnd (qt C J a s) λv s=>bnd (qt C J b s) λw s=>kj o m v w s
 | .neg a,s=>bnd (qt C J a s) λv s=>onInt v λi=>some (.pv (.int (-i)),s)
 | .not a,s=>bnd (qt C J a s) λv s=>ob (xZ v) λb=>some (.pv (.bool (!b)),s)
 | .and es,s=>Qf C J true es s
 | .or es,s=>Qf C J false es s
 | .cmp o a b,s=>bnd (qt C J a s) λv s=>bnd (qt C J b s) λw s=>ob (jD o v w s) λr=>some (.pv (.bool r),s)
 | .ife t a b,s=>bnd (qt C J t s) λv s=>ob (xZ v) λc=>bif c then qt C J a s else qt C J b s
 | .call f es,s=>bnd (zf C J es s) λvs s=>C.call f vs s
 | .meth a m es,s=>bnd (qt C J a s) λv s=>vO v λi=>ob (s.heap[i]?) λo=>Yo o λc as=>ob (C.meth c m) λf=>bif (k9 m as).isNone then bnd (zf C J es s) λvs s=>C.call f (.ref i::vs) s else none
 | .new c es,s=>bnd (zf C J es s) λvs s=>ob (C.init c) λo=>ob o λf=>bif !s.strict then bnd (C.call f (.ref s.heap.length::vs) { s with heap:=s.heap++[.inst c []] }) λv s'=>bif YL v then some (.ref s.heap.length,s') else none else none
 | .bm k a es,s=>bnd (qt C J a s) λv s=>bif Kr k v s then bnd (zf C J es s) λvs s=>Zr k v vs s else none
 | .bi k es,s=>bnd (zf C J es s) λvs s=>yf k vs s
 | .attr a m,s=>bnd (qt C J a s) λv s=>xQ (K8 v m s) s
 | .sub a i,s=>bnd (qt C J a s) λv s=>bnd (qt C J i s) λw s=>xQ (wv v w s) s
 | .slice a lo hi,s=>bnd (qt C J a s) λv s=>bnd (evO C J lo s) λl s=>bnd (evO C J hi s) λh s=>xQ (vg v l h s) s
 | .comp xs c,s=>bnd (xH C (Env.del xs J) c s) λvs s=>if vs.length≤jl then some (mkLst vs,s) else none
 | .fstr ps,s=>bnd (zf C J ps s) λvs s=>ob (HF vs) λx=>some (.pv (.str x),s)
 | .stuck,_=>none
noncomputable def zf(C:Ctx)(J:Env):CEs→St→R (List AV)
 | .nil,s=>some ([],s)
 | .cons e r,s=>bnd (qt C J e s) λv s=>bnd (zf C J r s) λvs s=>some (v::vs,s)
noncomputable def Qf(C:Ctx)(J:Env)(i:Bool):CEs→St→R AV
 | .nil,_=>none
 | .cons e r,s=>bnd (qt C J e s) λv s=>ob (xZ v) λb=>bif qml r then some (.pv (.bool b),s) else bif b == i then Qf C J i r s else some (.pv (.bool b),s)
noncomputable def vf(C:Ctx)(J:Env):CEs→St→R Bool
 | .nil,s=>some (true,s)
 | .cons e r,s=>bnd (qt C J e s) λv s=>ob (xZ v) λc=>bif c then vf C J r s else some (false,s)
noncomputable def evO(C:Ctx)(J:Env):CO→St→R (Option AV)
 | .none,s=>some (none,s)
 | .some e,s=>bnd (qt C J e s) λv s=>some (some v,s)
noncomputable def xG(C:Ctx)(J:Env):CI→St→R Src
 | .it e,s=>bnd (qt C J e s) λv s=>xQ (wo v s) s
 | .range1 a,s=>bnd (qt C J a s) λv s=>onInt v λn=>if -1000≤n&&decide (n≤jl) then some (⟨(qj (jN 0 n)).map .pv,[]⟩,s) else none
 | .range2 a b,s=>bnd (qt C J a s) λv s=>bnd (qt C J b s) λw s=>onInt v λm=>onInt w λn=>if -1000≤m&&decide (m≤1000)&&-1000≤n&&decide (n≤jl) then some (⟨(qj (jN m n)).map .pv,[]⟩,s) else none
 | .zip a b,s=>bnd (qt C J a s) λv s=>bnd (qt C J b s) λw s=>ob (wo v s) λx=>ob (wo w s) λy=>some (⟨Qa x.items y.items,x.held++y.held⟩,s)
noncomputable def xH(C:Ctx)(J:Env):CL→St→R (List AV)
 | .elt e,s=>bnd (qt C J e s) λv s=>some ([v],s)
 | .cons t it ifs more,s=>bnd (xG C J it s) λsrc s=>bif !yG t J then none else
   yw src.held (λx s=>ob (jC t x J) λJ'=>bnd (vf C J' ifs s) λb s=>bif b then xH C J' more s else some ([],s)) src.items s
end
mutual
noncomputable def vz(C:Ctx):CS→Env→St→R (Flow×Env)
 | .assign t e,J,s=>bnd (qt C J e s) λv s=>ob (jC t v J) λJ'=>some ((.next,J'),s)
 | .setAttr a m e,J,s=>bnd (qt C J e s) λv s=>bnd (qt C J a s) λo s=>vO o λi=>ob (s.heap[i]?) λo=>Yo o λc as=>if (yz v||!s.strict)&&decide (as.length<900) then some ((.next,J),s.set i (.inst c (yC m v as))) else none
 | .setSub a i e,J,s=>bnd (qt C J e s) λv s=>bnd (qt C J a s) λo s=>bnd (qt C J i s) λk s=>vO o λj=>ob (s.heap[j]?) λd=>if yz v||!s.strict then ob (ye d k v) λd'=>some ((.next,J),s.set j d') else none
 | .expr e,J,s=>bnd (qt C J e s) λB s=>some ((.next,J),s)
 | .ret e,J,s=>bnd (qt C J e s) λv s=>some ((.ret v,J),s)
 | .retF e,J,s=>bnd (qt C J e s) λv s=>vO v λi=>ob (s.heap[i]?) λo=>onL o λl=>some ((.ret (mkLst l),J),s.set i .dead)
 | .retNone,J,s=>some ((.ret (.pv .none),J),s)
 | .ifS t a b,J,s=>bnd (qt C J t s) λv s=>ob (xZ v) λc=>bif c then qy C a J s else qy C b J s
 | .forS t it b,J,s=>bnd (xG C J it s) λsrc s =>
   jw src.held (λx J s=>ob (jC t x J) λJ'=>qy C b J' s) src.items J s
 | .whileS t b,J,s=>qat (λJ s=>bnd (qt C J t s) qdG) (λJ s=>qy C b J s) 100 J s
 | .superInit c f x,J,s=>ob (J.get x) λv=>vO v λi=>ob (s.heap[i]?) λo=>Yo o λc' B=>if c'=c then bnd (C.call f [.ref i] s) λB s=>some ((.next,J),s) else none
 | .stuck,_,_=>none
noncomputable def qy(C:Ctx):CSs→Env→St→R (Flow×Env)
 | .nil,J,s=>some ((.next,J),s)
 | .cons st r,J,s=>bnd (vz C st J s) λfl s=>match fl with
   |(.ret v,J')=>some ((.ret v,J'),s)
   |(.next,J')=>qy C r J' s
end
structure Fn where
 name:Nat
 params:List Nat
 trim:Bool
 body:CSs
structure Prog where
 fns:List Fn
 meths:List ((Nat×Nat)×Nat)
 inits:List (Nat×Option Nat)
 globs:List (Nat×PV)
noncomputable def Flow.val:Flow→AV
 | .next=>.pv .none
 | .ret v=>v
noncomputable def qH(P:Prog)(call:Nat→List AV→St→R AV):Ctx where
 call:=call
 meth:=λc m=>P.meths.lookup (c,m)
 init:=λc=>P.inits.lookup c
 glob:=λg=>(P.globs[g]?).map (·.2)
noncomputable def qf(P:Prog):Nat→Nat→List AV→St→R AV
 |0,_,_,_=>none
 |d+1,f,vs,s=>match P.fns[f]? with
  |none=>none
  |some fd=>if fd.params.length=vs.length then
    match qy (qH P (qf P d)) fd.body (fd.params.zip vs) { s with strict:=s.strict||fd.trim } with
    |none=>none
    |some ((fl,_),s')=>bif fd.trim then (match fl.val with
      | .pv p=>some (.pv p,{ heap:=s'.heap.take s.heap.length,strict:=s.strict })
      |_=>none)
     else some (fl.val,{ s' with strict:=s.strict })
   else none
theorem qgN(P:Prog)(x:Nat)(x_1:List AV)(x_2:St): qf P 0 x x_1 x_2=none:=rfl
theorem qgO(P:Prog)(x:Nat)(x_1:List AV)(x_2:St)(d:Nat): qf P d.succ x x_1 x_2=match P.fns[x]? with | none=>none | some fd=>if fd.params.length=x_1.length then match qy (qH P (qf P d)) fd.body (fd.params.zip x_1) { heap:=x_2.heap,strict:=x_2.strict||fd.trim } with | none=>none | some ((fl,snd),s')=>bif fd.trim then match fl.val with | AV.pv p=>some (AV.pv p,{ heap:=List.take x_2.heap.length s'.heap,strict:=x_2.strict }) | x=>none else some (fl.val,{ heap:=s'.heap,strict:=x_2.strict }) else none:=rfl
theorem qx{α U:Type}{U1 U2:U}{a b:α}(e:some (a,U1)=some (b,U2)):a=b∧U1=U2:=by injection e with e;injection e with e e1q;subst e;subst e1q;exact⟨rfl,rfl⟩
theorem z8{α β U:Type}{U1 U2:U}{a b:α}{c d:β}(e:some ((a,c),U1)=some ((b,d),U2)):a=b∧c=d∧U1=U2:=by injection e with e;injection e with e e1q;injection e with e e1q;subst e;subst e1q;subst e1q;exact⟨rfl,rfl,rfl⟩
inductive BndSome {α β:Type}(x:R α) (k:α→St→R β) (r:β×St):Prop
 |mk (a:α) (s:St) (e1:x=some (a,s)) (e2:k a s=some r)
theorem qm{α β:Type}{x:R α}{k:α→St→R β}{r:β×St}(h:bnd x k=some r):BndSome x k r:=by
 induction x with
 |none=>injection h
 |some y=>exact⟨y.1,y.2,rfl,h⟩
inductive LiftSome {α:Type}(x:Option α) (s:St) (r:α×St):Prop
 |mk (a:α) (e1:x=some a) (e2:r=(a,s))
theorem y4{α:Type}{x:Option α}{s:St}{r:α×St}(h:xQ x s=some r):LiftSome x s r:=by
 induction x with
 |none=>injection h
 |some a=>exact⟨a,rfl,(qA h).symm⟩
inductive OnSome {α β V:Type}(c:α→V) (v:V) (k:α→Option β) (r:β):Prop
 |mk (i:α) (e1:v=c i) (e2:k i=some r)
theorem jF{β:Type}{v:AV}{k:Int→Option β}{r:β}(e:onInt v k=some r):OnSome (λi=>.pv (.int i)) v k r:=by
 unfold onInt at e;split at e
 ·exact⟨_,rfl,e⟩
 ·injection e
theorem xj{β:Type}{v:AV}{k:List PV→Option β}{r:β}(e:Xu v k=some r):OnSome (λi=>.pv (.tup i)) v k r:=by
 unfold Xu at e;split at e
 ·exact⟨_,rfl,e⟩
 ·injection e
theorem qde{β:Type}{v:AV}{k:Str→Option β}{r:β}(e:onStr v k=some r):OnSome (λi=>.pv (.str i)) v k r:=by
 unfold onStr at e;split at e
 ·exact⟨_,rfl,e⟩
 ·injection e
theorem w0{β:Type}{v:AV}{k:Nat→Option β}{r:β}(e:vO v k=some r):OnSome .ref v k r:=by
 unfold vO at e;split at e
 ·exact⟨_,rfl,e⟩
 ·injection e
theorem KF{β:Type}{v:AObj}{k:List AV→Option β}{r:β}(e:onL v k=some r):OnSome .list v k r:=by
 unfold onL at e;split at e
 ·exact⟨_,rfl,e⟩
 ·injection e
theorem BR{β:Type}{vs:List AV}{k:Option β}{r:β}(e:on0 vs k=some r):vs=[]∧k=some r:=by
 induction vs using List.casesOn with
 |nil=>exact⟨rfl,e⟩
 |cons=>injection e
theorem zI{β:Type}{vs:List AV}{k:AV→Option β}{r:β}(e:kT vs k=some r):OnSome (λv=>[v]) vs k r:=by
 induction vs using List.casesOn with
 |nil=>injection e
 |cons v l=>obtain⟨h,e⟩:=BR e;exact⟨v,by rw[h],e⟩
inductive On2Some {β:Type}(vs:List AV) (k:AV→AV→Option β) (r:β):Prop
 |mk (v w:AV) (e1:vs=[v,w]) (e2:k v w=some r)
theorem ZB{β:Type}{vs:List AV}{k:AV→AV→Option β}{r:β}(e:BS vs k=some r):On2Some vs k r:=by
 induction vs using List.casesOn with
 |nil=>injection e
 |cons v l=>obtain⟨w,h,e⟩:=zI e;exact⟨v,w,by rw[h],e⟩
inductive IfSome {β:Type}(p:Prop) (k:Option β) (r:β):Prop
 |mk (h:p) (e:k=some r)
theorem z7{β:Type}{b:Bool}{k:Option β}{r:β}(e:(bif b then k else none)=some r):IfSome (b=true) k r:=by
 induction b with
 |true=>exact⟨rfl,e⟩
 |false=>injection e
inductive IfSplit {β:Type}(p q:Prop) (x y:Option β) (r:β):Prop
 |inl (h:p) (e:x=some r)
 |inr (h:q) (e:y=some r)
theorem ki{β:Type}{b:Bool}{x y:Option β}{r:β}(e:(bif b then x else y)=some r):IfSplit (b=true) (b=false) x y r:=by
 induction b with
 |true=>exact .inl rfl e
 |false=>exact .inr rfl e
theorem gL{β:Type}{p:Prop}[Decidable p]{x y:Option β}{r:β}(e:(if p then x else y)=some r):IfSplit p (¬ p) x y r:=by
 by_cases h:p
 ·rw[if_pos h] at e;exact .inl h e
 ·rw[if_neg h] at e;exact .inr h e
theorem qI{β:Type}{p:Prop}[Decidable p]{k:Option β}{r:β}(e:(if p then k else none)=some r):IfSome p k r:=by
 by_cases h:p
 ·rw[if_pos h] at e;exact⟨h,e⟩
 ·rw[if_neg h] at e;injection e
theorem qo{α β:Type}{o:Option α}{k:α→Option β}{r:β}(e:ob o k=some r):OnSome some o k r:=by
 induction o with
 |none=>injection e
 |some a=>exact⟨a,rfl,e⟩
inductive InstSome {β:Type}(o:AObj) (k:Nat→List (Nat×AV)→Option β) (r:β):Prop
 |mk (c:Nat) (as:List (Nat×AV)) (e1:o = .inst c as) (e2:k c as=some r)
theorem vD{β:Type}{o:AObj}{k:Nat→List (Nat×AV)→Option β}{r:β}(e:Yo o k=some r):InstSome o k r:=by
 induction o with
 |inst c as=>exact⟨c,as,rfl,e⟩
 |_=>injection e
inductive ConsSome {α β:Type}(l:List α) (k:α→List α→Option β) (r:β):Prop
 |mk (a:α) (s:List α) (e1:l=a::s) (e2:k a s=some r)
theorem Ki{α β:Type}{l:List α}{k:α→List α→Option β}{r:β}(e:Yn l k=some r):ConsSome l k r:=by
 induction l using List.casesOn with
 |nil=>injection e
 |cons a s=>exact⟨a,s,rfl,e⟩
theorem zV(e:xZ v=some b):v = .pv (.bool b):=by
 induction v using Mine.AV.casesOn with
 |pv p=>induction p using Mine.PV.casesOn with
  |bool c=>exact qA e▸rfl
  |_=>injection e
 |_=>injection e
theorem jV{α:Type}{l:List α}{p:α→Bool}(h:l.all p=true){x:α}(hx:x∈l):p x=true:=List.all_eq_true.mp h x hx
theorem not_true(h:(!b)=true):b=false:=by induction b;rfl;injection h
@[elab_as_elim] theorem orEq {α:Type}{q:Prop}{p:α→Prop}{b L:α}(h:b=L∨q) (h1:p L) (h2:q→p b):p b:=h.elim (λe=>e▸h1) h2
@[elab_as_elim] theorem eqOr {α:Type}{q:Prop}{p:α→Prop}{b L:α}(h:q∨b=L) (h2:q→p b) (h1:p L):p b:=h.elim h2 λe=>e▸h1
theorem YT(h:n<2):n=0∨n=1:=by
 rcases n with _ | _ | n
 ·exact .inl rfl
 ·exact .inr rfl
 ·exact absurd (Nat.le_of_succ_le_succ (Nat.le_of_succ_le_succ h)) (Nat.not_succ_le_zero n)
theorem Xj{α:Type}{l:List α}(h:l.length≤1):l=[]∨∃a,l=[a]:=by
 rcases l with _ | ⟨a,_ | ⟨b,t⟩⟩
 ·exact .inl rfl
 ·exact .inr ⟨a,rfl⟩
 ·exact absurd (Nat.le_of_succ_le_succ h) (Nat.not_succ_le_zero _)
theorem Bv{α:Type}{l:List α}(h:l.length≤2):l=[]∨(∃a,l=[a])∨∃a b,l=[a,b]:=by
 rcases l with _ | ⟨a,t⟩
 ·exact .inl rfl
 ·rcases Xj (Nat.le_of_succ_le_succ h) with rfl | ⟨b,rfl⟩
  ·exact .inr (.inl ⟨a,rfl⟩)
  ·exact .inr (.inr ⟨a,b,rfl⟩)
theorem Yz{α:Type}{l:List α}(h:l.length=2):∃a b,l=[a,b]:=by
 rcases Bv (jR h) with rfl | ⟨a,rfl⟩ | e
 ·injection h
 ·injection Nat.succ.inj h
 ·exact e
theorem wZ{G:Prop}(h:∀P:Prop,(G→P)→P):G:=h G id
theorem qc(h:(a&&b)=true):a=true∧b=true:=zp.mp h
theorem PV.ind{P:PV→Prop}{Q:List PV→Prop}(h0:P .none)(h1:∀b,P (.bool b))(h2:∀i,P (.int i))(h3:∀s,P (.str s))(h4:∀l,Q l→P (.tup l))(h5:∀l,Q l→P (.lst l))(h6:Q [])(h7:∀a l,P a→Q l→Q (a::l)):(∀p,P p)∧∀l,Q l:=by
 have p:∀p,P p:=λp=>PV.rec (motive_1:=P) (motive_2:=Q) h0 h1 h2 h3 h4 h5 h6 h7 p;refine⟨p,λl=>?_⟩;induction l with
 |nil=>exact h6
 |cons a l ih=>exact h7 a l (p a) ih
theorem AV.ind{P:AV→Prop}{Q:List AV→Prop}(h0:∀p,P (.pv p))(h1:∀i,P (.ref i))(h4:∀l,Q l→P (.tupR l))(h5:∀l,Q l→P (.lstR l))(h6:Q [])(h7:∀a l,P a→Q l→Q (a::l)):(∀p,P p)∧∀l,Q l:=by
 have p:∀p,P p:=λp=>AV.rec (motive_1:=P) (motive_2:=Q) h0 h1 h4 h5 h6 h7 p;refine⟨p,λl=>?_⟩;induction l with
 |nil=>exact h6
 |cons a l ih=>exact h7 a l (p a) ih
theorem v6(p:PV):qJ p p=true:=(PV.ind (P:=λp=>qJ p p=true) (Q:=λl=>zF l l=true) rfl (λb=>zP b) (λb=>zP b) (λb=>zP b) (λB h=>h) (λB h=>h) rfl λB B a b=>zp.mpr ⟨a,b⟩).1 p
theorem PV.same_refl(p:PV):p.same p=true:=(PV.ind (P:=λp=>p.same p=true) (Q:=λl=>PV.sames l l=true) rfl (λb=>zP b) (λb=>zP b) (λb=>zP b) (λB h=>h) (λB h=>h) rfl λB B a b=>zp.mpr ⟨a,b⟩).1 p
theorem AV.sames_refl(l:List AV):AV.sames l l=true:=(AV.ind (P:=λa=>a.same a=true) (Q:=λl=>AV.sames l l=true) PV.same_refl (λb=>zP b) (λB h=>h) (λB h=>h) rfl λB B a b=>zp.mpr ⟨a,b⟩).2 l
end Mine
end
section

namespace Mine.L1
open PySem
noncomputable def c0:CSs :=
 (.cons (.ret (.ife (.cmp .le (.var 0) (.var 1)) (.tup (.cons (.tup (.cons (.var 0) (.cons (.var 1) .nil))) .nil)) (.tup .nil)))
  .nil)
noncomputable def f0:Fn:=⟨2,[0,1],false,c0⟩
noncomputable def c1:CSs :=
 (.cons (.ret (.sub (.sub (.var 3) (.int 0)) (.int 0)))
  .nil)
noncomputable def f1:Fn:=⟨4,[3],false,c1⟩
noncomputable def c2:CSs :=
 (.cons (.ret (.sub (.sub (.var 3) (.neg (.int 1))) (.int 1)))
  .nil)
noncomputable def f2:Fn:=⟨5,[3],false,c2⟩
noncomputable def c3:CSs :=
 (.cons (.forS (.tup (.cons (.nm 0) (.cons (.nm 1) .nil))) (.it (.var 3)) (.cons (.ifS (.cmp .le (.var 6) (.var 1)) (.cons (.ret (.bi .max2 (.cons (.var 0) (.cons (.var 6) .nil))))
  .nil) .nil)
  .nil))
  (.cons (.ret .none)
  .nil))
noncomputable def f3:Fn:=⟨7,[3,6],false,c3⟩
noncomputable def c4:CSs :=
 (.cons (.ret (.cmp .eq (.call 3 (.cons (.var 3) (.cons (.var 6) .nil))) (.var 6)))
  .nil)
noncomputable def f4:Fn:=⟨8,[3,6],false,c4⟩
noncomputable def c5:CSs :=
 (.cons (.ret (.bi .tuple (.cons (.comp [0,1] (.cons (.tup (.cons (.nm 0) (.cons (.nm 1) .nil))) (.it (.var 3)) (.cons (.cmp .le (.var 0) (.var 9)) .nil) (.elt (.tup (.cons (.var 0) (.cons (.bi .min2 (.cons (.var 1) (.cons (.var 9) .nil))) .nil)))))) .nil)))
  .nil)
noncomputable def f5:Fn:=⟨10,[3,9],false,c5⟩
noncomputable def c6:CSs :=
 (.cons (.ret (.bi .tuple (.cons (.comp [0,1] (.cons (.tup (.cons (.nm 0) (.cons (.nm 1) .nil))) (.it (.var 3)) (.cons (.cmp .ge (.var 1) (.var 9)) .nil) (.elt (.tup (.cons (.bi .max2 (.cons (.var 0) (.cons (.var 9) .nil))) (.cons (.var 1) .nil)))))) .nil)))
  .nil)
noncomputable def f6:Fn:=⟨11,[3,9],false,c6⟩
noncomputable def c7:CSs :=
 (.cons (.ret (.bin .add false (.call 5 (.cons (.var 3) (.cons (.bin .sub false (.var 6) (.int 1)) .nil))) (.call 6 (.cons (.var 3) (.cons (.bin .add false (.var 6) (.int 1)) .nil)))))
  .nil)
noncomputable def f7:Fn:=⟨12,[3,6],false,c7⟩
noncomputable def c8:CSs :=
 (.cons (.setAttr (.var 13) 14 (.list true .nil))
  (.cons (.setAttr (.var 13) 15 (.list true .nil))
  (.cons (.setAttr (.var 13) 16 (.tup (.cons (.str "satisfy") (.cons .none .nil))))
  (.cons (.setAttr (.var 13) 17 (.tup .nil))
  .nil))))
noncomputable def f8:Fn:=⟨18,[13],false,c8⟩
noncomputable def c9:CSs :=
 (.cons (.expr (.bm .append (.attr (.var 13) 14) (.cons (.tup (.cons (.var 19) (.cons (.var 20) .nil))) .nil)))
  (.cons (.ret (.bin .sub false (.bi .len (.cons (.attr (.var 13) 14) .nil)) (.int 1)))
  .nil))
noncomputable def f9:Fn:=⟨21,[13,19,20],false,c9⟩
noncomputable def c10:CSs :=
 (.cons (.expr (.bm .append (.attr (.var 13) 15) (.cons (.var 22) .nil)))
  .nil)
noncomputable def f10:Fn:=⟨23,[13,22],false,c10⟩
noncomputable def c11:CSs :=
 (.cons (.ret (.bi .len (.cons (.attr (.var 13) 14) .nil)))
  .nil)
noncomputable def f11:Fn:=⟨24,[13],false,c11⟩
noncomputable def c12:CSs :=
 (.cons (.ret (.sub (.sub (.attr (.var 13) 14) (.var 25)) (.int 1)))
  .nil)
noncomputable def f12:Fn:=⟨26,[13,25],false,c12⟩
noncomputable def c13:CSs :=
 (.cons (.ifS (.cmp .ge (.bi .abs (.cons (.var 27) .nil)) (.bin .pow false (.int 10) (.glob 0))) (.cons .stuck
  .nil) .nil)
  (.cons (.ret (.var 27))
  .nil))
noncomputable def f13:Fn:=⟨28,[27],false,c13⟩
noncomputable def c14:CSs :=
 (.cons (.ret (.and (.cons (.bi .isTuple (.cons (.var 29) .nil)) (.cons (.cmp .eq (.bi .len (.cons (.var 29) .nil)) (.int 3)) (.cons (.cmp .eq (.sub (.var 29) (.int 0)) (.var 30)) .nil)))))
  .nil)
noncomputable def f14:Fn:=⟨31,[29,30],false,c14⟩
noncomputable def c15:CSs :=
 (.cons .stuck .nil)
noncomputable def f15:Fn:=⟨32,[29],false,c15⟩
noncomputable def c16:CSs :=
 (.cons (.ifS (.call 14 (.cons (.var 29) (.cons (.str "sum") .nil))) (.cons (.ret (.var 29))
  .nil) .nil)
  (.cons (.ifS (.not (.call 14 (.cons (.var 29) (.cons (.str "bit") .nil)))) (.cons (.ret (.tup (.cons (.str "sum") (.cons (.tup .nil) (.cons (.bi .int (.cons (.var 29) .nil)) .nil)))))
  .nil) .nil)
  (.cons (.ret (.ife (.sub (.var 29) (.int 2)) (.tup (.cons (.str "sum") (.cons (.tup (.cons (.tup (.cons (.sub (.var 29) (.int 1)) (.cons (.int 1) .nil))) .nil)) (.cons (.int 0) .nil)))) (.tup (.cons (.str "sum") (.cons (.tup (.cons (.tup (.cons (.sub (.var 29) (.int 1)) (.cons (.neg (.int 1)) .nil))) .nil)) (.cons (.int 1) .nil))))))
  .nil)))
noncomputable def f16:Fn:=⟨33,[29],false,c16⟩
noncomputable def c17:CSs :=
 (.cons (.assign (.tup (.cons (.nm 35) (.cons (.nm 34) .nil))) (.tup (.cons (.call 16 (.cons (.var 35) .nil)) (.cons (.call 16 (.cons (.var 34) .nil)) .nil))))
  (.cons (.assign (.tup (.cons (.nm 37) (.cons (.nm 36) .nil))) (.tup (.cons (.bi .dict (.cons (.sub (.var 35) (.int 1)) .nil)) (.cons (.call 13 (.cons (.bin .add false (.sub (.var 35) (.int 2)) (.bin .mul false (.var 38) (.sub (.var 34) (.int 2)))) .nil)) .nil))))
  (.cons (.forS (.tup (.cons (.nm 25) (.cons (.nm 39) .nil))) (.it (.sub (.var 34) (.int 1))) (.cons (.setSub (.var 37) (.var 25) (.call 13 (.cons (.bin .add false (.bm .get2 (.var 37) (.cons (.var 25) (.cons (.int 0) .nil))) (.bin .mul false (.var 38) (.var 39))) .nil)))
  .nil))
  (.cons (.assign (.nm 40) (.bi .tuple (.cons (.comp [25] (.cons (.nm 25) (.it (.bi .sortedKeys (.cons (.var 37) .nil))) (.cons (.cmp .ne (.sub (.var 37) (.var 25)) (.int 0)) .nil) (.elt (.tup (.cons (.var 25) (.cons (.sub (.var 37) (.var 25)) .nil)))))) .nil)))
  (.cons (.ret (.ife (.cmp .ne (.var 40) (.tup .nil)) (.tup (.cons (.str "sum") (.cons (.var 40) (.cons (.var 36) .nil)))) (.var 36)))
  .nil)))))
noncomputable def f17:Fn:=⟨41,[35,34,38],false,c17⟩
noncomputable def c18:CSs :=
 (.cons (.ret (.ife (.bi .isBool (.cons (.var 42) .nil)) (.not (.var 42)) (.tup (.cons (.str "bit") (.cons (.sub (.var 42) (.int 1)) (.cons (.not (.sub (.var 42) (.int 2))) .nil))))))
  .nil)
noncomputable def f18:Fn:=⟨43,[42],false,c18⟩
noncomputable def c19:CSs :=
 (.cons (.assign (.nm 40) (.int 0))
  (.cons (.forS (.nm 39) (.it (.var 44)) (.cons (.assign (.tup (.cons (.nm 40) (.cons (.nm 45) .nil))) (.tup (.cons (.bi .abs (.cons (.var 39) .nil)) (.cons (.var 40) .nil))))
  (.cons (.whileS (.cmp .gt (.var 45) (.int 0)) (.cons (.assign (.tup (.cons (.nm 40) (.cons (.nm 45) .nil))) (.tup (.cons (.var 45) (.cons (.bin .mod false (.var 40) (.var 45)) .nil))))
  .nil))
  .nil)))
  (.cons (.ret (.var 40))
  .nil)))
noncomputable def f19:Fn:=⟨46,[44],false,c19⟩
noncomputable def c20:CSs :=
 (.cons (.setAttr (.var 13) 47 (.new 0 .nil))
  (.cons (.setAttr (.var 13) 48 (.dict .t .nil))
  .nil))
noncomputable def f20:Fn:=⟨18,[13],false,c20⟩
noncomputable def c21:CSs :=
 (.cons (.assign (.nm 49) (.cmp .notin (.var 50) (.attr (.var 13) 48)))
  (.cons (.ifS (.var 49) (.cons (.forS (.tup (.cons (.nm 0) (.cons (.nm 1) .nil))) (.it (.var 20)) (.cons (.expr (.call 13 (.cons (.bi .max2 (.cons (.bi .abs (.cons (.var 0) .nil)) (.cons (.bi .abs (.cons (.var 1) .nil)) .nil))) .nil)))
  .nil))
  (.cons (.setSub (.attr (.var 13) 48) (.var 50) (.meth (.attr (.var 13) 47) 21 (.cons (.fstr (.cons (.str "#") (.cons (.meth (.attr (.var 13) 47) 24 .nil) .nil))) (.cons (.var 20) .nil))))
  .nil)) .nil)
  (.cons (.ret (.tup (.cons (.sub (.attr (.var 13) 48) (.var 50)) (.cons (.var 49) .nil))))
  .nil)))
noncomputable def f21:Fn:=⟨51,[13,50,20],false,c21⟩
noncomputable def c22:CSs :=
 (.cons (.assign (.nm 52) (.call 16 (.cons (.var 29) .nil)))
  (.cons (.assign (.tup (.cons (.nm 0) (.cons (.nm 1) .nil))) (.tup (.cons (.sub (.var 52) (.int 2)) (.cons (.sub (.var 52) (.int 2)) .nil))))
  (.cons (.forS (.tup (.cons (.nm 25) (.cons (.nm 39) .nil))) (.it (.sub (.var 52) (.int 1))) (.cons (.assign (.nm 53) (.tup (.cons (.bin .mul false (.var 39) (.call 1 (.cons (.meth (.attr (.var 13) 47) 26 (.cons (.var 25) .nil)) .nil))) (.cons (.bin .mul false (.var 39) (.call 2 (.cons (.meth (.attr (.var 13) 47) 26 (.cons (.var 25) .nil)) .nil))) .nil))))
  (.cons (.assign (.tup (.cons (.nm 0) (.cons (.nm 1) .nil))) (.tup (.cons (.bin .add false (.var 0) (.bi .min1 (.cons (.var 53) .nil))) (.cons (.bin .add false (.var 1) (.bi .max1 (.cons (.var 53) .nil))) .nil))))
  .nil)))
  (.cons (.ret (.tup (.cons (.var 0) (.cons (.var 1) .nil))))
  .nil))))
noncomputable def f22:Fn:=⟨54,[13,29],false,c22⟩
noncomputable def DL:CSs :=
 (.cons (.assign (.nm 52) (.call 16 (.cons (.var 29) .nil)))
  (.cons (.ifS (.and (.cons (.cmp .eq (.bi .len (.cons (.sub (.var 52) (.int 1)) .nil)) (.int 1)) (.cons (.cmp .eq (.sub (.sub (.sub (.var 52) (.int 1)) (.int 0)) (.int 1)) (.int 1)) (.cons (.cmp .eq (.sub (.var 52) (.int 2)) (.int 0)) .nil)))) (.cons (.ret (.sub (.sub (.sub (.var 52) (.int 1)) (.int 0)) (.int 0)))
  .nil) .nil)
  (.cons (.assign (.tup (.cons (.nm 0) (.cons (.nm 1) .nil))) (.meth (.var 13) 54 (.cons (.var 52) .nil)))
  (.cons (.assign (.tup (.cons (.nm 25) (.cons (.nm 49) .nil))) (.meth (.var 13) 51 (.cons (.var 52) (.cons (.call 0 (.cons (.var 0) (.cons (.var 1) .nil))) .nil))))
  (.cons (.ifS (.and (.cons (.var 49) (.cons (.cmp .ne (.sub (.var 52) (.int 1)) (.tup .nil)) .nil))) (.cons (.assign (.tup (.cons (.nm 56) (.cons (.nm 55) .nil))) (.tup (.cons (.bin .add false (.comp [57,39] (.cons (.tup (.cons (.nm 57) (.cons (.nm 39) .nil))) (.it (.sub (.var 52) (.int 1))) .nil (.elt (.var 39)))) (.list false (.cons (.neg (.int 1)) .nil))) (.cons (.bin .add false (.comp [57,39] (.cons (.tup (.cons (.nm 57) (.cons (.nm 39) .nil))) (.it (.sub (.var 52) (.int 1))) .nil (.elt (.var 57)))) (.list false (.cons (.var 25) .nil))) .nil))))
  (.cons (.expr (.meth (.attr (.var 13) 47) 23 (.cons (.tup (.cons (.str "linear_eq") (.cons (.bi .tuple (.cons (.var 56) .nil)) (.cons (.bi .tuple (.cons (.var 55) .nil)) (.cons (.neg (.sub (.var 52) (.int 2))) .nil))))) .nil)))
  .nil)) .nil)
  (.cons (.ret (.var 25))
  .nil))))))
noncomputable def f23:Fn:=⟨58,[13,29],false,DL⟩
noncomputable def c24:CSs :=
 (.cons .stuck .nil)
noncomputable def f24:Fn:=⟨59,[13,55],false,c24⟩
noncomputable def c25:CSs :=
 (.cons (.assign (.tup (.cons (.tup (.cons (.nm 0) (.cons (.nm 1) .nil))) (.cons (.nm 52) .nil))) (.tup (.cons (.meth (.var 13) 54 (.cons (.var 29) .nil)) (.cons (.call 16 (.cons (.var 29) .nil)) .nil))))
  (.cons (.ifS (.cmp .eq (.var 30) (.str "linear_le")) (.cons (.ifS (.or (.cons (.cmp .le (.var 1) (.int 0)) (.cons (.cmp .gt (.var 0) (.int 0)) .nil))) (.cons (.ret (.cmp .le (.var 1) (.int 0)))
  .nil) .nil)
  .nil) (.cons (.ifS (.or (.cons (.cmp .gt (.var 0) (.int 0)) (.cons (.cmp .lt (.var 1) (.int 0)) .nil))) (.cons (.ret (.cmp .eq (.var 30) (.str "linear_ne")))
  .nil) (.cons (.ifS (.cmp .eq (.var 0) (.var 1)) (.cons (.ret (.cmp .eq (.var 30) (.str "linear_eq")))
  .nil) .nil)
  .nil))
  .nil))
  (.cons (.assign (.tup (.cons (.nm 61) (.cons (.nm 60) .nil))) (.tup (.cons (.call 19 (.cons (.comp [25,39] (.cons (.tup (.cons (.nm 25) (.cons (.nm 39) .nil))) (.it (.sub (.var 52) (.int 1))) .nil (.elt (.var 39)))) .nil)) (.cons (.neg (.sub (.var 52) (.int 2))) .nil))))
  (.cons (.ifS (.and (.cons (.cmp .ne (.var 30) (.str "linear_le")) (.cons (.cmp .ne (.bin .mod false (.var 60) (.var 61)) (.int 0)) .nil))) (.cons (.ret (.cmp .eq (.var 30) (.str "linear_ne")))
  .nil) .nil)
  (.cons (.ret (.tup (.cons (.var 30) (.cons (.bi .tuple (.cons (.comp [25,39] (.cons (.tup (.cons (.nm 25) (.cons (.nm 39) .nil))) (.it (.sub (.var 52) (.int 1))) .nil (.elt (.bin .fdiv false (.var 39) (.var 61))))) .nil)) (.cons (.bi .tuple (.cons (.comp [25,39] (.cons (.tup (.cons (.nm 25) (.cons (.nm 39) .nil))) (.it (.sub (.var 52) (.int 1))) .nil (.elt (.var 25)))) .nil)) (.cons (.bin .fdiv false (.var 60) (.var 61)) .nil))))))
  .nil)))))
noncomputable def f25:Fn:=⟨62,[13,30,29],false,c25⟩
noncomputable def DM:CSs :=
 (.cons (.assign (.nm 22) (.meth (.var 13) 62 (.cons (.var 30) (.cons (.var 29) .nil))))
  (.cons (.ifS (.bi .isBool (.cons (.var 22) .nil)) (.cons (.ret (.var 22))
  .nil) .nil)
  (.cons (.assign (.tup (.cons (.nm 30) (.cons (.nm 56) (.cons (.nm 55) (.cons (.nm 60) .nil))))) (.var 22))
  (.cons (.ifS (.cmp .eq (.var 30) (.str "linear_ne")) (.cons (.ret (.call 18 (.cons (.meth (.var 13) 63 (.cons (.str "linear_eq") (.cons (.var 29) .nil))) .nil)))
  .nil) .nil)
  (.cons (.assign (.nm 64) (.bi .tuple (.cons (.comp [39] (.cons (.nm 39) (.it (.var 56)) .nil (.elt (.neg (.var 39))))) .nil)))
  (.cons (.ifS (.and (.cons (.cmp .lt (.sub (.var 56) (.int 0)) (.int 0)) (.cons (.cmp .eq (.var 30) (.str "linear_le")) .nil))) (.cons (.ret (.call 18 (.cons (.meth (.var 13) 65 (.cons (.tup (.cons (.var 30) (.cons (.var 64) (.cons (.var 55) (.cons (.bin .sub false (.neg (.var 60)) (.int 1)) .nil))))) .nil)) .nil)))
  .nil) .nil)
  (.cons (.ret (.meth (.var 13) 65 (.cons (.ife (.cmp .gt (.sub (.var 56) (.int 0)) (.int 0)) (.var 22) (.tup (.cons (.var 30) (.cons (.var 64) (.cons (.var 55) (.cons (.neg (.var 60)) .nil)))))) .nil)))
  .nil)))))))
noncomputable def f26:Fn:=⟨63,[13,30,29],false,DM⟩
noncomputable def DN:CSs :=
 (.cons (.assign (.tup (.cons (.nm 30) (.cons (.nm 56) (.cons (.nm 55) (.cons (.nm 60) .nil))))) (.var 22))
  (.cons (.ifS (.and (.cons (.cmp .eq (.var 56) (.tup (.cons (.int 1) .nil))) (.cons (.cmp .eq (.meth (.attr (.var 13) 47) 26 (.cons (.sub (.var 55) (.int 0)) .nil)) (.glob 1)) .nil))) (.cons (.ret (.tup (.cons (.str "bit") (.cons (.sub (.var 55) (.int 0)) (.cons (.and (.cons (.cmp .eq (.var 30) (.str "linear_eq")) (.cons (.cmp .eq (.var 60) (.int 1)) .nil))) .nil)))))
  .nil) .nil)
  (.cons (.assign (.tup (.cons (.nm 66) (.cons (.nm 49) .nil))) (.meth (.var 13) 51 (.cons (.tup (.cons (.str "reif") (.cons (.var 22) .nil))) (.cons (.glob 1) .nil))))
  (.cons (.ifS (.var 49) (.cons (.expr (.meth (.attr (.var 13) 47) 23 (.cons (.tup (.cons (.str "reif") (.cons (.var 66) (.cons (.var 22) .nil)))) .nil)))
  .nil) .nil)
  (.cons (.ret (.tup (.cons (.str "bit") (.cons (.var 66) (.cons (.bool true) .nil)))))
  .nil)))))
noncomputable def f27:Fn:=⟨65,[13,22],false,DN⟩
noncomputable def c28:CSs :=
 (.cons .stuck (.cons .stuck (.cons .stuck (.cons .stuck (.cons .stuck (.cons .stuck (.cons .stuck .nil)))))))
noncomputable def f28:Fn:=⟨67,[13,35,34],false,c28⟩
noncomputable def c29:CSs :=
 (.cons (.ifS (.or (.cons (.cmp .inn (.bool true) (.var 68)) (.cons (.cmp .ne (.comp [42] (.cons (.nm 42) (.it (.var 68)) (.cons (.and (.cons (.cmp .ne (.var 42) (.bool false)) (.cons (.cmp .inn (.call 18 (.cons (.var 42) .nil)) (.var 68)) .nil))) .nil) (.elt (.var 42)))) (.list false .nil)) .nil))) (.cons .retNone
  .nil) .nil)
  (.cons (.assign (.nm 69) (.bi .sorted (.cons (.comp [42] (.cons (.nm 42) (.it (.var 68)) (.cons (.cmp .ne (.var 42) (.bool false)) .nil) (.elt (.var 42)))) .nil)))
  (.cons (.assign (.tup (.cons (.nm 71) (.cons (.nm 70) .nil))) (.tup (.cons (.comp [42] (.cons (.nm 42) (.it (.var 69)) (.cons (.sub (.var 42) (.int 2)) .nil) (.elt (.sub (.var 42) (.int 1))))) (.cons (.comp [42] (.cons (.nm 42) (.it (.var 69)) (.cons (.not (.sub (.var 42) (.int 2))) .nil) (.elt (.sub (.var 42) (.int 1))))) .nil))))
  (.cons (.expr (.meth (.attr (.var 13) 47) 23 (.cons (.tup (.cons (.str "clause") (.cons (.bi .tuple (.cons (.bi .sortedSet (.cons (.var 71) .nil)) .nil)) (.cons (.bi .tuple (.cons (.bi .sortedSet (.cons (.var 70) .nil)) .nil)) .nil)))) .nil)))
  .nil))))
noncomputable def f29:Fn:=⟨72,[13,68],false,c29⟩
noncomputable def c30:CSs :=
 (.cons (.superInit 2 20 13)
  (.cons (.setAttr (.var 13) 73 .none)
  .nil))
noncomputable def f30:Fn:=⟨18,[13],false,c30⟩
noncomputable def DO:CSs :=
 (.cons (.ifS (.cmp .is (.attr (.var 13) 73) .none) (.cons (.expr (.meth (.var 13) 72 (.cons (.list false (.cons (.var 42) .nil)) .nil)))
  .nil) (.cons (.ifS (.cmp .ne (.var 42) (.bool true)) (.cons (.expr (.bm .append (.attr (.var 13) 73) (.cons (.var 42) .nil)))
  .nil) .nil)
  .nil))
  .nil)
noncomputable def f31:Fn:=⟨74,[13,42],false,DO⟩
noncomputable def c32:CSs :=
 (.cons .stuck (.cons .stuck (.cons .stuck .nil)))
noncomputable def f32:Fn:=⟨76,[13,50,20],false,c32⟩
noncomputable def c33:CSs :=
 (.cons .stuck (.cons .stuck (.cons .stuck (.cons .stuck (.cons .stuck (.cons .stuck .nil))))))
noncomputable def f33:Fn:=⟨79,[13,35,34],false,c33⟩
noncomputable def c34:CSs :=
 (.cons (.assign (.nm 57) (.meth (.var 13) 58 (.cons (.var 29) .nil)))
  (.cons (.assign (.nm 20) (.meth (.attr (.var 13) 47) 26 (.cons (.var 57) .nil)))
  (.cons (.ifS (.not (.call 4 (.cons (.var 20) (.cons (.int 0) .nil)))) (.cons (.ret (.var 57))
  .nil) .nil)
  (.cons (.assign (.nm 42) (.meth (.var 13) 63 (.cons (.str "linear_ne") (.cons (.var 29) .nil))))
  (.cons (.expr (.meth (.var 13) 74 (.cons (.var 42) .nil)))
  (.cons (.ret (.ife (.or (.cons (.cmp .is (.attr (.var 13) 73) .none) (.cons (.cmp .eq (.var 42) (.bool true)) .nil))) (.var 57) (.meth (.var 13) 80 (.cons (.var 57) (.cons (.var 42) (.cons (.call 7 (.cons (.var 20) (.cons (.int 0) .nil))) .nil))))))
  .nil))))))
noncomputable def f34:Fn:=⟨81,[13,29],false,c34⟩
noncomputable def c35:CSs :=
 (.cons (.assign (.tup (.cons (.nm 75) (.cons (.nm 49) .nil))) (.meth (.var 13) 51 (.cons (.tup (.cons (.str "stand") (.cons (.var 57) (.cons (.var 42) (.cons (.var 20) .nil))))) (.cons (.var 20) .nil))))
  (.cons (.ifS (.var 49) (.cons (.expr (.meth (.attr (.var 13) 47) 23 (.cons (.tup (.cons (.str "imp") (.cons (.meth (.var 13) 58 (.cons (.var 42) .nil)) (.cons (.tup (.cons (.str "linear_eq") (.cons (.tup (.cons (.int 1) (.cons (.neg (.int 1)) .nil))) (.cons (.tup (.cons (.var 75) (.cons (.var 57) .nil))) (.cons (.int 0) .nil))))) .nil)))) .nil)))
  (.cons (.expr (.meth (.attr (.var 13) 47) 23 (.cons (.tup (.cons (.str "imp") (.cons (.meth (.var 13) 58 (.cons (.call 18 (.cons (.var 42) .nil)) .nil)) (.cons (.tup (.cons (.str "linear_eq") (.cons (.tup (.cons (.int 1) .nil)) (.cons (.tup (.cons (.var 75) .nil)) (.cons (.call 1 (.cons (.var 20) .nil)) .nil))))) .nil)))) .nil)))
  .nil)) .nil)
  (.cons (.ret (.var 75))
  .nil)))
noncomputable def f35:Fn:=⟨80,[13,57,42,20],false,c35⟩
noncomputable def c36:CSs :=
 (.cons .stuck (.cons .stuck .nil))
noncomputable def f36:Fn:=⟨82,[13,35,34],false,c36⟩
noncomputable def c37:CSs :=
 (.cons (.ifS (.cmp .inn (.var 83) (.tup (.cons (.str "=") (.cons (.str "!=") .nil)))) (.cons .stuck
  .nil) .nil)
  (.cons (.ifS (.cmp .inn (.var 83) (.tup (.cons (.str ">") (.cons (.str ">=") .nil)))) (.cons .stuck
  .nil) .nil)
  (.cons (.ret (.meth (.var 13) 63 (.cons (.str "linear_le") (.cons (.call 17 (.cons (.call 17 (.cons (.var 35) (.cons (.var 34) (.cons (.neg (.int 1)) .nil)))) (.cons (.ife (.cmp .eq (.var 83) (.str "<")) (.int 1) (.int 0)) (.cons (.int 1) .nil)))) .nil))))
  .nil)))
noncomputable def f37:Fn:=⟨84,[13,83,35,34],false,c37⟩
noncomputable def c38:CSs :=
 (.cons (.assign (.nm 40) (.list true .nil))
  (.cons (.forS (.tup (.cons (.nm 0) (.cons (.nm 1) .nil))) (.it (.var 20)) (.cons (.expr (.bm .extend (.var 40) (.cons (.bi .listRange2 (.cons (.var 0) (.cons (.bin .add false (.var 1) (.int 1)) .nil))) .nil)))
  .nil))
  (.cons (.retF (.var 40))
  .nil)))
noncomputable def f38:Fn:=⟨85,[20],true,c38⟩
noncomputable def c39:CSs :=
 (.cons (.assign (.nm 86) (.bi .tuple (.cons (.comp [75,87] (.cons (.tup (.cons (.nm 75) (.cons (.nm 87) .nil))) (.it (.tup (.cons (.tup (.cons (.int 0) (.cons (.var 39) .nil))) (.cons (.tup (.cons (.int 1) (.cons (.var 66) .nil))) .nil)))) (.cons (.cmp .ne (.var 87) (.int 0)) .nil) (.elt (.tup (.cons (.var 75) (.cons (.var 87) .nil)))))) .nil)))
  (.cons (.ret (.ife (.cmp .ne (.var 86) (.tup .nil)) (.tup (.cons (.str "sum") (.cons (.var 86) (.cons (.var 60) .nil)))) (.var 60)))
  .nil))
noncomputable def f39:Fn:=⟨88,[39,66,60],false,c39⟩
noncomputable def c40:CSs :=
 (.cons (.assign (.nm 89) (.bm .get1 (.dict .t (.cons (.tup (.cons (.int 1) (.cons (.int 0) (.cons (.int 0) .nil)))) (.cons (.sub (.var 90) (.int 0)) (.cons (.tup (.cons (.int 0) (.cons (.int 1) (.cons (.int 0) .nil)))) (.cons (.sub (.var 90) (.int 1)) .nil))))) (.cons (.var 44) .nil)))
  (.cons (.assign (.nm 55) (.ife (.cmp .is (.var 89) .none) (.bi .listRange2 (.cons (.bi .min1 (.cons (.var 91) .nil)) (.cons (.bin .add false (.bi .max1 (.cons (.var 91) .nil)) (.int 1)) .nil))) (.var 89)))
  (.cons (.ret (.bi .min1 (.cons (.comp [6] (.cons (.nm 6) (.it (.var 55)) (.cons (.cmp .ne (.var 6) (.int 0)) .nil) (.elt (.var 6)))) .nil)))
  .nil)))
noncomputable def f40:Fn:=⟨92,[44,91,90],false,c40⟩
noncomputable def DP:CSs :=
 (.cons (.ifS (.cmp .eq (.sub (.var 22) (.int 0)) (.str "clause")) (.cons (.ret (.bin .add false (.bi .list (.cons (.sub (.var 22) (.int 1)) .nil)) (.bi .list (.cons (.sub (.var 22) (.int 2)) .nil))))
  .nil) .nil)
  (.cons (.ifS (.cmp .eq (.sub (.var 22) (.int 0)) (.str "linear_eq")) (.cons (.ret (.bi .list (.cons (.sub (.var 22) (.int 2)) .nil)))
  .nil) .nil)
  (.cons (.ret (.bin .add false (.list false (.cons (.sub (.var 22) (.int 1)) .nil)) (.bi .list (.cons (.sub (.sub (.var 22) (.int 2)) (.int 2)) .nil))))
  .nil)))
noncomputable def f41:Fn:=⟨93,[22],false,DP⟩
noncomputable def c42:CSs :=
 (.cons (.ifS (.cmp .eq (.sub (.var 22) (.int 0)) (.str "clause")) (.cons (.ret (.or (.cons (.cmp .ne (.comp [75] (.cons (.nm 75) (.it (.sub (.var 22) (.int 1))) (.cons (.cmp .eq (.sub (.var 94) (.var 75)) (.int 1)) .nil) (.elt (.var 75)))) (.list false .nil)) (.cons (.cmp .ne (.comp [75] (.cons (.nm 75) (.it (.sub (.var 22) (.int 2))) (.cons (.cmp .eq (.sub (.var 94) (.var 75)) (.int 0)) .nil) (.elt (.var 75)))) (.list false .nil)) .nil))))
  .nil) .nil)
  (.cons (.assign (.tup (.cons (.nm 30) (.cons (.nm 56) (.cons (.nm 55) (.cons (.nm 60) .nil))))) (.ife (.cmp .eq (.sub (.var 22) (.int 0)) (.str "linear_eq")) (.var 22) (.sub (.var 22) (.int 2))))
  (.cons (.assign (.nm 52) (.int 0))
  (.cons (.forS (.tup (.cons (.nm 95) (.cons (.nm 75) .nil))) (.zip (.var 56) (.var 55)) (.cons (.assign (.nm 52) (.bin .add false (.var 52) (.bin .mul false (.var 95) (.sub (.var 94) (.var 75)))))
  .nil))
  (.cons (.assign (.nm 96) (.ife (.cmp .eq (.var 30) (.str "linear_le")) (.cmp .le (.var 52) (.var 60)) (.cmp .eq (.var 52) (.var 60))))
  (.cons (.ifS (.cmp .eq (.sub (.var 22) (.int 0)) (.str "linear_eq")) (.cons (.ret (.var 96))
  .nil) .nil)
  (.cons (.ret (.ife (.cmp .eq (.sub (.var 22) (.int 0)) (.str "reif")) (.cmp .eq (.var 96) (.cmp .eq (.sub (.var 94) (.sub (.var 22) (.int 1))) (.int 1))) (.or (.cons (.var 96) (.cons (.cmp .eq (.sub (.var 94) (.sub (.var 22) (.int 1))) (.int 0)) .nil)))))
  .nil)))))))
noncomputable def f42:Fn:=⟨97,[22,94],false,c42⟩
noncomputable def c43:CSs :=
 (.cons (.assign (.nm 40) (.list false (.cons (.list false (.cons (.var 25) (.cons (.var 57) .nil))) .nil)))
  (.cons (.forS (.nm 75) (.range2 (.int 1) (.meth (.var 47) 24 .nil)) (.cons (.assign (.nm 98) (.list true .nil))
  (.cons (.forS (.nm 94) (.it (.var 40)) (.cons (.forS (.nm 6) (.it (.ife (.cmp .eq (.var 75) (.int 1)) (.list false (.cons .none .nil)) (.call 38 (.cons (.meth (.var 47) 26 (.cons (.var 75) .nil)) .nil)))) (.cons (.assign (.nm 99) (.ife (.cmp .is (.var 6) .none) (.var 94) (.bin .add false (.var 94) (.list false (.cons (.var 6) .nil)))))
  (.cons (.ifS (.cmp .eq (.comp [22] (.cons (.nm 22) (.it (.sub (.var 100) (.var 75))) (.cons (.not (.call 42 (.cons (.var 22) (.cons (.var 99) .nil)))) .nil) (.elt (.var 22)))) (.list false .nil)) (.cons (.expr (.bm .append (.var 98) (.cons (.var 99) .nil)))
  .nil) .nil)
  .nil)))
  .nil))
  (.cons (.assign (.nm 40) (.var 98))
  .nil))))
  (.cons (.retF (.var 40))
  .nil)))
noncomputable def f43:Fn:=⟨101,[47,100,25,57],true,c43⟩
noncomputable def c44:CSs :=
 (.cons (.ret (.ife (.bi .isBool (.cons (.var 42) .nil)) (.var 42) (.cmp .eq (.cmp .eq (.sub (.var 94) (.sub (.var 42) (.int 1))) (.int 1)) (.sub (.var 42) (.int 2)))))
  .nil)
noncomputable def f44:Fn:=⟨102,[42,94],false,c44⟩
noncomputable def Bo:CSs :=
 (.cons (.expr (.meth (.attr (.var 106) 47) 21 (.cons (.var 19) (.cons (.var 20) .nil))))
  .nil)
noncomputable def Bp:CS :=
 (.assign (.tup (.cons (.nm 39) (.cons (.nm 66) (.cons (.nm 60) .nil)))) (.tup (.cons (.sub (.var 87) (.bin .mod false (.sub (.var 103) (.var 9)) (.int 4))) (.cons (.sub (.var 87) (.bin .mod false (.sub (.var 103) (.bin .add false (.var 9) (.int 1))) (.int 4))) (.cons (.bin .sub false (.bin .mod false (.sub (.var 103) (.bin .add false (.var 9) (.int 2))) (.int 3)) (.int 1)) .nil)))))
noncomputable def Bq:CS :=
 (.assign (.nm 60) (.ife (.and (.cons (.cmp .eq (.var 60) (.int 0)) (.cons (.cmp .eq (.comp [6,109] (.cons (.nm 6) (.it (.sub (.var 90) (.int 0))) .nil (.cons (.nm 109) (.it (.sub (.var 90) (.int 1))) (.cons (.cmp .ne (.bin .add false (.bin .mul false (.var 39) (.var 6)) (.bin .mul false (.var 66) (.var 109))) (.int 0)) .nil) (.elt (.var 6))))) (.list false .nil)) .nil))) (.int 1) (.var 60)))
noncomputable def Yc:CS :=
 (.assign (.nm 111) (.meth (.var 106) 81 (.cons (.call 39 (.cons (.var 39) (.cons (.var 66) (.cons (.var 60) .nil)))) .nil)))
noncomputable def Br:CS :=
 (.assign (.nm 91) (.comp [6,109] (.cons (.nm 6) (.it (.sub (.var 90) (.int 0))) .nil (.cons (.nm 109) (.it (.sub (.var 90) (.int 1))) .nil (.elt (.bin .add false (.bin .add false (.bin .mul false (.var 39) (.var 6)) (.bin .mul false (.var 66) (.var 109))) (.var 60)))))))
noncomputable def Bs:CS :=
 (.expr (.bm .append (.var 107) (.cons (.tup (.cons (.tup (.cons (.var 39) (.cons (.var 66) (.cons (.var 60) .nil)))) (.cons (.var 111) (.cons (.ife (.var 108) (.list false .nil) (.slice (.attr (.var 106) 73) (.some (.var 110)) .none)) (.cons (.call 40 (.cons (.tup (.cons (.var 39) (.cons (.var 66) (.cons (.var 60) .nil)))) (.cons (.var 91) (.cons (.var 90) .nil)))) .nil))))) .nil)))
noncomputable def vC:CSs :=
 (.cons Bp
  (.cons Bq
  (.cons (.assign (.nm 110) (.ife (.var 108) (.int 0) (.bi .len (.cons (.attr (.var 106) 73) .nil))))
  (.cons Yc
  (.cons Br
  (.cons Bs
  .nil))))))
noncomputable def xP:CS :=
 (.expr (.bm .append (.sub (.var 100) (.bi .max1 (.cons (.bin .add false (.call 41 (.cons (.var 22) .nil)) (.list false (.cons (.int 1) .nil))) .nil))) (.cons (.var 22) .nil)))
noncomputable def Bt:CS :=
 (.ifS (.cmp .ne (.sub (.var 94) (.var 75)) (.ife (.cmp .ne (.var 120) (.int 0)) (.var 120) (.var 112))) (.cons (.ret (.bool false))
  .nil) .nil)
noncomputable def Bu:CS :=
 (.ifS (.and (.cons (.not (.var 108)) (.cons (.cmp .ne (.cmp .notin (.bool false) (.comp [35] (.cons (.nm 35) (.it (.var 55)) .nil (.elt (.call 44 (.cons (.var 35) (.cons (.var 94) .nil))))))) (.cmp .ne (.var 120) (.int 0))) .nil))) (.cons (.ret (.bool false))
  .nil) .nil)
noncomputable def qbK:CS :=
 (.ifS (.cmp .ne (.sub (.var 94) (.var 117)) (.ife (.cmp .le (.var 25) (.var 116)) (.var 25) (.var 0))) (.cons (.ret (.bool false))
  .nil) .nil)
noncomputable def Hi:CS :=
 (.forS (.tup (.cons (.nm 120) (.cons (.tup (.cons (.tup (.cons (.nm 39) (.cons (.nm 66) (.cons (.nm 60) .nil)))) (.cons (.nm 75) (.cons (.nm 55) (.cons (.nm 112) .nil))))) .nil))) (.zip (.var 118) (.var 107)) (.cons Bt
  (.cons Bu
  .nil)))
noncomputable def Hj:CS :=
 (.assign (.nm 118) (.comp [39,66,60,75,55,112] (.cons (.tup (.cons (.tup (.cons (.nm 39) (.cons (.nm 66) (.cons (.nm 60) .nil)))) (.cons (.nm 75) (.cons (.nm 55) (.cons (.nm 112) .nil))))) (.it (.var 107)) .nil (.elt (.bin .add false (.bin .add false (.bin .mul false (.var 39) (.var 25)) (.bin .mul false (.var 66) (.var 57))) (.var 60))))))
noncomputable def Hk:CS :=
 (.ifS (.cmp .ne (.bi .len (.cons (.var 119) .nil)) (.bi .int (.cons (.or (.cons (.not (.var 108)) (.cons (.cmp .notin (.int 0) (.var 118)) .nil))) .nil))) (.cons (.ret (.bool false))
  .nil) .nil)
noncomputable def QM:CSs :=
 (.cons Hj
  (.cons (.assign (.nm 119) (.call 43 (.cons (.attr (.var 106) 47) (.cons (.var 100) (.cons (.var 25) (.cons (.var 57) .nil))))))
  (.cons Hk
  (.cons (.forS (.nm 94) (.it (.var 119)) (.cons qbK
  (.cons Hi
  .nil)))
  .nil))))
noncomputable def xp:CSs :=
 (.cons (.forS (.nm 57) (.it (.sub (.var 90) (.int 1))) QM)
  .nil)
noncomputable def Hl:CS :=
 (.assign (.nm 103) (.comp [9] (.cons (.nm 9) (.range1 (.int 10)) .nil (.elt (.ife (.cmp .lt (.var 9) (.bi .len (.cons (.var 104) .nil))) (.sub (.var 104) (.var 9)) (.bin .add false (.bin .add false (.bin .add false (.bin .mul false (.var 9) (.var 9)) (.bin .mul false (.int 4) (.var 9))) (.int 2)) (.bin .mul false (.int 3) (.bi .len (.cons (.var 104) .nil)))))))))
noncomputable def Hm:CS :=
 (.assign (.nm 105) (.tup (.cons (.sub (.glob 3) (.bin .mod false (.sub (.var 103) (.int 7)) (.int 6))) (.cons (.sub (.glob 3) (.bin .mod false (.sub (.var 103) (.int 8)) (.int 6))) .nil))))
noncomputable def Hn:CS :=
 (.assign (.tup (.cons (.nm 90) (.cons (.nm 106) (.cons (.nm 87) .nil)))) (.tup (.cons (.comp [20] (.cons (.nm 20) (.it (.var 105)) .nil (.elt (.call 38 (.cons (.var 20) .nil))))) (.cons (.new 2 .nil) (.cons (.tup (.cons (.int 1) (.cons (.int 0) (.cons (.neg (.int 1)) (.cons (.int 2) .nil))))) .nil)))))
noncomputable def Ho:CS :=
 (.forS (.tup (.cons (.nm 19) (.cons (.nm 20) .nil))) (.zip (.tup (.cons (.str "x") (.cons (.str "y") .nil))) (.var 105)) Bo)
noncomputable def Hp:CS :=
 (.assign (.tup (.cons (.nm 108) (.cons (.nm 107) .nil))) (.tup (.cons (.cmp .eq (.bin .mod false (.sub (.var 103) (.int 0)) (.int 2)) (.int 1)) (.cons (.list true .nil) .nil))))
noncomputable def gk:CS :=
 (.assign (.tup (.cons (.nm 114) (.cons (.tup (.cons (.nm 44) (.cons (.nm 111) (.cons (.nm 113) (.cons (.nm 112) .nil))))) .nil))) (.tup (.cons (.meth (.attr (.var 106) 47) 24 .nil) (.cons (.sub (.var 107) (.int 0)) .nil))))
noncomputable def gn:CS :=
 (.assign (.nm 115) (.meth (.var 106) 81 (.cons (.call 39 (.cons (.sub (.var 44) (.int 0)) (.cons (.sub (.var 44) (.int 1)) (.cons (.sub (.var 44) (.int 2)) .nil)))) .nil)))
noncomputable def gp:CS :=
 (.ifS (.or (.cons (.cmp .ne (.var 115) (.var 111)) (.cons (.cmp .ne (.meth (.attr (.var 106) 47) 24 .nil) (.var 114)) (.cons (.and (.cons (.not (.var 108)) (.cons (.cmp .ne (.slice (.attr (.var 106) 73) (.some (.var 110)) .none) (.var 113)) .nil))) .nil)))) (.cons (.ret (.bool false))
  .nil) .nil)
noncomputable def xr:CS :=
 (.assign (.tup (.cons (.nm 116) (.cons (.nm 0) (.cons (.nm 1) .nil)))) (.tup (.cons (.bin .sub false (.bin .mod false (.sub (.var 103) (.int 9)) (.int 5)) (.int 2)) (.cons (.bin .sub false (.sub (.sub (.var 90) (.int 0)) (.int 0)) (.int 1)) (.cons (.bin .add false (.sub (.sub (.var 90) (.int 0)) (.neg (.int 1))) (.int 1)) .nil)))))
noncomputable def xt:CS :=
 (.assign (.nm 42) (.meth (.var 106) 84 (.cons (.str "<=") (.cons (.tup (.cons (.str "sum") (.cons (.tup (.cons (.tup (.cons (.int 0) (.cons (.int 1) .nil))) .nil)) (.cons (.int 0) .nil)))) (.cons (.var 116) .nil)))))
noncomputable def xu:CS :=
 (.assign (.nm 117) (.meth (.var 106) 80 (.cons (.int 0) (.cons (.var 42) (.cons (.tup (.cons (.tup (.cons (.var 0) (.cons (.var 1) .nil))) .nil)) .nil)))))
noncomputable def xw:CS :=
 (.assign (.nm 100) (.comp [75] (.cons (.nm 75) (.range1 (.meth (.attr (.var 106) 47) 24 .nil)) .nil (.elt (.list true .nil)))))
noncomputable def qbJ:CSs :=
 (.cons Hl
  (.cons Hm
  (.cons Hn
  (.cons Ho
  (.cons Hp
  (.cons (.setAttr (.var 106) 73 (.ife (.var 108) .none (.list true .nil)))
  (.cons (.forS (.nm 9) (.it (.tup (.cons (.int 1) (.cons (.int 4) .nil)))) vC)
  (.cons gk
  (.cons (.assign (.nm 110) (.ife (.var 108) (.int 0) (.bi .len (.cons (.attr (.var 106) 73) .nil))))
  (.cons gn
  (.cons gp
  (.cons xr
  (.cons xt
  (.cons xu
  (.cons xw
  (.cons (.forS (.nm 22) (.it (.attr (.attr (.var 106) 47) 15)) (.cons xP
  .nil))
  (.cons (.forS (.nm 25) (.it (.sub (.var 90) (.int 0))) xp)
  (.cons (.ret (.bool true))
  .nil))))))))))))))))))
noncomputable def c45:CSs :=
 qbJ
noncomputable def f45:Fn:=⟨121,[104],false,c45⟩
noncomputable def P:Prog:={
 fns:=[f0,f1,f2,f3,f4,f5,f6,f7,f8,f9,f10,f11,f12,f13,f14,f15,f16,f17,f18,f19,f20,f21,f22,f23,f24,f25,f26,f27,f28,f29,f30,f31,f32,f33,f34,f35,f36,f37,f38,f39,f40,f41,f42,f43,f44,f45],
 meths:=[((0,21),9),((0,23),10),((0,24),11),((0,26),12),((1,51),21),((1,54),22),((1,58),23),((1,59),24),((1,62),25),((1,63),26),((1,65),27),((1,67),28),((1,72),29),((2,74),31),((2,76),32),((2,79),33),((2,81),34),((2,80),35),((2,82),36),((2,84),37),((2,51),21),((2,54),22),((2,58),23),((2,59),24),((2,62),25),((2,63),26),((2,65),27),((2,67),28),((2,72),29)],
 inits:=[(0,some 8),(1,some 20),(2,some 30)],
 globs:=[(122,(.int 1000)),
  (123,(.tup [(.tup [(.int 0),(.int 1)])])),
  (122,(.int 1000)),
  (125,(.tup [(.tup [(.tup [(.int 0),(.int 1)])]),(.tup [(.tup [(.int (-1)),(.int (-1))]),(.tup [(.int 1),(.int 1)])]),(.tup [(.tup [(.int (-1)),(.int 0)])]),(.tup [(.tup [(.int 0),(.int 0)]),(.tup [(.int 2),(.int 2)])]),(.tup [(.tup [(.int (-2)),(.int (-2))]),(.tup [(.int 0),(.int 0)])]),(.tup [(.tup [(.int 1),(.int 2)])])]))] }
noncomputable def nm:List Str:=(["low", "high", "range_of", "d", "least", "greatest", "v", "next_from", "has", "k", "up_to", "from_on", "without", "self", "vars", "tolds", "goal", "shown", "__init__", "name", "domain", "new_var", "told", "post", "size", "x", "domain_of", "number", "within_figures", "value", "kind", "is_made", "is_truth", "sum_of", "other", "one", "constant", "parts", "factor", "a", "found", "plus", "truth", "contrary", "numbers", "rest", "common_of", "flat", "made", "is_new", "key", "once", "total", "ends", "bounds", "some", "coefs", "y", "var_of", "vars_of", "c", "common", "row", "row_truth", "turned", "told_truth", "b", "unlike", "truths", "bits", "downs", "ups", "require_some", "partial", "note", "z", "made_number", "p", "q", "times", "stand_in", "above_or_below", "equal", "sign", "compared", "_law_listed", "pairs", "many", "_law_value", "lone", "lists", "reached", "_law_least", "_law_vars_of", "here", "coef", "inner", "_law_is_met", "late", "more", "by_last", "_law_all_ways", "_law_truth", "picks", "script", "domains", "maker", "asked", "is_top", "w", "begun", "told_var", "floor", "noted", "often", "again", "edge", "last", "dues", "ways", "due", "law", "MOST_SHOWN", "TRUTHS", "TURNED", "_law_domains", "Flat", "Gatherer", "Functions"]:List String).map Str.ofString
end Mine.L1
end
section
open PySem PySem.W PyProof.Rows
open PySem PySem.W PySem.SeqAt PyProof.Rows
open PySem PySem.W PySem.SeqAt PyProof.Rows PySem.Calls
namespace Mine
noncomputable def opK:Op→Operator
 | .add=>.Add
 | .sub=>.Sub
 | .mul=>.Mult
 | .fdiv=>.FloorDiv
 | .mod=>.Mod
 | .pow=>.Pow
noncomputable def qcz:Cmp→CmpOp
 | .eq=>.Eq
 | .ne=>.NotEq
 | .lt=>.Lt
 | .le=>.LtE
 | .gt=>.Gt
 | .ge=>.GtE
 | .inn=>.In
 | .notin=>.NotIn
 | .is=>.Is
noncomputable abbrev qv:=List (Str×NameKind)
structure Cfg where
 nm:List Str
 gf:List (Str×Nat)
 gc:List (Str×Nat)
 globs:List (Nat×PV)
 dat:List Nat
 meths:List Str
noncomputable def Zv(sc:qv)(x:Str):Bool:=decide (sc.lookup x=some .local∨sc.lookup x=some .cell∨sc.lookup x=some .free)&&!(x == ("__debug__" : Str))&&!(x == ("__classdict__" : Str))
noncomputable def jW(sc:qv)(x:Str):Bool:=decide (sc.lookup x=some .globalImplicit)&&!(x == ("__debug__" : Str))
noncomputable def w9(C:Cfg)(i:Nat)(x:Str):Bool:=decide (C.nm[i]? = some x)
noncomputable def Z5:BI→Str
 | .len => "len"
 | .abs => "abs"
 | .int => "int"
 | .max1 => "max"
 | .max2 => "max"
 | .min1 => "min"
 | .min2 => "min"
 | .tuple => "tuple"
 | .isBool => "isinstance"
 | .isTuple => "isinstance"
 | .sortedKeys => "sorted"
 | .list => "list"
 | .listRange2 => "list"
 | .dict => "dict"
 | .sorted => "sorted"
 | .sortedSet => "sorted"
noncomputable def QB:BM→Str
 | .append => "append"
 | .extend => "extend"
 | .get1 => "get"
 | .get2 => "get"
noncomputable def w5(names sc:qv):qv:=names.map λ(n,k)=>if (k == .free&&sc.lookup n == some .cell) then (n,.cell) else (n,k)
noncomputable def Dt(k:ScopeKind):Bool:=match k with | .function=>true | _=>false
noncomputable def qmp(s:Scope)(sc:qv)(x:Str×NameKind):Bool:=decide (x.2 = .cell→s.names.lookup x.1=some .cell)&&decide (x.2 = .local→s.names.lookup x.1=some .local)&&decide (x.2 = .free→sc.lookup x.1=some .cell∨sc.lookup x.1=some .free)
noncomputable def Y2(s:Scope)(sc:qv):Bool:=Dt s.kind&&s.names.all (qmp s sc)
noncomputable def qcB(C:Cfg)(xs:List Nat)(names:qv):Bool:=names.all λx=>!decide (x.2 = .local∨x.2 = .cell)||(xs.any (λi=>w9 C i x.1)||!C.nm.any (· == x.1))
noncomputable def QZ(x:Expr):Option {v:Const×Nat×Pos // x = .Constant v.1 v.2.1 v.2.2}:=by induction x using Expr.casesOn with | Constant c q p=>exact some ⟨(c,q,p),rfl⟩ | _=>exact none
noncomputable def zA(x:Expr):Option {v:Str×Pos // x = .Name v.1 v.2}:=by induction x using Expr.casesOn with | Name n p=>exact some ⟨(n,p),rfl⟩ | _=>exact none
noncomputable def vq(x:Expr):Option {v:List Expr×Nat×Pos // x = .Tuple v.1 v.2.1 v.2.2}:=by induction x using Expr.casesOn with | Tuple a k p=>exact some ⟨(a,k,p),rfl⟩ | _=>exact none
noncomputable def qnd(x:Expr):Option {v:List Expr×Pos // x = .List v.1 v.2}:=by induction x using Expr.casesOn with | List a p=>exact some ⟨(a,p),rfl⟩ | _=>exact none
noncomputable def qnc(x:Expr):Option {v:List (Option Expr)×List Expr×Pos // x = .Dict v.1 v.2.1 v.2.2}:=by induction x using Expr.casesOn with | Dict a b p=>exact some ⟨(a,b,p),rfl⟩ | _=>exact none
noncomputable def qnP(x:Expr):Option {v:Expr×Operator×Expr×Pos // x = .BinOp v.1 v.2.1 v.2.2.1 v.2.2.2}:=by induction x using Expr.casesOn with | BinOp a o b p=>exact some ⟨(a,o,b,p),rfl⟩ | _=>exact none
noncomputable def qne(x:Expr):Option {v:UnaryOp×Expr×Pos // x = .UnaryOp v.1 v.2.1 v.2.2}:=by induction x using Expr.casesOn with | UnaryOp o a p=>exact some ⟨(o,a,p),rfl⟩ | _=>exact none
noncomputable def qfT(x:Expr):Option {v:BoolOp×List Expr×Pos // x = .BoolOp v.1 v.2.1 v.2.2}:=by induction x using Expr.casesOn with | BoolOp o a p=>exact some ⟨(o,a,p),rfl⟩ | _=>exact none
noncomputable def qnQ(x:Expr):Option {v:Expr×List CmpOp×List Expr×Pos // x = .Compare v.1 v.2.1 v.2.2.1 v.2.2.2}:=by induction x using Expr.casesOn with | Compare a o b p=>exact some ⟨(a,o,b,p),rfl⟩ | _=>exact none
noncomputable def qoJ(x:Expr):Option {v:Expr×Expr×Expr×Pos // x = .IfExp v.1 v.2.1 v.2.2.1 v.2.2.2}:=by induction x using Expr.casesOn with | IfExp a b c p=>exact some ⟨(a,b,c,p),rfl⟩ | _=>exact none
noncomputable def wJ(x:Expr):Option {v:Expr×List Expr×List Keyword×Pos // x = .Call v.1 v.2.1 v.2.2.1 v.2.2.2}:=by induction x using Expr.casesOn with | Call a b k p=>exact some ⟨(a,b,k,p),rfl⟩ | _=>exact none
noncomputable def QY(x:Expr):Option {v:Expr×Str×Pos // x = .Attribute v.1 v.2.1 v.2.2}:=by induction x using Expr.casesOn with | Attribute a n p=>exact some ⟨(a,n,p),rfl⟩ | _=>exact none
noncomputable def qdr(x:Expr):Option {v:Expr×Expr×Pos // x = .Subscript v.1 v.2.1 v.2.2}:=by induction x using Expr.casesOn with | Subscript a b p=>exact some ⟨(a,b,p),rfl⟩ | _=>exact none
noncomputable def qbV(x:Expr):Option {v:Option Expr×Option Expr×Option Expr×Pos // x = .Slice v.1 v.2.1 v.2.2.1 v.2.2.2}:=by induction x using Expr.casesOn with | Slice a b c p=>exact some ⟨(a,b,c,p),rfl⟩ | _=>exact none
noncomputable def qnb(x:Expr):Option {v:Expr×List Comprehension×Scope×Pos // x = .ListComp v.1 v.2.1 v.2.2.1 v.2.2.2}:=by induction x using Expr.casesOn with | ListComp a g s p=>exact some ⟨(a,g,s,p),rfl⟩ | _=>exact none
noncomputable def qhQ(x:Expr):Option {v:List Expr×Pos // x = .JoinedStr v.1 v.2}:=by induction x using Expr.casesOn with | JoinedStr a p=>exact some ⟨(a,p),rfl⟩ | _=>exact none
noncomputable def qnR(x:Expr):Option {v:Expr×Int×Option Expr×Pos // x = .FormattedValue v.1 v.2.1 v.2.2.1 v.2.2.2}:=by induction x using Expr.casesOn with | FormattedValue a i s p=>exact some ⟨(a,i,s,p),rfl⟩ | _=>exact none
noncomputable def ZE(x:Stmt):Option {v:List Expr×Expr×Pos // x = .Assign v.1 v.2.1 v.2.2}:=by induction x using Stmt.casesOn with | Assign a b p=>exact some ⟨(a,b,p),rfl⟩ | _=>exact none
noncomputable def qbU(x:Stmt):Option {v:Expr×Pos // x = .Expr v.1 v.2}:=by induction x using Stmt.casesOn with | Expr a p=>exact some ⟨(a,p),rfl⟩ | _=>exact none
noncomputable def KK(x:Stmt):Option {v:Option Expr×Pos // x = .Return v.1 v.2}:=by induction x using Stmt.casesOn with | Return a p=>exact some ⟨(a,p),rfl⟩ | _=>exact none
noncomputable def qnT(x:Stmt):Option {v:Expr×List Stmt×List Stmt×Pos // x = .If v.1 v.2.1 v.2.2.1 v.2.2.2}:=by induction x using Stmt.casesOn with | If a b c p=>exact some ⟨(a,b,c,p),rfl⟩ | _=>exact none
noncomputable def qnS(x:Stmt):Option {v:Expr×Expr×List Stmt×List Stmt×Pos // x = .For v.1 v.2.1 v.2.2.1 v.2.2.2.1 v.2.2.2.2}:=by induction x using Stmt.casesOn with | For a b c d p=>exact some ⟨(a,b,c,d,p),rfl⟩ | _=>exact none
noncomputable def qkD(x:Stmt):Option {v:Expr×List Stmt×List Stmt×Pos // x = .While v.1 v.2.1 v.2.2.1 v.2.2.2}:=by induction x using Stmt.casesOn with | While a b c p=>exact some ⟨(a,b,c,p),rfl⟩ | _=>exact none
noncomputable def on{α:Type}(o:Option α)(k:α→Bool):Bool:=match o with
 |some a=>k a
 |none=>false
noncomputable def Qw{α:Type}:(l:List α)→Option {a:α // l=[a]}
 |[]=>none
 |[a]=>some ⟨a,rfl⟩
 |_::_::_=>none
noncomputable def HJ{α:Type}:(l:List α)→Option {a:α×α // l=[a.1,a.2]}
 |[]=>none
 |[_]=>none
 |[a,b]=>some ⟨(a,b),rfl⟩
 |_::_::_::_=>none
noncomputable def Zp{α:Type}:(l:List α)→Option {a:α×List α // l=a.1::a.2}
 |[]=>none
 |a::r=>some ⟨(a,r),rfl⟩
noncomputable def YW(sc:qv)(x:Str):Bool:=decide (sc.lookup x≠some .free)
noncomputable def wg{α:Type}:(l:List α)→Option (PLift (l=[]))
 |[]=>some ⟨rfl⟩
 |_::_=>none
noncomputable def YK{α:Type}:(l:Option α)→Option (PLift (l=none))
 |none=>some ⟨rfl⟩
 |some _=>none
noncomputable def qdw{α:Type}:(l:Option α)→Option {a:α // l=some a}
 |none=>none
 |some a=>some ⟨a,rfl⟩
noncomputable def qbj: (r:List Comprehension)→Option {v:Expr×Expr×List Expr×List Comprehension // r=⟨v.1,v.2.1,v.2.2.1,0⟩::v.2.2.2}
 |[]=>none
 |⟨t,i,f,a⟩::r=>if h:a=0 then some ⟨(t,i,f,r),by rw[h]⟩ else none
noncomputable def qfL: (ks:List (Option Expr))→(vs:List Expr)→Option {l:List (Expr×Expr) // ks=l.map (λq=>some q.1)∧vs=l.map (·.2)}
 |[],[]=>some ⟨[],rfl,rfl⟩
 |some k::ks,v::vs=>(match qfL ks vs with
  |some ⟨l,h1,h2⟩=>some ⟨(k,v)::l,by rw[h1];rfl,by rw[h2];rfl⟩
  |none=>none)
 |_,_=>none
noncomputable def X6(t:Str)(sc:qv)(xs:List Expr):Option {y:Expr×Pos // xs=[y.1,.Name t y.2]∧jW sc t=true}:=match HJ xs with
 |none=>none
 |some ⟨(a,b),e⟩=>match zA b with
  |none=>none
  |some ⟨(n,p),e2⟩=>if h:n=t∧jW sc t=true then some ⟨(a,p),by rw[e];dsimp only;rw[e2,←h.1],h.2⟩ else none
noncomputable def X5(t:Str)(sc:qv)(xs:List Expr):Option {y:List Expr×Pos×Pos // xs=[.Call (.Name t y.2.1) y.1 [] y.2.2]∧jW sc t=true}:=match Qw xs with
 |none=>none
 |some ⟨a,e⟩=>match wJ a with
  |none=>none
  |some ⟨(f,ys,ks,q),e2⟩=>match zA f,wg ks with
   |some ⟨(n,p),e3⟩,some ⟨e4⟩=>if h:n=t∧jW sc t=true then some ⟨(ys,p,q),by rw[e,e2];dsimp only;rw[e3,←h.1,e4],h.2⟩ else none
   |_,_=>none
noncomputable def yy(k:BI)(args:List Expr)(sc:qv):Option (List Expr):=match k with
 | .isBool=>match X6 "bool" sc args with | some y=>some [y.1.1] | none=>none
 | .isTuple=>match X6 "tuple" sc args with | some y=>some [y.1.1] | none=>none
 | .listRange2=>match X5 "range" sc args with | some y=>some y.1.1 | none=>none
 | .sortedSet=>match X5 "set" sc args with | some y=>some y.1.1 | none=>none
 | .len=>some args
 | .abs=>some args
 | .int=>some args
 | .max1=>some args
 | .min1=>some args
 | .max2=>some args
 | .min2=>some args
 | .tuple=>some args
 | .sortedKeys=>some args
 | .list=>some args
 | .dict=>some args
 | .sorted=>some args
noncomputable def qcO(sc:qv)(x:Str):Bool:=decide (sc.lookup x=some .local)
noncomputable def Du(sc:qv)(x:Str):Bool:=decide (sc.lookup x=some .local∨sc.lookup x=some .cell)
mutual
noncomputable def qcV(sc:qv):CT→Expr→Bool
 | .nm _,x=>on (zA x) λv=>qcO sc v.1.1
 | .tup ts,x=>on (vq x) λv=>qcW sc ts v.1.1
noncomputable def qcW(sc:qv):CTs→List Expr→Bool
 | .nil,_=>true
 | .cons t r,xs=>on (Zp xs) λv=>qcV sc t v.1.1&&qcW sc r v.1.2
end
mutual
noncomputable def BA(sc:qv):CT→Expr→Bool
 | .nm _,x=>on (zA x) λv=>Du sc v.1.1
 | .tup ts,x=>on (vq x) λv=>qcU sc ts v.1.1
noncomputable def qcU(sc:qv):CTs→List Expr→Bool
 | .nil,_=>true
 | .cons t r,xs=>on (Zp xs) λv=>BA sc t v.1.1&&qcU sc r v.1.2
end
noncomputable def qmm(x:Expr):Bool:=by induction x using Expr.casesOn with | Set=>exact true | _=>exact false
noncomputable def qka(x:Expr):Bool:=by induction x using Expr.casesOn with | Starred=>exact true | _=>exact false
noncomputable def qhE(x:Expr):Bool:=by induction x using Expr.casesOn with | SetComp=>exact false | DictComp=>exact false | _=>exact true
noncomputable def QR(x:Expr):Bool:=!qmm x
noncomputable def jf:List Expr→Bool
 |[]=>true
 |x::r=>!qka x&&jf r
noncomputable def qjY(x:Expr):Bool:=(zA x).isSome
noncomputable def xT(x:Expr):Bool:=(qbV x).isNone
noncomputable def wW(x:Expr):Bool:=match wJ x with
 |none=>true
 |some v=>!(qjY v.1.1&&v.1.2.1.isEmpty&&v.1.2.2.1.isEmpty)
noncomputable def qdB(e:CE):Option {y:Str // e = .str y}:=match e with
 | .str y=>some ⟨y,rfl⟩
 |_=>none
noncomputable def qeZ:CEs→Bool
 | .nil=>false
 | .cons e _=>(qdB e).isSome
noncomputable def D7(C:Cfg)(gi:Nat)(y:Str):Bool:=match C.globs[gi]? with
 |some p=>w9 C p.1 y
 |none=>false
mutual
noncomputable def qC(C:Cfg):CE→qv→Expr→Bool
 | .stuck,_,_=>true
 | .none,_,x=>on (QZ x) λv=>decide (v.1.1 = .none)
 | .bool b,_,x=>on (QZ x) λv=>decide (v.1.1 = .bool b)
 | .int i,_,x=>on (QZ x) λv=>decide (v.1.1 = .int i)
 | .str y,_,x=>on (QZ x) λv=>decide (v.1.1 = .str y)
 | .var i,sc,x=>on (zA x) λv=>w9 C i v.1.1&&Zv sc v.1.1
 | .glob gi,sc,x=>on (zA x) λv=>jW sc v.1.1&&D7 C gi v.1.1
 | .tup es,sc,x=>on (vq x) λv=>jf v.1.1&&decide (v.1.1.length≤1000)&&jn C es sc v.1.1
 | .list _ es,sc,x=>on (qnd x) λv=>jf v.1.1&&decide (v.1.1.length≤1000)&&jn C es sc v.1.1
 | .dict _ es,sc,x=>on (qnc x) λv=>on (qfL v.1.1 v.1.2.1) λl=>decide (l.1.length≤2)&&jn C es sc (l.1.flatMap λq=>[q.1,q.2])
 | .bin o _ a b,sc,x=>on (qnP x) λv=>decide (v.1.2.1=opK o)&&qC C a sc v.1.1&&qC C b sc v.1.2.2.1
 | .neg a,sc,x=>on (qne x) λv=>decide (v.1.1 = .USub)&&qC C a sc v.1.2.1
 | .not a,sc,x=>on (qne x) λv=>decide (v.1.1 = .Not)&&qC C a sc v.1.2.1
 | .and es,sc,x=>on (qfT x) λv=>decide (v.1.1 = .And)&&jn C es sc v.1.2.1
 | .or es,sc,x=>on (qfT x) λv=>decide (v.1.1 = .Or)&&jn C es sc v.1.2.1
 | .cmp o a b,sc,x=>on (qnQ x) λv=>on (Qw v.1.2.1) λop=>on (Qw v.1.2.2.1) λy=>decide (op.1=qcz o)&&QR y.1&&qC C a sc v.1.1&&qC C b sc y.1
 | .ife t a b,sc,x=>on (qoJ x) λv=>qC C t sc v.1.1&&qC C a sc v.1.2.1&&qC C b sc v.1.2.2.1
 | .call f es,sc,x=>on (wJ x) λv=>on (wg v.1.2.2.1) λB=>on (zA v.1.1) λn=>jW sc n.1.1&&decide (C.gf.lookup n.1.1=some f)&&jf v.1.2.1&&decide (v.1.2.1.length<30)&&jn C es sc v.1.2.1
 | .new c es,sc,x=>on (wJ x) λv=>on (wg v.1.2.2.1) λB=>on (zA v.1.1) λn=>jW sc n.1.1&&decide (C.gc.lookup n.1.1=some c)&&jf v.1.2.1&&decide (v.1.2.1.length<30)&&jn C es sc v.1.2.1
 | .meth a m es,sc,x=>on (wJ x) λv=>on (wg v.1.2.2.1) λB=>on (QY v.1.1) λn=>w9 C m n.1.2.1&&wW n.1.1&&decide (n.1.2.2.endLine=v.1.2.2.2.line)&&jf v.1.2.1&&decide (v.1.2.1.length<30)&&qC C a sc n.1.1&&jn C es sc v.1.2.1
 | .bm k a es,sc,x=>on (wJ x) λv=>on (wg v.1.2.2.1) λB=>on (QY v.1.1) λn=>decide (n.1.2.1=QB k)&&wW n.1.1&&decide (n.1.2.2.endLine=v.1.2.2.2.line)&&jf v.1.2.1&&decide (v.1.2.1.length<30)&&qC C a sc n.1.1&&jn C es sc v.1.2.1
 | .bi k es,sc,x=>on (wJ x) λv=>on (wg v.1.2.2.1) λB=>on (zA v.1.1) λn=>jW sc n.1.1&&decide (n.1.1=Z5 k)&&jf v.1.2.1&&on (yy k v.1.2.1 sc) (λys=>jf ys&&jn C es sc ys)
 | .attr a m,sc,x=>on (QY x) λv=>w9 C m v.1.2.1&&C.dat.contains m&&wW v.1.1&&qC C a sc v.1.1
 | .sub a i,sc,x=>on (qdr x) λv=>xT v.1.2.1&&qC C a sc v.1.1&&qC C i sc v.1.2.1
 | .slice a lo hi,sc,x=>on (qdr x) λv=>on (qbV v.1.2.1) λu=>on (YK u.1.2.2.1) λB=>qC C a sc v.1.1&&DQ C lo sc u.1.1&&DQ C hi sc u.1.2.1
 | .comp xs c,sc,x=>on (qnb x) λv=>Y2 v.1.2.2.1 sc&&qcB C xs v.1.2.2.1.names&&on (qbj v.1.2.1) λw=>qcy C c sc (w5 v.1.2.2.1.names sc) v.1.2.2.1.names v.1.1 w.1.1 w.1.2.1 w.1.2.2.1 w.1.2.2.2
 | .fstr es,sc,x=>on (qhQ x) λv=>on (HJ v.1.1) λu=>on (qnR u.1.2) λf=>qeZ es&&on (YK f.1.2.2.1) λB=>decide (f.1.2.1 = -1)&&jn C es sc [u.1.1,f.1.1]
noncomputable def jn(C:Cfg):CEs→qv→List Expr→Bool
 | .nil,_,xs=>on (wg xs) λB=>true
 | .cons e r,sc,xs=>on (Zp xs) λv=>qC C e sc v.1.1&&jn C r sc v.1.2
noncomputable def DQ(C:Cfg):CO→qv→Option Expr→Bool
 | .none,_,x=>on (YK x) λB=>true
 | .some e,sc,x=>on (qdw x) λv=>qC C e sc v.1
noncomputable def Zm(C:Cfg):CI→qv→Expr→Expr→Bool
 | .it e,sc,_,x=>QR x&&qC C e sc x
 | .range1 a,sc,_,x=>on (wJ x) λv=>on (wg v.1.2.2.1) λB=>on (zA v.1.1) λn=>on (Qw v.1.2.1) λy=>decide (n.1.1=("range" : Str))&&jW sc n.1.1&&jf [y.1]&&qC C a sc y.1
 | .range2 a b,sc,_,x=>on (wJ x) λv=>on (wg v.1.2.2.1) λB=>on (zA v.1.1) λn=>on (HJ v.1.2.1) λy=>decide (n.1.1=("range" : Str))&&jW sc n.1.1&&jf [y.1.1,y.1.2]&&qC C a sc y.1.1&&qC C b sc y.1.2
 | .zip a b,sc,tx,x=>on (vq tx) λB=>on (wJ x) λv=>on (wg v.1.2.2.1) λB=>on (zA v.1.1) λn=>on (HJ v.1.2.1) λy=>decide (n.1.1=("zip" : Str))&&jW sc n.1.1&&jf [y.1.1,y.1.2]&&qC C a sc y.1.1&&qC C b sc y.1.2
noncomputable def QD(C:Cfg):CL→qv→Expr→List Comprehension→Bool
 | .elt e,sc,elt,r=>on (wg r) λB=>qC C e sc elt
 | .cons t it ifs more,sc,elt,r=>on (qbj r) λv=>yd C t sc v.1.1&&qcV sc t v.1.1&&Zm C it sc v.1.1 v.1.2.1&&jn C ifs sc v.1.2.2.1&&QD C more sc elt v.1.2.2.2
noncomputable def qcy(C:Cfg):CL→qv→qv→qv→Expr→Expr→Expr→List Expr→List Comprehension→Bool
 | .elt _,_,_,_,_,_,_,_,_=>false
 | .cons t it ifs more,sc,sc',own,elt,tx,ix,fs,r=>yd C t sc' tx&&BA own t tx&&Zm C it sc tx ix&&jn C ifs sc' fs&&QD C more sc' elt r
noncomputable def yd(C:Cfg):CT→qv→Expr→Bool
 | .nm i,sc,x=>on (zA x) λv=>w9 C i v.1.1&&Zv sc v.1.1&&YW sc v.1.1
 | .tup ts,sc,x=>on (vq x) λv=>jf v.1.1&&vM C ts sc v.1.1
noncomputable def vM(C:Cfg):CTs→qv→List Expr→Bool
 | .nil,_,xs=>on (wg xs) λB=>true
 | .cons t r,sc,xs=>on (Zp xs) λv=>yd C t sc v.1.1&&vM C r sc v.1.2
end
noncomputable def xx:CTs→Option (List Nat)
 | .nil=>some []
 | .cons (.nm i) r=>(xx r).map (i::·)
 | .cons _ _=>none
noncomputable def xS:List Nat→Bool
 |[]=>true
 |a::r=>!r.contains a&&xS r
noncomputable def Dz(vs:List Expr):Bool:=vs.all (foldedForSure 8)||!vs.all (constantsAlone 8)
noncomputable def Yk:Option (List Nat)→Bool
 |some l=>xS l
 |none=>true
noncomputable def qnz(t:CT)(x:Expr):Bool:=match t with
 | .nm _=>true
 | .tup ts=>match vq x with
  |some v=>Dz v.1.1&&Yk (xx ts)
  |none=>true
mutual
noncomputable def k6(C:Cfg):CS→qv→Stmt→Bool
 | .assign t e,sc,x=>on (ZE x) λv=>on (Qw v.1.1) λtx=>yd C t sc tx.1&&qC C e sc v.1.2.1&&qnz t v.1.2.1&&qhE v.1.2.1
 | .setAttr a m e,sc,x=>on (ZE x) λv=>on (Qw v.1.1) λtx=>on (QY tx.1) λu=>w9 C m u.1.2.1&&C.dat.contains m&&qC C a sc u.1.1&&qC C e sc v.1.2.1
 | .setSub a i e,sc,x=>on (ZE x) λv=>on (Qw v.1.1) λtx=>on (qdr tx.1) λu=>xT u.1.2.1&&qC C a sc u.1.1&&qC C i sc u.1.2.1&&qC C e sc v.1.2.1
 | .expr e,sc,x=>on (qbU x) λv=>on (wJ v.1.1) λB=>qC C e sc v.1.1
 | .ret e,sc,x=>on (KK x) λv=>on (qdw v.1.1) λy=>qC C e sc y.1
 | .retF e,sc,x=>on (KK x) λv=>on (qdw v.1.1) λy=>qC C e sc y.1
 | .retNone,_,x=>on (KK x) λv=>on (YK v.1.1) λB=>true
 | .ifS t a b,sc,x=>on (qnT x) λv=>qC C t sc v.1.1&&wY C a sc v.1.2.1&&wY C b sc v.1.2.2.1
 | .forS t it b,sc,x=>on (qnS x) λv=>on (wg v.1.2.2.2.1) λB=>yd C t sc v.1.1&&Zm C it sc v.1.1 v.1.2.1&&wY C b sc v.1.2.2.1
 | .whileS t b,sc,x=>on (qkD x) λv=>on (wg v.1.2.2.1) λB=>qC C t sc v.1.1&&wY C b sc v.1.2.1
 | .superInit _ _ _,_,_=>false
 | .stuck,_,_=>true
noncomputable def wY(C:Cfg):CSs→qv→List Stmt→Bool
 | .nil,_,xs=>on (wg xs) λB=>true
 | .cons s r,sc,xs=>on (Zp xs) λv=>k6 C s sc v.1.1&&wY C r sc v.1.2
end
noncomputable def wu:List (Str×Value):=[("len", .builtin "len"),("abs", .builtin "abs"),("max", .builtin "max"),("min", .builtin "min"),("isinstance", .builtin "isinstance"),("sorted", .builtin "sorted"),
 ("int", .type "int"),("str", .type "str"),("tuple", .type "tuple"),("list", .type "list"),("dict", .type "dict"),("set", .type "set"),("range", .type "range"),("zip", .type "zip"),("bool", .type "bool")]
noncomputable def kb(C:Cfg):List Nat→List Str→Bool
 |[],[]=>true
 |i::r,x::xs=>w9 C i x&&kb C r xs
 |_,_=>false
structure RowD where
 P:Prog
 nm:List Str
 gf:List (Str×Nat)
 gc:List (Str×Nat)
 dat:List Nat
 fa:List Nat
 cls:List Nat
noncomputable def RowD.cfg(D:RowD):Cfg:={ nm:=D.nm,gf:=D.gf,gc:=D.gc,globs:=D.P.globs,dat:=D.dat,meths:=[] }
noncomputable def qoB(v:Value):Option {x:Int×Tok // v = .int x.1 x.2}:=match v with
 | .int i t=>some ⟨(i,t),rfl⟩
 |_=>none
noncomputable def qnq(v:Value):Option {x:Str×Tok // v = .str x.1 x.2}:=match v with
 | .str i t=>some ⟨(i,t),rfl⟩
 |_=>none
noncomputable def qoK(v:Value):Option {a:Addr // v = .ref a}:=match v with
 | .ref a=>some ⟨a,rfl⟩
 |_=>none
noncomputable def qoL(d:Data):Option {x:Array Value×Nat // d = .seq x.1 x.2}:=match d with
 | .seq a n=>some ⟨(a,n),rfl⟩
 |_=>none
noncomputable def qcI(d:Data):Option {f:FuncData // d = .func f}:=match d with
 | .func f=>some ⟨f,rfl⟩
 |_=>none
noncomputable def qgg(b:FuncBody):Option {l:List Stmt // b = .stmts l}:=match b with
 | .stmts l=>some ⟨l,rfl⟩
 |_=>none
noncomputable def gW:List Bool→Bool
 |[]=>true
 |b::r=>b&&gW r
mutual
noncomputable def qdt(K:Frag):PV→Value→Bool
 | .none,v=>decide (v = .none)
 | .bool b,v=>decide (v = .bool b)
 | .int i,v=>on (qoB v) λx=>decide (x.1.1=i)
 | .str i,v=>on (qnq v) λx=>decide (x.1.1=i)
 | .tup ps,v=>on (qoK v) λa=>on (K.lookup a.1).attach λo=>on (qoL o.1.data) λd=>decide (o.1.cls = .type "tuple")&&(o.1.dict.isNone&&qdu K ps d.1.1.toList)
 | .lst _,_=>false
noncomputable def qdu(K:Frag):List PV→List Value→Bool
 |[],vs=>vs.isEmpty
 |p::ps,vs=>on (Zp vs) λc=>qdt K p c.1.1&&qdu K ps c.1.2
end
noncomputable def qhr(K:Frag)(a:Nat):Bool:=on (K.lookup a).attach λo=>on (qcI o.1.data) λB=>true
noncomputable def RowD.wiredB(D:RowD)(K:Frag):Bool:=gW [
 D.gf.all (λx=>decide (nsIn K mainGlobals x.1=some (some (.ref (D.fa.getD x.2 0))))&&decide (x.2<D.P.fns.length)),
 D.gc.all (λx=>decide (nsIn K mainGlobals x.1=some (some (.ref (D.cls.getD x.2 0))))),
 (List.range D.P.fns.length).all (λf=>qhr K (D.fa.getD f 0)),
 D.P.globs.all (λx=>on (D.nm[x.1]?) λn=>on (nsIn K mainGlobals n) λov=>on ov λv=>qdt K x.2 v),
 wu.all (λx=>decide (nsIn K mainGlobals x.1=some none)),
 D.P.meths.all (λx=>on (D.nm[x.1.2]?) λn=>decide (findIn K (.ref (D.cls.getD x.1.1 0)) n=some (some (.ref (D.fa.getD x.2 0))))&&decide (typeIn K (.ref (D.fa.getD x.2 0))=some (.type "function"))),
 D.P.meths.all (λx=>decide (x.2<D.P.fns.length)),
 D.P.inits.all (λx=>gW [decide (findIn K (.ref (D.cls.getD x.1 0)) "__getattribute__" = some (some (.builtin "object.__getattribute__"))),decide (findIn K (.ref (D.cls.getD x.1 0)) "__getattr__" = some none),makesIn K (D.cls.getD x.1 0),keepIn K (.ref (D.cls.getD x.1 0)),
  (match x.2 with | some f=>gW [decide (findIn K (.ref (D.cls.getD x.1 0)) "__init__" = some (some (.ref (D.fa.getD f 0)))),decide (typeIn K (.ref (D.fa.getD f 0))=some (.type "function")),decide (f<D.P.fns.length)] | none=>true)])]
noncomputable def RowD.clsB(D:RowD)(K:Frag):Bool :=
 D.P.inits.all (λx=>gW [plainGet K (D.cls.getD x.1 0) Str.empty,hasDictIn K (D.cls.getD x.1 0),decide (findIn K (.ref (D.cls.getD x.1 0)) "__setattr__" = some (some (.builtin "object.__setattr__"))),plainOver K (D.cls.getD x.1 0),
  D.dat.all (λm=>on (D.nm[m]?) λn=>decide (findIn K (.ref (D.cls.getD x.1 0)) n=some none))])&&decide D.nm.Nodup
noncomputable def Hx(p:Arguments):Bool:=gW [p.posonlyargs.isEmpty,p.vararg.isNone,p.kwonlyargs.isEmpty,p.kw_defaults.isEmpty,p.kwarg.isNone,p.defaults.isEmpty]
noncomputable def fdB(K:Frag)(C:Cfg)(fd:Fn)(FD:FuncData)(body:List Stmt):Bool:=gW [codeIn K FD.code FD.qualname,FD.closure.isEmpty,Hx FD.params,decide (FD.defaults = .none),kb C fd.params (FD.params.args.map (·.arg)),decide (FD.params.args.map (·.arg)).Nodup,
   decide (FD.globals=mainGlobals),decide (FD.builtins=builtinsNs),Dt FD.scope.kind,!FD.scope.isCoroutine,!FD.scope.isGenerator,FD.scope.names.all (λx=>decide (x.2 ≠ .free)),
   (FD.params.args.map (·.arg)).all (λx=>decide (FD.scope.names.lookup x=some .local∨FD.scope.names.lookup x=some .cell)),wY C fd.body FD.scope.names body]
noncomputable def RowD.fnB(D:RowD)(K:Frag)(f:Nat)(fd:Fn):Bool:=on (K.lookup (D.fa.getD f 0)).attach λo=>on (qcI o.1.data) λFD=>on (qgg FD.1.body) λb=>fdB K D.cfg fd FD.1 b.1
structure SupD where
 f:Nat
 c:Nat
 fb:Nat
 m:Nat
 x:Nat
 cc:Addr
 DD:Addr
 cda:Addr
 slf:Str
 n:Str
noncomputable def qam(x:Stmt):Bool:=on (qbU x) λv=>on (wJ v.1.1) λc=>on (wg c.1.2.1) λB=>on (wg c.1.2.2.1) λB=>on (QY c.1.1) λa=>on (wJ a.1.1) λc2=>on (wg c2.1.2.1) λB=>on (wg c2.1.2.2.1) λB=>on (zA c2.1.1) λn =>
 decide (n.1.1 = "super")&&decide (a.1.2.1 = "__init__")&&(a.1.2.2.endLine == c.1.2.2.2.line)
noncomputable def Da(S:SupD)(x:Stmt):Bool:=on (ZE x) λv=>on (Qw v.1.1) λt=>on (QY t.1) λa=>on (zA a.1.1) λn=>on (QZ v.1.2.1) λk=>decide (n.1.1=S.slf)&&decide (a.1.2.1=S.n)&&decide (k.1.1 = .none)
noncomputable def qcc(S:SupD)(b:FuncBody):Bool:=on (qgg b) λl=>on (HJ l.1) λv=>qam v.1.1&&Da S v.1.2
noncomputable def qjg(S:SupD)(FD:FuncData)(a:Arg):Bool:=gW [
 qcc S FD.body,decide (FD.closure=[(("__class__" : Str),S.cc)]),decide (FD.code = .ref S.cda),Hx FD.params,decide (a.arg=S.slf),decide (FD.defaults = .none),
 decide (FD.globals=mainGlobals),decide (FD.builtins=builtinsNs),Dt FD.scope.kind,!FD.scope.isCoroutine,!FD.scope.isGenerator,FD.scope.names.all (λx=>decide (x.2 ≠ .cell)),
 decide (FD.scope.names.lookup ("super" : Str)=some .globalImplicit),decide (FD.scope.names.lookup ("__class__" : Str)=some .free),decide (FD.scope.names.lookup S.slf=some .local)]
noncomputable def qgi(b:CS):Option {v:Nat×Nat×Nat // b = .superInit v.1 v.2.1 v.2.2}:=match b with
 | .superInit a b c=>some ⟨(a,b,c),rfl⟩
 |_=>none
noncomputable def B8(b:CS):Option {v:Nat×Nat // b = .setAttr (.var v.1) v.2 .none}:=match b with
 | .setAttr a m e=>match a with
  | .var x=>match e with
   | .none=>some ⟨(x,m),rfl⟩
   |_=>none
  |_=>none
 |_=>none
noncomputable def qal(S:SupD)(b:CSs):Bool:=match b with
 | .nil=>false
 | .cons s r=>match r with
  | .nil=>false
  | .cons s2 r2=>match r2 with
   | .cons _ _=>false
   | .nil=>on (qgi s) λv=>on (B8 s2) λw=>decide (v.1.1=S.c)&&decide (v.1.2.1=S.fb)&&decide (v.1.2.2=S.x)&&decide (w.1.1=S.x)&&decide (w.1.2=S.m)
noncomputable def qjK(d:Data):Option {vs:Array Value // d = .fields vs}:=match d with
 | .fields vs=>some ⟨vs,rfl⟩
 |_=>none
noncomputable def qnI(d:Data):Option {v:Value // d = .cell (some v)}:=match d with
 | .cell v=>match v with
  |some v=>some ⟨v,rfl⟩
  |none=>none
 |_=>none
noncomputable def RowD.supA(D:RowD)(prog:Program)(K:Frag)(S:SupD)(FD:FuncData)(fl:Str)(cv:Value)(fd:Fn):List Bool:=[
 codeIn K FD.code FD.qualname,(prog.main.file:Str) == fl,decide (cv = .ref S.DD),
 (clsIn K S.DD).isSome,decide (mroIn K (D.cls.getD S.c 0) (.ref S.DD)=some true),decide (ks_superIn K (D.cls.getD S.c 0) S.DD "__init__" = some (some (.ref (D.fa.getD S.fb 0)))),
 fnIn K (D.fa.getD S.fb 0),decide (typeIn K (.ref (D.fa.getD S.fb 0))=some (.type "function")),
 !(prog.main.scope.names.lookup ("super" : Str)).isSome,decide (nsIn K mainGlobals "super" = some none),decide (nsIn K cStatics "thirdparty.any" = some none),
 decide (D.nm[S.m]? = some S.n),D.dat.contains S.m,decide (S.fb<D.P.fns.length),!(S.slf == ("__debug__" : Str)),qal S fd.body,decide (fd.params=[S.x]),!fd.trim]
noncomputable def RowD.supT(D:RowD)(prog:Program)(K:Frag)(S:SupD)(FD:FuncData)(a:Arg)(fl:Str)(cv:Value)(fd:Fn):Bool:=qjg S FD a&&gW (D.supA prog K S FD fl cv fd)
noncomputable def RowD.supB(D:RowD)(prog:Program)(K:Frag)(S:SupD):Bool :=
 on (K.lookup (D.fa.getD S.f 0)).attach λo=>on (qcI o.1.data) λFD=>on (Qw FD.1.params.args) λa=>on (K.lookup S.cda).attach λoc=>on (qjK oc.1.data) λvs=>on (vs.1[2]?).attach λfv=>on (qnq fv.1) λfl =>
 on (K.lookup S.cc).attach λocell=>on (qnI ocell.1.data) λcv=>on (D.P.fns[S.f]?).attach λfd=>D.supT prog K S FD.1 a.1 fl.1.1 cv.1 fd.1
noncomputable def RowD.fnsB(D:RowD)(K:Frag)(sup:Nat):Bool:=(List.range D.P.fns.length).all λf=>decide (f=sup)||on (D.P.fns[f]?) λfd=>D.fnB K f fd
end Mine
end
section
open PySem PySem.W Mine
namespace Mine.L1
noncomputable def gfL:List (Str×Nat):=[("range_of",0),("least",1),("greatest",2),("next_from",3),("has",4),("up_to",5),("from_on",6),("without",7),("within_figures",13),("is_made",14),("is_truth",15),("sum_of",16),("plus",17),("contrary",18),("common_of",19),("_law_listed",38),("_law_value",39),("_law_least",40),("_law_vars_of",41),("_law_is_met",42),("_law_all_ways",43),("_law_truth",44),("law",45)]
noncomputable def gcL:List (Str×Nat):=[("Flat",0),("Gatherer",1),("Functions",2)]
noncomputable def Hu:List Nat:=[2,3,27,28,34,35,41,42,48,49,55,56,60,61,65,66,72,73,127,128,134,135,141,142,148,149,155,156,158,159,169,170,171,172,179,180,186,187,193,194,198,199,205,206,212,213,226,227,233,234,240,241,245,246,250,251,262,263,267,268,274,275,295,296,300,301,310,311,319,330,331,337,338,344,345,349,350,363,364,370,371,419,420,426,427,485,486,489,490,491,492,493,494,495,496,497,498,499,500,501,502,503,504,510,511,515,516,520,521,527,528,532,533,537,538,544,545,549,550]
noncomputable def D:RowD:={ P:=P,nm:=nm,gf:=gfL,gc:=gcL,dat:=[14,15,16,17,47,48,73],fa:=[28,35,42,49,56,61,66,73,128,135,142,149,156,170,180,187,194,199,206,213,227,234,241,246,251,263,268,275,296,301,331,338,345,350,364,371,420,427,511,516,521,528,533,538,545,550],cls:=[159,311,486] }
noncomputable def S:SupD:={ f:=30,c:=2,fb:=20,m:=73,x:=13,cc:=319,DD:=486,cda:=330,slf := "self",n := "partial" }
end Mine.L1
end
section
open PySem PySem.W PyProof.Rows PySem.Calls
namespace Mine
noncomputable def xK(l:List Nat)(h:Heap):Frag:=l.filterMap λa=>(h.get? a).map λo=>(a,o)
theorem qaB{f:Nat→Option Obj}{x:Nat}{o:Obj}:∀(l:List Nat),(l.filterMap λa=>(f a).map λo=>(a,o)).lookup x=some o→f x=some o:=by
 intro l;induction l with
 |nil =>
  intro h;injection h
 |cons a l ih =>
  intro h;rw[List.filterMap_cons] at h;cases ha:f a with
  |none=>rw[ha] at h;exact ih h
  |some o' =>
   rw[ha] at h;simp only[Option.map_some,yL] at h;cases hb:x == a with
   |true=>rw[hb] at h;injection h with h;subst h;rw[zr.mp hb];exact ha
   |false=>rw[hb] at h;exact ih h
theorem qeM(l:List Nat)(h:Heap):(xK l h).In h:=λB B e=>qaB _ e
noncomputable def qcn(D:RowD)(S:SupD)(prog:Program)(lawN:Str)(lawI:Nat)(K:Frag):Bool :=
 decide (nsIn K mainGlobals lawN=some (some (.ref (D.fa.getD lawI 0))))&&(D.clsB K&&(D.wiredB K&&(D.fnsB K S.f&&D.supB prog K S)))
noncomputable def qmC(l:List Nat)(D:RowD)(S:SupD)(prog:Program)(lawN:Str)(lawI:Nat):Hook :=
 ⟨Bool,λs=>qcn D S prog lawN lawI (xK l s.heap),λB=>true,λB h=>∃K:Frag,K.In h∧qcn D S prog lawN lawI K=true,λB s e=>⟨_,qeM l s.heap,e⟩,λ_ _ _ ⟨K,a,b⟩ k=>⟨K,a.keeps k,b⟩⟩
theorem qco{D:RowD}{S:SupD}{prog:Program}{lawN:Str}{lawI:Nat}{K:Frag}(h:qcn D S prog lawN lawI K=true):
  nsIn K mainGlobals lawN=some (some (.ref (D.fa.getD lawI 0)))∧D.clsB K=true∧D.wiredB K=true∧D.fnsB K S.f=true∧D.supB prog K S=true:=by
 unfold qcn at h;obtain⟨a,h⟩:=zp.mp h;obtain⟨b,h⟩:=zp.mp h;obtain⟨c,h⟩:=zp.mp h;obtain⟨d,e⟩:=zp.mp h;exact⟨qr a,b,c,d,e⟩
theorem qej(w:World):((boot_heap w.params).isNs mainGlobals&&(#[]:Array GenState).size == 0,(boot_heap w.params).objs.size,(boot_heap w.params).nsMap mainGlobals "__annotations__")=(true,11,some (Value.ref 6)):=by kernel_rfl
theorem qkf{p q:Program}{loose:List Str}{Xt:Shared→Bool}{α:Type}{Yf:Shared→α}{Ya:World→α}{N:Nat}(e:opening p=plainProg p.main.scope.names)(hN:Nat.ble 600 N=true)(f:∀s,fenceModules? p s=some s)(one:∀(w:World) (os:OsState),(topRun treeTable p w 11 (some (.ref 6)) N ⟨boot_heap w.params,#[],boot_drawn,boot_toks,os⟩ (topStub p)).map (λs =>
   ((staticsOk (importedModules p.main.body) (boot_heap w.params) s.heap&&namesBound p s.heap&&gensDone s&&laidKept (boot_heap w.params) s.heap),openSeen q loose (importedModules p.main.body) Xt true s,Yf s))=some (true,openGood q loose,Ya w)):
  LeftO p q loose Xt Yf Ya N:=λw=>by
 obtain⟨⟨h,gs,d,k,os⟩,e1,e'⟩:=yK.mp (boot_open e hN f w);obtain⟨rfl,rfl,rfl,rfl⟩:h=boot_heap w.params∧gs=#[]∧d=boot_drawn∧k=boot_toks:=by simpa using e'
 obtain⟨s,hs,hv⟩:=yK.mp (one w os);obtain⟨l1,l2,l3⟩:_∧_∧_:=by simpa only[Prod.mk.injEq] using hv
 obtain⟨z1,z2,z3⟩:_∧_∧_:=by simpa only[Prod.mk.injEq] using qej w
 have t:topFrom treeTable p w N ⟨boot_heap w.params,#[],boot_drawn,boot_toks,os⟩=some s:=by
  unfold topFrom;dsimp only;rw[z1,z2,z3,hs];show(match staticsOk (importedModules p.main.body) (boot_heap w.params) s.heap&&namesBound p s.heap&&gensDone s&&laidKept (boot_heap w.params) s.heap with | true=>_ | false=>_)=_
  rw[l1]
 unfold openEnds;rw[e1];show(topFrom treeTable p w N _).map _=_
 rw[t];exact qz some (Prod.ext l2 l3)
noncomputable def Yx(p:Program)(w:World)(os:OsState):Option Shared:=topRun treeTable p w 11 (some (.ref 6)) 6000 ⟨boot_heap w.params,#[],boot_drawn,boot_toks,os⟩ (topStub p)
theorem v8(p:Program)(w:World)(os:OsState):Yx p w os=Fast.tw14082659384304107361 Fast.tw14364793385576792824 p w 11 (some (.ref 6)) 6000 ⟨boot_heap w.params,#[],boot_drawn,boot_toks,os⟩ (topStub p):=by
 unfold Yx;rw[Fast.te14082659384304107361,Fast.te14364793385576792824]
end Mine
namespace Mine.L1
theorem qnk:OpenLaw.wellSaid PySem.Challenge.rw_qd0025_01=true:=by kernel_rfl
noncomputable def q:Program:=view PySem.Challenge.pw_qd0025_01 [0,2,3,4,5,6,7,8,9,11,12,14,16,17,19,20,21,22,23,24,25,26,27,28,30,31,32,33,34,35,36,37,38]
noncomputable def loose:List Str:=[Str.ofString "TURNED"]
noncomputable def H:Hook:=qmC Hu D S PySem.Challenge.pw_qd0025_01 "law" 45
noncomputable abbrev ZG:String := "special-get-raises"
theorem qhy{U α β:Type}{x:Option U}{a c:U→Bool}{b:U→α×β}{B:α×β}{d e f g:U→Bool}(h1:x.map (λs=>(a s,c s,d s,g s,(b s).1))=some (true,true,true,true,B.1))(h2:x.map (λs=>(b s).2)=some B.2)(h3:x.map (λs=>(e s,f s))=some (true,true)):x.map (λs=>(a s,b s,c s&&(d s&&(e s&&(f s&&g s)))))=some (true,B,true):=by
 rcases x with _ | s
 ·injection h1
 ·injection h1 with h1;injection h1 with ha h1;injection h1 with hc h1;injection h1 with hd h1;injection h1 with hg hb
  injection h2 with h2;injection h3 with h3;injection h3 with he hf;show some (a s,b s,c s&&(d s&&(e s&&(f s&&g s))))=_
  rw[ha,hc,hd,he,hf,hg,show b s=B from Prod.ext hb h2];rfl
noncomputable abbrev sn(s:Shared):=openSeen q loose (importedModules PySem.Challenge.pw_qd0025_01.main.body) (λs=>xlAt q [] s&&recOk PySem.Challenge.rw_qd0025_01.row.toRowW.records s) true s
noncomputable abbrev P1(w:World):Prop:=∀os:OsState,(Yx PySem.Challenge.pw_qd0025_01 w os).map (λs=>(staticsOk (importedModules PySem.Challenge.pw_qd0025_01.main.body) (boot_heap w.params) s.heap&&namesBound PySem.Challenge.pw_qd0025_01 s.heap&&gensDone s&&laidKept (boot_heap w.params) s.heap,decide (nsIn (xK Hu s.heap) mainGlobals "law" = some (some (.ref (D.fa.getD 45 0)))),D.clsB (xK Hu s.heap),D.supB PySem.Challenge.pw_qd0025_01 (xK Hu s.heap) S,(sn s).1))=some (true,true,true,true,(openGood q loose).1)
noncomputable abbrev P2(w:World):Prop:=∀os:OsState,(Yx PySem.Challenge.pw_qd0025_01 w os).map (λs=>(sn s).2)=some (openGood q loose).2
noncomputable abbrev P3(w:World):Prop:=∀os:OsState,(Yx PySem.Challenge.pw_qd0025_01 w os).map (λs=>(D.wiredB (xK Hu s.heap),D.fnsB (xK Hu s.heap) S.f))=some (true,true)
theorem qoF(w:World):P2 (w.withFollow ZG false):=λos=>by
 rw[v8];kernel_rfl
theorem qoG(w:World):P2 (w.withFollow ZG true):=λos=>by
 rw[v8];kernel_rfl
theorem o_2:∀w,P2 w:=byRow2 ZG qoF qoG
theorem qoH(w:World):P3 (w.withFollow ZG false):=λos=>by
 rw[v8];kernel_rfl
theorem qoI(w:World):P3 (w.withFollow ZG true):=λos=>by
 rw[v8];kernel_rfl
theorem o_3:∀w,P3 w:=byRow2 ZG qoH qoI
theorem qoD(w:World):P1 (w.withFollow ZG false):=λos=>by
 rw[v8];kernel_rfl
theorem qoE(w:World):P1 (w.withFollow ZG true):=λos=>by
 rw[v8];kernel_rfl
theorem o_1:∀w,P1 w:=byRow2 ZG qoD qoE
theorem left:LeftO PySem.Challenge.rw_qd0025_01.row.toRowW.prog q loose (λs=>xlAt q [] s&&recOk PySem.Challenge.rw_qd0025_01.row.toRowW.records s) H.obs H.val 6000 :=
 qkf (p:=PySem.Challenge.pw_qd0025_01) (by kernel_rfl) (by decide) (λs=>by kernel_rfl) (λw os=>qhy (o_1 w os) (o_2 w os) (o_3 w os))
end Mine.L1
end
section
open PySem PySem.W PyProof.Rows
namespace Mine
noncomputable def kZ(h:Heap)(a:Addr)(xs:Array Value):Prop:=h.IsTuple a xs∧∀o,h.get? a=some o→o.dict=none
theorem kZ.new(e:h.get? a=some { cls:=.type "tuple",data:=.seq xs n }):kZ h a xs:=⟨⟨_,e,rfl,_,rfl⟩,λo q=>by rw[e] at q;injection q with q;subst q;rfl⟩
mutual
inductive RP (F:Addr→Prop) (h:Heap):Value→PV→Prop
 |none:RP F h .none .none
 |bool (b:Bool):RP F h (.bool b) (.bool b)
 |int (i:Int) (t:Tok):RP F h (.int i t) (.int i)
 |str (x:Str) (t:Tok):RP F h (.str x t) (.str x)
 |tup {a:Addr}{vs:List Value}{ps:List PV}:F a→kZ h a vs.toArray→RPs F h vs ps→RP F h (.ref a) (.tup ps)
 |lst {a:Addr}{vs:List Value}{ps:List PV}:F a→h.IsList a vs.toArray→RPs F h vs ps→RP F h (.ref a) (.lst ps)
inductive RPs (F:Addr→Prop) (h:Heap):List Value→List PV→Prop
 |nil:RPs F h [] []
 |cons {v:Value}{p:PV}{vs:List Value}{ps:List PV}:RP F h v p→RPs F h vs ps→RPs F h (v::vs) (p::ps)
end
noncomputable def ko(o:Obj):Prop:=∃xs n,o.data = .seq xs n
section
variable {F F':Addr→Prop}{h h':Heap}
theorem RP.none_(r:RP F h v .none):v = .none:=by rcases r;rfl
theorem RP.bool_(r:RP F h v (.bool b)):v = .bool b:=by rcases r;rfl
theorem RP.int_(r:RP F h v (.int i)):∃t,v = .int i t:=by rcases r;exact⟨_,rfl⟩
theorem RP.str_(r:RP F h v (.str x)):∃t,v = .str x t:=by rcases r;exact⟨_,rfl⟩
inductive I_RP_tup_ (F:Addr→Prop) (h:Heap) (v:Value) (ps:List PV):Prop
 |mk (a) (vs) (h0q:v = .ref a) (h1q:F a) (h2q:h.IsTuple a (List.toArray vs)) (h3q:RPs F h vs ps)
theorem RP.tup_(r:RP F h v (.tup ps)):I_RP_tup_ F h v ps:=by cases r with | tup a b c=>exact⟨_,_,rfl,a,b.1,c⟩
inductive I_RP_tupO (F:Addr→Prop) (h:Heap) (v:Value) (ps:List PV):Prop
 |mk (a) (vs) (h0q:v = .ref a) (h1q:F a) (h2q:kZ h a (List.toArray vs)) (h3q:RPs F h vs ps)
theorem RP.tupO(r:RP F h v (.tup ps)):I_RP_tupO F h v ps:=by cases r with | tup a b c=>exact⟨_,_,rfl,a,b,c⟩
inductive I_RP_lst_ (F:Addr→Prop) (h:Heap) (v:Value) (ps:List PV):Prop
 |mk (a) (vs) (h0q:v = .ref a) (h1q:F a) (h2q:h.IsList a (List.toArray vs)) (h3q:RPs F h vs ps)
theorem RP.lst_(r:RP F h v (.lst ps)):I_RP_lst_ F h v ps:=by cases r with | lst a b c=>exact⟨_,_,rfl,a,b,c⟩
theorem RPs.nil_(r:RPs F h v []):v=[]:=by rcases r;rfl
inductive I_RPs_cons_ (F:Addr→Prop) (h:Heap) (v:List Value) (p:PV) (ps:List PV):Prop
 |mk (u) (vs) (h0q:v=u::vs) (h1q:RP F h u p) (h2q:RPs F h vs ps)
theorem RPs.cons_(r:RPs F h v (p::ps)):I_RPs_cons_ F h v p ps:=by cases r with | cons a b=>exact⟨_,_,rfl,a,b⟩
theorem RP.both{P:Value→PV→Prop}{Ps:List Value→List PV→Prop}(n:P .none .none)(b:∀b,P (.bool b) (.bool b))(i:∀i t,P (.int i t) (.int i))(x:∀x t,P (.str x t) (.str x))(t:∀{a vs ps},F a→kZ h a (List.toArray vs)→RPs F h vs ps→Ps vs ps→P (.ref a) (.tup ps))(l:∀{a vs ps},F a→h.IsList a (List.toArray vs)→RPs F h vs ps→Ps vs ps→P (.ref a) (.lst ps))(e:Ps [] [])(c:∀{v p vs ps},RP F h v p→RPs F h vs ps→P v p→Ps vs ps→Ps (v::vs) (p::ps)):(∀{v p},RP F h v p→P v p)∧(∀{vs ps},RPs F h vs ps→Ps vs ps) :=
 ⟨λr=>RP.rec (motive_1:=λv p B=>P v p) (motive_2:=λv p B=>Ps v p) n b i x t l e c r,λr=>RPs.rec (motive_1:=λv p B=>P v p) (motive_2:=λv p B=>Ps v p) n b i x t l e c r⟩
theorem ZL(k:∀b o,h.get? b=some o→F b→ko o→h'.get? b=some o∧F' b)(f:F a)(t:kZ h a l):F' a∧kZ h' a l :=
 by obtain⟨⟨o,ho,hc,n,hd⟩,hk⟩:=t;exact⟨(k _ o ho f ⟨_,_,hd⟩).2,⟨o,(k _ o ho f ⟨_,_,hd⟩).1,hc,n,hd⟩,λo' e=>qA ((k _ o ho f ⟨_,_,hd⟩).1.symm.trans e)▸hk o ho⟩
theorem ZA(k:∀b o,h.get? b=some o→F b→ko o→h'.get? b=some o∧F' b)(f:F a)(t:h.IsList a l):F' a∧h'.IsList a l :=
 by obtain⟨o,ho,hc,n,hd⟩:=t;exact⟨(k _ o ho f ⟨_,_,hd⟩).2,o,(k _ o ho f ⟨_,_,hd⟩).1,hc,n,hd⟩
theorem RP.mono_both(k:∀b o,h.get? b=some o→F b→ko o→h'.get? b=some o∧F' b):(∀{v p},RP F h v p→RP F' h' v p)∧(∀{vs ps},RPs F h vs ps→RPs F' h' vs ps) :=
 RP.both .none .bool .int .str (λf t B q=>.tup (ZL k f t).1 (ZL k f t).2 q) (λf t B q=>.lst (ZA k f t).1 (ZA k f t).2 q) .nil (λB B a b=>.cons a b)
theorem RP.mono(k:∀b o,h.get? b=some o→F b→ko o→h'.get? b=some o∧F' b)(r:RP F h v p):RP F' h' v p:=(RP.mono_both k).1 r
theorem RPs.mono(k:∀b o,h.get? b=some o→F b→ko o→h'.get? b=some o∧F' b)(r:RPs F h v p):RPs F' h' v p:=(RP.mono_both k).2 r
theorem RPs.length(r:RPs F h vs ps):vs.length=ps.length :=
 (RP.both (P:=λB B=>True) (Ps:=λvs ps=>vs.length=ps.length) trivial (λB=>trivial) (λB B=>trivial) (λB B=>trivial) (λB B B B=>trivial) (λB B B B=>trivial) rfl (λB B B e=>qz (· + 1) e)).2 r
theorem RPs.get{vs:List Value}{ps:List PV}(r:RPs F h vs ps){j:Nat}{p:PV}(e:ps[j]? = some p):∃v,vs[j]? = some v∧RP F h v p:=by
 revert vs j
 induction ps with
 |nil=>intro vs r j e;injection e
 |cons q ps ih =>
  intro vs r j e;obtain⟨u,us,rfl,a,b⟩:=r.cons_;induction j using Nat.casesOn with
  |zero=>exact⟨u,rfl,qA e▸a⟩
  |succ j=>exact ih b e
theorem RPs.getBoth:∀{vs:List Value}{ps:List PV},RPs F h vs ps→∀{j:Nat}{v:Value}{p:PV},vs[j]? = some v→ps[j]? = some p→RP F h v p:=by
 intro vs ps r j v p e1 e2;obtain⟨v',h1,h2⟩:=r.get e2;rw[e1] at h1;injection h1 with h1;subst h1;exact h2
theorem qcf(x:h.IsTuple a l)(y:h.IsTuple a r):l=r:=by
 obtain⟨o,ho,_,n,hd⟩:=x;obtain⟨o',ho',_,n',hd'⟩:=y;rw[ho] at ho';injection ho' with ho';subst ho';rw[hd] at hd';cases hd';rfl
theorem qbN(x:h.IsList a l)(y:h.IsList a r):l=r:=by
 obtain⟨o,ho,_,n,hd⟩:=x;obtain⟨o',ho',_,n',hd'⟩:=y;rw[ho] at ho';injection ho' with ho';subst ho';rw[hd] at hd';cases hd';rfl
theorem Ql{α:Type}{l r:List α}(e:l.toArray=r.toArray):l=r:=by have:=qz Array.toList e;simpa using this
theorem qcg(x:h.IsTuple a l)(y:h.IsList a r):False:=by
 obtain⟨o,ho,hc,n,hd⟩:=x;obtain⟨o',ho',hc',n',hd'⟩:=y;rw[ho] at ho';injection ho' with ho';subst ho';rw[hc] at hc';exact absurd hc' (by simp)
theorem RP.inj_both:(∀{v p},RP F h v p→∀q,RP F' h v q→p=q)∧(∀{vs ps},RPs F h vs ps→∀qs,RPs F' h vs qs→ps=qs) :=
 RP.both (λq y=>by rcases y;rfl) (λB q y=>by rcases y;rfl) (λB B q y=>by rcases y;rfl) (λB B q y=>by rcases y;rfl)
  (λB x B ih q y=>by
   cases y with
   |tup _ y r'=>rw[ih _ (Ql (qcf x.1 y.1)▸r')]
   |lst _ y r'=>exact(qcg x.1 y).elim)
  (λB x B ih q y=>by
   cases y with
   |lst _ y r'=>rw[ih _ (Ql (qbN x y)▸r')]
   |tup _ y r'=>exact(qcg y.1 x).elim)
  (λq y=>by rcases y;rfl) (λB B i1 i2 q y=>by cases y with | cons a b=>rw[i1 _ a,i2 _ b])
theorem RP.inj{p q:PV}(x:RP F h v p)(y:RP F' h v q):p=q:=RP.inj_both.1 x q y
theorem RPs.inj{p q:List PV}(x:RPs F h v p)(y:RPs F' h v q):p=q:=RP.inj_both.2 x q y
end
mutual
noncomputable def QS:PV→PV
 | .bool b=>.int (if b then 1 else 0)
 | .tup l=>.tup (jI l)
 | .lst l=>.lst (jI l)
 |p=>p
noncomputable def jI:List PV→List PV
 |[]=>[]
 |a::r=>QS a::jI r
end
theorem qpI:jI []=[]:=rfl
theorem qpJ(a:PV)(r:List PV): jI (a::r)=QS a::jI r:=rfl
theorem ku{b:Bool}{P:Prop}(h:b=false)(n:¬ P):b=true ↔ P:=⟨λe=>absurd (h.symm.trans e) q9,λp=>(n p).elim⟩
theorem qbp:((a == b)=true ↔ PV.int a=PV.int b):=⟨λh=>qz PV.int (zr.mp h),λh=>zr.mpr (PV.int.inj h)⟩
set_option tactic.hygienic true in
theorem B2(p q:PV):qJ p q=true ↔ QS p=QS q:=by
 refine(PV.ind (P:=λp=>∀q,qJ p q=true ↔ QS p=QS q) (Q:=λp=>∀q,zF p q=true ↔ jI p=jI q) ?_ ?_ ?_ ?_ ?_ ?_ ?_ ?_).1 p q
 ·intro q;rcases q <;> first | exact ku rfl (λh=>PV.noConfusion h) | exact⟨λB=>rfl,λB=>rfl⟩
 ·intro a q;rcases q <;> first | exact ku rfl (λh=>PV.noConfusion h) | exact qbp | (rename_i b;exact(show((a == b)=true ↔ PV.int (if a then 1 else 0)=PV.int (if b then 1 else 0)) by induction a <;> induction b <;> first | exact⟨λB=>rfl,λB=>rfl⟩ | exact ku rfl (λh=>nomatch PV.int.inj h)))
 ·intro a q;rcases q <;> first | exact ku rfl (λh=>PV.noConfusion h) | exact qbp
 ·intro a q;rcases q <;> first | exact ku rfl (λh=>PV.noConfusion h) | exact⟨λh=>qz PV.str (zr.mp h),λh=>zr.mpr (PV.str.inj h)⟩
 ·intro a ih q;rcases q <;> first | exact ku rfl (λh=>PV.noConfusion h) | exact⟨λh=>qz PV.tup ((ih _).mp h),λh=>(ih _).mpr (PV.tup.inj h)⟩
 ·intro a ih q;rcases q <;> first | exact ku rfl (λh=>PV.noConfusion h) | exact⟨λh=>qz PV.lst ((ih _).mp h),λh=>(ih _).mpr (PV.lst.inj h)⟩
 ·intro q;rcases q with _ | ⟨b,m⟩
  ·exact⟨λB=>rfl,λB=>rfl⟩
  ·exact ku rfl (λh=>nomatch h)
 ·intro a l i1 i2 q;rcases q with _ | ⟨b,m⟩
  ·exact ku rfl (λh=>nomatch h)
  ·exact zp.trans ((and_congr (i1 b) (i2 m)).trans ⟨λh=>(show QS a::jI l=QS b::jI m by rw[h.1,h.2]),λh=>List.cons.inj h⟩)
open SeqAt in
theorem Hy(n:Nat)(e:Nat→Bool):(List.range (n+1)).all e=(e 0&&(List.range n).all λj=>e (j+1)):=by
 rw[List.range_succ_eq_map];simp[List.all_map,Function.comp_def]
theorem Kj:∀(l m:List PV),((List.range (min l.length m.length)).all (λj=>qJ (l.getD j .none) (m.getD j .none))&&l.length == m.length)=zF l m:=by
 intro l;induction l with
 |nil =>
  intro c2q;rcases c2q with _ | ⟨b,m⟩
  ·simp[YZ,Y0,Y1]
  ·simp[YZ,Y0,Y1]
 |cons a l ih0 =>
  intro c2q;rcases c2q with _ | ⟨b,m⟩
  ·simp[YZ,Y0,Y1]
  ·have ih:=ih0 m
   rw[show min (a::l).length (b::m).length=min l.length m.length+1 by simp[Nat.add_min_add_right]];rw[Hy];simp only[List.getD_cons_zero,List.getD_cons_succ,yp];show _=(qJ a b&&zF l m)
   rw[←ih];induction qJ a b <;> simp
open SeqAt
theorem DV:∀(l:List PV) (j:Nat) (hj:j<l.length),ju l[j]≤jv l:=by
 intro l;induction l with
 |nil=>intro j hj;simp at hj
 |cons a r ih =>
  intro j hj;induction j using Nat.casesOn with
  |zero=>simp[HU,HV];exact Nat.le_max_left _ _
  |succ j=>simp only[HU,HV,List.getElem_cons_succ];have:=ih j (by simpa using hj);exact qu this (Nat.le_max_right _ _)
structure Cmp3 (A:Around) (s:Shared) (v u:Value) (b:Bool):Prop where
 e:EqAt A s v u b
 r:RcAt A s v u b
 n:RcNeAt A s v u (!b)
theorem qgS{F F':Addr→Prop}{A:Around}{s:Shared}(h0:A.units<cLine){v u:Value}{p q:PV}(x:RP F s.heap v p)(y:RP F' s.heap u q)(kt:∀{ps qs},p = .tup ps∧q = .tup qs→False)(kl:∀{ps qs},p = .lst ps∧q = .lst qs→False):Cmp3 A s v u (qJ p q):=by
 induction x using Mine.RP.casesOn with
 |none=>induction y using Mine.RP.casesOn with
  |none=>exact⟨EqAt.same _,RcAt.none_none,RcNeAt.none_none⟩
  |bool _=>exact⟨EqAt.none_bool _,RcAt.none_bool _,RcNeAt.none_bool _⟩
  |int _ _=>exact⟨EqAt.none_int _ _,RcAt.none_int _ _,RcNeAt.none_int _ _⟩
  |str _ _=>exact⟨EqAt.none_str _ _,RcAt.none_str _ _,RcNeAt.none_str _ _⟩
  |tup _ y r'=>exact⟨EqAt.none_tuple y.1 h0,RcAt.none_tuple y.1 h0,RcNeAt.none_tuple y.1 h0⟩
  |lst _ y r'=>exact⟨EqAt.none_list y h0,RcAt.none_list y h0,RcNeAt.none_list y h0⟩
 |bool _=>induction y using Mine.RP.casesOn with
  |none=>exact⟨EqAt.bool_none _,RcAt.bool_none _,RcNeAt.bool_none _⟩
  |bool _=>exact⟨EqAt.bool_bool _ _,RcAt.bool_bool _ _,RcNeAt.bool_bool _ _⟩
  |int _ _=>exact⟨EqAt.bool_int _ _ _,RcAt.bool_int _ _ _,RcNeAt.bool_int _ _ _⟩
  |str _ _=>exact⟨EqAt.bool_str _ _ _,RcAt.bool_str _ _ _,RcNeAt.bool_str _ _ _⟩
  |tup _ y r'=>exact⟨EqAt.bool_tuple _ y.1 h0,RcAt.bool_tuple _ y.1 h0,RcNeAt.bool_tuple _ y.1 h0⟩
  |lst _ y r'=>exact⟨EqAt.bool_list _ y h0,RcAt.bool_list _ y h0,RcNeAt.bool_list _ y h0⟩
 |int _ _=>induction y using Mine.RP.casesOn with
  |none=>exact⟨EqAt.int_none _ _,RcAt.int_none _ _,RcNeAt.int_none _ _⟩
  |bool _=>exact⟨EqAt.int_bool _ _ _,RcAt.int_bool _ _ _,RcNeAt.int_bool _ _ _⟩
  |int _ _=>exact⟨EqAt.int_int _ _ _ _,RcAt.int_int _ _ _ _,RcNeAt.int_int _ _ _ _⟩
  |str _ _=>exact⟨EqAt.int_str _ _ _ _,RcAt.int_str _ _ _ _,RcNeAt.int_str _ _ _ _⟩
  |tup _ y r'=>exact⟨EqAt.int_tuple _ _ y.1 h0,RcAt.int_tuple _ _ y.1 h0,RcNeAt.int_tuple _ _ y.1 h0⟩
  |lst _ y r'=>exact⟨EqAt.int_list _ _ y h0,RcAt.int_list _ _ y h0,RcNeAt.int_list _ _ y h0⟩
 |str _ _=>induction y using Mine.RP.casesOn with
  |none=>exact⟨EqAt.str_none _ _,RcAt.str_none _ _,RcNeAt.str_none _ _⟩
  |bool _=>exact⟨EqAt.str_bool _ _ _,RcAt.str_bool _ _ _,RcNeAt.str_bool _ _ _⟩
  |int _ _=>exact⟨EqAt.str_int _ _ _ _,RcAt.str_int _ _ _ _,RcNeAt.str_int _ _ _ _⟩
  |str _ _=>exact⟨EqAt.str_str _ _ _ _,RcAt.str_str _ _ _ _,RcNeAt.str_str _ _ _ _⟩
  |tup _ y r'=>exact⟨EqAt.str_tuple _ _ y.1 h0,RcAt.str_tuple _ _ y.1 h0,RcNeAt.str_tuple _ _ y.1 h0⟩
  |lst _ y r'=>exact⟨EqAt.str_list _ _ y h0,RcAt.str_list _ _ y h0,RcNeAt.str_list _ _ y h0⟩
 |tup _ x r=>induction y using Mine.RP.casesOn with
  |none=>exact⟨EqAt.tuple_none x.1 h0,RcAt.tuple_none x.1 h0,RcNeAt.tuple_none x.1 h0⟩
  |bool _=>exact⟨EqAt.tuple_bool _ x.1 h0,RcAt.tuple_bool _ x.1 h0,RcNeAt.tuple_bool _ x.1 h0⟩
  |int _ _=>exact⟨EqAt.tuple_int _ _ x.1 h0,RcAt.tuple_int _ _ x.1 h0,RcNeAt.tuple_int _ _ x.1 h0⟩
  |str _ _=>exact⟨EqAt.tuple_str _ _ x.1 h0,RcAt.tuple_str _ _ x.1 h0,RcNeAt.tuple_str _ _ x.1 h0⟩
  |tup _ y r'=>exact(kt ⟨rfl,rfl⟩).elim
  |lst _ y r'=>exact⟨EqAt.tuple_list x.1 y h0,RcAt.tuple_list x.1 y h0,RcNeAt.tuple_list x.1 y h0⟩
 |lst _ x r=>induction y using Mine.RP.casesOn with
  |none=>exact⟨EqAt.list_none x h0,RcAt.list_none x h0,RcNeAt.list_none x h0⟩
  |bool _=>exact⟨EqAt.list_bool _ x h0,RcAt.list_bool _ x h0,RcNeAt.list_bool _ x h0⟩
  |int _ _=>exact⟨EqAt.list_int _ _ x h0,RcAt.list_int _ _ x h0,RcNeAt.list_int _ _ x h0⟩
  |str _ _=>exact⟨EqAt.list_str _ _ x h0,RcAt.list_str _ _ x h0,RcNeAt.list_str _ _ x h0⟩
  |tup _ y r'=>exact⟨EqAt.list_tuple x y.1 h0,RcAt.list_tuple x y.1 h0,RcNeAt.list_tuple x y.1 h0⟩
  |lst _ y r'=>exact(kl ⟨rfl,rfl⟩).elim
noncomputable abbrev XV(A:Around)(s:Shared)(vs us:List Value)(ps qs:List PV):Prop:=∀j (h1:j<vs.toArray.size) (h2:j<us.toArray.size),EqAt A.in1 s vs.toArray[j] us.toArray[j] (qJ (ps.getD j .none) (qs.getD j .none))
theorem qjD{F F':Addr→Prop}{A:Around}{s:Shared}(h0:A.units<cLine){a b:Addr}{vs us:List Value}{ps qs:List PV}(x:s.heap.IsTuple a vs.toArray)(y:s.heap.IsTuple b us.toArray)(r:RPs F s.heap vs ps)(r':RPs F' s.heap us qs)(k:XV A s vs us ps qs):
  Cmp3 A s (.ref a) (.ref b) (qJ (.tup ps) (.tup qs)):=by
 have e:((List.range (min vs.toArray.size us.toArray.size)).all (λj=>qJ (ps.getD j .none) (qs.getD j .none))&&vs.toArray.size == us.toArray.size)=zF ps qs:=by
  rw[←Kj,←r.length,←r'.length];simp only[ze]
 have h1:=RcAt.tuples x y h0 k;have h2:=RcNeAt.tuples x y h0 k;rw[e] at h1 h2;refine⟨?_,h1,h2⟩;by_cases hab:a=b
 ·have e:vs=us:=Ql (qcf x (hab▸y))
  have e2:ps=qs:=RPs.inj r (e▸r');rw[hab,e2,v6];exact EqAt.same _
 ·exact EqAt.of_refs hab h1
theorem qjC{F F':Addr→Prop}{A:Around}{s:Shared}(h0:A.units<cLine){a b:Addr}{vs us:List Value}{ps qs:List PV}(x:s.heap.IsList a vs.toArray)(y:s.heap.IsList b us.toArray)(r:RPs F s.heap vs ps)(r':RPs F' s.heap us qs)(k:XV A s vs us ps qs):
  Cmp3 A s (.ref a) (.ref b) (qJ (.lst ps) (.lst qs)):=by
 have pr:=Kj ps qs;rw[←r.length,←r'.length] at pr;have two:RcAt A s (.ref a) (.ref b) (zF ps qs)∧RcNeAt A s (.ref a) (.ref b) (!zF ps qs):=by
  by_cases hs:vs.length=us.length
  ·have h1:=RcAt.lists x y (by simpa using hs) h0 k
   have h2:=RcNeAt.lists x y (by simpa using hs) h0 k;rw[hs,Nat.min_self,zP,Bool.and_true] at pr;rw[ze,hs,pr] at h1 h2;exact⟨h1,h2⟩
  ·have e:(vs.length == us.length)=false:=yM hs
   rw[e,Bool.and_false] at pr;rw[←pr];have hs':(vs.toArray.size != us.toArray.size)=true:=bne_iff_ne.mpr hs;exact⟨RcAt.lists_lengths x y hs' h0,RcNeAt.lists_lengths x y hs' h0⟩
 refine⟨?_,two.1,two.2⟩;by_cases hab:a=b
 ·have e:vs=us:=Ql (qbN x (hab▸y))
  have e2:ps=qs:=RPs.inj r (e▸r');rw[hab,e2,v6];exact EqAt.same _
 ·exact EqAt.of_refs hab two.1
theorem Kg{F F':Addr→Prop}{A:Around}{s:Shared}{n:Nat}(ih:∀{v u p q},ju p<n∨ju q<n→RP F s.heap v p→RP F' s.heap u q→EqAt A.in1 s v u (qJ p q)){vs us:List Value}{ps qs:List PV}(hd:jv ps<n∨jv qs<n)(r1:RPs F s.heap vs ps)(r2:RPs F' s.heap us qs):XV A s vs us ps qs:=by
 intro j h1 h2;have q1:j<ps.length:=r1.length▸h1;have q2:j<qs.length:=r2.length▸h2;rw[show ps.getD j .none=ps[j] by rw[List.getD_eq_getElem?_getD,zm q1];rfl,show qs.getD j .none=qs[j] by rw[List.getD_eq_getElem?_getD,zm q2];rfl];exact ih (hd.imp (qP (DV _ _ _)) (qP (DV _ _ _))) (r1.getBoth (zm h1) (zm q1)) (r2.getBoth (zm h2) (zm q2))
theorem qew{F F':Addr→Prop}{s:Shared}(n:Nat):∀{v u:Value}{p q:PV}{A:Around},(ju p<n∨ju q<n)→A.units+n+2<cLine→RP F s.heap v p→RP F' s.heap u q→Cmp3 A s v u (qJ p q):=by
 induction n with
 |zero=>intro v u p q A hn;exact absurd hn (λh=>h.elim (Nat.not_lt_zero _) (Nat.not_lt_zero _))
 |succ n ih =>
  intro v u p q A hn hu x y;have h0:A.units<cLine:=qP (qu (qS _ _) (qS _ _)) hu;have ih':∀{v u p q},ju p<n∨ju q<n→RP F s.heap v p→RP F' s.heap u q→EqAt A.in1 s v u (qJ p q):=λh a b=>(ih h (by rw[Around.in1_units];exact qP (jR (qz (· + 2) (Nat.add_right_comm A.units 1 n))) hu) a b).e;by_cases hs:∃ps qs,(p = .tup ps∧q = .tup qs)∨(p = .lst ps∧q = .lst qs)
  ·obtain⟨ps,qs,⟨rfl,rfl⟩ | ⟨rfl,rfl⟩⟩:=hs
   ·obtain⟨a,vs,rfl,_,x1,r⟩:=x.tup_
    obtain⟨b,us,rfl,_,y1,r'⟩:=y.tup_;exact qjD h0 x1 y1 r r' (Kg ih' (hn.imp Q7 Q7) r r')
   ·obtain⟨a,vs,rfl,_,x1,r⟩:=x.lst_
    obtain⟨b,us,rfl,_,y1,r'⟩:=y.lst_;exact qjC h0 x1 y1 r r' (Kg ih' (hn.imp Q7 Q7) r r')
  ·exact qgS h0 x y (λh=>(hs ⟨_,_,.inl h⟩).elim) (λh=>(hs ⟨_,_,.inr h⟩).elim)
theorem qbk{F F':Addr→Prop}(n:Nat){v u:Value}{p q:PV}{A:Around}{s:Shared}(h:ju p≤n∨ju q≤n)(hu:A.units+n+3<cLine)(x:RP F s.heap v p)(y:RP F' s.heap u q):EqAt A s v u (qJ p q) :=
 (qew (n+1) (h.imp vI vI) (hu) x y).e
mutual
noncomputable def Qh(w:World):PV→Int
 | .bool b=>hashInt (if b then 1 else 0)
 | .int i=>hashInt i
 | .str x=>hashStr w x
 | .tup l=>reduceHash (Builtin.Tuple.tupleHashOf (Z8 w l))
 |_=>0
noncomputable def Z8(w:World):List PV→List Int
 |[]=>[]
 |a::r=>Qh w a::Z8 w r
end
mutual
noncomputable def xe:PV→Nat
 | .tup l=>xF l+1
 |_=>1
noncomputable def xF:List PV→Nat
 |[]=>0
 |a::r=>xe a+xF r
end
theorem qhh(w:World)(p:PV):Qh w (QS p)=Qh w p:=(PV.ind (P:=λp=>Qh w (QS p)=Qh w p) (Q:=λl=>Z8 w (jI l)=Z8 w l) rfl (λB=>rfl) (λB=>rfl) (λB=>rfl) (λB h=>qz (λx=>reduceHash (Builtin.Tuple.tupleHashOf x)) h) (λB B=>rfl) rfl λa l h1 h2=>(qz (List.cons · _) h1).trans (qz (List.cons _) h2)).1 p
theorem qgW(p:PV):xe (QS p)=xe p:=(PV.ind (P:=λp=>xe (QS p)=xe p) (Q:=λl=>xF (jI l)=xF l) rfl (λB=>rfl) (λB=>rfl) (λB=>rfl) (λB h=>qz (· + 1) h) (λB B=>rfl) rfl λa l h1 h2=>(qz (· + _) h1).trans (qz (_ + ·) h2)).1 p
theorem Kk(b:Bool):reduceHash (if b then 1 else 0)=hashInt (if b then 1 else 0):=by induction b <;> decide
section
variable {prog:Program}{w:World}{E:Value→Shared→Prop}{F:Addr→Prop}
theorem vN(a:PV)(r:List PV):ju a≤jv (a::r)∧jv r≤jv (a::r):=⟨Nat.le_max_left ..,Nat.le_max_right ..⟩
theorem qjb{u d k n:Nat}(h:u+d+k<n):u<n:=qP (qu (qS ..) (qS ..)) h
theorem qjc{u a b k n:Nat}(h:u+a+k<n)(l:b≤a):u+b+k<n:=qP (yn (j3 l _) _) h
theorem qnU(h:u+(a+1)+1<n):u+1+a+1<n:=by rw[Nat.succ_add_eq_add_succ];exact h
theorem qjd{u a k m n:Nat}(h:u+k<n)(l:a≤m)(hm:m≤k):u+a<n:=qP (j3 (qu l hm) _) h
theorem qjR(p:PV){v:Value}{A:Around}{s:Shared}{Q:Int→Shared→Prop}:xg p=true→RP F s.heap v p→A.units+ju p+1<cLine →
  Q (Qh w p) { s with toks:=s.toks+xe p }→wpAny (model prog w) A (pyHash v) Q E s:=by
 refine(PV.ind (P:=λp=>∀{v:Value}{A:Around}{s:Shared}{Q:Int→Shared→Prop},xg p=true→RP F s.heap v p→A.units+ju p+1<cLine →
  Q (Qh w p) { s with toks:=s.toks+xe p }→wpAny (model prog w) A (pyHash v) Q E s)
  (Q:=λl=>∀{vs:List Value}{A:Around}{s:Shared}{b:Array Int}{Q:Array Int→Shared→Prop},zN l=true→RPs F s.heap vs l→A.units+jv l+1<cLine →
  (∀b',b'.toList=b.toList++Z8 w l→Q b' { s with toks:=s.toks+xF l }) →
  wpAny (model prog w) A (forIn vs b λx r=>do let h ←pyHash x;pure PUnit.unit;pure (ForInStep.yield (r.push h))) Q E s) ?_ ?_ ?_ ?_ ?_ ?_ ?_ ?_).1 p
 ·intro v A s Q hk x hu h;exact absurd hk q9
 ·intro b v A s Q hk x hu h
  rcases x;refine pyHash_slot (T := "bool") rfl PySem.F.slot_bool_hash entry_int_hash (args_int_hash _) (beq_builtin_none _) (.inr (qjb hu)) ?_;induction b
  ·exact(show wpAny _ _ (do ret (←mkInt 0)) _ _ s from qe (wpAny_mkInt (qp ⟨_,_,rfl,by rw[show reduceHash 0=hashInt 0 from Kk false];exact h⟩)))
  ·exact(show wpAny _ _ (do ret (←mkInt 1)) _ _ s from qe (wpAny_mkInt (qp ⟨_,_,rfl,by rw[show reduceHash 1=hashInt 1 from Kk true];exact h⟩)))
 ·intro i v A s Q hk x hu h;rcases x;exact wpAny_pyHash_int h
 ·intro y v A s Q hk x hu h;rcases x;exact wpAny_pyHash_str h
 ·intro l ih v A s Q hk x hu h
  cases x with
  | @tup a vs _ f hg hw =>
   obtain⟨o,ho,hc,n,hd⟩:=hg.1;refine pyHash_slot (T := "tuple") ⟨_,ho,hc⟩ PySem.F.slot_tuple_hash PySem.F.entry_tuple_hash (PySem.F.args_tuple_hash_1 _) (beq_builtin_none _) (.inr (qjb hu)) ?_;show wpAny _ _ (Builtin.Tuple.tupleItemsOf (.ref a) >>= _) _ _ s
   refine qe (wpAny_tupleItemsOf ho hd ?_);refine qe ?_;rw[←Array.forIn_toList];refine ih (A:=A.in1) (b:=#[]) hk hw (qnU hu) λb hb=>?_;show wpAny _ _ (retInt (Builtin.Tuple.tupleHashOf b.toList)) _ _ _
   rw[hb];exact qe (wpAny_mkInt (qp ⟨_,_,rfl,h⟩))
 ·intro l ih v A s Q hk x hu h;exact absurd hk q9
 ·intro vs A s b Q hk x hu h;rcases x;exact qp (h b (zR _).symm)
 ·intro k l i1 i2 vs A s b Q hk x hu h
  cases x with
  |cons x1 x2 =>
   have hk:=qc hk;rw[List.forIn_cons];refine qe (qe (i1 hk.1 x1 (qjc hu (vN k l).1) ?_));refine qe (qp (qp ?_));refine i2 hk.2 (by exact x2) (qjc hu (vN k l).2) λb' hb=>?_;have:=h b' (hb.trans (by rw[Array.toList_push,wj];rfl));rw[show s.toks+xF (k::l)=s.toks+xe k+xF l from(jQ ..).symm] at this;exact this
theorem B4(n:Nat){v:Value}{A:Around}{s:Shared}{Q:Bool→Shared→Prop}(e:eqIsQuiet n v=pure true)(h:Q true s):wpAny (model prog w) A (eqIsQuiet n v) Q E s:=by rw[e];exact qp h
theorem qhP:∀(n:Nat) (p:PV) {v:Value}{A:Around}{s:Shared}{Q:Bool→Shared→Prop},xg p=true→ju p≤n→RP F s.heap v p→Q true s→wpAny (model prog w) A (eqIsQuiet n v) Q E s:=by
 intro n;induction n with
 |zero =>
  intro p v A s Q hk hn x h;induction x using Mine.RP.casesOn with
  |tup f hg hw=>exact absurd hn (Nat.not_succ_le_zero _)
  |lst f hg hw=>exact absurd hk q9
  |_=>exact B4 _ (eqIsQuiet_byValue _ rfl) h
 |succ n ih =>
  intro p v A s Q hk hn x h;induction x using Mine.RP.casesOn with
  |lst f hg hw=>exact absurd hk q9
  | @tup a vs l f hg hw =>
   have hT:=hg.1.typeIs;obtain⟨o,ho,hc,m,hd⟩:=hg.1;unfold eqIsQuiet;refine qe (wpAny_specialOf hT PySem.F.slot_tuple_eq.lookup ?_);show wpAny _ _ (isInstance (.ref a) (.type "tuple") >>= _) _ _ s
   refine qe (wpAny_isInstance hT isSubtype_tuple_tuple ?_);simp only[Bool.not_true,Bool.false_eq_true,if_false];refine qe (vH ho hd (qe ?_));show wpAny _ _ (forIn vs.toArray _ _) _ _ s
   rw[←Array.forIn_toList];refine wpAny_forIn_list _ (λrest r s'=>r.1=none∧s'=s∧∃ps,zN ps=true∧jv ps≤n∧RPs F s.heap rest ps) _ ?_ ?_ _ _ ⟨rfl,rfl,l,hk,Nat.le_of_succ_le_succ hn,hw⟩
   ·rintro v rest r s' ⟨hr,rfl,ps,k1,k2,k3⟩
    cases k3 with
    | @cons _ q _ qs y1 y2 =>
     have k1:=qc k1;refine qe (ih q k1.1 (qu (vN q qs).1 k2) y1 ?_);exact qp ⟨rfl,rfl,qs,k1.2,qu (vN q qs).2 k2,y2⟩
   ·rintro ⟨r1,r2⟩ s' ⟨hr,rfl,_⟩
    cases (show r1=none from hr)
    exact qp h
  |_=>exact B4 _ (eqIsQuiet_byValue _ rfl) h
end
open Classical in
noncomputable def kF(prog:Program)(w:World):HeapKind prog w PV where
 is:=λh k a=>∃l,k = .tup (jI l)∧zN l=true∧jv l<6∧RP (λB=>True) h (.ref a) (.tup l)
 hash:=Qh w
 draws:=xe
 room:=λA=>A.units+20<cLine
 inj:=by
  rintro h a x y ⟨l,rfl,_,_,hx⟩ ⟨m,rfl,_,_,hy⟩
  have:=RP.inj hx hy;injection this with this;subst this;rfl
 keeps:=by
  rintro h h' k a d o es ep ⟨l,rfl,h1,h2,hx⟩ ho hd hs
  refine⟨l,rfl,h1,h2,hx.mono λb o' e B q=>⟨?_,trivial⟩⟩;refine(hs.2 b ?_).trans e;rintro rfl
  rw[ho] at e;injection e with e;subst e;obtain⟨xs,n,q⟩:=q;rw[hd] at q;injection q
 pyHash:=by
  rintro A E s k a Q hu ⟨l,rfl,h1,h2,hx⟩ h
  refine qjR (.tup l) h1 hx (qjd (a:=jv l+2) hu (zZ (Nat.succ_le_of_lt h2)) (by decide)) ?_;rw[←qhh,←qgW];exact h
 eqBool:=by
  rintro A E s x y a b Q hu ⟨l,rfl,h1,h2,hx⟩ ⟨m,rfl,h3,h4,hy⟩ h
  refine qbk 6 (p:=.tup l) (.inl (show jv l+1≤6 from h2)) (qjd (a:=9) hu (qW 9) (by decide)) hx hy prog w E Q ?_;rw[show qJ (.tup l) (.tup m)=decide (PV.tup (jI l)=PV.tup (jI m)) from Bool.eq_iff_iff.mpr ((B2 _ _).trans (decide_eq_true_iff (p:=PV.tup (jI l)=PV.tup (jI m))).symm)];exact h
 quiet:=by
  rintro A E s k a Q ⟨l,rfl,h1,h2,hx⟩ h
  exact qhP 8 (.tup l) h1 (qu h2 (by decide)) hx h
noncomputable abbrev qG:=List (List Addr)
structure Glb where
 prog:Program
 w:World
 K:Frag
 nm:List Str
 P:Prog
 base:Heap
 cls:Nat→Addr
 dat:List Nat
 fa:Nat→Addr
mutual
inductive RA (ρ:qG) (F:Addr→Prop) (h:Heap):Value→AV→Prop
 |pv {v:Value}{p:PV}:RP F h v p→RA ρ F h v (.pv p)
 |ref {i:Nat}{a:Addr}{l:List Addr}:ρ[i]? = some (a::l)→RA ρ F h (.ref a) (.ref i)
 |tupR {a:Addr}{vs:List Value}{xs:List AV}:F a→kZ h a vs.toArray→RAs ρ F h vs xs→RA ρ F h (.ref a) (.tupR xs)
 |lstR {a:Addr}{vs:List Value}{xs:List AV}:F a→h.IsList a vs.toArray→RAs ρ F h vs xs→RA ρ F h (.ref a) (.lstR xs)
inductive RAs (ρ:qG) (F:Addr→Prop) (h:Heap):List Value→List AV→Prop
 |nil:RAs ρ F h [] []
 |cons {v:Value}{x:AV}{vs:List Value}{xs:List AV}:RA ρ F h v x→RAs ρ F h vs xs→RAs ρ F h (v::vs) (x::xs)
end
inductive RKV {κ:Type}(ρ:qG) (F:Addr→Prop) (h:Heap):List (κ×Value)→List (κ×AV)→Prop
 |nil:RKV ρ F h [] []
 |cons {k:κ}{v:Value}{x:AV}{vs:List (κ×Value)}{xs:List (κ×AV)}:RA ρ F h v x→RKV ρ F h vs xs→RKV ρ F h ((k,v)::vs) ((k,x)::xs)
inductive RKT (ρ:qG) (F:Addr→Prop) (h:Heap):List (PV×Addr×Value)→List (PV×AV)→Prop
 |nil:RKT ρ F h [] []
 |cons {l:List PV}{b:Addr}{v:Value}{x:AV}{vs:List (PV×Addr×Value)}{xs:List (PV×AV)} :
   RP F h (.ref b) (.tup l)→zN l=true→jv l<6→RA ρ F h v x→RKT ρ F h vs xs→RKT ρ F h ((.tup (jI l),b,v)::vs) ((.tup l,x)::xs)
inductive RE (nm:List Str) (ρ:qG) (F:Addr→Prop) (h:Heap):List DictEntry→List (Nat×AV)→Prop
 |nil:RE nm ρ F h [] []
 |cons {m:Nat}{x:Str}{hs:Int}{t:Tok}{v:Value}{y:AV}{es:List DictEntry}{as:List (Nat×AV)} :
   nm[m]? = some x→RA ρ F h v y→RE nm ρ F h es as→RE nm ρ F h (⟨hs,.str x t,v⟩::es) ((m,y)::as)
open Classical in
inductive RO (g:Glb) (ρ:qG) (F:Addr→Prop) (h:Heap):List Addr→AObj→Prop
 |list {a:Addr}{vs:List Value}{xs:List AV}:h.PlainList a vs.toArray→RAs ρ F h vs xs→RO g ρ F h [a] (.list xs)
 |dictI {a:Addr}{kv:List (Int×Value)}{kvs:List (Int×AV)}:h.DictOf (intKind g.prog g.w) a kv→RKV ρ F h kv kvs→RO g ρ F h [a] (.dictI kvs)
 |dictT {a:Addr}{kv:List (PV×Addr×Value)}{kvs:List (PV×AV)}:h.DictOfH (kF g.prog g.w) a kv→RKT ρ F h kv kvs→RO g ρ F h [a] (.dictT kvs)
 |inst {a dx:Addr}{c:Nat}{sl:Array (Option Value)}{es:List DictEntry}{n:Nat}{as:List (Nat×AV)} :
   h.get? a=some ⟨.ref (g.cls c),some dx,.plain,sl⟩→h.get? dx=some (PySem.W.dictOf es n)→RE g.nm ρ F h es as→es.length≤900→(g.P.inits.lookup c).isSome=true→RO g ρ F h [a,dx] (.inst c as)
 |dead {l:List Addr}:RO g ρ F h l .dead
section
variable {ρ:qG}{F:Addr→Prop}{h:Heap}
theorem RA.pv_(r:RA ρ F h v (.pv p)):RP F h v p:=by cases r with | pv r=>exact r
inductive I_RA_ref_ (ρ:qG) (v:Value) (i:Nat):Prop
 |mk (a) (l) (h0q:v = .ref a) (h1q:ρ[i]? = some (a::l))
theorem RA.ref_(r:RA ρ F h v (.ref i)):I_RA_ref_ ρ v i:=by cases r with | ref e=>exact⟨_,_,rfl,e⟩
inductive I_RA_tupR_ (ρ:qG) (F:Addr→Prop) (h:Heap) (v:Value) (xs:List AV):Prop
 |mk (a) (vs) (h0q:v = .ref a) (h1q:F a) (h2q:h.IsTuple a (List.toArray vs)) (h3q:RAs ρ F h vs xs)
theorem RA.tupR_(r:RA ρ F h v (.tupR xs)):I_RA_tupR_ ρ F h v xs:=by cases r with | tupR a b c=>exact⟨_,_,rfl,a,b.1,c⟩
inductive I_RA_tupRO (ρ:qG) (F:Addr→Prop) (h:Heap) (v:Value) (xs:List AV):Prop
 |mk (a) (vs) (h0q:v = .ref a) (h1q:F a) (h2q:kZ h a (List.toArray vs)) (h3q:RAs ρ F h vs xs)
theorem RA.tupRO(r:RA ρ F h v (.tupR xs)):I_RA_tupRO ρ F h v xs:=by cases r with | tupR a b c=>exact⟨_,_,rfl,a,b,c⟩
inductive I_RA_lstR_ (ρ:qG) (F:Addr→Prop) (h:Heap) (v:Value) (xs:List AV):Prop
 |mk (a) (vs) (h0q:v = .ref a) (h1q:F a) (h2q:h.IsList a (List.toArray vs)) (h3q:RAs ρ F h vs xs)
theorem RA.lstR_(r:RA ρ F h v (.lstR xs)):I_RA_lstR_ ρ F h v xs:=by cases r with | lstR a b c=>exact⟨_,_,rfl,a,b,c⟩
theorem RA.int_(r:RA ρ F h v (.pv (.int i))):∃t,v = .int i t:=r.pv_.int_
theorem RA.str_(r:RA ρ F h v (.pv (.str x))):∃t,v = .str x t:=r.pv_.str_
theorem RA.bool_(r:RA ρ F h v (.pv (.bool b))):v = .bool b:=r.pv_.bool_
theorem RA.none_(r:RA ρ F h v (.pv .none)):v = .none:=r.pv_.none_
inductive I_RA_onInt (β:Type) (va:Value) (v:AV) (k:Int→Option β) (y:β):Prop
 |mk (i) (t) (h0q:va = .int i t) (h1q:v = .pv (.int i)) (h2q:k i=some y)
theorem RA.onInt{β:Type}{va:Value}{v:AV}{k:Int→Option β}{y:β}(r:RA ρ F h va v)(e:onInt v k=some y):I_RA_onInt β va v k y:=by
 obtain⟨i,hv,e1⟩:=jF e;rw[hv] at r;obtain⟨t,hr⟩:=r.int_;exact⟨i,t,hr,hv,e1⟩
inductive I_RA_onStr (β:Type) (va:Value) (k:Str→Option β) (y:β):Prop
 |mk (i) (t) (h0q:va = .str i t) (h1q:k i=some y)
theorem RA.onStr{β:Type}{va:Value}{v:AV}{k:Str→Option β}{y:β}(r:RA ρ F h va v)(e:onStr v k=some y):I_RA_onStr β va k y:=by
 obtain⟨i,hv,e1⟩:=qde e;rw[hv] at r;obtain⟨t,hr⟩:=r.str_;exact⟨i,t,hr,e1⟩
theorem RAs.nil_(r:RAs ρ F h v []):v=[]:=by rcases r;rfl
inductive I_RAs_cons_ (ρ:qG) (F:Addr→Prop) (h:Heap) (v:List Value) (p:AV) (ps:List AV):Prop
 |mk (u) (vs) (h0q:v=u::vs) (h1q:RA ρ F h u p) (h2q:RAs ρ F h vs ps)
theorem RAs.cons_(r:RAs ρ F h v (p::ps)):I_RAs_cons_ ρ F h v p ps:=by cases r with | cons a b=>exact⟨_,_,rfl,a,b⟩
inductive I_RAs_one_ (ρ:qG) (F:Addr→Prop) (h:Heap) (v:List Value) (p:AV):Prop
 |mk (u) (h0q:v=[u]) (h1q:RA ρ F h u p)
theorem RAs.one_(r:RAs ρ F h v [p]):I_RAs_one_ ρ F h v p:=by obtain⟨u,_,e,a,b⟩:=r.cons_;exact⟨u,by rw[e,b.nil_],a⟩
inductive I_RAs_two_ (ρ:qG) (F:Addr→Prop) (h:Heap) (v:List Value) (p:AV) (q:AV):Prop
 |mk (u) (w) (h0q:v=[u,w]) (h1q:RA ρ F h u p) (h2q:RA ρ F h w q)
theorem RAs.two_{p q:AV}(r:RAs ρ F h v [p,q]):I_RAs_two_ ρ F h v p q:=by obtain⟨u,_,e,a,b⟩:=r.cons_;exact by obtain⟨w,f,c⟩:=b.one_;exact⟨u,w,by rw[e,f],a,c⟩
inductive I_RO_list_ (ρ:qG) (F:Addr→Prop) (h:Heap) (a:Addr) (l:List Addr) (xs:List AV):Prop
 |mk (vs:List Value) (h0q:l=[]) (h1q:h.PlainList a vs.toArray) (h2q:RAs ρ F h vs xs)
theorem RO.list_(r:RO g ρ F h (a::l) (.list xs)):I_RO_list_ ρ F h a l xs:=by cases r with | list x y=>exact⟨_,rfl,x,y⟩
open Classical in
inductive I_RO_dictI_ (ρ:qG) (F:Addr→Prop) (h:Heap) (g:Glb) (a:Addr) (l:List Addr) (kvs:List (Int×AV)):Prop
 |mk (kv) (h0q:l=[]) (h1q:h.DictOf (intKind g.prog g.w) a kv) (h2q:RKV ρ F h kv kvs)
open Classical in
theorem RO.dictI_(r:RO g ρ F h (a::l) (.dictI kvs)):I_RO_dictI_ ρ F h g a l kvs:=by cases r with | dictI x y=>exact⟨_,rfl,x,y⟩
open Classical in
inductive I_RO_dictT_ (ρ:qG) (F:Addr→Prop) (h:Heap) (g:Glb) (a:Addr) (l:List Addr) (kvs:List (PV×AV)):Prop
 |mk (kv) (h0q:l=[]) (h1q:h.DictOfH (kF g.prog g.w) a kv) (h2q:RKT ρ F h kv kvs)
open Classical in
theorem RO.dictT_(r:RO g ρ F h (a::l) (.dictT kvs)):I_RO_dictT_ ρ F h g a l kvs:=by cases r with | dictT x y=>exact⟨_,rfl,x,y⟩
inductive I_RO_inst_ (ρ:qG) (F:Addr→Prop) (h:Heap) (g:Glb) (a:Addr) (l:List Addr) (c:Nat) (as:List (Nat×AV)):Prop
 |mk (dx) (sl) (es) (n) (h0q:l=[dx]) (h1q:h.get? a=some ⟨.ref (g.cls c),some dx,.plain,sl⟩) (h2q:h.get? dx=some (PySem.W.dictOf es n)) (h3q:RE g.nm ρ F h es as) (h4q:es.length≤900) (h5q:(g.P.inits.lookup c).isSome=true)
theorem RO.inst_(r:RO g ρ F h (a::l) (.inst c as)):I_RO_inst_ ρ F h g a l c as:=by cases r with | inst a b c d e=>exact⟨_,_,_,_,rfl,a,b,c,d,e⟩
end
theorem RA.both{ρ:qG}{F:Addr→Prop}{h:Heap}{P:Value→AV→Prop}{Ps:List Value→List AV→Prop}(p:∀{v p},RP F h v p→P v (.pv p))(r:∀{i a l},ρ[i]? = some (a::l)→P (.ref a) (.ref i))(t:∀{a vs ps},F a→kZ h a (List.toArray vs)→RAs ρ F h vs ps→Ps vs ps→P (.ref a) (.tupR ps))(l:∀{a vs ps},F a→h.IsList a (List.toArray vs)→RAs ρ F h vs ps→Ps vs ps→P (.ref a) (.lstR ps))(e:Ps [] [])(c:∀{v p vs ps},RA ρ F h v p→RAs ρ F h vs ps→P v p→Ps vs ps→Ps (v::vs) (p::ps)):(∀{v p},RA ρ F h v p→P v p)∧(∀{vs ps},RAs ρ F h vs ps→Ps vs ps) :=
 ⟨λx=>RA.rec (motive_1:=λv p B=>P v p) (motive_2:=λv p B=>Ps v p) p r t l e c x,λx=>RAs.rec (motive_1:=λv p B=>P v p) (motive_2:=λv p B=>Ps v p) p r t l e c x⟩
theorem RAs.map_{ρ ρ':qG}{F F':Addr→Prop}{h h':Heap}(k:∀v x,RA ρ F h v x→RA ρ' F' h' v x):∀{vs:List Value}{xs:List AV},RAs ρ F h vs xs→RAs ρ' F' h' vs xs:=by
 intro vs xs;revert vs
 induction xs with
 |nil=>intro vs r;rw[r.nil_];exact .nil
 |cons x xs ih=>intro vs r;obtain⟨u,us,rfl,a,b⟩:=r.cons_;exact .cons (k _ _ a) (ih b)
section mono
variable {ρ ρ':qG}{F F':Addr→Prop}{h h':Heap}
variable (kρ:∀(i:Nat) (a:Addr) (l:List Addr),ρ[i]? = some (a::l)→ρ'[i]? = some (a::l))
variable (k:∀b o,h.get? b=some o→F b→ko o→h'.get? b=some o∧F' b)
include kρ k
theorem RA.mono_both:(∀{v x},RA ρ F h v x→RA ρ' F' h' v x)∧(∀{vs xs},RAs ρ F h vs xs→RAs ρ' F' h' vs xs) :=
 RA.both (λr=>.pv (r.mono k)) (λe=>.ref (kρ _ _ _ e)) (λf t B q=>.tupR (ZL k f t).1 (ZL k f t).2 q) (λf t B q=>.lstR (ZA k f t).1 (ZA k f t).2 q) .nil (λB B a b=>.cons a b)
theorem RA.mono(r:RA ρ F h v x):RA ρ' F' h' v x:=(RA.mono_both kρ k).1 r
theorem RAs.mono(r:RAs ρ F h v x):RAs ρ' F' h' v x:=(RA.mono_both kρ k).2 r
theorem RKV.mono{κ:Type}{v:List (κ×Value)}{x:List (κ×AV)}(r:RKV ρ F h v x):RKV ρ' F' h' v x:=by
 induction r with
 |nil=>exact .nil
 |cons a _ ih=>exact .cons (a.mono kρ k) ih
theorem RKT.mono(r:RKT ρ F h v x):RKT ρ' F' h' v x:=by
 induction r with
 |nil=>exact .nil
 |cons p a b c _ ih=>exact .cons (p.mono k) a b (c.mono kρ k) ih
theorem RE.mono{nm:List Str}(r:RE nm ρ F h v x):RE nm ρ' F' h' v x:=by
 induction r with
 |nil=>exact .nil
 |cons a b _ ih=>exact .cons a (b.mono kρ k) ih
omit kρ k in
open Classical in
theorem RKT.is{g:Glb}{v:List (PV×Addr×Value)}{x:List (PV×AV)}(r:RKT ρ F h v x):∀y∈v,(kF g.prog g.w).is h y.1 y.2.1:=by
 induction r with
 |nil=>intro y hy;simp at hy
 |cons p a b c _ ih =>
  intro y hy;rcases q7.mp hy with rfl | hy
  ·exact⟨_,rfl,a,b,p.mono λb o e B B=>⟨e,trivial⟩⟩
  ·exact ih y hy
theorem RO.mono{g:Glb}{l:List Addr}{o:AObj}(ka:∀b∈l,∀ob,h.get? b=some ob→h'.get? b=some ob)(r:RO g ρ F h l o):RO g ρ' F' h' l o:=by
 induction r with
 |list x y=>obtain⟨n,e⟩:=x;exact .list ⟨n,ka _ (.head _) _ e⟩ (y.mono kρ k)
 |dictI x y=>obtain⟨o,es,ep,ho,r⟩:=x;exact .dictI ⟨o,es,ep,ka _ (.head _) _ ho,r⟩ (y.mono kρ k)
 |dictT x y =>
  obtain⟨o,es,ep,ho,a,b,c,d,e⟩:=x;have y':=y.mono kρ k;exact .dictT ⟨o,es,ep,ka _ (.head _) _ ho,a,b,c,y'.is,e⟩ y'
 |inst x y z z' z2=>exact .inst (ka _ (.head _) _ x) (ka _ (.tail _ (.head _)) _ y) (z.mono kρ k) z' z2
 |dead=>exact .dead
end mono
mutual
noncomputable def AV.under(n:Nat):AV→Prop
 | .pv _=>True
 | .ref i=>i<n
 | .tupR l=>AVs.under n l
 | .lstR l=>AVs.under n l
noncomputable def AVs.under(n:Nat):List AV→Prop
 |[]=>True
 |a::r=>a.under n∧AVs.under n r
end
theorem AV.under'1(n:Nat)(p:PV): AV.under n (AV.pv p)=True:=rfl
theorem AV.under'2(n i:Nat): AV.under n (AV.ref i)=(i<n):=rfl
theorem AV.under'3(n:Nat)(l:List AV): AV.under n (AV.tupR l)=AVs.under n l:=rfl
theorem AV.under'4(n:Nat)(l:List AV): AV.under n (AV.lstR l)=AVs.under n l:=rfl
theorem AVs.under'1(n:Nat): AVs.under n []=True:=rfl
theorem AVs.under'2(n:Nat)(a:AV)(r:List AV): AVs.under n (a::r)=(AV.under n a∧AVs.under n r):=rfl
noncomputable def AObj.under(n:Nat):AObj→Prop
 | .list l=>AVs.under n l
 | .dictI kvs=>∀x∈kvs,x.2.under n
 | .dictT kvs=>∀x∈kvs,x.2.under n
 | .inst _ as=>∀x∈as,x.2.under n
 | .dead=>True
theorem RA.under_both{ρ:qG}{F:Addr→Prop}{h:Heap}:(∀{v x},RA ρ F h v x→x.under ρ.length)∧(∀{vs xs},RAs ρ F h vs xs→AVs.under ρ.length xs) :=
 RA.both (λB=>trivial) (λe=>(jL.mp e).1) (λB B B q=>q) (λB B B q=>q) trivial (λB B a b=>⟨a,b⟩)
theorem RA.under{ρ:qG}{F:Addr→Prop}{h:Heap}{v:Value}{x:AV}(r:RA ρ F h v x):x.under ρ.length:=RA.under_both.1 r
theorem RAs.under{ρ:qG}{F:Addr→Prop}{h:Heap}{v:List Value}{x:List AV}(r:RAs ρ F h v x):AVs.under ρ.length x:=RA.under_both.2 r
theorem AVs.under_iff(n:Nat):∀l:List AV,AVs.under n l ↔ ∀x∈l,x.under n:=by
 intro l;induction l with
 |nil =>
  simp[AVs.under'1,AVs.under'2]
 |cons a r ih =>
  simp[AVs.under'1,AVs.under'2,ih]
theorem RKV.under{κ:Type}{ρ:qG}{F:Addr→Prop}{h:Heap}{v:List (κ×Value)}{x:List (κ×AV)}(r:RKV ρ F h v x):∀y∈x,y.2.under ρ.length:=by
 induction r with
 |nil=>intro y hy;simp at hy
 |cons a _ ih=>intro y hy;rcases q7.mp hy with rfl | hy;exact a.under;exact ih y hy
theorem RKT.under{ρ:qG}{F:Addr→Prop}{h:Heap}{v:List (PV×Addr×Value)}{x:List (PV×AV)}(r:RKT ρ F h v x):∀y∈x,y.2.under ρ.length:=by
 induction r with
 |nil=>intro y hy;simp at hy
 |cons _ _ _ a _ ih=>intro y hy;rcases q7.mp hy with rfl | hy;exact a.under;exact ih y hy
theorem RE.under{nm:List Str}{ρ:qG}{F:Addr→Prop}{h:Heap}{v:List DictEntry}{x:List (Nat×AV)}(r:RE nm ρ F h v x):∀y∈x,y.2.under ρ.length:=by
 induction r with
 |nil=>intro y hy;simp at hy
 |cons _ a _ ih=>intro y hy;rcases q7.mp hy with rfl | hy;exact a.under;exact ih y hy
theorem RO.under{g:Glb}{ρ:qG}{F:Addr→Prop}{h:Heap}{l:List Addr}{o:AObj}(r:RO g ρ F h l o):o.under ρ.length:=by
 induction r with
 |list x y=>exact y.under
 |dictI x y=>exact y.under
 |dictT x y=>exact y.under
 |inst x y z z' z2=>exact z.under
 |dead=>trivial
section trim
variable {ρ:qG}{F:Addr→Prop}{h:Heap}(n:Nat)
theorem RA.trim_both:(∀{v x},RA ρ F h v x→x.under n→RA (ρ.take n) F h v x)∧(∀{vs xs},RAs ρ F h vs xs→AVs.under n xs→RAs (ρ.take n) F h vs xs) :=
 RA.both (λr B=>.pv r) (λ{i a l} e q=>.ref (by rw[List.getElem?_take_of_lt (show i<n from q)];exact e)) (λf t B q u=>.tupR f t (q u)) (λf t B q u=>.lstR f t (q u)) (λB=>.nil) (λB B a b u=>.cons (a u.1) (b u.2))
theorem RA.trim(r:RA ρ F h v x)(q:x.under n):RA (ρ.take n) F h v x:=(RA.trim_both n).1 r q
theorem RAs.trim(r:RAs ρ F h v x)(q:AVs.under n x):RAs (ρ.take n) F h v x:=(RA.trim_both n).2 r q
theorem RKV.trim{κ:Type}{v:List (κ×Value)}{x:List (κ×AV)}(r:RKV ρ F h v x)(q:∀y∈x,y.2.under n):RKV (ρ.take n) F h v x:=by
 induction r with
 |nil=>exact .nil
 |cons a _ ih=>exact .cons (a.trim n (q _ (.head _))) (ih λy hy=>q y (.tail _ hy))
theorem RKT.trim(r:RKT ρ F h v x)(q:∀y∈x,y.2.under n):RKT (ρ.take n) F h v x:=by
 induction r with
 |nil=>exact .nil
 |cons a b c d _ ih=>exact .cons a b c (d.trim n (q _ (.head _))) (ih λy hy=>q y (.tail _ hy))
theorem RE.trim{nm:List Str}(r:RE nm ρ F h v x)(q:∀y∈x,y.2.under n):RE nm (ρ.take n) F h v x:=by
 induction r with
 |nil=>exact .nil
 |cons a d _ ih=>exact .cons a (d.trim n (q _ (.head _))) (ih λy hy=>q y (.tail _ hy))
theorem RO.trim{g:Glb}{l:List Addr}{o:AObj}(r:RO g ρ F h l o)(q:o.under n):RO g (ρ.take n) F h l o:=by
 induction r with
 |list x y=>exact .list x (y.trim n q)
 |dictI x y=>exact .dictI x (y.trim n q)
 |dictT x y=>exact .dictT x (y.trim n q)
 |inst x y z z' z2=>exact .inst x y (z.trim n q) z' z2
 |dead=>exact .dead
end trim
noncomputable def Lv(h:Heap)(b:Addr):Prop:=∃o,h.get? b=some o
theorem wh(h:Heap):¬ Lv h h.objs.size:=by rintro ⟨o,e⟩;exact by rw[Heap.get?_none_of_le (qW _)] at e;injection e
theorem kr(hb:h.objs.size≤b):¬ Lv h b:=by rintro ⟨o,e⟩;exact by rw[Heap.get?_none_of_le hb] at e;injection e
theorem vm(hs:Heap.SameBut a h h')(hL:Lv h' a)(b:Addr)(l:Lv h b):Lv h' b:=by
 by_cases e:b=a
 ·rw[e];exact hL
 ·obtain⟨o,q⟩:=l;exact⟨o,hs.extBut b o e q⟩
noncomputable def yc(ρ:qG)(U:St)(b:Addr):Prop:=∃(i:Nat) (l:List Addr) (o:AObj),ρ[i]? = some l∧U.heap[i]? = some o∧o ≠ .dead∧b∈l
noncomputable def Fz(Z:Addr→Prop)(ρ:qG)(U:St)(b:Addr):Prop:=¬ Z b∧¬ yc ρ U b
structure Rel (g:Glb) (Z:Addr→Prop) (bs:List Nat) (ρ:qG) (U:St) (h:Heap):Prop where
 len:ρ.length=U.heap.length
 objs:∀{i:Nat}{l:List Addr}{o:AObj},ρ[i]? = some l→U.heap[i]? = some o→RO g ρ (Fz Z ρ U) h l o
 apart:∀{i j:Nat}{l m:List Addr}{a:Addr},ρ[i]? = some l→ρ[j]? = some m→a∈l→a∈m→i=j
 addrs:∀{i:Nat}{l:List Addr}{a:Addr},ρ[i]? = some l→a∈l→¬ Lv g.base a∧Lv h a∧¬ Z a
 zlt:∀{a:Addr},Z a→¬ Lv g.base a∧Lv h a
 keep:∀b o,g.base.get? b=some o→h.get? b=some o
 bars:∀n∈bs,n≤U.heap.length∧∀{i:Nat}{o:AObj},i<n→U.heap[i]? = some o→o.under n
 strict:bs≠[]→U.strict=true
structure Post (X:Addr→Prop) (ρ:qG) (U:St) (s:Shared) (ρ':qG) (U':St) (s':Shared):Prop where
 pre:∀(i:Nat) (l:List Addr),ρ[i]? = some l→ρ'[i]? = some l
 ext:∀b o,s.heap.get? b=some o→¬ X b→¬ yc ρ U b→s'.heap.get? b=some o
 foot:∀b,Lv s.heap b→¬ X b→¬ yc ρ U b→¬ yc ρ' U' b
 size:∀b,Lv s.heap b→¬ X b→Lv s'.heap b
 gens:s'.gens=s.gens
 os:s'.os=s.os
 str:U'.strict=U.strict
noncomputable abbrev jZ:Addr→Prop:=λB=>False
theorem Post.refl{X:Addr→Prop}{ρ:qG}{U:St}{s:Shared}:Post X ρ U s ρ U s:=⟨λB B e=>e,λB B e B B=>e,λB B B e=>e,λB q B=>q,rfl,rfl,rfl⟩
theorem Post.toks{X:Addr→Prop}{ρ:qG}{U:St}{s:Shared}{ρ':qG}{U':St}{s':Shared}(p:Post X ρ U s ρ' U' s')(t:Nat):Post X ρ U s ρ' U' { s' with toks:=t }:=⟨p.pre,p.ext,p.foot,p.size,p.gens,p.os,p.str⟩
theorem Post.trans{X:Addr→Prop}{ρ ρ' ρ'':qG}{U U' U'':St}{s s' s'':Shared}(p:Post X ρ U s ρ' U' s')(q:Post X ρ' U' s' ρ'' U'' s''):Post X ρ U s ρ'' U'' s'' where
 pre i l e:=q.pre i l (p.pre i l e)
 ext b o e hx hf:=q.ext b o (p.ext b o e hx hf) hx (p.foot b ⟨_,e⟩ hx hf)
 foot b hb hx hf:=q.foot b (p.size b hb hx) hx (p.foot b hb hx hf)
 size b hb hx:=q.size b (p.size b hb hx) hx
 gens:=q.gens.trans p.gens
 os:=q.os.trans p.os
 str:=q.str.trans p.str
theorem Post.wider{X Y:Addr→Prop}{ρ ρ':qG}{U U':St}{s s':Shared}(p:Post X ρ U s ρ' U' s')(k:∀b,X b→Y b):Post Y ρ U s ρ' U' s' :=
 ⟨p.pre,λb o e hy=>p.ext b o e λhx=>hy (k b hx),λb hb hy=>p.foot b hb λhx=>hy (k b hx),λb hb hy=>p.size b hb λhx=>hy (k b hx),p.gens,p.os,p.str⟩
theorem Post.fresh{X Y:Addr→Prop}{ρ ρ':qG}{U U':St}{s s':Shared}(p:Post X ρ U s ρ' U' s')(k:∀b,X b→Lv s.heap b→Y b):Post Y ρ U s ρ' U' s' :=
 ⟨p.pre,λb o e hy=>p.ext b o e λhx=>hy (k b hx ⟨_,e⟩),λb hb hy=>p.foot b hb λhx=>hy (k b hx hb),λb hb hy=>p.size b hb λhx=>hy (k b hx hb),p.gens,p.os,p.str⟩
theorem RA.post{X Z:Addr→Prop}{ρ ρ':qG}{U U':St}{s s':Shared}{v:Value}{x:AV}(r:RA ρ (Fz Z ρ U) s.heap v x)(p:Post X ρ U s ρ' U' s')(k:∀b,X b→Z b):RA ρ' (Fz Z ρ' U') s'.heap v x :=
 r.mono (λi a l=>p.pre i (a::l)) λb o e f B=>⟨p.ext b o e (λhx=>f.1 (k b hx)) f.2,f.1,p.foot b ⟨_,e⟩ (λhx=>f.1 (k b hx)) f.2⟩
theorem RAs.post{X Z:Addr→Prop}{ρ ρ':qG}{U U':St}{s s':Shared}{v:List Value}{x:List AV}(r:RAs ρ (Fz Z ρ U) s.heap v x)(p:Post X ρ U s ρ' U' s')(k:∀b,X b→Z b):RAs ρ' (Fz Z ρ' U') s'.heap v x :=
 r.mono (λi a l=>p.pre i (a::l)) λb o e f B=>⟨p.ext b o e (λhx=>f.1 (k b hx)) f.2,f.1,p.foot b ⟨_,e⟩ (λhx=>f.1 (k b hx)) f.2⟩
theorem RA.zless{Z Z':Addr→Prop}{ρ:qG}{U:St}{h:Heap}{v:Value}{x:AV}(r:RA ρ (Fz Z ρ U) h v x)(k:∀b,Z' b→Z b∨¬ Lv h b):RA ρ (Fz Z' ρ U) h v x :=
 r.mono (λB B B e=>e) λb o e f B=>⟨e,λhz=>by
  rcases k b hz with q | q
  ·exact f.1 q
  ·exact q ⟨_,e⟩,f.2⟩
theorem RAs.zless{Z Z':Addr→Prop}{ρ:qG}{U:St}{h:Heap}{v:List Value}{x:List AV}(r:RAs ρ (Fz Z ρ U) h v x)(k:∀b,Z' b→Z b∨¬ Lv h b):RAs ρ (Fz Z' ρ U) h v x :=
 r.mono (λB B B e=>e) λb o e f B=>⟨e,λhz=>by
  rcases k b hz with q | q
  ·exact f.1 q
  ·exact q ⟨_,e⟩,f.2⟩
section
variable {g:Glb}{Z:Addr→Prop}{bs:List Nat}{ρ:qG}{U:St}{h h':Heap}
theorem Rel.notFoot(R:Rel g Z bs ρ U h)(hb:Z b):¬ yc ρ U b:=by rintro ⟨_,_,_,e,_,_,m⟩;exact(R.addrs e m).2.2 hb
theorem Rel.footLt(R:Rel g Z bs ρ U h)(f:yc ρ U b):Lv h b:=by obtain⟨_,_,_,e,_,_,m⟩:=f;exact(R.addrs e m).2.1
theorem Rel.at_(R:Rel g Z bs ρ U h){i:Nat}{o:AObj}(e:U.heap[i]? = some o):∃l,ρ[i]? = some l:=by
 have:=(jL.mp e).1;exact⟨ρ[i]'(by rw[R.len];exact this),zm _⟩
theorem H1(k:∀b o,h.get? b=some o→h'.get? b=some o)(l:Lv h b):Lv h' b:=by obtain⟨o,e⟩:=l;exact⟨o,k b o e⟩
theorem Rel.grow(R:Rel g Z bs ρ U h)(k:∀b o,h.get? b=some o→h'.get? b=some o):Rel g Z bs ρ U h' where
 len:=R.len
 objs e1 e2:=(R.objs e1 e2).mono (λB B B e=>e) (λb o e f B=>⟨k b o e,f⟩) λb B o e=>k b o e
 apart:=R.apart
 addrs e m:=have q:=R.addrs e m;⟨q.1,(H1 k) q.2.1,q.2.2⟩
 zlt q:=⟨(R.zlt q).1,(H1 k) (R.zlt q).2⟩
 keep b o e:=k b o (R.keep b o e)
 bars:=R.bars
 strict:=R.strict
theorem Rel.inZ(R:Rel g Z bs ρ U h)(k:∀b o,h.get? b=some o→¬ Z b→h'.get? b=some o)(hs:∀b,Lv h b→Lv h' b):Rel g Z bs ρ U h' where
 len:=R.len
 objs e1 e2:=(R.objs e1 e2).mono (λB B B e=>e) (λb o e f B=>⟨k b o e f.1,f⟩) λb hb o e=>k b o e (R.addrs e1 hb).2.2
 apart:=R.apart
 addrs e m:=have q:=R.addrs e m;⟨q.1,hs _ q.2.1,q.2.2⟩
 zlt q:=⟨(R.zlt q).1,hs _ (R.zlt q).2⟩
 keep b o e:=k b o (R.keep b o e) λhz=>(R.zlt hz).1 ⟨_,e⟩
 bars:=R.bars
 strict:=R.strict
theorem Rel.enter{Z':Addr→Prop}(R:Rel g Z bs ρ U h)(k:∀b o,h.get? b=some o→h'.get? b=some o)(hz:∀b,Z' b→Z b∨(¬ Lv h b∧Lv h' b)):Rel g Z' bs ρ U h' where
 len:=R.len
 objs e1 e2:=(R.objs e1 e2).mono (λB B B e=>e) (λb o e f B=>⟨k b o e,λq=>by
  rcases hz b q with x | x
  ·exact f.1 x
  ·exact x.1 ⟨_,e⟩,f.2⟩) λb B o e=>k b o e
 apart:=R.apart
 addrs e m:=have q:=R.addrs e m;⟨q.1,(H1 k) q.2.1,λz=>by
  rcases hz _ z with x | x
  ·exact q.2.2 x
  ·exact x.1 q.2.1⟩
 zlt q:=by
  rcases hz _ q with x | x
  ·exact⟨(R.zlt x).1,(H1 k) (R.zlt x).2⟩
  ·exact⟨by rintro ⟨o,e⟩;exact x.1 ⟨o,k _ _ (R.keep _ _ e) |> λB=>R.keep _ _ e⟩,x.2⟩
 keep b o e:=k b o (R.keep b o e)
 bars:=R.bars
 strict:=R.strict
theorem Rel.leave{Z':Addr→Prop}(R:Rel g Z' bs ρ U h)(k:∀b,Z b→Z' b):Rel g Z bs ρ U h where
 len:=R.len
 objs e1 e2:=(R.objs e1 e2).mono (λB B B e=>e) (λb o e f B=>⟨e,λq=>f.1 (k b q),f.2⟩) λb B o e=>e
 apart:=R.apart
 addrs e m:=have q:=R.addrs e m;⟨q.1,q.2.1,λz=>q.2.2 (k _ z)⟩
 zlt q:=R.zlt (k _ q)
 keep:=R.keep
 bars:=R.bars
 strict:=R.strict
theorem qhb(e:U.heap[i]? = some o)(n:o ≠ .dead)(n':o' ≠ .dead)(b:Addr):yc ρ (U.set i o') b ↔ yc ρ U b:=by
 have hi:=(jL.mp e).1;constructor
 ·rintro ⟨j,l,x,a1,a2,a3,a4⟩
  simp only[St.set,kN] at a2;by_cases hij:i=j
  ·subst hij;exact⟨i,l,o,a1,e,n,a4⟩
  ·rw[if_neg hij] at a2;exact⟨j,l,x,a1,a2,a3,a4⟩
 ·rintro ⟨j,l,x,a1,a2,a3,a4⟩
  by_cases hij:i=j
  ·subst hij;exact⟨i,l,o',a1,by simp[St.set,kN,hi],n',a4⟩
  ·exact⟨j,l,x,a1,by simp[St.set,kN,hij,a2],a3,a4⟩
theorem Rel.set(R:Rel g Z bs ρ U s.heap)(e1:ρ[i]? = some l)(e2:U.heap[i]? = some o)(n:o ≠ .dead)(n':o' ≠ .dead)(k:∀b ob,b ∉ l→s.heap.get? b=some ob→s'.heap.get? b=some ob)(hs:∀b,Lv s.heap b→Lv s'.heap b)(hg:s'.gens=s.gens)(ho:s'.os=s.os)(hu:bs≠[]→∀n∈bs,i<n→o'.under n)(hr:(∀(v:Value) (x:AV),RA ρ (Fz Z ρ U) s.heap v x→RA ρ (Fz Z ρ U) s'.heap v x)→(∀(v:Value) (x:PV),RP (Fz Z ρ U) s.heap v x→RP (Fz Z ρ U) s'.heap v x)→RO g ρ (Fz Z ρ U) s'.heap l o'):
  Rel g Z bs ρ (U.set i o') s'.heap∧Post jZ ρ U s ρ (U.set i o') s':=by
 have hi:=(jL.mp e2).1;have hf:=λb=>qhb (ρ:=ρ) e2 n n' b;have hF:Fz Z ρ (U.set i o')=Fz Z ρ U:=by funext b;simp only[Fz,hf b]
 have out:∀b,¬ yc ρ U b→b ∉ l:=λb q m=>q ⟨i,l,o,e1,e2,n,m⟩;have km:∀b ob,s.heap.get? b=some ob→Fz Z ρ U b→ko ob→s'.heap.get? b=some ob∧Fz Z ρ U b:=λb ob q f B=>⟨k b ob (out b f.2) q,f⟩
 refine⟨{ len:=by rw[R.len];simp[St.set],objs:=?_,apart:=R.apart,addrs:=λa b=>⟨(R.addrs a b).1,hs _ (R.addrs a b).2.1,(R.addrs a b).2.2⟩,zlt:=λq=>⟨(R.zlt q).1,hs _ (R.zlt q).2⟩,keep:=?_,bars:=?_,strict:=R.strict },
  ⟨λB B e=>e,λb ob q B f=>k b ob (out b f) q,λb B B q=>by rw[hf];exact q,λb l B=>hs b l,hg,ho,rfl⟩⟩
 ·intro j m x a1 a2
  rw[hF];simp only[St.set,kN] at a2;by_cases hij:i=j
  ·subst hij
   rw[if_pos rfl,if_pos hi] at a2;injection a2 with a2;subst a2;rw[e1] at a1;injection a1 with a1;subst a1;exact hr (λv x q=>q.mono (λB B B e=>e) km) (λv x q=>q.mono km)
  ·rw[if_neg hij] at a2
   refine(R.objs a1 a2).mono (λB B B e=>e) km λb hb ob q=>k b ob (λm'=>hij (R.apart e1 a1 m' hb)) q
 ·intro b ob q
  refine k b ob (λm=>?_) (R.keep b ob q);exact(R.addrs e1 m).1 ⟨_,q⟩
 ·intro m hm
  have q:=R.bars m hm;refine⟨by simpa [St.set] using q.1,λ{j x} hj a2=>?_⟩;simp only[St.set,kN] at a2;by_cases hij:i=j
  ·subst hij
   rw[if_pos rfl,if_pos hi] at a2;injection a2 with a2;subst a2;exact hu (λz=>by rw[z] at hm;rcases hm) m hm hj
  ·rw[if_neg hij] at a2;exact q.2 hj a2
theorem xJ(hl:ρ.length=U.heap.length)(f:yc (ρ++[l]) { U with heap:=U.heap++[o'] } b):yc ρ U b∨b∈l:=by
 obtain⟨i,m,x,a1,a2,a3,a4⟩:=f;rcases Nat.lt_or_ge i ρ.length with z | z
 ·rw[wK z] at a1
  rw[wK (by rw[←hl];exact z)] at a2;exact .inl ⟨i,m,x,a1,a2,a3,a4⟩
 ·rw[kL z] at a1
  rcases Nat.eq_or_lt_of_le z with y | y
  ·rw[←y,Nat.sub_self] at a1
   exact .inr (qA a1▸a4)
  ·rw[Za (Nat.succ_le_of_lt (Nat.sub_pos_of_lt y))] at a1;injection a1
theorem Rel.newZ{Z':Addr→Prop}{h':Heap}{o':AObj}{l:List Addr}(R:Rel g Z' bs ρ U h)(hZ:∀b,Z b→Z' b)(hl:∀b∈l,Z' b∧¬ Z b)(k:∀b ob,b ∉ l→h.get? b=some ob→h'.get? b=some ob)(hs:∀b,Lv h b→Lv h' b)(hr:RO g (ρ++[l]) (Fz Z (ρ++[l]) { U with heap:=U.heap++[o'] }) h' l o'):Rel g Z bs (ρ++[l]) { U with heap:=U.heap++[o'] } h':=by
 have hlen:=R.len;have pre:∀(i:Nat) (m:List Addr),ρ[i]? = some m→(ρ++[l])[i]? = some m:=λi m e=>by
  rw[wK (jL.mp e).1];exact e
 have back:∀{i:Nat}{m:List Addr},(ρ++[l])[i]? = some m→(ρ[i]? = some m∧i<ρ.length)∨(i=ρ.length∧m=l):=λ{i m} e=>by
  rcases Nat.lt_or_ge i ρ.length with q | q
  ·rw[wK q] at e;exact .inl ⟨e,q⟩
  ·rw[kL q] at e
   rcases Nat.eq_or_lt_of_le q with z | z
   ·rw[←z,Nat.sub_self] at e;exact .inr ⟨z.symm,(qA e).symm⟩
   ·rw[Za (Nat.succ_le_of_lt (Nat.sub_pos_of_lt z))] at e;injection e
 have backO:∀{i:Nat}{x:AObj},i<ρ.length→(U.heap++[o'])[i]? = some x→U.heap[i]? = some x:=λ{i x} q e=>by
  rw[wK (hlen▸q)] at e;exact e
 have km:∀b ob,h.get? b=some ob→Fz Z' ρ U b→ko ob→h'.get? b=some ob∧Fz Z (ρ++[l]) { U with heap:=U.heap++[o'] } b:=λb ob q f B =>
  have hn:b ∉ l:=λm=>f.1 (hl b m).1
  ⟨k b ob hn q,λz=>f.1 (hZ b z),λy=>by
   rcases xJ hlen y with y | y
   ·exact f.2 y
   ·exact hn y⟩
 refine { len:=by rw[qU,qU,hlen];rfl,objs:=?_,apart:=?_,addrs:=?_,zlt:=λq=>⟨(R.zlt (hZ _ q)).1,hs _ (R.zlt (hZ _ q)).2⟩,keep:=?_,bars:=?_,strict:=R.strict }
 ·intro i m x a1 a2
  rcases back a1 with⟨z1,z2⟩ | ⟨z1,z2⟩
  ·exact(R.objs z1 (backO z2 a2)).mono (λi a l e=>pre i (a::l) e) km λb hb ob q=>k b ob (λy=>(R.addrs z1 hb).2.2 (hl b y).1) q
  ·subst z2
   have:x=o':=by
    have a2:(U.heap++[o'])[i]? = some x:=a2;rw[z1,hlen,kL (qW _),Nat.sub_self] at a2;exact(qA a2).symm
   subst this;exact hr
 ·intro i j m m' a a1 a2 a3 a4
  rcases back a1 with⟨z1,z2⟩ | ⟨z1,z2⟩ <;> rcases back a2 with⟨y1,y2⟩ | ⟨y1,y2⟩
  ·exact R.apart z1 y1 a3 a4
  ·subst y2;exact absurd (hl _ a4).1 (R.addrs z1 a3).2.2
  ·subst z2;exact absurd (hl _ a3).1 (R.addrs y1 a4).2.2
  ·exact z1.trans y1.symm
 ·intro i m a a1 a2
  rcases back a1 with⟨z1,z2⟩ | ⟨z1,z2⟩
  ·exact⟨(R.addrs z1 a2).1,hs _ (R.addrs z1 a2).2.1,λz=>(R.addrs z1 a2).2.2 (hZ _ z)⟩
  ·subst z2;exact⟨(R.zlt (hl _ a2).1).1,hs _ (R.zlt (hl _ a2).1).2,(hl _ a2).2⟩
 ·intro b ob e
  exact k b ob (λm=>(R.zlt (hl b m).1).1 ⟨_,e⟩) (R.keep b ob e)
 ·intro m hm
  have q:=R.bars m hm;exact⟨by rw[qU];exact qu q.1 (qS ..),λ{i x} hi a2=>q.2 hi (backO (hlen▸q6 hi q.1) a2)⟩
theorem Rel.new(R:Rel g Z bs ρ U s.heap)(k:∀b ob,s.heap.get? b=some ob→s'.heap.get? b=some ob)(hl:∀b∈l,¬ Lv s.heap b∧Lv s'.heap b)(hn:o' ≠ .dead)(hg:s'.gens=s.gens)(ho:s'.os=s.os)(hr:RO g (ρ++[l]) (Fz Z (ρ++[l]) { U with heap:=U.heap++[o'] }) s'.heap l o'):
  Rel g Z bs (ρ++[l]) { U with heap:=U.heap++[o'] } s'.heap∧Post jZ ρ U s (ρ++[l]) { U with heap:=U.heap++[o'] } s' :=
 ⟨(R.enter (Z':=λb=>Z b∨b∈l) k λb hb=>hb.imp id (hl b)).newZ (λB=>.inl) (λb m=>⟨.inr m,λz=>(hl b m).1 (R.zlt z).2⟩) (λb ob B e=>e) (λB q=>q) hr,
  ⟨λi m e=>by rw[wK (jL.mp e).1];exact e,λb ob q B B=>k b ob q,λb hb B q y=>(xJ R.len y).elim q λm=>(hl b m).1 hb,λb q B=>H1 k q,hg,ho,rfl⟩⟩
theorem Rel.trim(R:Rel g Z bs ρ U s.heap)(R':Rel g Z (U.heap.length::bs) ρ' U' s'.heap)(hU:U₀.heap=U.heap)(p:Post jZ ρ U₀ s ρ' U' s'):
  Rel g Z bs ρ { heap:=U'.heap.take U.heap.length,strict:=U.strict } s'.heap∧Post jZ ρ U s ρ { heap:=U'.heap.take U.heap.length,strict:=U.strict } s':=by
 have hB:=R'.bars _ (.head _);have tk:ρ'.take U.heap.length=ρ:=by
  apply List.ext_getElem?;intro i;rcases Nat.lt_or_ge i U.heap.length with q | q
  ·rw[List.getElem?_take_of_lt q]
   have e:ρ[i]? = some (ρ[i]'(by rw[R.len];exact q)):=zm _;rw[e];exact p.pre _ _ e
  ·rw[Za (qu (List.length_take_le ..) q),Za (by rw[R.len];exact q)]
 have backO:∀{i:Nat}{x:AObj},(U'.heap.take U.heap.length)[i]? = some x→i<U.heap.length∧U'.heap[i]? = some x:=λ{i x} e=>by
  have hi:i<U.heap.length:=q6 (jL.mp e).1 (List.length_take_le ..);rw[List.getElem?_take_of_lt hi] at e;exact⟨hi,e⟩
 have foot0:∀b,yc ρ U b ↔ yc ρ U₀ b:=λb=>by simp only[yc,hU]
 have hf:∀b,¬ yc ρ' U' b→¬ yc ρ { heap:=U'.heap.take U.heap.length,strict:=U.strict } b:=by
  rintro b q ⟨i,l,x,a1,a2,a3,a4⟩
  obtain⟨h1,h2⟩:=backO a2;exact q ⟨i,l,x,p.pre _ _ a1,h2,a3,a4⟩
 refine⟨{ len:=by rw[List.length_take,R.len];exact(Nat.min_eq_left hB.1).symm,objs:=?_,apart:=R.apart,addrs:=?_,zlt:=R'.zlt,keep:=R'.keep,bars:=?_,strict:=R.strict },
  ⟨λB B e=>e,λb ob q hx f=>p.ext b ob q hx (λz=>f ((foot0 b).mpr z)),λb hb hx q=>hf b (p.foot b hb hx λz=>q ((foot0 b).mpr z)),p.size,p.gens,p.os,rfl⟩⟩
 ·intro i l x a1 a2
  obtain⟨h1,h2⟩:=backO a2;have:=(R'.objs (p.pre _ _ a1) h2).trim U.heap.length (hB.2 h1 h2);rw[tk] at this;exact this.mono (λB B B e=>e) (λb ob q f B=>⟨q,f.1,hf b f.2⟩) λb B ob q=>q
 ·intro i l a a1 a2
  have q:=R'.addrs (p.pre _ _ a1) a2;exact q
 ·intro m hm
  have q:=R'.bars m (.tail _ hm);have q2:=R.bars m hm;refine⟨by rw[List.length_take,Nat.min_eq_left hB.1];exact q2.1,λ{i x} hi a2=>?_⟩;obtain⟨h1,h2⟩:=backO a2;exact q.2 hi h2
theorem Rel.bar(R:Rel g Z bs ρ U h):Rel g Z (U.heap.length::bs) ρ { U with strict:=true } h where
 len:=R.len
 objs e1 e2:=R.objs e1 e2
 apart:=R.apart
 addrs:=R.addrs
 zlt:=R.zlt
 keep:=R.keep
 bars n hn:=by
  rcases q7.mp hn with rfl | hn
  ·refine⟨qW _,λ{i o} hi e=>?_⟩
   obtain⟨l,hl⟩:=R.at_ e;have:=(R.objs hl e).under;rw[R.len] at this;exact this
  ·exact R.bars n hn
 strict _:=rfl
end
theorem Xo:∀(ns:List Str) (vs:List Value),ns.length≤vs.length→∀n∈ns,((ns.zip vs).lookup n).isSome=true:=by
 intro ns;induction ns with
 |nil =>
  intro _ _ n hn;simp at hn
 |cons m ns ih =>
  intro c2q;rcases c2q with _ | ⟨v,vs⟩
  ·intro hl n hn
   simp at hl
  ·intro hl n hn
   simp only[List.zip_cons_cons,yL];cases hb:n == m with
   |true=>rfl
   |false =>
    refine ih vs (by simpa using hl) n ?_;rcases q7.mp hn with rfl | h
    ·simp at hb
    ·exact h
theorem X7{α β:Type}(f g:α→Option β):∀(l:List α),(∀x∈l,f x=g x)→l.filterMap f=l.filterMap g:=by
 intro l;induction l with
 |nil =>
  intro _;exact rfl
 |cons a r ih =>
  intro h;rw[List.filterMap_cons,List.filterMap_cons,h a (.head _),ih λx hx=>h x (.tail _ hx)]
theorem Dj:∀(ns:List Str) (vs:List Value),ns.Nodup→ns.length=vs.length→(ns.filterMap λn=>((ns.zip vs).lookup n).map (n,·))=ns.zip vs:=by
 intro ns;induction ns with
 |nil =>
  intro vs _ _;simp
 |cons m ns ih0 =>
  intro c2q;rcases c2q with _ | ⟨v,vs⟩
  ·intro _ hl
   simp at hl
  ·intro hn hl
   rw[List.nodup_cons] at hn;have ih:=ih0 vs hn.2 (by simpa using hl);rw[List.zip_cons_cons,List.filterMap_cons];simp only[yL,zP,Option.map_some];congr 1
   refine(X7 _ _ ns λn hm=>?_).trans ih;have:(n == m)=false:=by
    have:n≠m:=λe=>hn.1 (e▸hm);simpa using this
   rw[this]
noncomputable def Qx(ps:List Arg):Arguments:=⟨[],ps,none,[],[],none,[]⟩
theorem qfb{α:Type}{c:Prop}[Decidable c]{t e r:α}(h:¬ c)(k:e=r):ite c t e=r:=(if_neg h).trans k
theorem qhc{α β γ:Type}{l:List α}{init:β}{f:α→β→Sem (ForInStep β)}{k:β→Sem γ}{r:Sem γ}(hl:l=[])(h:k init=r):(forIn l init f >>= k)=r:=by subst hl;exact h
theorem Qz(fd:FuncData)(ps:List Arg)(vs:List Value)(hp:fd.params=Qx ps)(hd:fd.defaults = .none)(hn:(ps.map (·.arg)).Nodup)(hl:ps.length=vs.length):
  bindArgs fd ⟨vs,[]⟩=pure ((ps.map (·.arg)).zip vs):=by
 have h1:∀n,((ps.map (·.arg)).take n).filter (λn=>(((ps.map (·.arg)).zip vs).lookup n).isNone)=[]:=λn=>by
  rw[List.filter_eq_nil_iff];intro m hm;have:=Xo (ps.map (·.arg)) vs (jR ((qE ..).trans hl)) m (List.mem_of_mem_take hm);rw[Option.isNone_eq_false_iff.mpr this];exact q9
 have h2:=Dj (ps.map (·.arg)) vs hn ((qE ..).trans hl);induction fd
 dsimp only at hp hd;subst hp hd;have c1:¬ (decide (vs.length > (ps.map (·.arg)).length)&&true)=true:=by rw[Bool.and_true,decide_eq_true_eq,qE,hl];exact Nat.lt_irrefl _
 have c2:∀n,¬ (!(((ps.map (·.arg)).take n).filter (λn=>(((ps.map (·.arg)).zip vs).lookup n).isNone)).isEmpty)=true:=λn=>by rw[h1];exact q9
 refine qfb c1 ?_;refine qfb (c2 _) ?_;refine qhc ((qz (List.zip _) (List.drop_nil (α:=Value))).trans List.zip_nil_right) ?_;have h3:=(qz (List.filterMap λn=>(((ps.map λa:Arg=>a.arg).zip vs).lookup n).map (n,·)) (zR (ps.map λa:Arg=>a.arg))).trans h2;exact qz (pure:_→Sem _) h3
structure EOK (g:Glb) (env:PySem.Env) (asg:Str→Bool) (X:Addr→Prop):Prop where
 kind:env.scope.kind = .function
 globals:env.globals=mainGlobals
 builtins:env.builtins=builtinsNs
 xL:X env.locals
 asgOk:∀x,asg x=true→env.kindOf x=some .local∨(env.kindOf x=some .cell∧∃c,env.cells.lookup x=some c∧X c)
 held:∀x,env.kindOf x=some .cell∨env.kindOf x=some .free→∃c,env.cells.lookup x=some c
 one:∀x y c,env.cells.lookup x=some c→env.cells.lookup y=some c→x=y
 apart:∀x c,env.cells.lookup x=some c→c≠env.locals
 xs:∀b,X b→b=env.locals∨∃x,env.cells.lookup x=some b
structure ER (g:Glb) (Z:Addr→Prop) (ρ:qG) (U:St) (h:Heap) (env:PySem.Env) (J:Env):Prop where
 ns:∃m,h.Ns env.locals m∧∀i v x,J.get i=some v→g.nm[i]? = some x→env.kindOf x=some .local→∃val,m x=some val∧RA ρ (Fz Z ρ U) h val v
 cell:∀x c,env.cells.lookup x=some c→∃ov,h.IsCell c ov∧∀i v,J.get i=some v→g.nm[i]? = some x→env.kindOf x=some .cell∨env.kindOf x=some .free→∃val,ov=some val∧RA ρ (Fz Z ρ U) h val v
 zL:Z env.locals
 zC:∀x c,env.cells.lookup x=some c→Z c
theorem ER.post{g:Glb}{Z:Addr→Prop}{bs:List Nat}{ρ ρ':qG}{U U':St}{s s':Shared}{env:PySem.Env}{J:Env}(R:Rel g Z bs ρ U s.heap)(e:ER g Z ρ U s.heap env J)(p:Post jZ ρ U s ρ' U' s'):ER g Z ρ' U' s'.heap env J where
 ns:=by
  obtain⟨m,hn,hv⟩:=e.ns;obtain⟨o,es,ep,ho,r⟩:=hn;refine⟨m,⟨o,es,ep,p.ext _ _ ho id (R.notFoot e.zL),r⟩,λi v x a b c=>?_⟩;obtain⟨val,q1,q2⟩:=hv i v x a b c;exact⟨val,q1,q2.post p λB h=>h.elim⟩
 cell x c hc:=by
  obtain⟨ov,⟨o,ho,hd⟩,hv⟩:=e.cell x c hc;refine⟨ov,⟨o,p.ext _ _ ho id (R.notFoot (e.zC x c hc)),hd⟩,λi v a b k=>?_⟩;obtain⟨val,q1,q2⟩:=hv i v a b k;exact⟨val,q1,q2.post p λB h=>h.elim⟩
 zL:=e.zL
 zC:=e.zC
theorem ER.zmore{g:Glb}{Z Z':Addr→Prop}{ρ:qG}{U:St}{h h':Heap}{env:PySem.Env}{J:Env}(e:ER g Z ρ U h env J)(k:∀b o,h.get? b=some o→h'.get? b=some o)(hz:∀b,Z' b→Z b∨¬ Lv h b)(hz':∀b,Z b→Z' b):ER g Z' ρ U h' env J where
 ns:=by
  obtain⟨m,hn,hv⟩:=e.ns;refine⟨m,hn.keeps k,λi v x a b c=>?_⟩;obtain⟨val,q1,q2⟩:=hv i v x a b c;exact⟨val,q1,(q2.zless hz).mono (λB B B e=>e) λb o e f B=>⟨k b o e,f⟩⟩
 cell x c hc:=by
  obtain⟨ov,hi,hv⟩:=e.cell x c hc;refine⟨ov,hi.keeps k,λi v a b kk=>?_⟩;obtain⟨val,q1,q2⟩:=hv i v a b kk;exact⟨val,q1,(q2.zless hz).mono (λB B B e=>e) λb o e f B=>⟨k b o e,f⟩⟩
 zL:=hz' _ e.zL
 zC x c hc:=hz' _ (e.zC x c hc)
theorem Env.get_put(i:Nat)(v:AV):∀(J:Env) (j:Nat),(J.put i v).get j=if i=j then some v else J.get j:=by
 intro J;induction J with
 |nil =>
  intro j;simp only[Env.put'1,Env.put'2,Env.get'1,Env.get'2];by_cases h:i=j
  ·simp[h]
  ·have:(i == j)=false:=by simpa using h
   simp[h,this]
 |cons hdq r ih0 =>
  intro j;obtain⟨k,w⟩:=hdq;have ih:=ih0 j;by_cases hk:k=i
  ·subst hk
   by_cases h:k=j
   ·subst h;simp[Env.put'1,Env.put'2,Env.get'1,Env.get'2]
   ·have:(k == j)=false:=by simpa using h
    simp[Env.put'1,Env.put'2,Env.get'1,Env.get'2,h,this]
  ·have hk':(k == i)=false:=by simpa using hk
   simp only[Env.put'1,Env.put'2,hk',cond_false,Env.get'1,Env.get'2];by_cases h:k=j
   ·subst h
    have:¬ i=k:=λe=>hk e.symm;simp[this]
   ·have:(k == j)=false:=by simpa using h
    simp only[this,cond_false];exact ih
structure ClsOk (g:Glb) (C:Addr):Prop where
 plain:∀x,plainGet g.K C x=true
 hasDict:hasDictIn g.K C=true
 free:∀m∈g.dat,∀x,g.nm[m]? = some x→findIn g.K (.ref C) x=some none
 seta:findIn g.K (.ref C) "__setattr__" = some (some (.builtin "object.__setattr__"))
 over:plainOver g.K C=true
structure GOk (g:Glb):Prop where
 cls:∀c,(g.P.inits.lookup c).isSome=true→ClsOk g (g.cls c)
 low:Lv g.base sysModules
 kin:g.K.In g.base
 bb:∃mb,g.base.Ns builtinsNs mb∧∀x,x≠("__name__" : Str)→mb x=bootBuiltins x
 nolimit:g.base.NoLimit
 nd:g.nm.Nodup
section
variable {g:Glb}{A:Around}{s:Shared}{env:PySem.Env}{J:Env}{Z:Addr→Prop}{bs:List Nat}{ρ:qG}{U:St}{E:Value→Shared→Prop}{asg:Str→Bool}{X:Addr→Prop}
theorem Xq{l:List Str}(h:l.Nodup){i j:Nat}{x:Str}(a:l[i]? = some x)(b:l[j]? = some x):i=j :=
 (List.getElem?_inj (jL.mp a).1 h).mp (a.trans b.symm)
theorem qhC{i:Nat}{x:Str}{v:AV}{pos:Pos}{Q:Value→Shared→Prop}(ok:EOK g env asg X)(e:ER g Z ρ U s.heap env J)(hv:J.get i=some v)(hx:g.nm[i]? = some x)(hk:env.kindOf x=some .local∨env.kindOf x=some .cell∨env.kindOf x=some .free)(hd:(x == ("__debug__" : Str))=false)(hc:(x == ("__classdict__" : Str))=false)(h:∀val,RA ρ (Fz Z ρ U) s.heap val v→Q val s):wpAny (model g.prog g.w) A (eval (.Name x pos) env) Q E s:=by
 rcases hk with hk | hk | hk
 ·obtain⟨m,hn,q⟩:=e.ns
  obtain⟨val,q1,q2⟩:=q i v x hv hx hk;exact wpAny_Name (wpAny_loadName_local ok.kind hk hn q1 (h val q2)) hd
 ·obtain⟨c,hcl⟩:=ok.held x (.inl hk)
  obtain⟨ov,hi,q⟩:=e.cell x c hcl;obtain⟨val,rfl,q2⟩:=q i v hv hx (.inl hk);exact wpAny_Name (wpAny_loadName_cell ok.kind hk hcl hi (h val q2)) hd
 ·obtain⟨c,hcl⟩:=ok.held x (.inr hk)
  obtain⟨ov,hi,q⟩:=e.cell x c hcl;obtain⟨val,rfl,q2⟩:=q i v hv hx (.inr hk);exact wpAny_Name (wpAny_loadName_free ok.kind hk hcl hi (h val q2) hc) hd
theorem Yg{x:Str}{v:Value}{pos:Pos}{Q:Value→Shared→Prop}(G:GOk g)(ok:EOK g env asg X)(R:Rel g Z bs ρ U s.heap)(hx:env.kindOf x=some .globalImplicit)(hd:(x == ("__debug__" : Str))=false)(hv:nsIn g.K mainGlobals x=some (some v))(h:Q v s):wpAny (model g.prog g.w) A (eval (.Name x pos) env) Q E s:=by
 refine wpAny_Name ?_ hd;rw[loadName_read ok.kind hx];unfold loadGlobal;rw[ok.globals];refine qe ((looks_nsIn (M:=model g.prog g.w) G.kin hv) _ _ _ _ R.keep ?_);exact qp h
theorem qda{x:Str}{v:Value}{pos:Pos}{Q:Value→Shared→Prop}(G:GOk g)(ok:EOK g env asg X)(R:Rel g Z bs ρ U s.heap)(hx:env.kindOf x=some .globalImplicit)(hd:(x == ("__debug__" : Str))=false)(hv:nsIn g.K mainGlobals x=some none)(hb:bootBuiltins x=some v)(hn:x ≠ "__name__")(h:Q v s):wpAny (model g.prog g.w) A (eval (.Name x pos) env) Q E s:=by
 refine wpAny_Name ?_ hd;rw[loadName_read ok.kind hx];unfold loadGlobal;rw[ok.globals,ok.builtins];obtain⟨mb,hns,hm⟩:=G.bb;refine qe ((looks_nsIn (M:=model g.prog g.w) G.kin hv) _ _ _ _ R.keep ?_);refine qe (wpAny_nsGet (hns.keeps R.keep) ?_);rw[hm x hn,hb];exact qp h
inductive PutS (J:Env) (i j:Nat) (v w:AV):Prop
 |here (e:i=j) (h:v=w)
 |there (n:¬ i=j) (h:J.get j=some w)
theorem B1(h:(J.put i v).get j=some w):PutS J i j v w:=by
 rw[Env.get_put] at h;by_cases e:i=j
 ·rw[if_pos e] at h;exact .here e (qA h)
 ·rw[if_neg e] at h;exact .there e h
theorem YY{R:Value→AV→Prop}{Kd:Prop}{nm:List Str}{J:Env}{i:Nat}{x y:Str}{v:AV}{ov ov':Option Value}(nd:nm.Nodup)(hx:nm[i]? = some x)(q:∀j w,J.get j=some w→nm[j]? = some y→Kd→∃u,ov=some u∧R u w)(hxy:y=x→Kd→∃u,ov'=some u∧R u v)(ho:¬ y=x→ov'=ov)(j:Nat)(w:AV)(h1:(J.put i v).get j=some w)(h2:nm[j]? = some y)(h3:Kd):∃u,ov'=some u∧R u w:=by
 induction B1 h1 with
 |here e h=>exact h▸hxy (qA (h2.symm.trans (e▸hx))) h3
 |there n h=>rw[ho λe=>n (Xq nd hx (e▸h2))];exact q j w h h2 h3
theorem vZ{i:Nat}{x:Str}{v:AV}{val:Value}{Q:Unit→Shared→Prop}(G:GOk g)(ok:EOK g env asg X)(R:Rel g Z bs ρ U s.heap)(e:ER g Z ρ U s.heap env J)(hx:g.nm[i]? = some x)(ha:asg x=true)(hv:RA ρ (Fz Z ρ U) s.heap val v)(h:∀s',Rel g Z bs ρ U s'.heap→ER g Z ρ U s'.heap env (J.put i v)→Post X ρ U s ρ U s'→Q () s'):wpAny (model g.prog g.w) A (bindName env x val) Q E s:=by
 have hXZ:∀b,X b→Z b:=λb hb=>orEq (ok.xs b hb) e.zL λ⟨y,hy⟩=>e.zC y b hy;have key:∀(a:Addr) (h':Heap) (t:Tok),X a→Lv h' a→Heap.SameBut a s.heap h'→Rel g Z bs ρ U h'∧Post X ρ U s ρ U { s with heap:=h',toks:=t } ∧
   ∀(w:Value) (y:AV),RA ρ (Fz Z ρ U) s.heap w y→RA ρ (Fz Z ρ U) h' w y:=by
  intro a h' t hXa hL hs;have hz:=hXZ a hXa;have pp:Post X ρ U s ρ U { s with heap:=h',toks:=t }:=⟨λB B e=>e,λb o e hx B=>hs.extBut b o (λq=>hx (q▸hXa)) e,λB B B q=>q,λb l B=>vm hs hL b l,rfl,rfl,rfl⟩
  exact⟨R.inZ (λb o e hz'=>hs.extBut b o (λq=>hz' (q▸hz)) e) (vm hs hL),pp,λw y r=>r.post pp hXZ⟩
 unfold bindName;refine qe (jX (wpAny_point (qe ?_)));rcases ok.asgOk x ha with hk | ⟨hk,c,hc,hXc⟩
 ·obtain⟨m,hn,q⟩:=e.ns
  refine wpAny_storeName_local hk hn (λh' hn' hs=>wpAny_point ?_) (by rw[ok.kind];rfl);obtain⟨k1,k2,k3⟩:=key env.locals h' (s.toks+1) ok.xL (let ⟨o,_,_,e,_⟩:=hn';⟨o,e⟩) hs;refine h _ k1 ⟨⟨_,hn',λj w y=>YY (R:=RA ρ (Fz Z ρ U) h') G.nd hx (λj w h1 h2 h3=>(q j w y h1 h2 h3).imp λu h=>⟨h.1,k3 _ _ h.2⟩) (λe B=>⟨val,if_pos e,k3 _ _ hv⟩) (λn=>if_neg n) j w⟩,λy c hc=>?_,e.zL,e.zC⟩ k2;obtain⟨ov,hi,z⟩:=e.cell y c hc;exact⟨ov,hi.sameBut hs (ok.apart y c hc),YY (R:=RA ρ (Fz Z ρ U) h') G.nd hx (λj w h1 h2 h3=>(z j w h1 h2 h3).imp λu h=>⟨h.1,k3 _ _ h.2⟩) (λe h3=>absurd h3 (by rw[e,hk];decide)) λB=>rfl⟩
 ·obtain⟨ov,hi,z⟩:=e.cell x c hc
  refine wpAny_storeName_cell ok.kind hk hc hi (λh' hi' hs=>wpAny_point ?_);obtain⟨k1,k2,k3⟩:=key c h' s.toks hXc (let ⟨o,e,_⟩:=hi';⟨o,e⟩) hs;refine h _ k1 ⟨?_,λy d hd=>?_,e.zL,e.zC⟩ k2
  ·obtain⟨m,hn,q⟩:=e.ns
   exact⟨m,hn.sameBut hs (ok.apart x c hc).symm,λj w y=>YY (R:=RA ρ (Fz Z ρ U) h') G.nd hx (λj w h1 h2 h3=>(q j w y h1 h2 h3).imp λu h=>⟨h.1,k3 _ _ h.2⟩) (λe h3=>absurd h3 (by rw[e,hk];decide)) (λB=>rfl) j w⟩
  ·by_cases hcd:c=d
   ·have hyx:y=x:=ok.one y x d hd (hcd▸hc)
    exact⟨some val,hcd▸hi',λj w h1 h2 B=>by
     induction B1 h1 with
     |here _ h=>exact⟨val,rfl,h▸k3 _ _ hv⟩
     |there n _=>exact absurd (Xq G.nd hx (hyx▸h2)) n⟩
   ·obtain⟨ov2,hi2,z2⟩:=e.cell y d hd
    exact⟨ov2,hi2.sameBut hs (Ne.symm hcd),YY (R:=RA ρ (Fz Z ρ U) h') G.nd hx (λj w h1 h2 h3=>(z2 j w h1 h2 h3).imp λu h=>⟨h.1,k3 _ _ h.2⟩) (λe h3=>absurd (qA (hc.symm.trans (e▸hd))) hcd) λB=>rfl⟩
end
theorem wG:jl≤sizeLine:=by unfold jl sizeLine;decide
section
variable {g:Glb}{A:Around}{s:Shared}{Z:Addr→Prop}{bs:List Nat}{ρ:qG}{U:St}{E:Value→Shared→Prop}{F:Addr→Prop}{h:Heap}
theorem RAs.length:RAs ρ F h vs xs→vs.length=xs.length:=by
 revert xs
 induction vs with
 |nil=>intro xs r;rcases r;rfl
 |cons v vs ih=>intro xs r;cases r with | cons a b=>simp[ih b]
theorem RAs.get{vs:List Value}{xs:List AV}(r:RAs ρ F h vs xs){j:Nat}{x:AV}(e:xs[j]? = some x):∃v,vs[j]? = some v∧RA ρ F h v x:=by
 revert xs j
 induction vs with
 |nil=>intro xs r j e;rcases r;simp at e
 |cons v vs ih =>
  intro xs r j e;cases r with
  |cons a b =>
   induction j using Nat.casesOn with
   |zero=>simp at e;subst e;exact⟨_,rfl,a⟩
   |succ j=>obtain⟨v,h1,h2⟩:=ih b (by simpa using e);exact⟨v,by simpa using h1,h2⟩
theorem RAs.append(r:RAs ρ F h vs xs)(q:RAs ρ F h ws ys):RAs ρ F h (vs++ws) (xs++ys):=by
 revert xs
 induction vs with
 |nil=>intro xs r;rcases r;exact q
 |cons v vs ih=>intro xs r;cases r with | cons a b=>exact .cons a (ih b)
theorem RAs.take(r:RAs ρ F h vs xs)(n:Nat):RAs ρ F h (vs.take n) (xs.take n):=by
 revert xs n
 induction vs with
 |nil=>intro xs r n;rcases r;simp;exact .nil
 |cons v vs ih =>
  intro xs r n;cases r with
  |cons a b=>induction n using Nat.casesOn with
   |zero=>exact .nil
   |succ n=>exact .cons a (ih b n)
theorem RAs.drop(r:RAs ρ F h vs xs)(n:Nat):RAs ρ F h (vs.drop n) (xs.drop n):=by
 revert xs n
 induction vs with
 |nil=>intro xs r n;rcases r;simp;exact .nil
 |cons v vs ih =>
  intro xs r n;cases r with
  |cons a b=>induction n using Nat.casesOn with
   |zero=>exact .cons a b
   |succ n=>exact ih b n
theorem RPs.toA(r:RPs F h vs ps):RAs ρ F h vs (ps.map .pv):=by
 revert ps
 induction vs with
 |nil=>intro ps r;rcases r;exact .nil
 |cons v vs ih=>intro ps r;cases r with | cons a b=>exact .cons (.pv a) (ih b)
theorem RAs.toP(r:RAs ρ F h vs xs)(e:wO xs=some ps):RPs F h vs ps:=by
 revert xs ps
 induction vs with
 |nil=>intro xs ps r e;rcases r;simp[wO] at e;subst e;exact .nil
 |cons v vs ih =>
  intro xs ps r e;cases r with
  | @cons _ x _ xs a b =>
   induction x using Mine.AV.casesOn with
   |pv p =>
    simp only[wO,yK] at e;obtain⟨q,h1,rfl⟩:=e;cases a with | pv a=>exact .cons a (ih b h1)
   |_=>simp[wO] at e
theorem RA.mkTup(f:F a)(t:kZ h a vs.toArray)(r:RAs ρ F h vs xs):RA ρ F h (.ref a) (mkTup xs):=by
 unfold Mine.mkTup;cases e:wO xs with
 |some ps=>exact .pv (.tup f t (r.toP e))
 |none=>exact .tupR f t r
theorem RA.mkLst(f:F a)(t:h.IsList a vs.toArray)(r:RAs ρ F h vs xs):RA ρ F h (.ref a) (mkLst xs):=by
 unfold Mine.mkLst;cases e:wO xs with
 |some ps=>exact .pv (.lst f t (r.toP e))
 |none=>exact .lstR f t r
set_option tactic.hygienic true in
set_option backward.match.sparseCases false in
theorem zH(R:Rel g Z bs ρ U h)(r:RA ρ (Fz Z ρ U) h v x)(e:qR U x=some l):
  ∃a vs,v = .ref a∧RAs ρ (Fz Z ρ U) h vs l∧((wd x=true∧h.IsTuple a vs.toArray)∨(zj x=true∧wd x=false∧h.IsList a vs.toArray)):=by
 induction x using Mine.AV.casesOn with
 |pv p =>
  have r:=r.pv_;induction p using Mine.PV.casesOn with
  |tup l0 =>
   obtain rfl:l0.map .pv=l:=qA e;obtain⟨a,vs,rfl,_,t,q⟩:=r.tup_;exact⟨_,_,rfl,q.toA,.inl ⟨rfl,t⟩⟩
  |lst l0 =>
   obtain rfl:l0.map .pv=l:=qA e;obtain⟨a,vs,rfl,_,t,q⟩:=r.lst_;exact⟨_,_,rfl,q.toA,.inr ⟨rfl,rfl,t⟩⟩
  |_=>injection e
 |tupR l0 =>
  obtain rfl:l0=l:=qA e;obtain⟨a,vs,rfl,_,t,q⟩:=r.tupR_;exact⟨_,_,rfl,q,.inl ⟨rfl,t⟩⟩
 |lstR l0 =>
  obtain rfl:l0=l:=qA e;obtain⟨a,vs,rfl,_,t,q⟩:=r.lstR_;exact⟨_,_,rfl,q,.inr ⟨rfl,rfl,t⟩⟩
 |ref i =>
  obtain⟨a,l',rfl,q⟩:=r.ref_;have e:(match U.heap[i]? with | some (.list l)=>some l | _=>none)=some l:=e;split at e
  ·rename_i l'' hq
   injection e with e;subst e;obtain⟨vs,_,x,y⟩:=(R.objs q hq).list_;exact⟨_,_,rfl,y,.inr ⟨rfl,rfl,x.isList⟩⟩
  ·injection e
set_option tactic.hygienic true in
set_option backward.match.sparseCases false in
theorem qcr(R:Rel g Z bs ρ U h)(r:RA ρ (Fz Z ρ U) h v x)(e:XW U x=some p):RP (λB=>True) h v p:=by
 induction x using Mine.AV.casesOn with
 |pv p0 =>
  obtain rfl:p0=p:=qA e;exact r.pv_.mono λb o e B B=>⟨e,trivial⟩
 |ref i =>
  obtain⟨a,l',rfl,q⟩:=r.ref_;have e:(match U.heap[i]? with | some (.list l)=>(wO l).map .lst | _=>none)=some p:=e;split at e
  ·rename_i l'' hq
   obtain⟨ps,h1,rfl⟩:=yK.mp e;obtain⟨vs,_,x,y⟩:=(R.objs q hq).list_;exact .lst trivial x.isList ((y.toP h1).mono λb o e B B=>⟨e,trivial⟩)
  ·injection e
 |_=>injection e
structure Room (d:Nat) (A:Around):Prop where
 depth:A.depth+2 * d+10<recursionLimit
 units:A.units+20 * d+200<cLine
 handled:A.handled=none
 guards:A.guards=some []
theorem Room.now(r:Room d A):A.depth<recursionLimit:=qP (qu (qS ..) (qS ..)) r.depth
theorem Room.deep1(r:Room (d+1) A):A.depth+1+2 * d+11<recursionLimit:=by have:=r.depth;exact qP (jR (qz (· + 11) (Nat.add_right_comm A.depth 1 (2 * d)))) this
theorem Room.unit1(r:Room (d+1) A):A.units+3+20 * d+210<cLine:=by have:=r.units;exact qP (qu (jR (qz (· + 210) (Nat.add_right_comm A.units 3 (20 * d)))) (j3 (show 213≤220 by decide) (A.units+20 * d))) this
noncomputable abbrev jq(g:Glb)(Z:Addr→Prop)(bs:List Nat)(ρ:qG)(U:St)(s:Shared)(r:AV)(U':St)(Q:Value→Shared→Prop):Prop :=
 ∀val s' ρ',Rel g Z bs ρ' U' s'.heap→Post jZ ρ U s ρ' U' s'→RA ρ' (Fz Z ρ' U') s'.heap val r→Q val s'
theorem jq.toks{r:AV}{Q:Value→Shared→Prop}(R:Rel g Z bs ρ U s.heap)(K:jq g Z bs ρ U s r U Q){val:Value}(t:Nat)(q:RA ρ (Fz Z ρ U) s.heap val r):Q val { s with toks:=t } :=
 K val _ ρ R (Post.refl.toks t) q
theorem jq.same{r:AV}{Q:Value→Shared→Prop}(R:Rel g Z bs ρ U s.heap)(K:jq g Z bs ρ U s r U Q){val:Value}(q:RA ρ (Fz Z ρ U) s.heap val r):Q val s :=
 K val _ ρ R Post.refl q
theorem jq.int{i:Int}{Q:Value→Shared→Prop}(R:Rel g Z bs ρ U s.heap)(K:jq g Z bs ρ U s (.pv (.int i)) U Q)(u t:Nat):Q (.int i u) { s with toks:=t }:=K.toks R t (.pv (.int _ _))
theorem jq.bool{b:Bool}{Q:Value→Shared→Prop}(R:Rel g Z bs ρ U s.heap)(K:jq g Z bs ρ U s (.pv (.bool b)) U Q):Q (.bool b) s:=K.same R (.pv (.bool _))
theorem Post.grow(k:∀b o,s.heap.get? b=some o→s'.heap.get? b=some o)(hg:s'.gens=s.gens)(ho:s'.os=s.os):Post jZ ρ U s ρ U s' :=
 ⟨λB B e=>e,λb o e B B=>k b o e,λB B B q=>q,λB q B=>H1 k q,hg,ho,rfl⟩
theorem Rel.notFootNew(R:Rel g Z bs ρ U h)(hb:¬ Lv h b):Fz Z ρ U b :=
 ⟨λz=>hb (R.zlt z).2,λf=>hb (R.footLt f)⟩
theorem size_push'(h:Heap)(o:Obj):h.objs.size≤(h.push o).objs.size:=by rw[yq];exact wt _
theorem YV{vs:List Value}{xs:List AV}{Q:Value→Shared→Prop}(R:Rel g Z bs ρ U s.heap)(r:RAs ρ (Fz Z ρ U) s.heap vs xs)(K:jq g Z bs ρ U s (Mine.mkTup xs) U Q)(t:Nat):
  Q (.ref s.heap.objs.size) { s with heap:=s.heap.push { cls:=.type "tuple",data:=.seq vs.toArray },toks:=t }:=by
 have k:∀b o,s.heap.get? b=some o→(s.heap.push { cls:=.type "tuple",data:=.seq vs.toArray }).get? b=some o:=λb o e=>jd _ e;refine K _ _ ρ (R.grow k) (Post.grow k rfl rfl) (.mkTup (vs:=vs) (R.notFootNew (wh _)) (.new (jy _ rfl)) (r.mono (λB B B e=>e) λb o e f B=>⟨k b o e,f⟩))
theorem YU{vs:List Value}{xs:List AV}{Q:Value→Shared→Prop}(R:Rel g Z bs ρ U s.heap)(r:RAs ρ (Fz Z ρ U) s.heap vs xs)(K:jq g Z bs ρ U s (Mine.mkLst xs) U Q)(t:Nat):
  Q (.ref s.heap.objs.size) { s with heap:=s.heap.push { cls:=.type "list",data:=.seq vs.toArray },toks:=t }:=by
 have k:∀b o,s.heap.get? b=some o→(s.heap.push { cls:=.type "list",data:=.seq vs.toArray }).get? b=some o:=λb o e=>jd _ e;refine K _ _ ρ (R.grow k) (Post.grow k rfl rfl) (.mkLst (vs:=vs) (R.notFootNew (wh _)) ⟨_,jy _ rfl,rfl,_,rfl⟩ (r.mono (λB B B e=>e) λb o e f B=>⟨k b o e,f⟩))
theorem RAs.newO(R:Rel g Z bs ρ U s.heap)(r:RAs ρ (Fz Z ρ U) s.heap vs xs)(k:∀b o,s.heap.get? b=some o→h'.get? b=some o)(hl:∀b∈l,¬ Lv s.heap b):
  RAs (ρ++[l]) (Fz Z (ρ++[l]) { U with heap:=U.heap++[o'] }) h' vs xs :=
 r.mono (λi a l e=>by rw[wK (jL.mp e).1];exact e) λb o e f B=>⟨k b o e,f.1,λq=>by
  rcases xJ R.len q with q | q
  ·exact f.2 q
  ·exact hl b q ⟨_,e⟩⟩
theorem Hv{s':Shared}{o':AObj}{l:List Addr}{a:Addr}{Q:Value→Shared→Prop}(R:Rel g Z bs ρ U s.heap)(K:jq g Z bs ρ U s (U.new o').1 (U.new o').2 Q)(k:∀b ob,s.heap.get? b=some ob→s'.heap.get? b=some ob)(hl:∀b∈a::l,¬ Lv s.heap b∧Lv s'.heap b)(hn:o' ≠ .dead)(hg:s'.gens=s.gens)(ho:s'.os=s.os)(hr:RO g (ρ++[a::l]) (Fz Z (ρ++[a::l]) { U with heap:=U.heap++[o'] }) s'.heap (a::l) o'):Q (.ref a) s':=by
 have q:=Rel.new (o':=o') (l:=a::l) R k hl hn hg ho hr;exact K _ _ _ q.1 q.2 (.ref (l:=l) (by simp[R.len]))
theorem BN{vs:List Value}{xs:List AV}{Q:Value→Shared→Prop}(R:Rel g Z bs ρ U s.heap)(r:RAs ρ (Fz Z ρ U) s.heap vs xs)(K:jq g Z bs ρ U s (U.new (.list xs)).1 (U.new (.list xs)).2 Q)(t:Nat):
  Q (.ref s.heap.objs.size) { s with heap:=s.heap.push { cls:=.type "list",data:=.seq vs.toArray },toks:=t }:=by
 have k:∀b o,s.heap.get? b=some o→(s.heap.push { cls:=.type "list",data:=.seq vs.toArray }).get? b=some o:=λb o e=>jd _ e;refine Hv (s':={ s with heap:=s.heap.push { cls:=.type "list",data:=.seq vs.toArray },toks:=t }) (l:=[]) R K k (λb hb=>?_) (λx=>nomatch x) rfl rfl (.list ⟨_,jy _ rfl⟩ (r.newO R k λb hb=>?_))
 ·simp only[qQ] at hb;subst hb;exact⟨wh _,⟨_,jy _ rfl⟩⟩
 ·simp only[qQ] at hb;subst hb;exact wh _
end
section
variable {g:Glb}{A:Around}{s:Shared}{Z:Addr→Prop}{bs:List Nat}{ρ:qG}{U:St}{E:Value→Shared→Prop}{F:Addr→Prop}{h:Heap}{prog:Program}{w:World}
theorem Xg(h:a.natAbs<10 ^ 1001):Builtin.Int.intBits a≤3400:=by
 unfold Builtin.Int.intBits;by_cases h0:(a == 0)=true
 ·rw[if_pos h0];exact j4 _
 ·rw[if_neg h0]
  exact Nat.succ_le_of_lt (kM ((Nat.log2_lt λe=>h0 (zr.mpr (Int.natAbs_eq_zero.mp e))).mpr (jp h (by decide))))
set_option exponentiation.threshold 2000
theorem wI(h1:Builtin.Int.intBits a≤3400)(h2:Builtin.Int.intBits b≤3400):IntMulOk a b:=by
 have:Builtin.Int.intTooBig (Builtin.Int.intBits a+Builtin.Int.intBits b)=false :=
  decide_eq_false_iff_not.mpr (Int.not_lt.mpr (Int.ofNat_le.mpr (qu (yt h1 h2) (by decide:3400+3400≤2 ^ 27))))
 unfold IntMulOk;rw[this,Bool.and_false];decide
theorem qdi{o:Op}{a b c:Int}{t u:Tok}{Q:Value→Shared→Prop}(e:qlw o a b=some c)(h:∀t',Q (.int c t') { s with toks:=s.toks+1 }):
  wpAny (model prog w) A (binaryOp (opK o) (.int a t) (.int b u)) Q E s:=by
 induction o with
 |add=>obtain rfl:=qA e;exact PySem.P.add_int (h _)
 |sub=>obtain rfl:=qA e;exact PySem.P.sub_int (h _)
 |mul =>
  obtain⟨hs,e⟩:=qI (show(if (vT a&&vT b)=true then some (a * b) else none)=some c from e);obtain rfl:=qA e;exact PySem.P.mul_int (h _) (wI (Xg (qr (qc hs).1)) (Xg (qr (qc hs).2)))
 |fdiv =>
  induction gL (show(if b=0 then none else if b.natAbs<1073741824 then some (a.fdiv b) else none)=some c from e) with
  |inl _ e=>injection e
  |inr h0 e =>
   obtain⟨h1,e⟩:=qI e;obtain rfl:=qA e;exact PyProof.Rows.floordiv_int h0 (h _) (.inl (PyProof.noPylong_small (by simpa using h1)))
 |mod =>
  induction gL (show(if b=0 then none else some (a.fmod b))=some c from e) with
  |inl _ e=>injection e
  |inr h0 e=>obtain rfl:=qA e;exact PyProof.Rows.mod_int' h0 (h _)
 |pow =>
  obtain⟨hs,e⟩:=qI (show(if (decide (0≤b)&&decide (b≤1000)&&decide (a=10))=true then some (a ^ b.toNat) else none)=some c from e);obtain rfl:=qA e;have hs:=qc hs;have h1:=qc hs.1;have h2:b≤1000:=qr h1.2;have hb:Builtin.Int.intBits a * b≤2 ^ 27:=by
   rw[show a=10 from qr hs.2,show Builtin.Int.intBits 10=4 by decide +kernel];exact zB (Int.mul_le_mul_of_nonneg_left h2 (by decide)) (by decide)
  exact PyProof.Rows.pow_int (qr h1.1) hb (h _)
theorem Q3{x y:Str}(h:(x.length == 0)=true):x++y=y:=by
 have:x.cps.size=0:=by simpa [Str.length] using h
 obtain⟨c⟩:=x;have:c=#[]:=Array.eq_empty_of_size_eq_zero this;subst this;exact Str.ext' (by simp[Str.cps_append])
theorem XK{x y:Str}(h:(y.length == 0)=true):x++y=x:=by
 have:y.cps.size=0:=by simpa [Str.length] using h
 obtain⟨c⟩:=y;have:c=#[]:=Array.eq_empty_of_size_eq_zero this;subst this;exact Str.ext' (by simp[Str.cps_append])
set_option tactic.hygienic true in
theorem qdg{x y:Str}{t u:Tok}{Q:Value→Shared→Prop}(hl:x.length+y.length≤jl)(h:∀t' tk,Q (.str (x++y) t') { s with toks:=tk }):
  wpAny (model prog w) A (binaryOp .Add (.str x t) (.str y u)) Q E s:=by
 refine PySem.P.add_str ?_;split
 ·rename_i hx;rw[Q3 hx] at h;exact h u s.toks
 ·split
  ·rename_i hy;rw[XK hy] at h;exact h t s.toks
  ·refine⟨?_,h _ _⟩
   rw[Str.length_append];exact qu hl wG
theorem qdh{t b:Addr}{vs ws:List Value}{Q:Value→Shared→Prop}(ht:s.heap.IsTuple t vs.toArray)(hb:s.heap.IsTuple b ws.toArray)(h0:vs=[]→Q (.ref b) s)(h1:vs≠[]→ws=[]→Q (.ref t) s)(h2:Q (.ref s.heap.objs.size) { s with heap:=s.heap.push { cls:=.type "tuple",data:=.seq (vs++ws).toArray } })(hsz:vs.length+ws.length≤sizeLine):
  wpAny (model prog w) A (binaryOp .Add (.ref t) (.ref b)) Q E s:=by
 obtain⟨⟨cls,dd,data,sl⟩,ho,hc,n,hd⟩:=id ht;obtain⟨⟨cls2,dd2,data2,sl2⟩,ho2,hc2,n2,hd2⟩:=id hb;simp only at hc hd hc2 hd2;subst hc hd hc2 hd2;have e:vs.toArray++ws.toArray=(vs++ws).toArray:=by simp
 by_cases hv:vs=[]
 ·exact concat_meets ⟨_,ho,rfl⟩ ⟨_,ho2,rfl⟩ noFill_tuple_add seq_tuple_add PySem.F.slot_tuple_add PySem.F.entry_tuple_add (PySem.F.args_tuple_add_2 _ _)
   (tuple_addW0 t b vs.toArray ws.toArray n n2 dd dd2 sl sl2 (by simp[hv])) ⟨ho,ho2,h0 hv⟩
 ·by_cases hw:ws=[]
  ·exact concat_meets ⟨_,ho,rfl⟩ ⟨_,ho2,rfl⟩ noFill_tuple_add seq_tuple_add PySem.F.slot_tuple_add PySem.F.entry_tuple_add (PySem.F.args_tuple_add_2 _ _)
    (tuple_addW1 t b vs.toArray ws.toArray n n2 dd dd2 sl sl2 (by simpa using hv) (by simp[hw])) ⟨ho,ho2,h1 hv hw⟩
  ·refine concat_meets ⟨_,ho,rfl⟩ ⟨_,ho2,rfl⟩ noFill_tuple_add seq_tuple_add PySem.F.slot_tuple_add PySem.F.entry_tuple_add (PySem.F.args_tuple_add_2 _ _)
    (tuple_addW2 t b vs.toArray ws.toArray n n2 dd dd2 sl sl2 (by simpa using hv) (by simpa using hw) (by rw[ze,ze];exact hsz)) ⟨ho,ho2,?_⟩
   rw[e];exact h2
theorem qdf{l b:Addr}{vs ws:List Value}{Q:Value→Shared→Prop}(hl:s.heap.IsList l vs.toArray)(hb:s.heap.IsList b ws.toArray)(h:Q (.ref s.heap.objs.size) { s with heap:=s.heap.push { cls:=.type "list",data:=.seq (vs++ws).toArray } })(hsz:vs.length+ws.length≤sizeLine):
  wpAny (model prog w) A (binaryOp .Add (.ref l) (.ref b)) Q E s:=by
 refine wZ λGo hGo=>?_;obtain⟨⟨cls,dd,data,sl⟩,ho,hc,n,hd⟩:=id hl;obtain⟨⟨cls2,dd2,data2,sl2⟩,ho2,hc2,n2,hd2⟩:=id hb;refine hGo ?_;simp only at hc hd hc2 hd2;subst hc hd hc2 hd2;have e:vs.toArray++ws.toArray=(vs++ws).toArray:=by simp
 refine concat_meets ⟨_,ho,rfl⟩ ⟨_,ho2,rfl⟩ noFill_list_add seq_list_add PySem.F.slot_list_add PySem.F.entry_list_add (PySem.F.args_list_add_2 _ _) (list_addW l b vs.toArray ws.toArray n n2 dd dd2 sl sl2 (by simpa using hsz)) ⟨ho,ho2,?_⟩;rw[e];exact h
theorem Qu(e:qR U x=some l)(ht:wd x=true)(r:RA ρ F h v x):RA ρ F h v (mkTup l):=by
 induction x using Mine.AV.casesOn with
 |pv p =>
  induction p using Mine.PV.casesOn with
  |tup l0 =>
   obtain rfl:l0.map .pv=l:=qA e;obtain⟨a,vs,rfl,f,t,q⟩:=r.pv_.tupO;exact .mkTup f t q.toA
  |_=>injection ht
 |tupR l0 =>
  obtain rfl:l0=l:=qA e;obtain⟨a,vs,rfl,f,t,q⟩:=r.tupRO;exact .mkTup f t q
 |_=>injection ht
theorem QQ(h1:zj v=true)(h2:wd v=true):False:=by
 induction v using Mine.AV.casesOn with
 |pv p=>rcases p <;> first | (injection h1;done) | (injection h2;done)
 |_=>first | (injection h1;done) | (injection h2;done)
theorem qmJ{m:Bool}{va vb:Value}{v w r:AV}{U':St}{Q:Value→Shared→Prop}(R:Rel g Z bs ρ U s.heap)(ra:RA ρ (Fz Z ρ U) s.heap va v)(rb:RA ρ (Fz Z ρ U) s.heap vb w)(e:qiL m v w U=some (r,U'))(K:jq g Z bs ρ U s r U' Q):wpAny (model g.prog g.w) A (binaryOp .Add va vb) Q E s:=by
 obtain⟨l,hl,e0⟩:=qo e;obtain⟨r',hr,e⟩:=qo e0;obtain⟨a,vs,rfl,r1,k1⟩:=zH R ra hl;obtain⟨b,ws,rfl,r2,k2⟩:=zH R rb hr;have hlen:∀(q:l.length+r'.length≤jl),vs.length+ws.length≤sizeLine:=λq=>by rw[r1.length,r2.length];exact qu q wG
 rcases gL e with⟨ht,e⟩ | ⟨_,e⟩
 ·have ht:=qc ht
  obtain⟨hb,e⟩:=qI e;obtain⟨rfl,rfl⟩:=qx e;have k1:=(k1.resolve_right λz=>by rw[ht.1] at z;injection z.2.1).2;have k2:=(k2.resolve_right λz=>by rw[ht.2] at z;injection z.2.1).2;refine qdh k1 k2 (λhv=>K.same R ?_) (λB hw=>K.same R ?_) (YV R (r1.append r2) K s.toks) (hlen hb)
  ·rw[hv] at r1;rw[List.eq_nil_of_length_eq_zero r1.length.symm];exact Qu hr ht.2 rb
  ·rw[hw] at r2;rw[List.eq_nil_of_length_eq_zero r2.length.symm,zR];exact Qu hl ht.1 ra
 ·obtain⟨ht,e⟩:=qI e
  have ht:=qc ht;obtain⟨hb,e⟩:=qI e;have k1:=(k1.resolve_left λz=>QQ ht.1 z.1).2.2;have k2:=(k2.resolve_left λz=>QQ ht.2 z.1).2.2;refine qdf k1 k2 ?_ (hlen hb);rcases gL e with⟨_,e⟩ | ⟨_,e⟩
  ·obtain⟨rfl,rfl⟩:=qx e;exact BN R (r1.append r2) K s.toks
  ·obtain⟨rfl,rfl⟩:=qx e;exact YU R (r1.append r2) K s.toks
theorem qmK{o:Op}{m:Bool}{va vb:Value}{v w r:AV}{U':St}{Q:Value→Shared→Prop}(R:Rel g Z bs ρ U s.heap)(ra:RA ρ (Fz Z ρ U) s.heap va v)(rb:RA ρ (Fz Z ρ U) s.heap vb w)(e:kj o m v w U=some (r,U'))(K:jq g Z bs ρ U s r U' Q):wpAny (model g.prog g.w) A (binaryOp (opK o) va vb) Q E s:=by
 rcases ki e with⟨_,e⟩ | ⟨_,e⟩
 ·obtain⟨a,t,rfl,_,e1⟩:=ra.onInt e
  refine wZ λGo hGo=>?_;obtain⟨b,u,rfl,_,e2⟩:=rb.onInt e1;obtain⟨c,hc,e3⟩:=qo e2;obtain⟨rfl,rfl⟩:=qx e3;refine hGo ?_;exact qdi hc λt'=>K.toks R _ (.pv (.int _ _))
 ·obtain⟨ho,e⟩:=z7 e
  have ho:o = .add:=by induction o <;> first | rfl | injection ho
  rw[ho];rcases ki e with⟨_,e⟩ | ⟨_,e⟩
  ·obtain⟨a,t,rfl,e1⟩:=ra.onStr e
   obtain⟨b,u,rfl,e2⟩:=rb.onStr e1;obtain⟨hl,e3⟩:=qI e2;obtain⟨rfl,rfl⟩:=qx e3;exact qdg hl λt' tk=>K.toks R _ (.pv (.str _ _))
  ·exact qmJ R ra rb e K
open SeqAt
theorem qjr{F F':Addr→Prop}{A:Around}{s:Shared}{va:Value}{p:PV}{vs:List Value}{ps:List PV}(ra:RP F s.heap va p)(hd:ju p<20)(hu:A.units+60<cLine)(rs:RPs F' s.heap vs ps):
  ∃f:Value→Bool,(∀y∈vs.toArray,EqAt A.in1 s y va (f y))∧vs.toArray.any f=vQ p ps:=by
 classical
 refine⟨λy=>decide (∃q,RP F' s.heap y q∧qJ q p=true),λy hy=>?_,?_⟩
 ·have:∃q,RP F' s.heap y q:=by
   have hy:y∈vs:=by simpa using hy
   clear ra hd;induction vs generalizing ps with
   |nil=>rcases hy
   |cons v vs ih=>cases rs with
    |cons a b =>
     rcases q7.mp hy with rfl | hy
     ·exact⟨_,a⟩
     ·exact ih b (by simpa using hy) hy
  obtain⟨q,hq⟩:=this;have e:decide (∃q,RP F' s.heap y q∧qJ q p=true)=qJ q p:=by
   rw[Bool.eq_iff_iff,decide_eq_true_iff];exact⟨by rintro ⟨q',h1,h2⟩;exact by rw[RP.inj hq h1];exact h2,λh=>⟨q,hq,h⟩⟩
  show EqAt _ _ _ _ (decide _)
  rw[e];exact qbk 20 (.inr (jz hd)) (by simp only[Around.in1_units];exact qP (j3 (show 24≤60 by decide) A.units) hu) hq ra
 ·rw[←Array.any_toList]
  show vs.any _=_
  clear ra hd;induction vs generalizing ps with
  |nil=>rcases rs;rfl
  |cons v vs ih=>cases rs with
   | @cons _ q _ qs a b =>
    simp only[List.any_cons,qln,qlo];rw[ih b];congr 1
    rw[Bool.eq_iff_iff,decide_eq_true_iff];exact⟨by rintro ⟨q',h1,h2⟩;exact by rw[RP.inj a h1];exact h2,λh=>⟨q,a,h⟩⟩
set_option tactic.hygienic true in
theorem qlr(R:Rel g Z bs ρ U h)(r:RAs ρ (Fz Z ρ U) h vs xs)(e:xc U xs=some ps):RPs (λB=>True) h vs ps:=by
 revert xs ps
 induction vs with
 |nil=>intro xs ps r e;rcases r;simp[qaY,qaZ] at e;subst e;exact .nil
 |cons v vs ih =>
  intro xs ps r e;cases r with
  |cons a b =>
   simp only[qaY,qaZ] at e;split at e
   ·rename_i p qs h1 h2
    injection e with e;subst e;exact .cons (qcr R a h1) (ih b h2)
   ·injection e
theorem qaD{M:Model}{a b:Value}{Q:Value→Shared→Prop}(h:wpAny M A (compareOp .In a b) (λv s'=>∀b,v = .bool b→Q (.bool (!b)) s') E s):wpAny M A (compareOp .NotIn a b) Q E s:=by
 have h':wpAny M A (contains b a >>= λx=>pure (Value.bool x)) (λv s'=>∀b,v = .bool b→Q (.bool (!b)) s') E s:=h;show wpAny M A (contains b a >>= λx=>pure (Value.bool (!x))) Q E s
 intro J p hJ;have q:=h' J p hJ;rw[Sem.wp_bind'] at q ⊢;exact Sem.wp_mono M J _ (λx p' s' z=>z x rfl) (λB B B z=>z) p s q
section dict
variable {κ:Type} [DecidableEq κ]
theorem RKV.look(r:RKV ρ F h kv kvs)(k:κ):(∀x,xh k kvs=some x→∃v,valueAt kv k=some v∧RA ρ F h v x)∧(xh k kvs=none→valueAt kv k=none):=by
 induction r with
 |nil=>exact⟨λx e=>by simp[YO,YQ] at e,λB=>rfl⟩
 | @cons j v x vs xs a b ih =>
  by_cases hj:j=k
  ·subst hj
   exact⟨λy e=>by simp[YO,YQ] at e;subst e;exact⟨v,by simp[valueAt],a⟩,λe=>by simp[YO,YQ] at e⟩
  ·have e1:xh k ((j,x)::xs)=xh k xs:=by simp[YO,YQ,hj]
   have e2:valueAt ((j,v)::vs) k=valueAt vs k:=by simp[valueAt,hj]
   rw[e1,e2];exact ih
theorem RKV.keys{kv:List (κ×Value)}{kvs:List (κ×AV)}(r:RKV ρ F h kv kvs):kv.map (·.1)=kvs.map (·.1):=by
 induction r with
 |nil=>rfl
 |cons _ _ ih=>simp[ih]
theorem RKV.length{kv:List (κ×Value)}{kvs:List (κ×AV)}(r:RKV ρ F h kv kvs):kv.length=kvs.length:=by have:=qz List.length r.keys;simpa using this
theorem qkj:∀(kv:List (κ×Value)),k ∉ kv.map (·.1)→(kv.map λp=>if p.1=k then (p.1,v) else p)=kv:=by
 intro kv;induction kv with
 |nil =>
  intro _;exact rfl
 |cons hdq r ih =>
  intro hn;obtain⟨j,x⟩:=hdq;simp only[List.map_cons,q7,not_or] at hn;rw[List.map_cons,ih hn.2,if_neg (λe=>hn.1 e.symm)]
theorem RKV.put(r:RKV ρ F h kv kvs)(hn:(kv.map (·.1)).Nodup)(k:κ)(q:RA ρ F h v x):RKV ρ F h (stored kv k v) (xU k x kvs):=by
 induction r with
 |nil=>exact .cons q .nil
 | @cons j w y vs xs a b ih =>
  simp only[List.map_cons,List.nodup_cons] at hn;by_cases hj:j=k
  ·subst hj
   have e1:xU j x ((j,y)::xs)=(j,x)::xs:=by simp[XB,XC]
   have e2:stored ((j,w)::vs) j v=(j,v)::vs:=by
    unfold stored;rw[if_pos (by simp),List.map_cons,if_pos rfl,qkj vs hn.1]
   rw[e1,e2];exact .cons q b
  ·have e1:xU k x ((j,y)::xs)=(j,y)::xU k x xs:=by simp[XB,XC,hj]
   have e2:stored ((j,w)::vs) k v=(j,w)::stored vs k v:=by
    unfold stored;by_cases hany:(vs.any λp=>decide (p.1=k))=true
    ·rw[if_pos (by simp[hj];simpa using hany),if_pos hany,List.map_cons,if_neg hj]
    ·rw[if_neg (by simp[hj];simpa using hany),if_neg hany];rfl
   rw[e1,e2];exact .cons a (ih hn.2)
end dict
theorem YX(l m:List PV):qJ (.tup l) (.tup m)=true ↔ PV.tup (jI l)=PV.tup (jI m):=by rw[B2];simp[QS]
open Classical in
theorem RKT.look(r:RKT ρ F h kv kvs)(l:List PV):
  (∀x,zE (.tup l) kvs=some x→∃b v,atKey kv (.tup (jI l))=some (b,v)∧RA ρ F h v x)∧(zE (.tup l) kvs=none→atKey kv (.tup (jI l))=none):=by
 induction r with
 |nil=>exact⟨λx e=>by simp[YR,YS] at e,λB=>rfl⟩
 | @cons m b v x vs xs p _ _ a _ ih =>
  by_cases hj:qJ (.tup m) (.tup l)=true
  ·have e:=(YX m l).mp hj
   refine⟨λy q=>?_,λq=>?_⟩
   ·simp only[YR,YS,hj,cond_true,Option.some.injEq] at q;subst q
    exact⟨b,v,by simp[atKey,e],a⟩
   ·simp[YR,YS,hj] at q
  ·have e1:zE (.tup l) ((.tup m,x)::xs)=zE (.tup l) xs:=by simp[YR,YS,hj]
   have e2:atKey ((.tup (jI m),b,v)::vs) (.tup (jI l))=atKey vs (.tup (jI l)):=by
    have:¬ PV.tup (jI m)=PV.tup (jI l):=λe=>hj ((YX m l).mpr e);simp only[atKey,List.find?_cons,zQ this]
   rw[e1,e2];exact ih
theorem RKT.length(r:RKT ρ F h kv kvs):kv.length=kvs.length:=by
 induction r with
 |nil=>rfl
 |cons _ _ _ _ _ ih=>simp[ih]
open Classical in
theorem RKT.put(r:RKT ρ F h kv kvs)(hn:(kv.map (·.1)).Nodup)(q0:RP F h (.ref b) (.tup l))(q1:zN l=true)(q2:jv l<6)(q:RA ρ F h v x):
  RKT ρ F h (storedH kv (.tup (jI l)) b v) (kE (.tup l) x kvs):=by
 induction r with
 |nil=>exact .cons q0 q1 q2 q .nil
 | @cons m c w y vs xs p d1 d2 a bb ih =>
  simp only[List.map_cons,List.nodup_cons] at hn;by_cases hj:qJ (.tup m) (.tup l)=true
  ·have e:=(YX m l).mp hj
   have e1:kE (.tup l) x ((.tup m,y)::xs)=(.tup m,x)::xs:=by simp[XD,XE,hj]
   have e2:storedH ((.tup (jI m),c,w)::vs) (.tup (jI l)) b v=(.tup (jI m),c,v)::vs:=by
    unfold storedH;rw[if_pos (by simp[atKey,e]),List.map_cons];rw[map_putAt_of_not_mem vs _ v (by rw[←e];exact hn.1)];simp[putAt,e]
   rw[e1,e2];exact .cons p d1 d2 q bb
  ·have ne:¬ PV.tup (jI m)=PV.tup (jI l):=λe=>hj ((YX m l).mpr e)
   have e1:kE (.tup l) x ((.tup m,y)::xs)=(.tup m,y)::kE (.tup l) x xs:=by simp[XD,XE,hj]
   have e0:atKey ((.tup (jI m),c,w)::vs) (.tup (jI l))=atKey vs (.tup (jI l)):=by simp only[atKey,List.find?_cons,zQ ne]
   have e2:storedH ((.tup (jI m),c,w)::vs) (.tup (jI l)) b v=(.tup (jI m),c,w)::storedH vs (.tup (jI l)) b v:=by
    unfold storedH;rw[e0];split
    ·rw[List.map_cons];simp[putAt,ne]
    ·rfl
   rw[e1,e2];exact .cons p d1 d2 a (ih hn.2)
theorem KA(i:Int)(t:Tok):(intKind prog w).is i (.int i t)=true:=by simp[intKind,Value.isInt]
theorem qou(x:Str)(t:Tok):(strKind prog w).is x (.str x t)=true:=strKind_is prog w x t
open Classical in
theorem qfd(ra:RP F h va (.tup l))(h1:zN l=true)(h2:jv l<6):∃b,va = .ref b∧(kF prog w).is h (.tup (jI l)) b:=by
 cases ra with
 |tup f x r=>exact⟨_,rfl,l,rfl,h1,h2,(RP.tup f x r).mono λb o e B B=>⟨e,trivial⟩⟩
open Classical in
inductive DictCase (g:Glb) (ρ:qG) (F:Addr→Prop) (s:Shared) (a:Addr) (va:Value) (b:Option AV):Prop
 |m {κ:Type}(inst:DecidableEq κ) (K:KeyKind g.prog g.w κ) (k:κ) (f:κ→Option Value) (hk:K.is k va=true) (x:s.heap.MapOf K a f) (h1:∀x,b=some x→∃v,f k=some v∧RA ρ F s.heap v x) (h2:b=none→f k=none)
 |t (l:List PV) (c:Addr) (kv:List (PV×Addr×Value)) (hv:va = .ref c) (hk:(kF g.prog g.w).is s.heap (.tup (jI l)) c) (x:s.heap.DictOfH (kF g.prog g.w) a kv) (h1:∀x,b=some x→∃c v,atKey kv (.tup (jI l))=some (c,v)∧RA ρ F s.heap v x) (h2:b=none→atKey kv (.tup (jI l))=none)
open Classical in
theorem gJ(ro:RO g ρ F s.heap (a::l) o)(rk:RA ρ F s.heap va k)(e:zM o k=some b):DictCase g ρ F s a va b:=by
 induction o with
 |dictI kvs =>
  obtain⟨i,t,hv,_,e1⟩:=rk.onInt e;obtain⟨kv,_,x,y⟩:=ro.dictI_;exact .m _ (intKind _ _) i _ (hv▸KA i t) x.mapOf (qA e1▸(y.look i).1) (qA e1▸(y.look i).2)
 |dictT kvs =>
  obtain⟨i,hv,e1⟩:=xj e;obtain⟨h,e2⟩:=qI e1;have h:=qc h;obtain⟨c,hc,hb⟩:=qfd (prog:=g.prog) (w:=g.w) (hv▸rk:RA ρ F s.heap va (.pv (.tup i))).pv_ h.1 (qr h.2);obtain⟨kv,_,x,y⟩:=ro.dictT_;exact .t i c kv hc hb x (qA e2▸(y.look i).1) (qA e2▸(y.look i).2)
 |_=>injection e
theorem qcb{α:Type}{f:Option α}{b:Option AV}{P:α→AV→Prop}(h1:∀x,b=some x→∃v,f=some v∧P v x)(h2:b=none→f=none):f.isSome=b.isSome:=by
 induction b with
 |none=>rw[h2 rfl];rfl
 |some x=>obtain⟨v,h,_⟩:=h1 x rfl;rw[h];rfl
open Classical in
theorem qjH{a:Addr}{o:AObj}{k:AV}{va:Value}{l:List Addr}{b:Option AV}{Q:Value→Shared→Prop}(ro:RO g ρ F s.heap (a::l) o)(rk:RA ρ F s.heap va k)(hu:A.units+60<cLine)(e:zM o k=some b)(hm:(a == sysModules)=false)(h:∀tk,Q (.bool b.isSome) { s with toks:=tk }):wpAny (model g.prog g.w) A (compareOp .In va (.ref a)) Q E s:=by
 induction gJ ro rk e with
 |m inst K k f hk x h1 h2=>exact wpAny_in_of hk hm x (qcb h1 h2▸h _)
 |t l c kv hv hk x h1 h2 =>
  rw[hv];refine wpAny_in_heap (show A.in1.units+20<cLine by rw[Around.in1_units];exact qP (j3 (show 21≤60 by decide) A.units) hu) hk hm x ?_;rw[qcb (P:=λc x=>RA ρ F s.heap c.2 x) (λx e=>by obtain⟨c,v,q⟩:=h1 x e;exact⟨(c,v),q⟩) h2];exact h _
open Classical in
theorem qeD{a:Addr}{o:AObj}{k:AV}{va:Value}{l:List Addr}{b:AV}{Q:Value→Shared→Prop}(ro:RO g ρ F s.heap (a::l) o)(rk:RA ρ F s.heap va k)(hu:A.units+60<cLine)(e:zM o k=some (some b))(h:∀val tk,RA ρ F s.heap val b→Q val { s with toks:=tk }):wpAny (model g.prog g.w) A (getItem (.ref a) va) Q E s:=by
 induction gJ ro rk e with
 |m inst K k f hk x h1 h2=>obtain⟨v,q1,q2⟩:=h1 b rfl;exact wpAny_getItem_of hk x q1 (h _ _ q2)
 |t l c kv hv hk x h1 h2 =>
  obtain⟨c',v,q1,q2⟩:=h1 b rfl;rw[hv];exact wpAny_getItem_heap (show A.in1.units+20<cLine by rw[Around.in1_units];exact qP (j3 (show 21≤60 by decide) A.units) hu) hk x q1 (h _ _ q2)
open Classical in
theorem Qp(ro:RO g ρ F s.heap (a::l) o)(rk:RA ρ F s.heap va k)(e:zM o k=some b):s.TypeIs (.ref a) "dict" := by
 induction gJ ro rk e with
 |m inst K k f hk x h1 h2=>exact x.typeIs
 |t l c kv hv hk x h1 h2=>exact x.typeIs
open Classical in
theorem qeC{a:Addr}{o:AObj}{k:AV}{va vd:Value}{l:List Addr}{b:Option AV}{d:AV}{Q:Value→Shared→Prop}(ro:RO g ρ F s.heap (a::l) o)(rk:RA ρ F s.heap va k)(rd:RA ρ F s.heap vd d)(hu:A.units+60<cLine)(e:zM o k=some b)(hm:(a == sysModules)=false)(h:∀val tk,RA ρ F s.heap val (b.getD d)→Q val { s with toks:=tk }):wpAny (model g.prog g.w) A (call (.builtin "dict.get") [.ref a,va,vd]) Q E s:=by
 have ty:=Qp ro rk e;induction gJ ro rk e with
 |m inst K k f hk x h1 h2 =>
  refine call_meetsIn PySem.F.slot_dict_get ty PySem.F.entry_dict_get (PySem.F.args_dict_get_3 _ _ _) (meets_dict_get_default K a hk hm vd) ⟨_,x,h _ _ ?_⟩;induction b with
  |none=>rw[h2 rfl];exact rd
  |some z=>obtain⟨v,q1,q2⟩:=h1 z rfl;rw[q1];exact q2
 |t l c kv hv hk x h1 h2 =>
  rw[hv];refine call_meetsIn PySem.F.slot_dict_get ty PySem.F.entry_dict_get (PySem.F.args_dict_get_3 _ _ _) (meetsH_dict_get_default (kF g.prog g.w) a c hm vd) ⟨show A.in1.units+20<cLine by rw[Around.in1_units];exact qP (j3 (show 21≤60 by decide) A.units) hu,_,_,hk,x,h _ _ ?_⟩;induction b with
  |none=>rw[h2 rfl];exact rd
  |some z=>obtain⟨c',v,q1,q2⟩:=h1 z rfl;rw[q1];exact q2
open Classical in
theorem qeB{a:Addr}{o:AObj}{k:AV}{va:Value}{l:List Addr}{b:Option AV}{Q:Value→Shared→Prop}(ro:RO g ρ F s.heap (a::l) o)(rk:RA ρ F s.heap va k)(hu:A.units+60<cLine)(e:zM o k=some b)(hm:(a == sysModules)=false)(h:∀val tk,RA ρ F s.heap val (b.getD (.pv .none))→Q val { s with toks:=tk }):wpAny (model g.prog g.w) A (call (.builtin "dict.get") [.ref a,va]) Q E s:=by
 have ty:=Qp ro rk e;induction gJ ro rk e with
 |m inst K k f hk x h1 h2 =>
  refine call_meetsIn PySem.F.slot_dict_get ty PySem.F.entry_dict_get (PySem.F.args_dict_get_2 _ _) (meets_dict_get K a hk hm) ⟨_,x,h _ _ ?_⟩;induction b with
  |none=>rw[h2 rfl];exact .pv .none
  |some z=>obtain⟨v,q1,q2⟩:=h1 z rfl;rw[q1];exact q2
 |t l c kv hv hk x h1 h2 =>
  rw[hv];refine call_meetsIn PySem.F.slot_dict_get ty PySem.F.entry_dict_get (PySem.F.args_dict_get_2 _ _) (meetsH_dict_get (kF g.prog g.w) a c hm) ⟨show A.in1.units+20<cLine by rw[Around.in1_units];exact qP (j3 (show 21≤60 by decide) A.units) hu,_,_,hk,x,h _ _ ?_⟩;induction b with
  |none=>rw[h2 rfl];exact .pv .none
  |some z=>obtain⟨c',v,q1,q2⟩:=h1 z rfl;rw[q1];exact q2
end
section
variable {g:Glb}{A:Around}{s:Shared}{Z:Addr→Prop}{bs:List Nat}{ρ:qG}{U:St}{E:Value→Shared→Prop}{F:Addr→Prop}{h:Heap}{prog:Program}{w:World}
theorem Qj:(Value.str x t).isStr y=(x == y):=rfl
theorem RE.get{nm:List Str}(nd:nm.Nodup)(r:RE nm ρ F h es as)(hx:nm[m]? = some x):
  (∀y,k9 m as=some y→∃v,getL x es=some (some v)∧RA ρ F h v y)∧(k9 m as=none→getL x es=some none):=by
 induction r with
 |nil=>exact⟨λy e=>by simp[Xd,Xe] at e,λB=>rfl⟩
 | @cons j z hs t v y es as hz a b ih =>
  by_cases hj:j=m
  ·subst hj
   rw[hz] at hx;injection hx with hx;subst hx;refine⟨λy' e=>?_,λe=>by simp[Xd,Xe] at e⟩;simp only[Xd,Xe,zP,cond_true,Option.some.injEq] at e;subst e;exact⟨v,by simp[getL,Qj],a⟩
  ·have e1:k9 m ((j,y)::as)=k9 m as:=by
    have:(j == m)=false:=by simpa using hj
    simp[Xd,Xe,this]
   have hne:(z == x)=false:=by
    have:z≠x:=λe=>hj (Xq nd hz (e▸hx));simpa using this
   have e2:getL x (⟨hs,.str z t,v⟩::es)=getL x es:=by
    simp[getL,Qj,hne,DictEntry.refKey]
   rw[e1,e2];exact ih
theorem RE.put{nm:List Str}(nd:nm.Nodup)(r:RE nm ρ F h es as)(hx:nm[m]? = some x)(q:RA ρ F h v y)(hs:Int)(t:Tok):
  RE nm ρ F h (putL x hs (.str x t) v es) (yC m y as):=by
 induction r with
 |nil=>exact .cons hx q .nil
 | @cons j z hs' t' v' y' es as hz a b ih =>
  by_cases hj:j=m
  ·subst hj
   rw[hz] at hx;cases hx;have e1:yC j y ((j,y')::as)=(j,y)::as:=by simp[Xz,XA]
   have e2:putL x hs (.str x t) v (⟨hs',.str x t',v'⟩::es)=⟨hs',.str x t',v⟩::es:=by simp[putL,Qj]
   rw[e1,e2];exact .cons hz q b
  ·have e1:yC m y ((j,y')::as)=(j,y')::yC m y as:=by
    have:(j == m)=false:=by simpa using hj
    simp[Xz,XA,this]
   have hne:(z == x)=false:=by
    have:z≠x:=λe=>hj (Xq nd hz (e▸hx));simpa using this
   have e2:putL x hs (.str x t) v (⟨hs',.str z t',v'⟩::es)=⟨hs',.str z t',v'⟩::putL x hs (.str x t) v es:=by simp[putL,Qj,hne]
   rw[e1,e2];exact .cons hz a ih
theorem RE.length{nm:List Str}(r:RE nm ρ F h es as):es.length=as.length:=by
 induction r with
 |nil=>rfl
 |cons _ _ _ ih=>simp[ih]
theorem qaJ(x:Str)(hs:Int)(k v:Value):∀es:List DictEntry,(putL x hs k v es).length≤es.length+1:=by
 intro es;induction es with
 |nil =>
  simp[putL]
 |cons e r ih =>
  simp only[putL];split
  ·simp
  ·simp only[yp];have:=ih;exact zZ this
theorem YJ(h1:s.heap.get? a=some ⟨.ref C,some dx,.plain,sl⟩)(h2:s.heap.get? dx=some (PySem.W.dictOf es n)):
  PySem.W.InstAt s.heap a ⟨.ref C,some dx,.plain,sl⟩ C (some (PySem.W.dictOf es n)):=⟨h1,rfl,rfl,h2⟩
theorem RA.handed(r:RA ρ F h v x):handedIn v=true:=by
 induction r using Mine.RA.casesOn with
 |pv p=>rcases p <;> rfl
 |_=>rfl
theorem qkt{va:Value}{x:AV}{m:Nat}{n:Str}{y:AV}{Q:Value→Shared→Prop}(G:GOk g)(R:Rel g Z bs ρ U s.heap)(ra:RA ρ (Fz Z ρ U) s.heap va x)(hm:m∈g.dat)(hx:g.nm[m]? = some n)(e:K8 x m U=some y)(K:jq g Z bs ρ U s y U Q):wpAny (model g.prog g.w) A (getAttr va n true) Q E s:=by
 obtain⟨i,hv,e1⟩:=w0 e;rw[hv] at ra;obtain⟨a,l,rfl,q⟩:=ra.ref_;obtain⟨o,hi,e2⟩:=qo e1;obtain⟨c,as,rfl,e3⟩:=vD e2;obtain⟨dx,sl,es,n',_,h1,h2,r,hlen,hc⟩:=(R.objs q hi).inst_;have ck:=G.cls c hc;obtain⟨v,g1,g2⟩:=(r.get G.nd hx).1 _ e3;exact get_value (G.kin.keeps R.keep) (YJ h1 h2) (plainGet_of (ck.plain n)).1 (findObj_own ck.hasDict (ck.free m hm n hx) rfl (by rw[lookIn_dict];exact g1)) (RA.handed g2) (K.toks R _ g2)
set_option tactic.hygienic true in
theorem qhJ{a dx C:Addr}{sl:Array (Option Value)}{es:List DictEntry}{n:Nat}{name:Str}{tk:Tok}{v:Value}{K:Frag}{Rr:Result→Shared→Prop}(X:K.In s.heap)(h1:s.heap.get? a=some ⟨.ref C,some dx,.plain,sl⟩)(h2:s.heap.get? dx=some (PySem.W.dictOf es n))(hp:plainOver K C=true)(ht:takerIn K C name=some none)(hh:hasDictIn K C=true)(hl:(getL name es).isSome=true)(hz:es.length≤900)(h:∀n' h',Heap.SameBut dx s.heap h'→h'.get? dx=some (PySem.W.dictOf (putL name (PyData.keyHash w.params name) (.str name s.toks) v es) n')→Rr (.ok (.ret .none)) { s with heap:=h',toks:=s.toks+1 }):
  codeAny (model prog w) A (.call (.builtin "object.__setattr__") ⟨[.ref a,.str name tk,v],[]⟩) Rr s:=by
 refine osa_open X (YJ h1 h2) hp ht λb=>?_;obtain⟨cd,hc,hd'⟩:=any_some hh;refine qe (qp (qe (qe (wpAny_loadPart h1 (qe ((looks_clsIn X hc).here ?_))))));rw[hd'];refine qp (a:=some dx) (qe (qp (qe ?_)));unfold nsSet;refine qe (qe (x9 (qp (qe (wpAny_mkText (qe (wpAny_loadPart h2 ?_)))))));dsimp only;have c:(!es.toArray.any (·.key.isStr name)&&es.toArray.any (·.refKey))=false:=by
  rw[←Array.any_toList,←Array.any_toList];unfold getL at hl;split at hl
  ·rename_i en he
   rw[List.any_eq_true.mpr ⟨en,List.mem_of_find?_eq_some he,List.find?_some he⟩];rfl
  ·split at hl
   ·injection hl
   ·rename_i z;rw[Bool.not_eq_true] at z;rw[z,Bool.and_false]
 rw[aRefKeyMayBeTheName_at,c];have D':=Zc (Obj.putName name (PyData.keyHash w.params name) (.str name s.toks) v) h2 (by rw[putName_dict];rfl);refine wpAny_updatePart h2 ?_;refine qe (wpAny_lookBehind D' ?_ ?_)
 ·rw[putName_dict]
  exact pastItsLine_dict (by rw[ze,yO];have:=qaJ name (PyData.keyHash w.params name) (.str name s.toks) v es;exact qu this (yn (qu hz (by decide)) 1))
 ·rw[putName_dict] at D'
  exact qp (h _ _ (gQ ..) D')
theorem qhL:∀{as:List (Nat×AV)}{y:Nat×AV},y∈yC m v as→y.2=v∨y∈as:=by
 intro as;induction as with
 |nil =>
  intro y h;simp[Xz,XA] at h;exact .inl (by rw[h])
 |cons hdq r ih =>
  intro y h;obtain⟨j,w⟩:=hdq;simp only[Xz,XA] at h;by_cases hj:j=m
  ·simp only[hj,zP,cond_true] at h
   rcases q7.mp h with rfl | h
   ·exact .inl rfl
   ·exact .inr (.tail _ h)
  ·have:(j == m)=false:=by simpa using hj
   simp only[this,cond_false] at h;rcases q7.mp h with rfl | h
   ·exact .inr (.head _)
   ·rcases ih h with q | q
    ·exact .inl q
    ·exact .inr (.tail _ q)
theorem qaI(m:Nat)(y:AV):∀as:List (Nat×AV),(yC m y as).length≤as.length+1:=by
 intro as;induction as with
 |nil =>
  exact qW _
 |cons hdq r ih =>
  obtain⟨j,w⟩:=hdq;cases hj:(j == m) with
  |true=>rw[yC,hj];exact wt _
  |false=>rw[yC,hj];exact zZ (ih)
theorem kn(h:yz v=true)(n:Nat):v.under n:=by rcases v <;> simp_all [yz,AV.under]
theorem Xw{va vv:Value}{i:Nat}{m c:Nat}{n:Str}{y:AV}{as:List (Nat×AV)}{Q:Unit→Shared→Prop}(G:GOk g)(R:Rel g Z bs ρ U s.heap)(ra:RA ρ (Fz Z ρ U) s.heap va (.ref i))(rv:RA ρ (Fz Z ρ U) s.heap vv y)(hm:m∈g.dat)(hx:g.nm[m]? = some n)(hi:U.heap[i]? = some (.inst c as))(hs:yz y=true∨U.strict=false)(hlen:as.length<900)(K:∀s' ,Rel g Z bs ρ (U.set i (.inst c (yC m y as))) s'.heap→Post jZ ρ U s ρ (U.set i (.inst c (yC m y as))) s'→Q () s'):wpAny (model g.prog g.w) A (setAttr va n vv) Q E s:=by
 obtain⟨a,l,rfl,q⟩:=ra.ref_;obtain⟨dx,sl,es,n',rfl,h1,h2,r,hle,hc⟩:=(R.objs q hi).inst_;have ck:=G.cls c hc;have hne:a≠dx:=by rintro rfl;rw[h1] at h2;injection h2 with h2;injection h2 with h2 h21q h22q h23q;injection h2
 have hsome:(getL n es).isSome=true:=by
  have q:=r.get G.nd hx;cases e:k9 m as with
  |none=>rw[q.2 e];rfl
  |some y'=>obtain⟨v,e1,_⟩:=q.1 _ e;rw[e1];rfl
 refine set_plain (G.kin.keeps R.keep) (YJ h1 h2) ck.seta ?_;refine qhJ (s:={ s with toks:=s.toks+1 }) (G.kin.keeps R.keep) h1 h2 ck.over (by unfold takerIn;rw[ck.free m hm n hx];rfl) ck.hasDict hsome hle λn'' h' hsb hdx=>?_;have z:=Rel.set (s':={ s with heap:=h',toks:=s.toks+1+1 }) (o':=.inst c (yC m y as)) R q hi (λx=>nomatch x) (λx=>nomatch x) (λb ob hb e=>hsb.extBut b ob (λq=>hb (by rw[q];exact .tail _ (.head _))) e) (vm hsb ⟨_,hdx⟩) rfl rfl
  (λhne n hn hin x hx=>?_) (λkA B=>.inst (hsb.extBut a _ hne h1) hdx ?_ ?_ hc)
 ·exact K _ z.1 z.2
 ·rcases qhL hx with e | e
  ·rcases hs with hs | hs
   ·rw[e];exact kn hs n
   ·rw[R.strict hne] at hs;injection hs
  ·exact(R.bars n hn).2 hin hi x e
 ·have r1:RE g.nm ρ (Fz Z ρ U) s.heap (putL n (PyData.keyHash g.w.params n) (.str n (s.toks+1)) vv es) (yC m y as):=r.put G.nd hx rv _ _
  have kk:∀{es:List DictEntry}{as:List (Nat×AV)},RE g.nm ρ (Fz Z ρ U) s.heap es as→RE g.nm ρ (Fz Z ρ U) h' es as:=by
   intro es as r;induction r with
   |nil=>exact .nil
   |cons a b _ ih=>exact .cons a (kA _ _ b) ih
  exact kk r1
 ·have l1:=(r.put G.nd hx rv (PyData.keyHash g.w.params n) (s.toks+1)).length
  rw[l1];have:=qaI m y as;exact qu this hlen
end
end Mine
end
section
open PySem PySem.W PySem.SeqAt PyProof.Rows
namespace Mine
section
variable {g:Glb}{A:Around}{s:Shared}{Z:Addr→Prop}{bs:List Nat}{ρ:qG}{U:St}{E:Value→Shared→Prop}{F:Addr→Prop}{h:Heap}{prog:Program}{w:World}
theorem Rel.noMods(G:GOk g)(R:Rel g Z bs ρ U h){i:Nat}{a:Addr}{l:List Addr}(e:ρ[i]? = some (a::l)):(a == sysModules)=false:=by
 have q:=(R.addrs e (.head _)).1;have:=G.low;have hne:a≠sysModules:=λe=>by subst e;exact q this
 simpa using hne
theorem RA.isNone(r:RA ρ F h v x):(v == Value.none)=true ↔ x = .pv .none:=by
 induction r using Mine.RA.casesOn with
 |pv r=>rcases r <;> simp
 |ref=>simp
 |tupR=>simp
 |lstR=>simp
theorem qea(R:Rel g Z bs ρ U s.heap)(ra:RA ρ (Fz Z ρ U) s.heap va v)(rs:RAs ρ (Fz Z ρ U) s.heap vs l)(hu:A.units+60<cLine)(e:K9 U v l=some b):∃f:Value→Bool,(∀y∈vs.toArray,EqAt A.in1 s y va (f y))∧vs.toArray.any f=b:=by
 induction v using Mine.AV.casesOn with
 |pv p =>
  obtain⟨hd,e1⟩:=qI (p:=ju p<20) (k:=qiD U p l) e;obtain⟨ps,hps,e2⟩:=yK.mp e1;obtain⟨f,h1,h2⟩:=qjr ra.pv_ hd hu (qlr R rs hps);exact⟨f,h1,h2.trans e2⟩
 |_=>injection e
theorem Xv{va:Value}{v:AV}{a:Addr}{vs:List Value}{l:List AV}{b:Bool}{Q:Value→Shared→Prop}(hu:A.units+60<cLine)(R:Rel g Z bs ρ U s.heap)(ra:RA ρ (Fz Z ρ U) s.heap va v)(rs:RAs ρ (Fz Z ρ U) s.heap vs l)(x:s.heap.IsList a vs.toArray)(e:K9 U v l=some b)(K:∀tk,Q (.bool b) { s with toks:=tk }):wpAny (model g.prog g.w) A (compareOp .In va (.ref a)) Q E s :=
 by obtain⟨f,h1,h2⟩:=qea R ra rs hu e;exact PySem.SeqAt.in_listAt f x h1 (h2▸K _)
theorem qaE{va vb:Value}{v w:AV}{b:Bool}{Q:Value→Shared→Prop}(hu:A.units+60<cLine)(R:Rel g Z bs ρ U s.heap)(ra:RA ρ (Fz Z ρ U) s.heap va v)(rb:RA ρ (Fz Z ρ U) s.heap vb w)(e:ob (qR U w) (K9 U v)=some b)(K:∀tk,Q (.bool b) { s with toks:=tk }):wpAny (model g.prog g.w) A (compareOp .In va vb) Q E s:=by
 obtain⟨l,hl,e1⟩:=qo e;obtain⟨a,vs,rfl,rs,hh⟩:=zH R rb hl;rcases hh with⟨_,ht⟩ | ⟨_,_,ht⟩
 ·obtain⟨f,h1,h2⟩:=qea R ra rs hu e1
  exact PySem.SeqAt.in_tupleAt f ht h1 (h2▸K _)
 ·exact Xv hu R ra rs ht e1 K
theorem qja{va vb:Value}{v w:AV}{b:Bool}{Q:Value→Shared→Prop}(G:GOk g)(hu:A.units+60<cLine)(R:Rel g Z bs ρ U s.heap)(ra:RA ρ (Fz Z ρ U) s.heap va v)(rb:RA ρ (Fz Z ρ U) s.heap vb w)(e:Qq v w U=some b)(K:∀tk,Q (.bool b) { s with toks:=tk }):wpAny (model g.prog g.w) A (compareOp .In va vb) Q E s:=by
 induction w using Mine.AV.casesOn with
 |ref i =>
  obtain⟨a,l,rfl,q⟩:=rb.ref_;obtain⟨o,ho,e1⟩:=qo (o:=U.heap[i]?) (k:=qiM U v) e;have dict:(zM o v).map (·.isSome)=some b→wpAny (model g.prog g.w) A (compareOp .In va (.ref a)) Q E s:=λe=>by
   obtain⟨b',h1,h2⟩:=yK.mp e;exact qjH (R.objs q ho) ra hu h1 (R.noMods G q) (h2▸K)
  induction o with
  |list l' =>
   obtain⟨vs,_,x,y⟩:=(R.objs q ho).list_;exact Xv hu R ra y x.isList e1 K
  |inst=>injection e1
  |dead=>injection e1
  |_=>exact dict e1
 |_=>exact qaE hu R ra rb e K
theorem Qs(h:YL x=true):x = .pv .none:=by
 induction x using Mine.AV.casesOn with
 |pv p=>rcases p <;> first | rfl | injection h
 |_=>injection h
theorem qfH{o:Cmp}{va vb:Value}{v w:AV}{b:Bool}{Q:Value→Shared→Prop}(G:GOk g)(hu:A.units+60<cLine)(R:Rel g Z bs ρ U s.heap)(ra:RA ρ (Fz Z ρ U) s.heap va v)(rb:RA ρ (Fz Z ρ U) s.heap vb w)(e:jD o v w U=some b)(K:jq g Z bs ρ U s (.pv (.bool b)) U Q):wpAny (model g.prog g.w) A (compareOp (qcz o) va vb) Q E s:=by
 have KT:∀tk,Q (.bool b) { s with toks:=tk }:=λtk=>K.toks R tk (.pv (.bool _));have eq:∀{b},X4 v w U=some b→RcAt A s va vb b∧RcNeAt A s va vb (!b):=λe=>by
  obtain⟨p,h1,e1⟩:=qo e;obtain⟨q,h2,e2⟩:=qo e1;obtain⟨hd,e3⟩:=qI e2;have c:=qew (A:=A) 20 (by simpa using hd) (qP (j3 (show 22≤60 by decide) A.units) hu) (qcr R ra h1) (qcr R rb h2);exact qA e3▸⟨c.r,c.n⟩
 induction o with
 |eq=>exact(eq e).1 _ _ _ _ (KT _)
 |ne =>
  obtain⟨b',h1,rfl⟩:=yK.mp e;exact(eq h1).2 _ _ _ _ (KT _)
 |lt =>
  obtain⟨i,t,rfl,_,e1⟩:=ra.onInt e;obtain⟨j,u,rfl,_,e2⟩:=rb.onInt e1;obtain rfl:=qA e2;exact PySem.P.lt_int (KT _)
 |le =>
  obtain⟨i,t,rfl,_,e1⟩:=ra.onInt e;obtain⟨j,u,rfl,_,e2⟩:=rb.onInt e1;obtain rfl:=qA e2;exact PySem.P.le_int (KT _)
 |gt =>
  obtain⟨i,t,rfl,_,e1⟩:=ra.onInt e;obtain⟨j,u,rfl,_,e2⟩:=rb.onInt e1;obtain rfl:=qA e2;exact PySem.P.gt_int (KT _)
 |ge =>
  obtain⟨i,t,rfl,_,e1⟩:=ra.onInt e;obtain⟨j,u,rfl,_,e2⟩:=rb.onInt e1;obtain rfl:=qA e2;exact PySem.P.ge_int (KT _)
 |inn=>exact qja G hu R ra rb e KT
 |notin =>
  obtain⟨b',h1,rfl⟩:=yK.mp e;refine qaD (qja G hu R ra rb h1 λtk b hb=>?_);exact Value.bool.inj hb▸KT tk
 |is =>
  obtain⟨hw,e1⟩:=z7 e;rw[Qs hw] at rb;obtain rfl:=rb.none_;refine is_none ?_;rw[show(va == Value.none)=b from qA e1▸Bool.eq_iff_iff.mpr (ra.isNone.trans ⟨λh=>h▸rfl,Qs⟩)];exact KT _
theorem Qi{va:Value}{b:Bool}{Q:Bool→Shared→Prop}(ra:RA ρ (Fz Z ρ U) s.heap va (.pv (.bool b)))(K:Q b s):
  wpAny (model g.prog g.w) A (truthy va) Q E s:=by
 have ra:=ra.pv_;obtain rfl:=ra.bool_;exact wpAny_truthy_bool K
theorem qmO{va:Value}{b:Bool}{Q:Value→Shared→Prop}(R:Rel g Z bs ρ U s.heap)(ra:RA ρ (Fz Z ρ U) s.heap va (.pv (.bool b)))(K:jq g Z bs ρ U s (.pv (.bool (!b))) U Q):
  wpAny (model g.prog g.w) A (unaryOp .Not va) Q E s:=PyProof.Rows.not_of (Qi ra (K.bool R))
theorem qmN{va:Value}{i:Int}{Q:Value→Shared→Prop}(R:Rel g Z bs ρ U s.heap)(ra:RA ρ (Fz Z ρ U) s.heap va (.pv (.int i)))(K:jq g Z bs ρ U s (.pv (.int (-i))) U Q):
  wpAny (model g.prog g.w) A (unaryOp .USub va) Q E s:=by
 obtain⟨t,rfl⟩:=ra.int_;exact PySem.P.neg_int (K.int R _ _)
theorem qlv:(jl:Int)<2 ^ 63:=by decide
inductive IdxS (k:Int) (n j:Nat):Prop
 |up (h0:0≤k) (h1:k.toNat=j) (h2:k<n)
 |down (h0:k<0) (h1 : -(n:Int)≤k) (h2:(k+n).toNat=j)
theorem B3(e:ZD k n=some j):IdxS k n j:=by
 induction gL (show(if 0≤k then (if k<n then some k.toNat else none) else (if 0≤k+n then some (k+n).toNat else none))=some j from e) with
 |inl h e=>obtain⟨h2,e⟩:=qI e;exact .up h (qA e) h2
 |inr h e=>obtain⟨h2,e⟩:=qI e;exact .down (Int.not_le.mp h) (Int.le_of_sub_nonneg (by rw[Int.sub_neg];exact h2)) (qA e)
theorem qfR(e:ZD k n=some j):seqIndex? k n=some j:=by
 unfold seqIndex?;induction B3 e with
 |up h0 h1 h2=>rw[if_neg (Int.not_lt.mpr h0)];simp[h0,h1,h2]
 |down h0 h1 h2 =>
  have h3:0≤k+(n:Int):=by rw[←Int.sub_neg];exact Int.sub_nonneg_of_le h1
  have h4:k+(n:Int)<n:=by rw[←Int.zero_add (n:Int),←Int.add_assoc,Int.add_zero];exact Int.add_lt_add_right h0 n
  rw[if_pos h0];simp[h2,h3,h4]
theorem qdT{n:Int}(h:n.natAbs<1000000000):n<2 ^ 63:=vG Int.le_natAbs (Int.lt_trans (yr.mpr h) (by decide))
theorem qdU(h:n.natAbs<1000000000): -2 ^ 63≤n:=Int.neg_le_of_neg_le (zB (Int.natAbs_neg n▸Int.le_natAbs) (we (Int.lt_trans (yr.mpr h) (by decide))))
inductive AtSome (l:List AV) (vi:Value) (x:AV):Prop
 |mk (n:Int) (t:Tok) (j:Nat) (hv:vi = .int n t) (hn:n.natAbs<1000000000) (hj:ZD n l.length=some j) (hx:l[j]? = some x)
theorem qbc(ri:RA ρ F h vi i)(e:kf l i=some x):AtSome l vi x:=by
 obtain⟨n,t,hv,_,e1⟩:=ri.onInt e;obtain⟨hn,e2⟩:=qI e1;induction ki e2 with
 |inl h0 e3 =>
  have h1:=qr h0;have h2:n<(l.length:Int):=(Int.toNat_lt h1).mp (jL.mp e3).1;exact⟨n,t,_,hv,hn,by unfold ZD;rw[if_pos h1,if_pos h2],e3⟩
 |inr _ e3 =>
  obtain⟨j,hj,e3⟩:=qo e3;exact⟨n,t,j,hv,hn,hj,e3⟩
theorem qbb{a:Addr}{vs:List Value}{l:List AV}{i x:AV}{vi:Value}{Q:Value→Shared→Prop}(R:Rel g Z bs ρ U s.heap)(hl:s.heap.IsList a vs.toArray)(rs:RAs ρ (Fz Z ρ U) s.heap vs l)(ri:RA ρ (Fz Z ρ U) s.heap vi i)(e:kf l i=some x)(K:∀val,RA ρ (Fz Z ρ U) s.heap val x→Q val s):wpAny (model g.prog g.w) A (getItem (.ref a) vi) Q E s:=by
 obtain⟨n,t,j,rfl,hn,hj,hx⟩:=qbc ri e;obtain⟨v,h1,h2⟩:=rs.get hx;have hlen:vs.toArray.size=l.length:=rs.length;have h1:vs.toArray[j]? = some v:=by rw[List.getElem?_toArray];exact h1
 induction B3 hj with
 |up q1 q2 q3=>exact wpAny_getItem_list hl q1 (qdT hn) (q2▸h1) (K _ h2)
 |down q1 q2 q3=>exact wpAny_getItem_list_neg hl q1 (by rw[hlen];exact q2) (qdU hn) (by rw[hlen,q3];exact h1) (K _ h2)
theorem qgG{a:Addr}{vs:List Value}{l:List AV}{i x:AV}{vi:Value}{Q:Value→Shared→Prop}(R:Rel g Z bs ρ U s.heap)(hl:s.heap.IsTuple a vs.toArray)(rs:RAs ρ (Fz Z ρ U) s.heap vs l)(ri:RA ρ (Fz Z ρ U) s.heap vi i)(e:kf l i=some x)(K:∀val,RA ρ (Fz Z ρ U) s.heap val x→Q val s):wpAny (model g.prog g.w) A (getItem (.ref a) vi) Q E s:=by
 obtain⟨n,t,j,rfl,hn,hj,hx⟩:=qbc ri e;obtain⟨v,h1,h2⟩:=rs.get hx;have hlen:vs.toArray.size=l.length:=rs.length;exact PyProof.Rows.getItem_tuple hl (qdU hn) (qdT hn) (by rw[hlen];exact qfR hj) (by rw[List.getElem?_toArray];exact h1) (K _ h2)
end
section
variable {g:Glb}{A:Around}{s:Shared}{Z:Addr→Prop}{bs:List Nat}{ρ:qG}{U:St}{E:Value→Shared→Prop}{F:Addr→Prop}{h:Heap}{prog:Program}{w:World}
open Classical in
theorem qmP{value slice:Expr}{va vb:Value}{v i x:AV}{Q:Value→Shared→Prop}(hu:A.units+60<cLine)(R:Rel g Z bs ρ U s.heap)(ra:RA ρ (Fz Z ρ U) s.heap va v)(rb:RA ρ (Fz Z ρ U) s.heap vb i)(hs:∀o i,subscripted slice false o i=operate [o,i] (getItem o i))(e:wv v i U=some x)(K:jq g Z bs ρ U s x U Q):wpAny (model g.prog g.w) A (subscriptTail value slice va vb) Q E s:=by
 have KT:∀val tk,RA ρ (Fz Z ρ U) s.heap val x→Q val { s with toks:=tk }:=λval tk q=>K.toks R tk q;have items:ob (qR U v) (λl=>kf l i)=some x→wpAny (model g.prog g.w) A (subscriptTail value slice va vb) Q E s:=λe=>by
  obtain⟨l,hl,e1⟩:=qo e;obtain⟨a,vs,rfl,rs,hh⟩:=zH R ra hl;rcases hh with⟨_,ht⟩ | ⟨_,_,ht⟩
  ·exact tail_any (PyProof.Rows.IsTup.typeIs ht) slot_tuple_getitem.lookup (qgG R ht rs rb e1 λval q=>KT val _ q) (hs _ _)
  ·exact tail_any ht.typeIs slot_list_getitem.lookup (qbb R ht rs rb e1 λval q=>KT val _ q) (hs _ _)
 induction v using Mine.AV.casesOn with
 |ref k =>
  obtain⟨a,l,rfl,q⟩:=ra.ref_;obtain⟨o,ho,e1⟩:=qo (o:=U.heap[k]?) (k:=D2 i) e;have dict:ob (zM o i) id=some x→wpAny (model g.prog g.w) A (subscriptTail value slice (.ref a) vb) Q E s:=λe=>by
   obtain⟨y,hb,e2⟩:=qo e;have hb:zM o i=some (some x):=e2▸hb;exact tail_any (Qp (R.objs q ho) rb hb) slot_dict_getitem.lookup (qeD (R.objs q ho) rb hu hb KT) (hs _ _)
  induction o with
  |list l' =>
   obtain⟨vs,_,x,y⟩:=(R.objs q ho).list_;exact tail_any x.isList.typeIs slot_list_getitem.lookup (qbb R x.isList y rb e1 λval q=>KT val _ q) (hs _ _)
  |inst=>injection e1
  |dead=>injection e1
  |_=>exact dict e1
 |_=>exact items e
inductive PartR:Value→Option AV→Prop
 |none:PartR .none none
 |int {n:Int}{t:Tok}:PartR (.int n t) (some (.pv (.int n)))
theorem PartR.nat(r:PartR v (some y))(e:yE y=some n):IsPart v (some (n:Int)):=by
 cases r with
 | @int m t =>
  obtain⟨h,e1⟩:=qI (k:=some m.toNat) e;have e2:((n:Nat):Int)=m:=by rw[←qA e1];exact Ze (qr (qc h).1)
  rw[e2];exact .int _ _
theorem PartR.no(r:PartR v Option.none):IsPart v Option.none:=by rcases r;exact .none
theorem qac(items:Array Value)(n:Nat):slicePick items none (some (n:Int)) none=(items.toList.take n).toArray:=by
 rw[slicePick_plain];congr 1
 show List.take (clipAt items.size (n:Int) - 0) (items.toList.drop 0)=_
 rw[clipAt_nat,Nat.sub_zero,List.drop_zero];rcases Nat.le_total n items.size with z | z
 ·rw[Nat.min_eq_left z]
 ·rw[Nat.min_eq_right z,List.take_of_length_le (by rw[ym];exact qW _),List.take_of_length_le (by rw[ym];exact z)]
theorem qab(items:Array Value)(n:Nat):slicePick items (some (n:Int)) none none=(items.toList.drop n).toArray:=by
 rw[slicePick_plain];congr 1
 show List.take (items.size - clipAt items.size (n:Int)) (items.toList.drop (clipAt items.size (n:Int)))=_
 rw[clipAt_nat];rcases Nat.le_total n items.size with z | z
 ·rw[Nat.min_eq_left z,List.take_of_length_le (by rw[List.length_drop,ym];exact qW _)]
 ·rw[Nat.min_eq_right z,Nat.sub_self,List.take_zero,List.drop_of_length_le (by rw[ym];exact z)]
theorem qhH{value:Expr}{lo hi:Option Expr}{ps:Pos}{va vl vh:Value}{v x:AV}{l hh:Option AV}{Q:Value→Shared→Prop}(R:Rel g Z bs ρ U s.heap)(ra:RA ρ (Fz Z ρ U) s.heap va v)(pl:PartR vl l)(ph:PartR vh hh)(e:vg v l hh U=some x)(K:jq g Z bs ρ U s x U Q):
  wpAny (model g.prog g.w) A (subscriptTail value (.Slice lo hi none ps) va (.ref s.heap.objs.size)) Q E { s with heap:=s.heap.push { cls:=.type "slice",data:=.fields #[vl,vh,.none] } }:=by
 generalize hs':({ s with heap:=s.heap.push { cls:=.type "slice",data:=.fields #[vl,vh,.none] } }:Shared)=s';have hh':s'.heap=s.heap.push { cls:=.type "slice",data:=.fields #[vl,vh,.none] }:=by rw[←hs']
 have kp:∀b o,s.heap.get? b=some o→s'.heap.get? b=some o:=λb o e=>by rw[hh'];exact jd _ e
 have R':Rel g Z bs ρ U s'.heap:=R.grow kp;have hsl:s'.heap.IsSliceOf s.heap.objs.size vl vh .none:=by rw[hh'];exact Heap.IsSliceOf.new s.heap vl vh .none
 have K':jq g Z bs ρ U s' x U Q:=λval s2 ρ' h1 h2 h3=>K val s2 ρ' h1 ((Post.grow kp (by rw[←hs']) (by rw[←hs'])).trans h2) h3;have ra':RA ρ (Fz Z ρ U) s'.heap va v:=ra.mono (λB B B e=>e) λb o e f B=>⟨kp b o e,f⟩
 have hbl:=wG;obtain⟨l',hl,e1⟩:=qo e;obtain⟨hb,e2⟩:=z7 e1;have hb:=qr hb;obtain⟨a,vs,rfl,rs,hc⟩:=zH R' ra' hl;have hlen:=rs.length;have hsz:vs.toArray.size≤sizeLine:=by rw[ze,hlen];exact qu hb hbl
 induction hh with
 |none =>
  obtain⟨v1,rfl,e2⟩:=qo e2;obtain⟨i,hi,e3⟩:=qo (o:=yE v1) e2;have p1:=pl.nat hi;rcases p1;rcases ph.no;induction ki e3 with
  |inl ht e4 =>
   obtain⟨hc2,e5⟩:=z7 e4;have hc2:=qc hc2;have ht:=(hc.resolve_right λz=>by rw[ht] at z;injection z.2.1).2;exact tail_any (PyProof.Rows.IsTup.typeIs ht) slot_tuple_getitem.lookup (getItem_tuple_from ht hsl (qr hc2.1) (by rw[ze,hlen];exact qr hc2.2) (YV (vs:=vs.drop i) R' (rs.drop i) (qA e5▸K') _) hsz) rfl
  |inr ht e4 =>
   obtain⟨h2,e5⟩:=z7 e4;have ht:=(hc.resolve_left λz=>QQ h2 z.1).2.2;refine tail_any (ops:=[.ref s.heap.objs.size,.ref a]) ht.typeIs slot_list_getitem.lookup (wpAny_getItem_list_slice ht hsl (.int _ _) .none .none (λh=>nomatch h) ?_ hsz) rfl;rw[qab];exact YU R' (vs:=vs.drop i) (rs.drop i) (qA e5▸K') _
 |some w =>
  obtain⟨ht,e3⟩:=z7 e2;have ht:=qc ht;obtain rfl:=Q5.mp ht.1;obtain⟨n,hn,e4⟩:=qo e3;have ht:=(hc.resolve_left λz=>QQ ht.2 z.1).2.2;refine tail_any (ops:=[.ref s.heap.objs.size,.ref a]) ht.typeIs slot_list_getitem.lookup (wpAny_getItem_list_slice ht hsl pl.no (ph.nat hn) .none (λh=>nomatch h) ?_ hsz) rfl;rw[qac];exact YU R' (vs:=vs.take n) (rs.take n) (qA e4▸K') _
end
section
variable {g:Glb}{A:Around}{s:Shared}{Z:Addr→Prop}{bs:List Nat}{ρ:qG}{U:St}{E:Value→Shared→Prop}{F:Addr→Prop}{h:Heap}{prog:Program}{w:World}
theorem qcx(ha:¬ F a)(hs:Heap.SameBut a h h'):∀b o,h.get? b=some o→F b→ko o→h'.get? b=some o∧F b :=
 λb o e f B=>⟨hs.extBut b o (λq=>ha (q▸f)) e,f⟩
theorem DictOf.nodup'{K:Type}[DecidableEq K]{knd:KeyKind prog w K}{a:Addr}{kvs:List (K×Value)}(hd:h.DictOf knd a kvs):(kvs.map (·.1)).Nodup:=hd.elim λB h=>h.elim λB h=>h.elim λB h=>h.2.2.2.2.2
theorem DictOfH.nodup'{K:Type}[DecidableEq K]{knd:HeapKind prog w K}{a:Addr}{kvs:List (K×Addr×Value)}(hd:h.DictOfH knd a kvs):(kvs.map (·.1)).Nodup:=hd.elim λB h=>h.elim λB h=>h.elim λB h=>h.2.2.2.2.2
theorem qcD{m:Sem Unit}{a:Addr}{va vv:Value}{Q:Unit→Shared→Prop}(hm:m=dictSet a va vv∨m=setItem (.ref a) va vv){κ:Type}[DecidableEq κ]{K0:KeyKind prog w κ}{k:κ}{kv:List (κ×Value)}(hk:K0.is k va=true)(x:s.heap.DictOf K0 a kv)(hl:kv.length<jl)(fin:∀h' tk,h'.DictOf K0 a (stored kv k vv)→Heap.SameBut a s.heap h'→Q () { s with heap:=h',toks:=tk }):wpAny (model prog w) A m Q E s:=by
 have hl:=jz (q6 hl wG);rcases hm with rfl | rfl
 ·exact wpAny_dictSet_pairs (hsz:=hl) hk x λh' hd hs=>fin h' _ hd hs
 ·exact wpAny_setItem_pairs (hsz:=hl) hk x λh' hd hs=>fin h' _ hd hs
open Classical in
theorem DW{m:Sem Unit}{a:Addr}{o o':AObj}{k v:AV}{va vv:Value}{Q:Unit→Shared→Prop}(hm:m=dictSet a va vv∨m=setItem (.ref a) va vv)(ro:RO g ρ F s.heap [a] o)(rk:RA ρ F s.heap va k)(rv:RA ρ F s.heap vv v)(ha:¬ F a)(hu:A.units+60<cLine)(e:ye o k v=some o')(K:∀h' tk,Heap.SameBut a s.heap h'→RO g ρ F h' [a] o'→Q () { s with heap:=h',toks:=tk }):wpAny (model g.prog g.w) A m Q E s:=by
 induction o with
 |dictI kvs =>
  obtain⟨i,t,hv,_,e1⟩:=rk.onInt e;obtain⟨hl,e2⟩:=qI e1;obtain⟨kv,_,x,y⟩:=ro.dictI_;exact qcD hm (hv▸KA i t) x (by rw[y.length];exact hl) λh' tk hd hs=>K h' tk hs (qA e2▸.dictI hd ((y.put (DictOf.nodup' x) i rv).mono (λB B B e=>e) (qcx ha hs)))
 |dictT kvs =>
  obtain⟨l,hv,e1⟩:=xj e;obtain⟨hc,e2⟩:=qI e1;have hc:=qc hc;have hd:=qc hc.1;have rk:RP F s.heap va (.tup l):=(hv▸rk:RA ρ F s.heap va (.pv (.tup l))).pv_;obtain⟨b,hb,hkb⟩:=qfd (prog:=g.prog) (w:=g.w) rk hd.2 (qr hc.2);obtain⟨kv,_,x,y⟩:=ro.dictT_;have hl:=jz (q6 (show kv.length<jl by rw[y.length];exact qr hd.1) wG);have fin:∀h' tk,h'.DictOfH (kF g.prog g.w) a (storedH kv (.tup (jI l)) b vv)→Heap.SameBut a s.heap h'→Q () { s with heap:=h',toks:=tk }:=λh' tk hd2 hs =>
   K h' tk hs (qA e2▸.dictT hd2 ((y.put (DictOfH.nodup' x) (hb▸rk) hd.2 (qr hc.2) rv).mono (λB B B e=>e) (qcx ha hs)))
  rw[hb] at hm;rcases hm with rfl | rfl
  ·exact wpAny_dictSet_heap (hsz:=hl) (qP (j3 (show 20≤60 by decide) A.units) hu) hkb x λh' hd hs=>fin h' _ hd hs
  ·exact wpAny_setItem_heap (hsz:=hl) (show A.in1.units+20<cLine by rw[Around.in1_units];omega) hkb x λh' hd hs=>fin h' _ hd hs
 |_=>injection e
theorem RO.live(r:RO g ρ F h (a::l) o)(hn:o ≠ .dead):Lv h a:=by
 cases r with
 |list x y=>obtain⟨n,e⟩:=x;exact⟨_,e⟩
 |dictI x y=>obtain⟨o,_,_,e,_⟩:=x;exact⟨o,e⟩
 |dictT x y=>obtain⟨o,_,_,e,_⟩:=x;exact⟨o,e⟩
 |inst x y z z' z2=>exact⟨_,x⟩
 |dead=>exact absurd rfl hn
theorem qhM{κ:Type}[DecidableEq κ]{m:κ}{v:AV}:∀{as:List (κ×AV)}{y:κ×AV},y∈xU m v as→y.2=v∨y∈as:=by
 intro as;induction as with
 |nil =>
  intro y h;simp[XB,XC] at h;exact .inl (by rw[h])
 |cons hdq r ih =>
  intro y h;obtain⟨j,w⟩:=hdq;simp only[XB,XC] at h;by_cases hj:j=m
  ·rw[if_pos hj] at h
   rcases q7.mp h with rfl | h
   ·exact .inl rfl
   ·exact .inr (.tail _ h)
  ·rw[if_neg hj] at h
   rcases q7.mp h with rfl | h
   ·exact .inr (.head _)
   ·rcases ih h with q | q
    ·exact .inl q
    ·exact .inr (.tail _ q)
theorem qhN:∀{as:List (PV×AV)}{y:PV×AV},y∈kE m v as→y.2=v∨y∈as:=by
 intro as;induction as with
 |nil =>
  intro y h;simp[XD,XE] at h;exact .inl (by rw[h])
 |cons hdq r ih =>
  intro y h;obtain⟨j,w⟩:=hdq;simp only[XD,XE] at h;cases hj:qJ j m with
  |true =>
   rw[hj,cond_true] at h;rcases q7.mp h with rfl | h
   ·exact .inl rfl
   ·exact .inr (.tail _ h)
  |false =>
   rw[hj,cond_false] at h;rcases q7.mp h with rfl | h
   ·exact .inr (.head _)
   ·rcases ih h with q | q
    ·exact .inl q
    ·exact .inr (.tail _ q)
theorem qdn{κ:Type}[DecidableEq κ]{m:κ}{v:AV}{n:Nat}{as:List (κ×AV)}(hv:v.under n)(ho:∀x∈as,x.2.under n):∀x∈xU m v as,x.2.under n:=λx hx=>(qhM hx).elim (λq=>q▸hv) (ho x)
theorem qdo(hv:v.under n)(ho:∀x∈as,x.2.under n):∀x∈kE m v as,x.2.under n:=λx hx=>(qhN hx).elim (λq=>q▸hv) (ho x)
inductive PutKind (v:AV) (l:Addr→List Addr→Prop) (o o':AObj):Prop
 |mk (n1:o ≠ .dead) (n2:o' ≠ .dead) (u:∀n,v.under n→o.under n→o'.under n) (h:∀a m,l a m→m=[])
theorem xE(e:ye o k v=some o'):PutKind v (λa l=>RO g ρ F h (a::l) o) o o':=by
 induction o with
 |dictI kvs =>
  obtain⟨i,_,e1⟩:=jF e;obtain⟨_,e2⟩:=qI e1;exact⟨(nomatch ·),qA e2▸(nomatch ·),λn hv ho=>qA e2▸qdn hv ho,λa l r=>by obtain⟨_,q,_,_⟩:=r.dictI_;exact q⟩
 |dictT kvs =>
  obtain⟨i,_,e1⟩:=xj e;obtain⟨_,e2⟩:=qI e1;exact⟨(nomatch ·),qA e2▸(nomatch ·),λn hv ho=>qA e2▸qdo hv ho,λa l r=>by obtain⟨_,q,_,_⟩:=r.dictT_;exact q⟩
 |_=>injection e
theorem Dh(g:Glb)(h:Heap)(e:ye o k v=some o')(hv:v.under n)(ho:o.under n):o'.under n:=by obtain⟨_,_,u,_⟩:=xE (g:=g) (ρ:=[]) (F:=λB=>True) (h:=h) e;exact u n hv ho
theorem Qd(g:Glb)(h:Heap)(e:ye o k v=some o'):o ≠ .dead∧o' ≠ .dead:=by obtain⟨a,b,_,_⟩:=xE (g:=g) (ρ:=[]) (F:=λB=>True) (h:=h) e;exact⟨a,b⟩
theorem RO.dictOne(r:RO g ρ F h (a::l) o)(e:ye o k v=some o'):l=[]:=by obtain⟨_,_,_,q⟩:=xE e;exact q a l r
theorem qdl{va vk vv:Value}{i:Nat}{k v:AV}{d d':AObj}{Q:Unit→Shared→Prop}(hu:A.units+60<cLine)(R:Rel g Z bs ρ U s.heap)(ra:RA ρ (Fz Z ρ U) s.heap va (.ref i))(rk:RA ρ (Fz Z ρ U) s.heap vk k)(rv:RA ρ (Fz Z ρ U) s.heap vv v)(hi:U.heap[i]? = some d)(hs:yz v=true∨U.strict=false)(e:ye d k v=some d')(K:∀s' ,Rel g Z bs ρ (U.set i d') s'.heap→Post jZ ρ U s ρ (U.set i d') s'→Q () s'):wpAny (model g.prog g.w) A (setItem va vk vv) Q E s:=by
 obtain⟨a,l,rfl,q⟩:=ra.ref_;have ro:=R.objs q hi;obtain rfl:=ro.dictOne e;have hnd:=Qd g s.heap e;have ha:¬ Fz Z ρ U a:=λf=>f.2 ⟨i,[a],d,q,hi,hnd.1,.head _⟩;refine DW (.inr rfl) ro rk rv ha hu e λh' tk hsb ro'=>?_;have z:=Rel.set (s':={ s with heap:=h',toks:=tk }) (o':=d') R q hi hnd.1 hnd.2 (λb ob hb e=>hsb.extBut b ob (λq=>hb (by rw[q];exact .head _)) e) (vm hsb (ro'.live hnd.2)) rfl rfl
  (λhne n hn hin=>?_) (λB B=>ro')
 ·exact K _ z.1 z.2
 ·have hv:v.under n:=by
   rcases hs with hs | hs
   ·exact kn hs n
   ·rw[R.strict hne] at hs;injection hs
  exact Dh g s.heap e hv ((R.bars n hn).2 hin hi)
theorem qkB{a:Addr}{Q:PUnit→Shared→Prop}(ha:¬ F a)(hu:A.units+60<cLine):∀(vs:List (Value×Value)) (xs:List AV) (o o':AObj) (s:Shared),RO g ρ F s.heap [a] o→RAs ρ F s.heap (vs.flatMap λp=>[p.1,p.2]) xs→Yq o xs=some o' →
  (∀h' tk,Heap.SameBut a s.heap h'→RO g ρ F h' [a] o'→Q ⟨⟩ { s with heap:=h',toks:=tk }) →
  wpAny (model g.prog g.w) A (forIn vs PUnit.unit λ(x:Value×Value) (_:PUnit)=>(do dictSet a x.1 x.2;pure (ForInStep.yield PUnit.unit):Sem (ForInStep PUnit))) Q E s:=by
 intro vs;induction vs with
 |nil =>
  intro xs o o' s ro rs e K;rcases rs;simp only[Yq,Option.some.injEq] at e;subst e;rw[List.forIn_nil];exact qp (K s.heap s.toks (.refl ..) ro)
 |cons hdq vs ih =>
  intro xs o o' s ro rs e K;obtain⟨k,v⟩:=hdq;simp only[kP,List.cons_append,List.nil_append] at rs;cases rs with | cons r1 rs=>cases rs with | cons r2 rs =>
  obtain⟨o1,h1,e1⟩:=qo e;rw[List.forIn_cons];refine qe (qe (DW (.inl rfl) ro r1 r2 ha hu h1 λh' tk hsb ro'=>qp ?_));exact ih _ o1 o' _ ro' (rs.mono (λB B B e=>e) (qcx ha hsb)) e1 λh'' tk' hs' ro''=>K h'' tk' (hsb.trans hs') ro''
end
section
variable {g:Glb}{A:Around}{s:Shared}{Z:Addr→Prop}{bs:List Nat}{ρ:qG}{U:St}{E:Value→Shared→Prop}{F:Addr→Prop}{h:Heap}{prog:Program}{w:World}
theorem qbq(r:RAs ρ F h vs l)(e:z0 l=some ns):∃xs:Array (Int×Tok),vs.toArray=intItems xs∧xs.toList.map (·.1)=ns:=by
 have key:∃ys:List (Int×Tok),vs=ys.map (λp=>Value.int p.1 p.2)∧ys.map (·.1)=ns:=by
  revert vs ns
  induction l with
  |nil=>intro vs ns r e;exact⟨[],r.nil_,qA e⟩
  |cons x l ih =>
   intro vs ns r e;obtain⟨v,vs',rfl,a,b⟩:=r.cons_;induction x using Mine.AV.casesOn with
   |pv p=>induction p using Mine.PV.casesOn with
    |int i =>
     obtain⟨ns',h1,rfl⟩:=yK.mp (show(z0 l).map (i::·)=some ns from e);obtain⟨t,rfl⟩:=a.int_;obtain⟨ys,h2,h3⟩:=ih b h1;exact⟨(i,t)::ys,by rw[h2];rfl,by rw[←h3];rfl⟩
    |_=>injection e
   |_=>injection e
 obtain⟨ys,h1,h2⟩:=key;exact⟨ys.toArray,by rw[h1];simp[intItems],h2⟩
theorem H3(h:x∈a::r):x∈a::b::r:=by
 rcases q7.mp h with rfl | h
 ·exact .head _
 ·exact .tail _ (.tail _ h)
theorem KB{p:Int→Prop}{a b:Int}{r:List Int}(ha:p a)(h:∀x∈b::r,p x):∀x∈a::b::r,p x:=λx hx=>by
 rcases q7.mp hx with rfl | hx
 ·exact ha
 ·exact h x hx
theorem Bw{p:Int→Prop}{a b:Int}{r:List Int}(hb:p b)(h:∀x∈a::r,p x):∀x∈a::b::r,p x :=
 KB (h _ (.head _)) λx hx=>by
  rcases q7.mp hx with rfl | hx
  ·exact hb
  ·exact h x (.tail _ hx)
theorem qfr:∀(l:List Int) (a:Int),wx a l∈a::l∧∀x∈a::l,x≤wx a l:=by
 intro l;induction l with
 |nil =>
  intro a;exact⟨.head _,λx hx=>Int.le_of_eq (qQ.mp hx)⟩
 |cons b r ih0 =>
  intro a;show wx (if a<b then b else a) r∈a::b::r∧∀x∈a::b::r,x≤wx (if a<b then b else a) r
  by_cases h:a<b
  ·rw[if_pos h];have ih:=ih0 b;exact⟨.tail _ ih.1,KB (zB (we h) (ih.2 b (.head _))) ih.2⟩
  ·rw[if_neg h];have ih:=ih0 a;exact⟨H3 ih.1,Bw (zB (Int.not_lt.mp h) (ih.2 a (.head _))) ih.2⟩
theorem qfu:∀(l:List Int) (a:Int),yi a l∈a::l∧∀x∈a::l,yi a l≤x:=by
 intro l;induction l with
 |nil =>
  intro a;exact⟨.head _,λx hx=>Int.le_of_eq (qQ.mp hx).symm⟩
 |cons b r ih0 =>
  intro a;show yi (if b<a then b else a) r∈a::b::r∧∀x∈a::b::r,yi (if b<a then b else a) r≤x
  by_cases h:b<a
  ·rw[if_pos h];have ih:=ih0 b;exact⟨.tail _ ih.1,KB (zB (ih.2 b (.head _)) (we h)) ih.2⟩
  ·rw[if_neg h];have ih:=ih0 a;exact⟨H3 ih.1,Bw (zB (ih.2 a (.head _)) (Int.not_lt.mp h)) ih.2⟩
theorem qfz(e:xs.toList.map (·.1)=l)(hj:j<xs.size):numAt xs j∈l:=by
 rw[←e];unfold numAt;rw[yl hj];exact wl.mpr ⟨xs[j],Array.mem_toList_iff.mpr (Array.getElem_mem hj),rfl⟩
theorem qbS(e:xs.toList.map (·.1)=l)(hx:x∈l):∃j,j≤xs.size - 1∧numAt xs j=x:=by
 rw[←e] at hx;obtain⟨p,hp,rfl⟩:=wl.mp hx;obtain⟨j,hj,rfl⟩:=Array.mem_iff_getElem.mp (Array.mem_toList_iff.mp hp);exact⟨j,Nat.le_sub_one_of_lt hj,by unfold numAt;rw[yl hj];rfl⟩
theorem ZH{xs:Array (Int×Tok)}{a:Int}{r:List Int}(e:xs.toList.map (·.1)=a::r):0<xs.size:=by
 have:=qz List.length e;rw[qE,ym] at this;rw[this];exact Nat.succ_pos _
theorem Y4(e:xs.toList.map (·.1)=a::r)(hv:(intItems xs)[argBest (λi j=>decide (numAt xs i > numAt xs j)) (xs.size - 1)]? = some v):∃t,v = .int (wx a r) t:=by
 obtain⟨t,rfl⟩:=intItems_at hv;obtain⟨h1,h2⟩:=argBest_gt (numAt xs) (xs.size - 1);obtain⟨m1,m2⟩:=qfr r a;obtain⟨j,hj,hj'⟩:=qbS e m1;exact⟨t,by rw[Int.le_antisymm (m2 _ (qfz e (qP h1 (Nat.sub_one_lt_of_lt (ZH e))))) (hj'▸h2 j hj)]⟩
theorem Y5(e:xs.toList.map (·.1)=a::r)(hv:(intItems xs)[argBest (λi j=>decide (numAt xs i<numAt xs j)) (xs.size - 1)]? = some v):∃t,v = .int (yi a r) t:=by
 obtain⟨t,rfl⟩:=intItems_at hv;obtain⟨h1,h2⟩:=argBest_lt (numAt xs) (xs.size - 1);obtain⟨m1,m2⟩:=qfu r a;obtain⟨j,hj,hj'⟩:=qbS e m1;exact⟨t,by rw[Int.le_antisymm (hj'▸h2 j hj) (m2 _ (qfz e (qP h1 (Nat.sub_one_lt_of_lt (ZH e)))))]⟩
theorem jq.grown{r:AV}{Q:Value→Shared→Prop}(R:Rel g Z bs ρ U s.heap)(K:jq g Z bs ρ U s r U Q){val:Value}{h':Heap}(tk:Nat)(k:∀b o,s.heap.get? b=some o→h'.get? b=some o)(q:RA ρ (Fz Z ρ U) h' val r):Q val { s with heap:=h',toks:=tk } :=
 K val _ ρ (R.grow k) (Post.grow k rfl rfl) q
theorem ZU{l:Addr}{xs:Array (Int×Tok)}{Q:Value→Shared→Prop}(hl:s.heap.IsTuple l (intItems xs))(h:∀s₂:Shared,s₂ = { s with heap:=s.heap.push { cls:=.type "tuple_iterator",data:=.fields #[.ref l,.int 0 0] } } →
   (s₂.heap.IsTupleIter s.heap.objs.size l 0∧s₂.heap.IsTuple l (intItems xs))→(∀b∈[s.heap.objs.size,l],b<s₂.heap.objs.size)→l≠s.heap.objs.size→Q (.ref s.heap.objs.size) s₂):
  wpAny (model prog w) A (pyIter (.ref l)) Q E s:=by
 have hlt:l<s.heap.objs.size:=by obtain⟨_,e,_⟩:=hl;exact zq e
 refine wpAny_pyIter_tuple hl (h _ rfl ⟨⟨_,jy _ rfl,rfl,rfl⟩,IsTup.push hl _⟩ (λb hb=>?_) (wq hlt));show b<(s.heap.push _).objs.size
 rw[yq];rcases q7.mp hb with rfl | hb
 ·exact zY _
 ·rcases q7.mp hb with rfl | hb
  ·exact kM hlt
  ·rcases hb
theorem H6{o':Obj}{h':Heap}(hk:∀b o,b ∉ [s.heap.objs.size]→(s.heap.push o').get? b=some o→h'.get? b=some o):
  ∀b o,s.heap.get? b=some o→h'.get? b=some o:=λb o e=>by
 refine hk b o (λhm=>?_) (jd _ e);rcases q7.mp hm with e1 | hm
 ·exact absurd (e1▸zq e) (Nat.lt_irrefl _)
 ·rcases hm
theorem BD{l:Addr}{xs:Array (Int×Tok)}{Q:Value→Shared→Prop}(hh:A.handled=none)(hl:s.heap.IsTuple l (intItems xs))(hne:0<xs.size)(h:∀v h' tk,(intItems xs)[argBest (λi j=>decide (numAt xs i > numAt xs j)) (xs.size - 1)]? = some v→(∀b o,s.heap.get? b=some o→h'.get? b=some o)→Q v { s with heap:=h',toks:=tk }):
  wpAny (model prog w) A (call (.builtin "max") [.ref l]) Q E s:=by
 refine call_max_walk (ZU hl λs₂ e st hfp hlI=>?_);subst e;refine⟨_,_,_,_,_,_,_,rfl,Walks.tuple (A:=A.in1) hh _ l hlI (intItems xs),st,hfp,by simpa [intItems] using hne,CmpOf.ints_gt (numAt xs) (λB B=>intItems_at),λv h' tk hP hk=>?_⟩;exact h v h' tk (by simpa [intItems] using hP) (H6 hk)
theorem BG{l:Addr}{xs:Array (Int×Tok)}{Q:Value→Shared→Prop}(hh:A.handled=none)(hl:s.heap.IsTuple l (intItems xs))(hne:0<xs.size)(h:∀v h' tk,(intItems xs)[argBest (λi j=>decide (numAt xs i<numAt xs j)) (xs.size - 1)]? = some v→(∀b o,s.heap.get? b=some o→h'.get? b=some o)→Q v { s with heap:=h',toks:=tk }):
  wpAny (model prog w) A (call (.builtin "min") [.ref l]) Q E s:=by
 refine call_min_walk (ZU hl λs₂ e st hfp hlI=>?_);subst e;refine⟨_,_,_,_,_,_,_,rfl,Walks.tuple (A:=A.in1) hh _ l hlI (intItems xs),st,hfp,by simpa [intItems] using hne,CmpOf.ints_lt (numAt xs) (λB B=>intItems_at),λv h' tk hP hk=>?_⟩;exact h v h' tk (by simpa [intItems] using hP) (H6 hk)
theorem qku{va:Value}{v:AV}{l:List AV}{a:Int}{r:List Int}{Q:Value→Shared→Prop}(hh:A.handled=none)(R:Rel g Z bs ρ U s.heap)(ra:RA ρ (Fz Z ρ U) s.heap va v)(e:qR U v=some l)(e2:z0 l=some (a::r))(K:jq g Z bs ρ U s (.pv (.int (wx a r))) U Q):wpAny (model g.prog g.w) A (call (.builtin "max") [va]) Q E s:=by
 obtain⟨b,vs,rfl,rs,hh'⟩:=zH R ra e;obtain⟨xs,h1,h2⟩:=qbq rs e2;have hsz:=ZH h2;rw[h1] at hh';rcases hh' with⟨_,ht⟩ | ⟨_,_,ht⟩
 ·exact BD hh ht hsz λv h' tk hv hk=>by obtain⟨t,rfl⟩:=Y4 h2 hv;exact K.grown R tk hk (.pv (.int _ _))
 ·exact max_intList hh ht hsz λv h' tk hv hk=>by obtain⟨t,rfl⟩:=Y4 h2 hv;exact K.grown R tk hk (.pv (.int _ _))
theorem qkw{va:Value}{v:AV}{l:List AV}{a:Int}{r:List Int}{Q:Value→Shared→Prop}(hh:A.handled=none)(R:Rel g Z bs ρ U s.heap)(ra:RA ρ (Fz Z ρ U) s.heap va v)(e:qR U v=some l)(e2:z0 l=some (a::r))(K:jq g Z bs ρ U s (.pv (.int (yi a r))) U Q):wpAny (model g.prog g.w) A (call (.builtin "min") [va]) Q E s:=by
 obtain⟨b,vs,rfl,rs,hh'⟩:=zH R ra e;obtain⟨xs,h1,h2⟩:=qbq rs e2;have hsz:=ZH h2;rw[h1] at hh';rcases hh' with⟨_,ht⟩ | ⟨_,_,ht⟩
 ·exact BG hh ht hsz λv h' tk hv hk=>by obtain⟨t,rfl⟩:=Y5 h2 hv;exact K.grown R tk hk (.pv (.int _ _))
 ·exact min_intList hh ht hsz λv h' tk hv hk=>by obtain⟨t,rfl⟩:=Y5 h2 hv;exact K.grown R tk hk (.pv (.int _ _))
theorem qkv{va vb:Value}{a b:Int}{Q:Value→Shared→Prop}(hh:A.handled=none)(R:Rel g Z bs ρ U s.heap)(ra:RA ρ (Fz Z ρ U) s.heap va (.pv (.int a)))(rb:RA ρ (Fz Z ρ U) s.heap vb (.pv (.int b)))(K:jq g Z bs ρ U s (.pv (.int (if a<b then b else a))) U Q):wpAny (model g.prog g.w) A (call (.builtin "max") [va,vb]) Q E s:=by
 obtain⟨t,rfl⟩:=ra.int_;obtain⟨u,rfl⟩:=rb.int_;refine max_two_ints hh λh' tk hk=>?_;by_cases c:b > a
 ·have c':a<b:=c
  rw[if_pos c];rw[if_pos c'] at K;exact K.grown R tk hk (.pv (.int _ _))
 ·have c':¬ a<b:=c
  rw[if_neg c];rw[if_neg c'] at K;exact K.grown R tk hk (.pv (.int _ _))
theorem qkx{va vb:Value}{a b:Int}{Q:Value→Shared→Prop}(hh:A.handled=none)(R:Rel g Z bs ρ U s.heap)(ra:RA ρ (Fz Z ρ U) s.heap va (.pv (.int a)))(rb:RA ρ (Fz Z ρ U) s.heap vb (.pv (.int b)))(K:jq g Z bs ρ U s (.pv (.int (if b<a then b else a))) U Q):wpAny (model g.prog g.w) A (call (.builtin "min") [va,vb]) Q E s:=by
 obtain⟨t,rfl⟩:=ra.int_;obtain⟨u,rfl⟩:=rb.int_;refine min_two_ints hh λh' tk hk=>?_;by_cases c:b<a
 ·rw[if_pos c];rw[if_pos c] at K;exact K.grown R tk hk (.pv (.int _ _))
 ·rw[if_neg c];rw[if_neg c] at K;exact K.grown R tk hk (.pv (.int _ _))
theorem qmM{va:Value}{v:AV}{l:List AV}{Q:Value→Shared→Prop}(R:Rel g Z bs ρ U s.heap)(ra:RA ρ (Fz Z ρ U) s.heap va v)(e:qR U v=some l)(hl:l.length≤jl)(K:jq g Z bs ρ U s (.pv (.int l.length)) U Q):wpAny (model g.prog g.w) A (call (.builtin "len") [va]) Q E s:=by
 obtain⟨b,vs,rfl,rs,hh'⟩:=zH R ra e;have hlen:=rs.length;have h63:=qlv;have fin:∀t tk,Q (.int (vs.toArray.size:Nat) t) { s with toks:=tk }:=λt tk=>by
  rw[ze,hlen];exact K.toks R tk (.pv (.int _ _))
 have hf:((vs.toArray.size:Nat):Int)<2 ^ 63:=by rw[ze,hlen];exact vG (Int.ofNat_le.mpr hl) h63
 rcases hh' with⟨_,ht⟩ | ⟨_,_,ht⟩
 ·exact PyProof.Rows.len_tuple ht hf (fin _ _)
 ·exact PyProof.Rows.len_list ht hf (fin _ _)
theorem qmI{va:Value}{a:Int}{Q:Value→Shared→Prop}(R:Rel g Z bs ρ U s.heap)(ra:RA ρ (Fz Z ρ U) s.heap va (.pv (.int a)))(K:jq g Z bs ρ U s (.pv (.int a.natAbs)) U Q):wpAny (model g.prog g.w) A (call (.builtin "abs") [va]) Q E s:=by
 obtain⟨t,rfl⟩:=ra.int_;refine call_abs_int λu tk=>?_;have:(if a<0 then -a else a)=(a.natAbs:Int):=by
  by_cases h:a<0
  ·rw[if_pos h,Int.ofNat_natAbs_of_nonpos (we h)]
  ·rw[if_neg h,Int.natAbs_of_nonneg (Int.not_lt.mp h)]
 rw[this];exact K.toks R tk (.pv (.int _ _))
theorem qdj{va:Value}{a:Int}{Q:Value→Shared→Prop}(R:Rel g Z bs ρ U s.heap)(ra:RA ρ (Fz Z ρ U) s.heap va (.pv (.int a)))(K:jq g Z bs ρ U s (.pv (.int a)) U Q):wpAny (model g.prog g.w) A (call (.type "int") [va]) Q E s:=by
 obtain⟨t,rfl⟩:=ra.int_;exact call_int_int (K.same R (.pv (.int _ _)))
theorem qaF{va:Value}{b:Bool}{Q:Value→Shared→Prop}(R:Rel g Z bs ρ U s.heap)(ra:RA ρ (Fz Z ρ U) s.heap va (.pv (.bool b)))(K:jq g Z bs ρ U s (.pv (.int (if b then 1 else 0))) U Q):wpAny (model g.prog g.w) A (call (.type "int") [va]) Q E s:=by
 obtain rfl:=ra.bool_;exact call_int_bool (K.toks R _ (.pv (.int _ _)))
theorem Xm{a:Int}(h:a.natAbs<10 ^ 10):a.natAbs.log2<1920:=by
 by_cases h0:a.natAbs=0
 ·rw[h0];decide
 ·exact(Nat.log2_lt h0).mpr (jp h (by decide +kernel))
theorem qfJ{va:Value}{v:AV}{b:Bool}{Q:Value→Shared→Prop}(R:Rel g Z bs ρ U s.heap)(ra:RA ρ (Fz Z ρ U) s.heap va v)(e:Hb v=some b)(K:jq g Z bs ρ U s (.pv (.bool b)) U Q):wpAny (model g.prog g.w) A (call (.builtin "isinstance") [va,.type "bool"]) Q E s:=by
 have KT:∀tk,Q (.bool b) { s with toks:=tk }:=λtk=>K.toks R tk (.pv (.bool _));induction v using Mine.AV.casesOn with
 |pv p =>
  have ra:=ra.pv_;induction p using Mine.PV.casesOn with
  |none=>obtain rfl:=ra.none_;obtain rfl:=qA e;exact IsiPair.NoneType_bool (KT _)
  |bool=>obtain rfl:=ra.bool_;obtain rfl:=qA e;exact IsiPair.bool_bool (KT _)
  |int=>obtain⟨t,rfl⟩:=ra.int_;obtain rfl:=qA e;exact IsiPair.int_bool (KT _)
  |str=>obtain⟨t,rfl⟩:=ra.str_;obtain rfl:=qA e;exact IsiPair.str_bool (KT _)
  |tup=>obtain⟨a,vs,rfl,f,t,r⟩:=ra.tup_;obtain rfl:=qA e;obtain⟨o,ho,hc,_⟩:=t;exact IsiPair.tuple_bool ho hc (KT _)
  |lst=>obtain⟨a,vs,rfl,f,t,r⟩:=ra.lst_;obtain rfl:=qA e;obtain⟨o,ho,hc,_⟩:=t;exact IsiPair.list_bool ho hc (KT _)
 |_=>injection e
theorem qdk{va:Value}{v:AV}{b:Bool}{Q:Value→Shared→Prop}(R:Rel g Z bs ρ U s.heap)(ra:RA ρ (Fz Z ρ U) s.heap va v)(e:Bl v=some b)(K:jq g Z bs ρ U s (.pv (.bool b)) U Q):wpAny (model g.prog g.w) A (call (.builtin "isinstance") [va,.type "tuple"]) Q E s:=by
 have KT:∀tk,Q (.bool b) { s with toks:=tk }:=λtk=>K.toks R tk (.pv (.bool _));induction v using Mine.AV.casesOn with
 |pv p =>
  have ra:=ra.pv_;induction p using Mine.PV.casesOn with
  |none=>obtain rfl:=ra.none_;obtain rfl:=qA e;exact IsiPair.NoneType_tuple (KT _)
  |bool=>obtain rfl:=ra.bool_;obtain rfl:=qA e;exact IsiPair.bool_tuple (KT _)
  |int=>obtain⟨t,rfl⟩:=ra.int_;obtain rfl:=qA e;exact IsiPair.int_tuple (KT _)
  |str=>obtain⟨t,rfl⟩:=ra.str_;obtain rfl:=qA e;exact IsiPair.str_tuple (KT _)
  |tup=>obtain⟨a,vs,rfl,f,t,r⟩:=ra.tup_;obtain rfl:=qA e;obtain⟨o,ho,hc,_⟩:=t;exact IsiPair.tuple_tuple ho hc (K.same R (.pv (.bool _)))
  |lst=>obtain⟨a,vs,rfl,f,t,r⟩:=ra.lst_;obtain rfl:=qA e;obtain⟨o,ho,hc,_⟩:=t;exact IsiPair.list_tuple ho hc (KT _)
 |_=>injection e
theorem qmL{va:Value}{v:AV}{i:Int}{Q:Value→Shared→Prop}(R:Rel g Z bs ρ U s.heap)(ra:RA ρ (Fz Z ρ U) s.heap va v)(e:qiV v=some i)(K:jq g Z bs ρ U s (.pv (.int i)) U Q):wpAny (model g.prog g.w) A (call (.type "int") [va]) Q E s:=by
 induction v using Mine.AV.casesOn with
 |pv p=>induction p using Mine.PV.casesOn with
  |int a=>exact qdj R ra (qA e▸K)
  |bool b=>exact qaF R ra (qA e▸K)
  |_=>injection e
 |_=>injection e
theorem kq(e:Xp U v=some l):zj v=true∧qR U v=some l:=by
 obtain⟨h1,h2⟩:=qI e;exact⟨h1,h2⟩
inductive ListR (ρ:qG) (F:Addr→Prop) (h:Heap) (v:Value) (l:List AV):Prop
 |mk (a:Addr) (vs:List Value) (e:v = .ref a) (r:RAs ρ F h vs l) (t:h.IsList a vs.toArray)
theorem Zx(R:Rel g Z bs ρ U h)(r:RA ρ (Fz Z ρ U) h v x)(e:qR U x=some l)(hx:zj x=true):ListR ρ (Fz Z ρ U) h v l:=by
 obtain⟨a,vs,rfl,rs,hh⟩:=zH R r e;exact⟨a,vs,rfl,rs,(hh.resolve_left λz=>QQ hx z.1).2.2⟩
theorem qhI{va:Value}{v:AV}{l:List AV}{Q:Value→Shared→Prop}(R:Rel g Z bs ρ U s.heap)(ra:RA ρ (Fz Z ρ U) s.heap va v)(e:qR U v=some l)(hv:zj v=true)(hl:l.length≤jl)(K:jq g Z bs ρ U s (mkTup l) U Q):wpAny (model g.prog g.w) A (call (.type "tuple") [va]) Q E s:=by
 obtain⟨b,vs,rfl,rs,ht⟩:=Zx R ra e hv;have hlen:=rs.length;have hbl:=wG;refine call_tuple_list ht (λh' hk=>?_) (by rw[ze,hlen];exact qu hl hbl);have K':jq g Z bs ρ U { s with heap:=h' } (mkTup l) U Q:=λval s' ρ' h1 h2 h3=>K val s' ρ' h1 ((Post.grow hk rfl rfl:Post jZ ρ U s ρ U { s with heap:=h' }).trans h2) h3;exact YV (s:={ s with heap:=h' }) (R.grow hk) (rs.mono (λB B B e=>e) λb o e f B=>⟨hk b o e,f⟩) K' _
theorem qfG{va vv:Value}{i:Nat}{l:List AV}{v:AV}{Q:Value→Shared→Prop}(R:Rel g Z bs ρ U s.heap)(ra:RA ρ (Fz Z ρ U) s.heap va (.ref i))(rv:RA ρ (Fz Z ρ U) s.heap vv v)(hi:U.heap[i]? = some (.list l))(hs:yz v=true∨U.strict=false)(hlen:l.length<jl)(K:jq g Z bs ρ U s (.pv .none) (U.set i (.list (l++[v]))) Q):wpAny (model g.prog g.w) A (call (.builtin "list.append") [va,vv]) Q E s:=by
 obtain⟨a,m,rfl,q⟩:=ra.ref_;have hbl:=wG;obtain⟨vs,rfl,x,y⟩:=(R.objs q hi).list_;have hl:=y.length;refine wpAny_list_append_plain x (λh' hp hsb=>?_) (by rw[ze,hl];exact qu (jz hlen) hbl);have z:=Rel.set (s':={ s with heap:=h' }) (o':=.list (l++[v])) R q hi (λx=>nomatch x) (λx=>nomatch x) (λb ob hb e=>hsb.extBut b ob (λq=>hb (by rw[q];exact .head _)) e) (vm hsb (by obtain⟨n,e⟩:=hp;exact⟨_,e⟩)) rfl rfl
  (λhne n hn hin=>?_) (λkA B=>?_)
 ·exact K _ _ ρ z.1 z.2 (.pv .none)
 ·have hv:v.under n:=by
   rcases hs with hs | hs
   ·exact kn hs n
   ·rw[R.strict hne] at hs;injection hs
  have h0:=(R.bars n hn).2 hin hi;simp only[AObj.under,AVs.under_iff] at h0 ⊢;intro x hx;rcases yN.mp hx with hx | hx
  ·exact h0 x hx
  ·simp at hx;subst hx;exact hv
 ·refine .list (vs:=vs++[vv]) (by simpa using hp) ?_
  exact(y.append (.cons rv .nil)).map_ kA
theorem qeK(l:Addr)(items:Array Value)(n:Nat)(b:Addr)(dd:Option Addr)(sl:Array (Option Value))(items2:Array Value)(n2:Nat)(hc0:¬(!items.isEmpty&&Builtin.List.listTooLong (items.size+items2.size))=true)(hc1:items.size≤sizeLine)(hs2:items.size+items2.size≤sizeLine+1):
  Meets (Builtin.«list.extend» ⟨[.ref l,.ref b],[]⟩) (λB R s=>s.heap.get? l=some { cls:=.type "list",dict:=none,data:=.seq items n,slots:=#[] }∧s.heap.get? b=some { cls:=.type "list",dict:=dd,data:=.seq items2 n2,slots:=sl }∧R (.ok (.ret Value.none)) { s with heap:=s.heap.update l (Obj.mapSeq λx=>x++items2),toks:=s.toks }) :=
 .of_wp λprog w A R s h=>by
  obtain⟨hp,g,d,tk,os⟩:=s;obtain⟨hl,hb,h⟩:=h;have f2:=PySem.AutoSeq1.sub_tuple_tuple;have f3:=PySem.AutoSeq1.sub_list_list;have f4:=PySem.AutoSeq1.sub_tuple_list;have f5:=PySem.AutoSeq1.sub_list_tuple;have hz':(items++items2).size≤sizeLine+1:=by rw[Array.size_append];exact hs2
  wp_walk using (wpAny_updateSeq hl rfl (hz:=hc1) (_hz':=hz')),PySem.AutoSeq1.wpAny_loadPart' hl,PySem.AutoSeq1.wpAny_loadPart' hb
  exact⟨_,rfl,h⟩
theorem qfI{va vb:Value}{i:Nat}{l r:List AV}{w:AV}{Q:Value→Shared→Prop}(R:Rel g Z bs ρ U s.heap)(ra:RA ρ (Fz Z ρ U) s.heap va (.ref i))(rb:RA ρ (Fz Z ρ U) s.heap vb w)(hw:qR U w=some r)(hL:wd w=false)(hi:U.heap[i]? = some (.list l))(hs:r.all yz=true∨U.strict=false)(hlen:l.length+r.length<jl)(K:jq g Z bs ρ U s (.pv .none) (U.set i (.list (l++r))) Q):wpAny (model g.prog g.w) A (call (.builtin "list.extend") [va,vb]) Q E s:=by
 obtain⟨a,m,rfl,q⟩:=ra.ref_;have hbl:=wG;obtain⟨vs,rfl,x,y⟩:=(R.objs q hi).list_;obtain⟨b,us,rfl,z,hh⟩:=zH R rb hw;rcases hh with⟨ht,_⟩ | ⟨_,_,hb⟩
 ·rw[hL] at ht;injection ht
 obtain⟨n,hx⟩:=x;obtain⟨⟨cls,dd,dat,sl⟩,hb,hcls,n2,hdat⟩:=hb;have hcls:cls = .type "list" := hcls;have hdat:dat = .seq us.toArray n2:=hdat;rw[hcls,hdat] at hb;have hsz:vs.toArray.size+us.toArray.size≤sizeLine:=by rw[ze,ze,y.length,z.length];exact qu (jz hlen) hbl
 refine call_meets PySem.F.slot_list_extend ⟨_,hx,rfl⟩ PySem.F.entry_list_extend (PySem.F.args_list_extend_2 _ _) (qeK a vs.toArray n b dd sl us.toArray n2 (extend_door hsz) (qu (qS _ _) hsz) (Nat.le_succ_of_le hsz)) ⟨hx,hb,?_⟩;have hsb:Heap.SameBut a s.heap (s.heap.update a (Obj.mapSeq λx=>x++us.toArray)):=gQ ..;have hp:(s.heap.update a (Obj.mapSeq λx=>x++us.toArray)).PlainList a (vs++us).toArray:=by
  have e:=Zc (Obj.mapSeq λx=>x++us.toArray) hx (by rw[mapSeq_app];rfl);rw[mapSeq_app,List.append_toArray] at e;exact⟨_,e⟩
 have z2:=Rel.set (s':={ s with heap:=s.heap.update a (Obj.mapSeq λx=>x++us.toArray) }) (o':=.list (l++r)) R q hi (λx=>nomatch x) (λx=>nomatch x) (λb ob hb e=>hsb.extBut b ob (λq=>hb (by rw[q];exact .head _)) e) (vm hsb (by obtain⟨n,e⟩:=hp;exact⟨_,e⟩)) rfl rfl
  (λhne n hn hin=>?_) (λkA B=>.list hp ((y.append z).map_ kA))
 ·exact K _ _ ρ z2.1 z2.2 (.pv .none)
 ·have h0:=(R.bars n hn).2 hin hi
  simp only[AObj.under,AVs.under_iff] at h0 ⊢;intro x hx;rcases yN.mp hx with hx | hx
  ·exact h0 x hx
  ·rcases hs with hs | hs
   ·exact kn (List.all_eq_true.mp hs x hx) n
   ·rw[R.strict hne] at hs;injection hs
end
section
variable {g:Glb}{A:Around}{s:Shared}{Z:Addr→Prop}{bs:List Nat}{ρ:qG}{U:St}{E:Value→Shared→Prop}{F:Addr→Prop}{h:Heap}{prog:Program}{w:World}
theorem lt2{p:Nat→Prop}{i:Nat}(h:i<2)(h0:p 0)(h1:p 1):p i:=by
 induction i using Nat.casesOn with
 |zero=>exact h0
 |succ i=>induction i using Nat.casesOn with
  |zero=>exact h1
  |succ i=>exact absurd h (Nat.not_lt.mpr (Nat.le_add_left 2 i))
theorem lt3{p:Nat→Prop}{i:Nat}(h:i<3)(h0:p 0)(h1:p 1)(h2:p 2):p i:=by
 induction i using Nat.casesOn with
 |zero=>exact h0
 |succ i=>exact lt2 (p:=λi=>p (i+1)) (Q7 h) h1 h2
theorem qlh:∀(vs:List Value),vs.length<2→vs.toArray=((vs.toArray.zip vs.toArray).map (·.2))
 |[],_=>by simp
 |[x],_=>by simp
 |x::y::r,h=>absurd h (Nat.not_lt.mpr (Nat.le_add_left 2 r.length))
theorem qdx{a:Addr}{vs:List Value}{n:Nat}{P:Fin→Shared→Prop}(ho:s.heap.get? a=some (seqObj "list" vs.toArray n))(h2:vs.length<2)(h:P (.done (.ret .none)) { s with heap:=sortedHeap s.heap a vs vs.toArray }):wpAny (model prog w) A (Builtin.«list.sort» ⟨[.ref a],[]⟩) P E s:=by
 rw[list_sort_plain];have ha:a<s.heap.objs.size:=zq ho;have l3:∀{n:Nat},3≤n→vs.length≤n:=λh=>qu (jz h2) (qu (by decide) h);refine qe (listItems_at ho rfl ?_);refine qe (listUpdate_at ho rfl ?_ (by rw[ze,yO];exact l3 (by decide)) (j4 _));obtain⟨e1,ho1⟩:∃e1,(s.heap.update a (Obj.mapSeq λB=>(#[]:Array Value))).get? a=some (seqObj "list" #[] e1):=⟨_,get?_update_seq ho (λB=>#[])⟩
 refine qe (seqEpoch_at ho1 rfl ?_);refine qe (wpAny_newTuple ?_ (by show vs.length≤_;rw[yO];exact l3 (by decide)));refine qe (wpAny_newList ?_ (j4 _));refine jX ?_;have ho6:(((s.heap.update a (Obj.mapSeq λB=>(#[]:Array Value))).push (seqObj "tuple" vs.toArray 0)).push (seqObj "list" #[] 0)).get? a=some (seqObj "list" #[] e1):=by
  rw[Heap.get?_push_ne _ _ _ (by rw[PyProof.Rows.size_push',Heap.size_update];exact wq (kM ha)),Heap.get?_push_ne _ _ _ (by rw[Heap.size_update];exact wq ha)];exact ho1
 show wpAny (model prog w) A _ P E { s with heap:=((s.heap.update a (Obj.mapSeq λB=>(#[]:Array Value))).push (seqObj "tuple" vs.toArray 0)).push (seqObj "list" #[] 0) }
 dsimp only;have h2':vs.toArray.size<2:=by rw[ze];exact h2
 rw[if_pos h2',if_pos h2'];refine qe (qp ?_);rw[StateT.run_pure];refine qe (qp ?_);dsimp only;refine qe (seqEpoch_at ho6 rfl ?_);refine qe (listUpdate_at ho6 rfl ?_ (j4 _) (hsz2:=by rw[Array.size_map];show(vs.toArray.zip vs.toArray).size≤_;rw[Array.size_zip,yO,Nat.min_self];exact l3 (by decide)));simp only[bne_self_eq_false,Bool.false_eq_true,if_false];have e0:=qlh vs h2;rw[e0] at h;exact qp (by rw[←e0] at h ⊢;exact h)
theorem qag{l:Addr}{vs:List Value}{Q:Value→Shared→Prop}(hl:s.heap.IsList l vs.toArray)(h2:vs.length<2)(h:Q (.ref (s.heap.objs.size+1)) { s with heap:=sortedAll s.heap vs vs.toArray }):
  wpAny (model prog w) A (call (.builtin "sorted") [.ref l]) Q E s:=by
 refine Calls.call_function_entry kind_sorted plain_sorted entry_sorted (args_sorted1 _) ?_;unfold Builtin.«sorted»;refine qe (m:=checkCount "sorted" 1 1 _) (qp ?_);refine qe (collect_list hl ?_ (by rw[yO];exact qu (jz h2) (by decide)));refine qe (wpAny_newList ?_ (by rw[yO];exact qu (jz h2) (by decide)));have hsz:((s.heap.push (seqObj "list" #[] 0)).update s.heap.objs.size (Obj.mapSeq (· ++ vs.toArray))).objs.size=s.heap.objs.size+1:=by
  rw[Heap.size_update,PyProof.Rows.size_push']
 have hoL:(((s.heap.push (seqObj "list" #[] 0)).update s.heap.objs.size (Obj.mapSeq (· ++ vs.toArray))).push (seqObj "list" vs.toArray 0)).get? (s.heap.objs.size+1)=some (seqObj "list" vs.toArray 0):=by
  rw[←hsz];exact jy _ rfl
 show wpAny _ _ _ _ _ { s with heap:=((s.heap.push (seqObj "list" #[] 0)).update s.heap.objs.size (Obj.mapSeq (· ++ vs.toArray))).push (seqObj "list" vs.toArray 0) }
 rw[hsz];refine qe (jX (y7 slot_list_sort ⟨_,hoL,rfl⟩ entry_list_sort (qdx hoL h2 ⟨_,rfl,qp ⟨_,rfl,h⟩⟩) (args_list_sort _)))
theorem qav:∀{l:List AV}{vs:List Value},RAs ρ F h vs l→z0 l=some ns→IntsAre vs ns:=by
 intro l;revert ns
 induction l with
 |nil=>intro ns vs r e;rw[r.nil_,←qA e];exact .nil
 |cons x l ih =>
  intro ns vs r e;obtain⟨v,vs',rfl,a,b⟩:=r.cons_;induction x using Mine.AV.casesOn with
  |pv p=>induction p using Mine.PV.casesOn with
   |int i =>
    obtain⟨ns',h1,rfl⟩:=yK.mp (show(z0 l).map (i::·)=some ns from e);obtain⟨t,rfl⟩:=a.int_;exact .cons _ _ (ih b h1)
   |_=>injection e
  |_=>injection e
theorem Q2(hb:b≠a)(e:h.get? b=some o):(sortedHeap h a vs out).get? b=some o:=by
 rw[sortedHeap_old hb (zq e)];exact e
theorem qgf(e:qaf l=some r):l=r.map .pv∧l.length<2:=by
 induction l using List.casesOn with
 |nil=>injection e with e;subst e;exact⟨rfl,by decide⟩
 |cons v t =>
  obtain⟨h,e1⟩:=qI (show(if t.isEmpty then ob (asP v) λp=>some [p] else none)=some r from e);obtain⟨p,hp,e2⟩:=qo e1;rw[gS.mp h];induction v using Mine.AV.casesOn with
  |pv q=>injection hp with hp;subst hp;injection e2 with e2;subst e2;exact⟨rfl,zY 1⟩
  |_=>injection hp
theorem qik:∀r:List PV,wO (r.map .pv)=some r:=by
 intro r;induction r with
 |nil =>
  exact rfl
 |cons x r ih =>
  exact qz (Option.map (x::·)) (ih)
theorem qhB(r:List PV):mkLst (r.map .pv) = .pv (.lst r):=by rw[mkLst,qik]
theorem qfK{va:Value}{v:AV}{l:List AV}{r:List PV}{Q:Value→Shared→Prop}(R:Rel g Z bs ρ U s.heap)(ra:RA ρ (Fz Z ρ U) s.heap va v)(hi:qR U v=some l)(hv:zj v=true)(e:qaf l=some r)(K:jq g Z bs ρ U s (.pv (.lst r)) U Q):wpAny (model g.prog g.w) A (call (.builtin "sorted") [va]) Q E s:=by
 obtain⟨a,vs,rfl,rs,hl⟩:=Zx R ra hi hv;obtain⟨e1,e2⟩:=qgf e;have hlen:vs.length<2:=by rw[rs.length];exact e2
 rw[e1] at rs;refine qag hl hlen ?_;obtain⟨n',hat⟩:=sortedAll_at s.heap vs vs.toArray;have q:=R.notFootNew (kr (h:=s.heap) (b:=s.heap.objs.size+1) (wt _));have q2:RA ρ (Fz Z ρ U) (sortedAll s.heap vs vs.toArray) (.ref (s.heap.objs.size+1)) (mkLst (r.map .pv)) :=
  .mkLst q ⟨_,hat,rfl,_,rfl⟩ (rs.mono (λB B B e=>e) λb o e f B=>⟨sortedAll_old e,f⟩)
 rw[qhB] at q2;exact K.grown R _ (λb o e=>sortedAll_old e) q2
end
theorem PV.same_eq(a b:PV):a.same b=true→a=b:=by
 refine(PV.ind (P:=λa=>∀b,a.same b=true→a=b) (Q:=λa=>∀b,PV.sames a b=true→a=b) ?_ ?_ ?_ ?_ ?_ ?_ ?_ ?_).1 a b
 ·intro b h;rcases b <;> first | rfl | exact(q9 h).elim
 ·intro a b h;rcases b <;> first | exact qz PV.bool (zr.mp h) | exact(q9 h).elim
 ·intro a b h;rcases b <;> first | exact qz PV.int (zr.mp h) | exact(q9 h).elim
 ·intro a b h;rcases b <;> first | exact qz PV.str (zr.mp h) | exact(q9 h).elim
 ·intro a ih b h;rcases b <;> first | exact qz PV.tup (ih _ h) | exact(q9 h).elim
 ·intro a ih b h;rcases b <;> first | exact qz PV.lst (ih _ h) | exact(q9 h).elim
 ·intro b h;rcases b <;> first | rfl | exact(q9 h).elim
 ·intro a l i1 i2 b h;rcases b with _ | ⟨b,m⟩
  ·exact(q9 h).elim
  ·have h:=qc h;rw[i1 b h.1,i2 m h.2]
theorem AV.sames_eq(a b:List AV):AV.sames a b=true→a=b:=by
 refine(AV.ind (P:=λa=>∀b,a.same b=true→a=b) (Q:=λa=>∀b,AV.sames a b=true→a=b) ?_ ?_ ?_ ?_ ?_ ?_).2 a b
 ·intro a b h;rcases b <;> first | exact qz AV.pv (PV.same_eq _ _ h) | exact(q9 h).elim
 ·intro a b h;rcases b <;> first | exact qz AV.ref (zr.mp h) | exact(q9 h).elim
 ·intro a ih b h;rcases b <;> first | exact qz AV.tupR (ih _ h) | exact(q9 h).elim
 ·intro a ih b h;rcases b <;> first | exact qz AV.lstR (ih _ h) | exact(q9 h).elim
 ·intro b h;rcases b <;> first | rfl | exact(q9 h).elim
 ·intro a l i1 i2 b h;rcases b with _ | ⟨b,m⟩
  ·exact(q9 h).elim
  ·have h:=qc h;rw[i1 b h.1,i2 m h.2]
noncomputable abbrev Zu(Z X:Addr→Prop):Addr→Prop:=λb=>Z b∨X b
section
variable {g:Glb}{A:Around}{s:Shared}{Z:Addr→Prop}{bs:List Nat}{ρ:qG}{U:St}{E:Value→Shared→Prop}{F:Addr→Prop}{h:Heap}{prog:Program}{w:World}
set_option tactic.hygienic true in
theorem Zw(e:qR U x=some l)(hk:jB (yh U x) U'=true):qR U' x=some l:=by
 induction x using Mine.AV.casesOn with
 |ref i =>
  simp only[qR] at e ⊢;split at e
  ·rename_i l' hl
   injection e with e;subst e;simp only[yh,hl,jB,List.all_cons,List.all_nil,Bool.and_true,By] at hk;split at hk
   ·rename_i l'' hl''
    first | exact qz some (AV.sames_eq _ _ hk) | (rw[hl'',AV.sames_eq _ _ hk])
   ·injection hk
  ·injection e
 |pv p=>rcases p <;> first | exact e | (simp[qR] at e)
 |tupR l=>exact e
 |lstR l=>exact e
theorem Rel.done{X:Addr→Prop}{h':Heap}(R:Rel g (Zu Z X) bs ρ U h)(hd:∀b,Z b→¬ X b)(k:∀b o,h.get? b=some o→¬ X b→h'.get? b=some o):Rel g Z bs ρ U h' where
 len:=R.len
 objs e1 e2:=(R.objs e1 e2).mono (λB B B e=>e) (λb o e f B=>⟨k b o e (λx=>f.1 (.inr x)),λz=>f.1 (.inl z),f.2⟩) λb hb o e=>k b o e λx=>(R.addrs e1 hb).2.2 (.inr x)
 apart:=R.apart
 addrs e m:=have q:=R.addrs e m;⟨q.1,(by obtain⟨o,e⟩:=q.2.1;exact⟨o,k _ _ e λx=>q.2.2 (.inr x)⟩),λz=>q.2.2 (.inl z)⟩
 zlt q:=⟨(R.zlt (.inl q)).1,(by obtain⟨o,e⟩:=(R.zlt (.inl q)).2;exact⟨o,k _ _ e (hd _ q)⟩)⟩
 keep b o e:=k b o (R.keep b o e) λx=>(R.zlt (.inr x)).1 ⟨_,e⟩
 bars:=R.bars
 strict:=R.strict
theorem RA.done{X:Addr→Prop}{h':Heap}{v:Value}{x:AV}(r:RA ρ (Fz (Zu Z X) ρ U) h v x)(k:∀b o,h.get? b=some o→¬ X b→h'.get? b=some o):RA ρ (Fz Z ρ U) h' v x :=
 r.mono (λB B B e=>e) λb o e f B=>⟨k b o e (λx=>f.1 (.inr x)),λz=>f.1 (.inl z),f.2⟩
theorem RAs.done{X:Addr→Prop}{h':Heap}{v:List Value}{x:List AV}(r:RAs ρ (Fz (Zu Z X) ρ U) h v x)(k:∀b o,h.get? b=some o→¬ X b→h'.get? b=some o):RAs ρ (Fz Z ρ U) h' v x :=
 r.mono (λB B B e=>e) λb o e f B=>⟨k b o e (λx=>f.1 (.inr x)),λz=>f.1 (.inl z),f.2⟩
theorem Post.inX{X:Addr→Prop}{s s':Shared}(k:∀b o,s.heap.get? b=some o→¬ X b→s'.heap.get? b=some o)(hg:s'.gens=s.gens)(ho:s'.os=s.os):Post X ρ U s ρ U s' :=
 ⟨λB B e=>e,λb o e x B=>k b o e x,λB B B q=>q,λb l x=>by obtain⟨o,e⟩:=l;exact⟨o,k b o e x⟩,hg,ho,rfl⟩
structure IterOk (g:Glb) (A:Around) (target:Expr) (it:Addr) (X Z:Addr→Prop) (held:List (Nat×List AV)) (S:List AV→qG→St→Heap→Prop):Prop where
 turn:∀{items:List AV}{bs:List Nat}{ρ:qG}{U:St}{s:Shared}{E:Value→Shared→Prop}(N:Shared→Prop) (Y:AV→List AV→Value→Shared→Prop),Rel g (Zu Z X) bs ρ U s.heap→S items ρ U s.heap →
  (items=[]→∀s',Rel g Z bs ρ U s'.heap→Post X ρ U s ρ U s'→N s') →
  (∀x r,items=x::r→∀v s',Rel g (Zu Z X) bs ρ U s'.heap→Post X ρ U s ρ U s'→RA ρ (Fz (Zu Z X) ρ U) s'.heap v x→S r ρ U s'.heap→Y x r v s') →
  wpAny (model g.prog g.w) A (pyNext (.ref it)) (λr s1=>match r with
   |none=>items=[]∧N s1
   |some v=>wpAny (model g.prog g.w) A (letOwnedTupleGo target (.ref it) v) (λB s2=>∃x r,items=x::r∧Y x r v s2) E s1) E s
 keep:∀{items:List AV}{bs:List Nat}{ρ ρ':qG}{U U':St}{s s':Shared}{Y:Addr→Prop},Rel g (Zu Z X) bs ρ U s.heap→S items ρ U s.heap→Post Y ρ U s ρ' U' s'→(∀b,Y b→Zu Z X b∧¬ X b)→jB held U'=true→S items ρ' U' s'.heap
 self:∀{items:List AV}{ρ:qG}{U:St}{s:Shared}{E:Value→Shared→Prop}{Q:Value→Shared→Prop},S items ρ U s.heap→Q (.ref it) s→wpAny (model g.prog g.w) A (pyIter (.ref it)) Q E s
set_option backward.match.sparseCases true in
theorem Qt{target:Expr}{it:Addr}{v:Value}{o:Obj}{n:String}{Q:Unit→Shared→Prop}{M:Model}(ho:s.heap.get? it=some o)(hc:o.cls = .type n)(hn:["enumerate", "zip", "dict_itemiterator", "dict_reverseitemiterator", "odict_iterator", "itertools.zip_longest", "itertools.pairwise"].contains n=false)(h:Q () s):
  wpAny M A (letOwnedTupleGo target (.ref it) v) Q E s:=by
 have key:wpAny M A (do
   let (.ref r,.ref a):=((.ref it,v):Value×Value) | return
   let o ←load r
   match o.cls,o.data with
   | .type n,.fields vs =>
    if ["enumerate", "zip", "dict_itemiterator", "dict_reverseitemiterator", "odict_iterator", "itertools.zip_longest", "itertools.pairwise"].contains n&&vs[0]? == some (rawInt a) then
     rule "for.unpacks-the-owned-tuple"
     updateField r 0 .none
   |_,_=>pure ():Sem Unit) Q E s:=by
  induction v with
  |ref a =>
   refine qe (wpAny_load ho ?_);obtain⟨c,d,dt,sl⟩:=o;simp only at hc;subst hc;induction dt with
   |fields vs =>
    dsimp only;rw[hn,Bool.false_and,if_neg q9];exact qp h
   |_=>exact qp h
  |_=>exact qp h
 unfold letOwnedTupleGo;rcases target <;> first | exact qp h | exact key
inductive SeqIt (Z:Addr→Prop) (it:Addr) (x:AV) (l:List AV) (items:List AV) (ρ:qG) (U:St) (h:Heap):Prop
 |mk (e:qR U x=some l) (a:Addr) (k:Nat) (ra:RA ρ (Fz Z ρ U) h (.ref a) x) (hi:items=l.drop k) (hk:k≤l.length) (hx:(wd x=true∧h.IsTupleIter it a k)∨(wd x=false∧h.IsListIter it a k))
theorem RA.notZ(R:Rel g Z bs ρ U h)(r:RA ρ (Fz Z ρ U) h (.ref a) x):¬ Z a:=by
 cases r with
 |pv r=>cases r with
  |tup f _ _=>exact f.1
  |lst f _ _=>exact f.1
 |ref q=>exact(R.addrs q (.head _)).2.2
 |tupR f _ _=>exact f.1
 |lstR f _ _=>exact f.1
theorem ZT(x:h.IsListIter it a k):∃o,h.get? it=some o∧o.cls = .type "list_iterator" := by obtain⟨o,ho,hc,_⟩:=x;exact⟨o,ho,hc⟩
theorem QJ(x:h.IsTupleIter it a k):∃o,h.get? it=some o∧o.cls = .type "tuple_iterator" := by obtain⟨o,ho,hc,_⟩:=x;exact⟨o,ho,hc⟩
theorem qhT(U0:St)(h0:qR U0 x=some l)(hh:A.handled=none)(hz:∀b,Z b→b≠it):IterOk g A target it (λb=>b=it) Z (yh U0 x) (SeqIt (Zu Z λb=>b=it) it x l) where
 turn {items bs ρ U s E} N Y R hS hN hY:=by
  refine wZ λGo hGo=>?_;obtain⟨h1,a,k,ra,hit,hk,hi⟩:=hS;obtain⟨a',vs,e,rs,hsq⟩:=zH R ra h1;refine hGo ?_;injection e with e;subst e;have hne:a≠it:=λe=>RA.notZ R ra (.inr e);have hlen:=rs.length;have key:∀{St:Nat→Heap→Prop}{P:Nat→Value→Prop}{fp:List Addr},Walks g.prog g.w A it fp [it] vs.toArray.size (λi v=>vs.toArray[i]? = some v) St→St k s.heap →
    (∀h' k,St k h'→(wd x=true∧h'.IsTupleIter it a k)∨(wd x=false∧h'.IsListIter it a k)) →
    wpAny (model g.prog g.w) A (pyNext (.ref it)) (λr s1=>match r with
     |none=>items=[]∧N s1
     |some v=>wpAny (model g.prog g.w) A (letOwnedTupleGo target (.ref it) v) (λB s2=>∃x r,items=x::r∧Y x r v s2) E s1) E s:=by
   intro St P fp W hst hdec;have keepX:∀{h':Heap},(∀b o,b ∉ [it]→s.heap.get? b=some o→h'.get? b=some o)→∀b o,s.heap.get? b=some o→¬ (b=it)→h'.get? b=some o:=λhk b o e hb=>hk b o (by simpa using hb) e;rcases Nat.lt_or_ge k l.length with hkl | hkl
   ·refine W.item k s _ _ (by rw[ze,hlen];exact hkl) hst λv h' tk hv hst' hk'=>?_
    have hdc:=hdec h' (k+1) hst';have hcons:items=l[k]::l.drop (k+1):=by rw[hit];exact List.drop_eq_getElem_cons hkl
    obtain⟨v',hv1,hv2⟩:=rs.get (zm hkl);have:v=v':=by
     have hv:vs[k]? = some v:=by simpa using hv
     rw[hv1] at hv;injection hv with hv;subst hv;rfl
    subst this;have P':Post (λb=>b=it) ρ U s ρ U { s with heap:=h',toks:=tk }:=Post.inX (keepX hk') rfl rfl;have hlv:Lv h' it:=by
     rcases hdc with⟨_,q⟩ | ⟨_,q⟩
     ·obtain⟨o,e,_⟩:=QJ q;exact⟨o,e⟩
     ·obtain⟨o,e,_⟩:=ZT q;exact⟨o,e⟩
    have R':Rel g (Zu Z λb=>b=it) bs ρ U h':=R.inZ (λb o e hz'=>keepX hk' b o e λq=>hz' (.inr q)) (λb lb=>by
     by_cases hb:b=it
     ·rw[hb];exact hlv
     ·obtain⟨o,e⟩:=lb;exact⟨o,keepX hk' b o e hb⟩)
    have mono:∀{v:Value}{y:AV},RA ρ (Fz (Zu Z λb=>b=it) ρ U) s.heap v y→RA ρ (Fz (Zu Z λb=>b=it) ρ U) h' v y:=λr=>r.mono (λB B B e=>e) λb o e f B=>⟨keepX hk' b o e λq=>f.1 (.inr q),f⟩
    have hgo:wpAny (model g.prog g.w) A (letOwnedTupleGo target (.ref it) v) (λB s2=>∃x r,items=x::r∧Y x r v s2) E { s with heap:=h',toks:=tk }:=by
     have fin:=hY _ _ hcons v { s with heap:=h',toks:=tk } R' P' (mono hv2) ⟨h1,a,k+1,mono ra,rfl,hkl,hdc⟩;rcases hdc with⟨_,q⟩ | ⟨_,q⟩
     ·obtain⟨o,e,hc⟩:=QJ q;exact Qt e hc (by decide) ⟨_,_,hcons,fin⟩
     ·obtain⟨o,e,hc⟩:=ZT q;exact Qt e hc (by decide) ⟨_,_,hcons,fin⟩
    exact hgo
   ·have:k=vs.toArray.size:=by rw[ze,hlen];exact Nat.le_antisymm hk hkl
    have hnil:items=[]:=by rw[hit];exact List.drop_of_length_le hkl
    refine W.done s _ _ (this▸hst) λh' tk hk'=>⟨hnil,hN hnil _ ?_ (Post.inX (keepX hk') rfl rfl)⟩
    exact R.done (λb hb=>hz b hb) λb o e hb=>keepX hk' b o e hb
  rcases hi with⟨ht,hi⟩ | ⟨ht,hi⟩
  ·have htup:s.heap.IsTuple a vs.toArray:=by
    rcases hsq with⟨_,q⟩ | ⟨_,q,_⟩
    ·exact q
    ·rw[ht] at q;injection q
   exact key (P:=λB B=>True) (Walks.tuple hh it a hne vs.toArray) ⟨hi,htup⟩ λh' k st=>.inl ⟨ht,st.1⟩
  ·have hlst:s.heap.IsList a vs.toArray:=by
    rcases hsq with⟨q,_⟩ | ⟨_,_,q⟩
    ·rw[ht] at q;injection q
    ·exact q
   exact key (P:=λB B=>True) (Walks.list hh it a hne vs.toArray) ⟨hi,hlst⟩ λh' k st=>.inr ⟨ht,st.1⟩
 keep {items bs ρ ρ' U U' s s' Y} R hS p hY hk:=by
  obtain⟨h1,a,k,ra,hit,hk',hi⟩:=hS;have e1:qR U' x=some l:=Zw h0 hk;refine⟨e1,a,k,ra.post p λb hb=>(hY b hb).1,hit,hk',?_⟩;have keepO:∀o,s.heap.get? it=some o→s'.heap.get? it=some o:=λo e=>p.ext it o e (λq=>(hY it q).2 rfl) (R.notFoot (.inr rfl));rcases hi with⟨ht,hi⟩ | ⟨ht,hi⟩
  ·refine .inl ⟨ht,?_⟩;obtain⟨o,ho,r⟩:=hi;exact⟨o,keepO o ho,r⟩
  ·refine .inr ⟨ht,?_⟩;obtain⟨o,ho,r⟩:=hi;exact⟨o,keepO o ho,r⟩
 self {items ρ U s E Q} hS hq:=by
  obtain⟨h1,a,k,ra,hit,hk',hi⟩:=hS;rcases hi with⟨ht,hi⟩ | ⟨ht,hi⟩
  ·exact wpAny_pyIter_tupleiter hi hq
  ·exact wpAny_pyIter_listiter hi hq
end
section
variable {g:Glb}{A:Around}{s:Shared}{Z:Addr→Prop}{bs:List Nat}{ρ:qG}{U:St}{E:Value→Shared→Prop}{F:Addr→Prop}{h:Heap}{prog:Program}{w:World}
inductive RangeS (it:Addr) (a:Int) (n:Nat) (items:List AV) (ρ:qG) (U:St) (h:Heap):Prop
 |mk (k:Nat) (hk:k≤n) (hi:items=(((List.range n).map λ(j:Nat)=>AV.pv (.int (a+(j:Int)))).drop k)) (hx:IsRangeIter h it (a+(k:Nat) * 1) ((n:Int) - (k:Nat)) 1)
theorem qdq(hh:A.handled=none)(hz:∀b,Z b→b≠it):IterOk g A target it (λb=>b=it) Z held (RangeS it a n) where
 turn {items bs ρ U s E} N Y R hS hN hY:=by
  obtain⟨k,hk,hit,hi⟩:=hS;have keepX:∀{h':Heap},(∀b o,b ∉ [it]→s.heap.get? b=some o→h'.get? b=some o)→∀b o,s.heap.get? b=some o→¬ (b=it)→h'.get? b=some o:=λhk b o e hb=>hk b o (by simpa using hb) e;have W:=Walks.range (prog:=g.prog) (w:=g.w) hh it a 1 n;rcases Nat.lt_or_ge k n with hkl | hkl
  ·refine W.item k s _ _ hkl hi λv h' tk hv hst' hk'=>?_
   obtain⟨t,rfl⟩:=hv;have hcons:items=AV.pv (.int (a+(k:Int)))::(((List.range n).map λ(j:Nat)=>AV.pv (.int (a+(j:Int)))).drop (k+1)):=by
    rw[hit,List.drop_eq_getElem_cons (by simpa using hkl)];simp
   have P':Post (λb=>b=it) ρ U s ρ U { s with heap:=h',toks:=tk }:=Post.inX (keepX hk') rfl rfl;have hlv:Lv h' it:=⟨_,hst'⟩
   have R':Rel g (Zu Z λb=>b=it) bs ρ U h':=R.inZ (λb o e hz'=>keepX hk' b o e λq=>hz' (.inr q)) (λb lb=>by
    by_cases hb:b=it
    ·rw[hb];exact hlv
    ·obtain⟨o,e⟩:=lb;exact⟨o,keepX hk' b o e hb⟩)
   have fin:=hY _ _ hcons (.int (a+k * 1) t) { s with heap:=h',toks:=tk } R' P' (by rw[Int.mul_one];exact .pv (.int _ _)) ⟨k+1,hkl,rfl,hst'⟩;exact Qt hst' rfl (by decide) ⟨_,_,hcons,fin⟩
  ·have hkn:k=n:=Nat.le_antisymm hk hkl
   have hnil:items=[]:=by rw[hit];exact List.drop_of_length_le (by simpa using hkl)
   subst hkn;refine W.done s _ _ hi λh' tk hk'=>⟨hnil,hN hnil _ ?_ (Post.inX (keepX hk') rfl rfl)⟩
   exact R.done (λb hb=>hz b hb) λb o e hb=>keepX hk' b o e hb
 keep {items bs ρ ρ' U U' s s' Y} R hS p hY hk:=by
  obtain⟨k,hk,hit,hi⟩:=hS;exact⟨k,hk,hit,p.ext it _ hi (λq=>(hY it q).2 rfl) (R.notFoot (.inr rfl))⟩
 self {items ρ U s E Q} hS hq:=by
  obtain⟨k,hk,hit,hi⟩:=hS;exact wpAny_pyIter_rangeiter hi hq
structure IterG (g:Glb) (A:Around) (target:Expr) (it:Addr) (X:Addr→Prop) (held:List (Nat×List AV)) (S:(Addr→Prop)→List AV→qG→St→Heap→Prop):Prop where
 ok:∀Z:Addr→Prop,(∀b,Z b→¬ X b)→IterOk g A target it X Z held (S Z)
 more:∀{Z Z2:Addr→Prop}{items:List AV}{ρ:qG}{U:St}{h h':Heap},S Z items ρ U h→(∀b,Z2 b→Z b∨¬ Lv h b)→(∀b o,h.get? b=some o→h'.get? b=some o)→S Z2 items ρ U h'
noncomputable abbrev Zh(g:Glb)(A:Around)(target:Expr)(Z:Addr→Prop)(bs:List Nat)(ρ:qG)(U:St)(s:Shared)(src:Src)(U':St)(Q:Value→Shared→Prop):Prop :=
 ∀it X S s' ρ',Rel g (Zu Z X) bs ρ' U' s'.heap→Post jZ ρ U s ρ' U' s'→(∀b,X b→¬ Lv s.heap b)→IterG g A target it X src.held S→S Z src.items ρ' U' s'.heap→Q (.ref it) s'
theorem qau{X Z Z2:Addr→Prop}{h h':Heap}{v:Value}{x:AV}(r:RA ρ (Fz (Zu Z X) ρ U) h v x)(hz:∀b,Z2 b→Z b∨¬ Lv h b)(k:∀b o,h.get? b=some o→h'.get? b=some o):RA ρ (Fz (Zu Z2 X) ρ U) h' v x :=
 r.mono (λB B B e=>e) λb o e f B=>⟨k b o e,λz=>by
  rcases z with z | z
  ·rcases hz b z with q | q
   ·exact f.1 (.inl q)
   ·exact q ⟨_,e⟩
  ·exact f.1 (.inr z),f.2⟩
theorem qbY(U0:St)(h0:qR U0 x=some l)(hh:A.handled=none):IterG g A target it (λb=>b=it) (yh U0 x) (λZ=>SeqIt (Zu Z λb=>b=it) it x l) where
 ok Z hz:=qhT U0 h0 hh hz
 more:=by
  intro Z Z2 items ρ U h h' hS hz k;obtain⟨h1,a,j,ra,hit,hk,hi⟩:=hS;refine⟨h1,a,j,qau ra hz k,hit,hk,?_⟩;rcases hi with⟨ht,o,ho,r⟩ | ⟨ht,o,ho,r⟩
  ·exact .inl ⟨ht,o,k _ _ ho,r⟩
  ·exact .inr ⟨ht,o,k _ _ ho,r⟩
theorem qfS(hh:A.handled=none):IterG g A target it (λb=>b=it) held (λB=>RangeS it a n) where
 ok Z hz:=qdq hh hz
 more:=by
  intro Z Z2 items ρ U h h' hS hz k;obtain⟨j,hj,hit,hi⟩:=hS;exact⟨j,hj,hit,k _ _ hi⟩
theorem Zq(R:Rel g Z bs ρ U s.heap)(hf:o.isFreed=false):Rel g (Zu Z λb=>b=s.heap.objs.size) bs ρ U (s.heap.push o) :=
 R.enter (λb o e=>jd _ e) λb hb=>eqOr hb .inl (.inr ⟨wh _,⟨_,jy _ hf⟩⟩)
theorem qhs{target:Expr}{vx:Value}{x:AV}{src:Src}{Q:Value→Shared→Prop}(hh:A.handled=none)(R:Rel g Z bs ρ U s.heap)(rx:RA ρ (Fz Z ρ U) s.heap vx x)(e:wo x U=some src)(K:Zh g A target Z bs ρ U s src U Q):wpAny (model g.prog g.w) A (pyIter vx) Q E s:=by
 obtain⟨l,hl,e1⟩:=qo e;obtain⟨hbig,e2⟩:=qI e1;obtain rfl:=qA e2;obtain⟨a,vs,rfl,rs,hsq⟩:=zH R rx hl;have rx':∀o:Obj,RA ρ (Fz (Zu Z λb=>b=s.heap.objs.size) ρ U) (s.heap.push o) (.ref a) x:=λo=>(rx.zless (Z':=Zu Z λb=>b=s.heap.objs.size) λb hb=>eqOr hb .inl (.inr (wh _))).mono (λB B B e=>e) λb o e f B=>⟨jd _ e,f⟩
 have fresh:∀b,b=s.heap.objs.size→¬ Lv s.heap b:=λb e=>e▸wh _;rcases hsq with⟨ht,hq⟩ | ⟨_,ht,hq⟩
 ·refine wpAny_pyIter_tuple hq ?_
  exact K s.heap.objs.size _ (λZ=>SeqIt (Zu Z λb=>b=s.heap.objs.size) s.heap.objs.size x l) _ ρ (Zq R rfl) (Post.grow (λb o e=>jd _ e) rfl rfl) fresh (qbY U hl hh)
   ⟨hl,a,0,rx' _,rfl,j4 _,.inl ⟨ht,⟨_,jy _ rfl,rfl,rfl⟩⟩⟩
 ·refine wpAny_pyIter_list hq ?_
  exact K s.heap.objs.size _ (λZ=>SeqIt (Zu Z λb=>b=s.heap.objs.size) s.heap.objs.size x l) _ ρ (Zq R rfl) (Post.grow (λb o e=>jd _ e) rfl rfl) fresh (qbY U hl hh)
   ⟨hl,a,0,rx' _,rfl,j4 _,.inr ⟨ht,⟨_,jy _ rfl,rfl,rfl⟩⟩⟩
end
end Mine
end
section
open PySem PySem.W PySem.SeqAt PyProof.Rows PySem.Calls
namespace Mine
noncomputable def yu(k:Bool)(h:Heap)(l:Addr)(xs:Array Value):Prop:=match k with
 |true=>h.IsList l xs
 |false=>h.IsTuple l xs
noncomputable def wC(k:Bool)(h:Heap)(it l:Addr)(i:Nat):Prop:=match k with
 |true=>h.IsListIter it l i
 |false=>h.IsTupleIter it l i
theorem yu.at(x:yu k h l xs)(kp:∀o,h.get? l=some o→h'.get? l=some o):yu k h' l xs:=by
 induction k with
 |true=>obtain⟨o,e,r⟩:=x;exact⟨o,kp o e,r⟩
 |false=>obtain⟨o,e,r⟩:=x;exact⟨o,kp o e,r⟩
theorem wC.at(x:wC k h it l i)(kp:∀o,h.get? it=some o→h'.get? it=some o):wC k h' it l i:=by
 induction k with
 |true=>obtain⟨o,e,r⟩:=x;exact⟨o,kp o e,r⟩
 |false=>obtain⟨o,e,r⟩:=x;exact⟨o,kp o e,r⟩
theorem wC.lv(x:wC k h it l i):Lv h it:=by
 induction k with
 |true=>obtain⟨o,e,_⟩:=x;exact⟨o,e⟩
 |false=>obtain⟨o,e,_⟩:=x;exact⟨o,e⟩
section
variable {prog:Program}{w:World}{A:Around}{E:Value→Shared→Prop}{s:Shared}
theorem Yj{k:Bool}{it l:Addr}{i:Nat}{items:Array Value}{x:Value}{Q:Value→Shared→Prop}(hit:wC k s.heap it l i)(hl:yu k s.heap l items)(hx:items[i]? = some x)(hQ:∀h',wC k h' it l (i+1)→Heap.SameBut it s.heap h'→Q x { s with heap:=h' }):wpAny (model prog w) A (Builtin.SmallTypes.nextOf (.ref it)) Q E s:=by
 induction k with
 |true=>exact wpAny_nextOf_list_item hit hl hx hQ
 |false =>
  have hit:s.heap.IsTupleIter it l i:=hit;obtain⟨o,ho,hc,hd⟩:=id hit;obtain⟨ol,hol,_,nl,hdl⟩:=hl;unfold Builtin.SmallTypes.nextOf;refine qe (Zf (name:=Str.ofString "__next__") hit.typeIs F.slot_tuple_iterator_next
   (y7 F.slot_tuple_iterator_next hit.typeIs F.entry_tuple_iterator_next ?_ (F.args_tuple_iterator_next_1 _)))
  show wpAny _ _ (field (.ref it) 0 >>= _) _ _ s
  refine qe (yP ho hd (x:=.ref l) rfl ?_);show wpAny _ _ (if (Value.ref l == Value.none)=true then _ else _) _ _ s
  rw[if_neg (show ¬ ((Value.ref l == Value.none)=true) from q9)];show wpAny _ _ (field (.ref it) 1 >>= _) _ _ s
  refine qe (yP ho hd (x:=.int i 0) rfl ?_);show wpAny _ _ (seqItems? (.ref l) >>= _) _ _ s
  refine qe (vH hol hdl ?_);simp only[Int.toNat_natCast,hx];refine qe (wpAny_setField ho hd (by simp) (qp ⟨x,rfl,qp (hQ _ ?_ (gQ ..))⟩));exact⟨_,Zc _ ho (Obj.isFreed_of_fields (Obj.data_mapFields hd _)),(Obj.cls_mapFields ..).trans hc,by
   rw[Obj.data_mapFields hd];simp[rawInt]⟩
theorem BO{k:Bool}{it l:Addr}{i:Nat}{items:Array Value}{Q:Value→Shared→Prop}(hh:A.handled=none)(hit:wC k s.heap it l i)(hl:yu k s.heap l items)(hx:items[i]? = none)(hE:∀h' e,Heap.ExtBut it s.heap h'→(∃o,h'.get? e=some o∧o.cls = .type "StopIteration")→E (.ref e) { s with heap:=h' }):wpAny (model prog w) A (Builtin.SmallTypes.nextOf (.ref it)) Q E s:=by
 induction k with
 |true=>exact wpAny_nextOf_list_end hh hit hl hx hE
 |false =>
  have hit:s.heap.IsTupleIter it l i:=hit;obtain⟨o,ho,hc,hd⟩:=id hit;obtain⟨ol,hol,_,nl,hdl⟩:=hl;unfold Builtin.SmallTypes.nextOf;refine qe (Zf (name:=Str.ofString "__next__") hit.typeIs F.slot_tuple_iterator_next
   (y7 F.slot_tuple_iterator_next hit.typeIs F.entry_tuple_iterator_next ?_ (F.args_tuple_iterator_next_1 _)))
  show wpAny _ _ (field (.ref it) 0 >>= _) _ _ s
  refine qe (yP ho hd (x:=.ref l) rfl ?_);show wpAny _ _ (if (Value.ref l == Value.none)=true then _ else _) _ _ s
  rw[if_neg (show ¬ ((Value.ref l == Value.none)=true) from q9)];show wpAny _ _ (field (.ref it) 1 >>= _) _ _ s
  refine qe (yP ho hd (x:=.int i 0) rfl ?_);show wpAny _ _ (seqItems? (.ref l) >>= _) _ _ s
  refine qe (vH hol hdl ?_);simp only[Int.toNat_natCast,hx];refine qe (wpAny_rule (qe (wpAny_setField ho hd (by simp) ?_)));show wpAny _ _ (newExc (.type "StopIteration") [] >>= _) _ _ _
  refine qe ?_;simp only[newExc,newTuple];refine qe (wpAny_newObj_type ?_ (by size_fits));refine qe (m:=firstArgMember _ _) (wpAny_of_eq (a:=Value.none) (by first | rfl | (simp only[firstArgMember];rfl)) ?_);refine wpAny_newObj_type ?_ (by size_fits);simp only[raiseNew];refine qe (wpAny_handled ?_);first | rw[show A.in1.handled=none from hh] | rw[hh]
  refine qe (qp (wpAny_throw ?_));exact hE _ _ (((gQ ..).extBut.push _).push _) ⟨_,jy _ rfl,rfl⟩
end
section
variable {prog:Program}{w:World}{A:Around}{E:Value→Shared→Prop}{s:Shared}{k1 k2:Bool}
theorem qgw{z TI TO i1 i2 l1 l2:Addr}{j1 j2:Nat}{xs ys:Array Value}{x y a b:Value}{Q:Value→Shared→Prop}(D:ZipApart z TI TO i1 i2 l1 l2)(hz:IsZip s.heap z TI TO .none)(hTI:IsPair s.heap TI (.ref i1) (.ref i2))(hTO:IsPair s.heap TO a b)(h1:wC k1 s.heap i1 l1 j1)(h2:wC k2 s.heap i2 l2 j2)(hl1:yu k1 s.heap l1 xs)(hl2:yu k2 s.heap l2 ys)(hx:xs[j1]? = some x)(hy:ys[j2]? = some y)(hQ:∀h',IsZip h' z TI TO (rawInt s.heap.objs.size)→IsPair h' TO x y→wC k1 h' i1 l1 (j1+1)→wC k2 h' i2 l2 (j2+1)→IsPair h' s.heap.objs.size x y→h'.objs.size=s.heap.objs.size+1 →
   (∀c o,c≠z→c≠TO→c≠i1→c≠i2→s.heap.get? c=some o→h'.get? c=some o)→Q (.ref s.heap.objs.size) { s with heap:=h' }):
  wpAny (model prog w) A (Builtin.«zip.__next__» ⟨[.ref z],[]⟩) (λfin s'=>∃v,fin = .done (.ret v)∧Q v s') E s:=by
 show wpAny _ _ (field (.ref z) 2 >>= _) _ _ _
 refine qe (yP hz rfl (x:=.bool false) rfl ?_);show wpAny _ _ (field (.ref z) 3 >>= _) _ _ _
 refine qe (yP hz rfl (x:=.ref TI) rfl ?_);refine qe (vH hTI rfl ?_);show wpAny _ _ (Builtin.SmallTypes.ownedTupleIsFree (.ref z) >>= _) _ _ _
 refine qe ?_;unfold Builtin.SmallTypes.ownedTupleIsFree;refine qe (yP hz rfl (x:=.none) rfl (qp ?_));simp only[if_true];refine qe (wpAny_rule ?_);refine qe (yP hz rfl (x:=.ref TO) rfl ?_);refine qe (wpAny_setField_rec hz (by simp) λh₁ hz₁ hs₁=>?_);replace hz₁:IsZip h₁ z TI TO .ellipsis:=hz₁;refine qe ?_;simp only[List.zipIdx_cons,List.zipIdx_nil,List.forIn_cons,List.forIn_nil];refine qe (qe (wpAny_onRaise ?_));show wpAny _ _ (Builtin.SmallTypes.nextOf (.ref i1) >>= _) _ _ _
 refine qe (Yj (h1.at λo=>hs₁.extBut i1 o D.i1z) (hl1.at λo=>hs₁.extBut l1 o D.l1z) hx λh₂ h1₂ hs₂=>qp ?_);have hTO₂:IsPair h₂ TO a b:=hs₂.extBut _ _ D.TOi1 (hs₁.extBut _ _ D.TOz hTO);refine qe (vH hTO₂ rfl ?_);refine qe (wpAny_updateSeq_pair hTO₂ λh₃ hTO₃ hs₃=>?_);replace hTO₃:IsPair h₃ TO x b:=hTO₃;refine qe (wpAny_letGo (qp ?_));refine qe (qe (wpAny_onRaise ?_));show wpAny _ _ (Builtin.SmallTypes.nextOf (.ref i2) >>= _) _ _ _
 refine qe (Yj (h2.at λo e=>hs₃.extBut i2 o D.TOi2.symm (hs₂.extBut i2 o D.i12.symm (hs₁.extBut i2 o D.i2z e)))
  (hl2.at λo e=>hs₃.extBut l2 o D.l2TO (hs₂.extBut l2 o D.l2i1 (hs₁.extBut l2 o D.l2z e))) hy λh₄ h2₄ hs₄=>qp ?_)
 have hTO₄:IsPair h₄ TO x b:=hs₄.extBut _ _ D.TOi2 hTO₃;refine qe (vH hTO₄ rfl ?_);refine qe (wpAny_updateSeq_pair hTO₄ λh₅ hTO₅ hs₅=>?_);replace hTO₅:IsPair h₅ TO x y:=hTO₅;refine qe (wpAny_letGo (qp (qp ?_)));refine qe (vH hTO₅ rfl ?_);refine qe (wpAny_newTuple ?_);have hsz:h₅.objs.size=s.heap.objs.size:=by rw[hs₅.1,hs₄.1,hs₃.1,hs₂.1,hs₁.1]
 have hz₅:IsZip h₅ z TI TO .ellipsis:=hs₅.extBut _ _ D.TOz.symm (hs₄.extBut _ _ D.i2z.symm (hs₃.extBut _ _ D.TOz.symm (hs₂.extBut _ _ D.i1z.symm hz₁)));have hk₅:∀c o,c≠z→c≠TO→c≠i1→c≠i2→s.heap.get? c=some o→h₅.get? c=some o:=λc o c1 c2 c3 c4 e =>
  hs₅.extBut _ _ c2 (hs₄.extBut _ _ c4 (hs₃.extBut _ _ c2 (hs₂.extBut _ _ c3 (hs₁.extBut _ _ c1 e))))
 have h1₅:wC k1 h₅ i1 l1 (j1+1):=h1₂.at λo e=>hs₅.extBut i1 o D.TOi1.symm (hs₄.extBut i1 o D.i12 (hs₃.extBut i1 o D.TOi1.symm e));have h2₅:wC k2 h₅ i2 l2 (j2+1):=h2₄.at λo e=>hs₅.extBut i2 o D.TOi2.symm e;have hzlt:z<h₅.objs.size:=zq hz₅;show wpAny _ _ (Builtin.SmallTypes.ownedTupleHandOut (.ref z) (.ref h₅.objs.size) >>= _) _ _ _
 refine qe ?_;unfold Builtin.SmallTypes.ownedTupleHandOut;have hz₆:IsZip (h₅.push { cls:=.type "tuple",data:=.seq #[x,y] }) z TI TO .ellipsis:=jd _ hz₅;refine qe (wpAny_setField_rec hz₆ (by simp) λh₇ hz₇ hs₇=>?_);replace hz₇:IsZip h₇ z TI TO (rawInt h₅.objs.size):=hz₇;refine wpAny_setField_rec hz₇ (by simp) λh₈ hz₈ hs₈=>?_;replace hz₈:IsZip h₈ z TI TO (rawInt h₅.objs.size):=hz₈;have up:∀c o,c≠z→h₅.get? c=some o→h₈.get? c=some o:=λc o c1 e=>hs₈.extBut _ _ c1 (hs₇.extBut _ _ c1 (jd _ e));have hT₈:IsPair h₈ h₅.objs.size x y:=hs₈.extBut _ _ (wL hzlt) (hs₇.extBut _ _ (wL hzlt) (jy _ rfl));have hz8:h₈.objs.size=h₅.objs.size+1:=by rw[hs₈.1,hs₇.1,yq]
 rw[hsz] at hz₈ hT₈ hz8;refine qp ⟨_,rfl,?_⟩;show Q (.ref h₅.objs.size) _
 rw[hsz];exact hQ h₈ hz₈ (up _ _ D.TOz hTO₅) (h1₅.at λo e=>up _ o D.i1z e) (h2₅.at λo e=>up _ o D.i2z e) hT₈ hz8 λc o c1 c2 c3 c4 e=>up c o c1 (hk₅ c o c1 c2 c3 c4 e)
theorem qix{z TI TO i1 i2 l1 l2:Addr}{j1 j2:Nat}{xs ys:Array Value}{a b:Value}{Q:Fin→Shared→Prop}(hh:A.handled=none)(D:ZipApart z TI TO i1 i2 l1 l2)(hz:IsZip s.heap z TI TO .none)(hTI:IsPair s.heap TI (.ref i1) (.ref i2))(hTO:IsPair s.heap TO a b)(h1:wC k1 s.heap i1 l1 j1)(h2:wC k2 s.heap i2 l2 j2)(hl1:yu k1 s.heap l1 xs)(hl2:yu k2 s.heap l2 ys)(hend:xs[j1]? = none∨ys[j2]? = none)(hE:∀h' e,(∀c o,c≠z→c≠TO→c≠i1→c≠i2→s.heap.get? c=some o→h'.get? c=some o)→(∃o,h'.get? e=some o∧o.cls = .type "StopIteration")→E (.ref e) { s with heap:=h' }):
  wpAny (model prog w) A (Builtin.«zip.__next__» ⟨[.ref z],[]⟩) Q E s:=by
 show wpAny _ _ (field (.ref z) 2 >>= _) _ _ _
 refine qe (yP hz rfl (x:=.bool false) rfl ?_);show wpAny _ _ (field (.ref z) 3 >>= _) _ _ _
 refine qe (yP hz rfl (x:=.ref TI) rfl ?_);refine qe (vH hTI rfl ?_);show wpAny _ _ (Builtin.SmallTypes.ownedTupleIsFree (.ref z) >>= _) _ _ _
 refine qe ?_;unfold Builtin.SmallTypes.ownedTupleIsFree;refine qe (yP hz rfl (x:=.none) rfl (qp ?_));simp only[if_true];refine qe (wpAny_rule ?_);refine qe (yP hz rfl (x:=.ref TO) rfl ?_);refine qe (wpAny_setField_rec hz (by simp) λh₁ hz₁ hs₁=>?_);replace hz₁:IsZip h₁ z TI TO .ellipsis:=hz₁;refine qe ?_;simp only[List.zipIdx_cons,List.zipIdx_nil,List.forIn_cons,List.forIn_nil];refine qe (qe (wpAny_onRaise ?_));show wpAny _ _ (Builtin.SmallTypes.nextOf (.ref i1) >>= _) _ _ _
 cases hx:xs[j1]? with
 |none =>
  refine qe (BO hh (h1.at λo=>hs₁.extBut i1 o D.i1z) (hl1.at λo=>hs₁.extBut l1 o D.l1z) hx λh₂ e hs₂ he=>?_);obtain⟨oe,hoe,hce⟩:=he;have hz₂:IsZip h₂ z TI TO .ellipsis:=hs₂ _ _ D.i1z.symm hz₁;have hez:e≠z:=λx=>by subst x;rw[hz₂] at hoe;injection hoe with hoe;subst hoe;simp at hce
  refine wpAny_setField_rec hz₂ (by simp) λh₃ B hs₃=>hE h₃ e (λc o c1 B c3 B x=>hs₃.extBut _ _ c1 (hs₂ _ _ c3 (hs₁.extBut _ _ c1 x))) ⟨oe,hs₃.extBut _ _ hez hoe,hce⟩
 |some x =>
  have hy:ys[j2]? = none:=by rcases hend with h | h;rw[hx] at h;injection h;exact h
  refine qe (Yj (h1.at λo=>hs₁.extBut i1 o D.i1z) (hl1.at λo=>hs₁.extBut l1 o D.l1z) hx λh₂ h1₂ hs₂=>qp ?_);have hTO₂:IsPair h₂ TO a b:=hs₂.extBut _ _ D.TOi1 (hs₁.extBut _ _ D.TOz hTO);refine qe (vH hTO₂ rfl ?_);refine qe (wpAny_updateSeq_pair hTO₂ λh₃ hTO₃ hs₃=>?_);refine qe (wpAny_letGo (qp ?_));refine qe (qe (wpAny_onRaise ?_));show wpAny _ _ (Builtin.SmallTypes.nextOf (.ref i2) >>= _) _ _ _
  refine qe (BO hh (h2.at λo e=>hs₃.extBut i2 o D.TOi2.symm (hs₂.extBut i2 o D.i12.symm (hs₁.extBut i2 o D.i2z e)))
   (hl2.at λo e=>hs₃.extBut l2 o D.l2TO (hs₂.extBut l2 o D.l2i1 (hs₁.extBut l2 o D.l2z e))) hy λh₄ e hs₄ he=>?_)
  obtain⟨oe,hoe,hce⟩:=he;have hz₄:IsZip h₄ z TI TO .ellipsis:=hs₄ _ _ D.i2z.symm (hs₃.extBut _ _ D.TOz.symm (hs₂.extBut _ _ D.i1z.symm hz₁));have hez:e≠z:=λx=>by subst x;rw[hz₄] at hoe;injection hoe with hoe;subst hoe;simp at hce
  refine wpAny_setField_rec hz₄ (by simp) λh₅ B hs₅=>hE h₅ e (λc o c1 c2 c3 c4 x=>hs₅.extBut _ _ c1 (hs₄ _ _ c4 (hs₃.extBut _ _ c2 (hs₂.extBut _ _ c3 (hs₁.extBut _ _ c1 x))))) ⟨oe,hs₅.extBut _ _ hez hoe,hce⟩
theorem KJ{z TI TO i1 i2 l1 l2:Addr}{j1 j2:Nat}{xs ys:Array Value}{x y a b:Value}{Q:Option Value→Shared→Prop}(D:ZipApart z TI TO i1 i2 l1 l2)(hz:IsZip s.heap z TI TO .none)(hTI:IsPair s.heap TI (.ref i1) (.ref i2))(hTO:IsPair s.heap TO a b)(h1:wC k1 s.heap i1 l1 j1)(h2:wC k2 s.heap i2 l2 j2)(hl1:yu k1 s.heap l1 xs)(hl2:yu k2 s.heap l2 ys)(hx:xs[j1]? = some x)(hy:ys[j2]? = some y)(hQ:∀h',IsZip h' z TI TO (rawInt s.heap.objs.size)→IsPair h' TO x y→wC k1 h' i1 l1 (j1+1)→wC k2 h' i2 l2 (j2+1)→IsPair h' s.heap.objs.size x y→h'.objs.size=s.heap.objs.size+1 →
   (∀c o,c≠z→c≠TO→c≠i1→c≠i2→s.heap.get? c=some o→h'.get? c=some o)→Q (some (.ref s.heap.objs.size)) { s with heap:=h' }):
  wpAny (model prog w) A (pyNext (.ref z)) Q E s:=by
 have hT:s.TypeIs (.ref z) "zip" := ⟨_,hz,rfl⟩;unfold pyNext;exact qe (wpAny_attempt (Zf (name:=Str.ofString "__next__") hT F.slot_zip_next
  (y7 F.slot_zip_next hT F.entry_zip_next
   (qgw D hz hTI hTO h1 h2 hl1 hl2 hx hy λh' a1 a2 a3 a4 a5 a6 a7=>qp (hQ h' a1 a2 a3 a4 a5 a6 a7)) (F.args_zip_next_1 _))))
theorem XF{z TI TO i1 i2 l1 l2:Addr}{j1 j2:Nat}{xs ys:Array Value}{a b:Value}{Q:Option Value→Shared→Prop}(hh:A.handled=none)(D:ZipApart z TI TO i1 i2 l1 l2)(hz:IsZip s.heap z TI TO .none)(hTI:IsPair s.heap TI (.ref i1) (.ref i2))(hTO:IsPair s.heap TO a b)(h1:wC k1 s.heap i1 l1 j1)(h2:wC k2 s.heap i2 l2 j2)(hl1:yu k1 s.heap l1 xs)(hl2:yu k2 s.heap l2 ys)(hend:xs[j1]? = none∨ys[j2]? = none)(hQ:∀h',(∀c o,c≠z→c≠TO→c≠i1→c≠i2→s.heap.get? c=some o→h'.get? c=some o)→Q none { s with heap:=h' }):wpAny (model prog w) A (pyNext (.ref z)) Q E s:=by
 have hT:s.TypeIs (.ref z) "zip" := ⟨_,hz,rfl⟩;unfold pyNext;refine qe (wpAny_attempt (Zf (name:=Str.ofString "__next__") hT F.slot_zip_next
  (y7 F.slot_zip_next hT F.entry_zip_next (qix hh D hz hTI hTO h1 h2 hl1 hl2 hend λh' e hk he=>?_) (F.args_zip_next_1 _))))
 obtain⟨o,ho,hc⟩:=he;refine qe (wpAny_isInstance (T := "StopIteration") (b:=true) ⟨o,ho,hc⟩ isSubtype_stop ?_);exact qp (hQ _ hk)
end
noncomputable def Xi(k:Bool):String:=match k with
 |true => "list_iterator"
 |false => "tuple_iterator"
theorem qiW{prog:Program}{w:World}{A:Around}{E:Value→Shared→Prop}{s:Shared}{k:Bool}{l:Addr}{xs:Array Value}{Q:Value→Shared→Prop}(x:yu k s.heap l xs)(hQ:Q (.ref s.heap.objs.size) { s with heap:=s.heap.push { cls:=.type (Xi k),data:=.fields #[.ref l,.int 0 0] } }):wpAny (model prog w) A (pyIter (.ref l)) Q E s:=by
 induction k with
 |true=>exact wpAny_pyIter_list x hQ
 |false=>exact wpAny_pyIter_tuple x hQ
theorem qbF{h h':Heap}{k:Bool}{it l:Addr}(e:h'.get? it=some { cls:=.type (Xi k),data:=.fields #[.ref l,.int 0 0] }):wC k h' it l 0:=by
 induction k with
 |true=>exact⟨_,e,rfl,rfl⟩
 |false=>exact⟨_,e,rfl,rfl⟩
noncomputable abbrev zK1(k1:Bool)(h:Heap)(l1:Addr):Heap:=h.push { cls:=.type (Xi k1),data:=.fields #[.ref l1,.int 0 0] }
noncomputable abbrev zK2(k1 k2:Bool)(h:Heap)(l1 l2:Addr):Heap:=(zK1 k1 h l1).push { cls:=.type (Xi k2),data:=.fields #[.ref l2,.int 0 0] }
noncomputable abbrev zK3(k1 k2:Bool)(h:Heap)(l1 l2:Addr):Heap:=(zK2 k1 k2 h l1 l2).push { cls:=.type "tuple",data:=.seq #[.ref h.objs.size,.ref (zK1 k1 h l1).objs.size] }
noncomputable abbrev zK4(k1 k2:Bool)(h:Heap)(l1 l2:Addr):Heap:=(zK3 k1 k2 h l1 l2).push { cls:=.type "tuple",data:=.seq #[.none,.none] }
noncomputable abbrev zK5(k1 k2:Bool)(h:Heap)(l1 l2:Addr):Heap:=(zK4 k1 k2 h l1 l2).push { cls:=.type "zip",data:=.fields #[.none,.bool false,.bool false,.ref (zK2 k1 k2 h l1 l2).objs.size,.ref (zK3 k1 k2 h l1 l2).objs.size] }
theorem qoC(k1 k2:Bool)(l1 l2:Addr)(xs ys:Array Value):
  Meets (Builtin.«zip.__new__» ⟨[.type "zip", .ref l1,.ref l2],[]⟩) (λB R s=>yu k1 s.heap l1 xs∧yu k2 s.heap l2 ys ∧
   R (.ok (.ret (.ref (zK4 k1 k2 s.heap l1 l2).objs.size))) { s with heap:=zK5 k1 k2 s.heap l1 l2 }) :=
 .of_wp λprog w A R s h=>by
  obtain⟨hp,g,d,tk,os⟩:=s;obtain⟨hl1,hl2,h⟩:=h;have hsub:=sub_zip;have hL1:yu k1 (Shared.heap ⟨hp,g,d,tk,os⟩) l1 xs:=hl1;have hL2:yu k2 (Shared.heap ⟨hp.push { cls:=.type (Xi k1),data:=.fields #[.ref l1,.int 0 0] },g,d,tk,os⟩) l2 ys:=yu.at hl2 λo e=>jd _ e;wp_walk using qiW hL1,qiW hL2
  exact⟨_,rfl,h⟩
section
variable {prog:Program}{w:World}{A:Around}{E:Value→Shared→Prop}{s:Shared}{k1 k2:Bool}
theorem qer{l1 l2:Addr}{xs ys:Array Value}{Q:Value→Shared→Prop}(hl1:yu k1 s.heap l1 xs)(hl2:yu k2 s.heap l2 ys)(h:∀h',IsZip h' (s.heap.objs.size+4) (s.heap.objs.size+2) (s.heap.objs.size+3) .none→IsPair h' (s.heap.objs.size+2) (.ref s.heap.objs.size) (.ref (s.heap.objs.size+1)) →
   IsPair h' (s.heap.objs.size+3) .none .none→wC k1 h' s.heap.objs.size l1 0→wC k2 h' (s.heap.objs.size+1) l2 0 →
   (∀c o,s.heap.get? c=some o→h'.get? c=some o)→Q (.ref (s.heap.objs.size+4)) { s with heap:=h' }):
  wpAny (model prog w) A (call (.type "zip") [.ref l1,.ref l2]) Q E s:=by
 refine callType_new F.called_zip (by decide) (F.typeCall_zip_2 _ _) (F.newCall_zip_2 _ _) (λobj=>F.args_object_init_3 obj _ _) F.entry_zip_new
  (qoC k1 k2 l1 l2 xs ys) ⟨hl1,hl2,?_⟩
 have z1:(zK1 k1 s.heap l1).objs.size=s.heap.objs.size+1:=yq ..;have z2:(zK2 k1 k2 s.heap l1 l2).objs.size=s.heap.objs.size+2:=by rw[yq,z1]
 have z3:(zK3 k1 k2 s.heap l1 l2).objs.size=s.heap.objs.size+3:=by rw[yq,z2]
 have z4:(zK4 k1 k2 s.heap l1 l2).objs.size=s.heap.objs.size+4:=by rw[yq,z3]
 have g5:(zK5 k1 k2 s.heap l1 l2).get? (zK4 k1 k2 s.heap l1 l2).objs.size=some _:=jy _ rfl;have g4:(zK5 k1 k2 s.heap l1 l2).get? (zK3 k1 k2 s.heap l1 l2).objs.size=some _:=jd _ (jy _ rfl);have g3:(zK5 k1 k2 s.heap l1 l2).get? (zK2 k1 k2 s.heap l1 l2).objs.size=some _:=jd _ (jd _ (jy _ rfl));have g2:(zK5 k1 k2 s.heap l1 l2).get? (zK1 k1 s.heap l1).objs.size=some _:=jd _ (jd _ (jd _ (jy _ rfl)));have g1:(zK5 k1 k2 s.heap l1 l2).get? s.heap.objs.size=some _:=jd _ (jd _ (jd _ (jd _ (jy _ rfl))));show _∧_
 rw[z2,z3,z4] at g5;rw[z1,z2] at g3;rw[z3] at g4;rw[z1] at g2;rw[z4];exact⟨⟨_,g5,rfl⟩,h _ g5 g3 g4 (qbF (h:=s.heap) g1) (qbF (h:=s.heap) g2) λc o x =>
  jd _ (jd _ (jd _ (jd _ (jd _ x))))⟩
theorem qof(hh:A.handled=none)(k1 k2:Bool)(z TI TO i1 i2 l1 l2:Addr)(D:ZipApart z TI TO i1 i2 l1 l2)(xs ys:Array Value):
  WalksT prog w A z [z,TI,TO,i1,i2,l1,l2] [z,TO,i1,i2] (min xs.size ys.size)
   (λi vals=>∃x y,xs[i]? = some x∧ys[i]? = some y∧vals=#[x,y])
   (λi h=>IsZip h z TI TO .none∧IsPair h TI (.ref i1) (.ref i2)∧(∃a b,IsPair h TO a b)∧wC k1 h i1 l1 i∧wC k2 h i2 l2 i∧yu k1 h l1 xs∧yu k2 h l2 ys)
   (λi T h=>IsZip h z TI TO (rawInt T)∧IsPair h TI (.ref i1) (.ref i2)∧(∃a b,IsPair h TO a b)∧wC k1 h i1 l1 (i+1)∧wC k2 h i2 l2 (i+1)∧yu k1 h l1 xs∧yu k2 h l2 ys ∧
    T≠z∧T≠TO∧T≠i1∧T≠i2∧∃x y,xs[i]? = some x∧ys[i]? = some y∧IsPair h T x y) where
 sub:=λc hc=>by simp at hc ⊢;rcases hc with rfl | rfl | rfl | rfl <;> simp
 frame:=λi h h' hst hk=>by
  obtain⟨hz,hTI,⟨a,b,hTO⟩,h1,h2,hl1,hl2⟩:=hst;exact⟨hk z (by simp) _ hz,hk TI (by simp) _ hTI,⟨a,b,hk TO (by simp) _ hTO⟩,h1.at λo e=>hk i1 (by simp) o e,h2.at λo e=>hk i2 (by simp) o e,
   hl1.at λo e=>hk l1 (by simp) o e,hl2.at λo e=>hk l2 (by simp) o e⟩
 item:=λi s Q E hi hst hQ=>by
  obtain⟨hz,hTI,⟨a,b,hTO⟩,h1,h2,hl1,hl2⟩:=hst;have hix:i<xs.size:=q6 hi (Nat.min_le_left ..);have hiy:i<ys.size:=q6 hi (Nat.min_le_right ..);refine KJ D hz hTI hTO h1 h2 hl1 hl2 (yl hix) (yl hiy) λh' a1 a2 a3 a4 a5 a6 hk=>?_;have lt:∀{c o},s.heap.get? c=some o→s.heap.objs.size≠c:=λe=>wL (zq e);exact hQ s.heap.objs.size #[xs[i],ys[i]] h' s.toks ⟨_,_,yl hix,yl hiy,rfl⟩ (qW _) ⟨_,a5,rfl,_,rfl⟩
   ⟨a1,hk _ _ D.TIz D.TITO D.TIi1 D.TIi2 hTI,⟨_,_,a2⟩,a3,a4,hl1.at λo e=>hk _ o D.l1z D.l1TO D.l1i1 D.l1i2 e,hl2.at λo e=>hk _ o D.l2z D.l2TO D.l2i1 D.l2i2 e,
    lt hz,lt hTO,(by obtain⟨_,e⟩:=h1.lv;exact lt e),(by obtain⟨_,e⟩:=h2.lv;exact lt e),_,_,yl hix,yl hiy,a5⟩
   λc o hc e=>hk c o (λx=>hc (by simp[x])) (λx=>hc (by simp[x])) (λx=>hc (by simp[x])) (λx=>hc (by simp[x])) e
 go:=λelts k pos i T s Q E hm hQ=>by
  obtain⟨hz,hTI,⟨a,b,hTO⟩,h1,h2,hl1,hl2,_⟩:=hm;refine wpAny_letOwnedTupleGo_zip hz λh' hz' hs'=>hQ h' ⟨hz',hs'.extBut _ _ D.TIz hTI,⟨a,b,hs'.extBut _ _ D.TOz hTO⟩,h1.at λo=>hs'.extBut i1 o D.i1z,h2.at λo=>hs'.extBut i2 o D.i2z,
   hl1.at λo=>hs'.extBut l1 o D.l1z,hl2.at λo=>hs'.extBut l2 o D.l2z⟩ λc o hc e=>hs'.extBut _ _ (λx=>hc (by simp[x])) e
 apart:=λi T h hm hT=>by
  obtain⟨_,_,_,_,_,_,_,t1,t2,t3,t4,_⟩:=hm;simp at hT
  rcases hT with rfl | rfl | rfl | rfl
  ·exact t1 rfl
  ·exact t2 rfl
  ·exact t3 rfl
  ·exact t4 rfl
 done:=λs Q E hst hQ=>by
  obtain⟨hz,hTI,⟨a,b,hTO⟩,h1,h2,hl1,hl2⟩:=hst;have hend:xs[min xs.size ys.size]? = none∨ys[min xs.size ys.size]? = none:=by
   rcases Nat.le_total xs.size ys.size with h | h
   ·exact .inl (by rw[Nat.min_eq_left h];exact Q8 (qW _))
   ·exact .inr (by rw[Nat.min_eq_right h];exact Q8 (qW _))
  exact XF hh D hz hTI hTO h1 h2 hl1 hl2 hend λh' hk=>hQ h' s.toks λc o hc e =>
   hk c o (λx=>hc (by simp[x])) (λx=>hc (by simp[x])) (λx=>hc (by simp[x])) (λx=>hc (by simp[x])) e
 self:=λi s Q E hst hQ=>wpAny_pyIter_zip hst.1 hQ
end
end Mine
end
section
open PySem PySem.W PySem.SeqAt PyProof.Rows
namespace Mine
section
variable {g:Glb}{A:Around}{s:Shared}{Z:Addr→Prop}{bs:List Nat}{ρ:qG}{U:St}{E:Value→Shared→Prop}{F:Addr→Prop}{h:Heap}{prog:Program}{w:World}
theorem qfX(m n:Int):Builtin.Range.rangeSize m n 1=(((n - m).toNat:Nat):Int) - ((0:Nat):Int):=by
 rw[rangeSize_one,Int.natCast_zero,Int.sub_zero];by_cases h:m<n
 ·rw[if_pos h,Ze (Int.sub_nonneg_of_le (we h))]
 ·rw[if_neg h,Int.toNat_of_nonpos (Int.sub_nonpos_of_le (Int.not_lt.mp h))];rfl
theorem BV{target:Expr}{m n:Int}{Q:Value→Shared→Prop}(hh:A.handled=none)(R:Rel g Z bs ρ U s.heap)(t u v:Tok)(tk:Nat)(h1 : -1000≤m)(h2:m≤1000)(h3 : -1000≤n)(h4:n≤jl)(K:Zh g A target Z bs ρ U s ⟨(qj (jN m n)).map .pv,[]⟩ U Q):
  wpAny (model g.prog g.w) A (pyIter (.ref s.heap.objs.size)) Q E { s with heap:=s.heap.push { cls:=.type "range",data:=.fields #[.int m t,.int n u,.int 1 v] },toks:=tk }:=by
 refine wpAny_pyIter_range (IsRange.new _ _ _ _ _ _ _) (small_one (zB (by decide) h1) (vG h2 (by decide)) (zB (by decide) h3) (vG h4 (by decide))) ?_;have k0:∀b o,s.heap.get? b=some o→(s.heap.push { cls:=.type "range",data:=.fields #[.int m t,.int n u,.int 1 v] }).get? b=some o:=λb o e=>jd _ e;have R0:Rel g Z bs ρ U ({ s with heap:=s.heap.push { cls:=.type "range",data:=.fields #[.int m t,.int n u,.int 1 v] },toks:=tk }:Shared).heap:=R.grow k0;refine K _ _ (λB=>RangeS _ m (n - m).toNat) _ ρ (Zq R0 rfl) (Post.grow (λb o e=>jd _ (k0 b o e)) rfl rfl) (λb e=>?_) (qfS hh) ⟨0,j4 _,?_,?_⟩
 ·subst e
  exact kr (by show s.heap.objs.size≤(s.heap.push _).objs.size;rw[yq];exact wt _)
 ·simp[qj,jN]
 ·rw[←qfX,show m+((0:Nat):Int) * 1=m from(qz (m + ·) (Int.zero_mul 1)).trans (Int.add_zero m)]
  exact jy _ rfl
theorem qgo(h:wd v=true):zj v=false:=by
 induction v using Mine.AV.casesOn with
 |pv p=>rcases p <;> first | rfl | injection h
 |ref=>injection h
 |tupR=>rfl
 |lstR=>injection h
theorem Zy(R:Rel g Z bs ρ U h)(r:RA ρ (Fz Z ρ U) h v x)(e:qR U x=some l):
  ∃a vs,v = .ref a∧RAs ρ (Fz Z ρ U) h vs l∧yu (zj x) h a vs.toArray:=by
 obtain⟨a,vs,e1,e2,e3⟩:=zH R r e;refine⟨a,vs,e1,e2,?_⟩;rcases e3 with⟨h1,h2⟩ | ⟨h1,_,h2⟩
 ·rw[qgo h1];exact h2
 ·rw[h1];exact h2
noncomputable def ZX(n b:Nat):Prop:=b=n+4∨b=n+2∨b=n+3∨b=n∨b=n+1
structure ZipA (k1 k2:Bool) (h:Heap) (n a b k:Nat):Prop where
 z:IsZip h (n+4) (n+2) (n+3) .none
 ti:IsPair h (n+2) (.ref n) (.ref (n+1))
 to:∃u v,IsPair h (n+3) u v
 i1:wC k1 h n a k
 i2:wC k2 h (n+1) b k
theorem ZipA.kept(x:ZipA k1 k2 h n a b k)(kk:∀c,ZX n c→∀o,h.get? c=some o→h'.get? c=some o):ZipA k1 k2 h' n a b k where
 z:=kk _ (.inl rfl) _ x.z
 ti:=kk _ (.inr (.inl rfl)) _ x.ti
 to:=by obtain⟨u,v,e⟩:=x.to;exact⟨u,v,kk _ (.inr (.inr (.inl rfl))) _ e⟩
 i1:=x.i1.at λo e=>kk _ (.inr (.inr (.inr (.inl rfl)))) o e
 i2:=x.i2.at λo e=>kk _ (.inr (.inr (.inr (.inr rfl)))) o e
theorem ZipA.lv(x:ZipA k1 k2 h n a b k)(hc:ZX n c):Lv h c:=by
 rcases hc with rfl | rfl | rfl | rfl | rfl
 ·exact⟨_,x.z⟩
 ·exact⟨_,x.ti⟩
 ·obtain⟨u,v,e⟩:=x.to;exact⟨_,e⟩
 ·exact x.i1.lv
 ·exact x.i2.lv
inductive ZipS (Z:Addr→Prop) (n:Nat) (x y:AV) (lx ly:List AV) (items:List AV) (ρ:qG) (U:St) (h:Heap):Prop
 |mk (e1:qR U x=some lx) (e2:qR U y=some ly) (a b k:Nat) (ra:RA ρ (Fz Z ρ U) h (.ref a) x) (rb:RA ρ (Fz Z ρ U) h (.ref b) y) (hi:items=Qa (lx.drop k) (ly.drop k)) (z:ZipA (zj x) (zj y) h n a b k) (h1:k≤lx.length) (h2:k≤ly.length)
theorem qiy:∀{a b:List AV},a=[]∨b=[]→Qa a b=[]:=by
 intro a;induction a using List.casesOn with
 |nil =>
  intro _ _;simp[Qa]
 |cons _ _ =>
  intro c2q;rcases c2q with _ | ⟨_,_⟩
  ·intro _
   simp[Qa]
  ·intro h
   rcases h with h | h <;> injection h
theorem qcJ(h:jB (a++b) U'=true):jB a U'=true∧jB b U'=true:=qc ((List.all_append ..).symm.trans h)
theorem nn(n:Nat)(h:i≠j):n+i≠n+j:=λe=>h (x7 e)
theorem qnO{k a b:Nat}(h1:k≤a)(h2:k≤b)(h:¬ (k<a∧k<b)):k=min a b:=Nat.le_antisymm (Nat.le_min.mpr ⟨h1,h2⟩) (Nat.le_of_not_lt λhl=>h ⟨q6 hl (Nat.min_le_left ..),q6 hl (Nat.min_le_right ..)⟩)
theorem qoM(n:Nat)(ha:a≠n+4∧a≠n+3∧a≠n∧a≠n+1)(hb:b≠n+4∧b≠n+3∧b≠n∧b≠n+1):ZipApart (n+4) (n+2) (n+3) n (n+1) a b :=
 ⟨nn n (by decide),nn n (by decide),nn n (i:=0) (by decide),nn n (by decide),nn n (by decide),nn n (j:=0) (by decide),nn n (by decide),nn n (j:=0) (by decide),nn n (by decide),nn n (i:=0) (by decide),
  ha.1,ha.2.1,ha.2.2.1,ha.2.2.2,hb.1,hb.2.1,hb.2.2.1,hb.2.2.2⟩
theorem qmx(m:b∈[n+4,n+3,n,n+1]):ZX n b:=by
 simp only[q7,List.not_mem_nil,or_false] at m;rcases m with h | h | h | h
 ·exact .inl h
 ·exact .inr (.inr (.inl h))
 ·exact .inr (.inr (.inr (.inl h)))
 ·exact .inr (.inr (.inr (.inr h)))
theorem ZX.le(m:ZX n b):n≤b:=by
 rcases m with rfl | rfl | rfl | rfl | rfl
 ·exact qS _ _
 ·exact qS _ _
 ·exact qS _ _
 ·exact qW _
 ·exact qS _ _
theorem qiw(U0:St)(h0:qR U0 x=some lx)(h0':qR U0 y=some ly)(hh:A.handled=none)(hz:∀b,Z b→¬ (ZX n b)):
  IterOk g A (.Tuple elts kk ps) (n+4) (ZX n) Z (yh U0 x++yh U0 y) (ZipS (Zu Z (ZX n)) n x y lx ly) where
 turn {items bs ρ U s E} N Y R hS hN hY:=by
  obtain⟨e1,e2,a,b,k,ra,rb,hit,za,hk1,hk2⟩:=hS;obtain⟨a',vs,ea,rs,hl1⟩:=Zy R ra e1;obtain⟨b',ws,eb,qs,hl2⟩:=Zy R rb e2;injection ea with ea;subst ea;injection eb with eb;subst eb;have na:¬ (Zu Z (ZX n)) a:=RA.notZ R ra;have nb:¬ (Zu Z (ZX n)) b:=RA.notZ R rb;have ni:∀{c:Addr},¬ Zu Z (ZX n) c→c≠n+4∧c≠n+3∧c≠n∧c≠n+1:=λ{c} hc =>
   ⟨λe=>hc (.inr (.inl e)),λe=>hc (.inr (.inr (.inr (.inl e)))),λe=>hc (.inr (.inr (.inr (.inr (.inl e))))),λe=>hc (.inr (.inr (.inr (.inr (.inr e)))))⟩
  have D:ZipApart (n+4) (n+2) (n+3) n (n+1) a b:=qoM n (ni na) (ni nb);have W:=qof (prog:=g.prog) (w:=g.w) (A:=A) hh (zj x) (zj y) (n+4) (n+2) (n+3) n (n+1) a b D vs.toArray ws.toArray;have hst:=(⟨za.z,za.ti,za.to,za.i1,za.i2,hl1,hl2⟩:_∧_∧_∧_∧_∧_∧_)
  have hlx:=rs.length;have hly:=qs.length;have keepX:∀{h0 h':Heap},(∀b o,b ∉ [n+4,n+3,n,n+1]→h0.get? b=some o→h'.get? b=some o)→∀b o,h0.get? b=some o→¬ (ZX n b)→h'.get? b=some o:=λhk b o e hb=>hk b o (λm=>hb (qmx m)) e;by_cases hlt:k<lx.length∧k<ly.length
  ·refine W.item k s _ _ (by rw[ze,ze,hlx,hly];exact Nat.lt_min.mpr hlt) hst λT vals h' tk hv hT hTu hmid hk'=>?_
   obtain⟨xv,yv,hxv,hyv,rfl⟩:=hv;have hcons:items=mkTup [lx[k]'hlt.1,ly[k]'hlt.2]::Qa (lx.drop (k+1)) (ly.drop (k+1)):=by
    rw[hit,List.drop_eq_getElem_cons hlt.1,List.drop_eq_getElem_cons hlt.2];rfl
   refine W.go elts kk ps k T _ _ _ hmid λh'' hst' hk''=>⟨_,_,hcons,?_⟩
   have kAll:∀b o,s.heap.get? b=some o→¬ (ZX n b)→h''.get? b=some o:=λb o e hb=>keepX hk'' b o (keepX hk' b o e hb) hb;have za':ZipA (zj x) (zj y) h'' n a b (k+1):=⟨hst'.1,hst'.2.1,hst'.2.2.1,hst'.2.2.2.1,hst'.2.2.2.2.1⟩
   have R':Rel g (Zu Z (ZX n)) bs ρ U h'':=R.inZ (λb o e hz'=>kAll b o e λq=>hz' (.inr q)) (λb lb=>by
    by_cases hb:ZX n b
    ·exact za'.lv hb
    ·obtain⟨o,e⟩:=lb;exact⟨o,kAll b o e hb⟩)
   have mono:∀{v:Value}{y:AV},RA ρ (Fz (Zu Z (ZX n)) ρ U) s.heap v y→RA ρ (Fz (Zu Z (ZX n)) ρ U) h'' v y:=λr=>r.mono (λB B B e=>e) λb o e f B=>⟨kAll b o e λq=>f.1 (.inr q),f⟩
   have hTfree:=R.notFootNew (kr hT);have hTnot:¬ (T∈[n+4,n+3,n,n+1]):=λm=>hTfree.1 (.inr (qmx m));have hTu':kZ h'' T #[xv,yv]:=by
    obtain⟨_,_,_,_,_,_,_,_,_,_,_,x',y',q1,q2,q3⟩:=hmid;rw[hxv] at q1;rw[hyv] at q2;injection q1 with q1;subst q1;injection q2 with q2;subst q2;exact .new (hk'' T _ hTnot q3)
   obtain⟨v1,a1,a2⟩:=rs.get (zm hlt.1);obtain⟨v2,b1,b2⟩:=qs.get (zm hlt.2);have hxv:vs[k]? = some xv:=by rw[←List.getElem?_toArray];exact hxv
   obtain rfl:=qA (a1.symm.trans hxv);have hyv:ws[k]? = some yv:=by rw[←List.getElem?_toArray];exact hyv
   obtain rfl:=qA (b1.symm.trans hyv);exact hY _ _ hcons (.ref T) { s with heap:=h'',toks:=tk } R' (Post.inX kAll rfl rfl) (.mkTup (vs:=[v1,v2]) hTfree hTu' (.cons (mono a2) (.cons (mono b2) .nil)))
    ⟨e1,e2,a,b,k+1,mono ra,mono rb,rfl,za',hlt.1,hlt.2⟩
  ·have hnil:items=[]:=by
    rw[hit];refine qiy ?_;rcases Nat.lt_or_ge k lx.length with q | q
    ·exact .inr (List.drop_of_length_le (Nat.le_of_not_lt λh=>hlt ⟨q,h⟩))
    ·exact .inl (List.drop_of_length_le q)
   have hkm:k=min vs.toArray.size ws.toArray.size:=by rw[ze,ze,hlx,hly];exact qnO hk1 hk2 hlt
   refine W.done s _ _ (hkm▸hst) λh' tk hk'=>⟨hnil,hN hnil _ ?_ (Post.inX (keepX hk') rfl rfl)⟩
   exact R.done hz λb o e hb=>keepX hk' b o e hb
 keep {items bs ρ ρ' U U' s s' Y} R hS p hY hk:=by
  obtain⟨e1,e2,a,b,k,ra,rb,hit,za,hk1,hk2⟩:=hS;obtain⟨q1,q2⟩:=qcJ hk;exact⟨Zw h0 q1,Zw h0' q2,a,b,k,ra.post p λb hb=>(hY b hb).1,rb.post p λb hb=>(hY b hb).1,hit,za.kept λc hc o e=>p.ext c o e (λq=>(hY c q).2 hc) (R.notFoot (.inr hc)),hk1,hk2⟩
 self {items ρ U s E Q} hS hq:=by
  obtain⟨e1,e2,a,b,k,ra,rb,hit,za,_,_⟩:=hS;exact wpAny_pyIter_zip za.z hq
theorem qlg(U0:St)(h0:qR U0 x=some lx)(h0':qR U0 y=some ly)(hh:A.handled=none):
  IterG g A (.Tuple elts kk ps) (n+4) (ZX n) (yh U0 x++yh U0 y) (λZ=>ZipS (Zu Z (ZX n)) n x y lx ly) where
 ok Z hz:=qiw U0 h0 h0' hh hz
 more:=by
  intro Z Z2 items ρ U h h' hS hz k;obtain⟨e1,e2,a,b,j,ra,rb,hit,za,hk1,hk2⟩:=hS;exact⟨e1,e2,a,b,j,qau ra hz k,qau rb hz k,hit,za.kept λB B=>k _,hk1,hk2⟩
theorem qmQ{elts:List Expr}{kk:Nat}{ps:Pos}{va vb:Value}{x y:AV}{sx sy:Src}{Q:Value→Shared→Prop}(hh:A.handled=none)(R:Rel g Z bs ρ U s.heap)(ra:RA ρ (Fz Z ρ U) s.heap va x)(rb:RA ρ (Fz Z ρ U) s.heap vb y)(ex:wo x U=some sx)(ey:wo y U=some sy)(K:Zh g A (.Tuple elts kk ps) Z bs ρ U s ⟨Qa sx.items sy.items,sx.held++sy.held⟩ U Q):
  wpAny (model g.prog g.w) A (call (.type "zip") [va,vb]) (λv s1=>wpAny (model g.prog g.w) A (pyIter v) Q E s1) E s:=by
 have srcs:∀{x:AV}{sx:Src},wo x U=some sx→qR U x=some sx.items∧sx.held=yh U x:=by
  intro x sx e;obtain⟨l,h1,e1⟩:=qo e;obtain⟨_,e2⟩:=qI e1;obtain rfl:=qA e2;exact⟨h1,rfl⟩
 obtain⟨e1,hx'⟩:=srcs ex;obtain⟨e2,hy'⟩:=srcs ey;rw[hx',hy'] at K;obtain⟨a,vs,rfl,rs,hl1⟩:=Zy R ra e1;obtain⟨b,ws,rfl,qs,hl2⟩:=Zy R rb e2;refine qer hl1 hl2 λh' z1 z2 z3 z4 z5 k=>?_;refine wpAny_pyIter_zip z1 ?_;have za:ZipA (zj x) (zj y) h' s.heap.objs.size a b 0:=⟨z1,z2,⟨_,_,z3⟩,z4,z5⟩
 have fresh:∀c,ZX s.heap.objs.size c→¬ Lv s.heap c:=λc hc=>kr hc.le;have R':Rel g (Zu Z (ZX s.heap.objs.size)) bs ρ U h':=R.enter k λc hc=>hc.imp id λhc=>⟨fresh c hc,za.lv hc⟩
 have mono:∀{v:Value}{y:AV},RA ρ (Fz Z ρ U) s.heap v y→RA ρ (Fz (Zu Z (ZX s.heap.objs.size)) ρ U) h' v y:=λr =>
  (r.zless (Z':=Zu Z (ZX s.heap.objs.size)) λc hc=>hc.imp id (fresh c)).mono (λB B B e=>e) λb o e f B=>⟨k b o e,f⟩
 exact K _ _ (λZ=>ZipS (Zu Z (ZX s.heap.objs.size)) s.heap.objs.size x y sx.items sy.items) { s with heap:=h' } ρ R' (Post.grow k rfl rfl) fresh (qlg U e1 e2 hh)
  ⟨e1,e2,a,b,0,mono ra,mono rb,rfl,za,j4 _,j4 _⟩
end
theorem Kz(h:Dt k=true):k = .function:=by cases k <;> first | rfl | cases h
theorem qk{α:Type}{o:Option α}{k:α→Bool}(h:on o k=true):∃a,k a=true:=by
 cases o with
 |none=>cases h
 |some a=>exact⟨a,h⟩
theorem QV{α:Type}{o:Option α}{k:α→Bool}(h:on o k=true):∃a,o=some a∧k a=true:=by
 cases o with
 |none=>cases h
 |some a=>exact⟨a,rfl,h⟩
theorem BP:xS []=true:=rfl
theorem BQ(a:Nat)(r:List Nat): xS (a::r)=(!r.contains a&&xS r):=rfl
theorem ve{x f f':Expr}{xs xs':List Expr}{ks ks':List Keyword}{q:Pos}(e:x = .Call f xs ks q)(h:f=f')(hx:xs=xs')(hk:ks=ks'):x = .Call f' xs' ks' q:=by rw[e,h,hx,hk]
theorem qlM{x a:Expr}{o o':List CmpOp}{xs xs':List Expr}{q:Pos}(e:x = .Compare a o xs q)(h:o=o')(hx:xs=xs'):x = .Compare a o' xs' q:=by rw[e,h,hx]
theorem qnu{x a s s':Expr}{q:Pos}(e:x = .Subscript a s q)(h:s=s'):x = .Subscript a s' q:=by rw[e,h]
theorem qib{x:Expr}{a b c c':Option Expr}{q:Pos}(e:x = .Slice a b c q)(h:c=c'):x = .Slice a b c' q:=by rw[e,h]
theorem XX{x a:Expr}{n n':Str}{q:Pos}(e:x = .Attribute a n q)(h:n=n'):x = .Attribute a n' q:=by rw[e,h]
theorem QO{x:Expr}{n n':Str}{q:Pos}(e:x = .Name n q)(h:n=n'):x = .Name n' q:=by rw[e,h]
theorem Z4{x:Stmt}{a a':List Expr}{v:Expr}{q:Pos}(e:x = .Assign a v q)(h:a=a'):x = .Assign a' v q:=by rw[e,h]
theorem BT(e:l=[a])(h:a=b):l=[b]:=by rw[e,h]
theorem D3{x:Stmt}{a a':Expr}{q:Pos}(e:x = .Expr a q)(h:a=a'):x = .Expr a' q:=by rw[e,h]
theorem qbW{x:Stmt}{a a':Option Expr}{q:Pos}(e:x = .Return a q)(h:a=a'):x = .Return a' q:=by rw[e,h]
theorem qjN{x:Stmt}{t i:Expr}{b o o':List Stmt}{q:Pos}(e:x = .For t i b o q)(h:o=o'):x = .For t i b o' q:=by rw[e,h]
theorem qlL(e:x=y)(h:qC C c sc x=true):qC C c sc y=true:=by rw[←e];exact h
theorem X9(e:x=y)(h:jW sc x=true):jW sc y=true:=by rw[←e];exact h
theorem qhp(h:qC C .none sc x=true):∃k p,x = .Constant .none k p:=by
 obtain⟨v,h⟩:=qk h;exact⟨_,_,v.2.trans (by rw[qr h])⟩
theorem Bd(h:qC C (.bool b) sc x=true):∃k p,x = .Constant (.bool b) k p:=by
 obtain⟨v,h⟩:=qk h;exact⟨_,_,v.2.trans (by rw[qr h])⟩
theorem qjX(h:qC C (.int i) sc x=true):∃k p,x = .Constant (.int i) k p:=by
 obtain⟨v,h⟩:=qk h;exact⟨_,_,v.2.trans (by rw[qr h])⟩
theorem qbz(h:qC C (.str y) sc x=true):∃k p,x = .Constant (.str y) k p:=by
 obtain⟨v,h⟩:=qk h;exact⟨_,_,v.2.trans (by rw[qr h])⟩
inductive I_inv_var (C:Cfg) (i:Nat) (sc:qv) (x:Expr):Prop
 |mk (y) (p) (h0q:x = .Name y p) (h1q:w9 C i y=true) (h2q:Zv sc y=true)
theorem qbC(h:qC C (.var i) sc x=true):I_inv_var C i sc x:=by
 obtain⟨v1,h⟩:=qk h;have h:=qc h;exact⟨_,_,v1.2,h.1,h.2⟩
inductive I_inv_glob (C:Cfg) (gi:Nat) (sc:qv) (x:Expr):Prop
 |mk (y) (p) (h0q:x = .Name y p) (h1q:jW sc y=true) (h2q:D7 C gi y=true)
theorem Bh(h:qC C (.glob gi) sc x=true):I_inv_glob C gi sc x:=by
 obtain⟨v1,h⟩:=qk h;have h:=qc h;exact⟨_,_,v1.2,h.1,h.2⟩
inductive I_inv_tup (C:Cfg) (es:CEs) (sc:qv) (x:Expr):Prop
 |mk (xs) (k) (p) (h0q:x = .Tuple xs k p) (h1q:jf xs=true) (h2q:xs.length≤1000) (h3q:jn C es sc xs=true)
theorem qbB(h:qC C (.tup es) sc x=true):I_inv_tup C es sc x:=by
 obtain⟨v1,h⟩:=qk h;obtain⟨h,h3⟩:=qc h;obtain⟨h1,h2⟩:=qc h;exact⟨_,_,_,v1.2,h1,qr h2,h3⟩
inductive I_inv_list (C:Cfg) (es:CEs) (sc:qv) (x:Expr):Prop
 |mk (xs) (p) (h0q:x = .List xs p) (h1q:jf xs=true) (h2q:xs.length≤1000) (h3q:jn C es sc xs=true)
theorem Bi(h:qC C (.list m es) sc x=true):I_inv_list C es sc x:=by
 obtain⟨v1,h⟩:=qk h;obtain⟨h,h3⟩:=qc h;obtain⟨h1,h2⟩:=qc h;exact⟨_,_,v1.2,h1,qr h2,h3⟩
inductive I_inv_bin (C:Cfg) (o:Op) (a:CE) (b:CE) (sc:qv) (x:Expr):Prop
 |mk (y) (z) (p) (h0q:x = .BinOp y (opK o) z p) (h1q:qC C a sc y=true) (h2q:qC C b sc z=true)
theorem qbs(h:qC C (.bin o m a b) sc x=true):I_inv_bin C o a b sc x:=by
 obtain⟨v,h⟩:=qk h;obtain⟨h,h3⟩:=qc h;obtain⟨h1,h2⟩:=qc h;exact⟨_,_,_,v.2.trans (by rw[qr h1]),h2,h3⟩
inductive I_inv_not (C:Cfg) (a:CE) (sc:qv) (x:Expr):Prop
 |mk (y) (p) (h0q:x = .UnaryOp .Not y p) (h1q:qC C a sc y=true)
theorem qbx(h:qC C (.not a) sc x=true):I_inv_not C a sc x:=by
 obtain⟨v,h⟩:=qk h;obtain⟨h1,h2⟩:=qc h;exact⟨_,_,v.2.trans (by rw[qr h1]),h2⟩
inductive I_inv_neg (C:Cfg) (a:CE) (sc:qv) (x:Expr):Prop
 |mk (y) (p) (h0q:x = .UnaryOp .USub y p) (h1q:qC C a sc y=true)
theorem qbv(h:qC C (.neg a) sc x=true):I_inv_neg C a sc x:=by
 obtain⟨v,h⟩:=qk h;obtain⟨h1,h2⟩:=qc h;exact⟨_,_,v.2.trans (by rw[qr h1]),h2⟩
inductive I_inv_and (C:Cfg) (es:CEs) (sc:qv) (x:Expr):Prop
 |mk (xs) (p) (h0q:x = .BoolOp .And xs p) (h1q:jn C es sc xs=true)
theorem qbr(h:qC C (.and es) sc x=true):I_inv_and C es sc x:=by
 obtain⟨v,h⟩:=qk h;obtain⟨h1,h2⟩:=qc h;exact⟨_,_,v.2.trans (by rw[qr h1]),h2⟩
inductive I_inv_or (C:Cfg) (es:CEs) (sc:qv) (x:Expr):Prop
 |mk (xs) (p) (h0q:x = .BoolOp .Or xs p) (h1q:jn C es sc xs=true)
theorem qeY(h:qC C (.or es) sc x=true):I_inv_or C es sc x:=by
 obtain⟨v,h⟩:=qk h;obtain⟨h1,h2⟩:=qc h;exact⟨_,_,v.2.trans (by rw[qr h1]),h2⟩
inductive I_inv_cmp (C:Cfg) (o:Cmp) (a:CE) (b:CE) (sc:qv) (x:Expr):Prop
 |mk (y) (z) (p) (h0q:x = .Compare y [qcz o] [z] p) (h1q:QR z=true) (h2q:qC C a sc y=true) (h3q:qC C b sc z=true)
theorem qbt(h:qC C (.cmp o a b) sc x=true):I_inv_cmp C o a b sc x:=by
 obtain⟨v1,h⟩:=qk h;obtain⟨v2,h⟩:=qk h;obtain⟨v3,h⟩:=qk h;obtain⟨h,h4⟩:=qc h;obtain⟨h,h3⟩:=qc h;obtain⟨h1,h2⟩:=qc h;have h1:v2.1=qcz o:=qr h1;exact⟨v1.1.1,v3.1,v1.1.2.2.2,qlM v1.2 (v2.2.trans (qz (λo=>[o]) h1)) v3.2,h2,h3,h4⟩
inductive I_inv_ife (C:Cfg) (t:CE) (a:CE) (b:CE) (sc:qv) (x:Expr):Prop
 |mk (y) (z) (u) (p) (h0q:x = .IfExp y z u p) (h1q:qC C t sc y=true) (h2q:qC C a sc z=true) (h3q:qC C b sc u=true)
theorem qbu(h:qC C (.ife t a b) sc x=true):I_inv_ife C t a b sc x:=by
 obtain⟨v1,h⟩:=qk h;obtain⟨h,h3⟩:=qc h;obtain⟨h1,h2⟩:=qc h;exact⟨_,_,_,_,v1.2,h1,h2,h3⟩
inductive I_inv_call (C:Cfg) (f:Nat) (es:CEs) (sc:qv) (x:Expr):Prop
 |mk (y) (p) (xs) (q) (h0q:x = .Call (.Name y p) xs [] q) (h1q:jW sc y=true) (h2q:C.gf.lookup y=some f) (h3q:jf xs=true) (h4q:xs.length<30) (h5q:jn C es sc xs=true)
theorem Be(h:qC C (.call f es) sc x=true):I_inv_call C f es sc x:=by
 obtain⟨v1,h⟩:=qk h;obtain⟨⟨e1⟩,h⟩:=qk h;obtain⟨v2,h⟩:=qk h;have e1:v1.1.2.2.1=[]:=e1;obtain⟨h,h5⟩:=qc h;obtain⟨h,h4⟩:=qc h;obtain⟨h,h3⟩:=qc h;obtain⟨h1,h2⟩:=qc h;exact⟨v2.1.1,v2.1.2,v1.1.2.1,v1.1.2.2.2,ve v1.2 v2.2 rfl e1,h1,qr h2,h3,qr h4,h5⟩
inductive I_inv_new (C:Cfg) (c:Nat) (es:CEs) (sc:qv) (x:Expr):Prop
 |mk (y) (p) (xs) (q) (h0q:x = .Call (.Name y p) xs [] q) (h1q:jW sc y=true) (h2q:C.gc.lookup y=some c) (h3q:jf xs=true) (h4q:xs.length<30) (h5q:jn C es sc xs=true)
theorem qbw(h:qC C (.new c es) sc x=true):I_inv_new C c es sc x:=by
 obtain⟨v1,h⟩:=qk h;obtain⟨⟨e1⟩,h⟩:=qk h;obtain⟨v2,h⟩:=qk h;have e1:v1.1.2.2.1=[]:=e1;obtain⟨h,h5⟩:=qc h;obtain⟨h,h4⟩:=qc h;obtain⟨h,h3⟩:=qc h;obtain⟨h1,h2⟩:=qc h;exact⟨v2.1.1,v2.1.2,v1.1.2.1,v1.1.2.2.2,ve v1.2 v2.2 rfl e1,h1,qr h2,h3,qr h4,h5⟩
inductive I_inv_meth (C:Cfg) (a:CE) (m:Nat) (es:CEs) (sc:qv) (x:Expr):Prop
 |mk (o) (n) (ap) (xs) (q) (h0q:x = .Call (.Attribute o n ap) xs [] q) (h1q:w9 C m n=true) (h2q:wW o=true) (h3q:ap.endLine=q.line) (h4q:jf xs=true) (h5q:xs.length<30) (h6q:qC C a sc o=true) (h7q:jn C es sc xs=true)
theorem Bj(h:qC C (.meth a m es) sc x=true):I_inv_meth C a m es sc x:=by
 obtain⟨v1,h⟩:=qk h;obtain⟨⟨e1⟩,h⟩:=qk h;obtain⟨v2,h⟩:=qk h;have e1:v1.1.2.2.1=[]:=e1;obtain⟨h,h7⟩:=qc h;obtain⟨h,h6⟩:=qc h;obtain⟨h,h5⟩:=qc h;obtain⟨h,h4⟩:=qc h;obtain⟨h,h3⟩:=qc h;obtain⟨h1,h2⟩:=qc h;exact⟨v2.1.1,v2.1.2.1,v2.1.2.2,v1.1.2.1,v1.1.2.2.2,ve v1.2 v2.2 rfl e1,h1,h2,qr h3,h4,qr h5,h6,h7⟩
inductive I_inv_bm (C:Cfg) (k:BM) (a:CE) (es:CEs) (sc:qv) (x:Expr):Prop
 |mk (o) (ap) (xs) (q) (h0q:x = .Call (.Attribute o (QB k) ap) xs [] q) (h1q:wW o=true) (h2q:ap.endLine=q.line) (h3q:jf xs=true) (h4q:xs.length<30) (h5q:qC C a sc o=true) (h6q:jn C es sc xs=true)
theorem qeX(h:qC C (.bm k a es) sc x=true):I_inv_bm C k a es sc x:=by
 obtain⟨v1,h⟩:=qk h;obtain⟨⟨e1⟩,h⟩:=qk h;obtain⟨v2,h⟩:=qk h;have e1:v1.1.2.2.1=[]:=e1;obtain⟨h,h7⟩:=qc h;obtain⟨h,h6⟩:=qc h;obtain⟨h,h5⟩:=qc h;obtain⟨h,h4⟩:=qc h;obtain⟨h,h3⟩:=qc h;obtain⟨h1,h2⟩:=qc h;have h1:v2.1.2.1=QB k:=qr h1;exact⟨v2.1.1,v2.1.2.2,v1.1.2.1,v1.1.2.2.2,ve v1.2 (XX v2.2 h1) rfl e1,h2,qr h3,h4,qr h5,h6,h7⟩
inductive I_inv_bi (C:Cfg) (k:BI) (es:CEs) (sc:qv) (x:Expr):Prop
 |mk (p) (xs) (q) (ys) (h0q:x = .Call (.Name (Z5 k) p) xs [] q) (h1q:jW sc (Z5 k)=true) (h2q:jf xs=true) (h3q:yy k xs sc=some ys) (h4q:jf ys=true) (h5q:jn C es sc ys=true)
theorem qeW(h:qC C (.bi k es) sc x=true):I_inv_bi C k es sc x:=by
 obtain⟨v1,h⟩:=qk h;obtain⟨⟨e1⟩,h⟩:=qk h;obtain⟨v2,h⟩:=qk h;have e1:v1.1.2.2.1=[]:=e1;obtain⟨h,h4⟩:=qc h;obtain⟨h,h3⟩:=qc h;obtain⟨h1,h2⟩:=qc h;have h2:v2.1.1=Z5 k:=qr h2;obtain⟨ys,e4,h4⟩:=QV h4;obtain⟨h4,h5⟩:=qc h4;exact⟨v2.1.2,v1.1.2.1,v1.1.2.2.2,ys,ve v1.2 (QO v2.2 h2) rfl e1,X9 h2 h1,h3,e4,h4,h5⟩
inductive I_inv_attr (C:Cfg) (a:CE) (m:Nat) (sc:qv) (x:Expr):Prop
 |mk (o) (n) (p) (h0q:x = .Attribute o n p) (h1q:w9 C m n=true) (h2q:C.dat.contains m=true) (h3q:wW o=true) (h4q:qC C a sc o=true)
theorem Bc(h:qC C (.attr a m) sc x=true):I_inv_attr C a m sc x:=by
 obtain⟨v1,h⟩:=qk h;obtain⟨h,h4⟩:=qc h;obtain⟨h,h3⟩:=qc h;obtain⟨h1,h2⟩:=qc h;exact⟨_,_,_,v1.2,h1,h2,h3,h4⟩
inductive I_inv_sub (C:Cfg) (a:CE) (i:CE) (sc:qv) (x:Expr):Prop
 |mk (o) (j) (p) (h0q:x = .Subscript o j p) (h1q:xT j=true) (h2q:qC C a sc o=true) (h3q:qC C i sc j=true)
theorem qbA(h:qC C (.sub a i) sc x=true):I_inv_sub C a i sc x:=by
 obtain⟨v1,h⟩:=qk h;obtain⟨h,h3⟩:=qc h;obtain⟨h1,h2⟩:=qc h;exact⟨_,_,_,v1.2,h1,h2,h3⟩
inductive I_inv_slice (C:Cfg) (a:CE) (lo:CO) (hi:CO) (sc:qv) (x:Expr):Prop
 |mk (o) (l) (u) (q) (p) (h0q:x = .Subscript o (.Slice l u none q) p) (h1q:qC C a sc o=true) (h2q:DQ C lo sc l=true) (h3q:DQ C hi sc u=true)
theorem HY{C:Cfg}{a:CE}{lo hi:CO}{sc:qv}{x:Expr}(h:qC C (.slice a lo hi) sc x=true):I_inv_slice C a lo hi sc x:=by
 obtain⟨v1,h⟩:=qk h;obtain⟨v2,h⟩:=qk h;obtain⟨⟨e3⟩,h⟩:=qk h;have e3:v2.1.2.2.1=none:=e3;obtain⟨h,h3⟩:=qc h;obtain⟨h1,h2⟩:=qc h;exact⟨v1.1.1,v2.1.1,v2.1.2.1,v2.1.2.2.2,v1.1.2.2,qnu v1.2 (qib v2.2 e3),h1,h2,h3⟩
inductive I_range_inv (t:Str) (sc:qv) (x:Expr) (P:Expr→Bool):Prop
 |mk (y) (p) (q) (h0q:x = .Call (.Name t p) [y] [] q) (h1q:jW sc t=true) (h2q:jf [y]=true) (h3q:P y=true)
theorem H7{C:Cfg}{t:Str}{sc:qv}{x:Expr}{P:Expr→Bool}(h:(on (wJ x) λv=>on (wg v.1.2.2.1) λB=>on (zA v.1.1) λn=>on (Qw v.1.2.1) λy=>decide (n.1.1=t)&&jW sc n.1.1&&jf [y.1]&&P y.1)=true):I_range_inv t sc x P:=by
 obtain⟨v1,h⟩:=qk h;obtain⟨⟨e1⟩,h⟩:=qk h;obtain⟨v2,h⟩:=qk h;obtain⟨v3,h⟩:=qk h;obtain⟨h,h4⟩:=qc h;obtain⟨h,h3⟩:=qc h;obtain⟨h1,h2⟩:=qc h;have h1:v2.1.1=t:=qr h1;have e1:v1.1.2.2.1=[]:=e1;exact⟨v3.1,v2.1.2,v1.1.2.2.2,ve v1.2 (QO v2.2 h1) v3.2 e1,X9 h1 h2,h3,h4⟩
inductive I_pair_inv (t:Str) (sc:qv) (x:Expr) (P:Expr→Bool) (Q:Expr→Bool):Prop
 |mk (y) (z) (p) (q) (h0q:x = .Call (.Name t p) [y,z] [] q) (h1q:jW sc t=true) (h2q:jf [y,z]=true) (h3q:P y=true) (h4q:Q z=true)
theorem ZC{C:Cfg}{t:Str}{sc:qv}{x:Expr}{P Q:Expr→Bool}(h:(on (wJ x) λv=>on (wg v.1.2.2.1) λB=>on (zA v.1.1) λn=>on (HJ v.1.2.1) λy=>decide (n.1.1=t)&&jW sc n.1.1&&jf [y.1.1,y.1.2]&&P y.1.1&&Q y.1.2)=true):I_pair_inv t sc x P Q:=by
 obtain⟨v1,h⟩:=qk h;obtain⟨⟨e1⟩,h⟩:=qk h;obtain⟨v2,h⟩:=qk h;obtain⟨v3,h⟩:=qk h;obtain⟨h,h5⟩:=qc h;obtain⟨h,h4⟩:=qc h;obtain⟨h,h3⟩:=qc h;obtain⟨h1,h2⟩:=qc h;have h1:v2.1.1=t:=qr h1;have e1:v1.1.2.2.1=[]:=e1;exact⟨v3.1.1,v3.1.2,v2.1.2,v1.1.2.2.2,ve v1.2 (QO v2.2 h1) v3.2 e1,X9 h1 h2,h3,h4,h5⟩
inductive I_inv_chkT_nm (C:Cfg) (i:Nat) (sc:qv) (x:Expr):Prop
 |mk (y) (p) (h0q:x = .Name y p) (h1q:w9 C i y=true) (h2q:Zv sc y=true) (h3q:YW sc y=true)
theorem Qr(h:yd C (.nm i) sc x=true):I_inv_chkT_nm C i sc x:=by
 obtain⟨v1,h⟩:=qk h;obtain⟨h,h3⟩:=qc h;obtain⟨h1,h2⟩:=qc h;exact⟨v1.1.1,v1.1.2,v1.2,h1,h2,h3⟩
inductive I_inv_chkT_tup (C:Cfg) (ts:CTs) (sc:qv) (x:Expr):Prop
 |mk (xs) (k) (p) (h0q:x = .Tuple xs k p) (h1q:jf xs=true) (h2q:vM C ts sc xs=true)
theorem xO(h:yd C (.tup ts) sc x=true):I_inv_chkT_tup C ts sc x:=by
 obtain⟨v1,h⟩:=qk h;obtain⟨h1,h2⟩:=qc h;exact⟨v1.1.1,v1.1.2.1,v1.1.2.2,v1.2,h1,h2⟩
inductive I_inv_assign (C:Cfg) (t:CT) (e:CE) (sc:qv) (x:Stmt):Prop
 |mk (tx) (v) (p) (h0q:x = .Assign [tx] v p) (h1q:yd C t sc tx=true) (h2q:qC C e sc v=true) (h3q:qnz t v=true) (h4q:qhE v=true)
theorem qcL(h:k6 C (.assign t e) sc x=true):I_inv_assign C t e sc x:=by
 obtain⟨v1,h⟩:=qk h;obtain⟨v2,h⟩:=qk h;obtain⟨h,h4⟩:=qc h;obtain⟨h,h3⟩:=qc h;obtain⟨h1,h2⟩:=qc h;exact⟨v2.1,v1.1.2.1,v1.1.2.2,Z4 v1.2 v2.2,h1,h2,h3,h4⟩
inductive I_inv_setAttr (C:Cfg) (a:CE) (e:CE) (m:Nat) (sc:qv) (x:Stmt):Prop
 |mk (o) (n) (q) (v) (p) (h0q:x = .Assign [.Attribute o n q] v p) (h1q:w9 C m n=true) (h2q:C.dat.contains m=true) (h3q:qC C a sc o=true) (h4q:qC C e sc v=true)
theorem qax(h:k6 C (.setAttr a m e) sc x=true):I_inv_setAttr C a e m sc x:=by
 obtain⟨v1,h⟩:=qk h;obtain⟨v2,h⟩:=qk h;obtain⟨v3,h⟩:=qk h;obtain⟨h,h4⟩:=qc h;obtain⟨h,h3⟩:=qc h;obtain⟨h1,h2⟩:=qc h;exact⟨v3.1.1,v3.1.2.1,v3.1.2.2,v1.1.2.1,v1.1.2.2,Z4 v1.2 (BT v2.2 v3.2),h1,h2,h3,h4⟩
inductive I_inv_setSub (C:Cfg) (a:CE) (i:CE) (e:CE) (sc:qv) (x:Stmt):Prop
 |mk (o) (j) (q) (v) (p) (h0q:x = .Assign [.Subscript o j q] v p) (h1q:xT j=true) (h2q:qC C a sc o=true) (h3q:qC C i sc j=true) (h4q:qC C e sc v=true)
theorem qcM(h:k6 C (.setSub a i e) sc x=true):I_inv_setSub C a i e sc x:=by
 obtain⟨v1,h⟩:=qk h;obtain⟨v2,h⟩:=qk h;obtain⟨v3,h⟩:=qk h;obtain⟨h,h4⟩:=qc h;obtain⟨h,h3⟩:=qc h;obtain⟨h1,h2⟩:=qc h;exact⟨v3.1.1,v3.1.2.1,v3.1.2.2,v1.1.2.1,v1.1.2.2,Z4 v1.2 (BT v2.2 v3.2),h1,h2,h3,h4⟩
inductive I_inv_expr (C:Cfg) (e:CE) (sc:qv) (x:Stmt):Prop
 |mk (f) (as) (ks) (q) (p) (h0q:x = .Expr (.Call f as ks q) p) (h1q:qC C e sc (.Call f as ks q)=true)
theorem qhn(h:k6 C (.expr e) sc x=true):I_inv_expr C e sc x:=by
 obtain⟨v1,h⟩:=qk h;obtain⟨v2,h⟩:=qk h;exact⟨v2.1.1,v2.1.2.1,v2.1.2.2.1,v2.1.2.2.2,v1.1.2,D3 v1.2 v2.2,qlL v2.2 h⟩
inductive I_inv_ret (C:Cfg) (e:CE) (sc:qv) (x:Stmt):Prop
 |mk (y) (p) (h0q:x = .Return (some y) p) (h1q:qC C e sc y=true)
theorem qby(h:k6 C (.ret e) sc x=true):I_inv_ret C e sc x:=by
 obtain⟨v1,h⟩:=qk h;obtain⟨v2,h⟩:=qk h;exact⟨v2.1,v1.1.2,qbW v1.2 v2.2,h⟩
theorem qhq(h:k6 C (.retF e) sc x=true):I_inv_ret C e sc x:=qby h
inductive I_inv_whileS (C:Cfg) (t:CE) (b:CSs) (sc:qv) (x:Stmt):Prop
 |mk (y) (z) (p) (h0q:x = .While y z [] p) (h1q:qC C t sc y=true) (h2q:wY C b sc z=true)
theorem qiu{x:Stmt}{a:Expr}{b c c':List Stmt}{q:Pos}(e:x = .While a b c q)(h:c=c'):x = .While a b c' q:=by rw[e,h]
theorem qcN(h:k6 C (.whileS t b) sc x=true):I_inv_whileS C t b sc x:=by
 obtain⟨v1,h⟩:=qk h;obtain⟨⟨e2⟩,h⟩:=qk h;obtain⟨h1,h2⟩:=qc h;exact⟨v1.1.1,v1.1.2.1,v1.1.2.2.2,qiu v1.2 e2,h1,h2⟩
theorem qaw(h:k6 C .retNone sc x=true):∃p,x = .Return none p:=by
 obtain⟨v1,h⟩:=qk h;obtain⟨⟨e2⟩,h⟩:=qk h;have e2:v1.1.1=none:=e2;exact⟨v1.1.2,qbW v1.2 e2⟩
inductive I_inv_ifS (C:Cfg) (t:CE) (a:CSs) (b:CSs) (sc:qv) (x:Stmt):Prop
 |mk (y) (z) (u) (p) (h0q:x = .If y z u p) (h1q:qC C t sc y=true) (h2q:wY C a sc z=true) (h3q:wY C b sc u=true)
theorem qjW(h:k6 C (.ifS t a b) sc x=true):I_inv_ifS C t a b sc x:=by
 obtain⟨v1,h⟩:=qk h;obtain⟨h,h3⟩:=qc h;obtain⟨h1,h2⟩:=qc h;exact⟨v1.1.1,v1.1.2.1,v1.1.2.2.1,v1.1.2.2.2,v1.2,h1,h2,h3⟩
inductive I_inv_forS (C:Cfg) (t:CT) (it:CI) (b:CSs) (sc:qv) (x:Stmt):Prop
 |mk (tx) (y) (z) (p) (h0q:x = .For tx y z [] p) (h1q:yd C t sc tx=true) (h2q:Zm C it sc tx y=true) (h3q:wY C b sc z=true)
theorem qho(h:k6 C (.forS t it b) sc x=true):I_inv_forS C t it b sc x:=by
 obtain⟨v1,h⟩:=qk h;obtain⟨⟨e2⟩,h⟩:=qk h;obtain⟨h,h3⟩:=qc h;obtain⟨h1,h2⟩:=qc h;have e2:v1.1.2.2.2.1=[]:=e2;exact⟨v1.1.1,v1.1.2.1,v1.1.2.2.1,v1.1.2.2.2.2,qjN v1.2 e2,h1,h2,h3⟩
structure Wired (g:Glb) (C:Cfg):Prop where
 nm:C.nm=g.nm
 globs:C.globs=g.P.globs
 dat:C.dat=g.dat
 gfun:∀x f,C.gf.lookup x=some f→nsIn g.K mainGlobals x=some (some (.ref (g.fa f)))
 gcls:∀x c,C.gc.lookup x=some c→nsIn g.K mainGlobals x=some (some (.ref (g.cls c)))
 isfn:∀f,f<g.P.fns.length→∃o fd,g.K.lookup (g.fa f)=some o∧o.data = .func fd
 gval:∀(gi n:Nat) (p:PV) (x:Str),C.globs[gi]? = some (n,p)→C.nm[n]? = some x→∃v,nsIn g.K mainGlobals x=some (some v)∧RP (Lv g.base) g.base v p
 built:∀x v,(x,v)∈wu→nsIn g.K mainGlobals x=some none
 meth:∀c m f x,g.P.meths.lookup (c,m)=some f→g.nm[m]? = some x→findIn g.K (.ref (g.cls c)) x=some (some (.ref (g.fa f)))∧typeIn g.K (.ref (g.fa f))=some (.type "function")
 ga:∀c,(g.P.inits.lookup c).isSome=true→findIn g.K (.ref (g.cls c)) "__getattribute__" = some (some (.builtin "object.__getattribute__"))∧findIn g.K (.ref (g.cls c)) "__getattr__" = some none∧makesIn g.K (g.cls c)=true
 init:∀c f,g.P.inits.lookup c=some (some f)→findIn g.K (.ref (g.cls c)) "__init__" = some (some (.ref (g.fa f)))∧typeIn g.K (.ref (g.fa f))=some (.type "function")
 fns:∀c m f,g.P.meths.lookup (c,m)=some f→f<g.P.fns.length
 ifns:∀c f,g.P.inits.lookup c=some (some f)→f<g.P.fns.length
 ckeep:∀c,(g.P.inits.lookup c).isSome=true→keepIn g.K (.ref (g.cls c))=true
 gfns:∀x f,C.gf.lookup x=some f→f<g.P.fns.length
structure Room1 (d:Nat) (A:Around):Prop where
 depth:A.depth+2 * d+11<recursionLimit
 units:A.units+20 * d+210<cLine
 handled:A.handled=none
 guards:A.guards=some []
theorem Room1.room(h:Room1 d A):Room d A:=⟨by have:=h.depth;exact Nat.lt_of_succ_lt this,by have:=h.units;exact qP (j3 (show 200≤210 by decide) _) this,h.handled,h.guards⟩
structure Here (g:Glb) (d:Nat) (A:Around) (env:PySem.Env) (sc:qv) (asg:Str→Bool) (X:Addr→Prop):Prop where
 ok:EOK g env asg X
 room:Room1 d A
 names:env.scope.names=sc
noncomputable def yQ(g:Glb)(d:Nat)(call:Nat→List AV→St→R AV):Prop :=
 ∀{f:Nat}{vs:List AV}{U U':St}{r:AV},f<g.P.fns.length→call f vs U=some (r,U')→∀{A:Around}{s:Shared}{Z:Addr→Prop}{bs:List Nat}{ρ:qG}{E:Value→Shared→Prop}{Q:Value→Shared→Prop}{vals:List Value},
  Room d A→Rel g Z bs ρ U s.heap→RAs ρ (Fz Z ρ U) s.heap vals vs→jq g Z bs ρ U s r U' Q →
   codeAny (model g.prog g.w) A (.call (.ref (g.fa f)) ⟨vals,[]⟩) (λr s'=>match r with | .ok (.ret v)=>Q v s' | .ok _=>False | .error e=>E e s') s
structure SE (g:Glb) (C:Cfg) (d:Nat) (K:Ctx) (e:CE):Prop where
 ok:∀{x:Expr}{sc:qv}{A:Around}{s:Shared}{env:PySem.Env}{asg:Str→Bool}{X Z:Addr→Prop}{J:Env}{bs:List Nat}{ρ:qG}{U U':St}{E:Value→Shared→Prop}{r:AV}{Q:Value→Shared→Prop},
  qC C e sc x=true→Here g d A env sc asg X→Rel g Z bs ρ U s.heap→ER g Z ρ U s.heap env J→qt K J e U=some (r,U')→jq g Z bs ρ U s r U' Q→wpAny (model g.prog g.w) A (eval x env) Q E s
noncomputable abbrev qiA(g:Glb)(Z:Addr→Prop)(bs:List Nat)(ρ:qG)(U:St)(s:Shared)(rs:List AV)(U':St)(Q:List Value→Shared→Prop):Prop :=
 ∀vals s' ρ',Rel g Z bs ρ' U' s'.heap→Post jZ ρ U s ρ' U' s'→RAs ρ' (Fz Z ρ' U') s'.heap vals rs→Q vals s'
structure SEs (g:Glb) (C:Cfg) (d:Nat) (K:Ctx) (es:CEs):Prop where
 ok:∀{xs:List Expr}{sc:qv}{A:Around}{s:Shared}{env:PySem.Env}{asg:Str→Bool}{X Z:Addr→Prop}{J:Env}{bs:List Nat}{ρ:qG}{U U':St}{E:Value→Shared→Prop}{rs:List AV}{Q:List Value→Shared→Prop}{pos:Pos},
  jn C es sc xs=true→jf xs=true→Here g d A env sc asg X→Rel g Z bs ρ U s.heap→ER g Z ρ U s.heap env J→zf K J es U=some (rs,U')→qiA g Z bs ρ U s rs U' Q→wpAny (model g.prog g.w) A (spliced (backTo pos (starEach xs env))) Q E s
structure ST (g:Glb) (C:Cfg) (d:Nat) (K:Ctx) (e:CE):Prop where
 ok:∀{x:Expr}{sc:qv}{A:Around}{s:Shared}{env:PySem.Env}{asg:Str→Bool}{X Z:Addr→Prop}{J:Env}{bs:List Nat}{ρ:qG}{U U':St}{E:Value→Shared→Prop}{b:Bool}{Q:Bool→Shared→Prop},
  qC C e sc x=true→Here g d A env sc asg X→Rel g Z bs ρ U s.heap→ER g Z ρ U s.heap env J→qt K J e U=some (.pv (.bool b),U') →
  (∀s' ρ',Rel g Z bs ρ' U' s'.heap→Post jZ ρ U s ρ' U' s'→Q b s')→wpAny (model g.prog g.w) A (isTrue x env (eval x env)) Q E s
section
variable {g:Glb}{C:Cfg}{d:Nat}{K:Ctx}{A:Around}{s s1:Shared}{Z:Addr→Prop}{bs:List Nat}{ρ ρ1:qG}{U U1 U':St}{E:Value→Shared→Prop}
theorem jq.from{r:AV}{Q:Value→Shared→Prop}(P:Post jZ ρ U s ρ1 U1 s1)(K:jq g Z bs ρ U s r U' Q):jq g Z bs ρ1 U1 s1 r U' Q :=
 λval s' ρ' h1 h2 h3=>K val s' ρ' h1 (P.trans h2) h3
theorem Xh(h:Zv sc y=true):(sc.lookup y=some .local∨sc.lookup y=some .cell∨sc.lookup y=some .free)∧(y == ("__debug__" : Str))=false∧(y == ("__classdict__" : Str))=false:=by
 have h:=qc h;have h':=qc h.1;exact⟨qr h'.1,not_true h'.2,not_true h.2⟩
theorem gy(h:jW sc y=true):sc.lookup y=some .globalImplicit∧(y == ("__debug__" : Str))=false:=by
 have h:=qc h;exact⟨qr h.1,not_true h.2⟩
theorem yT(h:w9 C i y=true):C.nm[i]? = some y:=qr h
theorem Here.kind{env:PySem.Env}{sc:qv}{asg:Str→Bool}{X:Addr→Prop}(H:Here g d A env sc asg X)(y:Str):env.kindOf y=sc.lookup y:=by
 unfold PySem.Env.kindOf;rw[H.names]
theorem SE.stuck:SE g C d K .stuck:=⟨λB B B B e B=>nomatch e⟩
theorem SE.none:SE g C d K .none:=⟨λhc H R er e k=>by
 obtain⟨_,_,rfl⟩:=qhp hc;obtain⟨rfl,rfl⟩:=qx e;exact wpAny_Constant_none (k.same R (.pv .none))⟩
theorem SE.bool:SE g C d K (.bool b):=⟨λhc H R er e k=>by
 obtain⟨_,_,rfl⟩:=Bd hc;obtain⟨rfl,rfl⟩:=qx e;exact wpAny_Constant_bool (k.same R (.pv (.bool _)))⟩
theorem SE.int:SE g C d K (.int i):=⟨λhc H R er e k=>by
 obtain⟨_,_,rfl⟩:=qjX hc;obtain⟨rfl,rfl⟩:=qx e;exact wpAny_Constant_int (k.toks R _ (.pv (.int _ _)))⟩
theorem SE.str:SE g C d K (.str x):=⟨λhc H R er e k=>by
 obtain⟨_,_,rfl⟩:=qbz hc;obtain⟨rfl,rfl⟩:=qx e;exact wpAny_Constant_str (k.toks R _ (.pv (.str _ _)))⟩
theorem SE.var(W:Wired g C):SE g C d K (.var i):=⟨λhc H R er e k=>by
 obtain⟨y,p,rfl,h1,h2⟩:=qbC hc;obtain⟨v,hv,e⟩:=y4 e;injection e with e e1q;subst e;subst e1q;obtain⟨hk,hd,hcd⟩:=Xh h2;have hx:=yT h1;rw[W.nm] at hx;rw[←H.kind] at hk;exact qhC H.ok er hv hx hk hd hcd λval q=>k.same R q⟩
theorem SE.glob(G:GOk g)(W:Wired g C)(hK:∀gi,K.glob gi=(g.P.globs[gi]?).map (·.2)):SE g C d K (.glob gi):=⟨λhc H R er e k=>by
 obtain⟨y,p,rfl,h1,h2⟩:=Bh hc;obtain⟨pv,hp,e1⟩:=qo e;obtain⟨rfl,rfl⟩:=qx e1;rw[hK] at hp;obtain⟨np,hgi,rfl⟩:=yK.mp hp;obtain⟨hk,hd⟩:=gy h1;rw[←H.kind] at hk;have h2:w9 C np.1 y=true:=by unfold D7 at h2;rw[W.globs,hgi] at h2;exact h2
 obtain⟨v,hv,hr⟩:=W.gval gi np.1 np.2 _ (by rw[W.globs];exact hgi) (yT h2);refine Yg G H.ok R hk hd hv (k.same R (.pv (hr.mono λb o e f B=>⟨R.keep b o e,λz=>(R.zlt z).1 f,λft=>?_⟩)));obtain⟨i,l,o,a1,a2,a3,a4⟩:=ft;exact(R.addrs a1 a4).1 f⟩
theorem SE.bin(ha:SE g C d K a)(hb:SE g C d K b):SE g C d K (.bin o m a b):=⟨λhc H R er e k=>by
 obtain⟨y,z,p,rfl,h1,h2⟩:=qbs hc;obtain⟨v,U1,e1,e⟩:=qm e;obtain⟨w,U2,e2,e⟩:=qm e;refine wpAny_BinOp (ha.ok h1 H R er e1 λva s1 ρ1 R1 P1 q1=>hb.ok h2 H R1 (er.post R P1) e2 λvb s2 ρ2 R2 P2 q2=>?_);exact qmK R2 (q1.post P2 λB h=>h.elim) q2 e (k.from (P1.trans P2))⟩
theorem SE.not(ha:SE g C d K a):SE g C d K (.not a):=⟨λhc H R er e k=>by
 obtain⟨y,p,rfl,h1⟩:=qbx hc;obtain⟨v,U1,e1,e2⟩:=qm e;obtain⟨b,hb,e3⟩:=qo e2;obtain⟨rfl,rfl⟩:=qx e3;exact wpAny_UnaryOp (ha.ok h1 H R er e1 λva s1 ρ1 R1 P1 q1=>qmO R1 (zV hb▸q1) (k.from P1))⟩
theorem SE.neg(ha:SE g C d K a):SE g C d K (.neg a):=⟨λhc H R er e k=>by
 obtain⟨y,p,rfl,h1⟩:=qbv hc;obtain⟨v,U1,e1,e2⟩:=qm e;obtain⟨i,hi,e3⟩:=jF e2;obtain⟨rfl,rfl⟩:=qx e3;exact wpAny_UnaryOp (ha.ok h1 H R er e1 λva s1 ρ1 R1 P1 q1=>qmN R1 (hi▸q1) (k.from P1))⟩
theorem Ym(h:QR z=true):behindInMarks op z=false:=by
 rcases z <;> first | rfl | exact(q9 h).elim
theorem Qv(h:QR z=true):foldedSetIterable z env v=pure v:=by
 rcases z <;> first | rfl | exact(q9 h).elim
theorem Room1.line(h:Room1 d A):A.units+60<cLine:=by have:=h.units;exact qP (yt (qS _ _) (show 60≤210 by decide)) this
theorem SE.cmp(G:GOk g)(ha:SE g C d K a)(hb:SE g C d K b):SE g C d K (.cmp o a b):=⟨λhc H R er e k=>by
 obtain⟨y,z,p,rfl,h0,h1,h2⟩:=qbt hc;obtain⟨v,U1,e1,e⟩:=qm e;obtain⟨w,U2,e2,e⟩:=qm e;obtain⟨r,hr,e3⟩:=qo e;obtain⟨rfl,rfl⟩:=qx e3;refine wpAny_Compare1 (ha.ok h1 H R er e1 λva s1 ρ1 R1 P1 q1=>hb.ok h2 H R1 (er.post R P1) e2 λvb s2 ρ2 R2 P2 q2=>?_) (Ym h0);exact qfH G H.room.line R2 (q1.post P2 λB h=>h.elim) q2 hr (k.from (P1.trans P2))⟩
theorem SE.ife(ht:ST g C d K t)(ha:SE g C d K a)(hb:SE g C d K b):SE g C d K (.ife t a b):=⟨λhc H R er e k=>by
 obtain⟨y,z,u,p,rfl,h0,h1,h2⟩:=qbu hc;obtain⟨v,U1,e1,e2⟩:=qm e;obtain⟨c,hc',e3⟩:=qo e2;rw[zV hc'] at e1;induction c with
 |true=>exact wpAny_IfExp (ht.ok h0 H R er e1 λs1 ρ1 R1 P1=>ha.ok h1 H R1 (er.post R P1) e3 (k.from P1))
 |false=>exact wpAny_IfExp (ht.ok h0 H R er e1 λs1 ρ1 R1 P1=>hb.ok h2 H R1 (er.post R P1) e3 (k.from P1))⟩
theorem wT(h:jf (y::xs)=true):starEach (y::xs) env=(false,eval y env)::starEach xs env∧jf xs=true:=by
 rcases y <;> first | exact⟨rfl,h⟩ | exact(q9 h).elim
theorem jJ:∀{xs:List Expr}{env:PySem.Env}{pos:Pos},jf xs=true→(backTo pos (starEach xs env)).any (·.1)=false:=by
 intro xs;induction xs with
 |nil =>
  intro _ _ _;exact rfl
 |cons y xs ih =>
  intro env pos h;obtain⟨h1,h2⟩:=wT (env:=env) h;rw[h1];show(false||(backTo pos (starEach xs env)).any (·.1))=false
  rw[ih h2];rfl
inductive ChkCons (C:Cfg) (a:CE) (r:CEs) (sc:qv) (xs:List Expr):Prop
 |mk (y:Expr) (ys:List Expr) (e:xs=y::ys) (h1:qC C a sc y=true) (h2:jn C r sc ys=true)
theorem y3(h:jn C (.cons a r) sc xs=true):ChkCons C a r sc xs:=by
 obtain⟨v,h⟩:=qk h;obtain⟨h1,h2⟩:=qc h;exact⟨v.1.1,v.1.2,v.2,h1,h2⟩
theorem QE(h:jn C .nil sc xs=true):xs=[]:=by
 obtain⟨v,_⟩:=qk h;exact v.1
theorem SEs.nil:SEs g C d K .nil:=⟨by
 intro xs sc A s env asg X Z J bs ρ U U' E rs Q pos hc hn H R er e k;obtain rfl:=QE hc;obtain⟨rfl,rfl⟩:=qx e;exact wpAny_items_nil (k [] _ _ R Post.refl .nil)⟩
theorem SEs.cons(ha:SE g C d K a)(hr:SEs g C d K r):SEs g C d K (.cons a r):=⟨by
 intro xs sc A s env asg X Z J bs ρ U U' E rs Q pos hc hn H R er e k;obtain⟨y,ys,rfl,c1,c2⟩:=y3 hc;obtain⟨v,U1,e1,e⟩:=qm e;obtain⟨vs,U2,e2,e⟩:=qm e;obtain⟨rfl,rfl⟩:=qx e;obtain⟨h1,h2⟩:=wT hn;refine wpAny_items_cons (ha.ok c1 H R er e1 λva s1 ρ1 R1 P1 q1=>hr.ok c2 h2 H R1 (er.post R P1) e2 λvals s2 ρ2 R2 P2 q2=>?_) h1;exact k _ _ _ R2 (P1.trans P2) (.cons (q1.post P2 λB h=>h.elim) q2)⟩
theorem xC:∀{es:CEs}{sc:qv}{xs:List Expr}{J:Env}{U U':St}{rs:List AV},jn C es sc xs=true→zf K J es U=some (rs,U')→rs.length=xs.length
 | .nil,_,xs,_,_,_,rs,h,e=>by
  obtain⟨h1,_⟩:=qx e;rw[QE h,←h1];rfl
 | .cons a r,sc,xs,J,U,U',rs,h,e=>by
  obtain⟨y,ys,h0,_,h2⟩:=y3 h;obtain⟨v,U1,e1,e3⟩:=qm e;obtain⟨vs,U2,e2,e4⟩:=qm e3;rw[h0,←(qx e4).1];exact qz (· + 1) (xC h2 e2)
theorem SE.tup(hs:SEs g C d K es):SE g C d K (.tup es):=⟨λhc H R er e k=>by
 obtain⟨xs,kk,p,rfl,h0,h1,h2⟩:=qbB hc;obtain⟨vs,U1,e1,e⟩:=qm e;obtain⟨rfl,rfl⟩:=qx e;have hl:=xC h2 e1;refine wpAny_Tuple (hs.ok h2 h0 H R er e1 λvals s1 ρ1 R1 P1 q1=>⟨?_,YV R1 q1 (k.from P1) _⟩);rw[q1.length,hl,yO];exact qu h1 (by decide)⟩
theorem SE.list(hs:SEs g C d K es):SE g C d K (.list m es):=⟨λhc H R er e k=>by
 obtain⟨xs,p,rfl,h0,h1,h2⟩:=Bi hc;obtain⟨vs,U1,e1,e⟩:=qm e;have hl:=xC h2 e1;refine wpAny_List (hs.ok h2 h0 H R er e1 λvals s1 ρ1 R1 P1 q1=>⟨?_,?_⟩)
 ·rw[q1.length,hl,yO];exact qu h1 (by decide)
 ·induction m with
  |true =>
   simp only[cond_true,Option.some.injEq,Prod.mk.injEq] at e;obtain⟨rfl,rfl⟩:=e;exact BN R1 q1 (k.from P1) _
  |false =>
   simp only[cond_false,Option.some.injEq,Prod.mk.injEq] at e;obtain⟨rfl,rfl⟩:=e;exact YU R1 q1 (k.from P1) _⟩
theorem Y7(h:wW o=true):attributeBase o n env whole=whole:=by
 induction o using PySem.Expr.casesOn with
 |Call f as ks q=>induction f using PySem.Expr.casesOn with
  |Name=>induction as using List.casesOn with
   |nil=>induction ks using List.casesOn with
    |nil=>exact(q9 h).elim
    |cons=>rfl
   |cons=>rfl
  |_=>rfl
 |_=>rfl
theorem SE.attr(G:GOk g)(W:Wired g C)(ha:SE g C d K a):SE g C d K (.attr a m):=⟨by
 intro x sc A s env asg X Z J bs ρ U U' E r Q hc H R er e k;obtain⟨o,n,p,rfl,h1,h2,h3,h4⟩:=Bc hc;obtain⟨v,U1,e1,e⟩:=qm e;obtain⟨y,hy,e⟩:=y4 e;injection e with e e1q;subst e;subst e1q;have hx:=yT h1;rw[W.nm] at hx;have hm:m∈g.dat:=by rw[←W.dat];simpa using h2
 have hbase:∀{whole:Sem Value}{env:PySem.Env},attributeBase o n env whole=whole:=by
  intro whole env;exact Y7 h3
 have he:eval (.Attribute o n p) env=(do
   let ov ←attributeBase o n env (eval o env)
   standAt p.atName
   let r ←holding [ov] (getAttr ov n true)
   letTemporaryGo o ov r
   pure r):=rfl
 rw[he,hbase];refine qe (ha.ok h4 H R er e1 λva s1 ρ1 R1 P1 q1=>qe (wk (qe (jX ?_))));exact qkt G R1 q1 hm hx hy λval s2 ρ2 R2 P2 q2=>qe (wpAny_letTemporaryGo (qp (k val s2 ρ2 R2 (P1.trans P2) q2)))⟩
end
section
variable {g:Glb}{C:Cfg}{d:Nat}{K:Ctx}{A:Around}{s s1:Shared}{Z:Addr→Prop}{bs:List Nat}{ρ ρ1:qG}{U U1 U':St}{E:Value→Shared→Prop}
theorem ST.of_value(he:SE g C d K e)(hs:∀{x:Expr}{sc:qv}{env:PySem.Env}{w:Sem Value},qC C e sc x=true→isTrue x env w=(do let v ←w;standAt x.pos;holding [v] (truthy v))):ST g C d K e:=⟨λhc H R er e k =>
 wpAny_isTrue_value (he.ok hc H R er e λva s1 ρ1 R1 P1 q1=>Qi q1 (k s1 ρ1 R1 P1)) (hs hc)⟩
theorem ST.stuck:ST g C d K .stuck:=⟨λB B B B e B=>nomatch e⟩
theorem ST.none:ST g C d K .none:=⟨λB B B B e B=>nomatch e⟩
theorem ST.int:ST g C d K (.int i):=⟨λB B B B e B=>nomatch e⟩
theorem ST.str:ST g C d K (.str i):=⟨λB B B B e B=>nomatch e⟩
theorem ST.bool:ST g C d K (.bool b):=.of_value .bool λhc=>by obtain⟨_,_,rfl⟩:=Bd hc;rfl
theorem YF{a b:Bool}{s t:St}(e:some (AV.pv (.bool a),s)=some (.pv (.bool b),t)):a=b∧s=t:=by
 obtain⟨h,h2⟩:=qx e;exact⟨PV.bool.inj (AV.pv.inj h),h2⟩
theorem ST.not{a:CE}(ha:ST g C d K a):ST g C d K (.not a):=⟨λhc H R er e k=>by
 obtain⟨y,p,rfl,h1⟩:=qbx hc;obtain⟨v,U1,e1,e2⟩:=qm e;obtain⟨b,hb,e3⟩:=qo e2;obtain⟨rfl,rfl⟩:=YF e3;rw[zV hb] at e1;exact wpAny_isTrue_Not (ha.ok h1 H R er e1 λs1 ρ1 R1 P1=>k s1 ρ1 R1 P1)⟩
theorem ST.cmp(G:GOk g){o:Cmp}{a b:CE}(ha:SE g C d K a)(hb:SE g C d K b):ST g C d K (.cmp o a b):=⟨λhc H R er e k=>by
 obtain⟨y,z,p,rfl,h0,h1,h2⟩:=qbt hc;obtain⟨v,U1,e1,e⟩:=qm e;obtain⟨w,U2,e2,e⟩:=qm e;obtain⟨r,hr,e3⟩:=qo e;obtain⟨rfl,rfl⟩:=YF e3;refine wpAny_isTrue_Compare1 (ha.ok h1 H R er e1 λva s1 ρ1 R1 P1 q1=>hb.ok h2 H R1 (er.post R P1) e2 λvb s2 ρ2 R2 P2 q2=>?_) (Ym h0);exact qfH G H.room.line R2 (q1.post P2 λB h=>h.elim) q2 hr λval s3 ρ3 R3 P3 q3=>Qi q3 (k s3 ρ3 R3 ((P1.trans P2).trans P3))⟩
theorem ST.ife(ht:ST g C d K t)(ha:ST g C d K a)(hb:ST g C d K b):ST g C d K (.ife t a b):=⟨λhc H R er e k=>by
 obtain⟨y,z,u,p,rfl,h0,h1,h2⟩:=qbu hc;obtain⟨v,U1,e1,e2⟩:=qm e;obtain⟨c,hc',e3⟩:=qo e2;rw[zV hc'] at e1;have he:∀{env:PySem.Env}{w:Sem Value},isTrue (.IfExp y z u p) env w=(do if ←isTrue y env (eval y env) then isTrue z env (eval z env) else isTrue u env (eval u env)):=rfl;rw[he];refine qe (ht.ok h0 H R er e1 λs1 ρ1 R1 P1=>?_);induction c with
 |true=>exact ha.ok h1 H R1 (er.post R P1) e3 λs2 ρ2 R2 P2=>k s2 ρ2 R2 (P1.trans P2)
 |false=>exact hb.ok h2 H R1 (er.post R P1) e3 λs2 ρ2 R2 P2=>k s2 ρ2 R2 (P1.trans P2)⟩
noncomputable def HM(i:Bool):BoolOp:=match i with
 |true=>.And
 |false=>.Or
structure SB (g:Glb) (C:Cfg) (d:Nat) (K:Ctx) (i:Bool) (es:CEs):Prop where
 val:∀{xs:List Expr}{sc:qv}{A:Around}{s:Shared}{env:PySem.Env}{asg:Str→Bool}{X Z:Addr→Prop}{J:Env}{bs:List Nat}{ρ:qG}{U U':St}{E:Value→Shared→Prop}{r:AV}{Q:Value→Shared→Prop}{pos:Pos},
  jn C es sc xs=true→Here g d A env sc asg X→Rel g Z bs ρ U s.heap→ER g Z ρ U s.heap env J→Qf K J i es U=some (r,U')→jq g Z bs ρ U s r U' Q →
   wpAny (model g.prog g.w) A (boolOp pos (HM i) (evalEach xs env)) Q E s
 test:∀{xs:List Expr}{sc:qv}{A:Around}{s:Shared}{env:PySem.Env}{asg:Str→Bool}{X Z:Addr→Prop}{J:Env}{bs:List Nat}{ρ:qG}{U U':St}{E:Value→Shared→Prop}{b:Bool}{Q:Bool→Shared→Prop},
  jn C es sc xs=true→Here g d A env sc asg X→Rel g Z bs ρ U s.heap→ER g Z ρ U s.heap env J→Qf K J i es U=some (.pv (.bool b),U') →
  (∀s' ρ',Rel g Z bs ρ' U' s'.heap→Post jZ ρ U s ρ' U' s'→Q b s')→wpAny (model g.prog g.w) A (allTrue (HM i) xs env) Q E s
theorem SB.nil:SB g C d K i .nil:=⟨(λB B B B e B=>nomatch e),(λB B B B e B=>nomatch e)⟩
theorem Db{i b:Bool}{y:Expr}{ys:List Expr}{env:PySem.Env}{Q:Bool→Shared→Prop}(h:wpAny (model g.prog g.w) A (isTrue y env (eval y env)) (λt s1=>t=b∧(b=i→wpAny (model g.prog g.w) A (allTrue (HM i) ys env) Q E s1)∧(b≠i→Q b s1)) E s):
  wpAny (model g.prog g.w) A (allTrue (HM i) (y::ys) env) Q E s:=by
 induction i with
 |false =>
  refine wpAny_allTrue_Or_cons (zS h (λt s1 q=>?_) λB B e=>e);obtain⟨rfl,q1,q2⟩:=q;induction t with
  |true=>exact q2 (by decide)
  |false=>exact q1 rfl
 |true =>
  refine wpAny_allTrue_And_cons (zS h (λt s1 q=>?_) λB B e=>e);obtain⟨rfl,q1,q2⟩:=q;induction t with
  |true=>exact q1 rfl
  |false=>exact q2 (by decide)
theorem qii{i:Bool}{env:PySem.Env}{Q:Bool→Shared→Prop}(h:Q i s):wpAny (model g.prog g.w) A (allTrue (HM i) [] env) Q E s:=by
 induction i with
 |false=>exact wpAny_allTrue_Or_nil h
 |true=>exact wpAny_allTrue_And_nil h
theorem SB.one{i:Bool}{a:CE}(ha:SE g C d K a)(ht:ST g C d K a):SB g C d K i (.cons a .nil) where
 val:=by
  intro xs sc A s env asg X Z J bs ρ U U' E r Q pos hc H R er e k;obtain⟨y,ys,rfl,h1,h2⟩:=y3 hc;obtain rfl:=QE h2;obtain⟨v,U1,e1,e2⟩:=qm e;obtain⟨b,hb,e3⟩:=qo e2;obtain⟨rfl,rfl⟩:=qx e3;rw[zV hb] at e1;induction i <;> exact ha.ok h1 H R er e1 k
 test:=by
  intro xs sc A s env asg X Z J bs ρ U U' E r Q hc H R er e k;obtain⟨y,ys,rfl,h1,h2⟩:=y3 hc;obtain rfl:=QE h2;obtain⟨v,U1,e1,e2⟩:=qm e;obtain⟨b,hb,e3⟩:=qo e2;obtain⟨rfl,rfl⟩:=YF e3;rw[zV hb] at e1;exact Db (ht.ok h1 H R er e1 λs1 ρ1 R1 P1=>⟨rfl,λhi=>qii (hi▸k s1 ρ1 R1 P1),λB=>k s1 ρ1 R1 P1⟩)
set_option backward.match.sparseCases true in
theorem SB.cons{i:Bool}{a a2:CE}{r:CEs}(ha:SE g C d K a)(ht:ST g C d K a)(hr:SB g C d K i (.cons a2 r)):SB g C d K i (.cons a (.cons a2 r)) where
 val:=by
  intro xs sc A s env asg X Z J bs ρ U U' E w Q pos hc H R er e k;obtain⟨y,ys,rfl,h1,h2⟩:=y3 hc;obtain⟨y2,ys2,rfl,_,_⟩:=y3 h2;obtain⟨v,U1,e1,e2⟩:=qm e;obtain⟨b,hb,e3⟩:=qo e2;have e4:(bif b == i then Qf K J i (.cons a2 r) U1 else some (.pv (.bool b),U1))=some (w,U'):=e3;have hv:=zV hb;have hbo:boolOp pos (HM i) (evalEach (y::y2::ys2) env)=(do
    let v ←eval y env
    standAt pos
    let t ←holding [v] (truthy v)
    match HM i,t with
    | .And,false | .Or,true=>pure v
    |_,_=>boolOp pos (HM i) (evalEach (y2::ys2) env)):=rfl
  rw[hbo];refine qe (ha.ok h1 H R er e1 λva s1 ρ1 R1 P1 q1=>qe (wk (qe (jX (Qi (hv▸q1) ?_)))));rcases ki e4 with⟨hi,e5⟩ | ⟨hi,e5⟩
  ·have go:=hr.val (pos:=pos) (E:=E) h2 H R1 (er.post R P1) e5 (k.from P1)
   induction i <;> induction b <;> first | exact go | injection hi
  ·obtain⟨rfl,rfl⟩:=qx e5
   have go:=k va s1 ρ1 R1 P1 (hv▸q1);induction i <;> induction b <;> first | exact qp go | injection hi
 test:=by
  intro xs sc A s env asg X Z J bs ρ U U' E w Q hc H R er e k;obtain⟨y,ys,rfl,h1,h2⟩:=y3 hc;obtain⟨v,U1,e1,e2⟩:=qm e;obtain⟨b,hb,e3⟩:=qo e2;have e4:(bif b == i then Qf K J i (.cons a2 r) U1 else some (.pv (.bool b),U1))=some (.pv (.bool w),U'):=e3;rw[zV hb] at e1;refine Db (ht.ok h1 H R er e1 λs1 ρ1 R1 P1=>⟨rfl,λhi=>?_,λhi=>?_⟩)
  ·rw[hi,zP] at e4
   exact hr.test h2 H R1 (er.post R P1) e4 λs2 ρ2 R2 P2=>k s2 ρ2 R2 (P1.trans P2)
  ·rw[yM hi] at e4
   obtain⟨rfl,rfl⟩:=YF e4;exact k s1 ρ1 R1 P1
theorem SE.and(h:SB g C d K true es):SE g C d K (.and es):=⟨λhc H R er e k=>by
 obtain⟨xs,p,rfl,h1⟩:=qbr hc;exact h.val h1 H R er e k⟩
theorem SE.or(h:SB g C d K false es):SE g C d K (.or es):=⟨λhc H R er e k=>by
 obtain⟨xs,p,rfl,h1⟩:=qeY hc;exact h.val h1 H R er e k⟩
theorem ST.and(h:SB g C d K true es):ST g C d K (.and es):=⟨λhc H R er e k=>by
 obtain⟨xs,p,rfl,h1⟩:=qbr hc;exact wpAny_isTrue_BoolOp (h.test h1 H R er e k)⟩
theorem ST.or(h:SB g C d K false es):ST g C d K (.or es):=⟨λhc H R er e k=>by
 obtain⟨xs,p,rfl,h1⟩:=qeY hc;exact wpAny_isTrue_BoolOp (h.test h1 H R er e k)⟩
theorem qgh(h:xT j=true):subscripted j false o i=operate [o,i] (getItem o i):=by
 rcases j <;> first | rfl | exact(q9 h).elim
theorem SE.sub(ha:SE g C d K a)(hi:SE g C d K i):SE g C d K (.sub a i):=⟨λhc H R er e k=>by
 obtain⟨o,j,p,rfl,h0,h1,h2⟩:=qbA hc;obtain⟨v,U1,e1,e⟩:=qm e;obtain⟨w,U2,e2,e⟩:=qm e;obtain⟨y,hy,e⟩:=y4 e;injection e with e e1q;subst e;subst e1q;refine Subscript_ (ha.ok h1 H R er e1 λva s1 ρ1 R1 P1 q1=>hi.ok h2 H R1 (er.post R P1) e2 λvb s2 ρ2 R2 P2 q2=>?_);exact qmP H.room.line R2 (q1.post P2 λB h=>h.elim) q2 (λo i=>qgh h0) hy (k.from (P1.trans P2))⟩
noncomputable def qcl(ρ:qG)(F:Addr→Prop)(h:Heap)(v:Value):Option AV→Prop
 |Option.none=>v=Value.none
 |Option.some a=>RA ρ F h v a
structure SO (g:Glb) (C:Cfg) (d:Nat) (K:Ctx) (o:CO):Prop where
 ok:∀{x:Option Expr}{sc:qv}{A:Around}{s:Shared}{env:PySem.Env}{asg:Str→Bool}{X Z:Addr→Prop}{J:Env}{bs:List Nat}{ρ:qG}{U U':St}{E:Value→Shared→Prop}{r:Option AV}{Q:Value→Shared→Prop},
  DQ C o sc x=true→Here g d A env sc asg X→Rel g Z bs ρ U s.heap→ER g Z ρ U s.heap env J→evO K J o U=some (r,U') →
  (∀val s' ρ',Rel g Z bs ρ' U' s'.heap→Post jZ ρ U s ρ' U' s'→qcl ρ' (Fz Z ρ' U') s'.heap val r→Q val s')→wpAny (model g.prog g.w) A (evalPart x env) Q E s
theorem SO.none:SO g C d K .none:=⟨λ{x}=>by
 intro sc A s env asg X Z J bs ρ U U' E r Q hc H R er e k;obtain⟨v,_⟩:=qk hc;obtain rfl:=v.1;obtain⟨rfl,rfl⟩:=qx e;exact qp (k .none _ _ R Post.refl rfl)⟩
theorem SO.some(ha:SE g C d K a):SO g C d K (.some a):=⟨λ{x}=>by
 intro sc A s env asg X Z J bs ρ U U' E r Q hc H R er e k;obtain⟨w,hw⟩:=qk hc;rw[w.2];obtain⟨v,U1,e1,e⟩:=qm e;obtain⟨rfl,rfl⟩:=qx e;exact ha.ok hw H R er e1 λva s1 ρ1 R1 P1 q1=>k va s1 ρ1 R1 P1 q1⟩
theorem BY{v:Value}{o:Option AV}{F:Addr→Prop}{h:Heap}(hq:qcl ρ F h v o)(he:∀a,o=some a→∃n,a = .pv (.int n)):PartR v o:=by
 induction o with
 |none=>simp only[qcl] at hq;subst hq;exact .none
 |some a =>
  obtain⟨n,rfl⟩:=he a rfl;simp only[qcl] at hq;have r:=hq.pv_;obtain⟨_,rfl⟩:=r.int_;exact .int
theorem Yt(e:yE v=some n):∃n,v = .pv (.int n):=by
 obtain⟨i,h,_⟩:=jF e;exact⟨i,h⟩
theorem qaN{a:AV}{lo hi:Option AV}{y:AV}(e:vg a lo hi U=some y):(∀a,lo=some a→∃n,a = .pv (.int n))∧(∀a,hi=some a→∃n,a = .pv (.int n)):=by
 obtain⟨l,_,e1⟩:=qo e;obtain⟨_,e2⟩:=z7 e1;induction hi with
 |none =>
  obtain⟨v,h1,e3⟩:=qo e2;obtain⟨n,h2,_⟩:=qo (o:=yE v) e3;exact⟨λa h=>qA (h1.symm.trans h)▸Yt h2,λB h=>nomatch h⟩
 |some w =>
  obtain⟨h1,e3⟩:=z7 e2;obtain⟨n,h2,_⟩:=qo e3;exact⟨λa h=>(by rw[h] at h1;exact(q9 h1).elim),λa h=>qA h▸Yt h2⟩
theorem SE.slice{a:CE}{lo hi:CO}(ha:SE g C d K a)(hl:SO g C d K lo)(hh:SO g C d K hi):SE g C d K (.slice a lo hi):=⟨λhc H R er e k=>by
 obtain⟨o,l,u,q,p,rfl,h1,h2,h3⟩:=HY hc;obtain⟨v,U1,e1,e⟩:=qm e;obtain⟨ll,U2,e2,e⟩:=qm e;obtain⟨uu,U3,e3,e⟩:=qm e;obtain⟨y,hy,e⟩:=y4 e;injection e with e e1q;subst e;subst e1q;obtain⟨hll,huu⟩:=qaN hy;refine Subscript_ (ha.ok h1 H R er e1 λva s1 ρ1 R1 P1 q1=>wpAny_Slice (hl.ok h2 H R1 (er.post R P1) e2 λvl s2 ρ2 R2 P2 q2=>hh.ok h3 H R2 ((er.post R P1).post R1 P2) e3 λvu s3 ρ3 R3 P3 q3=>qp ?_));refine qhH R3 ((q1.post P2 λB h=>h.elim).post P3 λB h=>h.elim) (BY q2 hll) (BY q3 huu) hy (k.from ((P1.trans P2).trans P3))⟩
end
end Mine
end
section
open PySem PySem.W PySem.SeqAt PyProof.Rows PySem.Calls
namespace Mine
section
variable {g:Glb}{C:Cfg}{d:Nat}{K:Ctx}{A:Around}{s s1:Shared}{Z:Addr→Prop}{bs:List Nat}{ρ ρ1:qG}{U U1 U':St}{E:Value→Shared→Prop}
theorem SEs.args{es:CEs}(h:SEs g C d K es){xs:List Expr}{sc:qv}{A:Around}{s:Shared}{env:PySem.Env}{asg:Str→Bool}{X Z:Addr→Prop}{J:Env}{bs:List Nat}{ρ:qG}{U U':St}{E:Value→Shared→Prop}{rs:List AV}{Q:Args→Shared→Prop}{pos:Pos}{f:Value}(hc:jn C es sc xs=true)(hn:jf xs=true)(H:Here g d A env sc asg X)(R:Rel g Z bs ρ U s.heap)(er:ER g Z ρ U s.heap env J)(e:zf K J es U=some (rs,U'))(k:qiA g Z bs ρ U s rs U' (λvs s'=>Q ⟨vs,[]⟩ s')):
  wpAny (model g.prog g.w) A (evalArgs f true (backTo pos (starEach xs env)) []) Q E s:=by
 induction xs using List.casesOn with
 |nil =>
  induction es using Mine.CEs.casesOn with
  |nil =>
   obtain⟨rfl,rfl⟩:=qx e;exact PySem.evalArgs_none (k [] _ _ R Post.refl .nil)
  |cons=>exact(q9 hc).elim
 |cons y ys =>
  have:=h.ok (pos:=pos) (E:=E) (Q:=λvs s'=>Q ⟨vs,[]⟩ s') hc hn H R er e k;rw[(wT (env:=env) hn).1] at this ⊢;exact evalArgs_plain this
theorem SE.call(G:GOk g)(W:Wired g C){call:Nat→List AV→St→R AV}(HC:yQ g d call)(hK:K.call=call){f:Nat}{es:CEs}(hs:SEs g C d K es):SE g C d K (.call f es):=⟨λhc H R er e k=>by
 obtain⟨y,p,xs,q,rfl,h1,h2,h3,h4,h5⟩:=Be hc;obtain⟨vs,U1,e1,e⟩:=qm e;obtain⟨hk,hd⟩:=gy h1;rw[←H.kind] at hk;have hf:=W.gfns _ _ h2;obtain⟨o,fd,ho,hfd⟩:=W.isfn f hf;refine Call_ (Yg G H.ok R hk hd (W.gfun _ _ h2) (callWith_function (o:=o) (fd:=fd) (hs.args h5 h3 H R er e1 λvals s1 ρ1 R1 P1 q1=>?_)));refine⟨⟨R1.keep _ _ (G.kin _ _ ho),hfd⟩,?_⟩;rw[hK] at e;exact wpAny_call (HC hf e H.room.room R1 q1 (k.from P1))⟩
theorem Q4{M:Model}{o:Expr}{n:Str}{ap q:Pos}{xs:List Expr}{env:PySem.Env}{Q:Value→Shared→Prop}(hb:wW o=true)(hl:ap.endLine=q.line)(hn:jf xs=true)(hlen:xs.length<30)(h:wpAny M A (eval o env) (λov s1=>∀pl,wpAny M A (getMethod ov n pl) (λp s2=>wpAny M A (callWith q p.1 p.2 (backTo q (starEach xs env)) []) Q E s2) E s1) E s):
  wpAny M A (eval (.Call (.Attribute o n ap) xs [] q) env) Q E s:=by
 have hform:methodCallForm (xs.length+([]:List Keyword).length) (backTo q (starEach xs env)) (backToKw q (keywordEach [] env))=true:=by
  unfold methodCallForm;have e1:(backTo q (starEach xs env)).all (λx=>!x.1)=true:=by
   rw[List.all_eq_not_any_not];simp only[Bool.not_not];rw[jJ hn];rfl
  rw[e1];show(true&&(true&&decide (xs.length<30)))=true
  rw[qN hlen];rfl
 have he:eval (.Call (.Attribute o n ap) xs [] q) env=(do
   let ov ←attributeBase o n env (eval o env)
   standAt ap.atName
   methodCall o n ap q env ov (xs.length+([]:List Keyword).length) (backTo q (starEach xs env)) (backToKw q (keywordEach [] env))):=rfl
 rw[he,Y7 hb];refine qe (zS h (λva s1 h1=>qe (wk ?_)) λB B e=>e);unfold methodCall;rw[hform];have hpos:methodCallPos true o env ap q=pure q:=by
  unfold methodCallPos;rw[hl];simp
 refine qe (jX (zS (h1 _) (λp s2 h2=>?_) λB B e=>e));rw[hpos];exact qe (qp h2)
theorem SE.meth(G:GOk g)(W:Wired g C){call:Nat→List AV→St→R AV}(HC:yQ g d call)(hK:K.call=call)(hM:∀c m,K.meth c m=g.P.meths.lookup (c,m)){a:CE}{m:Nat}{es:CEs}(ha:SE g C d K a)(hs:SEs g C d K es):SE g C d K (.meth a m es):=⟨by
 intro x sc A s env asg X Z J bs ρ U U' E r Q hc H R er e k;obtain⟨o,n,ap,xs,q,rfl,h1,h2,h3,h4,h5,h6,h7⟩:=Bj hc;obtain⟨v,U1,e1,ea⟩:=qm e;obtain⟨i,hv,eb⟩:=w0 ea;obtain⟨ob,hi,ec⟩:=qo eb;obtain⟨c,as,ho,ed⟩:=vD ec;obtain⟨f,hf,ee⟩:=qo ed;obtain⟨hnone,ef⟩:=z7 ee;obtain⟨vs,U2,e2,eg⟩:=qm ef;have hx:=yT h1;rw[W.nm] at hx;rw[hM] at hf;rw[hK] at eg;rw[ho] at hi;refine Q4 h2 h3 h4 h5 (ha.ok h6 H R er e1 λva s1 ρ1 R1 P1 q1 pl=>?_);rw[hv] at q1;obtain⟨a,l,rfl,qa⟩:=q1.ref_;obtain⟨dx,sl,es',n',_,g1,g2,r1,hlen,hcc⟩:=(R1.objs qa hi).inst_;have ga:=W.ga c hcc;obtain⟨mf,mt⟩:=W.meth _ _ _ _ hf hx;have hsh:getL n es'=some Option.none:=(r1.get G.nd hx).2 (Q5.mp hnone);have hff:=W.fns _ _ _ hf;obtain⟨of,fd,hof,hfd⟩:=W.isfn f hff;refine method_fn (G.kin.keeps R1.keep) (YJ g1 g2) ga.1 ga.2.1 mf mt (by show shadowIn (some (PySem.W.dictOf es' n')) n=some false;unfold shadowIn;simp only[];rw[lookIn_dict,hsh];rfl) ?_;refine callWith_function (o:=of) (fd:=fd) (hs.args h7 h4 H R1 (er.post R P1) e2 λvals s2 ρ2 R2 P2 q2=>?_);refine⟨⟨R2.keep _ _ (G.kin _ _ hof),hfd⟩,?_⟩;exact wpAny_call (HC hff eg H.room.room R2 (.cons ((RA.ref (ρ:=ρ1) qa:RA ρ1 (Fz Z ρ1 U1) s1.heap _ _).post P2 λB h=>h.elim) q2) (k.from (P1.trans P2)))⟩
theorem SE.new(G:GOk g)(W:Wired g C){call:Nat→List AV→St→R AV}(HC:yQ g d call)(hK:K.call=call)(hI:∀c,K.init c=g.P.inits.lookup c){c:Nat}{es:CEs}(hs:SEs g C d K es):SE g C d K (.new c es):=⟨by
 intro x sc A s env asg X Z J bs ρ U U' E r Q hc H R er e k;obtain⟨y,p,xs,q,rfl,h1,h2,h3,h4,h5⟩:=qbw hc;obtain⟨vs,U1,e1,ea⟩:=qm e;obtain⟨o,ho,eb⟩:=qo ea;obtain⟨f,hf',ec⟩:=qo eb;obtain⟨hst',ed⟩:=z7 ec;have hst:U1.strict=false:=by simpa using hst'
 obtain⟨v0,U2,e2,ee⟩:=qm ed;obtain⟨hv0,ef⟩:=z7 ee;obtain⟨rfl,rfl⟩:=qx ef;have hf:K.init c=some (some f):=ho.trans (qz some hf');rw[hI] at hf;have hcc:(g.P.inits.lookup c).isSome=true:=by rw[hf];rfl
 obtain⟨hk,hd⟩:=gy h1;rw[←H.kind] at hk;have hff:=W.ifns _ _ hf;obtain⟨hi,hft⟩:=W.init _ _ hf;have ga:=W.ga c hcc;refine Call_ (Yg G H.ok R hk hd (W.gcls _ _ h2) (callWith_of (P:=λh=>g.K.In h) (by rw[jJ h3];rfl) (keeps_K (W.ckeep c hcc)) (hs.args h5 h3 H R er e1 λvals s1 ρ1 R1 P1 q1=>⟨G.kin.keeps R1.keep,?_⟩)));refine wpAny_call ?_;obtain⟨hh,gg,dd,tt,oo⟩:=s1;refine make_core (makes_of (G.kin.keeps R1.keep) ga.2.2) (looks_findIn (G.kin.keeps R1.keep) hi) (λself=>bind_fn (G.kin.keeps R1.keep) self hft) (.inl rfl) ?_;have k1:∀b o,hh.get? b=some o→((hh.push emptyDict).push (instObj (g.cls c) hh.objs.size)).get? b=some o:=λb o e=>jd _ (jd _ e);have hsz:(hh.push emptyDict).objs.size=hh.objs.size+1:=yq ..;have x1:((hh.push emptyDict).push (instObj (g.cls c) hh.objs.size)).get? (hh.objs.size+1)=some (instObj (g.cls c) hh.objs.size):=by rw[←hsz];exact jy _ rfl
 have x2:((hh.push emptyDict).push (instObj (g.cls c) hh.objs.size)).get? hh.objs.size=some (PySem.W.dictOf [] 0):=jd _ (jy _ rfl);have nw:=Rel.new (s:=⟨hh,gg,dd,tt,oo⟩) (s':=⟨(hh.push emptyDict).push (instObj (g.cls c) hh.objs.size),gg,dd,tt,oo⟩) (o':=.inst c []) (l:=[hh.objs.size+1,hh.objs.size]) R1 k1 (λb hb=>by
   simp only[q7,List.not_mem_nil,or_false] at hb;rcases hb with rfl | rfl
   ·exact⟨kr (wt _),⟨_,x1⟩⟩
   ·exact⟨wh _,⟨_,x2⟩⟩) (λx=>nomatch x) rfl rfl (.inst x1 x2 .nil (by simp) hcc)
 have hlen:=R1.len;have rself:RA (ρ1++[[hh.objs.size+1,hh.objs.size]]) (Fz Z (ρ1++[[hh.objs.size+1,hh.objs.size]]) { U1 with heap:=U1.heap++[.inst c []] }) ((hh.push emptyDict).push (instObj (g.cls c) hh.objs.size)) (.ref (hh.objs.size+1)) (.ref U1.heap.length):=by
  refine .ref (l:=[hh.objs.size]) ?_;rw[←hlen];simp
 rw[hK] at e2;have room:Room d (A.under (.builtin "type.__call__" ⟨.ref (g.cls c)::vals,[]⟩)):=by
  refine⟨?_,?_,H.room.handled,H.room.guards⟩
  ·show A.depth+1+2 * d+10<recursionLimit
   exact qP (jR (qz (· + 10) (Nat.add_right_comm A.depth 1 (2 * d)))) H.room.depth
  ·show A.units+1+20 * d+200<cLine
   exact qP (qu (jR (qz (· + 200) (Nat.add_right_comm A.units 1 (20 * d)))) (j3 (show 201≤210 by decide) (A.units+20 * d))) H.room.units
 refine codeAny_mono (HC (E:=λB B=>False) (Q:=λv s'=>v=Value.none∧Q (.ref (hh.objs.size+1)) s') hff e2 room nw.1 (.cons rself (RAs.post (X:=jZ) q1 nw.2 λB h=>False.elim h)) λval s' ρ' R2 P2 q2=>?_) λr s' hr=>?_
 ·refine⟨?_,k _ _ _ R2 (P1.trans (nw.2.trans P2)) (RA.post (X:=jZ) (s:=⟨(hh.push emptyDict).push (instObj (g.cls c) hh.objs.size),gg,dd,tt,oo⟩) rself P2 λB h=>False.elim h)⟩
  rw[Qs hv0] at q2;exact q2.none_
 ·rcases r with e | (v | _ | _ | _)
  ·exact hr.elim
  all_goals first | exact hr | exact hr.elim⟩
end
section
variable {g:Glb}{C:Cfg}{d:Nat}{K:Ctx}{A:Around}{s s1:Shared}{Z:Addr→Prop}{bs:List Nat}{ρ ρ1:qG}{U U1 U':St}{E:Value→Shared→Prop}
theorem qns(R:Rel g Z bs ρ U h0)(hs:(yz v||!U.strict)=true)(hne:bs≠[])(n:Nat):v.under n:=by
 rcases gR.mp hs with hs | hs
 ·exact kn hs n
 ·rw[R.strict hne] at hs;injection hs
theorem Yp(x:s.heap.PlainList a vs):∀b,Value.ref a = .ref b→∃o,s.heap.get? b=some o∧o.dict=Option.none:=λb e=>by
 injection e with e;subst e;obtain⟨n,e⟩:=x;exact⟨_,e,rfl⟩
noncomputable def qcv:BM→String
 | .append => "list.append"
 | .extend => "list.extend"
 | .get1 => "dict.get"
 | .get2 => "dict.get"
theorem qaz{k:BM}{a:Addr}{vs:Array Value}{pl:Sem Bool}{Q:Value×List Value→Shared→Prop}(x:s.heap.PlainList a vs)(hk:gj k=true)(h:Q (.builtin (qcv k),[.ref a]) s):wpAny (model g.prog g.w) A (getMethod (.ref a) (QB k) pl) Q E s:=by
 induction k with
 |append=>exact getMethod_builtin x.isList.typeIs PySem.F.plainAttrs_list PySem.F.slot_list_append PySem.F.type_list_append (Yp x) h
 |extend=>exact getMethod_builtin x.isList.typeIs PySem.F.plainAttrs_list PySem.F.slot_list_extend PySem.F.type_list_extend (Yp x) h
 |_=>injection hk
theorem Ke{k:BM}{a:Addr}{pl:Sem Bool}{Q:Value×List Value→Shared→Prop}(x:s.TypeIs (.ref a) "dict")(nd:∀b,Value.ref a = .ref b→∃o,s.heap.get? b=some o∧o.dict=Option.none)(hk:gj k=false)(h:Q (.builtin (qcv k),[.ref a]) s):wpAny (model g.prog g.w) A (getMethod (.ref a) (QB k) pl) Q E s:=by
 induction k with
 |get1=>exact getMethod_builtin x PySem.F.plainAttrs_dict PySem.F.slot_dict_get PySem.F.type_dict_get nd h
 |get2=>exact getMethod_builtin x PySem.F.plainAttrs_dict PySem.F.slot_dict_get PySem.F.type_dict_get nd h
 |_=>injection hk
inductive BmCase (U:St) (k:BM) (v:AV):Prop
 |l (i:Nat) (l:List AV) (e:v = .ref i) (h:U.heap[i]? = some (.list l)) (hk:gj k=true)
 |d (i:Nat) (o:AObj) (e:v = .ref i) (h:U.heap[i]? = some o) (ho:Hc o=true) (hk:gj k=false)
theorem qjy(hk:Kr k v U=true):BmCase U k v:=by
 induction v using Mine.AV.casesOn with
 |ref i =>
  have hk:(match U.heap[i]? with | some o=>bif gj k then Bk o else Hc o | none=>false)=true:=hk;cases ho:U.heap[i]? with
  |none=>rw[ho] at hk;injection hk
  |some o =>
   rw[ho] at hk;have hk:(bif gj k then Bk o else Hc o)=true:=hk;cases hm:gj k with
   |true =>
    rw[hm] at hk;induction o with
    |list l=>exact .l i l rfl ho hm
    |_=>injection hk
   |false=>rw[hm] at hk;exact .d i o rfl ho hk hm
 |_=>injection hk
open Classical in
theorem qeg{k:BM}{va:Value}{v:AV}{pl:Sem Bool}{Q:Value×List Value→Shared→Prop}(R:Rel g Z bs ρ U s.heap)(ra:RA ρ (Fz Z ρ U) s.heap va v)(hk:Kr k v U=true)(h:Q (.builtin (qcv k),[va]) s):
  wpAny (model g.prog g.w) A (getMethod va (QB k) pl) Q E s:=by
 induction qjy hk with
 |l i l e hl hm =>
  rw[e] at ra;obtain⟨a,m,rfl,q⟩:=ra.ref_;obtain⟨vs,_,x,_⟩:=(R.objs q hl).list_;exact qaz x hm h
 |d i o e ho hd hm =>
  rw[e] at ra;obtain⟨a,m,rfl,q⟩:=ra.ref_;induction o with
  |dictI kvs=>obtain⟨_,_,x,_⟩:=(R.objs q ho).dictI_;exact Ke x.typeIs x.mapOf.noDict hm h
  |dictT kvs=>obtain⟨_,_,x,_⟩:=(R.objs q ho).dictT_;exact Ke x.typeIs (dictOfH_noDict x) hm h
  |_=>injection hd
theorem Ys(h:xl v=some l):qR U v=some l:=by
 induction v using Mine.AV.casesOn with
 |pv p=>rcases p <;> exact h
 |ref=>injection h
 |tupR=>exact h
 |lstR=>exact h
theorem qfo(h:zj v=true):wd v=false:=by
 induction v using Mine.AV.casesOn with
 |pv p=>rcases p <;> first | rfl | injection h
 |ref=>rfl
 |tupR=>injection h
 |lstR=>rfl
open Classical in
theorem qjx{k:BM}{va:Value}{i:Nat}{vs:List AV}{vals:List Value}{r:AV}{Q:Value→Shared→Prop}(G:GOk g)(hu:A.units+60<cLine)(R:Rel g Z bs ρ U s.heap)(ra:RA ρ (Fz Z ρ U) s.heap va (.ref i))(rs:RAs ρ (Fz Z ρ U) s.heap vals vs)(e:Zr k (.ref i) vs U=some (r,U'))(KD:jq g Z bs ρ U s r U' Q):wpAny (model g.prog g.w) A (call (.builtin (qcv k)) (va::vals)) Q E s:=by
 obtain⟨o,ho,e1⟩:=qo (o:=U.heap[i]?) (k:=λo=>qcE k i o vs U) e;induction k with
 |append =>
  obtain⟨v,rfl,e2⟩:=zI e1;obtain⟨l,rfl,e3⟩:=KF e2;obtain⟨hc,e4⟩:=qI e3;obtain⟨rfl,rfl⟩:=qx e4;obtain⟨_,rfl,rv⟩:=rs.one_;exact qfG R ra rv ho (Or.imp id (λh=>by simpa using h) (gR.mp (qc hc).1)) (qr (qc hc).2) KD
 |extend =>
  obtain⟨v,rfl,e2⟩:=zI e1;obtain⟨l,rfl,e3⟩:=KF e2;obtain⟨r',hr,e3⟩:=qo e3;obtain⟨hc,e4⟩:=qI e3;obtain⟨rfl,rfl⟩:=qx e4;obtain⟨_,rfl,rv⟩:=rs.one_;have hc:=qc hc;have hd:=qc hc.2;exact qfI R ra rv (Ys hr) (qfo hd.2) ho (Or.imp id (λh=>by simpa using h) (gR.mp hc.1)) (qr hd.1) KD
 |get1 =>
  obtain⟨v,rfl,e2⟩:=zI e1;obtain⟨z,hz,e3⟩:=qo e2;obtain⟨rfl,rfl⟩:=qx e3;obtain⟨_,rfl,rv⟩:=rs.one_;obtain⟨a,l,rfl,q⟩:=ra.ref_;exact qeB (R.objs q ho) rv hu hz (R.noMods G q) λval tk qq=>KD.toks R tk qq
 |get2 =>
  obtain⟨v,w,rfl,e2⟩:=ZB e1;obtain⟨z,hz,e3⟩:=qo e2;obtain⟨rfl,rfl⟩:=qx e3;obtain⟨_,_,rfl,rv,rw⟩:=rs.two_;obtain⟨a,l,rfl,q⟩:=ra.ref_;exact qeC (R.objs q ho) rv rw hu hz (R.noMods G q) λval tk qq=>KD.toks R tk qq
theorem SE.bm(G:GOk g)(ha:SE g C d K a)(hs:SEs g C d K es):SE g C d K (.bm k a es):=⟨by
 intro x sc A s env asg X' Z J bs ρ U U' E r Q hc H R er e kk;obtain⟨o,ap,xs,q,rfl,h2,h3,h4,h5,h6,h7⟩:=qeX hc;obtain⟨v,U1,e1,ea⟩:=qm e;obtain⟨hok,eb⟩:=z7 ea;obtain⟨vs,U2,e2,ec⟩:=qm eb;obtain⟨i,hv,_⟩:=w0 (show vO v (λi=>ob (U2.heap[i]?) λo=>qcE k i o vs U2)=some (r,U') from ec);refine Q4 h2 h3 h4 h5 (ha.ok h6 H R er e1 λva s1 ρ1 R1 P1 q1 pl=>qeg R1 q1 hok ?_);refine callWith_builtin (jJ h4) (hs.args h7 h4 H R1 (er.post R P1) e2 λvals s2 ρ2 R2 P2 q2=>?_);rw[hv] at q1 ec;exact qjx G H.room.line R2 (RA.post (X:=jZ) q1 P2 λB h=>False.elim h) q2 ec (kk.from (P1.trans P2))⟩
end
noncomputable abbrev gC(g:Glb)(k:BI)(T:Around→Value→(Value→Shared→Prop)→(Value→Shared→Prop)→Shared→Prop):Prop :=
 ∀{A:Around}{s:Shared}{Z:Addr→Prop}{bs:List Nat}{ρ:qG}{U U':St}{E:Value→Shared→Prop}{va:Value}{v r:AV}{Q:Value→Shared→Prop},A.handled=none→A.units+60<cLine→Rel g Z bs ρ U s.heap→RA ρ (Fz Z ρ U) s.heap va v →
  yf k [v] U=some (r,U')→jq g Z bs ρ U s r U' Q→T A va Q E s
structure SetSpec (g:Glb):Prop where
 set:gC g .sortedSet λA va Q E s=>wpAny (model g.prog g.w) A (call (.type "set") [va]) (λsv s1=>wpAny (model g.prog g.w) A (call (.builtin "sorted") [sv]) Q E s1) E s
 list:gC g .list λA va Q E s=>wpAny (model g.prog g.w) A (call (.type "list") [va]) Q E s
 keys:gC g .sortedKeys λA va Q E s=>wpAny (model g.prog g.w) A (call (.builtin "sorted") [va]) Q E s
 dict:gC g .dict λA va Q E s=>wpAny (model g.prog g.w) A (call (.type "dict") [va]) Q E s
 lr:∀{A:Around}{s:Shared}{Z:Addr→Prop}{bs:List Nat}{ρ:qG}{U U':St}{E:Value→Shared→Prop}{va vb:Value}{v w r:AV}{Q:Value→Shared→Prop},A.handled=none→A.units+60<cLine→Rel g Z bs ρ U s.heap→RA ρ (Fz Z ρ U) s.heap va v→RA ρ (Fz Z ρ U) s.heap vb w →
  yf .listRange2 [v,w] U=some (r,U')→jq g Z bs ρ U s r U' Q→wpAny (model g.prog g.w) A (call (.type "range") [va,vb]) (λsv s1=>wpAny (model g.prog g.w) A (call (.type "list") [sv]) Q E s1) E s
section
variable {g:Glb}{C:Cfg}{d:Nat}{K:Ctx}{A:Around}{s s1:Shared}{Z:Addr→Prop}{bs:List Nat}{ρ ρ1:qG}{U U1 U':St}{E:Value→Shared→Prop}
theorem qgM:∀p∈wu,bootBuiltins p.1=some p.2∧p.1 ≠ "__name__" := by
 repeat' refine List.forall_mem_cons.mpr ⟨⟨by first | rfl | kernel_rfl | decide +kernel,by decide⟩,?_⟩
 exactλB h=>nomatch h
theorem qjz(h:(x,v)∈wu):bootBuiltins x=some v∧x ≠ "__name__" := qgM _ h
theorem y0(i:Nat)(h:wu[i]? = some (x,v)):(x,v)∈wu:=x6 h
theorem yx(G:GOk g)(W:Wired g C){env:PySem.Env}{sc:qv}{asg:Str→Bool}{X:Addr→Prop}{x:Str}{v:Value}{pos:Pos}{Q:Value→Shared→Prop}(H:Here g d A env sc asg X)(R:Rel g Z bs ρ U s.heap)(hx:jW sc x=true)(hb:(x,v)∈wu)(h:Q v s):
  wpAny (model g.prog g.w) A (eval (.Name x pos) env) Q E s:=by
 obtain⟨hk,hd⟩:=gy hx;rw[←H.kind] at hk;obtain⟨h1,h2⟩:=qjz hb;exact qda G H.ok R hk hd (W.built x v hb) h1 h2 h
noncomputable def Zk:BI→Value
 | .len=>.builtin "len"
 | .abs=>.builtin "abs"
 | .int=>.type "int"
 | .max1=>.builtin "max"
 | .max2=>.builtin "max"
 | .min1=>.builtin "min"
 | .min2=>.builtin "min"
 | .tuple=>.type "tuple"
 | .isBool=>.builtin "isinstance"
 | .sorted=>.builtin "sorted"
 | .sortedSet=>.builtin "sorted"
 | .isTuple=>.builtin "isinstance"
 | .sortedKeys=>.builtin "sorted"
 | .list=>.type "list"
 | .listRange2=>.type "list"
 | .dict=>.type "dict"
noncomputable def qoA:BI→Nat
 | .len=>0
 | .abs=>1
 | .int=>6
 | .max1=>2
 | .max2=>2
 | .min1=>3
 | .min2=>3
 | .tuple=>8
 | .isBool=>4
 | .sorted=>5
 | .sortedSet=>5
 | .isTuple=>4
 | .sortedKeys=>5
 | .list=>9
 | .listRange2=>9
 | .dict=>10
theorem qef(k:BI):(Z5 k,Zk k)∈wu:=y0 (qoA k) (by induction k <;> rfl)
noncomputable def BZ:BI→Bool
 | .isBool=>false
 | .sortedSet=>false
 | .isTuple=>false
 | .listRange2=>false
 | .sortedKeys=>true
 | .list=>true
 | .dict=>true
 | .len=>true
 | .abs=>true
 | .int=>true
 | .max1=>true
 | .max2=>true
 | .min1=>true
 | .min2=>true
 | .tuple=>true
 | .sorted=>true
theorem qgI(S:SetSpec g)(hu:A.units+60<cLine){k:BI}{vs:List AV}{vals:List Value}{r:AV}{Q:Value→Shared→Prop}(hk:BZ k=true)(hh:A.handled=none)(R:Rel g Z bs ρ U s.heap)(rs:RAs ρ (Fz Z ρ U) s.heap vals vs)(e:yf k vs U=some (r,U'))(KD:jq g Z bs ρ U s r U' Q):wpAny (model g.prog g.w) A (call (Zk k) vals) Q E s:=by
 have one:∀{v},vs=[v]→∃va,vals=[va]∧RA ρ (Fz Z ρ U) s.heap va v:=λe=>by
  rw[e] at rs;obtain⟨va,h,ra⟩:=rs.one_;exact⟨va,h,ra⟩
 induction k with
 |len =>
  obtain⟨v,hv,e1⟩:=zI e;obtain⟨va,rfl,ra⟩:=one hv;obtain⟨l,h1,e2⟩:=qo e1;obtain⟨h2,e3⟩:=qI e2;obtain⟨rfl,rfl⟩:=qx e3;exact qmM R ra h1 h2 KD
 |abs =>
  obtain⟨v,hv,e1⟩:=zI e;obtain⟨va,rfl,ra⟩:=one hv;obtain⟨a,h1,e2⟩:=jF e1;obtain⟨rfl,rfl⟩:=qx e2;exact qmI R (h1▸ra) KD
 |int =>
  obtain⟨v,hv,e1⟩:=zI e;obtain⟨va,rfl,ra⟩:=one hv;obtain⟨a,h1,e2⟩:=qo e1;obtain⟨rfl,rfl⟩:=qx e2;exact qmL R ra h1 KD
 |max1 =>
  obtain⟨v,hv,e1⟩:=zI e;obtain⟨va,rfl,ra⟩:=one hv;obtain⟨l,h1,e2⟩:=qo e1;obtain⟨is,h2,e3⟩:=qo e2;obtain⟨a,r,h3,e4⟩:=Ki e3;obtain⟨rfl,rfl⟩:=qx e4;exact qku hh R ra h1 (h3▸h2) KD
 |min1 =>
  obtain⟨v,hv,e1⟩:=zI e;obtain⟨va,rfl,ra⟩:=one hv;obtain⟨l,h1,e2⟩:=qo e1;obtain⟨is,h2,e3⟩:=qo e2;obtain⟨a,r,h3,e4⟩:=Ki e3;obtain⟨rfl,rfl⟩:=qx e4;exact qkw hh R ra h1 (h3▸h2) KD
 |max2 =>
  obtain⟨v,w,rfl,e1⟩:=ZB e;obtain⟨va,vb,rfl,ra,rb⟩:=rs.two_;obtain⟨a,h1,e2⟩:=jF e1;obtain⟨b,h2,e3⟩:=jF e2;obtain⟨rfl,rfl⟩:=qx e3;exact qkv hh R (h1▸ra) (h2▸rb) KD
 |min2 =>
  obtain⟨v,w,rfl,e1⟩:=ZB e;obtain⟨va,vb,rfl,ra,rb⟩:=rs.two_;obtain⟨a,h1,e2⟩:=jF e1;obtain⟨b,h2,e3⟩:=jF e2;obtain⟨rfl,rfl⟩:=qx e3;exact qkx hh R (h1▸ra) (h2▸rb) KD
 |tuple =>
  obtain⟨v,hv,e1⟩:=zI e;obtain⟨va,rfl,ra⟩:=one hv;obtain⟨l,h1,e2⟩:=qo e1;obtain⟨h2,e3⟩:=qI e2;obtain⟨rfl,rfl⟩:=qx e3;exact qhI R ra (kq h1).2 (kq h1).1 h2 KD
 |sorted =>
  obtain⟨v,hv,e1⟩:=zI e;obtain⟨va,rfl,ra⟩:=one hv;obtain⟨l,h1,e2⟩:=qo e1;obtain⟨r',h2,e3⟩:=qo e2;obtain⟨rfl,rfl⟩:=qx e3;exact qfK R ra (kq h1).2 (kq h1).1 h2 KD
 |list =>
  obtain⟨v,hv,e1⟩:=zI e;obtain⟨va,rfl,ra⟩:=one hv;exact S.list hh hu R ra (hv▸e) KD
 |sortedKeys =>
  obtain⟨v,hv,e1⟩:=zI e;obtain⟨va,rfl,ra⟩:=one hv;exact S.keys hh hu R ra (hv▸e) KD
 |dict =>
  obtain⟨v,hv,e1⟩:=zI e;obtain⟨va,rfl,ra⟩:=one hv;exact S.dict hh hu R ra (hv▸e) KD
 |isBool=>injection hk
 |isTuple=>injection hk
 |listRange2=>injection hk
 |sortedSet=>injection hk
theorem qcu(k:BI):(∃id,Zk k = .builtin id)∨∃T,Zk k = .type T:=by induction k <;> first | exact .inl ⟨_,rfl⟩ | exact .inr ⟨_,rfl⟩
theorem qct{k:BI}{pos:Pos}{args:List (Bool×Sem Value)}{Q:Value→Shared→Prop}(hp:args.any (·.1)=false)(h:wpAny (model g.prog g.w) A (evalArgs (Zk k) true args []) (λa s1=>wpAny (model g.prog g.w) A (call (Zk k) a.pos a.kw) Q E s1) E s):
  wpAny (model g.prog g.w) A (callWith pos (Zk k) [] args []) Q E s:=by
 rcases qcu k with⟨id,e⟩ | ⟨T,e⟩
 ·rw[e] at h ⊢;exact callWith_builtin hp h
 ·rw[e] at h ⊢;exact PySem.callWith_type hp h
theorem Kx(hk:BZ k=true)(h:yy k xs sc=some ys):ys=xs:=by
 induction k <;> first | exact(qA h).symm | injection hk
noncomputable def w7(g:Glb)(C:Cfg)(d:Nat)(K:Ctx):CEs→Prop
 | .nil=>True
 | .cons a r=>SE g C d K a∧ST g C d K a∧w7 g C d K r
theorem w7.es:∀{es:CEs},w7 g C d K es→SEs g C d K es
 | .nil,_=>.nil
 | .cons a r,h=>.cons h.1 (w7.es h.2.2)
theorem w7.b:∀{es:CEs},w7 g C d K es→SB g C d K i es
 | .nil,_=>.nil
 | .cons a .nil,h=>.one h.1 h.2.1
 | .cons a (.cons b r),h=>.cons h.1 h.2.1 (w7.b h.2.2)
theorem Kf(G:GOk g)(W:Wired g C){env:PySem.Env}{sc:qv}{asg:Str→Bool}{X:Addr→Prop}{a:CE}(ha:SE g C d K a){x:Expr}{t:Str}{T:String}{tp q:Pos}{J:Env}{Q:Value→Shared→Prop}{v:AV}(hc:qC C a sc x=true)(hn:jf [x]=true)(H:Here g d A env sc asg X)(R:Rel g Z bs ρ U s.heap)(er:ER g Z ρ U s.heap env J)(e:qt K J a U=some (v,U1))(ht:jW sc t=true)(hT:(t,.type T)∈wu)(k:∀va s1 ρ1,Rel g Z bs ρ1 U1 s1.heap→Post jZ ρ U s ρ1 U1 s1→RA ρ1 (Fz Z ρ1 U1) s1.heap va v→wpAny (model g.prog g.w) A (call (.builtin "isinstance") [va,.type T]) Q E s1):
  wpAny (model g.prog g.w) A (callWith q (.builtin "isinstance") [] (backTo q (starEach [x,.Name t tp] env)) []) Q E s:=by
 have hn2:jf [x,.Name t tp]=true:=by rcases x <;> first | rfl | exact(q9 hn).elim
 refine callWith_builtin (jJ hn2) ?_;obtain⟨h1,h2⟩:=wT (env:=env) hn2;rw[h1];refine evalArgs_plain (f:=.builtin "isinstance") (x:=eval x env) (rest:=backTo q (starEach [.Name t tp] env)) ?_;have:=wpAny_items_cons (M:=model g.prog g.w) (A:=A) (E:=E) (s:=s) (env:=env) (pos:=q) (e:=x) (rest:=[.Name t tp]) (Q:=λvs s'=>wpAny (model g.prog g.w) A (call (.builtin "isinstance") ([]++vs)) Q E s')
  (ha.ok hc H R er e λva s1 ρ1 R1 P1 q1=>wpAny_items_cons (yx G W H R1 ht hT (wpAny_items_nil (k va s1 ρ1 R1 P1 q1))) rfl) h1
 rw[h1] at this;exact this
inductive FirstIs (t:Str) (sc:qv) (xs ys:List Expr):Prop
 |mk (y:Expr) (tp:Pos) (h1:xs=[y,.Name t tp]) (h2:jW sc t=true) (h3:ys=[y])
inductive FirstIn (t:Str) (sc:qv) (xs ys:List Expr):Prop
 |mk (tp q:Pos) (h1:xs=[.Call (.Name t tp) ys [] q]) (h2:jW sc t=true)
theorem D5(h:yy .isBool xs sc=some ys):FirstIs "bool" sc xs ys:=by
 have h:(match X6 "bool" sc xs with | some y=>some [y.1.1] | none=>none)=some ys:=h;cases e:X6 "bool" sc xs with
 |none=>rw[e] at h;injection h
 |some y=>rw[e] at h;exact⟨y.1.1,y.1.2,y.2.1,y.2.2,(qA h).symm⟩
theorem Xb(h:yy .sortedSet xs sc=some ys):FirstIn "set" sc xs ys:=by
 have h:(match X5 "set" sc xs with | some y=>some y.1.1 | none=>none)=some ys:=h;cases e:X5 "set" sc xs with
 |none=>rw[e] at h;injection h
 |some y=>rw[e] at h;exact⟨y.1.2.1,y.1.2.2,qA h▸y.2.1,y.2.2⟩
theorem Dl(h:yy .isTuple xs sc=some ys):FirstIs "tuple" sc xs ys:=by
 have h:(match X6 "tuple" sc xs with | some y=>some [y.1.1] | none=>none)=some ys:=h;cases e:X6 "tuple" sc xs with
 |none=>rw[e] at h;injection h
 |some y=>rw[e] at h;exact⟨y.1.1,y.1.2,y.2.1,y.2.2,(qA h).symm⟩
theorem qha(h:yy .listRange2 xs sc=some ys):FirstIn "range" sc xs ys:=by
 have h:(match X5 "range" sc xs with | some y=>some y.1.1 | none=>none)=some ys:=h;cases e:X5 "range" sc xs with
 |none=>rw[e] at h;injection h
 |some y=>rw[e] at h;exact⟨y.1.2.1,y.1.2.2,qA h▸y.2.1,y.2.2⟩
theorem w7.one{es:CEs}{J:Env}{sc:qv}{y:Expr}{vs:List AV}(hc:jn C es sc [y]=true)(hs:w7 g C d K es)(e:zf K J es U=some (vs,U1)):∃a v,qC C a sc y=true∧SE g C d K a∧qt K J a U=some (v,U1)∧vs=[v]:=by
 induction es using Mine.CEs.casesOn with
 |nil=>exact(q9 hc).elim
 |cons a r =>
  have hc:=qc hc;induction r using Mine.CEs.casesOn with
  |cons b r=>exact(q9 hc.2).elim
  |nil =>
   obtain⟨v,U2,e2,e3⟩:=qm e;obtain⟨h1,h2⟩:=qx e3;exact⟨a,v,hc.1,hs.1,h2▸e2,h1.symm⟩
theorem SE.bi(G:GOk g)(W:Wired g C)(S:SetSpec g)(hs:w7 g C d K es):SE g C d K (.bi k es):=⟨by
 intro x sc A s env asg X' Z J bs ρ U U' E r Q hc H R er e kk;obtain⟨p,xs,q,ys,rfl,h1,h2,h3,h4,h5⟩:=qeW hc;obtain⟨vs,U1,e1,ea⟩:=qm e;refine Call_ (yx G W H R h1 (qef k) ?_);cases hk:BZ k with
 |true =>
  have hx:=Kx hk h3;exact qct (jJ h2) (hs.es.args (hx▸h5) h2 H R er e1 λvals s1 ρ1 R1 P1 q1=>qgI S H.room.line hk H.room.handled R1 q1 ea (kk.from P1))
 |false =>
  induction k with
  |isBool =>
   refine wZ λGo hGo=>?_;obtain⟨y,tp,rfl,ht,rfl⟩:=D5 h3;obtain⟨a,v,c1,c2,c3,rfl⟩:=w7.one h5 hs e1;refine hGo ?_;refine Kf (T := "bool") G W c2 c1 h4 H R er c3 ht (y0 14 rfl) λva s1 ρ1 R1 P1 q1=>?_;refine wZ λGo hGo=>?_;obtain⟨b,hb,e2⟩:=qo (o:=Hb v) (k:=λb=>some (AV.pv (.bool b),U1)) ea;obtain⟨rfl,rfl⟩:=qx e2;refine hGo ?_;exact qfJ R1 q1 hb (kk.from P1)
  |sortedSet =>
   obtain⟨tp,tq,rfl,ht⟩:=Xb h3;refine callWith_builtin (jJ h2) ?_;obtain⟨g1,g2⟩:=wT (env:=env) h2;rw[g1];refine evalArgs_plain (f:=.builtin "sorted") (x:=eval _ env) (rest:=backTo q (starEach [] env)) ?_;have:=wpAny_items_cons (M:=model g.prog g.w) (A:=A) (E:=E) (s:=s) (env:=env) (pos:=q) (e:=.Call (.Name "set" tp) ys [] tq) (rest:=[]) (Q:=λvs s'=>wpAny (model g.prog g.w) A (PySem.call (.builtin "sorted") ([]++vs)) Q E s')
    (Call_ (yx G W H R ht (v:=.type "set") (y0 11 rfl) (PySem.callWith_type (jJ h4) (hs.es.args h5 h4 H R er e1 λvals s1 ρ1 R1 P1 q1=>by
     obtain⟨v,rfl,_⟩:=zI ea;obtain⟨va,rfl,ra⟩:=q1.one_;exact zS (S.set H.room.handled H.room.line R1 ra ea (kk.from P1)) (λsv s2 h2=>wpAny_items_nil h2) λB B x=>x)))) g1
   rw[g1] at this;exact this
  |isTuple =>
   refine wZ λGo hGo=>?_;obtain⟨y,tp,rfl,ht,rfl⟩:=Dl h3;obtain⟨a,v,c1,c2,c3,rfl⟩:=w7.one h5 hs e1;refine hGo ?_;refine Kf (T := "tuple") G W c2 c1 h4 H R er c3 ht (y0 8 rfl) λva s1 ρ1 R1 P1 q1=>?_;refine wZ λGo hGo=>?_;obtain⟨b,hb,e2⟩:=qo (o:=Bl v) (k:=λb=>some (AV.pv (.bool b),U1)) ea;obtain⟨rfl,rfl⟩:=qx e2;refine hGo ?_;exact qdk R1 q1 hb (kk.from P1)
  |listRange2 =>
   obtain⟨tp,tq,rfl,ht⟩:=qha h3;refine PySem.callWith_type (jJ h2) ?_;obtain⟨g1,g2⟩:=wT (env:=env) h2;rw[g1];refine evalArgs_plain (f:=.type "list") (x:=eval _ env) (rest:=backTo q (starEach [] env)) ?_;have:=wpAny_items_cons (M:=model g.prog g.w) (A:=A) (E:=E) (s:=s) (env:=env) (pos:=q) (e:=.Call (.Name "range" tp) ys [] tq) (rest:=[]) (Q:=λvs s'=>wpAny (model g.prog g.w) A (PySem.call (.type "list") ([]++vs)) Q E s')
    (Call_ (yx G W H R ht (v:=.type "range") (y0 12 rfl) (PySem.callWith_type (jJ h4) (hs.es.args h5 h4 H R er e1 λvals s1 ρ1 R1 P1 q1=>by
     obtain⟨v,w,rfl,_⟩:=ZB ea;obtain⟨va,vb,rfl,ra,rb⟩:=q1.two_;exact zS (S.lr H.room.handled H.room.line R1 ra rb ea (kk.from P1)) (λsv s2 h2=>wpAny_items_nil h2) λB B x=>x)))) g1
   rw[g1] at this;exact this
  |_=>injection hk⟩
end
section
variable {g:Glb}{A:Around}{s:Shared}{Z:Addr→Prop}{bs:List Nat}{ρ:qG}{U U':St}{E:Value→Shared→Prop}
theorem qfk:gC g .list λA va Q E s=>wpAny (model g.prog g.w) A (call (.type "list") [va]) Q E s:=by
 intro A s Z bs ρ U U' E va v r Q hh hu R ra e K;have e:(ob (xl v) λl=>if (wd v&&decide (l.length≤jl))=true then some (mkLst l,U) else none)=some (r,U'):=e;obtain⟨l,h1,e2⟩:=qo e;obtain⟨hc,e3⟩:=qI e2;have hc:=qc hc;obtain⟨rfl,rfl⟩:=qx e3;obtain⟨a,vs,rfl,rs,hd⟩:=zH R ra (Ys h1);rcases hd with⟨_,o,ho,hcls,n,hdat⟩ | ⟨_,ht,_⟩
 ·refine call_list_seq a (.inr rfl) ho hcls hdat (λh' c' keep hnew=>?_) (by rw[ze,rs.length];exact qu (qr hc.2) wG)
  exact K _ { s with heap:=h' } ρ (R.grow keep) (Post.grow keep rfl rfl) (.mkLst (vs:=vs) (R.notFootNew (wh _)) ⟨_,hnew,rfl,_,rfl⟩ (rs.mono (λB B B e=>e) λb o e f B=>⟨keep b o e,f⟩))
 ·rw[hc.1] at ht;injection ht
theorem qkI{F:Addr→Prop}{h:Heap}(n:Nat)(m:Int)(vs:List Value)(hl:vs.length=n)(H:∀(j:Nat) (v:Value),vs[j]? = some v→∃t,v = .int (m+(j:Int)) t):RPs F h vs (qj ((List.range' 0 n).map λ(k:Nat)=>m+(k:Int))):=by
 subst hl;induction vs generalizing m with
 |nil=>exact .nil
 |cons v vs ih =>
  obtain⟨t,ht⟩:=H 0 v rfl;have ih:=ih (m+1) λj w hw=>by
   obtain⟨t,e⟩:=H (j+1) w hw;exact⟨t,e.trans (by rw[Int.natCast_add,Int.add_assoc,Int.add_comm (j:Int)];rfl)⟩
  have e2:(List.range' 0 (vs.length+1)).map (λ(k:Nat)=>m+(k:Int))=(m+((0:Nat):Int))::(List.range' 0 vs.length).map λ(k:Nat)=>(m+1)+(k:Int):=by
   rw[List.range'_succ,List.map_cons,List.range'_eq_map_range,List.range'_eq_map_range,vJ,vJ];congr 1
   refine List.map_congr_left λk B=>?_;show m+((0+1+k:Nat):Int)=m+1+((0+k:Nat):Int)
   rw[Nat.zero_add,Nat.zero_add,Int.natCast_add,←Int.add_assoc];rfl
  rw[yp,e2,ht];exact .cons (.int _ _) ih
theorem qki{A:Around}{s:Shared}{Z:Addr→Prop}{bs:List Nat}{ρ:qG}{U U':St}{E:Value→Shared→Prop}{va vb:Value}{v w r:AV}{Q:Value→Shared→Prop}(hh:A.handled=none)(hu:A.units+60<cLine)(R:Rel g Z bs ρ U s.heap)(ra:RA ρ (Fz Z ρ U) s.heap va v)(rb:RA ρ (Fz Z ρ U) s.heap vb w)(e:yf .listRange2 [v,w] U=some (r,U'))(K:jq g Z bs ρ U s r U' Q):wpAny (model g.prog g.w) A (call (.type "range") [va,vb]) (λsv s1=>wpAny (model g.prog g.w) A (call (.type "list") [sv]) Q E s1) E s:=by
 have e:(onInt v λa=>onInt w λb=>if (yI a&&yI b)=true then some (AV.pv (.lst (qj (jN a b))),U) else none)=some (r,U'):=e;obtain⟨m,hm,e2⟩:=jF e;obtain⟨n,hn,e3⟩:=jF e2;obtain⟨hc,e4⟩:=qI e3;have hc:=qc hc;obtain⟨rfl,rfl⟩:=qx e4;obtain⟨t,rfl⟩:=(hm▸ra).int_;obtain⟨u,rfl⟩:=(hn▸rb).int_;have ca:=qc (show(decide (-1000≤m)&&decide (m≤1000))=true from hc.1);have cb:=qc (show(decide (-1000≤n)&&decide (n≤1000))=true from hc.2);have a1:=qr ca.1;have a2:=qr ca.2;have b1:=qr cb.1;have b2:=qr cb.2;have keep0:∀b o,s.heap.get? b=some o→(s.heap.push { cls:=.type "range",data:=.fields #[.int m t,.int n u,.int 1 s.toks] }).get? b=some o:=λb o e=>jd _ e;refine call_range_2 (call_list_range hh (IsRange.new _ _ _ _ _ _ _) (small_one (zB (by decide) a1) (vG a2 (by decide)) (zB (by decide) b1) (vG b2 (by decide))) (qfX m n) (qu (Int.toNat_le.mpr (Int.sub_le_sub b2 a1):(n - m).toNat≤2000) (by decide)) λh' tk acc c' keep hnew hit=>?_);have kp:∀b o,s.heap.get? b=some o→h'.get? b=some o:=λb o e=>keep b o (keep0 b o e);have nf:Fz Z ρ U (s.heap.push { cls:=.type "range",data:=.fields #[.int m t,.int n u,.int 1 s.toks] }).objs.size:=R.notFootNew (kr (size_push' _ _));refine K _ { s with heap:=h',toks:=tk } ρ (R.grow kp) (Post.grow kp rfl rfl) (.pv (.lst (vs:=acc.toList) nf ⟨_,hnew,rfl,c',rfl⟩ ?_));have:=qkI (F:=Fz Z ρ U) (h:=h') (n - m).toNat m acc.toList (by rw[ym,hit.1];rfl) (λj x hx=>by
  obtain⟨t,e⟩:=hit.2 j x (by rw[←hx];simp);exact⟨t,e.trans (by rw[Int.mul_one])⟩)
 rw[←List.range_eq_range'] at this;exact this
theorem Bb{F:Addr→Prop}{h:Heap}{vs:List Value}{ns:List Int}(hI:IntsAre vs ns):RPs F h vs (qj ns):=by
 induction hI with
 |nil=>exact .nil
 |cons n t _ ih=>exact .cons (.int _ _) ih
theorem qht{κ:List (Int×AV)}{ρ:qG}{F:Addr→Prop}{h:Heap}{P:Int→Value→Bool}(hP:∀k v,P k v=true→∃t,v = .int k t):∀{kv:List (Int×Value)}{kvs:List (Int×AV)}{vs:List Value},RKV ρ F h kv kvs→vs.length=kv.length→(∀(j:Nat) (v:Value),vs[j]? = some v→∃k x,kv[j]? = some (k,x)∧P k v=true)→IntsAre vs (kvs.map (·.1)):=by
 intro kv kvs vs r;induction r generalizing vs with
 |nil=>intro hl _;rw[List.eq_nil_of_length_eq_zero hl];exact .nil
 | @cons k v x kv kvs _ _ ih =>
  intro hl H;induction vs using List.casesOn with
  |nil=>cases hl
  |cons u us =>
   obtain⟨k',x',h1,h2⟩:=H 0 u rfl;injection h1 with h1;injection h1 with h1 h11q;subst h1;subst h11q;obtain⟨t,rfl⟩:=hP _ _ h2;exact .cons _ _ (ih (Nat.succ.inj hl) λj v hv=>H (j+1) v hv)
theorem qdm{l m:List Int}(h:m.Perm l)(hl:l.length≤1):m=l:=by
 rcases Xj hl with rfl | ⟨a,rfl⟩
 ·exact List.perm_nil.mp h
 ·exact List.perm_singleton.mp h
theorem qff(G:GOk g):gC g .sortedKeys λA va Q E s=>wpAny (model g.prog g.w) A (call (.builtin "sorted") [va]) Q E s:=by
 intro A s Z bs ρ U U' E va v r Q hh hu R ra e K;have e:(vO v λi=>ob (U.heap[i]?) λo=>ob (qfF o) λl=>some (AV.pv (.lst (qj l)),U))=some (r,U'):=e;obtain⟨i,hv,e1⟩:=w0 e;obtain⟨o,hi,e2⟩:=qo e1;obtain⟨l,hl,e3⟩:=qo e2;obtain⟨rfl,rfl⟩:=qx e3;rw[hv] at ra;induction o with
 |dictI kvs =>
  obtain⟨h1,e4⟩:=qI (p:=kvs.length≤1) (k:=some (kvs.map λx:Int×AV=>x.1)) (r:=l) hl;obtain rfl:(kvs.map λx:Int×AV=>x.1)=l:=qA e4;obtain⟨a,m,rfl,q⟩:=ra.ref_;obtain⟨kv0,rfl,x,y⟩:=(R.objs q hi).dictI_;obtain⟨ep,hat⟩:=x.dictAt;have hl0:=y.length;have hsz:kv0.length≤sizeLine:=by rw[hl0,yO];exact qu h1 (by decide)
  refine Calls.call_function_entry kind_sorted plain_sorted entry_sorted (args_sorted1 _) ?_;unfold Builtin.«sorted»;refine qe (m:=checkCount "sorted" 1 1 _) (qp ?_);refine qe (kdu_collect (kdl_dict (knd:=intKind g.prog g.w) (kvs:=kv0) (ep:=ep) (R.noMods G q)) hh hat hsz λh' tk acc hk hacc=>?_);have hal:acc.toList.length=kv0.length:=by rw[ym];exact hacc.1
  have hI:IntsAre acc.toList (kvs.map (·.1)):=qht (κ:=kvs) (P:=λk v=>(intKind g.prog g.w).is k v) (λk v h=>Value.isInt_shape h) y hal λj v hj=>hacc.2 j v (by rw[←Array.getElem?_toList];exact hj);refine qe (wpAny_newList ?_ (by rw[hal];exact hsz));have hoL:(h'.push (seqObj "list" acc.toList.toArray 0)).get? h'.objs.size=some (seqObj "list" acc.toList.toArray 0):=jy _ rfl;refine qe (jX (y7 slot_list_sort ⟨_,hoL,rfl⟩ entry_list_sort (list_sort_tree hoL hI (by rw[hal,hl0];exact qP h1 (by decide)) λout ns' a1 a2 a3=>⟨_,rfl,?_⟩) (args_list_sort _)));refine qp ⟨_,rfl,?_⟩;have hne:∀b o,s.heap.get? b=some o→b≠h'.objs.size:=λb o e=>wq (zq (hk b o e));have keep:∀b o,s.heap.get? b=some o→(sortedHeap (h'.push (seqObj "list" acc.toList.toArray 0)) h'.objs.size acc.toList out).get? b=some o:=λb o e=>Q2 (hne b o e) (jd _ (hk b o e));have nf:Fz Z ρ U h'.objs.size:=R.notFootNew λ⟨o,e⟩=>hne _ o e rfl;obtain⟨e',hat'⟩:=sortedHeap_at (out:=out) hoL;have hns:ns'=kvs.map (·.1):=qdm a2 (by rw[qE];exact h1);exact K.grown R tk keep (.pv (.lst (vs:=out.toList) nf ⟨_,hat',rfl,_,rfl⟩ (hns▸Bb a1)))
 |_=>injection hl
end
theorem qdM:typeLookup (.type "tuple") "keys" = pure none:=by rw[typeLookup_type,builtinLookup_eq_fast];kernel_rfl
theorem qfe{prog:Program}{w:World}{A:Around}{E:Value→Shared→Prop}{s:Shared}{a:Addr}{o:Obj}{xs:Array Value}{k:Nat}{Q:Option Value→Shared→Prop}(hx:s.heap.get? a=some o)(hc:o.cls = .type "tuple")(hdat:o.data = .seq xs k)(hd:o.dict=none)(hA:A.handled=none)(h:∀h' tk,(∀b q,s.heap.get? b=some q→h'.get? b=some q)→Q none { s with heap:=h',toks:=tk }):
  wpAny (model prog w) A (getAttr? (.ref a) "keys") Q E s:=by
 obtain⟨c,dct,dat,sl⟩:=o;simp only at hc hdat hd;subst hc hdat hd;obtain⟨hp,g,d,tk,os⟩:=s;have hT:∀tk',(⟨hp,g,d,tk',os⟩:Shared).TypeIs (.ref a) "tuple" :=λB=>⟨_,hx,rfl⟩
 have f1:=sub_AttributeError;have f3:=F.slot_tuple_getattribute.lookup;have f4:=F.slot_tuple_getattribute.bind (.ref a);have f5:=am_tuple_getattr_none;unfold getAttr? getAttrBy? getAttrBy;repeat (any_goals (first | assumption | exact hT _ | ((with_reducible show wpAny _ _ (call (Value.builtin "tuple.__getattribute__") _ _) _ _ _);refine call_meets F.slot_tuple_getattribute (hT _) am_entry_tuple_getattribute (F.args_tuple_getattribute_2 _ _) (meets_getattribute_miss_tuple a xs k sl "keys" _ qdM (by decide) (by size_fits)) ⟨hx,hA,λh' tk' e hx'=>?_⟩) | wp_step))
 obtain⟨t',u',he⟩:=hx'.there;have hE:(⟨h',g,d,tk',os⟩:Shared).TypeIs (.ref e) "AttributeError" := ⟨_,he,rfl⟩;show wpAny _ _ (getattributeRaised _ _ _ _ _ _ _) _ _ _
 unfold getattributeRaised;repeat (any_goals (first | assumption | wp_step))
 exact h _ _ hx'.keeps
theorem Qe:entryFor table "dict.update.loop" = some Builtin.«dict.update.loop» := entryFor_of_tree (by kernel_rfl)
theorem yY:plainId "dict.update.loop" = true:=by decide +kernel
section
variable {prog:Program}{w:World}{A:Around}{E:Value→Shared→Prop}{s:Shared}
theorem qcC{it t b d:Addr}{kk:Int}{tk:Tok}{u v:Value}{R:Result→Shared→Prop}(hh:A.handled=none)(hit:s.heap.IsTupleIter it t 0)(ht:s.heap.IsTuple t #[.ref b])(hb:s.heap.IsTuple b #[.int kk tk,v])(hd:s.heap.DictOf (intKind prog w) d [])(hne:it≠d∧it≠t∧it≠b∧d≠t∧d≠b)(hR:∀h' tk',h'.DictOf (intKind prog w) d [(kk,v)]→(∀c o,c≠it→c≠d→s.heap.get? c=some o→h'.get? c=some o)→R (.ok (.ret .none)) { s with heap:=h',toks:=tk' }):
  codeAny (model prog w) A (.builtin "dict.update.loop" ⟨[.ref d,.ref it,.int 0 0,.none],[]⟩) R s:=by
 refine codeAny_builtin Qe ?_;rw[Around.under_plainId yY _];unfold Builtin.«dict.update.loop»;refine qe (wpAny_pyNext_tuple_item hit ht (x:=.ref b) rfl λh₁ hit₁ hs₁=>?_);have hb₁:h₁.IsTuple b #[.int kk tk,v]:=by obtain⟨o,e,r⟩:=hb;exact⟨o,hs₁.extBut _ _ hne.2.2.1.symm e,r⟩
 have ht₁:h₁.IsTuple t #[.ref b]:=by obtain⟨o,e,r⟩:=ht;exact⟨o,hs₁.extBut _ _ hne.2.1.symm e,r⟩
 have hd₁:h₁.DictOf (intKind prog w) d []:=by obtain⟨o,es,ep,e,r⟩:=hd;exact⟨o,es,ep,hs₁.extBut _ _ hne.1.symm e,r⟩
 have pairs:wpAny (model prog w) A.in1 (Builtin.Dict.pairItems (.ref b)) (λl s'=>l=[.int kk tk,v]∧s' = { s with heap:=h₁ }) (λB B=>False) { s with heap:=h₁ }:=by
  obtain⟨o,ho,hc,n,hdt⟩:=hb₁;unfold Builtin.Dict.pairItems;refine qe (wpAny_typeOf ⟨o,ho,hc⟩ ?_);rw[if_pos (by rfl)];exact qe (vH ho hdt (qp ⟨rfl,rfl⟩))
 refine qe (jX (qe (wpAny_tryCatch (zS pairs (λl s' e=>?_) λB B h=>h.elim))));obtain⟨rfl,rfl⟩:=e;refine jX (wpAny_dictSet_pairs (knd:=intKind prog w) (KA kk tk) hd₁ (λh₂ hd₂ hs₂=>?_) (by decide));refine qp ⟨plainId_quiet yY _,codeAny_builtin Qe ?_⟩;rw[Around.under_plainId yY _];unfold Builtin.«dict.update.loop»;have hit₂:h₂.IsTupleIter it t 1:=by obtain⟨o,e,r⟩:=hit₁;exact⟨o,hs₂.extBut _ _ hne.1 e,r⟩
 have ht₂:h₂.IsTuple t #[.ref b]:=by obtain⟨o,e,r⟩:=ht₁;exact⟨o,hs₂.extBut _ _ hne.2.2.2.1.symm e,r⟩
 refine qe (wpAny_pyNext_tuple_end hh hit₂ ht₂ rfl λh₃ hs₃=>?_);have hd₃:h₃.DictOf (intKind prog w) d [(kk,v)]:=by obtain⟨o,es,ep,e,r⟩:=hd₂;exact⟨o,es,ep,hs₃ _ _ hne.1.symm e,r⟩
 refine qe ?_;unfold Builtin.Dict.addKeywords;rw[List.forIn_nil];refine qp (qp ?_);exact hR h₃ _ hd₃ λc o c1 c2 e=>hs₃ _ _ c1 (hs₂.extBut _ _ c2 (hs₁.extBut _ _ c1 e))
end
section
variable {g:Glb}{A:Around}{s:Shared}{Z:Addr→Prop}{bs:List Nat}{ρ:qG}{U U':St}{E:Value→Shared→Prop}
theorem qaG(e:BX l=some kvs):∃k w,l=[.pv (.tup [.int k,w])]∧kvs=[(k,.pv w)]:=by
 induction l using List.casesOn with
 |nil=>injection e
 |cons x r =>
  obtain⟨h1,e2⟩:=BR (vs:=r) e;obtain⟨q,h2,e3⟩:=xj e2;rcases q with _ | ⟨a,_ | ⟨w,_ | ⟨_,_⟩⟩⟩ <;> first | injection e3;done | rcases a
  all_goals first | exact⟨_,w,by rw[h2,h1],(qA e3).symm⟩ | injection e3
theorem XZ{a b:Addr}{kk:Int}{tk:Tok}{v:Value}{Q:Value→Shared→Prop}(hh:A.handled=none)(ha:kZ s.heap a #[.ref b])(hb:s.heap.IsTuple b #[.int kk tk,v])(h:∀h' tk',h'.DictOf (intKind g.prog g.w) s.heap.objs.size [(kk,v)]→(∀c o,s.heap.get? c=some o→h'.get? c=some o)→Q (.ref s.heap.objs.size) { s with heap:=h',toks:=tk' }):
  wpAny (model g.prog g.w) A (call (.type "dict") [.ref a]) Q E s:=by
 refine callType_codes (Q₁:=λobj s₁=>obj = .ref s.heap.objs.size∧s₁ = { s with heap:=s.heap.push { cls:=.type "dict",data:=.dict #[] } }) F.kt_called_dict (F.kt_typeCall_dict_1 _) F.entry_dict_init (kt_code_dict_new _ ⟨rfl,rfl⟩) ?_;rintro obj s₁ ⟨rfl,rfl⟩
 have hnew:(s.heap.push { cls:=.type "dict",data:=.dict #[] }).DictOf (intKind g.prog g.w) s.heap.objs.size []:=Heap.DictOf.new s.heap;refine⟨hnew.typeIs,F.args_dict_init_2 _ _,?_⟩;obtain⟨⟨oa,ea,ca,na,da⟩,dict0⟩:=ha;have ea1:(s.heap.push { cls:=.type "dict",data:=.dict #[] }).get? a=some oa:=jd _ ea;unfold Builtin.«dict.__init__»;refine qe ?_;unfold Builtin.Dict.selfAndRest;refine qe (wpAny_notOrdered_dict hnew.typeIs ?_);show wpAny _ _ (pure (s.heap.objs.size,[Value.ref a])) _ _ _
 refine qp ?_;show wpAny _ _ (Builtin.Dict.updateFrom "dict.__init__" s.heap.objs.size (.ref a) [] .none) _ _ _
 unfold Builtin.Dict.updateFrom;refine qe (wpAny_typeOf ⟨oa,ea1,ca⟩ ?_);rw[if_pos (by rfl)];refine qe (qfe ea1 ca da (dict0 _ ea) hh λh₁ tk₁ k₁=>?_);rw[if_pos (by rfl)];refine qe (wpAny_rule ?_);have k2:∀c o,s.heap.get? c=some o→h₁.get? c=some o:=λc o e=>k₁ c o (jd _ e);have k3:∀c o,h₁.get? c=some o→(h₁.push { cls:=.type "tuple_iterator",data:=.fields #[.ref a,.int 0 0] }).get? c=some o:=λc o e=>jd _ e;have ta₁:h₁.IsTuple a #[.ref b]:=⟨oa,k₁ _ _ ea1,ca,na,da⟩
 obtain⟨ob,eb,rb⟩:=hb;obtain⟨od,es,ep,ed,rd⟩:=hnew;have ld:s.heap.objs.size<h₁.objs.size:=zq (k₁ _ _ ed);refine qe (wpAny_pyIter_tuple ta₁ (qp ⟨plainId_quiet yY _,?_⟩));refine qcC (A:=A.in1) (it:=h₁.objs.size) (t:=a) (b:=b) (d:=s.heap.objs.size) (kk:=kk) (tk:=tk) (u:=v) (v:=v) hh ⟨_,jy _ rfl,rfl,rfl⟩ ⟨oa,k3 _ _ (k2 _ _ ea),ca,na,da⟩ ⟨ob,k3 _ _ (k2 _ _ eb),rb⟩ ⟨od,es,ep,k3 _ _ (k₁ _ _ ed),rd⟩
  ⟨wL ld,wL (zq (k2 _ _ ea)),wL (zq (k2 _ _ eb)),wL (zq ea),wL (zq eb)⟩ λh' tk' hd' keep=>⟨rfl,h h' tk' hd' λc o e=>keep c o ?_ ?_ (k3 c o (k2 c o e))⟩
 ·exact wq (zq (k2 c o e))
 ·exact wq (zq e)
theorem qeE:gC g .dict λA va Q E s=>wpAny (model g.prog g.w) A (call (.type "dict") [va]) Q E s:=by
 intro A s Z bs ρ U U' E va v r Q hh hu R ra e K;have e:(ob (xl v) λl=>if wd v=true then ob (BX l) λkvs=>some (U.new (.dictI kvs)) else none)=some (r,U'):=e;obtain⟨l,h1,e1⟩:=qo e;obtain⟨ht,e2⟩:=qI e1;obtain⟨kvs,h2,e3⟩:=qo e2;have e3:=qA e3;obtain⟨k,w,rfl,rfl⟩:=qaG h2;have r2:RA ρ (Fz Z ρ U) s.heap va (.pv (.tup [.tup [.int k,w]])):=Qu (U:=U) (Ys h1) ht ra;obtain⟨a,vs,rfl,f,t,q⟩:=r2.pv_.tupO;obtain⟨u,us,rfl,q1,q2⟩:=q.cons_;obtain rfl:=q2.nil_;obtain⟨b,ws,rfl,f',t',q'⟩:=q1.tup_;obtain⟨x,xs,rfl,p1,p2⟩:=q'.cons_;obtain⟨y,ys,rfl,p3,p4⟩:=p2.cons_;obtain rfl:=p4.nil_;obtain⟨tk,rfl⟩:=p1.int_;refine XZ (kk:=k) (tk:=tk) (v:=y) hh t t' λh' tk' hd keep=>?_;have e4:=Prod.mk.inj e3;rw[←e4.1,←e4.2] at K;have fresh:∀b∈[s.heap.objs.size],¬ Lv s.heap b:=λb hb=>by simp only[qQ] at hb;subst hb;exact wh _
 have rys:RAs (ρ++[[s.heap.objs.size]]) (Fz Z (ρ++[[s.heap.objs.size]]) { U with heap:=U.heap++[.dictI [(k,.pv w)]] }) h' [y] [.pv w]:=RAs.newO R (.cons (.pv p3) .nil) keep fresh;obtain⟨y',e5,ry⟩:=rys.one_;obtain rfl:=(List.cons.inj e5).1;refine Hv (s':={ s with heap:=h',toks:=tk' }) (l:=[]) R K keep (λb hb=>⟨fresh b hb,?_⟩) (λx=>nomatch x) rfl rfl (.dictI hd (.cons ry .nil));simp only[qQ] at hb;subst hb;obtain⟨o,es,ep,e,_⟩:=hd;exact⟨o,e⟩
end
section
variable {g:Glb}{C:Cfg}{d:Nat}{K:Ctx}{A:Around}{s s1:Shared}{Z:Addr→Prop}{bs:List Nat}{ρ ρ1:qG}{U U1 U':St}{E:Value→Shared→Prop}
theorem qay(h:qeZ es=true):∃y r,es = .cons (.str y) r:=by
 induction es using Mine.CEs.casesOn with
 |nil=>injection h
 |cons e r =>
  cases hy:qdB e with
  |none=>have h:(qdB e).isSome=true:=h;rw[hy] at h;injection h
  |some y=>exact⟨y.1,r,by rw[←y.2]⟩
inductive FstrI (C:Cfg) (es:CEs) (sc:qv) (x:Expr):Prop
 |mk (y:Str) (e:CE) (v:Expr) (k1:Nat) (p1 p2 p:Pos) (h1:es = .cons (.str y) (.cons e .nil)) (h2:x = .JoinedStr [.Constant (.str y) k1 p1,.FormattedValue v (-1) none p2] p) (h3:qC C e sc v=true)
theorem qfc{x u1 u2 v:Expr}{l:List Expr}{p p2:Pos}{i:Int}{sp:Option Expr}(e:x = .JoinedStr l p)(e1:l=[u1,u2])(e2:u2 = .FormattedValue v i sp p2)(e3:sp=none)(h1:i = -1):x = .JoinedStr [u1,.FormattedValue v (-1) none p2] p:=by rw[e,e1,e2,e3,h1]
theorem qcS{x u w:Expr}{r:List Expr}{p:Pos}(e:x = .JoinedStr (u::r) p)(h:u=w):x = .JoinedStr (w::r) p:=by rw[e,h]
theorem Bg(h:qC C (.fstr es) sc x=true):FstrI C es sc x:=by
 refine wZ λGo hGo=>?_;obtain⟨v1,h⟩:=qk h;obtain⟨v2,h⟩:=qk h;obtain⟨v3,h⟩:=qk h;obtain⟨hs,h⟩:=qc h;obtain⟨⟨e3⟩,h⟩:=qk h;obtain⟨h1,h2⟩:=qc h;have f0:=qfc v1.2 v2.2 v3.2 e3 (qr h1);have h2:jn C es sc [v2.1.1,v3.1.1]=true:=h2;obtain⟨y,r,hes⟩:=qay hs;refine hGo ?_;rw[hes] at h2;have h3:=qc h2;obtain⟨k,p1,hu⟩:=qbz h3.1;induction r using Mine.CEs.casesOn with
 |nil=>exact(q9 h3.2).elim
 |cons e' r' =>
  have h4:=qc h3.2;induction r' using Mine.CEs.casesOn with
  |cons _ _=>exact(q9 h4.2).elim
  |nil=>exact⟨y,e',_,k,p1,_,_,hes,qcS f0 hu,h4.1⟩
inductive FstrE (K:Ctx) (J:Env) (y:Str) (a:CE) (U:St) (r:AV) (U':St):Prop
 |mk (i:Int) (e1:qt K J a U=some (.pv (.int i),U')) (hx:y.length≤1000) (hi:i.natAbs<10 ^ 10) (e2:r = .pv (.str (y++v7 i)))
theorem qjP(e:qt K J (.fstr (.cons (.str y) (.cons a .nil))) U=some (r,U')):FstrE K J y a U r U':=by
 refine wZ λGo hGo=>?_;obtain⟨vs,U1,e1,ee⟩:=qm e;obtain⟨v1,U2,e2,e3⟩:=qm e1;obtain⟨hv1,hU2⟩:=qx (show some (AV.pv (.str y),U)=some (v1,U2) from e2);obtain⟨l,U3,e4,e5⟩:=qm e3;obtain⟨w,U4,e6,e7⟩:=qm e4;obtain⟨hl,hU3⟩:=qx (show some ([w],U4)=some (l,U3) from e7);obtain⟨hvs,hU1⟩:=qx e5;obtain⟨str,hstr,ef⟩:=qo ee;obtain⟨hr,hU'⟩:=qx ef;have hstr:BS [AV.pv (.str y),w] (λv w=>onStr v λx=>onInt w λi=>if x.length≤1000&&decide (i.natAbs<10 ^ 10) then some (x++v7 i) else none)=some str:=by
  rw[←hvs,←hl,←hv1] at hstr;exact hstr
 have hstr:onInt w (λi=>if y.length≤1000&&decide (i.natAbs<10 ^ 10) then some (y++v7 i) else none)=some str:=hstr;obtain⟨i,hw,e8⟩:=jF hstr;obtain⟨hc,e9⟩:=qI e8;have hc:=qc hc;refine hGo ?_;refine⟨i,?_,qr hc.1,qr hc.2,by rw[←hr,qA e9]⟩;rw[←hw,hU2,←hU',←hU1,←hU3];exact e6
theorem SE.fstr(hs:w7 g C d K es):SE g C d K (.fstr es):=⟨λhc H R er e k=>by
 refine wZ λGo hGo=>?_;obtain⟨y,a,v,k1,p1,p2,p,rfl,rfl,h3⟩:=Bg hc;obtain⟨i,e6,hx,hi,rfl⟩:=qjP e;refine hGo ?_;refine wpAny_JoinedStr ?_;have hbl:=wG;have e0:Str.empty++y=y:=Q3 rfl;have hfit:=int_text_fits (Xm hi);have hlen:=int_text_length_le10 (a:=i) (k:=10) (by decide) hi;have hl2:(v7 i).length≤1000:=by
  show(Str.ofString (toString i)).length≤1000
  rw[PySem.ofString_length];exact qu hlen (by decide)
 have hlx:(y++v7 i).length≤sizeLine:=by rw[strLen_append];exact qu (yt hx hl2) (qu (jG rfl:1000+1000≤jl) hbl)
 show Joins _ _ _ (evalEach [.Constant (.str y) k1 p1,.FormattedValue v (-1) Option.none p2] _) Str.empty _ _
 refine wpAny_Constant_str ⟨y,_,rfl,?_,?_⟩
 ·rw[e0];exact qu hx (qu (jG rfl:1000≤jl) hbl)
 rw[e0];refine wpAny_FormattedValue_plain (hs.2.2.1.ok h3 H R er e6 λva s1 ρ1 R1 P1 q1=>?_);obtain⟨t,rfl⟩:=q1.int_;refine wpAny_formatField_int (Xm hi) ⟨v7 i,_,rfl,hlx,?_⟩;exact⟨hlx,k _ _ _ R1 ⟨P1.pre,P1.ext,P1.foot,P1.size,P1.gens,P1.os,P1.str⟩ (.pv (.str _ _))⟩⟩
noncomputable abbrev DR(C:Cfg)(es:CEs)(sc:qv)(ps:List (Expr×Expr)):Prop:=jn C es sc (ps.flatMap λq=>[q.1,q.2])=true
theorem qjG{x:Expr}{ks ks':List (Option Expr)}{vs vs':List Expr}{p:Pos}(e:x = .Dict ks vs p)(h1:ks=ks')(h2:vs=vs'):x = .Dict ks' vs' p:=by rw[e,h1,h2]
theorem Bf(h:qC C (.dict kk es) sc x=true):∃(ps:List (Expr×Expr)) (p:Pos),x = .Dict (ps.map λq=>some q.1) (ps.map (·.2)) p∧DR C es sc ps∧ps.length≤2:=by
 refine wZ λGo hGo=>?_;obtain⟨v,h⟩:=qk h;obtain⟨l,h⟩:=qk h;obtain⟨h1,h2⟩:=qc h;refine hGo ?_;exact⟨l.1,v.1.2.2,qjG v.2 l.2.1 l.2.2,h2,qr h1⟩
theorem qhK:∀(ps:List (Expr×Expr)) (es:CEs) {sc:qv}{A:Around}{s:Shared}{env:PySem.Env}{asg:Str→Bool}{X Z:Addr→Prop}{J:Env}{bs:List Nat}{ρ:qG}{U U':St}{E:Value→Shared→Prop}{rs:List AV}{Q:List (Value×Value)→Shared→Prop}{pos:Pos},
  w7 g C d K es→DR C es sc ps→Here g d A env sc asg X→Rel g Z bs ρ U s.heap→ER g Z ρ U s.heap env J→zf K J es U=some (rs,U') →
  (∀vs s' ρ',Rel g Z bs ρ' U' s'.heap→Post jZ ρ U s ρ' U' s'→RAs ρ' (Fz Z ρ' U') s'.heap (vs.flatMap λp=>[p.1,p.2]) rs→Q vs s') →
  wpAny (model g.prog g.w) A (evalPairs (ps.map λp=>(eval p.1 env,do let x ←eval p.2 env;standAt pos;pure x))) Q E s:=by
 intro ps;induction ps with
 |nil =>
  intro es sc A s env asg X Z J bs ρ U U' E rs Q pos ha hc H R er e k;induction es using Mine.CEs.casesOn with
  |nil =>
   obtain⟨rfl,rfl⟩:=qx e;exact qp (k [] _ _ R Post.refl .nil)
  |cons _ _=>exact(q9 hc).elim
 |cons p ps ih =>
  intro es sc A s env asg X Z J bs ρ U U' E rs Q pos ha hc H R er e k;induction es using Mine.CEs.casesOn with
  |nil=>exact(q9 hc).elim
  |cons a r0 =>
   have hc:=qc hc;induction r0 using Mine.CEs.casesOn with
   |nil=>exact(q9 hc.2).elim
   |cons b r =>
    have hc2:=qc hc.2;refine wZ λGo hGo=>?_;obtain⟨v,U1,e1,ea⟩:=qm e;obtain⟨l,U2,e2,eb⟩:=qm ea;obtain⟨w,U3,e3,ec⟩:=qm e2;obtain⟨m,U4,e4,ed⟩:=qm ec;obtain⟨hl,hU⟩:=qx ed;obtain⟨hr,hU'⟩:=qx eb;refine hGo ?_;rw[hU,hU'] at e4;rw[List.map_cons,evalPairs];refine qe (ha.1.ok hc.1 H R er e1 λva s1 ρ1 R1 P1 q1=>qe (jX (qe (ha.2.2.1.ok hc2.1 H R1 (er.post R P1) e3 λvb s2 ρ2 R2 P2 q2=>qe (wk (qp ?_))))));refine qe (jX (ih r ha.2.2.2.2 hc2.2 H R2 ((er.post R P1).post R1 P2) e4 λvs s3 ρ3 R3 P3 q3=>qp (k _ s3 ρ3 R3 ((P1.trans P2).trans P3) ?_)));rw[←hr,←hl];exact .cons (RA.post (X:=jZ) (RA.post (X:=jZ) q1 P2 λB h=>False.elim h) P3 λB h=>False.elim h) (.cons (RA.post (X:=jZ) q2 P3 λB h=>False.elim h) q3)
open Classical in
theorem K5(g:Glb)(kk:DK){ρ:qG}{F:Addr→Prop}{h0 h:Heap}(hk:h.get? h0.objs.size=some { cls:=.type "dict",data:=.dict #[] }):RO g ρ F h [h0.objs.size] (dictOf kk):=by
 have keep2:∀{K:Type} [DecidableEq K] {knd:HeapKind g.prog g.w K},h.DictOfH knd h0.objs.size []:=λ{K} _ {knd}=>by
  obtain⟨o,es,ep,ho,r1,r2,r3,r4,r5⟩:=Heap.DictOfH.new (knd:=knd) h0;rw[jy _ rfl] at ho;obtain rfl:=qA ho;exact⟨_,es,ep,hk,r1,r2,r3,(λx hx=>nomatch hx),r5⟩
 induction kk with
 |t=>exact .dictT keep2 .nil
theorem QX(g:Glb)(h:Heap):∀{xs:List AV}{o o':AObj},Yq o xs=some o'→o ≠ .dead→o' ≠ .dead
 |[],_,_,e,h=>qA e▸h
 |[_],_,_,e,_=>nomatch e
 |k::v::r,o,o',e,_=>by
  obtain⟨o1,h1,e1⟩:=qo e;exact QX g h e1 (Qd g h h1).2
theorem SE.dict(hs:w7 g C d K es):SE g C d K (.dict kk es):=⟨by
 intro x sc A s env asg X Z J bs ρ U U' E r Q hc H R er e k;obtain⟨ps,pos,rfl,h1,h2⟩:=Bf hc;obtain⟨rs,U1,e1,ea⟩:=qm e;obtain⟨o',ho',eb⟩:=qo ea;obtain⟨rfl,rfl⟩:=qx eb;have hnd:dictOf kk ≠ .dead:=by induction kk <;> exactλh=>by injection h
 by_cases hps:ps=[]
 ·subst hps
  induction es using Mine.CEs.casesOn with
  |nil =>
   obtain⟨rfl,rfl⟩:=qx e1;obtain rfl:=qA ho';refine wpAny_Dict_empty ?_;have kp:∀b o,s.heap.get? b=some o→(s.heap.push { cls:=.type "dict",data:=.dict #[] }).get? b=some o:=λb o e=>jd _ e;refine Hv (s':={ s with heap:=s.heap.push { cls:=.type "dict",data:=.dict #[] } }) (l:=[]) R k kp (λb hb=>?_) hnd rfl rfl (K5 g kk (jy _ rfl));simp only[qQ] at hb;subst hb;exact⟨wh _,⟨_,jy _ rfl⟩⟩
  |cons a r=>exact(q9 h1).elim
 ·rw[arm_eval_Dict]
  have hshape:(evalEachOpt (ps.map λq=>some q.1) env).zip ((evalEach (ps.map (·.2)) env).map λv=>do let x ←v;standAt pos;pure x)=(ps.map λp=>(eval p.1 env,(do let x ←eval p.2 env;standAt pos;pure x:Sem Value))).map λp=>(some p.1,p.2):=by
   clear hps h1 h2 hc;induction ps with
   |nil=>rfl
   |cons p ps ih=>exact qz (_::·) ih
  rw[hshape,dictDisplay_pairs _ (by simpa using hps) (by simp;exact qP h2 (by decide))];refine qe (wk (qe ?_));unfold subDict;refine qe (wpAny_alloc ?_);refine qe (jX ?_);rw[if_pos (by simp;exact qu h2 (by decide))];have R0:=Zq (o:={ cls:=.type "dict",data:=.dict #[] }) R rfl;have kp:∀b o,s.heap.get? b=some o→(s.heap.push { cls:=.type "dict",data:=.dict #[] }).get? b=some o:=λb o e=>jd _ e;have er0:ER g (Zu Z λb=>b=s.heap.objs.size) ρ U (s.heap.push { cls:=.type "dict",data:=.dict #[] }) env J:=er.zmore kp (λb hb=>eqOr hb .inl (.inr (wh _))) λb hb=>.inl hb;refine qe (qhK (s:={ s with heap:=s.heap.push { cls:=.type "dict",data:=.dict #[] } }) ps es hs h1 H R0 er0 e1 λvs s2 ρ2 R2 P2 q2=>jX (qe ?_));have hd0:s2.heap.get? s.heap.objs.size=some { cls:=.type "dict",data:=.dict #[] }:=P2.ext _ _ (jy _ rfl) id (R0.notFoot (.inr rfl));have ha:¬ Fz (Zu Z λb=>b=s.heap.objs.size) ρ2 U1 s.heap.objs.size:=λf=>f.1 (.inr rfl);refine qkB ha H.room.line vs rs (dictOf kk) o' s2 (K5 g kk hd0) q2 ho' λh' tk hsb ro'=>?_;refine qp (qp (qp ?_));have hnd':=QX g s.heap ho' hnd;have hl:∀b,b ∉ [s.heap.objs.size]→∀ob,s2.heap.get? b=some ob→h'.get? b=some ob:=λb hb ob e=>hsb.extBut b ob (by simpa using hb) e;have hlv:=ro'.live hnd';have fnew:∀{b:Addr},Fz (Zu Z λb=>b=s.heap.objs.size) ρ2 U1 b→Fz Z (ρ2++[[s.heap.objs.size]]) { U1 with heap:=U1.heap++[o'] } b:=λ{b} f=>⟨λz=>f.1 (.inl z),λy=>by
   rcases xJ R2.len y with y | y
   ·exact f.2 y
   ·simp only[qQ] at y;exact f.1 (.inr y)⟩
  have Rn:Rel g Z bs (ρ2++[[s.heap.objs.size]]) { U1 with heap:=U1.heap++[o'] } h':=Rel.newZ R2 (λb z=>.inl z) (λb hb=>by
    simp only[qQ] at hb;subst hb;exact⟨.inr rfl,λz=>wh _ (R.zlt z).2⟩) (λb ob hb e=>hl b hb ob e) (vm hsb hlv)
   (ro'.mono (λi a l e=>by rw[wK (jL.mp e).1];exact e) (λb o e f B=>⟨e,fnew f⟩) λb B ob e=>e)
  have hlen:=R2.len;refine k (.ref s.heap.objs.size) { s2 with heap:=h',toks:=tk } (ρ2++[[s.heap.objs.size]]) Rn ?_ (.ref (l:=[]) (by rw[←hlen];simp));have fresh:∀b,Lv s.heap b→b ∉ [s.heap.objs.size]:=λb lb hb=>by simp only[qQ] at hb;subst hb;exact wh _ lb
  exact⟨λi l e=>by rw[wK (jL.mp (P2.pre i l e)).1];exact P2.pre i l e,
   λb o e hx hf=>hl b (fresh b ⟨_,e⟩) o (P2.ext b o (kp b o e) hx hf),
   λb lb hx hf y=>by
    rcases xJ R2.len y with y | y
    ·exact P2.foot b (H1 kp lb) hx hf y
    ·exact fresh b lb y,
   λb lb hx=>vm hsb hlv b (P2.size b (H1 kp lb) hx),P2.gens,P2.os,P2.str⟩⟩
end
section
variable {g:Glb}{C:Cfg}{d:Nat}{K:Ctx}{A:Around}{s s1:Shared}{Z:Addr→Prop}{bs:List Nat}{ρ ρ1:qG}{U U1 U':St}{E:Value→Shared→Prop}
mutual
noncomputable def gZ(asg:Str→Bool):CT→Expr→Bool
 | .nm _,x=>match zA x with
  |some v=>asg v.1.1
  |none=>true
 | .tup ts,x=>match vq x with
  |some v=>gz asg ts v.1.1
  |none=>true
noncomputable def gz(asg:Str→Bool):CTs→List Expr→Bool
 | .nil,_=>true
 | .cons t r,xs=>match xs with
  |[]=>true
  |x::xs=>gZ asg t x&&gz asg r xs
end
theorem XO{v:Value}{x:AV}{l:List AV}{n:Nat}{Q:List Value→Shared→Prop}(hh:A.handled=none)(R:Rel g Z bs ρ U s.heap)(r:RA ρ (Fz Z ρ U) s.heap v x)(e:qR U x=some l)(hn:n=l.length)(k:∀h' vs,(∀b o,s.heap.get? b=some o→h'.get? b=some o)→RAs ρ (Fz Z ρ U) h' vs l→Q vs { s with heap:=h' }):wpAny (model g.prog g.w) A (unpackItems v n none) Q E s:=by
 obtain⟨a,vs,rfl,rs,hh'⟩:=zH R r e;have hlen:=rs.length;have kp:∀{h':Heap},Heap.ExtBut s.heap.objs.size s.heap h'→∀b o,s.heap.get? b=some o→h'.get? b=some o:=λhe b o q=>he b o (wq (zq q)) q;have fin:∀h',Heap.ExtBut s.heap.objs.size s.heap h'→Q vs.toArray.toList { s with heap:=h' }:=λh' he=>by
  have:=k h' vs (kp he) (rs.mono (λB B B e=>e) λb o e f B=>⟨kp he b o e,f⟩);simpa using this
 have e1:n=vs.toArray.size:=by rw[ze,hlen,hn]
 subst e1;rcases hh' with⟨_,ht⟩ | ⟨_,_,ht⟩
 ·exact wpAny_unpackItems_tuple hh ht fin
 ·exact kun_itemsOf hh ht fin
theorem Kq:∀{xs:List Expr}{env:PySem.Env},jf xs=true→(assignEach xs env).map (·.2)=xs.map (λx=>assign x env)∧(assignEach xs env).length=xs.length∧(assignEach xs env).findIdx? (·.1)=none:=by
 intro xs;induction xs with
 |nil =>
  intro _ _;exact⟨rfl,rfl,rfl⟩
 |cons y xs ih =>
  intro env h;have h':assignEach (y::xs) env=(false,assign y env)::assignEach xs env∧jf xs=true:=by
   rcases y <;> first | exact⟨rfl,h⟩ | exact(q9 h).elim
  obtain⟨q1,q2,q3⟩:=ih (env:=env) h'.2;rw[h'.1];exact⟨by simp[q1],by simp[q2],by simp[List.findIdx?_cons,q3]⟩
theorem qaL(U:St)(e:xl v=some l):qR U v=some l:=by
 induction v using Mine.AV.casesOn with
 |pv p=>rcases p <;> first | exact e | cases e
 |tupR l=>exact e
 |lstR l=>exact e
 |ref i=>injection e
theorem Qn(U:St)(e:jC (.tup ts) v J=some J'):∃l,qR U v=some l∧wp ts l J=some J':=by
 obtain⟨l,h1,h2⟩:=qo (o:=xl v) (k:=λl=>wp ts l J) e;exact⟨l,qaL U h1,h2⟩
inductive ChkTCons (C:Cfg) (t:CT) (r:CTs) (sc:qv) (xs:List Expr):Prop
 |mk (y:Expr) (ys:List Expr) (e:xs=y::ys) (h1:yd C t sc y=true) (h2:vM C r sc ys=true)
theorem v4(h:vM C (.cons t r) sc xs=true):ChkTCons C t r sc xs:=by
 obtain⟨v,h⟩:=qk h;have h:=qc h;exact⟨v.1.1,v.1.2,v.2,h.1,h.2⟩
theorem k7(h:vM C .nil sc xs=true):xs=[]:=by
 obtain⟨v,_⟩:=qk h;exact v.1
inductive BindCons (t:CT) (r:CTs) (l:List AV) (J J':Env):Prop
 |mk (v:AV) (vs:List AV) (J1:Env) (e:l=v::vs) (h1:jC t v J=some J1) (h2:wp r vs J1=some J')
theorem gx(e:wp (.cons t r) l J=some J'):BindCons t r l J J':=by
 induction l using List.casesOn with
 |nil=>injection e
 |cons v vs =>
  obtain⟨J1,h1,h2⟩:=qo (o:=jC t v J) (k:=λJ'=>wp r vs J') e;exact⟨v,vs,J1,rfl,h1,h2⟩
theorem kg(e:wp .nil l J=some J'):l=[]∧J=J':=by
 induction l using List.casesOn with
 |nil=>exact⟨rfl,qA e⟩
 |cons=>injection e
theorem gX:∀{ts:CTs}{l:List AV}{J J':Env}{sc:qv}{xs:List Expr},wp ts l J=some J'→vM C ts sc xs=true→xs.length=l.length
 | .nil,_,_,_,_,_,e,h=>by rw[k7 h,(kg e).1];rfl
 | .cons t r,l,J,J',sc,xs,e,h=>by
  obtain⟨v,vs,J1,e1,_,e2⟩:=gx e;obtain⟨y,ys,e3,_,h2⟩:=v4 h;rw[e1,e3];exact qz (· + 1) (gX e2 h2)
structure AssignT (g:Glb) (C:Cfg) (d:Nat) (t:CT):Prop where
 ok:∀{tx:Expr}{sc:qv}{A:Around}{s:Shared}{env:PySem.Env}{asg:Str→Bool}{X Z:Addr→Prop}{J J':Env}{bs:List Nat}{ρ:qG}{U:St}{E:Value→Shared→Prop}{val:Value}{v:AV}{Q:Unit→Shared→Prop},
  yd C t sc tx=true→gZ asg t tx=true→Here g d A env sc asg X→Rel g Z bs ρ U s.heap→ER g Z ρ U s.heap env J→RA ρ (Fz Z ρ U) s.heap val v→jC t v J=some J' →
  (∀s',Rel g Z bs ρ U s'.heap→ER g Z ρ U s'.heap env J'→Post X ρ U s ρ U s'→Q () s')→wpAny (model g.prog g.w) A (assign tx env val) Q E s
structure AssignTs (g:Glb) (C:Cfg) (d:Nat) (ts:CTs):Prop where
 ok:∀{xs:List Expr}{sc:qv}{A:Around}{s:Shared}{env:PySem.Env}{asg:Str→Bool}{X Z:Addr→Prop}{J J':Env}{bs:List Nat}{ρ:qG}{U:St}{E:Value→Shared→Prop}{vs:List Value}{l:List AV}{Q:Unit→Shared→Prop},
  vM C ts sc xs=true→gz asg ts xs=true→Here g d A env sc asg X→Rel g Z bs ρ U s.heap→ER g Z ρ U s.heap env J→RAs ρ (Fz Z ρ U) s.heap vs l→wp ts l J=some J' →
  (∀s',Rel g Z bs ρ U s'.heap→ER g Z ρ U s'.heap env J'→Post X ρ U s ρ U s'→Q () s')→wpAny (model g.prog g.w) A (assignInOrder (xs.map λx=>assign x env) vs) Q E s
theorem AssignT.nm(G:GOk g)(W:Wired g C):AssignT g C d (.nm i):=⟨by
 intro tx sc A s env asg X Z J J' bs ρ U E val v Q hc ho H R er ra e k;obtain⟨x,p,rfl,h1,_,_⟩:=Qr hc;have hx:=yT h1;rw[W.nm] at hx;show wpAny _ _ (do standAt p;bindName env x val) Q E s
 exact qe (wk (vZ G H.ok R er hx ho ra (qA e▸k)))⟩
theorem AssignT.tup(h:AssignTs g C d ts):AssignT g C d (.tup ts):=⟨by
 intro tx sc A s env asg X Z J J' bs ρ U E val v Q hc ho H R er ra e k;obtain⟨xs,kk,p,rfl,hs,hcs⟩:=xO hc;obtain⟨l,h1,h2⟩:=Qn U e;obtain⟨q1,q2,q3⟩:=Kq (env:=env) hs;show wpAny _ _ (do standAt p;unpack val (assignEach xs env)) Q E s
 refine qe (wk ?_);unfold unpack;rw[q1,q2,q3];refine qe (jX (XO H.room.handled R ra h1 (gX h2 hcs) λh' vs kp rs=>?_));have P0:Post jZ ρ U s ρ U { s with heap:=h' }:=Post.grow kp rfl rfl;exact h.ok hcs ho H (R.grow kp) (ER.post (s':={ s with heap:=h' }) R er P0) rs h2 λs' R' er'' P'=>k s' R' er'' ((P0.wider λB h=>h.elim).trans P')⟩
theorem AssignTs.nil:AssignTs g C d .nil:=⟨by
 intro xs sc A s env asg X Z J J' bs ρ U E vs l Q hc ho H R er ra e k;obtain⟨_,h⟩:=kg e;rw[k7 hc];exact qp (k s R (h▸er) Post.refl)⟩
theorem AssignTs.cons(ht:AssignT g C d t)(hr:AssignTs g C d r):AssignTs g C d (.cons t r):=⟨by
 intro xs sc A s env asg X Z J J' bs ρ U E vs l Q hc ho H R er ra e k;obtain⟨x,xs',rfl,c1,c2⟩:=v4 hc;have ho:=qc ho;obtain⟨y,l',J1,rfl,h1,h2⟩:=gx e;obtain⟨w,ws,rfl,r1,rs⟩:=ra.cons_;show wpAny _ _ (do holding ws (assign x env w);assignInOrder (xs'.map λx=>assign x env) ws) Q E s
 refine qe (jX (ht.ok c1 ho.1 H R er r1 h1 λs1 R1 er1 P1=>?_));have hX:∀b,X b→Z b:=λb hb=>by
  rcases H.ok.xs b hb with rfl | ⟨y,hy⟩
  ·exact er.zL
  ·exact er.zC y b hy
 exact hr.ok c2 ho.2 H R1 er1 (rs.post P1 hX) h2 λs2 R2 er2 P2=>k s2 R2 er2 (P1.trans P2)⟩
mutual
theorem ke(G:GOk g)(W:Wired g C):∀t:CT,AssignT g C d t
 | .nm _=>.nm G W
 | .tup ts=>.tup (Y6 G W ts)
theorem Y6(G:GOk g)(W:Wired g C):∀ts:CTs,AssignTs g C d ts
 | .nil=>.nil
 | .cons t r=>.cons (ke G W t) (Y6 G W r)
end
end
section
variable {g:Glb}{C:Cfg}{d:Nat}{K:Ctx}{A:Around}{s s1:Shared}{Z:Addr→Prop}{bs:List Nat}{ρ ρ1:qG}{U U1 U':St}{E:Value→Shared→Prop}
structure SI (g:Glb) (C:Cfg) (d:Nat) (K:Ctx) (ci:CI):Prop where
 ok:∀{tx x:Expr}{sc:qv}{A:Around}{s:Shared}{env:PySem.Env}{asg:Str→Bool}{X Z:Addr→Prop}{J:Env}{bs:List Nat}{ρ:qG}{U U':St}{E:Value→Shared→Prop}{src:Src}{Q:Value→Shared→Prop},
  Zm C ci sc tx x=true→Here g d A env sc asg X→Rel g Z bs ρ U s.heap→ER g Z ρ U s.heap env J→xG K J ci U=some (src,U')→Zh g A tx Z bs ρ U s src U' Q →
  wpAny (model g.prog g.w) A (eval x env) (λv s1=>wpAny (model g.prog g.w) A (pyIter v) Q E s1) E s
theorem Zh.from{target:Expr}{src:Src}{Q:Value→Shared→Prop}(P:Post jZ ρ U s ρ1 U1 s1)(hlv:∀b,Lv s.heap b→Lv s1.heap b)(K:Zh g A target Z bs ρ U s src U' Q):Zh g A target Z bs ρ1 U1 s1 src U' Q :=
 λit X S s' ρ' h1 h2 h3 h4 h5=>K it X S s' ρ' h1 (P.trans h2) (λb hb lb=>h3 b hb (hlv b lb)) h4 h5
theorem Post.lv(P:Post jZ ρ U s ρ1 U1 s1):∀b,Lv s.heap b→Lv s1.heap b:=λb l=>P.size b l id
theorem Qo(h:Zm C ci sc tx x=true):QR x=true:=by
 induction ci using Mine.CI.casesOn with
 |it e=>exact(qc h).1
 |range1 a=>obtain⟨y,p,q,rfl,_⟩:=H7 (C:=C) (P:=λy=>qC C a sc y) h;rfl
 |range2 a b=>obtain⟨y,z,p,q,rfl,_⟩:=ZC (C:=C) (P:=λy=>qC C a sc y) (Q:=λy=>qC C b sc y) h;rfl
 |zip a b =>
  obtain⟨_,h⟩:=qk h;obtain⟨y,z,p,q,rfl,_⟩:=ZC (C:=C) (P:=λy=>qC C a sc y) (Q:=λy=>qC C b sc y) h;rfl
theorem DZ(e:qt K J a U=some (v,U1)):zf K J (.cons a .nil) U=some ([v],U1):=by
 show bnd (qt K J a U) _=_;rw[e];rfl
theorem D0(e:qt K J a U=some (v,U1))(e2:qt K J b U1=some (w,U2)):zf K J (.cons a (.cons b .nil)) U=some ([v,w],U2):=by
 show bnd (qt K J a U) _=_;rw[e];show bnd (zf K J (.cons b .nil) U1) _=_;rw[DZ e2];rfl
theorem qbg(h:qC C a sc y=true):jn C (.cons a .nil) sc [y]=true:=zp.mpr ⟨h,rfl⟩
theorem qbh(h:qC C a sc y=true)(h2:qC C b sc z=true):jn C (.cons a (.cons b .nil)) sc [y,z]=true:=zp.mpr ⟨h,qbg h2⟩
theorem SI.it(ha:SE g C d K a):SI g C d K (.it a):=⟨by
 intro tx x sc A s env asg X Z J bs ρ U U' E src Q hc H R er e k;obtain⟨v,U1,e1,e2⟩:=qm e;obtain⟨y,hy,e3⟩:=y4 e2;injection e3 with e3 e31q;subst e3;subst e31q;exact ha.ok (qc hc).2 H R er e1 λva s1 ρ1 R1 P1 q1=>qhs H.room.handled R1 q1 hy (k.from P1 P1.lv)⟩
theorem SI.range1(G:GOk g)(W:Wired g C)(ha:SE g C d K a):SI g C d K (.range1 a):=⟨by
 intro tx x sc A s env asg X Z J bs ρ U U' E src Q hc H R er e k;obtain⟨y,p,q,rfl,h1,h2,h3⟩:=H7 (C:=C) (P:=λy=>qC C a sc y) hc;obtain⟨v,U1,e1,e2⟩:=qm e;obtain⟨n,hv,e3⟩:=jF e2;obtain⟨hb,e4⟩:=qI e3;have hb:=qc hb;obtain⟨rfl,rfl⟩:=qx e4;refine Call_ (yx G W H R h1 (v:=.type "range") (y0 12 rfl) (PySem.callWith_type (jJ h2) ?_));refine SEs.args (.cons ha .nil) (qbg h3) h2 H R er (DZ e1) λvals s1 ρ1 R1 P1 q1=>?_;obtain⟨va,rfl,qa⟩:=q1.one_;obtain⟨t,rfl⟩:=(hv▸qa).int_;exact call_range_1 (BV H.room.handled R1 _ _ _ _ (by decide) (by decide) (qr hb.1) (qr hb.2) (k.from P1 P1.lv))⟩
theorem SI.range2(G:GOk g)(W:Wired g C)(ha:SE g C d K a)(hb:SE g C d K b):SI g C d K (.range2 a b):=⟨by
 intro tx x sc A s env asg X Z J bs ρ U U' E src Q hc H R er e k;obtain⟨y,z,p,q,rfl,h1,h2,h3,h4⟩:=ZC (C:=C) (P:=λy=>qC C a sc y) (Q:=λy=>qC C b sc y) hc;obtain⟨v,U1,e1,ea⟩:=qm e;obtain⟨w,U2,e2,eb⟩:=qm ea;obtain⟨m,hv,ec⟩:=jF eb;obtain⟨n,hw,ed⟩:=jF ec;obtain⟨hb',ee⟩:=qI ed;obtain⟨hb',b4⟩:=qc hb';obtain⟨hb',b3⟩:=qc hb';obtain⟨b1,b2⟩:=qc hb';obtain⟨rfl,rfl⟩:=qx ee;refine Call_ (yx G W H R h1 (v:=.type "range") (y0 12 rfl) (PySem.callWith_type (jJ h2) ?_));refine SEs.args (.cons ha (.cons hb .nil)) (qbh h3 h4) h2 H R er (D0 e1 e2) λvals s1 ρ1 R1 P1 q1=>?_;obtain⟨va,vb,rfl,qa,qb⟩:=q1.two_;obtain⟨t,rfl⟩:=(hv▸qa).int_;obtain⟨u,rfl⟩:=(hw▸qb).int_;exact call_range_2 (BV H.room.handled R1 _ _ _ _ (qr b1) (qr b2) (qr b3) (qr b4) (k.from P1 P1.lv))⟩
theorem SI.zip(G:GOk g)(W:Wired g C)(ha:SE g C d K a)(hb:SE g C d K b):SI g C d K (.zip a b):=⟨by
 intro tx x sc A s env asg X Z J bs ρ U U' E src Q hc H R er e k;obtain⟨vt,hc⟩:=qk hc;obtain⟨y,z,p,q,rfl,h1,h2,h3,h4⟩:=ZC (C:=C) (P:=λy=>qC C a sc y) (Q:=λy=>qC C b sc y) hc;rw[vt.2] at k;obtain⟨v,U1,e1,ea⟩:=qm e;obtain⟨w,U2,e2,eb⟩:=qm ea;obtain⟨sx,hx,ec⟩:=qo eb;obtain⟨sy,hy,ed⟩:=qo ec;obtain⟨rfl,rfl⟩:=qx ed;refine Call_ (yx G W H R h1 (v:=.type "zip") (y0 13 rfl) (PySem.callWith_type (jJ h2) ?_));refine SEs.args (.cons ha (.cons hb .nil)) (qbh h3 h4) h2 H R er (D0 e1 e2) λvals s1 ρ1 R1 P1 q1=>?_;obtain⟨va,vb,rfl,qa,qb⟩:=q1.two_;exact qmQ H.room.handled R1 qa qb hx hy (k.from P1 P1.lv)⟩
theorem qhk{env:PySem.Env}{Q:Bool→Shared→Prop}(xs:List Expr)(h:Q false s):wpAny (model g.prog g.w) A (forIn xs false λc r=>if r=true then do let ok ←isTrue c env (eval c env);pure (ForInStep.yield ok) else pure (ForInStep.yield r)) Q E s:=by
 induction xs with
 |nil=>rw[List.forIn_nil];exact qp h
 |cons y ys ih=>rw[List.forIn_cons];exact qe (qp ih)
theorem qeS:∀(es:CEs) {fs:List Expr}{sc:qv}{A:Around}{s:Shared}{env:PySem.Env}{asg:Str→Bool}{X Z:Addr→Prop}{J:Env}{bs:List Nat}{ρ:qG}{U U':St}{E:Value→Shared→Prop}{b:Bool}{Q:Bool→Shared→Prop},
  w7 g C d K es→jn C es sc fs=true→Here g d A env sc asg X→Rel g Z bs ρ U s.heap→ER g Z ρ U s.heap env J→vf K J es U=some (b,U') →
  (∀s' ρ',Rel g Z bs ρ' U' s'.heap→Post jZ ρ U s ρ' U' s'→Q b s') →
  wpAny (model g.prog g.w) A (forIn fs true λc r=>if r=true then do let ok ←isTrue c env (eval c env);pure (ForInStep.yield ok) else pure (ForInStep.yield r)) Q E s
 | .nil,fs,sc,A,s,env,asg,X,Z,J,bs,ρ,U,U',E,b,Q,ha,hc,H,R,er,e,k=>by
  obtain⟨rfl,rfl⟩:=qx e;rw[QE hc,List.forIn_nil];exact qp (k _ _ R Post.refl)
 | .cons a r,fs,sc,A,s,env,asg,X,Z,J,bs,ρ,U,U',E,b,Q,ha,hc,H,R,er,e,k=>by
  obtain⟨x,xs,rfl,c1,c2⟩:=y3 hc;obtain⟨v,U1,e1,ea⟩:=qm e;obtain⟨c,hb,eb⟩:=qo ea;rw[zV hb] at e1;rw[List.forIn_cons];refine qe (qe (ha.2.1.ok c1 H R er e1 λs1 ρ1 R1 P1=>qp ?_));induction c with
  |true=>exact qeS r ha.2.2 c2 H R1 (er.post R P1) eb λs2 ρ2 R2 P2=>k s2 ρ2 R2 (P1.trans P2)
  |false =>
   obtain⟨rfl,rfl⟩:=qx eb;exact qhk xs (k s1 ρ1 R1 P1)
end
section
variable {g:Glb}{C:Cfg}{d:Nat}{K:Ctx}{A:Around}{s s1:Shared}{Z:Addr→Prop}{bs:List Nat}{ρ ρ1:qG}{U U1 U':St}{E:Value→Shared→Prop}
theorem ER.weak(e:ER g Z ρ U h env J')(k:∀j v,J.get j=some v→J'.get j=some v):ER g Z ρ U h env J where
 ns:=by
  obtain⟨m,hn,hv⟩:=e.ns;exact⟨m,hn,λi v x a b c=>hv i v x (k i v a) b c⟩
 cell x c hc:=by
  obtain⟨ov,hi,hv⟩:=e.cell x c hc;exact⟨ov,hi,λi v a b kk=>hv i v (k i v a) b kk⟩
 zL:=e.zL
 zC:=e.zC
mutual
theorem Y8:∀(t:CT) {v:AV}{J J0 J':Env},yG t J0=true→(∀j v,J0.get j=some v→J.get j=some v)→jC t v J=some J'→∀j v,J0.get j=some v→J'.get j=some v
 | .nm x,v,J,J0,J',hf,hk,e,j,w,hj=>by
  rw[←qA (show some (J.put x v)=some J' from e),Env.get_put];have hf:J0.get x=none:=Q5.mp hf;by_cases h:x=j
  ·rw[h] at hf;rw[hf] at hj;injection hj
  ·rw[if_neg h];exact hk j w hj
 | .tup ts,v,J,J0,J',hf,hk,e,j,w,hj=>by
  obtain⟨l,_,h2⟩:=Qn ⟨[],false⟩ e;exact Z6 ts hf hk h2 j w hj
theorem Z6:∀(ts:CTs) {l:List AV}{J J0 J':Env},X8 ts J0=true→(∀j v,J0.get j=some v→J.get j=some v)→wp ts l J=some J'→∀j v,J0.get j=some v→J'.get j=some v
 | .nil,l,J,J0,J',_,hk,e,j,w,hj=>(kg e).2▸hk j w hj
 | .cons t r,l,J,J0,J',hf,hk,e,j,w,hj=>by
  obtain⟨y,l',J1,_,h1,h2⟩:=gx e;have hf:=qc hf;exact Z6 r hf.2 (Y8 t hf.1 hk h1) h2 j w hj
end
noncomputable def ZM(elt:Expr)(gens:List Comprehension)(scope:Scope)(pos:Pos)(n:Nat)(it acc:Value)(env:PySem.Env):Option Comprehension→Sem Fin
 |some g'=>do
  let x ←eval g'.iter env
  standAt g'.iter.pos
  if (g'.is_async != 0)=true then do
   let x ←foldedIterable g'.iter x
   let i ←holding [x] (if (g'.is_async != 0)=true then asyncIter x else pyIter x)
   let _ ←runOwn (.compStart (.ListComp elt gens scope pos) (n+1) i acc env) env
   again (.compLoop (.ListComp elt gens scope pos) n it acc env)
  else do
   let x ←foldedSetIterable g'.iter env x
   let i ←holding [x] (if (g'.is_async != 0)=true then asyncIter x else pyIter x)
   let _ ←runOwn (.compStart (.ListComp elt gens scope pos) (n+1) i acc env) env
   again (.compLoop (.ListComp elt gens scope pos) n it acc env)
 |none=>do
  (do let v ←eval elt env;let _ ←PySem.call (.builtin "list.append") [acc,v];pure ())
  again (.compLoop (.ListComp elt gens scope pos) n it acc env)
theorem Kc(h:gens[n]? = some ⟨tx,ix,fs,0⟩):
  compTurn (.ListComp elt gens scope pos) n it acc env=(do
   standAt ix.pos
   match ←pyNext it with
   |none=>pure (.done .next)
   |some v=>do
    letOwnedTupleGo tx it v
    assign tx env v
    let ok ←forIn fs true λc r=>if r=true then do let ok ←isTrue c env (eval c env);pure (ForInStep.yield ok) else pure (ForInStep.yield r)
    if ok=true then ZM elt gens scope pos n it acc env gens[n+1]?
    else again (.compLoop (.ListComp elt gens scope pos) n it acc env)):=by
 have h0:((0:Int) != 0)=false:=rfl;unfold compTurn;simp only[h,h0,Bool.false_eq_true,if_false];congr 1
end
section
variable {g:Glb}{C:Cfg}{d:Nat}{K:Ctx}{A:Around}{s s1:Shared}{Z:Addr→Prop}{bs:List Nat}{ρ ρ1:qG}{U U1 U':St}{E:Value→Shared→Prop}
noncomputable def qiH(K:Ctx)(J:Env)(t:CT)(ifs:CEs)(more:CL)(x:AV)(s:St):Mine.R (List AV):=ob (jC t x J) λJ'=>bnd (vf K J' ifs s) λb s=>bif b then xH K J' more s else some ([],s)
noncomputable def Kn(g:Glb)(C:Cfg)(d:Nat)(K:Ctx):CL→Prop
 | .elt e=>SE g C d K e
 | .cons _ ci ifs more=>SI g C d K ci∧w7 g C d K ifs∧Kn g C d K more
theorem qaj{elt:Expr}{gens:List Comprehension}{scope:Scope}{pos:Pos}{n:Nat}{it:Addr}{acc:Value}{env:PySem.Env}{tx ix:Expr}{fs:List Expr}{X:Addr→Prop}{held:List (Nat×List AV)}{S:List AV→qG→St→Heap→Prop}{items:List AV}{R:Result→Shared→Prop}(h:gens[n]? = some ⟨tx,ix,fs,0⟩)(O:IterOk g A tx it X Z held S)(hS:S items ρ U s.heap)(hl:codeAny (model g.prog g.w) A (.compLoop (.ListComp elt gens scope pos) n (.ref it) acc env) R s):
  codeAny (model g.prog g.w) A (.compStart (.ListComp elt gens scope pos) n (.ref it) acc env) R s:=by
 refine gT ?_;show wpAny _ _ ((compStart (.ListComp elt gens scope pos) n (.ref it) acc env).onRaise (λx=>do noteFrame x env;standAt theWindowsPlace)) _ _ s
 refine wpAny_notedAt ?_;have hcl:clausesOf (.ListComp elt gens scope pos)=gens:=rfl;have h0:((0:Int) != 0)=false:=rfl;unfold compStart;simp only[hcl,h,Option.elim,h0,Bool.false_eq_true,if_false];refine qe (x9 ?_);split
 ·exact qe (qp (qp ⟨rfl,hl⟩))
 ·exact qe (wpAny_rule (qe (wk (qe (O.self hS (qp ⟨rfl,hl⟩))))))
end
section
variable {g:Glb}{C:Cfg}{d:Nat}{K:Ctx}
theorem D1:xH K J (.cons t ci ifs more) s=bnd (xG K J ci s) λsrc s=>bif !yG t J then none else yw src.held (qiH K J t ifs more) src.items s:=by
 rfl
theorem ER.step{Y Z:Addr→Prop}{bs:List Nat}{ρ ρ':qG}{U U':St}{s s':Shared}{env:PySem.Env}{J:Env}(R:Rel g Z bs ρ U s.heap)(e:ER g Z ρ U s.heap env J)(p:Post Y ρ U s ρ' U' s')(hY:∀b,Y b→Z b)(nl:¬ Y env.locals)(nc:∀x c,env.cells.lookup x=some c→¬ Y c):ER g Z ρ' U' s'.heap env J where
 ns:=by
  obtain⟨m,⟨o,es,ep,ho,r⟩,hv⟩:=e.ns;refine⟨m,⟨o,es,ep,p.ext _ _ ho nl (R.notFoot e.zL),r⟩,λi v x a b c=>?_⟩;obtain⟨val,q1,q2⟩:=hv i v x a b c;exact⟨val,q1,q2.post p hY⟩
 cell x c hc:=by
  obtain⟨ov,⟨o,ho,hd⟩,hv⟩:=e.cell x c hc;refine⟨ov,⟨o,p.ext _ _ ho (nc x c hc) (R.notFoot (e.zC x c hc)),hd⟩,λi v a b k=>?_⟩;obtain⟨val,q1,q2⟩:=hv i v a b k;exact⟨val,q1,q2.post p hY⟩
 zL:=e.zL
 zC:=e.zC
theorem ER.more{X2 Z:Addr→Prop}{bs:List Nat}{ρ ρ':qG}{U U':St}{s s':Shared}{env:PySem.Env}{J:Env}(R:Rel g Z bs ρ U s.heap)(e:ER g Z ρ U s.heap env J)(p:Post jZ ρ U s ρ' U' s')(hX:∀b,X2 b→¬ Lv s.heap b):ER g (Zu Z X2) ρ' U' s'.heap env J where
 ns:=by
  obtain⟨m,⟨o,es,ep,ho,r⟩,hv⟩:=e.ns;refine⟨m,⟨o,es,ep,p.ext _ _ ho id (R.notFoot e.zL),r⟩,λi v x a b c=>?_⟩;obtain⟨val,q1,q2⟩:=hv i v x a b c;exact⟨val,q1,RA.post (X:=jZ) (q2.zless (Z':=Zu Z X2) λb hb=>by
   rcases hb with hb | hb
   ·exact .inl hb
   ·exact .inr (hX b hb)) p λB h=>False.elim h⟩
 cell x c hc:=by
  obtain⟨ov,⟨o,ho,hd⟩,hv⟩:=e.cell x c hc;refine⟨ov,⟨o,p.ext _ _ ho id (R.notFoot (e.zC x c hc)),hd⟩,λi v a b k=>?_⟩;obtain⟨val,q1,q2⟩:=hv i v a b k;exact⟨val,q1,RA.post (X:=jZ) (q2.zless (Z':=Zu Z X2) λb hb=>by
   rcases hb with hb | hb
   ·exact .inl hb
   ·exact .inr (hX b hb)) p λB h=>False.elim h⟩
 zL:=.inl e.zL
 zC x c hc:=.inl (e.zC x c hc)
theorem RA.drop{Z Z':Addr→Prop}{ρ:qG}{U:St}{h:Heap}{v:Value}{x:AV}(r:RA ρ (Fz Z' ρ U) h v x)(k:∀b,Z b→Z' b):RA ρ (Fz Z ρ U) h v x:=r.mono (λB B B e=>e) λb o e f B=>⟨e,λz=>f.1 (k b z),f.2⟩
theorem RAs.drop'{Z Z':Addr→Prop}{ρ:qG}{U:St}{h:Heap}{v:List Value}{x:List AV}(r:RAs ρ (Fz Z' ρ U) h v x)(k:∀b,Z b→Z' b):RAs ρ (Fz Z ρ U) h v x:=r.mono (λB B B e=>e) λb o e f B=>⟨e,λz=>f.1 (k b z),f.2⟩
theorem ER.drop{Z Z':Addr→Prop}{ρ:qG}{U:St}{h:Heap}{env:PySem.Env}{J:Env}(e:ER g Z' ρ U h env J)(k:∀b,Z b→Z' b)(zl:Z env.locals)(zc:∀x c,env.cells.lookup x=some c→Z c):ER g Z ρ U h env J where
 ns:=by
  obtain⟨m,hn,hv⟩:=e.ns;refine⟨m,hn,λi v x a b c=>?_⟩;obtain⟨val,q1,q2⟩:=hv i v x a b c;exact⟨val,q1,q2.drop k⟩
 cell x c hc:=by
  obtain⟨ov,hi,hv⟩:=e.cell x c hc;refine⟨ov,hi,λi v a b kk=>?_⟩;obtain⟨val,q1,q2⟩:=hv i v a b kk;exact⟨val,q1,q2.drop k⟩
 zL:=zl
 zC:=zc
noncomputable abbrev Z0(g:Glb)(K:Ctx)(A:Around)(env:PySem.Env)(X Zb XI:Addr→Prop)(D it:Addr)(elt:Expr)(gens:List Comprehension)(scope:Scope)(pos:Pos)(n:Nat)(more:CL):Prop :=
 ∀{s:Shared}{bs:List Nat}{ρ:qG}{U U':St}{J:Env}{ws:List Value}{ys:List AV}{R:Result→Shared→Prop}{E:Value→Shared→Prop},xH K J more U=some (ys,U') →
  Rel g (Zu Zb XI) bs ρ U s.heap→ER g (Zu Zb XI) ρ U s.heap env J→s.heap.PlainList D ws.toArray→ws.length+ys.length≤jl →
  (∀s' ρ' us,Rel g (Zu Zb XI) bs ρ' U' s'.heap→ER g (Zu Zb XI) ρ' U' s'.heap env J→Post (λb=>X b∨b=D) ρ U s ρ' U' s'→s'.heap.PlainList D (ws++us).toArray→RAs ρ' (Fz (Zu Zb XI) ρ' U') s'.heap us ys →
   codeAny (model g.prog g.w) A (.compLoop (.ListComp elt gens scope pos) n (.ref it) (.ref D) env) R s') →
  wpAny (model g.prog g.w) A (ZM elt gens scope pos n (.ref it) (.ref D) env gens[n+1]?) (λfin s'=>match fin with | .done f=>R (.ok f) s' | .again c'=>c'.quiet=true∧codeAny (model g.prog g.w) A c' R s') E s
theorem vp{h h':Heap}{D:Addr}{ws:Array Value}(p:h.PlainList D ws)(k:∀o,h.get? D=some o→h'.get? D=some o):h'.PlainList D ws:=by obtain⟨n,e⟩:=p;exact⟨n,k _ e⟩
theorem qaq(G:GOk g)(W:Wired g C){more:CL}{t:CT}{ifs:CEs}{elt:Expr}{gens:List Comprehension}{scope:Scope}{pos:Pos}{n:Nat}{tx ix:Expr}{fs:List Expr}{sc:qv}{A:Around}{env:PySem.Env}{asg:Str→Bool}{X Zb XI:Addr→Prop}{D it:Addr}{held:List (Nat×List AV)}{S:List AV→qG→St→Heap→Prop}(hifs:w7 g C d K ifs)(hg:gens[n]? = some ⟨tx,ix,fs,0⟩)(ht:yd C t sc tx=true)(ho:gZ asg t tx=true)(hfs:jn C ifs sc fs=true)(H:Here g d A env sc asg X)(O:IterOk g A tx it XI Zb held S)(hd:∀b,Zb b→¬ XI b)(zD:Zb D)(xD:¬ X D)(zl:Zb env.locals)(zc:∀x c,env.cells.lookup x=some c→Zb c∧c≠D)(hB:Z0 g K A env X Zb XI D it elt gens scope pos n more):
  ∀(items:List AV) {s:Shared}{bs:List Nat}{ρ:qG}{U U':St}{J:Env}{ws:List Value}{ys:List AV}{R:Result→Shared→Prop},yG t J=true→jB held U=true→yw held (qiH K J t ifs more) items U=some (ys,U') →
  Rel g (Zu Zb XI) bs ρ U s.heap→ER g (Zu Zb XI) ρ U s.heap env J→S items ρ U s.heap→s.heap.PlainList D ws.toArray→ws.length+ys.length≤jl →
  (∀s' ρ' us,Rel g Zb bs ρ' U' s'.heap→ER g Zb ρ' U' s'.heap env J→Post (λb=>(X b∨b=D)∨XI b) ρ U s ρ' U' s'→s'.heap.PlainList D (ws++us).toArray→RAs ρ' (Fz Zb ρ' U') s'.heap us ys→R (.ok .next) s') →
  codeAny (model g.prog g.w) A (.compLoop (.ListComp elt gens scope pos) n (.ref it) (.ref D) env) R s:=by
 have hX:∀b,X b→Zb b:=λb hb=>orEq (H.ok.xs b hb) zl λ⟨y,hy⟩=>(zc y b hy).1;intro items;induction items with
 |nil =>
  intro s bs ρ U U' J ws ys R hfr hk0 e Rl er hS hP hl k;simp only[Ka,Kb,Option.some.injEq,Prod.mk.injEq] at e;obtain⟨rfl,rfl⟩:=e;refine gT ?_;show wpAny _ A ((compTurn (.ListComp elt gens scope pos) n (.ref it) (.ref D) env).onRaise (λx=>do noteFrame x env;theTreesLotGoes x)) _ _ s
  refine wpAny_noted ?_;rw[Kc hg];refine qe (wk (qe (zS (O.turn (λs'=>R (.ok .next) s') (λB B B B=>False) Rl hS (λB s' R' P'=>?_) (λx r hx=>by injection hx)) (λr s' hr=>?_) λB B e=>e)))
  ·have e1:=((er.step Rl P' (λb hb=>.inr hb) (hd _ zl) (λx c h=>hd _ (zc x c h).1))).drop (Z:=Zb) (λb hb=>.inl hb) zl λx c h=>(zc x c h).1
   exact k s' ρ [] R' e1 (P'.wider λB h=>.inr h) (by rw[zR];exact vp hP λo e=>P'.ext D o e (hd D zD) (Rl.notFoot (.inl zD))) .nil
  ·induction r with
   |none=>exact qp hr.2
   |some v=>exact qe (zS hr (λB s2 h2=>by obtain⟨x,r,hx,_⟩:=h2;injection hx) λB B e=>e)
 |cons x r ih =>
  intro s bs ρ U U' J ws ys R hfr hk0 e Rl er hS hP hl k;simp only[Ka,Kb] at e;obtain⟨ys1,U1,e1,e⟩:=qm e;cases hk:jB held U1 with
  |false=>rw[hk] at e;injection e
  |true =>
  rw[hk,cond_true] at e;obtain⟨zs,U2,e2,e⟩:=qm e;obtain⟨rfl,rfl⟩:=qx e;obtain⟨J1,hJ1,e0⟩:=qo (o:=jC t x J) (k:=λJ'=>bnd (vf K J' ifs U) λb s=>bif b then xH K J' more s else some ([],s)) e1;obtain⟨b,U3,e3,e4⟩:=qm e0;rw[qU] at hl;have hkeep:=Y8 t hfr (λB B h=>h) hJ1;have next:∀(s0:Shared) (ρ0:qG),Rel g (Zu Zb XI) bs ρ0 U s0.heap→S r ρ0 U s0.heap→Post (λb=>X b∨XI b) ρ U s ρ0 U s0 →
    ∀s' ρ' us,Rel g (Zu Zb XI) bs ρ' U1 s'.heap→ER g (Zu Zb XI) ρ' U1 s'.heap env J1→Post (λb=>X b∨b=D) ρ0 U s0 ρ' U1 s'→s'.heap.PlainList D (ws++us).toArray→RAs ρ' (Fz (Zu Zb XI) ρ' U1) s'.heap us ys1 →
    codeAny (model g.prog g.w) A (.compLoop (.ListComp elt gens scope pos) n (.ref it) (.ref D) env) R s':=by
   intro s0 ρ0 R0 S0 P0 s' ρ' us R' er' P' hP' hus;have hXD:∀b,X b∨b=D→Zu Zb XI b∧¬ XI b:=λb hb=>eqOr hb (λhb=>⟨.inl (hX b hb),hd b (hX b hb)⟩) ⟨.inl zD,hd _ zD⟩;have S':=O.keep R0 S0 P' hXD hk;refine ih (ws:=ws++us) hfr hk e2 R' (er'.weak hkeep) S' hP' (by rw[qU,hus.length];exact qu (jR (jQ _ _ _)) hl) λs'' ρ'' vs R'' er'' P'' hP'' hvs=>?_;refine k s'' ρ'' (us++vs) R'' er'' ((P0.wider λb hb=>?_).trans ((P'.wider λb hb=>.inl hb).trans P'')) (by rw[←wj];exact hP'') (RAs.append ?_ hvs)
   ·rcases hb with hb | hb
    ·exact .inl (.inl hb)
    ·exact .inr hb
   ·exact(RAs.post (Z:=Zu Zb XI) hus P'' λb hb=>by
     rcases hb with hb | hb
     ·exact(hXD b hb).1
     ·exact .inr hb).drop' λb hb=>.inl hb
  refine gT ?_;show wpAny _ A ((compTurn (.ListComp elt gens scope pos) n (.ref it) (.ref D) env).onRaise (λx=>do noteFrame x env;theTreesLotGoes x)) _ _ s
  refine wpAny_noted ?_;rw[Kc hg];refine qe (wk (qe (zS (O.turn (λB=>False) (λy r' v s'=>y=x∧r'=r∧Rel g (Zu Zb XI) bs ρ U s'.heap∧Post XI ρ U s ρ U s'∧RA ρ (Fz (Zu Zb XI) ρ U) s'.heap v x∧S r ρ U s'.heap) Rl hS (λh=>by injection h) (λx' r' hx v s' a1 a2 a3 a4=>by injection hx with hx hx1q;subst hx;subst hx1q;exact⟨rfl,rfl,a1,a2,a3,a4⟩)) (λo s' hr=>?_) λB B e=>e)));induction o with
  |none=>exact absurd hr.1 (by simp)
  |some v =>
   refine qe (zS hr (λB s1 h1=>?_) λB B e=>e);obtain⟨y,r',hyr,rfl,rfl,R1,P1,ra1,S1⟩:=h1;have er1:ER g (Zu Zb XI) ρ U s1.heap env J:=er.step Rl P1 (λb hb=>.inr hb) (hd _ zl) (λx c h=>hd _ (zc x c h).1);have hP1:s1.heap.PlainList D ws.toArray:=vp hP λo e=>P1.ext D o e (hd D zD) (Rl.notFoot (.inl zD));refine qe ((ke G W t).ok ht ho H R1 er1 ra1 hJ1 λs2 R2 er2 P2=>?_);have hP2:s2.heap.PlainList D ws.toArray:=vp hP1 λo e=>P2.ext D o e xD (R1.notFoot (.inl zD));have S2:S r' ρ U s2.heap:=O.keep R1 S1 P2 (λb hb=>⟨.inl (hX b hb),hd b (hX b hb)⟩) hk0;refine qe (qeS ifs hifs hfs H R2 er2 e3 λs3 ρ3 R3 P3=>?_);have P03:Post (λb=>X b∨XI b) ρ U s ρ U s2:=(P1.wider λB h=>.inr h).trans (P2.wider λB h=>.inl h);have hP3:s3.heap.PlainList D ws.toArray:=vp hP2 λo e=>P3.ext D o e id (R2.notFoot (.inl zD));have er3:=er2.post R2 P3;induction b with
   |true =>
    simp only[cond_true] at e4;simp only[if_true];refine hB e4 R3 er3 hP3 (qu (qu (qS _ _) (jR (jQ _ _ _))) hl) λs4 ρ4 us R4 er4 P4 hP4 hus=>?_;exact next s2 ρ R2 S2 P03 s4 ρ4 us R4 er4 ((P3.wider λB h=>h.elim).trans P4) hP4 hus
   |false =>
    simp only[cond_false,Option.some.injEq,Prod.mk.injEq] at e4;obtain⟨rfl,rfl⟩:=e4;simp only[Bool.false_eq_true,if_false];exact qp ⟨rfl,next s2 ρ R2 S2 P03 s3 ρ3 [] R3 er3 (P3.wider λB h=>h.elim) (by rw[zR];exact hP3) .nil⟩
set_option tactic.hygienic true in
theorem Z9(U:St)(v:AV):jB (yh U v) U=true:=by
 induction v using Mine.AV.casesOn with
 |ref i =>
  simp only[yh];split
  ·rename_i l hl
   simp[jB,By,hl,AV.sames_refl]
  ·rfl
 |_=>rfl
theorem ZJ(e:wo v U=some src):src.held=yh U v:=by
 obtain⟨l,_,e1⟩:=qo e;obtain⟨_,e2⟩:=qI e1;rw[←qA e2]
theorem qhi(h1:jB a s=true)(h2:jB b s=true):jB (a++b) s=true:=(List.all_append ..).trans (zp.mpr ⟨h1,h2⟩)
theorem Kw(e:xG K J ci U=some (src,U')):jB src.held U'=true:=by
 induction ci using Mine.CI.casesOn with
 |it a =>
  obtain⟨v,U1,e1,ea⟩:=qm e;obtain⟨y,hy,eb⟩:=y4 ea;injection eb with eb eb1q;subst eb;subst eb1q;rw[ZJ hy];exact Z9 _ _
 |range1 a =>
  obtain⟨v,U1,e1,ea⟩:=qm e;obtain⟨n,_,eb⟩:=jF ea;obtain⟨_,ec⟩:=qI eb;obtain⟨rfl,_⟩:=qx ec;rfl
 |range2 a b =>
  obtain⟨v,U1,e1,ea⟩:=qm e;obtain⟨w,U2,e2,eb⟩:=qm ea;obtain⟨n,_,ec⟩:=jF eb;obtain⟨m,_,ed⟩:=jF ec;obtain⟨_,ee⟩:=qI ed;obtain⟨rfl,_⟩:=qx ee;rfl
 |zip a b =>
  obtain⟨v,U1,e1,ea⟩:=qm e;obtain⟨w,U2,e2,eb⟩:=qm ea;obtain⟨x,hx,ec⟩:=qo eb;obtain⟨y,hy,ed⟩:=qo ec;obtain⟨rfl,rfl⟩:=qx ed;show jB (x.held++y.held) _=true
  rw[ZJ hx,ZJ hy];exact qhi (Z9 _ v) (Z9 _ w)
theorem qgL(G:GOk g){e:CE}(he:SE g C d K e){elt:Expr}{gens:List Comprehension}{scope:Scope}{pos:Pos}{n:Nat}{sc:qv}{A:Around}{env:PySem.Env}{asg:Str→Bool}{X Zb XI:Addr→Prop}{D it:Addr}(hg:gens[n+1]? = none)(hc:qC C e sc elt=true)(H:Here g d A env sc asg X)(zD:Zb D)(zc:∀x c,env.cells.lookup x=some c→Zb c∧c≠D)(dl:D≠env.locals):Z0 g K A env X Zb XI D it elt gens scope pos n (.elt e):=by
 intro s bs ρ U U' J ws ys R E ev Rl er hP hl k;refine wZ λGo hGo=>?_;obtain⟨v,U1,e1,ev⟩:=qm ev;obtain⟨rfl,rfl⟩:=qx ev;refine hGo ?_;rw[hg];unfold ZM;refine qe (qe (he.ok hc H Rl er e1 λva s1 ρ1 R1 P1 q1=>qe ?_));have hP1:=vp hP λo e=>P1.ext D o e id (Rl.notFoot (.inl zD));have hbl:=wG;simp only[List.length_singleton] at hl;refine wpAny_list_append_plain hP1 (λh' hp hsb=>?_) (by rw[ze];exact qu (Nat.le_of_succ_le hl) (by rw[yO];decide));refine qp (qp ⟨rfl,?_⟩);have Pd:Post (λb=>b=D) ρ1 U1 s1 ρ1 U1 { s1 with heap:=h' }:=Post.inX (λb o e hb=>hsb.extBut b o hb e) rfl rfl;have hlv:Lv h' D:=by obtain⟨n,e⟩:=hp;exact⟨_,e⟩
 have R2:Rel g (Zu Zb XI) bs ρ1 U1 h':=R1.inZ (λb o e hz=>hsb.extBut b o (λq=>hz (.inl (q▸zD))) e) (vm hsb hlv);have er2:ER g (Zu Zb XI) ρ1 U1 h' env J:=ER.step (s':={ s1 with heap:=h' }) R1 (er.post Rl P1) Pd (λb hb=>.inl (hb▸zD)) (λh=>dl h.symm) λx c hx h=>(zc x c hx).2 h;refine k { s1 with heap:=h' } ρ1 [va] R2 er2 ((P1.wider λB h=>h.elim).trans (Pd.wider λB h=>.inr h)) (by simpa using hp) (.cons ?_ .nil);exact q1.mono (λB B B e=>e) λb o e f B=>⟨hsb.extBut b o (λq=>f.1 (.inl (q▸zD))) e,f⟩
theorem qei(G:GOk g)(W:Wired g C){t2:CT}{ci2:CI}{ifs2:CEs}{more2:CL}{elt:Expr}{gens:List Comprehension}{scope:Scope}{pos:Pos}{n:Nat}{tx ix:Expr}{fs:List Expr}{sc:qv}{A:Around}{env:PySem.Env}{asg:Str→Bool}{X Zb XI:Addr→Prop}{D it:Addr}(hi:SI g C d K ci2)(hifs:w7 g C d K ifs2)(hg:gens[n+1]? = some ⟨tx,ix,fs,0⟩)(ht:yd C t2 sc tx=true)(ho:gZ asg t2 tx=true)(hci:Zm C ci2 sc tx ix=true)(hfs:jn C ifs2 sc fs=true)(H:Here g d A env sc asg X)(zD:Zb D)(xD:¬ X D)(zl:Zb env.locals)(zc:∀x c,env.cells.lookup x=some c→Zb c∧c≠D)(hd:∀b,Zb b→¬ XI b)(hB:∀{X2:Addr→Prop}{it2:Addr},(∀b,Zu Zb XI b→¬ X2 b)→Z0 g K A env X (Zu Zb XI) X2 D it2 elt gens scope pos (n+1) more2):Z0 g K A env X Zb XI D it elt gens scope pos n (.cons t2 ci2 ifs2 more2):=by
 intro s bs ρ U U' J ws ys R E ev Rl er hP hl k;rw[D1] at ev;obtain⟨src,U1,e1,ev⟩:=qm ev;cases hfr:yG t2 J with
 |false=>rw[hfr] at ev;injection ev
 |true =>
 rw[hfr] at ev;simp only[Bool.not_true,cond_false] at ev;rw[hg];unfold ZM;have h0:((0:Int) != 0)=false:=rfl;simp only[h0,Bool.false_eq_true,if_false];refine qe (zS (hi.ok hci H Rl er e1 (Q:=λi s2=>wpAny (model g.prog g.w) A (runOwn (.compStart (.ListComp elt gens scope pos) (n+1) i (.ref D) env) env) (λB s3=>codeAny (model g.prog g.w) A (.compLoop (.ListComp elt gens scope pos) n (.ref it) (.ref D) env) R s3) E s2) λit2 X2 S2 s2 ρ2 R2 P2 hX2 O2 hS2=>?_) (λx s1 h1=>?_) λB B e=>e)
 ·have hd2:∀b,Zu Zb XI b→¬ X2 b:=λb hb hx=>hX2 b hx (Rl.zlt hb).2
  have hP2:=vp hP λo e=>P2.ext D o e id (Rl.notFoot (.inl zD));have er2:ER g (Zu (Zu Zb XI) X2) ρ2 U1 s2.heap env J:=er.more Rl P2 hX2;have hX:∀b,X b→Zb b:=λb hb=>orEq (H.ok.xs b hb) zl λ⟨y,hy⟩=>(zc y b hy).1;refine wpAny_runOwn ?_;refine qaj hg (O2.ok _ hd2) hS2 ?_;refine qaq G W (Zb:=Zu Zb XI) (XI:=X2) hifs hg ht ho hfs H (O2.ok _ hd2) hd2 (.inl zD) xD (.inl zl) (λx c h=>⟨.inl (zc x c h).1,(zc x c h).2⟩) (hB hd2) src.items hfr (Kw e1) ev R2 er2 hS2 hP2 hl λs3 ρ3 us R3 er3 P3 hP3 hus=>?_;refine k s3 ρ3 us R3 er3 (((P2.wider λB h=>h.elim).trans P3).fresh λb hb lb=>?_) hP3 hus;rcases hb with hb | hb
  ·exact hb
  ·exact absurd lb (hX2 b hb)
 ·exact qe (wk (qe (wpAny_of_eq (Qv (Qo hci)) (qe (jX (zS h1 (λi s2 h2=>qe (zS h2 (λB s3 h3=>qp ⟨rfl,h3⟩) λB B e=>e)) λB B e=>e))))))
theorem qbd(G:GOk g)(W:Wired g C):∀(more:CL) {elt:Expr}{gens:List Comprehension}{scope:Scope}{pos:Pos}{n:Nat}{rest:List Comprehension}{sc:qv}{A:Around}{env:PySem.Env}{asg:Str→Bool}{X Zb XI:Addr→Prop}{D it:Addr},
  Kn g C d K more→gens.drop (n+1)=rest→QD C more sc elt rest=true→(∀t tx,qcV sc t tx=true→gZ asg t tx=true)→Here g d A env sc asg X→Zb D→¬ X D→Zb env.locals→(∀x c,env.cells.lookup x=some c→Zb c∧c≠D)→(∀b,Zb b→¬ XI b)→D≠env.locals →
  Z0 g K A env X Zb XI D it elt gens scope pos n more
 | .elt e,elt,gens,scope,pos,n,rest,sc,A,env,asg,X,Zb,XI,D,it,ha,hr,hc,ho,H,zD,xD,zl,zc,hd,dl=>by
  obtain⟨⟨hn⟩,h1⟩:=qk hc;have hg:gens[n+1]? = none:=List.getElem?_eq_none_iff.mpr (List.drop_eq_nil_iff.mp (hr.trans hn));exact qgL G ha hg h1 H zD zc dl
 | .cons t2 ci2 ifs2 more2,elt,gens,scope,pos,n,rest,sc,A,env,asg,X,Zb,XI,D,it,ha,hr,hc,ho,H,zD,xD,zl,zc,hd,dl=>by
  refine wZ λGo hGo=>?_;obtain⟨v,h⟩:=qk hc;obtain⟨h,h5⟩:=qc h;obtain⟨h,h4⟩:=qc h;obtain⟨h,h3⟩:=qc h;obtain⟨h1,h2⟩:=qc h;have hr:=hr.trans v.2;have hg:gens[n+1]? = some ⟨v.1.1,v.1.2.1,v.1.2.2.1,0⟩:=by
   have:=qz (·[0]?) hr;simpa using this
  have hr2:gens.drop (n+1+1)=v.1.2.2.2:=by
   have:=qz (List.drop 1) hr;simpa [List.drop_drop] using this
  refine hGo ?_;exact qei G W ha.1 ha.2.1 hg h1 (ho _ _ h2) h3 h4 H zD xD zl zc hd λ{X2 it2} hd2=>qbd G W more2 ha.2.2 hr2 h5 ho H (.inl zD) xD (.inl zl) (λx c h=>⟨.inl (zc x c h).1,(zc x c h).2⟩) hd2 dl
end
section
variable {g:Glb}{C:Cfg}{d:Nat}{K:Ctx}
noncomputable def zX(cells:List (Str×Addr)):List (Str×NameKind)→List (Str×Addr)→List (Str×Addr)
 |[],acc=>acc
 |(n,k)::r,acc=>zX cells r (if k == .free then (match cells.lookup n with | some a=>(n,a)::acc | none=>acc) else acc)
theorem DS(cells x:List (PySem.Str×PySem.Addr)): zX cells [] x=x:=rfl
theorem DT(cells x:List (PySem.Str×PySem.Addr))(n:PySem.Str)(k:PySem.NameKind)(r:List (PySem.Str×PySem.NameKind)): zX cells ((n,k)::r) x=zX cells r (if (k == PySem.NameKind.free)=true then match List.lookup n cells with | some a=>(n,a)::x | none=>x else x):=rfl
theorem Dg(h:∀x∈scope.names,x.2 = .free→∃c,env.cells.lookup x.1=some c):closureFor scope env=pure (zX env.cells scope.names []):=by
 unfold closureFor;have key:∀(l:List (Str×NameKind)) (acc:List (Str×Addr)),(∀x∈l,x.2 = .free→∃c,env.cells.lookup x.1=some c) →
   (forIn l acc λ(x:Str×NameKind) (cs:List (Str×Addr))=>if x.2 == .free then (do let a ←cellOf env x.1;pure (ForInStep.yield ((x.1,a)::cs)):Sem (ForInStep (List (Str×Addr)))) else pure (ForInStep.yield cs))=pure (zX env.cells l acc):=by
  intro l;induction l with
  |nil=>intro acc _;rfl
  |cons x l ih =>
   intro acc hl;obtain⟨n,k⟩:=x;rw[List.forIn_cons];cases hk:k == NameKind.free with
   |true =>
    obtain⟨c,hc⟩:=hl (n,k) (.head _) (by simpa using hk);simp only[hk,if_true,DS,DT];have:cellOf env n=pure c:=by unfold cellOf;rw[hc]
    rw[this];simp only[pure_bind,hc];exact ih _ λy hy=>hl y (.tail _ hy)
   |false =>
    simp only[hk,Bool.false_eq_true,if_false,DS,DT,pure_bind];exact ih _ λy hy=>hl y (.tail _ hy)
 have:=key scope.names [] h;simp only[bind_pure];exact this
set_option tactic.hygienic true in
theorem Df(cells:List (Str×Addr)):∀(l:List (Str×NameKind)) (acc:List (Str×Addr)),(∀x c,acc.lookup x=some c→cells.lookup x=some c)→∀x c,(zX cells l acc).lookup x=some c→cells.lookup x=some c:=by
 intro l;induction l with
 |nil =>
  intro acc h x c e;exact h x c e
 |cons hdq r ih =>
  intro acc h x c e;obtain⟨n,k⟩:=hdq;refine ih _ ?_ x c e;split
  ·split
   ·rename_i a ha
    intro y b hy;rw[yL] at hy;cases hb:y == n with
    |true =>
     rw[hb] at hy;have:y=n:=by simpa using hb
     subst this;simp only[Option.some.injEq] at hy;rw[ha,hy]
    |false=>rw[hb] at hy;exact h y b hy
   ·exact h
  ·exact h
theorem K2(cells:List (Str×Addr)):∀(l:List (Str×NameKind)) (acc:List (Str×Addr)) (x:Str),((acc.lookup x).isSome=true∨((x,NameKind.free)∈l∧(cells.lookup x).isSome=true))→((zX cells l acc).lookup x).isSome=true
 |[],acc,x,h=>by
  rcases h with h | h
  ·exact h
  ·simp at h
 |(n,k)::r,acc,x,h=>by
  refine K2 cells r _ x ?_;have up:∀(a:Addr),(acc.lookup x).isSome=true→(((n,a)::acc).lookup x).isSome=true:=λa ha=>by
   rw[yL];cases x == n <;> simp[ha]
  rcases h with h | ⟨h,hs⟩
  ·left
   split
   ·split
    ·exact up _ h
    ·exact h
   ·exact h
  ·rcases q7.mp h with e | h
   ·cases e
    left
    simp only[zP,if_true];cases hc:cells.lookup n with
    |none=>rw[hc] at hs;cases hs
    |some a=>simp[yL]
   ·exact .inr ⟨h,hs⟩
theorem Env.del_get(xs:List Nat):∀(J:Env) (i:Nat),(Env.del xs J).get i=if xs.contains i then none else J.get i:=by
 intro J;induction J with
 |nil =>
  intro i;simp[Env.del'1,Env.del'2,Env.get'1,Env.get'2]
 |cons hdq r ih =>
  intro i;obtain⟨j,w⟩:=hdq;simp only[Env.del'1,Env.del'2];cases hj:xs.contains j with
  |true =>
   simp only[cond_true];rw[ih i];by_cases hi:xs.contains i=true
   ·simp only[hi,if_true]
   ·simp only[hi,Env.get'1,Env.get'2]
    have:(j == i)=false:=by
     cases h:j == i with
     |false=>rfl
     |true =>
      have:j=i:=by simpa using h
      subst this;exact absurd hj hi
    rw[this];rfl
  |false =>
   simp only[cond_false,Env.get'1,Env.get'2];rw[ih i];cases h:j == i with
   |true =>
    have:j=i:=by simpa using h
    subst this;simp only[cond_true,hj,Bool.false_eq_true,if_false]
   |false=>simp only[cond_false]
end
section
variable {g:Glb}{C:Cfg}{d:Nat}{K:Ctx}
inductive CompI (C:Cfg) (xs:List Nat) (c:CL) (sc:qv) (x:Expr):Prop
 |mk (elt tx ix:Expr) (fs:List Expr) (r:List Comprehension) (s:Scope) (p:Pos) (e:x = .ListComp elt (⟨tx,ix,fs,0⟩::r) s p) (h1:Y2 s sc=true) (h2:qcB C xs s.names=true) (h3:qcy C c sc (w5 s.names sc) s.names elt tx ix fs r=true)
theorem qjF{x elt:Expr}{gs gs':List Comprehension}{s:Scope}{p:Pos}(e:x = .ListComp elt gs s p)(h:gs=gs'):x = .ListComp elt gs' s p:=by rw[e,h]
theorem Ky(h:qC C (.comp xs c) sc x=true):CompI C xs c sc x:=by
 obtain⟨v,h⟩:=qk h;obtain⟨h,h3⟩:=qc h;obtain⟨h1,h2⟩:=qc h;obtain⟨w,h3⟩:=qk h3;exact⟨_,_,_,_,_,_,_,qjF v.2 w.2,h1,h2,h3⟩
inductive LFI (C:Cfg) (c:CL) (sc sc' own:qv) (elt tx ix:Expr) (fs:List Expr) (r:List Comprehension):Prop
 |mk (t:CT) (ci:CI) (ifs:CEs) (more:CL) (e:c = .cons t ci ifs more) (h1:yd C t sc' tx=true) (h2:BA own t tx=true) (h3:Zm C ci sc tx ix=true) (h4:jn C ifs sc' fs=true) (h5:QD C more sc' elt r=true)
theorem qeV(h:qcy C c sc sc' own elt tx ix fs r=true):LFI C c sc sc' own elt tx ix fs r:=by
 induction c using Mine.CL.casesOn with
 |elt e=>injection h
 |cons t ci ifs more =>
  obtain⟨h,h5⟩:=qc h;obtain⟨h,h4⟩:=qc h;obtain⟨h,h3⟩:=qc h;obtain⟨h1,h2⟩:=qc h;exact⟨t,ci,ifs,more,rfl,h1,h2,h3,h4,h5⟩
theorem kG(sc:qv):∀(names:qv) (x:Str),(w5 names sc).lookup x=(names.lookup x).map λk=>if (k == .free&&sc.lookup x == some .cell) then .cell else k:=by
 intro names;induction names with
 |nil =>
  intro _;exact rfl
 |cons hdq r ih0 =>
  intro x;obtain⟨n,k⟩:=hdq;have ih:=ih0 x;show List.lookup x ((if (k == NameKind.free&&sc.lookup n == some .cell)=true then (n,NameKind.cell) else (n,k))::w5 r sc)=_
  have e:(if (k == NameKind.free&&sc.lookup n == some .cell)=true then (n,NameKind.cell) else (n,k))=(n,if (k == NameKind.free&&sc.lookup n == some .cell)=true then NameKind.cell else k):=by split <;> rfl
  rw[e,yL,yL];cases hx:x == n with
  |true =>
   have:x=n:=by simpa using hx
   subst this;rfl
  |false=>exact ih
theorem xi{names:qv}{x:Str}{k:NameKind}(h:names.lookup x=some k):(x,k)∈names:=by
 induction names with
 |nil=>simp at h
 |cons y r ih =>
  obtain⟨n,k'⟩:=y;rw[yL] at h;cases hx:x == n with
  |true =>
   rw[hx] at h;have:x=n:=by simpa using hx
   subst this;simp only[Option.some.injEq] at h;subst h;exact .head _
  |false=>rw[hx] at h;exact .tail _ (ih h)
theorem qds(hk:env.scope.kind = .function)(hn:∀y,env.kindOf y=sc.lookup y):(relabel scope env).names=w5 scope.names sc:=by
 unfold relabel w5;refine List.map_congr_left λx B=>?_;obtain⟨n,k⟩:=x;simp only[hk,hn,zP,Bool.and_true]
structure ScopeF (s:Scope) (sc:qv):Prop where
 kind:s.kind = .function
 cel:∀x∈s.names,x.2 = .cell→s.names.lookup x.1=some .cell
 loc:∀x∈s.names,x.2 = .local→s.names.lookup x.1=some .local
 free:∀x∈s.names,x.2 = .free→sc.lookup x.1=some .cell∨sc.lookup x.1=some .free
theorem qga(h:Y2 s sc=true):ScopeF s sc:=by
 have h:=qc h;have k:=λx hx=>qc (jV h.2 (x:=x) hx);have k1:=λx hx=>qc (k x hx).1;exact⟨Kz h.1,λx hx=>qr (k1 x hx).1,λx hx=>qr (k1 x hx).2,λx hx=>qr (k x hx).2⟩
theorem qgU{xs:List Nat}{x:Str}{k:NameKind}(h:(!decide (k = .local∨k = .cell)||(xs.any (λi=>w9 C i x)||!C.nm.any (· == x)))=true)(hk:k = .local∨k = .cell):(∃j,j∈xs∧w9 C j x=true)∨x ∉ C.nm:=by
 rw[qN hk,Bool.not_true,Bool.false_or] at h;rcases gR.mp h with h | h
 ·exact .inl (List.any_eq_true.mp h)
 ·exact .inr λhm=>absurd ((List.any_eq_true (p:=λy=>y == x)).mpr ⟨x,hm,zP x⟩) (by rw[not_true h];exact q9)
noncomputable def Z3(own:qv)(x:Str):Bool:=Du own x
theorem qcQ(h:Du own x=true):own.lookup x=some .local∨own.lookup x=some .cell:=qr h
theorem qcP(h:qcO own x=true):own.lookup x=some .local:=qr h
theorem BW{asg:Str→Bool}{i:Nat}{x:Expr}{p:Str→Bool}(hp:∀y,p y=true→asg y=true)(h:(on (zA x) λv=>p v.1.1)=true):gZ asg (.nm i) x=true:=by
 obtain⟨v,e,h⟩:=QV h;show(match zA x with | some v=>asg v.1.1 | none=>true)=true
 rw[e];exact hp _ h
theorem Hw{asg:Str→Bool}{ts:CTs}{x:Expr}{p:List Expr→Bool}(hp:∀y,p y=true→gz asg ts y=true)(h:(on (vq x) λv=>p v.1.1)=true):gZ asg (.tup ts) x=true:=by
 obtain⟨v,e,h⟩:=QV h;show(match vq x with | some v=>gz asg ts v.1.1 | none=>true)=true
 rw[e];exact hp _ h
theorem KI{asg:Str→Bool}{t:CT}{r:CTs}{xs:List Expr}{p:Expr→Bool}{q:List Expr→Bool}(hp:∀y,p y=true→gZ asg t y=true)(hq:∀y,q y=true→gz asg r y=true)(h:(on (Zp xs) λv=>p v.1.1&&q v.1.2)=true):gz asg (.cons t r) xs=true:=by
 obtain⟨v,h⟩:=qk h;have h:=qc h;rw[v.2];exact zp.mpr ⟨hp _ h.1,hq _ h.2⟩
mutual
theorem qbL(own:qv):∀(t:CT) (tx:Expr),BA own t tx=true→gZ (Z3 own) t tx=true
 | .nm _,x,h=>BW (λB h=>h) h
 | .tup ts,x,h=>Hw (λxs h=>BB own ts xs h) h
theorem BB(own:qv):∀(ts:CTs) (xs:List Expr),qcU own ts xs=true→gz (Z3 own) ts xs=true
 | .nil,_,_=>rfl
 | .cons t r,xs,h=>KI (λx h=>qbL own t x h) (λx h=>BB own r x h) h
end
theorem qhu(own sc:qv)(x:Str)(h:qcO (w5 own sc) x=true):Z3 own x=true:=by
 have h:=qcP h;rw[kG] at h;obtain⟨k,hn,hk⟩:=yK.mp h;unfold Z3 Du;rw[hn];induction k with
 | «local» => rfl
 |cell=>rfl
 |free =>
  split at hk
  ·injection hk
  ·injection hk
 |globalImplicit=>injection hk
 |globalExplicit=>injection hk
mutual
theorem qbM(own sc:qv):∀(t:CT) (tx:Expr),qcV (w5 own sc) t tx=true→gZ (Z3 own) t tx=true
 | .nm _,x,h=>BW (λy h=>qhu own sc y h) h
 | .tup ts,x,h=>Hw (λxs h=>BC own sc ts xs h) h
theorem BC(own sc:qv):∀(ts:CTs) (xs:List Expr),qcW (w5 own sc) ts xs=true→gz (Z3 own) ts xs=true
 | .nil,_,_=>rfl
 | .cons t r,xs,h=>KI (λx h=>qbM own sc t x h) (λx h=>BC own sc r x h) h
end
set_option tactic.hygienic true in
theorem vL:∀{names:List (Str×NameKind)}{n:Str}{k:Nat}{acc:List (Str×Addr)},(n,NameKind.cell)∈names∨(acc.lookup n).isSome=true→((cellsFrom k names acc).lookup n).isSome=true:=by
 intro names;induction names with
 |nil =>
  intro n k acc h;rcases h with h | h
  ·simp at h
  ·exact h
 |cons hdq r ih =>
  intro n k acc h;obtain⟨m,kd⟩:=hdq;unfold cellsFrom;split
  ·refine ih ?_
   rcases h with h | h
   ·rcases q7.mp h with e | h
    ·injection e with e e1q;subst e;subst e1q;right;simp
    ·exact .inl h
   ·right
    rw[yL];split
    ·rfl
    ·exact h
  ·rename_i hk
   refine ih ?_;rcases h with h | h
   ·rcases q7.mp h with e | h
    ·injection e with e e1q;subst e;subst e1q;simp at hk
    ·exact .inl h
   ·exact .inr h
theorem Dd:∀(names:List (Str×NameKind)) (n:Nat) (acc:List (Str×Addr)),cellsFrom n names acc=cellsFrom n names []++acc:=by
 intro names;induction names with
 |nil =>
  intro n acc;exact rfl
 |cons hdq r ih =>
  intro n acc;obtain⟨m,k⟩:=hdq;unfold cellsFrom;split
  ·rw[ih (n+1) ((m,n)::acc),ih (n+1) [(m,n)],wj];rfl
  ·exact ih n acc
theorem qaC{M:Model}{A:Around}{E:Value→Shared→Prop}{s:Shared}{scope:Scope}{globals:Addr}{closure:List (Str×Addr)}{qual:Str}{env:PySem.Env}{Q:PySem.Env→Shared→Prop}(hQ:Q (newEnv scope s.heap.objs.size globals (cellsFrom (s.heap.objs.size+1) scope.names closure) qual none .none (some env) builtinsNs) { s with heap:=pushCells (s.heap.push { cls:=.type "dict",data:=.dict #[] }) scope.names }):
  wpAny M A (newFunctionEnv scope globals closure [] qual none .none (some env)) Q E s:=by
 simp only[newFunctionEnv,Option.isSome_some,if_true];refine qe (wpAny_alloc ?_);refine qe (wpAny_layCells _ (λname kind cells=>by cases hkc:kind == NameKind.cell <;> simp[hkc]) _ _ _ _ ?_);rw[show({ s with heap:=s.heap.push { cls:=.type "dict",data:=.dict #[] } }:Shared).heap.objs.size=s.heap.objs.size+1 from yq ..];refine qe ?_;rw[List.forIn_nil];exact qp (qp hQ)
set_option tactic.hygienic true in
theorem Ks:∀(names:List (Str×NameKind)) (k:Nat) (acc:List (Str×Addr)) (n:Str) (c:Addr),(n,c)∈cellsFrom k names acc→(n,c)∈acc∨(n,NameKind.cell)∈names:=by
 intro names;induction names with
 |nil =>
  intro k acc n c h;exact .inl h
 |cons hdq r ih =>
  intro k acc n c h;obtain⟨m,kd⟩:=hdq;unfold cellsFrom at h;split at h
  ·rename_i hk
   rcases ih (k+1) _ n c h with h | h
   ·rcases q7.mp h with e | h
    ·injection e with e e1q;subst e;subst e1q
     have:kd=NameKind.cell:=by simpa using hk
     subst this;exact .inr (.head _)
    ·exact .inl h
   ·exact .inr (.tail _ h)
  ·rcases ih k acc n c h with h | h
   ·exact .inl h
   ·exact .inr (.tail _ h)
theorem De(h:(cellsFrom k names []).lookup n=some c):(n,NameKind.cell)∈names:=by
 rcases Ks names k [] n c (mem_of_lookup h) with h | h
 ·simp at h
 ·exact h
noncomputable def vP(D L:Addr)(own:List (Str×Addr))(b:Addr):Prop:=b=D∨b=L∨∃n,own.lookup n=some b
@[elab_as_elim] theorem vP.elim' {p:Addr→Prop}{D L b:Addr}{own:List (Str×Addr)}(h:vP D L own b) (h1:p D) (h2:p L) (h3:∀n c,own.lookup n=some c→p c):p b:=orEq h h1 λh=>orEq h h2 λ⟨n,h⟩=>h3 n b h
noncomputable def DC(L:Addr)(own:List (Str×Addr))(b:Addr):Prop:=b=L∨∃n,own.lookup n=some b
noncomputable def YG(sco:Scope)(L:Addr)(env:PySem.Env)(own:List (Str×Addr)):PySem.Env:={ newEnv sco L env.globals (own++zX env.cells sco.names []) env.qual none .none (some env) builtinsNs with scope:=relabel sco env }
theorem HR(G:GOk g)(W:Wired g C){t:CT}{ci:CI}{ifs:CEs}{more:CL}(hi:SI g C d K ci)(hifs:w7 g C d K ifs)(hm:Kn g C d K more){xs:List Nat}{elt tx ix:Expr}{fs:List Expr}{r:List Comprehension}{sco:Scope}{pos:Pos}{sc:qv}{A:Around}{s:Shared}{env:PySem.Env}{asg:Str→Bool}{X Z:Addr→Prop}{J:Env}{bs:List Nat}{ρ:qG}{U U':St}{E:Value→Shared→Prop}{ys:List AV}{use:Option (Value→Sem Unit)}{Q:Value→Shared→Prop}{p2:Pos}(hs:Y2 sco sc=true)(hdel:qcB C xs sco.names=true)(ht:yd C t (w5 sco.names sc) tx=true)(hl:BA sco.names t tx=true)(hci:Zm C ci sc tx ix=true)(hfs:jn C ifs (w5 sco.names sc) fs=true)(hmore:QD C more (w5 sco.names sc) elt r=true)(H:Here g d A env sc asg X)(R:Rel g Z bs ρ U s.heap)(er:ER g Z ρ U s.heap env J)(e:xH K (Env.del xs J) (.cons t ci ifs more) U=some (ys,U'))(hlen:ys.length≤jl)(k:∀s' ρ' L D,Rel g (Zu Z λb=>b=L) bs ρ' U' s'.heap→RA ρ' (Fz (Zu Z λb=>b=L) ρ' U') s'.heap (.ref D) (mkLst ys)→ER g (Zu Z λb=>b=L) ρ' U' s'.heap env J→Post jZ ρ U s ρ' U' s'→(∃m,s'.heap.Ns L m)→¬ Lv s.heap L→compPost (model g.prog g.w) A E use Q (.ref D) L (.ok .next) s'):
  wpAny (model g.prog g.w) A (comprehension (.ListComp elt (⟨tx,ix,fs,0⟩::r) sco pos) sco env p2 (newList []) false (eval ix env) use) Q E s:=by
 have F:=qga hs;have hkind:=H.kind;have hfree:∀x∈sco.names,x.2 = .free→∃c,env.cells.lookup x.1=some c:=λx hx e=>H.ok.held x.1 (by rw[hkind];exact F.free x hx e);rw[D1] at e;obtain⟨src,U1,e1,e⟩:=qm e;cases hfr:yG t (Env.del xs J) with
 |false=>rw[hfr] at e;injection e
 |true =>
 rw[hfr] at e;simp only[Bool.not_true,cond_false] at e;have hdelJ:∀j v,(Env.del xs J).get j=some v→J.get j=some v∧xs.contains j=false:=λj v hj=>by
  rw[Env.del_get] at hj;cases hc:xs.contains j with
  |true=>rw[hc] at hj;simp at hj
  |false=>rw[hc] at hj;exact⟨by simpa using hj,rfl⟩
 have er0:ER g Z ρ U s.heap env (Env.del xs J):=er.weak λj v hj=>(hdelJ j v hj).1;refine wpAny_comprehension_free (cl:=zX env.cells sco.names []) rfl (λx=>Qv (Qo hci)) (Dg hfree) F.kind F.loc
  (hi.ok hci H R er0 e1 λit XI S s2 ρ2 R2 P2 hXI O hS=>?_)
 refine wpAny_newObj_type ?_ (j4 _);refine qaC ?_;have hD0:∀b o,s2.heap.get? b=some o→(s2.heap.push { cls:=.type "list",data:=.seq ([]:List Value).toArray }).get? b=some o:=λb o e=>jd _ e;have hDat0:(s2.heap.push { cls:=.type "list",data:=.seq ([]:List Value).toArray }).get? s2.heap.objs.size=some { cls:=.type "list",data:=.seq ([]:List Value).toArray }:=jy _ rfl;generalize hH2:s2.heap.push { cls:=.type "list",data:=.seq ([]:List Value).toArray }=H2 at hD0 hDat0 ⊢;have hL2:H2.objs.size=s2.heap.objs.size+1:=by rw[←hH2,yq]
 have hlt2:s2.heap.objs.size<H2.objs.size:=by rw[hL2];exact zY _
 have hDL:s2.heap.objs.size≠H2.objs.size:=wq hlt2;have kp0:∀b o,H2.get? b=some o→(pushCells (H2.push { cls:=.type "dict",data:=.dict #[] }) sco.names).get? b=some o:=λb o e=>pushCells_keeps _ _ b o (jd _ e);have hns:(pushCells (H2.push { cls:=.type "dict",data:=.dict #[] }) sco.names).Ns H2.objs.size (λB=>none):=(Heap.Ns.new H2 (.type "dict")).keeps (pushCells_keeps _ _);have hco:CellsOk (pushCells (H2.push { cls:=.type "dict",data:=.dict #[] }) sco.names) (H2.objs.size+1) (cellsFrom (H2.objs.size+1) sco.names []):=by
  have:=cellsFrom_ok sco.names (H2.push { cls:=.type "dict",data:=.dict #[] }) (H2.objs.size+1) [] ⟨λB B hm=>(nomatch hm),List.Pairwise.nil⟩ (by rw[yq];exact qW _);rwa [yq] at this
 rw[Dd];have hownm0:∀n c,(cellsFrom (H2.objs.size+1) sco.names []).lookup n=some c→(n,NameKind.cell)∈sco.names:=λn c hc=>De hc;have hhas:∀n,(n,NameKind.cell)∈sco.names→((cellsFrom (H2.objs.size+1) sco.names []).lookup n).isSome=true:=λn hn=>vL (.inl hn);generalize hown:cellsFrom (H2.objs.size+1) sco.names []=own at hco hhas hownm0 ⊢;have hownm:=hownm0;clear hownm0;have kp:∀b o,s2.heap.get? b=some o→(pushCells (H2.push { cls:=.type "dict",data:=.dict #[] }) sco.names).get? b=some o:=λb o e=>kp0 b o (hD0 b o e);have hDat:=kp0 _ _ hDat0;generalize hh':pushCells (H2.push { cls:=.type "dict",data:=.dict #[] }) sco.names=h' at kp hns hco hDat ⊢;have hDnew:¬ Lv s2.heap s2.heap.objs.size:=wh _;have hLnew:¬ Lv s2.heap H2.objs.size:=kr (by rw[hL2];exact wt _);have hOat:∀n c,own.lookup n=some c→h'.IsCell c none∧H2.objs.size+1≤c:=λn c hc=>hco.empty n c (mem_of_lookup hc);have hOnew:∀n c,own.lookup n=some c→¬ Lv s2.heap c∧Lv h' c∧c≠s2.heap.objs.size∧c≠H2.objs.size:=λn c hc=>by
  obtain⟨⟨o,ho,_⟩,hlo⟩:=hOat n c hc;exact⟨kr (jz (jp hlt2 hlo)),⟨o,ho⟩,wL (jp hlt2 hlo),wL hlo⟩
 have hLlv:Lv h' H2.objs.size:=let ⟨o,_,_,e,_⟩:=hns;⟨o,e⟩;clear hH2 hOat hlt2;generalize hDdef:s2.heap.objs.size=D at *;generalize hLdef:H2.objs.size=L at *;have hZb:∀b,(Zu Z (vP D L own)) b→Z b∨¬ Lv s2.heap b:=λb hb=>hb.imp_right λhb=>vP.elim' (p:=λb=>¬ Lv s2.heap b) hb hDnew hLnew λn b hn=>(hOnew n b hn).1;have hXIlv:∀b,XI b→Lv s2.heap b:=λb hb=>(R2.zlt (.inr hb)).2;have hd:∀b,(Zu Z (vP D L own)) b→¬ XI b:=λb hb hx=>hb.elim (λhb=>hXI b hx (R.zlt hb).2) λhb=>vP.elim' (p:=λb=>¬ Lv s2.heap b) hb hDnew hLnew (λn b hn=>(hOnew n b hn).1) (hXIlv b hx);have R4:Rel g (Zu (Zu Z (vP D L own)) XI) bs ρ2 U1 h':=R2.enter kp λb hb=>hb.elim (λhb=>hb.elim (λhb=>.inl (.inl hb)) λhb=>.inr (vP.elim' (p:=λb=>¬ Lv s2.heap b∧Lv h' b) hb ⟨hDnew,⟨_,hDat⟩⟩ ⟨hLnew,hLlv⟩ λn b hn=>⟨(hOnew n b hn).1,(hOnew n b hn).2.1⟩)) λhb=>.inl (.inr hb);have P4:Post jZ ρ2 U1 s2 ρ2 U1 { s2 with heap:=h' }:=Post.grow kp rfl rfl;have mono:∀{v:Value}{y:AV},RA ρ (Fz Z ρ U) s.heap v y→RA ρ2 (Fz (Zu (Zu Z (vP D L own)) XI) ρ2 U1) h' v y:=λ{v y} q=>by
  have nlv:∀b,(Zu (Zu Z (vP D L own)) XI) b→Z b∨¬ Lv s.heap b:=λb hb=>hb.elim (λhb=>(hZb b hb).imp_right λhb lb=>hb (P2.lv b lb)) λhb=>.inr (hXI b hb);exact RA.post (X:=jZ) (s':={ s2 with heap:=h' }) (q.zless (Z':=Zu (Zu Z (vP D L own)) XI) nlv) (P2.trans P4) λB h=>False.elim h
 have hcl:∀x c,(zX env.cells sco.names []).lookup x=some c→env.cells.lookup x=some c:=Df _ _ _ λx c h=>by simp at h
 have hrel:(relabel sco env).names=w5 sco.names sc:=qds H.ok.kind hkind;have hk2:∀y,(YG sco L env own).kindOf y=(w5 sco.names sc).lookup y:=λy=>by
  show(relabel sco env).names.lookup y=_
  rw[hrel]
 have hownl:∀y c,own.lookup y=some c→(own++zX env.cells sco.names []).lookup y=some c:=λy c hc=>by rw[List.lookup_append,hc];rfl
 have hcs:∀y c,(own++zX env.cells sco.names []).lookup y=some c→own.lookup y=some c∨(own.lookup y=none∧(zX env.cells sco.names []).lookup y=some c):=λy c hc=>by
  rw[List.lookup_append] at hc;cases ho:own.lookup y with
  |some d=>rw[ho] at hc;left;exact hc
  |none=>rw[ho] at hc;right;exact⟨rfl,hc⟩
 have hfr2:∀y,(w5 sco.names sc).lookup y=some .cell∨(w5 sco.names sc).lookup y=some .free→(∃c,own.lookup y=some c∧sco.names.lookup y=some .cell)∨(∃c,(zX env.cells sco.names []).lookup y=some c∧env.cells.lookup y=some c∧(env.kindOf y=some .cell∨env.kindOf y=some .free)):=λy hy=>by
  rw[kG] at hy;cases hn:sco.names.lookup y with
  |none=>rw[hn] at hy;simp at hy
  |some k0 =>
   have hm:=xi hn;rw[hn] at hy;simp only[Option.map_some,Option.some.injEq] at hy;induction k0 with
   |free =>
    right
    obtain⟨c,hc⟩:=hfree _ hm rfl;have hs':=K2 env.cells sco.names [] y (.inr ⟨hm,by rw[hc];rfl⟩);obtain⟨c',hc'⟩:=gP.mp hs';have:=hcl _ _ hc';rw[hc] at this;injection this with this;subst this;exact⟨c,hc',hc,by rw[hkind];exact F.free _ hm rfl⟩
   |cell =>
    left
    obtain⟨c,hc⟩:=gP.mp (hhas y hm);exact⟨c,hc,rfl⟩
   | «local» => simp at hy
   |globalImplicit=>simp at hy
   |globalExplicit=>simp at hy
 have hclv:∀x c,(zX env.cells sco.names []).lookup x=some c→Lv s2.heap c:=λx c hc=>P2.lv _ (R.zlt (er.zC x c (hcl _ _ hc))).2;have EO:EOK g (YG sco L env own) (Z3 sco.names) (DC L own):={
  kind:=F.kind
  globals:=H.ok.globals
  builtins:=H.ok.builtins
  xL:=.inl rfl
  asgOk:=λx hx=>by
   rw[hk2,kG];rcases qcQ hx with e | e
   ·rw[e];exact .inl rfl
   ·rw[e]
    obtain⟨c,hc⟩:=gP.mp (hhas x (xi e));exact .inr ⟨rfl,c,hownl _ _ hc,.inr ⟨x,hc⟩⟩
  held:=λx hx=>by
   rw[hk2] at hx;rcases hfr2 x hx with⟨c,hc,_⟩ | ⟨c,hc,_⟩
   ·exact⟨c,hownl _ _ hc⟩
   ·show ∃c,(own++zX env.cells sco.names []).lookup x=some c
    rw[List.lookup_append];induction own.lookup x with
    |some d=>exact⟨d,rfl⟩
    |none=>exact⟨c,hc⟩
  one:=λx y c h1 h2=>by
   rcases hcs x c h1 with h1 | ⟨_,h1⟩ <;> rcases hcs y c h2 with h2 | ⟨_,h2⟩
   ·exact name_of_addr hco.apart (mem_of_lookup h1) (mem_of_lookup h2)
   ·exact absurd (hclv _ _ h2) (hOnew _ _ h1).1
   ·exact absurd (hclv _ _ h1) (hOnew _ _ h2).1
   ·exact H.ok.one x y c (hcl _ _ h1) (hcl _ _ h2)
  apart:=λx c h1 e=>by
   rcases hcs x c h1 with h1 | ⟨_,h1⟩
   ·exact(hOnew _ _ h1).2.2.2 e
   ·have:=hclv _ _ h1
    rw[show c=L from e] at this;exact hLnew this
  xs:=λb hb=>by
   rcases hb with hb | ⟨n,hn⟩
   ·exact .inl hb
   ·exact .inr ⟨n,hownl _ _ hn⟩ }
 have H2':Here g d A (YG sco L env own) (w5 sco.names sc) (Z3 sco.names) (DC L own):=⟨EO,H.room,hrel⟩
 have zcell:∀x c,env.cells.lookup x=some c→c≠D∧c≠L:=λx c hc=>by
  have:=P2.lv _ (R.zlt (er.zC x c hc)).2;exact⟨λe=>hDnew (e▸this),λe=>hLnew (e▸this)⟩
 have hgone:∀(x:Str) (k:NameKind),(k = .local∨k = .cell)→(x,k)∈sco.names→∀(i:Nat) (v:AV),(Env.del xs J).get i=some v→g.nm[i]? = some x→False:=by
  intro x k hk hm i v h1 h2;rcases qgU (jV hdel hm) hk with⟨j,hj,hjx⟩ | hno
  ·have hj2:=yT hjx
   rw[W.nm] at hj2;have:=Xq G.nd h2 hj2;subst this;have:=(hdelJ i v h1).2;simp at this
   exact this hj
  ·exact hno (W.nm▸x6 h2)
 have er4:ER g (Zu (Zu Z (vP D L own)) XI) ρ2 U1 h' (YG sco L env own) (Env.del xs J):={
  ns:=by
   refine⟨_,hns,λi v x h1 h2 h3=>?_⟩;exfalso
   rw[hk2,kG] at h3;cases hn:sco.names.lookup x with
   |none=>rw[hn] at h3;injection h3
   |some k0 =>
    have hm:=xi hn;rw[hn] at h3;simp only[Option.map_some,Option.some.injEq] at h3;have hk0:k0 = .local:=by
     split at h3
     ·injection h3
     ·exact h3
    subst hk0;exact hgone x .local (.inl rfl) hm i v h1 h2
  cell:=λx c hc=>by
   rcases hcs x c hc with hc1 | ⟨hno,hc1⟩
   ·refine⟨none,(hco.empty x c (mem_of_lookup hc1)).1,λi v h1 h2 h3=>?_⟩
    exfalso
    rw[hk2] at h3;rcases hfr2 x h3 with⟨_,_,hk⟩ | ⟨c',hc',hce,hk⟩
    ·exact hgone x .cell (.inr rfl) (xi hk) i v h1 h2
    ·have hmem:(x,NameKind.cell)∈sco.names:=hownm x c hc1
     exact hgone x .cell (.inr rfl) hmem i v h1 h2
   ·have hc0:=hcl _ _ hc1
    obtain⟨ov,hi0,hv⟩:=er.cell x c hc0;obtain⟨o,ho,hdt⟩:=hi0;refine⟨ov,⟨o,kp _ _ (P2.ext _ _ ho id (R.notFoot (er.zC x c hc0))),hdt⟩,λi v h1 h2 h3=>?_⟩;rw[hk2] at h3;rcases hfr2 x h3 with⟨c',hc',_⟩ | ⟨c',_,_,hk⟩
    ·rw[hno] at hc';injection hc'
    ·obtain⟨val,q1,q2⟩:=hv i v (hdelJ i v h1).1 h2 hk
     exact⟨val,q1,mono q2⟩
  zL:=.inl (.inr (.inr (.inl rfl)))
  zC:=λx c hc=>by
   rcases hcs x c hc with hc | ⟨_,hc⟩
   ·exact .inl (.inr (.inr (.inr ⟨x,hc⟩)))
   ·exact .inl (.inl (er.zC x c (hcl _ _ hc))) }
 have hwp:∀(cenv:PySem.Env),cenv=newEnv sco L env.globals (own++zX env.cells sco.names []) env.qual none .none (some env) builtinsNs →
   codeAny (model g.prog g.w) A (.compStart (.ListComp elt (⟨tx,ix,fs,0⟩::r) sco pos) 0 (.ref it) (.ref D) { cenv with scope:=relabel sco env }) (compPost (model g.prog g.w) A E use Q (.ref D) cenv.locals) { s2 with heap:=h' }:=by
  rintro cenv rfl
  refine qaj (n:=0) rfl (O.ok _ hd) (U:=U1) (ρ:=ρ2) (O.more hS hZb kp) ?_;have zc2:∀x c,(own++zX env.cells sco.names []).lookup x=some c→(Zu Z (vP D L own)) c∧c≠D:=λx c hc=>by
   rcases hcs x c hc with hc | ⟨_,hc⟩
   ·exact⟨.inr (.inr (.inr ⟨x,hc⟩)),(hOnew _ _ hc).2.2.1⟩
   ·exact⟨.inl (er.zC x c (hcl _ _ hc)),(zcell x c (hcl _ _ hc)).1⟩
  have xD:¬ DC L own D:=λe=>e.elim hDL λ⟨n,hn⟩=>(hOnew _ _ hn).2.2.1 rfl;refine qaq G W (Zb:=Zu Z (vP D L own)) (XI:=XI) (ws:=[]) hifs rfl ht (qbL _ _ _ hl) hfs H2' (O.ok _ hd) hd (.inr (.inl rfl)) xD (.inr (.inr (.inl rfl))) zc2
   (qbd G W more hm rfl hmore (λt tx h=>qbM _ _ t tx h) H2' (.inr (.inl rfl)) xD (.inr (.inr (.inl rfl))) zc2 hd (λe=>hDL e))
   src.items hfr (Kw e1) e R4 er4 (O.more hS hZb kp) ⟨_,hDat⟩ (by simpa using hlen) λs5 ρ5 us R5 er5 P5 hP5 hus=>?_
  have zin:∀b,(Zu Z λb=>b=L) b→(Zu Z (vP D L own)) b:=λb hb=>hb.imp_right λhb=>.inr (.inl hb);have R6:Rel g (Zu Z λb=>b=L) bs ρ5 U' s5.heap:=R5.leave zin;have hDZ:¬ (Zu Z λb=>b=L) D:=λhb=>hb.elim (λhb=>hDnew (P2.lv _ (R.zlt hb).2)) hDL;have ra:RA ρ5 (Fz (Zu Z λb=>b=L) ρ5 U') s5.heap (.ref D) (mkLst ys):=.mkLst (vs:=us) ⟨hDZ,R5.notFoot (.inr (.inl rfl))⟩ (by simpa using hP5.isList) (hus.drop' zin);have Pall:Post (λb=>(DC L own b∨b=D)∨XI b) ρ U s ρ5 U' s5:=((P2.trans P4).wider λB h=>h.elim).trans P5;have hnew:∀b,((DC L own b∨b=D)∨XI b)→¬ Lv s.heap b:=λb hb lb=>hb.elim (λhb=>eqOr (p:=λb=>¬ Lv s2.heap b) hb (λhb=>orEq hb hLnew λ⟨n,hn⟩=>(hOnew _ _ hn).1) hDnew (P2.lv _ lb)) λhb=>hXI b hb lb;have Pno:Post jZ ρ U s ρ5 U' s5:=Pall.fresh λb hb lb=>absurd lb (hnew b hb);have er6:ER g (Zu Z λb=>b=L) ρ5 U' s5.heap env J:=er.more R Pno λb hb lb=>hLnew (hb▸P2.lv _ lb);obtain⟨m,hm5,_⟩:=er5.ns;exact k s5 ρ5 L D R6 ra er6 Pno ⟨m,hm5⟩ λlb=>hLnew (P2.lv _ lb)
 exact hwp _ rfl
end
section
variable {g:Glb}{C:Cfg}{d:Nat}{K:Ctx}
theorem qmt{Z:Addr→Prop}{bs:List Nat}{ρ ρ':qG}{U U':St}{s s':Shared}{L:Addr}{h':Heap}(R:Rel g Z bs ρ U s.heap)(R6:Rel g (Zu Z λb=>b=L) bs ρ' U' s'.heap)(P:Post jZ ρ U s ρ' U' s')(hL:¬ Lv s.heap L)(hsb:Heap.SameBut L s'.heap h'):
  Rel g Z bs ρ' U' h'∧Post jZ ρ U s ρ' U' { s' with heap:=h' }:=by
 have kk:∀b o,s'.heap.get? b=some o→¬ b=L→h'.get? b=some o:=λb o e hb=>hsb.extBut b o hb e;refine⟨R6.done (λb hb e=>hL (e▸(R.zlt hb).2)) kk,?_⟩;have P2:Post (λb=>b=L) ρ' U' s' ρ' U' { s' with heap:=h' }:=Post.inX kk rfl rfl;exact((P.wider λB h=>h.elim).trans P2).fresh λb hb lb=>absurd (hb▸lb) hL
theorem SE.comp(G:GOk g)(W:Wired g C)(hc:Kn g C d K c):SE g C d K (.comp xs c):=⟨by
 intro x sc A s env asg X Z J bs ρ U U' E r Q hck H R er e k;obtain⟨elt,tx,ix,fs,rr,sco,p,rfl,h1,h2,h3⟩:=Ky hck;obtain⟨t,ci,ifs,more,rfl,c1,c2,c3,c4,c5⟩:=qeV h3;obtain⟨ys,U1,e1,e⟩:=qm e;obtain⟨hlen,e⟩:=qI e;obtain⟨rfl,rfl⟩:=qx e;show wpAny _ A (comprehension (.ListComp elt (⟨tx,ix,fs,0⟩::rr) sco p) sco env _ (newList []) false (eval ix env)) Q E s
 refine HR G W hc.1 hc.2.1 hc.2.2 h1 h2 c1 c2 c3 c4 c5 H R er e1 hlen λs' ρ' L D R6 ra er6 P ⟨m,hm⟩ hL=>?_;refine⟨m,hm,λh' hsb=>?_⟩;obtain⟨R7,P7⟩:=qmt R R6 P hL hsb;exact k _ { s' with heap:=h' } ρ' R7 P7 (ra.done λb o e hb=>hsb.extBut b o hb e)⟩
inductive FlR (ρ:qG) (F:Addr→Prop) (h:Heap):Mine.Flow→PySem.Flow→Prop
 |next:FlR ρ F h .next .next
 |ret {val:Value}{v:AV}:RA ρ F h val v→FlR ρ F h (.ret v) (.ret val)
structure SS (g:Glb) (C:Cfg) (d:Nat) (K:Ctx) (st:CS):Prop where
 ok:∀{x:Stmt}{sc:qv}{A:Around}{s:Shared}{env:PySem.Env}{asg:Str→Bool}{X Z:Addr→Prop}{J J':Env}{bs:List Nat}{ρ:qG}{U U':St}{E:Value→Shared→Prop}{fl:Mine.Flow}{Q:PySem.Flow→Shared→Prop},
  k6 C st sc x=true→Here g d A env sc asg X→(∀y,sc.lookup y=some .local∨sc.lookup y=some .cell→asg y=true)→Rel g Z bs ρ U s.heap→ER g Z ρ U s.heap env J→vz K st J U=some ((fl,J'),U') →
  (∀s' ρ' pf,Rel g Z bs ρ' U' s'.heap→ER g Z ρ' U' s'.heap env J'→Post X ρ U s ρ' U' s'→FlR ρ' (Fz Z ρ' U') s'.heap fl pf→Q pf s')→wpAny (model g.prog g.w) A (exec x env) Q E s
structure SSs (g:Glb) (C:Cfg) (d:Nat) (K:Ctx) (st:CSs):Prop where
 ok:∀{xs:List Stmt}{sc:qv}{A:Around}{s:Shared}{env:PySem.Env}{asg:Str→Bool}{X Z:Addr→Prop}{J J':Env}{bs:List Nat}{ρ:qG}{U U':St}{E:Value→Shared→Prop}{fl:Mine.Flow}{Q:PySem.Flow→Shared→Prop},
  wY C st sc xs=true→Here g d A env sc asg X→(∀y,sc.lookup y=some .local∨sc.lookup y=some .cell→asg y=true)→Rel g Z bs ρ U s.heap→ER g Z ρ U s.heap env J→qy K st J U=some ((fl,J'),U') →
  (∀s' ρ' pf,Rel g Z bs ρ' U' s'.heap→ER g Z ρ' U' s'.heap env J'→Post X ρ U s ρ' U' s'→FlR ρ' (Fz Z ρ' U') s'.heap fl pf→Q pf s')→wpAny (model g.prog g.w) A (execs xs env) Q E s
theorem hXZ{A:Around}{env:PySem.Env}{sc:qv}{asg:Str→Bool}{X Z:Addr→Prop}{J:Env}{ρ:qG}{U:St}{h:Heap}(H:Here g d A env sc asg X)(er:ER g Z ρ U h env J):∀b,X b→Z b:=λb hb=>orEq (H.ok.xs b hb) er.zL λ⟨y,hy⟩=>er.zC y b hy
inductive ChkSCons (C:Cfg) (a:CS) (r:CSs) (sc:qv) (xs:List Stmt):Prop
 |mk (y:Stmt) (ys:List Stmt) (e:xs=y::ys) (h1:k6 C a sc y=true) (h2:wY C r sc ys=true)
theorem qeu(h:wY C (.cons a r) sc xs=true):ChkSCons C a r sc xs:=by
 obtain⟨v,h⟩:=qk h;obtain⟨h1,h2⟩:=qc h;exact⟨v.1.1,v.1.2,v.2,h1,h2⟩
theorem qgR(h:wY C .nil sc xs=true):xs=[]:=by
 obtain⟨v,_⟩:=qk h;exact v.1
theorem SSs.nil:SSs g C d K .nil:=⟨by
 intro xs sc A s env asg X Z J J' bs ρ U U' E fl Q hc H ho R er e k;obtain rfl:=qgR hc;obtain⟨rfl,rfl,rfl⟩:=z8 e;exact wpAny_execs_nil (k s ρ .next R er Post.refl .next)⟩
theorem SSs.cons(ha:SS g C d K a)(hr:SSs g C d K r):SSs g C d K (.cons a r):=⟨by
 intro xs sc A s env asg X Z J J' bs ρ U U' E fl Q hc H ho R er e k;obtain⟨y,ys,rfl,c1,c2⟩:=qeu hc;obtain⟨f1,U1,e1,e2⟩:=qm e;refine wpAny_execs_cons (ha.ok c1 H ho R er e1 λs1 ρ1 pf R1 er1 P1 hf=>?_);obtain⟨f0,J1⟩:=f1;cases hf with
 |next=>exact hr.ok c2 H ho R1 er1 e2 λs2 ρ2 pf R2 er2 P2 hf=>k s2 ρ2 pf R2 er2 (P1.trans P2) hf
 |ret ra =>
  obtain⟨rfl,rfl,rfl⟩:=z8 e2;exact k s1 ρ1 _ R1 er1 P1 (.ret ra)⟩
theorem SS.stuck:SS g C d K .stuck:=⟨λB B B B B e B=>nomatch e⟩
theorem SS.expr(ha:SE g C d K a):SS g C d K (.expr a):=⟨by
 intro x sc A s env asg X Z J J' bs ρ U U' E fl Q hc H ho R er e k;obtain⟨f,as,ks,q,p,rfl,h1⟩:=qhn hc;obtain⟨v,U1,e1,e2⟩:=qm e;obtain⟨rfl,rfl,rfl⟩:=z8 e2;refine wpAny_Expr_any (ha.ok h1 H R er e1 λval s1 ρ1 R1 P1 q1=>k s1 ρ1 .next R1 (er.post R P1) (P1.wider λB h=>h.elim) .next) ?_ ?_
 ·unfold interactive;rw[H.ok.kind];rfl
 ·rfl⟩
theorem SS.retNone:SS g C d K .retNone:=⟨by
 intro x sc A s env asg X Z J J' bs ρ U U' E fl Q hc H ho R er e k;obtain⟨p,rfl⟩:=qaw hc;obtain⟨rfl,rfl,rfl⟩:=z8 e;exact wpAny_Return_none (k s ρ _ R er Post.refl (.ret (.pv .none)))⟩
end
section
variable {g:Glb}{C:Cfg}{d:Nat}{K:Ctx}
theorem SS.ret(ha:SE g C d K a):SS g C d K (.ret a):=⟨by
 intro x sc A s env asg X Z J J' bs ρ U U' E fl Q hc H ho R er e k;obtain⟨y,p,rfl,h⟩:=qby hc;obtain⟨v,U1,e1,e2⟩:=qm e;obtain⟨rfl,rfl,rfl⟩:=z8 e2;exact wpAny_Return_some (ha.ok h H R er e1 λval s1 ρ1 R1 P1 q1=>k s1 ρ1 _ R1 (er.post R P1) (P1.wider λB h=>h.elim) (.ret q1))⟩
theorem Rel.kill{Z:Addr→Prop}{bs:List Nat}{ρ:qG}{U:St}{s:Shared}{i:Nat}{o:AObj}(R:Rel g Z bs ρ U s.heap)(e2:U.heap[i]? = some o):
  Rel g Z bs ρ (U.set i .dead) s.heap∧Post jZ ρ U s ρ (U.set i .dead) s:=by
 have hi:=(jL.mp e2).1;have hf:∀b,¬ yc ρ U b→¬ yc ρ (U.set i .dead) b:=by
  rintro b q ⟨j,l,x,a1,a2,a3,a4⟩
  simp only[St.set,kN] at a2;by_cases hij:i=j
  ·subst hij;rw[if_pos rfl,if_pos hi] at a2;injection a2 with a2;subst a2;exact a3 rfl
  ·rw[if_neg hij] at a2;exact q ⟨j,l,x,a1,a2,a3,a4⟩
 refine⟨{ len:=by rw[R.len];simp[St.set],objs:=?_,apart:=R.apart,addrs:=R.addrs,zlt:=R.zlt,keep:=R.keep,bars:=?_,strict:=R.strict },
  ⟨λB B e=>e,λb ob q B B=>q,λb B B q=>hf b q,λB q B=>q,rfl,rfl,rfl⟩⟩
 ·intro j m x a1 a2
  simp only[St.set,kN] at a2;by_cases hij:i=j
  ·subst hij;rw[if_pos rfl,if_pos hi] at a2;injection a2 with a2;subst a2;exact .dead
  ·rw[if_neg hij] at a2
   exact(R.objs a1 a2).mono (λB B B e=>e) (λb ob q f B=>⟨q,f.1,hf b f.2⟩) λb B ob q=>q
 ·intro m hm
  have q:=R.bars m hm;refine⟨by simpa [St.set] using q.1,λ{j x} hj a2=>?_⟩;simp only[St.set,kN] at a2;by_cases hij:i=j
  ·subst hij;rw[if_pos rfl,if_pos hi] at a2;injection a2 with a2;subst a2;exact trivial
  ·rw[if_neg hij] at a2;exact q.2 hj a2
theorem qeN{Z:Addr→Prop}{bs:List Nat}{ρ:qG}{U:St}{s:Shared}{val:Value}{i:Nat}{l:List AV}(R:Rel g Z bs ρ U s.heap)(r:RA ρ (Fz Z ρ U) s.heap val (.ref i))(hi:U.heap[i]? = some (.list l)):
  Rel g Z bs ρ (U.set i .dead) s.heap∧Post jZ ρ U s ρ (U.set i .dead) s∧RA ρ (Fz Z ρ (U.set i .dead)) s.heap val (mkLst l):=by
 obtain⟨R',P'⟩:=R.kill hi;refine⟨R',P',?_⟩;obtain⟨a,m,rfl,q⟩:=r.ref_;obtain⟨vs,rfl,x,y⟩:=(R.objs q hi).list_;have hlt:=(jL.mp hi).1;refine .mkLst (vs:=vs) ⟨(R.addrs q (.head _)).2.2,?_⟩ x.isList (RAs.post (X:=jZ) y P' λB h=>False.elim h);rintro ⟨j,l',o,a1,a2,a3,a4⟩
 have hij:=R.apart q a1 (.head _) a4;subst hij;simp only[St.set,kN,if_true,if_pos hlt] at a2;injection a2 with a2;subst a2;exact a3 rfl
theorem SS.retF(ha:SE g C d K a):SS g C d K (.retF a):=⟨by
 intro x sc A s env asg X Z J J' bs ρ U U' E fl Q hc H ho R er e k;obtain⟨y,p,rfl,h⟩:=qhq hc;obtain⟨v,U1,e1,e2⟩:=qm e;obtain⟨i,hv,e3⟩:=w0 e2;obtain⟨o,hi,e4⟩:=qo e3;obtain⟨l,ho',e5⟩:=KF e4;obtain⟨rfl,rfl,rfl⟩:=z8 e5;refine wpAny_Return_some (ha.ok h H R er e1 λval s1 ρ1 R1 P1 q1=>?_);obtain⟨R2,P2,q2⟩:=qeN R1 (hv▸q1) (ho'▸hi);exact k s1 ρ1 _ R2 (er.post R (P1.trans P2)) ((P1.trans P2).wider λB h=>h.elim) (.ret q2)⟩
theorem SS.ifS(ht:ST g C d K t)(ha:SSs g C d K a)(hb:SSs g C d K b):SS g C d K (.ifS t a b):=⟨by
 intro x sc A s env asg X Z J J' bs ρ U U' E fl Q hc H ho R er e k;obtain⟨y,z,u,p,rfl,h1,h2,h3⟩:=qjW hc;obtain⟨v,U1,e1,e2⟩:=qm e;obtain⟨c,hb',e3⟩:=qo e2;rw[zV hb'] at e1;refine wpAny_If (ht.ok h1 H R er e1 λs1 ρ1 R1 P1=>?_);induction c with
 |true=>exact ha.ok h2 H ho R1 (er.post R P1) e3 λs2 ρ2 pf R2 er2 P2 hf=>k s2 ρ2 pf R2 er2 ((P1.wider λB h=>h.elim).trans P2) hf
 |false=>exact hb.ok h3 H ho R1 (er.post R P1) e3 λs2 ρ2 pf R2 er2 P2 hf=>k s2 ρ2 pf R2 er2 ((P1.wider λB h=>h.elim).trans P2) hf⟩
theorem qdF{q:Pos}:swapsWith x (some (.Attribute o m q)) n env=pure false:=by
 unfold swapsWith;split
 ·rfl
 ·rfl
theorem qgj{q:Pos}:swapsWith x (some (.Subscript o m q)) n env=pure false:=by
 unfold swapsWith;split
 ·rfl
 ·rfl
theorem qbD(h:(yz v||!b)=true):yz v=true∨b=false:=by
 rcases gR.mp h with h | h
 ·exact .inl h
 ·exact .inr (by simpa using h)
theorem SS.setAttr(G:GOk g)(W:Wired g C)(ha:SE g C d K a)(he:SE g C d K e0):SS g C d K (.setAttr a m e0):=⟨by
 intro x sc A s env asg X Z J J' bs ρ U U' E fl Q hc H ho R er e k;obtain⟨o,n,q,v0,p,rfl,h1,h2,h3,h4⟩:=qax hc;obtain⟨v,U1,e1,ea⟩:=qm e;obtain⟨o,U2,e2,eb⟩:=qm ea;obtain⟨i,hv,ec⟩:=w0 eb;obtain⟨ob,hi,ed⟩:=qo ec;obtain⟨c,as,hob,ee⟩:=vD ed;obtain⟨hcond,ef⟩:=qI ee;have hcond:=qc hcond;obtain⟨rfl,rfl,rfl⟩:=z8 ef;have hx:=yT h1;rw[W.nm] at hx;rw[hob] at hi;have hm:m∈g.dat:=by rw[←W.dat];simpa using h2
 refine plainObj_wpAny_Assign_Attribute (he.ok h4 H R er e1 λval s1 ρ1 R1 P1 q1=>ha.ok h3 H R1 (er.post R P1) e2 λvo s2 ρ2 R2 P2 q2=>?_) qdF;refine Xw G R2 (hv▸q2) (RA.post (X:=jZ) q1 P2 λB h=>False.elim h) hm hx hi (qbD hcond.1) (qr hcond.2) λs3 R3 P3=>?_;have P:=(P1.trans P2).trans P3;exact k s3 ρ2 .next R3 (er.post R P) (P.wider λB h=>h.elim) .next⟩
theorem SS.setSub(ha:SE g C d K a)(hi0:SE g C d K i0)(he:SE g C d K e0):SS g C d K (.setSub a i0 e0):=⟨by
 intro x sc A s env asg X Z J J' bs ρ U U' E fl Q hc H ho R er e k;obtain⟨o,j0,q,v0,p,rfl,h1,h2,h3,h4⟩:=qcM hc;obtain⟨v,U1,e1,ea⟩:=qm e;obtain⟨o,U2,e2,eb⟩:=qm ea;obtain⟨kk,U3,e3,ec⟩:=qm eb;obtain⟨j,hv,ed⟩:=w0 ec;obtain⟨dd,hj,ee⟩:=qo ed;obtain⟨hcond,ef⟩:=qI ee;obtain⟨d',hd',eg⟩:=qo ef;obtain⟨rfl,rfl,rfl⟩:=z8 eg;refine wpAny_Assign_Subscript (he.ok h4 H R er e1 λval s1 ρ1 R1 P1 q1=>ha.ok h2 H R1 (er.post R P1) e2 λvo s2 ρ2 R2 P2 q2=>hi0.ok h3 H R2 ((er.post R P1).post R1 P2) e3 λvk s3 ρ3 R3 P3 q3=>?_) qgj;refine qdl H.room.line R3 (RA.post (X:=jZ) (hv▸q2) P3 λB h=>False.elim h) q3 (RA.post (X:=jZ) (RA.post (X:=jZ) q1 P2 λB h=>False.elim h) P3 λB h=>False.elim h) hj (qbD hcond) hd' λs4 R4 P4=>?_;have P:=((P1.trans P2).trans P3).trans P4;exact k s4 ρ3 .next R4 (er.post R P) (P.wider λB h=>h.elim) .next⟩
end
section
variable {g:Glb}{C:Cfg}{d:Nat}{K:Ctx}
theorem qfa{asg:Str→Bool}{sc:qv}(ho:∀y,sc.lookup y=some .local∨sc.lookup y=some .cell→asg y=true)(y:Str)(h:(Zv sc y&&YW sc y)=true):asg y=true:=by
 have h:=qc h;obtain⟨hk,_⟩:=Xh h.1;rcases hk with hk | hk | hk
 ·exact ho y (.inl hk)
 ·exact ho y (.inr hk)
 ·exact absurd hk (qr h.2)
mutual
theorem Kt(ho:∀y,sc.lookup y=some .local∨sc.lookup y=some .cell→asg y=true):∀(t:CT) {tx:Expr},yd C t sc tx=true→gZ asg t tx=true
 | .nm i,tx,h=>BW (p:=λy=>w9 C i y&&Zv sc y&&YW sc y) (λy h=>by
   obtain⟨h,h3⟩:=qc h;exact qfa ho y (zp.mpr ⟨(qc h).2,h3⟩)) h
 | .tup ts,tx,h=>Hw (p:=λxs=>jf xs&&vM C ts sc xs) (λxs h=>HQ ho ts (qc h).2) h
theorem HQ(ho:∀y,sc.lookup y=some .local∨sc.lookup y=some .cell→asg y=true):∀(ts:CTs) {xs:List Expr},vM C ts sc xs=true→gz asg ts xs=true
 | .nil,_,_=>rfl
 | .cons t r,xs,h=>KI (p:=λx=>yd C t sc x) (q:=λxs=>vM C r sc xs) (λx h=>Kt ho t h) (λx h=>HQ ho r h) h
end
noncomputable def qiG(K:Ctx)(t:CT)(b:CSs)(x:AV)(J:Env)(s:St):Mine.R (Mine.Flow×Env):=ob (jC t x J) λJ'=>qy K b J' s
theorem qmb(G:GOk g)(W:Wired g C){t:CT}{b:CSs}(hb:SSs g C d K b){tx:Expr}{body:List Stmt}{sc:qv}{A:Around}{env:PySem.Env}{asg:Str→Bool}{X Z XI:Addr→Prop}{it:Addr}{held:List (Nat×List AV)}{S:List AV→qG→St→Heap→Prop}(ht:yd C t sc tx=true)(hbody:wY C b sc body=true)(H:Here g d A env sc asg X)(ho:∀y,sc.lookup y=some .local∨sc.lookup y=some .cell→asg y=true)(O:IterOk g A tx it XI Z held S)(hd:∀b,Z b→¬ XI b)(zl:Z env.locals)(zc:∀x c,env.cells.lookup x=some c→Z c):
  ∀(items:List AV) {s:Shared}{bs:List Nat}{ρ:qG}{U U':St}{J J':Env}{fl:Mine.Flow}{R:Result→Shared→Prop},jB held U=true→jw held (qiG K t b) items J U=some ((fl,J'),U') →
  Rel g (Zu Z XI) bs ρ U s.heap→ER g (Zu Z XI) ρ U s.heap env J→S items ρ U s.heap →
  (∀s' ρ' pf,Rel g Z bs ρ' U' s'.heap→ER g Z ρ' U' s'.heap env J'→Post (λb=>X b∨XI b) ρ U s ρ' U' s'→FlR ρ' (Fz Z ρ' U') s'.heap fl pf→R (.ok pf) s') →
  codeAny (model g.prog g.w) A (.forLoop tx (.ref it) body [] env) R s:=by
 have hX:∀b,X b→Z b:=λb hb=>orEq (H.ok.xs b hb) zl λ⟨y,hy⟩=>zc y b hy;intro items;induction items with
 |nil =>
  intro s bs ρ U U' J J' fl R hk0 e Rl er hS k;simp only[qcG,qcH,Option.some.injEq,Prod.mk.injEq] at e;obtain⟨⟨rfl,rfl⟩,rfl⟩:=e;refine gT ?_;show wpAny _ A ((forTurn tx (.ref it) body [] env).onRaise (λx=>do noteFrame x env;theTreesLotGoes x)) _ _ s
  refine wpAny_noted ?_;simp only[forTurn];refine qe (wk (qe (wpAny_onRaise (zS (O.turn (λs'=>R (.ok .next) s') (λB B B B=>False) Rl hS (λB s' R' P'=>?_) (λx r hx=>by injection hx)) (λr s' hr=>?_) λB B h'=>wk h'))))
  ·have e1:=((er.step Rl P' (λb hb=>.inr hb) (hd _ zl) (λx c h=>hd _ (zc x c h)))).drop (Z:=Z) (λb hb=>.inl hb) zl zc
   exact k s' ρ .next R' e1 (P'.wider λB h=>.inr h) .next
  ·induction r with
   |none=>exact qp ⟨rfl,codeAny_block (wpAny_execs_nil hr.2)⟩
   |some v=>exact qe (zS hr (λB s2 h2=>by obtain⟨x,r,hx,_⟩:=h2;injection hx) λB B e=>e)
 |cons x r ih =>
  intro s bs ρ U U' J J' fl R hk0 e Rl er hS k;obtain⟨f1,U1,e1,e⟩:=qm e;obtain⟨f1,J2⟩:=f1;obtain⟨J1,hJ1,eB⟩:=qo (o:=jC t x J) (k:=λJ'=>qy K b J' U) e1;refine gT ?_;show wpAny _ A ((forTurn tx (.ref it) body [] env).onRaise (λx=>do noteFrame x env;theTreesLotGoes x)) _ _ s
  refine wpAny_noted ?_;simp only[forTurn];refine qe (wk (qe (wpAny_onRaise (zS (O.turn (λB=>False) (λy r' v s'=>y=x∧r'=r∧Rel g (Zu Z XI) bs ρ U s'.heap∧Post XI ρ U s ρ U s'∧RA ρ (Fz (Zu Z XI) ρ U) s'.heap v x∧S r ρ U s'.heap) Rl hS (λh=>by injection h) (λx' r' hx v s' a1 a2 a3 a4=>by injection hx with hx hx1q;subst hx;subst hx1q;exact⟨rfl,rfl,a1,a2,a3,a4⟩)) (λo s' hr=>?_) λB B h'=>wk h'))));induction o with
  |none=>exact absurd hr.1 (by simp)
  |some v =>
   refine qe (zS hr (λB s1 h1=>?_) λB B e=>e);obtain⟨y,r',hyr,rfl,rfl,R1,P1,ra1,S1⟩:=h1;have er1:ER g (Zu Z XI) ρ U s1.heap env J:=er.step Rl P1 (λb hb=>.inr hb) (hd _ zl) (λx c h=>hd _ (zc x c h));refine qe ((ke G W t).ok ht (Kt ho t ht) H R1 er1 ra1 hJ1 λs2 R2 er2 P2=>?_);refine qe (hb.ok hbody H ho R2 er2 eB λs3 ρ3 pf R3 er3 P3 hf=>?_);have P23:=P2.trans P3;have hXX:∀b,X b→Zu Z XI b∧¬ XI b:=λb hb=>⟨.inl (hX b hb),hd b (hX b hb)⟩
   induction hf with
   |next =>
    simp only at e;cases hk:jB held U1 with
    |false=>rw[hk] at e;injection e
    |true =>
    rw[hk,cond_true] at e;refine qp ⟨rfl,?_⟩;have S3:=O.keep R1 S1 P23 hXX hk;refine ih hk e R3 er3 S3 λs4 ρ4 pf R4 er4 P4 hf4=>?_;exact k s4 ρ4 pf R4 er4 (((P1.wider λB h=>.inr h).trans (P23.wider λB h=>.inl h)).trans P4) hf4
   |ret ra =>
    obtain⟨rfl,rfl,rfl⟩:=z8 e;refine qp ?_;refine k s3 ρ3 _ (R3.leave λb hb=>.inl hb) (er3.drop (λb hb=>.inl hb) zl zc) ((P1.wider λB h=>.inr h).trans (P23.wider λB h=>.inl h)) (.ret (ra.drop λb hb=>.inl hb))
theorem SS.forS(G:GOk g)(W:Wired g C)(hi:SI g C d K ci)(hb:SSs g C d K b):SS g C d K (.forS t ci b):=⟨by
 intro x sc A s env asg X Z J J' bs ρ U U' E fl Q hc H ho R er e k;obtain⟨tx,y,z,p,rfl,h1,h2,h3⟩:=qho hc;have e':bnd (xG K J ci U) (λsrc s=>jw src.held (qiG K t b) src.items J s)=some ((fl,J'),U'):=e;obtain⟨src,U1,e1,e2⟩:=qm e';refine wpAny_For (hi.ok h2 H R er e1 λit XI S s2 ρ2 R2 P2 hXI O hS=>?_) (λx=>Qv (Qo h2));have hd:∀b,Z b→¬ XI b:=λb hb hx=>hXI b hx (R.zlt hb).2;refine qmb G W hb h1 h3 H ho (O.ok _ hd) hd er.zL er.zC src.items (Kw e1) e2 R2 (er.more R P2 hXI) hS λs3 ρ3 pf R3 er3 P3 hf=>?_;exact k s3 ρ3 pf R3 er3 (((P2.wider λB h=>h.elim).trans P3).fresh λb hb lb=>by
  rcases hb with hb | hb
  ·exact hb
  ·exact absurd lb (hXI b hb)) hf⟩
theorem qdH(e:qdG v U=some (c,U')):v = .pv (.bool c)∧U=U':=by
 induction v using Mine.AV.casesOn with
 |pv p=>induction p using Mine.PV.casesOn with
  |bool b=>injection e with e;injection e with e e1q;subst e;subst e1q;exact⟨rfl,rfl⟩
  |_=>injection e
 |_=>injection e
theorem qiv{t:CE}{b:CSs}(ht:ST g C d K t)(hb:SSs g C d K b){tx:Expr}{body:List Stmt}{sc:qv}{A:Around}{env:PySem.Env}{asg:Str→Bool}{X Z:Addr→Prop}(hc:qC C t sc tx=true)(hbody:wY C b sc body=true)(H:Here g d A env sc asg X)(ho:∀y,sc.lookup y=some .local∨sc.lookup y=some .cell→asg y=true):
  ∀(n:Nat) {s:Shared}{bs:List Nat}{ρ:qG}{U U':St}{J J':Env}{fl:Mine.Flow}{R:Result→Shared→Prop},qat (λJ s=>bnd (qt K J t s) qdG) (λJ s=>qy K b J s) n J U=some ((fl,J'),U') →
  Rel g Z bs ρ U s.heap→ER g Z ρ U s.heap env J →
  (∀s' ρ' pf,Rel g Z bs ρ' U' s'.heap→ER g Z ρ' U' s'.heap env J'→Post X ρ U s ρ' U' s'→FlR ρ' (Fz Z ρ' U') s'.heap fl pf→R (.ok pf) s') →
  codeAny (model g.prog g.w) A (.whileLoop tx body [] env) R s:=by
 intro n;induction n with
 |zero=>intro s bs ρ U U' J J' fl R e;injection e
 |succ n ih =>
  intro s bs ρ U U' J J' fl R e Rl er k;obtain⟨c,U1,e1,e⟩:=qm e;obtain⟨v,U2,e2,e3⟩:=qm e1;obtain⟨rfl,rfl⟩:=qdH e3;refine gT ?_;show wpAny _ A ((whileTurn tx body [] env).onRaise (λx=>do noteFrame x env;theTreesLotGoes x)) _ _ s
  refine wpAny_noted ?_;unfold whileTurn;refine qe (ht.ok hc H Rl er e2 λs1 ρ1 R1 P1=>?_);induction c with
  |false =>
   obtain⟨rfl,rfl,rfl⟩:=z8 e;simp only[Bool.false_eq_true,if_false];exact qe (wpAny_execs_nil (qp (k s1 ρ1 .next R1 (er.post Rl P1) (P1.wider λB h=>h.elim) .next)))
  |true =>
   obtain⟨f1,U3,e4,e⟩:=qm (x:=qy K b J U2) e;obtain⟨f1,J1⟩:=f1;simp only[if_true];refine qe (hb.ok hbody H ho R1 (er.post Rl P1) e4 λs2 ρ2 pf R2 er2 P2 hf=>?_);have P:=(P1.wider λB h=>h.elim:Post X _ _ _ _ _ _).trans P2;induction hf with
   |next=>exact qp ⟨rfl,ih e R2 er2 λs3 ρ3 pf R3 er3 P3 hf3=>k s3 ρ3 pf R3 er3 (P.trans P3) hf3⟩
   |ret ra =>
    obtain⟨rfl,rfl,rfl⟩:=z8 e;exact qp (k s2 ρ2 _ R2 er2 P (.ret ra))
theorem SS.whileS(ht:ST g C d K t)(hb:SSs g C d K b):SS g C d K (.whileS t b):=⟨by
 intro x sc A s env asg X Z J J' bs ρ U U' E fl Q hc H ho R er e k;obtain⟨y,z,p,rfl,h1,h2⟩:=qcN hc;exact wpAny_While (qiv ht hb h1 h2 H ho 100 e R er λs' ρ' pf R' er' P' hf=>k s' ρ' pf R' er' P' hf)⟩
end
section
variable {g:Glb}{C:Cfg}{d:Nat}{K:Ctx}
noncomputable def gq(env:PySem.Env)(line:Nat):Expr→Option Str
 | .Name id pos=>if env.kindOf id == some NameKind.local&&pos.line == line then some id else none
 |_=>none
noncomputable abbrev gu(env:PySem.Env)(ts:List Expr):List Str:=ts.filterMap (gq env ((ts.head?.map (·.pos.line)).getD 0))
set_option backward.match.sparseCases true in
theorem qaT:∃(b:Bool) (u:Sem (Option (List Str))),swappedStores [.Tuple ts k p] (.Tuple vs k2 p2) env =
  (if (!(ts.length == 2||ts.length == 3)||vs.length != ts.length||env.blockKind != .function)=true then pure none else if b=true then pure none else
   if ((gu env ts).length != ts.length||(gu env ts).eraseDups.length != (gu env ts).length)=true then pure none else if vs.all (foldedForSure 8)=true then pure none else if vs.all (constantsAlone 8)=true then u else pure (some (gu env ts))):=⟨_,_,rfl⟩
theorem Do(hu:Dz vs=true):
  swappedStores [.Tuple ts k p] (.Tuple vs k2 p2) env=pure none ∨
  (∃names line,swappedStores [.Tuple ts k p] (.Tuple vs k2 p2) env=pure (some names)∧names=ts.filterMap (gq env line)∧names.length=ts.length∧(ts.length=2∨ts.length=3)):=by
 obtain⟨b,u,e⟩:=qaT (ts:=ts) (vs:=vs) (k:=k) (k2:=k2) (p:=p) (p2:=p2) (env:=env);rw[e];by_cases h1:(!(ts.length == 2||ts.length == 3)||vs.length != ts.length||env.blockKind != .function)=true
 ·rw[if_pos h1];exact .inl rfl
 rw[if_neg h1];by_cases hb:b=true
 ·rw[if_pos hb];exact .inl rfl
 rw[if_neg hb];by_cases h2:((gu env ts).length != ts.length||(gu env ts).eraseDups.length != (gu env ts).length)=true
 ·rw[if_pos h2];exact .inl rfl
 rw[if_neg h2];by_cases h3:vs.all (foldedForSure 8)=true
 ·rw[if_pos h3];exact .inl rfl
 rw[if_neg h3];have h4:¬ vs.all (constantsAlone 8)=true:=λh4=>by
  unfold Dz at hu;rw[h4] at hu;exact h3 (by simpa using hu)
 rw[if_neg h4];refine .inr ⟨_,_,rfl,rfl,?_,?_⟩
 ·have:=(Zd.mp (Bool.not_eq_true _▸h2)).1
  simpa using this
 ·have:=(Zd.mp (Zd.mp (Bool.not_eq_true _▸h1)).1).1
  cases hq:(ts.length == 2||ts.length == 3) with
  |false=>rw[hq] at this;injection this
  |true=>exact(gR.mp hq).imp wM wM
theorem Di{α β:Type}{f:α→Option β}:∀{l:List α},(l.filterMap f).length=l.length→∀a∈l,(f a).isSome=true:=by
 intro l;induction l with
 |nil =>
  intro _ a h;simp at h
 |cons x r ih =>
  intro h a hm;cases hx:f x with
  |none =>
   rw[List.filterMap_cons_none hx] at h;have:=List.length_filterMap_le f r;simp at h;exact absurd (h▸this) (Nat.not_succ_le_self _)
  |some b =>
   rw[Q6 hx] at h;rcases q7.mp hm with rfl | hm
   ·rw[hx];rfl
   ·exact ih (by simpa using h) a hm
theorem qmu{X Z:Addr→Prop}{bs:List Nat}{ρ ρ':qG}{U U':St}{s s':Shared}{L:Addr}{h':Heap}(R:Rel g Z bs ρ U s.heap)(R6:Rel g (Zu Z λb=>b=L) bs ρ' U' s'.heap)(P:Post X ρ U s ρ' U' s')(hL:¬ Lv s.heap L)(hsb:Heap.SameBut L s'.heap h'):
  Rel g Z bs ρ' U' h'∧Post X ρ U s ρ' U' { s' with heap:=h' }:=by
 have kk:∀b o,s'.heap.get? b=some o→¬ b=L→h'.get? b=some o:=λb o e hb=>hsb.extBut b o hb e;refine⟨R6.done (λb hb e=>hL (e▸(R.zlt hb).2)) kk,?_⟩;have P2:Post (λb=>b=L) ρ' U' s' ρ' U' { s' with heap:=h' }:=Post.inX kk rfl rfl;have P3:Post (λb=>X b∨b=L) ρ U s ρ' U' { s' with heap:=h' }:=(P.wider λB h=>.inl h).trans (P2.wider λB h=>.inr h);exact P3.fresh λb hb lb=>hb.elim id λe=>absurd (e▸lb) hL
theorem B0{tx value:Expr}{pos:Pos}{A:Around}{s:Shared}{env:PySem.Env}{E:Value→Shared→Prop}{Q:PySem.Flow→Shared→Prop}(h:wpAny (model g.prog g.w) A (eval value env) (λv s₁=>wpAny (model g.prog g.w) A (assign tx env v) (λB=>Q .next) E s₁) E s)(hm:(assignEach [tx] env).map (·.2)=[assign tx env])(hs:swapsWithSole [tx] value pos.line env=pure false)(hw:swappedStores [tx] value env=pure none):
  wpAny (model g.prog g.w) A (exec (.Assign [tx] value pos) env) Q E s:=by
 refine wpAny_Assign_stores (zS h (λv s₁ h₁=>?_) λB B x=>x) hs hw;rw[hm];exact h₁
theorem HG{ts:List Expr}{k:Nat}{p:Pos}{value:Expr}{pos:Pos}{names:List Str}{A:Around}{s:Shared}{env:PySem.Env}{E:Value→Shared→Prop}{Q:PySem.Flow→Shared→Prop}(h:wpAny (model g.prog g.w) A (eval value env) (λv s₁=>wpAny (model g.prog g.w) A (unpackItems v names.length none) (λitems s₂ =>
   wpAny (model g.prog g.w) A (assignInOrder (names.reverse.map λn=>bindName env n) items.reverse) (λB=>Q .next) E s₂) E s₁) E s)(hs:swapsWithSole [.Tuple ts k p] value pos.line env=pure false)(hw:swappedStores [.Tuple ts k p] value env=pure (some names)):
  wpAny (model g.prog g.w) A (exec (.Assign [.Tuple ts k p] value pos) env) Q E s:=Assign_Tuple_swapped h hs hw
inductive NmOf (C:Cfg) (env:PySem.Env) (line:Nat) (c:CT) (t:Expr):Prop
 |mk (i:Nat) (x:Str) (h1:c = .nm i) (h2:w9 C i x=true) (h3:env.kindOf x=some .local) (h4:gq env line t=some x)
theorem qdc(h:yd C c sc t=true)(hf:(gq env line t).isSome=true):NmOf C env line c t:=by
 induction c using Mine.CT.casesOn with
 |nm i =>
  obtain⟨x,p,rfl,h1,_,_⟩:=Qr h;have hf:(if env.kindOf x == some NameKind.local&&p.line == line then some x else none).isSome=true:=hf;by_cases hc:(env.kindOf x == some NameKind.local&&p.line == line)=true
  ·refine⟨i,x,rfl,h1,by simpa using (qc hc).1,?_⟩
   show(if env.kindOf x == some NameKind.local&&p.line == line then some x else none)=some x
   rw[if_pos hc]
  ·rw[if_neg hc] at hf;injection hf
 |tup ts =>
  obtain⟨xs,k,p,rfl,_⟩:=xO h;injection hf
theorem qmE(h:xS [i,j]=true):i≠j:=by
 intro e;subst e;simp[BP,BQ] at h
theorem qmF(h:xS [i,j,m]=true):i≠j∧i≠m∧j≠m:=by
 refine⟨λe=>?_,λe=>?_,λe=>?_⟩ <;> subst e <;> simp[BP,BQ] at h
theorem qhO{J:Env}{i j:Nat}{a b:AV}(h:i≠j)(n:Nat):((J.put i a).put j b).get n=((J.put j b).put i a).get n:=by
 simp only[Env.get_put];by_cases h1:i=n
 ·have h2:¬ j=n:=λe=>h (h1.trans e.symm)
  rw[if_neg h2,if_pos h1,if_pos h1]
 ·rw[if_neg h1,if_neg h1]
theorem qfP{J:Env}{i j m:Nat}{a b c:AV}(h:i≠j∧i≠m∧j≠m)(n:Nat):(((J.put i a).put j b).put m c).get n=(((J.put m c).put j b).put i a).get n:=by
 simp only[Env.get_put];by_cases h1:i=n
 ·have h2:¬ j=n:=λe=>h.1 (h1.trans e.symm)
  have h3:¬ m=n:=λe=>h.2.1 (h1.trans e.symm);rw[if_neg h3,if_neg h2,if_pos h1,if_pos h1]
 ·by_cases h2:j=n
  ·have h3:¬ m=n:=λe=>h.2.2 (h2.trans e.symm)
   rw[if_neg h3,if_pos h2,if_neg h1,if_pos h2]
  ·rw[if_neg h1,if_neg h1,if_neg h2,if_neg h2]
inductive BindNm (i:Nat) (r:CTs) (l:List AV) (J J':Env):Prop
 |mk (v:AV) (vs:List AV) (e:l=v::vs) (h2:wp r vs (J.put i v)=some J')
theorem QA(e:wp (.cons (.nm i) r) l J=some J'):BindNm i r l J J':=by
 obtain⟨v,vs,J1,e1,h1,h2⟩:=gx e;exact⟨v,vs,e1,qA h1▸h2⟩
theorem qaR(G:GOk g)(W:Wired g C){c1 c2:CT}{t1 t2:Expr}{sc:qv}{A:Around}{s:Shared}{env:PySem.Env}{asg:Str→Bool}{X Z:Addr→Prop}{J J':Env}{bs:List Nat}{ρ:qG}{U:St}{E:Value→Shared→Prop}{vs:List Value}{l:List AV}{line:Nat}{Q:Unit→Shared→Prop}(n1:NmOf C env line c1 t1)(n2:NmOf C env line c2 t2)(hnd:Yk (xx (.cons c1 (.cons c2 .nil)))=true)(H:Here g d A env sc asg X)(ho:∀y,sc.lookup y=some .local∨sc.lookup y=some .cell→asg y=true)(R:Rel g Z bs ρ U s.heap)(er:ER g Z ρ U s.heap env J)(ra:RAs ρ (Fz Z ρ U) s.heap vs l)(e:wp (.cons c1 (.cons c2 .nil)) l J=some J')(k:∀s',Rel g Z bs ρ U s'.heap→ER g Z ρ U s'.heap env J'→Post X ρ U s ρ U s'→Q () s'):
  wpAny (model g.prog g.w) A (assignInOrder (([t1,t2].filterMap (gq env line)).reverse.map λn=>bindName env n) vs.reverse) Q E s:=by
 have hX:∀b,X b→Z b:=hXZ H er;have hoL:∀x,env.kindOf x=some .local→asg x=true:=λx hx=>ho x (.inl (by rw[←H.kind];exact hx));have gi:∀{i:Nat}{x:Str},w9 C i x=true→g.nm[i]? = some x:=λh=>by rw[←W.nm];exact yT h
 obtain⟨i,x,rfl,hx,kx,f1⟩:=n1;obtain⟨j,y,rfl,hy,ky,f2⟩:=n2;rw[Q6 f1,Q6 f2,List.filterMap_nil];refine wZ λGo hGo=>?_;obtain⟨a,l1,rfl,e1⟩:=QA e;obtain⟨b,l2,rfl,e2⟩:=QA e1;obtain⟨rfl,rfl⟩:=kg e2;obtain⟨va,vb,rfl,r1,r2⟩:=ra.two_;refine hGo ?_;show wpAny _ _ (do holding [va] (bindName env y vb);(do holding [] (bindName env x va);pure ())) Q E s
 refine qe (jX (vZ G H.ok R er (gi hy) (hoL y ky) r2 λs1 R1 e1 P1=>?_));refine qe (jX (vZ G H.ok R1 e1 (gi hx) (hoL x kx) (RA.post r1 P1 hX) λs2 R2 e2 P2=>?_));exact qp (k s2 R2 (e2.weak λm v hm=>qhO (qmE hnd) m▸hm) (P1.trans P2))
theorem qaS(G:GOk g)(W:Wired g C){c1 c2 c3:CT}{t1 t2 t3:Expr}{sc:qv}{A:Around}{s:Shared}{env:PySem.Env}{asg:Str→Bool}{X Z:Addr→Prop}{J J':Env}{bs:List Nat}{ρ:qG}{U:St}{E:Value→Shared→Prop}{vs:List Value}{l:List AV}{line:Nat}{Q:Unit→Shared→Prop}(n1:NmOf C env line c1 t1)(n2:NmOf C env line c2 t2)(n3:NmOf C env line c3 t3)(hnd:Yk (xx (.cons c1 (.cons c2 (.cons c3 .nil))))=true)(H:Here g d A env sc asg X)(ho:∀y,sc.lookup y=some .local∨sc.lookup y=some .cell→asg y=true)(R:Rel g Z bs ρ U s.heap)(er:ER g Z ρ U s.heap env J)(ra:RAs ρ (Fz Z ρ U) s.heap vs l)(e:wp (.cons c1 (.cons c2 (.cons c3 .nil))) l J=some J')(k:∀s',Rel g Z bs ρ U s'.heap→ER g Z ρ U s'.heap env J'→Post X ρ U s ρ U s'→Q () s'):
  wpAny (model g.prog g.w) A (assignInOrder (([t1,t2,t3].filterMap (gq env line)).reverse.map λn=>bindName env n) vs.reverse) Q E s:=by
 have hX:∀b,X b→Z b:=hXZ H er;have hoL:∀x,env.kindOf x=some .local→asg x=true:=λx hx=>ho x (.inl (by rw[←H.kind];exact hx));have gi:∀{i:Nat}{x:Str},w9 C i x=true→g.nm[i]? = some x:=λh=>by rw[←W.nm];exact yT h
 obtain⟨i,x,rfl,hx,kx,f1⟩:=n1;obtain⟨j,y,rfl,hy,ky,f2⟩:=n2;obtain⟨m,z,rfl,hz,kz,f3⟩:=n3;rw[Q6 f1,Q6 f2,Q6 f3,List.filterMap_nil];refine wZ λGo hGo=>?_;obtain⟨a,l1,rfl,e1⟩:=QA e;obtain⟨b,l2,rfl,e2⟩:=QA e1;obtain⟨c,l3,rfl,e3⟩:=QA e2;obtain⟨rfl,rfl⟩:=kg e3;obtain⟨va,vs1,rfl,r1,rs⟩:=ra.cons_;obtain⟨vb,vc,rfl,r2,r3⟩:=rs.two_;refine hGo ?_;show wpAny _ _ (do holding [vb,va] (bindName env z vc);(do holding [va] (bindName env y vb);(do holding [] (bindName env x va);pure ()))) Q E s
 refine qe (jX (vZ G H.ok R er (gi hz) (hoL z kz) r3 λs1 R1 e1 P1=>?_));refine qe (jX (vZ G H.ok R1 e1 (gi hy) (hoL y ky) (RA.post r2 P1 hX) λs2 R2 e2 P2=>?_));refine qe (jX (vZ G H.ok R2 e2 (gi hx) (hoL x kx) (RA.post (RA.post r1 P1 hX) P2 hX) λs3 R3 e3 P3=>?_));exact qp (k s3 R3 (e3.weak λn v hm=>qfP (qmF hnd) n▸hm) ((P1.trans P2).trans P3))
theorem qdE(G:GOk g)(W:Wired g C){cs:CTs}{ts:List Expr}{sc:qv}{A:Around}{s:Shared}{env:PySem.Env}{asg:Str→Bool}{X Z:Addr→Prop}{J J':Env}{bs:List Nat}{ρ:qG}{U:St}{E:Value→Shared→Prop}{vs:List Value}{l:List AV}{names:List Str}{line:Nat}{Q:Unit→Shared→Prop}(hc:vM C cs sc ts=true)(hnd:Yk (xx cs)=true)(hn:names=ts.filterMap (gq env line))(hlen:names.length=ts.length)(h23:ts.length=2∨ts.length=3)(H:Here g d A env sc asg X)(ho:∀y,sc.lookup y=some .local∨sc.lookup y=some .cell→asg y=true)(R:Rel g Z bs ρ U s.heap)(er:ER g Z ρ U s.heap env J)(ra:RAs ρ (Fz Z ρ U) s.heap vs l)(e:wp cs l J=some J')(k:∀s',Rel g Z bs ρ U s'.heap→ER g Z ρ U s'.heap env J'→Post X ρ U s ρ U s'→Q () s'):
  wpAny (model g.prog g.w) A (assignInOrder (names.reverse.map λn=>bindName env n) vs.reverse) Q E s:=by
 rw[hn] at hlen ⊢;have hall:=Di hlen;induction cs using Mine.CTs.casesOn with
 |nil=>rw[k7 hc] at h23;exact absurd h23 (by decide)
 |cons c1 cs1 =>
  obtain⟨t1,ts1,rfl,k1,hc1⟩:=v4 hc;induction cs1 using Mine.CTs.casesOn with
  |nil=>rw[k7 hc1] at h23;exact absurd (show 1=2∨1=3 from h23) (by decide)
  |cons c2 cs2 =>
   obtain⟨t2,ts2,rfl,k2,hc2⟩:=v4 hc1;have n1:=qdc k1 (hall t1 (.head _));have n2:=qdc k2 (hall t2 (.tail _ (.head _)));induction cs2 using Mine.CTs.casesOn with
   |nil =>
    obtain rfl:=k7 hc2;exact qaR G W n1 n2 hnd H ho R er ra e k
   |cons c3 K4 =>
    obtain⟨t3,ts3,rfl,k3,hc3⟩:=v4 hc2;have n3:=qdc k3 (hall t3 (.tail _ (.tail _ (.head _))));induction K4 using Mine.CTs.casesOn with
    |nil =>
     obtain rfl:=k7 hc3;exact qaS G W n1 n2 n3 hnd H ho R er ra e k
    |cons c4 cs4 =>
     obtain⟨t4,ts4,rfl,k4,_⟩:=v4 hc3;exact absurd (show ts4.length+4=2∨ts4.length+4=3 from h23) (λh=>h.elim (λh=>nomatch h) λh=>nomatch h)
theorem qdL(h:∀vs k q,v ≠ .Tuple vs k q):swappedStores [.Tuple xs k0 p] v env=pure none:=by
 induction v using PySem.Expr.casesOn with
 |Tuple vs k q=>exact absurd rfl (h vs k q)
 |_=>rfl
theorem KO:swapsWithSole [.Tuple xs k p] v n env=pure false:=by rcases v <;> rfl
theorem Kl:swappedStores [.Name y p] v env=pure none:=by rcases v <;> rfl
theorem qge(h:qhE v=true)(hl:∀a b c q,v ≠ .ListComp a b c q):swapsWithSole [.Name y p] v n env=pure false:=by
 induction v using PySem.Expr.casesOn with
 |ListComp a b c q=>exact absurd rfl (hl a b c q)
 |SetComp a b c q=>injection h
 |DictComp a b c q r=>injection h
 |_=>rfl
theorem qfj{q:Pos}(h:qC C e sc (.ListComp elt gens sc0 q)=true)(ev:qt K J e U=some r):∃xs c,e = .comp xs c:=by
 induction e using Mine.CE.casesOn with
 |comp xs c=>exact⟨xs,c,rfl⟩
 |stuck=>injection ev
 |_=>injection h
noncomputable abbrev qjp(g:Glb)(Z X:Addr→Prop)(bs:List Nat)(ρ:qG)(U:St)(s:Shared)(env:PySem.Env)(U1:St)(J1:Env)(Q:PySem.Flow→Shared→Prop):Prop :=
 ∀s' ρ' pf,Rel g Z bs ρ' U1 s'.heap→ER g Z ρ' U1 s'.heap env J1→Post X ρ U s ρ' U1 s'→FlR ρ' (Fz Z ρ' U1) s'.heap .next pf→Q pf s'
theorem qeA(G:GOk g)(W:Wired g C){i:Nat}{xs:List Nat}{c:CL}(hA:Kn g C d K c){y:Str}{p:Pos}{elt:Expr}{gens:List Comprehension}{sc0:Scope}{q pos:Pos}{sc:qv}{A:Around}{s:Shared}{env:PySem.Env}{asg:Str→Bool}{X Z:Addr→Prop}{J J1:Env}{bs:List Nat}{ρ:qG}{U U1:St}{E:Value→Shared→Prop}{v:AV}{Q:PySem.Flow→Shared→Prop}(hv:qC C (.comp xs c) sc (.ListComp elt gens sc0 q)=true)(ht:yd C (.nm i) sc (.Name y p)=true)(hown:gZ asg (.nm i) (.Name y p)=true)(H:Here g d A env sc asg X)(R:Rel g Z bs ρ U s.heap)(er:ER g Z ρ U s.heap env J)(e1:qt K J (.comp xs c) U=some (v,U1))(hb:jC (.nm i) v J=some J1)(k:qjp g Z X bs ρ U s env U1 J1 Q)(hs:swapsWith (.ListComp elt gens sc0 q) (some (.Name y p)) pos.line env=pure true):
  wpAny (model g.prog g.w) A (exec (.Assign [.Name y p] (.ListComp elt gens sc0 q) pos) env) Q E s:=by
 refine wZ λGo hGo=>?_;obtain⟨elt',tx,ix,fs,rr,sco,p',hq,h1,h2,h3⟩:=Ky hv;obtain⟨rfl,rfl,rfl,rfl⟩:=Expr.ListComp.inj hq;obtain⟨t,ci,ifs,more,rfl,c1,c2,c3,c4,c5⟩:=qeV h3;obtain⟨ys,U2,e2,e3⟩:=qm e1;obtain⟨hlen,e4⟩:=qI e3;obtain⟨rfl,rfl⟩:=qx e4;refine hGo ?_;rw[exec_Assign_Name_used _ _ _ _ hs];refine qe (wk (qe ?_));show wpAny _ A (do let _ ←comprehension (.ListComp elt (⟨tx,ix,fs,0⟩::rr) sc0 q) sc0 env _ (newList []) false (eval ix env) (some (assign (.Name y p) env))) _ _ s
 refine qe (zS (HR (use:=some (assign (.Name y p) env)) (Q:=λB s'=>Q .next s') G W hA.1 hA.2.1 hA.2.2 h1 h2 c1 c2 c3 c4 c5 H R er e2 hlen λs' ρ' L D R6 ra er6 P ⟨m,hm⟩ hL=>?_) (λB s' hq=>qp (qp hq)) λB B e=>e);show wpAny _ A (assign (.Name y p) env (.ref D)) _ _ _
 refine(ke G W (.nm i)).ok ht hown H R6 er6 ra hb λs2 R2 er2 P2=>?_;have hLX:¬ X L:=λhx=>hL (R.zlt (hXZ H er L hx)).2;refine⟨m,hm.at' λo ho=>P2.ext L o ho hLX (R6.notFoot (.inr rfl)),λh' hsb=>?_⟩;obtain⟨R7,P7⟩:=qmu R R2 ((P.wider λB h=>h.elim).trans P2) hL hsb;have kk:∀b o,s2.heap.get? b=some o→¬ b=L→h'.get? b=some o:=λb o e hb=>hsb.extBut b o hb e;have P3:Post (λb=>b=L) ρ' U2 s2 ρ' U2 { s2 with heap:=h' }:=Post.inX kk rfl rfl;have nL:∀b,Z b→¬ b=L:=λb hb e=>hL (e▸(R.zlt hb).2);have er7:=(er2.step R2 P3 (λb hb=>.inr hb) (nL _ er.zL) (λx c h=>nL _ (er.zC x c h))).drop (Z:=Z) (λb hb=>.inl hb) er.zL er.zC;exact k _ ρ' .next R7 er7 P7 .next
theorem SS.assignS(G:GOk g)(W:Wired g C)(he:SE g C d K e0)(hcm:∀xs c,e0 = .comp xs c→Kn g C d K c):SS g C d K (.assign t e0):=⟨by
 intro x sc A s env asg X Z J J' bs ρ U U' E fl Q hc H ho R er e k;obtain⟨tx,val,pos,rfl,ht,hv,htup,hsd⟩:=qcL hc;obtain⟨v,U1,e1,ea⟩:=qm e;obtain⟨J1,hb,eb⟩:=qo ea;obtain⟨rfl,rfl,rfl⟩:=z8 eb;have hown:=Kt ho t ht;have plain:(assignEach [tx] env).map (·.2)=[assign tx env]→swapsWithSole [tx] val pos.line env=pure false→swappedStores [tx] val env=pure none→wpAny (model g.prog g.w) A (exec (.Assign [tx] val pos) env) Q E s:=λhm hs hw =>
  B0 (he.ok hv H R er e1 λvl s1 ρ1 R1 P1 q1=>(ke G W t).ok ht hown H R1 (er.post R P1) q1 hb λs2 R2 er2 P2=>k s2 ρ1 .next R2 er2 ((P1.wider λB h=>h.elim).trans P2) .next) hm hs hw
 induction t using Mine.CT.casesOn with
 |tup ts =>
  obtain⟨xs,kk,tp,rfl,_,htc⟩:=xO ht;by_cases hvt:∃vs k2 q,val = .Tuple vs k2 q
  ·obtain⟨vs,k2,q,rfl⟩:=hvt
   obtain⟨h1,h2⟩:=qc (show(Dz vs&&Yk (xx ts))=true from htup);rcases Do (ts:=xs) (k:=kk) (p:=tp) (k2:=k2) (p2:=q) (env:=env) h1 with hw | ⟨names,line,hw,hn,hlen,h23⟩
   ·exact plain rfl KO hw
   ·refine HG (names:=names) (he.ok hv H R er e1 λvl s1 ρ1 R1 P1 q1=>?_) KO hw
    obtain⟨l,b1,b2⟩:=Qn U1 hb;refine XO H.room.handled R1 q1 b1 (by rw[hlen];exact gX b2 htc) λh' us kp rs=>?_;have P0:Post jZ ρ1 U1 s1 ρ1 U1 { s1 with heap:=h' }:=Post.grow kp rfl rfl;refine qdE G W htc h2 hn hlen h23 H ho (R1.grow kp) (ER.post (s':={ s1 with heap:=h' }) R1 (er.post R P1) P0) rs b2 λs2 R2 er2 P2=>?_;exact k s2 ρ1 .next R2 er2 ((P1.wider λB h=>h.elim).trans ((P0.wider λB h=>h.elim).trans P2)) .next
  ·exact plain rfl KO (qdL λvs k q e=>hvt ⟨vs,k,q,e⟩)
 |nm i =>
  obtain⟨y,p,rfl,_⟩:=Qr ht;by_cases hl:∃elt gens sc0 q,val = .ListComp elt gens sc0 q
  ·obtain⟨elt,gens,sc0,q,rfl⟩:=hl
   cases hbb:(env.blockKind == .function&&env.kindOf y == some .local&&p.line == (Expr.ListComp elt gens sc0 q).pos.line&&!(sc0.names.any λ(n,k)=>n == y&&(k == .local||k == .cell))) with
   |false=>exact plain rfl (show swapsWith (.ListComp elt gens sc0 q) (some (.Name y p)) pos.line env=pure false from(show pure _=pure false by rw[hbb])) Kl
   |true =>
    have hs:swapsWith (.ListComp elt gens sc0 q) (some (.Name y p)) pos.line env=pure true:=show pure _=pure true by rw[hbb]
    obtain⟨xs,c,rfl⟩:(∃xs c,e0 = .comp xs c):=qfj hv e1;exact qeA G W (hcm xs c rfl) hv ht hown H R er e1 hb k hs
  ·exact plain rfl (qge hsd λa b c q e=>hl ⟨a,b,c,q,e⟩) Kl⟩
end
structure Hyp (g:Glb) (C:Cfg) (d:Nat) (K:Ctx):Prop where
 G:GOk g
 W:Wired g C
 calls:∃call,yQ g d call∧K.call=call
 meth:∀c m,K.meth c m=g.P.meths.lookup (c,m)
 init:∀c,K.init c=g.P.inits.lookup c
 glob:∀gi,K.glob gi=(g.P.globs[gi]?).map (·.2)
 sset:SetSpec g
section
variable {g:Glb}{C:Cfg}{d:Nat}{K:Ctx}
mutual
theorem qZ(h:Hyp g C d K):∀e:CE,SE g C d K e∧ST g C d K e
 | .none=>⟨.none,.none⟩
 | .bool _=>⟨.bool,.bool⟩
 | .int _=>⟨.int,.int⟩
 | .str _=>⟨.str,.str⟩
 | .var i=>⟨.var h.W,.of_value (.var h.W) λhc=>by obtain⟨y,p,rfl,h1,h2⟩:=qbC hc;rfl⟩
 | .glob i=>⟨.glob h.G h.W h.glob,.of_value (.glob h.G h.W h.glob) λhc=>by obtain⟨y,p,rfl,h1,h2⟩:=Bh hc;rfl⟩
 | .tup es=>⟨.tup (j9 h es).es,.of_value (.tup (j9 h es).es) λhc=>by obtain⟨xs,kk,p,rfl,h0,h1,h2⟩:=qbB hc;rfl⟩
 | .list m es=>⟨.list (j9 h es).es,.of_value (.list (j9 h es).es) λhc=>by obtain⟨xs,p,rfl,h0,h1,h2⟩:=Bi hc;rfl⟩
 | .dict k es=>⟨.dict (j9 h es),.of_value (.dict (j9 h es)) λhc=>by obtain⟨ps,pos,rfl,h1,h2⟩:=Bf hc;rfl⟩
 | .bin o m a b=>⟨.bin (qZ h a).1 (qZ h b).1,.of_value (.bin (qZ h a).1 (qZ h b).1) λhc=>by obtain⟨y,z,p,rfl,h1,h2⟩:=qbs hc;rfl⟩
 | .neg a=>⟨.neg (qZ h a).1,.of_value (.neg (qZ h a).1) λhc=>by obtain⟨y,p,rfl,h1⟩:=qbv hc;rfl⟩
 | .not a=>⟨.not (qZ h a).1,.not (qZ h a).2⟩
 | .and es=>⟨.and (j9 h es).b,.and (j9 h es).b⟩
 | .or es=>⟨.or (j9 h es).b,.or (j9 h es).b⟩
 | .cmp o a b=>⟨.cmp h.G (qZ h a).1 (qZ h b).1,.cmp h.G (qZ h a).1 (qZ h b).1⟩
 | .ife t a b=>⟨.ife (qZ h t).2 (qZ h a).1 (qZ h b).1,.ife (qZ h t).2 (qZ h a).2 (qZ h b).2⟩
 | .call f es=>by
  obtain⟨call,hc,hk⟩:=h.calls;exact⟨.call h.G h.W hc hk (j9 h es).es,.of_value (.call h.G h.W hc hk (j9 h es).es) λhc=>by obtain⟨y,p,xs,q,rfl,h1,h2,h3,h4,h5⟩:=Be hc;rfl⟩
 | .meth a m es=>by
  obtain⟨call,hc,hk⟩:=h.calls;exact⟨.meth h.G h.W hc hk h.meth (qZ h a).1 (j9 h es).es,.of_value (.meth h.G h.W hc hk h.meth (qZ h a).1 (j9 h es).es) λhc=>by obtain⟨o,n,ap,xs,q,rfl,h1,h2,h3,h4,h5,h6,h7⟩:=Bj hc;rfl⟩
 | .new c es=>by
  obtain⟨call,hc,hk⟩:=h.calls;exact⟨.new h.G h.W hc hk h.init (j9 h es).es,.of_value (.new h.G h.W hc hk h.init (j9 h es).es) λhc=>by obtain⟨y,p,xs,q,rfl,h1,h2,h3,h4,h5⟩:=qbw hc;rfl⟩
 | .bm k a es=>⟨.bm h.G (qZ h a).1 (j9 h es).es,.of_value (.bm h.G (qZ h a).1 (j9 h es).es) λhc=>by obtain⟨o,ap,xs,q,rfl,h2,h3,h4,h5,h6,h7⟩:=qeX hc;rfl⟩
 | .bi k es=>⟨.bi h.G h.W h.sset (j9 h es),.of_value (.bi h.G h.W h.sset (j9 h es)) λhc=>by obtain⟨p,xs,q,ys,rfl,h1,h2,h3,h4,h5⟩:=qeW hc;rfl⟩
 | .attr a m=>⟨.attr h.G h.W (qZ h a).1,.of_value (.attr h.G h.W (qZ h a).1) λhc=>by obtain⟨o,n,p,rfl,h1,h2,h3,h4⟩:=Bc hc;rfl⟩
 | .sub a i=>⟨.sub (qZ h a).1 (qZ h i).1,.of_value (.sub (qZ h a).1 (qZ h i).1) λhc=>by obtain⟨o,j,p,rfl,h0,h1,h2⟩:=qbA hc;rfl⟩
 | .slice a lo hi=>⟨.slice (qZ h a).1 (Ds h lo) (Ds h hi),.of_value (.slice (qZ h a).1 (Ds h lo) (Ds h hi)) λhc=>by obtain⟨o,l,u,q,p,rfl,h1,h2,h3⟩:=HY hc;rfl⟩
 | .comp xs c=>⟨.comp h.G h.W (Dr h c),.of_value (.comp h.G h.W (Dr h c)) λhc=>by obtain⟨elt,tx,ix,fs,r,s,p,rfl,_⟩:=Ky hc;rfl⟩
 | .fstr ps=>⟨.fstr (j9 h ps),.of_value (.fstr (j9 h ps)) λhc=>by obtain⟨y,a,v,k1,p1,p2,p,rfl,rfl,h3⟩:=Bg hc;rfl⟩
 | .stuck=>⟨.stuck,.stuck⟩
theorem j9(h:Hyp g C d K):∀es:CEs,w7 g C d K es
 | .nil=>trivial
 | .cons a r=>⟨(qZ h a).1,(qZ h a).2,j9 h r⟩
theorem Ds(h:Hyp g C d K):∀o:CO,SO g C d K o
 | .none=>.none
 | .some e=>.some (qZ h e).1
theorem qiC(h:Hyp g C d K):∀i:CI,SI g C d K i
 | .it e=>.it (qZ h e).1
 | .range1 a=>.range1 h.G h.W (qZ h a).1
 | .range2 a b=>.range2 h.G h.W (qZ h a).1 (qZ h b).1
 | .zip a b=>.zip h.G h.W (qZ h a).1 (qZ h b).1
theorem Dr(h:Hyp g C d K):∀c:CL,Kn g C d K c
 | .elt e=>(qZ h e).1
 | .cons _ i ifs m=>⟨qiC h i,j9 h ifs,Dr h m⟩
end
mutual
theorem qnE(h:Hyp g C d K):∀st:CS,SS g C d K st
 | .assign t e=>.assignS h.G h.W (qZ h e).1 λB c B=>Dr h c
 | .setAttr a m e=>.setAttr h.G h.W (qZ h a).1 (qZ h e).1
 | .setSub a i e=>.setSub (qZ h a).1 (qZ h i).1 (qZ h e).1
 | .expr e=>.expr (qZ h e).1
 | .ret e=>.ret (qZ h e).1
 | .retF e=>.retF (qZ h e).1
 | .retNone=>.retNone
 | .ifS t a b=>.ifS (qZ h t).2 (Qy h a) (Qy h b)
 | .forS t i b=>.forS h.G h.W (qiC h i) (Qy h b)
 | .whileS t b=>.whileS (qZ h t).2 (Qy h b)
 | .superInit c f x=>⟨λhc=>(q9 hc).elim⟩
 | .stuck=>.stuck
theorem Qy(h:Hyp g C d K):∀st:CSs,SSs g C d K st
 | .nil=>.nil
 | .cons a r=>.cons (qnE h a) (Qy h r)
end
end
structure FnOk (g:Glb) (C:Cfg) (f:Nat) (fd:Fn) (D:FuncData) (body:List Stmt) (ps:List Str):Prop where
 at_:∃o,g.K.lookup (g.fa f)=some o∧o.data = .func D
 bod:D.body = .stmts body
 code:codeIn g.K D.code D.qualname=true
 clo:D.closure=[]
 bind:∀vals:List Value,vals.length=ps.length→bindArgs D ⟨vals,[]⟩=pure (ps.zip vals)
 nms:kb C fd.params ps=true
 ndp:ps.Nodup
 glob:D.globals=mainGlobals
 blt:D.builtins=builtinsNs
 kind:D.scope.kind = .function
 cor:D.scope.isCoroutine=false
 gen:D.scope.isGenerator=false
 nofree:∀x∈D.scope.names,x.2 ≠ .free
 par:∀x∈ps,D.scope.names.lookup x=some .local∨D.scope.names.lookup x=some .cell
 chk:wY C fd.body D.scope.names body=true
theorem KW:∀{binds:List (Str×Value)}{m:Str→Option Value},x ∉ binds.map (·.1)→bindL k binds m x=m x∧bindC k binds m x=m x:=by
 intro binds;induction binds with
 |nil =>
  intro m _;exact⟨rfl,rfl⟩
 |cons hdq r ih =>
  intro m h;obtain⟨n,v⟩:=hdq;simp only[List.map_cons,q7,not_or] at h;obtain⟨h1,h2⟩:=ih (m:=if k n=some .local thenλy=>if y=n then some v else m y else m) h.2;obtain⟨h3,h4⟩:=ih (m:=if k n=some .local then m elseλy=>if y=n then some v else m y) h.2;constructor
  ·unfold bindL;rw[h1];split
   ·exact if_neg h.1
   ·rfl
  ·unfold bindC;rw[h4];split
   ·rfl
   ·exact if_neg h.1
theorem DH:∀{binds:List (Str×Value)}{m:Str→Option Value},(binds.map (·.1)).Nodup→(x,v)∈binds→(k x=some .local→bindL k binds m x=some v)∧(¬ k x=some .local→bindC k binds m x=some v):=by
 intro binds;induction binds with
 |nil =>
  intro m _ h;simp at h
 |cons hdq r ih =>
  intro m hn h;obtain⟨n,w⟩:=hdq;simp only[List.map_cons,List.nodup_cons] at hn;rcases q7.mp h with e | h
  ·injection e with e e1q;subst e;subst e1q
   refine⟨λhk=>?_,λhk=>?_⟩
   ·unfold bindL;rw[(KW hn.1).1,if_pos hk,if_pos rfl]
   ·unfold bindC;rw[(KW hn.1).2,if_neg hk,if_pos rfl]
  ·refine⟨λhk=>?_,λhk=>?_⟩
   ·unfold bindL;exact(ih hn.2 h).1 hk
   ·unfold bindC;exact(ih hn.2 h).2 hk
theorem qiz{α:Type}:∀{ps:List Str}{vals:List α},vals.length=ps.length→(ps.zip vals).map (·.1)=ps:=by
 intro ps;induction ps with
 |nil =>
  intro c2q;rcases c2q with _ | ⟨_,_⟩
  ·intro _
   exact rfl
  ·intro h
   simp at h
 |cons p ps ih =>
  intro c2q;rcases c2q with _ | ⟨v,vals⟩
  ·intro h
   simp at h
  ·intro h
   simp[ih (vals:=vals) (by simpa using h)]
theorem qdZ:∀{ids:List Nat}{ps:List Str},kb C ids ps=true→ps.length=ids.length:=by
 intro ids;induction ids with
 |nil =>
  intro c2q;rcases c2q with _ | ⟨_,_⟩
  ·intro _
   exact rfl
  ·intro h
   simp[kb] at h
 |cons i r ih =>
  intro c2q;rcases c2q with _ | ⟨x,xs⟩
  ·intro h
   simp[kb] at h
  ·intro h
   simp only[kb,Bool.and_eq_true] at h;simp[ih h.2]
set_option tactic.hygienic true in
theorem DI{g:Glb}{C:Cfg}(G:GOk g)(W:Wired g C){ρ:qG}{F:Addr→Prop}{h:Heap}:∀{ids:List Nat}{ps:List Str}{vals:List Value}{vs:List AV},kb C ids ps=true→RAs ρ F h vals vs→∀{i:Nat}{v:AV}{x:Str},Env.get (ids.zip vs) i=some v→g.nm[i]? = some x→∃val,(x,val)∈ps.zip vals∧RA ρ F h val v:=by
 intro ids;induction ids with
 |nil =>
  intro c2q;rcases c2q with _ | ⟨_,_⟩
  ·intro vals vs _ _ i v x e _
   simp[Env.get'1,Env.get'2] at e
  ·intro _ _ h _ _ _ _ _ _
   simp[kb] at h
 |cons j r ih =>
  intro c2q;rcases c2q with _ | ⟨y,ys⟩
  ·intro _ _ h _ _ _ _ _ _
   simp[kb] at h
  ·intro vals vs hn ra i v x e hx
   simp only[kb,Bool.and_eq_true] at hn;induction ra using Mine.RAs.casesOn with
   |nil=>simp[Env.get'1,Env.get'2] at e
   |cons r1 rs =>
    rename_i v1 x1 vs1 xs1
    simp only[List.zip_cons_cons,Env.get'1,Env.get'2] at e;cases hji:j == i with
    |true =>
     rw[hji,cond_true] at e;injection e with e;subst e;have:=zr.mp hji;subst this;have hy:=yT hn.1;rw[W.nm,hx] at hy;injection hy with hy;subst hy;exact⟨v1,by simp,r1⟩
    |false =>
     rw[hji,cond_false] at e;obtain⟨val,h1,h2⟩:=ih hn.2 rs e hx;exact⟨val,by simp[h1],h2⟩
theorem qiS{g:Glb}{C:Cfg}{d:Nat}{K:Ctx}(h:Hyp g C d K){f:Nat}{fd:Fn}{D:FuncData}{body:List Stmt}{ps:List Str}(F:FnOk g C f fd D body ps){vs:List AV}{U U':St}{fl:Mine.Flow}{J':Env}(hlen:fd.params.length=vs.length)(e:qy K fd.body (fd.params.zip vs) U=some ((fl,J'),U')){A:Around}{s:Shared}{Z:Addr→Prop}{bs:List Nat}{ρ:qG}{R:Result→Shared→Prop}{vals:List Value}(Rm:Room (d+1) A)(Rl:Rel g Z bs ρ U s.heap)(ra:RAs ρ (Fz Z ρ U) s.heap vals vs)(k:∀val s' ρ',Rel g Z bs ρ' U' s'.heap→Post jZ ρ U s ρ' U' s'→RA ρ' (Fz Z ρ' U') s'.heap val fl.val→R (.ok (.ret val)) s'):
  codeAny (model g.prog g.w) A (.call (.ref (g.fa f)) ⟨vals,[]⟩) R s:=by
 obtain⟨o,hK,hD⟩:=F.at_;have kin:g.K.In s.heap:=λa o e=>Rl.keep a o (h.G.kin a o e);have hvl:vals.length=ps.length:=by rw[ra.length,←hlen,qdZ F.nms]
 have hkeys:=qiz hvl;have hpar:∀x∈ps.zip vals,D.scope.names.lookup x.1=some .local∨(D.scope.names.lookup x.1=some .cell∧((cellsFrom (s.heap.objs.size+1) D.scope.names []).lookup x.1).isSome=true):=λx hx=>by
  have:x.1∈ps:=by rw[←hkeys];exact List.mem_map_of_mem hx
  rcases F.par _ this with q | q
  ·exact .inl q
  ·exact .inr ⟨q,vL (.inl (mem_of_lookup q))⟩
 refine codeAny_call_cells (o:=o) (fd:=D) (body:=body) (binds:=ps.zip vals) Rm.now (kin _ _ hK) hD (h.G.nolimit.keeps Rl.keep) (codeRec_of kin F.code) F.bod (F.bind vals hvl) F.clo hpar (λs1 x=>?_) F.cor F.gen F.kind;generalize henv:callEnvC D s.heap.objs.size (g.fa f)=env at x ⊢;have hloc:env.locals=s.heap.objs.size:=by rw[←henv];rfl
 have hsc:env.scope.names=D.scope.names:=by rw[←henv];rfl
 have hcells:env.cells=cellsFrom (s.heap.objs.size+1) D.scope.names []:=by rw[←henv];rfl
 have hkd:∀y,env.kindOf y=D.scope.names.lookup y:=λy=>by unfold PySem.Env.kindOf;rw[hsc]
 have hnew:∀b,(b=env.locals∨∃n,env.cells.lookup n=some b)→¬ Lv s.heap b∧Lv s1.heap b:=λb hb=>by
  refine orEq hb ?_ λ⟨n,hn⟩=>?_
  ·refine⟨by rw[hloc];exact wh _,?_⟩
   obtain⟨o,_,_,e,_⟩:=x.toInCall.ns;exact⟨o,e⟩
  ·refine⟨kr ?_,?_⟩
   ·have:=x.above n b (mem_of_lookup hn)
    rw[hloc] at this;exact jz this
   ·obtain⟨o,e,_⟩:=x.cell n b hn
    exact⟨o,e⟩
 have P1:Post jZ ρ U s ρ U s1:=by
  obtain⟨h',tk,rfl,kp⟩:=x.done;exact Post.grow kp rfl rfl
 have R1:Rel g (Zu Z λb=>b=env.locals∨∃n,env.cells.lookup n=some b) bs ρ U s1.heap:=Rl.enter x.toInCall.keep λb hb=>hb.elim .inl λhb=>.inr (hnew b hb);have ra1:RAs ρ (Fz (Zu Z λb=>b=env.locals∨∃n,env.cells.lookup n=some b) ρ U) s1.heap vals vs:=RAs.post (X:=jZ) (ra.zless λb hb=>hb.elim .inl λhb=>.inr (hnew b hb).1) P1 λB h=>False.elim h;have EO:EOK g env (λy=>D.scope.names.lookup y == some .local||D.scope.names.lookup y == some .cell) (λb=>b=env.locals∨∃n,env.cells.lookup n=some b):={
  kind:=by rw[←henv];exact F.kind
  globals:=by rw[←henv];exact F.glob
  builtins:=by rw[←henv];exact F.blt
  xL:=.inl rfl
  asgOk:=λy hy=>by
   simp only[Bool.or_eq_true,zr] at hy;rw[hkd];rcases hy with hy | hy
   ·exact .inl hy
   ·refine .inr ⟨hy,?_⟩
    obtain⟨c,hc⟩:=gP.mp (vL (k:=s.heap.objs.size+1) (acc:=[]) (.inl (mem_of_lookup hy)));rw[←hcells] at hc;exact⟨c,hc,.inr ⟨_,hc⟩⟩
  held:=λy hy=>by
   rw[hkd] at hy;rcases hy with hy | hy
   ·obtain⟨c,hc⟩:=gP.mp (vL (k:=s.heap.objs.size+1) (acc:=[]) (.inl (mem_of_lookup hy)))
    rw[←hcells] at hc;exact⟨c,hc⟩
   ·exact absurd rfl (F.nofree _ (mem_of_lookup hy))
  one:=λa b c ha hb=>name_of_addr x.apart (mem_of_lookup ha) (mem_of_lookup hb)
  apart:=λa c ha=>wL (x.above a c (mem_of_lookup ha))
  xs:=λb hb=>hb }
 have H:Here g d (A.deeper env) env D.scope.names (λy=>D.scope.names.lookup y == some .local||D.scope.names.lookup y == some .cell) (λb=>b=env.locals∨∃n,env.cells.lookup n=some b):=⟨EO,⟨Rm.deep1,Rm.unit1,Rm.handled,Rm.guards⟩,hsc⟩
 have nodupK:((ps.zip vals).map (·.1)).Nodup:=by rw[hkeys];exact F.ndp
 have ER1:ER g (Zu Z λb=>b=env.locals∨∃n,env.cells.lookup n=some b) ρ U s1.heap env (fd.params.zip vs):={
  ns:=⟨_,x.toInCall.ns,λi v y h1 h2 h3=>by
   obtain⟨val,q1,q2⟩:=DI h.G h.W F.nms ra1 h1 h2;exact⟨val,(DH nodupK q1).1 h3,q2⟩⟩
  cell:=λy c hc=>⟨_,x.cell y c hc,λi v h1 h2 h3=>by
   obtain⟨val,q1,q2⟩:=DI h.G h.W F.nms ra1 h1 h2;exact⟨val,(DH nodupK q1).2 (by rcases h3 with h3 | h3 <;> rw[h3] <;> decide),q2⟩⟩
  zL:=.inr (.inl rfl)
  zC:=λy c hc=>.inr (.inr ⟨y,hc⟩) }
 refine(Qy h fd.body).ok F.chk H (λy hy=>by simpa using hy) R1 ER1 e λs2 ρ2 pf R2 er2 P2 hf=>?_;have R3:Rel g Z bs ρ2 U' s2.heap:=R2.leave λb hb=>.inl hb;have P3:Post jZ ρ U s ρ2 U' s2:=((P1.wider λB h=>h.elim).trans P2).fresh λb hb lb=>absurd lb (hnew b hb).1;induction hf with
 |next=>exact k _ s2 ρ2 R3 P3 (.pv .none)
 |ret r=>exact k _ s2 ρ2 R3 P3 (r.drop λb hb=>.inl hb)
noncomputable def KP(g:Glb)(d:Nat)(f:Nat)(run:List AV→St→R AV):Prop :=
 ∀{vs:List AV}{U U':St}{r:AV},run vs U=some (r,U')→∀{A:Around}{s:Shared}{Z:Addr→Prop}{bs:List Nat}{ρ:qG}{E:Value→Shared→Prop}{Q:Value→Shared→Prop}{vals:List Value},
  Room d A→Rel g Z bs ρ U s.heap→RAs ρ (Fz Z ρ U) s.heap vals vs→jq g Z bs ρ U s r U' Q →
   codeAny (model g.prog g.w) A (.call (.ref (g.fa f)) ⟨vals,[]⟩) (λr s'=>match r with | .ok (.ret v)=>Q v s' | .ok _=>False | .error e=>E e s') s
theorem qaH{X:Addr→Prop}{ρ ρ':qG}{U U':St}{s s':Shared}(P:Post X ρ U s ρ' U' s'):({ U' with strict:=U.strict }:St)=U':=by
 have:=P.str;induction U';simp_all
inductive CallSome (P:Prog) (d:Nat) (fd:Fn) (vs:List AV) (U:St) (r:AV) (U':St):Prop
 |mk (fl:Mine.Flow) (J':Env) (s':St) (hl:fd.params.length=vs.length) (he:qy (qH P (qf P d)) fd.body (fd.params.zip vs) { U with strict:=U.strict||fd.trim }=some ((fl,J'),s'))
  (hn:fd.trim=false→r=fl.val∧U' = { s' with strict:=U.strict }) (ht:fd.trim=true→∃p,fl.val = .pv p∧r = .pv p∧U' = { heap:=s'.heap.take U.heap.length,strict:=U.strict })
set_option backward.match.sparseCases false in
theorem Y9{P:Prog}(hfd:P.fns[f]? = some fd)(e:qf P (d+1) f vs U=some (r,U')):CallSome P d fd vs U r U':=by
 rw[qf,hfd] at e;have e:(if fd.params.length=vs.length then match qy (qH P (qf P d)) fd.body (fd.params.zip vs) { U with strict:=U.strict||fd.trim } with
    |none=>none
    |some ((fl,_),s')=>bif fd.trim then (match fl.val with
      | .pv p=>some (.pv p,{ heap:=s'.heap.take U.heap.length,strict:=U.strict })
      |_=>none)
     else some (fl.val,{ s' with strict:=U.strict })
   else none)=some (r,U'):=e
 obtain⟨hl,e1⟩:=qI e;cases he:qy (qH P (qf P d)) fd.body (fd.params.zip vs) { U with strict:=U.strict||fd.trim } with
 |none=>rw[he] at e1;injection e1
 |some y =>
  obtain⟨⟨fl,J'⟩,s'⟩:=y;rw[he] at e1;have e2:(bif fd.trim then (match fl.val with
      | .pv p=>some (AV.pv p,{ heap:=s'.heap.take U.heap.length,strict:=U.strict })
      |_=>none)
     else some (fl.val,({ s' with strict:=U.strict }:St)))=some (r,U'):=e1
  refine⟨fl,J',s',hl,he,λht=>?_,λht=>?_⟩
  ·rw[ht] at e2
   obtain⟨h1,h2⟩:=qx e2;exact⟨h1.symm,h2.symm⟩
  ·rw[ht] at e2
   cases hv:fl.val with
   |pv p =>
    rw[hv] at e2;obtain⟨h1,h2⟩:=qx e2;exact⟨p,rfl,h1.symm,h2.symm⟩
   |_=>rw[hv] at e2;injection e2
theorem qjA(h:Hyp g C d (qH g.P (qf g.P d)))(hfd:g.P.fns[f]? = some fd){D:FuncData}(F:FnOk g C f fd D body ps):KP g (d+1) f (qf g.P (d+1) f):=by
 intro vs U U' r e A s Z bs ρ E Q vals Rm Rl ra k;obtain⟨fl,J',s',hlen,he,hn,ht'⟩:=Y9 hfd e;cases ht:fd.trim with
 |false =>
  obtain⟨rfl,rfl⟩:=hn ht;rw[ht,Bool.or_false] at he;refine qiS h F hlen he Rm Rl ra λval s1 ρ1 R1 P1 q1=>?_;rw[qaH P1] at k;exact k val s1 ρ1 R1 P1 q1
 |true =>
  obtain⟨p,hp,rfl,rfl⟩:=ht' ht;rw[ht,Bool.or_true] at he;refine qiS h F hlen he Rm Rl.bar ra λval s1 ρ1 R1 P1 q1=>?_;obtain⟨R2,P2⟩:=Rl.trim R1 (U₀:={ heap:=U.heap,strict:=true }) rfl P1;refine k val s1 ρ R2 P2 ?_;rw[hp] at q1;refine .pv (q1.pv_.mono λb o e f B=>⟨e,f.1,λft=>f.2 ?_⟩);obtain⟨i,l,x,a1,a2,a3,a4⟩:=ft;refine⟨i,l,x,P1.pre i l a1,?_,a3,a4⟩;have a2':(s'.heap.take U.heap.length)[i]? = some x:=a2;rw[List.getElem?_take] at a2';split at a2'
  ·exact a2'
  ·injection a2'
theorem qgP(G:GOk g)(W:Wired g C)(S:SetSpec g)(hf:∀f fd,g.P.fns[f]? = some fd→(∃D body ps,FnOk g C f fd D body ps)∨(∀d,yQ g d (qf g.P d)→KP g (d+1) f (qf g.P (d+1) f))):∀d,yQ g d (qf g.P d):=by
 intro d;induction d with
 |zero=>intro f vs U U' r _ e;simp only[qgN,qgO] at e;injection e
 |succ d ih =>
  intro f vs U U' r hlt e A s Z bs ρ E Q vals Rm Rl ra k;have hfd:g.P.fns[f]? = some (g.P.fns[f]'hlt):=zm _;rcases hf f _ hfd with⟨D,body,ps,F⟩ | h
  ·exact qjA ⟨G,W,⟨_,ih,rfl⟩,λB B=>rfl,λB=>rfl,λB=>rfl,S⟩ hfd F e Rm Rl ra k
  ·exact h d ih e Rm Rl ra k
noncomputable def w6(place:Array Nat)(led:Bool):SetTable:={ mask:=7,place:=place,dummies:=#[],finger:=0,led:=led,moves:=0,plain:=true }
noncomputable def Xc(led:Bool)(place:Array Nat)(h:Nat):Bool:=match (w6 place led).freeSlot (h:Int) with
 |some (slot,false) =>
  let p:=SetTable.below place slot
  decide (slot<8)&&decide (p≤place.size)&&SetTable.rising (SetTable.insertAt place p slot)&&(SetTable.insertAt place p slot).all (· < 8)&&decide ((SetTable.insertAt place p slot).size=place.size+1)
 |_=>false
theorem qnL:∀b:Bool,∀h<32,Xc b #[] h=true:=by decide +kernel
theorem qnM:∀l:Bool,∀a<8,∀h<32,Xc l #[a] h=true:=by decide +kernel
theorem qlt:∀a<8,SetTable.below #[a] 0=0∧SetTable.below #[a] (a+1)=1:=by decide +kernel
theorem qlu:∀a<8,∀b<8,a<b→SetTable.below #[a,b] 0=0∧SetTable.below #[a,b] (a+1)=1∧SetTable.below #[a,b] (b+1)=2:=by decide +kernel
section
variable {prog:Program}{w:World}{A:Around}{E:Value→Shared→Prop}{s:Shared}
noncomputable def yb:List (Int×Value)→List Int→Prop
 |[],[]=>True
 |e::r,k::l=>e.1=hashInt k∧(∃t,e.2 = .int k t)∧yb r l
 |_,_=>False
noncomputable def wE(h:Heap)(a:Addr)(l:List Int)(led:Bool):Prop :=
 ∃o es ep place,h.get? a=some o∧o.ExactSet∧o.data = .set es ep (w6 place led)∧yb es.toList l∧place.size=es.size∧es.size≤2∧SetTable.rising place=true∧place.all (· < 8)=true
theorem yb.length:∀{es:List (Int×Value)}{l:List Int},yb es l→es.length=l.length:=by
 intro es;induction es with
 |nil =>
  intro c2q;rcases c2q with _ | ⟨_,_⟩
  ·intro _
   exact rfl
  ·intro h
   exact h.elim
 |cons _ r ih =>
  intro c2q;rcases c2q with _ | ⟨_,l⟩
  ·intro h
   exact h.elim
  ·intro h
   simp[ih h.2.2]
theorem yb.elems:∀{es:List (Int×Value)}{l:List Int},yb es l→ElemsOf (intKind prog w) es:=by
 intro es;induction es with
 |nil =>
  intro c2q;rcases c2q with _ | ⟨_,_⟩
  ·intro _
   exactλe he=>by simp at he
  ·intro h
   exact h.elim
 |cons _ r ih =>
  intro c2q;rcases c2q with _ | ⟨_,l⟩
  ·intro h
   exact h.elim
  ·intro h
   exactλe he=>by
    rcases q7.mp he with rfl | he
    ·obtain⟨h1,⟨t,h2⟩,_⟩:=h
     exact⟨⟨_,by rw[h2];exact intKind_is _ _ _ _,h1⟩,by rw[h2];rfl⟩
    ·exact ih h.2.2 e he
theorem Xf:∀n:Nat,n<32→hashInt (n:Int)=(n:Int):=by decide +kernel
theorem yb.take:∀{es:List (Int×Value)}{l:List Int}(n:Nat),yb es l→yb (es.take n) (l.take n)
 |[],[],n,_=>by simp[yb]
 |_::r,_::l,0,h=>trivial
 |_::r,_::l,n+1,h=>⟨h.1,h.2.1,yb.take n h.2.2⟩
 |[],_::_,_,h=>h.elim
 |_::_,[],_,h=>h.elim
theorem yb.drop:∀{es:List (Int×Value)}{l:List Int}(n:Nat),yb es l→yb (es.drop n) (l.drop n)
 |[],[],n,_=>by simp[yb]
 |_::r,_::l,0,h=>h
 |_::r,_::l,n+1,h=>yb.drop n h.2.2
 |[],_::_,_,h=>h.elim
 |_::_,[],_,h=>h.elim
theorem yb.append:∀{es es2:List (Int×Value)}{l l2:List Int},yb es l→yb es2 l2→yb (es++es2) (l++l2):=by
 intro es;induction es with
 |nil =>
  intro _ c2q;rcases c2q with _ | ⟨_,_⟩
  ·intro _ _ h
   exact h
  ·intro _ h _
   exact h.elim
 |cons _ r ih =>
  intro _ c2q;rcases c2q with _ | ⟨_,l⟩
  ·intro _ h _
   exact h.elim
  ·intro _ h h2
   exact⟨h.1,h.2.1,ih h.2.2 h2⟩
theorem ZR{α:Type}(xs:Array α)(p:Nat)(x:α)(hp:p≤xs.size):(SetTable.insertAt xs p x).toList=xs.toList.take p++x::xs.toList.drop p:=by
 unfold SetTable.insertAt;simp
 exact List.take_of_length_le (by simp)
theorem ZS{α:Type}(xs:Array α)(p:Nat)(x:α)(hp:p≤xs.size):(SetTable.insertAt xs p x).size=xs.size+1:=by
 rw[←ym,ZR _ _ _ hp,qU,yp,List.length_take,List.length_drop,ym,Nat.min_eq_left hp,←jQ,Nat.add_sub_cancel' hp]
theorem HH(e:place.size=n)(h:n≤7):(w6 place led).fits n=true:=by
 subst e;show(place.size == place.size&&decide (place.size≤7))=true
 rw[zP,qN h];rfl
end
theorem qhd(led:Bool)(place:Array Nat)(hs:place.size≤1)(ha:place.all (· < 8)=true)(h:Nat)(hh:h<32):Xc led place h=true:=by
 obtain⟨l⟩:=place;match l,hs,ha with
 |[],_,_=>exact qnL led h hh
 |[a],_,ha=>exact qnM led a (by simpa using ha) h hh
 |_::_::r,hs,_=>exact absurd (Nat.le_of_succ_le_succ hs) (Nat.not_succ_le_zero _)
inductive LayS (led:Bool) (place:Array Nat) (es:Array (Int×Value)) (n:Nat) (x:Value):Prop
 |mk (p:Nat) (place':Array Nat) (e:layNew (w6 place led) es (n:Int) x=(SetTable.insertAt es p ((n:Int),x),w6 place' led,false,false)) (hp:p≤es.size) (h1:place'.size=es.size+1) (h2:SetTable.rising place'=true) (h3:place'.all (· < 8)=true)
theorem qmr(hfs:(w6 place led).freeSlot (n:Int)=some (slot,false))(hs:es.size≤1)(hp:SetTable.below place slot≤es.size)(h1:(SetTable.insertAt place (SetTable.below place slot) slot).size=es.size+1):
  layNew (w6 place led) es (n:Int) x=(SetTable.insertAt es (SetTable.below place slot) ((n:Int),x),w6 (SetTable.insertAt place (SetTable.below place slot) slot) led,false,false):=by
 have hfit:=HH (led:=led) h1 (qu (zZ hs) (by decide));show(match (w6 place led).freeSlot (n:Int) with
  |some (slot,wasDummy)=>(SetTable.insertAt es (SetTable.below place slot) ((n:Int),x),(w6 (SetTable.insertAt place (SetTable.below place slot) slot) led).orStandIn (SetTable.insertAt es (SetTable.below place slot) ((n:Int),x)).size,wasDummy,!(w6 (SetTable.insertAt place (SetTable.below place slot) slot) led).fits (SetTable.insertAt es (SetTable.below place slot) ((n:Int),x)).size)
  |none=>_)=_
 rw[hfs];dsimp only;rw[ZS _ _ _ hp,hfit,SetTable.orStandIn,if_pos hfit];rfl
theorem qfg(led:Bool)(place:Array Nat)(es:Array (Int×Value))(hsz:place.size=es.size)(hs:es.size≤1)(hr:SetTable.rising place=true)(ha:place.all (· < 8)=true)(n:Nat)(hn:n<32)(x:Value):LayS led place es n x:=by
 have hf:=qhd led place (hsz▸hs) ha n hn;unfold Xc at hf;cases hfs:(w6 place led).freeSlot (n:Int) with
 |none=>rw[hfs] at hf;injection hf
 |some q =>
  obtain⟨slot,b⟩:=q;induction b with
  |true=>rw[hfs] at hf;injection hf
  |false =>
   rw[hfs] at hf;have hf:=qc hf;have h4:=qc hf.1;have h3:=qc h4.1;have hp:SetTable.below place slot≤es.size:=hsz▸qr (qc h3.1).2;have h1:(SetTable.insertAt place (SetTable.below place slot) slot).size=es.size+1:=hsz▸qr hf.2;exact⟨_,_,qmr hfs hs hp h1,hp,h1,h3.2,h4.2⟩
section
variable {prog:Program}{w:World}{A:Around}{E:Value→Shared→Prop}{s:Shared}
theorem yb.found:∀{es:List (Int×Value)}{l:List Int}{n:Int},yb es l→((es.findIdx? (λe=>(intKind prog w).is n e.2)).isSome=true ↔ n∈l):=by
 intro es;induction es with
 |nil =>
  intro c2q;rcases c2q with _ | ⟨_,_⟩
  ·intro n _
   exact⟨λh=>(q9 h).elim,λh=>nomatch h⟩
  ·intro _ h
   exact h.elim
 |cons e r ih0 =>
  intro c2q;rcases c2q with _ | ⟨k,l⟩
  ·intro _ h
   exact h.elim
  ·intro n h
   obtain⟨h1,⟨t,h2⟩,h3⟩:=h;have ih:=ih0 (n:=n) h3;have hk:(intKind prog w).is n e.2=decide (n=k):=by rw[h2];simp[intKind,Value.isInt,eq_comm,Bool.beq_eq_decide_eq]
   rw[List.findIdx?_cons,hk];by_cases hnk:n=k
   ·simp[hnk]
   ·simp only[hnk,decide_false,Bool.false_eq_true,if_false,Option.isSome_map,q7,false_or]
    exact ih
theorem qig(e:place.size=n+1)(h:n≤1):(w6 place led).tooFull=false:=by
 unfold SetTable.tooFull SetTable.fill w6;dsimp only;rw[e];rcases YT (vI h) with rfl | rfl <;> rfl
theorem qdW{a:Addr}{l:List Int}{led:Bool}{n:Nat}{t:Tok}{Q:Bool→Shared→Prop}(hS:wE s.heap a l led)(hl:l.length≤1)(hn:n<32)(k:∀h' l',Heap.SameBut a s.heap h'→wE h' a l' led→l'.Perm (if (n:Int)∈l then l else (n:Int)::l)→Q (!(decide ((n:Int)∈l))) { s with heap:=h' }):
  wpAny (model prog w) A (setAddHashed a (.int (n:Int) t) (hashInt (n:Int))) Q E s:=by
 obtain⟨o,es,ep,place,ho,hex,hd,hel,hsz,h3,hr,hal⟩:=hS;have hlen:=hel.length;rw[ym] at hlen;have hEl:ElemsOf (intKind prog w) es.toList:=hel.elems;have hl2:es.size≤1:=hlen▸hl;have hb:es.size<scanBound:=qP hl2 (by decide);have hf:(w6 place led).fits es.size=true:=HH hsz (qu hl2 (by decide));unfold setAddHashed setAddHashedIn;refine jX (qe (wpAny_setState_of ho hd hf ?_));dsimp only;rw[byScan_of (x:=.int (n:Int) t) rfl hb hEl];simp only[↓reduceIte];unfold setAddByScan;refine qe ?_;refine qe (wpAny_rule ?_);refine qe (wpAny_setScan_of (knd:=intKind prog w) (intKind_is _ _ _ _) ho hd hf hEl ?_);have hfound:=yb.found (prog:=prog) (w:=w) (n:=(n:Int)) hel;cases hres:List.findIdx? (λe=>(intKind prog w).is (n:Int) e.2) es.toList with
 |some j =>
  rw[hres] at hfound;have hin:(n:Int)∈l:=hfound.mp rfl;dsimp only;refine qp (qp ?_);have e:s = { s with heap:=s.heap }:=by induction s;rfl
  have:=k s.heap l (Heap.SameBut.refl a s.heap) ⟨o,es,ep,place,ho,hex,hd,hel,hsz,h3,hr,hal⟩ (by rw[if_pos hin]);rw[qN hin] at this;rw[e];exact this
 |none =>
  rw[hres] at hfound;have hin:¬ (n:Int)∈l:=λh=>by have:=hfound.mpr h;injection this
  dsimp only;obtain⟨p,place',hlay,hp,g1,g2,g3⟩:=qfg led place es hsz hl2 hr hal n hn (.int (n:Int) t);rw[show hashInt (n:Int)=(n:Int) from Xf n hn,hlay];dsimp only;refine qe (qp ?_);have hpl:(w6 place' led).plain=true:=rfl;rw[hpl];simp only[↓reduceIte];refine qe ?_;rw[hashByValue_scannable 8 (x:=.int (n:Int) t) rfl];refine qp ?_;simp only[plainKind,↓reduceIte];have hnew:(SetTable.insertAt es p ((n:Int),Value.int (n:Int) t)).size=es.size+1:=ZS _ _ _ hp;refine qe (wpAny_storeSet_of ho hd ?_ (fits_of_scanBound (by rw[hnew];exact qP (zZ hl2) (by decide))));have htf:(w6 place' led).tooFull=false:=by
   exact qig g1 hl2
  rw[htf];simp only[Bool.and_false,Bool.false_eq_true,if_false];refine qp (qp ?_);have hg:(s.heap.update a (Obj.putSet (SetTable.insertAt es p ((n:Int),Value.int (n:Int) t)) (w6 place' led))).get? a=some { o with data:=.set (SetTable.insertAt es p ((n:Int),Value.int (n:Int) t)) (ep+1) (w6 place' led) }:=by
   have:=Zc (Obj.putSet (SetTable.insertAt es p ((n:Int),Value.int (n:Int) t)) (w6 place' led)) ho (by rw[putSet_of _ _ hd];rfl);rw[putSet_of _ _ hd] at this;exact this
  have:=k _ (l.take p++(n:Int)::l.drop p) (gQ s.heap a _) ⟨_,_,_,place',hg,hex,rfl,?_,by rw[hnew];exact g1,by rw[hnew];exact zZ hl2,g2,g3⟩ (by
   rw[if_neg hin];exact(List.perm_middle).trans (by rw[List.take_append_drop]))
  ·rw[zQ hin] at this
   exact this
  ·rw[ZR _ _ _ hp]
   exact(hel.take p).append ⟨(Xf n hn).symm,⟨t,rfl⟩,hel.drop p⟩
end
theorem wE.at'(S:wE h a l led)(k:∀o,h.get? a=some o→h'.get? a=some o):wE h' a l led :=
 by obtain⟨o,es,ep,place,ho,r⟩:=S;exact⟨o,es,ep,place,k o ho,r⟩
theorem qfM{l l' U:List Int}{v:Int}(p:l.Perm U)(q:l'.Perm (if v∈l then l else v::l)):l'.Perm (step_dedup U v):=by
 unfold step_dedup;have e:(U.any (· == v)=true) ↔ v∈l:=by rw[List.any_eq_true];simp[p.mem_iff]
 by_cases h:v∈l
 ·rw[if_pos h] at q
  rw[if_pos (e.mpr h)];exact q.trans p
 ·rw[if_neg h] at q
  rw[if_neg λx=>h (e.mp x)];exact(q.trans (p.cons v)).trans (List.perm_append_singleton v U).symm
section
variable {prog:Program}{w:World}{A:Around}{R:Result→Shared→Prop}{I:Addr}{fp wr:List Addr}{G:Array GenState→Array GenState→Prop}{n:Nat}{P:Nat→Value→Prop}{St:Nat→Shared→Prop}
theorem Y3(W:WalksS prog w A.in1 I fp wr G n P St)(S:Addr)(led:Bool)(hSf:S ∉ fp)(val:Nat→Nat)(hval:∀i v,i<n→P i v→∃t,v = .int (val i:Int) t)(hsm:∀i,i<n→val i<32)(hb:n≤2):
  ∀(k i:Nat) (s:Shared) (l:List Int),n - i=k→i≤n→St i s →
   wE s.heap S l led→l.Perm (firstMet (λi=>(val i:Int)) i) →
   (∀s' l',Moved (S::wr) G s s'→wE s'.heap S l' led→l'.Perm (firstMet (λi=>(val i:Int)) n)→R (.ok (.ret .none)) s') →
   codeAny (model prog w) A (.builtin "set.update.loop" ⟨[.ref S,.ref I],[]⟩) R s:=by
 have hSw:S ∉ wr:=λh=>hSf (W.sub _ h);have hsub:∀b∈wr,b∈S::wr:=λb hb=>jg _ hb;intro k;induction k with
 |zero =>
  intro i s l hk hi hst hS hl hR;have hin:i=n:=Nat.le_antisymm hi (Nat.le_of_sub_eq_zero hk);subst hin;refine codeAny_builtin PyProof.Rows.F.entry_set_update_loop ?_;rw[Around.under_plainId PyProof.Rows.F.plain_set_update_loop _];show wpAny _ A.in1 (pyNext (.ref I) >>= _) _ _ s
  refine qe (W.done s _ _ hst λs' hm=>?_);show wpAny _ A.in1 (ret Value.none) _ _ s'
  exact qp (hR s' l (hm.mono hsub) (hS.at' λo ho=>hm.heap S _ hSw ho) hl)
 |succ k ih =>
  intro i s l hk hi hst hS hl hR;have hlt:i<n:=Nat.lt_of_sub_pos (hk▸Nat.succ_pos k);refine codeAny_builtin PyProof.Rows.F.entry_set_update_loop ?_;rw[Around.under_plainId PyProof.Rows.F.plain_set_update_loop _];show wpAny _ A.in1 (pyNext (.ref I) >>= _) _ _ s
  refine qe (W.item i s _ _ hlt hst λv s' hP hst' hm=>?_);obtain⟨t,rfl⟩:=hval i v hlt hP;have hS':wE s'.heap S l led:=hS.at' λo ho=>hm.heap S _ hSw ho;show wpAny _ A.in1 (holding [Value.int (val i:Int) t] (setAdd S (.int (val i:Int) t)) >>= _) _ _ s'
  refine qe (jX ?_);unfold setAdd;refine jX ?_;refine qe ((intKind prog w).pyHash (k:=(val i:Int)) (intKind_is _ _ _ _) ?_);have hll:l.length≤1:=by rw[hl.length_eq];exact Nat.le_of_lt_succ (qP (firstMet_length_le (λi=>(val i:Int)) i) (q6 hlt hb))
  refine qdW (s:={ s' with toks:=s'.toks+1 }) hS' hll (hsm i hlt) λh' l' hsb hS2 hp=>?_;have hpi:l'.Perm (firstMet (λi=>(val i:Int)) (i+1)):=by rw[firstMet_succ];exact qfM hl hp
  refine qp ⟨plainId_quiet PyProof.Rows.F.plain_set_update_loop _,ih (i+1) _ l' (by rw[←Nat.sub_sub,hk];rfl) hlt (W.frame _ s' _ _ hst' (wt _) λb hb o e=>?_) hS2 hpi λs'' l'' hm'' hS'' hl''=>?_⟩
  ·rw[hsb.2 b (λh:b=S=>hSf (by rw[←h];exact hb))];exact e
  ·refine hR s'' l'' (Moved.trans W.gtrans ((hm.mono hsub).then_heap (wt _) λb o hb e=>?_) hm'') hS'' hl''
   rw[hsb.2 b (λh:b=S=>hb (by rw[h];exact qY))];exact e
theorem Ku{A:Around}{E:Value→Shared→Prop}{s:Shared}(a:Value){Q₁:Value→Shared→Prop}(h:Q₁ (.ref s.heap.objs.size) { s with heap:=s.heap.push { cls:=.type "set",dict:=none,data:=.set #[] 0 (w6 #[] (!w.params.followText "set-order")) } }):
  codeAny (model prog w) A (.call (.builtin "set.__new__") ⟨[.type "set",a],[]⟩) (wants Q₁ E) s:=by
 refine gT ?_;show wpAny _ A.in1 (do checkBuiltinCall "set.__new__" ⟨[.type "set",a],[]⟩;again (.builtin "set.__new__" ⟨[.type "set",a],[]⟩)) _ _ s
 refine qe (wpAny_of_eq (PySem.F.newCall_set_1 a) (qp ⟨plainId_quiet PySem.F.plain_set_new _,codeAny_builtin PySem.F.entry_set_new ?_⟩));rw[Around.under_plainId PySem.F.plain_set_new _];unfold Builtin.«set.__new__» Builtin.Frozenset.newClass;have hsub:=sub_set_self;obtain⟨hp,g,d,tk,os⟩:=s;dsimp only;wp_walk
 refine x9 (qp ?_);dsimp only;simp only[newObj];refine qe (wpAny_alloc (qp ?_));exact qp h
end
section
variable {prog:Program}{w:World}{A:Around}{E:Value→Shared→Prop}{s:Shared}
theorem qhV{S l:Addr}{items:Array Value}{val:Nat→Nat}{led:Bool}{Q:Fin→Shared→Prop}(hh:A.handled=none)(hS:s.heap.get? S=some { cls:=.type "set",dict:=none,data:=.set #[] 0 (w6 #[] led) })(hl:s.heap.IsList l items)(hi:∀i v,i<items.size→items[i]? = some v→∃t,v = .int (val i:Int) t)(hsm:∀i,i<items.size→val i<32)(hb:items.size≤2)(h:∀(h':Heap) (tk:Nat) (l':List Int),wE h' S l' led→l'.Perm (firstMet (λi=>(val i:Int)) items.size) →
   (∀b o,b≠S→s.heap.get? b=some o→h'.get? b=some o)→Q (.done (.ret .none)) { s with heap:=h',toks:=tk }):
  wpAny (model prog w) A (Builtin.«set.__init__» ⟨[.ref S,.ref l],[]⟩) Q E s:=by
 obtain⟨⟨ocls,odict,odata,oslots⟩,hol,hcl,nl,hdl⟩:=id hl;simp only at hcl hdl;subst hcl;subst hdl;have hsls:=PySem.F.sub_list_set;have hslf:=PySem.F.sub_list_frozenset;have hne:(Value.type "list" == Value.type "dict")=false:=by decide
 have hlS:l<s.heap.objs.size:=zq hol;have hSS:S<s.heap.objs.size:=zq hS;have hlS':l≠S:=λe=>by
  rw[e,hS] at hol;have:=qz Obj.cls (qA hol);simp at this
 have hSf:S ∉ [s.heap.objs.size,l]:=λm=>by
  rcases q7.mp m with e | m
  ·exact wq hSS e
  ·exact hlS' (qQ.mp m).symm
 unfold Builtin.«set.__init__» noKeywords Builtin.Frozenset.updateFrom;generalize hPI:pyIter=PI;wp_walk
 subst hPI;refine wpAny_pyIter_list hl ?_;refine qe (wpAny_runValue ?_);refine Y3 ((Walks.list (A:=A.in1) hh _ l (wq hlS) items).toS) S led hSf val hi hsm hb items.size 0 _ [] rfl (j4 _)
  ⟨⟨_,jy _ rfl,rfl,rfl⟩,(hl.push _)⟩ ⟨_,#[],0,#[],jd _ hS,⟨rfl,rfl,rfl⟩,rfl,trivial,rfl,j4 _,by decide,by simp⟩ (by rw[firstMet_zero]) ?_
 intro s' l' hm hS' hl';obtain⟨h',g',d',tk',os'⟩:=s';obtain rfl:g'=s.gens:=hm.gens;obtain rfl:d'=s.drawn:=hm.drawn;obtain rfl:os'=s.os:=hm.os;show wpAny _ _ _ _ _ _
 refine qp ?_;show wpAny _ _ (ret Value.none) _ _ _
 refine qp (h h' tk' l' hS' hl' λb o hb1 e=>hm.heap b o (λm=>?_) (jd _ e));rcases q7.mp m with e' | m
 ·exact hb1 e'
 ·exact wq (zq e) (qQ.mp m)
noncomputable def qjq(s0:Shared)(val:Nat→Nat)(n:Nat)(led:Bool)(r:Value)(s2:Shared):Prop :=
 r = .none∧∃h' tk l',s2 = { s0 with heap:=h',toks:=tk }∧wE h' s0.heap.objs.size l' led∧l'.Perm (firstMet (λi=>(val i:Int)) n)∧(∀b o,b<s0.heap.objs.size→s0.heap.get? b=some o→h'.get? b=some o)
set_option maxHeartbeats 3200000 in
theorem qaM{l:Addr}{items:Array Value}{val:Nat→Nat}{Q:Value→Shared→Prop}(hh:A.handled=none)(hl:s.heap.IsList l items)(hi:∀i v,i<items.size→items[i]? = some v→∃t,v = .int (val i:Int) t)(hsm:∀i,i<items.size→val i<32)(hb:items.size≤2)(h:∀(h':Heap) (tk:Nat) (l':List Int),wE h' s.heap.objs.size l' (!w.params.followText "set-order")→l'.Perm (firstMet (λi=>(val i:Int)) items.size) →
   (∀b o,b<s.heap.objs.size→s.heap.get? b=some o→h'.get? b=some o)→Q (.ref s.heap.objs.size) { s with heap:=h',toks:=tk }):
  wpAny (model prog w) A (call (.type "set") [.ref l]) Q E s:=by
 generalize hled:(!w.params.followText "set-order")=led at h;obtain⟨c,tl,hmro⟩:=PySem.F.called_set.mro;have hmade:=PySem.F.called_set.made;have hsub:=PySem.F.called_set.sub;refine wpAny_call (gT ?_);show wpAny _ _ (callAny (.type "set") _) _ _ _
 refine qp ⟨Code.quiet_builtin _ (by decide +kernel),codeAny_builtin PySem.F.entry_type_call ?_⟩;rw[Around.under_plain (weight_type_call_type "set" [.ref l] []) rfl];have h1:=PySem.F.called_set.notType;have h2:=PySem.F.called_set.canCreate;have hct:=PySem.F.typeCall_set_1 (.ref l);repeat (any_goals (first | assumption | wp_step))
 refine codeAny_mono (Ku (.ref l) (E:=E) (Q₁:=λobj s₁=>obj = .ref s.heap.objs.size∧s₁ = { s with heap:=s.heap.push { cls:=.type "set",dict:=none,data:=.set #[] 0 (w6 #[] led) } }) ⟨rfl,by rw[hled]⟩) λr s₁ hr=>?_;induction r with
 |error e=>exact hr
 |ok fl =>
  induction fl with
  |ret obj =>
   obtain⟨rfl,rfl⟩:=hr;have hS:(s.heap.push { cls:=.type "set",dict:=none,data:=.set #[] 0 (w6 #[] led) }).get? s.heap.objs.size=some { cls:=.type "set",dict:=none,data:=.set #[] 0 (w6 #[] led) }:=jy _ rfl;have hT:Shared.TypeIs { s with heap:=s.heap.push { cls:=.type "set",dict:=none,data:=.set #[] 0 (w6 #[] led) } } (.ref s.heap.objs.size) "set" := ⟨_,hS,rfl⟩;have hli:=PySem.F.called_set.init.lookup;have hbi:=PySem.F.called_set.init.bind (.ref s.heap.objs.size);repeat (any_goals (first | assumption | wp_step))
   refine codeAny_mono (codeAny_call_builtin (R:=wants (qjq s val items.size led) E) PySem.F.called_set.init.plain PySem.F.entry_set_init (check_set_init_1 hT
    (qhV (A:=A.in1.in1) hh hS (hl.push _) hi hsm hb λh' tk l' a1 a2 a3=>⟨rfl,h',tk,l',rfl,a1,a2,λb o hb e=>a3 b o (wq hb) (jd _ e)⟩))) λr₂ s₂ hr₂=>?_
   induction r₂ with
   |error e=>exact hr₂
   |ok fl₂ =>
    induction fl₂ with
    |ret r =>
     obtain⟨rfl,h',tk,l',rfl,hS',hl',hk'⟩:=hr₂;repeat (any_goals (first | assumption | wp_step))
     exact h _ _ l' hS' hl' hk'
    |_=>exact hr₂.elim
  |_=>exact hr.elim
end
theorem H8:Manifest.owners.lookup (String.ofList ['r','o','t','a','r','e','t','i','_','t','e','s'].reverse)=some Manifest.sig_set_iterator:=by kernel_rfl
theorem wS:Slot "set_iterator" "__next__" "set_iterator.__next__" :=
 .of (owner := "set_iterator") (n := "__next__") (by rw[typeLookup_type,builtinLookup_eq_fast];kernel_rfl) (by decide +kernel) (by decide +kernel) (by decide +kernel)
  (by first | exact .inl (by decide +kernel) | exact .inr (by decide +kernel)) (by rw[isSubtype_type];kernel_rfl)
theorem Q1:entryFor table "set_iterator.__next__" = some Builtin.«set_iterator.__next__» := entryFor_of_tree (by kernel_rfl)
theorem ZW(a:Value):argsOk "set_iterator.__next__" ⟨[a],[]⟩:=by
 unfold argsOk;rw[signature?_of (id := "set_iterator.__next__") (n:=['_','_','t','x','e','n','_','_']) (o:=['r','o','t','a','r','e','t','i','_','t','e','s']) (by kernel_rfl) H8];kernel_rfl
theorem ZY:Slot "set_iterator" "__iter__" "set_iterator.__iter__" :=
 .of (owner := "set_iterator") (n := "__iter__") (by rw[typeLookup_type,builtinLookup_eq_fast];kernel_rfl) (by decide +kernel) (by decide +kernel) (by decide +kernel)
  (by first | exact .inl (by decide +kernel) | exact .inr (by decide +kernel)) (by rw[isSubtype_type];kernel_rfl)
theorem HD:entryFor table "set_iterator.__iter__" = some Builtin.«dict_keyiterator.__iter__» :=
 entryFor_alias (id' := "dict_keyiterator.__iter__") (by kernel_rfl) rfl (by decide +kernel) (by kernel_rfl)
theorem Dn(a:Value):argsOk "set_iterator.__iter__" ⟨[a],[]⟩:=by
 unfold argsOk;rw[signature?_of (id := "set_iterator.__iter__") (n:=['_','_','r','e','t','i','_','_']) (o:=['r','o','t','a','r','e','t','i','_','t','e','s']) (by kernel_rfl) H8];kernel_rfl
theorem HB:entryFor table "set.__iter__" = some Builtin.«frozenset.__iter__» :=
 entryFor_alias (id' := "frozenset.__iter__") (by kernel_rfl) rfl (by decide +kernel) (by kernel_rfl)
noncomputable def yV(h:Heap)(a:Addr)(es:Array (Int×Value))(ep:Nat)(place:Array Nat)(led:Bool):Prop :=
 ∃o,h.get? a=some o∧o.ExactSet∧o.data = .set es ep (w6 place led)
theorem yV.at'(S:yV h a es ep place led)(k:∀o,h.get? a=some o→h'.get? a=some o):yV h' a es ep place led :=
 by obtain⟨o,ho,r⟩:=S;exact⟨o,k o ho,r⟩
noncomputable def xW(place:Array Nat)(i:Nat):Nat:=if i=0 then 0 else place.getD (i - 1) 0+1
noncomputable def wA(h:Heap)(I a:Addr)(slot i n ep:Nat):Prop :=
 ∃o,h.get? I=some o∧o.cls = .type "set_iterator" ∧ o.data = .fields #[.int slot 0,.int i 0,.ref a,.int n 0,.int ep 0]
theorem wA.at'(S:wA h I a slot i n ep)(k:∀o,h.get? I=some o→h'.get? I=some o):wA h' I a slot i n ep :=
 by obtain⟨o,ho,r⟩:=S;exact⟨o,k o ho,r⟩
theorem wA.typeIs{s:Shared}{I a:Addr}{slot i n ep:Nat}(S:wA s.heap I a slot i n ep):s.TypeIs (.ref I) "set_iterator" := by obtain⟨o,ho,hc,_⟩:=S;exact⟨o,ho,hc⟩
theorem yV.typeIs{s:Shared}{a:Addr}{es:Array (Int×Value)}{ep:Nat}{place:Array Nat}{led:Bool}(S:yV s.heap a es ep place led):s.TypeIs (.ref a) "set" := by obtain⟨o,ho,hc,_⟩:=S;exact⟨o,ho,hc.1⟩
theorem qgH:∀(place:Array Nat) (i:Nat),place.size≤2→SetTable.rising place=true→place.all (· < 8)=true→i≤place.size→SetTable.below place (xW place i)=i:=by
 rintro ⟨l⟩ i hs hr ha hi
 rcases Bv hs with rfl | ⟨a,rfl⟩ | ⟨a,b,rfl⟩
 ·cases (Nat.le_zero.mp hi);decide
 ·have:=qlt a (by simpa using ha)
  exact lt2 (p:=λi=>SetTable.below #[a] (xW #[a] i)=i) (vI hi) this.1 this.2
 ·have ha:a<8∧b<8:=by simpa using ha
  have:=qlu a ha.1 b ha.2 (by simpa [SetTable.rising,List.range_succ] using hr);exact lt3 (p:=λi=>SetTable.below #[a,b] (xW #[a,b] i)=i) (vI hi) this.1 this.2.1 this.2.2
theorem HX{α:Type}:∀(l:List α) (i:Nat) (h:i<l.length),(l[i]::l.eraseIdx i).Perm l
 |a::r,0,h=>.refl _
 |a::r,i+1,h=>by
  simp only[List.getElem_cons_succ,List.eraseIdx_cons_succ];exact(List.Perm.swap _ _ _).trans ((HX r i (by simpa using h)).cons a)
theorem qkz{α:Type}(next:Nat→Nat):∀(n k:Nat) (left:List α) (out:Array α),left.length=n→(pickOrder.go next n k left out).toList.Perm (out.toList++left):=by
 intro n;induction n with
 |zero =>
  intro k left out h;have:left=[]:=List.length_eq_zero_iff.mp h;subst this;simp[pickOrder.go]
 |succ n ih =>
  intro k left out h;have hlt:next k % left.length<left.length:=Nat.mod_lt _ (h▸Nat.succ_pos n);unfold pickOrder.go;rw[zm hlt];dsimp only;refine(ih (k+1) _ _ (by rw[List.length_eraseIdx,if_pos hlt,h];rfl)).trans ?_;rw[Array.toList_push,wj];refine List.Perm.append_left _ ?_;exact HX left _ hlt
theorem qfO{α:Type}(next:Nat→Nat)(xs:Array α):(pickOrder next xs).toList.Perm xs.toList:=by
 have:=qkz next xs.size 0 xs.toList #[] (by simp);simpa [pickOrder] using this
section
variable {prog:Program}{w:World}{A:Around}{E:Value→Shared→Prop}{s:Shared}
noncomputable def wX(w:World):Bool:=w.params.followText "set-order"
noncomputable def kD(w:World)(a:Addr)(ep:Nat)(es:Array (Int×Value)):Array (Int×Value):=if wX w then pickOrder (w.params.setOrder a ep) es else es
theorem Xx(a:Addr)(ep:Nat)(es:Array (Int×Value)):(kD w a ep es).toList.Perm es.toList:=by
 unfold kD;split
 ·exact qfO _ _
 ·exact .refl _
theorem xk(a:Addr)(ep:Nat)(es:Array (Int×Value)):(kD w a ep es).size=es.size:=by
 rw[←ym,(Xx (w:=w) a ep es).length_eq,ym]
noncomputable def yF(w:World)(place:Array Nat)(i:Nat):Nat:=if wX w then 0 else xW place i
theorem gv(h:place.size=n)(h3:n≤2):(w6 place led).fits n=true:=HH h (qu h3 (by decide))
theorem B9{a:Addr}{es:Array (Int×Value)}{ep i:Nat}{place:Array Nat}{Q:Option (Value×Nat)→Shared→Prop}(S:yV s.heap a es ep place (!wX w))(hsz:place.size=es.size)(h3:es.size≤2)(hr:SetTable.rising place=true)(ha:place.all (· < 8)=true)(hi:i≤es.size)(h:Q (((kD w a ep es)[i]?).map λe=>(e.2,yF w place (i+1))) s):
  wpAny (model prog w) A (setNext a (yF w place i) i ep) Q E s:=by
 obtain⟨o,ho,hex,hd⟩:=S;have hf:=gv (led:=!wX w) hsz h3;unfold setNext;refine qe (wpAny_setState_of ho hd hf ?_);dsimp only;unfold setsByText;refine qe (qe (x9 (qp ?_)));show wpAny _ _ (if wX w=true then _ else _) _ _ _
 cases hb:wX w with
 |true =>
  rw[if_pos rfl];simp only[bne_self_eq_false,Bool.false_eq_true,if_false];unfold setWalk;refine qe (qe (wpAny_setState_of ho hd hf ?_));dsimp only;unfold setsByText;refine qe (qe (x9 (qp ?_)));show wpAny _ _ (if wX w=true then _ else _) _ _ _
  rw[hb,if_pos rfl];refine qe (x9 (qp (qp ?_)));simp only[kD,yF,hb,if_true] at h ⊢;exact h
 |false =>
  rw[if_neg q9];show wpAny _ _ (pure _) _ _ _
  have hs:yF w place i=xW place i:=by simp[yF,hb]
  have hs1:yF w place (i+1)=place.getD i 0+1:=by simp[yF,hb,xW]
  rw[hs1] at h;rw[hs,show(w6 place (!false)).place=place from rfl,qgH place i (hsz▸h3) hr ha (hsz▸hi)];refine qp ?_;have ho:kD w a ep es=es:=by simp[kD,hb]
  rw[ho] at h;by_cases hlt:i<es.size
  ·have hlp:i<place.size:=hsz▸hlt
   simp only[yl hlt,yl hlp,Option.map_some,Array.getD_eq_getD_getElem?,Option.getD_some] at h ⊢;exact h
  ·rw[Q8 (Nat.le_of_not_lt hlt)] at h ⊢
   exact h
end
section
variable {prog:Program}{w:World}{A:Around}{E:Value→Shared→Prop}{s:Shared}
variable {a I:Addr}{es:Array (Int×Value)}{ep i:Nat}{place:Array Nat}
theorem qgv{M:Model}{α:Type}{c:Prop}[Decidable c]{t e:Sem α}{Q:α→Shared→Prop}(h:¬ c)(k:wpAny M A e Q E s):wpAny M A (if c then t else e) Q E s:=by rw[if_neg h];exact k
theorem qaa(n:Nat):¬ (((n:Nat):Int) != (n:Int))=true:=by rw[bne_self_eq_false];exact q9
theorem qhZ{Q:Option Value→Shared→Prop}{x:Int×Value}(T:wA s.heap I a (yF w place i) i es.size ep)(S:yV s.heap a es ep place (!wX w))(hsz:place.size=es.size)(h3:es.size≤2)(hr:SetTable.rising place=true)(ha:place.all (· < 8)=true)(hx:(kD w a ep es)[i]? = some x)(h:∀h',wA h' I a (yF w place (i+1)) (i+1) es.size ep→Heap.SameBut I s.heap h'→Q (some x.2) { s with heap:=h' }):
  wpAny (model prog w) A (pyNext (.ref I)) Q E s:=by
 have hlt:i<es.size:=by
  have:=(Array.getElem?_eq_some_iff.mp hx).1;rw[xk] at this;exact this
 obtain⟨oI,hoI,hcI,hdI⟩:=id T;obtain⟨oS,hoS,hexS,hdS⟩:=id S;unfold pyNext;refine qe (wpAny_attempt (Zf (name:=Str.ofString "__next__") T.typeIs wS
  (y7 wS T.typeIs Q1 ?_ (ZW _))))
 refine qe (qp (a:=(Value.ref I,([]:List Value))) ?_);refine qe (wpAny_fieldsOf hoI hdI ?_);refine qe (wpAny_setEntries_of hoS hdS (gv hsz h3) ?_);refine qgv (qaa es.size) ?_;refine qe (B9 (i:=i) (ep:=ep) S hsz h3 hr ha (jz hlt) ?_);rw[hx];dsimp only[Option.map_some];refine qe (wpAny_setField hoI hdI (by simp) ?_);have ho1:=Zc (Obj.mapFields (·.setIfInBounds 0 (rawInt (yF w place (i+1))))) hoI (Obj.isFreed_of_fields (Obj.data_mapFields hdI _));have hd1:(Obj.mapFields (·.setIfInBounds 0 (rawInt (yF w place (i+1)))) oI).data=_:=Obj.data_mapFields hdI _;refine qe (wpAny_setField ho1 hd1 (by simp) ?_);refine qp ⟨x.2,rfl,qp (h _ ?_ ((gQ ..).trans (gQ ..)))⟩;refine⟨_,Zc _ ho1 (Obj.isFreed_of_fields (Obj.data_mapFields hd1 _)),(Obj.cls_mapFields ..).trans ((Obj.cls_mapFields ..).trans hcI),?_⟩;rw[Obj.data_mapFields hd1];simp[rawInt]
theorem qhY{Q:Option Value→Shared→Prop}(hh:A.handled=none)(T:wA s.heap I a (yF w place es.size) es.size es.size ep)(S:yV s.heap a es ep place (!wX w))(hsz:place.size=es.size)(h3:es.size≤2)(hr:SetTable.rising place=true)(ha:place.all (· < 8)=true)(h:∀h',Heap.ExtBut I s.heap h'→Q none { s with heap:=h' }):
  wpAny (model prog w) A (pyNext (.ref I)) Q E s:=by
 obtain⟨oI,hoI,hcI,hdI⟩:=id T;obtain⟨oS,hoS,hexS,hdS⟩:=id S;unfold pyNext;refine qe (wpAny_attempt (Zf (name:=Str.ofString "__next__") T.typeIs wS
  (y7 wS T.typeIs Q1 ?_ (ZW _))))
 refine qe (qp (a:=(Value.ref I,([]:List Value))) ?_);refine qe (wpAny_fieldsOf hoI hdI ?_);refine qe (wpAny_setEntries_of hoS hdS (gv hsz h3) ?_);refine qgv (qaa es.size) ?_;refine qe (B9 (i:=es.size) (ep:=ep) S hsz h3 hr ha (qW _) ?_);rw[Q8 (by rw[xk];exact qW _)];dsimp only[Option.map_none];refine qe (wpAny_setField hoI hdI (by simp) ?_);show wpAny _ _ (newExc (.type "StopIteration") [] >>= _) _ _ _
 refine qe ?_;simp only[newExc,newTuple];refine qe (wpAny_newObj_type ?_ (by size_fits));refine qe (m:=firstArgMember _ _) (wpAny_of_eq (a:=Value.none) (by first | rfl | (simp only[firstArgMember];rfl)) ?_);refine wpAny_newObj_type ?_ (by size_fits);refine qe (wpAny_handled ?_);rw[show A.in1.handled=none from hh];refine qe (qp (wpAny_throw ?_));refine qe (wpAny_isInstance (T := "StopIteration") (b:=true) ⟨_,jy _ rfl,rfl⟩ isSubtype_stop ?_);exact qp (h _ (((gQ ..).extBut.push _).push _))
theorem qia{slot n:Nat}{Q:Value→Shared→Prop}(T:wA s.heap I a slot i n ep)(h:Q (.ref I) s):wpAny (model prog w) A (pyIter (.ref I)) Q E s:=by
 refine wpAny_pyIter_slot T.typeIs ZY (y7 ZY T.typeIs HD ?_ (Dn _));show wpAny _ _ (ret (.ref I)) _ _ s
 exact qp ⟨_,rfl, "set_iterator",_,T.typeIs,wS.lookup,h⟩
theorem qhW{Q:Value→Shared→Prop}(S:yV s.heap a es ep place (!wX w))(hsz:place.size=es.size)(h3:es.size≤2)(h:Q (.ref s.heap.objs.size) { s with heap:=s.heap.push { cls:=.type "set_iterator",data:=.fields #[.int 0 0,.int 0 0,.ref a,.int es.size 0,.int ep 0] } }):wpAny (model prog w) A (pyIter (.ref a)) Q E s:=by
 obtain⟨oS,hoS,hexS,hdS⟩:=id S;refine wpAny_pyIter_slot S.typeIs PySem.F.slot_set_iter (y7 PySem.F.slot_set_iter S.typeIs HB ?_ (PySem.F.args_set_iter_1 _));refine qe (qp (a:=a) ?_);refine qe (qe (wpAny_setEntries_of hoS hdS (gv hsz h3) (qp ?_)));refine qe (qe (wpAny_setState_of hoS hdS (gv hsz h3) ?_));refine qe (qe (x9 (qp (qp ?_))));show wpAny _ _ (if (!wX w&&false)=true then _ else _) _ _ _
 rw[Bool.and_false,if_neg q9];refine qe (qp ?_);refine qe (qe (wpAny_setState_of hoS hdS (gv hsz h3) (qp ?_)));refine qe (wpAny_newObj_type (qp ⟨_,rfl, "set_iterator",_,⟨_,jy _ rfl,rfl⟩,wS.lookup,h⟩))
theorem qhU{r:Addr}{Q:Bool→Shared→Prop}(hT:s.TypeIs (.ref r) "set")(h:Q false s):wpAny (model prog w) A (Builtin.List.listLengthHint (.ref r)) Q E s:=by
 unfold Builtin.List.listLengthHint;refine qe (wpAny_specialOf hT PySem.F.slot_set_len.lookup ?_);generalize hid:("set.__len__" : String)=id0;wp_delta
 rw[show splitId id0=some ("set", "__len__") from by subst hid;decide +kernel];subst hid;refine qe (wpAny_isInstance (T := "set") (b:=true) hT (by rw[isSubtype_type];kernel_rfl) ?_);refine wpAny_ite_split (λhab=>absurd hab (by decide)) (λB=>?_);refine wpAny_ite_split (λB=>?_) (λhab=>absurd (by decide +kernel) hab);refine qe (wpAny_typeOf hT ?_);exact qp h
theorem yV.lt(S:yV h a es ep place led):a<h.objs.size:=by obtain⟨_,ho,_⟩:=S;exact zq ho
theorem qkM(hsz:place.size=es.size)(h3:es.size≤2)(hr:SetTable.rising place=true)(ha:place.all (· < 8)=true):
  KdlSrc prog w "set" a a es.size (λi v=>∃x,(kD w a ep es)[i]? = some x∧v=x.2) (λh=>yV h a es ep place (!wX w)) where
 type:=λB S=>S.typeIs
 there:=λB S=>⟨S.lt,S.lt⟩
 keep:=λB B S hk=>S.at' λo e=>hk a (.inl rfl) o e
 notList:=by decide
 notTuple:=by decide
 hint:=λB B B B S hq=>qhU S.typeIs hq
 iter:=λA s hh S=>by
  have hne:a≠s.heap.objs.size:=wq S.lt;refine⟨_,λi h=>wA h s.heap.objs.size a (yF w place i) i es.size ep∧yV h a es ep place (!wX w)∧i≤es.size,λB B hq=>qhW S hsz h3 hq,?_,⟨_,jy _ rfl,rfl,?_⟩,S.at' λo e=>jd _ e,j4 _⟩
  ·exact {
    sub:=λb hb=>by simp at hb;simp[hb]
    frame:=λB B B st hk=>⟨st.1.at' λo e=>hk _ (by simp) o e,st.2.1.at' λo e=>hk a (by simp) o e,st.2.2⟩
    item:=λi s' Q E hi st hQ=>by
     obtain⟨x,hx⟩:∃x,(kD w a ep es)[i]? = some x:=⟨_,yl (by rw[xk];exact hi)⟩
     refine qhZ st.1 st.2.1 hsz h3 hr ha hx λh' T' hs=>hQ _ h' s'.toks ⟨x,hx,rfl⟩ ⟨T',st.2.1.at' λo e=>hs.extBut a o hne e,hi⟩ λb o hb e=>hs.extBut b o (λq=>hb (by simp[q])) e
    done:=λs' Q E st hQ=>qhY hh st.1 st.2.1 hsz h3 hr ha λh' he=>hQ h' s'.toks λb o hb e=>he b o (λq=>hb (by simp[q])) e
    self:=λB B B B st hQ=>qia st.1 hQ }
  ·have:yF w place 0=0:=by unfold yF xW;split <;> rfl
   rw[this];rfl
end
section
variable {prog:Program}{w:World}{A:Around}{E:Value→Shared→Prop}{s:Shared}
theorem qdy{T:String}{r d:Addr}{n:Nat}{P:Nat→Value→Prop}{OK:Heap→Prop}{Q:Value→Shared→Prop}{C:List Int→Prop}(K:KdlSrc prog w T r d n P OK)(hh:A.handled=none)(hok:OK s.heap)(hn:n<64)(hI:∀acc:Array Value,ItemsOf P acc n→∃ns,IntsAre acc.toList ns∧C ns)(h:∀(h':Heap) (tk:Nat) (D:Addr) (out:Array Value) (ns ns':List Int) (e:Nat),(∀b o,s.heap.get? b=some o→h'.get? b=some o)→¬ Lv s.heap D→h'.get? D=some (seqObj "list" out e)→IntsAre out.toList ns'→ns'.Perm ns→C ns→ns'.Pairwise (· ≤ ·) →
   Q (.ref D) { s with heap:=h',toks:=tk }):
  wpAny (model prog w) A (call (.builtin "sorted") [.ref r]) Q E s:=by
 refine call_function_entry kind_sorted plain_sorted entry_sorted (args_sorted1 _) ?_;unfold Builtin.«sorted»;refine qe (m:=checkCount "sorted" 1 1 _) (qp ?_);refine qe (kdu_collect (A:=A.in1) K hh hok (by rw[yO];exact qu (jz hn) (by decide)) λh' tk acc hk hacc=>?_);have hl:acc.toList.length=n:=by rw[ym];exact hacc.1
 refine qe (wpAny_newList ?_ (by rw[hl,yO];exact qu (jz hn) (by decide)));obtain⟨ns,hns,hC⟩:=hI acc hacc;have hoL:(h'.push (seqObj "list" acc.toList.toArray 0)).get? h'.objs.size=some (seqObj "list" acc.toList.toArray 0):=jy _ rfl;have hD:¬ Lv s.heap h'.objs.size:=by rintro ⟨o,e⟩;exact Nat.lt_irrefl _ (zq (hk _ _ e))
 show wpAny _ _ _ _ _ { s with heap:=h'.push (seqObj "list" acc.toList.toArray 0),toks:=tk }
 refine qe (jX (y7 slot_list_sort ⟨_,hoL,rfl⟩ entry_list_sort (list_sort_tree hoL hns (hl▸hn) λout ns' a1 a2 a3=>⟨_,rfl,?_⟩) (args_list_sort _)));obtain⟨e,he⟩:=sortedHeap_at (vs:=acc.toList) (out:=out) hoL;refine qp ⟨_,rfl,h _ tk _ out ns ns' e (λb o q=>?_) hD he a1 a2 hC a3⟩;have hb:b≠h'.objs.size:=wq (zq (hk _ _ q));exact Q2 hb (jd _ (hk _ _ q))
inductive IncS:List Int→Prop
 |nil:IncS []
 |one (a:Int):IncS [a]
 |two (a b:Int) (h:a<b):IncS [a,b]
theorem qjU(h:qmf l=true):IncS l:=by
 induction l using List.casesOn with
 |nil=>exact .nil
 |cons a r=>induction r using List.casesOn with
  |nil=>exact .one a
  |cons b t=>induction t using List.casesOn with
   |nil=>exact .two a b (qr (qc h).1)
   |cons c t=>injection (qc h).2
theorem IncS.len(h:IncS l):l.length≤2:=by
 induction h with
 |nil=>exact j4 _
 |one a=>exact wt _
 |two a b h=>exact qW _
theorem IncS.sorted(h:IncS l):l.Pairwise (· ≤ ·):=by
 induction h with
 |nil=>exact .nil
 |one a=>exact .cons (λx hx=>nomatch hx) .nil
 |two a b h=>exact .cons (λx hx=>qQ.mp hx▸we h) (.cons (λx hx=>nomatch hx) .nil)
theorem IncS.first(h:IncS l):l.foldl step_dedup []=l:=by
 induction h with
 |nil=>rfl
 |one a=>rfl
 |two a b h =>
  show(if ([a]:List Int).any (· == b)=true then [a] else [a]++[b])=[a,b]
  rw[if_neg];rfl;show ¬ ((a == b)||false)=true
  rw[yM (Int.ne_of_lt h)];exact q9
theorem Dk(l:List Int)(val:Nat→Int)(h:∀i,i<l.length→l[i]? = some (val i)):firstMet val l.length=l.foldl step_dedup []:=by
 unfold firstMet;congr 1
 refine List.ext_getElem (by simp) λi h1 h2=>?_;have:=h i h2;rw[zm h2] at this;simp only[List.getElem_map,List.getElem_range];exact(qA this).symm
theorem yb.ints:∀{es:List (Int×Value)}{l:List Int},yb es l→IntsAre (es.map (·.2)) l:=by
 intro es;induction es with
 |nil =>
  intro c2q;rcases c2q with _ | ⟨_,_⟩
  ·intro _
   exact .nil
  ·intro h
   exact h.elim
 |cons e r ih =>
  intro c2q;rcases c2q with _ | ⟨k,l⟩
  ·intro h
   exact h.elim
  ·intro h
   obtain⟨_,⟨t,e2⟩,h3⟩:=h;rw[List.map_cons,e2];exact .cons _ _ (ih h3)
theorem qeU(p:es'.Perm es)(h:yb es l):∃l',yb es' l'∧l'.Perm l:=by
 induction p generalizing l with
 |nil=>exact⟨l,h,.refl _⟩
 |cons x _ ih =>
  induction l using List.casesOn with
  |nil=>exact h.elim
  |cons k l =>
   obtain⟨l',h1,h2⟩:=ih h.2.2;exact⟨k::l',⟨h.1,h.2.1,h1⟩,h2.cons k⟩
 |swap x y r =>
  match l,h with
  |k::m::l,h=>exact⟨m::k::l,⟨h.2.2.1,h.2.2.2.1,h.1,h.2.1,h.2.2.2.2⟩,.swap _ _ _⟩
  |[],h=>exact h.elim
  |[_],h=>exact h.2.2.elim
 |trans _ _ ih1 ih2 =>
  obtain⟨l1,a1,a2⟩:=ih2 h;obtain⟨l2,b1,b2⟩:=ih1 a1;exact⟨l2,b1,b2.trans a2⟩
end
theorem qgd(g:Glb):gC g .sortedSet λA va Q E s=>wpAny (model g.prog g.w) A (call (.type "set") [va]) (λsv s1=>wpAny (model g.prog g.w) A (call (.builtin "sorted") [sv]) Q E s1) E s:=by
 intro A s Z bs ρ U U' E va v r Q hh hu R ra e K;obtain⟨l,hl0,ea⟩:=qo (o:=Xp U v) (k:=λl=>ob (qbZ l) λis=>some (AV.pv (.lst (qj is)),U)) e;obtain⟨hv,hl⟩:=kq hl0;obtain⟨is',hset,eb⟩:=qo ea;obtain⟨is,his,ec⟩:=qo hset;obtain⟨hc,ed⟩:=qI ec;obtain rfl:=qA ed;have hc:=qc hc;have hinc:=qjU hc.1;have h3:=hinc.len;have hsm:=hc.2;obtain⟨rfl,rfl⟩:=qx eb;obtain⟨a,vs,rfl,rs,hL⟩:=Zx R ra hl hv;have hI:=qav rs his;have hlen:vs.length=is.length:=hI.length;have hsm':∀i,i<is.length→0≤is.getD i 0∧is.getD i 0<32:=λi hi=>by
  have:=List.all_eq_true.mp hsm (is[i]) (List.getElem_mem hi);simp only[Bool.and_eq_true,decide_eq_true_eq] at this;rw[show is.getD i 0=is[i] by simp[hi]];exact this
 refine qaM (val:=λi=>(is.getD i 0).toNat) hh hL (λi v hi hv=>?_) (λi hi=>?_) (by simpa [hlen] using h3) λh' tk l' S hp hk=>?_
 ·obtain⟨t,et⟩:=IntsAre.int_at hI i v (by simpa using hv)
  refine⟨t,?_⟩;rw[et,Ze (hsm' i (by simpa [hlen] using hi)).1]
 ·exact(Int.toNat_lt (hsm' i (by simpa [hlen] using hi)).1).mpr (hsm' i (by simpa [hlen] using hi)).2
 have hp2:l'.Perm is:=by
  rw[show vs.toArray.size=is.length from hlen,Dk is _ (λi hi=>by rw[Ze (hsm' i hi).1];simp[hi]),hinc.first] at hp;exact hp
 obtain⟨o,es,ep,place,ho,hex,hd,hel,hsz,hes3,hr,ha⟩:=S;have hSI:yV h' s.heap.objs.size es ep place (!wX g.w):=⟨o,ho,hex,hd⟩
 have keep:∀b ob,s.heap.get? b=some ob→h'.get? b=some ob:=λb ob q=>hk b ob (zq q) q;refine qdy (s:={ s with heap:=h',toks:=tk }) (C:=λns=>ns.Perm is) (qkM (prog:=g.prog) (w:=g.w) hsz hes3 hr ha) hh hSI (qP hes3 (by decide)) (λacc hacc=>?_) λh'' tk' D out ns ns' e hk2 hD he a1 a2 a3 a4=>?_
 ·obtain⟨l2,b1,b2⟩:=qeU (Xx (w:=g.w) s.heap.objs.size ep es) hel
  refine⟨l2,?_,b2.trans hp2⟩;have:acc.toList=(kD g.w s.heap.objs.size ep es).toList.map (·.2):=by
   refine List.ext_getElem? λi=>?_;rw[kO,Array.getElem?_toList,Array.getElem?_toList];by_cases hi:i<acc.size
   ·obtain⟨x,q1,q2⟩:=hacc.2 i _ (yl hi)
    rw[yl hi,q1,q2];rfl
   ·rw[Q8 (Nat.le_of_not_lt hi),Q8 (by rw[xk,←hacc.1];exact Nat.le_of_not_lt hi)];rfl
  rw[this];exact b1.ints
 ·obtain rfl:=ksm_same (a2.trans a3) a4 hinc.sorted
  have hkk:∀b o,s.heap.get? b=some o→h''.get? b=some o:=λb o q=>hk2 b o (keep b o q);have hD':¬ Lv s.heap D:=by rintro ⟨o,q⟩;exact hD ⟨o,keep _ _ q⟩
  refine K.grown R _ hkk (.pv (.lst (R.notFootNew hD') (vs:=out.toList) ⟨_,by simpa using he,rfl,_,rfl⟩ ?_));have:∀{vs:List Value}{ns:List Int},IntsAre vs ns→RPs (Fz Z ρ U) h'' vs (qj ns):=by
   intro vs ns hI;induction hI with
   |nil=>exact .nil
   |cons n t _ ih=>exact .cons (.int _ _) ih
  exact this a1
theorem qhX(G:GOk g):SetSpec g:=⟨qgd g,qfk,qff G,qeE,qki⟩
inductive SupBod (D:FuncData) (slf n:Str):Prop
 |mk (p0 p1 p2 p3 p4 p5 p6 p7 p8:Pos) (k:Nat) (h:D.body = .stmts [.Expr (.Call (.Attribute (.Call (.Name "super" p0) [] [] p1) "__init__" p2) [] [] p3) p4,.Assign [.Attribute (.Name slf p5) n p6] (.Constant .none k p7) p8]) (hl:(p2.endLine == p3.line)=true)
inductive SupFile (g:Glb) (cda:Addr):Prop
 |mk (oc:Obj) (vs:Array Value) (file:Str) (tf:Tok) (h1:g.K.lookup cda=some oc) (h2:oc.data = .fields vs) (h3:vs[2]? = some (.str file tf)) (h4:((g.prog.main.file:Str) == file)=true)
structure SuperOk (g:Glb) (f c fb m:Nat) (D:FuncData) (cc DD cda:Addr) (slf n:Str):Prop where
 at_:∃o,g.K.lookup (g.fa f)=some o∧o.data = .func D
 bod:SupBod D slf n
 clo:D.closure=[(("__class__" : Str),cc)]
 code:codeIn g.K D.code D.qualname=true
 cdaE:D.code = .ref cda
 file:SupFile g cda
 par:∃a:Arg,a.arg=slf∧D.params=Qx [a]∧D.defaults = .none
 cell:∃o,g.K.lookup cc=some o∧o.data = .cell (some (.ref DD))
 cls:∃cdD,clsIn g.K DD=some cdD
 sub:mroIn g.K (g.cls c) (.ref DD)=some true
 find:ks_superIn g.K (g.cls c) DD "__init__" = some (some (.ref (g.fa fb)))
 fn:fnIn g.K (g.fa fb)=true
 fty:typeIn g.K (.ref (g.fa fb))=some (.type "function")
 glob:D.globals=mainGlobals
 blt:D.builtins=builtinsNs
 kind:D.scope.kind = .function
 cor:D.scope.isCoroutine=false
 gen:D.scope.isGenerator=false
 nocell:∀x∈D.scope.names,x.2 ≠ .cell
 kS:D.scope.names.lookup ("super" : Str)=some .globalImplicit
 kC:D.scope.names.lookup ("__class__" : Str)=some .free
 kX:D.scope.names.lookup slf=some .local
 top:(g.prog.main.scope.names.lookup ("super" : Str)).isSome=false
 noS:nsIn g.K mainGlobals "super" = some none
 opq:nsIn g.K cStatics "thirdparty.any" = some none
 nmm:g.nm[m]? = some n
 dat:m∈g.dat
 hfb:fb<g.P.fns.length
 nd:(slf == ("__debug__" : Str))=false
set_option tactic.hygienic true in
theorem qev{K:Frag}{h:Heap}(X:K.In h){D:Addr}{cd:ClassData}(e:clsIn K D=some cd):∃o,h.get? D=some o∧o.data = .cls cd:=by
 unfold clsIn at e;split at e
 ·rename_i c d cd' sl ho
  injection e with e;subst e;exact⟨_,X _ _ ho,rfl⟩
 ·injection e
inductive SupEv (P:Prog) (d c fb x3 m:Nat) (vs:List AV) (U:St) (r:AV) (U':St):Prop
 |mk (i:Nat) (as:List (Nat×AV)) (rv:AV) (U2:St) (c2:Nat) (as2:List (Nat×AV)) (h0:vs=[.ref i]) (hi:U.heap[i]? = some (.inst c as)) (h3:qf P d fb [.ref i] U=some (rv,U2)) (hi2:U2.heap[i]? = some (.inst c2 as2)) (hc:as2.length<900) (hr:r = .pv .none)
  (hs:U' = { U2.set i (.inst c2 (yC m (.pv .none) as2)) with strict:=U.strict })
theorem D6(x:Nat)(v:AV):Env.get [(x,v)] x=some v:=by show(bif x == x then some v else none)=some v;rw[zP];rfl
inductive SupE1 (C:Ctx) (c fb:Nat) (v:AV) (J:Env) (U:St) (r:Flow×Env) (U1:St):Prop
 |mk (i:Nat) (as:List (Nat×AV)) (rv:AV) (h0:v = .ref i) (hi:U.heap[i]? = some (.inst c as)) (h3:C.call fb [.ref i] U=some (rv,U1)) (hr:r=(.next,J))
theorem qkP(e:vz C (.superInit c fb x) [(x,v)] U=some r):SupE1 C c fb v [(x,v)] U r.1 r.2:=by
 obtain⟨w,hw,ha⟩:=qo e;obtain⟨i,hv,hb2⟩:=w0 ha;obtain⟨o,hi,hc⟩:=qo hb2;obtain⟨c',as,ho,hd⟩:=vD hc;obtain⟨hcc,he2⟩:=qI hd;obtain⟨rv,U2,h3,h4⟩:=qm he2;have q:=qA h4;exact⟨i,as,rv,(qA ((D6 x v).symm.trans hw)).trans hv,hi.trans (qz some (ho.trans (qz (AObj.inst · as) hcc))),h3.trans (qz some (qz (Prod.mk rv) (qz Prod.snd q))),(qz Prod.fst q).symm⟩
inductive SupE2 (m i:Nat) (U:St) (J:Env) (r:(Flow×Env)×St):Prop
 |mk (c2:Nat) (as2:List (Nat×AV)) (hi2:U.heap[i]? = some (.inst c2 as2)) (hc:as2.length<900) (hr:r=((.next,J),U.set i (.inst c2 (yC m (.pv .none) as2))))
theorem qkQ(e:vz C (.setAttr (.var x) m .none) [(x,.ref i)] U=some r):SupE2 m i U [(x,.ref i)] r:=by
 obtain⟨o3,U5,h52,h53⟩:=qm e;obtain⟨y,hy,hz⟩:=y4 h52;have q:=Prod.mk.inj hz;rw[show o3 = .ref i from q.1.trans (qA ((D6 x (.ref i)).symm.trans hy)).symm,q.2] at h53;obtain⟨o2,hi2,h7⟩:=qo h53;obtain⟨c2,as2,ho,h8⟩:=vD h7;obtain⟨hcond,h9⟩:=qI h8;exact⟨c2,as2,hi2.trans (qz some ho),qr (qc hcond).2,(qA h9).symm⟩
theorem qnv{P:Prog}(hfd:P.fns[f]? = some fd)(hb:fd.body = .cons (.superInit c fb x3) (.cons (.setAttr (.var x3) m .none) .nil))(hp:fd.params=[x3])(ht:fd.trim=false)(e:qf P (d+1) f vs U=some (r,U')):SupEv P d c fb x3 m vs U r U':=by
 obtain⟨fl,J',s',hlen,he,hn,_⟩:=Y9 hfd e;obtain⟨hr,hU⟩:=hn ht;rw[hp] at hlen he;rw[hb,ht,Bool.or_false] at he;induction vs using List.casesOn with
 |nil=>cases hlen
 |cons v vs=>induction vs using List.casesOn with
  |cons w vs=>exact absurd (show 1=vs.length+2 from hlen) (λe=>nomatch e)
  |nil =>
   obtain⟨fl1,U1,h1,h2⟩:=qm he;obtain⟨i,as,rv,h0,hi,h3,hq⟩:=qkP h1;rw[show fl1=_ from hq,h0] at h2;obtain⟨fl2,U3,h5,h6⟩:=qm (x:=vz (qH P (qf P d)) (.setAttr (.var x3) m .none) [(x3,.ref i)] U1) h2;obtain⟨c2,as2,hi2,hc,hr2⟩:=qkQ h5;rw[show fl2=_ from qz Prod.fst hr2] at h6;have q:=qA h6;rw[show U3=_ from qz Prod.snd hr2] at q;refine⟨i,as,rv,U1,c2,as2,qz (λv=>[v]) h0,hi,h3,hi2,hc,hr.trans (qz (λp=>Mine.Flow.val p.1.1) q.symm),hU.trans (qz (λp:(Flow×Env)×St=>({ p.2 with strict:=U.strict }:St)) q.symm)⟩
theorem qdD{g:Glb}(G:GOk g){f c fb m x3:Nat}{fd:Fn}{D:FuncData}{cc DD cda:Addr}{slf n:Str}(hfd:g.P.fns[f]? = some fd)(hb:fd.body = .cons (.superInit c fb x3) (.cons (.setAttr (.var x3) m .none) .nil))(hp:fd.params=[x3])(ht:fd.trim=false)(S:SuperOk g f c fb m D cc DD cda slf n)(d:Nat)(HC:yQ g d (qf g.P d)):KP g (d+1) f (qf g.P (d+1) f):=by
 intro vs U U' r e A s Z bs ρ E Q vals Rm Rl ra k;obtain⟨i,as,rv,U2,c2,as2,rfl,hi,h3,hi2,hcond,rfl,rfl⟩:=qnv hfd hb hp ht e;obtain⟨val,rfl,ra0⟩:=ra.one_;obtain⟨of,hK,hD⟩:=S.at_;have kin:∀{h:Heap},(∀b o,s.heap.get? b=some o→h.get? b=some o)→g.K.In h:=λkp a o e=>kp _ _ (Rl.keep a o (G.kin a o e));have kin0:g.K.In s.heap:=kin λB B e=>e;obtain⟨p0,p1,p2,p3,p4,p5,p6,p7,p8,kc,hbod,hline⟩:=S.bod;obtain⟨ar,har,hpar,hdf⟩:=S.par;have hbind:bindArgs D ⟨[val],[]⟩=pure [(slf,val)]:=by
  have:=Qz D [ar] [val] hpar hdf (by simp) rfl;rw[this];simp[har]
 refine ks_codeAny_call_defAt (o:=of) (fd:=D) (binds:=[(slf,val)]) Rm.now (kin0 _ _ hK) hD (G.nolimit.keeps Rl.keep) (codeRec_of kin0 S.code) hbod (BindsTo.of_eq hbind) S.nocell (λy hy=>?_) (λh₁ hns hk₁=>?_) S.cor S.gen S.kind
 ·have:y=(slf,val):=by simpa using hy
  rw[this];exact S.kX
 generalize henv:callEnv D s.heap.objs.size (g.fa f)=env;have hsc:env.scope=D.scope:=by rw[←henv];rfl
 have hkind:env.scope.kind = .function:=by rw[hsc];exact S.kind
 have hkof:∀y,env.kindOf y=D.scope.names.lookup y:=λy=>by unfold PySem.Env.kindOf;rw[hsc]
 have hglob:env.globals=mainGlobals:=by rw[←henv];exact S.glob
 have hblt:env.builtins=builtinsNs:=by rw[←henv];exact S.blt
 have hcells:env.cells=[(("__class__" : Str),cc)]:=by rw[←henv];exact S.clo
 have hloc:env.locals=s.heap.objs.size:=by rw[←henv];rfl
 have hself:([(slf,val)]:List (Str×Value)).reverse.lookup slf=some val:=by simp[yL]
 have X1:g.K.In h₁:=kin hk₁;have P1:Post jZ ρ U s ρ U { s with heap:=h₁,toks:=s.toks+1 }:=Post.grow hk₁ rfl rfl;have ra1:RA ρ (Fz Z ρ U) h₁ val (.ref i):=RA.post (X:=jZ) (s':={ s with heap:=h₁,toks:=s.toks+1 }) ra0 P1 λB h=>False.elim h;have R1:Rel g Z bs ρ U h₁:=Rl.grow hk₁;have ra1':=ra1;obtain⟨a,l,rfl,qa⟩:=ra1.ref_;obtain⟨dx,sl,es',n',rfl,g1,g2,r1,hlen',hcc⟩:=(R1.objs qa hi).inst_;obtain⟨cdD,hclsD⟩:=S.cls;obtain⟨oc,vsf,file,tf,hc1,hc2,hc3,hc4⟩:=S.file;obtain⟨ocell,hcell1,hcell2⟩:=S.cell;obtain⟨mb,hmb,hmb2⟩:=G.bb;have hfunc:env.func=some (g.fa f):=by rw[←henv];rfl
 have hcode:env.code = .ref cda:=by rw[←henv];exact S.cdaE
 have he:eval (.Call (.Attribute (.Call (.Name "super" p0) [] [] p1) "__init__" p2) [] [] p3) env=(do
   let ov ←attributeBase (.Call (.Name "super" p0) [] [] p1) "__init__" env (eval (.Call (.Name "super" p0) [] [] p1) env)
   standAt p2.atName
   methodCall (.Call (.Name "super" p0) [] [] p1) "__init__" p2 p3 env ov (([]:List Expr).length+([]:List Keyword).length) (backTo p3 (starEach [] env)) (backToKw p3 (keywordEach [] env))):=rfl
 refine ks_wpAt_execs_cons (ks_wpAt_Expr_any ?_ ?_ ?_);rotate_left
 ·unfold interactive;rw[hkind];rfl
 ·unfold swapsWith;rfl
 rw[he];refine _root_.PySem.wpAt_bind (_root_.PySem.wpAt_mono (ks_wpAt_super_base (Q:=λov s1=>wpAny (model g.prog g.w) (A.deeper env) (methodCall (.Call (.Name "super" p0) [] [] p1) "__init__" p2 p3 env ov (([]:List Expr).length+([]:List Keyword).length) (backTo p3 (starEach [] env)) (backToKw p3 (keywordEach [] env))) _ _ s1) (by rw[hkof];exact S.kS) (by rw[hkof];exact S.kC) (by decide +kernel) hfunc (X1 _ _ hK) hD (by rw[hpar];rfl) hcode (X1 _ _ hc1) hc2 hc3 hc4 S.top ?_) (λov s1 h1=>_root_.PySem.wpAt_bind (_root_.PySem.wpAt_of_wpAny (wk (_root_.PySem.wpAt_of_wpAny h1)))) λB B x=>x);rw[loadName_read hkind (by rw[hkof];exact S.kS)];unfold loadGlobal;rw[hglob,hblt];refine qe ((looks_nsIn (M:=model g.prog g.w) G.kin S.noS) _ _ _ _ R1.keep ?_);refine qe (wpAny_nsGet (hmb.keeps R1.keep) ?_);rw[hmb2 _ (by decide +kernel),show bootBuiltins "super" = some (.type "super") from by first | rfl | kernel_rfl];refine qp ⟨rfl,?_⟩;refine wpAny_loadName_free hkind (by rw[hkof];exact S.kC) (by rw[hcells];rfl) ⟨_,X1 _ _ hcell1,hcell2⟩ ?_;refine wpAny_loadName_local hkind (by rw[hkof,har];exact S.kX) (by rw[hloc];exact hns) (by rw[har];exact hself) ?_;obtain⟨oD,hD1,hD2⟩:=qev X1 hclsD;refine ks_wpAny_isType_cls hD1 hD2 ⟨rfl,?_⟩;refine ks_wpAny_call_super hD1 hD2 g1 rfl (λc e=>by injection e) (looks_mroIn X1 S.sub) (λh₂ hso hk₂=>?_);have X2:g.K.In h₂:=X1.keeps hk₂;unfold methodCall;have hform:methodCallForm (([]:List Expr).length+([]:List Keyword).length) (backTo p3 (starEach [] env)) (backToKw p3 (keywordEach [] env))=true:=rfl;rw[hform];refine qe (jX ?_);show wpAny _ _ (getMethod (.ref h₁.objs.size) "__init__" _) _ _ _
 have hfi:=S.find;unfold ks_superIn at hfi;obtain⟨cdC,hC1,hC2⟩:=Option.bind_eq_some_iff.mp hfi;obtain⟨ofb,hof,hofc⟩:∃of,g.K.lookup (g.fa fb)=some of∧of.cls = .type "function" := by
  have ht':(g.K.lookup (g.fa fb)).map (·.cls)=some (.type "function"):=S.fty;cases z:g.K.lookup (g.fa fb) with
  |none=>rw[z] at ht';injection ht'
  |some of=>rw[z] at ht';exact⟨of,rfl,qA ht'⟩
 have haC:a≠g.cls c:=by
  intro q;obtain⟨o,q1,q2⟩:=qev X1 hC1;rw[←q,g1] at q1;injection q1 with q1;subst q1;injection q2
 refine ks_wpAny_getMethod_super hso (looks_opaque X2 S.opq) (l₀:=cdC.mro) ?_ rfl X2 hC2 (X2 _ _ hof) hofc haC (by decide +kernel) ?_
 ·exactλA Q E s k q=>qe ((looks_clsIn X2 hC1) A _ E s k (qp q))
 dsimp only;have hpos:methodCallPos true (.Call (.Name "super" p0) [] [] p1) env p2 p3=pure p3:=by
  unfold methodCallPos;rw[hline];simp
 rw[hpos];refine qe (qp ?_);have hk₃:∀b o,h₂.get? b=some o→(h₂.push { cls:=.type "method",data:=.fields #[.ref (g.fa fb),.ref a] }).get? b=some o:=λb o e=>jd _ e;have hm:(h₂.push { cls:=.type "method",data:=.fields #[.ref (g.fa fb),.ref a] }).get? h₂.objs.size=some (methodObj (.ref (g.fa fb)) (.ref a)):=Heap.get?_push_at rfl rfl;generalize hh3:h₂.push { cls:=.type "method",data:=.fields #[.ref (g.fa fb),.ref a] }=h₃ at hk₃ hm ⊢;have X3:g.K.In h₃:=X2.keeps hk₃;show wpAny _ _ (callWith p3 (.ref h₂.objs.size) [] (backTo p3 (starEach [] env)) []) _ _ _
 refine callWith_M0 (K:=g.K) (g:=g.fa fb) (self:=.ref a) ⟨hm,X3⟩ S.fn ?_;have kp13:∀b o,s.heap.get? b=some o→h₃.get? b=some o:=λb o e=>hk₃ b o (hk₂ b o (hk₁ b o e));have R3:Rel g Z bs ρ U h₃:=Rl.grow kp13;refine wpAny_call (ks_codeAny_call_bound hm (HC S.hfb h3 ⟨Nat.lt_of_succ_lt Rm.deep1,qP (j3 (by decide) _) Rm.unit1,Rm.handled,Rm.guards⟩ R3 (.cons (.ref qa) .nil) λval2 s2 ρ2 R4 P4 q4=>?_));refine _root_.PySem.wpAt_of_wpAny ?_;have P3:Post jZ ρ U s ρ U { s with heap:=h₃,toks:=s.toks+1+1 }:=Post.grow kp13 rfl rfl;have hnotL:¬ yc ρ U s.heap.objs.size:=Rl.notFootNew (wh _) |>.2;have hns2:s2.heap.Ns s.heap.objs.size (λx=>[(slf,Value.ref a)].reverse.lookup x):=by
  obtain⟨o,es,ep,q,r⟩:=hns;exact⟨o,es,ep,P4.ext _ _ (hk₃ _ _ (hk₂ _ _ q)) id hnotL,r⟩
 have q5:RA ρ2 (Fz Z ρ2 U2) s2.heap (.ref a) (.ref i):=RA.ref (P4.pre _ _ qa);refine wpAny_execs_cons (plainObj_wpAny_Assign_Attribute (wpAny_Constant_none ?_) (by unfold swapsWith;rfl));refine wpAny_Name (wpAny_loadName_local hkind (by rw[hkof];exact S.kX) (by rw[hloc];exact hns2) hself ?_) S.nd;refine Xw G R4 q5 (.pv .none) S.dat S.nmm hi2 (.inl rfl) hcond λs5 R5 P5=>?_;refine wpAny_execs_nil ?_;have hst:U2.strict=U.strict:=P4.str;rw[←hst] at k;exact k _ _ ρ2 R5 ((P3.trans P4).trans P5) (.pv .none)
noncomputable def RowD.glb(D:RowD)(prog:Program)(w:World)(K:Frag)(base:Heap):Glb:={ prog:=prog,w:=w,K:=K,nm:=D.nm,P:=D.P,base:=base,cls:=λc=>D.cls.getD c 0,dat:=D.dat,fa:=λf=>D.fa.getD f 0 }
theorem yA{α β:Type}[BEq α][LawfulBEq α]:∀{l:List (α×β)}{x:α}{y:β},l.lookup x=some y→(x,y)∈l
 |(k,v)::r,x,y,h=>by
  rw[yL] at h;cases hb:x == k with
  |true=>rw[hb] at h;injection h with h;subst h;rw[zr.mp hb];exact qY
  |false=>rw[hb] at h;exact jg _ (yA h)
theorem qO:∀{l:List Bool},gW l=true→∀{n:Nat}{b:Bool},l[n]? = some b→b=true:=by
 intro l;induction l with
 |nil =>
  intro _ _ _ e;exact nomatch e
 |cons _ _ ih =>
  intro h c2q;rcases c2q with _ | _
  ·intro _ e
   exact qA e▸(qc h).1
  ·intro _ e
   exact ih (qc h).2 e
theorem jb{l:List Bool}(h:gW l=true)(n:Nat){p:Prop}[Decidable p](e:l[n]? = some (decide p)):p:=qr (qO h e)
theorem qnW{K:Frag}{h:Heap}(X:K.In h)(p:PV){v:Value}:qdt K p v=true→RP (Lv h) h v p:=by
 refine(PV.ind (P:=λp=>∀v,qdt K p v=true→RP (Lv h) h v p) (Q:=λps=>∀vs,qdu K ps vs=true→RPs (Lv h) h vs ps) ?_ ?_ ?_ ?_ ?_ ?_ ?_ ?_).1 p v
 ·intro v e;exact qr e▸.none
 ·intro b v e;exact qr e▸.bool b
 ·intro i v e
  obtain⟨x,e⟩:=qk e;rw[x.2,qr e];exact .int _ _
 ·intro i v e
  obtain⟨x,e⟩:=qk e;rw[x.2,qr e];exact .str _ _
 ·intro ps ih v e
  obtain⟨a,e⟩:=qk e;obtain⟨o,e⟩:=qk e;obtain⟨d,e⟩:=qk e;have e:=qc e;rw[a.2];have e2:=qc e.2;exact .tup (vs:=d.1.1.toList) ⟨_,X _ _ o.2⟩ ⟨⟨_,X _ _ o.2,qr e.1,d.1.2,d.2⟩,λo' q=>qA ((X _ _ o.2).symm.trans q)▸Q5.mp e2.1⟩ (ih _ e2.2)
 ·intro l _ v e;exact absurd e q9
 ·intro vs e;exact gS.mp e▸.nil
 ·intro p ps i1 i2 vs e
  obtain⟨c,e⟩:=qk e;have e:=qc e;rw[c.2];exact .cons (i1 _ e.1) (i2 _ e.2)
theorem Dw{α:Type}{o:Option α}{k:α→Bool}{a:α}(h:on o k=true)(e:o=some a):k a=true:=by rw[e] at h;exact h
theorem RowD.wired{D:RowD}{prog:Program}{w:World}{K:Frag}{base:Heap}(X:K.In base)(h:D.wiredB K=true):Wired (D.glb prog w K base) D.cfg:=by
 have h1:=λx f (e:D.gf.lookup x=some f)=>qc (jV (qO h (n:=0) rfl) (yA e));have h6:=λc m f (e:D.P.meths.lookup (c,m)=some f)=>jV (qO h (n:=5) rfl) (yA e);have h8:=λc o (e:D.P.inits.lookup c=some o)=>jV (qO h (n:=7) rfl) (yA e);have hin:∀c,(D.P.inits.lookup c).isSome=true→∃o,D.P.inits.lookup c=some o:=λc hc=>gP.mp hc;refine { nm:=rfl,globs:=rfl,dat:=rfl,gfun:=λx f e=>qr (h1 x f e).1,gcls:=λx f e=>qr (jV (qO h (n:=1) rfl) (yA e)),isfn:=λf hf=>?_,gval:=λgi n p x e1 e2=>?_,built:=λx v hx=>qr (jV (qO h (n:=4) rfl) hx),meth:=λc m f x e1 e2=>?_,ga:=λc hc=>?_,init:=λc f e=>?_,fns:=λc m f e=>qr (jV (qO h (n:=6) rfl) (yA e)),ifns:=λc f e=>?_,ckeep:=λc hc=>?_,gfns:=λx f e=>qr (h1 x f e).2 }
 ·obtain⟨o,q⟩:=qk (jV (qO h (n:=2) rfl) (List.mem_range.mpr hf))
  obtain⟨fd,_⟩:=qk q;exact⟨o.1,fd.1,o.2,fd.2⟩
 ·have q:=jV (qO h (n:=3) rfl) (x6 e1)
  have q:=Dw q e2;obtain⟨ov,q1,q⟩:=QV q;obtain⟨v,rfl,q⟩:=QV q;exact⟨v,q1,qnW X p q⟩
 ·have q:=h6 c m f e1
  have q:=Dw q e2;have q:=qc q;exact⟨qr q.1,qr q.2⟩
 ·obtain⟨o,ho⟩:=hin c hc
  exact⟨jb (h8 c o ho) 0 rfl,jb (h8 c o ho) 1 rfl,qO (h8 c o ho) (n:=2) rfl⟩
 ·have q:=qO (h8 c _ e) (n:=4) rfl
  exact⟨jb q 0 rfl,jb q 1 rfl⟩
 ·exact jb (qO (h8 c _ e) (n:=4) rfl) 2 rfl
 ·obtain⟨o,ho⟩:=hin c hc
  exact qO (h8 c o ho) (n:=3) rfl
theorem RowD.gok{D:RowD}{prog:Program}{w:World}{K:Frag}{base:Heap}(X:K.In base)(h:D.clsB K=true)(low:Lv base sysModules)(bb:∃mb,base.Ns builtinsNs mb∧∀x,x≠("__name__" : Str)→mb x=bootBuiltins x)(nolimit:base.NoLimit):GOk (D.glb prog w K base):=by
 have h:=qc h;refine⟨λc hc=>?_,low,X,bb,nolimit,qr h.2⟩;obtain⟨o,ho⟩:=gP.mp hc;have a:=jV h.1 (yA ho);exact⟨λx=>qO a (n:=0) rfl,qO a (n:=1) rfl,λm hm x hx=>by
  have q:=jV (qO a (n:=4) rfl) hm;have q:=Dw q hx;exact qr q,jb a 2 rfl,qO a (n:=3) rfl⟩
theorem Xy:∀{p:Arguments},Hx p=true→p=Qx p.args
 |⟨a,b,c,d,e,f,g⟩,h=>by
  have e1:a=[]:=gS.mp (qO h (n:=0) rfl);have e2:c=none:=Q5.mp (qO h (n:=1) rfl);have e3:d=[]:=gS.mp (qO h (n:=2) rfl);have e4:e=[]:=gS.mp (qO h (n:=3) rfl);have e5:f=none:=Q5.mp (qO h (n:=4) rfl);have e6:g=[]:=gS.mp (qO h (n:=5) rfl);rw[e1,e2,e3,e4,e5,e6];rfl
theorem RowD.fn{D:RowD}{prog:Program}{w:World}{K:Frag}{base:Heap}{f:Nat}{fd:Fn}(h:D.fnB K f fd=true):∃FD body ps,FnOk (D.glb prog w K base) D.cfg f fd FD body ps:=by
 obtain⟨o,h⟩:=qk h;obtain⟨FD,h⟩:=qk h;obtain⟨b,h⟩:=qk h;exact⟨FD.1,b.1,FD.1.params.args.map (·.arg),{ at_:=⟨o.1,o.2,FD.2⟩,bod:=b.2,code:=qO h (n:=0) rfl,clo:=gS.mp (qO h (n:=1) rfl),bind:=λvals hl=>Qz FD.1 FD.1.params.args vals (Xy (qO h (n:=2) rfl)) (jb h 3 rfl) (jb h 5 rfl) ((qE _).symm.trans hl.symm),nms:=qO h (n:=4) rfl,ndp:=jb h 5 rfl,glob:=jb h 6 rfl,blt:=jb h 7 rfl,kind:=Kz (qO h (n:=8) rfl),cor:=not_true (qO h (n:=9) rfl),gen:=not_true (qO h (n:=10) rfl),nofree:=λx hx=>qr (jV (qO h (n:=11) rfl) hx),par:=λx hx=>qr (jV (qO h (n:=12) rfl) hx),chk:=qO h (n:=13) rfl }⟩
inductive SupA (x:Stmt):Prop
 |mk (p0 p1 p2 p3 p4:Pos) (e:x = .Expr (.Call (.Attribute (.Call (.Name "super" p0) [] [] p1) "__init__" p2) [] [] p3) p4) (hl:(p2.endLine == p3.line)=true)
theorem qaQ(h:qam x=true):SupA x:=by
 obtain⟨v,h⟩:=qk h;obtain⟨c,h⟩:=qk h;obtain⟨⟨e1⟩,h⟩:=qk h;obtain⟨⟨e2⟩,h⟩:=qk h;obtain⟨a,h⟩:=qk h;obtain⟨c2,h⟩:=qk h;obtain⟨⟨e3⟩,h⟩:=qk h;obtain⟨⟨e4⟩,h⟩:=qk h;obtain⟨n,h⟩:=qk h;obtain⟨h,h3⟩:=qc h;obtain⟨h1,h2⟩:=qc h;exact⟨_,_,_,_,_,D3 v.2 (ve c.2 ((XX a.2 (qr h2)).trans (qz (λz=>Expr.Attribute z _ _) (ve c2.2 (QO n.2 (qr h1)) e3 e4))) e1 e2),h3⟩
inductive SupB2 (S:SupD) (x:Stmt):Prop
 |mk (p5 p6 p7 p8:Pos) (k:Nat) (e:x = .Assign [.Attribute (.Name S.slf p5) S.n p6] (.Constant .none k p7) p8)
theorem qcs{x:Stmt}{a a':List Expr}{v v':Expr}{q:Pos}(e:x = .Assign a v q)(h:a=a')(h2:v=v'):x = .Assign a' v' q:=by rw[e,h,h2]
theorem qgT{x:Expr}{c c':Const}{k:Nat}{q:Pos}(e:x = .Constant c k q)(h:c=c'):x = .Constant c' k q:=by rw[e,h]
theorem qan{S:SupD}(h:Da S x=true):SupB2 S x:=by
 obtain⟨v,h⟩:=qk h;obtain⟨t,h⟩:=qk h;obtain⟨a,h⟩:=qk h;obtain⟨n,h⟩:=qk h;obtain⟨k,h⟩:=qk h;obtain⟨h,h3⟩:=qc h;obtain⟨h1,h2⟩:=qc h;exact⟨_,_,_,_,_,qcs v.2 (BT t.2 ((XX a.2 (qr h2)).trans (qz (λz=>Expr.Attribute z _ _) (QO n.2 (qr h1))))) (qgT k.2 (qr h3))⟩
theorem qdC{S:SupD}{D:FuncData}(h:qcc S D.body=true):SupBod D S.slf S.n:=by
 obtain⟨l,h⟩:=qk h;obtain⟨v,h⟩:=qk h;obtain⟨h1,h2⟩:=qc h;obtain⟨p0,p1,p2,p3,p4,e1,hl⟩:=qaQ h1;obtain⟨p5,p6,p7,p8,k,e2⟩:=qan h2;exact⟨p0,p1,p2,p3,p4,p5,p6,p7,p8,k,l.2.trans (qz FuncBody.stmts (v.2.trans (by rw[e1,e2]))),hl⟩
theorem qaP{S:SupD}(h:qal S b=true):b = .cons (.superInit S.c S.fb S.x) (.cons (.setAttr (.var S.x) S.m .none) .nil):=by
 induction b using Mine.CSs.casesOn with
 |nil=>injection h
 |cons s r=>induction r using Mine.CSs.casesOn with
  |nil=>injection h
  |cons s2 r2=>induction r2 using Mine.CSs.casesOn with
   |cons _ _=>injection h
   |nil =>
    obtain⟨v,h⟩:=qk (show(on (qgi s) λv=>on (B8 s2) λw=>decide (v.1.1=S.c)&&decide (v.1.2.1=S.fb)&&decide (v.1.2.2=S.x)&&decide (w.1.1=S.x)&&decide (w.1.2=S.m))=true from h);obtain⟨w,h⟩:=qk h;obtain⟨h,h5⟩:=qc h;obtain⟨h,h4⟩:=qc h;obtain⟨h,h3⟩:=qc h;obtain⟨h1,h2⟩:=qc h;rw[v.2,w.2,qr h1,qr h2,qr h3,qr h4,qr h5]
theorem SuperOk.of{D:RowD}{prog:Program}{w:World}{K:Frag}{base:Heap}{S:SupD}{FD:FuncData}{a:Arg}(at_:∃o,K.lookup (D.fa.getD S.f 0)=some o∧o.data = .func FD)(ha:FD.params.args=[a])(h:qjg S FD a=true)(code:codeIn K FD.code FD.qualname=true)(file:SupFile (D.glb prog w K base) S.cda)(cell:∃o,K.lookup S.cc=some o∧o.data = .cell (some (.ref S.DD))){fl:Str}{cv:Value}{fd:Fn}(h2:gW (D.supA prog K S FD fl cv fd)=true):SuperOk (D.glb prog w K base) S.f S.c S.fb S.m FD S.cc S.DD S.cda S.slf S.n :=
 { at_:=at_,bod:=qdC (qO h (n:=0) rfl),clo:=jb h 1 rfl,code:=code,cdaE:=jb h 2 rfl,file:=file,par:=⟨a,jb h 4 rfl,by rw[←ha];exact Xy (qO h (n:=3) rfl),jb h 5 rfl⟩,cell:=cell,cls:=gP.mp (qO h2 (n:=3) rfl),sub:=jb h2 4 rfl,find:=jb h2 5 rfl,fn:=qO h2 (n:=6) rfl,fty:=jb h2 7 rfl,glob:=jb h 6 rfl,blt:=jb h 7 rfl,kind:=Kz (qO h (n:=8) rfl),cor:=not_true (qO h (n:=9) rfl),gen:=not_true (qO h (n:=10) rfl),nocell:=λx hx=>qr (jV (qO h (n:=11) rfl) hx),kS:=jb h 12 rfl,kC:=jb h 13 rfl,kX:=jb h 14 rfl,top:=not_true (qO h2 (n:=8) rfl),noS:=jb h2 9 rfl,opq:=jb h2 10 rfl,nmm:=jb h2 11 rfl,dat:=List.contains_iff_mem.mp (qO h2 (n:=12) rfl),hfb:=jb h2 13 rfl,nd:=not_true (qO h2 (n:=14) rfl) }
theorem RowD.sup{D:RowD}{prog:Program}{w:World}{K:Frag}{base:Heap}{S:SupD}(G:GOk (D.glb prog w K base))(h:D.supB prog K S=true)(d:Nat)(HC:yQ (D.glb prog w K base) d (qf D.P d)):
  KP (D.glb prog w K base) (d+1) S.f (qf D.P (d+1) S.f):=by
 obtain⟨o,h⟩:=qk h;obtain⟨FD,h⟩:=qk h;obtain⟨a,h⟩:=qk h;obtain⟨oc,h⟩:=qk h;obtain⟨vs,h⟩:=qk h;obtain⟨fv,h⟩:=qk h;obtain⟨fl,h⟩:=qk h;obtain⟨ocell,h⟩:=qk h;obtain⟨cv,h⟩:=qk h;obtain⟨fd,h⟩:=qk h;have h:=qc h;have hb:=qaP (qO h.2 (n:=15) rfl);have hp:fd.1.params=[S.x]:=jb h.2 16 rfl;have ht:=not_true (qO h.2 (n:=17) rfl);have so:SuperOk (D.glb prog w K base) S.f S.c S.fb S.m FD.1 S.cc S.DD S.cda S.slf S.n:=SuperOk.of ⟨o.1,o.2,FD.2⟩ a.2 h.1 (qO h.2 (n:=0) rfl) ⟨oc.1,vs.1,fl.1.1,fl.1.2,oc.2,vs.2,fv.2.trans (qz some fl.2),qO h.2 (n:=1) rfl⟩ ⟨ocell.1,ocell.2,cv.2.trans (by rw[show cv.1 = .ref S.DD from jb h.2 2 rfl])⟩ h.2;exact @qdD (D.glb prog w K base) G S.f S.c S.fb S.m S.x fd.1 FD.1 S.cc S.DD S.cda S.slf S.n fd.2 hb hp ht so d HC
theorem RowD.calls{D:RowD}{prog:Program}{w:World}{K:Frag}{base:Heap}{S:SupD}(X:K.In base)(G:GOk (D.glb prog w K base))(hW:D.wiredB K=true)(hF:D.fnsB K S.f=true)(hS:D.supB prog K S=true)(d:Nat):yQ (D.glb prog w K base) d (qf D.P d):=by
 refine qgP (g:=D.glb prog w K base) (C:=D.cfg) G (RowD.wired X hW) (qhX G) (λf fd hfd=>?_) d;by_cases hf:f=S.f
 ·subst hf
  exact .inr λd HC=>RowD.sup G hS d HC
 ·left
  have q:=jV hF (List.mem_range.mpr (jL.mp (show D.P.fns[f]? = some fd from hfd)).1);rcases gR.mp q with h | h
  ·exact absurd (qr h) hf
  ·have h:=Dw h hfd
   exact RowD.fn h
theorem RowD.ends{D:RowD}{prog p:Program}{w:World}{K:Frag}{S:SupD}{loose:List Str}{mean mean':ExcName→Option Value}{mg mb:Str→Option Value}{s₁:Shared}{fa L:Addr}{vs:List Value}{ns:List Int}{lawN:Str}{lawI dep:Nat}{c:ClaimW}{cl:Str→Option Addr}{args:List WData}(T:Top p loose mean mg mb s₁.heap)(KX:K.In s₁.heap)(hg:s₁.gens=#[])(hmg:mg lawN=some (.ref fa))(hlaw:nsIn K mainGlobals lawN=some (some (.ref (D.fa.getD lawI 0))))(hli:lawI<D.P.fns.length)(himp:importsNone p=true)(hC:D.clsB K=true)(hW:D.wiredB K=true)(hF:D.fnsB K S.f=true)(hS:D.supB prog K S=true)(hdep:dep<40)(hL:s₁.heap.IsList L vs.toArray)(hI:IntsAre vs ns)(hev:∃U,qf D.P dep lawI [.pv (.lst (qj ns))] ⟨[],false⟩=some (.pv (.bool true),U))(hn:∀cls,c.raises args cls=false)(hp:c.post args (.bool true) args=true):
  codeAny (model prog w) callerA (.call (.ref fa) ⟨[.ref L],[]⟩) (GoodW c cl mean' args s₁) s₁:=by
 have hfa:fa=D.fa.getD lawI 0:=by
  have:=mg_of KX T.g hlaw;rw[hmg] at this;cases this;rfl
 subst hfa;have G:GOk (D.glb prog w K s₁.heap):=RowD.gok KX hC (by obtain⟨mm,⟨o,_,_,e,_⟩,_⟩:=(T.seer himp).mods;exact⟨o,e⟩) ⟨mb,T.b,T.builtins⟩ T.nolimit;obtain⟨U,hev⟩:=hev;have R0:Rel (D.glb prog w K s₁.heap) (λB=>False) [] [] ⟨[],false⟩ s₁.heap:={
  len:=rfl,objs:=λe=>by simp at e,apart:=λe=>by simp at e,addrs:=λe=>by simp at e,zlt:=λh=>h.elim,keep:=λb o e=>e,bars:=λn hn=>by simp at hn,strict:=λh=>absurd rfl h }
 have noF:∀b,¬ yc [] ⟨[],false⟩ b:=by rintro b ⟨i,l,o,e,_⟩;exact by simp at e
 have ra:RAs [] (Fz (λB=>False) [] ⟨[],false⟩) s₁.heap [.ref L] [.pv (.lst (qj ns))]:=.cons (.pv (.lst ⟨id,noF L⟩ hL (Bb hI))) .nil;have HC:yQ (D.glb prog w K s₁.heap) dep (qf D.P dep):=RowD.calls KX G hW hF hS dep;refine codeAny_mono (HC hli hev ⟨qP (yn (j3 (Nat.mul_le_mul_left 2 (jz hdep)) _) 10) (by decide),qP (yn (j3 (Nat.mul_le_mul_left 20 (jz hdep)) _) 200) (by decide),rfl,rfl⟩ R0 ra (Q:=λv s'=>GoodW c cl mean' args s₁ (.ok (.ret v)) s') (E:=λB B=>False) λval s' ρ' R P q=>?_) λr s' h=>?_
 ·have q:=q.pv_
  rcases q;exact⟨.inl ⟨.bool true,.bool true,[],rfl,hn,.bool true,hp,unshared_nil⟩,λb o e=>P.ext b o e id (noF b),P.os,P.gens.trans hg⟩
 ·induction r with
  |error e=>exact h.elim
  |ok fl=>induction fl <;> first | exact h | exact h.elim
end Mine
end
section
open PySem
namespace Mine
section
variable {C:Ctx}{J J1 J2:Env}{s s1 s2 s3:St}
noncomputable def xd(C:Ctx)(r:CSs)(fl:Flow×Env)(s:St):R (Flow×Env):=match fl with
 |(.ret v,J')=>some ((.ret v,J'),s)
 |(.next,J')=>qy C r J' s
noncomputable def brS(C:Ctx)(c:Bool)(a b:CSs)(J:Env)(s:St):R (Flow×Env):=bif c then qy C a J s else qy C b J s
theorem qL{st:CS}{r:CSs}{fl:Flow×Env}{R:R (Flow×Env)}(h:vz C st J s=some (fl,s1))(h2:xd C r fl s1=R):qy C (.cons st r) J s=R:=by
 show bnd (vz C st J s) _=R;rw[h];exact h2
theorem jM:qy C .nil J s=some ((.next,J),s):=rfl
theorem qK{r:CSs}{R:R (Flow×Env)}(h:qy C r J s=R):xd C r (.next,J) s=R:=h
theorem v9:xd C r (.ret v,J) s=some ((.ret v,J),s):=rfl
theorem Zj{t:CE}{a b:CSs}{c:Bool}{R:R (Flow×Env)}(h:qt C J t s=some (.pv (.bool c),s1))(h2:brS C c a b J s1=R):vz C (.ifS t a b) J s=R:=by
 show bnd (qt C J t s) _=R;rw[h];exact h2
theorem HK{a b:CSs}{c:Bool}{R:R (Flow×Env)}(e:c=false)(h:qy C b J s=R):brS C c a b J s=R:=by rw[e];exact h
theorem jP(h:qt C J e s=some (v,s1))(h2:jC t v J=some J1):vz C (.assign t e) J s=some ((.next,J1),s1):=by
 show bnd (qt C J e s) _=_;rw[h];show ob (jC t v J) _=_;rw[h2];rfl
theorem KU(h:qt C J e s=some (v,s1)):vz C (.expr e) J s=some ((.next,J),s1):=by
 show bnd (qt C J e s) _=_;rw[h];rfl
theorem qgz(h:qt C J e s=some (v,s1)):vz C (.ret e) J s=some ((.ret v,J),s1):=by
 show bnd (qt C J e s) _=_;rw[h];rfl
theorem wN{t:CT}{it:CI}{b:CSs}{src:Src}{R:R (Flow×Env)}(h:xG C J it s=some (src,s1))(h2:jw src.held (λx J s=>ob (jC t x J) λJ'=>qy C b J' s) src.items J s1=R):vz C (.forS t it b) J s=R:=by
 show bnd (xG C J it s) _=R;rw[h];exact h2
noncomputable def qcA(C:Ctx)(held:List (Nat×List AV))(t:CT)(b:CSs)(r:List AV)(fl:Flow×Env)(s:St):R (Flow×Env):=match fl with
 |(.ret v,J')=>some ((.ret v,J'),s)
 |(.next,J')=>bif jB held s then jw held (λx J s=>ob (jC t x J) λJ'=>qy C b J' s) r J' s else none
theorem Zg:jw held f [] J s=some ((.next,J),s):=rfl
theorem zJ{held:List (Nat×List AV)}{t:CT}{b:CSs}{x:AV}{r:List AV}{fl:Flow×Env}{R:R (Flow×Env)}(h0:jC t x J=some J1)(h:qy C b J1 s=some (fl,s1))(h2:qcA C held t b r fl s1=R):jw held (λx J s=>ob (jC t x J) λJ'=>qy C b J' s) (x::r) J s=R:=by
 show bnd (ob (jC t x J) λJ'=>qy C b J' s) _=R
 rw[h0];show bnd (qy C b J1 s) _=R;rw[h];exact h2
theorem qll:qcA C held t b r (.ret v,J) s=some ((.ret v,J),s):=rfl
theorem zn{held:List (Nat×List AV)}{t:CT}{b:CSs}{r:List AV}{R:R (Flow×Env)}(hk:jB held s=true)(h:jw held (λx J s=>ob (jC t x J) λJ'=>qy C b J' s) r J s=R):qcA C held t b r (.next,J) s=R:=by
 show(bif jB held s then _ else none)=R;rw[hk];exact h
end
section
variable {C:Ctx}{J:Env}{s s1 s2 s3:St}{R:R AV}{v w x:AV}{vs:List AV}
noncomputable def brE(C:Ctx)(c:Bool)(a b:CE)(J:Env)(s:St):Mine.R AV:=bif c then qt C J a s else qt C J b s
theorem vw(e:c=true)(h:qt C J a s=R):brE C c a b J s=R:=by rw[e];exact h
theorem yZ(e:c=false)(h:qt C J b s=R):brE C c a b J s=R:=by rw[e];exact h
theorem jS(h:qt C J t s=some (.pv (.bool c),s1))(h2:brE C c a b J s1=R):qt C J (.ife t a b) s=R:=by
 show bnd (qt C J t s) _=R;rw[h];exact h2
theorem qF(h:qt C J a s=some (v,s1))(h2:qt C J b s1=some (w,s2))(h3:jD o v w s2=some r):qt C J (.cmp o a b) s=some (.pv (.bool r),s2):=by
 show bnd (qt C J a s) _=_;rw[h];show bnd (qt C J b s1) _=_;rw[h2];show ob (jD o v w s2) _=_;rw[h3];rfl
theorem qoN(h:Qq v w s=some r):jD .inn v w s=some r:=h
theorem HL(h:Qq v w s=some r):jD .notin v w s=some (!r):=by show(Qq v w s).map _=_;rw[h];rfl
theorem qoU(h:X4 v w s=some r):jD .eq v w s=some r:=h
theorem qli(h:X4 v w s=some r):jD .ne v w s=some (!r):=by show(X4 v w s).map _=_;rw[h];rfl
theorem j8(h:zf C J es s=some (vs,s1))(h2:C.call f vs s1=R):qt C J (.call f es) s=R:=by
 show bnd (zf C J es s) _=R;rw[h];exact h2
theorem zo(h:qt C J a s=some (.ref i,s1))(h2:s1.heap[i]? = some (.inst c as))(h3:C.meth c m=some f)(h4:(k9 m as).isNone=true)(h5:zf C J es s1=some (vs,s2))(h6:C.call f (.ref i::vs) s2=R):qt C J (.meth a m es) s=R:=by
 show bnd (qt C J a s) _=R;rw[h]
 show ob (s1.heap[i]?) _=R;rw[h2]
 show ob (C.meth c m) _=R;rw[h3]
 show(bif (k9 m as).isNone then _ else _)=R;rw[h4]
 show bnd (zf C J es s1) _=R;rw[h5];exact h6
theorem zt(h:zf C J es s=some (vs,s1))(h2:yf k vs s1=R):qt C J (.bi k es) s=R:=by
 show bnd (zf C J es s) _=R;rw[h];exact h2
theorem XU(h:qt C J a s=some (v,s1))(h2:Kr k v s1=true)(h3:zf C J es s1=some (vs,s2))(h4:Zr k v vs s2=R):qt C J (.bm k a es) s=R:=by
 show bnd (qt C J a s) _=R;rw[h];show(bif Kr k v s1 then _ else _)=R;rw[h2];show bnd (zf C J es s1) _=R;rw[h3];exact h4
theorem qT(h:qt C J a s=some (v,s1))(h2:qt C J i s1=some (w,s2))(h3:wv v w s2=some x):qt C J (.sub a i) s=some (x,s2):=by
 show bnd (qt C J a s) _=_;rw[h];show bnd (qt C J i s1) _=_;rw[h2];show xQ (wv v w s2) s2=_;rw[h3];rfl
theorem wB(h:qt C J a s=some (v,s1))(h3:K8 v m s1=some x):qt C J (.attr a m) s=some (x,s1):=by
 show bnd (qt C J a s) _=_;rw[h];show xQ (K8 v m s1) s1=_;rw[h3];rfl
theorem q8(h:qt C J a s=some (v,s1))(h2:qt C J b s1=some (w,s2))(h3:kj o m v w s2=R):qt C J (.bin o m a b) s=R:=by
 show bnd (qt C J a s) _=R;rw[h];show bnd (qt C J b s1) _=R;rw[h2];exact h3
theorem zT(h:zf C J es s=some (vs,s1))(h2:mkTup vs=v):qt C J (.tup es) s=some (v,s1):=by
 show bnd (zf C J es s) _=_;rw[h,←h2];rfl
theorem qnC(h:zf C J es s=some (vs,s1))(h2:mkLst vs=v):qt C J (.list false es) s=some (v,s1):=by
 show bnd (zf C J es s) _=_;rw[h,←h2];rfl
theorem YC(h:qt C J a s=some (.pv (.bool b),s1)):qt C J (.not a) s=some (.pv (.bool (!b)),s1):=by
 show bnd (qt C J a s) _=_;rw[h];rfl
theorem vK(h:Qf C J true es s=R):qt C J (.and es) s=R:=h
theorem kW(h:Qf C J false es s=R):qt C J (.or es) s=R:=h
theorem wa(h:xH C (Env.del xs J) c s=some (vs,s1))(h2:decide (vs.length≤jl)=true)(h3:mkLst vs=v):qt C J (.comp xs c) s=some (v,s1):=by
 show bnd (xH C (Env.del xs J) c s) _=_;rw[h];show(if vs.length≤jl then some (mkLst vs,s1) else none)=_;rw[if_pos (qr h2),h3]
theorem qw:zf C J .nil s=some ([],s):=rfl
theorem qh(h:qt C J e s=some (v,s1))(h2:zf C J r s1=some (vs,s2)):zf C J (.cons e r) s=some (v::vs,s2):=by
 show bnd (qt C J e s) _=_;rw[h];show bnd (zf C J r s1) _=_;rw[h2];rfl
theorem wm(h:qt C J e s=some (.pv (.bool b),s1)):Qf C J i (.cons e .nil) s=some (.pv (.bool b),s1):=by
 show bnd (qt C J e s) _=_;rw[h];rfl
noncomputable def brB(C:Ctx)(i c:Bool)(r:CEs)(J:Env)(s:St):Mine.R AV:=bif c == i then Qf C J i r s else some (.pv (.bool c),s)
theorem j7(h:qt C J e s=some (.pv (.bool c),s1))(h2:brB C i c (.cons e' r) J s1=R):Qf C J i (.cons e (.cons e' r)) s=R:=by
 show bnd (qt C J e s) _=R;rw[h];exact h2
theorem gw(e:c=true)(h:Qf C J true r s=R):brB C true c r J s=R:=by rw[e];exact h
theorem y8(e:c=false)(h:Qf C J false r s=R):brB C false c r J s=R:=by rw[e];exact h
theorem vY(e:c=false):brB C true c r J s=some (.pv (.bool false),s):=by rw[e];rfl
theorem xm(e:c=true):brB C false c r J s=some (.pv (.bool true),s):=by rw[e];rfl
noncomputable def qhj(C:Ctx)(c:Bool)(r:CEs)(J:Env)(s:St):Mine.R Bool:=bif c then vf C J r s else some (false,s)
theorem zu(h:qt C J e s=some (.pv (.bool c),s1))(h2:qhj C c r J s1=some (b,s2)):vf C J (.cons e r) s=some (b,s2):=by
 show bnd (qt C J e s) _=_;rw[h];exact h2
theorem Kp{r:CEs}{c:Bool}{R:Mine.R Bool}(e:c=true)(h:vf C J r s=R):qhj C c r J s=R:=by rw[e];exact h
theorem Ko(e:c=false):qhj C c r J s=some (false,s):=by rw[e];rfl
theorem zW(h:qt C J e s=some (v,s1))(h2:wo v s1=some src):xG C J (.it e) s=some (src,s1):=by
 show bnd (qt C J e s) _=_;rw[h];show xQ (wo v s1) s1=_;rw[h2];rfl
theorem wU(h:qt C J e s=some (v,s1)):xH C J (.elt e) s=some ([v],s1):=by
 show bnd (qt C J e s) _=_;rw[h];rfl
noncomputable def vB(C:Ctx)(J:Env)(t:CT)(ifs:CEs)(more:CL)(held:List (Nat×List AV))(l:List AV)(s:St):Mine.R (List AV) :=
 yw held (λx s=>ob (jC t x J) λJ'=>bnd (vf C J' ifs s) λb s=>bif b then xH C J' more s else some ([],s)) l s
noncomputable def Dv(C:Ctx)(J:Env)(more:CL)(b:Bool)(s:St):Mine.R (List AV):=bif b then xH C J more s else some ([],s)
theorem zK{t:CT}{it:CI}{ifs:CEs}{more:CL}{src:Src}{R:Mine.R (List AV)}(h:xG C J it s=some (src,s1))(h2:yG t J=true)(h3:vB C J t ifs more src.held src.items s1=R):xH C J (.cons t it ifs more) s=R:=by
 show bnd (xG C J it s) _=R;rw[h];show(bif !yG t J then none else _)=R;rw[h2];exact h3
theorem qdR:vB C J t ifs more held [] s=some ([],s):=rfl
theorem jh(h:jC t x J=some J')(h2:vf C J' ifs s=some (b,s1))(h3:Dv C J' more b s1=some (ys,s2))(h4:jB held s2=true)(h5:vB C J t ifs more held r s2=some (zs,s3)):vB C J t ifs more held (x::r) s=some (ys++zs,s3):=by
 show bnd (ob (jC t x J) _) _=_;rw[h]
 show bnd (bnd (vf C J' ifs s) _) _=_;rw[h2]
 show bnd (Dv C J' more b s1) _=_;rw[h3]
 show(bif jB held s2 then bnd (vB C J t ifs more held r s2) _ else none)=_;rw[h4,h5];rfl
theorem wD{more:CL}{b:Bool}{R:Mine.R (List AV)}(e:b=true)(h:xH C J more s=R):Dv C J more b s=R:=by rw[e];exact h
theorem Zi(e:b=false):Dv C J more b s=some ([],s):=by rw[e];rfl
end
section
variable {C:Ctx}{J J1 J2:Env}{s s1 s2:St}{r:CSs}{R:R (Flow×Env)}{v:AV}{e:CE}{c:Bool}
theorem SA(h:qt C J e s=some (v,s1))(h2:jC t v J=some J1)(h3:qy C r J1 s1=R):qy C (.cons (.assign t e) r) J s=R:=qL (jP h h2) h3
theorem SX(h:qt C J e s=some (v,s1))(h3:qy C r J s1=R):qy C (.cons (.expr e) r) J s=R:=qL (KU h) h3
theorem SR(h:qt C J e s=some (v,s1)):qy C (.cons (.ret e) r) J s=some ((.ret v,J),s1):=qL (qgz h) v9
noncomputable def DJ(C:Ctx)(c:Bool)(a b r:CSs)(J:Env)(s:St):Mine.R (Flow×Env):=bnd (brS C c a b J s) λfl s=>xd C r fl s
theorem wb{a b:CSs}(h:qt C J e s=some (.pv (.bool c),s1))(h2:DJ C c a b r J s1=R):qy C (.cons (.ifS e a b) r) J s=R:=by
 show bnd (vz C (.ifS e a b) J s) (xd C r)=R
 rw[show vz C (.ifS e a b) J s=brS C c a b J s1 from Zj h rfl];exact h2
theorem yW(hc:c=false)(h3:qy C r J s=R):DJ C c a .nil r J s=R:=by rw[DJ,hc];exact h3
theorem ZP(hc:c=true)(h2:qy C a J s=some (f,s2))(h3:xd C r f s2=R):DJ C c a b r J s=R:=by rw[DJ,hc];show bnd (qy C a J s) _=R;rw[h2];exact h3
theorem T_e(hc:c=false)(h2:qy C b J s=some (f,s2))(h3:xd C r f s2=R):DJ C c a b r J s=R:=by rw[DJ,hc];show bnd (qy C b J s) _=R;rw[h2];exact h3
end
theorem qgD(h:qJ a x=false)(h2:vQ x r=b):vQ x (a::r)=b:=by rw[vQ,h];exact h2
theorem qjt:qJ (.tup [.str "bit", .int n,.bool t]) (.tup [.str "bit", .int n,.bool !t])=false:=by
 induction t <;> simp[qmU,qmV,qmW,qmX,qmY,qmZ,qdK,YZ,Y0,Y1,eqB]
section
variable {s:St}{i:Nat}{l:List AV}
set_option backward.match.sparseCases false in
theorem Bm(h:s.heap[i]? = some (.list l)):qR s (.ref i)=some l:=by
 show(match s.heap[i]? with | some (.list l)=>some l | _=>none)=some l
 rw[h]
set_option backward.match.sparseCases false in
theorem Yv(h:s.heap[i]? = some (.list l))(h2:decide (l.length≤jl)=true):wo (.ref i) s=some ⟨l,[(i,l)]⟩:=by
 show ob (qR _ _) _=_
 rw[Bm h];show(if l.length≤jl then some (Src.mk l (match s.heap[i]? with | some (.list l)=>[(i,l)] | _=>[])) else none)=_
 rw[if_pos (qr h2),h]
set_option backward.match.sparseCases false in
theorem gd(h:s.heap[i]? = some (.list l)):jB [(i,l)] s=true:=by
 show((match s.heap[i]? with | some (.list m)=>AV.sames m l | _=>false)&&true)=true
 rw[h];show(AV.sames l l&&true)=true;rw[AV.sames_refl];rfl
theorem qiF(h:s.heap[i]? = some (.list l))(h2:gj k=true):Kr k (.ref i) s=true:=by
 show(match s.heap[i]? with | some o=>bif gj k then Bk o else Hc o | none=>false)=true
 rw[h];show(bif gj k then _ else _)=true;rw[h2];rfl
theorem qnt(h:s.heap[i]? = some (.list l))(h2:kf l v=some x):wv (.ref i) v s=some x:=by
 show ob (s.heap[i]?) (D2 v)=_;rw[h];exact h2
theorem gE{l:List AV}{n:Nat}{x:AV}(h:n<1000000000)(h2:l[n]? = some x):kf l (.pv (.int n))=some x:=by
 show(if (n:Int).natAbs<1000000000 then _ else _)=_
 rw[if_pos (show(n:Int).natAbs<1000000000 from h)];exact h2
theorem qg(h:J.get x=some v):qt C J (.var x) s=some (v,s):=by
 show xQ (J.get x) s=_;rw[h];rfl
theorem qck(h:qt C J a s=some (v,s1))(h2:qt C J b s1=some (w,s2))(h3:wo v s2=some x)(h4:wo w s2=some y):xG C J (.zip a b) s=some (⟨Qa x.items y.items,x.held++y.held⟩,s2):=by
 show bnd (qt C J a s) _=_;rw[h];show bnd (qt C J b s1) _=_;rw[h2]
 show ob (wo v s2) _=_;rw[h3];show ob (wo w s2) _=_;rw[h4];rfl
end
theorem qn:∀{J:Env},(J.put i v).get i=some v:=by
 intro J;induction J with
 |nil =>
  show(bif i == i then _ else _)=_;rw[zP];rfl
 |cons hdq r ih =>
  obtain⟨k,w⟩:=hdq;rw[Env.put];cases h:k == i with
  |true=>show(bif i == i then _ else _)=_;rw[zP];rfl
  |false=>show(bif k == i then _ else _)=_;rw[h];exact ih
theorem yg(h:(i == j)=false):∀{J:Env},(J.put i v).get j=J.get j:=by
 intro J;induction J with
 |nil =>
  show(bif i == j then _ else _)=_;rw[h];rfl
 |cons hdq r ih =>
  obtain⟨k,w⟩:=hdq;rw[Env.put];cases h2:k == i with
  |true=>show(bif i == j then _ else _)=(bif k == j then _ else _);rw[h,show(k == j)=false from(zr.mp h2)▸h];rfl
  |false =>
   show(bif k == j then _ else _)=(bif k == j then _ else _)
   induction k == j with
   |true=>rfl
   |false=>exact ih
theorem qd{i j:Nat}{v:AV}{w:Option AV}{J:Env}(h:(i == j)=false)(h2:J.get j=w):(J.put i v).get j=w:=(yg h).trans h2
theorem qhf(h:xs.contains i=false):∀{J:Env},(Env.del xs J).get i=J.get i:=by
 intro J;induction J with
 |nil =>
  exact rfl
 |cons hdq r ih =>
  obtain⟨j,w⟩:=hdq;rw[Env.del];cases hj:xs.contains j with
  |true =>
   have:(j == i)=false:=by
    cases h2:j == i with
    |false=>rfl
    |true=>rw[zr.mp h2,h] at hj;injection hj
   show(Env.del xs r).get i=(bif j == i then _ else _);rw[this];exact ih
  |false =>
   show(bif j == i then _ else _)=(bif j == i then _ else _)
   induction j == i with
   |true=>rfl
   |false=>exact ih
theorem jx(h:xs.contains i=false)(h2:J.get i=w):(Env.del xs J).get i=w:=(qhf h).trans h2
theorem jE(h:xs.contains i=true):∀{J:Env},(Env.del xs J).get i=none:=by
 intro J;induction J with
 |nil =>
  exact rfl
 |cons hdq r ih =>
  obtain⟨j,w⟩:=hdq;rw[Env.del];cases hj:xs.contains j with
  |true=>exact ih
  |false =>
   show(bif j == i then _ else _)=_
   have:(j == i)=false:=by
    cases h2:j == i with
    |false=>rfl
    |true=>rw[zr.mp h2,h] at hj;injection hj
   rw[this];exact ih
theorem w8(h:J.get x=none):yG (.nm x) J=true:=by show(J.get x).isNone=true;rw[h];rfl
theorem qeO(h:J.get x=none)(h2:J.get y=none):yG (.tup (.cons (.nm x) (.cons (.nm y) .nil))) J=true:=by
 show((J.get x).isNone&&((J.get y).isNone&&true))=true;rw[h,h2];rfl
theorem qfl:∀{m:List (PV×AV)},zE k m=none→kE k v m=m++[(k,v)]∧zE k (m++[(k,v)])=some v:=by
 intro m;induction m with
 |nil =>
  intro _;exact⟨rfl,by rw[List.nil_append,zE,v6];rfl⟩
 |cons hdq r ih =>
  intro h;obtain⟨j,w⟩:=hdq;cases hj:qJ j k with
  |true=>rw[zE,hj] at h;injection h
  |false =>
   rw[zE,hj] at h;obtain⟨h1,h2⟩:=ih h;exact⟨by rw[kE,hj];exact qz ((j,w)::·) h1,by rw[List.cons_append,zE,hj];exact h2⟩
theorem HW(hk:zN l=true)(hd:decide (jv l<6)=true):zM (.dictT kvs) (.pv (.tup l))=some (zE (.tup l) kvs):=by
 show(if (zN l&&decide _)=true then _ else _)=_;rw[hk,hd];rfl
theorem gG(h:n<1000):n<jl:=jp h (by decide)
theorem Xk(h:qR s v=some l)(h2:l.length≤jl):yf .len [v] s=some (.pv (.int l.length),s):=by
 show ob (qR s v) _=_;rw[h];exact if_pos h2
theorem xn(h:s.heap[i]? = some (.list l))(hp:yz v=true)(h2:l.length<jl):Zr .append (.ref i) [v] s=some (.pv .none,s.set i (.list (l++[v]))):=by
 show ob (s.heap[i]?) _=_;rw[h]
 show(if ((yz v||_)&&decide _)=true then _ else _)=_
 rw[hp,qN h2];rfl
theorem qlj{C:Ctx}{J:Env}{es:CEs}{vs:List AV}{s s1:St}{R:R AV}(h:zf C J es s=some (vs,s1))(h2:(ob (HF vs) λx=>some (AV.pv (.str x),s1))=R):qt C J (.fstr es) s=R:=by
 show bnd (zf C J es s) _=R;rw[h];exact h2
theorem KQ(h:qt C J a s=some (.pv (.int i),s1)):qt C J (.neg a) s=some (.pv (.int (-i)),s1):=by
 show bnd (qt C J a s) _=_;rw[h];rfl
theorem qgA(h:qt C J e s=some (v,s1))(h2:qt C J a s1=some (.ref j,s2))(h3:qt C J i s2=some (k,s3))(h4:s3.heap[j]? = some m)(hp:yz v=true)(h5:ye m k v=some m'):vz C (.setSub a i e) J s=some ((.next,J),s3.set j m'):=by
 show bnd (qt C J e s) _=_;rw[h]
 show bnd (qt C J a s1) _=_;rw[h2]
 show bnd (qt C J i s2) _=_;rw[h3]
 show ob (s3.heap[j]?) _=_;rw[h4]
 show(if (yz v||_)=true then _ else _)=_;rw[hp]
 show ob (ye m k v) _=_;rw[h5];rfl
namespace L1
theorem qV{k f:Nat}{vs:List AV}{s:St}{R:R AV}(h:qf P k f vs s=R):(qH P (qf P k)).call f vs s=R:=h
theorem qpW{k:BI}{vs:List AV}{s:St}{R:R AV}(h:yf k vs s=R):yf k vs s=R:=h
theorem qpX{k:BM}{a:AV}{vs:List AV}{s:St}{R:R AV}(h:Zr k a vs s=R):Zr k a vs s=R:=h
theorem qpQ{k:Cmp}{a b:AV}{s:St}{R:Option Bool}(h:jD k a b s=R):jD k a b s=R:=h
theorem qpY{a b:AV}{s:St}{R:Option Bool}(h:Qq a b s=R):Qq a b s=R:=h
theorem qpR{a b:AV}{s:St}{R:Option AV}(h:wv a b s=R):wv a b s=R:=h
theorem qoT{k f:Nat}{vs:List AV}{s:St}{R:R AV}(h:qf P k f vs s=R):qf P k f vs s=R:=h
theorem qD{d f:Nat}{vs:List AV}{h:List AObj}{st:Bool}{s':St}{q:Flow×Env}{R:R AV}(fd:Fn)(hf:P.fns[f]? = some fd)(ht:fd.trim=false)(hl:fd.params.length=vs.length)(he:qy (qH P (qf P d)) fd.body (fd.params.zip vs) ⟨h,st⟩=some (q,s'))(hr:some (q.1.val,(⟨s'.heap,st⟩:St))=R):qf P (d+1) f vs ⟨h,st⟩=R:=by
 rw[qf];simp only[hf,hl,ht,Bool.or_false,he,if_true];exact hr
theorem HP{d f:Nat}{vs:List AV}{h:List AObj}{st:Bool}{s':St}{q:Flow×Env}{p:PV}{R:R AV}(fd:Fn)(hf:P.fns[f]? = some fd)(ht:fd.trim=true)(hl:fd.params.length=vs.length)(he:qy (qH P (qf P d)) fd.body (fd.params.zip vs) ⟨h,true⟩=some (q,s'))(hp:q.1.val = .pv p)(hr:some (AV.pv p,(⟨s'.heap.take h.length,st⟩:St))=R):qf P (d+1) f vs ⟨h,st⟩=R:=by
 rw[qf];simp only[hf,hl,ht,Bool.or_true,he,hp,if_true];exact hr
set_option genCtorIdx true in
inductive Tr where
 |b (v:Bool)
 |bit (n:Nat) (s:Bool)
noncomputable def Tr.pv:Tr→PV
 | .b v=>.bool v
 | .bit n s=>.tup [.str "bit", .int n,.bool s]
noncomputable def Tr.con:Tr→Tr
 | .b v=>.b (!v)
 | .bit n s=>.bit n (!s)
noncomputable abbrev Dm:=List (Int×Int)
noncomputable def yH(p:Int×Int):PV:=.tup [.int p.1,.int p.2]
noncomputable def jm(d:Dm):PV:=.tup (d.map yH)
structure Sm where
 t:List (Nat×Int)
 c:Int
noncomputable def Qk(p:Nat×Int):PV:=.tup [.int p.1,.int p.2]
noncomputable def Sm.pv(s:Sm):PV:=.tup [.str "sum", .tup (s.t.map Qk),.int s.c]
noncomputable def jK(l:List Nat):List PV:=l.map λn:Nat=>PV.int n
theorem qpH(l:List Nat): jK l=List.map (λ(n:Nat)=>PV.int ↑n) l:=rfl
structure Row where
 le:Bool
 cs:List Int
 vs:List Nat
 c:Int
noncomputable def ww(le:Bool):Str:=bif le then "linear_le" else "linear_eq"
noncomputable def Row.pv(r:Row):PV:=.tup [.str (ww r.le),.tup (qj r.cs),.tup (jK r.vs),.int r.c]
set_option genCtorIdx true in
inductive Key where
 |sum (s:Sm)
 |reif (r:Row)
 |stand (y:Nat) (t:Tr) (d:Dm)
noncomputable def Key.l:Key→List PV
 | .sum s=>[.str "sum", .tup (s.t.map Qk),.int s.c]
 | .reif r=>[.str "reif",r.pv]
 | .stand y t d=>[.str "stand", .int y,t.pv,jm d]
noncomputable def Key.pv(k:Key):PV:=.tup k.l
inductive Told where
 |lin (r:Row)
 |reif (b:Nat) (r:Row)
 |imp (b:Nat) (r:Row)
 |cl (n:Nat) (s:Bool)
noncomputable def Told.pv:Told→PV
 | .lin r=>r.pv
 | .reif b r=>.tup [.str "reif", .int b,r.pv]
 | .imp b r=>.tup [.str "imp", .int b,r.pv]
 | .cl n s=>.tup [.str "clause", .tup (bif s then [.int n] else []),.tup (bif s then [] else [.int n])]
structure M where
 ks:List Key
 ts:List Told
noncomputable def TR:Dm:=[(0,1)]
noncomputable def jt(D:Dm×Dm)(v:Nat):Dm:=if v=0 then D.1 else if v=1 then D.2 else TR
noncomputable def qM:Dm→Int
 |[]=>0
 |p::_=>p.1
noncomputable def je:Dm→Int
 |[]=>0
 |p::r=>r.getLastD p |>.2
noncomputable def bnds(D:Dm×Dm):List (Nat×Int)→Int×Int→Int×Int
 |[],r=>r
 |(x,a)::t,(lo,hi)=>let p:=a * qM (jt D x);let q:=a * je (jt D x);bnds D t (lo+(if q<p then q else p),hi+(if p<q then q else p))
theorem KZ(D:Dm×Dm)(x:Int×Int): bnds D [] x=x:=rfl
theorem K1(D:Dm×Dm)(x_2:Nat)(a:Int)(t:List (Nat×Int))(lo hi:Int): bnds D ((x_2,a)::t) (lo,hi)=bnds D t (lo+if a * je (jt D x_2)<a * qM (jt D x_2) then a * je (jt D x_2) else a * qM (jt D x_2),hi+if a * qM (jt D x_2)<a * je (jt D x_2) then a * je (jt D x_2) else a * qM (jt D x_2)):=rfl
noncomputable def Sm.bnds(s:Sm)(D:Dm×Dm):Int×Int:=L1.bnds D s.t (s.c,s.c)
noncomputable def xy(r:Int×Int):Dm:=if r.1≤r.2 then [r] else []
noncomputable def ji(D:Dm×Dm):Key→Dm
 | .sum s=>xy (s.bnds D)
 | .reif _=>TR
 | .stand _ _ d=>d
noncomputable def yU(n:Nat):PV:=.str (("#" : Str)++v7 n)
noncomputable def kB(D:Dm×Dm):Nat→List Key→List AV
 |_,[]=>[]
 |n,k::r=>.pv (.tup [yU n,jm (ji D k)])::kB D (n+1) r
noncomputable def zi:Nat→List Key→List (PV×AV)
 |_,[]=>[]
 |n,k::r=>(k.pv,.pv (.int n))::zi (n+1) r
theorem qoQ(x:Nat): zi x []=[]:=rfl
theorem qoR(x:Nat)(k:Key)(r:List Key): zi x (k::r)=(k.pv,AV.pv (PV.int ↑x))::zi (x+1) r:=rfl
noncomputable def zk(D:Dm×Dm)(ks:List Key):List AV:=.pv (.tup [.str "x",jm D.1])::.pv (.tup [.str "y",jm D.2])::kB D 2 ks
noncomputable def jo(ts:List Told):List AV:=ts.map λt=>.pv t.pv
noncomputable def gh(pa:AV)(vars tolds:List AV)(made:List (PV×AV))(tl:List AObj):List AObj :=
 .inst 2 [(47,.ref 1),(48,.ref 4),(73,pa)]::.inst 0 [(14,.ref 2),(15,.ref 3),(16,.pv (.tup [.str "satisfy", .none])),(17,.pv (.tup []))]::.list vars::.list tolds::.dictT made::tl
noncomputable def gm(D:Dm×Dm)(pa:AV)(tl:List AObj)(m:M):List AObj:=gh pa (zk D m.ks) (jo m.ts) (zi 2 m.ks) tl
noncomputable def qX(k:Key):Nat→List Key→Option Nat
 |_,[]=>none
 |n,x::r=>bif qJ x.pv k.pv then some n else qX k (n+1) r
theorem qoO(k:Key)(x:Nat): qX k x []=none:=rfl
theorem qoP(k:Key)(x:Nat)(k_1:Key)(r:List Key): qX k x (k_1::r)=bif qJ k_1.pv k.pv then some x else qX k (x+1) r:=rfl
noncomputable def M.size(m:M):Nat:=2+m.ks.length
theorem qfC(D:Dm×Dm):∀(ks:List Key) (n:Nat),(kB D n ks).length=ks.length:=by
 intro ks;induction ks with
 |nil =>
  intro _;exact rfl
 |cons _ r ih =>
  intro n;exact qz (· + 1) (ih (n+1))
theorem wz(D:Dm×Dm)(ks:List Key):(zk D ks).length=2+ks.length:=by
 rw[zk,yp,yp,qfC];exact jH _ 2
theorem qfq:∀(ks:List Key) (n:Nat),(zi n ks).length=ks.length:=by
 intro ks;induction ks with
 |nil =>
  intro _;exact rfl
 |cons _ r ih =>
  intro n;exact qz (· + 1) (ih (n+1))
theorem vF(ts:List Told):(jo ts).length=ts.length:=qE ..
theorem qfB(D:Dm×Dm)(k:Key):∀(ks:List Key) (n:Nat),kB D n (ks++[k])=kB D n ks++[.pv (.tup [yU (n+ks.length),jm (ji D k)])]:=by
 intro ks;induction ks with
 |nil =>
  intro _;exact rfl
 |cons x r ih =>
  intro n;show _::kB D (n+1) (r++[k])=_
  rw[ih (n+1),yp,jQ,jH 1];rfl
theorem XR(D:Dm×Dm)(ks:List Key)(k:Key):zk D (ks++[k])=zk D ks++[.pv (.tup [yU (2+ks.length),jm (ji D k)])]:=by
 rw[zk,qfB];rfl
theorem qfp(k:Key):∀(ks:List Key) (n:Nat),zi n (ks++[k])=zi n ks++[(k.pv,.pv (.int ((n+ks.length:Nat):Int)))]:=by
 intro ks;induction ks with
 |nil =>
  intro _;exact rfl
 |cons x r ih =>
  intro n;show _::zi (n+1) (r++[k])=_
  rw[ih (n+1),yp,jQ,jH 1];rfl
theorem Km(ts:List Told)(t:Told):jo (ts++[t])=jo ts++[.pv t.pv]:=gU ..
theorem Ye(k:Key):∀(ks:List Key) (n:Nat),zE k.pv (zi n ks)=(qX k n ks).map λi:Nat=>AV.pv (.int i):=by
 intro ks;induction ks with
 |nil =>
  intro _;exact rfl
 |cons x r ih =>
  intro n;rw[zi,zE,qX];induction qJ x.pv k.pv with
  |true=>rfl
  |false=>exact ih (n+1)
theorem qkr(D:Dm×Dm):∀(ks:List Key) (n i:Nat) {k:Key},ks[i]? = some k→(kB D n ks)[i]? = some (.pv (.tup [yU (n+i),jm (ji D k)])):=by
 intro ks;induction ks with
 |nil =>
  intro _ _ _ h;injection h
 |cons x r ih =>
  intro n c2q;rcases c2q with _ | i
  ·intro _ h
   injection h with h;subst h;rfl
  ·intro k h
   show(kB D (n+1) r)[i]? = _
   rw[ih (n+1) i h,jQ,jH 1]
theorem qgZ:∀{ks:List Key}{n i:Nat},qX k n ks=some i→∃j x,i=n+j∧ks[j]? = some x∧qJ x.pv k.pv=true:=by
 intro ks;induction ks with
 |nil =>
  intro _ _ h;injection h
 |cons x r ih =>
  intro n i h;rw[qX] at h;cases hx:qJ x.pv k.pv with
  |true=>rw[hx] at h;injection h with h;subst h;exact⟨0,x,rfl,rfl,hx⟩
  |false =>
   rw[hx] at h;obtain⟨j,y,h1,h2,h3⟩:=ih h;exact⟨j+1,y,by rw[h1,jQ,jH 1],h2,h3⟩
theorem qcF:∀{ks:List Key}{n i:Nat},qX k n ks=some i→qX k n (ks++more)=some i:=by
 intro ks;induction ks with
 |nil =>
  intro _ _ h;injection h
 |cons x r ih =>
  intro n i h;show(bif qJ x.pv k.pv then some n else qX k (n+1) (r++more))=some i
  rw[qX] at h;cases hx:qJ x.pv k.pv with
  |true=>rw[hx] at h;exact h
  |false=>rw[hx] at h;exact ih h
theorem Qg:∀{ks:List Key}{n:Nat},qX k n ks=none→qX k n (ks++[k])=some (n+ks.length):=by
 intro ks;induction ks with
 |nil =>
  intro n _;show(bif qJ k.pv k.pv then some n else none)=_;rw[v6];rfl
 |cons x r ih =>
  intro n h;show(bif qJ x.pv k.pv then some n else qX k (n+1) (r++[k]))=_
  rw[qX] at h;cases hx:qJ x.pv k.pv with
  |true=>rw[hx] at h;injection h
  |false=>rw[hx] at h;rw[yp,jH r.length,←jQ];exact ih h
end L1
end Mine
end
section
open PySem PyProof.Rows
set_option hygiene false in
open Lean in
local macro_rules | `(tactic| walk_at "e") => do
  let f (s : String) : Array Ident := ((s.splitOn " ").map λn => mkIdent n.toName).toArray
  let a := f "L1.qoT L1.qpW L1.qpX L1.qpQ L1.qpY L1.qpR"
  let b := f "SX SA SR wb jM v9 qK qw qh L1.qV zo j8"
  let c := f "yW ZP T_e"
  let d := f "zt XU qF qT wB q8 zT YC vK kW wa jS KQ qlj HL qoN qoU qli zK wU zW"
  let e := f "vw yZ"
  let g := f "j7 wm"
  let k := f "gw y8 vY xm"
  `(tactic| first
    | ((with_reducible first $[| apply $a:ident]*); assumption)
    | (with_reducible first $[| apply $b:ident]*)
    | (first $[| ((with_reducible apply $c:ident); exact rfl)]*)
    | exact rfl
    | (with_reducible first $[| apply $d:ident]*)
    | (first $[| ((with_reducible apply $e:ident); exact rfl)]*)
    | (with_reducible first $[| apply $g:ident]*)
    | (first $[| ((with_reducible apply $k:ident); exact rfl)]*))
namespace Mine.L1
section
variable (d:Nat) {pa:AV}{vars tolds:List AV}{made:List (PV×AV)}{tl:List AObj}{st:Bool}{l:List PV}
theorem DU(t:Tr)(U:St):qf P (d+1) 18 [.pv t.pv] U=some (.pv t.con.pv,U):=by
 induction t with
 |b v=>rfl
 |bit n s=>rfl
theorem HE(h:vars.length<1000):qf P (d+1) 11 [.ref 1] ⟨gh pa vars tolds made tl,st⟩=some (.pv (.int vars.length),⟨gh pa vars tolds made tl,st⟩):=by
 have hl:=Xk (v:=.ref 2) (l:=vars) (s:=⟨gh pa vars tolds made tl,st⟩) rfl (jz (gG h));apply qD f11 rfl rfl rfl
 ·show qy _ c11 _ _=_
  unfold c11;repeat' walk_at "e"
 ·exact rfl
theorem Yi(h:vars.length<1000):
  qf P (d+1) 9 [.ref 1,.pv n,.pv dm] ⟨gh pa vars tolds made tl,st⟩=some (.pv (.int vars.length),⟨gh pa (vars++[.pv (.tup [n,dm])]) tolds made tl,st⟩):=by
 have ha:=xn (i:=2) (l:=vars) (v:=.pv (.tup [n,dm])) (s:=⟨gh pa vars tolds made tl,st⟩) rfl rfl (gG h);have hl:=Xk (v:=.ref 2) (l:=vars++[.pv (.tup [n,dm])]) (s:=St.set ⟨gh pa vars tolds made tl,st⟩ 2 (.list (vars++[.pv (.tup [n,dm])]))) rfl (by rw[qU];exact jz (q6 (Nat.add_lt_add_right h 1) (by decide)));apply qD f9 rfl rfl rfl
 ·show qy _ c9 _ _=_
  unfold c9;repeat' walk_at "e"
 ·show some (AV.pv (.int (((vars++[AV.pv (.tup [n,dm])]).length:Int) - 1)),_)=_
  rw[qU,show((vars.length+[AV.pv (.tup [n,dm])].length:Nat):Int) - 1=vars.length from by rw[Int.natCast_add];exact Int.add_sub_cancel _ _];rfl
theorem qkA(h:tolds.length<1000):
  qf P (d+1) 10 [.ref 1,.pv t] ⟨gh pa vars tolds made tl,st⟩=some (.pv .none,⟨gh pa vars (tolds++[.pv t]) made tl,st⟩):=by
 have ha:=xn (i:=3) (l:=tolds) (v:=.pv t) (s:=⟨gh pa vars tolds made tl,st⟩) rfl rfl (gG h);apply qD f10 rfl rfl rfl
 ·show qy _ c10 _ _=_
  unfold c10;repeat' walk_at "e"
 ·exact rfl
theorem QG{i:Nat}{n dm:PV}(hi:i<1000)(h:vars[i]? = some (.pv (.tup [n,dm]))):
  qf P (d+1) 12 [.ref 1,.pv (.int i)] ⟨gh pa vars tolds made tl,st⟩=some (.pv dm,⟨gh pa vars tolds made tl,st⟩):=by
 have hs:=qnt (i:=2) (s:=⟨gh pa vars tolds made tl,st⟩) rfl (gE (jp hi (by decide)) h);apply qD f12 rfl rfl rfl
 ·show qy _ c12 _ _=_
  unfold c12;repeat' walk_at "e"
 ·exact rfl
end
theorem QF{α:Type}{f:α→PV}{n:Nat}(h:∀a,ju (f a)≤n):∀l:List α,jv (l.map f)≤n:=by
 intro l;induction l with
 |nil =>
  exact j4 _
 |cons a r ih =>
  show max (ju (f a)) (jv (r.map f))≤n;exact Nat.max_le.mpr ⟨h a,ih⟩
theorem Xs{α:Type}{f:α→PV}(h:∀a,xg (f a)=true):∀l:List α,zN (l.map f)=true:=by
 intro l;induction l with
 |nil =>
  exact rfl
 |cons a r ih =>
  show(xg (f a)&&zN (r.map f))=true;rw[h a,ih];rfl
theorem qnh(r:Row):xg r.pv=true:=by
 show(true&&(zN (r.cs.map PV.int)&&(zN (r.vs.map _)&&(true&&true))))=true
 rw[Xs (λB=>rfl),Xs (λB=>rfl)];rfl
theorem qkF(r:Row):ju r.pv≤2:=by
 show max 0 (max (jv (r.cs.map PV.int)+1) (max (jv (r.vs.map _)+1) (max 0 0)))+1≤2
 have h1:=QF (f:=PV.int) (n:=0) (λB=>qW _) r.cs;have h2:=QF (f:=λn:Nat=>PV.int n) (n:=0) (λB=>qW _) r.vs;exact zZ (Nat.max_le.mpr ⟨j4 _,Nat.max_le.mpr ⟨zZ h1,Nat.max_le.mpr ⟨zZ h2,j4 _⟩⟩⟩)
theorem qgm(t:Tr):ju t.pv≤1:=by induction t <;> exact jG rfl
theorem qlP(d:Dm):ju (jm d)≤2:=yn (QF (n:=1) (λB=>qW _) d) 1
theorem Bn(k:Key):zN k.l=true:=by
 induction k with
 |sum s=>show(true&&(zN (s.t.map Qk)&&(true&&true)))=true;rw[Xs (λB=>rfl)];rfl
 |reif r=>show(true&&(xg r.pv&&true))=true;rw[qnh];rfl
 |stand y t d=>show(true&&(true&&(xg t.pv&&(zN (d.map yH)&&true))))=true;rw[Xs (λB=>rfl)];induction t <;> rfl
theorem lt6(h:a≤n)(hn:n<6):a<6:=qP h hn
theorem z6:0<6:=by decide
theorem Hf(k:Key):decide (jv k.l<6)=true:=by
 refine qN ?_;induction k with
 |sum s=>exact Nat.max_lt.mpr ⟨z6,Nat.max_lt.mpr ⟨lt6 (zZ (QF (f:=Qk) (n:=1) (λB=>qW _) s.t)) (by decide),z6⟩⟩
 |reif r=>exact Nat.max_lt.mpr ⟨z6,Nat.max_lt.mpr ⟨lt6 (qkF r) (by decide),z6⟩⟩
 |stand y t d=>exact Nat.max_lt.mpr ⟨z6,Nat.max_lt.mpr ⟨z6,Nat.max_lt.mpr ⟨lt6 (qgm t) (by decide),Nat.max_lt.mpr ⟨lt6 (qlP d) (by decide),z6⟩⟩⟩⟩
theorem Z1{x:Int}{n:Nat}(h:x.natAbs<n): -(n:Int)<x∧x<n :=
 ⟨Int.neg_lt_of_neg_lt (vG (Int.natAbs_neg x▸Int.le_natAbs) (yr.mpr h)),vG Int.le_natAbs (yr.mpr h)⟩
theorem qdV{x:Int}{n:Nat}(h1 : -(n:Int)<x)(h2:x<n):x.natAbs<n:=by
 rcases Int.natAbs_eq x with e | e
 ·exact yr.mp (by rw[←e];exact h2)
 ·exact yr.mp (Int.lt_of_neg_lt_neg (by rw[←e];exact h1))
noncomputable def Yu(d:Dm):Bool:=d.all λp=>decide (p.1.natAbs<1000)&&decide (p.2.natAbs<1000)
noncomputable def zO(d:Dm):Bool:=decide (d.length<1000)&&Yu d
section
variable (d:Nat) {D:Dm×Dm}{pa:AV}{tl:List AObj}{st:Bool}{m:M}{k:Key}
theorem Xa(h:i.natAbs<1000)(s:St):qf P (d+1) 13 [.pv (.int i)] s=some (.pv (.int i),s):=by
 obtain⟨hp,st⟩:=s;have hb:yf .abs [.pv (.int i)] ⟨hp,st⟩=some (.pv (.int i.natAbs),⟨hp,st⟩):=rfl;have hc:jD .ge (.pv (.int i.natAbs)) (.pv (.int (10 ^ 1000))) ⟨hp,st⟩=some false:=by
  show some (decide ((10:Int) ^ 1000≤i.natAbs))=_
  rw[zQ];intro hh;have:((10 ^ 1000:Nat):Int)≤(i.natAbs:Int):=by rw[Int.natCast_pow];exact hh
  exact absurd (qP (Int.ofNat_le.mp this) h) (by decide +kernel)
 have hq:qt (qH P (qf P d)) [(27,.pv (.int i))] (.bin .pow false (.int 10) (.glob 0)) ⟨hp,st⟩=some (.pv (.int (10 ^ 1000)),⟨hp,st⟩):=by
  apply q8;exact rfl;exact rfl;exact rfl
 apply qD f13 rfl rfl rfl
 ·show qy _ c13 _ _=_
  unfold c13;apply wb
  ·apply qF
   ·apply zt;exact rfl;exact hb
   ·exact hq
   ·exact hc
  apply yW rfl;exact SR rfl
 ·exact rfl
theorem qnm(h:zO dm=true):wo (.pv (jm dm)) s=some ⟨(dm.map yH).map .pv,[]⟩:=by
 refine if_pos (jz ?_);rw[qE,qE];exact gG (qr (zp.mp h).1)
theorem qgX:∀{dm:Dm}{J:Env},Yu dm=true→∃J',jw [] (λx J s=>ob (jC (.tup (.cons (.nm 0) (.cons (.nm 1) .nil))) x J) λJ'=>qy (qH P (qf P (d+1))) (.cons (.expr (.call 13 (.cons (.bi .max2 (.cons (.bi .abs (.cons (.var 0) .nil)) (.cons (.bi .abs (.cons (.var 1) .nil)) .nil))) .nil))) .nil) J' s) ((dm.map yH).map .pv) J s=some ((.next,J'),s)∧∀i,(0 == i)=false→(1 == i)=false→J'.get i=J.get i:=by
 intro dm;induction dm with
 |nil =>
  intro J _;exact⟨J,rfl,λB B B=>rfl⟩
 |cons p r ih =>
  intro J h;obtain⟨h1,h2⟩:=zp.mp h;obtain⟨ha,hb⟩:=zp.mp h1;obtain⟨J',e,g⟩:=ih (J:=(J.put 0 (.pv (.int p.1))).put 1 (.pv (.int p.2))) h2;refine⟨J',?_,λi a b=>by rw[g i a b,yg b,yg a]⟩;refine zJ (J1:=(J.put 0 (.pv (.int p.1))).put 1 (.pv (.int p.2))) (s1:=s) (fl:=(.next,(J.put 0 (.pv (.int p.1))).put 1 (.pv (.int p.2)))) rfl ?_ (zn rfl e);have e0:qt (qH P (qf P (d+1))) ((J.put 0 (.pv (.int p.1))).put 1 (.pv (.int p.2))) (.var 0) s=some (.pv (.int p.1),s):=qg (by rw[yg rfl];exact qn);have e1:qt (qH P (qf P (d+1))) ((J.put 0 (.pv (.int p.1))).put 1 (.pv (.int p.2))) (.var 1) s=some (.pv (.int p.2),s):=qg qn;refine SX (v:=.pv (.int ((if p.1.natAbs<p.2.natAbs then p.2.natAbs else p.1.natAbs:Nat):Int))) ?_ jM;refine j8 (qh (zt (qh (zt (qh e0 qw) rfl) (qh (zt (qh e1 qw) rfl) qw)) ?_) qw) (qV (Xa d (i:=(if p.1.natAbs<p.2.natAbs then p.2.natAbs else p.1.natAbs:Nat)) (by split <;> first | exact qr hb | exact qr ha) s));show some (AV.pv (.int (if (p.1.natAbs:Int)<p.2.natAbs then (p.2.natAbs:Int) else p.1.natAbs)),s)=_
  by_cases q:p.1.natAbs<p.2.natAbs
  ·rw[if_pos q,if_pos (yr.mpr q)]
  ·rw[if_neg q,if_neg (λz=>q (yr.mp z))]
theorem qbo(h:qX k 2 m.ks=b):Qq (.pv k.pv) (.ref 4) ⟨gm D pa tl m,st⟩=some b.isSome:=by
 show(zM (.dictT (zi 2 m.ks)) (.pv (.tup k.l))).map _=_;rw[HW (Bn k) (Hf k)]
 show some (zE k.pv (zi 2 m.ks)).isSome=_
 rw[Ye,h];induction b <;> rfl
theorem qak(h:qX k 2 m.ks=some n):wv (.ref 4) (.pv k.pv) ⟨gm D pa tl m,st⟩=some (.pv (.int n)):=by
 show ob (zM (.dictT (zi 2 m.ks)) (.pv (.tup k.l))) id=_;rw[HW (Bn k) (Hf k)]
 show(zE k.pv (zi 2 m.ks))=_
 rw[Ye,h];rfl
theorem KH(h:qX k 2 m.ks=some n):
  qf P (d+2) 21 [.ref 0,.pv k.pv,.pv (jm (ji D k))] ⟨gm D pa tl m,st⟩=some (.pv (.tup [.int n,.bool false]),⟨gm D pa tl m,st⟩):=by
 have h1:=qbo (D:=D) (pa:=pa) (tl:=tl) (st:=st) h;have h2:=qak (D:=D) (pa:=pa) (tl:=tl) (st:=st) h;show qf P (d+1+1) 21 _ _=_
 generalize d+1=k';apply qD f21 rfl rfl rfl
 ·show qy _ c21 _ _=_
  unfold c21;repeat' walk_at "e"
 ·exact rfl
theorem qhg:(Str.ofString "#").length=1:=by decide +kernel
theorem qhG{n:Nat}{s:St}(h:n<1000){R:R AV}(hr:some (AV.pv (yU n),s)=R):(ob (HF [.pv (.str "#"),.pv (.int n)]) λx=>some (AV.pv (.str x),s))=R:=by
 show(ob (if ((Str.ofString "#").length≤1000&&decide ((n:Int).natAbs<10 ^ 10))=true then _ else none) _)=R
 rw[if_pos (by rw[qhg,qN (show(n:Int).natAbs<10 ^ 10 from jp (show n<1000 from h) (by decide))];rfl)];exact hr
theorem KG(h:qX k 2 m.ks=none)(hs:zO (ji D k)=true)(hm:m.ks.length<900):
  qf P (d+3) 21 [.ref 0,.pv k.pv,.pv (jm (ji D k))] ⟨gm D pa tl m,st⟩=some (.pv (.tup [.int (2+m.ks.length:Nat),.bool true]),⟨gm D pa tl ⟨m.ks++[k],m.ts⟩,st⟩):=by
 have hv:(zk D m.ks).length<1000:=by rw[wz];exact q6 (kQ hm 2) (by decide)
 have h1:=qbo (D:=D) (pa:=pa) (tl:=tl) (st:=st) h;have h2:=qak (m:=⟨m.ks++[k],m.ts⟩) (D:=D) (pa:=pa) (tl:=tl) (st:=st) (Qg h);have h3:=HE (d+1) (pa:=pa) (tolds:=jo m.ts) (made:=zi 2 m.ks) (tl:=tl) (st:=st) hv;have h4:=Yi (d+1) (pa:=pa) (tolds:=jo m.ts) (made:=zi 2 m.ks) (tl:=tl) (st:=st) (n:=yU (zk D m.ks).length) (dm:=jm (ji D k)) hv;obtain⟨J1,h5,h6⟩:=qgX (d+1) (s:=⟨gm D pa tl m,st⟩) (dm:=ji D k) (J:=[(13,.ref 0),(50,.pv k.pv),(20,.pv (jm (ji D k))),(49,.pv (.bool true))]) (zp.mp hs).2;have hl:zE k.pv (zi 2 m.ks)=none:=by rw[Ye,h];rfl
 have h7:ye (.dictT (zi 2 m.ks)) (.pv k.pv) (.pv (.int (zk D m.ks).length))=some (.dictT (zi 2 (m.ks++[k]))):=by
  show(if (decide ((zi 2 m.ks).length<jl)&&zN k.l&&decide _)=true then _ else _)=_
  rw[Bn,Hf,qN (gG (by rw[qfq];exact jp hm (by decide))),qfp,←wz D];show some (AObj.dictT (kE k.pv _ (zi 2 m.ks)))=_
  rw[(qfl hl).1]
 have g13:J1.get 13=some (.ref 0):=h6 13 rfl rfl;have g50:J1.get 50=some (.pv k.pv):=h6 50 rfl rfl;have g20:J1.get 20=some (.pv (jm (ji D k))):=h6 20 rfl rfl;have g49:J1.get 49=some (.pv (.bool true)):=h6 49 rfl rfl;have e13:=λC s=>qg (C:=C) (s:=s) g13;have e50:=λC s=>qg (C:=C) (s:=s) g50;have e20:=λC s=>qg (C:=C) (s:=s) g20;have e49:=λC s=>qg (C:=C) (s:=s) g49;show qf P (d+2+1) 21 _ _=_
 apply qD f21 rfl rfl rfl
 ·show qy _ c21 _ _=_
  unfold c21;apply SA
  ·repeat' walk_at "e"
  ·exact rfl
  apply wb
  ·exact rfl
  apply ZP
  ·exact rfl
  ·apply qL
   ·exact wN (zW rfl (qnm hs)) h5
   apply qK;apply qL
   ·apply qgA
    ·apply zo
     ·apply wB;exact e13 _ _;exact rfl
     ·exact rfl
     ·exact rfl
     ·exact rfl
     ·apply qh
      ·apply qlj
       ·apply qh;exact rfl;apply qh
        ·apply zo
         ·apply wB;exact e13 _ _;exact rfl
         ·exact rfl
         ·exact rfl
         ·exact rfl
         ·exact qw
         ·exact qV h3
        ·exact qw
       ·exact qhG hv rfl
      ·apply qh;exact e20 _ _;exact qw
     ·exact qV h4
    ·apply wB;exact e13 _ _;exact rfl
    ·exact e50 _ _
    ·exact rfl
    ·exact rfl
    ·exact h7
   ·exact qK jM
  ·apply qK
   apply SR;apply zT
   ·apply qh
    ·apply qT
     ·apply wB;exact e13 _ _;exact rfl
     ·exact e50 _ _
     ·show wv (.ref 4) (.pv k.pv) ⟨gh pa (zk D m.ks++[.pv (.tup [yU (zk D m.ks).length,jm (ji D k)])]) (jo m.ts) (zi 2 (m.ks++[k])) tl,st⟩=_
      rw[wz,←XR];exact h2
    ·apply qh;exact e49 _ _;exact qw
   ·exact rfl
 ·show some (AV.pv _,(⟨gh pa (zk D m.ks++[.pv (.tup [yU (zk D m.ks).length,jm (ji D k)])]) (jo m.ts) (zi 2 (m.ks++[k])) tl,st⟩:St))=_
  rw[wz,←XR];rfl
end
inductive Arg where
 |sm (s:Sm)
 |int (c:Int)
 |tr (t:Tr)
noncomputable def Arg.pv:Arg→PV
 | .sm s=>s.pv
 | .int c=>.int c
 | .tr t=>t.pv
noncomputable def Tr.sum:Tr→Sm
 | .b v=>⟨[],bif v then 1 else 0⟩
 | .bit n s=>bif s then ⟨[(n,1)],0⟩ else ⟨[(n,-1)],1⟩
noncomputable def Arg.sum:Arg→Sm
 | .sm s=>s
 | .int c=>⟨[],c⟩
 | .tr t=>t.sum
noncomputable def M.post(m:M)(t:Told):M:=⟨m.ks,m.ts++[t]⟩
noncomputable def Sm.lone(s:Sm):Option Nat:=match s.t with
 |[]=>none
 |p::r=>bif r.isEmpty&&(p.2 == 1&&s.c == 0) then some p.1 else none
noncomputable def kK(s:Sm)(n:Nat):Row:=⟨false,s.t.map (·.2)++[-1],s.t.map (·.1)++[n],-s.c⟩
noncomputable def yk(s:Sm)(m:M):M:=bif s.t.isEmpty then ⟨m.ks++[.sum s],m.ts⟩ else ⟨m.ks++[.sum s],m.ts++[.lin (kK s (2+m.ks.length))]⟩
noncomputable def qB(s:Sm)(m:M):Nat×M:=match s.lone with
 |some v=>(v,m)
 |none=>match qX (.sum s) 2 m.ks with
  |some n=>(n,m)
  |none=>(2+m.ks.length,yk s m)
section
variable (d:Nat) {D:Dm×Dm}{pa:AV}{tl:List AObj}{st:Bool}{m:M}{k:Key}
theorem y6(v:Arg)(U:St):qf P (d+2) 16 [.pv v.pv] U=some (.pv v.sum.pv,U):=by
 induction v with
 |sm s=>rfl
 |int c=>rfl
 |tr t=>induction t with
  |b v=>induction v <;> rfl
  |bit n s=>induction s <;> rfl
theorem B6(lo hi:Int)(U:St):qf P (d+1) 0 [.pv (.int lo),.pv (.int hi)] U=some (.pv (jm (xy (lo,hi))),U):=by
 obtain⟨h,st⟩:=U;have hc:jD .le (.pv (.int lo)) (.pv (.int hi)) ⟨h,st⟩=some (decide (lo≤hi)):=rfl;apply qD f0 rfl rfl rfl
 ·show qy _ c0 _ _=_
  unfold c0;apply SR;apply jS;apply qF;exact rfl;exact rfl;exact hc;show _=some (AV.pv (jm (xy (lo,hi))),_)
  unfold xy;by_cases q:lo≤hi
  ·rw[qN q,if_pos q];rfl
  ·rw[zQ q,if_neg q];rfl
 ·exact rfl
theorem QW(h:m.ts.length<900):qf P (d+1) 10 [.ref 1,.pv t.pv] ⟨gm D pa tl m,st⟩=some (.pv .none,⟨gm D pa tl (m.post t),st⟩):=by
 have:=qkA d (pa:=pa) (vars:=zk D m.ks) (tolds:=jo m.ts) (made:=zi 2 m.ks) (tl:=tl) (st:=st) (t:=t.pv) (by rw[vF];exact jp h (by decide));rw[←Km] at this;exact this
theorem qir{v:Arg}{n:Nat}(h:v.sum.lone=some n):qf P (d+3) 23 [.ref 0,.pv v.pv] ⟨gm D pa tl m,st⟩=some (.pv (.int n),⟨gm D pa tl m,st⟩):=by
 have h1:=y6 d v ⟨gm D pa tl m,st⟩;generalize v.sum=s at h h1;obtain⟨t,c⟩:=s;induction t using List.casesOn with
 |nil=>injection h
 |cons p r=>induction r using List.casesOn with
  |cons q r=>injection h
  |nil =>
   cases hb:(p.2 == 1&&c == 0) with
   |false=>exact nomatch (show(bif true&&(p.2 == 1&&c == 0) then some p.1 else none)=some n from h).symm.trans (by rw[hb];rfl:_=none)
   |true =>
    obtain⟨a1,a2⟩:=zp.mp hb;obtain⟨x,a⟩:=p;cases qr a1;cases qr a2
    injection h with h;subst h;show qf P (d+2+1) 23 _ _=_
    generalize d+2=k at h1 ⊢;apply qD f23 rfl rfl rfl
    ·show qy _ DL _ _=_
     unfold DL;repeat' walk_at "e"
    ·exact rfl
noncomputable def G23(v s:PV):Env:=[(13,.ref 0),(29,.pv v),(52,.pv s)]
theorem HS{C:Ctx}{v:PV}{s:Sm}{U:St}(hl:s.lone=none)(h2:s.t.length≤2):
  qt C (G23 v s.pv) (.and (.cons (.cmp .eq (.bi .len (.cons (.sub (.var 52) (.int 1)) .nil)) (.int 1)) (.cons (.cmp .eq (.sub (.sub (.sub (.var 52) (.int 1)) (.int 0)) (.int 1)) (.int 1)) (.cons (.cmp .eq (.sub (.var 52) (.int 2)) (.int 0)) .nil)))) U=some (.pv (.bool false),U):=by
 obtain⟨t,c⟩:=s;rcases Bv h2 with rfl | ⟨⟨x,a⟩,rfl⟩ | ⟨p,q,rfl⟩
 ·exact rfl
 ·have hq:(a == 1&&c == 0)=false:=by
   cases q:(a == 1&&c == 0) with
   |false=>rfl
   |true=>exact nomatch (show(bif true&&(a == 1&&c == 0) then some x else none)=none from hl).symm.trans (by rw[q];rfl:_=some x)
  apply vK;apply j7;exact rfl;apply gw rfl;cases h1:(a == 1) with
  |false =>
   have e1:jD .eq (.pv (.int a)) (.pv (.int 1)) U=some false:=by rw[←h1];rfl
   apply j7;apply qF;exact rfl;exact rfl;exact e1;exact vY rfl
  |true =>
   have e1:jD .eq (.pv (.int a)) (.pv (.int 1)) U=some true:=by rw[←h1];rfl
   rw[h1] at hq;have e2:jD .eq (.pv (.int c)) (.pv (.int 0)) U=some false:=by rw[←show(c == 0)=false from hq];rfl
   apply j7;apply qF;exact rfl;exact rfl;exact e1;apply gw rfl;apply wm;apply qF;exact rfl;exact rfl;exact e2
 ·exact rfl
end
section
variable {d:Nat}{D:Dm×Dm}{pa:AV}{tl:List AObj}{st:Bool}{m:M}
noncomputable def xa(d:Nat)(D:Dm×Dm)(pa:AV)(tl:List AObj)(st:Bool)(m:M)(s:Sm):Prop :=
 qf P d 22 [.ref 0,.pv s.pv] ⟨gm D pa tl m,st⟩=some (.pv (.tup [.int (s.bnds D).1,.int (s.bnds D).2]),⟨gm D pa tl m,st⟩)
theorem qla{v:Arg}{n:Nat}(hl:v.sum.lone=none)(h2:v.sum.t.length≤2)(hb:xa (d+3) D pa tl st m v.sum)(h:qX (.sum v.sum) 2 m.ks=some n):
  qf P (d+4) 23 [.ref 0,.pv v.pv] ⟨gm D pa tl m,st⟩=some (.pv (.int n),⟨gm D pa tl m,st⟩):=by
 have h1:=y6 (d+1) v ⟨gm D pa tl m,st⟩;have h3:=B6 (d+2) (v.sum.bnds D).1 (v.sum.bnds D).2 ⟨gm D pa tl m,st⟩;have h4:=KH (d+1) (D:=D) (pa:=pa) (tl:=tl) (st:=st) h;have h5:=λC=>HS (C:=C) (v:=v.pv) (U:=⟨gm D pa tl m,st⟩) hl h2;unfold xa at hb;show qf P (d+3+1) 23 _ _=_
 generalize d+3=k at h1 hb h3 h4 ⊢;apply qD f23 rfl rfl rfl
 ·show qy _ DL _ _=_
  unfold DL;apply SA
  ·repeat' walk_at "e"
  ·exact rfl
  apply wb;exact h5 _;apply yW;exact rfl;repeat' walk_at "e"
 ·exact rfl
set_option maxHeartbeats 8000000 in
theorem qkZ{v:Arg}(hl:v.sum.lone=none)(h2:v.sum.t.length≤2)(hb:xa (d+3) D pa tl st m v.sum)(h:qX (.sum v.sum) 2 m.ks=none)(hs:zO (ji D (.sum v.sum))=true)(hm:m.ks.length<900)(ht:m.ts.length<900):
  qf P (d+4) 23 [.ref 0,.pv v.pv] ⟨gm D pa tl m,st⟩=some (.pv (.int (2+m.ks.length:Nat)),⟨gm D pa tl (yk v.sum m),st⟩):=by
 have h1:=y6 (d+1) v ⟨gm D pa tl m,st⟩;have h3:=B6 (d+2) (v.sum.bnds D).1 (v.sum.bnds D).2 ⟨gm D pa tl m,st⟩;have h4:=KG d (pa:=pa) (tl:=tl) (st:=st) h hs hm;have h6:=QW (d+2) (D:=D) (pa:=pa) (tl:=tl) (st:=st) (m:=⟨m.ks++[.sum v.sum],m.ts⟩) (t:=.lin (kK v.sum (2+m.ks.length))) ht;have h5:=λC=>HS (C:=C) (v:=v.pv) (U:=⟨gm D pa tl m,st⟩) hl h2;unfold xa at hb;show qf P (d+3+1) 23 _ _=_
 generalize d+3=k at h1 hb h3 h4 h6 ⊢;generalize v.sum=s at *;obtain⟨t,c⟩:=s;rcases t with _ | ⟨p,_ | ⟨q,_ | ⟨r,t⟩⟩⟩;rotate_left 3;exact absurd h2 (by simp)
 all_goals
  apply qD f23 rfl rfl rfl
  ·show qy _ DL _ _=_
   unfold DL;apply SA
   ·repeat' walk_at "e"
   ·exact rfl
   apply wb;exact h5 _;apply yW;exact rfl;repeat' walk_at "e"
  ·exact rfl
theorem qar{v:Arg}(h2:v.sum.t.length≤2)(hb:xa (d+3) D pa tl st m v.sum)(hs:zO (ji D (.sum v.sum))=true)(hm:m.ks.length<900)(ht:m.ts.length<900):
  qf P (d+4) 23 [.ref 0,.pv v.pv] ⟨gm D pa tl m,st⟩=some (.pv (.int (qB v.sum m).1),⟨gm D pa tl (qB v.sum m).2,st⟩):=by
 unfold qB;cases hl:v.sum.lone with
 |some n=>exact qir (d+1) hl
 |none =>
  cases h:qX (.sum v.sum) 2 m.ks with
  |some n=>exact qla hl h2 hb h
  |none=>exact qkZ hl h2 hb h hs hm ht
end
theorem X0{p q:PV}(h:decide (ju q<20)=true):jD .eq (.pv p) (.pv q) U=some (qJ p q):=by
 show(if (decide (ju p<20)||decide (ju q<20))=true then _ else _)=_
 rw[h,Bool.or_true];rfl
theorem qdb{p q:PV}(h:decide (ju q<20)=true):jD .ne (.pv p) (.pv q) U=some (!qJ p q):=qli (X0 h)
noncomputable def YM(cs:List Int):Bool:=zF (qj cs) [.int 1]
noncomputable def qcR(d:Dm):Bool:=qJ (jm d) (jm TR)
noncomputable def Row.v(r:Row):Nat:=r.vs.headD 0
theorem Row.v'1(r:Row): r.v=r.vs.headD 0:=rfl
noncomputable def k8(D:Dm×Dm)(r:Row):Bool:=YM r.cs&&qcR (jt D r.v)
noncomputable def Dy(r:Row)(m:M):M:=⟨m.ks++[.reif r],m.ts++[.reif (2+m.ks.length) r]⟩
noncomputable def zv(D:Dm×Dm)(r:Row)(m:M):Tr×M:=bif k8 D r then (.bit r.v (!r.le&&r.c == 1),m) else match qX (.reif r) 2 m.ks with
 |some n=>(.bit n true,m)
 |none=>(.bit (2+m.ks.length) true,Dy r m)
section
variable {d:Nat}{D:Dm×Dm}{pa:AV}{tl:List AObj}{st:Bool}{m:M}
theorem DX(d:Nat){v:Nat}(h:v<2):qf P (d+1) 12 [.ref 1,.pv (.int v)] ⟨gm D pa tl m,st⟩=some (.pv (jm (jt D v)),⟨gm D pa tl m,st⟩):=by
 rcases YT h with rfl | rfl
 ·exact QG d (i:=0) (by decide) rfl
 ·exact QG d (i:=1) (by decide) rfl
noncomputable def G27(r:Row):Env:=[(13,.ref 0),(22,.pv r.pv),(30,.pv (.str (ww r.le))),(56,.pv (.tup (qj r.cs))),(55,.pv (.tup (jK r.vs))),(60,.pv (.int r.c))]
theorem qkW{k:Nat}{r:Row}{v:Nat}{vs:List Nat}(hv:r.vs=v::vs)(hd:qf P k 12 [.ref 1,.pv (.int v)] ⟨gm D pa tl m,st⟩=some (.pv (jm (jt D v)),⟨gm D pa tl m,st⟩)):
  qt (qH P (qf P k)) (G27 r) (.and (.cons (.cmp .eq (.var 56) (.tup (.cons (.int 1) .nil))) (.cons (.cmp .eq (.meth (.attr (.var 13) 47) 26 (.cons (.sub (.var 55) (.int 0)) .nil)) (.glob 1)) .nil))) ⟨gm D pa tl m,st⟩=some (.pv (.bool (k8 D r)),⟨gm D pa tl m,st⟩):=by
 have e1:=X0 (p:=.tup (qj r.cs)) (q:=.tup [.int 1]) (U:=⟨gm D pa tl m,st⟩) rfl;have e2:=X0 (p:=jm (jt D v)) (q:=jm TR) (U:=⟨gm D pa tl m,st⟩) rfl;have e3:qt (qH P (qf P k)) (G27 r) (.sub (.var 55) (.int 0)) ⟨gm D pa tl m,st⟩=some (.pv (.int v),⟨gm D pa tl m,st⟩):=by
  apply qT;exact rfl;exact rfl;show kf ((jK r.vs).map AV.pv) (.pv (.int 0))=some (.pv (.int v))
  rw[hv];exact gE (n:=0) (by decide) rfl
 show _=some (AV.pv (.bool (YM r.cs&&qcR (jt D (r.vs.headD 0)))),_)
 rw[hv];show _=some (AV.pv (.bool (YM r.cs&&qcR (jt D v))),_)
 have e1':jD .eq (.pv (.tup (qj r.cs))) (.pv (.tup [.int 1])) ⟨gm D pa tl m,st⟩=some (YM r.cs):=e1;apply vK;apply j7;apply qF;exact rfl;exact rfl;exact e1';induction YM r.cs with
 |false=>exact vY rfl
 |true=>apply gw rfl;apply wm;apply qF;apply zo;exact rfl;exact rfl;exact rfl;exact rfl;apply qh;exact e3;exact qw;exact qV hd;exact rfl;exact e2
theorem qjj{r:Row}{v:Nat}{vs:List Nat}(hv:r.vs=v::vs)(h2:v<2)(hm:m.ks.length<900)(ht:m.ts.length<900):
  qf P (d+4) 27 [.ref 0,.pv r.pv] ⟨gm D pa tl m,st⟩=some (.pv (zv D r m).1.pv,⟨gm D pa tl (zv D r m).2,st⟩):=by
 have hc:=qkW (r:=r) hv (DX (D:=D) (pa:=pa) (tl:=tl) (st:=st) (m:=m) (d+2) h2);have hr:r.v=v:=by rw[Row.v,hv];rfl
 have ho:=λn (h:qX (.reif r) 2 m.ks=some n)=>KH (d+1) (D:=D) (pa:=pa) (tl:=tl) (st:=st) h;have hn:=λ(h:qX (.reif r) 2 m.ks=none)=>KG d (D:=D) (pa:=pa) (tl:=tl) (st:=st) h rfl hm;have hp:=QW (d+2) (D:=D) (pa:=pa) (tl:=tl) (st:=st) (m:=⟨m.ks++[.reif r],m.ts⟩) (t:=.reif (2+m.ks.length) r) ht;unfold zv;show qf P (d+3+1) 27 _ _=_
 generalize d+3=k at ho hn hp hc ⊢;cases hd:k8 D r with
 |true =>
  rw[hd] at hc;have e1:qt (qH P (qf P k)) (G27 r) (.cmp .eq (.var 30) (.str "linear_eq")) ⟨gm D pa tl m,st⟩=some (.pv (.bool (!r.le)),⟨gm D pa tl m,st⟩):=by
   apply qF;exact rfl;exact rfl;induction r.le <;> rfl
  have e2:qt (qH P (qf P k)) (G27 r) (.cmp .eq (.var 60) (.int 1)) ⟨gm D pa tl m,st⟩=some (.pv (.bool (r.c == 1)),⟨gm D pa tl m,st⟩):=by
   apply qF;exact rfl;exact rfl;exact rfl
  have e3:qt (qH P (qf P k)) (G27 r) (.sub (.var 55) (.int 0)) ⟨gm D pa tl m,st⟩=some (.pv (.int v),⟨gm D pa tl m,st⟩):=by
   apply qT;exact rfl;exact rfl;show kf ((jK r.vs).map AV.pv) (.pv (.int 0))=some (.pv (.int v))
   rw[hv];exact gE (n:=0) (by decide) rfl
  show _=some (AV.pv (.tup [.str "bit", .int r.v,.bool (!r.le&&r.c == 1)]),_)
  rw[hr];apply qD f27 rfl rfl rfl
  ·show qy _ DN _ _=_
   unfold DN;apply SA;exact rfl;exact rfl;apply wb;exact hc;apply ZP;exact rfl
   ·apply SR;apply zT
    ·apply qh;exact rfl;apply qh;exact e3;apply qh
     ·show _=some (AV.pv (.bool (!r.le&&r.c == 1)),_)
      apply vK;apply j7;exact e1;induction r.le with
      |true=>exact vY rfl
      |false=>apply gw rfl;exact wm e2
     ·exact qw
    ·exact rfl
   ·exact v9
  ·exact rfl
 |false =>
  rw[hd] at hc;cases hf:qX (.reif r) 2 m.ks with
  |some n =>
   have ho:=ho n hf;apply qD f27 rfl rfl rfl
   ·show qy _ DN _ _=_
    unfold DN;apply SA;exact rfl;exact rfl;apply wb;exact hc;apply yW;exact rfl;repeat' walk_at "e"
   ·exact rfl
  |none =>
   have hn:=hn hf;apply qD f27 rfl rfl rfl
   ·show qy _ DN _ _=_
    unfold DN;apply SA;exact rfl;exact rfl;apply wb;exact hc;apply yW;exact rfl;repeat' walk_at "e"
   ·exact rfl
end
end Mine.L1
namespace Mine
theorem qfQ:∀l:List PV,wO (l.map .pv)=some l:=by
 intro l;induction l with
 |nil =>
  exact rfl
 |cons a r ih =>
  show(wO (r.map .pv)).map (a::·)=_;rw[ih];rfl
theorem wi(l:List PV):mkLst (l.map .pv) = .pv (.lst l):=by show(match wO (l.map .pv) with | some ps=>AV.pv (.lst ps) | none=>.lstR (l.map .pv))=_;rw[qfQ]
theorem BH(l:List PV):mkTup (l.map .pv) = .pv (.tup l):=by show(match wO (l.map .pv) with | some ps=>AV.pv (.tup ps) | none=>.tupR (l.map .pv))=_;rw[qfQ]
theorem Yy(h:l.length≤jl):yf .tuple [.pv (.lst l)] s=some (.pv (.tup l),s):=by
 show(if (l.map AV.pv).length≤jl then some (mkTup (l.map AV.pv),s) else none)=_
 rw[if_pos (by rw[qE];exact h),BH]
theorem kH(h:l.length≤jl):wo (.pv (.tup l)) s=some ⟨l.map .pv,[]⟩:=if_pos (by rw[qE];exact h)
namespace L1
noncomputable def Row.turn(r:Row):Row:=⟨r.le,r.cs.map (- ·),r.vs,-r.c⟩
theorem qhD:∀cs:List Int,vB C J (.nm 39) .nil (.elt (.neg (.var 39))) [] ((qj cs).map .pv) s=some ((qj (cs.map (- ·))).map .pv,s):=by
 intro cs;induction cs with
 |nil =>
  exact rfl
 |cons a r ih =>
  exact jh (ys:=[.pv (.int (-a))]) rfl rfl (wD rfl (wU (KQ (qg qn)))) rfl (ih)
section
variable {d:Nat}{D:Dm×Dm}{pa:AV}{tl:List AObj}{st:Bool}{m m':M}
noncomputable def G26(r:Row)(v:PV):Env:=[(13,.ref 0),(30,.pv (.str (ww r.le))),(29,.pv v),(22,.pv r.pv),(56,.pv (.tup (qj r.cs))),(55,.pv (.tup (jK r.vs))),(60,.pv (.int r.c))]
theorem qkJ(h:r.cs.length≤jl):qt C (G26 r v) (.bi .tuple (.cons (.comp [39] (.cons (.nm 39) (.it (.var 56)) .nil (.elt (.neg (.var 39))))) .nil)) s=some (.pv (.tup (qj r.turn.cs)),s):=by
 have hl:(qj r.cs).length≤jl:=by rw[qj,qE];exact h
 have hl':(qj r.turn.cs).length≤jl:=by rw[qj,qE,Row.turn,qE];exact h
 apply zt
 ·apply qh
  ·apply wa
   ·apply zK;apply zW;exact rfl;exact kH hl;exact rfl;exact qhD r.cs
   ·exact qN (by rw[qE];exact hl')
   ·exact wi _
  ·exact qw
 ·exact Yy hl'
theorem qfY{r:Row}{a:Int}{cs:List Int}{v:PV}{t:Tr}(hc:r.cs=a::cs)(hl:r.cs.length≤jl)(hrow:qf P d 25 [.ref 0,.pv (.str (ww r.le)),.pv v] ⟨gm D pa tl m,st⟩=some (.pv r.pv,⟨gm D pa tl m,st⟩))(ha:(0<a∧qf P d 27 [.ref 0,.pv r.pv] ⟨gm D pa tl m,st⟩=some (.pv t.pv,⟨gm D pa tl m',st⟩))∨(a<0∧r.le=false∧qf P d 27 [.ref 0,.pv r.turn.pv] ⟨gm D pa tl m,st⟩=some (.pv t.pv,⟨gm D pa tl m',st⟩))):
  qf P (d+1) 26 [.ref 0,.pv (.str (ww r.le)),.pv v] ⟨gm D pa tl m,st⟩=some (.pv t.pv,⟨gm D pa tl m',st⟩):=by
 have ht:=λC=>qkJ (C:=C) (v:=v) (s:=⟨gm D pa tl m,st⟩) hl;have eh:∀s,wv (.pv (.tup (qj r.cs))) (.pv (.int 0)) s=some (.pv (.int a)):=λs=>by
  show kf ((qj r.cs).map AV.pv) (.pv (.int 0))=some (.pv (.int a));rw[hc];exact gE (n:=0) (by decide) rfl
 have e1:∀s,jD .eq (.pv (.str (ww r.le))) (.pv (.str "linear_ne")) s=some false:=λs=>by induction r.le <;> rfl
 have e2:∀s,jD .eq (.pv (.str (ww r.le))) (.pv (.str "linear_le")) s=some r.le:=λs=>by induction r.le <;> rfl
 apply qD f26 rfl rfl rfl
 ·show qy _ DM _ _=_
  unfold DM;apply SA;apply zo;exact rfl;exact rfl;exact rfl;exact rfl;exact rfl;exact qV hrow;exact rfl;apply wb;exact rfl;apply yW;exact rfl;apply SA;exact rfl;exact rfl;apply wb;apply qF;exact rfl;exact rfl;exact e1 _;apply yW;exact rfl;apply SA;exact ht _;exact rfl;apply wb (c:=false)
  ·apply vK;apply j7;apply qF;apply qT;exact rfl;exact rfl;exact eh _;exact rfl;exact rfl
   rcases ha with⟨h,_⟩ | ⟨h,hl,_⟩
   ·exact vY (zQ (Int.not_lt.mpr (we h)))
   ·apply gw (qN h);apply wm;apply qF;exact rfl;exact rfl;rw[←hl];exact e2 _
  apply yW;exact rfl;apply SR (v:=.pv t.pv) (s1:=⟨gm D pa tl m',st⟩);rcases ha with⟨h,hh⟩ | ⟨h,hl,hh⟩
  ·apply zo;exact rfl;exact rfl;exact rfl;exact rfl
   ·apply qh
    ·apply jS;apply qF;apply qT;exact rfl;exact rfl;exact eh _;exact rfl;exact rfl;apply vw (qN h);exact rfl
    ·exact qw
   ·exact qV hh
  ·apply zo;exact rfl;exact rfl;exact rfl;exact rfl
   ·apply qh
    ·apply jS;apply qF;apply qT;exact rfl;exact rfl;exact eh _;exact rfl;exact rfl;apply yZ (zQ (Int.not_lt.mpr (we h)));exact rfl
    ·exact qw
   ·exact qV hh
 ·exact rfl
theorem qbX(hrow:qf P d 25 [.ref 0,.pv k,.pv v] ⟨gm D pa tl m,st⟩=some (.pv (.bool b),⟨gm D pa tl m,st⟩)):
  qf P (d+1) 26 [.ref 0,.pv k,.pv v] ⟨gm D pa tl m,st⟩=some (.pv (.bool b),⟨gm D pa tl m,st⟩):=by
 apply qD f26 rfl rfl rfl
 ·show qy _ DM _ _=_
  unfold DM;repeat' walk_at "e"
 ·exact rfl
theorem qnX{cs:List Int}{vs:List Nat}{c:Int}{v:PV}{t:Tr}(hrow:qf P d 25 [.ref 0,.pv (.str "linear_ne"),.pv v] ⟨gm D pa tl m,st⟩=some (.pv (.tup [.str "linear_ne", .tup (qj cs),.tup (jK vs),.int c]),⟨gm D pa tl m,st⟩))(he:qf P d 26 [.ref 0,.pv (.str "linear_eq"),.pv v] ⟨gm D pa tl m,st⟩=some (.pv t.pv,⟨gm D pa tl m',st⟩))(hc:qf P d 18 [.pv t.pv] ⟨gm D pa tl m',st⟩=some (.pv t.con.pv,⟨gm D pa tl m',st⟩)):
  qf P (d+1) 26 [.ref 0,.pv (.str "linear_ne"),.pv v] ⟨gm D pa tl m,st⟩=some (.pv t.con.pv,⟨gm D pa tl m',st⟩):=by
 apply qD f26 rfl rfl rfl
 ·show qy _ DM _ _=_
  unfold DM;repeat' walk_at "e"
 ·exact rfl
end
end L1
end Mine
namespace Mine.L1
noncomputable def yD(t:Tr)(m:M):M:=match t with
 | .b _=>m
 | .bit n s=>m.post (.cl n s)
section
variable {d:Nat}{D:Dm×Dm}{pa:AV}{tl:List AObj}{st:Bool}{m m':M}
theorem qno:yf .sortedSet [.pv (.lst [])] s=some (.pv (.lst []),s):=rfl
theorem qnp{n:Nat}{s:St}(h':n<32):yf .sortedSet [.pv (.lst [.int n])] s=some (.pv (.lst [.int n]),s):=by
 show ob (if (true&&((decide (0≤(n:Int))&&decide ((n:Int)<32))&&true))=true then some [(n:Int)] else none) _=_
 rw[qN (Int.natCast_nonneg n),qN (show(n:Int)<32 from yr.mpr h')];rfl
theorem qid:yf .sorted [.pv (.lst [(Tr.bit n b).pv])] s=some (.pv (.lst [(Tr.bit n b).pv]),s):=rfl
theorem qny:vQ (Tr.bit n b).con.pv [(Tr.bit n b).pv]=false:=qgD (qjt (n:=n) (t:=b)) rfl
theorem qoc:jD .inn (.pv (Tr.bit n b).con.pv) (.pv (.lst [(Tr.bit n b).pv])) s=some false :=
 show some (vQ (Tr.bit n b).con.pv [(Tr.bit n b).pv])=_ from qz some qny
set_option maxHeartbeats 2000000 in
theorem qkE{n:Nat}{b:Bool}(h:n<32)(ht:m.ts.length<900):qf P (d+2) 29 [.ref 0,.pv (.lst [(Tr.bit n b).pv])] ⟨gm D pa tl m,st⟩=some (.pv .none,⟨gm D pa tl (yD (.bit n b) m),st⟩):=by
 have h1:=DU d (.bit n b) ⟨gm D pa tl m,st⟩;have h2:=qoc (n:=n) (b:=b) (s:=⟨gm D pa tl m,st⟩);have h3:=qnp (s:=⟨gm D pa tl m,st⟩) h;have h4:=qno (s:=⟨gm D pa tl m,st⟩);have h5:=qid (n:=n) (b:=b) (s:=⟨gm D pa tl m,st⟩);have h6:=QW d (D:=D) (pa:=pa) (tl:=tl) (st:=st) (m:=m) (t:=.cl n b) ht;show qf P (d+1+1) 29 _ _=_
 generalize d+1=k at h1 h6 ⊢;induction b
 all_goals
  apply qD f29 rfl rfl rfl
  ·show qy _ c29 _ _=_
   unfold c29;apply wb (c:=false)
   ·apply kW;apply j7;exact rfl;apply y8 rfl;apply wm
    apply qF (w:=.pv (.lst [])) (v:=.pv (.lst []))
    ·apply wa (vs:=[])
     ·apply zK;apply zW;exact rfl;exact rfl;exact rfl
      apply jh (ys:=[]) (zs:=[])
      ·exact rfl
      ·apply zu
       ·apply vK;apply j7;exact rfl;apply gw rfl;apply wm;apply qF;apply j8;exact rfl;exact qV h1;exact rfl;exact h2
       ·exact Ko rfl
      ·exact Zi rfl
      ·exact rfl
      ·exact rfl
     ·exact rfl
     ·exact rfl
    ·exact rfl
    ·exact rfl
   apply yW;exact rfl;apply SA;apply zt;exact rfl;exact h5;exact rfl;repeat' walk_at "e"
  ·exact rfl
theorem qhS(U:St):qf P (d+2) 29 [.ref 0,.pv (.lst [.bool true])] U=some (.pv .none,U):=by
 obtain⟨h,st⟩:=U;apply qD f29 rfl rfl rfl
 ·show qy _ c29 _ _=_
  unfold c29;repeat' walk_at "e"
 ·exact rfl
end
noncomputable def wF(D:Dm×Dm)(ks:List Key):Tr→Prop
 | .b _=>True
 | .bit n _=>jt D n=TR∧n<900∧∃nm,(zk D ks)[n]? = some (.pv (.tup [nm,jm TR]))
theorem wF.con{D:Dm×Dm}(h:wF D ks t):wF D ks t.con:=by
 induction t with
 |b _=>trivial
 |bit n s=>exact h
theorem qdd(D:Dm×Dm)(more:List Key):∀(ks:List Key) (n:Nat),∃l,kB D n (ks++more)=kB D n ks++l:=by
 intro ks;induction ks with
 |nil =>
  intro n;exact⟨_,rfl⟩
 |cons k r ih =>
  intro n;exact by obtain⟨l,h⟩:=ih (n+1);exact⟨l,qz (_::·) h⟩
theorem qgs{D:Dm×Dm}{ks more:List Key}{n:Nat}{x:AV}(h:(zk D ks)[n]? = some x):(zk D (ks++more))[n]? = some x:=by
 obtain⟨l,e⟩:=qdd D more ks 2;rw[zk,e];show(zk D ks++l)[n]? = _
 rw[wK (jL.mp h).1];exact h
theorem wF.more{D:Dm×Dm}{ks more:List Key}{t:Tr}(h:wF D ks t):wF D (ks++more) t:=by
 induction t with
 |b _=>trivial
 |bit n s=>obtain⟨a,b,nm,c⟩:=h;exact⟨a,b,nm,qgs c⟩
section
variable {d:Nat}{D:Dm×Dm}{pa:AV}{tl:List AObj}{st:Bool}{m m':M}
theorem qeh(h:wF D m.ks t):xa (d+3) D pa tl st m t.sum:=by
 induction t with
 |b v=>induction v <;> rfl
 |bit n s =>
  obtain⟨h1,h2,nm,h3⟩:=h;have hd:=QG (d+1) (pa:=pa) (tolds:=jo m.ts) (made:=zi 2 m.ks) (tl:=tl) (st:=st) (jp h2 (by decide)) h3;have h1:qf P (d+2) 12 [.ref 1,.pv (.int n)] ⟨gm D pa tl m,st⟩=some (.pv (jm TR),⟨gm D pa tl m,st⟩):=hd;unfold xa;induction s
  all_goals
   simp only[*,Tr.sum,cond_true,cond_false,Sm.bnds,KZ,K1];apply qD f22 rfl rfl rfl
   ·show qy _ c22 _ _=_
    unfold c22;apply SA;exact rfl;exact rfl;apply SA;exact rfl;exact rfl;apply qL;apply wN;exact rfl;apply zJ;exact rfl
    ·repeat' walk_at "e"
    ·apply zn;exact rfl;exact Zg
    apply qK;exact rfl
   ·exact rfl
theorem KN(h:wF D m.ks t):zO (ji D (.sum t.sum))=true:=by
 induction t with
 |b v=>induction v <;> rfl
 |bit n s =>
  obtain⟨h1,_⟩:=h;induction s <;> simp only[Tr.sum,cond_true,cond_false,ji,Sm.bnds,KZ,K1,h1] <;> rfl
theorem qap(t:Tr):t.sum.t.length≤2:=by
 induction t with
 |b v=>induction v <;> decide
 |bit n s=>induction s <;> exact jG rfl
theorem Qm(s:Sm)(m:M):(yk s m).ks=m.ks++[.sum s]:=by unfold yk;induction s.t.isEmpty <;> rfl
theorem qgr(s:Sm)(m:M):(yk s m).ts.length≤m.ts.length+1:=by
 unfold yk;induction s.t.isEmpty with
 |true=>exact wt _
 |false=>exact jR (qU ..)
noncomputable def Gr(m m':M)(n:Nat):Prop:=(∃more,m'.ks=m.ks++more∧more.length≤n)∧m'.ts.length≤m.ts.length+n
theorem Gr.refl(m:M):Gr m m 0:=⟨⟨[],(zR _).symm,qW _⟩,qW _⟩
theorem Gr.trans(h:Gr m m' n)(g:Gr m' m'' k):Gr m m'' (n+k):=by
 obtain⟨⟨a,h1,h2⟩,h3⟩:=h;obtain⟨⟨b,g1,g2⟩,g3⟩:=g;exact⟨⟨a++b,by rw[g1,h1,wj],by rw[qU];exact yt h2 g2⟩,qu g3 (by rw[←jQ];exact yn h3 k)⟩
theorem Gr.le(h:Gr m m' n)(hk:n≤k):Gr m m' k:=⟨by obtain⟨a,b,c⟩:=h.1;exact⟨a,b,qu c hk⟩,qu h.2 (j3 hk _)⟩
theorem Gr.post(m:M)(t:Told):Gr m (m.post t) 1:=⟨⟨[],(zR _).symm,j4 _⟩,jR (qU ..)⟩
theorem wf(s:Sm)(m:M):Gr m (qB s m).2 1:=by
 unfold qB;induction s.lone with
 |some n=>exact(Gr.refl m).le (by decide)
 |none=>induction qX (.sum s) 2 m.ks with
  |some n=>exact(Gr.refl m).le (by decide)
  |none=>exact⟨⟨[.sum s],Qm ..,qW _⟩,qgr ..⟩
noncomputable def Lt(m:M)(n:Nat):Prop:=m.ks.length+n<900∧m.ts.length+n<900
theorem Lt.size(h:Lt m (n+2)):m.size<900:=qP (qu (jR (jH 2 _)) (j3 (Nat.le_add_left 2 n) _)) h.1
theorem XN(h:k<2):¬ 2+j=k:=λe=>absurd (e▸qS 2 j) (Nat.not_le_of_lt h)
theorem vE(n:Nat):1+(1+n)=2+n:=(jQ 1 1 n).symm
theorem qgp(n:Nat):2≤1+(1+n):=vE n▸qS 2 n
theorem Gr.lt(h:Gr m m' n)(l:Lt m (n+k)):Lt m' k:=by
 obtain⟨⟨a,h1,h2⟩,h3⟩:=h;exact⟨qP (by rw[h1,qU,←jQ];exact yn (j3 h2 _) k) l.1,qP (by rw[←jQ];exact yn h3 k) l.2⟩
theorem Lt.le(h:Lt m n)(l:k≤n):Lt m k:=⟨qP (j3 l _) h.1,qP (j3 l _) h.2⟩
theorem Lt.ks(h:Lt m n):m.ks.length<900:=qP (qS ..) h.1
theorem Lt.ts(h:Lt m n):m.ts.length<900:=qP (qS ..) h.2
noncomputable def xf(cs:List Int)(vs:List Nat)(c:Int):Row:=⟨false,cs,vs,c⟩
noncomputable def wn(k:Key)(m:M):M:=⟨m.ks++[k],m.ts⟩
noncomputable def xV(y n:Nat)(t:Tr)(m1:M):M:=(qB t.sum m1).2.post (.imp (qB t.sum m1).1 (xf [1,-1] [n,y] 0))
noncomputable def sd3(n:Nat)(t:Tr)(dm:Dm)(m2:M):M:=(qB t.con.sum m2).2.post (.imp (qB t.con.sum m2).1 (xf [1] [n] (qM dm)))
noncomputable def y5(y:Nat)(t:Tr)(dm:Dm)(m:M):M:=sd3 (2+m.ks.length) t dm (xV y (2+m.ks.length) t (wn (.stand y t dm) m))
noncomputable def jA(y:Nat)(t:Tr)(dm:Dm)(m:M):Nat×M:=match qX (.stand y t dm) 2 m.ks with
 |some n=>(n,m)
 |none=>(2+m.ks.length,y5 y t dm m)
theorem qgb(k:Key)(m:M):Gr m (wn k m) 1:=⟨⟨[k],rfl,qW _⟩,wt _⟩
theorem Q0(y n:Nat)(t:Tr)(m:M):Gr m (xV y n t m) 2:=(wf _ _).trans (Gr.post _ _)
theorem XH(n:Nat)(t:Tr)(dm:Dm)(m:M):Gr m (sd3 n t dm m) 2:=(wf _ _).trans (Gr.post _ _)
theorem Bx(d:Nat)(p:Int×Int)(r:Dm)(U:St):qf P (d+1) 1 [.pv (jm (p::r))] U=some (.pv (.int p.1),U):=by
 obtain⟨h,st⟩:=U;have e:∀s,wv (.pv (jm (p::r))) (.pv (.int 0)) s=some (.pv (yH p)):=λs=>gE (n:=0) (l:=((p::r).map yH).map AV.pv) (by decide) rfl;apply qD f1 rfl rfl rfl
 ·show qy _ c1 _ _=_
  unfold c1;apply SR;apply qT;apply qT;exact rfl;exact rfl;exact e _;exact rfl;exact rfl
 ·exact rfl
theorem qai{y:Nat}{t:Tr}{dm:Dm}(h:wF D m.ks t)(hs:zO dm=true)(hne:dm≠[])(hl:Lt m 5):
  qf P (d+5) 35 [.ref 0,.pv (.int y),.pv t.pv,.pv (jm dm)] ⟨gm D pa tl m,st⟩=some (.pv (.int (jA y t dm m).1),⟨gm D pa tl (jA y t dm m).2,st⟩):=by
 unfold jA;cases hf:qX (.stand y t dm) 2 m.ks with
 |some n =>
  have ho:=KH (d+2) (D:=D) (pa:=pa) (tl:=tl) (st:=st) hf;show qf P (d+4+1) 35 _ _=_
  generalize d+4=k at ho ⊢;apply qD f35 rfl rfl rfl
  ·show qy _ c35 _ _=_
   unfold c35;repeat' walk_at "e"
  ·exact rfl
 |none =>
  have g1:=qgb (.stand y t dm) m;have g2:=Q0 y (2+m.ks.length) t (wn (.stand y t dm) m);have l1:Lt (wn (.stand y t dm) m) 4:=g1.lt hl;have l2:=g2.lt (k:=2) l1;have a1:wF D (wn (.stand y t dm) m).ks t:=h.more;have a2:wF D (xV y (2+m.ks.length) t (wn (.stand y t dm) m)).ks t.con:=by obtain⟨⟨l,e,_⟩,_⟩:=g2;rw[e];exact a1.con.more
  have ho:=KG (d+1) (D:=D) (pa:=pa) (tl:=tl) (st:=st) hf hs hl.ks;have v1:=qar (d:=d) (v:=.tr t) (pa:=pa) (tl:=tl) (st:=st) (qap t) (qeh a1) (KN a1) l1.ks l1.ts;have p1:=QW (d+3) (D:=D) (pa:=pa) (tl:=tl) (st:=st) (t:=.imp (qB t.sum (wn (.stand y t dm) m)).1 (xf [1,-1] [2+m.ks.length,y] 0)) ((wf t.sum _).lt (k:=3) l1).ts;have cc:=DU (d+3) t ⟨gm D pa tl (xV y (2+m.ks.length) t (wn (.stand y t dm) m)),st⟩;have v2:=qar (d:=d) (v:=.tr t.con) (pa:=pa) (tl:=tl) (st:=st) (qap t.con) (qeh a2) (KN a2) l2.ks l2.ts;have ll:qf P (d+4) 1 [.pv (jm dm)] ⟨gm D pa tl (qB t.con.sum (xV y (2+m.ks.length) t (wn (.stand y t dm) m))).2,st⟩=some (.pv (.int (qM dm)),⟨gm D pa tl (qB t.con.sum (xV y (2+m.ks.length) t (wn (.stand y t dm) m))).2,st⟩):=by
   induction dm using List.casesOn with
   |nil=>exact absurd rfl hne
   |cons p r=>exact Bx (d+3) p r _
  have p2:=QW (d+3) (D:=D) (pa:=pa) (tl:=tl) (st:=st) (t:=.imp (qB t.con.sum (xV y (2+m.ks.length) t (wn (.stand y t dm) m))).1 (xf [1] [2+m.ks.length] (qM dm))) ((wf t.con.sum _).lt (k:=1) l2).ts;show qf P (d+4+1) 35 _ _=_
  generalize d+4=k at ho v1 p1 cc v2 ll p2 ⊢;apply qD f35 rfl rfl rfl
  ·show qy _ c35 _ _=_
   unfold c35;repeat' walk_at "e"
  ·exact rfl
end
noncomputable def ja(a:Int):Prop:=a.natAbs<1000
theorem qca(h:ja a):vT a=true:=qN (jp h (by decide +kernel))
theorem wI(ha:ja a)(hb:ja b):kj .mul m (.pv (.int a)) (.pv (.int b)) s=some (.pv (.int (a * b)),s):=by
 show ob (if (vT a&&vT b)=true then some (a * b) else none) _=_
 rw[qca ha,qca hb];rfl
noncomputable def gV(d:Dm):Prop:=d≠[]∧ja (qM d)∧ja (je d)
theorem D8(p:Int×Int):∀r:Dm,(p::r)[r.length]? = some (r.getLastD p)
 |[]=>rfl
 |q::r=>by show(q::r)[r.length]? = _;rw[D8 q r,List.getLastD_cons]
section
variable (d:Nat) {D:Dm×Dm}{pa:AV}{tl:List AObj}{st:Bool}{m m':M}
theorem qke(h:dm≠[])(U:St):qf P (d+1) 1 [.pv (jm dm)] U=some (.pv (.int (qM dm)),U):=by
 induction dm using List.casesOn with
 |nil=>exact absurd rfl h
 |cons p r=>exact Bx d p r U
theorem qjQ(h:dm≠[])(U:St):qf P (d+1) 2 [.pv (jm dm)] U=some (.pv (.int (je dm)),U):=by
 induction dm using List.casesOn with
 |nil=>exact absurd rfl h
 |cons p r =>
  obtain⟨h,st⟩:=U;have e:∀s,wv (.pv (jm (p::r))) (.pv (.int (-1))) s=some (.pv (yH (r.getLastD p))):=λs=>by
   show ob (ZD (-1) (((p::r).map yH).map AV.pv).length) (λj=>(((p::r).map yH).map AV.pv)[j]?)=_
   have hl:(((p::r).map yH).map AV.pv).length=r.length+1:=by rw[qE,qE];rfl
   have h0:(-1:Int)+((r.length+1:Nat):Int)=(r.length:Int):=by rw[Int.natCast_add,Int.add_comm,Int.add_assoc];exact Int.add_zero _
   rw[hl];unfold ZD;rw[if_neg (by decide),h0,if_pos (Int.natCast_nonneg _)];show(((p::r).map yH).map AV.pv)[r.length]? = _
   rw[kO,kO,D8];rfl
  apply qD f2 rfl rfl rfl
  ·show qy _ c2 _ _=_
   unfold c2;apply SR;apply qT;apply qT;exact rfl;exact KQ rfl;exact e _;exact rfl;exact rfl
  ·exact rfl
theorem qgK(hD1:gV D.1)(hD2:gV D.2):∀{t:List (Nat×Int)}{lo hi:Int}{J:Env},(∀p∈t,p.1<2∧ja p.2)→J.get 13=some (.ref 0)→J.get 0=some (.pv (.int lo))→J.get 1=some (.pv (.int hi)) →
  ∃J',jw [] (λx J s=>ob (jC (.tup (.cons (.nm 25) (.cons (.nm 39) .nil))) x J) λJ'=>qy (qH P (qf P (d+2))) (.cons (.assign (.nm 53) (.tup (.cons (.bin .mul false (.var 39) (.call 1 (.cons (.meth (.attr (.var 13) 47) 26 (.cons (.var 25) .nil)) .nil))) (.cons (.bin .mul false (.var 39) (.call 2 (.cons (.meth (.attr (.var 13) 47) 26 (.cons (.var 25) .nil)) .nil))) .nil))))
  (.cons (.assign (.tup (.cons (.nm 0) (.cons (.nm 1) .nil))) (.tup (.cons (.bin .add false (.var 0) (.bi .min1 (.cons (.var 53) .nil))) (.cons (.bin .add false (.var 1) (.bi .max1 (.cons (.var 53) .nil))) .nil))))
  .nil)) J' s) ((t.map Qk).map .pv) J ⟨gm D pa tl m,st⟩=some ((.next,J'),⟨gm D pa tl m,st⟩)∧J'.get 0=some (.pv (.int (bnds D t (lo,hi)).1))∧J'.get 1=some (.pv (.int (bnds D t (lo,hi)).2)):=by
 intro t;induction t with
 |nil =>
  intro lo hi J _ _ h0 h1;exact⟨J,rfl,h0,h1⟩
 |cons hdq r ih =>
  intro lo hi J h h13 h0 h1;obtain⟨x,a⟩:=hdq;obtain⟨hx,ha⟩:=h (x,a) (qY ..);have hd:=DX (D:=D) (pa:=pa) (tl:=tl) (st:=st) (m:=m) (d+1) hx;have hok:gV (jt D x):=by match x,hx with
   |0,_=>exact hD1
   |1,_=>exact hD2
  obtain⟨hne,hl,hg⟩:=hok;obtain⟨J',e,g0,g1⟩:=ih (lo:=lo+(if a * je (jt D x)<a * qM (jt D x) then a * je (jt D x) else a * qM (jt D x))) (hi:=hi+(if a * qM (jt D x)<a * je (jt D x) then a * je (jt D x) else a * qM (jt D x)))
   (J:=(((((J.put 25 (.pv (.int x))).put 39 (.pv (.int a))).put 53 (.pv (.tup [.int (a * qM (jt D x)),.int (a * je (jt D x))]))).put 0 (.pv (.int (lo+(if a * je (jt D x)<a * qM (jt D x) then a * je (jt D x) else a * qM (jt D x)))))).put 1 (.pv (.int (hi+(if a * qM (jt D x)<a * je (jt D x) then a * je (jt D x) else a * qM (jt D x)))))))
   (λp hp=>h p (jg _ hp)) (qd rfl (qd rfl (qd rfl (qd rfl (qd rfl h13))))) (qd rfl qn) qn
  refine⟨J',?_,g0,g1⟩;have e13:∀C s,qt C ((J.put 25 (.pv (.int x))).put 39 (.pv (.int a))) (.attr (.var 13) 47) ⟨gm D pa tl m,s⟩=some (.ref 1,⟨gm D pa tl m,s⟩):=λC s=>wB (qg (qd rfl (qd rfl h13))) rfl;have e25:∀C s,qt C ((J.put 25 (.pv (.int x))).put 39 (.pv (.int a))) (.var 25) s=some (.pv (.int x),s):=λC s=>qg (qd rfl qn);have e39:∀C s,qt C ((J.put 25 (.pv (.int x))).put 39 (.pv (.int a))) (.var 39) s=some (.pv (.int a),s):=λC s=>qg qn;refine zJ (s1:=⟨gm D pa tl m,st⟩) (fl:=(.next,_)) rfl ?_ (zn rfl e);apply SA
  ·apply zT
   ·apply qh
    ·apply q8;exact e39 _ _;apply j8;apply qh;apply zo;exact e13 _ _;exact rfl;exact rfl;exact rfl;apply qh;exact e25 _ _;exact qw;exact qV hd;exact qw;exact qV (qke (d+1) hne _);exact wI ha hl
    ·apply qh
     ·apply q8;exact e39 _ _;apply j8;apply qh;apply zo;exact e13 _ _;exact rfl;exact rfl;exact rfl;apply qh;exact e25 _ _;exact qw;exact qV hd;exact qw;exact qV (qjQ (d+1) hne _);exact wI ha hg
     ·exact qw
   ·exact rfl
  ·exact rfl
  apply SA
  ·apply zT
   ·apply qh
    ·apply q8;exact qg (qd rfl (qd rfl (qd rfl h0)));apply zt;apply qh;exact qg qn;exact qw;exact rfl;exact rfl
    ·apply qh
     ·apply q8;exact qg (qd rfl (qd rfl (qd rfl h1)));apply zt;apply qh;exact qg qn;exact qw;exact rfl;exact rfl
     ·exact qw
   ·exact rfl
  ·exact rfl
  exact jM
theorem XY{s:Sm}(hD1:gV D.1)(hD2:gV D.2)(h:∀p∈s.t,p.1<2∧ja p.2)(h2:s.t.length≤2){v:Arg}(hv:v.sum=s):qf P (d+3) 22 [.ref 0,.pv v.pv] ⟨gm D pa tl m,st⟩=some (.pv (.tup [.int (s.bnds D).1,.int (s.bnds D).2]),⟨gm D pa tl m,st⟩):=by
 have h1:=y6 d v ⟨gm D pa tl m,st⟩;rw[hv] at h1;obtain⟨J',e,g0,g1⟩:=qgK d (pa:=pa) (tl:=tl) (st:=st) (m:=m) hD1 hD2 (t:=s.t) (lo:=s.c) (hi:=s.c) (J:=[(13,.ref 0),(29,.pv v.pv),(52,.pv s.pv),(0,.pv (.int s.c)),(1,.pv (.int s.c))]) h rfl rfl rfl;show qf P (d+2+1) 22 _ _=_
 apply qD f22 rfl rfl rfl
 ·show qy _ c22 _ _=_
  unfold c22;apply SA;apply j8;exact rfl;exact qV h1;exact rfl;apply SA;exact rfl;exact rfl;apply qL;apply wN;apply zW;exact rfl;exact kH (l:=s.t.map Qk) (by rw[qE];exact qu h2 (by decide));exact e;apply qK;apply SR;apply zT;apply qh;exact qg g0;apply qh;exact qg g1;exact qw;exact rfl
 ·exact rfl
end
noncomputable def qcY{α β:Type}(f:α→β):List α→List β
 |[]=>[]
 |a::r=>f a::qcY f r
noncomputable def qcZ{α β:Type}(f:α→β):List α→List β
 |[]=>[]
 |a::r=>f a::qcZ f r
theorem Hq{α β:Type}{f g:α→β}:∀{l:List α},qcY f l=qcZ g l→∀{a:α},a∈l→f a=g a
 |b::r,h,a,ha=>by
  obtain⟨h1,h2⟩:=List.cons.inj (show f b::qcY f r=g b::qcZ g r from h);cases ha with
  |head=>exact h1
  |tail _ ha=>exact Hq h2 ha
noncomputable def xM(l:List Int):Int:=((l.foldl (λg a=>Nat.gcd g a.natAbs) 0:Nat):Int)
noncomputable def Zo:List (List Int):=[[1],[-1],[2],[1,1],[1,-1],[1,2],[-1,1],[-1,-1],[-1,2],[2,1],[2,-1],[2,2]]
theorem qjh(d:Nat)(U:St):qcY (λl=>qf P (d+1) 19 [.pv (.lst (qj l))] U) Zo=qcZ (λl=>some (.pv (.int (xM l)),U)) Zo:=by kernel_rfl
theorem qeP:∀l∈Zo,xM l=1∨xM l=2:=by decide +kernel
noncomputable def Sm.cs(s:Sm):List Int:=s.t.map (·.2)
noncomputable def Sm.g(s:Sm):Int:=xM s.cs
noncomputable def Sm.quo(s:Sm)(le:Bool):Row:=⟨le,s.cs.map (·.fdiv s.g),s.t.map (·.1),(-s.c).fdiv s.g⟩
noncomputable def Sm.div(s:Sm):Bool:=(-s.c).fmod s.g == 0
noncomputable def Zz(q:Bool):Str:=bif q then "linear_ne" else "linear_eq"
noncomputable def HA(q:Bool)(s:Sm):PV:=bif s.div then .tup [.str (Zz q),.tup (qj (s.quo false).cs),.tup (jK (s.quo false).vs),.int (s.quo false).c] else .bool q
theorem qae:∀t:List (Nat×Int),vB C J (.tup (.cons (.nm 25) (.cons (.nm 39) .nil))) .nil (.elt (.var 39)) [] ((t.map Qk).map .pv) s=some ((qj (t.map (·.2))).map .pv,s):=by
 intro t;induction t with
 |nil =>
  exact rfl
 |cons hdq r ih =>
  obtain⟨x,a⟩:=hdq;exact jh (ys:=[.pv (.int a)]) rfl rfl (wD rfl (wU (qg qn))) rfl (ih)
theorem qhe:∀t:List (Nat×Int),vB C J (.tup (.cons (.nm 25) (.cons (.nm 39) .nil))) .nil (.elt (.var 25)) [] ((t.map Qk).map .pv) s=some ((jK (t.map (·.1))).map .pv,s):=by
 intro t;induction t with
 |nil =>
  exact rfl
 |cons hdq r ih =>
  obtain⟨x,a⟩:=hdq;exact jh (ys:=[.pv (.int x)]) rfl rfl (wD rfl (wU (qg (qd rfl qn)))) rfl (ih)
theorem qbl(hg:g=1∨g=2):kj .fdiv m (.pv (.int a)) (.pv (.int g)) s=some (.pv (.int (a.fdiv g)),s):=by
 rcases hg with rfl | rfl <;> rfl
theorem qmB(hg:g=1∨g=2):kj .mod m (.pv (.int a)) (.pv (.int g)) s=some (.pv (.int (a.fmod g)),s):=by
 rcases hg with rfl | rfl <;> rfl
theorem qgV(hg:g=1∨g=2)(h:J.get 61=some (.pv (.int g))):∀t:List (Nat×Int),vB C J (.tup (.cons (.nm 25) (.cons (.nm 39) .nil))) .nil (.elt (.bin .fdiv false (.var 39) (.var 61))) [] ((t.map Qk).map .pv) s=some ((qj ((t.map (·.2)).map (·.fdiv g))).map .pv,s):=by
 intro t;induction t with
 |nil =>
  exact rfl
 |cons hdq r ih =>
  obtain⟨x,a⟩:=hdq;exact jh (ys:=[.pv (.int (a.fdiv g))]) rfl rfl (wD rfl (wU (q8 (qg qn) (qg (qd rfl (qd rfl h))) (qbl hg)))) rfl (ih)
section
variable {d:Nat}{D:Dm×Dm}{pa:AV}{tl:List AObj}{st:Bool}{m m':M}
noncomputable def G25(K v:PV)(s:Sm)(lo hi:Int):Env:=[(13,.ref 0),(30,.pv K),(29,.pv v),(0,.pv (.int lo)),(1,.pv (.int hi)),(52,.pv s.pv)]
noncomputable def qgx(K v:PV)(s:Sm)(lo hi:Int):Env:=[(13,.ref 0),(30,.pv K),(29,.pv v),(0,.pv (.int lo)),(1,.pv (.int hi)),(52,.pv s.pv),(61,.pv (.int s.g)),(60,.pv (.int (-s.c)))]
theorem wR{α:Type}{f:α→PV}{l:List α}(h:l.length≤2):(l.map f).length≤jl:=by rw[qE];exact qu h (by decide)
theorem K3{C:Ctx}{J:Env}{s:Sm}{U:St}{e:CE}{l:List PV}(h2:s.t.length≤2)(hl:l.length≤jl)(hg:J.get 52=some (.pv s.pv))(hx:J.get 25=none)(ha:J.get 39=none)(h:vB C (Env.del [25,39] J) (.tup (.cons (.nm 25) (.cons (.nm 39) .nil))) .nil (.elt e) [] ((s.t.map Qk).map .pv) U=some (l.map .pv,U)):
  qt C J (.comp [25,39] (.cons (.tup (.cons (.nm 25) (.cons (.nm 39) .nil))) (.it (.sub (.var 52) (.int 1))) .nil (.elt e))) U=some (.pv (.lst l),U):=by
 apply wa
 ·apply zK
  ·apply zW;apply qT;exact qg (jx rfl hg);exact rfl;exact rfl;exact kH (wR h2)
  ·exact qeO (jE rfl) (jE rfl)
  ·exact h
 ·exact qN (by rw[qE];exact hl)
 ·exact wi _
theorem B7{k:Nat}{C:Ctx}{K:Str}{v:PV}{s:Sm}{lo hi:Int}{U:St}(h2:s.t.length≤2)(hg:s.g=1∨s.g=2):
  qt C (qgx (.str K) v s lo hi) (.tup (.cons (.var 30) (.cons (.bi .tuple (.cons (.comp [25,39] (.cons (.tup (.cons (.nm 25) (.cons (.nm 39) .nil))) (.it (.sub (.var 52) (.int 1))) .nil (.elt (.bin .fdiv false (.var 39) (.var 61))))) .nil)) (.cons (.bi .tuple (.cons (.comp [25,39] (.cons (.tup (.cons (.nm 25) (.cons (.nm 39) .nil))) (.it (.sub (.var 52) (.int 1))) .nil (.elt (.var 25)))) .nil)) (.cons (.bin .fdiv false (.var 60) (.var 61)) .nil))))) U
   = some (.pv (.tup [.str K,.tup (qj (s.quo false).cs),.tup (jK (s.quo false).vs),.int (s.quo false).c]),U):=by
 have l1:(qj (s.quo false).cs).length≤jl:=wR (by rw[Sm.quo,qE,Sm.cs,qE];exact h2);have l2:(jK (s.quo false).vs).length≤jl:=wR (by rw[Sm.quo,qE];exact h2);apply zT
 ·apply qh;exact rfl;apply qh
  ·apply zt;apply qh;exact K3 h2 l1 rfl rfl rfl (qgV hg rfl s.t);exact qw;exact Yy l1
  ·apply qh
   ·apply zt;apply qh;exact K3 h2 l2 rfl rfl rfl (qhe s.t);exact qw;exact Yy l2
   ·apply qh;apply q8;exact rfl;exact rfl;exact qbl hg;exact qw
 ·exact rfl
theorem qkH{v:Arg}{s:Sm}(q:Bool)(hv:v.sum=s)(hs:xa (d+3) D pa tl st m s)(hsv:qf P (d+3) 22 [.ref 0,.pv v.pv] ⟨gm D pa tl m,st⟩=some (.pv (.tup [.int (s.bnds D).1,.int (s.bnds D).2]),⟨gm D pa tl m,st⟩))(hc:s.cs∈Zo)(h2:s.t.length≤2)(hlo:(s.bnds D).1≤0)(hhi:0≤(s.bnds D).2)(hne:((s.bnds D).1 == (s.bnds D).2)=false):
  qf P (d+4) 25 [.ref 0,.pv (.str (Zz q)),.pv v.pv] ⟨gm D pa tl m,st⟩=some (.pv (HA q s),⟨gm D pa tl m,st⟩):=by
 have h1:=y6 (d+1) v ⟨gm D pa tl m,st⟩;rw[hv] at h1;have h3:qf P (d+3) 19 [.pv (.lst (qj s.cs))] ⟨gm D pa tl m,st⟩=_:=Hq (qjh (d+2) ⟨gm D pa tl m,st⟩) hc;have hg:=qeP _ hc;have l1:(qj s.cs).length≤jl:=wR (by rw[Sm.cs,qE];exact h2);have e1:∀U,jD .eq (.pv (.str (Zz q))) (.pv (.str "linear_le")) U=some false:=λU=>by induction q <;> rfl
 have e2:∀U,jD .ne (.pv (.str (Zz q))) (.pv (.str "linear_le")) U=some true:=λU=>by induction q <;> rfl
 have e3:∀U,jD .eq (.pv (.str (Zz q))) (.pv (.str "linear_ne")) U=some q:=λU=>by induction q <;> rfl
 have e4:∀U,jD .gt (.pv (.int (s.bnds D).1)) (.pv (.int 0)) U=some false:=λU=>qz some (zQ (Int.not_lt.mpr hlo));have e5:∀U,jD .lt (.pv (.int (s.bnds D).2)) (.pv (.int 0)) U=some false:=λU=>qz some (zQ (Int.not_lt.mpr hhi));have e6:∀U,jD .eq (.pv (.int (s.bnds D).1)) (.pv (.int (s.bnds D).2)) U=some false:=λU=>qz some hne;show qf P (d+3+1) 25 _ _=_
 generalize d+3=k at h1 hsv h3 ⊢;apply qD (q:=(.ret (.pv (HA q s)),qgx (.str (Zz q)) v.pv s (s.bnds D).1 (s.bnds D).2)) (s':=⟨gm D pa tl m,st⟩) f25 rfl rfl rfl
 ·show qy _ c25 _ _=_
  unfold c25;apply SA
  ·repeat' walk_at "e"
  ·exact rfl
  apply wb;apply qF;exact rfl;exact rfl;exact e1 _;apply T_e rfl
  ·apply wb;apply kW;apply j7;apply qF;exact rfl;exact rfl;exact e4 _;apply y8 rfl;apply wm;apply qF;exact rfl;exact rfl;exact e5 _;apply T_e rfl
   ·apply wb;apply qF;exact rfl;exact rfl;exact e6 _;apply yW rfl;exact jM
   ·exact qK jM
  apply qK;apply SA
  ·apply zT
   ·apply qh;apply j8;apply qh;exact K3 h2 l1 rfl rfl rfl (qae s.t);exact qw;exact qV h3;apply qh;apply KQ;exact rfl;exact qw
   ·exact rfl
  ·exact rfl
  apply wb (c:=!s.div)
  ·apply vK;apply j7;apply qF;exact rfl;exact rfl;exact e2 _;apply gw rfl;apply wm;apply qF;apply q8;exact rfl;exact rfl;exact qmB hg;exact rfl;exact qdb rfl
  unfold HA;induction s.div with
  |true=>apply yW rfl;apply SR;exact B7 (k:=k) h2 hg
  |false=>apply ZP rfl;apply SR;apply qF;exact rfl;exact rfl;exact e3 _;exact v9
 ·exact rfl
end
noncomputable def Xr(v:Int):Dm→PV
 |[]=>.none
 |p::r=>if v≤p.2 then .int (if p.1<v then v else p.1) else Xr v r
noncomputable def wP(v:Int)(d:Dm):Bool:=qJ (Xr v d) (.int v)
noncomputable def ZZ(k:Int):Dm→Dm
 |[]=>[]
 |p::r=>(if p.1≤k then [(p.1,if k<p.2 then k else p.2)] else [])++ZZ k r
theorem qpU(k:Int): ZZ k []=[]:=rfl
theorem qpV(k:Int)(p:Int×Int)(r:List (Int×Int)): ZZ k (p::r)=(if p.fst≤k then [(p.fst,if k<p.snd then k else p.snd)] else [])++ZZ k r:=rfl
noncomputable def ZQ(k:Int):Dm→Dm
 |[]=>[]
 |p::r=>(if k≤p.2 then [(if p.1<k then k else p.1,p.2)] else [])++ZQ k r
theorem qpS(k:Int): ZQ k []=[]:=rfl
theorem qpT(k:Int)(p:Int×Int)(r:List (Int×Int)): ZQ k (p::r)=(if k≤p.snd then [(if p.fst<k then k else p.fst,p.snd)] else [])++ZQ k r:=rfl
noncomputable def ya(d:Dm):Dm:=ZZ (-1) d++ZQ 1 d
section
variable (d:Nat)
theorem qfx:∀{dm:Dm}{J:Env},J.get 6=some (.pv (.int v)) →
  ∃J' f,jw [] (λx J s=>ob (jC (.tup (.cons (.nm 0) (.cons (.nm 1) .nil))) x J) λJ'=>qy C (.cons (.ifS (.cmp .le (.var 6) (.var 1)) (.cons (.ret (.bi .max2 (.cons (.var 0) (.cons (.var 6) .nil)))) .nil) .nil) .nil) J' s) ((dm.map yH).map .pv) J s=some ((f,J'),s)
   ∧ xd C (.cons (.ret .none) .nil) (f,J') s=some ((.ret (.pv (Xr v dm)),J'),s):=by
 intro dm;induction dm with
 |nil =>
  intro J h;exact⟨J,.next,rfl,rfl⟩
 |cons p r ih =>
  intro J h;have g6:((J.put 0 (.pv (.int p.1))).put 1 (.pv (.int p.2))).get 6=some (.pv (.int v)):=qd rfl (qd rfl h);have hc:qt C ((J.put 0 (.pv (.int p.1))).put 1 (.pv (.int p.2))) (.cmp .le (.var 6) (.var 1)) s=some (.pv (.bool (decide (v≤p.2))),s):=qF (qg g6) (qg qn) rfl;show ∃J' f,_∧xd C _ (f,J') s=some ((.ret (.pv (if v≤p.2 then _ else Xr v r)),J'),s)
  by_cases q:v≤p.2
  ·rw[if_pos q]
   rw[qN q] at hc;refine⟨(J.put 0 (.pv (.int p.1))).put 1 (.pv (.int p.2)),.ret (.pv (.int (if p.1<v then v else p.1))),zJ rfl (wb hc (ZP rfl (SR (zt (qh (qg (qd rfl qn)) (qh (qg g6) qw)) rfl)) v9)) qll,rfl⟩
  ·rw[if_neg q]
   rw[zQ q] at hc;obtain⟨J',f,a,b⟩:=ih (J:=(J.put 0 (.pv (.int p.1))).put 1 (.pv (.int p.2))) g6;exact⟨J',f,zJ rfl (wb hc (yW rfl jM)) (zn rfl a),b⟩
theorem qko(h:dm.length≤2)(U:St):qf P (d+1) 3 [.pv (jm dm),.pv (.int v)] U=some (.pv (Xr v dm),U):=by
 obtain⟨hp,st⟩:=U;obtain⟨J',f,a,b⟩:=qfx (C:=qH P (qf P d)) (s:=⟨hp,st⟩) (v:=v) (dm:=dm) (J:=[(3,.pv (jm dm)),(6,.pv (.int v))]) rfl;apply qD f3 rfl rfl rfl
 ·show qy _ c3 _ _=_
  unfold c3;apply qL;apply wN;exact zW rfl (kH (wR h));exact a;exact b
 ·exact rfl
theorem qeQ(h:dm.length≤2)(U:St):qf P (d+2) 4 [.pv (jm dm),.pv (.int v)] U=some (.pv (.bool (wP v dm)),U):=by
 have h1:=qko d (v:=v) h U;obtain⟨hp,st⟩:=U;show qf P (d+1+1) 4 _ _=_
 generalize d+1=k at h1 ⊢;apply qD f4 rfl rfl rfl
 ·show qy _ c4 _ _=_
  unfold c4;apply SR;apply qF;exact j8 rfl (qV h1);exact rfl;exact X0 rfl
 ·exact rfl
theorem qkY(h:J.get 9=some (.pv (.int k))):∀dm:Dm,vB C J (.tup (.cons (.nm 0) (.cons (.nm 1) .nil))) (.cons (.cmp .le (.var 0) (.var 9)) .nil) (.elt (.tup (.cons (.var 0) (.cons (.bi .min2 (.cons (.var 1) (.cons (.var 9) .nil))) .nil)))) [] ((dm.map yH).map .pv) s=some (((ZZ k dm).map yH).map .pv,s):=by
 intro dm;induction dm with
 |nil =>
  exact rfl
 |cons p r ih =>
  have g9:((J.put 0 (.pv (.int p.1))).put 1 (.pv (.int p.2))).get 9=some (.pv (.int k)):=qd rfl (qd rfl h);have g0:((J.put 0 (.pv (.int p.1))).put 1 (.pv (.int p.2))).get 0=some (.pv (.int p.1)):=qd rfl qn;have hc:qt C ((J.put 0 (.pv (.int p.1))).put 1 (.pv (.int p.2))) (.cmp .le (.var 0) (.var 9)) s=some (.pv (.bool (decide (p.1≤k))),s):=qF (qg g0) (qg g9) rfl;rw[ZZ];by_cases q:p.1≤k
  ·rw[if_pos q];rw[qN q] at hc
   exact jh (ys:=[.pv (yH (p.1,if k<p.2 then k else p.2))]) rfl (zu hc (Kp rfl rfl)) (wD rfl (wU (zT (qh (qg g0) (qh (zt (qh (qg qn) (qh (qg g9) qw)) rfl) qw)) rfl))) rfl (ih)
  ·rw[if_neg q];rw[zQ q] at hc
   exact jh (ys:=[]) rfl (zu hc (Ko rfl)) (Zi rfl) rfl (ih)
theorem qjO(h:J.get 9=some (.pv (.int k))):∀dm:Dm,vB C J (.tup (.cons (.nm 0) (.cons (.nm 1) .nil))) (.cons (.cmp .ge (.var 1) (.var 9)) .nil) (.elt (.tup (.cons (.bi .max2 (.cons (.var 0) (.cons (.var 9) .nil))) (.cons (.var 1) .nil)))) [] ((dm.map yH).map .pv) s=some (((ZQ k dm).map yH).map .pv,s):=by
 intro dm;induction dm with
 |nil =>
  exact rfl
 |cons p r ih =>
  have g9:((J.put 0 (.pv (.int p.1))).put 1 (.pv (.int p.2))).get 9=some (.pv (.int k)):=qd rfl (qd rfl h);have g0:((J.put 0 (.pv (.int p.1))).put 1 (.pv (.int p.2))).get 0=some (.pv (.int p.1)):=qd rfl qn;have hc:qt C ((J.put 0 (.pv (.int p.1))).put 1 (.pv (.int p.2))) (.cmp .ge (.var 1) (.var 9)) s=some (.pv (.bool (decide (k≤p.2))),s):=qF (qg qn) (qg g9) rfl;rw[ZQ];by_cases q:k≤p.2
  ·rw[if_pos q];rw[qN q] at hc
   exact jh (ys:=[.pv (yH (if p.1<k then k else p.1,p.2))]) rfl (zu hc (Kp rfl rfl)) (wD rfl (wU (zT (qh (zt (qh (qg g0) (qh (qg g9) qw)) rfl) (qh (qg qn) qw)) rfl))) rfl (ih)
  ·rw[if_neg q];rw[zQ q] at hc
   exact jh (ys:=[]) rfl (zu hc (Ko rfl)) (Zi rfl) rfl (ih)
theorem qgq(k:Int):∀dm:Dm,(ZZ k dm).length≤dm.length:=by
 intro dm;induction dm with
 |nil =>
  exact qW _
 |cons p r ih =>
  rw[ZZ];split <;> first | exact Nat.le_succ_of_le ih | exact zZ ih | exact qW _
theorem qeL(k:Int):∀dm:Dm,(ZQ k dm).length≤dm.length:=by
 intro dm;induction dm with
 |nil =>
  exact qW _
 |cons p r ih =>
  rw[ZQ];split <;> first | exact Nat.le_succ_of_le ih | exact zZ ih | exact qW _
theorem qod(h:dm.length≤2)(U:St):qf P (d+1) 5 [.pv (jm dm),.pv (.int k)] U=some (.pv (jm (ZZ k dm)),U):=by
 have h2:=qu (qgq k dm) h;obtain⟨hp,st⟩:=U;apply qD f5 rfl rfl rfl
 ·show qy _ c5 _ _=_
  unfold c5;apply SR;apply zt
  ·apply qh
   ·apply wa
    ·apply zK;apply zW;exact rfl;exact kH (wR h);exact rfl;exact qkY rfl dm
    ·exact qN (by rw[qE];exact wR h2)
    ·exact wi _
   ·exact qw
  ·exact Yy (wR h2)
 ·exact rfl
theorem qnK(h:dm.length≤2)(U:St):qf P (d+1) 6 [.pv (jm dm),.pv (.int k)] U=some (.pv (jm (ZQ k dm)),U):=by
 have h2:=qu (qeL k dm) h;obtain⟨hp,st⟩:=U;apply qD f6 rfl rfl rfl
 ·show qy _ c6 _ _=_
  unfold c6;apply SR;apply zt
  ·apply qh
   ·apply wa
    ·apply zK;apply zW;exact rfl;exact kH (wR h);exact rfl;exact qjO rfl dm
    ·exact qN (by rw[qE];exact wR h2)
    ·exact wi _
   ·exact qw
  ·exact Yy (wR h2)
 ·exact rfl
theorem qmD(h:dm.length≤2)(U:St):qf P (d+2) 7 [.pv (jm dm),.pv (.int 0)] U=some (.pv (jm (ya dm)),U):=by
 have h1:=qod d (k:=-1) h U;have h2:=qnK d (k:=1) h U;obtain⟨hp,st⟩:=U;show qf P (d+1+1) 7 _ _=_
 generalize d+1=k at h1 h2 ⊢;apply qD f7 rfl rfl rfl
 ·show qy _ c7 _ _=_
  unfold c7;apply SR;apply q8;exact j8 rfl (qV h1);exact j8 rfl (qV h2);show(if ((((ZZ (-1) dm).map yH).map AV.pv).length+(((ZQ 1 dm).map yH).map AV.pv).length)≤jl then some (mkTup ((((ZZ (-1) dm).map yH).map AV.pv)++(((ZQ 1 dm).map yH).map AV.pv)),_) else none)=some (.pv (jm (ya dm)),_)
  rw[if_pos,←gU,←gU,BH];rfl;simp only[qE];exact qu (yt (qu (qgq (-1) dm) h) (qu (qeL 1 dm) h)) (by decide)
 ·exact rfl
end
section
variable {d:Nat}{D:Dm×Dm}{pa:AV}{tl rest:List AObj}{st:Bool}{m m':M}{asked part:List AV}
theorem qhF(h:n<32)(ht:m.ts.length<900):qf P (d+3) 31 [.ref 0,.pv (Tr.bit n b).pv] ⟨gm D (.pv .none) tl m,st⟩=some (.pv .none,⟨gm D (.pv .none) tl (yD (.bit n b) m),st⟩):=by
 have h1:=qkE (d:=d) (D:=D) (pa:=.pv .none) (tl:=tl) (st:=st) (m:=m) (b:=b) h ht;show qf P (d+2+1) 31 _ _=_
 generalize d+2=k at h1 ⊢;apply qD f31 rfl rfl rfl
 ·show qy _ DO _ _=_
  unfold DO;repeat' walk_at "e"
 ·exact rfl
theorem qfy:qf P (d+3) 31 [.ref 0,.pv (.bool true)] ⟨gm D (.pv .none) tl m,st⟩=some (.pv .none,⟨gm D (.pv .none) tl m,st⟩):=by
 have h1:=qhS (d:=d) ⟨gm D (.pv .none) tl m,st⟩;show qf P (d+2+1) 31 _ _=_
 generalize d+2=k at h1 ⊢;apply qD f31 rfl rfl rfl
 ·show qy _ DO _ _=_
  unfold DO;repeat' walk_at "e"
 ·exact rfl
theorem qhw:qf P (d+3) 31 [.ref 0,.pv (.bool true)] ⟨gm D (.ref 6) tl m,st⟩=some (.pv .none,⟨gm D (.ref 6) tl m,st⟩):=rfl
theorem qkh(h:part.length<900):qf P (d+3) 31 [.ref 0,.pv (Tr.bit n b).pv] ⟨gm D (.ref 6) (.list asked::.list part::rest) m,st⟩=some (.pv .none,⟨gm D (.ref 6) (.list asked::.list (part++[.pv (Tr.bit n b).pv])::rest) m,st⟩):=by
 have ha:=xn (i:=6) (l:=part) (v:=.pv (Tr.bit n b).pv) (s:=⟨gm D (.ref 6) (.list asked::.list part::rest) m,st⟩) rfl rfl (gG (jp h (by decide)));apply qD f31 rfl rfl rfl
 ·show qy _ DO _ _=_
  unfold DO;apply wb;exact rfl;apply T_e rfl
  ·apply wb;exact rfl;apply ZP rfl
   ·repeat' walk_at "e"
   ·exact qK jM
  ·exact qK jM
 ·exact rfl
end
theorem v5(h:qJ (.int a) (.int b)=true):a=b:=wM h
theorem YI{a b:Nat}(h:qJ (.int a) (.int b)=true):a=b:=Int.ofNat.inj (v5 h)
theorem D9(h:qJ (.bool a) (.bool b)=true):a=b:=wM h
theorem QI{α:Type}{f:α→PV}(hf:∀{a b},qJ (f a) (f b)=true→a=b):∀{l m:List α},zF (l.map f) (m.map f)=true→l=m:=by
 intro l;induction l with
 |nil =>
  intro c2q;rcases c2q with _ | ⟨_,_⟩
  ·intro _
   exact rfl
  ·intro h
   exact nomatch h
 |cons a l ih =>
  intro c2q;rcases c2q with _ | ⟨b,m⟩
  ·intro h
   exact nomatch h
  ·intro h
   obtain⟨h1,h2⟩:=qc (show(qJ (f a) (f b)&&zF (l.map f) (m.map f))=true from h);rw[hf h1,ih h2]
theorem qcK(h:qJ (.tup [a,b]) (.tup [c,d])=true):qJ a c=true∧qJ b d=true :=
 by obtain⟨h1,h2⟩:=qc (show(qJ a c&&(qJ b d&&true))=true from h);exact⟨h1,(qc h2).1⟩
theorem qmg{p q:Int×Int}(h:qJ (yH p) (yH q)=true):p=q:=by obtain⟨a,b⟩:=qcK h;exact Prod.ext (v5 a) (v5 b)
theorem qmh{p q:Nat×Int}(h:qJ (Qk p) (Qk q)=true):p=q:=by obtain⟨a,b⟩:=qcK h;exact Prod.ext (YI a) (v5 b)
theorem Ba{p q:Dm}(h:qJ (jm p) (jm q)=true):p=q:=QI qmg h
theorem qjV{p q:Row}(h:qJ p.pv q.pv=true):p=q:=by
 obtain⟨l,cs,vs,c⟩:=p;obtain⟨l',cs',vs',c'⟩:=q;obtain⟨h1,h⟩:=qc (show(qJ (.str (ww l)) (.str (ww l'))&&(zF (qj cs) (qj cs')&&(zF (jK vs) (jK vs')&&(qJ (.int c) (.int c')&&true))))=true from h);obtain⟨h2,h⟩:=qc h;obtain⟨h3,h⟩:=qc h;obtain⟨h4,_⟩:=qc h;cases QI v5 h2;cases QI YI h3;cases v5 h4
 induction l <;> induction l' <;> first | rfl | exact absurd h1 (by decide +kernel)
theorem qmi{p q:Tr}(h:qJ p.pv q.pv=true):p=q:=by
 induction p with
 |b v=>induction q with
  |b w=>exact qz Tr.b (D9 h)
  |bit n s=>injection h
 |bit n s=>induction q with
  |b w=>injection h
  |bit k t =>
   obtain⟨_,h⟩:=qc (show(qJ (.str "bit") (.str "bit")&&(qJ (.int n) (.int k)&&(qJ (.bool s) (.bool t)&&true)))=true from h);obtain⟨h1,h⟩:=qc h;obtain⟨h2,_⟩:=qc h;rw[YI h1,D9 h2]
noncomputable def Key.name:Key→PV
 | .sum _=>.str "sum"
 | .reif _=>.str "reif"
 | .stand .. => .str "stand"
theorem qjS(h:zF (a::l) (b::m)=true):qJ a b=true:=(qc (show(qJ a b&&zF l m)=true from h)).1
theorem qkb{p q:Key}(h:qJ p.pv q.pv=true):p=q:=by
 have hn:qJ p.name q.name=true:=by
  have hl:zF p.l q.l=true:=h;induction p <;> induction q <;> exact qjS hl
 induction p with
 |sum s=>induction q with
  |sum s' =>
   obtain⟨t,c⟩:=s;obtain⟨t',c'⟩:=s';obtain⟨_,h⟩:=qc (show(qJ (.str "sum") (.str "sum")&&(zF (t.map Qk) (t'.map Qk)&&(qJ (.int c) (.int c')&&true)))=true from h);obtain⟨h1,h⟩:=qc h;obtain⟨h2,_⟩:=qc h;cases QI qmh h1;cases v5 h2;rfl
  |reif=>exact absurd (show(Str.ofString "sum" == Str.ofString "reif")=true from hn) (by decide +kernel)
  |stand=>exact absurd (show(Str.ofString "sum" == Str.ofString "stand")=true from hn) (by decide +kernel)
 |reif r=>induction q with
  |sum=>exact absurd (show(Str.ofString "reif" == Str.ofString "sum")=true from hn) (by decide +kernel)
  |reif r'=>exact qz Key.reif (qjV (qcK h).2)
  |stand=>exact absurd (show(Str.ofString "reif" == Str.ofString "stand")=true from hn) (by decide +kernel)
 |stand y t d=>induction q with
  |sum=>exact absurd (show(Str.ofString "stand" == Str.ofString "sum")=true from hn) (by decide +kernel)
  |reif=>exact absurd (show(Str.ofString "stand" == Str.ofString "reif")=true from hn) (by decide +kernel)
  |stand y' t' d' =>
   obtain⟨_,h⟩:=qc (show(qJ (.str "stand") (.str "stand")&&(qJ (.int y) (.int y')&&(qJ t.pv t'.pv&&(qJ (jm d) (jm d')&&true))))=true from h);obtain⟨h1,h⟩:=qc h;obtain⟨h2,h⟩:=qc h;obtain⟨h3,_⟩:=qc h;rw[YI h1,qmi h2,Ba h3]
theorem QH{k:Key}{ks:List Key}{n:Nat}(h:qX k 2 ks=some n):∃j,n=2+j∧ks[j]? = some k:=by
 obtain⟨j,x,h1,h2,h3⟩:=qgZ h;exact⟨j,h1,by rw[h2,qkb h3]⟩
theorem xz{D:Dm×Dm}(h:ks[j]? = some k):(zk D ks)[2+j]? = some (.pv (.tup [yU (2+j),jm (ji D k)])):=by
 rw[jH];show(kB D 2 ks)[j]? = _;rw[qkr D ks 2 j h,jH]
theorem gF{α:Type}{l:List α}{a:α}:(l++[a])[l.length]? = some a:=by rw[kL (qW _),Nat.sub_self];rfl
noncomputable def js(D:Dm×Dm)(s:Sm):Dm:=match s.lone with
 |some v=>jt D v
 |none=>ji D (.sum s)
theorem YN{s:Sm}{v:Nat}(h:s.lone=some v):(v,1)∈s.t∧s.t.length=1∧s.c=0:=by
 obtain⟨t,c⟩:=s;match t with
 |[]=>injection h
 |[p] =>
  cases hb:(p.2 == 1&&c == 0) with
  |false=>exact nomatch (show(bif true&&(p.2 == 1&&c == 0) then some p.1 else none)=some v from h).symm.trans (by rw[hb];rfl:_=none)
  |true =>
   obtain⟨a,b⟩:=qc hb;obtain⟨x,y⟩:=p;cases qr a;cases qr b;injection h with h;subst h
   exact⟨qQ.mpr rfl,rfl,rfl⟩
 |p::q::r=>injection h
theorem qch{d:Nat}{D:Dm×Dm}{pa:AV}{tl:List AObj}{st:Bool}{m:M}{s:Sm}(h:∀p∈s.t,p.1<2∧ja p.2)(hl:Lt m 2):
  qf P (d+1) 12 [.ref 1,.pv (.int (qB s m).1)] ⟨gm D pa tl (qB s m).2,st⟩=some (.pv (jm (js D s)),⟨gm D pa tl (qB s m).2,st⟩):=by
 unfold qB js;cases hs:s.lone with
 |some v=>exact DX d (h _ (YN hs).1).1
 |none =>
  have hk:=hl.1;cases hf:qX (.sum s) 2 m.ks with
  |some n =>
   obtain⟨j,rfl,hj⟩:=QH hf;exact QG d (jp (show 2+j<900 from q6 (kQ (jL.mp hj).1 2) (by rw[jH];exact jz hk)) (by decide)) (xz hj)
  |none =>
   have hj:(yk s m).ks[m.ks.length]? = some (.sum s):=by rw[Qm];exact gF
   exact QG d (jp (show 2+m.ks.length<900 by rw[jH];exact hk) (by decide)) (xz hj)
noncomputable def Row.norm(r:Row):Row:=bif decide (0<r.cs.headD 0) then r else r.turn
structure NumOk (D:Dm×Dm) (v:Arg) (s:Sm):Prop where
 hv:v.sum=s
 d1:gV D.1
 d2:gV D.2
 tm:∀p∈s.t,p.1<2∧ja p.2
 len:s.t.length≤2
 sd:zO (ji D (.sum s))=true
 dl:(js D s).length≤2
 z:wP 0 (js D s)=true→s.cs∈Zo∧(s.bnds D).1≤0∧0≤(s.bnds D).2∧((s.bnds D).1 == (s.bnds D).2)=false
 nz:wP 0 (js D s)=true→zO (ya (js D s))=true∧ya (js D s)≠[]
noncomputable def aR(s:Sm):Row:=(s.quo false).norm
noncomputable def aT(D:Dm×Dm)(s:Sm)(m:M):Tr:=(zv D (aR s) (qB s m).2).1.con
noncomputable def aM(D:Dm×Dm)(s:Sm)(m:M):M:=(zv D (aR s) (qB s m).2).2
noncomputable def gK(D:Dm×Dm)(s:Sm):Bool:=wP 0 (js D s)&&s.div
theorem qbn:∀l∈Zo,∃a r,l.map (·.fdiv (xM l))=a::r∧(0<a∨a<0)∧l.length≤2:=by
 intro l hl;have:(l.map (·.fdiv (xM l))).headD 0≠0∧l.length≤2:=(show ∀l∈Zo,(l.map (·.fdiv (xM l))).headD 0≠0∧l.length≤2 by decide +kernel) l hl;cases h:l.map (·.fdiv (xM l)) with
 |nil=>rw[h] at this;exact absurd rfl this.1
 |cons a r=>rw[h] at this;exact⟨a,r,rfl,(Int.lt_or_gt_of_ne this.1).symm,this.2⟩
theorem qio(r:Row)(m:M):Gr m (Dy r m) 1:=⟨⟨[.reif r],rfl,qW _⟩,jR (qU ..)⟩
theorem ZK(D:Dm×Dm)(r:Row)(m:M):Gr m (zv D r m).2 1:=by
 unfold zv;induction k8 D r with
 |true=>exact(Gr.refl m).le (by decide)
 |false=>induction qX (.reif r) 2 m.ks with
  |some n=>exact(Gr.refl m).le (by decide)
  |none=>exact qio r m
theorem He(h:qcR d=true):d=TR:=Ba h
theorem qji{D:Dm×Dm}(hv:r.v<2)(hl:Lt m 2):∃n b,(zv D r m).1 = .bit n b∧n<2+(zv D r m).2.ks.length∧wF D (zv D r m).2.ks (zv D r m).1:=by
 have hk:=hl.1;unfold zv;cases h:k8 D r with
 |true =>
  have e:=He (qc h).2;refine⟨_,_,rfl,q6 hv (qS ..),e,jp hv (by decide),?_⟩;rw[←e];rcases YT hv with q | q <;> rw[q] <;> exact⟨_,rfl⟩
 |false =>
  cases hf:qX (.reif r) 2 m.ks with
  |some n =>
   obtain⟨j,rfl,hj⟩:=QH hf;have hj2:=(jL.mp hj).1;exact⟨_,_,rfl,kQ hj2 2,by unfold jt;rw[if_neg (XN Nat.two_pos),if_neg (XN (zY 1))],jp (kQ hj2 2) hl.size,_,xz hj⟩
  |none =>
   have hj:(Dy r m).ks[m.ks.length]? = some (.reif r):=gF;exact⟨_,_,rfl,kQ (jL.mp hj).1 2,by unfold jt;rw[if_neg (XN Nat.two_pos),if_neg (XN (zY 1))],hl.size,_,xz hj⟩
section
variable {d:Nat}{D:Dm×Dm}{pa:AV}{tl rest:List AObj}{st:Bool}{m m':M}{asked part:List AV}{v:Arg}{s:Sm}
theorem NumOk.bnd(h:NumOk D v s):xa (d+3) D pa tl st m s:=XY d (v:=.sm s) h.d1 h.d2 h.tm h.len rfl
theorem NumOk.var(h:NumOk D v s)(hl:Lt m 2):qf P (d+4) 23 [.ref 0,.pv v.pv] ⟨gm D pa tl m,st⟩=some (.pv (.int (qB s m).1),⟨gm D pa tl (qB s m).2,st⟩):=by
 have hv:=h.hv;have:=qar (d:=d) (v:=v) (D:=D) (pa:=pa) (tl:=tl) (st:=st) (m:=m) (by rw[hv];exact h.len) (by rw[hv];exact h.bnd) (by rw[hv];exact h.sd) hl.ks hl.ts;rw[hv] at this;exact this
theorem NumOk.row(h:NumOk D v s)(hz:wP 0 (js D s)=true)(q:Bool):qf P (d+4) 25 [.ref 0,.pv (.str (Zz q)),.pv v.pv] ⟨gm D pa tl m,st⟩=some (.pv (HA q s),⟨gm D pa tl m,st⟩) :=
 qkH q h.hv h.bnd (XY d h.d1 h.d2 h.tm h.len h.hv) (h.z hz).1 h.len (h.z hz).2.1 (h.z hz).2.2.1 (h.z hz).2.2.2
theorem qdp(h:NumOk D v s)(hz:wP 0 (js D s)=true):∃x vs,(s.quo false).vs=x::vs∧x<2:=by
 obtain⟨a,r,h1,_⟩:=qbn _ (h.z hz).1;have ht:=h.tm;obtain⟨t,c⟩:=s;induction t using List.casesOn with
 |nil=>injection h1
 |cons p t=>exact⟨p.1,t.map (·.1),rfl,(ht p (qY ..)).1⟩
theorem QP(r:Row):r.norm.vs=r.vs:=by unfold Row.norm;induction decide (0<r.cs.headD 0) <;> rfl
theorem NumOk.truth(h:NumOk D v s)(hz:wP 0 (js D s)=true)(hd:s.div=true)(hl:Lt m 2):qf P (d+6) 26 [.ref 0,.pv (.str "linear_ne"),.pv v.pv] ⟨gm D pa tl m,st⟩=some (.pv (zv D (aR s) m).1.con.pv,⟨gm D pa tl (zv D (aR s) m).2,st⟩):=by
 have h1:=h.row (d:=d+1) (pa:=pa) (tl:=tl) (st:=st) (m:=m) hz true;have h2:=h.row (d:=d) (pa:=pa) (tl:=tl) (st:=st) (m:=m) hz false;unfold HA at h1 h2;rw[hd] at h1 h2;obtain⟨x,vs,hx,hx2⟩:=qdp h hz;have h3:=qjj (d:=d) (D:=D) (pa:=pa) (tl:=tl) (st:=st) (m:=m) (r:=aR s) (by rw[aR,QP];exact hx) hx2 hl.ks hl.ts;obtain⟨a,r,ha,hs,hl2⟩:=qbn _ (h.z hz).1;have hlen:(s.quo false).cs.length≤jl:=by rw[Sm.quo,qE];exact qu hl2 (by decide)
 have ha':(s.quo false).cs=a::r:=ha;have h4:qf P (d+5) 26 [.ref 0,.pv (.str (ww (s.quo false).le)),.pv v.pv] ⟨gm D pa tl m,st⟩=some (.pv (zv D (aR s) m).1.pv,⟨gm D pa tl (zv D (aR s) m).2,st⟩):=by
  refine qfY ha' hlen h2 ?_;have e:aR s=bif decide (0<a) then s.quo false else (s.quo false).turn:=by unfold aR Row.norm;rw[ha'];rfl
  rw[e] at h3 ⊢;rcases hs with hs | hs
  ·rw[qN hs] at h3 ⊢;exact .inl ⟨hs,h3⟩
  ·rw[zQ (Int.not_lt.mpr (we hs))] at h3 ⊢;exact .inr ⟨hs,rfl,h3⟩
 exact qnX h1 h4 (DU (d+4) _ _)
theorem NumOk.truth0(h:NumOk D v s)(hz:wP 0 (js D s)=true)(hd:s.div=false):qf P (d+6) 26 [.ref 0,.pv (.str "linear_ne"),.pv v.pv] ⟨gm D pa tl m,st⟩=some (.pv (.bool true),⟨gm D pa tl m,st⟩):=by
 have h1:=h.row (d:=d+1) (pa:=pa) (tl:=tl) (st:=st) (m:=m) hz true;unfold HA at h1;rw[hd] at h1;exact qbX h1
noncomputable def G34(v:PV)(y:Nat)(dm t:PV):Env:=[(13,.ref 0),(29,.pv v),(57,.pv (.int y)),(20,.pv dm),(42,.pv t)]
theorem YE(h:NumOk D v s)(hl:Lt m 3)(hz:wP 0 (js D s)=true)(ht:qf P (d+6) 26 [.ref 0,.pv (.str "linear_ne"),.pv v.pv] ⟨gm D pa tl (qB s m).2,st⟩=some (.pv t,⟨gm D pa tl m',st⟩))(hn:qf P (d+6) 31 [.ref 0,.pv t] ⟨gm D pa tl m',st⟩=some (.pv .none,⟨h2,st⟩))(hr:qt (qH P (qf P (d+6))) (G34 v.pv (qB s m).1 (jm (js D s)) t) (.ife (.or (.cons (.cmp .is (.attr (.var 13) 73) .none) (.cons (.cmp .eq (.var 42) (.bool true)) .nil))) (.var 57) (.meth (.var 13) 80 (.cons (.var 57) (.cons (.var 42) (.cons (.call 7 (.cons (.var 20) (.cons (.int 0) .nil))) .nil))))) ⟨h2,st⟩=some (fl,⟨rest,st⟩)):
  qf P (d+7) 34 [.ref 0,.pv v.pv] ⟨gm D pa tl m,st⟩=some (fl,⟨rest,st⟩):=by
 have h1:=h.var (d:=d+2) (pa:=pa) (tl:=tl) (st:=st) (m:=m) (hl.le (by decide));have h3:=qch (d:=d+5) (D:=D) (pa:=pa) (tl:=tl) (st:=st) (m:=m) h.tm (hl.le (by decide));have h4:=qeQ (d+4) (v:=0) h.dl ⟨gm D pa tl (qB s m).2,st⟩;rw[hz] at h4;show qf P (d+6+1) 34 _ _=_
 generalize d+6=k at *;apply qD f34 rfl rfl rfl
 ·show qy _ c34 _ _=_
  unfold c34;apply SA
  ·repeat' walk_at "e"
  ·exact rfl
  apply SA
  ·repeat' walk_at "e"
  ·exact rfl
  apply wb
  ·repeat' walk_at "e"
  apply yW rfl;apply SA
  ·repeat' walk_at "e"
  ·exact rfl
  apply SX
  ·repeat' walk_at "e"
  exact SR hr
 ·exact rfl
theorem qec(h:NumOk D v s)(hl:Lt m 3)(hz:wP 0 (js D s)=false):qf P (d+7) 34 [.ref 0,.pv v.pv] ⟨gm D pa tl m,st⟩=some (.pv (.int (qB s m).1),⟨gm D pa tl (qB s m).2,st⟩):=by
 have h1:=h.var (d:=d+2) (pa:=pa) (tl:=tl) (st:=st) (m:=m) (hl.le (by decide));have h3:=qch (d:=d+5) (D:=D) (pa:=pa) (tl:=tl) (st:=st) (m:=m) h.tm (hl.le (by decide));have h4:=qeQ (d+4) (v:=0) h.dl ⟨gm D pa tl (qB s m).2,st⟩;rw[hz] at h4;show qf P (d+6+1) 34 _ _=_
 generalize d+6=k at *;apply qD f34 rfl rfl rfl
 ·show qy _ c34 _ _=_
  unfold c34;repeat' walk_at "e"
 ·exact rfl
end
noncomputable def jr(D:Dm×Dm)(s:Sm)(m:M):M:=bif gK D s then yD (aT D s m) (aM D s m) else (qB s m).2
noncomputable def jU(D:Dm×Dm)(s:Sm)(m:M):Nat×M:=bif gK D s then jA (qB s m).1 (aT D s m) (ya (js D s)) (aM D s m) else qB s m
noncomputable def zd(D:Dm×Dm)(s:Sm)(m:M):List Tr:=bif gK D s then [aT D s m] else []
noncomputable def jY(l:List Tr):List AV:=l.map λt=>.pv t.pv
theorem qoS(l:List Tr): jY l=List.map (λ(t:Tr)=>AV.pv t.pv) l:=rfl
section
variable {d:Nat}{D:Dm×Dm}{pa:AV}{tl rest:List AObj}{st:Bool}{m m':M}{asked part:List AV}{v:Arg}{s:Sm}
theorem Dp(D:Dm×Dm)(s:Sm)(m:M):Gr m (aM D s m) 2:=(wf s m).trans (ZK D (aR s) _)
theorem qnf(t:Tr)(m:M):Gr m (yD t m) 1:=by
 induction t with
 |b v=>exact(Gr.refl m).le (by decide)
 |bit n b=>exact Gr.post ..
theorem xX(y:Nat)(t:Tr)(dm:Dm)(m:M):Gr m (jA y t dm m).2 5:=by
 unfold jA;induction qX (.stand y t dm) 2 m.ks with
 |some n=>exact(Gr.refl m).le (by decide)
 |none=>exact((qgb _ _).trans (Q0 ..)).trans (XH ..)
theorem YD(D:Dm×Dm)(s:Sm)(m:M):Gr m (jr D s m) 3:=by
 unfold jr;induction gK D s with
 |true=>exact(Dp D s m).trans (qnf ..)
 |false=>exact(wf s m).le (by decide)
theorem qaV(D:Dm×Dm)(s:Sm)(m:M):Gr m (jU D s m).2 7:=by
 unfold jU;induction gK D s with
 |true=>exact(Dp D s m).trans (xX ..)
 |false=>exact(wf s m).le (by decide)
theorem Dq(h:NumOk D v s)(hz:wP 0 (js D s)=true)(hl:Lt m 3):∃n b,aT D s m = .bit n b∧n<2+(aM D s m).ks.length∧wF D (aM D s m).ks (aT D s m):=by
 obtain⟨x,vs,hx,hx2⟩:=qdp h hz;obtain⟨n,b,e,hn,ha⟩:=qji (D:=D) (r:=aR s) (m:=(qB s m).2) (by rw[Row.v,aR,QP,hx];exact hx2) ((wf s m).lt (k:=2) hl);have ha':wF D (aM D s m).ks (aT D s m):=ha.con;refine⟨n,!b,?_,hn,ha'⟩;unfold aT;rw[e];rfl
theorem qaX(h:NumOk D v s)(hl:Lt m 10)(h32:m.ks.length<27):
  qf P (d+7) 34 [.ref 0,.pv v.pv] ⟨gm D (.pv .none) tl m,st⟩=some (.pv (.int (qB s m).1),⟨gm D (.pv .none) tl (jr D s m),st⟩):=by
 unfold jr gK;cases hz:wP 0 (js D s) with
 |false=>exact qec h (hl.le (by decide)) hz
 |true =>
  cases hd:s.div with
  |false =>
   refine YE h (hl.le (by decide)) hz (h.truth0 hz hd) qfy ?_;apply jS;apply kW;apply j7;exact rfl;exact xm rfl;apply vw rfl;exact rfl
  |true =>
   obtain⟨n,b,e,hn,_⟩:=Dq (m:=m) h hz (hl.le (by decide));have ht:=h.truth (d:=d) (pa:=.pv .none) (tl:=tl) (st:=st) hz hd ((wf s m).lt (k:=9) hl |>.le (by decide));have ht':qf P (d+6) 26 [.ref 0,.pv (.str "linear_ne"),.pv v.pv] ⟨gm D (.pv .none) tl (qB s m).2,st⟩=some (.pv (aT D s m).pv,⟨gm D (.pv .none) tl (aM D s m),st⟩):=ht;have hg:=Dp D s m;have hk:n<32:=by obtain⟨⟨l,a,b⟩,_⟩:=hg;rw[a,qU] at hn;exact q6 hn (qu (j3 (yt (jz h32) b) 2) (by decide))
   rw[e] at ht';have hn2:=qhF (d:=d+3) (D:=D) (tl:=tl) (st:=st) (m:=aM D s m) (b:=b) hk (hg.lt (k:=8) hl).ts;show qf P (d+7) 34 _ _=some (_,⟨gm D (.pv .none) tl (yD (aT D s m) (aM D s m)),st⟩)
   rw[e];refine YE h (hl.le (by decide)) hz ht' hn2 ?_;apply jS;apply kW;apply j7;exact rfl;exact xm rfl;apply vw rfl;exact rfl
theorem qaW(h:NumOk D v s)(hl:Lt m 10)(hp:part.length<900):
  qf P (d+7) 34 [.ref 0,.pv v.pv] ⟨gm D (.ref 6) (.list asked::.list part::rest) m,st⟩=some (.pv (.int (jU D s m).1),⟨gm D (.ref 6) (.list asked::.list (part++jY (zd D s m))::rest) (jU D s m).2,st⟩):=by
 unfold jU zd gK;cases hz:wP 0 (js D s) with
 |false=>rw[show part++jY (bif false&&s.div then [aT D s m] else [])=part from zR _];exact qec h (hl.le (by decide)) hz
 |true =>
  cases hd:s.div with
  |false =>
   rw[show part++jY (bif true&&false then [aT D s m] else [])=part from zR _];refine YE h (hl.le (by decide)) hz (h.truth0 hz hd) qhw ?_;apply jS;apply kW;apply j7;exact rfl;apply y8 rfl;apply wm;exact rfl;apply vw rfl;exact rfl
  |true =>
   obtain⟨n,b,e,hn,ha⟩:=Dq (m:=m) h hz (hl.le (by decide));have ht:=h.truth (d:=d) (pa:=.ref 6) (tl:=.list asked::.list part::rest) (st:=st) hz hd ((wf s m).lt (k:=9) hl |>.le (by decide));have ht':qf P (d+6) 26 [.ref 0,.pv (.str "linear_ne"),.pv v.pv] ⟨gm D (.ref 6) (.list asked::.list part::rest) (qB s m).2,st⟩=some (.pv (aT D s m).pv,⟨gm D (.ref 6) (.list asked::.list part::rest) (aM D s m),st⟩):=ht;have hg:=Dp D s m;have hs:=qai (d:=d+1) (D:=D) (pa:=.ref 6) (tl:=.list asked::.list (part++[.pv (aT D s m).pv])::rest) (st:=st) (y:=(qB s m).1) ha (h.nz hz).1 (h.nz hz).2 (hg.lt (k:=8) hl |>.le (by decide));have hw:=qmD (d+4) h.dl ⟨gm D (.ref 6) (.list asked::.list (part++[.pv (aT D s m).pv])::rest) (aM D s m),st⟩;have hn2:=qkh (d:=d+3) (D:=D) (asked:=asked) (rest:=rest) (st:=st) (m:=aM D s m) (n:=n) (b:=b) hp;show qf P (d+7) 34 _ _=some (.pv (.int (jA (qB s m).1 (aT D s m) (ya (js D s)) (aM D s m)).1),⟨gm D (.ref 6) (.list asked::.list (part++[.pv (aT D s m).pv])::rest) (jA (qB s m).1 (aT D s m) (ya (js D s)) (aM D s m)).2,st⟩)
   rw[e] at ht' hs hw ⊢;refine YE h (hl.le (by decide)) hz ht' hn2 ?_;apply jS;apply kW;apply j7;exact rfl;apply y8 rfl;apply wm;exact rfl;apply yZ rfl;generalize d+6=k at *;repeat' walk_at "e"
end
end Mine.L1
namespace Mine
theorem vj{α:Type}{h:List α}{x:α}:(h++[x])[h.length]? = some x:=by rw[kL (qW _),Nat.sub_self];rfl
namespace L1
section
variable {d:Nat}{h:List AObj}{st:Bool}{c e f:Int}
noncomputable def zw(c:Int):Sm:=⟨[(0,1)],c⟩
noncomputable def zg:AObj:=.dictI [(0,.pv (.int 1))]
theorem qbT(he:ja e)(hf:ja f)(hc:(c+f * e).natAbs<1000):qf P (d+3) 17 [.pv (zw c).pv,.pv (.int e),.pv (.int f)] ⟨h,st⟩=some (.pv (zw (c+f * e)).pv,⟨h++[zg],st⟩):=by
 have h1:=y6 d (.sm (zw c)) ⟨h,st⟩;have h2:=y6 d (.int e) ⟨h,st⟩;have h3:=Xa (d+1) hc ⟨h++[zg],st⟩;have h4:∀m s,kj .mul m (.pv (.int f)) (.pv (.int e)) s=some (.pv (.int (f * e)),s):=λm s=>wI hf he;have h5:yf .sortedKeys [.ref h.length] ⟨h++[zg],st⟩=some (.pv (.lst [.int 0]),⟨h++[zg],st⟩):=by
  show ob ((h++[zg])[h.length]?) _=_;rw[vj];rfl
 have h6:wv (.ref h.length) (.pv (.int 0)) ⟨h++[zg],st⟩=some (.pv (.int 1)):=by
  show ob ((h++[zg])[h.length]?) _=_;rw[vj];rfl
 show qf P (d+2+1) 17 _ _=_
 generalize d+2=k at h1 h2 h3 ⊢;apply qD f17 rfl rfl rfl
 ·show qy _ c17 _ _=_
  unfold c17;apply SA
  ·repeat' walk_at "e"
  ·exact rfl
  apply SA
  ·apply zT
   ·apply qh;exact rfl;apply qh;apply j8;apply qh;apply q8;exact rfl;apply q8;exact rfl;exact rfl;exact h4 _ _;exact rfl;exact qw;exact qV h3;exact qw
   ·exact rfl
  ·exact rfl
  apply qL;apply wN;exact rfl;exact Zg;apply qK;apply SA (v:=.pv (.tup [.tup [.int 0,.int 1]]))
  ·apply zt
   ·apply qh
    ·apply wa (vs:=[.pv (.tup [.int 0,.int 1])])
     ·apply zK
      ·apply zW;apply zt;exact rfl;exact h5;exact rfl
      ·exact rfl
      ·apply jh (ys:=[.pv (.tup [.int 0,.int 1])]) (zs:=[])
       ·exact rfl
       ·apply zu;apply qF;apply qT;exact rfl;exact rfl;exact h6;exact rfl;exact rfl;exact Kp rfl rfl
       ·apply wD rfl;apply wU;apply zT;apply qh;exact rfl;apply qh;apply qT;exact rfl;exact rfl;exact h6;exact qw;exact rfl
       ·exact rfl
       ·exact rfl
     ·exact rfl
     ·exact rfl
    ·exact qw
   ·exact rfl
  ·exact rfl
  exact SR rfl
 ·exact rfl
end
section
variable {d:Nat}{D:Dm×Dm}{pa:AV}{tl rest:List AObj}{st:Bool}{m m':M}{c e:Int}
theorem qng(hD1:gV D.1)(hD2:gV D.2){s:Sm}(hs:s=zw c):qf P (d+4) 25 [.ref 0,.pv (.str (ww true)),.pv s.pv] ⟨gm D pa tl m,st⟩=some (.pv (bif decide ((s.bnds D).2≤0)||decide (0<(s.bnds D).1) then .bool (decide ((s.bnds D).2≤0)) else (s.quo true).pv),⟨gm D pa tl m,st⟩):=by
 have hc:s.cs=[1]:=by rw[hs];rfl
 have h2:s.t.length≤2:=by rw[hs];exact jG rfl
 have h1:=y6 (d+1) (.sm s) ⟨gm D pa tl m,st⟩;have hb:=XY d (pa:=pa) (tl:=tl) (st:=st) (m:=m) (s:=s) (v:=.sm s) hD1 hD2 (by rw[hs];intro p hp;cases qQ.mp hp;exact⟨by decide,by show(1:Int).natAbs<1000;decide⟩) h2 rfl;have h3:qf P (d+3) 19 [.pv (.lst (qj s.cs))] ⟨gm D pa tl m,st⟩=some (.pv (.int s.g),⟨gm D pa tl m,st⟩):=Hq (qjh (d+2) ⟨gm D pa tl m,st⟩) (by rw[hc];exact qY ..);have hg:s.g=1∨s.g=2:=qeP _ (by rw[hc];exact qY ..);have l1:(qj s.cs).length≤jl:=by rw[hc];decide
 have e4:∀U,jD .le (.pv (.int (s.bnds D).2)) (.pv (.int 0)) U=some (decide ((s.bnds D).2≤0)):=λU=>rfl;have e5:∀U,jD .gt (.pv (.int (s.bnds D).1)) (.pv (.int 0)) U=some (decide (0<(s.bnds D).1)):=λU=>rfl;show qf P (d+3+1) 25 _ _=_
 generalize d+3=k at h1 hb h3 ⊢;apply qD (q:=(.ret (.pv (bif decide ((s.bnds D).2≤0)||decide (0<(s.bnds D).1) then .bool (decide ((s.bnds D).2≤0)) else (s.quo true).pv)),bif decide ((s.bnds D).2≤0)||decide (0<(s.bnds D).1) then G25 (.str (ww true)) s.pv s (s.bnds D).1 (s.bnds D).2 else qgx (.str (ww true)) s.pv s (s.bnds D).1 (s.bnds D).2)) (s':=⟨gm D pa tl m,st⟩) f25 rfl rfl rfl
 ·show qy _ c25 _ _=_
  unfold c25;apply SA
  ·repeat' walk_at "e"
  ·exact rfl
  apply wb;exact rfl;generalize decide ((s.bnds D).2≤0)=b1 at e4 ⊢;generalize decide (0<(s.bnds D).1)=b2 at e5 ⊢;have hor:qt (qH P (qf P k)) (G25 (.str (ww true)) s.pv s (s.bnds D).1 (s.bnds D).2) (.or (.cons (.cmp .le (.var 1) (.int 0)) (.cons (.cmp .gt (.var 0) (.int 0)) .nil))) ⟨gm D pa tl m,st⟩=some (.pv (.bool (b1||b2)),⟨gm D pa tl m,st⟩):=by
   apply kW;apply j7;apply qF;exact rfl;exact rfl;exact e4 _;induction b1 with
   |true=>exact xm rfl
   |false=>apply y8 rfl;apply wm;apply qF;exact rfl;exact rfl;exact e5 _
  cases hb:(b1||b2) with
  |true =>
   rw[hb] at hor;apply ZP rfl
   ·apply wb;exact hor;apply ZP rfl;apply SR;apply qF;exact rfl;exact rfl;exact e4 _;exact v9
   ·exact v9
  |false =>
   rw[hb] at hor;apply ZP rfl
   ·apply wb;exact hor;apply yW rfl;exact jM
   apply qK;apply SA
   ·apply zT
    ·apply qh;apply j8;apply qh;exact K3 h2 l1 rfl rfl rfl (qae s.t);exact qw;exact qV h3;apply qh;apply KQ;exact rfl;exact qw
    ·exact rfl
   ·exact rfl
   apply wb (c:=false)
   ·apply vK;apply j7;exact rfl;exact vY rfl
   apply yW rfl;apply SR;exact B7 (k:=k) h2 hg
 ·exact rfl
theorem xq(c:Int):((zw c).quo true).cs=[1]:=by show[(1:Int).fdiv (xM [1])]=[1];decide +kernel
noncomputable def jO(D:Dm×Dm)(e:Int)(m:M):Tr×M:=bif decide (((zw (-e)).bnds D).2≤0)||decide (0<((zw (-e)).bnds D).1) then (.b (decide (((zw (-e)).bnds D).2≤0)),m) else zv D ((zw (-e)).quo true) m
theorem qey(D:Dm×Dm)(e:Int)(m:M):Gr m (jO D e m).2 1:=by
 unfold jO;induction decide (((zw (-e)).bnds D).2≤0)||decide (0<((zw (-e)).bnds D).1) with
 |true=>exact(Gr.refl m).le (by decide)
 |false=>exact ZK ..
theorem qlN(hD1:gV D.1)(hD2:gV D.2)(he:e.natAbs<1000)(hl:Lt m 2):qf P (d+6) 37 [.ref 0,.pv (.str "<="),.pv (zw 0).pv,.pv (.int e)] ⟨gm D pa tl m,st⟩=some (.pv (jO D e m).1.pv,⟨gm D pa (tl++[zg,zg]) (jO D e m).2,st⟩):=by
 have p1:=qbT (d:=d+2) (h:=gm D pa tl m) (st:=st) (c:=0) (e:=e) (f:=-1) he (by show(-1:Int).natAbs<1000;decide) (by rw[Int.zero_add,Int.neg_one_mul,Int.natAbs_neg];exact he);have p2:=qbT (d:=d+2) (h:=gm D pa (tl++[zg]) m) (st:=st) (c:=0 + -1 * e) (e:=0) (f:=1) (by show(0:Int).natAbs<1000;decide) (by show(1:Int).natAbs<1000;decide) (by rw[Int.mul_zero,Int.add_zero,Int.zero_add,Int.neg_one_mul,Int.natAbs_neg];exact he);rw[show 0 + -1 * e+1 * 0 = -e by rw[Int.mul_zero,Int.add_zero,Int.zero_add,Int.neg_one_mul]] at p2;have hh:gm D pa (tl++[zg]) m++[zg]=gm D pa (tl++[zg,zg]) m:=qz (gh pa _ _ _) (wj tl [zg] [zg]);rw[hh] at p2;have hr:=qng (d:=d) (pa:=pa) (tl:=tl++[zg,zg]) (st:=st) (m:=m) hD1 hD2 (s:=zw (-e)) rfl;have ht:qf P (d+5) 26 [.ref 0,.pv (.str (ww true)),.pv (zw (-e)).pv] ⟨gm D pa (tl++[zg,zg]) m,st⟩=some (.pv (jO D e m).1.pv,⟨gm D pa (tl++[zg,zg]) (jO D e m).2,st⟩):=by
  unfold jO;cases hb:decide (((zw (-e)).bnds D).2≤0)||decide (0<((zw (-e)).bnds D).1) with
  |true=>rw[hb] at hr;exact qbX hr
  |false =>
   rw[hb] at hr;exact qfY (r:=(zw (-e)).quo true) (a:=1) (cs:=[]) (xq _) (by rw[xq];decide) hr (.inl ⟨by decide,qjj (v:=0) (vs:=[]) rfl (by decide) hl.ks hl.ts⟩)
 show qf P (d+5+1) 37 _ _=_
 generalize d+5=k at p1 p2 ht ⊢;apply qD f37 rfl rfl rfl
 ·show qy _ c37 _ _=_
  unfold c37;repeat' walk_at "e"
 ·exact rfl
end
end L1
theorem KM{α:Type}{h:List α}{x y:α}:(h++[x]).set h.length y=h++[y]:=by rw[List.set_append_right _ _ (qW _),Nat.sub_self];rfl
theorem qgk{α:Type}{h:List α}{x:α}:(h++[x]).take h.length=h:=List.take_left' rfl
theorem qly{k:BM}{h:List AObj}{l:List AV}{st:Bool}(hk:gj k=true):Kr k (.ref h.length) ⟨h++[.list l],st⟩=true:=qiF vj hk
theorem qjZ:∀l:List PV,(l.map AV.pv).all yz=true:=by
 intro l;induction l with
 |nil =>
  exact rfl
 |cons a r ih =>
  exact ih
namespace L1
noncomputable def qi(d:Dm):List Int:=d.flatMap λp=>jN p.1 (p.2+1)
theorem Yr(p:Int×Int)(h:(decide (p.1.natAbs<1000)&&decide (p.2.natAbs<1000))=true):(jN p.1 (p.2+1)).length≤2000∧yI p.1=true∧yI (p.2+1)=true:=by
 obtain⟨a,b⟩:=qc h;obtain⟨a1,a2⟩:=Z1 (qr a);obtain⟨b1,b2⟩:=Z1 (qr b);refine⟨?_,?_,?_⟩
 ·rw[jN,qE,List.length_range]
  exact Int.toNat_le.mpr (Int.sub_le_sub (Int.add_one_le_of_lt b2) (we a1))
 ·exact zp.mpr ⟨qN (we a1),qN (we a2)⟩
 ·exact zp.mpr ⟨qN (zB (we b1) (Int.le_add_one (Int.le_refl _))),qN (Int.add_one_le_of_lt b2)⟩
theorem Zt(a b:List Int):(qj (a++b)).map AV.pv=(qj a).map .pv++(qj b).map .pv:=by rw[qj,gU,gU];rfl
theorem qaA{C:Ctx}{h:List AObj}:∀{dm:Dm}{l:List Int}{J:Env},Yu dm=true→l.length+2000 * dm.length≤90000→J.get 40=some (.ref h.length) →
  ∃J',jw [] (λx J s=>ob (jC (.tup (.cons (.nm 0) (.cons (.nm 1) .nil))) x J) λJ'=>qy C (.cons (.expr (.bm .extend (.var 40) (.cons (.bi .listRange2 (.cons (.var 0) (.cons (.bin .add false (.var 1) (.int 1)) .nil))) .nil))) .nil) J' s) ((dm.map yH).map .pv) J ⟨h++[.list ((qj l).map .pv)],true⟩=some ((.next,J'),⟨h++[.list ((qj (l++qi dm)).map .pv)],true⟩)∧J'.get 40=some (.ref h.length):=by
 intro dm;induction dm with
 |nil =>
  intro l J _ _ g;exact⟨J,by rw[show l++qi []=l from zR _];rfl,g⟩
 |cons p r ih =>
  intro l J hs hl g;obtain⟨h1,h2⟩:=qc hs;obtain⟨r1,r2,r3⟩:=Yr p h1;have hl':l.length+2000 * r.length+2000≤90000:=hl;have hlen:(l++jN p.1 (p.2+1)).length+2000 * r.length≤90000:=by rw[qU,Nat.add_right_comm];exact qu (j3 r1 _) hl'
  have g1:((J.put 0 (.pv (.int p.1))).put 1 (.pv (.int p.2))).get 40=some (.ref h.length):=qd rfl (qd rfl g);obtain⟨J',e,ge⟩:=ih (l:=l++jN p.1 (p.2+1)) (J:=(J.put 0 (.pv (.int p.1))).put 1 (.pv (.int p.2))) h2 hlen g1;rw[wj] at e;refine⟨J',zJ (s1:=⟨h++[.list ((qj (l++jN p.1 (p.2+1))).map .pv)],true⟩) (fl:=(.next,(J.put 0 (.pv (.int p.1))).put 1 (.pv (.int p.2)))) rfl (SX (v:=.pv .none) ?_ jM) (zn rfl e),ge⟩;apply XU (v:=.ref h.length) (s1:=⟨h++[.list ((qj l).map .pv)],true⟩) (vs:=[.pv (.lst (qj (jN p.1 (p.2+1))))]) (s2:=⟨h++[.list ((qj l).map .pv)],true⟩)
  ·exact qg g1
  ·exact qly rfl
  ·refine qh (zt (qh (qg (qd rfl qn)) (qh (q8 (qg qn) rfl rfl) qw)) ?_) qw
   show(if (yI p.1&&yI (p.2+1))=true then _ else _)=_
   rw[r2,r3];rfl
  ·show ob ((h++[AObj.list ((qj l).map .pv)])[h.length]?) _=_
   rw[vj];show(if ((((qj (jN p.1 (p.2+1))).map AV.pv).all yz||!true)&&(decide (((qj l).map AV.pv).length+((qj (jN p.1 (p.2+1))).map AV.pv).length<jl)&&true))=true then _ else _)=_
   rw[qjZ,qN (by simp only[qj,qE];exact q6 (show l.length+(jN p.1 (p.2+1)).length<90001 from vI (qu (qS _ (2000 * r.length)) (qU .. ▸ hlen))) (by decide))];refine qz (λx=>some (AV.pv PV.none,(⟨x,true⟩:St))) (KM.trans ?_);rw[Zt]
section
variable (d:Nat)
theorem Yd{dm:Dm}{h:List AObj}{st:Bool}(hs:zO dm=true)(hl:dm.length≤2):qf P (d+1) 38 [.pv (jm dm)] ⟨h,st⟩=some (.pv (.lst (qj (qi dm))),⟨h,st⟩):=by
 obtain⟨J',e,g⟩:=qaA (C:=qH P (qf P d)) (h:=h) (dm:=dm) (l:=[]) (J:=[(20,.pv (jm dm)),(40,.ref h.length)]) (qc hs).2 (by show 0+2000 * dm.length≤90000;omega) rfl;apply HP (q:=(.ret (.pv (.lst (qj (qi dm)))),J')) (s':=⟨h++[.dead],true⟩) (p:=.lst (qj (qi dm))) f38 rfl rfl rfl
 ·show qy _ c38 _ _=_
  unfold c38;apply SA;exact rfl;exact rfl;apply qL;apply wN;exact zW rfl (kH (wR hl));exact e;apply qK;apply qL (fl:=(.ret (.pv (.lst (qj (qi dm)))),J')) (s1:=⟨h++[.dead],true⟩)
  ·show bnd (qt _ _ (.var 40) _) _=_
   rw[qg g];show ob ((h++[AObj.list ((qj ([]++qi dm)).map .pv)])[h.length]?) _=_
   rw[vj];show some ((Flow.ret (mkLst ((qj ([]++qi dm)).map .pv)),J'),(⟨(h++[_]).set h.length .dead,true⟩:St))=_
   rw[KM,wi];rfl
  ·exact v9
 ·exact rfl
 ·show some (_,(⟨(h++[AObj.dead]).take h.length,st⟩:St))=_
  rw[qgk]
end
end L1
end Mine
namespace Mine.L1
noncomputable def ql(w:List Int)(v:Nat):Int:=w.getD v 0
noncomputable def kJ(w:List Int):Int→List Int→List Nat→Int
 |acc,a::cs,v::vs=>kJ w (acc+a * ql w v) cs vs
 |acc,_,_=>acc
noncomputable def Row.holds(r:Row)(w:List Int):Bool:=bif r.le then decide (kJ w 0 r.cs r.vs≤r.c) else kJ w 0 r.cs r.vs == r.c
noncomputable def met(w:List Int):Told→Bool
 | .lin r=>r.holds w
 | .reif b r=>r.holds w == (ql w b == 1)
 | .imp b r=>r.holds w||ql w b == 0
 | .cl n s=>bif s then ql w n == 1 else ql w n == 0
noncomputable def y9(n:Nat)(r:Row):Prop:=(∀a∈r.cs,ja a)∧(∀v∈r.vs,v<n)∧r.cs.length≤3∧r.vs.length≤3
noncomputable def zy(n:Nat):Told→Prop
 | .lin r=>r.le=false∧y9 n r
 | .reif b r=>b<n∧y9 n r
 | .imp b r=>b<n∧y9 n r
 | .cl b s=>b<n
noncomputable def Qb(w:List Int):Prop:=∀a∈w,ja a
theorem qls(h:Qb w)(v:Nat):ja (ql w v):=by
 unfold ql List.getD;cases hv:w[v]? with
 |none=>show(0:Int).natAbs<1000;decide
 |some a=>exact h a (x6 hv)
theorem wQ{w:List Int}{v:Nat}(h:v<w.length)(h9:w.length<900){s:St}:wv (.pv (.lst (qj w))) (.pv (.int v)) s=some (.pv (.int (ql w v))):=by
 refine gE (l:=(qj w).map AV.pv) (n:=v) (jp (jp h h9) (by decide)) ?_;rw[kO,qj,kO,ql,List.getD,zm h];rfl
noncomputable def HEq(J J':Env):Prop:=∀i,(52 == i)=false→(75 == i)=false→(95 == i)=false→J'.get i=J.get i
theorem qim{C:Ctx}{s:St}{w:List Int}(hw:Qb w)(h9:w.length<900):∀{cs:List Int}{vs:List Nat}{acc:Int}{J:Env},(∀a∈cs,ja a)→(∀v∈vs,v<w.length)→J.get 52=some (.pv (.int acc))→J.get 94=some (.pv (.lst (qj w))) →
  ∃J',jw [] (λx J s=>ob (jC (.tup (.cons (.nm 95) (.cons (.nm 75) .nil))) x J) λJ'=>qy C (.cons (.assign (.nm 52) (.bin .add false (.var 52) (.bin .mul false (.var 95) (.sub (.var 94) (.var 75))))) .nil) J' s) (Qa ((qj cs).map .pv) ((jK vs).map .pv)) J s=some ((.next,J'),s)∧J'.get 52=some (.pv (.int (kJ w acc cs vs)))∧HEq J J':=by
 intro cs;induction cs with
 |nil =>
  intro vs acc J _ _ h5 _;exact⟨J,rfl,h5,λB B B B=>rfl⟩
 |cons a cs ih =>
  intro c2q;rcases c2q with _ | ⟨v,vs⟩
  ·intro acc J _ _ h5 _
   exact⟨J,rfl,h5,λB B B B=>rfl⟩
  ·intro acc J ha hv h5 h94
   have g94:((J.put 95 (.pv (.int a))).put 75 (.pv (.int v))).get 94=_:=qd rfl (qd rfl h94);obtain⟨J',e,g,q⟩:=ih (vs:=vs) (acc:=acc+a * ql w v) (J:=(((J.put 95 (.pv (.int a))).put 75 (.pv (.int v)))).put 52 (.pv (.int (acc+a * ql w v)))) (λx hx=>ha x (jg _ hx)) (λx hx=>hv x (jg _ hx)) qn (qd rfl g94);refine⟨J',zJ (s1:=s) (fl:=(.next,_)) rfl (SA (v:=.pv (.int (acc+a * ql w v))) ?_ rfl jM) (zn rfl e),g,λi a b c=>by rw[q i a b c,yg a,yg b,yg c]⟩;exact q8 (qg (qd rfl (qd rfl h5))) (q8 (qg (qd rfl qn)) (qT (qg g94) (qg qn) (wQ (hv v (qY ..)) h9)) (wI (ha a (qY ..)) (qls hw v))) rfl
noncomputable def Told.row:Told→Row
 | .lin r=>r
 | .reif _ r=>r
 | .imp _ r=>r
 | .cl _ _=>⟨false,[],[],0⟩
noncomputable def Told.nm:Told→Str
 | .lin _ => "linear_eq"
 | .reif _ _ => "reif"
 | .imp _ _ => "imp"
 | .cl _ _ => "clause"
theorem qnr:jD .eq (.pv (.str a)) (.pv (.str b)) s=some (a == b):=rfl
theorem qez(ha:qt C (Env.del [75] J) a s=some (.pv (.tup [.int n]),s))(hc:qt C ((Env.del [75] J).put 75 (.pv (.int n))) c s=some (.pv (.bool x),s)):
  qt C J (.comp [75] (.cons (.nm 75) (.it a) (.cons c .nil) (.elt (.var 75)))) s=some (.pv (.lst (bif x then [.int n] else [])),s):=by
 induction x with
 |true=>exact wa (zK (zW ha rfl) (w8 (jE rfl)) (jh (ys:=[.pv (.int n)]) (zs:=[]) rfl (zu hc (Kp rfl rfl)) (wD rfl (wU (qg qn))) rfl rfl)) rfl rfl
 |false=>exact wa (zK (zW ha rfl) (w8 (jE rfl)) (jh (ys:=[]) (zs:=[]) rfl (zu hc (Ko rfl)) (Zi rfl) rfl rfl)) rfl rfl
section
variable {d:Nat}{t:Told}{w:List Int}
noncomputable def G42(t:Told)(w:List Int):Env:=[(22,.pv t.pv),(94,.pv (.lst (qj w)))]
theorem Hs(hw:Qb w)(h9:w.length<900)(hr:y9 w.length t.row)(hk:(t.nm == "clause")=false)(e22:∀C s,qt C (G42 t w) (.ife (.cmp .eq (.sub (.var 22) (.int 0)) (.str "linear_eq")) (.var 22) (.sub (.var 22) (.int 2))) s=some (.pv t.row.pv,s))(e0:∀J C s,J.get 22=some (.pv t.pv)→qt C J (.sub (.var 22) (.int 0)) s=some (.pv (.str t.nm),s))(s:St)(hT:∀J C,J.get 22=some (.pv t.pv)→J.get 94=some (.pv (.lst (qj w)))→J.get 96=some (.pv (.bool (t.row.holds w)))→qy C (.cons (.ifS (.cmp .eq (.sub (.var 22) (.int 0)) (.str "linear_eq")) (.cons (.ret (.var 96)) .nil) .nil) (.cons (.ret (.ife (.cmp .eq (.sub (.var 22) (.int 0)) (.str "reif")) (.cmp .eq (.var 96) (.cmp .eq (.sub (.var 94) (.sub (.var 22) (.int 1))) (.int 1))) (.or (.cons (.var 96) (.cons (.cmp .eq (.sub (.var 94) (.sub (.var 22) (.int 1))) (.int 0)) .nil))))) .nil)) J s=some ((.ret (.pv (.bool b)),J),s)):
  qf P (d+1) 42 [.pv t.pv,.pv (.lst (qj w))] s=some (.pv (.bool b),s):=by
 obtain⟨h,st⟩:=s;obtain⟨h1,h2,h3,h4⟩:=hr
 let J0:Env:=[(22,.pv t.pv),(94,.pv (.lst (qj w))),(30,.pv (.str (ww t.row.le))),(56,.pv (.tup (qj t.row.cs))),(55,.pv (.tup (jK t.row.vs))),(60,.pv (.int t.row.c)),(52,.pv (.int 0))]
 obtain⟨J',e,g,q⟩:=qim (C:=qH P (qf P d)) (s:=⟨h,st⟩) hw h9 (cs:=t.row.cs) (vs:=t.row.vs) (acc:=0) (J:=J0) h1 h2 rfl rfl;have c1:qt (qH P (qf P d)) J' (.ife (.cmp .eq (.var 30) (.str "linear_le")) (.cmp .le (.var 52) (.var 60)) (.cmp .eq (.var 52) (.var 60))) ⟨h,st⟩=some (.pv (.bool (t.row.holds w)),⟨h,st⟩):=by
  have g30:J'.get 30=some (.pv (.str (ww t.row.le))):=q 30 rfl rfl rfl;have g60:J'.get 60=some (.pv (.int t.row.c)):=q 60 rfl rfl rfl;unfold Row.holds;cases hl:t.row.le with
  |true=>rw[hl] at g30;exact jS (qF (qg g30) rfl rfl) (vw rfl (qF (qg g) (qg g60) rfl))
  |false=>rw[hl] at g30;exact jS (qF (qg g30) rfl rfl) (yZ rfl (qF (qg g) (qg g60) rfl))
 have g22:J'.get 22=some (.pv t.pv):=q 22 rfl rfl rfl;have g94:J'.get 94=some (.pv (.lst (qj w))):=q 94 rfl rfl rfl;apply qD (q:=(.ret (.pv (.bool b)),J'.put 96 (.pv (.bool (t.row.holds w))))) (s':=⟨h,st⟩) f42 rfl rfl rfl
 ·show qy _ c42 _ _=_
  unfold c42;apply wb (c:=false)
  ·apply qF;exact e0 _ _ _ rfl;exact rfl;rw[qnr,hk]
  apply yW rfl;apply SA;exact e22 _ _;exact rfl;apply SA;exact rfl;exact rfl;apply qL
  ·apply wN (src:=⟨Qa ((qj t.row.cs).map .pv) ((jK t.row.vs).map .pv),[]⟩)
   ·exact qck (x:=⟨(qj t.row.cs).map .pv,[]⟩) (y:=⟨(jK t.row.vs).map .pv,[]⟩) rfl rfl (kH (by rw[qj,qE];exact qu h3 (by decide))) (kH (by rw[jK,qE];exact qu h4 (by decide)))
   ·exact e
  apply qK;apply SA;exact c1;exact rfl;exact hT _ _ (qd rfl g22) (qd rfl g94) qn
 ·exact rfl
theorem qmz(hw:Qb w)(h9:w.length<900)(ht:zy w.length t)(s:St):qf P (d+1) 42 [.pv t.pv,.pv (.lst (qj w))] s=some (.pv (.bool (met w t)),s):=by
 induction t with
 |lin r =>
  obtain⟨hl,hr⟩:=ht;have hk:ww r.le = "linear_eq" := by rw[hl];rfl
  have e0:∀J C s,Env.get J 22=some (.pv (Told.lin r).pv)→qt C J (.sub (.var 22) (.int 0)) s=some (.pv (.str "linear_eq"),s):=λJ C s g=>by rw[←hk];exact qT (qg g) rfl rfl
  refine Hs (t:=.lin r) hw h9 hr (by show(Str.ofString "linear_eq" == Str.ofString "clause")=false;decide +kernel) (λC s=>?_) e0 s (λJ C g22 g94 g96=>?_)
  ·exact jS (qF (e0 _ _ _ rfl) rfl rfl) (vw rfl rfl)
  ·exact wb (qF (e0 _ _ _ g22) rfl rfl) (ZP rfl (SR (qg g96)) v9)
 |reif b r =>
  obtain⟨hb,hr⟩:=ht;have e0:∀J C s,Env.get J 22=some (.pv (Told.reif b r).pv)→qt C J (.sub (.var 22) (.int 0)) s=some (.pv (.str "reif"),s):=λJ C s g=>qT (qg g) rfl rfl;refine Hs (t:=.reif b r) hw h9 hr (by show(Str.ofString "reif" == Str.ofString "clause")=false;decide +kernel) (λC s=>?_) e0 s (λJ C g22 g94 g96=>?_)
  ·exact jS (qF (e0 _ _ _ rfl) rfl rfl) (yZ rfl (qT (qg rfl) rfl rfl))
  ·exact wb (qF (e0 _ _ _ g22) rfl rfl) (yW rfl (SR (jS (qF (e0 _ _ _ g22) rfl rfl) (vw rfl (qF (qg g96) (qF (qT (qg g94) (qT (qg g22) rfl rfl) (wQ hb h9)) rfl rfl) rfl)))))
 |imp b r =>
  obtain⟨hb,hr⟩:=ht;have e0:∀J C s,Env.get J 22=some (.pv (Told.imp b r).pv)→qt C J (.sub (.var 22) (.int 0)) s=some (.pv (.str "imp"),s):=λJ C s g=>qT (qg g) rfl rfl;refine Hs (t:=.imp b r) hw h9 hr (by show(Str.ofString "imp" == Str.ofString "clause")=false;decide +kernel) (λC s=>?_) e0 s (λJ C g22 g94 g96=>?_)
  ·exact jS (qF (e0 _ _ _ rfl) rfl rfl) (yZ rfl (qT (qg rfl) rfl rfl))
  ·refine wb (qF (e0 _ _ _ g22) rfl rfl) (yW rfl (SR (jS (qF (e0 _ _ _ g22) rfl rfl) (yZ rfl ?_))))
   show qt C J (.or _) s=some (.pv (.bool (r.holds w||ql w b == 0)),s)
   have g:J.get 96=some (.pv (.bool (r.holds w))):=g96;apply kW;apply j7;exact qg g;induction r.holds w with
   |true=>exact xm rfl
   |false=>exact y8 rfl (wm (qF (qT (qg g94) (qT (qg g22) rfl rfl) (wQ hb h9)) rfl rfl))
 |cl n b =>
  have hn:n<w.length:=ht;have e2:∀(J:Env) C s,J.get 94=some (.pv (.lst (qj w)))→qt C (J.put 75 (.pv (.int n))) (.cmp .eq (.sub (.var 94) (.var 75)) (.int 1)) s=some (.pv (.bool (ql w n == 1)),s):=λJ C s b=>qF (qT (qg (qd rfl b)) (qg qn) (wQ hn h9)) rfl rfl;have e3:∀(J:Env) C s,J.get 94=some (.pv (.lst (qj w)))→qt C (J.put 75 (.pv (.int n))) (.cmp .eq (.sub (.var 94) (.var 75)) (.int 0)) s=some (.pv (.bool (ql w n == 0)),s):=λJ C s b=>qF (qT (qg (qd rfl b)) (qg qn) (wQ hn h9)) rfl rfl;obtain⟨h,st⟩:=s;have fin:∀(b x:Bool),qt (qH P (qf P d)) (G42 (.cl n b) w) (.or (.cons (.cmp .ne (.comp [75] (.cons (.nm 75) (.it (.sub (.var 22) (.int 1))) (.cons (.cmp .eq (.sub (.var 94) (.var 75)) (.int 1)) .nil) (.elt (.var 75)))) (.list false .nil)) (.cons (.cmp .ne (.comp [75] (.cons (.nm 75) (.it (.sub (.var 22) (.int 2))) (.cons (.cmp .eq (.sub (.var 94) (.var 75)) (.int 0)) .nil) (.elt (.var 75)))) (.list false .nil)) .nil))) ⟨h,st⟩=some (.pv (.bool x),⟨h,st⟩) →
    qf P (d+1) 42 [.pv (Told.cl n b).pv,.pv (.lst (qj w))] ⟨h,st⟩=some (.pv (.bool x),⟨h,st⟩):=λb x e=>by
   apply qD (q:=(.ret (.pv (.bool x)),G42 (.cl n b) w)) (s':=⟨h,st⟩) f42 rfl rfl rfl
   ·show qy _ c42 _ _=_
    unfold c42;exact wb rfl (ZP rfl (SR e) v9)
   ·exact rfl
  refine fin b _ ?_;induction b with
  |true =>
   show _=some (AV.pv (.bool (ql w n == 1)),_)
   have hc:=qez (C:=qH P (qf P d)) (J:=G42 (.cl n true) w) (s:=⟨h,st⟩) (n:=n) (a:=.sub (.var 22) (.int 1)) rfl (e2 _ _ _ rfl);apply kW;apply j7;apply qF;exact hc;exact rfl;exact qdb rfl;induction ql w n == 1 with
   |true=>exact xm rfl
   |false=>exact y8 rfl (wm rfl)
  |false =>
   show _=some (AV.pv (.bool (ql w n == 0)),_)
   have hc:=qez (C:=qH P (qf P d)) (J:=G42 (.cl n false) w) (s:=⟨h,st⟩) (n:=n) (a:=.sub (.var 22) (.int 2)) rfl (e3 _ _ _ rfl);apply kW;apply j7;exact rfl;apply y8 rfl;apply wm;apply qF;exact hc;exact rfl;refine(qdb (p:=.lst (bif ql w n == 0 then [.int n] else [])) (q:=.lst []) rfl).trans ?_;induction ql w n == 0 <;> rfl
end
noncomputable def vW:Told→List Nat
 | .lin r=>r.vs
 | .reif b r=>b::r.vs
 | .imp b r=>b::r.vs
 | .cl n s=>[n]
noncomputable def KC:Nat→List Nat→Nat
 |a,[]=>a
 |a,b::r=>KC (if a<b then b else a) r
noncomputable def jj(t:Told):Nat:=match vW t++[1] with
 |[]=>0
 |a::r=>KC a r
theorem qfs:∀(r:List Nat) (a:Nat),wx (a:Int) (r.map λn:Nat=>(n:Int))=(KC a r:Nat):=by
 intro r;induction r with
 |nil =>
  intro a;exact rfl
 |cons b r ih =>
  intro a;show wx (if (a:Int)<b then (b:Int) else a) _=(KC (if a<b then b else a) r:Nat)
  rw[←ih];by_cases h:a<b
  ·rw[if_pos h,if_pos (yr.mpr h)]
  ·rw[if_neg h,if_neg (λq=>h (yr.mp q))]
theorem qkl:∀(r:List Nat) (a:Nat),a≤KC a r∧∀b∈r,b≤KC a r:=by
 intro r;induction r with
 |nil =>
  intro a;exact⟨qW _,λB h=>nomatch h⟩
 |cons c r ih =>
  intro a;obtain⟨h1,h2⟩:=ih (if a<c then c else a);have hle:a≤(if a<c then c else a)∧c≤(if a<c then c else a):=by
   by_cases q:a<c
   ·rw[if_pos q];exact⟨jz q,qW _⟩
   ·rw[if_neg q];exact⟨qW _,Nat.not_lt.mp q⟩
  refine⟨qu hle.1 h1,λb hb=>?_⟩;cases hb with
  |head=>exact qu hle.2 h1
  |tail _ hb=>exact h2 b hb
theorem qkm:∀(r:List Nat) (a:Nat),a<n→(∀b∈r,b<n)→KC a r<n:=by
 intro r;induction r with
 |nil =>
  intro a h _;exact h
 |cons c r ih =>
  intro a h hr;exact ih _ (by split <;> first | exact h | exact hr c (qY ..)) λb hb=>hr b (jg _ hb)
theorem QL(t:Told):1≤jj t∧∀v∈vW t,v≤jj t:=by
 unfold jj;cases h:vW t with
 |nil=>exact⟨qW _,λB h=>nomatch h⟩
 |cons a r =>
  obtain⟨h1,h2⟩:=qkl (r++[1]) a;refine⟨h2 1 (by simp),λv hv=>?_⟩;cases hv with
  |head=>exact h1
  |tail _ hv=>exact h2 v (List.mem_append_left _ hv)
theorem Hh(h1:1<n)(h:∀v∈vW t,v<n):jj t<n:=by
 unfold jj;cases hv:vW t with
 |nil=>exact h1
 |cons a r =>
  rw[hv] at h;refine qkm _ _ (h a (qY ..)) λb hb=>?_;rcases yN.mp hb with hb | hb
  ·exact h b (jg _ hb)
  ·rw[qQ.mp hb];exact h1
theorem qgC:∀l:List Nat,z0 ((jK l).map .pv)=some (l.map λn:Nat=>(n:Int)):=by
 intro l;induction l with
 |nil =>
  exact rfl
 |cons a r ih =>
  show(z0 ((jK r).map .pv)).map _=_;rw[ih];rfl
theorem qhA:yf .max1 [.pv (.lst (jK (vW t++[1])))] s=some (.pv (.int (jj t)),s):=by
 show ob (z0 ((jK (vW t++[1])).map .pv)) (λis=>Yn is λa r=>some (AV.pv (.int (wx a r)),s))=_
 rw[qgC];unfold jj;induction vW t using List.casesOn with
 |nil=>rfl
 |cons a r=>show some (AV.pv (.int (wx a ((r++[1]).map _))),s)=_;rw[qfs];rfl
noncomputable def jk(t:Tr)(w:List Int):Bool:=match t with
 | .b v=>v
 | .bit n b=>(ql w n == 1) == b
section
variable {d:Nat}{t:Told}{w:List Int}
theorem Yh(h:l.length≤3):yf .list [.pv (.tup (jK l))] s=some (.pv (.lst (jK l)),s):=by
 show(if (true&&decide (((jK l).map AV.pv).length≤jl))=true then some (mkLst ((jK l).map AV.pv),s) else none)=_
 rw[qN (by rw[jK,qE,qE];exact qu h (by decide)),wi];rfl
theorem HT{l:List Nat}{b:Nat}{s:St}(h:l.length≤3):kj .add false (.pv (.lst [.int b])) (.pv (.lst (jK l))) s=some (.pv (.lst (jK (b::l))),s):=by
 show(if 1+((jK l).map AV.pv).length≤jl then some (mkLst ((PV.int b::jK l).map AV.pv),s) else none)=_
 rw[if_pos (by rw[jK,qE,qE,jH];exact qu (yn h 1) (by decide)),wi];rfl
theorem qgE(h:l.length≤4):kj .add false (.pv (.lst (jK l))) (.pv (.lst [.int 1])) s=some (.pv (.lst (jK (l++[1]))),s):=by
 show(if ((jK l).map AV.pv).length+1≤jl then some (mkLst ((jK l).map AV.pv++[.pv (.int 1)]),s) else none)=_
 rw[if_pos (by rw[jK,qE,qE];exact qu (yn h 1) (by decide)),show(jK l).map AV.pv++[.pv (.int 1)]=(jK (l++[1])).map AV.pv by rw[jK,jK,gU,gU];rfl,wi]
theorem qis(h:zy n t):(vW t).length≤4:=by
 induction t with
 |lin r=>exact qu h.2.2.2.2 (by decide)
 |reif b r=>exact zZ h.2.2.2.2
 |imp b r=>exact zZ h.2.2.2.2
 |cl n s=>exact jG rfl
theorem qoe(h:zy n t)(s:St):qf P (d+1) 41 [.pv t.pv] s=some (.pv (.lst (jK (vW t))),s):=by
 obtain⟨hp,st⟩:=s;induction t with
 |lin r =>
  obtain⟨hl,hr⟩:=h;have e:(Told.lin r).pv = .tup [.str "linear_eq", .tup (qj r.cs),.tup (jK r.vs),.int r.c]:=by show PV.tup [.str (ww r.le),_,_,_]=_;rw[hl];rfl
  rw[e];apply qD f41 rfl rfl rfl
  ·show qy _ DP _ _=_
   unfold DP;exact wb rfl (yW rfl (wb rfl (ZP rfl (SR (zt rfl (Yh hr.2.2.2))) v9)))
  ·exact rfl
 |reif b r =>
  apply qD f41 rfl rfl rfl
  ·show qy _ DP _ _=_
   unfold DP;exact wb rfl (yW rfl (wb rfl (yW rfl (SR (q8 rfl (zt rfl (Yh h.2.2.2.2)) (HT h.2.2.2.2))))))
  ·exact rfl
 |imp b r =>
  apply qD f41 rfl rfl rfl
  ·show qy _ DP _ _=_
   unfold DP;exact wb rfl (yW rfl (wb rfl (yW rfl (SR (q8 rfl (zt rfl (Yh h.2.2.2.2)) (HT h.2.2.2.2))))))
  ·exact rfl
 |cl n s=>induction s <;> rfl
theorem qin{t:Tr}(h:∀n b,t = .bit n b→n<w.length)(h9:w.length<900)(s:St):qf P (d+1) 44 [.pv t.pv,.pv (.lst (qj w))] s=some (.pv (.bool (jk t w)),s):=by
 obtain⟨hp,st⟩:=s;induction t with
 |b v=>rfl
 |bit n b =>
  apply qD f44 rfl rfl rfl
  ·show qy _ c44 _ _=_
   unfold c44;exact SR (jS rfl (yZ rfl (qF (qF (qT rfl (qT rfl rfl rfl) (wQ (h n b rfl) h9)) rfl rfl) (qT rfl rfl rfl) rfl)))
  ·exact rfl
end
noncomputable def jc(w:List Int):AV:=.pv (.lst (qj w))
noncomputable def QC:Option Int→AV
 |none=>.pv .none
 |some v=>.pv (.int v)
noncomputable def j5(w:List Int):Option Int→List Int
 |none=>w
 |some v=>w++[v]
noncomputable def yj(bz:List Told)(w:List Int)(c:Option Int):List (List Int):=bif bz.all (met (j5 w c)) then [j5 w c] else []
theorem qeI(l:List PV):qJ (.lst l) (.lst [])=l.isEmpty:=by rcases l <;> rfl
theorem qgY{α:Type}(p:α→Bool):∀l:List α,(l.filter λa=>!p a).isEmpty=l.all p:=by
 intro l;induction l with
 |nil =>
  exact rfl
 |cons a r ih =>
  rw[List.filter_cons,List.all_cons];induction p a with
  |true=>exact ih
  |false=>rfl
section
variable {d:Nat}{w:List Int}{s:St}
theorem qjM(hh:jB held s=true)(hw:Qb w)(h9:w.length<900)(g:J.get 99=some (jc w)):∀{ts:List Told},(∀t∈ts,zy w.length t) →
  vB (qH P (qf P (d+1))) J (.nm 22) (.cons (.not (.call 42 (.cons (.var 22) (.cons (.var 99) .nil)))) .nil) (.elt (.var 22)) held (jo ts) s=some (jo (ts.filter λt=>!met w t),s):=by
 intro ts;induction ts with
 |nil =>
  intro _;exact rfl
 |cons t r ih =>
  intro h;have e:=qmz (d:=d) hw h9 (h t (qY ..)) s;have hc:qt (qH P (qf P (d+1))) (J.put 22 (.pv t.pv)) (.not (.call 42 (.cons (.var 22) (.cons (.var 99) .nil)))) s=some (.pv (.bool (!met w t)),s) :=
   YC (j8 (qh (qg qn) (qh (qg (qd rfl g)) qw)) (qV e))
  have hr:=ih λx hx=>h x (jg _ hx);rw[List.filter_cons];cases hm:met w t with
  |true=>rw[hm] at hc;exact jh (ys:=[]) rfl (zu hc (Ko rfl)) (Zi rfl) hh hr
  |false=>rw[hm] at hc;exact jh (ys:=[.pv t.pv]) rfl (zu hc (Kp rfl rfl)) (wD rfl (wU (qg qn))) hh hr
theorem qjL{J:Env}{BL:List AV}{z q:Nat}{bz:List Told}(hz:z<900)(h1:BL[z]? = some (.ref q))(h2:s.heap[q]? = some (.list (jo bz)))(hlen:bz.length<900)(hw:Qb w)(h9:w.length<900)(hb:∀t∈bz,zy w.length t)(g99:J.get 99=some (jc w))(g100:J.get 100=some (.lstR BL))(g75:J.get 75=some (.pv (.int z))):
  qt (qH P (qf P (d+1))) J (.cmp .eq (.comp [22] (.cons (.nm 22) (.it (.sub (.var 100) (.var 75))) (.cons (.not (.call 42 (.cons (.var 22) (.cons (.var 99) .nil)))) .nil) (.elt (.var 22)))) (.list false .nil)) s=some (.pv (.bool (bz.all (met w))),s):=by
 apply qF
 ·apply wa
  ·apply zK
   ·apply zW
    ·exact qT (qg (jx rfl g100)) (qg (jx rfl g75)) (gE (l:=BL) (jp hz (by decide)) h1)
    ·exact Yv h2 (qN (by rw[vF];exact qu (jz hlen) (by decide)))
   ·exact w8 (jE rfl)
   ·exact qjM (gd h2) hw h9 (jx rfl g99) hb
  ·exact qN (by rw[vF];exact qu (qu (List.length_filter_le ..) (jz hlen)) (by decide))
  ·exact(qz mkLst (show jo (bz.filter λt=>!met w t)=((bz.filter λt=>!met w t).map Told.pv).map .pv by rw[vJ];rfl)).trans (wi _)
 ·exact rfl
 ·refine(X0 (p:=.lst _) (q:=.lst []) rfl).trans ?_;rw[qeI,List.isEmpty_map,qgY]
end
noncomputable def qoz(J J':Env):Prop:=∀i,(6 == i)=false→(99 == i)=false→J'.get i=J.get i
noncomputable def qlk(J J':Env):Prop:=∀i,(6 == i)=false→(99 == i)=false→(94 == i)=false→J'.get i=J.get i
section
variable {d:Nat}{H:List AObj}{BL:List AV}{z q:Nat}{bz:List Told}{k:Nat}
theorem Kh{H:List AObj}{q:Nat}(h:H[q]? = some x):(H++[y])[q]? = some x:=by rw[wK (jL.mp h).1];exact h
theorem qnF{H:List AObj}(h:acc.length<99000):Zr .append (.ref H.length) [.pv v] ⟨H++[.list acc],true⟩=some (.pv .none,⟨H++[.list (acc++[.pv v])],true⟩):=by
 rw[xn (l:=acc) vj rfl (jp h (by decide))];show some (_,(⟨(H++[_]).set H.length _,true⟩:St))=_
 rw[KM]
theorem qgB(h9:w.length<900):kj .add false (jc w) (.pv (.lst [.int v])) s=some (jc (w++[v]),s):=by
 show(if ((qj w).map AV.pv).length+1≤jl then some (mkLst ((qj w).map AV.pv++[.pv (.int v)]),s) else none)=_
 rw[if_pos (by rw[qj,qE,qE];exact qu h9 (by decide)),show(qj w).map AV.pv++[.pv (.int v)]=(qj (w++[v])).map AV.pv from(Zt w [v]).symm,wi];rfl
noncomputable abbrev qcw:CSs:=.cons (.assign (.nm 99) (.ife (.cmp .is (.var 6) .none) (.var 94) (.bin .add false (.var 94) (.list false (.cons (.var 6) .nil))))) (.cons (.ifS (.cmp .eq (.comp [22] (.cons (.nm 22) (.it (.sub (.var 100) (.var 75))) (.cons (.not (.call 42 (.cons (.var 22) (.cons (.var 99) .nil)))) .nil) (.elt (.var 22)))) (.list false .nil)) (.cons (.expr (.bm .append (.var 98) (.cons (.var 99) .nil))) .nil) .nil) .nil)
theorem qes(hz:z<900)(h1:BL[z]? = some (.ref q))(h2:H[q]? = some (.list (jo bz)))(hlen:bz.length<900){w:List Int}:∀{cs:List (Option Int)}{acc:List (List Int)}{J:Env},
  (∀c∈cs,Qb (j5 w c)∧(j5 w c).length<900∧∀t∈bz,zy (j5 w c).length t)→w.length<900→acc.length+cs.length<99000→J.get 94=some (jc w)→J.get 100=some (.lstR BL)→J.get 75=some (.pv (.int z))→J.get 98=some (.ref H.length) →
  ∃J',jw [] (λx J s=>ob (jC (.nm 6) x J) λJ'=>qy (qH P (qf P (d+1))) qcw J' s) (cs.map QC) J ⟨H++[.list (acc.map jc)],true⟩=some ((.next,J'),⟨H++[.list ((acc++cs.flatMap (yj bz w)).map jc)],true⟩)∧qoz J J':=by
 intro cs;induction cs with
 |nil =>
  intro acc J _ _ _ _ _ _ _;exact⟨J,by rw[List.flatMap_nil,zR];rfl,λB B B=>rfl⟩
 |cons c cs ih =>
  intro acc J hc hw9 hl g94 g100 g75 g98;obtain⟨m1,m2,m3⟩:=hc c (qY ..);have hl:acc.length+(cs.length+1)<99000:=hl
  let J1:Env:=(J.put 6 (QC c)).put 99 (jc (j5 w c))
  have a1:∀s,qt (qH P (qf P (d+1))) (J.put 6 (QC c)) (.ife (.cmp .is (.var 6) .none) (.var 94) (.bin .add false (.var 94) (.list false (.cons (.var 6) .nil)))) s=some (jc (j5 w c),s):=λs=>by
   induction c with
   |none=>exact jS (qF (qg qn) rfl rfl) (vw rfl (qg (qd rfl g94)))
   |some v=>exact jS (qF (qg qn) rfl rfl) (yZ rfl (q8 (qg (qd rfl g94)) (qnC (qh (qg qn) qw) rfl) (qgB hw9)))
  have q94:J1.get 94=_:=qd rfl (qd rfl g94);have q100:J1.get 100=_:=qd rfl (qd rfl g100);have q75:J1.get 75=_:=qd rfl (qd rfl g75);have q98:J1.get 98=_:=qd rfl (qd rfl g98);have a2:=qjL (d:=d) (s:=⟨H++[.list (acc.map jc)],true⟩) (J:=J1) hz h1 (Kh h2) hlen m1 m2 m3 qn q100 q75;have step:∃acc',acc'=acc++yj bz w c∧qy (qH P (qf P (d+1))) qcw (J.put 6 (QC c)) ⟨H++[.list (acc.map jc)],true⟩=some ((.next,J1),⟨H++[.list (acc'.map jc)],true⟩):=by
   refine⟨_,rfl,?_⟩;unfold yj;cases hb:bz.all (met (j5 w c)) with
   |true =>
    rw[hb] at a2;refine SA (a1 _) rfl (wb a2 (ZP rfl (SX (v:=.pv .none) (XU (qg q98) (qly rfl) (qh (qg qn) qw) ?_) jM) (qK jM)));rw[gU];exact qnF (by rw[qE];exact qP (qS _ _) hl)
   |false =>
    rw[hb] at a2;rw[show acc++(bif false then [j5 w c] else [])=acc from zR _];exact SA (a1 _) rfl (wb a2 (yW rfl jM))
  obtain⟨acc',rfl,a3⟩:=step;have ht:(yj bz w c).length≤1:=by unfold yj;induction bz.all (met (j5 w c)) <;> exact jG rfl
  obtain⟨J',e,qq⟩:=ih (acc:=acc++yj bz w c) (J:=J1) (λx hx=>hc x (jg _ hx)) hw9 (by rw[qU,jQ];exact qP (j3 (qu (yn ht _) (jR (jH ..))) _) hl) q94 q100 q75 q98;rw[wj,show yj bz w c++cs.flatMap (yj bz w)=(c::cs).flatMap (yj bz w) from(kP ..).symm] at e;exact⟨J',zJ rfl a3 (zn rfl e),λi a b=>by rw[qq i a b];exact(yg b).trans (yg a)⟩
end
noncomputable abbrev qiJ:CI:=.it (.ife (.cmp .eq (.var 75) (.int 1)) (.list false (.cons .none .nil)) (.call 38 (.cons (.meth (.var 47) 26 (.cons (.var 75) .nil)) .nil)))
noncomputable abbrev qiT:CSs:=.cons (.forS (.nm 6) qiJ qcw) .nil
noncomputable abbrev qnA:CSs:=.cons (.assign (.nm 98) (.list true .nil)) (.cons (.forS (.nm 94) (.it (.var 40)) qiT) (.cons (.assign (.nm 40) (.var 98)) .nil))
section
variable {d:Nat}{H:List AObj}{BL:List AV}{z q:Nat}{bz:List Told}{k:Nat}{cs:List (Option Int)}
structure WayOk (d:Nat) (H:List AObj) (BL:List AV) (z q:Nat) (bz:List Told) (cs:List (Option Int)) (n:Nat):Prop where
 hz:z<900
 h1:BL[z]? = some (.ref q)
 h2:H[q]? = some (.list (jo bz))
 hlen:bz.length<900
 hn:n+1<900
 cl:cs.length≤5000
 src:∀(J:Env) X,J.get 75=some (.pv (.int z))→J.get 47=some (.ref 1)→xG (qH P (qf P (d+1))) J qiJ ⟨H++[X],true⟩=some (⟨cs.map QC,[]⟩,⟨H++[X],true⟩)
 ok:∀w:List Int,w.length=n→Qb w→∀c∈cs,Qb (j5 w c)∧(j5 w c).length≤n+1∧∀t∈bz,zy (j5 w c).length t
noncomputable def kI(bz:List Told)(cs:List (Option Int))(ws:List (List Int)):List (List Int):=ws.flatMap λw=>cs.flatMap (yj bz w)
theorem qeR(h:WayOk d H BL z q bz cs n)(hh:∀X,jB held ⟨H++[X],true⟩=true):∀{ws acc:List (List Int)}{J:Env},
  (∀w∈ws,w.length=n∧Qb w)→(acc++kI bz cs ws).length≤90000→J.get 47=some (.ref 1)→J.get 100=some (.lstR BL)→J.get 75=some (.pv (.int z))→J.get 98=some (.ref H.length) →
  ∃J',jw held (λx J s=>ob (jC (.nm 94) x J) λJ'=>qy (qH P (qf P (d+1))) qiT J' s) (ws.map jc) J ⟨H++[.list (acc.map jc)],true⟩=some ((.next,J'),⟨H++[.list ((acc++kI bz cs ws).map jc)],true⟩)∧qlk J J':=by
 intro ws;induction ws with
 |nil =>
  intro acc J _ _ _ _ _ _;exact⟨J,by rw[show acc++kI bz cs []=acc from zR _];rfl,λB B B B=>rfl⟩
 |cons w ws ih =>
  intro acc J hw hl g47 g100 g75 g98;obtain⟨w1,w2⟩:=hw w (qY ..);have e0:acc++kI bz cs (w::ws)=(acc++cs.flatMap (yj bz w))++kI bz cs ws:=by rw[kI,kP,wj];rfl
  rw[e0] at hl ⊢;have hl1:acc.length+5000<99000:=by
   rw[qU,qU] at hl;exact qP (yn (qu (qu (qS ..) (qS ..)) hl) 5000) (by decide)
  obtain⟨J1,a,p⟩:=qes (d:=d) (H:=H) (BL:=BL) (cs:=cs) (acc:=acc) (J:=J.put 94 (jc w)) h.hz h.h1 h.h2 h.hlen (λc hc=>by obtain⟨x,y,z⟩:=h.ok w w1 w2 c hc;exact⟨x,qP y h.hn,z⟩) (by rw[w1];exact Nat.lt_of_succ_lt h.hn) (qP (j3 h.cl _) hl1) qn (qd rfl g100) (qd rfl g75) (qd rfl g98);have p':qlk J J1:=λi a b c=>by rw[p i a b,yg c]
  obtain⟨J2,b,r⟩:=ih (acc:=acc++cs.flatMap (yj bz w)) (J:=J1) (λx hx=>hw x (jg _ hx)) hl (by rw[p' 47 rfl rfl rfl];exact g47) (by rw[p' 100 rfl rfl rfl];exact g100) (by rw[p' 75 rfl rfl rfl];exact g75) (by rw[p' 98 rfl rfl rfl];exact g98);exact⟨J2,zJ rfl (qL (wN (h.src _ _ (qd rfl g75) (qd rfl g47)) a) (qK jM)) (zn (hh _) b),λi a b c=>by rw[r i a b c,p' i a b c]⟩
theorem qit(h:WayOk d H BL z q bz cs n)(hs:∀X,wo F ⟨H++[X],true⟩=some ⟨ws.map jc,held⟩)(hh:∀X,jB held ⟨H++[X],true⟩=true)(hw:∀w∈ws,w.length=n∧Qb w)(hl:(kI bz cs ws).length≤90000)(g40:J.get 40=some F)(g47:J.get 47=some (.ref 1))(g100:J.get 100=some (.lstR BL))(g75:J.get 75=some (.pv (.int z))):
  ∃J',qy (qH P (qf P (d+1))) qnA J ⟨H,true⟩=some ((.next,J'),⟨H++[.list ((kI bz cs ws).map jc)],true⟩)∧J'.get 40=some (.ref H.length)∧J'.get 47=some (.ref 1)∧J'.get 100=some (.lstR BL):=by
 obtain⟨J1,a,p⟩:=qeR h hh (ws:=ws) (acc:=[]) (J:=J.put 98 (.ref H.length)) hw hl (qd rfl g47) (qd rfl g100) (qd rfl g75) qn;refine⟨J1.put 40 (.ref H.length),SA (v:=.ref H.length) (s1:=⟨H++[.list []],true⟩) rfl rfl (qL (wN (zW (qg (qd rfl g40)) (hs _)) a) (qK (SA (qg ((p 98 rfl rfl rfl).trans qn)) rfl jM))),qn,qd rfl ((p 47 rfl rfl rfl).trans (qd rfl g47)),qd rfl ((p 100 rfl rfl rfl).trans (qd rfl g100))⟩
end
noncomputable def upZ:Nat→Nat→List AV
 |_,0=>[]
 |z,n+1=>.pv (.int z)::upZ (z+1) n
theorem qiq(n:Nat):(qj (jN 1 (1+n:Nat))).map AV.pv=upZ 1 n:=by
 have h:∀(k z:Nat),(qj ((List.range' z k).map λi:Nat=>(i:Int))).map AV.pv=upZ z k:=by
  intro k;induction k with
  |zero=>intro z;rfl
  |succ k ih=>intro z;rw[List.range'_succ];exact qz (_::·) (ih (z+1))
 rw[←h n 1,jN,show((1+n:Nat) - (1:Int)).toNat=n by rw[Int.natCast_add,Int.add_comm];exact qz Int.toNat (Int.add_sub_cancel n 1),List.range_eq_range'];congr 2
 rw[List.range'_eq_map_range,List.range'_eq_map_range,vJ,vJ];exact List.map_congr_left λa B=>by simp
noncomputable def yS(D:Dm×Dm)(ks:List Key)(z:Nat):List (Option Int):=bif z == 1 then [none] else match ks[z - 2]? with
 |some k=>(qi (ji D k)).map some
 |none=>[]
noncomputable def xB(m:M)(z:Nat):List Told:=m.ts.filter λt=>jj t == z
noncomputable def z9(D:Dm×Dm)(m:M)(z:Nat)(ws:List (List Int)):List (List Int):=kI (xB m z) (yS D m.ks z) ws
noncomputable def vr(D:Dm×Dm)(m:M):Nat→Nat→List (List Int)→List (List Int)
 |0,_,ws=>ws
 |n+1,z,ws=>vr D m n (z+1) (z9 D m z ws)
structure MOk (D:Dm×Dm) (m:M):Prop where
 ks:∀k∈m.ks,zO (ji D k)=true∧(ji D k).length≤2
 ts:∀t∈m.ts,zy m.size t
 len:Lt m 100
theorem qil(h:zy n t):zy (jj t+1) t:=by
 have hv:=(QL t).2;have lt:∀v∈vW t,v<jj t+1:=λv a=>vI (hv v a);induction t with
 |lin r=>exact⟨h.1,h.2.1,λv a=>lt v a,h.2.2.2⟩
 |reif b r=>exact⟨lt b (qY ..),h.2.1,λv a=>lt v (jg _ a),h.2.2.2⟩
 |imp b r=>exact⟨lt b (qY ..),h.2.1,λv a=>lt v (jg _ a),h.2.2.2⟩
 |cl b s=>exact lt b (qY ..)
theorem qcT(h:Yu dm=true):∀v∈qi dm,ja v:=by
 intro v hv;obtain⟨p,hp,hv⟩:=yo.mp hv;obtain⟨a,b⟩:=qc (jV h hp);obtain⟨k,hk,rfl⟩:=wl.mp hv;have hk:=Int.lt_toNat.mp (List.mem_range.mp hk);exact qdV (Int.lt_of_lt_of_le (Z1 (qr a)).1 (Int.le_add_of_nonneg_right (Int.natCast_nonneg k))) (vG (Int.le_of_lt_add_one (Int.add_lt_of_lt_sub_left hk)) (Z1 (qr b)).2)
theorem Bz(h:zO dm=true)(h2:dm.length≤2):(qi dm).length≤4000:=by
 obtain⟨_,h⟩:=qc h;have key:∀dm:Dm,Yu dm=true→(qi dm).length≤2000 * dm.length:=by
  intro dm;induction dm with
  |nil=>intro _;exact qW _
  |cons p r ih =>
   intro h;obtain⟨h1,h3⟩:=qc h;rw[qi,kP,qU];exact qu (yt (Yr p h1).1 (ih h3)) (jR (by rw[yp,Nat.mul_succ,jH]))
 exact qu (key dm h) (Nat.mul_le_mul_left 2000 h2)
section
variable {d:Nat}{D:Dm×Dm}{pa:AV}{tl ex:List AObj}{st:Bool}{m:M}{BL:List AV}
theorem vA(x:List AObj):gm D pa tl m++x=gm D pa (tl++x) m:=rfl
noncomputable def XT(D:Dm×Dm)(pa:AV)(tl:List AObj)(m:M)(BL:List AV):Prop:=∀z<m.size,∃q,BL[z]? = some (.ref q)∧(gm D pa tl m)[q]? = some (.list (jo (xB m z)))
theorem qlx(m:M)(z:Nat):(xB m z).length≤m.ts.length:=List.length_filter_le ..
noncomputable def gY(z:Nat):Nat:=if z=1 then 2 else z
theorem qgt(hm:MOk D m)(hB:XT D pa tl m BL)(h1:1≤z)(hz:z<m.size):∃q,WayOk (d+1) (gm D pa (tl++ex) m) BL z q (xB m z) (yS D m.ks z) (gY z):=by
 obtain⟨q,hq,hq2⟩:=hB z hz;have hs:m.size<900:=hm.len.size;have hto:∀t∈xB m z,zy (z+1) t:=λt ht=>by
  obtain⟨a,b⟩:=List.mem_filter.mp ht;have:=qil (hm.ts t a);rw[zr.mp b] at this;exact this
 have hq3:(gm D pa (tl++ex) m)[q]? = some (.list (jo (xB m z))):=by
  rw[←vA,wK (jL.mp hq2).1];exact hq2
 refine⟨q,jp hz hs,hq,hq3,qP (qlx m z) hm.len.ts,?_,?_,?_,?_⟩
 ·unfold gY;split
  ·exact jG rfl
  ·exact qP hz hs
 ·unfold yS
  induction z == 1 with
  |true=>exact jG rfl
  |false=>cases hk:m.ks[z - 2]? with
   |none=>exact j4 _
   |some k =>
    obtain⟨a,b⟩:=hm.ks k (x6 hk);exact qu (jR (qE ..)) (qu (Bz a b) (by decide))
 ·intro J X g75 g47
  unfold yS;by_cases h:z=1
  ·subst h
   exact zW (jS (qF (qg g75) rfl rfl) (vw rfl rfl)) rfl
  ·have z2:2≤z:=Nat.lt_of_le_of_ne h1 (Ne.symm h)
   have hk:z - 2<m.ks.length:=Nat.sub_lt_left_of_lt_add z2 hz;have hkk:m.ks[z - 2]? = some m.ks[z - 2]:=zm hk;rw[show(z == 1)=false from yM h,hkk];obtain⟨a,b⟩:=hm.ks _ (List.getElem_mem hk);have hv:(zk D m.ks)[z]? = some (.pv (.tup [yU z,jm (ji D m.ks[z - 2])])):=by
    have:=xz (D:=D) hkk;rw[Nat.add_sub_of_le z2] at this;exact this
   have e1:qf P (d+1+1) 12 [.ref 1,.pv (.int z)] ⟨gm D pa (tl++ex) m++[X],true⟩=some (.pv (jm (ji D m.ks[z - 2])),⟨gm D pa (tl++ex) m++[X],true⟩):=QG (d+1) (jp (jp hz hs) (by decide)) hv;have e2:=Yd (d+1) (dm:=ji D m.ks[z - 2]) (h:=gm D pa (tl++ex) m++[X]) (st:=true) a b;have e3:jD .eq (.pv (.int z)) (.pv (.int 1)) ⟨gm D pa (tl++ex) m++[X],true⟩=some false:=by
    show some ((z:Int) == 1)=_;rw[show((z:Int) == 1)=false from yM (λq=>h (Int.ofNat.inj q))]
   refine zW (jS (qF (qg g75) rfl e3) (yZ rfl (j8 (qh (zo (qg g47) rfl rfl rfl (qh (qg g75) qw) (qV e1)) qw) (qV e2)))) ?_;refine(if_pos ?_).trans ?_
   ·rw[qj,qE,qE];exact qu (Bz a b) (by decide)
   ·show some (Src.mk ((qj (qi (ji D m.ks[z - 2]))).map AV.pv) [])=_
    show _=some (Src.mk (((qi (ji D m.ks[z - 2])).map some).map QC) [])
    rw[qj,vJ,vJ];rfl
 ·intro w hw sw c hc
  unfold yS at hc;by_cases h:z=1
  ·subst h
   cases qQ.mp hc
   have hw:w.length=2:=hw;have hw':(j5 w none).length=2:=hw;exact⟨sw,by rw[hw'];decide,λt ht=>by rw[hw'];exact hto t ht⟩
  ·rw[show(z == 1)=false from yM h] at hc
   have hw:w.length=z:=by rw[hw,gY,if_neg h]
   cases hk:m.ks[z - 2]? with
   |none=>rw[hk] at hc;rcases hc
   |some k =>
    rw[hk] at hc;obtain⟨v,hv,rfl⟩:=wl.mp hc;obtain⟨a,b⟩:=hm.ks k (x6 hk);have hl:(j5 w (some v)).length=z+1:=by show(w++[v]).length=_;rw[qU,hw];rfl
    refine⟨λx hx=>?_,by rw[hl,gY,if_neg h];exact qW _,λt ht=>by rw[hl];exact hto t ht⟩;rcases yN.mp hx with hx | hx
    ·exact sw x hx
    ·rw[qQ.mp hx];exact qcT (qc a).2 v hv
theorem qkN(hm:MOk D m)(hB:XT D pa tl m BL)(h1:1≤z)(hz:z<m.size)(hw:∀w∈ws,w.length=gY z∧Qb w):∀w∈z9 D m z ws,w.length=gY (z+1)∧Qb w:=by
 intro w' h';obtain⟨q,ok⟩:=qgt (d:=0) (ex:=[]) hm hB h1 hz;obtain⟨w,hww,h2⟩:=yo.mp h';obtain⟨c,hc,h3⟩:=yo.mp h2;obtain⟨a,b⟩:=hw w hww;have e:w'=j5 w c:=by
  unfold yj at h3;cases hb:(xB m z).all (met (j5 w c)) with
  |true=>rw[hb] at h3;exact qQ.mp h3
  |false=>rw[hb] at h3;rcases h3
 subst e;refine⟨?_,(ok.ok w a b c hc).1⟩;unfold yS at hc;by_cases h:z=1
 ·subst h;cases qQ.mp hc;exact a
 ·rw[show(z == 1)=false from yM h] at hc
  cases hk:m.ks[z - 2]? with
  |none=>rw[hk] at hc;rcases hc
  |some k =>
   rw[hk] at hc;obtain⟨v,hv,rfl⟩:=wl.mp hc;show(w++[v]).length=_
   rw[qU,a,gY,if_neg h,gY,if_neg (wL (Nat.succ_lt_succ h1))];rfl
theorem qgu(hm:MOk D m)(hB:XT D pa tl m BL):∀(n z:Nat) {ex:List AObj}{ws:List (List Int)}{F:AV}{held:List (Nat×List AV)}{J:Env},1≤z→z+n≤m.size→(∀w∈ws,w.length=gY z∧Qb w)→(∀k≤n,(vr D m k z ws).length≤90000) →
  (∀X,wo F ⟨gm D pa (tl++ex) m++[X],true⟩=some ⟨ws.map jc,held⟩)→(∀X,jB held ⟨gm D pa (tl++ex) m++[X],true⟩=true)→J.get 40=some F→J.get 47=some (.ref 1)→J.get 100=some (.lstR BL) →
  ∃J' ex' F',jw [] (λx J s=>ob (jC (.nm 75) x J) λJ'=>qy (qH P (qf P (d+2))) qnA J' s) (upZ z n) J ⟨gm D pa (tl++ex) m,true⟩=some ((.next,J'),⟨gm D pa (tl++ex') m,true⟩)∧J'.get 40=some F'∧(n≠0→∃i,F' = .ref i∧(gm D pa tl m).length≤i∧(gm D pa (tl++ex') m)[i]? = some (.list ((vr D m n z ws).map jc))):=by
 intro n;induction n with
 |zero =>
  intro z ex ws F held J _ _ _ _ _ _ g40 _ _;exact⟨J,ex,F,rfl,g40,λh=>absurd rfl h⟩
 |succ n ih =>
  intro z ex ws F held J h1 hz hw hl hs hh g40 g47 g100;have zs:z<m.size:=q6 (Nat.lt_add_of_pos_right (Nat.succ_pos n)) hz;obtain⟨q,ok⟩:=qgt (d:=d) (ex:=ex) hm hB h1 zs;have hl1:(z9 D m z ws).length≤90000:=hl 1 (zZ (j4 n));obtain⟨J1,a,p40,p47,p100⟩:=qit ok (J:=J.put 75 (.pv (.int z))) hs hh hw hl1 (qd rfl g40) (qd rfl g47) (qd rfl g100) qn;have hi:(gm D pa (tl++(ex++[.list ((z9 D m z ws).map jc)])) m)[(gm D pa (tl++ex) m).length]? = some (.list ((z9 D m z ws).map jc)):=by
   rw[←wj,←vA];exact vj
  have hlen:(gm D pa tl m).length≤(gm D pa (tl++ex) m).length:=by rw[←vA,qU];exact qS ..
  have hi2:∀X,(gm D pa (tl++(ex++[.list ((z9 D m z ws).map jc)])) m++[X])[(gm D pa (tl++ex) m).length]? = some (.list ((z9 D m z ws).map jc)):=λX=>Kh hi;obtain⟨J2,ex',F',b,c,e⟩:=ih (z+1) (ex:=ex++[.list ((z9 D m z ws).map jc)]) (ws:=z9 D m z ws) (F:=.ref (gm D pa (tl++ex) m).length) (held:=[((gm D pa (tl++ex) m).length,(z9 D m z ws).map jc)]) (J:=J1) (Nat.le_succ_of_le h1) (by rw[Nat.add_right_comm];exact hz) (qkN hm hB h1 zs hw) (λk hk=>hl (k+1) (zZ hk))
   (λX=>Yv (hi2 X) (qN (by rw[qE];exact qu hl1 (by decide)))) (λX=>gd (hi2 X)) p40 p47 p100
  refine⟨J2,ex',F',zJ (s1:=⟨gm D pa (tl++(ex++[.list ((z9 D m z ws).map jc)])) m,true⟩) rfl (a.trans ?_) (zn rfl b),c,λB=>?_⟩
  ·rw[←wj,←vA];rfl
  ·by_cases hn:n=0
   ·subst hn
    obtain⟨b1,b2⟩:=Prod.mk.inj (qA (show some ((Flow.next,J1),(⟨gm D pa (tl++(ex++[.list ((z9 D m z ws).map jc)])) m,true⟩:St))=some ((Flow.next,J2),⟨gm D pa (tl++ex') m,true⟩) from b));rw[←(Prod.mk.inj b1).2,p40] at c;injection c with c;subst c;refine⟨_,rfl,hlen,?_⟩;rw[←show gm D pa (tl++(ex++[.list ((z9 D m z ws).map jc)])) m=gm D pa (tl++ex') m from qz St.heap b2];exact hi
   ·exact e hn
end
theorem qgy(h:qt C J a s=some (.pv (.int m),s1))(h2:qt C J b s1=some (.pv (.int n),s2))(h3:(decide (-1000≤m)&&decide (m≤1000)&&decide (-1000≤n)&&decide (n≤jl))=true):xG C J (.range2 a b) s=some (⟨(qj (jN m n)).map .pv,[]⟩,s2):=by
 show bnd (qt C J a s) _=_;rw[h];show bnd (qt C J b s1) _=_;rw[h2]
 exact if_pos h3
theorem qih{α:Type}{a b:List α}{i:Nat}{x:α}(h:a.length≤i):((a++b).set i x).take a.length=a:=by
 rw[List.set_append_right _ _ h];exact List.take_left' rfl
noncomputable def yJ(D:Dm×Dm)(m:M)(x y:Int):List (List Int):=vr D m (1+m.ks.length) 1 [[x,y]]
noncomputable def gB(ws:List (List Int)):PV:=.lst (ws.map λw=>.lst (qj w))
section
variable {d:Nat}{D:Dm×Dm}{pa:AV}{tl ex:List AObj}{st:Bool}{m:M}{BL:List AV}
theorem qld(hm:MOk D m)(hB:XT D pa tl m BL)(hx:ja x)(hy:ja y)(hl:∀k≤1+m.ks.length,(vr D m k 1 [[x,y]]).length≤90000):
  qf P (d+3) 43 [.ref 1,.lstR BL,.pv (.int x),.pv (.int y)] ⟨gm D pa tl m,st⟩=some (.pv (gB (yJ D m x y)),⟨gm D pa tl m,st⟩):=by
 have hsz:(zk D m.ks).length<1000:=by rw[wz];exact jp hm.len.size (by decide)
 have h1:=HE (d+1) (pa:=pa) (tolds:=jo m.ts) (made:=zi 2 m.ks) (tl:=tl) (st:=true) hsz;rw[wz,(vE _).symm] at h1;obtain⟨J',ex',F',a,b,c⟩:=qgu (d:=d) (ex:=[]) hm hB (1+m.ks.length) 1 (ws:=[[x,y]]) (F:=.pv (.lst [.lst [.int x,.int y]])) (held:=[]) (J:=[(47,.ref 1),(100,.lstR BL),(25,.pv (.int x)),(57,.pv (.int y)),(40,.pv (.lst [.lst [.int x,.int y]]))]) (qW _) (jR (vE _))
  (λw hw=>by rw[qQ.mp hw];exact⟨rfl,λv hv=>by rcases q7.mp hv with rfl | hv;exact hx;rw[qQ.mp hv];exact hy⟩) hl (λX=>rfl) (λX=>rfl) rfl rfl rfl
 obtain⟨i,rfl,hi,hv⟩:=c (wL (qS 1 _));rw[zR] at a;have hW:mkLst ((yJ D m x y).map jc) = .pv (gB (yJ D m x y)):=by
  rw[show(yJ D m x y).map jc=((yJ D m x y).map λw=>PV.lst (qj w)).map .pv by rw[vJ];rfl];exact wi _
 show qf P (d+2+1) 43 _ _=_
 apply HP (q:=(.ret (.pv (gB (yJ D m x y))),J')) (s':=⟨(gm D pa (tl++ex') m).set i .dead,true⟩) (p:=gB (yJ D m x y)) f43 rfl rfl rfl
 ·show qy _ c43 _ _=_
  unfold c43;refine SA (v:=.pv (.lst [.lst [.int x,.int y]])) rfl rfl (qL (fl:=(.next,J')) (s1:=⟨gm D pa (tl++ex') m,true⟩) (wN (qgy (m:=1) rfl (zo rfl rfl rfl rfl qw (qV h1)) ?_) ?_) (qK (qL (fl:=(.ret (.pv (gB (yJ D m x y))),J')) ?_ v9)))
  ·show(true&&true&&decide _&&decide _)=true
   rw[qN (zB (by decide) (Int.natCast_nonneg _)),qN (Int.ofNat_le.mpr (show 1+(1+m.ks.length)≤jl from qu (show 1+(1+m.ks.length)≤1000 from vE _▸jz (jp hm.len.size (by decide))) (by decide)))];rfl
  ·show jw [] _ ((qj (jN 1 (1+(1+m.ks.length):Nat))).map AV.pv) _ _=_
   rw[qiq];exact a
  ·show bnd (qt _ _ (.var 40) _) _=_
   rw[qg b];show ob ((gm D pa (tl++ex') m)[i]?) _=_
   rw[hv];show some ((Flow.ret (mkLst ((yJ D m x y).map jc)),J'),_)=_
   rw[hW];rfl
 ·exact rfl
 ·show some (_,(⟨((gm D pa (tl++ex') m).set i .dead).take (gm D pa tl m).length,st⟩:St))=_
  rw[←vA,qih hi]
end
theorem mem_range:v∈jN a b ↔ a≤v∧v<b:=by
 unfold jN;constructor
 ·intro h
  obtain⟨k,hk,rfl⟩:=wl.mp h;exact⟨Int.le_add_of_nonneg_right (Int.natCast_nonneg k),Int.add_lt_of_lt_sub_left (Int.lt_toNat.mp (List.mem_range.mp hk))⟩
 ·rintro ⟨h1,h2⟩
  have e:((v - a).toNat:Int)=v - a:=Ze (Int.sub_nonneg_of_le h1);exact wl.mpr ⟨(v - a).toNat,List.mem_range.mpr (Int.lt_toNat.mpr (by rw[e];exact Int.sub_lt_sub_right h2 a)),by rw[e,Int.add_comm,Int.sub_add_cancel]⟩
theorem Yl{α β:Type}{f:α→β}(hf:∀a b,f a=f b→a=b):∀{l:List α},l.Nodup→(l.map f).Nodup:=by
 intro l;induction l with
 |nil =>
  intro _;exact List.Pairwise.nil
 |cons a r ih =>
  intro h;obtain⟨h1,h2⟩:=x8.mp h;refine x8.mpr ⟨λb hb e=>?_,ih h2⟩;obtain⟨c,hc,rfl⟩:=wl.mp hb;exact h1 c hc (hf _ _ e)
theorem qaK(a b:Int):(jN a b).Nodup:=Yl (λx y h=>Int.ofNat.inj (Int.add_left_cancel h)) List.nodup_range
noncomputable def DE(d:Dm):Prop:=d.Pairwise λp q=>p.2<q.1
theorem gr:v∈qi d ↔ ∃p∈d,p.1≤v∧v≤p.2:=by
 unfold qi;rw[yo];exact⟨by rintro ⟨p,hp,h⟩;exact⟨p,hp,(mem_range.mp h).1,Int.lt_add_one_iff.mp (mem_range.mp h).2⟩,by rintro ⟨p,hp,h1,h2⟩;exact⟨p,hp,mem_range.mpr ⟨h1,Int.lt_add_one_iff.mpr h2⟩⟩⟩
theorem Xl:∀{d:Dm},DE d→(qi d).Nodup:=by
 intro d;induction d with
 |nil =>
  intro _;exact List.Pairwise.nil
 |cons p r ih =>
  intro h;obtain⟨h1,h2⟩:=x8.mp h;rw[qi,kP];refine List.nodup_append.mpr ⟨qaK _ _,ih h2,λa ha b hb e=>?_⟩;subst e;obtain⟨q,hq,a1,_⟩:=gr.mp hb;exact Int.lt_irrefl _ (Int.lt_of_lt_of_le (mem_range.mp ha).2 (zB (Int.add_one_le_of_lt (h1 q hq)) a1))
theorem Zs{α β:Type}{f:α→List β}:∀{l:List α},l.Nodup→(∀a∈l,(f a).Nodup)→(∀a∈l,∀b∈l,∀x,x∈f a→x∈f b→a=b)→(l.flatMap f).Nodup:=by
 intro l;induction l with
 |nil =>
  intro _ _ _;exact List.Pairwise.nil
 |cons a r ih =>
  intro h h1 h2;obtain⟨g1,g2⟩:=x8.mp h;rw[kP];refine List.nodup_append.mpr ⟨h1 a (qY ..),ih g2 (λb hb=>h1 b (jg _ hb)) (λb hb c hc=>h2 b (jg _ hb) c (jg _ hc)),λx hx y hy e=>?_⟩;subst e;obtain⟨b,hb,hx2⟩:=yo.mp hy;exact g1 b hb (h2 a (qY ..) b (jg _ hb) x hx hx2)
theorem vn:w'∈yj bz w c ↔ w'=j5 w c∧bz.all (met w')=true:=by
 unfold yj;cases h:bz.all (met (j5 w c)) with
 |true=>exact⟨λq=>by rw[qQ.mp q];exact⟨rfl,h⟩,λq=>qQ.mpr q.1⟩
 |false=>exact⟨λq=>(nomatch q),by rintro ⟨q1,q2⟩;exact by rw[q1,h] at q2;injection q2⟩
theorem Dc:(yj bz w c).Nodup:=by
 unfold yj;induction bz.all (met (j5 w c)) with
 |true=>exact x5 ..
 |false=>exact List.Pairwise.nil
theorem BJ(h:j5 w c=j5 w c'):c=c':=by
 induction c with
 |none=>induction c' with
  |none=>rfl
  |some v=>have:=qz List.length h;simp[j5] at this
 |some v=>induction c' with
  |none=>have:=qz List.length h;simp[j5] at this
  |some v'=>have:=List.append_cancel_left h;simp at this;rw[this]
theorem qdA{bz:List Told}{cs:List (Option Int)}{ws:List (List Int)}(hc:cs.Nodup)(hw:ws.Nodup)(h:∀w∈ws,∀w'∈ws,∀c∈cs,∀c'∈cs,j5 w c=j5 w' c'→w=w'):(kI bz cs ws).Nodup:=by
 refine Zs hw (λw hw=>Zs hc (λc B=>Dc) λc B c' B x h1 h2=>BJ ((vn.mp h1).1.symm.trans (vn.mp h2).1)) λw h1 w' h2 x h3 h4=>?_;obtain⟨c,hc,h5⟩:=yo.mp h3;obtain⟨c',hc',h6⟩:=yo.mp h4;exact h w h1 w' h2 c hc c' hc' ((vn.mp h5).1.symm.trans (vn.mp h6).1)
theorem YA(D:Dm×Dm)(m:M):∀(n z:Nat) (ws:List (List Int)),vr D m (n+1) z ws=z9 D m (z+n) (vr D m n z ws):=by
 intro n;induction n with
 |zero =>
  intro z ws;exact rfl
 |succ n ih =>
  intro z ws;show vr D m (n+1) (z+1) (z9 D m z ws)=_
  rw[ih (z+1),jQ,jH 1];rfl
theorem yR(h:v<w.length):ql (w++r) v=ql w v:=by unfold ql List.getD;rw[wK h]
theorem xA:ql (w++[v]) w.length=v:=by unfold ql List.getD;rw[kL (qW _),Nat.sub_self];rfl
theorem qnx:∀{cs:List Int}{vs:List Nat}{acc:Int},(∀v∈vs,ql w v=ql w' v)→kJ w acc cs vs=kJ w' acc cs vs:=by
 intro cs;induction cs with
 |nil =>
  intro _ _ _;simp only[kJ]
 |cons a cs ih =>
  intro c2q;rcases c2q with _ | ⟨v,vs⟩
  ·intro _ _
   simp only[kJ]
  ·intro acc h
   show kJ w (acc+a * ql w v) cs vs=kJ w' (acc+a * ql w' v) cs vs
   rw[h v (qY ..)];exact ih λx hx=>h x (jg _ hx)
theorem xN{w w':List Int}{r:Row}(h:∀v∈r.vs,ql w v=ql w' v):r.holds w=r.holds w':=by unfold Row.holds;rw[qnx h]
theorem qmy{w w':List Int}{t:Told}(h:∀v∈vW t,ql w v=ql w' v):met w t=met w' t:=by
 induction t with
 |lin r=>exact xN h
 |reif b r=>show(r.holds w == _)=(r.holds w' == _);rw[xN λv hv=>h v (jg _ hv),h b (qY ..)]
 |imp b r=>show(r.holds w||_)=(r.holds w'||_);rw[xN λv hv=>h v (jg _ hv),h b (qY ..)]
 |cl n s=>show(bif s then ql w n == 1 else ql w n == 0)=_;rw[h n (qQ.mpr rfl)];rfl
structure InW (D:Dm×Dm) (m:M) (x y:Int) (z:Nat) (w:List Int):Prop where
 len:w.length=gY z
 x:ql w 0=x
 y:ql w 1=y
 dom:∀i k,m.ks[i]? = some k→2+i<z→ql w (2+i)∈qi (ji D k)
 met:∀t∈m.ts,jj t<z→met w t=true
variable {D:Dm×Dm}{m:M}{x y:Int}
theorem QN(h:2≤z):gY z=z:=if_neg (λe=>by subst e;exact absurd h (by decide))
theorem qfi(h:1≤z):gY (z+1)=z+1:=QN (zZ h)
theorem BE:w'∈z9 D m z ws ↔ ∃w∈ws,∃c∈yS D m.ks z,w'=j5 w c∧(xB m z).all (met w')=true:=by
 unfold z9 kI;rw[yo];constructor
 ·rintro ⟨w,hw,h⟩
  obtain⟨c,hc,h⟩:=yo.mp h;exact⟨w,hw,c,hc,vn.mp h⟩
 ·rintro ⟨w,hw,c,hc,h⟩
  exact⟨w,hw,yo.mpr ⟨c,hc,vn.mpr h⟩⟩
theorem Z7:(xB m z).all (met w)=true ↔ ∀t∈m.ts,jj t=z→met w t=true:=by
 rw[List.all_eq_true];exact⟨λh t ht e=>h t (List.mem_filter.mpr ⟨ht,zr.mpr e⟩),λh t ht=>h t (List.mem_filter.mp ht).1 (zr.mp (List.mem_filter.mp ht).2)⟩
theorem qbf(h:2≤z)(hk:m.ks[z - 2]? = some k):yS D m.ks z=(qi (ji D k)).map some:=by
 unfold yS;rw[show(z == 1)=false from yM (λe=>by subst e;exact absurd h (by decide)),hk];rfl
theorem qbR(h:jj t<w.length):met (w++[v]) t=met w t :=
 qmy λu hu=>yR (qP ((QL t).2 u hu) h)
theorem qdz(h:w.length=n+1):∃u v,w=u++[v]∧u.length=n:=by
 have hne:w≠[]:=λe=>by subst e;cases h
 exact⟨w.dropLast,w.getLast hne,(List.dropLast_concat_getLast hne).symm,by rw[List.length_dropLast,h];rfl⟩
theorem qhl(ih:∀w,w∈ws ↔ InW D m x y 1 w)(w':List Int):w'∈z9 D m 1 ws ↔ InW D m x y 2 w':=by
 rw[BE];constructor
 ·rintro ⟨w,hw,c,hc,e,hb⟩
  cases qQ.mp (show c∈[none] from hc)
  have hw':w'∈ws:=(show w'=w from e)▸hw;obtain⟨a,b,c,d,e⟩:=(ih w').mp hw';exact⟨a,b,c,λi k B h=>absurd h (Nat.not_lt.mpr (qS 2 i)),λt ht hl=>Z7.mp hb t ht (Nat.le_antisymm (Nat.le_of_lt_succ hl) (QL t).1)⟩
 ·rintro ⟨a,b,c,d,e⟩
  exact⟨w',(ih w').mpr ⟨a,b,c,λi k B h=>absurd h (Nat.not_lt.mpr (qu (wt 1) (qS 2 i))),λt ht hl=>e t ht (kM hl)⟩,none,qQ.mpr rfl,rfl,Z7.mpr λt ht hl=>e t ht (qP (jR hl) (zY 1))⟩
theorem qhm(hj:j<m.ks.length)(ih:∀w,w∈ws ↔ InW D m x y (2+j) w)(w':List Int):w'∈z9 D m (2+j) ws ↔ InW D m x y (2+j+1) w':=by
 have h2:2≤2+j:=qS 2 j;have hk:m.ks[j]? = some m.ks[j]:=zm hj;rw[BE,qbf h2 (by rw[YB];exact hk)];have jl {u:List Int}(e:u.length=2+j):0<u.length∧1<u.length:=by rw[e];exact⟨q6 Nat.two_pos h2,q6 (zY 1) h2⟩
 constructor
 ·rintro ⟨w,hw,c,hc,e,hb⟩
  obtain⟨v,hv,rfl⟩:=wl.mp hc;cases (show w'=w++[v] from e)
  obtain⟨a,b,c,d,g⟩:=(ih w).mp hw;rw[QN h2] at a;obtain⟨l0,l1⟩:=jl a;refine⟨by rw[qU,a,qfi (Nat.le_of_succ_le h2)];rfl,by rw[yR l0];exact b,by rw[yR l1];exact c,λi k hi hl=>?_,λt ht hl=>?_⟩
  ·rcases Nat.lt_or_eq_of_le (Nat.le_of_lt_succ hl) with q | q
   ·rw[yR (a▸q)];exact d i k hi q
   ·cases x7 q
    cases hk.symm.trans hi
    rw[←a,xA];exact hv
  ·rcases Nat.lt_or_eq_of_le (Nat.le_of_lt_succ hl) with q | q
   ·rw[qbR (a▸q)];exact g t ht q
   ·exact Z7.mp hb t ht q
 ·rintro ⟨a,b,c,d,g⟩
  rw[qfi (Nat.le_of_succ_le h2)] at a;obtain⟨u,v,rfl,hu⟩:=qdz a;obtain⟨l0,l1⟩:=jl hu;have hv:v∈qi (ji D m.ks[j]):=by
   have:=d j _ hk (zY _);rw[←hu,xA] at this;exact this
  refine⟨u,(ih u).mpr ⟨by rw[QN h2];exact hu,by rw[yR l0] at b;exact b,by rw[yR l1] at c;exact c,λi k hi hl=>?_,λt ht hl=>?_⟩,some v,wl.mpr ⟨v,hv,rfl⟩,rfl,Z7.mpr λt ht hl=>g t ht (vI (jR hl))⟩
  ·have:=d i k hi (kM hl)
   rw[yR (hu▸hl)] at this;exact this
  ·have:=g t ht (kM hl)
   rw[qbR (hu▸hl)] at this;exact this
theorem qjT(h1:1≤z)(hz:z<m.size)(ih:∀w,w∈ws ↔ InW D m x y z w)(w':List Int):w'∈z9 D m z ws ↔ InW D m x y (z+1) w':=by
 rcases Nat.lt_or_ge 1 z with h2 | h2
 ·obtain⟨j,rfl⟩:=Nat.exists_eq_add_of_le (show 2≤z from h2)
  exact qhm (Nat.lt_of_add_lt_add_left hz) ih w'
 ·cases Nat.le_antisymm h2 h1
  exact qhl ih w'
theorem YH:∀(k:Nat),1+k≤m.size→∀w,w∈vr D m k 1 [[x,y]] ↔ InW D m x y (1+k) w:=by
 intro k;induction k with
 |zero =>
  intro _ w;constructor
  ·intro h
   rw[qQ.mp h];exact⟨rfl,rfl,rfl,λi k B h=>absurd h (Nat.not_lt.mpr (qu (wt 1) (qS 2 i))),λt ht hl=>absurd hl (Nat.not_lt.mpr (QL t).1)⟩
  ·rintro ⟨a,b,c,_,_⟩
   obtain⟨p,q,rfl⟩:=Yz a;exact qQ.mpr (by rw[show p=x from b,show q=y from c])
 |succ k ih =>
  intro h w;rw[YA];exact qjT (qS 1 k) h (λw=>ih (Nat.le_of_succ_le h) w) w
theorem qdN(hs:∀k∈m.ks,DE (ji D k)):∀(k:Nat),1+k≤m.size→(vr D m k 1 [[x,y]]).Nodup:=by
 intro k;induction k with
 |zero =>
  intro _;exact x5 ..
 |succ k ih =>
  intro h;rw[YA];refine qdA ?_ (ih (Nat.le_of_succ_le h)) ?_
  ·unfold yS
   induction 1+k == 1 with
   |true=>exact x5 ..
   |false=>cases hk:m.ks[1+k - 2]? with
    |none=>exact List.Pairwise.nil
    |some q=>exact Yl (λa b h=>qA h) (Xl (hs q (x6 hk)))
  ·intro w hw w' hw' c hc c' hc' e
   have l1:=((YH k (Nat.le_of_succ_le h) w).mp hw).len;have l2:=((YH k (Nat.le_of_succ_le h) w').mp hw').len;induction c with
   |none=>induction c' with
    |none=>exact e
    |some v'=>have:=qz List.length e;simp only[j5,qU,l1,l2,List.length_singleton] at this;omega
   |some v=>induction c' with
    |none=>have:=qz List.length e;simp only[j5,qU,l1,l2,List.length_singleton] at this;omega
    |some v'=>exact(List.append_inj e (l1.trans l2.symm)).1
theorem qeJ{α:Type}{l:List α}{a:α}(h:l.Nodup)(ha:a∈l)(hu:∀b∈l,b=a):l=[a]:=by
 rcases l with _ | ⟨b,_ | ⟨c,r⟩⟩
 ·exact absurd ha List.not_mem_nil
 ·rw[qQ.mp ha]
 ·exact absurd ((hu b (qY ..)).trans (hu c (jg _ (qY ..))).symm) ((x8.mp h).1 c (qY ..))
noncomputable def vU(w:List Int):List (Nat×Int)→Int
 |[]=>0
 |p::r=>p.2 * ql w p.1+vU w r
theorem qpN(w:List Int): vU w []=0:=rfl
theorem qpO(w:List Int)(p:Nat×Int)(r:List (Nat×Int)): vU w (p::r)=p.snd * ql w p.fst+vU w r:=rfl
noncomputable def Sm.val(s:Sm)(w:List Int):Int:=vU w s.t+s.c
noncomputable def wH(w:List Int):Key→Int
 | .sum s=>s.val w
 | .reif r=>bif r.holds w then 1 else 0
 | .stand y t d=>bif jk t w then ql w y else qM d
noncomputable def Tr.lt(t:Tr)(n:Nat):Prop:=∀v b,t = .bit v b→v<n
noncomputable def Key.lt(k:Key)(n:Nat):Prop:=match k with
 | .sum s=>∀p∈s.t,p.1<n
 | .reif r=>∀v∈r.vs,v<n
 | .stand y t _=>y<n∧t.lt n
theorem qkO:∀{t:List (Nat×Int)},(∀p∈t,ql w p.1=ql w' p.1)→vU w t=vU w' t:=by
 intro t;induction t with
 |nil =>
  intro _;exact rfl
 |cons p r ih =>
  intro h;rw[vU,vU,h p (qY ..),ih λq hq=>h q (jg _ hq)]
theorem qkV(h:∀v b,t = .bit v b→ql w v=ql w' v):jk t w=jk t w':=by
 induction t with
 |b v=>rfl
 |bit n b=>show((ql w n == 1) == b)=_;rw[h n b rfl];rfl
theorem Hg(hk:k.lt n)(h:∀v,v<n→ql w v=ql w' v):wH w k=wH w' k:=by
 induction k with
 |sum s=>show vU w s.t+s.c=vU w' s.t+s.c;rw[qkO λp hp=>h _ (hk p hp)]
 |reif r=>show(bif r.holds w then (1:Int) else 0)=_;rw[xN λv hv=>h v (hk v hv)];rfl
 |stand y t d=>show(bif jk t w then ql w y else qM d)=_;rw[qkV λv b e=>h v (hk.2 v b e),h y hk.1];rfl
noncomputable def jT(X:Nat→Prop)(ks:List Key)(w:List Int):Prop:=∀i k,ks[i]? = some k→¬ X (2+i)→ql w (2+i)=wH w k
noncomputable def zz:Nat→Prop:=λB=>False
noncomputable def ZO(D:Dm×Dm)(ks:List Key)(w:List Int):Prop:=ql w 0∈qi D.1∧ql w 1∈qi D.2∧∀i k,ks[i]? = some k→ql w (2+i)∈qi (ji D k)
theorem KV{α:Type}{l:List α}{a b:α}{i:Nat}(h:(l++[a])[i]? = some b):l[i]? = some b∨(i=l.length∧b=a):=by
 by_cases q:i<l.length
 ·rw[wK q] at h;exact .inl h
 ·rw[kL (Nat.not_lt.mp q)] at h
  cases hj:i - l.length with
  |zero=>rw[hj] at h;injection h with h;subst h;exact .inr ⟨Nat.le_antisymm (Nat.sub_eq_zero_iff_le.mp hj) (Nat.not_lt.mp q),rfl⟩
  |succ j=>rw[hj] at h;injection h
theorem k5{α:Type}{l more:List α}{a:α}{i:Nat}(h:l[i]? = some a):(l++more)[i]? = some a:=by rw[wK (jL.mp h).1];exact h
theorem jT.app{X:Nat→Prop}{ks:List Key}{k:Key}{w:List Int}:jT X (ks++[k]) w ↔ jT X ks w∧(¬ X (2+ks.length)→ql w (2+ks.length)=wH w k):=by
 constructor
 ·exactλh=>⟨λi q hi hx=>h i q (k5 hi) hx,λhx=>h ks.length k gF hx⟩
 ·rintro ⟨h1,h2⟩ i q hi hx
  rcases KV hi with hi | ⟨rfl,rfl⟩
  ·exact h1 i q hi hx
  ·exact h2 hx
theorem jT.cut{X:Nat→Prop}{ks more:List Key}{w:List Int}(h:jT X (ks++more) w):jT X ks w:=λi k hi hx=>h i k (k5 hi) hx
theorem ZO.cut{D:Dm×Dm}(h:ZO D (ks++more) w):ZO D ks w:=⟨h.1,h.2.1,λi k hi=>h.2.2 i k (k5 hi)⟩
noncomputable def zU(D:Dm×Dm)(X:Nat→Prop)(E:List Int→Prop)(m:M):Prop:=∀w,ZO D m.ks w→((∀t∈m.ts,met w t=true) ↔ jT X m.ks w∧E w)
theorem zU.post{D:Dm×Dm}{X:Nat→Prop}{E:List Int→Prop}{m:M}(h:zU D X E m)(t:Told):zU D X (λw=>E w∧met w t=true) (m.post t):=λw hw=>by
 have:=h w hw;constructor
 ·intro hs
  obtain⟨a,b⟩:=this.mp λt ht=>hs t (List.mem_append_left _ ht);exact⟨a,b,hs t (Q9 _ (qQ.mpr rfl))⟩
 ·rintro ⟨a,b,c⟩ u hu
  rcases yN.mp hu with hu | hu
  ·exact this.mpr ⟨a,b⟩ u hu
  ·rw[qQ.mp hu];exact c
theorem zU.key{D:Dm×Dm}{X:Nat→Prop}{E:List Int→Prop}{m:M}{k:Key}{l:List Told}(h:zU D X E m)(hx:¬ X (2+m.ks.length))(hk:∀w,ql w (2+m.ks.length)∈qi (ji D k)→ZO D m.ks w→((∀t∈l,met w t=true) ↔ ql w (2+m.ks.length)=wH w k)):zU D X E ⟨m.ks++[k],m.ts++l⟩:=λw hw=>by
 have h1:=h w hw.cut;have h2:=hk w (hw.2.2 m.ks.length k gF) hw.cut;rw[show(∀t∈m.ts++l,met w t=true) ↔ (∀t∈m.ts,met w t=true)∧∀t∈l,met w t=true from⟨λq=>⟨λt ht=>q t (List.mem_append_left _ ht),λt ht=>q t (Q9 _ ht)⟩,by rintro ⟨a,b⟩ t ht;exact(yN.mp ht).elim (a t) (b t)⟩,h1,h2];constructor
 ·rintro ⟨⟨a,b⟩,c⟩;exact⟨jT.app.mpr ⟨a,λB=>c⟩,b⟩
 ·rintro ⟨a,b⟩;obtain⟨a1,a2⟩:=jT.app.mp a;exact⟨⟨a1,b⟩,a2 hx⟩
theorem zU.pend{D:Dm×Dm}{E:List Int→Prop}{m:M}(h:zU D zz E m)(k:Key):zU D (λi=>i=2+m.ks.length) E (wn k m):=λw hw=>by
 have h1:=h w hw.cut;show(∀t∈m.ts,met w t=true) ↔ _
 rw[h1];have e:jT zz m.ks w ↔ jT (λi=>i=2+m.ks.length) (m.ks++[k]) w:=by
  rw[jT.app];exact⟨λa=>⟨λi q hi B=>a i q hi id,λhx=>absurd rfl hx⟩,by rintro ⟨a,_⟩ i q hi _;exact a i q hi λe=>wq (jL.mp hi).1 (x7 e)⟩
 show _ ↔ jT _ (m.ks++[k]) w∧E w
 rw[e]
theorem qkR(n:Nat):∀(t:List (Nat×Int)) (acc:Int),kJ w acc (t.map (·.2)++[-1]) (t.map (·.1)++[n])=acc+vU w t - ql w n:=by
 intro t;induction t with
 |nil =>
  intro acc;show acc + -1 * ql w n=acc+0 - ql w n;rw[Int.add_zero,Int.neg_mul,Int.one_mul];rfl
 |cons p r ih =>
  intro acc;show kJ w (acc+p.2 * ql w p.1) (r.map (·.2)++[-1]) (r.map (·.1)++[n])=_
  rw[ih,vU,Int.add_assoc]
theorem Hr:met w (.lin (kK s n))=true ↔ ql w n=s.val w:=by
 show(kJ w 0 (s.t.map (·.2)++[-1]) (s.t.map (·.1)++[n]) == -s.c)=true ↔ ql w n=vU w s.t+s.c
 rw[qkR,zr,Int.zero_add,Int.sub_eq_iff_eq_add];exact⟨λh=>by rw[h,Int.add_right_comm,Int.add_left_neg,Int.zero_add],λh=>by rw[h,Int.add_comm,Int.add_neg_cancel_right]⟩
theorem gM:v∈qi TR ↔ v=0∨v=1:=by
 rw[gr];constructor
 ·rintro ⟨p,hp,a,b⟩;cases qQ.mp hp;exact(Int.lt_or_eq_of_le (show v≤1 from b)).imp (λq=>Int.le_antisymm (Int.le_of_lt_add_one q) a) id
 ·intro h;exact⟨(0,1),qQ.mpr rfl,by rcases h with rfl | rfl <;> decide,by rcases h with rfl | rfl <;> decide⟩
theorem BF(h:ql w n=0∨ql w n=1):met w (.reif n r)=true ↔ ql w n=wH w (.reif r):=by
 show(r.holds w == (ql w n == 1))=true ↔ ql w n=bif r.holds w then 1 else 0
 rcases h with h | h <;> rw[h] <;> induction r.holds w <;> decide
theorem qbQ{D:Dm×Dm}(h:s.t.isEmpty=true)(hv:v∈qi (ji D (.sum s)))(w:List Int):v=s.val w:=by
 obtain⟨t,c⟩:=s;induction t using List.casesOn with
 |cons=>injection h
 |nil =>
  obtain⟨p,hp,a,b⟩:=gr.mp hv;have hp:p∈(if c≤c then [(c,c)] else []):=hp;rw[if_pos (Int.le_refl c)] at hp;cases qQ.mp hp
  have a:c≤v:=a;have b:v≤c:=b;show v=0+c;rw[Int.zero_add];exact Int.le_antisymm b a
theorem zU.sum{D:Dm×Dm}{X:Nat→Prop}{E:List Int→Prop}{m:M}(h:zU D X E m)(hx:¬ X (2+m.ks.length))(s:Sm):zU D X E (qB s m).2:=by
 unfold qB;induction s.lone with
 |some v=>exact h
 |none=>induction qX (.sum s) 2 m.ks with
  |some n=>exact h
  |none =>
   show zU D X E (yk s m)
   unfold yk;cases he:s.t.isEmpty with
   |true =>
    have:=h.key (k:=.sum s) (l:=[]) hx λw hw B=>⟨λB=>qbQ he hw w,λB t ht=>nomatch ht⟩
    rw[zR] at this;exact this
   |false=>exact h.key (k:=.sum s) (l:=[.lin (kK s (2+m.ks.length))]) hx λw B B=>⟨λq=>Hr.mp (q _ (qQ.mpr rfl)),λq t ht=>by rw[qQ.mp ht];exact Hr.mpr q⟩
theorem zU.tt{D:Dm×Dm}{X:Nat→Prop}{E:List Int→Prop}{m:M}(h:zU D X E m)(hx:¬ X (2+m.ks.length))(r:Row):zU D X E (zv D r m).2:=by
 unfold zv;induction k8 D r with
 |true=>exact h
 |false=>induction qX (.reif r) 2 m.ks with
  |some n=>exact h
  |none =>
   refine h.key (k:=.reif r) (l:=[.reif (2+m.ks.length) r]) hx λw hw B=>?_;have:=BF (r:=r) (gM.mp hw);exact⟨λq=>this.mp (q _ (qQ.mpr rfl)),λq t ht=>by rw[qQ.mp ht];exact this.mpr q⟩
noncomputable def gH:List Key→List Int→List Int
 |[],w=>w
 |k::r,w=>gH r (w++[wH w k])
noncomputable def kY(n:Nat)(ks:List Key):Prop:=∀(i:Nat) (k:Key),ks[i]? = some k→k.lt (n+i)
theorem kY.tl(h:kY n (k::r)):kY (n+1) r:=λi q hi=>by
 have:=h (i+1) q hi;rw[jQ,jH 1];exact this
theorem qjs(hl:w.length=u.length)(h:∀v<u.length,ql w v=ql u v):w=u:=by
 refine List.ext_getElem hl λi h1 h2=>?_;have:=h i h2;unfold ql List.getD at this;rw[zm h1,zm h2] at this;exact this
theorem qcm(hw:∀v<u.length,ql w v=ql u v)(h:ql w u.length=a):∀v<(u++[a]).length,ql w v=ql (u++[a]) v:=λv hv=>by
 by_cases q:v<u.length
 ·rw[yR q];exact hw v q
 ·have:v=u.length:=by rw[qU] at hv;exact Nat.le_antisymm (Nat.le_of_lt_succ hv) (Nat.not_lt.mp q)
  rw[this,xA];exact h
theorem qij:∀{ks:List Key}{w u:List Int},w.length=u.length+ks.length→(∀v<u.length,ql w v=ql u v)→kY u.length ks→(∀i k,ks[i]? = some k→ql w (u.length+i)=wH w k)→w=gH ks u:=by
 intro ks;induction ks with
 |nil =>
  intro w u hl ha _ _;exact qjs hl ha
 |cons k r ih =>
  intro w u hl ha hk ht;have h0:ql w u.length=wH u k:=by
   have:=ht 0 k rfl;rw[Nat.add_zero] at this;rw[this];exact Hg (hk 0 k rfl) ha
  have hlen:(u++[wH u k]).length=u.length+1:=qU ..;refine ih (u:=u++[wH u k]) (by rw[hlen,hl,yp,jQ,jH 1]) (qcm ha h0) (by rw[hlen];exact hk.tl) λi q hi=>?_;have:=ht (i+1) q hi;rw[hlen,jQ,jH 1];exact this
theorem Zl:∀{ks:List Key}{u:List Int},kY u.length ks→(gH ks u).length=u.length+ks.length∧(∀v<u.length,ql (gH ks u) v=ql u v)∧∀i k,ks[i]? = some k→ql (gH ks u) (u.length+i)=wH (gH ks u) k:=by
 intro ks;induction ks with
 |nil =>
  intro u _;exact⟨rfl,λB B=>rfl,λB B h=>nomatch h⟩
 |cons k r ih =>
  intro u hk;have hlen:(u++[wH u k]).length=u.length+1:=qU ..;obtain⟨a,b,c⟩:=ih (u:=u++[wH u k]) (by rw[hlen];exact hk.tl);have b':∀v<u.length,ql (gH (k::r) u) v=ql u v:=λv hv=>(b v (by rw[hlen];exact kM hv)).trans (yR hv);refine⟨a.trans (by rw[hlen,yp,jQ,jH 1]),b',λi q hi=>?_⟩;induction i using Nat.casesOn with
  |zero =>
   injection hi with hi;subst hi;rw[Nat.add_zero,Hg (hk 0 k rfl) b'];exact(b u.length (by rw[hlen];exact zY _)).trans xA
  |succ i =>
   have:=c i q hi;rw[hlen,jQ,jH 1] at this;exact this
noncomputable def qcj(D:Dm×Dm)(x y:Int)(ks:List Key):Prop:=∀i k,ks[i]? = some k→∀w,ql w 0=x→ql w 1=y→(∀j q,j<i→ks[j]? = some q→ql w (2+j)=wH w q)→wH w k∈qi (ji D k)
noncomputable def kh(ks:List Key)(x y:Int):List Int:=gH ks [x,y]
noncomputable def gI(cl:List Tr)(w:List Int):Prop:=cl.all (λt=>jk t w)=true
theorem qcd(h:zy n t):∀v∈vW t,v<n:=by
 induction t with
 |lin r=>exact h.2.2.1
 |reif b r=>exactλv hv=>(q7.mp hv).elim (λe=>e▸h.1) (h.2.2.1 v)
 |imp b r=>exactλv hv=>(q7.mp hv).elim (λe=>e▸h.1) (h.2.2.1 v)
 |cl b s=>exactλv hv=>qQ.mp hv▸h
theorem Qc(hk:kY 2 ks):jT zz ks (kh ks x y):=λi k hi B=>(Zl (u:=[x,y]) hk).2.2 i k hi
theorem qet{D:Dm×Dm}(hk:kY 2 ks)(hd:qcj D x y ks)(hx:x∈qi D.1)(hy:y∈qi D.2):ZO D ks (kh ks x y):=by
 obtain⟨a,b,c⟩:=Zl (u:=[x,y]) hk;have hx0:ql (kh ks x y) 0=x:=b 0 (Nat.succ_pos 1);have hy0:ql (kh ks x y) 1=y:=b 1 (zY 1);exact⟨by rw[hx0];exact hx,by rw[hy0];exact hy,λi k hi=>by rw[Qc hk i k hi id];exact hd i k hi _ hx0 hy0 λj q B hq=>Qc hk j q hq id⟩
theorem qlc{D:Dm×Dm}(hm:MOk D m)(hk:kY 2 m.ks)(hI:zU D zz (gI cl) m)(hd:qcj D x y m.ks)(hx:x∈qi D.1)(hy:y∈qi D.2)(hs:∀k∈m.ks,DE (ji D k)):
  yJ D m x y=bif cl.all (λt=>jk t (kh m.ks x y)) then [kh m.ks x y] else []:=by
 have hin:∀w,w∈yJ D m x y ↔ InW D m x y (1+(1+m.ks.length)) w:=YH (1+m.ks.length) (jR (vE _));obtain⟨a,b,c⟩:=Zl (u:=[x,y]) hk;have hone:∀w∈yJ D m x y,w=kh m.ks x y∧gI cl w:=λw hw=>by
  obtain⟨q1,q2,q3,q4,q5⟩:=(hin w).mp hw;have hlen:w.length=2+m.ks.length:=by rw[q1,QN (qgp _)];exact vE _
  have hf:ZO D m.ks w:=⟨by rw[q2];exact hx,by rw[q3];exact hy,λi k hi=>q4 i k hi (Nat.lt_of_lt_of_eq (kQ (jL.mp hi).1 2) (vE _).symm)⟩
  obtain⟨t1,t2⟩:=(hI w hf).mp λt ht=>q5 t ht (Nat.lt_of_lt_of_eq (Hh (qS 2 _) (qcd (hm.ts t ht))) (vE _).symm);refine⟨qij (u:=[x,y]) hlen (λv hv=>?_) hk λi k hi=>t1 i k hi id,t2⟩;rcases YT hv with rfl | rfl
  ·exact q2
  ·exact q3
 have hf:=qet hk hd hx hy;cases hc:cl.all (λt=>jk t (kh m.ks x y)) with
 |true =>
  refine qeJ (qdN hs _ (jR (vE _))) ((hin _).mpr ⟨?_,b 0 (Nat.succ_pos 1),b 1 (zY 1),λi k hi B=>hf.2.2 i k hi,λt ht B=>(hI _ hf).mpr ⟨Qc hk,hc⟩ t ht⟩) λw hw=>(hone w hw).1;rw[QN (qgp _)];exact a.trans (vE _).symm
 |false =>
  refine List.eq_nil_iff_forall_not_mem.mpr λw hw=>?_;obtain⟨e,h⟩:=hone w hw;rw[e] at h;unfold gI at h;rw[hc] at h;injection h
theorem qlQ(h:jm a=jm b):a=b:=Ba (by rw[h];exact v6 _)
theorem qgJ{D:Dm×Dm}(h:wF D ks (.bit n b))(hf:ZO D ks w):ql w n=0∨ql w n=1:=by
 obtain⟨h1,_,nm,h3⟩:=h;rcases n with _ | _ | n
 ·have:=hf.1;rw[show D.1=TR from h1] at this;exact gM.mp this
 ·have:=hf.2.1;rw[show D.2=TR from h1] at this;exact gM.mp this
 ·have hl:n<ks.length:=by have:=(jL.mp h3).1;rw[wz,jH 2] at this;exact Nat.lt_of_add_lt_add_right this
  have hk:=zm hl;have h4:=xz (D:=D) hk;rw[jH 2,h3] at h4;have e:jm TR=jm (ji D ks[n]):=by injection h4 with h4;injection h4 with h4;injection h4 with h4;injection h4 with _ h4;injection h4
  have:=hf.2.2 n _ hk;rw[←qlQ e,jH] at this;exact gM.mp this
theorem qbi:gI (cl++[t]) w ↔ gI cl w∧jk t w=true:=by
 unfold gI;rw[List.all_append];simp only[List.all_cons,List.all_nil,Bool.and_true,Bool.and_eq_true]
theorem zU.mono{D:Dm×Dm}{X:Nat→Prop}{E E':List Int→Prop}{m:M}(h:zU D X E m)(he:∀w,ZO D m.ks w→(E w ↔ E' w)):zU D X E' m:=λw hw=>by rw[h w hw,he w hw]
theorem zU.req{D:Dm×Dm}(h:zU D zz (gI cl) m)(ha:wF D m.ks (.bit n b)):zU D zz (gI (cl++[.bit n b])) (yD (.bit n b) m):=by
 refine(h.post (.cl n b)).mono λw hw=>?_;rw[qbi];have:met w (.cl n b)=jk (.bit n b) w:=by
  show(bif b then ql w n == 1 else ql w n == 0)=((ql w n == 1) == b)
  rcases qgJ ha hw with e | e <;> rw[e] <;> induction b <;> rfl
 rw[this]
noncomputable def wV(ks:List Key)(s:Sm)(b:Nat):Prop:=s.lone=some b∨∃j,b=2+j∧ks[j]? = some (.sum s)
theorem wV.more{ks more:List Key}{s:Sm}{b:Nat}(h:wV ks s b):wV (ks++more) s b:=h.imp id λ⟨j,a,e⟩=>⟨j,a,k5 e⟩
theorem x0(s:Sm)(m:M):wV (qB s m).2.ks s (qB s m).1:=by
 unfold qB;cases hl:s.lone with
 |some v=>exact .inl hl
 |none=>cases hf:qX (.sum s) 2 m.ks with
  |some n=>obtain⟨j,a,e⟩:=QH hf;exact .inr ⟨j,a,e⟩
  |none=>exact .inr ⟨m.ks.length,rfl,by show(yk s m).ks[_]? = _;rw[Qm];exact gF⟩
theorem qhv{s:Sm}{v:Nat}(h:s.lone=some v)(w:List Int):s.val w=ql w v:=by
 obtain⟨h1,h2,h3⟩:=YN h;obtain⟨t,c⟩:=s;rcases Xj (jR h2) with rfl | ⟨p,rfl⟩
 ·injection h2
 ·cases qQ.mp h1;have h3:c=0:=h3;show 1 * ql w v+0+c=_;rw[h3,Int.one_mul,Int.add_zero,Int.add_zero]
theorem wV.val{X:Nat→Prop}{ks:List Key}{w:List Int}{s:Sm}{b:Nat}(hv:wV ks s b)(h:jT X ks w)(hx:¬ X b):ql w b=s.val w:=by
 rcases hv with hv | ⟨j,rfl,hv⟩
 ·exact(qhv hv w).symm
 ·exact h j _ hv hx
theorem XM(h:∀n b,t = .bit n b→ql w n=0∨ql w n=1):t.sum.val w=bif jk t w then 1 else 0:=by
 induction t with
 |b v=>induction v <;> rfl
 |bit n b =>
  have:=h n b rfl;induction b with
  |true=>show 1 * ql w n+0+0=bif (ql w n == 1) == true then 1 else 0;rcases this with e | e <;> rw[e] <;> rfl
  |false=>show -1 * ql w n+0+1=bif (ql w n == 1) == false then 1 else 0;rcases this with e | e <;> rw[e] <;> rfl
theorem Kv(t:Tr)(w:List Int):jk t.con w = !jk t w:=by
 induction t with
 |b v=>rfl
 |bit n b=>show((ql w n == 1) == !b) = !((ql w n == 1) == b);induction ql w n == 1 <;> induction b <;> rfl
theorem qmd{w:List Int}{b n y:Nat}:met w (.imp b (xf [1,-1] [n,y] 0))=(decide (ql w n=ql w y)||ql w b == 0):=by
 show((0+1 * ql w n + -1 * ql w y == 0)||_)=_
 rw[show(0+1 * ql w n + -1 * ql w y == 0)=decide (ql w n=ql w y) by rw[Bool.eq_iff_iff,zr,decide_eq_true_eq,Int.zero_add,Int.one_mul,Int.neg_mul,Int.one_mul];exact Int.sub_eq_zero]
theorem qme:met w (.imp b (xf [1] [n] c))=(decide (ql w n=c)||ql w b == 0):=by
 show((0+1 * ql w n == c)||_)=_
 rw[show(0+1 * ql w n == c)=decide (ql w n=c) by rw[Bool.eq_iff_iff,zr,decide_eq_true_eq,Int.zero_add,Int.one_mul]]
theorem Yw{t:Tr}{n:Nat}(h:t.lt n):∀p∈t.sum.t,p.1<n:=by
 induction t with
 |b v=>intro p hp;induction v <;> rcases hp
 |bit k b=>intro p hp;induction b <;> cases qQ.mp hp <;> exact h _ _ rfl
theorem wV.ne{ks:List Key}{s:Sm}{b y:Nat}{t:Tr}{dm:Dm}{j:Nat}(h:wV ks s b)(hk:ks[j]? = some (.stand y t dm))(hl:∀p∈s.t,p.1<2+j):b≠2+j:=by
 rcases h with h | ⟨i,rfl,h⟩
 ·exact wq (hl _ (YN h).1)
 ·intro e;rw[x7 e,hk] at h;injection h with h;injection h
theorem zU.stand{D:Dm×Dm}{E:List Int→Prop}{m:M}(h:zU D zz E m){y:Nat}{t:Tr}{dm:Dm}(ht:wF D m.ks t)(htl:t.lt m.size):zU D zz E (jA y t dm m).2:=by
 unfold jA;cases hf:qX (.stand y t dm) 2 m.ks with
 |some n=>exact h
 |none =>
  obtain⟨⟨l2,g2,_⟩,_⟩:=Q0 y (2+m.ks.length) t (wn (.stand y t dm) m);obtain⟨⟨l3,g3,_⟩,_⟩:=XH (2+m.ks.length) t dm (xV y (2+m.ks.length) t (wn (.stand y t dm) m));have k1:(wn (.stand y t dm) m).ks=m.ks++[.stand y t dm]:=rfl;have i2:=((h.pend (.stand y t dm)).sum (by rw[k1,qU];exactλe=>Nat.succ_ne_self _ (x7 e)) t.sum).post (.imp (qB t.sum (wn (.stand y t dm) m)).1 (xf [1,-1] [2+m.ks.length,y] 0));have i3:=(zU.sum (m:=xV y (2+m.ks.length) t (wn (.stand y t dm) m)) i2 (by rw[g2,k1,qU,qU];exactλe=>absurd (x7 e) (wL (q6 (zY _) (qS ..)))) t.con.sum).post (.imp (qB t.con.sum (xV y (2+m.ks.length) t (wn (.stand y t dm) m))).1 (xf [1] [2+m.ks.length] (qM dm)));have v1:wV (y5 y t dm m).ks t.sum (qB t.sum (wn (.stand y t dm) m)).1:=by
   have:=x0 t.sum (wn (.stand y t dm) m);show wV (sd3 _ _ _ _).ks _ _
   rw[g3];exact this.more
  have v2:wV (y5 y t dm m).ks t.con.sum (qB t.con.sum (xV y (2+m.ks.length) t (wn (.stand y t dm) m))).1:=x0 ..;have hks:(y5 y t dm m).ks=m.ks++([.stand y t dm]++(l2++l3)):=by show(sd3 _ _ _ _).ks=_;rw[g3,g2,k1,wj,wj]
  have hkn:(y5 y t dm m).ks[m.ks.length]? = some (.stand y t dm):=by rw[hks,←wj];exact k5 gF
  have n1:=v1.ne hkn (Yw htl);have n2:=v2.ne hkn (Yw (t:=t.con) λv b e=>by induction t with
   |b v=>injection e
   |bit k c=>injection e with e e1q;subst e;subst e1q;exact htl _ _ rfl)
  intro w hw;have hfm:ZO D m.ks w:=by have:=hw;rw[show((2+m.ks.length,y5 y t dm m).2).ks=_ from hks] at this;exact this.cut
  have hb:∀n b,t = .bit n b→ql w n=0∨ql w n=1:=λn b e=>qgJ (b:=b) (e▸ht) hfm;have hb2:∀n b,t.con = .bit n b→ql w n=0∨ql w n=1:=λn b e=>by induction t with
   |b v=>injection e
   |bit k c=>injection e with e e1q;subst e;subst e1q;exact hb _ _ rfl
  have main:=i3 w hw;refine main.trans ?_;constructor
  ·rintro ⟨a,⟨e,p⟩,q⟩
   refine⟨λi k hi B=>?_,e⟩;by_cases hx:2+i=2+m.ks.length
   ·have hi':=x7 hx
    subst hi';cases hkn.symm.trans hi
    rw[qmd,v1.val a n1,XM hb] at p;rw[qme,v2.val a n2,XM hb2,Kv] at q;show ql w (2+m.ks.length)=bif jk t w then ql w y else qM dm
    cases hc:jk t w with
    |true=>rw[hc] at p;simpa using p
    |false=>rw[hc] at q;simpa using q
   ·exact a i k hi hx
  ·rintro ⟨a,e⟩
   have a':jT (λi=>i=2+m.ks.length) (y5 y t dm m).ks w:=λi k hi B=>a i k hi id;have hv:=a m.ks.length _ hkn id;have hv:ql w (2+m.ks.length)=bif jk t w then ql w y else qM dm:=hv
   refine⟨a',⟨e,?_⟩,?_⟩
   ·rw[qmd,v1.val a' n1,XM hb,hv];induction jk t w <;> simp
   ·rw[qme,v2.val a' n2,XM hb2,Kv,hv];induction jk t w <;> simp
noncomputable def DA(ts:List Told)(n:Nat):Key→Prop
 | .sum s=>s.t.isEmpty=false→.lin (kK s n)∈ts
 | .reif r=>.reif n r∈ts
 | .stand _ _ _=>True
noncomputable def Has(m:M):Prop:=∀(i:Nat) (k:Key),m.ks[i]? = some k→DA m.ts (2+i) k
noncomputable def Yb:Key→Bool
 | .stand _ _ _=>true
 |_=>false
noncomputable def Zn(ks:List Key):Nat:=(ks.filter Yb).length
structure KD (D:Dm×Dm) (k:Key):Prop where
 sm:zO (ji D k)=true
 len:(ji D k).length≤2
 srt:DE (ji D k)
 st:Yb k=true→(qi (ji D k)).length≤20
theorem DA.mono(h:DA ts n k):DA (ts++l) n k:=by
 induction k with
 |sum s=>exactλe=>List.mem_append_left _ (h e)
 |reif r=>exact List.mem_append_left _ h
 |stand=>trivial
theorem qms{α:Type}{l:List α}(h:l.Nodup)(hu:∀a∈l,∀b∈l,a=b):l.length≤1:=by
 rcases l with _ | ⟨b,_ | ⟨c,r⟩⟩
 ·exact j4 _
 ·exact qW _
 ·exact absurd (hu b (qY ..) c (jg _ (qY ..))) ((x8.mp h).1 c (qY ..))
theorem xI{α β:Type}{f:α→List β}{n:Nat}:∀{l:List α},(∀a∈l,(f a).length≤n)→(l.flatMap f).length≤n * l.length:=by
 intro l;induction l with
 |nil =>
  intro _;exact j4 _
 |cons a r ih =>
  intro h;rw[kP,qU,yp,Nat.mul_succ,jH];exact yt (ih λb hb=>h b (jg _ hb)) (h a (qY ..))
theorem qce(bz:List Told)(w:List Int)(c:Option Int):(yj bz w c).length≤1:=by unfold yj;induction bz.all (met (j5 w c)) <;> exact jG rfl
theorem qbI(h1:1≤z)(h:z∈vW t)(hl:∀v∈vW t,v≤z):jj t=z :=
 Nat.le_antisymm (Nat.le_of_lt_succ (Hh (vI h1) λv hv=>vI (hl v hv))) ((QL t).2 z h)
theorem det{D:Dm×Dm}(hh:Has m)(hk:kY 2 m.ks)(hi:m.ks[i]? = some k)(hs:Yb k=false)(hw:w.length=2+i)(hv:v∈qi (ji D k))(hb:(xB m (2+i)).all (met (w++[v]))=true):v=wH w k:=by
 have hlt:=hk i k hi;have he:wH (w++[v]) k=wH w k:=Hg hlt λu hu=>yR (by rw[hw];exact hu);have hl:ql (w++[v]) (2+i)=v:=by rw[←hw];exact xA
 have hb:=Z7.mp hb;rw[←he];induction k with
 |sum s =>
  cases hm:s.t.isEmpty with
  |true=>exact qbQ hm hv _
  |false =>
   have:=hb _ (hh i _ hi hm) (qbI (qu (by decide) (qS 2 i)) (Q9 _ (qQ.mpr rfl)) λu hu=>by
    rcases yN.mp hu with hu | hu
    ·obtain⟨p,hp,rfl⟩:=wl.mp hu;exact jz (hlt p hp)
    ·exact jR (qQ.mp hu))
   exact hl.symm.trans (Hr.mp this)
 |reif r =>
  have:=hb _ (hh i _ hi) (qbI (qu (by decide) (qS 2 i)) (qY ..) λu hu=>by
    rcases q7.mp hu with rfl | hu
    ·exact qW _
    ·exact jz (hlt u hu))
  exact hl.symm.trans ((BF (by rw[hl];exact gM.mp hv)).mp this)
 |stand=>injection hs
theorem qif{D:Dm×Dm}{m:M}(hh:Has m)(hk:kY 2 m.ks){i:Nat}{k:Key}(hi:m.ks[i]? = some k)(kd:KD D k){ws:List (List Int)}(hw:∀w∈ws,w.length=2+i):(z9 D m (2+i) ws).length≤(bif Yb k then 20 else 1) * ws.length:=by
 refine xI λw hww=>?_;rw[qbf (qS ..) (show m.ks[2+i - 2]? = some k by rw[YB];exact hi)];cases hs:Yb k with
 |true=>exact qu (xI λc B=>qce _ w c) (by rw[Nat.one_mul,qE];exact kd.st hs)
 |false =>
  refine qms (Zs (Yl (λa b h=>qA h) (Xl kd.srt)) (λc B=>Dc) λc B c' B x h1 h2=>BJ ((vn.mp h1).1.symm.trans (vn.mp h2).1)) ?_;have key:∀a∈((qi (ji D k)).map some).flatMap (yj (xB m (2+i)) w),a=w++[wH w k]:=λa ha=>by
   obtain⟨c,hc,h⟩:=yo.mp ha;obtain⟨v,hv,rfl⟩:=wl.mp hc;obtain⟨rfl,hb⟩:=vn.mp h;show w++[v]=_;rw[det hh hk hi hs (hw w hww) hv hb]
  exactλa ha b hb=>(key a ha).trans (key b hb).symm
theorem qas{D:Dm×Dm}{m:M}{x y:Int}(hh:Has m)(hk:kY 2 m.ks)(kd:∀k∈m.ks,KD D k):∀k,1+k≤m.size→(vr D m k 1 [[x,y]]).length≤20 ^ Zn (m.ks.take (k - 1))
 |0,_=>jG rfl
 |1,_=>by
  show(z9 D m 1 [[x,y]]).length≤1
  exact qu (xI (n:=1) λw B=>qu (xI (n:=1) λc B=>qce _ w c) (qW _)) (qW _)
 |k+2,h=>by
  have h':k<m.ks.length:=by unfold M.size at h;exact Nat.lt_of_succ_le (Nat.le_of_add_le_add_left (a:=2) (by rw[Nat.add_succ];exact qu (jR (by rw[jH 1,jH 2])) h))
  have hi:=zm h';rw[YA,show 1+(k+1)=2+k by rw[jH k,←jQ]];have ih:=qas (x:=x) (y:=y) hh hk kd (k+1) (Nat.le_of_succ_le h);have hl:∀w∈vr D m (k+1) 1 [[x,y]],w.length=2+k:=λw hw=>by
   rw[((YH (k+1) (Nat.le_of_succ_le h) w).mp hw).len,QN (by rw[jH k,←jQ];exact qS ..),jH k,←jQ]
  refine qu (qif hh hk hi (kd _ (List.getElem_mem h')) hl) ?_;show _≤20 ^ Zn (m.ks.take (k+1))
  rw[List.take_succ,hi,Zn,List.filter_append,qU];show _≤20 ^ (Zn (m.ks.take k)+(List.filter Yb [m.ks[k]]).length)
  cases hs:Yb m.ks[k] with
  |true=>rw[List.filter_cons_of_pos hs];show 20 * _≤20 ^ (Zn (m.ks.take k)+1);rw[Nat.pow_succ,Nat.mul_comm];exact Nat.mul_le_mul_right 20 ih
  |false=>rw[List.filter_cons_of_neg (by rw[hs];decide)];exact qu (jR (Nat.one_mul _)) ih
theorem qlb{D:Dm×Dm}(hh:Has m)(hk:kY 2 m.ks)(kd:∀k∈m.ks,KD D k)(hc:Zn m.ks≤3)(k:Nat)(h:k≤1+m.ks.length):(vr D m k 1 [[x,y]]).length≤90000:=by
 refine qu (qas hh hk kd k (by unfold M.size;exact qu (j3 h 1) (jR (by rw[←jQ])))) (qu (Nat.pow_le_pow_right (by decide) (qu ?_ hc)) (by decide));exact(List.take_sublist _ _).filter Yb |>.length_le
noncomputable def DK(D:Dm×Dm)(ks:List Key)(k:Key):Prop:=∀w,ql w 0∈qi D.1→ql w 1∈qi D.2→jT zz ks w→wH w k∈qi (ji D k)
noncomputable def gD(D:Dm×Dm)(ks:List Key):Prop:=∀(i:Nat) (k:Key),ks[i]? = some k→DK D (ks.take i) k
theorem HI{ks:List Key}{i j:Nat}{q:Key}:(ks.take i)[j]? = some q ↔ j<i∧ks[j]? = some q:=by
 rw[List.getElem?_take];by_cases h:j<i
 ·rw[if_pos h];exact⟨λe=>⟨h,e⟩,λe=>e.2⟩
 ·rw[if_neg h];constructor
  ·intro e;injection e
  ·intro e;exact absurd e.1 h
theorem gD.ok{D:Dm×Dm}(h:gD D ks)(hx:x∈qi D.1)(hy:y∈qi D.2):qcj D x y ks:=λi k hi w h0 h1 ht =>
 h i k hi w (h0▸hx) (h1▸hy) λj q hj B=>ht j q (HI.mp hj).1 (HI.mp hj).2
theorem gD.fit{D:Dm×Dm}(h:gD D ks)(hx:ql w 0∈qi D.1)(hy:ql w 1∈qi D.2)(ht:jT zz ks w):ZO D ks w :=
 ⟨hx,hy,λi k hi=>by rw[ht i k hi id];exact h i k hi w hx hy λj q hj B=>ht j q (HI.mp hj).2 id⟩
theorem gD.app{D:Dm×Dm}(h:gD D ks)(hk:DK D ks k):gD D (ks++[k]):=λi q hi=>by
 rcases KV hi with hi | ⟨rfl,rfl⟩
 ·rw[List.take_append_of_le_length (jz (jL.mp hi).1)];exact h i q hi
 ·rw[List.take_left' rfl];exact hk
structure Sh (D:Dm×Dm) (m:M) (ns:Nat):Prop where
 lt:kY 2 m.ks
 has:Has m
 kd:∀k∈m.ks,KD D k
 ts:∀t∈m.ts,zy m.size t
 dom:gD D m.ks
 cnt:Zn m.ks≤ns
theorem y9.mono(h:y9 n r)(l:n≤k):y9 k r:=⟨h.1,λv hv=>q6 (h.2.1 v hv) l,h.2.2⟩
theorem zy.mono(h:zy n t)(l:n≤k):zy k t:=by
 induction t with
 |lin r=>exact⟨h.1,y9.mono h.2 l⟩
 |reif b r=>exact⟨q6 h.1 l,y9.mono h.2 l⟩
 |imp b r=>exact⟨q6 h.1 l,y9.mono h.2 l⟩
 |cl b s=>exact q6 (show b<n from h) l
theorem Sh.key{D:Dm×Dm}(h:Sh D m ns)(hk:k.lt m.size)(kd:KD D k)(dk:DK D m.ks k)(hl:∀t∈l,zy (m.size+1) t)(hh:DA l m.size k):Sh D ⟨m.ks++[k],m.ts++l⟩ (ns+bif Yb k then 1 else 0):=by
 have hsz:(⟨m.ks++[k],m.ts++l⟩:M).size=m.size+1:=by unfold M.size;rw[qU];rfl
 refine⟨λi q hi=>?_,λi q hi=>?_,λq hq=>?_,λt ht=>?_,h.dom.app dk,?_⟩
 ·rcases KV hi with hi | ⟨rfl,rfl⟩
  ·exact h.lt i q hi
  ·exact hk
 ·rcases KV hi with hi | ⟨rfl,rfl⟩
  ·exact(h.has i q hi).mono
  ·induction q with
   |sum s=>exactλe=>Q9 _ (hh e)
   |reif r=>exact Q9 _ hh
   |stand=>trivial
 ·rcases yN.mp hq with hq | hq
  ·exact h.kd q hq
  ·rw[qQ.mp hq];exact kd
 ·rw[hsz]
  rcases yN.mp ht with ht | ht
  ·exact(h.ts t ht).mono (wt _)
  ·exact hl t ht
 ·show Zn (m.ks++[k])≤_
  rw[Zn,List.filter_append,qU];refine yt h.cnt ?_;cases hs:Yb k with
  |true=>rw[List.filter_cons_of_pos hs];exact qW _
  |false=>rw[List.filter_cons_of_neg (by rw[hs];decide)];exact qW _
theorem Sh.post{D:Dm×Dm}(h:Sh D m ns)(ht:zy m.size t):Sh D (m.post t) ns :=
 ⟨h.lt,λi q hi=>(h.has i q hi).mono,h.kd,λu hu=>(yN.mp hu).elim (h.ts u) λe=>qQ.mp e▸ht,h.dom,h.cnt⟩
theorem qcX:ja (-1):=by show(-1:Int).natAbs<1000;decide
theorem qmv(h:∀p∈s.t,p.1<n∧ja p.2)(hl:s.t.length≤2):zy (n+1) (.lin (kK s n)):=by
 refine⟨rfl,λa ha=>?_,λv hv=>?_,?_,?_⟩
 ·rcases yN.mp ha with ha | ha
  ·obtain⟨p,hp,rfl⟩:=wl.mp ha;exact(h p hp).2
  ·rw[qQ.mp ha];exact qcX
 ·rcases yN.mp hv with hv | hv
  ·obtain⟨p,hp,rfl⟩:=wl.mp hv;exact kM (h p hp).1
  ·rw[qQ.mp hv];exact zY _
 ·rw[kK,qU,qE];exact zZ hl
 ·rw[kK,qU,qE];exact zZ hl
theorem Sh.sum{D:Dm×Dm}(h:Sh D m ns)(ht:∀p∈s.t,p.1<m.size∧ja p.2)(hl:s.t.length≤2)(kd:KD D (.sum s))(dk:DK D m.ks (.sum s)):Sh D (qB s m).2 ns:=by
 unfold qB;induction s.lone with
 |some v=>exact h
 |none=>induction qX (.sum s) 2 m.ks with
  |some n=>exact h
  |none =>
   show Sh D (yk s m) ns
   unfold yk;cases he:s.t.isEmpty with
   |true =>
    have:=h.key (k:=.sum s) (l:=[]) (λp hp=>(ht p hp).1) kd dk (λB q=>nomatch q) (λe=>by rw[he] at e;injection e);rw[zR] at this;exact this
   |false=>exact h.key (k:=.sum s) (l:=[.lin (kK s (2+m.ks.length))]) (λp hp=>(ht p hp).1) kd dk (λt q=>by rw[qQ.mp q];exact qmv ht hl) (λB=>qQ.mpr rfl)
theorem qnD{D:Dm×Dm}(h:ji D k=TR)(hs:Yb k=false):KD D k:=⟨by rw[h];rfl,by rw[h];exact jG rfl,by rw[h];exact x5 ..,λe=>by rw[hs] at e;injection e⟩
theorem Sh.tt{D:Dm×Dm}(h:Sh D m ns)(hr:y9 m.size r):Sh D (zv D r m).2 ns:=by
 unfold zv;induction k8 D r with
 |true=>exact h
 |false=>induction qX (.reif r) 2 m.ks with
  |some n=>exact h
  |none=>exact h.key (k:=.reif r) (l:=[.reif (2+m.ks.length) r]) hr.2.1 (qnD rfl rfl) (λw B B B=>gM.mpr (by show(bif r.holds w then (1:Int) else 0)=0∨(bif r.holds w then (1:Int) else 0)=1;induction r.holds w;exact .inl rfl;exact .inr rfl)) (λt q=>by rw[qQ.mp q];exact⟨zY _,hr.mono (wt _)⟩) (qQ.mpr rfl)
theorem ZN(h:∀p∈s.t,p.1<m.size):(qB s m).1<(qB s m).2.size:=by
 rcases x0 s m with e | ⟨j,e,hj⟩
 ·obtain⟨⟨l,g,_⟩,_⟩:=wf s m
  unfold M.size;rw[g,qU,←jQ];exact q6 (h _ (YN e).1) (qS ..)
 ·rw[e];exact kQ (jL.mp hj).1 2
theorem qkS{D:Dm×Dm}(h:wF D ks t):∃p,ji D (.sum t.sum)=[p]∧∀w,ZO D ks w→p.1≤t.sum.val w∧t.sum.val w≤p.2:=by
 induction t with
 |b v=>induction v <;> exact⟨_,rfl,λw B=>⟨Int.le_refl _,Int.le_refl _⟩⟩
 |bit n s =>
  have h1:=h.1;have hb:=λw hf=>qgJ (w:=w) h hf;induction s
  ·refine⟨(0,1),by simp only[Tr.sum,cond_false,ji,Sm.bnds,KZ,K1,h1];rfl,λw hf=>?_⟩
   show(0:Int)≤-1 * ql w n+0+1∧-1 * ql w n+0+1≤1
   rcases hb w hf with e | e <;> rw[e] <;> decide
  ·refine⟨(0,1),by simp only[Tr.sum,cond_true,ji,Sm.bnds,KZ,K1,h1];rfl,λw hf=>?_⟩
   show(0:Int)≤1 * ql w n+0+0∧1 * ql w n+0+0≤1
   rcases hb w hf with e | e <;> rw[e] <;> decide
theorem Sh.trsum{D:Dm×Dm}(h:Sh D m ns)(ht:wF D m.ks t)(hl:t.lt m.size):Sh D (qB t.sum m).2 ns:=by
 obtain⟨p,hp,hv⟩:=qkS ht;refine h.sum (λq hq=>⟨Yw hl q hq,?_⟩) (qap t) ⟨KN ht,by rw[hp];exact jG rfl,by rw[hp];exact x5 ..,λe=>by injection e⟩ (λw hx hy h2=>?_)
 ·induction t with
  |b v=>induction v <;> rcases hq
  |bit n b=>induction b <;> cases qQ.mp hq <;> first | exact qcX | (show(1:Int).natAbs<1000;decide)
 ·show t.sum.val w∈_
  rw[hp];exact gr.mpr ⟨p,qQ.mpr rfl,hv w (h.dom.fit hx hy h2)⟩
theorem qlO{t:Tr}{n:Nat}(h:t.lt n):t.con.lt n:=λv b e=>by
 induction t with
 |b v=>injection e
 |bit k c=>injection e with e e1q;subst e;subst e1q;exact h _ _ rfl
theorem qiK(h1:∀a∈cs,ja a)(h2:∀v∈vs,v<n)(h3:cs.length≤3)(h4:vs.length≤3):y9 n (xf cs vs c):=⟨h1,h2,h3,h4⟩
theorem Tr.lt.mono{t:Tr}{n k:Nat}(h:t.lt n)(l:n≤k):t.lt k:=λv b e=>q6 (h v b e) l
theorem Gr.size(h:Gr m m' n):m.size≤m'.size:=by obtain⟨⟨l,e,_⟩,_⟩:=h;unfold M.size;rw[e,qU,←jQ];exact qS ..
theorem BU:ja 1:=by show(1:Int).natAbs<1000;decide
theorem Sh.stand{D:Dm×Dm}{m:M}{ns:Nat}(h:Sh D m ns){y:Nat}{t:Tr}{dm:Dm}(ht:wF D m.ks t)(htl:t.lt m.size)(hy:y<m.size)(kd:KD D (.stand y t dm))(dk:DK D m.ks (.stand y t dm)):Sh D (jA y t dm m).2 (ns+1):=by
 unfold jA;cases hf:qX (.stand y t dm) 2 m.ks with
 |some n=>exact⟨h.lt,h.has,h.kd,h.ts,h.dom,Nat.le_succ_of_le h.cnt⟩
 |none =>
  have h1:Sh D (wn (.stand y t dm) m) (ns+1):=by
   have:=h.key (k:=.stand y t dm) (l:=[]) ⟨hy,htl⟩ kd dk (λB q=>nomatch q) trivial;rw[zR] at this;exact this
  have s1:(wn (.stand y t dm) m).size=m.size+1:=by unfold M.size;show 2+(m.ks++[_]).length=_;rw[qU];rfl
  have a1:wF D (wn (.stand y t dm) m).ks t:=ht.more;have l1:t.lt (wn (.stand y t dm) m).size:=htl.mono (by rw[s1];exact wt _);have g1:=wf t.sum (wn (.stand y t dm) m);have z1:=g1.size;rw[s1] at z1;have h2:Sh D (xV y (2+m.ks.length) t (wn (.stand y t dm) m)) (ns+1):=(h1.trsum a1 l1).post ⟨ZN (Yw l1),qiK (λa ha=>by
    rcases q7.mp ha with rfl | ha
    ·exact BU
    ·rw[qQ.mp ha];exact qcX) (λv hv=>by
    rcases q7.mp hv with rfl | hv
    ·exact q6 (zY _) z1
    ·rw[qQ.mp hv];exact q6 (kM hy) z1) (jG rfl) (jG rfl)⟩
  have g2:=Q0 y (2+m.ks.length) t (wn (.stand y t dm) m);have z2:=g2.size;have a2:wF D (xV y (2+m.ks.length) t (wn (.stand y t dm) m)).ks t.con:=by obtain⟨⟨l,e,_⟩,_⟩:=g2;rw[e];exact a1.con.more
  have l2:=(qlO l1).mono z2;have z3:=(wf t.con.sum (xV y (2+m.ks.length) t (wn (.stand y t dm) m))).size;rw[s1] at z2;exact(h2.trsum a2 l2).post ⟨ZN (Yw l2),qiK (λa ha=>by rw[qQ.mp ha];exact BU) (λv hv=>by rw[qQ.mp hv];exact q6 (zY _) (qu z2 z3)) (jG rfl) (jG rfl)⟩
theorem Sh.mok{D:Dm×Dm}(h:Sh D m ns)(hl:Lt m 100):MOk D m:=⟨λk hk=>⟨(h.kd k hk).sm,(h.kd k hk).len⟩,h.ts,hl⟩
noncomputable def wc:List Dm:=[[(0,1)],[(-1,-1),(1,1)],[(-1,0)],[(0,0),(2,2)],[(-2,-2),(0,0)],[(1,2)]]
noncomputable def yB:List Int:=[1,0,-1,2]
noncomputable def K4:List Int:=[-1,0,1]
structure Nm where
 a:Int
 b:Int
 c:Int
noncomputable def Nm.tms(N:Nm):List (Nat×Int):=(bif N.a == 0 then [] else [(0,N.a)])++(bif N.b == 0 then [] else [(1,N.b)])
noncomputable def Nm.s(N:Nm):Sm:=⟨N.tms,N.c⟩
noncomputable def Nm.arg(N:Nm):Arg:=bif N.tms.isEmpty then .int N.c else .sm N.s
noncomputable def Nm.due(N:Nm)(x y:Int):Int:=N.a * x+N.b * y+N.c
noncomputable def w4(xs ys:List Int)(N:Nm):List Int:=xs.flatMap λv=>ys.map λw=>N.a * v+N.b * w+N.c
noncomputable def wy:List Int→Int
 |[]=>0
 |a::r=>yi a r
noncomputable def qhz:List Int→Int
 |[]=>0
 |a::r=>wx a r
noncomputable def ZI(xs ys:List Int)(N:Nm):List Int:=bif N.a == 1&&N.b == 0&&N.c == 0 then xs else bif N.a == 0&&N.b == 1&&N.c == 0 then ys else jN (wy (w4 xs ys N)) (qhz (w4 xs ys N)+1)
noncomputable def zb(xs ys:List Int)(N:Nm):List Int:=(ZI xs ys N).filter λv=>v != 0
noncomputable def inD(d:Dm)(v:Int):Bool:=d.any λp=>decide (p.1≤v)&&decide (v≤p.2)
noncomputable def qie:Dm→Bool
 |[]=>true
 |p::r=>(r.all λq=>decide (p.2<q.1))&&qie r
noncomputable def qgQ(X Y:Dm)(N:Nm):Bool :=
 let s:=N.s
 let D:=(X,Y)
 let dm:=js D s
 let xs:=qi X
 let ys:=qi Y
 let fl:=zb xs ys N
 zO (ji D (.sum s))&&decide (dm.length≤2)&&!fl.isEmpty&&(xs.all λx=>ys.all λy=>inD (ji D (.sum s)) (N.due x y)&&decide ((N.due x y).natAbs<1000)) &&
 bif wP 0 dm then
  let nz:=ya dm
  decide (s.cs∈Zo)&&decide ((s.bnds D).1≤0)&&decide (0≤(s.bnds D).2)&&!((s.bnds D).1 == (s.bnds D).2)&&zO nz&&!nz.isEmpty&&qie nz&&decide (nz.length≤2)&&decide ((qi nz).length≤20)&&inD nz (qM nz)&&wy fl == qM nz &&
  (xs.all λx=>ys.all λy=>(N.due x y == 0)||inD nz (N.due x y)) &&
  bif s.div then (xs.all λx=>ys.all λy=>(aR s).holds [x,y] == (N.due x y == 0))&&(!k8 D (aR s)||((aR s).c == 0||(aR s).c == 1))&&(aR s).cs.all λa=>decide (a.natAbs<1000)
  else xs.all λx=>ys.all λy=>!(N.due x y == 0)
 else xs.all λx=>ys.all λy=>!(N.due x y == 0)
theorem qjB:(wc.all λX=>wc.all λY=>yB.all λa=>yB.all λb=>K4.all λc=>(a == 0&&b == 0&&c == 0)||qgQ X Y ⟨a,b,c⟩)=true:=by kernel_rfl
structure Pick (X Y:Dm) (N:Nm):Prop where
 X:X∈wc
 Y:Y∈wc
 a:N.a∈yB
 b:N.b∈yB
 c:N.c∈K4
 nz:(N.a == 0&&N.b == 0&&N.c == 0)=false
section
variable {X Y:Dm}{N:Nm}
theorem Pick.chk(h:Pick X Y N):qgQ X Y N=true:=by
 have h1:=jV (jV (jV (jV (jV qjB h.X) h.Y) h.a) h.b) h.c;rw[h.nz] at h1;exact h1
theorem kU(h:a∈yB):ja a:=(show ∀a∈yB,a.natAbs<1000 by decide) a h
theorem K6(h:d∈wc):gV d:=by
 have:=(show ∀d∈wc,d≠[]∧(qM d).natAbs<1000∧(je d).natAbs<1000 by decide) d h;exact this
theorem K7(h:d∈wc):zO d=true∧d.length≤2:=(show ∀d∈wc,zO d=true∧d.length≤2 by decide) d h
theorem gN(h:Pick X Y N):(∀p∈N.s.t,p.1<2∧ja p.2)∧N.s.t.length≤2:=by
 have ha:=kU h.a;have hb:=kU h.b;show(∀p∈N.tms,_)∧N.tms.length≤2
 unfold Nm.tms;induction N.a == 0 <;> induction N.b == 0
 ·exact⟨λp hp=>by rcases q7.mp hp with rfl | hp;exact⟨Nat.zero_lt_succ 1,ha⟩;rw[qQ.mp hp];exact⟨zY 1,hb⟩,jG rfl⟩
 ·exact⟨λp hp=>by rw[qQ.mp hp];exact⟨Nat.zero_lt_succ 1,ha⟩,jG rfl⟩
 ·exact⟨λp hp=>by rw[qQ.mp hp];exact⟨zY 1,hb⟩,jG rfl⟩
 ·exact⟨λp hp=>(nomatch hp),jG rfl⟩
theorem QT(N:Nm)(w:List Int):N.s.val w=N.due (ql w 0) (ql w 1):=by
 show vU w N.tms+N.c=N.a * ql w 0+N.b * ql w 1+N.c
 unfold Nm.tms;cases ha:N.a == 0 <;> cases hb:N.b == 0
 ·show N.a * ql w 0+(N.b * ql w 1+0)+N.c=_;rw[Int.add_zero]
 ·rw[wM hb];show N.a * ql w 0+0+N.c=_;rw[Int.zero_mul]
 ·rw[wM ha];show N.b * ql w 1+0+N.c=_;rw[Int.zero_mul,Int.add_zero,Int.zero_add]
 ·rw[wM ha,wM hb];show(0:Int)+N.c=_;rw[Int.zero_mul,Int.zero_mul];rfl
theorem qkq(N:Nm):N.arg.sum=N.s:=by
 unfold Nm.arg;cases h:N.tms.isEmpty with
 |false=>rfl
 |true=>show(⟨[],N.c⟩:Sm)=⟨N.tms,N.c⟩;rw[gS.mp h]
theorem Ha(h:inD d v=true):v∈qi d:=by
 obtain⟨p,hp,h⟩:=List.any_eq_true.mp h;obtain⟨a,b⟩:=qc h;exact gr.mpr ⟨p,hp,qr a,qr b⟩
theorem qnn:∀{d:Dm},qie d=true→DE d:=by
 intro d;induction d with
 |nil =>
  intro _;exact List.Pairwise.nil
 |cons p r ih =>
  intro h;obtain⟨a,b⟩:=qc h;exact x8.mpr ⟨λq hq=>qr (jV a hq),ih b⟩
theorem DF{xs ys:List Int}{f:Int→Int→Bool}(h:(xs.all λx=>ys.all λy=>f x y)=true){x y:Int}(hx:x∈xs)(hy:y∈ys):f x y=true:=jV (jV h hx) hy
theorem B5(r:Int×Int):(xy r).length≤1:=by unfold xy;split <;> exact jG rfl
theorem qob(h:d.length≤1):DE d:=by
 rcases Xj h with rfl | ⟨p,rfl⟩
 ·exact List.Pairwise.nil
 ·exact x5 ..
structure ZF (X Y:Dm) (N:Nm):Prop where
 cs:N.s.cs∈Zo
 lo:(N.s.bnds (X,Y)).1≤0
 hi:0≤(N.s.bnds (X,Y)).2
 ne:((N.s.bnds (X,Y)).1 == (N.s.bnds (X,Y)).2)=false
 sm:zO (ya (js (X,Y) N.s))=true
 ine:ya (js (X,Y) N.s)≠[]
 srt:DE (ya (js (X,Y) N.s))
 len:(ya (js (X,Y) N.s)).length≤2
 l20:(qi (ya (js (X,Y) N.s))).length≤20
 least:qM (ya (js (X,Y) N.s))∈qi (ya (js (X,Y) N.s))
 fl:wy (zb (qi X) (qi Y) N)=qM (ya (js (X,Y) N.s))
 due:∀x∈qi X,∀y∈qi Y,N.due x y≠0→N.due x y∈qi (ya (js (X,Y) N.s))
 t:N.s.div=true→(∀x∈qi X,∀y∈qi Y,(aR N.s).holds [x,y]=(N.due x y == 0))∧(k8 (X,Y) (aR N.s)=true→(aR N.s).c=0∨(aR N.s).c=1)∧∀a∈(aR N.s).cs,ja a
 f:N.s.div=false→∀x∈qi X,∀y∈qi Y,N.due x y≠0
structure NF (X Y:Dm) (N:Nm):Prop where
 sd:zO (ji (X,Y) (.sum N.s))=true
 dl:(js (X,Y) N.s).length≤2
 fl:zb (qi X) (qi Y) N≠[]
 due:∀x∈qi X,∀y∈qi Y,N.due x y∈qi (ji (X,Y) (.sum N.s))∧ja (N.due x y)
 z:wP 0 (js (X,Y) N.s)=true→ZF X Y N
 n:wP 0 (js (X,Y) N.s)=false→∀x∈qi X,∀y∈qi Y,N.due x y≠0
theorem H5{a:Int}(h:(!(a == 0))=true):a≠0:=λe=>by subst e;injection h
theorem H4{α:Type}{l:List α}(h:(!l.isEmpty)=true):l≠[]:=λe=>by subst e;injection h
theorem Pick.nf(h:Pick X Y N):NF X Y N:=by
 have hc:=h.chk;unfold qgQ at hc;simp only[] at hc;obtain⟨h1,h5⟩:=qc hc;obtain⟨h1,h4⟩:=qc h1;obtain⟨h1,h3⟩:=qc h1;obtain⟨h1,h2⟩:=qc h1;refine⟨h1,qr h2,H4 h3,λx hx y hy=>?_,λhz=>?_,λhz x hx y hy=>?_⟩
 ·obtain⟨a,b⟩:=qc (DF h4 hx hy)
  exact⟨Ha a,show(N.due x y).natAbs<1000 from qr b⟩
 ·rw[hz] at h5
  obtain⟨h5,g14⟩:=qc h5;obtain⟨h5,g13⟩:=qc h5;obtain⟨h5,g12⟩:=qc h5;obtain⟨h5,g11⟩:=qc h5;obtain⟨h5,g10⟩:=qc h5;obtain⟨h5,g9⟩:=qc h5;obtain⟨h5,g8⟩:=qc h5;obtain⟨h5,g7⟩:=qc h5;obtain⟨h5,g6⟩:=qc h5;obtain⟨h5,g5⟩:=qc h5;obtain⟨h5,g4⟩:=qc h5;obtain⟨g1,g3⟩:=qc h5;refine⟨qr g1,qr g3,qr g4,not_true g5,g6,H4 g7,qnn g8,qr g9,qr g10,Ha g11,wM g12,λx hx y hy hn=>?_,λhd=>?_,λhd x hx y hy=>?_⟩
  ·have:=DF g13 hx hy
   cases hq:(N.due x y == 0) with
   |true=>exact absurd (wM hq) hn
   |false=>rw[hq] at this;exact Ha this
  ·rw[hd] at g14
   obtain⟨g14,q3⟩:=qc g14;obtain⟨q1,q2⟩:=qc g14;refine⟨λx hx y hy=>wM (DF q1 hx hy),λhdir=>?_,λa ha=>show a.natAbs<1000 from qr (jV q3 ha)⟩;rw[hdir] at q2;exact(gR.mp (show((aR N.s).c == 0||(aR N.s).c == 1)=true from q2)).imp wM wM
  ·rw[hd] at g14;exact H5 (DF g14 hx hy)
 ·rw[hz] at h5;exact H5 (DF h5 hx hy)
theorem Pick.ok(h:Pick X Y N):NumOk (X,Y) N.arg N.s :=
 ⟨qkq N,K6 h.X,K6 h.Y,(gN h).1,(gN h).2,h.nf.sd,h.nf.dl,λhz=>let z:=h.nf.z hz;⟨z.cs,z.lo,z.hi,z.ne⟩,λhz=>let z:=h.nf.z hz;⟨z.sm,z.ine⟩⟩
theorem Pick.kd(h:Pick X Y N):KD (X,Y) (.sum N.s):=⟨h.nf.sd,qu (B5 _) (by decide),qob (B5 _),λe=>nomatch e⟩
theorem Pick.dk(h:Pick X Y N)(ks:List Key):DK (X,Y) ks (.sum N.s):=λw hx hy B=>by
 show N.s.val w∈_;rw[QT];exact(h.nf.due _ hx _ hy).1
end
noncomputable def TIs(D:Dm×Dm)(ks:List Key)(r:Row)(t:Tr):Prop:=(k8 D r=true∧t = .bit r.v (!r.le&&r.c == 1))∨∃j,t = .bit (2+j) true∧ks[j]? = some (.reif r)
theorem qdJ(D:Dm×Dm)(r:Row)(m:M):TIs D (zv D r m).2.ks r (zv D r m).1:=by
 unfold zv;cases h:k8 D r with
 |true=>exact .inl ⟨h,rfl⟩
 |false=>cases hf:qX (.reif r) 2 m.ks with
  |some n=>obtain⟨j,rfl,e⟩:=QH hf;exact .inr ⟨j,rfl,e⟩
  |none=>exact .inr ⟨m.ks.length,rfl,gF⟩
theorem qjI{D:Dm×Dm}(h:jt D v=TR)(hv:v<2)(hx:ql w 0∈qi D.1)(hy:ql w 1∈qi D.2):ql w v=0∨ql w v=1:=by
 rcases YT hv with rfl | rfl
 ·rw[show D.1=TR from h] at hx;exact gM.mp hx
 ·rw[show D.2=TR from h] at hy;exact gM.mp hy
theorem qmH(h:YM cs=true):cs=[1]:=QI (f:=PV.int) (λh=>v5 h) (m:=[1]) h
theorem TIs.val{D:Dm×Dm}(h:TIs D ks r t)(ht:jT zz ks w)(hx:ql w 0∈qi D.1)(hy:ql w 1∈qi D.2)(hv:r.vs=v::vs)(hv2:v<2)(hc:k8 D r=true→(r.le=false∧(r.c=0∨r.c=1))∨(r.le=true∧r.c=0)):jk t w=r.holds w:=by
 rcases h with⟨hd,rfl⟩ | ⟨j,rfl,hj⟩
 ·obtain⟨h1,h2⟩:=qc hd
  have hrv:r.v=v:=by rw[Row.v,hv];rfl
  rw[hrv] at h2 ⊢;have hb:=qjI (He h2) hv2 hx hy;have hc:=hc hd;obtain⟨le,cs,vs',c⟩:=r;cases qmH h1
  cases (show vs'=v::vs from hv)
  show((ql w v == 1) == (!le&&c == 1))=bif le then decide (0+1 * ql w v≤c) else 0+1 * ql w v == c
  rcases hc with⟨rfl,hc⟩ | ⟨rfl,hc⟩
  ·rcases hc with hc | hc <;> cases (show c=_ from hc) <;> rcases hb with e | e <;> rw[e] <;> rfl
  ·cases (show c=_ from hc);rcases hb with e | e <;> rw[e] <;> rfl
 ·show((ql w (2+j) == 1) == true)=_
  rw[ht j _ hj id];show(((bif r.holds w then (1:Int) else 0) == 1) == true)=_
  induction r.holds w <;> rfl
theorem qah(y:Nat)(t:Tr)(dm:Dm)(m:M):∃j,(jA y t dm m).1=2+j∧(jA y t dm m).2.ks[j]? = some (.stand y t dm):=by
 unfold jA;cases hf:qX (.stand y t dm) 2 m.ks with
 |some n=>obtain⟨j,rfl,e⟩:=QH hf;exact⟨j,rfl,e⟩
 |none =>
  obtain⟨⟨l2,g2,_⟩,_⟩:=Q0 y (2+m.ks.length) t (wn (.stand y t dm) m);obtain⟨⟨l3,g3,_⟩,_⟩:=XH (2+m.ks.length) t dm (xV y (2+m.ks.length) t (wn (.stand y t dm) m));refine⟨m.ks.length,rfl,?_⟩;show(sd3 _ _ _ _).ks[_]? = _
  rw[g3,g2];exact k5 (k5 gF)
section
variable {X Y:Dm}{N:Nm}{m:M}{ns:Nat}
theorem qnV(p:Pick X Y N)(hz:wP 0 (js (X,Y) N.s)=true):∃v vs,(aR N.s).vs=v::vs∧v<2:=by
 obtain⟨x,vs,h,h2⟩:=qdp p.ok hz;exact⟨x,vs,by rw[aR,QP,h],h2⟩
theorem qfW(p:Pick X Y N):∀v∈(aR N.s).vs,v<2:=by
 intro v hv;rw[aR,QP] at hv;obtain⟨q,hq,rfl⟩:=wl.mp hv;exact((gN p).1 q hq).1
theorem qfV(p:Pick X Y N)(hz:wP 0 (js (X,Y) N.s)=true)(hd:N.s.div=true)(n:Nat):y9 (2+n) (aR N.s):=by
 have hl:(aR N.s).cs.length≤3∧(aR N.s).vs.length≤3:=by
  have h2:=(gN p).2;refine⟨?_,by rw[aR,QP];show(N.s.t.map _).length≤3;rw[qE];exact qu h2 (by decide)⟩;unfold aR Row.norm;induction decide (0<(N.s.quo false).cs.headD 0)
  ·show(((N.s.t.map _).map _).map _).length≤3;rw[qE,qE,qE];exact qu h2 (by decide)
  ·show((N.s.t.map _).map _).length≤3;rw[qE,qE];exact qu h2 (by decide)
 exact⟨((p.nf.z hz).t hd).2.2,λv hv=>q6 (qfW p v hv) (qS ..),hl⟩
theorem qkG(p:Pick X Y N)(hz:wP 0 (js (X,Y) N.s)=true)(hd:N.s.div=true)(hx:ql w 0∈qi X)(hy:ql w 1∈qi Y):(aR N.s).holds w=(N.due (ql w 0) (ql w 1) == 0):=by
 rw[←((p.nf.z hz).t hd).1 _ hx _ hy];refine xN λv hv=>?_;rcases YT (qfW p v hv) with rfl | rfl <;> rfl
theorem qkp(r:Row):r.norm.le=r.le:=by unfold Row.norm;induction decide (0<r.cs.headD 0) <;> rfl
theorem qdS(p:Pick X Y N)(hz:wP 0 (js (X,Y) N.s)=true)(hd:N.s.div=true)(h:TIs (X,Y) ks (aR N.s) t)(ht:jT zz ks w)(hx:ql w 0∈qi X)(hy:ql w 1∈qi Y):jk t.con w = !(N.due (ql w 0) (ql w 1) == 0):=by
 obtain⟨v,vs,hv,hv2⟩:=qnV p hz;rw[Kv,h.val ht hx hy hv hv2 (λq=>.inl ⟨qkp _,((p.nf.z hz).t hd).2.1 q⟩),qkG p hz hd hx hy]
theorem Sh.num(h:Sh (X,Y) m ns)(p:Pick X Y N):Sh (X,Y) (qB N.s m).2 ns :=
 h.sum (λq hq=>⟨q6 ((gN p).1 q hq).1 (qS ..),((gN p).1 q hq).2⟩) (gN p).2 p.kd (p.dk _)
theorem HZ{D:Dm×Dm}(h:gK D s=true):wP 0 (js D s)=true∧s.div=true:=qc h
theorem qeG(p:Pick X Y N)(h:gK (X,Y) N.s=false)(hx:x∈qi X)(hy:y∈qi Y):N.due x y≠0:=by
 unfold gK at h;cases hz:wP 0 (js (X,Y) N.s) with
 |false=>exact p.nf.n hz x hx y hy
 |true=>cases hd:N.s.div with
  |false=>exact(p.nf.z hz).f hd x hx y hy
  |true=>rw[hz,hd] at h;injection h
theorem qfA(p:Pick X Y N):∀q∈N.s.t,q.1<2+n:=λq hq=>q6 ((gN p).1 q hq).1 (qS ..)
theorem qao(p:Pick X Y N)(hI:zU (X,Y) zz (gI cl) m)(hS:Sh (X,Y) m ns)(hl:Lt m 10):
  ∃cl',zU (X,Y) zz (gI cl') (jr (X,Y) N.s m)∧Sh (X,Y) (jr (X,Y) N.s m) ns∧wV (jr (X,Y) N.s m).ks N.s (qB N.s m).1∧(qB N.s m).1<(jr (X,Y) N.s m).size ∧
   ∀w,jT zz (jr (X,Y) N.s m).ks w→ql w 0∈qi X→ql w 1∈qi Y→(gI cl' w ↔ gI cl w∧N.due (ql w 0) (ql w 1)≠0):=by
 have hI1:=hI.sum (λh=>h) N.s;have hS1:=hS.num p;have hv:=x0 N.s m;have hvl:=ZN (s:=N.s) (m:=m) (qfA p);unfold jr;cases ht:gK (X,Y) N.s with
 |false=>exact⟨cl,hI1,hS1,hv,hvl,λw B hx hy=>⟨λh=>⟨h,qeG p ht hx hy⟩,λh=>h.1⟩⟩
 |true =>
  obtain⟨hz,hd⟩:=HZ ht;obtain⟨n,b,e,hn,ha⟩:=Dq (m:=m) p.ok hz (hl.le (by decide));have hI2:=hI1.tt (D:=(X,Y)) (λh=>h) (aR N.s);have hS2:=hS1.tt (qfV p hz hd (qB N.s m).2.ks.length);have hg:=ZK (X,Y) (aR N.s) (qB N.s m).2;have hti:=qdJ (X,Y) (aR N.s) (qB N.s m).2;have hI3:zU (X,Y) zz (gI (cl++[aT (X,Y) N.s m])) (yD (aT (X,Y) N.s m) (aM (X,Y) N.s m)):=by rw[e] at ha ⊢;exact zU.req hI2 ha
  have hS3:Sh (X,Y) (yD (aT (X,Y) N.s m) (aM (X,Y) N.s m)) ns:=by rw[e];exact Sh.post (m:=aM (X,Y) N.s m) hS2 hn
  have hks:(yD (aT (X,Y) N.s m) (aM (X,Y) N.s m)).ks=(aM (X,Y) N.s m).ks:=by rw[e];rfl
  refine⟨_,hI3,hS3,?_,?_,λw hw hx hy=>?_⟩
  ·show wV (yD _ _).ks _ _
   rw[hks];obtain⟨⟨l,q,_⟩,_⟩:=hg;show wV (zv _ _ _).2.ks _ _;rw[q];exact hv.more
  ·show _<2+(yD _ _).ks.length
   rw[hks];exact q6 hvl hg.size
  ·have hw:jT zz (yD (aT (X,Y) N.s m) (aM (X,Y) N.s m)).ks w:=hw
   rw[hks] at hw;rw[qbi,show jk (aT (X,Y) N.s m) w=_ from qdS p hz hd hti hw hx hy];simp
theorem qfn(p:Pick X Y N){E:List Int→Prop}(hI:zU (X,Y) zz E m)(hS:Sh (X,Y) m ns)(hl:Lt m 10):
  zU (X,Y) zz E (jU (X,Y) N.s m).2∧Sh (X,Y) (jU (X,Y) N.s m).2 (ns+1)∧(jU (X,Y) N.s m).1<(jU (X,Y) N.s m).2.size∧(∀t∈zd (X,Y) N.s m,t.lt (jU (X,Y) N.s m).2.size) ∧
   ∀w,jT zz (jU (X,Y) N.s m).2.ks w→ql w 0∈qi X→ql w 1∈qi Y →
    ql w (jU (X,Y) N.s m).1=(if N.due (ql w 0) (ql w 1)≠0 then N.due (ql w 0) (ql w 1) else wy (zb (qi X) (qi Y) N))∧(zd (X,Y) N.s m).all (λt=>jk t w) = !(N.due (ql w 0) (ql w 1) == 0):=by
 have hI1:=hI.sum (λh=>h) N.s;have hS1:=hS.num p;have hv:=x0 N.s m;have hvl:=ZN (s:=N.s) (m:=m) (qfA p);unfold jU zd;cases ht:gK (X,Y) N.s with
 |false =>
  refine⟨hI1,⟨hS1.lt,hS1.has,hS1.kd,hS1.ts,hS1.dom,Nat.le_succ_of_le hS1.cnt⟩,hvl,λt h=>(nomatch h),λw hw hx hy=>?_⟩;have hn:=qeG p ht hx hy;exact⟨by rw[if_pos hn,←QT];exact hv.val hw (λh=>h),by rw[yM hn];rfl⟩
 |true =>
  obtain⟨hz,hd⟩:=HZ ht;obtain⟨n,b,e,hn,ha⟩:=Dq (m:=m) p.ok hz (hl.le (by decide));have hI2:=hI1.tt (D:=(X,Y)) (λh=>h) (aR N.s);have hS2:=hS1.tt (qfV p hz hd (qB N.s m).2.ks.length);have hg:=ZK (X,Y) (aR N.s) (qB N.s m).2;have hti:=qdJ (X,Y) (aR N.s) (qB N.s m).2;have hlt:(aT (X,Y) N.s m).lt (aM (X,Y) N.s m).size:=λv c q=>by rw[e] at q;injection q with q q1q;subst q;subst q1q;exact hn
  have hv2:wV (aM (X,Y) N.s m).ks N.s (qB N.s m).1:=by obtain⟨⟨l,q,_⟩,_⟩:=hg;show wV (zv _ _ _).2.ks _ _;rw[q];exact hv.more
  have hvl2:(qB N.s m).1<(aM (X,Y) N.s m).size:=q6 hvl hg.size;have z:=p.nf.z hz;have hval:∀w,jT zz (aM (X,Y) N.s m).ks w→ql w 0∈qi X→ql w 1∈qi Y→jk (aT (X,Y) N.s m) w = !(N.due (ql w 0) (ql w 1) == 0):=λw hw hx hy=>qdS p hz hd hti hw hx hy;have hst:∀w,jT zz (aM (X,Y) N.s m).ks w→ql w 0∈qi X→ql w 1∈qi Y→wH w (.stand (qB N.s m).1 (aT (X,Y) N.s m) (ya (js (X,Y) N.s)))=(if N.due (ql w 0) (ql w 1)≠0 then N.due (ql w 0) (ql w 1) else wy (zb (qi X) (qi Y) N)):=λw hw hx hy=>by
   show(bif jk (aT (X,Y) N.s m) w then ql w (qB N.s m).1 else qM (ya (js (X,Y) N.s)))=_
   rw[hval w hw hx hy,hv2.val hw (λh=>h),QT,z.fl];by_cases q:N.due (ql w 0) (ql w 1)=0
   ·rw[q];rfl
   ·rw[yM q,if_pos q];rfl
  have hkd:KD (X,Y) (.stand (qB N.s m).1 (aT (X,Y) N.s m) (ya (js (X,Y) N.s))):=⟨z.sm,z.len,z.srt,λB=>z.l20⟩
  have hdk:DK (X,Y) (aM (X,Y) N.s m).ks (.stand (qB N.s m).1 (aT (X,Y) N.s m) (ya (js (X,Y) N.s))):=λw hx hy hw=>by
   rw[hst w hw hx hy];by_cases q:N.due (ql w 0) (ql w 1)=0
   ·rw[if_neg (λh=>h q),z.fl];exact z.least
   ·rw[if_pos q];exact z.due _ hx _ hy q
  have hI3:=zU.stand (m:=aM (X,Y) N.s m) hI2 (y:=(qB N.s m).1) (t:=aT (X,Y) N.s m) (dm:=ya (js (X,Y) N.s)) ha hlt;have hS3:=Sh.stand (m:=aM (X,Y) N.s m) hS2 (y:=(qB N.s m).1) (t:=aT (X,Y) N.s m) (dm:=ya (js (X,Y) N.s)) ha hlt hvl2 hkd hdk;have hg3:=xX (qB N.s m).1 (aT (X,Y) N.s m) (ya (js (X,Y) N.s)) (aM (X,Y) N.s m);obtain⟨j,hj,hj2⟩:=qah (qB N.s m).1 (aT (X,Y) N.s m) (ya (js (X,Y) N.s)) (aM (X,Y) N.s m);refine⟨hI3,hS3,?_,λt h=>?_,λw hw hx hy=>?_⟩
  ·show(jA _ _ _ _).1<_
   rw[hj];exact kQ (jL.mp hj2).1 2
  ·rw[qQ.mp h];exact hlt.mono hg3.size
  ·have hw:jT zz (jA (qB N.s m).1 (aT (X,Y) N.s m) (ya (js (X,Y) N.s)) (aM (X,Y) N.s m)).2.ks w:=hw
   have hw2:jT zz (aM (X,Y) N.s m).ks w:=by obtain⟨⟨l,q,_⟩,_⟩:=hg3;rw[q] at hw;exact hw.cut
   refine⟨?_,?_⟩
   ·show ql w (jA _ _ _ _).1=_
    rw[hj,hw j _ hj2 id,hst w hw2 hx hy]
   ·show(jk (aT (X,Y) N.s m) w&&true)=_
    rw[Bool.and_true];exact hval w hw2 hx hy
end
noncomputable def kR(m m2:M):Prop:=∃more,m2.ks=m.ks++more
theorem Gr.ext(h:Gr m m' n):kR m m':=by obtain⟨⟨l,e,_⟩,_⟩:=h;exact⟨l,e⟩
theorem kR.trans(h:kR a b)(g:kR b c):kR a c:=by obtain⟨l,e⟩:=h;exact by obtain⟨k,f⟩:=g;exact⟨l++k,by rw[f,e,wj]⟩
theorem vR(h:qX k 2 m.ks=some n)(e:kR m m2):qX k 2 m2.ks=some n:=by obtain⟨l,e⟩:=e;rw[e];exact qcF h
theorem gO(h:kR (qB s m).2 m2):qB s m2=((qB s m).1,m2):=by
 unfold qB at h ⊢;cases hl:s.lone with
 |some v=>rfl
 |none =>
  rw[hl] at h;cases hf:qX (.sum s) 2 m.ks with
  |some n=>rw[hf] at h;simp only[vR hf h]
  |none =>
   rw[hf] at h;have h1:qX (.sum s) 2 (yk s m).ks=some (2+m.ks.length):=by rw[Qm];exact Qg hf
   simp only[vR h1 h]
theorem qip{D:Dm×Dm}(h:kR (zv D r m).2 m2):zv D r m2=((zv D r m).1,m2):=by
 unfold zv at h ⊢;cases hd:k8 D r with
 |true=>rfl
 |false =>
  rw[hd] at h;show(match qX (.reif r) 2 m2.ks with | some n=>(Tr.bit n true,m2) | none=>_)=((match qX (.reif r) 2 m.ks with | some n=>(Tr.bit n true,m) | none=>_:Tr×M).1,m2)
  cases hf:qX (.reif r) 2 m.ks with
  |some n=>rw[hf] at h;simp only[vR hf h]
  |none =>
   rw[hf] at h;have h1:qX (.reif r) 2 (Dy r m).ks=some (2+m.ks.length):=Qg hf;simp only[vR h1 h]
theorem qaO{y:Nat}{t:Tr}{dm:Dm}{m m2:M}(h:kR (jA y t dm m).2 m2):jA y t dm m2=((jA y t dm m).1,m2):=by
 unfold jA at h ⊢;cases hf:qX (.stand y t dm) 2 m.ks with
 |some n=>rw[hf] at h;simp only[vR hf h]
 |none =>
  rw[hf] at h;have h1:qX (.stand y t dm) 2 (wn (.stand y t dm) m).ks=some (2+m.ks.length):=Qg hf;have h2:kR (wn (.stand y t dm) m) (y5 y t dm m):=(Q0 ..).ext.trans (XH ..).ext;simp only[vR (vR h1 h2) h]
section
variable {D:Dm×Dm}{s:Sm}{m m2:M}
theorem qbE(h:kR (aM D s m) m2):aT D s m2=aT D s m∧aM D s m2=m2:=by
 have h1:=gO (s:=s) ((ZK D (aR s) (qB s m).2).ext.trans h);have h2:=qip (D:=D) (r:=aR s) h;unfold aT aM;exact⟨by rw[h1];exact qz (λq=>q.1.con) h2,by rw[h1];exact qz Prod.snd h2⟩
theorem qfm(h:kR (jU D s m).2 m2):jU D s m2=((jU D s m).1,m2)∧zd D s m2=zd D s m:=by
 unfold jU at h ⊢;unfold zd;cases ht:gK D s with
 |false=>rw[ht] at h;exact⟨gO h,rfl⟩
 |true =>
  rw[ht] at h;have h:kR (jA (qB s m).1 (aT D s m) (ya (js D s)) (aM D s m)).2 m2:=h;have hm:kR (aM D s m) m2:=(xX ..).ext.trans h;obtain⟨e1,e2⟩:=qbE hm;have e3:=gO (s:=s) ((ZK D (aR s) (qB s m).2).ext.trans hm);show jA (qB s m2).1 (aT D s m2) (ya (js D s)) (aM D s m2)=_∧[aT D s m2]=[aT D s m]
  rw[e1,e2,e3];exact⟨qaO h,rfl⟩
theorem qfU(t:Tr)(m:M):(yD t m).ks=m.ks:=by induction t <;> rfl
theorem qgl(h:kR (jr D s m) m2):(qB s m2).1=(qB s m).1∧(jr D s m2).ks=m2.ks:=by
 unfold jr at h ⊢;cases ht:gK D s with
 |false=>rw[ht] at h;have e:=gO (s:=s) h;rw[e];exact⟨rfl,rfl⟩
 |true =>
  rw[ht] at h;have hm:kR (aM D s m) m2:=by obtain⟨l,e⟩:=h;exact⟨l,by rw[e];show(yD _ _).ks++l=_;rw[qfU]⟩
  obtain⟨e1,e2⟩:=qbE hm;have e3:=gO (s:=s) ((ZK D (aR s) (qB s m).2).ext.trans hm);refine⟨by rw[e3],?_⟩;show(yD (aT D s m2) (aM D s m2)).ks=_
  rw[qfU,e2]
end
theorem XS(h:X∈wc):qi X=[qM X,je X]∧qM X<je X∧zO [(qM X - 1,je X+1)]=true∧(qi [(qM X - 1,je X+1)]).length≤20 :=
 (show ∀X∈wc,qi X=[qM X,je X]∧qM X<je X∧zO [(qM X - 1,je X+1)]=true∧(qi [(qM X - 1,je X+1)]).length≤20 by decide +kernel) X h
noncomputable def QK(X:Dm):Dm:=[(qM X - 1,je X+1)]
noncomputable def j6(X Y:Dm)(e:Int)(m:M):Nat×M:=jA 0 (jO (X,Y) e m).1 (QK X) (jO (X,Y) e m).2
theorem xb(h:X∈wc)(e:Int):((zw (-e)).bnds (X,Y)).1=qM X - e∧((zw (-e)).bnds (X,Y)).2=je X - e:=by
 have hl:=(XS h).2.1;show -e+(if 1 * je X<1 * qM X then 1 * je X else 1 * qM X)=_∧-e+(if 1 * qM X<1 * je X then 1 * je X else 1 * qM X)=_
 rw[Int.one_mul,Int.one_mul,if_neg (Int.not_lt.mpr (we hl)),if_pos hl];exact⟨Int.add_comm _ _,Int.add_comm _ _⟩
theorem xq2(c:Int):((zw c).quo true).c = -c:=by
 show(-c).fdiv (xM [1])=_
 rw[show xM [1]=1 by decide +kernel,Int.fdiv_one]
theorem qnB(h:X∈wc)(hx:x∈qi X):qM X≤x∧x≤je X:=by
 have hl:=(XS h).2.1;rw[(XS h).1] at hx;rcases q7.mp hx with rfl | hx
 ·exact⟨Int.le_refl _,we hl⟩
 ·rw[qQ.mp hx];exact⟨we hl,Int.le_refl _⟩
theorem qex(hl:Lt m 2):wF (X,Y) (jO (X,Y) e m).2.ks (jO (X,Y) e m).1∧(jO (X,Y) e m).1.lt (jO (X,Y) e m).2.size:=by
 unfold jO;induction decide (((zw (-e)).bnds (X,Y)).2≤0)||decide (0<((zw (-e)).bnds (X,Y)).1) with
 |true=>exact⟨trivial,λv b q=>nomatch q⟩
 |false =>
  obtain⟨n,b,q,hn,ha⟩:=qji (D:=(X,Y)) (r:=(zw (-e)).quo true) (m:=m) (Nat.zero_lt_succ 1) hl;exact⟨ha,λv c q2=>by rw[show(bif false then _ else zv (X,Y) ((zw (-e)).quo true) m:Tr×M).1=_ from q] at q2;injection q2 with q2 q21q;subst q2;subst q21q;exact hn⟩
theorem qjE(hX:X∈wc)(hw:jT zz (jO (X,Y) e m).2.ks w)(hx:ql w 0∈qi X)(hy:ql w 1∈qi Y):jk (jO (X,Y) e m).1 w=decide (ql w 0≤e):=by
 obtain⟨b1,b2⟩:=xb (Y:=Y) hX e;obtain⟨x1,x2⟩:=qnB hX hx;unfold jO at hw ⊢;rw[b1,b2] at hw ⊢;by_cases h1:je X - e≤0
 ·rw[qN h1];show true=_;rw[qN (zB x2 (Int.le_of_sub_nonpos h1))]
 ·by_cases h2:0<qM X - e
  ·rw[qN h2,Bool.or_true];show decide _=_;rw[zQ h1,zQ (Int.not_le.mpr (Int.lt_of_lt_of_le (Int.lt_of_sub_pos h2) x1))]
  ·rw[zQ h1,zQ h2] at hw ⊢
   have hw:jT zz (zv (X,Y) ((zw (-e)).quo true) m).2.ks w:=hw;show jk (zv (X,Y) ((zw (-e)).quo true) m).1 w=_
   rw[(qdJ (X,Y) ((zw (-e)).quo true) m).val hw hx hy (v:=0) (vs:=[]) rfl (by decide) (λq=>.inr ⟨rfl,?_⟩)]
   ·show decide (kJ w 0 ((zw (-e)).quo true).cs [0]≤((zw (-e)).quo true).c)=_
    rw[xq,xq2];show decide (0+1 * ql w 0≤- -e)=_
    rw[Int.zero_add,Int.one_mul,Int.neg_neg]
   ·have hT:X=TR:=He (qc q).2
    rw[xq2];subst hT;have g1:¬ (1:Int) - e≤0:=h1;have g2:¬ (0:Int)<0 - e:=h2;rw[Int.neg_neg];exact Int.le_antisymm (Int.le_of_lt_add_one (Int.lt_of_sub_pos (Int.not_le.mp g1))) (Int.le_of_sub_nonpos (Int.not_lt.mp g2))
theorem qkd{X Y:Dm}{e:Int}{m:M}{ns:Nat}{E:List Int→Prop}(hX:X∈wc)(hI:zU (X,Y) zz E m)(hS:Sh (X,Y) m ns)(hl:Lt m 10):
  zU (X,Y) zz E (j6 X Y e m).2∧Sh (X,Y) (j6 X Y e m).2 (ns+1)∧(j6 X Y e m).1<(j6 X Y e m).2.size ∧
   ∀w,jT zz (j6 X Y e m).2.ks w→ql w 0∈qi X→ql w 1∈qi Y→ql w (j6 X Y e m).1=if ql w 0≤e then ql w 0 else qM X - 1:=by
 obtain⟨ha,hlt⟩:=qex (X:=X) (Y:=Y) (e:=e) (hl.le (by decide));have hI1:zU (X,Y) zz E (jO (X,Y) e m).2:=by
  unfold jO;induction decide (((zw (-e)).bnds (X,Y)).2≤0)||decide (0<((zw (-e)).bnds (X,Y)).1) with
  |true=>exact hI
  |false=>exact hI.tt (λh=>h) _
 have hS1:Sh (X,Y) (jO (X,Y) e m).2 ns:=by
  unfold jO;induction decide (((zw (-e)).bnds (X,Y)).2≤0)||decide (0<((zw (-e)).bnds (X,Y)).1) with
  |true=>exact hS
  |false=>exact hS.tt ⟨λa q=>by rw[xq,qQ] at q;rw[q];exact BU,λv q=>by rw[qQ.mp (show v∈[0] from q)];exact q6 (by decide) (qS 2 _),by rw[xq];decide,jG rfl⟩
 obtain⟨x1,x2,x3,x4⟩:=XS hX;have hval:∀w,jT zz (jO (X,Y) e m).2.ks w→ql w 0∈qi X→ql w 1∈qi Y→wH w (.stand 0 (jO (X,Y) e m).1 (QK X))=if ql w 0≤e then ql w 0 else qM X - 1:=λw hw hx hy=>by
  show(bif jk (jO (X,Y) e m).1 w then ql w 0 else qM X - 1)=_
  rw[qjE hX hw hx hy];by_cases q:ql w 0≤e
  ·rw[qN q,if_pos q];rfl
  ·rw[zQ q,if_neg q];rfl
 have hdk:DK (X,Y) (jO (X,Y) e m).2.ks (.stand 0 (jO (X,Y) e m).1 (QK X)):=λw hx hy hw=>by
  rw[hval w hw hx hy];obtain⟨y1,y2⟩:=qnB hX hx;refine gr.mpr ⟨_,qQ.mpr rfl,?_⟩;show qM X - 1≤_∧_≤je X+1
  split
  ·exact⟨zB (Int.sub_le_self _ (by decide)) y1,zB y2 (Int.le_add_of_nonneg_right (by decide))⟩
  ·exact⟨Int.le_refl _,zB (Int.sub_le_self _ (by decide)) (zB y1 (zB y2 (Int.le_add_of_nonneg_right (by decide))))⟩
 have hst:=xX 0 (jO (X,Y) e m).1 (QK X) (jO (X,Y) e m).2;obtain⟨j,hj,hj2⟩:=qah 0 (jO (X,Y) e m).1 (QK X) (jO (X,Y) e m).2;refine⟨hI1.stand ha hlt,hS1.stand ha hlt (q6 (by decide) (qS 2 _)) ⟨x3,jG rfl,x5 ..,λB=>x4⟩ hdk,?_,λw hw hx hy=>?_⟩
 ·show(jA _ _ _ _).1<_
  rw[hj];exact kQ (jL.mp hj2).1 2
 ·have hw2:jT zz (jO (X,Y) e m).2.ks w:=by obtain⟨⟨l,q,_⟩,_⟩:=hst;rw[show(j6 X Y e m).2.ks=_ from q] at hw;exact hw.cut
  show ql w (jA _ _ _ _).1=_
  rw[hj,hw j _ hj2 id,hval w hw2 hx hy]
theorem xo{p m:Int}(h:0<m):0≤p.fmod m∧p.fmod m<m:=⟨Int.fmod_nonneg_of_pos p h,Int.fmod_lt_of_pos p h⟩
theorem BK{r:Int}{n:Nat}(h:0≤r∧r<n):∃k:Nat,k<n∧r=k:=⟨r.toNat,(Int.toNat_lt h.1).mpr h.2,(Ze h.1).symm⟩
theorem qgn{l:List PV}{k:Nat}{v:PV}(hk:k<1000000000)(h:l[k]? = some v)(s:St):wv (.pv (.tup l)) (.pv (.int k)) s=some (.pv v):=by
 show(if (k:Int).natAbs<1000000000 then (bif decide (0≤(k:Int)) then (l.map AV.pv)[(k:Int).toNat]? else _) else none)=_
 rw[if_pos (show(k:Int).natAbs<1000000000 from hk),qN (Int.natCast_nonneg k)];show(l.map AV.pv)[k]? = _
 rw[kO,h];rfl
theorem qbP(h:0≤r∧r<4):∃a∈yB,∀s,wv (.pv (.tup (qj yB))) (.pv (.int r)) s=some (.pv (.int a)):=by
 obtain⟨k,hk,rfl⟩:=BK (n:=4) h;exact⟨yB[k],List.getElem_mem _,qgn (jp hk (by decide)) (by rw[qj,kO,zm (show k<yB.length from hk)];rfl)⟩
theorem qeF(h:0≤r∧r<6):∃X∈wc,∀s,wv (.pv (.tup (wc.map jm))) (.pv (.int r)) s=some (.pv (jm X)):=by
 obtain⟨k,hk,rfl⟩:=BK (n:=6) h;exact⟨wc[k],List.getElem_mem _,qgn (jp hk (by decide)) (by rw[kO,zm (show k<wc.length from hk)];rfl)⟩
theorem qnJ{p:Int}:p.fmod 3 - 1∈K4:=by
 obtain⟨k,hk,e⟩:=BK (n:=3) (xo (p:=p) (m:=3) (by decide));rw[e];exact(show ∀k<3,((k:Nat):Int) - 1∈K4 by decide) k hk
section
variable (d:Nat) {N:Nm}
theorem XQ(N:Nm)(s:St):qf P (d+1) 39 [.pv (.int N.a),.pv (.int N.b),.pv (.int N.c)] s=some (.pv N.arg.pv,s):=by
 obtain⟨h,st⟩:=s;have e1:∀(a:Int) s,jD .ne (.pv (.int a)) (.pv (.int 0)) s=some (!(a == 0)):=λa s=>rfl;have hN:N.arg.pv=bif N.tms.isEmpty then .int N.c else N.s.pv:=by unfold Nm.arg;induction N.tms.isEmpty <;> rfl
 rw[hN];obtain⟨a,b,c⟩:=N;have go:∀x y:Bool,(a == 0)=x→(b == 0)=y→qf P (d+1) 39 [.pv (.int a),.pv (.int b),.pv (.int c)] ⟨h,st⟩=some (.pv (bif ((bif x then [] else [((0:Nat),a)])++(bif y then [] else [((1:Nat),b)])).isEmpty then .int c else (Sm.pv ⟨(bif x then [] else [((0:Nat),a)])++(bif y then [] else [((1:Nat),b)]),c⟩)),⟨h,st⟩):=λx y hx hy=>by
  have ea:=e1 a;have eb:=e1 b;rw[hx] at ea;rw[hy] at eb;have ga:∀J C s,vf C ((Env.put 75 (.pv (.int 0)) J).put 87 (.pv (.int a))) (.cons (.cmp .ne (.var 87) (.int 0)) .nil) s=some (!x,s):=λJ C s=>zu (qF (qg qn) rfl (ea s)) (by induction x <;> rfl);have gb:∀J C s,vf C ((Env.put 75 (.pv (.int 1)) J).put 87 (.pv (.int b))) (.cons (.cmp .ne (.var 87) (.int 0)) .nil) s=some (!y,s):=λJ C s=>zu (qF (qg qn) rfl (eb s)) (by induction y <;> rfl);induction x <;> induction y
  all_goals
   apply qD f39 rfl rfl rfl
   ·show qy _ c39 _ _=_
    unfold c39;apply SA
    ·apply zt
     ·apply qh
      ·apply wa
       ·apply zK;exact rfl;exact rfl
        apply jh;exact rfl;exact ga _ _ _
        ·first | exact wD rfl rfl | exact Zi rfl
        ·exact rfl
        apply jh;exact rfl;exact gb _ _ _
        ·first | exact wD rfl rfl | exact Zi rfl
        ·exact rfl
        exact rfl
       ·exact rfl
       ·exact rfl
      ·exact qw
     ·exact rfl
    ·exact rfl
    exact SR rfl
   ·exact rfl
 exact go _ _ rfl rfl
end
noncomputable def ZV(xs ys:List Int):PV:=.lst [.lst (qj xs),.lst (qj ys)]
theorem vS(h:l.length≤2000):wo (.pv (.lst (qj l))) s=some ⟨(qj l).map .pv,[]⟩:=by
 refine if_pos ?_;rw[qE,qj,qE];exact qu h (by decide)
section
variable {C:Ctx}{s:St}{a b c:Int}
theorem qna(ha:ja a)(hb:ja b)(hv:ja v):∀{ys:List Int}{J:Env},(∀y∈ys,ja y)→J.get 39=some (.pv (.int a))→J.get 66=some (.pv (.int b))→J.get 60=some (.pv (.int c))→J.get 6=some (.pv (.int v)) →
  vB C J (.nm 109) .nil (.elt (.bin .add false (.bin .add false (.bin .mul false (.var 39) (.var 6)) (.bin .mul false (.var 66) (.var 109))) (.var 60))) [] ((qj ys).map .pv) s=some ((qj (ys.map λw=>a * v+b * w+c)).map .pv,s):=by
 intro ys;induction ys with
 |nil =>
  intro _ _ _ _ _ _;exact rfl
 |cons y r ih =>
  intro J h g1 g2 g3 g4;exact jh (ys:=[.pv (.int (a * v+b * y+c))]) rfl rfl (wD rfl (wU (q8 (q8 (q8 (qg (qd rfl g1)) (qg (qd rfl g4)) (wI ha hv)) (q8 (qg (qd rfl g2)) (qg qn) (wI hb (h y (qY ..)))) rfl) (qg (qd rfl g3)) rfl))) rfl (ih (λz hz=>h z (jg _ hz)) g1 g2 g3 g4)
theorem qkC(ha:ja a)(hb:ja b)(hys:∀y∈ys,ja y)(hl:ys.length≤2000):∀{xs:List Int}{J:Env},(∀x∈xs,ja x)→J.get 39=some (.pv (.int a))→J.get 66=some (.pv (.int b))→J.get 60=some (.pv (.int c))→J.get 90=some (.pv (ZV xs' ys))→J.get 109=none →
  vB C J (.nm 6) .nil (.cons (.nm 109) (.it (.sub (.var 90) (.int 1))) .nil (.elt (.bin .add false (.bin .add false (.bin .mul false (.var 39) (.var 6)) (.bin .mul false (.var 66) (.var 109))) (.var 60)))) [] ((qj xs).map .pv) s=some ((qj (xs.flatMap λv=>ys.map λw=>a * v+b * w+c)).map .pv,s):=by
 intro xs;induction xs with
 |nil =>
  intro _ _ _ _ _ _ _;exact rfl
 |cons x r ih =>
  intro J h g1 g2 g3 g4 g5;rw[kP,Zt];exact jh rfl rfl (wD rfl (zK (zW (qT (qg (qd rfl g4)) rfl rfl) (vS hl)) (w8 (qd rfl g5)) (qna ha hb (h x (qY ..)) hys (qd rfl g1) (qd rfl g2) (qd rfl g3) qn))) rfl (ih (λz hz=>h z (jg _ hz)) g1 g2 g3 g4 g5)
theorem XG(ha:ja a)(hb:ja b)(hxs:∀x∈xs,ja x)(hys:∀y∈ys,ja y)(hx2:xs.length=2)(hy2:ys.length=2)(g1:J.get 39=some (.pv (.int a)))(g2:J.get 66=some (.pv (.int b)))(g3:J.get 60=some (.pv (.int c)))(g4:J.get 90=some (.pv (ZV xs ys))):
  qt C J (.comp [6,109] (.cons (.nm 6) (.it (.sub (.var 90) (.int 0))) .nil (.cons (.nm 109) (.it (.sub (.var 90) (.int 1))) .nil (.elt (.bin .add false (.bin .add false (.bin .mul false (.var 39) (.var 6)) (.bin .mul false (.var 66) (.var 109))) (.var 60)))))) s=some (.pv (.lst (qj (w4 xs ys ⟨a,b,c⟩))),s):=by
 apply wa
 ·exact zK (zW (qT (qg (jx rfl g4)) rfl rfl) (vS (by rw[hx2];decide))) (w8 (jE rfl)) (qkC ha hb hys (by rw[hy2];decide) hxs (jx rfl g1) (jx rfl g2) (jx rfl g3) (jx rfl g4) (jE rfl))
 ·refine qN ?_
  rw[qE,qj,qE];obtain⟨p,q,rfl⟩:=Yz hx2;obtain⟨u,v,rfl⟩:=Yz hy2;exact qu (show 4≤2000 by decide) (by decide)
 ·exact wi _
theorem qnY(ha:ja a)(hb:ja b)(hv:ja v):∀{ys:List Int}{J:Env},(∀y∈ys,ja y)→J.get 39=some (.pv (.int a))→J.get 66=some (.pv (.int b))→J.get 6=some (.pv (.int v)) →
  vB C J (.nm 109) (.cons (.cmp .ne (.bin .add false (.bin .mul false (.var 39) (.var 6)) (.bin .mul false (.var 66) (.var 109))) (.int 0)) .nil) (.elt (.var 6)) [] ((qj ys).map .pv) s=some ((qj ((ys.filter λw=>!(a * v+b * w == 0)).map λB=>v)).map .pv,s):=by
 intro ys;induction ys with
 |nil =>
  intro _ _ _ _ _;exact rfl
 |cons y r ih0 =>
  intro J h g1 g2 g4;have hc:qt C (J.put 109 (.pv (.int y))) (.cmp .ne (.bin .add false (.bin .mul false (.var 39) (.var 6)) (.bin .mul false (.var 66) (.var 109))) (.int 0)) s=some (.pv (.bool (!(a * v+b * y == 0))),s) :=
   qF (q8 (q8 (qg (qd rfl g1)) (qg (qd rfl g4)) (wI ha hv)) (q8 (qg (qd rfl g2)) (qg qn) (wI hb (h y (qY ..)))) rfl) rfl rfl
  have ih:=ih0 (J:=J) (λz hz=>h z (jg _ hz)) g1 g2 g4;rw[List.filter_cons];cases hq : !(a * v+b * y == 0) with
  |true=>rw[hq] at hc;exact jh (ys:=[.pv (.int v)]) rfl (zu hc (Kp rfl rfl)) (wD rfl (wU (qg (qd rfl g4)))) rfl ih
  |false=>rw[hq] at hc;exact jh (ys:=[]) rfl (zu hc (Ko rfl)) (Zi rfl) rfl ih
noncomputable def QU(xs ys:List Int)(a b:Int):List Int:=xs.flatMap λv=>(ys.filter λw=>!(a * v+b * w == 0)).map λB=>v
theorem qnj(ha:ja a)(hb:ja b)(hys:∀y∈ys,ja y)(hl:ys.length≤2000):∀{xs:List Int}{J:Env},(∀x∈xs,ja x)→J.get 39=some (.pv (.int a))→J.get 66=some (.pv (.int b))→J.get 90=some (.pv (ZV xs' ys))→J.get 109=none →
  vB C J (.nm 6) .nil (.cons (.nm 109) (.it (.sub (.var 90) (.int 1))) (.cons (.cmp .ne (.bin .add false (.bin .mul false (.var 39) (.var 6)) (.bin .mul false (.var 66) (.var 109))) (.int 0)) .nil) (.elt (.var 6))) [] ((qj xs).map .pv) s=some ((qj (QU xs ys a b)).map .pv,s):=by
 intro xs;induction xs with
 |nil =>
  intro _ _ _ _ _ _;exact rfl
 |cons x r ih =>
  intro J h g1 g2 g4 g5;rw[QU,kP,Zt];exact jh rfl rfl (wD rfl (zK (zW (qT (qg (qd rfl g4)) rfl rfl) (vS hl)) (w8 (qd rfl g5)) (qnY ha hb (h x (qY ..)) hys (qd rfl g1) (qd rfl g2) qn))) rfl (ih (λz hz=>h z (jg _ hz)) g1 g2 g4 g5)
theorem D4{α:Type}{p:α→Bool}{l:List α}{n:Nat}(h:l.length≤n):(l.filter p).length≤n:=qu (List.length_filter_le ..) h
theorem qjf(ha:ja a)(hb:ja b){xs ys:List Int}(hxs:∀x∈xs,ja x)(hys:∀y∈ys,ja y)(hx2:xs.length=2)(hy2:ys.length=2){J:Env}(g1:J.get 39=some (.pv (.int a)))(g2:J.get 66=some (.pv (.int b)))(g3:J.get 60=some (.pv (.int c)))(g4:J.get 90=some (.pv (ZV xs ys))):
  qt C J (.ife (.and (.cons (.cmp .eq (.var 60) (.int 0)) (.cons (.cmp .eq (.comp [6,109] (.cons (.nm 6) (.it (.sub (.var 90) (.int 0))) .nil (.cons (.nm 109) (.it (.sub (.var 90) (.int 1))) (.cons (.cmp .ne (.bin .add false (.bin .mul false (.var 39) (.var 6)) (.bin .mul false (.var 66) (.var 109))) (.int 0)) .nil) (.elt (.var 6))))) (.list false .nil)) .nil))) (.int 1) (.var 60)) s
   = some (.pv (.int (bif c == 0&&(QU xs ys a b).isEmpty then 1 else c)),s):=by
 have h1:qt C J (.cmp .eq (.var 60) (.int 0)) s=some (.pv (.bool (c == 0)),s):=qF (qg g3) rfl rfl;have h2:qt C J (.cmp .eq (.comp [6,109] (.cons (.nm 6) (.it (.sub (.var 90) (.int 0))) .nil (.cons (.nm 109) (.it (.sub (.var 90) (.int 1))) (.cons (.cmp .ne (.bin .add false (.bin .mul false (.var 39) (.var 6)) (.bin .mul false (.var 66) (.var 109))) (.int 0)) .nil) (.elt (.var 6))))) (.list false .nil)) s=some (.pv (.bool (QU xs ys a b).isEmpty),s):=by
  apply qF
  ·apply wa
   ·exact zK (zW (qT (qg (jx rfl g4)) rfl rfl) (vS (by rw[hx2];decide))) (w8 (jE rfl)) (qnj ha hb hys (by rw[hy2];decide) hxs (jx rfl g1) (jx rfl g2) (jx rfl g4) (jE rfl))
   ·refine qN ?_
    rw[qE,qj,qE,QU];refine qu (xI (n:=2) λv B=>by rw[qE];exact D4 (jR hy2)) ?_;rw[hx2];decide
   ·exact wi _
  ·exact rfl
  ·refine(X0 (p:=.lst _) (q:=.lst []) rfl).trans ?_;rw[qeI,qj,List.isEmpty_map]
 have h3:qt C J (.and (.cons (.cmp .eq (.var 60) (.int 0)) (.cons (.cmp .eq (.comp [6,109] (.cons (.nm 6) (.it (.sub (.var 90) (.int 0))) .nil (.cons (.nm 109) (.it (.sub (.var 90) (.int 1))) (.cons (.cmp .ne (.bin .add false (.bin .mul false (.var 39) (.var 6)) (.bin .mul false (.var 66) (.var 109))) (.int 0)) .nil) (.elt (.var 6))))) (.list false .nil)) .nil))) s=some (.pv (.bool (c == 0&&(QU xs ys a b).isEmpty)),s):=by
  apply vK;apply j7;exact h1;induction c == 0 with
  |true=>exact gw rfl (wm h2)
  |false=>exact vY rfl
 apply jS;exact h3;cases hb:c == 0&&(QU xs ys a b).isEmpty with
 |true=>exact vw rfl rfl
 |false=>exact yZ rfl (qg g3)
theorem qje:(a == 0&&b == 0&&(bif c == 0&&(QU xs ys a b).isEmpty then (1:Int) else c) == 0)=false:=by
 cases ha:a == 0 with
 |false=>rfl
 |true=>cases hb:b == 0 with
  |false=>rfl
  |true =>
   have h0:QU xs ys a b=[]:=by
    rw[wM ha,wM hb];refine List.eq_nil_iff_forall_not_mem.mpr λv hv=>?_;obtain⟨u,_,hv⟩:=yo.mp hv;obtain⟨w,hw,_⟩:=wl.mp hv;have:=(List.mem_filter.mp hw).2;rw[Int.zero_mul,Int.zero_mul] at this;injection this
   rw[h0];cases hc:c == 0 with
   |true=>rfl
   |false=>exact hc
end
theorem DG:∀l:List Int,z0 ((qj l).map .pv)=some l:=by
 intro l;induction l with
 |nil =>
  exact rfl
 |cons a r ih =>
  show(z0 ((qj r).map .pv)).map _=_;rw[ih];rfl
theorem qfw(h:l≠[]):yf .min1 [.pv (.lst (qj l))] s=some (.pv (.int (wy l)),s):=by
 show ob (z0 ((qj l).map .pv)) (λis=>Yn is λa r=>some (AV.pv (.int (yi a r)),s))=_
 rw[DG];induction l using List.casesOn with
 |nil=>exact absurd rfl h
 |cons a r=>rfl
theorem qmw(h:l≠[]):yf .max1 [.pv (.lst (qj l))] s=some (.pv (.int (qhz l)),s):=by
 show ob (z0 ((qj l).map .pv)) (λis=>Yn is λa r=>some (AV.pv (.int (wx a r)),s))=_
 rw[DG];induction l using List.casesOn with
 |nil=>exact absurd rfl h
 |cons a r=>rfl
theorem qkn:∀(r:List Int) (a:Int),yi a r=a∨yi a r∈r:=by
 intro r;induction r with
 |nil =>
  intro a;exact .inl rfl
 |cons b r ih =>
  intro a;show yi (if b<a then b else a) r=a∨_
  by_cases h:b<a
  ·rw[if_pos h];exact(ih b).elim (λe=>.inr (by rw[yi,if_pos h,e];exact qY ..)) λe=>.inr (by rw[yi,if_pos h];exact jg _ e)
  ·rw[if_neg h];exact(ih a).imp id λe=>by rw[yi,if_neg h];exact jg _ e
theorem qkk:∀(r:List Int) (a:Int),wx a r=a∨wx a r∈r:=by
 intro r;induction r with
 |nil =>
  intro a;exact .inl rfl
 |cons b r ih =>
  intro a;show wx (if a<b then b else a) r=a∨_
  by_cases h:a<b
  ·rw[if_pos h];exact(ih b).elim (λe=>.inr (by rw[wx,if_pos h,e];exact qY ..)) λe=>.inr (by rw[wx,if_pos h];exact jg _ e)
  ·rw[if_neg h];exact(ih a).imp id λe=>by rw[wx,if_neg h];exact jg _ e
theorem qfv(h:l≠[]):wy l∈l:=by
 induction l using List.casesOn with
 |nil=>exact absurd rfl h
 |cons a r=>exact(qkn r a).elim (λe=>by show yi a r∈_;rw[e];exact qY ..) λe=>jg _ e
theorem qft(h:l≠[]):qhz l∈l:=by
 induction l using List.casesOn with
 |nil=>exact absurd rfl h
 |cons a r=>exact(qkk r a).elim (λe=>by show wx a r∈_;rw[e];exact qY ..) λe=>jg _ e
theorem qks:∀l:List Int,vB C J (.nm 6) (.cons (.cmp .ne (.var 6) (.int 0)) .nil) (.elt (.var 6)) [] ((qj l).map .pv) s=some ((qj (l.filter λv=>v != 0)).map .pv,s):=by
 intro l;induction l with
 |nil =>
  exact rfl
 |cons a r ih0 =>
  have hc:qt C (J.put 6 (.pv (.int a))) (.cmp .ne (.var 6) (.int 0)) s=some (.pv (.bool (a != 0)),s):=qF (qg qn) rfl rfl;have ih:=ih0;rw[List.filter_cons];cases hq:a != 0 with
  |true=>rw[hq] at hc;exact jh (ys:=[.pv (.int a)]) rfl (zu hc (Kp rfl rfl)) (wD rfl (wU (qg qn))) rfl ih
  |false=>rw[hq] at hc;exact jh (ys:=[]) rfl (zu hc (Ko rfl)) (Zi rfl) rfl ih
noncomputable def vy(N:Nm):PV:=.tup [.int N.a,.int N.b,.int N.c]
noncomputable def zh(xs ys:List Int):AObj:=.dictT [(.tup [.int 1,.int 0,.int 0],.pv (.lst (qj xs))),(.tup [.int 0,.int 1,.int 0],.pv (.lst (qj ys)))]
noncomputable def Xn(xs ys:List Int)(N:Nm):AV:=bif N.a == 1&&N.b == 0&&N.c == 0 then .pv (.lst (qj xs)) else bif N.a == 0&&N.b == 1&&N.c == 0 then .pv (.lst (qj ys)) else .pv .none
theorem qkg{h:List AObj}{st:Bool}(xs ys:List Int)(N:Nm):Zr .get1 (.ref h.length) [.pv (vy N)] ⟨h++[zh xs ys],st⟩=some (Xn xs ys N,⟨h++[zh xs ys],st⟩):=by
 show ob ((h++[zh xs ys])[h.length]?) _=_
 rw[vj];show some ((zE (vy N) [(.tup [.int 1,.int 0,.int 0],.pv (.lst (qj xs))),(.tup [.int 0,.int 1,.int 0],.pv (.lst (qj ys)))]).getD (.pv .none),_)=_
 have e1:qJ (.tup [.int 1,.int 0,.int 0]) (vy N)=(N.a == 1&&N.b == 0&&N.c == 0):=by
  show(((1:Int) == N.a)&&(((0:Int) == N.b)&&(((0:Int) == N.c)&&true)))=_
  rw[Bool.beq_comm (a:=(1:Int)),Bool.beq_comm (a:=(0:Int)) (b:=N.b),Bool.beq_comm (a:=(0:Int)) (b:=N.c),Bool.and_true,Bool.and_assoc]
 have e2:qJ (.tup [.int 0,.int 1,.int 0]) (vy N)=(N.a == 0&&N.b == 1&&N.c == 0):=by
  show(((0:Int) == N.a)&&(((1:Int) == N.b)&&(((0:Int) == N.c)&&true)))=_
  rw[Bool.beq_comm (a:=(0:Int)) (b:=N.a),Bool.beq_comm (a:=(1:Int)),Bool.beq_comm (a:=(0:Int)) (b:=N.c),Bool.and_true,Bool.and_assoc]
 rw[zE,e1,zE,e2,zE];unfold Xn;induction N.a == 1&&N.b == 0&&N.c == 0 with
 |true=>rfl
 |false=>induction N.a == 0&&N.b == 1&&N.c == 0 <;> rfl
theorem smR(h:ja v):yI v=true∧yI (v+1)=true:=by
 obtain⟨h1,h2⟩:=Z1 h;have a:(-1000:Int)≤v:=we h1;have h2:v<(1000:Int):=h2;constructor
 ·show(decide _&&decide _)=true
  rw[qN a,qN (we h2)];rfl
 ·show(decide _&&decide _)=true
  rw[qN (zB a (Int.le_add_of_nonneg_right (by decide:(0:Int)≤1))),qN (Int.add_one_le_of_lt h2)];rfl
theorem qfh(d:Nat){h:List AObj}{st:Bool}{xs ys:List Int}{N:Nm}(hr:w4 xs ys N≠[])(hs:∀v∈w4 xs ys N,ja v)(hl:(ZI xs ys N).length≤2000)(hf:zb xs ys N≠[]):
  qf P (d+1) 40 [.pv (vy N),.pv (.lst (qj (w4 xs ys N))),.pv (ZV xs ys)] ⟨h,st⟩=some (.pv (.int (wy (zb xs ys N))),⟨h++[zh xs ys],st⟩):=by
 have hmin:=hs _ (qfv hr);have hmax:=hs _ (qft hr);have hsome:∀J C s,Env.get J 89=some (Xn xs ys N)→Env.get J 91=some (.pv (.lst (qj (w4 xs ys N))))→qt C J (.ife (.cmp .is (.var 89) .none) (.bi .listRange2 (.cons (.bi .min1 (.cons (.var 91) .nil)) (.cons (.bin .add false (.bi .max1 (.cons (.var 91) .nil)) (.int 1)) .nil))) (.var 89)) s=some (.pv (.lst (qj (ZI xs ys N))),s):=λJ C s g89 g91=>by
  unfold Xn at g89;unfold ZI;cases h1:N.a == 1&&N.b == 0&&N.c == 0 with
  |true=>rw[h1] at g89;exact jS (qF (qg g89) rfl rfl) (yZ rfl (qg g89))
  |false =>
   rw[h1] at g89;cases h2:N.a == 0&&N.b == 1&&N.c == 0 with
   |true=>rw[h2] at g89;exact jS (qF (qg g89) rfl rfl) (yZ rfl (qg g89))
   |false =>
    rw[h2] at g89;refine jS (qF (qg g89) rfl rfl) (vw rfl (zt (qh (zt (qh (qg g91) qw) (qfw hr)) (qh (q8 (zt (qh (qg g91) qw) (qmw hr)) rfl rfl) qw)) ?_));show(if (yI _&&yI _)=true then _ else _)=_
    rw[(smR hmin).1,(smR hmax).2];rfl
 have hfl:(zb xs ys N).length≤2000:=D4 hl;apply qD (q:=(.ret (.pv (.int (wy (zb xs ys N)))),[(44,.pv (vy N)),(91,.pv (.lst (qj (w4 xs ys N)))),(90,.pv (ZV xs ys)),(89,Xn xs ys N),(55,.pv (.lst (qj (ZI xs ys N))))])) (s':=⟨h++[zh xs ys],st⟩) f40 rfl rfl rfl
 ·show qy _ c40 _ _=_
  unfold c40;apply SA
  ·apply XU (v:=.ref h.length) (s1:=⟨h++[zh xs ys],st⟩)
   ·exact rfl
   ·show(match (h++[zh xs ys])[h.length]? with | some o=>bif gj .get1 then Bk o else Hc o | none=>false)=true
    rw[vj];rfl
   ·exact rfl
   ·exact qkg xs ys N
  ·exact rfl
  apply SA;exact hsome _ _ _ qn rfl;exact rfl;apply SR;apply zt
  ·apply qh
   ·apply wa
    ·exact zK (zW (qg rfl) (vS hl)) (w8 (jE rfl)) (qks _)
    ·refine qN ?_
     rw[qE,qj,qE];exact qu hfl (by decide)
    ·exact wi _
   ·exact qw
  ·exact qfw hf
 ·exact rfl
theorem DY(p:Pick X Y N):∀v∈w4 (qi X) (qi Y) N,ja v:=λv hv=>by
 obtain⟨x,hx,hv⟩:=yo.mp hv;obtain⟨y,hy,rfl⟩:=wl.mp hv;exact(p.nf.due x hx y hy).2
theorem zx(h:X∈wc):(qi X).length=2∧∀x∈qi X,ja x :=
 (show ∀X∈wc,(qi X).length=2∧∀x∈qi X,x.natAbs<1000 by decide +kernel) X h
theorem KL(p:Pick X Y N):w4 (qi X) (qi Y) N≠[]:=by
 obtain⟨a,b,e1⟩:=Yz (zx p.X).1;obtain⟨c,d,e2⟩:=Yz (zx p.Y).1;unfold w4;rw[e1,e2];exactλe=>nomatch e
theorem qic(p:Pick X Y N):(ZI (qi X) (qi Y) N).length≤2000:=by
 unfold ZI;induction N.a == 1&&N.b == 0&&N.c == 0 with
 |true=>show(qi X).length≤_;rw[(zx p.X).1];decide
 |false=>induction N.a == 0&&N.b == 1&&N.c == 0 with
  |true=>show(qi Y).length≤_;rw[(zx p.Y).1];decide
  |false =>
   have a:=DY p _ (qfv (KL p));have b:=DY p _ (qft (KL p));exact(Yr (_,_) (zp.mpr ⟨qN a,qN b⟩)).1
theorem H0(d:Nat){h:List AObj}{st:Bool}{X Y:Dm}{N:Nm}(p:Pick X Y N):qf P (d+1) 40 [.pv (vy N),.pv (.lst (qj (w4 (qi X) (qi Y) N))),.pv (ZV (qi X) (qi Y))] ⟨h,st⟩=some (.pv (.int (wy (zb (qi X) (qi Y) N))),⟨h++[zh (qi X) (qi Y)],st⟩) :=
 qfh d (KL p) (DY p) (qic p) p.nf.fl
structure LN (J:Env) (pk:List Int) (X Y:Dm) (top:Bool):Prop where
 pk:J.get 103=some (.pv (.lst (qj pk)))
 ls:J.get 90=some (.pv (ZV (qi X) (qi Y)))
 mkr:J.get 106=some (.ref 0)
 mn:J.get 87=some (.pv (.tup (qj yB)))
 tp:J.get 108=some (.pv (.bool top))
 ak:J.get 107=some (.ref 5)
theorem LN.put{J:Env}{pk:List Int}{X Y:Dm}{top:Bool}{i:Nat}{v:AV}(h:LN J pk X Y top)(hi:((i == 103)||(i == 90)||(i == 106)||(i == 87)||(i == 108)||(i == 107))=false):LN (J.put i v) pk X Y top:=by
 simp only[Zd] at hi;obtain⟨⟨⟨⟨⟨a,b⟩,c⟩,d⟩,e⟩,f⟩:=hi;exact⟨qd a h.pk,qd b h.ls,qd c h.mkr,qd d h.mn,qd e h.tp,qd f h.ak⟩
theorem qaU{C:Ctx}{J:Env}{a lo:CE}{s s1 s2:St}{v x w:AV}(h:qt C J a s=some (v,s1))(h2:qt C J lo s1=some (x,s2))(h3:vg v (some x) none s2=some w):qt C J (.slice a (.some lo) .none) s=some (w,s2):=by
 show bnd (qt C J a s) _=_;rw[h]
 show bnd (bnd (qt C J lo s1) _) _=_;rw[h2]
 show xQ (vg v (some x) none s2) s2=_;rw[h3];rfl
theorem H9{n:Nat}(h:n≤3):yE (.pv (.int n))=some n:=by
 rcases n with _ | _ | _ | _ | n
 ·rfl
 ·rfl
 ·rfl
 ·rfl
 ·exact absurd (Nat.le_of_succ_le_succ (Nat.le_of_succ_le_succ (Nat.le_of_succ_le_succ h))) (Nat.not_succ_le_zero n)
theorem qad(hv:yE v=some n)(h:s.heap[i]? = some (.list l))(hl:l.length<900)(hr:l.drop n=ps.map .pv):vg (.ref i) (some v) none s=some (.pv (.lst ps)):=by
 unfold vg;rw[Bm h];show(bif decide (l.length≤jl) then ob (yE v) (λi=>some (mkLst (l.drop i))) else none)=_
 rw[hv,qN (qu (jz hl) (show 900≤jl by decide))];show some (mkLst (l.drop n))=_
 rw[hr,wi]
noncomputable def vV(l:List Tr):List PV:=l.map Tr.pv
theorem qpP(l:List Tr): vV l=List.map Tr.pv l:=rfl
noncomputable def zG(N:Nm)(y:Nat)(nt:List Tr)(fl:Int):PV:=.tup [vy N,.int y,.lst (vV nt),.int fl]
section
variable {d:Nat}{X Y:Dm}{tl rest:List AObj}{m:M}{asked part:List AV}{pk:List Int}{top:Bool}{J:Env}
theorem qiX{s:St}(h:LN J pk X Y top)(hp:pk.length=10){k:Nat}(hk:k+2<10)(g9:J.get 9=some (.pv (.int k)))(C:Ctx):∃a∈yB,∃b∈yB,∃c∈K4,vz C Bp J s=some ((.next,((J.put 39 (.pv (.int a))).put 66 (.pv (.int b))).put 60 (.pv (.int c))),s):=by
 have at_:∀(j:Nat) e,j<10→qt C J e s=some (.pv (.int j),s)→∃p:Int,qt C J (.sub (.var 103) e) s=some (.pv (.int p),s):=λj e hj he=>⟨_,qT (qg h.pk) he (wQ (by rw[hp];exact hj) (by rw[hp];decide))⟩
 obtain⟨p,hp1⟩:=at_ k (.var 9) (qP (qS k 2) hk) (qg g9);obtain⟨q,hq1⟩:=at_ (k+1) (.bin .add false (.var 9) (.int 1)) (Nat.lt_of_succ_lt hk) (q8 (qg g9) rfl rfl);obtain⟨r,hr1⟩:=at_ (k+2) (.bin .add false (.var 9) (.int 2)) hk (q8 (qg g9) rfl rfl);obtain⟨a,ha,ea⟩:=qbP (xo (p:=p) (m:=4) (by decide));obtain⟨b,hb,eb⟩:=qbP (xo (p:=q) (m:=4) (by decide));refine⟨a,ha,b,hb,_,qnJ (p:=r),?_⟩;unfold Bp;exact jP (zT (qh (qT (qg h.mn) (q8 hp1 rfl rfl) (ea s)) (qh (qT (qg h.mn) (q8 hq1 rfl rfl) (eb s)) (qh (q8 (q8 hr1 rfl rfl) rfl rfl) qw))) rfl) rfl
theorem HO(h:LN J pk X Y true)(C:Ctx)(s:St):qt C J (.ife (.var 108) (.int 0) (.bi .len (.cons (.attr (.var 106) 73) .nil))) s=some (.pv (.int 0),s):=jS (qg h.tp) (vw rfl rfl)
theorem HN(h:LN J pk X Y false)(hp:part.length<900)(C:Ctx):qt C J (.ife (.var 108) (.int 0) (.bi .len (.cons (.attr (.var 106) 73) .nil))) ⟨gm (X,Y) (.ref 6) (.list asked::.list part::rest) m,false⟩=some (.pv (.int part.length),⟨gm (X,Y) (.ref 6) (.list asked::.list part::rest) m,false⟩) :=
 jS (qg h.tp) (yZ rfl (zt (qh (wB (qg h.mkr) rfl) qw) (Xk (l:=part) rfl (jz (gG (jp hp (by decide)))))))
theorem qba(h:asked.length<900):Zr .append (.ref 5) [.pv v] ⟨gm (X,Y) pa (.list asked::rest) m,false⟩=some (.pv .none,⟨gm (X,Y) pa (.list (asked++[.pv v])::rest) m,false⟩):=xn (i:=5) (l:=asked) rfl rfl (gG (jp h (by decide)))
theorem qbH(h:LN J pk X Y true)(hX:X∈wc)(hY:Y∈wc)(hp:pk.length=10){k:Nat}(hk:k+2<10)(g9:J.get 9=some (.pv (.int k)))(hl:Lt m 10)(h32:m.ks.length<27)(ha:asked.length<900):
  ∃N J',Pick X Y N∧qy (qH P (qf P (d+7))) vC J ⟨gm (X,Y) (.pv .none) (.list asked::rest) m,false⟩=some ((.next,J'),⟨gm (X,Y) (.pv .none) (.list (asked++[.pv (zG N (qB N.s m).1 [] (wy (zb (qi X) (qi Y) N)))])::(rest++[zh (qi X) (qi Y)])) (jr (X,Y) N.s m),false⟩)∧LN J' pk X Y true:=by
 obtain⟨a,ha',b,hb',c,hc',e1⟩:=qiX (s:=⟨gm (X,Y) (.pv .none) (.list asked::rest) m,false⟩) h hp hk g9 (qH P (qf P (d+7)));have n1:LN (((J.put 39 (.pv (.int a))).put 66 (.pv (.int b))).put 60 (.pv (.int c))) pk X Y true:=((h.put rfl).put rfl).put rfl;have e2:=qjf (C:=qH P (qf P (d+7))) (s:=⟨gm (X,Y) (.pv .none) (.list asked::rest) m,false⟩) (kU ha') (kU hb') (zx hX).2 (zx hY).2 (zx hX).1 (zx hY).1 (qd rfl (qd rfl qn)) (qd rfl qn) qn n1.ls;obtain⟨c',hc2⟩:∃c',c'=bif c == 0&&(QU (qi X) (qi Y) a b).isEmpty then 1 else c:=⟨_,rfl⟩
 rw[←hc2] at e2;have p:Pick X Y ⟨a,b,c'⟩:=⟨hX,hY,ha',hb',by rw[hc2];induction c == 0&&(QU (qi X) (qi Y) a b).isEmpty;exact hc';exact(by decide:(1:Int)∈K4),by rw[hc2];exact qje⟩
 let J2:Env:=(((J.put 39 (.pv (.int a))).put 66 (.pv (.int b))).put 60 (.pv (.int c))).put 60 (.pv (.int c'))
 have n2:LN J2 pk X Y true:=n1.put rfl;have n3:LN (J2.put 110 (.pv (.int 0))) pk X Y true:=n2.put rfl;have g39:J2.get 39=some (.pv (.int a)):=qd rfl (qd rfl (qd rfl qn));have g66:J2.get 66=some (.pv (.int b)):=qd rfl (qd rfl qn);have g60:J2.get 60=some (.pv (.int c')):=qn;have a1:=XQ (d+6) ⟨a,b,c'⟩ ⟨gm (X,Y) (.pv .none) (.list asked::rest) m,false⟩;have a2:=qaX (d:=d) (tl:=.list asked::rest) (st:=false) p.ok hl h32
 let m':=jr (X,Y) (Nm.s ⟨a,b,c'⟩) m
 let y:=(qB (Nm.s ⟨a,b,c'⟩) m).1
 have e3:vz (qH P (qf P (d+7))) Yc (J2.put 110 (.pv (.int 0))) ⟨gm (X,Y) (.pv .none) (.list asked::rest) m,false⟩=some ((.next,(J2.put 110 (.pv (.int 0))).put 111 (.pv (.int y))),⟨gm (X,Y) (.pv .none) (.list asked::rest) m',false⟩):=by
  unfold Yc;exact jP (zo (qg n3.mkr) rfl rfl rfl (qh (j8 (qh (qg (qd rfl g39)) (qh (qg (qd rfl g66)) (qh (qg (qd rfl g60)) qw))) (qV a1)) qw) (qV a2)) rfl
 have n4:LN ((J2.put 110 (.pv (.int 0))).put 111 (.pv (.int y))) pk X Y true:=n3.put rfl;have e4:=XG (C:=qH P (qf P (d+7))) (s:=⟨gm (X,Y) (.pv .none) (.list asked::rest) m',false⟩) (J:=(J2.put 110 (.pv (.int 0))).put 111 (.pv (.int y))) (kU ha') (kU hb') (zx hX).2 (zx hY).2 (zx hX).1 (zx hY).1 (qd rfl (qd rfl g39)) (qd rfl (qd rfl g66)) (qd rfl (qd rfl g60)) n4.ls
 let J5:Env:=((J2.put 110 (.pv (.int 0))).put 111 (.pv (.int y))).put 91 (.pv (.lst (qj (w4 (qi X) (qi Y) ⟨a,b,c'⟩))))
 have n5:LN J5 pk X Y true:=n4.put rfl;have a5:=H0 (d+6) (h:=gm (X,Y) (.pv .none) (.list asked::rest) m') (st:=false) p;have gabc:∀s,qt (qH P (qf P (d+7))) J5 (.tup (.cons (.var 39) (.cons (.var 66) (.cons (.var 60) .nil)))) s=some (.pv (vy ⟨a,b,c'⟩),s):=λs=>zT (qh (qg (qd rfl (qd rfl (qd rfl g39)))) (qh (qg (qd rfl (qd rfl (qd rfl g66)))) (qh (qg (qd rfl (qd rfl (qd rfl g60)))) qw))) rfl;refine⟨⟨a,b,c'⟩,J5,p,?_,n5⟩;unfold vC;refine qL e1 (qK (qL (s1:=⟨gm (X,Y) (.pv .none) (.list asked::rest) m,false⟩) (fl:=(.next,J2)) ?_ (qK (SA (HO n2 _ _) rfl (qL e3 (qK (qL (s1:=⟨gm (X,Y) (.pv .none) (.list asked::rest) m',false⟩) (fl:=(.next,J5)) ?_ (qK (qL (s1:=⟨gm (X,Y) (.pv .none) (.list (asked++[.pv (zG ⟨a,b,c'⟩ y [] (wy (zb (qi X) (qi Y) ⟨a,b,c'⟩)))])::(rest++[zh (qi X) (qi Y)])) m',false⟩) (fl:=(.next,J5)) ?_ (qK jM))))))))))
 ·unfold Bq;exact jP e2 rfl
 ·unfold Br;exact jP e4 rfl
 ·unfold Bs
  refine KU (v:=.pv .none) (XU (qg n5.ak) rfl (qh (zT (qh (gabc _) (qh (qg (qd rfl qn)) (qh (jS (qg n5.tp) (vw rfl rfl)) (qh (j8 (qh (gabc _) (qh (qg qn) (qh (qg n5.ls) qw))) (qV a5)) qw)))) rfl) qw) ?_);exact qba (rest:=rest++[zh (qi X) (qi Y)]) ha
theorem qbG(h:LN J pk X Y false)(hX:X∈wc)(hY:Y∈wc)(hp:pk.length=10){k:Nat}(hk:k+2<10)(g9:J.get 9=some (.pv (.int k)))(hl:Lt m 10)(ha:asked.length<900)(hpt:part.length≤3):
  ∃N J',Pick X Y N∧qy (qH P (qf P (d+7))) vC J ⟨gm (X,Y) (.ref 6) (.list asked::.list part::rest) m,false⟩=some ((.next,J'),⟨gm (X,Y) (.ref 6) (.list (asked++[.pv (zG N (jU (X,Y) N.s m).1 (zd (X,Y) N.s m) (wy (zb (qi X) (qi Y) N)))])::.list (part++jY (zd (X,Y) N.s m))::(rest++[zh (qi X) (qi Y)])) (jU (X,Y) N.s m).2,false⟩)∧LN J' pk X Y false:=by
 obtain⟨a,ha',b,hb',c,hc',e1⟩:=qiX (s:=⟨gm (X,Y) (.ref 6) (.list asked::.list part::rest) m,false⟩) h hp hk g9 (qH P (qf P (d+7)));have n1:LN (((J.put 39 (.pv (.int a))).put 66 (.pv (.int b))).put 60 (.pv (.int c))) pk X Y false:=((h.put rfl).put rfl).put rfl;have e2:=qjf (C:=qH P (qf P (d+7))) (s:=⟨gm (X,Y) (.ref 6) (.list asked::.list part::rest) m,false⟩) (kU ha') (kU hb') (zx hX).2 (zx hY).2 (zx hX).1 (zx hY).1 (qd rfl (qd rfl qn)) (qd rfl qn) qn n1.ls;obtain⟨c',hc2⟩:∃c',c'=bif c == 0&&(QU (qi X) (qi Y) a b).isEmpty then 1 else c:=⟨_,rfl⟩
 rw[←hc2] at e2;have p:Pick X Y ⟨a,b,c'⟩:=⟨hX,hY,ha',hb',by rw[hc2];induction c == 0&&(QU (qi X) (qi Y) a b).isEmpty;exact hc';exact(by decide:(1:Int)∈K4),by rw[hc2];exact qje⟩
 let J2:Env:=(((J.put 39 (.pv (.int a))).put 66 (.pv (.int b))).put 60 (.pv (.int c))).put 60 (.pv (.int c'))
 have n2:LN J2 pk X Y false:=n1.put rfl
 let bg:AV:=.pv (.int part.length)
 have n3:LN (J2.put 110 bg) pk X Y false:=n2.put rfl;have g39:J2.get 39=some (.pv (.int a)):=qd rfl (qd rfl (qd rfl qn));have g66:J2.get 66=some (.pv (.int b)):=qd rfl (qd rfl qn);have g60:J2.get 60=some (.pv (.int c')):=qn;have a1:=XQ (d+6) ⟨a,b,c'⟩ ⟨gm (X,Y) (.ref 6) (.list asked::.list part::rest) m,false⟩;have a2:=qaW (d:=d) (asked:=asked) (part:=part) (rest:=rest) (st:=false) p.ok hl (qP hpt (by decide))
 let N:Nm:=⟨a,b,c'⟩
 let m':=(jU (X,Y) N.s m).2
 let z:=(jU (X,Y) N.s m).1
 let nt:=zd (X,Y) N.s m
 have e3:vz (qH P (qf P (d+7))) Yc (J2.put 110 bg) ⟨gm (X,Y) (.ref 6) (.list asked::.list part::rest) m,false⟩=some ((.next,(J2.put 110 bg).put 111 (.pv (.int z))),⟨gm (X,Y) (.ref 6) (.list asked::.list (part++jY nt)::rest) m',false⟩):=by
  unfold Yc;exact jP (zo (qg n3.mkr) rfl rfl rfl (qh (j8 (qh (qg (qd rfl g39)) (qh (qg (qd rfl g66)) (qh (qg (qd rfl g60)) qw))) (qV a1)) qw) (qV a2)) rfl
 have n4:LN ((J2.put 110 bg).put 111 (.pv (.int z))) pk X Y false:=n3.put rfl;have e4:=XG (C:=qH P (qf P (d+7))) (s:=⟨gm (X,Y) (.ref 6) (.list asked::.list (part++jY nt)::rest) m',false⟩) (J:=(J2.put 110 bg).put 111 (.pv (.int z))) (kU ha') (kU hb') (zx hX).2 (zx hY).2 (zx hX).1 (zx hY).1 (qd rfl (qd rfl g39)) (qd rfl (qd rfl g66)) (qd rfl (qd rfl g60)) n4.ls
 let J5:Env:=((J2.put 110 bg).put 111 (.pv (.int z))).put 91 (.pv (.lst (qj (w4 (qi X) (qi Y) N))))
 have n5:LN J5 pk X Y false:=n4.put rfl;have a5:=H0 (d+6) (h:=gm (X,Y) (.ref 6) (.list asked::.list (part++jY nt)::rest) m') (st:=false) p;have gabc:∀s,qt (qH P (qf P (d+7))) J5 (.tup (.cons (.var 39) (.cons (.var 66) (.cons (.var 60) .nil)))) s=some (.pv (vy N),s):=λs=>zT (qh (qg (qd rfl (qd rfl (qd rfl g39)))) (qh (qg (qd rfl (qd rfl (qd rfl g66)))) (qh (qg (qd rfl (qd rfl (qd rfl g60)))) qw))) rfl;have hnt:nt.length≤1:=by show(zd (X,Y) N.s m).length≤1;unfold zd;induction gK (X,Y) N.s <;> exact jG rfl
 have hsl:vg (.ref 6) (some bg) none ⟨gm (X,Y) (.ref 6) (.list asked::.list (part++jY nt)::rest) m',false⟩=some (.pv (.lst (vV nt))) :=
  qad (l:=part++jY nt) (H9 hpt) rfl (by rw[qU,jY,qE];exact qP (yt hpt hnt) (by decide)) ((List.drop_left' rfl).trans (by show nt.map _=(nt.map Tr.pv).map AV.pv;rw[vJ];rfl))
 refine⟨N,J5,p,?_,n5⟩;unfold vC;refine qL e1 (qK (qL (s1:=⟨gm (X,Y) (.ref 6) (.list asked::.list part::rest) m,false⟩) (fl:=(.next,J2)) ?_ (qK (SA (HN n2 (qP hpt (by decide)) _) rfl (qL e3 (qK (qL (s1:=⟨gm (X,Y) (.ref 6) (.list asked::.list (part++jY nt)::rest) m',false⟩) (fl:=(.next,J5)) ?_ (qK (qL (s1:=⟨gm (X,Y) (.ref 6) (.list (asked++[.pv (zG N z nt (wy (zb (qi X) (qi Y) N)))])::.list (part++jY nt)::(rest++[zh (qi X) (qi Y)])) m',false⟩) (fl:=(.next,J5)) ?_ (qK jM))))))))))
 ·unfold Bq;exact jP e2 rfl
 ·unfold Br;exact jP e4 rfl
 ·unfold Bs
  refine KU (v:=.pv .none) (XU (qg n5.ak) rfl (qh (zT (qh (gabc _) (qh (qg (qd rfl qn)) (qh (jS (qg n5.tp) (yZ rfl (qaU (wB (qg n5.mkr) rfl) (qg (qd rfl (qd rfl qn))) hsl))) (qh (j8 (qh (gabc _) (qh (qg qn) (qh (qg n5.ls) qw))) (qV a5)) qw)))) rfl) qw) ?_);exact qba (rest:=.list (part++jY nt)::(rest++[zh (qi X) (qi Y)])) ha
end
section
variable {d:Nat}{X Y:Dm}{tl rest:List AObj}{m:M}{asked part:List AV}{pk:List Int}{top:Bool}{J:Env}{pa:AV}
theorem XJ(hl:Lt m 10)(d:Nat)(st:Bool):qf P (d+1) 11 [.ref 1] ⟨gm (X,Y) pa tl m,st⟩=some (.pv (.int m.size),⟨gm (X,Y) pa tl m,st⟩):=by
 have h:=HE d (pa:=pa) (vars:=zk (X,Y) m.ks) (tolds:=jo m.ts) (made:=zi 2 m.ks) (tl:=tl) (st:=st) (by rw[wz];exact jp hl.size (by decide));rw[wz] at h;exact h
noncomputable def KR(J:Env)(n:Nat)(N:Nm)(y:Nat)(nt:List Tr)(fl:Int)(bg:AV)(z:Nat):Env:=(((((((J.put 114 (.pv (.int n))).put 44 (.pv (vy N))).put 111 (.pv (.int y))).put 113 (.pv (.lst (vV nt)))).put 112 (.pv (.int fl))).put 110 bg).put 115 (.pv (.int z)))
theorem LN.g21(h:LN J pk X Y top){n:Nat}{N:Nm}{y:Nat}{nt:List Tr}{fl:Int}{bg:AV}{z:Nat}:LN (KR J n N y nt fl bg z) pk X Y top:=((((((h.put rfl).put rfl).put rfl).put rfl).put rfl).put rfl).put rfl
theorem Ht(h:decide (ju v<20)=true):jD .ne (.pv v) (.pv v) s=some false:=by rw[qdb h,v6];rfl
theorem xR:jD .ne (.pv (.int a)) (.pv (.int a)) s=some false:=Ht rfl
theorem qkU(l:List Tr):decide (ju (.lst (vV l))<20)=true:=qN (qP (yn (QF (n:=1) qgm l) 1) (by decide))
noncomputable abbrev qdv:CS:=.assign (.nm 110) (.ife (.var 108) (.int 0) (.bi .len (.cons (.attr (.var 106) 73) .nil)))
theorem qfZ(h:LN J pk X Y top)(hl:Lt m 10){N:Nm}{y:Nat}{nt:List Tr}{fl:Int}{s:St}(hs:s=⟨gm (X,Y) pa (.list (.pv (zG N y nt fl)::asked)::rest) m,false⟩):
  vz (qH P (qf P (d+7))) gk J s=some ((.next,((((J.put 114 (.pv (.int m.size))).put 44 (.pv (vy N))).put 111 (.pv (.int y))).put 113 (.pv (.lst (vV nt)))).put 112 (.pv (.int fl))),s):=by
 subst hs;have h1:=XJ (X:=X) (Y:=Y) (pa:=pa) (tl:=.list (.pv (zG N y nt fl)::asked)::rest) hl (d+6) false;unfold gk;exact jP (v:=.pv (.tup [.int m.size,zG N y nt fl])) (zT (qh (zo (wB (qg h.mkr) rfl) rfl rfl rfl qw (qV h1)) (qh (qT (qg h.ak) rfl rfl) qw)) rfl) rfl
theorem qdY(h:LN J pk X Y true){N:Nm}(p:Pick X Y N)(hl:Lt m 20)(h32:m.ks.length<27){y:Nat}{fl:Int}(ha:(qB N.s m).1=y∧(jr (X,Y) N.s m).ks=m.ks){r:CSs}{R:Mine.R (Flow×Env)}(hr:qy (qH P (qf P (d+7))) r (KR J m.size N y [] fl (.pv (.int 0)) y) ⟨gm (X,Y) (.pv .none) (.list (.pv (zG N y [] fl)::asked)::rest) (jr (X,Y) N.s m),false⟩=R):
  qy (qH P (qf P (d+7))) (.cons gk (.cons qdv (.cons gn (.cons gp r)))) J ⟨gm (X,Y) (.pv .none) (.list (.pv (zG N y [] fl)::asked)::rest) m,false⟩=R:=by
 have e1:=qfZ (d:=d) (pa:=.pv .none) (asked:=asked) (rest:=rest) h (hl.le (by decide)) (N:=N) (y:=y) (nt:=[]) (fl:=fl) rfl
 let J1:Env:=((((J.put 114 (.pv (.int m.size))).put 44 (.pv (vy N))).put 111 (.pv (.int y))).put 113 (.pv (.lst (vV [])))).put 112 (.pv (.int fl))
 have n1:LN J1 pk X Y true:=((((h.put rfl).put rfl).put rfl).put rfl).put rfl;have n2:LN (J1.put 110 (.pv (.int 0))) pk X Y true:=n1.put rfl;have n3:LN (KR J m.size N y [] fl (.pv (.int 0)) y) pk X Y true:=h.g21;have a1:=XQ (d+6) N ⟨gm (X,Y) (.pv .none) (.list (.pv (zG N y [] fl)::asked)::rest) m,false⟩;have a2:=qaX (d:=d) (tl:=.list (.pv (zG N y [] fl)::asked)::rest) (st:=false) p.ok (hl.le (by decide)) h32;rw[ha.1] at a2;have g44:(J1.put 110 (.pv (.int 0))).get 44=some (.pv (vy N)):=qd rfl (qd rfl (qd rfl (qd rfl qn)));have hsz:(jr (X,Y) N.s m).size=m.size:=by unfold M.size;rw[ha.2]
 have a3:=XJ (X:=X) (Y:=Y) (pa:=.pv .none) (tl:=.list (.pv (zG N y [] fl)::asked)::rest) ((YD (X,Y) N.s m).lt (k:=10) (hl.le (by decide))) (d+6) false;rw[hsz] at a3;refine qL e1 (qK (SA (HO n1 _ _) rfl (qL (fl:=(.next,KR J m.size N y [] fl (.pv (.int 0)) y)) (s1:=⟨gm (X,Y) (.pv .none) (.list (.pv (zG N y [] fl)::asked)::rest) (jr (X,Y) N.s m),false⟩) ?_ (qK (qL (fl:=(.next,KR J m.size N y [] fl (.pv (.int 0)) y)) (s1:=⟨gm (X,Y) (.pv .none) (.list (.pv (zG N y [] fl)::asked)::rest) (jr (X,Y) N.s m),false⟩) ?_ (qK hr))))))
 ·unfold gn
  exact jP (zo (qg n2.mkr) rfl rfl rfl (qh (j8 (qh (qT (qg g44) rfl rfl) (qh (qT (qg g44) rfl rfl) (qh (qT (qg g44) rfl rfl) qw))) (qV a1)) qw) (qV a2)) rfl
 ·unfold gp
  refine Zj (c:=false) (s1:=⟨gm (X,Y) (.pv .none) (.list (.pv (zG N y [] fl)::asked)::rest) (jr (X,Y) N.s m),false⟩) ?_ (HK rfl jM);refine kW (j7 (qF (qg qn) (qg (qd rfl (qd rfl (qd rfl (qd rfl qn))))) xR) (y8 rfl (j7 (qF (zo (wB (qg n3.mkr) rfl) rfl rfl rfl qw (qV a3)) (qg (qd rfl (qd rfl (qd rfl (qd rfl (qd rfl (qd rfl qn))))))) xR) (y8 rfl (wm (vK (j7 (YC (qg n3.tp)) (vY rfl))))))))
theorem qdX(h:LN J pk X Y false){N:Nm}(p:Pick X Y N)(hl:Lt m 20){y:Nat}{nt:List Tr}{fl:Int}(ha:jU (X,Y) N.s m=(y,m)∧zd (X,Y) N.s m=nt)(hpt:part.length≤3){r:CSs}{R:Mine.R (Flow×Env)}(hr:qy (qH P (qf P (d+7))) r (KR J m.size N y nt fl (.pv (.int part.length)) y) ⟨gm (X,Y) (.ref 6) (.list (.pv (zG N y nt fl)::asked)::.list (part++jY nt)::rest) m,false⟩=R):
  qy (qH P (qf P (d+7))) (.cons gk (.cons qdv (.cons gn (.cons gp r)))) J ⟨gm (X,Y) (.ref 6) (.list (.pv (zG N y nt fl)::asked)::.list part::rest) m,false⟩=R:=by
 have e1:=qfZ (d:=d) (pa:=.ref 6) (asked:=asked) (rest:=.list part::rest) h (hl.le (by decide)) (N:=N) (y:=y) (nt:=nt) (fl:=fl) rfl
 let bg:AV:=.pv (.int part.length)
 let J1:Env:=((((J.put 114 (.pv (.int m.size))).put 44 (.pv (vy N))).put 111 (.pv (.int y))).put 113 (.pv (.lst (vV nt)))).put 112 (.pv (.int fl))
 have n1:LN J1 pk X Y false:=((((h.put rfl).put rfl).put rfl).put rfl).put rfl;have n2:LN (J1.put 110 bg) pk X Y false:=n1.put rfl;have n3:LN (KR J m.size N y nt fl bg y) pk X Y false:=h.g21;have a1:=XQ (d+6) N ⟨gm (X,Y) (.ref 6) (.list (.pv (zG N y nt fl)::asked)::.list part::rest) m,false⟩;have a2:=qaW (d:=d) (asked:=.pv (zG N y nt fl)::asked) (part:=part) (rest:=rest) (st:=false) p.ok (hl.le (by decide)) (qP hpt (by decide));rw[ha.1,ha.2] at a2;have g44:(J1.put 110 bg).get 44=some (.pv (vy N)):=qd rfl (qd rfl (qd rfl (qd rfl qn)));have a3:=XJ (X:=X) (Y:=Y) (pa:=.ref 6) (tl:=.list (.pv (zG N y nt fl)::asked)::.list (part++jY nt)::rest) (hl.le (show 10≤20 by decide)) (d+6) false;have hnt:nt.length≤1:=by rw[←ha.2];unfold zd;induction gK (X,Y) N.s <;> exact jG rfl
 have hsl:vg (.ref 6) (some bg) none ⟨gm (X,Y) (.ref 6) (.list (.pv (zG N y nt fl)::asked)::.list (part++jY nt)::rest) m,false⟩=some (.pv (.lst (vV nt))) :=
  qad (l:=part++jY nt) (H9 hpt) rfl (by rw[qU,jY,qE];exact qP (yt hpt hnt) (by decide)) ((List.drop_left' rfl).trans (by show nt.map _=(nt.map Tr.pv).map AV.pv;rw[vJ];rfl))
 refine qL e1 (qK (SA (HN n1 (qP hpt (by decide)) _) rfl (qL (fl:=(.next,KR J m.size N y nt fl bg y)) (s1:=⟨gm (X,Y) (.ref 6) (.list (.pv (zG N y nt fl)::asked)::.list (part++jY nt)::rest) m,false⟩) ?_ (qK (qL (fl:=(.next,KR J m.size N y nt fl bg y)) (s1:=⟨gm (X,Y) (.ref 6) (.list (.pv (zG N y nt fl)::asked)::.list (part++jY nt)::rest) m,false⟩) ?_ (qK hr))))))
 ·unfold gn
  exact jP (zo (qg n2.mkr) rfl rfl rfl (qh (j8 (qh (qT (qg g44) rfl rfl) (qh (qT (qg g44) rfl rfl) (qh (qT (qg g44) rfl rfl) qw))) (qV a1)) qw) (qV a2)) rfl
 ·unfold gp
  refine Zj (c:=false) (s1:=⟨gm (X,Y) (.ref 6) (.list (.pv (zG N y nt fl)::asked)::.list (part++jY nt)::rest) m,false⟩) ?_ (HK rfl jM);refine kW (j7 (qF (qg qn) (qg (qd rfl (qd rfl (qd rfl (qd rfl qn))))) xR) (y8 rfl (j7 (qF (zo (wB (qg n3.mkr) rfl) rfl rfl rfl qw (qV a3)) (qg (qd rfl (qd rfl (qd rfl (qd rfl (qd rfl (qd rfl qn))))))) xR) (y8 rfl (wm (vK (j7 (YC (qg n3.tp)) (gw rfl (wm (qF (qaU (wB (qg n3.mkr) rfl) (qg (qd rfl qn)) hsl) (qg (qd rfl (qd rfl (qd rfl qn)))) (Ht (qkU nt))))))))))))
theorem qmA(h:LN J pk X Y top)(hX:X∈wc)(hY:Y∈wc)(hp:pk.length=10)(hl:Lt m 20):
  ∃(e:Int) (J':Env),LN J' pk X Y top∧J'.get 116=some (.pv (.int e))∧J'.get 0=some (.pv (.int (qM X - 1)))∧J'.get 117=some (.pv (.int (j6 X Y e m).1)) ∧
   ∀r:CSs,qy (qH P (qf P (d+7))) (.cons xr (.cons xt (.cons xu r))) J ⟨gm (X,Y) pa tl m,false⟩=qy (qH P (qf P (d+7))) r J' ⟨gm (X,Y) pa (tl++[zg,zg]) (j6 X Y e m).2,false⟩:=by
 obtain⟨x1,x2,x3,x4⟩:=XS hX;obtain⟨f1,f2⟩:=xo (p:=ql pk 9) (m:=5) (by decide);obtain⟨e,he⟩:∃e,e=(ql pk 9).fmod 5 - 2:=⟨_,rfl⟩
 have a9:∀s,wv (.pv (.lst (qj pk))) (.pv (.int 9)) s=some (.pv (.int (ql pk 9))):=λs=>wQ (v:=9) (by rw[hp];decide) (by rw[hp];decide);have hsub:∀s,kj .sub false (.pv (.int ((ql pk 9).fmod 5))) (.pv (.int 2)) s=some (.pv (.int e),s):=λs=>by rw[he];rfl
 have hls:ZV (qi X) (qi Y) = .lst [.lst [.int (qM X),.int (je X)],.lst (qj (qi Y))]:=by unfold ZV;rw[x1];rfl
 have gl:=h.ls;rw[hls] at gl
 let J1:Env:=((J.put 116 (.pv (.int e))).put 0 (.pv (.int (qM X - 1)))).put 1 (.pv (.int (je X+1)))
 have n1:LN J1 pk X Y top:=((h.put rfl).put rfl).put rfl;have hc:=qlN (d:=d+1) (D:=(X,Y)) (pa:=pa) (tl:=tl) (st:=false) (m:=m) (e:=e) (K6 hX) (K6 hY) (by rw[he];exact qdV (n:=1000) (Int.lt_of_lt_of_le (by decide) (Int.sub_le_sub_right f1 2)) (vG (Int.sub_le_self _ (by decide)) (Int.lt_trans f2 (by decide)))) (hl.le (by decide));have hg:=qey (X,Y) e m
 let J2:Env:=J1.put 42 (.pv (jO (X,Y) e m).1.pv)
 have n2:LN J2 pk X Y top:=n1.put rfl;have hst:=qai (d:=d+2) (D:=(X,Y)) (pa:=pa) (tl:=tl++[zg,zg]) (st:=false) (y:=0) (dm:=QK X) (qex (X:=X) (Y:=Y) (e:=e) (hl.le (by decide))).1 x3 (λh=>nomatch h) (hg.lt (k:=5) (hl.le (by decide)));refine⟨e,J2.put 117 (.pv (.int (j6 X Y e m).1)),n2.put rfl,qd rfl (qd rfl (qd rfl (qd rfl qn))),qd rfl (qd rfl (qd rfl qn)),qn,λr=>qL (s1:=⟨gm (X,Y) pa tl m,false⟩) (fl:=(.next,J1)) ?_ (qK (qL (s1:=⟨gm (X,Y) pa (tl++[zg,zg]) (jO (X,Y) e m).2,false⟩) (fl:=(.next,J2)) ?_ (qK (qL (s1:=⟨gm (X,Y) pa (tl++[zg,zg]) (j6 X Y e m).2,false⟩) (fl:=(.next,J2.put 117 (.pv (.int (j6 X Y e m).1)))) ?_ (qK rfl)))))⟩
 ·unfold xr
  refine jP (v:=.pv (.tup [.int e,.int (qM X - 1),.int (je X+1)])) (zT (qh (q8 (q8 (qT (qg h.pk) rfl (a9 _)) rfl rfl) rfl (hsub _)) (qh (q8 (qT (qT (qg gl) rfl rfl) rfl rfl) rfl rfl) (qh (q8 (qT (qT (qg gl) rfl rfl) (KQ rfl) rfl) rfl rfl) qw))) rfl) rfl
 ·unfold xt
  exact jP (zo (qg n1.mkr) rfl rfl rfl (qh rfl (qh rfl (qh (qg (qd rfl (qd rfl qn))) qw))) (qV hc)) rfl
 ·unfold xu
  exact jP (zo (qg n2.mkr) rfl rfl rfl (qh rfl (qh (qg qn) (qh (zT (qh (zT (qh (qg (qd rfl (qd rfl qn))) (qh (qg (qd rfl qn)) qw)) rfl) qw) rfl) qw))) (qV hst)) rfl
end
noncomputable def gA:Nat→Nat→List AV
 |_,0=>[]
 |b,n+1=>.ref b::gA (b+1) n
theorem Hz:∀{n b z:Nat},z<n→(gA b n)[z]? = some (.ref (b+z))
 |n+1,b,0,_=>rfl
 |n+1,b,z+1,h=>by
  show(gA (b+1) n)[z]? = _
  rw[Hz (Q7 h),jQ,jH 1]
theorem qhR:∀(n b:Nat),(gA b n).length=n:=by
 intro n;induction n with
 |zero =>
  intro _;exact rfl
 |succ n ih =>
  intro b;exact qz (· + 1) (ih (b+1))
theorem qcp{C:Ctx}{J:Env}{st:Bool}:∀(l:List AV) (h:List AObj),vB C J (.nm 75) .nil (.elt (.list true .nil)) [] l ⟨h,st⟩=some (gA h.length l.length,⟨h++List.replicate l.length (.list []),st⟩):=by
 intro l;induction l with
 |nil =>
  intro h;show some ([],_)=some ([],(⟨h++[],st⟩:St));rw[zR]
 |cons x r ih0 =>
  intro h;have ih:=ih0 (h++[.list []]);rw[qU,wj] at ih;exact jh (ys:=[.ref h.length]) rfl rfl (wD rfl rfl) rfl ih
noncomputable def vX(ts:List Told)(n:Nat):List AObj:=(List.range n).map λz=>.list (jo (ts.filter λt=>jj t == z))
theorem qjv(n:Nat):vX [] n=List.replicate n (.list []):=by
 unfold vX;rw[show(λz=>AObj.list (jo (([]:List Told).filter λt=>jj t == z)))=λB=>AObj.list [] from rfl,List.map_const',List.length_range]
theorem KY(h:z<n):(vX ts n)[z]? = some (.list (jo (ts.filter λt=>jj t == z))):=by
 unfold vX;rw[kO,List.getElem?_range h];rfl
theorem qjw:(vX ts n).set (jj t) (.list (jo (ts.filter λu=>jj u == jj t)++[.pv t.pv]))=vX (ts++[t]) n:=by
 refine List.ext_getElem? λi=>?_;have hlen:∀ts,(vX ts n).length=n:=λts=>by unfold vX;rw[qE,List.length_range]
 by_cases hi:i<n
 ·rw[KY hi]
  by_cases hz:jj t=i
  ·subst hz
   rw[List.getElem?_set_self (by rw[hlen];exact hi),List.filter_append,show[t].filter (λu=>jj u == jj t)=[t] from List.filter_cons_of_pos (zP (jj t))];exact qz (λx=>some (AObj.list x)) (Km ..).symm
  ·rw[List.getElem?_set_ne hz,KY hi,List.filter_append,show[t].filter (λu=>jj u == i)=[] from List.filter_cons_of_neg (by rw[yM hz];decide),zR]
 ·rw[Za (by rw[List.length_set,hlen];exact Nat.not_lt.mp hi),Za (by rw[hlen];exact Nat.not_lt.mp hi)]
theorem DB(h:qt C J a s=some (.pv (.int n),s1))(h3:(decide (-1000≤n)&&decide (n≤jl))=true):xG C J (.range1 a) s=some (⟨(qj (jN 0 n)).map .pv,[]⟩,s1):=by
 show bnd (qt C J a s) _=_;rw[h]
 exact if_pos h3
section
variable {d:Nat}{X Y:Dm}{tl rest:List AObj}{m:M}{asked part:List AV}{pk:List Int}{top:Bool}{J:Env}{pa:AV}
theorem qju(hm:∀t∈m.ts,zy m.size t)(hsz:m.size<900)(h9:m.ts.length<900)(hB:BL=gA (gm (X,Y) pa tl m).length m.size):∀{ts2 ts1:List Told}{J:Env},m.ts=ts1++ts2→J.get 100=some (.lstR BL) →
  ∃J',jw [(3,jo m.ts)] (λx J s=>ob (jC (.nm 22) x J) λJ'=>qy (qH P (qf P (d+7))) (.cons xP .nil) J' s) (jo ts2) J ⟨gm (X,Y) pa (tl++vX ts1 m.size) m,false⟩=some ((.next,J'),⟨gm (X,Y) pa (tl++vX m.ts m.size) m,false⟩)∧∀i,(22 == i)=false→J'.get i=J.get i:=by
 intro ts2;induction ts2 with
 |nil =>
  intro ts1 J he _;exact⟨J,by rw[he,zR];rfl,λB B=>rfl⟩
 |cons t ts2 ih =>
  intro ts1 J he g;have ht:=hm t (by rw[he];exact Q9 _ (qY ..));have hlt:jj t<m.size:=Hh (qS 2 _) (qcd ht);have hlen:(ts1.filter λu=>jj u == jj t).length≤ts1.length:=List.length_filter_le ..;have hl1:ts1.length<900:=by rw[he,qU] at h9;exact qP (qS ..) h9
  have ha:(gm (X,Y) pa (tl++vX ts1 m.size) m)[(gm (X,Y) pa tl m).length+jj t]? = some (.list (jo (ts1.filter λu=>jj u == jj t))):=by
   rw[←vA,kL (qS ..),YB];exact KY hlt
  have hset:(gm (X,Y) pa (tl++vX ts1 m.size) m).set ((gm (X,Y) pa tl m).length+jj t) (.list (jo (ts1.filter λu=>jj u == jj t)++[.pv t.pv]))=gm (X,Y) pa (tl++vX (ts1++[t]) m.size) m:=by
   rw[←vA,List.set_append_right _ _ (qS ..),YB,qjw,vA]
  obtain⟨J',e,q⟩:=ih (ts1:=ts1++[t]) (J:=J.put 22 (.pv t.pv)) (by rw[he,wj];rfl) (qd rfl g);refine⟨J',zJ (s1:=⟨gm (X,Y) pa (tl++vX (ts1++[t]) m.size) m,false⟩) (fl:=(.next,J.put 22 (.pv t.pv))) rfl (qL (s1:=⟨gm (X,Y) pa (tl++vX (ts1++[t]) m.size) m,false⟩) (fl:=(.next,J.put 22 (.pv t.pv))) ?_ (qK jM)) (zn (gd rfl) e),λi hi=>(q i hi).trans (yg hi)⟩;unfold xP;refine KU (v:=.pv .none) (XU (v:=.ref ((gm (X,Y) pa tl m).length+jj t)) (qT (qg (qd rfl g)) (zt (qh (q8 (j8 (qh (qg qn) qw) (qV (qoe (d:=d+6) ht _))) rfl (qgE (qis ht))) qw) qhA) (gE (jp (jp hlt hsz) (by decide)) (by rw[hB];exact Hz hlt))) (qiF ha rfl) (qh (qg qn) qw) ?_);rw[xn ha rfl (by rw[vF];exact qP hlen (jp hl1 (by decide)))];exact qz (λx=>some (AV.pv PV.none,(⟨x,false⟩:St))) hset
theorem qdI:∀{n b:Nat},n≠0→wO (gA b n)=none:=by
 intro n;induction n using Nat.casesOn with
 |zero =>
  intro _ h;exact absurd rfl h
 |succ n =>
  intro b _;exact rfl
structure LE (J:Env) (e lo:Int) (z:Nat):Prop where
 e:J.get 116=some (.pv (.int e))
 lo:J.get 0=some (.pv (.int lo))
 z:J.get 117=some (.pv (.int z))
theorem qnH(h:LN J pk X Y top){e lo:Int}{zl:Nat}(hE:LE J e lo zl)(hm:∀t∈m.ts,zy m.size t)(hl:Lt m 10):
  ∃J':Env,LN J' pk X Y top∧LE J' e lo zl∧J'.get 100=some (.lstR (gA (gm (X,Y) pa tl m).length m.size))∧∀r:CSs,qy (qH P (qf P (d+7))) (.cons xw (.cons (.forS (.nm 22) (.it (.attr (.attr (.var 106) 47) 15)) (.cons xP .nil)) r)) J ⟨gm (X,Y) pa tl m,false⟩=qy (qH P (qf P (d+7))) r J' ⟨gm (X,Y) pa (tl++vX m.ts m.size) m,false⟩:=by
 have h1:=XJ (X:=X) (Y:=Y) (pa:=pa) (tl:=tl) hl (d+6) false;have hsz:m.size<900:=hl.size;have hrl:((qj (jN 0 (m.size:Int))).map AV.pv).length=m.size:=by rw[qE,qj,qE,jN,qE,List.length_range,Int.sub_zero];rfl
 have ha:=qcp (C:=qH P (qf P (d+7))) (J:=Env.del [75] J) (st:=false) ((qj (jN 0 (m.size:Int))).map AV.pv) (gm (X,Y) pa tl m);rw[hrl,←qjv,vA] at ha
 let J1:Env:=J.put 100 (.lstR (gA (gm (X,Y) pa tl m).length m.size))
 obtain⟨J2,eL,q⟩:=qju (d:=d) (X:=X) (Y:=Y) (pa:=pa) (tl:=tl) hm hsz hl.ts rfl (ts2:=m.ts) (ts1:=[]) (J:=J1) rfl qn;have n1:LN J1 pk X Y top:=h.put rfl;have n2:LN J2 pk X Y top:=⟨(q 103 rfl).trans n1.pk,(q 90 rfl).trans n1.ls,(q 106 rfl).trans n1.mkr,(q 87 rfl).trans n1.mn,(q 108 rfl).trans n1.tp,(q 107 rfl).trans n1.ak⟩
 refine⟨J2,n2,⟨(q 116 rfl).trans (qd rfl hE.e),(q 0 rfl).trans (qd rfl hE.lo),(q 117 rfl).trans (qd rfl hE.z)⟩,(q 100 rfl).trans qn,λr=>qL (s1:=⟨gm (X,Y) pa (tl++vX [] m.size) m,false⟩) (fl:=(.next,J1)) ?_ (qK (qL (wN (zW (wB (wB (qg n1.mkr) rfl) rfl) (Yv (l:=jo m.ts) rfl (qN (by rw[vF];exact qu (jz hl.ts) (by decide))))) eL) (qK rfl)))⟩;unfold xw;refine jP (wa (zK (DB (n:=m.size) (zo (wB (qg (jx rfl h.mkr)) rfl) rfl rfl rfl qw (qV h1)) ?_) (w8 (jE rfl)) ha) ?_ ?_) rfl
 ·rw[qN (show(-1000:Int)≤m.size from zB (by decide) (Int.natCast_nonneg _)),qN (show(m.size:Int)≤jl from Int.ofNat_le.mpr (qu (jz hsz) (by decide)))];rfl
 ·rw[qhR];exact qN (qu (jz hsz) (by decide))
 ·show(match wO _ with | some ps=>AV.pv (.lst ps) | none=>.lstR _)=_
  rw[qdI (n:=m.size) (show m.size≠0 from wL (q6 Nat.two_pos (qS 2 m.ks.length)))]
theorem qnG:XT (X,Y) pa (tl++vX m.ts m.size) m (gA (gm (X,Y) pa tl m).length m.size):=λz hz=>by
 refine⟨_,Hz hz,?_⟩;rw[←vA,kL (qS ..),YB];exact KY hz
end
structure LW (J:Env) (pk:List Int) (X Y:Dm) (top:Bool) (e lo:Int) (zl:Nat) (BL:List AV):Prop where
 ln:LN J pk X Y top
 le:LE J e lo zl
 bl:J.get 100=some (.lstR BL)
theorem LW.put{J:Env}{pk:List Int}{X Y:Dm}{top:Bool}{e lo:Int}{zl:Nat}{BL:List AV}{i:Nat}{v:AV}(h:LW J pk X Y top e lo zl BL)(hi:((i == 103)||(i == 90)||(i == 106)||(i == 87)||(i == 108)||(i == 107))=false)(h2:((i == 116)||(i == 0)||(i == 117)||(i == 100))=false):LW (J.put i v) pk X Y top e lo zl BL:=by
 simp only[Zd] at h2;obtain⟨⟨⟨a,b⟩,c⟩,d⟩:=h2;exact⟨h.ln.put hi,⟨qd a h.le.e,qd b h.le.lo,qd c h.le.z⟩,qd d h.bl⟩
structure Ask where
 N:Nm
 z:Nat
 nt:List Tr
 fl:Int
noncomputable def Ask.pv(a:Ask):PV:=zG a.N a.z a.nt a.fl
structure AskOk (a:Ask) (w:List Int) (x y:Int) (top:Bool):Prop where
 z:a.z<w.length
 v:ql w a.z=if a.N.due x y≠0 then a.N.due x y else a.fl
 lt:∀t∈a.nt,t.lt w.length
 t:top=false→a.nt.all (λt=>jk t w) = !(a.N.due x y == 0)
structure WOk (a b:Ask) (w:List Int) (x y:Int) (top:Bool) (e lo:Int) (zl:Nat):Prop where
 l9:w.length<900
 zlt:zl<w.length
 last:ql w zl=if x≤e then x else lo
 a:AskOk a w x y top
 b:AskOk b w x y top
theorem qmc:yG (.tup (.cons (.tup (.cons (.nm 39) (.cons (.nm 66) (.cons (.nm 60) .nil)))) (.cons (.nm 75) (.cons (.nm 55) (.cons (.nm 112) .nil))))) (Env.del [39,66,60,75,55,112] J)=true:=by
 show(((Env.get _ 39).isNone&&((Env.get _ 66).isNone&&((Env.get _ 60).isNone&&true)))&&((Env.get _ 75).isNone&&((Env.get _ 55).isNone&&((Env.get _ 112).isNone&&true))))=true
 rw[jE rfl,jE rfl,jE rfl,jE rfl,jE rfl,jE rfl];rfl
theorem qeb:∀l:List Bool,vQ (.bool false) (l.map .bool) = !l.all id:=by
 intro l;induction l with
 |nil =>
  exact rfl
 |cons b r ih =>
  show(b == false||vQ (.bool false) (r.map .bool)) = !(b&&r.all id)
  rw[ih];induction b <;> rfl
set_option backward.match.sparseCases false in
theorem qgF:∀l:List PV,xc s (l.map .pv)=some l:=by
 intro l;induction l with
 |nil =>
  exact rfl
 |cons a r ih =>
  show(match XW s (.pv a),xc s (r.map .pv) with | some p,some ps=>some (p::ps) | _,_=>none)=_;rw[ih];rfl
theorem qeT(h:decide (ju v<20)=true):Qq (.pv v) (.pv (.lst l)) s=some (vQ v l):=by
 show(if ju v<20 then (xc s (l.map .pv)).map (vQ v) else none)=_
 rw[if_pos (qr h),qgF];rfl
section
variable {d:Nat}{w:List Int}{s:St}
theorem qkT(h9:w.length<900)(g:J.get 94=some (jc w)):∀{nt:List Tr},(∀t∈nt,t.lt w.length) →
  vB (qH P (qf P (d+1))) J (.nm 35) .nil (.elt (.call 44 (.cons (.var 35) (.cons (.var 94) .nil)))) [] ((vV nt).map .pv) s=some (((nt.map λt=>jk t w).map PV.bool).map .pv,s):=by
 intro nt;induction nt with
 |nil =>
  intro _;exact rfl
 |cons t r ih =>
  intro h;exact jh (ys:=[.pv (.bool (jk t w))]) rfl rfl (wD rfl (wU (j8 (qh (qg qn) (qh (qg (qd rfl g)) qw)) (qV (qin (d:=d) (h t (qY ..)) h9 s))))) rfl (ih λu hu=>h u (jg _ hu))
end
section
variable {d:Nat}{X Y:Dm}{tl rest:List AObj}{m:M}{asked part:List AV}{pk:List Int}{top:Bool}{J:Env}{pa:AV}{e lo:Int}{zl:Nat}{BL:List AV}
theorem qed(h:LW J pk X Y top e lo zl BL)(h9:w.length<900)(ho:AskOk a w x y top)(hnt:a.nt.length≤1)(g94:J.get 94=some (jc w))(g120:J.get 120=some (.pv (.int (a.N.due x y))))(g75:J.get 75=some (.pv (.int a.z)))(g55:J.get 55=some (.pv (.lst (vV a.nt))))(g112:J.get 112=some (.pv (.int a.fl))):
  qy (qH P (qf P (d+1))) (.cons Bt (.cons Bu .nil)) J s=some ((.next,J),s):=by
 have hd:∀C,qt C J (.cmp .ne (.var 120) (.int 0)) s=some (.pv (.bool (!(a.N.due x y == 0))),s):=λC=>qF (qg g120) rfl rfl;have hv:∀C,qt C J (.ife (.cmp .ne (.var 120) (.int 0)) (.var 120) (.var 112)) s=some (.pv (.int (ql w a.z)),s):=λC=>by
  rw[ho.v];have hd:=hd C;by_cases q:a.N.due x y=0
  ·rw[if_neg (λh=>h q)];rw[q] at hd;exact jS hd (yZ rfl (qg g112))
  ·rw[if_pos q];rw[yM q] at hd;exact jS hd (vw rfl (qg g120))
 refine qL (s1:=s) (fl:=(.next,J)) ?_ (qK (qL (s1:=s) (fl:=(.next,J)) ?_ (qK jM)))
 ·unfold Bt
  exact Zj (c:=false) (qF (qT (qg g94) (qg g75) (wQ ho.z h9)) (hv _) xR) (HK rfl jM)
 ·unfold Bu
  induction top with
  |true=>exact Zj (c:=false) (vK (j7 (YC (qg h.ln.tp)) (vY rfl))) (HK rfl jM)
  |false =>
   have hall:=ho.t rfl;have hc:qt (qH P (qf P (d+1))) J (.comp [35] (.cons (.nm 35) (.it (.var 55)) .nil (.elt (.call 44 (.cons (.var 35) (.cons (.var 94) .nil)))))) s=some (.pv (.lst ((a.nt.map λt=>jk t w).map PV.bool)),s):=by
    apply wa
    ·refine zK (zW (qg (jx rfl g55)) (if_pos ?_)) (w8 (jE rfl)) (qkT h9 (jx rfl g94) ho.lt)
     rw[qE,vV,qE];exact qu hnt (by decide)
    ·refine qN ?_
     rw[qE,qE,qE];exact qu hnt (by decide)
    ·exact wi _
   have hn:jD .notin (.pv (.bool false)) (.pv (.lst ((a.nt.map λt=>jk t w).map PV.bool))) s=some (!(a.N.due x y == 0)):=by
    rw[HL (qeT rfl),qeb,Bool.not_not,List.all_map];exact qz some hall
   exact Zj (c:=false) (vK (j7 (YC (qg h.ln.tp)) (gw rfl (wm (qF (qF rfl hc hn) (hd _) (Ht rfl)))))) (HK rfl jM)
theorem qee(h:LW J pk X Y top e lo zl BL)(h9:w.length<900)(hs:s.heap[5]? = some (.list [.pv a.pv,.pv b.pv]))(ha:AskOk a w x y top)(hb:AskOk b w x y top)(na:a.nt.length≤1)(nb:b.nt.length≤1)(g94:J.get 94=some (jc w))(g118:J.get 118=some (.pv (.lst [.int (a.N.due x y),.int (b.N.due x y)])))(g25:J.get 25=some (.pv (.int x))):
  ∃J',vz (qH P (qf P (d+1))) Hi J s=some ((.next,J'),s)∧LW J' pk X Y top e lo zl BL∧J'.get 25=some (.pv (.int x)):=by
 let Ja:Env:=((((((J.put 120 (.pv (.int (a.N.due x y)))).put 39 (.pv (.int a.N.a))).put 66 (.pv (.int a.N.b))).put 60 (.pv (.int a.N.c))).put 75 (.pv (.int a.z))).put 55 (.pv (.lst (vV a.nt)))).put 112 (.pv (.int a.fl))
 let Jb:Env:=((((((Ja.put 120 (.pv (.int (b.N.due x y)))).put 39 (.pv (.int b.N.a))).put 66 (.pv (.int b.N.b))).put 60 (.pv (.int b.N.c))).put 75 (.pv (.int b.z))).put 55 (.pv (.lst (vV b.nt)))).put 112 (.pv (.int b.fl))
 have la:LW Ja pk X Y top e lo zl BL:=((((((h.put rfl rfl).put rfl rfl).put rfl rfl).put rfl rfl).put rfl rfl).put rfl rfl).put rfl rfl;have lb:LW Jb pk X Y top e lo zl BL:=((((((la.put rfl rfl).put rfl rfl).put rfl rfl).put rfl rfl).put rfl rfl).put rfl rfl).put rfl rfl;have e1:=qed (d:=d) (s:=s) la h9 ha na (qd rfl (qd rfl (qd rfl (qd rfl (qd rfl (qd rfl (qd rfl g94))))))) (qd rfl (qd rfl (qd rfl (qd rfl (qd rfl (qd rfl qn)))))) (qd rfl (qd rfl qn)) (qd rfl qn) qn;have ga:Ja.get 94=some (jc w):=qd rfl (qd rfl (qd rfl (qd rfl (qd rfl (qd rfl (qd rfl g94))))));have e2:=qed (d:=d) (s:=s) lb h9 hb nb (qd rfl (qd rfl (qd rfl (qd rfl (qd rfl (qd rfl (qd rfl ga))))))) (qd rfl (qd rfl (qd rfl (qd rfl (qd rfl (qd rfl qn)))))) (qd rfl (qd rfl qn)) (qd rfl qn) qn;refine⟨Jb,?_,lb,qd rfl (qd rfl (qd rfl (qd rfl (qd rfl (qd rfl (qd rfl (qd rfl (qd rfl (qd rfl (qd rfl (qd rfl (qd rfl (qd rfl g25)))))))))))))⟩;unfold Hi;refine wN (qck (qg g118) (qg h.ln.ak) rfl (Yv hs rfl)) ?_;exact zJ rfl e1 (zn (gd hs) (zJ rfl e2 (zn (gd hs) Zg)))
theorem qjJ{s:St}{a b:Ask}{x y:Int}(h:LW J pk X Y top e lo zl BL)(hs:s.heap[5]? = some (.list [.pv a.pv,.pv b.pv]))(ha:ja a.N.a∧ja a.N.b)(hb:ja b.N.a∧ja b.N.b)(hx:ja x)(hy:ja y)(g25:J.get 25=some (.pv (.int x)))(g57:J.get 57=some (.pv (.int y)))(C:Ctx):
  vz C Hj J s=some ((.next,J.put 118 (.pv (.lst [.int (a.N.due x y),.int (b.N.due x y)]))),s):=by
 have q25:(Env.del [39,66,60,75,55,112] J).get 25=some (.pv (.int x)):=jx rfl g25;have q57:(Env.del [39,66,60,75,55,112] J).get 57=some (.pv (.int y)):=jx rfl g57;have go:∀(a:Ask),ja a.N.a∧ja a.N.b→xH C ((((((Env.put 39 (.pv (.int a.N.a)) (Env.del [39,66,60,75,55,112] J)).put 66 (.pv (.int a.N.b))).put 60 (.pv (.int a.N.c))).put 75 (.pv (.int a.z))).put 55 (.pv (.lst (vV a.nt)))).put 112 (.pv (.int a.fl))) (.elt (.bin .add false (.bin .add false (.bin .mul false (.var 39) (.var 25)) (.bin .mul false (.var 66) (.var 57))) (.var 60))) s=some ([.pv (.int (a.N.due x y))],s):=λa ha =>
  wU (q8 (q8 (q8 (qg (qd rfl (qd rfl (qd rfl (qd rfl (qd rfl qn)))))) (qg (qd rfl (qd rfl (qd rfl (qd rfl (qd rfl (qd rfl q25))))))) (wI ha.1 hx)) (q8 (qg (qd rfl (qd rfl (qd rfl (qd rfl qn))))) (qg (qd rfl (qd rfl (qd rfl (qd rfl (qd rfl (qd rfl q57))))))) (wI ha.2 hy)) rfl) (qg (qd rfl (qd rfl (qd rfl qn)))) rfl)
 unfold Hj;refine jP (wa (vs:=[.pv (.int (a.N.due x y)),.pv (.int (b.N.due x y))]) (zK (zW (qg (jx rfl h.ln.ak)) (Yv hs rfl)) qmc ?_) rfl rfl) rfl;exact jh rfl rfl (wD rfl (go a ha)) (gd hs) (jh rfl rfl (wD rfl (go b hb)) (gd hs) qdR)
theorem qmR{C:Ctx}{J:Env}{s:St}{t c:Bool}{e:CE}(h:qt C J e s=some (.pv (.bool (!c)),s)):brB C false (!t) (.cons e .nil) J s=some (.pv (.bool (!(t&&c))),s):=by
 induction t with
 |false=>exact xm rfl
 |true=>exact y8 rfl (wm h)
theorem qkX(h:LW J pk X Y top e lo zl BL)(hs:s.heap[5]? = some (.list [.pv a.pv,.pv b.pv]))(hf:s.heap[0]? = some (.inst 2 [(47,.ref 1),(48,.ref 4),(73,pa)]))(ha:ja a.N.a∧ja a.N.b)(hb:ja b.N.a∧ja b.N.b)(na:a.nt.length≤1)(nb:b.nt.length≤1)(hx:ja x)(hy:ja y)(hW:qf P (d+1) 43 [.ref 1,.lstR BL,.pv (.int x),.pv (.int y)] s=some (.pv (gB W),s))(hn:W=bif top&&(a.N.due x y == 0||b.N.due x y == 0) then [] else W)(h1:(top&&(a.N.due x y == 0||b.N.due x y == 0))=false→∃w,W=[w]∧WOk a b w x y top e lo zl)(g25:J.get 25=some (.pv (.int x)))(g57:J.get 57=some (.pv (.int y))):
  ∃J',qy (qH P (qf P (d+1))) QM J s=some ((.next,J'),s)∧LW J' pk X Y top e lo zl BL∧J'.get 25=some (.pv (.int x)):=by
 have e1:=qjJ (s:=s) h hs ha hb hx hy g25 g57 (qH P (qf P (d+1)))
 let J1:Env:=J.put 118 (.pv (.lst [.int (a.N.due x y),.int (b.N.due x y)]))
 let J2:Env:=J1.put 119 (.pv (gB W))
 have l1:LW J1 pk X Y top e lo zl BL:=h.put rfl rfl;have l2:LW J2 pk X Y top e lo zl BL:=l1.put rfl rfl;have q118:J2.get 118=_:=qd rfl qn;have q25:J2.get 25=some (.pv (.int x)):=qd rfl (qd rfl g25);have e2:qt (qH P (qf P (d+1))) J1 (.call 43 (.cons (.attr (.var 106) 47) (.cons (.var 100) (.cons (.var 25) (.cons (.var 57) .nil))))) s=some (.pv (gB W),s) :=
  j8 (qh (wB (qg l1.ln.mkr) (by show ob (s.heap[0]?) _=_;rw[hf];rfl)) (qh (qg l1.bl) (qh (qg (qd rfl g25)) (qh (qg (qd rfl g57)) qw)))) (qV hW)
 have e3:qt (qH P (qf P (d+1))) J2 (.bi .int (.cons (.or (.cons (.not (.var 108)) (.cons (.cmp .notin (.int 0) (.var 118)) .nil))) .nil)) s=some (.pv (.int (bif top&&(a.N.due x y == 0||b.N.due x y == 0) then 0 else 1)),s):=by
  apply zt
  ·apply qh (v:=.pv (.bool !(top&&(a.N.due x y == 0||b.N.due x y == 0))))
   ·apply kW;apply j7;exact YC (qg l2.ln.tp)
    refine qmR (qF rfl (qg q118) ?_);rw[HL (qeT rfl)];show some (!((a.N.due x y == 0)||((b.N.due x y == 0)||false)))=_
    rw[Bool.or_false]
   ·exact qw
  ·induction top&&(a.N.due x y == 0||b.N.due x y == 0) <;> rfl
 have e4:∀n:Int,jD .ne (.pv (.int n)) (.pv (.int n)) s=some false:=λn=>xR;cases hc:top&&(a.N.due x y == 0||b.N.due x y == 0) with
 |true =>
  rw[hc] at hn e3;have hn:W=[]:=hn;have g119:J2.get 119=some (.pv (.lst [])):=by rw[show J2.get 119=some (.pv (gB W)) from qn,hn];rfl
  refine⟨J2,?_,l2,q25⟩;unfold QM;refine qL e1 (qK (SA e2 rfl (qL (s1:=s) (fl:=(.next,J2)) ?_ (qK (qL (wN (zW (qg g119) rfl) Zg) (qK jM))))));unfold Hk;exact Zj (c:=false) (qF (zt (qh (qg g119) qw) rfl) e3 (e4 0)) (HK rfl jM)
 |false =>
  rw[hc] at e3;obtain⟨w,rfl,ok⟩:=h1 hc;have g119:J2.get 119=some (.pv (.lst [.lst (qj w)])):=qn;have l3:LW (J2.put 94 (jc w)) pk X Y top e lo zl BL:=l2.put rfl rfl;obtain⟨J3,a3,l4,g4⟩:=qee (d:=d) (s:=s) l3 ok.l9 hs ok.a ok.b na nb qn (qd rfl q118) (qd rfl q25);refine⟨J3,?_,l4,g4⟩;unfold QM;refine qL e1 (qK (SA e2 rfl (qL (s1:=s) (fl:=(.next,J2)) ?_ (qK (qL (s1:=s) (fl:=(.next,J3)) (wN (zW (qg g119) rfl) (zJ (s1:=s) (fl:=(.next,J3)) rfl (qL (s1:=s) (fl:=(.next,J2.put 94 (jc w))) ?_ (qK (qL a3 (qK jM)))) (zn rfl Zg))) (qK jM))))))
  ·unfold Hk
   exact Zj (c:=false) (qF (zt (qh (qg g119) qw) rfl) e3 (e4 1)) (HK rfl jM)
  ·unfold qbK
   refine Zj (c:=false) (qF (qT (qg qn) (qg l3.le.z) (wQ ok.zlt ok.l9)) (w:=.pv (.int (ql w zl))) ?_ xR) (HK rfl jM);rw[ok.last];have hq:qt (qH P (qf P (d+1))) (J2.put 94 (jc w)) (.cmp .le (.var 25) (.var 116)) s=some (.pv (.bool (decide (x≤e))),s):=qF (qg (qd rfl q25)) (qg l3.le.e) rfl;by_cases q:x≤e
   ·rw[if_pos q];rw[qN q] at hq;exact jS hq (vw rfl (qg (qd rfl q25)))
   ·rw[if_neg q];rw[zQ q] at hq;exact jS hq (yZ rfl (qg l3.le.lo))
end
section
variable {d:Nat}{X Y:Dm}{tl rest:List AObj}{m:M}{pk:List Int}{top:Bool}{J:Env}{pa:AV}{e lo:Int}{zl:Nat}{BL:List AV}{s:St}{a b:Ask}
noncomputable def KS(d:Nat)(s:St)(BL:List AV)(a b:Ask)(top:Bool)(e lo:Int)(zl:Nat)(x y:Int):Prop :=
 ∃W,qf P (d+1) 43 [.ref 1,.lstR BL,.pv (.int x),.pv (.int y)] s=some (.pv (gB W),s)∧(W=bif top&&(a.N.due x y == 0||b.N.due x y == 0) then [] else W)∧((top&&(a.N.due x y == 0||b.N.due x y == 0))=false→∃w,W=[w]∧WOk a b w x y top e lo zl)
structure LawOk (s:St) (pa:AV) (a b:Ask):Prop where
 s5:s.heap[5]? = some (.list [.pv a.pv,.pv b.pv])
 s0:s.heap[0]? = some (.inst 2 [(47,.ref 1),(48,.ref 4),(73,pa)])
 aa:ja a.N.a∧ja a.N.b
 bb:ja b.N.a∧ja b.N.b
 na:a.nt.length≤1
 nb:b.nt.length≤1
theorem qlf(ho:LawOk s pa a b)(hx:ja x):∀{ys:List Int}{J:Env},(∀y∈ys,ja y∧KS d s BL a b top e lo zl x y)→LW J pk X Y top e lo zl BL→J.get 25=some (.pv (.int x)) →
  ∃J',jw [] (λx J s=>ob (jC (.nm 57) x J) λJ'=>qy (qH P (qf P (d+1))) QM J' s) ((qj ys).map .pv) J s=some ((.next,J'),s)∧LW J' pk X Y top e lo zl BL:=by
 intro ys;induction ys with
 |nil =>
  intro J _ h _;exact⟨J,rfl,h⟩
 |cons y r ih =>
  intro J hy h g;obtain⟨h1,W,w1,w2,w3⟩:=hy y (qY ..);obtain⟨J1,e1,l1,g1⟩:=qkX (h.put (i:=57) (v:=.pv (.int y)) rfl rfl) ho.s5 ho.s0 ho.aa ho.bb ho.na ho.nb hx h1 w1 w2 w3 (qd rfl g) qn;obtain⟨J2,e2,l2⟩:=ih (J:=J1) (λz hz=>hy z (jg _ hz)) l1 g1;exact⟨J2,zJ rfl e1 (zn rfl e2),l2⟩
theorem qle(ho:LawOk s pa a b)(hY:Y∈wc):∀{xs:List Int}{J:Env},(∀x∈xs,ja x∧∀y∈qi Y,KS d s BL a b top e lo zl x y)→LW J pk X Y top e lo zl BL →
  ∃J',jw [] (λx J s=>ob (jC (.nm 25) x J) λJ'=>qy (qH P (qf P (d+1))) xp J' s) ((qj xs).map .pv) J s=some ((.next,J'),s):=by
 intro xs;induction xs with
 |nil =>
  intro J _ h;exact⟨J,rfl⟩
 |cons x r ih =>
  intro J hx h;obtain⟨h1,h2⟩:=hx x (qY ..);have l0:LW (J.put 25 (.pv (.int x))) pk X Y top e lo zl BL:=h.put rfl rfl;obtain⟨J1,e1,l1⟩:=qlf (d:=d) ho h1 (ys:=qi Y) (λy hy=>⟨(zx hY).2 y hy,h2 y hy⟩) l0 qn;obtain⟨J2,e2⟩:=ih (J:=J1) (λz hz=>hx z (jg _ hz)) l1;refine⟨J2,zJ (s1:=s) (fl:=(.next,J1)) rfl ?_ (zn rfl e2)⟩;unfold xp;exact qL (wN (zW (qT (qg l0.ln.ls) rfl rfl) (vS (by rw[(zx hY).1];decide))) e1) (qK jM)
end
noncomputable def Dx(ns:List Int)(k:Nat):Int:=if k<ns.length then ql ns k else (k:Int) * k+4 * k+2+3 * ns.length
theorem qfN(hn:ns.length≤63)(g:J.get 104=some (.pv (.lst (qj ns)))):∀ks:List Nat,(∀k∈ks,k<10) →
  vB C J (.nm 9) .nil (.elt (.ife (.cmp .lt (.var 9) (.bi .len (.cons (.var 104) .nil))) (.sub (.var 104) (.var 9)) (.bin .add false (.bin .add false (.bin .add false (.bin .mul false (.var 9) (.var 9)) (.bin .mul false (.int 4) (.var 9))) (.int 2)) (.bin .mul false (.int 3) (.bi .len (.cons (.var 104) .nil)))))) [] ((jK ks).map .pv) s=some ((qj (ks.map (Dx ns))).map .pv,s):=by
 intro ks;induction ks with
 |nil =>
  intro _;exact rfl
 |cons k r ih0 =>
  intro h;have hk:=h k (qY ..);have ih:=ih0 λj hj=>h j (jg _ hj);have g9:(J.put 9 (.pv (.int k))).get 9=some (.pv (.int k)):=qn;have g104:(J.put 9 (.pv (.int k))).get 104=some (.pv (.lst (qj ns))):=qd rfl g;have hlen:∀s,yf .len [.pv (.lst (qj ns))] s=some (.pv (.int ns.length),s):=λs=>by
   have:=Xk (v:=.pv (.lst (qj ns))) (l:=(qj ns).map .pv) (s:=s) rfl (by rw[qE,qj,qE];exact qu hn (by decide));rw[qE,qj,qE] at this;exact this
  have sk:ja (k:Int):=by show((k:Int)).natAbs<1000;rw[Int.natAbs_natCast];exact jp hk (by decide)
  have sl:ja (ns.length:Int):=by show((ns.length:Int)).natAbs<1000;rw[Int.natAbs_natCast];exact qP hn (by decide)
  have hc:qt C (J.put 9 (.pv (.int k))) (.cmp .lt (.var 9) (.bi .len (.cons (.var 104) .nil))) s=some (.pv (.bool (decide ((k:Int)<ns.length))),s):=qF (qg g9) (zt (qh (qg g104) qw) (hlen s)) rfl;refine jh (ys:=[.pv (.int (Dx ns k))]) rfl rfl (wD rfl (wU (jS hc ?_))) rfl ih;unfold Dx;by_cases q:k<ns.length
  ·rw[if_pos q,qN (yr.mpr q)]
   exact vw rfl (qT (qg g104) (qg g9) (wQ q (qP hn (by decide))))
  ·rw[if_neg q,zQ (λz=>q (yr.mp z))]
   exact yZ rfl (q8 (q8 (q8 (q8 (qg g9) (qg g9) (wI sk sk)) (q8 rfl (qg g9) (wI (by show(4:Int).natAbs<1000;decide) sk)) rfl) rfl rfl) (q8 rfl (zt (qh (qg g104) qw) (hlen s)) (wI (by show(3:Int).natAbs<1000;decide) sl)) rfl)
noncomputable def yX(ns:List Int):List Int:=(List.range 10).map (Dx ns)
noncomputable def m0:M:=⟨[],[]⟩
noncomputable def qmS(top:Bool):AV:=bif top then .pv .none else .ref 6
noncomputable def qnw(top:Bool):List AObj:=bif top then [.list []] else [.list [],.list []]
theorem qmT(d:Nat)(hn:ns.length≤63):
  ∃X∈wc,∃Y∈wc,∃(top:Bool) (J:Env),LN J (yX ns) X Y top∧∀r:CSs,qy (qH P (qf P (d+7))) (.cons Hl (.cons Hm (.cons Hn (.cons Ho (.cons Hp (.cons (.setAttr (.var 106) 73 (.ife (.var 108) .none (.list true .nil))) r)))))) [(104,.pv (.lst (qj ns)))] ⟨[],false⟩=qy (qH P (qf P (d+7))) r J ⟨gm (X,Y) (qmS top) (qnw top) m0,false⟩:=by
 have hp:(yX ns).length=10:=by unfold yX;rw[qE,List.length_range]
 have a_:∀(v:Nat) s,v<10→wv (.pv (.lst (qj (yX ns)))) (.pv (.int v)) s=some (.pv (.int (ql (yX ns) v))):=λv s h=>wQ (by rw[hp];exact h) (by rw[hp];decide);obtain⟨X,hX,eX⟩:=qeF (xo (p:=ql (yX ns) 7) (m:=6) (by decide));obtain⟨Y,hY,eY⟩:=qeF (xo (p:=ql (yX ns) 8) (m:=6) (by decide));obtain⟨top,ht⟩:∃t,t=((ql (yX ns) 0).fmod 2 == 1):=⟨_,rfl⟩
 let J1:Env:=[(104,.pv (.lst (qj ns))),(103,.pv (.lst (qj (yX ns))))]
 let J2:Env:=J1.put 105 (.pv (.tup [jm X,jm Y]))
 let J3:Env:=((J2.put 90 (.pv (ZV (qi X) (qi Y)))).put 106 (.ref 0)).put 87 (.pv (.tup (qj yB)))
 let J4:Env:=(J3.put 19 (.pv (.str "y"))).put 20 (.pv (jm Y))
 let J5:Env:=(J4.put 108 (.pv (.bool top))).put 107 (.ref 5)
 have n5:LN J5 (yX ns) X Y top:=⟨rfl,rfl,rfl,rfl,rfl,rfl⟩
 have lX:=Yd (d+6) (dm:=X) (h:=[]) (st:=false) (K7 hX).1 (K7 hX).2;have lY:=Yd (d+6) (dm:=Y) (h:=[]) (st:=false) (K7 hY).1 (K7 hY).2;have v1:=Yi (d+6) (pa:=.pv .none) (vars:=[]) (tolds:=[]) (made:=[]) (tl:=[]) (st:=false) (n:=.str "x") (dm:=jm X) (by decide);have v2:=Yi (d+6) (pa:=.pv .none) (vars:=[.pv (.tup [.str "x",jm X])]) (tolds:=[]) (made:=[]) (tl:=[]) (st:=false) (n:=.str "y") (dm:=jm Y) (qP (jG rfl:_≤1) (by decide));refine⟨X,hX,Y,hY,top,J5,n5,λr=>qL (s1:=⟨[],false⟩) (fl:=(.next,J1)) ?_ (qK (qL (s1:=⟨[],false⟩) (fl:=(.next,J2)) ?_ (qK (qL (s1:=⟨gh (.pv .none) [] [] [] [],false⟩) (fl:=(.next,J3)) ?_ (qK (qL (s1:=⟨gm (X,Y) (.pv .none) [] m0,false⟩) (fl:=(.next,J4)) ?_ (qK (qL (s1:=⟨gm (X,Y) (.pv .none) [.list []] m0,false⟩) (fl:=(.next,J5)) ?_ (qK (qL (s1:=⟨gm (X,Y) (qmS top) (qnw top) m0,false⟩) (fl:=(.next,J5)) ?_ (qK rfl)))))))))))⟩
 ·unfold Hl
  refine jP (wa (zK (DB (n:=10) rfl rfl) rfl (qfN hn rfl (List.range 10) λk hk=>List.mem_range.mp hk)) ?_ (wi _)) rfl;exact qN (by rw[qE,qj,qE];show(yX ns).length≤_;rw[hp];decide)
 ·unfold Hm
  exact jP (zT (qh (qT rfl (q8 (qT rfl rfl (a_ 7 _ (by decide))) rfl rfl) (eX _)) (qh (qT rfl (q8 (qT rfl rfl (a_ 8 _ (by decide))) rfl rfl) (eY _)) qw)) rfl) rfl
 ·unfold Hn
  refine jP (v:=.tupR [.pv (ZV (qi X) (qi Y)),.ref 0,.pv (.tup (qj yB))]) (zT (qh (wa (vs:=[.pv (.lst (qj (qi X))),.pv (.lst (qj (qi Y)))]) (zK (zW rfl rfl) rfl (jh (ys:=[.pv (.lst (qj (qi X)))]) rfl rfl (wD rfl (wU (j8 (qh (qg qn) qw) (qV lX)))) rfl (jh (ys:=[.pv (.lst (qj (qi Y)))]) rfl rfl (wD rfl (wU (j8 (qh (qg qn) qw) (qV lY)))) rfl qdR))) rfl rfl) (qh (s1:=⟨gh (.pv .none) [] [] [] [],false⟩) (v:=.ref 0) rfl (qh rfl qw))) rfl) rfl
 ·unfold Ho
  refine wN (qck (x:=⟨[.pv (.str "x"),.pv (.str "y")],[]⟩) (y:=⟨[.pv (jm X),.pv (jm Y)],[]⟩) rfl rfl rfl rfl) ?_;refine zJ (s1:=⟨gh (.pv .none) [.pv (.tup [.str "x",jm X])] [] [] [],false⟩) (fl:=(.next,(J3.put 19 (.pv (.str "x"))).put 20 (.pv (jm X)))) rfl ?_ (zn rfl (zJ (s1:=⟨gm (X,Y) (.pv .none) [] m0,false⟩) (fl:=(.next,J4)) rfl ?_ (zn rfl Zg)))
  ·unfold Bo;exact SX (zo rfl rfl rfl rfl rfl (qV v1)) jM
  ·unfold Bo;exact SX (zo rfl rfl rfl rfl rfl (qV v2)) jM
 ·unfold Hp
  have hb:∀s,jD .eq (.pv (.int ((ql (yX ns) 0).fmod 2))) (.pv (.int 1)) s=some top:=λs=>by rw[ht];rfl
  exact jP (zT (qh (qF (q8 (qT rfl rfl (a_ 0 _ (by decide))) rfl rfl) rfl (hb _)) (qh (v:=.ref 5) (s1:=⟨gm (X,Y) (.pv .none) [.list []] m0,false⟩) rfl qw)) rfl) rfl
 ·induction top <;> rfl
theorem qmj(D:Dm×Dm):zU D zz (gI []) m0:=λw B=>⟨λB=>⟨λi k h B=>(by injection h),rfl⟩,λB t h=>(nomatch h)⟩
theorem sh0(D:Dm×Dm):Sh D m0 0:=⟨λi k h=>(by injection h),λi k h=>(by injection h),λk h=>(nomatch h),λt h=>(nomatch h),λi k h=>(by injection h),qW 0⟩
theorem lt0(h:n<900):Lt m0 n:=⟨by show 0+n<900;rw[Nat.zero_add];exact h,by show 0+n<900;rw[Nat.zero_add];exact h⟩
theorem qkc(X Y:Dm)(e:Int)(m:M):Gr m (j6 X Y e m).2 6:=(qey (X,Y) e m).trans (xX ..)
theorem xY(h:jT zz m2.ks w)(e:kR m m2):jT zz m.ks w:=by obtain⟨l,e⟩:=e;rw[e] at h;exact h.cut
section
variable {d:Nat}{X Y:Dm}{tl:List AObj}{m:M}{pk:List Int}{top:Bool}{J:Env}{pa:AV}{e:Int}{a b:Ask}{cl:List Tr}
theorem qky(hX:X∈wc)(hY:Y∈wc)(hI:zU (X,Y) zz (gI cl) m)(hS:Sh (X,Y) m 3)(hl:Lt m 100)(hB:XT (X,Y) pa tl m BL)(hzl:zl<m.size)(hlast:∀w,jT zz m.ks w→ql w 0∈qi X→ql w 1∈qi Y→ql w zl=if ql w 0≤e then ql w 0 else qM X - 1)(hcl:∀w,jT zz m.ks w→ql w 0∈qi X→ql w 1∈qi Y→cl.all (λt=>jk t w) = !(top&&(a.N.due (ql w 0) (ql w 1) == 0||b.N.due (ql w 0) (ql w 1) == 0)))(ha:∀w,w.length=m.size→jT zz m.ks w→ql w 0∈qi X→ql w 1∈qi Y→(top&&(a.N.due (ql w 0) (ql w 1) == 0||b.N.due (ql w 0) (ql w 1) == 0))=false→AskOk a w (ql w 0) (ql w 1) top∧AskOk b w (ql w 0) (ql w 1) top)(hx:x∈qi X)(hy:y∈qi Y):KS (d+2) ⟨gm (X,Y) pa tl m,false⟩ BL a b top e (qM X - 1) zl x y:=by
 have hm:=hS.mok hl;have hw:=qlc hm hS.lt hI (hS.dom.ok hx hy) hx hy (λk hk=>(hS.kd k hk).srt);have hrun:=qld (d:=d) (st:=false) hm hB ((zx hX).2 x hx) ((zx hY).2 y hy) (λk hk=>qlb hS.has hS.lt hS.kd hS.cnt k hk);obtain⟨c1,c2,_⟩:=Zl (u:=[x,y]) hS.lt;have hx0:ql (kh m.ks x y) 0=x:=c2 0 (Nat.succ_pos 1);have hy0:ql (kh m.ks x y) 1=y:=c2 1 (zY 1);have ht:=Qc (x:=x) (y:=y) hS.lt;have hc:=hcl _ ht (by rw[hx0];exact hx) (by rw[hy0];exact hy);have hlen:(kh m.ks x y).length=m.size:=c1;have hL:=hlast _ ht (by rw[hx0];exact hx) (by rw[hy0];exact hy);have hA:=ha _ hlen ht (by rw[hx0];exact hx) (by rw[hy0];exact hy);rw[hx0,hy0] at hc hA;rw[hx0] at hL;rw[hc] at hw;refine⟨_,hrun,?_,λh=>?_⟩
 ·rw[hw];induction top&&(a.N.due x y == 0||b.N.due x y == 0) <;> rfl
 ·obtain⟨a1,b1⟩:=hA h
  rw[h] at hw;exact⟨_,hw,by rw[hlen];exact hl.size,by rw[hlen];exact hzl,hL,a1,b1⟩
theorem qeH(h:LN J pk X Y top)(hX:X∈wc)(hY:Y∈wc)(hp:pk.length=10)(hI:zU (X,Y) zz (gI cl) m)(hS:Sh (X,Y) m 2)(hl:Lt m 200)(htl:tl = .list [.pv a.pv,.pv b.pv]::rest)(aa:ja a.N.a∧ja a.N.b)(bb:ja b.N.a∧ja b.N.b)(na:a.nt.length≤1)(nb:b.nt.length≤1)(hcl:∀w,jT zz m.ks w→ql w 0∈qi X→ql w 1∈qi Y→cl.all (λt=>jk t w) = !(top&&(a.N.due (ql w 0) (ql w 1) == 0||b.N.due (ql w 0) (ql w 1) == 0)))(ha:∀w,m.size≤w.length→jT zz m.ks w→ql w 0∈qi X→ql w 1∈qi Y→(top&&(a.N.due (ql w 0) (ql w 1) == 0||b.N.due (ql w 0) (ql w 1) == 0))=false→AskOk a w (ql w 0) (ql w 1) top∧AskOk b w (ql w 0) (ql w 1) top):
  ∃J' U,qy (qH P (qf P (d+7))) (.cons xr (.cons xt (.cons xu (.cons xw (.cons (.forS (.nm 22) (.it (.attr (.attr (.var 106) 47) 15)) (.cons xP .nil)) (.cons (.forS (.nm 25) (.it (.sub (.var 90) (.int 0))) xp) (.cons (.ret (.bool true)) .nil))))))) J ⟨gm (X,Y) pa tl m,false⟩=some ((.ret (.pv (.bool true)),J'),U):=by
 obtain⟨e,J1,n1,g1,g2,g3,r1⟩:=qmA (d:=d) (pa:=pa) (tl:=tl) h hX hY hp (hl.le (show 20≤200 by decide));obtain⟨i1,s1,z1,v1⟩:=qkd (e:=e) hX hI hS (hl.le (show 10≤200 by decide));have hg:=qkc X Y e m;have l4:Lt (j6 X Y e m).2 100:=hg.lt (k:=100) (hl.le (by decide));obtain⟨J2,n2,le2,b2,r2⟩:=qnH (d:=d) (pa:=pa) (tl:=tl++[zg,zg]) n1 ⟨g1,g2,g3⟩ s1.ts (l4.le (show 10≤100 by decide));subst htl;have hpair:∀x∈qi X,∀y∈qi Y,KS (d+6) ⟨gm (X,Y) pa (.list [.pv a.pv,.pv b.pv]::rest++[zg,zg]++vX (j6 X Y e m).2.ts (j6 X Y e m).2.size) (j6 X Y e m).2,false⟩ _ a b top e (qM X - 1) (j6 X Y e m).1 x y:=λx hx y hy =>
  qky (d:=d+4) hX hY i1 s1 l4 qnG z1 v1 (λw hw q1 q2=>hcl w (xY hw hg.ext) q1 q2) (λw hwl hw q1 q2 q3=>ha w (by rw[hwl];exact hg.size) (xY hw hg.ext) q1 q2 q3) hx hy
 obtain⟨J3,e3⟩:=qle (d:=d+6) (pa:=pa) (top:=top) (pk:=pk) (X:=X) (a:=a) (b:=b) ⟨rfl,rfl,aa,bb,na,nb⟩ hY (xs:=qi X) (λx hx=>⟨(zx hX).2 x hx,hpair x hx⟩) ⟨n2,le2,b2⟩;refine⟨J3,⟨gm (X,Y) pa (.list [.pv a.pv,.pv b.pv]::rest++[zg,zg]++vX (j6 X Y e m).2.ts (j6 X Y e m).2.size) (j6 X Y e m).2,false⟩,?_⟩;rw[r1,r2];exact qL (wN (zW (qT (qg n2.ls) rfl rfl) (vS (by rw[(zx hX).1];decide))) e3) (qK (SR rfl))
end
theorem qmq{C:Ctx}{J1 J2 J3:Env}{s1 s2 s3:St}{r:CSs}{R:R (Flow×Env)}(h1:qy C vC (J1.put 9 (.pv (.int 1))) s1=some ((.next,J2),s2))(h2:qy C vC (J2.put 9 (.pv (.int 4))) s2=some ((.next,J3),s3))(h:qy C r J3 s3=R):
  qy C (.cons (.forS (.nm 9) (.it (.tup (.cons (.int 1) (.cons (.int 4) .nil)))) vC) r) J1 s1=R :=
 qL (wN rfl (zJ rfl h1 (zn rfl (zJ rfl h2 (zn rfl Zg))))) (qK h)
theorem qkL(d:Nat)(hX:X∈wc)(hY:Y∈wc)(hp:pk.length=10)(h:LN J pk X Y true):
  ∃J' U,qy (qH P (qf P (d+7))) (.cons (.forS (.nm 9) (.it (.tup (.cons (.int 1) (.cons (.int 4) .nil)))) vC) (.cons gk (.cons qdv (.cons gn (.cons gp (.cons xr (.cons xt (.cons xu (.cons xw (.cons (.forS (.nm 22) (.it (.attr (.attr (.var 106) 47) 15)) (.cons xP .nil)) (.cons (.forS (.nm 25) (.it (.sub (.var 90) (.int 0))) xp) (.cons (.ret (.bool true)) .nil)))))))))))) J ⟨gm (X,Y) (.pv .none) [.list []] m0,false⟩=some ((.ret (.pv (.bool true)),J'),U):=by
 obtain⟨N1,J1,p1,e1,n1⟩:=qbH (d:=d) (rest:=[]) (asked:=[]) (m:=m0) (h.put (i:=9) (v:=.pv (.int 1)) rfl) hX hY hp (k:=1) (by decide) qn (lt0 (by decide)) (by decide) (by decide);obtain⟨cl1,i1,s1,v1,z1,q1⟩:=qao p1 (qmj _) (sh0 _) (lt0 (show 10<900 by decide));have g1:=YD (X,Y) N1.s m0;have l1:Lt (jr (X,Y) N1.s m0) 800:=g1.lt (lt0 (by decide));have k1:(jr (X,Y) N1.s m0).ks.length≤3:=by obtain⟨⟨l,q,r⟩,_⟩:=g1;rw[q];exact r
 obtain⟨N2,J2,p2,e2,n2⟩:=qbH (d:=d) (rest:=[zh (qi X) (qi Y)]) (asked:=[.pv (zG N1 (qB N1.s m0).1 [] (wy (zb (qi X) (qi Y) N1)))]) (m:=jr (X,Y) N1.s m0) (n1.put (i:=9) (v:=.pv (.int 4)) rfl) hX hY hp (k:=4) (by decide) qn (l1.le (by decide)) (qP k1 (by decide)) (qP (jG rfl:_≤1) (by decide));obtain⟨cl2,i2,s2,v2,z2,q2⟩:=qao p2 i1 s1 (l1.le (show 10≤800 by decide));have g2:=YD (X,Y) N2.s (jr (X,Y) N1.s m0);have l2:Lt (jr (X,Y) N2.s (jr (X,Y) N1.s m0)) 700:=g2.lt (l1.le (by decide));have k2:(jr (X,Y) N2.s (jr (X,Y) N1.s m0)).ks.length≤6:=by obtain⟨⟨l,q,r⟩,_⟩:=g2;rw[q,qU];exact yt k1 r
 have ha:=qgl g2.ext (s:=N1.s);obtain⟨cl3,i3,s3,v3,z3,q3⟩:=qao p1 i2 s2 (l2.le (show 10≤700 by decide));have g3:=YD (X,Y) N1.s (jr (X,Y) N2.s (jr (X,Y) N1.s m0));have l3:Lt (jr (X,Y) N1.s (jr (X,Y) N2.s (jr (X,Y) N1.s m0))) 600:=g3.lt (l2.le (by decide));rw[ha.1] at v3 z3;have hv2:=v2;have x23:kR (jr (X,Y) N2.s (jr (X,Y) N1.s m0)) (jr (X,Y) N1.s (jr (X,Y) N2.s (jr (X,Y) N1.s m0))):=g3.ext;have hd:∀w,jT zz (jr (X,Y) N1.s (jr (X,Y) N2.s (jr (X,Y) N1.s m0))).ks w→ql w 0∈qi X→ql w 1∈qi Y→(gI cl3 w ↔ N1.due (ql w 0) (ql w 1)≠0∧N2.due (ql w 0) (ql w 1)≠0):=λw hw hx hy=>by
  have t2:=xY hw x23;rw[q3 w hw hx hy,q2 w t2 hx hy,q1 w (xY t2 g2.ext) hx hy];exact⟨by rintro ⟨⟨_,a⟩,b⟩;exact⟨b,a⟩,by rintro ⟨a,b⟩;exact⟨⟨⟨rfl,a⟩,b⟩,a⟩⟩
 have sh:Sh (X,Y) (jr (X,Y) N1.s (jr (X,Y) N2.s (jr (X,Y) N1.s m0))) 2:=⟨s3.lt,s3.has,s3.kd,s3.ts,s3.dom,qu s3.cnt (by decide)⟩
 have v2':wV (jr (X,Y) N1.s (jr (X,Y) N2.s (jr (X,Y) N1.s m0))).ks N2.s (qB N2.s (jr (X,Y) N1.s m0)).1:=by obtain⟨l,q⟩:=x23;rw[q];exact v2.more
 have z2':=q6 z2 g3.size;obtain⟨J4,U,e4⟩:=qeH (d:=d) (pa:=.pv .none) (tl:=.list [.pv (zG N1 (qB N1.s m0).1 [] (wy (zb (qi X) (qi Y) N1))),.pv (zG N2 (qB N2.s (jr (X,Y) N1.s m0)).1 [] (wy (zb (qi X) (qi Y) N2)))]::([zh (qi X) (qi Y)]++[zh (qi X) (qi Y)])) (top:=true)
  (a:=⟨N1,(qB N1.s m0).1,[],wy (zb (qi X) (qi Y) N1)⟩) (b:=⟨N2,(qB N2.s (jr (X,Y) N1.s m0)).1,[],wy (zb (qi X) (qi Y) N2)⟩) n2.g21 hX hY hp i3 sh (l3.le (show 200≤600 by decide)) rfl ⟨kU p1.a,kU p1.b⟩ ⟨kU p2.a,kU p2.b⟩ (j4 _) (j4 _)
  (λw hw hx hy=>by
   have:=hd w hw hx hy;show cl3.all _ = !(N1.due _ _ == 0||N2.due _ _ == 0)
   rw[Bool.eq_iff_iff];refine this.trans ?_;simp)
  (λw hwl hw hx hy hq=>by
   obtain⟨d1,d2⟩:=Zd.mp (show(N1.due (ql w 0) (ql w 1) == 0||N2.due (ql w 0) (ql w 1) == 0)=false from hq);have d1:=beq_eq_false_iff_ne.mp d1;have d2:=beq_eq_false_iff_ne.mp d2;exact⟨⟨q6 z3 hwl,by rw[if_pos d1,←QT];exact v3.val hw (λh=>h),λt q=>(nomatch q),λq=>(nomatch q)⟩,⟨q6 z2' hwl,by rw[if_pos d2,←QT];exact v2'.val hw (λh=>h),λt q=>(nomatch q),λq=>(nomatch q)⟩⟩)
 exact⟨J4,U,qmq e1 e2 (qdY (d:=d) n2 p1 (l2.le (by decide)) (qP k2 (by decide)) ha e4)⟩
theorem qkK(d:Nat)(hX:X∈wc)(hY:Y∈wc)(hp:pk.length=10)(h:LN J pk X Y false):
  ∃J' U,qy (qH P (qf P (d+7))) (.cons (.forS (.nm 9) (.it (.tup (.cons (.int 1) (.cons (.int 4) .nil)))) vC) (.cons gk (.cons qdv (.cons gn (.cons gp (.cons xr (.cons xt (.cons xu (.cons xw (.cons (.forS (.nm 22) (.it (.attr (.attr (.var 106) 47) 15)) (.cons xP .nil)) (.cons (.forS (.nm 25) (.it (.sub (.var 90) (.int 0))) xp) (.cons (.ret (.bool true)) .nil)))))))))))) J ⟨gm (X,Y) (.ref 6) [.list [],.list []] m0,false⟩=some ((.ret (.pv (.bool true)),J'),U):=by
 obtain⟨N1,J1,p1,e1,n1⟩:=qbG (d:=d) (rest:=[]) (asked:=[]) (part:=[]) (m:=m0) (h.put (i:=9) (v:=.pv (.int 1)) rfl) hX hY hp (k:=1) (by decide) qn (lt0 (by decide)) (by decide) (j4 _);obtain⟨i1,s1,z1,t1,q1⟩:=qfn p1 (qmj (X,Y)) (sh0 _) (lt0 (show 10<900 by decide));have g1:=qaV (X,Y) N1.s m0;have l1:Lt (jU (X,Y) N1.s m0).2 800:=g1.lt (lt0 (by decide));have nl:∀N m,(zd (X,Y) N m).length≤1:=λN m=>by unfold zd;induction gK (X,Y) N <;> exact jG rfl
 have hp1:([]++jY (zd (X,Y) N1.s m0)).length≤1:=by rw[List.nil_append,jY,qE];exact nl _ _
 obtain⟨N2,J2,p2,e2,n2⟩:=qbG (d:=d) (rest:=[zh (qi X) (qi Y)]) (asked:=[.pv (zG N1 (jU (X,Y) N1.s m0).1 (zd (X,Y) N1.s m0) (wy (zb (qi X) (qi Y) N1)))]) (part:=[]++jY (zd (X,Y) N1.s m0)) (m:=(jU (X,Y) N1.s m0).2) (n1.put (i:=9) (v:=.pv (.int 4)) rfl) hX hY hp (k:=4) (by decide) qn (l1.le (by decide)) (qP (jG rfl:_≤1) (by decide)) (qu hp1 (by decide));obtain⟨i2,s2,z2,t2,q2⟩:=qfn p2 i1 s1 (l1.le (show 10≤800 by decide));have g2:=qaV (X,Y) N2.s (jU (X,Y) N1.s m0).2;have l2:Lt (jU (X,Y) N2.s (jU (X,Y) N1.s m0).2).2 700:=g2.lt (l1.le (by decide));have ha:=qfm g2.ext (s:=N1.s);have hp2:([]++jY (zd (X,Y) N1.s m0)++jY (zd (X,Y) N2.s (jU (X,Y) N1.s m0).2)).length≤3:=by rw[qU];exact qu (yt hp1 (by rw[jY,qE];exact nl _ _)) (by decide)
 obtain⟨J4,U,e4⟩:=qeH (d:=d) (pa:=.ref 6) (m:=(jU (X,Y) N2.s (jU (X,Y) N1.s m0).2).2) (cl:=[]) (tl:=.list [.pv (zG N1 (jU (X,Y) N1.s m0).1 (zd (X,Y) N1.s m0) (wy (zb (qi X) (qi Y) N1))),.pv (zG N2 (jU (X,Y) N2.s (jU (X,Y) N1.s m0).2).1 (zd (X,Y) N2.s (jU (X,Y) N1.s m0).2) (wy (zb (qi X) (qi Y) N2)))]::.list ([]++jY (zd (X,Y) N1.s m0)++jY (zd (X,Y) N2.s (jU (X,Y) N1.s m0).2)++jY (zd (X,Y) N1.s m0))::([zh (qi X) (qi Y)]++[zh (qi X) (qi Y)])) (top:=false)
  (a:=⟨N1,(jU (X,Y) N1.s m0).1,zd (X,Y) N1.s m0,wy (zb (qi X) (qi Y) N1)⟩) (b:=⟨N2,(jU (X,Y) N2.s (jU (X,Y) N1.s m0).2).1,zd (X,Y) N2.s (jU (X,Y) N1.s m0).2,wy (zb (qi X) (qi Y) N2)⟩) n2.g21 hX hY hp i2 s2 (l2.le (show 200≤700 by decide)) rfl ⟨kU p1.a,kU p1.b⟩ ⟨kU p2.a,kU p2.b⟩ (nl _ _) (nl _ _)
  (λw B B B=>rfl)
  (λw hwl hw hx hy B=>by
   obtain⟨a1,b1⟩:=q1 w (xY hw g2.ext) hx hy;obtain⟨a2,b2⟩:=q2 w hw hx hy;exact⟨⟨q6 z1 (qu g2.size hwl),a1,λt q=>(t1 t q).mono (qu g2.size hwl),λB=>b1⟩,⟨q6 z2 hwl,a2,λt q=>(t2 t q).mono hwl,λB=>b2⟩⟩)
 exact⟨J4,U,qmq e1 e2 (qdX (d:=d) n2 p1 (l2.le (by decide)) ha hp2 e4)⟩
theorem run(ns:List Int)(h:ns.length≤63):∃U,qf P 30 45 [.pv (.lst (qj ns))] ⟨[],false⟩=some (.pv (.bool true),U):=by
 obtain⟨X,hX,Y,hY,top,J,n,e⟩:=qmT 22 h;have hp:(yX ns).length=10:=by unfold yX;rw[qE,List.length_range]
 have fin:∀J' U,qy (qH P (qf P (22+7))) qbJ [(104,.pv (.lst (qj ns)))] ⟨[],false⟩=some ((.ret (.pv (.bool true)),J'),U)→∃U,qf P 30 45 [.pv (.lst (qj ns))] ⟨[],false⟩=some (.pv (.bool true),U):=λJ' U q=>by
  refine⟨⟨U.heap,false⟩,?_⟩;show qf P (29+1) 45 _ _=_
  apply qD (q:=(.ret (.pv (.bool true)),J')) (s':=U) f45 rfl rfl rfl
  ·exact q
  ·exact rfl
 induction top with
 |true=>obtain⟨J',U,q⟩:=qkL 22 hX hY hp n;exact fin J' U ((e _).trans q)
 |false=>obtain⟨J',U,q⟩:=qkK 22 hX hY hp n;exact fin J' U ((e _).trans q)
end Mine.L1
end
open PySem PySem.W PyProof.Rows
set_option maxRecDepth 100000 in
set_option maxHeartbeats 0 in
theorem PySem.Challenge.cw_qd0025_01_holds : PySem.Challenge.rw_qd0025_01.Holds := by
  w_on
  refine holds_law Mine.L1.qnk λqnk => ?_;refine holds_open (q := Mine.L1.q) (loose := Mine.L1.loose) (Xt :=λs => xlAt Mine.L1.q [] s && recOk PySem.Challenge.rw_qd0025_01.row.toRowW.records s) (XP := XL Mine.L1.q []) (Yf := Mine.L1.H.obs) (Ya := Mine.L1.H.val) (YP := Mine.L1.H.says) (N := 6000)
    Mine.L1.left Mine.L1.H.of Mine.L1.H.keeps (λs e => xl_of s (Bool.and_eq_true_iff.mp e).1) XL.keeps (by rfl) (by rfl) (by rfl) (λs e => recFacts_of (Bool.and_eq_true_iff.mp e).2) (by rfl) (by assumption) (by decide +kernel) ⟨rfl, rfl, rfl, rfl, rfl, by decide +kernel⟩ ?hw ?hc
  (case hw => w_witness2)
  w_strict (
    intro w s₀ s₁ mg mb G Y fa o pm cd doc dV kV ho hd hcd hD hmg hg args vals as hpre hlay hrd hwl hlo;obtain ⟨K, KX, hK⟩ := Y;obtain ⟨hK1, hK2, hK3, hK4, hK5⟩ := Mine.qco hK;refine Ground.open G ?_;intro T B D TE TW;wrow_args hpre hlay hrd hwl hlo
    all_goals (
      refine enter_call ?_;refine codeAny_mono ?_ (λB B g => GoodW.toG g);clear hcd hD hd;refine Mine.RowD.ends (D := Mine.L1.D) (S := Mine.L1.S) (lawI := 45) (dep := 30) T KX hg hmg hK1 (by decide) (by decide +kernel) hK2 hK3 hK4 hK5 (by decide) (by assumption) (by assumption) (Mine.L1.run _ ?_) (raisesW_false ?_) ?_
      · omega
      · wrow_none_raised
      · wrow_post))
