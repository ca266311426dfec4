import PyProof.Rows.All
import Wide.All
import OpenK.AllK
import Wide.FinOn
import OpenK.KCall
import PyProof.Rows.SetFrom
import KE.KDictSum
import KE.KSuper
import Lean
import PySem.Challenge.RW_qd0025_03
set_option Elab.async false
set_option autoImplicit false
set_option maxRecDepth 100000
set_option linter.all false
set_option compiler.extract_closed false
set_option genSizeOf false
set_option bootstrap.genMatcherCode false
section
open PySem
namespace Mine
inductive PV where
 | none
 | bool (b:Bool)
 | int (i:Int)
 | str (s:Str)
 | tup (l:List PV)
 | lst (l:List PV)
inductive AV where
 | pv (p:PV)
 | ref (i:Nat)
 | tupR (l:List AV)
 | lstR (l:List AV)
inductive AObj where
 | list (l:List AV)
 | dictI (kvs:List (Int × AV))
 | dictS (kvs:List (Str × AV))
 | dictT (kvs:List (PV × AV))
 | inst (c:Nat) (attrs:List (Nat × AV))
 | dead
structure St where
 heap:List AObj
 strict:Bool
noncomputable def ob {α β:Type} (o:Option α) (k:α→Option β):Option β:=match o with
 | none=>none
 | some a=>k a
noncomputable def isNoneP:PV→Bool
 | .none=>true
 | _=>false
noncomputable def eqB (a:Bool):PV→Bool
 | .bool b=>a == b
 | .int b=>(if a then 1 else 0) == b
 | _=>false
noncomputable def eqI (a:Int):PV→Bool
 | .int b=>a == b
 | .bool b=>a == (if b then 1 else 0)
 | _=>false
noncomputable def eqS (a:Str):PV→Bool
 | .str b=>a == b
 | _=>false
noncomputable def tupP:PV→Option (List PV)
 | .tup l=>some l
 | _=>none
noncomputable def lstP:PV→Option (List PV)
 | .lst l=>some l
 | _=>none
mutual
noncomputable def pyEq:PV→PV→Bool
 | .none,q=>isNoneP q
 | .bool a,q=>eqB a q
 | .int a,q=>eqI a q
 | .str a,q=>eqS a q
 | .tup a,q=>match tupP q with
  | some b=>pyEqs a b
  | none=>false
 | .lst a,q=>match lstP q with
  | some b=>pyEqs a b
  | none=>false
noncomputable def pyEqs:List PV→List PV→Bool
 | [],m=>m.isEmpty
 | a::l,m=>match m with
  | []=>false
  | b::m=>pyEq a b&&pyEqs l m
end
noncomputable def sameB (a:Bool):PV→Bool
 | .bool b=>a == b
 | _=>false
noncomputable def sameI (a:Int):PV→Bool
 | .int b=>a == b
 | _=>false
mutual
noncomputable def PV.same:PV→PV→Bool
 | .none,q=>isNoneP q
 | .bool a,q=>sameB a q
 | .int a,q=>sameI a q
 | .str a,q=>eqS a q
 | .tup a,q=>match tupP q with
  | some b=>PV.sames a b
  | Option.none=>false
 | .lst a,q=>match lstP q with
  | some b=>PV.sames a b
  | Option.none=>false
noncomputable def PV.sames:List PV→List PV→Bool
 | [],m=>m.isEmpty
 | a::l,m=>match m with
  | []=>false
  | b::m=>PV.same a b&&PV.sames l m
end
noncomputable def asP:AV→Option PV
 | .pv p=>some p
 | _=>none
noncomputable def asRef:AV→Option Nat
 | .ref i=>some i
 | _=>none
noncomputable def asTupR:AV→Option (List AV)
 | .tupR i=>some i
 | _=>none
noncomputable def asLstR:AV→Option (List AV)
 | .lstR i=>some i
 | _=>none
mutual
noncomputable def AV.same:AV→AV→Bool
 | .pv a,w=>match asP w with
  | some b=>a.same b
  | none=>false
 | .ref a,w=>match asRef w with
  | some b=>a == b
  | none=>false
 | .tupR a,w=>match asTupR w with
  | some b=>AV.sames a b
  | none=>false
 | .lstR a,w=>match asLstR w with
  | some b=>AV.sames a b
  | none=>false
noncomputable def AV.sames:List AV→List AV→Bool
 | [],m=>m.isEmpty
 | a::l,m=>match m with
  | []=>false
  | b::m=>AV.same a b&&AV.sames l m
end
noncomputable def toPVs:List AV→Option (List PV)
 | []=>some []
 | .pv p::r=>(toPVs r).map (p::·)
 | _::_=>none
noncomputable def mkTup (l:List AV):AV:=match toPVs l with | some ps=>.pv (.tup ps) | none=>.tupR l
noncomputable def mkLst (l:List AV):AV:=match toPVs l with | some ps=>.pv (.lst ps) | none=>.lstR l
noncomputable def itemsOf (σ:St):AV→Option (List AV)
 | .pv (.tup l)=>some (l.map .pv)
 | .pv (.lst l)=>some (l.map .pv)
 | .tupR l=>some l
 | .lstR l=>some l
 | .ref i=>match σ.heap[i]? with | some (.list l)=>some l | _=>none
 | _=>none
noncomputable def isTupV:AV→Bool
 | .pv (.tup _)=>true
 | .tupR _=>true
 | _=>false
noncomputable def isLstV:AV→Bool
 | .pv (.lst _)=>true
 | .lstR _=>true
 | .ref _=>true
 | _=>false
noncomputable def isRef:AV→Bool
 | .ref _=>true
 | _=>false
noncomputable def asPV (σ:St):AV→Option PV
 | .pv p=>some p
 | .ref i=>match σ.heap[i]? with | some (.list l)=>(toPVs l).map .lst | _=>none
 | _=>none
noncomputable def St.set (σ:St) (i:Nat) (o:AObj):St:={ σ with heap:=σ.heap.set i o }
noncomputable def St.new (σ:St) (o:AObj):AV × St:=(.ref σ.heap.length,{ σ with heap:=σ.heap++[o] })
noncomputable def big:Nat:=100000
noncomputable def bigInt:Int:=10 ^ 1001
inductive Op where | add | sub | mul | fdiv | mod | pow
inductive Cmp where | eq | ne | lt | ge | inn | notin | is
inductive BI where | len | abs | int | str | max1 | min1 | max2 | min2 | tuple | isBool | sorted | sortedSet
inductive BM where | append | sort | get2 | setdefault
inductive DK where | i | s | t
set_option genInjectivity false in
set_option genCtorIdx false in
mutual
inductive CE where
 | none
 | bool (b:Bool)
 | int (i:Int)
 | str (s:Str)
 | var (x:Nat)
 | glob (g:Nat)
 | tup (es:CEs)
 | list (m:Bool) (es:CEs)
 | dict (k:DK) (kvs:CEs)
 | bin (o:Op) (m:Bool) (a b:CE)
 | not (a:CE)
 | and (es:CEs)
 | or (es:CEs)
 | cmp (o:Cmp) (a b:CE)
 | ife (t a b:CE)
 | call (f:Nat) (es:CEs)
 | meth (a:CE) (m:Nat) (es:CEs)
 | new (c:Nat) (es:CEs)
 | bm (k:BM) (a:CE) (es:CEs)
 | bi (k:BI) (es:CEs)
 | attr (a:CE) (m:Nat)
 | sub (a i:CE)
 | slice (a:CE) (lo hi:CO)
 | comp (xs:List Nat) (c:CL)
 | fstr (ps:CEs)
 | stuck
inductive CEs where
 | nil
 | cons (e:CE) (r:CEs)
inductive CO where
 | none
 | some (e:CE)
inductive CI where
 | it (e:CE)
 | range1 (a:CE)
 | range2 (a b:CE)
 | zip (a b:CE)
inductive CL where
 | elt (e:CE)
 | cons (t:CT) (it:CI) (ifs:CEs) (more:CL)
inductive CT where
 | nm (x:Nat)
 | tup (ts:CTs)
inductive CTs where
 | nil
 | cons (t:CT) (r:CTs)
end
mutual
inductive CS where
 | assign (t:CT) (e:CE)
 | setAttr (a:CE) (m:Nat) (e:CE)
 | setSub (a i e:CE)
 | expr (e:CE)
 | ret (e:CE)
 | retNone
 | ifS (t:CE) (a b:CSs)
 | forS (t:CT) (it:CI) (b:CSs)
 | superInit (c f x:Nat)
 | stuck
inductive CSs where
 | nil
 | cons (s:CS) (r:CSs)
end
noncomputable abbrev Env:=List (Nat × AV)
noncomputable def Env.get:Env→Nat→Option AV
 | [],_=>none
 | (j,v)::r,i=>bif j == i then some v else Env.get r i
noncomputable def Env.put (i:Nat) (v:AV):Env→Env
 | []=>[(i,v)]
 | (j,w)::r=>bif j == i then (i,v)::r else (j,w)::Env.put i v r
noncomputable def Env.del (xs:List Nat):Env→Env
 | []=>[]
 | (j,w)::r=>bif xs.contains j then Env.del xs r else (j,w)::Env.del xs r
noncomputable abbrev R (α:Type):=Option (α × St)
noncomputable def bnd {α β:Type} (x:R α) (k:α→St→R β):R β:=match x with | none=>none | some (a,s)=>k a s
noncomputable def lift {α:Type} (x:Option α) (s:St):R α:=match x with | none=>none | some a=>some (a,s)
structure Ctx where
 call:Nat→List AV→St→R AV
 meth:Nat→Nat→Option Nat
 init:Nat→Option (Option Nat)
 glob:Nat→Option PV
noncomputable def seqOf:AV→Option (List AV)
 | .pv (.tup l)=>some (l.map .pv)
 | .pv (.lst l)=>some (l.map .pv)
 | .tupR l=>some l
 | .lstR l=>some l
 | _=>none
mutual
noncomputable def bindT:CT→AV→Env→Option Env
 | .nm x,v,Γ=>some (Γ.put x v)
 | .tup ts,v,Γ=>ob (seqOf v) fun l=>bindTs ts l Γ
noncomputable def bindTs:CTs→List AV→Env→Option Env
 | .nil,l,Γ=>match l with
  | []=>some Γ
  | _::_=>none
 | .cons t r,l,Γ=>match l with
  | []=>none
  | v::vs=>ob (bindT t v Γ) fun Γ'=>bindTs r vs Γ'
end
mutual
noncomputable def freshT:CT→Env→Bool
 | .nm x,Γ=>(Γ.get x).isNone
 | .tup ts,Γ=>freshTs ts Γ
noncomputable def freshTs:CTs→Env→Bool
 | .nil,_=>true
 | .cons t r,Γ=>freshT t Γ&&freshTs r Γ
end
noncomputable def truthV:AV→Option Bool
 | .pv (.bool b)=>some b
 | _=>none
noncomputable def pyIdx (k:Int) (n:Nat):Option Nat :=
 if 0≤k then (if k<n then some k.toNat else none) else (if 0≤k+n then some (k+n).toNat else none)
noncomputable def lookK {κ:Type} [DecidableEq κ] (k:κ):List (κ × AV)→Option AV
 | []=>none
 | (j,v)::r=>if j=k then some v else lookK k r
noncomputable def lookT (k:PV):List (PV × AV)→Option AV
 | []=>none
 | (j,v)::r=>bif pyEq j k then some v else lookT k r
noncomputable def putK {κ:Type} [DecidableEq κ] (k:κ) (v:AV):List (κ × AV)→List (κ × AV)
 | []=>[(k,v)]
 | (j,w)::r=>if j=k then (j,v)::r else (j,w)::putK k v r
noncomputable def putT (k:PV) (v:AV):List (PV × AV)→List (PV × AV)
 | []=>[(k,v)]
 | (j,w)::r=>bif pyEq j k then (j,v)::r else (j,w)::putT k v r
mutual
noncomputable def keyOk:PV→Bool
 | .bool _ | .int _ | .str _=>true
 | .none=>false
 | .tup l=>keysOk l
 | .lst _=>false
noncomputable def keysOk:List PV→Bool
 | []=>true
 | a::r=>keyOk a&&keysOk r
end
noncomputable def isTupP:PV→Bool
 | .tup _=>true
 | _=>false
mutual
noncomputable def depthP:PV→Nat
 | .tup l=>depthPs l+1
 | .lst l=>depthPs l+1
 | _=>0
noncomputable def depthPs:List PV→Nat
 | []=>0
 | a::r=>max (depthP a) (depthPs r)
end
noncomputable def onInt {β:Type} (v:AV) (k:Int→Option β):Option β:=match v with
 | .pv (.int i)=>k i
 | _=>none
noncomputable def onStr {β:Type} (v:AV) (k:Str→Option β):Option β:=match v with
 | .pv (.str i)=>k i
 | _=>none
noncomputable def onRef {β:Type} (v:AV) (k:Nat→Option β):Option β:=match v with
 | .ref i=>k i
 | _=>none
noncomputable def onL {β:Type} (o:AObj) (k:List AV→Option β):Option β:=match o with
 | .list l=>k l
 | _=>none
noncomputable def onTup {β:Type} (v:AV) (k:List PV→Option β):Option β:=match v with
 | .pv (.tup i)=>k i
 | _=>none
noncomputable def on0 {β:Type} (vs:List AV) (k:Option β):Option β:=match vs with
 | []=>k
 | _::_=>none
noncomputable def on1 {β:Type} (vs:List AV) (k:AV→Option β):Option β:=match vs with
 | []=>none
 | v::r=>on0 r (k v)
noncomputable def on2 {β:Type} (vs:List AV) (k:AV→AV→Option β):Option β:=match vs with
 | []=>none
 | v::r=>on1 r (k v)
noncomputable def dictGet (o:AObj) (k:AV):Option (Option AV):=match o with
 | .dictI kvs=>onInt k fun i=>some (lookK i kvs)
 | .dictS kvs=>onStr k fun s=>some (lookK s kvs)
 | .dictT kvs=>onTup k fun l=>if keysOk l&&decide (depthPs l<6) then some (lookT (.tup l) kvs) else none
 | _=>none
noncomputable def dictPut (o:AObj) (k v:AV):Option AObj:=match o with
 | .dictI kvs=>onInt k fun i=>if kvs.length<big then some (.dictI (putK i v kvs)) else none
 | .dictS kvs=>onStr k fun s=>if kvs.length<big then some (.dictS (putK s v kvs)) else none
 | .dictT kvs=>onTup k fun l=>if kvs.length<big&&keysOk l&&decide (depthPs l<6) then some (.dictT (putT (.tup l) v kvs)) else none
 | _=>none
noncomputable def isPV:AV→Bool
 | .pv _=>true
 | _=>false
noncomputable def smallInt (a:Int):Bool:=decide (a.natAbs<10 ^ 1001)
noncomputable def binI (o:Op) (a b:Int):Option Int:=match o with
 | .add=>some (a+b)
 | .sub=>some (a - b)
 | .mul=>if smallInt a&&smallInt b then some (a * b) else none
 | .fdiv=>if b=0 then none else if b.natAbs<1073741824 then some (a.fdiv b) else none
 | .mod=>if b=0 then none else some (a.fmod b)
 | .pow=>if 0≤b&&decide (b≤1000)&&decide (a=10) then some (a ^ b.toNat) else none
noncomputable def isIntV:AV→Bool
 | .pv (.int _)=>true
 | _=>false
noncomputable def isStrV:AV→Bool
 | .pv (.str _)=>true
 | _=>false
noncomputable def evAdd (m:Bool) (v w:AV) (σ:St):R AV:=ob (itemsOf σ v) fun l=>ob (itemsOf σ w) fun r =>
   if isTupV v&&isTupV w then (if l.length+r.length≤big then some (mkTup (l++r),σ) else none)
   else if isLstV v&&isLstV w then (if l.length+r.length≤big then (if m then some (σ.new (.list (l++r))) else some (mkLst (l++r),σ)) else none)
   else none
noncomputable def isAdd:Op→Bool
 | .add=>true
 | _=>false
noncomputable def evBin (o:Op) (m:Bool) (v w:AV) (σ:St):R AV :=
 bif isIntV v then onInt v fun a=>onInt w fun b=>ob (binI o a b) fun c=>some (.pv (.int c),σ)
 else bif isAdd o then (bif isStrV v then onStr v fun a=>onStr w fun b=>if a.length+b.length≤big then some (.pv (.str (a++b)),σ) else none else evAdd m v w σ) else none
noncomputable def asPVs (σ:St):List AV→Option (List PV)
 | []=>some []
 | a::r=>match asPV σ a,asPVs σ r with | some p,some ps=>some (p::ps) | _,_=>none
noncomputable def anyP (x:PV):List PV→Bool
 | []=>false
 | p::r=>pyEq p x||anyP x r
noncomputable def anyEq (σ:St) (x:PV) (l:List AV):Option Bool:=(asPVs σ l).map (anyP x)
noncomputable def evEq (v w:AV) (σ:St):Option Bool:=ob (asPV σ v) fun p=>ob (asPV σ w) fun q=>if depthP p<20||depthP q<20 then some (pyEq p q) else none
noncomputable def evInL (σ:St) (v:AV) (l:List AV):Option Bool:=ob (asP v) fun p=>if depthP p<20 then anyEq σ p l else none
noncomputable def evInO (σ:St) (v:AV) (o:AObj):Option Bool:=match o with
 | .list l=>evInL σ v l
 | .dictI kvs=>(dictGet (.dictI kvs) v).map (·.isSome)
 | .dictS kvs=>(dictGet (.dictS kvs) v).map (·.isSome)
 | .dictT kvs=>(dictGet (.dictT kvs) v).map (·.isSome)
 | .inst _ _=>none
 | .dead=>none
noncomputable def evIn (v w:AV) (σ:St):Option Bool:=match asRef w with
 | some i=>ob (σ.heap[i]?) (evInO σ v)
 | none=>ob (itemsOf σ w) (evInL σ v)
noncomputable def isNoneV:AV→Bool
 | .pv .none=>true
 | _=>false
noncomputable def evCmp (o:Cmp) (v w:AV) (σ:St):Option Bool:=match o with
 | .eq=>evEq v w σ
 | .ne=>(evEq v w σ).map (!·)
 | .lt=>onInt v fun a=>onInt w fun b=>some (decide (a<b))
 | .ge=>onInt v fun a=>onInt w fun b=>some (decide (b≤a))
 | .inn=>evIn v w σ
 | .notin=>(evIn v w σ).map (!·)
 | .is=>bif isNoneV w then some (isNoneV v) else none
noncomputable def allInts:List AV→Option (List Int)
 | []=>some []
 | .pv (.int i)::r=>(allInts r).map (i::·)
 | _::_=>none
noncomputable def intsAV (l:List Int):List PV:=l.map .int
noncomputable def insI (a:Int):List Int→List Int
 | []=>[a]
 | b::r=>if a≤b then a::b::r else b::insI a r
noncomputable def sortI:List Int→List Int
 | []=>[]
 | a::r=>insI a (sortI r)
noncomputable def smallI (l:List Int):Bool:=l.all fun i=>decide (0≤i)&&decide (i<32)
noncomputable def incI (l:List Int):Bool:=match l with
 | []=>true
 | a::r=>match r with
  | []=>true
  | b::t=>decide (a<b)&&t.isEmpty
noncomputable def strP:PV→Option Str
 | .str l=>some l
 | _=>none
noncomputable def intP:PV→Option Int
 | .int l=>some l
 | _=>none
noncomputable def boolP:PV→Option Bool
 | .bool l=>some l
 | _=>none
noncomputable def bit3 (a b c:PV):Option (Int × Bool):=match strP a with
 | none=>none
 | some s=>match intP b with
  | none=>none
  | some n=>match boolP c with
   | none=>none
   | some t=>if s = "bit" then some (n,t) else none
noncomputable def three {α β:Type} (l:List α) (k:α→α→α→Option β):Option β:=match l with
 | []=>none
 | a::l=>match l with
  | []=>none
  | b::l=>match l with
   | []=>none
   | c::l=>match l with
    | []=>k a b c
    | _::_=>none
noncomputable def bitOf (p:PV):Option (Int × Bool):=match tupP p with
 | some l=>three l bit3
 | none=>none
noncomputable def bitsOf:List AV→Option (List (Int × Bool))
 | []=>some []
 | v::r=>match asP v with
  | none=>none
  | some p=>match bitOf p with
   | none=>none
   | some x=>match bitsOf r with
    | none=>none
    | some l=>some (x::l)
noncomputable def bitLt (x y:Int × Bool):Bool:=decide (x.1<y.1)||(decide (x.1=y.1)&&!x.2&&y.2)
noncomputable def insB (a:Int × Bool):List (Int × Bool)→List (Int × Bool)
 | []=>[a]
 | b::r=>if bitLt b a then b::insB a r else a::b::r
noncomputable def sortB:List (Int × Bool)→List (Int × Bool)
 | []=>[]
 | a::r=>insB a (sortB r)
noncomputable def bitPV (x:Int × Bool):PV:=.tup [.str "bit", .int x.1,.bool x.2]
noncomputable def sortAV (l:List AV):Option (List PV):=match allInts l with
 | some is=>if is.length≤3 then some (intsAV (sortI is)) else none
 | none=>match bitsOf l with
  | some bs=>if bs.length≤3 then some ((sortB bs).map bitPV) else none
  | none=>none
noncomputable def maxI:Int→List Int→Int
 | a,[]=>a
 | a,b::r=>maxI (if a<b then b else a) r
noncomputable def minI:Int→List Int→Int
 | a,[]=>a
 | a,b::r=>minI (if b<a then b else a) r
noncomputable def rangeI (a b:Int):List Int:=(List.range (b - a).toNat).map fun (k:Nat)=>a+(k:Int)
noncomputable def showInt (i:Int):Str:=Str.ofString (toString i)
noncomputable def onCons {α β:Type} (l:List α) (k:α→List α→Option β):Option β:=match l with
 | []=>none
 | a::r=>k a r
noncomputable def onInts {β:Type} (σ:St) (v:AV) (k:Int→List Int→Option β):Option β:=ob (itemsOf σ v) fun l=>ob (allInts l) fun is=>onCons is k
noncomputable def intOf:AV→Option Int
 | .pv (.int a)=>some a
 | .pv (.bool b)=>some (if b then 1 else 0)
 | _=>none
noncomputable def isBoolV:AV→Option Bool
 | .pv (.bool _)=>some true
 | .pv _=>some false
 | _=>none
noncomputable def lstOf (σ:St) (v:AV):Option (List AV):=if isLstV v then itemsOf σ v else none
noncomputable def setInts (l:List AV):Option (List Int):=ob (allInts l) fun is=>if incI is&&smallI is then some is else none
noncomputable def evBI (k:BI) (vs:List AV) (σ:St):R AV:=match k with
 | .len=>on1 vs fun v=>ob (itemsOf σ v) fun l=>if l.length≤big then some (.pv (.int l.length),σ) else none
 | .abs=>on1 vs fun v=>onInt v fun a=>some (.pv (.int a.natAbs),σ)
 | .int=>on1 vs fun v=>ob (intOf v) fun i=>some (.pv (.int i),σ)
 | .str=>on1 vs fun v=>onInt v fun a=>if a.natAbs<10 ^ 10 then some (.pv (.str (showInt a)),σ) else none
 | .max1=>on1 vs fun v=>onInts σ v fun a r=>some (.pv (.int (maxI a r)),σ)
 | .min1=>on1 vs fun v=>onInts σ v fun a r=>some (.pv (.int (minI a r)),σ)
 | .max2=>on2 vs fun v w=>onInt v fun a=>onInt w fun b=>some (.pv (.int (if a<b then b else a)),σ)
 | .min2=>on2 vs fun v w=>onInt v fun a=>onInt w fun b=>some (.pv (.int (if b<a then b else a)),σ)
 | .tuple=>on1 vs fun v=>ob (lstOf σ v) fun l=>if l.length≤big then some (mkTup l,σ) else none
 | .isBool=>on1 vs fun v=>ob (isBoolV v) fun b=>some (.pv (.bool b),σ)
 | .sorted=>on1 vs fun v=>ob (lstOf σ v) fun l=>ob (sortAV l) fun r=>some (.pv (.lst r),σ)
 | .sortedSet=>on1 vs fun v=>ob (lstOf σ v) fun l=>ob (setInts l) fun is=>some (.pv (.lst (intsAV is)),σ)
noncomputable def isDictI:AObj→Bool
 | .dictI kvs=>decide (kvs.length<big)
 | _=>false
noncomputable def setdef (σ:St) (i:Nat) (o:AObj) (k d:AV):R AV:=bif isDictI o then ob (dictGet o k) fun r=>match r with
 | some v=>some (v,σ)
 | none=>bif isPV d||!σ.strict then ob (dictPut o k d) fun o'=>some (d,σ.set i o') else none
 else none
noncomputable def get2 (σ:St) (o:AObj) (k d:AV):R AV:=ob (dictGet o k) fun r=>some (r.getD d,σ)
noncomputable def evBMo (k:BM) (i:Nat) (o:AObj) (vs:List AV) (σ:St):R AV:=match k with
 | .append=>on1 vs fun v=>onL o fun l=>if (isPV v||!σ.strict)&&decide (l.length<big) then some (.pv .none,σ.set i (.list (l++[v]))) else none
 | .sort=>on0 vs (onL o fun l=>ob (sortAV l) fun r=>some (.pv .none,σ.set i (.list (r.map .pv))))
 | .get2=>on2 vs fun k d=>get2 σ o k d
 | .setdefault=>on2 vs fun k d=>setdef σ i o k d
noncomputable def evBM (k:BM) (a:AV) (vs:List AV) (σ:St):R AV:=onRef a fun i=>ob (σ.heap[i]?) fun o=>evBMo k i o vs σ
noncomputable def isLO:AObj→Bool
 | .list _=>true
 | _=>false
noncomputable def isDO:AObj→Bool
 | .dictI _=>true
 | .dictS _=>true
 | .dictT _=>true
 | _=>false
noncomputable def isLM:BM→Bool
 | .append=>true
 | .sort=>true
 | _=>false
noncomputable def bmOk (k:BM) (v:AV) (σ:St):Bool:=match v with
 | .ref i=>match σ.heap[i]? with
  | some o=>bif isLM k then isLO o else isDO o
  | none=>false
 | _=>false
noncomputable def getA (m:Nat):List (Nat × AV)→Option AV
 | []=>none
 | (j,v)::r=>bif j == m then some v else getA m r
noncomputable def putA (m:Nat) (v:AV):List (Nat × AV)→List (Nat × AV)
 | []=>[(m,v)]
 | (j,w)::r=>bif j == m then (j,v)::r else (j,w)::putA m v r
noncomputable def onInst {β:Type} (o:AObj) (k:Nat→List (Nat × AV)→Option β):Option β:=match o with
 | .inst c as=>k c as
 | _=>none
noncomputable def evAttr (a:AV) (m:Nat) (σ:St):Option AV:=onRef a fun i=>ob (σ.heap[i]?) fun o=>onInst o fun _ as=>getA m as
noncomputable def atIdx (l:List AV) (i:AV):Option AV:=onInt i fun n=>if n.natAbs<1000000000 then ob (pyIdx n l.length) fun j=>l[j]? else none
noncomputable def evSubO (i:AV) (o:AObj):Option AV:=match o with
 | .list l=>atIdx l i
 | .dictI kvs=>ob (dictGet (.dictI kvs) i) id
 | .dictS kvs=>ob (dictGet (.dictS kvs) i) id
 | .dictT kvs=>ob (dictGet (.dictT kvs) i) id
 | .inst _ _=>none
 | .dead=>none
noncomputable def evSub (a i:AV) (σ:St):Option AV:=match asRef a with
 | some k=>ob (σ.heap[k]?) (evSubO i)
 | none=>ob (itemsOf σ a) fun l=>atIdx l i
noncomputable def sliceNat (v:AV):Option Nat:=onInt v fun n=>if 0≤n&&decide (n<1000000) then some n.toNat else none
noncomputable def evSlice (a:AV) (lo hi:Option AV) (σ:St):Option AV:=ob (itemsOf σ a) fun l=>bif decide (l.length≤big) then (match hi with
 | none=>ob lo fun v=>bif isTupV a then ob (sliceNat v) fun i=>bif decide (1≤i)&&decide (i≤l.length) then some (mkTup (l.drop i)) else none else none
 | some w=>bif lo.isNone&&isLstV a then ob (sliceNat w) fun n=>some (mkLst (l.take n)) else none) else none
structure Src where
 items:List AV
 held:List (Nat × List AV)
noncomputable def heldOf (σ:St):AV→List (Nat × List AV)
 | .ref i=>match σ.heap[i]? with | some (.list l)=>[(i,l)] | _=>[]
 | _=>[]
noncomputable def listIs (σ:St) (x:Nat × List AV):Bool:=match σ.heap[x.1]? with | some (.list l)=>AV.sames l x.2 | _=>false
noncomputable def heldOk (h:List (Nat × List AV)) (σ:St):Bool:=h.all (listIs σ)
noncomputable def zipT:List AV→List AV→List AV
 | a::l,b::r=>mkTup [a,b]::zipT l r
 | _,_=>[]
noncomputable def srcOf (v:AV) (σ:St):Option Src:=ob (itemsOf σ v) fun l=>if l.length≤big then some ⟨l,heldOf σ v⟩ else none
noncomputable def compItems (held:List (Nat × List AV)) (f:AV→St→R (List AV)):List AV→St→R (List AV)
 | [],s=>some ([],s)
 | x::r,s=>bnd (f x s) fun ys s'=>bif heldOk held s' then bnd (compItems held f r s') fun zs s''=>some (ys++zs,s'') else none
inductive Flow where
 | next
 | ret (v:AV)
noncomputable def forItems (held:List (Nat × List AV)) (f:AV→Env→St→R (Flow × Env)):List AV→Env→St→R (Flow × Env)
 | [],Γ,s=>some ((.next,Γ),s)
 | x::r,Γ,s=>bnd (f x Γ s) fun fl s'=>match fl with
  | (.ret v,Γ')=>some ((.ret v,Γ'),s')
  | (.next,Γ')=>bif heldOk held s' then forItems held f r Γ' s' else none
noncomputable def testV (v:AV) (s:St):R Bool:=match truthV v with | some b=>some (b,s) | none=>none
noncomputable def dictOf (k:DK):AObj:=match k with | .i=>.dictI [] | .s=>.dictS [] | .t=>.dictT []
noncomputable def putAll:AObj→List AV→Option AObj
 | o,[]=>some o
 | o,k::v::r=>ob (dictPut o k v) fun o'=>putAll o' r
 | _,_=>none
noncomputable def strJoin (vs:List AV):Option Str:=on2 vs fun v w=>onStr v fun x=>onInt w fun i=>if x.length≤1000&&decide (i.natAbs<10 ^ 10) then some (x++showInt i) else none
noncomputable def isNilC:CEs→Bool
 | .nil=>true
 | .cons _ _=>false
mutual
noncomputable def evE (C:Ctx) (Γ:Env):CE→St→R AV
 | .none,s=>some (.pv .none,s)
 | .bool b,s=>some (.pv (.bool b),s)
 | .int i,s=>some (.pv (.int i),s)
 | .str x,s=>some (.pv (.str x),s)
 | .var x,s=>lift (Γ.get x) s
 | .glob g,s=>ob (C.glob g) fun p=>some (.pv p,s)
 | .tup es,s=>bnd (evEs C Γ es s) fun vs s=>some (mkTup vs,s)
 | .list m es,s=>bnd (evEs C Γ es s) fun vs s=>bif m then some (s.new (.list vs)) else some (mkLst vs,s)
 | .dict k kvs,s=>bnd (evEs C Γ kvs s) fun vs s=>ob (putAll (dictOf k) vs) fun o=>some (s.new o)
 | .bin o m a b,s=>bnd (evE C Γ a s) fun v s=>bnd (evE C Γ b s) fun w s=>evBin o m v w s
 | .not a,s=>bnd (evE C Γ a s) fun v s=>ob (truthV v) fun b=>some (.pv (.bool (!b)),s)
 | .and es,s=>evB C Γ true es s
 | .or es,s=>evB C Γ false es s
 | .cmp o a b,s=>bnd (evE C Γ a s) fun v s=>bnd (evE C Γ b s) fun w s=>ob (evCmp o v w s) fun r=>some (.pv (.bool r),s)
 | .ife t a b,s=>bnd (evE C Γ t s) fun v s=>ob (truthV v) fun c=>bif c then evE C Γ a s else evE C Γ b s
 | .call f es,s=>bnd (evEs C Γ es s) fun vs s=>C.call f vs s
 | .meth a m es,s=>bnd (evE C Γ a s) fun v s=>onRef v fun i=>ob (s.heap[i]?) fun o=>onInst o fun c as=>ob (C.meth c m) fun f=>bif (getA m as).isNone then bnd (evEs C Γ es s) fun vs s=>C.call f (.ref i::vs) s else none
 | .new c es,s=>bnd (evEs C Γ es s) fun vs s=>ob (C.init c) fun o=>ob o fun f=>bif !s.strict then bnd (C.call f (.ref s.heap.length::vs) { s with heap:=s.heap++[.inst c []] }) fun v s'=>bif isNoneV v then some (.ref s.heap.length,s') else none else none
 | .bm k a es,s=>bnd (evE C Γ a s) fun v s=>bif bmOk k v s then bnd (evEs C Γ es s) fun vs s=>evBM k v vs s else none
 | .bi k es,s=>bnd (evEs C Γ es s) fun vs s=>evBI k vs s
 | .attr a m,s=>bnd (evE C Γ a s) fun v s=>lift (evAttr v m s) s
 | .sub a i,s=>bnd (evE C Γ a s) fun v s=>bnd (evE C Γ i s) fun w s=>lift (evSub v w s) s
 | .slice a lo hi,s=>bnd (evE C Γ a s) fun v s=>bnd (evO C Γ lo s) fun l s=>bnd (evO C Γ hi s) fun h s=>lift (evSlice v l h s) s
 | .comp xs c,s=>bnd (evL C (Env.del xs Γ) c s) fun vs s=>if vs.length≤big then some (mkLst vs,s) else none
 | .fstr ps,s=>bnd (evEs C Γ ps s) fun vs s=>ob (strJoin vs) fun x=>some (.pv (.str x),s)
 | .stuck,_=>none
noncomputable def evEs (C:Ctx) (Γ:Env):CEs→St→R (List AV)
 | .nil,s=>some ([],s)
 | .cons e r,s=>bnd (evE C Γ e s) fun v s=>bnd (evEs C Γ r s) fun vs s=>some (v::vs,s)
noncomputable def evB (C:Ctx) (Γ:Env) (i:Bool):CEs→St→R AV
 | .nil,_=>none
 | .cons e r,s=>bnd (evE C Γ e s) fun v s=>ob (truthV v) fun b=>bif isNilC r then some (.pv (.bool b),s) else bif b == i then evB C Γ i r s else some (.pv (.bool b),s)
noncomputable def evIfs (C:Ctx) (Γ:Env):CEs→St→R Bool
 | .nil,s=>some (true,s)
 | .cons e r,s=>bnd (evE C Γ e s) fun v s=>ob (truthV v) fun c=>bif c then evIfs C Γ r s else some (false,s)
noncomputable def evO (C:Ctx) (Γ:Env):CO→St→R (Option AV)
 | .none,s=>some (none,s)
 | .some e,s=>bnd (evE C Γ e s) fun v s=>some (some v,s)
noncomputable def evI (C:Ctx) (Γ:Env):CI→St→R Src
 | .it e,s=>bnd (evE C Γ e s) fun v s=>lift (srcOf v s) s
 | .range1 a,s=>bnd (evE C Γ a s) fun v s=>onInt v fun n=>if -1000≤n&&decide (n≤big) then some (⟨(intsAV (rangeI 0 n)).map .pv,[]⟩,s) else none
 | .range2 a b,s=>bnd (evE C Γ a s) fun v s=>bnd (evE C Γ b s) fun w s=>onInt v fun m=>onInt w fun n=>if -1000≤m&&decide (m≤1000)&&-1000≤n&&decide (n≤big) then some (⟨(intsAV (rangeI m n)).map .pv,[]⟩,s) else none
 | .zip a b,s=>bnd (evE C Γ a s) fun v s=>bnd (evE C Γ b s) fun w s=>ob (srcOf v s) fun x=>ob (srcOf w s) fun y=>if isLstV v&&isLstV w then some (⟨zipT x.items y.items,x.held++y.held⟩,s) else none
noncomputable def evL (C:Ctx) (Γ:Env):CL→St→R (List AV)
 | .elt e,s=>bnd (evE C Γ e s) fun v s=>some ([v],s)
 | .cons t it ifs more,s=>bnd (evI C Γ it s) fun src s=>bif !freshT t Γ then none else
   compItems src.held (fun x s=>ob (bindT t x Γ) fun Γ'=>bnd (evIfs C Γ' ifs s) fun b s=>bif b then evL C Γ' more s else some ([],s)) src.items s
end
mutual
noncomputable def evS (C:Ctx):CS→Env→St→R (Flow × Env)
 | .assign t e,Γ,s=>bnd (evE C Γ e s) fun v s=>ob (bindT t v Γ) fun Γ'=>some ((.next,Γ'),s)
 | .setAttr a m e,Γ,s=>bnd (evE C Γ e s) fun v s=>bnd (evE C Γ a s) fun o s=>onRef o fun i=>ob (s.heap[i]?) fun o=>onInst o fun c as=>if (isPV v||!s.strict)&&decide (as.length<900) then some ((.next,Γ),s.set i (.inst c (putA m v as))) else none
 | .setSub a i e,Γ,s=>bnd (evE C Γ e s) fun v s=>bnd (evE C Γ a s) fun o s=>bnd (evE C Γ i s) fun k s=>onRef o fun j=>ob (s.heap[j]?) fun d=>if isPV v||!s.strict then ob (dictPut d k v) fun d'=>some ((.next,Γ),s.set j d') else none
 | .expr e,Γ,s=>bnd (evE C Γ e s) fun _ s=>some ((.next,Γ),s)
 | .ret e,Γ,s=>bnd (evE C Γ e s) fun v s=>some ((.ret v,Γ),s)
 | .retNone,Γ,s=>some ((.ret (.pv .none),Γ),s)
 | .ifS t a b,Γ,s=>bnd (evE C Γ t s) fun v s=>ob (truthV v) fun c=>bif c then evSs C a Γ s else evSs C b Γ s
 | .forS t it b,Γ,s=>bnd (evI C Γ it s) fun src s =>
   forItems src.held (fun x Γ s=>ob (bindT t x Γ) fun Γ'=>evSs C b Γ' s) src.items Γ s
 | .superInit c f x,Γ,s=>ob (Γ.get x) fun v=>onRef v fun i=>ob (s.heap[i]?) fun o=>onInst o fun c' _=>if c'=c then bnd (C.call f [.ref i] s) fun _ s=>some ((.next,Γ),s) else none
 | .stuck,_,_=>none
noncomputable def evSs (C:Ctx):CSs→Env→St→R (Flow × Env)
 | .nil,Γ,s=>some ((.next,Γ),s)
 | .cons st r,Γ,s=>bnd (evS C st Γ s) fun fl s=>match fl with
   | (.ret v,Γ')=>some ((.ret v,Γ'),s)
   | (.next,Γ')=>evSs C r Γ' s
end
structure Fn where
 name:Nat
 params:List Nat
 trim:Bool
 body:CSs
structure Prog where
 fns:List Fn
 meths:List ((Nat × Nat) × Nat)
 inits:List (Nat × Option Nat)
 globs:List (Nat × PV)
noncomputable def Flow.val:Flow→AV
 | .next=>.pv .none
 | .ret v=>v
noncomputable def ctxOf (P:Prog) (call:Nat→List AV→St→R AV):Ctx where
 call:=call
 meth:=fun c m=>P.meths.lookup (c,m)
 init:=fun c=>P.inits.lookup c
 glob:=fun g=>(P.globs[g]?).map (·.2)
noncomputable def callFn (P:Prog):Nat→Nat→List AV→St→R AV
 | 0,_,_,_=>none
 | d+1,f,vs,s=>match P.fns[f]? with
  | none=>none
  | some fd=>if fd.params.length=vs.length then
    match evSs (ctxOf P (callFn P d)) fd.body (fd.params.zip vs) { s with strict:=s.strict||fd.trim } with
    | none=>none
    | some ((fl,_),s')=>bif fd.trim then (match fl.val with
      | .pv p=>some (.pv p,{ heap:=s'.heap.take s.heap.length,strict:=s.strict })
      | _=>none)
     else some (fl.val,{ s' with strict:=s.strict })
   else none
theorem ret_same {α σ:Type} {σ1 σ2:σ} {a b:α} (e:some (a,σ1)=some (b,σ2)):a=b∧σ1=σ2:=by cases e; exact ⟨rfl,rfl⟩
theorem ret_same3 {α β σ:Type} {σ1 σ2:σ} {a b:α} {c d:β} (e:some ((a,c),σ1)=some ((b,d),σ2)):a=b∧c=d∧σ1=σ2:=by cases e; exact ⟨rfl,rfl,rfl⟩
inductive BndSome {α β:Type} (x:R α) (k:α→St→R β) (r:β × St):Prop
 | mk (a:α) (s:St) (e1:x=some (a,s)) (e2:k a s=some r)
theorem bnd_some {α β:Type} {x:R α} {k:α→St→R β} {r:β × St} (h:bnd x k=some r):BndSome x k r:=by
 cases x with
 | none=>cases h
 | some y=>exact ⟨y.1,y.2,rfl,h⟩
inductive LiftSome {α:Type} (x:Option α) (s:St) (r:α × St):Prop
 | mk (a:α) (e1:x=some a) (e2:r=(a,s))
theorem lift_some {α:Type} {x:Option α} {s:St} {r:α × St} (h:lift x s=some r):LiftSome x s r:=by
 cases x with
 | none=>cases h
 | some a=>exact ⟨a,rfl,(Option.some.inj h).symm⟩
inductive OnSome {α β V:Type} (c:α→V) (v:V) (k:α→Option β) (r:β):Prop
 | mk (i:α) (e1:v=c i) (e2:k i=some r)
theorem onInt_some {β:Type} {v:AV} {k:Int→Option β} {r:β} (e:onInt v k=some r):OnSome (fun i=>.pv (.int i)) v k r:=by
 unfold onInt at e; split at e
 ·exact ⟨_,rfl,e⟩
 ·cases e
theorem onTup_some {β:Type} {v:AV} {k:List PV→Option β} {r:β} (e:onTup v k=some r):OnSome (fun i=>.pv (.tup i)) v k r:=by
 unfold onTup at e; split at e
 ·exact ⟨_,rfl,e⟩
 ·cases e
theorem onStr_some {β:Type} {v:AV} {k:Str→Option β} {r:β} (e:onStr v k=some r):OnSome (fun i=>.pv (.str i)) v k r:=by
 unfold onStr at e; split at e
 ·exact ⟨_,rfl,e⟩
 ·cases e
theorem onRef_some {β:Type} {v:AV} {k:Nat→Option β} {r:β} (e:onRef v k=some r):OnSome .ref v k r:=by
 unfold onRef at e; split at e
 ·exact ⟨_,rfl,e⟩
 ·cases e
theorem onL_some {β:Type} {v:AObj} {k:List AV→Option β} {r:β} (e:onL v k=some r):OnSome .list v k r:=by
 unfold onL at e; split at e
 ·exact ⟨_,rfl,e⟩
 ·cases e
theorem on0_some {β:Type} {vs:List AV} {k:Option β} {r:β} (e:on0 vs k=some r):vs=[]∧k=some r:=by
 cases vs with
 | nil=>exact ⟨rfl,e⟩
 | cons=>cases e
theorem on1_some {β:Type} {vs:List AV} {k:AV→Option β} {r:β} (e:on1 vs k=some r):OnSome (fun v=>[v]) vs k r:=by
 cases vs with
 | nil=>cases e
 | cons v l=>obtain ⟨h,e⟩:=on0_some e; exact ⟨v,by rw [h],e⟩
inductive On2Some {β:Type} (vs:List AV) (k:AV→AV→Option β) (r:β):Prop
 | mk (v w:AV) (e1:vs=[v,w]) (e2:k v w=some r)
theorem on2_some {β:Type} {vs:List AV} {k:AV→AV→Option β} {r:β} (e:on2 vs k=some r):On2Some vs k r:=by
 cases vs with
 | nil=>cases e
 | cons v l=>obtain ⟨w,h,e⟩:=on1_some e; exact ⟨v,w,by rw [h],e⟩
inductive IfSome {β:Type} (p:Prop) (k:Option β) (r:β):Prop
 | mk (h:p) (e:k=some r)
theorem cond_some {β:Type} {b:Bool} {k:Option β} {r:β} (e:(bif b then k else none)=some r):IfSome (b=true) k r:=by
 cases b with
 | true=>exact ⟨rfl,e⟩
 | false=>cases e
inductive IfSplit {β:Type} (p q:Prop) (x y:Option β) (r:β):Prop
 | inl (h:p) (e:x=some r)
 | inr (h:q) (e:y=some r)
theorem cond_split {β:Type} {b:Bool} {x y:Option β} {r:β} (e:(bif b then x else y)=some r):IfSplit (b=true) (b=false) x y r:=by
 cases b with
 | true=>exact .inl rfl e
 | false=>exact .inr rfl e
theorem ite_split {β:Type} {p:Prop} [Decidable p] {x y:Option β} {r:β} (e:(if p then x else y)=some r):IfSplit p (¬ p) x y r:=by
 by_cases h:p
 ·rw [if_pos h] at e; exact .inl h e
 ·rw [if_neg h] at e; exact .inr h e
theorem ite_some {β:Type} {p:Prop} [Decidable p] {k:Option β} {r:β} (e:(if p then k else none)=some r):IfSome p k r:=by
 by_cases h:p
 ·rw [if_pos h] at e; exact ⟨h,e⟩
 ·rw [if_neg h] at e; cases e
theorem opt_some {α β:Type} {o:Option α} {k:α→Option β} {r:β} (e:ob o k=some r):OnSome some o k r:=by
 cases o with
 | none=>cases e
 | some a=>exact ⟨a,rfl,e⟩
inductive InstSome {β:Type} (o:AObj) (k:Nat→List (Nat × AV)→Option β) (r:β):Prop
 | mk (c:Nat) (as:List (Nat × AV)) (e1:o = .inst c as) (e2:k c as=some r)
theorem onInst_some {β:Type} {o:AObj} {k:Nat→List (Nat × AV)→Option β} {r:β} (e:onInst o k=some r):InstSome o k r:=by
 cases o with
 | inst c as=>exact ⟨c,as,rfl,e⟩
 | _=>cases e
inductive ConsSome {α β:Type} (l:List α) (k:α→List α→Option β) (r:β):Prop
 | mk (a:α) (s:List α) (e1:l=a::s) (e2:k a s=some r)
theorem onCons_some {α β:Type} {l:List α} {k:α→List α→Option β} {r:β} (e:onCons l k=some r):ConsSome l k r:=by
 cases l with
 | nil=>cases e
 | cons a s=>exact ⟨a,s,rfl,e⟩
theorem truthV_some {v:AV} {b:Bool} (e:truthV v=some b):v = .pv (.bool b):=by
 cases v with
 | pv p=>cases p with
  | bool c=>exact Option.some.inj e▸rfl
  | _=>cases e
 | _=>cases e
theorem all_at {α:Type} {l:List α} {p:α→Bool} (h:l.all p=true) {x:α} (hx:x ∈ l):p x=true:=List.all_eq_true.mp h x hx
theorem not_true {b:Bool} (h:(!b)=true):b=false:=by cases b; rfl; cases h
@[elab_as_elim] theorem orEq {α:Type} {q:Prop} {p:α→Prop} {b L:α} (h:b=L∨q) (h1:p L) (h2:q→p b):p b:=h.elim (fun e=>e▸h1) h2
@[elab_as_elim] theorem eqOr {α:Type} {q:Prop} {p:α→Prop} {b L:α} (h:q∨b=L) (h2:q→p b) (h1:p L):p b:=h.elim h2 fun e=>e▸h1
theorem hideP {G:Prop} (h:∀ P:Prop,(G→P)→P):G:=h G id
theorem and_true2 {a b:Bool} (h:(a&&b)=true):a=true∧b=true:=Bool.and_eq_true_iff.mp h
end Mine
end
section

namespace Mine.L3
open PySem
noncomputable def c0:CSs :=
 (.cons .stuck .nil)
noncomputable def f0:Fn:=⟨1,[0],false,c0⟩
noncomputable def c1:CSs :=
 (.cons .stuck .nil)
noncomputable def f1:Fn:=⟨2,[0],false,c1⟩
noncomputable def c2:CSs :=
 (.cons (.setAttr (.var 3) 4 (.list true .nil))
  (.cons (.setAttr (.var 3) 5 (.list true .nil))
  (.cons (.setAttr (.var 3) 6 (.tup (.cons (.str "satisfy") (.cons .none .nil))))
  (.cons (.setAttr (.var 3) 7 (.tup .nil))
  .nil))))
noncomputable def f2:Fn:=⟨8,[3],false,c2⟩
noncomputable def c3:CSs :=
 (.cons (.expr (.bm .append (.attr (.var 3) 4) (.cons (.tup (.cons (.var 9) (.cons (.var 10) .nil))) .nil)))
  (.cons (.ret (.bin .sub false (.bi .len (.cons (.attr (.var 3) 4) .nil)) (.int 1)))
  .nil))
noncomputable def f3:Fn:=⟨11,[3,9,10],false,c3⟩
noncomputable def c4:CSs :=
 (.cons (.expr (.bm .append (.attr (.var 3) 5) (.cons (.var 12) .nil)))
  .nil)
noncomputable def f4:Fn:=⟨13,[3,12],false,c4⟩
noncomputable def c5:CSs :=
 (.cons (.ret (.bi .len (.cons (.attr (.var 3) 4) .nil)))
  .nil)
noncomputable def f5:Fn:=⟨14,[3],false,c5⟩
noncomputable def c6:CSs :=
 (.cons .stuck .nil)
noncomputable def f6:Fn:=⟨16,[3,15],false,c6⟩
noncomputable def c7:CSs :=
 (.cons (.ifS (.cmp .ge (.bi .abs (.cons (.var 17) .nil)) (.bin .pow false (.int 10) (.glob 0))) (.cons .stuck
  .nil) .nil)
  (.cons (.ret (.var 17))
  .nil))
noncomputable def f7:Fn:=⟨18,[17],false,c7⟩
noncomputable def c8:CSs :=
 (.cons .stuck .nil)
noncomputable def f8:Fn:=⟨21,[19,20],false,c8⟩
noncomputable def c9:CSs :=
 (.cons .stuck (.cons .stuck (.cons .stuck .nil)))
noncomputable def f9:Fn:=⟨22,[19],false,c9⟩
noncomputable def c10:CSs :=
 (.cons (.ret (.ife (.bi .isBool (.cons (.var 23) .nil)) (.not (.var 23)) (.tup (.cons (.str "bit") (.cons (.sub (.var 23) (.int 1)) (.cons (.not (.sub (.var 23) (.int 2))) .nil))))))
  .nil)
noncomputable def f10:Fn:=⟨24,[23],false,c10⟩
noncomputable def c11:CSs :=
 (.cons .stuck (.cons .stuck (.cons .stuck .nil)))
noncomputable def f11:Fn:=⟨29,[27],false,c11⟩
noncomputable def c12:CSs :=
 (.cons (.setAttr (.var 3) 30 (.new 0 .nil))
  (.cons (.setAttr (.var 3) 31 (.dict .t .nil))
  .nil))
noncomputable def f12:Fn:=⟨8,[3],false,c12⟩
noncomputable def c13:CSs :=
 (.cons (.assign (.nm 32) (.cmp .notin (.var 33) (.attr (.var 3) 31)))
  (.cons (.ifS (.var 32) (.cons (.forS (.tup (.cons (.nm 35) (.cons (.nm 34) .nil))) (.it (.var 10)) (.cons (.expr (.call 7 (.cons (.bi .max2 (.cons (.bi .abs (.cons (.var 35) .nil)) (.cons (.bi .abs (.cons (.var 34) .nil)) .nil))) .nil)))
  .nil))
  (.cons (.setSub (.attr (.var 3) 31) (.var 33) (.meth (.attr (.var 3) 30) 11 (.cons (.fstr (.cons (.str "#") (.cons (.meth (.attr (.var 3) 30) 14 .nil) .nil))) (.cons (.var 10) .nil))))
  .nil)) .nil)
  (.cons (.ret (.tup (.cons (.sub (.attr (.var 3) 31) (.var 33)) (.cons (.var 32) .nil))))
  .nil)))
noncomputable def f13:Fn:=⟨36,[3,33,10],false,c13⟩
noncomputable def c14:CSs :=
 (.cons .stuck (.cons .stuck (.cons .stuck (.cons .stuck .nil))))
noncomputable def f14:Fn:=⟨39,[3,19],false,c14⟩
noncomputable def c15:CSs :=
 (.cons .stuck (.cons .stuck (.cons .stuck (.cons .stuck (.cons .stuck .nil)))))
noncomputable def f15:Fn:=⟨42,[3,20,19],false,c15⟩
noncomputable def c16:CSs :=
 (.cons (.assign (.nm 43) (.list true .nil))
  (.cons (.forS (.nm 23) (.it (.var 44)) (.cons (.ifS (.or (.cons (.cmp .eq (.var 23) (.bool false)) (.cons (.cmp .inn (.call 10 (.cons (.var 23) .nil)) (.var 43)) .nil))) (.cons (.ret (.bool false))
  .nil) .nil)
  (.cons (.ifS (.and (.cons (.cmp .ne (.var 23) (.bool true)) (.cons (.cmp .notin (.var 23) (.var 43)) .nil))) (.cons (.expr (.bm .append (.var 43) (.cons (.var 23) .nil)))
  .nil) .nil)
  .nil)))
  (.cons (.ifS (.cmp .lt (.bi .len (.cons (.var 43) .nil)) (.int 2)) (.cons (.ret (.ife (.cmp .ne (.var 43) (.list false .nil)) (.sub (.var 43) (.int 0)) (.bool true)))
  .nil) .nil)
  (.cons (.expr (.bm .sort (.var 43) .nil))
  (.cons (.assign (.tup (.cons (.nm 46) (.cons (.nm 45) .nil))) (.tup (.cons (.bi .tuple (.cons (.comp [23] (.cons (.nm 23) (.it (.var 43)) .nil (.elt (.sub (.var 23) (.int 1))))) .nil)) (.cons (.comp [23] (.cons (.nm 23) (.it (.var 43)) .nil (.elt (.sub (.var 23) (.int 2))))) .nil))))
  (.cons (.ifS (.cmp .notin (.bool true) (.var 45)) (.cons (.assign (.tup (.cons (.nm 47) (.cons (.nm 32) .nil))) (.meth (.var 3) 36 (.cons (.tup (.cons (.str "or") (.cons (.var 46) .nil))) (.cons (.glob 1) .nil))))
  (.cons (.ifS (.var 32) (.cons (.expr (.meth (.attr (.var 3) 30) 13 (.cons (.tup (.cons (.str "or") (.cons (.var 46) (.cons (.var 47) .nil)))) .nil)))
  .nil) .nil)
  (.cons (.ret (.tup (.cons (.str "bit") (.cons (.var 47) (.cons (.bool false) .nil)))))
  .nil))) .nil)
  (.cons (.assign (.tup (.cons (.nm 47) (.cons (.nm 32) .nil))) (.meth (.var 3) 36 (.cons (.tup (.cons (.str "all") (.cons (.bi .tuple (.cons (.var 43) .nil)) .nil))) (.cons (.glob 1) .nil))))
  (.cons (.ifS (.and (.cons (.var 32) (.cons (.cmp .notin (.bool false) (.var 45)) .nil))) (.cons (.expr (.meth (.attr (.var 3) 30) 13 (.cons (.tup (.cons (.str "and") (.cons (.var 46) (.cons (.var 47) .nil)))) .nil)))
  .nil) (.cons (.ifS (.var 32) (.cons (.forS (.nm 23) (.it (.var 43)) (.cons (.expr (.meth (.var 3) 48 (.cons (.list false (.cons (.tup (.cons (.str "bit") (.cons (.var 47) (.cons (.bool false) .nil)))) (.cons (.var 23) .nil))) .nil)))
  .nil))
  (.cons (.expr (.meth (.var 3) 48 (.cons (.bin .add false (.list false (.cons (.tup (.cons (.str "bit") (.cons (.var 47) (.cons (.bool true) .nil)))) .nil)) (.comp [23] (.cons (.nm 23) (.it (.var 43)) .nil (.elt (.call 10 (.cons (.var 23) .nil)))))) .nil)))
  .nil)) .nil)
  .nil))
  (.cons (.ret (.tup (.cons (.str "bit") (.cons (.var 47) (.cons (.bool true) .nil)))))
  .nil)))))))))
noncomputable def f16:Fn:=⟨49,[3,44],true,c16⟩
noncomputable def c17:CSs :=
 (.cons (.ret (.call 10 (.cons (.meth (.var 3) 49 (.cons (.comp [23] (.cons (.nm 23) (.it (.var 44)) .nil (.elt (.call 10 (.cons (.var 23) .nil))))) .nil)) .nil)))
  .nil)
noncomputable def f17:Fn:=⟨50,[3,44],false,c17⟩
noncomputable def c18:CSs :=
 (.cons (.ifS (.bi .isBool (.cons (.var 51) .nil)) (.cons (.ret (.ife (.var 51) (.call 10 (.cons (.var 52) .nil)) (.var 52)))
  .nil) .nil)
  (.cons (.ifS (.bi .isBool (.cons (.var 52) .nil)) (.cons (.ret (.ife (.var 52) (.call 10 (.cons (.var 51) .nil)) (.var 51)))
  .nil) .nil)
  (.cons (.ifS (.cmp .eq (.sub (.var 51) (.int 1)) (.sub (.var 52) (.int 1))) (.cons (.ret (.cmp .ne (.sub (.var 51) (.int 2)) (.sub (.var 52) (.int 2))))
  .nil) .nil)
  (.cons (.assign (.tup (.cons (.nm 35) (.cons (.nm 34) .nil))) (.tup (.cons (.bi .min2 (.cons (.sub (.var 51) (.int 1)) (.cons (.sub (.var 52) (.int 1)) .nil))) (.cons (.bi .max2 (.cons (.sub (.var 51) (.int 1)) (.cons (.sub (.var 52) (.int 1)) .nil))) .nil))))
  (.cons (.assign (.tup (.cons (.nm 40) (.cons (.nm 32) .nil))) (.meth (.var 3) 36 (.cons (.tup (.cons (.str "xor") (.cons (.var 35) (.cons (.var 34) .nil)))) (.cons (.glob 1) .nil))))
  (.cons (.ifS (.var 32) (.cons (.expr (.meth (.attr (.var 3) 30) 13 (.cons (.tup (.cons (.str "xor") (.cons (.var 35) (.cons (.var 34) (.cons (.var 40) .nil))))) .nil)))
  .nil) .nil)
  (.cons (.ret (.tup (.cons (.str "bit") (.cons (.var 40) (.cons (.cmp .eq (.sub (.var 51) (.int 2)) (.sub (.var 52) (.int 2))) .nil)))))
  .nil)))))))
noncomputable def f18:Fn:=⟨53,[3,51,52],false,c18⟩
noncomputable def c19:CSs :=
 (.cons (.ifS (.or (.cons (.cmp .inn (.bool true) (.var 44)) (.cons (.cmp .ne (.comp [23] (.cons (.nm 23) (.it (.var 44)) (.cons (.and (.cons (.cmp .ne (.var 23) (.bool false)) (.cons (.cmp .inn (.call 10 (.cons (.var 23) .nil)) (.var 44)) .nil))) .nil) (.elt (.var 23)))) (.list false .nil)) .nil))) (.cons .retNone
  .nil) .nil)
  (.cons (.assign (.nm 54) (.bi .sorted (.cons (.comp [23] (.cons (.nm 23) (.it (.var 44)) (.cons (.cmp .ne (.var 23) (.bool false)) .nil) (.elt (.var 23)))) .nil)))
  (.cons (.assign (.tup (.cons (.nm 56) (.cons (.nm 55) .nil))) (.tup (.cons (.comp [23] (.cons (.nm 23) (.it (.var 54)) (.cons (.sub (.var 23) (.int 2)) .nil) (.elt (.sub (.var 23) (.int 1))))) (.cons (.comp [23] (.cons (.nm 23) (.it (.var 54)) (.cons (.not (.sub (.var 23) (.int 2))) .nil) (.elt (.sub (.var 23) (.int 1))))) .nil))))
  (.cons (.expr (.meth (.attr (.var 3) 30) 13 (.cons (.tup (.cons (.str "clause") (.cons (.bi .tuple (.cons (.bi .sortedSet (.cons (.var 56) .nil)) .nil)) (.cons (.bi .tuple (.cons (.bi .sortedSet (.cons (.var 55) .nil)) .nil)) .nil)))) .nil)))
  .nil))))
noncomputable def f19:Fn:=⟨48,[3,44],false,c19⟩
noncomputable def c20:CSs :=
 (.cons (.superInit 2 12 3)
  (.cons (.setAttr (.var 3) 57 .none)
  .nil))
noncomputable def f20:Fn:=⟨8,[3],false,c20⟩
noncomputable def c21:CSs :=
 (.cons (.ifS (.cmp .inn (.var 58) (.tup (.cons (.str "<->") (.cons (.str "xor") .nil)))) (.cons (.assign (.nm 25) (.meth (.var 3) 53 (.cons (.var 51) (.cons (.var 52) .nil))))
  (.cons (.ret (.ife (.cmp .eq (.var 58) (.str "xor")) (.var 25) (.call 10 (.cons (.var 25) .nil))))
  .nil)) .nil)
  (.cons (.ifS (.cmp .eq (.var 58) (.str "/\\")) (.cons (.ret (.meth (.var 3) 49 (.cons (.list false (.cons (.var 51) (.cons (.var 52) .nil))) .nil)))
  .nil) .nil)
  (.cons (.ret (.meth (.var 3) 50 (.cons (.list false (.cons (.ife (.cmp .eq (.var 58) (.str "->")) (.call 10 (.cons (.var 51) .nil)) (.var 51)) (.cons (.ife (.cmp .eq (.var 58) (.str "<-")) (.call 10 (.cons (.var 52) .nil)) (.var 52)) .nil))) .nil)))
  .nil)))
noncomputable def f21:Fn:=⟨59,[3,58,51,52],false,c21⟩
noncomputable def c22:CSs :=
 (.cons (.assign (.nm 60) (.sub (.var 61) (.str "spot")))
  (.cons (.setSub (.var 61) (.str "spot") (.bin .add false (.var 60) (.int 1)))
  (.cons (.ifS (.cmp .lt (.var 60) (.bi .len (.cons (.sub (.var 61) (.str "cells")) .nil))) (.cons (.ret (.bin .mod false (.sub (.sub (.var 61) (.str "cells")) (.var 60)) (.var 62)))
  .nil) .nil)
  (.cons (.ret (.bin .mod false (.bin .mod false (.bin .add false (.bin .add false (.bin .add false (.bin .mul false (.bin .mul false (.int 7) (.var 60)) (.var 60)) (.bin .mul false (.int 2) (.var 60))) (.bin .mul false (.int 3) (.bi .len (.cons (.sub (.var 61) (.str "cells")) .nil)))) (.int 4)) (.int 47)) (.var 62)))
  .nil))))
noncomputable def f22:Fn:=⟨63,[61,62],false,c22⟩
noncomputable def c23:CSs :=
 (.cons (.ifS (.cmp .lt (.var 64) (.int 2)) (.cons (.assign (.nm 65) (.meth (.var 66) 59 (.cons (.sub (.glob 2) (.bin .sub false (.int 1) (.var 64))) (.cons (.call 10 (.cons (.var 52) .nil)) (.cons (.call 10 (.cons (.var 51) .nil)) .nil)))))
  (.cons (.ret (.list false (.cons (.call 10 (.cons (.var 65) .nil)) (.cons (.meth (.var 66) 59 (.cons (.sub (.glob 2) (.var 64)) (.cons (.var 52) (.cons (.var 51) .nil)))) .nil))))
  .nil)) .nil)
  (.cons (.ifS (.cmp .lt (.var 64) (.int 4)) (.cons (.assign (.nm 65) (.meth (.var 66) 59 (.cons (.sub (.glob 2) (.bin .sub false (.int 5) (.var 64))) (.cons (.var 52) (.cons (.var 51) .nil)))))
  (.cons (.ret (.list false (.cons (.var 65) (.cons (.meth (.var 66) 59 (.cons (.str "\\/") (.cons (.ife (.cmp .eq (.var 64) (.int 2)) (.call 10 (.cons (.var 51) .nil)) (.var 51)) (.cons (.ife (.cmp .eq (.var 64) (.int 2)) (.var 52) (.call 10 (.cons (.var 52) .nil))) .nil)))) .nil))))
  .nil)) .nil)
  (.cons (.assign (.nm 65) (.call 10 (.cons (.meth (.var 66) 59 (.cons (.sub (.glob 2) (.bin .sub false (.int 9) (.var 64))) (.cons (.var 51) (.cons (.var 52) .nil)))) .nil)))
  (.cons (.ret (.list false (.cons (.var 65) (.cons (.meth (.var 66) 59 (.cons (.sub (.glob 2) (.var 64)) (.cons (.call 10 (.cons (.var 52) .nil)) (.cons (.call 10 (.cons (.var 51) .nil)) .nil)))) (.cons (.meth (.var 66) 59 (.cons (.sub (.glob 2) (.var 64)) (.cons (.var 52) (.cons (.var 51) .nil)))) .nil)))))
  .nil))))
noncomputable def f23:Fn:=⟨67,[66,64,51,52],false,c23⟩
noncomputable def c24:CSs :=
 (.cons (.ifS (.cmp .eq (.sub (.var 12) (.int 0)) (.str "xor")) (.cons (.ret (.slice (.var 12) (.some (.int 1)) .none))
  .nil) .nil)
  (.cons (.ret (.bin .add false (.sub (.var 12) (.int 1)) (.ife (.cmp .eq (.sub (.var 12) (.int 0)) (.str "clause")) (.sub (.var 12) (.int 2)) (.tup (.cons (.sub (.var 12) (.int 2)) .nil)))))
  .nil))
noncomputable def f24:Fn:=⟨68,[12],false,c24⟩
noncomputable def c25:CSs :=
 (.cons (.ifS (.cmp .eq (.sub (.var 12) (.int 0)) (.str "xor")) (.cons (.ret (.cmp .eq (.cmp .ne (.sub (.var 42) (.sub (.var 12) (.int 1))) (.sub (.var 42) (.sub (.var 12) (.int 2)))) (.cmp .eq (.sub (.var 42) (.sub (.var 12) (.int 3))) (.int 1))))
  .nil) .nil)
  (.cons (.assign (.nm 46) (.comp [15] (.cons (.nm 15) (.it (.sub (.var 12) (.int 1))) .nil (.elt (.sub (.var 42) (.var 15))))))
  (.cons (.ifS (.cmp .eq (.sub (.var 12) (.int 0)) (.str "clause")) (.cons (.ret (.or (.cons (.cmp .inn (.int 1) (.var 46)) (.cons (.cmp .inn (.int 0) (.comp [15] (.cons (.nm 15) (.it (.sub (.var 12) (.int 2))) .nil (.elt (.sub (.var 42) (.var 15)))))) .nil))))
  .nil) .nil)
  (.cons (.ret (.and (.cons (.cmp .inn (.sub (.var 12) (.int 0)) (.tup (.cons (.str "and") (.cons (.str "or") .nil)))) (.cons (.cmp .eq (.sub (.var 42) (.sub (.var 12) (.int 2))) (.ife (.cmp .eq (.sub (.var 12) (.int 0)) (.str "and")) (.bi .min1 (.cons (.var 46) .nil)) (.bi .max1 (.cons (.var 46) .nil)))) .nil))))
  .nil))))
noncomputable def f25:Fn:=⟨69,[12,42],false,c25⟩
noncomputable def row_s0:CS :=
 (.assign (.nm 71) (.comp [72] (.cons (.nm 72) (.it (.tup (.cons (.int 0) (.cons (.int 1) .nil)))) (.cons (.cmp .eq (.comp [12] (.cons (.nm 12) (.it (.bm .get2 (.var 73) (.cons (.var 15) (.cons (.list false .nil) .nil)))) (.cons (.not (.call 25 (.cons (.var 12) (.cons (.bin .add false (.var 42) (.list false (.cons (.var 72) .nil))) .nil)))) .nil) (.elt (.var 12)))) (.list false .nil)) .nil) (.elt (.var 72)))))
noncomputable def row_b1:CSs :=
 (.cons row_s0
  (.cons (.ifS (.cmp .ne (.bi .len (.cons (.var 71) .nil)) (.int 1)) (.cons (.ret .none)
  .nil) .nil)
  (.cons (.assign (.nm 42) (.bin .add false (.var 42) (.var 71)))
  .nil)))
noncomputable def row_b2:CSs :=
 (.cons (.forS (.nm 15) (.range2 (.int 3) (.var 70)) row_b1)
  (.cons (.ret (.var 42))
  .nil))
noncomputable def c26:CSs :=
 row_b2
noncomputable def f26:Fn:=⟨74,[70,73,42],false,c26⟩
noncomputable def c27:CSs :=
 (.cons (.ret (.ife (.bi .isBool (.cons (.var 23) .nil)) (.var 23) (.cmp .eq (.cmp .eq (.sub (.var 42) (.sub (.var 23) (.int 1))) (.int 1)) (.sub (.var 23) (.int 2)))))
  .nil)
noncomputable def f27:Fn:=⟨75,[23,42],false,c27⟩
noncomputable def law_b0:CSs :=
 (.cons (.expr (.bm .append (.var 82) (.cons (.cmp .eq (.call 22 (.cons (.var 61) (.cons (.int 2) .nil))) (.int 1)) .nil)))
  (.cons (.expr (.bm .append (.var 83) (.cons (.call 22 (.cons (.var 61) (.cons (.bi .len (.cons (.var 79) .nil)) .nil))) .nil)))
  .nil))
noncomputable def law_s1:CS :=
 (.assign (.tup (.cons (.nm 64) (.cons (.nm 83) (.cons (.nm 82) .nil)))) (.tup (.cons (.call 22 (.cons (.var 61) (.cons (.int 6) .nil))) (.cons (.list true .nil) (.cons (.list true .nil) .nil)))))
noncomputable def law_s2:CS :=
 (.assign (.tup (.cons (.nm 51) (.cons (.nm 52) .nil))) (.comp [85,86] (.cons (.tup (.cons (.nm 85) (.cons (.nm 86) .nil))) (.zip (.var 83) (.var 82)) .nil (.elt (.ife (.var 86) (.call 10 (.cons (.sub (.var 79) (.var 85)) .nil)) (.sub (.var 79) (.var 85)))))))
noncomputable def law_s3:CS :=
 (.assign (.nm 87) (.tup (.cons (.meth (.attr (.var 66) 30) 14 .nil) (.cons (.bi .len (.cons (.attr (.attr (.var 66) 30) 5) .nil)) .nil))))
noncomputable def law_s4:CS :=
 (.assign (.nm 88) (.tup (.cons (.meth (.attr (.var 66) 30) 14 .nil) (.cons (.bi .len (.cons (.attr (.attr (.var 66) 30) 5) .nil)) .nil))))
noncomputable def law_s5:CS :=
 (.assign (.nm 89) (.or (.cons (.bi .isBool (.cons (.var 51) .nil)) (.cons (.bi .isBool (.cons (.var 52) .nil)) (.cons (.cmp .eq (.sub (.var 51) (.int 1)) (.sub (.var 52) (.int 1))) .nil)))))
noncomputable def law_s6:CS :=
 (.ifS (.and (.cons (.var 89) (.cons (.or (.cons (.cmp .ne (.var 88) (.var 87)) (.cons (.cmp .notin (.var 25) (.tup (.cons (.bool true) (.cons (.bool false) (.cons (.var 51) (.cons (.var 52) (.cons (.call 10 (.cons (.var 51) .nil)) (.cons (.call 10 (.cons (.var 52) .nil)) .nil)))))))) .nil))) .nil))) (.cons (.ret (.bool false))
  .nil) .nil)
noncomputable def law_s7:CS :=
 (.ifS (.cmp .ne (.comp [65] (.cons (.nm 65) (.it (.call 23 (.cons (.var 66) (.cons (.var 64) (.cons (.var 51) (.cons (.var 52) .nil)))))) (.cons (.cmp .ne (.var 65) (.var 25)) .nil) (.elt (.var 65)))) (.list false .nil)) (.cons (.ret (.bool false))
  .nil) .nil)
noncomputable def law_s8:CS :=
 (.ifS (.cmp .ne (.tup (.cons (.meth (.attr (.var 66) 30) 14 .nil) (.cons (.bi .len (.cons (.attr (.attr (.var 66) 30) 5) .nil)) .nil))) (.var 88)) (.cons (.ret (.bool false))
  .nil) .nil)
noncomputable def law_b9:CSs :=
 (.cons law_s1
  (.cons (.forS (.nm 84) (.range1 (.int 2)) law_b0)
  (.cons law_s2
  (.cons law_s3
  (.cons (.assign (.nm 25) (.meth (.var 66) 59 (.cons (.sub (.glob 2) (.var 64)) (.cons (.var 51) (.cons (.var 52) .nil)))))
  (.cons law_s4
  (.cons law_s5
  (.cons law_s6
  (.cons law_s7
  (.cons law_s8
  (.cons (.expr (.bm .append (.var 76) (.cons (.tup (.cons (.var 64) (.cons (.var 83) (.cons (.var 82) .nil)))) .nil)))
  (.cons (.expr (.bm .append (.var 79) (.cons (.var 25) .nil)))
  .nil))))))))))))
noncomputable def law_s10:CS :=
 (.expr (.bm .append (.bm .setdefault (.var 73) (.cons (.bi .max1 (.cons (.call 24 (.cons (.var 12) .nil)) .nil)) (.cons (.list true .nil) .nil))) (.cons (.var 12) .nil)))
noncomputable def law_s11:CS :=
 (.assign (.tup (.cons (.nm 51) (.cons (.nm 52) .nil))) (.comp [85,86] (.cons (.tup (.cons (.nm 85) (.cons (.nm 86) .nil))) (.zip (.var 83) (.var 82)) .nil (.elt (.cmp .ne (.sub (.var 92) (.var 85)) (.var 86))))))
noncomputable def law_s12:CS :=
 (.expr (.bm .append (.var 92) (.cons (.sub (.sub (.glob 3) (.var 64)) (.bin .add false (.bin .mul false (.int 2) (.bi .int (.cons (.var 51) .nil))) (.bi .int (.cons (.var 52) .nil)))) .nil)))
noncomputable def law_s13:CS :=
 (.assign (.nm 42) (.call 26 (.cons (.meth (.attr (.var 66) 30) 14 .nil) (.cons (.var 73) (.cons (.list false (.cons (.bin .mod false (.var 91) (.int 2)) (.cons (.bin .mod false (.bin .fdiv false (.var 91) (.int 2)) (.int 2)) (.cons (.bin .fdiv false (.var 91) (.int 4)) .nil)))) .nil)))))
noncomputable def law_s14:CS :=
 (.assign (.nm 92) (.list true (.cons (.cmp .eq (.bin .mod false (.var 91) (.int 2)) (.int 1)) (.cons (.cmp .eq (.bin .mod false (.bin .fdiv false (.var 91) (.int 2)) (.int 2)) (.int 1)) (.cons (.cmp .eq (.bin .fdiv false (.var 91) (.int 4)) (.int 1)) (.cons (.bool true) .nil))))))
noncomputable def law_s15:CS :=
 (.forS (.tup (.cons (.nm 64) (.cons (.nm 83) (.cons (.nm 82) .nil)))) (.it (.var 76)) (.cons law_s11
  (.cons law_s12
  .nil)))
noncomputable def law_s16:CS :=
 (.ifS (.cmp .ne (.comp [23] (.cons (.nm 23) (.it (.var 79)) .nil (.elt (.call 27 (.cons (.var 23) (.cons (.var 42) .nil)))))) (.var 92)) (.cons (.ret (.bool false))
  .nil) .nil)
noncomputable def law_b17:CSs :=
 (.cons law_s13
  (.cons (.ifS (.cmp .is (.var 42) .none) (.cons (.ret (.bool false))
  .nil) .nil)
  (.cons law_s14
  (.cons law_s15
  (.cons law_s16
  .nil)))))
noncomputable def law_s18:CS :=
 (.assign (.tup (.cons (.nm 61) (.cons (.nm 66) (.cons (.nm 76) (.cons (.nm 73) .nil))))) (.tup (.cons (.dict .s (.cons (.str "cells") (.cons (.comp [77] (.cons (.nm 77) (.it (.slice (.var 78) .none (.some (.int 40)))) .nil (.elt (.bi .int (.cons (.var 77) .nil))))) (.cons (.str "spot") (.cons (.int 0) .nil))))) (.cons (.new 2 .nil) (.cons (.list true .nil) (.cons (.dict .i .nil) .nil))))))
noncomputable def law_s19:CS :=
 (.assign (.nm 79) (.bin .add true (.comp [80] (.cons (.nm 80) (.range1 (.int 3)) .nil (.elt (.tup (.cons (.str "bit") (.cons (.meth (.attr (.var 66) 30) 11 (.cons (.bin .add false (.str "b") (.bi .str (.cons (.var 80) .nil))) (.cons (.tup (.cons (.tup (.cons (.int 0) (.cons (.int 1) .nil))) .nil)) .nil))) (.cons (.bool true) .nil))))))) (.list false (.cons (.bool true) .nil))))
noncomputable def law_s20:CS :=
 (.ifS (.cmp .ne (.comp [90,10] (.cons (.tup (.cons (.nm 90) (.cons (.nm 10) .nil))) (.it (.attr (.attr (.var 66) 30) 4)) (.cons (.cmp .ne (.var 10) (.tup (.cons (.tup (.cons (.int 0) (.cons (.int 1) .nil))) .nil))) .nil) (.elt (.var 10)))) (.list false .nil)) (.cons (.ret (.bool false))
  .nil) .nil)
noncomputable def law_b21:CSs :=
 (.cons law_s18
  (.cons law_s19
  (.cons (.forS (.nm 81) (.range1 (.bin .add false (.int 3) (.call 22 (.cons (.var 61) (.cons (.int 4) .nil))))) law_b9)
  (.cons law_s20
  (.cons (.forS (.nm 12) (.it (.attr (.attr (.var 66) 30) 5)) (.cons law_s10
  .nil))
  (.cons (.forS (.nm 91) (.range1 (.int 8)) law_b17)
  (.cons (.ret (.bool true))
  .nil)))))))
noncomputable def c28:CSs :=
 law_b21
noncomputable def f28:Fn:=⟨93,[78],false,c28⟩
noncomputable def P:Prog:={
 fns:=[f0,f1,f2,f3,f4,f5,f6,f7,f8,f9,f10,f11,f12,f13,f14,f15,f16,f17,f18,f19,f20,f21,f22,f23,f24,f25,f26,f27,f28],
 meths:=[((0,11),3),((0,13),4),((0,14),5),((0,16),6),((1,36),13),((1,39),14),((1,42),15),((1,49),16),((1,50),17),((1,53),18),((1,48),19),((2,59),21),((2,36),13),((2,39),14),((2,42),15),((2,49),16),((2,50),17),((2,53),18),((2,48),19)],
 inits:=[(0,some 2),(1,some 12),(2,some 20)],
 globs:=[(94,(.int 1000)),
  (95,(.tup [(.tup [(.int 0),(.int 1)])])),
  (96,(.tup [(.str "/\\"),(.str "\\/"),(.str "->"),(.str "<-"),(.str "<->"),(.str "xor")])),
  (97,(.tup [(.tup [(.bool false),(.bool false),(.bool false),(.bool true)]),(.tup [(.bool false),(.bool true),(.bool true),(.bool true)]),(.tup [(.bool true),(.bool true),(.bool false),(.bool true)]),(.tup [(.bool true),(.bool false),(.bool true),(.bool true)]),(.tup [(.bool true),(.bool false),(.bool false),(.bool true)]),(.tup [(.bool false),(.bool true),(.bool true),(.bool false)])]))] }
noncomputable def nm:List Str:=(["d", "least", "greatest", "self", "vars", "tolds", "goal", "shown", "__init__", "name", "domain", "new_var", "told", "post", "size", "x", "domain_of", "number", "within_figures", "value", "kind", "is_made", "sum_of", "truth", "contrary", "found", "a", "numbers", "rest", "common_of", "flat", "made", "is_new", "key", "high", "low", "once", "total", "ends", "bounds", "c", "common", "row", "kept", "truths", "signs", "some", "b", "require_some", "all_of", "any_of", "one", "other", "unlike", "bits", "downs", "ups", "partial", "sign", "connected", "spot", "tape", "wide", "_law_take", "way", "late", "f", "_law_other_words", "_law_scope", "_law_kept", "many", "fit", "v", "lots", "_law_row", "_law_is_so", "asked", "cell", "script", "pool", "k", "lap", "turned", "places", "side", "place", "is_turned", "size_ahead", "size_now", "is_plain", "word", "turn", "worths", "law", "MOST_SHOWN", "TRUTHS", "_law_signs", "_law_tables", "Flat", "Gatherer", "Functions"]:List String).map Str.ofString
noncomputable def cn:List Nat:=[98,99,100]
noncomputable def lawIdx:Nat:=28
end Mine.L3
end
section
open PySem PySem.W PyProof.Rows
open PySem PySem.W PySem.SeqAt PyProof.Rows
open PySem PySem.W PySem.SeqAt PyProof.Rows PySem.Calls
namespace Mine
noncomputable def opK:Op→Operator
 | .add=>.Add
 | .sub=>.Sub
 | .mul=>.Mult
 | .fdiv=>.FloorDiv
 | .mod=>.Mod
 | .pow=>.Pow
noncomputable def cmpK:Cmp→CmpOp
 | .eq=>.Eq
 | .ne=>.NotEq
 | .lt=>.Lt
 | .ge=>.GtE
 | .inn=>.In
 | .notin=>.NotIn
 | .is=>.Is
noncomputable abbrev Names:=List (Str × NameKind)
structure Cfg where
 nm:List Str
 gf:List (Str × Nat)
 gc:List (Str × Nat)
 globs:List (Nat × PV)
 dat:List Nat
 meths:List Str
noncomputable def isVar (sc:Names) (x:Str):Bool:=decide (sc.lookup x=some .local∨sc.lookup x=some .cell∨sc.lookup x=some .free)&&!(x == ("__debug__" : Str))&&!(x == ("__classdict__" : Str))
noncomputable def isGlob (sc:Names) (x:Str):Bool:=decide (sc.lookup x=some .globalImplicit)&&!(x == ("__debug__" : Str))
noncomputable def isNm (C:Cfg) (i:Nat) (x:Str):Bool:=decide (C.nm[i]? = some x)
noncomputable def biName:BI→Str
 | .len => "len"
 | .abs => "abs"
 | .int => "int"
 | .str => "str"
 | .max1 => "max"
 | .max2 => "max"
 | .min1 => "min"
 | .min2 => "min"
 | .tuple => "tuple"
 | .isBool => "isinstance"
 | .sorted => "sorted"
 | .sortedSet => "sorted"
noncomputable def bmName:BM→Str
 | .append => "append"
 | .sort => "sort"
 | .get2 => "get"
 | .setdefault => "setdefault"
noncomputable def relab (names sc:Names):Names:=names.map fun (n,k)=>if (k == .free&&sc.lookup n == some .cell) then (n,.cell) else (n,k)
noncomputable def isFun (k:ScopeKind):Bool:=match k with | .function=>true | _=>false
noncomputable def kindOk (s:Scope) (sc:Names) (x:Str × NameKind):Bool:=decide (x.2 = .cell→s.names.lookup x.1=some .cell)&&decide (x.2 = .local→s.names.lookup x.1=some .local)&&decide (x.2 = .free→sc.lookup x.1=some .cell∨sc.lookup x.1=some .free)
noncomputable def scopeOk (s:Scope) (sc:Names):Bool:=isFun s.kind&&s.names.all (kindOk s sc)
noncomputable def delOk (C:Cfg) (xs:List Nat) (names:Names):Bool:=names.all fun x=>!decide (x.2 = .local∨x.2 = .cell)||(xs.any (fun i=>isNm C i x.1)||!C.nm.any (· == x.1))
noncomputable def rdConst (x:Expr):Option {v:Const × Nat × Pos // x = .Constant v.1 v.2.1 v.2.2}:=Expr.casesOn (motive_1:=fun x=>Option {v:Const × Nat × Pos // x = .Constant v.1 v.2.1 v.2.2}) x (fun _ _ _=>none) (fun _ _ _=>none) (fun _ _ _ _=>none) (fun _ _ _=>none) (fun _ _ _ _=>none) (fun _ _ _ _=>none) (fun _ _ _=>none) (fun _ _ _=>none) (fun _ _ _ _=>none) (fun _ _ _ _=>none) (fun _ _ _ _ _=>none) (fun _ _ _ _=>none) (fun _ _=>none) (fun _ _=>none) (fun _ _=>none) (fun _ _ _ _=>none) (fun _ _ _ _=>none) (fun _ _ _ _=>none) (fun _ _=>none) (fun c q p=>some ⟨(c,q,p),rfl⟩) (fun _ _ _=>none) (fun _ _ _=>none) (fun _ _=>none) (fun _ _=>none) (fun _ _=>none) (fun _ _ _=>none) (fun _ _ _ _=>none)
noncomputable def rdName (x:Expr):Option {v:Str × Pos // x = .Name v.1 v.2}:=Expr.casesOn (motive_1:=fun x=>Option {v:Str × Pos // x = .Name v.1 v.2}) x (fun _ _ _=>none) (fun _ _ _=>none) (fun _ _ _ _=>none) (fun _ _ _=>none) (fun _ _ _ _=>none) (fun _ _ _ _=>none) (fun _ _ _=>none) (fun _ _ _=>none) (fun _ _ _ _=>none) (fun _ _ _ _=>none) (fun _ _ _ _ _=>none) (fun _ _ _ _=>none) (fun _ _=>none) (fun _ _=>none) (fun _ _=>none) (fun _ _ _ _=>none) (fun _ _ _ _=>none) (fun _ _ _ _=>none) (fun _ _=>none) (fun _ _ _=>none) (fun _ _ _=>none) (fun _ _ _=>none) (fun _ _=>none) (fun n p=>some ⟨(n,p),rfl⟩) (fun _ _=>none) (fun _ _ _=>none) (fun _ _ _ _=>none)
noncomputable def rdTuple (x:Expr):Option {v:List Expr × Nat × Pos // x = .Tuple v.1 v.2.1 v.2.2}:=Expr.casesOn (motive_1:=fun x=>Option {v:List Expr × Nat × Pos // x = .Tuple v.1 v.2.1 v.2.2}) x (fun _ _ _=>none) (fun _ _ _=>none) (fun _ _ _ _=>none) (fun _ _ _=>none) (fun _ _ _ _=>none) (fun _ _ _ _=>none) (fun _ _ _=>none) (fun _ _ _=>none) (fun _ _ _ _=>none) (fun _ _ _ _=>none) (fun _ _ _ _ _=>none) (fun _ _ _ _=>none) (fun _ _=>none) (fun _ _=>none) (fun _ _=>none) (fun _ _ _ _=>none) (fun _ _ _ _=>none) (fun _ _ _ _=>none) (fun _ _=>none) (fun _ _ _=>none) (fun _ _ _=>none) (fun _ _ _=>none) (fun _ _=>none) (fun _ _=>none) (fun _ _=>none) (fun a k p=>some ⟨(a,k,p),rfl⟩) (fun _ _ _ _=>none)
noncomputable def rdList (x:Expr):Option {v:List Expr × Pos // x = .List v.1 v.2}:=Expr.casesOn (motive_1:=fun x=>Option {v:List Expr × Pos // x = .List v.1 v.2}) x (fun _ _ _=>none) (fun _ _ _=>none) (fun _ _ _ _=>none) (fun _ _ _=>none) (fun _ _ _ _=>none) (fun _ _ _ _=>none) (fun _ _ _=>none) (fun _ _ _=>none) (fun _ _ _ _=>none) (fun _ _ _ _=>none) (fun _ _ _ _ _=>none) (fun _ _ _ _=>none) (fun _ _=>none) (fun _ _=>none) (fun _ _=>none) (fun _ _ _ _=>none) (fun _ _ _ _=>none) (fun _ _ _ _=>none) (fun _ _=>none) (fun _ _ _=>none) (fun _ _ _=>none) (fun _ _ _=>none) (fun _ _=>none) (fun _ _=>none) (fun a p=>some ⟨(a,p),rfl⟩) (fun _ _ _=>none) (fun _ _ _ _=>none)
noncomputable def rdDict (x:Expr):Option {v:List (Option Expr) × List Expr × Pos // x = .Dict v.1 v.2.1 v.2.2}:=Expr.casesOn (motive_1:=fun x=>Option {v:List (Option Expr) × List Expr × Pos // x = .Dict v.1 v.2.1 v.2.2}) x (fun _ _ _=>none) (fun _ _ _=>none) (fun _ _ _ _=>none) (fun _ _ _=>none) (fun _ _ _ _=>none) (fun _ _ _ _=>none) (fun a b p=>some ⟨(a,b,p),rfl⟩) (fun _ _ _=>none) (fun _ _ _ _=>none) (fun _ _ _ _=>none) (fun _ _ _ _ _=>none) (fun _ _ _ _=>none) (fun _ _=>none) (fun _ _=>none) (fun _ _=>none) (fun _ _ _ _=>none) (fun _ _ _ _=>none) (fun _ _ _ _=>none) (fun _ _=>none) (fun _ _ _=>none) (fun _ _ _=>none) (fun _ _ _=>none) (fun _ _=>none) (fun _ _=>none) (fun _ _=>none) (fun _ _ _=>none) (fun _ _ _ _=>none)
noncomputable def rdBin (x:Expr):Option {v:Expr × Operator × Expr × Pos // x = .BinOp v.1 v.2.1 v.2.2.1 v.2.2.2}:=Expr.casesOn (motive_1:=fun x=>Option {v:Expr × Operator × Expr × Pos // x = .BinOp v.1 v.2.1 v.2.2.1 v.2.2.2}) x (fun _ _ _=>none) (fun _ _ _=>none) (fun a o b p=>some ⟨(a,o,b,p),rfl⟩) (fun _ _ _=>none) (fun _ _ _ _=>none) (fun _ _ _ _=>none) (fun _ _ _=>none) (fun _ _ _=>none) (fun _ _ _ _=>none) (fun _ _ _ _=>none) (fun _ _ _ _ _=>none) (fun _ _ _ _=>none) (fun _ _=>none) (fun _ _=>none) (fun _ _=>none) (fun _ _ _ _=>none) (fun _ _ _ _=>none) (fun _ _ _ _=>none) (fun _ _=>none) (fun _ _ _=>none) (fun _ _ _=>none) (fun _ _ _=>none) (fun _ _=>none) (fun _ _=>none) (fun _ _=>none) (fun _ _ _=>none) (fun _ _ _ _=>none)
noncomputable def rdUn (x:Expr):Option {v:UnaryOp × Expr × Pos // x = .UnaryOp v.1 v.2.1 v.2.2}:=Expr.casesOn (motive_1:=fun x=>Option {v:UnaryOp × Expr × Pos // x = .UnaryOp v.1 v.2.1 v.2.2}) x (fun _ _ _=>none) (fun _ _ _=>none) (fun _ _ _ _=>none) (fun o a p=>some ⟨(o,a,p),rfl⟩) (fun _ _ _ _=>none) (fun _ _ _ _=>none) (fun _ _ _=>none) (fun _ _ _=>none) (fun _ _ _ _=>none) (fun _ _ _ _=>none) (fun _ _ _ _ _=>none) (fun _ _ _ _=>none) (fun _ _=>none) (fun _ _=>none) (fun _ _=>none) (fun _ _ _ _=>none) (fun _ _ _ _=>none) (fun _ _ _ _=>none) (fun _ _=>none) (fun _ _ _=>none) (fun _ _ _=>none) (fun _ _ _=>none) (fun _ _=>none) (fun _ _=>none) (fun _ _=>none) (fun _ _ _=>none) (fun _ _ _ _=>none)
noncomputable def rdBool (x:Expr):Option {v:BoolOp × List Expr × Pos // x = .BoolOp v.1 v.2.1 v.2.2}:=Expr.casesOn (motive_1:=fun x=>Option {v:BoolOp × List Expr × Pos // x = .BoolOp v.1 v.2.1 v.2.2}) x (fun o a p=>some ⟨(o,a,p),rfl⟩) (fun _ _ _=>none) (fun _ _ _ _=>none) (fun _ _ _=>none) (fun _ _ _ _=>none) (fun _ _ _ _=>none) (fun _ _ _=>none) (fun _ _ _=>none) (fun _ _ _ _=>none) (fun _ _ _ _=>none) (fun _ _ _ _ _=>none) (fun _ _ _ _=>none) (fun _ _=>none) (fun _ _=>none) (fun _ _=>none) (fun _ _ _ _=>none) (fun _ _ _ _=>none) (fun _ _ _ _=>none) (fun _ _=>none) (fun _ _ _=>none) (fun _ _ _=>none) (fun _ _ _=>none) (fun _ _=>none) (fun _ _=>none) (fun _ _=>none) (fun _ _ _=>none) (fun _ _ _ _=>none)
noncomputable def rdCmp (x:Expr):Option {v:Expr × List CmpOp × List Expr × Pos // x = .Compare v.1 v.2.1 v.2.2.1 v.2.2.2}:=Expr.casesOn (motive_1:=fun x=>Option {v:Expr × List CmpOp × List Expr × Pos // x = .Compare v.1 v.2.1 v.2.2.1 v.2.2.2}) x (fun _ _ _=>none) (fun _ _ _=>none) (fun _ _ _ _=>none) (fun _ _ _=>none) (fun _ _ _ _=>none) (fun _ _ _ _=>none) (fun _ _ _=>none) (fun _ _ _=>none) (fun _ _ _ _=>none) (fun _ _ _ _=>none) (fun _ _ _ _ _=>none) (fun _ _ _ _=>none) (fun _ _=>none) (fun _ _=>none) (fun _ _=>none) (fun a o b p=>some ⟨(a,o,b,p),rfl⟩) (fun _ _ _ _=>none) (fun _ _ _ _=>none) (fun _ _=>none) (fun _ _ _=>none) (fun _ _ _=>none) (fun _ _ _=>none) (fun _ _=>none) (fun _ _=>none) (fun _ _=>none) (fun _ _ _=>none) (fun _ _ _ _=>none)
noncomputable def rdIf (x:Expr):Option {v:Expr × Expr × Expr × Pos // x = .IfExp v.1 v.2.1 v.2.2.1 v.2.2.2}:=Expr.casesOn (motive_1:=fun x=>Option {v:Expr × Expr × Expr × Pos // x = .IfExp v.1 v.2.1 v.2.2.1 v.2.2.2}) x (fun _ _ _=>none) (fun _ _ _=>none) (fun _ _ _ _=>none) (fun _ _ _=>none) (fun _ _ _ _=>none) (fun a b c p=>some ⟨(a,b,c,p),rfl⟩) (fun _ _ _=>none) (fun _ _ _=>none) (fun _ _ _ _=>none) (fun _ _ _ _=>none) (fun _ _ _ _ _=>none) (fun _ _ _ _=>none) (fun _ _=>none) (fun _ _=>none) (fun _ _=>none) (fun _ _ _ _=>none) (fun _ _ _ _=>none) (fun _ _ _ _=>none) (fun _ _=>none) (fun _ _ _=>none) (fun _ _ _=>none) (fun _ _ _=>none) (fun _ _=>none) (fun _ _=>none) (fun _ _=>none) (fun _ _ _=>none) (fun _ _ _ _=>none)
noncomputable def rdCall (x:Expr):Option {v:Expr × List Expr × List Keyword × Pos // x = .Call v.1 v.2.1 v.2.2.1 v.2.2.2}:=Expr.casesOn (motive_1:=fun x=>Option {v:Expr × List Expr × List Keyword × Pos // x = .Call v.1 v.2.1 v.2.2.1 v.2.2.2}) x (fun _ _ _=>none) (fun _ _ _=>none) (fun _ _ _ _=>none) (fun _ _ _=>none) (fun _ _ _ _=>none) (fun _ _ _ _=>none) (fun _ _ _=>none) (fun _ _ _=>none) (fun _ _ _ _=>none) (fun _ _ _ _=>none) (fun _ _ _ _ _=>none) (fun _ _ _ _=>none) (fun _ _=>none) (fun _ _=>none) (fun _ _=>none) (fun _ _ _ _=>none) (fun a b k p=>some ⟨(a,b,k,p),rfl⟩) (fun _ _ _ _=>none) (fun _ _=>none) (fun _ _ _=>none) (fun _ _ _=>none) (fun _ _ _=>none) (fun _ _=>none) (fun _ _=>none) (fun _ _=>none) (fun _ _ _=>none) (fun _ _ _ _=>none)
noncomputable def rdAttr (x:Expr):Option {v:Expr × Str × Pos // x = .Attribute v.1 v.2.1 v.2.2}:=Expr.casesOn (motive_1:=fun x=>Option {v:Expr × Str × Pos // x = .Attribute v.1 v.2.1 v.2.2}) x (fun _ _ _=>none) (fun _ _ _=>none) (fun _ _ _ _=>none) (fun _ _ _=>none) (fun _ _ _ _=>none) (fun _ _ _ _=>none) (fun _ _ _=>none) (fun _ _ _=>none) (fun _ _ _ _=>none) (fun _ _ _ _=>none) (fun _ _ _ _ _=>none) (fun _ _ _ _=>none) (fun _ _=>none) (fun _ _=>none) (fun _ _=>none) (fun _ _ _ _=>none) (fun _ _ _ _=>none) (fun _ _ _ _=>none) (fun _ _=>none) (fun _ _ _=>none) (fun a n p=>some ⟨(a,n,p),rfl⟩) (fun _ _ _=>none) (fun _ _=>none) (fun _ _=>none) (fun _ _=>none) (fun _ _ _=>none) (fun _ _ _ _=>none)
noncomputable def rdSub (x:Expr):Option {v:Expr × Expr × Pos // x = .Subscript v.1 v.2.1 v.2.2}:=Expr.casesOn (motive_1:=fun x=>Option {v:Expr × Expr × Pos // x = .Subscript v.1 v.2.1 v.2.2}) x (fun _ _ _=>none) (fun _ _ _=>none) (fun _ _ _ _=>none) (fun _ _ _=>none) (fun _ _ _ _=>none) (fun _ _ _ _=>none) (fun _ _ _=>none) (fun _ _ _=>none) (fun _ _ _ _=>none) (fun _ _ _ _=>none) (fun _ _ _ _ _=>none) (fun _ _ _ _=>none) (fun _ _=>none) (fun _ _=>none) (fun _ _=>none) (fun _ _ _ _=>none) (fun _ _ _ _=>none) (fun _ _ _ _=>none) (fun _ _=>none) (fun _ _ _=>none) (fun _ _ _=>none) (fun a b p=>some ⟨(a,b,p),rfl⟩) (fun _ _=>none) (fun _ _=>none) (fun _ _=>none) (fun _ _ _=>none) (fun _ _ _ _=>none)
noncomputable def rdSlice (x:Expr):Option {v:Option Expr × Option Expr × Option Expr × Pos // x = .Slice v.1 v.2.1 v.2.2.1 v.2.2.2}:=Expr.casesOn (motive_1:=fun x=>Option {v:Option Expr × Option Expr × Option Expr × Pos // x = .Slice v.1 v.2.1 v.2.2.1 v.2.2.2}) x (fun _ _ _=>none) (fun _ _ _=>none) (fun _ _ _ _=>none) (fun _ _ _=>none) (fun _ _ _ _=>none) (fun _ _ _ _=>none) (fun _ _ _=>none) (fun _ _ _=>none) (fun _ _ _ _=>none) (fun _ _ _ _=>none) (fun _ _ _ _ _=>none) (fun _ _ _ _=>none) (fun _ _=>none) (fun _ _=>none) (fun _ _=>none) (fun _ _ _ _=>none) (fun _ _ _ _=>none) (fun _ _ _ _=>none) (fun _ _=>none) (fun _ _ _=>none) (fun _ _ _=>none) (fun _ _ _=>none) (fun _ _=>none) (fun _ _=>none) (fun _ _=>none) (fun _ _ _=>none) (fun a b c p=>some ⟨(a,b,c,p),rfl⟩)
noncomputable def rdComp (x:Expr):Option {v:Expr × List Comprehension × Scope × Pos // x = .ListComp v.1 v.2.1 v.2.2.1 v.2.2.2}:=Expr.casesOn (motive_1:=fun x=>Option {v:Expr × List Comprehension × Scope × Pos // x = .ListComp v.1 v.2.1 v.2.2.1 v.2.2.2}) x (fun _ _ _=>none) (fun _ _ _=>none) (fun _ _ _ _=>none) (fun _ _ _=>none) (fun _ _ _ _=>none) (fun _ _ _ _=>none) (fun _ _ _=>none) (fun _ _ _=>none) (fun a g s p=>some ⟨(a,g,s,p),rfl⟩) (fun _ _ _ _=>none) (fun _ _ _ _ _=>none) (fun _ _ _ _=>none) (fun _ _=>none) (fun _ _=>none) (fun _ _=>none) (fun _ _ _ _=>none) (fun _ _ _ _=>none) (fun _ _ _ _=>none) (fun _ _=>none) (fun _ _ _=>none) (fun _ _ _=>none) (fun _ _ _=>none) (fun _ _=>none) (fun _ _=>none) (fun _ _=>none) (fun _ _ _=>none) (fun _ _ _ _=>none)
noncomputable def rdJoined (x:Expr):Option {v:List Expr × Pos // x = .JoinedStr v.1 v.2}:=Expr.casesOn (motive_1:=fun x=>Option {v:List Expr × Pos // x = .JoinedStr v.1 v.2}) x (fun _ _ _=>none) (fun _ _ _=>none) (fun _ _ _ _=>none) (fun _ _ _=>none) (fun _ _ _ _=>none) (fun _ _ _ _=>none) (fun _ _ _=>none) (fun _ _ _=>none) (fun _ _ _ _=>none) (fun _ _ _ _=>none) (fun _ _ _ _ _=>none) (fun _ _ _ _=>none) (fun _ _=>none) (fun _ _=>none) (fun _ _=>none) (fun _ _ _ _=>none) (fun _ _ _ _=>none) (fun _ _ _ _=>none) (fun a p=>some ⟨(a,p),rfl⟩) (fun _ _ _=>none) (fun _ _ _=>none) (fun _ _ _=>none) (fun _ _=>none) (fun _ _=>none) (fun _ _=>none) (fun _ _ _=>none) (fun _ _ _ _=>none)
noncomputable def rdFmt (x:Expr):Option {v:Expr × Int × Option Expr × Pos // x = .FormattedValue v.1 v.2.1 v.2.2.1 v.2.2.2}:=Expr.casesOn (motive_1:=fun x=>Option {v:Expr × Int × Option Expr × Pos // x = .FormattedValue v.1 v.2.1 v.2.2.1 v.2.2.2}) x (fun _ _ _=>none) (fun _ _ _=>none) (fun _ _ _ _=>none) (fun _ _ _=>none) (fun _ _ _ _=>none) (fun _ _ _ _=>none) (fun _ _ _=>none) (fun _ _ _=>none) (fun _ _ _ _=>none) (fun _ _ _ _=>none) (fun _ _ _ _ _=>none) (fun _ _ _ _=>none) (fun _ _=>none) (fun _ _=>none) (fun _ _=>none) (fun _ _ _ _=>none) (fun _ _ _ _=>none) (fun a i s p=>some ⟨(a,i,s,p),rfl⟩) (fun _ _=>none) (fun _ _ _=>none) (fun _ _ _=>none) (fun _ _ _=>none) (fun _ _=>none) (fun _ _=>none) (fun _ _=>none) (fun _ _ _=>none) (fun _ _ _ _=>none)
noncomputable def rdAssign (x:Stmt):Option {v:List Expr × Expr × Pos // x = .Assign v.1 v.2.1 v.2.2}:=Stmt.casesOn (motive_2:=fun x=>Option {v:List Expr × Expr × Pos // x = .Assign v.1 v.2.1 v.2.2}) x (fun _ _ _ _ _ _ _ _ _ _=>none) (fun _ _ _ _ _ _ _ _ _ _=>none) (fun _ _ _ _ _ _ _ _ _ _ _=>none) (fun _ _=>none) (fun _ _=>none) (fun a b p=>some ⟨(a,b,p),rfl⟩) (fun _ _ _ _ _ _ _=>none) (fun _ _ _ _=>none) (fun _ _ _ _ _=>none) (fun _ _ _ _ _=>none) (fun _ _ _ _ _=>none) (fun _ _ _ _=>none) (fun _ _ _ _=>none) (fun _ _ _=>none) (fun _ _ _=>none) (fun _ _ _=>none) (fun _ _ _=>none) (fun _ _ _ _ _=>none) (fun _ _ _ _ _=>none) (fun _ _ _=>none) (fun _ _=>none) (fun _ _ _ _=>none) (fun _ _=>none) (fun _ _=>none) (fun _ _=>none) (fun _=>none) (fun _=>none) (fun _=>none)
noncomputable def rdExprS (x:Stmt):Option {v:Expr × Pos // x = .Expr v.1 v.2}:=Stmt.casesOn (motive_2:=fun x=>Option {v:Expr × Pos // x = .Expr v.1 v.2}) x (fun _ _ _ _ _ _ _ _ _ _=>none) (fun _ _ _ _ _ _ _ _ _ _=>none) (fun _ _ _ _ _ _ _ _ _ _ _=>none) (fun _ _=>none) (fun _ _=>none) (fun _ _ _=>none) (fun _ _ _ _ _ _ _=>none) (fun _ _ _ _=>none) (fun _ _ _ _ _=>none) (fun _ _ _ _ _=>none) (fun _ _ _ _ _=>none) (fun _ _ _ _=>none) (fun _ _ _ _=>none) (fun _ _ _=>none) (fun _ _ _=>none) (fun _ _ _=>none) (fun _ _ _=>none) (fun _ _ _ _ _=>none) (fun _ _ _ _ _=>none) (fun _ _ _=>none) (fun _ _=>none) (fun _ _ _ _=>none) (fun _ _=>none) (fun _ _=>none) (fun a p=>some ⟨(a,p),rfl⟩) (fun _=>none) (fun _=>none) (fun _=>none)
noncomputable def rdReturn (x:Stmt):Option {v:Option Expr × Pos // x = .Return v.1 v.2}:=Stmt.casesOn (motive_2:=fun x=>Option {v:Option Expr × Pos // x = .Return v.1 v.2}) x (fun _ _ _ _ _ _ _ _ _ _=>none) (fun _ _ _ _ _ _ _ _ _ _=>none) (fun _ _ _ _ _ _ _ _ _ _ _=>none) (fun a p=>some ⟨(a,p),rfl⟩) (fun _ _=>none) (fun _ _ _=>none) (fun _ _ _ _ _ _ _=>none) (fun _ _ _ _=>none) (fun _ _ _ _ _=>none) (fun _ _ _ _ _=>none) (fun _ _ _ _ _=>none) (fun _ _ _ _=>none) (fun _ _ _ _=>none) (fun _ _ _=>none) (fun _ _ _=>none) (fun _ _ _=>none) (fun _ _ _=>none) (fun _ _ _ _ _=>none) (fun _ _ _ _ _=>none) (fun _ _ _=>none) (fun _ _=>none) (fun _ _ _ _=>none) (fun _ _=>none) (fun _ _=>none) (fun _ _=>none) (fun _=>none) (fun _=>none) (fun _=>none)
noncomputable def rdIfS (x:Stmt):Option {v:Expr × List Stmt × List Stmt × Pos // x = .If v.1 v.2.1 v.2.2.1 v.2.2.2}:=Stmt.casesOn (motive_2:=fun x=>Option {v:Expr × List Stmt × List Stmt × Pos // x = .If v.1 v.2.1 v.2.2.1 v.2.2.2}) x (fun _ _ _ _ _ _ _ _ _ _=>none) (fun _ _ _ _ _ _ _ _ _ _=>none) (fun _ _ _ _ _ _ _ _ _ _ _=>none) (fun _ _=>none) (fun _ _=>none) (fun _ _ _=>none) (fun _ _ _ _ _ _ _=>none) (fun _ _ _ _=>none) (fun _ _ _ _ _=>none) (fun _ _ _ _ _=>none) (fun _ _ _ _ _=>none) (fun _ _ _ _=>none) (fun a b c p=>some ⟨(a,b,c,p),rfl⟩) (fun _ _ _=>none) (fun _ _ _=>none) (fun _ _ _=>none) (fun _ _ _=>none) (fun _ _ _ _ _=>none) (fun _ _ _ _ _=>none) (fun _ _ _=>none) (fun _ _=>none) (fun _ _ _ _=>none) (fun _ _=>none) (fun _ _=>none) (fun _ _=>none) (fun _=>none) (fun _=>none) (fun _=>none)
noncomputable def rdFor (x:Stmt):Option {v:Expr × Expr × List Stmt × List Stmt × Pos // x = .For v.1 v.2.1 v.2.2.1 v.2.2.2.1 v.2.2.2.2}:=Stmt.casesOn (motive_2:=fun x=>Option {v:Expr × Expr × List Stmt × List Stmt × Pos // x = .For v.1 v.2.1 v.2.2.1 v.2.2.2.1 v.2.2.2.2}) x (fun _ _ _ _ _ _ _ _ _ _=>none) (fun _ _ _ _ _ _ _ _ _ _=>none) (fun _ _ _ _ _ _ _ _ _ _ _=>none) (fun _ _=>none) (fun _ _=>none) (fun _ _ _=>none) (fun _ _ _ _ _ _ _=>none) (fun _ _ _ _=>none) (fun _ _ _ _ _=>none) (fun a b c d p=>some ⟨(a,b,c,d,p),rfl⟩) (fun _ _ _ _ _=>none) (fun _ _ _ _=>none) (fun _ _ _ _=>none) (fun _ _ _=>none) (fun _ _ _=>none) (fun _ _ _=>none) (fun _ _ _=>none) (fun _ _ _ _ _=>none) (fun _ _ _ _ _=>none) (fun _ _ _=>none) (fun _ _=>none) (fun _ _ _ _=>none) (fun _ _=>none) (fun _ _=>none) (fun _ _=>none) (fun _=>none) (fun _=>none) (fun _=>none)
noncomputable def on {α:Type} (o:Option α) (k:α→Bool):Bool:=match o with
 | some a=>k a
 | none=>false
noncomputable def one? {α:Type}:(l:List α)→Option {a:α // l=[a]}
 | []=>none
 | [a]=>some ⟨a,rfl⟩
 | _::_::_=>none
noncomputable def two? {α:Type}:(l:List α)→Option {a:α × α // l=[a.1,a.2]}
 | []=>none
 | [_]=>none
 | [a,b]=>some ⟨(a,b),rfl⟩
 | _::_::_::_=>none
noncomputable def cons? {α:Type}:(l:List α)→Option {a:α × List α // l=a.1::a.2}
 | []=>none
 | a::r=>some ⟨(a,r),rfl⟩
noncomputable def notFree (sc:Names) (x:Str):Bool:=decide (sc.lookup x ≠ some .free)
noncomputable def isNil {α:Type}:(l:List α)→Option (PLift (l=[]))
 | []=>some ⟨rfl⟩
 | _::_=>none
noncomputable def isNone? {α:Type}:(l:Option α)→Option (PLift (l=none))
 | none=>some ⟨rfl⟩
 | some _=>none
noncomputable def some? {α:Type}:(l:Option α)→Option {a:α // l=some a}
 | none=>none
 | some a=>some ⟨a,rfl⟩
noncomputable def clause? : (r:List Comprehension)→Option {v:Expr × Expr × List Expr × List Comprehension // r=⟨v.1,v.2.1,v.2.2.1,0⟩::v.2.2.2}
 | []=>none
 | ⟨t,i,f,a⟩::r=>if h:a=0 then some ⟨(t,i,f,r),by rw [h]⟩ else none
noncomputable def pairs? : (ks:List (Option Expr))→(vs:List Expr)→Option {l:List (Expr × Expr) // ks=l.map (fun q=>some q.1)∧vs=l.map (·.2)}
 | [],[]=>some ⟨[],rfl,rfl⟩
 | some k::ks,v::vs=>(match pairs? ks vs with
  | some ⟨l,h1,h2⟩=>some ⟨(k,v)::l,by rw [h1]; rfl,by rw [h2]; rfl⟩
  | none=>none)
 | _,_=>none
noncomputable def exIs (t:Str) (sc:Names) (xs:List Expr):Option {y:Expr × Pos // xs=[y.1,.Name t y.2]∧isGlob sc t=true}:=match two? xs with
 | none=>none
 | some ⟨(a,b),e⟩=>match rdName b with
  | none=>none
  | some ⟨(n,p),e2⟩=>if h:n=t∧isGlob sc t=true then some ⟨(a,p),by rw [e]; dsimp only; rw [e2,← h.1],h.2⟩ else none
noncomputable def exIn (t:Str) (sc:Names) (xs:List Expr):Option {y:List Expr × Pos × Pos // xs=[.Call (.Name t y.2.1) y.1 [] y.2.2]∧isGlob sc t=true}:=match one? xs with
 | none=>none
 | some ⟨a,e⟩=>match rdCall a with
  | none=>none
  | some ⟨(f,ys,ks,q),e2⟩=>match rdName f,isNil ks with
   | some ⟨(n,p),e3⟩,some ⟨e4⟩=>if h:n=t∧isGlob sc t=true then some ⟨(ys,p,q),by rw [e,e2]; dsimp only; rw [e3,← h.1,e4],h.2⟩ else none
   | _,_=>none
noncomputable def firstExtra (k:BI) (args:List Expr) (sc:Names):Option (List Expr):=match k with
 | .isBool=>match exIs "bool" sc args with | some y=>some [y.1.1] | none=>none
 | .sortedSet=>match exIn "set" sc args with | some y=>some y.1.1 | none=>none
 | .len=>some args
 | .abs=>some args
 | .int=>some args
 | .str=>some args
 | .max1=>some args
 | .min1=>some args
 | .max2=>some args
 | .min2=>some args
 | .tuple=>some args
 | .sorted=>some args
noncomputable def isLoc (sc:Names) (x:Str):Bool:=decide (sc.lookup x=some .local)
noncomputable def isOwn (sc:Names) (x:Str):Bool:=decide (sc.lookup x=some .local∨sc.lookup x=some .cell)
mutual
noncomputable def locT (sc:Names):CT→Expr→Bool
 | .nm _,x=>on (rdName x) fun v=>isLoc sc v.1.1
 | .tup ts,x=>on (rdTuple x) fun v=>locTs sc ts v.1.1
noncomputable def locTs (sc:Names):CTs→List Expr→Bool
 | .nil,_=>true
 | .cons t r,xs=>on (cons? xs) fun v=>locT sc t v.1.1&&locTs sc r v.1.2
end
mutual
noncomputable def locO (sc:Names):CT→Expr→Bool
 | .nm _,x=>on (rdName x) fun v=>isOwn sc v.1.1
 | .tup ts,x=>on (rdTuple x) fun v=>locOs sc ts v.1.1
noncomputable def locOs (sc:Names):CTs→List Expr→Bool
 | .nil,_=>true
 | .cons t r,xs=>on (cons? xs) fun v=>locO sc t v.1.1&&locOs sc r v.1.2
end
noncomputable def isSetX (x:Expr):Bool:=Expr.casesOn (motive_1:=fun _=>Bool) x (fun _ _ _=>false) (fun _ _ _=>false) (fun _ _ _ _=>false) (fun _ _ _=>false) (fun _ _ _ _=>false) (fun _ _ _ _=>false) (fun _ _ _=>false) (fun _ _ _=>true) (fun _ _ _ _=>false) (fun _ _ _ _=>false) (fun _ _ _ _ _=>false) (fun _ _ _ _=>false) (fun _ _=>false) (fun _ _=>false) (fun _ _=>false) (fun _ _ _ _=>false) (fun _ _ _ _=>false) (fun _ _ _ _=>false) (fun _ _=>false) (fun _ _ _=>false) (fun _ _ _=>false) (fun _ _ _=>false) (fun _ _=>false) (fun _ _=>false) (fun _ _=>false) (fun _ _ _=>false) (fun _ _ _ _=>false)
noncomputable def isStarX (x:Expr):Bool:=Expr.casesOn (motive_1:=fun _=>Bool) x (fun _ _ _=>false) (fun _ _ _=>false) (fun _ _ _ _=>false) (fun _ _ _=>false) (fun _ _ _ _=>false) (fun _ _ _ _=>false) (fun _ _ _=>false) (fun _ _ _=>false) (fun _ _ _ _=>false) (fun _ _ _ _=>false) (fun _ _ _ _ _=>false) (fun _ _ _ _=>false) (fun _ _=>false) (fun _ _=>false) (fun _ _=>false) (fun _ _ _ _=>false) (fun _ _ _ _=>false) (fun _ _ _ _=>false) (fun _ _=>false) (fun _ _ _=>false) (fun _ _ _=>false) (fun _ _ _=>false) (fun _ _=>true) (fun _ _=>false) (fun _ _=>false) (fun _ _ _=>false) (fun _ _ _ _=>false)
noncomputable def noSD (x:Expr):Bool:=Expr.casesOn (motive_1:=fun _=>Bool) x (fun _ _ _=>true) (fun _ _ _=>true) (fun _ _ _ _=>true) (fun _ _ _=>true) (fun _ _ _ _=>true) (fun _ _ _ _=>true) (fun _ _ _=>true) (fun _ _ _=>true) (fun _ _ _ _=>true) (fun _ _ _ _=>false) (fun _ _ _ _ _=>false) (fun _ _ _ _=>true) (fun _ _=>true) (fun _ _=>true) (fun _ _=>true) (fun _ _ _ _=>true) (fun _ _ _ _=>true) (fun _ _ _ _=>true) (fun _ _=>true) (fun _ _ _=>true) (fun _ _ _=>true) (fun _ _ _=>true) (fun _ _=>true) (fun _ _=>true) (fun _ _=>true) (fun _ _ _=>true) (fun _ _ _ _=>true)
noncomputable def notSet (x:Expr):Bool:=!isSetX x
noncomputable def noStar:List Expr→Bool
 | []=>true
 | x::r=>!isStarX x&&noStar r
noncomputable def isNameX (x:Expr):Bool:=(rdName x).isSome
noncomputable def notSlice (x:Expr):Bool:=(rdSlice x).isNone
noncomputable def attrBaseOk (x:Expr):Bool:=match rdCall x with
 | none=>true
 | some v=>!(isNameX v.1.1&&v.1.2.1.isEmpty&&v.1.2.2.1.isEmpty)
noncomputable def strC? (e:CE):Option {y:Str // e = .str y}:=match e with
 | .str y=>some ⟨y,rfl⟩
 | _=>none
noncomputable def isStrC:CEs→Bool
 | .nil=>false
 | .cons e _=>(strC? e).isSome
noncomputable def globOk (C:Cfg) (gi:Nat) (y:Str):Bool:=match C.globs[gi]? with
 | some p=>isNm C p.1 y
 | none=>false
mutual
noncomputable def chkE (C:Cfg):CE→Names→Expr→Bool
 | .stuck,_,_=>true
 | .none,_,x=>on (rdConst x) fun v=>decide (v.1.1 = .none)
 | .bool b,_,x=>on (rdConst x) fun v=>decide (v.1.1 = .bool b)
 | .int i,_,x=>on (rdConst x) fun v=>decide (v.1.1 = .int i)
 | .str y,_,x=>on (rdConst x) fun v=>decide (v.1.1 = .str y)
 | .var i,sc,x=>on (rdName x) fun v=>isNm C i v.1.1&&isVar sc v.1.1
 | .glob gi,sc,x=>on (rdName x) fun v=>isGlob sc v.1.1&&globOk C gi v.1.1
 | .tup es,sc,x=>on (rdTuple x) fun v=>noStar v.1.1&&decide (v.1.1.length≤1000)&&chkEs C es sc v.1.1
 | .list _ es,sc,x=>on (rdList x) fun v=>noStar v.1.1&&decide (v.1.1.length≤1000)&&chkEs C es sc v.1.1
 | .dict _ es,sc,x=>on (rdDict x) fun v=>on (pairs? v.1.1 v.1.2.1) fun l=>decide (l.1.length≤2)&&chkEs C es sc (l.1.flatMap fun q=>[q.1,q.2])
 | .bin o _ a b,sc,x=>on (rdBin x) fun v=>decide (v.1.2.1=opK o)&&chkE C a sc v.1.1&&chkE C b sc v.1.2.2.1
 | .not a,sc,x=>on (rdUn x) fun v=>decide (v.1.1 = .Not)&&chkE C a sc v.1.2.1
 | .and es,sc,x=>on (rdBool x) fun v=>decide (v.1.1 = .And)&&chkEs C es sc v.1.2.1
 | .or es,sc,x=>on (rdBool x) fun v=>decide (v.1.1 = .Or)&&chkEs C es sc v.1.2.1
 | .cmp o a b,sc,x=>on (rdCmp x) fun v=>on (one? v.1.2.1) fun op=>on (one? v.1.2.2.1) fun y=>decide (op.1=cmpK o)&&notSet y.1&&chkE C a sc v.1.1&&chkE C b sc y.1
 | .ife t a b,sc,x=>on (rdIf x) fun v=>chkE C t sc v.1.1&&chkE C a sc v.1.2.1&&chkE C b sc v.1.2.2.1
 | .call f es,sc,x=>on (rdCall x) fun v=>on (isNil v.1.2.2.1) fun _=>on (rdName v.1.1) fun n=>isGlob sc n.1.1&&decide (C.gf.lookup n.1.1=some f)&&noStar v.1.2.1&&decide (v.1.2.1.length<30)&&chkEs C es sc v.1.2.1
 | .new c es,sc,x=>on (rdCall x) fun v=>on (isNil v.1.2.2.1) fun _=>on (rdName v.1.1) fun n=>isGlob sc n.1.1&&decide (C.gc.lookup n.1.1=some c)&&noStar v.1.2.1&&decide (v.1.2.1.length<30)&&chkEs C es sc v.1.2.1
 | .meth a m es,sc,x=>on (rdCall x) fun v=>on (isNil v.1.2.2.1) fun _=>on (rdAttr v.1.1) fun n=>isNm C m n.1.2.1&&attrBaseOk n.1.1&&decide (n.1.2.2.endLine=v.1.2.2.2.line)&&noStar v.1.2.1&&decide (v.1.2.1.length<30)&&chkE C a sc n.1.1&&chkEs C es sc v.1.2.1
 | .bm k a es,sc,x=>on (rdCall x) fun v=>on (isNil v.1.2.2.1) fun _=>on (rdAttr v.1.1) fun n=>decide (n.1.2.1=bmName k)&&attrBaseOk n.1.1&&decide (n.1.2.2.endLine=v.1.2.2.2.line)&&noStar v.1.2.1&&decide (v.1.2.1.length<30)&&chkE C a sc n.1.1&&chkEs C es sc v.1.2.1
 | .bi k es,sc,x=>on (rdCall x) fun v=>on (isNil v.1.2.2.1) fun _=>on (rdName v.1.1) fun n=>isGlob sc n.1.1&&decide (n.1.1=biName k)&&noStar v.1.2.1&&on (firstExtra k v.1.2.1 sc) (fun ys=>noStar ys&&chkEs C es sc ys)
 | .attr a m,sc,x=>on (rdAttr x) fun v=>isNm C m v.1.2.1&&C.dat.contains m&&attrBaseOk v.1.1&&chkE C a sc v.1.1
 | .sub a i,sc,x=>on (rdSub x) fun v=>notSlice v.1.2.1&&chkE C a sc v.1.1&&chkE C i sc v.1.2.1
 | .slice a lo hi,sc,x=>on (rdSub x) fun v=>on (rdSlice v.1.2.1) fun u=>on (isNone? u.1.2.2.1) fun _=>chkE C a sc v.1.1&&chkO C lo sc u.1.1&&chkO C hi sc u.1.2.1
 | .comp xs c,sc,x=>on (rdComp x) fun v=>scopeOk v.1.2.2.1 sc&&delOk C xs v.1.2.2.1.names&&on (clause? v.1.2.1) fun w=>chkLF C c sc (relab v.1.2.2.1.names sc) v.1.2.2.1.names v.1.1 w.1.1 w.1.2.1 w.1.2.2.1 w.1.2.2.2
 | .fstr es,sc,x=>on (rdJoined x) fun v=>on (two? v.1.1) fun u=>on (rdFmt u.1.2) fun f=>isStrC es&&on (isNone? f.1.2.2.1) fun _=>decide (f.1.2.1 = -1)&&chkEs C es sc [u.1.1,f.1.1]
noncomputable def chkEs (C:Cfg):CEs→Names→List Expr→Bool
 | .nil,_,xs=>on (isNil xs) fun _=>true
 | .cons e r,sc,xs=>on (cons? xs) fun v=>chkE C e sc v.1.1&&chkEs C r sc v.1.2
noncomputable def chkO (C:Cfg):CO→Names→Option Expr→Bool
 | .none,_,x=>on (isNone? x) fun _=>true
 | .some e,sc,x=>on (some? x) fun v=>chkE C e sc v.1
noncomputable def chkI (C:Cfg):CI→Names→Expr→Expr→Bool
 | .it e,sc,_,x=>notSet x&&chkE C e sc x
 | .range1 a,sc,_,x=>on (rdCall x) fun v=>on (isNil v.1.2.2.1) fun _=>on (rdName v.1.1) fun n=>on (one? v.1.2.1) fun y=>decide (n.1.1=("range" : Str))&&isGlob sc n.1.1&&noStar [y.1]&&chkE C a sc y.1
 | .range2 a b,sc,_,x=>on (rdCall x) fun v=>on (isNil v.1.2.2.1) fun _=>on (rdName v.1.1) fun n=>on (two? v.1.2.1) fun y=>decide (n.1.1=("range" : Str))&&isGlob sc n.1.1&&noStar [y.1.1,y.1.2]&&chkE C a sc y.1.1&&chkE C b sc y.1.2
 | .zip a b,sc,tx,x=>on (rdTuple tx) fun _=>on (rdCall x) fun v=>on (isNil v.1.2.2.1) fun _=>on (rdName v.1.1) fun n=>on (two? v.1.2.1) fun y=>decide (n.1.1=("zip" : Str))&&isGlob sc n.1.1&&noStar [y.1.1,y.1.2]&&chkE C a sc y.1.1&&chkE C b sc y.1.2
noncomputable def chkMore (C:Cfg):CL→Names→Expr→List Comprehension→Bool
 | .elt e,sc,elt,r=>on (isNil r) fun _=>chkE C e sc elt
 | .cons t it ifs more,sc,elt,r=>on (clause? r) fun v=>chkT C t sc v.1.1&&locT sc t v.1.1&&chkI C it sc v.1.1 v.1.2.1&&chkEs C ifs sc v.1.2.2.1&&chkMore C more sc elt v.1.2.2.2
noncomputable def chkLF (C:Cfg):CL→Names→Names→Names→Expr→Expr→Expr→List Expr→List Comprehension→Bool
 | .elt _,_,_,_,_,_,_,_,_=>false
 | .cons t it ifs more,sc,sc',own,elt,tx,ix,fs,r=>chkT C t sc' tx&&locO own t tx&&chkI C it sc tx ix&&chkEs C ifs sc' fs&&chkMore C more sc' elt r
noncomputable def chkT (C:Cfg):CT→Names→Expr→Bool
 | .nm i,sc,x=>on (rdName x) fun v=>isNm C i v.1.1&&isVar sc v.1.1&&notFree sc v.1.1
 | .tup ts,sc,x=>on (rdTuple x) fun v=>noStar v.1.1&&chkTs C ts sc v.1.1
noncomputable def chkTs (C:Cfg):CTs→Names→List Expr→Bool
 | .nil,_,xs=>on (isNil xs) fun _=>true
 | .cons t r,sc,xs=>on (cons? xs) fun v=>chkT C t sc v.1.1&&chkTs C r sc v.1.2
end
noncomputable def namesOf:CTs→Option (List Nat)
 | .nil=>some []
 | .cons (.nm i) r=>(namesOf r).map (i::·)
 | .cons _ _=>none
noncomputable def nodupN:List Nat→Bool
 | []=>true
 | a::r=>!r.contains a&&nodupN r
noncomputable def tupOk (vs:List Expr):Bool:=vs.all (foldedForSure 8)||!vs.all (constantsAlone 8)
noncomputable def nodupO:Option (List Nat)→Bool
 | some l=>nodupN l
 | none=>true
noncomputable def tupC (t:CT) (x:Expr):Bool:=match t with
 | .nm _=>true
 | .tup ts=>match rdTuple x with
  | some v=>tupOk v.1.1&&nodupO (namesOf ts)
  | none=>true
mutual
noncomputable def chkS (C:Cfg):CS→Names→Stmt→Bool
 | .assign t e,sc,x=>on (rdAssign x) fun v=>on (one? v.1.1) fun tx=>chkT C t sc tx.1&&chkE C e sc v.1.2.1&&tupC t v.1.2.1&&noSD v.1.2.1
 | .setAttr a m e,sc,x=>on (rdAssign x) fun v=>on (one? v.1.1) fun tx=>on (rdAttr tx.1) fun u=>isNm C m u.1.2.1&&C.dat.contains m&&chkE C a sc u.1.1&&chkE C e sc v.1.2.1
 | .setSub a i e,sc,x=>on (rdAssign x) fun v=>on (one? v.1.1) fun tx=>on (rdSub tx.1) fun u=>notSlice u.1.2.1&&chkE C a sc u.1.1&&chkE C i sc u.1.2.1&&chkE C e sc v.1.2.1
 | .expr e,sc,x=>on (rdExprS x) fun v=>on (rdCall v.1.1) fun _=>chkE C e sc v.1.1
 | .ret e,sc,x=>on (rdReturn x) fun v=>on (some? v.1.1) fun y=>chkE C e sc y.1
 | .retNone,_,x=>on (rdReturn x) fun v=>on (isNone? v.1.1) fun _=>true
 | .ifS t a b,sc,x=>on (rdIfS x) fun v=>chkE C t sc v.1.1&&chkSs C a sc v.1.2.1&&chkSs C b sc v.1.2.2.1
 | .forS t it b,sc,x=>on (rdFor x) fun v=>on (isNil v.1.2.2.2.1) fun _=>chkT C t sc v.1.1&&chkI C it sc v.1.1 v.1.2.1&&chkSs C b sc v.1.2.2.1
 | .superInit _ _ _,_,_=>false
 | .stuck,_,_=>true
noncomputable def chkSs (C:Cfg):CSs→Names→List Stmt→Bool
 | .nil,_,xs=>on (isNil xs) fun _=>true
 | .cons s r,sc,xs=>on (cons? xs) fun v=>chkS C s sc v.1.1&&chkSs C r sc v.1.2
end
noncomputable def builtNames:List (Str × Value):=[("len", .builtin "len"),("abs", .builtin "abs"),("max", .builtin "max"),("min", .builtin "min"),("isinstance", .builtin "isinstance"),("sorted", .builtin "sorted"),
 ("int", .type "int"),("str", .type "str"),("tuple", .type "tuple"),("list", .type "list"),("dict", .type "dict"),("set", .type "set"),("range", .type "range"),("zip", .type "zip"),("bool", .type "bool")]
noncomputable def allNm (C:Cfg):List Nat→List Str→Bool
 | [],[]=>true
 | i::r,x::xs=>isNm C i x&&allNm C r xs
 | _,_=>false
structure RowD where
 P:Prog
 nm:List Str
 gf:List (Str × Nat)
 gc:List (Str × Nat)
 dat:List Nat
 fa:List Nat
 cls:List Nat
noncomputable def RowD.cfg (D:RowD):Cfg:={ nm:=D.nm,gf:=D.gf,gc:=D.gc,globs:=D.P.globs,dat:=D.dat,meths:=[] }
noncomputable def int? (v:Value):Option {x:Int × Tok // v = .int x.1 x.2}:=match v with
 | .int i t=>some ⟨(i,t),rfl⟩
 | _=>none
noncomputable def str? (v:Value):Option {x:Str × Tok // v = .str x.1 x.2}:=match v with
 | .str i t=>some ⟨(i,t),rfl⟩
 | _=>none
noncomputable def ref? (v:Value):Option {a:Addr // v = .ref a}:=match v with
 | .ref a=>some ⟨a,rfl⟩
 | _=>none
noncomputable def seq? (d:Data):Option {x:Array Value × Nat // d = .seq x.1 x.2}:=match d with
 | .seq a n=>some ⟨(a,n),rfl⟩
 | _=>none
noncomputable def func? (d:Data):Option {f:FuncData // d = .func f}:=match d with
 | .func f=>some ⟨f,rfl⟩
 | _=>none
noncomputable def stmts? (b:FuncBody):Option {l:List Stmt // b = .stmts l}:=match b with
 | .stmts l=>some ⟨l,rfl⟩
 | _=>none
noncomputable def ands:List Bool→Bool
 | []=>true
 | b::r=>b&&ands r
mutual
noncomputable def rpIn (K:Frag):PV→Value→Bool
 | .none,v=>decide (v = .none)
 | .bool b,v=>decide (v = .bool b)
 | .int i,v=>on (int? v) fun x=>decide (x.1.1=i)
 | .str i,v=>on (str? v) fun x=>decide (x.1.1=i)
 | .tup ps,v=>on (ref? v) fun a=>on (K.lookup a.1).attach fun o=>on (seq? o.1.data) fun d=>decide (o.1.cls = .type "tuple")&&rpsIn K ps d.1.1.toList
 | .lst _,_=>false
noncomputable def rpsIn (K:Frag):List PV→List Value→Bool
 | [],vs=>vs.isEmpty
 | p::ps,vs=>on (cons? vs) fun c=>rpIn K p c.1.1&&rpsIn K ps c.1.2
end
noncomputable def isFuncAt (K:Frag) (a:Nat):Bool:=on (K.lookup a).attach fun o=>on (func? o.1.data) fun _=>true
noncomputable def RowD.wiredB (D:RowD) (K:Frag):Bool:=ands [
 D.gf.all (fun x=>decide (nsIn K mainGlobals x.1=some (some (.ref (D.fa.getD x.2 0))))&&decide (x.2<D.P.fns.length)),
 D.gc.all (fun x=>decide (nsIn K mainGlobals x.1=some (some (.ref (D.cls.getD x.2 0))))),
 (List.range D.P.fns.length).all (fun f=>isFuncAt K (D.fa.getD f 0)),
 D.P.globs.all (fun x=>on (D.nm[x.1]?) fun n=>on (nsIn K mainGlobals n) fun ov=>on ov fun v=>rpIn K x.2 v),
 builtNames.all (fun x=>decide (nsIn K mainGlobals x.1=some none)),
 D.P.meths.all (fun x=>on (D.nm[x.1.2]?) fun n=>decide (findIn K (.ref (D.cls.getD x.1.1 0)) n=some (some (.ref (D.fa.getD x.2 0))))&&decide (typeIn K (.ref (D.fa.getD x.2 0))=some (.type "function"))),
 D.P.meths.all (fun x=>decide (x.2<D.P.fns.length)),
 D.P.inits.all (fun x=>ands [decide (findIn K (.ref (D.cls.getD x.1 0)) "__getattribute__" = some (some (.builtin "object.__getattribute__"))),decide (findIn K (.ref (D.cls.getD x.1 0)) "__getattr__" = some none),makesIn K (D.cls.getD x.1 0),keepIn K (.ref (D.cls.getD x.1 0)),
  (match x.2 with | some f=>ands [decide (findIn K (.ref (D.cls.getD x.1 0)) "__init__" = some (some (.ref (D.fa.getD f 0)))),decide (typeIn K (.ref (D.fa.getD f 0))=some (.type "function")),decide (f<D.P.fns.length)] | none=>true)])]
noncomputable def RowD.clsB (D:RowD) (K:Frag):Bool :=
 D.P.inits.all (fun x=>ands [plainGet K (D.cls.getD x.1 0) Str.empty,hasDictIn K (D.cls.getD x.1 0),decide (findIn K (.ref (D.cls.getD x.1 0)) "__setattr__" = some (some (.builtin "object.__setattr__"))),plainOver K (D.cls.getD x.1 0),
  D.dat.all (fun m=>on (D.nm[m]?) fun n=>decide (findIn K (.ref (D.cls.getD x.1 0)) n=some none))])&&decide D.nm.Nodup
noncomputable def plainPB (p:Arguments):Bool:=ands [p.posonlyargs.isEmpty,p.vararg.isNone,p.kwonlyargs.isEmpty,p.kw_defaults.isEmpty,p.kwarg.isNone,p.defaults.isEmpty]
noncomputable def fdB (K:Frag) (C:Cfg) (fd:Fn) (FD:FuncData) (body:List Stmt):Bool:=ands [codeIn K FD.code FD.qualname,FD.closure.isEmpty,plainPB FD.params,decide (FD.defaults = .none),allNm C fd.params (FD.params.args.map (·.arg)),decide (FD.params.args.map (·.arg)).Nodup,
   decide (FD.globals=mainGlobals),decide (FD.builtins=builtinsNs),isFun FD.scope.kind,!FD.scope.isCoroutine,!FD.scope.isGenerator,FD.scope.names.all (fun x=>decide (x.2 ≠ .free)),
   (FD.params.args.map (·.arg)).all (fun x=>decide (FD.scope.names.lookup x=some .local∨FD.scope.names.lookup x=some .cell)),chkSs C fd.body FD.scope.names body]
noncomputable def RowD.fnB (D:RowD) (K:Frag) (f:Nat) (fd:Fn):Bool:=on (K.lookup (D.fa.getD f 0)).attach fun o=>on (func? o.1.data) fun FD=>on (stmts? FD.1.body) fun b=>fdB K D.cfg fd FD.1 b.1
structure SupD where
 f:Nat
 c:Nat
 fb:Nat
 m:Nat
 x:Nat
 cc:Addr
 DD:Addr
 cda:Addr
 slf:Str
 n:Str
noncomputable def supFirst (x:Stmt):Bool:=on (rdExprS x) fun v=>on (rdCall v.1.1) fun c=>on (isNil c.1.2.1) fun _=>on (isNil c.1.2.2.1) fun _=>on (rdAttr c.1.1) fun a=>on (rdCall a.1.1) fun c2=>on (isNil c2.1.2.1) fun _=>on (isNil c2.1.2.2.1) fun _=>on (rdName c2.1.1) fun n =>
 decide (n.1.1 = "super")&&decide (a.1.2.1 = "__init__")&&(a.1.2.2.endLine == c.1.2.2.2.line)
noncomputable def supSecond (S:SupD) (x:Stmt):Bool:=on (rdAssign x) fun v=>on (one? v.1.1) fun t=>on (rdAttr t.1) fun a=>on (rdName a.1.1) fun n=>on (rdConst v.1.2.1) fun k=>decide (n.1.1=S.slf)&&decide (a.1.2.1=S.n)&&decide (k.1.1 = .none)
noncomputable def supBody (S:SupD) (b:FuncBody):Bool:=on (stmts? b) fun l=>on (two? l.1) fun v=>supFirst v.1.1&&supSecond S v.1.2
noncomputable def supFd (S:SupD) (FD:FuncData) (a:Arg):Bool:=ands [
 supBody S FD.body,decide (FD.closure=[(("__class__" : Str),S.cc)]),decide (FD.code = .ref S.cda),plainPB FD.params,decide (a.arg=S.slf),decide (FD.defaults = .none),
 decide (FD.globals=mainGlobals),decide (FD.builtins=builtinsNs),isFun FD.scope.kind,!FD.scope.isCoroutine,!FD.scope.isGenerator,FD.scope.names.all (fun x=>decide (x.2 ≠ .cell)),
 decide (FD.scope.names.lookup ("super" : Str)=some .globalImplicit),decide (FD.scope.names.lookup ("__class__" : Str)=some .free),decide (FD.scope.names.lookup S.slf=some .local)]
noncomputable def super? (b:CS):Option {v:Nat × Nat × Nat // b = .superInit v.1 v.2.1 v.2.2}:=match b with
 | .superInit a b c=>some ⟨(a,b,c),rfl⟩
 | _=>none
noncomputable def setNone? (b:CS):Option {v:Nat × Nat // b = .setAttr (.var v.1) v.2 .none}:=match b with
 | .setAttr a m e=>match a with
  | .var x=>match e with
   | .none=>some ⟨(x,m),rfl⟩
   | _=>none
  | _=>none
 | _=>none
noncomputable def supBodyC (S:SupD) (b:CSs):Bool:=match b with
 | .nil=>false
 | .cons s r=>match r with
  | .nil=>false
  | .cons s2 r2=>match r2 with
   | .cons _ _=>false
   | .nil=>on (super? s) fun v=>on (setNone? s2) fun w=>decide (v.1.1=S.c)&&decide (v.1.2.1=S.fb)&&decide (v.1.2.2=S.x)&&decide (w.1.1=S.x)&&decide (w.1.2=S.m)
noncomputable def fields? (d:Data):Option {vs:Array Value // d = .fields vs}:=match d with
 | .fields vs=>some ⟨vs,rfl⟩
 | _=>none
noncomputable def cell? (d:Data):Option {v:Value // d = .cell (some v)}:=match d with
 | .cell v=>match v with
  | some v=>some ⟨v,rfl⟩
  | none=>none
 | _=>none
noncomputable def RowD.supA (D:RowD) (prog:Program) (K:Frag) (S:SupD) (FD:FuncData) (fl:Str) (cv:Value) (fd:Fn):List Bool:=[
 codeIn K FD.code FD.qualname,(prog.main.file:Str) == fl,decide (cv = .ref S.DD),
 (clsIn K S.DD).isSome,decide (mroIn K (D.cls.getD S.c 0) (.ref S.DD)=some true),decide (ks_superIn K (D.cls.getD S.c 0) S.DD "__init__" = some (some (.ref (D.fa.getD S.fb 0)))),
 fnIn K (D.fa.getD S.fb 0),decide (typeIn K (.ref (D.fa.getD S.fb 0))=some (.type "function")),
 !(prog.main.scope.names.lookup ("super" : Str)).isSome,decide (nsIn K mainGlobals "super" = some none),decide (nsIn K cStatics "thirdparty.any" = some none),
 decide (D.nm[S.m]? = some S.n),D.dat.contains S.m,decide (S.fb<D.P.fns.length),!(S.slf == ("__debug__" : Str)),supBodyC S fd.body,decide (fd.params=[S.x]),!fd.trim]
noncomputable def RowD.supT (D:RowD) (prog:Program) (K:Frag) (S:SupD) (FD:FuncData) (a:Arg) (fl:Str) (cv:Value) (fd:Fn):Bool:=supFd S FD a&&ands (D.supA prog K S FD fl cv fd)
noncomputable def RowD.supB (D:RowD) (prog:Program) (K:Frag) (S:SupD):Bool :=
 on (K.lookup (D.fa.getD S.f 0)).attach fun o=>on (func? o.1.data) fun FD=>on (one? FD.1.params.args) fun a=>on (K.lookup S.cda).attach fun oc=>on (fields? oc.1.data) fun vs=>on (vs.1[2]?).attach fun fv=>on (str? fv.1) fun fl =>
 on (K.lookup S.cc).attach fun ocell=>on (cell? ocell.1.data) fun cv=>on (D.P.fns[S.f]?).attach fun fd=>D.supT prog K S FD.1 a.1 fl.1.1 cv.1 fd.1
noncomputable def RowD.fnsB (D:RowD) (K:Frag) (sup:Nat):Bool:=(List.range D.P.fns.length).all fun f=>decide (f=sup)||on (D.P.fns[f]?) fun fd=>D.fnB K f fd
end Mine
end
section
open PySem PySem.W Mine
namespace Mine.L3
noncomputable def gfL:List (Str × Nat):=[("least", 0),("greatest", 1),("within_figures", 7),("is_made", 8),("sum_of", 9),("contrary", 10),("common_of", 11),("_law_take", 22),("_law_other_words", 23),("_law_scope", 24),("_law_kept", 25),("_law_row", 26),("_law_is_so", 27),("law", 28)]
noncomputable def gcL:List (Str × Nat):=[("Flat", 0),("Gatherer", 1),("Functions", 2)]
noncomputable def need:List Nat:=[2,3,27,28,34,35,89,90,96,97,103,104,110,111,117,118,120,121,131,132,133,134,140,141,147,148,154,155,161,162,175,176,182,183,189,190,215,216,234,235,239,240,246,247,251,252,261,262,270,281,282,407,408,438,439,447,448,449,450,451,452,453,454,455,456,462,463,469,470,474,475,479,480,486,487,491,492]
noncomputable def D:RowD:={ P:=P,nm:=nm,gf:=gfL,gc:=gcL,dat:=[4,5,6,7,30,31,57],fa:=[28,35,90,97,104,111,118,132,141,148,155,162,176,183,190,216,235,240,247,252,282,408,448,463,470,475,480,487,492],cls:=[121,262,439] }
noncomputable def S:SupD:={ f:=20,c:=2,fb:=12,m:=57,x:=3,cc:=270,DD:=439,cda:=281,slf := "self", n := "partial" }
end Mine.L3
end
section
open PySem PySem.W PyProof.Rows PySem.Calls
namespace Mine
noncomputable def fragOf (l:List Nat) (h:Heap):Frag:=l.filterMap fun a=>(h.get? a).map fun o=>(a,o)
theorem lookup_frag {f:Nat→Option Obj} {x:Nat} {o:Obj}:∀ (l:List Nat),(l.filterMap fun a=>(f a).map fun o=>(a,o)).lookup x=some o→f x=some o
 | [],h=>by cases h
 | a::l,h=>by
  rw [List.filterMap_cons] at h
  cases ha:f a with
  | none=>rw [ha] at h; exact lookup_frag l h
  | some o' =>
   rw [ha] at h
   simp only [Option.map_some,List.lookup_cons] at h
   cases hb:x == a with
   | true=>rw [hb] at h; cases h; rw [beq_iff_eq.mp hb]; exact ha
   | false=>rw [hb] at h; exact lookup_frag l h
theorem fragOf_in (l:List Nat) (h:Heap):(fragOf l h).In h:=fun _ _ e=>lookup_frag _ e
noncomputable def allB (D:RowD) (S:SupD) (prog:Program) (lawN:Str) (lawI:Nat) (K:Frag):Bool :=
 decide (nsIn K mainGlobals lawN=some (some (.ref (D.fa.getD lawI 0))))&&(D.clsB K&&(D.wiredB K&&(D.fnsB K S.f&&D.supB prog K S)))
noncomputable def myHook (l:List Nat) (D:RowD) (S:SupD) (prog:Program) (lawN:Str) (lawI:Nat):Hook :=
 ⟨Bool,fun s=>allB D S prog lawN lawI (fragOf l s.heap),fun _=>true,fun _ h=>∃ K:Frag,K.In h∧allB D S prog lawN lawI K=true,fun _ s e=>⟨_,fragOf_in l s.heap,e⟩,fun _ _ _ ⟨K,a,b⟩ k=>⟨K,a.keeps k,b⟩⟩
theorem allB_parts {D:RowD} {S:SupD} {prog:Program} {lawN:Str} {lawI:Nat} {K:Frag} (h:allB D S prog lawN lawI K=true) :
  nsIn K mainGlobals lawN=some (some (.ref (D.fa.getD lawI 0)))∧D.clsB K=true∧D.wiredB K=true∧D.fnsB K S.f=true∧D.supB prog K S=true:=by
 unfold allB at h
 obtain ⟨a,h⟩:=Bool.and_eq_true_iff.mp h
 obtain ⟨b,h⟩:=Bool.and_eq_true_iff.mp h
 obtain ⟨c,h⟩:=Bool.and_eq_true_iff.mp h
 obtain ⟨d,e⟩:=Bool.and_eq_true_iff.mp h
 exact ⟨of_decide_eq_true a,b,c,d,e⟩
theorem boot_size (w:World):((boot_heap w.params).isNs mainGlobals&&(#[]:Array GenState).size == 0,(boot_heap w.params).objs.size,(boot_heap w.params).nsMap mainGlobals "__annotations__")=(true,11,some (Value.ref 6)):=by kernel_rfl
theorem left_of {p q:Program} {loose:List Str} {Xt:Shared→Bool} {α:Type} {Yf:Shared→α} {Ya:World→α} {N:Nat} (e:opening p=plainProg p.main.scope.names) (hN:Nat.ble 600 N=true) (f:∀ s,fenceModules? p s=some s)
  (one:∀ (w:World) (os:OsState),(topRun treeTable p w 11 (some (.ref 6)) N ⟨boot_heap w.params,#[],boot_drawn,boot_toks,os⟩ (topStub p)).map (fun s =>
   ((staticsOk (importedModules p.main.body) (boot_heap w.params) s.heap&&namesBound p s.heap&&gensDone s&&laidKept (boot_heap w.params) s.heap),openSeen q loose (importedModules p.main.body) Xt true s,Yf s))=some (true,openGood q loose,Ya w)) :
  LeftO p q loose Xt Yf Ya N:=fun w=>by
 obtain ⟨⟨h,gs,d,k,os⟩,e1,e'⟩:=Option.map_eq_some_iff.mp (boot_open e hN f w)
 obtain ⟨rfl,rfl,rfl,rfl⟩:h=boot_heap w.params∧gs=#[]∧d=boot_drawn∧k=boot_toks:=by simpa using e'
 obtain ⟨s,hs,hv⟩:=Option.map_eq_some_iff.mp (one w os)
 obtain ⟨l1,l2,l3⟩:_∧_∧_:=by simpa only [Prod.mk.injEq] using hv
 obtain ⟨z1,z2,z3⟩:_∧_∧_:=by simpa only [Prod.mk.injEq] using boot_size w
 have t:topFrom treeTable p w N ⟨boot_heap w.params,#[],boot_drawn,boot_toks,os⟩=some s:=by
  unfold topFrom
  dsimp only
  rw [z1,z2,z3,hs]
  show (match staticsOk (importedModules p.main.body) (boot_heap w.params) s.heap&&namesBound p s.heap&&gensDone s&&laidKept (boot_heap w.params) s.heap with | true=>_ | false=>_)=_
  rw [l1]
 unfold openEnds
 rw [e1]
 show (topFrom treeTable p w N _).map _=_
 rw [t]
 exact congrArg some (Prod.ext l2 l3)
theorem map_all {σ α:Type} {x:Option σ} {a c:σ→Bool} {b:σ→α} {B:α} {d e f g:σ→Bool} (h1:x.map (fun s=>(a s,c s))=some (true,true)) (h2:x.map b=some B) (h3:x.map (fun s=>(d s,g s))=some (true,true))
  (h4:x.map e=some true) (h5:x.map f=some true):x.map (fun s=>(a s,b s,c s&&(d s&&(e s&&(f s&&g s)))))=some (true,B,true):=by
 cases x with
 | none=>cases h1
 | some s =>
  simp only [Option.map_some,Option.some.injEq,Prod.mk.injEq] at h1 h2 h3 h4 h5 ⊢
  simp [h1,h2,h3,h4,h5]
noncomputable def topEnd (p:Program) (w:World) (os:OsState):Option Shared:=topRun treeTable p w 11 (some (.ref 6)) 6000 ⟨boot_heap w.params,#[],boot_drawn,boot_toks,os⟩ (topStub p)
theorem topEnd_eq (p:Program) (w:World) (os:OsState):topEnd p w os=Fast.tw14082659384304107361 Fast.tw14364793385576792824 p w 11 (some (.ref 6)) 6000 ⟨boot_heap w.params,#[],boot_drawn,boot_toks,os⟩ (topStub p):=by
 unfold topEnd
 rw [Fast.te14082659384304107361,Fast.te14364793385576792824]
end Mine
namespace Mine.L3
theorem said:OpenLaw.wellSaid PySem.Challenge.rw_qd0025_03=true:=by kernel_rfl
noncomputable def q:Program:=view PySem.Challenge.pw_qd0025_03 [0,2,3,5,6,8,10,11,13,14,15,16,17,18,19,21,22,23,24,25,26,27,28,29]
noncomputable def H:Hook:=myHook need D S PySem.Challenge.pw_qd0025_03 "law" 28
theorem o_a (w:World) (os:OsState):(topEnd PySem.Challenge.pw_qd0025_03 w os).map (fun s=>(staticsOk (importedModules PySem.Challenge.pw_qd0025_03.main.body) (boot_heap w.params) s.heap&&namesBound PySem.Challenge.pw_qd0025_03 s.heap&&gensDone s&&laidKept (boot_heap w.params) s.heap,decide (nsIn (fragOf need s.heap) mainGlobals "law" = some (some (.ref (D.fa.getD 28 0))))))=some (true,true):=by
 rw [topEnd_eq]; kernel_rfl
theorem o_b (w:World) (os:OsState):(topEnd PySem.Challenge.pw_qd0025_03 w os).map (fun s=>openSeen q [] (importedModules PySem.Challenge.pw_qd0025_03.main.body) (fun s=>xlAt q [] s&&recOk PySem.Challenge.rw_qd0025_03.row.toRowW.records s) true s)=some (openGood q []):=by
 rw [topEnd_eq,Fast.te4187177175401517315]; kernel_rfl
theorem o_c (w:World) (os:OsState):(topEnd PySem.Challenge.pw_qd0025_03 w os).map (fun s=>(D.clsB (fragOf need s.heap),D.supB PySem.Challenge.pw_qd0025_03 (fragOf need s.heap) S))=some (true,true):=by
 rw [topEnd_eq]; kernel_rfl
theorem o_d (w:World) (os:OsState):(topEnd PySem.Challenge.pw_qd0025_03 w os).map (fun s=>D.wiredB (fragOf need s.heap))=some true:=by
 rw [topEnd_eq]; kernel_rfl
theorem o_e (w:World) (os:OsState):(topEnd PySem.Challenge.pw_qd0025_03 w os).map (fun s=>D.fnsB (fragOf need s.heap) S.f)=some true:=by
 rw [topEnd_eq]; kernel_rfl
theorem left:LeftO PySem.Challenge.rw_qd0025_03.row.toRowW.prog q [] (fun s=>xlAt q [] s&&recOk PySem.Challenge.rw_qd0025_03.row.toRowW.records s) H.obs H.val 6000 :=
 left_of (p:=PySem.Challenge.pw_qd0025_03) (by kernel_rfl) (by decide) (fun s=>by kernel_rfl) (fun w os=>map_all (o_a w os) (o_b w os) (o_c w os) (o_d w os) (o_e w os))
end Mine.L3
end
section
open PySem PySem.W PyProof.Rows
namespace Mine
mutual
inductive RP (F:Addr→Prop) (h:Heap):Value→PV→Prop
 | none:RP F h .none .none
 | bool (b:Bool):RP F h (.bool b) (.bool b)
 | int (i:Int) (t:Tok):RP F h (.int i t) (.int i)
 | str (x:Str) (t:Tok):RP F h (.str x t) (.str x)
 | tup {a:Addr} {vs:List Value} {ps:List PV}:F a→h.IsTuple a vs.toArray→RPs F h vs ps→RP F h (.ref a) (.tup ps)
 | lst {a:Addr} {vs:List Value} {ps:List PV}:F a→h.IsList a vs.toArray→RPs F h vs ps→RP F h (.ref a) (.lst ps)
inductive RPs (F:Addr→Prop) (h:Heap):List Value→List PV→Prop
 | nil:RPs F h [] []
 | cons {v:Value} {p:PV} {vs:List Value} {ps:List PV}:RP F h v p→RPs F h vs ps→RPs F h (v::vs) (p::ps)
end
noncomputable def isSeqO (o:Obj):Prop:=∃ xs n,o.data = .seq xs n
section
variable {F F':Addr→Prop} {h h':Heap}
theorem RP.none_ {v:Value} (r:RP F h v .none):v = .none:=by cases r; rfl
theorem RP.bool_ {v:Value} {b:Bool} (r:RP F h v (.bool b)):v = .bool b:=by cases r; rfl
theorem RP.int_ {v:Value} {i:Int} (r:RP F h v (.int i)):∃ t,v = .int i t:=by cases r; exact ⟨_,rfl⟩
theorem RP.str_ {v:Value} {x:Str} (r:RP F h v (.str x)):∃ t,v = .str x t:=by cases r; exact ⟨_,rfl⟩
inductive I_RP_tup_ (F:Addr→Prop) (h:Heap) (v:Value) (ps:List PV):Prop
 | mk (a) (vs) (h0q:v = .ref a) (h1q:F a) (h2q:h.IsTuple a (List.toArray vs)) (h3q:RPs F h vs ps)
theorem RP.tup_ {v:Value} {ps:List PV} (r:RP F h v (.tup ps)):I_RP_tup_ F h v ps:=by cases r with | tup a b c=>exact ⟨_,_,rfl,a,b,c⟩
inductive I_RP_lst_ (F:Addr→Prop) (h:Heap) (v:Value) (ps:List PV):Prop
 | mk (a) (vs) (h0q:v = .ref a) (h1q:F a) (h2q:h.IsList a (List.toArray vs)) (h3q:RPs F h vs ps)
theorem RP.lst_ {v:Value} {ps:List PV} (r:RP F h v (.lst ps)):I_RP_lst_ F h v ps:=by cases r with | lst a b c=>exact ⟨_,_,rfl,a,b,c⟩
theorem RPs.nil_ {v:List Value} (r:RPs F h v []):v=[]:=by cases r; rfl
inductive I_RPs_cons_ (F:Addr→Prop) (h:Heap) (v:List Value) (p:PV) (ps:List PV):Prop
 | mk (u) (vs) (h0q:v=u::vs) (h1q:RP F h u p) (h2q:RPs F h vs ps)
theorem RPs.cons_ {v:List Value} {p:PV} {ps:List PV} (r:RPs F h v (p::ps)):I_RPs_cons_ F h v p ps:=by cases r with | cons a b=>exact ⟨_,_,rfl,a,b⟩
theorem RP.both {P:Value→PV→Prop} {Ps:List Value→List PV→Prop} (n:P .none .none) (b:∀ b,P (.bool b) (.bool b)) (i:∀ i t,P (.int i t) (.int i)) (x:∀ x t,P (.str x t) (.str x))
  (t:∀ {a vs ps},F a→h.IsTuple a (List.toArray vs)→RPs F h vs ps→Ps vs ps→P (.ref a) (.tup ps)) (l:∀ {a vs ps},F a→h.IsList a (List.toArray vs)→RPs F h vs ps→Ps vs ps→P (.ref a) (.lst ps))
  (e:Ps [] []) (c:∀ {v p vs ps},RP F h v p→RPs F h vs ps→P v p→Ps vs ps→Ps (v::vs) (p::ps)):(∀ {v p},RP F h v p→P v p)∧(∀ {vs ps},RPs F h vs ps→Ps vs ps) :=
 ⟨fun r=>RP.rec (motive_1:=fun v p _=>P v p) (motive_2:=fun v p _=>Ps v p) n b i x t l e c r,fun r=>RPs.rec (motive_1:=fun v p _=>P v p) (motive_2:=fun v p _=>Ps v p) n b i x t l e c r⟩
theorem tup_mono (k:∀ b o,h.get? b=some o→F b→isSeqO o→h'.get? b=some o∧F' b) {a:Addr} {l:Array Value} (f:F a) (t:h.IsTuple a l):F' a∧h'.IsTuple a l :=
 let ⟨o,ho,hc,n,hd⟩:=t; ⟨(k _ o ho f ⟨_,_,hd⟩).2,o,(k _ o ho f ⟨_,_,hd⟩).1,hc,n,hd⟩
theorem lst_mono (k:∀ b o,h.get? b=some o→F b→isSeqO o→h'.get? b=some o∧F' b) {a:Addr} {l:Array Value} (f:F a) (t:h.IsList a l):F' a∧h'.IsList a l :=
 let ⟨o,ho,hc,n,hd⟩:=t; ⟨(k _ o ho f ⟨_,_,hd⟩).2,o,(k _ o ho f ⟨_,_,hd⟩).1,hc,n,hd⟩
theorem RP.mono_both (k:∀ b o,h.get? b=some o→F b→isSeqO o→h'.get? b=some o∧F' b):(∀ {v p},RP F h v p→RP F' h' v p)∧(∀ {vs ps},RPs F h vs ps→RPs F' h' vs ps) :=
 RP.both .none .bool .int .str (fun f t _ q=>.tup (tup_mono k f t).1 (tup_mono k f t).2 q) (fun f t _ q=>.lst (lst_mono k f t).1 (lst_mono k f t).2 q) .nil (fun _ _ a b=>.cons a b)
theorem RP.mono (k:∀ b o,h.get? b=some o→F b→isSeqO o→h'.get? b=some o∧F' b) {v:Value} {p:PV} (r:RP F h v p):RP F' h' v p:=(RP.mono_both k).1 r
theorem RPs.mono (k:∀ b o,h.get? b=some o→F b→isSeqO o→h'.get? b=some o∧F' b) {v:List Value} {p:List PV} (r:RPs F h v p):RPs F' h' v p:=(RP.mono_both k).2 r
theorem RPs.length {vs:List Value} {ps:List PV} (r:RPs F h vs ps):vs.length=ps.length :=
 (RP.both (P:=fun _ _=>True) (Ps:=fun vs ps=>vs.length=ps.length) trivial (fun _=>trivial) (fun _ _=>trivial) (fun _ _=>trivial) (fun _ _ _ _=>trivial) (fun _ _ _ _=>trivial) rfl (fun _ _ _ e=>congrArg (· + 1) e)).2 r
theorem RPs.get {vs:List Value} {ps:List PV} (r:RPs F h vs ps) {j:Nat} {p:PV} (e:ps[j]? = some p):∃ v,vs[j]? = some v∧RP F h v p:=by
 revert vs j
 induction ps with
 | nil=>intro vs r j e; cases e
 | cons q ps ih =>
  intro vs r j e
  obtain ⟨u,us,rfl,a,b⟩:=r.cons_
  cases j with
  | zero=>exact ⟨u,rfl,Option.some.inj e▸a⟩
  | succ j=>exact ih b e
theorem RPs.getBoth:∀ {vs:List Value} {ps:List PV},RPs F h vs ps→∀ {j:Nat} {v:Value} {p:PV},vs[j]? = some v→ps[j]? = some p→RP F h v p:=by
 intro vs ps r j v p e1 e2
 obtain ⟨v',h1,h2⟩:=r.get e2
 rw [e1] at h1; cases h1; exact h2
theorem tup_inj {a:Addr} {l r:Array Value} (x:h.IsTuple a l) (y:h.IsTuple a r):l=r:=by
 obtain ⟨o,ho,_,n,hd⟩:=x
 obtain ⟨o',ho',_,n',hd'⟩:=y
 rw [ho] at ho'; cases ho'; rw [hd] at hd'; cases hd'; rfl
theorem lst_inj {a:Addr} {l r:Array Value} (x:h.IsList a l) (y:h.IsList a r):l=r:=by
 obtain ⟨o,ho,_,n,hd⟩:=x
 obtain ⟨o',ho',_,n',hd'⟩:=y
 rw [ho] at ho'; cases ho'; rw [hd] at hd'; cases hd'; rfl
theorem toArr_inj {α:Type} {l r:List α} (e:l.toArray=r.toArray):l=r:=by have:=congrArg Array.toList e; simpa using this
theorem tup_lst {a:Addr} {l r:Array Value} (x:h.IsTuple a l) (y:h.IsList a r):False:=by
 obtain ⟨o,ho,hc,n,hd⟩:=x
 obtain ⟨o',ho',hc',n',hd'⟩:=y
 rw [ho] at ho'; cases ho'; rw [hc] at hc'; exact absurd hc' (by simp)
theorem RP.inj_both:(∀ {v p},RP F h v p→∀ q,RP F' h v q→p=q)∧(∀ {vs ps},RPs F h vs ps→∀ qs,RPs F' h vs qs→ps=qs) :=
 RP.both (fun q y=>by cases y; rfl) (fun _ q y=>by cases y; rfl) (fun _ _ q y=>by cases y; rfl) (fun _ _ q y=>by cases y; rfl)
  (fun _ x _ ih q y=>by
   cases y with
   | tup _ y r'=>rw [ih _ (toArr_inj (tup_inj x y)▸r')]
   | lst _ y r'=>exact (tup_lst x y).elim)
  (fun _ x _ ih q y=>by
   cases y with
   | lst _ y r'=>rw [ih _ (toArr_inj (lst_inj x y)▸r')]
   | tup _ y r'=>exact (tup_lst y x).elim)
  (fun q y=>by cases y; rfl) (fun _ _ i1 i2 q y=>by cases y with | cons a b=>rw [i1 _ a,i2 _ b])
theorem RP.inj {v:Value} {p q:PV} (x:RP F h v p) (y:RP F' h v q):p=q:=RP.inj_both.1 x q y
theorem RPs.inj {v:List Value} {p q:List PV} (x:RPs F h v p) (y:RPs F' h v q):p=q:=RP.inj_both.2 x q y
end
mutual
theorem pyEq_refl:∀ p:PV,pyEq p p=true
 | .none=>rfl
 | .bool b=>beq_self_eq_true b
 | .int i=>beq_self_eq_true i
 | .str s=>beq_self_eq_true s
 | .tup l=>pyEqs_refl l
 | .lst l=>pyEqs_refl l
theorem pyEqs_refl:∀ p:List PV,pyEqs p p=true
 | []=>rfl
 | a::l=>Bool.and_eq_true_iff.mpr ⟨pyEq_refl a,pyEqs_refl l⟩
end
mutual
noncomputable def nrm:PV→PV
 | .bool b=>.int (if b then 1 else 0)
 | .tup l=>.tup (nrms l)
 | .lst l=>.lst (nrms l)
 | p=>p
noncomputable def nrms:List PV→List PV
 | []=>[]
 | a::r=>nrm a::nrms r
end
theorem nrms_length:∀ l:List PV,(nrms l).length=l.length
 | []=>rfl
 | a::r=>by simp [nrms,nrms_length r]
theorem no_iff {b:Bool} {P:Prop} (h:b=false) (n:¬ P):b=true ↔ P:=⟨fun e=>absurd (h.symm.trans e) Bool.false_ne_true,fun p=>(n p).elim⟩
theorem int_iff {a b:Int}:((a == b)=true ↔ PV.int a=PV.int b):=⟨fun h=>congrArg PV.int (beq_iff_eq.mp h),fun h=>beq_iff_eq.mpr (PV.int.inj h)⟩
mutual
theorem pyEq_iff:∀ p q:PV,(pyEq p q=true ↔ nrm p=nrm q)
 | .none,q=>by cases q <;> first | exact no_iff rfl (fun h=>nomatch h) | exact ⟨fun _=>rfl,fun _=>rfl⟩
 | .bool a,q=>by cases q <;> first | exact no_iff rfl (fun h=>nomatch h) | exact int_iff | (rename_i b; exact (show ((a == b)=true ↔ PV.int (if a then 1 else 0)=PV.int (if b then 1 else 0)) by cases a <;> cases b <;> first | exact ⟨fun _=>rfl,fun _=>rfl⟩ | exact no_iff rfl (fun h=>nomatch PV.int.inj h)))
 | .int a,q=>by cases q <;> first | exact no_iff rfl (fun h=>nomatch h) | exact int_iff
 | .str a,q=>by cases q <;> first | exact no_iff rfl (fun h=>nomatch h) | exact ⟨fun h=>congrArg PV.str (beq_iff_eq.mp h),fun h=>beq_iff_eq.mpr (PV.str.inj h)⟩
 | .tup a,q=>by cases q with
  | tup b=>exact ⟨fun h=>congrArg PV.tup ((pyEqs_iff a b).mp h),fun h=>(pyEqs_iff a b).mpr (PV.tup.inj h)⟩
  | _=>exact no_iff rfl (fun h=>nomatch h)
 | .lst a,q=>by cases q with
  | lst b=>exact ⟨fun h=>congrArg PV.lst ((pyEqs_iff a b).mp h),fun h=>(pyEqs_iff a b).mpr (PV.lst.inj h)⟩
  | _=>exact no_iff rfl (fun h=>nomatch h)
theorem pyEqs_iff:∀ p q:List PV,(pyEqs p q=true ↔ nrms p=nrms q)
 | [],[]=>⟨fun _=>rfl,fun _=>rfl⟩
 | [],b::m=>no_iff rfl (fun h=>nomatch h)
 | a::l,[]=>no_iff rfl (fun h=>nomatch h)
 | a::l,b::m=>Bool.and_eq_true_iff.trans ((and_congr (pyEq_iff a b) (pyEqs_iff l m)).trans ⟨fun h=>(show nrm a::nrms l=nrm b::nrms m by rw [h.1,h.2]),fun h=>List.cons.inj h⟩)
end
open SeqAt in
theorem range_all_succ (n:Nat) (e:Nat→Bool):(List.range (n+1)).all e=(e 0&&(List.range n).all fun j=>e (j+1)):=by
 rw [List.range_succ_eq_map]; simp [List.all_map,Function.comp_def]
theorem pyEqs_range:∀ (l m:List PV),((List.range (min l.length m.length)).all (fun j=>pyEq (l.getD j .none) (m.getD j .none))&&l.length == m.length)=pyEqs l m
 | [],[]=>by simp [pyEqs]
 | [],b::m=>by simp [pyEqs]
 | a::l,[]=>by simp [pyEqs]
 | a::l,b::m=>by
  have ih:=pyEqs_range l m
  rw [show min (a::l).length (b::m).length=min l.length m.length+1 by simp [Nat.add_min_add_right]]
  rw [range_all_succ]
  simp only [List.getD_cons_zero,List.getD_cons_succ,List.length_cons]
  show _=(pyEq a b&&pyEqs l m)
  rw [← ih]
  cases pyEq a b <;> simp
open SeqAt
theorem depth_le:∀ (l:List PV) (j:Nat) (hj:j<l.length),depthP l[j]≤depthPs l:=by
 intro l
 induction l with
 | nil=>intro j hj; simp at hj
 | cons a r ih =>
  intro j hj
  cases j with
  | zero=>simp [depthPs]; exact Nat.le_max_left _ _
  | succ j=>simp only [depthPs,List.getElem_cons_succ]; have:=ih j (by simpa using hj); exact Nat.le_trans this (Nat.le_max_right _ _)
structure Cmp3 (A:Around) (s:Shared) (v u:Value) (b:Bool):Prop where
 e:EqAt A s v u b
 r:RcAt A s v u b
 n:RcNeAt A s v u (!b)
theorem cmp_core {F F':Addr→Prop} {A:Around} {s:Shared} (h0:A.units<cLine) {v u:Value} {p q:PV} (x:RP F s.heap v p) (y:RP F' s.heap u q)
  (kt:∀ {ps qs},p = .tup ps∧q = .tup qs→False) (kl:∀ {ps qs},p = .lst ps∧q = .lst qs→False):Cmp3 A s v u (pyEq p q):=by
 cases x with
 | none=>cases y with
  | none=>exact ⟨EqAt.same _,RcAt.none_none,RcNeAt.none_none⟩
  | bool _=>exact ⟨EqAt.none_bool _,RcAt.none_bool _,RcNeAt.none_bool _⟩
  | int _ _=>exact ⟨EqAt.none_int _ _,RcAt.none_int _ _,RcNeAt.none_int _ _⟩
  | str _ _=>exact ⟨EqAt.none_str _ _,RcAt.none_str _ _,RcNeAt.none_str _ _⟩
  | tup _ y r'=>exact ⟨EqAt.none_tuple y h0,RcAt.none_tuple y h0,RcNeAt.none_tuple y h0⟩
  | lst _ y r'=>exact ⟨EqAt.none_list y h0,RcAt.none_list y h0,RcNeAt.none_list y h0⟩
 | bool _=>cases y with
  | none=>exact ⟨EqAt.bool_none _,RcAt.bool_none _,RcNeAt.bool_none _⟩
  | bool _=>exact ⟨EqAt.bool_bool _ _,RcAt.bool_bool _ _,RcNeAt.bool_bool _ _⟩
  | int _ _=>exact ⟨EqAt.bool_int _ _ _,RcAt.bool_int _ _ _,RcNeAt.bool_int _ _ _⟩
  | str _ _=>exact ⟨EqAt.bool_str _ _ _,RcAt.bool_str _ _ _,RcNeAt.bool_str _ _ _⟩
  | tup _ y r'=>exact ⟨EqAt.bool_tuple _ y h0,RcAt.bool_tuple _ y h0,RcNeAt.bool_tuple _ y h0⟩
  | lst _ y r'=>exact ⟨EqAt.bool_list _ y h0,RcAt.bool_list _ y h0,RcNeAt.bool_list _ y h0⟩
 | int _ _=>cases y with
  | none=>exact ⟨EqAt.int_none _ _,RcAt.int_none _ _,RcNeAt.int_none _ _⟩
  | bool _=>exact ⟨EqAt.int_bool _ _ _,RcAt.int_bool _ _ _,RcNeAt.int_bool _ _ _⟩
  | int _ _=>exact ⟨EqAt.int_int _ _ _ _,RcAt.int_int _ _ _ _,RcNeAt.int_int _ _ _ _⟩
  | str _ _=>exact ⟨EqAt.int_str _ _ _ _,RcAt.int_str _ _ _ _,RcNeAt.int_str _ _ _ _⟩
  | tup _ y r'=>exact ⟨EqAt.int_tuple _ _ y h0,RcAt.int_tuple _ _ y h0,RcNeAt.int_tuple _ _ y h0⟩
  | lst _ y r'=>exact ⟨EqAt.int_list _ _ y h0,RcAt.int_list _ _ y h0,RcNeAt.int_list _ _ y h0⟩
 | str _ _=>cases y with
  | none=>exact ⟨EqAt.str_none _ _,RcAt.str_none _ _,RcNeAt.str_none _ _⟩
  | bool _=>exact ⟨EqAt.str_bool _ _ _,RcAt.str_bool _ _ _,RcNeAt.str_bool _ _ _⟩
  | int _ _=>exact ⟨EqAt.str_int _ _ _ _,RcAt.str_int _ _ _ _,RcNeAt.str_int _ _ _ _⟩
  | str _ _=>exact ⟨EqAt.str_str _ _ _ _,RcAt.str_str _ _ _ _,RcNeAt.str_str _ _ _ _⟩
  | tup _ y r'=>exact ⟨EqAt.str_tuple _ _ y h0,RcAt.str_tuple _ _ y h0,RcNeAt.str_tuple _ _ y h0⟩
  | lst _ y r'=>exact ⟨EqAt.str_list _ _ y h0,RcAt.str_list _ _ y h0,RcNeAt.str_list _ _ y h0⟩
 | tup _ x r=>cases y with
  | none=>exact ⟨EqAt.tuple_none x h0,RcAt.tuple_none x h0,RcNeAt.tuple_none x h0⟩
  | bool _=>exact ⟨EqAt.tuple_bool _ x h0,RcAt.tuple_bool _ x h0,RcNeAt.tuple_bool _ x h0⟩
  | int _ _=>exact ⟨EqAt.tuple_int _ _ x h0,RcAt.tuple_int _ _ x h0,RcNeAt.tuple_int _ _ x h0⟩
  | str _ _=>exact ⟨EqAt.tuple_str _ _ x h0,RcAt.tuple_str _ _ x h0,RcNeAt.tuple_str _ _ x h0⟩
  | tup _ y r'=>exact (kt ⟨rfl,rfl⟩).elim
  | lst _ y r'=>exact ⟨EqAt.tuple_list x y h0,RcAt.tuple_list x y h0,RcNeAt.tuple_list x y h0⟩
 | lst _ x r=>cases y with
  | none=>exact ⟨EqAt.list_none x h0,RcAt.list_none x h0,RcNeAt.list_none x h0⟩
  | bool _=>exact ⟨EqAt.list_bool _ x h0,RcAt.list_bool _ x h0,RcNeAt.list_bool _ x h0⟩
  | int _ _=>exact ⟨EqAt.list_int _ _ x h0,RcAt.list_int _ _ x h0,RcNeAt.list_int _ _ x h0⟩
  | str _ _=>exact ⟨EqAt.list_str _ _ x h0,RcAt.list_str _ _ x h0,RcNeAt.list_str _ _ x h0⟩
  | tup _ y r'=>exact ⟨EqAt.list_tuple x y h0,RcAt.list_tuple x y h0,RcNeAt.list_tuple x y h0⟩
  | lst _ y r'=>exact (kl ⟨rfl,rfl⟩).elim
noncomputable abbrev ItemsEq (A:Around) (s:Shared) (vs us:List Value) (ps qs:List PV):Prop:=∀ j (h1:j<vs.toArray.size) (h2:j<us.toArray.size),EqAt A.in1 s vs.toArray[j] us.toArray[j] (pyEq (ps.getD j .none) (qs.getD j .none))
theorem cmp_tup {F F':Addr→Prop} {A:Around} {s:Shared} (h0:A.units<cLine) {a b:Addr} {vs us:List Value} {ps qs:List PV} (x:s.heap.IsTuple a vs.toArray) (y:s.heap.IsTuple b us.toArray) (r:RPs F s.heap vs ps) (r':RPs F' s.heap us qs) (k:ItemsEq A s vs us ps qs) :
  Cmp3 A s (.ref a) (.ref b) (pyEq (.tup ps) (.tup qs)):=by
 have e:((List.range (min vs.toArray.size us.toArray.size)).all (fun j=>pyEq (ps.getD j .none) (qs.getD j .none))&&vs.toArray.size == us.toArray.size)=pyEqs ps qs:=by
  rw [← pyEqs_range,← r.length,← r'.length]; simp only [List.size_toArray]
 have h1:=RcAt.tuples x y h0 k
 have h2:=RcNeAt.tuples x y h0 k
 rw [e] at h1 h2
 refine ⟨?_,h1,h2⟩
 by_cases hab:a=b
 ·have e:vs=us:=toArr_inj (tup_inj x (hab▸y))
  have e2:ps=qs:=RPs.inj r (e▸r')
  rw [hab,e2,pyEq_refl]; exact EqAt.same _
 ·exact EqAt.of_refs hab h1
theorem cmp_lst {F F':Addr→Prop} {A:Around} {s:Shared} (h0:A.units<cLine) {a b:Addr} {vs us:List Value} {ps qs:List PV} (x:s.heap.IsList a vs.toArray) (y:s.heap.IsList b us.toArray) (r:RPs F s.heap vs ps) (r':RPs F' s.heap us qs) (k:ItemsEq A s vs us ps qs) :
  Cmp3 A s (.ref a) (.ref b) (pyEq (.lst ps) (.lst qs)):=by
 have pr:=pyEqs_range ps qs
 rw [← r.length,← r'.length] at pr
 have two:RcAt A s (.ref a) (.ref b) (pyEqs ps qs)∧RcNeAt A s (.ref a) (.ref b) (!pyEqs ps qs):=by
  by_cases hs:vs.length=us.length
  ·have h1:=RcAt.lists x y (by simpa using hs) h0 k
   have h2:=RcNeAt.lists x y (by simpa using hs) h0 k
   rw [hs,Nat.min_self,beq_self_eq_true,Bool.and_true] at pr
   rw [List.size_toArray,hs,pr] at h1 h2
   exact ⟨h1,h2⟩
  ·have e:(vs.length == us.length)=false:=beq_false_of_ne hs
   rw [e,Bool.and_false] at pr
   rw [← pr]
   have hs':(vs.toArray.size != us.toArray.size)=true:=bne_iff_ne.mpr hs
   exact ⟨RcAt.lists_lengths x y hs' h0,RcNeAt.lists_lengths x y hs' h0⟩
 refine ⟨?_,two.1,two.2⟩
 by_cases hab:a=b
 ·have e:vs=us:=toArr_inj (lst_inj x (hab▸y))
  have e2:ps=qs:=RPs.inj r (e▸r')
  rw [hab,e2,pyEq_refl]; exact EqAt.same _
 ·exact EqAt.of_refs hab two.1
theorem items_of_eq {F F':Addr→Prop} {A:Around} {s:Shared} {n:Nat} (ih:∀ {v u p q},depthP p<n∨depthP q<n→RP F s.heap v p→RP F' s.heap u q→EqAt A.in1 s v u (pyEq p q))
  {vs us:List Value} {ps qs:List PV} (hd:depthPs ps<n∨depthPs qs<n) (r1:RPs F s.heap vs ps) (r2:RPs F' s.heap us qs):ItemsEq A s vs us ps qs:=by
 intro j h1 h2
 have q1:j<ps.length:=r1.length▸h1
 have q2:j<qs.length:=r2.length▸h2
 rw [show ps.getD j .none=ps[j] by rw [List.getD_eq_getElem?_getD,List.getElem?_eq_getElem q1]; rfl,show qs.getD j .none=qs[j] by rw [List.getD_eq_getElem?_getD,List.getElem?_eq_getElem q2]; rfl]
 exact ih (hd.imp (Nat.lt_of_le_of_lt (depth_le _ _ _)) (Nat.lt_of_le_of_lt (depth_le _ _ _))) (r1.getBoth (List.getElem?_eq_getElem h1) (List.getElem?_eq_getElem q1)) (r2.getBoth (List.getElem?_eq_getElem h2) (List.getElem?_eq_getElem q2))
theorem cmp_RP {F F':Addr→Prop} {s:Shared} (n:Nat):∀ {v u:Value} {p q:PV} {A:Around},(depthP p<n∨depthP q<n)→A.units+n+2<cLine→RP F s.heap v p→RP F' s.heap u q→Cmp3 A s v u (pyEq p q):=by
 induction n with
 | zero=>intro v u p q A hn; exact absurd hn (fun h=>h.elim (Nat.not_lt_zero _) (Nat.not_lt_zero _))
 | succ n ih =>
  intro v u p q A hn hu x y
  have h0:A.units<cLine:=Nat.lt_of_le_of_lt (Nat.le_trans (Nat.le_add_right _ _) (Nat.le_add_right _ _)) hu
  have ih':∀ {v u p q},depthP p<n∨depthP q<n→RP F s.heap v p→RP F' s.heap u q→EqAt A.in1 s v u (pyEq p q):=fun h a b=>(ih h (by rw [Around.in1_units]; exact Nat.lt_of_le_of_lt (Nat.le_of_eq (congrArg (· + 2) (Nat.add_right_comm A.units 1 n))) hu) a b).e
  by_cases hs:∃ ps qs,(p = .tup ps∧q = .tup qs)∨(p = .lst ps∧q = .lst qs)
  ·obtain ⟨ps,qs,⟨rfl,rfl⟩ | ⟨rfl,rfl⟩⟩:=hs
   ·obtain ⟨a,vs,rfl,_,x1,r⟩:=x.tup_
    obtain ⟨b,us,rfl,_,y1,r'⟩:=y.tup_
    exact cmp_tup h0 x1 y1 r r' (items_of_eq ih' (hn.imp Nat.lt_of_succ_lt_succ Nat.lt_of_succ_lt_succ) r r')
   ·obtain ⟨a,vs,rfl,_,x1,r⟩:=x.lst_
    obtain ⟨b,us,rfl,_,y1,r'⟩:=y.lst_
    exact cmp_lst h0 x1 y1 r r' (items_of_eq ih' (hn.imp Nat.lt_of_succ_lt_succ Nat.lt_of_succ_lt_succ) r r')
  ·exact cmp_core h0 x y (fun h=>(hs ⟨_,_,.inl h⟩).elim) (fun h=>(hs ⟨_,_,.inr h⟩).elim)
theorem eqAt_RP {F F':Addr→Prop} (n:Nat) {v u:Value} {p q:PV} {A:Around} {s:Shared} (h:depthP p≤n∨depthP q≤n) (hu:A.units+n+3<cLine) (x:RP F s.heap v p) (y:RP F' s.heap u q):EqAt A s v u (pyEq p q) :=
 (cmp_RP (n+1) (h.imp Nat.lt_succ_of_le Nat.lt_succ_of_le) (hu) x y).e
theorem rcAt_RP {F F':Addr→Prop} {v u:Value} {p q:PV} {A:Around} {s:Shared} (hn:depthP p<20∨depthP q<20) (hu:A.units+30<cLine) (x:RP F s.heap v p) (y:RP F' s.heap u q):RcAt A s v u (pyEq p q):=(cmp_RP 20 hn (Nat.lt_of_le_of_lt (Nat.add_le_add_left (show 22≤30 by decide) A.units) hu) x y).r
theorem rcNe_RP {F F':Addr→Prop} {v u:Value} {p q:PV} {A:Around} {s:Shared} (hn:depthP p<20∨depthP q<20) (hu:A.units+30<cLine) (x:RP F s.heap v p) (y:RP F' s.heap u q):RcNeAt A s v u (!pyEq p q):=(cmp_RP 20 hn (Nat.lt_of_le_of_lt (Nat.add_le_add_left (show 22≤30 by decide) A.units) hu) x y).n
mutual
noncomputable def hashP (w:World):PV→Int
 | .bool b=>hashInt (if b then 1 else 0)
 | .int i=>hashInt i
 | .str x=>hashStr w x
 | .tup l=>reduceHash (Builtin.Tuple.tupleHashOf (hashPs w l))
 | _=>0
noncomputable def hashPs (w:World):List PV→List Int
 | []=>[]
 | a::r=>hashP w a::hashPs w r
end
mutual
noncomputable def drawP:PV→Nat
 | .tup l=>drawPs l+1
 | _=>1
noncomputable def drawPs:List PV→Nat
 | []=>0
 | a::r=>drawP a+drawPs r
end
mutual
theorem hash_nrm (w:World):∀ p:PV,hashP w (nrm p)=hashP w p
 | .none=>rfl
 | .bool b=>rfl
 | .int i=>rfl
 | .str x=>rfl
 | .tup l=>congrArg (fun x=>reduceHash (Builtin.Tuple.tupleHashOf x)) (hashs_nrm w l)
 | .lst l=>rfl
theorem hashs_nrm (w:World):∀ p:List PV,hashPs w (nrms p)=hashPs w p
 | []=>rfl
 | a::l=>by show hashP w (nrm a)::hashPs w (nrms l)=_; rw [hash_nrm w a,hashs_nrm w l]; rfl
end
mutual
theorem draw_nrm:∀ p:PV,drawP (nrm p)=drawP p
 | .none=>rfl
 | .bool b=>rfl
 | .int i=>rfl
 | .str x=>rfl
 | .tup l=>congrArg (· + 1) (draws_nrm l)
 | .lst l=>rfl
theorem draws_nrm:∀ p:List PV,drawPs (nrms p)=drawPs p
 | []=>rfl
 | a::l=>by show drawP (nrm a)+drawPs (nrms l)=_; rw [draw_nrm a,draws_nrm l]; rfl
end
theorem reduce_bool (b:Bool):reduceHash (if b then 1 else 0)=hashInt (if b then 1 else 0):=by cases b <;> decide
section
variable {prog:Program} {w:World} {E:Value→Shared→Prop} {F:Addr→Prop}
theorem depth_cons_le (a:PV) (r:List PV):depthP a≤depthPs (a::r)∧depthPs r≤depthPs (a::r):=⟨Nat.le_max_left ..,Nat.le_max_right ..⟩
theorem room0 {u d k n:Nat} (h:u+d+k<n):u<n:=Nat.lt_of_le_of_lt (Nat.le_trans (Nat.le_add_right ..) (Nat.le_add_right ..)) h
theorem room1 {u a b k n:Nat} (h:u+a+k<n) (l:b≤a):u+b+k<n:=Nat.lt_of_le_of_lt (Nat.add_le_add_right (Nat.add_le_add_left l _) _) h
theorem room2 {u a n:Nat} (h:u+(a+1)+1<n):u+1+a+1<n:=by rw [Nat.succ_add_eq_add_succ]; exact h
theorem room3 {u a k m n:Nat} (h:u+k<n) (l:a≤m) (hm:m≤k):u+a<n:=Nat.lt_of_le_of_lt (Nat.add_le_add_left (Nat.le_trans l hm) _) h
mutual
theorem hash_RP:∀ (p:PV) {v:Value} {A:Around} {s:Shared} {Q:Int→Shared→Prop},keyOk p=true→RP F s.heap v p→A.units+depthP p+1<cLine →
  Q (hashP w p) { s with toks:=s.toks+drawP p }→wpAny (model prog w) A (pyHash v) Q E s
 | .none,v,A,s,Q,hk,x,hu,h=>absurd hk Bool.false_ne_true
 | .bool b,v,A,s,Q,hk,x,hu,h=>by
  cases x
  refine pyHash_slot (T := "bool") rfl PySem.F.slot_bool_hash entry_int_hash (args_int_hash _) (beq_builtin_none _) (.inr (room0 hu)) ?_
  cases b
  ·exact (show wpAny _ _ (do ret (← mkInt 0)) _ _ s from wpAny_bind (wpAny_mkInt (wpAny_pure ⟨_,_,rfl,by rw [show reduceHash 0=hashInt 0 from reduce_bool false]; exact h⟩)))
  ·exact (show wpAny _ _ (do ret (← mkInt 1)) _ _ s from wpAny_bind (wpAny_mkInt (wpAny_pure ⟨_,_,rfl,by rw [show reduceHash 1=hashInt 1 from reduce_bool true]; exact h⟩)))
 | .int i,v,A,s,Q,hk,x,hu,h=>by cases x; exact wpAny_pyHash_int h
 | .str y,v,A,s,Q,hk,x,hu,h=>by cases x; exact wpAny_pyHash_str h
 | .lst l,v,A,s,Q,hk,x,hu,h=>absurd hk Bool.false_ne_true
 | .tup l,v,A,s,Q,hk,x,hu,h=>by
  cases x with
  | @tup a vs _ f hg hw =>
   obtain ⟨o,ho,hc,n,hd⟩:=hg
   refine pyHash_slot (T := "tuple") ⟨_,ho,hc⟩ PySem.F.slot_tuple_hash PySem.F.entry_tuple_hash (PySem.F.args_tuple_hash_1 _) (beq_builtin_none _) (.inr (room0 hu)) ?_
   show wpAny _ _ (Builtin.Tuple.tupleItemsOf (.ref a) >>= _) _ _ s
   refine wpAny_bind (wpAny_tupleItemsOf ho hd ?_)
   refine wpAny_bind ?_
   rw [← Array.forIn_toList]
   refine hashs_RP l (A:=A.in1) (b:=#[]) hk hw (room2 hu) fun b hb=>?_
   show wpAny _ _ (retInt (Builtin.Tuple.tupleHashOf b.toList)) _ _ _
   rw [hb]
   exact wpAny_bind (wpAny_mkInt (wpAny_pure ⟨_,_,rfl,h⟩))
theorem hashs_RP:∀ (l:List PV) {vs:List Value} {A:Around} {s:Shared} {b:Array Int} {Q:Array Int→Shared→Prop},keysOk l=true→RPs F s.heap vs l→A.units+depthPs l+1<cLine →
  (∀ b',b'.toList=b.toList++hashPs w l→Q b' { s with toks:=s.toks+drawPs l }) →
  wpAny (model prog w) A (forIn vs b fun x r=>do let h ← pyHash x; pure PUnit.unit; pure (ForInStep.yield (r.push h))) Q E s
 | [],vs,A,s,b,Q,hk,x,hu,h=>by cases x; exact wpAny_pure (h b (List.append_nil _).symm)
 | k::l,vs,A,s,b,Q,hk,x,hu,h=>by
  cases x with
  | cons x1 x2 =>
   have hk:=and_true2 hk
   rw [List.forIn_cons]
   refine wpAny_bind (wpAny_bind (hash_RP k hk.1 x1 (room1 hu (depth_cons_le k l).1) ?_))
   refine wpAny_bind (wpAny_pure (wpAny_pure ?_))
   refine hashs_RP l hk.2 (by exact x2) (room1 hu (depth_cons_le k l).2) fun b' hb=>?_
   have:=h b' (hb.trans (by rw [Array.toList_push,List.append_assoc]; rfl))
   rw [show s.toks+drawPs (k::l)=s.toks+drawP k+drawPs l from (Nat.add_assoc ..).symm] at this
   exact this
end
theorem quiet_at (n:Nat) {v:Value} {A:Around} {s:Shared} {Q:Bool→Shared→Prop} (e:eqIsQuiet n v=pure true) (h:Q true s):wpAny (model prog w) A (eqIsQuiet n v) Q E s:=by rw [e]; exact wpAny_pure h
theorem quiet_RP:∀ (n:Nat) (p:PV) {v:Value} {A:Around} {s:Shared} {Q:Bool→Shared→Prop},keyOk p=true→depthP p≤n→RP F s.heap v p→Q true s→wpAny (model prog w) A (eqIsQuiet n v) Q E s:=by
 intro n
 induction n with
 | zero =>
  intro p v A s Q hk hn x h
  cases x with
  | tup f hg hw=>exact absurd hn (Nat.not_succ_le_zero _)
  | lst f hg hw=>exact absurd hk Bool.false_ne_true
  | _=>exact quiet_at _ (eqIsQuiet_byValue _ rfl) h
 | succ n ih =>
  intro p v A s Q hk hn x h
  cases x with
  | lst f hg hw=>exact absurd hk Bool.false_ne_true
  | @tup a vs l f hg hw =>
   have hT:=hg.typeIs
   obtain ⟨o,ho,hc,m,hd⟩:=hg
   unfold eqIsQuiet
   refine wpAny_bind (wpAny_specialOf hT PySem.F.slot_tuple_eq.lookup ?_)
   show wpAny _ _ (isInstance (.ref a) (.type "tuple") >>= _) _ _ s
   refine wpAny_bind (wpAny_isInstance hT isSubtype_tuple_tuple ?_)
   simp only [Bool.not_true,Bool.false_eq_true,if_false]
   refine wpAny_bind (wpAny_seqItems ho hd (wpAny_bind ?_))
   show wpAny _ _ (forIn vs.toArray _ _) _ _ s
   rw [← Array.forIn_toList]
   refine wpAny_forIn_list _ (fun rest r s'=>r.1=none∧s'=s∧∃ ps,keysOk ps=true∧depthPs ps≤n∧RPs F s.heap rest ps) _ ?_ ?_ _ _ ⟨rfl,rfl,l,hk,Nat.le_of_succ_le_succ hn,hw⟩
   ·rintro v rest r s' ⟨hr,rfl,ps,k1,k2,k3⟩
    cases k3 with
    | @cons _ q _ qs y1 y2 =>
     have k1:=and_true2 k1
     refine wpAny_bind (ih q k1.1 (Nat.le_trans (depth_cons_le q qs).1 k2) y1 ?_)
     exact wpAny_pure ⟨rfl,rfl,qs,k1.2,Nat.le_trans (depth_cons_le q qs).2 k2,y2⟩
   ·rintro ⟨r1,r2⟩ s' ⟨hr,rfl,_⟩
    cases (show r1=none from hr)
    exact wpAny_pure h
  | _=>exact quiet_at _ (eqIsQuiet_byValue _ rfl) h
end
mutual
theorem depth_nrm:∀ p:PV,depthP (nrm p)=depthP p
 | .none=>rfl
 | .bool b=>rfl
 | .int i=>rfl
 | .str x=>rfl
 | .tup l=>congrArg (· + 1) (depths_nrm l)
 | .lst l=>congrArg (· + 1) (depths_nrm l)
theorem depths_nrm:∀ p:List PV,depthPs (nrms p)=depthPs p
 | []=>rfl
 | a::l=>by show max (depthP (nrm a)) (depthPs (nrms l))=_; rw [depth_nrm a,depths_nrm l]; rfl
end
open Classical in
noncomputable def pvKind (prog:Program) (w:World):HeapKind prog w PV where
 is:=fun h k a=>∃ l,k = .tup (nrms l)∧keysOk l=true∧depthPs l<6∧RP (fun _=>True) h (.ref a) (.tup l)
 hash:=hashP w
 draws:=drawP
 room:=fun A=>A.units+20<cLine
 inj:=by
  rintro h a x y ⟨l,rfl,_,_,hx⟩ ⟨m,rfl,_,_,hy⟩
  have:=RP.inj hx hy
  cases this
  rfl
 keeps:=by
  rintro h h' k a d o es ep ⟨l,rfl,h1,h2,hx⟩ ho hd hs
  refine ⟨l,rfl,h1,h2,hx.mono fun b o' e _ q=>⟨?_,trivial⟩⟩
  refine (hs.2 b ?_).trans e
  rintro rfl
  rw [ho] at e
  cases e
  obtain ⟨xs,n,q⟩:=q
  rw [hd] at q
  cases q
 pyHash:=by
  rintro A E s k a Q hu ⟨l,rfl,h1,h2,hx⟩ h
  refine hash_RP (.tup l) h1 hx (room3 (a:=depthPs l+2) hu (Nat.succ_le_succ (Nat.succ_le_of_lt h2)) (by decide)) ?_
  rw [← hash_nrm,← draw_nrm]
  exact h
 eqBool:=by
  rintro A E s x y a b Q hu ⟨l,rfl,h1,h2,hx⟩ ⟨m,rfl,h3,h4,hy⟩ h
  refine eqAt_RP 6 (p:=.tup l) (.inl (show depthPs l+1≤6 from h2)) (room3 (a:=9) hu (Nat.le_refl 9) (by decide)) hx hy prog w E Q ?_
  rw [show pyEq (.tup l) (.tup m)=decide (PV.tup (nrms l)=PV.tup (nrms m)) from Bool.eq_iff_iff.mpr ((pyEq_iff _ _).trans (decide_eq_true_iff (p:=PV.tup (nrms l)=PV.tup (nrms m))).symm)]
  exact h
 quiet:=by
  rintro A E s k a Q ⟨l,rfl,h1,h2,hx⟩ h
  exact quiet_RP 8 (.tup l) h1 (Nat.le_trans h2 (by decide)) hx h
noncomputable abbrev Rho:=List (List Addr)
structure Glb where
 prog:Program
 w:World
 K:Frag
 nm:List Str
 P:Prog
 base:Heap
 cls:Nat→Addr
 dat:List Nat
 fa:Nat→Addr
mutual
inductive RA (ρ:Rho) (F:Addr→Prop) (h:Heap):Value→AV→Prop
 | pv {v:Value} {p:PV}:RP F h v p→RA ρ F h v (.pv p)
 | ref {i:Nat} {a:Addr} {l:List Addr}:ρ[i]? = some (a::l)→RA ρ F h (.ref a) (.ref i)
 | tupR {a:Addr} {vs:List Value} {xs:List AV}:F a→h.IsTuple a vs.toArray→RAs ρ F h vs xs→RA ρ F h (.ref a) (.tupR xs)
 | lstR {a:Addr} {vs:List Value} {xs:List AV}:F a→h.IsList a vs.toArray→RAs ρ F h vs xs→RA ρ F h (.ref a) (.lstR xs)
inductive RAs (ρ:Rho) (F:Addr→Prop) (h:Heap):List Value→List AV→Prop
 | nil:RAs ρ F h [] []
 | cons {v:Value} {x:AV} {vs:List Value} {xs:List AV}:RA ρ F h v x→RAs ρ F h vs xs→RAs ρ F h (v::vs) (x::xs)
end
inductive RKV {κ:Type} (ρ:Rho) (F:Addr→Prop) (h:Heap):List (κ × Value)→List (κ × AV)→Prop
 | nil:RKV ρ F h [] []
 | cons {k:κ} {v:Value} {x:AV} {vs:List (κ × Value)} {xs:List (κ × AV)}:RA ρ F h v x→RKV ρ F h vs xs→RKV ρ F h ((k,v)::vs) ((k,x)::xs)
inductive RKT (ρ:Rho) (F:Addr→Prop) (h:Heap):List (PV × Addr × Value)→List (PV × AV)→Prop
 | nil:RKT ρ F h [] []
 | cons {l:List PV} {b:Addr} {v:Value} {x:AV} {vs:List (PV × Addr × Value)} {xs:List (PV × AV)} :
   RP F h (.ref b) (.tup l)→keysOk l=true→depthPs l<6→RA ρ F h v x→RKT ρ F h vs xs→RKT ρ F h ((.tup (nrms l),b,v)::vs) ((.tup l,x)::xs)
inductive RE (nm:List Str) (ρ:Rho) (F:Addr→Prop) (h:Heap):List DictEntry→List (Nat × AV)→Prop
 | nil:RE nm ρ F h [] []
 | cons {m:Nat} {x:Str} {hs:Int} {t:Tok} {v:Value} {y:AV} {es:List DictEntry} {as:List (Nat × AV)} :
   nm[m]? = some x→RA ρ F h v y→RE nm ρ F h es as→RE nm ρ F h (⟨hs,.str x t,v⟩::es) ((m,y)::as)
open Classical in
inductive RO (g:Glb) (ρ:Rho) (F:Addr→Prop) (h:Heap):List Addr→AObj→Prop
 | list {a:Addr} {vs:List Value} {xs:List AV}:h.PlainList a vs.toArray→RAs ρ F h vs xs→RO g ρ F h [a] (.list xs)
 | dictI {a:Addr} {kv:List (Int × Value)} {kvs:List (Int × AV)}:h.DictOf (intKind g.prog g.w) a kv→RKV ρ F h kv kvs→RO g ρ F h [a] (.dictI kvs)
 | dictS {a:Addr} {kv:List (Str × Value)} {kvs:List (Str × AV)}:h.DictOf (strKind g.prog g.w) a kv→RKV ρ F h kv kvs→RO g ρ F h [a] (.dictS kvs)
 | dictT {a:Addr} {kv:List (PV × Addr × Value)} {kvs:List (PV × AV)}:h.DictOfH (pvKind g.prog g.w) a kv→RKT ρ F h kv kvs→RO g ρ F h [a] (.dictT kvs)
 | inst {a dx:Addr} {c:Nat} {sl:Array (Option Value)} {es:List DictEntry} {n:Nat} {as:List (Nat × AV)} :
   h.get? a=some ⟨.ref (g.cls c),some dx,.plain,sl⟩→h.get? dx=some (PySem.W.dictOf es n)→RE g.nm ρ F h es as→es.length≤900→(g.P.inits.lookup c).isSome=true→RO g ρ F h [a,dx] (.inst c as)
 | dead {l:List Addr}:RO g ρ F h l .dead
section
variable {ρ:Rho} {F:Addr→Prop} {h:Heap}
theorem RA.pv_ {v:Value} {p:PV} (r:RA ρ F h v (.pv p)):RP F h v p:=by cases r with | pv r=>exact r
inductive I_RA_ref_ (ρ:Rho) (v:Value) (i:Nat):Prop
 | mk (a) (l) (h0q:v = .ref a) (h1q:ρ[i]? = some (a::l))
theorem RA.ref_ {v:Value} {i:Nat} (r:RA ρ F h v (.ref i)):I_RA_ref_ ρ v i:=by cases r with | ref e=>exact ⟨_,_,rfl,e⟩
inductive I_RA_tupR_ (ρ:Rho) (F:Addr→Prop) (h:Heap) (v:Value) (xs:List AV):Prop
 | mk (a) (vs) (h0q:v = .ref a) (h1q:F a) (h2q:h.IsTuple a (List.toArray vs)) (h3q:RAs ρ F h vs xs)
theorem RA.tupR_ {v:Value} {xs:List AV} (r:RA ρ F h v (.tupR xs)):I_RA_tupR_ ρ F h v xs:=by cases r with | tupR a b c=>exact ⟨_,_,rfl,a,b,c⟩
inductive I_RA_lstR_ (ρ:Rho) (F:Addr→Prop) (h:Heap) (v:Value) (xs:List AV):Prop
 | mk (a) (vs) (h0q:v = .ref a) (h1q:F a) (h2q:h.IsList a (List.toArray vs)) (h3q:RAs ρ F h vs xs)
theorem RA.lstR_ {v:Value} {xs:List AV} (r:RA ρ F h v (.lstR xs)):I_RA_lstR_ ρ F h v xs:=by cases r with | lstR a b c=>exact ⟨_,_,rfl,a,b,c⟩
theorem RA.int_ {v:Value} {i:Int} (r:RA ρ F h v (.pv (.int i))):∃ t,v = .int i t:=r.pv_.int_
theorem RA.str_ {v:Value} {x:Str} (r:RA ρ F h v (.pv (.str x))):∃ t,v = .str x t:=r.pv_.str_
theorem RA.bool_ {v:Value} {b:Bool} (r:RA ρ F h v (.pv (.bool b))):v = .bool b:=r.pv_.bool_
theorem RA.none_ {v:Value} (r:RA ρ F h v (.pv .none)):v = .none:=r.pv_.none_
inductive I_RA_onInt (β:Type) (va:Value) (v:AV) (k:Int→Option β) (y:β):Prop
 | mk (i) (t) (h0q:va = .int i t) (h1q:v = .pv (.int i)) (h2q:k i=some y)
theorem RA.onInt {β:Type} {va:Value} {v:AV} {k:Int→Option β} {y:β} (r:RA ρ F h va v) (e:onInt v k=some y):I_RA_onInt β va v k y:=by
 obtain ⟨i,hv,e1⟩:=onInt_some e
 rw [hv] at r
 obtain ⟨t,hr⟩:=r.int_
 exact ⟨i,t,hr,hv,e1⟩
inductive I_RA_onStr (β:Type) (va:Value) (k:Str→Option β) (y:β):Prop
 | mk (i) (t) (h0q:va = .str i t) (h1q:k i=some y)
theorem RA.onStr {β:Type} {va:Value} {v:AV} {k:Str→Option β} {y:β} (r:RA ρ F h va v) (e:onStr v k=some y):I_RA_onStr β va k y:=by
 obtain ⟨i,hv,e1⟩:=onStr_some e
 rw [hv] at r
 obtain ⟨t,hr⟩:=r.str_
 exact ⟨i,t,hr,e1⟩
theorem RAs.nil_ {v:List Value} (r:RAs ρ F h v []):v=[]:=by cases r; rfl
inductive I_RAs_cons_ (ρ:Rho) (F:Addr→Prop) (h:Heap) (v:List Value) (p:AV) (ps:List AV):Prop
 | mk (u) (vs) (h0q:v=u::vs) (h1q:RA ρ F h u p) (h2q:RAs ρ F h vs ps)
theorem RAs.cons_ {v:List Value} {p:AV} {ps:List AV} (r:RAs ρ F h v (p::ps)):I_RAs_cons_ ρ F h v p ps:=by cases r with | cons a b=>exact ⟨_,_,rfl,a,b⟩
inductive I_RAs_one_ (ρ:Rho) (F:Addr→Prop) (h:Heap) (v:List Value) (p:AV):Prop
 | mk (u) (h0q:v=[u]) (h1q:RA ρ F h u p)
theorem RAs.one_ {v:List Value} {p:AV} (r:RAs ρ F h v [p]):I_RAs_one_ ρ F h v p:=let ⟨u,_,e,a,b⟩:=r.cons_; ⟨u,by rw [e,b.nil_],a⟩
inductive I_RAs_two_ (ρ:Rho) (F:Addr→Prop) (h:Heap) (v:List Value) (p:AV) (q:AV):Prop
 | mk (u) (w) (h0q:v=[u,w]) (h1q:RA ρ F h u p) (h2q:RA ρ F h w q)
theorem RAs.two_ {v:List Value} {p q:AV} (r:RAs ρ F h v [p,q]):I_RAs_two_ ρ F h v p q:=let ⟨u,_,e,a,b⟩:=r.cons_; let ⟨w,f,c⟩:=b.one_; ⟨u,w,by rw [e,f],a,c⟩
inductive I_RO_list_ (ρ:Rho) (F:Addr→Prop) (h:Heap) (a:Addr) (l:List Addr) (xs:List AV):Prop
 | mk (vs:List Value) (h0q:l=[]) (h1q:h.PlainList a vs.toArray) (h2q:RAs ρ F h vs xs)
theorem RO.list_ {g:Glb} {a:Addr} {l:List Addr} {xs:List AV} (r:RO g ρ F h (a::l) (.list xs)):I_RO_list_ ρ F h a l xs:=by cases r with | list x y=>exact ⟨_,rfl,x,y⟩
open Classical in
inductive I_RO_dictI_ (ρ:Rho) (F:Addr→Prop) (h:Heap) (g:Glb) (a:Addr) (l:List Addr) (kvs:List (Int × AV)):Prop
 | mk (kv) (h0q:l=[]) (h1q:h.DictOf (intKind g.prog g.w) a kv) (h2q:RKV ρ F h kv kvs)
open Classical in
theorem RO.dictI_ {g:Glb} {a:Addr} {l:List Addr} {kvs:List (Int × AV)} (r:RO g ρ F h (a::l) (.dictI kvs)):I_RO_dictI_ ρ F h g a l kvs:=by cases r with | dictI x y=>exact ⟨_,rfl,x,y⟩
open Classical in
inductive I_RO_dictS_ (ρ:Rho) (F:Addr→Prop) (h:Heap) (g:Glb) (a:Addr) (l:List Addr) (kvs:List (Str × AV)):Prop
 | mk (kv) (h0q:l=[]) (h1q:h.DictOf (strKind g.prog g.w) a kv) (h2q:RKV ρ F h kv kvs)
open Classical in
theorem RO.dictS_ {g:Glb} {a:Addr} {l:List Addr} {kvs:List (Str × AV)} (r:RO g ρ F h (a::l) (.dictS kvs)):I_RO_dictS_ ρ F h g a l kvs:=by cases r with | dictS x y=>exact ⟨_,rfl,x,y⟩
open Classical in
inductive I_RO_dictT_ (ρ:Rho) (F:Addr→Prop) (h:Heap) (g:Glb) (a:Addr) (l:List Addr) (kvs:List (PV × AV)):Prop
 | mk (kv) (h0q:l=[]) (h1q:h.DictOfH (pvKind g.prog g.w) a kv) (h2q:RKT ρ F h kv kvs)
open Classical in
theorem RO.dictT_ {g:Glb} {a:Addr} {l:List Addr} {kvs:List (PV × AV)} (r:RO g ρ F h (a::l) (.dictT kvs)):I_RO_dictT_ ρ F h g a l kvs:=by cases r with | dictT x y=>exact ⟨_,rfl,x,y⟩
inductive I_RO_inst_ (ρ:Rho) (F:Addr→Prop) (h:Heap) (g:Glb) (a:Addr) (l:List Addr) (c:Nat) (as:List (Nat × AV)):Prop
 | mk (dx) (sl) (es) (n) (h0q:l=[dx]) (h1q:h.get? a=some ⟨.ref (g.cls c),some dx,.plain,sl⟩) (h2q:h.get? dx=some (PySem.W.dictOf es n)) (h3q:RE g.nm ρ F h es as) (h4q:es.length≤900) (h5q:(g.P.inits.lookup c).isSome=true)
theorem RO.inst_ {g:Glb} {a:Addr} {l:List Addr} {c:Nat} {as:List (Nat × AV)} (r:RO g ρ F h (a::l) (.inst c as)):I_RO_inst_ ρ F h g a l c as:=by cases r with | inst a b c d e=>exact ⟨_,_,_,_,rfl,a,b,c,d,e⟩
end
theorem RA.both {ρ:Rho} {F:Addr→Prop} {h:Heap} {P:Value→AV→Prop} {Ps:List Value→List AV→Prop} (p:∀ {v p},RP F h v p→P v (.pv p)) (r:∀ {i a l},ρ[i]? = some (a::l)→P (.ref a) (.ref i))
  (t:∀ {a vs ps},F a→h.IsTuple a (List.toArray vs)→RAs ρ F h vs ps→Ps vs ps→P (.ref a) (.tupR ps)) (l:∀ {a vs ps},F a→h.IsList a (List.toArray vs)→RAs ρ F h vs ps→Ps vs ps→P (.ref a) (.lstR ps))
  (e:Ps [] []) (c:∀ {v p vs ps},RA ρ F h v p→RAs ρ F h vs ps→P v p→Ps vs ps→Ps (v::vs) (p::ps)):(∀ {v p},RA ρ F h v p→P v p)∧(∀ {vs ps},RAs ρ F h vs ps→Ps vs ps) :=
 ⟨fun x=>RA.rec (motive_1:=fun v p _=>P v p) (motive_2:=fun v p _=>Ps v p) p r t l e c x,fun x=>RAs.rec (motive_1:=fun v p _=>P v p) (motive_2:=fun v p _=>Ps v p) p r t l e c x⟩
theorem RAs.map_ {ρ ρ':Rho} {F F':Addr→Prop} {h h':Heap} (k:∀ v x,RA ρ F h v x→RA ρ' F' h' v x):∀ {vs:List Value} {xs:List AV},RAs ρ F h vs xs→RAs ρ' F' h' vs xs:=by
 intro vs xs
 revert vs
 induction xs with
 | nil=>intro vs r; rw [r.nil_]; exact .nil
 | cons x xs ih=>intro vs r; obtain ⟨u,us,rfl,a,b⟩:=r.cons_; exact .cons (k _ _ a) (ih b)
section mono
variable {ρ ρ':Rho} {F F':Addr→Prop} {h h':Heap}
variable (kρ:∀ (i:Nat) (a:Addr) (l:List Addr),ρ[i]? = some (a::l)→ρ'[i]? = some (a::l))
variable (k:∀ b o,h.get? b=some o→F b→isSeqO o→h'.get? b=some o∧F' b)
include kρ k
theorem RA.mono_both:(∀ {v x},RA ρ F h v x→RA ρ' F' h' v x)∧(∀ {vs xs},RAs ρ F h vs xs→RAs ρ' F' h' vs xs) :=
 RA.both (fun r=>.pv (r.mono k)) (fun e=>.ref (kρ _ _ _ e)) (fun f t _ q=>.tupR (tup_mono k f t).1 (tup_mono k f t).2 q) (fun f t _ q=>.lstR (lst_mono k f t).1 (lst_mono k f t).2 q) .nil (fun _ _ a b=>.cons a b)
theorem RA.mono {v:Value} {x:AV} (r:RA ρ F h v x):RA ρ' F' h' v x:=(RA.mono_both kρ k).1 r
theorem RAs.mono {v:List Value} {x:List AV} (r:RAs ρ F h v x):RAs ρ' F' h' v x:=(RA.mono_both kρ k).2 r
theorem RKV.mono {κ:Type} {v:List (κ × Value)} {x:List (κ × AV)} (r:RKV ρ F h v x):RKV ρ' F' h' v x:=by
 induction r with
 | nil=>exact .nil
 | cons a _ ih=>exact .cons (a.mono kρ k) ih
theorem RKT.mono {v:List (PV × Addr × Value)} {x:List (PV × AV)} (r:RKT ρ F h v x):RKT ρ' F' h' v x:=by
 induction r with
 | nil=>exact .nil
 | cons p a b c _ ih=>exact .cons (p.mono k) a b (c.mono kρ k) ih
theorem RE.mono {nm:List Str} {v:List DictEntry} {x:List (Nat × AV)} (r:RE nm ρ F h v x):RE nm ρ' F' h' v x:=by
 induction r with
 | nil=>exact .nil
 | cons a b _ ih=>exact .cons a (b.mono kρ k) ih
omit kρ k in
open Classical in
theorem RKT.is {g:Glb} {v:List (PV × Addr × Value)} {x:List (PV × AV)} (r:RKT ρ F h v x):∀ y ∈ v,(pvKind g.prog g.w).is h y.1 y.2.1:=by
 induction r with
 | nil=>intro y hy; simp at hy
 | cons p a b c _ ih =>
  intro y hy
  rcases List.mem_cons.mp hy with rfl | hy
  ·exact ⟨_,rfl,a,b,p.mono fun b o e _ _=>⟨e,trivial⟩⟩
  ·exact ih y hy
theorem RO.mono {g:Glb} {l:List Addr} {o:AObj} (ka:∀ b ∈ l,∀ ob,h.get? b=some ob→h'.get? b=some ob) (r:RO g ρ F h l o):RO g ρ' F' h' l o:=by
 cases r with
 | list x y=>obtain ⟨n,e⟩:=x; exact .list ⟨n,ka _ (.head _) _ e⟩ (y.mono kρ k)
 | dictI x y=>obtain ⟨o,es,ep,ho,r⟩:=x; exact .dictI ⟨o,es,ep,ka _ (.head _) _ ho,r⟩ (y.mono kρ k)
 | dictS x y=>obtain ⟨o,es,ep,ho,r⟩:=x; exact .dictS ⟨o,es,ep,ka _ (.head _) _ ho,r⟩ (y.mono kρ k)
 | dictT x y =>
  obtain ⟨o,es,ep,ho,a,b,c,d,e⟩:=x
  have y':=y.mono kρ k
  exact .dictT ⟨o,es,ep,ka _ (.head _) _ ho,a,b,c,y'.is,e⟩ y'
 | inst x y z z' z2=>exact .inst (ka _ (.head _) _ x) (ka _ (.tail _ (.head _)) _ y) (z.mono kρ k) z' z2
 | dead=>exact .dead
end mono
mutual
noncomputable def AV.under (n:Nat):AV→Prop
 | .pv _=>True
 | .ref i=>i<n
 | .tupR l=>AVs.under n l
 | .lstR l=>AVs.under n l
noncomputable def AVs.under (n:Nat):List AV→Prop
 | []=>True
 | a::r=>a.under n∧AVs.under n r
end
noncomputable def AObj.under (n:Nat):AObj→Prop
 | .list l=>AVs.under n l
 | .dictI kvs=>∀ x ∈ kvs,x.2.under n
 | .dictS kvs=>∀ x ∈ kvs,x.2.under n
 | .dictT kvs=>∀ x ∈ kvs,x.2.under n
 | .inst _ as=>∀ x ∈ as,x.2.under n
 | .dead=>True
theorem RA.under_both {ρ:Rho} {F:Addr→Prop} {h:Heap}:(∀ {v x},RA ρ F h v x→x.under ρ.length)∧(∀ {vs xs},RAs ρ F h vs xs→AVs.under ρ.length xs) :=
 RA.both (fun _=>trivial) (fun e=>(List.getElem?_eq_some_iff.mp e).1) (fun _ _ _ q=>q) (fun _ _ _ q=>q) trivial (fun _ _ a b=>⟨a,b⟩)
theorem RA.under {ρ:Rho} {F:Addr→Prop} {h:Heap} {v:Value} {x:AV} (r:RA ρ F h v x):x.under ρ.length:=RA.under_both.1 r
theorem RAs.under {ρ:Rho} {F:Addr→Prop} {h:Heap} {v:List Value} {x:List AV} (r:RAs ρ F h v x):AVs.under ρ.length x:=RA.under_both.2 r
theorem AVs.under_iff (n:Nat):∀ l:List AV,AVs.under n l ↔ ∀ x ∈ l,x.under n
 | []=>by simp [AVs.under]
 | a::r=>by simp [AVs.under,AVs.under_iff n r]
theorem RKV.under {κ:Type} {ρ:Rho} {F:Addr→Prop} {h:Heap} {v:List (κ × Value)} {x:List (κ × AV)} (r:RKV ρ F h v x):∀ y ∈ x,y.2.under ρ.length:=by
 induction r with
 | nil=>intro y hy; simp at hy
 | cons a _ ih=>intro y hy; rcases List.mem_cons.mp hy with rfl | hy; exact a.under; exact ih y hy
theorem RKT.under {ρ:Rho} {F:Addr→Prop} {h:Heap} {v:List (PV × Addr × Value)} {x:List (PV × AV)} (r:RKT ρ F h v x):∀ y ∈ x,y.2.under ρ.length:=by
 induction r with
 | nil=>intro y hy; simp at hy
 | cons _ _ _ a _ ih=>intro y hy; rcases List.mem_cons.mp hy with rfl | hy; exact a.under; exact ih y hy
theorem RE.under {nm:List Str} {ρ:Rho} {F:Addr→Prop} {h:Heap} {v:List DictEntry} {x:List (Nat × AV)} (r:RE nm ρ F h v x):∀ y ∈ x,y.2.under ρ.length:=by
 induction r with
 | nil=>intro y hy; simp at hy
 | cons _ a _ ih=>intro y hy; rcases List.mem_cons.mp hy with rfl | hy; exact a.under; exact ih y hy
theorem RO.under {g:Glb} {ρ:Rho} {F:Addr→Prop} {h:Heap} {l:List Addr} {o:AObj} (r:RO g ρ F h l o):o.under ρ.length:=by
 cases r with
 | list x y=>exact y.under
 | dictI x y=>exact y.under
 | dictS x y=>exact y.under
 | dictT x y=>exact y.under
 | inst x y z z' z2=>exact z.under
 | dead=>trivial
section trim
variable {ρ:Rho} {F:Addr→Prop} {h:Heap} (n:Nat)
theorem RA.trim_both:(∀ {v x},RA ρ F h v x→x.under n→RA (ρ.take n) F h v x)∧(∀ {vs xs},RAs ρ F h vs xs→AVs.under n xs→RAs (ρ.take n) F h vs xs) :=
 RA.both (fun r _=>.pv r) (fun {i a l} e q=>.ref (by rw [List.getElem?_take_of_lt (show i<n from q)]; exact e)) (fun f t _ q u=>.tupR f t (q u)) (fun f t _ q u=>.lstR f t (q u)) (fun _=>.nil) (fun _ _ a b u=>.cons (a u.1) (b u.2))
theorem RA.trim {v:Value} {x:AV} (r:RA ρ F h v x) (q:x.under n):RA (ρ.take n) F h v x:=(RA.trim_both n).1 r q
theorem RAs.trim {v:List Value} {x:List AV} (r:RAs ρ F h v x) (q:AVs.under n x):RAs (ρ.take n) F h v x:=(RA.trim_both n).2 r q
theorem RKV.trim {κ:Type} {v:List (κ × Value)} {x:List (κ × AV)} (r:RKV ρ F h v x) (q:∀ y ∈ x,y.2.under n):RKV (ρ.take n) F h v x:=by
 induction r with
 | nil=>exact .nil
 | cons a _ ih=>exact .cons (a.trim n (q _ (.head _))) (ih fun y hy=>q y (.tail _ hy))
theorem RKT.trim {v:List (PV × Addr × Value)} {x:List (PV × AV)} (r:RKT ρ F h v x) (q:∀ y ∈ x,y.2.under n):RKT (ρ.take n) F h v x:=by
 induction r with
 | nil=>exact .nil
 | cons a b c d _ ih=>exact .cons a b c (d.trim n (q _ (.head _))) (ih fun y hy=>q y (.tail _ hy))
theorem RE.trim {nm:List Str} {v:List DictEntry} {x:List (Nat × AV)} (r:RE nm ρ F h v x) (q:∀ y ∈ x,y.2.under n):RE nm (ρ.take n) F h v x:=by
 induction r with
 | nil=>exact .nil
 | cons a d _ ih=>exact .cons a (d.trim n (q _ (.head _))) (ih fun y hy=>q y (.tail _ hy))
theorem RO.trim {g:Glb} {l:List Addr} {o:AObj} (r:RO g ρ F h l o) (q:o.under n):RO g (ρ.take n) F h l o:=by
 cases r with
 | list x y=>exact .list x (y.trim n q)
 | dictI x y=>exact .dictI x (y.trim n q)
 | dictS x y=>exact .dictS x (y.trim n q)
 | dictT x y=>exact .dictT x (y.trim n q)
 | inst x y z z' z2=>exact .inst x y (z.trim n q) z' z2
 | dead=>exact .dead
end trim
noncomputable def Lv (h:Heap) (b:Addr):Prop:=∃ o,h.get? b=some o
theorem lv_new (h:Heap):¬ Lv h h.objs.size:=fun ⟨o,e⟩=>by rw [Heap.get?_none_of_le (Nat.le_refl _)] at e; cases e
theorem lv_out {h:Heap} {b:Addr} (hb:h.objs.size≤b):¬ Lv h b:=fun ⟨o,e⟩=>by rw [Heap.get?_none_of_le hb] at e; cases e
theorem lv_same {h h':Heap} {a:Addr} (hs:Heap.SameBut a h h') (hL:Lv h' a) (b:Addr) (l:Lv h b):Lv h' b:=by
 by_cases e:b=a
 ·rw [e]; exact hL
 ·obtain ⟨o,q⟩:=l; exact ⟨o,hs.extBut b o e q⟩
noncomputable def Foot (ρ:Rho) (σ:St) (b:Addr):Prop:=∃ (i:Nat) (l:List Addr) (o:AObj),ρ[i]? = some l∧σ.heap[i]? = some o∧o ≠ .dead∧b ∈ l
noncomputable def Fz (Z:Addr→Prop) (ρ:Rho) (σ:St) (b:Addr):Prop:=¬ Z b∧¬ Foot ρ σ b
structure Rel (g:Glb) (Z:Addr→Prop) (bs:List Nat) (ρ:Rho) (σ:St) (h:Heap):Prop where
 len:ρ.length=σ.heap.length
 objs:∀ {i:Nat} {l:List Addr} {o:AObj},ρ[i]? = some l→σ.heap[i]? = some o→RO g ρ (Fz Z ρ σ) h l o
 apart:∀ {i j:Nat} {l m:List Addr} {a:Addr},ρ[i]? = some l→ρ[j]? = some m→a ∈ l→a ∈ m→i=j
 addrs:∀ {i:Nat} {l:List Addr} {a:Addr},ρ[i]? = some l→a ∈ l→¬ Lv g.base a∧Lv h a∧¬ Z a
 zlt:∀ {a:Addr},Z a→¬ Lv g.base a∧Lv h a
 keep:∀ b o,g.base.get? b=some o→h.get? b=some o
 bars:∀ n ∈ bs,n≤σ.heap.length∧∀ {i:Nat} {o:AObj},i<n→σ.heap[i]? = some o→o.under n
 strict:bs ≠ []→σ.strict=true
structure Post (X:Addr→Prop) (ρ:Rho) (σ:St) (s:Shared) (ρ':Rho) (σ':St) (s':Shared):Prop where
 pre:∀ (i:Nat) (l:List Addr),ρ[i]? = some l→ρ'[i]? = some l
 ext:∀ b o,s.heap.get? b=some o→¬ X b→¬ Foot ρ σ b→s'.heap.get? b=some o
 foot:∀ b,Lv s.heap b→¬ X b→¬ Foot ρ σ b→¬ Foot ρ' σ' b
 size:∀ b,Lv s.heap b→¬ X b→Lv s'.heap b
 gens:s'.gens=s.gens
 os:s'.os=s.os
 str:σ'.strict=σ.strict
noncomputable abbrev NoX:Addr→Prop:=fun _=>False
theorem Post.refl {X:Addr→Prop} {ρ:Rho} {σ:St} {s:Shared}:Post X ρ σ s ρ σ s:=⟨fun _ _ e=>e,fun _ _ e _ _=>e,fun _ _ _ e=>e,fun _ q _=>q,rfl,rfl,rfl⟩
theorem Post.toks {X:Addr→Prop} {ρ:Rho} {σ:St} {s:Shared} {ρ':Rho} {σ':St} {s':Shared} (p:Post X ρ σ s ρ' σ' s') (t:Nat):Post X ρ σ s ρ' σ' { s' with toks:=t }:=⟨p.pre,p.ext,p.foot,p.size,p.gens,p.os,p.str⟩
theorem Post.trans {X:Addr→Prop} {ρ ρ' ρ'':Rho} {σ σ' σ'':St} {s s' s'':Shared} (p:Post X ρ σ s ρ' σ' s') (q:Post X ρ' σ' s' ρ'' σ'' s''):Post X ρ σ s ρ'' σ'' s'' where
 pre i l e:=q.pre i l (p.pre i l e)
 ext b o e hx hf:=q.ext b o (p.ext b o e hx hf) hx (p.foot b ⟨_,e⟩ hx hf)
 foot b hb hx hf:=q.foot b (p.size b hb hx) hx (p.foot b hb hx hf)
 size b hb hx:=q.size b (p.size b hb hx) hx
 gens:=q.gens.trans p.gens
 os:=q.os.trans p.os
 str:=q.str.trans p.str
theorem Post.wider {X Y:Addr→Prop} {ρ ρ':Rho} {σ σ':St} {s s':Shared} (p:Post X ρ σ s ρ' σ' s') (k:∀ b,X b→Y b):Post Y ρ σ s ρ' σ' s' :=
 ⟨p.pre,fun b o e hy=>p.ext b o e fun hx=>hy (k b hx),fun b hb hy=>p.foot b hb fun hx=>hy (k b hx),fun b hb hy=>p.size b hb fun hx=>hy (k b hx),p.gens,p.os,p.str⟩
theorem Post.fresh {X Y:Addr→Prop} {ρ ρ':Rho} {σ σ':St} {s s':Shared} (p:Post X ρ σ s ρ' σ' s') (k:∀ b,X b→Lv s.heap b→Y b):Post Y ρ σ s ρ' σ' s' :=
 ⟨p.pre,fun b o e hy=>p.ext b o e fun hx=>hy (k b hx ⟨_,e⟩),fun b hb hy=>p.foot b hb fun hx=>hy (k b hx hb),fun b hb hy=>p.size b hb fun hx=>hy (k b hx hb),p.gens,p.os,p.str⟩
theorem RA.post {X Z:Addr→Prop} {ρ ρ':Rho} {σ σ':St} {s s':Shared} {v:Value} {x:AV} (r:RA ρ (Fz Z ρ σ) s.heap v x) (p:Post X ρ σ s ρ' σ' s') (k:∀ b,X b→Z b):RA ρ' (Fz Z ρ' σ') s'.heap v x :=
 r.mono (fun i a l=>p.pre i (a::l)) fun b o e f _=>⟨p.ext b o e (fun hx=>f.1 (k b hx)) f.2,f.1,p.foot b ⟨_,e⟩ (fun hx=>f.1 (k b hx)) f.2⟩
theorem RAs.post {X Z:Addr→Prop} {ρ ρ':Rho} {σ σ':St} {s s':Shared} {v:List Value} {x:List AV} (r:RAs ρ (Fz Z ρ σ) s.heap v x) (p:Post X ρ σ s ρ' σ' s') (k:∀ b,X b→Z b):RAs ρ' (Fz Z ρ' σ') s'.heap v x :=
 r.mono (fun i a l=>p.pre i (a::l)) fun b o e f _=>⟨p.ext b o e (fun hx=>f.1 (k b hx)) f.2,f.1,p.foot b ⟨_,e⟩ (fun hx=>f.1 (k b hx)) f.2⟩
theorem RA.zless {Z Z':Addr→Prop} {ρ:Rho} {σ:St} {h:Heap} {v:Value} {x:AV} (r:RA ρ (Fz Z ρ σ) h v x) (k:∀ b,Z' b→Z b∨¬ Lv h b):RA ρ (Fz Z' ρ σ) h v x :=
 r.mono (fun _ _ _ e=>e) fun b o e f _=>⟨e,fun hz=>by
  rcases k b hz with q | q
  ·exact f.1 q
  ·exact q ⟨_,e⟩,f.2⟩
theorem RAs.zless {Z Z':Addr→Prop} {ρ:Rho} {σ:St} {h:Heap} {v:List Value} {x:List AV} (r:RAs ρ (Fz Z ρ σ) h v x) (k:∀ b,Z' b→Z b∨¬ Lv h b):RAs ρ (Fz Z' ρ σ) h v x :=
 r.mono (fun _ _ _ e=>e) fun b o e f _=>⟨e,fun hz=>by
  rcases k b hz with q | q
  ·exact f.1 q
  ·exact q ⟨_,e⟩,f.2⟩
section
variable {g:Glb} {Z:Addr→Prop} {bs:List Nat} {ρ:Rho} {σ:St} {h h':Heap}
theorem Rel.notFoot (R:Rel g Z bs ρ σ h) {b:Addr} (hb:Z b):¬ Foot ρ σ b:=fun ⟨_,_,_,e,_,_,m⟩=>(R.addrs e m).2.2 hb
theorem Rel.footLt (R:Rel g Z bs ρ σ h) {b:Addr} (f:Foot ρ σ b):Lv h b:=let ⟨_,_,_,e,_,_,m⟩:=f; (R.addrs e m).2.1
theorem Rel.at_ (R:Rel g Z bs ρ σ h) {i:Nat} {o:AObj} (e:σ.heap[i]? = some o):∃ l,ρ[i]? = some l:=by
 have:=(List.getElem?_eq_some_iff.mp e).1
 exact ⟨ρ[i]'(by rw [R.len]; exact this),List.getElem?_eq_getElem _⟩
theorem lvk (k:∀ b o,h.get? b=some o→h'.get? b=some o) {b:Addr} (l:Lv h b):Lv h' b:=let ⟨o,e⟩:=l; ⟨o,k b o e⟩
theorem Rel.grow (R:Rel g Z bs ρ σ h) (k:∀ b o,h.get? b=some o→h'.get? b=some o):Rel g Z bs ρ σ h' where
 len:=R.len
 objs e1 e2:=(R.objs e1 e2).mono (fun _ _ _ e=>e) (fun b o e f _=>⟨k b o e,f⟩) fun b _ o e=>k b o e
 apart:=R.apart
 addrs e m:=have q:=R.addrs e m; ⟨q.1,(lvk k) q.2.1,q.2.2⟩
 zlt q:=⟨(R.zlt q).1,(lvk k) (R.zlt q).2⟩
 keep b o e:=k b o (R.keep b o e)
 bars:=R.bars
 strict:=R.strict
theorem Rel.inZ (R:Rel g Z bs ρ σ h) (k:∀ b o,h.get? b=some o→¬ Z b→h'.get? b=some o) (hs:∀ b,Lv h b→Lv h' b):Rel g Z bs ρ σ h' where
 len:=R.len
 objs e1 e2:=(R.objs e1 e2).mono (fun _ _ _ e=>e) (fun b o e f _=>⟨k b o e f.1,f⟩) fun b hb o e=>k b o e (R.addrs e1 hb).2.2
 apart:=R.apart
 addrs e m:=have q:=R.addrs e m; ⟨q.1,hs _ q.2.1,q.2.2⟩
 zlt q:=⟨(R.zlt q).1,hs _ (R.zlt q).2⟩
 keep b o e:=k b o (R.keep b o e) fun hz=>(R.zlt hz).1 ⟨_,e⟩
 bars:=R.bars
 strict:=R.strict
theorem Rel.enter {Z':Addr→Prop} (R:Rel g Z bs ρ σ h) (k:∀ b o,h.get? b=some o→h'.get? b=some o)
  (hz:∀ b,Z' b→Z b∨(¬ Lv h b∧Lv h' b)):Rel g Z' bs ρ σ h' where
 len:=R.len
 objs e1 e2:=(R.objs e1 e2).mono (fun _ _ _ e=>e) (fun b o e f _=>⟨k b o e,fun q=>by
  rcases hz b q with x | x
  ·exact f.1 x
  ·exact x.1 ⟨_,e⟩,f.2⟩) fun b _ o e=>k b o e
 apart:=R.apart
 addrs e m:=have q:=R.addrs e m; ⟨q.1,(lvk k) q.2.1,fun z=>by
  rcases hz _ z with x | x
  ·exact q.2.2 x
  ·exact x.1 q.2.1⟩
 zlt q:=by
  rcases hz _ q with x | x
  ·exact ⟨(R.zlt x).1,(lvk k) (R.zlt x).2⟩
  ·exact ⟨fun ⟨o,e⟩=>x.1 ⟨o,k _ _ (R.keep _ _ e) |> fun _=>R.keep _ _ e⟩,x.2⟩
 keep b o e:=k b o (R.keep b o e)
 bars:=R.bars
 strict:=R.strict
theorem Rel.leave {Z':Addr→Prop} (R:Rel g Z' bs ρ σ h) (k:∀ b,Z b→Z' b):Rel g Z bs ρ σ h where
 len:=R.len
 objs e1 e2:=(R.objs e1 e2).mono (fun _ _ _ e=>e) (fun b o e f _=>⟨e,fun q=>f.1 (k b q),f.2⟩) fun b _ o e=>e
 apart:=R.apart
 addrs e m:=have q:=R.addrs e m; ⟨q.1,q.2.1,fun z=>q.2.2 (k _ z)⟩
 zlt q:=R.zlt (k _ q)
 keep:=R.keep
 bars:=R.bars
 strict:=R.strict
theorem foot_set {i:Nat} {o o':AObj} (e:σ.heap[i]? = some o) (n:o ≠ .dead) (n':o' ≠ .dead) (b:Addr):Foot ρ (σ.set i o') b ↔ Foot ρ σ b:=by
 have hi:=(List.getElem?_eq_some_iff.mp e).1
 constructor
 ·rintro ⟨j,l,x,a1,a2,a3,a4⟩
  simp only [St.set,List.getElem?_set] at a2
  by_cases hij:i=j
  ·subst hij; exact ⟨i,l,o,a1,e,n,a4⟩
  ·rw [if_neg hij] at a2; exact ⟨j,l,x,a1,a2,a3,a4⟩
 ·rintro ⟨j,l,x,a1,a2,a3,a4⟩
  by_cases hij:i=j
  ·subst hij; exact ⟨i,l,o',a1,by simp [St.set,List.getElem?_set,hi],n',a4⟩
  ·exact ⟨j,l,x,a1,by simp [St.set,List.getElem?_set,hij,a2],a3,a4⟩
theorem Rel.set {s s':Shared} {i:Nat} {o o':AObj} {l:List Addr} (R:Rel g Z bs ρ σ s.heap) (e1:ρ[i]? = some l) (e2:σ.heap[i]? = some o) (n:o ≠ .dead) (n':o' ≠ .dead)
  (k:∀ b ob,b ∉ l→s.heap.get? b=some ob→s'.heap.get? b=some ob) (hs:∀ b,Lv s.heap b→Lv s'.heap b) (hg:s'.gens=s.gens) (ho:s'.os=s.os)
  (hu:bs ≠ []→∀ n ∈ bs,i<n→o'.under n)
  (hr:(∀ (v:Value) (x:AV),RA ρ (Fz Z ρ σ) s.heap v x→RA ρ (Fz Z ρ σ) s'.heap v x)→(∀ (v:Value) (x:PV),RP (Fz Z ρ σ) s.heap v x→RP (Fz Z ρ σ) s'.heap v x)→RO g ρ (Fz Z ρ σ) s'.heap l o') :
  Rel g Z bs ρ (σ.set i o') s'.heap∧Post NoX ρ σ s ρ (σ.set i o') s':=by
 have hi:=(List.getElem?_eq_some_iff.mp e2).1
 have hf:=fun b=>foot_set (ρ:=ρ) e2 n n' b
 have hF:Fz Z ρ (σ.set i o')=Fz Z ρ σ:=by funext b; simp only [Fz,hf b]
 have out:∀ b,¬ Foot ρ σ b→b ∉ l:=fun b q m=>q ⟨i,l,o,e1,e2,n,m⟩
 have km:∀ b ob,s.heap.get? b=some ob→Fz Z ρ σ b→isSeqO ob→s'.heap.get? b=some ob∧Fz Z ρ σ b:=fun b ob q f _=>⟨k b ob (out b f.2) q,f⟩
 refine ⟨{ len:=by rw [R.len]; simp [St.set],objs:=?_,apart:=R.apart,addrs:=fun a b=>⟨(R.addrs a b).1,hs _ (R.addrs a b).2.1,(R.addrs a b).2.2⟩,zlt:=fun q=>⟨(R.zlt q).1,hs _ (R.zlt q).2⟩,keep:=?_,bars:=?_,strict:=R.strict },
  ⟨fun _ _ e=>e,fun b ob q _ f=>k b ob (out b f) q,fun b _ _ q=>by rw [hf]; exact q,fun b l _=>hs b l,hg,ho,rfl⟩⟩
 ·intro j m x a1 a2
  rw [hF]
  simp only [St.set,List.getElem?_set] at a2
  by_cases hij:i=j
  ·subst hij
   rw [if_pos rfl,if_pos hi] at a2
   cases a2
   rw [e1] at a1; cases a1
   exact hr (fun v x q=>q.mono (fun _ _ _ e=>e) km) (fun v x q=>q.mono km)
  ·rw [if_neg hij] at a2
   refine (R.objs a1 a2).mono (fun _ _ _ e=>e) km fun b hb ob q=>k b ob (fun m'=>hij (R.apart e1 a1 m' hb)) q
 ·intro b ob q
  refine k b ob (fun m=>?_) (R.keep b ob q)
  exact (R.addrs e1 m).1 ⟨_,q⟩
 ·intro m hm
  have q:=R.bars m hm
  refine ⟨by simpa [St.set] using q.1,fun {j x} hj a2=>?_⟩
  simp only [St.set,List.getElem?_set] at a2
  by_cases hij:i=j
  ·subst hij
   rw [if_pos rfl,if_pos hi] at a2
   cases a2
   exact hu (fun z=>by rw [z] at hm; cases hm) m hm hj
  ·rw [if_neg hij] at a2; exact q.2 hj a2
theorem foot_new {l:List Addr} {o':AObj} {b:Addr} (hl:ρ.length=σ.heap.length) (f:Foot (ρ++[l]) { σ with heap:=σ.heap++[o'] } b):Foot ρ σ b∨b ∈ l:=by
 obtain ⟨i,m,x,a1,a2,a3,a4⟩:=f
 rcases Nat.lt_or_ge i ρ.length with z | z
 ·rw [List.getElem?_append_left z] at a1
  rw [List.getElem?_append_left (by rw [← hl]; exact z)] at a2
  exact .inl ⟨i,m,x,a1,a2,a3,a4⟩
 ·rw [List.getElem?_append_right z] at a1
  rcases Nat.eq_or_lt_of_le z with y | y
  ·rw [← y,Nat.sub_self] at a1
   exact .inr (Option.some.inj a1▸a4)
  ·rw [List.getElem?_eq_none (Nat.succ_le_of_lt (Nat.sub_pos_of_lt y))] at a1; cases a1
theorem Rel.newZ {Z':Addr→Prop} {h':Heap} {o':AObj} {l:List Addr} (R:Rel g Z' bs ρ σ h) (hZ:∀ b,Z b→Z' b) (hl:∀ b ∈ l,Z' b∧¬ Z b)
  (k:∀ b ob,b ∉ l→h.get? b=some ob→h'.get? b=some ob) (hs:∀ b,Lv h b→Lv h' b)
  (hr:RO g (ρ++[l]) (Fz Z (ρ++[l]) { σ with heap:=σ.heap++[o'] }) h' l o'):Rel g Z bs (ρ++[l]) { σ with heap:=σ.heap++[o'] } h':=by
 have hlen:=R.len
 have pre:∀ (i:Nat) (m:List Addr),ρ[i]? = some m→(ρ++[l])[i]? = some m:=fun i m e=>by
  rw [List.getElem?_append_left (List.getElem?_eq_some_iff.mp e).1]; exact e
 have back:∀ {i:Nat} {m:List Addr},(ρ++[l])[i]? = some m→(ρ[i]? = some m∧i<ρ.length)∨(i=ρ.length∧m=l):=fun {i m} e=>by
  rcases Nat.lt_or_ge i ρ.length with q | q
  ·rw [List.getElem?_append_left q] at e; exact .inl ⟨e,q⟩
  ·rw [List.getElem?_append_right q] at e
   rcases Nat.eq_or_lt_of_le q with z | z
   ·rw [← z,Nat.sub_self] at e; exact .inr ⟨z.symm,(Option.some.inj e).symm⟩
   ·rw [List.getElem?_eq_none (Nat.succ_le_of_lt (Nat.sub_pos_of_lt z))] at e; cases e
 have backO:∀ {i:Nat} {x:AObj},i<ρ.length→(σ.heap++[o'])[i]? = some x→σ.heap[i]? = some x:=fun {i x} q e=>by
  rw [List.getElem?_append_left (hlen▸q)] at e; exact e
 have km:∀ b ob,h.get? b=some ob→Fz Z' ρ σ b→isSeqO ob→h'.get? b=some ob∧Fz Z (ρ++[l]) { σ with heap:=σ.heap++[o'] } b:=fun b ob q f _ =>
  have hn:b ∉ l:=fun m=>f.1 (hl b m).1
  ⟨k b ob hn q,fun z=>f.1 (hZ b z),fun y=>by
   rcases foot_new hlen y with y | y
   ·exact f.2 y
   ·exact hn y⟩
 refine { len:=by rw [List.length_append,List.length_append,hlen]; rfl,objs:=?_,apart:=?_,addrs:=?_,zlt:=fun q=>⟨(R.zlt (hZ _ q)).1,hs _ (R.zlt (hZ _ q)).2⟩,keep:=?_,bars:=?_,strict:=R.strict }
 ·intro i m x a1 a2
  rcases back a1 with ⟨z1,z2⟩ | ⟨z1,z2⟩
  ·exact (R.objs z1 (backO z2 a2)).mono (fun i a l e=>pre i (a::l) e) km fun b hb ob q=>k b ob (fun y=>(R.addrs z1 hb).2.2 (hl b y).1) q
  ·subst z2
   have:x=o':=by
    have a2:(σ.heap++[o'])[i]? = some x:=a2
    rw [z1,hlen,List.getElem?_append_right (Nat.le_refl _),Nat.sub_self] at a2; exact (Option.some.inj a2).symm
   subst this; exact hr
 ·intro i j m m' a a1 a2 a3 a4
  rcases back a1 with ⟨z1,z2⟩ | ⟨z1,z2⟩ <;> rcases back a2 with ⟨y1,y2⟩ | ⟨y1,y2⟩
  ·exact R.apart z1 y1 a3 a4
  ·subst y2; exact absurd (hl _ a4).1 (R.addrs z1 a3).2.2
  ·subst z2; exact absurd (hl _ a3).1 (R.addrs y1 a4).2.2
  ·exact z1.trans y1.symm
 ·intro i m a a1 a2
  rcases back a1 with ⟨z1,z2⟩ | ⟨z1,z2⟩
  ·exact ⟨(R.addrs z1 a2).1,hs _ (R.addrs z1 a2).2.1,fun z=>(R.addrs z1 a2).2.2 (hZ _ z)⟩
  ·subst z2; exact ⟨(R.zlt (hl _ a2).1).1,hs _ (R.zlt (hl _ a2).1).2,(hl _ a2).2⟩
 ·intro b ob e
  exact k b ob (fun m=>(R.zlt (hl b m).1).1 ⟨_,e⟩) (R.keep b ob e)
 ·intro m hm
  have q:=R.bars m hm
  exact ⟨by rw [List.length_append]; exact Nat.le_trans q.1 (Nat.le_add_right ..),fun {i x} hi a2=>q.2 hi (backO (hlen▸Nat.lt_of_lt_of_le hi q.1) a2)⟩
theorem Rel.new {s s':Shared} {o':AObj} {l:List Addr} (R:Rel g Z bs ρ σ s.heap)
  (k:∀ b ob,s.heap.get? b=some ob→s'.heap.get? b=some ob) (hl:∀ b ∈ l,¬ Lv s.heap b∧Lv s'.heap b) (hn:o' ≠ .dead)
  (hg:s'.gens=s.gens) (ho:s'.os=s.os) (hr:RO g (ρ++[l]) (Fz Z (ρ++[l]) { σ with heap:=σ.heap++[o'] }) s'.heap l o') :
  Rel g Z bs (ρ++[l]) { σ with heap:=σ.heap++[o'] } s'.heap∧Post NoX ρ σ s (ρ++[l]) { σ with heap:=σ.heap++[o'] } s' :=
 ⟨(R.enter (Z':=fun b=>Z b∨b ∈ l) k fun b hb=>hb.imp id (hl b)).newZ (fun _=>.inl) (fun b m=>⟨.inr m,fun z=>(hl b m).1 (R.zlt z).2⟩) (fun b ob _ e=>e) (fun _ q=>q) hr,
  ⟨fun i m e=>by rw [List.getElem?_append_left (List.getElem?_eq_some_iff.mp e).1]; exact e,fun b ob q _ _=>k b ob q,fun b hb _ q y=>(foot_new R.len y).elim q fun m=>(hl b m).1 hb,fun b q _=>lvk k q,hg,ho,rfl⟩⟩
theorem Rel.trim {s s':Shared} {ρ':Rho} {σ':St} (R:Rel g Z bs ρ σ s.heap) (R':Rel g Z (σ.heap.length::bs) ρ' σ' s'.heap) {σ₀:St} (hσ:σ₀.heap=σ.heap) (p:Post NoX ρ σ₀ s ρ' σ' s') :
  Rel g Z bs ρ { heap:=σ'.heap.take σ.heap.length,strict:=σ.strict } s'.heap∧Post NoX ρ σ s ρ { heap:=σ'.heap.take σ.heap.length,strict:=σ.strict } s':=by
 have hB:=R'.bars _ (.head _)
 have tk:ρ'.take σ.heap.length=ρ:=by
  apply List.ext_getElem?
  intro i
  rcases Nat.lt_or_ge i σ.heap.length with q | q
  ·rw [List.getElem?_take_of_lt q]
   have e:ρ[i]? = some (ρ[i]'(by rw [R.len]; exact q)):=List.getElem?_eq_getElem _
   rw [e]; exact p.pre _ _ e
  ·rw [List.getElem?_eq_none (Nat.le_trans (List.length_take_le ..) q),List.getElem?_eq_none (by rw [R.len]; exact q)]
 have backO:∀ {i:Nat} {x:AObj},(σ'.heap.take σ.heap.length)[i]? = some x→i<σ.heap.length∧σ'.heap[i]? = some x:=fun {i x} e=>by
  have hi:i<σ.heap.length:=Nat.lt_of_lt_of_le (List.getElem?_eq_some_iff.mp e).1 (List.length_take_le ..)
  rw [List.getElem?_take_of_lt hi] at e; exact ⟨hi,e⟩
 have foot0:∀ b,Foot ρ σ b ↔ Foot ρ σ₀ b:=fun b=>by simp only [Foot,hσ]
 have hf:∀ b,¬ Foot ρ' σ' b→¬ Foot ρ { heap:=σ'.heap.take σ.heap.length,strict:=σ.strict } b:=by
  rintro b q ⟨i,l,x,a1,a2,a3,a4⟩
  obtain ⟨h1,h2⟩:=backO a2
  exact q ⟨i,l,x,p.pre _ _ a1,h2,a3,a4⟩
 refine ⟨{ len:=by rw [List.length_take,R.len]; exact (Nat.min_eq_left hB.1).symm,objs:=?_,apart:=R.apart,addrs:=?_,zlt:=R'.zlt,keep:=R'.keep,bars:=?_,strict:=R.strict },
  ⟨fun _ _ e=>e,fun b ob q hx f=>p.ext b ob q hx (fun z=>f ((foot0 b).mpr z)),fun b hb hx q=>hf b (p.foot b hb hx fun z=>q ((foot0 b).mpr z)),p.size,p.gens,p.os,rfl⟩⟩
 ·intro i l x a1 a2
  obtain ⟨h1,h2⟩:=backO a2
  have:=(R'.objs (p.pre _ _ a1) h2).trim σ.heap.length (hB.2 h1 h2)
  rw [tk] at this
  exact this.mono (fun _ _ _ e=>e) (fun b ob q f _=>⟨q,f.1,hf b f.2⟩) fun b _ ob q=>q
 ·intro i l a a1 a2
  have q:=R'.addrs (p.pre _ _ a1) a2
  exact q
 ·intro m hm
  have q:=R'.bars m (.tail _ hm)
  have q2:=R.bars m hm
  refine ⟨by rw [List.length_take,Nat.min_eq_left hB.1]; exact q2.1,fun {i x} hi a2=>?_⟩
  obtain ⟨h1,h2⟩:=backO a2
  exact q.2 hi h2
theorem Rel.bar (R:Rel g Z bs ρ σ h):Rel g Z (σ.heap.length::bs) ρ { σ with strict:=true } h where
 len:=R.len
 objs e1 e2:=R.objs e1 e2
 apart:=R.apart
 addrs:=R.addrs
 zlt:=R.zlt
 keep:=R.keep
 bars n hn:=by
  rcases List.mem_cons.mp hn with rfl | hn
  ·refine ⟨Nat.le_refl _,fun {i o} hi e=>?_⟩
   obtain ⟨l,hl⟩:=R.at_ e
   have:=(R.objs hl e).under
   rw [R.len] at this
   exact this
  ·exact R.bars n hn
 strict _:=rfl
end
theorem lookup_zip_some:∀ (ns:List Str) (vs:List Value),ns.length≤vs.length→∀ n ∈ ns,((ns.zip vs).lookup n).isSome=true
 | [],_,_,n,hn=>by simp at hn
 | m::ns,[],hl,n,hn=>by simp at hl
 | m::ns,v::vs,hl,n,hn=>by
  simp only [List.zip_cons_cons,List.lookup_cons]
  cases hb:n == m with
  | true=>rfl
  | false =>
   refine lookup_zip_some ns vs (by simpa using hl) n ?_
   rcases List.mem_cons.mp hn with rfl | h
   ·simp at hb
   ·exact h
theorem filterMap_same {α β:Type} (f g:α→Option β):∀ (l:List α),(∀ x ∈ l,f x=g x)→l.filterMap f=l.filterMap g
 | [],_=>rfl
 | a::r,h=>by rw [List.filterMap_cons,List.filterMap_cons,h a (.head _),filterMap_same f g r fun x hx=>h x (.tail _ hx)]
theorem filterMap_zip:∀ (ns:List Str) (vs:List Value),ns.Nodup→ns.length=vs.length→(ns.filterMap fun n=>((ns.zip vs).lookup n).map (n,·))=ns.zip vs
 | [],vs,_,_=>by simp
 | m::ns,[],_,hl=>by simp at hl
 | m::ns,v::vs,hn,hl=>by
  rw [List.nodup_cons] at hn
  have ih:=filterMap_zip ns vs hn.2 (by simpa using hl)
  rw [List.zip_cons_cons,List.filterMap_cons]
  simp only [List.lookup_cons,beq_self_eq_true,Option.map_some]
  congr 1
  refine (filterMap_same _ _ ns fun n hm=>?_).trans ih
  have:(n == m)=false:=by
   have:n ≠ m:=fun e=>hn.1 (e▸hm)
   simpa using this
  rw [this]
noncomputable def plainParams (ps:List Arg):Arguments:=⟨[],ps,none,[],[],none,[]⟩
theorem ite_go {α:Type} {c:Prop} [Decidable c] {t e r:α} (h:¬ c) (k:e=r):ite c t e=r:=(if_neg h).trans k
theorem for_none {α β γ:Type} {l:List α} {init:β} {f:α→β→Sem (ForInStep β)} {k:β→Sem γ} {r:Sem γ} (hl:l=[]) (h:k init=r):(forIn l init f >>= k)=r:=by subst hl; exact h
theorem bindArgs_plain (fd:FuncData) (ps:List Arg) (vs:List Value) (hp:fd.params=plainParams ps) (hd:fd.defaults = .none) (hn:(ps.map (·.arg)).Nodup) (hl:ps.length=vs.length) :
  bindArgs fd ⟨vs,[]⟩=pure ((ps.map (·.arg)).zip vs):=by
 have h1:∀ n,((ps.map (·.arg)).take n).filter (fun n=>(((ps.map (·.arg)).zip vs).lookup n).isNone)=[]:=fun n=>by
  rw [List.filter_eq_nil_iff]
  intro m hm
  have:=lookup_zip_some (ps.map (·.arg)) vs (Nat.le_of_eq ((List.length_map ..).trans hl)) m (List.mem_of_mem_take hm)
  rw [Option.isNone_eq_false_iff.mpr this]; exact Bool.false_ne_true
 have h2:=filterMap_zip (ps.map (·.arg)) vs hn ((List.length_map ..).trans hl)
 cases fd
 dsimp only at hp hd
 subst hp hd
 have c1:¬ (decide (vs.length > (ps.map (·.arg)).length)&&true)=true:=by rw [Bool.and_true,decide_eq_true_eq,List.length_map,hl]; exact Nat.lt_irrefl _
 have c2:∀ n,¬ (!(((ps.map (·.arg)).take n).filter (fun n=>(((ps.map (·.arg)).zip vs).lookup n).isNone)).isEmpty)=true:=fun n=>by rw [h1]; exact Bool.false_ne_true
 refine ite_go c1 ?_
 refine ite_go (c2 _) ?_
 refine for_none ((congrArg (List.zip _) (List.drop_nil (α:=Value))).trans List.zip_nil_right) ?_
 have h3:=(congrArg (List.filterMap fun n=>(((ps.map fun a:Arg=>a.arg).zip vs).lookup n).map (n,·)) (List.append_nil (ps.map fun a:Arg=>a.arg))).trans h2
 exact congrArg (pure:_→Sem _) h3
structure EOK (g:Glb) (env:PySem.Env) (asg:Str→Bool) (X:Addr→Prop):Prop where
 kind:env.scope.kind = .function
 globals:env.globals=mainGlobals
 builtins:env.builtins=builtinsNs
 xL:X env.locals
 asgOk:∀ x,asg x=true→env.kindOf x=some .local∨(env.kindOf x=some .cell∧∃ c,env.cells.lookup x=some c∧X c)
 held:∀ x,env.kindOf x=some .cell∨env.kindOf x=some .free→∃ c,env.cells.lookup x=some c
 one:∀ x y c,env.cells.lookup x=some c→env.cells.lookup y=some c→x=y
 apart:∀ x c,env.cells.lookup x=some c→c ≠ env.locals
 xs:∀ b,X b→b=env.locals∨∃ x,env.cells.lookup x=some b
structure ER (g:Glb) (Z:Addr→Prop) (ρ:Rho) (σ:St) (h:Heap) (env:PySem.Env) (Γ:Env):Prop where
 ns:∃ m,h.Ns env.locals m∧∀ i v x,Γ.get i=some v→g.nm[i]? = some x→env.kindOf x=some .local→∃ val,m x=some val∧RA ρ (Fz Z ρ σ) h val v
 cell:∀ x c,env.cells.lookup x=some c→∃ ov,h.IsCell c ov∧∀ i v,Γ.get i=some v→g.nm[i]? = some x→env.kindOf x=some .cell∨env.kindOf x=some .free→∃ val,ov=some val∧RA ρ (Fz Z ρ σ) h val v
 zL:Z env.locals
 zC:∀ x c,env.cells.lookup x=some c→Z c
theorem ER.post {g:Glb} {Z:Addr→Prop} {bs:List Nat} {ρ ρ':Rho} {σ σ':St} {s s':Shared} {env:PySem.Env} {Γ:Env} (R:Rel g Z bs ρ σ s.heap) (e:ER g Z ρ σ s.heap env Γ) (p:Post NoX ρ σ s ρ' σ' s'):ER g Z ρ' σ' s'.heap env Γ where
 ns:=by
  obtain ⟨m,hn,hv⟩:=e.ns
  obtain ⟨o,es,ep,ho,r⟩:=hn
  refine ⟨m,⟨o,es,ep,p.ext _ _ ho id (R.notFoot e.zL),r⟩,fun i v x a b c=>?_⟩
  obtain ⟨val,q1,q2⟩:=hv i v x a b c
  exact ⟨val,q1,q2.post p fun _ h=>h.elim⟩
 cell x c hc:=by
  obtain ⟨ov,⟨o,ho,hd⟩,hv⟩:=e.cell x c hc
  refine ⟨ov,⟨o,p.ext _ _ ho id (R.notFoot (e.zC x c hc)),hd⟩,fun i v a b k=>?_⟩
  obtain ⟨val,q1,q2⟩:=hv i v a b k
  exact ⟨val,q1,q2.post p fun _ h=>h.elim⟩
 zL:=e.zL
 zC:=e.zC
theorem ER.zmore {g:Glb} {Z Z':Addr→Prop} {ρ:Rho} {σ:St} {h h':Heap} {env:PySem.Env} {Γ:Env} (e:ER g Z ρ σ h env Γ) (k:∀ b o,h.get? b=some o→h'.get? b=some o)
  (hz:∀ b,Z' b→Z b∨¬ Lv h b) (hz':∀ b,Z b→Z' b):ER g Z' ρ σ h' env Γ where
 ns:=by
  obtain ⟨m,hn,hv⟩:=e.ns
  refine ⟨m,hn.keeps k,fun i v x a b c=>?_⟩
  obtain ⟨val,q1,q2⟩:=hv i v x a b c
  exact ⟨val,q1,(q2.zless hz).mono (fun _ _ _ e=>e) fun b o e f _=>⟨k b o e,f⟩⟩
 cell x c hc:=by
  obtain ⟨ov,hi,hv⟩:=e.cell x c hc
  refine ⟨ov,hi.keeps k,fun i v a b kk=>?_⟩
  obtain ⟨val,q1,q2⟩:=hv i v a b kk
  exact ⟨val,q1,(q2.zless hz).mono (fun _ _ _ e=>e) fun b o e f _=>⟨k b o e,f⟩⟩
 zL:=hz' _ e.zL
 zC x c hc:=hz' _ (e.zC x c hc)
theorem Env.get_put (i:Nat) (v:AV):∀ (Γ:Env) (j:Nat),(Γ.put i v).get j=if i=j then some v else Γ.get j
 | [],j=>by
  simp only [Env.put,Env.get]
  by_cases h:i=j
  ·simp [h]
  ·have:(i == j)=false:=by simpa using h
   simp [h,this]
 | (k,w)::r,j=>by
  have ih:=Env.get_put i v r j
  by_cases hk:k=i
  ·subst hk
   by_cases h:k=j
   ·subst h; simp [Env.put,Env.get]
   ·have:(k == j)=false:=by simpa using h
    simp [Env.put,Env.get,h,this]
  ·have hk':(k == i)=false:=by simpa using hk
   simp only [Env.put,hk',cond_false,Env.get]
   by_cases h:k=j
   ·subst h
    have:¬ i=k:=fun e=>hk e.symm
    simp [this]
   ·have:(k == j)=false:=by simpa using h
    simp only [this,cond_false]
    exact ih
structure ClsOk (g:Glb) (C:Addr):Prop where
 plain:∀ x,plainGet g.K C x=true
 hasDict:hasDictIn g.K C=true
 free:∀ m ∈ g.dat,∀ x,g.nm[m]? = some x→findIn g.K (.ref C) x=some none
 seta:findIn g.K (.ref C) "__setattr__" = some (some (.builtin "object.__setattr__"))
 over:plainOver g.K C=true
structure GOk (g:Glb):Prop where
 cls:∀ c,(g.P.inits.lookup c).isSome=true→ClsOk g (g.cls c)
 low:Lv g.base sysModules
 kin:g.K.In g.base
 bb:∃ mb,g.base.Ns builtinsNs mb∧∀ x,x ≠ ("__name__" : Str)→mb x=bootBuiltins x
 nolimit:g.base.NoLimit
 nd:g.nm.Nodup
section
variable {g:Glb} {A:Around} {s:Shared} {env:PySem.Env} {Γ:Env} {Z:Addr→Prop} {bs:List Nat} {ρ:Rho} {σ:St} {E:Value→Shared→Prop} {asg:Str→Bool} {X:Addr→Prop}
theorem nd_of {l:List Str} (h:l.Nodup) {i j:Nat} {x:Str} (a:l[i]? = some x) (b:l[j]? = some x):i=j :=
 (List.getElem?_inj (List.getElem?_eq_some_iff.mp a).1 h).mp (a.trans b.symm)
theorem name_var {i:Nat} {x:Str} {v:AV} {pos:Pos} {Q:Value→Shared→Prop} (ok:EOK g env asg X) (e:ER g Z ρ σ s.heap env Γ) (hv:Γ.get i=some v) (hx:g.nm[i]? = some x)
  (hk:env.kindOf x=some .local∨env.kindOf x=some .cell∨env.kindOf x=some .free) (hd:(x == ("__debug__" : Str))=false) (hc:(x == ("__classdict__" : Str))=false)
  (h:∀ val,RA ρ (Fz Z ρ σ) s.heap val v→Q val s):wpAny (model g.prog g.w) A (eval (.Name x pos) env) Q E s:=by
 rcases hk with hk | hk | hk
 ·obtain ⟨m,hn,q⟩:=e.ns
  obtain ⟨val,q1,q2⟩:=q i v x hv hx hk
  exact wpAny_Name (wpAny_loadName_local ok.kind hk hn q1 (h val q2)) hd
 ·obtain ⟨c,hcl⟩:=ok.held x (.inl hk)
  obtain ⟨ov,hi,q⟩:=e.cell x c hcl
  obtain ⟨val,rfl,q2⟩:=q i v hv hx (.inl hk)
  exact wpAny_Name (wpAny_loadName_cell ok.kind hk hcl hi (h val q2)) hd
 ·obtain ⟨c,hcl⟩:=ok.held x (.inr hk)
  obtain ⟨ov,hi,q⟩:=e.cell x c hcl
  obtain ⟨val,rfl,q2⟩:=q i v hv hx (.inr hk)
  exact wpAny_Name (wpAny_loadName_free ok.kind hk hcl hi (h val q2) hc) hd
theorem name_glob {x:Str} {v:Value} {pos:Pos} {Q:Value→Shared→Prop} (G:GOk g) (ok:EOK g env asg X) (R:Rel g Z bs ρ σ s.heap) (hx:env.kindOf x=some .globalImplicit) (hd:(x == ("__debug__" : Str))=false)
  (hv:nsIn g.K mainGlobals x=some (some v)) (h:Q v s):wpAny (model g.prog g.w) A (eval (.Name x pos) env) Q E s:=by
 refine wpAny_Name ?_ hd
 rw [loadName_read ok.kind hx]
 unfold loadGlobal
 rw [ok.globals]
 refine wpAny_bind ((looks_nsIn (M:=model g.prog g.w) G.kin hv) _ _ _ _ R.keep ?_)
 exact wpAny_pure h
theorem name_built {x:Str} {v:Value} {pos:Pos} {Q:Value→Shared→Prop} (G:GOk g) (ok:EOK g env asg X) (R:Rel g Z bs ρ σ s.heap) (hx:env.kindOf x=some .globalImplicit) (hd:(x == ("__debug__" : Str))=false)
  (hv:nsIn g.K mainGlobals x=some none) (hb:bootBuiltins x=some v) (hn:x ≠ "__name__") (h:Q v s):wpAny (model g.prog g.w) A (eval (.Name x pos) env) Q E s:=by
 refine wpAny_Name ?_ hd
 rw [loadName_read ok.kind hx]
 unfold loadGlobal
 rw [ok.globals,ok.builtins]
 obtain ⟨mb,hns,hm⟩:=G.bb
 refine wpAny_bind ((looks_nsIn (M:=model g.prog g.w) G.kin hv) _ _ _ _ R.keep ?_)
 refine wpAny_bind (wpAny_nsGet (hns.keeps R.keep) ?_)
 rw [hm x hn,hb]
 exact wpAny_pure h
inductive PutS (Γ:Env) (i j:Nat) (v w:AV):Prop
 | here (e:i=j) (h:v=w)
 | there (n:¬ i=j) (h:Γ.get j=some w)
theorem put_some {Γ:Env} {i j:Nat} {v w:AV} (h:(Γ.put i v).get j=some w):PutS Γ i j v w:=by
 rw [Env.get_put] at h
 by_cases e:i=j
 ·rw [if_pos e] at h; exact .here e (Option.some.inj h)
 ·rw [if_neg e] at h; exact .there e h
theorem put_val {R:Value→AV→Prop} {Kd:Prop} {nm:List Str} {Γ:Env} {i:Nat} {x y:Str} {v:AV} {ov ov':Option Value} (nd:nm.Nodup) (hx:nm[i]? = some x) (q:∀ j w,Γ.get j=some w→nm[j]? = some y→Kd→∃ u,ov=some u∧R u w)
  (hxy:y=x→Kd→∃ u,ov'=some u∧R u v) (ho:¬ y=x→ov'=ov) (j:Nat) (w:AV) (h1:(Γ.put i v).get j=some w) (h2:nm[j]? = some y) (h3:Kd):∃ u,ov'=some u∧R u w:=by
 cases put_some h1 with
 | here e h=>exact h▸hxy (Option.some.inj (h2.symm.trans (e▸hx))) h3
 | there n h=>rw [ho fun e=>n (nd_of nd hx (e▸h2))]; exact q j w h h2 h3
theorem bind_name {i:Nat} {x:Str} {v:AV} {val:Value} {Q:Unit→Shared→Prop} (G:GOk g) (ok:EOK g env asg X) (R:Rel g Z bs ρ σ s.heap) (e:ER g Z ρ σ s.heap env Γ) (hx:g.nm[i]? = some x) (ha:asg x=true)
  (hv:RA ρ (Fz Z ρ σ) s.heap val v)
  (h:∀ s',Rel g Z bs ρ σ s'.heap→ER g Z ρ σ s'.heap env (Γ.put i v)→Post X ρ σ s ρ σ s'→Q () s'):wpAny (model g.prog g.w) A (bindName env x val) Q E s:=by
 have hXZ:∀ b,X b→Z b:=fun b hb=>orEq (ok.xs b hb) e.zL fun ⟨y,hy⟩=>e.zC y b hy
 have key:∀ (a:Addr) (h':Heap) (t:Tok),X a→Lv h' a→Heap.SameBut a s.heap h'→Rel g Z bs ρ σ h'∧Post X ρ σ s ρ σ { s with heap:=h',toks:=t } ∧
   ∀ (w:Value) (y:AV),RA ρ (Fz Z ρ σ) s.heap w y→RA ρ (Fz Z ρ σ) h' w y:=by
  intro a h' t hXa hL hs
  have hz:=hXZ a hXa
  have pp:Post X ρ σ s ρ σ { s with heap:=h',toks:=t }:=⟨fun _ _ e=>e,fun b o e hx _=>hs.extBut b o (fun q=>hx (q▸hXa)) e,fun _ _ _ q=>q,fun b l _=>lv_same hs hL b l,rfl,rfl,rfl⟩
  exact ⟨R.inZ (fun b o e hz'=>hs.extBut b o (fun q=>hz' (q▸hz)) e) (lv_same hs hL),pp,fun w y r=>r.post pp hXZ⟩
 unfold bindName
 refine wpAny_bind (wpAny_holding (wpAny_point (wpAny_bind ?_)))
 rcases ok.asgOk x ha with hk | ⟨hk,c,hc,hXc⟩
 ·obtain ⟨m,hn,q⟩:=e.ns
  refine wpAny_storeName_local hk hn (fun h' hn' hs=>wpAny_point ?_) (by rw [ok.kind]; rfl)
  obtain ⟨k1,k2,k3⟩:=key env.locals h' (s.toks+1) ok.xL (let ⟨o,_,_,e,_⟩:=hn'; ⟨o,e⟩) hs
  refine h _ k1 ⟨⟨_,hn',fun j w y=>put_val (R:=RA ρ (Fz Z ρ σ) h') G.nd hx (fun j w h1 h2 h3=>(q j w y h1 h2 h3).imp fun u h=>⟨h.1,k3 _ _ h.2⟩) (fun e _=>⟨val,if_pos e,k3 _ _ hv⟩) (fun n=>if_neg n) j w⟩,fun y c hc=>?_,e.zL,e.zC⟩ k2
  obtain ⟨ov,hi,z⟩:=e.cell y c hc
  exact ⟨ov,hi.sameBut hs (ok.apart y c hc),put_val (R:=RA ρ (Fz Z ρ σ) h') G.nd hx (fun j w h1 h2 h3=>(z j w h1 h2 h3).imp fun u h=>⟨h.1,k3 _ _ h.2⟩) (fun e h3=>absurd h3 (by rw [e,hk]; decide)) fun _=>rfl⟩
 ·obtain ⟨ov,hi,z⟩:=e.cell x c hc
  refine wpAny_storeName_cell ok.kind hk hc hi (fun h' hi' hs=>wpAny_point ?_)
  obtain ⟨k1,k2,k3⟩:=key c h' s.toks hXc (let ⟨o,e,_⟩:=hi'; ⟨o,e⟩) hs
  refine h _ k1 ⟨?_,fun y d hd=>?_,e.zL,e.zC⟩ k2
  ·obtain ⟨m,hn,q⟩:=e.ns
   exact ⟨m,hn.sameBut hs (ok.apart x c hc).symm,fun j w y=>put_val (R:=RA ρ (Fz Z ρ σ) h') G.nd hx (fun j w h1 h2 h3=>(q j w y h1 h2 h3).imp fun u h=>⟨h.1,k3 _ _ h.2⟩) (fun e h3=>absurd h3 (by rw [e,hk]; decide)) (fun _=>rfl) j w⟩
  ·by_cases hcd:c=d
   ·have hyx:y=x:=ok.one y x d hd (hcd▸hc)
    exact ⟨some val,hcd▸hi',fun j w h1 h2 _=>by
     cases put_some h1 with
     | here _ h=>exact ⟨val,rfl,h▸k3 _ _ hv⟩
     | there n _=>exact absurd (nd_of G.nd hx (hyx▸h2)) n⟩
   ·obtain ⟨ov2,hi2,z2⟩:=e.cell y d hd
    exact ⟨ov2,hi2.sameBut hs (Ne.symm hcd),put_val (R:=RA ρ (Fz Z ρ σ) h') G.nd hx (fun j w h1 h2 h3=>(z2 j w h1 h2 h3).imp fun u h=>⟨h.1,k3 _ _ h.2⟩) (fun e h3=>absurd (Option.some.inj (hc.symm.trans (e▸hd))) hcd) fun _=>rfl⟩
end
theorem big_line:big≤sizeLine:=by unfold big sizeLine; decide
section
variable {g:Glb} {A:Around} {s:Shared} {Z:Addr→Prop} {bs:List Nat} {ρ:Rho} {σ:St} {E:Value→Shared→Prop} {F:Addr→Prop} {h:Heap}
theorem RAs.length {vs:List Value} {xs:List AV}:RAs ρ F h vs xs→vs.length=xs.length:=by
 revert xs
 induction vs with
 | nil=>intro xs r; cases r; rfl
 | cons v vs ih=>intro xs r; cases r with | cons a b=>simp [ih b]
theorem RAs.get {vs:List Value} {xs:List AV} (r:RAs ρ F h vs xs) {j:Nat} {x:AV} (e:xs[j]? = some x):∃ v,vs[j]? = some v∧RA ρ F h v x:=by
 revert xs j
 induction vs with
 | nil=>intro xs r j e; cases r; simp at e
 | cons v vs ih =>
  intro xs r j e
  cases r with
  | cons a b =>
   cases j with
   | zero=>simp at e; subst e; exact ⟨_,rfl,a⟩
   | succ j=>obtain ⟨v,h1,h2⟩:=ih b (by simpa using e); exact ⟨v,by simpa using h1,h2⟩
theorem RAs.append {vs ws:List Value} {xs ys:List AV} (r:RAs ρ F h vs xs) (q:RAs ρ F h ws ys):RAs ρ F h (vs++ws) (xs++ys):=by
 revert xs
 induction vs with
 | nil=>intro xs r; cases r; exact q
 | cons v vs ih=>intro xs r; cases r with | cons a b=>exact .cons a (ih b)
theorem RAs.take {vs:List Value} {xs:List AV} (r:RAs ρ F h vs xs) (n:Nat):RAs ρ F h (vs.take n) (xs.take n):=by
 revert xs n
 induction vs with
 | nil=>intro xs r n; cases r; simp; exact .nil
 | cons v vs ih =>
  intro xs r n
  cases r with
  | cons a b=>cases n with
   | zero=>exact .nil
   | succ n=>exact .cons a (ih b n)
theorem RAs.drop {vs:List Value} {xs:List AV} (r:RAs ρ F h vs xs) (n:Nat):RAs ρ F h (vs.drop n) (xs.drop n):=by
 revert xs n
 induction vs with
 | nil=>intro xs r n; cases r; simp; exact .nil
 | cons v vs ih =>
  intro xs r n
  cases r with
  | cons a b=>cases n with
   | zero=>exact .cons a b
   | succ n=>exact ih b n
theorem RPs.toA {vs:List Value} {ps:List PV} (r:RPs F h vs ps):RAs ρ F h vs (ps.map .pv):=by
 revert ps
 induction vs with
 | nil=>intro ps r; cases r; exact .nil
 | cons v vs ih=>intro ps r; cases r with | cons a b=>exact .cons (.pv a) (ih b)
theorem RAs.toP {vs:List Value} {xs:List AV} {ps:List PV} (r:RAs ρ F h vs xs) (e:toPVs xs=some ps):RPs F h vs ps:=by
 revert xs ps
 induction vs with
 | nil=>intro xs ps r e; cases r; simp [toPVs] at e; subst e; exact .nil
 | cons v vs ih =>
  intro xs ps r e
  cases r with
  | @cons _ x _ xs a b =>
   cases x with
   | pv p =>
    simp only [toPVs,Option.map_eq_some_iff] at e
    obtain ⟨q,h1,rfl⟩:=e
    cases a with | pv a=>exact .cons a (ih b h1)
   | _=>simp [toPVs] at e
theorem RA.mkTup {a:Addr} {vs:List Value} {xs:List AV} (f:F a) (t:h.IsTuple a vs.toArray) (r:RAs ρ F h vs xs):RA ρ F h (.ref a) (mkTup xs):=by
 unfold Mine.mkTup
 cases e:toPVs xs with
 | some ps=>exact .pv (.tup f t (r.toP e))
 | none=>exact .tupR f t r
theorem RA.mkLst {a:Addr} {vs:List Value} {xs:List AV} (f:F a) (t:h.IsList a vs.toArray) (r:RAs ρ F h vs xs):RA ρ F h (.ref a) (mkLst xs):=by
 unfold Mine.mkLst
 cases e:toPVs xs with
 | some ps=>exact .pv (.lst f t (r.toP e))
 | none=>exact .lstR f t r
theorem items_of {v:Value} {x:AV} {l:List AV} (R:Rel g Z bs ρ σ h) (r:RA ρ (Fz Z ρ σ) h v x) (e:itemsOf σ x=some l) :
  ∃ a vs,v = .ref a∧RAs ρ (Fz Z ρ σ) h vs l∧((isTupV x=true∧h.IsTuple a vs.toArray)∨(isLstV x=true∧isTupV x=false∧h.IsList a vs.toArray)):=by
 cases x with
 | pv p =>
  have r:=r.pv_
  cases p with
  | tup l0 =>
   obtain rfl:l0.map .pv=l:=Option.some.inj e
   obtain ⟨a,vs,rfl,_,t,q⟩:=r.tup_
   exact ⟨_,_,rfl,q.toA,.inl ⟨rfl,t⟩⟩
  | lst l0 =>
   obtain rfl:l0.map .pv=l:=Option.some.inj e
   obtain ⟨a,vs,rfl,_,t,q⟩:=r.lst_
   exact ⟨_,_,rfl,q.toA,.inr ⟨rfl,rfl,t⟩⟩
  | _=>cases e
 | tupR l0 =>
  obtain rfl:l0=l:=Option.some.inj e
  obtain ⟨a,vs,rfl,_,t,q⟩:=r.tupR_
  exact ⟨_,_,rfl,q,.inl ⟨rfl,t⟩⟩
 | lstR l0 =>
  obtain rfl:l0=l:=Option.some.inj e
  obtain ⟨a,vs,rfl,_,t,q⟩:=r.lstR_
  exact ⟨_,_,rfl,q,.inr ⟨rfl,rfl,t⟩⟩
 | ref i =>
  obtain ⟨a,l',rfl,q⟩:=r.ref_
  have e:(match σ.heap[i]? with | some (.list l)=>some l | _=>none)=some l:=e
  split at e
  ·rename_i l'' hq
   cases e
   obtain ⟨vs,_,x,y⟩:=(R.objs q hq).list_
   exact ⟨_,_,rfl,y,.inr ⟨rfl,rfl,x.isList⟩⟩
  ·cases e
theorem as_pv {v:Value} {x:AV} {p:PV} (R:Rel g Z bs ρ σ h) (r:RA ρ (Fz Z ρ σ) h v x) (e:asPV σ x=some p):RP (fun _=>True) h v p:=by
 cases x with
 | pv p0 =>
  obtain rfl:p0=p:=Option.some.inj e
  exact r.pv_.mono fun b o e _ _=>⟨e,trivial⟩
 | ref i =>
  obtain ⟨a,l',rfl,q⟩:=r.ref_
  have e:(match σ.heap[i]? with | some (.list l)=>(toPVs l).map .lst | _=>none)=some p:=e
  split at e
  ·rename_i l'' hq
   obtain ⟨ps,h1,rfl⟩:=Option.map_eq_some_iff.mp e
   obtain ⟨vs,_,x,y⟩:=(R.objs q hq).list_
   exact .lst trivial x.isList ((y.toP h1).mono fun b o e _ _=>⟨e,trivial⟩)
  ·cases e
 | _=>cases e
structure Room (d:Nat) (A:Around):Prop where
 depth:A.depth+2 * d+10<recursionLimit
 units:A.units+20 * d+200<cLine
 handled:A.handled=none
 guards:A.guards=some []
theorem Room.now {d:Nat} {A:Around} (r:Room d A):A.depth<recursionLimit:=Nat.lt_of_le_of_lt (Nat.le_trans (Nat.le_add_right ..) (Nat.le_add_right ..)) r.depth
theorem Room.deep1 {d:Nat} {A:Around} (r:Room (d+1) A):A.depth+1+2 * d+11<recursionLimit:=by have:=r.depth; exact Nat.lt_of_le_of_lt (Nat.le_of_eq (congrArg (· + 11) (Nat.add_right_comm A.depth 1 (2 * d)))) this
theorem Room.unit1 {d:Nat} {A:Around} (r:Room (d+1) A):A.units+3+20 * d+210<cLine:=by have:=r.units; exact Nat.lt_of_le_of_lt (Nat.le_trans (Nat.le_of_eq (congrArg (· + 210) (Nat.add_right_comm A.units 3 (20 * d)))) (Nat.add_le_add_left (show 213≤220 by decide) (A.units+20 * d))) this
noncomputable abbrev Done (g:Glb) (Z:Addr→Prop) (bs:List Nat) (ρ:Rho) (σ:St) (s:Shared) (r:AV) (σ':St) (Q:Value→Shared→Prop):Prop :=
 ∀ val s' ρ',Rel g Z bs ρ' σ' s'.heap→Post NoX ρ σ s ρ' σ' s'→RA ρ' (Fz Z ρ' σ') s'.heap val r→Q val s'
theorem Done.of {g:Glb} {Z:Addr→Prop} {bs:List Nat} {ρ:Rho} {σ σ1 σ2:St} {s:Shared} {r r':AV} {Q:Value→Shared→Prop} (K:Done g Z bs ρ σ s r σ1 Q) (e:some (r',σ2)=some (r,σ1)):Done g Z bs ρ σ s r' σ2 Q:=by
 obtain ⟨e1,e2⟩:=ret_same e; rw [e1,e2]; exact K
theorem Done.toks {r:AV} {Q:Value→Shared→Prop} (R:Rel g Z bs ρ σ s.heap) (K:Done g Z bs ρ σ s r σ Q) {val:Value} (t:Nat) (q:RA ρ (Fz Z ρ σ) s.heap val r):Q val { s with toks:=t } :=
 K val _ ρ R (Post.refl.toks t) q
theorem Done.same {r:AV} {Q:Value→Shared→Prop} (R:Rel g Z bs ρ σ s.heap) (K:Done g Z bs ρ σ s r σ Q) {val:Value} (q:RA ρ (Fz Z ρ σ) s.heap val r):Q val s :=
 K val _ ρ R Post.refl q
theorem Done.int {i:Int} {Q:Value→Shared→Prop} (R:Rel g Z bs ρ σ s.heap) (K:Done g Z bs ρ σ s (.pv (.int i)) σ Q) (u t:Nat):Q (.int i u) { s with toks:=t }:=K.toks R t (.pv (.int _ _))
theorem Done.bool {b:Bool} {Q:Value→Shared→Prop} (R:Rel g Z bs ρ σ s.heap) (K:Done g Z bs ρ σ s (.pv (.bool b)) σ Q):Q (.bool b) s:=K.same R (.pv (.bool _))
theorem Post.grow {s s':Shared} (k:∀ b o,s.heap.get? b=some o→s'.heap.get? b=some o) (hg:s'.gens=s.gens) (ho:s'.os=s.os):Post NoX ρ σ s ρ σ s' :=
 ⟨fun _ _ e=>e,fun b o e _ _=>k b o e,fun _ _ _ q=>q,fun _ q _=>lvk k q,hg,ho,rfl⟩
theorem Rel.notFootNew (R:Rel g Z bs ρ σ h) {b:Addr} (hb:¬ Lv h b):Fz Z ρ σ b :=
 ⟨fun z=>hb (R.zlt z).2,fun f=>hb (R.footLt f)⟩
theorem size_push' (h:Heap) (o:Obj):h.objs.size≤(h.push o).objs.size:=by rw [Heap.size_push]; exact Nat.le_succ _
theorem new_tup {vs:List Value} {xs:List AV} {Q:Value→Shared→Prop} (R:Rel g Z bs ρ σ s.heap) (r:RAs ρ (Fz Z ρ σ) s.heap vs xs) (K:Done g Z bs ρ σ s (Mine.mkTup xs) σ Q) (t:Nat) :
  Q (.ref s.heap.objs.size) { s with heap:=s.heap.push { cls:=.type "tuple", data:=.seq vs.toArray },toks:=t }:=by
 have k:∀ b o,s.heap.get? b=some o→(s.heap.push { cls:=.type "tuple", data:=.seq vs.toArray }).get? b=some o:=fun b o e=>Heap.get?_push_of_some _ e
 refine K _ _ ρ (R.grow k) (Post.grow k rfl rfl) (.mkTup (vs:=vs) (R.notFootNew (lv_new _)) ⟨_,Heap.get?_push_size _ rfl,rfl,_,rfl⟩ (r.mono (fun _ _ _ e=>e) fun b o e f _=>⟨k b o e,f⟩))
theorem new_lst {vs:List Value} {xs:List AV} {Q:Value→Shared→Prop} (R:Rel g Z bs ρ σ s.heap) (r:RAs ρ (Fz Z ρ σ) s.heap vs xs) (K:Done g Z bs ρ σ s (Mine.mkLst xs) σ Q) (t:Nat) :
  Q (.ref s.heap.objs.size) { s with heap:=s.heap.push { cls:=.type "list", data:=.seq vs.toArray },toks:=t }:=by
 have k:∀ b o,s.heap.get? b=some o→(s.heap.push { cls:=.type "list", data:=.seq vs.toArray }).get? b=some o:=fun b o e=>Heap.get?_push_of_some _ e
 refine K _ _ ρ (R.grow k) (Post.grow k rfl rfl) (.mkLst (vs:=vs) (R.notFootNew (lv_new _)) ⟨_,Heap.get?_push_size _ rfl,rfl,_,rfl⟩ (r.mono (fun _ _ _ e=>e) fun b o e f _=>⟨k b o e,f⟩))
theorem RAs.newO {s:Shared} {h':Heap} {vs:List Value} {xs:List AV} {l:List Addr} {o':AObj} (R:Rel g Z bs ρ σ s.heap) (r:RAs ρ (Fz Z ρ σ) s.heap vs xs) (k:∀ b o,s.heap.get? b=some o→h'.get? b=some o) (hl:∀ b ∈ l,¬ Lv s.heap b) :
  RAs (ρ++[l]) (Fz Z (ρ++[l]) { σ with heap:=σ.heap++[o'] }) h' vs xs :=
 r.mono (fun i a l e=>by rw [List.getElem?_append_left (List.getElem?_eq_some_iff.mp e).1]; exact e) fun b o e f _=>⟨k b o e,f.1,fun q=>by
  rcases foot_new R.len q with q | q
  ·exact f.2 q
  ·exact hl b q ⟨_,e⟩⟩
theorem new_obj {s':Shared} {o':AObj} {l:List Addr} {a:Addr} {Q:Value→Shared→Prop} (R:Rel g Z bs ρ σ s.heap) (K:Done g Z bs ρ σ s (σ.new o').1 (σ.new o').2 Q)
  (k:∀ b ob,s.heap.get? b=some ob→s'.heap.get? b=some ob) (hl:∀ b ∈ a::l,¬ Lv s.heap b∧Lv s'.heap b) (hn:o' ≠ .dead)
  (hg:s'.gens=s.gens) (ho:s'.os=s.os) (hr:RO g (ρ++[a::l]) (Fz Z (ρ++[a::l]) { σ with heap:=σ.heap++[o'] }) s'.heap (a::l) o'):Q (.ref a) s':=by
 have q:=Rel.new (o':=o') (l:=a::l) R k hl hn hg ho hr
 exact K _ _ _ q.1 q.2 (.ref (l:=l) (by simp [R.len]))
theorem new_list {vs:List Value} {xs:List AV} {Q:Value→Shared→Prop} (R:Rel g Z bs ρ σ s.heap) (r:RAs ρ (Fz Z ρ σ) s.heap vs xs) (K:Done g Z bs ρ σ s (σ.new (.list xs)).1 (σ.new (.list xs)).2 Q) (t:Nat) :
  Q (.ref s.heap.objs.size) { s with heap:=s.heap.push { cls:=.type "list", data:=.seq vs.toArray },toks:=t }:=by
 have k:∀ b o,s.heap.get? b=some o→(s.heap.push { cls:=.type "list", data:=.seq vs.toArray }).get? b=some o:=fun b o e=>Heap.get?_push_of_some _ e
 refine new_obj (s':={ s with heap:=s.heap.push { cls:=.type "list", data:=.seq vs.toArray },toks:=t }) (l:=[]) R K k (fun b hb=>?_) (fun x=>nomatch x) rfl rfl (.list ⟨_,Heap.get?_push_size _ rfl⟩ (r.newO R k fun b hb=>?_))
 ·simp only [List.mem_singleton] at hb; subst hb; exact ⟨lv_new _,⟨_,Heap.get?_push_size _ rfl⟩⟩
 ·simp only [List.mem_singleton] at hb; subst hb; exact lv_new _
end
section
variable {g:Glb} {A:Around} {s:Shared} {Z:Addr→Prop} {bs:List Nat} {ρ:Rho} {σ:St} {E:Value→Shared→Prop} {F:Addr→Prop} {h:Heap} {prog:Program} {w:World}
theorem intBits_le {a:Int} (h:a.natAbs<10 ^ 1001):Builtin.Int.intBits a≤3400:=by
 unfold Builtin.Int.intBits
 by_cases h0:(a == 0)=true
 ·rw [if_pos h0]; exact Nat.zero_le _
 ·rw [if_neg h0]
  exact Nat.succ_le_of_lt (Nat.lt_succ_of_lt ((Nat.log2_lt fun e=>h0 (beq_iff_eq.mpr (Int.natAbs_eq_zero.mp e))).mpr (Nat.lt_trans h (by decide))))
set_option exponentiation.threshold 2000
theorem mul_ok {a b:Int} (h1:Builtin.Int.intBits a≤3400) (h2:Builtin.Int.intBits b≤3400):IntMulOk a b:=by
 have:Builtin.Int.intTooBig (Builtin.Int.intBits a+Builtin.Int.intBits b)=false :=
  decide_eq_false_iff_not.mpr (Int.not_lt.mpr (Int.ofNat_le.mpr (Nat.le_trans (Nat.add_le_add h1 h2) (by decide:3400+3400≤2 ^ 27))))
 unfold IntMulOk
 rw [this,Bool.and_false]; decide
theorem op_bin_int {o:Op} {a b c:Int} {t u:Tok} {Q:Value→Shared→Prop} (e:binI o a b=some c) (h:∀ t',Q (.int c t') { s with toks:=s.toks+1 }) :
  wpAny (model prog w) A (binaryOp (opK o) (.int a t) (.int b u)) Q E s:=by
 cases o with
 | add=>obtain rfl:=Option.some.inj e; exact PySem.P.add_int (h _)
 | sub=>obtain rfl:=Option.some.inj e; exact PySem.P.sub_int (h _)
 | mul =>
  obtain ⟨hs,e⟩:=ite_some (show (if (smallInt a&&smallInt b)=true then some (a * b) else none)=some c from e)
  obtain rfl:=Option.some.inj e
  exact PySem.P.mul_int (h _) (mul_ok (intBits_le (of_decide_eq_true (and_true2 hs).1)) (intBits_le (of_decide_eq_true (and_true2 hs).2)))
 | fdiv =>
  cases ite_split (show (if b=0 then none else if b.natAbs<1073741824 then some (a.fdiv b) else none)=some c from e) with
  | inl _ e=>cases e
  | inr h0 e =>
   obtain ⟨h1,e⟩:=ite_some e
   obtain rfl:=Option.some.inj e
   exact PyProof.Rows.floordiv_int h0 (h _) (.inl (PyProof.noPylong_small (by simpa using h1)))
 | mod =>
  cases ite_split (show (if b=0 then none else some (a.fmod b))=some c from e) with
  | inl _ e=>cases e
  | inr h0 e=>obtain rfl:=Option.some.inj e; exact PyProof.Rows.mod_int' h0 (h _)
 | pow =>
  obtain ⟨hs,e⟩:=ite_some (show (if (decide (0≤b)&&decide (b≤1000)&&decide (a=10))=true then some (a ^ b.toNat) else none)=some c from e)
  obtain rfl:=Option.some.inj e
  have hs:=and_true2 hs
  have h1:=and_true2 hs.1
  have h2:b≤1000:=of_decide_eq_true h1.2
  have hb:Builtin.Int.intBits a * b≤2 ^ 27:=by
   rw [show a=10 from of_decide_eq_true hs.2,show Builtin.Int.intBits 10=4 by decide +kernel]; exact Int.le_trans (Int.mul_le_mul_of_nonneg_left h2 (by decide)) (by decide)
  exact PyProof.Rows.pow_int (of_decide_eq_true h1.1) hb (h _)
theorem str_empty_left {x y:Str} (h:(x.length == 0)=true):x++y=y:=by
 have:x.cps.size=0:=by simpa [Str.length] using h
 obtain ⟨c⟩:=x
 have:c=#[]:=Array.eq_empty_of_size_eq_zero this
 subst this
 exact Str.ext' (by simp [Str.cps_append])
theorem str_empty_right {x y:Str} (h:(y.length == 0)=true):x++y=x:=by
 have:y.cps.size=0:=by simpa [Str.length] using h
 obtain ⟨c⟩:=y
 have:c=#[]:=Array.eq_empty_of_size_eq_zero this
 subst this
 exact Str.ext' (by simp [Str.cps_append])
theorem op_add_str {x y:Str} {t u:Tok} {Q:Value→Shared→Prop} (hl:x.length+y.length≤big) (h:∀ t' tk,Q (.str (x++y) t') { s with toks:=tk }) :
  wpAny (model prog w) A (binaryOp .Add (.str x t) (.str y u)) Q E s:=by
 refine PySem.P.add_str ?_
 split
 ·rename_i hx; rw [str_empty_left hx] at h; exact h u s.toks
 ·split
  ·rename_i hy; rw [str_empty_right hy] at h; exact h t s.toks
  ·refine ⟨?_,h _ _⟩
   rw [Str.length_append]
   exact Nat.le_trans hl big_line
theorem op_add_tup {t b:Addr} {vs ws:List Value} {Q:Value→Shared→Prop} (ht:s.heap.IsTuple t vs.toArray) (hb:s.heap.IsTuple b ws.toArray)
  (h0:vs=[]→Q (.ref b) s) (h1:vs ≠ []→ws=[]→Q (.ref t) s)
  (h2:Q (.ref s.heap.objs.size) { s with heap:=s.heap.push { cls:=.type "tuple", data:=.seq (vs++ws).toArray } })
  (hsz:vs.length+ws.length≤sizeLine) :
  wpAny (model prog w) A (binaryOp .Add (.ref t) (.ref b)) Q E s:=by
 obtain ⟨⟨cls,dd,data,sl⟩,ho,hc,n,hd⟩:=id ht
 obtain ⟨⟨cls2,dd2,data2,sl2⟩,ho2,hc2,n2,hd2⟩:=id hb
 simp only at hc hd hc2 hd2
 subst hc hd hc2 hd2
 have e:vs.toArray++ws.toArray=(vs++ws).toArray:=by simp
 by_cases hv:vs=[]
 ·exact concat_meets ⟨_,ho,rfl⟩ ⟨_,ho2,rfl⟩ noFill_tuple_add seq_tuple_add PySem.F.slot_tuple_add PySem.F.entry_tuple_add (PySem.F.args_tuple_add_2 _ _)
   (tuple_addW0 t b vs.toArray ws.toArray n n2 dd dd2 sl sl2 (by simp [hv])) ⟨ho,ho2,h0 hv⟩
 ·by_cases hw:ws=[]
  ·exact concat_meets ⟨_,ho,rfl⟩ ⟨_,ho2,rfl⟩ noFill_tuple_add seq_tuple_add PySem.F.slot_tuple_add PySem.F.entry_tuple_add (PySem.F.args_tuple_add_2 _ _)
    (tuple_addW1 t b vs.toArray ws.toArray n n2 dd dd2 sl sl2 (by simpa using hv) (by simp [hw])) ⟨ho,ho2,h1 hv hw⟩
  ·refine concat_meets ⟨_,ho,rfl⟩ ⟨_,ho2,rfl⟩ noFill_tuple_add seq_tuple_add PySem.F.slot_tuple_add PySem.F.entry_tuple_add (PySem.F.args_tuple_add_2 _ _)
    (tuple_addW2 t b vs.toArray ws.toArray n n2 dd dd2 sl sl2 (by simpa using hv) (by simpa using hw) (by rw [List.size_toArray,List.size_toArray]; exact hsz)) ⟨ho,ho2,?_⟩
   rw [e]
   exact h2
theorem op_add_lst {l b:Addr} {vs ws:List Value} {Q:Value→Shared→Prop} (hl:s.heap.IsList l vs.toArray) (hb:s.heap.IsList b ws.toArray)
  (h:Q (.ref s.heap.objs.size) { s with heap:=s.heap.push { cls:=.type "list", data:=.seq (vs++ws).toArray } }) (hsz:vs.length+ws.length≤sizeLine) :
  wpAny (model prog w) A (binaryOp .Add (.ref l) (.ref b)) Q E s:=by
 refine hideP fun Go hGo=>?_
 obtain ⟨⟨cls,dd,data,sl⟩,ho,hc,n,hd⟩:=id hl
 obtain ⟨⟨cls2,dd2,data2,sl2⟩,ho2,hc2,n2,hd2⟩:=id hb
 refine hGo ?_
 simp only at hc hd hc2 hd2
 subst hc hd hc2 hd2
 have e:vs.toArray++ws.toArray=(vs++ws).toArray:=by simp
 refine concat_meets ⟨_,ho,rfl⟩ ⟨_,ho2,rfl⟩ noFill_list_add seq_list_add PySem.F.slot_list_add PySem.F.entry_list_add (PySem.F.args_list_add_2 _ _) (list_addW l b vs.toArray ws.toArray n n2 dd dd2 sl sl2 (by simpa using hsz)) ⟨ho,ho2,?_⟩
 rw [e]
 exact h
theorem mkTup_items {x:AV} {l:List AV} (e:itemsOf σ x=some l) (ht:isTupV x=true) {v:Value} (r:RA ρ F h v x):RA ρ F h v (mkTup l):=by
 cases x with
 | pv p =>
  cases p with
  | tup l0 =>
   obtain rfl:l0.map .pv=l:=Option.some.inj e
   obtain ⟨a,vs,rfl,f,t,q⟩:=r.pv_.tup_
   exact .mkTup f t q.toA
  | _=>cases ht
 | tupR l0 =>
  obtain rfl:l0=l:=Option.some.inj e
  obtain ⟨a,vs,rfl,f,t,q⟩:=r.tupR_
  exact .mkTup f t q
 | _=>cases ht
theorem notBoth {v:AV} (h1:isLstV v=true) (h2:isTupV v=true):False:=by
 cases v with
 | pv p=>cases p <;> first | (cases h1; done) | (cases h2; done)
 | _=>first | (cases h1; done) | (cases h2; done)
theorem op_add {m:Bool} {va vb:Value} {v w r:AV} {σ':St} {Q:Value→Shared→Prop} (R:Rel g Z bs ρ σ s.heap) (ra:RA ρ (Fz Z ρ σ) s.heap va v) (rb:RA ρ (Fz Z ρ σ) s.heap vb w)
  (e:evAdd m v w σ=some (r,σ')) (K:Done g Z bs ρ σ s r σ' Q):wpAny (model g.prog g.w) A (binaryOp .Add va vb) Q E s:=by
 obtain ⟨l,hl,e0⟩:=opt_some e
 obtain ⟨r',hr,e⟩:=opt_some e0
 obtain ⟨a,vs,rfl,r1,k1⟩:=items_of R ra hl
 obtain ⟨b,ws,rfl,r2,k2⟩:=items_of R rb hr
 have hlen:∀ (q:l.length+r'.length≤big),vs.length+ws.length≤sizeLine:=fun q=>by rw [r1.length,r2.length]; exact Nat.le_trans q big_line
 rcases ite_split e with ⟨ht,e⟩ | ⟨_,e⟩
 ·have ht:=and_true2 ht
  obtain ⟨hb,e⟩:=ite_some e
  obtain ⟨rfl,rfl⟩:=ret_same e
  have k1:=(k1.resolve_right fun z=>by rw [ht.1] at z; cases z.2.1).2
  have k2:=(k2.resolve_right fun z=>by rw [ht.2] at z; cases z.2.1).2
  refine op_add_tup k1 k2 (fun hv=>K.same R ?_) (fun _ hw=>K.same R ?_) (new_tup R (r1.append r2) K s.toks) (hlen hb)
  ·rw [hv] at r1; rw [List.eq_nil_of_length_eq_zero r1.length.symm]; exact mkTup_items hr ht.2 rb
  ·rw [hw] at r2; rw [List.eq_nil_of_length_eq_zero r2.length.symm,List.append_nil]; exact mkTup_items hl ht.1 ra
 ·obtain ⟨ht,e⟩:=ite_some e
  have ht:=and_true2 ht
  obtain ⟨hb,e⟩:=ite_some e
  have k1:=(k1.resolve_left fun z=>notBoth ht.1 z.1).2.2
  have k2:=(k2.resolve_left fun z=>notBoth ht.2 z.1).2.2
  refine op_add_lst k1 k2 ?_ (hlen hb)
  rcases ite_split e with ⟨_,e⟩ | ⟨_,e⟩
  ·obtain ⟨rfl,rfl⟩:=ret_same e; exact new_list R (r1.append r2) K s.toks
  ·obtain ⟨rfl,rfl⟩:=ret_same e; exact new_lst R (r1.append r2) K s.toks
theorem op_bin {o:Op} {m:Bool} {va vb:Value} {v w r:AV} {σ':St} {Q:Value→Shared→Prop} (R:Rel g Z bs ρ σ s.heap) (ra:RA ρ (Fz Z ρ σ) s.heap va v) (rb:RA ρ (Fz Z ρ σ) s.heap vb w)
  (e:evBin o m v w σ=some (r,σ')) (K:Done g Z bs ρ σ s r σ' Q):wpAny (model g.prog g.w) A (binaryOp (opK o) va vb) Q E s:=by
 rcases cond_split e with ⟨_,e⟩ | ⟨_,e⟩
 ·obtain ⟨a,t,rfl,_,e1⟩:=ra.onInt e
  refine hideP fun Go hGo=>?_
  obtain ⟨b,u,rfl,_,e2⟩:=rb.onInt e1
  obtain ⟨c,hc,e3⟩:=opt_some e2
  obtain ⟨rfl,rfl⟩:=ret_same e3
  refine hGo ?_
  exact op_bin_int hc fun t'=>K.toks R _ (.pv (.int _ _))
 ·obtain ⟨ho,e⟩:=cond_some e
  have ho:o = .add:=by cases o <;> first | rfl | cases ho
  rw [ho]
  rcases cond_split e with ⟨_,e⟩ | ⟨_,e⟩
  ·obtain ⟨a,t,rfl,e1⟩:=ra.onStr e
   obtain ⟨b,u,rfl,e2⟩:=rb.onStr e1
   obtain ⟨hl,e3⟩:=ite_some e2
   obtain ⟨rfl,rfl⟩:=ret_same e3
   exact op_add_str hl fun t' tk=>K.toks R _ (.pv (.str _ _))
  ·exact op_add R ra rb e K
open SeqAt
theorem anyP_of {F F':Addr→Prop} {A:Around} {s:Shared} {va:Value} {p:PV} {vs:List Value} {ps:List PV} (ra:RP F s.heap va p) (hd:depthP p<20) (hu:A.units+60<cLine) (rs:RPs F' s.heap vs ps) :
  ∃ f:Value→Bool,(∀ y ∈ vs.toArray,EqAt A.in1 s y va (f y))∧vs.toArray.any f=anyP p ps:=by
 classical
 refine ⟨fun y=>decide (∃ q,RP F' s.heap y q∧pyEq q p=true),fun y hy=>?_,?_⟩
 ·have:∃ q,RP F' s.heap y q:=by
   have hy:y ∈ vs:=by simpa using hy
   clear ra hd
   induction vs generalizing ps with
   | nil=>cases hy
   | cons v vs ih=>cases rs with
    | cons a b =>
     rcases List.mem_cons.mp hy with rfl | hy
     ·exact ⟨_,a⟩
     ·exact ih b (by simpa using hy) hy
  obtain ⟨q,hq⟩:=this
  have e:decide (∃ q,RP F' s.heap y q∧pyEq q p=true)=pyEq q p:=by
   rw [Bool.eq_iff_iff,decide_eq_true_iff]
   exact ⟨fun ⟨q',h1,h2⟩=>by rw [RP.inj hq h1]; exact h2,fun h=>⟨q,hq,h⟩⟩
  show EqAt _ _ _ _ (decide _)
  rw [e]
  exact eqAt_RP 20 (.inr (Nat.le_of_lt hd)) (by simp only [Around.in1_units]; exact Nat.lt_of_le_of_lt (Nat.add_le_add_left (show 24≤60 by decide) A.units) hu) hq ra
 ·rw [← Array.any_toList]
  show vs.any _=_
  clear ra hd
  induction vs generalizing ps with
  | nil=>cases rs; rfl
  | cons v vs ih=>cases rs with
   | @cons _ q _ qs a b =>
    simp only [List.any_cons,anyP]
    rw [ih b]
    congr 1
    rw [Bool.eq_iff_iff,decide_eq_true_iff]
    exact ⟨fun ⟨q',h1,h2⟩=>by rw [RP.inj a h1]; exact h2,fun h=>⟨q,a,h⟩⟩
theorem as_pvs {vs:List Value} {xs:List AV} {ps:List PV} (R:Rel g Z bs ρ σ h) (r:RAs ρ (Fz Z ρ σ) h vs xs) (e:asPVs σ xs=some ps):RPs (fun _=>True) h vs ps:=by
 revert xs ps
 induction vs with
 | nil=>intro xs ps r e; cases r; simp [asPVs] at e; subst e; exact .nil
 | cons v vs ih =>
  intro xs ps r e
  cases r with
  | cons a b =>
   simp only [asPVs] at e
   split at e
   ·rename_i p qs h1 h2
    cases e
    exact .cons (as_pv R a h1) (ih b h2)
   ·cases e
theorem notIn_of_in {M:Model} {a b:Value} {Q:Value→Shared→Prop} (h:wpAny M A (compareOp .In a b) (fun v s'=>∀ b,v = .bool b→Q (.bool (!b)) s') E s):wpAny M A (compareOp .NotIn a b) Q E s:=by
 have h':wpAny M A (contains b a >>= fun x=>pure (Value.bool x)) (fun v s'=>∀ b,v = .bool b→Q (.bool (!b)) s') E s:=h
 show wpAny M A (contains b a >>= fun x=>pure (Value.bool (!x))) Q E s
 intro Γ p hΓ
 have q:=h' Γ p hΓ
 rw [Sem.wp_bind'] at q ⊢
 exact Sem.wp_mono M Γ _ (fun x p' s' z=>z x rfl) (fun _ _ _ z=>z) p s q
section dict
variable {κ:Type} [DecidableEq κ]
theorem RKV.look {kv:List (κ × Value)} {kvs:List (κ × AV)} (r:RKV ρ F h kv kvs) (k:κ):(∀ x,lookK k kvs=some x→∃ v,valueAt kv k=some v∧RA ρ F h v x)∧(lookK k kvs=none→valueAt kv k=none):=by
 induction r with
 | nil=>exact ⟨fun x e=>by simp [lookK] at e,fun _=>rfl⟩
 | @cons j v x vs xs a b ih =>
  by_cases hj:j=k
  ·subst hj
   exact ⟨fun y e=>by simp [lookK] at e; subst e; exact ⟨v,by simp [valueAt],a⟩,fun e=>by simp [lookK] at e⟩
  ·have e1:lookK k ((j,x)::xs)=lookK k xs:=by simp [lookK,hj]
   have e2:valueAt ((j,v)::vs) k=valueAt vs k:=by simp [valueAt,hj]
   rw [e1,e2]; exact ih
theorem RKV.some {kv:List (κ × Value)} {kvs:List (κ × AV)} (r:RKV ρ F h kv kvs) (k:κ):(valueAt kv k).isSome=(lookK k kvs).isSome:=by
 have q:=r.look k
 cases e:lookK k kvs with
 | none=>rw [q.2 e]; rfl
 | some x=>obtain ⟨v,h1,_⟩:=q.1 x e; rw [h1]; rfl
theorem RKV.keys {kv:List (κ × Value)} {kvs:List (κ × AV)} (r:RKV ρ F h kv kvs):kv.map (·.1)=kvs.map (·.1):=by
 induction r with
 | nil=>rfl
 | cons _ _ ih=>simp [ih]
theorem RKV.length {kv:List (κ × Value)} {kvs:List (κ × AV)} (r:RKV ρ F h kv kvs):kv.length=kvs.length:=by have:=congrArg List.length r.keys; simpa using this
theorem map_off {k:κ} {v:Value}:∀ (kv:List (κ × Value)),k ∉ kv.map (·.1)→(kv.map fun p=>if p.1=k then (p.1,v) else p)=kv
 | [],_=>rfl
 | (j,x)::r,hn=>by
  simp only [List.map_cons,List.mem_cons,not_or] at hn
  rw [List.map_cons,map_off r hn.2,if_neg (fun e=>hn.1 e.symm)]
theorem RKV.put {kv:List (κ × Value)} {kvs:List (κ × AV)} (r:RKV ρ F h kv kvs) (hn:(kv.map (·.1)).Nodup) (k:κ) {v:Value} {x:AV} (q:RA ρ F h v x):RKV ρ F h (stored kv k v) (putK k x kvs):=by
 induction r with
 | nil=>exact .cons q .nil
 | @cons j w y vs xs a b ih =>
  simp only [List.map_cons,List.nodup_cons] at hn
  by_cases hj:j=k
  ·subst hj
   have e1:putK j x ((j,y)::xs)=(j,x)::xs:=by simp [putK]
   have e2:stored ((j,w)::vs) j v=(j,v)::vs:=by
    unfold stored
    rw [if_pos (by simp),List.map_cons,if_pos rfl,map_off vs hn.1]
   rw [e1,e2]; exact .cons q b
  ·have e1:putK k x ((j,y)::xs)=(j,y)::putK k x xs:=by simp [putK,hj]
   have e2:stored ((j,w)::vs) k v=(j,w)::stored vs k v:=by
    unfold stored
    by_cases hany:(vs.any fun p=>decide (p.1=k))=true
    ·rw [if_pos (by simp [hj]; simpa using hany),if_pos hany,List.map_cons,if_neg hj]
    ·rw [if_neg (by simp [hj]; simpa using hany),if_neg hany]; rfl
   rw [e1,e2]; exact .cons a (ih hn.2)
end dict
theorem nrm_tup (l m:List PV):pyEq (.tup l) (.tup m)=true ↔ PV.tup (nrms l)=PV.tup (nrms m):=by rw [pyEq_iff]; simp [nrm]
open Classical in
theorem RKT.look {kv:List (PV × Addr × Value)} {kvs:List (PV × AV)} (r:RKT ρ F h kv kvs) (l:List PV) :
  (∀ x,lookT (.tup l) kvs=some x→∃ b v,atKey kv (.tup (nrms l))=some (b,v)∧RA ρ F h v x)∧(lookT (.tup l) kvs=none→atKey kv (.tup (nrms l))=none):=by
 induction r with
 | nil=>exact ⟨fun x e=>by simp [lookT] at e,fun _=>rfl⟩
 | @cons m b v x vs xs p _ _ a _ ih =>
  by_cases hj:pyEq (.tup m) (.tup l)=true
  ·have e:=(nrm_tup m l).mp hj
   refine ⟨fun y q=>?_,fun q=>?_⟩
   ·simp only [lookT,hj,cond_true,Option.some.injEq] at q; subst q
    exact ⟨b,v,by simp [atKey,e],a⟩
   ·simp [lookT,hj] at q
  ·have e1:lookT (.tup l) ((.tup m,x)::xs)=lookT (.tup l) xs:=by simp [lookT,hj]
   have e2:atKey ((.tup (nrms m),b,v)::vs) (.tup (nrms l))=atKey vs (.tup (nrms l)):=by
    have:¬ PV.tup (nrms m)=PV.tup (nrms l):=fun e=>hj ((nrm_tup m l).mpr e)
    simp only [atKey,List.find?_cons,decide_eq_false this]
   rw [e1,e2]; exact ih
open Classical in
theorem RKT.some {kv:List (PV × Addr × Value)} {kvs:List (PV × AV)} (r:RKT ρ F h kv kvs) (l:List PV):(atKey kv (.tup (nrms l))).isSome=(lookT (.tup l) kvs).isSome:=by
 have q:=r.look l
 cases e:lookT (.tup l) kvs with
 | none=>rw [q.2 e]; rfl
 | some x=>obtain ⟨b,v,h1,_⟩:=q.1 x e; rw [h1]; rfl
theorem RKT.length {kv:List (PV × Addr × Value)} {kvs:List (PV × AV)} (r:RKT ρ F h kv kvs):kv.length=kvs.length:=by
 induction r with
 | nil=>rfl
 | cons _ _ _ _ _ ih=>simp [ih]
open Classical in
theorem RKT.put {kv:List (PV × Addr × Value)} {kvs:List (PV × AV)} (r:RKT ρ F h kv kvs) (hn:(kv.map (·.1)).Nodup) {l:List PV} {b:Addr} {v:Value} {x:AV} (q0:RP F h (.ref b) (.tup l)) (q1:keysOk l=true) (q2:depthPs l<6) (q:RA ρ F h v x) :
  RKT ρ F h (storedH kv (.tup (nrms l)) b v) (putT (.tup l) x kvs):=by
 induction r with
 | nil=>exact .cons q0 q1 q2 q .nil
 | @cons m c w y vs xs p d1 d2 a bb ih =>
  simp only [List.map_cons,List.nodup_cons] at hn
  by_cases hj:pyEq (.tup m) (.tup l)=true
  ·have e:=(nrm_tup m l).mp hj
   have e1:putT (.tup l) x ((.tup m,y)::xs)=(.tup m,x)::xs:=by simp [putT,hj]
   have e2:storedH ((.tup (nrms m),c,w)::vs) (.tup (nrms l)) b v=(.tup (nrms m),c,v)::vs:=by
    unfold storedH
    rw [if_pos (by simp [atKey,e]),List.map_cons]
    rw [map_putAt_of_not_mem vs _ v (by rw [← e]; exact hn.1)]
    simp [putAt,e]
   rw [e1,e2]; exact .cons p d1 d2 q bb
  ·have ne:¬ PV.tup (nrms m)=PV.tup (nrms l):=fun e=>hj ((nrm_tup m l).mpr e)
   have e1:putT (.tup l) x ((.tup m,y)::xs)=(.tup m,y)::putT (.tup l) x xs:=by simp [putT,hj]
   have e0:atKey ((.tup (nrms m),c,w)::vs) (.tup (nrms l))=atKey vs (.tup (nrms l)):=by simp only [atKey,List.find?_cons,decide_eq_false ne]
   have e2:storedH ((.tup (nrms m),c,w)::vs) (.tup (nrms l)) b v=(.tup (nrms m),c,w)::storedH vs (.tup (nrms l)) b v:=by
    unfold storedH
    rw [e0]
    split
    ·rw [List.map_cons]; simp [putAt,ne]
    ·rfl
   rw [e1,e2]; exact .cons p d1 d2 a (ih hn.2)
theorem isInt_of (i:Int) (t:Tok):(intKind prog w).is i (.int i t)=true:=by simp [intKind,Value.isInt]
theorem isStrK_of (x:Str) (t:Tok):(strKind prog w).is x (.str x t)=true:=strKind_is prog w x t
open Classical in
theorem key_of {l:List PV} {va:Value} (ra:RP F h va (.tup l)) (h1:keysOk l=true) (h2:depthPs l<6):∃ b,va = .ref b∧(pvKind prog w).is h (.tup (nrms l)) b:=by
 cases ra with
 | tup f x r=>exact ⟨_,rfl,l,rfl,h1,h2,(RP.tup f x r).mono fun b o e _ _=>⟨e,trivial⟩⟩
open Classical in
inductive DictCase (g:Glb) (ρ:Rho) (F:Addr→Prop) (s:Shared) (a:Addr) (va:Value) (b:Option AV):Prop
 | m {κ:Type} (inst:DecidableEq κ) (K:KeyKind g.prog g.w κ) (k:κ) (f:κ→Option Value) (hk:K.is k va=true) (x:s.heap.MapOf K a f) (h1:∀ x,b=some x→∃ v,f k=some v∧RA ρ F s.heap v x) (h2:b=none→f k=none)
 | t (l:List PV) (c:Addr) (kv:List (PV × Addr × Value)) (hv:va = .ref c) (hk:(pvKind g.prog g.w).is s.heap (.tup (nrms l)) c) (x:s.heap.DictOfH (pvKind g.prog g.w) a kv) (h1:∀ x,b=some x→∃ c v,atKey kv (.tup (nrms l))=some (c,v)∧RA ρ F s.heap v x) (h2:b=none→atKey kv (.tup (nrms l))=none)
open Classical in
theorem dict_case {a:Addr} {o:AObj} {k:AV} {va:Value} {l:List Addr} {b:Option AV} (ro:RO g ρ F s.heap (a::l) o) (rk:RA ρ F s.heap va k) (e:dictGet o k=some b):DictCase g ρ F s a va b:=by
 cases o with
 | dictI kvs =>
  obtain ⟨i,t,hv,_,e1⟩:=rk.onInt e
  obtain ⟨kv,_,x,y⟩:=ro.dictI_
  exact .m _ (intKind _ _) i _ (hv▸isInt_of i t) x.mapOf (Option.some.inj e1▸(y.look i).1) (Option.some.inj e1▸(y.look i).2)
 | dictS kvs =>
  obtain ⟨i,t,hv,e1⟩:=rk.onStr e
  obtain ⟨kv,_,x,y⟩:=ro.dictS_
  exact .m _ (strKind _ _) i _ (hv▸isStrK_of i t) x.mapOf (Option.some.inj e1▸(y.look i).1) (Option.some.inj e1▸(y.look i).2)
 | dictT kvs =>
  obtain ⟨i,hv,e1⟩:=onTup_some e
  obtain ⟨h,e2⟩:=ite_some e1
  have h:=and_true2 h
  obtain ⟨c,hc,hb⟩:=key_of (prog:=g.prog) (w:=g.w) (hv▸rk:RA ρ F s.heap va (.pv (.tup i))).pv_ h.1 (of_decide_eq_true h.2)
  obtain ⟨kv,_,x,y⟩:=ro.dictT_
  exact .t i c kv hc hb x (Option.some.inj e2▸(y.look i).1) (Option.some.inj e2▸(y.look i).2)
 | _=>cases e
theorem some_of {α:Type} {f:Option α} {b:Option AV} {P:α→AV→Prop} (h1:∀ x,b=some x→∃ v,f=some v∧P v x) (h2:b=none→f=none):f.isSome=b.isSome:=by
 cases b with
 | none=>rw [h2 rfl]; rfl
 | some x=>obtain ⟨v,h,_⟩:=h1 x rfl; rw [h]; rfl
open Classical in
theorem dict_in {a:Addr} {o:AObj} {k:AV} {va:Value} {l:List Addr} {b:Option AV} {Q:Value→Shared→Prop} (ro:RO g ρ F s.heap (a::l) o) (rk:RA ρ F s.heap va k) (hu:A.units+60<cLine)
  (e:dictGet o k=some b) (hm:(a == sysModules)=false) (h:∀ tk,Q (.bool b.isSome) { s with toks:=tk }):wpAny (model g.prog g.w) A (compareOp .In va (.ref a)) Q E s:=by
 cases dict_case ro rk e with
 | m inst K k f hk x h1 h2=>exact wpAny_in_of hk hm x (some_of h1 h2▸h _)
 | t l c kv hv hk x h1 h2 =>
  rw [hv]
  refine wpAny_in_heap (show A.in1.units+20<cLine by rw [Around.in1_units]; exact Nat.lt_of_le_of_lt (Nat.add_le_add_left (show 21≤60 by decide) A.units) hu) hk hm x ?_
  rw [some_of (P:=fun c x=>RA ρ F s.heap c.2 x) (fun x e=>let ⟨c,v,q⟩:=h1 x e; ⟨(c,v),q⟩) h2]
  exact h _
open Classical in
theorem dict_item {a:Addr} {o:AObj} {k:AV} {va:Value} {l:List Addr} {b:AV} {Q:Value→Shared→Prop} (ro:RO g ρ F s.heap (a::l) o) (rk:RA ρ F s.heap va k) (hu:A.units+60<cLine)
  (e:dictGet o k=some (some b)) (h:∀ val tk,RA ρ F s.heap val b→Q val { s with toks:=tk }):wpAny (model g.prog g.w) A (getItem (.ref a) va) Q E s:=by
 cases dict_case ro rk e with
 | m inst K k f hk x h1 h2=>obtain ⟨v,q1,q2⟩:=h1 b rfl; exact wpAny_getItem_of hk x q1 (h _ _ q2)
 | t l c kv hv hk x h1 h2 =>
  obtain ⟨c',v,q1,q2⟩:=h1 b rfl
  rw [hv]
  exact wpAny_getItem_heap (show A.in1.units+20<cLine by rw [Around.in1_units]; exact Nat.lt_of_le_of_lt (Nat.add_le_add_left (show 21≤60 by decide) A.units) hu) hk x q1 (h _ _ q2)
open Classical in
theorem dict_isDict {a:Addr} {o:AObj} {k:AV} {va:Value} {l:List Addr} {b:Option AV} (ro:RO g ρ F s.heap (a::l) o) (rk:RA ρ F s.heap va k) (e:dictGet o k=some b):s.TypeIs (.ref a) "dict" := by
 cases dict_case ro rk e with
 | m inst K k f hk x h1 h2=>exact x.typeIs
 | t l c kv hv hk x h1 h2=>exact x.typeIs
open Classical in
theorem dict_get2 {a:Addr} {o:AObj} {k:AV} {va vd:Value} {l:List Addr} {b:Option AV} {d:AV} {Q:Value→Shared→Prop} (ro:RO g ρ F s.heap (a::l) o) (rk:RA ρ F s.heap va k) (rd:RA ρ F s.heap vd d) (hu:A.units+60<cLine)
  (e:dictGet o k=some b) (hm:(a == sysModules)=false) (h:∀ val tk,RA ρ F s.heap val (b.getD d)→Q val { s with toks:=tk }):wpAny (model g.prog g.w) A (call (.builtin "dict.get") [.ref a,va,vd]) Q E s:=by
 have ty:=dict_isDict ro rk e
 cases dict_case ro rk e with
 | m inst K k f hk x h1 h2 =>
  refine call_meetsIn PySem.F.slot_dict_get ty PySem.F.entry_dict_get (PySem.F.args_dict_get_3 _ _ _) (meets_dict_get_default K a hk hm vd) ⟨_,x,h _ _ ?_⟩
  cases b with
  | none=>rw [h2 rfl]; exact rd
  | some z=>obtain ⟨v,q1,q2⟩:=h1 z rfl; rw [q1]; exact q2
 | t l c kv hv hk x h1 h2 =>
  rw [hv]
  refine call_meetsIn PySem.F.slot_dict_get ty PySem.F.entry_dict_get (PySem.F.args_dict_get_3 _ _ _) (meetsH_dict_get_default (pvKind g.prog g.w) a c hm vd) ⟨show A.in1.units+20<cLine by rw [Around.in1_units]; exact Nat.lt_of_le_of_lt (Nat.add_le_add_left (show 21≤60 by decide) A.units) hu,_,_,hk,x,h _ _ ?_⟩
  cases b with
  | none=>rw [h2 rfl]; exact rd
  | some z=>obtain ⟨c',v,q1,q2⟩:=h1 z rfl; rw [q1]; exact q2
end
section
variable {g:Glb} {A:Around} {s:Shared} {Z:Addr→Prop} {bs:List Nat} {ρ:Rho} {σ:St} {E:Value→Shared→Prop} {F:Addr→Prop} {h:Heap} {prog:Program} {w:World}
theorem str_isStr {x y:Str} {t:Tok}:(Value.str x t).isStr y=(x == y):=rfl
theorem RE.get {nm:List Str} {es:List DictEntry} {as:List (Nat × AV)} (nd:nm.Nodup) (r:RE nm ρ F h es as) {m:Nat} {x:Str} (hx:nm[m]? = some x) :
  (∀ y,getA m as=some y→∃ v,getL x es=some (some v)∧RA ρ F h v y)∧(getA m as=none→getL x es=some none):=by
 induction r with
 | nil=>exact ⟨fun y e=>by simp [getA] at e,fun _=>rfl⟩
 | @cons j z hs t v y es as hz a b ih =>
  by_cases hj:j=m
  ·subst hj
   rw [hz] at hx; cases hx
   refine ⟨fun y' e=>?_,fun e=>by simp [getA] at e⟩
   simp only [getA,beq_self_eq_true,cond_true,Option.some.injEq] at e
   subst e
   exact ⟨v,by simp [getL,str_isStr],a⟩
  ·have e1:getA m ((j,y)::as)=getA m as:=by
    have:(j == m)=false:=by simpa using hj
    simp [getA,this]
   have hne:(z == x)=false:=by
    have:z ≠ x:=fun e=>hj (nd_of nd hz (e▸hx))
    simpa using this
   have e2:getL x (⟨hs,.str z t,v⟩::es)=getL x es:=by
    simp [getL,str_isStr,hne,DictEntry.refKey]
   rw [e1,e2]; exact ih
theorem RE.put {nm:List Str} {es:List DictEntry} {as:List (Nat × AV)} (nd:nm.Nodup) (r:RE nm ρ F h es as) {m:Nat} {x:Str} (hx:nm[m]? = some x) {v:Value} {y:AV} (q:RA ρ F h v y) (hs:Int) (t:Tok) :
  RE nm ρ F h (putL x hs (.str x t) v es) (putA m y as):=by
 induction r with
 | nil=>exact .cons hx q .nil
 | @cons j z hs' t' v' y' es as hz a b ih =>
  by_cases hj:j=m
  ·subst hj
   rw [hz] at hx; cases hx
   have e1:putA j y ((j,y')::as)=(j,y)::as:=by simp [putA]
   have e2:putL x hs (.str x t) v (⟨hs',.str x t',v'⟩::es)=⟨hs',.str x t',v⟩::es:=by simp [putL,str_isStr]
   rw [e1,e2]; exact .cons hz q b
  ·have e1:putA m y ((j,y')::as)=(j,y')::putA m y as:=by
    have:(j == m)=false:=by simpa using hj
    simp [putA,this]
   have hne:(z == x)=false:=by
    have:z ≠ x:=fun e=>hj (nd_of nd hz (e▸hx))
    simpa using this
   have e2:putL x hs (.str x t) v (⟨hs',.str z t',v'⟩::es)=⟨hs',.str z t',v'⟩::putL x hs (.str x t) v es:=by simp [putL,str_isStr,hne]
   rw [e1,e2]; exact .cons hz a ih
theorem RE.length {nm:List Str} {es:List DictEntry} {as:List (Nat × AV)} (r:RE nm ρ F h es as):es.length=as.length:=by
 induction r with
 | nil=>rfl
 | cons _ _ _ ih=>simp [ih]
theorem putL_length (x:Str) (hs:Int) (k v:Value):∀ es:List DictEntry,(putL x hs k v es).length≤es.length+1
 | []=>by simp [putL]
 | e::r=>by
  simp only [putL]
  split
  ·simp
  ·simp only [List.length_cons]; have:=putL_length x hs k v r; exact Nat.succ_le_succ this
theorem inst_of {a dx:Addr} {C:Addr} {sl:Array (Option Value)} {es:List DictEntry} {n:Nat} (h1:s.heap.get? a=some ⟨.ref C,some dx,.plain,sl⟩) (h2:s.heap.get? dx=some (PySem.W.dictOf es n)) :
  PySem.W.InstAt s.heap a ⟨.ref C,some dx,.plain,sl⟩ C (some (PySem.W.dictOf es n)):=⟨h1,rfl,rfl,h2⟩
theorem RA.handed {v:Value} {x:AV} (r:RA ρ F h v x):handedIn v=true:=by
 cases r with
 | pv p=>cases p <;> rfl
 | _=>rfl
theorem op_attr {va:Value} {x:AV} {m:Nat} {n:Str} {y:AV} {Q:Value→Shared→Prop} (G:GOk g) (R:Rel g Z bs ρ σ s.heap) (ra:RA ρ (Fz Z ρ σ) s.heap va x) (hm:m ∈ g.dat) (hx:g.nm[m]? = some n)
  (e:evAttr x m σ=some y) (K:Done g Z bs ρ σ s y σ Q):wpAny (model g.prog g.w) A (getAttr va n true) Q E s:=by
 obtain ⟨i,hv,e1⟩:=onRef_some e
 rw [hv] at ra
 obtain ⟨a,l,rfl,q⟩:=ra.ref_
 obtain ⟨o,hi,e2⟩:=opt_some e1
 obtain ⟨c,as,rfl,e3⟩:=onInst_some e2
 obtain ⟨dx,sl,es,n',_,h1,h2,r,hlen,hc⟩:=(R.objs q hi).inst_
 have ck:=G.cls c hc
 obtain ⟨v,g1,g2⟩:=(r.get G.nd hx).1 _ e3
 exact get_value (G.kin.keeps R.keep) (inst_of h1 h2) (plainGet_of (ck.plain n)).1 (findObj_own ck.hasDict (ck.free m hm n hx) rfl (by rw [lookIn_dict]; exact g1)) (RA.handed g2) (K.toks R _ g2)
theorem osa_here {a dx C:Addr} {sl:Array (Option Value)} {es:List DictEntry} {n:Nat} {name:Str} {tk:Tok} {v:Value} {K:Frag} {Rr:Result→Shared→Prop} (X:K.In s.heap)
  (h1:s.heap.get? a=some ⟨.ref C,some dx,.plain,sl⟩) (h2:s.heap.get? dx=some (PySem.W.dictOf es n)) (hp:plainOver K C=true) (ht:takerIn K C name=some none) (hh:hasDictIn K C=true) (hl:(getL name es).isSome=true) (hz:es.length≤900)
  (h:∀ n' h',Heap.SameBut dx s.heap h'→h'.get? dx=some (PySem.W.dictOf (putL name (PyData.keyHash w.params name) (.str name s.toks) v es) n')→Rr (.ok (.ret .none)) { s with heap:=h',toks:=s.toks+1 }) :
  codeAny (model prog w) A (.call (.builtin "object.__setattr__") ⟨[.ref a,.str name tk,v],[]⟩) Rr s:=by
 refine osa_open X (inst_of h1 h2) hp ht fun b=>?_
 obtain ⟨cd,hc,hd'⟩:=any_some hh
 refine wpAny_bind (wpAny_pure (wpAny_bind (wpAny_bind (wpAny_loadPart h1 (wpAny_bind ((looks_clsIn X hc).here ?_))))))
 rw [hd']
 refine wpAny_pure (a:=some dx) (wpAny_bind (wpAny_pure (wpAny_bind ?_)))
 unfold nsSet
 refine wpAny_bind (wpAny_bind (wpAny_askSetting (wpAny_pure (wpAny_bind (wpAny_mkText (wpAny_bind (wpAny_loadPart h2 ?_)))))))
 dsimp only
 have c:(!es.toArray.any (·.key.isStr name)&&es.toArray.any (·.refKey))=false:=by
  rw [← Array.any_toList,← Array.any_toList]
  unfold getL at hl
  split at hl
  ·rename_i en he
   rw [List.any_eq_true.mpr ⟨en,List.mem_of_find?_eq_some he,List.find?_some he⟩]; rfl
  ·split at hl
   ·cases hl
   ·rename_i z; rw [Bool.not_eq_true] at z; rw [z,Bool.and_false]
 rw [aRefKeyMayBeTheName_at,c]
 have D':=Heap.get?_update_self (Obj.putName name (PyData.keyHash w.params name) (.str name s.toks) v) h2 (by rw [putName_dict]; rfl)
 refine wpAny_updatePart h2 ?_
 refine wpAny_bind (wpAny_lookBehind D' ?_ ?_)
 ·rw [putName_dict]
  exact pastItsLine_dict (by rw [List.size_toArray,sizeLine_eq]; have:=putL_length name (PyData.keyHash w.params name) (.str name s.toks) v es; omega)
 ·rw [putName_dict] at D'
  exact wpAny_pure (h _ _ (Heap.SameBut.update ..) D')
theorem putA_mem {m:Nat} {v:AV}:∀ {as:List (Nat × AV)} {y:Nat × AV},y ∈ putA m v as→y.2=v∨y ∈ as
 | [],y,h=>by simp [putA] at h; exact .inl (by rw [h])
 | (j,w)::r,y,h=>by
  simp only [putA] at h
  by_cases hj:j=m
  ·simp only [hj,beq_self_eq_true,cond_true] at h
   rcases List.mem_cons.mp h with rfl | h
   ·exact .inl rfl
   ·exact .inr (.tail _ h)
  ·have:(j == m)=false:=by simpa using hj
   simp only [this,cond_false] at h
   rcases List.mem_cons.mp h with rfl | h
   ·exact .inr (.head _)
   ·rcases putA_mem h with q | q
    ·exact .inl q
    ·exact .inr (.tail _ q)
theorem putA_length (m:Nat) (y:AV):∀ as:List (Nat × AV),(putA m y as).length≤as.length+1
 | []=>Nat.le_refl _
 | (j,w)::r=>by
  cases hj:(j == m) with
  | true=>rw [putA,hj]; exact Nat.le_succ _
  | false=>rw [putA,hj]; exact Nat.succ_le_succ (putA_length m y r)
theorem isPV_under {v:AV} (h:isPV v=true) (n:Nat):v.under n:=by cases v <;> simp_all [isPV,AV.under]
theorem op_setattr {va vv:Value} {i:Nat} {m c:Nat} {n:Str} {y:AV} {as:List (Nat × AV)} {Q:Unit→Shared→Prop} (G:GOk g) (R:Rel g Z bs ρ σ s.heap) (ra:RA ρ (Fz Z ρ σ) s.heap va (.ref i)) (rv:RA ρ (Fz Z ρ σ) s.heap vv y)
  (hm:m ∈ g.dat) (hx:g.nm[m]? = some n) (hi:σ.heap[i]? = some (.inst c as)) (hs:isPV y=true∨σ.strict=false) (hlen:as.length<900)
  (K:∀ s' , Rel g Z bs ρ (σ.set i (.inst c (putA m y as))) s'.heap→Post NoX ρ σ s ρ (σ.set i (.inst c (putA m y as))) s'→Q () s'):wpAny (model g.prog g.w) A (setAttr va n vv) Q E s:=by
 obtain ⟨a,l,rfl,q⟩:=ra.ref_
 obtain ⟨dx,sl,es,n',rfl,h1,h2,r,hle,hc⟩:=(R.objs q hi).inst_
 have ck:=G.cls c hc
 have hne:a ≠ dx:=by rintro rfl; rw [h1] at h2; cases h2
 have hsome:(getL n es).isSome=true:=by
  have q:=r.get G.nd hx
  cases e:getA m as with
  | none=>rw [q.2 e]; rfl
  | some y'=>obtain ⟨v,e1,_⟩:=q.1 _ e; rw [e1]; rfl
 refine set_plain (G.kin.keeps R.keep) (inst_of h1 h2) ck.seta ?_
 refine osa_here (s:={ s with toks:=s.toks+1 }) (G.kin.keeps R.keep) h1 h2 ck.over (by unfold takerIn; rw [ck.free m hm n hx]; rfl) ck.hasDict hsome hle fun n'' h' hsb hdx=>?_
 have z:=Rel.set (s':={ s with heap:=h',toks:=s.toks+1+1 }) (o':=.inst c (putA m y as)) R q hi (fun x=>nomatch x) (fun x=>nomatch x) (fun b ob hb e=>hsb.extBut b ob (fun q=>hb (by rw [q]; exact .tail _ (.head _))) e) (lv_same hsb ⟨_,hdx⟩) rfl rfl
  (fun hne n hn hin x hx=>?_) (fun kA _=>.inst (hsb.extBut a _ hne h1) hdx ?_ ?_ hc)
 ·exact K _ z.1 z.2
 ·rcases putA_mem hx with e | e
  ·rcases hs with hs | hs
   ·rw [e]; exact isPV_under hs n
   ·rw [R.strict hne] at hs; cases hs
  ·exact (R.bars n hn).2 hin hi x e
 ·have r1:RE g.nm ρ (Fz Z ρ σ) s.heap (putL n (PyData.keyHash g.w.params n) (.str n (s.toks+1)) vv es) (putA m y as):=r.put G.nd hx rv _ _
  have kk:∀ {es:List DictEntry} {as:List (Nat × AV)},RE g.nm ρ (Fz Z ρ σ) s.heap es as→RE g.nm ρ (Fz Z ρ σ) h' es as:=by
   intro es as r
   induction r with
   | nil=>exact .nil
   | cons a b _ ih=>exact .cons a (kA _ _ b) ih
  exact kk r1
 ·have l1:=(r.put G.nd hx rv (PyData.keyHash g.w.params n) (s.toks+1)).length
  rw [l1]
  have:=putA_length m y as
  omega
end
end Mine
end
section
open PySem PySem.W PySem.SeqAt PyProof.Rows
namespace Mine
section
variable {g:Glb} {A:Around} {s:Shared} {Z:Addr→Prop} {bs:List Nat} {ρ:Rho} {σ:St} {E:Value→Shared→Prop} {F:Addr→Prop} {h:Heap} {prog:Program} {w:World}
theorem Rel.noMods (G:GOk g) (R:Rel g Z bs ρ σ h) {i:Nat} {a:Addr} {l:List Addr} (e:ρ[i]? = some (a::l)):(a == sysModules)=false:=by
 have q:=(R.addrs e (.head _)).1
 have:=G.low
 have hne:a ≠ sysModules:=fun e=>by subst e; exact q this
 simpa using hne
theorem RA.isNone {v:Value} {x:AV} (r:RA ρ F h v x):(v == Value.none)=true ↔ x = .pv .none:=by
 cases r with
 | pv r=>cases r <;> simp
 | ref=>simp
 | tupR=>simp
 | lstR=>simp
theorem any_eq {va:Value} {v:AV} {vs:List Value} {l:List AV} {b:Bool} (R:Rel g Z bs ρ σ s.heap) (ra:RA ρ (Fz Z ρ σ) s.heap va v) (rs:RAs ρ (Fz Z ρ σ) s.heap vs l) (hu:A.units+60<cLine)
  (e:evInL σ v l=some b):∃ f:Value→Bool,(∀ y ∈ vs.toArray,EqAt A.in1 s y va (f y))∧vs.toArray.any f=b:=by
 cases v with
 | pv p =>
  obtain ⟨hd,e1⟩:=ite_some (p:=depthP p<20) (k:=anyEq σ p l) e
  obtain ⟨ps,hps,e2⟩:=Option.map_eq_some_iff.mp e1
  obtain ⟨f,h1,h2⟩:=anyP_of ra.pv_ hd hu (as_pvs R rs hps)
  exact ⟨f,h1,h2.trans e2⟩
 | _=>cases e
theorem op_in_list {va:Value} {v:AV} {a:Addr} {vs:List Value} {l:List AV} {b:Bool} {Q:Value→Shared→Prop} (hu:A.units+60<cLine) (R:Rel g Z bs ρ σ s.heap) (ra:RA ρ (Fz Z ρ σ) s.heap va v) (rs:RAs ρ (Fz Z ρ σ) s.heap vs l) (x:s.heap.IsList a vs.toArray)
  (e:evInL σ v l=some b) (K:∀ tk,Q (.bool b) { s with toks:=tk }):wpAny (model g.prog g.w) A (compareOp .In va (.ref a)) Q E s :=
 let ⟨f,h1,h2⟩:=any_eq R ra rs hu e; PySem.SeqAt.in_listAt f x h1 (h2▸K _)
theorem op_in_items {va vb:Value} {v w:AV} {b:Bool} {Q:Value→Shared→Prop} (hu:A.units+60<cLine) (R:Rel g Z bs ρ σ s.heap) (ra:RA ρ (Fz Z ρ σ) s.heap va v) (rb:RA ρ (Fz Z ρ σ) s.heap vb w)
  (e:ob (itemsOf σ w) (evInL σ v)=some b) (K:∀ tk,Q (.bool b) { s with toks:=tk }):wpAny (model g.prog g.w) A (compareOp .In va vb) Q E s:=by
 obtain ⟨l,hl,e1⟩:=opt_some e
 obtain ⟨a,vs,rfl,rs,hh⟩:=items_of R rb hl
 rcases hh with ⟨_,ht⟩ | ⟨_,_,ht⟩
 ·obtain ⟨f,h1,h2⟩:=any_eq R ra rs hu e1
  exact PySem.SeqAt.in_tupleAt f ht h1 (h2▸K _)
 ·exact op_in_list hu R ra rs ht e1 K
theorem op_in {va vb:Value} {v w:AV} {b:Bool} {Q:Value→Shared→Prop} (G:GOk g) (hu:A.units+60<cLine) (R:Rel g Z bs ρ σ s.heap) (ra:RA ρ (Fz Z ρ σ) s.heap va v) (rb:RA ρ (Fz Z ρ σ) s.heap vb w)
  (e:evIn v w σ=some b) (K:∀ tk,Q (.bool b) { s with toks:=tk }):wpAny (model g.prog g.w) A (compareOp .In va vb) Q E s:=by
 cases w with
 | ref i =>
  obtain ⟨a,l,rfl,q⟩:=rb.ref_
  obtain ⟨o,ho,e1⟩:=opt_some (o:=σ.heap[i]?) (k:=evInO σ v) e
  have dict:(dictGet o v).map (·.isSome)=some b→wpAny (model g.prog g.w) A (compareOp .In va (.ref a)) Q E s:=fun e=>by
   obtain ⟨b',h1,h2⟩:=Option.map_eq_some_iff.mp e
   exact dict_in (R.objs q ho) ra hu h1 (R.noMods G q) (h2▸K)
  cases o with
  | list l' =>
   obtain ⟨vs,_,x,y⟩:=(R.objs q ho).list_
   exact op_in_list hu R ra y x.isList e1 K
  | inst=>cases e1
  | dead=>cases e1
  | _=>exact dict e1
 | _=>exact op_in_items hu R ra rb e K
theorem isNoneV_iff {x:AV} (h:isNoneV x=true):x = .pv .none:=by
 cases x with
 | pv p=>cases p <;> first | rfl | cases h
 | _=>cases h
theorem op_cmp {o:Cmp} {va vb:Value} {v w:AV} {b:Bool} {Q:Value→Shared→Prop} (G:GOk g) (hu:A.units+60<cLine) (R:Rel g Z bs ρ σ s.heap) (ra:RA ρ (Fz Z ρ σ) s.heap va v) (rb:RA ρ (Fz Z ρ σ) s.heap vb w)
  (e:evCmp o v w σ=some b) (K:Done g Z bs ρ σ s (.pv (.bool b)) σ Q):wpAny (model g.prog g.w) A (compareOp (cmpK o) va vb) Q E s:=by
 have KT:∀ tk,Q (.bool b) { s with toks:=tk }:=fun tk=>K.toks R tk (.pv (.bool _))
 have eq:∀ {b},evEq v w σ=some b→RcAt A s va vb b∧RcNeAt A s va vb (!b):=fun e=>by
  obtain ⟨p,h1,e1⟩:=opt_some e
  obtain ⟨q,h2,e2⟩:=opt_some e1
  obtain ⟨hd,e3⟩:=ite_some e2
  have c:=cmp_RP (A:=A) 20 (by simpa using hd) (Nat.lt_of_le_of_lt (Nat.add_le_add_left (show 22≤60 by decide) A.units) hu) (as_pv R ra h1) (as_pv R rb h2)
  exact Option.some.inj e3▸⟨c.r,c.n⟩
 cases o with
 | eq=>exact (eq e).1 _ _ _ _ (KT _)
 | ne =>
  obtain ⟨b',h1,rfl⟩:=Option.map_eq_some_iff.mp e
  exact (eq h1).2 _ _ _ _ (KT _)
 | lt =>
  obtain ⟨i,t,rfl,_,e1⟩:=ra.onInt e
  obtain ⟨j,u,rfl,_,e2⟩:=rb.onInt e1
  obtain rfl:=Option.some.inj e2
  exact PySem.P.lt_int (KT _)
 | ge =>
  obtain ⟨i,t,rfl,_,e1⟩:=ra.onInt e
  obtain ⟨j,u,rfl,_,e2⟩:=rb.onInt e1
  obtain rfl:=Option.some.inj e2
  exact PySem.P.ge_int (KT _)
 | inn=>exact op_in G hu R ra rb e KT
 | notin =>
  obtain ⟨b',h1,rfl⟩:=Option.map_eq_some_iff.mp e
  refine notIn_of_in (op_in G hu R ra rb h1 fun tk b hb=>?_)
  exact Value.bool.inj hb▸KT tk
 | is =>
  obtain ⟨hw,e1⟩:=cond_some e
  rw [isNoneV_iff hw] at rb
  obtain rfl:=rb.none_
  refine is_none ?_
  rw [show (va == Value.none)=b from Option.some.inj e1▸Bool.eq_iff_iff.mpr (ra.isNone.trans ⟨fun h=>h▸rfl,isNoneV_iff⟩)]
  exact KT _
theorem op_truthy {va:Value} {b:Bool} {Q:Bool→Shared→Prop} (ra:RA ρ (Fz Z ρ σ) s.heap va (.pv (.bool b))) (K:Q b s) :
  wpAny (model g.prog g.w) A (truthy va) Q E s:=by
 have ra:=ra.pv_; obtain rfl:=ra.bool_; exact wpAny_truthy_bool K
theorem op_not {va:Value} {b:Bool} {Q:Value→Shared→Prop} (R:Rel g Z bs ρ σ s.heap) (ra:RA ρ (Fz Z ρ σ) s.heap va (.pv (.bool b))) (K:Done g Z bs ρ σ s (.pv (.bool (!b))) σ Q) :
  wpAny (model g.prog g.w) A (unaryOp .Not va) Q E s:=PyProof.Rows.not_of (op_truthy ra (K.bool R))
theorem big_63:(big:Int)<2 ^ 63:=by decide
inductive IdxS (k:Int) (n j:Nat):Prop
 | up (h0:0≤k) (h1:k.toNat=j) (h2:k<n)
 | down (h0:k<0) (h1 : -(n:Int)≤k) (h2:(k+n).toNat=j)
theorem pyIdx_at {k:Int} {n j:Nat} (e:pyIdx k n=some j):IdxS k n j:=by
 cases ite_split (show (if 0≤k then (if k<n then some k.toNat else none) else (if 0≤k+n then some (k+n).toNat else none))=some j from e) with
 | inl h e=>obtain ⟨h2,e⟩:=ite_some e; exact .up h (Option.some.inj e) h2
 | inr h e=>obtain ⟨h2,e⟩:=ite_some e; exact .down (Int.not_le.mp h) (Int.le_of_sub_nonneg (by rw [Int.sub_neg]; exact h2)) (Option.some.inj e)
theorem pyIdx_seq {k:Int} {n j:Nat} (e:pyIdx k n=some j):seqIndex? k n=some j:=by
 unfold seqIndex?
 cases pyIdx_at e with
 | up h0 h1 h2=>rw [if_neg (Int.not_lt.mpr h0)]; simp [h0,h1,h2]
 | down h0 h1 h2 =>
  have h3:0≤k+(n:Int):=by rw [← Int.sub_neg]; exact Int.sub_nonneg_of_le h1
  have h4:k+(n:Int)<n:=by rw [← Int.zero_add (n:Int),← Int.add_assoc,Int.add_zero]; exact Int.add_lt_add_right h0 n
  rw [if_pos h0]; simp [h2,h3,h4]
theorem abs_hi {n:Int} (h:n.natAbs<1000000000):n<2 ^ 63:=Int.lt_of_le_of_lt Int.le_natAbs (Int.lt_trans (Int.ofNat_lt.mpr h) (by decide))
theorem abs_lo {n:Int} (h:n.natAbs<1000000000) : -2 ^ 63≤n:=Int.neg_le_of_neg_le (Int.le_trans (Int.natAbs_neg n▸Int.le_natAbs) (Int.le_of_lt (Int.lt_trans (Int.ofNat_lt.mpr h) (by decide))))
inductive AtSome (l:List AV) (vi:Value) (x:AV):Prop
 | mk (n:Int) (t:Tok) (j:Nat) (hv:vi = .int n t) (hn:n.natAbs<1000000000) (hj:pyIdx n l.length=some j) (hx:l[j]? = some x)
theorem at_some {l:List AV} {vi:Value} {i x:AV} (ri:RA ρ F h vi i) (e:atIdx l i=some x):AtSome l vi x:=by
 obtain ⟨n,t,hv,_,e1⟩:=ri.onInt e
 obtain ⟨hn,e2⟩:=ite_some e1
 obtain ⟨j,hj,e3⟩:=opt_some e2
 exact ⟨n,t,j,hv,hn,hj,e3⟩
theorem at_list {a:Addr} {vs:List Value} {l:List AV} {i x:AV} {vi:Value} {Q:Value→Shared→Prop} (R:Rel g Z bs ρ σ s.heap) (hl:s.heap.IsList a vs.toArray) (rs:RAs ρ (Fz Z ρ σ) s.heap vs l) (ri:RA ρ (Fz Z ρ σ) s.heap vi i)
  (e:atIdx l i=some x) (K:∀ val,RA ρ (Fz Z ρ σ) s.heap val x→Q val s):wpAny (model g.prog g.w) A (getItem (.ref a) vi) Q E s:=by
 obtain ⟨n,t,j,rfl,hn,hj,hx⟩:=at_some ri e
 obtain ⟨v,h1,h2⟩:=rs.get hx
 have hlen:vs.toArray.size=l.length:=rs.length
 have h1:vs.toArray[j]? = some v:=by rw [List.getElem?_toArray]; exact h1
 cases pyIdx_at hj with
 | up q1 q2 q3=>exact wpAny_getItem_list hl q1 (abs_hi hn) (q2▸h1) (K _ h2)
 | down q1 q2 q3=>exact wpAny_getItem_list_neg hl q1 (by rw [hlen]; exact q2) (abs_lo hn) (by rw [hlen,q3]; exact h1) (K _ h2)
theorem at_tuple {a:Addr} {vs:List Value} {l:List AV} {i x:AV} {vi:Value} {Q:Value→Shared→Prop} (R:Rel g Z bs ρ σ s.heap) (hl:s.heap.IsTuple a vs.toArray) (rs:RAs ρ (Fz Z ρ σ) s.heap vs l) (ri:RA ρ (Fz Z ρ σ) s.heap vi i)
  (e:atIdx l i=some x) (K:∀ val,RA ρ (Fz Z ρ σ) s.heap val x→Q val s):wpAny (model g.prog g.w) A (getItem (.ref a) vi) Q E s:=by
 obtain ⟨n,t,j,rfl,hn,hj,hx⟩:=at_some ri e
 obtain ⟨v,h1,h2⟩:=rs.get hx
 have hlen:vs.toArray.size=l.length:=rs.length
 exact PyProof.Rows.getItem_tuple hl (abs_lo hn) (abs_hi hn) (by rw [hlen]; exact pyIdx_seq hj) (by rw [List.getElem?_toArray]; exact h1) (K _ h2)
end
section
variable {g:Glb} {A:Around} {s:Shared} {Z:Addr→Prop} {bs:List Nat} {ρ:Rho} {σ:St} {E:Value→Shared→Prop} {F:Addr→Prop} {h:Heap} {prog:Program} {w:World}
open Classical in
theorem op_sub {value slice:Expr} {va vb:Value} {v i x:AV} {Q:Value→Shared→Prop} (hu:A.units+60<cLine) (R:Rel g Z bs ρ σ s.heap) (ra:RA ρ (Fz Z ρ σ) s.heap va v) (rb:RA ρ (Fz Z ρ σ) s.heap vb i)
  (hs:∀ o i,subscripted slice false o i=operate [o,i] (getItem o i)) (e:evSub v i σ=some x) (K:Done g Z bs ρ σ s x σ Q):wpAny (model g.prog g.w) A (subscriptTail value slice va vb) Q E s:=by
 have KT:∀ val tk,RA ρ (Fz Z ρ σ) s.heap val x→Q val { s with toks:=tk }:=fun val tk q=>K.toks R tk q
 have items:ob (itemsOf σ v) (fun l=>atIdx l i)=some x→wpAny (model g.prog g.w) A (subscriptTail value slice va vb) Q E s:=fun e=>by
  obtain ⟨l,hl,e1⟩:=opt_some e
  obtain ⟨a,vs,rfl,rs,hh⟩:=items_of R ra hl
  rcases hh with ⟨_,ht⟩ | ⟨_,_,ht⟩
  ·exact tail_any (PyProof.Rows.IsTup.typeIs ht) slot_tuple_getitem.lookup (at_tuple R ht rs rb e1 fun val q=>KT val _ q) (hs _ _)
  ·exact tail_any ht.typeIs slot_list_getitem.lookup (at_list R ht rs rb e1 fun val q=>KT val _ q) (hs _ _)
 cases v with
 | ref k =>
  obtain ⟨a,l,rfl,q⟩:=ra.ref_
  obtain ⟨o,ho,e1⟩:=opt_some (o:=σ.heap[k]?) (k:=evSubO i) e
  have dict:ob (dictGet o i) id=some x→wpAny (model g.prog g.w) A (subscriptTail value slice (.ref a) vb) Q E s:=fun e=>by
   obtain ⟨y,hb,e2⟩:=opt_some e
   have hb:dictGet o i=some (some x):=e2▸hb
   exact tail_any (dict_isDict (R.objs q ho) rb hb) slot_dict_getitem.lookup (dict_item (R.objs q ho) rb hu hb KT) (hs _ _)
  cases o with
  | list l' =>
   obtain ⟨vs,_,x,y⟩:=(R.objs q ho).list_
   exact tail_any x.isList.typeIs slot_list_getitem.lookup (at_list R x.isList y rb e1 fun val q=>KT val _ q) (hs _ _)
  | inst=>cases e1
  | dead=>cases e1
  | _=>exact dict e1
 | _=>exact items e
inductive PartR:Value→Option AV→Prop
 | none:PartR .none none
 | int {n:Int} {t:Tok}:PartR (.int n t) (some (.pv (.int n)))
theorem PartR.nat {v:Value} {y:AV} {n:Nat} (r:PartR v (some y)) (e:sliceNat y=some n):IsPart v (some (n:Int)):=by
 cases r with
 | @int m t =>
  obtain ⟨h,e1⟩:=ite_some (k:=some m.toNat) e
  have e2:((n:Nat):Int)=m:=by rw [← Option.some.inj e1]; exact Int.toNat_of_nonneg (of_decide_eq_true (and_true2 h).1)
  rw [e2]; exact .int _ _
theorem PartR.no {v:Value} (r:PartR v Option.none):IsPart v Option.none:=by cases r; exact .none
theorem slicePick_to (items:Array Value) (n:Nat):slicePick items none (some (n:Int)) none=(items.toList.take n).toArray:=by
 rw [slicePick_plain]
 congr 1
 show List.take (clipAt items.size (n:Int) - 0) (items.toList.drop 0)=_
 rw [clipAt_nat,Nat.sub_zero,List.drop_zero]
 rcases Nat.le_total n items.size with z | z
 ·rw [Nat.min_eq_left z]
 ·rw [Nat.min_eq_right z,List.take_of_length_le (by rw [Array.length_toList]; exact Nat.le_refl _),List.take_of_length_le (by rw [Array.length_toList]; exact z)]
theorem op_slice {value:Expr} {lo hi:Option Expr} {ps:Pos} {va vl vh:Value} {v x:AV} {l hh:Option AV} {Q:Value→Shared→Prop} (R:Rel g Z bs ρ σ s.heap) (ra:RA ρ (Fz Z ρ σ) s.heap va v) (pl:PartR vl l) (ph:PartR vh hh)
  (e:evSlice v l hh σ=some x) (K:Done g Z bs ρ σ s x σ Q) :
  wpAny (model g.prog g.w) A (subscriptTail value (.Slice lo hi none ps) va (.ref s.heap.objs.size)) Q E { s with heap:=s.heap.push { cls:=.type "slice", data:=.fields #[vl,vh,.none] } }:=by
 generalize hs':({ s with heap:=s.heap.push { cls:=.type "slice", data:=.fields #[vl,vh,.none] } }:Shared)=s'
 have hh':s'.heap=s.heap.push { cls:=.type "slice", data:=.fields #[vl,vh,.none] }:=by rw [← hs']
 have kp:∀ b o,s.heap.get? b=some o→s'.heap.get? b=some o:=fun b o e=>by rw [hh']; exact Heap.get?_push_of_some _ e
 have R':Rel g Z bs ρ σ s'.heap:=R.grow kp
 have hsl:s'.heap.IsSliceOf s.heap.objs.size vl vh .none:=by rw [hh']; exact Heap.IsSliceOf.new s.heap vl vh .none
 have K':Done g Z bs ρ σ s' x σ Q:=fun val s2 ρ' h1 h2 h3=>K val s2 ρ' h1 ((Post.grow kp (by rw [← hs']) (by rw [← hs'])).trans h2) h3
 have ra':RA ρ (Fz Z ρ σ) s'.heap va v:=ra.mono (fun _ _ _ e=>e) fun b o e f _=>⟨kp b o e,f⟩
 have hbl:=big_line
 obtain ⟨l',hl,e1⟩:=opt_some e
 obtain ⟨hb,e2⟩:=cond_some e1
 have hb:=of_decide_eq_true hb
 obtain ⟨a,vs,rfl,rs,hc⟩:=items_of R' ra' hl
 have hlen:=rs.length
 have hsz:vs.toArray.size≤sizeLine:=by rw [List.size_toArray,hlen]; exact Nat.le_trans hb hbl
 cases hh with
 | none =>
  obtain ⟨v1,rfl,e2⟩:=opt_some e2
  obtain ⟨ht,e3⟩:=cond_some e2
  obtain ⟨i,hi,e4⟩:=opt_some e3
  obtain ⟨hc2,e5⟩:=cond_some e4
  have hc2:=and_true2 hc2
  have ht:=(hc.resolve_right fun z=>by rw [ht] at z; cases z.2.1).2
  have p1:=pl.nat hi
  cases p1
  cases ph.no
  exact tail_any (PyProof.Rows.IsTup.typeIs ht) slot_tuple_getitem.lookup (getItem_tuple_from ht hsl (of_decide_eq_true hc2.1) (by rw [List.size_toArray,hlen]; exact of_decide_eq_true hc2.2) (new_tup (vs:=vs.drop i) R' (rs.drop i) (Option.some.inj e5▸K') _) hsz) rfl
 | some w =>
  obtain ⟨ht,e3⟩:=cond_some e2
  have ht:=and_true2 ht
  obtain rfl:=Option.isNone_iff_eq_none.mp ht.1
  obtain ⟨n,hn,e4⟩:=opt_some e3
  have ht:=(hc.resolve_left fun z=>notBoth ht.2 z.1).2.2
  refine tail_any (ops:=[.ref s.heap.objs.size,.ref a]) ht.typeIs slot_list_getitem.lookup (wpAny_getItem_list_slice ht hsl pl.no (ph.nat hn) .none (fun h=>nomatch h) ?_ hsz) rfl
  rw [slicePick_to]
  exact new_lst R' (vs:=vs.take n) (rs.take n) (Option.some.inj e4▸K') _
end
section
variable {g:Glb} {A:Around} {s:Shared} {Z:Addr→Prop} {bs:List Nat} {ρ:Rho} {σ:St} {E:Value→Shared→Prop} {F:Addr→Prop} {h:Heap} {prog:Program} {w:World}
theorem carry {a:Addr} {h':Heap} (ha:¬ F a) (hs:Heap.SameBut a h h'):∀ b o,h.get? b=some o→F b→isSeqO o→h'.get? b=some o∧F b :=
 fun b o e f _=>⟨hs.extBut b o (fun q=>ha (q▸f)) e,f⟩
theorem DictOf.nodup' {K:Type} [DecidableEq K] {knd:KeyKind prog w K} {a:Addr} {kvs:List (K × Value)} (hd:h.DictOf knd a kvs):(kvs.map (·.1)).Nodup:=hd.elim fun _ h=>h.elim fun _ h=>h.elim fun _ h=>h.2.2.2.2.2
theorem DictOfH.nodup' {K:Type} [DecidableEq K] {knd:HeapKind prog w K} {a:Addr} {kvs:List (K × Addr × Value)} (hd:h.DictOfH knd a kvs):(kvs.map (·.1)).Nodup:=hd.elim fun _ h=>h.elim fun _ h=>h.elim fun _ h=>h.2.2.2.2.2
theorem dict_put_m {m:Sem Unit} {a:Addr} {va vv:Value} {Q:Unit→Shared→Prop} (hm:m=dictSet a va vv∨m=setItem (.ref a) va vv) {κ:Type} [DecidableEq κ] {K0:KeyKind prog w κ} {k:κ} {kv:List (κ × Value)} (hk:K0.is k va=true) (x:s.heap.DictOf K0 a kv) (hl:kv.length<big)
  (fin:∀ h' tk,h'.DictOf K0 a (stored kv k vv)→Heap.SameBut a s.heap h'→Q () { s with heap:=h',toks:=tk }):wpAny (model prog w) A m Q E s:=by
 have hl:=Nat.le_of_lt (Nat.lt_of_lt_of_le hl big_line)
 rcases hm with rfl | rfl
 ·exact wpAny_dictSet_pairs (hsz:=hl) hk x fun h' hd hs=>fin h' _ hd hs
 ·exact wpAny_setItem_pairs (hsz:=hl) hk x fun h' hd hs=>fin h' _ hd hs
open Classical in
theorem dict_put {m:Sem Unit} {a:Addr} {o o':AObj} {k v:AV} {va vv:Value} {Q:Unit→Shared→Prop} (hm:m=dictSet a va vv∨m=setItem (.ref a) va vv) (ro:RO g ρ F s.heap [a] o) (rk:RA ρ F s.heap va k) (rv:RA ρ F s.heap vv v)
  (ha:¬ F a) (hu:A.units+60<cLine) (e:dictPut o k v=some o') (K:∀ h' tk,Heap.SameBut a s.heap h'→RO g ρ F h' [a] o'→Q () { s with heap:=h',toks:=tk }):wpAny (model g.prog g.w) A m Q E s:=by
 cases o with
 | dictI kvs =>
  obtain ⟨i,t,hv,_,e1⟩:=rk.onInt e
  obtain ⟨hl,e2⟩:=ite_some e1
  obtain ⟨kv,_,x,y⟩:=ro.dictI_
  exact dict_put_m hm (hv▸isInt_of i t) x (by rw [y.length]; exact hl) fun h' tk hd hs=>K h' tk hs (Option.some.inj e2▸.dictI hd ((y.put (DictOf.nodup' x) i rv).mono (fun _ _ _ e=>e) (carry ha hs)))
 | dictS kvs =>
  obtain ⟨i,t,hv,e1⟩:=rk.onStr e
  obtain ⟨hl,e2⟩:=ite_some e1
  obtain ⟨kv,_,x,y⟩:=ro.dictS_
  exact dict_put_m hm (hv▸isStrK_of i t) x (by rw [y.length]; exact hl) fun h' tk hd hs=>K h' tk hs (Option.some.inj e2▸.dictS hd ((y.put (DictOf.nodup' x) i rv).mono (fun _ _ _ e=>e) (carry ha hs)))
 | dictT kvs =>
  obtain ⟨l,hv,e1⟩:=onTup_some e
  obtain ⟨hc,e2⟩:=ite_some e1
  have hc:=and_true2 hc
  have hd:=and_true2 hc.1
  have rk:RP F s.heap va (.tup l):=(hv▸rk:RA ρ F s.heap va (.pv (.tup l))).pv_
  obtain ⟨b,hb,hkb⟩:=key_of (prog:=g.prog) (w:=g.w) rk hd.2 (of_decide_eq_true hc.2)
  obtain ⟨kv,_,x,y⟩:=ro.dictT_
  have hl:=Nat.le_of_lt (Nat.lt_of_lt_of_le (show kv.length<big by rw [y.length]; exact of_decide_eq_true hd.1) big_line)
  have fin:∀ h' tk,h'.DictOfH (pvKind g.prog g.w) a (storedH kv (.tup (nrms l)) b vv)→Heap.SameBut a s.heap h'→Q () { s with heap:=h',toks:=tk }:=fun h' tk hd2 hs =>
   K h' tk hs (Option.some.inj e2▸.dictT hd2 ((y.put (DictOfH.nodup' x) (hb▸rk) hd.2 (of_decide_eq_true hc.2) rv).mono (fun _ _ _ e=>e) (carry ha hs)))
  rw [hb] at hm
  rcases hm with rfl | rfl
  ·exact wpAny_dictSet_heap (hsz:=hl) (Nat.lt_of_le_of_lt (Nat.add_le_add_left (show 20≤60 by decide) A.units) hu) hkb x fun h' hd hs=>fin h' _ hd hs
  ·exact wpAny_setItem_heap (hsz:=hl) (show A.in1.units+20<cLine by rw [Around.in1_units]; omega) hkb x fun h' hd hs=>fin h' _ hd hs
 | _=>cases e
theorem RO.live {l:List Addr} {o:AObj} {a:Addr} (r:RO g ρ F h (a::l) o) (hn:o ≠ .dead):Lv h a:=by
 cases r with
 | list x y=>obtain ⟨n,e⟩:=x; exact ⟨_,e⟩
 | dictI x y=>obtain ⟨o,_,_,e,_⟩:=x; exact ⟨o,e⟩
 | dictS x y=>obtain ⟨o,_,_,e,_⟩:=x; exact ⟨o,e⟩
 | dictT x y=>obtain ⟨o,_,_,e,_⟩:=x; exact ⟨o,e⟩
 | inst x y z z' z2=>exact ⟨_,x⟩
 | dead=>exact absurd rfl hn
theorem putK_mem {κ:Type} [DecidableEq κ] {m:κ} {v:AV}:∀ {as:List (κ × AV)} {y:κ × AV},y ∈ putK m v as→y.2=v∨y ∈ as
 | [],y,h=>by simp [putK] at h; exact .inl (by rw [h])
 | (j,w)::r,y,h=>by
  simp only [putK] at h
  by_cases hj:j=m
  ·rw [if_pos hj] at h
   rcases List.mem_cons.mp h with rfl | h
   ·exact .inl rfl
   ·exact .inr (.tail _ h)
  ·rw [if_neg hj] at h
   rcases List.mem_cons.mp h with rfl | h
   ·exact .inr (.head _)
   ·rcases putK_mem h with q | q
    ·exact .inl q
    ·exact .inr (.tail _ q)
theorem putT_mem {m:PV} {v:AV}:∀ {as:List (PV × AV)} {y:PV × AV},y ∈ putT m v as→y.2=v∨y ∈ as
 | [],y,h=>by simp [putT] at h; exact .inl (by rw [h])
 | (j,w)::r,y,h=>by
  simp only [putT] at h
  cases hj:pyEq j m with
  | true =>
   rw [hj,cond_true] at h
   rcases List.mem_cons.mp h with rfl | h
   ·exact .inl rfl
   ·exact .inr (.tail _ h)
  | false =>
   rw [hj,cond_false] at h
   rcases List.mem_cons.mp h with rfl | h
   ·exact .inr (.head _)
   ·rcases putT_mem h with q | q
    ·exact .inl q
    ·exact .inr (.tail _ q)
theorem putK_under {κ:Type} [DecidableEq κ] {m:κ} {v:AV} {n:Nat} {as:List (κ × AV)} (hv:v.under n) (ho:∀ x ∈ as,x.2.under n):∀ x ∈ putK m v as,x.2.under n:=fun x hx=>(putK_mem hx).elim (fun q=>q▸hv) (ho x)
theorem putT_under {m:PV} {v:AV} {n:Nat} {as:List (PV × AV)} (hv:v.under n) (ho:∀ x ∈ as,x.2.under n):∀ x ∈ putT m v as,x.2.under n:=fun x hx=>(putT_mem hx).elim (fun q=>q▸hv) (ho x)
inductive PutKind (v:AV) (l:Addr→List Addr→Prop) (o o':AObj):Prop
 | mk (n1:o ≠ .dead) (n2:o' ≠ .dead) (u:∀ n,v.under n→o.under n→o'.under n) (h:∀ a m,l a m→m=[])
theorem dictPut_kind {o o':AObj} {k v:AV} (e:dictPut o k v=some o'):PutKind v (fun a l=>RO g ρ F h (a::l) o) o o':=by
 cases o with
 | dictI kvs =>
  obtain ⟨i,_,e1⟩:=onInt_some e
  obtain ⟨_,e2⟩:=ite_some e1
  exact ⟨(nomatch ·),Option.some.inj e2▸(nomatch ·),fun n hv ho=>Option.some.inj e2▸putK_under hv ho,fun a l r=>let ⟨_,q,_,_⟩:=r.dictI_; q⟩
 | dictS kvs =>
  obtain ⟨i,_,e1⟩:=onStr_some e
  obtain ⟨_,e2⟩:=ite_some e1
  exact ⟨(nomatch ·),Option.some.inj e2▸(nomatch ·),fun n hv ho=>Option.some.inj e2▸putK_under hv ho,fun a l r=>let ⟨_,q,_,_⟩:=r.dictS_; q⟩
 | dictT kvs =>
  obtain ⟨i,_,e1⟩:=onTup_some e
  obtain ⟨_,e2⟩:=ite_some e1
  exact ⟨(nomatch ·),Option.some.inj e2▸(nomatch ·),fun n hv ho=>Option.some.inj e2▸putT_under hv ho,fun a l r=>let ⟨_,q,_,_⟩:=r.dictT_; q⟩
 | _=>cases e
theorem dictPut_under (g:Glb) (h:Heap) {o o':AObj} {k v:AV} {n:Nat} (e:dictPut o k v=some o') (hv:v.under n) (ho:o.under n):o'.under n:=let ⟨_,_,u,_⟩:=dictPut_kind (g:=g) (ρ:=[]) (F:=fun _=>True) (h:=h) e; u n hv ho
theorem dictPut_notDead (g:Glb) (h:Heap) {o o':AObj} {k v:AV} (e:dictPut o k v=some o'):o ≠ .dead∧o' ≠ .dead:=let ⟨a,b,_,_⟩:=dictPut_kind (g:=g) (ρ:=[]) (F:=fun _=>True) (h:=h) e; ⟨a,b⟩
theorem RO.dictOne {l:List Addr} {o o':AObj} {k v:AV} {a:Addr} (r:RO g ρ F h (a::l) o) (e:dictPut o k v=some o'):l=[]:=let ⟨_,_,_,q⟩:=dictPut_kind e; q a l r
theorem op_setitem {va vk vv:Value} {i:Nat} {k v:AV} {d d':AObj} {Q:Unit→Shared→Prop} (hu:A.units+60<cLine) (R:Rel g Z bs ρ σ s.heap) (ra:RA ρ (Fz Z ρ σ) s.heap va (.ref i)) (rk:RA ρ (Fz Z ρ σ) s.heap vk k) (rv:RA ρ (Fz Z ρ σ) s.heap vv v)
  (hi:σ.heap[i]? = some d) (hs:isPV v=true∨σ.strict=false) (e:dictPut d k v=some d')
  (K:∀ s' , Rel g Z bs ρ (σ.set i d') s'.heap→Post NoX ρ σ s ρ (σ.set i d') s'→Q () s'):wpAny (model g.prog g.w) A (setItem va vk vv) Q E s:=by
 obtain ⟨a,l,rfl,q⟩:=ra.ref_
 have ro:=R.objs q hi
 obtain rfl:=ro.dictOne e
 have hnd:=dictPut_notDead g s.heap e
 have ha:¬ Fz Z ρ σ a:=fun f=>f.2 ⟨i,[a],d,q,hi,hnd.1,.head _⟩
 refine dict_put (.inr rfl) ro rk rv ha hu e fun h' tk hsb ro'=>?_
 have z:=Rel.set (s':={ s with heap:=h',toks:=tk }) (o':=d') R q hi hnd.1 hnd.2 (fun b ob hb e=>hsb.extBut b ob (fun q=>hb (by rw [q]; exact .head _)) e) (lv_same hsb (ro'.live hnd.2)) rfl rfl
  (fun hne n hn hin=>?_) (fun _ _=>ro')
 ·exact K _ z.1 z.2
 ·have hv:v.under n:=by
   rcases hs with hs | hs
   ·exact isPV_under hs n
   ·rw [R.strict hne] at hs; cases hs
  exact dictPut_under g s.heap e hv ((R.bars n hn).2 hin hi)
theorem put_all {a:Addr} {Q:PUnit→Shared→Prop} (ha:¬ F a) (hu:A.units+60<cLine):∀ (vs:List (Value × Value)) (xs:List AV) (o o':AObj) (s:Shared),RO g ρ F s.heap [a] o→RAs ρ F s.heap (vs.flatMap fun p=>[p.1,p.2]) xs→putAll o xs=some o' →
  (∀ h' tk,Heap.SameBut a s.heap h'→RO g ρ F h' [a] o'→Q ⟨⟩ { s with heap:=h',toks:=tk }) →
  wpAny (model g.prog g.w) A (forIn vs PUnit.unit fun (x:Value × Value) (_:PUnit)=>(do dictSet a x.1 x.2; pure (ForInStep.yield PUnit.unit):Sem (ForInStep PUnit))) Q E s
 | [],xs,o,o',s,ro,rs,e,K=>by
  cases rs
  simp only [putAll,Option.some.injEq] at e; subst e
  rw [List.forIn_nil]
  exact wpAny_pure (K s.heap s.toks (.refl ..) ro)
 | (k,v)::vs,xs,o,o',s,ro,rs,e,K=>by
  simp only [List.flatMap_cons,List.cons_append,List.nil_append] at rs
  cases rs with | cons r1 rs=>cases rs with | cons r2 rs =>
  obtain ⟨o1,h1,e1⟩:=opt_some e
  rw [List.forIn_cons]
  refine wpAny_bind (wpAny_bind (dict_put (.inl rfl) ro r1 r2 ha hu h1 fun h' tk hsb ro'=>wpAny_pure ?_))
  exact put_all ha hu vs _ o1 o' _ ro' (rs.mono (fun _ _ _ e=>e) (carry ha hsb)) e1 fun h'' tk' hs' ro''=>K h'' tk' (hsb.trans hs') ro''
end
section
variable {g:Glb} {A:Around} {s:Shared} {Z:Addr→Prop} {bs:List Nat} {ρ:Rho} {σ:St} {E:Value→Shared→Prop} {F:Addr→Prop} {h:Heap} {prog:Program} {w:World}
theorem ints_of {vs:List Value} {l:List AV} {ns:List Int} (r:RAs ρ F h vs l) (e:allInts l=some ns):∃ xs:Array (Int × Tok),vs.toArray=intItems xs∧xs.toList.map (·.1)=ns:=by
 have key:∃ ys:List (Int × Tok),vs=ys.map (fun p=>Value.int p.1 p.2)∧ys.map (·.1)=ns:=by
  revert vs ns
  induction l with
  | nil=>intro vs ns r e; exact ⟨[],r.nil_,Option.some.inj e⟩
  | cons x l ih =>
   intro vs ns r e
   obtain ⟨v,vs',rfl,a,b⟩:=r.cons_
   cases x with
   | pv p=>cases p with
    | int i =>
     obtain ⟨ns',h1,rfl⟩:=Option.map_eq_some_iff.mp (show (allInts l).map (i::·)=some ns from e)
     obtain ⟨t,rfl⟩:=a.int_
     obtain ⟨ys,h2,h3⟩:=ih b h1
     exact ⟨(i,t)::ys,by rw [h2]; rfl,by rw [← h3]; rfl⟩
    | _=>cases e
   | _=>cases e
 obtain ⟨ys,h1,h2⟩:=key
 exact ⟨ys.toArray,by rw [h1]; simp [intItems],h2⟩
theorem mem_cons2 {a b x:Int} {r:List Int} (h:x ∈ a::r):x ∈ a::b::r:=by
 rcases List.mem_cons.mp h with rfl | h
 ·exact .head _
 ·exact .tail _ (.tail _ h)
theorem le_cons2 {p:Int→Prop} {a b:Int} {r:List Int} (ha:p a) (h:∀ x ∈ b::r,p x):∀ x ∈ a::b::r,p x:=fun x hx=>by
 rcases List.mem_cons.mp hx with rfl | hx
 ·exact ha
 ·exact h x hx
theorem le_cons3 {p:Int→Prop} {a b:Int} {r:List Int} (hb:p b) (h:∀ x ∈ a::r,p x):∀ x ∈ a::b::r,p x :=
 le_cons2 (h _ (.head _)) fun x hx=>by
  rcases List.mem_cons.mp hx with rfl | hx
  ·exact hb
  ·exact h x (.tail _ hx)
theorem maxI_spec:∀ (l:List Int) (a:Int),maxI a l ∈ a::l∧∀ x ∈ a::l,x≤maxI a l
 | [],a=>⟨.head _,fun x hx=>Int.le_of_eq (List.mem_singleton.mp hx)⟩
 | b::r,a=>by
  show maxI (if a<b then b else a) r ∈ a::b::r∧∀ x ∈ a::b::r,x≤maxI (if a<b then b else a) r
  by_cases h:a<b
  ·rw [if_pos h]; have ih:=maxI_spec r b; exact ⟨.tail _ ih.1,le_cons2 (Int.le_trans (Int.le_of_lt h) (ih.2 b (.head _))) ih.2⟩
  ·rw [if_neg h]; have ih:=maxI_spec r a; exact ⟨mem_cons2 ih.1,le_cons3 (Int.le_trans (Int.not_lt.mp h) (ih.2 a (.head _))) ih.2⟩
theorem minI_spec:∀ (l:List Int) (a:Int),minI a l ∈ a::l∧∀ x ∈ a::l,minI a l≤x
 | [],a=>⟨.head _,fun x hx=>Int.le_of_eq (List.mem_singleton.mp hx).symm⟩
 | b::r,a=>by
  show minI (if b<a then b else a) r ∈ a::b::r∧∀ x ∈ a::b::r,minI (if b<a then b else a) r≤x
  by_cases h:b<a
  ·rw [if_pos h]; have ih:=minI_spec r b; exact ⟨.tail _ ih.1,le_cons2 (Int.le_trans (ih.2 b (.head _)) (Int.le_of_lt h)) ih.2⟩
  ·rw [if_neg h]; have ih:=minI_spec r a; exact ⟨mem_cons2 ih.1,le_cons3 (Int.le_trans (ih.2 a (.head _)) (Int.not_lt.mp h)) ih.2⟩
theorem num_in {xs:Array (Int × Tok)} {l:List Int} (e:xs.toList.map (·.1)=l) {j:Nat} (hj:j<xs.size):numAt xs j ∈ l:=by
 rw [← e]; unfold numAt; rw [Array.getElem?_eq_getElem hj]
 exact List.mem_map.mpr ⟨xs[j],Array.mem_toList_iff.mpr (Array.getElem_mem hj),rfl⟩
theorem num_all {xs:Array (Int × Tok)} {l:List Int} (e:xs.toList.map (·.1)=l) {x:Int} (hx:x ∈ l):∃ j,j≤xs.size - 1∧numAt xs j=x:=by
 rw [← e] at hx
 obtain ⟨p,hp,rfl⟩:=List.mem_map.mp hx
 obtain ⟨j,hj,rfl⟩:=Array.mem_iff_getElem.mp (Array.mem_toList_iff.mp hp)
 exact ⟨j,Nat.le_sub_one_of_lt hj,by unfold numAt; rw [Array.getElem?_eq_getElem hj]; rfl⟩
theorem size_pos {xs:Array (Int × Tok)} {a:Int} {r:List Int} (e:xs.toList.map (·.1)=a::r):0<xs.size:=by
 have:=congrArg List.length e
 rw [List.length_map,Array.length_toList] at this
 rw [this]; exact Nat.succ_pos _
theorem argBest_max {xs:Array (Int × Tok)} {a:Int} {r:List Int} (e:xs.toList.map (·.1)=a::r) {v:Value} (hv:(intItems xs)[argBest (fun i j=>decide (numAt xs i > numAt xs j)) (xs.size - 1)]? = some v):∃ t,v = .int (maxI a r) t:=by
 obtain ⟨t,rfl⟩:=intItems_at hv
 obtain ⟨h1,h2⟩:=argBest_gt (numAt xs) (xs.size - 1)
 obtain ⟨m1,m2⟩:=maxI_spec r a
 obtain ⟨j,hj,hj'⟩:=num_all e m1
 exact ⟨t,by rw [Int.le_antisymm (m2 _ (num_in e (Nat.lt_of_le_of_lt h1 (Nat.sub_one_lt_of_lt (size_pos e))))) (hj'▸h2 j hj)]⟩
theorem argBest_min {xs:Array (Int × Tok)} {a:Int} {r:List Int} (e:xs.toList.map (·.1)=a::r) {v:Value} (hv:(intItems xs)[argBest (fun i j=>decide (numAt xs i<numAt xs j)) (xs.size - 1)]? = some v):∃ t,v = .int (minI a r) t:=by
 obtain ⟨t,rfl⟩:=intItems_at hv
 obtain ⟨h1,h2⟩:=argBest_lt (numAt xs) (xs.size - 1)
 obtain ⟨m1,m2⟩:=minI_spec r a
 obtain ⟨j,hj,hj'⟩:=num_all e m1
 exact ⟨t,by rw [Int.le_antisymm (hj'▸h2 j hj) (m2 _ (num_in e (Nat.lt_of_le_of_lt h1 (Nat.sub_one_lt_of_lt (size_pos e)))))]⟩
theorem Done.grown {r:AV} {Q:Value→Shared→Prop} (R:Rel g Z bs ρ σ s.heap) (K:Done g Z bs ρ σ s r σ Q) {val:Value} {h':Heap} (tk:Nat) (k:∀ b o,s.heap.get? b=some o→h'.get? b=some o) (q:RA ρ (Fz Z ρ σ) h' val r):Q val { s with heap:=h',toks:=tk } :=
 K val _ ρ (R.grow k) (Post.grow k rfl rfl) q
theorem iter_intTuple {l:Addr} {xs:Array (Int × Tok)} {Q:Value→Shared→Prop} (hl:s.heap.IsTuple l (intItems xs))
  (h:∀ s₂:Shared,s₂ = { s with heap:=s.heap.push { cls:=.type "tuple_iterator", data:=.fields #[.ref l,.int 0 0] } } →
   (s₂.heap.IsTupleIter s.heap.objs.size l 0∧s₂.heap.IsTuple l (intItems xs))→(∀ b ∈ [s.heap.objs.size,l],b<s₂.heap.objs.size)→l ≠ s.heap.objs.size→Q (.ref s.heap.objs.size) s₂) :
  wpAny (model prog w) A (pyIter (.ref l)) Q E s:=by
 have hlt:l<s.heap.objs.size:=by obtain ⟨_,e,_⟩:=hl; exact Heap.lt_size e
 refine wpAny_pyIter_tuple hl (h _ rfl ⟨⟨_,Heap.get?_push_size _ rfl,rfl,rfl⟩,IsTup.push hl _⟩ (fun b hb=>?_) (Nat.ne_of_lt hlt))
 show b<(s.heap.push _).objs.size
 rw [Heap.size_push]
 rcases List.mem_cons.mp hb with rfl | hb
 ·exact Nat.lt_succ_self _
 ·rcases List.mem_cons.mp hb with rfl | hb
  ·exact Nat.lt_succ_of_lt hlt
  ·cases hb
theorem old_keptT {o':Obj} {h':Heap} (hk:∀ b o,b ∉ [s.heap.objs.size]→(s.heap.push o').get? b=some o→h'.get? b=some o) :
  ∀ b o,s.heap.get? b=some o→h'.get? b=some o:=fun b o e=>by
 refine hk b o (fun hm=>?_) (Heap.get?_push_of_some _ e)
 rcases List.mem_cons.mp hm with e1 | hm
 ·exact absurd (e1▸Heap.lt_size e) (Nat.lt_irrefl _)
 ·cases hm
theorem max_intTuple {l:Addr} {xs:Array (Int × Tok)} {Q:Value→Shared→Prop} (hh:A.handled=none) (hl:s.heap.IsTuple l (intItems xs)) (hne:0<xs.size)
  (h:∀ v h' tk,(intItems xs)[argBest (fun i j=>decide (numAt xs i > numAt xs j)) (xs.size - 1)]? = some v→(∀ b o,s.heap.get? b=some o→h'.get? b=some o)→Q v { s with heap:=h',toks:=tk }) :
  wpAny (model prog w) A (call (.builtin "max") [.ref l]) Q E s:=by
 refine call_max_walk (iter_intTuple hl fun s₂ e st hfp hlI=>?_)
 subst e
 refine ⟨_,_,_,_,_,_,_,rfl,Walks.tuple (A:=A.in1) hh _ l hlI (intItems xs),st,hfp,by simpa [intItems] using hne,CmpOf.ints_gt (numAt xs) (fun _ _=>intItems_at),fun v h' tk hP hk=>?_⟩
 exact h v h' tk (by simpa [intItems] using hP) (old_keptT hk)
theorem min_intTuple {l:Addr} {xs:Array (Int × Tok)} {Q:Value→Shared→Prop} (hh:A.handled=none) (hl:s.heap.IsTuple l (intItems xs)) (hne:0<xs.size)
  (h:∀ v h' tk,(intItems xs)[argBest (fun i j=>decide (numAt xs i<numAt xs j)) (xs.size - 1)]? = some v→(∀ b o,s.heap.get? b=some o→h'.get? b=some o)→Q v { s with heap:=h',toks:=tk }) :
  wpAny (model prog w) A (call (.builtin "min") [.ref l]) Q E s:=by
 refine call_min_walk (iter_intTuple hl fun s₂ e st hfp hlI=>?_)
 subst e
 refine ⟨_,_,_,_,_,_,_,rfl,Walks.tuple (A:=A.in1) hh _ l hlI (intItems xs),st,hfp,by simpa [intItems] using hne,CmpOf.ints_lt (numAt xs) (fun _ _=>intItems_at),fun v h' tk hP hk=>?_⟩
 exact h v h' tk (by simpa [intItems] using hP) (old_keptT hk)
theorem op_max1 {va:Value} {v:AV} {l:List AV} {a:Int} {r:List Int} {Q:Value→Shared→Prop} (hh:A.handled=none) (R:Rel g Z bs ρ σ s.heap) (ra:RA ρ (Fz Z ρ σ) s.heap va v) (e:itemsOf σ v=some l) (e2:allInts l=some (a::r))
  (K:Done g Z bs ρ σ s (.pv (.int (maxI a r))) σ Q):wpAny (model g.prog g.w) A (call (.builtin "max") [va]) Q E s:=by
 obtain ⟨b,vs,rfl,rs,hh'⟩:=items_of R ra e
 obtain ⟨xs,h1,h2⟩:=ints_of rs e2
 have hsz:=size_pos h2
 rw [h1] at hh'
 rcases hh' with ⟨_,ht⟩ | ⟨_,_,ht⟩
 ·exact max_intTuple hh ht hsz fun v h' tk hv hk=>by obtain ⟨t,rfl⟩:=argBest_max h2 hv; exact K.grown R tk hk (.pv (.int _ _))
 ·exact max_intList hh ht hsz fun v h' tk hv hk=>by obtain ⟨t,rfl⟩:=argBest_max h2 hv; exact K.grown R tk hk (.pv (.int _ _))
theorem op_min1 {va:Value} {v:AV} {l:List AV} {a:Int} {r:List Int} {Q:Value→Shared→Prop} (hh:A.handled=none) (R:Rel g Z bs ρ σ s.heap) (ra:RA ρ (Fz Z ρ σ) s.heap va v) (e:itemsOf σ v=some l) (e2:allInts l=some (a::r))
  (K:Done g Z bs ρ σ s (.pv (.int (minI a r))) σ Q):wpAny (model g.prog g.w) A (call (.builtin "min") [va]) Q E s:=by
 obtain ⟨b,vs,rfl,rs,hh'⟩:=items_of R ra e
 obtain ⟨xs,h1,h2⟩:=ints_of rs e2
 have hsz:=size_pos h2
 rw [h1] at hh'
 rcases hh' with ⟨_,ht⟩ | ⟨_,_,ht⟩
 ·exact min_intTuple hh ht hsz fun v h' tk hv hk=>by obtain ⟨t,rfl⟩:=argBest_min h2 hv; exact K.grown R tk hk (.pv (.int _ _))
 ·exact min_intList hh ht hsz fun v h' tk hv hk=>by obtain ⟨t,rfl⟩:=argBest_min h2 hv; exact K.grown R tk hk (.pv (.int _ _))
theorem op_max2 {va vb:Value} {a b:Int} {Q:Value→Shared→Prop} (hh:A.handled=none) (R:Rel g Z bs ρ σ s.heap) (ra:RA ρ (Fz Z ρ σ) s.heap va (.pv (.int a))) (rb:RA ρ (Fz Z ρ σ) s.heap vb (.pv (.int b)))
  (K:Done g Z bs ρ σ s (.pv (.int (if a<b then b else a))) σ Q):wpAny (model g.prog g.w) A (call (.builtin "max") [va,vb]) Q E s:=by
 obtain ⟨t,rfl⟩:=ra.int_; obtain ⟨u,rfl⟩:=rb.int_
 refine max_two_ints hh fun h' tk hk=>?_
 by_cases c:b > a
 ·have c':a<b:=c
  rw [if_pos c]; rw [if_pos c'] at K; exact K.grown R tk hk (.pv (.int _ _))
 ·have c':¬ a<b:=c
  rw [if_neg c]; rw [if_neg c'] at K; exact K.grown R tk hk (.pv (.int _ _))
theorem op_min2 {va vb:Value} {a b:Int} {Q:Value→Shared→Prop} (hh:A.handled=none) (R:Rel g Z bs ρ σ s.heap) (ra:RA ρ (Fz Z ρ σ) s.heap va (.pv (.int a))) (rb:RA ρ (Fz Z ρ σ) s.heap vb (.pv (.int b)))
  (K:Done g Z bs ρ σ s (.pv (.int (if b<a then b else a))) σ Q):wpAny (model g.prog g.w) A (call (.builtin "min") [va,vb]) Q E s:=by
 obtain ⟨t,rfl⟩:=ra.int_; obtain ⟨u,rfl⟩:=rb.int_
 refine min_two_ints hh fun h' tk hk=>?_
 by_cases c:b<a
 ·rw [if_pos c]; rw [if_pos c] at K; exact K.grown R tk hk (.pv (.int _ _))
 ·rw [if_neg c]; rw [if_neg c] at K; exact K.grown R tk hk (.pv (.int _ _))
theorem op_len {va:Value} {v:AV} {l:List AV} {Q:Value→Shared→Prop} (R:Rel g Z bs ρ σ s.heap) (ra:RA ρ (Fz Z ρ σ) s.heap va v) (e:itemsOf σ v=some l) (hl:l.length≤big)
  (K:Done g Z bs ρ σ s (.pv (.int l.length)) σ Q):wpAny (model g.prog g.w) A (call (.builtin "len") [va]) Q E s:=by
 obtain ⟨b,vs,rfl,rs,hh'⟩:=items_of R ra e
 have hlen:=rs.length
 have h63:=big_63
 have fin:∀ t tk,Q (.int (vs.toArray.size:Nat) t) { s with toks:=tk }:=fun t tk=>by
  rw [List.size_toArray,hlen]; exact K.toks R tk (.pv (.int _ _))
 have hf:((vs.toArray.size:Nat):Int)<2 ^ 63:=by rw [List.size_toArray,hlen]; exact Int.lt_of_le_of_lt (Int.ofNat_le.mpr hl) h63
 rcases hh' with ⟨_,ht⟩ | ⟨_,_,ht⟩
 ·exact PyProof.Rows.len_tuple ht hf (fin _ _)
 ·exact PyProof.Rows.len_list ht hf (fin _ _)
theorem op_abs {va:Value} {a:Int} {Q:Value→Shared→Prop} (R:Rel g Z bs ρ σ s.heap) (ra:RA ρ (Fz Z ρ σ) s.heap va (.pv (.int a)))
  (K:Done g Z bs ρ σ s (.pv (.int a.natAbs)) σ Q):wpAny (model g.prog g.w) A (call (.builtin "abs") [va]) Q E s:=by
 obtain ⟨t,rfl⟩:=ra.int_
 refine call_abs_int fun u tk=>?_
 have:(if a<0 then -a else a)=(a.natAbs:Int):=by
  by_cases h:a<0
  ·rw [if_pos h,Int.ofNat_natAbs_of_nonpos (Int.le_of_lt h)]
  ·rw [if_neg h,Int.natAbs_of_nonneg (Int.not_lt.mp h)]
 rw [this]; exact K.toks R tk (.pv (.int _ _))
theorem op_int_int {va:Value} {a:Int} {Q:Value→Shared→Prop} (R:Rel g Z bs ρ σ s.heap) (ra:RA ρ (Fz Z ρ σ) s.heap va (.pv (.int a)))
  (K:Done g Z bs ρ σ s (.pv (.int a)) σ Q):wpAny (model g.prog g.w) A (call (.type "int") [va]) Q E s:=by
 obtain ⟨t,rfl⟩:=ra.int_
 exact call_int_int (K.same R (.pv (.int _ _)))
theorem op_int_bool {va:Value} {b:Bool} {Q:Value→Shared→Prop} (R:Rel g Z bs ρ σ s.heap) (ra:RA ρ (Fz Z ρ σ) s.heap va (.pv (.bool b)))
  (K:Done g Z bs ρ σ s (.pv (.int (if b then 1 else 0))) σ Q):wpAny (model g.prog g.w) A (call (.type "int") [va]) Q E s:=by
 obtain rfl:=ra.bool_
 exact call_int_bool (K.toks R _ (.pv (.int _ _)))
theorem log2_small {a:Int} (h:a.natAbs<10 ^ 10):a.natAbs.log2<1920:=by
 by_cases h0:a.natAbs=0
 ·rw [h0]; decide
 ·exact (Nat.log2_lt h0).mpr (Nat.lt_trans h (by decide +kernel))
theorem op_str_int {va:Value} {a:Int} {Q:Value→Shared→Prop} (R:Rel g Z bs ρ σ s.heap) (ra:RA ρ (Fz Z ρ σ) s.heap va (.pv (.int a))) (hs:a.natAbs<10 ^ 10)
  (K:Done g Z bs ρ σ s (.pv (.str (showInt a))) σ Q):wpAny (model g.prog g.w) A (call (.type "str") [va]) Q E s:=by
 obtain ⟨t,rfl⟩:=ra.int_
 exact P.str_of_int (log2_small hs) (K.toks R _ (.pv (.str _ _)))
theorem op_isBool {va:Value} {v:AV} {b:Bool} {Q:Value→Shared→Prop} (R:Rel g Z bs ρ σ s.heap) (ra:RA ρ (Fz Z ρ σ) s.heap va v) (e:isBoolV v=some b)
  (K:Done g Z bs ρ σ s (.pv (.bool b)) σ Q):wpAny (model g.prog g.w) A (call (.builtin "isinstance") [va,.type "bool"]) Q E s:=by
 have KT:∀ tk,Q (.bool b) { s with toks:=tk }:=fun tk=>K.toks R tk (.pv (.bool _))
 cases v with
 | pv p =>
  have ra:=ra.pv_
  cases p with
  | none=>obtain rfl:=ra.none_; obtain rfl:=Option.some.inj e; exact IsiPair.NoneType_bool (KT _)
  | bool=>obtain rfl:=ra.bool_; obtain rfl:=Option.some.inj e; exact IsiPair.bool_bool (KT _)
  | int=>obtain ⟨t,rfl⟩:=ra.int_; obtain rfl:=Option.some.inj e; exact IsiPair.int_bool (KT _)
  | str=>obtain ⟨t,rfl⟩:=ra.str_; obtain rfl:=Option.some.inj e; exact IsiPair.str_bool (KT _)
  | tup=>obtain ⟨a,vs,rfl,f,t,r⟩:=ra.tup_; obtain rfl:=Option.some.inj e; obtain ⟨o,ho,hc,_⟩:=t; exact IsiPair.tuple_bool ho hc (KT _)
  | lst=>obtain ⟨a,vs,rfl,f,t,r⟩:=ra.lst_; obtain rfl:=Option.some.inj e; obtain ⟨o,ho,hc,_⟩:=t; exact IsiPair.list_bool ho hc (KT _)
 | _=>cases e
theorem op_int {va:Value} {v:AV} {i:Int} {Q:Value→Shared→Prop} (R:Rel g Z bs ρ σ s.heap) (ra:RA ρ (Fz Z ρ σ) s.heap va v) (e:intOf v=some i)
  (K:Done g Z bs ρ σ s (.pv (.int i)) σ Q):wpAny (model g.prog g.w) A (call (.type "int") [va]) Q E s:=by
 cases v with
 | pv p=>cases p with
  | int a=>exact op_int_int R ra (Option.some.inj e▸K)
  | bool b=>exact op_int_bool R ra (Option.some.inj e▸K)
  | _=>cases e
 | _=>cases e
theorem lstOf_some {v:AV} {l:List AV} (e:lstOf σ v=some l):isLstV v=true∧itemsOf σ v=some l:=by
 obtain ⟨h1,h2⟩:=ite_some e; exact ⟨h1,h2⟩
inductive ListR (ρ:Rho) (F:Addr→Prop) (h:Heap) (v:Value) (l:List AV):Prop
 | mk (a:Addr) (vs:List Value) (e:v = .ref a) (r:RAs ρ F h vs l) (t:h.IsList a vs.toArray)
theorem items_list {v:Value} {x:AV} {l:List AV} (R:Rel g Z bs ρ σ h) (r:RA ρ (Fz Z ρ σ) h v x) (e:itemsOf σ x=some l) (hx:isLstV x=true):ListR ρ (Fz Z ρ σ) h v l:=by
 obtain ⟨a,vs,rfl,rs,hh⟩:=items_of R r e
 exact ⟨a,vs,rfl,rs,(hh.resolve_left fun z=>notBoth hx z.1).2.2⟩
theorem op_tuple {va:Value} {v:AV} {l:List AV} {Q:Value→Shared→Prop} (R:Rel g Z bs ρ σ s.heap) (ra:RA ρ (Fz Z ρ σ) s.heap va v) (e:itemsOf σ v=some l) (hv:isLstV v=true) (hl:l.length≤big)
  (K:Done g Z bs ρ σ s (mkTup l) σ Q):wpAny (model g.prog g.w) A (call (.type "tuple") [va]) Q E s:=by
 obtain ⟨b,vs,rfl,rs,ht⟩:=items_list R ra e hv
 have hlen:=rs.length
 have hbl:=big_line
 refine call_tuple_list ht (fun h' hk=>?_) (by rw [List.size_toArray,hlen]; exact Nat.le_trans hl hbl)
 have K':Done g Z bs ρ σ { s with heap:=h' } (mkTup l) σ Q:=fun val s' ρ' h1 h2 h3=>K val s' ρ' h1 ((Post.grow hk rfl rfl:Post NoX ρ σ s ρ σ { s with heap:=h' }).trans h2) h3
 exact new_tup (s:={ s with heap:=h' }) (R.grow hk) (rs.mono (fun _ _ _ e=>e) fun b o e f _=>⟨hk b o e,f⟩) K' _
theorem op_append {va vv:Value} {i:Nat} {l:List AV} {v:AV} {Q:Value→Shared→Prop} (R:Rel g Z bs ρ σ s.heap) (ra:RA ρ (Fz Z ρ σ) s.heap va (.ref i)) (rv:RA ρ (Fz Z ρ σ) s.heap vv v)
  (hi:σ.heap[i]? = some (.list l)) (hs:isPV v=true∨σ.strict=false) (hlen:l.length<big)
  (K:Done g Z bs ρ σ s (.pv .none) (σ.set i (.list (l++[v]))) Q):wpAny (model g.prog g.w) A (call (.builtin "list.append") [va,vv]) Q E s:=by
 obtain ⟨a,m,rfl,q⟩:=ra.ref_
 have hbl:=big_line
 obtain ⟨vs,rfl,x,y⟩:=(R.objs q hi).list_
 have hl:=y.length
 refine wpAny_list_append_plain x (fun h' hp hsb=>?_) (by rw [List.size_toArray,hl]; exact Nat.le_trans (Nat.le_of_lt hlen) hbl)
 have z:=Rel.set (s':={ s with heap:=h' }) (o':=.list (l++[v])) R q hi (fun x=>nomatch x) (fun x=>nomatch x) (fun b ob hb e=>hsb.extBut b ob (fun q=>hb (by rw [q]; exact .head _)) e) (lv_same hsb (let ⟨n,e⟩:=hp; ⟨_,e⟩)) rfl rfl
  (fun hne n hn hin=>?_) (fun kA _=>?_)
 ·exact K _ _ ρ z.1 z.2 (.pv .none)
 ·have hv:v.under n:=by
   rcases hs with hs | hs
   ·exact isPV_under hs n
   ·rw [R.strict hne] at hs; cases hs
  have h0:=(R.bars n hn).2 hin hi
  simp only [AObj.under,AVs.under_iff] at h0 ⊢
  intro x hx
  rcases List.mem_append.mp hx with hx | hx
  ·exact h0 x hx
  ·simp at hx; subst hx; exact hv
 ·refine .list (vs:=vs++[vv]) (by simpa using hp) ?_
  exact (y.append (.cons rv .nil)).map_ kA
end
noncomputable def prK {α:Type} (n:Nat) (lt:Nat→Nat→Bool):KasT α→Option α
 | .ret a=>some a
 | .ask i j k=>if i<n&&decide (j<n) then prK n lt (k (lt i j)) else none
theorem prK_wp {α:Type} {n:Nat} {lt:Nat→Nat→Bool} {cmp:Nat→Nat→(Bool→Shared→Prop)→Shared→Prop} {s:Shared} {Q:α→Shared→Prop}
  (hc:∀ i j C,i<n→j<n→C (lt i j) s→cmp i j C s):∀ (t:KasT α) (a:α),prK n lt t=some a→Q a s→t.kasWp cmp Q s
 | .ret _,a,e,h=>Option.some.inj e▸h
 | .ask i j k,a,e,h=>by
  obtain ⟨hij,e⟩:=ite_some (show (if (decide (i<n)&&decide (j<n))=true then prK n lt (k (lt i j)) else none)=some a from e)
  exact hc i j _ (of_decide_eq_true (and_true2 hij).1) (of_decide_eq_true (and_true2 hij).2) (prK_wp hc (k (lt i j)) a e h)
theorem prK_congr {α:Type} {n:Nat} {lt lt':Nat→Nat→Bool} (h:∀ i j,i<n→j<n→lt i j=lt' i j):∀ t:KasT α,prK n lt t=prK n lt' t
 | .ret _=>rfl
 | .ask i j k=>by
  show (if (decide (i<n)&&decide (j<n))=true then prK n lt (k (lt i j)) else none)=(if (decide (i<n)&&decide (j<n))=true then prK n lt' (k (lt' i j)) else none)
  by_cases hij:(decide (i<n)&&decide (j<n))=true
  ·rw [if_pos hij,if_pos hij,h i j (of_decide_eq_true (and_true2 hij).1) (of_decide_eq_true (and_true2 hij).2)]; exact prK_congr h _
  ·rw [if_neg hij,if_neg hij]
noncomputable def tab2 (l00 l01 l10 l11:Bool) (i j:Nat):Bool:=match i,j with
 | 0,0=>l00
 | 0,1=>l01
 | 1,0=>l10
 | _,_=>l11
noncomputable def tab3 (l00 l01 l02 l10 l11 l12 l20 l21 l22:Bool) (i j:Nat):Bool:=match i,j with
 | 0,0=>l00
 | 0,1=>l01
 | 0,2=>l02
 | 1,0=>l10
 | 1,1=>l11
 | 1,2=>l12
 | 2,0=>l20
 | 2,1=>l21
 | _,_=>l22
noncomputable def perm2 (l10:Bool):List Nat:=if l10 then [1,0] else [0,1]
noncomputable def insN (lt:Nat→Nat→Bool) (a:Nat):List Nat→List Nat
 | []=>[a]
 | b::r=>if lt b a then b::insN lt a r else a::b::r
noncomputable def perm3 (l10 l20 l21:Bool):List Nat :=
 insN (fun i j=>match i,j with | 1,0=>l10 | 2,0=>l20 | _,_=>l21) 0 (if l21 then [2,1] else [1,2])
theorem sort2_tab:∀ l00 l01 l10 l11:Bool,(!(l01&&l10))=true→(prK 2 (tab2 l00 l01 l10 l11) (kas_sort 2)).map (·.toList)=some (perm2 l10):=by decide +kernel
theorem sort3_tab:∀ l00 l01 l02 l10 l11 l12 l20 l21 l22:Bool,
  (!(l01&&l10)&&!(l02&&l20)&&!(l12&&l21)&&(!l01||l02||l21)&&(!l02||l01||l12)&&(!l10||l12||l20)&&(!l12||l10||l02)&&(!l20||l21||l10)&&(!l21||l20||l01))=true →
  (prK 3 (tab3 l00 l01 l02 l10 l11 l12 l20 l21 l22) (kas_sort 3)).map (·.toList)=some (perm3 l10 l20 l21):=by decide +kernel
noncomputable def bitKey (x:Int × Bool):Int:=2 * x.1+(if x.2 then 1 else 0)
theorem bitLt_key (x y:Int × Bool):bitLt x y=decide (bitKey x<bitKey y):=by
 obtain ⟨a,b⟩:=x
 obtain ⟨c,d⟩:=y
 rw [Bool.eq_iff_iff]
 cases b <;> cases d <;> simp [bitLt,bitKey] <;> omega
theorem bitLt_asym (x y:Int × Bool):(!(bitLt x y&&bitLt y x))=true:=by
 rw [bitLt_key,bitLt_key]
 by_cases h:bitKey x<bitKey y
 ·rw [decide_eq_true h,decide_eq_false (Int.not_lt.mpr (Int.le_of_lt h))]; rfl
 ·rw [decide_eq_false h]; rfl
theorem bitLt_neg (x y z:Int × Bool):(!bitLt x y||bitLt x z||bitLt z y)=true:=by
 rw [bitLt_key,bitLt_key,bitLt_key]
 by_cases h:bitKey x<bitKey z
 ·rw [decide_eq_true h,Bool.or_true]; rfl
 ·by_cases h2:bitKey z<bitKey y
  ·rw [decide_eq_true h2,Bool.or_true]
  ·rw [decide_eq_false (Int.not_lt.mpr (Int.le_trans (Int.not_lt.mp h2) (Int.not_lt.mp h)))]; rfl
theorem lt2 {p:Nat→Prop} {i:Nat} (h:i<2) (h0:p 0) (h1:p 1):p i:=by
 cases i with
 | zero=>exact h0
 | succ i=>cases i with
  | zero=>exact h1
  | succ i=>exact absurd h (Nat.not_lt.mpr (Nat.le_add_left 2 i))
theorem lt3 {p:Nat→Prop} {i:Nat} (h:i<3) (h0:p 0) (h1:p 1) (h2:p 2):p i:=by
 cases i with
 | zero=>exact h0
 | succ i=>exact lt2 (p:=fun i=>p (i+1)) (Nat.lt_of_succ_lt_succ h) h1 h2
theorem perm2_lt:∀ a:Bool,∀ i ∈ perm2 a,i<2:=by decide
theorem perm3_lt:∀ a b c:Bool,∀ i ∈ perm3 a b c,i<3:=by decide
section
variable {x y z:Int × Bool}
theorem ins_t {a b:Int × Bool} {r:List (Int × Bool)} (h:bitLt b a=true):insB a (b::r)=b::insB a r:=if_pos h
theorem ins_f {a b:Int × Bool} {r:List (Int × Bool)} (h:bitLt b a=false):insB a (b::r)=a::b::r:=if_neg (by rw [h]; exact Bool.false_ne_true)
theorem perm2_ok:((perm2 (bitLt y x)).map fun i=>[x,y].getD i (0,false))=sortB [x,y]:=by
 cases h:bitLt y x with
 | true=>exact (ins_t (r:=[]) h).symm
 | false=>exact (ins_f (r:=[]) h).symm
theorem perm3_ok:((perm3 (bitLt y x) (bitLt z x) (bitLt z y)).map fun i=>[x,y,z].getD i (0,false))=sortB [x,y,z]:=by
 cases h3:bitLt z y with
 | true =>
  cases h2:bitLt z x with
  | true =>
   cases h1:bitLt y x with
   | true=>exact ((congrArg (insB x) (ins_t (r:=[]) h3)).trans ((ins_t (r:=[y]) h2).trans (congrArg (z::·) (ins_t (r:=[]) h1)))).symm
   | false=>exact ((congrArg (insB x) (ins_t (r:=[]) h3)).trans ((ins_t (r:=[y]) h2).trans (congrArg (z::·) (ins_f (r:=[]) h1)))).symm
  | false=>cases h1:bitLt y x <;> exact ((congrArg (insB x) (ins_t (r:=[]) h3)).trans (ins_f (r:=[y]) h2)).symm
 | false =>
  cases h1:bitLt y x with
  | true =>
   cases h2:bitLt z x with
   | true=>exact ((congrArg (insB x) (ins_f (r:=[]) h3)).trans ((ins_t (r:=[z]) h1).trans (congrArg (y::·) (ins_t (r:=[]) h2)))).symm
   | false=>exact ((congrArg (insB x) (ins_f (r:=[]) h3)).trans ((ins_t (r:=[z]) h1).trans (congrArg (y::·) (ins_f (r:=[]) h2)))).symm
  | false=>cases h2:bitLt z x <;> exact ((congrArg (insB x) (ins_f (r:=[]) h3)).trans (ins_f (r:=[z]) h1)).symm
end
inductive SortsTo {α:Type} (lt:Nat→Nat→Bool) (n:Nat) (at_:Nat→α) (out:List α):Prop
 | mk (p:Array Nat) (h1:prK n lt (kas_sort n)=some p) (h2:(p.toList.map at_)=out) (h3:∀ i ∈ p.toList,i<n)
theorem sort2_bits (x y:Int × Bool):SortsTo (fun i j=>bitLt ([x,y].getD i (0,false)) ([x,y].getD j (0,false))) 2 (fun i=>[x,y].getD i (0,false)) (sortB [x,y]):=by
 obtain ⟨p,hp,e⟩:=Option.map_eq_some_iff.mp (sort2_tab (bitLt x x) (bitLt x y) (bitLt y x) (bitLt y y) (bitLt_asym x y))
 refine ⟨p,(prK_congr (fun i j hi hj=>lt2 (p:=fun i=>bitLt ([x,y].getD i (0,false)) ([x,y].getD j (0,false))=tab2 _ _ _ _ i j) hi
  (lt2 (p:=fun j=>bitLt x ([x,y].getD j (0,false))=tab2 _ _ _ _ 0 j) hj rfl rfl) (lt2 (p:=fun j=>bitLt y ([x,y].getD j (0,false))=tab2 _ _ _ _ 1 j) hj rfl rfl)) _).trans hp,e▸perm2_ok,e▸perm2_lt _⟩
theorem sort3_bits (x y z:Int × Bool):SortsTo (fun i j=>bitLt ([x,y,z].getD i (0,false)) ([x,y,z].getD j (0,false))) 3 (fun i=>[x,y,z].getD i (0,false)) (sortB [x,y,z]):=by
 have and8:∀ {a b:Bool},a=true→b=true→(a&&b)=true:=fun h h'=>Bool.and_eq_true_iff.mpr ⟨h,h'⟩
 obtain ⟨p,hp,e⟩:=Option.map_eq_some_iff.mp (sort3_tab (bitLt x x) (bitLt x y) (bitLt x z) (bitLt y x) (bitLt y y) (bitLt y z) (bitLt z x) (bitLt z y) (bitLt z z)
  (and8 (and8 (and8 (and8 (and8 (and8 (and8 (and8 (bitLt_asym x y) (bitLt_asym x z)) (bitLt_asym y z)) (bitLt_neg x y z)) (bitLt_neg x z y)) (bitLt_neg y x z)) (bitLt_neg y z x)) (bitLt_neg z x y)) (bitLt_neg z y x)))
 refine ⟨p,(prK_congr (fun i j hi hj=>lt3 (p:=fun i=>bitLt ([x,y,z].getD i (0,false)) ([x,y,z].getD j (0,false))=tab3 _ _ _ _ _ _ _ _ _ i j) hi
  (lt3 (p:=fun j=>bitLt x ([x,y,z].getD j (0,false))=tab3 _ _ _ _ _ _ _ _ _ 0 j) hj rfl rfl rfl) (lt3 (p:=fun j=>bitLt y ([x,y,z].getD j (0,false))=tab3 _ _ _ _ _ _ _ _ _ 1 j) hj rfl rfl rfl) (lt3 (p:=fun j=>bitLt z ([x,y,z].getD j (0,false))=tab3 _ _ _ _ _ _ _ _ _ 2 j) hj rfl rfl rfl)) _).trans hp,e▸perm3_ok,e▸perm3_lt _ _ _⟩
theorem sort_bits:∀ (bs:List (Int × Bool)),2≤bs.length→bs.length≤3→SortsTo (fun i j=>bitLt (bs.getD i (0,false)) (bs.getD j (0,false))) bs.length (fun i=>bs.getD i (0,false)) (sortB bs)
 | [],h,_=>absurd h (Nat.not_succ_le_zero _)
 | [_],h,_=>absurd (Nat.le_of_succ_le_succ h) (Nat.not_succ_le_zero _)
 | [x,y],_,_=>sort2_bits x y
 | [x,y,z],_,_=>sort3_bits x y z
 | _::_::_::_::r,_,h=>absurd (Nat.le_of_succ_le_succ (Nat.le_of_succ_le_succ (Nat.le_of_succ_le_succ h))) (Nat.not_succ_le_zero _)
section
variable {g:Glb} {A:Around} {s:Shared} {Z:Addr→Prop} {bs:List Nat} {ρ:Rho} {σ:St} {E:Value→Shared→Prop} {F:Addr→Prop} {h:Heap} {prog:Program} {w:World}
inductive BitAt (h:Heap) (v:Value) (x:Int × Bool):Prop
 | mk (X:Addr) (o:Obj) (k:Nat) (t u:Tok) (e:v = .ref X) (ho:h.get? X=some o) (hc:o.cls = .type "tuple") (hd:o.data = .seq #[.str "bit" t,.int x.1 u,.bool x.2] k)
theorem BitAt.keeps {h h':Heap} {v:Value} {x:Int × Bool} (b:BitAt h v x) (k:∀ X o,v = .ref X→h.get? X=some o→h'.get? X=some o):BitAt h' v x:=by
 cases b with
 | mk X o n t u e ho hc hd=>exact ⟨X,o,n,t,u,e,k X o e ho,hc,hd⟩
theorem tupP_some {p:PV} {l:List PV} (e:tupP p=some l):p = .tup l:=by
 cases p with
 | tup m=>exact congrArg PV.tup (Option.some.inj e)
 | _=>cases e
inductive ThreeSome {α β:Type} (l:List α) (k:α→α→α→Option β) (r:β):Prop
 | mk (a b c:α) (e:l=[a,b,c]) (h:k a b c=some r)
theorem three_some {α β:Type} {l:List α} {k:α→α→α→Option β} {r:β} (e:three l k=some r):ThreeSome l k r:=by
 rcases l with _ | ⟨a,_ | ⟨b,_ | ⟨c,_ | ⟨d,l⟩⟩⟩⟩
 ·cases e
 ·cases e
 ·cases e
 ·exact ⟨a,b,c,rfl,e⟩
 ·cases e
theorem bit3_some {a b c:PV} {x:Int × Bool} (e:bit3 a b c=some x):a = .str "bit" ∧ b = .int x.1∧c = .bool x.2:=by
 cases a with
 | str s=>cases b with
  | int n=>cases c with
   | bool t =>
    obtain ⟨h,e1⟩:=ite_some (p:=s = "bit") (k:=some (n,t)) e
    exact ⟨congrArg PV.str h,congrArg (fun y:Int × Bool=>PV.int y.1) (Option.some.inj e1),congrArg (fun y:Int × Bool=>PV.bool y.2) (Option.some.inj e1)⟩
   | _=>cases e
  | _=>cases e
 | _=>cases e
inductive BitIs (F:Addr→Prop) (h:Heap) (v:Value) (p:PV) (x:Int × Bool):Prop
 | mk (X:Addr) (e1:BitAt h v x) (e2:p=bitPV x) (e3:v = .ref X) (f:F X)
theorem bitOf_at {v:Value} {p:PV} {x:Int × Bool} (r:RP F h v p) (e:bitOf p=some x):BitIs F h v p x:=by
 have hp:∃ l,tupP p=some l∧three l bit3=some x:=by
  unfold bitOf at e
  cases hl:tupP p with
  | none=>rw [hl] at e; cases e
  | some l=>rw [hl] at e; exact ⟨l,rfl,e⟩
 obtain ⟨l,h1,h2⟩:=hp
 obtain ⟨a,b,c,e1,h3⟩:=three_some h2
 obtain ⟨e2,e3,e4⟩:=bit3_some h3
 have ep:p=bitPV x:=by rw [tupP_some h1,e1,e2,e3,e4]; rfl
 rw [ep] at r
 obtain ⟨X,vs,hv,f,t,rs⟩:=r.tup_
 obtain ⟨v1,vs1,w1,r1,rs1⟩:=rs.cons_
 obtain ⟨v2,vs2,w2,r2,rs2⟩:=rs1.cons_
 obtain ⟨v3,vs3,w3,r3,rs3⟩:=rs2.cons_
 obtain ⟨t1,x1⟩:=r1.str_
 obtain ⟨t2,x2⟩:=r2.int_
 obtain ⟨o,ho,hc,k,hd⟩:=t
 rw [w1,w2,w3,x1,x2,r3.bool_,rs3.nil_] at hd
 exact ⟨X,⟨X,o,k,t1,t2,hv,ho,hc,hd⟩,ep,hv,f⟩
theorem bit_lt {v u:Value} {x y:Int × Bool} {C:Bool→Shared→Prop} (hv:BitAt s.heap v x) (hu:BitAt s.heap u y) (K:C (bitLt x y) s):wpAny (model prog w) A (keyLt' (tuples' true) v u) C (fun _ _=>False) s:=by
 obtain ⟨X,ox,kx,t1,t2,rfl,hox,hcx,hdx⟩:=hv
 obtain ⟨Y,oy,ky,t3,t4,rfl,hoy,hcy,hdy⟩:=hu
 refine kat_lt hox hdx hoy hdy ?_
 refine kat_cons (EqAt.str_str _ _ _ _ _ _ _ _ ?_)
 rw [show (("bit" : Str) == "bit")=true by decide]
 refine kat_yes (kat_cons (EqAt.int_int _ _ _ _ _ _ _ _ ?_))
 unfold bitLt at K
 by_cases he:x.1=y.1
 ·rw [show (x.1 == y.1)=true by simpa using he]
  refine kat_yes (kat_cons (EqAt.bool_bool _ _ _ _ _ _ ?_))
  have hn:¬ x.1<y.1:=fun h=>Int.lt_irrefl _ (he▸h)
  cases h1:x.2 <;> cases h2:y.2 <;> simp only [he,hn,h1,h2] at K
  ·exact kat_yes (kat_nil (by simpa using K))
  ·refine kat_no (kat_one _ _ (lt_bool (by show C _ _; simpa [b2i] using K)))
  ·refine kat_no (kat_one _ _ (lt_bool (by show C _ _; simpa [b2i] using K)))
  ·exact kat_yes (kat_nil (by simpa using K))
 ·rw [show (x.1 == y.1)=false by simpa using he]
  refine kat_no (kat_one _ _ (PySem.P.lt_int (by show C _ _; simpa [he] using K)))
theorem bits_at {bs:List (Int × Bool)}:∀ {vs:List Value} {l:List AV},RAs ρ F h vs l→bitsOf l=some bs →
  vs.length=bs.length∧∀ i,i<bs.length→BitIs F h (vs.getD i Value.none) (bitPV (bs.getD i (0,false))) (bs.getD i (0,false))∧RA ρ F h (vs.getD i Value.none) (.pv (bitPV (bs.getD i (0,false)))):=by
 intro vs l
 revert vs bs
 induction l with
 | nil =>
  intro bs vs r e
  rw [r.nil_,← Option.some.inj e]
  exact ⟨rfl,fun i hi=>absurd hi (Nat.not_lt_zero _)⟩
 | cons x l ih =>
  intro bs vs r e
  obtain ⟨v,vs',rfl,a,b⟩:=r.cons_
  have hx:∃ p y ys,x = .pv p∧bitOf p=some y∧bitsOf l=some ys∧y::ys=bs:=by
   cases x with
   | pv p =>
    simp only [bitsOf,asP] at e
    cases h1:bitOf p with
    | none=>rw [h1] at e; cases e
    | some y=>cases h2:bitsOf l with
     | none=>rw [h1,h2] at e; cases e
     | some ys=>rw [h1,h2] at e; exact ⟨p,y,ys,rfl,h1,rfl,Option.some.inj e⟩
   | _=>cases e
  obtain ⟨p,y,ys,rfl,h1,h2,rfl⟩:=hx
  obtain ⟨q1,q2⟩:=ih b h2
  have z:=bitOf_at a.pv_ h1
  obtain ⟨X,z1,z2,z3,z4⟩:=z
  refine ⟨congrArg (· + 1) q1,fun i hi=>?_⟩
  cases i with
  | zero=>exact ⟨⟨X,z1,rfl,z3,z4⟩,(z2▸a:RA ρ F h v (.pv (bitPV y)))⟩
  | succ i=>exact q2 i (Nat.lt_of_succ_lt_succ hi)
theorem bits_firsts:∀ (l:List Value),(∀ v ∈ l,∃ x,BitAt h v x)→∃ fs,KatTups h l fs∧fs.length=l.length∧∀ v ∈ fs,∃ t,v = .str "bit" t
 | [],_=>⟨[],KatTups.nil,rfl,fun v hv=>by simp at hv⟩
 | v::l,hv=>by
  obtain ⟨fs,h1,h2,h3⟩:=bits_firsts l fun v hv'=>hv v (.tail _ hv')
  obtain ⟨x,X,o,k,t,u,rfl,ho,hc,hd⟩:=hv v (.head _)
  refine ⟨.str "bit" t::fs,KatTups.cons ho hc hd (by simp) h1,by simp [h2],fun v hv=>?_⟩
  rcases List.mem_cons.mp hv with rfl | hv
  ·exact ⟨t,rfl⟩
  ·exact h3 v hv
theorem short_out:∀ (vs:List Value),vs.length<2→(((List.range vs.length).toArray.toList.map fun i=>vs.getD i Value.none)).toArray=((vs.toArray.zip vs.toArray).map (·.2))
 | [],_=>by simp
 | [x],_=>by simp [List.range_succ]
 | x::y::r,h=>absurd h (Nat.not_lt.mpr (Nat.le_add_left 2 r.length))
theorem short_bits:∀ (bs:List (Int × Bool)),bs.length<2→((List.range bs.length).toArray.toList.map fun i=>bs.getD i (0,false))=sortB bs
 | [],_=>rfl
 | [x],_=>rfl
 | x::y::r,h=>absurd h (by simp)
theorem sort_bits_tree {a:Addr} {vs:List Value} {bits:List (Int × Bool)} {n:Nat} {P:Fin→Shared→Prop} (ho:s.heap.get? a=some (seqObj "list" vs.toArray n)) (hl:vs.length=bits.length)
  (hb:∀ i,i<bits.length→BitAt s.heap (vs.getD i Value.none) (bits.getD i (0,false))∧vs.getD i Value.none ≠ .ref a) (h3:bits.length≤3)
  (h:∀ p:Array Nat,(∀ i ∈ p.toList,i<bits.length)→(p.toList.map fun i=>bits.getD i (0,false))=sortB bits →
   P (.done (.ret .none)) { s with heap:=sortedHeap s.heap a vs (p.toList.map fun i=>vs.getD i Value.none).toArray }) :
  wpAny (model prog w) A (Builtin.«list.sort» ⟨[.ref a],[]⟩) P E s:=by
 rw [list_sort_plain]
 have ha:a<s.heap.objs.size:=Heap.lt_size ho
 have l3:∀ {n:Nat},3≤n→vs.length≤n:=fun h=>Nat.le_trans (hl▸h3) h
 refine wpAny_bind (listItems_at ho rfl ?_)
 refine wpAny_bind (listUpdate_at ho rfl ?_ (by rw [List.size_toArray,sizeLine_eq]; exact l3 (by decide)) (Nat.zero_le _))
 obtain ⟨e1,ho1⟩:∃ e1,(s.heap.update a (Obj.mapSeq fun _=>(#[]:Array Value))).get? a=some (seqObj "list" #[] e1):=⟨_,get?_update_seq ho (fun _=>#[])⟩
 refine wpAny_bind (seqEpoch_at ho1 rfl ?_)
 refine wpAny_bind (wpAny_newTuple ?_ (by show vs.length≤_; rw [sizeLine_eq]; exact l3 (by decide)))
 refine wpAny_bind (wpAny_newList ?_ (Nat.zero_le _))
 refine wpAny_holding ?_
 have ho6:(((s.heap.update a (Obj.mapSeq fun _=>(#[]:Array Value))).push (seqObj "tuple" vs.toArray 0)).push (seqObj "list" #[] 0)).get? a=some (seqObj "list" #[] e1):=by
  rw [Heap.get?_push_ne _ _ _ (by rw [PyProof.Rows.size_push',Heap.size_update]; exact Nat.ne_of_lt (Nat.lt_succ_of_lt ha)),Heap.get?_push_ne _ _ _ (by rw [Heap.size_update]; exact Nat.ne_of_lt ha)]
  exact ho1
 have kept:∀ b o,b ≠ a→s.heap.get? b=some o→(((s.heap.update a (Obj.mapSeq fun _=>(#[]:Array Value))).push (seqObj "tuple" vs.toArray 0)).push (seqObj "list" #[] 0)).get? b=some o:=fun b o hne e =>
  Heap.get?_push_of_some _ (Heap.get?_push_of_some _ (by rw [Heap.get?_update_ne _ _ _ _ hne]; exact e))
 show wpAny (model prog w) A _ P E { s with heap:=((s.heap.update a (Obj.mapSeq fun _=>(#[]:Array Value))).push (seqObj "tuple" vs.toArray 0)).push (seqObj "list" #[] 0) }
 dsimp only
 have hb':∀ i,i<bits.length→BitAt (((s.heap.update a (Obj.mapSeq fun _=>(#[]:Array Value))).push (seqObj "tuple" vs.toArray 0)).push (seqObj "list" #[] 0)) (vs.getD i Value.none) (bits.getD i (0,false)):=fun i hi =>
  (hb i hi).1.keeps fun X o e ho=>kept X o (fun q=>(hb i hi).2 (by rw [e,q])) ho
 by_cases h2:vs.toArray.size<2
 ·rw [if_pos h2,if_pos h2]
  refine wpAny_bind (wpAny_pure ?_)
  rw [StateT.run_pure]
  refine wpAny_bind (wpAny_pure ?_)
  dsimp only
  refine wpAny_bind (seqEpoch_at ho6 rfl ?_)
  refine wpAny_bind (listUpdate_at ho6 rfl ?_ (Nat.zero_le _) (hsz2:=by rw [Array.size_map]; show (vs.toArray.zip vs.toArray).size≤_; rw [Array.size_zip,sizeLine_eq,Nat.min_self]; exact l3 (by decide)))
  simp only [bne_self_eq_false,Bool.false_eq_true,if_false]
  rw [List.size_toArray] at h2
  have hlt:bits.length<2:=hl▸h2
  have:=h (List.range bits.length).toArray (fun i hi=>by simpa using hi) (short_bits bits hlt)
  have e0:(((List.range bits.length).toArray.toList.map fun i=>vs.getD i Value.none)).toArray=((vs.toArray.zip vs.toArray).map (·.2)):=by
   rw [← hl]; exact short_out vs h2
  rw [e0] at this
  exact wpAny_pure this
 ·rw [if_neg h2,if_neg h2]
  rw [List.size_toArray] at h2
  have hall:∀ v ∈ vs,∃ x,BitAt (((s.heap.update a (Obj.mapSeq fun _=>(#[]:Array Value))).push (seqObj "tuple" vs.toArray 0)).push (seqObj "list" #[] 0)) v x:=fun v hv=>by
   obtain ⟨i,hi,rfl⟩:=List.mem_iff_getElem.mp hv
   have:=hb' i (hl▸hi)
   rw [show vs.getD i Value.none=vs[i] by simp [hi]] at this
   exact ⟨_,this⟩
  obtain ⟨fs,hkt,hfl,hfs⟩:=bits_firsts vs hall
  refine wpAny_bind (kat_kind hkt (hfl▸Nat.lt_of_lt_of_le (by decide) (Nat.le_of_not_lt h2)) (T:=.type "str") (fun v hv=>?_) (by decide) ?_)
  ·obtain ⟨t,rfl⟩:=hfs v hv
   exact Looks.of_pure rfl
  obtain ⟨p,hp1,hp2,hp3⟩:=sort_bits bits (hl▸Nat.le_of_not_lt h2) h3
  have hask:(kas_sort vs.length).kasWp (kas_ask prog w A (tuples' ((.type "str" : Value) != Value.type "tuple")) vs)
    (fun p' s'=>p'=p∧s' = { s with heap:=((s.heap.update a (Obj.mapSeq fun _=>(#[]:Array Value))).push (seqObj "tuple" vs.toArray 0)).push (seqObj "list" #[] 0) })
    { s with heap:=((s.heap.update a (Obj.mapSeq fun _=>(#[]:Array Value))).push (seqObj "tuple" vs.toArray 0)).push (seqObj "list" #[] 0) }:=by
   rw [hl]
   refine prK_wp (fun i j C hi hj hC=>?_) _ p hp1 ⟨rfl,rfl⟩
   show wpAny (model prog w) A (keyLt' (tuples' true) (vs.getD i Value.none) (vs.getD j Value.none)) C (fun _ _=>False) _
   exact bit_lt (hb' i hi) (hb' j hj) hC
  refine wpAny_bind (wpAny_mono (kat_run (vs:=vs) (ks:=vs) (Q:=fun st' s'=>arrOf st'=p.map (kas_item (vs.toArray.zip vs.toArray))∧failedOf st'=none∧p.size=vs.length∧s' = { s with heap:=((s.heap.update a (Obj.mapSeq fun _=>(#[]:Array Value))).push (seqObj "tuple" vs.toArray 0)).push (seqObj "list" #[] 0) })
   rfl (Nat.le_of_not_lt h2) (Nat.lt_succ_of_le (l3 (by decide))) (fun p' st' s' a1 a2 a3 a4=>by obtain ⟨rfl,rfl⟩:=a4; exact ⟨a2,a3,a1,rfl⟩) hask) ?_ fun _ _ e=>e)
  rintro ⟨⟨⟩,st'⟩ s' ⟨har,hf,hps,rfl⟩
  dsimp only
  have hout:=kat_snds (vs:=vs) (ks:=vs) rfl har
  have hsz:(List.toArray (p.toList.map fun i=>vs.getD i Value.none)).size=vs.length:=by rw [List.size_toArray,List.length_map,Array.length_toList,hps]
  rw [hout]
  refine wpAny_bind (seqEpoch_at ho6 rfl ?_)
  refine wpAny_bind (listUpdate_at ho6 rfl ?_ (Nat.zero_le _) (Nat.le_trans (Nat.le_of_eq hsz) (by rw [sizeLine_eq]; exact l3 (by decide))))
  rw [hf]
  simp only [bne_self_eq_false,Bool.false_eq_true,if_false]
  exact wpAny_pure (h p hp3 hp2)
end
section
variable {g:Glb} {A:Around} {s:Shared} {Z:Addr→Prop} {bs:List Nat} {ρ:Rho} {σ:St} {E:Value→Shared→Prop} {F:Addr→Prop} {h:Heap} {prog:Program} {w:World}
theorem sorted_bits {l:Addr} {vs:List Value} {bits:List (Int × Bool)} {Q:Value→Shared→Prop} (hl:s.heap.IsList l vs.toArray) (hlen:vs.length=bits.length)
  (hb:∀ i,i<bits.length→BitAt s.heap (vs.getD i Value.none) (bits.getD i (0,false))) (h3:bits.length≤3)
  (h:∀ p:Array Nat,(∀ i ∈ p.toList,i<bits.length)→(p.toList.map fun i=>bits.getD i (0,false))=sortB bits→Q (.ref (s.heap.objs.size+1)) { s with heap:=sortedAll s.heap vs (p.toList.map fun i=>vs.getD i Value.none).toArray }) :
  wpAny (model prog w) A (call (.builtin "sorted") [.ref l]) Q E s:=by
 refine Calls.call_function_entry kind_sorted plain_sorted entry_sorted (args_sorted1 _) ?_
 unfold Builtin.«sorted»
 refine wpAny_bind (m:=checkCount "sorted" 1 1 _) (wpAny_pure ?_)
 refine wpAny_bind (collect_list hl ?_ (by rw [sizeLine_eq]; exact Nat.le_trans (Nat.le_of_eq hlen) (Nat.le_trans h3 (by decide))))
 refine wpAny_bind (wpAny_newList ?_ (by rw [sizeLine_eq]; exact Nat.le_trans (Nat.le_of_eq hlen) (Nat.le_trans h3 (by decide))))
 have hsz:((s.heap.push (seqObj "list" #[] 0)).update s.heap.objs.size (Obj.mapSeq (· ++ vs.toArray))).objs.size=s.heap.objs.size+1:=by
  rw [Heap.size_update,PyProof.Rows.size_push']
 have hoL:(((s.heap.push (seqObj "list" #[] 0)).update s.heap.objs.size (Obj.mapSeq (· ++ vs.toArray))).push (seqObj "list" vs.toArray 0)).get? (s.heap.objs.size+1)=some (seqObj "list" vs.toArray 0):=by
  rw [← hsz]; exact Heap.get?_push_size _ rfl
 have keep:∀ b o,s.heap.get? b=some o→(((s.heap.push (seqObj "list" #[] 0)).update s.heap.objs.size (Obj.mapSeq (· ++ vs.toArray))).push (seqObj "list" vs.toArray 0)).get? b=some o:=fun b o q=>by
  have hlt:b<s.heap.objs.size:=Heap.lt_size q
  rw [Heap.get?_push_ne _ _ _ (by rw [hsz]; exact Nat.ne_of_lt (Nat.lt_succ_of_lt hlt)),Heap.get?_update_ne _ _ _ _ (Nat.ne_of_lt hlt),Heap.get?_push_ne _ _ _ (Nat.ne_of_lt hlt)]
  exact q
 show wpAny _ _ _ _ _ { s with heap:=((s.heap.push (seqObj "list" #[] 0)).update s.heap.objs.size (Obj.mapSeq (· ++ vs.toArray))).push (seqObj "list" vs.toArray 0) }
 rw [hsz]
 refine wpAny_bind (wpAny_holding (wpAny_call_entry slot_list_sort ⟨_,hoL,rfl⟩ entry_list_sort (sort_bits_tree hoL hlen (fun i hi=>⟨(hb i hi).keeps fun X o _ ho=>keep X o ho,fun e=>?_⟩) h3 fun p a1 a2=>⟨_,rfl,?_⟩) (args_list_sort _)))
 ·obtain ⟨X,o,k,t,u,e',ho,_,_⟩:=hb i hi
  rw [e'] at e
  have hlt:=Heap.lt_size ho
  simp only [Value.ref.injEq] at e
  exact Nat.lt_irrefl _ (Nat.lt_trans (Nat.lt_succ_self _) (e▸hlt))
 ·exact wpAny_pure ⟨_,rfl,h p a1 a2⟩
theorem intsAre_RAs {vs:List Value} {ns:List Int} (r:IntsAre vs ns):RAs ρ F h vs ((intsAV ns).map .pv):=by
 induction r with
 | nil=>exact .nil
 | cons n t _ ih=>exact .cons (.pv (.int _ _)) ih
theorem RAs_intsAre {ns:List Int}:∀ {l:List AV} {vs:List Value},RAs ρ F h vs l→allInts l=some ns→IntsAre vs ns:=by
 intro l
 revert ns
 induction l with
 | nil=>intro ns vs r e; rw [r.nil_,← Option.some.inj e]; exact .nil
 | cons x l ih =>
  intro ns vs r e
  obtain ⟨v,vs',rfl,a,b⟩:=r.cons_
  cases x with
  | pv p=>cases p with
   | int i =>
    obtain ⟨ns',h1,rfl⟩:=Option.map_eq_some_iff.mp (show (allInts l).map (i::·)=some ns from e)
    obtain ⟨t,rfl⟩:=a.int_
    exact .cons _ _ (ih b h1)
   | _=>cases e
  | _=>cases e
theorem insI_perm (a:Int):∀ l:List Int,(insI a l).Perm (a::l)
 | []=>.refl _
 | b::r=>by
  unfold insI
  split
  ·exact .refl _
  ·exact ((insI_perm a r).cons b).trans (.swap _ _ _)
theorem sortI_perm:∀ l:List Int,(sortI l).Perm l
 | []=>.refl _
 | a::r=>(insI_perm a (sortI r)).trans ((sortI_perm r).cons a)
theorem insI_sorted (a:Int):∀ l:List Int,l.Pairwise (· ≤ ·)→(insI a l).Pairwise (· ≤ ·)
 | [],_=>by simp [insI]
 | b::r,h=>by
  unfold insI
  rw [List.pairwise_cons] at h
  split
  ·rename_i hab
   refine List.pairwise_cons.mpr ⟨fun x hx=>?_,List.pairwise_cons.mpr h⟩
   rcases List.mem_cons.mp hx with rfl | hx
   ·exact hab
   ·exact Int.le_trans hab (h.1 x hx)
  ·rename_i hab
   refine List.pairwise_cons.mpr ⟨fun x hx=>?_,insI_sorted a r h.2⟩
   rcases List.mem_cons.mp ((insI_perm a r).mem_iff.mp hx) with rfl | hx
   ·exact Int.le_of_lt (Int.not_le.mp hab)
   ·exact h.1 x hx
theorem sortI_sorted:∀ l:List Int,(sortI l).Pairwise (· ≤ ·)
 | []=>.nil
 | a::r=>insI_sorted a _ (sortI_sorted r)
theorem sortI_uniq {a l:List Int} (p:a.Perm l) (o:a.Pairwise (· ≤ ·)):a=sortI l:=ksm_same (p.trans (sortI_perm l).symm) o (sortI_sorted l)
theorem sortedHeap_new {h:Heap} {a b:Addr} {o:Obj} {vs:List Value} {out:Array Value} (hb:b ≠ a) (e:h.get? b=some o):(sortedHeap h a vs out).get? b=some o:=by
 rw [sortedHeap_old hb (Heap.lt_size e)]; exact e
inductive SortCase (l:List AV) (r:List PV):Prop
 | iCase (is:List Int) (h:allInts l=some is) (h3:is.length≤3) (e:r=intsAV (sortI is))
 | bCase (bs:List (Int × Bool)) (h:bitsOf l=some bs) (h3:bs.length≤3) (e:r=(sortB bs).map bitPV)
theorem sortAV_case {l:List AV} {r:List PV} (e:sortAV l=some r):SortCase l r:=by
 unfold sortAV at e
 cases h:allInts l with
 | some is =>
  rw [h] at e
  obtain ⟨h3,e1⟩:=ite_some (p:=is.length≤3) (k:=some (intsAV (sortI is))) e
  exact .iCase is h h3 (Option.some.inj e1).symm
 | none =>
  rw [h] at e
  cases h2:bitsOf l with
  | some bs =>
   rw [h2] at e
   obtain ⟨h3,e1⟩:=ite_some (p:=bs.length≤3) (k:=some ((sortB bs).map bitPV)) e
   exact .bCase bs h2 h3 (Option.some.inj e1).symm
  | none=>rw [h2] at e; cases e
theorem bits_out {vs:List Value} {bits:List (Int × Bool)} (hat:∀ i,i<bits.length→RA ρ F h (vs.getD i Value.none) (.pv (bitPV (bits.getD i (0,false))))) {p:List Nat} (hp1:∀ i ∈ p,i<bits.length) (hp2:(p.map fun i=>bits.getD i (0,false))=sortB bits) :
  RAs ρ F h (p.map fun i=>vs.getD i Value.none) (((sortB bits).map bitPV).map .pv):=by
 have key:∀ q:List Nat,(∀ i ∈ q,i<bits.length)→RAs ρ F h (q.map fun i=>vs.getD i Value.none) (((q.map fun i=>bits.getD i (0,false)).map bitPV).map .pv):=by
  intro q
  induction q with
  | nil=>intro _; exact .nil
  | cons i q ih=>intro hq; exact .cons (hat i (hq i (.head _))) (ih fun j hj=>hq j (.tail _ hj))
 exact hp2▸key p hp1
theorem ints_out {out:Array Value} {is ns:List Int} (a1:IntsAre out.toList ns) (a2:ns.Perm is) (a3:ns.Pairwise (· ≤ ·)):RAs ρ F h out.toList ((intsAV (sortI is)).map .pv):=sortI_uniq a2 a3▸intsAre_RAs a1
theorem toPVs_pv:∀ r:List PV,toPVs (r.map .pv)=some r
 | []=>rfl
 | x::r=>congrArg (Option.map (x::·)) (toPVs_pv r)
theorem mkLst_pv (r:List PV):mkLst (r.map .pv) = .pv (.lst r):=by rw [mkLst,toPVs_pv]
theorem sort_made {vs:List Value} {l:List AV} {r:List PV} {a:Addr} {n:Nat} {P:Fin→Shared→Prop} (ho:s.heap.get? a=some (seqObj "list" vs.toArray n)) (ha:¬ F a) (rs:RAs ρ F s.heap vs l) (e:sortAV l=some r)
  (K:∀ out:List Value,RAs ρ F s.heap out (r.map .pv)→P (.done (.ret .none)) { s with heap:=sortedHeap s.heap a vs out.toArray }):wpAny (model prog w) A (Builtin.«list.sort» ⟨[.ref a],[]⟩) P E s:=by
 cases sortAV_case e with
 | iCase is his h3 er =>
  have hI:=RAs_intsAre rs his
  have hlen:vs.length=is.length:=hI.length
  refine list_sort_tree ho hI (Nat.lt_of_le_of_lt (Nat.le_trans (Nat.le_of_eq hlen) h3) (by decide)) fun out ns' a1 a2 a3=>?_
  exact K out.toList (er▸ints_out a1 a2 a3)
 | bCase bs hb h3 er =>
  obtain ⟨hlen,hat⟩:=bits_at rs hb
  refine sort_bits_tree ho hlen (fun i hi=>⟨?_,fun e=>?_⟩) h3 fun p hp1 hp2=>K _ (er▸bits_out (fun i hi=>(hat i hi).2) hp1 hp2)
  ·obtain ⟨_,z,_,_,_⟩:=(hat i hi).1; exact z
  ·obtain ⟨X,_,_,e',hF⟩:=(hat i hi).1
   exact ha (Value.ref.inj (e'.symm.trans e)▸hF)
theorem op_sort {va:Value} {i:Nat} {l:List AV} {r:List PV} {Q:Value→Shared→Prop} (R:Rel g Z bs ρ σ s.heap) (ra:RA ρ (Fz Z ρ σ) s.heap va (.ref i)) (hi:σ.heap[i]? = some (.list l)) (e:sortAV l=some r)
  (K:Done g Z bs ρ σ s (.pv .none) (σ.set i (.list (r.map .pv))) Q):wpAny (model g.prog g.w) A (call (.builtin "list.sort") [va]) Q E s:=by
 obtain ⟨a,m,rfl,q⟩:=ra.ref_
 obtain ⟨vs,rfl,x,y⟩:=(R.objs q hi).list_
 obtain ⟨n,ho⟩:=x
 have ha:¬ Fz Z ρ σ a:=fun f=>f.2 ⟨i,[a],_,q,hi,(fun x=>nomatch x),.head _⟩
 refine wpAny_call_entry slot_list_sort ⟨_,ho,rfl⟩ entry_list_sort (sort_made ho ha y e fun out ro=>⟨_,rfl,?_⟩) (args_list_sort _)
 obtain ⟨n',hat⟩:=sortedHeap_at (vs:=vs) (out:=out.toArray) ho
 have keep:∀ b ob,b ∉ [a]→s.heap.get? b=some ob→(sortedHeap s.heap a vs out.toArray).get? b=some ob:=fun b ob hb e=>sortedHeap_new (by simpa using hb) e
 have z:=Rel.set (s':={ s with heap:=sortedHeap s.heap a vs out.toArray }) (o':=.list (r.map .pv)) R q hi (fun x=>nomatch x) (fun x=>nomatch x) keep (fun b lb=>by
   by_cases hb:b=a
   ·rw [hb]; exact ⟨_,hat⟩
   ·obtain ⟨ob,e⟩:=lb; exact ⟨ob,keep b ob (by simpa using hb) e⟩) rfl rfl
  (fun hne n hn hin=>?_) (fun kA _=>.list (vs:=out) ⟨n',hat⟩ ?_)
 ·exact K _ _ ρ z.1 z.2 (.pv .none)
 ·simp only [AObj.under,AVs.under_iff]
  intro x hx
  obtain ⟨p,_,rfl⟩:=List.mem_map.mp hx
  trivial
 ·exact ro.mono (fun _ _ _ e=>e) fun b o e f _=>⟨sortedHeap_new (fun q=>ha (by rw [← q]; exact f)) e,f⟩
theorem op_sorted {va:Value} {v:AV} {l:List AV} {r:List PV} {Q:Value→Shared→Prop} (R:Rel g Z bs ρ σ s.heap) (ra:RA ρ (Fz Z ρ σ) s.heap va v) (hi:itemsOf σ v=some l) (hv:isLstV v=true) (e:sortAV l=some r)
  (K:Done g Z bs ρ σ s (.pv (.lst r)) σ Q):wpAny (model g.prog g.w) A (call (.builtin "sorted") [va]) Q E s:=by
 obtain ⟨a,vs,rfl,rs,hl⟩:=items_list R ra hi hv
 have fin:∀ out:List Value,RAs ρ (Fz Z ρ σ) s.heap out (r.map .pv)→Q (.ref (s.heap.objs.size+1)) { s with heap:=sortedAll s.heap vs out.toArray }:=fun out ro=>by
  obtain ⟨n',hat⟩:=sortedAll_at s.heap vs out.toArray
  have q:=R.notFootNew (lv_out (h:=s.heap) (b:=s.heap.objs.size+1) (Nat.le_succ _))
  have q2:RA ρ (Fz Z ρ σ) (sortedAll s.heap vs out.toArray) (.ref (s.heap.objs.size+1)) (mkLst (r.map .pv)) :=
   .mkLst q ⟨_,hat,rfl,_,rfl⟩ (ro.mono (fun _ _ _ e=>e) fun b o e f _=>⟨sortedAll_old e,f⟩)
  rw [mkLst_pv] at q2
  exact K.grown R _ (fun b o e=>sortedAll_old e) q2
 cases sortAV_case e with
 | iCase is his h3 er =>
  have hI:=RAs_intsAre rs his
  have hlen:vs.length=is.length:=hI.length
  refine sorted_ints hl hI (Nat.lt_of_le_of_lt (Nat.le_trans (Nat.le_of_eq hlen) h3) (by decide)) fun out ns' a1 a2 a3=>?_
  exact fin out.toList (er▸ints_out a1 a2 a3)
 | bCase bs hb h3 er =>
  obtain ⟨hlen,hat⟩:=bits_at rs hb
  refine sorted_bits hl hlen (fun i hi=>?_) h3 fun p hp1 hp2=>fin _ (er▸bits_out (fun i hi=>(hat i hi).2) hp1 hp2)
  obtain ⟨_,z,_,_,_⟩:=(hat i hi).1; exact z
end
mutual
theorem PV.same_eq:∀ (a b:PV),a.same b=true→a=b
 | .none,b,h=>by cases b <;> first | rfl | exact (Bool.false_ne_true h).elim
 | .bool a,b,h=>by cases b <;> first | exact congrArg PV.bool (beq_iff_eq.mp h) | exact (Bool.false_ne_true h).elim
 | .int a,b,h=>by cases b <;> first | exact congrArg PV.int (beq_iff_eq.mp h) | exact (Bool.false_ne_true h).elim
 | .str a,b,h=>by cases b <;> first | exact congrArg PV.str (beq_iff_eq.mp h) | exact (Bool.false_ne_true h).elim
 | .tup a,b,h=>by cases b with
  | tup b=>exact congrArg PV.tup (PV.sames_eq a b h)
  | _=>exact (Bool.false_ne_true h).elim
 | .lst a,b,h=>by cases b with
  | lst b=>exact congrArg PV.lst (PV.sames_eq a b h)
  | _=>exact (Bool.false_ne_true h).elim
theorem PV.sames_eq:∀ (a b:List PV),PV.sames a b=true→a=b
 | [],b,h=>by cases b <;> first | rfl | exact (Bool.false_ne_true h).elim
 | a::l,b,h=>by cases b with
  | nil=>exact (Bool.false_ne_true h).elim
  | cons b m=>have h:=and_true2 h; rw [PV.same_eq a b h.1,PV.sames_eq l m h.2]
end
mutual
theorem AV.same_eq:∀ (a b:AV),a.same b=true→a=b
 | .pv a,b,h=>by cases b with
  | pv b=>exact congrArg AV.pv (PV.same_eq a b h)
  | _=>exact (Bool.false_ne_true h).elim
 | .ref a,b,h=>by cases b with
  | ref b=>exact congrArg AV.ref (beq_iff_eq.mp h)
  | _=>exact (Bool.false_ne_true h).elim
 | .tupR a,b,h=>by cases b with
  | tupR b=>exact congrArg AV.tupR (AV.sames_eq a b h)
  | _=>exact (Bool.false_ne_true h).elim
 | .lstR a,b,h=>by cases b with
  | lstR b=>exact congrArg AV.lstR (AV.sames_eq a b h)
  | _=>exact (Bool.false_ne_true h).elim
theorem AV.sames_eq:∀ (a b:List AV),AV.sames a b=true→a=b
 | [],b,h=>by cases b <;> first | rfl | exact (Bool.false_ne_true h).elim
 | a::l,b,h=>by cases b with
  | nil=>exact (Bool.false_ne_true h).elim
  | cons b m=>have h:=and_true2 h; rw [AV.same_eq a b h.1,AV.sames_eq l m h.2]
end
noncomputable abbrev Zu (Z X:Addr→Prop):Addr→Prop:=fun b=>Z b∨X b
section
variable {g:Glb} {A:Around} {s:Shared} {Z:Addr→Prop} {bs:List Nat} {ρ:Rho} {σ:St} {E:Value→Shared→Prop} {F:Addr→Prop} {h:Heap} {prog:Program} {w:World}
theorem items_kept {x:AV} {l:List AV} {σ':St} (e:itemsOf σ x=some l) (hk:heldOk (heldOf σ x) σ'=true):itemsOf σ' x=some l:=by
 cases x with
 | ref i =>
  simp only [itemsOf] at e ⊢
  split at e
  ·rename_i l' hl
   cases e
   simp only [heldOf,hl,heldOk,List.all_cons,List.all_nil,Bool.and_true,listIs] at hk
   split at hk
   ·rename_i l'' hl''
    first | exact congrArg some (AV.sames_eq _ _ hk) | (rw [hl'',AV.sames_eq _ _ hk])
   ·cases hk
  ·cases e
 | pv p=>cases p <;> first | exact e | (simp [itemsOf] at e)
 | tupR l=>exact e
 | lstR l=>exact e
theorem Rel.done {X:Addr→Prop} {h':Heap} (R:Rel g (Zu Z X) bs ρ σ h) (hd:∀ b,Z b→¬ X b) (k:∀ b o,h.get? b=some o→¬ X b→h'.get? b=some o):Rel g Z bs ρ σ h' where
 len:=R.len
 objs e1 e2:=(R.objs e1 e2).mono (fun _ _ _ e=>e) (fun b o e f _=>⟨k b o e (fun x=>f.1 (.inr x)),fun z=>f.1 (.inl z),f.2⟩) fun b hb o e=>k b o e fun x=>(R.addrs e1 hb).2.2 (.inr x)
 apart:=R.apart
 addrs e m:=have q:=R.addrs e m; ⟨q.1,(let ⟨o,e⟩:=q.2.1; ⟨o,k _ _ e fun x=>q.2.2 (.inr x)⟩),fun z=>q.2.2 (.inl z)⟩
 zlt q:=⟨(R.zlt (.inl q)).1,(let ⟨o,e⟩:=(R.zlt (.inl q)).2; ⟨o,k _ _ e (hd _ q)⟩)⟩
 keep b o e:=k b o (R.keep b o e) fun x=>(R.zlt (.inr x)).1 ⟨_,e⟩
 bars:=R.bars
 strict:=R.strict
theorem RA.done {X:Addr→Prop} {h':Heap} {v:Value} {x:AV} (r:RA ρ (Fz (Zu Z X) ρ σ) h v x) (k:∀ b o,h.get? b=some o→¬ X b→h'.get? b=some o):RA ρ (Fz Z ρ σ) h' v x :=
 r.mono (fun _ _ _ e=>e) fun b o e f _=>⟨k b o e (fun x=>f.1 (.inr x)),fun z=>f.1 (.inl z),f.2⟩
theorem RAs.done {X:Addr→Prop} {h':Heap} {v:List Value} {x:List AV} (r:RAs ρ (Fz (Zu Z X) ρ σ) h v x) (k:∀ b o,h.get? b=some o→¬ X b→h'.get? b=some o):RAs ρ (Fz Z ρ σ) h' v x :=
 r.mono (fun _ _ _ e=>e) fun b o e f _=>⟨k b o e (fun x=>f.1 (.inr x)),fun z=>f.1 (.inl z),f.2⟩
theorem Post.inX {X:Addr→Prop} {s s':Shared} (k:∀ b o,s.heap.get? b=some o→¬ X b→s'.heap.get? b=some o) (hg:s'.gens=s.gens) (ho:s'.os=s.os):Post X ρ σ s ρ σ s' :=
 ⟨fun _ _ e=>e,fun b o e x _=>k b o e x,fun _ _ _ q=>q,fun b l x=>let ⟨o,e⟩:=l; ⟨o,k b o e x⟩,hg,ho,rfl⟩
structure IterOk (g:Glb) (A:Around) (target:Expr) (it:Addr) (X Z:Addr→Prop) (held:List (Nat × List AV)) (S:List AV→Rho→St→Heap→Prop):Prop where
 turn:∀ {items:List AV} {bs:List Nat} {ρ:Rho} {σ:St} {s:Shared} {E:Value→Shared→Prop} (N:Shared→Prop) (Y:AV→List AV→Value→Shared→Prop),Rel g (Zu Z X) bs ρ σ s.heap→S items ρ σ s.heap →
  (items=[]→∀ s',Rel g Z bs ρ σ s'.heap→Post X ρ σ s ρ σ s'→N s') →
  (∀ x r,items=x::r→∀ v s',Rel g (Zu Z X) bs ρ σ s'.heap→Post X ρ σ s ρ σ s'→RA ρ (Fz (Zu Z X) ρ σ) s'.heap v x→S r ρ σ s'.heap→Y x r v s') →
  wpAny (model g.prog g.w) A (pyNext (.ref it)) (fun r s1=>match r with
   | none=>items=[]∧N s1
   | some v=>wpAny (model g.prog g.w) A (letOwnedTupleGo target (.ref it) v) (fun _ s2=>∃ x r,items=x::r∧Y x r v s2) E s1) E s
 keep:∀ {items:List AV} {bs:List Nat} {ρ ρ':Rho} {σ σ':St} {s s':Shared} {Y:Addr→Prop},Rel g (Zu Z X) bs ρ σ s.heap→S items ρ σ s.heap→Post Y ρ σ s ρ' σ' s'→(∀ b,Y b→Zu Z X b∧¬ X b)→heldOk held σ'=true→S items ρ' σ' s'.heap
 self:∀ {items:List AV} {ρ:Rho} {σ:St} {s:Shared} {E:Value→Shared→Prop} {Q:Value→Shared→Prop},S items ρ σ s.heap→Q (.ref it) s→wpAny (model g.prog g.w) A (pyIter (.ref it)) Q E s
theorem letGo_plain {target:Expr} {it:Addr} {v:Value} {o:Obj} {n:String} {Q:Unit→Shared→Prop} {M:Model} (ho:s.heap.get? it=some o) (hc:o.cls = .type n)
  (hn:["enumerate", "zip", "dict_itemiterator", "dict_reverseitemiterator", "odict_iterator", "itertools.zip_longest", "itertools.pairwise"].contains n=false) (h:Q () s) :
  wpAny M A (letOwnedTupleGo target (.ref it) v) Q E s:=by
 have key:wpAny M A (do
   let (.ref r,.ref a):=((.ref it,v):Value × Value) | return
   let o ← load r
   match o.cls,o.data with
   | .type n,.fields vs =>
    if ["enumerate", "zip", "dict_itemiterator", "dict_reverseitemiterator", "odict_iterator", "itertools.zip_longest", "itertools.pairwise"].contains n&&vs[0]? == some (rawInt a) then
     rule "for.unpacks-the-owned-tuple"
     updateField r 0 .none
   | _,_=>pure ():Sem Unit) Q E s:=by
  cases v with
  | ref a =>
   refine wpAny_bind (wpAny_load ho ?_)
   obtain ⟨c,d,dt,sl⟩:=o
   simp only at hc; subst hc
   cases dt with
   | fields vs =>
    dsimp only
    rw [hn,Bool.false_and,if_neg Bool.false_ne_true]
    exact wpAny_pure h
   | _=>exact wpAny_pure h
  | _=>exact wpAny_pure h
 unfold letOwnedTupleGo
 cases target <;> first | exact wpAny_pure h | exact key
inductive SeqIt (Z:Addr→Prop) (it:Addr) (x:AV) (l:List AV) (items:List AV) (ρ:Rho) (σ:St) (h:Heap):Prop
 | mk (e:itemsOf σ x=some l) (a:Addr) (k:Nat) (ra:RA ρ (Fz Z ρ σ) h (.ref a) x) (hi:items=l.drop k) (hk:k≤l.length) (hx:(isTupV x=true∧h.IsTupleIter it a k)∨(isTupV x=false∧h.IsListIter it a k))
theorem RA.notZ {a:Addr} {x:AV} (R:Rel g Z bs ρ σ h) (r:RA ρ (Fz Z ρ σ) h (.ref a) x):¬ Z a:=by
 cases r with
 | pv r=>cases r with
  | tup f _ _=>exact f.1
  | lst f _ _=>exact f.1
 | ref q=>exact (R.addrs q (.head _)).2.2
 | tupR f _ _=>exact f.1
 | lstR f _ _=>exact f.1
theorem isListIter_lv {it a:Addr} {k:Nat} (x:h.IsListIter it a k):∃ o,h.get? it=some o∧o.cls = .type "list_iterator" := let ⟨o,ho,hc,_⟩:=x; ⟨o,ho,hc⟩
theorem isTupleIter_lv {it a:Addr} {k:Nat} (x:h.IsTupleIter it a k):∃ o,h.get? it=some o∧o.cls = .type "tuple_iterator" := let ⟨o,ho,hc,_⟩:=x; ⟨o,ho,hc⟩
theorem seqIt_ok {target:Expr} {it:Addr} {x:AV} {l:List AV} (σ0:St) (h0:itemsOf σ0 x=some l) (hh:A.handled=none) (hz:∀ b,Z b→b ≠ it):IterOk g A target it (fun b=>b=it) Z (heldOf σ0 x) (SeqIt (Zu Z fun b=>b=it) it x l) where
 turn {items bs ρ σ s E} N Y R hS hN hY:=by
  refine hideP fun Go hGo=>?_
  obtain ⟨h1,a,k,ra,hit,hk,hi⟩:=hS
  obtain ⟨a',vs,e,rs,hsq⟩:=items_of R ra h1
  refine hGo ?_
  cases e
  have hne:a ≠ it:=fun e=>RA.notZ R ra (.inr e)
  have hlen:=rs.length
  have key:∀ {St:Nat→Heap→Prop} {P:Nat→Value→Prop} {fp:List Addr},Walks g.prog g.w A it fp [it] vs.toArray.size (fun i v=>vs.toArray[i]? = some v) St→St k s.heap →
    (∀ h' k,St k h'→(isTupV x=true∧h'.IsTupleIter it a k)∨(isTupV x=false∧h'.IsListIter it a k)) →
    wpAny (model g.prog g.w) A (pyNext (.ref it)) (fun r s1=>match r with
     | none=>items=[]∧N s1
     | some v=>wpAny (model g.prog g.w) A (letOwnedTupleGo target (.ref it) v) (fun _ s2=>∃ x r,items=x::r∧Y x r v s2) E s1) E s:=by
   intro St P fp W hst hdec
   have keepX:∀ {h':Heap},(∀ b o,b ∉ [it]→s.heap.get? b=some o→h'.get? b=some o)→∀ b o,s.heap.get? b=some o→¬ (b=it)→h'.get? b=some o:=fun hk b o e hb=>hk b o (by simpa using hb) e
   rcases Nat.lt_or_ge k l.length with hkl | hkl
   ·refine W.item k s _ _ (by rw [List.size_toArray,hlen]; exact hkl) hst fun v h' tk hv hst' hk'=>?_
    have hdc:=hdec h' (k+1) hst'
    have hcons:items=l[k]::l.drop (k+1):=by rw [hit]; exact List.drop_eq_getElem_cons hkl
    obtain ⟨v',hv1,hv2⟩:=rs.get (List.getElem?_eq_getElem hkl)
    have:v=v':=by
     have hv:vs[k]? = some v:=by simpa using hv
     rw [hv1] at hv; cases hv; rfl
    subst this
    have P':Post (fun b=>b=it) ρ σ s ρ σ { s with heap:=h',toks:=tk }:=Post.inX (keepX hk') rfl rfl
    have hlv:Lv h' it:=by
     rcases hdc with ⟨_,q⟩ | ⟨_,q⟩
     ·obtain ⟨o,e,_⟩:=isTupleIter_lv q; exact ⟨o,e⟩
     ·obtain ⟨o,e,_⟩:=isListIter_lv q; exact ⟨o,e⟩
    have R':Rel g (Zu Z fun b=>b=it) bs ρ σ h':=R.inZ (fun b o e hz'=>keepX hk' b o e fun q=>hz' (.inr q)) (fun b lb=>by
     by_cases hb:b=it
     ·rw [hb]; exact hlv
     ·obtain ⟨o,e⟩:=lb; exact ⟨o,keepX hk' b o e hb⟩)
    have mono:∀ {v:Value} {y:AV},RA ρ (Fz (Zu Z fun b=>b=it) ρ σ) s.heap v y→RA ρ (Fz (Zu Z fun b=>b=it) ρ σ) h' v y:=fun r=>r.mono (fun _ _ _ e=>e) fun b o e f _=>⟨keepX hk' b o e fun q=>f.1 (.inr q),f⟩
    have hgo:wpAny (model g.prog g.w) A (letOwnedTupleGo target (.ref it) v) (fun _ s2=>∃ x r,items=x::r∧Y x r v s2) E { s with heap:=h',toks:=tk }:=by
     have fin:=hY _ _ hcons v { s with heap:=h',toks:=tk } R' P' (mono hv2) ⟨h1,a,k+1,mono ra,rfl,hkl,hdc⟩
     rcases hdc with ⟨_,q⟩ | ⟨_,q⟩
     ·obtain ⟨o,e,hc⟩:=isTupleIter_lv q; exact letGo_plain e hc (by decide) ⟨_,_,hcons,fin⟩
     ·obtain ⟨o,e,hc⟩:=isListIter_lv q; exact letGo_plain e hc (by decide) ⟨_,_,hcons,fin⟩
    exact hgo
   ·have:k=vs.toArray.size:=by rw [List.size_toArray,hlen]; omega
    have hnil:items=[]:=by rw [hit]; exact List.drop_of_length_le hkl
    refine W.done s _ _ (this▸hst) fun h' tk hk'=>⟨hnil,hN hnil _ ?_ (Post.inX (keepX hk') rfl rfl)⟩
    exact R.done (fun b hb=>hz b hb) fun b o e hb=>keepX hk' b o e hb
  rcases hi with ⟨ht,hi⟩ | ⟨ht,hi⟩
  ·have htup:s.heap.IsTuple a vs.toArray:=by
    rcases hsq with ⟨_,q⟩ | ⟨_,q,_⟩
    ·exact q
    ·rw [ht] at q; cases q
   exact key (P:=fun _ _=>True) (Walks.tuple hh it a hne vs.toArray) ⟨hi,htup⟩ fun h' k st=>.inl ⟨ht,st.1⟩
  ·have hlst:s.heap.IsList a vs.toArray:=by
    rcases hsq with ⟨q,_⟩ | ⟨_,_,q⟩
    ·rw [ht] at q; cases q
    ·exact q
   exact key (P:=fun _ _=>True) (Walks.list hh it a hne vs.toArray) ⟨hi,hlst⟩ fun h' k st=>.inr ⟨ht,st.1⟩
 keep {items bs ρ ρ' σ σ' s s' Y} R hS p hY hk:=by
  obtain ⟨h1,a,k,ra,hit,hk',hi⟩:=hS
  have e1:itemsOf σ' x=some l:=items_kept h0 hk
  refine ⟨e1,a,k,ra.post p fun b hb=>(hY b hb).1,hit,hk',?_⟩
  have keepO:∀ o,s.heap.get? it=some o→s'.heap.get? it=some o:=fun o e=>p.ext it o e (fun q=>(hY it q).2 rfl) (R.notFoot (.inr rfl))
  rcases hi with ⟨ht,hi⟩ | ⟨ht,hi⟩
  ·refine .inl ⟨ht,?_⟩; obtain ⟨o,ho,r⟩:=hi; exact ⟨o,keepO o ho,r⟩
  ·refine .inr ⟨ht,?_⟩; obtain ⟨o,ho,r⟩:=hi; exact ⟨o,keepO o ho,r⟩
 self {items ρ σ s E Q} hS hq:=by
  obtain ⟨h1,a,k,ra,hit,hk',hi⟩:=hS
  rcases hi with ⟨ht,hi⟩ | ⟨ht,hi⟩
  ·exact wpAny_pyIter_tupleiter hi hq
  ·exact wpAny_pyIter_listiter hi hq
end
section
variable {g:Glb} {A:Around} {s:Shared} {Z:Addr→Prop} {bs:List Nat} {ρ:Rho} {σ:St} {E:Value→Shared→Prop} {F:Addr→Prop} {h:Heap} {prog:Program} {w:World}
inductive RangeS (it:Addr) (a:Int) (n:Nat) (items:List AV) (ρ:Rho) (σ:St) (h:Heap):Prop
 | mk (k:Nat) (hk:k≤n) (hi:items=(((List.range n).map fun (j:Nat)=>AV.pv (.int (a+(j:Int)))).drop k)) (hx:IsRangeIter h it (a+(k:Nat) * 1) ((n:Int) - (k:Nat)) 1)
theorem rangeIt_ok {target:Expr} {it:Addr} {a:Int} {n:Nat} {held:List (Nat × List AV)} (hh:A.handled=none) (hz:∀ b,Z b→b ≠ it):IterOk g A target it (fun b=>b=it) Z held (RangeS it a n) where
 turn {items bs ρ σ s E} N Y R hS hN hY:=by
  obtain ⟨k,hk,hit,hi⟩:=hS
  have keepX:∀ {h':Heap},(∀ b o,b ∉ [it]→s.heap.get? b=some o→h'.get? b=some o)→∀ b o,s.heap.get? b=some o→¬ (b=it)→h'.get? b=some o:=fun hk b o e hb=>hk b o (by simpa using hb) e
  have W:=Walks.range (prog:=g.prog) (w:=g.w) hh it a 1 n
  rcases Nat.lt_or_ge k n with hkl | hkl
  ·refine W.item k s _ _ hkl hi fun v h' tk hv hst' hk'=>?_
   obtain ⟨t,rfl⟩:=hv
   have hcons:items=AV.pv (.int (a+(k:Int)))::(((List.range n).map fun (j:Nat)=>AV.pv (.int (a+(j:Int)))).drop (k+1)):=by
    rw [hit,List.drop_eq_getElem_cons (by simpa using hkl)]; simp
   have P':Post (fun b=>b=it) ρ σ s ρ σ { s with heap:=h',toks:=tk }:=Post.inX (keepX hk') rfl rfl
   have hlv:Lv h' it:=⟨_,hst'⟩
   have R':Rel g (Zu Z fun b=>b=it) bs ρ σ h':=R.inZ (fun b o e hz'=>keepX hk' b o e fun q=>hz' (.inr q)) (fun b lb=>by
    by_cases hb:b=it
    ·rw [hb]; exact hlv
    ·obtain ⟨o,e⟩:=lb; exact ⟨o,keepX hk' b o e hb⟩)
   have fin:=hY _ _ hcons (.int (a+k * 1) t) { s with heap:=h',toks:=tk } R' P' (by rw [Int.mul_one]; exact .pv (.int _ _)) ⟨k+1,hkl,rfl,hst'⟩
   exact letGo_plain hst' rfl (by decide) ⟨_,_,hcons,fin⟩
  ·have hkn:k=n:=by omega
   have hnil:items=[]:=by rw [hit]; exact List.drop_of_length_le (by simpa using hkl)
   subst hkn
   refine W.done s _ _ hi fun h' tk hk'=>⟨hnil,hN hnil _ ?_ (Post.inX (keepX hk') rfl rfl)⟩
   exact R.done (fun b hb=>hz b hb) fun b o e hb=>keepX hk' b o e hb
 keep {items bs ρ ρ' σ σ' s s' Y} R hS p hY hk:=by
  obtain ⟨k,hk,hit,hi⟩:=hS
  exact ⟨k,hk,hit,p.ext it _ hi (fun q=>(hY it q).2 rfl) (R.notFoot (.inr rfl))⟩
 self {items ρ σ s E Q} hS hq:=by
  obtain ⟨k,hk,hit,hi⟩:=hS
  exact wpAny_pyIter_rangeiter hi hq
structure IterG (g:Glb) (A:Around) (target:Expr) (it:Addr) (X:Addr→Prop) (held:List (Nat × List AV)) (S:(Addr→Prop)→List AV→Rho→St→Heap→Prop):Prop where
 ok:∀ Z:Addr→Prop,(∀ b,Z b→¬ X b)→IterOk g A target it X Z held (S Z)
 more:∀ {Z Z2:Addr→Prop} {items:List AV} {ρ:Rho} {σ:St} {h h':Heap},S Z items ρ σ h→(∀ b,Z2 b→Z b∨¬ Lv h b)→(∀ b o,h.get? b=some o→h'.get? b=some o)→S Z2 items ρ σ h'
noncomputable abbrev IterK (g:Glb) (A:Around) (target:Expr) (Z:Addr→Prop) (bs:List Nat) (ρ:Rho) (σ:St) (s:Shared) (src:Src) (σ':St) (Q:Value→Shared→Prop):Prop :=
 ∀ it X S s' ρ',Rel g (Zu Z X) bs ρ' σ' s'.heap→Post NoX ρ σ s ρ' σ' s'→(∀ b,X b→¬ Lv s.heap b)→IterG g A target it X src.held S→S Z src.items ρ' σ' s'.heap→Q (.ref it) s'
theorem zlessU {X Z Z2:Addr→Prop} {h h':Heap} {v:Value} {x:AV} (r:RA ρ (Fz (Zu Z X) ρ σ) h v x) (hz:∀ b,Z2 b→Z b∨¬ Lv h b) (k:∀ b o,h.get? b=some o→h'.get? b=some o):RA ρ (Fz (Zu Z2 X) ρ σ) h' v x :=
 r.mono (fun _ _ _ e=>e) fun b o e f _=>⟨k b o e,fun z=>by
  rcases z with z | z
  ·rcases hz b z with q | q
   ·exact f.1 (.inl q)
   ·exact q ⟨_,e⟩
  ·exact f.1 (.inr z),f.2⟩
theorem seqIt_g {target:Expr} {it:Addr} {x:AV} {l:List AV} (σ0:St) (h0:itemsOf σ0 x=some l) (hh:A.handled=none):IterG g A target it (fun b=>b=it) (heldOf σ0 x) (fun Z=>SeqIt (Zu Z fun b=>b=it) it x l) where
 ok Z hz:=seqIt_ok σ0 h0 hh hz
 more:=by
  intro Z Z2 items ρ σ h h' hS hz k
  obtain ⟨h1,a,j,ra,hit,hk,hi⟩:=hS
  refine ⟨h1,a,j,zlessU ra hz k,hit,hk,?_⟩
  rcases hi with ⟨ht,o,ho,r⟩ | ⟨ht,o,ho,r⟩
  ·exact .inl ⟨ht,o,k _ _ ho,r⟩
  ·exact .inr ⟨ht,o,k _ _ ho,r⟩
theorem rangeIt_g {target:Expr} {it:Addr} {a:Int} {n:Nat} {held:List (Nat × List AV)} (hh:A.handled=none):IterG g A target it (fun b=>b=it) held (fun _=>RangeS it a n) where
 ok Z hz:=rangeIt_ok hh hz
 more:=by
  intro Z Z2 items ρ σ h h' hS hz k
  obtain ⟨j,hj,hit,hi⟩:=hS
  exact ⟨j,hj,hit,k _ _ hi⟩
theorem push_iter {o:Obj} {X:Addr→Prop} (R:Rel g Z bs ρ σ s.heap):Rel g (Zu Z fun b=>b=s.heap.objs.size) bs ρ σ (s.heap.push o)∨o.isFreed=true:=by
 by_cases hf:o.isFreed=true
 ·exact .inr hf
 ·exact .inl (R.enter (fun b o e=>Heap.get?_push_of_some _ e) fun b hb=>eqOr hb .inl (.inr ⟨lv_new _,⟨_,Heap.get?_push_size _ (by simpa using hf)⟩⟩))
theorem zne (R:Rel g Z bs ρ σ s.heap):∀ b,Z b→b ≠ s.heap.objs.size:=fun b hz e=>lv_new s.heap (e▸(R.zlt hz).2)
theorem enterOne {o:Obj} (R:Rel g Z bs ρ σ s.heap) (hf:o.isFreed=false):Rel g (Zu Z fun b=>b=s.heap.objs.size) bs ρ σ (s.heap.push o) :=
 R.enter (fun b o e=>Heap.get?_push_of_some _ e) fun b hb=>eqOr hb .inl (.inr ⟨lv_new _,⟨_,Heap.get?_push_size _ hf⟩⟩)
theorem iter_seq {target:Expr} {vx:Value} {x:AV} {src:Src} {Q:Value→Shared→Prop} (hh:A.handled=none) (R:Rel g Z bs ρ σ s.heap) (rx:RA ρ (Fz Z ρ σ) s.heap vx x) (e:srcOf x σ=some src)
  (K:IterK g A target Z bs ρ σ s src σ Q):wpAny (model g.prog g.w) A (pyIter vx) Q E s:=by
 obtain ⟨l,hl,e1⟩:=opt_some e
 obtain ⟨hbig,e2⟩:=ite_some e1
 obtain rfl:=Option.some.inj e2
 obtain ⟨a,vs,rfl,rs,hsq⟩:=items_of R rx hl
 have rx':∀ o:Obj,RA ρ (Fz (Zu Z fun b=>b=s.heap.objs.size) ρ σ) (s.heap.push o) (.ref a) x:=fun o=>(rx.zless (Z':=Zu Z fun b=>b=s.heap.objs.size) fun b hb=>eqOr hb .inl (.inr (lv_new _))).mono (fun _ _ _ e=>e) fun b o e f _=>⟨Heap.get?_push_of_some _ e,f⟩
 have fresh:∀ b,b=s.heap.objs.size→¬ Lv s.heap b:=fun b e=>e▸lv_new _
 rcases hsq with ⟨ht,hq⟩ | ⟨_,ht,hq⟩
 ·refine wpAny_pyIter_tuple hq ?_
  exact K s.heap.objs.size _ (fun Z=>SeqIt (Zu Z fun b=>b=s.heap.objs.size) s.heap.objs.size x l) _ ρ (enterOne R rfl) (Post.grow (fun b o e=>Heap.get?_push_of_some _ e) rfl rfl) fresh (seqIt_g σ hl hh)
   ⟨hl,a,0,rx' _,rfl,Nat.zero_le _,.inl ⟨ht,⟨_,Heap.get?_push_size _ rfl,rfl,rfl⟩⟩⟩
 ·refine wpAny_pyIter_list hq ?_
  exact K s.heap.objs.size _ (fun Z=>SeqIt (Zu Z fun b=>b=s.heap.objs.size) s.heap.objs.size x l) _ ρ (enterOne R rfl) (Post.grow (fun b o e=>Heap.get?_push_of_some _ e) rfl rfl) fresh (seqIt_g σ hl hh)
   ⟨hl,a,0,rx' _,rfl,Nat.zero_le _,.inr ⟨ht,⟨_,Heap.get?_push_size _ rfl,rfl,rfl⟩⟩⟩
end
section
variable {g:Glb} {A:Around} {s:Shared} {Z:Addr→Prop} {bs:List Nat} {ρ:Rho} {σ:St} {E:Value→Shared→Prop} {F:Addr→Prop} {h:Heap} {prog:Program} {w:World}
theorem rs_one (m n:Int):Builtin.Range.rangeSize m n 1=(((n - m).toNat:Nat):Int) - ((0:Nat):Int):=by
 rw [rangeSize_one,Int.natCast_zero,Int.sub_zero]
 by_cases h:m<n
 ·rw [if_pos h,Int.toNat_of_nonneg (Int.sub_nonneg_of_le (Int.le_of_lt h))]
 ·rw [if_neg h,Int.toNat_of_nonpos (Int.sub_nonpos_of_le (Int.not_lt.mp h))]; rfl
theorem op_range {target:Expr} {m n:Int} {Q:Value→Shared→Prop} (hh:A.handled=none) (R:Rel g Z bs ρ σ s.heap) (t u v:Tok) (tk:Nat) (h1 : -1000≤m) (h2:m≤1000) (h3 : -1000≤n) (h4:n≤big)
  (K:IterK g A target Z bs ρ σ s ⟨(intsAV (rangeI m n)).map .pv,[]⟩ σ Q) :
  wpAny (model g.prog g.w) A (pyIter (.ref s.heap.objs.size)) Q E { s with heap:=s.heap.push { cls:=.type "range", data:=.fields #[.int m t,.int n u,.int 1 v] },toks:=tk }:=by
 refine wpAny_pyIter_range (IsRange.new _ _ _ _ _ _ _) (small_one (Int.le_trans (by decide) h1) (Int.lt_of_le_of_lt h2 (by decide)) (Int.le_trans (by decide) h3) (Int.lt_of_le_of_lt h4 (by decide))) ?_
 have k0:∀ b o,s.heap.get? b=some o→(s.heap.push { cls:=.type "range", data:=.fields #[.int m t,.int n u,.int 1 v] }).get? b=some o:=fun b o e=>Heap.get?_push_of_some _ e
 have R0:Rel g Z bs ρ σ ({ s with heap:=s.heap.push { cls:=.type "range", data:=.fields #[.int m t,.int n u,.int 1 v] },toks:=tk }:Shared).heap:=R.grow k0
 refine K _ _ (fun _=>RangeS _ m (n - m).toNat) _ ρ (enterOne R0 rfl) (Post.grow (fun b o e=>Heap.get?_push_of_some _ (k0 b o e)) rfl rfl) (fun b e=>?_) (rangeIt_g hh) ⟨0,Nat.zero_le _,?_,?_⟩
 ·subst e
  exact lv_out (by show s.heap.objs.size≤(s.heap.push _).objs.size; rw [Heap.size_push]; exact Nat.le_succ _)
 ·simp [intsAV,rangeI]
 ·rw [← rs_one,show m+((0:Nat):Int) * 1=m from (congrArg (m + ·) (Int.zero_mul 1)).trans (Int.add_zero m)]
  exact Heap.get?_push_size _ rfl
noncomputable def ZX (n b:Nat):Prop:=b=n+4∨b=n+2∨b=n+3∨b=n∨b=n+1
structure ZipA (h:Heap) (n a b k:Nat):Prop where
 z:IsZip h (n+4) (n+2) (n+3) .none
 ti:IsPair h (n+2) (.ref n) (.ref (n+1))
 to:∃ u v,IsPair h (n+3) u v
 i1:h.IsListIter n a k
 i2:h.IsListIter (n+1) b k
theorem ZipA.kept {h h':Heap} {n a b k:Nat} (x:ZipA h n a b k) (kk:∀ c,ZX n c→∀ o,h.get? c=some o→h'.get? c=some o):ZipA h' n a b k where
 z:=kk _ (.inl rfl) _ x.z
 ti:=kk _ (.inr (.inl rfl)) _ x.ti
 to:=let ⟨u,v,e⟩:=x.to; ⟨u,v,kk _ (.inr (.inr (.inl rfl))) _ e⟩
 i1:=let ⟨o,e,r⟩:=x.i1; ⟨o,kk _ (.inr (.inr (.inr (.inl rfl)))) o e,r⟩
 i2:=let ⟨o,e,r⟩:=x.i2; ⟨o,kk _ (.inr (.inr (.inr (.inr rfl)))) o e,r⟩
theorem ZipA.lv {h:Heap} {n a b k:Nat} (x:ZipA h n a b k) {c:Addr} (hc:ZX n c):Lv h c:=by
 rcases hc with rfl | rfl | rfl | rfl | rfl
 ·exact ⟨_,x.z⟩
 ·exact ⟨_,x.ti⟩
 ·obtain ⟨u,v,e⟩:=x.to; exact ⟨_,e⟩
 ·obtain ⟨o,e,_⟩:=x.i1; exact ⟨o,e⟩
 ·obtain ⟨o,e,_⟩:=x.i2; exact ⟨o,e⟩
inductive ZipS (Z:Addr→Prop) (n:Nat) (x y:AV) (lx ly:List AV) (items:List AV) (ρ:Rho) (σ:St) (h:Heap):Prop
 | mk (e1:itemsOf σ x=some lx) (e2:itemsOf σ y=some ly) (a b k:Nat) (ra:RA ρ (Fz Z ρ σ) h (.ref a) x) (rb:RA ρ (Fz Z ρ σ) h (.ref b) y) (hi:items=zipT (lx.drop k) (ly.drop k)) (z:ZipA h n a b k) (h1:k≤lx.length) (h2:k≤ly.length)
theorem zipT_nil:∀ {a b:List AV},a=[]∨b=[]→zipT a b=[]
 | [],_,_=>by simp [zipT]
 | _::_,[],_=>by simp [zipT]
 | _::_,_::_,h=>by rcases h with h | h <;> cases h
theorem heldOk_app {a b:List (Nat × List AV)} {σ':St} (h:heldOk (a++b) σ'=true):heldOk a σ'=true∧heldOk b σ'=true:=and_true2 ((List.all_append ..).symm.trans h)
theorem nn (n:Nat) {i j:Nat} (h:i ≠ j):n+i ≠ n+j:=fun e=>h (Nat.add_left_cancel e)
theorem k_min {k a b:Nat} (h1:k≤a) (h2:k≤b) (h:¬ (k<a∧k<b)):k=min a b:=Nat.le_antisymm (Nat.le_min.mpr ⟨h1,h2⟩) (Nat.le_of_not_lt fun hl=>h ⟨Nat.lt_of_lt_of_le hl (Nat.min_le_left ..),Nat.lt_of_lt_of_le hl (Nat.min_le_right ..)⟩)
theorem zipD (n:Nat) {a b:Nat} (ha:a ≠ n+4∧a ≠ n+3∧a ≠ n∧a ≠ n+1) (hb:b ≠ n+4∧b ≠ n+3∧b ≠ n∧b ≠ n+1):ZipApart (n+4) (n+2) (n+3) n (n+1) a b :=
 ⟨nn n (by decide),nn n (by decide),nn n (i:=0) (by decide),nn n (by decide),nn n (by decide),nn n (j:=0) (by decide),nn n (by decide),nn n (j:=0) (by decide),nn n (by decide),nn n (i:=0) (by decide),
  ha.1,ha.2.1,ha.2.2.1,ha.2.2.2,hb.1,hb.2.1,hb.2.2.1,hb.2.2.2⟩
theorem memX {n b:Nat} (m:b ∈ [n+4,n+3,n,n+1]):ZX n b:=by
 simp only [List.mem_cons,List.not_mem_nil,or_false] at m
 rcases m with h | h | h | h
 ·exact .inl h
 ·exact .inr (.inr (.inl h))
 ·exact .inr (.inr (.inr (.inl h)))
 ·exact .inr (.inr (.inr (.inr h)))
theorem ZX.le {n b:Nat} (m:ZX n b):n≤b:=by
 rcases m with rfl | rfl | rfl | rfl | rfl
 ·exact Nat.le_add_right _ _
 ·exact Nat.le_add_right _ _
 ·exact Nat.le_add_right _ _
 ·exact Nat.le_refl _
 ·exact Nat.le_add_right _ _
theorem zipIt_ok {elts:List Expr} {kk:Nat} {ps:Pos} {n:Nat} {x y:AV} {lx ly:List AV} (σ0:St) (h0:itemsOf σ0 x=some lx) (h0':itemsOf σ0 y=some ly) (hx:isLstV x=true) (hy:isLstV y=true) (hh:A.handled=none) (hz:∀ b,Z b→¬ (ZX n b)) :
  IterOk g A (.Tuple elts kk ps) (n+4) (ZX n) Z (heldOf σ0 x++heldOf σ0 y) (ZipS (Zu Z (ZX n)) n x y lx ly) where
 turn {items bs ρ σ s E} N Y R hS hN hY:=by
  obtain ⟨e1,e2,a,b,k,ra,rb,hit,za,hk1,hk2⟩:=hS
  obtain ⟨a',vs,ea,rs,hl1⟩:=items_list R ra e1 hx
  obtain ⟨b',ws,eb,qs,hl2⟩:=items_list R rb e2 hy
  cases ea; cases eb
  have na:¬ (Zu Z (ZX n)) a:=RA.notZ R ra
  have nb:¬ (Zu Z (ZX n)) b:=RA.notZ R rb
  have ni:∀ {c:Addr},¬ Zu Z (ZX n) c→c ≠ n+4∧c ≠ n+3∧c ≠ n∧c ≠ n+1:=fun {c} hc =>
   ⟨fun e=>hc (.inr (.inl e)),fun e=>hc (.inr (.inr (.inr (.inl e)))),fun e=>hc (.inr (.inr (.inr (.inr (.inl e))))),fun e=>hc (.inr (.inr (.inr (.inr (.inr e)))))⟩
  have D:ZipApart (n+4) (n+2) (n+3) n (n+1) a b:=zipD n (ni na) (ni nb)
  have W:=WalksT.zip2 (prog:=g.prog) (w:=g.w) (A:=A) hh (n+4) (n+2) (n+3) n (n+1) a b D vs.toArray ws.toArray
  have hst:=(⟨za.z,za.ti,za.to,za.i1,za.i2,hl1,hl2⟩:_∧_∧_∧_∧_∧_∧_)
  have hlx:=rs.length
  have hly:=qs.length
  have keepX:∀ {h0 h':Heap},(∀ b o,b ∉ [n+4,n+3,n,n+1]→h0.get? b=some o→h'.get? b=some o)→∀ b o,h0.get? b=some o→¬ (ZX n b)→h'.get? b=some o:=fun hk b o e hb=>hk b o (fun m=>hb (memX m)) e
  by_cases hlt:k<lx.length∧k<ly.length
  ·refine W.item k s _ _ (by rw [List.size_toArray,List.size_toArray,hlx,hly]; exact Nat.lt_min.mpr hlt) hst fun T vals h' tk hv hT hTu hmid hk'=>?_
   obtain ⟨xv,yv,hxv,hyv,rfl⟩:=hv
   have hcons:items=mkTup [lx[k]'hlt.1,ly[k]'hlt.2]::zipT (lx.drop (k+1)) (ly.drop (k+1)):=by
    rw [hit,List.drop_eq_getElem_cons hlt.1,List.drop_eq_getElem_cons hlt.2]; rfl
   refine W.go elts kk ps k T _ _ _ hmid fun h'' hst' hk''=>⟨_,_,hcons,?_⟩
   have kAll:∀ b o,s.heap.get? b=some o→¬ (ZX n b)→h''.get? b=some o:=fun b o e hb=>keepX hk'' b o (keepX hk' b o e hb) hb
   have za':ZipA h'' n a b (k+1):=⟨hst'.1,hst'.2.1,hst'.2.2.1,hst'.2.2.2.1,hst'.2.2.2.2.1⟩
   have R':Rel g (Zu Z (ZX n)) bs ρ σ h'':=R.inZ (fun b o e hz'=>kAll b o e fun q=>hz' (.inr q)) (fun b lb=>by
    by_cases hb:ZX n b
    ·exact za'.lv hb
    ·obtain ⟨o,e⟩:=lb; exact ⟨o,kAll b o e hb⟩)
   have mono:∀ {v:Value} {y:AV},RA ρ (Fz (Zu Z (ZX n)) ρ σ) s.heap v y→RA ρ (Fz (Zu Z (ZX n)) ρ σ) h'' v y:=fun r=>r.mono (fun _ _ _ e=>e) fun b o e f _=>⟨kAll b o e fun q=>f.1 (.inr q),f⟩
   have hTfree:=R.notFootNew (lv_out hT)
   have hTnot:¬ (T ∈ [n+4,n+3,n,n+1]):=fun m=>hTfree.1 (.inr (memX m))
   have hTu':h''.IsTuple T #[xv,yv]:=by obtain ⟨o,ho,r⟩:=hTu; exact ⟨o,hk'' T o hTnot ho,r⟩
   obtain ⟨v1,a1,a2⟩:=rs.get (List.getElem?_eq_getElem hlt.1)
   obtain ⟨v2,b1,b2⟩:=qs.get (List.getElem?_eq_getElem hlt.2)
   have hxv:vs[k]? = some xv:=by rw [← List.getElem?_toArray]; exact hxv
   obtain rfl:=Option.some.inj (a1.symm.trans hxv)
   have hyv:ws[k]? = some yv:=by rw [← List.getElem?_toArray]; exact hyv
   obtain rfl:=Option.some.inj (b1.symm.trans hyv)
   exact hY _ _ hcons (.ref T) { s with heap:=h'',toks:=tk } R' (Post.inX kAll rfl rfl) (.mkTup (vs:=[v1,v2]) hTfree hTu' (.cons (mono a2) (.cons (mono b2) .nil)))
    ⟨e1,e2,a,b,k+1,mono ra,mono rb,rfl,za',hlt.1,hlt.2⟩
  ·have hnil:items=[]:=by
    rw [hit]
    refine zipT_nil ?_
    rcases Nat.lt_or_ge k lx.length with q | q
    ·exact .inr (List.drop_of_length_le (Nat.le_of_not_lt fun h=>hlt ⟨q,h⟩))
    ·exact .inl (List.drop_of_length_le q)
   have hkm:k=min vs.toArray.size ws.toArray.size:=by rw [List.size_toArray,List.size_toArray,hlx,hly]; exact k_min hk1 hk2 hlt
   refine W.done s _ _ (hkm▸hst) fun h' tk hk'=>⟨hnil,hN hnil _ ?_ (Post.inX (keepX hk') rfl rfl)⟩
   exact R.done hz fun b o e hb=>keepX hk' b o e hb
 keep {items bs ρ ρ' σ σ' s s' Y} R hS p hY hk:=by
  obtain ⟨e1,e2,a,b,k,ra,rb,hit,za,hk1,hk2⟩:=hS
  obtain ⟨q1,q2⟩:=heldOk_app hk
  exact ⟨items_kept h0 q1,items_kept h0' q2,a,b,k,ra.post p fun b hb=>(hY b hb).1,rb.post p fun b hb=>(hY b hb).1,hit,za.kept fun c hc o e=>p.ext c o e (fun q=>(hY c q).2 hc) (R.notFoot (.inr hc)),hk1,hk2⟩
 self {items ρ σ s E Q} hS hq:=by
  obtain ⟨e1,e2,a,b,k,ra,rb,hit,za,_,_⟩:=hS
  exact wpAny_pyIter_zip za.z hq
theorem zipIt_g {elts:List Expr} {kk:Nat} {ps:Pos} {n:Nat} {x y:AV} {lx ly:List AV} (σ0:St) (h0:itemsOf σ0 x=some lx) (h0':itemsOf σ0 y=some ly) (hx:isLstV x=true) (hy:isLstV y=true) (hh:A.handled=none) :
  IterG g A (.Tuple elts kk ps) (n+4) (ZX n) (heldOf σ0 x++heldOf σ0 y) (fun Z=>ZipS (Zu Z (ZX n)) n x y lx ly) where
 ok Z hz:=zipIt_ok σ0 h0 h0' hx hy hh hz
 more:=by
  intro Z Z2 items ρ σ h h' hS hz k
  obtain ⟨e1,e2,a,b,j,ra,rb,hit,za,hk1,hk2⟩:=hS
  exact ⟨e1,e2,a,b,j,zlessU ra hz k,zlessU rb hz k,hit,za.kept fun _ _=>k _,hk1,hk2⟩
theorem op_zip {elts:List Expr} {kk:Nat} {ps:Pos} {va vb:Value} {x y:AV} {sx sy:Src} {Q:Value→Shared→Prop} (hh:A.handled=none) (R:Rel g Z bs ρ σ s.heap) (ra:RA ρ (Fz Z ρ σ) s.heap va x) (rb:RA ρ (Fz Z ρ σ) s.heap vb y)
  (ex:srcOf x σ=some sx) (ey:srcOf y σ=some sy) (hx:isLstV x=true) (hy:isLstV y=true)
  (K:IterK g A (.Tuple elts kk ps) Z bs ρ σ s ⟨zipT sx.items sy.items,sx.held++sy.held⟩ σ Q) :
  wpAny (model g.prog g.w) A (call (.type "zip") [va,vb]) (fun v s1=>wpAny (model g.prog g.w) A (pyIter v) Q E s1) E s:=by
 have srcs:∀ {x:AV} {sx:Src},srcOf x σ=some sx→itemsOf σ x=some sx.items∧sx.held=heldOf σ x:=by
  intro x sx e
  obtain ⟨l,h1,e1⟩:=opt_some e
  obtain ⟨_,e2⟩:=ite_some e1
  obtain rfl:=Option.some.inj e2
  exact ⟨h1,rfl⟩
 obtain ⟨e1,hx'⟩:=srcs ex
 obtain ⟨e2,hy'⟩:=srcs ey
 rw [hx',hy'] at K
 obtain ⟨a,vs,rfl,rs,hl1⟩:=items_list R ra e1 hx
 obtain ⟨b,ws,rfl,qs,hl2⟩:=items_list R rb e2 hy
 refine call_zip_2 hl1 hl2 fun h' z1 z2 z3 z4 z5 z6 k=>?_
 refine wpAny_pyIter_zip z1 ?_
 have za:ZipA h' s.heap.objs.size a b 0:=⟨z1,z2,⟨_,_,z3⟩,z4,z5⟩
 have fresh:∀ c,ZX s.heap.objs.size c→¬ Lv s.heap c:=fun c hc=>lv_out hc.le
 have R':Rel g (Zu Z (ZX s.heap.objs.size)) bs ρ σ h':=R.enter k fun c hc=>hc.imp id fun hc=>⟨fresh c hc,za.lv hc⟩
 have mono:∀ {v:Value} {y:AV},RA ρ (Fz Z ρ σ) s.heap v y→RA ρ (Fz (Zu Z (ZX s.heap.objs.size)) ρ σ) h' v y:=fun r =>
  (r.zless (Z':=Zu Z (ZX s.heap.objs.size)) fun c hc=>hc.imp id (fresh c)).mono (fun _ _ _ e=>e) fun b o e f _=>⟨k b o e,f⟩
 exact K _ _ (fun Z=>ZipS (Zu Z (ZX s.heap.objs.size)) s.heap.objs.size x y sx.items sy.items) { s with heap:=h' } ρ R' (Post.grow k rfl rfl) fresh (zipIt_g σ e1 e2 hx hy hh)
  ⟨e1,e2,a,b,0,mono ra,mono rb,rfl,za,Nat.zero_le _,Nat.zero_le _⟩
end
theorem isFun_of {k:ScopeKind} (h:isFun k=true):k = .function:=by cases k <;> first | rfl | cases h
noncomputable def rdWhile (x:Stmt):Option {v:Expr × List Stmt × List Stmt × Pos // x = .While v.1 v.2.1 v.2.2.1 v.2.2.2}:=Stmt.casesOn (motive_2:=fun x=>Option {v:Expr × List Stmt × List Stmt × Pos // x = .While v.1 v.2.1 v.2.2.1 v.2.2.2}) x (fun _ _ _ _ _ _ _ _ _ _=>none) (fun _ _ _ _ _ _ _ _ _ _=>none) (fun _ _ _ _ _ _ _ _ _ _ _=>none) (fun _ _=>none) (fun _ _=>none) (fun _ _ _=>none) (fun _ _ _ _ _ _ _=>none) (fun _ _ _ _=>none) (fun _ _ _ _ _=>none) (fun _ _ _ _ _=>none) (fun _ _ _ _ _=>none) (fun a b c p=>some ⟨(a,b,c,p),rfl⟩) (fun _ _ _ _=>none) (fun _ _ _=>none) (fun _ _ _=>none) (fun _ _ _=>none) (fun _ _ _=>none) (fun _ _ _ _ _=>none) (fun _ _ _ _ _=>none) (fun _ _ _=>none) (fun _ _=>none) (fun _ _ _ _=>none) (fun _ _=>none) (fun _ _=>none) (fun _ _=>none) (fun _=>none) (fun _=>none) (fun _=>none)
theorem on_true {α:Type} {o:Option α} {k:α→Bool} (h:on o k=true):∃ a,k a=true:=by
 cases o with
 | none=>cases h
 | some a=>exact ⟨a,h⟩
theorem on_some {α:Type} {o:Option α} {k:α→Bool} (h:on o k=true):∃ a,o=some a∧k a=true:=by
 cases o with
 | none=>cases h
 | some a=>exact ⟨a,rfl,h⟩
theorem call_eq {x f f':Expr} {xs xs':List Expr} {ks ks':List Keyword} {q:Pos} (e:x = .Call f xs ks q) (h:f=f') (hx:xs=xs') (hk:ks=ks'):x = .Call f' xs' ks' q:=by rw [e,h,hx,hk]
theorem cmp_eq {x a:Expr} {o o':List CmpOp} {xs xs':List Expr} {q:Pos} (e:x = .Compare a o xs q) (h:o=o') (hx:xs=xs'):x = .Compare a o' xs' q:=by rw [e,h,hx]
theorem sub_eq {x a s s':Expr} {q:Pos} (e:x = .Subscript a s q) (h:s=s'):x = .Subscript a s' q:=by rw [e,h]
theorem slice_eq {x:Expr} {a b c c':Option Expr} {q:Pos} (e:x = .Slice a b c q) (h:c=c'):x = .Slice a b c' q:=by rw [e,h]
theorem attr_eq {x a:Expr} {n n':Str} {q:Pos} (e:x = .Attribute a n q) (h:n=n'):x = .Attribute a n' q:=by rw [e,h]
theorem name_eq {x:Expr} {n n':Str} {q:Pos} (e:x = .Name n q) (h:n=n'):x = .Name n' q:=by rw [e,h]
theorem assign_eq {x:Stmt} {a a':List Expr} {v:Expr} {q:Pos} (e:x = .Assign a v q) (h:a=a'):x = .Assign a' v q:=by rw [e,h]
theorem one_eq {a b:Expr} {l:List Expr} (e:l=[a]) (h:a=b):l=[b]:=by rw [e,h]
theorem exprS_eq {x:Stmt} {a a':Expr} {q:Pos} (e:x = .Expr a q) (h:a=a'):x = .Expr a' q:=by rw [e,h]
theorem retS_eq {x:Stmt} {a a':Option Expr} {q:Pos} (e:x = .Return a q) (h:a=a'):x = .Return a' q:=by rw [e,h]
theorem forS_eq {x:Stmt} {t i:Expr} {b o o':List Stmt} {q:Pos} (e:x = .For t i b o q) (h:o=o'):x = .For t i b o' q:=by rw [e,h]
theorem chk_eq {C:Cfg} {c:CE} {sc:Names} {x y:Expr} (e:x=y) (h:chkE C c sc x=true):chkE C c sc y=true:=by rw [← e]; exact h
theorem glob_eq {sc:Names} {x y:Str} (e:x=y) (h:isGlob sc x=true):isGlob sc y=true:=by rw [← e]; exact h
theorem inv_none {C:Cfg}  {sc:Names} {x:Expr} (h:chkE C .none sc x=true):∃ k p,x = .Constant .none k p:=by
 obtain ⟨v,h⟩:=on_true h
 exact ⟨_,_,v.2.trans (by rw [of_decide_eq_true h])⟩
theorem inv_bool {C:Cfg} {b:Bool} {sc:Names} {x:Expr} (h:chkE C (.bool b) sc x=true):∃ k p,x = .Constant (.bool b) k p:=by
 obtain ⟨v,h⟩:=on_true h
 exact ⟨_,_,v.2.trans (by rw [of_decide_eq_true h])⟩
theorem inv_int {C:Cfg} {i:Int} {sc:Names} {x:Expr} (h:chkE C (.int i) sc x=true):∃ k p,x = .Constant (.int i) k p:=by
 obtain ⟨v,h⟩:=on_true h
 exact ⟨_,_,v.2.trans (by rw [of_decide_eq_true h])⟩
theorem inv_str {C:Cfg} {y:Str} {sc:Names} {x:Expr} (h:chkE C (.str y) sc x=true):∃ k p,x = .Constant (.str y) k p:=by
 obtain ⟨v,h⟩:=on_true h
 exact ⟨_,_,v.2.trans (by rw [of_decide_eq_true h])⟩
inductive I_inv_var (C:Cfg) (i:Nat) (sc:Names) (x:Expr):Prop
 | mk (y) (p) (h0q:x = .Name y p) (h1q:isNm C i y=true) (h2q:isVar sc y=true)
theorem inv_var {C:Cfg} {i:Nat} {sc:Names} {x:Expr} (h:chkE C (.var i) sc x=true):I_inv_var C i sc x:=by
 obtain ⟨v1,h⟩:=on_true h
 have h:=and_true2 h
 exact ⟨_,_,v1.2,h.1,h.2⟩
inductive I_inv_glob (C:Cfg) (gi:Nat) (sc:Names) (x:Expr):Prop
 | mk (y) (p) (h0q:x = .Name y p) (h1q:isGlob sc y=true) (h2q:globOk C gi y=true)
theorem inv_glob {C:Cfg} {gi:Nat} {sc:Names} {x:Expr} (h:chkE C (.glob gi) sc x=true):I_inv_glob C gi sc x:=by
 obtain ⟨v1,h⟩:=on_true h
 have h:=and_true2 h
 exact ⟨_,_,v1.2,h.1,h.2⟩
inductive I_inv_tup (C:Cfg) (es:CEs) (sc:Names) (x:Expr):Prop
 | mk (xs) (k) (p) (h0q:x = .Tuple xs k p) (h1q:noStar xs=true) (h2q:xs.length≤1000) (h3q:chkEs C es sc xs=true)
theorem inv_tup {C:Cfg} {es:CEs} {sc:Names} {x:Expr} (h:chkE C (.tup es) sc x=true):I_inv_tup C es sc x:=by
 obtain ⟨v1,h⟩:=on_true h
 obtain ⟨h,h3⟩:=and_true2 h
 obtain ⟨h1,h2⟩:=and_true2 h
 exact ⟨_,_,_,v1.2,h1,of_decide_eq_true h2,h3⟩
inductive I_inv_list (C:Cfg) (es:CEs) (sc:Names) (x:Expr):Prop
 | mk (xs) (p) (h0q:x = .List xs p) (h1q:noStar xs=true) (h2q:xs.length≤1000) (h3q:chkEs C es sc xs=true)
theorem inv_list {C:Cfg} {m:Bool} {es:CEs} {sc:Names} {x:Expr} (h:chkE C (.list m es) sc x=true):I_inv_list C es sc x:=by
 obtain ⟨v1,h⟩:=on_true h
 obtain ⟨h,h3⟩:=and_true2 h
 obtain ⟨h1,h2⟩:=and_true2 h
 exact ⟨_,_,v1.2,h1,of_decide_eq_true h2,h3⟩
inductive I_inv_bin (C:Cfg) (o:Op) (a:CE) (b:CE) (sc:Names) (x:Expr):Prop
 | mk (y) (z) (p) (h0q:x = .BinOp y (opK o) z p) (h1q:chkE C a sc y=true) (h2q:chkE C b sc z=true)
theorem inv_bin {C:Cfg} {o:Op} {m:Bool} {a b:CE} {sc:Names} {x:Expr} (h:chkE C (.bin o m a b) sc x=true):I_inv_bin C o a b sc x:=by
 obtain ⟨v,h⟩:=on_true h
 obtain ⟨h,h3⟩:=and_true2 h
 obtain ⟨h1,h2⟩:=and_true2 h
 exact ⟨_,_,_,v.2.trans (by rw [of_decide_eq_true h1]),h2,h3⟩
inductive I_inv_not (C:Cfg) (a:CE) (sc:Names) (x:Expr):Prop
 | mk (y) (p) (h0q:x = .UnaryOp .Not y p) (h1q:chkE C a sc y=true)
theorem inv_not {C:Cfg} {a:CE} {sc:Names} {x:Expr} (h:chkE C (.not a) sc x=true):I_inv_not C a sc x:=by
 obtain ⟨v,h⟩:=on_true h
 obtain ⟨h1,h2⟩:=and_true2 h
 exact ⟨_,_,v.2.trans (by rw [of_decide_eq_true h1]),h2⟩
inductive I_inv_and (C:Cfg) (es:CEs) (sc:Names) (x:Expr):Prop
 | mk (xs) (p) (h0q:x = .BoolOp .And xs p) (h1q:chkEs C es sc xs=true)
theorem inv_and {C:Cfg} {es:CEs} {sc:Names} {x:Expr} (h:chkE C (.and es) sc x=true):I_inv_and C es sc x:=by
 obtain ⟨v,h⟩:=on_true h
 obtain ⟨h1,h2⟩:=and_true2 h
 exact ⟨_,_,v.2.trans (by rw [of_decide_eq_true h1]),h2⟩
inductive I_inv_or (C:Cfg) (es:CEs) (sc:Names) (x:Expr):Prop
 | mk (xs) (p) (h0q:x = .BoolOp .Or xs p) (h1q:chkEs C es sc xs=true)
theorem inv_or {C:Cfg} {es:CEs} {sc:Names} {x:Expr} (h:chkE C (.or es) sc x=true):I_inv_or C es sc x:=by
 obtain ⟨v,h⟩:=on_true h
 obtain ⟨h1,h2⟩:=and_true2 h
 exact ⟨_,_,v.2.trans (by rw [of_decide_eq_true h1]),h2⟩
inductive I_inv_cmp (C:Cfg) (o:Cmp) (a:CE) (b:CE) (sc:Names) (x:Expr):Prop
 | mk (y) (z) (p) (h0q:x = .Compare y [cmpK o] [z] p) (h1q:notSet z=true) (h2q:chkE C a sc y=true) (h3q:chkE C b sc z=true)
theorem inv_cmp {C:Cfg} {o:Cmp} {a b:CE} {sc:Names} {x:Expr} (h:chkE C (.cmp o a b) sc x=true):I_inv_cmp C o a b sc x:=by
 obtain ⟨v1,h⟩:=on_true h
 obtain ⟨v2,h⟩:=on_true h
 obtain ⟨v3,h⟩:=on_true h
 obtain ⟨h,h4⟩:=and_true2 h
 obtain ⟨h,h3⟩:=and_true2 h
 obtain ⟨h1,h2⟩:=and_true2 h
 have h1:v2.1=cmpK o:=of_decide_eq_true h1
 exact ⟨v1.1.1,v3.1,v1.1.2.2.2,cmp_eq v1.2 (v2.2.trans (congrArg (fun o=>[o]) h1)) v3.2,h2,h3,h4⟩
inductive I_inv_ife (C:Cfg) (t:CE) (a:CE) (b:CE) (sc:Names) (x:Expr):Prop
 | mk (y) (z) (u) (p) (h0q:x = .IfExp y z u p) (h1q:chkE C t sc y=true) (h2q:chkE C a sc z=true) (h3q:chkE C b sc u=true)
theorem inv_ife {C:Cfg} {t a b:CE} {sc:Names} {x:Expr} (h:chkE C (.ife t a b) sc x=true):I_inv_ife C t a b sc x:=by
 obtain ⟨v1,h⟩:=on_true h
 obtain ⟨h,h3⟩:=and_true2 h
 obtain ⟨h1,h2⟩:=and_true2 h
 exact ⟨_,_,_,_,v1.2,h1,h2,h3⟩
inductive I_inv_call (C:Cfg) (f:Nat) (es:CEs) (sc:Names) (x:Expr):Prop
 | mk (y) (p) (xs) (q) (h0q:x = .Call (.Name y p) xs [] q) (h1q:isGlob sc y=true) (h2q:C.gf.lookup y=some f) (h3q:noStar xs=true) (h4q:xs.length<30) (h5q:chkEs C es sc xs=true)
theorem inv_call {C:Cfg} {f:Nat} {es:CEs} {sc:Names} {x:Expr} (h:chkE C (.call f es) sc x=true):I_inv_call C f es sc x:=by
 obtain ⟨v1,h⟩:=on_true h
 obtain ⟨⟨e1⟩,h⟩:=on_true h
 obtain ⟨v2,h⟩:=on_true h
 have e1:v1.1.2.2.1=[]:=e1
 obtain ⟨h,h5⟩:=and_true2 h
 obtain ⟨h,h4⟩:=and_true2 h
 obtain ⟨h,h3⟩:=and_true2 h
 obtain ⟨h1,h2⟩:=and_true2 h
 exact ⟨v2.1.1,v2.1.2,v1.1.2.1,v1.1.2.2.2,call_eq v1.2 v2.2 rfl e1,h1,of_decide_eq_true h2,h3,of_decide_eq_true h4,h5⟩
inductive I_inv_new (C:Cfg) (c:Nat) (es:CEs) (sc:Names) (x:Expr):Prop
 | mk (y) (p) (xs) (q) (h0q:x = .Call (.Name y p) xs [] q) (h1q:isGlob sc y=true) (h2q:C.gc.lookup y=some c) (h3q:noStar xs=true) (h4q:xs.length<30) (h5q:chkEs C es sc xs=true)
theorem inv_new {C:Cfg} {c:Nat} {es:CEs} {sc:Names} {x:Expr} (h:chkE C (.new c es) sc x=true):I_inv_new C c es sc x:=by
 obtain ⟨v1,h⟩:=on_true h
 obtain ⟨⟨e1⟩,h⟩:=on_true h
 obtain ⟨v2,h⟩:=on_true h
 have e1:v1.1.2.2.1=[]:=e1
 obtain ⟨h,h5⟩:=and_true2 h
 obtain ⟨h,h4⟩:=and_true2 h
 obtain ⟨h,h3⟩:=and_true2 h
 obtain ⟨h1,h2⟩:=and_true2 h
 exact ⟨v2.1.1,v2.1.2,v1.1.2.1,v1.1.2.2.2,call_eq v1.2 v2.2 rfl e1,h1,of_decide_eq_true h2,h3,of_decide_eq_true h4,h5⟩
inductive I_inv_meth (C:Cfg) (a:CE) (m:Nat) (es:CEs) (sc:Names) (x:Expr):Prop
 | mk (o) (n) (ap) (xs) (q) (h0q:x = .Call (.Attribute o n ap) xs [] q) (h1q:isNm C m n=true) (h2q:attrBaseOk o=true) (h3q:ap.endLine=q.line) (h4q:noStar xs=true) (h5q:xs.length<30) (h6q:chkE C a sc o=true) (h7q:chkEs C es sc xs=true)
theorem inv_meth {C:Cfg} {a:CE} {m:Nat} {es:CEs} {sc:Names} {x:Expr} (h:chkE C (.meth a m es) sc x=true):I_inv_meth C a m es sc x:=by
 obtain ⟨v1,h⟩:=on_true h
 obtain ⟨⟨e1⟩,h⟩:=on_true h
 obtain ⟨v2,h⟩:=on_true h
 have e1:v1.1.2.2.1=[]:=e1
 obtain ⟨h,h7⟩:=and_true2 h
 obtain ⟨h,h6⟩:=and_true2 h
 obtain ⟨h,h5⟩:=and_true2 h
 obtain ⟨h,h4⟩:=and_true2 h
 obtain ⟨h,h3⟩:=and_true2 h
 obtain ⟨h1,h2⟩:=and_true2 h
 exact ⟨v2.1.1,v2.1.2.1,v2.1.2.2,v1.1.2.1,v1.1.2.2.2,call_eq v1.2 v2.2 rfl e1,h1,h2,of_decide_eq_true h3,h4,of_decide_eq_true h5,h6,h7⟩
inductive I_inv_bm (C:Cfg) (k:BM) (a:CE) (es:CEs) (sc:Names) (x:Expr):Prop
 | mk (o) (ap) (xs) (q) (h0q:x = .Call (.Attribute o (bmName k) ap) xs [] q) (h1q:attrBaseOk o=true) (h2q:ap.endLine=q.line) (h3q:noStar xs=true) (h4q:xs.length<30) (h5q:chkE C a sc o=true) (h6q:chkEs C es sc xs=true)
theorem inv_bm {C:Cfg} {k:BM} {a:CE} {es:CEs} {sc:Names} {x:Expr} (h:chkE C (.bm k a es) sc x=true):I_inv_bm C k a es sc x:=by
 obtain ⟨v1,h⟩:=on_true h
 obtain ⟨⟨e1⟩,h⟩:=on_true h
 obtain ⟨v2,h⟩:=on_true h
 have e1:v1.1.2.2.1=[]:=e1
 obtain ⟨h,h7⟩:=and_true2 h
 obtain ⟨h,h6⟩:=and_true2 h
 obtain ⟨h,h5⟩:=and_true2 h
 obtain ⟨h,h4⟩:=and_true2 h
 obtain ⟨h,h3⟩:=and_true2 h
 obtain ⟨h1,h2⟩:=and_true2 h
 have h1:v2.1.2.1=bmName k:=of_decide_eq_true h1
 exact ⟨v2.1.1,v2.1.2.2,v1.1.2.1,v1.1.2.2.2,call_eq v1.2 (attr_eq v2.2 h1) rfl e1,h2,of_decide_eq_true h3,h4,of_decide_eq_true h5,h6,h7⟩
inductive I_inv_bi (C:Cfg) (k:BI) (es:CEs) (sc:Names) (x:Expr):Prop
 | mk (p) (xs) (q) (ys) (h0q:x = .Call (.Name (biName k) p) xs [] q) (h1q:isGlob sc (biName k)=true) (h2q:noStar xs=true) (h3q:firstExtra k xs sc=some ys) (h4q:noStar ys=true) (h5q:chkEs C es sc ys=true)
theorem inv_bi {C:Cfg} {k:BI} {es:CEs} {sc:Names} {x:Expr} (h:chkE C (.bi k es) sc x=true):I_inv_bi C k es sc x:=by
 obtain ⟨v1,h⟩:=on_true h
 obtain ⟨⟨e1⟩,h⟩:=on_true h
 obtain ⟨v2,h⟩:=on_true h
 have e1:v1.1.2.2.1=[]:=e1
 obtain ⟨h,h4⟩:=and_true2 h
 obtain ⟨h,h3⟩:=and_true2 h
 obtain ⟨h1,h2⟩:=and_true2 h
 have h2:v2.1.1=biName k:=of_decide_eq_true h2
 obtain ⟨ys,e4,h4⟩:=on_some h4
 obtain ⟨h4,h5⟩:=and_true2 h4
 exact ⟨v2.1.2,v1.1.2.1,v1.1.2.2.2,ys,call_eq v1.2 (name_eq v2.2 h2) rfl e1,glob_eq h2 h1,h3,e4,h4,h5⟩
inductive I_inv_attr (C:Cfg) (a:CE) (m:Nat) (sc:Names) (x:Expr):Prop
 | mk (o) (n) (p) (h0q:x = .Attribute o n p) (h1q:isNm C m n=true) (h2q:C.dat.contains m=true) (h3q:attrBaseOk o=true) (h4q:chkE C a sc o=true)
theorem inv_attr {C:Cfg} {a:CE} {m:Nat} {sc:Names} {x:Expr} (h:chkE C (.attr a m) sc x=true):I_inv_attr C a m sc x:=by
 obtain ⟨v1,h⟩:=on_true h
 obtain ⟨h,h4⟩:=and_true2 h
 obtain ⟨h,h3⟩:=and_true2 h
 obtain ⟨h1,h2⟩:=and_true2 h
 exact ⟨_,_,_,v1.2,h1,h2,h3,h4⟩
inductive I_inv_sub (C:Cfg) (a:CE) (i:CE) (sc:Names) (x:Expr):Prop
 | mk (o) (j) (p) (h0q:x = .Subscript o j p) (h1q:notSlice j=true) (h2q:chkE C a sc o=true) (h3q:chkE C i sc j=true)
theorem inv_sub {C:Cfg} {a i:CE} {sc:Names} {x:Expr} (h:chkE C (.sub a i) sc x=true):I_inv_sub C a i sc x:=by
 obtain ⟨v1,h⟩:=on_true h
 obtain ⟨h,h3⟩:=and_true2 h
 obtain ⟨h1,h2⟩:=and_true2 h
 exact ⟨_,_,_,v1.2,h1,h2,h3⟩
inductive I_inv_slice (C:Cfg) (a:CE) (lo:CO) (hi:CO) (sc:Names) (x:Expr):Prop
 | mk (o) (l) (u) (q) (p) (h0q:x = .Subscript o (.Slice l u none q) p) (h1q:chkE C a sc o=true) (h2q:chkO C lo sc l=true) (h3q:chkO C hi sc u=true)
theorem inv_slice {C:Cfg} {a:CE} {lo hi:CO} {sc:Names} {x:Expr} (h:chkE C (.slice a lo hi) sc x=true):I_inv_slice C a lo hi sc x:=by
 obtain ⟨v1,h⟩:=on_true h
 obtain ⟨v2,h⟩:=on_true h
 obtain ⟨⟨e3⟩,h⟩:=on_true h
 have e3:v2.1.2.2.1=none:=e3
 obtain ⟨h,h3⟩:=and_true2 h
 obtain ⟨h1,h2⟩:=and_true2 h
 exact ⟨v1.1.1,v2.1.1,v2.1.2.1,v2.1.2.2.2,v1.1.2.2,sub_eq v1.2 (slice_eq v2.2 e3),h1,h2,h3⟩
inductive I_range_inv (t:Str) (sc:Names) (x:Expr) (P:Expr→Bool):Prop
 | mk (y) (p) (q) (h0q:x = .Call (.Name t p) [y] [] q) (h1q:isGlob sc t=true) (h2q:noStar [y]=true) (h3q:P y=true)
theorem range_inv {C:Cfg} {t:Str} {sc:Names} {x:Expr} {P:Expr→Bool} (h:(on (rdCall x) fun v=>on (isNil v.1.2.2.1) fun _=>on (rdName v.1.1) fun n=>on (one? v.1.2.1) fun y=>decide (n.1.1=t)&&isGlob sc n.1.1&&noStar [y.1]&&P y.1)=true):I_range_inv t sc x P:=by
 obtain ⟨v1,h⟩:=on_true h
 obtain ⟨⟨e1⟩,h⟩:=on_true h
 obtain ⟨v2,h⟩:=on_true h
 obtain ⟨v3,h⟩:=on_true h
 obtain ⟨h,h4⟩:=and_true2 h
 obtain ⟨h,h3⟩:=and_true2 h
 obtain ⟨h1,h2⟩:=and_true2 h
 have h1:v2.1.1=t:=of_decide_eq_true h1
 have e1:v1.1.2.2.1=[]:=e1
 exact ⟨v3.1,v2.1.2,v1.1.2.2.2,call_eq v1.2 (name_eq v2.2 h1) v3.2 e1,glob_eq h1 h2,h3,h4⟩
inductive I_pair_inv (t:Str) (sc:Names) (x:Expr) (P:Expr→Bool) (Q:Expr→Bool):Prop
 | mk (y) (z) (p) (q) (h0q:x = .Call (.Name t p) [y,z] [] q) (h1q:isGlob sc t=true) (h2q:noStar [y,z]=true) (h3q:P y=true) (h4q:Q z=true)
theorem pair_inv {C:Cfg} {t:Str} {sc:Names} {x:Expr} {P Q:Expr→Bool} (h:(on (rdCall x) fun v=>on (isNil v.1.2.2.1) fun _=>on (rdName v.1.1) fun n=>on (two? v.1.2.1) fun y=>decide (n.1.1=t)&&isGlob sc n.1.1&&noStar [y.1.1,y.1.2]&&P y.1.1&&Q y.1.2)=true):I_pair_inv t sc x P Q:=by
 obtain ⟨v1,h⟩:=on_true h
 obtain ⟨⟨e1⟩,h⟩:=on_true h
 obtain ⟨v2,h⟩:=on_true h
 obtain ⟨v3,h⟩:=on_true h
 obtain ⟨h,h5⟩:=and_true2 h
 obtain ⟨h,h4⟩:=and_true2 h
 obtain ⟨h,h3⟩:=and_true2 h
 obtain ⟨h1,h2⟩:=and_true2 h
 have h1:v2.1.1=t:=of_decide_eq_true h1
 have e1:v1.1.2.2.1=[]:=e1
 exact ⟨v3.1.1,v3.1.2,v2.1.2,v1.1.2.2.2,call_eq v1.2 (name_eq v2.2 h1) v3.2 e1,glob_eq h1 h2,h3,h4,h5⟩
inductive I_inv_chkT_nm (C:Cfg) (i:Nat) (sc:Names) (x:Expr):Prop
 | mk (y) (p) (h0q:x = .Name y p) (h1q:isNm C i y=true) (h2q:isVar sc y=true) (h3q:notFree sc y=true)
theorem inv_chkT_nm {C:Cfg} {i:Nat} {sc:Names} {x:Expr} (h:chkT C (.nm i) sc x=true):I_inv_chkT_nm C i sc x:=by
 obtain ⟨v1,h⟩:=on_true h
 obtain ⟨h,h3⟩:=and_true2 h
 obtain ⟨h1,h2⟩:=and_true2 h
 exact ⟨v1.1.1,v1.1.2,v1.2,h1,h2,h3⟩
inductive I_inv_chkT_tup (C:Cfg) (ts:CTs) (sc:Names) (x:Expr):Prop
 | mk (xs) (k) (p) (h0q:x = .Tuple xs k p) (h1q:noStar xs=true) (h2q:chkTs C ts sc xs=true)
theorem inv_chkT_tup {C:Cfg} {ts:CTs} {sc:Names} {x:Expr} (h:chkT C (.tup ts) sc x=true):I_inv_chkT_tup C ts sc x:=by
 obtain ⟨v1,h⟩:=on_true h
 obtain ⟨h1,h2⟩:=and_true2 h
 exact ⟨v1.1.1,v1.1.2.1,v1.1.2.2,v1.2,h1,h2⟩
inductive I_inv_assign (C:Cfg) (t:CT) (e:CE) (sc:Names) (x:Stmt):Prop
 | mk (tx) (v) (p) (h0q:x = .Assign [tx] v p) (h1q:chkT C t sc tx=true) (h2q:chkE C e sc v=true) (h3q:tupC t v=true) (h4q:noSD v=true)
theorem inv_assign {C:Cfg} {t:CT} {e:CE} {sc:Names} {x:Stmt} (h:chkS C (.assign t e) sc x=true):I_inv_assign C t e sc x:=by
 obtain ⟨v1,h⟩:=on_true h
 obtain ⟨v2,h⟩:=on_true h
 obtain ⟨h,h4⟩:=and_true2 h
 obtain ⟨h,h3⟩:=and_true2 h
 obtain ⟨h1,h2⟩:=and_true2 h
 exact ⟨v2.1,v1.1.2.1,v1.1.2.2,assign_eq v1.2 v2.2,h1,h2,h3,h4⟩
inductive I_inv_setAttr (C:Cfg) (a:CE) (e:CE) (m:Nat) (sc:Names) (x:Stmt):Prop
 | mk (o) (n) (q) (v) (p) (h0q:x = .Assign [.Attribute o n q] v p) (h1q:isNm C m n=true) (h2q:C.dat.contains m=true) (h3q:chkE C a sc o=true) (h4q:chkE C e sc v=true)
theorem inv_setAttr {C:Cfg} {a e:CE} {m:Nat} {sc:Names} {x:Stmt} (h:chkS C (.setAttr a m e) sc x=true):I_inv_setAttr C a e m sc x:=by
 obtain ⟨v1,h⟩:=on_true h
 obtain ⟨v2,h⟩:=on_true h
 obtain ⟨v3,h⟩:=on_true h
 obtain ⟨h,h4⟩:=and_true2 h
 obtain ⟨h,h3⟩:=and_true2 h
 obtain ⟨h1,h2⟩:=and_true2 h
 exact ⟨v3.1.1,v3.1.2.1,v3.1.2.2,v1.1.2.1,v1.1.2.2,assign_eq v1.2 (one_eq v2.2 v3.2),h1,h2,h3,h4⟩
inductive I_inv_setSub (C:Cfg) (a:CE) (i:CE) (e:CE) (sc:Names) (x:Stmt):Prop
 | mk (o) (j) (q) (v) (p) (h0q:x = .Assign [.Subscript o j q] v p) (h1q:notSlice j=true) (h2q:chkE C a sc o=true) (h3q:chkE C i sc j=true) (h4q:chkE C e sc v=true)
theorem inv_setSub {C:Cfg} {a i e:CE} {sc:Names} {x:Stmt} (h:chkS C (.setSub a i e) sc x=true):I_inv_setSub C a i e sc x:=by
 obtain ⟨v1,h⟩:=on_true h
 obtain ⟨v2,h⟩:=on_true h
 obtain ⟨v3,h⟩:=on_true h
 obtain ⟨h,h4⟩:=and_true2 h
 obtain ⟨h,h3⟩:=and_true2 h
 obtain ⟨h1,h2⟩:=and_true2 h
 exact ⟨v3.1.1,v3.1.2.1,v3.1.2.2,v1.1.2.1,v1.1.2.2,assign_eq v1.2 (one_eq v2.2 v3.2),h1,h2,h3,h4⟩
inductive I_inv_expr (C:Cfg) (e:CE) (sc:Names) (x:Stmt):Prop
 | mk (f) (as) (ks) (q) (p) (h0q:x = .Expr (.Call f as ks q) p) (h1q:chkE C e sc (.Call f as ks q)=true)
theorem inv_expr {C:Cfg} {e:CE} {sc:Names} {x:Stmt} (h:chkS C (.expr e) sc x=true):I_inv_expr C e sc x:=by
 obtain ⟨v1,h⟩:=on_true h
 obtain ⟨v2,h⟩:=on_true h
 exact ⟨v2.1.1,v2.1.2.1,v2.1.2.2.1,v2.1.2.2.2,v1.1.2,exprS_eq v1.2 v2.2,chk_eq v2.2 h⟩
inductive I_inv_ret (C:Cfg) (e:CE) (sc:Names) (x:Stmt):Prop
 | mk (y) (p) (h0q:x = .Return (some y) p) (h1q:chkE C e sc y=true)
theorem inv_ret {C:Cfg} {e:CE} {sc:Names} {x:Stmt} (h:chkS C (.ret e) sc x=true):I_inv_ret C e sc x:=by
 obtain ⟨v1,h⟩:=on_true h
 obtain ⟨v2,h⟩:=on_true h
 exact ⟨v2.1,v1.1.2,retS_eq v1.2 v2.2,h⟩
theorem inv_retNone {C:Cfg} {sc:Names} {x:Stmt} (h:chkS C .retNone sc x=true):∃ p,x = .Return none p:=by
 obtain ⟨v1,h⟩:=on_true h
 obtain ⟨⟨e2⟩,h⟩:=on_true h
 have e2:v1.1.1=none:=e2
 exact ⟨v1.1.2,retS_eq v1.2 e2⟩
inductive I_inv_ifS (C:Cfg) (t:CE) (a:CSs) (b:CSs) (sc:Names) (x:Stmt):Prop
 | mk (y) (z) (u) (p) (h0q:x = .If y z u p) (h1q:chkE C t sc y=true) (h2q:chkSs C a sc z=true) (h3q:chkSs C b sc u=true)
theorem inv_ifS {C:Cfg} {t:CE} {a b:CSs} {sc:Names} {x:Stmt} (h:chkS C (.ifS t a b) sc x=true):I_inv_ifS C t a b sc x:=by
 obtain ⟨v1,h⟩:=on_true h
 obtain ⟨h,h3⟩:=and_true2 h
 obtain ⟨h1,h2⟩:=and_true2 h
 exact ⟨v1.1.1,v1.1.2.1,v1.1.2.2.1,v1.1.2.2.2,v1.2,h1,h2,h3⟩
inductive I_inv_forS (C:Cfg) (t:CT) (it:CI) (b:CSs) (sc:Names) (x:Stmt):Prop
 | mk (tx) (y) (z) (p) (h0q:x = .For tx y z [] p) (h1q:chkT C t sc tx=true) (h2q:chkI C it sc tx y=true) (h3q:chkSs C b sc z=true)
theorem inv_forS {C:Cfg} {t:CT} {it:CI} {b:CSs} {sc:Names} {x:Stmt} (h:chkS C (.forS t it b) sc x=true):I_inv_forS C t it b sc x:=by
 obtain ⟨v1,h⟩:=on_true h
 obtain ⟨⟨e2⟩,h⟩:=on_true h
 obtain ⟨h,h3⟩:=and_true2 h
 obtain ⟨h1,h2⟩:=and_true2 h
 have e2:v1.1.2.2.2.1=[]:=e2
 exact ⟨v1.1.1,v1.1.2.1,v1.1.2.2.1,v1.1.2.2.2.2,forS_eq v1.2 e2,h1,h2,h3⟩
structure Wired (g:Glb) (C:Cfg):Prop where
 nm:C.nm=g.nm
 globs:C.globs=g.P.globs
 dat:C.dat=g.dat
 gfun:∀ x f,C.gf.lookup x=some f→nsIn g.K mainGlobals x=some (some (.ref (g.fa f)))
 gcls:∀ x c,C.gc.lookup x=some c→nsIn g.K mainGlobals x=some (some (.ref (g.cls c)))
 isfn:∀ f,f<g.P.fns.length→∃ o fd,g.K.lookup (g.fa f)=some o∧o.data = .func fd
 gval:∀ (gi n:Nat) (p:PV) (x:Str),C.globs[gi]? = some (n,p)→C.nm[n]? = some x→∃ v,nsIn g.K mainGlobals x=some (some v)∧RP (Lv g.base) g.base v p
 built:∀ x v,(x,v) ∈ builtNames→nsIn g.K mainGlobals x=some none
 meth:∀ c m f x,g.P.meths.lookup (c,m)=some f→g.nm[m]? = some x→findIn g.K (.ref (g.cls c)) x=some (some (.ref (g.fa f)))∧typeIn g.K (.ref (g.fa f))=some (.type "function")
 ga:∀ c,(g.P.inits.lookup c).isSome=true→findIn g.K (.ref (g.cls c)) "__getattribute__" = some (some (.builtin "object.__getattribute__"))∧findIn g.K (.ref (g.cls c)) "__getattr__" = some none∧makesIn g.K (g.cls c)=true
 init:∀ c f,g.P.inits.lookup c=some (some f)→findIn g.K (.ref (g.cls c)) "__init__" = some (some (.ref (g.fa f)))∧typeIn g.K (.ref (g.fa f))=some (.type "function")
 fns:∀ c m f,g.P.meths.lookup (c,m)=some f→f<g.P.fns.length
 ifns:∀ c f,g.P.inits.lookup c=some (some f)→f<g.P.fns.length
 ckeep:∀ c,(g.P.inits.lookup c).isSome=true→keepIn g.K (.ref (g.cls c))=true
 gfns:∀ x f,C.gf.lookup x=some f→f<g.P.fns.length
structure Room1 (d:Nat) (A:Around):Prop where
 depth:A.depth+2 * d+11<recursionLimit
 units:A.units+20 * d+210<cLine
 handled:A.handled=none
 guards:A.guards=some []
theorem Room1.room {d:Nat} {A:Around} (h:Room1 d A):Room d A:=⟨by have:=h.depth; exact Nat.lt_of_succ_lt this,by have:=h.units; exact Nat.lt_of_le_of_lt (Nat.add_le_add_left (show 200≤210 by decide) _) this,h.handled,h.guards⟩
structure Here (g:Glb) (d:Nat) (A:Around) (env:PySem.Env) (sc:Names) (asg:Str→Bool) (X:Addr→Prop):Prop where
 ok:EOK g env asg X
 room:Room1 d A
 names:env.scope.names=sc
noncomputable def CallsOk (g:Glb) (d:Nat) (call:Nat→List AV→St→R AV):Prop :=
 ∀ {f:Nat} {vs:List AV} {σ σ':St} {r:AV},f<g.P.fns.length→call f vs σ=some (r,σ')→∀ {A:Around} {s:Shared} {Z:Addr→Prop} {bs:List Nat} {ρ:Rho} {E:Value→Shared→Prop} {Q:Value→Shared→Prop} {vals:List Value},
  Room d A→Rel g Z bs ρ σ s.heap→RAs ρ (Fz Z ρ σ) s.heap vals vs→Done g Z bs ρ σ s r σ' Q →
   codeAny (model g.prog g.w) A (.call (.ref (g.fa f)) ⟨vals,[]⟩) (fun r s'=>match r with | .ok (.ret v)=>Q v s' | .ok _=>False | .error e=>E e s') s
structure SE (g:Glb) (C:Cfg) (d:Nat) (K:Ctx) (e:CE):Prop where
 ok:∀ {x:Expr} {sc:Names} {A:Around} {s:Shared} {env:PySem.Env} {asg:Str→Bool} {X Z:Addr→Prop} {Γ:Env} {bs:List Nat} {ρ:Rho} {σ σ':St} {E:Value→Shared→Prop} {r:AV} {Q:Value→Shared→Prop},
  chkE C e sc x=true→Here g d A env sc asg X→Rel g Z bs ρ σ s.heap→ER g Z ρ σ s.heap env Γ→evE K Γ e σ=some (r,σ')→Done g Z bs ρ σ s r σ' Q→wpAny (model g.prog g.w) A (eval x env) Q E s
noncomputable abbrev DoneL (g:Glb) (Z:Addr→Prop) (bs:List Nat) (ρ:Rho) (σ:St) (s:Shared) (rs:List AV) (σ':St) (Q:List Value→Shared→Prop):Prop :=
 ∀ vals s' ρ',Rel g Z bs ρ' σ' s'.heap→Post NoX ρ σ s ρ' σ' s'→RAs ρ' (Fz Z ρ' σ') s'.heap vals rs→Q vals s'
structure SEs (g:Glb) (C:Cfg) (d:Nat) (K:Ctx) (es:CEs):Prop where
 ok:∀ {xs:List Expr} {sc:Names} {A:Around} {s:Shared} {env:PySem.Env} {asg:Str→Bool} {X Z:Addr→Prop} {Γ:Env} {bs:List Nat} {ρ:Rho} {σ σ':St} {E:Value→Shared→Prop} {rs:List AV} {Q:List Value→Shared→Prop} {pos:Pos},
  chkEs C es sc xs=true→noStar xs=true→Here g d A env sc asg X→Rel g Z bs ρ σ s.heap→ER g Z ρ σ s.heap env Γ→evEs K Γ es σ=some (rs,σ')→DoneL g Z bs ρ σ s rs σ' Q→wpAny (model g.prog g.w) A (spliced (backTo pos (starEach xs env))) Q E s
structure ST (g:Glb) (C:Cfg) (d:Nat) (K:Ctx) (e:CE):Prop where
 ok:∀ {x:Expr} {sc:Names} {A:Around} {s:Shared} {env:PySem.Env} {asg:Str→Bool} {X Z:Addr→Prop} {Γ:Env} {bs:List Nat} {ρ:Rho} {σ σ':St} {E:Value→Shared→Prop} {b:Bool} {Q:Bool→Shared→Prop},
  chkE C e sc x=true→Here g d A env sc asg X→Rel g Z bs ρ σ s.heap→ER g Z ρ σ s.heap env Γ→evE K Γ e σ=some (.pv (.bool b),σ') →
  (∀ s' ρ',Rel g Z bs ρ' σ' s'.heap→Post NoX ρ σ s ρ' σ' s'→Q b s')→wpAny (model g.prog g.w) A (isTrue x env (eval x env)) Q E s
section
variable {g:Glb} {C:Cfg} {d:Nat} {K:Ctx} {A:Around} {s s1:Shared} {Z:Addr→Prop} {bs:List Nat} {ρ ρ1:Rho} {σ σ1 σ':St} {E:Value→Shared→Prop}
theorem Done.from {r:AV} {Q:Value→Shared→Prop} (P:Post NoX ρ σ s ρ1 σ1 s1) (K:Done g Z bs ρ σ s r σ' Q):Done g Z bs ρ1 σ1 s1 r σ' Q :=
 fun val s' ρ' h1 h2 h3=>K val s' ρ' h1 (P.trans h2) h3
theorem DoneL.from {r:List AV} {Q:List Value→Shared→Prop} (P:Post NoX ρ σ s ρ1 σ1 s1) (K:DoneL g Z bs ρ σ s r σ' Q):DoneL g Z bs ρ1 σ1 s1 r σ' Q :=
 fun val s' ρ' h1 h2 h3=>K val s' ρ' h1 (P.trans h2) h3
theorem isVar_kind {sc:Names} {y:Str} (h:isVar sc y=true):(sc.lookup y=some .local∨sc.lookup y=some .cell∨sc.lookup y=some .free)∧(y == ("__debug__" : Str))=false∧(y == ("__classdict__" : Str))=false:=by
 have h:=and_true2 h
 have h':=and_true2 h.1
 exact ⟨of_decide_eq_true h'.1,not_true h'.2,not_true h.2⟩
theorem isGlob_kind {sc:Names} {y:Str} (h:isGlob sc y=true):sc.lookup y=some .globalImplicit∧(y == ("__debug__" : Str))=false:=by
 have h:=and_true2 h
 exact ⟨of_decide_eq_true h.1,not_true h.2⟩
theorem isNm_of {i:Nat} {y:Str} (h:isNm C i y=true):C.nm[i]? = some y:=of_decide_eq_true h
theorem Here.kind {env:PySem.Env} {sc:Names} {asg:Str→Bool} {X:Addr→Prop} (H:Here g d A env sc asg X) (y:Str):env.kindOf y=sc.lookup y:=by
 unfold PySem.Env.kindOf; rw [H.names]
theorem SE.stuck:SE g C d K .stuck:=⟨fun _ _ _ _ e _=>nomatch e⟩
theorem SE.none:SE g C d K .none:=⟨fun hc H R er e k=>by
 obtain ⟨_,_,rfl⟩:=inv_none hc
 obtain ⟨rfl,rfl⟩:=ret_same e
 exact wpAny_Constant_none (k.same R (.pv .none))⟩
theorem SE.bool {b:Bool}:SE g C d K (.bool b):=⟨fun hc H R er e k=>by
 obtain ⟨_,_,rfl⟩:=inv_bool hc
 obtain ⟨rfl,rfl⟩:=ret_same e
 exact wpAny_Constant_bool (k.same R (.pv (.bool _)))⟩
theorem SE.int {i:Int}:SE g C d K (.int i):=⟨fun hc H R er e k=>by
 obtain ⟨_,_,rfl⟩:=inv_int hc
 obtain ⟨rfl,rfl⟩:=ret_same e
 exact wpAny_Constant_int (k.toks R _ (.pv (.int _ _)))⟩
theorem SE.str {x:Str}:SE g C d K (.str x):=⟨fun hc H R er e k=>by
 obtain ⟨_,_,rfl⟩:=inv_str hc
 obtain ⟨rfl,rfl⟩:=ret_same e
 exact wpAny_Constant_str (k.toks R _ (.pv (.str _ _)))⟩
theorem SE.var (W:Wired g C) {i:Nat}:SE g C d K (.var i):=⟨fun hc H R er e k=>by
 obtain ⟨y,p,rfl,h1,h2⟩:=inv_var hc
 obtain ⟨v,hv,e⟩:=lift_some e
 cases e
 obtain ⟨hk,hd,hcd⟩:=isVar_kind h2
 have hx:=isNm_of h1
 rw [W.nm] at hx
 rw [← H.kind] at hk
 exact name_var H.ok er hv hx hk hd hcd fun val q=>k.same R q⟩
theorem SE.glob (G:GOk g) (W:Wired g C) {gi:Nat} (hK:∀ gi,K.glob gi=(g.P.globs[gi]?).map (·.2)):SE g C d K (.glob gi):=⟨fun hc H R er e k=>by
 obtain ⟨y,p,rfl,h1,h2⟩:=inv_glob hc
 obtain ⟨pv,hp,e1⟩:=opt_some e
 obtain ⟨rfl,rfl⟩:=ret_same e1
 rw [hK] at hp
 obtain ⟨np,hgi,rfl⟩:=Option.map_eq_some_iff.mp hp
 obtain ⟨hk,hd⟩:=isGlob_kind h1
 rw [← H.kind] at hk
 have h2:isNm C np.1 y=true:=by unfold globOk at h2; rw [W.globs,hgi] at h2; exact h2
 obtain ⟨v,hv,hr⟩:=W.gval gi np.1 np.2 _ (by rw [W.globs]; exact hgi) (isNm_of h2)
 refine name_glob G H.ok R hk hd hv (k.same R (.pv (hr.mono fun b o e f _=>⟨R.keep b o e,fun z=>(R.zlt z).1 f,fun ft=>?_⟩)))
 obtain ⟨i,l,o,a1,a2,a3,a4⟩:=ft
 exact (R.addrs a1 a4).1 f⟩
theorem SE.bin {o:Op} {m:Bool} {a b:CE} (ha:SE g C d K a) (hb:SE g C d K b):SE g C d K (.bin o m a b):=⟨fun hc H R er e k=>by
 obtain ⟨y,z,p,rfl,h1,h2⟩:=inv_bin hc
 obtain ⟨v,σ1,e1,e⟩:=bnd_some e
 obtain ⟨w,σ2,e2,e⟩:=bnd_some e
 refine wpAny_BinOp (ha.ok h1 H R er e1 fun va s1 ρ1 R1 P1 q1=>hb.ok h2 H R1 (er.post R P1) e2 fun vb s2 ρ2 R2 P2 q2=>?_)
 exact op_bin R2 (q1.post P2 fun _ h=>h.elim) q2 e (k.from (P1.trans P2))⟩
theorem SE.not {a:CE} (ha:SE g C d K a):SE g C d K (.not a):=⟨fun hc H R er e k=>by
 obtain ⟨y,p,rfl,h1⟩:=inv_not hc
 obtain ⟨v,σ1,e1,e2⟩:=bnd_some e
 obtain ⟨b,hb,e3⟩:=opt_some e2
 obtain ⟨rfl,rfl⟩:=ret_same e3
 exact wpAny_UnaryOp (ha.ok h1 H R er e1 fun va s1 ρ1 R1 P1 q1=>op_not R1 (truthV_some hb▸q1) (k.from P1))⟩
theorem notSet_marks {op:CmpOp} {z:Expr} (h:notSet z=true):behindInMarks op z=false:=by
 cases z <;> first | rfl | exact (Bool.false_ne_true h).elim
theorem notSet_fold {z:Expr} {env:PySem.Env} {v:Value} (h:notSet z=true):foldedSetIterable z env v=pure v:=by
 cases z <;> first | rfl | exact (Bool.false_ne_true h).elim
theorem Room1.line {d:Nat} {A:Around} (h:Room1 d A):A.units+60<cLine:=by have:=h.units; exact Nat.lt_of_le_of_lt (Nat.add_le_add (Nat.le_add_right _ _) (show 60≤210 by decide)) this
theorem SE.cmp (G:GOk g) {o:Cmp} {a b:CE} (ha:SE g C d K a) (hb:SE g C d K b):SE g C d K (.cmp o a b):=⟨fun hc H R er e k=>by
 obtain ⟨y,z,p,rfl,h0,h1,h2⟩:=inv_cmp hc
 obtain ⟨v,σ1,e1,e⟩:=bnd_some e
 obtain ⟨w,σ2,e2,e⟩:=bnd_some e
 obtain ⟨r,hr,e3⟩:=opt_some e
 obtain ⟨rfl,rfl⟩:=ret_same e3
 refine wpAny_Compare1 (ha.ok h1 H R er e1 fun va s1 ρ1 R1 P1 q1=>hb.ok h2 H R1 (er.post R P1) e2 fun vb s2 ρ2 R2 P2 q2=>?_) (notSet_marks h0)
 exact op_cmp G H.room.line R2 (q1.post P2 fun _ h=>h.elim) q2 hr (k.from (P1.trans P2))⟩
theorem SE.ife {t a b:CE} (ht:ST g C d K t) (ha:SE g C d K a) (hb:SE g C d K b):SE g C d K (.ife t a b):=⟨fun hc H R er e k=>by
 obtain ⟨y,z,u,p,rfl,h0,h1,h2⟩:=inv_ife hc
 obtain ⟨v,σ1,e1,e2⟩:=bnd_some e
 obtain ⟨c,hc',e3⟩:=opt_some e2
 rw [truthV_some hc'] at e1
 cases c with
 | true=>exact wpAny_IfExp (ht.ok h0 H R er e1 fun s1 ρ1 R1 P1=>ha.ok h1 H R1 (er.post R P1) e3 (k.from P1))
 | false=>exact wpAny_IfExp (ht.ok h0 H R er e1 fun s1 ρ1 R1 P1=>hb.ok h2 H R1 (er.post R P1) e3 (k.from P1))⟩
theorem starEach_cons {y:Expr} {xs:List Expr} {env:PySem.Env} (h:noStar (y::xs)=true):starEach (y::xs) env=(false,eval y env)::starEach xs env∧noStar xs=true:=by
 cases y <;> first | exact ⟨rfl,h⟩ | exact (Bool.false_ne_true h).elim
theorem starEach_plain:∀ {xs:List Expr} {env:PySem.Env} {pos:Pos},noStar xs=true→(backTo pos (starEach xs env)).any (·.1)=false
 | [],_,_,_=>rfl
 | y::xs,env,pos,h=>by
  obtain ⟨h1,h2⟩:=starEach_cons (env:=env) h
  rw [h1]
  show (false||(backTo pos (starEach xs env)).any (·.1))=false
  rw [starEach_plain h2]; rfl
inductive ChkCons (C:Cfg) (a:CE) (r:CEs) (sc:Names) (xs:List Expr):Prop
 | mk (y:Expr) (ys:List Expr) (e:xs=y::ys) (h1:chkE C a sc y=true) (h2:chkEs C r sc ys=true)
theorem chk_cons {a:CE} {r:CEs} {sc:Names} {xs:List Expr} (h:chkEs C (.cons a r) sc xs=true):ChkCons C a r sc xs:=by
 obtain ⟨v,h⟩:=on_true h
 obtain ⟨h1,h2⟩:=and_true2 h
 exact ⟨v.1.1,v.1.2,v.2,h1,h2⟩
theorem chk_nil {sc:Names} {xs:List Expr} (h:chkEs C .nil sc xs=true):xs=[]:=by
 obtain ⟨v,_⟩:=on_true h; exact v.1
theorem SEs.nil:SEs g C d K .nil:=⟨by
 intro xs sc A s env asg X Z Γ bs ρ σ σ' E rs Q pos hc hn H R er e k
 obtain rfl:=chk_nil hc
 obtain ⟨rfl,rfl⟩:=ret_same e
 exact wpAny_items_nil (k [] _ _ R Post.refl .nil)⟩
theorem SEs.cons {a:CE} {r:CEs} (ha:SE g C d K a) (hr:SEs g C d K r):SEs g C d K (.cons a r):=⟨by
 intro xs sc A s env asg X Z Γ bs ρ σ σ' E rs Q pos hc hn H R er e k
 obtain ⟨y,ys,rfl,c1,c2⟩:=chk_cons hc
 obtain ⟨v,σ1,e1,e⟩:=bnd_some e
 obtain ⟨vs,σ2,e2,e⟩:=bnd_some e
 obtain ⟨rfl,rfl⟩:=ret_same e
 obtain ⟨h1,h2⟩:=starEach_cons hn
 refine wpAny_items_cons (ha.ok c1 H R er e1 fun va s1 ρ1 R1 P1 q1=>hr.ok c2 h2 H R1 (er.post R P1) e2 fun vals s2 ρ2 R2 P2 q2=>?_) h1
 exact k _ _ _ R2 (P1.trans P2) (.cons (q1.post P2 fun _ h=>h.elim) q2)⟩
theorem chkEs_length:∀ {es:CEs} {sc:Names} {xs:List Expr} {Γ:Env} {σ σ':St} {rs:List AV},chkEs C es sc xs=true→evEs K Γ es σ=some (rs,σ')→rs.length=xs.length
 | .nil,_,xs,_,_,_,rs,h,e=>by
  obtain ⟨h1,_⟩:=ret_same e
  rw [chk_nil h,← h1]; rfl
 | .cons a r,sc,xs,Γ,σ,σ',rs,h,e=>by
  obtain ⟨y,ys,h0,_,h2⟩:=chk_cons h
  obtain ⟨v,σ1,e1,e3⟩:=bnd_some e
  obtain ⟨vs,σ2,e2,e4⟩:=bnd_some e3
  rw [h0,← (ret_same e4).1]
  exact congrArg (· + 1) (chkEs_length h2 e2)
theorem SE.tup {es:CEs} (hs:SEs g C d K es):SE g C d K (.tup es):=⟨fun hc H R er e k=>by
 obtain ⟨xs,kk,p,rfl,h0,h1,h2⟩:=inv_tup hc
 obtain ⟨vs,σ1,e1,e⟩:=bnd_some e
 obtain ⟨rfl,rfl⟩:=ret_same e
 have hl:=chkEs_length h2 e1
 refine wpAny_Tuple (hs.ok h2 h0 H R er e1 fun vals s1 ρ1 R1 P1 q1=>⟨?_,new_tup R1 q1 (k.from P1) _⟩)
 rw [q1.length,hl,sizeLine_eq]; exact Nat.le_trans h1 (by decide)⟩
theorem SE.list {m:Bool} {es:CEs} (hs:SEs g C d K es):SE g C d K (.list m es):=⟨fun hc H R er e k=>by
 obtain ⟨xs,p,rfl,h0,h1,h2⟩:=inv_list hc
 obtain ⟨vs,σ1,e1,e⟩:=bnd_some e
 have hl:=chkEs_length h2 e1
 refine wpAny_List (hs.ok h2 h0 H R er e1 fun vals s1 ρ1 R1 P1 q1=>⟨?_,?_⟩)
 ·rw [q1.length,hl,sizeLine_eq]; exact Nat.le_trans h1 (by decide)
 ·cases m with
  | true =>
   simp only [cond_true,Option.some.injEq,Prod.mk.injEq] at e; obtain ⟨rfl,rfl⟩:=e
   exact new_list R1 q1 (k.from P1) _
  | false =>
   simp only [cond_false,Option.some.injEq,Prod.mk.injEq] at e; obtain ⟨rfl,rfl⟩:=e
   exact new_lst R1 q1 (k.from P1) _⟩
theorem attrBase_of {o:Expr} {n:Str} {env:PySem.Env} {whole:Sem Value} (h:attrBaseOk o=true):attributeBase o n env whole=whole:=by
 cases o with
 | Call f as ks q=>cases f with
  | Name=>cases as with
   | nil=>cases ks with
    | nil=>exact (Bool.false_ne_true h).elim
    | cons=>rfl
   | cons=>rfl
  | _=>rfl
 | _=>rfl
theorem SE.attr (G:GOk g) (W:Wired g C) {a:CE} {m:Nat} (ha:SE g C d K a):SE g C d K (.attr a m):=⟨by
 intro x sc A s env asg X Z Γ bs ρ σ σ' E r Q hc H R er e k
 obtain ⟨o,n,p,rfl,h1,h2,h3,h4⟩:=inv_attr hc
 obtain ⟨v,σ1,e1,e⟩:=bnd_some e
 obtain ⟨y,hy,e⟩:=lift_some e
 cases e
 have hx:=isNm_of h1
 rw [W.nm] at hx
 have hm:m ∈ g.dat:=by rw [← W.dat]; simpa using h2
 have hbase:∀ {whole:Sem Value} {env:PySem.Env},attributeBase o n env whole=whole:=by
  intro whole env
  exact attrBase_of h3
 have he:eval (.Attribute o n p) env=(do
   let ov ← attributeBase o n env (eval o env)
   standAt p.atName
   let r ← holding [ov] (getAttr ov n true)
   letTemporaryGo o ov r
   pure r):=rfl
 rw [he,hbase]
 refine wpAny_bind (ha.ok h4 H R er e1 fun va s1 ρ1 R1 P1 q1=>wpAny_bind (wpAny_standAt (wpAny_bind (wpAny_holding ?_))))
 exact op_attr G R1 q1 hm hx hy fun val s2 ρ2 R2 P2 q2=>wpAny_bind (wpAny_letTemporaryGo (wpAny_pure (k val s2 ρ2 R2 (P1.trans P2) q2)))⟩
end
section
variable {g:Glb} {C:Cfg} {d:Nat} {K:Ctx} {A:Around} {s s1:Shared} {Z:Addr→Prop} {bs:List Nat} {ρ ρ1:Rho} {σ σ1 σ':St} {E:Value→Shared→Prop}
theorem ST.of_value {e:CE} (he:SE g C d K e) (hs:∀ {x:Expr} {sc:Names} {env:PySem.Env} {w:Sem Value},chkE C e sc x=true→isTrue x env w=(do let v ← w; standAt x.pos; holding [v] (truthy v))):ST g C d K e:=⟨fun hc H R er e k =>
 wpAny_isTrue_value (he.ok hc H R er e fun va s1 ρ1 R1 P1 q1=>op_truthy q1 (k s1 ρ1 R1 P1)) (hs hc)⟩
theorem ST.stuck:ST g C d K .stuck:=⟨fun _ _ _ _ e _=>nomatch e⟩
theorem ST.none:ST g C d K .none:=⟨fun _ _ _ _ e _=>nomatch e⟩
theorem ST.int {i:Int}:ST g C d K (.int i):=⟨fun _ _ _ _ e _=>nomatch e⟩
theorem ST.str {i:Str}:ST g C d K (.str i):=⟨fun _ _ _ _ e _=>nomatch e⟩
theorem ST.bool {b:Bool}:ST g C d K (.bool b):=.of_value .bool fun hc=>by obtain ⟨_,_,rfl⟩:=inv_bool hc; rfl
theorem boolRet {a b:Bool} {s t:St} (e:some (AV.pv (.bool a),s)=some (.pv (.bool b),t)):a=b∧s=t:=by
 obtain ⟨h,h2⟩:=ret_same e; exact ⟨PV.bool.inj (AV.pv.inj h),h2⟩
theorem ST.not {a:CE} (ha:ST g C d K a):ST g C d K (.not a):=⟨fun hc H R er e k=>by
 obtain ⟨y,p,rfl,h1⟩:=inv_not hc
 obtain ⟨v,σ1,e1,e2⟩:=bnd_some e
 obtain ⟨b,hb,e3⟩:=opt_some e2
 obtain ⟨rfl,rfl⟩:=boolRet e3
 rw [truthV_some hb] at e1
 exact wpAny_isTrue_Not (ha.ok h1 H R er e1 fun s1 ρ1 R1 P1=>k s1 ρ1 R1 P1)⟩
theorem ST.cmp (G:GOk g) {o:Cmp} {a b:CE} (ha:SE g C d K a) (hb:SE g C d K b):ST g C d K (.cmp o a b):=⟨fun hc H R er e k=>by
 obtain ⟨y,z,p,rfl,h0,h1,h2⟩:=inv_cmp hc
 obtain ⟨v,σ1,e1,e⟩:=bnd_some e
 obtain ⟨w,σ2,e2,e⟩:=bnd_some e
 obtain ⟨r,hr,e3⟩:=opt_some e
 obtain ⟨rfl,rfl⟩:=boolRet e3
 refine wpAny_isTrue_Compare1 (ha.ok h1 H R er e1 fun va s1 ρ1 R1 P1 q1=>hb.ok h2 H R1 (er.post R P1) e2 fun vb s2 ρ2 R2 P2 q2=>?_) (notSet_marks h0)
 exact op_cmp G H.room.line R2 (q1.post P2 fun _ h=>h.elim) q2 hr fun val s3 ρ3 R3 P3 q3=>op_truthy q3 (k s3 ρ3 R3 ((P1.trans P2).trans P3))⟩
theorem ST.ife {t a b:CE} (ht:ST g C d K t) (ha:ST g C d K a) (hb:ST g C d K b):ST g C d K (.ife t a b):=⟨fun hc H R er e k=>by
 obtain ⟨y,z,u,p,rfl,h0,h1,h2⟩:=inv_ife hc
 obtain ⟨v,σ1,e1,e2⟩:=bnd_some e
 obtain ⟨c,hc',e3⟩:=opt_some e2
 rw [truthV_some hc'] at e1
 have he:∀ {env:PySem.Env} {w:Sem Value},isTrue (.IfExp y z u p) env w=(do if ← isTrue y env (eval y env) then isTrue z env (eval z env) else isTrue u env (eval u env)):=rfl
 rw [he]
 refine wpAny_bind (ht.ok h0 H R er e1 fun s1 ρ1 R1 P1=>?_)
 cases c with
 | true=>exact ha.ok h1 H R1 (er.post R P1) e3 fun s2 ρ2 R2 P2=>k s2 ρ2 R2 (P1.trans P2)
 | false=>exact hb.ok h2 H R1 (er.post R P1) e3 fun s2 ρ2 R2 P2=>k s2 ρ2 R2 (P1.trans P2)⟩
noncomputable def bOp (i:Bool):BoolOp:=match i with
 | true=>.And
 | false=>.Or
structure SB (g:Glb) (C:Cfg) (d:Nat) (K:Ctx) (i:Bool) (es:CEs):Prop where
 val:∀ {xs:List Expr} {sc:Names} {A:Around} {s:Shared} {env:PySem.Env} {asg:Str→Bool} {X Z:Addr→Prop} {Γ:Env} {bs:List Nat} {ρ:Rho} {σ σ':St} {E:Value→Shared→Prop} {r:AV} {Q:Value→Shared→Prop} {pos:Pos},
  chkEs C es sc xs=true→Here g d A env sc asg X→Rel g Z bs ρ σ s.heap→ER g Z ρ σ s.heap env Γ→evB K Γ i es σ=some (r,σ')→Done g Z bs ρ σ s r σ' Q →
   wpAny (model g.prog g.w) A (boolOp pos (bOp i) (evalEach xs env)) Q E s
 test:∀ {xs:List Expr} {sc:Names} {A:Around} {s:Shared} {env:PySem.Env} {asg:Str→Bool} {X Z:Addr→Prop} {Γ:Env} {bs:List Nat} {ρ:Rho} {σ σ':St} {E:Value→Shared→Prop} {b:Bool} {Q:Bool→Shared→Prop},
  chkEs C es sc xs=true→Here g d A env sc asg X→Rel g Z bs ρ σ s.heap→ER g Z ρ σ s.heap env Γ→evB K Γ i es σ=some (.pv (.bool b),σ') →
  (∀ s' ρ',Rel g Z bs ρ' σ' s'.heap→Post NoX ρ σ s ρ' σ' s'→Q b s')→wpAny (model g.prog g.w) A (allTrue (bOp i) xs env) Q E s
theorem SB.nil {i:Bool}:SB g C d K i .nil:=⟨(fun _ _ _ _ e _=>nomatch e),(fun _ _ _ _ e _=>nomatch e)⟩
theorem test_turn {i b:Bool} {y:Expr} {ys:List Expr} {env:PySem.Env} {Q:Bool→Shared→Prop} (h:wpAny (model g.prog g.w) A (isTrue y env (eval y env)) (fun t s1=>t=b∧(b=i→wpAny (model g.prog g.w) A (allTrue (bOp i) ys env) Q E s1)∧(b ≠ i→Q b s1)) E s) :
  wpAny (model g.prog g.w) A (allTrue (bOp i) (y::ys) env) Q E s:=by
 cases i with
 | false =>
  refine wpAny_allTrue_Or_cons (wpAny_mono h (fun t s1 q=>?_) fun _ _ e=>e)
  obtain ⟨rfl,q1,q2⟩:=q
  cases t with
  | true=>exact q2 (by decide)
  | false=>exact q1 rfl
 | true =>
  refine wpAny_allTrue_And_cons (wpAny_mono h (fun t s1 q=>?_) fun _ _ e=>e)
  obtain ⟨rfl,q1,q2⟩:=q
  cases t with
  | true=>exact q1 rfl
  | false=>exact q2 (by decide)
theorem test_end {i:Bool} {env:PySem.Env} {Q:Bool→Shared→Prop} (h:Q i s):wpAny (model g.prog g.w) A (allTrue (bOp i) [] env) Q E s:=by
 cases i with
 | false=>exact wpAny_allTrue_Or_nil h
 | true=>exact wpAny_allTrue_And_nil h
theorem SB.one {i:Bool} {a:CE} (ha:SE g C d K a) (ht:ST g C d K a):SB g C d K i (.cons a .nil) where
 val:=by
  intro xs sc A s env asg X Z Γ bs ρ σ σ' E r Q pos hc H R er e k
  obtain ⟨y,ys,rfl,h1,h2⟩:=chk_cons hc
  obtain rfl:=chk_nil h2
  obtain ⟨v,σ1,e1,e2⟩:=bnd_some e
  obtain ⟨b,hb,e3⟩:=opt_some e2
  obtain ⟨rfl,rfl⟩:=ret_same e3
  rw [truthV_some hb] at e1
  cases i <;> exact ha.ok h1 H R er e1 k
 test:=by
  intro xs sc A s env asg X Z Γ bs ρ σ σ' E r Q hc H R er e k
  obtain ⟨y,ys,rfl,h1,h2⟩:=chk_cons hc
  obtain rfl:=chk_nil h2
  obtain ⟨v,σ1,e1,e2⟩:=bnd_some e
  obtain ⟨b,hb,e3⟩:=opt_some e2
  obtain ⟨rfl,rfl⟩:=boolRet e3
  rw [truthV_some hb] at e1
  exact test_turn (ht.ok h1 H R er e1 fun s1 ρ1 R1 P1=>⟨rfl,fun hi=>test_end (hi▸k s1 ρ1 R1 P1),fun _=>k s1 ρ1 R1 P1⟩)
theorem SB.cons {i:Bool} {a a2:CE} {r:CEs} (ha:SE g C d K a) (ht:ST g C d K a) (hr:SB g C d K i (.cons a2 r)):SB g C d K i (.cons a (.cons a2 r)) where
 val:=by
  intro xs sc A s env asg X Z Γ bs ρ σ σ' E w Q pos hc H R er e k
  obtain ⟨y,ys,rfl,h1,h2⟩:=chk_cons hc
  obtain ⟨y2,ys2,rfl,_,_⟩:=chk_cons h2
  obtain ⟨v,σ1,e1,e2⟩:=bnd_some e
  obtain ⟨b,hb,e3⟩:=opt_some e2
  have e4:(bif b == i then evB K Γ i (.cons a2 r) σ1 else some (.pv (.bool b),σ1))=some (w,σ'):=e3
  have hv:=truthV_some hb
  have hbo:boolOp pos (bOp i) (evalEach (y::y2::ys2) env)=(do
    let v ← eval y env
    standAt pos
    let t ← holding [v] (truthy v)
    match bOp i,t with
    | .And,false | .Or,true=>pure v
    | _,_=>boolOp pos (bOp i) (evalEach (y2::ys2) env)):=rfl
  rw [hbo]
  refine wpAny_bind (ha.ok h1 H R er e1 fun va s1 ρ1 R1 P1 q1=>wpAny_bind (wpAny_standAt (wpAny_bind (wpAny_holding (op_truthy (hv▸q1) ?_)))))
  rcases cond_split e4 with ⟨hi,e5⟩ | ⟨hi,e5⟩
  ·have go:=hr.val (pos:=pos) (E:=E) h2 H R1 (er.post R P1) e5 (k.from P1)
   cases i <;> cases b <;> first | exact go | cases hi
  ·obtain ⟨rfl,rfl⟩:=ret_same e5
   have go:=k va s1 ρ1 R1 P1 (hv▸q1)
   cases i <;> cases b <;> first | exact wpAny_pure go | cases hi
 test:=by
  intro xs sc A s env asg X Z Γ bs ρ σ σ' E w Q hc H R er e k
  obtain ⟨y,ys,rfl,h1,h2⟩:=chk_cons hc
  obtain ⟨v,σ1,e1,e2⟩:=bnd_some e
  obtain ⟨b,hb,e3⟩:=opt_some e2
  have e4:(bif b == i then evB K Γ i (.cons a2 r) σ1 else some (.pv (.bool b),σ1))=some (.pv (.bool w),σ'):=e3
  rw [truthV_some hb] at e1
  refine test_turn (ht.ok h1 H R er e1 fun s1 ρ1 R1 P1=>⟨rfl,fun hi=>?_,fun hi=>?_⟩)
  ·rw [hi,beq_self_eq_true] at e4
   exact hr.test h2 H R1 (er.post R P1) e4 fun s2 ρ2 R2 P2=>k s2 ρ2 R2 (P1.trans P2)
  ·rw [beq_false_of_ne hi] at e4
   obtain ⟨rfl,rfl⟩:=boolRet e4
   exact k s1 ρ1 R1 P1
theorem SE.and {es:CEs} (h:SB g C d K true es):SE g C d K (.and es):=⟨fun hc H R er e k=>by
 obtain ⟨xs,p,rfl,h1⟩:=inv_and hc
 exact h.val h1 H R er e k⟩
theorem SE.or {es:CEs} (h:SB g C d K false es):SE g C d K (.or es):=⟨fun hc H R er e k=>by
 obtain ⟨xs,p,rfl,h1⟩:=inv_or hc
 exact h.val h1 H R er e k⟩
theorem ST.and {es:CEs} (h:SB g C d K true es):ST g C d K (.and es):=⟨fun hc H R er e k=>by
 obtain ⟨xs,p,rfl,h1⟩:=inv_and hc
 exact wpAny_isTrue_BoolOp (h.test h1 H R er e k)⟩
theorem ST.or {es:CEs} (h:SB g C d K false es):ST g C d K (.or es):=⟨fun hc H R er e k=>by
 obtain ⟨xs,p,rfl,h1⟩:=inv_or hc
 exact wpAny_isTrue_BoolOp (h.test h1 H R er e k)⟩
theorem sub_plain {j:Expr} {o i:Value} (h:notSlice j=true):subscripted j false o i=operate [o,i] (getItem o i):=by
 cases j <;> first | rfl | exact (Bool.false_ne_true h).elim
theorem SE.sub {a i:CE} (ha:SE g C d K a) (hi:SE g C d K i):SE g C d K (.sub a i):=⟨fun hc H R er e k=>by
 obtain ⟨o,j,p,rfl,h0,h1,h2⟩:=inv_sub hc
 obtain ⟨v,σ1,e1,e⟩:=bnd_some e
 obtain ⟨w,σ2,e2,e⟩:=bnd_some e
 obtain ⟨y,hy,e⟩:=lift_some e
 cases e
 refine Subscript_ (ha.ok h1 H R er e1 fun va s1 ρ1 R1 P1 q1=>hi.ok h2 H R1 (er.post R P1) e2 fun vb s2 ρ2 R2 P2 q2=>?_)
 exact op_sub H.room.line R2 (q1.post P2 fun _ h=>h.elim) q2 (fun o i=>sub_plain h0) hy (k.from (P1.trans P2))⟩
noncomputable def OptR (ρ:Rho) (F:Addr→Prop) (h:Heap) (v:Value):Option AV→Prop
 | Option.none=>v=Value.none
 | Option.some a=>RA ρ F h v a
structure SO (g:Glb) (C:Cfg) (d:Nat) (K:Ctx) (o:CO):Prop where
 ok:∀ {x:Option Expr} {sc:Names} {A:Around} {s:Shared} {env:PySem.Env} {asg:Str→Bool} {X Z:Addr→Prop} {Γ:Env} {bs:List Nat} {ρ:Rho} {σ σ':St} {E:Value→Shared→Prop} {r:Option AV} {Q:Value→Shared→Prop},
  chkO C o sc x=true→Here g d A env sc asg X→Rel g Z bs ρ σ s.heap→ER g Z ρ σ s.heap env Γ→evO K Γ o σ=some (r,σ') →
  (∀ val s' ρ',Rel g Z bs ρ' σ' s'.heap→Post NoX ρ σ s ρ' σ' s'→OptR ρ' (Fz Z ρ' σ') s'.heap val r→Q val s')→wpAny (model g.prog g.w) A (evalPart x env) Q E s
theorem SO.none:SO g C d K .none:=⟨fun {x}=>by
 intro sc A s env asg X Z Γ bs ρ σ σ' E r Q hc H R er e k
 obtain ⟨v,_⟩:=on_true hc
 obtain rfl:=v.1
 obtain ⟨rfl,rfl⟩:=ret_same e
 exact wpAny_pure (k .none _ _ R Post.refl rfl)⟩
theorem SO.some {a:CE} (ha:SE g C d K a):SO g C d K (.some a):=⟨fun {x}=>by
 intro sc A s env asg X Z Γ bs ρ σ σ' E r Q hc H R er e k
 obtain ⟨w,hw⟩:=on_true hc
 rw [w.2]
 obtain ⟨v,σ1,e1,e⟩:=bnd_some e
 obtain ⟨rfl,rfl⟩:=ret_same e
 exact ha.ok hw H R er e1 fun va s1 ρ1 R1 P1 q1=>k va s1 ρ1 R1 P1 q1⟩
theorem partR_of {v:Value} {o:Option AV} {F:Addr→Prop} {h:Heap} (hq:OptR ρ F h v o) (he:∀ a,o=some a→∃ n,a = .pv (.int n)):PartR v o:=by
 cases o with
 | none=>simp only [OptR] at hq; subst hq; exact .none
 | some a =>
  obtain ⟨n,rfl⟩:=he a rfl
  simp only [OptR] at hq
  have r:=hq.pv_; obtain ⟨_,rfl⟩:=r.int_; exact .int
theorem sliceNat_int {v:AV} {n:Nat} (e:sliceNat v=some n):∃ n,v = .pv (.int n):=by
 obtain ⟨i,h,_⟩:=onInt_some e; exact ⟨i,h⟩
theorem slice_parts {a:AV} {lo hi:Option AV} {y:AV} (e:evSlice a lo hi σ=some y):(∀ a,lo=some a→∃ n,a = .pv (.int n))∧(∀ a,hi=some a→∃ n,a = .pv (.int n)):=by
 obtain ⟨l,_,e1⟩:=opt_some e
 obtain ⟨_,e2⟩:=cond_some e1
 cases hi with
 | none =>
  obtain ⟨v,h1,e3⟩:=opt_some e2
  obtain ⟨_,e4⟩:=cond_some e3
  obtain ⟨n,h2,_⟩:=opt_some e4
  exact ⟨fun a h=>Option.some.inj (h1.symm.trans h)▸sliceNat_int h2,fun _ h=>nomatch h⟩
 | some w =>
  obtain ⟨h1,e3⟩:=cond_some e2
  obtain ⟨n,h2,_⟩:=opt_some e3
  exact ⟨fun a h=>(by rw [h] at h1; exact (Bool.false_ne_true h1).elim),fun a h=>Option.some.inj h▸sliceNat_int h2⟩
theorem OptR.post {ρ':Rho} {σ':St} {s':Shared} {v:Value} {o:Option AV} (r:OptR ρ (Fz Z ρ σ) s.heap v o) (p:Post NoX ρ σ s ρ' σ' s'):OptR ρ' (Fz Z ρ' σ') s'.heap v o:=by
 cases o with
 | none=>exact r
 | some a=>exact RA.post (X:=NoX) r p fun _ h=>h.elim
theorem SE.slice {a:CE} {lo hi:CO} (ha:SE g C d K a) (hl:SO g C d K lo) (hh:SO g C d K hi):SE g C d K (.slice a lo hi):=⟨fun hc H R er e k=>by
 obtain ⟨o,l,u,q,p,rfl,h1,h2,h3⟩:=inv_slice hc
 obtain ⟨v,σ1,e1,e⟩:=bnd_some e
 obtain ⟨ll,σ2,e2,e⟩:=bnd_some e
 obtain ⟨uu,σ3,e3,e⟩:=bnd_some e
 obtain ⟨y,hy,e⟩:=lift_some e
 cases e
 obtain ⟨hll,huu⟩:=slice_parts hy
 refine Subscript_ (ha.ok h1 H R er e1 fun va s1 ρ1 R1 P1 q1=>wpAny_Slice (hl.ok h2 H R1 (er.post R P1) e2 fun vl s2 ρ2 R2 P2 q2=>hh.ok h3 H R2 ((er.post R P1).post R1 P2) e3 fun vu s3 ρ3 R3 P3 q3=>wpAny_pure ?_))
 refine op_slice R3 ((q1.post P2 fun _ h=>h.elim).post P3 fun _ h=>h.elim) (partR_of q2 hll) (partR_of q3 huu) hy (k.from ((P1.trans P2).trans P3))⟩
end
end Mine
end
section
open PySem PySem.W PySem.SeqAt PyProof.Rows PySem.Calls
namespace Mine
section
variable {g:Glb} {C:Cfg} {d:Nat} {K:Ctx} {A:Around} {s s1:Shared} {Z:Addr→Prop} {bs:List Nat} {ρ ρ1:Rho} {σ σ1 σ':St} {E:Value→Shared→Prop}
theorem SEs.args {es:CEs} (h:SEs g C d K es) {xs:List Expr} {sc:Names} {A:Around} {s:Shared} {env:PySem.Env} {asg:Str→Bool} {X Z:Addr→Prop} {Γ:Env} {bs:List Nat} {ρ:Rho} {σ σ':St} {E:Value→Shared→Prop} {rs:List AV} {Q:Args→Shared→Prop} {pos:Pos} {f:Value}
  (hc:chkEs C es sc xs=true) (hn:noStar xs=true) (H:Here g d A env sc asg X) (R:Rel g Z bs ρ σ s.heap) (er:ER g Z ρ σ s.heap env Γ) (e:evEs K Γ es σ=some (rs,σ')) (k:DoneL g Z bs ρ σ s rs σ' (fun vs s'=>Q ⟨vs,[]⟩ s')) :
  wpAny (model g.prog g.w) A (evalArgs f true (backTo pos (starEach xs env)) []) Q E s:=by
 cases xs with
 | nil =>
  cases es with
  | nil =>
   obtain ⟨rfl,rfl⟩:=ret_same e
   exact PySem.evalArgs_none (k [] _ _ R Post.refl .nil)
  | cons=>exact (Bool.false_ne_true hc).elim
 | cons y ys =>
  have:=h.ok (pos:=pos) (E:=E) (Q:=fun vs s'=>Q ⟨vs,[]⟩ s') hc hn H R er e k
  rw [(starEach_cons (env:=env) hn).1] at this ⊢
  exact evalArgs_plain this
theorem SE.call (G:GOk g) (W:Wired g C) {call:Nat→List AV→St→R AV} (HC:CallsOk g d call) (hK:K.call=call) {f:Nat} {es:CEs} (hs:SEs g C d K es):SE g C d K (.call f es):=⟨fun hc H R er e k=>by
 obtain ⟨y,p,xs,q,rfl,h1,h2,h3,h4,h5⟩:=inv_call hc
 obtain ⟨vs,σ1,e1,e⟩:=bnd_some e
 obtain ⟨hk,hd⟩:=isGlob_kind h1
 rw [← H.kind] at hk
 have hf:=W.gfns _ _ h2
 obtain ⟨o,fd,ho,hfd⟩:=W.isfn f hf
 refine Call_ (name_glob G H.ok R hk hd (W.gfun _ _ h2) (callWith_function (o:=o) (fd:=fd) (hs.args h5 h3 H R er e1 fun vals s1 ρ1 R1 P1 q1=>?_)))
 refine ⟨⟨R1.keep _ _ (G.kin _ _ ho),hfd⟩,?_⟩
 rw [hK] at e
 exact wpAny_call (HC hf e H.room.room R1 q1 (k.from P1))⟩
theorem wpAny_methCall {M:Model} {o:Expr} {n:Str} {ap q:Pos} {xs:List Expr} {env:PySem.Env} {Q:Value→Shared→Prop} (hb:attrBaseOk o=true) (hl:ap.endLine=q.line) (hn:noStar xs=true) (hlen:xs.length<30)
  (h:wpAny M A (eval o env) (fun ov s1=>∀ pl,wpAny M A (getMethod ov n pl) (fun p s2=>wpAny M A (callWith q p.1 p.2 (backTo q (starEach xs env)) []) Q E s2) E s1) E s) :
  wpAny M A (eval (.Call (.Attribute o n ap) xs [] q) env) Q E s:=by
 have hform:methodCallForm (xs.length+([]:List Keyword).length) (backTo q (starEach xs env)) (backToKw q (keywordEach [] env))=true:=by
  unfold methodCallForm
  have e1:(backTo q (starEach xs env)).all (fun x=>!x.1)=true:=by
   rw [List.all_eq_not_any_not]
   simp only [Bool.not_not]
   rw [starEach_plain hn]; rfl
  rw [e1]
  show (true&&(true&&decide (xs.length<30)))=true
  rw [decide_eq_true hlen]; rfl
 have he:eval (.Call (.Attribute o n ap) xs [] q) env=(do
   let ov ← attributeBase o n env (eval o env)
   standAt ap.atName
   methodCall o n ap q env ov (xs.length+([]:List Keyword).length) (backTo q (starEach xs env)) (backToKw q (keywordEach [] env))):=rfl
 rw [he,attrBase_of hb]
 refine wpAny_bind (wpAny_mono h (fun va s1 h1=>wpAny_bind (wpAny_standAt ?_)) fun _ _ e=>e)
 unfold methodCall
 rw [hform]
 have hpos:methodCallPos true o env ap q=pure q:=by
  unfold methodCallPos
  rw [hl]; simp
 refine wpAny_bind (wpAny_holding (wpAny_mono (h1 _) (fun p s2 h2=>?_) fun _ _ e=>e))
 rw [hpos]
 exact wpAny_bind (wpAny_pure h2)
theorem SE.meth (G:GOk g) (W:Wired g C) {call:Nat→List AV→St→R AV} (HC:CallsOk g d call) (hK:K.call=call) (hM:∀ c m,K.meth c m=g.P.meths.lookup (c,m)) {a:CE} {m:Nat} {es:CEs} (ha:SE g C d K a) (hs:SEs g C d K es):SE g C d K (.meth a m es):=⟨by
 intro x sc A s env asg X Z Γ bs ρ σ σ' E r Q hc H R er e k
 obtain ⟨o,n,ap,xs,q,rfl,h1,h2,h3,h4,h5,h6,h7⟩:=inv_meth hc
 obtain ⟨v,σ1,e1,ea⟩:=bnd_some e
 obtain ⟨i,hv,eb⟩:=onRef_some ea
 obtain ⟨ob,hi,ec⟩:=opt_some eb
 obtain ⟨c,as,ho,ed⟩:=onInst_some ec
 obtain ⟨f,hf,ee⟩:=opt_some ed
 obtain ⟨hnone,ef⟩:=cond_some ee
 obtain ⟨vs,σ2,e2,eg⟩:=bnd_some ef
 have hx:=isNm_of h1
 rw [W.nm] at hx
 rw [hM] at hf
 rw [hK] at eg
 rw [ho] at hi
 refine wpAny_methCall h2 h3 h4 h5 (ha.ok h6 H R er e1 fun va s1 ρ1 R1 P1 q1 pl=>?_)
 rw [hv] at q1
 obtain ⟨a,l,rfl,qa⟩:=q1.ref_
 obtain ⟨dx,sl,es',n',_,g1,g2,r1,hlen,hcc⟩:=(R1.objs qa hi).inst_
 have ga:=W.ga c hcc
 obtain ⟨mf,mt⟩:=W.meth _ _ _ _ hf hx
 have hsh:getL n es'=some Option.none:=(r1.get G.nd hx).2 (Option.isNone_iff_eq_none.mp hnone)
 have hff:=W.fns _ _ _ hf
 obtain ⟨of,fd,hof,hfd⟩:=W.isfn f hff
 refine method_fn (G.kin.keeps R1.keep) (inst_of g1 g2) ga.1 ga.2.1 mf mt (by show shadowIn (some (PySem.W.dictOf es' n')) n=some false; unfold shadowIn; simp only []; rw [lookIn_dict,hsh]; rfl) ?_
 refine callWith_function (o:=of) (fd:=fd) (hs.args h7 h4 H R1 (er.post R P1) e2 fun vals s2 ρ2 R2 P2 q2=>?_)
 refine ⟨⟨R2.keep _ _ (G.kin _ _ hof),hfd⟩,?_⟩
 exact wpAny_call (HC hff eg H.room.room R2 (.cons ((RA.ref (ρ:=ρ1) qa:RA ρ1 (Fz Z ρ1 σ1) s1.heap _ _).post P2 fun _ h=>h.elim) q2) (k.from (P1.trans P2)))⟩
theorem kdict_new {x:Addr} {s:Shared} (h:s.heap.get? x=some emptyDict):s.heap.get? x=some (PySem.W.dictOf [] 0):=h
theorem SE.new (G:GOk g) (W:Wired g C) {call:Nat→List AV→St→R AV} (HC:CallsOk g d call) (hK:K.call=call) (hI:∀ c,K.init c=g.P.inits.lookup c) {c:Nat} {es:CEs} (hs:SEs g C d K es):SE g C d K (.new c es):=⟨by
 intro x sc A s env asg X Z Γ bs ρ σ σ' E r Q hc H R er e k
 obtain ⟨y,p,xs,q,rfl,h1,h2,h3,h4,h5⟩:=inv_new hc
 obtain ⟨vs,σ1,e1,ea⟩:=bnd_some e
 obtain ⟨o,ho,eb⟩:=opt_some ea
 obtain ⟨f,hf',ec⟩:=opt_some eb
 obtain ⟨hst',ed⟩:=cond_some ec
 have hst:σ1.strict=false:=by simpa using hst'
 obtain ⟨v0,σ2,e2,ee⟩:=bnd_some ed
 obtain ⟨hv0,ef⟩:=cond_some ee
 obtain ⟨rfl,rfl⟩:=ret_same ef
 have hf:K.init c=some (some f):=ho.trans (congrArg some hf')
 rw [hI] at hf
 have hcc:(g.P.inits.lookup c).isSome=true:=by rw [hf]; rfl
 obtain ⟨hk,hd⟩:=isGlob_kind h1
 rw [← H.kind] at hk
 have hff:=W.ifns _ _ hf
 obtain ⟨hi,hft⟩:=W.init _ _ hf
 have ga:=W.ga c hcc
 refine Call_ (name_glob G H.ok R hk hd (W.gcls _ _ h2) (callWith_of (P:=fun h=>g.K.In h) (by rw [starEach_plain h3]; rfl) (keeps_K (W.ckeep c hcc)) (hs.args h5 h3 H R er e1 fun vals s1 ρ1 R1 P1 q1=>⟨G.kin.keeps R1.keep,?_⟩)))
 refine wpAny_call ?_
 obtain ⟨hh,gg,dd,tt,oo⟩:=s1
 refine make_core (makes_of (G.kin.keeps R1.keep) ga.2.2) (looks_findIn (G.kin.keeps R1.keep) hi) (fun self=>bind_fn (G.kin.keeps R1.keep) self hft) (.inl rfl) ?_
 have k1:∀ b o,hh.get? b=some o→((hh.push emptyDict).push (instObj (g.cls c) hh.objs.size)).get? b=some o:=fun b o e=>Heap.get?_push_of_some _ (Heap.get?_push_of_some _ e)
 have hsz:(hh.push emptyDict).objs.size=hh.objs.size+1:=Heap.size_push ..
 have x1:((hh.push emptyDict).push (instObj (g.cls c) hh.objs.size)).get? (hh.objs.size+1)=some (instObj (g.cls c) hh.objs.size):=by rw [← hsz]; exact Heap.get?_push_size _ rfl
 have x2:((hh.push emptyDict).push (instObj (g.cls c) hh.objs.size)).get? hh.objs.size=some (PySem.W.dictOf [] 0):=Heap.get?_push_of_some _ (Heap.get?_push_size _ rfl)
 have nw:=Rel.new (s:=⟨hh,gg,dd,tt,oo⟩) (s':=⟨(hh.push emptyDict).push (instObj (g.cls c) hh.objs.size),gg,dd,tt,oo⟩) (o':=.inst c []) (l:=[hh.objs.size+1,hh.objs.size]) R1 k1 (fun b hb=>by
   simp only [List.mem_cons,List.not_mem_nil,or_false] at hb
   rcases hb with rfl | rfl
   ·exact ⟨lv_out (Nat.le_succ _),⟨_,x1⟩⟩
   ·exact ⟨lv_new _,⟨_,x2⟩⟩) (fun x=>nomatch x) rfl rfl (.inst x1 x2 .nil (by simp) hcc)
 have hlen:=R1.len
 have rself:RA (ρ1++[[hh.objs.size+1,hh.objs.size]]) (Fz Z (ρ1++[[hh.objs.size+1,hh.objs.size]]) { σ1 with heap:=σ1.heap++[.inst c []] }) ((hh.push emptyDict).push (instObj (g.cls c) hh.objs.size)) (.ref (hh.objs.size+1)) (.ref σ1.heap.length):=by
  refine .ref (l:=[hh.objs.size]) ?_
  rw [← hlen]; simp
 rw [hK] at e2
 have room:Room d (A.under (.builtin "type.__call__" ⟨.ref (g.cls c)::vals,[]⟩)):=by
  refine ⟨?_,?_,H.room.handled,H.room.guards⟩
  ·show A.depth+1+2 * d+10<recursionLimit
   have:=H.room.depth; omega
  ·show A.units+1+20 * d+200<cLine
   have:=H.room.units; omega
 refine codeAny_mono (HC (E:=fun _ _=>False) (Q:=fun v s'=>v=Value.none∧Q (.ref (hh.objs.size+1)) s') hff e2 room nw.1 (.cons rself (RAs.post (X:=NoX) q1 nw.2 fun _ h=>False.elim h)) fun val s' ρ' R2 P2 q2=>?_) fun r s' hr=>?_
 ·refine ⟨?_,k _ _ _ R2 (P1.trans (nw.2.trans P2)) (RA.post (X:=NoX) (s:=⟨(hh.push emptyDict).push (instObj (g.cls c) hh.objs.size),gg,dd,tt,oo⟩) rself P2 fun _ h=>False.elim h)⟩
  rw [isNoneV_iff hv0] at q2
  exact q2.none_
 ·rcases r with e | (v | _ | _ | _)
  ·exact hr.elim
  all_goals first | exact hr | exact hr.elim⟩
end
section
variable {g:Glb} {C:Cfg} {d:Nat} {K:Ctx} {A:Around} {s s1:Shared} {Z:Addr→Prop} {bs:List Nat} {ρ ρ1:Rho} {σ σ1 σ':St} {E:Value→Shared→Prop}
theorem strict_under {v:AV} {h0:Heap} (R:Rel g Z bs ρ σ h0) (hs:(isPV v||!σ.strict)=true) (hne:bs ≠ []) (n:Nat):v.under n:=by
 rcases Bool.or_eq_true_iff.mp hs with hs | hs
 ·exact isPV_under hs n
 ·rw [R.strict hne] at hs; cases hs
open Classical in
theorem op_setdefault {va vk vv:Value} {i:Nat} {o:AObj} {k v:AV} {r:AV} {Q:Value→Shared→Prop} (G:GOk g) (R:Rel g Z bs ρ σ s.heap) (ra:RA ρ (Fz Z ρ σ) s.heap va (.ref i)) (rk:RA ρ (Fz Z ρ σ) s.heap vk k) (rv:RA ρ (Fz Z ρ σ) s.heap vv v)
  (hi:σ.heap[i]? = some o) (e:setdef σ i o k v=some (r,σ')) (K:Done g Z bs ρ σ s r σ' Q):wpAny (model g.prog g.w) A (call (.builtin "dict.setdefault") [va,vk,vv]) Q E s:=by
 obtain ⟨hd,e1⟩:=cond_some e
 cases o with
 | dictI kvs =>
  have hlen:kvs.length<big:=of_decide_eq_true hd
  obtain ⟨a,l,rfl,q⟩:=ra.ref_
  obtain ⟨kv0,rfl,x,y⟩:=(R.objs q hi).dictI_
  have hl:=y.length
  have hbl:=big_line
  obtain ⟨z,hz,e2⟩:=opt_some e1
  obtain ⟨n,t,rfl,hk,e3⟩:=rk.onInt hz
  have meets:=call_meetsIn (A:=A) (E:=E) (Q:=Q) PySem.F.slot_dict_setdefault x.typeIs PySem.F.entry_dict_setdefault (PySem.F.args_dict_setdefault_3 _ _ _) (PySem.kt_meets_setdefault (intKind g.prog g.w) a (isInt_of n t) (R.noMods G q) vv)
  cases z with
  | some z =>
   obtain ⟨rfl,rfl⟩:=ret_same e2
   obtain ⟨vz,h1,h2⟩:=(y.look n).1 _ (Option.some.inj e3)
   exact meets ⟨_,x,Nat.le_trans (Nat.le_trans (Nat.le_of_eq hl) (Nat.le_of_lt hlen)) hbl,fun v hv=>Option.some.inj (h1.symm.trans hv)▸K.toks R _ h2,fun hn=>(nomatch h1.symm.trans hn)⟩
  | none =>
   obtain ⟨hc,e4⟩:=cond_some e2
   obtain ⟨o',ho',e5⟩:=opt_some e4
   obtain ⟨rfl,rfl⟩:=ret_same e5
   have ho2:o' = .dictI (putK n v kvs):=by
    rw [hk] at ho'
    obtain ⟨_,e6⟩:=ite_some (p:=kvs.length<big) (k:=some (AObj.dictI (putK n v kvs))) ho'
    exact (Option.some.inj e6).symm
   rw [ho2] at K
   have h1:=(y.look n).2 (Option.some.inj e3)
   refine meets ⟨_,x,Nat.le_trans (Nat.le_trans (Nat.le_of_eq hl) (Nat.le_of_lt hlen)) hbl,fun v hv=>(nomatch h1.symm.trans hv),fun hn h' hd hsb=>?_⟩
   have ha:¬ Fz Z ρ σ a:=fun f=>f.2 ⟨i,[a],_,q,hi,(fun x=>nomatch x),.head _⟩
   have z:=Rel.set (s':={ s with heap:=h',toks:=s.toks+1 }) (o':=.dictI (putK n v kvs)) R q hi (fun x=>nomatch x) (fun x=>nomatch x) (fun b ob hb e=>hsb.extBut b ob (fun q=>hb (by rw [q]; exact .head _)) e) (lv_same hsb (let ⟨o,_,_,e,_⟩:=hd; ⟨o,e⟩)) rfl rfl
    (fun hne n' hn hin=>putK_under (strict_under R hc hne n') ((R.bars n' hn).2 hin hi)) (fun _ _=>.dictI hd ((y.put (DictOf.nodup' x) n rv).mono (fun _ _ _ e=>e) (carry ha hsb)))
   exact K _ _ ρ z.1 z.2 (rv.mono (fun _ _ _ e=>e) fun b o e f _=>⟨hsb.extBut b o (fun q=>ha (q▸f)) e,f.1,fun ft=>f.2 ((foot_set (o':=.dictI (putK n v kvs)) hi (fun x=>nomatch x) (fun x=>nomatch x) b).mp ft)⟩)
 | _=>cases hd
theorem plain_noDict {a:Addr} {vs:Array Value} (x:s.heap.PlainList a vs):∀ b,Value.ref a = .ref b→∃ o,s.heap.get? b=some o∧o.dict=Option.none:=fun b e=>by
 cases e; obtain ⟨n,e⟩:=x; exact ⟨_,e,rfl⟩
noncomputable def bmId:BM→String
 | .append => "list.append"
 | .sort => "list.sort"
 | .get2 => "dict.get"
 | .setdefault => "dict.setdefault"
theorem list_method {k:BM} {a:Addr} {vs:Array Value} {pl:Sem Bool} {Q:Value × List Value→Shared→Prop} (x:s.heap.PlainList a vs) (hk:isLM k=true) (h:Q (.builtin (bmId k),[.ref a]) s):wpAny (model g.prog g.w) A (getMethod (.ref a) (bmName k) pl) Q E s:=by
 cases k with
 | append=>exact getMethod_builtin x.isList.typeIs PySem.F.plainAttrs_list PySem.F.slot_list_append PySem.F.type_list_append (plain_noDict x) h
 | sort=>exact getMethod_builtin x.isList.typeIs PySem.F.plainAttrs_list PySem.F.slot_list_sort PySem.F.type_list_sort (plain_noDict x) h
 | _=>cases hk
theorem dict_method {k:BM} {a:Addr} {pl:Sem Bool} {Q:Value × List Value→Shared→Prop} (x:s.TypeIs (.ref a) "dict") (nd:∀ b,Value.ref a = .ref b→∃ o,s.heap.get? b=some o∧o.dict=Option.none) (hk:isLM k=false) (h:Q (.builtin (bmId k),[.ref a]) s):wpAny (model g.prog g.w) A (getMethod (.ref a) (bmName k) pl) Q E s:=by
 cases k with
 | get2=>exact getMethod_builtin x PySem.F.plainAttrs_dict PySem.F.slot_dict_get PySem.F.type_dict_get nd h
 | setdefault=>exact getMethod_builtin x PySem.F.plainAttrs_dict PySem.F.slot_dict_setdefault PySem.F.type_dict_setdefault nd h
 | _=>cases hk
inductive BmCase (σ:St) (k:BM) (v:AV):Prop
 | l (i:Nat) (l:List AV) (e:v = .ref i) (h:σ.heap[i]? = some (.list l)) (hk:isLM k=true)
 | d (i:Nat) (o:AObj) (e:v = .ref i) (h:σ.heap[i]? = some o) (ho:isDO o=true) (hk:isLM k=false)
theorem bm_case {k:BM} {v:AV} (hk:bmOk k v σ=true):BmCase σ k v:=by
 cases v with
 | ref i =>
  have hk:(match σ.heap[i]? with | some o=>bif isLM k then isLO o else isDO o | none=>false)=true:=hk
  cases ho:σ.heap[i]? with
  | none=>rw [ho] at hk; cases hk
  | some o =>
   rw [ho] at hk
   have hk:(bif isLM k then isLO o else isDO o)=true:=hk
   cases hm:isLM k with
   | true =>
    rw [hm] at hk
    cases o with
    | list l=>exact .l i l rfl ho hm
    | _=>cases hk
   | false=>rw [hm] at hk; exact .d i o rfl ho hk hm
 | _=>cases hk
open Classical in
theorem bm_method {k:BM} {va:Value} {v:AV} {pl:Sem Bool} {Q:Value × List Value→Shared→Prop} (R:Rel g Z bs ρ σ s.heap) (ra:RA ρ (Fz Z ρ σ) s.heap va v) (hk:bmOk k v σ=true) (h:Q (.builtin (bmId k),[va]) s) :
  wpAny (model g.prog g.w) A (getMethod va (bmName k) pl) Q E s:=by
 cases bm_case hk with
 | l i l e hl hm =>
  rw [e] at ra
  obtain ⟨a,m,rfl,q⟩:=ra.ref_
  obtain ⟨vs,_,x,_⟩:=(R.objs q hl).list_
  exact list_method x hm h
 | d i o e ho hd hm =>
  rw [e] at ra
  obtain ⟨a,m,rfl,q⟩:=ra.ref_
  cases o with
  | dictI kvs=>obtain ⟨_,_,x,_⟩:=(R.objs q ho).dictI_; exact dict_method x.typeIs x.mapOf.noDict hm h
  | dictS kvs=>obtain ⟨_,_,x,_⟩:=(R.objs q ho).dictS_; exact dict_method x.typeIs x.mapOf.noDict hm h
  | dictT kvs=>obtain ⟨_,_,x,_⟩:=(R.objs q ho).dictT_; exact dict_method x.typeIs (dictOfH_noDict x) hm h
  | _=>cases hd
open Classical in
theorem bm_call {k:BM} {va:Value} {i:Nat} {vs:List AV} {vals:List Value} {r:AV} {Q:Value→Shared→Prop} (G:GOk g) (hu:A.units+60<cLine) (R:Rel g Z bs ρ σ s.heap) (ra:RA ρ (Fz Z ρ σ) s.heap va (.ref i)) (rs:RAs ρ (Fz Z ρ σ) s.heap vals vs)
  (e:evBM k (.ref i) vs σ=some (r,σ')) (KD:Done g Z bs ρ σ s r σ' Q):wpAny (model g.prog g.w) A (call (.builtin (bmId k)) (va::vals)) Q E s:=by
 obtain ⟨o,ho,e1⟩:=opt_some (o:=σ.heap[i]?) (k:=fun o=>evBMo k i o vs σ) e
 cases k with
 | append =>
  obtain ⟨v,rfl,e2⟩:=on1_some e1
  obtain ⟨l,rfl,e3⟩:=onL_some e2
  obtain ⟨hc,e4⟩:=ite_some e3
  obtain ⟨rfl,rfl⟩:=ret_same e4
  obtain ⟨_,rfl,rv⟩:=rs.one_
  exact op_append R ra rv ho (Or.imp id (fun h=>by simpa using h) (Bool.or_eq_true_iff.mp (and_true2 hc).1)) (of_decide_eq_true (and_true2 hc).2) KD
 | sort =>
  obtain ⟨rfl,e2⟩:=on0_some e1
  obtain ⟨l,rfl,e3⟩:=onL_some e2
  obtain ⟨r',hr,e4⟩:=opt_some e3
  obtain ⟨rfl,rfl⟩:=ret_same e4
  obtain rfl:=rs.nil_
  exact op_sort R ra ho hr KD
 | get2 =>
  obtain ⟨v,w,rfl,e2⟩:=on2_some e1
  obtain ⟨z,hz,e3⟩:=opt_some e2
  obtain ⟨rfl,rfl⟩:=ret_same e3
  obtain ⟨_,_,rfl,rv,rw⟩:=rs.two_
  obtain ⟨a,l,rfl,q⟩:=ra.ref_
  exact dict_get2 (R.objs q ho) rv rw hu hz (R.noMods G q) fun val tk qq=>KD.toks R tk qq
 | setdefault =>
  obtain ⟨v,w,rfl,e2⟩:=on2_some e1
  obtain ⟨_,_,rfl,rv,rw⟩:=rs.two_
  exact op_setdefault G R ra rv rw ho e2 KD
theorem SE.bm (G:GOk g) {k:BM} {a:CE} {es:CEs} (ha:SE g C d K a) (hs:SEs g C d K es):SE g C d K (.bm k a es):=⟨by
 intro x sc A s env asg X' Z Γ bs ρ σ σ' E r Q hc H R er e kk
 obtain ⟨o,ap,xs,q,rfl,h2,h3,h4,h5,h6,h7⟩:=inv_bm hc
 obtain ⟨v,σ1,e1,ea⟩:=bnd_some e
 obtain ⟨hok,eb⟩:=cond_some ea
 obtain ⟨vs,σ2,e2,ec⟩:=bnd_some eb
 obtain ⟨i,hv,_⟩:=onRef_some (show onRef v (fun i=>ob (σ2.heap[i]?) fun o=>evBMo k i o vs σ2)=some (r,σ') from ec)
 refine wpAny_methCall h2 h3 h4 h5 (ha.ok h6 H R er e1 fun va s1 ρ1 R1 P1 q1 pl=>bm_method R1 q1 hok ?_)
 refine callWith_builtin (starEach_plain h4) (hs.args h7 h4 H R1 (er.post R P1) e2 fun vals s2 ρ2 R2 P2 q2=>?_)
 rw [hv] at q1 ec
 exact bm_call G H.room.line R2 (RA.post (X:=NoX) q1 P2 fun _ h=>False.elim h) q2 ec (kk.from (P1.trans P2))⟩
end
noncomputable abbrev BiSpec (g:Glb) (k:BI) (T:Around→Value→(Value→Shared→Prop)→(Value→Shared→Prop)→Shared→Prop):Prop :=
 ∀ {A:Around} {s:Shared} {Z:Addr→Prop} {bs:List Nat} {ρ:Rho} {σ σ':St} {E:Value→Shared→Prop} {va:Value} {v r:AV} {Q:Value→Shared→Prop},A.handled=none→A.units+60<cLine→Rel g Z bs ρ σ s.heap→RA ρ (Fz Z ρ σ) s.heap va v →
  evBI k [v] σ=some (r,σ')→Done g Z bs ρ σ s r σ' Q→T A va Q E s
noncomputable def SetSpec (g:Glb):Prop:=BiSpec g .sortedSet fun A va Q E s=>wpAny (model g.prog g.w) A (call (.type "set") [va]) (fun sv s1=>wpAny (model g.prog g.w) A (call (.builtin "sorted") [sv]) Q E s1) E s
section
variable {g:Glb} {C:Cfg} {d:Nat} {K:Ctx} {A:Around} {s s1:Shared} {Z:Addr→Prop} {bs:List Nat} {ρ ρ1:Rho} {σ σ1 σ':St} {E:Value→Shared→Prop}
theorem boot_all:∀ p ∈ builtNames,bootBuiltins p.1=some p.2∧p.1 ≠ "__name__" := by
 repeat' refine List.forall_mem_cons.mpr ⟨⟨by first | rfl | kernel_rfl | decide +kernel,by decide⟩,?_⟩
 exact fun _ h=>nomatch h
theorem boot_of {x:Str} {v:Value} (h:(x,v) ∈ builtNames):bootBuiltins x=some v∧x ≠ "__name__" := boot_all _ h
theorem built_at {x:Str} {v:Value} (i:Nat) (h:builtNames[i]? = some (x,v)):(x,v) ∈ builtNames:=List.mem_of_getElem? h
theorem built_name (G:GOk g) (W:Wired g C) {env:PySem.Env} {sc:Names} {asg:Str→Bool} {X:Addr→Prop} {x:Str} {v:Value} {pos:Pos} {Q:Value→Shared→Prop} (H:Here g d A env sc asg X) (R:Rel g Z bs ρ σ s.heap) (hx:isGlob sc x=true) (hb:(x,v) ∈ builtNames) (h:Q v s) :
  wpAny (model g.prog g.w) A (eval (.Name x pos) env) Q E s:=by
 obtain ⟨hk,hd⟩:=isGlob_kind hx
 rw [← H.kind] at hk
 obtain ⟨h1,h2⟩:=boot_of hb
 exact name_built G H.ok R hk hd (W.built x v hb) h1 h2 h
noncomputable def biVal:BI→Value
 | .len=>.builtin "len"
 | .abs=>.builtin "abs"
 | .int=>.type "int"
 | .str=>.type "str"
 | .max1=>.builtin "max"
 | .max2=>.builtin "max"
 | .min1=>.builtin "min"
 | .min2=>.builtin "min"
 | .tuple=>.type "tuple"
 | .isBool=>.builtin "isinstance"
 | .sorted=>.builtin "sorted"
 | .sortedSet=>.builtin "sorted"
noncomputable def biIx:BI→Nat
 | .len=>0
 | .abs=>1
 | .int=>6
 | .str=>7
 | .max1=>2
 | .max2=>2
 | .min1=>3
 | .min2=>3
 | .tuple=>8
 | .isBool=>4
 | .sorted=>5
 | .sortedSet=>5
theorem biVal_mem (k:BI):(biName k,biVal k) ∈ builtNames:=built_at (biIx k) (by cases k <;> rfl)
noncomputable def plainK:BI→Bool
 | .isBool=>false
 | .sortedSet=>false
 | .len=>true
 | .abs=>true
 | .int=>true
 | .str=>true
 | .max1=>true
 | .max2=>true
 | .min1=>true
 | .min2=>true
 | .tuple=>true
 | .sorted=>true
theorem bi_plain {k:BI} {vs:List AV} {vals:List Value} {r:AV} {Q:Value→Shared→Prop} (hk:plainK k=true) (hh:A.handled=none)
  (R:Rel g Z bs ρ σ s.heap) (rs:RAs ρ (Fz Z ρ σ) s.heap vals vs) (e:evBI k vs σ=some (r,σ')) (KD:Done g Z bs ρ σ s r σ' Q):wpAny (model g.prog g.w) A (call (biVal k) vals) Q E s:=by
 have one:∀ {v},vs=[v]→∃ va,vals=[va]∧RA ρ (Fz Z ρ σ) s.heap va v:=fun e=>by
  rw [e] at rs; obtain ⟨va,h,ra⟩:=rs.one_; exact ⟨va,h,ra⟩
 cases k with
 | len =>
  obtain ⟨v,hv,e1⟩:=on1_some e
  obtain ⟨va,rfl,ra⟩:=one hv
  obtain ⟨l,h1,e2⟩:=opt_some e1
  obtain ⟨h2,e3⟩:=ite_some e2
  obtain ⟨rfl,rfl⟩:=ret_same e3
  exact op_len R ra h1 h2 KD
 | abs =>
  obtain ⟨v,hv,e1⟩:=on1_some e
  obtain ⟨va,rfl,ra⟩:=one hv
  obtain ⟨a,h1,e2⟩:=onInt_some e1
  obtain ⟨rfl,rfl⟩:=ret_same e2
  exact op_abs R (h1▸ra) KD
 | int =>
  obtain ⟨v,hv,e1⟩:=on1_some e
  obtain ⟨va,rfl,ra⟩:=one hv
  obtain ⟨a,h1,e2⟩:=opt_some e1
  obtain ⟨rfl,rfl⟩:=ret_same e2
  exact op_int R ra h1 KD
 | str =>
  obtain ⟨v,hv,e1⟩:=on1_some e
  obtain ⟨va,rfl,ra⟩:=one hv
  obtain ⟨a,h1,e2⟩:=onInt_some e1
  obtain ⟨h2,e3⟩:=ite_some e2
  obtain ⟨rfl,rfl⟩:=ret_same e3
  exact op_str_int R (h1▸ra) h2 KD
 | max1 =>
  obtain ⟨v,hv,e1⟩:=on1_some e
  obtain ⟨va,rfl,ra⟩:=one hv
  obtain ⟨l,h1,e2⟩:=opt_some e1
  obtain ⟨is,h2,e3⟩:=opt_some e2
  obtain ⟨a,r,h3,e4⟩:=onCons_some e3
  obtain ⟨rfl,rfl⟩:=ret_same e4
  exact op_max1 hh R ra h1 (h3▸h2) KD
 | min1 =>
  obtain ⟨v,hv,e1⟩:=on1_some e
  obtain ⟨va,rfl,ra⟩:=one hv
  obtain ⟨l,h1,e2⟩:=opt_some e1
  obtain ⟨is,h2,e3⟩:=opt_some e2
  obtain ⟨a,r,h3,e4⟩:=onCons_some e3
  obtain ⟨rfl,rfl⟩:=ret_same e4
  exact op_min1 hh R ra h1 (h3▸h2) KD
 | max2 =>
  obtain ⟨v,w,rfl,e1⟩:=on2_some e
  obtain ⟨va,vb,rfl,ra,rb⟩:=rs.two_
  obtain ⟨a,h1,e2⟩:=onInt_some e1
  obtain ⟨b,h2,e3⟩:=onInt_some e2
  obtain ⟨rfl,rfl⟩:=ret_same e3
  exact op_max2 hh R (h1▸ra) (h2▸rb) KD
 | min2 =>
  obtain ⟨v,w,rfl,e1⟩:=on2_some e
  obtain ⟨va,vb,rfl,ra,rb⟩:=rs.two_
  obtain ⟨a,h1,e2⟩:=onInt_some e1
  obtain ⟨b,h2,e3⟩:=onInt_some e2
  obtain ⟨rfl,rfl⟩:=ret_same e3
  exact op_min2 hh R (h1▸ra) (h2▸rb) KD
 | tuple =>
  obtain ⟨v,hv,e1⟩:=on1_some e
  obtain ⟨va,rfl,ra⟩:=one hv
  obtain ⟨l,h1,e2⟩:=opt_some e1
  obtain ⟨h2,e3⟩:=ite_some e2
  obtain ⟨rfl,rfl⟩:=ret_same e3
  exact op_tuple R ra (lstOf_some h1).2 (lstOf_some h1).1 h2 KD
 | sorted =>
  obtain ⟨v,hv,e1⟩:=on1_some e
  obtain ⟨va,rfl,ra⟩:=one hv
  obtain ⟨l,h1,e2⟩:=opt_some e1
  obtain ⟨r',h2,e3⟩:=opt_some e2
  obtain ⟨rfl,rfl⟩:=ret_same e3
  exact op_sorted R ra (lstOf_some h1).2 (lstOf_some h1).1 h2 KD
 | isBool=>cases hk
 | sortedSet=>cases hk
theorem biVal_kind (k:BI):(∃ id,biVal k = .builtin id)∨∃ T,biVal k = .type T:=by cases k <;> first | exact .inl ⟨_,rfl⟩ | exact .inr ⟨_,rfl⟩
theorem biVal_call {k:BI} {pos:Pos} {args:List (Bool × Sem Value)} {Q:Value→Shared→Prop} (hp:args.any (·.1)=false) (h:wpAny (model g.prog g.w) A (evalArgs (biVal k) true args []) (fun a s1=>wpAny (model g.prog g.w) A (call (biVal k) a.pos a.kw) Q E s1) E s) :
  wpAny (model g.prog g.w) A (callWith pos (biVal k) [] args []) Q E s:=by
 rcases biVal_kind k with ⟨id,e⟩ | ⟨T,e⟩
 ·rw [e] at h ⊢; exact callWith_builtin hp h
 ·rw [e] at h ⊢; exact PySem.callWith_type hp h
theorem firstExtra_plain {k:BI} {xs ys:List Expr} {sc:Names} (hk:plainK k=true) (h:firstExtra k xs sc=some ys):ys=xs:=by
 cases k <;> first | exact (Option.some.inj h).symm | cases hk
noncomputable def AllE (g:Glb) (C:Cfg) (d:Nat) (K:Ctx):CEs→Prop
 | .nil=>True
 | .cons a r=>SE g C d K a∧ST g C d K a∧AllE g C d K r
theorem AllE.es:∀ {es:CEs},AllE g C d K es→SEs g C d K es
 | .nil,_=>.nil
 | .cons a r,h=>.cons h.1 (AllE.es h.2.2)
theorem AllE.b {i:Bool}:∀ {es:CEs},AllE g C d K es→SB g C d K i es
 | .nil,_=>.nil
 | .cons a .nil,h=>.one h.1 h.2.1
 | .cons a (.cons b r),h=>.cons h.1 h.2.1 (AllE.b h.2.2)
theorem isinst_call (G:GOk g) (W:Wired g C) {env:PySem.Env} {sc:Names} {asg:Str→Bool} {X:Addr→Prop} {a:CE} (ha:SE g C d K a) {x:Expr} {t:Str} {T:String} {tp q:Pos} {Γ:Env} {Q:Value→Shared→Prop} {v:AV}
  (hc:chkE C a sc x=true) (hn:noStar [x]=true) (H:Here g d A env sc asg X) (R:Rel g Z bs ρ σ s.heap) (er:ER g Z ρ σ s.heap env Γ) (e:evE K Γ a σ=some (v,σ1)) (ht:isGlob sc t=true) (hT:(t,.type T) ∈ builtNames)
  (k:∀ va s1 ρ1,Rel g Z bs ρ1 σ1 s1.heap→Post NoX ρ σ s ρ1 σ1 s1→RA ρ1 (Fz Z ρ1 σ1) s1.heap va v→wpAny (model g.prog g.w) A (call (.builtin "isinstance") [va,.type T]) Q E s1) :
  wpAny (model g.prog g.w) A (callWith q (.builtin "isinstance") [] (backTo q (starEach [x,.Name t tp] env)) []) Q E s:=by
 have hn2:noStar [x,.Name t tp]=true:=by cases x <;> first | rfl | exact (Bool.false_ne_true hn).elim
 refine callWith_builtin (starEach_plain hn2) ?_
 obtain ⟨h1,h2⟩:=starEach_cons (env:=env) hn2
 rw [h1]
 refine evalArgs_plain (f:=.builtin "isinstance") (x:=eval x env) (rest:=backTo q (starEach [.Name t tp] env)) ?_
 have:=wpAny_items_cons (M:=model g.prog g.w) (A:=A) (E:=E) (s:=s) (env:=env) (pos:=q) (e:=x) (rest:=[.Name t tp]) (Q:=fun vs s'=>wpAny (model g.prog g.w) A (call (.builtin "isinstance") ([]++vs)) Q E s')
  (ha.ok hc H R er e fun va s1 ρ1 R1 P1 q1=>wpAny_items_cons (built_name G W H R1 ht hT (wpAny_items_nil (k va s1 ρ1 R1 P1 q1))) rfl) h1
 rw [h1] at this
 exact this
inductive FirstIs (t:Str) (sc:Names) (xs ys:List Expr):Prop
 | mk (y:Expr) (tp:Pos) (h1:xs=[y,.Name t tp]) (h2:isGlob sc t=true) (h3:ys=[y])
inductive FirstIn (t:Str) (sc:Names) (xs ys:List Expr):Prop
 | mk (tp q:Pos) (h1:xs=[.Call (.Name t tp) ys [] q]) (h2:isGlob sc t=true)
theorem first_isBool {xs ys:List Expr} {sc:Names} (h:firstExtra .isBool xs sc=some ys):FirstIs "bool" sc xs ys:=by
 have h:(match exIs "bool" sc xs with | some y=>some [y.1.1] | none=>none)=some ys:=h
 cases e:exIs "bool" sc xs with
 | none=>rw [e] at h; cases h
 | some y=>rw [e] at h; exact ⟨y.1.1,y.1.2,y.2.1,y.2.2,(Option.some.inj h).symm⟩
theorem first_sortedSet {xs ys:List Expr} {sc:Names} (h:firstExtra .sortedSet xs sc=some ys):FirstIn "set" sc xs ys:=by
 have h:(match exIn "set" sc xs with | some y=>some y.1.1 | none=>none)=some ys:=h
 cases e:exIn "set" sc xs with
 | none=>rw [e] at h; cases h
 | some y=>rw [e] at h; exact ⟨y.1.2.1,y.1.2.2,Option.some.inj h▸y.2.1,y.2.2⟩
theorem AllE.one {es:CEs} {Γ:Env} {sc:Names} {y:Expr} {vs:List AV} (hc:chkEs C es sc [y]=true) (hs:AllE g C d K es) (e:evEs K Γ es σ=some (vs,σ1)):∃ a v,chkE C a sc y=true∧SE g C d K a∧evE K Γ a σ=some (v,σ1)∧vs=[v]:=by
 cases es with
 | nil=>exact (Bool.false_ne_true hc).elim
 | cons a r =>
  have hc:=and_true2 hc
  cases r with
  | cons b r=>exact (Bool.false_ne_true hc.2).elim
  | nil =>
   obtain ⟨v,σ2,e2,e3⟩:=bnd_some e
   obtain ⟨h1,h2⟩:=ret_same e3
   exact ⟨a,v,hc.1,hs.1,h2▸e2,h1.symm⟩
theorem SE.bi (G:GOk g) (W:Wired g C) (S:SetSpec g) {k:BI} {es:CEs} (hs:AllE g C d K es):SE g C d K (.bi k es):=⟨by
 intro x sc A s env asg X' Z Γ bs ρ σ σ' E r Q hc H R er e kk
 obtain ⟨p,xs,q,ys,rfl,h1,h2,h3,h4,h5⟩:=inv_bi hc
 obtain ⟨vs,σ1,e1,ea⟩:=bnd_some e
 refine Call_ (built_name G W H R h1 (biVal_mem k) ?_)
 cases hk:plainK k with
 | true =>
  have hx:=firstExtra_plain hk h3
  exact biVal_call (starEach_plain h2) (hs.es.args (hx▸h5) h2 H R er e1 fun vals s1 ρ1 R1 P1 q1=>bi_plain hk H.room.handled R1 q1 ea (kk.from P1))
 | false =>
  cases k with
  | isBool =>
   refine hideP fun Go hGo=>?_
   obtain ⟨y,tp,rfl,ht,rfl⟩:=first_isBool h3
   obtain ⟨a,v,c1,c2,c3,rfl⟩:=AllE.one h5 hs e1
   refine hGo ?_
   refine isinst_call (T := "bool") G W c2 c1 h4 H R er c3 ht (built_at 14 rfl) fun va s1 ρ1 R1 P1 q1=>?_
   refine hideP fun Go hGo=>?_
   obtain ⟨b,hb,e2⟩:=opt_some (o:=isBoolV v) (k:=fun b=>some (AV.pv (.bool b),σ1)) ea
   obtain ⟨rfl,rfl⟩:=ret_same e2
   refine hGo ?_
   exact op_isBool R1 q1 hb (kk.from P1)
  | sortedSet =>
   obtain ⟨tp,tq,rfl,ht⟩:=first_sortedSet h3
   refine callWith_builtin (starEach_plain h2) ?_
   obtain ⟨g1,g2⟩:=starEach_cons (env:=env) h2
   rw [g1]
   refine evalArgs_plain (f:=.builtin "sorted") (x:=eval _ env) (rest:=backTo q (starEach [] env)) ?_
   have:=wpAny_items_cons (M:=model g.prog g.w) (A:=A) (E:=E) (s:=s) (env:=env) (pos:=q) (e:=.Call (.Name "set" tp) ys [] tq) (rest:=[]) (Q:=fun vs s'=>wpAny (model g.prog g.w) A (PySem.call (.builtin "sorted") ([]++vs)) Q E s')
    (Call_ (built_name G W H R ht (v:=.type "set") (built_at 11 rfl) (PySem.callWith_type (starEach_plain h4) (hs.es.args h5 h4 H R er e1 fun vals s1 ρ1 R1 P1 q1=>by
     obtain ⟨v,rfl,_⟩:=on1_some ea
     obtain ⟨va,rfl,ra⟩:=q1.one_
     exact wpAny_mono (S H.room.handled H.room.line R1 ra ea (kk.from P1)) (fun sv s2 h2=>wpAny_items_nil h2) fun _ _ x=>x)))) g1
   rw [g1] at this
   exact this
  | _=>cases hk⟩
end
section
variable {g:Glb} {C:Cfg} {d:Nat} {K:Ctx} {A:Around} {s s1:Shared} {Z:Addr→Prop} {bs:List Nat} {ρ ρ1:Rho} {σ σ1 σ':St} {E:Value→Shared→Prop}
theorem isStrC_some {es:CEs} (h:isStrC es=true):∃ y r,es = .cons (.str y) r:=by
 cases es with
 | nil=>cases h
 | cons e r =>
  cases hy:strC? e with
  | none=>have h:(strC? e).isSome=true:=h; rw [hy] at h; cases h
  | some y=>exact ⟨y.1,r,by rw [← y.2]⟩
inductive FstrI (C:Cfg) (es:CEs) (sc:Names) (x:Expr):Prop
 | mk (y:Str) (e:CE) (v:Expr) (k1:Nat) (p1 p2 p:Pos) (h1:es = .cons (.str y) (.cons e .nil)) (h2:x = .JoinedStr [.Constant (.str y) k1 p1,.FormattedValue v (-1) none p2] p) (h3:chkE C e sc v=true)
theorem joined_eq {x u1 u2 v:Expr} {l:List Expr} {p p2:Pos} {i:Int} {sp:Option Expr} (e:x = .JoinedStr l p) (e1:l=[u1,u2]) (e2:u2 = .FormattedValue v i sp p2) (e3:sp=none) (h1:i = -1):x = .JoinedStr [u1,.FormattedValue v (-1) none p2] p:=by rw [e,e1,e2,e3,h1]
theorem joined_eq2 {x u w:Expr} {r:List Expr} {p:Pos} (e:x = .JoinedStr (u::r) p) (h:u=w):x = .JoinedStr (w::r) p:=by rw [e,h]
theorem inv_fstr {es:CEs} {sc:Names} {x:Expr} (h:chkE C (.fstr es) sc x=true):FstrI C es sc x:=by
 refine hideP fun Go hGo=>?_
 obtain ⟨v1,h⟩:=on_true h
 obtain ⟨v2,h⟩:=on_true h
 obtain ⟨v3,h⟩:=on_true h
 obtain ⟨hs,h⟩:=and_true2 h
 obtain ⟨⟨e3⟩,h⟩:=on_true h
 obtain ⟨h1,h2⟩:=and_true2 h
 have f0:=joined_eq v1.2 v2.2 v3.2 e3 (of_decide_eq_true h1)
 have h2:chkEs C es sc [v2.1.1,v3.1.1]=true:=h2
 obtain ⟨y,r,hes⟩:=isStrC_some hs
 refine hGo ?_
 rw [hes] at h2
 have h3:=and_true2 h2
 obtain ⟨k,p1,hu⟩:=inv_str h3.1
 cases r with
 | nil=>exact (Bool.false_ne_true h3.2).elim
 | cons e' r' =>
  have h4:=and_true2 h3.2
  cases r' with
  | cons _ _=>exact (Bool.false_ne_true h4.2).elim
  | nil=>exact ⟨y,e',_,k,p1,_,_,hes,joined_eq2 f0 hu,h4.1⟩
inductive FstrE (K:Ctx) (Γ:Env) (y:Str) (a:CE) (σ:St) (r:AV) (σ':St):Prop
 | mk (i:Int) (e1:evE K Γ a σ=some (.pv (.int i),σ')) (hx:y.length≤1000) (hi:i.natAbs<10 ^ 10) (e2:r = .pv (.str (y++showInt i)))
theorem fstr_ev {Γ:Env} {y:Str} {a:CE} {r:AV} (e:evE K Γ (.fstr (.cons (.str y) (.cons a .nil))) σ=some (r,σ')):FstrE K Γ y a σ r σ':=by
 refine hideP fun Go hGo=>?_
 obtain ⟨vs,σ1,e1,ee⟩:=bnd_some e
 obtain ⟨v1,σ2,e2,e3⟩:=bnd_some e1
 obtain ⟨hv1,hσ2⟩:=ret_same (show some (AV.pv (.str y),σ)=some (v1,σ2) from e2)
 obtain ⟨l,σ3,e4,e5⟩:=bnd_some e3
 obtain ⟨w,σ4,e6,e7⟩:=bnd_some e4
 obtain ⟨hl,hσ3⟩:=ret_same (show some ([w],σ4)=some (l,σ3) from e7)
 obtain ⟨hvs,hσ1⟩:=ret_same e5
 obtain ⟨str,hstr,ef⟩:=opt_some ee
 obtain ⟨hr,hσ'⟩:=ret_same ef
 have hstr:on2 [AV.pv (.str y),w] (fun v w=>onStr v fun x=>onInt w fun i=>if x.length≤1000&&decide (i.natAbs<10 ^ 10) then some (x++showInt i) else none)=some str:=by
  rw [← hvs,← hl,← hv1] at hstr; exact hstr
 have hstr:onInt w (fun i=>if y.length≤1000&&decide (i.natAbs<10 ^ 10) then some (y++showInt i) else none)=some str:=hstr
 obtain ⟨i,hw,e8⟩:=onInt_some hstr
 obtain ⟨hc,e9⟩:=ite_some e8
 have hc:=and_true2 hc
 refine hGo ?_
 refine ⟨i,?_,of_decide_eq_true hc.1,of_decide_eq_true hc.2,by rw [← hr,Option.some.inj e9]⟩
 rw [← hw,hσ2,← hσ',← hσ1,← hσ3]; exact e6
theorem SE.fstr {es:CEs} (hs:AllE g C d K es):SE g C d K (.fstr es):=⟨fun hc H R er e k=>by
 refine hideP fun Go hGo=>?_
 obtain ⟨y,a,v,k1,p1,p2,p,rfl,rfl,h3⟩:=inv_fstr hc
 obtain ⟨i,e6,hx,hi,rfl⟩:=fstr_ev e
 refine hGo ?_
 refine wpAny_JoinedStr ?_
 have hbl:=big_line
 have hb:big=100000:=rfl
 have e0:Str.empty++y=y:=str_empty_left rfl
 have hfit:=int_text_fits (log2_small hi)
 have hlen:=int_text_length_le10 (a:=i) (k:=10) (by decide) hi
 have hl2:(showInt i).length≤1000:=by
  show (Str.ofString (toString i)).length≤1000
  rw [PySem.ofString_length]
  omega
 have hlx:(y++showInt i).length≤sizeLine:=by rw [strLen_append]; omega
 show Joins _ _ _ (evalEach [.Constant (.str y) k1 p1,.FormattedValue v (-1) Option.none p2] _) Str.empty _ _
 refine wpAny_Constant_str ⟨y,_,rfl,?_,?_⟩
 ·rw [e0]; omega
 rw [e0]
 refine wpAny_FormattedValue_plain (hs.2.2.1.ok h3 H R er e6 fun va s1 ρ1 R1 P1 q1=>?_)
 obtain ⟨t,rfl⟩:=q1.int_
 refine wpAny_formatField_int (log2_small hi) ⟨showInt i,_,rfl,hlx,?_⟩
 exact ⟨hlx,k _ _ _ R1 ⟨P1.pre,P1.ext,P1.foot,P1.size,P1.gens,P1.os,P1.str⟩ (.pv (.str _ _))⟩⟩
noncomputable abbrev chkPairs (C:Cfg) (es:CEs) (sc:Names) (ps:List (Expr × Expr)):Prop:=chkEs C es sc (ps.flatMap fun q=>[q.1,q.2])=true
theorem dict_eq {x:Expr} {ks ks':List (Option Expr)} {vs vs':List Expr} {p:Pos} (e:x = .Dict ks vs p) (h1:ks=ks') (h2:vs=vs'):x = .Dict ks' vs' p:=by rw [e,h1,h2]
theorem inv_dict {kk:DK} {es:CEs} {sc:Names} {x:Expr} (h:chkE C (.dict kk es) sc x=true):∃ (ps:List (Expr × Expr)) (p:Pos),x = .Dict (ps.map fun q=>some q.1) (ps.map (·.2)) p∧chkPairs C es sc ps∧ps.length≤2:=by
 refine hideP fun Go hGo=>?_
 obtain ⟨v,h⟩:=on_true h
 obtain ⟨l,h⟩:=on_true h
 obtain ⟨h1,h2⟩:=and_true2 h
 refine hGo ?_
 exact ⟨l.1,v.1.2.2,dict_eq v.2 l.2.1 l.2.2,h2,of_decide_eq_true h1⟩
theorem pairs_ok:∀ (ps:List (Expr × Expr)) (es:CEs) {sc:Names} {A:Around} {s:Shared} {env:PySem.Env} {asg:Str→Bool} {X Z:Addr→Prop} {Γ:Env} {bs:List Nat} {ρ:Rho} {σ σ':St} {E:Value→Shared→Prop} {rs:List AV} {Q:List (Value × Value)→Shared→Prop} {pos:Pos},
  AllE g C d K es→chkPairs C es sc ps→Here g d A env sc asg X→Rel g Z bs ρ σ s.heap→ER g Z ρ σ s.heap env Γ→evEs K Γ es σ=some (rs,σ') →
  (∀ vs s' ρ',Rel g Z bs ρ' σ' s'.heap→Post NoX ρ σ s ρ' σ' s'→RAs ρ' (Fz Z ρ' σ') s'.heap (vs.flatMap fun p=>[p.1,p.2]) rs→Q vs s') →
  wpAny (model g.prog g.w) A (evalPairs (ps.map fun p=>(eval p.1 env,do let x ← eval p.2 env; standAt pos; pure x))) Q E s:=by
 intro ps
 induction ps with
 | nil =>
  intro es sc A s env asg X Z Γ bs ρ σ σ' E rs Q pos ha hc H R er e k
  cases es with
  | nil =>
   obtain ⟨rfl,rfl⟩:=ret_same e
   exact wpAny_pure (k [] _ _ R Post.refl .nil)
  | cons _ _=>exact (Bool.false_ne_true hc).elim
 | cons p ps ih =>
  intro es sc A s env asg X Z Γ bs ρ σ σ' E rs Q pos ha hc H R er e k
  cases es with
  | nil=>exact (Bool.false_ne_true hc).elim
  | cons a r0 =>
   have hc:=and_true2 hc
   cases r0 with
   | nil=>exact (Bool.false_ne_true hc.2).elim
   | cons b r =>
    have hc2:=and_true2 hc.2
    refine hideP fun Go hGo=>?_
    obtain ⟨v,σ1,e1,ea⟩:=bnd_some e
    obtain ⟨l,σ2,e2,eb⟩:=bnd_some ea
    obtain ⟨w,σ3,e3,ec⟩:=bnd_some e2
    obtain ⟨m,σ4,e4,ed⟩:=bnd_some ec
    obtain ⟨hl,hσ⟩:=ret_same ed
    obtain ⟨hr,hσ'⟩:=ret_same eb
    refine hGo ?_
    rw [hσ,hσ'] at e4
    rw [List.map_cons,evalPairs]
    refine wpAny_bind (ha.1.ok hc.1 H R er e1 fun va s1 ρ1 R1 P1 q1=>wpAny_bind (wpAny_holding (wpAny_bind (ha.2.2.1.ok hc2.1 H R1 (er.post R P1) e3 fun vb s2 ρ2 R2 P2 q2=>wpAny_bind (wpAny_standAt (wpAny_pure ?_))))))
    refine wpAny_bind (wpAny_holding (ih r ha.2.2.2.2 hc2.2 H R2 ((er.post R P1).post R1 P2) e4 fun vs s3 ρ3 R3 P3 q3=>wpAny_pure (k _ s3 ρ3 R3 ((P1.trans P2).trans P3) ?_)))
    rw [← hr,← hl]
    exact .cons (RA.post (X:=NoX) (RA.post (X:=NoX) q1 P2 fun _ h=>False.elim h) P3 fun _ h=>False.elim h) (.cons (RA.post (X:=NoX) q2 P3 fun _ h=>False.elim h) q3)
open Classical in
theorem dict_fresh (g:Glb) (kk:DK) {ρ:Rho} {F:Addr→Prop} {h0 h:Heap} (hk:h.get? h0.objs.size=some { cls:=.type "dict", data:=.dict #[] }):RO g ρ F h [h0.objs.size] (dictOf kk):=by
 have keep1:∀ {K:Type} [DecidableEq K] {knd:KeyKind g.prog g.w K},h.DictOf knd h0.objs.size []:=fun {K} _ {knd}=>by
  obtain ⟨o,es,ep,ho,r⟩:=Heap.DictOf.new (knd:=knd) h0
  rw [Heap.get?_push_size _ rfl] at ho
  obtain rfl:=Option.some.inj ho
  exact ⟨_,es,ep,hk,r⟩
 have keep2:∀ {K:Type} [DecidableEq K] {knd:HeapKind g.prog g.w K},h.DictOfH knd h0.objs.size []:=fun {K} _ {knd}=>by
  obtain ⟨o,es,ep,ho,r1,r2,r3,r4,r5⟩:=Heap.DictOfH.new (knd:=knd) h0
  rw [Heap.get?_push_size _ rfl] at ho
  obtain rfl:=Option.some.inj ho
  exact ⟨_,es,ep,hk,r1,r2,r3,(fun x hx=>nomatch hx),r5⟩
 cases kk with
 | i=>exact .dictI keep1 .nil
 | s=>exact .dictS keep1 .nil
 | t=>exact .dictT keep2 .nil
theorem putAll_notDead (g:Glb) (h:Heap):∀ {xs:List AV} {o o':AObj},putAll o xs=some o'→o ≠ .dead→o' ≠ .dead
 | [],_,_,e,h=>Option.some.inj e▸h
 | [_],_,_,e,_=>nomatch e
 | k::v::r,o,o',e,_=>by
  obtain ⟨o1,h1,e1⟩:=opt_some e
  exact putAll_notDead g h e1 (dictPut_notDead g h h1).2
theorem SE.dict {kk:DK} {es:CEs} (hs:AllE g C d K es):SE g C d K (.dict kk es):=⟨by
 intro x sc A s env asg X Z Γ bs ρ σ σ' E r Q hc H R er e k
 obtain ⟨ps,pos,rfl,h1,h2⟩:=inv_dict hc
 obtain ⟨rs,σ1,e1,ea⟩:=bnd_some e
 obtain ⟨o',ho',eb⟩:=opt_some ea
 obtain ⟨rfl,rfl⟩:=ret_same eb
 have hnd:dictOf kk ≠ .dead:=by cases kk <;> exact fun h=>by cases h
 by_cases hps:ps=[]
 ·subst hps
  cases es with
  | nil =>
   obtain ⟨rfl,rfl⟩:=ret_same e1
   obtain rfl:=Option.some.inj ho'
   refine wpAny_Dict_empty ?_
   have kp:∀ b o,s.heap.get? b=some o→(s.heap.push { cls:=.type "dict", data:=.dict #[] }).get? b=some o:=fun b o e=>Heap.get?_push_of_some _ e
   refine new_obj (s':={ s with heap:=s.heap.push { cls:=.type "dict", data:=.dict #[] } }) (l:=[]) R k kp (fun b hb=>?_) hnd rfl rfl (dict_fresh g kk (Heap.get?_push_size _ rfl))
   simp only [List.mem_singleton] at hb; subst hb; exact ⟨lv_new _,⟨_,Heap.get?_push_size _ rfl⟩⟩
  | cons a r=>exact (Bool.false_ne_true h1).elim
 ·rw [arm_eval_Dict]
  have hshape:(evalEachOpt (ps.map fun q=>some q.1) env).zip ((evalEach (ps.map (·.2)) env).map fun v=>do let x ← v; standAt pos; pure x)=(ps.map fun p=>(eval p.1 env,(do let x ← eval p.2 env; standAt pos; pure x:Sem Value))).map fun p=>(some p.1,p.2):=by
   clear hps h1 h2 hc
   induction ps with
   | nil=>rfl
   | cons p ps ih=>exact congrArg (_::·) ih
  rw [hshape,dictDisplay_pairs _ (by simpa using hps) (by simp; exact Nat.lt_of_le_of_lt h2 (by decide))]
  refine wpAny_bind (wpAny_standAt (wpAny_bind ?_))
  unfold subDict
  refine wpAny_bind (wpAny_alloc ?_)
  refine wpAny_bind (wpAny_holding ?_)
  rw [if_pos (by simp; exact Nat.le_trans h2 (by decide))]
  have R0:=enterOne (o:={ cls:=.type "dict", data:=.dict #[] }) R rfl
  have kp:∀ b o,s.heap.get? b=some o→(s.heap.push { cls:=.type "dict", data:=.dict #[] }).get? b=some o:=fun b o e=>Heap.get?_push_of_some _ e
  have er0:ER g (Zu Z fun b=>b=s.heap.objs.size) ρ σ (s.heap.push { cls:=.type "dict", data:=.dict #[] }) env Γ:=er.zmore kp (fun b hb=>eqOr hb .inl (.inr (lv_new _))) fun b hb=>.inl hb
  refine wpAny_bind (pairs_ok (s:={ s with heap:=s.heap.push { cls:=.type "dict", data:=.dict #[] } }) ps es hs h1 H R0 er0 e1 fun vs s2 ρ2 R2 P2 q2=>wpAny_holding (wpAny_bind ?_))
  have hd0:s2.heap.get? s.heap.objs.size=some { cls:=.type "dict", data:=.dict #[] }:=P2.ext _ _ (Heap.get?_push_size _ rfl) id (R0.notFoot (.inr rfl))
  have ha:¬ Fz (Zu Z fun b=>b=s.heap.objs.size) ρ2 σ1 s.heap.objs.size:=fun f=>f.1 (.inr rfl)
  refine put_all ha H.room.line vs rs (dictOf kk) o' s2 (dict_fresh g kk hd0) q2 ho' fun h' tk hsb ro'=>?_
  refine wpAny_pure (wpAny_pure (wpAny_pure ?_))
  have hnd':=putAll_notDead g s.heap ho' hnd
  have hl:∀ b,b ∉ [s.heap.objs.size]→∀ ob,s2.heap.get? b=some ob→h'.get? b=some ob:=fun b hb ob e=>hsb.extBut b ob (by simpa using hb) e
  have hlv:=ro'.live hnd'
  have fnew:∀ {b:Addr},Fz (Zu Z fun b=>b=s.heap.objs.size) ρ2 σ1 b→Fz Z (ρ2++[[s.heap.objs.size]]) { σ1 with heap:=σ1.heap++[o'] } b:=fun {b} f=>⟨fun z=>f.1 (.inl z),fun y=>by
   rcases foot_new R2.len y with y | y
   ·exact f.2 y
   ·simp only [List.mem_singleton] at y; exact f.1 (.inr y)⟩
  have Rn:Rel g Z bs (ρ2++[[s.heap.objs.size]]) { σ1 with heap:=σ1.heap++[o'] } h':=Rel.newZ R2 (fun b z=>.inl z) (fun b hb=>by
    simp only [List.mem_singleton] at hb; subst hb
    exact ⟨.inr rfl,fun z=>lv_new _ (R.zlt z).2⟩) (fun b ob hb e=>hl b hb ob e) (lv_same hsb hlv)
   (ro'.mono (fun i a l e=>by rw [List.getElem?_append_left (List.getElem?_eq_some_iff.mp e).1]; exact e) (fun b o e f _=>⟨e,fnew f⟩) fun b _ ob e=>e)
  have hlen:=R2.len
  refine k (.ref s.heap.objs.size) { s2 with heap:=h',toks:=tk } (ρ2++[[s.heap.objs.size]]) Rn ?_ (.ref (l:=[]) (by rw [← hlen]; simp))
  have fresh:∀ b,Lv s.heap b→b ∉ [s.heap.objs.size]:=fun b lb hb=>by simp only [List.mem_singleton] at hb; subst hb; exact lv_new _ lb
  exact ⟨fun i l e=>by rw [List.getElem?_append_left (List.getElem?_eq_some_iff.mp (P2.pre i l e)).1]; exact P2.pre i l e,
   fun b o e hx hf=>hl b (fresh b ⟨_,e⟩) o (P2.ext b o (kp b o e) hx hf),
   fun b lb hx hf y=>by
    rcases foot_new R2.len y with y | y
    ·exact P2.foot b (lvk kp lb) hx hf y
    ·exact fresh b lb y,
   fun b lb hx=>lv_same hsb hlv b (P2.size b (lvk kp lb) hx),P2.gens,P2.os,P2.str⟩⟩
end
section
variable {g:Glb} {C:Cfg} {d:Nat} {K:Ctx} {A:Around} {s s1:Shared} {Z:Addr→Prop} {bs:List Nat} {ρ ρ1:Rho} {σ σ1 σ':St} {E:Value→Shared→Prop}
mutual
noncomputable def ownT (asg:Str→Bool):CT→Expr→Bool
 | .nm _,x=>match rdName x with
  | some v=>asg v.1.1
  | none=>true
 | .tup ts,x=>match rdTuple x with
  | some v=>ownTs asg ts v.1.1
  | none=>true
noncomputable def ownTs (asg:Str→Bool):CTs→List Expr→Bool
 | .nil,_=>true
 | .cons t r,xs=>match xs with
  | []=>true
  | x::xs=>ownT asg t x&&ownTs asg r xs
end
theorem unpack_any {v:Value} {x:AV} {l:List AV} {n:Nat} {Q:List Value→Shared→Prop} (hh:A.handled=none) (R:Rel g Z bs ρ σ s.heap) (r:RA ρ (Fz Z ρ σ) s.heap v x) (e:itemsOf σ x=some l) (hn:n=l.length)
  (k:∀ h' vs,(∀ b o,s.heap.get? b=some o→h'.get? b=some o)→RAs ρ (Fz Z ρ σ) h' vs l→Q vs { s with heap:=h' }):wpAny (model g.prog g.w) A (unpackItems v n none) Q E s:=by
 obtain ⟨a,vs,rfl,rs,hh'⟩:=items_of R r e
 have hlen:=rs.length
 have kp:∀ {h':Heap},Heap.ExtBut s.heap.objs.size s.heap h'→∀ b o,s.heap.get? b=some o→h'.get? b=some o:=fun he b o q=>he b o (Nat.ne_of_lt (Heap.lt_size q)) q
 have fin:∀ h',Heap.ExtBut s.heap.objs.size s.heap h'→Q vs.toArray.toList { s with heap:=h' }:=fun h' he=>by
  have:=k h' vs (kp he) (rs.mono (fun _ _ _ e=>e) fun b o e f _=>⟨kp he b o e,f⟩)
  simpa using this
 have e1:n=vs.toArray.size:=by rw [List.size_toArray,hlen,hn]
 subst e1
 rcases hh' with ⟨_,ht⟩ | ⟨_,_,ht⟩
 ·exact wpAny_unpackItems_tuple hh ht fin
 ·exact kun_itemsOf hh ht fin
theorem assignEach_plain:∀ {xs:List Expr} {env:PySem.Env},noStar xs=true→(assignEach xs env).map (·.2)=xs.map (fun x=>assign x env)∧(assignEach xs env).length=xs.length∧(assignEach xs env).findIdx? (·.1)=none
 | [],_,_=>⟨rfl,rfl,rfl⟩
 | y::xs,env,h=>by
  have h':assignEach (y::xs) env=(false,assign y env)::assignEach xs env∧noStar xs=true:=by
   cases y <;> first | exact ⟨rfl,h⟩ | exact (Bool.false_ne_true h).elim
  obtain ⟨q1,q2,q3⟩:=assignEach_plain (env:=env) h'.2
  rw [h'.1]
  exact ⟨by simp [q1],by simp [q2],by simp [List.findIdx?_cons,q3]⟩
theorem seqOf_items {v:AV} {l:List AV} (σ:St) (e:seqOf v=some l):itemsOf σ v=some l:=by
 cases v with
 | pv p=>cases p <;> first | exact e | cases e
 | tupR l=>exact e
 | lstR l=>exact e
 | ref i=>cases e
theorem bindT_items {ts:CTs} {v:AV} {Γ Γ':Env} (σ:St) (e:bindT (.tup ts) v Γ=some Γ'):∃ l,itemsOf σ v=some l∧bindTs ts l Γ=some Γ':=by
 obtain ⟨l,h1,h2⟩:=opt_some (o:=seqOf v) (k:=fun l=>bindTs ts l Γ) e
 exact ⟨l,seqOf_items σ h1,h2⟩
inductive ChkTCons (C:Cfg) (t:CT) (r:CTs) (sc:Names) (xs:List Expr):Prop
 | mk (y:Expr) (ys:List Expr) (e:xs=y::ys) (h1:chkT C t sc y=true) (h2:chkTs C r sc ys=true)
theorem chkT_cons {t:CT} {r:CTs} {sc:Names} {xs:List Expr} (h:chkTs C (.cons t r) sc xs=true):ChkTCons C t r sc xs:=by
 obtain ⟨v,h⟩:=on_true h
 have h:=and_true2 h
 exact ⟨v.1.1,v.1.2,v.2,h.1,h.2⟩
theorem chkT_nil {sc:Names} {xs:List Expr} (h:chkTs C .nil sc xs=true):xs=[]:=by
 obtain ⟨v,_⟩:=on_true h; exact v.1
inductive BindCons (t:CT) (r:CTs) (l:List AV) (Γ Γ':Env):Prop
 | mk (v:AV) (vs:List AV) (Γ1:Env) (e:l=v::vs) (h1:bindT t v Γ=some Γ1) (h2:bindTs r vs Γ1=some Γ')
theorem bindTs_cons {t:CT} {r:CTs} {l:List AV} {Γ Γ':Env} (e:bindTs (.cons t r) l Γ=some Γ'):BindCons t r l Γ Γ':=by
 cases l with
 | nil=>cases e
 | cons v vs =>
  obtain ⟨Γ1,h1,h2⟩:=opt_some (o:=bindT t v Γ) (k:=fun Γ'=>bindTs r vs Γ') e
  exact ⟨v,vs,Γ1,rfl,h1,h2⟩
theorem bindTs_nil {l:List AV} {Γ Γ':Env} (e:bindTs .nil l Γ=some Γ'):l=[]∧Γ=Γ':=by
 cases l with
 | nil=>exact ⟨rfl,Option.some.inj e⟩
 | cons=>cases e
theorem bindTs_length:∀ {ts:CTs} {l:List AV} {Γ Γ':Env} {sc:Names} {xs:List Expr},bindTs ts l Γ=some Γ'→chkTs C ts sc xs=true→xs.length=l.length
 | .nil,_,_,_,_,_,e,h=>by rw [chkT_nil h,(bindTs_nil e).1]; rfl
 | .cons t r,l,Γ,Γ',sc,xs,e,h=>by
  obtain ⟨v,vs,Γ1,e1,_,e2⟩:=bindTs_cons e
  obtain ⟨y,ys,e3,_,h2⟩:=chkT_cons h
  rw [e1,e3]
  exact congrArg (· + 1) (bindTs_length e2 h2)
structure AssignT (g:Glb) (C:Cfg) (d:Nat) (t:CT):Prop where
 ok:∀ {tx:Expr} {sc:Names} {A:Around} {s:Shared} {env:PySem.Env} {asg:Str→Bool} {X Z:Addr→Prop} {Γ Γ':Env} {bs:List Nat} {ρ:Rho} {σ:St} {E:Value→Shared→Prop} {val:Value} {v:AV} {Q:Unit→Shared→Prop},
  chkT C t sc tx=true→ownT asg t tx=true→Here g d A env sc asg X→Rel g Z bs ρ σ s.heap→ER g Z ρ σ s.heap env Γ→RA ρ (Fz Z ρ σ) s.heap val v→bindT t v Γ=some Γ' →
  (∀ s',Rel g Z bs ρ σ s'.heap→ER g Z ρ σ s'.heap env Γ'→Post X ρ σ s ρ σ s'→Q () s')→wpAny (model g.prog g.w) A (assign tx env val) Q E s
structure AssignTs (g:Glb) (C:Cfg) (d:Nat) (ts:CTs):Prop where
 ok:∀ {xs:List Expr} {sc:Names} {A:Around} {s:Shared} {env:PySem.Env} {asg:Str→Bool} {X Z:Addr→Prop} {Γ Γ':Env} {bs:List Nat} {ρ:Rho} {σ:St} {E:Value→Shared→Prop} {vs:List Value} {l:List AV} {Q:Unit→Shared→Prop},
  chkTs C ts sc xs=true→ownTs asg ts xs=true→Here g d A env sc asg X→Rel g Z bs ρ σ s.heap→ER g Z ρ σ s.heap env Γ→RAs ρ (Fz Z ρ σ) s.heap vs l→bindTs ts l Γ=some Γ' →
  (∀ s',Rel g Z bs ρ σ s'.heap→ER g Z ρ σ s'.heap env Γ'→Post X ρ σ s ρ σ s'→Q () s')→wpAny (model g.prog g.w) A (assignInOrder (xs.map fun x=>assign x env) vs) Q E s
theorem AssignT.nm (G:GOk g) (W:Wired g C) {i:Nat}:AssignT g C d (.nm i):=⟨by
 intro tx sc A s env asg X Z Γ Γ' bs ρ σ E val v Q hc ho H R er ra e k
 obtain ⟨x,p,rfl,h1,_,_⟩:=inv_chkT_nm hc
 have hx:=isNm_of h1
 rw [W.nm] at hx
 show wpAny _ _ (do standAt p; bindName env x val) Q E s
 exact wpAny_bind (wpAny_standAt (bind_name G H.ok R er hx ho ra (Option.some.inj e▸k)))⟩
theorem AssignT.tup {ts:CTs} (h:AssignTs g C d ts):AssignT g C d (.tup ts):=⟨by
 intro tx sc A s env asg X Z Γ Γ' bs ρ σ E val v Q hc ho H R er ra e k
 obtain ⟨xs,kk,p,rfl,hs,hcs⟩:=inv_chkT_tup hc
 obtain ⟨l,h1,h2⟩:=bindT_items σ e
 obtain ⟨q1,q2,q3⟩:=assignEach_plain (env:=env) hs
 show wpAny _ _ (do standAt p; unpack val (assignEach xs env)) Q E s
 refine wpAny_bind (wpAny_standAt ?_)
 unfold unpack
 rw [q1,q2,q3]
 refine wpAny_bind (wpAny_holding (unpack_any H.room.handled R ra h1 (bindTs_length h2 hcs) fun h' vs kp rs=>?_))
 have P0:Post NoX ρ σ s ρ σ { s with heap:=h' }:=Post.grow kp rfl rfl
 exact h.ok hcs ho H (R.grow kp) (ER.post (s':={ s with heap:=h' }) R er P0) rs h2 fun s' R' er'' P'=>k s' R' er'' ((P0.wider fun _ h=>h.elim).trans P')⟩
theorem AssignTs.nil:AssignTs g C d .nil:=⟨by
 intro xs sc A s env asg X Z Γ Γ' bs ρ σ E vs l Q hc ho H R er ra e k
 obtain ⟨_,h⟩:=bindTs_nil e
 rw [chkT_nil hc]
 exact wpAny_pure (k s R (h▸er) Post.refl)⟩
theorem AssignTs.cons {t:CT} {r:CTs} (ht:AssignT g C d t) (hr:AssignTs g C d r):AssignTs g C d (.cons t r):=⟨by
 intro xs sc A s env asg X Z Γ Γ' bs ρ σ E vs l Q hc ho H R er ra e k
 obtain ⟨x,xs',rfl,c1,c2⟩:=chkT_cons hc
 have ho:=and_true2 ho
 obtain ⟨y,l',Γ1,rfl,h1,h2⟩:=bindTs_cons e
 obtain ⟨w,ws,rfl,r1,rs⟩:=ra.cons_
 show wpAny _ _ (do holding ws (assign x env w); assignInOrder (xs'.map fun x=>assign x env) ws) Q E s
 refine wpAny_bind (wpAny_holding (ht.ok c1 ho.1 H R er r1 h1 fun s1 R1 er1 P1=>?_))
 have hX:∀ b,X b→Z b:=fun b hb=>by
  rcases H.ok.xs b hb with rfl | ⟨y,hy⟩
  ·exact er.zL
  ·exact er.zC y b hy
 exact hr.ok c2 ho.2 H R1 er1 (rs.post P1 hX) h2 fun s2 R2 er2 P2=>k s2 R2 er2 (P1.trans P2)⟩
mutual
theorem assign_all (G:GOk g) (W:Wired g C):∀ t:CT,AssignT g C d t
 | .nm _=>.nm G W
 | .tup ts=>.tup (assigns_all G W ts)
theorem assigns_all (G:GOk g) (W:Wired g C):∀ ts:CTs,AssignTs g C d ts
 | .nil=>.nil
 | .cons t r=>.cons (assign_all G W t) (assigns_all G W r)
end
end
section
variable {g:Glb} {C:Cfg} {d:Nat} {K:Ctx} {A:Around} {s s1:Shared} {Z:Addr→Prop} {bs:List Nat} {ρ ρ1:Rho} {σ σ1 σ':St} {E:Value→Shared→Prop}
structure SI (g:Glb) (C:Cfg) (d:Nat) (K:Ctx) (ci:CI):Prop where
 ok:∀ {tx x:Expr} {sc:Names} {A:Around} {s:Shared} {env:PySem.Env} {asg:Str→Bool} {X Z:Addr→Prop} {Γ:Env} {bs:List Nat} {ρ:Rho} {σ σ':St} {E:Value→Shared→Prop} {src:Src} {Q:Value→Shared→Prop},
  chkI C ci sc tx x=true→Here g d A env sc asg X→Rel g Z bs ρ σ s.heap→ER g Z ρ σ s.heap env Γ→evI K Γ ci σ=some (src,σ')→IterK g A tx Z bs ρ σ s src σ' Q →
  wpAny (model g.prog g.w) A (eval x env) (fun v s1=>wpAny (model g.prog g.w) A (pyIter v) Q E s1) E s
theorem IterK.from {target:Expr} {src:Src} {Q:Value→Shared→Prop} (P:Post NoX ρ σ s ρ1 σ1 s1) (hlv:∀ b,Lv s.heap b→Lv s1.heap b) (K:IterK g A target Z bs ρ σ s src σ' Q):IterK g A target Z bs ρ1 σ1 s1 src σ' Q :=
 fun it X S s' ρ' h1 h2 h3 h4 h5=>K it X S s' ρ' h1 (P.trans h2) (fun b hb lb=>h3 b hb (hlv b lb)) h4 h5
theorem Post.lv (P:Post NoX ρ σ s ρ1 σ1 s1):∀ b,Lv s.heap b→Lv s1.heap b:=fun b l=>P.size b l id
theorem chkI_notSet {ci:CI} {sc:Names} {tx x:Expr} (h:chkI C ci sc tx x=true):notSet x=true:=by
 cases ci with
 | it e=>exact (and_true2 h).1
 | range1 a=>obtain ⟨y,p,q,rfl,_⟩:=range_inv (C:=C) (P:=fun y=>chkE C a sc y) h; rfl
 | range2 a b=>obtain ⟨y,z,p,q,rfl,_⟩:=pair_inv (C:=C) (P:=fun y=>chkE C a sc y) (Q:=fun y=>chkE C b sc y) h; rfl
 | zip a b =>
  obtain ⟨_,h⟩:=on_true h
  obtain ⟨y,z,p,q,rfl,_⟩:=pair_inv (C:=C) (P:=fun y=>chkE C a sc y) (Q:=fun y=>chkE C b sc y) h; rfl
theorem evEs_one {Γ:Env} {a:CE} {v:AV} (e:evE K Γ a σ=some (v,σ1)):evEs K Γ (.cons a .nil) σ=some ([v],σ1):=by
 show bnd (evE K Γ a σ) _=_; rw [e]; rfl
theorem evEs_two {Γ:Env} {a b:CE} {v w:AV} {σ2:St} (e:evE K Γ a σ=some (v,σ1)) (e2:evE K Γ b σ1=some (w,σ2)):evEs K Γ (.cons a (.cons b .nil)) σ=some ([v,w],σ2):=by
 show bnd (evE K Γ a σ) _=_; rw [e]; show bnd (evEs K Γ (.cons b .nil) σ1) _=_; rw [evEs_one e2]; rfl
theorem chk_one {a:CE} {sc:Names} {y:Expr} (h:chkE C a sc y=true):chkEs C (.cons a .nil) sc [y]=true:=Bool.and_eq_true_iff.mpr ⟨h,rfl⟩
theorem chk_two {a b:CE} {sc:Names} {y z:Expr} (h:chkE C a sc y=true) (h2:chkE C b sc z=true):chkEs C (.cons a (.cons b .nil)) sc [y,z]=true:=Bool.and_eq_true_iff.mpr ⟨h,chk_one h2⟩
theorem SI.it {a:CE} (ha:SE g C d K a):SI g C d K (.it a):=⟨by
 intro tx x sc A s env asg X Z Γ bs ρ σ σ' E src Q hc H R er e k
 obtain ⟨v,σ1,e1,e2⟩:=bnd_some e
 obtain ⟨y,hy,e3⟩:=lift_some e2
 cases e3
 exact ha.ok (and_true2 hc).2 H R er e1 fun va s1 ρ1 R1 P1 q1=>iter_seq H.room.handled R1 q1 hy (k.from P1 P1.lv)⟩
theorem SI.range1 (G:GOk g) (W:Wired g C) {a:CE} (ha:SE g C d K a):SI g C d K (.range1 a):=⟨by
 intro tx x sc A s env asg X Z Γ bs ρ σ σ' E src Q hc H R er e k
 obtain ⟨y,p,q,rfl,h1,h2,h3⟩:=range_inv (C:=C) (P:=fun y=>chkE C a sc y) hc
 obtain ⟨v,σ1,e1,e2⟩:=bnd_some e
 obtain ⟨n,hv,e3⟩:=onInt_some e2
 obtain ⟨hb,e4⟩:=ite_some e3
 have hb:=and_true2 hb
 obtain ⟨rfl,rfl⟩:=ret_same e4
 refine Call_ (built_name G W H R h1 (v:=.type "range") (built_at 12 rfl) (PySem.callWith_type (starEach_plain h2) ?_))
 refine SEs.args (.cons ha .nil) (chk_one h3) h2 H R er (evEs_one e1) fun vals s1 ρ1 R1 P1 q1=>?_
 obtain ⟨va,rfl,qa⟩:=q1.one_
 obtain ⟨t,rfl⟩:=(hv▸qa).int_
 exact call_range_1 (op_range H.room.handled R1 _ _ _ _ (by decide) (by decide) (of_decide_eq_true hb.1) (of_decide_eq_true hb.2) (k.from P1 P1.lv))⟩
theorem SI.range2 (G:GOk g) (W:Wired g C) {a b:CE} (ha:SE g C d K a) (hb:SE g C d K b):SI g C d K (.range2 a b):=⟨by
 intro tx x sc A s env asg X Z Γ bs ρ σ σ' E src Q hc H R er e k
 obtain ⟨y,z,p,q,rfl,h1,h2,h3,h4⟩:=pair_inv (C:=C) (P:=fun y=>chkE C a sc y) (Q:=fun y=>chkE C b sc y) hc
 obtain ⟨v,σ1,e1,ea⟩:=bnd_some e
 obtain ⟨w,σ2,e2,eb⟩:=bnd_some ea
 obtain ⟨m,hv,ec⟩:=onInt_some eb
 obtain ⟨n,hw,ed⟩:=onInt_some ec
 obtain ⟨hb',ee⟩:=ite_some ed
 obtain ⟨hb',b4⟩:=and_true2 hb'
 obtain ⟨hb',b3⟩:=and_true2 hb'
 obtain ⟨b1,b2⟩:=and_true2 hb'
 obtain ⟨rfl,rfl⟩:=ret_same ee
 refine Call_ (built_name G W H R h1 (v:=.type "range") (built_at 12 rfl) (PySem.callWith_type (starEach_plain h2) ?_))
 refine SEs.args (.cons ha (.cons hb .nil)) (chk_two h3 h4) h2 H R er (evEs_two e1 e2) fun vals s1 ρ1 R1 P1 q1=>?_
 obtain ⟨va,vb,rfl,qa,qb⟩:=q1.two_
 obtain ⟨t,rfl⟩:=(hv▸qa).int_
 obtain ⟨u,rfl⟩:=(hw▸qb).int_
 exact call_range_2 (op_range H.room.handled R1 _ _ _ _ (of_decide_eq_true b1) (of_decide_eq_true b2) (of_decide_eq_true b3) (of_decide_eq_true b4) (k.from P1 P1.lv))⟩
theorem SI.zip (G:GOk g) (W:Wired g C) {a b:CE} (ha:SE g C d K a) (hb:SE g C d K b):SI g C d K (.zip a b):=⟨by
 intro tx x sc A s env asg X Z Γ bs ρ σ σ' E src Q hc H R er e k
 obtain ⟨vt,hc⟩:=on_true hc
 obtain ⟨y,z,p,q,rfl,h1,h2,h3,h4⟩:=pair_inv (C:=C) (P:=fun y=>chkE C a sc y) (Q:=fun y=>chkE C b sc y) hc
 rw [vt.2] at k
 obtain ⟨v,σ1,e1,ea⟩:=bnd_some e
 obtain ⟨w,σ2,e2,eb⟩:=bnd_some ea
 obtain ⟨sx,hx,ec⟩:=opt_some eb
 obtain ⟨sy,hy,ed⟩:=opt_some ec
 obtain ⟨hl,ee⟩:=ite_some ed
 have hl:=and_true2 hl
 obtain ⟨rfl,rfl⟩:=ret_same ee
 refine Call_ (built_name G W H R h1 (v:=.type "zip") (built_at 13 rfl) (PySem.callWith_type (starEach_plain h2) ?_))
 refine SEs.args (.cons ha (.cons hb .nil)) (chk_two h3 h4) h2 H R er (evEs_two e1 e2) fun vals s1 ρ1 R1 P1 q1=>?_
 obtain ⟨va,vb,rfl,qa,qb⟩:=q1.two_
 exact op_zip H.room.handled R1 qa qb hx hy hl.1 hl.2 (k.from P1 P1.lv)⟩
theorem ifs_rest {env:PySem.Env} {Q:Bool→Shared→Prop} (xs:List Expr) (h:Q false s):wpAny (model g.prog g.w) A (forIn xs false fun c r=>if r=true then do let ok ← isTrue c env (eval c env); pure (ForInStep.yield ok) else pure (ForInStep.yield r)) Q E s:=by
 induction xs with
 | nil=>rw [List.forIn_nil]; exact wpAny_pure h
 | cons y ys ih=>rw [List.forIn_cons]; exact wpAny_bind (wpAny_pure ih)
theorem ifs_ok:∀ (es:CEs) {fs:List Expr} {sc:Names} {A:Around} {s:Shared} {env:PySem.Env} {asg:Str→Bool} {X Z:Addr→Prop} {Γ:Env} {bs:List Nat} {ρ:Rho} {σ σ':St} {E:Value→Shared→Prop} {b:Bool} {Q:Bool→Shared→Prop},
  AllE g C d K es→chkEs C es sc fs=true→Here g d A env sc asg X→Rel g Z bs ρ σ s.heap→ER g Z ρ σ s.heap env Γ→evIfs K Γ es σ=some (b,σ') →
  (∀ s' ρ',Rel g Z bs ρ' σ' s'.heap→Post NoX ρ σ s ρ' σ' s'→Q b s') →
  wpAny (model g.prog g.w) A (forIn fs true fun c r=>if r=true then do let ok ← isTrue c env (eval c env); pure (ForInStep.yield ok) else pure (ForInStep.yield r)) Q E s
 | .nil,fs,sc,A,s,env,asg,X,Z,Γ,bs,ρ,σ,σ',E,b,Q,ha,hc,H,R,er,e,k=>by
  obtain ⟨rfl,rfl⟩:=ret_same e
  rw [chk_nil hc,List.forIn_nil]
  exact wpAny_pure (k _ _ R Post.refl)
 | .cons a r,fs,sc,A,s,env,asg,X,Z,Γ,bs,ρ,σ,σ',E,b,Q,ha,hc,H,R,er,e,k=>by
  obtain ⟨x,xs,rfl,c1,c2⟩:=chk_cons hc
  obtain ⟨v,σ1,e1,ea⟩:=bnd_some e
  obtain ⟨c,hb,eb⟩:=opt_some ea
  rw [truthV_some hb] at e1
  rw [List.forIn_cons]
  refine wpAny_bind (wpAny_bind (ha.2.1.ok c1 H R er e1 fun s1 ρ1 R1 P1=>wpAny_pure ?_))
  cases c with
  | true=>exact ifs_ok r ha.2.2 c2 H R1 (er.post R P1) eb fun s2 ρ2 R2 P2=>k s2 ρ2 R2 (P1.trans P2)
  | false =>
   obtain ⟨rfl,rfl⟩:=ret_same eb
   exact ifs_rest xs (k s1 ρ1 R1 P1)
end
section
variable {g:Glb} {C:Cfg} {d:Nat} {K:Ctx} {A:Around} {s s1:Shared} {Z:Addr→Prop} {bs:List Nat} {ρ ρ1:Rho} {σ σ1 σ':St} {E:Value→Shared→Prop}
theorem ER.weak {env:PySem.Env} {Γ Γ':Env} {h:Heap} (e:ER g Z ρ σ h env Γ') (k:∀ j v,Γ.get j=some v→Γ'.get j=some v):ER g Z ρ σ h env Γ where
 ns:=by
  obtain ⟨m,hn,hv⟩:=e.ns
  exact ⟨m,hn,fun i v x a b c=>hv i v x (k i v a) b c⟩
 cell x c hc:=by
  obtain ⟨ov,hi,hv⟩:=e.cell x c hc
  exact ⟨ov,hi,fun i v a b kk=>hv i v (k i v a) b kk⟩
 zL:=e.zL
 zC:=e.zC
mutual
theorem bindT_keeps:∀ (t:CT) {v:AV} {Γ Γ0 Γ':Env},freshT t Γ0=true→(∀ j v,Γ0.get j=some v→Γ.get j=some v)→bindT t v Γ=some Γ'→∀ j v,Γ0.get j=some v→Γ'.get j=some v
 | .nm x,v,Γ,Γ0,Γ',hf,hk,e,j,w,hj=>by
  rw [← Option.some.inj (show some (Γ.put x v)=some Γ' from e),Env.get_put]
  have hf:Γ0.get x=none:=Option.isNone_iff_eq_none.mp hf
  by_cases h:x=j
  ·rw [h] at hf; rw [hf] at hj; cases hj
  ·rw [if_neg h]; exact hk j w hj
 | .tup ts,v,Γ,Γ0,Γ',hf,hk,e,j,w,hj=>by
  obtain ⟨l,_,h2⟩:=bindT_items ⟨[],false⟩ e
  exact bindTs_keeps ts hf hk h2 j w hj
theorem bindTs_keeps:∀ (ts:CTs) {l:List AV} {Γ Γ0 Γ':Env},freshTs ts Γ0=true→(∀ j v,Γ0.get j=some v→Γ.get j=some v)→bindTs ts l Γ=some Γ'→∀ j v,Γ0.get j=some v→Γ'.get j=some v
 | .nil,l,Γ,Γ0,Γ',_,hk,e,j,w,hj=>(bindTs_nil e).2▸hk j w hj
 | .cons t r,l,Γ,Γ0,Γ',hf,hk,e,j,w,hj=>by
  obtain ⟨y,l',Γ1,_,h1,h2⟩:=bindTs_cons e
  have hf:=and_true2 hf
  exact bindTs_keeps r hf.2 (bindT_keeps t hf.1 hk h1) h2 j w hj
end
noncomputable def turnRest (elt:Expr) (gens:List Comprehension) (scope:Scope) (pos:Pos) (n:Nat) (it acc:Value) (env:PySem.Env):Option Comprehension→Sem Fin
 | some g'=>do
  let x ← eval g'.iter env
  standAt g'.iter.pos
  if (g'.is_async != 0)=true then do
   let x ← foldedIterable g'.iter x
   let i ← holding [x] (if (g'.is_async != 0)=true then asyncIter x else pyIter x)
   let _ ← runOwn (.compStart (.ListComp elt gens scope pos) (n+1) i acc env) env
   again (.compLoop (.ListComp elt gens scope pos) n it acc env)
  else do
   let x ← foldedSetIterable g'.iter env x
   let i ← holding [x] (if (g'.is_async != 0)=true then asyncIter x else pyIter x)
   let _ ← runOwn (.compStart (.ListComp elt gens scope pos) (n+1) i acc env) env
   again (.compLoop (.ListComp elt gens scope pos) n it acc env)
 | none=>do
  (do let v ← eval elt env; let _ ← PySem.call (.builtin "list.append") [acc,v]; pure ())
  again (.compLoop (.ListComp elt gens scope pos) n it acc env)
theorem compTurn_at {elt:Expr} {gens:List Comprehension} {scope:Scope} {pos:Pos} {n:Nat} {it acc:Value} {env:PySem.Env} {tx ix:Expr} {fs:List Expr} (h:gens[n]? = some ⟨tx,ix,fs,0⟩) :
  compTurn (.ListComp elt gens scope pos) n it acc env=(do
   standAt ix.pos
   match ← pyNext it with
   | none=>pure (.done .next)
   | some v=>do
    letOwnedTupleGo tx it v
    assign tx env v
    let ok ← forIn fs true fun c r=>if r=true then do let ok ← isTrue c env (eval c env); pure (ForInStep.yield ok) else pure (ForInStep.yield r)
    if ok=true then turnRest elt gens scope pos n it acc env gens[n+1]?
    else again (.compLoop (.ListComp elt gens scope pos) n it acc env)):=by
 have h0:((0:Int) != 0)=false:=rfl
 unfold compTurn
 simp only [h,h0,Bool.false_eq_true,if_false]
 congr 1
end
section
variable {g:Glb} {C:Cfg} {d:Nat} {K:Ctx} {A:Around} {s s1:Shared} {Z:Addr→Prop} {bs:List Nat} {ρ ρ1:Rho} {σ σ1 σ':St} {E:Value→Shared→Prop}
noncomputable def bodyL (K:Ctx) (Γ:Env) (t:CT) (ifs:CEs) (more:CL) (x:AV) (s:St):Mine.R (List AV):=ob (bindT t x Γ) fun Γ'=>bnd (evIfs K Γ' ifs s) fun b s=>bif b then evL K Γ' more s else some ([],s)
noncomputable def AllL (g:Glb) (C:Cfg) (d:Nat) (K:Ctx):CL→Prop
 | .elt e=>SE g C d K e
 | .cons _ ci ifs more=>SI g C d K ci∧AllE g C d K ifs∧AllL g C d K more
theorem ER.done {X:Addr→Prop} {env:PySem.Env} {Γ:Env} {h h':Heap} (e:ER g (Zu Z X) ρ σ h env Γ) (zl:Z env.locals) (zc:∀ x c,env.cells.lookup x=some c→Z c) (hd:∀ b,Z b→¬ X b) (k:∀ b o,h.get? b=some o→¬ X b→h'.get? b=some o):ER g Z ρ σ h' env Γ where
 ns:=by
  obtain ⟨m,⟨o,es,ep,ho,r⟩,hv⟩:=e.ns
  refine ⟨m,⟨o,es,ep,k _ _ ho (hd _ zl),r⟩,fun i v x a b c=>?_⟩
  obtain ⟨val,q1,q2⟩:=hv i v x a b c
  exact ⟨val,q1,q2.done k⟩
 cell x c hc:=by
  obtain ⟨ov,⟨o,ho,hd'⟩,hv⟩:=e.cell x c hc
  refine ⟨ov,⟨o,k _ _ ho (hd _ (zc x c hc)),hd'⟩,fun i v a b kk=>?_⟩
  obtain ⟨val,q1,q2⟩:=hv i v a b kk
  exact ⟨val,q1,q2.done k⟩
 zL:=zl
 zC:=zc
theorem ER.other {X:Addr→Prop} {env:PySem.Env} {Γ:Env} {h h':Heap} (e:ER g Z ρ σ h env Γ) (hX:∀ b,X b→Z b) (nl:¬ X env.locals) (nc:∀ x c,env.cells.lookup x=some c→¬ X c) (k:∀ b o,h.get? b=some o→¬ X b→h'.get? b=some o):ER g Z ρ σ h' env Γ where
 ns:=by
  obtain ⟨m,⟨o,es,ep,ho,r⟩,hv⟩:=e.ns
  refine ⟨m,⟨o,es,ep,k _ _ ho nl,r⟩,fun i v x a b c=>?_⟩
  obtain ⟨val,q1,q2⟩:=hv i v x a b c
  exact ⟨val,q1,q2.mono (fun _ _ _ e=>e) fun b o e f _=>⟨k b o e fun x=>f.1 (hX b x),f⟩⟩
 cell x c hc:=by
  obtain ⟨ov,⟨o,ho,hd'⟩,hv⟩:=e.cell x c hc
  refine ⟨ov,⟨o,k _ _ ho (nc x c hc),hd'⟩,fun i v a b kk=>?_⟩
  obtain ⟨val,q1,q2⟩:=hv i v a b kk
  exact ⟨val,q1,q2.mono (fun _ _ _ e=>e) fun b o e f _=>⟨k b o e fun x=>f.1 (hX b x),f⟩⟩
 zL:=e.zL
 zC:=e.zC
theorem start_ok {elt:Expr} {gens:List Comprehension} {scope:Scope} {pos:Pos} {n:Nat} {it:Addr} {acc:Value} {env:PySem.Env} {tx ix:Expr} {fs:List Expr} {X:Addr→Prop} {held:List (Nat × List AV)} {S:List AV→Rho→St→Heap→Prop} {items:List AV} {R:Result→Shared→Prop}
  (h:gens[n]? = some ⟨tx,ix,fs,0⟩) (O:IterOk g A tx it X Z held S) (hS:S items ρ σ s.heap) (hl:codeAny (model g.prog g.w) A (.compLoop (.ListComp elt gens scope pos) n (.ref it) acc env) R s) :
  codeAny (model g.prog g.w) A (.compStart (.ListComp elt gens scope pos) n (.ref it) acc env) R s:=by
 refine codeAny_of_tree ?_
 show wpAny _ _ ((compStart (.ListComp elt gens scope pos) n (.ref it) acc env).onRaise (fun x=>do noteFrame x env; standAt theWindowsPlace)) _ _ s
 refine wpAny_notedAt ?_
 have hcl:clausesOf (.ListComp elt gens scope pos)=gens:=rfl
 have h0:((0:Int) != 0)=false:=rfl
 unfold compStart
 simp only [hcl,h,Option.elim,h0,Bool.false_eq_true,if_false]
 refine wpAny_bind (wpAny_askSetting ?_)
 split
 ·exact wpAny_bind (wpAny_pure (wpAny_pure ⟨rfl,hl⟩))
 ·exact wpAny_bind (wpAny_rule (wpAny_bind (wpAny_standAt (wpAny_bind (O.self hS (wpAny_pure ⟨rfl,hl⟩))))))
end
section
variable {g:Glb} {C:Cfg} {d:Nat} {K:Ctx}
theorem evL_cons {t:CT} {ci:CI} {ifs:CEs} {more:CL} {Γ:Env} {s:St}:evL K Γ (.cons t ci ifs more) s=bnd (evI K Γ ci s) fun src s=>bif !freshT t Γ then none else compItems src.held (bodyL K Γ t ifs more) src.items s:=by
 rfl
theorem ER.step {Y Z:Addr→Prop} {bs:List Nat} {ρ ρ':Rho} {σ σ':St} {s s':Shared} {env:PySem.Env} {Γ:Env} (R:Rel g Z bs ρ σ s.heap) (e:ER g Z ρ σ s.heap env Γ) (p:Post Y ρ σ s ρ' σ' s') (hY:∀ b,Y b→Z b) (nl:¬ Y env.locals) (nc:∀ x c,env.cells.lookup x=some c→¬ Y c):ER g Z ρ' σ' s'.heap env Γ where
 ns:=by
  obtain ⟨m,⟨o,es,ep,ho,r⟩,hv⟩:=e.ns
  refine ⟨m,⟨o,es,ep,p.ext _ _ ho nl (R.notFoot e.zL),r⟩,fun i v x a b c=>?_⟩
  obtain ⟨val,q1,q2⟩:=hv i v x a b c
  exact ⟨val,q1,q2.post p hY⟩
 cell x c hc:=by
  obtain ⟨ov,⟨o,ho,hd⟩,hv⟩:=e.cell x c hc
  refine ⟨ov,⟨o,p.ext _ _ ho (nc x c hc) (R.notFoot (e.zC x c hc)),hd⟩,fun i v a b k=>?_⟩
  obtain ⟨val,q1,q2⟩:=hv i v a b k
  exact ⟨val,q1,q2.post p hY⟩
 zL:=e.zL
 zC:=e.zC
theorem ER.more {X2 Z:Addr→Prop} {bs:List Nat} {ρ ρ':Rho} {σ σ':St} {s s':Shared} {env:PySem.Env} {Γ:Env} (R:Rel g Z bs ρ σ s.heap) (e:ER g Z ρ σ s.heap env Γ) (p:Post NoX ρ σ s ρ' σ' s') (hX:∀ b,X2 b→¬ Lv s.heap b):ER g (Zu Z X2) ρ' σ' s'.heap env Γ where
 ns:=by
  obtain ⟨m,⟨o,es,ep,ho,r⟩,hv⟩:=e.ns
  refine ⟨m,⟨o,es,ep,p.ext _ _ ho id (R.notFoot e.zL),r⟩,fun i v x a b c=>?_⟩
  obtain ⟨val,q1,q2⟩:=hv i v x a b c
  exact ⟨val,q1,RA.post (X:=NoX) (q2.zless (Z':=Zu Z X2) fun b hb=>by
   rcases hb with hb | hb
   ·exact .inl hb
   ·exact .inr (hX b hb)) p fun _ h=>False.elim h⟩
 cell x c hc:=by
  obtain ⟨ov,⟨o,ho,hd⟩,hv⟩:=e.cell x c hc
  refine ⟨ov,⟨o,p.ext _ _ ho id (R.notFoot (e.zC x c hc)),hd⟩,fun i v a b k=>?_⟩
  obtain ⟨val,q1,q2⟩:=hv i v a b k
  exact ⟨val,q1,RA.post (X:=NoX) (q2.zless (Z':=Zu Z X2) fun b hb=>by
   rcases hb with hb | hb
   ·exact .inl hb
   ·exact .inr (hX b hb)) p fun _ h=>False.elim h⟩
 zL:=.inl e.zL
 zC x c hc:=.inl (e.zC x c hc)
theorem RA.drop {Z Z':Addr→Prop} {ρ:Rho} {σ:St} {h:Heap} {v:Value} {x:AV} (r:RA ρ (Fz Z' ρ σ) h v x) (k:∀ b,Z b→Z' b):RA ρ (Fz Z ρ σ) h v x:=r.mono (fun _ _ _ e=>e) fun b o e f _=>⟨e,fun z=>f.1 (k b z),f.2⟩
theorem RAs.drop' {Z Z':Addr→Prop} {ρ:Rho} {σ:St} {h:Heap} {v:List Value} {x:List AV} (r:RAs ρ (Fz Z' ρ σ) h v x) (k:∀ b,Z b→Z' b):RAs ρ (Fz Z ρ σ) h v x:=r.mono (fun _ _ _ e=>e) fun b o e f _=>⟨e,fun z=>f.1 (k b z),f.2⟩
theorem ER.drop {Z Z':Addr→Prop} {ρ:Rho} {σ:St} {h:Heap} {env:PySem.Env} {Γ:Env} (e:ER g Z' ρ σ h env Γ) (k:∀ b,Z b→Z' b) (zl:Z env.locals) (zc:∀ x c,env.cells.lookup x=some c→Z c):ER g Z ρ σ h env Γ where
 ns:=by
  obtain ⟨m,hn,hv⟩:=e.ns
  refine ⟨m,hn,fun i v x a b c=>?_⟩
  obtain ⟨val,q1,q2⟩:=hv i v x a b c
  exact ⟨val,q1,q2.drop k⟩
 cell x c hc:=by
  obtain ⟨ov,hi,hv⟩:=e.cell x c hc
  refine ⟨ov,hi,fun i v a b kk=>?_⟩
  obtain ⟨val,q1,q2⟩:=hv i v a b kk
  exact ⟨val,q1,q2.drop k⟩
 zL:=zl
 zC:=zc
noncomputable abbrev BodyOk (g:Glb) (K:Ctx) (A:Around) (env:PySem.Env) (X Zb XI:Addr→Prop) (D it:Addr) (elt:Expr) (gens:List Comprehension) (scope:Scope) (pos:Pos) (n:Nat) (more:CL):Prop :=
 ∀ {s:Shared} {bs:List Nat} {ρ:Rho} {σ σ':St} {Γ:Env} {ws:List Value} {ys:List AV} {R:Result→Shared→Prop} {E:Value→Shared→Prop},evL K Γ more σ=some (ys,σ') →
  Rel g (Zu Zb XI) bs ρ σ s.heap→ER g (Zu Zb XI) ρ σ s.heap env Γ→s.heap.PlainList D ws.toArray→ws.length+ys.length≤big →
  (∀ s' ρ' us,Rel g (Zu Zb XI) bs ρ' σ' s'.heap→ER g (Zu Zb XI) ρ' σ' s'.heap env Γ→Post (fun b=>X b∨b=D) ρ σ s ρ' σ' s'→s'.heap.PlainList D (ws++us).toArray→RAs ρ' (Fz (Zu Zb XI) ρ' σ') s'.heap us ys →
   codeAny (model g.prog g.w) A (.compLoop (.ListComp elt gens scope pos) n (.ref it) (.ref D) env) R s') →
  wpAny (model g.prog g.w) A (turnRest elt gens scope pos n (.ref it) (.ref D) env gens[n+1]?) (fun fin s'=>match fin with | .done f=>R (.ok f) s' | .again c'=>c'.quiet=true∧codeAny (model g.prog g.w) A c' R s') E s
theorem plain_keep {h h':Heap} {D:Addr} {ws:Array Value} (p:h.PlainList D ws) (k:∀ o,h.get? D=some o→h'.get? D=some o):h'.PlainList D ws:=let ⟨n,e⟩:=p; ⟨n,k _ e⟩
theorem turns_ok (G:GOk g) (W:Wired g C) {more:CL} {t:CT} {ifs:CEs} {elt:Expr} {gens:List Comprehension} {scope:Scope} {pos:Pos} {n:Nat} {tx ix:Expr} {fs:List Expr} {sc:Names} {A:Around} {env:PySem.Env} {asg:Str→Bool} {X Zb XI:Addr→Prop} {D it:Addr} {held:List (Nat × List AV)} {S:List AV→Rho→St→Heap→Prop}
  (hifs:AllE g C d K ifs) (hg:gens[n]? = some ⟨tx,ix,fs,0⟩) (ht:chkT C t sc tx=true) (ho:ownT asg t tx=true) (hfs:chkEs C ifs sc fs=true) (H:Here g d A env sc asg X)
  (O:IterOk g A tx it XI Zb held S) (hd:∀ b,Zb b→¬ XI b) (zD:Zb D) (xD:¬ X D) (zl:Zb env.locals) (zc:∀ x c,env.cells.lookup x=some c→Zb c∧c ≠ D) (hB:BodyOk g K A env X Zb XI D it elt gens scope pos n more) :
  ∀ (items:List AV) {s:Shared} {bs:List Nat} {ρ:Rho} {σ σ':St} {Γ:Env} {ws:List Value} {ys:List AV} {R:Result→Shared→Prop},freshT t Γ=true→heldOk held σ=true→compItems held (bodyL K Γ t ifs more) items σ=some (ys,σ') →
  Rel g (Zu Zb XI) bs ρ σ s.heap→ER g (Zu Zb XI) ρ σ s.heap env Γ→S items ρ σ s.heap→s.heap.PlainList D ws.toArray→ws.length+ys.length≤big →
  (∀ s' ρ' us,Rel g Zb bs ρ' σ' s'.heap→ER g Zb ρ' σ' s'.heap env Γ→Post (fun b=>(X b∨b=D)∨XI b) ρ σ s ρ' σ' s'→s'.heap.PlainList D (ws++us).toArray→RAs ρ' (Fz Zb ρ' σ') s'.heap us ys→R (.ok .next) s') →
  codeAny (model g.prog g.w) A (.compLoop (.ListComp elt gens scope pos) n (.ref it) (.ref D) env) R s:=by
 have hX:∀ b,X b→Zb b:=fun b hb=>orEq (H.ok.xs b hb) zl fun ⟨y,hy⟩=>(zc y b hy).1
 intro items
 induction items with
 | nil =>
  intro s bs ρ σ σ' Γ ws ys R hfr hk0 e Rl er hS hP hl k
  simp only [compItems,Option.some.injEq,Prod.mk.injEq] at e
  obtain ⟨rfl,rfl⟩:=e
  refine codeAny_of_tree ?_
  show wpAny _ A ((compTurn (.ListComp elt gens scope pos) n (.ref it) (.ref D) env).onRaise (fun x=>do noteFrame x env; theTreesLotGoes x)) _ _ s
  refine wpAny_noted ?_
  rw [compTurn_at hg]
  refine wpAny_bind (wpAny_standAt (wpAny_bind (wpAny_mono (O.turn (fun s'=>R (.ok .next) s') (fun _ _ _ _=>False) Rl hS (fun _ s' R' P'=>?_) (fun x r hx=>by cases hx)) (fun r s' hr=>?_) fun _ _ e=>e)))
  ·have e1:=((er.step Rl P' (fun b hb=>.inr hb) (hd _ zl) (fun x c h=>hd _ (zc x c h).1))).drop (Z:=Zb) (fun b hb=>.inl hb) zl fun x c h=>(zc x c h).1
   exact k s' ρ [] R' e1 (P'.wider fun _ h=>.inr h) (by rw [List.append_nil]; exact plain_keep hP fun o e=>P'.ext D o e (hd D zD) (Rl.notFoot (.inl zD))) .nil
  ·cases r with
   | none=>exact wpAny_pure hr.2
   | some v=>exact wpAny_bind (wpAny_mono hr (fun _ s2 h2=>by obtain ⟨x,r,hx,_⟩:=h2; cases hx) fun _ _ e=>e)
 | cons x r ih =>
  intro s bs ρ σ σ' Γ ws ys R hfr hk0 e Rl er hS hP hl k
  simp only [compItems] at e
  obtain ⟨ys1,σ1,e1,e⟩:=bnd_some e
  cases hk:heldOk held σ1 with
  | false=>rw [hk] at e; cases e
  | true =>
  rw [hk,cond_true] at e
  obtain ⟨zs,σ2,e2,e⟩:=bnd_some e
  obtain ⟨rfl,rfl⟩:=ret_same e
  obtain ⟨Γ1,hΓ1,e0⟩:=opt_some (o:=bindT t x Γ) (k:=fun Γ'=>bnd (evIfs K Γ' ifs σ) fun b s=>bif b then evL K Γ' more s else some ([],s)) e1
  obtain ⟨b,σ3,e3,e4⟩:=bnd_some e0
  rw [List.length_append] at hl
  have hkeep:=bindT_keeps t hfr (fun _ _ h=>h) hΓ1
  have next:∀ (s0:Shared) (ρ0:Rho),Rel g (Zu Zb XI) bs ρ0 σ s0.heap→S r ρ0 σ s0.heap→Post (fun b=>X b∨XI b) ρ σ s ρ0 σ s0 →
    ∀ s' ρ' us,Rel g (Zu Zb XI) bs ρ' σ1 s'.heap→ER g (Zu Zb XI) ρ' σ1 s'.heap env Γ1→Post (fun b=>X b∨b=D) ρ0 σ s0 ρ' σ1 s'→s'.heap.PlainList D (ws++us).toArray→RAs ρ' (Fz (Zu Zb XI) ρ' σ1) s'.heap us ys1 →
    codeAny (model g.prog g.w) A (.compLoop (.ListComp elt gens scope pos) n (.ref it) (.ref D) env) R s':=by
   intro s0 ρ0 R0 S0 P0 s' ρ' us R' er' P' hP' hus
   have hXD:∀ b,X b∨b=D→Zu Zb XI b∧¬ XI b:=fun b hb=>eqOr hb (fun hb=>⟨.inl (hX b hb),hd b (hX b hb)⟩) ⟨.inl zD,hd _ zD⟩
   have S':=O.keep R0 S0 P' hXD hk
   refine ih (ws:=ws++us) hfr hk e2 R' (er'.weak hkeep) S' hP' (by rw [List.length_append,hus.length]; exact Nat.le_trans (Nat.le_of_eq (Nat.add_assoc _ _ _)) hl) fun s'' ρ'' vs R'' er'' P'' hP'' hvs=>?_
   refine k s'' ρ'' (us++vs) R'' er'' ((P0.wider fun b hb=>?_).trans ((P'.wider fun b hb=>.inl hb).trans P'')) (by rw [← List.append_assoc]; exact hP'') (RAs.append ?_ hvs)
   ·rcases hb with hb | hb
    ·exact .inl (.inl hb)
    ·exact .inr hb
   ·exact (RAs.post (Z:=Zu Zb XI) hus P'' fun b hb=>by
     rcases hb with hb | hb
     ·exact (hXD b hb).1
     ·exact .inr hb).drop' fun b hb=>.inl hb
  refine codeAny_of_tree ?_
  show wpAny _ A ((compTurn (.ListComp elt gens scope pos) n (.ref it) (.ref D) env).onRaise (fun x=>do noteFrame x env; theTreesLotGoes x)) _ _ s
  refine wpAny_noted ?_
  rw [compTurn_at hg]
  refine wpAny_bind (wpAny_standAt (wpAny_bind (wpAny_mono (O.turn (fun _=>False) (fun y r' v s'=>y=x∧r'=r∧Rel g (Zu Zb XI) bs ρ σ s'.heap∧Post XI ρ σ s ρ σ s'∧RA ρ (Fz (Zu Zb XI) ρ σ) s'.heap v x∧S r ρ σ s'.heap) Rl hS (fun h=>by cases h) (fun x' r' hx v s' a1 a2 a3 a4=>by cases hx; exact ⟨rfl,rfl,a1,a2,a3,a4⟩)) (fun o s' hr=>?_) fun _ _ e=>e)))
  cases o with
  | none=>exact absurd hr.1 (by simp)
  | some v =>
   refine wpAny_bind (wpAny_mono hr (fun _ s1 h1=>?_) fun _ _ e=>e)
   obtain ⟨y,r',hyr,rfl,rfl,R1,P1,ra1,S1⟩:=h1
   have er1:ER g (Zu Zb XI) ρ σ s1.heap env Γ:=er.step Rl P1 (fun b hb=>.inr hb) (hd _ zl) (fun x c h=>hd _ (zc x c h).1)
   have hP1:s1.heap.PlainList D ws.toArray:=plain_keep hP fun o e=>P1.ext D o e (hd D zD) (Rl.notFoot (.inl zD))
   refine wpAny_bind ((assign_all G W t).ok ht ho H R1 er1 ra1 hΓ1 fun s2 R2 er2 P2=>?_)
   have hP2:s2.heap.PlainList D ws.toArray:=plain_keep hP1 fun o e=>P2.ext D o e xD (R1.notFoot (.inl zD))
   have S2:S r' ρ σ s2.heap:=O.keep R1 S1 P2 (fun b hb=>⟨.inl (hX b hb),hd b (hX b hb)⟩) hk0
   refine wpAny_bind (ifs_ok ifs hifs hfs H R2 er2 e3 fun s3 ρ3 R3 P3=>?_)
   have P03:Post (fun b=>X b∨XI b) ρ σ s ρ σ s2:=(P1.wider fun _ h=>.inr h).trans (P2.wider fun _ h=>.inl h)
   have hP3:s3.heap.PlainList D ws.toArray:=plain_keep hP2 fun o e=>P3.ext D o e id (R2.notFoot (.inl zD))
   have er3:=er2.post R2 P3
   cases b with
   | true =>
    simp only [cond_true] at e4
    simp only [if_true]
    refine hB e4 R3 er3 hP3 (Nat.le_trans (Nat.le_trans (Nat.le_add_right _ _) (Nat.le_of_eq (Nat.add_assoc _ _ _))) hl) fun s4 ρ4 us R4 er4 P4 hP4 hus=>?_
    exact next s2 ρ R2 S2 P03 s4 ρ4 us R4 er4 ((P3.wider fun _ h=>h.elim).trans P4) hP4 hus
   | false =>
    simp only [cond_false,Option.some.injEq,Prod.mk.injEq] at e4
    obtain ⟨rfl,rfl⟩:=e4
    simp only [Bool.false_eq_true,if_false]
    exact wpAny_pure ⟨rfl,next s2 ρ R2 S2 P03 s3 ρ3 [] R3 er3 (P3.wider fun _ h=>h.elim) (by rw [List.append_nil]; exact hP3) .nil⟩
mutual
theorem PV.same_refl:∀ (a:PV),a.same a=true
 | .none=>rfl
 | .bool b=>beq_self_eq_true b
 | .int b=>beq_self_eq_true b
 | .str b=>beq_self_eq_true b
 | .tup l=>PV.sames_refl l
 | .lst l=>PV.sames_refl l
theorem PV.sames_refl:∀ (a:List PV),PV.sames a a=true
 | []=>rfl
 | a::l=>Bool.and_eq_true_iff.mpr ⟨PV.same_refl a,PV.sames_refl l⟩
end
mutual
theorem AV.same_refl:∀ (a:AV),a.same a=true
 | .pv a=>PV.same_refl a
 | .ref b=>beq_self_eq_true b
 | .tupR l=>AV.sames_refl l
 | .lstR l=>AV.sames_refl l
theorem AV.sames_refl:∀ (a:List AV),AV.sames a a=true
 | []=>rfl
 | a::l=>Bool.and_eq_true_iff.mpr ⟨AV.same_refl a,AV.sames_refl l⟩
end
theorem heldOf_ok (σ:St) (v:AV):heldOk (heldOf σ v) σ=true:=by
 cases v with
 | ref i =>
  simp only [heldOf]
  split
  ·rename_i l hl
   simp [heldOk,listIs,hl,AV.sames_refl]
  ·rfl
 | _=>rfl
theorem srcOf_held {v:AV} {σ:St} {src:Src} (e:srcOf v σ=some src):src.held=heldOf σ v:=by
 obtain ⟨l,_,e1⟩:=opt_some e
 obtain ⟨_,e2⟩:=ite_some e1
 rw [← Option.some.inj e2]
theorem held_app {a b:List (Nat × List AV)} {s:St} (h1:heldOk a s=true) (h2:heldOk b s=true):heldOk (a++b) s=true:=(List.all_append ..).trans (Bool.and_eq_true_iff.mpr ⟨h1,h2⟩)
theorem evI_held {Γ:Env} {ci:CI} {σ σ':St} {src:Src} (e:evI K Γ ci σ=some (src,σ')):heldOk src.held σ'=true:=by
 cases ci with
 | it a =>
  obtain ⟨v,σ1,e1,ea⟩:=bnd_some e
  obtain ⟨y,hy,eb⟩:=lift_some ea
  cases eb
  rw [srcOf_held hy]; exact heldOf_ok _ _
 | range1 a =>
  obtain ⟨v,σ1,e1,ea⟩:=bnd_some e
  obtain ⟨n,_,eb⟩:=onInt_some ea
  obtain ⟨_,ec⟩:=ite_some eb
  obtain ⟨rfl,_⟩:=ret_same ec; rfl
 | range2 a b =>
  obtain ⟨v,σ1,e1,ea⟩:=bnd_some e
  obtain ⟨w,σ2,e2,eb⟩:=bnd_some ea
  obtain ⟨n,_,ec⟩:=onInt_some eb
  obtain ⟨m,_,ed⟩:=onInt_some ec
  obtain ⟨_,ee⟩:=ite_some ed
  obtain ⟨rfl,_⟩:=ret_same ee; rfl
 | zip a b =>
  obtain ⟨v,σ1,e1,ea⟩:=bnd_some e
  obtain ⟨w,σ2,e2,eb⟩:=bnd_some ea
  obtain ⟨x,hx,ec⟩:=opt_some eb
  obtain ⟨y,hy,ed⟩:=opt_some ec
  obtain ⟨_,ee⟩:=ite_some ed
  obtain ⟨rfl,rfl⟩:=ret_same ee
  show heldOk (x.held++y.held) _=true
  rw [srcOf_held hx,srcOf_held hy]
  exact held_app (heldOf_ok _ v) (heldOf_ok _ w)
theorem body_elt (G:GOk g) {e:CE} (he:SE g C d K e) {elt:Expr} {gens:List Comprehension} {scope:Scope} {pos:Pos} {n:Nat} {sc:Names} {A:Around} {env:PySem.Env} {asg:Str→Bool} {X Zb XI:Addr→Prop} {D it:Addr}
  (hg:gens[n+1]? = none) (hc:chkE C e sc elt=true) (H:Here g d A env sc asg X) (zD:Zb D) (zc:∀ x c,env.cells.lookup x=some c→Zb c∧c ≠ D) (dl:D ≠ env.locals):BodyOk g K A env X Zb XI D it elt gens scope pos n (.elt e):=by
 intro s bs ρ σ σ' Γ ws ys R E ev Rl er hP hl k
 refine hideP fun Go hGo=>?_
 obtain ⟨v,σ1,e1,ev⟩:=bnd_some ev
 obtain ⟨rfl,rfl⟩:=ret_same ev
 refine hGo ?_
 rw [hg]
 unfold turnRest
 refine wpAny_bind (wpAny_bind (he.ok hc H Rl er e1 fun va s1 ρ1 R1 P1 q1=>wpAny_bind ?_))
 have hP1:=plain_keep hP fun o e=>P1.ext D o e id (Rl.notFoot (.inl zD))
 have hbl:=big_line
 simp only [List.length_singleton] at hl
 refine wpAny_list_append_plain hP1 (fun h' hp hsb=>?_) (by rw [List.size_toArray]; exact Nat.le_trans (Nat.le_of_succ_le hl) (by rw [sizeLine_eq]; decide))
 refine wpAny_pure (wpAny_pure ⟨rfl,?_⟩)
 have Pd:Post (fun b=>b=D) ρ1 σ1 s1 ρ1 σ1 { s1 with heap:=h' }:=Post.inX (fun b o e hb=>hsb.extBut b o hb e) rfl rfl
 have hlv:Lv h' D:=let ⟨n,e⟩:=hp; ⟨_,e⟩
 have R2:Rel g (Zu Zb XI) bs ρ1 σ1 h':=R1.inZ (fun b o e hz=>hsb.extBut b o (fun q=>hz (.inl (q▸zD))) e) (lv_same hsb hlv)
 have er2:ER g (Zu Zb XI) ρ1 σ1 h' env Γ:=ER.step (s':={ s1 with heap:=h' }) R1 (er.post Rl P1) Pd (fun b hb=>.inl (hb▸zD)) (fun h=>dl h.symm) fun x c hx h=>(zc x c hx).2 h
 refine k { s1 with heap:=h' } ρ1 [va] R2 er2 ((P1.wider fun _ h=>h.elim).trans (Pd.wider fun _ h=>.inr h)) (by simpa using hp) (.cons ?_ .nil)
 exact q1.mono (fun _ _ _ e=>e) fun b o e f _=>⟨hsb.extBut b o (fun q=>f.1 (.inl (q▸zD))) e,f⟩
theorem body_cons (G:GOk g) (W:Wired g C) {t2:CT} {ci2:CI} {ifs2:CEs} {more2:CL} {elt:Expr} {gens:List Comprehension} {scope:Scope} {pos:Pos} {n:Nat} {tx ix:Expr} {fs:List Expr} {sc:Names} {A:Around} {env:PySem.Env} {asg:Str→Bool} {X Zb XI:Addr→Prop} {D it:Addr}
  (hi:SI g C d K ci2) (hifs:AllE g C d K ifs2) (hg:gens[n+1]? = some ⟨tx,ix,fs,0⟩) (ht:chkT C t2 sc tx=true) (ho:ownT asg t2 tx=true) (hci:chkI C ci2 sc tx ix=true) (hfs:chkEs C ifs2 sc fs=true) (H:Here g d A env sc asg X)
  (zD:Zb D) (xD:¬ X D) (zl:Zb env.locals) (zc:∀ x c,env.cells.lookup x=some c→Zb c∧c ≠ D) (hd:∀ b,Zb b→¬ XI b)
  (hB:∀ {X2:Addr→Prop} {it2:Addr},(∀ b,Zu Zb XI b→¬ X2 b)→BodyOk g K A env X (Zu Zb XI) X2 D it2 elt gens scope pos (n+1) more2):BodyOk g K A env X Zb XI D it elt gens scope pos n (.cons t2 ci2 ifs2 more2):=by
 intro s bs ρ σ σ' Γ ws ys R E ev Rl er hP hl k
 rw [evL_cons] at ev
 obtain ⟨src,σ1,e1,ev⟩:=bnd_some ev
 cases hfr:freshT t2 Γ with
 | false=>rw [hfr] at ev; cases ev
 | true =>
 rw [hfr] at ev
 simp only [Bool.not_true,cond_false] at ev
 rw [hg]
 unfold turnRest
 have h0:((0:Int) != 0)=false:=rfl
 simp only [h0,Bool.false_eq_true,if_false]
 refine wpAny_bind (wpAny_mono (hi.ok hci H Rl er e1 (Q:=fun i s2=>wpAny (model g.prog g.w) A (runOwn (.compStart (.ListComp elt gens scope pos) (n+1) i (.ref D) env) env) (fun _ s3=>codeAny (model g.prog g.w) A (.compLoop (.ListComp elt gens scope pos) n (.ref it) (.ref D) env) R s3) E s2) fun it2 X2 S2 s2 ρ2 R2 P2 hX2 O2 hS2=>?_) (fun x s1 h1=>?_) fun _ _ e=>e)
 ·have hd2:∀ b,Zu Zb XI b→¬ X2 b:=fun b hb hx=>hX2 b hx (Rl.zlt hb).2
  have hP2:=plain_keep hP fun o e=>P2.ext D o e id (Rl.notFoot (.inl zD))
  have er2:ER g (Zu (Zu Zb XI) X2) ρ2 σ1 s2.heap env Γ:=er.more Rl P2 hX2
  have hX:∀ b,X b→Zb b:=fun b hb=>orEq (H.ok.xs b hb) zl fun ⟨y,hy⟩=>(zc y b hy).1
  refine wpAny_runOwn ?_
  refine start_ok hg (O2.ok _ hd2) hS2 ?_
  refine turns_ok G W (Zb:=Zu Zb XI) (XI:=X2) hifs hg ht ho hfs H (O2.ok _ hd2) hd2 (.inl zD) xD (.inl zl) (fun x c h=>⟨.inl (zc x c h).1,(zc x c h).2⟩) (hB hd2) src.items hfr (evI_held e1) ev R2 er2 hS2 hP2 hl fun s3 ρ3 us R3 er3 P3 hP3 hus=>?_
  refine k s3 ρ3 us R3 er3 (((P2.wider fun _ h=>h.elim).trans P3).fresh fun b hb lb=>?_) hP3 hus
  rcases hb with hb | hb
  ·exact hb
  ·exact absurd lb (hX2 b hb)
 ·exact wpAny_bind (wpAny_standAt (wpAny_bind (wpAny_of_eq (notSet_fold (chkI_notSet hci)) (wpAny_bind (wpAny_holding (wpAny_mono h1 (fun i s2 h2=>wpAny_bind (wpAny_mono h2 (fun _ s3 h3=>wpAny_pure ⟨rfl,h3⟩) fun _ _ e=>e)) fun _ _ e=>e))))))
theorem body_ok (G:GOk g) (W:Wired g C):∀ (more:CL) {elt:Expr} {gens:List Comprehension} {scope:Scope} {pos:Pos} {n:Nat} {rest:List Comprehension} {sc:Names} {A:Around} {env:PySem.Env} {asg:Str→Bool} {X Zb XI:Addr→Prop} {D it:Addr},
  AllL g C d K more→gens.drop (n+1)=rest→chkMore C more sc elt rest=true→(∀ t tx,locT sc t tx=true→ownT asg t tx=true)→Here g d A env sc asg X→Zb D→¬ X D→Zb env.locals→(∀ x c,env.cells.lookup x=some c→Zb c∧c ≠ D)→(∀ b,Zb b→¬ XI b)→D ≠ env.locals →
  BodyOk g K A env X Zb XI D it elt gens scope pos n more
 | .elt e,elt,gens,scope,pos,n,rest,sc,A,env,asg,X,Zb,XI,D,it,ha,hr,hc,ho,H,zD,xD,zl,zc,hd,dl=>by
  obtain ⟨⟨hn⟩,h1⟩:=on_true hc
  have hg:gens[n+1]? = none:=List.getElem?_eq_none_iff.mpr (List.drop_eq_nil_iff.mp (hr.trans hn))
  exact body_elt G ha hg h1 H zD zc dl
 | .cons t2 ci2 ifs2 more2,elt,gens,scope,pos,n,rest,sc,A,env,asg,X,Zb,XI,D,it,ha,hr,hc,ho,H,zD,xD,zl,zc,hd,dl=>by
  refine hideP fun Go hGo=>?_
  obtain ⟨v,h⟩:=on_true hc
  obtain ⟨h,h5⟩:=and_true2 h
  obtain ⟨h,h4⟩:=and_true2 h
  obtain ⟨h,h3⟩:=and_true2 h
  obtain ⟨h1,h2⟩:=and_true2 h
  have hr:=hr.trans v.2
  have hg:gens[n+1]? = some ⟨v.1.1,v.1.2.1,v.1.2.2.1,0⟩:=by
   have:=congrArg (·[0]?) hr
   simpa using this
  have hr2:gens.drop (n+1+1)=v.1.2.2.2:=by
   have:=congrArg (List.drop 1) hr
   simpa [List.drop_drop] using this
  refine hGo ?_
  exact body_cons G W ha.1 ha.2.1 hg h1 (ho _ _ h2) h3 h4 H zD xD zl zc hd fun {X2 it2} hd2=>body_ok G W more2 ha.2.2 hr2 h5 ho H (.inl zD) xD (.inl zl) (fun x c h=>⟨.inl (zc x c h).1,(zc x c h).2⟩) hd2 dl
end
section
variable {g:Glb} {C:Cfg} {d:Nat} {K:Ctx}
noncomputable def closOf (cells:List (Str × Addr)):List (Str × NameKind)→List (Str × Addr)→List (Str × Addr)
 | [],acc=>acc
 | (n,k)::r,acc=>closOf cells r (if k == .free then (match cells.lookup n with | some a=>(n,a)::acc | none=>acc) else acc)
theorem closureFor_eq {scope:Scope} {env:PySem.Env} (h:∀ x ∈ scope.names,x.2 = .free→∃ c,env.cells.lookup x.1=some c):closureFor scope env=pure (closOf env.cells scope.names []):=by
 unfold closureFor
 have key:∀ (l:List (Str × NameKind)) (acc:List (Str × Addr)),(∀ x ∈ l,x.2 = .free→∃ c,env.cells.lookup x.1=some c) →
   (forIn l acc fun (x:Str × NameKind) (cs:List (Str × Addr))=>if x.2 == .free then (do let a ← cellOf env x.1; pure (ForInStep.yield ((x.1,a)::cs)):Sem (ForInStep (List (Str × Addr)))) else pure (ForInStep.yield cs))=pure (closOf env.cells l acc):=by
  intro l
  induction l with
  | nil=>intro acc _; rfl
  | cons x l ih =>
   intro acc hl
   obtain ⟨n,k⟩:=x
   rw [List.forIn_cons]
   cases hk:k == NameKind.free with
   | true =>
    obtain ⟨c,hc⟩:=hl (n,k) (.head _) (by simpa using hk)
    simp only [hk,if_true,closOf]
    have:cellOf env n=pure c:=by unfold cellOf; rw [hc]
    rw [this]
    simp only [pure_bind,hc]
    exact ih _ fun y hy=>hl y (.tail _ hy)
   | false =>
    simp only [hk,Bool.false_eq_true,if_false,closOf,pure_bind]
    exact ih _ fun y hy=>hl y (.tail _ hy)
 have:=key scope.names [] h
 simp only [bind_pure]
 exact this
theorem closOf_lookup (cells:List (Str × Addr)):∀ (l:List (Str × NameKind)) (acc:List (Str × Addr)),(∀ x c,acc.lookup x=some c→cells.lookup x=some c)→∀ x c,(closOf cells l acc).lookup x=some c→cells.lookup x=some c
 | [],acc,h,x,c,e=>h x c e
 | (n,k)::r,acc,h,x,c,e=>by
  refine closOf_lookup cells r _ ?_ x c e
  split
  ·split
   ·rename_i a ha
    intro y b hy
    rw [List.lookup_cons] at hy
    cases hb:y == n with
    | true =>
     rw [hb] at hy
     have:y=n:=by simpa using hb
     subst this
     simp only [Option.some.injEq] at hy
     rw [ha,hy]
    | false=>rw [hb] at hy; exact h y b hy
   ·exact h
  ·exact h
theorem closOf_has (cells:List (Str × Addr)):∀ (l:List (Str × NameKind)) (acc:List (Str × Addr)) (x:Str),((acc.lookup x).isSome=true∨((x,NameKind.free) ∈ l∧(cells.lookup x).isSome=true))→((closOf cells l acc).lookup x).isSome=true
 | [],acc,x,h=>by
  rcases h with h | h
  ·exact h
  ·simp at h
 | (n,k)::r,acc,x,h=>by
  refine closOf_has cells r _ x ?_
  have up:∀ (a:Addr),(acc.lookup x).isSome=true→(((n,a)::acc).lookup x).isSome=true:=fun a ha=>by
   rw [List.lookup_cons]; cases x == n <;> simp [ha]
  rcases h with h | ⟨h,hs⟩
  ·left
   split
   ·split
    ·exact up _ h
    ·exact h
   ·exact h
  ·rcases List.mem_cons.mp h with e | h
   ·cases e
    left
    simp only [beq_self_eq_true,if_true]
    cases hc:cells.lookup n with
    | none=>rw [hc] at hs; cases hs
    | some a=>simp [List.lookup_cons]
   ·exact .inr ⟨h,hs⟩
theorem lookup_map_kind {f:Str × NameKind→NameKind}:∀ (l:List (Str × NameKind)) (x:Str),(l.map fun y=>(y.1,f y)).lookup x=(l.find? fun y=>x == y.1).map f
 | [],_=>rfl
 | y::r,x=>by
  simp only [List.map_cons,List.lookup_cons,List.find?_cons]
  cases x == y.1 with
  | true=>rfl
  | false=>exact lookup_map_kind r x
theorem Env.del_get (xs:List Nat):∀ (Γ:Env) (i:Nat),(Env.del xs Γ).get i=if xs.contains i then none else Γ.get i
 | [],i=>by simp [Env.del,Env.get]
 | (j,w)::r,i=>by
  simp only [Env.del]
  cases hj:xs.contains j with
  | true =>
   simp only [cond_true]
   rw [Env.del_get xs r i]
   by_cases hi:xs.contains i=true
   ·simp only [hi,if_true]
   ·simp only [hi,Env.get]
    have:(j == i)=false:=by
     cases h:j == i with
     | false=>rfl
     | true =>
      have:j=i:=by simpa using h
      subst this; exact absurd hj hi
    rw [this]; rfl
  | false =>
   simp only [cond_false,Env.get]
   rw [Env.del_get xs r i]
   cases h:j == i with
   | true =>
    have:j=i:=by simpa using h
    subst this
    simp only [cond_true,hj,Bool.false_eq_true,if_false]
   | false=>simp only [cond_false]
end
section
variable {g:Glb} {C:Cfg} {d:Nat} {K:Ctx}
inductive CompI (C:Cfg) (xs:List Nat) (c:CL) (sc:Names) (x:Expr):Prop
 | mk (elt tx ix:Expr) (fs:List Expr) (r:List Comprehension) (s:Scope) (p:Pos) (e:x = .ListComp elt (⟨tx,ix,fs,0⟩::r) s p) (h1:scopeOk s sc=true) (h2:delOk C xs s.names=true) (h3:chkLF C c sc (relab s.names sc) s.names elt tx ix fs r=true)
theorem comp_eq {x elt:Expr} {gs gs':List Comprehension} {s:Scope} {p:Pos} (e:x = .ListComp elt gs s p) (h:gs=gs'):x = .ListComp elt gs' s p:=by rw [e,h]
theorem inv_comp {xs:List Nat} {c:CL} {sc:Names} {x:Expr} (h:chkE C (.comp xs c) sc x=true):CompI C xs c sc x:=by
 obtain ⟨v,h⟩:=on_true h
 obtain ⟨h,h3⟩:=and_true2 h
 obtain ⟨h1,h2⟩:=and_true2 h
 obtain ⟨w,h3⟩:=on_true h3
 exact ⟨_,_,_,_,_,_,_,comp_eq v.2 w.2,h1,h2,h3⟩
inductive LFI (C:Cfg) (c:CL) (sc sc' own:Names) (elt tx ix:Expr) (fs:List Expr) (r:List Comprehension):Prop
 | mk (t:CT) (ci:CI) (ifs:CEs) (more:CL) (e:c = .cons t ci ifs more) (h1:chkT C t sc' tx=true) (h2:locO own t tx=true) (h3:chkI C ci sc tx ix=true) (h4:chkEs C ifs sc' fs=true) (h5:chkMore C more sc' elt r=true)
theorem inv_LF {c:CL} {sc sc' own:Names} {elt tx ix:Expr} {fs:List Expr} {r:List Comprehension} (h:chkLF C c sc sc' own elt tx ix fs r=true):LFI C c sc sc' own elt tx ix fs r:=by
 cases c with
 | elt e=>cases h
 | cons t ci ifs more =>
  obtain ⟨h,h5⟩:=and_true2 h
  obtain ⟨h,h4⟩:=and_true2 h
  obtain ⟨h,h3⟩:=and_true2 h
  obtain ⟨h1,h2⟩:=and_true2 h
  exact ⟨t,ci,ifs,more,rfl,h1,h2,h3,h4,h5⟩
theorem relab_lookup (sc:Names):∀ (names:Names) (x:Str),(relab names sc).lookup x=(names.lookup x).map fun k=>if (k == .free&&sc.lookup x == some .cell) then .cell else k
 | [],_=>rfl
 | (n,k)::r,x=>by
  have ih:=relab_lookup sc r x
  show List.lookup x ((if (k == NameKind.free&&sc.lookup n == some .cell)=true then (n,NameKind.cell) else (n,k))::relab r sc)=_
  have e:(if (k == NameKind.free&&sc.lookup n == some .cell)=true then (n,NameKind.cell) else (n,k))=(n,if (k == NameKind.free&&sc.lookup n == some .cell)=true then NameKind.cell else k):=by split <;> rfl
  rw [e,List.lookup_cons,List.lookup_cons]
  cases hx:x == n with
  | true =>
   have:x=n:=by simpa using hx
   subst this
   rfl
  | false=>exact ih
theorem mem_lookup {names:Names} {x:Str} {k:NameKind} (h:names.lookup x=some k):(x,k) ∈ names:=by
 induction names with
 | nil=>simp at h
 | cons y r ih =>
  obtain ⟨n,k'⟩:=y
  rw [List.lookup_cons] at h
  cases hx:x == n with
  | true =>
   rw [hx] at h
   have:x=n:=by simpa using hx
   subst this
   simp only [Option.some.injEq] at h; subst h
   exact .head _
  | false=>rw [hx] at h; exact .tail _ (ih h)
theorem relabel_eq {env:PySem.Env} {sc:Names} {scope:Scope} (hk:env.scope.kind = .function) (hn:∀ y,env.kindOf y=sc.lookup y):(relabel scope env).names=relab scope.names sc:=by
 unfold relabel relab
 refine List.map_congr_left fun x _=>?_
 obtain ⟨n,k⟩:=x
 simp only [hk,hn,beq_self_eq_true,Bool.and_true]
structure ScopeF (s:Scope) (sc:Names):Prop where
 kind:s.kind = .function
 cel:∀ x ∈ s.names,x.2 = .cell→s.names.lookup x.1=some .cell
 loc:∀ x ∈ s.names,x.2 = .local→s.names.lookup x.1=some .local
 free:∀ x ∈ s.names,x.2 = .free→sc.lookup x.1=some .cell∨sc.lookup x.1=some .free
theorem scopeF_of {s:Scope} {sc:Names} (h:scopeOk s sc=true):ScopeF s sc:=by
 have h:=and_true2 h
 have k:=fun x hx=>and_true2 (all_at h.2 (x:=x) hx)
 have k1:=fun x hx=>and_true2 (k x hx).1
 exact ⟨isFun_of h.1,fun x hx=>of_decide_eq_true (k1 x hx).1,fun x hx=>of_decide_eq_true (k1 x hx).2,fun x hx=>of_decide_eq_true (k x hx).2⟩
theorem del_some {xs:List Nat} {x:Str} {k:NameKind} (h:(!decide (k = .local∨k = .cell)||(xs.any (fun i=>isNm C i x)||!C.nm.any (· == x)))=true) (hk:k = .local∨k = .cell):(∃ j,j ∈ xs∧isNm C j x=true)∨x ∉ C.nm:=by
 rw [decide_eq_true hk,Bool.not_true,Bool.false_or] at h
 rcases Bool.or_eq_true_iff.mp h with h | h
 ·exact .inl (List.any_eq_true.mp h)
 ·exact .inr fun hm=>absurd ((List.any_eq_true (p:=fun y=>y == x)).mpr ⟨x,hm,beq_self_eq_true x⟩) (by rw [not_true h]; exact Bool.false_ne_true)
noncomputable def asgO (own:Names) (x:Str):Bool:=isOwn own x
theorem isOwn_some {own:Names} {x:Str} (h:isOwn own x=true):own.lookup x=some .local∨own.lookup x=some .cell:=of_decide_eq_true h
theorem isLoc_some {own:Names} {x:Str} (h:isLoc own x=true):own.lookup x=some .local:=of_decide_eq_true h
theorem own_nm {asg:Str→Bool} {i:Nat} {x:Expr} {p:Str→Bool} (hp:∀ y,p y=true→asg y=true) (h:(on (rdName x) fun v=>p v.1.1)=true):ownT asg (.nm i) x=true:=by
 obtain ⟨v,e,h⟩:=on_some h
 show (match rdName x with | some v=>asg v.1.1 | none=>true)=true
 rw [e]; exact hp _ h
theorem own_tup {asg:Str→Bool} {ts:CTs} {x:Expr} {p:List Expr→Bool} (hp:∀ y,p y=true→ownTs asg ts y=true) (h:(on (rdTuple x) fun v=>p v.1.1)=true):ownT asg (.tup ts) x=true:=by
 obtain ⟨v,e,h⟩:=on_some h
 show (match rdTuple x with | some v=>ownTs asg ts v.1.1 | none=>true)=true
 rw [e]; exact hp _ h
theorem own_cons {asg:Str→Bool} {t:CT} {r:CTs} {xs:List Expr} {p:Expr→Bool} {q:List Expr→Bool} (hp:∀ y,p y=true→ownT asg t y=true) (hq:∀ y,q y=true→ownTs asg r y=true) (h:(on (cons? xs) fun v=>p v.1.1&&q v.1.2)=true):ownTs asg (.cons t r) xs=true:=by
 obtain ⟨v,h⟩:=on_true h
 have h:=and_true2 h
 rw [v.2]
 exact Bool.and_eq_true_iff.mpr ⟨hp _ h.1,hq _ h.2⟩
mutual
theorem loc_own (own:Names):∀ (t:CT) (tx:Expr),locO own t tx=true→ownT (asgO own) t tx=true
 | .nm _,x,h=>own_nm (fun _ h=>h) h
 | .tup ts,x,h=>own_tup (fun xs h=>locs_own own ts xs h) h
theorem locs_own (own:Names):∀ (ts:CTs) (xs:List Expr),locOs own ts xs=true→ownTs (asgO own) ts xs=true
 | .nil,_,_=>rfl
 | .cons t r,xs,h=>own_cons (fun x h=>loc_own own t x h) (fun x h=>locs_own own r x h) h
end
theorem loc_rel1 (own sc:Names) (x:Str) (h:isLoc (relab own sc) x=true):asgO own x=true:=by
 have h:=isLoc_some h
 rw [relab_lookup] at h
 obtain ⟨k,hn,hk⟩:=Option.map_eq_some_iff.mp h
 unfold asgO isOwn
 rw [hn]
 cases k with
 | «local» => rfl
 | cell=>rfl
 | free =>
  split at hk
  ·cases hk
  ·cases hk
 | globalImplicit=>cases hk
 | globalExplicit=>cases hk
mutual
theorem loc_rel (own sc:Names):∀ (t:CT) (tx:Expr),locT (relab own sc) t tx=true→ownT (asgO own) t tx=true
 | .nm _,x,h=>own_nm (fun y h=>loc_rel1 own sc y h) h
 | .tup ts,x,h=>own_tup (fun xs h=>locs_rel own sc ts xs h) h
theorem locs_rel (own sc:Names):∀ (ts:CTs) (xs:List Expr),locTs (relab own sc) ts xs=true→ownTs (asgO own) ts xs=true
 | .nil,_,_=>rfl
 | .cons t r,xs,h=>own_cons (fun x h=>loc_rel own sc t x h) (fun x h=>locs_rel own sc r x h) h
end
theorem cellsFrom_has:∀ {names:List (Str × NameKind)} {n:Str} {k:Nat} {acc:List (Str × Addr)},(n,NameKind.cell) ∈ names∨(acc.lookup n).isSome=true→((cellsFrom k names acc).lookup n).isSome=true
 | [],n,k,acc,h=>by
  rcases h with h | h
  ·simp at h
  ·exact h
 | (m,kd)::r,n,k,acc,h=>by
  unfold cellsFrom
  split
  ·refine cellsFrom_has ?_
   rcases h with h | h
   ·rcases List.mem_cons.mp h with e | h
    ·cases e; right; simp
    ·exact .inl h
   ·right
    rw [List.lookup_cons]
    split
    ·rfl
    ·exact h
  ·rename_i hk
   refine cellsFrom_has ?_
   rcases h with h | h
   ·rcases List.mem_cons.mp h with e | h
    ·cases e; simp at hk
    ·exact .inl h
   ·exact .inr h
theorem cellsFrom_app:∀ (names:List (Str × NameKind)) (n:Nat) (acc:List (Str × Addr)),cellsFrom n names acc=cellsFrom n names []++acc
 | [],n,acc=>rfl
 | (m,k)::r,n,acc=>by
  unfold cellsFrom
  split
  ·rw [cellsFrom_app r (n+1) ((m,n)::acc),cellsFrom_app r (n+1) [(m,n)],List.append_assoc]; rfl
  ·exact cellsFrom_app r n acc
theorem newEnv_comp {M:Model} {A:Around} {E:Value→Shared→Prop} {s:Shared} {scope:Scope} {globals:Addr} {closure:List (Str × Addr)} {qual:Str} {env:PySem.Env} {Q:PySem.Env→Shared→Prop}
  (hQ:Q (newEnv scope s.heap.objs.size globals (cellsFrom (s.heap.objs.size+1) scope.names closure) qual none .none (some env) builtinsNs) { s with heap:=pushCells (s.heap.push { cls:=.type "dict", data:=.dict #[] }) scope.names }) :
  wpAny M A (newFunctionEnv scope globals closure [] qual none .none (some env)) Q E s:=by
 simp only [newFunctionEnv,Option.isSome_some,if_true]
 refine wpAny_bind (wpAny_alloc ?_)
 refine wpAny_bind (wpAny_layCells _ (fun name kind cells=>by cases hkc:kind == NameKind.cell <;> simp [hkc]) _ _ _ _ ?_)
 rw [show ({ s with heap:=s.heap.push { cls:=.type "dict", data:=.dict #[] } }:Shared).heap.objs.size=s.heap.objs.size+1 from Heap.size_push ..]
 refine wpAny_bind ?_
 rw [List.forIn_nil]
 exact wpAny_pure (wpAny_pure hQ)
theorem cellsFrom_memAll:∀ (names:List (Str × NameKind)) (k:Nat) (acc:List (Str × Addr)) (n:Str) (c:Addr),(n,c) ∈ cellsFrom k names acc→(n,c) ∈ acc∨(n,NameKind.cell) ∈ names
 | [],k,acc,n,c,h=>.inl h
 | (m,kd)::r,k,acc,n,c,h=>by
  unfold cellsFrom at h
  split at h
  ·rename_i hk
   rcases cellsFrom_memAll r (k+1) _ n c h with h | h
   ·rcases List.mem_cons.mp h with e | h
    ·cases e
     have:kd=NameKind.cell:=by simpa using hk
     subst this; exact .inr (.head _)
    ·exact .inl h
   ·exact .inr (.tail _ h)
  ·rcases cellsFrom_memAll r k acc n c h with h | h
   ·exact .inl h
   ·exact .inr (.tail _ h)
theorem cellsFrom_mem {names:List (Str × NameKind)} {k:Nat} {n:Str} {c:Addr} (h:(cellsFrom k names []).lookup n=some c):(n,NameKind.cell) ∈ names:=by
 rcases cellsFrom_memAll names k [] n c (mem_of_lookup h) with h | h
 ·simp at h
 ·exact h
noncomputable def NewX (D L:Addr) (own:List (Str × Addr)) (b:Addr):Prop:=b=D∨b=L∨∃ n,own.lookup n=some b
@[elab_as_elim] theorem NewX.elim' {p:Addr→Prop} {D L b:Addr} {own:List (Str × Addr)} (h:NewX D L own b) (h1:p D) (h2:p L) (h3:∀ n c,own.lookup n=some c→p c):p b:=orEq h h1 fun h=>orEq h h2 fun ⟨n,h⟩=>h3 n b h
noncomputable def OwnX (L:Addr) (own:List (Str × Addr)) (b:Addr):Prop:=b=L∨∃ n,own.lookup n=some b
noncomputable def compEnv (sco:Scope) (L:Addr) (env:PySem.Env) (own:List (Str × Addr)):PySem.Env:={ newEnv sco L env.globals (own++closOf env.cells sco.names []) env.qual none .none (some env) builtinsNs with scope:=relabel sco env }
theorem comp_core (G:GOk g) (W:Wired g C) {t:CT} {ci:CI} {ifs:CEs} {more:CL} (hi:SI g C d K ci) (hifs:AllE g C d K ifs) (hm:AllL g C d K more) {xs:List Nat} {elt tx ix:Expr} {fs:List Expr} {r:List Comprehension} {sco:Scope} {pos:Pos} {sc:Names} {A:Around} {s:Shared} {env:PySem.Env} {asg:Str→Bool} {X Z:Addr→Prop} {Γ:Env} {bs:List Nat} {ρ:Rho} {σ σ':St} {E:Value→Shared→Prop} {ys:List AV} {use:Option (Value→Sem Unit)} {Q:Value→Shared→Prop} {p2:Pos}
  (hs:scopeOk sco sc=true) (hdel:delOk C xs sco.names=true) (ht:chkT C t (relab sco.names sc) tx=true) (hl:locO sco.names t tx=true) (hci:chkI C ci sc tx ix=true) (hfs:chkEs C ifs (relab sco.names sc) fs=true) (hmore:chkMore C more (relab sco.names sc) elt r=true)
  (H:Here g d A env sc asg X) (R:Rel g Z bs ρ σ s.heap) (er:ER g Z ρ σ s.heap env Γ) (e:evL K (Env.del xs Γ) (.cons t ci ifs more) σ=some (ys,σ')) (hlen:ys.length≤big)
  (k:∀ s' ρ' L D,Rel g (Zu Z fun b=>b=L) bs ρ' σ' s'.heap→RA ρ' (Fz (Zu Z fun b=>b=L) ρ' σ') s'.heap (.ref D) (mkLst ys)→ER g (Zu Z fun b=>b=L) ρ' σ' s'.heap env Γ→Post NoX ρ σ s ρ' σ' s'→(∃ m,s'.heap.Ns L m)→¬ Lv s.heap L→compPost (model g.prog g.w) A E use Q (.ref D) L (.ok .next) s') :
  wpAny (model g.prog g.w) A (comprehension (.ListComp elt (⟨tx,ix,fs,0⟩::r) sco pos) sco env p2 (newList []) false (eval ix env) use) Q E s:=by
 have F:=scopeF_of hs
 have hkind:=H.kind
 have hfree:∀ x ∈ sco.names,x.2 = .free→∃ c,env.cells.lookup x.1=some c:=fun x hx e=>H.ok.held x.1 (by rw [hkind]; exact F.free x hx e)
 rw [evL_cons] at e
 obtain ⟨src,σ1,e1,e⟩:=bnd_some e
 cases hfr:freshT t (Env.del xs Γ) with
 | false=>rw [hfr] at e; cases e
 | true =>
 rw [hfr] at e
 simp only [Bool.not_true,cond_false] at e
 have hdelΓ:∀ j v,(Env.del xs Γ).get j=some v→Γ.get j=some v∧xs.contains j=false:=fun j v hj=>by
  rw [Env.del_get] at hj
  cases hc:xs.contains j with
  | true=>rw [hc] at hj; simp at hj
  | false=>rw [hc] at hj; exact ⟨by simpa using hj,rfl⟩
 have er0:ER g Z ρ σ s.heap env (Env.del xs Γ):=er.weak fun j v hj=>(hdelΓ j v hj).1
 refine wpAny_comprehension_free (cl:=closOf env.cells sco.names []) rfl (fun x=>notSet_fold (chkI_notSet hci)) (closureFor_eq hfree) F.kind F.loc
  (hi.ok hci H R er0 e1 fun it XI S s2 ρ2 R2 P2 hXI O hS=>?_)
 refine wpAny_newObj_type ?_ (Nat.zero_le _)
 refine newEnv_comp ?_
 have hD0:∀ b o,s2.heap.get? b=some o→(s2.heap.push { cls:=.type "list", data:=.seq ([]:List Value).toArray }).get? b=some o:=fun b o e=>Heap.get?_push_of_some _ e
 have hDat0:(s2.heap.push { cls:=.type "list", data:=.seq ([]:List Value).toArray }).get? s2.heap.objs.size=some { cls:=.type "list", data:=.seq ([]:List Value).toArray }:=Heap.get?_push_size _ rfl
 generalize hH2:s2.heap.push { cls:=.type "list", data:=.seq ([]:List Value).toArray }=H2 at hD0 hDat0 ⊢
 have hL2:H2.objs.size=s2.heap.objs.size+1:=by rw [← hH2,Heap.size_push]
 have hlt2:s2.heap.objs.size<H2.objs.size:=by rw [hL2]; exact Nat.lt_succ_self _
 have hDL:s2.heap.objs.size ≠ H2.objs.size:=Nat.ne_of_lt hlt2
 have kp0:∀ b o,H2.get? b=some o→(pushCells (H2.push { cls:=.type "dict", data:=.dict #[] }) sco.names).get? b=some o:=fun b o e=>pushCells_keeps _ _ b o (Heap.get?_push_of_some _ e)
 have hns:(pushCells (H2.push { cls:=.type "dict", data:=.dict #[] }) sco.names).Ns H2.objs.size (fun _=>none):=(Heap.Ns.new H2 (.type "dict")).keeps (pushCells_keeps _ _)
 have hco:CellsOk (pushCells (H2.push { cls:=.type "dict", data:=.dict #[] }) sco.names) (H2.objs.size+1) (cellsFrom (H2.objs.size+1) sco.names []):=by
  have:=cellsFrom_ok sco.names (H2.push { cls:=.type "dict", data:=.dict #[] }) (H2.objs.size+1) [] ⟨fun _ _ hm=>(nomatch hm),List.Pairwise.nil⟩ (by rw [Heap.size_push]; exact Nat.le_refl _)
  rwa [Heap.size_push] at this
 rw [cellsFrom_app]
 have hownm0:∀ n c,(cellsFrom (H2.objs.size+1) sco.names []).lookup n=some c→(n,NameKind.cell) ∈ sco.names:=fun n c hc=>cellsFrom_mem hc
 have hhas:∀ n,(n,NameKind.cell) ∈ sco.names→((cellsFrom (H2.objs.size+1) sco.names []).lookup n).isSome=true:=fun n hn=>cellsFrom_has (.inl hn)
 generalize hown:cellsFrom (H2.objs.size+1) sco.names []=own at hco hhas hownm0 ⊢
 have hownm:=hownm0
 clear hownm0
 have kp:∀ b o,s2.heap.get? b=some o→(pushCells (H2.push { cls:=.type "dict", data:=.dict #[] }) sco.names).get? b=some o:=fun b o e=>kp0 b o (hD0 b o e)
 have hDat:=kp0 _ _ hDat0
 generalize hh':pushCells (H2.push { cls:=.type "dict", data:=.dict #[] }) sco.names=h' at kp hns hco hDat ⊢
 have hDnew:¬ Lv s2.heap s2.heap.objs.size:=lv_new _
 have hLnew:¬ Lv s2.heap H2.objs.size:=lv_out (by rw [hL2]; exact Nat.le_succ _)
 have hOat:∀ n c,own.lookup n=some c→h'.IsCell c none∧H2.objs.size+1≤c:=fun n c hc=>hco.empty n c (mem_of_lookup hc)
 have hOnew:∀ n c,own.lookup n=some c→¬ Lv s2.heap c∧Lv h' c∧c ≠ s2.heap.objs.size∧c ≠ H2.objs.size:=fun n c hc=>by
  obtain ⟨⟨o,ho,_⟩,hlo⟩:=hOat n c hc
  exact ⟨lv_out (Nat.le_of_lt (Nat.lt_trans hlt2 hlo)),⟨o,ho⟩,Nat.ne_of_gt (Nat.lt_trans hlt2 hlo),Nat.ne_of_gt hlo⟩
 have hLlv:Lv h' H2.objs.size:=let ⟨o,_,_,e,_⟩:=hns; ⟨o,e⟩
 clear hH2 hOat hlt2
 generalize hDdef:s2.heap.objs.size=D at *
 generalize hLdef:H2.objs.size=L at *
 have hZb:∀ b,(Zu Z (NewX D L own)) b→Z b∨¬ Lv s2.heap b:=fun b hb=>hb.imp_right fun hb=>NewX.elim' (p:=fun b=>¬ Lv s2.heap b) hb hDnew hLnew fun n b hn=>(hOnew n b hn).1
 have hXIlv:∀ b,XI b→Lv s2.heap b:=fun b hb=>(R2.zlt (.inr hb)).2
 have hd:∀ b,(Zu Z (NewX D L own)) b→¬ XI b:=fun b hb hx=>hb.elim (fun hb=>hXI b hx (R.zlt hb).2) fun hb=>NewX.elim' (p:=fun b=>¬ Lv s2.heap b) hb hDnew hLnew (fun n b hn=>(hOnew n b hn).1) (hXIlv b hx)
 have R4:Rel g (Zu (Zu Z (NewX D L own)) XI) bs ρ2 σ1 h':=R2.enter kp fun b hb=>hb.elim (fun hb=>hb.elim (fun hb=>.inl (.inl hb)) fun hb=>.inr (NewX.elim' (p:=fun b=>¬ Lv s2.heap b∧Lv h' b) hb ⟨hDnew,⟨_,hDat⟩⟩ ⟨hLnew,hLlv⟩ fun n b hn=>⟨(hOnew n b hn).1,(hOnew n b hn).2.1⟩)) fun hb=>.inl (.inr hb)
 have P4:Post NoX ρ2 σ1 s2 ρ2 σ1 { s2 with heap:=h' }:=Post.grow kp rfl rfl
 have mono:∀ {v:Value} {y:AV},RA ρ (Fz Z ρ σ) s.heap v y→RA ρ2 (Fz (Zu (Zu Z (NewX D L own)) XI) ρ2 σ1) h' v y:=fun {v y} q=>by
  have nlv:∀ b,(Zu (Zu Z (NewX D L own)) XI) b→Z b∨¬ Lv s.heap b:=fun b hb=>hb.elim (fun hb=>(hZb b hb).imp_right fun hb lb=>hb (P2.lv b lb)) fun hb=>.inr (hXI b hb)
  exact RA.post (X:=NoX) (s':={ s2 with heap:=h' }) (q.zless (Z':=Zu (Zu Z (NewX D L own)) XI) nlv) (P2.trans P4) fun _ h=>False.elim h
 have hcl:∀ x c,(closOf env.cells sco.names []).lookup x=some c→env.cells.lookup x=some c:=closOf_lookup _ _ _ fun x c h=>by simp at h
 have hrel:(relabel sco env).names=relab sco.names sc:=relabel_eq H.ok.kind hkind
 have hk2:∀ y,(compEnv sco L env own).kindOf y=(relab sco.names sc).lookup y:=fun y=>by
  show (relabel sco env).names.lookup y=_
  rw [hrel]
 have hownl:∀ y c,own.lookup y=some c→(own++closOf env.cells sco.names []).lookup y=some c:=fun y c hc=>by rw [List.lookup_append,hc]; rfl
 have hcs:∀ y c,(own++closOf env.cells sco.names []).lookup y=some c→own.lookup y=some c∨(own.lookup y=none∧(closOf env.cells sco.names []).lookup y=some c):=fun y c hc=>by
  rw [List.lookup_append] at hc
  cases ho:own.lookup y with
  | some d=>rw [ho] at hc; left; exact hc
  | none=>rw [ho] at hc; right; exact ⟨rfl,hc⟩
 have hfr2:∀ y,(relab sco.names sc).lookup y=some .cell∨(relab sco.names sc).lookup y=some .free→(∃ c,own.lookup y=some c∧sco.names.lookup y=some .cell)∨(∃ c,(closOf env.cells sco.names []).lookup y=some c∧env.cells.lookup y=some c∧(env.kindOf y=some .cell∨env.kindOf y=some .free)):=fun y hy=>by
  rw [relab_lookup] at hy
  cases hn:sco.names.lookup y with
  | none=>rw [hn] at hy; simp at hy
  | some k0 =>
   have hm:=mem_lookup hn
   rw [hn] at hy
   simp only [Option.map_some,Option.some.injEq] at hy
   cases k0 with
   | free =>
    right
    obtain ⟨c,hc⟩:=hfree _ hm rfl
    have hs':=closOf_has env.cells sco.names [] y (.inr ⟨hm,by rw [hc]; rfl⟩)
    obtain ⟨c',hc'⟩:=Option.isSome_iff_exists.mp hs'
    have:=hcl _ _ hc'
    rw [hc] at this; cases this
    exact ⟨c,hc',hc,by rw [hkind]; exact F.free _ hm rfl⟩
   | cell =>
    left
    obtain ⟨c,hc⟩:=Option.isSome_iff_exists.mp (hhas y hm)
    exact ⟨c,hc,rfl⟩
   | «local» => simp at hy
   | globalImplicit=>simp at hy
   | globalExplicit=>simp at hy
 have hclv:∀ x c,(closOf env.cells sco.names []).lookup x=some c→Lv s2.heap c:=fun x c hc=>P2.lv _ (R.zlt (er.zC x c (hcl _ _ hc))).2
 have EO:EOK g (compEnv sco L env own) (asgO sco.names) (OwnX L own):={
  kind:=F.kind
  globals:=H.ok.globals
  builtins:=H.ok.builtins
  xL:=.inl rfl
  asgOk:=fun x hx=>by
   rw [hk2,relab_lookup]
   rcases isOwn_some hx with e | e
   ·rw [e]; exact .inl rfl
   ·rw [e]
    obtain ⟨c,hc⟩:=Option.isSome_iff_exists.mp (hhas x (mem_lookup e))
    exact .inr ⟨rfl,c,hownl _ _ hc,.inr ⟨x,hc⟩⟩
  held:=fun x hx=>by
   rw [hk2] at hx
   rcases hfr2 x hx with ⟨c,hc,_⟩ | ⟨c,hc,_⟩
   ·exact ⟨c,hownl _ _ hc⟩
   ·show ∃ c,(own++closOf env.cells sco.names []).lookup x=some c
    rw [List.lookup_append]
    cases own.lookup x with
    | some d=>exact ⟨d,rfl⟩
    | none=>exact ⟨c,hc⟩
  one:=fun x y c h1 h2=>by
   rcases hcs x c h1 with h1 | ⟨_,h1⟩ <;> rcases hcs y c h2 with h2 | ⟨_,h2⟩
   ·exact name_of_addr hco.apart (mem_of_lookup h1) (mem_of_lookup h2)
   ·exact absurd (hclv _ _ h2) (hOnew _ _ h1).1
   ·exact absurd (hclv _ _ h1) (hOnew _ _ h2).1
   ·exact H.ok.one x y c (hcl _ _ h1) (hcl _ _ h2)
  apart:=fun x c h1 e=>by
   rcases hcs x c h1 with h1 | ⟨_,h1⟩
   ·exact (hOnew _ _ h1).2.2.2 e
   ·have:=hclv _ _ h1
    rw [show c=L from e] at this
    exact hLnew this
  xs:=fun b hb=>by
   rcases hb with hb | ⟨n,hn⟩
   ·exact .inl hb
   ·exact .inr ⟨n,hownl _ _ hn⟩ }
 have H2':Here g d A (compEnv sco L env own) (relab sco.names sc) (asgO sco.names) (OwnX L own):=⟨EO,H.room,hrel⟩
 have zcell:∀ x c,env.cells.lookup x=some c→c ≠ D∧c ≠ L:=fun x c hc=>by
  have:=P2.lv _ (R.zlt (er.zC x c hc)).2
  exact ⟨fun e=>hDnew (e▸this),fun e=>hLnew (e▸this)⟩
 have hgone:∀ (x:Str) (k:NameKind),(k = .local∨k = .cell)→(x,k) ∈ sco.names→∀ (i:Nat) (v:AV),(Env.del xs Γ).get i=some v→g.nm[i]? = some x→False:=by
  intro x k hk hm i v h1 h2
  rcases del_some (all_at hdel hm) hk with ⟨j,hj,hjx⟩ | hno
  ·have hj2:=isNm_of hjx
   rw [W.nm] at hj2
   have:=nd_of G.nd h2 hj2
   subst this
   have:=(hdelΓ i v h1).2
   simp at this
   exact this hj
  ·exact hno (W.nm▸List.mem_of_getElem? h2)
 have er4:ER g (Zu (Zu Z (NewX D L own)) XI) ρ2 σ1 h' (compEnv sco L env own) (Env.del xs Γ):={
  ns:=by
   refine ⟨_,hns,fun i v x h1 h2 h3=>?_⟩
   exfalso
   rw [hk2,relab_lookup] at h3
   cases hn:sco.names.lookup x with
   | none=>rw [hn] at h3; cases h3
   | some k0 =>
    have hm:=mem_lookup hn
    rw [hn] at h3
    simp only [Option.map_some,Option.some.injEq] at h3
    have hk0:k0 = .local:=by
     split at h3
     ·cases h3
     ·exact h3
    subst hk0
    exact hgone x .local (.inl rfl) hm i v h1 h2
  cell:=fun x c hc=>by
   rcases hcs x c hc with hc1 | ⟨hno,hc1⟩
   ·refine ⟨none,(hco.empty x c (mem_of_lookup hc1)).1,fun i v h1 h2 h3=>?_⟩
    exfalso
    rw [hk2] at h3
    rcases hfr2 x h3 with ⟨_,_,hk⟩ | ⟨c',hc',hce,hk⟩
    ·exact hgone x .cell (.inr rfl) (mem_lookup hk) i v h1 h2
    ·have hmem:(x,NameKind.cell) ∈ sco.names:=hownm x c hc1
     exact hgone x .cell (.inr rfl) hmem i v h1 h2
   ·have hc0:=hcl _ _ hc1
    obtain ⟨ov,hi0,hv⟩:=er.cell x c hc0
    obtain ⟨o,ho,hdt⟩:=hi0
    refine ⟨ov,⟨o,kp _ _ (P2.ext _ _ ho id (R.notFoot (er.zC x c hc0))),hdt⟩,fun i v h1 h2 h3=>?_⟩
    rw [hk2] at h3
    rcases hfr2 x h3 with ⟨c',hc',_⟩ | ⟨c',_,_,hk⟩
    ·rw [hno] at hc'; cases hc'
    ·obtain ⟨val,q1,q2⟩:=hv i v (hdelΓ i v h1).1 h2 hk
     exact ⟨val,q1,mono q2⟩
  zL:=.inl (.inr (.inr (.inl rfl)))
  zC:=fun x c hc=>by
   rcases hcs x c hc with hc | ⟨_,hc⟩
   ·exact .inl (.inr (.inr (.inr ⟨x,hc⟩)))
   ·exact .inl (.inl (er.zC x c (hcl _ _ hc))) }
 have hwp:∀ (cenv:PySem.Env),cenv=newEnv sco L env.globals (own++closOf env.cells sco.names []) env.qual none .none (some env) builtinsNs →
   codeAny (model g.prog g.w) A (.compStart (.ListComp elt (⟨tx,ix,fs,0⟩::r) sco pos) 0 (.ref it) (.ref D) { cenv with scope:=relabel sco env }) (compPost (model g.prog g.w) A E use Q (.ref D) cenv.locals) { s2 with heap:=h' }:=by
  rintro cenv rfl
  refine start_ok (n:=0) rfl (O.ok _ hd) (σ:=σ1) (ρ:=ρ2) (O.more hS hZb kp) ?_
  have zc2:∀ x c,(own++closOf env.cells sco.names []).lookup x=some c→(Zu Z (NewX D L own)) c∧c ≠ D:=fun x c hc=>by
   rcases hcs x c hc with hc | ⟨_,hc⟩
   ·exact ⟨.inr (.inr (.inr ⟨x,hc⟩)),(hOnew _ _ hc).2.2.1⟩
   ·exact ⟨.inl (er.zC x c (hcl _ _ hc)),(zcell x c (hcl _ _ hc)).1⟩
  have xD:¬ OwnX L own D:=fun e=>e.elim hDL fun ⟨n,hn⟩=>(hOnew _ _ hn).2.2.1 rfl
  refine turns_ok G W (Zb:=Zu Z (NewX D L own)) (XI:=XI) (ws:=[]) hifs rfl ht (loc_own _ _ _ hl) hfs H2' (O.ok _ hd) hd (.inr (.inl rfl)) xD (.inr (.inr (.inl rfl))) zc2
   (body_ok G W more hm rfl hmore (fun t tx h=>loc_rel _ _ t tx h) H2' (.inr (.inl rfl)) xD (.inr (.inr (.inl rfl))) zc2 hd (fun e=>hDL e))
   src.items hfr (evI_held e1) e R4 er4 (O.more hS hZb kp) ⟨_,hDat⟩ (by simpa using hlen) fun s5 ρ5 us R5 er5 P5 hP5 hus=>?_
  have zin:∀ b,(Zu Z fun b=>b=L) b→(Zu Z (NewX D L own)) b:=fun b hb=>hb.imp_right fun hb=>.inr (.inl hb)
  have R6:Rel g (Zu Z fun b=>b=L) bs ρ5 σ' s5.heap:=R5.leave zin
  have hDZ:¬ (Zu Z fun b=>b=L) D:=fun hb=>hb.elim (fun hb=>hDnew (P2.lv _ (R.zlt hb).2)) hDL
  have ra:RA ρ5 (Fz (Zu Z fun b=>b=L) ρ5 σ') s5.heap (.ref D) (mkLst ys):=.mkLst (vs:=us) ⟨hDZ,R5.notFoot (.inr (.inl rfl))⟩ (by simpa using hP5.isList) (hus.drop' zin)
  have Pall:Post (fun b=>(OwnX L own b∨b=D)∨XI b) ρ σ s ρ5 σ' s5:=((P2.trans P4).wider fun _ h=>h.elim).trans P5
  have hnew:∀ b,((OwnX L own b∨b=D)∨XI b)→¬ Lv s.heap b:=fun b hb lb=>hb.elim (fun hb=>eqOr (p:=fun b=>¬ Lv s2.heap b) hb (fun hb=>orEq hb hLnew fun ⟨n,hn⟩=>(hOnew _ _ hn).1) hDnew (P2.lv _ lb)) fun hb=>hXI b hb lb
  have Pno:Post NoX ρ σ s ρ5 σ' s5:=Pall.fresh fun b hb lb=>absurd lb (hnew b hb)
  have er6:ER g (Zu Z fun b=>b=L) ρ5 σ' s5.heap env Γ:=er.more R Pno fun b hb lb=>hLnew (hb▸P2.lv _ lb)
  obtain ⟨m,hm5,_⟩:=er5.ns
  exact k s5 ρ5 L D R6 ra er6 Pno ⟨m,hm5⟩ fun lb=>hLnew (P2.lv _ lb)
 exact hwp _ rfl
end
section
variable {g:Glb} {C:Cfg} {d:Nat} {K:Ctx}
theorem leaveL {Z:Addr→Prop} {bs:List Nat} {ρ ρ':Rho} {σ σ':St} {s s':Shared} {L:Addr} {h':Heap} (R:Rel g Z bs ρ σ s.heap) (R6:Rel g (Zu Z fun b=>b=L) bs ρ' σ' s'.heap) (P:Post NoX ρ σ s ρ' σ' s') (hL:¬ Lv s.heap L) (hsb:Heap.SameBut L s'.heap h') :
  Rel g Z bs ρ' σ' h'∧Post NoX ρ σ s ρ' σ' { s' with heap:=h' }:=by
 have kk:∀ b o,s'.heap.get? b=some o→¬ b=L→h'.get? b=some o:=fun b o e hb=>hsb.extBut b o hb e
 refine ⟨R6.done (fun b hb e=>hL (e▸(R.zlt hb).2)) kk,?_⟩
 have P2:Post (fun b=>b=L) ρ' σ' s' ρ' σ' { s' with heap:=h' }:=Post.inX kk rfl rfl
 exact ((P.wider fun _ h=>h.elim).trans P2).fresh fun b hb lb=>absurd (hb▸lb) hL
theorem SE.comp (G:GOk g) (W:Wired g C) {xs:List Nat} {c:CL} (hc:AllL g C d K c):SE g C d K (.comp xs c):=⟨by
 intro x sc A s env asg X Z Γ bs ρ σ σ' E r Q hck H R er e k
 obtain ⟨elt,tx,ix,fs,rr,sco,p,rfl,h1,h2,h3⟩:=inv_comp hck
 obtain ⟨t,ci,ifs,more,rfl,c1,c2,c3,c4,c5⟩:=inv_LF h3
 obtain ⟨ys,σ1,e1,e⟩:=bnd_some e
 obtain ⟨hlen,e⟩:=ite_some e
 obtain ⟨rfl,rfl⟩:=ret_same e
 show wpAny _ A (comprehension (.ListComp elt (⟨tx,ix,fs,0⟩::rr) sco p) sco env _ (newList []) false (eval ix env)) Q E s
 refine comp_core G W hc.1 hc.2.1 hc.2.2 h1 h2 c1 c2 c3 c4 c5 H R er e1 hlen fun s' ρ' L D R6 ra er6 P ⟨m,hm⟩ hL=>?_
 refine ⟨m,hm,fun h' hsb=>?_⟩
 obtain ⟨R7,P7⟩:=leaveL R R6 P hL hsb
 exact k _ { s' with heap:=h' } ρ' R7 P7 (ra.done fun b o e hb=>hsb.extBut b o hb e)⟩
inductive FlR (ρ:Rho) (F:Addr→Prop) (h:Heap):Mine.Flow→PySem.Flow→Prop
 | next:FlR ρ F h .next .next
 | ret {val:Value} {v:AV}:RA ρ F h val v→FlR ρ F h (.ret v) (.ret val)
structure SS (g:Glb) (C:Cfg) (d:Nat) (K:Ctx) (st:CS):Prop where
 ok:∀ {x:Stmt} {sc:Names} {A:Around} {s:Shared} {env:PySem.Env} {asg:Str→Bool} {X Z:Addr→Prop} {Γ Γ':Env} {bs:List Nat} {ρ:Rho} {σ σ':St} {E:Value→Shared→Prop} {fl:Mine.Flow} {Q:PySem.Flow→Shared→Prop},
  chkS C st sc x=true→Here g d A env sc asg X→(∀ y,sc.lookup y=some .local∨sc.lookup y=some .cell→asg y=true)→Rel g Z bs ρ σ s.heap→ER g Z ρ σ s.heap env Γ→evS K st Γ σ=some ((fl,Γ'),σ') →
  (∀ s' ρ' pf,Rel g Z bs ρ' σ' s'.heap→ER g Z ρ' σ' s'.heap env Γ'→Post X ρ σ s ρ' σ' s'→FlR ρ' (Fz Z ρ' σ') s'.heap fl pf→Q pf s')→wpAny (model g.prog g.w) A (exec x env) Q E s
structure SSs (g:Glb) (C:Cfg) (d:Nat) (K:Ctx) (st:CSs):Prop where
 ok:∀ {xs:List Stmt} {sc:Names} {A:Around} {s:Shared} {env:PySem.Env} {asg:Str→Bool} {X Z:Addr→Prop} {Γ Γ':Env} {bs:List Nat} {ρ:Rho} {σ σ':St} {E:Value→Shared→Prop} {fl:Mine.Flow} {Q:PySem.Flow→Shared→Prop},
  chkSs C st sc xs=true→Here g d A env sc asg X→(∀ y,sc.lookup y=some .local∨sc.lookup y=some .cell→asg y=true)→Rel g Z bs ρ σ s.heap→ER g Z ρ σ s.heap env Γ→evSs K st Γ σ=some ((fl,Γ'),σ') →
  (∀ s' ρ' pf,Rel g Z bs ρ' σ' s'.heap→ER g Z ρ' σ' s'.heap env Γ'→Post X ρ σ s ρ' σ' s'→FlR ρ' (Fz Z ρ' σ') s'.heap fl pf→Q pf s')→wpAny (model g.prog g.w) A (execs xs env) Q E s
theorem hXZ {A:Around} {env:PySem.Env} {sc:Names} {asg:Str→Bool} {X Z:Addr→Prop} {Γ:Env} {ρ:Rho} {σ:St} {h:Heap} (H:Here g d A env sc asg X) (er:ER g Z ρ σ h env Γ):∀ b,X b→Z b:=fun b hb=>orEq (H.ok.xs b hb) er.zL fun ⟨y,hy⟩=>er.zC y b hy
inductive ChkSCons (C:Cfg) (a:CS) (r:CSs) (sc:Names) (xs:List Stmt):Prop
 | mk (y:Stmt) (ys:List Stmt) (e:xs=y::ys) (h1:chkS C a sc y=true) (h2:chkSs C r sc ys=true)
theorem chkS_cons {a:CS} {r:CSs} {sc:Names} {xs:List Stmt} (h:chkSs C (.cons a r) sc xs=true):ChkSCons C a r sc xs:=by
 obtain ⟨v,h⟩:=on_true h
 obtain ⟨h1,h2⟩:=and_true2 h
 exact ⟨v.1.1,v.1.2,v.2,h1,h2⟩
theorem chkS_nil {sc:Names} {xs:List Stmt} (h:chkSs C .nil sc xs=true):xs=[]:=by
 obtain ⟨v,_⟩:=on_true h; exact v.1
theorem SSs.nil:SSs g C d K .nil:=⟨by
 intro xs sc A s env asg X Z Γ Γ' bs ρ σ σ' E fl Q hc H ho R er e k
 obtain rfl:=chkS_nil hc
 obtain ⟨rfl,rfl,rfl⟩:=ret_same3 e
 exact wpAny_execs_nil (k s ρ .next R er Post.refl .next)⟩
theorem SSs.cons {a:CS} {r:CSs} (ha:SS g C d K a) (hr:SSs g C d K r):SSs g C d K (.cons a r):=⟨by
 intro xs sc A s env asg X Z Γ Γ' bs ρ σ σ' E fl Q hc H ho R er e k
 obtain ⟨y,ys,rfl,c1,c2⟩:=chkS_cons hc
 obtain ⟨f1,σ1,e1,e2⟩:=bnd_some e
 refine wpAny_execs_cons (ha.ok c1 H ho R er e1 fun s1 ρ1 pf R1 er1 P1 hf=>?_)
 obtain ⟨f0,Γ1⟩:=f1
 cases hf with
 | next=>exact hr.ok c2 H ho R1 er1 e2 fun s2 ρ2 pf R2 er2 P2 hf=>k s2 ρ2 pf R2 er2 (P1.trans P2) hf
 | ret ra =>
  obtain ⟨rfl,rfl,rfl⟩:=ret_same3 e2
  exact k s1 ρ1 _ R1 er1 P1 (.ret ra)⟩
theorem SS.stuck:SS g C d K .stuck:=⟨fun _ _ _ _ _ e _=>nomatch e⟩
theorem SS.expr {a:CE} (ha:SE g C d K a):SS g C d K (.expr a):=⟨by
 intro x sc A s env asg X Z Γ Γ' bs ρ σ σ' E fl Q hc H ho R er e k
 obtain ⟨f,as,ks,q,p,rfl,h1⟩:=inv_expr hc
 obtain ⟨v,σ1,e1,e2⟩:=bnd_some e
 obtain ⟨rfl,rfl,rfl⟩:=ret_same3 e2
 refine wpAny_Expr_any (ha.ok h1 H R er e1 fun val s1 ρ1 R1 P1 q1=>k s1 ρ1 .next R1 (er.post R P1) (P1.wider fun _ h=>h.elim) .next) ?_ ?_
 ·unfold interactive; rw [H.ok.kind]; rfl
 ·rfl⟩
theorem SS.retNone:SS g C d K .retNone:=⟨by
 intro x sc A s env asg X Z Γ Γ' bs ρ σ σ' E fl Q hc H ho R er e k
 obtain ⟨p,rfl⟩:=inv_retNone hc
 obtain ⟨rfl,rfl,rfl⟩:=ret_same3 e
 exact wpAny_Return_none (k s ρ _ R er Post.refl (.ret (.pv .none)))⟩
end
section
variable {g:Glb} {C:Cfg} {d:Nat} {K:Ctx}
theorem SS.ret {a:CE} (ha:SE g C d K a):SS g C d K (.ret a):=⟨by
 intro x sc A s env asg X Z Γ Γ' bs ρ σ σ' E fl Q hc H ho R er e k
 obtain ⟨y,p,rfl,h⟩:=inv_ret hc
 obtain ⟨v,σ1,e1,e2⟩:=bnd_some e
 obtain ⟨rfl,rfl,rfl⟩:=ret_same3 e2
 exact wpAny_Return_some (ha.ok h H R er e1 fun val s1 ρ1 R1 P1 q1=>k s1 ρ1 _ R1 (er.post R P1) (P1.wider fun _ h=>h.elim) (.ret q1))⟩
theorem SS.ifS {t:CE} {a b:CSs} (ht:ST g C d K t) (ha:SSs g C d K a) (hb:SSs g C d K b):SS g C d K (.ifS t a b):=⟨by
 intro x sc A s env asg X Z Γ Γ' bs ρ σ σ' E fl Q hc H ho R er e k
 obtain ⟨y,z,u,p,rfl,h1,h2,h3⟩:=inv_ifS hc
 obtain ⟨v,σ1,e1,e2⟩:=bnd_some e
 obtain ⟨c,hb',e3⟩:=opt_some e2
 rw [truthV_some hb'] at e1
 refine wpAny_If (ht.ok h1 H R er e1 fun s1 ρ1 R1 P1=>?_)
 cases c with
 | true=>exact ha.ok h2 H ho R1 (er.post R P1) e3 fun s2 ρ2 pf R2 er2 P2 hf=>k s2 ρ2 pf R2 er2 ((P1.wider fun _ h=>h.elim).trans P2) hf
 | false=>exact hb.ok h3 H ho R1 (er.post R P1) e3 fun s2 ρ2 pf R2 er2 P2 hf=>k s2 ρ2 pf R2 er2 ((P1.wider fun _ h=>h.elim).trans P2) hf⟩
theorem swaps_attr {x o:Expr} {m:Str} {q:Pos} {n:Nat} {env:PySem.Env}:swapsWith x (some (.Attribute o m q)) n env=pure false:=by
 unfold swapsWith
 split
 ·rfl
 ·rfl
theorem swaps_sub {x o m:Expr} {q:Pos} {n:Nat} {env:PySem.Env}:swapsWith x (some (.Subscript o m q)) n env=pure false:=by
 unfold swapsWith
 split
 ·rfl
 ·rfl
theorem isPV_or {v:AV} {b:Bool} (h:(isPV v||!b)=true):isPV v=true∨b=false:=by
 rcases Bool.or_eq_true_iff.mp h with h | h
 ·exact .inl h
 ·exact .inr (by simpa using h)
theorem SS.setAttr (G:GOk g) (W:Wired g C) {a e0:CE} {m:Nat} (ha:SE g C d K a) (he:SE g C d K e0):SS g C d K (.setAttr a m e0):=⟨by
 intro x sc A s env asg X Z Γ Γ' bs ρ σ σ' E fl Q hc H ho R er e k
 obtain ⟨o,n,q,v0,p,rfl,h1,h2,h3,h4⟩:=inv_setAttr hc
 obtain ⟨v,σ1,e1,ea⟩:=bnd_some e
 obtain ⟨o,σ2,e2,eb⟩:=bnd_some ea
 obtain ⟨i,hv,ec⟩:=onRef_some eb
 obtain ⟨ob,hi,ed⟩:=opt_some ec
 obtain ⟨c,as,hob,ee⟩:=onInst_some ed
 obtain ⟨hcond,ef⟩:=ite_some ee
 have hcond:=and_true2 hcond
 obtain ⟨rfl,rfl,rfl⟩:=ret_same3 ef
 have hx:=isNm_of h1
 rw [W.nm] at hx
 rw [hob] at hi
 have hm:m ∈ g.dat:=by rw [← W.dat]; simpa using h2
 refine plainObj_wpAny_Assign_Attribute (he.ok h4 H R er e1 fun val s1 ρ1 R1 P1 q1=>ha.ok h3 H R1 (er.post R P1) e2 fun vo s2 ρ2 R2 P2 q2=>?_) swaps_attr
 refine op_setattr G R2 (hv▸q2) (RA.post (X:=NoX) q1 P2 fun _ h=>False.elim h) hm hx hi (isPV_or hcond.1) (of_decide_eq_true hcond.2) fun s3 R3 P3=>?_
 have P:=(P1.trans P2).trans P3
 exact k s3 ρ2 .next R3 (er.post R P) (P.wider fun _ h=>h.elim) .next⟩
theorem SS.setSub {a i0 e0:CE} (ha:SE g C d K a) (hi0:SE g C d K i0) (he:SE g C d K e0):SS g C d K (.setSub a i0 e0):=⟨by
 intro x sc A s env asg X Z Γ Γ' bs ρ σ σ' E fl Q hc H ho R er e k
 obtain ⟨o,j0,q,v0,p,rfl,h1,h2,h3,h4⟩:=inv_setSub hc
 obtain ⟨v,σ1,e1,ea⟩:=bnd_some e
 obtain ⟨o,σ2,e2,eb⟩:=bnd_some ea
 obtain ⟨kk,σ3,e3,ec⟩:=bnd_some eb
 obtain ⟨j,hv,ed⟩:=onRef_some ec
 obtain ⟨dd,hj,ee⟩:=opt_some ed
 obtain ⟨hcond,ef⟩:=ite_some ee
 obtain ⟨d',hd',eg⟩:=opt_some ef
 obtain ⟨rfl,rfl,rfl⟩:=ret_same3 eg
 refine wpAny_Assign_Subscript (he.ok h4 H R er e1 fun val s1 ρ1 R1 P1 q1=>ha.ok h2 H R1 (er.post R P1) e2 fun vo s2 ρ2 R2 P2 q2=>hi0.ok h3 H R2 ((er.post R P1).post R1 P2) e3 fun vk s3 ρ3 R3 P3 q3=>?_) swaps_sub
 refine op_setitem H.room.line R3 (RA.post (X:=NoX) (hv▸q2) P3 fun _ h=>False.elim h) q3 (RA.post (X:=NoX) (RA.post (X:=NoX) q1 P2 fun _ h=>False.elim h) P3 fun _ h=>False.elim h) hj (isPV_or hcond) hd' fun s4 R4 P4=>?_
 have P:=((P1.trans P2).trans P3).trans P4
 exact k s4 ρ3 .next R4 (er.post R P) (P.wider fun _ h=>h.elim) .next⟩
end
section
variable {g:Glb} {C:Cfg} {d:Nat} {K:Ctx}
theorem isVar_own {asg:Str→Bool} {sc:Names} (ho:∀ y,sc.lookup y=some .local∨sc.lookup y=some .cell→asg y=true) (y:Str) (h:(isVar sc y&&notFree sc y)=true):asg y=true:=by
 have h:=and_true2 h
 obtain ⟨hk,_⟩:=isVar_kind h.1
 rcases hk with hk | hk | hk
 ·exact ho y (.inl hk)
 ·exact ho y (.inr hk)
 ·exact absurd hk (of_decide_eq_true h.2)
mutual
theorem chkT_own {asg:Str→Bool} {sc:Names} (ho:∀ y,sc.lookup y=some .local∨sc.lookup y=some .cell→asg y=true):∀ (t:CT) {tx:Expr},chkT C t sc tx=true→ownT asg t tx=true
 | .nm i,tx,h=>own_nm (p:=fun y=>isNm C i y&&isVar sc y&&notFree sc y) (fun y h=>by
   obtain ⟨h,h3⟩:=and_true2 h
   exact isVar_own ho y (Bool.and_eq_true_iff.mpr ⟨(and_true2 h).2,h3⟩)) h
 | .tup ts,tx,h=>own_tup (p:=fun xs=>noStar xs&&chkTs C ts sc xs) (fun xs h=>chkTs_own ho ts (and_true2 h).2) h
theorem chkTs_own {asg:Str→Bool} {sc:Names} (ho:∀ y,sc.lookup y=some .local∨sc.lookup y=some .cell→asg y=true):∀ (ts:CTs) {xs:List Expr},chkTs C ts sc xs=true→ownTs asg ts xs=true
 | .nil,_,_=>rfl
 | .cons t r,xs,h=>own_cons (p:=fun x=>chkT C t sc x) (q:=fun xs=>chkTs C r sc xs) (fun x h=>chkT_own ho t h) (fun x h=>chkTs_own ho r h) h
end
noncomputable def bodyF (K:Ctx) (t:CT) (b:CSs) (x:AV) (Γ:Env) (s:St):Mine.R (Mine.Flow × Env):=ob (bindT t x Γ) fun Γ'=>evSs K b Γ' s
theorem for_ok (G:GOk g) (W:Wired g C) {t:CT} {b:CSs} (hb:SSs g C d K b) {tx:Expr} {body:List Stmt} {sc:Names} {A:Around} {env:PySem.Env} {asg:Str→Bool} {X Z XI:Addr→Prop} {it:Addr} {held:List (Nat × List AV)} {S:List AV→Rho→St→Heap→Prop}
  (ht:chkT C t sc tx=true) (hbody:chkSs C b sc body=true) (H:Here g d A env sc asg X) (ho:∀ y,sc.lookup y=some .local∨sc.lookup y=some .cell→asg y=true) (O:IterOk g A tx it XI Z held S) (hd:∀ b,Z b→¬ XI b) (zl:Z env.locals) (zc:∀ x c,env.cells.lookup x=some c→Z c) :
  ∀ (items:List AV) {s:Shared} {bs:List Nat} {ρ:Rho} {σ σ':St} {Γ Γ':Env} {fl:Mine.Flow} {R:Result→Shared→Prop},heldOk held σ=true→forItems held (bodyF K t b) items Γ σ=some ((fl,Γ'),σ') →
  Rel g (Zu Z XI) bs ρ σ s.heap→ER g (Zu Z XI) ρ σ s.heap env Γ→S items ρ σ s.heap →
  (∀ s' ρ' pf,Rel g Z bs ρ' σ' s'.heap→ER g Z ρ' σ' s'.heap env Γ'→Post (fun b=>X b∨XI b) ρ σ s ρ' σ' s'→FlR ρ' (Fz Z ρ' σ') s'.heap fl pf→R (.ok pf) s') →
  codeAny (model g.prog g.w) A (.forLoop tx (.ref it) body [] env) R s:=by
 have hX:∀ b,X b→Z b:=fun b hb=>orEq (H.ok.xs b hb) zl fun ⟨y,hy⟩=>zc y b hy
 intro items
 induction items with
 | nil =>
  intro s bs ρ σ σ' Γ Γ' fl R hk0 e Rl er hS k
  simp only [forItems,Option.some.injEq,Prod.mk.injEq] at e
  obtain ⟨⟨rfl,rfl⟩,rfl⟩:=e
  refine codeAny_of_tree ?_
  show wpAny _ A ((forTurn tx (.ref it) body [] env).onRaise (fun x=>do noteFrame x env; theTreesLotGoes x)) _ _ s
  refine wpAny_noted ?_
  simp only [forTurn]
  refine wpAny_bind (wpAny_standAt (wpAny_bind (wpAny_onRaise (wpAny_mono (O.turn (fun s'=>R (.ok .next) s') (fun _ _ _ _=>False) Rl hS (fun _ s' R' P'=>?_) (fun x r hx=>by cases hx)) (fun r s' hr=>?_) fun _ _ h'=>wpAny_standAt h'))))
  ·have e1:=((er.step Rl P' (fun b hb=>.inr hb) (hd _ zl) (fun x c h=>hd _ (zc x c h)))).drop (Z:=Z) (fun b hb=>.inl hb) zl zc
   exact k s' ρ .next R' e1 (P'.wider fun _ h=>.inr h) .next
  ·cases r with
   | none=>exact wpAny_pure ⟨rfl,codeAny_block (wpAny_execs_nil hr.2)⟩
   | some v=>exact wpAny_bind (wpAny_mono hr (fun _ s2 h2=>by obtain ⟨x,r,hx,_⟩:=h2; cases hx) fun _ _ e=>e)
 | cons x r ih =>
  intro s bs ρ σ σ' Γ Γ' fl R hk0 e Rl er hS k
  obtain ⟨f1,σ1,e1,e⟩:=bnd_some e
  obtain ⟨f1,Γ2⟩:=f1
  obtain ⟨Γ1,hΓ1,eB⟩:=opt_some (o:=bindT t x Γ) (k:=fun Γ'=>evSs K b Γ' σ) e1
  refine codeAny_of_tree ?_
  show wpAny _ A ((forTurn tx (.ref it) body [] env).onRaise (fun x=>do noteFrame x env; theTreesLotGoes x)) _ _ s
  refine wpAny_noted ?_
  simp only [forTurn]
  refine wpAny_bind (wpAny_standAt (wpAny_bind (wpAny_onRaise (wpAny_mono (O.turn (fun _=>False) (fun y r' v s'=>y=x∧r'=r∧Rel g (Zu Z XI) bs ρ σ s'.heap∧Post XI ρ σ s ρ σ s'∧RA ρ (Fz (Zu Z XI) ρ σ) s'.heap v x∧S r ρ σ s'.heap) Rl hS (fun h=>by cases h) (fun x' r' hx v s' a1 a2 a3 a4=>by cases hx; exact ⟨rfl,rfl,a1,a2,a3,a4⟩)) (fun o s' hr=>?_) fun _ _ h'=>wpAny_standAt h'))))
  cases o with
  | none=>exact absurd hr.1 (by simp)
  | some v =>
   refine wpAny_bind (wpAny_mono hr (fun _ s1 h1=>?_) fun _ _ e=>e)
   obtain ⟨y,r',hyr,rfl,rfl,R1,P1,ra1,S1⟩:=h1
   have er1:ER g (Zu Z XI) ρ σ s1.heap env Γ:=er.step Rl P1 (fun b hb=>.inr hb) (hd _ zl) (fun x c h=>hd _ (zc x c h))
   refine wpAny_bind ((assign_all G W t).ok ht (chkT_own ho t ht) H R1 er1 ra1 hΓ1 fun s2 R2 er2 P2=>?_)
   refine wpAny_bind (hb.ok hbody H ho R2 er2 eB fun s3 ρ3 pf R3 er3 P3 hf=>?_)
   have P23:=P2.trans P3
   have hXX:∀ b,X b→Zu Z XI b∧¬ XI b:=fun b hb=>⟨.inl (hX b hb),hd b (hX b hb)⟩
   cases hf with
   | next =>
    simp only at e
    cases hk:heldOk held σ1 with
    | false=>rw [hk] at e; cases e
    | true =>
    rw [hk,cond_true] at e
    refine wpAny_pure ⟨rfl,?_⟩
    have S3:=O.keep R1 S1 P23 hXX hk
    refine ih hk e R3 er3 S3 fun s4 ρ4 pf R4 er4 P4 hf4=>?_
    exact k s4 ρ4 pf R4 er4 (((P1.wider fun _ h=>.inr h).trans (P23.wider fun _ h=>.inl h)).trans P4) hf4
   | ret ra =>
    obtain ⟨rfl,rfl,rfl⟩:=ret_same3 e
    refine wpAny_pure ?_
    refine k s3 ρ3 _ (R3.leave fun b hb=>.inl hb) (er3.drop (fun b hb=>.inl hb) zl zc) ((P1.wider fun _ h=>.inr h).trans (P23.wider fun _ h=>.inl h)) (.ret (ra.drop fun b hb=>.inl hb))
theorem SS.forS (G:GOk g) (W:Wired g C) {t:CT} {ci:CI} {b:CSs} (hi:SI g C d K ci) (hb:SSs g C d K b):SS g C d K (.forS t ci b):=⟨by
 intro x sc A s env asg X Z Γ Γ' bs ρ σ σ' E fl Q hc H ho R er e k
 obtain ⟨tx,y,z,p,rfl,h1,h2,h3⟩:=inv_forS hc
 have e':bnd (evI K Γ ci σ) (fun src s=>forItems src.held (bodyF K t b) src.items Γ s)=some ((fl,Γ'),σ'):=e
 obtain ⟨src,σ1,e1,e2⟩:=bnd_some e'
 refine wpAny_For (hi.ok h2 H R er e1 fun it XI S s2 ρ2 R2 P2 hXI O hS=>?_) (fun x=>notSet_fold (chkI_notSet h2))
 have hd:∀ b,Z b→¬ XI b:=fun b hb hx=>hXI b hx (R.zlt hb).2
 refine for_ok G W hb h1 h3 H ho (O.ok _ hd) hd er.zL er.zC src.items (evI_held e1) e2 R2 (er.more R P2 hXI) hS fun s3 ρ3 pf R3 er3 P3 hf=>?_
 exact k s3 ρ3 pf R3 er3 (((P2.wider fun _ h=>h.elim).trans P3).fresh fun b hb lb=>by
  rcases hb with hb | hb
  ·exact hb
  ·exact absurd lb (hXI b hb)) hf⟩
end
section
variable {g:Glb} {C:Cfg} {d:Nat} {K:Ctx}
noncomputable def locName (env:PySem.Env) (line:Nat):Expr→Option Str
 | .Name id pos=>if env.kindOf id == some NameKind.local&&pos.line == line then some id else none
 | _=>none
noncomputable abbrev swNames (env:PySem.Env) (ts:List Expr):List Str:=ts.filterMap (locName env ((ts.head?.map (·.pos.line)).getD 0))
theorem swapped_def {ts vs:List Expr} {k k2:Nat} {p p2:Pos} {env:PySem.Env}:∃ (b:Bool) (u:Sem (Option (List Str))),swappedStores [.Tuple ts k p] (.Tuple vs k2 p2) env =
  (if (!(ts.length == 2||ts.length == 3)||vs.length != ts.length||env.blockKind != .function)=true then pure none else if b=true then pure none else
   if ((swNames env ts).length != ts.length||(swNames env ts).eraseDups.length != (swNames env ts).length)=true then pure none else if vs.all (foldedForSure 8)=true then pure none else if vs.all (constantsAlone 8)=true then u else pure (some (swNames env ts))):=⟨_,_,rfl⟩
theorem swapped_cases {ts vs:List Expr} {k k2:Nat} {p p2:Pos} {env:PySem.Env} (hu:tupOk vs=true) :
  swappedStores [.Tuple ts k p] (.Tuple vs k2 p2) env=pure none ∨
  (∃ names line,swappedStores [.Tuple ts k p] (.Tuple vs k2 p2) env=pure (some names)∧names=ts.filterMap (locName env line)∧names.length=ts.length∧(ts.length=2∨ts.length=3)):=by
 obtain ⟨b,u,e⟩:=swapped_def (ts:=ts) (vs:=vs) (k:=k) (k2:=k2) (p:=p) (p2:=p2) (env:=env)
 rw [e]
 by_cases h1:(!(ts.length == 2||ts.length == 3)||vs.length != ts.length||env.blockKind != .function)=true
 ·rw [if_pos h1]; exact .inl rfl
 rw [if_neg h1]
 by_cases hb:b=true
 ·rw [if_pos hb]; exact .inl rfl
 rw [if_neg hb]
 by_cases h2:((swNames env ts).length != ts.length||(swNames env ts).eraseDups.length != (swNames env ts).length)=true
 ·rw [if_pos h2]; exact .inl rfl
 rw [if_neg h2]
 by_cases h3:vs.all (foldedForSure 8)=true
 ·rw [if_pos h3]; exact .inl rfl
 rw [if_neg h3]
 have h4:¬ vs.all (constantsAlone 8)=true:=fun h4=>by
  unfold tupOk at hu
  rw [h4] at hu
  exact h3 (by simpa using hu)
 rw [if_neg h4]
 refine .inr ⟨_,_,rfl,rfl,?_,?_⟩
 ·have:=(Bool.or_eq_false_iff.mp (Bool.not_eq_true _▸h2)).1
  simpa using this
 ·have:=(Bool.or_eq_false_iff.mp (Bool.or_eq_false_iff.mp (Bool.not_eq_true _▸h1)).1).1
  cases hq:(ts.length == 2||ts.length == 3) with
  | false=>rw [hq] at this; cases this
  | true=>exact (Bool.or_eq_true_iff.mp hq).imp eq_of_beq eq_of_beq
theorem filterMap_all {α β:Type} {f:α→Option β}:∀ {l:List α},(l.filterMap f).length=l.length→∀ a ∈ l,(f a).isSome=true
 | [],_,a,h=>by simp at h
 | x::r,h,a,hm=>by
  cases hx:f x with
  | none =>
   rw [List.filterMap_cons_none hx] at h
   have:=List.length_filterMap_le f r
   simp at h; omega
  | some b =>
   rw [List.filterMap_cons_some hx] at h
   rcases List.mem_cons.mp hm with rfl | hm
   ·rw [hx]; rfl
   ·exact filterMap_all (by simpa using h) a hm
theorem leaveX {X Z:Addr→Prop} {bs:List Nat} {ρ ρ':Rho} {σ σ':St} {s s':Shared} {L:Addr} {h':Heap} (R:Rel g Z bs ρ σ s.heap) (R6:Rel g (Zu Z fun b=>b=L) bs ρ' σ' s'.heap) (P:Post X ρ σ s ρ' σ' s') (hL:¬ Lv s.heap L) (hsb:Heap.SameBut L s'.heap h') :
  Rel g Z bs ρ' σ' h'∧Post X ρ σ s ρ' σ' { s' with heap:=h' }:=by
 have kk:∀ b o,s'.heap.get? b=some o→¬ b=L→h'.get? b=some o:=fun b o e hb=>hsb.extBut b o hb e
 refine ⟨R6.done (fun b hb e=>hL (e▸(R.zlt hb).2)) kk,?_⟩
 have P2:Post (fun b=>b=L) ρ' σ' s' ρ' σ' { s' with heap:=h' }:=Post.inX kk rfl rfl
 have P3:Post (fun b=>X b∨b=L) ρ σ s ρ' σ' { s' with heap:=h' }:=(P.wider fun _ h=>.inl h).trans (P2.wider fun _ h=>.inr h)
 exact P3.fresh fun b hb lb=>hb.elim id fun e=>absurd (e▸lb) hL
theorem plain_assign {tx value:Expr} {pos:Pos} {A:Around} {s:Shared} {env:PySem.Env} {E:Value→Shared→Prop} {Q:PySem.Flow→Shared→Prop}
  (h:wpAny (model g.prog g.w) A (eval value env) (fun v s₁=>wpAny (model g.prog g.w) A (assign tx env v) (fun _=>Q .next) E s₁) E s)
  (hm:(assignEach [tx] env).map (·.2)=[assign tx env]) (hs:swapsWithSole [tx] value pos.line env=pure false) (hw:swappedStores [tx] value env=pure none) :
  wpAny (model g.prog g.w) A (exec (.Assign [tx] value pos) env) Q E s:=by
 refine wpAny_Assign_stores (wpAny_mono h (fun v s₁ h₁=>?_) fun _ _ x=>x) hs hw
 rw [hm]
 exact h₁
theorem swapped_assign {ts:List Expr} {k:Nat} {p:Pos} {value:Expr} {pos:Pos} {names:List Str} {A:Around} {s:Shared} {env:PySem.Env} {E:Value→Shared→Prop} {Q:PySem.Flow→Shared→Prop}
  (h:wpAny (model g.prog g.w) A (eval value env) (fun v s₁=>wpAny (model g.prog g.w) A (unpackItems v names.length none) (fun items s₂ =>
   wpAny (model g.prog g.w) A (assignInOrder (names.reverse.map fun n=>bindName env n) items.reverse) (fun _=>Q .next) E s₂) E s₁) E s)
  (hs:swapsWithSole [.Tuple ts k p] value pos.line env=pure false) (hw:swappedStores [.Tuple ts k p] value env=pure (some names)) :
  wpAny (model g.prog g.w) A (exec (.Assign [.Tuple ts k p] value pos) env) Q E s:=Assign_Tuple_swapped h hs hw
inductive NmOf (C:Cfg) (env:PySem.Env) (line:Nat) (c:CT) (t:Expr):Prop
 | mk (i:Nat) (x:Str) (h1:c = .nm i) (h2:isNm C i x=true) (h3:env.kindOf x=some .local) (h4:locName env line t=some x)
theorem nm_of {c:CT} {sc:Names} {t:Expr} {env:PySem.Env} {line:Nat} (h:chkT C c sc t=true) (hf:(locName env line t).isSome=true):NmOf C env line c t:=by
 cases c with
 | nm i =>
  obtain ⟨x,p,rfl,h1,_,_⟩:=inv_chkT_nm h
  have hf:(if env.kindOf x == some NameKind.local&&p.line == line then some x else none).isSome=true:=hf
  by_cases hc:(env.kindOf x == some NameKind.local&&p.line == line)=true
  ·refine ⟨i,x,rfl,h1,by simpa using (and_true2 hc).1,?_⟩
   show (if env.kindOf x == some NameKind.local&&p.line == line then some x else none)=some x
   rw [if_pos hc]
  ·rw [if_neg hc] at hf; cases hf
 | tup ts =>
  obtain ⟨xs,k,p,rfl,_⟩:=inv_chkT_tup h
  cases hf
theorem nodup2 {i j:Nat} (h:nodupN [i,j]=true):i ≠ j:=by
 intro e; subst e; simp [nodupN] at h
theorem nodup3 {i j m:Nat} (h:nodupN [i,j,m]=true):i ≠ j∧i ≠ m∧j ≠ m:=by
 refine ⟨fun e=>?_,fun e=>?_,fun e=>?_⟩ <;> subst e <;> simp [nodupN] at h
theorem put_swap {Γ:Env} {i j:Nat} {a b:AV} (h:i ≠ j) (n:Nat):((Γ.put i a).put j b).get n=((Γ.put j b).put i a).get n:=by
 simp only [Env.get_put]
 by_cases h1:i=n
 ·have h2:¬ j=n:=fun e=>h (h1.trans e.symm)
  rw [if_neg h2,if_pos h1,if_pos h1]
 ·rw [if_neg h1,if_neg h1]
theorem put_swap3 {Γ:Env} {i j m:Nat} {a b c:AV} (h:i ≠ j∧i ≠ m∧j ≠ m) (n:Nat):(((Γ.put i a).put j b).put m c).get n=(((Γ.put m c).put j b).put i a).get n:=by
 simp only [Env.get_put]
 by_cases h1:i=n
 ·have h2:¬ j=n:=fun e=>h.1 (h1.trans e.symm)
  have h3:¬ m=n:=fun e=>h.2.1 (h1.trans e.symm)
  rw [if_neg h3,if_neg h2,if_pos h1,if_pos h1]
 ·by_cases h2:j=n
  ·have h3:¬ m=n:=fun e=>h.2.2 (h2.trans e.symm)
   rw [if_neg h3,if_pos h2,if_neg h1,if_pos h2]
  ·rw [if_neg h1,if_neg h1,if_neg h2,if_neg h2]
inductive BindNm (i:Nat) (r:CTs) (l:List AV) (Γ Γ':Env):Prop
 | mk (v:AV) (vs:List AV) (e:l=v::vs) (h2:bindTs r vs (Γ.put i v)=some Γ')
theorem bind_nm {i:Nat} {r:CTs} {l:List AV} {Γ Γ':Env} (e:bindTs (.cons (.nm i) r) l Γ=some Γ'):BindNm i r l Γ Γ':=by
 obtain ⟨v,vs,Γ1,e1,h1,h2⟩:=bindTs_cons e
 exact ⟨v,vs,e1,Option.some.inj h1▸h2⟩
theorem swap_binds2 (G:GOk g) (W:Wired g C) {c1 c2:CT} {t1 t2:Expr} {sc:Names} {A:Around} {s:Shared} {env:PySem.Env} {asg:Str→Bool} {X Z:Addr→Prop} {Γ Γ':Env} {bs:List Nat} {ρ:Rho} {σ:St} {E:Value→Shared→Prop} {vs:List Value} {l:List AV} {line:Nat} {Q:Unit→Shared→Prop}
  (n1:NmOf C env line c1 t1) (n2:NmOf C env line c2 t2) (hnd:nodupO (namesOf (.cons c1 (.cons c2 .nil)))=true)
  (H:Here g d A env sc asg X) (ho:∀ y,sc.lookup y=some .local∨sc.lookup y=some .cell→asg y=true) (R:Rel g Z bs ρ σ s.heap) (er:ER g Z ρ σ s.heap env Γ) (ra:RAs ρ (Fz Z ρ σ) s.heap vs l) (e:bindTs (.cons c1 (.cons c2 .nil)) l Γ=some Γ')
  (k:∀ s',Rel g Z bs ρ σ s'.heap→ER g Z ρ σ s'.heap env Γ'→Post X ρ σ s ρ σ s'→Q () s') :
  wpAny (model g.prog g.w) A (assignInOrder (([t1,t2].filterMap (locName env line)).reverse.map fun n=>bindName env n) vs.reverse) Q E s:=by
 have hX:∀ b,X b→Z b:=hXZ H er
 have hoL:∀ x,env.kindOf x=some .local→asg x=true:=fun x hx=>ho x (.inl (by rw [← H.kind]; exact hx))
 have gi:∀ {i:Nat} {x:Str},isNm C i x=true→g.nm[i]? = some x:=fun h=>by rw [← W.nm]; exact isNm_of h
 obtain ⟨i,x,rfl,hx,kx,f1⟩:=n1
 obtain ⟨j,y,rfl,hy,ky,f2⟩:=n2
 rw [List.filterMap_cons_some f1,List.filterMap_cons_some f2,List.filterMap_nil]
 refine hideP fun Go hGo=>?_
 obtain ⟨a,l1,rfl,e1⟩:=bind_nm e
 obtain ⟨b,l2,rfl,e2⟩:=bind_nm e1
 obtain ⟨rfl,rfl⟩:=bindTs_nil e2
 obtain ⟨va,vb,rfl,r1,r2⟩:=ra.two_
 refine hGo ?_
 show wpAny _ _ (do holding [va] (bindName env y vb); (do holding [] (bindName env x va); pure ())) Q E s
 refine wpAny_bind (wpAny_holding (bind_name G H.ok R er (gi hy) (hoL y ky) r2 fun s1 R1 e1 P1=>?_))
 refine wpAny_bind (wpAny_holding (bind_name G H.ok R1 e1 (gi hx) (hoL x kx) (RA.post r1 P1 hX) fun s2 R2 e2 P2=>?_))
 exact wpAny_pure (k s2 R2 (e2.weak fun m v hm=>put_swap (nodup2 hnd) m▸hm) (P1.trans P2))
theorem swap_binds3 (G:GOk g) (W:Wired g C) {c1 c2 c3:CT} {t1 t2 t3:Expr} {sc:Names} {A:Around} {s:Shared} {env:PySem.Env} {asg:Str→Bool} {X Z:Addr→Prop} {Γ Γ':Env} {bs:List Nat} {ρ:Rho} {σ:St} {E:Value→Shared→Prop} {vs:List Value} {l:List AV} {line:Nat} {Q:Unit→Shared→Prop}
  (n1:NmOf C env line c1 t1) (n2:NmOf C env line c2 t2) (n3:NmOf C env line c3 t3) (hnd:nodupO (namesOf (.cons c1 (.cons c2 (.cons c3 .nil))))=true)
  (H:Here g d A env sc asg X) (ho:∀ y,sc.lookup y=some .local∨sc.lookup y=some .cell→asg y=true) (R:Rel g Z bs ρ σ s.heap) (er:ER g Z ρ σ s.heap env Γ) (ra:RAs ρ (Fz Z ρ σ) s.heap vs l) (e:bindTs (.cons c1 (.cons c2 (.cons c3 .nil))) l Γ=some Γ')
  (k:∀ s',Rel g Z bs ρ σ s'.heap→ER g Z ρ σ s'.heap env Γ'→Post X ρ σ s ρ σ s'→Q () s') :
  wpAny (model g.prog g.w) A (assignInOrder (([t1,t2,t3].filterMap (locName env line)).reverse.map fun n=>bindName env n) vs.reverse) Q E s:=by
 have hX:∀ b,X b→Z b:=hXZ H er
 have hoL:∀ x,env.kindOf x=some .local→asg x=true:=fun x hx=>ho x (.inl (by rw [← H.kind]; exact hx))
 have gi:∀ {i:Nat} {x:Str},isNm C i x=true→g.nm[i]? = some x:=fun h=>by rw [← W.nm]; exact isNm_of h
 obtain ⟨i,x,rfl,hx,kx,f1⟩:=n1
 obtain ⟨j,y,rfl,hy,ky,f2⟩:=n2
 obtain ⟨m,z,rfl,hz,kz,f3⟩:=n3
 rw [List.filterMap_cons_some f1,List.filterMap_cons_some f2,List.filterMap_cons_some f3,List.filterMap_nil]
 refine hideP fun Go hGo=>?_
 obtain ⟨a,l1,rfl,e1⟩:=bind_nm e
 obtain ⟨b,l2,rfl,e2⟩:=bind_nm e1
 obtain ⟨c,l3,rfl,e3⟩:=bind_nm e2
 obtain ⟨rfl,rfl⟩:=bindTs_nil e3
 obtain ⟨va,vs1,rfl,r1,rs⟩:=ra.cons_
 obtain ⟨vb,vc,rfl,r2,r3⟩:=rs.two_
 refine hGo ?_
 show wpAny _ _ (do holding [vb,va] (bindName env z vc); (do holding [va] (bindName env y vb); (do holding [] (bindName env x va); pure ()))) Q E s
 refine wpAny_bind (wpAny_holding (bind_name G H.ok R er (gi hz) (hoL z kz) r3 fun s1 R1 e1 P1=>?_))
 refine wpAny_bind (wpAny_holding (bind_name G H.ok R1 e1 (gi hy) (hoL y ky) (RA.post r2 P1 hX) fun s2 R2 e2 P2=>?_))
 refine wpAny_bind (wpAny_holding (bind_name G H.ok R2 e2 (gi hx) (hoL x kx) (RA.post (RA.post r1 P1 hX) P2 hX) fun s3 R3 e3 P3=>?_))
 exact wpAny_pure (k s3 R3 (e3.weak fun n v hm=>put_swap3 (nodup3 hnd) n▸hm) ((P1.trans P2).trans P3))
theorem swap_binds (G:GOk g) (W:Wired g C) {cs:CTs} {ts:List Expr} {sc:Names} {A:Around} {s:Shared} {env:PySem.Env} {asg:Str→Bool} {X Z:Addr→Prop} {Γ Γ':Env} {bs:List Nat} {ρ:Rho} {σ:St} {E:Value→Shared→Prop} {vs:List Value} {l:List AV} {names:List Str} {line:Nat} {Q:Unit→Shared→Prop}
  (hc:chkTs C cs sc ts=true) (hnd:nodupO (namesOf cs)=true) (hn:names=ts.filterMap (locName env line)) (hlen:names.length=ts.length) (h23:ts.length=2∨ts.length=3)
  (H:Here g d A env sc asg X) (ho:∀ y,sc.lookup y=some .local∨sc.lookup y=some .cell→asg y=true) (R:Rel g Z bs ρ σ s.heap) (er:ER g Z ρ σ s.heap env Γ) (ra:RAs ρ (Fz Z ρ σ) s.heap vs l) (e:bindTs cs l Γ=some Γ')
  (k:∀ s',Rel g Z bs ρ σ s'.heap→ER g Z ρ σ s'.heap env Γ'→Post X ρ σ s ρ σ s'→Q () s') :
  wpAny (model g.prog g.w) A (assignInOrder (names.reverse.map fun n=>bindName env n) vs.reverse) Q E s:=by
 rw [hn] at hlen ⊢
 have hall:=filterMap_all hlen
 cases cs with
 | nil=>rw [chkT_nil hc] at h23; exact absurd h23 (by decide)
 | cons c1 cs1 =>
  obtain ⟨t1,ts1,rfl,k1,hc1⟩:=chkT_cons hc
  cases cs1 with
  | nil=>rw [chkT_nil hc1] at h23; exact absurd (show 1=2∨1=3 from h23) (by decide)
  | cons c2 cs2 =>
   obtain ⟨t2,ts2,rfl,k2,hc2⟩:=chkT_cons hc1
   have n1:=nm_of k1 (hall t1 (.head _))
   have n2:=nm_of k2 (hall t2 (.tail _ (.head _)))
   cases cs2 with
   | nil =>
    obtain rfl:=chkT_nil hc2
    exact swap_binds2 G W n1 n2 hnd H ho R er ra e k
   | cons c3 cs3 =>
    obtain ⟨t3,ts3,rfl,k3,hc3⟩:=chkT_cons hc2
    have n3:=nm_of k3 (hall t3 (.tail _ (.tail _ (.head _))))
    cases cs3 with
    | nil =>
     obtain rfl:=chkT_nil hc3
     exact swap_binds3 G W n1 n2 n3 hnd H ho R er ra e k
    | cons c4 cs4 =>
     obtain ⟨t4,ts4,rfl,k4,_⟩:=chkT_cons hc3
     exact absurd (show ts4.length+4=2∨ts4.length+4=3 from h23) (fun h=>h.elim (fun h=>nomatch h) fun h=>nomatch h)
theorem tup_assign {xs:List Expr} {k0:Nat} {p:Pos} {v:Expr} (h:∀ vs k q,v ≠ .Tuple vs k q) {env:PySem.Env}:swappedStores [.Tuple xs k0 p] v env=pure none:=by
 cases v with
 | Tuple vs k q=>exact absurd rfl (h vs k q)
 | _=>rfl
theorem sole_tup {xs:List Expr} {k n:Nat} {p:Pos} {v:Expr} {env:PySem.Env}:swapsWithSole [.Tuple xs k p] v n env=pure false:=by cases v <;> rfl
theorem stores_name {y:Str} {p:Pos} {v:Expr} {env:PySem.Env}:swappedStores [.Name y p] v env=pure none:=by cases v <;> rfl
theorem sole_name {y:Str} {p:Pos} {v:Expr} {n:Nat} {env:PySem.Env} (h:noSD v=true) (hl:∀ a b c q,v ≠ .ListComp a b c q):swapsWithSole [.Name y p] v n env=pure false:=by
 cases v with
 | ListComp a b c q=>exact absurd rfl (hl a b c q)
 | SetComp a b c q=>cases h
 | DictComp a b c q r=>cases h
 | _=>rfl
theorem list_comp {e:CE} {sc:Names} {elt:Expr} {gens:List Comprehension} {sc0:Scope} {q:Pos} {Γ:Env} {σ:St} {r:AV × St} (h:chkE C e sc (.ListComp elt gens sc0 q)=true) (ev:evE K Γ e σ=some r):∃ xs c,e = .comp xs c:=by
 cases e with
 | comp xs c=>exact ⟨xs,c,rfl⟩
 | stuck=>cases ev
 | _=>cases h
noncomputable abbrev AssignK (g:Glb) (Z X:Addr→Prop) (bs:List Nat) (ρ:Rho) (σ:St) (s:Shared) (env:PySem.Env) (σ1:St) (Γ1:Env) (Q:PySem.Flow→Shared→Prop):Prop :=
 ∀ s' ρ' pf,Rel g Z bs ρ' σ1 s'.heap→ER g Z ρ' σ1 s'.heap env Γ1→Post X ρ σ s ρ' σ1 s'→FlR ρ' (Fz Z ρ' σ1) s'.heap .next pf→Q pf s'
theorem comp_used (G:GOk g) (W:Wired g C) {i:Nat} {xs:List Nat} {c:CL} (hA:AllL g C d K c) {y:Str} {p:Pos} {elt:Expr} {gens:List Comprehension} {sc0:Scope} {q pos:Pos} {sc:Names} {A:Around} {s:Shared} {env:PySem.Env} {asg:Str→Bool} {X Z:Addr→Prop} {Γ Γ1:Env} {bs:List Nat} {ρ:Rho} {σ σ1:St} {E:Value→Shared→Prop} {v:AV} {Q:PySem.Flow→Shared→Prop}
  (hv:chkE C (.comp xs c) sc (.ListComp elt gens sc0 q)=true) (ht:chkT C (.nm i) sc (.Name y p)=true) (hown:ownT asg (.nm i) (.Name y p)=true) (H:Here g d A env sc asg X) (R:Rel g Z bs ρ σ s.heap) (er:ER g Z ρ σ s.heap env Γ)
  (e1:evE K Γ (.comp xs c) σ=some (v,σ1)) (hb:bindT (.nm i) v Γ=some Γ1) (k:AssignK g Z X bs ρ σ s env σ1 Γ1 Q) (hs:swapsWith (.ListComp elt gens sc0 q) (some (.Name y p)) pos.line env=pure true) :
  wpAny (model g.prog g.w) A (exec (.Assign [.Name y p] (.ListComp elt gens sc0 q) pos) env) Q E s:=by
 refine hideP fun Go hGo=>?_
 obtain ⟨elt',tx,ix,fs,rr,sco,p',hq,h1,h2,h3⟩:=inv_comp hv
 obtain ⟨rfl,rfl,rfl,rfl⟩:=Expr.ListComp.inj hq
 obtain ⟨t,ci,ifs,more,rfl,c1,c2,c3,c4,c5⟩:=inv_LF h3
 obtain ⟨ys,σ2,e2,e3⟩:=bnd_some e1
 obtain ⟨hlen,e4⟩:=ite_some e3
 obtain ⟨rfl,rfl⟩:=ret_same e4
 refine hGo ?_
 rw [exec_Assign_Name_used _ _ _ _ hs]
 refine wpAny_bind (wpAny_standAt (wpAny_bind ?_))
 show wpAny _ A (do let _ ← comprehension (.ListComp elt (⟨tx,ix,fs,0⟩::rr) sc0 q) sc0 env _ (newList []) false (eval ix env) (some (assign (.Name y p) env))) _ _ s
 refine wpAny_bind (wpAny_mono (comp_core (use:=some (assign (.Name y p) env)) (Q:=fun _ s'=>Q .next s') G W hA.1 hA.2.1 hA.2.2 h1 h2 c1 c2 c3 c4 c5 H R er e2 hlen fun s' ρ' L D R6 ra er6 P ⟨m,hm⟩ hL=>?_) (fun _ s' hq=>wpAny_pure (wpAny_pure hq)) fun _ _ e=>e)
 show wpAny _ A (assign (.Name y p) env (.ref D)) _ _ _
 refine (assign_all G W (.nm i)).ok ht hown H R6 er6 ra hb fun s2 R2 er2 P2=>?_
 have hLX:¬ X L:=fun hx=>hL (R.zlt (hXZ H er L hx)).2
 refine ⟨m,hm.at' fun o ho=>P2.ext L o ho hLX (R6.notFoot (.inr rfl)),fun h' hsb=>?_⟩
 obtain ⟨R7,P7⟩:=leaveX R R2 ((P.wider fun _ h=>h.elim).trans P2) hL hsb
 have kk:∀ b o,s2.heap.get? b=some o→¬ b=L→h'.get? b=some o:=fun b o e hb=>hsb.extBut b o hb e
 have P3:Post (fun b=>b=L) ρ' σ2 s2 ρ' σ2 { s2 with heap:=h' }:=Post.inX kk rfl rfl
 have nL:∀ b,Z b→¬ b=L:=fun b hb e=>hL (e▸(R.zlt hb).2)
 have er7:=(er2.step R2 P3 (fun b hb=>.inr hb) (nL _ er.zL) (fun x c h=>nL _ (er.zC x c h))).drop (Z:=Z) (fun b hb=>.inl hb) er.zL er.zC
 exact k _ ρ' .next R7 er7 P7 .next
theorem SS.assignS (G:GOk g) (W:Wired g C) {t:CT} {e0:CE} (he:SE g C d K e0) (hcm:∀ xs c,e0 = .comp xs c→AllL g C d K c):SS g C d K (.assign t e0):=⟨by
 intro x sc A s env asg X Z Γ Γ' bs ρ σ σ' E fl Q hc H ho R er e k
 obtain ⟨tx,val,pos,rfl,ht,hv,htup,hsd⟩:=inv_assign hc
 obtain ⟨v,σ1,e1,ea⟩:=bnd_some e
 obtain ⟨Γ1,hb,eb⟩:=opt_some ea
 obtain ⟨rfl,rfl,rfl⟩:=ret_same3 eb
 have hown:=chkT_own ho t ht
 have plain:(assignEach [tx] env).map (·.2)=[assign tx env]→swapsWithSole [tx] val pos.line env=pure false→swappedStores [tx] val env=pure none→wpAny (model g.prog g.w) A (exec (.Assign [tx] val pos) env) Q E s:=fun hm hs hw =>
  plain_assign (he.ok hv H R er e1 fun vl s1 ρ1 R1 P1 q1=>(assign_all G W t).ok ht hown H R1 (er.post R P1) q1 hb fun s2 R2 er2 P2=>k s2 ρ1 .next R2 er2 ((P1.wider fun _ h=>h.elim).trans P2) .next) hm hs hw
 cases t with
 | tup ts =>
  obtain ⟨xs,kk,tp,rfl,_,htc⟩:=inv_chkT_tup ht
  by_cases hvt:∃ vs k2 q,val = .Tuple vs k2 q
  ·obtain ⟨vs,k2,q,rfl⟩:=hvt
   obtain ⟨h1,h2⟩:=and_true2 (show (tupOk vs&&nodupO (namesOf ts))=true from htup)
   rcases swapped_cases (ts:=xs) (k:=kk) (p:=tp) (k2:=k2) (p2:=q) (env:=env) h1 with hw | ⟨names,line,hw,hn,hlen,h23⟩
   ·exact plain rfl sole_tup hw
   ·refine swapped_assign (names:=names) (he.ok hv H R er e1 fun vl s1 ρ1 R1 P1 q1=>?_) sole_tup hw
    obtain ⟨l,b1,b2⟩:=bindT_items σ1 hb
    refine unpack_any H.room.handled R1 q1 b1 (by rw [hlen]; exact bindTs_length b2 htc) fun h' us kp rs=>?_
    have P0:Post NoX ρ1 σ1 s1 ρ1 σ1 { s1 with heap:=h' }:=Post.grow kp rfl rfl
    refine swap_binds G W htc h2 hn hlen h23 H ho (R1.grow kp) (ER.post (s':={ s1 with heap:=h' }) R1 (er.post R P1) P0) rs b2 fun s2 R2 er2 P2=>?_
    exact k s2 ρ1 .next R2 er2 ((P1.wider fun _ h=>h.elim).trans ((P0.wider fun _ h=>h.elim).trans P2)) .next
  ·exact plain rfl sole_tup (tup_assign fun vs k q e=>hvt ⟨vs,k,q,e⟩)
 | nm i =>
  obtain ⟨y,p,rfl,_⟩:=inv_chkT_nm ht
  by_cases hl:∃ elt gens sc0 q,val = .ListComp elt gens sc0 q
  ·obtain ⟨elt,gens,sc0,q,rfl⟩:=hl
   cases hbb:(env.blockKind == .function&&env.kindOf y == some .local&&p.line == (Expr.ListComp elt gens sc0 q).pos.line&&!(sc0.names.any fun (n,k)=>n == y&&(k == .local||k == .cell))) with
   | false=>exact plain rfl (show swapsWith (.ListComp elt gens sc0 q) (some (.Name y p)) pos.line env=pure false from (show pure _=pure false by rw [hbb])) stores_name
   | true =>
    have hs:swapsWith (.ListComp elt gens sc0 q) (some (.Name y p)) pos.line env=pure true:=show pure _=pure true by rw [hbb]
    obtain ⟨xs,c,rfl⟩:(∃ xs c,e0 = .comp xs c):=list_comp hv e1
    exact comp_used G W (hcm xs c rfl) hv ht hown H R er e1 hb k hs
  ·exact plain rfl (sole_name hsd fun a b c q e=>hl ⟨a,b,c,q,e⟩) stores_name⟩
end
structure Hyp (g:Glb) (C:Cfg) (d:Nat) (K:Ctx):Prop where
 G:GOk g
 W:Wired g C
 calls:∃ call,CallsOk g d call∧K.call=call
 meth:∀ c m,K.meth c m=g.P.meths.lookup (c,m)
 init:∀ c,K.init c=g.P.inits.lookup c
 glob:∀ gi,K.glob gi=(g.P.globs[gi]?).map (·.2)
 sset:SetSpec g
section
variable {g:Glb} {C:Cfg} {d:Nat} {K:Ctx}
mutual
theorem all_e (h:Hyp g C d K):∀ e:CE,SE g C d K e∧ST g C d K e
 | .none=>⟨.none,.none⟩
 | .bool _=>⟨.bool,.bool⟩
 | .int _=>⟨.int,.int⟩
 | .str _=>⟨.str,.str⟩
 | .var i=>⟨.var h.W,.of_value (.var h.W) fun hc=>by obtain ⟨y,p,rfl,h1,h2⟩:=inv_var hc; rfl⟩
 | .glob i=>⟨.glob h.G h.W h.glob,.of_value (.glob h.G h.W h.glob) fun hc=>by obtain ⟨y,p,rfl,h1,h2⟩:=inv_glob hc; rfl⟩
 | .tup es=>⟨.tup (all_es h es).es,.of_value (.tup (all_es h es).es) fun hc=>by obtain ⟨xs,kk,p,rfl,h0,h1,h2⟩:=inv_tup hc; rfl⟩
 | .list m es=>⟨.list (all_es h es).es,.of_value (.list (all_es h es).es) fun hc=>by obtain ⟨xs,p,rfl,h0,h1,h2⟩:=inv_list hc; rfl⟩
 | .dict k es=>⟨.dict (all_es h es),.of_value (.dict (all_es h es)) fun hc=>by obtain ⟨ps,pos,rfl,h1,h2⟩:=inv_dict hc; rfl⟩
 | .bin o m a b=>⟨.bin (all_e h a).1 (all_e h b).1,.of_value (.bin (all_e h a).1 (all_e h b).1) fun hc=>by obtain ⟨y,z,p,rfl,h1,h2⟩:=inv_bin hc; rfl⟩
 | .not a=>⟨.not (all_e h a).1,.not (all_e h a).2⟩
 | .and es=>⟨.and (all_es h es).b,.and (all_es h es).b⟩
 | .or es=>⟨.or (all_es h es).b,.or (all_es h es).b⟩
 | .cmp o a b=>⟨.cmp h.G (all_e h a).1 (all_e h b).1,.cmp h.G (all_e h a).1 (all_e h b).1⟩
 | .ife t a b=>⟨.ife (all_e h t).2 (all_e h a).1 (all_e h b).1,.ife (all_e h t).2 (all_e h a).2 (all_e h b).2⟩
 | .call f es=>by
  obtain ⟨call,hc,hk⟩:=h.calls
  exact ⟨.call h.G h.W hc hk (all_es h es).es,.of_value (.call h.G h.W hc hk (all_es h es).es) fun hc=>by obtain ⟨y,p,xs,q,rfl,h1,h2,h3,h4,h5⟩:=inv_call hc; rfl⟩
 | .meth a m es=>by
  obtain ⟨call,hc,hk⟩:=h.calls
  exact ⟨.meth h.G h.W hc hk h.meth (all_e h a).1 (all_es h es).es,.of_value (.meth h.G h.W hc hk h.meth (all_e h a).1 (all_es h es).es) fun hc=>by obtain ⟨o,n,ap,xs,q,rfl,h1,h2,h3,h4,h5,h6,h7⟩:=inv_meth hc; rfl⟩
 | .new c es=>by
  obtain ⟨call,hc,hk⟩:=h.calls
  exact ⟨.new h.G h.W hc hk h.init (all_es h es).es,.of_value (.new h.G h.W hc hk h.init (all_es h es).es) fun hc=>by obtain ⟨y,p,xs,q,rfl,h1,h2,h3,h4,h5⟩:=inv_new hc; rfl⟩
 | .bm k a es=>⟨.bm h.G (all_e h a).1 (all_es h es).es,.of_value (.bm h.G (all_e h a).1 (all_es h es).es) fun hc=>by obtain ⟨o,ap,xs,q,rfl,h2,h3,h4,h5,h6,h7⟩:=inv_bm hc; rfl⟩
 | .bi k es=>⟨.bi h.G h.W h.sset (all_es h es),.of_value (.bi h.G h.W h.sset (all_es h es)) fun hc=>by obtain ⟨p,xs,q,ys,rfl,h1,h2,h3,h4,h5⟩:=inv_bi hc; rfl⟩
 | .attr a m=>⟨.attr h.G h.W (all_e h a).1,.of_value (.attr h.G h.W (all_e h a).1) fun hc=>by obtain ⟨o,n,p,rfl,h1,h2,h3,h4⟩:=inv_attr hc; rfl⟩
 | .sub a i=>⟨.sub (all_e h a).1 (all_e h i).1,.of_value (.sub (all_e h a).1 (all_e h i).1) fun hc=>by obtain ⟨o,j,p,rfl,h0,h1,h2⟩:=inv_sub hc; rfl⟩
 | .slice a lo hi=>⟨.slice (all_e h a).1 (all_o h lo) (all_o h hi),.of_value (.slice (all_e h a).1 (all_o h lo) (all_o h hi)) fun hc=>by obtain ⟨o,l,u,q,p,rfl,h1,h2,h3⟩:=inv_slice hc; rfl⟩
 | .comp xs c=>⟨.comp h.G h.W (all_l h c),.of_value (.comp h.G h.W (all_l h c)) fun hc=>by obtain ⟨elt,tx,ix,fs,r,s,p,rfl,_⟩:=inv_comp hc; rfl⟩
 | .fstr ps=>⟨.fstr (all_es h ps),.of_value (.fstr (all_es h ps)) fun hc=>by obtain ⟨y,a,v,k1,p1,p2,p,rfl,rfl,h3⟩:=inv_fstr hc; rfl⟩
 | .stuck=>⟨.stuck,.stuck⟩
theorem all_es (h:Hyp g C d K):∀ es:CEs,AllE g C d K es
 | .nil=>trivial
 | .cons a r=>⟨(all_e h a).1,(all_e h a).2,all_es h r⟩
theorem all_o (h:Hyp g C d K):∀ o:CO,SO g C d K o
 | .none=>.none
 | .some e=>.some (all_e h e).1
theorem all_i (h:Hyp g C d K):∀ i:CI,SI g C d K i
 | .it e=>.it (all_e h e).1
 | .range1 a=>.range1 h.G h.W (all_e h a).1
 | .range2 a b=>.range2 h.G h.W (all_e h a).1 (all_e h b).1
 | .zip a b=>.zip h.G h.W (all_e h a).1 (all_e h b).1
theorem all_l (h:Hyp g C d K):∀ c:CL,AllL g C d K c
 | .elt e=>(all_e h e).1
 | .cons _ i ifs m=>⟨all_i h i,all_es h ifs,all_l h m⟩
end
mutual
theorem all_s (h:Hyp g C d K):∀ st:CS,SS g C d K st
 | .assign t e=>.assignS h.G h.W (all_e h e).1 fun _ c _=>all_l h c
 | .setAttr a m e=>.setAttr h.G h.W (all_e h a).1 (all_e h e).1
 | .setSub a i e=>.setSub (all_e h a).1 (all_e h i).1 (all_e h e).1
 | .expr e=>.expr (all_e h e).1
 | .ret e=>.ret (all_e h e).1
 | .retNone=>.retNone
 | .ifS t a b=>.ifS (all_e h t).2 (all_ss h a) (all_ss h b)
 | .forS t i b=>.forS h.G h.W (all_i h i) (all_ss h b)
 | .superInit c f x=>⟨fun hc=>(Bool.false_ne_true hc).elim⟩
 | .stuck=>.stuck
theorem all_ss (h:Hyp g C d K):∀ st:CSs,SSs g C d K st
 | .nil=>.nil
 | .cons a r=>.cons (all_s h a) (all_ss h r)
end
end
structure FnOk (g:Glb) (C:Cfg) (f:Nat) (fd:Fn) (D:FuncData) (body:List Stmt) (ps:List Str):Prop where
 at_:∃ o,g.K.lookup (g.fa f)=some o∧o.data = .func D
 bod:D.body = .stmts body
 code:codeIn g.K D.code D.qualname=true
 clo:D.closure=[]
 bind:∀ vals:List Value,vals.length=ps.length→bindArgs D ⟨vals,[]⟩=pure (ps.zip vals)
 nms:allNm C fd.params ps=true
 ndp:ps.Nodup
 glob:D.globals=mainGlobals
 blt:D.builtins=builtinsNs
 kind:D.scope.kind = .function
 cor:D.scope.isCoroutine=false
 gen:D.scope.isGenerator=false
 nofree:∀ x ∈ D.scope.names,x.2 ≠ .free
 par:∀ x ∈ ps,D.scope.names.lookup x=some .local∨D.scope.names.lookup x=some .cell
 chk:chkSs C fd.body D.scope.names body=true
theorem bindL_skip {k:Str→Option NameKind} {x:Str}:∀ {binds:List (Str × Value)} {m:Str→Option Value},x ∉ binds.map (·.1)→bindL k binds m x=m x∧bindC k binds m x=m x
 | [],m,_=>⟨rfl,rfl⟩
 | (n,v)::r,m,h=>by
  simp only [List.map_cons,List.mem_cons,not_or] at h
  obtain ⟨h1,h2⟩:=bindL_skip (k:=k) (x:=x) (binds:=r) (m:=if k n=some .local then fun y=>if y=n then some v else m y else m) h.2
  obtain ⟨h3,h4⟩:=bindL_skip (k:=k) (x:=x) (binds:=r) (m:=if k n=some .local then m else fun y=>if y=n then some v else m y) h.2
  constructor
  ·unfold bindL; rw [h1]; split
   ·exact if_neg h.1
   ·rfl
  ·unfold bindC; rw [h4]; split
   ·rfl
   ·exact if_neg h.1
theorem bindL_at {k:Str→Option NameKind} {x:Str} {v:Value}:∀ {binds:List (Str × Value)} {m:Str→Option Value},(binds.map (·.1)).Nodup→(x,v) ∈ binds→(k x=some .local→bindL k binds m x=some v)∧(¬ k x=some .local→bindC k binds m x=some v)
 | [],m,_,h=>by simp at h
 | (n,w)::r,m,hn,h=>by
  simp only [List.map_cons,List.nodup_cons] at hn
  rcases List.mem_cons.mp h with e | h
  ·cases e
   refine ⟨fun hk=>?_,fun hk=>?_⟩
   ·unfold bindL; rw [(bindL_skip hn.1).1,if_pos hk,if_pos rfl]
   ·unfold bindC; rw [(bindL_skip hn.1).2,if_neg hk,if_pos rfl]
  ·refine ⟨fun hk=>?_,fun hk=>?_⟩
   ·unfold bindL; exact (bindL_at hn.2 h).1 hk
   ·unfold bindC; exact (bindL_at hn.2 h).2 hk
theorem zip_keys {α:Type}:∀ {ps:List Str} {vals:List α},vals.length=ps.length→(ps.zip vals).map (·.1)=ps
 | [],[],_=>rfl
 | p::ps,v::vals,h=>by simp [zip_keys (ps:=ps) (vals:=vals) (by simpa using h)]
 | [],_::_,h=>by simp at h
 | _::_,[],h=>by simp at h
theorem allNm_len {C:Cfg}:∀ {ids:List Nat} {ps:List Str},allNm C ids ps=true→ps.length=ids.length
 | [],[],_=>rfl
 | i::r,x::xs,h=>by simp only [allNm,Bool.and_eq_true] at h; simp [allNm_len h.2]
 | [],_::_,h=>by simp [allNm] at h
 | _::_,[],h=>by simp [allNm] at h
theorem bind_has {g:Glb} {C:Cfg} (G:GOk g) (W:Wired g C) {ρ:Rho} {F:Addr→Prop} {h:Heap}:∀ {ids:List Nat} {ps:List Str} {vals:List Value} {vs:List AV},allNm C ids ps=true→RAs ρ F h vals vs→∀ {i:Nat} {v:AV} {x:Str},Env.get (ids.zip vs) i=some v→g.nm[i]? = some x→∃ val,(x,val) ∈ ps.zip vals∧RA ρ F h val v
 | [],[],vals,vs,_,_,i,v,x,e,_=>by simp [Env.get] at e
 | j::r,y::ys,vals,vs,hn,ra,i,v,x,e,hx=>by
  simp only [allNm,Bool.and_eq_true] at hn
  cases ra with
  | nil=>simp [Env.get] at e
  | cons r1 rs =>
   rename_i v1 x1 vs1 xs1
   simp only [List.zip_cons_cons,Env.get] at e
   cases hji:j == i with
   | true =>
    rw [hji,cond_true] at e
    cases e
    have:=beq_iff_eq.mp hji; subst this
    have hy:=isNm_of hn.1
    rw [W.nm,hx] at hy
    cases hy
    exact ⟨v1,by simp,r1⟩
   | false =>
    rw [hji,cond_false] at e
    obtain ⟨val,h1,h2⟩:=bind_has G W hn.2 rs e hx
    exact ⟨val,by simp [h1],h2⟩
 | [],_::_,_,_,h,_,_,_,_,_,_=>by simp [allNm] at h
 | _::_,[],_,_,h,_,_,_,_,_,_=>by simp [allNm] at h
theorem foot_strict {ρ:Rho} {σ:St} {b:Bool} {a:Addr}:Foot ρ { σ with strict:=b } a ↔ Foot ρ σ a:=Iff.rfl
theorem fn_ok {g:Glb} {C:Cfg} {d:Nat} {K:Ctx} (h:Hyp g C d K) {f:Nat} {fd:Fn} {D:FuncData} {body:List Stmt} {ps:List Str} (F:FnOk g C f fd D body ps)
  {vs:List AV} {σ σ':St} {fl:Mine.Flow} {Γ':Env} (hlen:fd.params.length=vs.length) (e:evSs K fd.body (fd.params.zip vs) σ=some ((fl,Γ'),σ'))
  {A:Around} {s:Shared} {Z:Addr→Prop} {bs:List Nat} {ρ:Rho} {R:Result→Shared→Prop} {vals:List Value}
  (Rm:Room (d+1) A) (Rl:Rel g Z bs ρ σ s.heap) (ra:RAs ρ (Fz Z ρ σ) s.heap vals vs)
  (k:∀ val s' ρ',Rel g Z bs ρ' σ' s'.heap→Post NoX ρ σ s ρ' σ' s'→RA ρ' (Fz Z ρ' σ') s'.heap val fl.val→R (.ok (.ret val)) s') :
  codeAny (model g.prog g.w) A (.call (.ref (g.fa f)) ⟨vals,[]⟩) R s:=by
 obtain ⟨o,hK,hD⟩:=F.at_
 have kin:g.K.In s.heap:=fun a o e=>Rl.keep a o (h.G.kin a o e)
 have hvl:vals.length=ps.length:=by rw [ra.length,← hlen,allNm_len F.nms]
 have hkeys:=zip_keys hvl
 have hpar:∀ x ∈ ps.zip vals,D.scope.names.lookup x.1=some .local∨(D.scope.names.lookup x.1=some .cell∧((cellsFrom (s.heap.objs.size+1) D.scope.names []).lookup x.1).isSome=true):=fun x hx=>by
  have:x.1 ∈ ps:=by rw [← hkeys]; exact List.mem_map_of_mem hx
  rcases F.par _ this with q | q
  ·exact .inl q
  ·exact .inr ⟨q,cellsFrom_has (.inl (mem_of_lookup q))⟩
 refine codeAny_call_cells (o:=o) (fd:=D) (body:=body) (binds:=ps.zip vals) Rm.now (kin _ _ hK) hD (h.G.nolimit.keeps Rl.keep) (codeRec_of kin F.code) F.bod (F.bind vals hvl) F.clo hpar (fun s1 x=>?_) F.cor F.gen F.kind
 generalize henv:callEnvC D s.heap.objs.size (g.fa f)=env at x ⊢
 have hloc:env.locals=s.heap.objs.size:=by rw [← henv]; rfl
 have hsc:env.scope.names=D.scope.names:=by rw [← henv]; rfl
 have hcells:env.cells=cellsFrom (s.heap.objs.size+1) D.scope.names []:=by rw [← henv]; rfl
 have hkd:∀ y,env.kindOf y=D.scope.names.lookup y:=fun y=>by unfold PySem.Env.kindOf; rw [hsc]
 have hnew:∀ b,(b=env.locals∨∃ n,env.cells.lookup n=some b)→¬ Lv s.heap b∧Lv s1.heap b:=fun b hb=>by
  refine orEq hb ?_ fun ⟨n,hn⟩=>?_
  ·refine ⟨by rw [hloc]; exact lv_new _,?_⟩
   obtain ⟨o,_,_,e,_⟩:=x.toInCall.ns
   exact ⟨o,e⟩
  ·refine ⟨lv_out ?_,?_⟩
   ·have:=x.above n b (mem_of_lookup hn)
    rw [hloc] at this
    exact Nat.le_of_lt this
   ·obtain ⟨o,e,_⟩:=x.cell n b hn
    exact ⟨o,e⟩
 have P1:Post NoX ρ σ s ρ σ s1:=by
  obtain ⟨h',tk,rfl,kp⟩:=x.done
  exact Post.grow kp rfl rfl
 have R1:Rel g (Zu Z fun b=>b=env.locals∨∃ n,env.cells.lookup n=some b) bs ρ σ s1.heap:=Rl.enter x.toInCall.keep fun b hb=>hb.elim .inl fun hb=>.inr (hnew b hb)
 have ra1:RAs ρ (Fz (Zu Z fun b=>b=env.locals∨∃ n,env.cells.lookup n=some b) ρ σ) s1.heap vals vs:=RAs.post (X:=NoX) (ra.zless fun b hb=>hb.elim .inl fun hb=>.inr (hnew b hb).1) P1 fun _ h=>False.elim h
 have EO:EOK g env (fun y=>D.scope.names.lookup y == some .local||D.scope.names.lookup y == some .cell) (fun b=>b=env.locals∨∃ n,env.cells.lookup n=some b):={
  kind:=by rw [← henv]; exact F.kind
  globals:=by rw [← henv]; exact F.glob
  builtins:=by rw [← henv]; exact F.blt
  xL:=.inl rfl
  asgOk:=fun y hy=>by
   simp only [Bool.or_eq_true,beq_iff_eq] at hy
   rw [hkd]
   rcases hy with hy | hy
   ·exact .inl hy
   ·refine .inr ⟨hy,?_⟩
    obtain ⟨c,hc⟩:=Option.isSome_iff_exists.mp (cellsFrom_has (k:=s.heap.objs.size+1) (acc:=[]) (.inl (mem_of_lookup hy)))
    rw [← hcells] at hc
    exact ⟨c,hc,.inr ⟨_,hc⟩⟩
  held:=fun y hy=>by
   rw [hkd] at hy
   rcases hy with hy | hy
   ·obtain ⟨c,hc⟩:=Option.isSome_iff_exists.mp (cellsFrom_has (k:=s.heap.objs.size+1) (acc:=[]) (.inl (mem_of_lookup hy)))
    rw [← hcells] at hc
    exact ⟨c,hc⟩
   ·exact absurd rfl (F.nofree _ (mem_of_lookup hy))
  one:=fun a b c ha hb=>name_of_addr x.apart (mem_of_lookup ha) (mem_of_lookup hb)
  apart:=fun a c ha=>Nat.ne_of_gt (x.above a c (mem_of_lookup ha))
  xs:=fun b hb=>hb }
 have H:Here g d (A.deeper env) env D.scope.names (fun y=>D.scope.names.lookup y == some .local||D.scope.names.lookup y == some .cell) (fun b=>b=env.locals∨∃ n,env.cells.lookup n=some b):=⟨EO,⟨Rm.deep1,Rm.unit1,Rm.handled,Rm.guards⟩,hsc⟩
 have nodupK:((ps.zip vals).map (·.1)).Nodup:=by rw [hkeys]; exact F.ndp
 have ER1:ER g (Zu Z fun b=>b=env.locals∨∃ n,env.cells.lookup n=some b) ρ σ s1.heap env (fd.params.zip vs):={
  ns:=⟨_,x.toInCall.ns,fun i v y h1 h2 h3=>by
   obtain ⟨val,q1,q2⟩:=bind_has h.G h.W F.nms ra1 h1 h2
   exact ⟨val,(bindL_at nodupK q1).1 h3,q2⟩⟩
  cell:=fun y c hc=>⟨_,x.cell y c hc,fun i v h1 h2 h3=>by
   obtain ⟨val,q1,q2⟩:=bind_has h.G h.W F.nms ra1 h1 h2
   exact ⟨val,(bindL_at nodupK q1).2 (by rcases h3 with h3 | h3 <;> rw [h3] <;> decide),q2⟩⟩
  zL:=.inr (.inl rfl)
  zC:=fun y c hc=>.inr (.inr ⟨y,hc⟩) }
 refine (all_ss h fd.body).ok F.chk H (fun y hy=>by simpa using hy) R1 ER1 e fun s2 ρ2 pf R2 er2 P2 hf=>?_
 have R3:Rel g Z bs ρ2 σ' s2.heap:=R2.leave fun b hb=>.inl hb
 have P3:Post NoX ρ σ s ρ2 σ' s2:=((P1.wider fun _ h=>h.elim).trans P2).fresh fun b hb lb=>absurd lb (hnew b hb).1
 cases hf with
 | next=>exact k _ s2 ρ2 R3 P3 (.pv .none)
 | ret r=>exact k _ s2 ρ2 R3 P3 (r.drop fun b hb=>.inl hb)
noncomputable def CallOk (g:Glb) (d:Nat) (f:Nat) (run:List AV→St→R AV):Prop :=
 ∀ {vs:List AV} {σ σ':St} {r:AV},run vs σ=some (r,σ')→∀ {A:Around} {s:Shared} {Z:Addr→Prop} {bs:List Nat} {ρ:Rho} {E:Value→Shared→Prop} {Q:Value→Shared→Prop} {vals:List Value},
  Room d A→Rel g Z bs ρ σ s.heap→RAs ρ (Fz Z ρ σ) s.heap vals vs→Done g Z bs ρ σ s r σ' Q →
   codeAny (model g.prog g.w) A (.call (.ref (g.fa f)) ⟨vals,[]⟩) (fun r s'=>match r with | .ok (.ret v)=>Q v s' | .ok _=>False | .error e=>E e s') s
theorem post_strict {X:Addr→Prop} {ρ ρ':Rho} {σ σ':St} {s s':Shared} (P:Post X ρ σ s ρ' σ' s'):({ σ' with strict:=σ.strict }:St)=σ':=by
 have:=P.str
 cases σ'; simp_all
inductive CallSome (P:Prog) (d:Nat) (fd:Fn) (vs:List AV) (σ:St) (r:AV) (σ':St):Prop
 | mk (fl:Mine.Flow) (Γ':Env) (s':St) (hl:fd.params.length=vs.length) (he:evSs (ctxOf P (callFn P d)) fd.body (fd.params.zip vs) { σ with strict:=σ.strict||fd.trim }=some ((fl,Γ'),s'))
  (hn:fd.trim=false→r=fl.val∧σ' = { s' with strict:=σ.strict }) (ht:fd.trim=true→∃ p,fl.val = .pv p∧r = .pv p∧σ' = { heap:=s'.heap.take σ.heap.length,strict:=σ.strict })
theorem callFn_some {P:Prog} {d f:Nat} {fd:Fn} {vs:List AV} {σ σ':St} {r:AV} (hfd:P.fns[f]? = some fd) (e:callFn P (d+1) f vs σ=some (r,σ')):CallSome P d fd vs σ r σ':=by
 rw [callFn,hfd] at e
 have e:(if fd.params.length=vs.length then match evSs (ctxOf P (callFn P d)) fd.body (fd.params.zip vs) { σ with strict:=σ.strict||fd.trim } with
    | none=>none
    | some ((fl,_),s')=>bif fd.trim then (match fl.val with
      | .pv p=>some (.pv p,{ heap:=s'.heap.take σ.heap.length,strict:=σ.strict })
      | _=>none)
     else some (fl.val,{ s' with strict:=σ.strict })
   else none)=some (r,σ'):=e
 obtain ⟨hl,e1⟩:=ite_some e
 cases he:evSs (ctxOf P (callFn P d)) fd.body (fd.params.zip vs) { σ with strict:=σ.strict||fd.trim } with
 | none=>rw [he] at e1; cases e1
 | some y =>
  obtain ⟨⟨fl,Γ'⟩,s'⟩:=y
  rw [he] at e1
  have e2:(bif fd.trim then (match fl.val with
      | .pv p=>some (AV.pv p,{ heap:=s'.heap.take σ.heap.length,strict:=σ.strict })
      | _=>none)
     else some (fl.val,({ s' with strict:=σ.strict }:St)))=some (r,σ'):=e1
  refine ⟨fl,Γ',s',hl,he,fun ht=>?_,fun ht=>?_⟩
  ·rw [ht] at e2
   obtain ⟨h1,h2⟩:=ret_same e2
   exact ⟨h1.symm,h2.symm⟩
  ·rw [ht] at e2
   cases hv:fl.val with
   | pv p =>
    rw [hv] at e2
    obtain ⟨h1,h2⟩:=ret_same e2
    exact ⟨p,rfl,h1.symm,h2.symm⟩
   | _=>rw [hv] at e2; cases e2
theorem call_of {g:Glb} {C:Cfg} {d:Nat} (h:Hyp g C d (ctxOf g.P (callFn g.P d))) {f:Nat} {fd:Fn} (hfd:g.P.fns[f]? = some fd) {D:FuncData} {body:List Stmt} {ps:List Str} (F:FnOk g C f fd D body ps):CallOk g (d+1) f (callFn g.P (d+1) f):=by
 intro vs σ σ' r e A s Z bs ρ E Q vals Rm Rl ra k
 obtain ⟨fl,Γ',s',hlen,he,hn,ht'⟩:=callFn_some hfd e
 cases ht:fd.trim with
 | false =>
  obtain ⟨rfl,rfl⟩:=hn ht
  rw [ht,Bool.or_false] at he
  refine fn_ok h F hlen he Rm Rl ra fun val s1 ρ1 R1 P1 q1=>?_
  rw [post_strict P1] at k
  exact k val s1 ρ1 R1 P1 q1
 | true =>
  obtain ⟨p,hp,rfl,rfl⟩:=ht' ht
  rw [ht,Bool.or_true] at he
  refine fn_ok h F hlen he Rm Rl.bar ra fun val s1 ρ1 R1 P1 q1=>?_
  obtain ⟨R2,P2⟩:=Rl.trim R1 (σ₀:={ heap:=σ.heap,strict:=true }) rfl P1
  refine k val s1 ρ R2 P2 ?_
  rw [hp] at q1
  refine .pv (q1.pv_.mono fun b o e f _=>⟨e,f.1,fun ft=>f.2 ?_⟩)
  obtain ⟨i,l,x,a1,a2,a3,a4⟩:=ft
  refine ⟨i,l,x,P1.pre i l a1,?_,a3,a4⟩
  have a2':(s'.heap.take σ.heap.length)[i]? = some x:=a2
  rw [List.getElem?_take] at a2'
  split at a2'
  ·exact a2'
  ·cases a2'
theorem calls_ok {g:Glb} {C:Cfg} (G:GOk g) (W:Wired g C) (S:SetSpec g)
  (hf:∀ f fd,g.P.fns[f]? = some fd→(∃ D body ps,FnOk g C f fd D body ps)∨(∀ d,CallsOk g d (callFn g.P d)→CallOk g (d+1) f (callFn g.P (d+1) f))):∀ d,CallsOk g d (callFn g.P d):=by
 intro d
 induction d with
 | zero=>intro f vs σ σ' r _ e; simp only [callFn] at e; cases e
 | succ d ih =>
  intro f vs σ σ' r hlt e A s Z bs ρ E Q vals Rm Rl ra k
  have hfd:g.P.fns[f]? = some (g.P.fns[f]'hlt):=List.getElem?_eq_getElem _
  rcases hf f _ hfd with ⟨D,body,ps,F⟩ | h
  ·exact call_of ⟨G,W,⟨_,ih,rfl⟩,fun _ _=>rfl,fun _=>rfl,fun _=>rfl,S⟩ hfd F e Rm Rl ra k
  ·exact h d ih e Rm Rl ra k
noncomputable def tab (place:Array Nat) (led:Bool):SetTable:={ mask:=7,place:=place,dummies:=#[],finger:=0,led:=led,moves:=0,plain:=true }
noncomputable def freeOk (led:Bool) (place:Array Nat) (h:Nat):Bool:=match (tab place led).freeSlot (h:Int) with
 | some (slot,false) =>
  let p:=SetTable.below place slot
  decide (slot<8)&&decide (p≤place.size)&&SetTable.rising (SetTable.insertAt place p slot)&&(SetTable.insertAt place p slot).all (· < 8)&&decide ((SetTable.insertAt place p slot).size=place.size+1)
 | _=>false
theorem free0:∀ b:Bool,∀ h<32,freeOk b #[] h=true:=by decide +kernel
theorem free1:∀ l:Bool,∀ a<8,∀ h<32,freeOk l #[a] h=true:=by decide +kernel
theorem below1:∀ a<8,SetTable.below #[a] 0=0∧SetTable.below #[a] (a+1)=1:=by decide +kernel
theorem below2:∀ a<8,∀ b<8,a<b→SetTable.below #[a,b] 0=0∧SetTable.below #[a,b] (a+1)=1∧SetTable.below #[a,b] (b+1)=2:=by decide +kernel
section
variable {prog:Program} {w:World} {A:Around} {E:Value→Shared→Prop} {s:Shared}
noncomputable def ElI:List (Int × Value)→List Int→Prop
 | [],[]=>True
 | e::r,k::l=>e.1=hashInt k∧(∃ t,e.2 = .int k t)∧ElI r l
 | _,_=>False
noncomputable def SmallSet (h:Heap) (a:Addr) (l:List Int) (led:Bool):Prop :=
 ∃ o es ep place,h.get? a=some o∧o.ExactSet∧o.data = .set es ep (tab place led)∧ElI es.toList l∧place.size=es.size∧es.size≤2∧SetTable.rising place=true∧place.all (· < 8)=true
theorem ElI.length:∀ {es:List (Int × Value)} {l:List Int},ElI es l→es.length=l.length
 | [],[],_=>rfl
 | _::r,_::l,h=>by simp [ElI.length h.2.2]
 | [],_::_,h=>h.elim
 | _::_,[],h=>h.elim
theorem ElI.elems:∀ {es:List (Int × Value)} {l:List Int},ElI es l→ElemsOf (intKind prog w) es
 | [],[],_=>fun e he=>by simp at he
 | _::r,_::l,h=>fun e he=>by
  rcases List.mem_cons.mp he with rfl | he
  ·obtain ⟨h1,⟨t,h2⟩,_⟩:=h
   exact ⟨⟨_,by rw [h2]; exact intKind_is _ _ _ _,h1⟩,by rw [h2]; rfl⟩
  ·exact ElI.elems h.2.2 e he
 | [],_::_,h=>h.elim
 | _::_,[],h=>h.elim
theorem hash_small:∀ n:Nat,n<32→hashInt (n:Int)=(n:Int):=by decide +kernel
theorem ElI.take:∀ {es:List (Int × Value)} {l:List Int} (n:Nat),ElI es l→ElI (es.take n) (l.take n)
 | [],[],n,_=>by simp [ElI]
 | _::r,_::l,0,h=>trivial
 | _::r,_::l,n+1,h=>⟨h.1,h.2.1,ElI.take n h.2.2⟩
 | [],_::_,_,h=>h.elim
 | _::_,[],_,h=>h.elim
theorem ElI.drop:∀ {es:List (Int × Value)} {l:List Int} (n:Nat),ElI es l→ElI (es.drop n) (l.drop n)
 | [],[],n,_=>by simp [ElI]
 | _::r,_::l,0,h=>h
 | _::r,_::l,n+1,h=>ElI.drop n h.2.2
 | [],_::_,_,h=>h.elim
 | _::_,[],_,h=>h.elim
theorem ElI.append:∀ {es es2:List (Int × Value)} {l l2:List Int},ElI es l→ElI es2 l2→ElI (es++es2) (l++l2)
 | [],_,[],_,_,h=>h
 | _::r,_,_::l,_,h,h2=>⟨h.1,h.2.1,ElI.append h.2.2 h2⟩
 | [],_,_::_,_,h,_=>h.elim
 | _::_,_,[],_,h,_=>h.elim
theorem insertAt_list {α:Type} (xs:Array α) (p:Nat) (x:α) (hp:p≤xs.size):(SetTable.insertAt xs p x).toList=xs.toList.take p++x::xs.toList.drop p:=by
 unfold SetTable.insertAt
 simp
 exact List.take_of_length_le (by simp)
theorem insertAt_size {α:Type} (xs:Array α) (p:Nat) (x:α) (hp:p≤xs.size):(SetTable.insertAt xs p x).size=xs.size+1:=by
 rw [← Array.length_toList,insertAt_list _ _ _ hp,List.length_append,List.length_cons,List.length_take,List.length_drop,Array.length_toList,Nat.min_eq_left hp,← Nat.add_assoc,Nat.add_sub_cancel' hp]
theorem tab_fit {place:Array Nat} {led:Bool} {n:Nat} (e:place.size=n) (h:n≤7):(tab place led).fits n=true:=by
 subst e
 show (place.size == place.size&&decide (place.size≤7))=true
 rw [beq_self_eq_true,decide_eq_true h]; rfl
end
theorem free_any (led:Bool) (place:Array Nat) (hs:place.size≤1) (ha:place.all (· < 8)=true) (h:Nat) (hh:h<32):freeOk led place h=true:=by
 obtain ⟨l⟩:=place
 match l,hs,ha with
 | [],_,_=>exact free0 led h hh
 | [a],_,ha=>exact free1 led a (by simpa using ha) h hh
 | _::_::r,hs,_=>exact absurd (Nat.le_of_succ_le_succ hs) (Nat.not_succ_le_zero _)
inductive LayS (led:Bool) (place:Array Nat) (es:Array (Int × Value)) (n:Nat) (x:Value):Prop
 | mk (p:Nat) (place':Array Nat) (e:layNew (tab place led) es (n:Int) x=(SetTable.insertAt es p ((n:Int),x),tab place' led,false,false)) (hp:p≤es.size) (h1:place'.size=es.size+1) (h2:SetTable.rising place'=true) (h3:place'.all (· < 8)=true)
theorem lay_at {led:Bool} {place:Array Nat} {es:Array (Int × Value)} {n:Nat} {x:Value} {slot:Nat} (hfs:(tab place led).freeSlot (n:Int)=some (slot,false)) (hs:es.size≤1) (hp:SetTable.below place slot≤es.size) (h1:(SetTable.insertAt place (SetTable.below place slot) slot).size=es.size+1) :
  layNew (tab place led) es (n:Int) x=(SetTable.insertAt es (SetTable.below place slot) ((n:Int),x),tab (SetTable.insertAt place (SetTable.below place slot) slot) led,false,false):=by
 have hfit:=tab_fit (led:=led) h1 (Nat.le_trans (Nat.succ_le_succ hs) (by decide))
 show (match (tab place led).freeSlot (n:Int) with
  | some (slot,wasDummy)=>(SetTable.insertAt es (SetTable.below place slot) ((n:Int),x),(tab (SetTable.insertAt place (SetTable.below place slot) slot) led).orStandIn (SetTable.insertAt es (SetTable.below place slot) ((n:Int),x)).size,wasDummy,!(tab (SetTable.insertAt place (SetTable.below place slot) slot) led).fits (SetTable.insertAt es (SetTable.below place slot) ((n:Int),x)).size)
  | none=>_)=_
 rw [hfs]
 dsimp only
 rw [insertAt_size _ _ _ hp,hfit,SetTable.orStandIn,if_pos hfit]; rfl
theorem lay_small (led:Bool) (place:Array Nat) (es:Array (Int × Value)) (hsz:place.size=es.size) (hs:es.size≤1) (hr:SetTable.rising place=true) (ha:place.all (· < 8)=true) (n:Nat) (hn:n<32) (x:Value):LayS led place es n x:=by
 have hf:=free_any led place (hsz▸hs) ha n hn
 unfold freeOk at hf
 cases hfs:(tab place led).freeSlot (n:Int) with
 | none=>rw [hfs] at hf; cases hf
 | some q =>
  obtain ⟨slot,b⟩:=q
  cases b with
  | true=>rw [hfs] at hf; cases hf
  | false =>
   rw [hfs] at hf
   have hf:=and_true2 hf
   have h4:=and_true2 hf.1
   have h3:=and_true2 h4.1
   have hp:SetTable.below place slot≤es.size:=hsz▸of_decide_eq_true (and_true2 h3.1).2
   have h1:(SetTable.insertAt place (SetTable.below place slot) slot).size=es.size+1:=hsz▸of_decide_eq_true hf.2
   exact ⟨_,_,lay_at hfs hs hp h1,hp,h1,h3.2,h4.2⟩
section
variable {prog:Program} {w:World} {A:Around} {E:Value→Shared→Prop} {s:Shared}
theorem ElI.found:∀ {es:List (Int × Value)} {l:List Int} {n:Int},ElI es l→((es.findIdx? (fun e=>(intKind prog w).is n e.2)).isSome=true ↔ n ∈ l)
 | [],[],n,_=>⟨fun h=>(Bool.false_ne_true h).elim,fun h=>nomatch h⟩
 | e::r,k::l,n,h=>by
  obtain ⟨h1,⟨t,h2⟩,h3⟩:=h
  have ih:=ElI.found (n:=n) h3
  have hk:(intKind prog w).is n e.2=decide (n=k):=by rw [h2]; simp [intKind,Value.isInt,eq_comm,Bool.beq_eq_decide_eq]
  rw [List.findIdx?_cons,hk]
  by_cases hnk:n=k
  ·simp [hnk]
  ·simp only [hnk,decide_false,Bool.false_eq_true,if_false,Option.isSome_map,List.mem_cons,false_or]
   exact ih
 | [],_::_,_,h=>h.elim
 | _::_,[],_,h=>h.elim
theorem tab_full {place:Array Nat} {led:Bool} {n:Nat} (e:place.size=n+1) (h:n≤1):(tab place led).tooFull=false:=by
 unfold SetTable.tooFull SetTable.fill tab
 dsimp only
 rw [e]
 match n,h with
 | 0,_=>rfl
 | 1,_=>rfl
theorem add_small {a:Addr} {l:List Int} {led:Bool} {n:Nat} {t:Tok} {Q:Bool→Shared→Prop} (hS:SmallSet s.heap a l led) (hl:l.length≤1) (hn:n<32)
  (k:∀ h' l',Heap.SameBut a s.heap h'→SmallSet h' a l' led→l'.Perm (if (n:Int) ∈ l then l else (n:Int)::l)→Q (!(decide ((n:Int) ∈ l))) { s with heap:=h' }) :
  wpAny (model prog w) A (setAddHashed a (.int (n:Int) t) (hashInt (n:Int))) Q E s:=by
 obtain ⟨o,es,ep,place,ho,hex,hd,hel,hsz,h3,hr,hal⟩:=hS
 have hlen:=hel.length
 rw [Array.length_toList] at hlen
 have hEl:ElemsOf (intKind prog w) es.toList:=hel.elems
 have hl2:es.size≤1:=hlen▸hl
 have hb:es.size<scanBound:=Nat.lt_of_le_of_lt hl2 (by decide)
 have hf:(tab place led).fits es.size=true:=tab_fit hsz (Nat.le_trans hl2 (by decide))
 unfold setAddHashed setAddHashedIn
 refine wpAny_holding (wpAny_bind (wpAny_setState_of ho hd hf ?_))
 dsimp only
 rw [byScan_of (x:=.int (n:Int) t) rfl hb hEl]
 simp only [↓reduceIte]
 unfold setAddByScan
 refine wpAny_bind ?_
 refine wpAny_bind (wpAny_rule ?_)
 refine wpAny_bind (wpAny_setScan_of (knd:=intKind prog w) (intKind_is _ _ _ _) ho hd hf hEl ?_)
 have hfound:=ElI.found (prog:=prog) (w:=w) (n:=(n:Int)) hel
 cases hres:List.findIdx? (fun e=>(intKind prog w).is (n:Int) e.2) es.toList with
 | some j =>
  rw [hres] at hfound
  have hin:(n:Int) ∈ l:=hfound.mp rfl
  dsimp only
  refine wpAny_pure (wpAny_pure ?_)
  have e:s = { s with heap:=s.heap }:=by cases s; rfl
  have:=k s.heap l (Heap.SameBut.refl a s.heap) ⟨o,es,ep,place,ho,hex,hd,hel,hsz,h3,hr,hal⟩ (by rw [if_pos hin])
  rw [decide_eq_true hin] at this
  rw [e]; exact this
 | none =>
  rw [hres] at hfound
  have hin:¬ (n:Int) ∈ l:=fun h=>by have:=hfound.mpr h; cases this
  dsimp only
  obtain ⟨p,place',hlay,hp,g1,g2,g3⟩:=lay_small led place es hsz hl2 hr hal n hn (.int (n:Int) t)
  rw [show hashInt (n:Int)=(n:Int) from hash_small n hn,hlay]
  dsimp only
  refine wpAny_bind (wpAny_pure ?_)
  have hpl:(tab place' led).plain=true:=rfl
  rw [hpl]
  simp only [↓reduceIte]
  refine wpAny_bind ?_
  rw [hashByValue_scannable 8 (x:=.int (n:Int) t) rfl]
  refine wpAny_pure ?_
  simp only [plainKind,↓reduceIte]
  have hnew:(SetTable.insertAt es p ((n:Int),Value.int (n:Int) t)).size=es.size+1:=insertAt_size _ _ _ hp
  refine wpAny_bind (wpAny_storeSet_of ho hd ?_ (fits_of_scanBound (by rw [hnew]; exact Nat.lt_of_le_of_lt (Nat.succ_le_succ hl2) (by decide))))
  have htf:(tab place' led).tooFull=false:=by
   exact tab_full g1 hl2
  rw [htf]
  simp only [Bool.and_false,Bool.false_eq_true,if_false]
  refine wpAny_pure (wpAny_pure ?_)
  have hg:(s.heap.update a (Obj.putSet (SetTable.insertAt es p ((n:Int),Value.int (n:Int) t)) (tab place' led))).get? a=some { o with data:=.set (SetTable.insertAt es p ((n:Int),Value.int (n:Int) t)) (ep+1) (tab place' led) }:=by
   have:=Heap.get?_update_self (Obj.putSet (SetTable.insertAt es p ((n:Int),Value.int (n:Int) t)) (tab place' led)) ho (by rw [putSet_of _ _ hd]; rfl)
   rw [putSet_of _ _ hd] at this; exact this
  have:=k _ (l.take p++(n:Int)::l.drop p) (Heap.SameBut.update s.heap a _) ⟨_,_,_,place',hg,hex,rfl,?_,by rw [hnew]; exact g1,by rw [hnew]; exact Nat.succ_le_succ hl2,g2,g3⟩ (by
   rw [if_neg hin]
   exact (List.perm_middle).trans (by rw [List.take_append_drop]))
  ·rw [decide_eq_false hin] at this
   exact this
  ·rw [insertAt_list _ _ _ hp]
   exact (hel.take p).append ⟨(hash_small n hn).symm,⟨t,rfl⟩,hel.drop p⟩
end
theorem SmallSet.at' {h h':Heap} {a:Addr} {l:List Int} {led:Bool} (S:SmallSet h a l led) (k:∀ o,h.get? a=some o→h'.get? a=some o):SmallSet h' a l led :=
 let ⟨o,es,ep,place,ho,r⟩:=S; ⟨o,es,ep,place,k o ho,r⟩
theorem perm_step {l l' σ:List Int} {v:Int} (p:l.Perm σ) (q:l'.Perm (if v ∈ l then l else v::l)):l'.Perm (step_dedup σ v):=by
 unfold step_dedup
 have e:(σ.any (· == v)=true) ↔ v ∈ l:=by rw [List.any_eq_true]; simp [p.mem_iff]
 by_cases h:v ∈ l
 ·rw [if_pos h] at q
  rw [if_pos (e.mpr h)]
  exact q.trans p
 ·rw [if_neg h] at q
  rw [if_neg fun x=>h (e.mp x)]
  exact (q.trans (p.cons v)).trans (List.perm_append_singleton v σ).symm
section
variable {prog:Program} {w:World} {A:Around} {R:Result→Shared→Prop} {I:Addr} {fp wr:List Addr} {G:Array GenState→Array GenState→Prop} {n:Nat} {P:Nat→Value→Prop} {St:Nat→Shared→Prop}
theorem update_loop_small (W:WalksS prog w A.in1 I fp wr G n P St) (S:Addr) (led:Bool) (hSf:S ∉ fp)
  (val:Nat→Nat) (hval:∀ i v,i<n→P i v→∃ t,v = .int (val i:Int) t) (hsm:∀ i,i<n→val i<32) (hb:n≤2) :
  ∀ (k i:Nat) (s:Shared) (l:List Int),n - i=k→i≤n→St i s →
   SmallSet s.heap S l led→l.Perm (firstMet (fun i=>(val i:Int)) i) →
   (∀ s' l',Moved (S::wr) G s s'→SmallSet s'.heap S l' led→l'.Perm (firstMet (fun i=>(val i:Int)) n)→R (.ok (.ret .none)) s') →
   codeAny (model prog w) A (.builtin "set.update.loop" ⟨[.ref S,.ref I],[]⟩) R s:=by
 have hSw:S ∉ wr:=fun h=>hSf (W.sub _ h)
 have hsub:∀ b ∈ wr,b ∈ S::wr:=fun b hb=>List.mem_cons_of_mem _ hb
 intro k
 induction k with
 | zero =>
  intro i s l hk hi hst hS hl hR
  have hin:i=n:=Nat.le_antisymm hi (Nat.le_of_sub_eq_zero hk)
  subst hin
  refine codeAny_builtin PyProof.Rows.F.entry_set_update_loop ?_
  rw [Around.under_plainId PyProof.Rows.F.plain_set_update_loop _]
  show wpAny _ A.in1 (pyNext (.ref I) >>= _) _ _ s
  refine wpAny_bind (W.done s _ _ hst fun s' hm=>?_)
  show wpAny _ A.in1 (ret Value.none) _ _ s'
  exact wpAny_pure (hR s' l (hm.mono hsub) (hS.at' fun o ho=>hm.heap S _ hSw ho) hl)
 | succ k ih =>
  intro i s l hk hi hst hS hl hR
  have hlt:i<n:=Nat.lt_of_sub_pos (hk▸Nat.succ_pos k)
  refine codeAny_builtin PyProof.Rows.F.entry_set_update_loop ?_
  rw [Around.under_plainId PyProof.Rows.F.plain_set_update_loop _]
  show wpAny _ A.in1 (pyNext (.ref I) >>= _) _ _ s
  refine wpAny_bind (W.item i s _ _ hlt hst fun v s' hP hst' hm=>?_)
  obtain ⟨t,rfl⟩:=hval i v hlt hP
  have hS':SmallSet s'.heap S l led:=hS.at' fun o ho=>hm.heap S _ hSw ho
  show wpAny _ A.in1 (holding [Value.int (val i:Int) t] (setAdd S (.int (val i:Int) t)) >>= _) _ _ s'
  refine wpAny_bind (wpAny_holding ?_)
  unfold setAdd
  refine wpAny_holding ?_
  refine wpAny_bind ((intKind prog w).pyHash (k:=(val i:Int)) (intKind_is _ _ _ _) ?_)
  have hll:l.length≤1:=by rw [hl.length_eq]; exact Nat.le_of_lt_succ (Nat.lt_of_le_of_lt (firstMet_length_le (fun i=>(val i:Int)) i) (Nat.lt_of_lt_of_le hlt hb))
  refine add_small (s:={ s' with toks:=s'.toks+1 }) hS' hll (hsm i hlt) fun h' l' hsb hS2 hp=>?_
  have hpi:l'.Perm (firstMet (fun i=>(val i:Int)) (i+1)):=by rw [firstMet_succ]; exact perm_step hl hp
  refine wpAny_pure ⟨plainId_quiet PyProof.Rows.F.plain_set_update_loop _,ih (i+1) _ l' (by rw [← Nat.sub_sub,hk]; rfl) hlt (W.frame _ s' _ _ hst' (Nat.le_succ _) fun b hb o e=>?_) hS2 hpi fun s'' l'' hm'' hS'' hl''=>?_⟩
  ·rw [hsb.2 b (fun h:b=S=>hSf (by rw [← h]; exact hb))]; exact e
  ·refine hR s'' l'' (Moved.trans W.gtrans ((hm.mono hsub).then_heap (Nat.le_succ _) fun b o hb e=>?_) hm'') hS'' hl''
   rw [hsb.2 b (fun h:b=S=>hb (by rw [h]; exact List.mem_cons_self))]; exact e
theorem code_set_new_led {A:Around} {E:Value→Shared→Prop} {s:Shared} (a:Value) {Q₁:Value→Shared→Prop}
  (h:Q₁ (.ref s.heap.objs.size) { s with heap:=s.heap.push { cls:=.type "set", dict:=none,data:=.set #[] 0 (tab #[] (!w.params.followText "set-order")) } }) :
  codeAny (model prog w) A (.call (.builtin "set.__new__") ⟨[.type "set", a],[]⟩) (wants Q₁ E) s:=by
 refine codeAny_of_tree ?_
 show wpAny _ A.in1 (do checkBuiltinCall "set.__new__" ⟨[.type "set", a],[]⟩; again (.builtin "set.__new__" ⟨[.type "set", a],[]⟩)) _ _ s
 refine wpAny_bind (wpAny_of_eq (PySem.F.newCall_set_1 a) (wpAny_pure ⟨plainId_quiet PySem.F.plain_set_new _,codeAny_builtin PySem.F.entry_set_new ?_⟩))
 rw [Around.under_plainId PySem.F.plain_set_new _]
 unfold Builtin.«set.__new__» Builtin.Frozenset.newClass
 have hsub:=sub_set_self
 obtain ⟨hp,g,d,tk,os⟩:=s
 dsimp only
 wp_walk
 refine wpAny_askSetting (wpAny_pure ?_)
 dsimp only
 simp only [newObj]
 refine wpAny_bind (wpAny_alloc (wpAny_pure ?_))
 exact wpAny_pure h
end
section
variable {prog:Program} {w:World} {A:Around} {E:Value→Shared→Prop} {s:Shared}
theorem set_init {S l:Addr} {items:Array Value} {val:Nat→Nat} {led:Bool} {Q:Fin→Shared→Prop} (hh:A.handled=none)
  (hS:s.heap.get? S=some { cls:=.type "set", dict:=none,data:=.set #[] 0 (tab #[] led) }) (hl:s.heap.IsList l items)
  (hi:∀ i v,i<items.size→items[i]? = some v→∃ t,v = .int (val i:Int) t) (hsm:∀ i,i<items.size→val i<32) (hb:items.size≤2)
  (h:∀ (h':Heap) (tk:Nat) (l':List Int),SmallSet h' S l' led→l'.Perm (firstMet (fun i=>(val i:Int)) items.size) →
   (∀ b o,b ≠ S→s.heap.get? b=some o→h'.get? b=some o)→Q (.done (.ret .none)) { s with heap:=h',toks:=tk }) :
  wpAny (model prog w) A (Builtin.«set.__init__» ⟨[.ref S,.ref l],[]⟩) Q E s:=by
 obtain ⟨⟨ocls,odict,odata,oslots⟩,hol,hcl,nl,hdl⟩:=id hl
 simp only at hcl hdl
 subst hcl; subst hdl
 have hsls:=PySem.F.sub_list_set
 have hslf:=PySem.F.sub_list_frozenset
 have hne:(Value.type "list" == Value.type "dict")=false:=by decide
 have hlS:l<s.heap.objs.size:=Heap.lt_size hol
 have hSS:S<s.heap.objs.size:=Heap.lt_size hS
 have hlS':l ≠ S:=fun e=>by
  rw [e,hS] at hol
  have:=congrArg Obj.cls (Option.some.inj hol)
  simp at this
 have hSf:S ∉ [s.heap.objs.size,l]:=fun m=>by
  rcases List.mem_cons.mp m with e | m
  ·exact Nat.ne_of_lt hSS e
  ·exact hlS' (List.mem_singleton.mp m).symm
 unfold Builtin.«set.__init__» noKeywords Builtin.Frozenset.updateFrom
 generalize hPI:pyIter=PI
 wp_walk
 subst hPI
 refine wpAny_pyIter_list hl ?_
 refine wpAny_bind (wpAny_runValue ?_)
 refine update_loop_small ((Walks.list (A:=A.in1) hh _ l (Nat.ne_of_lt hlS) items).toS) S led hSf val hi hsm hb items.size 0 _ [] rfl (Nat.zero_le _)
  ⟨⟨_,Heap.get?_push_size _ rfl,rfl,rfl⟩,(hl.push _)⟩ ⟨_,#[],0,#[],Heap.get?_push_of_some _ hS,⟨rfl,rfl,rfl⟩,rfl,trivial,rfl,Nat.zero_le _,by decide,by simp⟩ (by rw [firstMet_zero]) ?_
 intro s' l' hm hS' hl'
 obtain ⟨h',g',d',tk',os'⟩:=s'
 obtain rfl:g'=s.gens:=hm.gens
 obtain rfl:d'=s.drawn:=hm.drawn
 obtain rfl:os'=s.os:=hm.os
 show wpAny _ _ _ _ _ _
 refine wpAny_pure ?_
 show wpAny _ _ (ret Value.none) _ _ _
 refine wpAny_pure (h h' tk' l' hS' hl' fun b o hb1 e=>hm.heap b o (fun m=>?_) (Heap.get?_push_of_some _ e))
 rcases List.mem_cons.mp m with e' | m
 ·exact hb1 e'
 ·exact Nat.ne_of_lt (Heap.lt_size e) (List.mem_singleton.mp m)
noncomputable def SetMade (s0:Shared) (val:Nat→Nat) (n:Nat) (led:Bool) (r:Value) (s2:Shared):Prop :=
 r = .none∧∃ h' tk l',s2 = { s0 with heap:=h',toks:=tk }∧SmallSet h' s0.heap.objs.size l' led∧l'.Perm (firstMet (fun i=>(val i:Int)) n)∧(∀ b o,b<s0.heap.objs.size→s0.heap.get? b=some o→h'.get? b=some o)
set_option maxHeartbeats 3200000 in
theorem set_of_ints {l:Addr} {items:Array Value} {val:Nat→Nat} {Q:Value→Shared→Prop}
  (hh:A.handled=none) (hl:s.heap.IsList l items) (hi:∀ i v,i<items.size→items[i]? = some v→∃ t,v = .int (val i:Int) t) (hsm:∀ i,i<items.size→val i<32) (hb:items.size≤2)
  (h:∀ (h':Heap) (tk:Nat) (l':List Int),SmallSet h' s.heap.objs.size l' (!w.params.followText "set-order")→l'.Perm (firstMet (fun i=>(val i:Int)) items.size) →
   (∀ b o,b<s.heap.objs.size→s.heap.get? b=some o→h'.get? b=some o)→Q (.ref s.heap.objs.size) { s with heap:=h',toks:=tk }) :
  wpAny (model prog w) A (call (.type "set") [.ref l]) Q E s:=by
 generalize hled:(!w.params.followText "set-order")=led at h
 obtain ⟨c,tl,hmro⟩:=PySem.F.called_set.mro
 have hmade:=PySem.F.called_set.made
 have hsub:=PySem.F.called_set.sub
 refine wpAny_call (codeAny_of_tree ?_)
 show wpAny _ _ (callAny (.type "set") _) _ _ _
 refine wpAny_pure ⟨Code.quiet_builtin _ (by decide +kernel),codeAny_builtin PySem.F.entry_type_call ?_⟩
 rw [Around.under_plain (weight_type_call_type "set" [.ref l] []) rfl]
 have h1:=PySem.F.called_set.notType
 have h2:=PySem.F.called_set.canCreate
 have hct:=PySem.F.typeCall_set_1 (.ref l)
 repeat (any_goals (first | assumption | wp_step))
 refine codeAny_mono (code_set_new_led (.ref l) (E:=E) (Q₁:=fun obj s₁=>obj = .ref s.heap.objs.size∧s₁ = { s with heap:=s.heap.push { cls:=.type "set", dict:=none,data:=.set #[] 0 (tab #[] led) } }) ⟨rfl,by rw [hled]⟩) fun r s₁ hr=>?_
 cases r with
 | error e=>exact hr
 | ok fl =>
  cases fl with
  | ret obj =>
   obtain ⟨rfl,rfl⟩:=hr
   have hS:(s.heap.push { cls:=.type "set", dict:=none,data:=.set #[] 0 (tab #[] led) }).get? s.heap.objs.size=some { cls:=.type "set", dict:=none,data:=.set #[] 0 (tab #[] led) }:=Heap.get?_push_size _ rfl
   have hT:Shared.TypeIs { s with heap:=s.heap.push { cls:=.type "set", dict:=none,data:=.set #[] 0 (tab #[] led) } } (.ref s.heap.objs.size) "set" := ⟨_,hS,rfl⟩
   have hli:=PySem.F.called_set.init.lookup
   have hbi:=PySem.F.called_set.init.bind (.ref s.heap.objs.size)
   repeat (any_goals (first | assumption | wp_step))
   refine codeAny_mono (codeAny_call_builtin (R:=wants (SetMade s val items.size led) E) PySem.F.called_set.init.plain PySem.F.entry_set_init (check_set_init_1 hT
    (set_init (A:=A.in1.in1) hh hS (hl.push _) hi hsm hb fun h' tk l' a1 a2 a3=>⟨rfl,h',tk,l',rfl,a1,a2,fun b o hb e=>a3 b o (Nat.ne_of_lt hb) (Heap.get?_push_of_some _ e)⟩))) fun r₂ s₂ hr₂=>?_
   cases r₂ with
   | error e=>exact hr₂
   | ok fl₂ =>
    cases fl₂ with
    | ret r =>
     obtain ⟨rfl,h',tk,l',rfl,hS',hl',hk'⟩:=hr₂
     repeat (any_goals (first | assumption | wp_step))
     exact h _ _ l' hS' hl' hk'
    | _=>exact hr₂.elim
  | _=>exact hr.elim
end
theorem sit_owner:Manifest.owners.lookup (String.ofList ['r','o','t','a','r','e','t','i','_','t','e','s'].reverse)=some Manifest.sig_set_iterator:=by kernel_rfl
theorem sit_slot_next:Slot "set_iterator" "__next__" "set_iterator.__next__" :=
 .of (owner := "set_iterator") (n := "__next__") (by rw [typeLookup_type,builtinLookup_eq_fast]; kernel_rfl) (by decide +kernel) (by decide +kernel) (by decide +kernel)
  (by first | exact .inl (by decide +kernel) | exact .inr (by decide +kernel)) (by rw [isSubtype_type]; kernel_rfl)
theorem sit_entry_next:entryFor table "set_iterator.__next__" = some Builtin.«set_iterator.__next__» := entryFor_of_tree (by kernel_rfl)
theorem sit_args_next (a:Value):argsOk "set_iterator.__next__" ⟨[a],[]⟩:=by
 unfold argsOk; rw [signature?_of (id := "set_iterator.__next__") (n:=['_','_','t','x','e','n','_','_']) (o:=['r','o','t','a','r','e','t','i','_','t','e','s']) (by kernel_rfl) sit_owner]; kernel_rfl
theorem sit_slot_iter:Slot "set_iterator" "__iter__" "set_iterator.__iter__" :=
 .of (owner := "set_iterator") (n := "__iter__") (by rw [typeLookup_type,builtinLookup_eq_fast]; kernel_rfl) (by decide +kernel) (by decide +kernel) (by decide +kernel)
  (by first | exact .inl (by decide +kernel) | exact .inr (by decide +kernel)) (by rw [isSubtype_type]; kernel_rfl)
theorem sit_entry_iter:entryFor table "set_iterator.__iter__" = some Builtin.«dict_keyiterator.__iter__» :=
 entryFor_alias (id' := "dict_keyiterator.__iter__") (by kernel_rfl) rfl (by decide +kernel) (by kernel_rfl)
theorem sit_args_iter (a:Value):argsOk "set_iterator.__iter__" ⟨[a],[]⟩:=by
 unfold argsOk; rw [signature?_of (id := "set_iterator.__iter__") (n:=['_','_','r','e','t','i','_','_']) (o:=['r','o','t','a','r','e','t','i','_','t','e','s']) (by kernel_rfl) sit_owner]; kernel_rfl
theorem set_entry_iter:entryFor table "set.__iter__" = some Builtin.«frozenset.__iter__» :=
 entryFor_alias (id' := "frozenset.__iter__") (by kernel_rfl) rfl (by decide +kernel) (by kernel_rfl)
noncomputable def SetIs (h:Heap) (a:Addr) (es:Array (Int × Value)) (ep:Nat) (place:Array Nat) (led:Bool):Prop :=
 ∃ o,h.get? a=some o∧o.ExactSet∧o.data = .set es ep (tab place led)
theorem SetIs.at' {h h':Heap} {a:Addr} {es:Array (Int × Value)} {ep:Nat} {place:Array Nat} {led:Bool} (S:SetIs h a es ep place led) (k:∀ o,h.get? a=some o→h'.get? a=some o):SetIs h' a es ep place led :=
 let ⟨o,ho,r⟩:=S; ⟨o,k o ho,r⟩
noncomputable def slotOf (place:Array Nat) (i:Nat):Nat:=if i=0 then 0 else place.getD (i - 1) 0+1
noncomputable def SetIterIs (h:Heap) (I a:Addr) (slot i n ep:Nat):Prop :=
 ∃ o,h.get? I=some o∧o.cls = .type "set_iterator" ∧ o.data = .fields #[.int slot 0,.int i 0,.ref a,.int n 0,.int ep 0]
theorem SetIterIs.at' {h h':Heap} {I a:Addr} {slot i n ep:Nat} (S:SetIterIs h I a slot i n ep) (k:∀ o,h.get? I=some o→h'.get? I=some o):SetIterIs h' I a slot i n ep :=
 let ⟨o,ho,r⟩:=S; ⟨o,k o ho,r⟩
theorem SetIterIs.typeIs {s:Shared} {I a:Addr} {slot i n ep:Nat} (S:SetIterIs s.heap I a slot i n ep):s.TypeIs (.ref I) "set_iterator" := let ⟨o,ho,hc,_⟩:=S; ⟨o,ho,hc⟩
theorem SetIs.typeIs {s:Shared} {a:Addr} {es:Array (Int × Value)} {ep:Nat} {place:Array Nat} {led:Bool} (S:SetIs s.heap a es ep place led):s.TypeIs (.ref a) "set" := let ⟨o,ho,hc,_⟩:=S; ⟨o,ho,hc.1⟩
theorem below_at:∀ (place:Array Nat) (i:Nat),place.size≤2→SetTable.rising place=true→place.all (· < 8)=true→i≤place.size→SetTable.below place (slotOf place i)=i:=by
 rintro ⟨l⟩ i hs hr ha hi
 match l,hs,hr,ha with
 | [],_,_,_=>cases (Nat.le_zero.mp hi); decide
 | [a],_,_,ha =>
  have:=below1 a (by simpa using ha)
  exact lt2 (p:=fun i=>SetTable.below #[a] (slotOf #[a] i)=i) (Nat.lt_succ_of_le hi) this.1 this.2
 | [a,b],_,hr,ha =>
  have ha:a<8∧b<8:=by simpa using ha
  have:=below2 a ha.1 b ha.2 (by simpa [SetTable.rising,List.range_succ] using hr)
  exact lt3 (p:=fun i=>SetTable.below #[a,b] (slotOf #[a,b] i)=i) (Nat.lt_succ_of_le hi) this.1 this.2.1 this.2.2
 | _::_::_::r,hs,_,_=>exact absurd (Nat.le_of_succ_le_succ (Nat.le_of_succ_le_succ hs)) (Nat.not_succ_le_zero _)
theorem get_erase {α:Type}:∀ (l:List α) (i:Nat) (h:i<l.length),(l[i]::l.eraseIdx i).Perm l
 | a::r,0,h=>.refl _
 | a::r,i+1,h=>by
  simp only [List.getElem_cons_succ,List.eraseIdx_cons_succ]
  exact (List.Perm.swap _ _ _).trans ((get_erase r i (by simpa using h)).cons a)
theorem pick_go {α:Type} (next:Nat→Nat):∀ (n k:Nat) (left:List α) (out:Array α),left.length=n→(pickOrder.go next n k left out).toList.Perm (out.toList++left)
 | 0,k,left,out,h=>by
  have:left=[]:=List.length_eq_zero_iff.mp h
  subst this
  simp [pickOrder.go]
 | n+1,k,left,out,h=>by
  have hlt:next k % left.length<left.length:=Nat.mod_lt _ (h▸Nat.succ_pos n)
  unfold pickOrder.go
  rw [List.getElem?_eq_getElem hlt]
  dsimp only
  refine (pick_go next n (k+1) _ _ (by rw [List.length_eraseIdx,if_pos hlt,h]; rfl)).trans ?_
  rw [Array.toList_push,List.append_assoc]
  refine List.Perm.append_left _ ?_
  exact get_erase left _ hlt
theorem pick_perm {α:Type} (next:Nat→Nat) (xs:Array α):(pickOrder next xs).toList.Perm xs.toList:=by
 have:=pick_go next xs.size 0 xs.toList #[] (by simp)
 simpa [pickOrder] using this
section
variable {prog:Program} {w:World} {A:Around} {E:Value→Shared→Prop} {s:Shared}
noncomputable def byText (w:World):Bool:=w.params.followText "set-order"
noncomputable def ordOf (w:World) (a:Addr) (ep:Nat) (es:Array (Int × Value)):Array (Int × Value):=if byText w then pickOrder (w.params.setOrder a ep) es else es
theorem ordOf_perm (a:Addr) (ep:Nat) (es:Array (Int × Value)):(ordOf w a ep es).toList.Perm es.toList:=by
 unfold ordOf; split
 ·exact pick_perm _ _
 ·exact .refl _
theorem ordOf_size (a:Addr) (ep:Nat) (es:Array (Int × Value)):(ordOf w a ep es).size=es.size:=by
 rw [← Array.length_toList,(ordOf_perm (w:=w) a ep es).length_eq,Array.length_toList]
noncomputable def slotW (w:World) (place:Array Nat) (i:Nat):Nat:=if byText w then 0 else slotOf place i
theorem tab_fits {place:Array Nat} {led:Bool} {n:Nat} (h:place.size=n) (h3:n≤2):(tab place led).fits n=true:=tab_fit h (Nat.le_trans h3 (by decide))
theorem set_next {a:Addr} {es:Array (Int × Value)} {ep i:Nat} {place:Array Nat} {Q:Option (Value × Nat)→Shared→Prop} (S:SetIs s.heap a es ep place (!byText w))
  (hsz:place.size=es.size) (h3:es.size≤2) (hr:SetTable.rising place=true) (ha:place.all (· < 8)=true) (hi:i≤es.size)
  (h:Q (((ordOf w a ep es)[i]?).map fun e=>(e.2,slotW w place (i+1))) s) :
  wpAny (model prog w) A (setNext a (slotW w place i) i ep) Q E s:=by
 obtain ⟨o,ho,hex,hd⟩:=S
 have hf:=tab_fits (led:=!byText w) hsz h3
 unfold setNext
 refine wpAny_bind (wpAny_setState_of ho hd hf ?_)
 dsimp only
 unfold setsByText
 refine wpAny_bind (wpAny_bind (wpAny_askSetting (wpAny_pure ?_)))
 show wpAny _ _ (if byText w=true then _ else _) _ _ _
 cases hb:byText w with
 | true =>
  rw [if_pos rfl]
  simp only [bne_self_eq_false,Bool.false_eq_true,if_false]
  unfold setWalk
  refine wpAny_bind (wpAny_bind (wpAny_setState_of ho hd hf ?_))
  dsimp only
  unfold setsByText
  refine wpAny_bind (wpAny_bind (wpAny_askSetting (wpAny_pure ?_)))
  show wpAny _ _ (if byText w=true then _ else _) _ _ _
  rw [hb,if_pos rfl]
  refine wpAny_bind (wpAny_askSetting (wpAny_pure (wpAny_pure ?_)))
  simp only [ordOf,slotW,hb,if_true] at h ⊢
  exact h
 | false =>
  rw [if_neg Bool.false_ne_true]
  show wpAny _ _ (pure _) _ _ _
  have hs:slotW w place i=slotOf place i:=by simp [slotW,hb]
  have hs1:slotW w place (i+1)=place.getD i 0+1:=by simp [slotW,hb,slotOf]
  rw [hs1] at h
  rw [hs,show (tab place (!false)).place=place from rfl,below_at place i (hsz▸h3) hr ha (hsz▸hi)]
  refine wpAny_pure ?_
  have ho:ordOf w a ep es=es:=by simp [ordOf,hb]
  rw [ho] at h
  by_cases hlt:i<es.size
  ·have hlp:i<place.size:=hsz▸hlt
   simp only [Array.getElem?_eq_getElem hlt,Array.getElem?_eq_getElem hlp,Option.map_some,Array.getD_eq_getD_getElem?,Option.getD_some] at h ⊢
   exact h
  ·rw [Array.getElem?_eq_none (Nat.le_of_not_lt hlt)] at h ⊢
   exact h
end
section
variable {prog:Program} {w:World} {A:Around} {E:Value→Shared→Prop} {s:Shared}
variable {a I:Addr} {es:Array (Int × Value)} {ep i:Nat} {place:Array Nat}
theorem wp_neg {M:Model} {α:Type} {c:Prop} [Decidable c] {t e:Sem α} {Q:α→Shared→Prop} (h:¬ c) (k:wpAny M A e Q E s):wpAny M A (if c then t else e) Q E s:=by rw [if_neg h]; exact k
theorem size_bne (n:Nat):¬ (((n:Nat):Int) != (n:Int))=true:=by rw [bne_self_eq_false]; exact Bool.false_ne_true
theorem sit_item {Q:Option Value→Shared→Prop} {x:Int × Value} (T:SetIterIs s.heap I a (slotW w place i) i es.size ep) (S:SetIs s.heap a es ep place (!byText w))
  (hsz:place.size=es.size) (h3:es.size≤2) (hr:SetTable.rising place=true) (ha:place.all (· < 8)=true) (hx:(ordOf w a ep es)[i]? = some x)
  (h:∀ h',SetIterIs h' I a (slotW w place (i+1)) (i+1) es.size ep→Heap.SameBut I s.heap h'→Q (some x.2) { s with heap:=h' }) :
  wpAny (model prog w) A (pyNext (.ref I)) Q E s:=by
 have hlt:i<es.size:=by
  have:=(Array.getElem?_eq_some_iff.mp hx).1; rw [ordOf_size] at this; exact this
 obtain ⟨oI,hoI,hcI,hdI⟩:=id T
 obtain ⟨oS,hoS,hexS,hdS⟩:=id S
 unfold pyNext
 refine wpAny_bind (wpAny_attempt (wpAny_callSpecial?_slot (name:=Str.ofString "__next__") T.typeIs sit_slot_next
  (wpAny_call_entry sit_slot_next T.typeIs sit_entry_next ?_ (sit_args_next _))))
 refine wpAny_bind (wpAny_pure (a:=(Value.ref I,([]:List Value))) ?_)
 refine wpAny_bind (wpAny_fieldsOf hoI hdI ?_)
 refine wpAny_bind (wpAny_setEntries_of hoS hdS (tab_fits hsz h3) ?_)
 refine wp_neg (size_bne es.size) ?_
 refine wpAny_bind (set_next (i:=i) (ep:=ep) S hsz h3 hr ha (Nat.le_of_lt hlt) ?_)
 rw [hx]
 dsimp only [Option.map_some]
 refine wpAny_bind (wpAny_setField hoI hdI (by simp) ?_)
 have ho1:=Heap.get?_update_self (Obj.mapFields (·.setIfInBounds 0 (rawInt (slotW w place (i+1))))) hoI (Obj.isFreed_of_fields (Obj.data_mapFields hdI _))
 have hd1:(Obj.mapFields (·.setIfInBounds 0 (rawInt (slotW w place (i+1)))) oI).data=_:=Obj.data_mapFields hdI _
 refine wpAny_bind (wpAny_setField ho1 hd1 (by simp) ?_)
 refine wpAny_pure ⟨x.2,rfl,wpAny_pure (h _ ?_ ((Heap.SameBut.update ..).trans (Heap.SameBut.update ..)))⟩
 refine ⟨_,Heap.get?_update_self _ ho1 (Obj.isFreed_of_fields (Obj.data_mapFields hd1 _)),(Obj.cls_mapFields ..).trans ((Obj.cls_mapFields ..).trans hcI),?_⟩
 rw [Obj.data_mapFields hd1]
 simp [rawInt]
theorem sit_done {Q:Option Value→Shared→Prop} (hh:A.handled=none) (T:SetIterIs s.heap I a (slotW w place es.size) es.size es.size ep) (S:SetIs s.heap a es ep place (!byText w))
  (hsz:place.size=es.size) (h3:es.size≤2) (hr:SetTable.rising place=true) (ha:place.all (· < 8)=true)
  (h:∀ h',Heap.ExtBut I s.heap h'→Q none { s with heap:=h' }) :
  wpAny (model prog w) A (pyNext (.ref I)) Q E s:=by
 obtain ⟨oI,hoI,hcI,hdI⟩:=id T
 obtain ⟨oS,hoS,hexS,hdS⟩:=id S
 unfold pyNext
 refine wpAny_bind (wpAny_attempt (wpAny_callSpecial?_slot (name:=Str.ofString "__next__") T.typeIs sit_slot_next
  (wpAny_call_entry sit_slot_next T.typeIs sit_entry_next ?_ (sit_args_next _))))
 refine wpAny_bind (wpAny_pure (a:=(Value.ref I,([]:List Value))) ?_)
 refine wpAny_bind (wpAny_fieldsOf hoI hdI ?_)
 refine wpAny_bind (wpAny_setEntries_of hoS hdS (tab_fits hsz h3) ?_)
 refine wp_neg (size_bne es.size) ?_
 refine wpAny_bind (set_next (i:=es.size) (ep:=ep) S hsz h3 hr ha (Nat.le_refl _) ?_)
 rw [Array.getElem?_eq_none (by rw [ordOf_size]; exact Nat.le_refl _)]
 dsimp only [Option.map_none]
 refine wpAny_bind (wpAny_setField hoI hdI (by simp) ?_)
 show wpAny _ _ (newExc (.type "StopIteration") [] >>= _) _ _ _
 refine wpAny_bind ?_
 simp only [newExc,newTuple]
 refine wpAny_bind (wpAny_newObj_type ?_ (by size_fits))
 refine wpAny_bind (m:=firstArgMember _ _) (wpAny_of_eq (a:=Value.none) (by first | rfl | (simp only [firstArgMember]; rfl)) ?_)
 refine wpAny_newObj_type ?_ (by size_fits)
 refine wpAny_bind (wpAny_handled ?_)
 rw [show A.in1.handled=none from hh]
 refine wpAny_bind (wpAny_pure (wpAny_throw ?_))
 refine wpAny_bind (wpAny_isInstance (T := "StopIteration") (b:=true) ⟨_,Heap.get?_push_size _ rfl,rfl⟩ isSubtype_stop ?_)
 exact wpAny_pure (h _ (((Heap.SameBut.update ..).extBut.push _).push _))
theorem sit_self {slot n:Nat} {Q:Value→Shared→Prop} (T:SetIterIs s.heap I a slot i n ep) (h:Q (.ref I) s):wpAny (model prog w) A (pyIter (.ref I)) Q E s:=by
 refine wpAny_pyIter_slot T.typeIs sit_slot_iter (wpAny_call_entry sit_slot_iter T.typeIs sit_entry_iter ?_ (sit_args_iter _))
 show wpAny _ _ (ret (.ref I)) _ _ s
 exact wpAny_pure ⟨_,rfl, "set_iterator", _,T.typeIs,sit_slot_next.lookup,h⟩
theorem set_iter {Q:Value→Shared→Prop} (S:SetIs s.heap a es ep place (!byText w)) (hsz:place.size=es.size) (h3:es.size≤2)
  (h:Q (.ref s.heap.objs.size) { s with heap:=s.heap.push { cls:=.type "set_iterator", data:=.fields #[.int 0 0,.int 0 0,.ref a,.int es.size 0,.int ep 0] } }):wpAny (model prog w) A (pyIter (.ref a)) Q E s:=by
 obtain ⟨oS,hoS,hexS,hdS⟩:=id S
 refine wpAny_pyIter_slot S.typeIs PySem.F.slot_set_iter (wpAny_call_entry PySem.F.slot_set_iter S.typeIs set_entry_iter ?_ (PySem.F.args_set_iter_1 _))
 refine wpAny_bind (wpAny_pure (a:=a) ?_)
 refine wpAny_bind (wpAny_bind (wpAny_setEntries_of hoS hdS (tab_fits hsz h3) (wpAny_pure ?_)))
 refine wpAny_bind (wpAny_bind (wpAny_setState_of hoS hdS (tab_fits hsz h3) ?_))
 refine wpAny_bind (wpAny_bind (wpAny_askSetting (wpAny_pure (wpAny_pure ?_))))
 show wpAny _ _ (if (!byText w&&false)=true then _ else _) _ _ _
 rw [Bool.and_false,if_neg Bool.false_ne_true]
 refine wpAny_bind (wpAny_pure ?_)
 refine wpAny_bind (wpAny_bind (wpAny_setState_of hoS hdS (tab_fits hsz h3) (wpAny_pure ?_)))
 refine wpAny_bind (wpAny_newObj_type (wpAny_pure ⟨_,rfl, "set_iterator", _,⟨_,Heap.get?_push_size _ rfl,rfl⟩,sit_slot_next.lookup,h⟩))
theorem set_hint {r:Addr} {Q:Bool→Shared→Prop} (hT:s.TypeIs (.ref r) "set") (h:Q false s):wpAny (model prog w) A (Builtin.List.listLengthHint (.ref r)) Q E s:=by
 unfold Builtin.List.listLengthHint
 refine wpAny_bind (wpAny_specialOf hT PySem.F.slot_set_len.lookup ?_)
 generalize hid:("set.__len__" : String)=id0
 wp_delta
 rw [show splitId id0=some ("set", "__len__") from by subst hid; decide +kernel]
 subst hid
 refine wpAny_bind (wpAny_isInstance (T := "set") (b:=true) hT (by rw [isSubtype_type]; kernel_rfl) ?_)
 refine wpAny_ite_split (fun hab=>absurd hab (by decide)) (fun _=>?_)
 refine wpAny_ite_split (fun _=>?_) (fun hab=>absurd (by decide +kernel) hab)
 refine wpAny_bind (wpAny_typeOf hT ?_)
 exact wpAny_pure h
theorem SetIs.lt {h:Heap} {led:Bool} (S:SetIs h a es ep place led):a<h.objs.size:=let ⟨_,ho,_⟩:=S; Heap.lt_size ho
theorem set_src (hsz:place.size=es.size) (h3:es.size≤2) (hr:SetTable.rising place=true) (ha:place.all (· < 8)=true) :
  KdlSrc prog w "set" a a es.size (fun i v=>∃ x,(ordOf w a ep es)[i]? = some x∧v=x.2) (fun h=>SetIs h a es ep place (!byText w)) where
 type:=fun _ S=>S.typeIs
 there:=fun _ S=>⟨S.lt,S.lt⟩
 keep:=fun _ _ S hk=>S.at' fun o e=>hk a (.inl rfl) o e
 notList:=by decide
 notTuple:=by decide
 hint:=fun _ _ _ _ S hq=>set_hint S.typeIs hq
 iter:=fun A s hh S=>by
  have hne:a ≠ s.heap.objs.size:=Nat.ne_of_lt S.lt
  refine ⟨_,fun i h=>SetIterIs h s.heap.objs.size a (slotW w place i) i es.size ep∧SetIs h a es ep place (!byText w)∧i≤es.size,fun _ _ hq=>set_iter S hsz h3 hq,?_,⟨_,Heap.get?_push_size _ rfl,rfl,?_⟩,S.at' fun o e=>Heap.get?_push_of_some _ e,Nat.zero_le _⟩
  ·exact {
    sub:=fun b hb=>by simp at hb; simp [hb]
    frame:=fun _ _ _ st hk=>⟨st.1.at' fun o e=>hk _ (by simp) o e,st.2.1.at' fun o e=>hk a (by simp) o e,st.2.2⟩
    item:=fun i s' Q E hi st hQ=>by
     obtain ⟨x,hx⟩:∃ x,(ordOf w a ep es)[i]? = some x:=⟨_,Array.getElem?_eq_getElem (by rw [ordOf_size]; exact hi)⟩
     refine sit_item st.1 st.2.1 hsz h3 hr ha hx fun h' T' hs=>hQ _ h' s'.toks ⟨x,hx,rfl⟩ ⟨T',st.2.1.at' fun o e=>hs.extBut a o hne e,hi⟩ fun b o hb e=>hs.extBut b o (fun q=>hb (by simp [q])) e
    done:=fun s' Q E st hQ=>sit_done hh st.1 st.2.1 hsz h3 hr ha fun h' he=>hQ h' s'.toks fun b o hb e=>he b o (fun q=>hb (by simp [q])) e
    self:=fun _ _ _ _ st hQ=>sit_self st.1 hQ }
  ·have:slotW w place 0=0:=by unfold slotW slotOf; split <;> rfl
   rw [this]; rfl
end
section
variable {prog:Program} {w:World} {A:Around} {E:Value→Shared→Prop} {s:Shared}
theorem sorted_src {T:String} {r d:Addr} {n:Nat} {P:Nat→Value→Prop} {OK:Heap→Prop} {Q:Value→Shared→Prop} {C:List Int→Prop} (K:KdlSrc prog w T r d n P OK) (hh:A.handled=none) (hok:OK s.heap) (hn:n<64)
  (hI:∀ acc:Array Value,ItemsOf P acc n→∃ ns,IntsAre acc.toList ns∧C ns)
  (h:∀ (h':Heap) (tk:Nat) (D:Addr) (out:Array Value) (ns ns':List Int) (e:Nat),(∀ b o,s.heap.get? b=some o→h'.get? b=some o)→¬ Lv s.heap D→h'.get? D=some (seqObj "list" out e)→IntsAre out.toList ns'→ns'.Perm ns→C ns→ns'.Pairwise (· ≤ ·) →
   Q (.ref D) { s with heap:=h',toks:=tk }) :
  wpAny (model prog w) A (call (.builtin "sorted") [.ref r]) Q E s:=by
 refine call_function_entry kind_sorted plain_sorted entry_sorted (args_sorted1 _) ?_
 unfold Builtin.«sorted»
 refine wpAny_bind (m:=checkCount "sorted" 1 1 _) (wpAny_pure ?_)
 refine wpAny_bind (kdu_collect (A:=A.in1) K hh hok (by rw [sizeLine_eq]; exact Nat.le_trans (Nat.le_of_lt hn) (by decide)) fun h' tk acc hk hacc=>?_)
 have hl:acc.toList.length=n:=by rw [Array.length_toList]; exact hacc.1
 refine wpAny_bind (wpAny_newList ?_ (by rw [hl,sizeLine_eq]; exact Nat.le_trans (Nat.le_of_lt hn) (by decide)))
 obtain ⟨ns,hns,hC⟩:=hI acc hacc
 have hoL:(h'.push (seqObj "list" acc.toList.toArray 0)).get? h'.objs.size=some (seqObj "list" acc.toList.toArray 0):=Heap.get?_push_size _ rfl
 have hD:¬ Lv s.heap h'.objs.size:=fun ⟨o,e⟩=>Nat.lt_irrefl _ (Heap.lt_size (hk _ _ e))
 show wpAny _ _ _ _ _ { s with heap:=h'.push (seqObj "list" acc.toList.toArray 0),toks:=tk }
 refine wpAny_bind (wpAny_holding (wpAny_call_entry slot_list_sort ⟨_,hoL,rfl⟩ entry_list_sort (list_sort_tree hoL hns (hl▸hn) fun out ns' a1 a2 a3=>⟨_,rfl,?_⟩) (args_list_sort _)))
 obtain ⟨e,he⟩:=sortedHeap_at (vs:=acc.toList) (out:=out) hoL
 refine wpAny_pure ⟨_,rfl,h _ tk _ out ns ns' e (fun b o q=>?_) hD he a1 a2 hC a3⟩
 have hb:b ≠ h'.objs.size:=Nat.ne_of_lt (Heap.lt_size (hk _ _ q))
 exact sortedHeap_new hb (Heap.get?_push_of_some _ (hk _ _ q))
inductive IncS:List Int→Prop
 | nil:IncS []
 | one (a:Int):IncS [a]
 | two (a b:Int) (h:a<b):IncS [a,b]
theorem incI_of {l:List Int} (h:incI l=true):IncS l:=by
 cases l with
 | nil=>exact .nil
 | cons a r=>cases r with
  | nil=>exact .one a
  | cons b t=>cases t with
   | nil=>exact .two a b (of_decide_eq_true (and_true2 h).1)
   | cons c t=>cases (and_true2 h).2
theorem IncS.len {l:List Int} (h:IncS l):l.length≤2:=by
 cases h with
 | nil=>exact Nat.zero_le _
 | one a=>exact Nat.le_succ _
 | two a b h=>exact Nat.le_refl _
theorem IncS.sorted {l:List Int} (h:IncS l):l.Pairwise (· ≤ ·):=by
 cases h with
 | nil=>exact .nil
 | one a=>exact .cons (fun x hx=>nomatch hx) .nil
 | two a b h=>exact .cons (fun x hx=>List.mem_singleton.mp hx▸Int.le_of_lt h) (.cons (fun x hx=>nomatch hx) .nil)
theorem IncS.first {l:List Int} (h:IncS l):l.foldl step_dedup []=l:=by
 cases h with
 | nil=>rfl
 | one a=>rfl
 | two a b h =>
  show (if ([a]:List Int).any (· == b)=true then [a] else [a]++[b])=[a,b]
  rw [if_neg]; rfl
  show ¬ ((a == b)||false)=true
  rw [beq_false_of_ne (Int.ne_of_lt h)]; exact Bool.false_ne_true
theorem firstMet_list (l:List Int) (val:Nat→Int) (h:∀ i,i<l.length→l[i]? = some (val i)):firstMet val l.length=l.foldl step_dedup []:=by
 unfold firstMet
 congr 1
 refine List.ext_getElem (by simp) fun i h1 h2=>?_
 have:=h i h2
 rw [List.getElem?_eq_getElem h2] at this
 simp only [List.getElem_map,List.getElem_range]
 exact (Option.some.inj this).symm
theorem ElI.ints:∀ {es:List (Int × Value)} {l:List Int},ElI es l→IntsAre (es.map (·.2)) l
 | [],[],_=>.nil
 | e::r,k::l,h=>by
  obtain ⟨_,⟨t,e2⟩,h3⟩:=h
  rw [List.map_cons,e2]
  exact .cons _ _ (ElI.ints h3)
 | [],_::_,h=>h.elim
 | _::_,[],h=>h.elim
theorem ints_perm {es es':List (Int × Value)} {l:List Int} (p:es'.Perm es) (h:ElI es l):∃ l',ElI es' l'∧l'.Perm l:=by
 induction p generalizing l with
 | nil=>exact ⟨l,h,.refl _⟩
 | cons x _ ih =>
  cases l with
  | nil=>exact h.elim
  | cons k l =>
   obtain ⟨l',h1,h2⟩:=ih h.2.2
   exact ⟨k::l',⟨h.1,h.2.1,h1⟩,h2.cons k⟩
 | swap x y r =>
  match l,h with
  | k::m::l,h=>exact ⟨m::k::l,⟨h.2.2.1,h.2.2.2.1,h.1,h.2.1,h.2.2.2.2⟩,.swap _ _ _⟩
  | [],h=>exact h.elim
  | [_],h=>exact h.2.2.elim
 | trans _ _ ih1 ih2 =>
  obtain ⟨l1,a1,a2⟩:=ih2 h
  obtain ⟨l2,b1,b2⟩:=ih1 a1
  exact ⟨l2,b1,b2.trans a2⟩
end
theorem set_spec (g:Glb):SetSpec g:=by
 intro A s Z bs ρ σ σ' E va v r Q hh hu R ra e K
 obtain ⟨l,hl0,ea⟩:=opt_some (o:=lstOf σ v) (k:=fun l=>ob (setInts l) fun is=>some (AV.pv (.lst (intsAV is)),σ)) e
 obtain ⟨hv,hl⟩:=lstOf_some hl0
 obtain ⟨is',hset,eb⟩:=opt_some ea
 obtain ⟨is,his,ec⟩:=opt_some hset
 obtain ⟨hc,ed⟩:=ite_some ec
 obtain rfl:=Option.some.inj ed
 have hc:=and_true2 hc
 have hinc:=incI_of hc.1
 have h3:=hinc.len
 have hsm:=hc.2
 obtain ⟨rfl,rfl⟩:=ret_same eb
 obtain ⟨a,vs,rfl,rs,hL⟩:=items_list R ra hl hv
 have hI:=RAs_intsAre rs his
 have hlen:vs.length=is.length:=hI.length
 have hsm':∀ i,i<is.length→0≤is.getD i 0∧is.getD i 0<32:=fun i hi=>by
  have:=List.all_eq_true.mp hsm (is[i]) (List.getElem_mem hi)
  simp only [Bool.and_eq_true,decide_eq_true_eq] at this
  rw [show is.getD i 0=is[i] by simp [hi]]
  exact this
 refine set_of_ints (val:=fun i=>(is.getD i 0).toNat) hh hL (fun i v hi hv=>?_) (fun i hi=>?_) (by simpa [hlen] using h3) fun h' tk l' S hp hk=>?_
 ·obtain ⟨t,et⟩:=IntsAre.int_at hI i v (by simpa using hv)
  refine ⟨t,?_⟩
  rw [et,Int.toNat_of_nonneg (hsm' i (by simpa [hlen] using hi)).1]
 ·exact (Int.toNat_lt (hsm' i (by simpa [hlen] using hi)).1).mpr (hsm' i (by simpa [hlen] using hi)).2
 have hp2:l'.Perm is:=by
  rw [show vs.toArray.size=is.length from hlen,firstMet_list is _ (fun i hi=>by rw [Int.toNat_of_nonneg (hsm' i hi).1]; simp [hi]),hinc.first] at hp
  exact hp
 obtain ⟨o,es,ep,place,ho,hex,hd,hel,hsz,hes3,hr,ha⟩:=S
 have hSI:SetIs h' s.heap.objs.size es ep place (!byText g.w):=⟨o,ho,hex,hd⟩
 have keep:∀ b ob,s.heap.get? b=some ob→h'.get? b=some ob:=fun b ob q=>hk b ob (Heap.lt_size q) q
 refine sorted_src (s:={ s with heap:=h',toks:=tk }) (C:=fun ns=>ns.Perm is) (set_src (prog:=g.prog) (w:=g.w) hsz hes3 hr ha) hh hSI (Nat.lt_of_le_of_lt hes3 (by decide)) (fun acc hacc=>?_) fun h'' tk' D out ns ns' e hk2 hD he a1 a2 a3 a4=>?_
 ·obtain ⟨l2,b1,b2⟩:=ints_perm (ordOf_perm (w:=g.w) s.heap.objs.size ep es) hel
  refine ⟨l2,?_,b2.trans hp2⟩
  have:acc.toList=(ordOf g.w s.heap.objs.size ep es).toList.map (·.2):=by
   refine List.ext_getElem? fun i=>?_
   rw [List.getElem?_map,Array.getElem?_toList,Array.getElem?_toList]
   by_cases hi:i<acc.size
   ·obtain ⟨x,q1,q2⟩:=hacc.2 i _ (Array.getElem?_eq_getElem hi)
    rw [Array.getElem?_eq_getElem hi,q1,q2]; rfl
   ·rw [Array.getElem?_eq_none (Nat.le_of_not_lt hi),Array.getElem?_eq_none (by rw [ordOf_size,← hacc.1]; exact Nat.le_of_not_lt hi)]; rfl
  rw [this]
  exact b1.ints
 ·obtain rfl:=ksm_same (a2.trans a3) a4 hinc.sorted
  have hkk:∀ b o,s.heap.get? b=some o→h''.get? b=some o:=fun b o q=>hk2 b o (keep b o q)
  have hD':¬ Lv s.heap D:=fun ⟨o,q⟩=>hD ⟨o,keep _ _ q⟩
  refine K.grown R _ hkk (.pv (.lst (R.notFootNew hD') (vs:=out.toList) ⟨_,by simpa using he,rfl,_,rfl⟩ ?_))
  have:∀ {vs:List Value} {ns:List Int},IntsAre vs ns→RPs (Fz Z ρ σ) h'' vs (intsAV ns):=by
   intro vs ns hI
   induction hI with
   | nil=>exact .nil
   | cons n t _ ih=>exact .cons (.int _ _) ih
  exact this a1
inductive SupBod (D:FuncData) (slf n:Str):Prop
 | mk (p0 p1 p2 p3 p4 p5 p6 p7 p8:Pos) (k:Nat) (h:D.body = .stmts [.Expr (.Call (.Attribute (.Call (.Name "super" p0) [] [] p1) "__init__" p2) [] [] p3) p4,.Assign [.Attribute (.Name slf p5) n p6] (.Constant .none k p7) p8]) (hl:(p2.endLine == p3.line)=true)
inductive SupFile (g:Glb) (cda:Addr):Prop
 | mk (oc:Obj) (vs:Array Value) (file:Str) (tf:Tok) (h1:g.K.lookup cda=some oc) (h2:oc.data = .fields vs) (h3:vs[2]? = some (.str file tf)) (h4:((g.prog.main.file:Str) == file)=true)
structure SuperOk (g:Glb) (f c fb m:Nat) (D:FuncData) (cc DD cda:Addr) (slf n:Str):Prop where
 at_:∃ o,g.K.lookup (g.fa f)=some o∧o.data = .func D
 bod:SupBod D slf n
 clo:D.closure=[(("__class__" : Str),cc)]
 code:codeIn g.K D.code D.qualname=true
 cdaE:D.code = .ref cda
 file:SupFile g cda
 par:∃ a:Arg,a.arg=slf∧D.params=plainParams [a]∧D.defaults = .none
 cell:∃ o,g.K.lookup cc=some o∧o.data = .cell (some (.ref DD))
 cls:∃ cdD,clsIn g.K DD=some cdD
 sub:mroIn g.K (g.cls c) (.ref DD)=some true
 find:ks_superIn g.K (g.cls c) DD "__init__" = some (some (.ref (g.fa fb)))
 fn:fnIn g.K (g.fa fb)=true
 fty:typeIn g.K (.ref (g.fa fb))=some (.type "function")
 glob:D.globals=mainGlobals
 blt:D.builtins=builtinsNs
 kind:D.scope.kind = .function
 cor:D.scope.isCoroutine=false
 gen:D.scope.isGenerator=false
 nocell:∀ x ∈ D.scope.names,x.2 ≠ .cell
 kS:D.scope.names.lookup ("super" : Str)=some .globalImplicit
 kC:D.scope.names.lookup ("__class__" : Str)=some .free
 kX:D.scope.names.lookup slf=some .local
 top:(g.prog.main.scope.names.lookup ("super" : Str)).isSome=false
 noS:nsIn g.K mainGlobals "super" = some none
 opq:nsIn g.K cStatics "thirdparty.any" = some none
 nmm:g.nm[m]? = some n
 dat:m ∈ g.dat
 hfb:fb<g.P.fns.length
 nd:(slf == ("__debug__" : Str))=false
theorem cls_at {K:Frag} {h:Heap} (X:K.In h) {D:Addr} {cd:ClassData} (e:clsIn K D=some cd):∃ o,h.get? D=some o∧o.data = .cls cd:=by
 unfold clsIn at e
 split at e
 ·rename_i c d cd' sl ho
  cases e
  exact ⟨_,X _ _ ho,rfl⟩
 ·cases e
inductive SupEv (P:Prog) (d c fb x3 m:Nat) (vs:List AV) (σ:St) (r:AV) (σ':St):Prop
 | mk (i:Nat) (as:List (Nat × AV)) (rv:AV) (σ2:St) (c2:Nat) (as2:List (Nat × AV)) (h0:vs=[.ref i]) (hi:σ.heap[i]? = some (.inst c as)) (h3:callFn P d fb [.ref i] σ=some (rv,σ2)) (hi2:σ2.heap[i]? = some (.inst c2 as2)) (hc:as2.length<900) (hr:r = .pv .none)
  (hs:σ' = { σ2.set i (.inst c2 (putA m (.pv .none) as2)) with strict:=σ.strict })
theorem get_self (x:Nat) (v:AV):Env.get [(x,v)] x=some v:=by show (bif x == x then some v else none)=some v; rw [beq_self_eq_true]; rfl
inductive SupE1 (C:Ctx) (c fb:Nat) (v:AV) (Γ:Env) (σ:St) (r:Flow × Env) (σ1:St):Prop
 | mk (i:Nat) (as:List (Nat × AV)) (rv:AV) (h0:v = .ref i) (hi:σ.heap[i]? = some (.inst c as)) (h3:C.call fb [.ref i] σ=some (rv,σ1)) (hr:r=(.next,Γ))
theorem sup_ev1 {C:Ctx} {c fb x:Nat} {v:AV} {σ:St} {r:(Flow × Env) × St} (e:evS C (.superInit c fb x) [(x,v)] σ=some r):SupE1 C c fb v [(x,v)] σ r.1 r.2:=by
 obtain ⟨w,hw,ha⟩:=opt_some e
 obtain ⟨i,hv,hb2⟩:=onRef_some ha
 obtain ⟨o,hi,hc⟩:=opt_some hb2
 obtain ⟨c',as,ho,hd⟩:=onInst_some hc
 obtain ⟨hcc,he2⟩:=ite_some hd
 obtain ⟨rv,σ2,h3,h4⟩:=bnd_some he2
 have q:=Option.some.inj h4
 exact ⟨i,as,rv,(Option.some.inj ((get_self x v).symm.trans hw)).trans hv,hi.trans (congrArg some (ho.trans (congrArg (AObj.inst · as) hcc))),h3.trans (congrArg some (congrArg (Prod.mk rv) (congrArg Prod.snd q))),(congrArg Prod.fst q).symm⟩
inductive SupE2 (m i:Nat) (σ:St) (Γ:Env) (r:(Flow × Env) × St):Prop
 | mk (c2:Nat) (as2:List (Nat × AV)) (hi2:σ.heap[i]? = some (.inst c2 as2)) (hc:as2.length<900) (hr:r=((.next,Γ),σ.set i (.inst c2 (putA m (.pv .none) as2))))
theorem sup_ev2 {C:Ctx} {m x i:Nat} {σ:St} {r:(Flow × Env) × St} (e:evS C (.setAttr (.var x) m .none) [(x,.ref i)] σ=some r):SupE2 m i σ [(x,.ref i)] r:=by
 obtain ⟨o3,σ5,h52,h53⟩:=bnd_some e
 obtain ⟨y,hy,hz⟩:=lift_some h52
 have q:=Prod.mk.inj hz
 rw [show o3 = .ref i from q.1.trans (Option.some.inj ((get_self x (.ref i)).symm.trans hy)).symm,q.2] at h53
 obtain ⟨o2,hi2,h7⟩:=opt_some h53
 obtain ⟨c2,as2,ho,h8⟩:=onInst_some h7
 obtain ⟨hcond,h9⟩:=ite_some h8
 exact ⟨c2,as2,hi2.trans (congrArg some ho),of_decide_eq_true (and_true2 hcond).2,(Option.some.inj h9).symm⟩
theorem sup_ev {P:Prog} {d f c fb m x3:Nat} {fd:Fn} {vs:List AV} {σ σ':St} {r:AV} (hfd:P.fns[f]? = some fd) (hb:fd.body = .cons (.superInit c fb x3) (.cons (.setAttr (.var x3) m .none) .nil)) (hp:fd.params=[x3]) (ht:fd.trim=false) (e:callFn P (d+1) f vs σ=some (r,σ')):SupEv P d c fb x3 m vs σ r σ':=by
 obtain ⟨fl,Γ',s',hlen,he,hn,_⟩:=callFn_some hfd e
 obtain ⟨hr,hσ⟩:=hn ht
 rw [hp] at hlen he
 rw [hb,ht,Bool.or_false] at he
 cases vs with
 | nil=>cases hlen
 | cons v vs=>cases vs with
  | cons w vs=>exact absurd (show 1=vs.length+2 from hlen) (fun e=>nomatch e)
  | nil =>
   obtain ⟨fl1,σ1,h1,h2⟩:=bnd_some he
   obtain ⟨i,as,rv,h0,hi,h3,hq⟩:=sup_ev1 h1
   rw [show fl1=_ from hq,h0] at h2
   obtain ⟨fl2,σ3,h5,h6⟩:=bnd_some (x:=evS (ctxOf P (callFn P d)) (.setAttr (.var x3) m .none) [(x3,.ref i)] σ1) h2
   obtain ⟨c2,as2,hi2,hc,hr2⟩:=sup_ev2 h5
   rw [show fl2=_ from congrArg Prod.fst hr2] at h6
   have q:=Option.some.inj h6
   rw [show σ3=_ from congrArg Prod.snd hr2] at q
   refine ⟨i,as,rv,σ1,c2,as2,congrArg (fun v=>[v]) h0,hi,h3,hi2,hc,hr.trans (congrArg (fun p=>Mine.Flow.val p.1.1) q.symm),hσ.trans (congrArg (fun p:(Flow × Env) × St=>({ p.2 with strict:=σ.strict }:St)) q.symm)⟩
theorem super_call {g:Glb} (G:GOk g) {f c fb m x3:Nat} {fd:Fn} {D:FuncData} {cc DD cda:Addr} {slf n:Str} (hfd:g.P.fns[f]? = some fd) (hb:fd.body = .cons (.superInit c fb x3) (.cons (.setAttr (.var x3) m .none) .nil)) (hp:fd.params=[x3]) (ht:fd.trim=false)
  (S:SuperOk g f c fb m D cc DD cda slf n) (d:Nat) (HC:CallsOk g d (callFn g.P d)):CallOk g (d+1) f (callFn g.P (d+1) f):=by
 intro vs σ σ' r e A s Z bs ρ E Q vals Rm Rl ra k
 obtain ⟨i,as,rv,σ2,c2,as2,rfl,hi,h3,hi2,hcond,rfl,rfl⟩:=sup_ev hfd hb hp ht e
 obtain ⟨val,rfl,ra0⟩:=ra.one_
 obtain ⟨of,hK,hD⟩:=S.at_
 have kin:∀ {h:Heap},(∀ b o,s.heap.get? b=some o→h.get? b=some o)→g.K.In h:=fun kp a o e=>kp _ _ (Rl.keep a o (G.kin a o e))
 have kin0:g.K.In s.heap:=kin fun _ _ e=>e
 obtain ⟨p0,p1,p2,p3,p4,p5,p6,p7,p8,kc,hbod,hline⟩:=S.bod
 obtain ⟨ar,har,hpar,hdf⟩:=S.par
 have hbind:bindArgs D ⟨[val],[]⟩=pure [(slf,val)]:=by
  have:=bindArgs_plain D [ar] [val] hpar hdf (by simp) rfl
  rw [this]; simp [har]
 refine ks_codeAny_call_defAt (o:=of) (fd:=D) (binds:=[(slf,val)]) Rm.now (kin0 _ _ hK) hD (G.nolimit.keeps Rl.keep) (codeRec_of kin0 S.code) hbod (BindsTo.of_eq hbind) S.nocell (fun y hy=>?_) (fun h₁ hns hk₁=>?_) S.cor S.gen S.kind
 ·have:y=(slf,val):=by simpa using hy
  rw [this]; exact S.kX
 generalize henv:callEnv D s.heap.objs.size (g.fa f)=env
 have hsc:env.scope=D.scope:=by rw [← henv]; rfl
 have hkind:env.scope.kind = .function:=by rw [hsc]; exact S.kind
 have hkof:∀ y,env.kindOf y=D.scope.names.lookup y:=fun y=>by unfold PySem.Env.kindOf; rw [hsc]
 have hglob:env.globals=mainGlobals:=by rw [← henv]; exact S.glob
 have hblt:env.builtins=builtinsNs:=by rw [← henv]; exact S.blt
 have hcells:env.cells=[(("__class__" : Str),cc)]:=by rw [← henv]; exact S.clo
 have hloc:env.locals=s.heap.objs.size:=by rw [← henv]; rfl
 have hself:([(slf,val)]:List (Str × Value)).reverse.lookup slf=some val:=by simp [List.lookup_cons]
 have X1:g.K.In h₁:=kin hk₁
 have P1:Post NoX ρ σ s ρ σ { s with heap:=h₁,toks:=s.toks+1 }:=Post.grow hk₁ rfl rfl
 have ra1:RA ρ (Fz Z ρ σ) h₁ val (.ref i):=RA.post (X:=NoX) (s':={ s with heap:=h₁,toks:=s.toks+1 }) ra0 P1 fun _ h=>False.elim h
 have R1:Rel g Z bs ρ σ h₁:=Rl.grow hk₁
 have ra1':=ra1
 obtain ⟨a,l,rfl,qa⟩:=ra1.ref_
 obtain ⟨dx,sl,es',n',rfl,g1,g2,r1,hlen',hcc⟩:=(R1.objs qa hi).inst_
 obtain ⟨cdD,hclsD⟩:=S.cls
 obtain ⟨oc,vsf,file,tf,hc1,hc2,hc3,hc4⟩:=S.file
 obtain ⟨ocell,hcell1,hcell2⟩:=S.cell
 obtain ⟨mb,hmb,hmb2⟩:=G.bb
 have hfunc:env.func=some (g.fa f):=by rw [← henv]; rfl
 have hcode:env.code = .ref cda:=by rw [← henv]; exact S.cdaE
 have he:eval (.Call (.Attribute (.Call (.Name "super" p0) [] [] p1) "__init__" p2) [] [] p3) env=(do
   let ov ← attributeBase (.Call (.Name "super" p0) [] [] p1) "__init__" env (eval (.Call (.Name "super" p0) [] [] p1) env)
   standAt p2.atName
   methodCall (.Call (.Name "super" p0) [] [] p1) "__init__" p2 p3 env ov (([]:List Expr).length+([]:List Keyword).length) (backTo p3 (starEach [] env)) (backToKw p3 (keywordEach [] env))):=rfl
 refine ks_wpAt_execs_cons (ks_wpAt_Expr_any ?_ ?_ ?_)
 rotate_left
 ·unfold interactive; rw [hkind]; rfl
 ·unfold swapsWith; rfl
 rw [he]
 refine _root_.PySem.wpAt_bind (_root_.PySem.wpAt_mono (ks_wpAt_super_base (Q:=fun ov s1=>wpAny (model g.prog g.w) (A.deeper env) (methodCall (.Call (.Name "super" p0) [] [] p1) "__init__" p2 p3 env ov (([]:List Expr).length+([]:List Keyword).length) (backTo p3 (starEach [] env)) (backToKw p3 (keywordEach [] env))) _ _ s1) (by rw [hkof]; exact S.kS) (by rw [hkof]; exact S.kC) (by decide +kernel) hfunc (X1 _ _ hK) hD (by rw [hpar]; rfl) hcode (X1 _ _ hc1) hc2 hc3 hc4 S.top ?_) (fun ov s1 h1=>_root_.PySem.wpAt_bind (_root_.PySem.wpAt_of_wpAny (wpAny_standAt (_root_.PySem.wpAt_of_wpAny h1)))) fun _ _ x=>x)
 rw [loadName_read hkind (by rw [hkof]; exact S.kS)]
 unfold loadGlobal
 rw [hglob,hblt]
 refine wpAny_bind ((looks_nsIn (M:=model g.prog g.w) G.kin S.noS) _ _ _ _ R1.keep ?_)
 refine wpAny_bind (wpAny_nsGet (hmb.keeps R1.keep) ?_)
 rw [hmb2 _ (by decide +kernel),show bootBuiltins "super" = some (.type "super") from by first | rfl | kernel_rfl]
 refine wpAny_pure ⟨rfl,?_⟩
 refine wpAny_loadName_free hkind (by rw [hkof]; exact S.kC) (by rw [hcells]; rfl) ⟨_,X1 _ _ hcell1,hcell2⟩ ?_
 refine wpAny_loadName_local hkind (by rw [hkof,har]; exact S.kX) (by rw [hloc]; exact hns) (by rw [har]; exact hself) ?_
 obtain ⟨oD,hD1,hD2⟩:=cls_at X1 hclsD
 refine ks_wpAny_isType_cls hD1 hD2 ⟨rfl,?_⟩
 refine ks_wpAny_call_super hD1 hD2 g1 rfl (fun c e=>by cases e) (looks_mroIn X1 S.sub) (fun h₂ hso hk₂=>?_)
 have X2:g.K.In h₂:=X1.keeps hk₂
 unfold methodCall
 have hform:methodCallForm (([]:List Expr).length+([]:List Keyword).length) (backTo p3 (starEach [] env)) (backToKw p3 (keywordEach [] env))=true:=rfl
 rw [hform]
 refine wpAny_bind (wpAny_holding ?_)
 show wpAny _ _ (getMethod (.ref h₁.objs.size) "__init__" _) _ _ _
 have hfi:=S.find
 unfold ks_superIn at hfi
 obtain ⟨cdC,hC1,hC2⟩:=Option.bind_eq_some_iff.mp hfi
 obtain ⟨ofb,hof,hofc⟩:∃ of,g.K.lookup (g.fa fb)=some of∧of.cls = .type "function" := by
  have ht':(g.K.lookup (g.fa fb)).map (·.cls)=some (.type "function"):=S.fty
  cases z:g.K.lookup (g.fa fb) with
  | none=>rw [z] at ht'; cases ht'
  | some of=>rw [z] at ht'; exact ⟨of,rfl,Option.some.inj ht'⟩
 have haC:a ≠ g.cls c:=by
  intro q
  obtain ⟨o,q1,q2⟩:=cls_at X1 hC1
  rw [← q,g1] at q1
  cases q1
  cases q2
 refine ks_wpAny_getMethod_super hso (looks_opaque X2 S.opq) (l₀:=cdC.mro) ?_ rfl X2 hC2 (X2 _ _ hof) hofc haC (by decide +kernel) ?_
 ·exact fun A Q E s k q=>wpAny_bind ((looks_clsIn X2 hC1) A _ E s k (wpAny_pure q))
 dsimp only
 have hpos:methodCallPos true (.Call (.Name "super" p0) [] [] p1) env p2 p3=pure p3:=by
  unfold methodCallPos
  rw [hline]; simp
 rw [hpos]
 refine wpAny_bind (wpAny_pure ?_)
 have hk₃:∀ b o,h₂.get? b=some o→(h₂.push { cls:=.type "method", data:=.fields #[.ref (g.fa fb),.ref a] }).get? b=some o:=fun b o e=>Heap.get?_push_of_some _ e
 have hm:(h₂.push { cls:=.type "method", data:=.fields #[.ref (g.fa fb),.ref a] }).get? h₂.objs.size=some (methodObj (.ref (g.fa fb)) (.ref a)):=Heap.get?_push_at rfl rfl
 generalize hh3:h₂.push { cls:=.type "method", data:=.fields #[.ref (g.fa fb),.ref a] }=h₃ at hk₃ hm ⊢
 have X3:g.K.In h₃:=X2.keeps hk₃
 show wpAny _ _ (callWith p3 (.ref h₂.objs.size) [] (backTo p3 (starEach [] env)) []) _ _ _
 refine callWith_M0 (K:=g.K) (g:=g.fa fb) (self:=.ref a) ⟨hm,X3⟩ S.fn ?_
 have kp13:∀ b o,s.heap.get? b=some o→h₃.get? b=some o:=fun b o e=>hk₃ b o (hk₂ b o (hk₁ b o e))
 have R3:Rel g Z bs ρ σ h₃:=Rl.grow kp13
 refine wpAny_call (ks_codeAny_call_bound hm (HC S.hfb h3 ⟨Nat.lt_of_succ_lt Rm.deep1,Nat.lt_of_le_of_lt (Nat.add_le_add_left (by decide) _) Rm.unit1,Rm.handled,Rm.guards⟩ R3 (.cons (.ref qa) .nil) fun val2 s2 ρ2 R4 P4 q4=>?_))
 refine _root_.PySem.wpAt_of_wpAny ?_
 have P3:Post NoX ρ σ s ρ σ { s with heap:=h₃,toks:=s.toks+1+1 }:=Post.grow kp13 rfl rfl
 have hnotL:¬ Foot ρ σ s.heap.objs.size:=Rl.notFootNew (lv_new _) |>.2
 have hns2:s2.heap.Ns s.heap.objs.size (fun x=>[(slf,Value.ref a)].reverse.lookup x):=by
  obtain ⟨o,es,ep,q,r⟩:=hns
  exact ⟨o,es,ep,P4.ext _ _ (hk₃ _ _ (hk₂ _ _ q)) id hnotL,r⟩
 have q5:RA ρ2 (Fz Z ρ2 σ2) s2.heap (.ref a) (.ref i):=RA.ref (P4.pre _ _ qa)
 refine wpAny_execs_cons (plainObj_wpAny_Assign_Attribute (wpAny_Constant_none ?_) (by unfold swapsWith; rfl))
 refine wpAny_Name (wpAny_loadName_local hkind (by rw [hkof]; exact S.kX) (by rw [hloc]; exact hns2) hself ?_) S.nd
 refine op_setattr G R4 q5 (.pv .none) S.dat S.nmm hi2 (.inl rfl) hcond fun s5 R5 P5=>?_
 refine wpAny_execs_nil ?_
 have hst:σ2.strict=σ.strict:=P4.str
 rw [← hst] at k
 exact k _ _ ρ2 R5 ((P3.trans P4).trans P5) (.pv .none)
noncomputable def RowD.glb (D:RowD) (prog:Program) (w:World) (K:Frag) (base:Heap):Glb:={ prog:=prog,w:=w,K:=K,nm:=D.nm,P:=D.P,base:=base,cls:=fun c=>D.cls.getD c 0,dat:=D.dat,fa:=fun f=>D.fa.getD f 0 }
theorem lookup_mem {α β:Type} [BEq α] [LawfulBEq α]:∀ {l:List (α × β)} {x:α} {y:β},l.lookup x=some y→(x,y) ∈ l
 | (k,v)::r,x,y,h=>by
  rw [List.lookup_cons] at h
  cases hb:x == k with
  | true=>rw [hb] at h; cases h; rw [beq_iff_eq.mp hb]; exact List.mem_cons_self
  | false=>rw [hb] at h; exact List.mem_cons_of_mem _ (lookup_mem h)
theorem ands_at:∀ {l:List Bool},ands l=true→∀ {n:Nat} {b:Bool},l[n]? = some b→b=true
 | [],_,_,_,e=>nomatch e
 | _::_,h,0,_,e=>Option.some.inj e▸(and_true2 h).1
 | _::_,h,_+1,_,e=>ands_at (and_true2 h).2 e
theorem ands_dec {l:List Bool} (h:ands l=true) (n:Nat) {p:Prop} [Decidable p] (e:l[n]? = some (decide p)):p:=of_decide_eq_true (ands_at h e)
mutual
theorem rp_of {K:Frag} {h:Heap} (X:K.In h):∀ (p:PV) {v:Value},rpIn K p v=true→RP (Lv h) h v p
 | .none,v,e=>of_decide_eq_true e▸.none
 | .bool b,v,e=>of_decide_eq_true e▸.bool b
 | .int i,v,e=>by
  obtain ⟨x,e⟩:=on_true e
  rw [x.2,of_decide_eq_true e]; exact .int _ _
 | .str i,v,e=>by
  obtain ⟨x,e⟩:=on_true e
  rw [x.2,of_decide_eq_true e]; exact .str _ _
 | .tup ps,v,e=>by
  obtain ⟨a,e⟩:=on_true e
  obtain ⟨o,e⟩:=on_true e
  obtain ⟨d,e⟩:=on_true e
  have e:=and_true2 e
  rw [a.2]
  exact .tup (vs:=d.1.1.toList) ⟨_,X _ _ o.2⟩ ⟨_,X _ _ o.2,of_decide_eq_true e.1,d.1.2,d.2⟩ (rps_of X ps e.2)
 | .lst _,v,e=>absurd e Bool.false_ne_true
theorem rps_of {K:Frag} {h:Heap} (X:K.In h):∀ (ps:List PV) {vs:List Value},rpsIn K ps vs=true→RPs (Lv h) h vs ps
 | [],vs,e=>List.isEmpty_iff.mp e▸.nil
 | p::ps,vs,e=>by
  obtain ⟨c,e⟩:=on_true e
  have e:=and_true2 e
  rw [c.2]; exact .cons (rp_of X p e.1) (rps_of X ps e.2)
end
theorem on_at {α:Type} {o:Option α} {k:α→Bool} {a:α} (h:on o k=true) (e:o=some a):k a=true:=by rw [e] at h; exact h
theorem RowD.wired {D:RowD} {prog:Program} {w:World} {K:Frag} {base:Heap} (X:K.In base) (h:D.wiredB K=true):Wired (D.glb prog w K base) D.cfg:=by
 have h1:=fun x f (e:D.gf.lookup x=some f)=>and_true2 (all_at (ands_at h (n:=0) rfl) (lookup_mem e))
 have h6:=fun c m f (e:D.P.meths.lookup (c,m)=some f)=>all_at (ands_at h (n:=5) rfl) (lookup_mem e)
 have h8:=fun c o (e:D.P.inits.lookup c=some o)=>all_at (ands_at h (n:=7) rfl) (lookup_mem e)
 have hin:∀ c,(D.P.inits.lookup c).isSome=true→∃ o,D.P.inits.lookup c=some o:=fun c hc=>Option.isSome_iff_exists.mp hc
 refine { nm:=rfl,globs:=rfl,dat:=rfl,gfun:=fun x f e=>of_decide_eq_true (h1 x f e).1,gcls:=fun x f e=>of_decide_eq_true (all_at (ands_at h (n:=1) rfl) (lookup_mem e)),isfn:=fun f hf=>?_,gval:=fun gi n p x e1 e2=>?_,built:=fun x v hx=>of_decide_eq_true (all_at (ands_at h (n:=4) rfl) hx),meth:=fun c m f x e1 e2=>?_,ga:=fun c hc=>?_,init:=fun c f e=>?_,fns:=fun c m f e=>of_decide_eq_true (all_at (ands_at h (n:=6) rfl) (lookup_mem e)),ifns:=fun c f e=>?_,ckeep:=fun c hc=>?_,gfns:=fun x f e=>of_decide_eq_true (h1 x f e).2 }
 ·obtain ⟨o,q⟩:=on_true (all_at (ands_at h (n:=2) rfl) (List.mem_range.mpr hf))
  obtain ⟨fd,_⟩:=on_true q
  exact ⟨o.1,fd.1,o.2,fd.2⟩
 ·have q:=all_at (ands_at h (n:=3) rfl) (List.mem_of_getElem? e1)
  have q:=on_at q e2
  obtain ⟨ov,q1,q⟩:=on_some q
  obtain ⟨v,rfl,q⟩:=on_some q
  exact ⟨v,q1,rp_of X p q⟩
 ·have q:=h6 c m f e1
  have q:=on_at q e2
  have q:=and_true2 q
  exact ⟨of_decide_eq_true q.1,of_decide_eq_true q.2⟩
 ·obtain ⟨o,ho⟩:=hin c hc
  exact ⟨ands_dec (h8 c o ho) 0 rfl,ands_dec (h8 c o ho) 1 rfl,ands_at (h8 c o ho) (n:=2) rfl⟩
 ·have q:=ands_at (h8 c _ e) (n:=4) rfl
  exact ⟨ands_dec q 0 rfl,ands_dec q 1 rfl⟩
 ·exact ands_dec (ands_at (h8 c _ e) (n:=4) rfl) 2 rfl
 ·obtain ⟨o,ho⟩:=hin c hc
  exact ands_at (h8 c o ho) (n:=3) rfl
theorem RowD.gok {D:RowD} {prog:Program} {w:World} {K:Frag} {base:Heap} (X:K.In base) (h:D.clsB K=true) (low:Lv base sysModules) (bb:∃ mb,base.Ns builtinsNs mb∧∀ x,x ≠ ("__name__" : Str)→mb x=bootBuiltins x) (nolimit:base.NoLimit):GOk (D.glb prog w K base):=by
 have h:=and_true2 h
 refine ⟨fun c hc=>?_,low,X,bb,nolimit,of_decide_eq_true h.2⟩
 obtain ⟨o,ho⟩:=Option.isSome_iff_exists.mp hc
 have a:=all_at h.1 (lookup_mem ho)
 exact ⟨fun x=>ands_at a (n:=0) rfl,ands_at a (n:=1) rfl,fun m hm x hx=>by
  have q:=all_at (ands_at a (n:=4) rfl) hm
  have q:=on_at q hx
  exact of_decide_eq_true q,ands_dec a 2 rfl,ands_at a (n:=3) rfl⟩
theorem plainPB_of:∀ {p:Arguments},plainPB p=true→p=plainParams p.args
 | ⟨a,b,c,d,e,f,g⟩,h=>by
  have e1:a=[]:=List.isEmpty_iff.mp (ands_at h (n:=0) rfl)
  have e2:c=none:=Option.isNone_iff_eq_none.mp (ands_at h (n:=1) rfl)
  have e3:d=[]:=List.isEmpty_iff.mp (ands_at h (n:=2) rfl)
  have e4:e=[]:=List.isEmpty_iff.mp (ands_at h (n:=3) rfl)
  have e5:f=none:=Option.isNone_iff_eq_none.mp (ands_at h (n:=4) rfl)
  have e6:g=[]:=List.isEmpty_iff.mp (ands_at h (n:=5) rfl)
  rw [e1,e2,e3,e4,e5,e6]; rfl
theorem RowD.fn {D:RowD} {prog:Program} {w:World} {K:Frag} {base:Heap} {f:Nat} {fd:Fn} (h:D.fnB K f fd=true):∃ FD body ps,FnOk (D.glb prog w K base) D.cfg f fd FD body ps:=by
 obtain ⟨o,h⟩:=on_true h
 obtain ⟨FD,h⟩:=on_true h
 obtain ⟨b,h⟩:=on_true h
 exact ⟨FD.1,b.1,FD.1.params.args.map (·.arg),{ at_:=⟨o.1,o.2,FD.2⟩,bod:=b.2,code:=ands_at h (n:=0) rfl,clo:=List.isEmpty_iff.mp (ands_at h (n:=1) rfl),bind:=fun vals hl=>bindArgs_plain FD.1 FD.1.params.args vals (plainPB_of (ands_at h (n:=2) rfl)) (ands_dec h 3 rfl) (ands_dec h 5 rfl) ((List.length_map _).symm.trans hl.symm),nms:=ands_at h (n:=4) rfl,ndp:=ands_dec h 5 rfl,glob:=ands_dec h 6 rfl,blt:=ands_dec h 7 rfl,kind:=isFun_of (ands_at h (n:=8) rfl),cor:=not_true (ands_at h (n:=9) rfl),gen:=not_true (ands_at h (n:=10) rfl),nofree:=fun x hx=>of_decide_eq_true (all_at (ands_at h (n:=11) rfl) hx),par:=fun x hx=>of_decide_eq_true (all_at (ands_at h (n:=12) rfl) hx),chk:=ands_at h (n:=13) rfl }⟩
inductive SupA (x:Stmt):Prop
 | mk (p0 p1 p2 p3 p4:Pos) (e:x = .Expr (.Call (.Attribute (.Call (.Name "super" p0) [] [] p1) "__init__" p2) [] [] p3) p4) (hl:(p2.endLine == p3.line)=true)
theorem supFirst_of {x:Stmt} (h:supFirst x=true):SupA x:=by
 obtain ⟨v,h⟩:=on_true h
 obtain ⟨c,h⟩:=on_true h
 obtain ⟨⟨e1⟩,h⟩:=on_true h
 obtain ⟨⟨e2⟩,h⟩:=on_true h
 obtain ⟨a,h⟩:=on_true h
 obtain ⟨c2,h⟩:=on_true h
 obtain ⟨⟨e3⟩,h⟩:=on_true h
 obtain ⟨⟨e4⟩,h⟩:=on_true h
 obtain ⟨n,h⟩:=on_true h
 obtain ⟨h,h3⟩:=and_true2 h
 obtain ⟨h1,h2⟩:=and_true2 h
 exact ⟨_,_,_,_,_,exprS_eq v.2 (call_eq c.2 ((attr_eq a.2 (of_decide_eq_true h2)).trans (congrArg (fun z=>Expr.Attribute z _ _) (call_eq c2.2 (name_eq n.2 (of_decide_eq_true h1)) e3 e4))) e1 e2),h3⟩
inductive SupB2 (S:SupD) (x:Stmt):Prop
 | mk (p5 p6 p7 p8:Pos) (k:Nat) (e:x = .Assign [.Attribute (.Name S.slf p5) S.n p6] (.Constant .none k p7) p8)
theorem assign_eq2 {x:Stmt} {a a':List Expr} {v v':Expr} {q:Pos} (e:x = .Assign a v q) (h:a=a') (h2:v=v'):x = .Assign a' v' q:=by rw [e,h,h2]
theorem const_eq {x:Expr} {c c':Const} {k:Nat} {q:Pos} (e:x = .Constant c k q) (h:c=c'):x = .Constant c' k q:=by rw [e,h]
theorem supSecond_of {S:SupD} {x:Stmt} (h:supSecond S x=true):SupB2 S x:=by
 obtain ⟨v,h⟩:=on_true h
 obtain ⟨t,h⟩:=on_true h
 obtain ⟨a,h⟩:=on_true h
 obtain ⟨n,h⟩:=on_true h
 obtain ⟨k,h⟩:=on_true h
 obtain ⟨h,h3⟩:=and_true2 h
 obtain ⟨h1,h2⟩:=and_true2 h
 exact ⟨_,_,_,_,_,assign_eq2 v.2 (one_eq t.2 ((attr_eq a.2 (of_decide_eq_true h2)).trans (congrArg (fun z=>Expr.Attribute z _ _) (name_eq n.2 (of_decide_eq_true h1))))) (const_eq k.2 (of_decide_eq_true h3))⟩
theorem supBody_of {S:SupD} {D:FuncData} (h:supBody S D.body=true):SupBod D S.slf S.n:=by
 obtain ⟨l,h⟩:=on_true h
 obtain ⟨v,h⟩:=on_true h
 obtain ⟨h1,h2⟩:=and_true2 h
 obtain ⟨p0,p1,p2,p3,p4,e1,hl⟩:=supFirst_of h1
 obtain ⟨p5,p6,p7,p8,k,e2⟩:=supSecond_of h2
 exact ⟨p0,p1,p2,p3,p4,p5,p6,p7,p8,k,l.2.trans (congrArg FuncBody.stmts (v.2.trans (by rw [e1,e2]))),hl⟩
theorem supBodyC_of {S:SupD} {b:CSs} (h:supBodyC S b=true):b = .cons (.superInit S.c S.fb S.x) (.cons (.setAttr (.var S.x) S.m .none) .nil):=by
 cases b with
 | nil=>cases h
 | cons s r=>cases r with
  | nil=>cases h
  | cons s2 r2=>cases r2 with
   | cons _ _=>cases h
   | nil =>
    obtain ⟨v,h⟩:=on_true (show (on (super? s) fun v=>on (setNone? s2) fun w=>decide (v.1.1=S.c)&&decide (v.1.2.1=S.fb)&&decide (v.1.2.2=S.x)&&decide (w.1.1=S.x)&&decide (w.1.2=S.m))=true from h)
    obtain ⟨w,h⟩:=on_true h
    obtain ⟨h,h5⟩:=and_true2 h
    obtain ⟨h,h4⟩:=and_true2 h
    obtain ⟨h,h3⟩:=and_true2 h
    obtain ⟨h1,h2⟩:=and_true2 h
    rw [v.2,w.2,of_decide_eq_true h1,of_decide_eq_true h2,of_decide_eq_true h3,of_decide_eq_true h4,of_decide_eq_true h5]
theorem SuperOk.of {D:RowD} {prog:Program} {w:World} {K:Frag} {base:Heap} {S:SupD} {FD:FuncData} {a:Arg} (at_:∃ o,K.lookup (D.fa.getD S.f 0)=some o∧o.data = .func FD) (ha:FD.params.args=[a]) (h:supFd S FD a=true)
  (code:codeIn K FD.code FD.qualname=true) (file:SupFile (D.glb prog w K base) S.cda) (cell:∃ o,K.lookup S.cc=some o∧o.data = .cell (some (.ref S.DD))) {fl:Str} {cv:Value} {fd:Fn} (h2:ands (D.supA prog K S FD fl cv fd)=true):SuperOk (D.glb prog w K base) S.f S.c S.fb S.m FD S.cc S.DD S.cda S.slf S.n :=
 { at_:=at_,bod:=supBody_of (ands_at h (n:=0) rfl),clo:=ands_dec h 1 rfl,code:=code,cdaE:=ands_dec h 2 rfl,file:=file,par:=⟨a,ands_dec h 4 rfl,by rw [← ha]; exact plainPB_of (ands_at h (n:=3) rfl),ands_dec h 5 rfl⟩,cell:=cell,cls:=Option.isSome_iff_exists.mp (ands_at h2 (n:=3) rfl),sub:=ands_dec h2 4 rfl,find:=ands_dec h2 5 rfl,fn:=ands_at h2 (n:=6) rfl,fty:=ands_dec h2 7 rfl,glob:=ands_dec h 6 rfl,blt:=ands_dec h 7 rfl,kind:=isFun_of (ands_at h (n:=8) rfl),cor:=not_true (ands_at h (n:=9) rfl),gen:=not_true (ands_at h (n:=10) rfl),nocell:=fun x hx=>of_decide_eq_true (all_at (ands_at h (n:=11) rfl) hx),kS:=ands_dec h 12 rfl,kC:=ands_dec h 13 rfl,kX:=ands_dec h 14 rfl,top:=not_true (ands_at h2 (n:=8) rfl),noS:=ands_dec h2 9 rfl,opq:=ands_dec h2 10 rfl,nmm:=ands_dec h2 11 rfl,dat:=List.contains_iff_mem.mp (ands_at h2 (n:=12) rfl),hfb:=ands_dec h2 13 rfl,nd:=not_true (ands_at h2 (n:=14) rfl) }
theorem RowD.sup {D:RowD} {prog:Program} {w:World} {K:Frag} {base:Heap} {S:SupD} (G:GOk (D.glb prog w K base)) (h:D.supB prog K S=true) (d:Nat) (HC:CallsOk (D.glb prog w K base) d (callFn D.P d)) :
  CallOk (D.glb prog w K base) (d+1) S.f (callFn D.P (d+1) S.f):=by
 obtain ⟨o,h⟩:=on_true h
 obtain ⟨FD,h⟩:=on_true h
 obtain ⟨a,h⟩:=on_true h
 obtain ⟨oc,h⟩:=on_true h
 obtain ⟨vs,h⟩:=on_true h
 obtain ⟨fv,h⟩:=on_true h
 obtain ⟨fl,h⟩:=on_true h
 obtain ⟨ocell,h⟩:=on_true h
 obtain ⟨cv,h⟩:=on_true h
 obtain ⟨fd,h⟩:=on_true h
 have h:=and_true2 h
 have hb:=supBodyC_of (ands_at h.2 (n:=15) rfl)
 have hp:fd.1.params=[S.x]:=ands_dec h.2 16 rfl
 have ht:=not_true (ands_at h.2 (n:=17) rfl)
 have so:SuperOk (D.glb prog w K base) S.f S.c S.fb S.m FD.1 S.cc S.DD S.cda S.slf S.n:=SuperOk.of ⟨o.1,o.2,FD.2⟩ a.2 h.1 (ands_at h.2 (n:=0) rfl) ⟨oc.1,vs.1,fl.1.1,fl.1.2,oc.2,vs.2,fv.2.trans (congrArg some fl.2),ands_at h.2 (n:=1) rfl⟩ ⟨ocell.1,ocell.2,cv.2.trans (by rw [show cv.1 = .ref S.DD from ands_dec h.2 2 rfl])⟩ h.2
 exact @super_call (D.glb prog w K base) G S.f S.c S.fb S.m S.x fd.1 FD.1 S.cc S.DD S.cda S.slf S.n fd.2 hb hp ht so d HC
theorem RowD.calls {D:RowD} {prog:Program} {w:World} {K:Frag} {base:Heap} {S:SupD} (X:K.In base) (G:GOk (D.glb prog w K base)) (hW:D.wiredB K=true) (hF:D.fnsB K S.f=true) (hS:D.supB prog K S=true) (d:Nat):CallsOk (D.glb prog w K base) d (callFn D.P d):=by
 refine calls_ok (g:=D.glb prog w K base) (C:=D.cfg) G (RowD.wired X hW) (set_spec _) (fun f fd hfd=>?_) d
 by_cases hf:f=S.f
 ·subst hf
  exact .inr fun d HC=>RowD.sup G hS d HC
 ·left
  have q:=all_at hF (List.mem_range.mpr (List.getElem?_eq_some_iff.mp (show D.P.fns[f]? = some fd from hfd)).1)
  rcases Bool.or_eq_true_iff.mp q with h | h
  ·exact absurd (of_decide_eq_true h) hf
  ·have h:=on_at h hfd
   exact RowD.fn h
theorem ints_rps {F:Addr→Prop} {h:Heap} {vs:List Value} {ns:List Int} (hI:IntsAre vs ns):RPs F h vs (intsAV ns):=by
 induction hI with
 | nil=>exact .nil
 | cons n t _ ih=>exact .cons (.int _ _) ih
theorem RowD.ends {D:RowD} {prog p:Program} {w:World} {K:Frag} {S:SupD} {loose:List Str} {mean mean':ExcName→Option Value} {mg mb:Str→Option Value} {s₁:Shared} {fa L:Addr} {vs:List Value} {ns:List Int} {lawN:Str} {lawI dep:Nat} {c:ClaimW} {cl:Str→Option Addr} {args:List WData}
  (T:Top p loose mean mg mb s₁.heap) (KX:K.In s₁.heap) (hg:s₁.gens=#[]) (hmg:mg lawN=some (.ref fa))
  (hlaw:nsIn K mainGlobals lawN=some (some (.ref (D.fa.getD lawI 0)))) (hli:lawI<D.P.fns.length) (himp:importsNone p=true) (hC:D.clsB K=true) (hW:D.wiredB K=true) (hF:D.fnsB K S.f=true) (hS:D.supB prog K S=true) (hdep:dep<40)
  (hL:s₁.heap.IsList L vs.toArray) (hI:IntsAre vs ns) (hev:∃ σ,callFn D.P dep lawI [.pv (.lst (intsAV ns))] ⟨[],false⟩=some (.pv (.bool true),σ))
  (hn:∀ cls,c.raises args cls=false) (hp:c.post args (.bool true) args=true) :
  codeAny (model prog w) callerA (.call (.ref fa) ⟨[.ref L],[]⟩) (GoodW c cl mean' args s₁) s₁:=by
 have hfa:fa=D.fa.getD lawI 0:=by
  have:=mg_of KX T.g hlaw
  rw [hmg] at this
  cases this; rfl
 subst hfa
 have G:GOk (D.glb prog w K s₁.heap):=RowD.gok KX hC (by obtain ⟨mm,⟨o,_,_,e,_⟩,_⟩:=(T.seer himp).mods; exact ⟨o,e⟩) ⟨mb,T.b,T.builtins⟩ T.nolimit
 obtain ⟨σ,hev⟩:=hev
 have R0:Rel (D.glb prog w K s₁.heap) (fun _=>False) [] [] ⟨[],false⟩ s₁.heap:={
  len:=rfl,objs:=fun e=>by simp at e,apart:=fun e=>by simp at e,addrs:=fun e=>by simp at e,zlt:=fun h=>h.elim,keep:=fun b o e=>e,bars:=fun n hn=>by simp at hn,strict:=fun h=>absurd rfl h }
 have noF:∀ b,¬ Foot [] ⟨[],false⟩ b:=fun b ⟨i,l,o,e,_⟩=>by simp at e
 have ra:RAs [] (Fz (fun _=>False) [] ⟨[],false⟩) s₁.heap [.ref L] [.pv (.lst (intsAV ns))]:=.cons (.pv (.lst ⟨id,noF L⟩ hL (ints_rps hI))) .nil
 have HC:CallsOk (D.glb prog w K s₁.heap) dep (callFn D.P dep):=RowD.calls KX G hW hF hS dep
 refine codeAny_mono (HC hli hev ⟨Nat.lt_of_le_of_lt (Nat.add_le_add_right (Nat.add_le_add_left (Nat.mul_le_mul_left 2 (Nat.le_of_lt hdep)) _) 10) (by decide),Nat.lt_of_le_of_lt (Nat.add_le_add_right (Nat.add_le_add_left (Nat.mul_le_mul_left 20 (Nat.le_of_lt hdep)) _) 200) (by decide),rfl,rfl⟩ R0 ra (Q:=fun v s'=>GoodW c cl mean' args s₁ (.ok (.ret v)) s') (E:=fun _ _=>False) fun val s' ρ' R P q=>?_) fun r s' h=>?_
 ·have q:=q.pv_
  cases q
  exact ⟨.inl ⟨.bool true,.bool true,[],rfl,hn,.bool true,hp,unshared_nil⟩,fun b o e=>P.ext b o e id (noF b),P.os,P.gens.trans hg⟩
 ·cases r with
  | error e=>exact h.elim
  | ok fl=>cases fl <;> first | exact h | exact h.elim
end Mine
end
section
open PySem
namespace Mine.L3
inductive Tr where
 | b (v:Bool)
 | bit (n:Nat) (s:Bool)
 deriving DecidableEq
noncomputable def bitP (n:Nat) (s:Bool):PV:=.tup [.str "bit", .int n,.bool s]
noncomputable def Tr.pv:Tr→PV
 | .b v=>.bool v
 | .bit n s=>bitP n s
noncomputable def Tr.con:Tr→Tr
 | .b v=>.b (!v)
 | .bit n s=>.bit n (!s)
theorem contrary_ok (d:Nat) (t:Tr) (σ:St):callFn P (d+1) 10 [.pv t.pv] σ=some (.pv t.con.pv,σ):=by
 cases t with
 | b v=>rfl
 | bit n s=>rfl
end Mine.L3
namespace Mine
theorem bnd_of {α β:Type} {x:R α} {k:α→St→R β} {a:α} {s:St} {r:R β} (h:x=some (a,s)) (h2:k a s=r):bnd x k=r:=by rw [h]; exact h2
theorem ob_of {α β:Type} {x:Option α} {k:α→Option β} {a:α} {r:Option β} (h:x=some a) (h2:k a=r):ob x k=r:=by rw [h]; exact h2
theorem map_of {α β:Type} {x:Option α} {f:α→β} {a:α} {r:Option β} (h:x=some a) (h2:some (f a)=r):x.map f=r:=by rw [h]; exact h2
theorem cond_t {α:Type} {c:Bool} {x y r:α} (h:c=true) (h2:x=r):(bif c then x else y)=r:=by rw [h]; exact h2
theorem cond_f {α:Type} {c:Bool} {x y r:α} (h:c=false) (h2:y=r):(bif c then x else y)=r:=by rw [h]; exact h2
theorem ite_t {α:Type} {c:Prop} [Decidable c] {x y r:α} (h:c) (h2:x=r):(if c then x else y)=r:=by rw [if_pos h]; exact h2
theorem ite_f {α:Type} {c:Prop} [Decidable c] {x y r:α} (h:¬ c) (h2:y=r):(if c then x else y)=r:=by rw [if_neg h]; exact h2
section
variable {C:Ctx} {Γ Γ1 Γ2:Env} {s s1 s2 s3:St}
noncomputable def contS (C:Ctx) (r:CSs) (fl:Flow × Env) (s:St):R (Flow × Env):=match fl with
 | (.ret v,Γ')=>some ((.ret v,Γ'),s)
 | (.next,Γ')=>evSs C r Γ' s
noncomputable def brS (C:Ctx) (c:Bool) (a b:CSs) (Γ:Env) (s:St):R (Flow × Env):=bif c then evSs C a Γ s else evSs C b Γ s
theorem S_step {st:CS} {r:CSs} {fl:Flow × Env} {R:R (Flow × Env)} (h:evS C st Γ s=some (fl,s1)) (h2:contS C r fl s1=R):evSs C (.cons st r) Γ s=R:=by
 show bnd (evS C st Γ s) _=R; rw [h]; exact h2
theorem S_nil:evSs C .nil Γ s=some ((.next,Γ),s):=rfl
theorem K_next {r:CSs} {R:R (Flow × Env)} (h:evSs C r Γ s=R):contS C r (.next,Γ) s=R:=h
theorem K_ret {r:CSs} {v:AV}:contS C r (.ret v,Γ) s=some ((.ret v,Γ),s):=rfl
theorem S_if {t:CE} {a b:CSs} {c:Bool} {R:R (Flow × Env)} (h:evE C Γ t s=some (.pv (.bool c),s1)) (h2:brS C c a b Γ s1=R):evS C (.ifS t a b) Γ s=R:=by
 show bnd (evE C Γ t s) _=R; rw [h]; exact h2
theorem B_t {a b:CSs} {c:Bool} {R:R (Flow × Env)} (e:c=true) (h:evSs C a Γ s=R):brS C c a b Γ s=R:=by rw [e]; exact h
theorem B_f {a b:CSs} {c:Bool} {R:R (Flow × Env)} (e:c=false) (h:evSs C b Γ s=R):brS C c a b Γ s=R:=by rw [e]; exact h
theorem S_assign {t:CT} {e:CE} {v:AV} (h:evE C Γ e s=some (v,s1)) (h2:bindT t v Γ=some Γ1):evS C (.assign t e) Γ s=some ((.next,Γ1),s1):=by
 show bnd (evE C Γ e s) _=_; rw [h]; show ob (bindT t v Γ) _=_; rw [h2]; rfl
theorem S_expr {e:CE} {v:AV} (h:evE C Γ e s=some (v,s1)):evS C (.expr e) Γ s=some ((.next,Γ),s1):=by
 show bnd (evE C Γ e s) _=_; rw [h]; rfl
theorem S_return {e:CE} {v:AV} (h:evE C Γ e s=some (v,s1)):evS C (.ret e) Γ s=some ((.ret v,Γ),s1):=by
 show bnd (evE C Γ e s) _=_; rw [h]; rfl
theorem S_retNone:evS C .retNone Γ s=some ((.ret (.pv .none),Γ),s):=rfl
theorem S_for {t:CT} {it:CI} {b:CSs} {src:Src} {R:R (Flow × Env)} (h:evI C Γ it s=some (src,s1)) (h2:forItems src.held (fun x Γ s=>ob (bindT t x Γ) fun Γ'=>evSs C b Γ' s) src.items Γ s1=R):evS C (.forS t it b) Γ s=R:=by
 show bnd (evI C Γ it s) _=R; rw [h]; exact h2
noncomputable def contF (C:Ctx) (held:List (Nat × List AV)) (t:CT) (b:CSs) (r:List AV) (fl:Flow × Env) (s:St):R (Flow × Env):=match fl with
 | (.ret v,Γ')=>some ((.ret v,Γ'),s)
 | (.next,Γ')=>bif heldOk held s then forItems held (fun x Γ s=>ob (bindT t x Γ) fun Γ'=>evSs C b Γ' s) r Γ' s else none
theorem F_nil {held:List (Nat × List AV)} {f:AV→Env→St→R (Flow × Env)}:forItems held f [] Γ s=some ((.next,Γ),s):=rfl
theorem F_step {held:List (Nat × List AV)} {t:CT} {b:CSs} {x:AV} {r:List AV} {fl:Flow × Env} {R:R (Flow × Env)} (h0:bindT t x Γ=some Γ1) (h:evSs C b Γ1 s=some (fl,s1))
  (h2:contF C held t b r fl s1=R):forItems held (fun x Γ s=>ob (bindT t x Γ) fun Γ'=>evSs C b Γ' s) (x::r) Γ s=R:=by
 show bnd (ob (bindT t x Γ) fun Γ'=>evSs C b Γ' s) _=R
 rw [h0]; show bnd (evSs C b Γ1 s) _=R; rw [h]; exact h2
theorem KF_ret {held:List (Nat × List AV)} {t:CT} {b:CSs} {r:List AV} {v:AV}:contF C held t b r (.ret v,Γ) s=some ((.ret v,Γ),s):=rfl
theorem KF_next {held:List (Nat × List AV)} {t:CT} {b:CSs} {r:List AV} {R:R (Flow × Env)} (hk:heldOk held s=true) (h:forItems held (fun x Γ s=>ob (bindT t x Γ) fun Γ'=>evSs C b Γ' s) r Γ s=R):contF C held t b r (.next,Γ) s=R:=by
 show (bif heldOk held s then _ else none)=R; rw [hk]; exact h
end
section
variable {C:Ctx} {Γ:Env} {s s1 s2 s3:St} {R:R AV} {v w x:AV} {vs:List AV}
noncomputable def brE (C:Ctx) (c:Bool) (a b:CE) (Γ:Env) (s:St):Mine.R AV:=bif c then evE C Γ a s else evE C Γ b s
theorem Br_t {a b:CE} {c:Bool} (e:c=true) (h:evE C Γ a s=R):brE C c a b Γ s=R:=by rw [e]; exact h
theorem Br_f {a b:CE} {c:Bool} (e:c=false) (h:evE C Γ b s=R):brE C c a b Γ s=R:=by rw [e]; exact h
theorem E_ife {t a b:CE} {c:Bool} (h:evE C Γ t s=some (.pv (.bool c),s1)) (h2:brE C c a b Γ s1=R):evE C Γ (.ife t a b) s=R:=by
 show bnd (evE C Γ t s) _=R; rw [h]; exact h2
theorem E_cmp {o:Cmp} {a b:CE} {r:Bool} (h:evE C Γ a s=some (v,s1)) (h2:evE C Γ b s1=some (w,s2)) (h3:evCmp o v w s2=some r):evE C Γ (.cmp o a b) s=some (.pv (.bool r),s2):=by
 show bnd (evE C Γ a s) _=_; rw [h]; show bnd (evE C Γ b s1) _=_; rw [h2]; show ob (evCmp o v w s2) _=_; rw [h3]; rfl
theorem Cmp_inn {r:Bool} (h:evIn v w s=some r):evCmp .inn v w s=some r:=h
theorem Cmp_notin {r:Bool} (h:evIn v w s=some r):evCmp .notin v w s=some (!r):=by show (evIn v w s).map _=_; rw [h]; rfl
theorem Cmp_eq {r:Bool} (h:evEq v w s=some r):evCmp .eq v w s=some r:=h
theorem Cmp_ne {r:Bool} (h:evEq v w s=some r):evCmp .ne v w s=some (!r):=by show (evEq v w s).map _=_; rw [h]; rfl
theorem E_call {f:Nat} {es:CEs} (h:evEs C Γ es s=some (vs,s1)) (h2:C.call f vs s1=R):evE C Γ (.call f es) s=R:=by
 show bnd (evEs C Γ es s) _=R; rw [h]; exact h2
theorem E_meth {a:CE} {m i c f:Nat} {es:CEs} {as:List (Nat × AV)} (h:evE C Γ a s=some (.ref i,s1)) (h2:s1.heap[i]? = some (.inst c as)) (h3:C.meth c m=some f) (h4:(getA m as).isNone=true) (h5:evEs C Γ es s1=some (vs,s2)) (h6:C.call f (.ref i::vs) s2=R):evE C Γ (.meth a m es) s=R:=by
 show bnd (evE C Γ a s) _=R; rw [h]
 show ob (s1.heap[i]?) _=R; rw [h2]
 show ob (C.meth c m) _=R; rw [h3]
 show (bif (getA m as).isNone then _ else _)=R; rw [h4]
 show bnd (evEs C Γ es s1) _=R; rw [h5]; exact h6
theorem E_bi {k:BI} {es:CEs} (h:evEs C Γ es s=some (vs,s1)) (h2:evBI k vs s1=R):evE C Γ (.bi k es) s=R:=by
 show bnd (evEs C Γ es s) _=R; rw [h]; exact h2
theorem E_bm {k:BM} {a:CE} {es:CEs} (h:evE C Γ a s=some (v,s1)) (h2:bmOk k v s1=true) (h3:evEs C Γ es s1=some (vs,s2)) (h4:evBM k v vs s2=R):evE C Γ (.bm k a es) s=R:=by
 show bnd (evE C Γ a s) _=R; rw [h]; show (bif bmOk k v s1 then _ else _)=R; rw [h2]; show bnd (evEs C Γ es s1) _=R; rw [h3]; exact h4
theorem E_sub {a i:CE} (h:evE C Γ a s=some (v,s1)) (h2:evE C Γ i s1=some (w,s2)) (h3:evSub v w s2=some x):evE C Γ (.sub a i) s=some (x,s2):=by
 show bnd (evE C Γ a s) _=_; rw [h]; show bnd (evE C Γ i s1) _=_; rw [h2]; show lift (evSub v w s2) s2=_; rw [h3]; rfl
theorem E_attr {a:CE} {m:Nat} (h:evE C Γ a s=some (v,s1)) (h3:evAttr v m s1=some x):evE C Γ (.attr a m) s=some (x,s1):=by
 show bnd (evE C Γ a s) _=_; rw [h]; show lift (evAttr v m s1) s1=_; rw [h3]; rfl
theorem E_bin {o:Op} {m:Bool} {a b:CE} (h:evE C Γ a s=some (v,s1)) (h2:evE C Γ b s1=some (w,s2)) (h3:evBin o m v w s2=R):evE C Γ (.bin o m a b) s=R:=by
 show bnd (evE C Γ a s) _=R; rw [h]; show bnd (evE C Γ b s1) _=R; rw [h2]; exact h3
theorem E_tup {es:CEs} (h:evEs C Γ es s=some (vs,s1)) (h2:mkTup vs=v):evE C Γ (.tup es) s=some (v,s1):=by
 show bnd (evEs C Γ es s) _=_; rw [h,← h2]; rfl
theorem E_lst {es:CEs} (h:evEs C Γ es s=some (vs,s1)) (h2:mkLst vs=v):evE C Γ (.list false es) s=some (v,s1):=by
 show bnd (evEs C Γ es s) _=_; rw [h,← h2]; rfl
theorem E_not {a:CE} {b:Bool} (h:evE C Γ a s=some (.pv (.bool b),s1)):evE C Γ (.not a) s=some (.pv (.bool (!b)),s1):=by
 show bnd (evE C Γ a s) _=_; rw [h]; rfl
theorem E_and {es:CEs} (h:evB C Γ true es s=R):evE C Γ (.and es) s=R:=h
theorem E_or {es:CEs} (h:evB C Γ false es s=R):evE C Γ (.or es) s=R:=h
theorem E_comp {xs:List Nat} {c:CL} (h:evL C (Env.del xs Γ) c s=some (vs,s1)) (h2:decide (vs.length≤big)=true) (h3:mkLst vs=v):evE C Γ (.comp xs c) s=some (v,s1):=by
 show bnd (evL C (Env.del xs Γ) c s) _=_; rw [h]; show (if vs.length≤big then some (mkLst vs,s1) else none)=_; rw [if_pos (of_decide_eq_true h2),h3]
theorem Es_nil:evEs C Γ .nil s=some ([],s):=rfl
theorem Es_cons {e:CE} {r:CEs} (h:evE C Γ e s=some (v,s1)) (h2:evEs C Γ r s1=some (vs,s2)):evEs C Γ (.cons e r) s=some (v::vs,s2):=by
 show bnd (evE C Γ e s) _=_; rw [h]; show bnd (evEs C Γ r s1) _=_; rw [h2]; rfl
theorem B_one {i b:Bool} {e:CE} (h:evE C Γ e s=some (.pv (.bool b),s1)):evB C Γ i (.cons e .nil) s=some (.pv (.bool b),s1):=by
 show bnd (evE C Γ e s) _=_; rw [h]; rfl
noncomputable def brB (C:Ctx) (i c:Bool) (r:CEs) (Γ:Env) (s:St):Mine.R AV:=bif c == i then evB C Γ i r s else some (.pv (.bool c),s)
theorem B_two {i c:Bool} {e e':CE} {r:CEs} (h:evE C Γ e s=some (.pv (.bool c),s1)) (h2:brB C i c (.cons e' r) Γ s1=R):evB C Γ i (.cons e (.cons e' r)) s=R:=by
 show bnd (evE C Γ e s) _=R; rw [h]; exact h2
theorem Bt_go {c:Bool} {r:CEs} (e:c=true) (h:evB C Γ true r s=R):brB C true c r Γ s=R:=by rw [e]; exact h
theorem Bf_go {c:Bool} {r:CEs} (e:c=false) (h:evB C Γ false r s=R):brB C false c r Γ s=R:=by rw [e]; exact h
theorem Bt_stop {c:Bool} {r:CEs} (e:c=false):brB C true c r Γ s=some (.pv (.bool false),s):=by rw [e]; rfl
theorem Bf_stop {c:Bool} {r:CEs} (e:c=true):brB C false c r Γ s=some (.pv (.bool true),s):=by rw [e]; rfl
noncomputable def ifsE (C:Ctx) (c:Bool) (r:CEs) (Γ:Env) (s:St):Mine.R Bool:=bif c then evIfs C Γ r s else some (false,s)
theorem Ifs_nil:evIfs C Γ .nil s=some (true,s):=rfl
theorem Ifs_cons {e:CE} {r:CEs} {b c:Bool} (h:evE C Γ e s=some (.pv (.bool c),s1)) (h2:ifsE C c r Γ s1=some (b,s2)):evIfs C Γ (.cons e r) s=some (b,s2):=by
 show bnd (evE C Γ e s) _=_; rw [h]; exact h2
theorem If_t {r:CEs} {c:Bool} {R:Mine.R Bool} (e:c=true) (h:evIfs C Γ r s=R):ifsE C c r Γ s=R:=by rw [e]; exact h
theorem If_f {r:CEs} {c:Bool} (e:c=false):ifsE C c r Γ s=some (false,s):=by rw [e]; rfl
theorem I_it {e:CE} {src:Src} (h:evE C Γ e s=some (v,s1)) (h2:srcOf v s1=some src):evI C Γ (.it e) s=some (src,s1):=by
 show bnd (evE C Γ e s) _=_; rw [h]; show lift (srcOf v s1) s1=_; rw [h2]; rfl
theorem L_elt {e:CE} (h:evE C Γ e s=some (v,s1)):evL C Γ (.elt e) s=some ([v],s1):=by
 show bnd (evE C Γ e s) _=_; rw [h]; rfl
noncomputable def itL (C:Ctx) (Γ:Env) (t:CT) (ifs:CEs) (more:CL) (held:List (Nat × List AV)) (l:List AV) (s:St):Mine.R (List AV) :=
 compItems held (fun x s=>ob (bindT t x Γ) fun Γ'=>bnd (evIfs C Γ' ifs s) fun b s=>bif b then evL C Γ' more s else some ([],s)) l s
noncomputable def moreL (C:Ctx) (Γ:Env) (more:CL) (b:Bool) (s:St):Mine.R (List AV):=bif b then evL C Γ more s else some ([],s)
theorem L_cons {t:CT} {it:CI} {ifs:CEs} {more:CL} {src:Src} {R:Mine.R (List AV)} (h:evI C Γ it s=some (src,s1)) (h2:freshT t Γ=true) (h3:itL C Γ t ifs more src.held src.items s1=R):evL C Γ (.cons t it ifs more) s=R:=by
 show bnd (evI C Γ it s) _=R; rw [h]; show (bif !freshT t Γ then none else _)=R; rw [h2]; exact h3
theorem It_nil {t:CT} {ifs:CEs} {more:CL} {held:List (Nat × List AV)}:itL C Γ t ifs more held [] s=some ([],s):=rfl
theorem It_cons {t:CT} {ifs:CEs} {more:CL} {held:List (Nat × List AV)} {x:AV} {r ys zs:List AV} {Γ':Env} {b:Bool} (h:bindT t x Γ=some Γ') (h2:evIfs C Γ' ifs s=some (b,s1)) (h3:moreL C Γ' more b s1=some (ys,s2)) (h4:heldOk held s2=true) (h5:itL C Γ t ifs more held r s2=some (zs,s3)):itL C Γ t ifs more held (x::r) s=some (ys++zs,s3):=by
 show bnd (ob (bindT t x Γ) _) _=_; rw [h]
 show bnd (bnd (evIfs C Γ' ifs s) _) _=_; rw [h2]
 show bnd (moreL C Γ' more b s1) _=_; rw [h3]
 show (bif heldOk held s2 then bnd (itL C Γ t ifs more held r s2) _ else none)=_; rw [h4,h5]; rfl
theorem Mo_t {more:CL} {b:Bool} {R:Mine.R (List AV)} (e:b=true) (h:evL C Γ more s=R):moreL C Γ more b s=R:=by rw [e]; exact h
theorem Mo_f {more:CL} {b:Bool} (e:b=false):moreL C Γ more b s=some ([],s):=by rw [e]; rfl
end
section
variable {C:Ctx} {Γ Γ1 Γ2:Env} {s s1 s2:St} {r:CSs} {R:R (Flow × Env)} {v:AV} {e:CE} {c:Bool}
theorem SA {t:CT} (h:evE C Γ e s=some (v,s1)) (h2:bindT t v Γ=some Γ1) (h3:evSs C r Γ1 s1=R):evSs C (.cons (.assign t e) r) Γ s=R:=S_step (S_assign h h2) h3
theorem SX (h:evE C Γ e s=some (v,s1)) (h3:evSs C r Γ s1=R):evSs C (.cons (.expr e) r) Γ s=R:=S_step (S_expr h) h3
theorem SR (h:evE C Γ e s=some (v,s1)):evSs C (.cons (.ret e) r) Γ s=some ((.ret v,Γ),s1):=S_step (S_return h) K_ret
noncomputable def brT (C:Ctx) (c:Bool) (a b r:CSs) (Γ:Env) (s:St):Mine.R (Flow × Env):=bnd (brS C c a b Γ s) fun fl s=>contS C r fl s
theorem SIf {a b:CSs} (h:evE C Γ e s=some (.pv (.bool c),s1)) (h2:brT C c a b r Γ s1=R):evSs C (.cons (.ifS e a b) r) Γ s=R:=by
 show bnd (evS C (.ifS e a b) Γ s) (contS C r)=R
 rw [show evS C (.ifS e a b) Γ s=brS C c a b Γ s1 from S_if h rfl]; exact h2
theorem T_f {a:CSs} (hc:c=false) (h3:evSs C r Γ s=R):brT C c a .nil r Γ s=R:=by rw [brT,hc]; exact h3
theorem T_t {a b:CSs} {f:Flow × Env} (hc:c=true) (h2:evSs C a Γ s=some (f,s2)) (h3:contS C r f s2=R):brT C c a b r Γ s=R:=by rw [brT,hc]; show bnd (evSs C a Γ s) _=R; rw [h2]; exact h3
theorem T_e {a b:CSs} {f:Flow × Env} (hc:c=false) (h2:evSs C b Γ s=some (f,s2)) (h3:contS C r f s2=R):brT C c a b r Γ s=R:=by rw [brT,hc]; show bnd (evSs C b Γ s) _=R; rw [h2]; exact h3
end
theorem not_t {x:Bool} (h:x=false):(!x)=true:=by rw [h]; rfl
theorem not_f {x:Bool} (h:x=true):(!x)=false:=by rw [h]; rfl
theorem any_hit {x a:PV} {r:List PV} (h:pyEq a x=true):anyP x (a::r)=true:=by rw [anyP,h]; rfl
theorem any_miss {x a:PV} {r:List PV} {b:Bool} (h:pyEq a x=false) (h2:anyP x r=b):anyP x (a::r)=b:=by rw [anyP,h]; exact h2
theorem bit_same {n:Int} {t:Bool}:pyEq (.tup [.str "bit", .int n,.bool t]) (.tup [.str "bit", .int n,.bool t])=true:=by
 simp only [pyEq,tupP,pyEqs,eqS,eqI,eqB,beq_self_eq_true,List.isEmpty_nil,Bool.and_self]
theorem bit_con {n:Int} {t:Bool}:pyEq (.tup [.str "bit", .int n,.bool t]) (.tup [.str "bit", .int n,.bool !t])=false:=by
 cases t <;> simp [pyEq,tupP,pyEqs,eqB]
theorem bit_con' {n:Int} {t:Bool}:pyEq (.tup [.str "bit", .int n,.bool !t]) (.tup [.str "bit", .int n,.bool t])=false:=by
 cases t <;> simp [pyEq,tupP,pyEqs,eqB]
theorem bit_ne {n m:Int} {s t:Bool} (h:(n == m)=false):pyEq (.tup [.str "bit", .int n,.bool s]) (.tup [.str "bit", .int m,.bool t])=false:=by
 simp only [pyEq,tupP,pyEqs,eqI,h,Bool.and_false,Bool.false_and]
theorem ne_bit {n m:Int} {s t:Bool} (h:(n == m)=false):pyEq (.tup [.str "bit", .int m,.bool s]) (.tup [.str "bit", .int n,.bool t])=false :=
 bit_ne (by rw [← h]; exact Bool.beq_comm)
mutual
theorem PV.same_self:∀ a:PV,PV.same a a=true
 | .none=>rfl
 | .bool _=>beq_self_eq_true _
 | .int _=>beq_self_eq_true _
 | .str _=>beq_self_eq_true _
 | .tup l=>PV.sames_self l
 | .lst l=>PV.sames_self l
theorem PV.sames_self:∀ a:List PV,PV.sames a a=true
 | []=>rfl
 | a::l=>Bool.and_eq_true_iff.mpr ⟨PV.same_self a,PV.sames_self l⟩
end
mutual
theorem AV.same_self:∀ a:AV,AV.same a a=true
 | .pv p=>PV.same_self p
 | .ref _=>beq_self_eq_true _
 | .tupR l=>AV.sames_self l
 | .lstR l=>AV.sames_self l
theorem AV.sames_self:∀ a:List AV,AV.sames a a=true
 | []=>rfl
 | a::l=>Bool.and_eq_true_iff.mpr ⟨AV.same_self a,AV.sames_self l⟩
end
section
variable {s:St} {i:Nat} {l:List AV}
theorem items_at (h:s.heap[i]? = some (.list l)):itemsOf s (.ref i)=some l:=by
 show (match s.heap[i]? with | some (.list l)=>some l | _=>none)=some l
 rw [h]
theorem src_at (h:s.heap[i]? = some (.list l)) (h2:decide (l.length≤big)=true):srcOf (.ref i) s=some ⟨l,[(i,l)]⟩:=by
 show ob (itemsOf _ _) _=_
 rw [items_at h]
 show (if l.length≤big then some (Src.mk l (match s.heap[i]? with | some (.list l)=>[(i,l)] | _=>[])) else none)=_
 rw [if_pos (of_decide_eq_true h2),h]
theorem held_at (h:s.heap[i]? = some (.list l)):heldOk [(i,l)] s=true:=by
 show ((match s.heap[i]? with | some (.list m)=>AV.sames m l | _=>false)&&true)=true
 rw [h]; show (AV.sames l l&&true)=true; rw [AV.sames_self]; rfl
theorem bm_at {k:BM} (h:s.heap[i]? = some (.list l)) (h2:isLM k=true):bmOk k (.ref i) s=true:=by
 show (match s.heap[i]? with | some o=>bif isLM k then isLO o else isDO o | none=>false)=true
 rw [h]; show (bif isLM k then _ else _)=true; rw [h2]; rfl
theorem app_at {v:AV} (h:s.heap[i]? = some (.list l)) (hp:isPV v=true) (h2:decide (l.length<big)=true):evBM .append (.ref i) [v] s=some (.pv .none,s.set i (.list (l++[v]))):=by
 show ob (s.heap[i]?) _=_; rw [h]
 show (if ((isPV v||_)&&decide _)=true then _ else _)=_
 rw [hp,h2]; rfl
theorem app_free {v:AV} (h:s.heap[i]? = some (.list l)) (hp:s.strict=false) (h2:decide (l.length<big)=true):evBM .append (.ref i) [v] s=some (.pv .none,s.set i (.list (l++[v]))):=by
 show ob (s.heap[i]?) _=_; rw [h]
 show (if ((isPV v||!s.strict)&&decide _)=true then _ else _)=_
 rw [hp,h2,Bool.not_false,Bool.or_true]; rfl
theorem sub_at {v x:AV} (h:s.heap[i]? = some (.list l)) (h2:atIdx l v=some x):evSub (.ref i) v s=some x:=by
 show ob (s.heap[i]?) (evSubO v)=_; rw [h]; exact h2
theorem at_nat {l:List AV} {n:Nat} {x:AV} (h:n<1000000000) (h2:l[n]? = some x):atIdx l (.pv (.int n))=some x:=by
 show (if (n:Int).natAbs<1000000000 then ob (pyIdx n l.length) _ else none)=_
 rw [if_pos (show (n:Int).natAbs<1000000000 from h)]
 have hl:n<l.length:=(List.getElem?_eq_some_iff.mp h2).1
 show ob (if 0≤(n:Int) then (if (n:Int)<l.length then some (n:Int).toNat else none) else _) _=_
 rw [if_pos (Int.natCast_nonneg n),if_pos (Int.ofNat_lt.mpr hl)]; exact h2
theorem E_var {C:Ctx} {Γ:Env} {x:Nat} {v:AV} (h:Γ.get x=some v):evE C Γ (.var x) s=some (v,s):=by
 show lift (Γ.get x) s=_; rw [h]; rfl
theorem I_zip {C:Ctx} {Γ:Env} {a b:CE} {v w:AV} {s1 s2:St} {x y:Src} (h:evE C Γ a s=some (v,s1)) (h2:evE C Γ b s1=some (w,s2)) (h3:srcOf v s2=some x) (h4:srcOf w s2=some y) (h5:(isLstV v&&isLstV w)=true):evI C Γ (.zip a b) s=some (⟨zipT x.items y.items,x.held++y.held⟩,s2):=by
 show bnd (evE C Γ a s) _=_; rw [h]; show bnd (evE C Γ b s1) _=_; rw [h2]
 show ob (srcOf v s2) _=_; rw [h3]; show ob (srcOf w s2) _=_; rw [h4]
 exact if_pos h5
end
theorem get_eq {i:Nat} {v:AV}:∀ {Γ:Env},(Γ.put i v).get i=some v
 | []=>by show (bif i == i then _ else _)=_; rw [beq_self_eq_true]; rfl
 | (k,w)::r=>by
  rw [Env.put]
  cases h:k == i with
  | true=>show (bif i == i then _ else _)=_; rw [beq_self_eq_true]; rfl
  | false=>show (bif k == i then _ else _)=_; rw [h]; exact get_eq
theorem get_ne' {i j:Nat} {v:AV} (h:(i == j)=false):∀ {Γ:Env},(Γ.put i v).get j=Γ.get j
 | []=>by show (bif i == j then _ else _)=_; rw [h]; rfl
 | (k,w)::r=>by
  rw [Env.put]
  cases h2:k == i with
  | true=>show (bif i == j then _ else _)=(bif k == j then _ else _); rw [h,show (k == j)=false from (beq_iff_eq.mp h2)▸h]; rfl
  | false =>
   show (bif k == j then _ else _)=(bif k == j then _ else _)
   cases k == j with
   | true=>rfl
   | false=>exact get_ne' h
theorem get_ne {i j:Nat} {v:AV} {w:Option AV} {Γ:Env} (h:(i == j)=false) (h2:Γ.get j=w):(Γ.put i v).get j=w:=(get_ne' h).trans h2
theorem get_del' {xs:List Nat} {i:Nat} (h:xs.contains i=false):∀ {Γ:Env},(Env.del xs Γ).get i=Γ.get i
 | []=>rfl
 | (j,w)::r=>by
  rw [Env.del]
  cases hj:xs.contains j with
  | true =>
   have:(j == i)=false:=by
    cases h2:j == i with
    | false=>rfl
    | true=>rw [beq_iff_eq.mp h2,h] at hj; cases hj
   show (Env.del xs r).get i=(bif j == i then _ else _); rw [this]; exact get_del' h
  | false =>
   show (bif j == i then _ else _)=(bif j == i then _ else _)
   cases j == i with
   | true=>rfl
   | false=>exact get_del' h
theorem get_del_ne {xs:List Nat} {i:Nat} {w:Option AV} {Γ:Env} (h:xs.contains i=false) (h2:Γ.get i=w):(Env.del xs Γ).get i=w:=(get_del' h).trans h2
theorem get_del_in {xs:List Nat} {i:Nat} (h:xs.contains i=true):∀ {Γ:Env},(Env.del xs Γ).get i=none
 | []=>rfl
 | (j,w)::r=>by
  rw [Env.del]
  cases hj:xs.contains j with
  | true=>exact get_del_in h
  | false =>
   show (bif j == i then _ else _)=_
   have:(j == i)=false:=by
    cases h2:j == i with
    | false=>rfl
    | true=>rw [beq_iff_eq.mp h2,h] at hj; cases hj
   rw [this]; exact get_del_in h
theorem fresh_nm {x:Nat} {Γ:Env} (h:Γ.get x=none):freshT (.nm x) Γ=true:=by show (Γ.get x).isNone=true; rw [h]; rfl
theorem fresh_two {x y:Nat} {Γ:Env} (h:Γ.get x=none) (h2:Γ.get y=none):freshT (.tup (.cons (.nm x) (.cons (.nm y) .nil))) Γ=true:=by
 show ((Γ.get x).isNone&&((Γ.get y).isNone&&true))=true; rw [h,h2]; rfl
namespace L3
theorem C_call {k f:Nat} {vs:List AV} {s:St} {R:R AV} (h:callFn P k f vs s=R):(ctxOf P (callFn P k)).call f vs s=R:=h
theorem call_with {d f:Nat} {vs:List AV} {h:List AObj} {st:Bool} {s':St} {q:Flow × Env} {R:R AV} (fd:Fn) (hf:P.fns[f]? = some fd) (ht:fd.trim=false) (hl:fd.params.length=vs.length)
  (he:evSs (ctxOf P (callFn P d)) fd.body (fd.params.zip vs) ⟨h,st⟩=some (q,s')) (hr:some (q.1.val,(⟨s'.heap,st⟩:St))=R):callFn P (d+1) f vs ⟨h,st⟩=R:=by
 rw [callFn]; simp only [hf,hl,ht,Bool.or_false,he,if_true]; exact hr
theorem call_trim {d f:Nat} {vs:List AV} {h:List AObj} {st:Bool} {s':St} {q:Flow × Env} {p:PV} {R:R AV} (fd:Fn) (hf:P.fns[f]? = some fd) (ht:fd.trim=true) (hl:fd.params.length=vs.length)
  (he:evSs (ctxOf P (callFn P d)) fd.body (fd.params.zip vs) ⟨h,true⟩=some (q,s')) (hp:q.1.val = .pv p) (hr:some (AV.pv p,(⟨s'.heap.take h.length,st⟩:St))=R):callFn P (d+1) f vs ⟨h,st⟩=R:=by
 rw [callFn]; simp only [hf,hl,ht,Bool.or_true,he,hp,if_true]; exact hr
noncomputable def gh (o:AObj) (vars tolds:List AV) (made:List (PV × AV)) (tl:List AObj):List AObj :=
 o::.inst 2 [(30,.ref 2),(31,.ref 5),(57,.pv .none)]::.inst 0 [(4,.ref 3),(5,.ref 4),(6,.pv (.tup [.str "satisfy", .none])),(7,.pv (.tup []))]::.list vars::.list tolds::.dictT made::tl
section
variable {o:AObj} {vars tolds:List AV} {made:List (PV × AV)} {tl:List AObj} {x y:AObj} {st s2:Bool} {l:List AV}
theorem gh_last:(gh o vars tolds made (tl++[x]))[tl.length+6]? = some x:=by simp [gh]
theorem E_new {C:Ctx} {Γ:Env}:evE C Γ (.list true .nil) ⟨gh o vars tolds made tl,s2⟩=some (.ref (tl.length+6),⟨gh o vars tolds made (tl++[.list []]),s2⟩):=rfl
theorem gh_setlast:(gh o vars tolds made (tl++[x])).set (tl.length+6) y=gh o vars tolds made (tl++[y]):=by simp [gh]
theorem gh_take {vars' tolds':List AV} {made':List (PV × AV)}:List.take (gh o vars tolds made tl).length (gh o vars' tolds' made' (tl++[x]))=gh o vars' tolds' made' tl:=by simp [gh]
theorem bm_last {k:BM} (h:isLM k=true):bmOk k (.ref (tl.length+6)) ⟨gh o vars tolds made (tl++[.list l]),s2⟩=true:=by
 show (match (gh o vars tolds made (tl++[.list l]))[tl.length+6]? with | some o=>bif isLM k then isLO o else isDO o | none=>false)=true
 rw [gh_last]; show (bif isLM k then _ else _)=true; rw [h]; rfl
theorem bmo_last {k:BM} {vs:List AV} {r:R AV} (h:evBMo k (tl.length+6) (.list l) vs ⟨gh o vars tolds made (tl++[.list l]),s2⟩=r):evBM k (.ref (tl.length+6)) vs ⟨gh o vars tolds made (tl++[.list l]),s2⟩=r:=by
 show ob ((gh o vars tolds made (tl++[.list l]))[tl.length+6]?) _=r
 rw [gh_last]; exact h
theorem bm_append {v:AV} (h:isPV v=true) (h2:decide (l.length<big)=true):evBM .append (.ref (tl.length+6)) [v] ⟨gh o vars tolds made (tl++[.list l]),s2⟩=some (.pv .none,⟨gh o vars tolds made (tl++[.list (l++[v])]),s2⟩):=by
 refine bmo_last ?_
 show (if ((isPV v||_)&&decide _)=true then _ else _)=_
 rw [h,h2]
 show some (AV.pv .none,(⟨(gh o vars tolds made (tl++[.list l])).set (tl.length+6) _,s2⟩:St))=_
 rw [gh_setlast]
theorem bm_sort {r:List PV} (h:sortAV l=some r):evBM .sort (.ref (tl.length+6)) [] ⟨gh o vars tolds made (tl++[.list l]),s2⟩=some (.pv .none,⟨gh o vars tolds made (tl++[.list (r.map .pv)]),s2⟩):=by
 refine bmo_last ?_
 show ob (sortAV l) _=_
 rw [h]
 show some (AV.pv .none,(⟨(gh o vars tolds made (tl++[.list l])).set (tl.length+6) _,s2⟩:St))=_
 rw [gh_setlast]
theorem items_last:itemsOf ⟨gh o vars tolds made (tl++[.list l]),s2⟩ (.ref (tl.length+6))=some l:=by
 show (match (gh o vars tolds made (tl++[.list l]))[tl.length+6]? with | some (.list l)=>some l | _=>none)=some l
 rw [gh_last]
theorem asPV_last {ps:List PV} (h:toPVs l=some ps):asPV ⟨gh o vars tolds made (tl++[.list l]),s2⟩ (.ref (tl.length+6))=some (.lst ps):=by
 show (match (gh o vars tolds made (tl++[.list l]))[tl.length+6]? with | some (.list l)=>(toPVs l).map PV.lst | _=>none)=some (.lst ps)
 rw [gh_last]; show (toPVs l).map _=_; rw [h]; rfl
theorem src_last (h:decide (l.length≤big)=true):srcOf (.ref (tl.length+6)) ⟨gh o vars tolds made (tl++[.list l]),s2⟩=some ⟨l,[(tl.length+6,l)]⟩:=by
 show ob (itemsOf _ _) _=_
 rw [items_last]
 show (if l.length≤big then some (Src.mk l (match (gh o vars tolds made (tl++[.list l]))[tl.length+6]? with | some (.list l)=>[(tl.length+6,l)] | _=>[])) else none)=_
 rw [if_pos (of_decide_eq_true h),gh_last]
theorem held_last:heldOk [(tl.length+6,l)] ⟨gh o vars tolds made (tl++[.list l]),s2⟩=true:=by
 show ((match (gh o vars tolds made (tl++[.list l]))[tl.length+6]? with | some (.list m)=>AV.sames m l | _=>false)&&true)=true
 rw [gh_last]; show (AV.sames l l&&true)=true; rw [AV.sames_self]; rfl
theorem in_last {v:AV} {p:PV} {ps:List PV} (hp:asP v=some p) (hd:decide (depthP p<20)=true) (h:asPVs ⟨gh o vars tolds made (tl++[.list l]),s2⟩ l=some ps):evIn v (.ref (tl.length+6)) ⟨gh o vars tolds made (tl++[.list l]),s2⟩=some (anyP p ps):=by
 show ob ((gh o vars tolds made (tl++[.list l]))[tl.length+6]?) (evInO _ v)=_
 rw [gh_last]; show ob (asP v) _=_
 rw [hp]; show (if depthP p<20 then (asPVs _ l).map (anyP p) else none)=_
 rw [if_pos (of_decide_eq_true hd),h]; rfl
theorem eq_last {q:PV} {ps:List PV} {v:AV} (h:toPVs l=some ps) (hq:asP v=some q) (hd:(depthP (.lst ps)<20||depthP q<20)=true):evEq (.ref (tl.length+6)) v ⟨gh o vars tolds made (tl++[.list l]),s2⟩=some (pyEq (.lst ps) q):=by
 show ob (asPV _ _) _=_
 rw [asPV_last h]
 have e:asPV ⟨gh o vars tolds made (tl++[.list l]),s2⟩ v=some q:=by cases v with
  | pv p=>exact hq
  | _=>cases hq
 show ob (asPV _ v) _=_
 rw [e]; exact if_pos hd
theorem len_last (h:decide (l.length≤big)=true):evBI .len [.ref (tl.length+6)] ⟨gh o vars tolds made (tl++[.list l]),s2⟩=some (.pv (.int l.length),⟨gh o vars tolds made (tl++[.list l]),s2⟩):=by
 show ob (itemsOf _ _) _=_
 rw [items_last]; exact if_pos (of_decide_eq_true h)
theorem tup_last {ps:List PV} (h:toPVs l=some ps) (h2:decide (l.length≤big)=true):evBI .tuple [.ref (tl.length+6)] ⟨gh o vars tolds made (tl++[.list l]),s2⟩=some (.pv (.tup ps),⟨gh o vars tolds made (tl++[.list l]),s2⟩):=by
 have e:lstOf ⟨gh o vars tolds made (tl++[.list l]),s2⟩ (.ref (tl.length+6))=some l:=(if_pos rfl).trans items_last
 show ob (lstOf _ _) _=_
 rw [e]; show (if l.length≤big then some (mkTup l,_) else none)=_; rw [if_pos (of_decide_eq_true h2),mkTup,h]
theorem sub_last {i x:AV} (h:atIdx l i=some x):evSub (.ref (tl.length+6)) i ⟨gh o vars tolds made (tl++[.list l]),s2⟩=some x:=by
 show ob ((gh o vars tolds made (tl++[.list l]))[tl.length+6]?) (evSubO i)=_
 rw [gh_last]; exact h
theorem trim_last {p:PV} {vars' tolds':List AV} {made':List (PV × AV)}:(some (AV.pv p,(⟨List.take (gh o vars tolds made tl).length (gh o vars' tolds' made' (tl++[x])),st⟩:St)):R AV)=some (.pv p,⟨gh o vars' tolds' made' tl,st⟩):=by rw [gh_take]
end
end L3
end Mine
namespace Mine.L3
noncomputable def signsP:List PV:=[.str "/\\", .str "\\/", .str "->", .str "<-", .str "<->", .str "xor"]
noncomputable def tablesP:List PV:=[.tup [.bool false,.bool false,.bool false,.bool true],.tup [.bool false,.bool true,.bool true,.bool true],.tup [.bool true,.bool true,.bool false,.bool true],.tup [.bool true,.bool false,.bool true,.bool true],.tup [.bool true,.bool false,.bool false,.bool true],.tup [.bool false,.bool true,.bool true,.bool false]]
noncomputable def TRl:List PV:=[.tup [.int 0,.int 1]]
section
variable (d:Nat) {o:AObj} {vars tolds:List AV} {made:List (PV × AV)} {tl:List AObj} {st:Bool}
theorem big_lt {n:Nat} (h:n<1000):n<big:=Nat.lt_trans h (by decide)
theorem len_ok {v:AV} {l:List AV} {s:St} (h:itemsOf s v=some l) (h2:l.length≤big):evBI .len [v] s=some (.pv (.int l.length),s):=by
 show ob (itemsOf s v) _=_; rw [h]; exact if_pos h2
theorem size_ok (h:vars.length<1000):callFn P (d+1) 5 [.ref 2] ⟨gh o vars tolds made tl,st⟩=some (.pv (.int vars.length),⟨gh o vars tolds made tl,st⟩):=by
 apply call_with f5 rfl rfl rfl
 ·show evSs _ c5 _ _=_
  unfold c5
  apply SR; apply E_bi; exact rfl
  exact len_ok (l:=vars) rfl (Nat.le_of_lt (big_lt h))
 ·exact rfl
theorem bmo_app {i:Nat} {l:List AV} {v:AV} {s:St} (h:s.heap[i]? = some (.list l)) (hp:isPV v=true) (h2:l.length<big):evBM .append (.ref i) [v] s=some (.pv .none,s.set i (.list (l++[v]))):=by
 show ob (s.heap[i]?) _=_; rw [h]
 show (if ((isPV v||_)&&decide _)=true then _ else _)=_
 rw [hp,decide_eq_true h2]; rfl
theorem newvar_ok {n dm:PV} (h:vars.length<1000) :
  callFn P (d+1) 3 [.ref 2,.pv n,.pv dm] ⟨gh o vars tolds made tl,st⟩=some (.pv (.int vars.length),⟨gh o (vars++[.pv (.tup [n,dm])]) tolds made tl,st⟩):=by
 apply call_with f3 rfl rfl rfl
 ·show evSs _ c3 _ _=_
  unfold c3
  apply SX
  ·apply E_bm; exact rfl; exact rfl; exact rfl
   exact bmo_app (l:=vars) rfl rfl (big_lt h)
  apply SR; apply E_bin
  ·apply E_bi; exact rfl
   exact len_ok (l:=vars++[.pv (.tup [n,dm])]) rfl (by rw [List.length_append]; exact Nat.le_of_lt (Nat.lt_of_lt_of_le (Nat.add_lt_add_right h 1) (by decide)))
  ·exact rfl
  ·exact rfl
 ·show some (AV.pv (.int (((vars++[AV.pv (.tup [n,dm])]).length:Int) - 1)),_)=_
  rw [List.length_append,show ((vars.length+[AV.pv (.tup [n,dm])].length:Nat):Int) - 1=vars.length from by rw [Int.natCast_add]; exact Int.add_sub_cancel _ _]; rfl
theorem post_ok {t:PV} (h:tolds.length<1000) :
  callFn P (d+1) 4 [.ref 2,.pv t] ⟨gh o vars tolds made tl,st⟩=some (.pv .none,⟨gh o vars (tolds++[.pv t]) made tl,st⟩):=by
 apply call_with f4 rfl rfl rfl
 ·show evSs _ c4 _ _=_
  unfold c4
  apply SX
  ·apply E_bm; exact rfl; exact rfl; exact rfl
   exact bmo_app (l:=tolds) rfl rfl (big_lt h)
  exact S_nil
 ·exact rfl
theorem figures_ok (s:St):callFn P (d+1) 7 [.pv (.int 1)] s=some (.pv (.int 1),s):=by
 kernel_rfl
end
end Mine.L3
namespace Mine
mutual
theorem pyE_self:∀ a:PV,pyEq a a=true
 | .none=>rfl
 | .bool _=>beq_self_eq_true _
 | .int _=>beq_self_eq_true _
 | .str _=>beq_self_eq_true _
 | .tup l=>pyEs_self l
 | .lst l=>pyEs_self l
theorem pyEs_self:∀ a:List PV,pyEqs a a=true
 | []=>rfl
 | a::l=>Bool.and_eq_true_iff.mpr ⟨pyE_self a,pyEs_self l⟩
end
theorem lookT_app {k:PV} {v:AV}:∀ {m:List (PV × AV)},lookT k m=none→putT k v m=m++[(k,v)]∧lookT k (m++[(k,v)])=some v
 | [],_=>⟨rfl,by rw [List.nil_append,lookT,pyE_self]; rfl⟩
 | (j,w)::r,h=>by
  cases hj:pyEq j k with
  | true=>rw [lookT,hj] at h; cases h
  | false =>
   rw [lookT,hj] at h
   obtain ⟨h1,h2⟩:=lookT_app (v:=v) h
   exact ⟨by rw [putT,hj]; exact congrArg ((j,w)::·) h1,by rw [List.cons_append,lookT,hj]; exact h2⟩
theorem dictT_get {kvs:List (PV × AV)} {l:List PV} (hk:keysOk l=true) (hd:decide (depthPs l<6)=true):dictGet (.dictT kvs) (.pv (.tup l))=some (lookT (.tup l) kvs):=by
 show (if (keysOk l&&decide _)=true then _ else _)=_; rw [hk,hd]; rfl
namespace L3
section
variable (d:Nat) {o:AObj} {vars tolds:List AV} {made:List (PV × AV)} {tl:List AObj} {st:Bool} {l:List PV}
theorem in_made {b:Option AV} (hk:keysOk l=true) (hd:decide (depthPs l<6)=true) (h:lookT (.tup l) made=b):evIn (.pv (.tup l)) (.ref 5) ⟨gh o vars tolds made tl,st⟩=some b.isSome:=by
 show (dictGet (.dictT made) (.pv (.tup l))).map _=_; rw [dictT_get hk hd,h]; rfl
theorem sub_made {x:AV} (hk:keysOk l=true) (hd:decide (depthPs l<6)=true) (h:lookT (.tup l) made=some x):evSub (.ref 5) (.pv (.tup l)) ⟨gh o vars tolds made tl,st⟩=some x:=by
 show ob (dictGet (.dictT made) (.pv (.tup l))) id=_; rw [dictT_get hk hd,h]; rfl
theorem once_old {n:Nat} (hk:keysOk l=true) (hd:decide (depthPs l<6)=true) (h:lookT (.tup l) made=some (.pv (.int n))) :
  callFn P (d+2) 13 [.ref 1,.pv (.tup l),.pv (.tup TRl)] ⟨gh o vars tolds made tl,st⟩=some (.pv (.tup [.int n,.bool false]),⟨gh o vars tolds made tl,st⟩):=by
 show callFn P (d+1+1) 13 _ _=_
 generalize d+1=k
 apply call_with f13 rfl rfl rfl
 ·show evSs _ c13 _ _=_
  unfold c13
  apply SA; apply E_cmp; exact rfl; exact rfl; apply Cmp_notin; exact in_made hk hd h; exact rfl; apply SIf; exact rfl; apply T_f; exact rfl; apply SR; apply E_tup; apply Es_cons; apply E_sub; exact rfl; exact rfl; exact sub_made hk hd h; exact rfl; exact rfl
 ·exact rfl
noncomputable def numName (n:Nat):PV:=.str (("#" : Str)++showInt n)
theorem hash_len:(Str.ofString "#").length=1:=by decide +kernel
theorem num_name {n:Nat} {s:St} (h:n<1000) {R:R AV} (hr:some (AV.pv (numName n),s)=R):(ob (strJoin [.pv (.str "#"),.pv (.int n)]) fun x=>some (AV.pv (.str x),s))=R:=by
 show (ob (if ((Str.ofString "#").length≤1000&&decide ((n:Int).natAbs<10 ^ 10))=true then _ else none) _)=R
 rw [if_pos (by rw [hash_len,decide_eq_true (show (n:Int).natAbs<10 ^ 10 from Nat.lt_trans (show n<1000 from h) (by decide))]; rfl)]; exact hr
theorem put_made {v:PV} (hk:keysOk l=true) (hd:decide (depthPs l<6)=true) (h:lookT (.tup l) made=none) (hm:made.length<1000):dictPut (.dictT made) (.pv (.tup l)) (.pv v)=some (.dictT (made++[(.tup l,.pv v)])):=by
 show (if (decide (made.length<big)&&keysOk l&&decide _)=true then _ else _)=_
 rw [hk,hd,decide_eq_true (big_lt hm),(lookT_app h).1]; rfl
theorem E_fstr {C:Ctx} {Γ:Env} {es:CEs} {vs:List AV} {s s1:St} {R:R AV} (h:evEs C Γ es s=some (vs,s1)) (h2:(ob (strJoin vs) fun x=>some (AV.pv (.str x),s1))=R):evE C Γ (.fstr es) s=R:=by
 show bnd (evEs C Γ es s) _=R; rw [h]; exact h2
theorem S_setSub {C:Ctx} {Γ:Env} {a i e:CE} {j:Nat} {v k:AV} {s s1 s2 s3:St} {m m':AObj} (h:evE C Γ e s=some (v,s1)) (h2:evE C Γ a s1=some (.ref j,s2)) (h3:evE C Γ i s2=some (k,s3)) (h4:s3.heap[j]? = some m) (hp:isPV v=true) (h5:dictPut m k v=some m'):evS C (.setSub a i e) Γ s=some ((.next,Γ),s3.set j m'):=by
 show bnd (evE C Γ e s) _=_; rw [h]
 show bnd (evE C Γ a s1) _=_; rw [h2]
 show bnd (evE C Γ i s2) _=_; rw [h3]
 show ob (s3.heap[j]?) _=_; rw [h4]
 show (if (isPV v||_)=true then _ else _)=_; rw [hp]
 show ob (dictPut m k v) _=_; rw [h5]; rfl
theorem once_new (hk:keysOk l=true) (hd:decide (depthPs l<6)=true) (h:lookT (.tup l) made=none) (hv:vars.length<1000) (hm:made.length<1000) :
  callFn P (d+2) 13 [.ref 1,.pv (.tup l),.pv (.tup TRl)] ⟨gh o vars tolds made tl,st⟩=some (.pv (.tup [.int vars.length,.bool true]),⟨gh o (vars++[.pv (.tup [numName vars.length,.tup TRl])]) tolds (made++[(.tup l,.pv (.int vars.length))]) tl,st⟩):=by
 have hs:=size_ok d (o:=o) (tolds:=tolds) (made:=made) (tl:=tl) (st:=st) hv
 have hn:=newvar_ok d (o:=o) (tolds:=tolds) (made:=made) (tl:=tl) (st:=st) (n:=numName vars.length) (dm:=.tup TRl) hv
 have hf:=figures_ok d ⟨gh o vars tolds made tl,st⟩
 show callFn P (d+1+1) 13 _ _=_
 generalize d+1=k at hs hn hf ⊢
 apply call_with f13 rfl rfl rfl
 ·show evSs _ c13 _ _=_
  unfold c13
  apply SA; apply E_cmp; exact rfl; exact rfl; apply Cmp_notin; exact in_made hk hd h; exact rfl; apply SIf; exact rfl; apply T_t; exact rfl; apply S_step; apply S_for; exact rfl; apply F_step; exact rfl; apply SX; exact hf; exact S_nil; apply KF_next; exact rfl; exact F_nil; apply K_next; apply S_step; apply S_setSub; apply E_meth; exact rfl; exact rfl; exact rfl; exact rfl; apply Es_cons; apply E_fstr; apply Es_cons; exact rfl; apply Es_cons; exact hs; exact rfl; exact num_name hv rfl; exact rfl; exact hn; exact rfl; exact rfl; exact rfl; exact rfl; exact put_made hk hd h hm; apply K_next; exact S_nil; apply K_next; apply SR; apply E_tup; apply Es_cons; apply E_sub; exact rfl; exact rfl; exact sub_made hk hd (lookT_app h).2; exact rfl; exact rfl
 ·exact rfl
end
end L3
end Mine
namespace Mine.L3
section
variable {o:AObj} {vars tolds:List AV} {made:List (PV × AV)} {tl:List AObj} {st:Bool} {x y:AObj}
variable (d:Nat)
theorem con_bit (n:Int) (s:Bool) (σ:St):callFn P (d+1) 10 [.pv (PV.tup [.str "bit", .int n,.bool s])] σ=some (.pv (PV.tup [.str "bit", .int n,.bool (!s)]),σ):=rfl
theorem con_bool (v:Bool) (σ:St):callFn P (d+1) 10 [.pv (.bool v)] σ=some (.pv (.bool !v),σ):=rfl
noncomputable def clP (ups downs:List PV):PV:=.tup [.str "clause", .tup ups,.tup downs]
theorem bitLt_t {n m:Int} {s t:Bool} (h:n<m):bitLt (n,s) (m,t)=true:=by
 show (decide (n<m)||_)=true; rw [decide_eq_true h]; rfl
theorem bitLt_f {n m:Int} {s t:Bool} (h:n<m):bitLt (m,s) (n,t)=false:=by
 show (decide (m<n)||(decide (m=n)&&_&&_))=false
 rw [decide_eq_false (Int.not_lt.mpr (Int.le_of_lt h)),decide_eq_false (fun e:m=n=>Int.lt_irrefl n (e▸h))]; rfl
theorem bits_of:∀ bs:List (Int × Bool),bitsOf ((bs.map bitPV).map .pv)=some bs
 | []=>rfl
 | a::r=>by
  show (match bitOf (bitPV a) with | none=>none | some x=>match bitsOf ((r.map bitPV).map .pv) with | none=>none | some l=>some (x::l))=_
  rw [show bitOf (bitPV a)=some a from (if_pos rfl:(if ("bit" : Str) = "bit" then some (a.1,a.2) else none)=some a),bits_of r]
theorem sort_of {a:Int × Bool} {bs r:List (Int × Bool)} (h3:(a::bs).length≤3) (h4:sortB (a::bs)=r):sortAV (((a::bs).map bitPV).map .pv)=some (r.map bitPV):=by
 show (match bitsOf (((a::bs).map bitPV).map .pv) with | some bs=>if bs.length≤3 then some ((sortB bs).map bitPV) else none | none=>none)=_
 rw [bits_of]; exact (if_pos h3).trans (by rw [h4])
theorem ins_t {a b:Int × Bool} {r s:List (Int × Bool)} (h:bitLt b a=true) (h2:insB a r=s):insB a (b::r)=b::s:=by rw [insB,if_pos h,h2]
theorem ins_f {a b:Int × Bool} {r:List (Int × Bool)} (h:bitLt b a=false):insB a (b::r)=a::b::r:=by rw [insB,h]; rfl
theorem sort_gt {n m:Int} {s t:Bool} (h:n<m):sortAV [.pv (PV.tup [.str "bit", .int m,.bool s]),.pv (PV.tup [.str "bit", .int n,.bool t])]=some [PV.tup [.str "bit", .int n,.bool t],PV.tup [.str "bit", .int m,.bool s]] :=
 sort_of (a:=(m,s)) (bs:=[(n,t)]) (r:=[(n,t),(m,s)]) (Nat.le_of_ble_eq_true rfl) (ins_t (bitLt_t h) rfl)
theorem sort_3 {i j b:Int} {s t u:Bool} (h:i<j) (h':j<b):sortAV [.pv (PV.tup [.str "bit", .int b,.bool u]),.pv (PV.tup [.str "bit", .int i,.bool s]),.pv (PV.tup [.str "bit", .int j,.bool t])]=some [PV.tup [.str "bit", .int i,.bool s],PV.tup [.str "bit", .int j,.bool t],PV.tup [.str "bit", .int b,.bool u]] :=
 sort_of (a:=(b,u)) (bs:=[(i,s),(j,t)]) (r:=[(i,s),(j,t),(b,u)]) (Nat.le_of_ble_eq_true rfl) (by
  rw [sortB,show sortB [(i,s),(j,t)]=[(i,s),(j,t)] from ins_f (bitLt_f h)]
  exact ins_t (bitLt_t (Int.lt_trans h h')) (ins_t (bitLt_t h') rfl))
theorem bi_sorted {l:List PV} {r:List PV} {s:St} (h:sortAV (l.map .pv)=some r):evBI .sorted [.pv (.lst l)] s=some (.pv (.lst r),s):=by
 show ob (sortAV (l.map .pv)) _=_; rw [h]; rfl
theorem sset_of {l:List PV} {is:List Int} {s:St} (h:allInts (l.map .pv)=some is) (hl:incI is=true) (hs:smallI is=true):evBI .sortedSet [.pv (.lst l)] s=some (.pv (.lst (intsAV is)),s):=by
 show ob (ob (allInts (l.map .pv)) _) _=_; rw [h]
 show ob (if (incI is&&smallI is)=true then some is else none) _=_
 rw [hl,hs]; rfl
theorem small_1 {n:Int} (h:0≤n) (h':n<32) {r:List Int} (hr:smallI r=true):smallI (n::r)=true:=by
 show ((decide (0≤n)&&decide (n<32))&&smallI r)=true; rw [decide_eq_true h,decide_eq_true h',hr]; rfl
theorem sset_1 {n:Int} {s:St} (h:0≤n) (h':n<32):evBI .sortedSet [.pv (.lst [.int n])] s=some (.pv (.lst [.int n]),s) :=
 sset_of (is:=[n]) rfl rfl (small_1 h h' rfl)
theorem sset_2 {n m:Int} {s:St} (h:0≤n) (hn:n<m) (h':m<32):evBI .sortedSet [.pv (.lst [.int n,.int m])] s=some (.pv (.lst [.int n,.int m]),s) :=
 sset_of (is:=[n,m]) rfl (by show (decide (n<m)&&true)=true; rw [decide_eq_true hn]; rfl) (small_1 h (Int.lt_trans hn h') (small_1 (Int.le_trans h (Int.le_of_lt hn)) h' rfl))
theorem ne_of_lt' {n m:Int} (h:n<m):(m == n)=false:=beq_false_of_ne fun e=>Int.lt_irrefl n (e▸h)
theorem ne_of_lt {n m:Int} (h:n<m):(n == m)=false:=beq_false_of_ne fun e=>Int.lt_irrefl n (e.symm▸h)
set_option maxHeartbeats 2000000 in
theorem rs_t {b n:Int} (hn:0≤n) (h:n<b) (hb:b<32) (ht:tolds.length<1000) :
  callFn P (d+2) 19 [.ref 1,.pv (.lst [(PV.tup [.str "bit", .int b,.bool false]),(PV.tup [.str "bit", .int n,.bool true])])] ⟨gh o vars tolds made tl,st⟩=some (.pv .none,⟨gh o vars (tolds++[.pv (clP [.int n] [.int b])]) made tl,st⟩):=by
 have hp:=fun t=>post_ok d (o:=o) (vars:=vars) (made:=made) (tl:=tl) (st:=st) (t:=t) ht
 have hc:=con_bit d
 have hne:=ne_of_lt h
 have hb0:=Int.le_trans hn (Int.le_of_lt h)
 have hn32:=Int.lt_trans h hb
 show callFn P (d+1+1) 19 _ _=_
 generalize d+1=k at hp hc ⊢
 apply call_with f19 rfl rfl rfl
 ·show evSs _ c19 _ _=_
  unfold c19
  apply SIf
  ·apply E_or; apply B_two; exact rfl; apply Bf_go; exact rfl; apply B_one; apply E_cmp; apply E_comp; apply L_cons; exact rfl; exact rfl; apply It_cons; exact rfl; apply Ifs_cons; apply E_and; apply B_two; exact rfl; apply Bt_go; exact rfl; apply B_one; apply E_cmp; apply E_call; exact rfl; apply C_call; exact hc _ _ _; exact rfl; exact rfl; apply If_f; refine any_miss ?_ ?_; exact bit_con; refine any_miss ?_ ?_; exact bit_ne (by assumption); exact rfl; apply Mo_f; exact rfl; exact rfl; apply It_cons; exact rfl; apply Ifs_cons; apply E_and; apply B_two; exact rfl; apply Bt_go; exact rfl; apply B_one; apply E_cmp; apply E_call; exact rfl; apply C_call; exact hc _ _ _; exact rfl; exact rfl; apply If_f; refine any_miss ?_ ?_; exact ne_bit (by assumption); refine any_miss ?_ ?_; exact bit_con; exact rfl; apply Mo_f; exact rfl; exact rfl; exact rfl; exact rfl; exact rfl; exact rfl; exact rfl
  apply T_f
  ·exact rfl
  apply SA
  ·apply E_bi; exact rfl; exact bi_sorted (sort_gt h)
  ·exact rfl
  apply SA; exact rfl; exact rfl
  apply SX; apply E_meth; apply E_attr; exact rfl; exact rfl; exact rfl; exact rfl; exact rfl; apply Es_cons; apply E_tup; apply Es_cons; exact rfl; apply Es_cons; apply E_bi; apply Es_cons; exact sset_1 hn hn32; exact rfl; exact rfl; apply Es_cons; apply E_bi; apply Es_cons; exact sset_1 hb0 hb; exact rfl; exact rfl; exact rfl; exact rfl; exact rfl; apply C_call; exact hp _; exact S_nil
 ·exact rfl
set_option maxHeartbeats 2000000 in
theorem rs_f {b n:Int} (hn:0≤n) (h:n<b) (hb:b<32) (ht:tolds.length<1000) :
  callFn P (d+2) 19 [.ref 1,.pv (.lst [(PV.tup [.str "bit", .int b,.bool false]),(PV.tup [.str "bit", .int n,.bool false])])] ⟨gh o vars tolds made tl,st⟩=some (.pv .none,⟨gh o vars (tolds++[.pv (clP [] [.int n,.int b])]) made tl,st⟩):=by
 have hp:=fun t=>post_ok d (o:=o) (vars:=vars) (made:=made) (tl:=tl) (st:=st) (t:=t) ht
 have hc:=con_bit d
 have hne:=ne_of_lt h
 show callFn P (d+1+1) 19 _ _=_
 generalize d+1=k at hp hc ⊢
 apply call_with f19 rfl rfl rfl
 ·show evSs _ c19 _ _=_
  unfold c19
  apply SIf
  ·apply E_or; apply B_two; exact rfl; apply Bf_go; exact rfl; apply B_one; apply E_cmp; apply E_comp; apply L_cons; exact rfl; exact rfl; apply It_cons; exact rfl; apply Ifs_cons; apply E_and; apply B_two; exact rfl; apply Bt_go; exact rfl; apply B_one; apply E_cmp; apply E_call; exact rfl; apply C_call; exact hc _ _ _; exact rfl; exact rfl; apply If_f; refine any_miss ?_ ?_; exact bit_con; refine any_miss ?_ ?_; exact bit_ne (by assumption); exact rfl; apply Mo_f; exact rfl; exact rfl; apply It_cons; exact rfl; apply Ifs_cons; apply E_and; apply B_two; exact rfl; apply Bt_go; exact rfl; apply B_one; apply E_cmp; apply E_call; exact rfl; apply C_call; exact hc _ _ _; exact rfl; exact rfl; apply If_f; refine any_miss ?_ ?_; exact ne_bit (by assumption); refine any_miss ?_ ?_; exact bit_con; exact rfl; apply Mo_f; exact rfl; exact rfl; exact rfl; exact rfl; exact rfl; exact rfl; exact rfl
  apply T_f
  ·exact rfl
  apply SA
  ·apply E_bi; exact rfl; exact bi_sorted (sort_gt h)
  ·exact rfl
  apply SA; exact rfl; exact rfl
  apply SX; apply E_meth; apply E_attr; exact rfl; exact rfl; exact rfl; exact rfl; exact rfl; apply Es_cons; apply E_tup; apply Es_cons; exact rfl; apply Es_cons; apply E_bi; exact rfl; exact rfl; apply Es_cons; apply E_bi; apply Es_cons; exact sset_2 hn h hb; exact rfl; exact rfl; exact rfl; exact rfl; exact rfl; apply C_call; exact hp _; exact S_nil
 ·exact rfl
set_option maxHeartbeats 2000000 in
theorem rs_ft {b i j:Int} (hi:0≤i) (h:i<j) (h':j<b) (hb:b<32) (ht:tolds.length<1000) :
  callFn P (d+2) 19 [.ref 1,.pv (.lst [(PV.tup [.str "bit", .int b,.bool true]),(PV.tup [.str "bit", .int i,.bool false]),(PV.tup [.str "bit", .int j,.bool true])])] ⟨gh o vars tolds made tl,st⟩=some (.pv .none,⟨gh o vars (tolds++[.pv (clP [.int j,.int b] [.int i])]) made tl,st⟩):=by
 have hp:=fun t=>post_ok d (o:=o) (vars:=vars) (made:=made) (tl:=tl) (st:=st) (t:=t) ht
 have hc:=con_bit d
 have hib:=Int.lt_trans h h'
 have e1:=ne_of_lt h
 have e2:=ne_of_lt h'
 have e3:=ne_of_lt hib
 have hj:=Int.le_trans hi (Int.le_of_lt h)
 have j32:=Int.lt_trans h' hb
 show callFn P (d+1+1) 19 _ _=_
 generalize d+1=k at hp hc ⊢
 apply call_with f19 rfl rfl rfl
 ·show evSs _ c19 _ _=_
  unfold c19
  apply SIf
  ·apply E_or; apply B_two; exact rfl; apply Bf_go; exact rfl; apply B_one; apply E_cmp; apply E_comp; apply L_cons; exact rfl; exact rfl; apply It_cons; exact rfl; apply Ifs_cons; apply E_and; apply B_two; exact rfl; apply Bt_go; exact rfl; apply B_one; apply E_cmp; apply E_call; exact rfl; apply C_call; exact hc _ _ _; exact rfl; exact rfl; apply If_f; refine any_miss ?_ ?_; exact bit_con; refine any_miss ?_ ?_; exact bit_ne (by assumption); refine any_miss ?_ ?_; exact bit_ne (by assumption); exact rfl; apply Mo_f; exact rfl; exact rfl; apply It_cons; exact rfl; apply Ifs_cons; apply E_and; apply B_two; exact rfl; apply Bt_go; exact rfl; apply B_one; apply E_cmp; apply E_call; exact rfl; apply C_call; exact hc _ _ _; exact rfl; exact rfl; apply If_f; refine any_miss ?_ ?_; exact ne_bit (by assumption); refine any_miss ?_ ?_; exact bit_con; refine any_miss ?_ ?_; exact ne_bit (by assumption); exact rfl; apply Mo_f; exact rfl; exact rfl; apply It_cons; exact rfl; apply Ifs_cons; apply E_and; apply B_two; exact rfl; apply Bt_go; exact rfl; apply B_one; apply E_cmp; apply E_call; exact rfl; apply C_call; exact hc _ _ _; exact rfl; exact rfl; apply If_f; refine any_miss ?_ ?_; exact ne_bit (by assumption); refine any_miss ?_ ?_; exact bit_ne (by assumption); refine any_miss ?_ ?_; exact bit_con; exact rfl; apply Mo_f; exact rfl; exact rfl; exact rfl; exact rfl; exact rfl; exact rfl; exact rfl
  apply T_f
  ·exact rfl
  apply SA
  ·apply E_bi; exact rfl; exact bi_sorted (sort_3 h h')
  ·exact rfl
  apply SA; exact rfl; exact rfl
  apply SX; apply E_meth; apply E_attr; exact rfl; exact rfl; exact rfl; exact rfl; exact rfl; apply Es_cons; apply E_tup; apply Es_cons; exact rfl; apply Es_cons; apply E_bi; apply Es_cons; exact sset_2 hj h' hb; exact rfl; exact rfl; apply Es_cons; apply E_bi; apply Es_cons; exact sset_1 hi (Int.lt_trans h j32); exact rfl; exact rfl; exact rfl; exact rfl; exact rfl; apply C_call; exact hp _; exact S_nil
 ·exact rfl
set_option maxHeartbeats 2000000 in
theorem rs_tf {b i j:Int} (hi:0≤i) (h:i<j) (h':j<b) (hb:b<32) (ht:tolds.length<1000) :
  callFn P (d+2) 19 [.ref 1,.pv (.lst [(PV.tup [.str "bit", .int b,.bool true]),(PV.tup [.str "bit", .int i,.bool true]),(PV.tup [.str "bit", .int j,.bool false])])] ⟨gh o vars tolds made tl,st⟩=some (.pv .none,⟨gh o vars (tolds++[.pv (clP [.int i,.int b] [.int j])]) made tl,st⟩):=by
 have hp:=fun t=>post_ok d (o:=o) (vars:=vars) (made:=made) (tl:=tl) (st:=st) (t:=t) ht
 have hc:=con_bit d
 have hib:=Int.lt_trans h h'
 have e1:=ne_of_lt h
 have e2:=ne_of_lt h'
 have e3:=ne_of_lt hib
 have hj:=Int.le_trans hi (Int.le_of_lt h)
 have j32:=Int.lt_trans h' hb
 show callFn P (d+1+1) 19 _ _=_
 generalize d+1=k at hp hc ⊢
 apply call_with f19 rfl rfl rfl
 ·show evSs _ c19 _ _=_
  unfold c19
  apply SIf
  ·apply E_or; apply B_two; exact rfl; apply Bf_go; exact rfl; apply B_one; apply E_cmp; apply E_comp; apply L_cons; exact rfl; exact rfl; apply It_cons; exact rfl; apply Ifs_cons; apply E_and; apply B_two; exact rfl; apply Bt_go; exact rfl; apply B_one; apply E_cmp; apply E_call; exact rfl; apply C_call; exact hc _ _ _; exact rfl; exact rfl; apply If_f; refine any_miss ?_ ?_; exact bit_con; refine any_miss ?_ ?_; exact bit_ne (by assumption); refine any_miss ?_ ?_; exact bit_ne (by assumption); exact rfl; apply Mo_f; exact rfl; exact rfl; apply It_cons; exact rfl; apply Ifs_cons; apply E_and; apply B_two; exact rfl; apply Bt_go; exact rfl; apply B_one; apply E_cmp; apply E_call; exact rfl; apply C_call; exact hc _ _ _; exact rfl; exact rfl; apply If_f; refine any_miss ?_ ?_; exact ne_bit (by assumption); refine any_miss ?_ ?_; exact bit_con; refine any_miss ?_ ?_; exact ne_bit (by assumption); exact rfl; apply Mo_f; exact rfl; exact rfl; apply It_cons; exact rfl; apply Ifs_cons; apply E_and; apply B_two; exact rfl; apply Bt_go; exact rfl; apply B_one; apply E_cmp; apply E_call; exact rfl; apply C_call; exact hc _ _ _; exact rfl; exact rfl; apply If_f; refine any_miss ?_ ?_; exact ne_bit (by assumption); refine any_miss ?_ ?_; exact bit_ne (by assumption); refine any_miss ?_ ?_; exact bit_con; exact rfl; apply Mo_f; exact rfl; exact rfl; exact rfl; exact rfl; exact rfl; exact rfl; exact rfl
  apply T_f
  ·exact rfl
  apply SA
  ·apply E_bi; exact rfl; exact bi_sorted (sort_3 h h')
  ·exact rfl
  apply SA; exact rfl; exact rfl
  apply SX; apply E_meth; apply E_attr; exact rfl; exact rfl; exact rfl; exact rfl; exact rfl; apply Es_cons; apply E_tup; apply Es_cons; exact rfl; apply Es_cons; apply E_bi; apply Es_cons; exact sset_2 hi hib hb; exact rfl; exact rfl; apply Es_cons; apply E_bi; apply Es_cons; exact sset_1 hj j32; exact rfl; exact rfl; exact rfl; exact rfl; exact rfl; apply C_call; exact hp _; exact S_nil
 ·exact rfl
end
noncomputable def dropS:Nat→CSs→CSs
 | 0,c=>c
 | n+1,.cons _ r=>dropS n r
 | _+1,.nil=>.nil
section
variable {o:AObj} {vars tolds:List AV} {made:List (PV × AV)} {tl:List AObj} {st:Bool} {x y:AObj}
variable (d:Nat)
theorem all_f (b:PV):callFn P (d+3) 16 [.ref 1,.pv (.lst [.bool false,b])] ⟨gh o vars tolds made tl,st⟩=some (.pv (.bool false),⟨gh o vars tolds made tl,st⟩):=by
 show callFn P (d+2+1) 16 _ _=_
 generalize d+2=k
 apply call_trim f16 rfl rfl rfl
 ·show evSs _ c16 _ _=_
  unfold c16
  apply SA; exact E_new; exact rfl; apply S_step; apply S_for; exact rfl; apply F_step; exact rfl; apply SIf; exact rfl; apply T_t; exact rfl; apply SR; exact rfl; exact K_ret; exact KF_ret; exact K_ret
 ·exact rfl
 ·exact trim_last
theorem all_tt (v:Bool):callFn P (d+3) 16 [.ref 1,.pv (.lst [.bool true,.bool v])] ⟨gh o vars tolds made tl,st⟩=some (.pv (.bool v),⟨gh o vars tolds made tl,st⟩):=by
 have hc:=con_bool (d+1)
 show callFn P (d+2+1) 16 _ _=_
 generalize d+2=k at hc ⊢
 cases v
 ·apply call_trim f16 rfl rfl rfl
  ·show evSs _ c16 _ _=_
   unfold c16
   apply SA; exact E_new; exact rfl; apply S_step; apply S_for; exact rfl; apply F_step; exact rfl; apply SIf; apply E_or; apply B_two; exact rfl; apply Bf_go; exact rfl; apply B_one; apply E_cmp; apply E_call; exact rfl; apply C_call; exact hc _ _; exact rfl; apply Cmp_inn; exact in_last rfl rfl rfl; apply T_f; exact rfl; apply SIf; exact rfl; apply T_f; exact rfl; exact S_nil; apply KF_next; exact rfl; apply F_step; exact rfl; apply SIf; exact rfl; apply T_t; exact rfl; apply SR; exact rfl; exact K_ret; exact KF_ret; exact K_ret
  ·exact rfl
  ·exact trim_last
 ·apply call_trim f16 rfl rfl rfl
  ·show evSs _ c16 _ _=_
   unfold c16
   apply SA; exact E_new; exact rfl; apply S_step; apply S_for; exact rfl; apply F_step; exact rfl; apply SIf; apply E_or; apply B_two; exact rfl; apply Bf_go; exact rfl; apply B_one; apply E_cmp; apply E_call; exact rfl; apply C_call; exact hc _ _; exact rfl; apply Cmp_inn; exact in_last rfl rfl rfl; apply T_f; exact rfl; apply SIf; exact rfl; apply T_f; exact rfl; exact S_nil; apply KF_next; exact rfl; apply F_step; exact rfl; apply SIf; apply E_or; apply B_two; exact rfl; apply Bf_go; exact rfl; apply B_one; apply E_cmp; apply E_call; exact rfl; apply C_call; exact hc _ _; exact rfl; apply Cmp_inn; exact in_last rfl rfl rfl; apply T_f; exact rfl; apply SIf; exact rfl; apply T_f; exact rfl; exact S_nil; apply KF_next; exact rfl; exact F_nil; apply K_next; apply SIf; apply E_cmp; apply E_bi; exact rfl; exact len_last rfl; exact rfl; exact rfl; apply T_t; exact rfl; apply SR; apply E_ife; apply E_cmp; exact rfl; exact rfl; apply Cmp_ne; exact eq_last rfl rfl rfl; apply Br_f; exact rfl; exact rfl; exact K_ret
  ·exact rfl
  ·exact trim_last
theorem all_tb (n:Int) (s:Bool):callFn P (d+3) 16 [.ref 1,.pv (.lst [.bool true,(PV.tup [.str "bit", .int n,.bool s])])] ⟨gh o vars tolds made tl,st⟩=some (.pv (PV.tup [.str "bit", .int n,.bool s]),⟨gh o vars tolds made tl,st⟩):=by
 have hc:=con_bool (d+1)
 have hc':=con_bit (d+1)
 show callFn P (d+2+1) 16 _ _=_
 generalize d+2=k at hc hc' ⊢
 apply call_trim f16 rfl rfl rfl
 ·show evSs _ c16 _ _=_
  unfold c16
  apply SA; exact E_new; exact rfl; apply S_step; apply S_for; exact rfl; apply F_step; exact rfl; apply SIf; apply E_or; apply B_two; exact rfl; apply Bf_go; exact rfl; apply B_one; apply E_cmp; apply E_call; exact rfl; apply C_call; exact hc _ _; exact rfl; apply Cmp_inn; exact in_last rfl rfl rfl; apply T_f; exact rfl; apply SIf; exact rfl; apply T_f; exact rfl; exact S_nil; apply KF_next; exact rfl; apply F_step; exact rfl; apply SIf; apply E_or; apply B_two; exact rfl; apply Bf_go; exact rfl; apply B_one; apply E_cmp; apply E_call; exact rfl; apply C_call; exact hc' _ _ _; exact rfl; apply Cmp_inn; exact in_last rfl rfl rfl; apply T_f; exact rfl; apply SIf; apply E_and; apply B_two; exact rfl; apply Bt_go; exact rfl; apply B_one; apply E_cmp; exact rfl; exact rfl; apply Cmp_notin; exact in_last rfl rfl rfl; apply T_t; exact rfl; apply SX; apply E_bm; exact rfl; exact bm_last rfl; exact rfl; exact bm_append rfl rfl; exact S_nil; apply K_next; exact S_nil; apply KF_next; exact rfl; exact F_nil; apply K_next; apply SIf; apply E_cmp; apply E_bi; exact rfl; exact len_last rfl; exact rfl; exact rfl; apply T_t; exact rfl; apply SR; apply E_ife; apply E_cmp; exact rfl; exact rfl; apply Cmp_ne; exact eq_last rfl rfl rfl; apply Br_t; exact rfl; apply E_sub; exact rfl; exact rfl; exact sub_last rfl; exact K_ret
 ·exact rfl
 ·exact trim_last
theorem all_bt (n:Int) (s v:Bool):callFn P (d+3) 16 [.ref 1,.pv (.lst [(PV.tup [.str "bit", .int n,.bool s]),.bool v])] ⟨gh o vars tolds made tl,st⟩=some (.pv (if v then (PV.tup [.str "bit", .int n,.bool s]) else .bool false),⟨gh o vars tolds made tl,st⟩):=by
 have hc:=con_bool (d+1)
 have hc':=con_bit (d+1)
 show callFn P (d+2+1) 16 _ _=_
 generalize d+2=k at hc hc' ⊢
 cases v
 ·apply call_trim f16 rfl rfl rfl
  ·show evSs _ c16 _ _=_
   unfold c16
   apply SA; exact E_new; exact rfl; apply S_step; apply S_for; exact rfl; apply F_step; exact rfl; apply SIf; apply E_or; apply B_two; exact rfl; apply Bf_go; exact rfl; apply B_one; apply E_cmp; apply E_call; exact rfl; apply C_call; exact hc' _ _ _; exact rfl; apply Cmp_inn; exact in_last rfl rfl rfl; apply T_f; exact rfl; apply SIf; apply E_and; apply B_two; exact rfl; apply Bt_go; exact rfl; apply B_one; apply E_cmp; exact rfl; exact rfl; apply Cmp_notin; exact in_last rfl rfl rfl; apply T_t; exact rfl; apply SX; apply E_bm; exact rfl; exact bm_last rfl; exact rfl; exact bm_append rfl rfl; exact S_nil; apply K_next; exact S_nil; apply KF_next; exact rfl; apply F_step; exact rfl; apply SIf; exact rfl; apply T_t; exact rfl; apply SR; exact rfl; exact K_ret; exact KF_ret; exact K_ret
  ·exact rfl
  ·exact trim_last
 ·apply call_trim f16 rfl rfl rfl
  ·show evSs _ c16 _ _=_
   unfold c16
   apply SA; exact E_new; exact rfl; apply S_step; apply S_for; exact rfl; apply F_step; exact rfl; apply SIf; apply E_or; apply B_two; exact rfl; apply Bf_go; exact rfl; apply B_one; apply E_cmp; apply E_call; exact rfl; apply C_call; exact hc' _ _ _; exact rfl; apply Cmp_inn; exact in_last rfl rfl rfl; apply T_f; exact rfl; apply SIf; apply E_and; apply B_two; exact rfl; apply Bt_go; exact rfl; apply B_one; apply E_cmp; exact rfl; exact rfl; apply Cmp_notin; exact in_last rfl rfl rfl; apply T_t; exact rfl; apply SX; apply E_bm; exact rfl; exact bm_last rfl; exact rfl; exact bm_append rfl rfl; exact S_nil; apply K_next; exact S_nil; apply KF_next; exact rfl; apply F_step; exact rfl; apply SIf; apply E_or; apply B_two; exact rfl; apply Bf_go; exact rfl; apply B_one; apply E_cmp; apply E_call; exact rfl; apply C_call; exact hc _ _; exact rfl; apply Cmp_inn; exact in_last rfl rfl rfl; apply T_f; exact rfl; apply SIf; exact rfl; apply T_f; exact rfl; exact S_nil; apply KF_next; exact rfl; exact F_nil; apply K_next; apply SIf; apply E_cmp; apply E_bi; exact rfl; exact len_last rfl; exact rfl; exact rfl; apply T_t; exact rfl; apply SR; apply E_ife; apply E_cmp; exact rfl; exact rfl; apply Cmp_ne; exact eq_last rfl rfl rfl; apply Br_t; exact rfl; apply E_sub; exact rfl; exact rfl; exact sub_last rfl; exact K_ret
  ·exact rfl
  ·exact trim_last
theorem all_same0 (n:Int) (t:Bool):callFn P (d+3) 16 [.ref 1,.pv (.lst [(PV.tup [.str "bit", .int n,.bool t]),(PV.tup [.str "bit", .int n,.bool t])])] ⟨gh o vars tolds made tl,st⟩=some (.pv (PV.tup [.str "bit", .int n,.bool t]),⟨gh o vars tolds made tl,st⟩):=by
 have hc:=con_bit (d+1)
 show callFn P (d+2+1) 16 _ _=_
 generalize d+2=k at hc ⊢
 apply call_trim f16 rfl rfl rfl
 ·show evSs _ c16 _ _=_
  unfold c16
  apply SA; exact E_new; exact rfl; apply S_step; apply S_for; exact rfl; apply F_step; exact rfl; apply SIf; apply E_or; apply B_two; exact rfl; apply Bf_go; exact rfl; apply B_one; apply E_cmp; apply E_call; exact rfl; apply C_call; exact hc _ _ _; exact rfl; apply Cmp_inn; exact in_last rfl rfl rfl; apply T_f; exact rfl; apply SIf; apply E_and; apply B_two; exact rfl; apply Bt_go; exact rfl; apply B_one; apply E_cmp; exact rfl; exact rfl; apply Cmp_notin; exact in_last rfl rfl rfl; apply T_t; exact rfl; apply SX; apply E_bm; exact rfl; exact bm_last rfl; exact rfl; exact bm_append rfl rfl; exact S_nil; apply K_next; exact S_nil; apply KF_next; exact rfl; apply F_step; exact rfl; apply SIf; apply E_or; apply B_two; exact rfl; apply Bf_go; exact rfl; apply B_one; apply E_cmp; apply E_call; exact rfl; apply C_call; exact hc _ _ _; exact rfl; apply Cmp_inn; exact in_last rfl rfl rfl; apply T_f; refine any_miss ?_ ?_; exact bit_con; exact rfl; apply SIf; apply E_and; apply B_two; exact rfl; apply Bt_go; exact rfl; apply B_one; apply E_cmp; exact rfl; exact rfl; apply Cmp_notin; exact in_last rfl rfl rfl; apply T_f; refine not_f ?_; refine any_hit ?_; exact bit_same; exact S_nil; apply KF_next; exact rfl; exact F_nil; apply K_next; apply SIf; apply E_cmp; apply E_bi; exact rfl; exact len_last rfl; exact rfl; exact rfl; apply T_t; exact rfl; apply SR; apply E_ife; apply E_cmp; exact rfl; exact rfl; apply Cmp_ne; exact eq_last rfl rfl rfl; apply Br_t; exact rfl; apply E_sub; exact rfl; exact rfl; exact sub_last rfl; exact K_ret
 ·exact rfl
 ·exact trim_last
theorem all_same1 (n:Int) (t u:Bool) (h:pyEq (PV.tup [.str "bit", .int n,.bool u]) (PV.tup [.str "bit", .int n,.bool !t])=true):callFn P (d+3) 16 [.ref 1,.pv (.lst [(PV.tup [.str "bit", .int n,.bool u]),(PV.tup [.str "bit", .int n,.bool t])])] ⟨gh o vars tolds made tl,st⟩=some (.pv (.bool false),⟨gh o vars tolds made tl,st⟩):=by
 have hc:=con_bit (d+1)
 show callFn P (d+2+1) 16 _ _=_
 generalize d+2=k at hc ⊢
 apply call_trim f16 rfl rfl rfl
 ·show evSs _ c16 _ _=_
  unfold c16
  apply SA; exact E_new; exact rfl; apply S_step; apply S_for; exact rfl; apply F_step; exact rfl; apply SIf; apply E_or; apply B_two; exact rfl; apply Bf_go; exact rfl; apply B_one; apply E_cmp; apply E_call; exact rfl; apply C_call; exact hc _ _ _; exact rfl; apply Cmp_inn; exact in_last rfl rfl rfl; apply T_f; exact rfl; apply SIf; apply E_and; apply B_two; exact rfl; apply Bt_go; exact rfl; apply B_one; apply E_cmp; exact rfl; exact rfl; apply Cmp_notin; exact in_last rfl rfl rfl; apply T_t; exact rfl; apply SX; apply E_bm; exact rfl; exact bm_last rfl; exact rfl; exact bm_append rfl rfl; exact S_nil; apply K_next; exact S_nil; apply KF_next; exact rfl; apply F_step; exact rfl; apply SIf; apply E_or; apply B_two; exact rfl; apply Bf_go; exact rfl; apply B_one; apply E_cmp; apply E_call; exact rfl; apply C_call; exact hc _ _ _; exact rfl; apply Cmp_inn; exact in_last rfl rfl rfl; apply T_t; refine any_hit ?_; assumption; apply SR; exact rfl; exact K_ret; exact KF_ret; exact K_ret
 ·exact rfl
 ·exact trim_last
theorem all_same (n:Int) (s t:Bool):callFn P (d+3) 16 [.ref 1,.pv (.lst [(PV.tup [.str "bit", .int n,.bool s]),(PV.tup [.str "bit", .int n,.bool t])])] ⟨gh o vars tolds made tl,st⟩=some (.pv (if s=t then (PV.tup [.str "bit", .int n,.bool s]) else .bool false),⟨gh o vars tolds made tl,st⟩):=by
 by_cases h:s=t
 ·rw [if_pos h,h]; exact all_same0 d n t
 ·rw [if_neg h]
  have e:s = !t:=by cases s <;> cases t <;> first | rfl | exact absurd rfl h
  exact all_same1 d n t s (by rw [e]; exact bit_same)
theorem all_pre {k:Nat} (hc:∀ (n:Int) (s:Bool) (σ:St),callFn P k 10 [.pv (PV.tup [.str "bit", .int n,.bool s])] σ=some (.pv (PV.tup [.str "bit", .int n,.bool (!s)]),σ)) {n m:Int} {s t:Bool} {a b:PV} {r:St} {q:Flow × Env} (hnm:(n == m)=false) (hs:sortAV [.pv (PV.tup [.str "bit", .int n,.bool s]),.pv (PV.tup [.str "bit", .int m,.bool t])]=some [a,b])
  (h:evSs (ctxOf P (callFn P k)) (dropS 4 c16) [(3,.ref 1),(44,.pv (.lst [(PV.tup [.str "bit", .int n,.bool s]),(PV.tup [.str "bit", .int m,.bool t])])),(43,.ref (tl.length+6)),(23,.pv (PV.tup [.str "bit", .int m,.bool t]))] ⟨gh o vars tolds made (tl++[.list [.pv a,.pv b]]),true⟩=some (q,r)) :
  evSs (ctxOf P (callFn P k)) c16 [(3,.ref 1),(44,.pv (.lst [(PV.tup [.str "bit", .int n,.bool s]),(PV.tup [.str "bit", .int m,.bool t])]))] ⟨gh o vars tolds made tl,true⟩=some (q,r):=by
 unfold c16
 apply SA; exact E_new; exact rfl
 apply S_step
 ·apply S_for; exact rfl; apply F_step; exact rfl; apply SIf; apply E_or; apply B_two; exact rfl; apply Bf_go; exact rfl; apply B_one; apply E_cmp; apply E_call; exact rfl; apply C_call; exact hc _ _ _; exact rfl; apply Cmp_inn; exact in_last rfl rfl rfl; apply T_f; exact rfl; apply SIf; apply E_and; apply B_two; exact rfl; apply Bt_go; exact rfl; apply B_one; apply E_cmp; exact rfl; exact rfl; apply Cmp_notin; exact in_last rfl rfl rfl; apply T_t; exact rfl; apply SX; apply E_bm; exact rfl; exact bm_last rfl; exact rfl; exact bm_append rfl rfl; exact S_nil; apply K_next; exact S_nil; apply KF_next; exact rfl; apply F_step; exact rfl; apply SIf; apply E_or; apply B_two; exact rfl; apply Bf_go; exact rfl; apply B_one; apply E_cmp; apply E_call; exact rfl; apply C_call; exact hc _ _ _; exact rfl; apply Cmp_inn; exact in_last rfl rfl rfl; apply T_f; refine any_miss ?_ ?_; exact bit_ne (by assumption); exact rfl; apply SIf; apply E_and; apply B_two; exact rfl; apply Bt_go; exact rfl; apply B_one; apply E_cmp; exact rfl; exact rfl; apply Cmp_notin; exact in_last rfl rfl rfl; apply T_t; refine not_t ?_; refine any_miss ?_ ?_; exact bit_ne (by assumption); exact rfl; apply SX; apply E_bm; exact rfl; exact bm_last rfl; exact rfl; exact bm_append rfl rfl; exact S_nil; apply K_next; exact S_nil; apply KF_next; exact rfl; exact F_nil
 apply K_next
 apply SIf
 ·apply E_cmp; apply E_bi; exact rfl; exact len_last rfl; exact rfl; exact rfl
 apply T_f
 ·exact rfl
 apply SX
 ·apply E_bm; exact rfl; exact bm_last rfl; exact rfl; exact bm_sort hs
 exact h
end
section
variable {o:AObj} {vars tolds:List AV} {made:List (PV × AV)} {tl:List AObj} {st:Bool}
variable (d:Nat)
theorem all_ff_old {n m i j:Int} {s t:Bool} {k:Nat} (hnm:(n == m)=false) (hs:sortAV [.pv (PV.tup [.str "bit", .int n,.bool s]),.pv (PV.tup [.str "bit", .int m,.bool t])]=some [(PV.tup [.str "bit", .int i,.bool false]),(PV.tup [.str "bit", .int j,.bool false])])
  (hl:lookT (.tup [.str "or", .tup [.int i,.int j]]) made=some (.pv (.int k))) :
  callFn P (d+3) 16 [.ref 1,.pv (.lst [(PV.tup [.str "bit", .int n,.bool s]),(PV.tup [.str "bit", .int m,.bool t])])] ⟨gh o vars tolds made tl,st⟩=some (.pv (PV.tup [.str "bit", .int k,.bool false]),⟨gh o vars tolds made tl,st⟩):=by
 have hc:=con_bit (d+1)
 have hk:keysOk [.str "or", .tup [.int i,.int j]]=true:=rfl
 have hd:decide (depthPs [.str "or", .tup [.int i,.int j]]<6)=true:=rfl
 have ho:=fun tl=>once_old d (o:=o) (vars:=vars) (tolds:=tolds) (tl:=tl) (st:=true) hk hd hl
 show callFn P (d+2+1) 16 _ _=_
 generalize d+2=k at hc ho ⊢
 apply call_trim f16 rfl rfl rfl
 ·apply all_pre hc hnm hs
  show evSs _ (dropS 4 c16) _ _=_
  dsimp only [c16,dropS]
  apply SA; apply E_tup; apply Es_cons; apply E_bi; apply Es_cons; apply E_comp; apply L_cons; apply I_it; exact rfl; exact src_last rfl; exact rfl; apply It_cons; exact rfl; exact rfl; apply Mo_t; exact rfl; exact rfl; exact held_last; apply It_cons; exact rfl; exact rfl; apply Mo_t; exact rfl; exact rfl; exact held_last; exact rfl; exact rfl; exact rfl; exact rfl; exact rfl; apply Es_cons; apply E_comp; apply L_cons; apply I_it; exact rfl; exact src_last rfl; exact rfl; apply It_cons; exact rfl; exact rfl; apply Mo_t; exact rfl; exact rfl; exact held_last; apply It_cons; exact rfl; exact rfl; apply Mo_t; exact rfl; exact rfl; exact held_last; exact rfl; exact rfl; exact rfl; exact rfl; exact rfl; exact rfl; apply SIf; exact rfl; apply T_t; exact rfl; apply SA; apply E_meth; exact rfl; exact rfl; exact rfl; exact rfl; exact rfl; apply C_call; exact ho _; exact rfl; apply SIf; exact rfl; apply T_f; exact rfl; apply SR; exact rfl; exact K_ret
 ·exact rfl
 ·exact trim_last
theorem all_ff_new {n m i j:Int} {s t:Bool} (hnm:(n == m)=false) (hs:sortAV [.pv (PV.tup [.str "bit", .int n,.bool s]),.pv (PV.tup [.str "bit", .int m,.bool t])]=some [(PV.tup [.str "bit", .int i,.bool false]),(PV.tup [.str "bit", .int j,.bool false])])
  (hi:0≤i) (hij:i<j) (hjb:j<vars.length) (hb:(vars.length:Int)<32) (hmd:made.length<1000) (ht:tolds.length<900)
  (hl:lookT (.tup [.str "or", .tup [.int i,.int j]]) made=none) :
  callFn P (d+3) 16 [.ref 1,.pv (.lst [(PV.tup [.str "bit", .int n,.bool s]),(PV.tup [.str "bit", .int m,.bool t])])] ⟨gh o vars tolds made tl,st⟩=some (.pv (PV.tup [.str "bit", .int vars.length,.bool false]),⟨gh o (vars++[.pv (.tup [numName vars.length,.tup TRl])]) (tolds++[.pv (.tup [.str "or", .tup [.int i,.int j],.int vars.length])]) (made++[(.tup [.str "or", .tup [.int i,.int j]],.pv (.int vars.length))]) tl,st⟩):=by
 have hc:=con_bit (d+1)
 have hk:keysOk [.str "or", .tup [.int i,.int j]]=true:=rfl
 have hd:decide (depthPs [.str "or", .tup [.int i,.int j]]<6)=true:=rfl
 have hv:vars.length<1000:=Nat.lt_trans (Int.ofNat_lt.mp (show (vars.length:Int)<((32:Nat):Int) from hb)) (by decide)
 have ht9:=ht
 have ht:tolds.length<1000:=Nat.lt_trans ht (by decide)
 have ho:=fun tl=>once_new d (o:=o) (vars:=vars) (tolds:=tolds) (tl:=tl) (st:=true) hk hd hl hv hmd
 have hp:=fun vars made tl t=>post_ok (d+1) (o:=o) (vars:=vars) (made:=made) (tl:=tl) (st:=true) (t:=t) ht
 show callFn P (d+2+1) 16 _ _=_
 generalize d+2=k at hc ho hp ⊢
 apply call_trim f16 rfl rfl rfl
 ·apply all_pre hc hnm hs
  show evSs _ (dropS 4 c16) _ _=_
  dsimp only [c16,dropS]
  apply SA; apply E_tup; apply Es_cons; apply E_bi; apply Es_cons; apply E_comp; apply L_cons; apply I_it; exact rfl; exact src_last rfl; exact rfl; apply It_cons; exact rfl; exact rfl; apply Mo_t; exact rfl; exact rfl; exact held_last; apply It_cons; exact rfl; exact rfl; apply Mo_t; exact rfl; exact rfl; exact held_last; exact rfl; exact rfl; exact rfl; exact rfl; exact rfl; apply Es_cons; apply E_comp; apply L_cons; apply I_it; exact rfl; exact src_last rfl; exact rfl; apply It_cons; exact rfl; exact rfl; apply Mo_t; exact rfl; exact rfl; exact held_last; apply It_cons; exact rfl; exact rfl; apply Mo_t; exact rfl; exact rfl; exact held_last; exact rfl; exact rfl; exact rfl; exact rfl; exact rfl; exact rfl; apply SIf; exact rfl; apply T_t; exact rfl; apply SA; apply E_meth; exact rfl; exact rfl; exact rfl; exact rfl; exact rfl; apply C_call; exact ho _; exact rfl; apply SIf; exact rfl; apply T_t; exact rfl; apply SX; apply E_meth; exact rfl; exact rfl; exact rfl; exact rfl; exact rfl; apply C_call; exact hp _ _ _ _; exact S_nil; apply K_next; apply SR; exact rfl; exact K_ret
 ·exact rfl
 ·exact trim_last
theorem all_ft_old {n m i j:Int} {s t:Bool} {k:Nat} (hnm:(n == m)=false) (hs:sortAV [.pv (PV.tup [.str "bit", .int n,.bool s]),.pv (PV.tup [.str "bit", .int m,.bool t])]=some [(PV.tup [.str "bit", .int i,.bool false]),(PV.tup [.str "bit", .int j,.bool true])])
  (hl:lookT (.tup [.str "all", .tup [(PV.tup [.str "bit", .int i,.bool false]),(PV.tup [.str "bit", .int j,.bool true])]]) made=some (.pv (.int k))) :
  callFn P (d+3) 16 [.ref 1,.pv (.lst [(PV.tup [.str "bit", .int n,.bool s]),(PV.tup [.str "bit", .int m,.bool t])])] ⟨gh o vars tolds made tl,st⟩=some (.pv (PV.tup [.str "bit", .int k,.bool true]),⟨gh o vars tolds made tl,st⟩):=by
 have hc:=con_bit (d+1)
 have hk:keysOk [.str "all", .tup [(PV.tup [.str "bit", .int i,.bool false]),(PV.tup [.str "bit", .int j,.bool true])]]=true:=rfl
 have hd:decide (depthPs [.str "all", .tup [(PV.tup [.str "bit", .int i,.bool false]),(PV.tup [.str "bit", .int j,.bool true])]]<6)=true:=rfl
 have ho:=fun tl=>once_old d (o:=o) (vars:=vars) (tolds:=tolds) (tl:=tl) (st:=true) hk hd hl
 show callFn P (d+2+1) 16 _ _=_
 generalize d+2=k at hc ho ⊢
 apply call_trim f16 rfl rfl rfl
 ·apply all_pre hc hnm hs
  show evSs _ (dropS 4 c16) _ _=_
  dsimp only [c16,dropS]
  apply SA; apply E_tup; apply Es_cons; apply E_bi; apply Es_cons; apply E_comp; apply L_cons; apply I_it; exact rfl; exact src_last rfl; exact rfl; apply It_cons; exact rfl; exact rfl; apply Mo_t; exact rfl; exact rfl; exact held_last; apply It_cons; exact rfl; exact rfl; apply Mo_t; exact rfl; exact rfl; exact held_last; exact rfl; exact rfl; exact rfl; exact rfl; exact rfl; apply Es_cons; apply E_comp; apply L_cons; apply I_it; exact rfl; exact src_last rfl; exact rfl; apply It_cons; exact rfl; exact rfl; apply Mo_t; exact rfl; exact rfl; exact held_last; apply It_cons; exact rfl; exact rfl; apply Mo_t; exact rfl; exact rfl; exact held_last; exact rfl; exact rfl; exact rfl; exact rfl; exact rfl; exact rfl; apply SIf; exact rfl; apply T_f; exact rfl; apply SA; apply E_meth; exact rfl; exact rfl; exact rfl; exact rfl; apply Es_cons; apply E_tup; apply Es_cons; exact rfl; apply Es_cons; apply E_bi; exact rfl; exact tup_last rfl rfl; exact rfl; exact rfl; exact rfl; apply C_call; exact ho _; exact rfl; apply SIf; exact rfl; apply T_e; exact rfl; apply SIf; exact rfl; apply T_f; exact rfl; exact S_nil; apply K_next; apply SR; exact rfl
 ·exact rfl
 ·exact trim_last
theorem all_ft_new {n m i j:Int} {s t:Bool} (hnm:(n == m)=false) (hs:sortAV [.pv (PV.tup [.str "bit", .int n,.bool s]),.pv (PV.tup [.str "bit", .int m,.bool t])]=some [(PV.tup [.str "bit", .int i,.bool false]),(PV.tup [.str "bit", .int j,.bool true])])
  (hi:0≤i) (hij:i<j) (hjb:j<vars.length) (hb:(vars.length:Int)<32) (hmd:made.length<1000) (ht:tolds.length<900)
  (hl:lookT (.tup [.str "all", .tup [(PV.tup [.str "bit", .int i,.bool false]),(PV.tup [.str "bit", .int j,.bool true])]]) made=none) :
  callFn P (d+3) 16 [.ref 1,.pv (.lst [(PV.tup [.str "bit", .int n,.bool s]),(PV.tup [.str "bit", .int m,.bool t])])] ⟨gh o vars tolds made tl,st⟩=some (.pv (PV.tup [.str "bit", .int vars.length,.bool true]),⟨gh o (vars++[.pv (.tup [numName vars.length,.tup TRl])]) (tolds++[.pv (clP [] [.int i,.int vars.length]),.pv (clP [.int j] [.int vars.length]),.pv (clP [.int i,.int vars.length] [.int j])]) (made++[(.tup [.str "all", .tup [(PV.tup [.str "bit", .int i,.bool false]),(PV.tup [.str "bit", .int j,.bool true])]],.pv (.int vars.length))]) tl,st⟩):=by
 have hc:=con_bit (d+1)
 have hk:keysOk [.str "all", .tup [(PV.tup [.str "bit", .int i,.bool false]),(PV.tup [.str "bit", .int j,.bool true])]]=true:=rfl
 have hd:decide (depthPs [.str "all", .tup [(PV.tup [.str "bit", .int i,.bool false]),(PV.tup [.str "bit", .int j,.bool true])]]<6)=true:=rfl
 have hv:vars.length<1000:=Nat.lt_trans (Int.ofNat_lt.mp (show (vars.length:Int)<((32:Nat):Int) from hb)) (by decide)
 have ht9:=ht
 have ht:tolds.length<1000:=Nat.lt_trans ht (by decide)
 have ho:=fun tl=>once_new d (o:=o) (vars:=vars) (tolds:=tolds) (tl:=tl) (st:=true) hk hd hl hv hmd
 have h1:=fun vars' made tl=>rs_f d (o:=o) (vars:=vars') (made:=made) (tl:=tl) (st:=true) (tolds:=tolds) hi (Int.lt_trans hij hjb) hb ht
 have h2:=fun vars' made tl=>rs_t d (o:=o) (vars:=vars') (made:=made) (tl:=tl) (st:=true) (tolds:=tolds++[.pv (clP [] [.int i,.int vars.length])]) (b:=vars.length) (n:=j) (Int.le_of_lt (Int.lt_of_le_of_lt hi hij)) hjb hb (by simp; exact Nat.lt_of_le_of_lt (Nat.succ_le_of_lt ht9) (by decide))
 have h3:=fun vars' made tl=>rs_tf d (o:=o) (vars:=vars') (made:=made) (tl:=tl) (st:=true) (tolds:=tolds++[.pv (clP [] [.int i,.int vars.length])]++[.pv (clP [.int j] [.int vars.length])]) (b:=vars.length) (i:=i) (j:=j) hi hij hjb hb (by simp; exact Nat.lt_of_le_of_lt (Nat.succ_le_succ (Nat.succ_le_of_lt ht9)) (by decide))
 simp only [List.append_assoc,List.cons_append,List.nil_append] at h1 h2 h3
 show callFn P (d+2+1) 16 _ _=_
 generalize d+2=k at hc ho h1 h2 h3 ⊢
 apply call_trim f16 rfl rfl rfl
 ·apply all_pre hc hnm hs
  show evSs _ (dropS 4 c16) _ _=_
  dsimp only [c16,dropS]
  apply SA; apply E_tup; apply Es_cons; apply E_bi; apply Es_cons; apply E_comp; apply L_cons; apply I_it; exact rfl; exact src_last rfl; exact rfl; apply It_cons; exact rfl; exact rfl; apply Mo_t; exact rfl; exact rfl; exact held_last; apply It_cons; exact rfl; exact rfl; apply Mo_t; exact rfl; exact rfl; exact held_last; exact rfl; exact rfl; exact rfl; exact rfl; exact rfl; apply Es_cons; apply E_comp; apply L_cons; apply I_it; exact rfl; exact src_last rfl; exact rfl; apply It_cons; exact rfl; exact rfl; apply Mo_t; exact rfl; exact rfl; exact held_last; apply It_cons; exact rfl; exact rfl; apply Mo_t; exact rfl; exact rfl; exact held_last; exact rfl; exact rfl; exact rfl; exact rfl; exact rfl; exact rfl; apply SIf; exact rfl; apply T_f; exact rfl; apply SA; apply E_meth; exact rfl; exact rfl; exact rfl; exact rfl; apply Es_cons; apply E_tup; apply Es_cons; exact rfl; apply Es_cons; apply E_bi; exact rfl; exact tup_last rfl rfl; exact rfl; exact rfl; exact rfl; apply C_call; exact ho _; exact rfl; apply SIf; exact rfl; apply T_e; exact rfl; apply SIf; exact rfl; apply T_t; exact rfl; apply S_step; apply S_for; apply I_it; exact rfl; exact src_last rfl; apply F_step; exact rfl; apply SX; apply E_meth; exact rfl; exact rfl; exact rfl; exact rfl; exact rfl; apply C_call; exact h1 _ _ _; exact S_nil; apply KF_next; exact held_last; apply F_step; exact rfl; apply SX; apply E_meth; exact rfl; exact rfl; exact rfl; exact rfl; exact rfl; apply C_call; exact h2 _ _ _; exact S_nil; apply KF_next; exact held_last; exact F_nil; apply K_next; apply SX; apply E_meth; exact rfl; exact rfl; exact rfl; exact rfl; apply Es_cons; apply E_bin; exact rfl; apply E_comp; apply L_cons; apply I_it; exact rfl; exact src_last rfl; exact rfl; apply It_cons; exact rfl; exact rfl; apply Mo_t; exact rfl; apply L_elt; apply E_call; exact rfl; apply C_call; exact hc _ _ _; exact held_last; apply It_cons; exact rfl; exact rfl; apply Mo_t; exact rfl; apply L_elt; apply E_call; exact rfl; apply C_call; exact hc _ _ _; exact held_last; exact rfl; exact rfl; exact rfl; exact rfl; exact rfl; apply C_call; exact h3 _ _ _; exact S_nil; apply K_next; exact S_nil; apply K_next; apply SR; exact rfl
 ·exact rfl
 ·exact trim_last
theorem all_tf_old {n m i j:Int} {s t:Bool} {k:Nat} (hnm:(n == m)=false) (hs:sortAV [.pv (PV.tup [.str "bit", .int n,.bool s]),.pv (PV.tup [.str "bit", .int m,.bool t])]=some [(PV.tup [.str "bit", .int i,.bool true]),(PV.tup [.str "bit", .int j,.bool false])])
  (hl:lookT (.tup [.str "all", .tup [(PV.tup [.str "bit", .int i,.bool true]),(PV.tup [.str "bit", .int j,.bool false])]]) made=some (.pv (.int k))) :
  callFn P (d+3) 16 [.ref 1,.pv (.lst [(PV.tup [.str "bit", .int n,.bool s]),(PV.tup [.str "bit", .int m,.bool t])])] ⟨gh o vars tolds made tl,st⟩=some (.pv (PV.tup [.str "bit", .int k,.bool true]),⟨gh o vars tolds made tl,st⟩):=by
 have hc:=con_bit (d+1)
 have hk:keysOk [.str "all", .tup [(PV.tup [.str "bit", .int i,.bool true]),(PV.tup [.str "bit", .int j,.bool false])]]=true:=rfl
 have hd:decide (depthPs [.str "all", .tup [(PV.tup [.str "bit", .int i,.bool true]),(PV.tup [.str "bit", .int j,.bool false])]]<6)=true:=rfl
 have ho:=fun tl=>once_old d (o:=o) (vars:=vars) (tolds:=tolds) (tl:=tl) (st:=true) hk hd hl
 show callFn P (d+2+1) 16 _ _=_
 generalize d+2=k at hc ho ⊢
 apply call_trim f16 rfl rfl rfl
 ·apply all_pre hc hnm hs
  show evSs _ (dropS 4 c16) _ _=_
  dsimp only [c16,dropS]
  apply SA; apply E_tup; apply Es_cons; apply E_bi; apply Es_cons; apply E_comp; apply L_cons; apply I_it; exact rfl; exact src_last rfl; exact rfl; apply It_cons; exact rfl; exact rfl; apply Mo_t; exact rfl; exact rfl; exact held_last; apply It_cons; exact rfl; exact rfl; apply Mo_t; exact rfl; exact rfl; exact held_last; exact rfl; exact rfl; exact rfl; exact rfl; exact rfl; apply Es_cons; apply E_comp; apply L_cons; apply I_it; exact rfl; exact src_last rfl; exact rfl; apply It_cons; exact rfl; exact rfl; apply Mo_t; exact rfl; exact rfl; exact held_last; apply It_cons; exact rfl; exact rfl; apply Mo_t; exact rfl; exact rfl; exact held_last; exact rfl; exact rfl; exact rfl; exact rfl; exact rfl; exact rfl; apply SIf; exact rfl; apply T_f; exact rfl; apply SA; apply E_meth; exact rfl; exact rfl; exact rfl; exact rfl; apply Es_cons; apply E_tup; apply Es_cons; exact rfl; apply Es_cons; apply E_bi; exact rfl; exact tup_last rfl rfl; exact rfl; exact rfl; exact rfl; apply C_call; exact ho _; exact rfl; apply SIf; exact rfl; apply T_e; exact rfl; apply SIf; exact rfl; apply T_f; exact rfl; exact S_nil; apply K_next; apply SR; exact rfl
 ·exact rfl
 ·exact trim_last
theorem all_tf_new {n m i j:Int} {s t:Bool} (hnm:(n == m)=false) (hs:sortAV [.pv (PV.tup [.str "bit", .int n,.bool s]),.pv (PV.tup [.str "bit", .int m,.bool t])]=some [(PV.tup [.str "bit", .int i,.bool true]),(PV.tup [.str "bit", .int j,.bool false])])
  (hi:0≤i) (hij:i<j) (hjb:j<vars.length) (hb:(vars.length:Int)<32) (hmd:made.length<1000) (ht:tolds.length<900)
  (hl:lookT (.tup [.str "all", .tup [(PV.tup [.str "bit", .int i,.bool true]),(PV.tup [.str "bit", .int j,.bool false])]]) made=none) :
  callFn P (d+3) 16 [.ref 1,.pv (.lst [(PV.tup [.str "bit", .int n,.bool s]),(PV.tup [.str "bit", .int m,.bool t])])] ⟨gh o vars tolds made tl,st⟩=some (.pv (PV.tup [.str "bit", .int vars.length,.bool true]),⟨gh o (vars++[.pv (.tup [numName vars.length,.tup TRl])]) (tolds++[.pv (clP [.int i] [.int vars.length]),.pv (clP [] [.int j,.int vars.length]),.pv (clP [.int j,.int vars.length] [.int i])]) (made++[(.tup [.str "all", .tup [(PV.tup [.str "bit", .int i,.bool true]),(PV.tup [.str "bit", .int j,.bool false])]],.pv (.int vars.length))]) tl,st⟩):=by
 have hc:=con_bit (d+1)
 have hk:keysOk [.str "all", .tup [(PV.tup [.str "bit", .int i,.bool true]),(PV.tup [.str "bit", .int j,.bool false])]]=true:=rfl
 have hd:decide (depthPs [.str "all", .tup [(PV.tup [.str "bit", .int i,.bool true]),(PV.tup [.str "bit", .int j,.bool false])]]<6)=true:=rfl
 have hv:vars.length<1000:=Nat.lt_trans (Int.ofNat_lt.mp (show (vars.length:Int)<((32:Nat):Int) from hb)) (by decide)
 have ht9:=ht
 have ht:tolds.length<1000:=Nat.lt_trans ht (by decide)
 have ho:=fun tl=>once_new d (o:=o) (vars:=vars) (tolds:=tolds) (tl:=tl) (st:=true) hk hd hl hv hmd
 have h1:=fun vars' made tl=>rs_t d (o:=o) (vars:=vars') (made:=made) (tl:=tl) (st:=true) (tolds:=tolds) hi (Int.lt_trans hij hjb) hb ht
 have h2:=fun vars' made tl=>rs_f d (o:=o) (vars:=vars') (made:=made) (tl:=tl) (st:=true) (tolds:=tolds++[.pv (clP [.int i] [.int vars.length])]) (b:=vars.length) (n:=j) (Int.le_of_lt (Int.lt_of_le_of_lt hi hij)) hjb hb (by simp; exact Nat.lt_of_le_of_lt (Nat.succ_le_of_lt ht9) (by decide))
 have h3:=fun vars' made tl=>rs_ft d (o:=o) (vars:=vars') (made:=made) (tl:=tl) (st:=true) (tolds:=tolds++[.pv (clP [.int i] [.int vars.length])]++[.pv (clP [] [.int j,.int vars.length])]) (b:=vars.length) (i:=i) (j:=j) hi hij hjb hb (by simp; exact Nat.lt_of_le_of_lt (Nat.succ_le_succ (Nat.succ_le_of_lt ht9)) (by decide))
 simp only [List.append_assoc,List.cons_append,List.nil_append] at h1 h2 h3
 show callFn P (d+2+1) 16 _ _=_
 generalize d+2=k at hc ho h1 h2 h3 ⊢
 apply call_trim f16 rfl rfl rfl
 ·apply all_pre hc hnm hs
  show evSs _ (dropS 4 c16) _ _=_
  dsimp only [c16,dropS]
  apply SA; apply E_tup; apply Es_cons; apply E_bi; apply Es_cons; apply E_comp; apply L_cons; apply I_it; exact rfl; exact src_last rfl; exact rfl; apply It_cons; exact rfl; exact rfl; apply Mo_t; exact rfl; exact rfl; exact held_last; apply It_cons; exact rfl; exact rfl; apply Mo_t; exact rfl; exact rfl; exact held_last; exact rfl; exact rfl; exact rfl; exact rfl; exact rfl; apply Es_cons; apply E_comp; apply L_cons; apply I_it; exact rfl; exact src_last rfl; exact rfl; apply It_cons; exact rfl; exact rfl; apply Mo_t; exact rfl; exact rfl; exact held_last; apply It_cons; exact rfl; exact rfl; apply Mo_t; exact rfl; exact rfl; exact held_last; exact rfl; exact rfl; exact rfl; exact rfl; exact rfl; exact rfl; apply SIf; exact rfl; apply T_f; exact rfl; apply SA; apply E_meth; exact rfl; exact rfl; exact rfl; exact rfl; apply Es_cons; apply E_tup; apply Es_cons; exact rfl; apply Es_cons; apply E_bi; exact rfl; exact tup_last rfl rfl; exact rfl; exact rfl; exact rfl; apply C_call; exact ho _; exact rfl; apply SIf; exact rfl; apply T_e; exact rfl; apply SIf; exact rfl; apply T_t; exact rfl; apply S_step; apply S_for; apply I_it; exact rfl; exact src_last rfl; apply F_step; exact rfl; apply SX; apply E_meth; exact rfl; exact rfl; exact rfl; exact rfl; exact rfl; apply C_call; exact h1 _ _ _; exact S_nil; apply KF_next; exact held_last; apply F_step; exact rfl; apply SX; apply E_meth; exact rfl; exact rfl; exact rfl; exact rfl; exact rfl; apply C_call; exact h2 _ _ _; exact S_nil; apply KF_next; exact held_last; exact F_nil; apply K_next; apply SX; apply E_meth; exact rfl; exact rfl; exact rfl; exact rfl; apply Es_cons; apply E_bin; exact rfl; apply E_comp; apply L_cons; apply I_it; exact rfl; exact src_last rfl; exact rfl; apply It_cons; exact rfl; exact rfl; apply Mo_t; exact rfl; apply L_elt; apply E_call; exact rfl; apply C_call; exact hc _ _ _; exact held_last; apply It_cons; exact rfl; exact rfl; apply Mo_t; exact rfl; apply L_elt; apply E_call; exact rfl; apply C_call; exact hc _ _ _; exact held_last; exact rfl; exact rfl; exact rfl; exact rfl; exact rfl; apply C_call; exact h3 _ _ _; exact S_nil; apply K_next; exact S_nil; apply K_next; apply SR; exact rfl
 ·exact rfl
 ·exact trim_last
theorem all_tt_old {n m i j:Int} {s t:Bool} {k:Nat} (hnm:(n == m)=false) (hs:sortAV [.pv (PV.tup [.str "bit", .int n,.bool s]),.pv (PV.tup [.str "bit", .int m,.bool t])]=some [(PV.tup [.str "bit", .int i,.bool true]),(PV.tup [.str "bit", .int j,.bool true])])
  (hl:lookT (.tup [.str "all", .tup [(PV.tup [.str "bit", .int i,.bool true]),(PV.tup [.str "bit", .int j,.bool true])]]) made=some (.pv (.int k))) :
  callFn P (d+3) 16 [.ref 1,.pv (.lst [(PV.tup [.str "bit", .int n,.bool s]),(PV.tup [.str "bit", .int m,.bool t])])] ⟨gh o vars tolds made tl,st⟩=some (.pv (PV.tup [.str "bit", .int k,.bool true]),⟨gh o vars tolds made tl,st⟩):=by
 have hc:=con_bit (d+1)
 have hk:keysOk [.str "all", .tup [(PV.tup [.str "bit", .int i,.bool true]),(PV.tup [.str "bit", .int j,.bool true])]]=true:=rfl
 have hd:decide (depthPs [.str "all", .tup [(PV.tup [.str "bit", .int i,.bool true]),(PV.tup [.str "bit", .int j,.bool true])]]<6)=true:=rfl
 have ho:=fun tl=>once_old d (o:=o) (vars:=vars) (tolds:=tolds) (tl:=tl) (st:=true) hk hd hl
 show callFn P (d+2+1) 16 _ _=_
 generalize d+2=k at hc ho ⊢
 apply call_trim f16 rfl rfl rfl
 ·apply all_pre hc hnm hs
  show evSs _ (dropS 4 c16) _ _=_
  dsimp only [c16,dropS]
  apply SA; apply E_tup; apply Es_cons; apply E_bi; apply Es_cons; apply E_comp; apply L_cons; apply I_it; exact rfl; exact src_last rfl; exact rfl; apply It_cons; exact rfl; exact rfl; apply Mo_t; exact rfl; exact rfl; exact held_last; apply It_cons; exact rfl; exact rfl; apply Mo_t; exact rfl; exact rfl; exact held_last; exact rfl; exact rfl; exact rfl; exact rfl; exact rfl; apply Es_cons; apply E_comp; apply L_cons; apply I_it; exact rfl; exact src_last rfl; exact rfl; apply It_cons; exact rfl; exact rfl; apply Mo_t; exact rfl; exact rfl; exact held_last; apply It_cons; exact rfl; exact rfl; apply Mo_t; exact rfl; exact rfl; exact held_last; exact rfl; exact rfl; exact rfl; exact rfl; exact rfl; exact rfl; apply SIf; exact rfl; apply T_f; exact rfl; apply SA; apply E_meth; exact rfl; exact rfl; exact rfl; exact rfl; apply Es_cons; apply E_tup; apply Es_cons; exact rfl; apply Es_cons; apply E_bi; exact rfl; exact tup_last rfl rfl; exact rfl; exact rfl; exact rfl; apply C_call; exact ho _; exact rfl; apply SIf; exact rfl; apply T_e; exact rfl; apply SIf; exact rfl; apply T_f; exact rfl; exact S_nil; apply K_next; apply SR; exact rfl
 ·exact rfl
 ·exact trim_last
theorem all_tt_new {n m i j:Int} {s t:Bool} (hnm:(n == m)=false) (hs:sortAV [.pv (PV.tup [.str "bit", .int n,.bool s]),.pv (PV.tup [.str "bit", .int m,.bool t])]=some [(PV.tup [.str "bit", .int i,.bool true]),(PV.tup [.str "bit", .int j,.bool true])])
  (hi:0≤i) (hij:i<j) (hjb:j<vars.length) (hb:(vars.length:Int)<32) (hmd:made.length<1000) (ht:tolds.length<900)
  (hl:lookT (.tup [.str "all", .tup [(PV.tup [.str "bit", .int i,.bool true]),(PV.tup [.str "bit", .int j,.bool true])]]) made=none) :
  callFn P (d+3) 16 [.ref 1,.pv (.lst [(PV.tup [.str "bit", .int n,.bool s]),(PV.tup [.str "bit", .int m,.bool t])])] ⟨gh o vars tolds made tl,st⟩=some (.pv (PV.tup [.str "bit", .int vars.length,.bool true]),⟨gh o (vars++[.pv (.tup [numName vars.length,.tup TRl])]) (tolds++[.pv (.tup [.str "and", .tup [.int i,.int j],.int vars.length])]) (made++[(.tup [.str "all", .tup [(PV.tup [.str "bit", .int i,.bool true]),(PV.tup [.str "bit", .int j,.bool true])]],.pv (.int vars.length))]) tl,st⟩):=by
 have hc:=con_bit (d+1)
 have hk:keysOk [.str "all", .tup [(PV.tup [.str "bit", .int i,.bool true]),(PV.tup [.str "bit", .int j,.bool true])]]=true:=rfl
 have hd:decide (depthPs [.str "all", .tup [(PV.tup [.str "bit", .int i,.bool true]),(PV.tup [.str "bit", .int j,.bool true])]]<6)=true:=rfl
 have hv:vars.length<1000:=Nat.lt_trans (Int.ofNat_lt.mp (show (vars.length:Int)<((32:Nat):Int) from hb)) (by decide)
 have ht9:=ht
 have ht:tolds.length<1000:=Nat.lt_trans ht (by decide)
 have ho:=fun tl=>once_new d (o:=o) (vars:=vars) (tolds:=tolds) (tl:=tl) (st:=true) hk hd hl hv hmd
 have hp:=fun vars made tl t=>post_ok (d+1) (o:=o) (vars:=vars) (made:=made) (tl:=tl) (st:=true) (t:=t) ht
 show callFn P (d+2+1) 16 _ _=_
 generalize d+2=k at hc ho hp ⊢
 apply call_trim f16 rfl rfl rfl
 ·apply all_pre hc hnm hs
  show evSs _ (dropS 4 c16) _ _=_
  dsimp only [c16,dropS]
  apply SA; apply E_tup; apply Es_cons; apply E_bi; apply Es_cons; apply E_comp; apply L_cons; apply I_it; exact rfl; exact src_last rfl; exact rfl; apply It_cons; exact rfl; exact rfl; apply Mo_t; exact rfl; exact rfl; exact held_last; apply It_cons; exact rfl; exact rfl; apply Mo_t; exact rfl; exact rfl; exact held_last; exact rfl; exact rfl; exact rfl; exact rfl; exact rfl; apply Es_cons; apply E_comp; apply L_cons; apply I_it; exact rfl; exact src_last rfl; exact rfl; apply It_cons; exact rfl; exact rfl; apply Mo_t; exact rfl; exact rfl; exact held_last; apply It_cons; exact rfl; exact rfl; apply Mo_t; exact rfl; exact rfl; exact held_last; exact rfl; exact rfl; exact rfl; exact rfl; exact rfl; exact rfl; apply SIf; exact rfl; apply T_f; exact rfl; apply SA; apply E_meth; exact rfl; exact rfl; exact rfl; exact rfl; apply Es_cons; apply E_tup; apply Es_cons; exact rfl; apply Es_cons; apply E_bi; exact rfl; exact tup_last rfl rfl; exact rfl; exact rfl; exact rfl; apply C_call; exact ho _; exact rfl; apply SIf; exact rfl; apply T_t; exact rfl; apply SX; apply E_meth; exact rfl; exact rfl; exact rfl; exact rfl; exact rfl; apply C_call; exact hp _ _ _ _; exact S_nil; apply K_next; apply SR; exact rfl
 ·exact rfl
 ·exact trim_last
end
section
variable {o:AObj} {vars tolds:List AV} {made:List (PV × AV)} {tl:List AObj} {st:Bool}
variable (d:Nat)
theorem unl_b (x:Bool) (t:Tr):callFn P (d+3) 18 [.ref 1,.pv (.bool x),.pv t.pv] ⟨gh o vars tolds made tl,st⟩=some (.pv (if x then t.con.pv else t.pv),⟨gh o vars tolds made tl,st⟩):=by
 have hc:=contrary_ok (d+1) t
 show callFn P (d+2+1) 18 _ _=_
 generalize d+2=k at hc ⊢
 cases x
 ·apply call_with f18 rfl rfl rfl
  ·show evSs _ c18 _ _=_
   unfold c18
   apply SIf; exact rfl; apply T_t; exact rfl; apply SR; exact rfl; exact K_ret
  ·exact rfl
 ·apply call_with f18 rfl rfl rfl
  ·show evSs _ c18 _ _=_
   unfold c18
   apply SIf; exact rfl; apply T_t; exact rfl; apply SR; apply E_ife; exact rfl; apply Br_t; exact rfl; apply E_call; exact rfl; apply C_call; exact hc _; exact K_ret
  ·exact rfl
theorem unl_tb (n:Int) (s y:Bool):callFn P (d+3) 18 [.ref 1,.pv (PV.tup [.str "bit", .int n,.bool s]),.pv (.bool y)] ⟨gh o vars tolds made tl,st⟩=some (.pv (if y then (PV.tup [.str "bit", .int n,.bool (!s)]) else (PV.tup [.str "bit", .int n,.bool s])),⟨gh o vars tolds made tl,st⟩):=by
 have hc:=con_bit (d+1)
 show callFn P (d+2+1) 18 _ _=_
 generalize d+2=k at hc ⊢
 cases y
 ·apply call_with f18 rfl rfl rfl
  ·show evSs _ c18 _ _=_
   unfold c18
   apply SIf; exact rfl; apply T_f; exact rfl; apply SIf; exact rfl; apply T_t; exact rfl; apply SR; exact rfl; exact K_ret
  ·exact rfl
 ·apply call_with f18 rfl rfl rfl
  ·show evSs _ c18 _ _=_
   unfold c18
   apply SIf; exact rfl; apply T_f; exact rfl; apply SIf; exact rfl; apply T_t; exact rfl; apply SR; apply E_ife; exact rfl; apply Br_t; exact rfl; apply E_call; exact rfl; apply C_call; exact hc _ _ _; exact K_ret
  ·exact rfl
theorem num_same {n:Int}:pyEq (.int n) (.int n)=true:=beq_self_eq_true n
theorem num_ne {n m:Int} (h:(n == m)=false):pyEq (.int n) (.int m)=false:=h
theorem tru_ne {s t:Bool}:(!pyEq (.bool s) (.bool t))=(s != t):=by cases s <;> cases t <;> rfl
theorem tru_eq {s t:Bool}:pyEq (.bool s) (.bool t)=(s == t):=by cases s <;> cases t <;> rfl
theorem unl_same (n:Int) (s t:Bool):callFn P (d+3) 18 [.ref 1,.pv (PV.tup [.str "bit", .int n,.bool s]),.pv (PV.tup [.str "bit", .int n,.bool t])] ⟨gh o vars tolds made tl,st⟩=some (.pv (.bool (s != t)),⟨gh o vars tolds made tl,st⟩):=by
 show callFn P (d+2+1) 18 _ _=_
 generalize d+2=k
 rw [← tru_ne]
 have e:=@num_same n
 apply call_with f18 rfl rfl rfl
 ·show evSs _ c18 _ _=_
  unfold c18
  apply SIf; exact rfl; apply T_f; exact rfl; apply SIf; exact rfl; apply T_f; exact rfl; apply SIf; exact rfl; apply T_t; assumption; apply SR; exact rfl; exact K_ret
 ·exact rfl
theorem bi_min {n m r:Int} {s:St} (h:(if m<n then m else n)=r):evBI .min2 [.pv (.int n),.pv (.int m)] s=some (.pv (.int r),s):=by
 show some (AV.pv (.int (if m<n then m else n)),s)=_; rw [h]
theorem bi_max {n m r:Int} {s:St} (h:(if n<m then m else n)=r):evBI .max2 [.pv (.int n),.pv (.int m)] s=some (.pv (.int r),s):=by
 show some (AV.pv (.int (if n<m then m else n)),s)=_; rw [h]
theorem unl_pre {k:Nat} {n m lo hi:Int} {s t:Bool} {r:R (Flow × Env)} (hnm:(n == m)=false) (h1:(if m<n then m else n)=lo) (h2:(if n<m then m else n)=hi)
  (h:evSs (ctxOf P (callFn P k)) (dropS 4 c18) [(3,.ref 1),(51,.pv (PV.tup [.str "bit", .int n,.bool s])),(52,.pv (PV.tup [.str "bit", .int m,.bool t])),(35,.pv (.int lo)),(34,.pv (.int hi))] ⟨gh o vars tolds made tl,st⟩=r) :
  evSs (ctxOf P (callFn P k)) c18 [(3,.ref 1),(51,.pv (PV.tup [.str "bit", .int n,.bool s])),(52,.pv (PV.tup [.str "bit", .int m,.bool t]))] ⟨gh o vars tolds made tl,st⟩=r:=by
 unfold c18
 apply SIf; exact rfl; apply T_f; exact rfl
 apply SIf; exact rfl; apply T_f; exact rfl
 apply SIf; exact rfl; apply T_f; exact num_ne hnm
 apply SA
 ·apply E_tup
  ·apply Es_cons; apply E_bi; exact rfl; exact bi_min h1
   apply Es_cons; apply E_bi; exact rfl; exact bi_max h2
   exact Es_nil
  ·exact rfl
 ·exact rfl
 ·exact h
theorem unl_old {n m lo hi:Int} {s t:Bool} {j:Nat} (hnm:(n == m)=false) (h1:(if m<n then m else n)=lo) (h2:(if n<m then m else n)=hi)
  (hl:lookT (.tup [.str "xor", .int lo,.int hi]) made=some (.pv (.int j))) :
  callFn P (d+3) 18 [.ref 1,.pv (PV.tup [.str "bit", .int n,.bool s]),.pv (PV.tup [.str "bit", .int m,.bool t])] ⟨gh o vars tolds made tl,st⟩=some (.pv (PV.tup [.str "bit", .int j,.bool (s == t)]),⟨gh o vars tolds made tl,st⟩):=by
 have hk:keysOk [.str "xor", .int lo,.int hi]=true:=rfl
 have hd:decide (depthPs [.str "xor", .int lo,.int hi]<6)=true:=rfl
 have ho:=once_old d (o:=o) (vars:=vars) (tolds:=tolds) (tl:=tl) (st:=st) hk hd hl
 show callFn P (d+2+1) 18 _ _=_
 generalize d+2=k at ho ⊢
 rw [← tru_eq]
 apply call_with f18 rfl rfl rfl
 ·apply unl_pre hnm h1 h2
  show evSs _ (dropS 4 c18) _ _=_
  dsimp only [c18,dropS]
  apply SA; apply E_meth; exact rfl; exact rfl; exact rfl; exact rfl; exact rfl; apply C_call; exact ho; exact rfl; apply SIf; exact rfl; apply T_f; exact rfl; apply SR; exact rfl
 ·exact rfl
theorem unl_new {n m lo hi:Int} {s t:Bool} (hnm:(n == m)=false) (h1:(if m<n then m else n)=lo) (h2:(if n<m then m else n)=hi)
  (hv:vars.length<1000) (hmd:made.length<1000) (ht:tolds.length<1000)
  (hl:lookT (.tup [.str "xor", .int lo,.int hi]) made=none) :
  callFn P (d+3) 18 [.ref 1,.pv (PV.tup [.str "bit", .int n,.bool s]),.pv (PV.tup [.str "bit", .int m,.bool t])] ⟨gh o vars tolds made tl,st⟩=some (.pv (PV.tup [.str "bit", .int vars.length,.bool (s == t)]),⟨gh o (vars++[.pv (.tup [numName vars.length,.tup TRl])]) (tolds++[.pv (.tup [.str "xor", .int lo,.int hi,.int vars.length])]) (made++[(.tup [.str "xor", .int lo,.int hi],.pv (.int vars.length))]) tl,st⟩):=by
 have hk:keysOk [.str "xor", .int lo,.int hi]=true:=rfl
 have hd:decide (depthPs [.str "xor", .int lo,.int hi]<6)=true:=rfl
 have ho:=once_new d (o:=o) (vars:=vars) (tolds:=tolds) (tl:=tl) (st:=st) hk hd hl hv hmd
 have hp:=fun vars made tl t=>post_ok (d+1) (o:=o) (vars:=vars) (made:=made) (tl:=tl) (st:=st) (t:=t) ht
 show callFn P (d+2+1) 18 _ _=_
 generalize d+2=k at ho hp ⊢
 rw [← tru_eq]
 apply call_with f18 rfl rfl rfl
 ·apply unl_pre hnm h1 h2
  show evSs _ (dropS 4 c18) _ _=_
  dsimp only [c18,dropS]
  apply SA; apply E_meth; exact rfl; exact rfl; exact rfl; exact rfl; exact rfl; apply C_call; exact ho; exact rfl; apply SIf; exact rfl; apply T_t; exact rfl; apply SX; apply E_meth; exact rfl; exact rfl; exact rfl; exact rfl; exact rfl; apply C_call; exact hp _ _ _ _; exact S_nil; apply K_next; apply SR; exact rfl
 ·exact rfl
end
inductive En where
 | or (i j:Nat)
 | all (i:Nat) (s:Bool) (j:Nat) (t:Bool)
 | xor (i j:Nat)
 deriving DecidableEq
noncomputable def En.keyL:En→List PV
 | .or i j=>[.str "or", .tup [.int i,.int j]]
 | .all i s j t=>[.str "all", .tup [(PV.tup [.str "bit", .int i,.bool s]),(PV.tup [.str "bit", .int j,.bool t])]]
 | .xor i j=>[.str "xor", .int i,.int j]
noncomputable def En.key (e:En):PV:=.tup e.keyL
noncomputable def En.tolds (b:Nat):En→List AV
 | .or i j=>[.pv (.tup [.str "or", .tup [.int i,.int j],.int b])]
 | .xor i j=>[.pv (.tup [.str "xor", .int i,.int j,.int b])]
 | .all i true j true=>[.pv (.tup [.str "and", .tup [.int i,.int j],.int b])]
 | .all i true j false=>[.pv (clP [.int i] [.int b]),.pv (clP [] [.int j,.int b]),.pv (clP [.int j,.int b] [.int i])]
 | .all i false j true=>[.pv (clP [] [.int i,.int b]),.pv (clP [.int j] [.int b]),.pv (clP [.int i,.int b] [.int j])]
 | .all _ false _ false=>[]
noncomputable def numsF (k:Nat):List En→List AV
 | []=>[]
 | _::r=>.pv (.tup [numName k,.tup TRl])::numsF (k+1) r
noncomputable def toldsF (k:Nat):List En→List AV
 | []=>[]
 | e::r=>e.tolds k++toldsF (k+1) r
noncomputable def madeF (k:Nat):List En→List (PV × AV)
 | []=>[]
 | e::r=>(e.key,.pv (.int k))::madeF (k+1) r
noncomputable def findE (e:En) (k:Nat):List En→Option Nat
 | []=>none
 | x::r=>if x=e then some k else findE e (k+1) r
noncomputable def bName (k:Nat):AV:=.pv (.tup [.str ((Str.ofString "b")++showInt k),.tup TRl])
noncomputable def varsOf (es:List En):List AV:=[bName 0,bName 1,bName 2]++numsF 3 es
noncomputable def toldsOf (es:List En):List AV:=toldsF 3 es
noncomputable def madeOf (es:List En):List (PV × AV):=madeF 3 es
theorem numsF_len:∀ (es:List En) (k:Nat),(numsF k es).length=es.length
 | [],_=>rfl
 | _::r,k=>by simp [numsF,numsF_len r]
theorem numsF_app (e:En):∀ (es:List En) (k:Nat),numsF k (es++[e])=numsF k es++[.pv (.tup [numName (k+es.length),.tup TRl])]
 | [],_=>rfl
 | _::r,k=>by
  have:k+1+r.length=k+(r.length+1):=Nat.add_right_comm _ _ _
  simp [numsF,numsF_app e r,this]
theorem toldsF_app (e:En):∀ (es:List En) (k:Nat),toldsF k (es++[e])=toldsF k es++e.tolds (k+es.length)
 | [],_=>by simp [toldsF]
 | x::r,k=>by
  have:k+1+r.length=k+(r.length+1):=Nat.add_right_comm _ _ _
  simp [toldsF,toldsF_app e r,this]
theorem En.tolds_len (b:Nat):∀ e:En,(e.tolds b).length≤3
 | .or _ _=>by simp [En.tolds]
 | .xor _ _=>by simp [En.tolds]
 | .all _ s _ t=>by cases s <;> cases t <;> simp [En.tolds]
theorem toldsF_len:∀ (es:List En) (k:Nat),(toldsF k es).length≤3 * es.length
 | [],_=>by simp [toldsF]
 | e::r,k=>by
  have:=toldsF_len r (k+1)
  have:=e.tolds_len k
  simp [toldsF]; exact Nat.le_trans (Nat.add_le_add ‹(En.tolds k e).length≤3› ‹(toldsF (k+1) r).length≤3 * r.length›) (Nat.le_of_eq (Nat.add_comm _ _))
theorem madeF_len:∀ (es:List En) (k:Nat),(madeF k es).length=es.length
 | [],_=>rfl
 | _::r,k=>by simp [madeF,madeF_len r]
theorem madeF_app (e:En):∀ (es:List En) (k:Nat),madeF k (es++[e])=madeF k es++[(e.key,.pv (.int (k+es.length:Nat)))]
 | [],_=>rfl
 | _::r,k=>by
  have:((k+(r.length+1):Nat):Int)=((k+1+r.length:Nat):Int):=(congrArg (fun n:Nat=>(n:Int)) (Nat.add_right_comm k 1 r.length)).symm
  simp [madeF,madeF_app e r]; omega
theorem varsOf_len (es:List En):(varsOf es).length=3+es.length:=by simp [varsOf,numsF_len]; exact Nat.add_comm _ 3
theorem varsOf_app (es:List En) (e:En):varsOf (es++[e])=varsOf es++[.pv (.tup [numName (3+es.length),.tup TRl])]:=by
 simp only [varsOf,numsF_app,List.append_assoc]
theorem str_or_all:(Str.ofString "or" == Str.ofString "all")=false:=by decide +kernel
theorem str_all_or:(Str.ofString "all" == Str.ofString "or")=false:=by decide +kernel
theorem str_or_xor:(Str.ofString "or" == Str.ofString "xor")=false:=by decide +kernel
theorem str_xor_or:(Str.ofString "xor" == Str.ofString "or")=false:=by decide +kernel
theorem str_all_xor:(Str.ofString "all" == Str.ofString "xor")=false:=by decide +kernel
theorem str_xor_all:(Str.ofString "xor" == Str.ofString "all")=false:=by decide +kernel
theorem int_nat_beq (a b:Nat):((a:Int) == (b:Int))=(a == b):=by
 rw [Bool.eq_iff_iff,beq_iff_eq,beq_iff_eq]; exact Int.ofNat_inj
theorem key_eq (x e:En):pyEq x.key e.key=decide (x=e):=by
 rw [Bool.eq_iff_iff,decide_eq_true_eq]
 cases x <;> cases e <;> simp [En.key,En.keyL,pyEq,pyEqs,str_or_all,str_all_or,str_or_xor,str_xor_or,str_all_xor,str_xor_all,int_nat_beq,and_assoc,eqB,eqI,eqS,tupP]
theorem look_made (e:En):∀ (es:List En) (k:Nat),lookT e.key (madeF k es)=(findE e k es).map fun n=>AV.pv (.int n)
 | [],_=>rfl
 | x::r,k=>by
  simp only [madeF,lookT,findE,key_eq,look_made e r]
  by_cases h:x=e <;> simp [h]
noncomputable def onceE (e:En) (es:List En):Nat × List En:=match findE e 3 es with
 | some n=>(n,es)
 | none=>(3+es.length,es++[e])
noncomputable def ent (n:Nat) (s:Bool) (m:Nat) (t:Bool):En:=if s||t then .all n s m t else .or n m
noncomputable def all2 (es:List En):Tr→Tr→Tr × List En
 | .b x,t=>(if x then t else .b false,es)
 | .bit n s,.b v=>(if v then .bit n s else .b false,es)
 | .bit n s,.bit m t=>if n=m then (if s=t then .bit n s else .b false,es)
  else (.bit (onceE (if n<m then ent n s m t else ent m t n s) es).1 (s||t),(onceE (if n<m then ent n s m t else ent m t n s) es).2)
noncomputable def unl (es:List En):Tr→Tr→Tr × List En
 | .b x,t=>(if x then t.con else t,es)
 | .bit n s,.b y=>(if y then .bit n (!s) else .bit n s,es)
 | .bit n s,.bit m t=>if n=m then (.b (s != t),es)
  else (.bit (onceE (if n<m then .xor n m else .xor m n) es).1 (s == t),(onceE (if n<m then .xor n m else .xor m n) es).2)
noncomputable def conn (es:List En) (w:Nat) (a b:Tr):Tr × List En:=match w with
 | 0=>all2 es a b
 | 1=>((all2 es a.con b.con).1.con,(all2 es a.con b.con).2)
 | 2=>((all2 es a.con.con b.con).1.con,(all2 es a.con.con b.con).2)
 | 3=>((all2 es a.con b.con.con).1.con,(all2 es a.con b.con.con).2)
 | 4=>((unl es a b).1.con,(unl es a b).2)
 | _=>unl es a b
noncomputable def Tr.under (k:Nat):Tr→Prop
 | .b _=>True
 | .bit n _=>n<k
theorem con_con (t:Tr):t.con.con=t:=by cases t <;> simp [Tr.con]
theorem con_under {k:Nat} {t:Tr} (h:t.under k):t.con.under k:=by cases t <;> exact h
noncomputable def G (o:AObj) (es:List En) (tl:List AObj):List AObj:=gh o (varsOf es) (toldsOf es) (madeOf es) tl
theorem sort_lt {n m:Int} {s t:Bool} (h:n<m):sortAV [.pv (PV.tup [.str "bit", .int n,.bool s]),.pv (PV.tup [.str "bit", .int m,.bool t])]=some [PV.tup [.str "bit", .int n,.bool s],PV.tup [.str "bit", .int m,.bool t]] :=
 sort_of (a:=(n,s)) (bs:=[(m,t)]) (r:=[(n,s),(m,t)]) (Nat.le_of_ble_eq_true rfl) (ins_f (bitLt_f h))
theorem sort_bits {n m:Nat} {s t:Bool} (h:n ≠ m):sortAV [.pv (PV.tup [.str "bit", .int n,.bool s]),.pv (PV.tup [.str "bit", .int m,.bool t])]=some (if n<m then [(PV.tup [.str "bit", .int n,.bool s]),(PV.tup [.str "bit", .int m,.bool t])] else [(PV.tup [.str "bit", .int m,.bool t]),(PV.tup [.str "bit", .int n,.bool s])]):=by
 by_cases hl:n<m
 ·rw [if_pos hl]; exact sort_lt (Int.ofNat_lt.mpr hl)
 ·rw [if_neg hl]; exact sort_gt (Int.ofNat_lt.mpr (Nat.lt_of_le_of_ne (Nat.not_lt.mp hl) (fun e=>h e.symm)))
section
variable {o:AObj} {tl:List AObj} {st:Bool} {es:List En}
variable (d:Nat)
theorem lookO {e:En} {k:Nat} (h:findE e 3 es=some k):lookT (.tup e.keyL) (madeOf es)=some (.pv (.int k)):=by
 have:=look_made e es 3
 rw [h] at this; exact this
theorem lookN {e:En} (h:findE e 3 es=none):lookT (.tup e.keyL) (madeOf es)=none:=by
 have:=look_made e es 3
 rw [h] at this; exact this
theorem G_app (e:En):G o (es++[e]) tl=gh o (varsOf es++[.pv (.tup [numName (varsOf es).length,.tup TRl])]) (toldsOf es++e.tolds (varsOf es).length) (madeOf es++[(.tup e.keyL,.pv (.int (varsOf es).length))]) tl:=by
 unfold G
 rw [varsOf_app,varsOf_len]
 unfold toldsOf madeOf
 rw [toldsF_app,madeF_app]
 rfl
theorem pair_ok {i j n m:Nat} {x y s t:Bool} (hnm:((n:Int) == m)=false) (hs:sortAV [.pv (PV.tup [.str "bit", .int n,.bool s]),.pv (PV.tup [.str "bit", .int m,.bool t])]=some [(PV.tup [.str "bit", .int i,.bool x]),(PV.tup [.str "bit", .int j,.bool y])]) (hij:i<j) (hj:j<3+es.length) (hl:es.length≤12) :
  callFn P (d+3) 16 [.ref 1,.pv (.lst [(PV.tup [.str "bit", .int n,.bool s]),(PV.tup [.str "bit", .int m,.bool t])])] ⟨G o es tl,st⟩=some (.pv (Tr.bit (onceE (ent i x j y) es).1 (x||y)).pv,⟨G o (onceE (ent i x j y) es).2 tl,st⟩):=by
 have hv:(varsOf es).length=3+es.length:=varsOf_len es
 have ht:(toldsOf es).length<900:=Nat.lt_of_le_of_lt (Nat.le_trans (toldsF_len es 3) (Nat.mul_le_mul_left 3 hl)) (by decide)
 have hm:(madeOf es).length<1000:=by unfold madeOf; rw [madeF_len]; exact Nat.lt_of_le_of_lt hl (by decide)
 unfold onceE
 cases hf:findE (ent i x j y) 3 es with
 | some k =>
  cases x <;> cases y
  ·exact all_ff_old d hnm hs (lookO hf)
  ·exact all_ft_old d hnm hs (lookO hf)
  ·exact all_tf_old d hnm hs (lookO hf)
  ·exact all_tt_old d hnm hs (lookO hf)
 | none =>
  dsimp only
  rw [G_app]
  have e1:(3+es.length)=(varsOf es).length:=hv.symm
  rw [e1]
  have q1:(0:Int)≤i:=Int.natCast_nonneg i
  have q2:(i:Int)<j:=Int.ofNat_lt.mpr hij
  have q3:(j:Int)<(varsOf es).length:=Int.ofNat_lt.mpr (hv.symm▸hj)
  have q4:((varsOf es).length:Int)<32:=Int.ofNat_lt.mpr (show (varsOf es).length<32 from hv.symm▸Nat.lt_of_le_of_lt (Nat.add_le_add_left hl 3) (by decide))
  cases x <;> cases y
  ·exact all_ff_new d hnm hs q1 q2 q3 q4 hm ht (lookN hf)
  ·exact all_ft_new d hnm hs q1 q2 q3 q4 hm ht (lookN hf)
  ·exact all_tf_new d hnm hs q1 q2 q3 q4 hm ht (lookN hf)
  ·exact all_tt_new d hnm hs q1 q2 q3 q4 hm ht (lookN hf)
theorem all2_ok {a b:Tr} (ha:a.under (3+es.length)) (hb:b.under (3+es.length)) (hl:es.length≤12) :
  callFn P (d+3) 16 [.ref 1,.pv (.lst [a.pv,b.pv])] ⟨G o es tl,st⟩=some (.pv (all2 es a b).1.pv,⟨G o (all2 es a b).2 tl,st⟩):=by
 cases a with
 | b x =>
  cases x with
  | false=>exact all_f d b.pv
  | true =>
   cases b with
   | b v=>exact all_tt d v
   | bit n s=>exact all_tb d n s
 | bit n s =>
  cases b with
  | b v=>have:=all_bt d (o:=o) (vars:=varsOf es) (tolds:=toldsOf es) (made:=madeOf es) (tl:=tl) (st:=st) n s v; cases v <;> exact this
  | bit m t =>
   by_cases h:n=m
   ·subst h
    have:=all_same d (o:=o) (vars:=varsOf es) (tolds:=toldsOf es) (made:=madeOf es) (tl:=tl) (st:=st) n s t
    simp only [all2,if_true]
    cases s <;> cases t <;> exact this
   ·have hnm:((n:Int) == m)=false:=by rw [int_nat_beq]; simpa using h
    have hs:=sort_bits (s:=s) (t:=t) h
    simp only [all2,if_neg h]
    by_cases hlt:n<m
    ·rw [if_pos hlt] at hs
     simp only [if_pos hlt]
     exact pair_ok d hnm hs hlt hb hl
    ·rw [if_neg hlt] at hs
     simp only [if_neg hlt]
     have:=pair_ok d (o:=o) (tl:=tl) (st:=st) hnm hs (Nat.lt_of_le_of_ne (Nat.le_of_not_lt hlt) (Ne.symm h)) ha hl
     rw [Bool.or_comm] at this
     exact this
theorem unl_ok {a b:Tr} (hl:es.length≤12) :
  callFn P (d+3) 18 [.ref 1,.pv a.pv,.pv b.pv] ⟨G o es tl,st⟩=some (.pv (unl es a b).1.pv,⟨G o (unl es a b).2 tl,st⟩):=by
 have hv:(varsOf es).length=3+es.length:=varsOf_len es
 have ht:(toldsOf es).length<1000:=Nat.lt_of_le_of_lt (Nat.le_trans (toldsF_len es 3) (Nat.mul_le_mul_left 3 hl)) (by decide)
 have hm:(madeOf es).length<1000:=by unfold madeOf; rw [madeF_len]; exact Nat.lt_of_le_of_lt hl (by decide)
 cases a with
 | b x =>
  have:=unl_b d (o:=o) (vars:=varsOf es) (tolds:=toldsOf es) (made:=madeOf es) (tl:=tl) (st:=st) x b
  cases x <;> exact this
 | bit n s =>
  cases b with
  | b y =>
   have:=unl_tb d (o:=o) (vars:=varsOf es) (tolds:=toldsOf es) (made:=madeOf es) (tl:=tl) (st:=st) n s y
   cases y <;> exact this
  | bit m t =>
   by_cases h:n=m
   ·subst h
    have:=unl_same d (o:=o) (vars:=varsOf es) (tolds:=toldsOf es) (made:=madeOf es) (tl:=tl) (st:=st) n s t
    simp only [unl,if_true]
    exact this
   ·have hnm:((n:Int) == m)=false:=by rw [int_nat_beq]; simpa using h
    simp only [unl,if_neg h]
    obtain ⟨lo,hi,e,h1,h2⟩:∃ lo hi:Nat,(if n<m then En.xor n m else En.xor m n) = .xor lo hi∧(if (m:Int)<n then (m:Int) else n)=lo∧(if (n:Int)<m then (m:Int) else n)=hi:=by
     by_cases hlt:n<m
     ·exact ⟨n,m,by rw [if_pos hlt],by rw [if_neg fun e=>Nat.lt_asymm hlt (Int.ofNat_lt.mp e)],by rw [if_pos (Int.ofNat_lt.mpr hlt)]⟩
     ·exact ⟨m,n,by rw [if_neg hlt],by rw [if_pos (Int.ofNat_lt.mpr (Nat.lt_of_le_of_ne (Nat.le_of_not_lt hlt) (Ne.symm h)))],by rw [if_neg fun e=>hlt (Int.ofNat_lt.mp e)]⟩
    rw [e]
    unfold onceE
    cases hf:findE (.xor lo hi) 3 es with
    | some k=>exact unl_old d hnm h1 h2 (lookO hf)
    | none =>
     dsimp only
     rw [G_app]
     have e1:(3+es.length)=(varsOf es).length:=hv.symm
     rw [e1]
     exact unl_new d hnm h1 h2 (hv.symm▸Nat.lt_of_le_of_lt (Nat.add_le_add_left hl 3) (by decide)) hm ht (lookN hf)
end
section
variable {o:AObj} {tl:List AObj} {st:Bool} {es:List En}
variable (d:Nat)
theorem G_1:(G o es tl)[1]? = some (.inst 2 [(30,.ref 2),(31,.ref 5),(57,.pv .none)]):=rfl
theorem G_2:(G o es tl)[2]? = some (.inst 0 [(4,.ref 3),(5,.ref 4),(6,.pv (.tup [.str "satisfy", .none])),(7,.pv (.tup []))]):=rfl
theorem G_4:(G o es tl)[4]? = some (.list (toldsOf es)):=rfl
theorem any2_ok {a b:Tr} (ha:a.under (3+es.length)) (hb:b.under (3+es.length)) (hl:es.length≤12) :
  callFn P (d+4) 17 [.ref 1,.pv (.lst [a.pv,b.pv])] ⟨G o es tl,st⟩=some (.pv (all2 es a.con b.con).1.con.pv,⟨G o (all2 es a.con b.con).2 tl,st⟩):=by
 have h1:=fun t=>contrary_ok (d+2) t
 have h2:=all2_ok d (o:=o) (tl:=tl) (st:=st) (con_under ha) (con_under hb) hl
 show callFn P (d+3+1) 17 _ _=_
 generalize d+3=k at h1 h2 ⊢
 apply call_with f17 rfl rfl rfl
 ·show evSs _ c17 _ _=_
  unfold c17
  apply SR; apply E_call; apply Es_cons; apply E_meth; exact rfl; exact rfl; exact rfl; exact rfl; apply Es_cons; apply E_comp; apply L_cons; exact rfl; exact rfl; apply It_cons; exact rfl; exact rfl; apply Mo_t; exact rfl; apply L_elt; apply E_call; exact rfl; apply C_call; apply h1; exact rfl; apply It_cons; exact rfl; exact rfl; apply Mo_t; exact rfl; apply L_elt; apply E_call; exact rfl; apply C_call; apply h1; exact rfl; exact rfl; exact rfl; exact rfl; exact rfl; apply C_call; apply h2; exact rfl; apply C_call; apply h1
 ·exact rfl
noncomputable def signP (w:Nat):PV:=signsP.getD w .none
theorem conn_0 {a b:Tr} (ha:a.under (3+es.length)) (hb:b.under (3+es.length)) (hl:es.length≤12) :
  callFn P (d+5) 21 [.ref 1,.pv (.str "/\\"),.pv a.pv,.pv b.pv] ⟨G o es tl,st⟩=some (.pv (conn es 0 a b).1.pv,⟨G o (conn es 0 a b).2 tl,st⟩):=by
 have h1:=fun t=>contrary_ok (d+3) t
 have h2:=all2_ok (d+1) (o:=o) (tl:=tl) (st:=st) ha hb hl
 show callFn P (d+4+1) 21 _ _=_
 generalize d+4=k at h2 ⊢
 apply call_with f21 rfl rfl rfl
 ·show evSs _ c21 _ _=_
  unfold c21
  apply SIf; exact rfl; apply T_f; exact rfl; apply SIf; exact rfl; apply T_t; exact rfl; apply SR; apply E_meth; exact rfl; exact rfl; exact rfl; exact rfl; exact rfl; apply C_call; apply h2; exact K_ret
 ·exact rfl
theorem conn_1 {a b:Tr} (ha:a.under (3+es.length)) (hb:b.under (3+es.length)) (hl:es.length≤12) :
  callFn P (d+5) 21 [.ref 1,.pv (.str "\\/"),.pv a.pv,.pv b.pv] ⟨G o es tl,st⟩=some (.pv (conn es 1 a b).1.pv,⟨G o (conn es 1 a b).2 tl,st⟩):=by
 have h1:=fun t=>contrary_ok (d+3) t
 have h2:=any2_ok d (o:=o) (tl:=tl) (st:=st) ha hb hl
 show callFn P (d+4+1) 21 _ _=_
 generalize d+4=k at h2 ⊢
 apply call_with f21 rfl rfl rfl
 ·show evSs _ c21 _ _=_
  unfold c21
  apply SIf; exact rfl; apply T_f; exact rfl; apply SIf; exact rfl; apply T_f; exact rfl; apply SR; apply E_meth; exact rfl; exact rfl; exact rfl; exact rfl; exact rfl; apply C_call; apply h2
 ·exact rfl
theorem conn_2 {a b:Tr} (ha:a.under (3+es.length)) (hb:b.under (3+es.length)) (hl:es.length≤12) :
  callFn P (d+5) 21 [.ref 1,.pv (.str "->"),.pv a.pv,.pv b.pv] ⟨G o es tl,st⟩=some (.pv (conn es 2 a b).1.pv,⟨G o (conn es 2 a b).2 tl,st⟩):=by
 have h1:=fun t=>contrary_ok (d+3) t
 have h2:=any2_ok d (o:=o) (tl:=tl) (st:=st) (con_under ha) hb hl
 show callFn P (d+4+1) 21 _ _=_
 generalize d+4=k at h1 h2 ⊢
 apply call_with f21 rfl rfl rfl
 ·show evSs _ c21 _ _=_
  unfold c21
  apply SIf; exact rfl; apply T_f; exact rfl; apply SIf; exact rfl; apply T_f; exact rfl; apply SR; apply E_meth; exact rfl; exact rfl; exact rfl; exact rfl; apply Es_cons; apply E_lst; apply Es_cons; apply E_ife; exact rfl; apply Br_t; exact rfl; apply E_call; exact rfl; apply C_call; apply h1; exact rfl; exact rfl; exact rfl; apply C_call; apply h2
 ·exact rfl
theorem conn_3 {a b:Tr} (ha:a.under (3+es.length)) (hb:b.under (3+es.length)) (hl:es.length≤12) :
  callFn P (d+5) 21 [.ref 1,.pv (.str "<-"),.pv a.pv,.pv b.pv] ⟨G o es tl,st⟩=some (.pv (conn es 3 a b).1.pv,⟨G o (conn es 3 a b).2 tl,st⟩):=by
 have h1:=fun t=>contrary_ok (d+3) t
 have h2:=any2_ok d (o:=o) (tl:=tl) (st:=st) ha (con_under hb) hl
 show callFn P (d+4+1) 21 _ _=_
 generalize d+4=k at h1 h2 ⊢
 apply call_with f21 rfl rfl rfl
 ·show evSs _ c21 _ _=_
  unfold c21
  apply SIf; exact rfl; apply T_f; exact rfl; apply SIf; exact rfl; apply T_f; exact rfl; apply SR; apply E_meth; exact rfl; exact rfl; exact rfl; exact rfl; apply Es_cons; apply E_lst; apply Es_cons; exact rfl; apply Es_cons; apply E_ife; exact rfl; apply Br_t; exact rfl; apply E_call; exact rfl; apply C_call; apply h1; exact rfl; exact rfl; exact rfl; apply C_call; apply h2
 ·exact rfl
theorem conn_4 {a b:Tr} (ha:a.under (3+es.length)) (hb:b.under (3+es.length)) (hl:es.length≤12) :
  callFn P (d+5) 21 [.ref 1,.pv (.str "<->"),.pv a.pv,.pv b.pv] ⟨G o es tl,st⟩=some (.pv (conn es 4 a b).1.pv,⟨G o (conn es 4 a b).2 tl,st⟩):=by
 have h1:=fun t=>contrary_ok (d+3) t
 have h2:=unl_ok (d+1) (o:=o) (tl:=tl) (st:=st) (a:=a) (b:=b) hl
 show callFn P (d+4+1) 21 _ _=_
 generalize d+4=k at h1 h2 ⊢
 apply call_with f21 rfl rfl rfl
 ·show evSs _ c21 _ _=_
  unfold c21
  apply SIf; exact rfl; apply T_t; exact rfl; apply SA; apply E_meth; exact rfl; exact rfl; exact rfl; exact rfl; exact rfl; apply C_call; apply h2; exact rfl; apply SR; apply E_ife; exact rfl; apply Br_f; exact rfl; apply E_call; exact rfl; apply C_call; apply h1; exact K_ret
 ·exact rfl
theorem conn_5 {a b:Tr} (ha:a.under (3+es.length)) (hb:b.under (3+es.length)) (hl:es.length≤12) :
  callFn P (d+5) 21 [.ref 1,.pv (.str "xor"),.pv a.pv,.pv b.pv] ⟨G o es tl,st⟩=some (.pv (conn es 5 a b).1.pv,⟨G o (conn es 5 a b).2 tl,st⟩):=by
 have h1:=fun t=>contrary_ok (d+3) t
 have h2:=unl_ok (d+1) (o:=o) (tl:=tl) (st:=st) (a:=a) (b:=b) hl
 show callFn P (d+4+1) 21 _ _=_
 generalize d+4=k at h2 ⊢
 apply call_with f21 rfl rfl rfl
 ·show evSs _ c21 _ _=_
  unfold c21
  apply SIf; exact rfl; apply T_t; exact rfl; apply SA; apply E_meth; exact rfl; exact rfl; exact rfl; exact rfl; exact rfl; apply C_call; apply h2; exact rfl; apply SR; exact rfl; exact K_ret
 ·exact rfl
theorem lt6 {p:Nat→Prop} {w:Nat} (hw:w<6) (h0:p 0) (h1:p 1) (h2:p 2) (h3:p 3) (h4:p 4) (h5:p 5):p w:=by
 cases w with
 | zero=>exact h0
 | succ w=>cases w with
  | zero=>exact h1
  | succ w=>cases w with
   | zero=>exact h2
   | succ w=>cases w with
    | zero=>exact h3
    | succ w=>cases w with
     | zero=>exact h4
     | succ w=>cases w with
      | zero=>exact h5
      | succ w=>exact absurd hw (Nat.not_lt.mpr (Nat.le_add_left 6 w))
theorem conn_ok {w:Nat} {a b:Tr} (hw:w<6) (ha:a.under (3+es.length)) (hb:b.under (3+es.length)) (hl:es.length≤12) :
  callFn P (d+5) 21 [.ref 1,.pv (signP w),.pv a.pv,.pv b.pv] ⟨G o es tl,st⟩=some (.pv (conn es w a b).1.pv,⟨G o (conn es w a b).2 tl,st⟩):=by
 exact lt6 (p:=fun w=>callFn P (d+5) 21 [.ref 1,.pv (signP w),.pv a.pv,.pv b.pv] ⟨G o es tl,st⟩=some (.pv (conn es w a b).1.pv,⟨G o (conn es w a b).2 tl,st⟩)) hw (conn_0 d ha hb hl) (conn_1 d ha hb hl) (conn_2 d ha hb hl) (conn_3 d ha hb hl) (conn_4 d ha hb hl) (conn_5 d ha hb hl)
end
theorem findE_app (e x:En):∀ (es:List En) (k:Nat),findE e k (es++[x])=match findE e k es with | some n=>some n | none=>if x=e then some (k+es.length) else none
 | [],k=>by simp [findE]
 | y::r,k=>by
  have:k+1+r.length=k+(r.length+1):=Nat.add_right_comm _ _ _
  simp only [List.cons_append,findE,findE_app e x r,List.length_cons,this]
  by_cases h:y=e <;> simp [h]
theorem once_stab (e:En) (es:List En):onceE e (onceE e es).2=onceE e es:=by
 unfold onceE
 cases h:findE e 3 es with
 | some n=>simp [h]
 | none=>simp [findE_app,h]
theorem all2_stab (es:List En) (a b:Tr):all2 (all2 es a b).2 a b=all2 es a b:=by
 cases a with
 | b x=>rfl
 | bit n s =>
  cases b with
  | b v=>rfl
  | bit m t =>
   by_cases h:n=m
   ·simp [all2,h]
   ·simp only [all2,if_neg h,once_stab]
theorem all2_comm (es:List En) (a b:Tr):all2 es b a=all2 es a b:=by
 cases a with
 | b x=>cases b with
  | b y=>cases x <;> cases y <;> rfl
  | bit n s=>rfl
 | bit n s =>
  cases b with
  | b v=>rfl
  | bit m t =>
   by_cases h:n=m
   ·subst h; cases s <;> cases t <;> simp [all2]
   ·have h':¬ m=n:=fun e=>h e.symm
    have e:(if m<n then ent m t n s else ent n s m t)=(if n<m then ent n s m t else ent m t n s):=by
     by_cases hl:n<m
     ·rw [if_pos hl,if_neg (Nat.lt_asymm hl)]
     ·rw [if_neg hl,if_pos (Nat.lt_of_le_of_ne (Nat.le_of_not_lt hl) h')]
    simp only [all2,if_neg h,if_neg h',e,Bool.or_comm t s]
theorem unl_stab (es:List En) (a b:Tr):unl (unl es a b).2 a b=unl es a b:=by
 cases a with
 | b x=>rfl
 | bit n s =>
  cases b with
  | b v=>rfl
  | bit m t =>
   by_cases h:n=m
   ·simp [unl,h]
   ·simp only [unl,if_neg h,once_stab]
theorem unl_comm (es:List En) (a b:Tr):unl es b a=unl es a b:=by
 cases a with
 | b x=>cases b with
  | b y=>cases x <;> cases y <;> rfl
  | bit n s=>rfl
 | bit n s =>
  cases b with
  | b v=>rfl
  | bit m t =>
   by_cases h:n=m
   ·subst h; cases s <;> cases t <;> simp [unl]
   ·have h':¬ m=n:=fun e=>h e.symm
    have e:(if m<n then En.xor m n else En.xor n m)=(if n<m then En.xor n m else En.xor m n):=by
     by_cases hl:n<m
     ·rw [if_pos hl,if_neg (Nat.lt_asymm hl)]
     ·rw [if_neg hl,if_pos (Nat.lt_of_le_of_ne (Nat.le_of_not_lt hl) h')]
    have e2:(t == s)=(s == t):=Bool.beq_comm
    simp only [unl,if_neg h,if_neg h',e,e2]
theorem unl_con (es:List En) (a b:Tr):unl es a.con b.con=unl es a b:=by
 cases a with
 | b x=>cases b with
  | b y=>cases x <;> cases y <;> rfl
  | bit n s=>cases x <;> simp [unl,Tr.con]
 | bit n s =>
  cases b with
  | b v=>cases v <;> simp [unl,Tr.con]
  | bit m t=>cases s <;> cases t <;> rfl
theorem conn_stab (es:List En):∀ (w:Nat) (a b:Tr),conn (conn es w a b).2 w a b=conn es w a b
 | 0,_,_=>all2_stab _ _ _
 | 1,_,_=>by simp only [conn,all2_stab]
 | 2,_,_=>by simp only [conn,all2_stab]
 | 3,_,_=>by simp only [conn,all2_stab]
 | 4,_,_=>by simp only [conn,unl_stab]
 | _+5,_,_=>unl_stab _ _ _
theorem flip {p:Tr × List En} {t:Tr} {es:List En} (h:(p.1.con,p.2)=(t,es)):p=(t.con,es):=by
 obtain ⟨x,y⟩:=p
 simp only [Prod.mk.injEq] at h
 rw [← h.1,con_con,h.2]
noncomputable def words (w:Nat) (t:Tr):List PV:=if w<4 then [t.pv,t.pv] else [t.pv,t.pv,t.pv]
theorem signs_map:List.map AV.pv signsP=[.pv (.str "/\\"),.pv (.str "\\/"),.pv (.str "->"),.pv (.str "<-"),.pv (.str "<->"),.pv (.str "xor")]:=rfl
theorem signs_len:signsP.length=6:=rfl
section
variable {o:AObj} {tl:List AObj} {st:Bool} {es:List En}
variable (d:Nat)
theorem other_0 {a b t:Tr} (ha:a.under (3+es.length)) (hb:b.under (3+es.length)) (hl:es.length≤12) (h:conn es 0 a b=(t,es)) :
  callFn P (d+6) 23 [.ref 1,.pv (.int 0),.pv a.pv,.pv b.pv] ⟨G o es tl,st⟩=some (.pv (.lst (words 0 t)),⟨G o es tl,st⟩):=by
 have h1:=fun t=>contrary_ok (d+4) t
 have h':all2 es a b=(t,es):=by
  have h2:=h
  simp only [conn] at h2
  exact h2
 have e0:conn es 1 b.con a.con=(t.con,es):=by
  simp only [conn,con_con]
  first | rw [h'] | rw [all2_comm es a b,h'] | simp only [h',con_con] | simp only [all2_comm es a b,h',con_con]
  try simp only [con_con]
 have c0:=conn_1 d (o:=o) (tl:=tl) (st:=st) (con_under hb) (con_under ha) hl
 rw [e0] at c0
 have e1:conn es 0 b a=(t,es):=by
  simp only [conn]
  first | rw [h'] | rw [all2_comm es a b,h'] | simp only [h',con_con] | simp only [all2_comm es a b,h',con_con]
  try simp only [con_con]
 have c1:=conn_0 d (o:=o) (tl:=tl) (st:=st) hb ha hl
 rw [e1] at c1
 show callFn P (d+5+1) 23 _ _=_
 generalize d+5=k at h1 c0 c1 ⊢
 apply call_with f23 rfl rfl rfl
 ·show evSs _ c23 _ _=_
  unfold c23
  apply SIf; exact rfl; apply T_t; exact rfl; apply SA; apply E_meth; exact rfl; exact rfl; exact rfl; exact rfl; apply Es_cons; exact rfl; apply Es_cons; apply E_call; exact rfl; apply C_call; apply h1; apply Es_cons; apply E_call; exact rfl; apply C_call; apply h1; exact rfl; apply C_call; apply c0; exact rfl; apply SR; apply E_lst; apply Es_cons; apply E_call; exact rfl; apply C_call; apply h1; apply Es_cons; apply E_meth; exact rfl; exact rfl; exact rfl; exact rfl; exact rfl; apply C_call; apply c1; exact rfl; exact rfl; exact K_ret
 ·first | exact rfl | (show some (AV.pv (.lst [t.con.con.pv,t.pv]),_)=_; rw [con_con]; rfl) | (show some (AV.pv (.lst [t.con.con.pv,t.pv,t.pv]),_)=_; rw [con_con]; rfl)
theorem other_1 {a b t:Tr} (ha:a.under (3+es.length)) (hb:b.under (3+es.length)) (hl:es.length≤12) (h:conn es 1 a b=(t,es)) :
  callFn P (d+6) 23 [.ref 1,.pv (.int 1),.pv a.pv,.pv b.pv] ⟨G o es tl,st⟩=some (.pv (.lst (words 1 t)),⟨G o es tl,st⟩):=by
 have h1:=fun t=>contrary_ok (d+4) t
 have h':all2 es a.con b.con=(t.con,es):=by
  have h2:=h
  simp only [conn] at h2
  exact flip h2
 have e0:conn es 0 b.con a.con=(t.con,es):=by
  simp only [conn]
  first | rw [h'] | rw [all2_comm es a.con b.con,h'] | simp only [h',con_con] | simp only [all2_comm es a.con b.con,h',con_con]
  try simp only [con_con]
 have c0:=conn_0 d (o:=o) (tl:=tl) (st:=st) (con_under hb) (con_under ha) hl
 rw [e0] at c0
 have e1:conn es 1 b a=(t,es):=by
  simp only [conn]
  first | rw [h'] | rw [all2_comm es a.con b.con,h'] | simp only [h',con_con] | simp only [all2_comm es a.con b.con,h',con_con]
  try simp only [con_con]
 have c1:=conn_1 d (o:=o) (tl:=tl) (st:=st) hb ha hl
 rw [e1] at c1
 show callFn P (d+5+1) 23 _ _=_
 generalize d+5=k at h1 c0 c1 ⊢
 apply call_with f23 rfl rfl rfl
 ·show evSs _ c23 _ _=_
  unfold c23
  apply SIf; exact rfl; apply T_t; exact rfl; apply SA; apply E_meth; exact rfl; exact rfl; exact rfl; exact rfl; apply Es_cons; exact rfl; apply Es_cons; apply E_call; exact rfl; apply C_call; apply h1; apply Es_cons; apply E_call; exact rfl; apply C_call; apply h1; exact rfl; apply C_call; apply c0; exact rfl; apply SR; apply E_lst; apply Es_cons; apply E_call; exact rfl; apply C_call; apply h1; apply Es_cons; apply E_meth; exact rfl; exact rfl; exact rfl; exact rfl; exact rfl; apply C_call; apply c1; exact rfl; exact rfl; exact K_ret
 ·first | exact rfl | (show some (AV.pv (.lst [t.con.con.pv,t.pv]),_)=_; rw [con_con]; rfl) | (show some (AV.pv (.lst [t.con.con.pv,t.pv,t.pv]),_)=_; rw [con_con]; rfl)
theorem other_2 {a b t:Tr} (ha:a.under (3+es.length)) (hb:b.under (3+es.length)) (hl:es.length≤12) (h:conn es 2 a b=(t,es)) :
  callFn P (d+6) 23 [.ref 1,.pv (.int 2),.pv a.pv,.pv b.pv] ⟨G o es tl,st⟩=some (.pv (.lst (words 2 t)),⟨G o es tl,st⟩):=by
 have h1:=fun t=>contrary_ok (d+4) t
 have h':all2 es a b.con=(t.con,es):=by
  have h2:=h
  simp only [conn,con_con] at h2
  exact flip h2
 have e0:conn es 3 b a=(t,es):=by
  simp only [conn,con_con]
  first | rw [h'] | rw [all2_comm es a b.con,h'] | simp only [h',con_con] | simp only [all2_comm es a b.con,h',con_con]
  try simp only [con_con]
 have c0:=conn_3 d (o:=o) (tl:=tl) (st:=st) hb ha hl
 rw [e0] at c0
 have e1:conn es 1 a.con b=(t,es):=by
  simp only [conn,con_con]
  first | rw [h'] | rw [all2_comm es a b.con,h'] | simp only [h',con_con] | simp only [all2_comm es a b.con,h',con_con]
  try simp only [con_con]
 have c1:=conn_1 d (o:=o) (tl:=tl) (st:=st) (con_under ha) hb hl
 rw [e1] at c1
 show callFn P (d+5+1) 23 _ _=_
 generalize d+5=k at h1 c0 c1 ⊢
 apply call_with f23 rfl rfl rfl
 ·show evSs _ c23 _ _=_
  unfold c23
  apply SIf; exact rfl; apply T_f; exact rfl; apply SIf; exact rfl; apply T_t; exact rfl; apply SA; apply E_meth; exact rfl; exact rfl; exact rfl; exact rfl; exact rfl; apply C_call; apply c0; exact rfl; apply SR; apply E_lst; apply Es_cons; exact rfl; apply Es_cons; apply E_meth; exact rfl; exact rfl; exact rfl; exact rfl; apply Es_cons; exact rfl; apply Es_cons; apply E_ife; exact rfl; apply Br_t; exact rfl; apply E_call; exact rfl; apply C_call; apply h1; exact rfl; apply C_call; apply c1; exact rfl; exact rfl; exact K_ret
 ·first | exact rfl | (show some (AV.pv (.lst [t.con.con.pv,t.pv]),_)=_; rw [con_con]; rfl) | (show some (AV.pv (.lst [t.con.con.pv,t.pv,t.pv]),_)=_; rw [con_con]; rfl)
theorem other_3 {a b t:Tr} (ha:a.under (3+es.length)) (hb:b.under (3+es.length)) (hl:es.length≤12) (h:conn es 3 a b=(t,es)) :
  callFn P (d+6) 23 [.ref 1,.pv (.int 3),.pv a.pv,.pv b.pv] ⟨G o es tl,st⟩=some (.pv (.lst (words 3 t)),⟨G o es tl,st⟩):=by
 have h1:=fun t=>contrary_ok (d+4) t
 have h':all2 es a.con b=(t.con,es):=by
  have h2:=h
  simp only [conn,con_con] at h2
  exact flip h2
 have e0:conn es 2 b a=(t,es):=by
  simp only [conn,con_con]
  first | rw [h'] | rw [all2_comm es a.con b,h'] | simp only [h',con_con] | simp only [all2_comm es a.con b,h',con_con]
  try simp only [con_con]
 have c0:=conn_2 d (o:=o) (tl:=tl) (st:=st) hb ha hl
 rw [e0] at c0
 have e1:conn es 1 a b.con=(t,es):=by
  simp only [conn,con_con]
  first | rw [h'] | rw [all2_comm es a.con b,h'] | simp only [h',con_con] | simp only [all2_comm es a.con b,h',con_con]
  try simp only [con_con]
 have c1:=conn_1 d (o:=o) (tl:=tl) (st:=st) ha (con_under hb) hl
 rw [e1] at c1
 show callFn P (d+5+1) 23 _ _=_
 generalize d+5=k at h1 c0 c1 ⊢
 apply call_with f23 rfl rfl rfl
 ·show evSs _ c23 _ _=_
  unfold c23
  apply SIf; exact rfl; apply T_f; exact rfl; apply SIf; exact rfl; apply T_t; exact rfl; apply SA; apply E_meth; exact rfl; exact rfl; exact rfl; exact rfl; exact rfl; apply C_call; apply c0; exact rfl; apply SR; apply E_lst; apply Es_cons; exact rfl; apply Es_cons; apply E_meth; exact rfl; exact rfl; exact rfl; exact rfl; apply Es_cons; exact rfl; apply Es_cons; exact rfl; apply Es_cons; apply E_ife; exact rfl; apply Br_f; exact rfl; apply E_call; exact rfl; apply C_call; apply h1; exact rfl; apply C_call; apply c1; exact rfl; exact rfl; exact K_ret
 ·first | exact rfl | (show some (AV.pv (.lst [t.con.con.pv,t.pv]),_)=_; rw [con_con]; rfl) | (show some (AV.pv (.lst [t.con.con.pv,t.pv,t.pv]),_)=_; rw [con_con]; rfl)
theorem other_4 {a b t:Tr} (ha:a.under (3+es.length)) (hb:b.under (3+es.length)) (hl:es.length≤12) (h:conn es 4 a b=(t,es)) :
  callFn P (d+6) 23 [.ref 1,.pv (.int 4),.pv a.pv,.pv b.pv] ⟨G o es tl,st⟩=some (.pv (.lst (words 4 t)),⟨G o es tl,st⟩):=by
 have h1:=fun t=>contrary_ok (d+4) t
 have h':unl es a b=(t.con,es):=by
  have h2:=h
  simp only [conn] at h2
  exact flip h2
 have e0:conn es 5 a b=(t.con,es):=by
  simp only [conn]
  first | rw [h'] | rw [unl_comm es a b,h'] | simp only [h',con_con] | simp only [unl_con,unl_comm es a b,h',con_con] | simp only [unl_comm es a b,h',con_con]
  try simp only [con_con]
 have c0:=conn_5 d (o:=o) (tl:=tl) (st:=st) ha hb hl
 rw [e0] at c0
 have e1:conn es 4 b.con a.con=(t,es):=by
  simp only [conn]
  first | rw [h'] | rw [unl_comm es a b,h'] | simp only [h',con_con] | simp only [unl_con,unl_comm es a b,h',con_con] | simp only [unl_comm es a b,h',con_con]
  try simp only [con_con]
 have c1:=conn_4 d (o:=o) (tl:=tl) (st:=st) (con_under hb) (con_under ha) hl
 rw [e1] at c1
 have e2:conn es 4 b a=(t,es):=by
  simp only [conn]
  first | rw [h'] | rw [unl_comm es a b,h'] | simp only [h',con_con] | simp only [unl_con,unl_comm es a b,h',con_con] | simp only [unl_comm es a b,h',con_con]
  try simp only [con_con]
 have c2:=conn_4 d (o:=o) (tl:=tl) (st:=st) hb ha hl
 rw [e2] at c2
 show callFn P (d+5+1) 23 _ _=_
 generalize d+5=k at h1 c0 c1 c2 ⊢
 apply call_with f23 rfl rfl rfl
 ·show evSs _ c23 _ _=_
  unfold c23
  apply SIf; exact rfl; apply T_f; exact rfl; apply SIf; exact rfl; apply T_f; exact rfl; apply SA; apply E_call; apply Es_cons; apply E_meth; exact rfl; exact rfl; exact rfl; exact rfl; exact rfl; apply C_call; apply c0; exact rfl; apply C_call; apply h1; exact rfl; apply SR; apply E_lst; apply Es_cons; exact rfl; apply Es_cons; apply E_meth; exact rfl; exact rfl; exact rfl; exact rfl; apply Es_cons; exact rfl; apply Es_cons; apply E_call; exact rfl; apply C_call; apply h1; apply Es_cons; apply E_call; exact rfl; apply C_call; apply h1; exact rfl; apply C_call; apply c1; apply Es_cons; apply E_meth; exact rfl; exact rfl; exact rfl; exact rfl; exact rfl; apply C_call; apply c2; exact rfl; exact rfl
 ·first | exact rfl | (show some (AV.pv (.lst [t.con.con.pv,t.pv]),_)=_; rw [con_con]; rfl) | (show some (AV.pv (.lst [t.con.con.pv,t.pv,t.pv]),_)=_; rw [con_con]; rfl)
theorem other_5 {a b t:Tr} (ha:a.under (3+es.length)) (hb:b.under (3+es.length)) (hl:es.length≤12) (h:conn es 5 a b=(t,es)) :
  callFn P (d+6) 23 [.ref 1,.pv (.int 5),.pv a.pv,.pv b.pv] ⟨G o es tl,st⟩=some (.pv (.lst (words 5 t)),⟨G o es tl,st⟩):=by
 have h1:=fun t=>contrary_ok (d+4) t
 have h':unl es a b=(t,es):=by
  have h2:=h
  simp only [conn] at h2
  exact h2
 have e0:conn es 4 a b=(t.con,es):=by
  simp only [conn]
  first | rw [h'] | rw [unl_comm es a b,h'] | simp only [h',con_con] | simp only [unl_con,unl_comm es a b,h',con_con] | simp only [unl_comm es a b,h',con_con]
  try simp only [con_con]
 have c0:=conn_4 d (o:=o) (tl:=tl) (st:=st) ha hb hl
 rw [e0] at c0
 have e1:conn es 5 b.con a.con=(t,es):=by
  simp only [conn]
  first | rw [h'] | rw [unl_comm es a b,h'] | simp only [h',con_con] | simp only [unl_con,unl_comm es a b,h'] | simp only [unl_comm es a b,h',con_con]
  try simp only [con_con]
 have c1:=conn_5 d (o:=o) (tl:=tl) (st:=st) (con_under hb) (con_under ha) hl
 rw [e1] at c1
 have e2:conn es 5 b a=(t,es):=by
  simp only [conn]
  first | rw [h'] | rw [unl_comm es a b,h'] | simp only [h',con_con] | simp only [unl_con,unl_comm es a b,h',con_con] | simp only [unl_comm es a b,h',con_con]
  try simp only [con_con]
 have c2:=conn_5 d (o:=o) (tl:=tl) (st:=st) hb ha hl
 rw [e2] at c2
 show callFn P (d+5+1) 23 _ _=_
 generalize d+5=k at h1 c0 c1 c2 ⊢
 apply call_with f23 rfl rfl rfl
 ·show evSs _ c23 _ _=_
  unfold c23
  apply SIf; exact rfl; apply T_f; exact rfl; apply SIf; exact rfl; apply T_f; exact rfl; apply SA; apply E_call; apply Es_cons; apply E_meth; exact rfl; exact rfl; exact rfl; exact rfl; exact rfl; apply C_call; apply c0; exact rfl; apply C_call; apply h1; exact rfl; apply SR; apply E_lst; apply Es_cons; exact rfl; apply Es_cons; apply E_meth; exact rfl; exact rfl; exact rfl; exact rfl; apply Es_cons; exact rfl; apply Es_cons; apply E_call; exact rfl; apply C_call; apply h1; apply Es_cons; apply E_call; exact rfl; apply C_call; apply h1; exact rfl; apply C_call; apply c1; apply Es_cons; apply E_meth; exact rfl; exact rfl; exact rfl; exact rfl; exact rfl; apply C_call; apply c2; exact rfl; exact rfl
 ·first | exact rfl | (show some (AV.pv (.lst [t.con.con.pv,t.pv]),_)=_; rw [con_con]; rfl) | (show some (AV.pv (.lst [t.con.con.pv,t.pv,t.pv]),_)=_; rw [con_con]; rfl)
end
noncomputable def tp (cells:List Int) (spot:Nat):AObj:=.dictS [(Str.ofString "cells", .pv (.lst (intsAV cells))),(Str.ofString "spot", .pv (.int spot))]
theorem small_nat {n:Nat} (h:n<1000000000):smallInt (n:Int)=true:=by
 unfold smallInt
 have:(1000000000:Nat)≤10 ^ 1001:=by
  have:(10:Nat) ^ 9≤10 ^ 1001:=Nat.pow_le_pow_right (by decide) (by decide)
  exact this
 exact decide_eq_true (Nat.lt_of_lt_of_le h this)
theorem mul_small {a b:Nat} {s:St} {m:Bool} (ha:a<1000000000) (hb:b<1000000000):evBin .mul m (.pv (.int a)) (.pv (.int b)) s=some (.pv (.int ((a * b:Nat):Int)),s):=by
 show ob (if (smallInt a&&smallInt b)=true then some ((a:Int) * b) else none) _=_
 rw [small_nat ha,small_nat hb,← Int.natCast_mul]; rfl
theorem add_nat {a b:Nat} {s:St} {m:Bool}:evBin .add m (.pv (.int a)) (.pv (.int b)) s=some (.pv (.int ((a+b:Nat):Int)),s):=by
 rw [Int.natCast_add]; rfl
theorem mod_any {a:Int} {b r:Nat} {s:St} {m:Bool} (hb:0<b) (h:a.fmod b=r):evBin .mod m (.pv (.int a)) (.pv (.int b)) s=some (.pv (.int r),s):=by
 show ob (if (b:Int)=0 then none else some (a.fmod b)) _=_
 rw [if_neg (show ¬ (b:Int)=0 from by omega),h]; rfl
theorem fmod_nat (x:Int) {w:Nat} (hw:0<w):∃ v:Nat,v<w∧x.fmod w=v:=by
 have h1:=Int.fmod_nonneg_of_pos x (b:=w) (Int.natCast_pos.mpr hw)
 have h2:=Int.fmod_lt_of_pos x (b:=w) (Int.natCast_pos.mpr hw)
 exact ⟨(x.fmod w).toNat,by omega,by omega⟩
theorem ints_len (l:List Int):(intsAV l).length=l.length:=List.length_map _
theorem ints_at {l:List Int} {n:Nat} (h:n<l.length):((intsAV l).map AV.pv)[n]? = some (.pv (.int l[n])):=by
 rw [intsAV,List.map_map,List.getElem?_map,List.getElem?_eq_getElem h]; rfl
theorem take_len {cells:List Int} {s:St} (h:cells.length≤63):evBI .len [.pv (.lst (intsAV cells))] s=some (.pv (.int cells.length),s):=by
 have e:((intsAV cells).map AV.pv).length=cells.length:=by rw [List.length_map,ints_len]
 rw [len_ok (l:=(intsAV cells).map AV.pv) rfl (by rw [e]; exact Nat.le_trans h (by decide)),e]
theorem take_pre {d:Nat} {cells:List Int} {spot w:Nat} {tl:List AObj} {st:Bool} {v:Nat} (h:spot<1000)
  (hr:evSs (ctxOf P (callFn P d)) (dropS 2 c22) [(61,.ref 0),(62,.pv (.int w)),(60,.pv (.int spot))] ⟨tp cells (spot+1)::tl,st⟩=some ((.ret (.pv (.int v)),[(61,.ref 0),(62,.pv (.int w)),(60,.pv (.int spot))]),⟨tp cells (spot+1)::tl,st⟩)) :
  callFn P (d+1) 22 [.ref 0,.pv (.int w)] ⟨tp cells spot::tl,st⟩=some (.pv (.int v),⟨tp cells (spot+1)::tl,st⟩):=by
 apply call_with f22 rfl rfl rfl
 ·show evSs _ c22 _ _=_
  unfold c22
  apply SA; exact rfl; exact rfl
  apply S_step
  ·apply S_setSub
   ·apply E_bin; exact rfl; exact rfl; exact add_nat (b:=1)
   ·exact rfl
   ·exact rfl
   ·exact rfl
   ·exact rfl
   ·exact rfl
  apply K_next
  exact hr
 ·exact rfl
theorem take_ok (d:Nat) (cells:List Int) (spot w:Nat) (hc:cells.length≤63) (hs:spot<1000) (hw:0<w) :
  ∃ v:Nat,v<w∧∀ (tl:List AObj) (st:Bool),callFn P (d+1) 22 [.ref 0,.pv (.int w)] ⟨tp cells spot::tl,st⟩=some (.pv (.int v),⟨tp cells (spot+1)::tl,st⟩):=by
 have hs9:spot<1000000000:=Nat.lt_trans hs (by decide)
 by_cases hlt:spot<cells.length
 ·obtain ⟨v,hv,e⟩:=fmod_nat cells[spot] hw
  refine ⟨v,hv,fun tl st=>?_⟩
  apply take_pre hs
  dsimp only [c22,dropS]
  apply SIf
  ·apply E_cmp; exact rfl
   ·apply E_bi; exact rfl; exact take_len hc
   ·exact rfl
  apply T_t
  ·exact decide_eq_true (Int.ofNat_lt.mpr hlt)
  ·apply SR
   ·apply E_bin
    ·apply E_sub; exact rfl; exact rfl
     exact at_nat hs9 (ints_at hlt)
    ·exact rfl
    ·exact mod_any hw e
  ·exact K_ret
 ·obtain ⟨v,hv,e⟩:=fmod_nat (((((7 * spot * spot+2 * spot)+3 * cells.length)+4:Nat):Int).fmod (47:Nat)) hw
  obtain ⟨u,_,eu⟩:=fmod_nat ((((7 * spot * spot+2 * spot)+3 * cells.length)+4:Nat):Int) (w:=47) (by decide)
  refine ⟨v,hv,fun tl st=>?_⟩
  apply take_pre hs
  dsimp only [c22,dropS]
  apply SIf
  ·apply E_cmp; exact rfl
   ·apply E_bi; exact rfl; exact take_len hc
   ·exact rfl
  apply T_f
  ·exact decide_eq_false (fun h=>hlt (Int.ofNat_lt.mp h))
  apply SR
  ·apply E_bin
   ·apply E_bin
    ·apply E_bin
     ·apply E_bin
      ·apply E_bin
       ·apply E_bin
        ·apply E_bin; exact rfl; exact rfl; exact mul_small (a:=7) (by decide) hs9
        ·exact rfl
        ·exact mul_small (by omega) hs9
       ·apply E_bin; exact rfl; exact rfl; exact mul_small (a:=2) (by decide) hs9
       ·exact add_nat
      ·apply E_bin; exact rfl
       ·apply E_bi; exact rfl; exact take_len hc
       ·exact mul_small (a:=3) (by decide) (by omega)
      ·exact add_nat
     ·exact rfl
     ·exact add_nat (b:=4)
    ·exact rfl
    ·exact mod_any (b:=47) (by decide) eu
   ·exact rfl
   ·exact mod_any hw (by rw [← eu]; exact e)
theorem get_put (i:Nat) (v:AV) (Γ:Env) (j:Nat):(Γ.put i v).get j=if i=j then some v else Γ.get j:=by
 by_cases h:i=j
 ·rw [if_pos h,← h]; exact get_eq
 ·rw [if_neg h]; exact get_ne' (beq_false_of_ne h)
theorem get_del (xs:List Nat) (Γ:Env) (i:Nat):(Env.del xs Γ).get i=if xs.contains i then none else Γ.get i:=by
 cases h:xs.contains i with
 | true=>exact get_del_in h
 | false=>exact get_del' h
noncomputable def LS (cells:List Int) (spot:Nat) (es:List En) (asked:List AV) (lots:List (Int × AV)) (pool:List Tr) (rest:List AObj):List AObj :=
 G (tp cells spot) es (.list asked::.dictI lots::.list (pool.map fun t=>.pv t.pv)::rest)
section
variable {cells:List Int} {spot:Nat} {es:List En} {asked:List AV} {lots:List (Int × AV)} {pool:List Tr} {rest:List AObj} {st:Bool} {x y x' y':AObj}
theorem ls_new:St.new ⟨LS cells spot es asked lots pool rest,st⟩ x=(.ref (rest.length+9),⟨LS cells spot es asked lots pool (rest++[x]),st⟩):=rfl
theorem ls_0:(LS cells spot es asked lots pool rest)[0]? = some (tp cells spot):=rfl
theorem ls_1:(LS cells spot es asked lots pool rest)[1]? = some (.inst 2 [(30,.ref 2),(31,.ref 5),(57,.pv .none)]):=rfl
theorem ls_2:(LS cells spot es asked lots pool rest)[2]? = some (.inst 0 [(4,.ref 3),(5,.ref 4),(6,.pv (.tup [.str "satisfy", .none])),(7,.pv (.tup []))]):=rfl
theorem ls_3:(LS cells spot es asked lots pool rest)[3]? = some (.list (varsOf es)):=rfl
theorem ls_4:(LS cells spot es asked lots pool rest)[4]? = some (.list (toldsOf es)):=rfl
theorem ls_6:(LS cells spot es asked lots pool rest)[6]? = some (.list asked):=rfl
theorem ls_7:(LS cells spot es asked lots pool rest)[7]? = some (.dictI lots):=rfl
theorem ls_8:(LS cells spot es asked lots pool rest)[8]? = some (.list (pool.map fun t=>.pv t.pv)):=rfl
theorem ls_rest (k:Nat):(LS cells spot es asked lots pool rest)[k+9]? = rest[k]? := rfl
theorem ls_set (k:Nat):(LS cells spot es asked lots pool rest).set (k+9) x=LS cells spot es asked lots pool (rest.set k x):=rfl
theorem ls_set8 (t:Tr):(LS cells spot es asked lots pool rest).set 8 (.list (List.map (fun t=>AV.pv t.pv) pool++[.pv t.pv]))=LS cells spot es asked lots (pool++[t]) rest:=by
 simp [LS,G,gh]
theorem ls_set6 {l:List AV}:(LS cells spot es asked lots pool rest).set 6 (.list l)=LS cells spot es l lots pool rest:=rfl
theorem ls_a:(LS cells spot es asked lots pool (rest++[x,y]))[rest.length+9]? = some x:=by rw [ls_rest]; simp
theorem ls_b:(LS cells spot es asked lots pool (rest++[x,y]))[rest.length+10]? = some y:=by
 rw [show rest.length+10=(rest.length+1)+9 from rfl,ls_rest]; simp
theorem ls_seta:(LS cells spot es asked lots pool (rest++[x,y])).set (rest.length+9) x'=LS cells spot es asked lots pool (rest++[x',y]):=by
 rw [ls_set]; simp
theorem ls_setb:(LS cells spot es asked lots pool (rest++[x,y])).set (rest.length+10) y'=LS cells spot es asked lots pool (rest++[x,y']):=by
 rw [show rest.length+10=(rest.length+1)+9 from rfl,ls_set]; simp
variable (d:Nat)
theorem size_LS (h:es.length≤12):callFn P (d+1) 5 [.ref 2] ⟨LS cells spot es asked lots pool rest,st⟩=some (.pv (.int (3+es.length:Nat)),⟨LS cells spot es asked lots pool rest,st⟩):=by
 have:=size_ok d (o:=tp cells spot) (vars:=varsOf es) (tolds:=toldsOf es) (made:=madeOf es) (tl:=(.list asked::.dictI lots::.list (pool.map fun t=>.pv t.pv)::rest)) (st:=st) (by rw [varsOf_len]; omega)
 rw [varsOf_len] at this
 exact this
theorem conn_LS {w:Nat} {a b:Tr} (hw:w<6) (ha:a.under (3+es.length)) (hb:b.under (3+es.length)) (hl:es.length≤12) :
  callFn P (d+5) 21 [.ref 1,.pv (signP w),.pv a.pv,.pv b.pv] ⟨LS cells spot es asked lots pool rest,st⟩=some (.pv (conn es w a b).1.pv,⟨LS cells spot (conn es w a b).2 asked lots pool rest,st⟩):=conn_ok d hw ha hb hl
theorem other_LS {w:Nat} {a b t:Tr} (hw:w<6) (ha:a.under (3+es.length)) (hb:b.under (3+es.length)) (hl:es.length≤12) (h:conn es w a b=(t,es)) :
  callFn P (d+6) 23 [.ref 1,.pv (.int w),.pv a.pv,.pv b.pv] ⟨LS cells spot es asked lots pool rest,st⟩=some (.pv (.lst (words w t)),⟨LS cells spot es asked lots pool rest,st⟩):=by
 revert h
 exact lt6 (p:=fun w=>conn es w a b=(t,es)→callFn P (d+6) 23 [.ref 1,.pv (.int w),.pv a.pv,.pv b.pv] ⟨LS cells spot es asked lots pool rest,st⟩=some (.pv (.lst (words w t)),⟨LS cells spot es asked lots pool rest,st⟩)) hw (fun h=>other_0 d ha hb hl h) (fun h=>other_1 d ha hb hl h) (fun h=>other_2 d ha hb hl h) (fun h=>other_3 d ha hb hl h) (fun h=>other_4 d ha hb hl h) (fun h=>other_5 d ha hb hl h)
theorem take_LS (hc:cells.length≤63) (hs:spot<1000) {w:Nat} (hw:0<w) :
  ∃ v:Nat,v<w∧∀ (es:List En) (asked:List AV) (lots:List (Int × AV)) (pool:List Tr) (rest:List AObj) (st:Bool),callFn P (d+1) 22 [.ref 0,.pv (.int w)] ⟨LS cells spot es asked lots pool rest,st⟩=some (.pv (.int v),⟨LS cells (spot+1) es asked lots pool rest,st⟩):=by
 obtain ⟨v,hv,h⟩:=take_ok d cells spot w hc hs hw
 exact ⟨v,hv,fun es asked lots pool rest st=>h _ st⟩
end
theorem range2:rangeI 0 2=[0,1]:=rfl
section
variable {d:Nat} {cells:List Int} {spot:Nat} {es:List En} {asked:List AV} {lots:List (Int × AV)} {pool:List Tr} {rest:List AObj} {st:Bool} {Γ:Env}
noncomputable abbrev Draw (d:Nat) (cells:List Int) (spot:Nat) (w v:Int):Prop:=∀ (es:List En) (asked:List AV) (lots:List (Int × AV)) (pool:List Tr) (rest:List AObj) (st:Bool),callFn P (d+6) 22 [.ref 0,.pv (.int w)] ⟨LS cells spot es asked lots pool rest,st⟩=some (.pv (.int v),⟨LS cells (spot+1) es asked lots pool rest,st⟩)
theorem E_newLS {C:Ctx}:evE C Γ (.list true .nil) ⟨LS cells spot es asked lots pool rest,st⟩=some (.ref (rest.length+9),⟨LS cells spot es asked lots pool (rest++[.list []]),st⟩):=rfl
theorem E_newLS2 {C:Ctx} {x:AObj}:evE C Γ (.list true .nil) ⟨LS cells spot es asked lots pool (rest++[x]),st⟩=some (.ref (rest.length+10),⟨LS cells spot es asked lots pool (rest++[x,.list []]),st⟩):=by
 rw [E_newLS,List.length_append,List.append_assoc]; rfl
theorem st_1 {v:Int} (h61:Γ.get 61=some (.ref 0)) (hv:Draw d cells spot 6 v) :
  evS (ctxOf P (callFn P (d+6))) law_s1 Γ ⟨LS cells spot es asked lots pool rest,st⟩=some ((.next,((Γ.put 64 (.pv (.int v))).put 83 (.ref (rest.length+9))).put 82 (.ref (rest.length+10))),⟨LS cells (spot+1) es asked lots pool (rest++[.list [],.list []]),st⟩):=by
 have hv:=hv
 unfold Draw at hv
 generalize d+6=k at hv ⊢
 unfold law_s1
 apply S_assign; apply E_tup; apply Es_cons; apply E_call; apply Es_cons; exact E_var (by assumption); exact rfl; apply C_call; apply hv; apply Es_cons; exact E_newLS; apply Es_cons; exact E_newLS2; exact rfl; exact rfl; exact rfl
theorem app_a {v:AV} {l:List AV} {y:AObj} (h2:decide (l.length<big)=true) (hp:isPV v=true):evBM .append (.ref (rest.length+9)) [v] ⟨LS cells spot es asked lots pool (rest++[.list l,y]),st⟩=some (.pv .none,⟨LS cells spot es asked lots pool (rest++[.list (l++[v]),y]),st⟩):=by
 rw [app_at ls_a hp h2]; show some (AV.pv .none,(⟨(LS cells spot es asked lots pool (rest++[.list l,y])).set (rest.length+9) _,st⟩:St))=_; rw [ls_seta]
theorem app_b {v:AV} {l:List AV} {x:AObj} (h2:decide (l.length<big)=true) (hp:isPV v=true):evBM .append (.ref (rest.length+10)) [v] ⟨LS cells spot es asked lots pool (rest++[x,.list l]),st⟩=some (.pv .none,⟨LS cells spot es asked lots pool (rest++[x,.list (l++[v])]),st⟩):=by
 rw [app_at ls_b hp h2]; show some (AV.pv .none,(⟨(LS cells spot es asked lots pool (rest++[x,.list l])).set (rest.length+10) _,st⟩:St))=_; rw [ls_setb]
theorem len_pool {k:Nat} (h:pool.length≤20):evBI .len [.ref 8] ⟨LS cells spot es asked lots pool rest,st⟩=some (.pv (.int pool.length),⟨LS cells spot es asked lots pool rest,st⟩):=by
 have e:(pool.map fun t=>AV.pv t.pv).length=pool.length:=List.length_map _
 rw [len_ok (l:=pool.map fun t=>AV.pv t.pv) rfl (by rw [e]; exact Nat.le_trans h (by decide)),e]
theorem st_for {i0 t0 i1 t1:Int} (h61:Γ.get 61=some (.ref 0)) (h79:Γ.get 79=some (.ref 8)) (h82:Γ.get 82=some (.ref (rest.length+10))) (h83:Γ.get 83=some (.ref (rest.length+9))) (hp:pool.length≤20)
  (d1:Draw d cells spot 2 t0) (d2:Draw d cells (spot+1) pool.length i0) (d3:Draw d cells (spot+2) 2 t1) (d4:Draw d cells (spot+3) pool.length i1) :
  evS (ctxOf P (callFn P (d+6))) (.forS (.nm 84) (.range1 (.int 2)) law_b0) Γ ⟨LS cells spot es asked lots pool (rest++[.list [],.list []]),st⟩ =
   some ((.next,(Γ.put 84 (.pv (.int 0))).put 84 (.pv (.int 1))),⟨LS cells (spot+4) es asked lots pool (rest++[.list [.pv (.int i0),.pv (.int i1)],.list [.pv (.bool (t0 == 1)),.pv (.bool (t1 == 1))]]),st⟩):=by
 have d1:=d1
 have d2:=d2
 have d3:=d3
 have d4:=d4
 unfold Draw at d1 d2 d3 d4
 generalize d+6=k at d1 d2 d3 d4 ⊢
 unfold law_b0
 apply S_for; exact rfl; apply F_step; exact rfl; apply SX; apply E_bm; exact E_var (get_ne rfl (by assumption)); exact bm_at ls_b rfl; apply Es_cons; apply E_cmp; apply E_call; apply Es_cons; exact E_var (get_ne rfl (by assumption)); exact rfl; apply C_call; apply d1; exact rfl; exact rfl; exact rfl; exact app_b rfl rfl; apply SX; apply E_bm; exact E_var (get_ne rfl (by assumption)); exact bm_at ls_a rfl; apply Es_cons; apply E_call; apply Es_cons; exact E_var (get_ne rfl (by assumption)); apply Es_cons; apply E_bi; apply Es_cons; exact E_var (get_ne rfl (by assumption)); exact rfl; exact len_pool (k:=0) hp; exact rfl; apply C_call; apply d2; exact rfl; exact app_a rfl rfl; exact S_nil; apply KF_next; exact rfl; apply F_step; exact rfl; apply SX; apply E_bm; exact E_var (get_ne rfl (get_ne rfl (by assumption))); exact bm_at ls_b rfl; apply Es_cons; apply E_cmp; apply E_call; apply Es_cons; exact E_var (get_ne rfl (get_ne rfl (by assumption))); exact rfl; apply C_call; apply d3; exact rfl; exact rfl; exact rfl; exact app_b rfl rfl; apply SX; apply E_bm; exact E_var (get_ne rfl (get_ne rfl (by assumption))); exact bm_at ls_a rfl; apply Es_cons; apply E_call; apply Es_cons; exact E_var (get_ne rfl (get_ne rfl (by assumption))); apply Es_cons; apply E_bi; apply Es_cons; exact E_var (get_ne rfl (get_ne rfl (by assumption))); exact rfl; exact len_pool (k:=0) hp; exact rfl; apply C_call; apply d4; exact rfl; exact app_a rfl rfl; exact S_nil; apply KF_next; exact rfl; exact F_nil
end
noncomputable def pick (t:Tr) (u:Bool):Tr:=if u then t.con else t
noncomputable def plainT:Tr→Tr→Bool
 | .bit n _,.bit m _=>n == m
 | _,_=>true
section
variable {d:Nat} {cells:List Int} {spot:Nat} {es:List En} {asked:List AV} {lots:List (Int × AV)} {pool:List Tr} {rest:List AObj} {st:Bool} {Γ:Env}
theorem at_pool {s:St} {i:Nat} {a:Tr} (h8:s.heap[8]? = some (.list (pool.map fun t=>.pv t.pv))) (h:pool[i]? = some a) (hp:pool.length≤20):evSub (.ref 8) (.pv (.int i)) s=some (.pv a.pv):=by
 refine sub_at h8 (at_nat (Nat.lt_of_lt_of_le (List.getElem?_eq_some_iff.mp h).1 (Nat.le_trans hp (by decide))) ?_)
 rw [List.getElem?_map,h]; rfl
theorem turn_it {k:Nat} {s:St} {a:Tr} {i:Nat} {u:Bool} (hc:∀ (t:Tr) (σ:St),callFn P k 10 [.pv t.pv] σ=some (.pv t.con.pv,σ)) (h79:Γ.get 79=some (.ref 8)) (h85:Γ.get 85=some (.pv (.int i))) (h86:Γ.get 86=some (.pv (.bool u)))
  (h8:s.heap[8]? = some (.list (pool.map fun t=>.pv t.pv))) (h:pool[i]? = some a) (hp:pool.length≤20) :
  evE (ctxOf P (callFn P k)) Γ (.ife (.var 86) (.call 10 (.cons (.sub (.var 79) (.var 85)) .nil)) (.sub (.var 79) (.var 85))) s=some (.pv (pick a u).pv,s):=by
 apply E_ife
 ·exact E_var h86
 cases u with
 | true =>
  apply Br_t rfl
  apply E_call
  ·apply Es_cons
   ·apply E_sub; exact E_var h79; exact E_var h85; exact at_pool h8 h hp
   ·exact Es_nil
  ·exact hc a s
 | false =>
  apply Br_f rfl
  apply E_sub; exact E_var h79; exact E_var h85; exact at_pool h8 h hp
theorem held_2 {i j:Nat} {l m:List AV} {s:St} (h:s.heap[i]? = some (.list l)) (h2:s.heap[j]? = some (.list m)):heldOk [(i,l),(j,m)] s=true:=by
 have e:∀ {i:Nat} {l:List AV},s.heap[i]? = some (.list l)→listIs s (i,l)=true:=fun {i l} h=>by
  show (match s.heap[i]? with | some (.list m)=>AV.sames m l | _=>false)=true
  rw [h]; exact AV.sames_self l
 show (listIs s (i,l)&&(listIs s (j,m)&&true))=true
 rw [e h,e h2]; rfl
theorem st_2 {i0 i1:Nat} {u0 u1:Bool} {a b:Tr} (h79:Γ.get 79=some (.ref 8)) (h82:Γ.get 82=some (.ref (rest.length+10))) (h83:Γ.get 83=some (.ref (rest.length+9))) (hp:pool.length≤20)
  (ha:pool[i0]? = some a) (hb:pool[i1]? = some b) :
  evS (ctxOf P (callFn P (d+6))) law_s2 Γ ⟨LS cells spot es asked lots pool (rest++[.list [.pv (.int i0),.pv (.int i1)],.list [.pv (.bool u0),.pv (.bool u1)]]),st⟩ =
   some ((.next,(Γ.put 51 (.pv (pick a u0).pv)).put 52 (.pv (pick b u1).pv)),⟨LS cells spot es asked lots pool (rest++[.list [.pv (.int i0),.pv (.int i1)],.list [.pv (.bool u0),.pv (.bool u1)]]),st⟩):=by
 have hc:=fun t=>contrary_ok (d+5) t
 generalize d+6=k at hc ⊢
 unfold law_s2
 apply S_assign
 ·apply E_comp
  ·apply L_cons
   ·apply I_zip
    ·exact E_var (get_del_ne rfl h83)
    ·exact E_var (get_del_ne rfl h82)
    ·exact src_at ls_a rfl
    ·exact src_at ls_b rfl
    ·exact rfl
   ·exact fresh_two (get_del_in rfl) (get_del_in rfl)
   ·apply It_cons
    ·exact rfl
    ·exact Ifs_nil
    ·apply Mo_t; exact rfl; apply L_elt
     refine turn_it (u:=u0) hc ?_ ?_ ?_ ls_8 ha hp
     ·exact get_ne rfl (get_ne rfl (get_del_ne rfl h79))
     ·exact get_ne rfl get_eq
     ·exact get_eq
    ·exact held_2 ls_a ls_b
    apply It_cons
    ·exact rfl
    ·exact Ifs_nil
    ·apply Mo_t; exact rfl; apply L_elt
     refine turn_it (u:=u1) hc ?_ ?_ ?_ ls_8 hb hp
     ·exact get_ne rfl (get_ne rfl (get_del_ne rfl h79))
     ·exact get_ne rfl get_eq
     ·exact get_eq
    ·exact held_2 ls_a ls_b
    exact It_nil
  ·exact rfl
  ·exact rfl
 ·exact rfl
noncomputable def szP (es:List En):PV:=.tup [.int (3+es.length:Nat),.int (toldsOf es).length]
theorem tolds_big (h:es.length≤12):(toldsOf es).length≤big:=Nat.le_trans (toldsF_len es 3) (Nat.le_trans (Nat.mul_le_mul_left 3 h) (by decide))
theorem sizes {k:Nat} (h66:Γ.get 66=some (.ref 1)) (hl:es.length≤12) (hs:callFn P k 5 [.ref 2] ⟨LS cells spot es asked lots pool rest,st⟩=some (.pv (.int (3+es.length:Nat)),⟨LS cells spot es asked lots pool rest,st⟩)) :
  evE (ctxOf P (callFn P k)) Γ (.tup (.cons (.meth (.attr (.var 66) 30) 14 .nil) (.cons (.bi .len (.cons (.attr (.attr (.var 66) 30) 5) .nil)) .nil))) ⟨LS cells spot es asked lots pool rest,st⟩=some (.pv (szP es),⟨LS cells spot es asked lots pool rest,st⟩):=by
 have hv:=E_var (C:=ctxOf P (callFn P k)) (s:=⟨LS cells spot es asked lots pool rest,st⟩) h66
 apply E_tup
 ·apply Es_cons
  ·apply E_meth
   ·apply E_attr hv; exact rfl
   ·exact rfl
   ·exact rfl
   ·exact rfl
   ·exact Es_nil
   ·exact hs
  apply Es_cons
  ·apply E_bi
   ·apply Es_cons
    ·apply E_attr
     ·apply E_attr hv; exact rfl
     ·exact rfl
    ·exact Es_nil
   ·exact len_ok (l:=toldsOf es) rfl (tolds_big hl)
  ·exact Es_nil
 ·exact rfl
theorem st_3 (h66:Γ.get 66=some (.ref 1)) (hl:es.length≤12) :
  evS (ctxOf P (callFn P (d+6))) law_s3 Γ ⟨LS cells spot es asked lots pool rest,st⟩=some ((.next,Γ.put 87 (.pv (szP es))),⟨LS cells spot es asked lots pool rest,st⟩) :=
 S_assign (sizes h66 hl (size_LS (d+5) hl)) rfl
theorem st_4 (h66:Γ.get 66=some (.ref 1)) (hl:es.length≤12) :
  evS (ctxOf P (callFn P (d+6))) law_s4 Γ ⟨LS cells spot es asked lots pool rest,st⟩=some ((.next,Γ.put 88 (.pv (szP es))),⟨LS cells spot es asked lots pool rest,st⟩) :=
 S_assign (sizes h66 hl (size_LS (d+5) hl)) rfl
theorem sign_at {w:Nat} (h:w<6):signsP[w]? = some (signP w):=by
 unfold signP
 rw [List.getD_eq_getElem?_getD]
 rw [List.getElem?_eq_getElem (show w<signsP.length from h)]; rfl
theorem sub_tup {l:List PV} {i x:AV} {s:St} (h:atIdx (l.map AV.pv) i=some x):evSub (.pv (.tup l)) i s=some x:=h
theorem glob_sign {C:Ctx} {w:Nat} {s:St} (hC:C.glob 2=some (.tup signsP)) (h64:Γ.get 64=some (.pv (.int w))) (hw:w<6):evE C Γ (.sub (.glob 2) (.var 64)) s=some (.pv (signP w),s):=by
 apply E_sub
 ·show ob (C.glob 2) _=_; rw [hC]; rfl
 ·exact E_var h64
 ·exact sub_tup <| at_nat (Nat.lt_trans hw (by decide)) (by rw [List.getElem?_map,sign_at hw]; rfl)
theorem st_found {w:Nat} {a b:Tr} (h66:Γ.get 66=some (.ref 1)) (h64:Γ.get 64=some (.pv (.int w))) (h51:Γ.get 51=some (.pv a.pv)) (h52:Γ.get 52=some (.pv b.pv)) (hw:w<6) (ha:a.under (3+es.length)) (hb:b.under (3+es.length)) (hl:es.length≤12) :
  evS (ctxOf P (callFn P (d+6))) (.assign (.nm 25) (.meth (.var 66) 59 (.cons (.sub (.glob 2) (.var 64)) (.cons (.var 51) (.cons (.var 52) .nil))))) Γ ⟨LS cells spot es asked lots pool rest,st⟩ =
   some ((.next,Γ.put 25 (.pv (conn es w a b).1.pv)),⟨LS cells spot (conn es w a b).2 asked lots pool rest,st⟩):=by
 have hc:=conn_LS (d+1) (cells:=cells) (spot:=spot) (asked:=asked) (lots:=lots) (pool:=pool) (rest:=rest) (st:=st) hw ha hb hl
 show evS (ctxOf P (callFn P (d+1+5))) _ _ _=_
 generalize d+1+5=k at hc ⊢
 apply S_assign
 ·apply E_meth
  ·exact E_var h66
  ·exact rfl
  ·exact rfl
  ·exact rfl
  ·apply Es_cons; exact glob_sign rfl h64 hw
   apply Es_cons; exact E_var h51
   apply Es_cons; exact E_var h52
   exact Es_nil
  ·exact hc
 ·exact rfl
theorem is_bool {C:Ctx} {x:Nat} {p:PV} {b:Bool} {s:St} (h:Γ.get x=some (.pv p)) (hb:isBoolV (.pv p)=some b):evE C Γ (.bi .isBool (.cons (.var x) .nil)) s=some (.pv (.bool b),s):=by
 apply E_bi
 ·apply Es_cons; exact E_var h; exact Es_nil
 ·show ob (isBoolV (.pv p)) _=_; rw [hb]; rfl
theorem st_5 {a b:Tr} (h51:Γ.get 51=some (.pv a.pv)) (h52:Γ.get 52=some (.pv b.pv)) {s:St} :
  evS (ctxOf P (callFn P (d+6))) law_s5 Γ s=some ((.next,Γ.put 89 (.pv (.bool (plainT a b)))),s):=by
 generalize d+6=k
 apply S_assign (v:=.pv (.bool (plainT a b)))
 ·apply E_or
  cases a with
  | b x=>apply B_two; exact is_bool h51 rfl; exact Bf_stop rfl
  | bit n s' =>
   apply B_two; exact is_bool h51 rfl
   apply Bf_go rfl
   cases b with
   | b y=>apply B_two; exact is_bool h52 rfl; exact Bf_stop rfl
   | bit m t =>
    apply B_two; exact is_bool h52 rfl
    apply Bf_go rfl
    show _=some (AV.pv (.bool (n == m)),s)
    rw [← int_nat_beq]
    apply B_one; apply E_cmp
    ·apply E_sub; exact E_var h51; exact rfl; exact rfl
    ·apply E_sub; exact E_var h52; exact rfl; exact rfl
    ·exact rfl
 ·exact rfl
noncomputable def Six (t a b:Tr):Prop:=t = .b true∨t = .b false∨t=a∨t=b∨t=a.con∨t=b.con
theorem Six.con {t a b:Tr} (h:Six t a b):Six t.con a b:=by
 rcases h with h | h | h | h | h | h <;> rw [h]
 ·exact .inr (.inl rfl)
 ·exact .inl rfl
 ·exact .inr (.inr (.inr (.inr (.inl rfl))))
 ·exact .inr (.inr (.inr (.inr (.inr rfl))))
 ·rw [con_con]; exact .inr (.inr (.inl rfl))
 ·rw [con_con]; exact .inr (.inr (.inr (.inl rfl)))
theorem Six.l {t a b:Tr} (h:Six t a.con b):Six t a b:=by
 rcases h with h | h | h | h | h | h <;> rw [h]
 ·exact .inl rfl
 ·exact .inr (.inl rfl)
 ·exact .inr (.inr (.inr (.inr (.inl rfl))))
 ·exact .inr (.inr (.inr (.inl rfl)))
 ·rw [con_con]; exact .inr (.inr (.inl rfl))
 ·exact .inr (.inr (.inr (.inr (.inr rfl))))
theorem Six.r {t a b:Tr} (h:Six t a b.con):Six t a b:=by
 rcases h with h | h | h | h | h | h <;> rw [h]
 ·exact .inl rfl
 ·exact .inr (.inl rfl)
 ·exact .inr (.inr (.inl rfl))
 ·exact .inr (.inr (.inr (.inr (.inr rfl))))
 ·exact .inr (.inr (.inr (.inr (.inl rfl))))
 ·rw [con_con]; exact .inr (.inr (.inr (.inl rfl)))
theorem plain_l {a b:Tr} (h:plainT a b=true):plainT a.con b=true:=by cases a <;> cases b <;> exact h
theorem plain_r {a b:Tr} (h:plainT a b=true):plainT a b.con=true:=by cases a <;> cases b <;> exact h
theorem all2_six {a b:Tr} (h:plainT a b=true):(all2 es a b).2=es∧Six (all2 es a b).1 a b:=by
 cases a with
 | b x=>cases x with
  | true=>exact ⟨rfl,.inr (.inr (.inr (.inl rfl)))⟩
  | false=>exact ⟨rfl,.inr (.inl rfl)⟩
 | bit n s=>cases b with
  | b v=>cases v with
   | true=>exact ⟨rfl,.inr (.inr (.inl rfl))⟩
   | false=>exact ⟨rfl,.inr (.inl rfl)⟩
  | bit m t =>
   have e:all2 es (.bit n s) (.bit m t)=(if s=t then .bit n s else .b false,es):=if_pos (eq_of_beq h)
   rw [e]
   refine ⟨rfl,?_⟩
   by_cases hs:s=t
   ·exact .inr (.inr (.inl (if_pos hs)))
   ·exact .inr (.inl (if_neg hs))
theorem unl_six {a b:Tr} (h:plainT a b=true):(unl es a b).2=es∧Six (unl es a b).1 a b:=by
 cases a with
 | b x=>cases x with
  | true=>exact ⟨rfl,.inr (.inr (.inr (.inr (.inr rfl))))⟩
  | false=>exact ⟨rfl,.inr (.inr (.inr (.inl rfl)))⟩
 | bit n s=>cases b with
  | b v=>cases v with
   | true=>exact ⟨rfl,.inr (.inr (.inr (.inr (.inl rfl))))⟩
   | false=>exact ⟨rfl,.inr (.inr (.inl rfl))⟩
  | bit m t =>
   have e:unl es (.bit n s) (.bit m t)=(.b (s != t),es):=if_pos (eq_of_beq h)
   rw [e]
   refine ⟨rfl,?_⟩
   cases s != t
   ·exact .inr (.inl rfl)
   ·exact .inl rfl
theorem plain_ok {w:Nat} (hw:w<6) {a b:Tr} (h:plainT a b=true):(conn es w a b).2=es∧Six (conn es w a b).1 a b:=by
 refine lt6 (p:=fun w=>(conn es w a b).2=es∧Six (conn es w a b).1 a b) hw (all2_six h) ?_ ?_ ?_ ?_ (unl_six h)
 ·have:=all2_six (es:=es) (plain_l (plain_r h)); exact ⟨this.1,this.2.l.r.con⟩
 ·have:=all2_six (es:=es) (plain_l (plain_l (plain_r h))); exact ⟨this.1,this.2.l.l.r.con⟩
 ·have:=all2_six (es:=es) (plain_l (plain_r (plain_r h))); exact ⟨this.1,this.2.l.r.r.con⟩
 ·have:=unl_six (es:=es) h; exact ⟨this.1,this.2.con⟩
end
theorem depth_tr (t:Tr):decide (depthP t.pv<20)=true:=by cases t <;> rfl
theorem depth_sz (es:List En):decide (depthP (szP es)<20)=true:=rfl
theorem eq_pv {p q:PV} {s:St} (h:decide (depthP p<20)=true):evEq (.pv p) (.pv q) s=some (pyEq p q):=by
 show (if (decide (depthP p<20)||_)=true then _ else _)=_; rw [h]; rfl
theorem in_pv {p:PV} {l:List PV} {s:St} {ps:List PV} (h:decide (depthP p<20)=true) (h2:asPVs s (l.map .pv)=some ps):evIn (.pv p) (.pv (.tup l)) s=some (anyP p ps):=by
 show (if depthP p<20 then (asPVs s (l.map .pv)).map (anyP p) else none)=_; rw [if_pos (of_decide_eq_true h),h2]; rfl
section
variable {d:Nat} {cells:List Int} {spot:Nat} {es:List En} {asked:List AV} {lots:List (Int × AV)} {pool:List Tr} {rest:List AObj} {st:Bool} {Γ:Env}
theorem any_six {a b t:Tr} (ht:Six t a b):anyP t.pv [.bool true,.bool false,a.pv,b.pv,a.con.pv,b.con.pv]=true:=by
 have go:∀ {l:List PV} {x:PV},x ∈ l→anyP x l=true:=fun {l} {x} h=>by
  induction l with
  | nil=>cases h
  | cons y r ih =>
   cases h with
   | head=>exact any_hit (pyE_self _)
   | tail _ h=>rw [anyP,ih h,Bool.or_true]
 have t1:=fun (x:PV) (l:List PV)=>List.mem_cons_self (a:=x) (l:=l)
 rcases ht with rfl | rfl | rfl | rfl | rfl | rfl
 ·exact go (t1 _ _)
 ·exact go (.tail _ (t1 _ _))
 ·exact go (.tail _ (.tail _ (t1 _ _)))
 ·exact go (.tail _ (.tail _ (.tail _ (t1 _ _))))
 ·exact go (.tail _ (.tail _ (.tail _ (.tail _ (t1 _ _)))))
 ·exact go (.tail _ (.tail _ (.tail _ (.tail _ (.tail _ (t1 _ _))))))
theorem st_6 {es0:List En} {a b t:Tr} (h89:Γ.get 89=some (.pv (.bool (plainT a b)))) (h87:Γ.get 87=some (.pv (szP es0))) (h88:Γ.get 88=some (.pv (szP es))) (h25:Γ.get 25=some (.pv t.pv))
  (h51:Γ.get 51=some (.pv a.pv)) (h52:Γ.get 52=some (.pv b.pv)) (hp:plainT a b=true→es=es0∧Six t a b) (s:St) :
  evS (ctxOf P (callFn P (d+6))) law_s6 Γ s=some ((.next,Γ),s):=by
 have hc:=fun t=>contrary_ok (d+5) t
 show evS (ctxOf P (callFn P (d+5+1))) law_s6 Γ s=_
 generalize d+5+1=k at hc ⊢
 cases hpl:plainT a b with
 | false =>
  rw [hpl] at h89
  apply S_if
  ·apply E_and; apply B_two; exact E_var h89; exact Bt_stop rfl
  ·exact B_f rfl S_nil
 | true =>
  rw [hpl] at h89
  obtain ⟨rfl,ht⟩:=hp hpl
  apply S_if
  ·apply E_and; apply B_two; exact E_var h89
   apply Bt_go rfl
   apply B_one; apply E_or; apply B_two
   ·apply E_cmp; exact E_var h88; exact E_var h87
    apply Cmp_ne; exact eq_pv (depth_sz es)
   ·apply Bf_go
    ·exact not_f (pyE_self _)
    apply B_one; apply E_cmp; exact E_var h25
    ·apply E_tup
     ·apply Es_cons; exact rfl
      apply Es_cons; exact rfl
      apply Es_cons; exact E_var h51
      apply Es_cons; exact E_var h52
      apply Es_cons
      ·apply E_call
       ·apply Es_cons; exact E_var h51; exact Es_nil
       ·exact hc a s
      apply Es_cons
      ·apply E_call
       ·apply Es_cons; exact E_var h52; exact Es_nil
       ·exact hc b s
      exact Es_nil
     ·exact rfl
    ·apply Cmp_notin
     exact in_pv (l:=[.bool true,.bool false,a.pv,b.pv,a.con.pv,b.con.pv]) (depth_tr t) rfl
  ·exact B_f (not_f (any_six ht)) S_nil
theorem st_7 {w:Nat} {a b t:Tr} (h66:Γ.get 66=some (.ref 1)) (h64:Γ.get 64=some (.pv (.int w))) (h51:Γ.get 51=some (.pv a.pv)) (h52:Γ.get 52=some (.pv b.pv)) (h25:Γ.get 25=some (.pv t.pv)) (hw:w<6) (ha:a.under (3+es.length)) (hb:b.under (3+es.length)) (hl:es.length≤12) (hc:conn es w a b=(t,es)) :
  evS (ctxOf P (callFn P (d+6))) law_s7 Γ ⟨LS cells spot es asked lots pool rest,st⟩=some ((.next,Γ),⟨LS cells spot es asked lots pool rest,st⟩):=by
 have ho:=other_LS d (cells:=cells) (spot:=spot) (asked:=asked) (lots:=lots) (pool:=pool) (rest:=rest) (st:=st) hw ha hb hl hc
 generalize d+6=k at ho ⊢
 have step:∀ {Γ:Env} {s:St},Γ.get 65=some (.pv t.pv)→Γ.get 25=some (.pv t.pv)→evIfs (ctxOf P (callFn P k)) Γ (.cons (.cmp .ne (.var 65) (.var 25)) .nil) s=some (false,s):=fun h h2=>by
  apply Ifs_cons
  ·apply E_cmp; exact E_var h; exact E_var h2
   apply Cmp_ne; exact eq_pv (depth_tr t)
  ·exact If_f (not_f (pyE_self _))
 have loop:∀ (n:Nat) (s:St),itL (ctxOf P (callFn P k)) (Env.del [65] Γ) (.nm 65) (.cons (.cmp .ne (.var 65) (.var 25)) .nil) (.elt (.var 65)) [] (List.replicate n (.pv t.pv)) s=some ([],s):=fun n s=>by
  induction n with
  | zero=>exact It_nil
  | succ n ih=>exact It_cons (ys:=[]) rfl (step get_eq (get_ne rfl (get_del_ne rfl h25))) (Mo_f rfl) rfl ih
 have src:∃ n,n≤3∧words w t=List.replicate n t.pv:=by
  unfold words
  by_cases h4:w<4
  ·rw [if_pos h4]; exact ⟨2,by decide,rfl⟩
  ·rw [if_neg h4]; exact ⟨3,by decide,rfl⟩
 obtain ⟨n,hn,e⟩:=src
 rw [e] at ho
 apply S_if
 ·apply E_cmp
  ·apply E_comp
   ·apply L_cons
    ·apply I_it
     ·apply E_call
      ·apply Es_cons; exact E_var (get_del_ne rfl h66)
       apply Es_cons; exact E_var (get_del_ne rfl h64)
       apply Es_cons; exact E_var (get_del_ne rfl h51)
       apply Es_cons; exact E_var (get_del_ne rfl h52)
       exact Es_nil
      ·exact ho
     ·show ob (some ((List.replicate n t.pv).map AV.pv)) _=_
      rw [List.map_replicate]
      show (if (List.replicate n (AV.pv t.pv)).length≤big then some (Src.mk (List.replicate n (AV.pv t.pv)) []) else none)=_
      rw [List.length_replicate,if_pos (Nat.le_trans hn (by decide))]
    ·exact fresh_nm (get_del_in rfl)
    ·exact loop n _
   ·exact rfl
   ·exact rfl
  ·exact rfl
  ·exact rfl
 ·exact B_f rfl S_nil
theorem st_8 (h66:Γ.get 66=some (.ref 1)) (h88:Γ.get 88=some (.pv (szP es))) (hl:es.length≤12) :
  evS (ctxOf P (callFn P (d+6))) law_s8 Γ ⟨LS cells spot es asked lots pool rest,st⟩=some ((.next,Γ),⟨LS cells spot es asked lots pool rest,st⟩):=by
 apply S_if
 ·apply E_cmp; exact sizes h66 hl (size_LS (d+5) hl); exact E_var h88
  apply Cmp_ne; exact eq_pv (depth_sz es)
 ·exact B_f (not_f (pyE_self _)) S_nil
theorem st_ask {w:Int} {p q:Nat} (h76:Γ.get 76=some (.ref 6)) (h64:Γ.get 64=some (.pv (.int w))) (h83:Γ.get 83=some (.ref p)) (h82:Γ.get 82=some (.ref q)) (hl:asked.length<100) :
  evS (ctxOf P (callFn P (d+6))) (.expr (.bm .append (.var 76) (.cons (.tup (.cons (.var 64) (.cons (.var 83) (.cons (.var 82) .nil)))) .nil))) Γ ⟨LS cells spot es asked lots pool rest,false⟩ =
   some ((.next,Γ),⟨LS cells spot es (asked++[.tupR [.pv (.int w),.ref p,.ref q]]) lots pool rest,false⟩):=by
 apply S_expr
 ·apply E_bm; exact E_var h76; exact rfl
  ·apply Es_cons
   ·apply E_tup
    ·apply Es_cons; exact E_var h64
     apply Es_cons; exact E_var h83
     apply Es_cons; exact E_var h82
     exact Es_nil
    ·exact rfl
   ·exact Es_nil
  ·exact app_free ls_6 rfl (decide_eq_true (Nat.lt_trans hl (by decide)))
theorem st_pool {t:Tr} (h79:Γ.get 79=some (.ref 8)) (h25:Γ.get 25=some (.pv t.pv)) (hl:pool.length<100) :
  evS (ctxOf P (callFn P (d+6))) (.expr (.bm .append (.var 79) (.cons (.var 25) .nil))) Γ ⟨LS cells spot es asked lots pool rest,st⟩ =
   some ((.next,Γ),⟨LS cells spot es asked lots (pool++[t]) rest,st⟩):=by
 apply S_expr
 ·apply E_bm; exact E_var h79; exact rfl
  ·apply Es_cons; exact E_var h25; exact Es_nil
  ·refine (app_at ls_8 rfl (decide_eq_true (by rw [List.length_map]; exact Nat.lt_trans hl (by decide)))).trans ?_
   show some (AV.pv .none,(⟨(LS cells spot es asked lots pool rest).set 8 _,st⟩:St))=_
   rw [ls_set8]
end
theorem evSs_next {C:Ctx} {a:CS} {r:CSs} {Γ Γ':Env} {s s':St} (h:evS C a Γ s=some ((.next,Γ'),s')):evSs C (.cons a r) Γ s=evSs C r Γ' s':=S_step h rfl
structure Lap where
 w:Nat
 i0:Nat
 i1:Nat
 u0:Bool
 u1:Bool
noncomputable abbrev PS:=List Tr × List En
noncomputable def ones (p:PS) (l:Lap):Tr:=pick (p.1.getD l.i0 (.b true)) l.u0
noncomputable def twos (p:PS) (l:Lap):Tr:=pick (p.1.getD l.i1 (.b true)) l.u1
noncomputable def stepL (p:PS) (l:Lap):PS:=(p.1++[(conn p.2 l.w (ones p l) (twos p l)).1],(conn p.2 l.w (ones p l) (twos p l)).2)
noncomputable def runL (ls:List Lap):PS:=ls.foldl stepL ([.bit 0 true,.bit 1 true,.bit 2 true,.b true],[])
noncomputable def LapOk (n:Nat) (l:Lap):Prop:=l.w<6∧l.i0<n∧l.i1<n
noncomputable def LapsOk:Nat→List Lap→Prop
 | _,[]=>True
 | n,l::r=>LapOk n l∧LapsOk (n+1) r
noncomputable def restL (l:Lap):List AObj:=[.list [.pv (.int l.i0),.pv (.int l.i1)],.list [.pv (.bool l.u0),.pv (.bool l.u1)]]
noncomputable def restOf:List Lap→List AObj
 | []=>[]
 | l::r=>restL l++restOf r
noncomputable def askF (k:Nat):List Lap→List AV
 | []=>[]
 | l::r=>.tupR [.pv (.int l.w),.ref k,.ref (k+1)]::askF (k+2) r
theorem restOf_len:∀ ls:List Lap,(restOf ls).length=2 * ls.length
 | []=>rfl
 | l::r=>congrArg (· + 2) (restOf_len r)
theorem restOf_app (l:Lap):∀ ls:List Lap,restOf (ls++[l])=restOf ls++restL l
 | []=>rfl
 | x::r=>congrArg (restL x++·) (restOf_app l r)
theorem askF_len:∀ (ls:List Lap) (k:Nat),(askF k ls).length=ls.length
 | [],_=>rfl
 | l::r,k=>congrArg (· + 1) (askF_len r (k+2))
theorem askF_app (l:Lap):∀ (ls:List Lap) (k:Nat),askF k (ls++[l])=askF k ls++[.tupR [.pv (.int l.w),.ref (k+2 * ls.length),.ref (k+2 * ls.length+1)]]
 | [],k=>rfl
 | x::r,k=>by
  show _::askF (k+2) (r++[l])=_::(askF (k+2) r++_)
  rw [askF_app l r,show k+2+2 * r.length=k+2 * (x::r).length from (Nat.add_assoc ..).trans (congrArg (k + ·) (Nat.add_comm 2 _))]
theorem laps_app (l:Lap):∀ (ls:List Lap) (n:Nat),LapsOk n ls→LapOk (n+ls.length) l→LapsOk n (ls++[l])
 | [],n,_,h=>⟨h,trivial⟩
 | x::r,n,h,h'=>⟨h.1,laps_app l r (n+1) h.2 (by rw [Nat.succ_add_eq_add_succ]; exact h')⟩
theorem run_app (ls:List Lap) (l:Lap):runL (ls++[l])=stepL (runL ls) l:=List.foldl_append ..
theorem under_mono {j k:Nat} {t:Tr} (h:t.under j) (hjk:j≤k):t.under k:=by
 cases t with
 | b _=>trivial
 | bit n _=>exact Nat.lt_of_lt_of_le h hjk
theorem pick_under {k:Nat} {t:Tr} {u:Bool} (h:t.under k):(pick t u).under k:=by
 cases u
 ·exact h
 ·exact con_under h
theorem findE_lt {e:En}:∀ {es:List En} {k n:Nat},findE e k es=some n→k≤n∧n<k+es.length
 | [],_,_,h=>nomatch h
 | x::r,k,n,h=>by
  cases ite_split (show (if x=e then some k else findE e (k+1) r)=some n from h) with
  | inl _ h=>cases h; exact ⟨Nat.le_refl _,Nat.lt_add_of_pos_right (Nat.succ_pos _)⟩
  | inr _ h=>have:=findE_lt h; exact ⟨Nat.le_of_succ_le this.1,by rw [List.length_cons,← Nat.succ_add_eq_add_succ]; exact this.2⟩
structure Grown (es:List En) (p:Tr × List En):Prop where
 len:p.2.length≤es.length+1
 le:es.length≤p.2.length
 under:p.1.under (3+p.2.length)
theorem once_grown (e:En) (es:List En) (s:Bool):Grown es (.bit (onceE e es).1 s,(onceE e es).2):=by
 unfold onceE
 cases h:findE e 3 es with
 | some n=>exact ⟨Nat.le_succ _,Nat.le_refl _,(findE_lt h).2⟩
 | none=>exact ⟨Nat.le_of_eq List.length_append,by rw [List.length_append]; exact Nat.le_succ _,by rw [List.length_append]; exact Nat.lt_succ_self _⟩
theorem grown_same {es:List En} {t:Tr} (h:t.under (3+es.length)):Grown es (t,es):=⟨Nat.le_succ _,Nat.le_refl _,h⟩
theorem all2_grown {es:List En} {a b:Tr} (ha:a.under (3+es.length)) (hb:b.under (3+es.length)):Grown es (all2 es a b):=by
 cases a with
 | b x=>simp only [all2]; cases x; exact grown_same trivial; exact grown_same hb
 | bit n s =>
  cases b with
  | b v=>simp only [all2]; cases v; exact grown_same trivial; exact grown_same ha
  | bit m t =>
   by_cases h:n=m
   ·simp only [all2,if_pos h]; split; exact grown_same ha; exact grown_same trivial
   ·simp only [all2,if_neg h]; exact once_grown _ _ _
theorem unl_grown {es:List En} {a b:Tr} (ha:a.under (3+es.length)) (hb:b.under (3+es.length)):Grown es (unl es a b):=by
 cases a with
 | b x=>simp only [unl]; cases x; exact grown_same hb; exact grown_same (con_under hb)
 | bit n s =>
  cases b with
  | b v=>simp only [unl]; cases v; exact grown_same ha; exact grown_same ha
  | bit m t =>
   by_cases h:n=m
   ·simp only [unl,if_pos h]; exact grown_same trivial
   ·simp only [unl,if_neg h]; exact once_grown _ _ _
theorem grown_con {es:List En} {p:Tr × List En} (h:Grown es p):Grown es (p.1.con,p.2):=⟨h.len,h.le,con_under h.under⟩
theorem conn_grown {es:List En} {a b:Tr} (ha:a.under (3+es.length)) (hb:b.under (3+es.length)):∀ w:Nat,Grown es (conn es w a b)
 | 0=>all2_grown ha hb
 | 1=>grown_con (all2_grown (con_under ha) (con_under hb))
 | 2=>grown_con (all2_grown (con_under (con_under ha)) (con_under hb))
 | 3=>grown_con (all2_grown (con_under ha) (con_under (con_under hb)))
 | 4=>grown_con (unl_grown ha hb)
 | _+5=>unl_grown ha hb
structure PoolOk (n:Nat) (p:PS):Prop where
 len:p.1.length=4+n
 es:p.2.length≤n
 under:∀ t ∈ p.1,t.under (3+p.2.length)
theorem getD_under {k:Nat} {l:List Tr} (h:∀ t ∈ l,t.under k) (i:Nat):(l.getD i (.b true)).under k:=by
 rw [List.getD_eq_getElem?_getD]
 cases hi:l[i]? with
 | none=>trivial
 | some t=>exact h t (List.mem_of_getElem? hi)
theorem pool_step {n:Nat} {p:PS} (h:PoolOk n p) (l:Lap):PoolOk (n+1) (stepL p l):=by
 have g:=conn_grown (pick_under (u:=l.u0) (getD_under h.under l.i0)) (pick_under (u:=l.u1) (getD_under h.under l.i1)) l.w
 refine ⟨(List.length_append ..).trans (congrArg (· + 1) h.len),Nat.le_trans g.len (Nat.succ_le_succ h.es),fun t ht=>?_⟩
 rcases List.mem_append.mp (show t ∈ p.1++[(conn p.2 l.w (ones p l) (twos p l)).1] from ht) with ht | ht
 ·exact under_mono (h.under t ht) (Nat.add_le_add_left g.le 3)
 ·cases List.mem_singleton.mp ht; exact g.under
theorem pool_run:∀ (ls:List Lap) {n:Nat} {p:PS},PoolOk n p→PoolOk (n+ls.length) (ls.foldl stepL p)
 | [],_,_,h=>h
 | l::r,n,p,h=>by
  have:=pool_run r (pool_step h l)
  rw [Nat.succ_add_eq_add_succ] at this
  exact this
theorem pool_0:PoolOk 0 ([.bit 0 true,.bit 1 true,.bit 2 true,.b true],[]):=⟨rfl,Nat.le_refl _,fun t ht=>by
 rcases List.mem_cons.mp ht with rfl | ht
 ·exact (by decide:0<3)
 rcases List.mem_cons.mp ht with rfl | ht
 ·exact (by decide:1<3)
 rcases List.mem_cons.mp ht with rfl | ht
 ·exact (by decide:2<3)
 cases List.mem_singleton.mp ht; trivial⟩
theorem pool_ok (ls:List Lap):PoolOk ls.length (runL ls):=by
 have:=pool_run ls pool_0
 rw [Nat.zero_add] at this; exact this
structure Names (Γ:Env):Prop where
 tape:Γ.get 61=some (.ref 0)
 f:Γ.get 66=some (.ref 1)
 asked:Γ.get 76=some (.ref 6)
 lots:Γ.get 73=some (.ref 7)
 pool:Γ.get 79=some (.ref 8)
theorem Names.put {Γ:Env} (h:Names Γ) {i:Nat} {v:AV} (h1:(i == 61||i == 66||i == 76||i == 73||i == 79)=false:=by rfl):Names (Γ.put i v):=by
 simp only [Bool.or_eq_false_iff] at h1
 exact ⟨get_ne h1.1.1.1.1 h.tape,get_ne h1.1.1.1.2 h.f,get_ne h1.1.1.2 h.asked,get_ne h1.1.2 h.lots,get_ne h1.2 h.pool⟩
theorem S_next {C:Ctx} {a:CS} {r:CSs} {Γ Γ':Env} {s s':St} {R:R (Flow × Env)} (h:evS C a Γ s=some ((.next,Γ'),s')) (h2:evSs C r Γ' s'=R):evSs C (.cons a r) Γ s=R:=S_step h h2
noncomputable def lapSt (cells:List Int) (spot:Nat) (ls:List Lap):St:=⟨LS cells spot (runL ls).2 (askF 9 ls) [] (runL ls).1 (restOf ls),false⟩
theorem draw {cells:List Int} (d:Nat) (hc:cells.length≤63) {spot:Nat} (hs:spot<1000) {w:Nat} (hw:0<w):∃ v:Nat,v<w∧Draw d cells spot w v:=by
 obtain ⟨v,hv,h⟩:=take_LS (d+5) (cells:=cells) (spot:=spot) hc hs hw
 exact ⟨v,hv,h⟩
structure LapG (Γ:Env) (w:Nat) (a b:Tr) (p q:Nat):Prop where
 n:Names Γ
 g64:Γ.get 64=some (.pv (.int w))
 g83:Γ.get 83=some (.ref p)
 g82:Γ.get 82=some (.ref q)
 g51:Γ.get 51=some (.pv a.pv)
 g52:Γ.get 52=some (.pv b.pv)
theorem LapG.put {Γ:Env} {w:Nat} {a b:Tr} {p q:Nat} (h:LapG Γ w a b p q) {i:Nat} {v:AV} (h1:(i == 61||i == 66||i == 76||i == 73||i == 79)=false:=by rfl) (h2:(i == 64)=false:=by rfl) (h3:(i == 83)=false:=by rfl) (h4:(i == 82)=false:=by rfl) (h5:(i == 51)=false:=by rfl) (h6:(i == 52)=false:=by rfl):LapG (Γ.put i v) w a b p q :=
 ⟨h.n.put h1,get_ne h2 h.g64,get_ne h3 h.g83,get_ne h4 h.g82,get_ne h5 h.g51,get_ne h6 h.g52⟩
section
variable {d:Nat} {cells:List Int} {spot:Nat} {es es':List En} {asked:List AV} {pool:List Tr} {rest:List AObj} {Γ:Env} {w i0 i1:Nat} {u0 u1:Int} {a0 b0 a b t:Tr}
theorem lap_a (hn:Names Γ) (hp:pool.length≤20) (dw:Draw d cells spot 6 w) (d1:Draw d cells (spot+1) 2 u0) (d2:Draw d cells (spot+2) pool.length i0) (d3:Draw d cells (spot+3) 2 u1) (d4:Draw d cells (spot+4) pool.length i1)
  (ha:pool[i0]? = some a0) (hb:pool[i1]? = some b0) (ea:pick a0 (u0 == 1)=a) (eb:pick b0 (u1 == 1)=b) {Q:Env→Prop} {s':St}
  (h:∀ Γ3,LapG Γ3 w a b (rest.length+9) (rest.length+10)→∃ Γ',Q Γ'∧evSs (ctxOf P (callFn P (d+6))) (dropS 3 law_b9) Γ3 ⟨LS cells (spot+5) es asked [] pool (rest++[.list [.pv (.int i0),.pv (.int i1)],.list [.pv (.bool (u0 == 1)),.pv (.bool (u1 == 1))]]),false⟩=some ((.next,Γ'),s')) :
  ∃ Γ',Q Γ'∧evSs (ctxOf P (callFn P (d+6))) law_b9 Γ ⟨LS cells spot es asked [] pool rest,false⟩=some ((.next,Γ'),s'):=by
 have n1:Names (((Γ.put 64 (.pv (.int w))).put 83 (.ref (rest.length+9))).put 82 (.ref (rest.length+10))):=hn.put.put.put
 have s3:=fun Γ h1 h2 h3=>st_2 (d:=d) (cells:=cells) (spot:=spot+5) (es:=es) (asked:=asked) (lots:=[]) (rest:=rest) (st:=false) (u0:=u0 == 1) (u1:=u1 == 1) (Γ:=Γ) h1 h2 h3 hp ha hb
 rw [ea,eb] at s3
 obtain ⟨Γ',q,e⟩:=h ((((((((Γ.put 64 (.pv (.int w))).put 83 (.ref (rest.length+9))).put 82 (.ref (rest.length+10))).put 84 (.pv (.int 0))).put 84 (.pv (.int 1))).put 51 (.pv a.pv)).put 52 (.pv b.pv))) ⟨n1.put.put.put.put,get_ne rfl (get_ne rfl (get_ne rfl (get_ne rfl (get_ne rfl (get_ne rfl get_eq))))),get_ne rfl (get_ne rfl (get_ne rfl (get_ne rfl (get_ne rfl get_eq)))),get_ne rfl (get_ne rfl (get_ne rfl (get_ne rfl get_eq))),get_ne rfl get_eq,get_eq⟩
 exact ⟨Γ',q,S_next (st_1 hn.tape dw) (S_next (st_for n1.tape n1.pool get_eq (get_ne rfl get_eq) hp d1 d2 d3 d4) (S_next (s3 _ n1.put.put.pool (get_ne rfl (get_ne rfl get_eq)) (get_ne rfl (get_ne rfl (get_ne rfl get_eq)))) e))⟩
theorem lap_b (g:LapG Γ w a b (rest.length+9) (rest.length+10)) (hw:w<6) (hua:a.under (3+es.length)) (hub:b.under (3+es.length)) (hel:es.length≤12) (hc:conn es w a b=(t,es')) (hc':conn es' w a b=(t,es')) (hle:es.length≤es'.length) (hel':es'.length≤12)
  (hpl:plainT a b=true→es'=es∧Six t a b) (haL:asked.length<100) (hp:pool.length<100) {x y:AObj} :
  ∃ Γ',Names Γ'∧evSs (ctxOf P (callFn P (d+6))) (dropS 3 law_b9) Γ ⟨LS cells spot es asked [] pool (rest++[x,y]),false⟩=some ((.next,Γ'),⟨LS cells spot es' (asked++[.tupR [.pv (.int w),.ref (rest.length+9),.ref (rest.length+10)]]) [] (pool++[t]) (rest++[x,y]),false⟩):=by
 have g4:=g.put (i:=87) (v:=.pv (szP es))
 have g6:=(g4.put (i:=25) (v:=.pv t.pv)).put (i:=88) (v:=.pv (szP es'))
 have g7:=g6.put (i:=89) (v:=.pv (.bool (plainT a b)))
 have s5:=st_found (d:=d) (cells:=cells) (spot:=spot) (asked:=asked) (lots:=[]) (pool:=pool) (rest:=rest++[x,y]) (st:=false) g4.n.f g4.g64 g4.g51 g4.g52 hw hua hub hel
 rw [hc] at s5
 have h25:((((Γ.put 87 (.pv (szP es))).put 25 (.pv t.pv)).put 88 (.pv (szP es'))).put 89 (.pv (.bool (plainT a b)))).get 25=some (.pv t.pv):=get_ne rfl (get_ne rfl get_eq)
 refine ⟨_,g7.n,S_next (st_3 g.n.f hel) (S_next s5 (S_next (st_4 g4.put.n.f hel') (S_next (st_5 g6.g51 g6.g52) (S_next (st_6 get_eq (get_ne rfl (get_ne rfl (get_ne rfl get_eq))) (get_ne rfl get_eq) h25 g7.g51 g7.g52 hpl _) (S_next (st_7 g7.n.f g7.g64 g7.g51 g7.g52 h25 hw (under_mono hua (Nat.add_le_add_left hle 3)) (under_mono hub (Nat.add_le_add_left hle 3)) hel' hc') (S_next (st_8 g7.n.f (get_ne rfl get_eq) hel') (S_next (st_ask g7.n.asked g7.g64 g7.g83 g7.g82 haL) (S_next (st_pool g7.n.pool h25 hp) S_nil))))))))⟩
end
theorem lap_ok (d:Nat) {cells:List Int} (hc:cells.length≤63) {spot:Nat} (hs:spot<900) {ls:List Lap} (hl:ls.length≤8) (hok:LapsOk 4 ls) {Γ:Env} (hn:Names Γ) :
  ∃ l Γ',LapsOk 4 (ls++[l])∧Names Γ'∧evSs (ctxOf P (callFn P (d+6))) law_b9 Γ (lapSt cells spot ls)=some ((.next,Γ'),lapSt cells (spot+5) (ls++[l])):=by
 have hp:=pool_ok ls
 have hs1:∀ i,i<5→spot+i<1000:=fun i hi=>Nat.lt_of_lt_of_le (Nat.add_lt_add hs hi) (by decide)
 have hpl:0<(runL ls).1.length:=by rw [hp.len]; exact Nat.lt_of_lt_of_le (by decide:0<4) (Nat.le_add_right 4 _)
 obtain ⟨w,hw,dw⟩:=draw d hc (hs1 0 (by decide)) (w:=6) (by decide)
 obtain ⟨u0,hu0,d1⟩:=draw d hc (hs1 1 (by decide)) (w:=2) (by decide)
 obtain ⟨i0,hi0,d2⟩:=draw d hc (hs1 2 (by decide)) hpl
 obtain ⟨u1,hu1,d3⟩:=draw d hc (hs1 3 (by decide)) (w:=2) (by decide)
 obtain ⟨i1,hi1,d4⟩:=draw d hc (hs1 4 (by decide)) hpl
 have l20:(runL ls).1.length≤20:=by rw [hp.len]; exact Nat.le_trans (Nat.add_le_add_left hl 4) (by decide)
 have ha0:∀ {i:Nat},i<(runL ls).1.length→(runL ls).1[i]? = some ((runL ls).1.getD i (.b true)):=fun h=>by rw [List.getD_eq_getElem?_getD,List.getElem?_eq_getElem h]; rfl
 have e8:=Nat.le_trans hp.es hl
 have g:=conn_grown (pick_under (u:=(u0:Int) == 1) (getD_under hp.under i0)) (pick_under (u:=(u1:Int) == 1) (getD_under hp.under i1)) w
 have hst:=conn_stab (runL ls).2 w (pick ((runL ls).1.getD i0 (.b true)) ((u0:Int) == 1)) (pick ((runL ls).1.getD i1 (.b true)) ((u1:Int) == 1))
 have l12:(runL ls).2.length≤12:=Nat.le_trans e8 (by decide)
 refine ⟨⟨w,i0,i1,(u0:Int) == 1,(u1:Int) == 1⟩,?_⟩
 have hok':LapsOk 4 (ls++[⟨w,i0,i1,(u0:Int) == 1,(u1:Int) == 1⟩]):=laps_app _ _ _ hok ⟨hw,hp.len▸hi0,hp.len▸hi1⟩
 obtain ⟨Γ',n',h⟩:=lap_a (Γ:=Γ) (rest:=restOf ls) (asked:=askF 9 ls) (es:=(runL ls).2) (Q:=Names) hn l20 dw d1 d2 d3 d4 (ha0 hi0) (ha0 hi1) rfl rfl fun Γ3 g3 =>
  lap_b g3 hw (pick_under (getD_under hp.under i0)) (pick_under (getD_under hp.under i1)) l12 (t:=(conn (runL ls).2 w (pick ((runL ls).1.getD i0 (.b true)) ((u0:Int) == 1)) (pick ((runL ls).1.getD i1 (.b true)) ((u1:Int) == 1))).1) (es':=(conn (runL ls).2 w (pick ((runL ls).1.getD i0 (.b true)) ((u0:Int) == 1)) (pick ((runL ls).1.getD i1 (.b true)) ((u1:Int) == 1))).2) rfl hst g.le (Nat.le_trans g.len (Nat.le_trans (Nat.succ_le_succ e8) (by decide))) (plain_ok hw) (by rw [askF_len]; exact Nat.lt_of_le_of_lt hl (by decide)) (Nat.lt_of_le_of_lt l20 (by decide))
 refine ⟨Γ',hok',n',h.trans ?_⟩
 unfold lapSt
 rw [askF_app,restOf_app,run_app,restOf_len,show 2 * ls.length+9=9+2 * ls.length from Nat.add_comm _ _,show 2 * ls.length+10=9+2 * ls.length+1 from congrArg (· + 1) (Nat.add_comm (2 * ls.length) 9)]
 rfl
theorem I_range1 {C:Ctx} {Γ:Env} {a:CE} {s s1:St} {n:Int} (h:evE C Γ a s=some (.pv (.int n),s1)) (h2:(decide (-1000≤n)&&decide (n≤big))=true):evI C Γ (.range1 a) s=some (⟨(intsAV (rangeI 0 n)).map .pv,[]⟩,s1):=by
 show bnd (evE C Γ a s) _=_; rw [h]; exact if_pos h2
theorem laps_loop (d:Nat) {cells:List Int} (hc:cells.length≤63):∀ (items:List AV) {spot:Nat} {ls:List Lap} {Γ:Env},spot+5 * items.length<900→ls.length+items.length≤9→LapsOk 4 ls→Names Γ →
  ∃ ls' Γ',LapsOk 4 ls'∧ls'.length=ls.length+items.length∧Names Γ'∧forItems [] (fun x Γ s=>ob (bindT (.nm 81) x Γ) fun Γ'=>evSs (ctxOf P (callFn P (d+6))) law_b9 Γ' s) items Γ (lapSt cells spot ls)=some ((.next,Γ'),lapSt cells (spot+5 * items.length) ls')
 | [],spot,ls,Γ,h1,h2,h3,h4=>⟨ls,Γ,h3,rfl,h4,rfl⟩
 | x::r,spot,ls,Γ,h1,h2,h3,h4=>by
  have h1:spot+(5 * r.length+5)<900:=h1
  have h2:ls.length+r.length+1≤9:=h2
  obtain ⟨l,Γ1,a1,a2,a3⟩:=lap_ok d hc (spot:=spot) (ls:=ls) (Nat.lt_of_le_of_lt (Nat.le_add_right ..) h1) (Nat.le_trans (Nat.le_add_right ..) (Nat.le_of_succ_le_succ h2)) h3 (Γ:=Γ.put 81 x) h4.put
  have hl:(ls++[l]).length+r.length=ls.length+(r.length+1):=by rw [List.length_append]; exact Nat.succ_add_eq_add_succ ..
  have e:spot+5+5 * r.length=spot+5 * (x::r).length:=(Nat.add_assoc ..).trans (congrArg (spot + ·) (Nat.add_comm 5 _))
  obtain ⟨ls',Γ2,b1,b2,b3,b4⟩:=laps_loop d hc r (spot:=spot+5) (ls:=ls++[l]) (Γ:=Γ1) (e▸h1) (hl▸h2) a1 a2
  rw [e] at b4
  exact ⟨ls',Γ2,b1,b2.trans hl,b3,F_step rfl a3 (KF_next rfl b4)⟩
theorem st_laps (d:Nat) {cells:List Int} (hc:cells.length≤63) {Γ:Env} (hn:Names Γ) :
  ∃ ls spot Γ',LapsOk 4 ls∧ls.length≤6∧Names Γ'∧evS (ctxOf P (callFn P (d+6))) (.forS (.nm 81) (.range1 (.bin .add false (.int 3) (.call 22 (.cons (.var 61) (.cons (.int 4) .nil))))) law_b9) Γ (lapSt cells 0 [])=some ((.next,Γ'),lapSt cells spot ls):=by
 obtain ⟨v,hv,hd⟩:=draw d hc (spot:=0) (by decide) (w:=4) (by decide)
 have hlen:((intsAV (rangeI 0 (3+(v:Int)))).map AV.pv).length=3+v:=by
  rw [List.length_map,ints_len,rangeI,List.length_map,List.length_range]
  show (((3+v:Nat):Int) - 0).toNat=_
  rw [Int.sub_zero,Int.toNat_natCast]
 have v3:3+v≤6:=Nat.add_le_add_left (Nat.le_of_lt_succ hv) 3
 obtain ⟨ls,Γ',a1,a2,a3,a4⟩:=laps_loop d hc ((intsAV (rangeI 0 (3+(v:Int)))).map AV.pv) (spot:=1) (ls:=[]) (Γ:=Γ) (by rw [hlen]; exact Nat.lt_of_le_of_lt (Nat.add_le_add_left (Nat.mul_le_mul_left 5 v3) 1) (by decide)) (by rw [hlen]; exact Nat.le_trans (Nat.add_le_add_left v3 0) (by decide)) trivial hn
 rw [hlen] at a2 a4
 refine ⟨ls,1+5 * (3+v),Γ',a1,by rw [a2]; exact Nat.le_trans (Nat.le_of_eq (Nat.zero_add _)) v3,a3,?_⟩
 have h1:3+(v:Int)≤(big:Int):=Int.ofNat_le.mpr (Nat.le_trans v3 (by decide))
 have h2 : -1000≤3+(v:Int):=Int.le_trans (by decide) (Int.natCast_nonneg (3+v))
 refine S_for (src:=⟨(intsAV (rangeI 0 (3+(v:Int)))).map AV.pv,[]⟩) (s1:=lapSt cells 1 []) (I_range1 (n:=3+(v:Int)) ?_ ?_) a4
 ·apply E_bin
  ·exact rfl
  ·apply E_call
   ·apply Es_cons; exact E_var hn.tape
    apply Es_cons; exact rfl
    exact Es_nil
   ·exact hd _ _ _ _ _ _
  ·exact rfl
 ·rw [decide_eq_true h1,decide_eq_true h2]; rfl
theorem toPVs_map:∀ l:List PV,toPVs (l.map AV.pv)=some l
 | []=>rfl
 | a::r=>by show (toPVs (r.map AV.pv)).map (a::·)=_; rw [toPVs_map r]; rfl
theorem mkLst_map {l:List PV}:mkLst (l.map AV.pv) = .pv (.lst l):=by rw [mkLst,toPVs_map]
theorem comp_ints {C:Ctx} {Γ:Env} {s:St}:∀ l:List Int,itL C Γ (.nm 77) .nil (.elt (.bi .int (.cons (.var 77) .nil))) [] ((intsAV l).map AV.pv) s=some ((intsAV l).map AV.pv,s)
 | []=>It_nil
 | a::r=>It_cons (ys:=[.pv (.int a)]) rfl Ifs_nil (Mo_t rfl (L_elt (E_bi (Es_cons (E_var get_eq) Es_nil) rfl))) rfl (comp_ints r)
theorem take_map {l:List Int}:List.take 40 (List.map AV.pv (intsAV l))=List.map AV.pv (intsAV (l.take 40)):=by
 rw [intsAV,← List.map_take,← List.map_take]; rfl
theorem slice40 {ns:List Int} {s:St} (h:ns.length≤63):evSlice (.pv (.lst (intsAV ns))) none (some (.pv (.int 40))) s=some (.pv (.lst (intsAV (ns.take 40)))):=by
 show (bif decide (((intsAV ns).map AV.pv).length≤big) then some (mkLst (List.take 40 ((intsAV ns).map AV.pv))) else none)=_
 rw [List.length_map,ints_len,decide_eq_true (Nat.le_trans h (by decide)),take_map]
 show some (mkLst _)=_
 rw [mkLst,toPVs_map]
theorem E_slice {C:Ctx} {Γ:Env} {a hi:CE} {v w x:AV} {s s1 s2:St} (h:evE C Γ a s=some (v,s1)) (h2:evE C Γ hi s1=some (w,s2)) (h3:evSlice v none (some w) s2=some x):evE C Γ (.slice a .none (.some hi)) s=some (x,s2):=by
 show bnd (evE C Γ a s) _=_; rw [h]; show bnd (bnd (evE C Γ hi s1) _) _=_; rw [h2]; show lift (evSlice v none (some w) s2) s2=_; rw [h3]; rfl
theorem E_dict {C:Ctx} {Γ:Env} {k:DK} {es:CEs} {vs:List AV} {o:AObj} {s s1:St} {R:R AV} (h:evEs C Γ es s=some (vs,s1)) (h2:putAll (dictOf k) vs=some o) (h3:some (s1.new o)=R):evE C Γ (.dict k es) s=R:=by
 show bnd (evEs C Γ es s) _=_; rw [h]; show ob (putAll (dictOf k) vs) _=_; rw [h2]; exact h3
theorem s_cs:¬ Str.ofString "cells" = Str.ofString "spot" := by decide +kernel
theorem put_tape {l:List PV}:putAll (dictOf .s) [.pv (.str "cells"),.pv (.lst l),.pv (.str "spot"),.pv (.int 0)]=some (.dictS [(Str.ofString "cells", .pv (.lst l)),(Str.ofString "spot", .pv (.int 0))]):=by
 show some (AObj.dictS (if Str.ofString "cells" = Str.ofString "spot" then _ else (Str.ofString "cells", .pv (.lst l))::[(Str.ofString "spot", .pv (.int 0))]))=_
 rw [if_neg s_cs]
theorem init_ok (d:Nat) (o:AObj):callFn P (d+6) 20 [.ref 1] ⟨[o,.inst 2 []],false⟩=some (.pv .none,⟨gh o [] [] [] [],false⟩):=rfl
theorem new_fun (d:Nat) {o:AObj} {Γ:Env}:evE (ctxOf P (callFn P (d+6))) Γ (.new 2 .nil) ⟨[o],false⟩=some (.ref 1,⟨gh o [] [] [] [],false⟩):=by
 have h:=init_ok d o
 generalize d+6=k at h ⊢
 show bnd (callFn P k 20 [.ref 1] ⟨[o,.inst 2 []],false⟩) _=_
 rw [h]; rfl
theorem st_18 (d:Nat) {ns:List Int} (h:ns.length≤63) :
  evS (ctxOf P (callFn P (d+6))) law_s18 [(78,.pv (.lst (intsAV ns)))] ⟨[],false⟩=some ((.next,[(78,.pv (.lst (intsAV ns))),(61,.ref 0),(66,.ref 1),(76,.ref 6),(73,.ref 7)]),⟨gh (tp (ns.take 40) 0) [] [] [] [.list [],.dictI []],false⟩):=by
 have hl:((intsAV (ns.take 40)).map AV.pv).length≤big:=by
  rw [List.length_map,ints_len,List.length_take]; exact Nat.le_trans (Nat.min_le_left _ _) (by decide)
 apply S_assign
 ·apply E_tup
  ·apply Es_cons
   ·apply E_dict
    ·apply Es_cons; exact rfl
     apply Es_cons
     ·apply E_comp
      ·apply L_cons
       ·apply I_it
        ·apply E_slice; exact rfl; exact rfl; exact slice40 h
        ·show (if ((intsAV (ns.take 40)).map AV.pv).length≤big then some (Src.mk ((intsAV (ns.take 40)).map AV.pv) []) else none)=_
         exact if_pos hl
       ·exact rfl
       ·exact comp_ints _
      ·exact decide_eq_true hl
      ·exact mkLst_map
     ·exact rfl
    ·exact put_tape
    ·exact rfl
   ·apply Es_cons
    ·exact new_fun d
    ·exact rfl
  ·exact rfl
 ·exact rfl
theorem newb {s:St} (k:Int) (x:Str) (h:x=Str.ofString "b" ++ showInt k) (hk:decide (k.natAbs<10 ^ 10)=true) (hl:decide ((Str.ofString "b").length+(showInt k).length≤big)=true) {C:Ctx} {Γ:Env} (h80:Γ.get 80=some (.pv (.int k))):evE C Γ (.bin .add false (.str "b") (.bi .str (.cons (.var 80) .nil))) s=some (.pv (.str x),s):=by
 apply E_bin
 ·exact rfl
 ·apply E_bi
  ·apply Es_cons; exact E_var h80; exact Es_nil
  ·show (if k.natAbs<10 ^ 10 then some (AV.pv (.str (showInt k)),s) else none)=_
   exact if_pos (of_decide_eq_true hk)
 ·show (if (Str.ofString "b").length+(showInt k).length≤big then some (AV.pv (.str (Str.ofString "b" ++ showInt k)),s) else none)=_
  rw [if_pos (of_decide_eq_true hl),h]
theorem one_b {d:Nat} {cells:List Int} {vars:List AV} {tl:List AObj} {Γ:Env} (k:Int) (hk:decide (k.natAbs<10 ^ 10)=true) (hl:decide ((Str.ofString "b").length+(showInt k).length≤big)=true) (h80:Γ.get 80=some (.pv (.int k))) (h66:Γ.get 66=some (.ref 1)) (hv:vars.length<1000) :
  evL (ctxOf P (callFn P (d+6))) Γ (.elt (.tup (.cons (.str "bit") (.cons (.meth (.attr (.var 66) 30) 11 (.cons (.bin .add false (.str "b") (.bi .str (.cons (.var 80) .nil))) (.cons (.tup (.cons (.tup (.cons (.int 0) (.cons (.int 1) .nil))) .nil)) .nil))) (.cons (.bool true) .nil))))) ⟨gh (tp cells 0) vars [] [] tl,false⟩ =
   some ([.pv (.tup [.str "bit", .int vars.length,.bool true])],⟨gh (tp cells 0) (vars++[.pv (.tup [.str (Str.ofString "b" ++ showInt k),.tup TRl])]) [] [] tl,false⟩):=by
 have hn:=newvar_ok (d+5) (o:=tp cells 0) (vars:=vars) (tolds:=[]) (made:=[]) (tl:=tl) (st:=false) (n:=.str (Str.ofString "b" ++ showInt k)) (dm:=.tup TRl) hv
 show evL (ctxOf P (callFn P (d+5+1))) _ _ _=_
 generalize d+5+1=m at hn ⊢
 apply L_elt
 apply E_tup
 ·apply Es_cons; exact rfl
  apply Es_cons
  ·apply E_meth
   ·apply E_attr; exact E_var h66; exact rfl
   ·exact rfl
   ·exact rfl
   ·exact rfl
   ·apply Es_cons
    ·exact newb k _ rfl hk hl h80
    ·exact rfl
   ·exact hn
  ·exact rfl
 ·exact rfl
theorem st_19 (d:Nat) {cells:List Int} {Γ:Env} (h66:Γ.get 66=some (.ref 1)) :
  evS (ctxOf P (callFn P (d+6))) law_s19 Γ ⟨gh (tp cells 0) [] [] [] [.list [],.dictI []],false⟩=some ((.next,Γ.put 79 (.ref 8)),lapSt cells 0 []):=by
 apply S_assign
 ·apply E_bin
  ·apply E_comp
   ·apply L_cons
    ·exact I_range1 (n:=3) rfl rfl
    ·exact fresh_nm (get_del_in rfl)
    ·show itL _ _ _ _ _ [] [.pv (.int 0),.pv (.int 1),.pv (.int 2)] _=_
     exact It_cons rfl Ifs_nil (Mo_t rfl (one_b 0 rfl (by decide +kernel) get_eq (get_ne rfl (get_del_ne rfl h66)) (show 0<1000 from by decide))) rfl
      (It_cons rfl Ifs_nil (Mo_t rfl (one_b 1 rfl (by decide +kernel) get_eq (get_ne rfl (get_del_ne rfl h66)) (show 1<1000 from by decide))) rfl
       (It_cons rfl Ifs_nil (Mo_t rfl (one_b 2 rfl (by decide +kernel) get_eq (get_ne rfl (get_del_ne rfl h66)) (show 2<1000 from by decide))) rfl It_nil))
   ·exact rfl
   ·exact rfl
  ·exact rfl
  ·exact rfl
 ·exact rfl
noncomputable def En.Ok (k:Nat):En→Prop
 | .or i j=>i<j∧j<k
 | .xor i j=>i<j∧j<k
 | .all i s j t=>i<j∧j<k∧(s||t)=true
noncomputable def EsOk:Nat→List En→Prop
 | _,[]=>True
 | k,e::r=>e.Ok k∧EsOk (k+1) r
theorem es_app (e:En):∀ (es:List En) (k:Nat),EsOk k es→e.Ok (k+es.length)→EsOk k (es++[e])
 | [],k,_,h=>⟨h,trivial⟩
 | x::r,k,h,h'=>⟨h.1,es_app e r (k+1) h.2 (by rw [Nat.succ_add_eq_add_succ]; exact h')⟩
theorem once_ok {e:En} {es:List En} (h:EsOk 3 es) (he:e.Ok (3+es.length)):EsOk 3 (onceE e es).2:=by
 unfold onceE
 cases findE e 3 es with
 | some n=>exact h
 | none=>exact es_app e es 3 h he
theorem ent_ok {k n m:Nat} {s t:Bool} (h:n<m) (h':m<k):(ent n s m t).Ok k:=by
 unfold ent
 split
 ·rename_i e; exact ⟨h,h',e⟩
 ·exact ⟨h,h'⟩
theorem all2_es {es:List En} {a b:Tr} (h:EsOk 3 es) (ha:a.under (3+es.length)) (hb:b.under (3+es.length)):EsOk 3 (all2 es a b).2:=by
 cases a with
 | b x=>exact h
 | bit n s =>
  cases b with
  | b v=>exact h
  | bit m t =>
   by_cases e:n=m
   ·simp only [all2,if_pos e]; exact h
   ·simp only [all2,if_neg e]
    refine once_ok h ?_
    split
    ·rename_i l; exact ent_ok l hb
    ·rename_i l; exact ent_ok (by omega) ha
theorem unl_es {es:List En} {a b:Tr} (h:EsOk 3 es) (ha:a.under (3+es.length)) (hb:b.under (3+es.length)):EsOk 3 (unl es a b).2:=by
 cases a with
 | b x=>exact h
 | bit n s =>
  cases b with
  | b v=>exact h
  | bit m t =>
   by_cases e:n=m
   ·simp only [unl,if_pos e]; exact h
   ·simp only [unl,if_neg e]
    refine once_ok h ?_
    split
    ·rename_i l; exact ⟨l,hb⟩
    ·rename_i l
     refine ⟨?_,ha⟩
     omega
theorem conn_es {es:List En} {a b:Tr} (h:EsOk 3 es) (ha:a.under (3+es.length)) (hb:b.under (3+es.length)):∀ w:Nat,EsOk 3 (conn es w a b).2
 | 0=>all2_es h ha hb
 | 1=>all2_es h (con_under ha) (con_under hb)
 | 2=>all2_es h (con_under (con_under ha)) (con_under hb)
 | 3=>all2_es h (con_under ha) (con_under (con_under hb))
 | 4=>unl_es h ha hb
 | _+5=>unl_es h ha hb
theorem es_run:∀ (ls:List Lap) {n:Nat} {p:PS},PoolOk n p→EsOk 3 p.2→EsOk 3 (ls.foldl stepL p).2
 | [],_,_,_,h=>h
 | l::r,n,p,hp,h=>es_run r (pool_step hp l) (conn_es h (pick_under (getD_under hp.under l.i0)) (pick_under (getD_under hp.under l.i1)) l.w)
theorem es_ok (ls:List Lap):EsOk 3 (runL ls).2:=es_run ls (n:=0) pool_0 trivial
theorem bi_max1 {a b:Int} {s:St} {l:List PV} {is:List Int} (h:allInts (l.map .pv)=some (a::is)) (h2:maxI a is=b):evBI .max1 [.pv (.tup l)] s=some (.pv (.int b),s):=by
 show ob (allInts (l.map .pv)) _=_; rw [h]; show some (AV.pv (.int (maxI a is)),s)=_; rw [h2]
theorem max_t {a b:Int} {r:List Int} (h:a<b):maxI a (b::r)=maxI b r:=by rw [maxI,if_pos h]
theorem max_f {a b:Int} {r:List Int} (h:¬ a<b):maxI a (b::r)=maxI a r:=by rw [maxI,if_neg h]
theorem scope_run (d:Nat) {x:AV} {L:List PV} {h:List AObj} {st:Bool} (he:∀ C:Ctx,evSs C c24 [(12,x)] ⟨h,st⟩=some ((.ret (.pv (.tup L)),[(12,x)]),⟨h,st⟩)):callFn P (d+1) 24 [x] ⟨h,st⟩=some (.pv (.tup L),⟨h,st⟩) :=
 call_with f24 rfl rfl rfl (he _) rfl
theorem scope_ok (d:Nat) {k:Nat} {e:En} (he:e.Ok k) (x:AV) (hx:x ∈ e.tolds k) (s:St):∃ L:List PV,callFn P (d+1) 24 [x] s=some (.pv (.tup L),s)∧∀ s',evBI .max1 [.pv (.tup L)] s'=some (.pv (.int k),s'):=by
 obtain ⟨h,st⟩:=s
 have lt:∀ {a b:Nat},a<b→(a:Int)<b:=Int.ofNat_lt.mpr
 have gt:∀ {a b:Nat},a<b→¬ (b:Int)<a:=fun h=>Int.not_lt.mpr (Int.le_of_lt (Int.ofNat_lt.mpr h))
 have one:∀ {i:Nat},i<k→∀ s',evBI .max1 [.pv (.tup [.int i,.int k])] s'=some (.pv (.int k),s'):=fun h s'=>bi_max1 rfl (max_t (lt h))
 have up:∀ {i j:Nat},i<j→j<k→∀ s',evBI .max1 [.pv (.tup [.int i,.int j,.int k])] s'=some (.pv (.int k),s'):=fun h h' s'=>bi_max1 rfl ((max_t (lt h)).trans (max_t (lt h')))
 have mid:∀ {i j:Nat},i<k→j<k→∀ s',evBI .max1 [.pv (.tup [.int i,.int k,.int j])] s'=some (.pv (.int k),s'):=fun h h' s'=>bi_max1 rfl ((max_t (lt h)).trans (max_f (gt h')))
 cases e with
 | or i j =>
  cases List.mem_singleton.mp hx
  exact ⟨[.int i,.int j,.int k],scope_run d fun C=>rfl,up he.1 he.2⟩
 | xor i j =>
  cases List.mem_singleton.mp hx
  exact ⟨[.int i,.int j,.int k],scope_run d fun C=>rfl,up he.1 he.2⟩
 | all i s0 j t0 =>
  obtain ⟨h1,h2,h3⟩:=he
  have ik:=Nat.lt_trans h1 h2
  cases s0 <;> cases t0
  ·cases h3
  ·rcases List.mem_cons.mp hx with hx | hx
   ·cases hx; exact ⟨[.int i,.int k],scope_run d fun C=>rfl,one ik⟩
   ·rcases List.mem_cons.mp hx with hx | hx
    ·cases hx; exact ⟨[.int j,.int k],scope_run d fun C=>rfl,one h2⟩
    ·cases List.mem_singleton.mp hx; exact ⟨[.int i,.int k,.int j],scope_run d fun C=>rfl,mid ik h2⟩
  ·rcases List.mem_cons.mp hx with hx | hx
   ·cases hx; exact ⟨[.int i,.int k],scope_run d fun C=>rfl,one ik⟩
   ·rcases List.mem_cons.mp hx with hx | hx
    ·cases hx; exact ⟨[.int j,.int k],scope_run d fun C=>rfl,one h2⟩
    ·cases List.mem_singleton.mp hx; exact ⟨[.int j,.int k,.int i],scope_run d fun C=>rfl,mid h2 ik⟩
  ·cases List.mem_singleton.mp hx
   exact ⟨[.int i,.int j,.int k],scope_run d fun C=>rfl,up h1 h2⟩
end Mine.L3
namespace Mine
theorem forItems_app {held:List (Nat × List AV)} {f:AV→Env→St→R (Flow × Env)}:∀ (a b:List AV) {Γ Γ':Env} {s s':St},forItems held f a Γ s=some ((.next,Γ'),s')→forItems held f (a++b) Γ s=forItems held f b Γ' s'
 | [],b,Γ,Γ',s,s',h=>by
  cases h; rfl
 | x::r,b,Γ,Γ',s,s',h=>by
  have h:bnd (f x Γ s) _=_:=h
  obtain ⟨⟨fl,Γ1⟩,s1,e,h⟩:=bnd_some h
  show bnd (f x Γ s) _=_
  rw [e]
  cases fl with
  | ret v=>cases h
  | next =>
   obtain ⟨hh,h⟩:=cond_some (h:(bif heldOk held s1 then forItems held f r Γ1 s1 else none)=_)
   show (bif heldOk held s1 then forItems held f (r++b) Γ1 s1 else none)=_
   rw [hh]; exact forItems_app r b h
namespace L3
section
variable {d:Nat} {cells:List Int} {spot:Nat} {es:List En} {asked:List AV} {lots:List (Int × AV)} {pool:List Tr} {rest:List AObj} {st:Bool} {Γ:Env}
theorem dom_it {C:Ctx} {held:List (Nat × List AV)} {s:St} (hh:heldOk held s=true):∀ items:List AV,(∀ x ∈ items,∃ n,x = .pv (.tup [n,.tup TRl])) →
  itL C Γ (.tup (.cons (.nm 90) (.cons (.nm 10) .nil))) (.cons (.cmp .ne (.var 10) (.tup (.cons (.tup (.cons (.int 0) (.cons (.int 1) .nil))) .nil))) .nil) (.elt (.var 10)) held items s=some ([],s)
 | [],_=>It_nil
 | x::r,h=>by
  obtain ⟨n,rfl⟩:=h x (.head _)
  exact It_cons (ys:=[]) rfl (Ifs_cons (E_cmp (E_var get_eq) rfl (Cmp_ne rfl)) (If_f rfl)) (Mo_f rfl) hh (dom_it hh r fun y hy=>h y (.tail _ hy))
theorem numsF_dom:∀ (es:List En) (k:Nat),∀ x ∈ numsF k es,∃ n,x = .pv (.tup [n,.tup TRl])
 | [],k,x,h=>by cases h
 | e::r,k,x,h=>by
  simp only [numsF,List.mem_cons] at h
  rcases h with rfl | h
  ·exact ⟨_,rfl⟩
  ·exact numsF_dom r (k+1) x h
theorem vars_dom (es:List En):∀ x ∈ varsOf es,∃ n,x = .pv (.tup [n,.tup TRl]):=by
 intro x hx
 simp only [varsOf,List.mem_append,List.mem_cons,List.not_mem_nil,or_false] at hx
 rcases hx with (rfl | rfl | rfl) | hx
 ·exact ⟨_,rfl⟩
 ·exact ⟨_,rfl⟩
 ·exact ⟨_,rfl⟩
 ·exact numsF_dom es 3 x hx
theorem st_20 (h66:Γ.get 66=some (.ref 1)) (hl:es.length≤12) :
  evS (ctxOf P (callFn P (d+6))) law_s20 Γ ⟨LS cells spot es asked lots pool rest,st⟩=some ((.next,Γ),⟨LS cells spot es asked lots pool rest,st⟩):=by
 have hb:(varsOf es).length≤big:=by rw [varsOf_len]; exact Nat.le_trans (Nat.add_le_add_left hl 3) (by decide)
 apply S_if
 ·apply E_cmp
  ·apply E_comp
   ·apply L_cons
    ·apply I_it
     ·apply E_attr
      ·apply E_attr; exact E_var (get_del_ne rfl h66); exact rfl
      ·exact rfl
     ·exact src_at ls_3 (decide_eq_true hb)
    ·exact fresh_two (get_del_in rfl) (get_del_in rfl)
    ·exact dom_it (held_at ls_3) _ (vars_dom es)
   ·exact rfl
   ·exact rfl
  ·exact rfl
  ·exact rfl
 ·exact B_f rfl S_nil
end
end L3
end Mine
namespace Mine.L3
theorem lookK_app {κ:Type} [DecidableEq κ] (j k:κ) (v:AV):∀ l:List (κ × AV),lookK j (l++[(k,v)])=match lookK j l with | some x=>some x | none=>if k=j then some v else none
 | []=>by simp [lookK]
 | (a,w)::r=>by
  simp only [List.cons_append,lookK,lookK_app j k v r]
  by_cases h:a=j <;> simp [h]
theorem putK_new {κ:Type} [DecidableEq κ] (k:κ) (v:AV):∀ l:List (κ × AV),lookK k l=none→putK k v l=l++[(k,v)]
 | [],_=>rfl
 | (a,w)::r,h=>by
  simp only [lookK] at h
  by_cases e:a=k
  ·rw [if_pos e] at h; cases h
  ·rw [if_neg e] at h
   simp only [putK,if_neg e,putK_new k v r h,List.cons_append]
section
variable {d:Nat} {cells:List Int} {spot:Nat} {es:List En} {asked:List AV} {lots:List (Int × AV)} {pool:List Tr} {rest:List AObj} {Γ:Env}
theorem ls_set7 {l:List (Int × AV)}:(LS cells spot es asked lots pool rest).set 7 (.dictI l)=LS cells spot es asked l pool rest:=rfl
theorem ls_last {x:AObj}:(LS cells spot es asked lots pool (rest++[x]))[rest.length+9]? = some x:=by rw [ls_rest]; simp
theorem ls_setlast {x y:AObj}:(LS cells spot es asked lots pool (rest++[x])).set (rest.length+9) y=LS cells spot es asked lots pool (rest++[y]):=by rw [ls_set]; simp
theorem tolds_pv {k:Nat} {e:En}:∀ x ∈ e.tolds k,∃ p,x = .pv p:=by
 intro x hx
 cases e with
 | or i j=>simp only [En.tolds,List.mem_singleton] at hx; exact ⟨_,hx⟩
 | xor i j=>simp only [En.tolds,List.mem_singleton] at hx; exact ⟨_,hx⟩
 | all i s j t =>
  cases s <;> cases t
  ·simp [En.tolds] at hx
  ·simp only [En.tolds,List.mem_cons,List.not_mem_nil,or_false] at hx
   rcases hx with rfl | rfl | rfl <;> exact ⟨_,rfl⟩
  ·simp only [En.tolds,List.mem_cons,List.not_mem_nil,or_false] at hx
   rcases hx with rfl | rfl | rfl <;> exact ⟨_,rfl⟩
  ·simp only [En.tolds,List.mem_singleton] at hx; exact ⟨_,hx⟩
theorem setdef_new {k:Int} {r:Nat} (hl:lots.length<1000) (hk:lookK k lots=none):evBM .setdefault (.ref 7) [.pv (.int k),.ref r] ⟨LS cells spot es asked lots pool rest,false⟩=some (.ref r,⟨LS cells spot es asked (lots++[(k,.ref r)]) pool rest,false⟩):=by
 show (bif decide (lots.length<big) then (match lookK k lots with | some v=>some (v,_) | none=>ob (if lots.length<big then some (AObj.dictI (putK k (.ref r) lots)) else none) _) else none)=_
 rw [decide_eq_true (big_lt hl),hk]
 show ob (if lots.length<big then _ else none) _=_
 rw [if_pos (big_lt hl),putK_new _ _ _ hk]; rfl
theorem setdef_old {k:Int} {v:AV} {w:AV} (hl:lots.length<1000) (hk:lookK k lots=some v):evBM .setdefault (.ref 7) [.pv (.int k),w] ⟨LS cells spot es asked lots pool rest,false⟩=some (v,⟨LS cells spot es asked lots pool rest,false⟩):=by
 show (bif decide (lots.length<big) then (match lookK k lots with | some v=>some (v,_) | none=>_) else none)=_
 rw [decide_eq_true (big_lt hl),hk]; rfl
theorem told_with {k:Nat} {e:En} (he:e.Ok k) {x:AV} (hx:x ∈ e.tolds k) (h73:Γ.get 73=some (.ref 7)) (h12:Γ.get 12=some x) {r:Nat} {l:List AV} {s2:St}
  (h:evBM .setdefault (.ref 7) [.pv (.int k),.ref (rest.length+9)] ⟨LS cells spot es asked lots pool (rest++[.list []]),false⟩=some (.ref r,s2)) (h2:s2.heap[r]? = some (.list l)) (hl:l.length<1000) :
  evS (ctxOf P (callFn P (d+6))) law_s10 Γ ⟨LS cells spot es asked lots pool rest,false⟩=some ((.next,Γ),s2.set r (.list (l++[x]))):=by
 obtain ⟨L,hc,hm⟩:=scope_ok (d+5) he x hx ⟨LS cells spot es asked lots pool rest,false⟩
 obtain ⟨p,rfl⟩:=tolds_pv x hx
 apply S_expr
 ·apply E_bm
  ·apply E_bm
   ·exact E_var h73
   ·exact rfl
   ·apply Es_cons
    ·apply E_bi
     ·apply Es_cons
      ·apply E_call
       ·apply Es_cons; exact E_var h12; exact Es_nil
       ·exact hc
      ·exact Es_nil
     ·exact hm _
    apply Es_cons
    ·exact E_newLS
    ·exact Es_nil
   ·exact h
  ·exact bm_at h2 rfl
  ·apply Es_cons; exact E_var h12; exact Es_nil
  ·exact app_at h2 rfl (decide_eq_true (big_lt hl))
theorem told_new {k:Nat} {e:En} (he:e.Ok k) {x:AV} (hx:x ∈ e.tolds k) (h73:Γ.get 73=some (.ref 7)) (h12:Γ.get 12=some x) (hl:lots.length<1000) (hk:lookK (k:Int) lots=none) :
  evS (ctxOf P (callFn P (d+6))) law_s10 Γ ⟨LS cells spot es asked lots pool rest,false⟩=some ((.next,Γ),⟨LS cells spot es asked (lots++[((k:Int),.ref (rest.length+9))]) pool (rest++[.list [x]]),false⟩):=by
 rw [told_with (d:=d) he hx h73 h12 (setdef_new hl hk) ls_last (by decide)]
 show some ((Flow.next,Γ),(⟨(LS cells spot es asked _ pool (rest++[.list []])).set (rest.length+9) _,false⟩:St))=_
 rw [ls_setlast]; rfl
theorem told_old {k q:Nat} {e:En} (he:e.Ok k) {x:AV} {l:List AV} (hx:x ∈ e.tolds k) (h73:Γ.get 73=some (.ref 7)) (h12:Γ.get 12=some x) (hl:lots.length<1000) (hk:lookK (k:Int) lots=some (.ref (q+9))) (hq:rest[q]? = some (.list l)) (hll:l.length<1000) :
  evS (ctxOf P (callFn P (d+6))) law_s10 Γ ⟨LS cells spot es asked lots pool rest,false⟩=some ((.next,Γ),⟨LS cells spot es asked lots pool ((rest++[AObj.list []]).set q (AObj.list (l++[x]))),false⟩):=by
 have hql:q<rest.length:=(List.getElem?_eq_some_iff.mp hq).1
 refine (told_with (d:=d) he hx h73 h12 (setdef_old hl hk) (r:=q+9) (l:=l) ?_ hll).trans rfl
 show (LS cells spot es asked lots pool (rest++[.list []]))[q+9]? = _
 rw [ls_rest,List.getElem?_append_left hql]; exact hq
end
noncomputable def toldF (d:Nat):AV→Env→St→R (Flow × Env):=fun x Γ s=>ob (bindT (.nm 12) x Γ) fun Γ'=>evSs (ctxOf P (callFn P (d+6))) (.cons law_s10 .nil) Γ' s
section
variable {d:Nat} {cells:List Int} {spot:Nat} {es:List En} {asked:List AV} {pool:List Tr}
theorem step_for {f:AV→Env→St→R (Flow × Env)} {held:List (Nat × List AV)} {x:AV} {r:List AV} {Γ Γ':Env} {s s':St} (h:f x Γ s=some ((.next,Γ'),s')) (hh:heldOk held s'=true):forItems held f (x::r) Γ s=forItems held f r Γ' s':=by
 show bnd (f x Γ s) _=_; rw [h]; show (bif heldOk held s' then _ else none)=_; rw [hh]; rfl
theorem held4 {lots:List (Int × AV)} {rest:List AObj} {st:Bool}:heldOk [(4,toldsOf es)] ⟨LS cells spot es asked lots pool rest,st⟩=true:=held_at ls_4
theorem olds {k q:Nat} {e:En} (he:e.Ok k) {lots:List (Int × AV)} (hl:lots.length<1000) (hk:lookK (k:Int) lots=some (.ref (q+9))):∀ (xs:List AV) {l:List AV} {rest:List AObj} {Γ:Env},(∀ x ∈ xs,x ∈ e.tolds k)→Names Γ→rest[q]? = some (.list l)→l.length+xs.length<1000 →
  ∃ Γ' rest',forItems [(4,toldsOf es)] (toldF d) xs Γ ⟨LS cells spot es asked lots pool rest,false⟩=some ((.next,Γ'),⟨LS cells spot es asked lots pool rest',false⟩)∧Names Γ'∧rest'[q]? = some (.list (l++xs))∧(∀ p,p ≠ q→p<rest.length→rest'[p]? = rest[p]?)∧rest.length≤rest'.length
 | [],l,rest,Γ,_,hn,hq,_=>⟨Γ,rest,rfl,hn,by rw [List.append_nil]; exact hq,fun _ _ _=>rfl,Nat.le_refl _⟩
 | x::xs,l,rest,Γ,hx,hn,hq,hll=>by
  simp only [List.length_cons] at hll
  have hql:q<rest.length:=(List.getElem?_eq_some_iff.mp hq).1
  have n1:Names (Γ.put 12 x):=hn.put
  have h12:(Γ.put 12 x).get 12=some x:=get_eq
  have e1:=told_old (d:=d) (cells:=cells) (spot:=spot) (es:=es) (asked:=asked) (pool:=pool) he (hx x (.head _)) n1.lots h12 hl hk hq (Nat.lt_of_le_of_lt (Nat.le_add_right _ _) hll)
  have e2:toldF d x Γ ⟨LS cells spot es asked lots pool rest,false⟩=some ((.next,Γ.put 12 x),⟨LS cells spot es asked lots pool ((rest++[AObj.list []]).set q (AObj.list (l++[x]))),false⟩):=by
   exact S_next e1 S_nil
  have hq':((rest++[AObj.list []]).set q (AObj.list (l++[x])))[q]? = some (.list (l++[x])):=by
   rw [List.getElem?_set_self (by simp; exact Nat.lt_succ_of_lt hql)]
  obtain ⟨Γ',rest',a1,a2,a3,a4,a5⟩:=olds he hl hk xs (l:=l++[x]) (rest:=(rest++[AObj.list []]).set q (AObj.list (l++[x]))) (Γ:=Γ.put 12 x) (fun y hy=>hx y (.tail _ hy)) n1 hq' (by simp; exact Nat.lt_of_le_of_lt (Nat.le_of_eq (Nat.add_right_comm _ _ _)) hll)
  refine ⟨Γ',rest',?_,a2,by rw [a3,List.append_assoc]; rfl,fun p hp hpl=>?_,?_⟩
  ·rw [step_for e2 held4]; exact a1
  ·rw [a4 p hp (by simp; exact Nat.lt_succ_of_lt hpl),List.getElem?_set_ne (Ne.symm hp),List.getElem?_append_left hpl]
  ·have:rest.length+1≤rest'.length:=by simpa using a5
   exact Nat.le_of_succ_le this
theorem tolds_ne {k:Nat} {e:En} (he:e.Ok k):∃ x xs,e.tolds k=x::xs:=by
 cases e with
 | or i j=>exact ⟨_,_,rfl⟩
 | xor i j=>exact ⟨_,_,rfl⟩
 | all i s j t=>cases s <;> cases t <;> first | exact ⟨_,_,rfl⟩ | (cases he.2.2)
theorem entry_ok {k:Nat} {e:En} (he:e.Ok k) {lots:List (Int × AV)} (hl:lots.length<900) (hk:lookK (k:Int) lots=none) {rest:List AObj} {Γ:Env} (hn:Names Γ) :
  ∃ Γ' rest',forItems [(4,toldsOf es)] (toldF d) (e.tolds k) Γ ⟨LS cells spot es asked lots pool rest,false⟩=some ((.next,Γ'),⟨LS cells spot es asked (lots++[((k:Int),.ref (rest.length+9))]) pool rest',false⟩)∧Names Γ'∧rest'[rest.length]? = some (.list (e.tolds k))∧(∀ p,p<rest.length→rest'[p]? = rest[p]?)∧rest.length≤rest'.length:=by
 obtain ⟨x,xs,hL⟩:=tolds_ne he
 have h3:=e.tolds_len k
 rw [hL] at h3
 simp only [List.length_cons] at h3
 have hmem:∀ y ∈ x::xs,y ∈ e.tolds k:=fun y hy=>by rw [hL]; exact hy
 have n1:Names (Γ.put 12 x):=hn.put
 have h12:(Γ.put 12 x).get 12=some x:=get_eq
 have e1:=told_new (d:=d) (cells:=cells) (spot:=spot) (es:=es) (asked:=asked) (pool:=pool) (rest:=rest) he (hmem x (.head _)) n1.lots h12 (Nat.lt_of_lt_of_le hl (by decide)) hk
 have e2:toldF d x Γ ⟨LS cells spot es asked lots pool rest,false⟩=some ((.next,Γ.put 12 x),⟨LS cells spot es asked (lots++[((k:Int),.ref (rest.length+9))]) pool (rest++[.list [x]]),false⟩):=by
  exact S_next e1 S_nil
 have hk':lookK (k:Int) (lots++[((k:Int),AV.ref (rest.length+9))])=some (.ref (rest.length+9)):=by rw [lookK_app,hk]; simp
 obtain ⟨Γ',rest',a1,a2,a3,a4,a5⟩:=olds (d:=d) (cells:=cells) (spot:=spot) (es:=es) (asked:=asked) (pool:=pool) he (lots:=lots++[((k:Int),.ref (rest.length+9))]) (by simp; exact Nat.lt_of_le_of_lt (Nat.succ_le_of_lt hl) (by decide)) hk' xs (l:=[x]) (rest:=rest++[.list [x]]) (Γ:=Γ.put 12 x) (fun y hy=>hmem y (.tail _ hy)) n1 (by simp) (by simp; exact Nat.lt_of_le_of_lt (Nat.le_trans (Nat.le_of_eq (Nat.add_comm _ _)) h3) (by decide))
 refine ⟨Γ',rest',?_,a2,by rw [a3,hL]; rfl,fun p hp=>?_,?_⟩
 ·rw [hL,step_for e2 held4]; exact a1
 ·rw [a4 p (Nat.ne_of_lt hp) (by simp; exact Nat.lt_succ_of_lt hp),List.getElem?_append_left hp]
 ·have:rest.length+1≤rest'.length:=by simpa using a5
  exact Nat.le_of_succ_le this
structure LInv (es0:List En) (lots:List (Int × AV)) (rest0 rest:List AObj):Prop where
 at_:∀ i e,es0[i]? = some e→∃ q,lookK ((3+i:Nat):Int) lots=some (.ref (q+9))∧rest[q]? = some (.list (e.tolds (3+i)))
 none:∀ j:Nat,3+es0.length≤j→lookK (j:Int) lots=none
 len:lots.length=es0.length
 old:∀ p,p<rest0.length→rest[p]? = rest0[p]?
 le:rest0.length≤rest.length
theorem lots_loop {rest0:List AObj}:∀ (es1 es0:List En) {lots:List (Int × AV)} {rest:List AObj} {Γ:Env},EsOk (3+es0.length) es1→es0.length+es1.length<100→LInv es0 lots rest0 rest→Names Γ →
  ∃ Γ' lots' rest',forItems [(4,toldsOf es)] (toldF d) (toldsF (3+es0.length) es1) Γ ⟨LS cells spot es asked lots pool rest,false⟩=some ((.next,Γ'),⟨LS cells spot es asked lots' pool rest',false⟩)∧Names Γ'∧LInv (es0++es1) lots' rest0 rest'
 | [],es0,lots,rest,Γ,_,_,hI,hn=>⟨Γ,lots,rest,rfl,hn,by rw [List.append_nil]; exact hI⟩
 | e::r,es0,lots,rest,Γ,hok,hlen,hI,hn=>by
  simp only [List.length_cons] at hlen
  obtain ⟨Γ1,rest1,a1,a2,a3,a4,a5⟩:=entry_ok (d:=d) (cells:=cells) (spot:=spot) (es:=es) (asked:=asked) (pool:=pool) hok.1 (lots:=lots) (by rw [hI.len]; exact Nat.lt_of_le_of_lt (Nat.le_add_right _ _) (Nat.lt_trans hlen (by decide))) (hI.none _ (Nat.le_refl _)) (rest:=rest) hn
  have I1:LInv (es0++[e]) (lots++[(((3+es0.length:Nat):Int),.ref (rest.length+9))]) rest0 rest1:=by
   refine ⟨fun i y hy=>?_,fun j hj=>?_,by simp [hI.len],fun p hp=>?_,Nat.le_trans hI.le a5⟩
   ·by_cases hi:i<es0.length
    ·rw [List.getElem?_append_left hi] at hy
     obtain ⟨q,b1,b2⟩:=hI.at_ i y hy
     refine ⟨q,by rw [lookK_app,b1],?_⟩
     rw [a4 q (List.getElem?_eq_some_iff.mp b2).1]; exact b2
    ·rw [List.getElem?_append_right (Nat.le_of_not_lt hi)] at hy
     have hi0:i - es0.length=0:=Nat.lt_one_iff.mp (List.getElem?_eq_some_iff.mp hy).1
     rw [hi0] at hy
     simp only [List.getElem?_cons_zero,Option.some.injEq] at hy
     subst hy
     have hie:i=es0.length:=Nat.le_antisymm (Nat.sub_eq_zero_iff_le.mp hi0) (Nat.le_of_not_lt hi)
     subst hie
     exact ⟨rest.length,by rw [lookK_app,hI.none _ (Nat.le_refl _)]; simp,a3⟩
   ·simp only [List.length_append,List.length_cons,List.length_nil] at hj
    rw [lookK_app,hI.none j (Nat.le_of_succ_le hj)]
    simp only
    exact if_neg fun e=>Nat.ne_of_lt (show 3+es0.length<j from hj) (Int.ofNat_inj.mp e)
   ·rw [a4 p (Nat.lt_of_lt_of_le hp hI.le)]; exact hI.old p hp
  have hok2:EsOk (3+(es0++[e]).length) r:=by
   have:3+(es0++[e]).length=3+es0.length+1:=by simp; exact rfl
   rw [this]; exact hok.2
  obtain ⟨Γ2,lots2,rest2,b1,b2,b3⟩:=lots_loop r (es0++[e]) hok2 (by simp; exact Nat.lt_of_le_of_lt (Nat.le_of_eq (Nat.add_right_comm _ _ _)) hlen) I1 a2
  refine ⟨Γ2,lots2,rest2,?_,b2,by rw [List.append_assoc] at b3; exact b3⟩
  have hk:3+(es0++[e]).length=3+es0.length+1:=by simp; exact rfl
  rw [hk] at b1
  simp only [toldsF]
  rw [forItems_app _ _ a1]
  exact b1
theorem st_lots {rest:List AObj} {Γ:Env} (hok:EsOk 3 es) (hl:es.length≤12) (hn:Names Γ) :
  ∃ Γ' lots rest',evS (ctxOf P (callFn P (d+6))) (.forS (.nm 12) (.it (.attr (.attr (.var 66) 30) 5)) (.cons law_s10 .nil)) Γ ⟨LS cells spot es asked [] pool rest,false⟩=some ((.next,Γ'),⟨LS cells spot es asked lots pool rest',false⟩)∧Names Γ'∧LInv es lots rest rest':=by
 obtain ⟨Γ',lots,rest',a1,a2,a3⟩:=lots_loop (d:=d) (cells:=cells) (spot:=spot) (es:=es) (asked:=asked) (pool:=pool) (rest0:=rest) es [] (lots:=[]) (rest:=rest) (Γ:=Γ) hok (by simp; exact Nat.lt_of_le_of_lt hl (by decide)) ⟨fun i e h=>by simp at h,fun _ _=>rfl,rfl,fun _ _=>rfl,Nat.le_refl _⟩ hn
 refine ⟨Γ',lots,rest',?_,a2,a3⟩
 have hb:=tolds_big hl
 have hi:evI (ctxOf P (callFn P (d+6))) Γ (.it (.attr (.attr (.var 66) 30) 5)) ⟨LS cells spot es asked [] pool rest,false⟩=some (⟨toldsOf es,[(4,toldsOf es)]⟩,⟨LS cells spot es asked [] pool rest,false⟩):=by
  exact I_it (E_attr (E_attr (E_var hn.f) rfl) rfl) (src_at ls_4 (decide_eq_true hb))
 exact S_for hi a1
end
noncomputable def b2i (b:Bool):Int:=if b then 1 else 0
noncomputable def Has (R:List Int) (ps:List (Nat × Int)):Prop:=∀ p ∈ ps,R[p.1]? = some p.2
noncomputable def pts (ps:List (Nat × Int)):List PV:=ps.map fun p=>.int p.1
noncomputable def vls (ps:List (Nat × Int)):List PV:=ps.map fun p=>.int p.2
theorem call_ret {d f:Nat} {vs:List AV} {h:List AObj} {st s2:Bool} {Γ:Env} {v:AV} (fd:Fn) (hf:P.fns[f]? = some fd) (ht:fd.trim=false) (hl:fd.params.length=vs.length)
  (he:evSs (ctxOf P (callFn P d)) fd.body (fd.params.zip vs) ⟨h,st⟩=some ((.ret v,Γ),⟨h,s2⟩)):callFn P (d+1) f vs ⟨h,st⟩=some (v,⟨h,st⟩):=call_with fd hf ht hl he rfl
section
variable {d:Nat} {R:List Int} (hR:R.length≤100)
include hR
theorem sub_row {i:Nat} {x:Int} {s:St} (h:R[i]? = some x):evSub (.pv (.lst (intsAV R))) (.pv (.int i)) s=some (.pv (.int x)):=by
 have l:=(List.getElem?_eq_some_iff.mp h).1
 show atIdx ((intsAV R).map .pv) (.pv (.int i))=_
 refine at_nat (Nat.lt_of_lt_of_le l (Nat.le_trans hR (by decide))) ?_
 rw [intsAV,List.map_map,List.getElem?_map,h]; rfl
theorem comp_row {C:Ctx} {Γ:Env} {s:St} (h42:Γ.get 42=some (.pv (.lst (intsAV R)))):∀ {ps:List (Nat × Int)},Has R ps→itL C Γ (.nm 15) .nil (.elt (.sub (.var 42) (.var 15))) [] ((pts ps).map .pv) s=some ((vls ps).map .pv,s)
 | [],_=>It_nil
 | p::r,h=>It_cons (ys:=[.pv (.int p.2)]) rfl Ifs_nil (Mo_t rfl (L_elt (E_sub (E_var (get_ne rfl h42)) (E_var get_eq) (sub_row hR (h p (.head _)))))) rfl (comp_row h42 fun q hq=>h q (.tail _ hq))
theorem some_row {C:Ctx} {Γ:Env} {s:St} {ps:List (Nat × Int)} {e:CE} {v:AV} (h42:Γ.get 42=some (.pv (.lst (intsAV R)))) (h:Has R ps) (hl:(pts ps).length≤100) (h15:Γ.get 15=none) (he:evE C (Env.del [15] Γ) e s=some (.pv (.tup (pts ps)),s)) (hv : .pv (.lst (vls ps))=v) :
  evE C Γ (.comp [15] (.cons (.nm 15) (.it e) .nil (.elt (.sub (.var 42) (.var 15))))) s=some (v,s):=by
 have l1:((pts ps).map AV.pv).length≤big:=by rw [List.length_map]; exact Nat.le_trans hl (by decide)
 have l2:((vls ps).map AV.pv).length≤big:=by rw [List.length_map,vls,List.length_map]; rw [pts,List.length_map] at hl; exact Nat.le_trans hl (by decide)
 refine E_comp (L_cons (I_it he (src:=⟨(pts ps).map .pv,[]⟩) ?_) (fresh_nm (get_del_in rfl)) (comp_row hR (get_del_ne rfl h42) h)) (decide_eq_true l2) (mkLst_map.trans hv)
 show (if ((pts ps).map AV.pv).length≤big then some (Src.mk ((pts ps).map AV.pv) []) else none)=_
 exact if_pos l1
theorem kept_xor {i j k:Nat} {x y z:Int} (hi:R[i]? = some x) (hj:R[j]? = some y) (hk:R[k]? = some z) (s:St) :
  callFn P (d+1) 25 [.pv (.tup [.str "xor", .int i,.int j,.int k]),.pv (.lst (intsAV R))] s=some (.pv (.bool ((!(x == y)) == (z == 1))),s):=by
 obtain ⟨h,st⟩:=s
 apply call_ret f25 rfl rfl rfl
 show evSs _ c25 _ _=_
 refine SIf (c:=true) rfl (T_t rfl (SR ?_) K_ret)
 apply E_cmp
 ·apply E_cmp
  ·apply E_sub; exact rfl; exact rfl; exact sub_row hR hi
  ·apply E_sub; exact rfl; exact rfl; exact sub_row hR hj
  ·exact rfl
 ·apply E_cmp
  ·apply E_sub; exact rfl; exact rfl; exact sub_row hR hk
  ·exact rfl
  ·exact rfl
 ·exact rfl
theorem kept_pre {ps:List (Nat × Int)} {C:Ctx} {w:Str} {b:PV} {s:St} {r:Mine.R (Flow × Env)} (h:Has R ps) (hl:(pts ps).length≤100) (hw:pyEq (.str w) (.str "xor")=false)
  (e:evSs C (dropS 2 c25) [(12,.pv (.tup [.str w,.tup (pts ps),b])),(42,.pv (.lst (intsAV R))),(46,.pv (.lst (vls ps)))] s=r):evSs C c25 [(12,.pv (.tup [.str w,.tup (pts ps),b])),(42,.pv (.lst (intsAV R)))] s=r:=by
 refine SIf (c:=pyEq (.str w) (.str "xor")) rfl (T_f hw (SA (v:=.pv (.lst (vls ps))) (some_row hR rfl h hl rfl rfl rfl) rfl e))
theorem kept_or {i j k:Nat} {x y z:Int} (hi:R[i]? = some x) (hj:R[j]? = some y) (hk:R[k]? = some z) (s:St) :
  callFn P (d+1) 25 [.pv (.tup [.str "or", .tup [.int i,.int j],.int k]),.pv (.lst (intsAV R))] s=some (.pv (.bool (z == maxI x [y])),s):=by
 obtain ⟨h,st⟩:=s
 apply call_ret f25 rfl rfl rfl
 have hp:Has R [(i,x),(j,y)]:=fun p hp=>by
  rcases List.mem_cons.mp hp with rfl | hp
  ·exact hi
  ·cases List.mem_singleton.mp hp; exact hj
 show evSs _ c25 _ _=_
 refine kept_pre hR (ps:=[(i,x),(j,y)]) hp (show 2≤100 from by decide) (by decide +kernel) ?_
 refine SIf (c:=false) rfl (T_f rfl (SR ?_))
 apply E_and
 refine B_two (c:=true) rfl (Bt_go rfl (B_one ?_))
 apply E_cmp
 ·apply E_sub; exact rfl; exact rfl; exact sub_row hR hk
 ·refine E_ife (c:=false) rfl (Br_f rfl ?_)
  apply E_bi; exact rfl; exact rfl
 ·exact rfl
theorem kept_and {i j k:Nat} {x y z:Int} (hi:R[i]? = some x) (hj:R[j]? = some y) (hk:R[k]? = some z) (s:St) :
  callFn P (d+1) 25 [.pv (.tup [.str "and", .tup [.int i,.int j],.int k]),.pv (.lst (intsAV R))] s=some (.pv (.bool (z == minI x [y])),s):=by
 obtain ⟨h,st⟩:=s
 apply call_ret f25 rfl rfl rfl
 have hp:Has R [(i,x),(j,y)]:=fun p hp=>by
  rcases List.mem_cons.mp hp with rfl | hp
  ·exact hi
  ·cases List.mem_singleton.mp hp; exact hj
 show evSs _ c25 _ _=_
 refine kept_pre hR (ps:=[(i,x),(j,y)]) hp (show 2≤100 from by decide) (by decide +kernel) ?_
 refine SIf (c:=false) rfl (T_f rfl (SR ?_))
 apply E_and
 refine B_two (c:=true) rfl (Bt_go rfl (B_one ?_))
 apply E_cmp
 ·apply E_sub; exact rfl; exact rfl; exact sub_row hR hk
 ·refine E_ife (c:=true) rfl (Br_t rfl ?_)
  apply E_bi; exact rfl; exact rfl
 ·exact rfl
omit hR in
theorem any_vls {s:St}:∀ ps:List (Nat × Int),asPVs s ((vls ps).map .pv)=some (vls ps)
 | []=>rfl
 | p::r=>by show (match some (PV.int p.2),asPVs s ((vls r).map .pv) with | some p,some ps=>some (p::ps) | _,_=>none)=_; rw [any_vls r]; rfl
omit hR in
theorem in_vls {y:Int} {s:St} {ps:List (Nat × Int)}:evIn (.pv (.int y)) (.pv (.lst (vls ps))) s=some (anyP (.int y) (vls ps)):=by
 show (asPVs s ((vls ps).map .pv)).map (anyP (.int y))=_
 rw [any_vls ps]; rfl
theorem kept_cl {us ds:List (Nat × Int)} (hu:Has R us) (hd:Has R ds) (lu:(pts us).length≤100) (ld:(pts ds).length≤100) (s:St) :
  callFn P (d+1) 25 [.pv (clP (pts us) (pts ds)),.pv (.lst (intsAV R))] s=some (.pv (.bool (anyP (.int 1) (vls us)||anyP (.int 0) (vls ds))),s):=by
 obtain ⟨h,st⟩:=s
 apply call_ret f25 rfl rfl rfl
 show evSs _ c25 _ _=_
 refine kept_pre hR (ps:=us) hu lu (by decide +kernel) ?_
 refine SIf (c:=true) rfl (T_t rfl (SR ?_) K_ret)
 apply E_or
 cases hc:anyP (.int 1) (vls us) with
 | true=>exact B_two (c:=true) (E_cmp rfl rfl (Cmp_inn (in_vls.trans (congrArg some hc)))) (Bf_stop rfl)
 | false =>
  exact B_two (c:=false) (E_cmp rfl rfl (Cmp_inn (in_vls.trans (congrArg some hc)))) (Bf_go rfl (B_one (E_cmp rfl (some_row hR rfl hd ld rfl rfl rfl) (Cmp_inn in_vls))))
end
noncomputable def En.val (r:List Bool):En→Bool
 | .or i j=>r.getD i false||r.getD j false
 | .xor i j=>r.getD i false != r.getD j false
 | .all i s j t=>(r.getD i false == s)&&(r.getD j false == t)
noncomputable def rowI (r:List Bool):List Int:=r.map b2i
theorem rowI_len {r:List Bool}:(rowI r).length=r.length:=List.length_map _
theorem row_add {R:List Int} (hR:R.length≤100) (x:Int) (s:St):evBin .add false (.pv (.lst (intsAV R))) (.pv (.lst [.int x])) s=some (.pv (.lst (intsAV (R++[x]))),s):=by
 have h1:((intsAV R).map AV.pv).length+1≤big:=by rw [List.length_map,ints_len]; exact Nat.le_trans (Nat.succ_le_succ hR) (by decide)
 have e:List.map AV.pv (intsAV R)++[AV.pv (.int x)]=List.map AV.pv (intsAV (R++[x])):=by rw [intsAV,intsAV,List.map_append,List.map_append]; rfl
 show (if ((intsAV R).map AV.pv).length+1≤big then some (mkLst (List.map AV.pv (intsAV R)++[AV.pv (.int x)]),s) else none)=_
 rw [if_pos h1,e,mkLst_map]
theorem row_at {r:List Bool} {i:Nat} (h:i<r.length) (v:Bool):(rowI r++[b2i v])[i]? = some (b2i (r.getD i false)):=by
 rw [List.getElem?_append_left (Nat.lt_of_lt_of_eq h rowI_len.symm),List.getD_eq_getElem?_getD,List.getElem?_eq_getElem h,rowI,List.getElem?_map,List.getElem?_eq_getElem h]; rfl
theorem row_last {r:List Bool} (v:Bool):(rowI r++[b2i v])[r.length]? = some (b2i v):=by
 rw [← rowI_len (r:=r),List.getElem?_append_right (Nat.le_refl _),Nat.sub_self]; rfl
noncomputable def innerC:CE:=.comp [12] (.cons (.nm 12) (.it (.bm .get2 (.var 73) (.cons (.var 15) (.cons (.list false .nil) .nil)))) (.cons (.not (.call 25 (.cons (.var 12) (.cons (.bin .add false (.var 42) (.list false (.cons (.var 72) .nil))) .nil)))) .nil) (.elt (.var 12)))
noncomputable def bad:List (PV × Bool)→List PV
 | []=>[]
 | p::r=>bif p.2 then bad r else p.1::bad r
theorem bad_len:∀ ps:List (PV × Bool),(bad ps).length≤ps.length
 | []=>Nat.le_refl _
 | p::r=>by
  rw [bad]
  cases p.2 with
  | true=>exact Nat.le_trans (bad_len r) (Nat.le_succ _)
  | false=>exact Nat.succ_le_succ (bad_len r)
theorem bad_nil:∀ ps:List (PV × Bool),(bad ps).isEmpty=ps.all (·.2)
 | []=>rfl
 | p::r=>by
  rw [bad,List.all_cons]
  cases p.2 with
  | true=>exact bad_nil r
  | false=>rfl
section
variable {d:Nat} {s:St} {Γ:Env}
structure InG (Γ:Env) (R:List Int) (x:Int):Prop where
 g42:Γ.get 42=some (.pv (.lst (intsAV R)))
 g72:Γ.get 72=some (.pv (.int x))
theorem inner_it {R:List Int} {x:Int} (hR:R.length≤100) (g:InG Γ R x) {held:List (Nat × List AV)} (hh:heldOk held s=true):∀ {ps:List (PV × Bool)},(∀ p ∈ ps,callFn P (d+5) 25 [.pv p.1,.pv (.lst (intsAV (R++[x])))] s=some (.pv (.bool p.2),s)) →
  itL (ctxOf P (callFn P (d+5))) Γ (.nm 12) (.cons (.not (.call 25 (.cons (.var 12) (.cons (.bin .add false (.var 42) (.list false (.cons (.var 72) .nil))) .nil)))) .nil) (.elt (.var 12)) held (ps.map fun p=>.pv p.1) s=some ((bad ps).map .pv,s)
 | [],_=>It_nil
 | p::r,h=>by
  have ih:=inner_it hR g hh (ps:=r) fun q hq=>h q (.tail _ hq)
  have t:evE (ctxOf P (callFn P (d+5))) (Γ.put 12 (.pv p.1)) (.not (.call 25 (.cons (.var 12) (.cons (.bin .add false (.var 42) (.list false (.cons (.var 72) .nil))) .nil)))) s=some (.pv (.bool (!p.2)),s):=by
   apply E_not
   apply E_call
   ·apply Es_cons; exact E_var get_eq
    apply Es_cons
    ·apply E_bin; exact E_var (get_ne rfl g.g42)
     ·apply E_lst; apply Es_cons; exact E_var (get_ne rfl g.g72); exact Es_nil; exact rfl
     ·exact row_add hR x s
    ·exact Es_nil
   ·exact h p (.head _)
  rw [bad]
  cases hp:p.2 with
  | true=>rw [hp] at t; exact It_cons (ys:=[]) rfl (Ifs_cons t (If_f rfl)) (Mo_f rfl) hh ih
  | false=>rw [hp] at t; exact It_cons (ys:=[.pv p.1]) rfl (Ifs_cons t (If_t rfl Ifs_nil)) (Mo_t rfl (L_elt (E_var get_eq))) hh ih
theorem inner_run {R:List Int} {x:Int} {k:Nat} {lots:List (Int × AV)} {q:Nat} {ps:List (PV × Bool)} (hR:R.length≤100) (hl:ps.length≤100) (g:InG Γ R x) (h73:Γ.get 73=some (.ref 7)) (h15:Γ.get 15=some (.pv (.int k))) (h7:s.heap[7]? = some (.dictI lots))
  (hk:lookK (k:Int) lots=some (.ref q)) (hq:s.heap[q]? = some (.list (ps.map fun p=>.pv p.1))) (h:∀ p ∈ ps,callFn P (d+5) 25 [.pv p.1,.pv (.lst (intsAV (R++[x])))] s=some (.pv (.bool p.2),s)) :
  evE (ctxOf P (callFn P (d+5))) Γ innerC s=some (.pv (.lst (bad ps)),s):=by
 have l1:(ps.map fun p=>AV.pv p.1).length≤big:=by rw [List.length_map]; exact Nat.le_trans hl (by decide)
 have l2:((bad ps).map AV.pv).length≤big:=by rw [List.length_map]; exact Nat.le_trans (bad_len ps) (Nat.le_trans hl (by decide))
 refine E_comp (L_cons (I_it ?_ (src_at hq (decide_eq_true l1))) (fresh_nm (get_del_in rfl)) (inner_it hR ⟨get_del_ne rfl g.g42,get_del_ne rfl g.g72⟩ (held_at hq) h)) (decide_eq_true l2) mkLst_map
 apply E_bm
 ·exact E_var (get_del_ne rfl h73)
 ·show (match s.heap[7]? with | some o=>bif isLM .get2 then isLO o else isDO o | none=>false)=true
  rw [h7]; rfl
 ·apply Es_cons; exact E_var (get_del_ne rfl h15); exact rfl
 ·show ob (s.heap[7]?) _=_
  rw [h7]; show some ((lookK (k:Int) lots).getD _,s)=_
  rw [hk]; rfl
theorem b_or:∀ v a b:Bool,((b2i v == maxI (b2i a) [b2i b])&&true)=(v == (a||b)):=by decide
theorem b_xor:∀ v a b:Bool,(((!(b2i a == b2i b)) == (b2i v == 1))&&true)=(v == (a != b)):=by decide
theorem b_and:∀ v a b:Bool,((b2i v == minI (b2i a) [b2i b])&&true)=(v == ((a == true)&&(b == true))):=by decide
theorem b_ft:∀ v a b:Bool,((anyP (.int 1) []||anyP (.int 0) [.int (b2i a),.int (b2i v)])&&((anyP (.int 1) [.int (b2i b)]||anyP (.int 0) [.int (b2i v)])&&((anyP (.int 1) [.int (b2i a),.int (b2i v)]||anyP (.int 0) [.int (b2i b)])&&true)))=(v == ((a == false)&&(b == true))):=by decide
theorem b_tf:∀ v a b:Bool,((anyP (.int 1) [.int (b2i a)]||anyP (.int 0) [.int (b2i v)])&&((anyP (.int 1) []||anyP (.int 0) [.int (b2i b),.int (b2i v)])&&((anyP (.int 1) [.int (b2i b),.int (b2i v)]||anyP (.int 0) [.int (b2i a)])&&true)))=(v == ((a == true)&&(b == false))):=by decide
theorem inner_ps {r:List Bool} {e:En} (v:Bool) (hr:r.length≤90) (he:e.Ok r.length):∃ ps:List (PV × Bool),e.tolds r.length=ps.map (fun p=>.pv p.1)∧(∀ p ∈ ps,callFn P (d+5) 25 [.pv p.1,.pv (.lst (intsAV (rowI r++[b2i v])))] s=some (.pv (.bool p.2),s))∧(bad ps).isEmpty=(v == e.val r)∧ps.length≤100:=by
 have hR:(rowI r++[b2i v]).length≤100:=by rw [List.length_append,rowI_len]; exact Nat.le_trans (Nat.succ_le_succ hr) (by decide)
 have hl:=row_last (r:=r) v
 have h1:∀ {p:Nat × Int},(rowI r++[b2i v])[p.1]? = some p.2→Has (rowI r++[b2i v]) [p]:=fun h q hq=>by cases List.mem_singleton.mp hq; exact h
 have h2:∀ {p q:Nat × Int},(rowI r++[b2i v])[p.1]? = some p.2→(rowI r++[b2i v])[q.1]? = some q.2→Has (rowI r++[b2i v]) [p,q]:=fun h h' q hq=>by
  rcases List.mem_cons.mp hq with rfl | hq
  ·exact h
  ·cases List.mem_singleton.mp hq; exact h'
 have h0:Has (rowI r++[b2i v]) []:=fun q hq=>by cases hq
 have one:∀ {c:PV} {b:Bool},callFn P (d+5) 25 [.pv c,.pv (.lst (intsAV (rowI r++[b2i v])))] s=some (.pv (.bool b),s)→∀ p ∈ [(c,b)],callFn P (d+5) 25 [.pv p.1,.pv (.lst (intsAV (rowI r++[b2i v])))] s=some (.pv (.bool p.2),s):=fun h p hp=>by cases List.mem_singleton.mp hp; exact h
 have three:∀ {c c2 c3:PV} {b b2 b3:Bool},callFn P (d+5) 25 [.pv c,.pv (.lst (intsAV (rowI r++[b2i v])))] s=some (.pv (.bool b),s)→callFn P (d+5) 25 [.pv c2,.pv (.lst (intsAV (rowI r++[b2i v])))] s=some (.pv (.bool b2),s)→callFn P (d+5) 25 [.pv c3,.pv (.lst (intsAV (rowI r++[b2i v])))] s=some (.pv (.bool b3),s) →
   ∀ p ∈ [(c,b),(c2,b2),(c3,b3)],callFn P (d+5) 25 [.pv p.1,.pv (.lst (intsAV (rowI r++[b2i v])))] s=some (.pv (.bool p.2),s):=fun h h' h'' p hp=>by
  rcases List.mem_cons.mp hp with rfl | hp
  ·exact h
  ·rcases List.mem_cons.mp hp with rfl | hp
   ·exact h'
   ·cases List.mem_singleton.mp hp; exact h''
 cases e with
 | or i j =>
  have hi:=row_at (Nat.lt_trans he.1 he.2) v
  have hj:=row_at he.2 v
  exact ⟨_,rfl,one (kept_or hR hi hj hl s),(bad_nil _).trans (b_or _ _ _),(by decide:1≤100)⟩
 | xor i j =>
  have hi:=row_at (Nat.lt_trans he.1 he.2) v
  have hj:=row_at he.2 v
  exact ⟨_,rfl,one (kept_xor hR hi hj hl s),(bad_nil _).trans (b_xor _ _ _),(by decide:1≤100)⟩
 | all i s0 j t0 =>
  have hi:=row_at (Nat.lt_trans he.1 he.2.1) v
  have hj:=row_at he.2.1 v
  have e3:=he.2.2
  cases s0 <;> cases t0
  ·cases e3
  ·exact ⟨_,rfl,three (kept_cl hR h0 (h2 (p:=(i,_)) (q:=(r.length,_)) hi hl) (by decide:0≤100) (by decide:2≤100) s) (kept_cl hR (h1 (p:=(j,_)) hj) (h1 (p:=(r.length,_)) hl) (by decide:1≤100) (by decide:1≤100) s) (kept_cl hR (h2 (p:=(i,_)) (q:=(r.length,_)) hi hl) (h1 (p:=(j,_)) hj) (by decide:2≤100) (by decide:1≤100) s),(bad_nil _).trans (b_ft _ _ _),(by decide:3≤100)⟩
  ·exact ⟨_,rfl,three (kept_cl hR (h1 (p:=(i,_)) hi) (h1 (p:=(r.length,_)) hl) (by decide:1≤100) (by decide:1≤100) s) (kept_cl hR h0 (h2 (p:=(j,_)) (q:=(r.length,_)) hj hl) (by decide:0≤100) (by decide:2≤100) s) (kept_cl hR (h2 (p:=(j,_)) (q:=(r.length,_)) hj hl) (h1 (p:=(i,_)) hi) (by decide:2≤100) (by decide:1≤100) s),(bad_nil _).trans (b_tf _ _ _),(by decide:3≤100)⟩
  ·exact ⟨_,rfl,one (kept_and hR hi hj hl s),(bad_nil _).trans (b_and _ _ _),(by decide:1≤100)⟩
theorem inner_ok {r:List Bool} {e:En} {q:Nat} {v:Bool} {lots:List (Int × AV)} (hr:r.length≤90) (he:e.Ok r.length) (h73:Γ.get 73=some (.ref 7)) (h15:Γ.get 15=some (.pv (.int r.length))) (h42:Γ.get 42=some (.pv (.lst (intsAV (rowI r))))) (h72:Γ.get 72=some (.pv (.int (b2i v))))
  (h7:s.heap[7]? = some (.dictI lots)) (hk:lookK (r.length:Int) lots=some (.ref q)) (hq:s.heap[q]? = some (.list (e.tolds r.length))) :
  ∃ L:List PV,evE (ctxOf P (callFn P (d+5))) Γ innerC s=some (.pv (.lst L),s)∧L.isEmpty=(v == e.val r):=by
 obtain ⟨ps,e1,h,hb,l⟩:=inner_ps (d:=d) (s:=s) v hr he
 rw [e1] at hq
 exact ⟨_,inner_run (by rw [rowI_len]; exact Nat.le_trans hr (by decide)) l ⟨h42,h72⟩ h73 h15 h7 hk hq h,hb⟩
end
theorem pyEqs_nil (L:List PV):pyEqs L []=L.isEmpty:=by cases L <;> rfl
noncomputable def rowsOf (es:List En) (r:List Bool):List Bool:=es.foldl (fun r e=>r++[e.val r]) r
noncomputable def upI (k:Nat):Nat→List AV
 | 0=>[]
 | n+1=>.pv (.int k)::upI (k+1) n
theorem upI_range:∀ (n k:Nat),(List.range n).map (fun i:Nat=>AV.pv (.int ((k:Int)+(i:Int))))=upI k n
 | 0,k=>rfl
 | n+1,k=>by
  rw [List.range_succ_eq_map,List.map_cons,List.map_map]
  refine congrArg (AV.pv (.int (k:Int))::·) (Eq.trans (List.map_congr_left fun i _=>?_) (upI_range n (k+1)))
  show AV.pv (.int ((k:Int)+((i+1:Nat):Int)))=AV.pv (.int (((k+1:Nat):Int)+(i:Int)))
  rw [Int.natCast_add,Int.natCast_add,Int.add_assoc,Int.add_comm (i:Int)]
theorem range_up (n:Nat):(intsAV (rangeI 3 ((3+n:Nat):Int))).map AV.pv=upI 3 n:=by
 have e:(((3+n:Nat):Int) - 3).toNat=n:=by omega
 rw [intsAV,rangeI,e,List.map_map,List.map_map]; exact upI_range n 3
section
variable {d:Nat} {s:St} {Γ:Env} {lots:List (Int × AV)}
noncomputable def At (s:St) (lots:List (Int × AV)) (k:Nat) (e:En):Prop:=∃ q,lookK (k:Int) lots=some (.ref q)∧s.heap[q]? = some (.list (e.tolds k))
structure RowG (Γ:Env) (r:List Bool):Prop where
 g73:Γ.get 73=some (.ref 7)
 g42:Γ.get 42=some (.pv (.lst (intsAV (rowI r))))
theorem eq_nil {L:List PV} {s:St}:evEq (.pv (.lst L)) (.pv (.lst [])) s=some L.isEmpty:=by
 show (if (depthP (.lst L)<20||decide (depthP (.lst [])<20)) then some (pyEqs L []) else none)=_
 rw [pyEqs_nil,show decide (depthP (.lst [])<20)=true from rfl,Bool.or_true]; rfl
theorem fit_ok {r:List Bool} {e:En} (hr:r.length≤90) (he:e.Ok r.length) (g:RowG Γ r) (h15:Γ.get 15=some (.pv (.int r.length))) (h7:s.heap[7]? = some (.dictI lots)) (hq:At s lots r.length e) :
  evS (ctxOf P (callFn P (d+5))) row_s0 Γ s=some ((.next,Γ.put 71 (.pv (.lst [.int (b2i (e.val r))]))),s):=by
 obtain ⟨q,hk,hq⟩:=hq
 have key:∀ v:Bool,evE (ctxOf P (callFn P (d+5))) (Env.put 72 (.pv (.int (b2i v))) (Env.del [72] Γ)) (.cmp .eq innerC (.list false .nil)) s=some (.pv (.bool (v == e.val r)),s):=fun v=>by
  obtain ⟨L,a1,a2⟩:=inner_ok (d:=d) (s:=s) (v:=v) (Γ:=Env.put 72 (.pv (.int (b2i v))) (Env.del [72] Γ)) hr he (get_ne rfl (get_del_ne rfl g.g73)) (get_ne rfl (get_del_ne rfl h15)) (get_ne rfl (get_del_ne rfl g.g42)) get_eq h7 hk hq
  exact E_cmp a1 rfl (Cmp_eq (eq_nil.trans (congrArg some a2)))
 refine S_assign (E_comp (vs:=[.pv (.int (b2i (e.val r)))]) (L_cons (src:=⟨[.pv (.int 0),.pv (.int 1)],[]⟩) (I_it rfl rfl) (fresh_nm (get_del_in rfl)) ?_) rfl rfl) rfl
 have k0:=key false
 have k1:=key true
 have v1:evL (ctxOf P (callFn P (d+5))) ((Env.del [72] Γ).put 72 (.pv (.int 1))) (.elt (.var 72)) s=some ([.pv (.int 1)],s):=L_elt (E_var get_eq)
 have v0:evL (ctxOf P (callFn P (d+5))) ((Env.del [72] Γ).put 72 (.pv (.int 0))) (.elt (.var 72)) s=some ([.pv (.int 0)],s):=L_elt (E_var get_eq)
 cases hv:e.val r with
 | false =>
  rw [hv] at k0 k1
  exact It_cons (ys:=[.pv (.int 0)]) (zs:=[]) rfl (Ifs_cons k0 (If_t rfl Ifs_nil)) (Mo_t rfl v0) rfl (It_cons (ys:=[]) (zs:=[]) rfl (Ifs_cons k1 (If_f rfl)) (Mo_f rfl) rfl It_nil)
 | true =>
  rw [hv] at k0 k1
  exact It_cons (ys:=[]) (zs:=[.pv (.int 1)]) rfl (Ifs_cons k0 (If_f rfl)) (Mo_f rfl) rfl (It_cons (ys:=[.pv (.int 1)]) (zs:=[]) rfl (Ifs_cons k1 (If_t rfl Ifs_nil)) (Mo_t rfl v1) rfl It_nil)
theorem rb1_ok {r:List Bool} {e:En} (hr:r.length≤90) (he:e.Ok r.length) (g:RowG Γ r) (h15:Γ.get 15=some (.pv (.int r.length))) (h7:s.heap[7]? = some (.dictI lots)) (hq:At s lots r.length e) :
  evSs (ctxOf P (callFn P (d+5))) row_b1 Γ s=some ((.next,(Γ.put 71 (.pv (.lst [.int (b2i (e.val r))]))).put 42 (.pv (.lst (intsAV (rowI (r++[e.val r])))))),s):=by
 have e1:rowI r++[b2i (e.val r)]=rowI (r++[e.val r]):=by rw [rowI,rowI,List.map_append]; rfl
 have hadd:=row_add (R:=rowI r) (by rw [rowI_len]; exact Nat.le_trans hr (by decide)) (b2i (e.val r)) s
 rw [e1] at hadd
 refine S_next (fit_ok hr he g h15 h7 hq) (SIf (s1:=s) (c:=false) ?_ (T_f rfl (SA ?_ rfl S_nil)))
 ·apply E_cmp
  ·apply E_bi; apply Es_cons; exact E_var get_eq; exact Es_nil; exact rfl
  ·exact rfl
  ·exact rfl
 ·apply E_bin
  ·exact E_var (get_ne rfl g.g42)
  ·exact E_var get_eq
  ·exact hadd
theorem row_loop (h7:s.heap[7]? = some (.dictI lots)):∀ (es1:List En) {k:Nat} {r:List Bool} {Γ:Env},EsOk k es1→r.length=k→k+es1.length≤90→(∀ i e,es1[i]? = some e→At s lots (k+i) e)→RowG Γ r →
  ∃ Γ',forItems [] (fun x Γ s=>ob (bindT (.nm 15) x Γ) fun Γ'=>evSs (ctxOf P (callFn P (d+5))) row_b1 Γ' s) (upI k es1.length) Γ s=some ((.next,Γ'),s)∧RowG Γ' (rowsOf es1 r)
 | [],k,r,Γ,_,_,_,_,g=>⟨Γ,rfl,g⟩
 | e::r1,k,r,Γ,hok,hrl,hlen,hat,g=>by
  subst hrl
  have hlen2:r.length+1+r1.length≤90:=Nat.le_trans (Nat.le_of_eq (Nat.succ_add_eq_add_succ ..)) hlen
  have b:=rb1_ok (d:=d) (s:=s) (lots:=lots) (r:=r) (e:=e) (Γ:=Γ.put 15 (.pv (.int r.length))) (Nat.le_trans (Nat.le_add_right ..) hlen) hok.1 ⟨get_ne rfl g.g73,get_ne rfl g.g42⟩ get_eq h7 (hat 0 e rfl)
  obtain ⟨Γ',c1,c2⟩:=row_loop h7 r1 (k:=r.length+1) (r:=r++[e.val r]) (Γ:=((Γ.put 15 (.pv (.int r.length))).put 71 (.pv (.lst [.int (b2i (e.val r))]))).put 42 (.pv (.lst (intsAV (rowI (r++[e.val r])))))) hok.2 List.length_append hlen2 (fun i y hy=>by have:=hat (i+1) y hy; rwa [← Nat.succ_add_eq_add_succ] at this) ⟨get_ne rfl (get_ne rfl (get_ne rfl g.g73)),get_eq⟩
  exact ⟨Γ',F_step rfl b (KF_next rfl c1),c2⟩
theorem I_range2 {C:Ctx} {a b:CE} {s1 s2:St} {m n:Int} (h:evE C Γ a s=some (.pv (.int m),s1)) (h':evE C Γ b s1=some (.pv (.int n),s2)) (h2:(decide (-1000≤m)&&decide (m≤1000)&&decide (-1000≤n)&&decide (n≤big))=true):evI C Γ (.range2 a b) s=some (⟨(intsAV (rangeI m n)).map .pv,[]⟩,s2):=by
 show bnd (evE C Γ a s) _=_; rw [h]; show bnd (evE C Γ b s1) _=_; rw [h']; exact if_pos h2
theorem row_ok {es:List En} {r0:List Bool} (hr:r0.length=3) (hok:EsOk 3 es) (hl:es.length≤12) (h7:s.heap[7]? = some (.dictI lots)) (hat:∀ i e,es[i]? = some e→At s lots (3+i) e) :
  callFn P (d+6) 26 [.pv (.int (3+es.length:Nat)),.ref 7,.pv (.lst (intsAV (rowI r0)))] s=some (.pv (.lst (intsAV (rowI (rowsOf es r0)))),s):=by
 obtain ⟨h,st⟩:=s
 obtain ⟨Γ',c1,c2⟩:=row_loop (d:=d) h7 es (k:=3) (r:=r0) (Γ:=[(70,.pv (.int (3+es.length:Nat))),(73,.ref 7),(42,.pv (.lst (intsAV (rowI r0))))]) hok hr (Nat.le_trans (Nat.add_le_add_left hl 3) (by decide)) hat ⟨rfl,rfl⟩
 have hb:(decide ((-1000:Int)≤3)&&decide ((3:Int)≤1000)&&decide (-1000≤((3+es.length:Nat):Int))&&decide (((3+es.length:Nat):Int)≤(big:Int)))=true:=by
  rw [decide_eq_true (show -1000≤((3+es.length:Nat):Int) by omega),decide_eq_true (show ((3+es.length:Nat):Int)≤(big:Int) from Int.ofNat_le.mpr (Nat.le_trans (Nat.add_le_add_left hl 3) (by decide)))]; rfl
 apply call_ret f26 rfl rfl rfl
 show evSs _ row_b2 _ _=_
 refine S_next (S_for (src:=⟨(intsAV (rangeI 3 ((3+es.length:Nat):Int))).map .pv,[]⟩) (I_range2 rfl rfl hb) ?_) (SR (E_var c2.g42))
 show forItems [] _ ((intsAV (rangeI 3 ((3+es.length:Nat):Int))).map .pv) _ _=_
 rw [range_up]; exact c1
end
noncomputable def tval (r:List Bool):Tr→Bool
 | .b v=>v
 | .bit n s=>r.getD n false == s
noncomputable def tblV (w:Nat) (a b:Bool):Bool:=match w with
 | 0=>a&&b
 | 1=>a||b
 | 2=>!a||b
 | 3=>a||!b
 | 4=>a == b
 | _=>a != b
theorem rows_app (es:List En) (e:En) (r:List Bool):rowsOf (es++[e]) r=rowsOf es r++[e.val (rowsOf es r)]:=by simp [rowsOf]
theorem rows_len:∀ (es:List En) (r:List Bool),(rowsOf es r).length=r.length+es.length
 | [],r=>rfl
 | e::es,r=>by
  have:=rows_len es (r++[e.val r])
  simp only [rowsOf,List.foldl_cons] at this ⊢
  rw [this]; simp; exact Nat.add_right_comm _ _ _
theorem getD_app {r x:List Bool} {n:Nat} (h:n<r.length):(r++x).getD n false=r.getD n false:=by
 rw [List.getD_eq_getElem?_getD,List.getD_eq_getElem?_getD,List.getElem?_append_left h]
theorem val_app {r x:List Bool} {e:En} (he:e.Ok r.length):e.val (r++x)=e.val r:=by
 cases e with
 | or i j=>obtain ⟨h1,h2⟩:=he; simp only [En.val]; rw [getD_app (Nat.lt_trans h1 h2),getD_app h2]
 | xor i j=>obtain ⟨h1,h2⟩:=he; simp only [En.val]; rw [getD_app (Nat.lt_trans h1 h2),getD_app h2]
 | all i s j t=>obtain ⟨h1,h2,h3⟩:=he; simp only [En.val]; rw [getD_app (Nat.lt_trans h1 h2),getD_app h2]
theorem rows_pre:∀ (es:List En) (r:List Bool),∃ x,rowsOf es r=r++x
 | [],r=>⟨[],by simp [rowsOf]⟩
 | e::es,r=>by
  obtain ⟨x,h⟩:=rows_pre es (r++[e.val r])
  refine ⟨[e.val r]++x,?_⟩
  simp only [rowsOf,List.foldl_cons] at h ⊢
  rw [h,List.append_assoc]
theorem rows_find {e:En}:∀ {es:List En} {k n:Nat} {r:List Bool},r.length=k→EsOk k es→findE e k es=some n→(rowsOf es r).getD n false=e.val (rowsOf es r)
 | [],k,n,r,_,_,h=>by simp [findE] at h
 | x::es,k,n,r,hr,hok,h=>by
  simp only [findE] at h
  have hx:rowsOf (x::es) r=rowsOf es (r++[x.val r]):=by simp [rowsOf]
  split at h
  ·rename_i hxe
   cases h
   subst hxe
   obtain ⟨y,hy⟩:=rows_pre es (r++[x.val r])
   rw [hx,hy,List.append_assoc,val_app (by rw [hr]; exact hok.1)]
   rw [List.getD_eq_getElem?_getD,List.getElem?_append_right (Nat.le_of_eq hr),hr]
   simp
  ·rw [hx]
   exact rows_find (by simp [hr]) hok.2 h
theorem tval_con (r:List Bool) (t:Tr):tval r t.con = !tval r t:=by
 cases t with
 | b v=>rfl
 | bit n s=>simp only [tval,Tr.con]; cases r.getD n false <;> cases s <;> rfl
theorem tval_app {r x:List Bool} {t:Tr} (h:t.under r.length):tval (r++x) t=tval r t:=by
 cases t with
 | b v=>rfl
 | bit n s=>simp only [tval]; rw [getD_app h]
section
variable {es:List En} {r0:List Bool}
theorem once_val (hr:r0.length=3) (hok:EsOk 3 es) {e:En} (he:e.Ok (3+es.length)):(rowsOf (onceE e es).2 r0).getD (onceE e es).1 false=e.val (rowsOf es r0):=by
 unfold onceE
 cases h:findE e 3 es with
 | some n=>exact rows_find hr hok h
 | none =>
  have hl:=rows_len es r0
  dsimp only
  rw [rows_app,List.getD_eq_getElem?_getD,List.getElem?_append_right (Nat.le_of_eq (hl.trans (congrArg (· + es.length) hr)))]
  have:3+es.length - (rowsOf es r0).length=0:=Nat.sub_eq_zero_of_le (Nat.le_of_eq (hl.trans (congrArg (· + es.length) hr)).symm)
  rw [this]; rfl
theorem ent_val {r:List Bool} {n m:Nat} {s t:Bool}:((ent n s m t).val r == (s||t))=((r.getD n false == s)&&(r.getD m false == t)):=by
 unfold ent
 cases s <;> cases t <;> simp only [Bool.or_false,Bool.or_true,Bool.false_eq_true,if_false,if_true,En.val] <;> cases r.getD n false <;> cases r.getD m false <;> rfl
theorem all2_val (hr:r0.length=3) (hok:EsOk 3 es) {a b:Tr} (ha:a.under (3+es.length)) (hb:b.under (3+es.length)):tval (rowsOf (all2 es a b).2 r0) (all2 es a b).1=(tval (rowsOf es r0) a&&tval (rowsOf es r0) b):=by
 cases a with
 | b x=>cases x <;> simp [all2,tval]
 | bit n s =>
  cases b with
  | b v=>cases v <;> simp [all2,tval]
  | bit m t =>
   by_cases h:n=m
   ·subst h
    cases s <;> cases t <;> simp [all2,tval]
   ·simp only [all2,if_neg h,tval]
    by_cases hl:n<m
    ·simp only [if_pos hl]
     rw [once_val hr hok (ent_ok hl hb),ent_val]
    ·simp only [if_neg hl]
     rw [once_val hr hok (ent_ok (Nat.lt_of_le_of_ne (Nat.le_of_not_lt hl) (Ne.symm h)) ha),Bool.or_comm s t,ent_val,Bool.and_comm]
theorem unl_val (hr:r0.length=3) (hok:EsOk 3 es) {a b:Tr} (ha:a.under (3+es.length)) (hb:b.under (3+es.length)):tval (rowsOf (unl es a b).2 r0) (unl es a b).1=(tval (rowsOf es r0) a != tval (rowsOf es r0) b):=by
 cases a with
 | b x =>
  simp only [unl]
  cases x
  ·simp [tval]
  ·simp only [if_true,tval_con]; show (!tval (rowsOf es r0) b)=(true != tval (rowsOf es r0) b); cases tval (rowsOf es r0) b <;> rfl
 | bit n s =>
  cases b with
  | b v=>cases v <;> cases s <;> simp [unl,tval] <;> cases (rowsOf es r0)[n]?.getD false <;> rfl
  | bit m t =>
   by_cases h:n=m
   ·subst h
    simp only [unl,if_true,tval]
    cases s <;> cases t <;> cases (rowsOf es r0).getD n false <;> rfl
   ·simp only [unl,if_neg h,tval]
    by_cases hl:n<m
    ·simp only [if_pos hl]
     rw [once_val hr hok (e:=.xor n m) ⟨hl,hb⟩]
     simp only [En.val]
     cases s <;> cases t <;> cases (rowsOf es r0).getD n false <;> cases (rowsOf es r0).getD m false <;> rfl
    ·simp only [if_neg hl]
     rw [once_val hr hok (e:=.xor m n) ⟨Nat.lt_of_le_of_ne (Nat.le_of_not_lt hl) (Ne.symm h),ha⟩]
     simp only [En.val]
     cases s <;> cases t <;> cases (rowsOf es r0).getD n false <;> cases (rowsOf es r0).getD m false <;> rfl
theorem conn_val (hr:r0.length=3) (hok:EsOk 3 es) {a b:Tr} (ha:a.under (3+es.length)) (hb:b.under (3+es.length)):∀ w:Nat,tval (rowsOf (conn es w a b).2 r0) (conn es w a b).1=tblV w (tval (rowsOf es r0) a) (tval (rowsOf es r0) b)
 | 0=>all2_val hr hok ha hb
 | 1=>by
  simp only [conn,tval_con]
  rw [all2_val hr hok (con_under ha) (con_under hb),tval_con,tval_con]
  simp only [tblV]; cases tval (rowsOf es r0) a <;> cases tval (rowsOf es r0) b <;> rfl
 | 2=>by
  simp only [conn,tval_con]
  rw [all2_val hr hok (con_under (con_under ha)) (con_under hb),con_con,tval_con]
  simp only [tblV]; cases tval (rowsOf es r0) a <;> cases tval (rowsOf es r0) b <;> rfl
 | 3=>by
  simp only [conn,tval_con]
  rw [all2_val hr hok (con_under ha) (con_under (con_under hb)),con_con,tval_con]
  simp only [tblV]; cases tval (rowsOf es r0) a <;> cases tval (rowsOf es r0) b <;> rfl
 | 4=>by
  simp only [conn,tval_con]
  rw [unl_val hr hok ha hb]
  simp only [tblV]; cases tval (rowsOf es r0) a <;> cases tval (rowsOf es r0) b <;> rfl
 | n+5=>by
  have:=unl_val hr hok ha hb
  simpa [conn,tblV] using this
end
noncomputable def stepW (ws:List Bool) (l:Lap):List Bool:=ws++[tblV l.w (ws.getD l.i0 false != l.u0) (ws.getD l.i1 false != l.u1)]
noncomputable def wsOf (r0:List Bool) (ls:List Lap):List Bool:=ls.foldl stepW [r0.getD 0 false,r0.getD 1 false,r0.getD 2 false,true]
theorem once_rows {e:En} {es:List En} {r0:List Bool}:∃ x,rowsOf (onceE e es).2 r0=rowsOf es r0++x:=by
 unfold onceE
 cases findE e 3 es with
 | some n=>exact ⟨[],by simp⟩
 | none=>exact ⟨_,rows_app es e r0⟩
theorem conn_rows {es:List En} {r0:List Bool} (a b:Tr) (w:Nat):∃ x,rowsOf (conn es w a b).2 r0=rowsOf es r0++x:=by
 have hall:∀ a b:Tr,∃ x,rowsOf (all2 es a b).2 r0=rowsOf es r0++x:=by
  intro a b
  cases a with
  | b x=>exact ⟨[],by simp [all2]⟩
  | bit n s =>
   cases b with
   | b v=>exact ⟨[],by simp [all2]⟩
   | bit m t =>
    by_cases h:n=m
    ·exact ⟨[],by simp [all2,h]⟩
    ·simp only [all2,if_neg h]; exact once_rows
 have hunl:∀ a b:Tr,∃ x,rowsOf (unl es a b).2 r0=rowsOf es r0++x:=by
  intro a b
  cases a with
  | b x=>exact ⟨[],by simp [unl]⟩
  | bit n s =>
   cases b with
   | b v=>exact ⟨[],by simp [unl]⟩
   | bit m t =>
    by_cases h:n=m
    ·exact ⟨[],by simp [unl,h]⟩
    ·simp only [unl,if_neg h]; exact once_rows
 match w with
 | 0=>exact hall _ _
 | 1=>exact hall _ _
 | 2=>exact hall _ _
 | 3=>exact hall _ _
 | 4=>exact hunl _ _
 | _+5=>exact hunl _ _
theorem pick_val (r:List Bool) (t:Tr) (u:Bool):tval r (pick t u)=(tval r t != u):=by
 unfold pick
 cases u
 ·simp
 ·simp [tval_con]
theorem getD_map {r:List Bool} {pool:List Tr} {ws:List Bool} (h:pool.map (tval r)=ws) {i:Nat} (hi:i<pool.length):tval r (pool.getD i (.b true))=ws.getD i false:=by
 subst h
 rw [List.getD_eq_getElem?_getD,List.getD_eq_getElem?_getD,List.getElem?_map,List.getElem?_eq_getElem hi]
 rfl
theorem worth_step {r0:List Bool} (hr:r0.length=3) {n:Nat} {p:PS} {ws:List Bool} (hp:PoolOk n p) (hok:EsOk 3 p.2) (hw:p.1.map (tval (rowsOf p.2 r0))=ws) {l:Lap} (hl:LapOk (4+n) l) :
  (stepL p l).1.map (tval (rowsOf (stepL p l).2 r0))=stepW ws l:=by
 have hua:=pick_under (u:=l.u0) (getD_under hp.under l.i0)
 have hub:=pick_under (u:=l.u1) (getD_under hp.under l.i1)
 have hv:=conn_val hr hok hua hub l.w
 obtain ⟨x,hx⟩:=conn_rows (es:=p.2) (r0:=r0) (pick (p.1.getD l.i0 (.b true)) l.u0) (pick (p.1.getD l.i1 (.b true)) l.u1) l.w
 simp only [stepL,ones,twos,stepW,List.map_append,List.map_cons,List.map_nil]
 rw [hv,pick_val,pick_val,getD_map hw (by rw [hp.len]; exact hl.2.1),getD_map hw (by rw [hp.len]; exact hl.2.2)]
 congr 1
 rw [← hw]
 refine List.map_congr_left fun t ht=>?_
 rw [hx,tval_app]
 rw [rows_len,hr]
 exact hp.under t ht
theorem worth_run {r0:List Bool} (hr:r0.length=3):∀ (ls:List Lap) {n:Nat} {p:PS} {ws:List Bool},PoolOk n p→EsOk 3 p.2→p.1.map (tval (rowsOf p.2 r0))=ws→LapsOk (4+n) ls →
  (ls.foldl stepL p).1.map (tval (rowsOf (ls.foldl stepL p).2 r0))=ls.foldl stepW ws
 | [],_,_,_,_,_,h,_=>h
 | l::r,n,p,ws,hp,hok,h,hl=>worth_run hr r (pool_step hp l) (conn_es hok (pick_under (getD_under hp.under l.i0)) (pick_under (getD_under hp.under l.i1)) l.w) (worth_step hr hp hok h hl.1) ((Nat.add_assoc _ _ _:4+n+1=4+(n+1))▸hl.2)
theorem worth_ok {r0:List Bool} (hr:r0.length=3) {ls:List Lap} (hl:LapsOk 4 ls):(runL ls).1.map (tval (rowsOf (runL ls).2 r0))=wsOf r0 ls:=by
 refine worth_run hr ls (n:=0) pool_0 trivial ?_ hl
 match r0,hr with
 | [a,b,c],_=>cases a <;> cases b <;> cases c <;> rfl
noncomputable def bits (t:Nat):List Bool:=[t % 2 == 1,t / 2 % 2 == 1,t / 4 == 1]
theorem bits_len (t:Nat):(bits t).length=3:=rfl
theorem b2i_eq (x:Bool):(b2i x == 1)=x:=by cases x <;> rfl
theorem so_ok (d:Nat) {r:List Bool} {t:Tr} (hr:r.length≤90) (ht:t.under r.length) (s:St):callFn P (d+1) 27 [.pv t.pv,.pv (.lst (intsAV (rowI r)))] s=some (.pv (.bool (tval r t)),s):=by
 obtain ⟨h,st⟩:=s
 cases t with
 | b v=>exact call_ret f27 rfl rfl rfl (SR (E_ife (c:=true) rfl (Br_t rfl rfl)))
 | bit n s' =>
  have hn:n<r.length:=ht
  have h0:(rowI r)[n]? = some (b2i (r.getD n false)):=by
   rw [List.getD_eq_getElem?_getD,List.getElem?_eq_getElem hn,rowI,List.getElem?_map,List.getElem?_eq_getElem hn]; rfl
  have h1:=sub_row (s:=⟨h,st⟩) (Nat.le_trans (Nat.le_of_eq rowI_len) (Nat.le_trans hr (by decide))) h0
  rw [show tval r (.bit n s')=((b2i (r.getD n false) == 1) == s') from (congrArg (· == s') (b2i_eq _)).symm]
  generalize b2i (r.getD n false)=x at h1 ⊢
  apply call_ret f27 rfl rfl rfl
  refine SR (E_ife (s1:=⟨h,st⟩) (c:=false) rfl (Br_f rfl ?_))
  apply E_cmp
  ·apply E_cmp
   ·apply E_sub; exact rfl; exact rfl; exact h1
   ·exact rfl
   ·exact rfl
  ·exact rfl
  ·exact rfl
section
variable {d:Nat} {s:St} {lots:List (Int × AV)} {Γ:Env}
noncomputable def wsA (ws:List Bool):AObj:=.list (ws.map fun b=>.pv (.bool b))
theorem bits_mod:∀ t:Nat,t<8→rowI (bits t)=[Int.fmod t 2,Int.fmod (Int.fdiv t 2) 2,Int.fdiv t 4]:=by decide
theorem bits_eq:∀ t:Nat,t<8→[Int.fmod t 2 == 1,Int.fmod (Int.fdiv t 2) 2 == 1,Int.fdiv t 4 == 1]=bits t:=by decide
theorem E_mod {C:Ctx} {a:CE} {v:Int} (h:evE C Γ a s=some (.pv (.int v),s)):evE C Γ (.bin .mod false a (.int 2)) s=some (.pv (.int (v.fmod 2)),s):=E_bin h rfl rfl
theorem E_div {C:Ctx} {a:CE} {v:Int} (h:evE C Γ a s=some (.pv (.int v),s)) {k:Int} (hk:(k=0)=False) (hl:(k.natAbs<1073741824)=True):evE C Γ (.bin .fdiv false a (.int k)) s=some (.pv (.int (v.fdiv k)),s):=by
 refine E_bin h rfl ?_
 show ob (if k=0 then none else if k.natAbs<1073741824 then some (v.fdiv k) else none) _=_
 rw [if_neg (by rw [hk]; exact id),if_pos (by rw [hl]; trivial)]; rfl
theorem E_is1 {C:Ctx} {a:CE} {v:Int} (h:evE C Γ a s=some (.pv (.int v),s)):evE C Γ (.cmp .eq a (.int 1)) s=some (.pv (.bool (v == 1)),s):=E_cmp h rfl rfl
theorem st13 {t:Nat} {es:List En} (ht:t<8) (h66:Γ.get 66=some (.ref 1)) (h73:Γ.get 73=some (.ref 7)) (h91:Γ.get 91=some (.pv (.int t))) (hok:EsOk 3 es) (hl:es.length≤12) (h7:s.heap[7]? = some (.dictI lots)) (hat:∀ i e,es[i]? = some e→At s lots (3+i) e)
  (h1:s.heap[1]? = some (.inst 2 [(30,.ref 2),(31,.ref 5),(57,.pv .none)])) {as:List (Nat × AV)} (h2:s.heap[2]? = some (.inst 0 as)) (h2':(getA 14 as).isNone=true) (hs:callFn P (d+6) 5 [.ref 2] s=some (.pv (.int (3+es.length:Nat)),s)) :
  evS (ctxOf P (callFn P (d+6))) law_s13 Γ s=some ((.next,Γ.put 42 (.pv (.lst (intsAV (rowI (rowsOf es (bits t))))))),s):=by
 have hrow:=row_ok (d:=d) (s:=s) (lots:=lots) (bits_len t) hok hl h7 hat
 rw [bits_mod t ht] at hrow
 have h91:evE (ctxOf P (callFn P (d+6))) Γ (.var 91) s=some (.pv (.int t),s):=E_var h91
 have ha:evE (ctxOf P (callFn P (d+6))) Γ (.attr (.var 66) 30) s=some (.ref 2,s):=E_attr (E_var h66) (by show ob (s.heap[1]?) _=_; rw [h1]; rfl)
 generalize d+6=k at hs hrow h91 ha ⊢
 unfold law_s13
 apply S_assign
 ·apply E_call
  ·apply Es_cons
   ·exact E_meth ha h2 rfl h2' rfl hs
   ·apply Es_cons; exact E_var h73
    apply Es_cons
    ·apply E_lst
     ·apply Es_cons; exact E_mod h91
      apply Es_cons; exact E_mod (E_div h91 (by decide) (by decide))
      apply Es_cons; exact E_div h91 (by decide) (by decide)
      exact Es_nil
     ·exact rfl
    ·exact Es_nil
  ·exact hrow
 ·exact rfl
theorem E_lstN {C:Ctx} {es:CEs} {vs:List AV} {R:Mine.R AV} {s1:St} (h:evEs C Γ es s=some (vs,s1)) (h2:some (s1.new (.list vs))=R):evE C Γ (.list true es) s=R:=by
 show bnd (evEs C Γ es s) _=_; rw [h]; exact h2
theorem st14 {t:Nat} (ht:t<8) (h91:Γ.get 91=some (.pv (.int t))) {C:Ctx} {s2:St} {v:AV} (hn:s.new (wsA (bits t++[true]))=(v,s2)) :
  evS C law_s14 Γ s=some ((.next,Γ.put 92 v),s2):=by
 have h91:evE C Γ (.var 91) s=some (.pv (.int t),s):=E_var h91
 rw [← bits_eq t ht] at hn
 unfold law_s14
 apply S_assign
 ·apply E_lstN
  ·apply Es_cons; exact E_is1 (E_mod h91)
   apply Es_cons; exact E_is1 (E_mod (E_div h91 (by decide) (by decide)))
   apply Es_cons; exact E_is1 (E_div h91 (by decide) (by decide))
   exact rfl
  ·exact congrArg some hn
 ·exact rfl
theorem st_is {l:List PV} {C:Ctx} (h42:Γ.get 42=some (.pv (.lst l))) (s:St) :
  evS C (.ifS (.cmp .is (.var 42) .none) (.cons (.ret (.bool false)) .nil) .nil) Γ s=some ((.next,Γ),s) :=
 S_if (c:=false) (E_cmp (E_var h42) rfl rfl) (B_f rfl S_nil)
end
theorem restOf_at {l:Lap}:∀ {ls:List Lap} {m:Nat},ls[m]? = some l→(restOf ls)[2 * m]? = some (.list [.pv (.int l.i0),.pv (.int l.i1)])∧(restOf ls)[2 * m+1]? = some (.list [.pv (.bool l.u0),.pv (.bool l.u1)])
 | [],m,h=>by cases h
 | x::r,0,h=>by cases h; exact ⟨rfl,rfl⟩
 | x::r,m+1,h=>restOf_at (ls:=r) (m:=m) h
noncomputable def tabP (w:Nat):PV:=.tup [.bool (tblV w false false),.bool (tblV w false true),.bool (tblV w true false),.bool (tblV w true true)]
theorem tab_at {w:Nat} (h:w<6):tablesP[w]? = some (tabP w):=lt6 (p:=fun w=>tablesP[w]? = some (tabP w)) h rfl rfl rfl rfl rfl rfl
theorem tab_map {w:Nat} (h:w<6):(tablesP.map AV.pv)[w]? = some (.pv (tabP w)):=by rw [List.getElem?_map,tab_at h]; rfl
theorem get_ws {ws:List Bool} {i:Nat} (h:i<ws.length):(ws.map fun b=>AV.pv (.bool b))[i]? = some (.pv (.bool (ws.getD i false))):=by
 rw [List.getElem?_map,List.getD_eq_getElem?_getD,List.getElem?_eq_getElem h]; rfl
theorem tab_sub {w:Nat} (a b:Bool) {s:St} (h:(tabP w:PV)=tabP w:=rfl):evSub (.pv (tabP w)) (.pv (.int (2 * (if a then 1 else 0)+(if b then 1 else 0)))) s=some (.pv (.bool (tblV w a b))):=by
 unfold tabP
 cases a <;> cases b <;> rfl
section
variable {s:St} {Γ:Env} {k:Nat}
theorem mul_i {a b:Int} (ha:smallInt a=true) (hb:smallInt b=true):evBin .mul false (.pv (.int a)) (.pv (.int b)) s=some (.pv (.int (a * b)),s):=by
 show ob (if smallInt a&&smallInt b then some (a * b) else none) _=_
 rw [ha,hb]; rfl
theorem I_int {C:Ctx} {a:CE} {b:Bool} (h:evE C Γ a s=some (.pv (.bool b),s)):evE C Γ (.bi .int (.cons a .nil)) s=some (.pv (.int (if b then 1 else 0)),s):=E_bi (Es_cons h Es_nil) rfl
theorem two_b (a b:Bool) {C:Ctx} {x y:CE} (hx:evE C Γ x s=some (.pv (.bool a),s)) (hy:evE C Γ y s=some (.pv (.bool b),s)) :
  evE C Γ (.bin .add false (.bin .mul false (.int 2) (.bi .int (.cons x .nil))) (.bi .int (.cons y .nil))) s=some (.pv (.int (2 * (if a then 1 else 0)+(if b then 1 else 0))),s):=by
 refine E_bin (v:=.pv (.int (2 * (if a then 1 else 0)))) (s1:=s) (E_bin (v:=.pv (.int 2)) (s1:=s) rfl (I_int hx) ?_) (I_int hy) rfl
 have m2:smallInt 2=true:=small_nat (n:=2) (by decide)
 have ma:smallInt (if a then 1 else 0)=true:=by cases a; exact small_nat (n:=0) (by decide); exact small_nat (n:=1) (by decide)
 exact mul_i m2 ma
theorem ask_it {C:Ctx} {ws:List Bool} {w i:Nat} {u:Bool} (hw:s.heap[w]? = some (wsA ws)) (hi:i<ws.length) (hl:ws.length≤50) (h92:Γ.get 92=some (.ref w)) (h85:Γ.get 85=some (.pv (.int i))) (h86:Γ.get 86=some (.pv (.bool u))) :
  evE C Γ (.cmp .ne (.sub (.var 92) (.var 85)) (.var 86)) s=some (.pv (.bool (ws.getD i false != u)),s):=by
 have e:=E_cmp (C:=C) (Γ:=Γ) (s:=s) (o:=.ne) (a:=.sub (.var 92) (.var 85)) (b:=.var 86) (E_sub (E_var h92) (E_var h85) (sub_at hw (at_nat (Nat.lt_of_lt_of_le hi (Nat.le_trans hl (by decide))) (get_ws hi)))) (E_var h86) (Cmp_ne (r:=pyEq (.bool (ws.getD i false)) (.bool u)) rfl)
 rw [tru_ne] at e; exact e
theorem ask_1 {l:Lap} {p q w:Nat} {ws:List Bool} {C:Ctx} (h0:l.i0<ws.length) (h1:l.i1<ws.length) (hws:ws.length≤50) (h83:Γ.get 83=some (.ref p)) (h82:Γ.get 82=some (.ref q)) (h92:Γ.get 92=some (.ref w))
  (hp:s.heap[p]? = some (.list [.pv (.int l.i0),.pv (.int l.i1)])) (hq:s.heap[q]? = some (.list [.pv (.bool l.u0),.pv (.bool l.u1)])) (hw:s.heap[w]? = some (wsA ws)) :
  evS C law_s11 Γ s=some ((.next,(Γ.put 51 (.pv (.bool (ws.getD l.i0 false != l.u0)))).put 52 (.pv (.bool (ws.getD l.i1 false != l.u1)))),s):=by
 unfold law_s11
 have hh:heldOk ([(p,[AV.pv (.int l.i0),.pv (.int l.i1)])]++[(q,[.pv (.bool l.u0),.pv (.bool l.u1)])]) s=true:=held_2 hp hq
 apply S_assign
 ·apply E_comp
  ·apply L_cons
   ·apply I_zip
    ·exact E_var (get_del_ne rfl h83)
    ·exact E_var (get_del_ne rfl h82)
    ·exact src_at hp rfl
    ·exact src_at hq rfl
    ·exact rfl
   ·exact fresh_two (get_del_in rfl) (get_del_in rfl)
   ·exact It_cons rfl Ifs_nil (Mo_t rfl (L_elt (ask_it hw h0 hws (get_ne rfl (get_ne rfl (get_del_ne rfl h92))) (get_ne rfl get_eq) get_eq))) hh (It_cons rfl Ifs_nil (Mo_t rfl (L_elt (ask_it hw h1 hws (get_ne rfl (get_ne rfl (get_del_ne rfl h92))) (get_ne rfl get_eq) get_eq))) hh It_nil)
  ·exact rfl
  ·exact rfl
 ·exact rfl
theorem ask_2 {v w:Nat} {ws:List Bool} {a b:Bool} (hv:v<6) (hws:ws.length≤50) (h64:Γ.get 64=some (.pv (.int v))) (h92:Γ.get 92=some (.ref w)) (h51:Γ.get 51=some (.pv (.bool a))) (h52:Γ.get 52=some (.pv (.bool b))) (hw:s.heap[w]? = some (wsA ws)) :
  evS (ctxOf P (callFn P k)) law_s12 Γ s=some ((.next,Γ),s.set w (wsA (ws++[tblV v a b]))):=by
 have e:∀ c,AObj.list ((ws.map fun b=>AV.pv (.bool b))++[.pv (.bool c)])=wsA (ws++[c]):=fun c=>by rw [wsA,List.map_append]; rfl
 rw [← e]
 unfold law_s12
 apply S_expr
 ·apply E_bm
  ·exact E_var h92
  ·exact bm_at hw rfl
  ·apply Es_cons
   ·apply E_sub
    ·apply E_sub
     ·exact rfl
     ·exact E_var h64
     ·exact sub_tup <| at_nat (Nat.lt_trans hv (by decide)) (tab_map hv)
    ·exact two_b a b (E_var h51) (E_var h52)
    ·exact tab_sub a b
   ·exact Es_nil
  ·exact app_at hw rfl (decide_eq_true (by rw [List.length_map]; exact Nat.lt_of_le_of_lt hws (by decide)))
end
theorem stepW_len (ws:List Bool) (l:Lap):(stepW ws l).length=ws.length+1:=List.length_append
noncomputable def Asks (rest:List AObj) (m:Nat) (ls:List Lap):Prop:=∀ k l,ls[k]? = some l→rest[2 * (m+k)]? = some (.list [.pv (.int l.i0),.pv (.int l.i1)])∧rest[2 * (m+k)+1]? = some (.list [.pv (.bool l.u0),.pv (.bool l.u1)])
structure AskG (Γ:Env) (r:Nat) (row:AV):Prop where
 n:Names Γ
 g92:Γ.get 92=some (.ref r)
 g42:Γ.get 42=some row
theorem AskG.put {Γ:Env} {r:Nat} {row:AV} (h:AskG Γ r row) {i:Nat} {v:AV} (h1:(i == 61||i == 66||i == 76||i == 73||i == 79)=false:=by rfl) (h2:(i == 92)=false:=by rfl) (h3:(i == 42)=false:=by rfl):AskG (Γ.put i v) r row :=
 ⟨h.n.put h1,get_ne h2 h.g92,get_ne h3 h.g42⟩
section
variable {d:Nat} {cells:List Int} {spot:Nat} {es:List En} {asked:List AV} {lots:List (Int × AV)} {pool:List Tr} {rest:List AObj}
theorem ls_keep {x:AObj} {p:Nat} {o:AObj} (h:rest[p]? = some o):(LS cells spot es asked lots pool (rest++[x]))[p+9]? = some o:=by
 rw [ls_rest,List.getElem?_append_left (List.getElem?_eq_some_iff.mp h).1]; exact h
theorem ask_ok {row:AV} {l:Lap} {p q:Nat} {ws:List Bool} {Γ:Env} (hw:l.w<6) (h0:l.i0<ws.length) (h1:l.i1<ws.length) (hws:ws.length≤50) (g:AskG Γ (rest.length+9) row)
  (hp:rest[p]? = some (.list [.pv (.int l.i0),.pv (.int l.i1)])) (hq:rest[q]? = some (.list [.pv (.bool l.u0),.pv (.bool l.u1)])) :
  ∃ Γ',evSs (ctxOf P (callFn P (d+6))) (.cons law_s11 (.cons law_s12 .nil)) (((Γ.put 64 (.pv (.int l.w))).put 83 (.ref (p+9))).put 82 (.ref (q+9))) ⟨LS cells spot es asked lots pool (rest++[wsA ws]),false⟩=some ((.next,Γ'),⟨LS cells spot es asked lots pool (rest++[wsA (stepW ws l)]),false⟩)∧AskG Γ' (rest.length+9) row:=by
 have g1:=((g.put (i:=64) (v:=.pv (.int l.w))).put (i:=83) (v:=.ref (p+9))).put (i:=82) (v:=.ref (q+9))
 have e1:=ask_1 (C:=ctxOf P (callFn P (d+6))) (s:=⟨LS cells spot es asked lots pool (rest++[wsA ws]),false⟩) h0 h1 hws (get_ne rfl get_eq) get_eq g1.g92 (ls_keep hp) (ls_keep hq) ls_last
 have g2:=(g1.put (i:=51) (v:=.pv (.bool (ws.getD l.i0 false != l.u0)))).put (i:=52) (v:=.pv (.bool (ws.getD l.i1 false != l.u1)))
 have e2:=ask_2 (k:=d+6) (s:=⟨LS cells spot es asked lots pool (rest++[wsA ws]),false⟩) hw hws (get_ne rfl (get_ne rfl (get_ne rfl (get_ne rfl get_eq)))) g2.g92 (get_ne rfl get_eq) get_eq ls_last
 refine ⟨_,S_next e1 (S_next e2 ?_),g2⟩
 show some (((Flow.next,_),(⟨(LS cells spot es asked lots pool (rest++[wsA ws])).set (rest.length+9) _,false⟩:St)):(Flow × Env) × St)=_
 rw [ls_setlast]; rfl
theorem asks_loop {row:AV}:∀ (ls:List Lap) {m:Nat} {ws:List Bool} {Γ:Env},LapsOk ws.length ls→ws.length+ls.length≤40→Asks rest m ls→AskG Γ (rest.length+9) row →
  ∃ Γ',forItems [(6,asked)] (fun x Γ s=>ob (bindT (.tup (.cons (.nm 64) (.cons (.nm 83) (.cons (.nm 82) .nil)))) x Γ) fun Γ'=>evSs (ctxOf P (callFn P (d+6))) (.cons law_s11 (.cons law_s12 .nil)) Γ' s) (askF (2 * m+9) ls) Γ ⟨LS cells spot es asked lots pool (rest++[wsA ws]),false⟩=some ((.next,Γ'),⟨LS cells spot es asked lots pool (rest++[wsA (ls.foldl stepW ws)]),false⟩)∧AskG Γ' (rest.length+9) row
 | [],m,ws,Γ,_,_,_,g=>⟨Γ,rfl,g⟩
 | l::r,m,ws,Γ,hok,hlen,hat,g=>by
  have hlen2:ws.length+1+r.length≤40:=Nat.le_trans (Nat.le_of_eq (Nat.succ_add_eq_add_succ ..)) hlen
  obtain ⟨Γ1,e1,g1⟩:=ask_ok (d:=d) (cells:=cells) (spot:=spot) (es:=es) (asked:=asked) (lots:=lots) (pool:=pool) (p:=2 * m) (q:=2 * m+1) hok.1.1 hok.1.2.1 hok.1.2.2 (Nat.le_trans (Nat.le_add_right ..) (Nat.le_trans hlen (by decide))) g (hat 0 l rfl).1 (hat 0 l rfl).2
  obtain ⟨Γ',c1,c2⟩:=asks_loop (row:=row) r (m:=m+1) (ws:=stepW ws l) (Γ:=Γ1) (by rw [stepW_len]; exact hok.2) (by rw [stepW_len]; exact hlen2) (fun k y hy=>by rw [Nat.succ_add_eq_add_succ]; exact hat (k+1) y hy) g1
  exact ⟨Γ',F_step (Γ1:=((Γ.put 64 (.pv (.int l.w))).put 83 (.ref (2 * m+9))).put 82 (.ref (2 * m+1+9))) (by rw [show 2 * m+1+9=2 * m+9+1 from Nat.add_right_comm ..]; rfl) e1 (KF_next (held_at ls_6) c1),c2⟩
theorem st_15 {row:AV} {ls:List Lap} {ws:List Bool} {Γ:Env} (hok:LapsOk ws.length ls) (hlen:ws.length+ls.length≤40) (hat:Asks rest 0 ls) (g:AskG Γ (rest.length+9) row) :
  ∃ Γ',evS (ctxOf P (callFn P (d+6))) law_s15 Γ ⟨LS cells spot es (askF 9 ls) lots pool (rest++[wsA ws]),false⟩=some ((.next,Γ'),⟨LS cells spot es (askF 9 ls) lots pool (rest++[wsA (ls.foldl stepW ws)]),false⟩)∧AskG Γ' (rest.length+9) row:=by
 obtain ⟨Γ',c1,c2⟩:=asks_loop (d:=d) (cells:=cells) (spot:=spot) (es:=es) (asked:=askF 9 ls) (lots:=lots) (pool:=pool) (rest:=rest) ls (m:=0) hok hlen hat g
 have hb:(askF 9 ls).length≤big:=by rw [askF_len]; exact Nat.le_trans (Nat.le_add_left ..) (Nat.le_trans hlen (by decide))
 exact ⟨Γ',S_for (I_it (E_var g.n.asked) (src_at ls_6 (decide_eq_true hb))) c1,c2⟩
theorem depth_b:∀ l:List Bool,depthPs (l.map PV.bool)=0
 | []=>rfl
 | a::r=>by show max 0 (depthPs (r.map PV.bool))=0; rw [depth_b r]; rfl
theorem so_it {r:List Bool} {s:St} {held:List (Nat × List AV)} (hr:r.length≤90) (hh:heldOk held s=true) {Γ:Env} (h42:Γ.get 42=some (.pv (.lst (intsAV (rowI r))))):∀ {pool:List Tr},(∀ t ∈ pool,t.under r.length) →
  itL (ctxOf P (callFn P (d+6))) Γ (.nm 23) .nil (.elt (.call 27 (.cons (.var 23) (.cons (.var 42) .nil)))) held (pool.map fun t=>.pv t.pv) s=some (((pool.map (tval r)).map PV.bool).map .pv,s)
 | [],_=>It_nil
 | t::q,h=>It_cons (ys:=[.pv (.bool (tval r t))]) rfl Ifs_nil (Mo_t rfl (L_elt (E_call (Es_cons (E_var get_eq) (Es_cons (E_var (get_ne rfl h42)) Es_nil)) (so_ok (d+5) hr (h t (.head _)) s)))) hh (so_it hr hh h42 fun x hx=>h x (.tail _ hx))
theorem st_16 {r:List Bool} {Γ:Env} (hr:r.length≤90) (hu:∀ t ∈ pool,t.under r.length) (hpl:pool.length≤50) (g:AskG Γ (rest.length+9) (.pv (.lst (intsAV (rowI r))))) :
  evS (ctxOf P (callFn P (d+6))) law_s16 Γ ⟨LS cells spot es asked lots pool (rest++[wsA (pool.map (tval r))]),false⟩=some ((.next,Γ),⟨LS cells spot es asked lots pool (rest++[wsA (pool.map (tval r))]),false⟩):=by
 have hb:(pool.map fun t=>AV.pv t.pv).length≤big:=by rw [List.length_map]; exact Nat.le_trans hpl (by decide)
 have hb2:(((pool.map (tval r)).map PV.bool).map AV.pv).length≤big:=by rw [List.length_map,List.length_map,List.length_map]; exact Nat.le_trans hpl (by decide)
 have e:=so_it (d:=d) (held:=[(8,pool.map fun t=>.pv t.pv)]) (Γ:=Env.del [23] Γ) (s:=⟨LS cells spot es asked lots pool (rest++[wsA (pool.map (tval r))]),false⟩) hr (held_at ls_8) (get_del_ne rfl g.g42) hu
 have e1:=E_comp (xs:=[23]) (L_cons (t:=.nm 23) (I_it (E_var (get_del_ne rfl g.n.pool)) (src_at ls_8 (decide_eq_true hb))) (fresh_nm (get_del_in rfl)) e) (decide_eq_true hb2) mkLst_map
 have hw:asPV (⟨LS cells spot es asked lots pool (rest++[wsA (pool.map (tval r))]),false⟩:St) (.ref (rest.length+9))=some (.lst ((pool.map (tval r)).map PV.bool)):=by
  show (match (LS cells spot es asked lots pool (rest++[wsA (pool.map (tval r))]))[rest.length+9]? with | some (.list l)=>(toPVs l).map PV.lst | _=>none)=_
  rw [ls_last]
  show (toPVs ((pool.map (tval r)).map fun b=>AV.pv (.bool b))).map PV.lst=_
  rw [show ((pool.map (tval r)).map fun b=>AV.pv (.bool b))=((pool.map (tval r)).map PV.bool).map AV.pv by rw [List.map_map (f:=PV.bool)]; rfl,toPVs_map]; rfl
 refine S_if (c:=false) (E_cmp e1 (E_var g.g92) (Cmp_ne (r:=true) ?_)) (B_f rfl S_nil)
 show ob (asPV _ (.ref (rest.length+9))) (fun q=>if depthP (.lst ((pool.map (tval r)).map PV.bool))<20||decide (depthP q<20) then some (pyEq (.lst ((pool.map (tval r)).map PV.bool)) q) else none)=_
 rw [hw]
 show (if (decide (depthPs ((pool.map (tval r)).map PV.bool)+1<20)||_)=true then some _ else none)=_
 rw [depth_b,pyE_self]; rfl
end
theorem LInv.more {es0:List En} {lots:List (Int × AV)} {rest0 rest:List AObj} {x:AObj} (h:LInv es0 lots rest0 rest):LInv es0 lots rest0 (rest++[x]):=by
 refine ⟨fun i e he=>?_,h.none,h.len,fun p hp=>?_,Nat.le_trans h.le (by rw [List.length_append]; exact Nat.le_add_right ..)⟩
 ·obtain ⟨q,h1,h2⟩:=h.at_ i e he
  exact ⟨q,h1,by rw [List.getElem?_append_left (List.getElem?_eq_some_iff.mp h2).1]; exact h2⟩
 ·rw [List.getElem?_append_left (Nat.lt_of_lt_of_le hp h.le)]; exact h.old p hp
section
variable {d:Nat} {cells:List Int} {spot:Nat} {lots:List (Int × AV)} {rest:List AObj} {ls:List Lap} (hl:LapsOk 4 ls) (hll:ls.length≤6)
include hl hll
theorem turn_ok (hI:LInv (runL ls).2 lots (restOf ls) rest) {t:Nat} (ht:t<8) {Γ:Env} (hn:Names Γ) (h91:Γ.get 91=some (.pv (.int t))) :
  ∃ Γ' x,evSs (ctxOf P (callFn P (d+6))) law_b17 Γ ⟨LS cells spot (runL ls).2 (askF 9 ls) lots (runL ls).1 rest,false⟩=some ((.next,Γ'),⟨LS cells spot (runL ls).2 (askF 9 ls) lots (runL ls).1 (rest++[x]),false⟩)∧Names Γ':=by
 have hp:=pool_ok ls
 have h6:=Nat.le_trans hp.es hll
 have hel:(runL ls).2.length≤12:=Nat.le_trans h6 (by decide)
 have hrl:(rowsOf (runL ls).2 (bits t)).length=3+(runL ls).2.length:=rows_len ..
 have hpl:(runL ls).1.length≤10:=Nat.le_trans (Nat.le_of_eq hp.len) (Nat.add_le_add_left hll 4)
 have hw:=worth_ok (bits_len t) hl
 have h13:=st13 (d:=d) (s:=⟨LS cells spot (runL ls).2 (askF 9 ls) lots (runL ls).1 rest,false⟩) ht hn.f hn.lots h91 (es_ok ls) hel ls_7 (fun i e he=>let ⟨q,a,b⟩:=hI.at_ i e he; ⟨q+9,a,b⟩) ls_1 ls_2 rfl (size_LS (d+5) hel)
 have n1:Names (Γ.put 42 (.pv (.lst (intsAV (rowI (rowsOf (runL ls).2 (bits t))))))):=hn.put
 have g91:(Γ.put 42 (.pv (.lst (intsAV (rowI (rowsOf (runL ls).2 (bits t))))))).get 91=some (.pv (.int t)):=get_ne rfl h91
 have h14:=st14 (C:=ctxOf P (callFn P (d+6))) ht g91 (ls_new (cells:=cells) (spot:=spot) (es:=(runL ls).2) (asked:=askF 9 ls) (lots:=lots) (pool:=(runL ls).1) (rest:=rest) (st:=false))
 obtain ⟨Γ3,c1,g3⟩:=st_15 (d:=d) (cells:=cells) (spot:=spot) (es:=(runL ls).2) (lots:=lots) (pool:=(runL ls).1) (rest:=rest) (ws:=bits t++[true]) (row:=.pv (.lst (intsAV (rowI (rowsOf (runL ls).2 (bits t)))))) hl (Nat.le_trans (Nat.add_le_add_left hll _) (by decide:4+6≤40))
  (fun k l h=>by
   obtain ⟨a1,a2⟩:=restOf_at h
   rw [Nat.zero_add,hI.old _ (List.getElem?_eq_some_iff.mp a1).1,hI.old _ (List.getElem?_eq_some_iff.mp a2).1]; exact ⟨a1,a2⟩) ⟨n1.put,get_eq,get_ne rfl get_eq⟩
 have e4:=st_16 (d:=d) (cells:=cells) (spot:=spot) (es:=(runL ls).2) (asked:=askF 9 ls) (lots:=lots) (pool:=(runL ls).1) (rest:=rest) (r:=rowsOf (runL ls).2 (bits t)) (Γ:=Γ3) (by rw [hrl]; exact Nat.le_trans (Nat.add_le_add_left hel 3) (by decide)) (by rw [hrl]; exact hp.under) (Nat.le_trans hpl (by decide)) g3
 rw [hw] at e4
 exact ⟨Γ3,wsA (wsOf (bits t) ls),S_next h13 (S_next (st_is get_eq _) (S_next h14 (S_next c1 (S_next e4 S_nil)))),g3.n⟩
theorem turns_loop:∀ (n:Nat) {t:Nat} {rest:List AObj} {Γ:Env},t+n≤8→LInv (runL ls).2 lots (restOf ls) rest→Names Γ →
  ∃ Γ' rest',forItems [] (fun x Γ s=>ob (bindT (.nm 91) x Γ) fun Γ'=>evSs (ctxOf P (callFn P (d+6))) law_b17 Γ' s) (upI t n) Γ ⟨LS cells spot (runL ls).2 (askF 9 ls) lots (runL ls).1 rest,false⟩=some ((.next,Γ'),⟨LS cells spot (runL ls).2 (askF 9 ls) lots (runL ls).1 rest',false⟩)
 | 0,t,rest,Γ,_,_,hn=>⟨Γ,rest,rfl⟩
 | n+1,t,rest,Γ,ht,hI,hn=>by
  obtain ⟨Γ1,x,a1,a2⟩:=turn_ok (d:=d) (cells:=cells) (spot:=spot) hl hll hI (t:=t) (Nat.lt_of_lt_of_le (Nat.lt_add_of_pos_right (Nat.succ_pos n)) ht) (Γ:=Γ.put 91 (.pv (.int t))) hn.put get_eq
  obtain ⟨Γ2,rest2,b1⟩:=turns_loop n (t:=t+1) (rest:=rest++[x]) (Γ:=Γ1) (by rw [Nat.succ_add_eq_add_succ]; exact ht) hI.more a2
  exact ⟨Γ2,rest2,F_step rfl a1 (KF_next rfl b1)⟩
end
theorem run (ns:List Int) (h:ns.length≤63):∃ σ,callFn P 30 28 [.pv (.lst (intsAV ns))] ⟨[],false⟩=some (.pv (.bool true),σ):=by
 have hc:(ns.take 40).length≤63:=by rw [List.length_take]; exact Nat.le_trans (Nat.min_le_left ..) (by decide)
 have e18:=st_18 23 h
 have e19:=st_19 23 (cells:=ns.take 40) (Γ:=[(78,.pv (.lst (intsAV ns))),(61,.ref 0),(66,.ref 1),(76,.ref 6),(73,.ref 7)]) rfl
 have n0:Names (Env.put 79 (.ref 8) [(78,.pv (.lst (intsAV ns))),(61,.ref 0),(66,.ref 1),(76,.ref 6),(73,.ref 7)]):=⟨rfl,rfl,rfl,rfl,rfl⟩
 obtain ⟨ls,spot,Γ1,hl,hll,n1,eL⟩:=st_laps 23 hc n0
 have hel:(runL ls).2.length≤12:=Nat.le_trans (pool_ok ls).es (Nat.le_trans hll (by decide))
 have e20:=st_20 (d:=23) (cells:=ns.take 40) (spot:=spot) (es:=(runL ls).2) (asked:=askF 9 ls) (lots:=[]) (pool:=(runL ls).1) (rest:=restOf ls) (st:=false) n1.f hel
 obtain ⟨Γ2,lots,rest,eT,n2,hI⟩:=st_lots (d:=23) (cells:=ns.take 40) (spot:=spot) (es:=(runL ls).2) (asked:=askF 9 ls) (pool:=(runL ls).1) (rest:=restOf ls) (es_ok ls) hel n1
 obtain ⟨Γ3,rest',eU⟩:=turns_loop (d:=23) (cells:=ns.take 40) (spot:=spot) hl hll 8 (t:=0) (by decide) hI n2
 refine ⟨⟨LS (ns.take 40) spot (runL ls).2 (askF 9 ls) lots (runL ls).1 rest',false⟩,?_⟩
 show callFn P (29+1) 28 _ _=_
 apply call_with f28 rfl rfl rfl
 ·show evSs (ctxOf P (callFn P (23+6))) law_b21 [(78,.pv (.lst (intsAV ns)))] ⟨[],false⟩=_
  exact S_next e18 (S_next e19 (S_next eL (S_next e20 (S_next eT (S_next (S_for (I_range1 (n:=8) rfl rfl) eU) (SR rfl))))))
 ·exact rfl
end Mine.L3
end
open PySem PySem.W PyProof.Rows
set_option maxRecDepth 100000 in
set_option maxHeartbeats 0 in
theorem PySem.Challenge.cw_qd0025_03_holds : PySem.Challenge.rw_qd0025_03.Holds := by
  w_on
  refine holds_law Mine.L3.said fun said => ?_
  refine holds_open (q := Mine.L3.q) (loose := []) (Xt := fun s => xlAt Mine.L3.q [] s && recOk PySem.Challenge.rw_qd0025_03.row.toRowW.records s) (XP := XL Mine.L3.q []) (Yf := Mine.L3.H.obs) (Ya := Mine.L3.H.val) (YP := Mine.L3.H.says) (N := 6000)
    Mine.L3.left Mine.L3.H.of Mine.L3.H.keeps (fun s e => xl_of s (Bool.and_eq_true_iff.mp e).1) XL.keeps (by rfl) (by rfl) (by rfl) (fun s e => recFacts_of (Bool.and_eq_true_iff.mp e).2) (by rfl) (by assumption) (by decide +kernel) ⟨rfl, rfl, rfl, rfl, rfl, by decide +kernel⟩ ?hw ?hc
  (case hw => w_witness2)
  w_strict (
    intro w s₀ s₁ mg mb G Y fa o pm cd doc dV kV ho hd hcd hD hmg hg args vals as hpre hlay hrd hwl hlo
    obtain ⟨K, KX, hK⟩ := Y
    obtain ⟨hK1, hK2, hK3, hK4, hK5⟩ := Mine.allB_parts hK
    refine Ground.open G ?_
    intro T B D TE TW
    wrow_args hpre hlay hrd hwl hlo
    all_goals (
      refine enter_call ?_
      refine codeAny_mono ?_ (fun _ _ g => GoodW.toG g)
      clear hcd hD hd
      refine Mine.RowD.ends (D := Mine.L3.D) (S := Mine.L3.S) (lawI := 28) (dep := 30) T KX hg hmg hK1 (by decide) (by decide +kernel) hK2 hK3 hK4 hK5 (by decide) (by assumption) (by assumption) (Mine.L3.run _ ?_) (raisesW_false ?_) ?_
      · omega
      · wrow_none_raised
      · wrow_post))
