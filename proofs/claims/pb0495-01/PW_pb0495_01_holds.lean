import PyProof.Rows.All
import PyProof.AssignAttr
import PyProof.AttrMissHeap
import PyProof.AutoListH
import PyProof.Cells
import PyProof.CompFree
import PyProof.DictCompW
import PyProof.Rows.BitMore
import PyProof.Rows.FinIter
import OpenK.KMake
import OpenK.KCell
import KE.KxBytes
import KE.BytesK
import KE.KItem
import KE.LcSums
import KE.KBytesWalk
import KE.KSlice
import KE.KDictSum
import KE.KDictOf
import KE.KIsNot
import KE.KRevIter
import Wide.FinOn
import OpenK.AllK
import Wide.All
import PySem.Challenge.RW_pb0495_01
set_option compiler.extract_closed false
set_option linter.all false
set_option Elab.async false
set_option maxRecDepth 100000
set_option maxHeartbeats 8000000
set_option genSizeOf false
set_option genInjectivity false
namespace Mine
open PySem
noncomputable abbrev S (x:String):Str:=Str.ofString x
inductive BI where
 | len|range|isinstance|reversed|sorted|dict|list|tuple|sum|abs|ord|chr|bytes|all|int|bool
 deriving DecidableEq
inductive V where
 | unb
 | none
 | bool (b:Bool)
 | int (i:Int)
 | str (s:Str)
 | byts (b:List UInt8)
 | tup (xs:List V)
 | list (xs:List V)
 | dict (es:List (Str×V))
 | cell (i:Nat)
 | inst (c:Nat) (xs:List V)
 | fn (f:Nat)
 | cls (c:Nat)
 | bi (b:BI)
 | rng (a b:Int)
 deriving Inhabited
inductive Ob where
 | list (xs:List V)
 | sd (es:List (Str×V))
 | id (es:List (Int×V))
 | lent (es:List (Str×V))
 | dead
 deriving Inhabited
noncomputable abbrev Mem:=List Ob
noncomputable abbrev M (α:Type):=Mem→Option (α×Mem)
noncomputable def ret {α} (a:α):M α:=fun σ=>some (a,σ)
noncomputable def fail {α}:M α:=fun _=>none
noncomputable def bnd {α β} (m:M α) (f:α→M β):M β:=fun σ=>match m σ with
 | some (a,σ')=>f a σ'
 | none=>none
noncomputable def lft {α} (o:Option α):M α:=fun σ=>match o with
 | some a=>some (a,σ)
 | none=>none
inductive Bop|add|sub|mod|fdiv|pow|shr|band
inductive Cop|eq|ne|lt|le|gt|ge|is|isnt|in|nin
inductive Mk|dictOf|listOf|sortedOf
inductive Tg
 | one (i:Nat)
 | many (is:List Nat)
mutual
inductive ME where
 | none|tru|fls
 | int (i:Nat)
 | neg (i:Nat)
 | str (s:Str)
 | byts (b:List UInt8)
 | var (i:Nat)
 | glob (g:Nat)
 | tup (es:MEs)
 | list (m:Bool) (es:MEs)
 | dict (k:Nat) (ks:List Str) (es:MEs)
 | bin (o:Bop) (m:Bool) (a b:ME)
 | not (a:ME)
 | and (es:MEs)
 | or (es:MEs)
 | ife (t a b:ME)
 | cmp (o:Cop) (a b:ME)
 | cmp2 (o p:Cop) (a b c:ME)
 | call (f:ME) (es:MEs)
 | make (k:Mk) (m:Nat) (a:ME)
 | meth (o:ME) (n:Str) (es:MEs)
 | attr (o:ME) (n:Str)
 | sub (a i:ME)
 | upto (a b:ME)
 | lcomp (m:Bool) (e:ME) (t:Tg) (it:MI) (cs:MEs)
 | dcomp (k v:ME) (t:Tg) (it:MI) (cs:MEs)
 | frz (a:ME)
inductive MI where
 | fwd (e:ME)
 | rev (e:ME)
inductive MEs where
 | nil
 | cons (e:ME) (es:MEs)
end
mutual
inductive MS where
 | expr (e:ME)
 | asg (t:Tg) (e:ME)
 | put (o i e:ME)
 | ret (e:ME)
 | ret0
 | ifs (t:ME) (a b:MSs)
 | fors (t:Tg) (it:ME) (b:MSs)
 | whiles (t:ME) (b:MSs)
 | bad
inductive MSs where
 | nil
 | cons (s:MS) (ss:MSs)
end
inductive Fl where
 | next
 | ret (v:V)
 deriving Inhabited
structure MFun where
 ps:Nat
 vars:List Str
 body:MSs
structure MInit where
 ps:Nat
 vars:List Str
 dflt:List V
 fields:List Str
 es:MEs
noncomputable abbrev Env':=List V
noncomputable def asc:List (Str×V)→Str→Option V
 | [],_=>Option.none
 | (k,v)::r,x=>if k=x then some v else asc r x
noncomputable def sto:List (Str×V)→Str→V→List (Str×V)
 | [],x,v=>[(x,v)]
 | (k,u)::r,x,v=>if k=x then (k,v)::r else (k,u)::sto r x v
noncomputable def del:List (Str×V)→Str→List (Str×V)
 | [],_=>[]
 | (k,u)::r,x=>if k=x then r else (k,u)::del r x
noncomputable def ascI:List (Int×V)→Int→Option V
 | [],_=>Option.none
 | (k,v)::r,x=>if k=x then some v else ascI r x
noncomputable def stoI:List (Int×V)→Int→V→List (Int×V)
 | [],x,v=>[(x,v)]
 | (k,u)::r,x,v=>if k=x then (k,v)::r else (k,u)::stoI r x v
noncomputable def cap:Nat:=1000000
section
variable {α:Type}
noncomputable def uInt (a:V) (k:Int→Option α):Option α:=match a with
 | .int i=>k i
 | _=>Option.none
noncomputable def uStr (a:V) (k:Str→Option α):Option α:=match a with
 | .str i=>k i
 | _=>Option.none
noncomputable def uByts (a:V) (k:List UInt8→Option α):Option α:=match a with
 | .byts i=>k i
 | _=>Option.none
noncomputable def uTup (a:V) (k:List V→Option α):Option α:=match a with
 | .tup i=>k i
 | _=>Option.none
noncomputable def uList (a:V) (k:List V→Option α):Option α:=match a with
 | .list i=>k i
 | _=>Option.none
noncomputable def uDict (a:V) (k:List (Str×V)→Option α):Option α:=match a with
 | .dict i=>k i
 | _=>Option.none
noncomputable def uCell (a:V) (k:Nat→Option α):Option α:=match a with
 | .cell i=>k i
 | _=>Option.none
noncomputable def uInst (a:V) (k:Nat→List V→Option α):Option α:=match a with
 | .inst c xs=>k c xs
 | _=>Option.none
noncomputable def dInt (a:V) (k:Int→M α):M α:=fun σ=>uInt a fun i=>k i σ
noncomputable def dStr (a:V) (k:Str→M α):M α:=fun σ=>uStr a fun i=>k i σ
noncomputable def dByts (a:V) (k:List UInt8→M α):M α:=fun σ=>uByts a fun i=>k i σ
noncomputable def dList (a:V) (k:List V→M α):M α:=fun σ=>uList a fun i=>k i σ
noncomputable def dDict (a:V) (k:List (Str×V)→M α):M α:=fun σ=>uDict a fun i=>k i σ
noncomputable def dCell (a:V) (k:Nat→M α):M α:=fun σ=>uCell a fun i=>k i σ
noncomputable def one (vs:List V) (k:V→M α):M α:=match vs with
 | [a]=>k a
 | _=>fail
noncomputable def two (vs:List V) (k:V→V→M α):M α:=match vs with
 | [a,b]=>k a b
 | _=>fail
noncomputable def atL (o:Option Ob) (k:List V→Option α):Option α:=match o with
 | some (.list xs)=>k xs
 | _=>Option.none
noncomputable def atD (o:Option Ob) (k:List (Str×V)→Option α):Option α:=match o with
 | some (.sd es)=>k es
 | _=>Option.none
noncomputable def if2 (m:Nat) (a b:M α):M α:=match m with
 | 2=>a
 | _=>b
end
noncomputable def getv (ρ:Env') (i:Nat):M V:=fun σ=>match ρ[i]? with
 | some V.unb=>Option.none
 | some v=>some (v,σ)
 | Option.none=>Option.none
noncomputable def rdList (v:V):M (List V):=fun σ=>match v with
 | .list xs=>some (xs,σ)
 | .cell i=>match σ[i]? with
  | some (.list xs)=>some (xs,σ)
  | _=>Option.none
 | _=>Option.none
noncomputable def rdDict (v:V):M (List (Str×V)):=fun σ=>match v with
 | .dict es=>some (es,σ)
 | .cell i=>match σ[i]? with
  | some (.sd es)=>some (es,σ)
  | some (.lent es)=>some (es,σ)
  | _=>Option.none
 | _=>Option.none
noncomputable def rdId (v:V):M (List (Int×V)):=fun σ=>match v with
 | .cell i=>match σ[i]? with
  | some (.id es)=>some (es,σ)
  | _=>Option.none
 | _=>Option.none
noncomputable def alc (o:Ob):M V:=fun σ=>some (.cell σ.length,σ++[o])
noncomputable def mkL (m:Bool) (xs:List V):M V:=if xs.length<cap then (if m then alc (.list xs) else ret (.list xs)) else fail
noncomputable def isIdCell (v:V):M Bool:=fun σ=>match v with
 | .cell i=>match σ[i]? with
  | some (.id _)=>some (true,σ)
  | _=>some (false,σ)
 | _=>some (false,σ)
inductive K3|L|D|I|N
noncomputable def kind3 (v:V):M K3:=fun σ=>match v with
 | .list _=>some (.L,σ)
 | .dict _=>some (.D,σ)
 | .cell i=>match σ[i]? with
  | some (.list _)=>some (.L,σ)
  | some (.sd _)=>some (.D,σ)
  | some (.lent _)=>some (.D,σ)
  | some (.id _)=>some (.I,σ)
  | _=>Option.none
 | _=>some (.N,σ)
noncomputable def noneOf:V→Bool
 | .none=>true
 | _=>false
noncomputable def eqA:V→V→Option Bool
 | .int a,y=>uInt y fun b=>some (decide (a=b))
 | .str a,y=>uStr y fun b=>some (decide (a=b))
 | _,_=>Option.none
noncomputable def eqRow (P:V→V→Option Bool):List V→List V→Option Bool
 | [],[]=>some true
 | [],_::_=>some false
 | _::_,[]=>some false
 | a::as,b::bs=>(P a b).bind fun x=>(eqRow P as bs).bind fun y=>some (x&&y)
noncomputable def eqN:V→Option Bool
 | .none=>some true
 | .tup _=>some false
 | _=>Option.none
noncomputable def eqT (a:List V):V→Option Bool
 | .none=>some false
 | .tup b=>eqRow eqA a b
 | _=>Option.none
noncomputable def eqV:V→V→Option Bool
 | .int a,y=>uInt y fun b=>some (decide (a=b))
 | .str a,y=>uStr y fun b=>some (decide (a=b))
 | .none,y=>eqN y
 | .tup a,y=>eqT a y
 | _,_=>Option.none
noncomputable def eqVs:List V→List V→Option Bool:=eqRow eqV
noncomputable def flat:V→Bool
 | .int _=>true
 | .str _=>true
 | .none=>true
 | .tup _=>true
 | _=>false
noncomputable def cmpEq (a b:V):M Bool:=match flat a with
 | true=>lft (eqV a b)
 | false=>bnd (rdList a) fun xs=>bnd (rdList b) fun ys=>lft (eqVs xs ys)
noncomputable def inRow (x:V):List V→Option Bool
 | []=>some false
 | y::r=>(eqA y x).bind fun a=>(inRow x r).bind fun b=>some (a || b)
noncomputable def one? (s:Str):Option Nat:=match s.cps.toList with
 | [c]=>some c
 | _=>Option.none
noncomputable def inStr (h:Str) (a:V):M Bool:=dStr a fun n=>bnd (lft (one? n)) fun c=>ret (h.cps.toList.contains c)
noncomputable def one1 (b:List UInt8):Option UInt8:=match b with
 | [c]=>some c
 | _=>Option.none
noncomputable def inByts (h:List UInt8) (a:V):M Bool:=dByts a fun b=>bnd (lft (one1 b)) fun c=>ret (h.contains c)
noncomputable def inD (b a:V):M Bool:=dStr a fun x=>bnd (rdDict b) fun es=>ret (asc es x).isSome
noncomputable def inI (b a:V):M Bool:=dInt a fun x=>bnd (rdId b) fun es=>ret (ascI es x).isSome
noncomputable def cmpIn (a b:V):M Bool:=match b with
 | .tup xs=>lft (inRow a xs)
 | .str h=>inStr h a
 | .byts h=>inByts h a
 | _=>bnd (kind3 b) fun k=>match k with
  | .L=>bnd (rdList b) fun xs=>lft (inRow a xs)
  | .D=>inD b a
  | .I=>inI b a
  | .N=>fail
noncomputable def neV (a b:V):M Bool:=match a with
 | .int x=>dInt b fun y=>ret (!decide (x=y))
 | .str x=>dStr b fun y=>ret (!decide (x=y))
 | _=>fail
noncomputable def notBi:V→Bool
 | .bi _=>false
 | _=>true
noncomputable def isNone (n:Bool) (a:V):M Bool:=match notBi a with
 | true=>ret (if n then noneOf a else !noneOf a)
 | false=>fail
noncomputable def isV (n:Bool) (a b:V):M Bool:=match b with
 | .none=>isNone n a
 | _=>fail
noncomputable def cmpV (o:Cop) (a b:V):M Bool:=match o with
 | .eq=>cmpEq a b
 | .ne=>neV a b
 | .lt=>dInt a fun x=>dInt b fun y=>ret (decide (x<y))
 | .le=>dInt a fun x=>dInt b fun y=>ret (decide (x≤y))
 | .gt=>dInt a fun x=>dInt b fun y=>ret (decide (y<x))
 | .ge=>dInt a fun x=>dInt b fun y=>ret (decide (y≤x))
 | .is=>isV true a b
 | .isnt=>isV false a b
 | .in=>cmpIn a b
 | .nin=>bnd (cmpIn a b) fun r=>ret (!r)
noncomputable def addV (m:Bool) (a b:V):M V:=match a with
 | .int x=>dInt b fun y=>ret (.int (x+y))
 | .str x=>dStr b fun y=>if x.cps.size+y.cps.size<cap then ret (.str (x++y)) else fail
 | a=>bnd (rdList a) fun xs=>bnd (rdList b) fun ys=>mkL m (xs++ys)
noncomputable def binV (o:Bop) (m:Bool) (a b:V):M V:=match o with
 | .add=>addV m a b
 | .sub=>dInt a fun x=>dInt b fun y=>ret (.int (x-y))
 | .mod=>dInt a fun x=>dInt b fun y=>if y≠0 then ret (.int (Int.fmod x y)) else fail
 | .fdiv=>dInt a fun x=>dInt b fun y=>if y≠0∧y.natAbs<1073741824 then ret (.int (Int.fdiv x y)) else fail
 | .pow=>dInt a fun x=>dInt b fun y=>if 0≤y∧y<1000∧x.natAbs<1000 then ret (.int (x ^ y.toNat)) else fail
 | .shr=>dInt a fun x=>dInt b fun y=>if 0≤y then ret (.int (Int.fdiv x (2 ^ y.toNat))) else fail
 | .band=>dInt a fun x=>dInt b fun y=>ret (.int (Builtin.bitAnd x y))
noncomputable def idx (xs:List V) (i:Int):M V:=if 0≤i then lft (xs[i.toNat]?) else fail
noncomputable def itemI (a:V) (k:Int):M V:=match a with
 | .tup xs=>idx xs k
 | a=>bnd (kind3 a) fun q=>match q with
  | .L=>bnd (rdList a) fun xs=>idx xs k
  | .I=>bnd (rdId a) fun es=>lft (ascI es k)
  | _=>fail
noncomputable def getItemV (a i:V):M V:=match i with
 | .int k=>itemI a k
 | .str k=>bnd (rdDict a) fun es=>lft (asc es k)
 | _=>fail
noncomputable def wr (i:Nat) (o:Ob):M Unit:=fun σ=>some ((),σ.set i o)
noncomputable def setI (c:Nat) (k:Int) (v:V):M Unit:=fun σ=>match σ[c]? with
 | some (.list xs)=>if 0≤k∧k<xs.length then some ((),σ.set c (.list (xs.set k.toNat v))) else Option.none
 | some (.id es)=>if es.length<cap then some ((),σ.set c (.id (stoI es k v))) else Option.none
 | _=>Option.none
noncomputable def setItemV (a i v:V):M Unit:=dCell a fun c=>match i with
 | .int k=>setI c k v
 | .str k=>fun σ=>atD σ[c]? fun es=>if es.length<cap then some ((),σ.set c (.sd (sto es k v))) else Option.none
 | _=>fail
noncomputable def lenV (a:V):M V:=match a with
 | .str s=>if s.cps.size<cap then ret (.int s.cps.size) else fail
 | .byts b=>if b.length<cap then ret (.int b.length) else fail
 | _=>bnd (kind3 a) fun k=>match k with
  | .L=>bnd (rdList a) fun xs=>ret (.int xs.length)
  | _=>fail
inductive VT|none|bool|int|str|list|dict|inst (d:Nat)
noncomputable def vtK:K3→M VT
 | .L=>ret .list
 | .D=>ret .dict
 | .I=>ret .dict
 | .N=>fail
noncomputable def vt (v:V):M VT:=match v with
 | .none=>ret .none
 | .bool _=>ret .bool
 | .int _=>ret .int
 | .str _=>ret .str
 | .list _=>ret .list
 | .dict _=>ret .dict
 | .inst d _=>ret (.inst d)
 | .cell i=>bnd (kind3 (.cell i)) vtK
 | _=>fail
noncomputable def vtCls (k:Nat):VT→Bool
 | .inst d=>d == k
 | _=>false
noncomputable def vtInt:VT→M Bool
 | .int=>ret true
 | .bool=>ret true
 | .dict=>fail
 | _=>ret false
noncomputable def vtBool:VT→M Bool
 | .int=>ret false
 | .bool=>ret true
 | _=>fail
noncomputable def vtList:VT→M Bool
 | .list=>ret true
 | .bool=>fail
 | _=>ret false
noncomputable def vtDict:VT→M Bool
 | .dict=>ret true
 | .bool=>fail
 | _=>ret false
noncomputable def vtBi (b:BI) (t:VT):M Bool:=match b with
 | .int=>vtInt t
 | .bool=>vtBool t
 | .list=>vtList t
 | .dict=>vtDict t
 | _=>fail
noncomputable def isKind (v c:V):M Bool:=bnd (vt v) fun t=>match c with
 | .cls k=>if k<3 then ret (vtCls k t) else fail
 | .bi b=>vtBi b t
 | _=>fail
noncomputable def rangeInts:Nat→Int→List V
 | 0,_=>[]
 | n+1,a=>.int a::rangeInts n (a+1)
noncomputable def sumV:List V→Option Int
 | []=>some 0
 | a::r=>uInt a fun a=>(sumV r).bind fun b=>some (a+b)
noncomputable def smalls:List V→Bool
 | []=>true
 | .int a::r=>decide (0≤a)&&decide (a<2 ^ 40)&&smalls r
 | _=>false
noncomputable def octs:List V→Option (List UInt8)
 | []=>some []
 | a::r=>uInt a fun a=>if 0≤a∧a<256 then (octs r).bind fun b=>some (UInt8.ofNat a.toNat::b) else Option.none
noncomputable def uBool {α:Type} (a:V) (k:Bool→Option α):Option α:=match a with
 | .bool i=>k i
 | _=>Option.none
noncomputable def allV:List V→Option Bool
 | []=>some true
 | a::r=>uBool a fun b=>(allV r).bind fun c=>some (b&&c)
noncomputable def biCall (b:BI) (vs:List V):M V:=match b with
 | .len=>one vs lenV
 | .range=>one vs fun a=>dInt a fun n=>if n<2 ^ 40 then ret (.rng 0 n) else fail
 | .isinstance=>two vs fun v c=>bnd (isKind v c) fun r=>ret (.bool r)
 | .sum=>one vs fun a=>dList a fun xs=>if smalls xs&&decide (xs.length<1000) then bnd (lft (sumV xs)) fun n=>ret (.int n) else fail
 | .abs=>one vs fun a=>dInt a fun a=>ret (.int (if a<0 then -a else a))
 | .ord=>one vs fun a=>dStr a fun s=>bnd (lft (one? s)) fun c=>ret (.int c)
 | .chr=>one vs fun a=>dInt a fun i=>if 0≤i∧i<256 then ret (.str ⟨#[i.toNat]⟩) else fail
 | .bytes=>one vs fun a=>dList a fun xs=>if xs.length<cap then bnd (lft (octs xs)) fun b=>ret (.byts b) else fail
 | .all=>one vs fun a=>dList a fun xs=>bnd (lft (allV xs)) fun r=>ret (.bool r)
 | _=>fail
noncomputable def strsOf:List V→Option (List Str)
 | []=>some []
 | a::r=>uStr a fun s=>(strsOf r).bind fun l=>some (s::l)
noncomputable def uTwo {α:Type} (vs:List V) (k:V→V→Option α):Option α:=match vs with
 | [a,b]=>k a b
 | _=>Option.none
noncomputable def pairsS:List V→Option (List (Str×V))
 | []=>some []
 | a::r=>uTup a fun vs=>uTwo vs fun a v=>uStr a fun k=>(pairsS r).bind fun l=>some ((k,v)::l)
noncomputable def pairsI:List V→Option (List (Int×V))
 | []=>some []
 | a::r=>uTup a fun vs=>uTwo vs fun a v=>uInt a fun k=>(pairsI r).bind fun l=>some ((k,v)::l)
noncomputable def stoAll (es:List (Str×V)):List (Str×V)→List (Str×V)
 | []=>es
 | (k,v)::r=>stoAll (sto es k v) r
noncomputable def stoAllI (es:List (Int×V)):List (Int×V)→List (Int×V)
 | []=>es
 | (k,v)::r=>stoAllI (stoI es k v) r
noncomputable def mkD (m:Nat) (es:List (Str×V)):M V:=match m with
 | 0=>ret (.dict es)
 | 1=>alc (.sd es)
 | _=>fail
noncomputable def incI:List (Int×V)→Bool
 | []=>true
 | (k,_)::r=>r.all (fun e=>decide (k<e.1))&&incI r
noncomputable def incS:List (Str×V)→Bool
 | []=>true
 | (k,_)::r=>r.all (fun e=>decide (k.cps.toList<e.1.cps.toList))&&incS r
noncomputable def makeV (k:Mk) (m:Nat) (a:V):M V:=match k with
 | .dictOf=>bnd (kind3 a) fun q=>match q with
  | .D=>bnd (rdDict a) fun es=>if es.length<cap then mkD m es else fail
  | .L=>bnd (rdList a) fun xs=>if xs.length<cap then if2 m (bnd (lft (pairsI xs)) fun ps=>alc (.id (stoAllI [] ps))) (bnd (lft (pairsS xs)) fun ps=>mkD m (stoAll [] ps)) else fail
  | _=>fail
 | .listOf=>bnd (rdList a) fun xs=>mkL (m != 0) xs
 | .sortedOf=>bnd (kind3 a) fun q=>match q with
  | .D=>bnd (rdDict a) fun es=>if decide (es.length<64)&&incS es then mkL (m != 0) (es.map fun e=>V.str e.1) else fail
  | .I=>bnd (rdId a) fun es=>if decide (es.length<64)&&incI es then mkL (m != 0) (es.map fun e=>V.int e.1) else fail
  | _=>fail
inductive MK|L|D|I|S|B|O
 deriving DecidableEq
noncomputable def preM (o:V):M MK:=match o with
 | .inst _ _=>ret .O
 | .str _=>ret .S
 | .byts _=>ret .B
 | _=>bnd (kind3 o) fun k=>match k with
  | .L=>ret .L
  | .D=>ret .D
  | .I=>ret .I
  | .N=>fail
noncomputable def idOf (t:MK) (n:Str):Option String:=match t with
 | .L=>if n=Mine.S "append" then some "list.append" else if n=Mine.S "extend" then some "list.extend" else if n=Mine.S "pop" then some "list.pop" else Option.none
 | .D=>if n=Mine.S "get" then some "dict.get" else if n=Mine.S "pop" then some "dict.pop" else if n=Mine.S "update" then some "dict.update" else Option.none
 | .I=>if n=Mine.S "get" then some "dict.get" else Option.none
 | .S=>if n=Mine.S "join" then some "str.join" else Option.none
 | .B=>if n=Mine.S "startswith" then some "bytes.startswith" else Option.none
 | .O=>Option.none
noncomputable def mApp (c:Nat) (v:V):M V:=fun σ=>atL σ[c]? fun xs=>if xs.length<cap then some (.none,σ.set c (.list (xs++[v]))) else Option.none
noncomputable def mExt (c:Nat) (ys:List V):M V:=fun σ=>atL σ[c]? fun xs=>if xs.length+ys.length<cap then some (.none,σ.set c (.list (xs++ys))) else Option.none
noncomputable def popL {α:Type} (l:List V) (k:V→List V→Option α):Option α:=match l with
 | v::r=>k v r
 | []=>Option.none
noncomputable def mPop (c:Nat):M V:=fun σ=>atL σ[c]? fun xs=>popL xs.reverse fun v r=>some (v,σ.set c (.list r.reverse))
noncomputable def mPop0 (c:Nat):M V:=fun σ=>atL σ[c]? fun xs=>popL xs fun v r=>some (v,σ.set c (.list r))
noncomputable def mPopK (c:Nat) (k:Str):M V:=fun σ=>atD σ[c]? fun es=>some ((asc es k).getD .none,σ.set c (.sd (del es k)))
noncomputable def isZ {α:Type} (n:Int) (k:M α):M α:=match n with
 | 0=>k
 | _=>fail
noncomputable def pop1 (c:Nat) (a:V):M V:=dInt a fun n=>isZ n (mPop0 c)
noncomputable def dNone {α:Type} (a:V) (k:M α):M α:=match a with
 | .none=>k
 | _=>fail
noncomputable def pop2 (c:Nat) (a b:V):M V:=dStr a fun k=>dNone b (mPopK c k)
noncomputable def mPops (c:Nat) (vs:List V):M V:=match vs with
 | []=>mPop c
 | [a]=>pop1 c a
 | [a,b]=>pop2 c a b
 | _=>fail
noncomputable def get1 (o a:V):M V:=dStr a fun k=>bnd (rdDict o) fun es=>ret ((asc es k).getD .none)
noncomputable def get2 (o d a:V):M V:=match a with
 | .str k=>bnd (rdDict o) fun es=>ret ((asc es k).getD d)
 | .int k=>bnd (rdId o) fun es=>ret ((ascI es k).getD d)
 | _=>fail
noncomputable def mGet (o:V) (vs:List V):M V:=match vs with
 | [a]=>get1 o a
 | [a,d]=>get2 o d a
 | _=>fail
noncomputable def mUpd (c:Nat) (fs:List (Str×V)):M V:=fun σ=>atD σ[c]? fun es=>if es.length+fs.length<cap then some (.none,σ.set c (.sd (stoAll es fs))) else Option.none
noncomputable def mJoin (sep:Str) (v:V):M V:=bnd (rdList v) fun xs=>bnd (lft (strsOf xs)) fun ss=>if (ss.map (·.length)).sum+ss.length≤1048576∧sep.length≤16 then ret (.str (Str.join sep ss)) else fail
noncomputable def mStart (b p:List UInt8):M V:=ret (.bool (decide (p.length≤b.length)&&b.take p.length == p))
noncomputable def biMeth (o:V) (n:Str) (vs:List V):M V:=
 if n=S "append" then dCell o fun c=>one vs fun v=>mApp c v
 else if n=S "extend" then dCell o fun c=>one vs fun v=>dList v fun ys=>mExt c ys
 else if n=S "pop" then dCell o fun c=>mPops c vs
 else if n=S "get" then mGet o vs
 else if n=S "update" then dCell o fun c=>one vs fun v=>dDict v fun fs=>mUpd c fs
 else if n=S "join" then dStr o fun sep=>one vs fun v=>mJoin sep v
 else if n=S "startswith" then dByts o fun b=>one vs fun v=>dByts v fun p=>mStart b p
 else fail
noncomputable def clsFields:Nat→List Str
 | 0=>[S "text"]
 | 1=>[S "octets",S "is_hex"]
 | 2=>[S "number",S "generation"]
 | 4=>[S "table",S "trailer"]
 | 5=>[S "name",S "reference",S "above",S "widgets",S "head",S "kind"]
 | 6=>[S "fields",S "nodes",S "seen"]
 | _=>[]
noncomputable def fieldAt:List Str→List V→Str→Option V
 | f::fs,v::vs,n=>if f=n then some v else fieldAt fs vs n
 | _,_,_=>Option.none
noncomputable def attrV (o:V) (n:Str):M V:=fun σ=>uInst o fun c xs=>lft (fieldAt (clsFields c) xs n) σ
noncomputable def methL:List (Nat×Str×Nat):=[(4,S "fetch",0),(4,S "get",1),(4,S "put",2),(4,S "add",3),(4,S "numbers",4),(4,S "root",5),(2,S "pair",6)]
noncomputable def methOf (c:Nat) (n:Str):Option Nat:=(methL.find? fun p=>Nat.beq p.1 c&&decide (p.2.1=n)).map (·.2.2)
noncomputable def bindT (t:Tg) (v:V) (ρ:Env'):Option Env':=match t with
 | .one i=>some (ρ.set i v)
 | .many is=>uTup v fun vs=>if is.length=vs.length then some ((is.zip vs).foldl (fun ρ p=>ρ.set p.1 p.2) ρ) else Option.none
noncomputable def itemsOf (v:V):M (List V):=match v with
 | .list xs=>ret xs
 | .tup xs=>ret xs
 | .dict es=>ret (es.map fun e=>V.str e.1)
 | .byts b=>ret (b.map fun o=>V.int o.toNat)
 | .rng a b=>if a=0∧-(2 ^ 40)<b∧b<2 ^ 40 then ret (rangeInts b.toNat 0) else fail
 | _=>fail
noncomputable def truth (v:V):M Bool:=fun σ=>uBool v fun b=>ret b σ
noncomputable abbrev Calls:=Nat→List V→M V
noncomputable def callV (C:Calls) (f:V) (vs:List V):M V:=match f with
 | .fn k=>C k vs
 | .cls c=>C (100+c) vs
 | .bi b=>biCall b vs
 | _=>fail
noncomputable def methV (C:Calls) (o:V) (n:Str) (vs:List V):M V:=match o with
 | .inst c xs=>match methOf c n with
  | some k=>C k (.inst c xs::vs)
  | Option.none=>fail
 | _=>biMeth o n vs
noncomputable def loopC (cond:Env'→M Bool) (el:Env'→M V) (t:Tg) (ρ:Env'):List V→M (List V)
 | []=>ret []
 | x::xs=>bnd (lft (bindT t x ρ)) fun ρ'=>bnd (cond ρ') fun b=>match b with
  | true=>bnd (el ρ') fun v=>bnd (loopC cond el t ρ xs) fun vs=>ret (v::vs)
  | false=>loopC cond el t ρ xs
noncomputable def loopD (cond:Env'→M Bool) (ek ev:Env'→M V) (t:Tg) (ρ:Env'):List (Str×V)→List V→M (List (Str×V))
 | es,[]=>ret es
 | es,x::xs=>bnd (lft (bindT t x ρ)) fun ρ'=>bnd (cond ρ') fun b=>match b with
  | true=>bnd (ek ρ') fun k=>bnd (ev ρ') fun v=>dStr k fun k=>if es.length<cap then loopD cond ek ev t ρ (sto es k v) xs else fail
  | false=>loopD cond ek ev t ρ es xs
noncomputable def frzC (i:Nat):M V:=fun σ=>match σ[i]? with
 | some (.list xs)=>some (.list xs,σ.set i .dead)
 | some (.sd es)=>some (.dict es,σ.set i .dead)
 | _=>Option.none
noncomputable def frzV (v:V):M V:=dCell v frzC
noncomputable def globs:List V:=[.cls 0,.cls 1,.cls 2,.cls 3,.cls 4,.cls 5,.cls 6,.bi .len,.bi .range,.bi .isinstance,.bi .reversed,.bi .sorted,.bi .dict,.bi .list,.bi .tuple,.bi .sum,
 .bi .abs,.bi .ord,.bi .chr,.bi .bytes,.bi .all,.bi .int,.bi .bool,.int 30,.str (S "Off"),.tup [.str (S "FT"),.str (S "Ff"),.str (S "V"),.str (S "DV"),.str (S "MaxLen"),.str (S "Opt")],
 .byts [254,255],.int 65533,.fn 7,.fn 8,.fn 9,.fn 10,.fn 11,.fn 12,.fn 13,.fn 14,.fn 15,.fn 16,.fn 17,.fn 18,.fn 19,.fn 20,.fn 21,.fn 22,.fn 23,.fn 24,.fn 25,.fn 26,.fn 27,.fn 28,.fn 29,
 .fn 30,.fn 31,.fn 32,.fn 33,.fn 34,.fn 35,.fn 36,.fn 37,.fn 38,.fn 39,.fn 40,.fn 41,.fn 42,.fn 43,.fn 44,.fn 45,.fn 46,.fn 47,.fn 48,.fn 49,.fn 50,.fn 51]
noncomputable def newI (vs:List V):M V:=match vs with
 | []=>alc (.id [])
 | _=>fail
mutual
noncomputable def ev (C:Calls):ME→Env'→M V
 | .none,_=>ret .none
 | .tru,_=>ret (.bool true)
 | .fls,_=>ret (.bool false)
 | .int i,_=>ret (.int i)
 | .neg i,_=>ret (.int (-(i:Int)))
 | .str s,_=>ret (.str s)
 | .byts b,_=>ret (.byts b)
 | .var i,ρ=>getv ρ i
 | .glob g,_=>lft globs[g]?
 | .tup es,ρ=>bnd (evs C es ρ) fun vs=>if vs.length<100 then ret (.tup vs) else fail
 | .list m es,ρ=>bnd (evs C es ρ) fun vs=>mkL m vs
 | .dict k ks es,ρ=>bnd (evs C es ρ) fun vs=>if ks.length=vs.length∧ks.Nodup∧ks.length≤15 then if2 k (newI vs) (mkD k (ks.zip vs)) else fail
 | .bin o m a b,ρ=>bnd (ev C a ρ) fun x=>bnd (ev C b ρ) fun y=>binV o m x y
 | .not a,ρ=>bnd (ev C a ρ) fun x=>bnd (truth x) fun b=>ret (.bool (!b))
 | .and es,ρ=>evAnd C es ρ
 | .or es,ρ=>evOr C es ρ
 | .ife t a b,ρ=>bnd (ev C t ρ) fun x=>bnd (truth x) fun q=>match q with
  | true=>ev C a ρ
  | false=>ev C b ρ
 | .cmp o a b,ρ=>bnd (ev C a ρ) fun x=>bnd (ev C b ρ) fun y=>bnd (cmpV o x y) fun r=>ret (.bool r)
 | .cmp2 o p a b c,ρ=>bnd (ev C a ρ) fun x=>bnd (ev C b ρ) fun y=>bnd (cmpV o x y) fun r=>match r with
  | true=>bnd (ev C c ρ) fun z=>bnd (cmpV p y z) fun q=>ret (.bool q)
  | false=>ret (.bool false)
 | .call f es,ρ=>bnd (ev C f ρ) fun fv=>bnd (evs C es ρ) fun vs=>callV C fv vs
 | .make k m a,ρ=>bnd (ev C a ρ) fun x=>makeV k m x
 | .meth o n es,ρ=>bnd (ev C o ρ) fun ov=>bnd (preM ov) fun t=>if t=.O∨(idOf t n).isSome then bnd (evs C es ρ) fun vs=>bnd (preM ov) fun t'=>if t=t' then methV C ov n vs else fail else fail
 | .attr o n,ρ=>bnd (ev C o ρ) fun ov=>attrV ov n
 | .sub a i,ρ=>bnd (ev C a ρ) fun x=>bnd (ev C i ρ) fun y=>getItemV x y
 | .upto a b,ρ=>bnd (ev C a ρ) fun x=>bnd (ev C b ρ) fun y=>dInt y fun k=>if 0≤k then bnd (rdList x) fun xs=>mkL false (xs.take k.toNat) else fail
 | .lcomp m e t it cs,ρ=>bnd (evI C it ρ) fun xs=>bnd (loopC (cnd C cs) (ev C e) t ρ xs) fun vs=>mkL m vs
 | .dcomp k v t it cs,ρ=>bnd (evI C it ρ) fun xs=>bnd (loopD (cnd C cs) (ev C k) (ev C v) t ρ [] xs) fun es=>ret (.dict es)
 | .frz a,ρ=>bnd (ev C a ρ) fun x=>frzV x
noncomputable def evI (C:Calls):MI→Env'→M (List V)
 | .fwd e,ρ=>bnd (ev C e ρ) fun v=>itemsOf v
 | .rev e,ρ=>bnd (ev C e ρ) fun v=>dList v fun xs=>ret xs.reverse
noncomputable def evs (C:Calls):MEs→Env'→M (List V)
 | .nil,_=>ret []
 | .cons e es,ρ=>bnd (ev C e ρ) fun v=>bnd (evs C es ρ) fun vs=>ret (v::vs)
noncomputable def evAnd (C:Calls):MEs→Env'→M V
 | .nil,_=>ret (.bool true)
 | .cons e es,ρ=>bnd (ev C e ρ) fun v=>bnd (truth v) fun b=>match b with
  | true=>evAnd C es ρ
  | false=>ret (.bool false)
noncomputable def evOr (C:Calls):MEs→Env'→M V
 | .nil,_=>ret (.bool false)
 | .cons e es,ρ=>bnd (ev C e ρ) fun v=>bnd (truth v) fun b=>match b with
  | false=>evOr C es ρ
  | true=>ret (.bool true)
noncomputable def cnd (C:Calls):MEs→Env'→M Bool
 | .nil,_=>ret true
 | .cons e .nil,ρ=>bnd (ev C e ρ) fun v=>truth v
 | .cons _ _,_=>fail
end
noncomputable def loopS (body:Env'→M (Fl×Env')) (t:Tg):List V→Env'→M (Fl×Env')
 | [],ρ=>ret (.next,ρ)
 | x::xs,ρ=>bnd (lft (bindT t x ρ)) fun ρ'=>bnd (body ρ') fun r=>match r.1 with
  | .next=>loopS body t xs r.2
  | .ret v=>ret (.ret v,r.2)
noncomputable def loopW (cond:Env'→M Bool) (body:Env'→M (Fl×Env')):Nat→Env'→M (Fl×Env')
 | 0,_=>fail
 | n+1,ρ=>bnd (cond ρ) fun b=>match b with
  | false=>ret (.next,ρ)
  | true=>bnd (body ρ) fun r=>match r.1 with
   | .next=>loopW cond body n r.2
   | .ret v=>ret (.ret v,r.2)
noncomputable def forV (body:Env'→M (Fl×Env')) (t:Tg) (v:V) (ρ:Env'):M (Fl×Env'):=match v with
 | .cell i=>fun σ=>match σ[i]? with
  | some (.sd es)=>match loopS body t (es.map fun e=>V.str e.1) ρ (σ.set i (.lent es)) with
   | some (r,σ')=>match σ'[i]? with
    | some (.lent _)=>some (r,σ'.set i (.sd es))
    | _=>Option.none
   | Option.none=>Option.none
  | _=>Option.none
 | v=>bnd (itemsOf v) fun xs=>loopS body t xs ρ
noncomputable def whileMost:Nat:=1000
mutual
noncomputable def ex (C:Calls):MS→Env'→M (Fl×Env')
 | .expr e,ρ=>bnd (ev C e ρ) fun _=>ret (.next,ρ)
 | .asg t e,ρ=>bnd (ev C e ρ) fun v=>bnd (lft (bindT t v ρ)) fun ρ'=>ret (.next,ρ')
 | .put o i e,ρ=>bnd (ev C e ρ) fun v=>bnd (ev C o ρ) fun ov=>bnd (ev C i ρ) fun iv=>bnd (setItemV ov iv v) fun _=>ret (.next,ρ)
 | .ret e,ρ=>bnd (ev C e ρ) fun v=>ret (.ret v,ρ)
 | .ret0,ρ=>ret (.ret .none,ρ)
 | .ifs t a b,ρ=>bnd (ev C t ρ) fun v=>bnd (truth v) fun q=>match q with
  | true=>exs C a ρ
  | false=>exs C b ρ
 | .fors t it b,ρ=>bnd (ev C it ρ) fun v=>forV (exs C b) t v ρ
 | .whiles t b,ρ=>loopW (fun ρ=>bnd (ev C t ρ) truth) (exs C b) whileMost ρ
 | .bad,_=>fail
noncomputable def exs (C:Calls):MSs→Env'→M (Fl×Env')
 | .nil,ρ=>ret (.next,ρ)
 | .cons s ss,ρ=>bnd (ex C s ρ) fun r=>match r.1 with
  | .next=>exs C ss r.2
  | .ret v=>ret (.ret v,r.2)
end
noncomputable def valueOf:Fl→V
 | .next=>.none
 | .ret v=>v
noncomputable def runF (C:Calls) (f:MFun) (vs:List V):M V:=
 if vs.length=f.ps∧f.ps≤f.vars.length then bnd (exs C f.body (vs++List.replicate (f.vars.length-f.ps) V.unb)) fun r=>ret (valueOf r.1) else fail
noncomputable def runI (C:Calls) (c:Nat) (f:MInit) (vs:List V):M V:=
 if vs.length≤f.ps∧f.ps≤vs.length+f.dflt.length then
  bnd (evs C f.es (V.unb::(vs++f.dflt.drop (vs.length+f.dflt.length-f.ps)))) fun xs=>ret (.inst c xs)
 else fail
noncomputable def globNames:List Str:=[S "Name",S "String",S "Reference",S "Lookup",S "Shelf",S "Field",S "FormWalk",S "len",S "range",S "isinstance",S "reversed",S "sorted",S "dict",S "list",S "tuple",S "sum",S "abs",S "ord",S "chr",S "bytes",S "all",S "int",S "bool",S "MOST_HOPS",S "OFF",S "INHERITED_KEYS",S "MARK",S "UNKNOWN",S "sign_of",S "text_of",S "home_of",S "flag_place",S "flag_set",S "whole_in",S "flags_of",S "has_flag",S "form_of",S "row_in",S "own_name",S "longer_name",S "kind_word",S "with_inherited",S "new_node",S "is_field",S "own_widgets",S "walked_form",S "text_in",S "state_in",S "value_in",S "options",S "on_states",S "shown_states",S "node_faults",S "value_faults",S "field_faults",S "_law_take",S "_law_string",S "_law_object",S "_law_entries",S "_law_look",S "_law_widgets",S "_law_node",S "_law_form",S "_law_flag",S "_law_kind",S "_law_plain",S "_law_value",S "_law_states",S "_law_exports",S "_law_hurt",S "_law_links",S "_law_value_words",S "law"]
noncomputable def f_Lookup_fetch:MFun:=⟨2,[(S "self"),(S "value"),(S "here"),(S "hop"),(S "generation"),(S "found")],
 (.cons (.asg (.one 2) (.var 1))
  (.cons (.fors (.one 3) (.call (.glob 8) (.cons (.glob 23) .nil))
  (.cons (.ifs (.not (.call (.glob 9) (.cons (.var 2) (.cons (.glob 2) .nil))))
  (.cons (.ret (.var 2))
  .nil)
  .nil)
  (.cons (.asg (.many [4,5]) (.meth (.attr (.var 0) (S "table")) (S "get") (.cons (.attr (.var 2) (S "number")) (.cons (.tup (.cons (.neg 1) (.cons .none .nil))) .nil))))
  (.cons (.ifs (.cmp .ne (.var 4) (.attr (.var 2) (S "generation")))
  (.cons (.ret .none)
  .nil)
  .nil)
  (.cons (.asg (.one 2) (.var 5))
  .nil)))))
  (.cons (.ret (.ife (.call (.glob 9) (.cons (.var 2) (.cons (.glob 2) .nil))) .none (.var 2)))
  .nil)))⟩
noncomputable def f_Lookup_get:MFun:=⟨3,[(S "self"),(S "head"),(S "key")],
 (.cons (.ret (.meth (.var 0) (S "fetch") (.cons (.meth (.var 1) (S "get") (.cons (.var 2) .nil)) .nil)))
  .nil)⟩
noncomputable def f_Shelf_put:MFun:=⟨4,[(S "self"),(S "number"),(S "generation"),(S "value")],
 (.cons (.put (.attr (.var 0) (S "table")) (.var 1) (.tup (.cons (.var 2) (.cons (.var 3) .nil))))
  .nil)⟩
noncomputable def f_Shelf_add:MFun:=⟨2,[(S "self"),(S "value"),(S "number")],
 (.cons (.asg (.one 2) (.int 1))
  (.cons (.whiles (.cmp .in (.var 2) (.attr (.var 0) (S "table")))
  (.cons (.asg (.one 2) (.bin .add false (.var 2) (.int 1)))
  .nil))
  (.cons (.put (.attr (.var 0) (S "table")) (.var 2) (.tup (.cons (.int 0) (.cons (.var 1) .nil))))
  (.cons (.ret (.call (.glob 2) (.cons (.var 2) (.cons (.int 0) .nil))))
  .nil))))⟩
noncomputable def f_Shelf_numbers:MFun:=⟨1,[(S "self")],
 (.cons (.ret (.make .sortedOf 0 (.attr (.var 0) (S "table"))))
  .nil)⟩
noncomputable def f_Shelf_root:MFun:=⟨1,[(S "self"),(S "found")],
 (.cons (.asg (.one 1) (.meth (.var 0) (S "get") (.cons (.attr (.var 0) (S "trailer")) (.cons (.str (S "Root")) .nil))))
  (.cons (.ret (.ife (.call (.glob 9) (.cons (.var 1) (.cons (.glob 12) .nil))) (.var 1) (.dict 0 [] .nil)))
  .nil))⟩
noncomputable def f_Reference_pair:MFun:=⟨1,[(S "self")],
 (.cons (.ret (.tup (.cons (.attr (.var 0) (S "number")) (.cons (.attr (.var 0) (S "generation")) .nil))))
  .nil)⟩
noncomputable def f_sign_of:MFun:=⟨1,[(S "octet")],
 (.cons (.ifs (.or (.cons (.cmp .in (.var 0) (.tup (.cons (.int 9) (.cons (.int 10) (.cons (.int 13) .nil))))) (.cons (.cmp2 .le .lt (.int 32) (.var 0) (.int 127)) (.cons (.and (.cons (.cmp2 .lt .lt (.int 160) (.var 0) (.int 256)) (.cons (.cmp .ne (.var 0) (.int 173)) .nil))) .nil))))
  (.cons (.ret (.var 0))
  .nil)
  .nil)
  (.cons (.ifs (.cmp2 .le .lt (.int 24) (.var 0) (.int 32))
  (.cons .bad
  .nil)
  .nil)
  (.cons (.ifs (.cmp2 .le .lt (.int 128) (.var 0) (.int 159))
  (.cons .bad
  .nil)
  .nil)
  (.cons (.ret (.ife (.cmp .eq (.var 0) (.int 160)) (.int 8364) (.glob 27)))
  .nil))))⟩
noncomputable def f_text_of:MFun:=⟨1,[(S "octets"),(S "units"),(S "at"),(S "octet")],
 (.cons (.ifs (.not (.meth (.var 0) (S "startswith") (.cons (.glob 26) .nil)))
  (.cons (.ret (.meth (.str (S "")) (S "join") (.cons (.lcomp false (.call (.glob 18) (.cons (.call (.glob 28) (.cons (.var 3) .nil)) .nil)) (.one 3) (.fwd (.var 0)) .nil) .nil)))
  .nil)
  .nil)
  (.cons .bad
  (.cons .bad
  .nil)))⟩
noncomputable def f_home_of:MFun:=⟨2,[(S "shelf"),(S "value"),(S "here"),(S "seen"),(S "generation"),(S "found")],
 (.cons (.asg (.one 2) (.var 1))
  (.cons (.asg (.one 3) (.dict 2 [] .nil))
  (.cons (.whiles (.and (.cons (.call (.glob 9) (.cons (.var 2) (.cons (.glob 2) .nil))) (.cons (.cmp .nin (.attr (.var 2) (S "number")) (.var 3)) .nil)))
  (.cons (.put (.var 3) (.attr (.var 2) (S "number")) .tru)
  (.cons (.asg (.many [4,5]) (.meth (.attr (.var 0) (S "table")) (S "get") (.cons (.attr (.var 2) (S "number")) (.cons (.tup (.cons (.neg 1) (.cons .none .nil))) .nil))))
  (.cons (.ifs (.cmp .ne (.var 4) (.attr (.var 2) (S "generation")))
  (.cons .bad
  .nil)
  .nil)
  (.cons (.ifs (.not (.call (.glob 9) (.cons (.var 5) (.cons (.glob 2) .nil))))
  (.cons (.ret (.var 2))
  .nil)
  .nil)
  (.cons (.asg (.one 2) (.var 5))
  .nil))))))
  (.cons .bad
  .nil))))⟩
noncomputable def f_flag_place:MFun:=⟨1,[(S "word"),(S "places")],
 (.cons (.asg (.one 1) (.dict 1 [(S "read only"),(S "required"),(S "no export"),(S "multi line"),(S "password"),(S "no toggle to off")] (.cons (.int 1) (.cons (.int 2) (.cons (.int 3) (.cons (.int 13) (.cons (.int 14) (.cons (.int 15) .nil))))))))
  (.cons (.expr (.meth (.var 1) (S "update") (.cons (.dict 0 [(S "radio"),(S "push"),(S "combo"),(S "edit"),(S "sort"),(S "multi select"),(S "comb")] (.cons (.int 16) (.cons (.int 17) (.cons (.int 18) (.cons (.int 19) (.cons (.int 20) (.cons (.int 22) (.cons (.int 25) .nil)))))))) .nil)))
  (.cons (.put (.var 1) (.str (S "in unison")) (.int 26))
  (.cons (.ret (.sub (.var 1) (.var 0)))
  .nil))))⟩
noncomputable def f_flag_set:MFun:=⟨2,[(S "flags"),(S "word")],
 (.cons (.ret (.cmp .eq (.bin .band false (.bin .shr false (.var 0) (.bin .sub false (.call (.glob 31) (.cons (.var 1) .nil)) (.int 1))) (.int 1)) (.int 1)))
  .nil)⟩
noncomputable def f_whole_in:MFun:=⟨3,[(S "shelf"),(S "head"),(S "key"),(S "value")],
 (.cons (.asg (.one 3) (.meth (.var 0) (S "get") (.cons (.var 1) (.cons (.var 2) .nil))))
  (.cons (.ret (.ife (.and (.cons (.call (.glob 9) (.cons (.var 3) (.cons (.glob 21) .nil))) (.cons (.not (.call (.glob 9) (.cons (.var 3) (.cons (.glob 22) .nil)))) .nil))) (.var 3) .none))
  .nil))⟩
noncomputable def f_flags_of:MFun:=⟨2,[(S "shelf"),(S "head"),(S "flags")],
 (.cons (.asg (.one 2) (.call (.glob 33) (.cons (.var 0) (.cons (.var 1) (.cons (.str (S "Ff")) .nil)))))
  (.cons (.ret (.ife (.cmp .is (.var 2) .none) (.int 0) (.var 2)))
  .nil))⟩
noncomputable def f_has_flag:MFun:=⟨3,[(S "shelf"),(S "leaf"),(S "word")],
 (.cons (.ret (.call (.glob 32) (.cons (.call (.glob 34) (.cons (.var 0) (.cons (.attr (.var 1) (S "head")) .nil))) (.cons (.var 2) .nil))))
  .nil)⟩
noncomputable def f_form_of:MFun:=⟨1,[(S "shelf"),(S "form")],
 (.cons (.asg (.one 1) (.meth (.var 0) (S "get") (.cons (.meth (.var 0) (S "root") .nil) (.cons (.str (S "AcroForm")) .nil))))
  (.cons (.ret (.ife (.call (.glob 9) (.cons (.var 1) (.cons (.glob 12) .nil))) (.var 1) (.dict 0 [] .nil)))
  .nil))⟩
noncomputable def f_row_in:MFun:=⟨3,[(S "shelf"),(S "head"),(S "key"),(S "row")],
 (.cons (.asg (.one 3) (.meth (.var 0) (S "get") (.cons (.var 1) (.cons (.var 2) .nil))))
  (.cons (.ifs (.cmp .is (.var 3) .none)
  (.cons (.ret (.list false .nil))
  .nil)
  .nil)
  (.cons (.ifs (.not (.call (.glob 9) (.cons (.var 3) (.cons (.glob 13) .nil))))
  (.cons .bad
  .nil)
  .nil)
  (.cons (.ret (.var 3))
  .nil))))⟩
noncomputable def f_own_name:MFun:=⟨2,[(S "shelf"),(S "head"),(S "word")],
 (.cons (.asg (.one 2) (.meth (.var 0) (S "get") (.cons (.var 1) (.cons (.str (S "T")) .nil))))
  (.cons (.ret (.ife (.call (.glob 9) (.cons (.var 2) (.cons (.glob 1) .nil))) (.call (.glob 29) (.cons (.attr (.var 2) (S "octets")) .nil)) .none))
  .nil))⟩
noncomputable def f_longer_name:MFun:=⟨2,[(S "name"),(S "part")],
 (.cons (.ifs (.cmp .is (.var 1) .none)
  (.cons (.ret (.var 0))
  .nil)
  .nil)
  (.cons (.ret (.ife (.cmp .is (.var 0) .none) (.var 1) (.bin .add false (.bin .add false (.var 0) (.str (S "."))) (.var 1))))
  .nil))⟩
noncomputable def f_kind_word:MFun:=⟨2,[(S "shelf"),(S "head"),(S "sort"),(S "word"),(S "flags")],
 (.cons (.asg (.one 2) (.meth (.var 0) (S "get") (.cons (.var 1) (.cons (.str (S "FT")) .nil))))
  (.cons (.asg (.one 3) (.ife (.call (.glob 9) (.cons (.var 2) (.cons (.glob 0) .nil))) (.attr (.var 2) (S "text")) (.str (S ""))))
  (.cons (.ifs (.cmp .eq (.var 3) (.str (S "Btn")))
  (.cons (.asg (.one 4) (.call (.glob 34) (.cons (.var 0) (.cons (.var 1) .nil))))
  (.cons (.ifs (.call (.glob 32) (.cons (.var 4) (.cons (.str (S "push")) .nil)))
  (.cons (.ret (.str (S "push")))
  .nil)
  .nil)
  (.cons (.ret (.ife (.call (.glob 32) (.cons (.var 4) (.cons (.str (S "radio")) .nil))) (.str (S "radio")) (.str (S "check"))))
  .nil)))
  .nil)
  (.cons (.ret (.meth (.dict 0 [(S "Tx"),(S "Ch"),(S "Sig")] (.cons (.str (S "text")) (.cons (.str (S "choice")) (.cons (.str (S "signature")) .nil)))) (S "get") (.cons (.var 3) (.cons (.str (S "")) .nil))))
  .nil))))⟩
noncomputable def f_with_inherited:MFun:=⟨2,[(S "head"),(S "given"),(S "found"),(S "key")],
 (.cons (.asg (.one 2) (.make .dictOf 1 (.var 1)))
  (.cons (.fors (.one 3) (.var 0)
  (.cons (.put (.var 2) (.var 3) (.sub (.var 0) (.var 3)))
  .nil))
  (.cons (.ret (.frz (.var 2)))
  .nil)))⟩
noncomputable def f_new_node:MFun:=⟨3,[(S "shelf"),(S "tour"),(S "value"),(S "home"),(S "head")],
 (.cons (.asg (.one 3) (.call (.glob 30) (.cons (.var 0) (.cons (.var 2) .nil))))
  (.cons (.asg (.one 4) (.meth (.var 0) (S "fetch") (.cons (.var 3) .nil)))
  (.cons (.ifs (.or (.cons (.cmp .in (.attr (.var 3) (S "number")) (.attr (.var 1) (S "seen"))) (.cons (.not (.call (.glob 9) (.cons (.var 4) (.cons (.glob 12) .nil)))) .nil)))
  (.cons .bad
  .nil)
  .nil)
  (.cons (.put (.attr (.var 1) (S "seen")) (.attr (.var 3) (S "number")) .tru)
  (.cons (.ret (.tup (.cons (.var 3) (.cons (.var 4) .nil))))
  .nil)))))⟩
noncomputable def f_is_field:MFun:=⟨2,[(S "shelf"),(S "value"),(S "head")],
 (.cons (.asg (.one 2) (.meth (.var 0) (S "fetch") (.cons (.var 1) .nil)))
  (.cons (.ret (.and (.cons (.call (.glob 9) (.cons (.var 2) (.cons (.glob 12) .nil))) (.cons (.cmp .isnt (.call (.glob 38) (.cons (.var 0) (.cons (.var 2) .nil))) .none) .nil))))
  .nil))⟩
noncomputable def f_own_widgets:MFun:=⟨5,[(S "shelf"),(S "tour"),(S "home"),(S "head"),(S "kids"),(S "sort"),(S "kid")],
 (.cons (.ifs (.cmp .gt (.call (.glob 7) (.cons (.var 4) .nil)) (.int 0))
  (.cons (.ret (.lcomp false (.sub (.call (.glob 42) (.cons (.var 0) (.cons (.var 1) (.cons (.var 6) .nil)))) (.int 0)) (.one 6) (.fwd (.var 4)) .nil))
  .nil)
  .nil)
  (.cons (.asg (.one 5) (.meth (.var 0) (S "get") (.cons (.var 3) (.cons (.str (S "Subtype")) .nil))))
  (.cons (.ret (.ife (.and (.cons (.call (.glob 9) (.cons (.var 5) (.cons (.glob 0) .nil))) (.cons (.cmp .eq (.attr (.var 5) (S "text")) (.str (S "Widget"))) .nil))) (.list false (.cons (.var 2) .nil)) (.list false .nil)))
  .nil)))⟩
noncomputable def f_walked_form:MFun:=⟨1,[(S "shelf"),(S "tour"),(S "line"),(S "value"),(S "above"),(S "name"),(S "given"),(S "home"),(S "head"),(S "full"),(S "whole"),(S "kids"),(S "inner"),(S "handed"),(S "widgets"),(S "kid"),(S "key"),(S "kid"),(S "value")],
 (.cons (.asg (.one 1) (.call (.glob 6) .nil))
  (.cons (.asg (.one 2) (.lcomp true (.tup (.cons (.var 18) (.cons .none (.cons .none (.cons (.dict 0 [] .nil) .nil))))) (.one 18) (.rev (.call (.glob 37) (.cons (.var 0) (.cons (.call (.glob 36) (.cons (.var 0) .nil)) (.cons (.str (S "Fields")) .nil))))) .nil))
  (.cons (.whiles (.cmp .gt (.call (.glob 7) (.cons (.var 2) .nil)) (.int 0))
  (.cons (.asg (.many [3,4,5,6]) (.meth (.var 2) (S "pop") .nil))
  (.cons (.asg (.many [7,8]) (.call (.glob 42) (.cons (.var 0) (.cons (.var 1) (.cons (.var 3) .nil)))))
  (.cons (.asg (.one 9) (.call (.glob 39) (.cons (.var 5) (.cons (.call (.glob 38) (.cons (.var 0) (.cons (.var 8) .nil))) .nil))))
  (.cons (.asg (.one 10) (.call (.glob 41) (.cons (.var 8) (.cons (.var 6) .nil))))
  (.cons (.asg (.one 11) (.call (.glob 37) (.cons (.var 0) (.cons (.var 8) (.cons (.str (S "Kids")) .nil)))))
  (.cons (.asg (.one 12) (.lcomp false (.var 17) (.one 17) (.fwd (.var 11)) (.cons (.call (.glob 43) (.cons (.var 0) (.cons (.var 17) .nil))) .nil)))
  (.cons (.ifs (.cmp .gt (.call (.glob 7) (.cons (.var 12) .nil)) (.int 0))
  (.cons (.expr (.meth (.attr (.var 1) (S "nodes")) (S "append") (.cons (.tup (.cons (.var 7) (.cons (.var 4) .nil))) .nil)))
  (.cons (.asg (.one 13) (.dcomp (.var 16) (.sub (.var 10) (.var 16)) (.one 16) (.fwd (.glob 25)) (.cons (.cmp .in (.var 16) (.var 10)) .nil)))
  (.cons (.expr (.meth (.var 2) (S "extend") (.cons (.lcomp false (.tup (.cons (.var 15) (.cons (.var 7) (.cons (.var 9) (.cons (.var 13) .nil))))) (.one 15) (.rev (.var 12)) .nil) .nil)))
  .nil)))
  (.cons (.asg (.one 14) (.call (.glob 44) (.cons (.var 0) (.cons (.var 1) (.cons (.var 7) (.cons (.var 8) (.cons (.var 11) .nil)))))))
  (.cons (.expr (.meth (.attr (.var 1) (S "fields")) (S "append") (.cons (.call (.glob 5) (.cons (.ife (.cmp .is (.var 9) .none) (.str (S "")) (.var 9)) (.cons (.var 7) (.cons (.var 4) (.cons (.var 14) (.cons (.var 10) (.cons (.call (.glob 40) (.cons (.var 0) (.cons (.var 10) .nil))) .nil))))))) .nil)))
  .nil)))
  .nil))))))))
  (.cons (.ret (.var 1))
  .nil))))⟩
noncomputable def f_text_in:MFun:=⟨2,[(S "shelf"),(S "value")],
 (.cons (.asg (.one 1) (.meth (.var 0) (S "fetch") (.cons (.var 1) .nil)))
  (.cons (.ret (.ife (.call (.glob 9) (.cons (.var 1) (.cons (.glob 1) .nil))) (.call (.glob 29) (.cons (.attr (.var 1) (S "octets")) .nil)) .none))
  .nil))⟩
noncomputable def f_state_in:MFun:=⟨2,[(S "shelf"),(S "value")],
 (.cons (.asg (.one 1) (.meth (.var 0) (S "fetch") (.cons (.var 1) .nil)))
  (.cons (.ret (.ife (.call (.glob 9) (.cons (.var 1) (.cons (.glob 0) .nil))) (.attr (.var 1) (S "text")) (.glob 24)))
  .nil))⟩
noncomputable def f_value_in:MFun:=⟨3,[(S "shelf"),(S "leaf"),(S "key"),(S "value"),(S "part")],
 (.cons (.ifs (.cmp .in (.attr (.var 1) (S "kind")) (.tup (.cons (.str (S "check")) (.cons (.str (S "radio")) .nil))))
  (.cons (.ret (.call (.glob 47) (.cons (.var 0) (.cons (.meth (.attr (.var 1) (S "head")) (S "get") (.cons (.var 2) .nil)) .nil))))
  .nil)
  .nil)
  (.cons (.asg (.one 3) (.meth (.var 0) (S "get") (.cons (.attr (.var 1) (S "head")) (.cons (.var 2) .nil))))
  (.cons (.ifs (.and (.cons (.cmp .eq (.attr (.var 1) (S "kind")) (.str (S "choice"))) (.cons (.call (.glob 9) (.cons (.var 3) (.cons (.glob 13) .nil))) .nil)))
  (.cons (.ret (.lcomp false (.call (.glob 46) (.cons (.var 0) (.cons (.var 4) .nil))) (.one 4) (.fwd (.var 3)) .nil))
  .nil)
  .nil)
  (.cons (.ret (.ife (.cmp .in (.attr (.var 1) (S "kind")) (.tup (.cons (.str (S "choice")) (.cons (.str (S "text")) .nil)))) (.call (.glob 46) (.cons (.var 0) (.cons (.var 3) .nil))) .none))
  .nil))))⟩
noncomputable def f_options:MFun:=⟨2,[(S "shelf"),(S "leaf"),(S "found"),(S "part"),(S "both")],
 (.cons (.asg (.one 2) (.list true .nil))
  (.cons (.fors (.one 3) (.call (.glob 37) (.cons (.var 0) (.cons (.attr (.var 1) (S "head")) (.cons (.str (S "Opt")) .nil))))
  (.cons (.asg (.one 4) (.meth (.var 0) (S "fetch") (.cons (.var 3) .nil)))
  (.cons (.ifs (.and (.cons (.call (.glob 9) (.cons (.var 4) (.cons (.glob 13) .nil))) (.cons (.cmp .eq (.call (.glob 7) (.cons (.var 4) .nil)) (.int 2)) .nil)))
  (.cons (.expr (.meth (.var 2) (S "append") (.cons (.tup (.cons (.call (.glob 46) (.cons (.var 0) (.cons (.sub (.var 4) (.int 0)) .nil))) (.cons (.call (.glob 46) (.cons (.var 0) (.cons (.sub (.var 4) (.int 1)) .nil))) .nil))) .nil)))
  .nil)
  (.cons (.expr (.meth (.var 2) (S "append") (.cons (.tup (.cons (.call (.glob 46) (.cons (.var 0) (.cons (.var 4) .nil))) (.cons (.call (.glob 46) (.cons (.var 0) (.cons (.var 4) .nil))) .nil))) .nil)))
  .nil))
  .nil)))
  (.cons (.ret (.frz (.var 2)))
  .nil)))⟩
noncomputable def f_on_states:MFun:=⟨2,[(S "shelf"),(S "widget"),(S "looks"),(S "key")],
 (.cons (.asg (.one 2) (.meth (.var 0) (S "get") (.cons (.meth (.var 0) (S "fetch") (.cons (.var 1) .nil)) (.cons (.str (S "AP")) .nil))))
  (.cons (.asg (.one 2) (.ife (.call (.glob 9) (.cons (.var 2) (.cons (.glob 12) .nil))) (.meth (.var 0) (S "get") (.cons (.var 2) (.cons (.str (S "N")) .nil))) .none))
  (.cons (.ret (.ife (.call (.glob 9) (.cons (.var 2) (.cons (.glob 12) .nil))) (.lcomp false (.var 3) (.one 3) (.fwd (.make .sortedOf 0 (.var 2))) (.cons (.cmp .ne (.var 3) (.glob 24)) .nil)) (.list false .nil)))
  .nil)))⟩
noncomputable def f_shown_states:MFun:=⟨3,[(S "shelf"),(S "leaf"),(S "state"),(S "found"),(S "is_lone"),(S "widget"),(S "is_on")],
 (.cons (.asg (.one 3) (.list true .nil))
  (.cons (.asg (.one 4) (.and (.cons (.cmp .eq (.attr (.var 1) (S "kind")) (.str (S "radio"))) (.cons (.not (.call (.glob 35) (.cons (.var 0) (.cons (.var 1) (.cons (.str (S "in unison")) .nil))))) .nil))))
  (.cons (.fors (.one 5) (.attr (.var 1) (S "widgets"))
  (.cons (.asg (.one 6) (.and (.cons (.cmp .in (.var 2) (.call (.glob 50) (.cons (.var 0) (.cons (.var 5) .nil)))) (.cons (.not (.and (.cons (.var 4) (.cons (.cmp .in (.var 2) (.var 3)) .nil)))) .nil))))
  (.cons (.expr (.meth (.var 3) (S "append") (.cons (.ife (.var 6) (.var 2) (.glob 24)) .nil)))
  .nil)))
  (.cons (.ret (.frz (.var 3)))
  .nil))))⟩
noncomputable def f_node_faults:MFun:=⟨3,[(S "shelf"),(S "home"),(S "above"),(S "head"),(S "parent"),(S "pair"),(S "found"),(S "part")],
 (.cons (.asg (.one 3) (.meth (.var 0) (S "fetch") (.cons (.var 1) .nil)))
  (.cons (.asg (.one 4) (.meth (.var 3) (S "get") (.cons (.str (S "Parent")) .nil)))
  (.cons (.asg (.one 5) (.ife (.call (.glob 9) (.cons (.var 4) (.cons (.glob 2) .nil))) (.meth (.var 4) (S "pair") .nil) .none))
  (.cons (.asg (.one 6) (.ife (.cmp .eq (.var 5) (.ife (.cmp .is (.var 2) .none) .none (.meth (.var 2) (S "pair") .nil))) (.list false .nil) (.list false (.cons (.str (S "wrong Parent")) .nil))))
  (.cons (.asg (.one 7) (.call (.glob 38) (.cons (.var 0) (.cons (.var 3) .nil))))
  (.cons (.ret (.bin .add false (.var 6) (.ife (.and (.cons (.cmp .isnt (.var 7) .none) (.cons (.cmp .in (.str (S ".")) (.var 7)) .nil))) (.list false (.cons (.str (S "a dot in T")) .nil)) (.list false .nil))))
  .nil))))))⟩
noncomputable def f_value_faults:MFun:=⟨2,[(S "shelf"),(S "leaf"),(S "value"),(S "most"),(S "is_free"),(S "exports"),(S "values"),(S "states"),(S "widget"),(S "one"),(S "pair")],
 (.cons (.asg (.one 2) (.call (.glob 48) (.cons (.var 0) (.cons (.var 1) (.cons (.str (S "V")) .nil)))))
  (.cons (.ifs (.cmp .eq (.attr (.var 1) (S "kind")) (.str (S "")))
  (.cons (.ret (.list false (.cons (.str (S "no kind")) .nil)))
  .nil)
  .nil)
  (.cons (.ifs (.cmp .eq (.attr (.var 1) (S "kind")) (.str (S "text")))
  (.cons (.asg (.one 3) (.call (.glob 33) (.cons (.var 0) (.cons (.attr (.var 1) (S "head")) (.cons (.str (S "MaxLen")) .nil)))))
  (.cons (.ret (.ife (.and (.cons (.cmp .isnt (.var 2) .none) (.cons (.cmp .isnt (.var 3) .none) (.cons (.cmp .gt (.call (.glob 7) (.cons (.var 2) .nil)) (.var 3)) .nil)))) (.list false (.cons (.str (S "too long")) .nil)) (.list false .nil)))
  .nil))
  .nil)
  (.cons (.ifs (.cmp .eq (.attr (.var 1) (S "kind")) (.str (S "choice")))
  (.cons (.asg (.one 4) (.and (.cons (.call (.glob 35) (.cons (.var 0) (.cons (.var 1) (.cons (.str (S "combo")) .nil)))) (.cons (.call (.glob 35) (.cons (.var 0) (.cons (.var 1) (.cons (.str (S "edit")) .nil)))) .nil))))
  (.cons (.asg (.one 5) (.lcomp false (.sub (.var 10) (.int 0)) (.one 10) (.fwd (.call (.glob 49) (.cons (.var 0) (.cons (.var 1) .nil)))) .nil))
  (.cons (.asg (.one 6) (.ife (.call (.glob 9) (.cons (.var 2) (.cons (.glob 13) .nil))) (.var 2) (.ife (.cmp .is (.var 2) .none) (.list false .nil) (.list false (.cons (.var 2) .nil)))))
  (.cons (.ret (.ife (.or (.cons (.var 4) (.cons (.call (.glob 20) (.cons (.lcomp false (.cmp .in (.var 9) (.var 5)) (.one 9) (.fwd (.var 6)) .nil) .nil)) .nil))) (.list false .nil) (.list false (.cons (.str (S "not among Opt")) .nil))))
  .nil))))
  .nil)
  (.cons (.ifs (.cmp .in (.attr (.var 1) (S "kind")) (.tup (.cons (.str (S "check")) (.cons (.str (S "radio")) .nil))))
  (.cons (.asg (.one 7) (.lcomp false (.call (.glob 47) (.cons (.var 0) (.cons (.meth (.meth (.var 0) (S "fetch") (.cons (.var 8) .nil)) (S "get") (.cons (.str (S "AS")) .nil)) .nil))) (.one 8) (.fwd (.attr (.var 1) (S "widgets"))) .nil))
  (.cons (.ret (.ife (.cmp .eq (.var 7) (.call (.glob 51) (.cons (.var 0) (.cons (.var 1) (.cons (.var 2) .nil))))) (.list false .nil) (.list false (.cons (.str (S "wrong AS")) .nil))))
  .nil))
  .nil)
  (.cons (.ret (.list false .nil))
  .nil))))))⟩
noncomputable def f_field_faults:MFun:=⟨1,[(S "shelf"),(S "tour"),(S "found"),(S "node"),(S "above"),(S "kinds"),(S "leaf"),(S "faults"),(S "what"),(S "what")],
 (.cons (.asg (.one 1) (.call (.glob 45) (.cons (.var 0) .nil)))
  (.cons (.asg (.one 2) (.list true .nil))
  (.cons (.fors (.many [3,4]) (.frz (.attr (.var 1) (S "nodes")))
  (.cons (.expr (.meth (.var 2) (S "extend") (.cons (.lcomp false (.tup (.cons (.attr (.var 3) (S "number")) (.cons (.var 9) .nil))) (.one 9) (.fwd (.call (.glob 52) (.cons (.var 0) (.cons (.var 3) (.cons (.var 4) .nil))))) .nil) .nil)))
  .nil))
  (.cons (.asg (.one 5) (.dict 1 [] .nil))
  (.cons (.fors (.one 6) (.frz (.attr (.var 1) (S "fields")))
  (.cons (.asg (.one 7) (.bin .add true (.call (.glob 52) (.cons (.var 0) (.cons (.attr (.var 6) (S "reference")) (.cons (.attr (.var 6) (S "above")) .nil)))) (.call (.glob 53) (.cons (.var 0) (.cons (.var 6) .nil)))))
  (.cons (.ifs (.cmp .ne (.meth (.var 5) (S "get") (.cons (.attr (.var 6) (S "name")) (.cons (.attr (.var 6) (S "kind")) .nil))) (.attr (.var 6) (S "kind")))
  (.cons (.expr (.meth (.var 7) (S "append") (.cons (.str (S "two kinds of one name")) .nil)))
  .nil)
  .nil)
  (.cons (.put (.var 5) (.attr (.var 6) (S "name")) (.attr (.var 6) (S "kind")))
  (.cons (.expr (.meth (.var 2) (S "extend") (.cons (.lcomp false (.tup (.cons (.attr (.attr (.var 6) (S "reference")) (S "number")) (.cons (.var 8) .nil))) (.one 8) (.fwd (.frz (.var 7))) .nil) .nil)))
  .nil)))))
  (.cons (.ret (.frz (.var 2)))
  .nil))))))⟩
noncomputable def f_law_take:MFun:=⟨2,[(S "pool"),(S "many"),(S "digit")],
 (.cons (.ifs (.cmp .eq (.call (.glob 7) (.cons (.var 0) .nil)) (.int 0))
  (.cons (.ret (.int 0))
  .nil)
  .nil)
  (.cons (.asg (.one 2) (.bin .mod false (.sub (.var 0) (.int 0)) (.var 1)))
  (.cons (.put (.var 0) (.int 0) (.bin .fdiv false (.sub (.var 0) (.int 0)) (.var 1)))
  (.cons (.ifs (.cmp .eq (.sub (.var 0) (.int 0)) (.int 0))
  (.cons (.expr (.meth (.var 0) (S "pop") (.cons (.int 0) .nil)))
  .nil)
  .nil)
  (.cons (.ret (.var 2))
  .nil)))))⟩
noncomputable def f_law_string:MFun:=⟨1,[(S "pool")],
 (.cons (.ret (.call (.glob 1) (.cons (.sub (.tup (.cons (.byts []) (.cons (.byts [97]) (.cons (.byts [97,98,99]) (.cons (.byts [97,98,99,100]) .nil))))) (.call (.glob 55) (.cons (.var 0) (.cons (.int 4) .nil)))) .nil)))
  .nil)⟩
noncomputable def f_law_object:MFun:=⟨2,[(S "pool"),(S "sort"),(S "way"),(S "turn")],
 (.cons (.asg (.one 2) (.call (.glob 55) (.cons (.var 0) (.cons (.int 5) .nil))))
  (.cons (.ifs (.cmp .eq (.var 2) (.int 0))
  (.cons (.ret (.int 7))
  .nil)
  .nil)
  (.cons (.ifs (.cmp .eq (.var 1) (.str (S "Btn")))
  (.cons (.ret (.call (.glob 0) (.cons (.sub (.tup (.cons (.str (S "Off")) (.cons (.str (S "x")) (.cons (.str (S "y")) (.cons (.str (S "z")) .nil))))) (.bin .sub false (.var 2) (.int 1))) .nil)))
  .nil)
  .nil)
  (.cons (.ret (.ife (.and (.cons (.cmp .eq (.var 1) (.str (S "Ch"))) (.cons (.cmp .gt (.var 2) (.int 2)) .nil))) (.lcomp false (.call (.glob 56) (.cons (.var 0) .nil)) (.one 3) (.fwd (.call (.glob 8) (.cons (.bin .sub false (.var 2) (.int 1)) .nil))) .nil) (.call (.glob 56) (.cons (.var 0) .nil))))
  .nil))))⟩
noncomputable def f_law_entries:MFun:=⟨3,[(S "pool"),(S "head"),(S "given"),(S "sort"),(S "key"),(S "one"),(S "place")],
 (.cons (.ifs (.or (.cons (.cmp .eq (.call (.glob 55) (.cons (.var 0) (.cons (.int 3) .nil))) (.int 1)) (.cons (.and (.cons (.cmp .nin (.str (S "FT")) (.var 2)) (.cons (.cmp .lt (.call (.glob 55) (.cons (.var 0) (.cons (.int 6) .nil))) (.int 5)) .nil))) .nil)))
  (.cons (.put (.var 1) (.str (S "FT")) (.call (.glob 0) (.cons (.sub (.tup (.cons (.str (S "Tx")) (.cons (.str (S "Ch")) (.cons (.str (S "Btn")) (.cons (.str (S "Btn")) (.cons (.str (S "Ch")) (.cons (.str (S "Sig")) .nil))))))) (.call (.glob 55) (.cons (.var 0) (.cons (.int 6) .nil)))) .nil)))
  .nil)
  .nil)
  (.cons (.asg (.one 3) (.attr (.meth (.var 1) (S "get") (.cons (.str (S "FT")) (.cons (.meth (.var 2) (S "get") (.cons (.str (S "FT")) (.cons (.call (.glob 0) (.cons (.str (S "")) .nil)) .nil))) .nil))) (S "text")))
  (.cons (.ifs (.cmp .eq (.call (.glob 55) (.cons (.var 0) (.cons (.int 2) .nil))) (.int 1))
  (.cons (.put (.var 1) (.str (S "Ff")) (.call (.glob 15) (.cons (.lcomp false (.bin .pow false (.int 2) (.var 6)) (.one 6) (.fwd (.tup (.cons (.int 0) (.cons (.int 2) (.cons (.int 14) (.cons (.int 15) (.cons (.int 16) (.cons (.int 17) (.cons (.int 18) (.cons (.int 21) (.cons (.int 25) .nil))))))))))) (.cons (.cmp .eq (.call (.glob 55) (.cons (.var 0) (.cons (.int 4) .nil))) (.int 1)) .nil)) .nil)))
  .nil)
  .nil)
  (.cons (.fors (.one 4) (.tup (.cons (.str (S "V")) (.cons (.str (S "DV")) .nil)))
  (.cons (.ifs (.cmp .eq (.call (.glob 55) (.cons (.var 0) (.cons (.int 2) .nil))) (.int 1))
  (.cons (.put (.var 1) (.var 4) (.call (.glob 57) (.cons (.var 0) (.cons (.var 3) .nil))))
  .nil)
  .nil)
  .nil))
  (.cons (.ifs (.cmp .eq (.call (.glob 55) (.cons (.var 0) (.cons (.int 3) .nil))) (.int 1))
  (.cons (.put (.var 1) (.str (S "MaxLen")) (.int 3))
  .nil)
  .nil)
  (.cons (.ifs (.cmp .eq (.call (.glob 55) (.cons (.var 0) (.cons (.int 2) .nil))) (.int 1))
  (.cons (.asg (.one 5) (.list false (.cons (.call (.glob 1) (.cons (.byts [97,98,99]) .nil)) (.cons (.call (.glob 1) (.cons (.byts [76,111,110,103]) .nil)) .nil))))
  (.cons (.put (.var 1) (.str (S "Opt")) (.upto (.list false (.cons (.call (.glob 1) (.cons (.byts [97]) .nil)) (.cons (.var 5) (.cons (.call (.glob 1) (.cons (.byts [97,98,99,100]) .nil)) .nil)))) (.bin .add false (.int 1) (.call (.glob 55) (.cons (.var 0) (.cons (.int 3) .nil))))))
  .nil))
  .nil)
  .nil))))))⟩
noncomputable def f_law_look:MFun:=⟨2,[(S "pool"),(S "head"),(S "states"),(S "state"),(S "state")],
 (.cons (.asg (.one 2) (.lcomp false (.var 4) (.one 4) (.fwd (.tup (.cons (.str (S "Off")) (.cons (.str (S "x")) (.cons (.str (S "y")) .nil))))) (.cons (.cmp .eq (.call (.glob 55) (.cons (.var 0) (.cons (.int 2) .nil))) (.int 1)) .nil)))
  (.cons (.put (.var 1) (.str (S "AP")) (.dict 0 [(S "N")] (.cons (.make .dictOf 0 (.lcomp false (.tup (.cons (.var 3) (.cons (.int 0) .nil))) (.one 3) (.fwd (.var 2)) .nil)) .nil)))
  (.cons (.put (.var 1) (.str (S "AS")) (.call (.glob 0) (.cons (.sub (.tup (.cons (.str (S "Off")) (.cons (.str (S "x")) (.cons (.str (S "y")) .nil)))) (.call (.glob 55) (.cons (.var 0) (.cons (.int 3) .nil)))) .nil)))
  .nil)))⟩
noncomputable def f_law_widgets:MFun:=⟨4,[(S "pool"),(S "shelf"),(S "home"),(S "head"),(S "many"),(S "found"),(S "turn"),(S "widget")],
 (.cons (.asg (.one 4) (.call (.glob 55) (.cons (.var 0) (.cons (.int 4) .nil))))
  (.cons (.ifs (.cmp .eq (.var 4) (.int 0))
  (.cons (.expr (.call (.glob 59) (.cons (.var 0) (.cons (.var 3) .nil))))
  (.cons (.ifs (.cmp .eq (.call (.glob 55) (.cons (.var 0) (.cons (.int 2) .nil))) (.int 0))
  (.cons (.put (.var 3) (.str (S "Subtype")) (.call (.glob 0) (.cons (.str (S "Widget")) .nil)))
  .nil)
  .nil)
  (.cons (.ret (.ife (.cmp .in (.str (S "Subtype")) (.var 3)) (.list false (.cons (.var 2) .nil)) (.list false .nil)))
  .nil)))
  .nil)
  (.cons (.asg (.one 5) (.list true .nil))
  (.cons (.fors (.one 6) (.call (.glob 8) (.cons (.var 4) .nil))
  (.cons (.asg (.one 7) (.dict 1 [(S "Subtype"),(S "Parent")] (.cons (.call (.glob 0) (.cons (.str (S "Widget")) .nil)) (.cons (.var 2) .nil))))
  (.cons (.expr (.call (.glob 59) (.cons (.var 0) (.cons (.var 7) .nil))))
  (.cons (.expr (.meth (.var 5) (S "append") (.cons (.meth (.var 1) (S "add") (.cons (.frz (.var 7)) .nil)) .nil)))
  .nil))))
  (.cons (.put (.var 3) (.str (S "Kids")) (.make .listOf 0 (.var 5)))
  (.cons (.ret (.frz (.var 5)))
  .nil))))))⟩
noncomputable def f_law_node:MFun:=⟨8,[(S "pool"),(S "shelf"),(S "above"),(S "name"),(S "given"),(S "deep"),(S "rows"),(S "groups"),(S "home"),(S "head"),(S "part"),(S "full"),(S "whole"),(S "key"),(S "handed"),(S "turn"),(S "key")],
 (.cons (.asg (.many [8,9]) (.tup (.cons (.meth (.var 1) (S "add") (.cons (.dict 0 [] .nil) .nil)) (.cons (.dict 1 [] .nil) .nil))))
  (.cons (.asg (.one 10) (.sub (.tup (.cons (.str (S "a")) (.cons (.str (S "b")) (.cons (.str (S "c")) .nil)))) (.call (.glob 55) (.cons (.var 0) (.cons (.int 3) .nil)))))
  (.cons (.ifs (.or (.cons (.cmp .gt (.var 5) (.int 0)) (.cons (.cmp .lt (.call (.glob 55) (.cons (.var 0) (.cons (.int 5) .nil))) (.int 4)) .nil)))
  (.cons (.put (.var 9) (.str (S "T")) (.call (.glob 1) (.cons (.call (.glob 19) (.cons (.list false (.cons (.call (.glob 17) (.cons (.var 10) .nil)) .nil)) .nil)) .nil)))
  .nil)
  .nil)
  (.cons (.asg (.one 11) (.ife (.cmp .nin (.str (S "T")) (.var 9)) (.var 3) (.ife (.cmp .is (.var 3) .none) (.var 10) (.bin .add false (.bin .add false (.var 3) (.str (S "."))) (.var 10)))))
  (.cons (.ifs (.cmp .isnt (.var 2) .none)
  (.cons (.put (.var 9) (.str (S "Parent")) (.var 2))
  .nil)
  .nil)
  (.cons (.expr (.call (.glob 58) (.cons (.var 0) (.cons (.var 9) (.cons (.var 4) .nil)))))
  (.cons (.asg (.one 12) (.make .dictOf 1 (.var 4)))
  (.cons (.fors (.one 13) (.var 9)
  (.cons (.put (.var 12) (.var 13) (.sub (.var 9) (.var 13)))
  .nil))
  (.cons (.ifs (.and (.cons (.cmp .lt (.var 5) (.int 2)) (.cons (.cmp .eq (.call (.glob 55) (.cons (.var 0) (.cons (.int 3) .nil))) (.int 1)) .nil)))
  (.cons (.asg (.one 14) (.make .dictOf 0 (.lcomp false (.tup (.cons (.var 16) (.cons (.sub (.var 12) (.var 16)) .nil))) (.one 16) (.fwd (.tup (.cons (.str (S "FT")) (.cons (.str (S "Ff")) (.cons (.str (S "V")) (.cons (.str (S "DV")) (.cons (.str (S "MaxLen")) (.cons (.str (S "Opt")) .nil)))))))) (.cons (.cmp .in (.var 16) (.var 12)) .nil))))
  (.cons (.expr (.meth (.var 7) (S "append") (.cons (.tup (.cons (.var 8) (.cons (.var 2) .nil))) .nil)))
  (.cons (.put (.var 9) (.str (S "Kids")) (.lcomp false (.call (.glob 61) (.cons (.var 0) (.cons (.var 1) (.cons (.var 8) (.cons (.var 11) (.cons (.var 14) (.cons (.bin .add false (.var 5) (.int 1)) (.cons (.var 6) (.cons (.var 7) .nil))))))))) (.one 15) (.fwd (.call (.glob 8) (.cons (.bin .add false (.int 1) (.call (.glob 55) (.cons (.var 0) (.cons (.int 2) .nil)))) .nil))) .nil))
  .nil)))
  (.cons (.expr (.meth (.var 6) (S "append") (.cons (.tup (.cons (.ife (.cmp .isnt (.var 11) .none) (.var 11) (.str (S ""))) (.cons (.var 8) (.cons (.var 2) (.cons (.frz (.var 12)) (.cons (.call (.glob 60) (.cons (.var 0) (.cons (.var 1) (.cons (.var 8) (.cons (.var 9) .nil))))) .nil)))))) .nil)))
  .nil))
  (.cons (.expr (.meth (.var 1) (S "put") (.cons (.attr (.var 8) (S "number")) (.cons (.int 0) (.cons (.frz (.var 9)) .nil)))))
  (.cons (.ret (.var 8))
  .nil)))))))))))⟩
noncomputable def f_law_form:MFun:=⟨1,[(S "pool"),(S "shelf"),(S "root"),(S "rows"),(S "groups"),(S "form"),(S "turn")],
 (.cons (.asg (.one 1) (.call (.glob 4) .nil))
  (.cons (.asg (.many [2,3,4]) (.tup (.cons (.meth (.var 1) (S "add") (.cons (.dict 0 [] .nil) .nil)) (.cons (.list true .nil) (.cons (.list true .nil) .nil)))))
  (.cons (.asg (.one 5) (.dict 0 [(S "Fields")] (.cons (.lcomp false (.call (.glob 61) (.cons (.var 0) (.cons (.var 1) (.cons .none (.cons .none (.cons (.dict 0 [] .nil) (.cons (.int 0) (.cons (.var 3) (.cons (.var 4) .nil))))))))) (.one 6) (.fwd (.call (.glob 8) (.cons (.bin .add false (.int 1) (.call (.glob 55) (.cons (.var 0) (.cons (.int 2) .nil)))) .nil))) .nil) .nil)))
  (.cons (.expr (.meth (.var 1) (S "put") (.cons (.attr (.var 2) (S "number")) (.cons (.int 0) (.cons (.dict 0 [(S "AcroForm")] (.cons (.ife (.cmp .eq (.call (.glob 55) (.cons (.var 0) (.cons (.int 2) .nil))) (.int 1)) (.meth (.var 1) (S "add") (.cons (.var 5) .nil)) (.var 5)) .nil)) .nil)))))
  (.cons (.put (.attr (.var 1) (S "trailer")) (.str (S "Root")) (.var 2))
  (.cons (.ret (.tup (.cons (.var 1) (.cons (.frz (.var 3)) (.cons (.frz (.var 4)) .nil)))))
  .nil))))))⟩
noncomputable def f_law_flag:MFun:=⟨2,[(S "whole"),(S "place")],
 (.cons (.ret (.cmp .eq (.bin .mod false (.bin .fdiv false (.meth (.var 0) (S "get") (.cons (.str (S "Ff")) (.cons (.int 0) .nil))) (.bin .pow false (.int 2) (.bin .sub false (.var 1) (.int 1)))) (.int 2)) (.int 1)))
  .nil)⟩
noncomputable def f_law_kind:MFun:=⟨1,[(S "whole"),(S "sort")],
 (.cons (.asg (.one 1) (.attr (.meth (.var 0) (S "get") (.cons (.str (S "FT")) (.cons (.call (.glob 0) (.cons (.str (S "")) .nil)) .nil))) (S "text")))
  (.cons (.ifs (.cmp .eq (.var 1) (.str (S "Btn")))
  (.cons (.ret (.ife (.call (.glob 63) (.cons (.var 0) (.cons (.int 17) .nil))) (.str (S "push")) (.ife (.call (.glob 63) (.cons (.var 0) (.cons (.int 16) .nil))) (.str (S "radio")) (.str (S "check")))))
  .nil)
  .nil)
  (.cons (.ret (.meth (.dict 0 [(S "Tx"),(S "Ch"),(S "Sig")] (.cons (.str (S "text")) (.cons (.str (S "choice")) (.cons (.str (S "signature")) .nil)))) (S "get") (.cons (.var 1) (.cons (.str (S "")) .nil))))
  .nil)))⟩
noncomputable def f_law_plain:MFun:=⟨1,[(S "value"),(S "code")],
 (.cons (.ret (.ife (.call (.glob 9) (.cons (.var 0) (.cons (.glob 1) .nil))) (.meth (.str (S "")) (S "join") (.cons (.lcomp false (.call (.glob 18) (.cons (.var 1) .nil)) (.one 1) (.fwd (.attr (.var 0) (S "octets"))) .nil) .nil)) .none))
  .nil)⟩
noncomputable def f_law_value:MFun:=⟨2,[(S "whole"),(S "key"),(S "kind"),(S "value"),(S "one")],
 (.cons (.asg (.many [2,3]) (.tup (.cons (.call (.glob 64) (.cons (.var 0) .nil)) (.cons (.meth (.var 0) (S "get") (.cons (.var 1) .nil)) .nil))))
  (.cons (.ifs (.cmp .in (.var 2) (.tup (.cons (.str (S "check")) (.cons (.str (S "radio")) .nil))))
  (.cons (.ret (.ife (.call (.glob 9) (.cons (.var 3) (.cons (.glob 0) .nil))) (.attr (.var 3) (S "text")) (.str (S "Off"))))
  .nil)
  .nil)
  (.cons (.ifs (.and (.cons (.cmp .eq (.var 2) (.str (S "choice"))) (.cons (.call (.glob 9) (.cons (.var 3) (.cons (.glob 13) .nil))) .nil)))
  (.cons (.ret (.lcomp false (.call (.glob 65) (.cons (.var 4) .nil)) (.one 4) (.fwd (.var 3)) .nil))
  .nil)
  .nil)
  (.cons (.ret (.ife (.cmp .in (.var 2) (.tup (.cons (.str (S "text")) (.cons (.str (S "choice")) .nil)))) (.call (.glob 65) (.cons (.var 3) .nil)) .none))
  .nil))))⟩
noncomputable def f_law_states:MFun:=⟨3,[(S "shelf"),(S "row"),(S "state"),(S "found"),(S "widget"),(S "names"),(S "is_lone"),(S "key")],
 (.cons (.asg (.one 3) (.list true .nil))
  (.cons (.fors (.one 4) (.sub (.var 1) (.int 4))
  (.cons (.asg (.one 5) (.lcomp false (.var 7) (.one 7) (.fwd (.sub (.sub (.meth (.var 0) (S "fetch") (.cons (.var 4) .nil)) (.str (S "AP"))) (.str (S "N")))) (.cons (.cmp .ne (.var 7) (.str (S "Off"))) .nil)))
  (.cons (.asg (.one 6) (.and (.cons (.cmp .eq (.call (.glob 64) (.cons (.sub (.var 1) (.int 3)) .nil)) (.str (S "radio"))) (.cons (.not (.call (.glob 63) (.cons (.sub (.var 1) (.int 3)) (.cons (.int 26) .nil)))) .nil))))
  (.cons (.expr (.meth (.var 3) (S "append") (.cons (.ife (.and (.cons (.cmp .in (.var 2) (.var 5)) (.cons (.not (.and (.cons (.var 6) (.cons (.cmp .in (.var 2) (.var 3)) .nil)))) .nil))) (.var 2) (.str (S "Off"))) .nil)))
  .nil))))
  (.cons (.ret (.frz (.var 3)))
  .nil)))⟩
noncomputable def f_law_exports:MFun:=⟨1,[(S "whole"),(S "one")],
 (.cons (.ret (.lcomp false (.call (.glob 65) (.cons (.ife (.call (.glob 9) (.cons (.var 1) (.cons (.glob 13) .nil))) (.sub (.var 1) (.int 0)) (.var 1)) .nil)) (.one 1) (.fwd (.meth (.var 0) (S "get") (.cons (.str (S "Opt")) (.cons (.list false .nil) .nil)))) .nil))
  .nil)⟩
noncomputable def f_law_hurt:MFun:=⟨2,[(S "pool"),(S "shelf"),(S "way"),(S "number"),(S "head")],
 (.cons (.asg (.many [2,3]) (.tup (.cons (.call (.glob 55) (.cons (.var 0) (.cons (.int 5) .nil))) (.cons (.sub (.meth (.var 1) (S "numbers") .nil) (.bin .mod false (.call (.glob 55) (.cons (.var 0) (.cons (.int 9) .nil))) (.call (.glob 7) (.cons (.meth (.var 1) (S "numbers") .nil) .nil)))) .nil))))
  (.cons (.asg (.one 4) (.make .dictOf 1 (.sub (.sub (.attr (.var 1) (S "table")) (.var 3)) (.int 1))))
  (.cons (.ifs (.or (.cons (.cmp .eq (.var 3) (.int 1)) (.cons (.cmp .in (.str (S "Fields")) (.var 4)) .nil)))
  (.cons .ret0
  .nil)
  .nil)
  (.cons (.ifs (.cmp .eq (.var 2) (.int 1))
  (.cons (.expr (.meth (.var 4) (S "pop") (.cons (.str (S "Parent")) (.cons .none .nil))))
  .nil)
  (.cons (.ifs (.cmp .eq (.var 2) (.int 2))
  (.cons (.put (.var 4) (.str (S "Parent")) (.call (.glob 2) (.cons (.bin .add false (.int 1) (.call (.glob 55) (.cons (.var 0) (.cons (.int 9) .nil)))) (.cons (.int 0) .nil))))
  .nil)
  (.cons (.ifs (.cmp .eq (.var 2) (.int 3))
  (.cons (.put (.var 4) (.str (S "Parent")) (.int 5))
  .nil)
  (.cons (.ifs (.and (.cons (.cmp .eq (.var 2) (.int 4)) (.cons (.cmp .in (.str (S "T")) (.var 4)) .nil)))
  (.cons (.put (.var 4) (.str (S "T")) (.call (.glob 1) (.cons (.byts [97,46,98]) .nil)))
  .nil)
  .nil)
  .nil))
  .nil))
  .nil))
  (.cons (.expr (.meth (.var 1) (S "put") (.cons (.var 3) (.cons (.int 0) (.cons (.frz (.var 4)) .nil)))))
  .nil)))))⟩
noncomputable def f_law_links:MFun:=⟨3,[(S "shelf"),(S "home"),(S "above"),(S "head"),(S "parent"),(S "found")],
 (.cons (.asg (.one 3) (.meth (.var 0) (S "fetch") (.cons (.var 1) .nil)))
  (.cons (.asg (.one 4) (.meth (.var 3) (S "get") (.cons (.str (S "Parent")) .nil)))
  (.cons (.asg (.one 5) (.list true .nil))
  (.cons (.ifs (.cmp .ne (.ife (.call (.glob 9) (.cons (.var 4) (.cons (.glob 2) .nil))) (.attr (.var 4) (S "number")) (.int 0)) (.ife (.cmp .is (.var 2) .none) (.int 0) (.attr (.var 2) (S "number"))))
  (.cons (.expr (.meth (.var 5) (S "append") (.cons (.str (S "wrong Parent")) .nil)))
  .nil)
  .nil)
  (.cons (.ifs (.and (.cons (.cmp .in (.str (S "T")) (.var 3)) (.cons (.cmp .in (.byts [46]) (.attr (.sub (.var 3) (.str (S "T"))) (S "octets"))) .nil)))
  (.cons (.expr (.meth (.var 5) (S "append") (.cons (.str (S "a dot in T")) .nil)))
  .nil)
  .nil)
  (.cons (.ret (.frz (.var 5)))
  .nil))))))⟩
noncomputable def f_law_value_words:MFun:=⟨2,[(S "shelf"),(S "row"),(S "whole"),(S "kind"),(S "value"),(S "some"),(S "heard"),(S "widget"),(S "one")],
 (.cons (.asg (.one 2) (.sub (.var 1) (.int 3)))
  (.cons (.asg (.many [3,4]) (.tup (.cons (.call (.glob 64) (.cons (.var 2) .nil)) (.cons (.call (.glob 66) (.cons (.var 2) (.cons (.str (S "V")) .nil))) .nil))))
  (.cons (.ifs (.and (.cons (.cmp .eq (.var 3) (.str (S "text"))) (.cons (.cmp .isnt (.var 4) .none) (.cons (.cmp .in (.str (S "MaxLen")) (.var 2)) (.cons (.cmp .gt (.call (.glob 7) (.cons (.var 4) .nil)) (.int 3)) .nil)))))
  (.cons (.ret (.list false (.cons (.str (S "too long")) .nil)))
  .nil)
  .nil)
  (.cons (.ifs (.and (.cons (.cmp .eq (.var 3) (.str (S "choice"))) (.cons (.cmp .isnt (.var 4) .none) (.cons (.not (.and (.cons (.call (.glob 63) (.cons (.var 2) (.cons (.int 18) .nil))) (.cons (.call (.glob 63) (.cons (.var 2) (.cons (.int 19) .nil))) .nil)))) .nil))))
  (.cons (.asg (.one 5) (.ife (.call (.glob 9) (.cons (.var 4) (.cons (.glob 13) .nil))) (.var 4) (.list false (.cons (.var 4) .nil))))
  (.cons (.ret (.ife (.cmp .gt (.call (.glob 7) (.cons (.lcomp false (.var 8) (.one 8) (.fwd (.var 5)) (.cons (.cmp .nin (.var 8) (.call (.glob 68) (.cons (.var 2) .nil))) .nil)) .nil)) (.int 0)) (.list false (.cons (.str (S "not among Opt")) .nil)) (.list false .nil)))
  .nil))
  .nil)
  (.cons (.ifs (.cmp .in (.var 3) (.tup (.cons (.str (S "check")) (.cons (.str (S "radio")) .nil))))
  (.cons (.asg (.one 6) (.lcomp false (.attr (.sub (.meth (.var 0) (S "fetch") (.cons (.var 7) .nil)) (.str (S "AS"))) (S "text")) (.one 7) (.fwd (.sub (.var 1) (.int 4))) .nil))
  (.cons (.ret (.ife (.cmp .eq (.var 6) (.call (.glob 67) (.cons (.var 0) (.cons (.var 1) (.cons (.var 4) .nil))))) (.list false .nil) (.list false (.cons (.str (S "wrong AS")) .nil))))
  .nil))
  .nil)
  (.cons (.ret (.ife (.cmp .eq (.var 3) (.str (S ""))) (.list false (.cons (.str (S "no kind")) .nil)) (.list false .nil)))
  .nil))))))⟩
noncomputable def f_law:MFun:=⟨1,[(S "script"),(S "pool"),(S "shelf"),(S "rows"),(S "groups"),(S "ups"),(S "due"),(S "home"),(S "above"),(S "kinds"),(S "row"),(S "parts"),(S "here"),(S "beyond"),(S "head"),(S "name"),(S "words"),(S "what"),(S "what"),(S "home"),(S "above"),(S "number")],
 (.cons (.asg (.one 1) (.lcomp true (.bin .mod false (.call (.glob 16) (.cons (.var 21) .nil)) (.bin .pow false (.int 10) (.int 80))) (.one 21) (.fwd (.upto (.var 0) (.int 24))) .nil))
  (.cons (.asg (.many [2,3,4]) (.call (.glob 62) (.cons (.var 1) .nil)))
  (.cons (.expr (.call (.glob 69) (.cons (.var 1) (.cons (.var 2) .nil))))
  (.cons (.asg (.one 5) (.make .dictOf 2 (.lcomp false (.tup (.cons (.attr (.var 19) (S "number")) (.cons (.var 20) .nil))) (.many [19,20]) (.fwd (.var 4)) .nil)))
  (.cons (.asg (.one 6) (.list true .nil))
  (.cons (.fors (.many [7,8]) (.var 4)
  (.cons (.expr (.meth (.var 6) (S "extend") (.cons (.lcomp false (.tup (.cons (.attr (.var 7) (S "number")) (.cons (.var 18) .nil))) (.one 18) (.fwd (.call (.glob 70) (.cons (.var 2) (.cons (.var 7) (.cons (.var 8) .nil))))) .nil) .nil)))
  .nil))
  (.cons (.asg (.one 9) (.dict 1 [] .nil))
  (.cons (.fors (.one 10) (.var 3)
  (.cons (.asg (.one 11) (.list false .nil))
  (.cons (.asg (.many [12,13]) (.tup (.cons (.sub (.var 10) (.int 1)) (.cons (.sub (.var 10) (.int 2)) .nil))))
  (.cons (.whiles (.cmp .isnt (.var 12) .none)
  (.cons (.asg (.one 14) (.meth (.var 2) (S "fetch") (.cons (.var 12) .nil)))
  (.cons (.asg (.one 11) (.bin .add false (.ife (.cmp .in (.str (S "T")) (.var 14)) (.list false (.cons (.call (.glob 65) (.cons (.sub (.var 14) (.str (S "T"))) .nil)) .nil)) (.list false .nil)) (.var 11)))
  (.cons (.asg (.many [12,13]) (.tup (.cons (.var 13) (.cons (.ife (.cmp .is (.var 13) .none) .none (.sub (.var 5) (.attr (.var 13) (S "number")))) .nil))))
  .nil))))
  (.cons (.asg (.one 15) (.meth (.str (S ".")) (S "join") (.cons (.var 11) .nil)))
  (.cons (.asg (.one 16) (.bin .add true (.call (.glob 70) (.cons (.var 2) (.cons (.sub (.var 10) (.int 1)) (.cons (.sub (.var 10) (.int 2)) .nil)))) (.call (.glob 71) (.cons (.var 2) (.cons (.var 10) .nil)))))
  (.cons (.ifs (.and (.cons (.cmp .in (.var 15) (.var 9)) (.cons (.cmp .ne (.sub (.var 9) (.var 15)) (.call (.glob 64) (.cons (.sub (.var 10) (.int 3)) .nil))) .nil)))
  (.cons (.expr (.meth (.var 16) (S "append") (.cons (.str (S "two kinds of one name")) .nil)))
  .nil)
  .nil)
  (.cons (.put (.var 9) (.var 15) (.call (.glob 64) (.cons (.sub (.var 10) (.int 3)) .nil)))
  (.cons (.expr (.meth (.var 6) (S "extend") (.cons (.lcomp false (.tup (.cons (.attr (.sub (.var 10) (.int 1)) (S "number")) (.cons (.var 17) .nil))) (.one 17) (.fwd (.frz (.var 16))) .nil) .nil)))
  .nil)))))))))
  (.cons (.ret (.cmp .eq (.call (.glob 54) (.cons (.var 2) .nil)) (.var 6)))
  .nil)))))))))⟩
noncomputable def i_Name:MInit:=⟨1,[(S "self"),(S "text")],[],[(S "text")],(.cons (.var 1) .nil)⟩
noncomputable def i_String:MInit:=⟨2,[(S "self"),(S "octets"),(S "is_hex")],[.bool false],[(S "octets"),(S "is_hex")],(.cons (.var 1) (.cons (.var 2) .nil))⟩
noncomputable def i_Reference:MInit:=⟨2,[(S "self"),(S "number"),(S "generation")],[],[(S "number"),(S "generation")],(.cons (.var 1) (.cons (.var 2) .nil))⟩
noncomputable def i_Shelf:MInit:=⟨2,[(S "self"),(S "table"),(S "trailer")],[.none,.none],[(S "table"),(S "trailer")],(.cons (.ife (.cmp .is (.var 1) .none) (.dict 2 [] .nil) (.var 1)) (.cons (.ife (.cmp .is (.var 2) .none) (.dict 1 [] .nil) (.var 2)) .nil))⟩
noncomputable def i_Field:MInit:=⟨6,[(S "self"),(S "name"),(S "reference"),(S "above"),(S "widgets"),(S "head"),(S "kind")],[],[(S "name"),(S "reference"),(S "above"),(S "widgets"),(S "head"),(S "kind")],(.cons (.var 1) (.cons (.var 2) (.cons (.var 3) (.cons (.var 4) (.cons (.var 5) (.cons (.var 6) .nil))))))⟩
noncomputable def i_FormWalk:MInit:=⟨0,[(S "self")],[],[(S "fields"),(S "nodes"),(S "seen")],(.cons (.list true .nil) (.cons (.list true .nil) (.cons (.dict 2 [] .nil) .nil)))⟩
noncomputable def funs:List MFun:=[f_Lookup_fetch,f_Lookup_get,f_Shelf_put,f_Shelf_add,f_Shelf_numbers,f_Shelf_root,f_Reference_pair,f_sign_of,f_text_of,f_home_of,f_flag_place,f_flag_set,f_whole_in,f_flags_of,f_has_flag,f_form_of,f_row_in,f_own_name,f_longer_name,f_kind_word,f_with_inherited,f_new_node,f_is_field,f_own_widgets,f_walked_form,f_text_in,f_state_in,f_value_in,f_options,f_on_states,f_shown_states,f_node_faults,f_value_faults,f_field_faults,f_law_take,f_law_string,f_law_object,f_law_entries,f_law_look,f_law_widgets,f_law_node,f_law_form,f_law_flag,f_law_kind,f_law_plain,f_law_value,f_law_states,f_law_exports,f_law_hurt,f_law_links,f_law_value_words,f_law]
noncomputable def funOf (k:Nat):Option MFun:=funs[k]?
noncomputable def initL:List (Option MInit):=[some i_Name,some i_String,some i_Reference,none,some i_Shelf,some i_Field,some i_FormWalk]
noncomputable def initOf (c:Nat):Option MInit:=initL[c]?.join
noncomputable def callF:Nat→Calls
 | 0,_,_=>fail
 | n+1,k,vs=>if k<100 then (match funOf k with
   | some f=>runF (callF n) f vs
   | none=>fail) else (match initOf (k-100) with
   | some f=>runI (callF n) (k-100) f vs
   | none=>fail)
noncomputable abbrev Sc:=List (Str×NameKind)
noncomputable abbrev Nm:=List (Str×Nat)
noncomputable def globNm:List Str:=[S "Name",S "String",S "Reference",S "Lookup",S "Shelf",S "Field",S "FormWalk",S "len",S "range",S "isinstance",S "reversed",S "sorted",S "dict",S "list",S "tuple",S "sum",S "abs",S "ord",S "chr",S "bytes",S "all",S "int",S "bool",S "MOST_HOPS",S "OFF",S "INHERITED_KEYS",S "MARK",S "UNKNOWN",S "sign_of",S "text_of",S "home_of",S "flag_place",S "flag_set",S "whole_in",S "flags_of",S "has_flag",S "form_of",S "row_in",S "own_name",S "longer_name",S "kind_word",S "with_inherited",S "new_node",S "is_field",S "own_widgets",S "walked_form",S "text_in",S "state_in",S "value_in",S "options",S "on_states",S "shown_states",S "node_faults",S "value_faults",S "field_faults",S "_law_take",S "_law_string",S "_law_object",S "_law_entries",S "_law_look",S "_law_widgets",S "_law_node",S "_law_form",S "_law_flag",S "_law_kind",S "_law_plain",S "_law_value",S "_law_states",S "_law_exports",S "_law_hurt",S "_law_links",S "_law_value_words",S "law"]
section
variable {α:Type}
theorem dk {c:Prop} [Decidable c] {t:c→Bool} {G:Prop} (h:(if q:c then t q else false)=true) (k:∀ q,t q=true→G):G:=
 if q:c then k q ((dif_pos q).symm.trans h) else absurd ((dif_neg q).symm.trans h) Bool.false_ne_true
theorem andk {a b:Bool} {G:Prop} (h:(a&&b)=true) (k:a=true→b=true→G):G:=k (Bool.and_eq_true ..▸h).1 (Bool.and_eq_true ..▸h).2
theorem deck {c:Prop} [Decidable c] {G:Prop} (h:decide c=true) (k:c→G):G:=k (of_decide_eq_true h)
theorem eqk {α:Type} [DecidableEq α] {a b:α} {G:α→Prop} (h:decide (a=b)=true) (k:G b):G a:=(of_decide_eq_true h).symm▸k
theorem nilk {l:List α} {G:List α→Prop} (h:l.isEmpty=true) (k:G []):G l:=by
 cases l with
 | nil=>exact k
 | cons=>cases h
noncomputable def l1 (l:List α) (k:α→Bool):Bool:=match l with
 | [a]=>k a
 | _=>false
theorem l1k {l:List α} {k:α→Bool} {G:List α→Prop} (h:l1 l k=true) (g:∀ a,k a=true→G [a]):G l:=
 match l,h with
 | [a],h=>g a h
 | [],h=>nomatch h
 | _::_::_,h=>nomatch h
noncomputable def l2 (l:List α) (k:α→α→Bool):Bool:=match l with
 | [a,b]=>k a b
 | _=>false
theorem l2k {l:List α} {k:α→α→Bool} {G:List α→Prop} (h:l2 l k=true) (g:∀ a b,k a b=true→G [a,b]):G l:=
 match l,h with
 | [a,b],h=>g a b h
 | [],h=>nomatch h
 | [_],h=>nomatch h
 | _::_::_::_,h=>nomatch h
noncomputable def lc (l:List α) (k:α→List α→Bool):Bool:=match l with
 | []=>false
 | a::r=>k a r
theorem lck {l:List α} {k:α→List α→Bool} {G:List α→Prop} (h:lc l k=true) (g:∀ a r,k a r=true→G (a::r)):G l:=
 match l,h with
 | a::r,h=>g a r h
 | [],h=>nomatch h
noncomputable def oB (o:Option α) (k:α→Bool):Bool:=match o with
 | some a=>k a
 | none=>false
theorem oBk {o:Option α} {k:α→Bool} {G:Option α→Prop} (h:oB o k=true) (g:∀ a,k a=true→G (some a)):G o:=
 match o,h with
 | some a,h=>g a h
 | none,h=>nomatch h
theorem oBk' {o:Option α} {k:α→Bool} {G:Prop} (h:oB o k=true) (g:∀ a,o=some a→k a=true→G):G:=oBk (G:=fun o'=>o=o'→G) h (fun a h e=>g a e h) rfl
noncomputable def o0 (o:Option α):Bool:=match o with
 | some _=>false
 | none=>true
theorem o0k {o:Option α} {G:Option α→Prop} (h:o0 o=true) (g:G none):G o:=
 match o,h with
 | some a,h=>nomatch h
 | none,h=>g
theorem obk {β:Type} {o:Option α} {f:α→Option β} {r:β} {G:Prop} (h:o.bind f=some r) (k:∀ a,o=some a→f a=some r→G):G:=
 match o,h,k with
 | some a,h,k=>k a rfl h
 | none,h,_=>nomatch h
end
noncomputable def xBoolOp (e:PySem.Expr) (k:BoolOp→List PySem.Expr→Pos→Bool):Bool:=if h:e.ctorIdx=0 then PySem.Expr.BoolOp.elim (motive_1:=fun _=>Bool) e h k else false
theorem xBoolOpk {e:PySem.Expr} {k:BoolOp→List PySem.Expr→Pos→Bool} {G:PySem.Expr→Prop} (h:xBoolOp e k=true) (g:∀ o xs p,k o xs p=true→G (.BoolOp o xs p)):G e:=
 dk h fun q h=>PySem.Expr.BoolOp.elim (motive_1:=fun e=>∀ q,PySem.Expr.BoolOp.elim (motive_1:=fun _=>Bool) e q k=true→G e) e q (fun o xs p _ h=>g o xs p h) q h
noncomputable def xBinOp (e:PySem.Expr) (k:PySem.Expr→Operator→PySem.Expr→Pos→Bool):Bool:=if h:e.ctorIdx=2 then PySem.Expr.BinOp.elim (motive_1:=fun _=>Bool) e h k else false
theorem xBinOpk {e:PySem.Expr} {k:PySem.Expr→Operator→PySem.Expr→Pos→Bool} {G:PySem.Expr→Prop} (h:xBinOp e k=true) (g:∀ l o r p,k l o r p=true→G (.BinOp l o r p)):G e:=
 dk h fun q h=>PySem.Expr.BinOp.elim (motive_1:=fun e=>∀ q,PySem.Expr.BinOp.elim (motive_1:=fun _=>Bool) e q k=true→G e) e q (fun l o r p _ h=>g l o r p h) q h
noncomputable def xUnaryOp (e:PySem.Expr) (k:UnaryOp→PySem.Expr→Pos→Bool):Bool:=if h:e.ctorIdx=3 then PySem.Expr.UnaryOp.elim (motive_1:=fun _=>Bool) e h k else false
theorem xUnaryOpk {e:PySem.Expr} {k:UnaryOp→PySem.Expr→Pos→Bool} {G:PySem.Expr→Prop} (h:xUnaryOp e k=true) (g:∀ o x p,k o x p=true→G (.UnaryOp o x p)):G e:=
 dk h fun q h=>PySem.Expr.UnaryOp.elim (motive_1:=fun e=>∀ q,PySem.Expr.UnaryOp.elim (motive_1:=fun _=>Bool) e q k=true→G e) e q (fun o x p _ h=>g o x p h) q h
noncomputable def xIfExp (e:PySem.Expr) (k:PySem.Expr→PySem.Expr→PySem.Expr→Pos→Bool):Bool:=if h:e.ctorIdx=5 then PySem.Expr.IfExp.elim (motive_1:=fun _=>Bool) e h k else false
theorem xIfExpk {e:PySem.Expr} {k:PySem.Expr→PySem.Expr→PySem.Expr→Pos→Bool} {G:PySem.Expr→Prop} (h:xIfExp e k=true) (g:∀ a b c p,k a b c p=true→G (.IfExp a b c p)):G e:=
 dk h fun q h=>PySem.Expr.IfExp.elim (motive_1:=fun e=>∀ q,PySem.Expr.IfExp.elim (motive_1:=fun _=>Bool) e q k=true→G e) e q (fun a b c p _ h=>g a b c p h) q h
noncomputable def xDict (e:PySem.Expr) (k:List (Option PySem.Expr)→List PySem.Expr→Pos→Bool):Bool:=if h:e.ctorIdx=6 then PySem.Expr.Dict.elim (motive_1:=fun _=>Bool) e h k else false
theorem xDictk {e:PySem.Expr} {k:List (Option PySem.Expr)→List PySem.Expr→Pos→Bool} {G:PySem.Expr→Prop} (h:xDict e k=true) (g:∀ ks xs p,k ks xs p=true→G (.Dict ks xs p)):G e:=
 dk h fun q h=>PySem.Expr.Dict.elim (motive_1:=fun e=>∀ q,PySem.Expr.Dict.elim (motive_1:=fun _=>Bool) e q k=true→G e) e q (fun ks xs p _ h=>g ks xs p h) q h
noncomputable def xListComp (e:PySem.Expr) (k:PySem.Expr→List Comprehension→Scope→Pos→Bool):Bool:=if h:e.ctorIdx=8 then PySem.Expr.ListComp.elim (motive_1:=fun _=>Bool) e h k else false
theorem xListCompk {e:PySem.Expr} {k:PySem.Expr→List Comprehension→Scope→Pos→Bool} {G:PySem.Expr→Prop} (h:xListComp e k=true) (g:∀ x gs sc p,k x gs sc p=true→G (.ListComp x gs sc p)):G e:=
 dk h fun q h=>PySem.Expr.ListComp.elim (motive_1:=fun e=>∀ q,PySem.Expr.ListComp.elim (motive_1:=fun _=>Bool) e q k=true→G e) e q (fun x gs sc p _ h=>g x gs sc p h) q h
noncomputable def xDictComp (e:PySem.Expr) (k:PySem.Expr→PySem.Expr→List Comprehension→Scope→Pos→Bool):Bool:=if h:e.ctorIdx=10 then PySem.Expr.DictComp.elim (motive_1:=fun _=>Bool) e h k else false
theorem xDictCompk {e:PySem.Expr} {k:PySem.Expr→PySem.Expr→List Comprehension→Scope→Pos→Bool} {G:PySem.Expr→Prop} (h:xDictComp e k=true) (g:∀ x y gs sc p,k x y gs sc p=true→G (.DictComp x y gs sc p)):G e:=
 dk h fun q h=>PySem.Expr.DictComp.elim (motive_1:=fun e=>∀ q,PySem.Expr.DictComp.elim (motive_1:=fun _=>Bool) e q k=true→G e) e q (fun x y gs sc p _ h=>g x y gs sc p h) q h
noncomputable def xCompare (e:PySem.Expr) (k:PySem.Expr→List CmpOp→List PySem.Expr→Pos→Bool):Bool:=if h:e.ctorIdx=15 then PySem.Expr.Compare.elim (motive_1:=fun _=>Bool) e h k else false
theorem xComparek {e:PySem.Expr} {k:PySem.Expr→List CmpOp→List PySem.Expr→Pos→Bool} {G:PySem.Expr→Prop} (h:xCompare e k=true) (g:∀ x os xs p,k x os xs p=true→G (.Compare x os xs p)):G e:=
 dk h fun q h=>PySem.Expr.Compare.elim (motive_1:=fun e=>∀ q,PySem.Expr.Compare.elim (motive_1:=fun _=>Bool) e q k=true→G e) e q (fun x os xs p _ h=>g x os xs p h) q h
noncomputable def xCall (e:PySem.Expr) (k:PySem.Expr→List PySem.Expr→List Keyword→Pos→Bool):Bool:=if h:e.ctorIdx=16 then PySem.Expr.Call.elim (motive_1:=fun _=>Bool) e h k else false
theorem xCallk {e:PySem.Expr} {k:PySem.Expr→List PySem.Expr→List Keyword→Pos→Bool} {G:PySem.Expr→Prop} (h:xCall e k=true) (g:∀ f xs ks p,k f xs ks p=true→G (.Call f xs ks p)):G e:=
 dk h fun q h=>PySem.Expr.Call.elim (motive_1:=fun e=>∀ q,PySem.Expr.Call.elim (motive_1:=fun _=>Bool) e q k=true→G e) e q (fun f xs ks p _ h=>g f xs ks p h) q h
noncomputable def xConstant (e:PySem.Expr) (k:Const→Nat→Pos→Bool):Bool:=if h:e.ctorIdx=19 then PySem.Expr.Constant.elim (motive_1:=fun _=>Bool) e h k else false
theorem xConstantk {e:PySem.Expr} {k:Const→Nat→Pos→Bool} {G:PySem.Expr→Prop} (h:xConstant e k=true) (g:∀ c n p,k c n p=true→G (.Constant c n p)):G e:=
 dk h fun q h=>PySem.Expr.Constant.elim (motive_1:=fun e=>∀ q,PySem.Expr.Constant.elim (motive_1:=fun _=>Bool) e q k=true→G e) e q (fun c n p _ h=>g c n p h) q h
noncomputable def xAttribute (e:PySem.Expr) (k:PySem.Expr→Str→Pos→Bool):Bool:=if h:e.ctorIdx=20 then PySem.Expr.Attribute.elim (motive_1:=fun _=>Bool) e h k else false
theorem xAttributek {e:PySem.Expr} {k:PySem.Expr→Str→Pos→Bool} {G:PySem.Expr→Prop} (h:xAttribute e k=true) (g:∀ x n p,k x n p=true→G (.Attribute x n p)):G e:=
 dk h fun q h=>PySem.Expr.Attribute.elim (motive_1:=fun e=>∀ q,PySem.Expr.Attribute.elim (motive_1:=fun _=>Bool) e q k=true→G e) e q (fun x n p _ h=>g x n p h) q h
noncomputable def xSubscript (e:PySem.Expr) (k:PySem.Expr→PySem.Expr→Pos→Bool):Bool:=if h:e.ctorIdx=21 then PySem.Expr.Subscript.elim (motive_1:=fun _=>Bool) e h k else false
theorem xSubscriptk {e:PySem.Expr} {k:PySem.Expr→PySem.Expr→Pos→Bool} {G:PySem.Expr→Prop} (h:xSubscript e k=true) (g:∀ x y p,k x y p=true→G (.Subscript x y p)):G e:=
 dk h fun q h=>PySem.Expr.Subscript.elim (motive_1:=fun e=>∀ q,PySem.Expr.Subscript.elim (motive_1:=fun _=>Bool) e q k=true→G e) e q (fun x y p _ h=>g x y p h) q h
noncomputable def xName (e:PySem.Expr) (k:Str→Pos→Bool):Bool:=if h:e.ctorIdx=23 then PySem.Expr.Name.elim (motive_1:=fun _=>Bool) e h k else false
theorem xNamek {e:PySem.Expr} {k:Str→Pos→Bool} {G:PySem.Expr→Prop} (h:xName e k=true) (g:∀ n p,k n p=true→G (.Name n p)):G e:=
 dk h fun q h=>PySem.Expr.Name.elim (motive_1:=fun e=>∀ q,PySem.Expr.Name.elim (motive_1:=fun _=>Bool) e q k=true→G e) e q (fun n p _ h=>g n p h) q h
noncomputable def xList (e:PySem.Expr) (k:List PySem.Expr→Pos→Bool):Bool:=if h:e.ctorIdx=24 then PySem.Expr.List.elim (motive_1:=fun _=>Bool) e h k else false
theorem xListk {e:PySem.Expr} {k:List PySem.Expr→Pos→Bool} {G:PySem.Expr→Prop} (h:xList e k=true) (g:∀ xs p,k xs p=true→G (.List xs p)):G e:=
 dk h fun q h=>PySem.Expr.List.elim (motive_1:=fun e=>∀ q,PySem.Expr.List.elim (motive_1:=fun _=>Bool) e q k=true→G e) e q (fun xs p _ h=>g xs p h) q h
noncomputable def xTuple (e:PySem.Expr) (k:List PySem.Expr→Nat→Pos→Bool):Bool:=if h:e.ctorIdx=25 then PySem.Expr.Tuple.elim (motive_1:=fun _=>Bool) e h k else false
theorem xTuplek {e:PySem.Expr} {k:List PySem.Expr→Nat→Pos→Bool} {G:PySem.Expr→Prop} (h:xTuple e k=true) (g:∀ xs n p,k xs n p=true→G (.Tuple xs n p)):G e:=
 dk h fun q h=>PySem.Expr.Tuple.elim (motive_1:=fun e=>∀ q,PySem.Expr.Tuple.elim (motive_1:=fun _=>Bool) e q k=true→G e) e q (fun xs n p _ h=>g xs n p h) q h
noncomputable def xSlice (e:PySem.Expr) (k:Option PySem.Expr→Option PySem.Expr→Option PySem.Expr→Pos→Bool):Bool:=if h:e.ctorIdx=26 then PySem.Expr.Slice.elim (motive_1:=fun _=>Bool) e h k else false
theorem xSlicek {e:PySem.Expr} {k:Option PySem.Expr→Option PySem.Expr→Option PySem.Expr→Pos→Bool} {G:PySem.Expr→Prop} (h:xSlice e k=true) (g:∀ a b c p,k a b c p=true→G (.Slice a b c p)):G e:=
 dk h fun q h=>PySem.Expr.Slice.elim (motive_1:=fun e=>∀ q,PySem.Expr.Slice.elim (motive_1:=fun _=>Bool) e q k=true→G e) e q (fun a b c p _ h=>g a b c p h) q h
noncomputable def sReturn (e:PySem.Stmt) (k:Option PySem.Expr→Pos→Bool):Bool:=if h:e.ctorIdx=3 then PySem.Stmt.Return.elim (motive_2:=fun _=>Bool) e h k else false
theorem sReturnk {e:PySem.Stmt} {k:Option PySem.Expr→Pos→Bool} {G:PySem.Stmt→Prop} (h:sReturn e k=true) (g:∀ x p,k x p=true→G (.Return x p)):G e:=
 dk h fun q h=>PySem.Stmt.Return.elim (motive_2:=fun e=>∀ q,PySem.Stmt.Return.elim (motive_2:=fun _=>Bool) e q k=true→G e) e q (fun x p _ h=>g x p h) q h
noncomputable def sAssign (e:PySem.Stmt) (k:List PySem.Expr→PySem.Expr→Pos→Bool):Bool:=if h:e.ctorIdx=5 then PySem.Stmt.Assign.elim (motive_2:=fun _=>Bool) e h k else false
theorem sAssignk {e:PySem.Stmt} {k:List PySem.Expr→PySem.Expr→Pos→Bool} {G:PySem.Stmt→Prop} (h:sAssign e k=true) (g:∀ ts x p,k ts x p=true→G (.Assign ts x p)):G e:=
 dk h fun q h=>PySem.Stmt.Assign.elim (motive_2:=fun e=>∀ q,PySem.Stmt.Assign.elim (motive_2:=fun _=>Bool) e q k=true→G e) e q (fun ts x p _ h=>g ts x p h) q h
noncomputable def sFor (e:PySem.Stmt) (k:PySem.Expr→PySem.Expr→List PySem.Stmt→List PySem.Stmt→Pos→Bool):Bool:=if h:e.ctorIdx=9 then PySem.Stmt.For.elim (motive_2:=fun _=>Bool) e h k else false
theorem sFork {e:PySem.Stmt} {k:PySem.Expr→PySem.Expr→List PySem.Stmt→List PySem.Stmt→Pos→Bool} {G:PySem.Stmt→Prop} (h:sFor e k=true) (g:∀ t x a b p,k t x a b p=true→G (.For t x a b p)):G e:=
 dk h fun q h=>PySem.Stmt.For.elim (motive_2:=fun e=>∀ q,PySem.Stmt.For.elim (motive_2:=fun _=>Bool) e q k=true→G e) e q (fun t x a b p _ h=>g t x a b p h) q h
noncomputable def sWhile (e:PySem.Stmt) (k:PySem.Expr→List PySem.Stmt→List PySem.Stmt→Pos→Bool):Bool:=if h:e.ctorIdx=11 then PySem.Stmt.While.elim (motive_2:=fun _=>Bool) e h k else false
theorem sWhilek {e:PySem.Stmt} {k:PySem.Expr→List PySem.Stmt→List PySem.Stmt→Pos→Bool} {G:PySem.Stmt→Prop} (h:sWhile e k=true) (g:∀ x a b p,k x a b p=true→G (.While x a b p)):G e:=
 dk h fun q h=>PySem.Stmt.While.elim (motive_2:=fun e=>∀ q,PySem.Stmt.While.elim (motive_2:=fun _=>Bool) e q k=true→G e) e q (fun x a b p _ h=>g x a b p h) q h
noncomputable def sIf (e:PySem.Stmt) (k:PySem.Expr→List PySem.Stmt→List PySem.Stmt→Pos→Bool):Bool:=if h:e.ctorIdx=12 then PySem.Stmt.If.elim (motive_2:=fun _=>Bool) e h k else false
theorem sIfk {e:PySem.Stmt} {k:PySem.Expr→List PySem.Stmt→List PySem.Stmt→Pos→Bool} {G:PySem.Stmt→Prop} (h:sIf e k=true) (g:∀ x a b p,k x a b p=true→G (.If x a b p)):G e:=
 dk h fun q h=>PySem.Stmt.If.elim (motive_2:=fun e=>∀ q,PySem.Stmt.If.elim (motive_2:=fun _=>Bool) e q k=true→G e) e q (fun x a b p _ h=>g x a b p h) q h
noncomputable def sExpr (e:PySem.Stmt) (k:PySem.Expr→Pos→Bool):Bool:=if h:e.ctorIdx=24 then PySem.Stmt.Expr.elim (motive_2:=fun _=>Bool) e h k else false
theorem sExprk {e:PySem.Stmt} {k:PySem.Expr→Pos→Bool} {G:PySem.Stmt→Prop} (h:sExpr e k=true) (g:∀ x p,k x p=true→G (.Expr x p)):G e:=
 dk h fun q h=>PySem.Stmt.Expr.elim (motive_2:=fun e=>∀ q,PySem.Stmt.Expr.elim (motive_2:=fun _=>Bool) e q k=true→G e) e q (fun x p _ h=>g x p h) q h
noncomputable def opOf:Bop→Operator
 | .add=>.Add|.sub=>.Sub|.mod=>.Mod|.fdiv=>.FloorDiv|.pow=>.Pow|.shr=>.RShift|.band=>.BitAnd
noncomputable def copOf:Cop→CmpOp
 | .eq=>.Eq|.ne=>.NotEq|.lt=>.Lt|.le=>.LtE|.gt=>.Gt|.ge=>.GtE|.is=>.Is|.isnt=>.IsNot|.in=>.In|.nin=>.NotIn
noncomputable def mkNm:Mk→Str
 | .dictOf=>S "dict" | .listOf=>S "list" | .sortedOf=>S "sorted"
noncomputable def isGlob (sc:Sc) (x:Str):Bool:=sc.lookup x == some .globalImplicit&&!(x == ("__debug__":Str))
noncomputable def isVar (sc:Sc) (nm:Nm) (x:Str) (i:Nat):Bool:=(sc.lookup x == some .local || sc.lookup x == some .cell || sc.lookup x == some .free)&&nm.lookup x == some i&&!(x == ("__debug__":Str))&&!(x == ("__classdict__":Str))
noncomputable def noSlice (e:PySem.Expr):Bool:=!(Nat.beq e.ctorIdx 26)
noncomputable def noSet (e:PySem.Expr):Bool:=!(Nat.beq e.ctorIdx 7)
noncomputable def plainBase (e:PySem.Expr):Bool:=!(xCall e fun f _ _ _=>Nat.beq f.ctorIdx 23)
noncomputable def oName (e:PySem.Expr):Option Str:=if h:e.ctorIdx=23 then PySem.Expr.Name.elim (motive_1:=fun _=>Option Str) e h (fun x _=>some x) else none
theorem oNamek {e:PySem.Expr} {x:Str} {G:PySem.Expr→Prop} (h:oName e=some x) (g:∀ p,G (.Name x p)):G e:=
 if q:e.ctorIdx=23 then PySem.Expr.Name.elim (motive_1:=fun e=>∀ q,PySem.Expr.Name.elim (motive_1:=fun _=>Option Str) e q (fun x _=>some x)=some x→G e) e q (fun y p _ h=>Option.some.inj h▸g p) q (by unfold oName at h;rw [dif_pos q] at h;exact h) else absurd h (by unfold oName;rw [dif_neg q];exact nofun)
noncomputable def oneNm (t:PySem.Expr) (i:Nat):Option Nm:=(oName t).bind fun x=>some [(x,i)]
noncomputable def manyNm:List PySem.Expr→List Nat→Option Nm
 | [],[]=>some []
 | e::es,i::is=>(oName e).bind fun x=>(manyNm es is).bind fun r=>some ((x,i)::r)
 | _,_=>Option.none
noncomputable def tgNm (t:Tg) (e:PySem.Expr) (k:Nm→Bool):Bool:=match t with
 | .one i=>oB (oneNm e i) k
 | .many is=>xTuple e fun es _ _=>oB (manyNm es is) k
inductive TgR (ts:Nm):Tg→PySem.Expr→Prop
 | one {i e}:oneNm e i=some ts→TgR ts (.one i) e
 | many {is es k p}:manyNm es is=some ts→TgR ts (.many is) (.Tuple es k p)
theorem tgNmk {t:Tg} {e:PySem.Expr} {k:Nm→Bool} {G:Prop} (h:tgNm t e k=true) (g:∀ ts,TgR ts t e→k ts=true→G):G:=by
 cases t with
 | one i=>exact oBk' h fun ts e h=>g ts (.one e) h
 | many is=>exact xTuplek (G:=fun e=>(∀ ts,TgR ts (.many is) e→k ts=true→G)→G) h (fun xs n p h g=>oBk' h fun ts e h=>g ts (.many e) h) g
noncomputable def gen (g:Comprehension) (k:PySem.Expr→PySem.Expr→List PySem.Expr→Bool):Bool:=match g with
 | ⟨a,b,c,d⟩=>decide (d=0)&&k a b c
theorem genk {g:Comprehension} {k:PySem.Expr→PySem.Expr→List PySem.Expr→Bool} {G:Comprehension→Prop} (h:gen g k=true) (f:∀ a b c,k a b c=true→G ⟨a,b,c,0⟩):G g:=
 match g,h with
 | ⟨a,b,c,d⟩,h=>andk h fun h1 h2=>eqk (G:=fun d=>G ⟨a,b,c,d⟩) h1 (f a b c h2)
noncomputable def slots:Nm→List Nat:=fun l=>l.map (·.2)
noncomputable def capt (sc sc':Sc) (nm:Nm):Nm:=nm.filter fun p=>sc'.lookup p.1 == some .free&&(sc.lookup p.1 == some .cell || sc.lookup p.1 == some .free)
noncomputable def compOK (sc:Sc) (nm:Nm) (scope:Scope) (ts:Nm):Bool:=
 scope.kind == .function&&!scope.isGenerator&&!scope.isCoroutine&&scope.names.all (fun p=>p.2 != .cell)&&scope.names.all (fun p=>!(p.2 == .local) || scope.names.lookup p.1 == some .local) &&
 ts.all (fun p=>scope.names.lookup p.1 == some .local)&&(ts.map (·.1)).Nodup&&(slots ts).Nodup&&(slots ts).all (fun i=>!(slots (capt sc scope.names nm)).contains i) &&
 scope.names.all (fun p=>!(p.2 == .free) || (sc.lookup p.1 == some .cell || sc.lookup p.1 == some .free))&&scope.more.isEmpty
noncomputable def keysE:List Str→List (Option PySem.Expr)→Bool
 | [],l=>l.isEmpty
 | k::ks,l=>lc l fun a es=>oB a fun e=>xConstant e fun c _ _=>decide (c=.str k)&&keysE ks es
mutual
noncomputable def chkE (sc:Sc) (nm:Nm):ME→PySem.Expr→Bool
 | .none,e=>xConstant e fun c _ _=>decide (c=.none)
 | .tru,e=>xConstant e fun c _ _=>decide (c=.bool true)
 | .fls,e=>xConstant e fun c _ _=>decide (c=.bool false)
 | .int i,e=>xConstant e fun c _ _=>decide (c=.int (i:Int))
 | .neg i,e=>xUnaryOp e fun o x _=>decide (o=.USub)&&xConstant x fun c _ _=>decide (c=.int (i:Int))
 | .str s,e=>xConstant e fun c _ _=>decide (c=.str s)
 | .byts b,e=>xConstant e fun c _ _=>decide (c=.bytes b)
 | .var i,e=>xName e fun x _=>isVar sc nm x i
 | .glob g,e=>xName e fun x _=>isGlob sc x&&decide (globNm[g]?=some x)
 | .tup es,e=>xTuple e fun xs _ _=>chkEs sc nm es xs
 | .list _ es,e=>xList e fun xs _=>chkEs sc nm es xs
 | .dict _ ks es,e=>xDict e fun keys vals _=>keysE ks keys&&chkEs sc nm es vals
 | .bin o _ a b,e=>xBinOp e fun l op r _=>decide (op=opOf o)&&(chkE sc nm a l&&chkE sc nm b r)
 | .not a,e=>xUnaryOp e fun o x _=>decide (o=.Not)&&chkE sc nm a x
 | .and es,e=>xBoolOp e fun o xs _=>decide (o=.And)&&lc xs fun y ys=>chkEs sc nm es (y::ys)
 | .or es,e=>xBoolOp e fun o xs _=>decide (o=.Or)&&lc xs fun y ys=>chkEs sc nm es (y::ys)
 | .ife t a b,e=>xIfExp e fun x y z _=>chkE sc nm t x&&(chkE sc nm a y&&chkE sc nm b z)
 | .cmp o a b,e=>xCompare e fun l os rs _=>l1 os fun op=>l1 rs fun r=>decide (op=copOf o)&&(noSet r&&(chkE sc nm a l&&chkE sc nm b r))
 | .cmp2 o p a b c,e=>xCompare e fun l os rs _=>l2 os fun op op'=>l2 rs fun r r'=>decide (op=copOf o)&&(decide (op'=copOf p)&&(noSet r'&&(chkE sc nm a l&&(chkE sc nm b r&&chkE sc nm c r'))))
 | .call f es,e=>xCall e fun g xs ks _=>ks.isEmpty&&(xName g fun x p=>chkE sc nm f (.Name x p)&&chkEs sc nm es xs)
 | .make k _ a,e=>xCall e fun g xs ks _=>ks.isEmpty&&(xName g fun x _=>l1 xs fun y=>isGlob sc x&&(decide (x=mkNm k)&&chkE sc nm a y))
 | .meth o n es,e=>xCall e fun g xs ks p=>ks.isEmpty&&(xAttribute g fun v x ap=>decide (x=n)&&(decide (ap.endLine=p.line)&&(decide (xs.length<30)&&(plainBase v&&(chkE sc nm o v&&chkEs sc nm es xs)))))
 | .attr o n,e=>xAttribute e fun v x _=>decide (x=n)&&(plainBase v&&chkE sc nm o v)
 | .sub a i,e=>xSubscript e fun v x _=>noSlice x&&(chkE sc nm a v&&chkE sc nm i x)
 | .upto a b,e=>xSubscript e fun v sl _=>xSlice sl fun lo up st _=>o0 lo&&(o0 st&&oB up fun x=>chkE sc nm a v&&chkE sc nm b x)
 | .lcomp _ el t it cs,e=>xListComp e fun x gs scope _=>l1 gs fun g=>gen g fun tgt iter ifs=>tgNm t tgt fun ts=>compOK sc nm scope ts&&(noSet iter&&(chkI sc nm it iter&&(chkE scope.names (ts++capt sc scope.names nm) el x&&chkEs scope.names (ts++capt sc scope.names nm) cs ifs)))
 | .dcomp k v t it cs,e=>xDictComp e fun x y gs scope _=>l1 gs fun g=>gen g fun tgt iter ifs=>tgNm t tgt fun ts=>compOK sc nm scope ts&&(noSet iter&&(chkI sc nm it iter&&(chkE scope.names (ts++capt sc scope.names nm) k x&&(chkE scope.names (ts++capt sc scope.names nm) v y&&chkEs scope.names (ts++capt sc scope.names nm) cs ifs))))
 | .frz a,e=>chkE sc nm a e
noncomputable def chkI (sc:Sc) (nm:Nm):MI→PySem.Expr→Bool
 | .fwd a,e=>chkE sc nm a e
 | .rev a,e=>xCall e fun g xs ks _=>ks.isEmpty&&(xName g fun x _=>l1 xs fun y=>isGlob sc x&&(decide (x=S "reversed")&&chkE sc nm a y))
noncomputable def chkEs (sc:Sc) (nm:Nm):MEs→List PySem.Expr→Bool
 | .nil,l=>l.isEmpty
 | .cons a as,l=>lc l fun x xs=>chkE sc nm a x&&chkEs sc nm as xs
end
noncomputable def compOf (e:PySem.Expr):Bool:=Nat.beq e.ctorIdx 8 || Nat.beq e.ctorIdx 9 || Nat.beq e.ctorIdx 10
noncomputable def isComp:ME→Bool
 | .lcomp ..=>true
 | .dcomp ..=>true
 | _=>false
noncomputable def someReal (e:PySem.Expr):Bool:=!(xTuple e fun vs _ _=>vs.all (constantsAlone 8) || vs.all (foldedForSure 8))
mutual
noncomputable def chkS (sc:Sc) (nm:Nm):MS→PySem.Stmt→Bool
 | .expr a,s=>sExpr s fun e _=>!compOf e&&chkE sc nm a e
 | .asg t a,s=>sAssign s fun tg e _=>l1 tg fun tgt=>tgNm t tgt fun ts=>ts.all (fun p=>isVar sc nm p.1 p.2)&&(decide (ts.map (·.1)).Nodup&&((!compOf e || isComp a)&&(someReal e&&chkE sc nm a e)))
 | .put o i a,s=>sAssign s fun tg e _=>l1 tg fun tgt=>xSubscript tgt fun v x _=>noSlice x&&(chkE sc nm o v&&(chkE sc nm i x&&chkE sc nm a e))
 | .ret a,s=>sReturn s fun x _=>oB x fun e=>chkE sc nm a e
 | .ret0,s=>sReturn s fun x _=>o0 x
 | .ifs t a b,s=>sIf s fun x ss rr _=>chkE sc nm t x&&(chkSs sc nm a ss&&chkSs sc nm b rr)
 | .fors t it b,s=>sFor s fun tgt iter ss rr _=>rr.isEmpty&&tgNm t tgt fun ts=>ts.all (fun p=>isVar sc nm p.1 p.2)&&(decide (ts.map (·.1)).Nodup&&(noSet iter&&(chkE sc nm it iter&&chkSs sc nm b ss)))
 | .whiles t b,s=>sWhile s fun x ss rr _=>rr.isEmpty&&(chkE sc nm t x&&chkSs sc nm b ss)
 | .bad,_=>true
noncomputable def chkSs (sc:Sc) (nm:Nm):MSs→List PySem.Stmt→Bool
 | .nil,l=>l.isEmpty
 | .cons a as,l=>lc l fun x xs=>chkS sc nm a x&&chkSs sc nm as xs
end
structure Sta where
 prog:Program
 w:World
 h₀:Heap
 K:PySem.W.Frag
 p:Program
 loose:List Str
 mg:Str→Option Value
 mb:Str→Option Value
 fa:Nat→Addr
 ca:Nat→Addr
structure Fz where
 o:Addr→Option Obj
 c:List Addr
noncomputable abbrev Pv:=Addr→Option (Obj×Bool)
noncomputable abbrev tupObj (vs:List Value) (n:Nat):Obj:={ cls:=.type "tuple",data:=.seq vs.toArray n }
noncomputable abbrev lstObj (vs:List Value) (n:Nat):Obj:={ cls:=.type "list",data:=.seq vs.toArray n }
noncomputable abbrev rngObj (x y:Int) (t u v:Tok):Obj:={ cls:=.type "range",data:=.fields #[.int x t,.int y u,.int 1 v] }
noncomputable abbrev sk (Z:Sta):=PySem.strKind Z.prog Z.w
noncomputable abbrev ik (Z:Sta):=PySem.intKind Z.prog Z.w
noncomputable def biVal:BI→Value
 | .len=>.builtin "len" | .range=>.type "range" | .isinstance=>.builtin "isinstance" | .reversed=>.type "reversed" | .sorted=>.builtin "sorted"
 | .dict=>.type "dict" | .list=>.type "list" | .tuple=>.type "tuple" | .sum=>.builtin "sum" | .abs=>.builtin "abs" | .ord=>.builtin "ord"
 | .chr=>.builtin "chr" | .bytes=>.type "bytes" | .all=>.builtin "all" | .int=>.type "int" | .bool=>.type "bool"
inductive InstD:List Str→List Value→List DictEntry→Prop
 | nil:InstD [] [] []
 | cons {f fs v vs t hs es}:InstD fs vs es→InstD (f::fs) (v::vs) (⟨hs,.str f t,v⟩::es)
mutual
noncomputable def VR (Z:Sta) (F:Fz):V→Value→Prop
 | .unb,_=>False
 | .none,x=>∀ G:Value→Prop,G .none→G x
 | .bool b,x=>∀ G:Value→Prop,G (.bool b)→G x
 | .int i,x=>∀ G:Value→Prop,(∀ t,G (.int i t))→G x
 | .str s,x=>∀ G:Value→Prop,(∀ t,G (.str s t))→G x
 | .byts b,x=>∀ G:Value→Prop,(∀ t,G (.bytes b.toArray t))→G x
 | .tup xs,x=>∀ G:Value→Prop,(∀ a vs n,xs.length≤cap→F.o a=some (tupObj vs n)→VRs Z F xs vs→G (.ref a))→G x
 | .list xs,x=>∀ G:Value→Prop,(∀ a vs n,xs.length≤cap→F.o a=some (lstObj vs n)→VRs Z F xs vs→G (.ref a))→G x
 | .dict es,x=>∀ G:Value→Prop,(∀ a o kvs,(a == sysModules)=false→es.length≤cap→F.o a=some o→o.IsDictOf (sk Z) kvs→ER Z F es kvs→G (.ref a))→G x
 | .cell i,x=>∀ G:Value→Prop,(∀ a,F.c[i]?=some a→G (.ref a))→G x
 | .inst c xs,x=>∀ G:Value→Prop,(∀ a dx vs des n,(c<7∧c≠3)→F.o a=some (PySem.W.instObj (Z.ca c) dx)→F.o dx=some (PySem.W.dictOf des n)→InstD (clsFields c) vs des→VRs Z F xs vs→G (.ref a))→G x
 | .fn k,x=>∀ G:Value→Prop,G (.ref (Z.fa k))→G x
 | .cls c,x=>∀ G:Value→Prop,G (.ref (Z.ca c))→G x
 | .bi b,x=>∀ G:Value→Prop,G (biVal b)→G x
 | .rng p q,x=>∀ G:Value→Prop,(∀ a t u v,F.o a=some (rngObj p q t u v)→G (.ref a))→G x
noncomputable def VRs (Z:Sta) (F:Fz):List V→List Value→Prop
 | [],xs=>∀ G:List Value→Prop,G []→G xs
 | v::vs,xs=>∀ G:List Value→Prop,(∀ y ys,VR Z F v y→VRs Z F vs ys→G (y::ys))→G xs
noncomputable def ER (Z:Sta) (F:Fz):List (Str×V)→List (Str×Value)→Prop
 | [],xs=>∀ G:List (Str×Value)→Prop,G []→G xs
 | (k,v)::vs,xs=>∀ G:List (Str×Value)→Prop,(∀ y ys,VR Z F v y→ER Z F vs ys→G ((k,y)::ys))→G xs
end
noncomputable def EI (Z:Sta) (F:Fz):List (Int×V)→List (Int×Value)→Prop
 | [],xs=>∀ G:List (Int×Value)→Prop,G []→G xs
 | (k,v)::vs,xs=>∀ G:List (Int×Value)→Prop,(∀ y ys,VR Z F v y→EI Z F vs ys→G ((k,y)::ys))→G xs
structure Ext (F F':Fz):Prop where
 inc:∀ a o,F.o a=some o→F'.o a=some o
 pre:∀ (i:Nat) (a:Addr),F.c[i]?=some a→F'.c[i]?=some a
section
variable {Z:Sta} {F F' F'':Fz} {Ψ Ψ':Pv} {a b p:Addr} {h h':Heap} {σ:Mem} {ob:Ob} {o:Obj} {v:V} {x:Value}
theorem VR.none:VR Z F .none .none:=fun _ k=>k
theorem VR.bool (b:Bool):VR Z F (.bool b) (.bool b):=fun _ k=>k
theorem VR.int (i:Int) (t:Tok):VR Z F (.int i) (.int i t):=fun _ k=>k t
theorem VR.str (s:Str) (t:Tok):VR Z F (.str s) (.str s t):=fun _ k=>k t
theorem VR.byts (b:List UInt8) (t:Tok):VR Z F (.byts b) (.bytes b.toArray t):=fun _ k=>k t
theorem VR.tup {xs vs n} (z:xs.length≤cap) (g:F.o a=some (tupObj vs n)) (r:VRs Z F xs vs):VR Z F (.tup xs) (.ref a):=fun _ k=>k a vs n z g r
theorem VR.list {xs vs n} (z:xs.length≤cap) (g:F.o a=some (lstObj vs n)) (r:VRs Z F xs vs):VR Z F (.list xs) (.ref a):=fun _ k=>k a vs n z g r
theorem VR.dict {es kvs} (n:(a == sysModules)=false) (z:es.length≤cap) (g:F.o a=some o) (d:o.IsDictOf (sk Z) kvs) (r:ER Z F es kvs):VR Z F (.dict es) (.ref a):=fun _ k=>k a o kvs n z g d r
theorem VR.cell {i:Nat} (g:F.c[i]?=some a):VR Z F (.cell i) (.ref a):=fun _ k=>k a g
theorem VR.inst {c dx xs vs des n} (z:c<7∧c≠3) (g:F.o a=some (PySem.W.instObj (Z.ca c) dx)) (d:F.o dx=some (PySem.W.dictOf des n)) (i:InstD (clsFields c) vs des) (r:VRs Z F xs vs):VR Z F (.inst c xs) (.ref a):=fun _ k=>k a dx vs des n z g d i r
theorem VR.fn (k:Nat):VR Z F (.fn k) (.ref (Z.fa k)):=fun _ k=>k
theorem VR.cls (c:Nat):VR Z F (.cls c) (.ref (Z.ca c)):=fun _ k=>k
theorem VR.bi (b:BI):VR Z F (.bi b) (biVal b):=fun _ k=>k
theorem VR.rng {x y t u v} (g:F.o a=some (rngObj x y t u v)):VR Z F (.rng x y) (.ref a):=fun _ k=>k a t u v g
theorem VRs.nil:VRs Z F [] []:=fun _ k=>k
theorem VRs.cons {vs xs} (h:VR Z F v x) (r:VRs Z F vs xs):VRs Z F (v::vs) (x::xs):=fun _ k=>k x xs h r
theorem ER.nil:ER Z F [] []:=fun _ k=>k
theorem ER.cons {k es kvs} (h:VR Z F v x) (r:ER Z F es kvs):ER Z F ((k,v)::es) ((k,x)::kvs):=fun _ k=>k x kvs h r
theorem EI.nil:EI Z F [] []:=fun _ k=>k
theorem EI.cons {k es kvs} (h:VR Z F v x) (r:EI Z F es kvs):EI Z F ((k,v)::es) ((k,x)::kvs):=fun _ k=>k x kvs h r
theorem Ext.refl (F:Fz):Ext F F:=⟨fun _ _ h=>h,fun _ _ h=>h⟩
theorem Ext.trans (a:Ext F F') (b:Ext F' F''):Ext F F'':=⟨fun x o h=>b.inc x o (a.inc x o h),fun i x h=>b.pre i x (a.pre i x h)⟩
theorem VR.mono (h:VR Z F v x) (e:Ext F F'):VR Z F' v x:=
 V.rec (motive_1:=fun v=>∀ x,VR Z F v x→VR Z F' v x) (motive_2:=fun v=>∀ x,VRs Z F v x→VRs Z F' v x) (motive_3:=fun v=>∀ x,ER Z F v x→ER Z F' v x) (motive_4:=fun p=>∀ x,VR Z F p.2 x→VR Z F' p.2 x)
  (fun _ h=>h) (fun _ h=>h) (fun _ _ h=>h) (fun _ _ h=>h) (fun _ _ h=>h) (fun _ _ h=>h) (fun _ r _ h G k=>h G fun a vs n z g l=>k a vs n z (e.inc _ _ g) (r _ l)) (fun _ r _ h G k=>h G fun a vs n z g l=>k a vs n z (e.inc _ _ g) (r _ l))
  (fun _ r _ h G k=>h G fun a o kvs n z g d l=>k a o kvs n z (e.inc _ _ g) d (r _ l)) (fun _ _ h G k=>h G fun a g=>k a (e.pre _ _ g)) (fun _ _ r _ h G k=>h G fun a dx vs des n z g d i l=>k a dx vs des n z (e.inc _ _ g) (e.inc _ _ d) i (r _ l))
  (fun _ _ h=>h) (fun _ _ h=>h) (fun _ _ h=>h) (fun _ _ _ h G k=>h G fun a t u v g=>k a t u v (e.inc _ _ g)) (fun _ h=>h) (fun _ _ r1 r2 _ h G k=>h G fun y ys p q=>k y ys (r1 _ p) (r2 _ q)) (fun _ h=>h) (fun _ _ r1 r2 _ h G k=>h G fun y ys p q=>k y ys (r1 _ p) (r2 _ q))
  (fun _ _ r=>r) v x h
theorem VRs.mono {vs xs} (h:VRs Z F vs xs) (e:Ext F F'):VRs Z F' vs xs:=List.rec (motive:=fun v=>∀ x,VRs Z F v x→VRs Z F' v x) (fun _ h=>h) (fun _ _ r _ h G k=>h G fun y ys p q=>k y ys (p.mono e) (r _ q)) vs xs h
theorem ER.mono {vs xs} (h:ER Z F vs xs) (e:Ext F F'):ER Z F' vs xs:=List.rec (motive:=fun v=>∀ x,ER Z F v x→ER Z F' v x) (fun _ h=>h) (fun _ _ r _ h G k=>h G fun y ys p q=>k y ys (p.mono e) (r _ q)) vs xs h
theorem EI.mono {vs xs} (h:EI Z F vs xs) (e:Ext F F'):EI Z F' vs xs:=List.rec (motive:=fun v=>∀ x,EI Z F v x→EI Z F' v x) (fun _ h=>h) (fun _ _ r _ h G k=>h G fun y ys p q=>k y ys (p.mono e) (r _ q)) vs xs h
end
noncomputable def OB (Z:Sta) (F:Fz) (a:Addr) (x:Obj):Ob→Prop
 | .list xs=>∃ vs n,x=lstObj vs n∧xs.length≤cap∧VRs Z F xs vs
 | .sd es=>∃ kvs,(x.IsDictOf (sk Z) kvs∧(a == sysModules)=false∧es.length≤cap)∧ER Z F es kvs
 | .id es=>∃ kvs,(x.IsDictOf (ik Z) kvs∧(a == sysModules)=false∧es.length≤cap)∧EI Z F es kvs
 | _=>False
section
variable {Z:Sta} {F F' F'':Fz} {Ψ Ψ':Pv} {a b p:Addr} {h h':Heap} {σ:Mem} {ob:Ob} {o:Obj} {v:V} {x:Value}
theorem OB.mono (e:Ext F F') (c:OB Z F a o ob):OB Z F' a o ob:=by
 cases ob with
 | list xs=>exact c.elim fun vs c=>c.elim fun n c=>⟨vs,n,c.1,c.2.1,c.2.2.mono e⟩
 | sd xs=>exact c.elim fun vs c=>⟨vs,c.1,c.2.mono e⟩
 | id xs=>exact c.elim fun vs c=>⟨vs,c.1,c.2.mono e⟩
 | lent=>exact c
 | dead=>exact c
end
inductive CR (Z:Sta) (F:Fz) (Ψ:Pv) (a:Addr) (h:Heap):Ob→Prop
 | dead:(F.o a).isSome=true→CR Z F Ψ a h .dead
 | lent {es x}:F.o a=none→Ψ a=some (x,true)→OB Z F a x (.sd es)→CR Z F Ψ a h (.lent es)
 | live {o x}:F.o a=none→Ψ a=none→h.get? a=some x→OB Z F a x o→CR Z F Ψ a h o
section
variable {Z:Sta} {F F' F'':Fz} {Ψ Ψ':Pv} {a b p:Addr} {h h':Heap} {σ:Mem} {ob:Ob} {o:Obj} {v:V} {x:Value}
noncomputable def CRk (Z:Sta) (F:Fz) (Ψ:Pv) (a:Addr) (h:Heap) (G:Prop):Ob→Prop
 | .dead=>(F.o a).isSome=true
 | .lent es=>(∀ x kvs,F.o a=none→Ψ a=some (x,true)→(x.IsDictOf (sk Z) kvs∧(a == sysModules)=false∧es.length≤cap)→ER Z F es kvs→G)→G
 | .list xs=>(∀ vs n,F.o a=none→Ψ a=none→h.get? a=some (lstObj vs n)→xs.length≤cap→VRs Z F xs vs→G)→G
 | .sd es=>(∀ x kvs,F.o a=none→Ψ a=none→h.get? a=some x→(x.IsDictOf (sk Z) kvs∧(a == sysModules)=false∧es.length≤cap)→ER Z F es kvs→G)→G
 | .id es=>(∀ x kvs,F.o a=none→Ψ a=none→h.get? a=some x→(x.IsDictOf (ik Z) kvs∧(a == sysModules)=false∧es.length≤cap)→EI Z F es kvs→G)→G
theorem OB.inv {G:Prop} (n:F.o a=none) (q:Ψ a=none) (g:h.get? a=some o) (d:OB Z F a o ob):CRk Z F Ψ a h G ob:=by
 cases ob with
 | list xs=>exact fun k=>d.elim fun vs d=>d.elim fun m d=>k vs m n q (d.1▸g) d.2.1 d.2.2
 | sd es=>exact fun k=>d.elim fun kvs d=>k _ kvs n q g d.1 d.2
 | id es=>exact fun k=>d.elim fun kvs d=>k _ kvs n q g d.1 d.2
 | lent=>exact d.elim
 | dead=>exact d.elim
theorem CR.inv {G:Prop} (c:CR Z F Ψ a h ob):CRk Z F Ψ a h G ob:=
 CR.casesOn (motive:=fun o _=>CRk Z F Ψ a h G o) c id (fun n q d k=>d.elim fun kvs d=>k _ kvs n q d.1 d.2) OB.inv
theorem CR.imp (c:CR Z F Ψ a h ob) (e:Ext F F') (k:F.o a=none→F'.o a=none) (kn:Ψ a=none→Ψ' a=none) (ks:∀ x,Ψ a=some (x,true)→Ψ' a=some (x,true)) (kh:∀ x,h.get? a=some x→h'.get? a=some x):CR Z F' Ψ' a h' ob:=
 CR.casesOn (motive:=fun o _=>CR Z F' Ψ' a h' o) c (fun c=>.dead (Option.isSome_iff_exists.mpr ((Option.isSome_iff_exists.mp c).elim fun x hx=>⟨x,e.inc _ _ hx⟩))) (fun n q d=>.lent (k n) (ks _ q) (OB.mono e d)) (fun n q g d=>.live (k n) (kn q) (kh _ g) (OB.mono e d))
end
structure SR (Z:Sta) (F:Fz) (Ψ:Pv) (σ:Mem) (h:Heap):Prop where
 sta:∀ a o,Z.h₀.get? a=some o→F.o a=some o
 frz:∀ a o,F.o a=some o→h.get? a=some o
 frm:∀ a o b,Ψ a=some (o,b)→h.get? a=some o
 dis:∀ a o,Ψ a=some o→F.o a=none
 len:F.c.length=σ.length
 nod:F.c.Nodup
 off:∀ a∈F.c,∃ o,h.get? a=some o
 cel:∀ (i:Nat) (a:Addr) (o:Ob),F.c[i]?=some a→σ[i]?=some o→CR Z F Ψ a h o
structure Free (F:Fz) (Ψ:Pv) (p:Addr):Prop where
 fz:F.o p=none
 pv:Ψ p=none
 ce:p∉F.c
section
variable {Z:Sta} {F F' F'':Fz} {Ψ Ψ':Pv} {a b p:Addr} {h h':Heap} {σ:Mem} {ob:Ob} {o:Obj} {v:V} {x:Value}
theorem Free.ne (f:Free F Ψ p) (h:b∈F.c):b≠p:=fun e=>f.ce (e▸h)
theorem ne_of {α:Type} {f:Addr→Option α} {y:α} (h:f a=none) (h':f b=some y):b≠a:=fun e=>nomatch (e▸h').symm.trans h
theorem off_of {α:Type} {f:Addr→Option α} {g:Addr→Option β} (h:∀ y,f a=some y→∃ z,g a=some z) (n:g a=none):f a=none:=by
 cases e:f a with
 | none=>rfl
 | some y=>exact (h y e).elim fun z hz=>nomatch hz.symm.trans n
theorem SR.free (R:SR Z F Ψ σ h) (hp:h.get? p=none):Free F Ψ p:=
 ⟨off_of (fun y e=>⟨y,R.frz _ _ e⟩) hp,off_of (fun y e=>⟨y.1,R.frm _ _ y.2 e⟩) hp,fun hm=>(R.off p hm).elim fun o e=>nomatch e.symm.trans hp⟩
theorem Heap.get?_size_none (h:Heap):h.get? h.objs.size=none:=off_of (f:=h.get?) (g:=h.get?) (fun y e=>absurd (Heap.lt_size e) (Nat.lt_irrefl _)) (by
 cases e:h.get? h.objs.size with
 | none=>rfl
 | some o=>exact absurd (Heap.lt_size e) (Nat.lt_irrefl _))
theorem SR.new (R:SR Z F Ψ σ h):Free F Ψ h.objs.size:=R.free (Heap.get?_size_none h)
theorem SR.heap (R:SR Z F Ψ σ h) (f:Free F Ψ p) (e:∀ b o,b≠p→h.get? b=some o→h'.get? b=some o):SR Z F Ψ σ h':=
 ⟨R.sta,fun a o q=>e a o (ne_of f.fz q) (R.frz a o q),fun a o b q=>e a o (ne_of f.pv q) (R.frm a o b q),R.dis,R.len,R.nod,
  fun a ha=>(R.off a ha).elim fun o ho=>⟨o,e a o (fun q=>f.ce (q▸ha)) ho⟩,fun i a o ha ho=>(R.cel i a o ha ho).imp (Ext.refl _) id id (fun _ h=>h) fun x hx=>e a x (fun q=>f.ce (q▸List.mem_of_getElem? ha)) hx⟩
theorem SR.grow (R:SR Z F Ψ σ h) (e:∀ b o,h.get? b=some o→h'.get? b=some o):SR Z F Ψ σ h':=R.heap R.new fun b o _ q=>e b o q
theorem SR.push (R:SR Z F Ψ σ h) (o:Obj):SR Z F Ψ σ (h.push o):=R.grow fun b o' q=>Heap.get?_push_of_some _ q
theorem SR.extBut (R:SR Z F Ψ σ h) (f:Free F Ψ p) (e:Heap.ExtBut p h h'):SR Z F Ψ σ h':=R.heap f fun b o hb q=>e b o hb q
theorem SR.sameBut (R:SR Z F Ψ σ h) (f:Free F Ψ p) (e:Heap.SameBut p h h'):SR Z F Ψ σ h':=R.extBut f e.extBut
noncomputable def put {α:Type} (Φ:Addr→Option α) (a:Addr) (o:α):Addr→Option α:=fun b=>if b=a then some o else Φ b
section
variable {α:Type} {Φ:Addr→Option α} {y z:α}
theorem put_self (Φ:Addr→Option α) (a:Addr) (o:α):put Φ a o a=some o:=if_pos rfl
theorem put_ne (h:b≠a):put Φ a y b=Φ b:=if_neg h
theorem put_old (h:Φ a=none) (e:Φ b=some z):put Φ a y b=some z:=(put_ne (ne_of h e)).trans e
theorem put_k {G:Prop} (q:put Φ a y b=some z) (k1:b=a→y=z→G) (k2:b≠a→Φ b=some z→G):G:=
 if e:b=a then k1 e (Option.some.inj (by rw [e] at q;exact (put_self Φ a y).symm.trans q)) else k2 e ((put_ne e).symm.trans q)
end
noncomputable abbrev Fz.put (F:Fz) (a:Addr) (o:Obj):Fz:=⟨Mine.put F.o a o,F.c⟩
noncomputable abbrev Fz.add (F:Fz) (a:Addr):Fz:=⟨F.o,F.c++[a]⟩
theorem Ext.put (h:F.o a=none):Ext F (F.put a o):=⟨fun _ _ e=>put_old h e,fun _ _ e=>e⟩
theorem SR.addF (R:SR Z F Ψ σ h) (f:Free F Ψ a) (ho:h.get? a=some o):SR Z (F.put a o) Ψ σ h:=
 ⟨fun b x q=>put_old f.fz (R.sta b x q),fun b x q=>put_k q (fun e e'=>e▸e'▸ho) fun _ q=>R.frz b x q,R.frm,fun b x q=>(put_ne (ne_of f.pv q)).trans (R.dis b x q),R.len,R.nod,R.off,
  fun i b x hb hx=>(R.cel i b x hb hx).imp (Ext.put f.fz) (fun q=>(put_ne (f.ne (List.mem_of_getElem? hb))).trans q) id (fun _ h=>h) fun _ h=>h⟩
theorem getElem?_append_old {α:Type} {l:List α} {x:α} {i:Nat} {a:α} (h:l[i]?=some a):(l++[x])[i]?=some a:=(List.getElem?_append_left (List.getElem?_eq_some_iff.mp h).1).trans h
theorem append_k {α:Type} {l:List α} {x y:α} {i:Nat} {G:Prop} (h:(l++[x])[i]?=some y) (k1:i<l.length→l[i]?=some y→G) (k2:i=l.length→x=y→G):G:=by
 rcases Nat.lt_or_ge i l.length with hi|hi
 ·exact k1 hi ((List.getElem?_append_left hi).symm.trans h)
 ·have e:=(List.getElem?_append_right hi).symm.trans h
  cases hj:i-l.length with
  | zero=>rw [hj] at e;exact k2 (Nat.le_antisymm (Nat.sub_eq_zero_iff_le.mp hj) hi) (Option.some.inj e)
  | succ j=>rw [hj] at e;cases e
theorem Ext.cell (F:Fz) (a:Addr):Ext F (F.add a):=⟨fun _ _ h=>h,fun _ _ h=>getElem?_append_old h⟩
theorem SR.addC (R:SR Z F Ψ σ h) (f:Free F Ψ a) (ho:∃ o,h.get? a=some o) (c:CR Z F Ψ a h ob):SR Z (F.add a) Ψ (σ++[ob]) h:=
 ⟨R.sta,R.frz,R.frm,R.dis,(List.length_append (as:=F.c) (bs:=[a])).trans ((congrArg (·+1) R.len).trans (List.length_append (as:=σ) (bs:=[ob])).symm),
  List.nodup_append.mpr ⟨R.nod,List.nodup_cons.mpr ⟨(fun h=>nomatch h),.nil⟩,fun x hx y hy e=>f.ce (List.mem_singleton.mp hy▸e▸hx)⟩,
  fun b hb=>(List.mem_append.mp hb).elim (R.off b) fun hb=>List.mem_singleton.mp hb▸ho,
  fun i b x hb hx=>append_k hb (fun hi hb=>append_k hx (fun _ hx=>(R.cel i b x hb hx).imp (Ext.cell F a) id id (fun _ h=>h) fun _ h=>h) fun e=>absurd hi (Nat.not_lt.mpr (Nat.le_of_eq (R.len.trans e.symm))))
   fun hi e=>append_k hx (fun hx=>absurd hx (Nat.not_lt.mpr (Nat.le_of_eq (R.len.symm.trans hi.symm)))) fun _ e'=>e▸e'▸c.imp (Ext.cell F a) id id (fun _ h=>h) fun _ h=>h⟩
theorem nodup_ne {φ:List Addr} (n:φ.Nodup) {i j:Nat} (hi:φ[i]?=some a) (hj:φ[j]?=some b) (h:i≠j):a≠b:=fun e=>by
 have li:=List.getElem?_eq_some_iff.mp hi
 have lj:=List.getElem?_eq_some_iff.mp hj
 exact li.elim fun li ei=>lj.elim fun lj ej=>h ((List.getElem_inj n).mp (ei.trans (e.trans ej.symm)))
theorem set_k {α:Type} {l:List α} {x y:α} {i j:Nat} {G:Prop} (h:(l.set i x)[j]?=some y) (k1:i=j→x=y→G) (k2:i≠j→l[j]?=some y→G):G:=
 if e:i=j then k1 e (by
  subst e
  rw [List.getElem?_set_self (by have:=(List.getElem?_eq_some_iff.mp h).1;rwa [List.length_set] at this)] at h
  exact Option.some.inj h) else k2 e ((List.getElem?_set_ne e).symm.trans h)
theorem SR.turnC {i:Nat} (R:SR Z F Ψ σ h) (hi:F.c[i]?=some a) (e:Ext F F') (hc:F'.c=F.c) (fr:∀ b o,F'.o b=some o→h'.get? b=some o) (fm:∀ b o t,Ψ' b=some (o,t)→h'.get? b=some o) (di:∀ b o,Ψ' b=some o→F'.o b=none)
  (of:∃ o,h'.get? a=some o) (c:CR Z F' Ψ' a h' ob) (kF:∀ b,b≠a→F'.o b=F.o b) (kP:∀ b,b≠a→Ψ' b=Ψ b) (kh:∀ b,b≠a→h'.get? b=h.get? b):SR Z F' Ψ' (σ.set i ob) h':=
 ⟨fun b o q=>e.inc b o (R.sta b o q),fr,fm,di,hc▸R.len.trans (List.length_set ..).symm,hc▸R.nod,fun b hb=>if q:b=a then q▸of else (R.off b (hc▸hb)).elim fun o ho=>⟨o,(kh b q).trans ho⟩,
  fun j b x hb hx=>by
   rw [hc] at hb
   refine set_k hx (fun q q'=>?_) fun q hx=>?_
   ·subst q q'
    exact Option.some.inj (hi.symm.trans hb)▸c
   ·have hne:=nodup_ne R.nod hb hi (Ne.symm q)
    exact (R.cel j b x hb hx).imp e (kF b hne).trans (kP b hne).trans (fun x=>(kP b hne).trans) fun x=>(kh b hne).trans⟩
theorem SR.setC {i:Nat} (R:SR Z F Ψ σ h) (hi:F.c[i]?=some a) (hf:F.o a=none) (hp:Ψ a=none) (e:Heap.SameBut a h h') (ho:∃ o,h'.get? a=some o) (c:CR Z F Ψ a h' ob):SR Z F Ψ (σ.set i ob) h':=
 R.turnC hi (Ext.refl F) rfl (fun b o q=>(e.2 b (ne_of hf q)).trans (R.frz b o q)) (fun b o t q=>(e.2 b (ne_of hp q)).trans (R.frm b o t q)) R.dis ho c (fun _ _=>rfl) (fun _ _=>rfl) fun b hb=>e.2 b hb
theorem SR.freeze {i:Nat} (R:SR Z F Ψ σ h) (hi:F.c[i]?=some a) (hf:F.o a=none) (hp:Ψ a=none) (ho:h.get? a=some o):SR Z (F.put a o) Ψ (σ.set i .dead) h:=
 R.turnC hi (Ext.put hf) rfl (fun b x q=>put_k q (fun e e'=>e▸e'▸ho) fun _ q=>R.frz b x q) R.frm (fun b x q=>(put_ne (ne_of hp q)).trans (R.dis b x q)) ⟨o,ho⟩ (.dead (congrArg Option.isSome (put_self F.o a o))) (fun b hb=>put_ne hb) (fun _ _=>rfl) fun _ _=>rfl
theorem SR.lend {i:Nat} {es kvs} (R:SR Z F Ψ σ h) (hi:F.c[i]?=some a) (hf:F.o a=none) (hp:Ψ a=none) (ho:h.get? a=some o) (hd:o.IsDictOf (sk Z) kvs∧(a == sysModules)=false∧es.length≤cap) (hr:ER Z F es kvs) :
  SR Z F (put Ψ a (o,true)) (σ.set i (.lent es)) h:=
 R.turnC hi (Ext.refl F) rfl R.frz (fun b x t q=>put_k q (fun e e'=>e▸(Prod.mk.inj e').1▸ho) fun _ q=>R.frm b x t q) (fun b x q=>put_k q (fun e _=>e▸hf) fun _ q=>R.dis b x q) ⟨o,ho⟩ (.lent hf (put_self ..) ⟨kvs,hd,hr⟩) (fun _ _=>rfl) (fun b hb=>put_ne hb) fun _ _=>rfl
theorem SR.back {i:Nat} {es kvs} (R:SR Z F (put Ψ a (o,true)) σ h) (hi:F.c[i]?=some a) (hp:Ψ a=none) (hd:o.IsDictOf (sk Z) kvs∧(a == sysModules)=false∧es.length≤cap) (hr:ER Z F es kvs) :
  SR Z F Ψ (σ.set i (.sd es)) h:=
 R.turnC hi (Ext.refl F) rfl R.frz (fun b x t q=>R.frm b x t (put_old hp q)) (fun b x q=>R.dis b x (put_old hp q)) ⟨o,R.frm a o true (put_self ..)⟩ (.live (R.dis a _ (put_self ..)) hp (R.frm a o true (put_self ..)) ⟨kvs,hd,hr⟩) (fun _ _=>rfl) (fun b hb=>(put_ne hb).symm) fun _ _=>rfl
theorem SR.prv (R:SR Z F Ψ σ h) (fm:∀ b o t,Ψ' b=some (o,t)→h.get? b=some o) (di:∀ b o,Ψ' b=some o→F.o b=none) (k:∀ b∈F.c,Ψ' b=Ψ b):SR Z F Ψ' σ h:=
 ⟨R.sta,R.frz,fm,di,R.len,R.nod,R.off,fun i b x hb hx=>have e:=k b (List.mem_of_getElem? hb);(R.cel i b x hb hx).imp (Ext.refl F) id e.trans (fun x=>e.trans) fun _ h=>h⟩
theorem SR.hide (R:SR Z F Ψ σ h) (f:Free F Ψ p) (ho:h.get? p=some o):SR Z F (put Ψ p (o,false)) σ h:=
 R.prv (fun b x t q=>put_k q (fun e e'=>e▸(Prod.mk.inj e').1▸ho) fun _ q=>R.frm b x t q) (fun b x q=>put_k q (fun e _=>e▸f.fz) fun _ q=>R.dis b x q) fun b hb=>put_ne (f.ne hb)
theorem CR.no (c:CR Z F Ψ a h ob) (ha:Ψ a=some (o,false)) (d:F.o a=none):False:=
 CR.casesOn (motive:=fun _ _=>False) c (fun c=>(Option.isSome_iff_exists.mp c).elim fun x hx=>nomatch hx.symm.trans d) (fun _ q _=>nomatch ha.symm.trans q) (fun _ q _ _=>nomatch ha.symm.trans q)
theorem SR.hidden (R:SR Z F Ψ σ h) (ha:Ψ a=some (o,false)):a∉F.c:=fun hm=>
 (List.mem_iff_getElem?.mp hm).elim fun i hi=>(R.cel i a _ hi (List.getElem?_eq_getElem (R.len▸(List.getElem?_eq_some_iff.mp hi).1))).no ha (R.dis a _ ha)
theorem SR.seen (R:SR Z F (put Ψ p (o,false)) σ h) (n:Ψ p=none):SR Z F Ψ σ h∧Free F Ψ p∧h.get? p=some o:=
 have hp:=R.hidden (put_self Ψ p (o,false))
 ⟨R.prv (fun b x t q=>R.frm b x t (put_old n q)) (fun b x q=>R.dis b x (put_old n q)) fun b hb=>(put_ne fun (e:b=p)=>hp (e▸hb)).symm,⟨R.dis p _ (put_self ..),n,hp⟩,R.frm p o false (put_self ..)⟩
end
end Mine
namespace Mine
open PySem PySem.Calls
noncomputable abbrev Md (Z:Sta):Model:=model Z.prog Z.w
noncomputable abbrev Fls:Value→Shared→Prop:=fun _ _=>False
structure Stp (Z:Sta) (Ψ:Pv) (F:Fz) (s:Shared) (F':Fz) (σ':Mem) (s':Shared):Prop where
 c:s'.gens=s.gens∧s'.drawn=s.drawn∧s'.os=s.os
 e:Ext F F'
 S:SR Z F' Ψ σ' s'.heap
noncomputable def PR {α β:Type} (Z:Sta) (Ψ:Pv) (R:Fz→β→α→Prop) (F:Fz) (s:Shared) (σ':Mem) (r:β):α→Shared→Prop:=fun x s'=>∃ F',Stp Z Ψ F s F' σ' s'∧R F' r x
noncomputable def Sn {α β:Type} (Z:Sta) (A:Around) (Ψ:Pv) (F₀:Fz) (R:Fz→β→α→Prop) (t:Sem α) (m:M β):Prop:=
 ∀ F σ r σ' (s:Shared),Ext F₀ F→SR Z F Ψ σ s.heap→m σ=some (r,σ')→wpAny (Md Z) A t (PR Z Ψ R F s σ' r) Fls s
noncomputable def BR:Fz→Bool→Bool→Prop:=fun _ a b=>a=b
noncomputable def UR {α β:Type}:Fz→α→β→Prop:=fun _ _ _=>True
noncomputable def VB:Fz→Bool→Value→Prop:=fun _ a x=>x=.bool a
section
variable {α β γ δ:Type}
theorem nn {r:α} {G:Prop} (h:(none:Option α)=some r):G:=nomatch h
theorem bnd_k {m:M α} {f:α→M β} {σ r} {G:Prop} (h:bnd m f σ=some r) (k:∀ a σ',m σ=some (a,σ')→f a σ'=some r→G):G:=by
 unfold bnd at h
 generalize hm:m σ=o at h
 cases o with
 | none=>exact nn h
 | some p=>exact k p.1 p.2 hm h
theorem ret_k {a r:α} {σ σ':Mem} {G:α→Mem→Prop} (h:ret a σ=some (r,σ')) (k:G a σ):G r σ':=by cases h;exact k
theorem lft_k {o:Option α} {r:α} {σ σ':Mem} {G:α→Mem→Prop} (h:lft o σ=some (r,σ')) (k:∀ a,o=some a→G a σ):G r σ':=by
 unfold lft at h
 cases o with
 | none=>exact nn h
 | some a=>exact ret_k h (k a rfl)
theorem bndl {o:Option α} {f:α→M β} {σ r} {G:Prop} (h:bnd (lft o) f σ=some r) (k:∀ a,o=some a→f a σ=some r→G):G:=
 bnd_k h fun a σ' q=>lft_k (G:=fun a σ'=>f a σ'=some r→G) q k
theorem if_k {c:Prop} [Decidable c] {m:M α} {σ r} {G:Prop} (h:(if c then m else fail:M α) σ=some r) (k:c→m σ=some r→G):G:=
 if q:c then k q (by rw [if_pos q] at h;exact h) else nn (by rw [if_neg q] at h;exact h)
theorem ifo_k {c:Prop} [Decidable c] {o:Option α} {r} {G:Prop} (h:(if c then o else none)=some r) (k:c→o=some r→G):G:=
 if q:c then k q ((if_pos q).symm.trans h) else nn ((if_neg q).symm.trans h)
theorem if2_k {n:Nat} {a b:M α} {σ r} {G:Prop} (h:if2 n a b σ=some r) (k1:n=2→a σ=some r→G) (k2:b σ=some r→G):G:=
 match n,h,k1 with
 | 2,h,k1=>k1 rfl h
 | 0,h,_=>k2 h
 | 1,h,_=>k2 h
 | _+3,h,_=>k2 h
theorem one_k {vs:List V} {f:V→M α} {σ r} {G:List V→Prop} (h:one vs f σ=some r) (k:∀ a,f a σ=some r→G [a]):G vs:=
 match vs,h with
 | [],h=>nn h
 | [a],h=>k a h
 | _::_::_,h=>nn h
theorem two_k {vs:List V} {f:V→V→M α} {σ r} {G:List V→Prop} (h:two vs f σ=some r) (k:∀ a b,f a b σ=some r→G [a,b]):G vs:=
 match vs,h with
 | [],h=>nn h
 | [_],h=>nn h
 | [a,b],h=>k a b h
 | _::_::_::_,h=>nn h
section
variable {a:V} {r:α} {G:V→Prop}
theorem uInt_k {k:Int→Option α} (q:uInt a k=some r) (g:∀ i,k i=some r→G (.int i)):G a:=by cases a <;> first|exact nn q|exact g _ q
theorem uStr_k {k:Str→Option α} (q:uStr a k=some r) (g:∀ i,k i=some r→G (.str i)):G a:=by cases a <;> first|exact nn q|exact g _ q
theorem uByts_k {k:List UInt8→Option α} (q:uByts a k=some r) (g:∀ i,k i=some r→G (.byts i)):G a:=by cases a <;> first|exact nn q|exact g _ q
theorem uTup_k {k:List V→Option α} (q:uTup a k=some r) (g:∀ i,k i=some r→G (.tup i)):G a:=by cases a <;> first|exact nn q|exact g _ q
theorem uList_k {k:List V→Option α} (q:uList a k=some r) (g:∀ i,k i=some r→G (.list i)):G a:=by cases a <;> first|exact nn q|exact g _ q
theorem uDict_k {k:List (Str×V)→Option α} (q:uDict a k=some r) (g:∀ i,k i=some r→G (.dict i)):G a:=by cases a <;> first|exact nn q|exact g _ q
theorem uCell_k {k:Nat→Option α} (q:uCell a k=some r) (g:∀ i,k i=some r→G (.cell i)):G a:=by cases a <;> first|exact nn q|exact g _ q
theorem uBool_k {k:Bool→Option α} (q:uBool a k=some r) (g:∀ i,k i=some r→G (.bool i)):G a:=by cases a <;> first|exact nn q|exact g _ q
theorem uInst_k {k:Nat→List V→Option α} (q:uInst a k=some r) (g:∀ c xs,k c xs=some r→G (.inst c xs)):G a:=by cases a <;> first|exact nn q|exact g _ _ q
theorem atL_k {o:Option Ob} {k:List V→Option α} {G:Option Ob→Prop} (q:atL o k=some r) (g:∀ i,k i=some r→G (some (.list i))):G o:=by
 cases o with
 | none=>exact nn q
 | some o=>cases o <;> first|exact nn q|exact g _ q
theorem atD_k {o:Option Ob} {k:List (Str×V)→Option α} {G:Option Ob→Prop} (q:atD o k=some r) (g:∀ i,k i=some r→G (some (.sd i))):G o:=by
 cases o with
 | none=>exact nn q
 | some o=>cases o <;> first|exact nn q|exact g _ q
end
end
section
variable {α β γ δ:Type} {Z:Sta} {F F₀ F₁ F₂:Fz} {a b v:V} {x y:Value} {A:Around} {Ψ:Pv} {σ σ₁ σ₂ σ':Mem} {s s₁ s₂:Shared} {h:Heap} {tk:Nat} {R:Fz→β→α→Prop}
section
variable {r:α} {G:V→Value→Prop}
theorem VR.oInt {k:Int→Option α} (h:VR Z F a x) (q:uInt a k=some r) (g:∀ i t,k i=some r→G (.int i) (.int i t)):G a x:=uInt_k (G:=fun a=>VR Z F a x→G a x) q (fun i p h=>h _ fun t=>g i t p) h
theorem VR.oStr {k:Str→Option α} (h:VR Z F a x) (q:uStr a k=some r) (g:∀ i t,k i=some r→G (.str i) (.str i t)):G a x:=uStr_k (G:=fun a=>VR Z F a x→G a x) q (fun i p h=>h _ fun t=>g i t p) h
theorem VR.oByts {k:List UInt8→Option α} (h:VR Z F a x) (q:uByts a k=some r) (g:∀ i t,k i=some r→G (.byts i) (.bytes i.toArray t)):G a x:=uByts_k (G:=fun a=>VR Z F a x→G a x) q (fun i p h=>h _ fun t=>g i t p) h
theorem VR.oBool {k:Bool→Option α} (h:VR Z F a x) (q:uBool a k=some r) (g:∀ i,k i=some r→G (.bool i) (.bool i)):G a x:=uBool_k (G:=fun a=>VR Z F a x→G a x) q (fun i p h=>h _ (g i p)) h
theorem VR.oTup {k:List V→Option α} (h:VR Z F a x) (q:uTup a k=some r) (g:∀ xs c vs n,xs.length≤cap→F.o c=some (tupObj vs n)→VRs Z F xs vs→k xs=some r→G (.tup xs) (.ref c)):G a x:=uTup_k (G:=fun a=>VR Z F a x→G a x) q (fun i p h=>h _ fun c vs n z e l=>g i c vs n z e l p) h
theorem VR.oList {k:List V→Option α} (h:VR Z F a x) (q:uList a k=some r) (g:∀ xs c vs n,xs.length≤cap→F.o c=some (lstObj vs n)→VRs Z F xs vs→k xs=some r→G (.list xs) (.ref c)):G a x:=uList_k (G:=fun a=>VR Z F a x→G a x) q (fun i p h=>h _ fun c vs n z e l=>g i c vs n z e l p) h
theorem VR.oDict {k:List (Str×V)→Option α} (h:VR Z F a x) (q:uDict a k=some r) (g:∀ es c o kvs,(c == sysModules)=false→es.length≤cap→F.o c=some o→o.IsDictOf (sk Z) kvs→ER Z F es kvs→k es=some r→G (.dict es) (.ref c)):G a x:=uDict_k (G:=fun a=>VR Z F a x→G a x) q (fun i p h=>h _ fun c o kvs n z e d l=>g i c o kvs n z e d l p) h
theorem VR.oCell {k:Nat→Option α} (h:VR Z F a x) (q:uCell a k=some r) (g:∀ i c,F.c[i]?=some c→k i=some r→G (.cell i) (.ref c)):G a x:=uCell_k (G:=fun a=>VR Z F a x→G a x) q (fun i p h=>h _ fun c e=>g i c e p) h
end
theorem Stp.refl (S:SR Z F Ψ σ s.heap):Stp Z Ψ F s F σ s:=⟨⟨rfl,rfl,rfl⟩,Ext.refl F,S⟩
theorem Stp.upd (p:Stp Z Ψ F s F₁ σ₁ s₁) (e:Ext F₁ F₂) (S:SR Z F₂ Ψ σ₂ h):Stp Z Ψ F s F₂ σ₂ { s₁ with heap:=h,toks:=tk }:=⟨p.c,p.e.trans e,S⟩
theorem Stp.trans (p:Stp Z Ψ F s F₁ σ₁ s₁) (q:Stp Z Ψ F₁ s₁ F₂ σ₂ s₂):Stp Z Ψ F s F₂ σ₂ s₂:=⟨⟨q.c.1.trans p.c.1,q.c.2.1.trans p.c.2.1,q.c.2.2.trans p.c.2.2⟩,p.e.trans q.e,q.S⟩
theorem Stp.new (e:Ext F F₁) (S:SR Z F₁ Ψ σ h):Stp Z Ψ F s F₁ σ { s with heap:=h,toks:=tk }:=⟨⟨rfl,rfl,rfl⟩,e,S⟩
theorem Stp.pr {r:β} {x:α} (p:Stp Z Ψ F s F₁ σ₁ s₁) (v:R F₁ r x):PR Z Ψ R F s σ₁ r x s₁:=⟨F₁,p,v⟩
theorem PR.new {r:β} {x:α} (e:Ext F F₁) (S:SR Z F₁ Ψ σ h) (v:R F₁ r x):PR Z Ψ R F s σ r x { s with heap:=h,toks:=tk }:=⟨F₁,.new e S,v⟩
theorem PR.same {r:β} {x:α} (S:SR Z F Ψ σ h) (v:R F r x):PR Z Ψ R F s σ r x { s with heap:=h,toks:=tk }:=⟨F,.new (Ext.refl F) S,v⟩
theorem PR.here {r:β} {x:α} (S:SR Z F Ψ σ s.heap) (v:R F r x):PR Z Ψ R F s σ r x s:=⟨F,.refl S,v⟩
theorem PR.up {r:β} {x:α} (p:Stp Z Ψ F s F₁ σ₁ s₁) (q:PR Z Ψ R F₁ s₁ σ₂ r x s₂):PR Z Ψ R F s σ₂ r x s₂:=q.elim fun F₂ q=>⟨F₂,p.trans q.1,q.2⟩
theorem wpPR {t:Sem α} {r:β} {Q:α→Shared→Prop} (h:wpAny (Md Z) A t (PR Z Ψ R F s σ' r) Fls s₁) (k:∀ x s' F',Stp Z Ψ F s F' σ' s'→R F' r x→Q x s'):wpAny (Md Z) A t Q Fls s₁:=
 wpAny_mono h (fun x s' p=>p.elim fun F' p=>k x s' F' p.1 p.2) fun _ _ z=>z
theorem Stp.go {t:Sem α} {r:β} (p:Stp Z Ψ F s F₁ σ₁ s₁) (h:wpAny (Md Z) A t (PR Z Ψ R F₁ s₁ σ' r) Fls s₁):wpAny (Md Z) A t (PR Z Ψ R F s σ' r) Fls s₁:=wpAny_mono h (fun _ _ q=>q.up p) fun _ _ z=>z
variable {R₁:Fz→β→α→Prop} {R₂:Fz→δ→γ→Prop} {t:Sem α} {m:M β}
theorem Sn.ext (h:Sn Z A Ψ F₀ R t m) (e:Ext F₀ F):Sn Z A Ψ F R t m:=fun F' σ r σ' s e' S q=>h F' σ r σ' s (e.trans e') S q
theorem Sn.none (h:∀ σ,m σ=none):Sn Z A Ψ F₀ R t m:=fun _ σ _ _ _ _ _ q=>nn ((h σ).symm.trans q)
theorem Sn.bind {f:α→Sem γ} {k:β→M δ} (h1:Sn Z A Ψ F₀ R₁ t m) (h2:∀ F v x,Ext F₀ F→R₁ F v x→Sn Z A Ψ F R₂ (f x) (k v)):Sn Z A Ψ F₀ R₂ (t >>= f) (bnd m k):=
 fun F σ r σ' s e S q=>bnd_k q fun a σ₁ q1 q2=>wpAny_bind (wpPR (h1 F σ a σ₁ s e S q1) fun x s₁ F₁ p v=>p.go (h2 F₁ a x (e.trans p.e) v F₁ σ₁ r σ' s₁ (Ext.refl F₁) p.S q2))
theorem Sn.then {f:α→Sem γ} {k:β→M δ} (h1:Sn Z A Ψ F₀ R₁ t m) (h2:∀ F σ v x r σ' s,Ext F₀ F→R₁ F v x→SR Z F Ψ σ s.heap→k v σ=some (r,σ')→wpAny (Md Z) A (f x) (PR Z Ψ R₂ F s σ' r) Fls s):Sn Z A Ψ F₀ R₂ (t >>= f) (bnd m k):=
 fun F σ r σ' s e S q=>bnd_k q fun a σ₁ q1 q2=>wpAny_bind (wpPR (h1 F σ a σ₁ s e S q1) fun x s₁ F₁ p v=>p.go (h2 F₁ σ₁ a x r σ' s₁ (e.trans p.e) v p.S q2))
theorem Sn.pure {x:α} {v:β} (h:∀ F,Ext F₀ F→R F v x):Sn Z A Ψ F₀ R (Pure.pure x) (ret v):=fun F σ r σ' s e S q=>ret_k (G:=fun r σ'=>wpAny _ _ _ (PR Z Ψ R F s σ' r) Fls s) q (wpAny_pure (.here S (h F e)))
theorem Sn.post {R':Fz→δ→α→Prop} {g:β→δ} (h:Sn Z A Ψ F₀ R t m) (k:∀ F v x,Ext F₀ F→R F v x→R' F (g v) x):Sn Z A Ψ F₀ R' t (bnd m fun v=>ret (g v)):=
 fun F σ r σ' s e S q=>bnd_k q fun a σ₁ q1 q2=>ret_k (G:=fun r σ'=>wpAny _ _ _ (PR Z Ψ R' F s σ' r) Fls s) q2 (wpPR (h F σ a σ₁ s e S q1) fun x s₁ F₁ p v=>p.pr (k F₁ a x (e.trans p.e) v))
theorem Sn.imp {R':Fz→β→α→Prop} (h:Sn Z A Ψ F₀ R t m) (k:∀ F v x,Ext F₀ F→R F v x→R' F v x):Sn Z A Ψ F₀ R' t m:=
 fun F σ r σ' s e S q=>wpPR (h F σ r σ' s e S q) fun x s₁ F₁ p v=>p.pr (k F₁ r x (e.trans p.e) v)
theorem Sn.holding {vs:List Value} (h:Sn Z A Ψ F₀ R t m):Sn Z A Ψ F₀ R (PySem.holding vs t) m:=fun F σ r σ' s e S q=>wpAny_holding (h F σ r σ' s e S q)
theorem Sn.stand {t:Unit→Sem α} {p:Pos} (h:Sn Z A Ψ F₀ R (t ()) m):Sn Z A Ψ F₀ R (standAt p >>= t) m:=fun F σ r σ' s e S q=>wpAny_bind (wpAny_standAt (h F σ r σ' s e S q))
theorem Sn.operate {R:Fz→β→Value→Prop} {t:Sem Value} {vs:List Value} (h:Sn Z A Ψ F₀ R t m):Sn Z A Ψ F₀ R (PySem.operate vs t) m:=fun F σ r σ' s e S q=>wpAny_operateT (h F σ r σ' s e S q)
theorem Sn.in1 (h:Sn Z A.in1 Ψ F₀ R t m):Sn Z A Ψ F₀ R t m:=fun F σ r σ' s e S q=>wpAny_of_in1 (h F σ r σ' s e S q)
theorem Sn.val {v:β} (h:∀ (s:Shared) (Q:α→Shared→Prop),(∀ x tk,(∀ F,R F v x)→Q x { s with toks:=tk })→wpAny (Md Z) A t Q Fls s):Sn Z A Ψ F₀ R t (ret v):=
 fun F σ r σ' s e S q=>ret_k (G:=fun r σ'=>wpAny _ _ _ (PR Z Ψ R F s σ' r) Fls s) q (h s _ fun x tk hx=>.same S (hx F))
end
structure Room (A:Around) (n:Nat):Prop where
 hand:A.handled=none
 depth:A.depth+3*n+3<recursionLimit
 units:A.units+16*n+64<cLine
theorem Room.le {A:Around} {n m:Nat} (r:Room A n) (h:m≤n):Room A m:=⟨r.hand,Nat.lt_of_le_of_lt (Nat.add_le_add_right (Nat.add_le_add_left (Nat.mul_le_mul_left 3 h) _) _) r.depth,Nat.lt_of_le_of_lt (Nat.add_le_add_right (Nat.add_le_add_left (Nat.mul_le_mul_left 16 h) _) _) r.units⟩
theorem Room.u8 {A:Around} {n:Nat} (r:Room A n):A.units+8<cLine:=Nat.lt_of_le_of_lt (Nat.add_le_add (Nat.le_add_right ..) (by decide)) r.units
theorem u_lt {A:Around} (h:A.units+8<cLine):A.units<cLine:=Nat.lt_of_le_of_lt (Nat.le_add_right ..) h
section
variable {Z:Sta} {F:Fz} {v:V} {x:Value} {Ψ:Pv} {σ σ':Mem} {h:Heap} {r:β} {a:Addr} {n:Nat} {vs:List Value}
noncomputable abbrev DD {K:Type} [DecidableEq K] (kd:KeyKind Z.prog Z.w K) (a:Addr) (o:Obj) (es:List (K×V)) (kvs:List (K×Value)):Prop:=o.IsDictOf kd kvs∧(a == sysModules)=false∧es.length≤cap
noncomputable def obL (h:Heap) (Z:Sta) (F:Fz) (a:Addr) (xs:List V) (G:Prop):Prop:=(∀ vs n,h.get? a=some (lstObj vs n)→xs.length≤cap→VRs Z F xs vs→G)→G
theorem rdList_c {i:Nat} (S:SR Z F Ψ σ h) (g:F.c[i]?=some a) {xs:List V} {G:List V→Mem→Prop} (q:rdList (.cell i) σ=some (xs,σ')) (k:∀ xs vs n,h.get? a=some (lstObj vs n)→xs.length≤cap→VRs Z F xs vs→G xs σ):G xs σ':=by
 have q:(match σ[i]? with
  | some (.list xs)=>some (xs,σ)
  | _=>Option.none)=some (xs,σ'):=q
 cases e:σ[i]? with
 | none=>rw [e] at q;exact nn q
 | some o=>
  rw [e] at q
  cases o with
  | list ys=>exact ret_k q ((S.cel i a _ g e).inv fun vs n _ _ p1 p2 p3=>k ys vs n p1 p2 p3)
  | _=>exact nn q
theorem rdList_k (S:SR Z F Ψ σ h) (hv:VR Z F v x) {xs:List V} {G:Value→List V→Mem→Prop} (q:rdList v σ=some (xs,σ')) (k:∀ a xs vs n,h.get? a=some (lstObj vs n)→xs.length≤cap→VRs Z F xs vs→G (.ref a) xs σ):G x xs σ':=by
 cases v with
 | list ys=>apply hv;exact fun a vs n z g l=>ret_k q (k a ys vs n (S.frz _ _ g) z l)
 | cell i=>apply hv;exact fun a g=>rdList_c S g q (k a)
 | _=>exact nn q
theorem rdDict_c {i:Nat} (S:SR Z F Ψ σ h) (g:F.c[i]?=some a) {xs:List (Str×V)} {G:List (Str×V)→Mem→Prop} (q:rdDict (.cell i) σ=some (xs,σ')) (k:∀ xs o kvs,h.get? a=some o→DD (sk Z) a o xs kvs→ER Z F xs kvs→G xs σ):G xs σ':=by
 have q:(match σ[i]? with
  | some (.sd es)=>some (es,σ)
  | some (.lent es)=>some (es,σ)
  | _=>Option.none)=some (xs,σ'):=q
 cases e:σ[i]? with
 | none=>rw [e] at q;exact nn q
 | some o=>
  rw [e] at q
  cases o with
  | sd ys=>exact ret_k q ((S.cel i a _ g e).inv fun o kvs _ _ p1 p2 p3=>k ys o kvs p1 p2 p3)
  | lent ys=>exact ret_k q ((S.cel i a _ g e).inv fun o kvs _ p1 p2 p3=>k ys o kvs (S.frm _ _ _ p1) p2 p3)
  | _=>exact nn q
theorem rdDict_k (S:SR Z F Ψ σ h) (hv:VR Z F v x) {xs:List (Str×V)} {G:Value→List (Str×V)→Mem→Prop} (q:rdDict v σ=some (xs,σ')) (k:∀ a xs o kvs,h.get? a=some o→DD (sk Z) a o xs kvs→ER Z F xs kvs→G (.ref a) xs σ):G x xs σ':=by
 cases v with
 | dict ys=>apply hv;exact fun a o kvs n z g d l=>ret_k q (k a ys o kvs (S.frz _ _ g) ⟨d,n,z⟩ l)
 | cell i=>apply hv;exact fun a g=>rdDict_c S g q (k a)
 | _=>exact nn q
theorem rdId_k (S:SR Z F Ψ σ h) (hv:VR Z F v x) {xs:List (Int×V)} {G:Value→List (Int×V)→Mem→Prop} (q:rdId v σ=some (xs,σ')) (k:∀ a xs o kvs,h.get? a=some o→DD (ik Z) a o xs kvs→EI Z F xs kvs→G (.ref a) xs σ):G x xs σ':=by
 cases v with
 | cell i=>
  apply hv
  intro a g
  have q:(match σ[i]? with
   | some (.id es)=>some (es,σ)
   | _=>Option.none)=some (xs,σ'):=q
  cases e:σ[i]? with
  | none=>rw [e] at q;exact nn q
  | some o=>
   rw [e] at q
   cases o with
   | id ys=>exact ret_k q ((S.cel i a _ g e).inv fun o kvs _ _ p1 p2 p3=>k a ys o kvs p1 p2 p3)
   | _=>exact nn q
 | _=>exact nn q
noncomputable def K3At (h:Heap) (x:Value):K3→Prop
 | .L=>∃ a o,x=.ref a∧h.get? a=some o∧o.cls=.type "list"∧o.dict=none
 | .N=>True
 | _=>∃ a o,x=.ref a∧h.get? a=some o∧o.cls=.type "dict"∧o.dict=none
theorem kd_list (g:h.get? a=some (lstObj vs n)):K3At h (.ref a) .L:=⟨a,_,rfl,g,rfl,rfl⟩
theorem kd_dict {K:Type} [DecidableEq K] {kd:KeyKind Z.prog Z.w K} {o:Obj} {kvs:List (K×Value)} (g:h.get? a=some o) (d:o.IsDictOf kd kvs):∃ b o,Value.ref a=.ref b∧h.get? b=some o∧o.cls=.type "dict"∧o.dict=none:=d.elim fun _ d=>d.elim fun _ d=>⟨a,o,rfl,g,d.1.1,d.1.2.1⟩
theorem kind3_k (S:SR Z F Ψ σ h) (hv:VR Z F v x) {t:K3} {G:K3→Mem→Prop} (q:kind3 v σ=some (t,σ')) (k:∀ t,K3At h x t→G t σ):G t σ':=by
 cases v with
 | list ys=>exact hv (fun x=>(∀ t,K3At h x t→G t σ)→G t σ') (fun a vs n z g l k=>ret_k q (k .L (kd_list (S.frz _ _ g)))) k
 | dict ys=>exact hv (fun x=>(∀ t,K3At h x t→G t σ)→G t σ') (fun a o kvs n z g d l k=>ret_k q (k .D (kd_dict (S.frz _ _ g) d))) k
 | cell i=>
  refine hv (fun x=>(∀ t,K3At h x t→G t σ)→G t σ') (fun a g k=>?_) k
  have q:(match σ[i]? with
   | some (.list _)=>some (K3.L,σ)
   | some (.sd _)=>some (.D,σ)
   | some (.lent _)=>some (.D,σ)
   | some (.id _)=>some (.I,σ)
   | _=>Option.none)=some (t,σ'):=q
  cases e:σ[i]? with
  | none=>rw [e] at q;exact nn q
  | some o=>
   rw [e] at q
   cases o with
   | list ys=>exact ret_k q ((S.cel i a _ g e).inv fun vs n _ _ p1 p2 p3=>k .L (kd_list p1))
   | sd ys=>exact ret_k q ((S.cel i a _ g e).inv fun o kvs _ _ p1 p2 p3=>k .D (kd_dict p1 p2.1))
   | lent ys=>exact ret_k q ((S.cel i a _ g e).inv fun o kvs _ p1 p2 p3=>k .D (kd_dict (S.frm _ _ _ p1) p2.1))
   | id ys=>exact ret_k q ((S.cel i a _ g e).inv fun o kvs _ _ p1 p2 p3=>k .I (kd_dict p1 p2.1))
   | dead=>exact nn q
 | _=>exact ret_k q (k .N trivial)
end
section
variable {β:Type} {Z:Sta} {F:Fz} {v:V} {x:Value} {Ψ:Pv} {σ σ':Mem} {h:Heap} {r:β×Mem}
theorem bndL {f:List V→M β} (S:SR Z F Ψ σ h) (hv:VR Z F v x) {G:Value→Prop} (q:bnd (rdList v) f σ=some r) (k:∀ a xs vs n,h.get? a=some (lstObj vs n)→xs.length≤cap→VRs Z F xs vs→f xs σ=some r→G (.ref a)):G x:=
 bnd_k q fun xs σ' q=>rdList_k S hv (G:=fun x xs σ'=>f xs σ'=some r→G x) q fun a xs vs n p1 p2 p3 p4=>k a xs vs n p1 p2 p3 p4
theorem bndD {f:List (Str×V)→M β} (S:SR Z F Ψ σ h) (hv:VR Z F v x) {G:Value→Prop} (q:bnd (rdDict v) f σ=some r) (k:∀ a es o kvs,h.get? a=some o→DD (sk Z) a o es kvs→ER Z F es kvs→f es σ=some r→G (.ref a)):G x:=
 bnd_k q fun xs σ' q=>rdDict_k S hv (G:=fun x xs σ'=>f xs σ'=some r→G x) q fun a xs vs n p1 p2 p3 p4=>k a xs vs n p1 p2 p3 p4
theorem bndI {f:List (Int×V)→M β} (S:SR Z F Ψ σ h) (hv:VR Z F v x) {G:Value→Prop} (q:bnd (rdId v) f σ=some r) (k:∀ a es o kvs,h.get? a=some o→DD (ik Z) a o es kvs→EI Z F es kvs→f es σ=some r→G (.ref a)):G x:=
 bnd_k q fun xs σ' q=>rdId_k S hv (G:=fun x xs σ'=>f xs σ'=some r→G x) q fun a xs vs n p1 p2 p3 p4=>k a xs vs n p1 p2 p3 p4
theorem bndK {f:K3→M β} (S:SR Z F Ψ σ h) (hv:VR Z F v x) {G:Prop} (q:bnd (kind3 v) f σ=some r) (k:∀ t,K3At h x t→f t σ=some r→G):G:=
 bnd_k q fun xs σ' q=>kind3_k S hv (G:=fun t σ'=>f t σ'=some r→G) q k
end
theorem isList {h:Heap} {a:Addr} {vs:List Value} {n:Nat} (g:h.get? a=some (lstObj vs n)):h.IsList a vs.toArray:=⟨_,g,rfl,n,rfl⟩
theorem isTuple {h:Heap} {a:Addr} {vs:List Value} {n:Nat} (g:h.get? a=some (tupObj vs n)):h.IsTuple a vs.toArray:=⟨_,g,rfl,n,rfl⟩
theorem capLine:cap<sizeLine:=by decide
theorem cap63 {n:Nat} (h:n≤cap):(n:Int)<2 ^ 63:=Int.lt_of_le_of_lt (Int.ofNat_le.mpr h) (by decide)
section
variable {Z:Sta} {F:Fz}
theorem VRs.length {xs:List V} {vs:List Value} (h:VRs Z F xs vs):vs.length=xs.length:=List.rec (motive:=fun xs=>∀ vs,VRs Z F xs vs→vs.length=xs.length) (fun _ h=>h (fun vs=>vs.length=0) rfl) (fun _ r ih _ h=>h (fun vs=>vs.length=r.length+1) fun _ _ _ p=>congrArg (·+1) (ih _ p)) xs vs h
theorem VRs.get {xs:List V} {vs:List Value} {i:Nat} {v:V} (h:VRs Z F xs vs) (e:xs[i]?=some v):∃ x,vs[i]?=some x∧VR Z F v x:=
 List.rec (motive:=fun xs=>∀ (i:Nat) vs,VRs Z F xs vs→xs[i]?=some v→∃ x,vs[i]?=some x∧VR Z F v x) (fun _ _ _ e=>nn e)
  (fun u r ih i _ h e=>h (fun vs=>∃ x,vs[i]?=some x∧VR Z F v x) fun y ys p q=>match i,e with
   | 0,e=>⟨y,rfl,Option.some.inj e▸p⟩
   | i+1,e=>ih i ys q e) xs i vs h e
theorem VRs.append {xs ys:List V} {vs ws:List Value} (h:VRs Z F xs vs) (r:VRs Z F ys ws):VRs Z F (xs++ys) (vs++ws):=
 List.rec (motive:=fun xs=>∀ vs,VRs Z F xs vs→VRs Z F (xs++ys) (vs++ws)) (fun _ h=>h (fun vs=>VRs Z F ys (vs++ws)) r) (fun u _ ih _ h=>h (fun vs=>VRs Z F (u::(_++ys)) (vs++ws)) fun _ _ p q=>.cons p (ih _ q)) xs vs h
end
end Mine
namespace Mine
open PySem PySem.Calls PyProof.Rows PySem.SeqAt PySem.MeetsSeq
section
variable {α β:Type} {Z:Sta} {A:Around} {Ψ:Pv} {F F₀:Fz} {n:Nat} {a b:V} {x y:Value} {σ σ':Mem} {s:Shared} {r:Bool}
theorem some_k {a r:α} {G:α→Prop} (e:some a=some r) (k:G a):G r:=Option.some.inj e▸k
theorem eqA_k (ha:VR Z F a x) (hb:VR Z F b y) (e:eqA a b=some r) {G:Value→Value→Bool→Prop} (h1:∀ i j t u,G (.int i t) (.int j u) (decide (i=j))) (h2:∀ i j t u,G (.str i t) (.str j u) (decide (i=j))):G x y r:=by
 cases a with
 | int i=>exact ha (fun x=>G x y r) fun t=>hb.oInt (G:=fun _ y=>G (.int i t) y r) e fun j u e=>some_k e (h1 i j t u)
 | str i=>exact ha (fun x=>G x y r) fun t=>hb.oStr (G:=fun _ y=>G (.str i t) y r) e fun j u e=>some_k e (h2 i j t u)
 | _=>exact nn e
theorem eqA_at (ha:VR Z F a x) (hb:VR Z F b y) (e:eqA a b=some r):EqAt A s x y r:=eqA_k ha hb e (G:=EqAt A s) (fun _ _ _ _=>.int_int _ _ _ _) (fun _ _ _ _=>.str_str _ _ _ _)
theorem eqA_same (ha:VR Z F a x) (hb:VR Z F b x) (e:eqA a b=some r):r=true:=eqA_k ha hb e (G:=fun x y r=>x=y→r=true) (fun _ _ _ _ e=>decide_eq_true (Value.int.inj e).1) (fun _ _ _ _ e=>decide_eq_true (Value.str.inj e).1) rfl
theorem range_all_succ (e:Nat→Bool) (n:Nat):(List.range (n+1)).all e=(e 0&&(List.range n).all fun j=>e (j+1)):=by rw [List.range_succ_eq_map,List.all_cons,List.all_map];rfl
theorem succ_beq (n m:Nat):(n+1 == m+1)=(n == m):=by rw [Bool.eq_iff_iff];simp
noncomputable def RowAt (A:Around) (s:Shared) (vs ws:List Value) (r:Bool):Prop:=∃ e:Nat→Bool,(∀ j (h1:j<vs.length) (h2:j<ws.length),EqAt A s vs[j] ws[j] (e j))∧((List.range (min vs.length ws.length)).all e&&vs.length == ws.length)=r
theorem RowAt.cons {vs ws:List Value} {q:Bool} (h:EqAt A s x y q) (l:RowAt A s vs ws r):RowAt A s (x::vs) (y::ws) (q&&r):=
 l.elim fun f p=>⟨fun j=>match j with|0=>q|j+1=>f j,fun j=>match j with
  | 0=>fun _ _=>h
  | j+1=>fun h1 h2=>p.1 j (Nat.lt_of_succ_lt_succ h1) (Nat.lt_of_succ_lt_succ h2),by
   rw [← p.2,List.length_cons,List.length_cons,Nat.succ_min_succ,range_all_succ,succ_beq,Bool.and_assoc]⟩
theorem row_at {P:V→V→Option Bool} (hP:∀ a b x y r,VR Z F a x→VR Z F b y→P a b=some r→EqAt A s x y r) {xs ys:List V} {vs ws:List Value} (h:VRs Z F xs vs) (h':VRs Z F ys ws) (e:eqRow P xs ys=some r):RowAt A s vs ws r:=by
 induction xs generalizing ys vs ws r with
 | nil=>
  cases ys with
  | nil=>exact h (fun vs=>RowAt A s vs ws r) (h' (fun ws=>RowAt A s [] ws r) (some_k e ⟨fun _=>true,(fun j h1=>absurd h1 (Nat.not_lt_zero _)),rfl⟩))
  | cons=>exact h (fun vs=>RowAt A s vs ws r) (h' (fun ws=>RowAt A s [] ws r) fun y ys _ _=>some_k e ⟨fun _=>true,(fun j h1=>absurd h1 (Nat.not_lt_zero _)),rfl⟩)
 | cons a xs ih=>
  cases ys with
  | nil=>exact h (fun vs=>RowAt A s vs ws r) fun x vs _ _=>h' (fun ws=>RowAt A s (x::vs) ws r) (some_k e ⟨fun _=>true,(fun j _ h1=>absurd h1 (Nat.not_lt_zero _)),rfl⟩)
  | cons b ys=>exact h (fun vs=>RowAt A s vs ws r) fun x vs p l=>h' (fun ws=>RowAt A s (x::vs) ws r) fun y ws p' l'=>obk e fun q e1 e=>obk e fun r e2 e=>some_k e (.cons (hP _ _ _ _ _ p p' e1) (ih l l' e2))
theorem row_same {P:V→V→Option Bool} (hP:∀ a b x r,VR Z F a x→VR Z F b x→P a b=some r→r=true) {xs ys:List V} {vs:List Value} (h:VRs Z F xs vs) (h':VRs Z F ys vs) (e:eqRow P xs ys=some r):r=true:=by
 induction xs generalizing ys vs r with
 | nil=>
  cases ys with
  | nil=>exact (Option.some.inj e).symm
  | cons=>exact h' (fun ws=>VRs Z F [] ws→r=true) (fun y ys _ _ h=>h (fun ws=>ws=y::ys→r=true) (fun e=>nomatch e) rfl) h
 | cons a xs ih=>
  cases ys with
  | nil=>exact h (fun ws=>VRs Z F [] ws→r=true) (fun y ys _ _ h=>h (fun ws=>ws=y::ys→r=true) (fun e=>nomatch e) rfl) h'
  | cons b ys=>exact h (fun ws=>VRs Z F (b::ys) ws→r=true) (fun y zs p l h=>h (fun ws=>ws=y::zs→r=true) (fun y' zs' p' l' e'=>obk e fun q e1 e=>obk e fun r e2 e=>(Option.some.inj e).symm.trans (congr (congrArg and (hP _ _ _ _ p ((List.cons.inj e').1▸p') e1)) (ih l ((List.cons.inj e').2▸l') e2))) rfl) h'
theorem tupEq {vs ws:List Value} {n k:Nat} {a b:Addr} {h:Heap} (g:h.get? a=some (tupObj vs n)) (g':h.get? b=some (tupObj ws k)) (e:a=b):vs=ws:=by
 subst e
 rw [g] at g'
 exact (by simpa using g':vs=ws∧n=k).1
theorem eqV_k (ha:VR Z F a x) (hb:VR Z F b y) (e:eqV a b=some r) {G:Value→Value→Bool→Prop} (h1:∀ i j t u,G (.int i t) (.int j u) (decide (i=j))) (h2:∀ i j t u,G (.str i t) (.str j u) (decide (i=j)))
  (h3:G .none .none true) (h4:∀ c vs n,F.o c=some (tupObj vs n)→G .none (.ref c) false) (h5:∀ c vs n,F.o c=some (tupObj vs n)→G (.ref c) .none false)
  (h6:∀ c d vs ws n m xs ys r,F.o c=some (tupObj vs n)→F.o d=some (tupObj ws m)→VRs Z F xs vs→VRs Z F ys ws→eqRow eqA xs ys=some r→G (.ref c) (.ref d) r):G x y r:=by
 cases a with
 | int i=>exact ha (fun x=>G x y r) fun t=>hb.oInt (G:=fun _ y=>G (.int i t) y r) e fun j u e=>some_k e (h1 i j t u)
 | str i=>exact ha (fun x=>G x y r) fun t=>hb.oStr (G:=fun _ y=>G (.str i t) y r) e fun j u e=>some_k e (h2 i j t u)
 | none=>
  refine ha (fun x=>G x y r) ?_
  cases b with
  | none=>exact hb (fun y=>G .none y r) (some_k e h3)
  | tup=>exact hb (fun y=>G .none y r) fun c vs n _ g _=>some_k e (h4 c vs n g)
  | _=>exact nn e
 | tup xs=>
  refine ha (fun x=>G x y r) fun c vs n _ g l=>?_
  cases b with
  | none=>exact hb (fun y=>G (.ref c) y r) (some_k e (h5 c vs n g))
  | tup=>exact hb (fun y=>G (.ref c) y r) fun d ws m _ g' l'=>h6 c d vs ws n m _ _ r g g' l l' e
  | _=>exact nn e
 | _=>exact nn e
theorem eqV_rc (S:SR Z F Ψ σ s.heap) (hu:A.units<cLine) (ha:VR Z F a x) (hb:VR Z F b y) (e:eqV a b=some r):RcAt A s x y r:=
 eqV_k ha hb e (G:=RcAt A s) (fun _ _ _ _=>.int_int _ _ _ _) (fun _ _ _ _=>.str_str _ _ _ _) .none_none (fun _ _ _ g=>.none_tuple (isTuple (S.frz _ _ g)) hu) (fun _ _ _ g=>.tuple_none (isTuple (S.frz _ _ g)) hu)
  fun c d vs ws n m xs ys r g g' l l' e=>(row_at (fun _ _ _ _ _ p q k=>eqA_at (A:=A.in1) (s:=s) p q k) l l' e).elim fun f p=>p.2▸RcAt.tuples (isTuple (S.frz _ _ g)) (isTuple (S.frz _ _ g')) hu (e:=f) p.1
theorem eqV_at (S:SR Z F Ψ σ s.heap) (hu:A.units<cLine) (ha:VR Z F a x) (hb:VR Z F b y) (e:eqV a b=some r):EqAt A s x y r:=
 eqV_k ha hb e (G:=EqAt A s) (fun _ _ _ _=>.int_int _ _ _ _) (fun _ _ _ _=>.str_str _ _ _ _) (.same _) (fun _ _ _ g=>.none_tuple (isTuple (S.frz _ _ g)) hu) (fun _ _ _ g=>.tuple_none (isTuple (S.frz _ _ g)) hu)
  fun c d vs ws n m xs ys r g g' l l' e=>if h:c=d then h▸(row_same (fun _ _ _ _ p q k=>eqA_same p q k) l (tupEq (S.frz _ _ g) (S.frz _ _ g') h▸l') e).symm▸EqAt.same _
   else EqAt.of_refs h ((row_at (fun _ _ _ _ _ p q k=>eqA_at (A:=A.in1) (s:=s) p q k) l l' e).elim fun f p=>p.2▸RcAt.tuples (isTuple (S.frz _ _ g)) (isTuple (S.frz _ _ g')) hu (e:=f) p.1)
theorem lists_at (hu:A.units<cLine) {c d:Addr} {vs ws:List Value} {n m:Nat} (g:s.heap.get? c=some (lstObj vs n)) (g':s.heap.get? d=some (lstObj ws m)) (h:RowAt A.in1 s vs ws r):RcAt A s (.ref c) (.ref d) r:=
 h.elim fun f p=>if e:vs.length=ws.length then fun P w E Q k=>eq_listAt (isList g) (isList g') e hu p.1 (by
   have:=p.2
   rw [← e,Nat.min_self,beq_self_eq_true,Bool.and_true] at this
   exact this.symm▸k)
  else fun P w E Q k=>eq_list_lengthsAt (isList g) (isList g') (bne_iff_ne.mpr e) hu (by
   have:=p.2
   rw [beq_false_of_ne e,Bool.and_false] at this
   exact this.symm▸k)
theorem cmpEq_sound (hu:A.units+8<cLine) (ha:VR Z F₀ a x) (hb:VR Z F₀ b y):Sn Z A Ψ F₀ VB (compareOp .Eq x y) (cmpEq a b):=fun F σ r σ' s E S q=>by
 have q:(match flat a with
  | true=>lft (eqV a b)
  | false=>bnd (rdList a) fun xs=>bnd (rdList b) fun ys=>lft (eqVs xs ys)) σ=some (r,σ'):=q
 cases h:flat a with
 | true=>
  rw [h] at q
  exact lft_k (G:=fun r σ'=>wpAny (Md Z) A (compareOp .Eq x y) (PR Z Ψ VB F s σ' r) Fls s) q fun r e=>eqV_rc S (u_lt hu) (ha.mono E) (hb.mono E) e _ _ _ _ (.here S rfl)
 | false=>
  rw [h] at q
  exact bndL S (ha.mono E) (G:=fun x=>wpAny (Md Z) A (compareOp .Eq x y) (PR Z Ψ VB F s σ' r) Fls s) q fun c xs vs n g _ l q=>bndL S (hb.mono E) (G:=fun y=>wpAny (Md Z) A (compareOp .Eq (.ref c) y) (PR Z Ψ VB F s σ' r) Fls s) q fun d ys ws m g' _ l' q=>
   lft_k (G:=fun r σ'=>wpAny (Md Z) A (compareOp .Eq (.ref c) (.ref d)) (PR Z Ψ VB F s σ' r) Fls s) q fun r e=>lists_at (u_lt hu) g g' (row_at (fun _ _ _ _ _ p q k=>eqV_at (A:=A.in1) S (Nat.lt_of_le_of_lt (Nat.add_le_add_left (by decide:1≤8) _) hu) p q k) l l' e) _ _ _ _ (.here S rfl)
variable {R:Fz→β→α→Prop} {f:Value→Sem α} {m:M β} {t:Sem α}
theorem Sn.fail:Sn Z A Ψ F₀ R t (fail:M β):=fun _ _ _ _ _ _ _ q=>nn q
theorem Sn.dInt {k:Int→M β} (ha:VR Z F₀ a x) (h:∀ i t,Sn Z A Ψ F₀ R (f (.int i t)) (k i)):Sn Z A Ψ F₀ R (f x) (dInt a k):=fun F σ r σ' s E S q=>ha.oInt (G:=fun _ x=>wpAny (Md Z) A (f x) (PR Z Ψ R F s σ' r) Fls s) q fun i t q=>h i t F σ r σ' s E S q
theorem Sn.dStr {k:Str→M β} (ha:VR Z F₀ a x) (h:∀ i t,Sn Z A Ψ F₀ R (f (.str i t)) (k i)):Sn Z A Ψ F₀ R (f x) (dStr a k):=fun F σ r σ' s E S q=>ha.oStr (G:=fun _ x=>wpAny (Md Z) A (f x) (PR Z Ψ R F s σ' r) Fls s) q fun i t q=>h i t F σ r σ' s E S q
theorem Sn.ite {c:Prop} [Decidable c] (h:c→Sn Z A Ψ F₀ R t m):Sn Z A Ψ F₀ R t (if c then m else Mine.fail):=fun F σ r σ' s E S q=>if_k q fun hc q=>h hc F σ r σ' s E S q
theorem Sn.ints {o:Operator} {g:Int→Int→M β} {R:Fz→β→Value→Prop} (ha:VR Z F₀ a x) (hb:VR Z F₀ b y) (h:∀ i j t u,Sn Z A Ψ F₀ R (binaryOp o (.int i t) (.int j u)) (g i j)):Sn Z A Ψ F₀ R (binaryOp o x y) (Mine.dInt a fun i=>Mine.dInt b fun j=>g i j):=
 Sn.dInt (f:=fun x=>binaryOp o x y) ha fun i t=>Sn.dInt (f:=fun y=>binaryOp o (.int i t) y) hb fun j u=>h i j t u
theorem Sn.cints {o:CmpOp} {g:Int→Int→M β} {R:Fz→β→Value→Prop} (ha:VR Z F₀ a x) (hb:VR Z F₀ b y) (h:∀ i j t u,Sn Z A Ψ F₀ R (compareOp o (.int i t) (.int j u)) (g i j)):Sn Z A Ψ F₀ R (compareOp o x y) (Mine.dInt a fun i=>Mine.dInt b fun j=>g i j):=
 Sn.dInt (f:=fun x=>compareOp o x y) ha fun i t=>Sn.dInt (f:=fun y=>compareOp o (.int i t) y) hb fun j u=>h i j t u
theorem newL {h:Heap} {c:Addr} {xs:List V} {vs:List Value} {m:Bool} {r:V} {k tk:Nat} (S:SR Z F Ψ σ h) (hr:VRs Z F xs vs) (q:mkL m xs σ=some (r,σ')) (f:Free F Ψ c) (g:h.get? c=some (lstObj vs k)):PR Z Ψ (VR Z) F s σ' r (.ref c) { s with heap:=h,toks:=tk }:=
 if_k q fun z q=>by
  cases m with
  | true=>exact ret_k (a:=V.cell σ.length) (σ:=σ++[Ob.list xs]) (G:=fun r σ'=>PR Z Ψ (VR Z) F s σ' r (.ref c) { s with heap:=h,toks:=tk }) (show some (V.cell σ.length,σ++[Ob.list xs])=some (r,σ') from q) (.new (Ext.cell F c) (S.addC (ob:=.list xs) f ⟨_,g⟩ (.live f.fz f.pv g ⟨vs,k,rfl,Nat.le_of_lt z,hr⟩)) (.cell ((congrArg _ S.len.symm).trans (List.getElem?_concat_length (l:=F.c)))))
  | false=>exact ret_k (G:=fun r σ'=>PR Z Ψ (VR Z) F s σ' r (.ref c) { s with heap:=h,toks:=tk }) q (.new (Ext.put f.fz) (S.addF f g) (.list (Nat.le_of_lt z) (put_self ..) (hr.mono (Ext.put f.fz))))
theorem mkL_len {m:Bool} {xs:List V} {r} (q:mkL m xs σ=some r):xs.length<cap:=if_k q fun z _=>z
theorem addL_sound {m:Bool} (ha:VR Z F₀ a x) (hb:VR Z F₀ b y):Sn Z A Ψ F₀ (VR Z) (binaryOp .Add x y) (bnd (rdList a) fun xs=>bnd (rdList b) fun ys=>mkL m (xs++ys)):=fun F σ r σ' s E S q=>
 bndL S (ha.mono E) (G:=fun x=>wpAny (Md Z) A (binaryOp .Add x y) (PR Z Ψ (VR Z) F s σ' r) Fls s) q fun c xs vs k g _ l q=>bndL S (hb.mono E) (G:=fun y=>wpAny (Md Z) A (binaryOp .Add (.ref c) y) (PR Z Ψ (VR Z) F s σ' r) Fls s) q fun d ys ws k' g' _ l' q=>by
  have hn:vs.toArray.size+ws.toArray.size<cap:=Nat.lt_of_le_of_lt (Nat.le_of_eq (by rw [← (l.append l').length];exact (List.length_append ..).symm)) (mkL_len q)
  refine concat_meets ⟨_,g,rfl⟩ ⟨_,g',rfl⟩ noFill_list_add seq_list_add PySem.F.slot_list_add PySem.F.entry_list_add (PySem.F.args_list_add_2 _ _) (PySem.AutoSeq1.list___add___list_list_0 c vs.toArray k d ws.toArray k' (Nat.le_of_lt (Nat.lt_trans hn capLine))) ⟨g,g',?_⟩
  rw [List.append_toArray]
  exact newL (S.push _) (l.append l') q S.new (Heap.get?_push_size _ rfl)
theorem addV_sound {m:Bool} (ha:VR Z F₀ a x) (hb:VR Z F₀ b y):Sn Z A Ψ F₀ (VR Z) (binaryOp .Add x y) (addV m a b):=by
 have l:=addL_sound (A:=A) (Ψ:=Ψ) (m:=m) ha hb
 cases a with
 | int i=>exact ha (fun x=>Sn Z A Ψ F₀ (VR Z) (binaryOp .Add x y) _) fun t=>Sn.dInt (f:=fun y=>binaryOp .Add (.int i t) y) hb fun j u=>Sn.val fun s Q h=>add_int (h _ _ fun _=>.int _ _)
 | str i=>exact ha (fun x=>Sn Z A Ψ F₀ (VR Z) (binaryOp .Add x y) _) fun t=>Sn.dStr (f:=fun y=>binaryOp .Add (.str i t) y) hb fun j u=>Sn.ite fun hs=>Sn.val fun s Q h=>add_str (fun t' tk=>h _ _ fun _=>.str _ _) (Nat.le_of_lt (Nat.lt_trans hs capLine))
 | _=>exact l
theorem binV_sound {o:Bop} {m:Bool} (ha:VR Z F₀ a x) (hb:VR Z F₀ b y):Sn Z A Ψ F₀ (VR Z) (binaryOp (opOf o) x y) (binV o m a b):=by
 cases o with
 | add=>exact addV_sound ha hb
 | sub=>exact Sn.ints ha hb fun i j t u=>Sn.val fun s Q h=>sub_int (h _ _ fun _=>.int _ _)
 | mod=>exact Sn.ints ha hb fun i j t u=>Sn.ite fun hn=>Sn.val fun s Q h=>mod_int hn (h _ _ fun _=>.int _ _)
 | fdiv=>exact Sn.ints ha hb fun i j t u=>Sn.ite fun hn=>Sn.val fun s Q h=>floordiv_int hn.1 (h _ _ fun _=>.int _ _) (.inl (PyProof.noPylong_small hn.2))
 | pow=>exact Sn.ints ha hb fun i j t u=>Sn.ite fun hs=>Sn.val fun s Q h=>pow_int_small hs.1 (Int.le_of_lt (Int.lt_trans hs.2.1 (by decide:(1000:Int)<1000000))) (Nat.lt_of_lt_of_le hs.2.2 (by decide:1000≤2 ^ 64)) (h _ _ fun _=>.int _ _)
 | shr=>exact Sn.ints ha hb fun i j t u=>Sn.ite fun hs=>Sn.val fun s Q h=>rshift_int hs (h _ _ fun _=>.int _ _)
 | band=>exact Sn.ints ha hb fun i j t u=>Sn.val fun s Q h=>and_int (h _ _ fun _=>.int _ _)
end
end Mine
namespace Mine
open PySem PySem.Calls PyProof.Rows
section
variable {α β:Type} {Z:Sta} {A:Around} {Ψ:Pv} {F F₀:Fz} {n:Nat} {a b v:V} {x y z:Value} {σ σ':Mem} {s:Shared} {r:Bool} {neg:Bool} {h h':Heap} {c:Addr} {i:Nat}
noncomputable def InRow (A:Around) (s:Shared) (x:Value) (vs:List Value) (r:Bool):Prop:=∃ f:Value→Bool,(∀ y∈vs,PySem.SeqAt.EqAt A.in1 s y x (f y))∧vs.any f=r
theorem inRow_of {f:Value→Bool} (hf:∀ b y r,VR Z F b y→eqA b a=some r→PySem.SeqAt.EqAt A.in1 s y x (f y)∧f y=r) {xs:List V} {vs:List Value} (hl:VRs Z F xs vs) (e:inRow a xs=some r):(∀ y∈vs,PySem.SeqAt.EqAt A.in1 s y x (f y))∧vs.any f=r:=by
 induction xs generalizing vs r with
 | nil=>exact hl (fun vs=>(∀ y∈vs,PySem.SeqAt.EqAt A.in1 s y x (f y))∧vs.any f=r) ⟨(fun _ h=>nomatch h),Option.some.inj e⟩
 | cons b xs ih=>
  exact hl (fun vs=>(∀ y∈vs,PySem.SeqAt.EqAt A.in1 s y x (f y))∧vs.any f=r) fun y ys p l=>obk e fun q e1 e=>obk e fun r e2 e=>
   ⟨fun z hz=>(List.mem_cons.mp hz).elim (fun h=>h▸(hf _ _ _ p e1).1) ((ih l e2).1 z),(List.any_cons ..).trans ((congr (congrArg or (hf _ _ _ p e1).2) (ih l e2).2).trans (Option.some.inj e))⟩
theorem inRow_list (ha:VR Z F a x) {xs:List V} {vs:List Value} (hl:VRs Z F xs vs) (e:inRow a xs=some r):InRow A s x vs r:=by
 cases xs with
 | nil=>exact hl (fun vs=>InRow A s x vs r) ⟨fun _=>false,(fun _ h=>nomatch h),Option.some.inj e⟩
 | cons b xs=>
  exact hl (fun vs=>InRow A s x vs r) fun y ys p l=>obk e fun q e1 _=>eqA_k p ha e1 (G:=fun _ x' _=>x=x'→InRow A s x (y::ys) r)
   (fun _ i _ t ex=>⟨valHitsInt i,inRow_of (fun b y r p e=>eqA_k p ha e (G:=fun y x' r=>x=x'→PySem.SeqAt.EqAt A.in1 s y x (valHitsInt i y)∧valHitsInt i y=r) (fun i' j t' u e=>by cases ex.symm.trans e;exact ex▸⟨.int_int _ _ _ _,rfl⟩) (fun _ _ _ _ e=>nomatch ex.symm.trans e) rfl) (VRs.cons p l) e⟩)
   (fun _ i _ t ex=>⟨valHitsStr i,inRow_of (fun b y r p e=>eqA_k p ha e (G:=fun y x' r=>x=x'→PySem.SeqAt.EqAt A.in1 s y x (valHitsStr i y)∧valHitsStr i y=r) (fun _ _ _ _ e=>nomatch ex.symm.trans e) (fun i' j t' u e=>by cases ex.symm.trans e;exact ex▸⟨.str_str _ _ _ _,rfl⟩) rfl) (VRs.cons p l) e⟩) rfl
theorem xf {r:Bool} {G:Bool→Prop} (k:G (false ^^ r)):G r:=by rw [Bool.false_xor] at k;exact k
theorem xt {r:Bool} {G:Bool→Prop} (k:G (true ^^ r)):G (!r):=by rw [Bool.true_xor] at k;exact k
theorem inL {d:Addr} {vs:List Value} {R:Value→Shared→Prop} (h:InRow A s x vs r) (g:s.heap.IsList d vs.toArray) (k:R (.bool (neg ^^ r)) s):wpAny (Md Z) A (compareOp (if neg then .NotIn else .In) x (.ref d)) R Fls s:=
 h.elim fun f p=>match neg,k with
 | false,k=>PySem.SeqAt.in_listAt f g (fun y hy=>p.1 y (Array.mem_def.mp hy)) ((List.any_toArray ..).trans p.2▸xf (G:=fun b=>R (.bool b) s) k)
 | true,k=>PySem.SeqAt.notIn_listAt f g (fun y hy=>p.1 y (Array.mem_def.mp hy)) ((List.any_toArray ..).trans p.2▸xt (G:=fun b=>R (.bool b) s) k)
theorem inT {d:Addr} {vs:List Value} {R:Value→Shared→Prop} (h:InRow A s x vs r) (g:s.heap.IsTuple d vs.toArray) (k:R (.bool (neg ^^ r)) s):wpAny (Md Z) A (compareOp (if neg then .NotIn else .In) x (.ref d)) R Fls s:=
 h.elim fun f p=>match neg,k with
 | false,k=>PySem.SeqAt.in_tupleAt f g (fun y hy=>p.1 y (Array.mem_def.mp hy)) ((List.any_toArray ..).trans p.2▸xf (G:=fun b=>R (.bool b) s) k)
 | true,k=>PySem.SeqAt.notIn_tupleAt f g (fun y hy=>p.1 y (Array.mem_def.mp hy)) ((List.any_toArray ..).trans p.2▸xt (G:=fun b=>R (.bool b) s) k)
structure KAt {K:Type} [DecidableEq K] (Z:Sta) (F:Fz) (o:Option V) (kvs:List (K×Value)) (k:K):Prop where
 som:∀ v,o=some v→∃ x,valueAt kvs k=some x∧VR Z F v x
 non:o=none→valueAt kvs k=none
theorem KAt.isSome {K:Type} [DecidableEq K] {o:Option V} {kvs:List (K×Value)} {k:K} (h:KAt Z F o kvs k):(valueAt kvs k).isSome=o.isSome:=by
 cases o with
 | none=>rw [h.non rfl];rfl
 | some v=>exact (h.som v rfl).elim fun x p=>congrArg Option.isSome p.1
theorem KAt.getD {K:Type} [DecidableEq K] {o:Option V} {kvs:List (K×Value)} {k:K} (h:KAt Z F o kvs k) {d:V} {y:Value} (hd:VR Z F d y):VR Z F (o.getD d) ((valueAt kvs k).getD y):=by
 cases o with
 | none=>rw [h.non rfl];exact hd
 | some v=>exact (h.som v rfl).elim fun x p=>p.1▸p.2
theorem valueAt_cons {K:Type} [DecidableEq K] (j k:K) (x:Value) (r:List (K×Value)):valueAt ((j,x)::r) k=if j=k then some x else valueAt r k:=by
 unfold valueAt
 rw [List.find?_cons]
 split
 ·rename_i h;rw [if_pos (of_decide_eq_true h)];rfl
 ·rename_i h;rw [if_neg (of_decide_eq_false h)]
theorem KAt.cons {K:Type} [DecidableEq K] {o:Option V} {kvs:List (K×Value)} {j k:K} (hv:VR Z F v x) (h:KAt Z F o kvs k):KAt Z F (if j=k then some v else o) ((j,x)::kvs) k:=by
 by_cases e:j=k
 ·exact ⟨fun u eu=>⟨x,by rw [valueAt_cons,if_pos e],Option.some.inj ((if_pos e).symm.trans eu)▸hv⟩,fun eu=>nomatch (if_pos e).symm.trans eu⟩
 ·rw [if_neg e]
  exact ⟨fun u eu=>by rw [valueAt_cons,if_neg e];exact h.som u eu,fun eu=>by rw [valueAt_cons,if_neg e];exact h.non eu⟩
theorem ER.at {es:List (Str×V)} {kvs:List (Str×Value)} (h:ER Z F es kvs) (k:Str):KAt Z F (asc es k) kvs k:=by
 induction es generalizing kvs with
 | nil=>exact h (fun kvs=>KAt Z F none kvs k) ⟨nofun,fun _=>rfl⟩
 | cons e es ih=>exact h (fun kvs=>KAt Z F (asc (e::es) k) kvs k) fun y ys p r=>(ih r).cons p
theorem EI.at {es:List (Int×V)} {kvs:List (Int×Value)} (h:EI Z F es kvs) (k:Int):KAt Z F (ascI es k) kvs k:=by
 induction es generalizing kvs with
 | nil=>exact h (fun kvs=>KAt Z F none kvs k) ⟨nofun,fun _=>rfl⟩
 | cons e es ih=>exact h (fun kvs=>KAt Z F (ascI (e::es) k) kvs k) fun y ys p r=>(ih r).cons p
theorem mapOf {K:Type} [DecidableEq K] {kd:KeyKind Z.prog Z.w K} {o:Obj} {kvs:List (K×Value)} (g:h.get? c=some o) (d:o.IsDictOf kd kvs):h.MapOf kd c (valueAt kvs):=(Heap.dictOf_iff.mpr ⟨o,g,d⟩).mapOf
theorem inK {K:Type} [DecidableEq K] {kd:KeyKind Z.prog Z.w K} {o:Obj} {kvs:List (K×Value)} {k:K} {w:Option V} {R:Value→Shared→Prop} (hi:kd.is k x=true) (g:s.heap.get? c=some o) (d:o.IsDictOf kd kvs) (hs:(c == sysModules)=false) (l:KAt Z F w kvs k) (q:∀ tk,R (.bool (neg ^^ w.isSome)) { s with toks:=tk }) :
  wpAny (Md Z) A (compareOp (if neg then .NotIn else .In) x (.ref c)) R Fls s:=match neg,q with
 | false,q=>wpAny_in_of hi hs (mapOf g d) (l.isSome.symm▸xf (G:=fun b=>R (.bool b) _) (q _))
 | true,q=>wpAny_notIn_of hi hs (mapOf g d) (l.isSome.symm▸xt (G:=fun b=>R (.bool b) _) (q _))
theorem one_eq {st:Str} {u:Nat} (e:one? st=some u):st=⟨#[u]⟩:=by
 cases st with|mk cps=>
 have e:(match cps.toList with
  | [c]=>some c
  | _=>none)=some u:=e
 cases h:cps.toList with
 | nil=>rw [h] at e;exact nn e
 | cons w l=>
  rw [h] at e
  cases l with
  | nil=>cases e;exact congrArg Str.mk (Array.toList_inj.mp h)
  | cons=>exact nn e
noncomputable def cmpInO (a b:V):M Bool:=bnd (kind3 b) fun k=>match k with
 | .L=>bnd (rdList b) fun xs=>lft (inRow a xs)
 | .D=>inD b a
 | .I=>inI b a
 | .N=>fail
noncomputable def InG (Z:Sta) (A:Around) (Ψ:Pv) (F:Fz) (s:Shared) (neg:Bool) (w:Bool) (σ:Mem) (x y:Value):Prop:=wpAny (Md Z) A (compareOp (if neg then .NotIn else .In) x y) (PR Z Ψ VB F s σ (neg ^^ w)) Fls s
theorem cmpInO_sound {w:Bool} (S:SR Z F Ψ σ s.heap) (ha:VR Z F a x) (hb:VR Z F b y) (q:cmpInO a b σ=some (w,σ')):InG Z A Ψ F s neg w σ' x y:=bndK S hb q fun t _ q=>by
 cases t with
 | L=>exact bndL S hb (G:=InG Z A Ψ F s neg w σ' x) q fun d xs vs n g _ l q=>lft_k (G:=fun w σ'=>InG Z A Ψ F s neg w σ' x (.ref d)) q fun w e=>inL (inRow_list ha l e) (isList g) (.here S rfl)
 | D=>exact ha.oStr (G:=fun _ x=>InG Z A Ψ F s neg w σ' x y) q fun k t q=>bndD S hb (G:=InG Z A Ψ F s neg w σ' (.str k t)) q fun d es o kvs g dd l q=>ret_k (G:=fun w σ'=>InG Z A Ψ F s neg w σ' (.str k t) (.ref d)) q (inK (strKind_is Z.prog Z.w k t) g dd.1 dd.2.1 (l.at k) fun tk=>.same S rfl)
 | I=>exact ha.oInt (G:=fun _ x=>InG Z A Ψ F s neg w σ' x y) q fun k t q=>bndI S hb (G:=InG Z A Ψ F s neg w σ' (.int k t)) q fun d es o kvs g dd l q=>ret_k (G:=fun w σ'=>InG Z A Ψ F s neg w σ' (.int k t) (.ref d)) q (inK (intKind_is Z.prog Z.w k t) g dd.1 dd.2.1 (l.at k) fun tk=>.same S rfl)
 | N=>exact nn q
theorem inStr_sound {w:Bool} {hs:Str} {u:Tok} (S:SR Z F Ψ σ s.heap) (ha:VR Z F a x) (q:inStr hs a σ=some (w,σ')):InG Z A Ψ F s neg w σ' x (.str hs u):=
 ha.oStr (G:=fun _ x=>InG Z A Ψ F s neg w σ' x (.str hs u)) q fun k t q=>bndl q fun c e q=>ret_k (G:=fun w σ'=>InG Z A Ψ F s neg w σ' (.str k t) (.str hs u)) q (by
  rw [one_eq e,List.contains_eq_mem,← StrLaws.found_one hs c]
  cases neg with
  | false=>exact PyProof.Rows.in_str (.here S (congrArg Value.bool (Bool.false_xor _).symm))
  | true=>exact PyProof.Rows.notIn_str (.here S (congrArg Value.bool (Bool.true_xor _).symm)))
theorem inByts_k {l:List UInt8} {w:Bool} {G:V→Bool→Mem→Prop} (q:inByts l a σ=some (w,σ')) (k:∀ u,G (.byts [u]) (l.contains u) σ):G a w σ':=
 uByts_k (G:=fun a=>G a w σ') q fun c q=>bndl q fun u e q=>ret_k (G:=fun w σ'=>G (.byts c) w σ') q (match c,e with
  | [_],e=>Option.some.inj e▸k _
  | [],e=>nn e
  | _::_::_,e=>nn e)
theorem bnd_same {α:Type} {m:M α} {σ r σ'} {g:α→α} (q:m σ=some (r,σ')) (h:∀ r,g r=r):bnd m (fun r=>ret (g r)) σ=some (r,σ'):=by
 unfold bnd;rw [q];exact congrArg (fun r=>some (r,σ')) (h r)
theorem cmpIn_sound (hu:A.units+8<cLine) (hby:∀ u l,a=.byts [u]→b=.byts l→Sn Z A Ψ F₀ VB (compareOp (if neg then .NotIn else .In) x y) (ret (neg ^^ l.contains u))) (ha:VR Z F₀ a x) (hb:VR Z F₀ b y) :
  Sn Z A Ψ F₀ VB (compareOp (if neg then .NotIn else .In) x y) (bnd (cmpIn a b) fun r=>ret (neg ^^ r)):=fun F σ r σ' s E S q=>bnd_k q fun w σ₁ q1 q2=>ret_k (G:=fun r σ'=>wpAny (Md Z) A (compareOp (if neg then .NotIn else .In) x y) (PR Z Ψ VB F s σ' r) Fls s) q2 <| show InG Z A Ψ F s neg w σ₁ x y by
 have ha':=ha.mono E
 have hb':=hb.mono E
 clear q q2 ha r σ' hu
 cases b with
 | tup xs=>exact hb' (InG Z A Ψ F s neg w σ₁ x) fun d vs n _ g l=>lft_k (G:=fun w σ₁=>InG Z A Ψ F s neg w σ₁ x (.ref d)) q1 fun w e=>inT (inRow_list ha' l e) (isTuple (S.frz _ _ g)) (.here S rfl)
 | str hs=>exact hb' (InG Z A Ψ F s neg w σ₁ x) fun u=>inStr_sound S ha' q1
 | byts l=>exact inByts_k (G:=fun a' w σ₁=>a=a'→InG Z A Ψ F s neg w σ₁ x y) q1 (fun u e=>hby u l e rfl F σ _ σ s E S rfl) rfl
 | _=>exact cmpInO_sound S ha' hb' q1
theorem cints_sound {o:CmpOp} {g:Int→Int→Bool} (ha:VR Z F₀ a x) (hb:VR Z F₀ b y) (h:∀ i j t u (s:Shared) (Q:Value→Shared→Prop),Q (.bool (g i j)) s→wpAny (Md Z) A (compareOp o (.int i t) (.int j u)) Q Fls s):Sn Z A Ψ F₀ VB (compareOp o x y) (dInt a fun i=>dInt b fun j=>ret (g i j)):=
 Sn.cints ha hb fun i j t u=>Sn.val fun s Q k=>h i j t u s Q (k _ s.toks fun _=>rfl)
theorem ne_sound (ha:VR Z F₀ a x) (hb:VR Z F₀ b y):Sn Z A Ψ F₀ VB (compareOp .NotEq x y) (neV a b):=by
 cases a with
 | int i=>exact ha (fun x=>Sn Z A Ψ F₀ VB (compareOp .NotEq x y) _) fun t=>Sn.dInt (f:=fun y=>compareOp .NotEq (.int i t) y) hb fun j u=>Sn.val fun s Q h=>PyProof.Rows.ne_int (h _ s.toks fun _=>rfl)
 | str i=>exact ha (fun x=>Sn Z A Ψ F₀ VB (compareOp .NotEq x y) _) fun t=>Sn.dStr (f:=fun y=>compareOp .NotEq (.str i t) y) hb fun j u=>Sn.val fun s Q h=>PyProof.Rows.ne_str (h _ s.toks fun _=>rfl)
 | _=>exact Sn.fail
theorem VR.isNone (h:VR Z F a x) (hb:notBi a=true):plainIs x .none=true∧(noneOf a)=(x == Value.none):=by
 cases a with
 | unb=>exact h.elim
 | bi b=>cases hb
 | none=>exact h (fun x=>plainIs x .none=true∧true=(x == Value.none)) ⟨rfl,rfl⟩
 | _=>exact h (fun x=>plainIs x .none=true∧false=(x == Value.none)) (by intros;exact ⟨rfl,rfl⟩)
theorem isNone_sound {n:Bool} {o:CmpOp} (ha:VR Z F₀ a x) (h:∀ (s:Shared) (Q:Value→Shared→Prop),plainIs x .none=true→Q (.bool (if n then x == Value.none else !(x == Value.none))) s→wpAny (Md Z) A (compareOp o x .none) Q Fls s):Sn Z A Ψ F₀ VB (compareOp o x .none) (isNone n a):=by
 unfold Mine.isNone
 cases hn:notBi a with
 | false=>exact Sn.fail
 | true=>exact Sn.val fun s Q k=>h s Q (ha.isNone hn).1 (k _ s.toks fun _=>(ha.isNone hn).2▸rfl)
theorem isV_sound {n:Bool} {o:CmpOp} (ha:VR Z F₀ a x) (hb:VR Z F₀ b y) (h:∀ (s:Shared) (Q:Value→Shared→Prop),plainIs x .none=true→Q (.bool (if n then x == Value.none else !(x == Value.none))) s→wpAny (Md Z) A (compareOp o x .none) Q Fls s):Sn Z A Ψ F₀ VB (compareOp o x y) (isV n a b):=by
 cases b with
 | none=>exact hb (fun y=>Sn Z A Ψ F₀ VB (compareOp o x y) _) (isNone_sound ha h)
 | _=>exact Sn.fail
theorem cmpV_sound (hu:A.units+8<cLine) {o:Cop} (hby:∀ neg c h,a=.byts [c]→b=.byts h→Sn Z A Ψ F₀ VB (compareOp (if neg then .NotIn else .In) x y) (ret (neg ^^ h.contains c))) (ha:VR Z F₀ a x) (hb:VR Z F₀ b y) :
  Sn Z A Ψ F₀ VB (compareOp (copOf o) x y) (cmpV o a b):=by
 cases o with
 | eq=>exact cmpEq_sound hu ha hb
 | ne=>exact ne_sound ha hb
 | lt=>exact cints_sound ha hb fun _ _ _ _ _ _ k=>PyProof.Rows.lt_int k
 | le=>exact cints_sound ha hb fun _ _ _ _ _ _ k=>PyProof.Rows.le_int k
 | gt=>exact cints_sound ha hb fun _ _ _ _ _ _ k=>PyProof.Rows.gt_int k
 | ge=>exact cints_sound ha hb fun _ _ _ _ _ _ k=>PyProof.Rows.ge_int k
 | is=>exact isV_sound ha hb fun s Q h k=>wpAny_is_plain h k
 | isnt=>exact isV_sound ha hb fun s Q h k=>wpAny_isNot_plain h k
 | «in»=>exact fun F σ r σ' s E S q=>cmpIn_sound (neg:=false) hu (hby false) ha hb F σ r σ' s E S (bnd_same q fun r=>Bool.false_xor r)
 | nin=>
  have e:(fun r=>ret (true ^^ r))=fun r=>(ret (!r):M Bool):=funext fun r=>congrArg ret (Bool.true_xor r)
  have k:=cmpIn_sound (neg:=true) hu (hby true) ha hb
  rw [e] at k
  exact k
end
end Mine
namespace Mine
open PySem PySem.Calls PyProof.Rows PySem.W
section
variable {α β:Type} {Z:Sta} {A:Around} {Ψ:Pv} {F F₀:Fz} {n:Nat} {a b i v o:V} {x y z:Value} {σ σ':Mem} {s:Shared} {r:V} {h h':Heap} {c:Addr} {k:Nat}
theorem listCell {xs:List V} {G:Value→Prop} (S:SR Z F Ψ σ h) (hv:VR Z F (.cell k) x) (q:σ[k]?=some (.list xs)) (g:∀ a vs n,F.c[k]?=some a→F.o a=none→Ψ a=none→h.get? a=some (lstObj vs n)→xs.length≤cap→VRs Z F xs vs→G (.ref a)):G x:=
 hv G fun a p=>(S.cel k a _ p q).inv fun vs n p1 p2 p3 p4 p5=>g a vs n p p1 p2 p3 p4 p5
theorem sdCell {es:List (Str×V)} {G:Value→Prop} (S:SR Z F Ψ σ h) (hv:VR Z F (.cell k) x) (q:σ[k]?=some (.sd es)) (g:∀ a o kvs,F.c[k]?=some a→F.o a=none→Ψ a=none→h.get? a=some o→DD (sk Z) a o es kvs→ER Z F es kvs→G (.ref a)):G x:=
 hv G fun a p=>(S.cel k a _ p q).inv fun o kvs p1 p2 p3 p4 p5=>g a o kvs p p1 p2 p3 p4 p5
theorem idCell {es:List (Int×V)} {G:Value→Prop} (S:SR Z F Ψ σ h) (hv:VR Z F (.cell k) x) (q:σ[k]?=some (.id es)) (g:∀ a o kvs,F.c[k]?=some a→F.o a=none→Ψ a=none→h.get? a=some o→DD (ik Z) a o es kvs→EI Z F es kvs→G (.ref a)):G x:=
 hv G fun a p=>(S.cel k a _ p q).inv fun o kvs p1 p2 p3 p4 p5=>g a o kvs p p1 p2 p3 p4 p5
theorem setList {xs:List V} {vs ws:List Value} {f:Array Value→Array Value} (S:SR Z F Ψ σ h) (hi:F.c[k]?=some c) (hf:F.o c=none) (hp:Ψ c=none) (g:h.get? c=some (lstObj vs n)) (hw:f vs.toArray=ws.toArray) (hr:VRs Z F xs ws) (hz:xs.length≤cap) :
  SR Z F Ψ (σ.set k (.list xs)) (h.update c (Obj.mapSeq f)):=by
 have q:=PySem.IsL.update g f
 rw [hw] at q
 exact S.setC hi hf hp (Heap.SameBut.update ..) ⟨_,q⟩ (.live hf hp q ⟨ws,_,rfl,hz,hr⟩)
theorem setSd {es:List (Str×V)} {kvs} (S:SR Z F Ψ σ h) (hi:F.c[k]?=some c) (hf:F.o c=none) (hp:Ψ c=none) (hs:(c == sysModules)=false) (d:h'.DictOf (sk Z) c kvs) (e:Heap.SameBut c h h') (hz:es.length≤cap) (hr:ER Z F es kvs):SR Z F Ψ (σ.set k (.sd es)) h':=
 (Heap.dictOf_iff.mp d).elim fun o p=>S.setC hi hf hp e ⟨o,p.1⟩ (.live hf hp p.1 ⟨kvs,⟨p.2,hs,hz⟩,hr⟩)
theorem setId {es:List (Int×V)} {kvs} (S:SR Z F Ψ σ h) (hi:F.c[k]?=some c) (hf:F.o c=none) (hp:Ψ c=none) (hs:(c == sysModules)=false) (d:h'.DictOf (ik Z) c kvs) (e:Heap.SameBut c h h') (hz:es.length≤cap) (hr:EI Z F es kvs):SR Z F Ψ (σ.set k (.id es)) h':=
 (Heap.dictOf_iff.mp d).elim fun o p=>S.setC hi hf hp e ⟨o,p.1⟩ (.live hf hp p.1 ⟨kvs,⟨p.2,hs,hz⟩,hr⟩)
theorem stored_cons {K:Type} [DecidableEq K] (k:K) (x v:Value) (j:K) (r:List (K×Value)):j≠k→stored ((j,x)::r) k v=(j,x)::stored r k v:=by
 intro h
 unfold stored
 rw [List.any_cons,decide_eq_false h,Bool.false_or,List.map_cons,if_neg h]
 split <;> rfl
theorem stored_here {K:Type} [DecidableEq K] (k:K) (x v:Value) {r:List (K×Value)} (h:∀ p∈r,p.1≠k):stored ((k,x)::r) k v=(k,v)::r:=by
 unfold stored
 rw [List.any_cons,decide_eq_true rfl,Bool.true_or,if_pos rfl,List.map_cons,if_pos rfl]
 exact congrArg _ ((List.map_congr_left fun p hp=>if_neg (h p hp)).trans (List.map_id r))
theorem ER.keys {es:List (Str×V)} {kvs:List (Str×Value)} (h:ER Z F es kvs):kvs.map (·.1)=es.map (·.1):=by
 induction es generalizing kvs with
 | nil=>exact h (fun kvs=>kvs.map (·.1)=[]) rfl
 | cons e es ih=>exact h (fun kvs=>kvs.map (·.1)=(e::es).map (·.1)) fun y ys _ r=>congrArg (e.1::·) (ih r)
theorem EI.keys {es:List (Int×V)} {kvs:List (Int×Value)} (h:EI Z F es kvs):kvs.map (·.1)=es.map (·.1):=by
 induction es generalizing kvs with
 | nil=>exact h (fun kvs=>kvs.map (·.1)=[]) rfl
 | cons e es ih=>exact h (fun kvs=>kvs.map (·.1)=(e::es).map (·.1)) fun y ys _ r=>congrArg (e.1::·) (ih r)
theorem ER.length {es:List (Str×V)} {kvs:List (Str×Value)} (r:ER Z F es kvs):kvs.length=es.length:=(List.length_map ..).symm.trans ((congrArg List.length r.keys).trans (List.length_map ..))
theorem EI.length {es:List (Int×V)} {kvs:List (Int×Value)} (r:EI Z F es kvs):kvs.length=es.length:=(List.length_map ..).symm.trans ((congrArg List.length r.keys).trans (List.length_map ..))
theorem not_key {K:Type} {j:K} {r:List (K×Value)} (n:j∉r.map (·.1)):∀ p∈r,p.1≠j:=fun p hp e=>n (List.mem_map.mpr ⟨p,hp,e⟩)
theorem ER.stored {q:Str} (hv:VR Z F v x) {es:List (Str×V)} {kvs:List (Str×Value)} (n:(kvs.map (·.1)).Nodup) (r:ER Z F es kvs):ER Z F (sto es q v) (PySem.stored kvs q x):=by
 induction es generalizing kvs with
 | nil=>exact r (fun kvs=>ER Z F [(q,v)] (PySem.stored kvs q x)) (.cons hv .nil)
 | cons e es ih=>
  refine r (fun kvs=>(kvs.map (·.1)).Nodup→ER Z F (sto (e::es) q v) (PySem.stored kvs q x)) (fun y ys p r n=>?_) n
  by_cases hk:e.1=q
  ·show ER Z F (if e.1=q then (e.1,v)::es else (e.1,e.2)::sto es q v) _
   rw [if_pos hk]
   exact hk▸(stored_here e.1 y x (not_key (List.nodup_cons.mp n).1)).symm▸.cons hv r
  ·show ER Z F (if e.1=q then (e.1,v)::es else (e.1,e.2)::sto es q v) _
   rw [if_neg hk,stored_cons q y x e.1 ys hk]
   exact .cons p (ih (List.nodup_cons.mp n).2 r)
theorem EI.stored {q:Int} (hv:VR Z F v x) {es:List (Int×V)} {kvs:List (Int×Value)} (n:(kvs.map (·.1)).Nodup) (r:EI Z F es kvs):EI Z F (stoI es q v) (PySem.stored kvs q x):=by
 induction es generalizing kvs with
 | nil=>exact r (fun kvs=>EI Z F [(q,v)] (PySem.stored kvs q x)) (.cons hv .nil)
 | cons e es ih=>
  refine r (fun kvs=>(kvs.map (·.1)).Nodup→EI Z F (stoI (e::es) q v) (PySem.stored kvs q x)) (fun y ys p r n=>?_) n
  by_cases hk:e.1=q
  ·show EI Z F (if e.1=q then (e.1,v)::es else (e.1,e.2)::stoI es q v) _
   rw [if_pos hk]
   exact hk▸(stored_here e.1 y x (not_key (List.nodup_cons.mp n).1)).symm▸.cons hv r
  ·show EI Z F (if e.1=q then (e.1,v)::es else (e.1,e.2)::stoI es q v) _
   rw [if_neg hk,stored_cons q y x e.1 ys hk]
   exact .cons p (ih (List.nodup_cons.mp n).2 r)
theorem sto_len (k:Str) (v:V) (es:List (Str×V)):(sto es k v).length≤es.length+1:=by
 induction es with
 | nil=>exact Nat.le_refl _
 | cons e es ih=>
  show (if e.1=k then (e.1,v)::es else (e.1,e.2)::sto es k v).length≤_
  split
  ·exact Nat.le_succ _
  ·exact Nat.succ_le_succ ih
theorem stoI_len (k:Int) (v:V) (es:List (Int×V)):(stoI es k v).length≤es.length+1:=by
 induction es with
 | nil=>exact Nat.le_refl _
 | cons e es ih=>
  show (if e.1=k then (e.1,v)::es else (e.1,e.2)::stoI es k v).length≤_
  split
  ·exact Nat.le_succ _
  ·exact Nat.succ_le_succ ih
theorem VRs.set (hv:VR Z F v x) {xs:List V} {vs:List Value} {i:Nat} (h:VRs Z F xs vs):VRs Z F (xs.set i v) (vs.set i x):=by
 induction xs generalizing vs i with
 | nil=>exact h (fun vs=>VRs Z F [] (vs.set i x)) .nil
 | cons u xs ih=>
  refine h (fun vs=>VRs Z F ((u::xs).set i v) (vs.set i x)) fun y ys p r=>?_
  cases i with
  | zero=>exact .cons hv r
  | succ i=>exact .cons p (ih r)
theorem dictNodup {K:Type} [DecidableEq K] {prog:Program} {w:World} {knd:KeyKind prog w K} {o:Obj} {kvs:List (K×Value)} (d:o.IsDictOf knd kvs):(kvs.map (·.1)).Nodup:=d.elim fun _ d=>d.elim fun _ d=>d.2.2.2.2
theorem item_k {xs:List V} {vs:List Value} {k:Int} {G:V→Mem→Prop} (l:VRs Z F xs vs) (hz:xs.length≤cap) (q:idx xs k σ=some (r,σ')) (g:∀ r w,0≤k→k<2 ^ 63→vs.toArray[k.toNat]?=some w→k.toNat<vs.length→VR Z F r w→G r σ):G r σ':=
 if_k q fun h0 q=>lft_k (G:=G) q fun v e=>(l.get e).elim fun w p=>by
  have hk:=(List.getElem?_eq_some_iff.mp e).1
  have h2:k<2 ^ 63:=Int.lt_of_le_of_lt (Int.self_le_toNat k) (cap63 (Nat.le_of_lt (Nat.lt_of_lt_of_le hk hz)))
  exact g v w h0 h2 ((List.getElem?_toArray ..).trans p.1) (l.length▸hk) p.2
noncomputable def ItG (Z:Sta) (A:Around) (Ψ:Pv) (F:Fz) (s:Shared) (r:V) (σ:Mem) (x y:Value):Prop:=wpAny (Md Z) A (getItem x y) (PR Z Ψ (VR Z) F s σ r) Fls s
theorem itemO_sound {k:Int} {t:Tok} (S:SR Z F Ψ σ s.heap) (ha:VR Z F a x) (q:bnd (kind3 a) (fun q=>match q with
  | .L=>bnd (rdList a) fun xs=>idx xs k
  | .I=>bnd (rdId a) fun es=>lft (ascI es k)
  | _=>fail) σ=some (r,σ')):ItG Z A Ψ F s r σ' x (.int k t):=bndK S ha q fun u _ q=>by
 cases u with
 | L=>exact bndL S ha (G:=fun x=>ItG Z A Ψ F s r σ' x (.int k t)) q fun c xs vs n g z l q=>item_k (G:=fun r σ'=>ItG Z A Ψ F s r σ' (.ref c) (.int k t)) l z q fun r w h0 h1 h2 h3 hv=>wpAny_getItem_list (isList g) h0 h1 h2 (.here S hv)
 | I=>exact bndI S ha (G:=fun x=>ItG Z A Ψ F s r σ' x (.int k t)) q fun c es o kvs g d l q=>lft_k (G:=fun r σ'=>ItG Z A Ψ F s r σ' (.ref c) (.int k t)) q fun v e=>((l.at k).som v e).elim fun w p=>wpAny_getItem_of (intKind_is Z.prog Z.w k t) (mapOf g d.1) p.1 (.same S p.2)
 | _=>exact nn q
theorem itemI_sound {k:Int} {t:Tok} (S:SR Z F Ψ σ s.heap) (ha:VR Z F a x) (q:itemI a k σ=some (r,σ')):ItG Z A Ψ F s r σ' x (.int k t):=by
 cases a with
 | tup xs=>exact ha (fun x=>ItG Z A Ψ F s r σ' x (.int k t)) fun c vs n z g l=>item_k (G:=fun r σ'=>ItG Z A Ψ F s r σ' (.ref c) (.int k t)) l z q fun r w h0 h1 h2 h3 hv=>
   PyProof.Rows.getItem_tuple (j:=k.toNat) ⟨_,S.frz _ _ g,rfl,_,rfl⟩ (Int.le_trans (by decide) h0) h1 (seqIndex_of h0 (by rw [← Int.toNat_of_nonneg h0];exact Int.ofNat_lt.mpr h3)) h2 (.here S hv)
 | _=>exact itemO_sound S ha q
theorem getItemV_sound (ha:VR Z F₀ a x) (hi:VR Z F₀ i y):Sn Z A Ψ F₀ (VR Z) (getItem x y) (getItemV a i):=fun F σ r σ' s E S q=>by
 have ha:=ha.mono E
 have hi:=hi.mono E
 cases i with
 | int k=>exact hi (ItG Z A Ψ F s r σ' x) fun t=>itemI_sound S ha q
 | str k=>exact hi (ItG Z A Ψ F s r σ' x) fun t=>bndD S ha (G:=fun x=>ItG Z A Ψ F s r σ' x (.str k t)) q fun c es o kvs g d l q=>lft_k (G:=fun r σ'=>ItG Z A Ψ F s r σ' (.ref c) (.str k t)) q fun v e=>((l.at k).som v e).elim fun w p=>wpAny_getItem_of (strKind_is Z.prog Z.w k t) (mapOf g d.1) p.1 (.same S p.2)
 | _=>exact nn q
noncomputable def StG (Z:Sta) (A:Around) (Ψ:Pv) (F:Fz) (s:Shared) (σ:Mem) (x y z:Value):Prop:=wpAny (Md Z) A (setItem x y z) (PR Z Ψ (UR (α:=Unit) (β:=Unit)) F s σ ()) Fls s
theorem setI_sound {j:Int} {t:Tok} {u:Unit} (S:SR Z F Ψ σ s.heap) (ha:VR Z F (.cell k) x) (hv:VR Z F v z) (q:setI k j v σ=some (u,σ')):StG Z A Ψ F s σ' x (.int j t) z:=by
 have q:(match σ[k]? with
  | some (.list xs)=>if 0≤j∧j<xs.length then some ((),σ.set k (.list (xs.set j.toNat v))) else Option.none
  | some (.id es)=>if es.length<cap then some ((),σ.set k (.id (stoI es j v))) else Option.none
  | _=>Option.none)=some (u,σ'):=q
 cases e:σ[k]? with
 | none=>rw [e] at q;exact nn q
 | some w=>
  rw [e] at q
  cases w with
  | list xs=>
   exact listCell S ha (G:=fun x=>StG Z A Ψ F s σ' x (.int j t) z) e fun c vs m hc p1 p2 g hz l=>ifo_k q fun hk q=>ret_k (G:=fun _ σ'=>StG Z A Ψ F s σ' (.ref c) (.int j t) z) q
    (W.ki_setAt g hk.1 (Int.lt_of_lt_of_le hk.2 (Int.le_of_lt (cap63 hz))) (by rw [List.size_toArray,l.length];exact hk.2) (.same (setList (ws:=vs.set j.toNat z) S hc p1 p2 g (by simp) (l.set hv) ((List.length_set ..).symm▸hz)) trivial))
  | id es=>
   exact idCell S ha (G:=fun x=>StG Z A Ψ F s σ' x (.int j t) z) e fun c o kvs hc p1 p2 g d l=>ifo_k q fun hk q=>ret_k (G:=fun _ σ'=>StG Z A Ψ F s σ' (.ref c) (.int j t) z) q
    (wpAny_setItem_pairs (intKind_is Z.prog Z.w j t) (Heap.dictOf_iff.mpr ⟨o,g,d.1⟩) (fun h' d' e'=>.same (setId S hc p1 p2 d.2.1 d' e' (Nat.le_trans (stoI_len ..) hk) (l.stored hv (dictNodup d.1))) trivial) (l.length▸Nat.le_trans d.2.2 (Nat.le_of_lt capLine)))
  | _=>exact nn q
theorem setS_sound {j:Str} {t:Tok} {u:Unit} (S:SR Z F Ψ σ s.heap) (ha:VR Z F (.cell k) x) (hv:VR Z F v z) (q:atD σ[k]? (fun es=>if es.length<cap then some ((),σ.set k (.sd (sto es j v))) else Option.none)=some (u,σ')):StG Z A Ψ F s σ' x (.str j t) z:=
 atD_k (G:=fun w=>σ[k]?=w→StG Z A Ψ F s σ' x (.str j t) z) q (fun es q e=>sdCell S ha (G:=fun x=>StG Z A Ψ F s σ' x (.str j t) z) e fun c o kvs hc p1 p2 g d l=>ifo_k q fun hk q=>ret_k (G:=fun _ σ'=>StG Z A Ψ F s σ' (.ref c) (.str j t) z) q
  (wpAny_setItem_pairs (strKind_is Z.prog Z.w j t) (Heap.dictOf_iff.mpr ⟨o,g,d.1⟩) (fun h' d' e'=>.same (setSd S hc p1 p2 d.2.1 d' e' (Nat.le_trans (sto_len ..) hk) (l.stored hv (dictNodup d.1))) trivial) (l.length▸Nat.le_trans d.2.2 (Nat.le_of_lt capLine)))) rfl
theorem setItemV_sound (ha:VR Z F₀ a x) (hi:VR Z F₀ i y) (hv:VR Z F₀ v z):Sn Z A Ψ F₀ (UR (α:=Unit) (β:=Unit)) (setItem x y z) (setItemV a i v):=fun F σ r σ' s E S q=>by
 have hi:=hi.mono E
 refine uCell_k (G:=fun a=>VR Z F a x→StG Z A Ψ F s σ' x y z) q (fun k q ha=>?_) (ha.mono E)
 cases i with
 | int j=>exact hi (fun y=>StG Z A Ψ F s σ' x y z) fun t=>setI_sound S ha (hv.mono E) q
 | str j=>exact hi (fun y=>StG Z A Ψ F s σ' x y z) fun t=>setS_sound S ha (hv.mono E) q
 | _=>exact nn q
noncomputable def ClG (Z:Sta) (A:Around) (Ψ:Pv) (F:Fz) (s:Shared) (f:Value) (r:V) (σ:Mem) (xs:List Value):Prop:=wpAny (Md Z) A (call f xs) (PR Z Ψ (VR Z) F s σ r) Fls s
theorem lenO_sound (S:SR Z F Ψ σ s.heap) (ha:VR Z F a x) (q:bnd (kind3 a) (fun k=>match k with
  | .L=>bnd (rdList a) fun xs=>ret (V.int xs.length)
  | _=>fail) σ=some (r,σ')):ClG Z A Ψ F s (.builtin "len") r σ' [x]:=bndK S ha q fun u _ q=>by
 cases u with
 | L=>
  exact bndL S ha (G:=fun x=>ClG Z A Ψ F s (.builtin "len") r σ' [x]) q fun c xs vs n g z l q=>ret_k (G:=fun r σ'=>ClG Z A Ψ F s (.builtin "len") r σ' [.ref c]) q
   (call_len_list (isList g) (by rw [List.size_toArray,l.length];exact cap63 z) (.same S (by rw [List.size_toArray,l.length];exact .int _ _)))
 | _=>exact nn q
theorem lenV_sound (ha:VR Z F₀ a x):Sn Z A Ψ F₀ (VR Z) (call (.builtin "len") [x]) (lenV a):=fun F σ r σ' s E S q=>by
 have ha:=ha.mono E
 cases a with
 | str st=>exact ha (fun x=>ClG Z A Ψ F s (.builtin "len") r σ' [x]) fun t=>if_k q fun hz q=>ret_k (G:=fun r σ'=>ClG Z A Ψ F s (.builtin "len") r σ' [.str st t]) q (PyProof.Rows.len_str (Int.not_le.mpr (cap63 (Nat.le_of_lt hz))) (.same S (.int _ _)))
 | byts b=>exact ha (fun x=>ClG Z A Ψ F s (.builtin "len") r σ' [x]) fun t=>if_k q fun hz q=>ret_k (G:=fun r σ'=>ClG Z A Ψ F s (.builtin "len") r σ' [.bytes b.toArray t]) q (W.len_bytes (Nat.le_of_lt (Nat.lt_of_lt_of_le hz (by decide:cap≤1099511627776))) (.same S (.int _ _)))
 | _=>exact lenO_sound S ha q
end
structure ClsOK (K:Frag) (ca:Nat→Addr) (c:Nat):Prop where
 get:plainGet K (ca c) "__class__"=true
 dct:hasDictIn K (ca c)=true
 cls:findIn K (.ref (ca c)) "__class__"=some (some (.builtin "object.__class__"))
 obj:mroIn K (ca c) (.type "object")=some true
 fld:∀ f∈clsFields c,∃ attr,findIn K (.ref (ca c)) f=some attr∧noGet K attr=true
 notT:kin_notT K (ca c) "int"=true∧kin_notT K (ca c) "list"=true∧kin_notT K (ca c) "dict"=true
 notC:∀ k,k<3→k≠c→kin_not K (ca c) (ca k)=true
 yes:c<3→isIn K (.ref (ca c)) (ca c)=true
structure KOK (K:Frag) (ca:Nat→Addr):Prop where
 spec:specialIn K (.builtin "object.__class__") "__get__"=some (some (.builtin "getset_descriptor.__get__"))
 tak:takesIn K (.builtin "object.__class__")=some true
 not:∀ k,k<3→isNotIn K "NoneType" (ca k)=true∧isNotIn K "bool" (ca k)=true∧isNotIn K "int" (ca k)=true∧isNotIn K "str" (ca k)=true∧isNotIn K "list" (ca k)=true∧isNotIn K "dict" (ca k)=true
 cls:∀ c,c<7→c≠3→ClsOK K ca c
section
variable {Z:Sta} {A:Around} {Ψ:Pv} {F F₀:Fz} {n:Nat} {v c o:V} {x y:Value} {σ σ':Mem} {s:Shared} {r:Bool} {h:Heap} {k:Nat} {a dx:Addr}
theorem SR.keep (S:SR Z F Ψ σ h):∀ a o,Z.h₀.get? a=some o→h.get? a=some o:=fun a o e=>S.frz a o (S.sta a o e)
theorem instAt {des m} (S:SR Z F Ψ σ h) (g:F.o a=some (PySem.W.instObj (Z.ca k) dx)) (d:F.o dx=some (PySem.W.dictOf des m)):InstAt h a (PySem.W.instObj (Z.ca k) dx) (Z.ca k) (some (PySem.W.dictOf des m)):=
 ⟨S.frz _ _ g,rfl,rfl,S.frz _ _ d⟩
noncomputable def VtAt (Z:Sta) (h:Heap):VT→Value→Prop
 | .none,x=>∀ G:Value→Prop,G .none→G x
 | .bool,x=>∀ G:Value→Prop,(∀ b,G (.bool b))→G x
 | .int,x=>∀ G:Value→Prop,(∀ i t,G (.int i t))→G x
 | .str,x=>∀ G:Value→Prop,(∀ i t,G (.str i t))→G x
 | .list,x=>∀ G:Value→Prop,(∀ a o,h.get? a=some o→o.cls=.type "list"→G (.ref a))→G x
 | .dict,x=>∀ G:Value→Prop,(∀ a o,h.get? a=some o→o.cls=.type "dict"→G (.ref a))→G x
 | .inst d,x=>∀ G:Value→Prop,(∀ a dx des n,d<7∧d≠3→InstAt h a (PySem.W.instObj (Z.ca d) dx) (Z.ca d) (some (PySem.W.dictOf des n))→G (.ref a))→G x
theorem VtAt.li {o:Obj} (g:h.get? a=some o) (e:o.cls=.type "list"):VtAt Z h .list (.ref a):=fun _ k=>k a o g e
theorem VtAt.di {o:Obj} (g:h.get? a=some o) (e:o.cls=.type "dict"):VtAt Z h .dict (.ref a):=fun _ k=>k a o g e
theorem vt_k {t:VT} {G:VT→Mem→Prop} (S:SR Z F Ψ σ h) (hv:VR Z F v x) (q:vt v σ=some (t,σ')) (g:∀ t,VtAt Z h t x→G t σ):G t σ':=by
 cases v with
 | none=>exact ret_k q (g .none hv)
 | bool b=>exact ret_k q (g .bool (hv (VtAt Z h .bool) fun _ k=>k b))
 | int b=>exact ret_k q (g .int (hv (VtAt Z h .int) fun u _ k=>k b u))
 | str b=>exact ret_k q (g .str (hv (VtAt Z h .str) fun u _ k=>k b u))
 | list b=>exact ret_k q (g .list (hv (VtAt Z h .list) fun a vs n z e l=>.li (S.frz _ _ e) rfl))
 | dict b=>exact ret_k q (g .dict (hv (VtAt Z h .dict) fun a o kvs z n e d l=>(kd_dict (S.frz _ _ e) d).elim fun a' p=>p.elim fun o' p=>p.1▸.di p.2.1 p.2.2.1))
 | inst d xs=>exact ret_k q (g (.inst d) (hv (VtAt Z h (.inst d)) fun a dx vs des n z e d i l _ k=>k a dx des n z (instAt S e d)))
 | cell i=>
  exact bndK S hv q fun u p q=>match u,p,q with
   | .L,p,q=>p.elim fun a p=>p.elim fun o p=>ret_k q (g .list (p.1▸.li p.2.1 p.2.2.1))
   | .D,p,q=>p.elim fun a p=>p.elim fun o p=>ret_k q (g .dict (p.1▸.di p.2.1 p.2.2.1))
   | .I,p,q=>p.elim fun a p=>p.elim fun o p=>ret_k q (g .dict (p.1▸.di p.2.1 p.2.2.1))
   | .N,p,q=>nn q
 | _=>exact nn q
noncomputable def IsG (Z:Sta) (A:Around) (Ψ:Pv) (F:Fz) (s:Shared) (σ:Mem) (r:Bool) (σ':Mem) (y x:Value):Prop:=wpAny (Md Z) A (call (.builtin "isinstance") [x,y]) (PR Z Ψ VB F s σ' r) Fls s
theorem isCls_sound (X₀:Z.K.In Z.h₀) (O:KOK Z.K Z.ca) {t:VT} (S:SR Z F Ψ σ s.heap) (hv:VtAt Z s.heap t x) (hk:k<3):IsG Z A Ψ F s σ (vtCls k t) σ (.ref (Z.ca k)) x:=by
 have X:Z.K.In s.heap:=fun a o e=>S.keep a o (X₀ a o e)
 have N:=O.not k hk
 cases t with
 | none=>exact hv (IsG Z A Ψ F s σ _ σ _) (isn_call (P:=fun _=>True) X (fun M=>Looks.of_pure rfl) N.1 (fun h=>nomatch h) trivial none_cls (.same S rfl))
 | bool=>exact hv (IsG Z A Ψ F s σ _ σ _) fun _=>isn_call (P:=fun _=>True) X (fun M=>Looks.of_pure rfl) N.2.1 (fun h=>nomatch h) trivial bool_cls (.same S rfl)
 | int=>exact hv (IsG Z A Ψ F s σ _ σ _) fun _ _=>isn_call (P:=fun _=>True) X (fun M=>Looks.of_pure rfl) N.2.2.1 (fun h=>nomatch h) trivial int_cls (.same S rfl)
 | str=>exact hv (IsG Z A Ψ F s σ _ σ _) fun _ _=>isn_call (P:=fun _=>True) X (fun M=>Looks.of_pure rfl) N.2.2.2.1 (fun h=>nomatch h) trivial str_cls (.same S rfl)
 | list=>exact hv (IsG Z A Ψ F s σ _ σ _) fun a o g e=>isn_call (P:=fun h=>∃ o,h.get? a=some o∧o.cls=.type "list") X (fun M=>e▸(Looks.ld g).andThen .now) N.2.2.2.2.1 (fun h=>nomatch h) ⟨_,g,e⟩ list_cls (.same S rfl)
 | dict=>exact hv (IsG Z A Ψ F s σ _ σ _) fun a o g e=>isn_call (P:=fun h=>∃ o,h.get? a=some o∧o.cls=.type "dict") X (fun M=>e▸(Looks.ld g).andThen .now) N.2.2.2.2.2 (fun h=>nomatch h) ⟨_,g,e⟩ dict_cls (.same S rfl)
 | inst d=>
  refine hv (IsG Z A Ψ F s σ (d == k) σ _) fun a dx des n z I=>?_
  have C:=O.cls d z.1 z.2
  by_cases e:d=k
  ·exact e▸isi_call X (fun M=>I.type) (C.yes (e▸hk)) (fun h=>nomatch h) (.here S (congrArg Value.bool (beq_self_eq_true d).symm))
  ·exact kin_callC X I (C.notC k hk (Ne.symm e)) C.get C.dct C.cls O.spec O.tak C.obj (.same S (congrArg Value.bool (beq_false_of_ne e).symm))
theorem is_ret {b:Bool} (q:ret b σ=some (r,σ')) (k:IsG Z A Ψ F s σ b σ y x):IsG Z A Ψ F s σ r σ' y x:=ret_k (G:=fun r σ'=>IsG Z A Ψ F s σ r σ' y x) q k
theorem isBi_sound (X₀:Z.K.In Z.h₀) (O:KOK Z.K Z.ca) {t:VT} {b:BI} (S:SR Z F Ψ σ s.heap) (hv:VtAt Z s.heap t x) (q:vtBi b t σ=some (r,σ')):IsG Z A Ψ F s σ r σ' (biVal b) x:=by
 cases b with
 | int=>
  cases t with
  | none=>exact hv (IsG Z A Ψ F s σ r σ' _) (is_ret q (IsiPair.NoneType_int (.same S rfl)))
  | bool=>exact hv (IsG Z A Ψ F s σ r σ' _) fun _=>(is_ret q (IsiPair.bool_int (.same S rfl)))
  | int=>exact hv (IsG Z A Ψ F s σ r σ' _) fun _ _=>(is_ret q (IsiPair.int_int (.same S rfl)))
  | str=>exact hv (IsG Z A Ψ F s σ r σ' _) fun _ _=>(is_ret q (IsiPair.str_int (.same S rfl)))
  | list=>exact hv (IsG Z A Ψ F s σ r σ' _) fun a o g e=>(is_ret q (IsiPair.list_int g e (.same S rfl)))
  | dict=>exact nn q
  | inst d=>exact hv (IsG Z A Ψ F s σ r σ' _) fun a dx des n z I=>(is_ret q (have C:=O.cls d z.1 z.2;kin_callT (fun a o e=>S.keep a o (X₀ a o e)) I C.notT.1 PySem.F.isi_meta_int C.get C.dct C.cls O.spec O.tak C.obj (.same S rfl)))
 | bool=>
  cases t with
  | bool=>exact hv (IsG Z A Ψ F s σ r σ' _) fun _=>(is_ret q (IsiPair.bool_bool (.same S rfl)))
  | int=>exact hv (IsG Z A Ψ F s σ r σ' _) fun _ _=>(is_ret q (IsiPair.int_bool (.same S rfl)))
  | _=>exact nn q
 | list=>
  cases t with
  | none=>exact hv (IsG Z A Ψ F s σ r σ' _) (is_ret q (IsiPair.NoneType_list (.same S rfl)))
  | bool=>exact nn q
  | int=>exact hv (IsG Z A Ψ F s σ r σ' _) fun _ _=>(is_ret q (IsiPair.int_list (.same S rfl)))
  | str=>exact hv (IsG Z A Ψ F s σ r σ' _) fun _ _=>(is_ret q (IsiPair.str_list (.same S rfl)))
  | list=>exact hv (IsG Z A Ψ F s σ r σ' _) fun a o g e=>(is_ret q (IsiPair.list_list g e (.same S rfl)))
  | dict=>exact hv (IsG Z A Ψ F s σ r σ' _) fun a o g e=>(is_ret q (IsiPair.dict_list g e (.same S rfl)))
  | inst d=>exact hv (IsG Z A Ψ F s σ r σ' _) fun a dx des n z I=>(is_ret q (have C:=O.cls d z.1 z.2;kin_callT (fun a o e=>S.keep a o (X₀ a o e)) I C.notT.2.1 PySem.F.isi_meta_list C.get C.dct C.cls O.spec O.tak C.obj (.same S rfl)))
 | dict=>
  cases t with
  | none=>exact hv (IsG Z A Ψ F s σ r σ' _) (is_ret q (IsiPair.NoneType_dict (.same S rfl)))
  | bool=>exact nn q
  | int=>exact hv (IsG Z A Ψ F s σ r σ' _) fun _ _=>(is_ret q (IsiPair.int_dict (.same S rfl)))
  | str=>exact hv (IsG Z A Ψ F s σ r σ' _) fun _ _=>(is_ret q (IsiPair.str_dict (.same S rfl)))
  | list=>exact hv (IsG Z A Ψ F s σ r σ' _) fun a o g e=>(is_ret q (IsiPair.list_dict g e (.same S rfl)))
  | dict=>exact hv (IsG Z A Ψ F s σ r σ' _) fun a o g e=>(is_ret q (IsiPair.dict_dict g e (.same S rfl)))
  | inst d=>exact hv (IsG Z A Ψ F s σ r σ' _) fun a dx des n z I=>(is_ret q (have C:=O.cls d z.1 z.2;kin_callT (fun a o e=>S.keep a o (X₀ a o e)) I C.notT.2.2 PySem.F.isi_meta_dict C.get C.dct C.cls O.spec O.tak C.obj (.same S rfl)))
 | _=>exact nn q
theorem isKind_sound (X₀:Z.K.In Z.h₀) (O:KOK Z.K Z.ca) (hv:VR Z F₀ v x) (hc:VR Z F₀ c y):Sn Z A Ψ F₀ VB (call (.builtin "isinstance") [x,y]) (isKind v c):=fun F σ r σ' s E S q=>bnd_k q fun t σ₁ q1 q2=>
 vt_k (G:=fun t σ₁=>(match c with
  | .cls k=>if k<3 then ret (vtCls k t) else fail
  | .bi b=>vtBi b t
  | _=>fail) σ₁=some (r,σ')→IsG Z A Ψ F s σ r σ' y x) S (hv.mono E) q1 (fun t ht q=>by
   have hc:=hc.mono E
   clear q2 q1 hv
   cases c with
   | cls k=>exact hc (fun y=>IsG Z A Ψ F s σ r σ' y x) (if_k q fun hk q=>is_ret q (isCls_sound X₀ O S ht hk))
   | bi b=>exact hc (fun y=>IsG Z A Ψ F s σ r σ' y x) (isBi_sound X₀ O S ht q)
   | _=>exact nn q) q2
theorem biVal_handed (b:BI):handedIn (biVal b)=true:=by cases b <;> rfl
theorem VR.handed (h:VR Z F v x):handedIn x=true:=by
 cases v with
 | unb=>exact h.elim
 | bi b=>exact h (fun x=>handedIn x=true) (biVal_handed b)
 | _=>exact h (fun x=>handedIn x=true) (by intros;rfl)
theorem getL_cons {f g:Str} {hs:Int} {t:Tok} {v:Value} {es:List DictEntry}:getL f (⟨hs,.str g t,v⟩::es)=if g=f then some (some v) else getL f es:=by
 unfold getL
 rw [List.find?_cons]
 by_cases e:g=f
 ·rw [if_pos e,show (Value.str g t).isStr f=true by rw [e];exact beq_self_eq_true f]
 ·rw [if_neg e,show (Value.str g t).isStr f=false from beq_false_of_ne e]
  rfl
theorem fieldAt_get {fs:List Str} {xs:List V} {vs:List Value} {es:List DictEntry} {f:Str} {v:V} (d:InstD fs vs es) (l:VRs Z F xs vs) (e:fieldAt fs xs f=some v):∃ x,getL f es=some (some x)∧VR Z F v x∧f∈fs:=by
 induction d generalizing xs with
 | nil=>cases xs <;> exact nn e
 | cons d ih=>
  cases xs with
  | nil=>exact nn e
  | cons u xs=>
   rename_i g fs v' vs t hs es
   refine l (fun ws=>ws=v'::vs→∃ x,getL f (⟨hs,.str g t,v'⟩::es)=some (some x)∧VR Z F v x∧f∈g::fs) (fun y ys p r q=>?_) rfl
   have e:(if g=f then some u else fieldAt fs xs f)=some v:=e
   rw [getL_cons]
   by_cases hg:g=f
   ·rw [if_pos hg] at e ⊢
    exact ⟨v',rfl,Option.some.inj e▸(List.cons.inj q).1▸p,hg▸.head _⟩
   ·rw [if_neg hg] at e ⊢
    exact (ih ((List.cons.inj q).2▸r) e).elim fun x p=>⟨x,p.1,p.2.1,.tail _ p.2.2⟩
theorem attrV_sound (X₀:Z.K.In Z.h₀) (O:KOK Z.K Z.ca) {f:Str} {expr:Bool} (ho:VR Z F₀ o x):Sn Z A Ψ F₀ (VR Z) (getAttr x f expr) (attrV o f):=fun F σ r σ' s E S q=>
 uInst_k (G:=fun o=>VR Z F o x→wpAny (Md Z) A (getAttr x f expr) (PR Z Ψ (VR Z) F s σ' r) Fls s) q (fun d xs q h=>h (fun x=>wpAny (Md Z) A (getAttr x f expr) (PR Z Ψ (VR Z) F s σ' r) Fls s) fun a dx vs des m z g gd i l=>
  lft_k (G:=fun r σ'=>wpAny (Md Z) A (getAttr (.ref a) f expr) (PR Z Ψ (VR Z) F s σ' r) Fls s) q fun v e=>(fieldAt_get i l e).elim fun u p=>have C:=O.cls d z.1 z.2;(C.fld f p.2.2).elim fun attr w=>
   get_value (fun a o e=>S.keep a o (X₀ a o e)) (instAt S g gd) (plainGet_of C.get).1 (findObj_own C.dct w.1 w.2 p.1) p.2.1.handed (.same S p.2.1)) (ho.mono E)
end
end Mine
namespace Mine
open PySem PySem.Calls PyProof.Rows PySem.W PyProof.Rows.LSm
section
variable {Z:Sta} {A:Around} {Ψ:Pv} {F F₀:Fz} {n:Nat} {a:V} {x:Value} {σ σ':Mem} {s:Shared} {r:V}
theorem ints_of {xs:List V} {vs:List Value} {t:Int} (h:VRs Z F xs vs) (e:sumV xs=some t):∃ ns,IntsAre vs ns∧ns.sum=t:=by
 induction xs generalizing vs t with
 | nil=>exact h (fun vs=>∃ ns,IntsAre vs ns∧ns.sum=t) ⟨[],.nil,Option.some.inj e⟩
 | cons u xs ih=>
  exact h (fun vs=>∃ ns,IntsAre vs ns∧ns.sum=t) fun y ys p l=>p.oInt (G:=fun _ y=>∃ ns,IntsAre (y::ys) ns∧ns.sum=t) e fun i u e=>obk e fun b e1 e=>(ih l e1).elim fun ns q=>⟨i::ns,.cons _ _ q.1,(List.sum_cons ..).trans ((congrArg (i+·) q.2).trans (Option.some.inj e))⟩
theorem octs_of {xs:List V} {vs:List Value} {t:List UInt8} (h:VRs Z F xs vs) (e:octs xs=some t):∃ ns,IntsAre vs ns∧(∀ n∈ns,0≤n∧n<256)∧byteArr ns=t.toArray:=by
 induction xs generalizing vs t with
 | nil=>exact h (fun vs=>∃ ns,IntsAre vs ns∧(∀ n∈ns,0≤n∧n<256)∧byteArr ns=t.toArray) ⟨[],.nil,(fun _ h=>nomatch h),congrArg List.toArray (Option.some.inj e)⟩
 | cons u xs ih=>
  refine h (fun vs=>∃ ns,IntsAre vs ns∧(∀ n∈ns,0≤n∧n<256)∧byteArr ns=t.toArray) fun y ys p l=>p.oInt (G:=fun _ y=>∃ ns,IntsAre (y::ys) ns∧(∀ n∈ns,0≤n∧n<256)∧byteArr ns=t.toArray) e fun i u e=>ifo_k e fun hb e=>obk e fun b e1 e=>(ih l e1).elim fun ns q=>
   ⟨i::ns,.cons _ _ q.1,fun n hn=>(List.mem_cons.mp hn).elim (fun e=>e▸hb) (q.2.1 n),?_⟩
  have:=congrArg Array.toList q.2.2
  rw [← Option.some.inj e]
  unfold byteArr at this ⊢
  simp at this
  simp [this]
theorem bools_of {xs:List V} {vs:List Value} {t:Bool} (h:VRs Z F xs vs) (e:allV xs=some t):∃ bs,BoolsAre vs bs∧bs.all id=t:=by
 induction xs generalizing vs t with
 | nil=>exact h (fun vs=>∃ bs,BoolsAre vs bs∧bs.all id=t) ⟨[],.nil,Option.some.inj e⟩
 | cons u xs ih=>
  exact h (fun vs=>∃ bs,BoolsAre vs bs∧bs.all id=t) fun y ys p l=>p.oBool (G:=fun _ y=>∃ bs,BoolsAre (y::ys) bs∧bs.all id=t) e fun i e=>obk e fun b e1 e=>(ih l e1).elim fun bs q=>⟨i::bs,.cons _ q.1,(List.all_cons ..).trans ((congrArg (i&&·) q.2).trans (Option.some.inj e))⟩
noncomputable def CG (Z:Sta) (A:Around) (Ψ:Pv) (F:Fz) (s:Shared) (f:Value) (r:V) (σ:Mem) (x:Value):Prop:=wpAny (Md Z) A (call f [x]) (PR Z Ψ (VR Z) F s σ r) Fls s
theorem cg_ret {b:V} {f:Value} (q:ret b σ=some (r,σ')) (k:CG Z A Ψ F s f b σ x):CG Z A Ψ F s f r σ' x:=ret_k (G:=fun r σ'=>CG Z A Ψ F s f r σ' x) q k
theorem sumB (hh:A.handled=none) (S:SR Z F Ψ σ s.heap) (ha:VR Z F a x) (q:uList a (fun xs=>(if smalls xs&&decide (xs.length<1000) then bnd (lft (sumV xs)) fun n=>ret (.int n) else fail:M V) σ)=some (r,σ')):CG Z A Ψ F s (.builtin "sum") r σ' x:=
 ha.oList (G:=fun _ x=>CG Z A Ψ F s (.builtin "sum") r σ' x) q fun xs c vs k z g l q=>if_k q fun _ q=>bndl q fun t e q=>cg_ret q <| (ints_of l e).elim fun ns p=>by
  refine p.1.allInts.items.elim fun is hx=>?_
  have hl:s.heap.IsList c (intItems is):=hx▸isList (S.frz _ _ g)
  refine sum_intListG hh hl fun h' tk t' hk=>?_
  have e1:ns=is.toList.map (·.1):=by
   rw [← nums_intItems,← hx]
   exact (show numsOf _=ns from p.1.numsOf).symm
  have e2:preSum (numAt is) is.size=t:=by rw [preSum_eq,List.take_of_length_le (by simp),← e1,p.2]
  exact e2▸.same (S.grow hk) (.int _ _)
theorem bytesB (hh:A.handled=none) (S:SR Z F Ψ σ s.heap) (ha:VR Z F a x) (q:uList a (fun xs=>(if xs.length<cap then bnd (lft (octs xs)) fun n=>ret (.byts n) else fail:M V) σ)=some (r,σ')):CG Z A Ψ F s (.type "bytes") r σ' x:=
 ha.oList (G:=fun _ x=>CG Z A Ψ F s (.type "bytes") r σ' x) q fun xs c vs k z g l q=>if_k q fun _ q=>bndl q fun t e q=>cg_ret q <| (octs_of l e).elim fun ns p=>
  call_bytes_ints (isList (S.frz _ _ g)) p.1 p.2.1 (l.length▸Nat.le_trans z (Nat.le_of_lt capLine)) hh fun h' t k hk=>p.2.2▸.same (S.grow hk) (.byts _ _)
theorem allB (hh:A.handled=none) (S:SR Z F Ψ σ s.heap) (ha:VR Z F a x) (q:uList a (fun xs=>(bnd (lft (allV xs)) fun n=>ret (.bool n):M V) σ)=some (r,σ')):CG Z A Ψ F s (.builtin "all") r σ' x:=
 ha.oList (G:=fun _ x=>CG Z A Ψ F s (.builtin "all") r σ' x) q fun xs c vs k z g l q=>bndl q fun t e q=>cg_ret q <| (bools_of l e).elim fun bs p=>by
  have hl:=isList (S.frz _ _ g)
  refine call_all_walk (wpAny_pyIter_list hl ⟨s.heap.objs.size,_,[s.heap.objs.size],_,_,_,fun i=>(bs[i]?).getD true,rfl,Walks.list (A:=A.in1) hh _ _ (Nat.ne_of_lt (Heap.lt_size (S.frz _ _ g))) _,
   ⟨⟨_,Heap.get?_push_size _ rfl,rfl,rfl⟩,hl.push _⟩,fun i v s' Q' E' hP hQ=>?_,fun h' tk hk=>?_⟩)
  ·obtain ⟨b,e,rfl⟩:=p.1.get i v (by simpa using hP)
   have hQ:Q' ((bs[i]?).getD true) s':=hQ
   rw [e] at hQ
   exact wpAny_truthy_bool hQ
  ·have e:((List.range vs.toArray.size).all fun i=>(bs[i]?).getD true)=bs.all id:=by
    rw [List.size_toArray,p.1.length];exact range_all bs
   rw [e,p.2]
   exact .same (S.grow (kept_iter hk)) (.bool _)
theorem biCall_sound (X₀:Z.K.In Z.h₀) (O:KOK Z.K Z.ca) (hh:A.handled=none) {b:BI} {vs:List V} {xs:List Value} (ha:VRs Z F₀ vs xs):Sn Z A Ψ F₀ (VR Z) (call (biVal b) xs) (biCall b vs):=fun F σ r σ' s E S q=>by
 have ha:=ha.mono E
 have o1:∀ {f:V→M V} {g:Value},one vs f σ=some (r,σ')→(∀ a x,VR Z F a x→f a σ=some (r,σ')→CG Z A Ψ F s g r σ' x)→wpAny (Md Z) A (call g xs) (PR Z Ψ (VR Z) F s σ' r) Fls s:=fun q k=>
  one_k (G:=fun vs=>VRs Z F vs xs→wpAny (Md Z) A (call _ xs) (PR Z Ψ (VR Z) F s σ' r) Fls s) q (fun a q ha=>ha (fun xs=>wpAny (Md Z) A (call _ xs) (PR Z Ψ (VR Z) F s σ' r) Fls s) fun x xs h l=>l (fun xs=>wpAny (Md Z) A (call _ (x::xs)) (PR Z Ψ (VR Z) F s σ' r) Fls s) (k a x h q)) ha
 cases b with
 | len=>exact o1 q fun a x h q=>lenV_sound h F σ r σ' s (Ext.refl F) S q
 | range=>exact o1 q fun a x h q=>h.oInt (G:=fun _ x=>CG Z A Ψ F s (.type "range") r σ' x) q fun i t q=>if_k q fun _ q=>cg_ret q (call_range_1 (.new (Ext.put S.new.fz) ((S.push _).addF S.new (Heap.get?_push_size _ rfl)) (.rng (put_self ..))))
 | isinstance=>
  exact two_k (G:=fun vs=>VRs Z F vs xs→wpAny (Md Z) A (call (.builtin "isinstance") xs) (PR Z Ψ (VR Z) F s σ' r) Fls s) q (fun a b q ha=>ha (fun xs=>wpAny (Md Z) A (call (.builtin "isinstance") xs) (PR Z Ψ (VR Z) F s σ' r) Fls s) fun x xs h l=>l (fun xs=>wpAny (Md Z) A (call (.builtin "isinstance") (x::xs)) (PR Z Ψ (VR Z) F s σ' r) Fls s) fun y xs h' l=>
   l (fun xs=>wpAny (Md Z) A (call (.builtin "isinstance") (x::y::xs)) (PR Z Ψ (VR Z) F s σ' r) Fls s) (Sn.post (R':=VR Z) (g:=V.bool) (isKind_sound X₀ O h h') (fun F v x _ (e:x=.bool v)=>e▸.bool v) F σ r σ' s (Ext.refl F) S q)) ha
 | sum=>exact o1 q fun a x h q=>sumB hh S h q
 | abs=>exact o1 q fun a x h q=>h.oInt (G:=fun _ x=>CG Z A Ψ F s (.builtin "abs") r σ' x) q fun i t q=>cg_ret q (call_abs_int fun u tk=>.same S (.int _ _))
 | ord=>exact o1 q fun a x h q=>h.oStr (G:=fun _ x=>CG Z A Ψ F s (.builtin "ord") r σ' x) q fun st t q=>bndl q fun c e q=>cg_ret q (one_eq e▸PySem.P.ord_of_char (.same S (.int _ _)))
 | chr=>exact o1 q fun a x h q=>h.oInt (G:=fun _ x=>CG Z A Ψ F s (.builtin "chr") r σ' x) q fun i t q=>if_k q fun hb q=>cg_ret q (chr_of_range hb.1 (Int.le_of_lt (Int.lt_trans hb.2 (by decide:(256:Int)<1114111))) (.same S (.str _ _)))
 | bytes=>exact o1 q fun a x h q=>bytesB hh S h q
 | all=>exact o1 q fun a x h q=>allB hh S h q
 | _=>exact nn q
theorem sorted_dict {K:Type} [DecidableEq K] {knd:PySem.KeyKind Z.prog Z.w K} {d:Addr} {kvs:List (K×Value)} {Q:Value→Shared→Prop} {s:Shared} (hh:A.handled=none) (lo:(d == sysModules)=false) (hm:s.heap.DictOf knd d kvs) (hn:kvs.length<64)
  (h:∀ (D:Addr) (h':Heap) (tk:Nat) (vs:List Value),(∀ b o,s.heap.get? b=some o→h'.get? b=some o)→h'.get? D=some (seqObj "list" vs.toArray 0)→s.heap.get? D=none→vs.length=kvs.length→(∀ (j:Nat) (v:Value),vs[j]?=some v→∃ k x,kvs[j]?=some (k,x)∧knd.is k v=true)→
   wpAny (Md Z) A.in1.in1 (Builtin.«list.sort» ⟨[.ref D],[]⟩) (fun fin s'=>∃ v,fin=.done (.ret v)∧Q (.ref D) s') Fls { s with heap:=h',toks:=tk }) :
  wpAny (Md Z) A (call (.builtin "sorted") [.ref d]) Q Fls s:=by
 refine hm.dictAt.elim fun ep hat=>?_
 have hz:kvs.length≤sizeLine:=Nat.le_trans (Nat.le_trans (Nat.le_of_lt hn) (by decide)) (Nat.le_of_lt capLine)
 refine call_function_entry kind_sorted plain_sorted entry_sorted (args_sorted1 _) ?_
 unfold Builtin.«sorted»
 refine wpAny_bind (m:=checkCount "sorted" 1 1 _) (wpAny_pure ?_)
 refine wpAny_bind (kdu_collect (A:=A.in1) (kdl_dict (knd:=knd) (kvs:=kvs) (ep:=ep) lo) hh hat hz fun h' tk acc hk hacc=>?_)
 have hl:acc.toList.length=kvs.length:=(Array.length_toList ..).trans hacc.1
 refine wpAny_bind (wpAny_newList ?_ (hl▸hz))
 have hoL:(h'.push (seqObj "list" acc.toList.toArray 0)).get? h'.objs.size=some (seqObj "list" acc.toList.toArray 0):=Heap.get?_push_size _ rfl
 refine wpAny_bind (wpAny_holding (wpAny_call_entry slot_list_sort ⟨_,hoL,rfl⟩ entry_list_sort (wpAny_mono (h h'.objs.size _ tk acc.toList (fun b o e=>Heap.get?_push_of_some _ (hk b o e)) hoL (off_of (fun y e=>⟨y,hk _ _ e⟩) (Heap.get?_size_none h')) hl fun j v e=>hacc.2 j v (by rw [← Array.getElem?_toList];exact e)) (fun fin s' x=>?_) fun _ _ e=>e) (args_list_sort _)))
 exact x.elim fun v x=>⟨v,x.1,wpAny_pure ⟨_,rfl,x.2⟩⟩
theorem are_cons {K:Type} {P:List Value→List K→Prop} {vs:List Value} {e k:K} {l:List K} (h:e=k) (p:P vs (k::l)):P vs (e::l):=h.symm▸p
theorem ints_items {kvs:List (Int×Value)} {vs:List Value} (hl:vs.length=kvs.length) (h:∀ (j:Nat) (v:Value),vs[j]?=some v→∃ k x,kvs[j]?=some (k,x)∧(ik Z).is k v=true):IntsAre vs (kvs.map (·.1)):=by
 induction kvs generalizing vs with
 | nil=>rw [List.length_eq_zero_iff.mp hl];exact .nil
 | cons e kvs ih=>
  cases vs with
  | nil=>cases hl
  | cons v vs=>exact (h 0 v rfl).elim fun k p=>p.elim fun x p=>(Value.isInt_shape p.2).elim fun t q=>q▸are_cons (P:=IntsAre) (congrArg Prod.fst (Option.some.inj p.1)) (.cons k t (ih (Nat.succ.inj hl) fun j v e=>h (j+1) v e))
theorem strs_items {kvs:List (Str×Value)} {vs:List Value} (hl:vs.length=kvs.length) (h:∀ (j:Nat) (v:Value),vs[j]?=some v→∃ k x,kvs[j]?=some (k,x)∧(sk Z).is k v=true):StrsAre vs (kvs.map (·.1)):=by
 induction kvs generalizing vs with
 | nil=>rw [List.length_eq_zero_iff.mp hl];exact .nil
 | cons e kvs ih=>
  cases vs with
  | nil=>cases hl
  | cons v vs=>exact (h 0 v rfl).elim fun k p=>p.elim fun x p=>(Value.isStrOf_shape p.2).elim fun t q=>q▸are_cons (P:=StrsAre) (congrArg Prod.fst (Option.some.inj p.1)) (.cons k t (ih (Nat.succ.inj hl) fun j v e=>h (j+1) v e))
theorem ints_vrs {es:List (Int×V)} {vs:List Value} (h:IntsAre vs (es.map (·.1))):VRs Z F (es.map fun e=>V.int e.1) vs:=by
 induction es generalizing vs with
 | nil=>cases h;exact .nil
 | cons e es ih=>cases h with|cons n t h=>exact .cons (.int _ _) (ih h)
theorem strs_vrs {es:List (Str×V)} {vs:List Value} (h:StrsAre vs (es.map (·.1))):VRs Z F (es.map fun e=>V.str e.1) vs:=by
 induction es generalizing vs with
 | nil=>cases h;exact .nil
 | cons e es ih=>cases h with|cons n t h=>exact .cons (.str _ _) (ih h)
theorem pw_cons {K:Type} {R:K→K→Prop} {k:K} {v:V} {es:List (K×V)} (h:∀ e∈es,R k e.1) (l:(es.map (·.1)).Pairwise R):(((k,v)::es).map (·.1)).Pairwise R:=List.pairwise_cons.mpr ⟨fun b hb=>(List.mem_map.mp hb).elim fun e p=>p.2▸h e p.1,l⟩
theorem incI_pw {es:List (Int×V)} (h:incI es=true):(es.map (·.1)).Pairwise (·≤·):=by
 induction es with
 | nil=>exact .nil
 | cons e es ih=>exact andk h fun h1 h2=>pw_cons (fun e he=>Int.le_of_lt (of_decide_eq_true (List.all_eq_true.mp h1 e he))) (ih h2)
theorem incS_pw {es:List (Str×V)} (h:incS es=true):(es.map (·.1)).Pairwise (fun a b=>a.cps.toList≤b.cps.toList):=by
 induction es with
 | nil=>exact .nil
 | cons e es ih=>exact andk h fun h1 h2=>pw_cons (fun e he=>List.le_of_lt (of_decide_eq_true (List.all_eq_true.mp h1 e he))) (ih h2)
theorem rising_pw {l:List Str} {p:Str} (h:risingS p l=true):(p::l).Pairwise (fun a b=>a.cps.toList≤b.cps.toList):=by
 induction l generalizing p with
 | nil=>exact List.pairwise_singleton ..
 | cons x r ih=>
  have h:(!PySem.Spec.ltCps x.cps.toList p.cps.toList&&risingS x r)=true:=h
  rw [Bool.and_eq_true,ltCps_eq] at h
  have h1:p.cps.toList≤x.cps.toList:=by simpa using h.1
  exact List.pairwise_cons.mpr ⟨fun b hb=>(List.mem_cons.mp hb).elim (fun e=>e▸h1) fun hb=>List.le_trans h1 ((List.pairwise_cons.mp (ih h.2)).1 b hb),ih h.2⟩
theorem sorted_pw {l:List Str} (h:sortedS l=true):l.Pairwise (fun a b=>a.cps.toList≤b.cps.toList):=by
 cases l with
 | nil=>exact .nil
 | cons p l=>exact rising_pw h
theorem str_of_cps {a b:Str} (h:a.cps.toList=b.cps.toList):a=b:=by
 cases a;cases b
 exact congrArg Str.mk (Array.toList_inj.mp h)
theorem sortedHeap_keep {h h':Heap} {D:Addr} {vs:List Value} {out:Array Value} (hk:∀ b o,h.get? b=some o→h'.get? b=some o) (n:h.get? D=none):∀ b o,h.get? b=some o→(sortedHeap h' D vs out).get? b=some o:=fun b o e=>
 (sortedHeap_old (ne_of n e) (Heap.lt_size (hk b o e))).trans (hk b o e)
theorem sortedD_sound {m:Bool} (hh:A.handled=none) (S:SR Z F Ψ σ s.heap) (ha:VR Z F a x) (q:bnd (rdDict a) (fun es=>if decide (es.length<64)&&incS es then mkL m (es.map fun e=>V.str e.1) else fail) σ=some (r,σ')):CG Z A Ψ F s (.builtin "sorted") r σ' x:=
 bndD S ha (G:=CG Z A Ψ F s (.builtin "sorted") r σ') q fun c es o kvs g d l q=>if_k q fun hz q=>andk hz fun hz1 hz2=>by
  have hz1:kvs.length<64:=l.length▸of_decide_eq_true hz1
  refine sorted_dict hh d.2.1 (Heap.dictOf_iff.mpr ⟨o,g,d.1⟩) hz1 fun D h' tk vs hk hD hnone hvl hv=>?_
  have hS:=strs_items hvl hv
  refine list_sort_treeK strKind_oneLt hD hS.keysOf (fun v₁ v₂ rest e=>keyKind_strs (e▸hS)) (hvl▸hz1) fun st' hp hs'=>?_
  refine (sorted_out_str hS hp hs').elim fun ss' p=>?_
  have e:ss'=es.map (·.1):=by
   rw [← l.keys]
   exact List.Perm.eq_of_pairwise (fun a b _ _ h1 h2=>str_of_cps (List.le_antisymm h1 h2)) (sorted_pw p.2.2) (by rw [l.keys];exact incS_pw hz2) p.2.1
  rw [e] at p
  refine (sortedHeap_at (vs:=vs) (out:=(arrOf st').map (·.2)) hD).elim fun k hk'=>⟨_,rfl,newL (vs:=((arrOf st').map (·.2)).toList) (k:=k) (S.grow (sortedHeap_keep hk hnone)) (strs_vrs p.1) q (S.free hnone) ?_⟩
  exact hk'
theorem sortedI_sound {m:Bool} (hh:A.handled=none) (S:SR Z F Ψ σ s.heap) (ha:VR Z F a x) (q:bnd (rdId a) (fun es=>if decide (es.length<64)&&incI es then mkL m (es.map fun e=>V.int e.1) else fail) σ=some (r,σ')):CG Z A Ψ F s (.builtin "sorted") r σ' x:=
 bndI S ha (G:=CG Z A Ψ F s (.builtin "sorted") r σ') q fun c es o kvs g d l q=>if_k q fun hz q=>andk hz fun hz1 hz2=>by
  have hz1:kvs.length<64:=l.length▸of_decide_eq_true hz1
  refine sorted_dict hh d.2.1 (Heap.dictOf_iff.mpr ⟨o,g,d.1⟩) hz1 fun D h' tk vs hk hD hnone hvl hv=>?_
  refine list_sort_tree hD (ints_items hvl hv) (hvl▸hz1) fun out ns' h1 h2 h3=>?_
  have e:ns'=es.map (·.1):=by
   rw [← l.keys]
   exact List.Perm.eq_of_pairwise (fun a b _ _ h1 h2=>Int.le_antisymm h1 h2) h3 (by rw [l.keys];exact incI_pw hz2) h2
  rw [e] at h1
  refine (sortedHeap_at (vs:=vs) (out:=out) hD).elim fun k hk'=>⟨_,rfl,newL (vs:=out.toList) (k:=k) (S.grow (sortedHeap_keep hk hnone)) (ints_vrs h1) q (S.free hnone) ?_⟩
  exact hk'
theorem listOf_sound {m:Bool} (S:SR Z F Ψ σ s.heap) (ha:VR Z F a x) (q:bnd (rdList a) (fun xs=>mkL m xs) σ=some (r,σ')):CG Z A Ψ F s (.type "list") r σ' x:=
 bndL S ha (G:=CG Z A Ψ F s (.type "list") r σ') q fun c xs vs k g z l q=>call_list_seq (hsz:=by rw [List.size_toArray,l.length];exact Nat.le_trans z (Nat.le_of_lt capLine)) c (.inl rfl) g rfl rfl fun h' c' hk hD=>newL (S.grow hk) l q S.new hD
theorem newD {h:Heap} {c:Addr} {es:List (Str×V)} {kvs} {m tk:Nat} (S:SR Z F Ψ σ h) (hr:ER Z F es kvs) (hz:es.length≤cap) (q:mkD m es σ=some (r,σ')) (f:Free F Ψ c) (g:h.DictOf (sk Z) c kvs) (hs:(c == sysModules)=false):PR Z Ψ (VR Z) F s σ' r (.ref c) { s with heap:=h,toks:=tk }:=
 (Heap.dictOf_iff.mp g).elim fun o p=>match m,q with
 | 0,q=>ret_k (G:=fun r σ'=>PR Z Ψ (VR Z) F s σ' r (.ref c) { s with heap:=h,toks:=tk }) q (.new (Ext.put f.fz) (S.addF f p.1) (.dict hs hz (put_self ..) p.2 (hr.mono (Ext.put f.fz))))
 | 1,q=>ret_k (a:=V.cell σ.length) (σ:=σ++[Ob.sd es]) (G:=fun r σ'=>PR Z Ψ (VR Z) F s σ' r (.ref c) { s with heap:=h,toks:=tk }) q (.new (Ext.cell F c) (S.addC (ob:=.sd es) f ⟨_,p.1⟩ (.live f.fz f.pv p.1 ⟨kvs,⟨p.2,hs,hz⟩,hr⟩)) (.cell ((congrArg _ S.len.symm).trans (List.getElem?_concat_length (l:=F.c)))))
 | _+2,q=>nn q
end
end Mine
namespace Mine
open PySem PySem.Calls PyProof.Rows PySem.W
theorem list_no_keys:typeLookup (.type "list") "keys"=pure none:=by rw [typeLookup_type,builtinLookup_eq_fast];kernel_rfl
noncomputable def PairsAt {prog:Program} {w:World} {K:Type} [DecidableEq K] (knd:PySem.KeyKind prog w K) (h:Heap):List (K×Value)→List Value→Prop
 | [],vs=>∀ G:List Value→Prop,G []→G vs
 | e::ps,vs=>∀ G:List Value→Prop,(∀ t key n vs,h.get? t=some (tupObj [key,e.2] n)→knd.is e.1 key=true→PairsAt knd h ps vs→G (.ref t::vs))→G vs
noncomputable def storedAll {K:Type} [DecidableEq K] (kvs:List (K×Value)):List (K×Value)→List (K×Value)
 | []=>kvs
 | p::r=>storedAll (stored kvs p.1 p.2) r
section
variable {prog:Program} {w:World} {A:Around} {E:Value→Shared→Prop} {s:Shared} {K:Type} [DecidableEq K] {knd:PySem.KeyKind prog w K} {h h':Heap} {t d I l:Addr} {kvs ps:List (K×Value)} {vs:List Value}
theorem keys_miss {a:Addr} {k:Nat} {Q:Option Value→Shared→Prop} (hx:s.heap.get? a=some (lstObj vs k)) (hA:A.handled=none)
  (h:∀ h' tk,(∀ b o,s.heap.get? b=some o→h'.get? b=some o)→Q none { s with heap:=h',toks:=tk }) :
  wpAny (model prog w) A (getAttr? (.ref a) "keys") Q E s:=by
 obtain ⟨hp,g,d,tk,os⟩:=s
 have hT:∀ tk',(⟨hp,g,d,tk',os⟩:Shared).TypeIs (.ref a) "list":=fun _=>⟨_,hx,rfl⟩
 have f1:=sub_AttributeError
 have f3:=PySem.F.slot_list_getattribute.lookup
 have f4:=PySem.F.slot_list_getattribute.bind (.ref a)
 have f5:=am_list_getattr_none
 unfold getAttr? getAttrBy? getAttrBy
 repeat (any_goals (first|assumption|exact hT _|((with_reducible show wpAny _ _ (call (Value.builtin "list.__getattribute__") _ _) _ _ _);refine call_meets PySem.F.slot_list_getattribute (hT _) am_entry_list_getattribute (PySem.F.args_list_getattribute_2 _ _) (meets_getattribute_miss_list a vs.toArray k #[] "keys" _ list_no_keys (by decide) (by size_fits)) ⟨hx,hA,fun h' tk' e hx'=>?_⟩)|wp_step))
 obtain ⟨t',u',he⟩:=hx'.there
 show wpAny _ _ (getattributeRaised _ _ _ _ _ _ _) _ _ _
 unfold getattributeRaised
 repeat (any_goals (first|assumption|wp_step))
 exact h _ _ hx'.keeps
theorem PairsAt.keep (hd:∀ b o,b≠d→b≠I→h.get? b=some o→h'.get? b=some o) (nd:∀ t key x n,h.get? t=some (tupObj [key,x] n)→t≠d∧t≠I) (p:PairsAt knd h ps vs):PairsAt knd h' ps vs:=by
 induction ps generalizing vs with
 | nil=>exact p
 | cons e ps ih=>exact fun G k=>p G fun t key n vs g i r=>k t key n vs (hd _ _ (nd _ _ _ _ g).1 (nd _ _ _ _ g).2 g) i (ih r)
theorem entry_upd_loop:entryFor table "dict.update.loop"=some Builtin.«dict.update.loop»:=by first|exact entryFor_of_fast (by kernel_rfl)|exact entryFor_of_tree (by kernel_rfl)
theorem plain_upd_loop:plainId "dict.update.loop"=true:=by decide +kernel
theorem stored_len (kvs:List (K×Value)) (k:K) (v:Value):(stored kvs k v).length≤kvs.length+1:=by
 unfold stored
 split
 ·rw [List.length_map];exact Nat.le_succ _
 ·exact Nat.le_of_eq (List.length_append ..)
theorem cls_ne {T U:String} {o o':Obj} (g:h.get? t=some o) (g':h.get? I=some o') (e:o.cls=.type T) (e':o'.cls=.type U) (n:T≠U):t≠I:=fun q=>by
 subst q
 exact n (Value.type.inj (e.symm.trans ((congrArg Obj.cls (Option.some.inj (g.symm.trans g'))).trans e')))
theorem tup_not_dict {n:Nat} (g:h.get? t=some (tupObj vs n)) (hm:h.DictOf knd d kvs):t≠d:=(Heap.dictOf_iff.mp hm).elim fun o p=>p.2.elim fun _ q=>q.elim fun _ q=>cls_ne g p.1 rfl q.1.1 (by decide)
theorem tup_not_iter {n i:Nat} (g:h.get? t=some (tupObj vs n)) (hi:h.IsListIter I l i):t≠I:=hi.elim fun o p=>cls_ne g p.1 rfl p.2.1 (by decide)
theorem dict_keep (hd:h.DictOf knd d kvs) (e:∀ o,h.get? d=some o→h'.get? d=some o):h'.DictOf knd d kvs:=(Heap.dictOf_iff.mp hd).elim fun o p=>Heap.dictOf_iff.mpr ⟨o,e o p.1,p.2⟩
theorem list_keep {all:Array Value} (hl:h.IsList l all) (e:∀ o,h.get? l=some o→h'.get? l=some o):h'.IsList l all:=hl.elim fun o p=>⟨o,e o p.1,p.2⟩
theorem iter_keep {i:Nat} (hi:h.IsListIter I l i) (e:∀ o,h.get? I=some o→h'.get? I=some o):h'.IsListIter I l i:=hi.elim fun o p=>⟨o,e o p.1,p.2⟩
theorem upd_loop {R:Result→Shared→Prop} {res:Value} (hh:A.handled=none) (hId:I≠d) (hlI:l≠I) (hld:l≠d) {all:List Value} {i:Nat} {u:Tok} (hi:all.drop i=vs) (hp:PairsAt knd s.heap ps vs) (hl:s.heap.IsList l all.toArray) (hit:s.heap.IsListIter I l i) (hd:s.heap.DictOf knd d kvs) (hz:kvs.length+ps.length≤sizeLine)
  (hR:∀ h' k',(∀ b o,b≠I→b≠d→s.heap.get? b=some o→h'.get? b=some o)→h'.DictOf knd d (storedAll kvs ps)→R (.ok (.ret res)) { s with heap:=h',toks:=k' }):codeAny (model prog w) A (.builtin "dict.update.loop" ⟨[.ref d,.ref I,.int i u,res],[]⟩) R s:=by
 induction ps generalizing vs kvs i u s with
 | nil=>
  have hi:all.drop i=[]:=hp (fun vs=>all.drop i=vs→all.drop i=[]) id hi
  refine codeAny_builtin entry_upd_loop ?_
  rw [Around.under_plainId plain_upd_loop _]
  show wpAny _ A.in1 (pyNext (.ref I) >>= _) _ _ s
  refine wpAny_bind (wpAny_pyNext_list_end hh hit hl ((List.getElem?_toArray ..).trans (List.getElem?_eq_none (List.drop_eq_nil_iff.mp hi))) fun h' he=>?_)
  show wpAny _ _ (Builtin.Dict.addKeywords d [] >>= _) _ _ _
  exact wpAny_bind (wpAny_pure (wpAny_pure (hR h' _ (fun b o hb _ e=>he b o hb e) (dict_keep hd fun o=>he d o (Ne.symm hId)))))
 | cons e ps ih=>
  refine hp (fun vs=>all.drop i=vs→_) (fun t key n vs g hk r hi=>?_) hi
  have hx:all[i]?=some (.ref t):=by rw [← List.head?_drop,hi];rfl
  have hi':all.drop (i+1)=vs:=by rw [← List.drop_drop,hi];rfl
  refine codeAny_builtin entry_upd_loop ?_
  rw [Around.under_plainId plain_upd_loop _]
  show wpAny _ A.in1 (pyNext (.ref I) >>= _) _ _ s
  refine wpAny_bind (wpAny_pyNext_list_item hit hl ((List.getElem?_toArray ..).trans hx) fun h' hit' hs=>?_)
  have g':h'.get? t=some (tupObj [key,e.2] n):=(hs.2 t (tup_not_iter g hit)).trans g
  have hd':=dict_keep hd fun o=>(hs.2 d (Ne.symm hId)).trans
  refine wpAny_bind (wpAny_holding (wpAny_bind (wpAny_tryCatch ?_)))
  unfold Builtin.Dict.pairItems
  refine wpAny_bind (wpAny_typeOf (T:="tuple") ⟨_,g',rfl⟩ ?_)
  rw [if_pos (by decide)]
  refine wpAny_bind (wpAny_seqItems g' rfl (wpAny_pure ?_))
  show wpAny _ _ (holding [key,e.2] (dictSet d key e.2)) _ _ _
  have hz':kvs.length+1+ps.length≤sizeLine:=Nat.add_right_comm ..▸hz
  refine wpAny_holding (wpAny_dictSet_pairs hk hd' (fun h'' hd'' hs'=>?_) (Nat.le_trans (Nat.le_trans (Nat.le_succ _) (Nat.le_add_right ..)) hz'))
  have hkeep:∀ b o,b≠d→b≠I→s.heap.get? b=some o→h''.get? b=some o:=fun b o h1 h2 e=>(hs'.2 b h1).trans ((hs.2 b h2).trans e)
  exact wpAny_pure ⟨plainId_quiet plain_upd_loop _,ih hi' (r.keep hkeep fun t key x n e=>⟨tup_not_dict e hd,tup_not_iter e hit⟩) (list_keep hl fun o=>hkeep _ o hld hlI) (iter_keep hit' fun o=>(hs'.2 I hId).trans) hd'' (Nat.le_trans (Nat.add_le_add_right (stored_len kvs e.1 e.2) _) hz')
   fun h3 k3 hk3 hd3=>hR h3 k3 (fun b o h1 h2 e=>hk3 b o h1 h2 (hkeep b o h2 h1 e)) hd3⟩
theorem dict_of_pairs {k:Nat} {Q:Value→Shared→Prop} (hh:A.handled=none) (hl:s.heap.get? l=some (lstObj vs k)) (hp:PairsAt knd s.heap ps vs) (hsz:ps.length≤sizeLine)
  (h:∀ h' tk,h'.DictOf knd s.heap.objs.size (storedAll [] ps)→(∀ b o,s.heap.get? b=some o→h'.get? b=some o)→Q (.ref s.heap.objs.size) { s with heap:=h',toks:=tk }) :
  wpAny (model prog w) A (call (.type "dict") [.ref l]) Q E s:=by
 refine callType_codes (Q₁:=fun obj s₁=>obj=.ref s.heap.objs.size∧s₁={ s with heap:=s.heap.push { cls:=.type "dict",data:=.dict #[] } }) PySem.F.kt_called_dict (PySem.F.kt_typeCall_dict_1 _) PySem.F.entry_dict_init (kt_code_dict_new _ ⟨rfl,rfl⟩) ?_
 rintro obj s₁ ⟨rfl,rfl⟩
 have hnew:(s.heap.push { cls:=.type "dict",data:=.dict #[] }).DictOf knd s.heap.objs.size []:=Heap.DictOf.new s.heap
 have hl':(s.heap.push { cls:=.type "dict",data:=.dict #[] }).get? l=some (lstObj vs k):=Heap.get?_push_of_some _ hl
 refine ⟨hnew.typeIs,PySem.F.args_dict_init_2 _ _,?_⟩
 unfold Builtin.«dict.__init__»
 refine wpAny_bind ?_
 unfold Builtin.Dict.selfAndRest
 refine wpAny_bind (wpAny_notOrdered_dict hnew.typeIs ?_)
 show wpAny _ _ (pure (s.heap.objs.size,[Value.ref l])) _ _ _
 refine wpAny_pure ?_
 show wpAny _ _ (Builtin.Dict.updateFrom "dict.__init__" s.heap.objs.size (.ref l) [] .none) _ _ _
 unfold Builtin.Dict.updateFrom
 refine wpAny_bind (wpAny_typeOf (T:="list") ⟨_,hl',rfl⟩ ?_)
 rw [if_pos (by decide)]
 refine wpAny_bind (keys_miss hl' hh fun h' tk hk=>?_)
 rw [if_pos (by rfl)]
 refine wpAny_bind (wpAny_rule ?_)
 refine wpAny_bind (wpAny_pyIter_list (isList (hk _ _ hl')) ?_)
 have hold:∀ b o,s.heap.get? b=some o→(h'.push { cls:=.type "list_iterator",data:=.fields #[.ref l,.int 0 0] }).get? b=some o:=fun b o e=>Heap.get?_push_of_some _ (hk _ _ (Heap.get?_push_of_some _ e))
 have hD:=dict_keep hnew fun o=>hk s.heap.objs.size o
 have hDl:s.heap.objs.size<h'.objs.size:=(Heap.dictOf_iff.mp hD).elim fun o p=>Heap.lt_size p.1
 have hlD:l<s.heap.objs.size:=Heap.lt_size hl
 have hlt:∀ {b o},s.heap.get? b=some o→b≠h'.objs.size:=fun e=>Nat.ne_of_lt (Nat.lt_trans (Heap.lt_size e) hDl)
 exact wpAny_pure ⟨plainId_quiet plain_upd_loop _,upd_loop (A:=A.in1) (knd:=knd) (l:=l) (I:=h'.objs.size) (d:=s.heap.objs.size) (kvs:=[]) (all:=vs) (i:=0) hh (Nat.ne_of_gt hDl) (hlt hl) (Nat.ne_of_lt hlD) rfl (hp.keep (d:=h'.objs.size) (I:=h'.objs.size) (fun b o _ _ e=>hold b o e) fun t key x n e=>⟨hlt e,hlt e⟩) (isList (hold _ _ hl)) ⟨_,Heap.get?_push_size _ rfl,rfl,rfl⟩
  (dict_keep hD fun o=>Heap.get?_push_of_some _) ((Nat.zero_add _).symm▸hsz) fun h3 k3 hk3 hd3=>⟨rfl,h h3 k3 hd3 fun b o e=>hk3 b o (hlt e) (Nat.ne_of_lt (Heap.lt_size e)) (hold b o e)⟩⟩
theorem stored_nodup (k:K) (v:Value) (h:(kvs.map (·.1)).Nodup):((stored kvs k v).map (·.1)).Nodup:=by
 unfold stored
 split
 ·rw [List.map_map,show ((fun x:K×Value=>x.1) ∘ fun kv=>if kv.1=k then (kv.1,v) else kv)=(·.1) from funext fun kv=>by
   show (if kv.1=k then (kv.1,v) else kv).1=kv.1
   split <;> rfl]
  exact h
 ·rename_i hn
  rw [List.map_append,List.nodup_append]
  exact ⟨h,List.nodup_cons.mpr ⟨(fun h=>nomatch h),.nil⟩,fun a ha b hb e=>(List.mem_map.mp ha).elim fun p hp=>hn (List.any_eq_true.mpr ⟨p,hp.1,decide_eq_true (hp.2.trans (e.trans (List.mem_singleton.mp hb)))⟩)⟩
theorem merged_all (more kvs:List (K×Value)):merged kvs more=storedAll kvs more:=by
 induction more generalizing kvs with
 | nil=>rfl
 | cons p r ih=>exact ih (stored kvs p.1 p.2)
end
section
variable {Z:Sta} {A:Around} {Ψ:Pv} {F F₀:Fz} {n:Nat} {a:V} {x:Value} {σ σ':Mem} {s:Shared} {r:V} {h:Heap}
theorem two_at {v:V} {x:Value} {k:V→V→Option α} {q:α} {G:V→Value→Prop} (S:SR Z F Ψ σ h) (hv:VR Z F v x) (e:uTup v (fun vs=>uTwo vs k)=some q) (g:∀ a b c y z n,h.get? c=some (tupObj [y,z] n)→VR Z F a y→VR Z F b z→k a b=some q→G (.tup [a,b]) (.ref c)):G v x:=
 hv.oTup (G:=G) e fun xs c vs n _ gg l e=>match xs,e,l with
 | [a,b],e,l=>l (fun vs=>F.o c=some (tupObj vs n)→G (.tup [a,b]) (.ref c)) (fun y ys p l=>l (fun ys=>F.o c=some (tupObj (y::ys) n)→G (.tup [a,b]) (.ref c)) fun z zs p' l=>l (fun zs=>F.o c=some (tupObj (y::z::zs) n)→G (.tup [a,b]) (.ref c)) fun gg=>g a b c y z n (S.frz _ _ gg) p p' e) gg
 | [],e,_=>nn e
 | [_],e,_=>nn e
 | _::_::_::_,e,_=>nn e
theorem pairsS_at (S:SR Z F Ψ σ h) {xs:List V} {vs:List Value} {ps:List (Str×V)} (l:VRs Z F xs vs) (e:pairsS xs=some ps):∃ qs,PairsAt (sk Z) h qs vs∧ER Z F ps qs∧ps.length=xs.length:=by
 induction xs generalizing vs ps with
 | nil=>exact l (fun vs=>∃ qs,PairsAt (sk Z) h qs vs∧ER Z F ps qs∧ps.length=0) (Option.some.inj e▸⟨[],(fun _ k=>k),.nil,rfl⟩)
 | cons u xs ih=>
  exact l (fun vs=>∃ qs,PairsAt (sk Z) h qs vs∧ER Z F ps qs∧ps.length=xs.length+1) fun y ys p l=>two_at S p (G:=fun _ y=>∃ qs,PairsAt (sk Z) h qs (y::ys)∧ER Z F ps qs∧ps.length=xs.length+1) e fun a b c y z n g ha hb e=>ha.oStr (G:=fun _ y=>h.get? c=some (tupObj [y,z] n)→∃ qs,PairsAt (sk Z) h qs (.ref c::ys)∧ER Z F ps qs∧ps.length=xs.length+1) e
   (fun k t e g=>obk e fun ps' e1 e=>(ih l e1).elim fun qs w=>Option.some.inj e▸⟨(k,z)::qs,(fun G f=>f c _ n ys g (strKind_is Z.prog Z.w k t) w.1),.cons hb w.2.1,congrArg (·+1) w.2.2⟩) g
theorem pairsI_at (S:SR Z F Ψ σ h) {xs:List V} {vs:List Value} {ps:List (Int×V)} (l:VRs Z F xs vs) (e:pairsI xs=some ps):∃ qs,PairsAt (ik Z) h qs vs∧EI Z F ps qs∧ps.length=xs.length:=by
 induction xs generalizing vs ps with
 | nil=>exact l (fun vs=>∃ qs,PairsAt (ik Z) h qs vs∧EI Z F ps qs∧ps.length=0) (Option.some.inj e▸⟨[],(fun _ k=>k),.nil,rfl⟩)
 | cons u xs ih=>
  exact l (fun vs=>∃ qs,PairsAt (ik Z) h qs vs∧EI Z F ps qs∧ps.length=xs.length+1) fun y ys p l=>two_at S p (G:=fun _ y=>∃ qs,PairsAt (ik Z) h qs (y::ys)∧EI Z F ps qs∧ps.length=xs.length+1) e fun a b c y z n g ha hb e=>ha.oInt (G:=fun _ y=>h.get? c=some (tupObj [y,z] n)→∃ qs,PairsAt (ik Z) h qs (.ref c::ys)∧EI Z F ps qs∧ps.length=xs.length+1) e
   (fun k t e g=>obk e fun ps' e1 e=>(ih l e1).elim fun qs w=>Option.some.inj e▸⟨(k,z)::qs,(fun G f=>f c _ n ys g (intKind_is Z.prog Z.w k t) w.1),.cons hb w.2.1,congrArg (·+1) w.2.2⟩) g
theorem ER.storedAll {ps qs es kvs} (h:ER Z F ps qs) (n:(kvs.map (·.1)).Nodup) (l:ER Z F es kvs):ER Z F (stoAll es ps) (Mine.storedAll kvs qs):=by
 induction ps generalizing qs es kvs with
 | nil=>exact h (fun qs=>ER Z F es (Mine.storedAll kvs qs)) l
 | cons p ps ih=>exact h (fun qs=>ER Z F (stoAll (sto es p.1 p.2) ps) (Mine.storedAll kvs qs)) fun y ys hv h=>ih (qs:=ys) h (stored_nodup _ _ n) (l.stored hv n)
theorem EI.storedAll {ps qs es kvs} (h:EI Z F ps qs) (n:(kvs.map (·.1)).Nodup) (l:EI Z F es kvs):EI Z F (stoAllI es ps) (Mine.storedAll kvs qs):=by
 induction ps generalizing qs es kvs with
 | nil=>exact h (fun qs=>EI Z F es (Mine.storedAll kvs qs)) l
 | cons p ps ih=>exact h (fun qs=>EI Z F (stoAllI (stoI es p.1 p.2) ps) (Mine.storedAll kvs qs)) fun y ys hv h=>ih (qs:=ys) h (stored_nodup _ _ n) (l.stored hv n)
theorem stoAll_len (ps es:List (Str×V)):(stoAll es ps).length≤es.length+ps.length:=by
 induction ps generalizing es with
 | nil=>exact Nat.le_refl _
 | cons p ps ih=>exact Nat.le_trans (ih (sto es p.1 p.2)) (Nat.le_trans (Nat.add_le_add_right (sto_len p.1 p.2 es) _) (Nat.le_of_eq (Nat.add_right_comm ..)))
theorem stoAllI_len (ps es:List (Int×V)):(stoAllI es ps).length≤es.length+ps.length:=by
 induction ps generalizing es with
 | nil=>exact Nat.le_refl _
 | cons p ps ih=>exact Nat.le_trans (ih (stoI es p.1 p.2)) (Nat.le_trans (Nat.add_le_add_right (stoI_len p.1 p.2 es) _) (Nat.le_of_eq (Nat.add_right_comm ..)))
theorem notMod (S:SR Z F Ψ σ h) (hmod:∃ o,Z.h₀.get? sysModules=some o):(h.objs.size == sysModules)=false:=hmod.elim fun o ho=>beq_false_of_ne (Nat.ne_of_gt (Heap.lt_size (S.keep _ _ ho)))
noncomputable def mkVal:Mk→Value
 | .dictOf=>.type "dict" | .listOf=>.type "list" | .sortedOf=>.builtin "sorted"
theorem dictI_sound (hmod:∃ o,Z.h₀.get? sysModules=some o) (hh:A.handled=none) (S:SR Z F Ψ σ s.heap) {c:Addr} {xs:List V} {vs:List Value} {n:Nat} (g:s.heap.get? c=some (lstObj vs n)) (l:VRs Z F xs vs) (hz:xs.length≤cap) (q:bnd (lft (pairsI xs)) (fun ps=>alc (.id (stoAllI [] ps))) σ=some (r,σ')):CG Z A Ψ F s (.type "dict") r σ' (.ref c):=
 bndl q fun ps e q=>(pairsI_at S l e).elim fun qs p=>by
  have hz':ps.length≤cap:=p.2.2▸hz
  refine dict_of_pairs hh g p.1 (by rw [p.2.1.length];exact Nat.le_trans hz' (Nat.le_of_lt capLine)) fun h' tk hd' hk=>(Heap.dictOf_iff.mp hd').elim fun o w=>?_
  exact ret_k (a:=V.cell σ.length) (σ:=σ++[Ob.id (stoAllI [] ps)]) (G:=fun r σ'=>PR Z Ψ (VR Z) F s σ' r (.ref s.heap.objs.size) { s with heap:=h',toks:=tk }) q (.new (Ext.cell F _) ((S.grow hk).addC (ob:=.id (stoAllI [] ps)) S.new ⟨o,w.1⟩ (.live S.new.fz S.new.pv w.1 ⟨_,⟨w.2,notMod S hmod,Nat.le_trans (stoAllI_len ps []) ((Nat.zero_add _).symm▸hz')⟩,EI.storedAll p.2.1 .nil .nil⟩)) (.cell ((congrArg _ S.len.symm).trans (List.getElem?_concat_length (l:=F.c)))))
theorem dictS_sound (hmod:∃ o,Z.h₀.get? sysModules=some o) (hh:A.handled=none) (S:SR Z F Ψ σ s.heap) {c:Addr} {xs:List V} {vs:List Value} {n m:Nat} (g:s.heap.get? c=some (lstObj vs n)) (l:VRs Z F xs vs) (hz:xs.length≤cap) (q:bnd (lft (pairsS xs)) (fun ps=>mkD m (stoAll [] ps)) σ=some (r,σ')):CG Z A Ψ F s (.type "dict") r σ' (.ref c):=
 bndl q fun ps e q=>(pairsS_at S l e).elim fun qs p=>by
  have hz':ps.length≤cap:=p.2.2▸hz
  exact dict_of_pairs hh g p.1 (by rw [p.2.1.length];exact Nat.le_trans hz' (Nat.le_of_lt capLine)) fun h' tk hd' hk=>newD (S.grow hk) (ER.storedAll (es:=[]) (kvs:=[]) p.2.1 .nil .nil) (Nat.le_trans (stoAll_len ps []) ((Nat.zero_add _).symm▸hz')) q S.new hd' (notMod S hmod)
theorem makeV_sound (hmod:∃ o,Z.h₀.get? sysModules=some o) (hh:A.handled=none) {k:Mk} {m:Nat} (S:SR Z F Ψ σ s.heap) (ha:VR Z F a x) (q:makeV k m a σ=some (r,σ')):CG Z A Ψ F s (mkVal k) r σ' x:=by
 cases k with
 | dictOf=>
  exact bndK S ha q fun t _ q=>by
   cases t with
   | D=>exact bndD S ha (G:=CG Z A Ψ F s (.type "dict") r σ') q fun c es o kvs g d l q=>if_k q fun _ q=>kt_call_dict d.2.1 (Heap.dictOf_iff.mpr ⟨o,g,d.1⟩) (by rw [l.length];exact Nat.le_trans d.2.2 (Nat.le_of_lt capLine)) fun h' hd' e'=>newD ((S.push { cls:=.type "dict",data:=.dict #[] }).sameBut S.new e') l d.2.2 q S.new hd' (notMod S hmod)
   | L=>exact bndL S ha (G:=CG Z A Ψ F s (.type "dict") r σ') q fun c xs vs n g z l q=>if_k q fun _ q=>if2_k q (fun _ q=>dictI_sound hmod hh S g l z q) fun q=>dictS_sound hmod hh S g l z q
   | _=>exact nn q
 | listOf=>exact listOf_sound S ha q
 | sortedOf=>
  exact bndK S ha q fun t _ q=>by
   cases t with
   | D=>exact sortedD_sound hh S ha q
   | I=>exact sortedI_sound hh S ha q
   | _=>exact nn q
end
section
variable {Z:Sta} {A:Around} {Ψ:Pv} {F F₀:Fz} {n:Nat} {o a:V} {x y:Value} {σ σ':Mem} {s:Shared} {r:V} {h:Heap} {t:MK} {vs:List V} {xs:List Value}
noncomputable def MK.T:MK→String
 | .L=>"list" | .D=>"dict" | .I=>"dict" | .S=>"str" | .B=>"bytes" | .O=>""
noncomputable def PlainAt (s:Shared) (t:MK) (x:Value):Prop:=s.TypeIs x t.T∧∀ a,x=.ref a→∃ ob,s.heap.get? a=some ob∧ob.dict=none
theorem plain_ref {c:Addr} {ob:Obj} (g:s.heap.get? c=some ob) (e:ob.cls=.type t.T) (d:ob.dict=none):PlainAt s t (.ref c):=⟨⟨ob,g,e⟩,fun b e=>Value.ref.inj e▸⟨ob,g,d⟩⟩
theorem pre_k {G:MK→Mem→Prop} (S:SR Z F Ψ σ s.heap) (ho:VR Z F o x) (q:preM o σ=some (t,σ')) (k:∀ t,(t=.O∧(∃ c xs,o=.inst c xs))∨(t≠.O∧PlainAt s t x)→G t σ):G t σ':=by
 have oth:(bnd (kind3 o) fun k=>match k with
  | .L=>ret .L
  | .D=>ret .D
  | .I=>ret .I
  | .N=>fail) σ=some (t,σ')→G t σ':=fun q=>bndK S ho q fun u p q=>match u,p,q with
   | .L,p,q=>p.elim fun a p=>p.elim fun b p=>ret_k q (k .L (.inr ⟨nofun,p.1▸plain_ref p.2.1 p.2.2.1 p.2.2.2⟩))
   | .D,p,q=>p.elim fun a p=>p.elim fun b p=>ret_k q (k .D (.inr ⟨nofun,p.1▸plain_ref p.2.1 p.2.2.1 p.2.2.2⟩))
   | .I,p,q=>p.elim fun a p=>p.elim fun b p=>ret_k q (k .I (.inr ⟨nofun,p.1▸plain_ref p.2.1 p.2.2.1 p.2.2.2⟩))
   | .N,p,q=>nn q
 cases o with
 | inst c xs=>exact ret_k q (k .O (.inl ⟨rfl,c,xs,rfl⟩))
 | str i=>exact ret_k q (k .S (.inr ⟨nofun,ho (PlainAt s .S) fun u=>⟨rfl,nofun⟩⟩))
 | byts i=>exact ret_k q (k .B (.inr ⟨nofun,ho (PlainAt s .B) fun u=>⟨rfl,nofun⟩⟩))
 | _=>exact oth q
theorem slot_of {f:Str} {id:String} (h:idOf t f=some id):PlainAttrs t.T∧Slot t.T f id∧typeOf (.builtin id)=pure (.type "method_descriptor"):=by
 have no:∀ {G:Prop} {id},(none:Option String)=some id→G:=fun h=>nn h
 have if1:∀ {g:Str} {id':String} {o:Option String} {G:Prop},(if f=g then some id' else o)=some id→(f=g→id'=id→G)→(o=some id→G)→G:=fun {g _ _ _} h k1 k2=>if e:f=g then k1 e (Option.some.inj ((if_pos e).symm.trans h)) else k2 ((if_neg e).symm.trans h)
 cases t with
 | L=>exact if1 h (fun e e'=>e'▸e▸⟨PySem.F.plainAttrs_list,PySem.F.slot_list_append,PySem.F.type_list_append⟩) fun h=>if1 h (fun e e'=>e'▸e▸⟨PySem.F.plainAttrs_list,PySem.F.slot_list_extend,PySem.F.type_list_extend⟩) fun h=>if1 h (fun e e'=>e'▸e▸⟨PySem.F.plainAttrs_list,PySem.F.slot_list_pop,PySem.F.type_list_pop⟩) no
 | D=>exact if1 h (fun e e'=>e'▸e▸⟨PySem.F.plainAttrs_dict,PySem.F.slot_dict_get,PySem.F.type_dict_get⟩) fun h=>if1 h (fun e e'=>e'▸e▸⟨PySem.F.plainAttrs_dict,PySem.F.slot_dict_pop,PySem.F.type_dict_pop⟩) fun h=>if1 h (fun e e'=>e'▸e▸⟨PySem.F.plainAttrs_dict,PySem.F.slot_dict_update,PySem.F.type_dict_update⟩) no
 | I=>exact if1 h (fun e e'=>e'▸e▸⟨PySem.F.plainAttrs_dict,PySem.F.slot_dict_get,PySem.F.type_dict_get⟩) no
 | S=>exact if1 h (fun e e'=>e'▸e▸⟨PySem.F.plainAttrs_str,PySem.F.slot_str_join,PySem.F.type_str_join⟩) no
 | B=>exact if1 h (fun e e'=>e'▸e▸⟨FB.plainAttrs_bytes,FB.slot_bytes_startswith,FB.type_bytes_startswith⟩) no
 | O=>exact nn h
theorem getMeth_sound {f:Str} {id:String} {pl:Sem Bool} (p:PlainAt s t x) (hid:idOf t f=some id) {Q:Value×List Value→Shared→Prop} (h:Q (.builtin id,[x]) s):wpAny (Md Z) A (getMethod x f pl) Q Fls s:=
 have w:=slot_of hid
 getMethod_builtin p.1 w.1 w.2.1 w.2.2 p.2 h
theorem ER.dele {k:Str} {es kvs} (r:ER Z F es kvs) (n:(kvs.map (·.1)).Nodup):ER Z F (del es k) (without kvs k):=by
 induction es generalizing kvs with
 | nil=>exact r (fun kvs=>ER Z F [] (without kvs k)) .nil
 | cons e es ih=>
  refine r (fun kvs=>(kvs.map (·.1)).Nodup→ER Z F (del (e::es) k) (without kvs k)) (fun y ys p r n=>?_) n
  have n':=List.nodup_cons.mp n
  by_cases hk:e.1=k
  ·have e1:del (e::es) k=es:=if_pos hk
   have e2:without ((e.1,y)::ys) k=ys:=by
    unfold without
    rw [List.filter_cons,if_neg (by rw [decide_eq_false (not_not_intro hk)];exact Bool.false_ne_true)]
    exact List.filter_eq_self.mpr fun p hp=>decide_eq_true (hk▸not_key n'.1 p hp)
   rw [e1,e2]
   exact r
  ·have e1:del (e::es) k=(e.1,e.2)::del es k:=if_neg hk
   have e2:without ((e.1,y)::ys) k=(e.1,y)::without ys k:=by
    unfold without
    rw [List.filter_cons,if_pos (decide_eq_true hk)]
   rw [e1,e2]
   exact .cons p (ih r n'.2)
theorem del_len (k:Str) (es:List (Str×V)):(del es k).length≤es.length:=by
 induction es with
 | nil=>exact Nat.le_refl _
 | cons e es ih=>
  show (if e.1=k then es else (e.1,e.2)::del es k).length≤_
  split
  ·exact Nat.le_succ _
  ·exact Nat.succ_le_succ ih
theorem del_none {k:Str} {es:List (Str×V)} (h:asc es k=none):del es k=es:=by
 induction es with
 | nil=>rfl
 | cons e es ih=>
  have h:(if e.1=k then some e.2 else asc es k)=none:=h
  by_cases hk:e.1=k
  ·rw [if_pos hk] at h;cases h
  ·rw [if_neg hk] at h
   exact (if_neg hk).trans (congrArg (e::·) (ih h))
theorem strs_at {ss:List Str} {ws:List V} {zs:List Value} (l:VRs Z F ws zs) (e:strsOf ws=some ss):StrsAre zs ss:=by
 induction ws generalizing zs ss with
 | nil=>exact l (fun zs=>StrsAre zs ss) (Option.some.inj e▸.nil)
 | cons u ws ih=>exact l (fun zs=>StrsAre zs ss) fun y ys p l=>p.oStr (G:=fun _ y=>StrsAre (y::ys) ss) e fun i t e=>obk e fun ss' e1 e=>Option.some.inj e▸.cons i t (ih l e1)
theorem VRs.rev {ws:List V} {zs:List Value} (l:VRs Z F ws zs):VRs Z F ws.reverse zs.reverse:=by
 induction ws generalizing zs with
 | nil=>exact l (fun zs=>VRs Z F [] zs.reverse) .nil
 | cons u ws ih=>
  refine l (fun zs=>VRs Z F (u::ws).reverse zs.reverse) fun y ys p l=>?_
  rw [List.reverse_cons,List.reverse_cons]
  exact (ih l).append (.cons p .nil)
theorem sub_bytes_tuple:isSubtype (.type "bytes") (.type "tuple")=pure false:=by rw [isSubtype_type];kernel_rfl
theorem startswith_gives (b p:Array UInt8) (t u:Tok):Gives (Builtin.«bytes.startswith» ⟨[.bytes b t,.bytes p u],[]⟩) (.val (.bool (if (min (b.size:Int) b.size-0<(p.size:Int)) then false else b.extract 0 (0+p.size) == p))):=by
 refine .of_wp fun M A E s Q hq=>?_
 unfold Builtin.«bytes.startswith» Builtin.Bytes.tailMatchM
 refine wpAny_bind (wpAny_of_eq (a:=(Value.bytes b t,[Value.bytes p u])) rfl (wpAny_bind (wpAny_of_eq (a:=none) rfl (wpAny_bind (wpAny_of_eq (a:=none) rfl (wpAny_bind (wpAny_of_eq (a:=b) rfl (wpAny_bind (wpAny_isInstance (typeIs_bytes s p u) sub_bytes_tuple ?_)))))))))
 rw [if_neg Bool.false_ne_true]
 exact wpAny_bind (wpAny_of_eq KBy.buffer_eq (wpAny_pure ⟨_,rfl,hq⟩))
theorem starts_eq (b p:List UInt8):(if (min (b.toArray.size:Int) b.toArray.size-0<(p.toArray.size:Int)) then false else b.toArray.extract 0 (0+p.toArray.size) == p.toArray)=(decide (p.length≤b.length)&&b.take p.length == p):=by
 simp only [List.size_toArray,Int.min_self,Int.sub_zero,Int.ofNat_lt,Nat.zero_add,List.extract_toArray]
 by_cases h:b.length<p.length
 ·rw [if_pos h,decide_eq_false (Nat.not_le.mpr h),Bool.false_and]
 ·rw [if_neg h,decide_eq_true (Nat.not_lt.mp h),Bool.true_and]
  simp [List.extract_eq_take_drop]
theorem list_room {xs:List V} {vs:List Value} (l:VRs Z F xs vs) (z:xs.length≤cap):vs.toArray.size≤sizeLine:=by
 rw [List.size_toArray,l.length];exact Nat.le_trans z (Nat.le_of_lt capLine)
noncomputable def MG (Z:Sta) (A:Around) (Ψ:Pv) (F:Fz) (s:Shared) (f:Value) (r:V) (σ:Mem) (xs:List Value):Prop:=wpAny (Md Z) A (call f xs) (PR Z Ψ (VR Z) F s σ r) Fls s
theorem mg_some {b:V} {σ₁:Mem} {f:Value} (q:some (b,σ₁)=some (r,σ')) (k:MG Z A Ψ F s f b σ₁ xs):MG Z A Ψ F s f r σ' xs:=ret_k (a:=b) (σ:=σ₁) (G:=fun r σ'=>MG Z A Ψ F s f r σ' xs) q k
theorem mg_ret {b:V} {f:Value} (q:ret b σ=some (r,σ')) (k:MG Z A Ψ F s f b σ xs):MG Z A Ψ F s f r σ' xs:=ret_k (G:=fun r σ'=>MG Z A Ψ F s f r σ' xs) q k
theorem app_sound {c:Nat} {v:V} (S:SR Z F Ψ σ s.heap) (ho:VR Z F (.cell c) x) (hv:VR Z F v y) (q:mApp c v σ=some (r,σ')):MG Z A Ψ F s (.builtin "list.append") r σ' [x,y]:=
 atL_k (G:=fun w=>σ[c]?=w→MG Z A Ψ F s (.builtin "list.append") r σ' [x,y]) q (fun ws q e=>listCell S ho (G:=fun x=>MG Z A Ψ F s (.builtin "list.append") r σ' [x,y]) e fun a us m hc p1 p2 g z l=>ifo_k q fun hz q=>mg_some q
  (call_meets PySem.F.slot_list_append ⟨_,g,rfl⟩ PySem.F.entry_list_append (PySem.F.args_list_append_2 _ _) (PySem.AutoListH.list_append_list_val_0 a us.toArray m _ (list_room l z)) ⟨g,.same (setList (ws:=us++[y]) S hc p1 p2 g (List.push_toArray _ _) (l.append (.cons hv .nil)) ((List.length_append ..).symm▸hz)) .none⟩)) rfl
theorem ext_sound {c:Nat} {v:V} (S:SR Z F Ψ σ s.heap) (ho:VR Z F (.cell c) x) (hv:VR Z F v y) (q:uList v (fun ys=>mExt c ys σ)=some (r,σ')):MG Z A Ψ F s (.builtin "list.extend") r σ' [x,y]:=
 hv.oList (G:=fun _ y=>MG Z A Ψ F s (.builtin "list.extend") r σ' [x,y]) q fun ys b ws k z2 g2 l2 q=>atL_k (G:=fun w=>σ[c]?=w→MG Z A Ψ F s (.builtin "list.extend") r σ' [x,.ref b]) q (fun xs q e=>listCell S ho (G:=fun x=>MG Z A Ψ F s (.builtin "list.extend") r σ' [x,.ref b]) e fun a us m hc p1 p2 g z l=>ifo_k q fun hz q=>mg_some q (by
  have hn:us.toArray.size+ws.toArray.size≤sizeLine:=by rw [List.size_toArray,List.size_toArray,l.length,l2.length];exact Nat.le_trans (Nat.le_of_lt hz) (Nat.le_of_lt capLine)
  refine call_meets PySem.F.slot_list_extend ⟨_,g,rfl⟩ PySem.F.entry_list_extend (PySem.F.args_list_extend_2 _ _) (PySem.AutoSeq1.list_extend_list_list_0 a us.toArray m _ _ _ ?_ (by first|exact list_room l2 z2|exact hn|exact list_room l z|exact Nat.le_succ_of_le hn) (by first|exact hn|exact list_room l z|exact list_room l2 z2|exact Nat.le_succ_of_le hn)) ⟨g,S.frz _ _ g2,.same (setList (ws:=us++ws) S hc p1 p2 g (by simp) (l.append l2) ((List.length_append ..).symm▸Nat.le_of_lt hz)) .none⟩
  simp only [Builtin.List.listTooLong,Bool.and_eq_true,decide_eq_true_eq,not_and]
  intro _;lia)) rfl
theorem rev_cons {α:Type} {l r:List α} {v:α} (e:l.reverse=v::r):l=r.reverse++[v]:=by rw [← List.reverse_cons,← e,List.reverse_reverse]
theorem popL_k {α:Type} {l:List V} {k:V→List V→Option α} {r:α} {G:List V→Prop} (q:popL l k=some r) (g:∀ v w,k v w=some r→G (v::w)):G l:=by
 cases l with
 | nil=>exact nn q
 | cons v w=>exact g v w q
theorem pop_sound {c:Nat} (S:SR Z F Ψ σ s.heap) (ho:VR Z F (.cell c) x) (q:mPop c σ=some (r,σ')):MG Z A Ψ F s (.builtin "list.pop") r σ' [x]:=
 atL_k (G:=fun w=>σ[c]?=w→MG Z A Ψ F s (.builtin "list.pop") r σ' [x]) q (fun ws q e=>popL_k (G:=fun l=>ws.reverse=l→MG Z A Ψ F s (.builtin "list.pop") r σ' [x]) q (fun v w q er=>listCell S ho (G:=fun x=>MG Z A Ψ F s (.builtin "list.pop") r σ' [x]) e fun a us m hc p1 p2 g z l=>mg_some q (by
  have lr:=l.rev
  rw [er] at lr
  refine lr (fun rs=>us.reverse=rs→_) (fun y ys hv lr' eu=>?_) rfl
  have hus:=rev_cons eu
  have hz:w.reverse.length≤cap:=by
   rw [rev_cons er,List.length_append] at z
   exact Nat.le_trans (Nat.le_add_right ..) z
  have hr:=list_room l z
  subst hus
  refine call_meets PySem.F.slot_list_pop ⟨_,g,rfl⟩ PySem.F.entry_list_pop (PySem.F.args_list_pop_1 _) (PySem.MeetsSeq.list_pop_last a _ m y (by simp) hr) ⟨g,.same (setList (ws:=ys.reverse) S hc p1 p2 g ?_ lr'.rev hz) hv⟩
  apply Array.toList_inj.mp
  rw [Array.toList_eraseIdxIfInBounds]
  simp only [List.size_toArray,List.length_append,List.length_reverse,List.length_cons,List.length_nil]
  rw [List.eraseIdx_append_of_length_le (by simp)]
  simp)) rfl) rfl
theorem pop0_sound {c:Nat} {t:Tok} (S:SR Z F Ψ σ s.heap) (ho:VR Z F (.cell c) x) (q:mPop0 c σ=some (r,σ')):MG Z A Ψ F s (.builtin "list.pop") r σ' [x,.int 0 t]:=
 atL_k (G:=fun w=>σ[c]?=w→MG Z A Ψ F s (.builtin "list.pop") r σ' [x,.int 0 t]) q (fun ws q e=>popL_k (G:=fun l=>σ[c]?=some (.list l)→MG Z A Ψ F s (.builtin "list.pop") r σ' [x,.int 0 t]) q (fun v w q e=>listCell S ho (G:=fun x=>MG Z A Ψ F s (.builtin "list.pop") r σ' [x,.int 0 t]) e fun a us m hc p1 p2 g z l=>mg_some q (by
  have hr:=list_room l z
  refine l (fun us=>s.heap.get? a=some (lstObj us m)→us.toArray.size≤sizeLine→MG Z A Ψ F s (.builtin "list.pop") v (σ.set c (.list w)) [.ref a,.int 0 t]) (fun y ys hv l' g hr=>?_) g hr
  exact call_meets PySem.F.slot_list_pop ⟨_,g,rfl⟩ PySem.F.entry_list_pop (PySem.F.args_list_pop_2 _ _) (PySem.MeetsSeq.list_pop_at a _ m 0 _ 0 y (by decide) (by simp [seqIndex?]) (by simp) hr) ⟨g,.same (setList (ws:=ys) S hc p1 p2 g (by
   apply Array.toList_inj.mp
   rw [Array.toList_eraseIdxIfInBounds]
   simp) l' (Nat.le_of_succ_le z)) hv⟩)) e) rfl
theorem dd_type {K:Type} [DecidableEq K] {kd:KeyKind Z.prog Z.w K} {c:Addr} {ob:Obj} {es:List (K×V)} {kvs:List (K×Value)} (g:s.heap.get? c=some ob) (d:DD kd c ob es kvs):s.TypeIs (.ref c) "dict":=⟨ob,g,d.1.elim fun _ d=>d.elim fun _ d=>d.1.1⟩
theorem popk_sound {c:Nat} {k:Str} {t:Tok} (S:SR Z F Ψ σ s.heap) (ho:VR Z F (.cell c) x) (q:mPopK c k σ=some (r,σ')):MG Z A Ψ F s (.builtin "dict.pop") r σ' [x,.str k t,.none]:=
 atD_k (G:=fun w=>σ[c]?=w→MG Z A Ψ F s (.builtin "dict.pop") r σ' [x,.str k t,.none]) q (fun es q e=>sdCell S ho (G:=fun x=>MG Z A Ψ F s (.builtin "dict.pop") r σ' [x,.str k t,.none]) e fun a ob kvs hc p1 p2 g d l=>mg_some q (by
  have hT:s.TypeIs (.ref a) "dict":=(dd_type g d)
  cases ek:asc es k with
  | some v=>
   exact ((l.at k).som v ek).elim fun w p=>call_meetsIn PySem.F.slot_dict_pop hT PySem.F.entry_dict_pop (PySem.F.args_dict_pop_3 _ _ _) (meets_dict_pop_there (sk Z) _ (k:=k) (strKind_is Z.prog Z.w k t) [Value.none] (.inr ⟨_,rfl⟩) rfl) ⟨kvs,w,Heap.dictOf_iff.mpr ⟨ob,g,d.1⟩,l.length▸Nat.le_trans d.2.2 (Nat.le_of_lt capLine),p.1,fun h' d' e'=>
    .same (setSd S hc p1 p2 d.2.1 d' e' (Nat.le_trans (del_len ..) d.2.2) (l.dele (dictNodup d.1))) p.2⟩
  | none=>
   exact call_meetsIn PySem.F.slot_dict_pop hT PySem.F.entry_dict_pop (PySem.F.args_dict_pop_3 _ _ _) (meets_dict_pop_default (sk Z) _ (k:=k) (strKind_is Z.prog Z.w k t) d.2.1 rfl Value.none) ⟨kvs,Heap.dictOf_iff.mpr ⟨ob,g,d.1⟩,(l.at k).non ek,
    .same (S.setC hc p1 p2 (Heap.SameBut.refl _ _) ⟨_,g⟩ (.live p1 p2 g ⟨kvs,(del_none ek).symm▸d,(del_none ek).symm▸l⟩)) .none⟩)) rfl
theorem upd_sound {c:Nat} {v:V} (S:SR Z F Ψ σ s.heap) (ho:VR Z F (.cell c) x) (hv:VR Z F v y) (q:uDict v (fun fs=>mUpd c fs σ)=some (r,σ')):MG Z A Ψ F s (.builtin "dict.update") r σ' [x,y]:=
 hv.oDict (G:=fun _ y=>MG Z A Ψ F s (.builtin "dict.update") r σ' [x,y]) q fun fs b ob2 kvs2 hs2 hz2 g2 d2 l2 q=>atD_k (G:=fun w=>σ[c]?=w→MG Z A Ψ F s (.builtin "dict.update") r σ' [x,.ref b]) q (fun es q e=>sdCell S ho (G:=fun x=>MG Z A Ψ F s (.builtin "dict.update") r σ' [x,.ref b]) e fun a ob kvs hc p1 p2 g d l=>ifo_k q fun hz q=>mg_some q
  (call_meetsIn PySem.F.slot_dict_update (dd_type g d) PySem.F.entry_dict_update (PySem.F.args_dict_update_2 _ _) (meets_dict_update (sk Z) a b (fun e=>nomatch (e▸p1).symm.trans g2) hs2) ⟨kvs,kvs2,Heap.dictOf_iff.mpr ⟨ob,g,d.1⟩,Heap.dictOf_iff.mpr ⟨ob2,S.frz _ _ g2,d2⟩,by rw [l.length,l2.length];exact Nat.le_trans (Nat.le_of_lt hz) (Nat.le_of_lt capLine),fun h' d' _ e'=>
   .same (setSd S hc p1 p2 d.2.1 (d' |> (merged_all kvs2 kvs).subst (motive:=fun w=>h'.DictOf (sk Z) a w)) e' (Nat.le_trans (stoAll_len ..) (Nat.le_of_lt hz)) (ER.storedAll l2 (dictNodup d.1) l)) .none⟩)) rfl
end
section
variable {Z:Sta} {A:Around} {Ψ:Pv} {F F₀:Fz} {n:Nat} {o a d:V} {x y z:Value} {σ σ':Mem} {s:Shared} {r:V} {h:Heap} {t:MK} {vs:List V} {xs:List Value} {id:String}
theorem get1_sound (hT:s.TypeIs x "dict") (S:SR Z F Ψ σ s.heap) (ho:VR Z F o x) (ha:VR Z F a y) (q:get1 o a σ=some (r,σ')):MG Z A Ψ F s (.builtin "dict.get") r σ' [x,y]:=
 ha.oStr (G:=fun _ y=>MG Z A Ψ F s (.builtin "dict.get") r σ' [x,y]) q fun k t q=>bndD S ho (G:=fun x=>s.TypeIs x "dict"→MG Z A Ψ F s (.builtin "dict.get") r σ' [x,.str k t]) q (fun c es ob kvs g dd l q hT=>mg_ret q
  (call_meetsIn PySem.F.slot_dict_get hT PySem.F.entry_dict_get (PySem.F.args_dict_get_2 _ _) (meets_dict_get (knd:=sk Z) (k:=k) (hkey:=strKind_is Z.prog Z.w k _) (hd:=dd.2.1)) ⟨_,mapOf g dd.1,.same S ((l.at k).getD .none)⟩)) hT
theorem get2_sound (hT:s.TypeIs x "dict") (S:SR Z F Ψ σ s.heap) (ho:VR Z F o x) (ha:VR Z F a y) (hd:VR Z F d z) (q:get2 o d a σ=some (r,σ')):MG Z A Ψ F s (.builtin "dict.get") r σ' [x,y,z]:=by
 cases a with
 | str k=>
  exact ha (fun y=>MG Z A Ψ F s (.builtin "dict.get") r σ' [x,y,z]) fun t=>bndD S ho (G:=fun x=>s.TypeIs x "dict"→MG Z A Ψ F s (.builtin "dict.get") r σ' [x,.str k t,z]) q (fun c es ob kvs g dd l q hT=>mg_ret q
   (call_meetsIn PySem.F.slot_dict_get hT PySem.F.entry_dict_get (PySem.F.args_dict_get_3 _ _ _) (meets_dict_get_default (knd:=sk Z) (k:=k) (hkey:=strKind_is Z.prog Z.w k _) (hd:=dd.2.1) (dflt:=_)) ⟨_,mapOf g dd.1,.same S ((l.at k).getD hd)⟩)) hT
 | int k=>
  exact ha (fun y=>MG Z A Ψ F s (.builtin "dict.get") r σ' [x,y,z]) fun t=>bndI S ho (G:=fun x=>s.TypeIs x "dict"→MG Z A Ψ F s (.builtin "dict.get") r σ' [x,.int k t,z]) q (fun c es ob kvs g dd l q hT=>mg_ret q
   (call_meetsIn PySem.F.slot_dict_get hT PySem.F.entry_dict_get (PySem.F.args_dict_get_3 _ _ _) (meets_dict_get_default (knd:=ik Z) (k:=k) (hkey:=intKind_is Z.prog Z.w k _) (hd:=dd.2.1) (dflt:=_)) ⟨_,mapOf g dd.1,.same S ((l.at k).getD hd)⟩)) hT
 | _=>exact nn q
theorem join_sound {sep:Str} {t:Tok} (S:SR Z F Ψ σ s.heap) (hv:VR Z F a y) (q:mJoin sep a σ=some (r,σ')):MG Z A Ψ F s (.builtin "str.join") r σ' [.str sep t,y]:=
 bndL S hv (G:=fun y=>MG Z A Ψ F s (.builtin "str.join") r σ' [.str sep t,y]) q fun c ys ws n g _ l q=>bndl q fun ss e q=>if_k q fun hz q=>mg_ret q
  (join_listW (isList g) (strs_at l e) hz.2 hz.1 fun t' k=>.same S ((StrLaws.glued_eq_join sep ss:Txt.join sep ss=Str.join sep ss)▸.str _ _))
theorem start_sound {b p:List UInt8} {t u:Tok} (S:SR Z F Ψ σ s.heap) (q:mStart b p σ=some (r,σ')):MG Z A Ψ F s (.builtin "bytes.startswith") r σ' [.bytes b.toArray t,.bytes p.toArray u]:=
 mg_ret q (call_gives FB.slot_bytes_startswith rfl FB.entry_bytes_startswith (FB.args_bytes_startswith_2 _ _) (startswith_gives _ _ _ _) (starts_eq b p▸.here S (.bool _)))
theorem pre_cell' {c:Nat} {ob:Ob} {k:K3} {t':MK} (e:σ[c]?=some ob) (hk:(match some ob with
  | some (.list _)=>some (K3.L,σ)
  | some (.sd _)=>some (.D,σ)
  | some (.lent _)=>some (.D,σ)
  | some (.id _)=>some (.I,σ)
  | _=>Option.none)=some (k,σ)) (ht:(match k with
  | .L=>(ret .L:M MK)
  | .D=>ret .D
  | .I=>ret .I
  | .N=>fail) σ=some (t',σ)) (q:preM (.cell c) σ=some (t,σ')):t=t':=by
 have q:bnd (kind3 (.cell c)) (fun k=>match k with
  | .L=>ret .L
  | .D=>ret .D
  | .I=>ret .I
  | .N=>fail) σ=some (t,σ'):=q
 refine bnd_k q fun k' σ₁ q1 q2=>?_
 have q1:(match σ[c]? with
  | some (.list _)=>some (K3.L,σ)
  | some (.sd _)=>some (.D,σ)
  | some (.lent _)=>some (.D,σ)
  | some (.id _)=>some (.I,σ)
  | _=>Option.none)=some (k',σ₁):=q1
 rw [e] at q1
 have e1:=Prod.mk.inj (Option.some.inj (q1.symm.trans hk))
 rw [e1.1,e1.2] at q2
 exact (Prod.mk.inj (Option.some.inj (q2.symm.trans ht))).1
theorem atL_pre {c:Nat} {k:List V→Option α} {w:α} (q:atL σ[c]? k=some w) (q0:preM (.cell c) σ=some (t,σ')):t=.L:=atL_k (G:=fun o=>σ[c]?=o→t=.L) q (fun _ _ e=>pre_cell' e rfl rfl q0) rfl
theorem atD_pre {c:Nat} {k:List (Str×V)→Option α} {w:α} (q:atD σ[c]? k=some w) (q0:preM (.cell c) σ=some (t,σ')):t=.D:=atD_k (G:=fun o=>σ[c]?=o→t=.D) q (fun _ _ e=>pre_cell' e rfl rfl q0) rfl
theorem id_append (h:idOf t (S "append")=some id):id = "list.append":=by cases t <;> first|exact (Option.some.inj h).symm|exact nn h
theorem id_extend (h:idOf t (S "extend")=some id):id = "list.extend":=by cases t <;> first|exact (Option.some.inj h).symm|exact nn h
theorem id_update (h:idOf t (S "update")=some id):id = "dict.update":=by cases t <;> first|exact (Option.some.inj h).symm|exact nn h
theorem id_join (h:idOf t (S "join")=some id):id = "str.join":=by cases t <;> first|exact (Option.some.inj h).symm|exact nn h
theorem id_starts (h:idOf t (S "startswith")=some id):id = "bytes.startswith":=by cases t <;> first|exact (Option.some.inj h).symm|exact nn h
theorem id_get (h:idOf t (S "get")=some id):id = "dict.get"∧t.T = "dict":=by cases t <;> first|exact ⟨(Option.some.inj h).symm,rfl⟩|exact nn h
theorem id_popL (h:idOf .L (S "pop")=some id):id = "list.pop":=(Option.some.inj h).symm
theorem id_popD (h:idOf .D (S "pop")=some id):id = "dict.pop":=(Option.some.inj h).symm
theorem isZ_k {α:Type} {m:Int} {k:M α} {r} {G:Int→Prop} (q:isZ m k σ=some r) (g:k σ=some r→G 0):G m:=
 match m,q with
 | .ofNat 0,q=>g q
 | .ofNat (_+1),q=>nn q
 | .negSucc _,q=>nn q
theorem dNone_k {α:Type} {k:M α} {r} {G:V→Prop} (q:dNone a k σ=some r) (g:k σ=some r→G .none):G a:=by cases a <;> first|exact g q|exact nn q
theorem ite_or {c:Prop} [Decidable c] {m m':M α} {r} {G:Prop} (q:(if c then m else m':M α) σ=some r) (k1:c→m σ=some r→G) (k2:m' σ=some r→G):G:=if e:c then k1 e ((congrFun (if_pos e) σ).symm.trans q) else k2 ((congrFun (if_neg e) σ).symm.trans q)
theorem pops_sound {c:Nat} (S:SR Z F Ψ σ s.heap) (ho:VR Z F (.cell c) x) (hv:VRs Z F vs xs) (hid:idOf t (Mine.S "pop")=some id) (q0:preM (.cell c) σ=some (t,σ)) (q:mPops c vs σ=some (r,σ')):MG Z A Ψ F s (.builtin id) r σ' (x::xs):=
 match vs,q,hv with
 | [],q,hv=>hv (fun xs=>MG Z A Ψ F s (.builtin id) r σ' (x::xs)) (id_popL (atL_pre q q0▸hid)▸pop_sound S ho q)
 | [a],q,hv=>hv (fun xs=>MG Z A Ψ F s (.builtin id) r σ' (x::xs)) fun y xs ha l=>l (fun xs=>MG Z A Ψ F s (.builtin id) r σ' (x::y::xs)) (ha.oInt (G:=fun _ y=>MG Z A Ψ F s (.builtin id) r σ' [x,y]) q fun i t q=>isZ_k (G:=fun i=>MG Z A Ψ F s (.builtin id) r σ' [x,.int i t]) q fun q=>id_popL (atL_pre q q0▸hid)▸pop0_sound S ho q)
 | [a,b],q,hv=>hv (fun xs=>MG Z A Ψ F s (.builtin id) r σ' (x::xs)) fun y xs ha l=>l (fun xs=>MG Z A Ψ F s (.builtin id) r σ' (x::y::xs)) fun z xs hb l=>l (fun xs=>MG Z A Ψ F s (.builtin id) r σ' (x::y::z::xs)) (ha.oStr (G:=fun _ y=>MG Z A Ψ F s (.builtin id) r σ' [x,y,z]) q fun k t q=>
   dNone_k (G:=fun b=>VR Z F b z→MG Z A Ψ F s (.builtin id) r σ' [x,.str k t,z]) q (fun q hb=>hb (fun z=>MG Z A Ψ F s (.builtin id) r σ' [x,.str k t,z]) (id_popD (atD_pre q q0▸hid)▸popk_sound S ho q)) hb)
 | _::_::_::_,q,_=>nn q
theorem mGet_sound (hT:s.TypeIs x "dict") (S:SR Z F Ψ σ s.heap) (ho:VR Z F o x) (hv:VRs Z F vs xs) (q:mGet o vs σ=some (r,σ')):MG Z A Ψ F s (.builtin "dict.get") r σ' (x::xs):=
 match vs,q,hv with
 | [],q,_=>nn q
 | [a],q,hv=>hv (fun xs=>MG Z A Ψ F s (.builtin "dict.get") r σ' (x::xs)) fun y xs ha l=>l (fun xs=>MG Z A Ψ F s (.builtin "dict.get") r σ' (x::y::xs)) (get1_sound hT S ho ha q)
 | [a,b],q,hv=>hv (fun xs=>MG Z A Ψ F s (.builtin "dict.get") r σ' (x::xs)) fun y xs ha l=>l (fun xs=>MG Z A Ψ F s (.builtin "dict.get") r σ' (x::y::xs)) fun z xs hb l=>l (fun xs=>MG Z A Ψ F s (.builtin "dict.get") r σ' (x::y::z::xs)) (get2_sound hT S ho ha hb q)
 | _::_::_::_,q,_=>nn q
theorem biMeth_sound {f:Str} (p:PlainAt s t x) (S:SR Z F Ψ σ s.heap) (ho:VR Z F o x) (hv:VRs Z F vs xs) (hid:idOf t f=some id) (q0:preM o σ=some (t,σ)) (q:biMeth o f vs σ=some (r,σ')):MG Z A Ψ F s (.builtin id) r σ' (x::xs):=by
 have o1:∀ {f:V→M V},one vs f σ=some (r,σ')→(∀ a y,VR Z F a y→f a σ=some (r,σ')→MG Z A Ψ F s (.builtin id) r σ' [x,y])→MG Z A Ψ F s (.builtin id) r σ' (x::xs):=fun q k=>
  one_k (G:=fun vs=>VRs Z F vs xs→MG Z A Ψ F s (.builtin id) r σ' (x::xs)) q (fun a q ha=>ha (fun xs=>MG Z A Ψ F s (.builtin id) r σ' (x::xs)) fun y xs h l=>l (fun xs=>MG Z A Ψ F s (.builtin id) r σ' (x::y::xs)) (k a y h q)) hv
 have oc:∀ {k:Nat→M V},dCell o k σ=some (r,σ')→(∀ c,VR Z F (.cell c) x→preM (.cell c) σ=some (t,σ)→k c σ=some (r,σ')→MG Z A Ψ F s (.builtin id) r σ' (x::xs))→MG Z A Ψ F s (.builtin id) r σ' (x::xs):=fun q g=>
  uCell_k (G:=fun o=>VR Z F o x→preM o σ=some (t,σ)→MG Z A Ψ F s (.builtin id) r σ' (x::xs)) q (fun c q ho q0=>g c ho q0 q) ho q0
 refine ite_or q (fun e q=>oc q fun c ho _ q=>o1 q fun a y ha q=>id_append (e▸hid)▸app_sound S ho ha q) fun q=>ite_or q (fun e q=>oc q fun c ho _ q=>o1 q fun a y ha q=>id_extend (e▸hid)▸ext_sound S ho ha q) fun q=>
  ite_or q (fun e q=>oc q fun c ho q0 q=>pops_sound S ho hv (e▸hid) q0 q) fun q=>ite_or q (fun e q=>have w:id = "dict.get"∧t.T = "dict":=id_get (e▸hid);w.1▸mGet_sound (w.2▸p.1) S ho hv q) fun q=>
  ite_or q (fun e q=>oc q fun c ho _ q=>o1 q fun a y ha q=>id_update (e▸hid)▸upd_sound S ho ha q) fun q=>ite_or q (fun e q=>?_) fun q=>ite_or q (fun e q=>?_) fun q=>nn q
 ·exact ho.oStr (G:=fun _ x'=>x=x'→MG Z A Ψ F s (.builtin id) r σ' (x::xs)) q (fun i t q ex=>o1 q fun a y ha q=>id_join (e▸hid)▸ex▸join_sound S ha q) rfl
 ·exact ho.oByts (G:=fun _ x'=>x=x'→MG Z A Ψ F s (.builtin id) r σ' (x::xs)) q (fun i t q ex=>o1 q fun a y ha q=>ha.oByts (G:=fun _ y=>MG Z A Ψ F s (.builtin id) r σ' [x,y]) q fun j u q=>id_starts (e▸hid)▸ex▸start_sound S q) rfl
end
theorem bytes_no_index:typeLookup (.type "bytes") "__index__"=pure none:=by rw [typeLookup_type,builtinLookup_eq_fast];kernel_rfl
theorem find_byte (b:Array UInt8) (c:UInt8):(Builtin.Bytes.find? b #[c] 0 b.size).isSome=b.contains c:=by
 unfold Builtin.Bytes.find?
 rw [Bool.eq_iff_iff]
 simp only [List.find?_isSome,List.mem_map,List.mem_range,Array.contains_iff_mem,beq_iff_eq]
 constructor
 ·rintro ⟨x,⟨a,ha,rfl⟩,e⟩
  simp only [Array.size_singleton] at ha
  have hs:a+0<b.size:=by simp at ha;lia
  have:(b.extract (a+0) (a+0+(#[c]:Array UInt8).size))[0]?=some c:=by rw [e];rfl
  rw [Array.getElem?_extract] at this
  split at this
  ·exact Array.mem_of_getElem? this
  ·cases this
 ·intro h
  obtain ⟨i,hi,e⟩:=Array.getElem_of_mem h
  refine ⟨i,⟨i,by simp;lia,rfl⟩,?_⟩
  apply Array.ext
  ·simp;lia
  ·intro j h1 h2
   have:j=0:=by simp at h2;lia
   subst this
   simp [e]
theorem contains_meets (b:Array UInt8) (c:UInt8) (t u:Tok) :
  Meets (Builtin.«bytes.__contains__» ⟨[.bytes b t,.bytes #[c] u],[]⟩) (fun A R s=>A.handled=none∧∀ h' tk,(∀ x o,s.heap.get? x=some o→h'.get? x=some o)→R (.ok (.ret (.bool (b.contains c)))) { s with heap:=h',toks:=tk }):=
 Meets.of_wp fun prog w A R s hs=>by
  unfold Builtin.«bytes.__contains__»
  refine wpAny_bind (wpAny_of_eq (a:=(Value.bytes b t,[Value.bytes #[c] u])) rfl (wpAny_bind ?_))
  unfold Builtin.Bytes.containsIn
  refine wpAny_bind (wpAny_attempt ?_)
  unfold asIndex
  refine wpAny_bind (wpAny_of_eq (a:=none) rfl ?_)
  refine wpAny_bind (wpAny_callSpecial?_none (T:="bytes") rfl bytes_no_index ?_)
  refine wpAny_bind (wpAny_of_eq (a:="bytes") (by kernel_rfl) ?_)
  refine wpAny_raiseTypeError hs.1 (fun h' tk e hx=>?_)
  refine wpAny_bind (wpAny_of_eq KBy.buffer_eq (wpAny_bind (wpAny_of_eq KBy.buffer_eq (wpAny_bind (wpAny_rule (wpAny_pure (wpAny_pure ⟨_,rfl,?_⟩)))))))
  rw [find_byte]
  exact hs.2 h' tk hx.keeps
section
variable {Z:Sta} {A:Around} {Ψ:Pv} {F₀:Fz} {a b:V} {x y:Value}
theorem byIn_sound (hh:A.handled=none) (neg:Bool) (c:UInt8) (h:List UInt8) (hx:VR Z F₀ (.byts [c]) x) (hy:VR Z F₀ (.byts h) y) :
  Sn Z A Ψ F₀ VB (compareOp (if neg then .NotIn else .In) x y) (ret (neg ^^ h.contains c)):=hx (fun x=>Sn Z A Ψ F₀ VB (compareOp (if neg then .NotIn else .In) x y) _) fun t=>hy (fun y=>Sn Z A Ψ F₀ VB (compareOp (if neg then .NotIn else .In) _ y) _) fun u F σ r σ' s E S q=>
 ret_k (G:=fun r σ'=>wpAny (Md Z) A (compareOp (if neg then .NotIn else .In) (.bytes [c].toArray t) (.bytes h.toArray u)) (PR Z Ψ VB F s σ' r) Fls s) q (by
  have key:∀ Q:Bool→Shared→Prop,(∀ h' tk,(∀ x o,s.heap.get? x=some o→h'.get? x=some o)→Q (h.contains c) { s with heap:=h',toks:=tk })→wpAny (Md Z) A (contains (.bytes h.toArray u) (.bytes [c].toArray t)) Q Fls s:=fun Q hQ=>
   wpAny_contains_slot (T:="bytes") rfl FB.slot_bytes_contains (call_meets FB.slot_bytes_contains rfl FB.entry_bytes_contains (FB.args_bytes_contains_2 _ _) (contains_meets h.toArray c _ _) ⟨hh,fun h' tk hk=>wpAny_truthy_bool (List.contains_toArray (l:=h) (a:=c)▸hQ h' tk hk)⟩)
  cases neg with
  | false=>
   show wpAny _ _ (contains _ _ >>= fun r=>pure (Value.bool r)) _ _ s
   exact wpAny_bind (key _ fun h' tk hk=>wpAny_pure (.same (S.grow hk) (congrArg Value.bool (Bool.false_xor _).symm)))
  | true=>
   show wpAny _ _ (contains _ _ >>= fun r=>pure (Value.bool !r)) _ _ s
   exact wpAny_bind (key _ fun h' tk hk=>wpAny_pure (.same (S.grow hk) (congrArg Value.bool (Bool.true_xor _).symm))))
theorem cmpV_sound' (hh:A.handled=none) (hu:A.units+8<cLine) {o:Cop} (ha:VR Z F₀ a x) (hb:VR Z F₀ b y):Sn Z A Ψ F₀ VB (compareOp (copOf o) x y) (cmpV o a b):=
 cmpV_sound hu (fun neg c h e1 e2=>byIn_sound hh neg c h (e1▸ha) (e2▸hb)) ha hb
end
noncomputable def NsO (o:Obj) (m:Str→Option Value):Prop:=∃ es ep,o.data=.dict es ep∧StrKeys es∧∀ name,nsFind es name=m name
theorem NsO.ns {o:Obj} {m} (x:NsO o m) {h:Heap} {a:Addr} (g:h.get? a=some o):h.Ns a m:=x.elim fun es x=>x.elim fun ep x=>⟨o,es,ep,g,x.1,x.2.1,x.2.2⟩
theorem NsO.of {h:Heap} {a:Addr} {m} (x:h.Ns a m):∃ o,h.get? a=some o∧NsO o m:=x.elim fun o x=>x.elim fun es x=>x.elim fun ep x=>⟨o,x.1,es,ep,x.2.1,x.2.2.1,x.2.2.2⟩
noncomputable def CellO (o:Obj) (v:Option Value):Prop:=o.data=.cell v
theorem CellO.is {o:Obj} {v} (x:CellO o v) {h:Heap} {a:Addr} (g:h.get? a=some o):h.IsCell a v:=⟨o,g,x⟩
theorem CellO.of {h:Heap} {a:Addr} {v} (x:h.IsCell a v):∃ o,h.get? a=some o∧CellO o v:=x
structure Fr where
 env:Env
 sc:Sc
 nm:Nm
inductive NameAt (Ψ:Pv) (env:Env) (x:Str) (val:Value):Prop
 | loc {o m b}:env.kindOf x=some .local→Ψ env.locals=some (o,b)→NsO o m→m x=some val→NameAt Ψ env x val
 | cel {c o b}:(env.kindOf x=some .cell∨env.kindOf x=some .free)→env.cells.lookup x=some c→Ψ c=some (o,b)→CellO o (some val)→NameAt Ψ env x val
structure EnvR (Z:Sta) (Ψ:Pv) (F:Fz) (f:Fr) (ρ:Env'):Prop where
 fn:f.env.scope.kind=.function
 gl:f.env.globals=mainGlobals
 bl:f.env.builtins=builtinsNs
 kd:∀ x k,f.sc.lookup x=some k→∃ k',f.env.kindOf x=some k'∧(k'=k∨(k=.free∧k'=.cell))
 dis:∀ x c,f.env.cells.lookup x=some c→c≠f.env.locals
 inj:∀ x y c,f.env.cells.lookup x=some c→f.env.cells.lookup y=some c→x=y
 has:∀ x,f.env.kindOf x=some .cell∨f.env.kindOf x=some .free→∃ c,f.env.cells.lookup x=some c
 cin:∀ x c,f.env.cells.lookup x=some c→∃ o,Ψ c=some o
 rd:∀ x i v,isVar f.sc f.nm x i=true→ρ[i]?=some v→v≠.unb→∃ val,VR Z F v val∧NameAt Ψ f.env x val
noncomputable def Sub (Ψ Ψ':Pv):Prop:=∀ a o,Ψ a=some o→Ψ' a=some o
theorem hSub (Ψ:Pv):Sub Ψ Ψ:=fun _ _ h=>h
theorem NameAt.sub {Ψ Ψ' env x val} (h:NameAt Ψ env x val) (s:Sub Ψ Ψ'):NameAt Ψ' env x val:=NameAt.rec (motive:=fun _=>NameAt Ψ' env x val) (fun k e n h=>.loc k (s _ _ e) n h) (fun k l e h=>.cel k l (s _ _ e) h) h
theorem EnvR.mono {Z Ψ F F' Ψ' f ρ} (h:EnvR Z Ψ F f ρ) (e:Ext F F') (s:Sub Ψ Ψ'):EnvR Z Ψ' F' f ρ:=
 ⟨h.fn,h.gl,h.bl,h.kd,h.dis,h.inj,h.has,fun x c l=>(h.cin x c l).elim fun o e=>⟨o,s _ _ e⟩,fun x i v a b c=>(h.rd x i v a b c).elim fun val p=>⟨val,p.1.mono e,p.2.sub s⟩⟩
theorem EnvR.ext {Z Ψ F F' f ρ} (h:EnvR Z Ψ F f ρ) (e:Ext F F'):EnvR Z Ψ F' f ρ:=h.mono e (hSub Ψ)
structure GlobsOK (Z:Sta):Prop where
 val:∀ (g:Nat) (x:Str) (v:V),globNm[g]?=some x→globs[g]?=some v→∃ val,(Z.mg x=some val∨(Z.mg x=none∧Z.mb x=some val))∧∀ F:Fz,(∀ a o,Z.h₀.get? a=some o→F.o a=some o)→VR Z F v val
 g:Z.h₀.Ns mainGlobals Z.mg
 b:Z.h₀.Ns builtinsNs Z.mb
structure MethsOK (Z:Sta):Prop where
 at_:∀ c n k,methOf c n=some k→c<7∧c≠3∧findIn Z.K (.ref (Z.ca c)) n=some (some (.ref (Z.fa k)))∧typeIn Z.K (.ref (Z.fa k))=some (.type "function")∧n∉clsFields c
noncomputable def CallsOK (Z:Sta) (C:Calls) (n:Nat):Prop:=∀ A,Room A n→∀ (Ψ:Pv) (F:Fz) (xs:List Value) (vs:List V),VRs Z F vs xs→
 (∀ k,Sn Z A Ψ F (VR Z) (call (.ref (Z.fa k)) xs) (C k vs))∧(∀ c,Sn Z A Ψ F (VR Z) (call (.ref (Z.ca c)) xs) (C (100+c) vs))
structure Keepers (Z:Sta) (C:Calls):Prop where
 fn:∀ k vs σ r,C k vs σ=some r→keepIn Z.K (.ref (Z.fa k))=true
 cls:∀ c vs σ r,C (100+c) vs σ=some r→keepIn Z.K (.ref (Z.ca c))=true
structure CC (Z:Sta) (A:Around) (C:Calls) (n:Nat):Prop where
 X:Z.K.In Z.h₀
 O:KOK Z.K Z.ca
 G:GlobsOK Z
 M:MethsOK Z
 mod:∃ o,Z.h₀.get? sysModules=some o
 rm:Room A n
 calls:CallsOK Z C n
 keep:Keepers Z C
section
variable {Z:Sta} {A:Around} {Ψ:Pv} {F:Fz} {n:Nat} {C:Calls} {f:Fr} {ρ:Env'} {x:Str} {i:Nat} {pos:Pos} {sc:Sc} {nm:Nm}
theorem ork {a b:Bool} {G:Prop} (h:(a || b)=true) (k1:a=true→G) (k2:b=true→G):G:=match a,h with
 | true,_=>k1 rfl
 | false,h=>k2 h
theorem notk {a:Bool} {G:Prop} (h:(!a)=true) (k:a=false→G):G:=match a,h with
 | false,_=>k rfl
 | true,h=>nomatch h
theorem isVar_kind (h:isVar sc nm x i=true):∃ k,sc.lookup x=some k∧(k=.local∨k=.cell∨k=.free)∧nm.lookup x=some i∧(x == ("__debug__":Str))=false∧(x == ("__classdict__":Str))=false:=
 andk h fun h h4=>andk h fun h h3=>andk h fun h h2=>notk h3 fun h3=>notk h4 fun h4=>ork h (fun h=>ork h (fun h=>⟨_,eq_of_beq h,.inl rfl,eq_of_beq h2,h3,h4⟩) fun h=>⟨_,eq_of_beq h,.inr (.inl rfl),eq_of_beq h2,h3,h4⟩) fun h=>⟨_,eq_of_beq h,.inr (.inr rfl),eq_of_beq h2,h3,h4⟩
theorem getv_k {σ σ':Mem} {r:V} {G:Mem→Prop} (q:getv ρ i σ=some (r,σ')) (k:ρ[i]?=some r→r≠.unb→G σ):G σ':=by
 have q:(match ρ[i]? with
  | some V.unb=>Option.none
  | some v=>some (v,σ)
  | Option.none=>Option.none)=some (r,σ'):=q
 cases e:ρ[i]? with
 | none=>rw [e] at q;exact nn q
 | some v=>
  rw [e] at q
  have go:some (v,σ)=some (r,σ')→v≠.unb→G σ':=fun q hv=>(Prod.mk.inj (Option.some.inj q)).2▸k (e.trans (congrArg some (Prod.mk.inj (Option.some.inj q)).1)) ((Prod.mk.inj (Option.some.inj q)).1▸hv)
  cases v with
  | unb=>exact nn q
  | _=>exact go q V.noConfusion
theorem name_sound (R:EnvR Z Ψ F f ρ) (h:isVar f.sc f.nm x i=true):Sn Z A Ψ F (VR Z) (eval (.Name x pos) f.env) (getv ρ i):=fun F' σ r σ' s E S q=>getv_k (G:=fun σ'=>wpAny (Md Z) A (eval (.Name x pos) f.env) (PR Z Ψ (VR Z) F' s σ' r) Fls s) q fun e hu=>by
 rw [arm_eval_Name]
 refine wpAny_bind (wpAny_standAt ?_)
 refine (isVar_kind h).elim fun k w=>(R.rd x i r h e hu).elim fun val p=>?_
 rw [if_neg (by rw [w.2.2.2.1];exact Bool.false_ne_true)]
 have fin:PR Z Ψ (VR Z) F' s σ r val s:=.here S (p.1.mono E)
 cases p.2 with
 | loc k e hm hx=>exact wpAny_loadName_local R.fn k (hm.ns (S.frm _ _ _ e)) hx fin
 | cel k l e hc=>exact k.elim (fun k=>wpAny_loadName_cell R.fn k l (hc.is (S.frm _ _ _ e)) fin) fun k=>wpAny_loadName_free R.fn k l (hc.is (S.frm _ _ _ e)) fin w.2.2.2.2
theorem glob_sound {g:Nat} (CX:CC Z A C n) (R:EnvR Z Ψ F f ρ) (h:isGlob f.sc x=true) (hg:globNm[g]?=some x):Sn Z A Ψ F (VR Z) (eval (.Name x pos) f.env) (lft globs[g]?):=fun F' σ r σ' s E S q=>
 lft_k (G:=fun r σ'=>wpAny (Md Z) A (eval (.Name x pos) f.env) (PR Z Ψ (VR Z) F' s σ' r) Fls s) q fun r e=>andk h fun h1 h2=>notk h2 fun h2=>(CX.G.val g x r hg e).elim fun val p=>(R.kd x _ (eq_of_beq h1)).elim fun k' w=>by
  have hk':k'=.globalImplicit:=w.2.elim id fun h=>nomatch h.1
  have fin:PR Z Ψ (VR Z) F' s σ r val s:=.here S (p.2 F' S.sta)
  have hN:s.heap.Ns f.env.globals Z.mg:=R.gl▸CX.G.g.keeps S.keep
  exact Name_function_global R.fn (hk'▸w.1) (p.1.elim (fun hm=>loadGlobal_global hN hm fin) fun hm=>loadGlobal_builtin hN hm.1 (R.bl▸CX.G.b.keeps S.keep) hm.2 fin) h2
theorem chkE_starred {a:PySem.Expr} {p:Pos} (me:ME):chkE sc nm me (.Starred a p)=false:=
 ME.rec (motive_1:=fun me=>chkE sc nm me (.Starred a p)=false) (motive_2:=fun _=>True) (motive_3:=fun _=>True) rfl rfl rfl (fun _=>rfl) (fun _=>rfl) (fun _=>rfl) (fun _=>rfl) (fun _=>rfl) (fun _=>rfl) (fun _ _=>rfl) (fun _ _ _=>rfl) (fun _ _ _ _=>rfl) (fun _ _ _ _ _ _=>rfl) (fun _ _=>rfl) (fun _ _=>rfl) (fun _ _=>rfl)
  (fun _ _ _ _ _ _=>rfl) (fun _ _ _ _ _=>rfl) (fun _ _ _ _ _ _ _ _=>rfl) (fun _ _ _ _=>rfl) (fun _ _ _ _=>rfl) (fun _ _ _ _ _=>rfl) (fun _ _ _=>rfl) (fun _ _ _ _=>rfl) (fun _ _ _ _=>rfl) (fun _ _ _ _ _ _ _ _=>rfl) (fun _ _ _ _ _ _ _ _ _=>rfl) (fun _ ih=>ih) (fun _ _=>trivial) (fun _ _=>trivial) trivial (fun _ _ _ _=>trivial) me
theorem chk_star {me:ME} {e:PySem.Expr} (h:chkE sc nm me e=true) (r:List PySem.Expr) (env:Env):starEach (e::r) env=(false,eval e env)::starEach r env:=by
 cases e <;> first|rfl|exact absurd (h.symm.trans (chkE_starred me)) Bool.noConfusion
noncomputable def EvG (Z:Sta) (A:Around) (C:Calls) (Ψ:Pv) (F:Fz) (f:Fr) (ρ:Env') (me:ME) (e:PySem.Expr):Prop:=Sn Z A Ψ F (VR Z) (eval e f.env) (ev C me ρ)
noncomputable def TsG (Z:Sta) (A:Around) (C:Calls) (Ψ:Pv) (F:Fz) (f:Fr) (ρ:Env') (me:ME) (e:PySem.Expr):Prop:=Sn Z A Ψ F BR (isTrue e f.env (eval e f.env)) (bnd (ev C me ρ) truth)
noncomputable abbrev EvS (Z:Sta) (A:Around) (C:Calls) (me:ME):Prop:=∀ (Ψ:Pv) (F:Fz) (f:Fr) (ρ:Env') (e:PySem.Expr),chkE f.sc f.nm me e=true→EnvR Z Ψ F f ρ→EvG Z A C Ψ F f ρ me e
noncomputable abbrev TsS (Z:Sta) (A:Around) (C:Calls) (me:ME):Prop:=∀ (Ψ:Pv) (F:Fz) (f:Fr) (ρ:Env') (e:PySem.Expr),chkE f.sc f.nm me e=true→EnvR Z Ψ F f ρ→TsG Z A C Ψ F f ρ me e
noncomputable abbrev EsS (Z:Sta) (A:Around) (C:Calls) (es:MEs):Prop:=∀ (Ψ:Pv) (F:Fz) (f:Fr) (ρ:Env') (xs:List PySem.Expr) (pos:Pos),chkEs f.sc f.nm es xs=true→EnvR Z Ψ F f ρ→Sn Z A Ψ F (VRs Z) (spliced (backTo pos (starEach xs f.env))) (evs C es ρ)
noncomputable abbrev AllTs (Z:Sta) (A:Around) (C:Calls):MEs→Prop
 | .nil=>True
 | .cons e es=>EvS Z A C e∧TsS Z A C e∧AllTs Z A C es
theorem truth_k {v:V} {b:Bool} {σ σ':Mem} {G:V→Mem→Prop} (q:truth v σ=some (b,σ')) (k:G (.bool b) σ):G v σ':=uBool_k (G:=fun v=>G v σ') q fun i q=>ret_k (G:=fun b σ'=>G (.bool b) σ→G (.bool i) σ') q id k
theorem truth_sound {v:V} {x:Value} (h:VR Z F v x):Sn Z A Ψ F BR (truthy x) (truth v):=fun F' σ r σ' s E S q=>
 truth_k (G:=fun v σ'=>VR Z F' v x→wpAny (Md Z) A (truthy x) (PR Z Ψ BR F' s σ' r) Fls s) q (fun h=>h (fun x=>wpAny (Md Z) A (truthy x) (PR Z Ψ BR F' s σ r) Fls s) (wpAny_truthy_bool (.here S rfl))) (h.mono E)
noncomputable def special (e:PySem.Expr):Bool:=Nat.beq e.ctorIdx 0 || (Nat.beq e.ctorIdx 5 || (Nat.beq e.ctorIdx 15 || xUnaryOp e fun o _ _=>decide (o=.Not)))
theorem test_of {e:PySem.Expr} {env:Env} (h:special e=false):isTrue e env (eval e env)=(do let v←eval e env;standAt e.pos;holding [v] (truthy v)):=by
 cases e with
 | UnaryOp o x p=>cases o <;> first|rfl|cases h
 | BoolOp=>cases h
 | IfExp=>cases h
 | Compare=>cases h
 | _=>rfl
theorem ts_plain {me:ME} (h:EvS Z A C me) (hf:∀ (e:PySem.Expr) (sc:Sc) (nm:Nm),chkE sc nm me e=true→special e=false):TsS Z A C me:=fun Ψ F f ρ e hc R=>by
 unfold TsG
 rw [test_of (hf e _ _ hc)]
 exact (h Ψ F f ρ e hc R).bind fun F v x E hv=>Sn.stand (t:=fun _=>holding [x] (truthy x)) (Sn.holding (truth_sound hv))
theorem evs_nil:EsS Z A C .nil:=fun Ψ F f ρ xs pos h R=>nilk (G:=fun xs=>Sn Z A Ψ F (VRs Z) (spliced (backTo pos (starEach xs f.env))) (evs C .nil ρ)) h (Sn.pure fun _ _=>.nil)
theorem evs_cons {e:ME} {es:MEs} (h1:EvS Z A C e) (h2:EsS Z A C es):EsS Z A C (.cons e es):=fun Ψ F f ρ xs pos h R=>lck (G:=fun xs=>Sn Z A Ψ F (VRs Z) (spliced (backTo pos (starEach xs f.env))) (evs C (.cons e es) ρ)) h fun x xs h=>andk h fun c1 c2 F' σ r σ' s E S q=>by
 have hs:backTo pos (starEach (x::xs) f.env)=(false,eval x f.env)::backTo pos (starEach xs f.env):=congrArg (backTo pos) (chk_star c1 xs f.env)
 rw [hs]
 exact bnd_k q fun v σ₁ q1 q=>bnd_k q fun vs σ₂ q2 q=>ret_k (G:=fun r σ'=>wpAny (Md Z) A (spliced ((false,eval x f.env)::backTo pos (starEach xs f.env))) (PR Z Ψ (VRs Z) F' s σ' r) Fls s) q
  (spliced_cons (wpPR (h1 Ψ F f ρ x c1 R F' σ v σ₁ s E S q1) fun y s₁ F₁ p hv=>wpPR (h2 Ψ F₁ f ρ xs pos c2 (R.ext (E.trans p.e)) F₁ σ₁ vs _ _ (Ext.refl _) p.S q2) fun ys s₂ F₂ p2 hvs=>(p.trans p2).pr (.cons (hv.mono p2.e) hvs)))
theorem ev_none:EvS Z A C .none:=fun Ψ F f ρ e h R=>xConstantk (G:=EvG Z A C Ψ F f ρ .none) h fun c k p h=>eqk (G:=fun c=>EvG Z A C Ψ F f ρ .none (.Constant c k p)) h (Sn.pure fun _ _=>.none)
theorem ev_tru:EvS Z A C .tru:=fun Ψ F f ρ e h R=>xConstantk (G:=EvG Z A C Ψ F f ρ .tru) h fun c k p h=>eqk (G:=fun c=>EvG Z A C Ψ F f ρ .tru (.Constant c k p)) h (Sn.pure fun _ _=>.bool _)
theorem ev_fls:EvS Z A C .fls:=fun Ψ F f ρ e h R=>xConstantk (G:=EvG Z A C Ψ F f ρ .fls) h fun c k p h=>eqk (G:=fun c=>EvG Z A C Ψ F f ρ .fls (.Constant c k p)) h (Sn.pure fun _ _=>.bool _)
theorem ev_int {i:Nat}:EvS Z A C (.int i):=fun Ψ F f ρ e h R=>xConstantk (G:=EvG Z A C Ψ F f ρ (.int i)) h fun c k p h=>eqk (G:=fun c=>EvG Z A C Ψ F f ρ (.int i) (.Constant c k p)) h (Sn.val fun s Q hq=>wpAny_mkInt (hq _ _ fun _=>.int _ _))
theorem ev_str {i:Str}:EvS Z A C (.str i):=fun Ψ F f ρ e h R=>xConstantk (G:=EvG Z A C Ψ F f ρ (.str i)) h fun c k p h=>eqk (G:=fun c=>EvG Z A C Ψ F f ρ (.str i) (.Constant c k p)) h (Sn.val fun s Q hq=>wpAny_mkText (hq _ _ fun _=>.str _ _))
theorem ev_byts {i:List UInt8}:EvS Z A C (.byts i):=fun Ψ F f ρ e h R=>xConstantk (G:=EvG Z A C Ψ F f ρ (.byts i)) h fun c k p h=>eqk (G:=fun c=>EvG Z A C Ψ F f ρ (.byts i) (.Constant c k p)) h (Sn.val fun s Q hq=>W.Constant_bytes (hq _ _ fun _=>.byts _ _))
theorem ev_neg {i:Nat}:EvS Z A C (.neg i):=fun Ψ F f ρ e h R=>xUnaryOpk (G:=EvG Z A C Ψ F f ρ (.neg i)) h fun o x p h=>andk h fun h1 h2=>eqk (G:=fun o=>EvG Z A C Ψ F f ρ (.neg i) (.UnaryOp o x p)) h1 <| xConstantk (G:=fun x=>EvG Z A C Ψ F f ρ (.neg i) (.UnaryOp .USub x p)) h2 fun c k p' h=>eqk (G:=fun c=>EvG Z A C Ψ F f ρ (.neg i) (.UnaryOp .USub (.Constant c k p') p)) h <| by
 show Sn Z A Ψ F (VR Z) (eval _ f.env) _
 rw [arm_eval_UnaryOp]
 exact Sn.val fun s Q hq=>wpAny_bind (wpAny_mkInt (wpAny_bind (wpAny_standAt (wpAny_holding (PyProof.Rows.neg_int (hq _ _ fun _=>.int _ _))))))
theorem ev_var {i:Nat}:EvS Z A C (.var i):=fun Ψ F f ρ e h R=>xNamek (G:=EvG Z A C Ψ F f ρ (.var i)) h fun x p h=>name_sound R h
theorem ev_glob {g:Nat} (CX:CC Z A C n):EvS Z A C (.glob g):=fun Ψ F f ρ e h R=>xNamek (G:=EvG Z A C Ψ F f ρ (.glob g)) h fun x p h=>andk h fun h1 h2=>glob_sound CX R h1 (of_decide_eq_true h2)
theorem frz_sound {v r:V} {y:Value} {F₁:Fz} {σ σ':Mem} {s s₁:Shared} (p:Stp Z Ψ F s F₁ σ s₁) (hv:VR Z F₁ v y) (q:frzV v σ=some (r,σ')):PR Z Ψ (VR Z) F s σ' r y s₁:=
 hv.oCell (G:=fun _ y=>PR Z Ψ (VR Z) F s σ' r y s₁) q fun i a g q=>by
  have q:(match σ[i]? with
   | some (.list xs)=>some (V.list xs,σ.set i .dead)
   | some (.sd es)=>some (V.dict es,σ.set i .dead)
   | _=>Option.none)=some (r,σ'):=q
  cases e:σ[i]? with
  | none=>rw [e] at q;exact nn q
  | some o=>
   rw [e] at q
   cases o with
   | list xs=>exact (p.S.cel i a _ g e).inv fun vs k p1 p2 hg hz l=>ret_k (a:=V.list xs) (σ:=σ.set i .dead) (G:=fun r σ'=>PR Z Ψ (VR Z) F s σ' r (.ref a) s₁) q (Stp.pr ⟨p.c,p.e.trans (Ext.put p1),p.S.freeze g p1 p2 hg⟩ (.list hz (put_self ..) (l.mono (Ext.put p1))))
   | sd es=>exact (p.S.cel i a _ g e).inv fun o kvs p1 p2 hg d l=>ret_k (a:=V.dict es) (σ:=σ.set i .dead) (G:=fun r σ'=>PR Z Ψ (VR Z) F s σ' r (.ref a) s₁) q (Stp.pr ⟨p.c,p.e.trans (Ext.put p1),p.S.freeze g p1 p2 hg⟩ (.dict d.2.1 d.2.2 (put_self ..) d.1 (l.mono (Ext.put p1))))
   | _=>exact nn q
theorem ev_frz {a:ME} (ha:EvS Z A C a):EvS Z A C (.frz a):=fun Ψ F f ρ e h R F' σ r σ' s E S q=>bnd_k q fun v σ₁ q1 q2=>wpPR (ha Ψ F f ρ e h R F' σ v σ₁ s E S q1) fun x s₁ F₁ p hv=>frz_sound p hv q2
end
theorem bnd_assoc {α β γ:Type} (m:M α) (f:α→M β) (g:β→M γ):bnd (bnd m f) g=bnd m fun a=>bnd (f a) g:=by
 funext σ
 unfold bnd
 cases m σ <;> rfl
theorem bnd_some {α β:Type} {m:M α} {f:α→M β} {σ σ' a r} (q1:m σ=some (a,σ')) (q2:f a σ'=some r):bnd m f σ=some r:=by
 unfold bnd
 rw [q1]
 exact q2
section
variable {Z:Sta} {A:Around} {n:Nat} {C:Calls}
noncomputable abbrev EvW (Z:Sta) (A:Around) (Ψ:Pv) (F:Fz) (s:Shared) (r:V) (σ:Mem) (t:Sem Value):Prop:=wpAny (Md Z) A t (PR Z Ψ (VR Z) F s σ r) Fls s
theorem ev_tup {es:MEs} (ha:EsS Z A C es):EvS Z A C (.tup es):=fun Ψ F f ρ e h R=>xTuplek (G:=EvG Z A C Ψ F f ρ (.tup es)) h fun xs k p h=>by
 show Sn Z A Ψ F (VR Z) (eval _ f.env) _
 rw [arm_eval_Tuple]
 exact Sn.stand (t:=fun _=>spliced (backTo _ (starEach _ f.env)) >>= fun vs=>newTuple vs) ((ha Ψ F f ρ xs p h R).then fun F' σ vs ys r σ' s E hv S q=>if_k q fun hz q=>ret_k (G:=fun r σ'=>EvW Z A Ψ F' s r σ' (newTuple ys)) q
  (wpAny_newTuple (.new (Ext.put S.new.fz) ((S.push _).addF S.new (Heap.get?_push_size _ rfl)) (.tup (Nat.le_trans (Nat.le_of_lt hz) (by decide)) (put_self ..) (hv.mono (Ext.put S.new.fz)))) (by rw [hv.length];exact Nat.le_trans (Nat.le_of_lt hz) (by decide))))
theorem ev_list {m:Bool} {es:MEs} (ha:EsS Z A C es):EvS Z A C (.list m es):=fun Ψ F f ρ e h R=>xListk (G:=EvG Z A C Ψ F f ρ (.list m es)) h fun xs p h=>by
 show Sn Z A Ψ F (VR Z) (eval _ f.env) _
 rw [arm_eval_List]
 exact Sn.stand (t:=fun _=>spliced (backTo _ (starEach _ f.env)) >>= fun vs=>newList vs) ((ha Ψ F f ρ xs p h R).then fun F' σ vs ys r σ' s E hv S q=>wpAny_newList (newL (S.push _) hv q S.new (Heap.get?_push_size _ rfl)) (by rw [hv.length];exact Nat.le_of_lt (Nat.lt_trans (mkL_len q) capLine)))
theorem ev_bin {o:Bop} {m:Bool} {a b:ME} (ha:EvS Z A C a) (hb:EvS Z A C b):EvS Z A C (.bin o m a b):=fun Ψ F f ρ e h R=>xBinOpk (G:=EvG Z A C Ψ F f ρ (.bin o m a b)) h fun l op r p h=>andk h fun h1 h=>andk h fun h2 h3=>eqk (G:=fun op=>EvG Z A C Ψ F f ρ (.bin o m a b) (.BinOp l op r p)) h1 <| by
 show Sn Z A Ψ F (VR Z) (eval _ f.env) _
 rw [arm_eval_BinOp]
 exact (ha Ψ F f ρ l h2 R).bind fun F₁ v x E hv=>(Sn.holding (hb Ψ F₁ f ρ r h3 (R.ext E))).bind fun F₂ w y E2 hw=>Sn.stand (t:=fun _=>operate [x,y] (binaryOp (opOf o) x y)) (Sn.operate (binV_sound (hv.mono E2) hw))
noncomputable def bm {β:Type} (c:Bool) (m1 m2:M β):M β:=match c with
 | true=>m1
 | false=>m2
theorem Sn.iff {α β:Type} {Ψ:Pv} {F₀:Fz} {R:Fz→β→α→Prop} {c d:Bool} {t1 t2:Sem α} {m1 m2:M β} (e:BR F₀ c d) (h1:Sn Z A Ψ F₀ R t1 m1) (h2:Sn Z A Ψ F₀ R t2 m2):Sn Z A Ψ F₀ R (if d=true then t1 else t2) (bm c m1 m2):=by
 have e:c=d:=e
 subst e
 cases c with
 | true=>rw [if_pos rfl];exact h1
 | false=>rw [if_neg Bool.false_ne_true];exact h2
theorem ev_ife {t a b:ME} (ht:TsS Z A C t) (ha:EvS Z A C a) (hb:EvS Z A C b):EvS Z A C (.ife t a b):=fun Ψ F f ρ e h R=>xIfExpk (G:=EvG Z A C Ψ F f ρ (.ife t a b)) h fun x y z p h=>andk h fun h1 h=>andk h fun h2 h3=>by
 show Sn Z A Ψ F (VR Z) (eval _ f.env) (bnd (ev C t ρ) fun x=>bnd (truth x) fun q=>bm q (ev C a ρ) (ev C b ρ))
 rw [arm_eval_IfExp,← bnd_assoc]
 exact Sn.bind (ht Ψ F f ρ x h1 R) fun F₁ c d E hc=>Sn.iff hc (ha Ψ F₁ f ρ y h2 (R.ext E)) (hb Ψ F₁ f ρ z h3 (R.ext E))
theorem bnd_match {α β:Type} {c:Bool} {m1 m2:M α} {g:α→M β}:bnd (bm c m1 m2) g=bm c (bnd m1 g) (bnd m2 g):=by cases c <;> rfl
theorem ts_ife {t a b:ME} (ht:TsS Z A C t) (ha:TsS Z A C a) (hb:TsS Z A C b):TsS Z A C (.ife t a b):=fun Ψ F f ρ e h R=>xIfExpk (G:=TsG Z A C Ψ F f ρ (.ife t a b)) h fun x y z p h=>andk h fun h1 h=>andk h fun h2 h3=>by
 show Sn Z A Ψ F BR (isTrue _ f.env (eval _ f.env)) (bnd (bnd (ev C t ρ) fun x=>bnd (truth x) fun q=>bm q (ev C a ρ) (ev C b ρ)) truth)
 rw [arm_isTrue_IfExp,← bnd_assoc,bnd_assoc]
 exact Sn.bind (ht Ψ F f ρ x h1 R) fun F₁ c d E hc=>bnd_match▸Sn.iff hc (ha Ψ F₁ f ρ y h2 (R.ext E)) (hb Ψ F₁ f ρ z h3 (R.ext E))
theorem ev_not {a:ME} (ha:EvS Z A C a):EvS Z A C (.not a):=fun Ψ F f ρ e h R=>xUnaryOpk (G:=EvG Z A C Ψ F f ρ (.not a)) h fun o x p h=>andk h fun h1 h=>eqk (G:=fun o=>EvG Z A C Ψ F f ρ (.not a) (.UnaryOp o x p)) h1 <| by
 show Sn Z A Ψ F (VR Z) (eval _ f.env) _
 rw [arm_eval_UnaryOp]
 exact (ha Ψ F f ρ x h R).bind fun F₁ v y E hv=>Sn.stand (t:=fun _=>holding [y] (unaryOp .Not y)) (Sn.holding fun F' σ r σ' s E' S q=>bnd_k q fun b σ₁ q1 q=>ret_k (G:=fun r σ'=>EvW Z A Ψ F' s r σ' (unaryOp .Not y)) q
  (PySem.not_value (wpPR (truth_sound hv F' σ b _ s E' S q1) fun c s₁ F₁ p e=>p.pr ((show b=c from e)▸.bool _))))
theorem ts_not {a:ME} (ha:TsS Z A C a):TsS Z A C (.not a):=fun Ψ F f ρ e h R=>xUnaryOpk (G:=TsG Z A C Ψ F f ρ (.not a)) h fun o x p h=>andk h fun h1 h=>eqk (G:=fun o=>TsG Z A C Ψ F f ρ (.not a) (.UnaryOp o x p)) h1 <| by
 have e:bnd (ev C (.not a) ρ) truth=bnd (bnd (ev C a ρ) truth) fun b=>ret (!b):=by
  show bnd (bnd (ev C a ρ) fun x=>bnd (truth x) fun b=>ret (.bool (!b))) truth=_
  rw [bnd_assoc,bnd_assoc]
  exact congrArg _ (funext fun v=>bnd_assoc _ _ _)
 unfold TsG
 rw [e,arm_isTrue_UnaryOp]
 exact Sn.bind (ha Ψ F f ρ x h R) fun F₁ c d E hc=>Sn.pure fun F' _=>congrArg (!·) hc
theorem mark_none {op:CmpOp} {e:PySem.Expr} {t:Sem Value} (h:noSet e=true):markedBehindIn op e t=t:=by
 cases e with
 | Set=>cases h
 | _=>rfl
theorem cmp_parts {o:Cop} {a b:ME} {Ψ:Pv} {F:Fz} {f:Fr} {ρ:Env'} {l r:PySem.Expr} {pos:Pos} (CX:CC Z A C n) (ha:EvS Z A C a) (hb:EvS Z A C b) (h2:chkE f.sc f.nm a l=true) (h3:chkE f.sc f.nm b r=true) (R:EnvR Z Ψ F f ρ) :
  Sn Z A Ψ F VB (eval l f.env >>= fun x=>holding [x] (eval r f.env) >>= fun y=>standAt pos >>= fun _=>operate [x,y] (compareOp (copOf o) x y)) (bnd (ev C a ρ) fun x=>bnd (ev C b ρ) fun y=>cmpV o x y):=
 (ha Ψ F f ρ l h2 R).bind fun F₁ v x E hv=>(Sn.holding (hb Ψ F₁ f ρ r h3 (R.ext E))).bind fun F₂ w y E2 hw=>Sn.stand (t:=fun _=>operate [x,y] (compareOp (copOf o) x y)) (Sn.operate (cmpV_sound' CX.rm.hand CX.rm.u8 (hv.mono E2) hw))
theorem bnd2_assoc {α β γ δ:Type} (a:M α) (b:M β) (c:α→β→M γ) (g:γ→M δ):bnd (bnd a fun x=>bnd b fun y=>c x y) g=bnd a fun x=>bnd b fun y=>bnd (c x y) g:=(bnd_assoc ..).trans (congrArg _ (funext fun x=>bnd_assoc ..))
theorem ev_cmp {o:Cop} {a b:ME} (CX:CC Z A C n) (ha:EvS Z A C a) (hb:EvS Z A C b):EvS Z A C (.cmp o a b):=fun Ψ F f ρ e h R=>xComparek (G:=EvG Z A C Ψ F f ρ (.cmp o a b)) h fun l os rs pos h=>l1k (G:=fun os=>EvG Z A C Ψ F f ρ (.cmp o a b) (.Compare l os rs pos)) h fun op h=>l1k (G:=fun rs=>EvG Z A C Ψ F f ρ (.cmp o a b) (.Compare l [op] rs pos)) h fun r h=>andk h fun h1 h=>andk h fun h0 h=>andk h fun h2 h3=>
 eqk (G:=fun op=>EvG Z A C Ψ F f ρ (.cmp o a b) (.Compare l [op] [r] pos)) h1 <| by
 show Sn Z A Ψ F (VR Z) (eval _ f.env) (bnd (ev C a ρ) fun x=>bnd (ev C b ρ) fun y=>bnd (cmpV o x y) fun r=>ret (.bool r))
 rw [arm_eval_Compare,← bnd2_assoc]
 show Sn Z A Ψ F (VR Z) (eval l f.env >>= fun x=>compareChain pos x [copOf o] [markedBehindIn (copOf o) r (eval r f.env)]) _
 rw [mark_none h0]
 exact Sn.post (R:=VB) (g:=V.bool) (cmp_parts (pos:=pos) CX ha hb h2 h3 R) fun F' v x _ (e:x=.bool v)=>e▸.bool v
theorem ts_cmp {o:Cop} {a b:ME} (CX:CC Z A C n) (ha:EvS Z A C a) (hb:EvS Z A C b):TsS Z A C (.cmp o a b):=fun Ψ F f ρ e h R=>xComparek (G:=TsG Z A C Ψ F f ρ (.cmp o a b)) h fun l os rs pos h=>l1k (G:=fun os=>TsG Z A C Ψ F f ρ (.cmp o a b) (.Compare l os rs pos)) h fun op h=>l1k (G:=fun rs=>TsG Z A C Ψ F f ρ (.cmp o a b) (.Compare l [op] rs pos)) h fun r h=>andk h fun h1 h=>andk h fun h0 h=>andk h fun h2 h3=>
 eqk (G:=fun op=>TsG Z A C Ψ F f ρ (.cmp o a b) (.Compare l [op] [r] pos)) h1 <| by
 have e:bnd (ev C (.cmp o a b) ρ) truth=bnd (bnd (ev C a ρ) fun x=>bnd (ev C b ρ) fun y=>cmpV o x y) ret:=by
  show bnd (bnd (ev C a ρ) fun x=>bnd (ev C b ρ) fun y=>bnd (cmpV o x y) fun r=>ret (.bool r)) truth=_
  rw [← bnd2_assoc,bnd_assoc]
  rfl
 unfold TsG
 rw [e,arm_isTrue_Compare]
 show Sn Z A Ψ F BR (eval l f.env >>= fun x=>testChain pos x [copOf o] [markedBehindIn (copOf o) r (eval r f.env)]) _
 rw [mark_none h0,show (eval l f.env >>= fun x=>testChain pos x [copOf o] [eval r f.env])=((eval l f.env >>= fun x=>holding [x] (eval r f.env) >>= fun y=>standAt pos >>= fun _=>operate [x,y] (compareOp (copOf o) x y)) >>= fun c=>holding [c] (truthy c)) by
  rw [bind_assoc]
  exact congrArg _ (funext fun x=>(by simp only [bind_assoc];rfl))]
 exact Sn.bind (cmp_parts (pos:=pos) CX ha hb h2 h3 R) fun F' v x _ (e:x=.bool v)=>e▸Sn.holding (t:=truthy (.bool v)) fun F σ r σ' s E S q=>ret_k (G:=fun r σ'=>wpAny (Md Z) A (truthy (.bool v)) (PR Z Ψ BR F s σ' r) Fls s) q (wpAny_truthy_bool (.here S rfl))
end
section
variable {Z:Sta} {A:Around} {n:Nat} {C:Calls} {Ψ:Pv} {F F₀:Fz} {σ σ':Mem} {s:Shared} {r a i:V} {x y:Value}
theorem half_sound {p:Cop} {c:ME} {f:Fr} {ρ:Env'} {r':PySem.Expr} {pos:Pos} {w:V} (CX:CC Z A C n) (hc:EvS Z A C c) (h4:chkE f.sc f.nm c r'=true) (R:EnvR Z Ψ F f ρ) (hw:VR Z F w y) :
  Sn Z A Ψ F VB (holding [y] (eval r' f.env) >>= fun rv=>standAt pos >>= fun _=>operate [y,rv] (compareOp (copOf p) y rv)) (bnd (ev C c ρ) fun z=>cmpV p w z):=
 (Sn.holding (hc Ψ F f ρ r' h4 R)).bind fun F₂ u z E hu=>Sn.stand (t:=fun _=>operate [y,z] (compareOp (copOf p) y z)) (Sn.operate (cmpV_sound' CX.rm.hand CX.rm.u8 (hw.mono E) hu))
theorem Sn.released {α β:Type} {u v:List Value} {R:Fz→β→α→Prop} {t:Unit→Sem α} {m:M β} (h:Sn Z A Ψ F₀ R (t ()) m):Sn Z A Ψ F₀ R (release u v >>= t) m:=fun F σ r σ' s E S q=>wpAny_bind (wpAny_release (h F σ r σ' s E S q))
theorem truthy_b {b:Bool}:Sn Z A Ψ F₀ BR (truthy (.bool b)) (ret b):=fun F σ r σ' s E S q=>ret_k (G:=fun r σ'=>wpAny (Md Z) A (truthy (.bool b)) (PR Z Ψ BR F s σ' r) Fls s) q (wpAny_truthy_bool (.here S rfl))
theorem Sn.tested {α β:Type} {R:Fz→β→α→Prop} {vs:List Value} {d:Bool} {t1 t2:Sem α} {m1 m2:M β} (h1:Sn Z A Ψ F₀ R t1 m1) (h2:d=false→Sn Z A Ψ F₀ R t2 m2):Sn Z A Ψ F₀ R (PySem.holding vs (truthy (.bool d)) >>= fun t=>if t=true then t1 else t2) (bm d m1 m2):=fun F σ r σ' s E S q=>wpAny_bind (wpAny_holding (wpAny_truthy_bool (by
 cases d with
 | true=>rw [if_pos rfl];exact h1 F σ r σ' s E S q
 | false=>rw [if_neg Bool.false_ne_true];exact h2 rfl F σ r σ' s E S q)))
theorem ev_cmp2 {o p:Cop} {a b c:ME} (CX:CC Z A C n) (ha:EvS Z A C a) (hb:EvS Z A C b) (hc:EvS Z A C c):EvS Z A C (.cmp2 o p a b c):=fun Ψ F f ρ e h R=>xComparek (G:=EvG Z A C Ψ F f ρ (.cmp2 o p a b c)) h fun l os rs pos h=>l2k (G:=fun os=>EvG Z A C Ψ F f ρ (.cmp2 o p a b c) (.Compare l os rs pos)) h fun op op' h=>l2k (G:=fun rs=>EvG Z A C Ψ F f ρ (.cmp2 o p a b c) (.Compare l [op,op'] rs pos)) h fun r r' h=>
 andk h fun h1 h=>andk h fun h1' h=>andk h fun h0 h=>andk h fun h2 h=>andk h fun h3 h4=>eqk (G:=fun op=>EvG Z A C Ψ F f ρ (.cmp2 o p a b c) (.Compare l [op,op'] [r,r'] pos)) h1 <| eqk (G:=fun op'=>EvG Z A C Ψ F f ρ (.cmp2 o p a b c) (.Compare l [copOf o,op'] [r,r'] pos)) h1' <| by
 show Sn Z A Ψ F (VR Z) (eval _ f.env) (bnd (ev C a ρ) fun x=>bnd (ev C b ρ) fun y=>bnd (cmpV o x y) fun r=>bm r (bnd (ev C c ρ) fun z=>bnd (cmpV p y z) fun q=>ret (.bool q)) (ret (.bool false)))
 rw [arm_eval_Compare]
 show Sn Z A Ψ F (VR Z) (eval l f.env >>= fun x=>compareChain pos x [copOf o,copOf p] [eval r f.env,markedBehindIn (copOf p) r' (eval r' f.env)]) _
 rw [mark_none h0]
 refine (ha Ψ F f ρ l h2 R).bind fun F₁ v x E hv=>(Sn.holding (hb Ψ F₁ f ρ r h3 (R.ext E))).bind fun F₂ w y E2 hw=>Sn.stand (t:=fun _=>_) (Sn.bind (R₁:=VB) (Sn.holding (cmpV_sound' CX.rm.hand CX.rm.u8 (hv.mono E2) hw)) fun F₃ d z E3 (hz:z=.bool d)=>?_)
 subst hz
 exact Sn.released (t:=fun _=>_) (Sn.tested (bnd_assoc (ev C c ρ) _ _▸Sn.post (R:=VB) (g:=V.bool) (half_sound (pos:=pos) CX hc h4 (R.ext (E.trans (E2.trans E3))) (hw.mono E3)) fun F' v x _ (e:x=.bool v)=>e▸.bool v) fun e=>e▸Sn.pure fun _ _=>.bool _)
theorem ts_cmp2 {o p:Cop} {a b c:ME} (CX:CC Z A C n) (ha:EvS Z A C a) (hb:EvS Z A C b) (hc:EvS Z A C c):TsS Z A C (.cmp2 o p a b c):=fun Ψ F f ρ e h R=>xComparek (G:=TsG Z A C Ψ F f ρ (.cmp2 o p a b c)) h fun l os rs pos h=>l2k (G:=fun os=>TsG Z A C Ψ F f ρ (.cmp2 o p a b c) (.Compare l os rs pos)) h fun op op' h=>l2k (G:=fun rs=>TsG Z A C Ψ F f ρ (.cmp2 o p a b c) (.Compare l [op,op'] rs pos)) h fun r r' h=>
 andk h fun h1 h=>andk h fun h1' h=>andk h fun h0 h=>andk h fun h2 h=>andk h fun h3 h4=>eqk (G:=fun op=>TsG Z A C Ψ F f ρ (.cmp2 o p a b c) (.Compare l [op,op'] [r,r'] pos)) h1 <| eqk (G:=fun op'=>TsG Z A C Ψ F f ρ (.cmp2 o p a b c) (.Compare l [copOf o,op'] [r,r'] pos)) h1' <| by
 have e:bnd (ev C (.cmp2 o p a b c) ρ) truth=bnd (ev C a ρ) fun x=>bnd (ev C b ρ) fun y=>bnd (cmpV o x y) fun r=>bm r (bnd (bnd (ev C c ρ) fun z=>cmpV p y z) ret) (ret false):=by
  show bnd (bnd (ev C a ρ) fun x=>bnd (ev C b ρ) fun y=>bnd (cmpV o x y) fun r=>bm r (bnd (ev C c ρ) fun z=>bnd (cmpV p y z) fun q=>ret (.bool q)) (ret (.bool false))) truth=_
  rw [bnd2_assoc]
  refine congrArg _ (funext fun x=>congrArg _ (funext fun y=>(bnd_assoc ..).trans (congrArg _ (funext fun d=>bnd_match.trans ?_))))
  rw [← bnd_assoc,bnd_assoc]
  rfl
 unfold TsG
 rw [e,arm_isTrue_Compare]
 show Sn Z A Ψ F BR (eval l f.env >>= fun x=>testChain pos x [copOf o,copOf p] [eval r f.env,markedBehindIn (copOf p) r' (eval r' f.env)]) _
 rw [mark_none h0]
 refine (ha Ψ F f ρ l h2 R).bind fun F₁ v x E hv=>Sn.bind (t:=holding [x] (eval r f.env)) (Sn.holding (hb Ψ F₁ f ρ r h3 (R.ext E))) fun F₂ w y E2 hw=>Sn.stand (t:=fun _=>_) (Sn.bind (R₁:=VB) (Sn.holding (cmpV_sound' CX.rm.hand CX.rm.u8 (hv.mono E2) hw)) fun F₃ d z E3 (hz:z=.bool d)=>?_)
 subst hz
 refine Sn.released (t:=fun _=>_) (Sn.tested ?_ fun e=>Sn.pure fun _ _=>rfl)
 show Sn Z A Ψ F₃ BR (holding [y] (eval r' f.env) >>= fun rv=>standAt pos >>= fun _=>operate [y,rv] (compareOp (copOf p) y rv) >>= fun c=>holding [c] (truthy c)) _
 rw [show (holding [y] (eval r' f.env) >>= fun rv=>standAt pos >>= fun _=>operate [y,rv] (compareOp (copOf p) y rv) >>= fun c=>holding [c] (truthy c))=((holding [y] (eval r' f.env) >>= fun rv=>standAt pos >>= fun _=>operate [y,rv] (compareOp (copOf p) y rv)) >>= fun c=>holding [c] (truthy c)) by
  rw [bind_assoc]
  exact congrArg _ (funext fun x=>(bind_assoc ..).symm)]
 exact Sn.bind (half_sound (pos:=pos) CX hc h4 (R.ext (E.trans (E2.trans E3))) (hw.mono E3)) fun F' v x _ (e:x=.bool v)=>e▸Sn.holding truthy_b
theorem base_plain {v:PySem.Expr} {x:Str} {env:Env} {t:Sem Value} (h:plainBase v=true):attributeBase v x env t=t:=by
 cases v with
 | Call g _ _ _=>
  cases g with
  | Name=>cases h
  | _=>rfl
 | _=>rfl
theorem ev_attr {o:ME} {g:Str} (CX:CC Z A C n) (ha:EvS Z A C o):EvS Z A C (.attr o g):=fun Ψ F f ρ e h R=>xAttributek (G:=EvG Z A C Ψ F f ρ (.attr o g)) h fun v x p h=>andk h fun h0 h=>andk h fun h1 h2=>eqk (G:=fun x=>EvG Z A C Ψ F f ρ (.attr o g) (.Attribute v x p)) h0 <| by
 show Sn Z A Ψ F (VR Z) (eval _ f.env) _
 rw [arm_eval_Attribute,base_plain h1]
 exact (ha Ψ F f ρ v h2 R).bind fun F₁ u x E hv=>Sn.stand (t:=fun _=>_) fun F' σ r σ' s E' S q=>wpAny_bind (wpAny_holding (wpAny_mono (attrV_sound CX.X CX.O hv F' σ r σ' s E' S q) (fun y s₁ p=>wpAny_bind (wpAny_letTemporaryGo (wpAny_pure p))) fun _ _ z=>z))
noncomputable def HasItem (s:Shared) (x:Value):Prop:=∃ T id,s.TypeIs x T∧typeLookup (.type T) "__getitem__"=pure (some (.builtin id))
theorem HasItem.list (h:s.TypeIs x "list"):HasItem s x:=⟨_,_,h,slot_list_getitem.lookup⟩
theorem HasItem.dict (h:s.TypeIs x "dict"):HasItem s x:=⟨_,_,h,slot_dict_getitem.lookup⟩
theorem k3_item {t:K3} (p:K3At s.heap x t) (h:t≠.N):HasItem s x:=match t,p,h with
 | .L,p,_=>p.elim fun a p=>p.elim fun o p=>p.1▸.list ⟨o,p.2.1,p.2.2.1⟩
 | .D,p,_=>p.elim fun a p=>p.elim fun o p=>p.1▸.dict ⟨o,p.2.1,p.2.2.1⟩
 | .I,p,_=>p.elim fun a p=>p.elim fun o p=>p.1▸.dict ⟨o,p.2.1,p.2.2.1⟩
 | .N,_,h=>absurd rfl h
theorem itemO_type {w:V×Mem} {k:Int} (S:SR Z F Ψ σ s.heap) (ha:VR Z F a x) (q:bnd (kind3 a) (fun q=>match q with
  | .L=>bnd (rdList a) fun xs=>idx xs k
  | .I=>bnd (rdId a) fun es=>lft (ascI es k)
  | _=>fail) σ=some w):HasItem s x:=bndK S ha q fun t p q=>k3_item p (fun e=>nn (e▸q))
theorem itemI_type {w:V×Mem} {k:Int} (S:SR Z F Ψ σ s.heap) (ha:VR Z F a x) (q:itemI a k σ=some w):HasItem s x:=by
 cases a with
 | tup=>exact ha (HasItem s) fun c vs n z g l=>⟨_,_,⟨_,S.frz _ _ g,rfl⟩,slot_tuple_getitem.lookup⟩
 | _=>exact itemO_type (k:=k) S ha q
theorem item_type {w:V×Mem} (S:SR Z F Ψ σ s.heap) (ha:VR Z F a x) (q:getItemV a i σ=some w):HasItem s x:=by
 cases i with
 | int k=>exact itemI_type S ha q
 | str k=>exact bndD S ha (G:=HasItem s) q fun c es o kvs g d l q=>.dict ⟨o,g,d.1.elim fun _ d=>d.elim fun _ d=>d.1.1⟩
 | _=>exact nn q
theorem sub_plain {slice:PySem.Expr} {o i:Value} (h:noSlice slice=true):subscripted slice false o i=operate [o,i] (getItem o i):=by
 cases slice with
 | Slice=>cases h
 | _=>rfl
theorem ev_sub {a i:ME} (ha:EvS Z A C a) (hi:EvS Z A C i):EvS Z A C (.sub a i):=fun Ψ F f ρ e h R=>xSubscriptk (G:=EvG Z A C Ψ F f ρ (.sub a i)) h fun v x p h=>andk h fun h1 h=>andk h fun h2 h3=>by
 show Sn Z A Ψ F (VR Z) (eval _ f.env) _
 rw [arm_eval_Subscript]
 exact (ha Ψ F f ρ v h2 R).bind fun F₁ v x E hv=>(Sn.holding (hi Ψ F₁ f ρ _ h3 (R.ext E))).bind fun F₂ w y E2 hw=>Sn.stand (t:=fun _=>_) fun F' σ r σ' s E' S q=>(item_type S (hv.mono (E2.trans E')) q).elim fun T p=>p.elim fun id p=>tail_any p.1 p.2 (getItemV_sound (hv.mono E2) hw F' σ r σ' s E' S q) (sub_plain h1)
theorem cast_min (a b:Nat):((min a b:Nat):Int)=min (a:Int) b:=(Nat.le_total a b).elim (fun h=>by rw [Nat.min_eq_left h,Int.min_eq_left (Int.ofNat_le.mpr h)]) fun h=>by rw [Nat.min_eq_right h,Int.min_eq_right (Int.ofNat_le.mpr h)]
theorem upto_eq (y:Int) (n:Nat) (h:0≤y):max 0 (min y n)=((min y.toNat n:Nat):Int):=(Int.max_eq_right (Int.le_min.mpr ⟨h,Int.natCast_nonneg n⟩)).trans ((cast_min ..).trans (congrArg (min · _) (Int.toNat_of_nonneg h))).symm
theorem pick_upto (vs:List Value) {y:Int} (h:0≤y):slicePick vs.toArray none (some y) none=(vs.take y.toNat).toArray:=by
 have e:sliceBounds none (some y) none vs.toArray.size=(((0:Nat):Int),((min y.toNat vs.toArray.size:Nat):Int),1):=by
  simp only [sliceBounds,Option.getD_none,show (1:Int)>0 by decide,if_true,if_neg (Int.not_lt.mpr h)]
  congr 1
  congr 1
  exact upto_eq y _ h
 rw [kmk_pick_nat _ e]
 show ((vs.drop 0).take (min y.toNat vs.toArray.size-0)).toArray=_
 rw [List.drop_zero,Nat.sub_zero,List.size_toArray,kmk_take_min]
theorem VRs.take {xs:List V} {vs:List Value} (h:VRs Z F xs vs) (k:Nat):VRs Z F (xs.take k) (vs.take k):=by
 induction xs generalizing vs k with
 | nil=>exact h (fun vs=>VRs Z F ([].take k) (vs.take k)) (by rw [List.take_nil,List.take_nil];exact .nil)
 | cons u xs ih=>
  refine h (fun vs=>VRs Z F ((u::xs).take k) (vs.take k)) fun y ys p l=>?_
  cases k with
  | zero=>exact .nil
  | succ k=>exact .cons p (ih l k)
theorem ev_upto {a b:ME} (ha:EvS Z A C a) (hb:EvS Z A C b):EvS Z A C (.upto a b):=fun Ψ F f ρ e h R=>xSubscriptk (G:=EvG Z A C Ψ F f ρ (.upto a b)) h fun v sl p1 h=>xSlicek (G:=fun sl=>EvG Z A C Ψ F f ρ (.upto a b) (.Subscript v sl p1)) h fun lo up st p2 h=>andk h fun h1 h=>andk h fun h4 h=>
 o0k (G:=fun lo=>EvG Z A C Ψ F f ρ (.upto a b) (.Subscript v (.Slice lo up st p2) p1)) h1 <| o0k (G:=fun st=>EvG Z A C Ψ F f ρ (.upto a b) (.Subscript v (.Slice none up st p2) p1)) h4 <| oBk (G:=fun up=>EvG Z A C Ψ F f ρ (.upto a b) (.Subscript v (.Slice none up none p2) p1)) h fun x h=>andk h fun h2 h3=>by
 show Sn Z A Ψ F (VR Z) (eval _ f.env) _
 rw [arm_eval_Subscript]
 refine (ha Ψ F f ρ v h2 R).bind fun F₁ v x' E hv=>fun F' σ r σ' s E' S q=>bnd_k q fun w σ₁ q1 q=>wpAny_bind (wpAny_holding ?_)
 show wpAny _ _ (pure Value.none >>= fun l=>holding [l] (eval x f.env) >>= fun u=>holding [l,u] (pure Value.none) >>= fun st=>newFields "slice" [l,u,st]) _ _ s
 refine wpAny_bind (wpAny_pure (wpAny_bind (wpAny_holding (wpPR (hb Ψ F₁ f ρ x h3 (R.ext E) F' σ w σ₁ s E' S q1) fun y s₁ F₂ p hw=>wpAny_bind (wpAny_holding (wpAny_pure ?_))))))
 unfold newFields
 refine wpAny_newObj_type ?_
 apply hw.oInt q
 intro k t q
 refine if_k q fun h0 q=>?_
 have S3:=p.S.push { cls:=.type "slice",data:=.fields #[Value.none,Value.int k t,Value.none] }
 apply bndL S3 (hv.mono (E'.trans p.e)) q
 intro c xs vs m g hz l q
 refine wpAny_bind (wpAny_standAt ?_)
 refine tail_any (ops:=[Value.ref s₁.heap.objs.size,Value.ref c]) (T:="list") ⟨_,g,rfl⟩ slot_list_getitem.lookup (wpAny_getItem_list_slice (isList g) (Heap.IsSliceOf.new ..) .none (.int k t) .none (by simp) ?_ (by rw [List.size_toArray,l.length];exact Nat.le_trans hz (Nat.le_of_lt capLine))) rfl
 rw [pick_upto vs h0]
 exact PR.up p (newL (s:=s₁) (S3.push (lstObj (vs.take k.toNat) 0)) (l.take k.toNat) q S3.new (Heap.get?_push_size _ rfl))
end
section
variable {Z:Sta} {A:Around} {n:Nat} {C:Calls} {Ψ:Pv} {F F₀:Fz} {σ σ':Mem} {s:Shared} {r a i:V} {x y:Value} {f:Fr} {ρ:Env'} {pos:Pos}
noncomputable def evOp (C:Calls) (w:Bool) (es:MEs) (ρ:Env'):M V:=match w with
 | true=>evOr C es ρ
 | false=>evAnd C es ρ
noncomputable def opW:Bool→BoolOp
 | true=>.Or
 | false=>.And
theorem evOp_cons {w:Bool} {e:ME} {es:MEs}:evOp C w (.cons e es) ρ=bnd (ev C e ρ) fun v=>bnd (truth v) fun b=>if b=w then ret (.bool w) else evOp C w es ρ:=by
 cases w with
 | true=>exact congrArg (bnd (ev C e ρ)) (funext fun v=>congrArg (bnd (truth v)) (funext fun b=>by cases b <;> rfl))
 | false=>exact congrArg (bnd (ev C e ρ)) (funext fun v=>congrArg (bnd (truth v)) (funext fun b=>by cases b <;> rfl))
theorem Sn.truth {α β:Type} {R:Fz→β→α→Prop} {v:V} {g:Bool→Sem α} {k:Bool→M β} (hv:VR Z F₀ v y) (h:∀ b,y=.bool b→Sn Z A Ψ F₀ R (g b) (k b)):Sn Z A Ψ F₀ R (PySem.holding [y] (truthy y) >>= g) (bnd (Mine.truth v) k):=fun F σ r σ' s E S q=>bnd_k q fun b σ₁ q1 q=>
 truth_k (G:=fun v σ₁=>VR Z F v y→k b σ₁=some (r,σ')→wpAny (Md Z) A (PySem.holding [y] (truthy y) >>= g) (PR Z Ψ R F s σ' r) Fls s) q1 (fun hv q=>hv (fun x=>x=y→wpAny (Md Z) A (PySem.holding [y] (truthy y) >>= g) (PR Z Ψ R F s σ' r) Fls s) (fun e=>e▸wpAny_bind (wpAny_holding (wpAny_truthy_bool (h b e.symm F σ r σ' s E S q)))) rfl) (hv.mono E) q
theorem op_last {w:Bool} {v:V} (q:(bnd (truth v) fun b=>if b=w then ret (V.bool w) else evOp C w .nil ρ) σ=some (r,σ')):v=r∧σ=σ':=bnd_k q fun b σ₁ q1 q=>truth_k (G:=fun v σ₁=>(if b=w then ret (V.bool w) else evOp C w .nil ρ:M V) σ₁=some (r,σ')→v=r∧σ=σ') q1 (fun q=>by cases w <;> cases b <;> exact ret_k (a:=V.bool _) (G:=fun r σ'=>V.bool _=r∧σ=σ') q ⟨rfl,rfl⟩) q
theorem op_val {w:Bool} (es:MEs) (hh:AllTs Z A C es) (Ψ:Pv) (F:Fz) (x:PySem.Expr) (xs:List PySem.Expr) (h:chkEs f.sc f.nm es (x::xs)=true) (R:EnvR Z Ψ F f ρ):Sn Z A Ψ F (VR Z) (boolOp pos (opW w) (evalEach (x::xs) f.env)) (evOp C w es ρ):=by
 induction xs generalizing es F x with
 | nil=>
  match es,hh,h with
  | .cons e .nil,hh,h=>
   refine andk h fun h1 _=>?_
   rw [evOp_cons]
   exact fun F' σ r σ' s E S q=>bnd_k q fun v σ₁ q1 q=>(op_last q).1▸(op_last q).2▸hh.1 Ψ F f ρ x h1 R F' σ v σ₁ s E S q1
  | .cons e (.cons _ _),hh,h=>exact andk h fun _ h=>nomatch h
 | cons x' xs ih=>
  match es,hh,h with
  | .cons e es,hh,h=>
   refine andk h fun h1 h2=>?_
   rw [evOp_cons]
   refine Sn.bind (hh.1 Ψ F f ρ x h1 R) fun F₁ v y E hv=>Sn.stand (t:=fun _=>_) (Sn.truth hv fun b hy=>?_)
   subst hy
   have next:=ih es hh.2.2 F₁ x' h2 (R.ext E)
   cases w <;> cases b
   ·exact Sn.pure fun _ _=>.bool _
   ·exact next
   ·exact next
   ·exact Sn.pure fun _ _=>.bool _
theorem op_test {w:Bool} (es:MEs) (hh:AllTs Z A C es) (Ψ:Pv) (F:Fz) (xs:List PySem.Expr) (h:chkEs f.sc f.nm es xs=true) (R:EnvR Z Ψ F f ρ):Sn Z A Ψ F BR (allTrue (opW w) xs f.env) (bnd (evOp C w es ρ) truth):=by
 induction xs generalizing es F with
 | nil=>
  match es,h with
  | .nil,_=>cases w <;> exact Sn.pure (v:=_) fun _ _=>rfl
 | cons x xs ih=>
  match es,hh,h with
  | .cons e es,hh,h=>
   refine andk h fun h1 h2=>?_
   rw [evOp_cons,bnd_assoc,show (fun v=>bnd (bnd (truth v) fun b=>if b=w then ret (V.bool w) else evOp C w es ρ) truth)=fun v=>bnd (truth v) fun b=>bnd (if b=w then ret (V.bool w) else evOp C w es ρ) truth from funext fun v=>bnd_assoc ..,← bnd_assoc]
   show Sn Z A Ψ F BR (isTrue x f.env (eval x f.env) >>= fun t=>match opW w,t with|.And,false=>pure false|.Or,true=>pure true|_,_=>allTrue (opW w) xs f.env) _
   refine Sn.bind (hh.2.1 Ψ F f ρ x h1 R) fun F₁ b c E (hb:b=c)=>?_
   subst hb
   have next:=ih es hh.2.2 F₁ h2 (R.ext E)
   cases w <;> cases b
   ·exact Sn.pure (v:=false) fun _ _=>rfl
   ·exact next
   ·exact next
   ·exact Sn.pure (v:=true) fun _ _=>rfl
theorem ev_and {es:MEs} (hh:AllTs Z A C es):EvS Z A C (.and es):=fun Ψ F f ρ e h R=>xBoolOpk (G:=EvG Z A C Ψ F f ρ (.and es)) h fun o xs p h=>andk h fun h1 h=>eqk (G:=fun o=>EvG Z A C Ψ F f ρ (.and es) (.BoolOp o xs p)) h1 <| lck (G:=fun xs=>EvG Z A C Ψ F f ρ (.and es) (.BoolOp .And xs p)) h fun x xs h=>by
 show Sn Z A Ψ F (VR Z) (eval _ f.env) _
 rw [arm_eval_BoolOp];exact op_val (w:=false) es hh Ψ F x xs h R
theorem ev_or {es:MEs} (hh:AllTs Z A C es):EvS Z A C (.or es):=fun Ψ F f ρ e h R=>xBoolOpk (G:=EvG Z A C Ψ F f ρ (.or es)) h fun o xs p h=>andk h fun h1 h=>eqk (G:=fun o=>EvG Z A C Ψ F f ρ (.or es) (.BoolOp o xs p)) h1 <| lck (G:=fun xs=>EvG Z A C Ψ F f ρ (.or es) (.BoolOp .Or xs p)) h fun x xs h=>by
 show Sn Z A Ψ F (VR Z) (eval _ f.env) _
 rw [arm_eval_BoolOp];exact op_val (w:=true) es hh Ψ F x xs h R
theorem ts_and {es:MEs} (hh:AllTs Z A C es):TsS Z A C (.and es):=fun Ψ F f ρ e h R=>xBoolOpk (G:=TsG Z A C Ψ F f ρ (.and es)) h fun o xs p h=>andk h fun h1 h=>eqk (G:=fun o=>TsG Z A C Ψ F f ρ (.and es) (.BoolOp o xs p)) h1 <| lck (G:=fun xs=>TsG Z A C Ψ F f ρ (.and es) (.BoolOp .And xs p)) h fun x xs h=>by
 unfold TsG
 rw [arm_isTrue_BoolOp];exact op_test (w:=false) es hh Ψ F (x::xs) h R
theorem ts_or {es:MEs} (hh:AllTs Z A C es):TsS Z A C (.or es):=fun Ψ F f ρ e h R=>xBoolOpk (G:=TsG Z A C Ψ F f ρ (.or es)) h fun o xs p h=>andk h fun h1 h=>eqk (G:=fun o=>TsG Z A C Ψ F f ρ (.or es) (.BoolOp o xs p)) h1 <| lck (G:=fun xs=>TsG Z A C Ψ F f ρ (.or es) (.BoolOp .Or xs p)) h fun x xs h=>by
 unfold TsG
 rw [arm_isTrue_BoolOp];exact op_test (w:=true) es hh Ψ F (x::xs) h R
theorem keysE_len {ks:List Str} {keys:List (Option PySem.Expr)} (h:keysE ks keys=true):keys.length=ks.length:=by
 induction ks generalizing keys with
 | nil=>exact nilk (G:=fun keys=>keys.length=0) h rfl
 | cons k ks ih=>exact lck (G:=fun keys=>keys.length=ks.length+1) h fun a es h=>oBk (G:=fun a=>(a::es).length=ks.length+1) h fun e h=>xConstantk (G:=fun e=>(some e::es).length=ks.length+1) h fun c _ _ h=>andk h fun _ h=>congrArg (·+1) (ih h)
theorem chkEs_len {es:MEs} {xs:List PySem.Expr} {vs:List V} (h:chkEs f.sc f.nm es xs=true) (q:evs C es ρ σ=some (vs,σ')):vs.length=xs.length:=by
 induction xs generalizing es vs σ with
 | nil=>
  match es,h,q with
  | .nil,_,q=>exact ret_k (G:=fun vs _=>vs.length=0) q rfl
 | cons x xs ih=>
  match es,h,q with
  | .cons e es,h,q=>exact andk h fun _ h=>bnd_k q fun v σ₁ q1 q=>bnd_k q fun vs σ₂ q2 q=>ret_k (G:=fun vs σ'=>(σ₂=σ'→vs.length=xs.length+1)) q (fun _=>congrArg (·+1) (ih h (q2.trans (by cases q;rfl)))) (by cases q;rfl)
noncomputable def pairTs (keys:List (Option PySem.Expr)) (vals:List PySem.Expr) (pos:Pos) (env:Env):List (Sem Value×Sem Value):=
 (keys.zip vals).filterMap fun p=>p.1.map fun k=>(eval k env,do let x←eval p.2 env;standAt pos;pure x)
theorem pairs_sound {es:MEs} (hh:AllTs Z A C es) {ks:List Str} {keys:List (Option PySem.Expr)} {xs:List PySem.Expr} (hk:keysE ks keys=true) (hl:ks.length=xs.length) (h:chkEs f.sc f.nm es xs=true) (R:EnvR Z Ψ F f ρ) :
  Sn Z A Ψ F (fun F vs ps=>∃ kvs,Carries (sk Z) ps kvs∧ER Z F (ks.zip vs) kvs) (evalPairs (pairTs keys xs pos f.env)) (evs C es ρ):=by
 induction ks generalizing es keys xs F with
 | nil=>
  match xs,hl,h with
  | [],_,h=>match es,h with
   | .nil,_=>exact nilk (G:=fun keys=>Sn Z A Ψ F _ (evalPairs (pairTs keys [] pos f.env)) _) hk (Sn.pure fun _ _=>⟨[],trivial,.nil⟩)
 | cons k ks ih=>
  match xs,hl,h with
  | x::xs,hl,h=>match es,hh,h with
   | .cons e es,hh,h=>
    refine lck (G:=fun keys=>Sn Z A Ψ F _ (evalPairs (pairTs keys (x::xs) pos f.env)) _) hk fun a keys hk=>oBk (G:=fun a=>Sn Z A Ψ F _ (evalPairs (pairTs (a::keys) (x::xs) pos f.env)) _) hk fun ek hk=>xConstantk (G:=fun ek=>Sn Z A Ψ F _ (evalPairs (pairTs (some ek::keys) (x::xs) pos f.env)) _) hk fun c i p hk=>andk hk fun hc hk=>andk h fun h1 h2=>
     eqk (G:=fun c=>Sn Z A Ψ F _ (evalPairs (pairTs (some (.Constant c i p)::keys) (x::xs) pos f.env)) _) hc ?_
    show Sn Z A Ψ F _ (evalPairs ((mkText k,do let x←eval x f.env;standAt pos;pure x)::pairTs keys xs pos f.env)) _
    unfold evalPairs
    refine fun F' σ r σ' s E S q=>bnd_k q fun v σ₁ q1 q=>bnd_k q fun vs σ₂ q2 q=>wpAny_bind (wpAny_mkText (wpAny_bind (wpAny_holding (wpAny_bind (wpPR (hh.1 Ψ F f ρ x h1 R F' σ v σ₁ _ E S q1) fun y s₁ F₁ p1 hv=>wpAny_bind (wpAny_standAt (wpAny_pure ?_)))))))
    refine wpAny_bind (wpAny_holding (wpPR (ih hh.2.2 hk (Nat.succ.inj hl) h2 (R.ext (E.trans p1.e)) F₁ σ₁ vs σ₂ s₁ (Ext.refl _) p1.S q2) fun ys s₂ F₂ p2 w=>w.elim fun kvs w=>wpAny_pure ?_))
    exact ret_k (G:=fun r σ'=>PR Z Ψ (fun F vs ps=>∃ kvs,Carries (sk Z) ps kvs∧ER Z F ((k::ks).zip vs) kvs) F' s σ' r _ s₂) q ((Stp.trans (Stp.new (Ext.refl F') S) (p1.trans p2)).pr ⟨(k,y)::kvs,⟨strKind_is Z.prog Z.w k _,rfl,w.1⟩,.cons (hv.mono p2.e) w.2⟩)
theorem zip_pairs {env:Env} {ks:List Str} {keys:List (Option PySem.Expr)} {xs:List PySem.Expr} (hk:keysE ks keys=true) (hl:ks.length=xs.length) :
  (evalEachOpt keys env).zip ((evalEach xs env).map fun v=>do let x←v;standAt pos;pure x)=(pairTs keys xs pos env).map (fun p=>(some p.1,p.2))∧(pairTs keys xs pos env).length=ks.length:=by
 induction ks generalizing keys xs with
 | nil=>
  match xs,hl with
  | [],_=>exact nilk (G:=fun keys=>(evalEachOpt keys env).zip _=(pairTs keys [] pos env).map _∧(pairTs keys [] pos env).length=0) hk ⟨rfl,rfl⟩
 | cons k ks ih=>
  match xs,hl with
  | x::xs,hl=>
   refine lck (G:=fun keys=>(evalEachOpt keys env).zip ((evalEach (x::xs) env).map fun v=>do let x←v;standAt pos;pure x)=(pairTs keys (x::xs) pos env).map (fun p=>(some p.1,p.2))∧(pairTs keys (x::xs) pos env).length=ks.length+1) hk fun a keys hk=>oBk (G:=fun a=>(evalEachOpt (a::keys) env).zip ((evalEach (x::xs) env).map fun v=>do let x←v;standAt pos;pure x)=(pairTs (a::keys) (x::xs) pos env).map (fun p=>(some p.1,p.2))∧(pairTs (a::keys) (x::xs) pos env).length=ks.length+1) hk fun ek hk=>?_
   have hk':keysE ks keys=true:=xConstantk (G:=fun _=>keysE ks keys=true) hk fun c _ _ hk=>andk hk fun _ h=>h
   have w:=ih hk' (Nat.succ.inj hl)
   exact ⟨List.cons_eq_cons.mpr ⟨rfl,w.1⟩,congrArg (·+1) w.2⟩
theorem dictOf_new {K:Type} [DecidableEq K] (kd:KeyKind Z.prog Z.w K) (h:Heap):∃ o,(h.push { cls:=.type "dict",data:=.dict #[] }).get? h.objs.size=some o∧o.IsDictOf kd []:=Heap.dictOf_iff.mp (Heap.DictOf.new (knd:=kd) h)
theorem ev_dict {k:Nat} {ks:List Str} {es:MEs} (CX:CC Z A C n) (hh:AllTs Z A C es):EvS Z A C (.dict k ks es):=fun Ψ F f ρ e h R=>xDictk (G:=EvG Z A C Ψ F f ρ (.dict k ks es)) h fun keys vals pos h=>andk h fun hk h F' σ r σ' s E S q=>bnd_k (m:=evs C es ρ) q fun vs σ₁ q1 q=>if_k q fun hz q3=>by
 have hl:ks.length=vals.length:=hz.1.trans (chkEs_len h q1)
 by_cases h0:ks=[]
 ·subst h0
  have hv:vals=[]:=List.length_eq_zero_iff.mp hl.symm
  subst hv
  have hk0:keys=[]:=List.length_eq_zero_iff.mp (keysE_len hk)
  subst hk0
  match es,h,q1 with
  | .nil,_,q1=>
   refine ret_k (G:=fun vs σ₁=>if2 k (newI vs) (mkD k (([]:List Str).zip vs)) σ₁=some (r,σ')→_) q1 (fun q=>wpAny_Dict_empty (if2_k q (fun _ q=>(dictOf_new (ik Z) s.heap).elim fun o p=>?_) fun q=>newD (es:=[]) (kvs:=[]) (S.push _) .nil (Nat.zero_le _) q S.new (Heap.DictOf.new s.heap) (notMod S CX.mod))) q3
   exact ret_k (a:=V.cell σ.length) (σ:=σ++[Ob.id []]) (G:=fun r σ'=>PR Z Ψ (VR Z) F' s σ' r (.ref s.heap.objs.size) { s with heap:=s.heap.push { cls:=.type "dict",data:=.dict #[] } }) q (.new (Ext.cell F' _) ((S.push _).addC (ob:=.id []) S.new ⟨o,p.1⟩ (.live S.new.fz S.new.pv p.1 ⟨[],⟨p.2,notMod S CX.mod,Nat.zero_le _⟩,.nil⟩)) (.cell ((congrArg _ S.len.symm).trans (List.getElem?_concat_length (l:=F'.c)))))
 ·have zp:=zip_pairs (pos:=pos) (env:=f.env) hk hl
  refine wpAny_Dict_pairs (knd:=sk Z) zp.1 (fun e=>h0 (List.length_eq_zero_iff.mp (by rw [← zp.2,e];rfl))) (by rw [zp.2];exact hz.2.2) ?_
  have fr:=S.new
  have hD0:(s.heap.push { cls:=.type "dict",data:=.dict #[] }).get? s.heap.objs.size=some { cls:=.type "dict",data:=.dict #[] }:=Heap.get?_push_size _ rfl
  refine wpPR (pairs_sound (Ψ:=Mine.put Ψ s.heap.objs.size ({ cls:=.type "dict",data:=.dict #[] },false)) (pos:=pos) hh hk hl h (R.mono (Ext.refl F) fun a o e=>put_old fr.pv e) F' σ vs σ₁ { s with heap:=s.heap.push { cls:=.type "dict",data:=.dict #[] } } E ((S.push _).hide fr hD0) q1) fun ps s₁ F₁ p w=>w.elim fun kvs w=>?_
  have sn:=p.S.seen fr.pv
  refine ⟨kvs,w.1,Heap.dictOf_iff.mpr ⟨_,sn.2.2,(dictOf_new (sk Z) s.heap).elim fun o p=>Option.some.inj (hD0.symm.trans p.1)▸p.2⟩,fun h' hd' hs'=>?_⟩
  have hkv:kvs.map (·.1)=ks:=w.2.keys.trans (List.map_fst_zip (Nat.le_of_eq hz.1))
  rw [merged_nil_of_nodup kvs (hkv.symm▸hz.2.1)] at hd'
  have hzz:(ks.zip vs).length≤cap:=by rw [List.length_zip];exact Nat.le_trans (Nat.min_le_left ..) (Nat.le_trans hz.2.2 (by decide))
  have st:Stp Z Ψ F' s F₁ σ₁ s₁:=⟨p.c,p.e,sn.1⟩
  refine if2_k q3 (fun _ q=>?_) fun q=>PR.up st (newD (s:=s₁) (sn.1.sameBut sn.2.1 hs') w.2 hzz q sn.2.1 hd' (notMod S CX.mod))
  match vs,hz,q with
  | [],hz,_=>exact absurd (List.length_eq_zero_iff.mp hz.1) h0
  | _::_,_,q=>exact nn q
end
section
variable {Z:Sta} {A:Around} {n:Nat} {C:Calls} {Ψ:Pv} {F F₀:Fz} {σ σ':Mem} {s:Shared} {r a i:V} {x y:Value} {f:Fr} {ρ:Env'} {pos:Pos} {h:Heap} {sc:Sc} {nm:Nm} {env:Env}
theorem no_stars {es:MEs} {xs:List PySem.Expr} (h:chkEs sc nm es xs=true):(backTo pos (starEach xs env)).any (·.1)=false:=by
 induction xs generalizing es with
 | nil=>rfl
 | cons x xs ih=>
  match es,h with
  | .cons e es,h=>
   refine andk h fun h1 h2=>?_
   rw [chk_star h1]
   exact ih h2
theorem args_any {M:Model} {E:Value→Shared→Prop} {g:Value} {Q:Args→Shared→Prop} {es:MEs} {xs:List PySem.Expr} (hc:chkEs sc nm es xs=true)
  (h:wpAny M A (spliced (backTo pos (starEach xs env))) (fun vs s'=>Q ⟨vs,[]⟩ s') E s):wpAny M A (evalArgs g true (backTo pos (starEach xs env)) []) Q E s:=by
 match xs,es,hc,h with
 | [],_,_,h=>
  unfold evalArgs
  show wpAny M A (spliced [] >>= _) Q E s
  exact wpAny_bind (wpAny_mono h (fun vs s' h'=>wpAny_bind (wpAny_pure (wpAny_holding (wpAny_bind (wpAny_pure (wpAny_bind (wpAny_pure (wpAny_pure h')))))))) fun _ _ x=>x)
 | x::xs,.cons e es,hc,h=>
  refine andk hc fun h1 _=>?_
  rw [chk_star h1] at h ⊢
  exact evalArgs_plain h
theorem SR.inK (CX:CC Z A C n) (S:SR Z F Ψ σ h):Z.K.In h:=fun a o e=>S.keep a o (CX.X a o e)
theorem bi_keeper (b:BI) {M:Model} {h:Heap}:Looks M h (keeperOf (biVal b)) .machine:=by cases b <;> exact Looks.of_pure rfl
noncomputable def KeptOK (Z:Sta) (y:Value):Prop:=∀ h,Z.K.In h→∃ k,(k=Keeper.frame∨k=Keeper.machine∨k=Keeper.boundFrame)∧Looks (Md Z) h (keeperOf y) k
theorem call_go {es:MEs} (CX:CC Z A C n) (he:EsS Z A C es) {F':Fz} {xs:List PySem.Expr} {first:List Value} {vs:List V} {σ₁:Mem} (hc:chkEs f.sc f.nm es xs=true) (R:EnvR Z Ψ F f ρ) (hk:KeptOK Z y) (E:Ext F F') (S:SR Z F' Ψ σ s.heap) (q1:evs C es ρ σ=some (vs,σ₁))
  (hcall:∀ F₁ zs s₁,Ext F' F₁→SR Z F₁ Ψ σ₁ s₁.heap→VRs Z F₁ vs zs→wpAny (Md Z) A (call y (first++zs)) (PR Z Ψ (VR Z) F₁ s₁ σ' r) Fls s₁):EvW Z A Ψ F' s r σ' (callWith pos y first (backTo pos (starEach xs f.env)) []):=
 callWith_of (P:=fun h=>Z.K.In h) (by rw [no_stars hc];rfl) hk (args_any hc (wpPR (he Ψ F f ρ xs pos hc R F' σ vs σ₁ s E S q1) fun zs s₁ F₁ p hv=>⟨p.S.inK CX,p.go (hcall F₁ zs s₁ p.e p.S hv)⟩))
theorem call_sound (CX:CC Z A C n) {es:MEs} (he:EsS Z A C es) {xs:List PySem.Expr} {fv:V} (hc:chkEs f.sc f.nm es xs=true) (R:EnvR Z Ψ F f ρ) (hf:VR Z F fv y) :
  Sn Z A Ψ F (VR Z) (callWith pos y [] (backTo pos (starEach xs f.env)) []) (bnd (evs C es ρ) fun vs=>callV C fv vs):=fun F' σ r σ' s E S q=>bnd_k q fun vs σ₁ q1 q2=>by
 cases fv with
 | fn k=>exact hf (fun y=>EvW Z A Ψ F' s r σ' (callWith pos y [] _ [])) (call_go CX he hc R (keeps_K (CX.keep.fn k vs _ _ q2)) E S q1 fun F₁ zs s₁ _ S1 hv=>(CX.calls A CX.rm Ψ F₁ zs vs hv).1 k F₁ _ _ _ s₁ (Ext.refl _) S1 q2)
 | cls k=>exact hf (fun y=>EvW Z A Ψ F' s r σ' (callWith pos y [] _ [])) (call_go CX he hc R (keeps_K (CX.keep.cls k vs _ _ q2)) E S q1 fun F₁ zs s₁ _ S1 hv=>(CX.calls A CX.rm Ψ F₁ zs vs hv).2 k F₁ _ _ _ s₁ (Ext.refl _) S1 q2)
 | bi b=>exact hf (fun y=>EvW Z A Ψ F' s r σ' (callWith pos y [] _ [])) (call_go CX he hc R (fun h _=>⟨.machine,.inr (.inl rfl),bi_keeper b⟩) E S q1 fun F₁ zs s₁ _ S1 hv=>biCall_sound CX.X CX.O CX.rm.hand hv F₁ _ _ _ s₁ (Ext.refl _) S1 q2)
 | _=>exact nn q2
theorem ev_call {g:ME} {es:MEs} (CX:CC Z A C n) (hf:EvS Z A C g) (he:EsS Z A C es):EvS Z A C (.call g es):=fun Ψ F f ρ e h R=>xCallk (G:=EvG Z A C Ψ F f ρ (.call g es)) h fun fe xs ks p h=>andk h fun h0 h=>nilk (G:=fun ks=>EvG Z A C Ψ F f ρ (.call g es) (.Call fe xs ks p)) h0 <| xNamek (G:=fun fe=>EvG Z A C Ψ F f ρ (.call g es) (.Call fe xs [] p)) h fun x q h=>andk h fun h1 h2=>by
 show Sn Z A Ψ F (VR Z) (eval _ f.env) _
 rw [arm_eval_Call_Name']
 exact (hf Ψ F f ρ _ h1 R).bind fun F₁ v x E hv=>call_sound CX he h2 (R.ext E) hv
theorem named_sound {a:ME} {x:Str} {p:Pos} {g:Nat} {b:BI} {y:PySem.Expr} {F':Fz} {σ₁:Mem} {v:V} {Q:Value→Shared→Prop} (CX:CC Z A C n) (ha:EvS Z A C a) (R:EnvR Z Ψ F f ρ) (h1:isGlob f.sc x=true) (hg:globNm[g]?=some x) (hb:globs[g]?=some (.bi b)) (h3:chkE f.sc f.nm a y=true) (E:Ext F F') (S:SR Z F' Ψ σ s.heap) (q1:ev C a ρ σ=some (v,σ₁))
  (k:∀ z s₁ F₁,Stp Z Ψ F' s F₁ σ₁ s₁→VR Z F₁ v z→wpAny (Md Z) A (call (biVal b) [z]) Q Fls s₁):wpAny (Md Z) A (eval (.Name x p) f.env >>= fun w=>callWith pos w [] (backTo pos (starEach [y] f.env)) []) Q Fls s:=
 wpAny_bind (wpPR (glob_sound (pos:=p) CX R h1 hg F' σ (.bi b) σ s E S (by rw [hb];rfl)) fun w s₁ F₁ p1 hv=>hv (fun w=>wpAny (Md Z) A (callWith pos w [] (backTo pos (starEach [y] f.env)) []) Q Fls s₁) (by
  have hc:chkEs f.sc f.nm (.cons a .nil) [y]=true:=(congrArg (·&&true) h3).trans rfl
  refine callWith_of (P:=fun _=>True) (by rw [no_stars hc];rfl) (fun h _=>⟨.machine,.inr (.inl rfl),bi_keeper b⟩) (args_any hc ?_)
  rw [chk_star h3]
  exact spliced_cons (wpPR (ha Ψ F f ρ y h3 R F₁ σ v σ₁ _ (E.trans p1.e) p1.S q1) fun z s₂ F₂ p2 hz=>spliced_nil ⟨trivial,k z s₂ F₂ (p1.trans p2) hz⟩)))
theorem mk_glob (k:Mk):∃ (g:Nat) (b:BI),globNm[g]?=some (mkNm k)∧globs[g]?=some (.bi b)∧biVal b=mkVal k:=by
 cases k
 ·exact ⟨12,.dict,rfl,rfl,rfl⟩
 ·exact ⟨13,.list,rfl,rfl,rfl⟩
 ·exact ⟨11,.sorted,rfl,rfl,rfl⟩
theorem ev_make {k:Mk} {m:Nat} {a:ME} (CX:CC Z A C n) (ha:EvS Z A C a):EvS Z A C (.make k m a):=fun Ψ F f ρ e h R=>xCallk (G:=EvG Z A C Ψ F f ρ (.make k m a)) h fun fe xs ks p h=>andk h fun h0 h=>nilk (G:=fun ks=>EvG Z A C Ψ F f ρ (.make k m a) (.Call fe xs ks p)) h0 <| xNamek (G:=fun fe=>EvG Z A C Ψ F f ρ (.make k m a) (.Call fe xs [] p)) h fun x pn h=>
 l1k (G:=fun xs=>EvG Z A C Ψ F f ρ (.make k m a) (.Call (.Name x pn) xs [] p)) h fun y h=>andk h fun h1 h=>andk h fun h2 h3=>by
 show Sn Z A Ψ F (VR Z) (eval _ f.env) (bnd (ev C a ρ) fun x=>makeV k m x)
 rw [arm_eval_Call_Name']
 exact fun F' σ r σ' s E S q=>bnd_k q fun v σ₁ q1 q2=>(mk_glob k).elim fun g w=>w.elim fun b w=>named_sound CX ha R h1 (w.1.trans (congrArg some (of_decide_eq_true h2).symm)) w.2.1 h3 E S q1 fun z s₁ F₁ p1 hz=>p1.go (w.2.2▸makeV_sound CX.mod CX.rm.hand p1.S hz q2)
theorem getL_noField {g:Str} {fs:List Str} {vs:List Value} {des:List DictEntry} (d:InstD fs vs des) (h:g∉fs):getL g des=some none:=by
 induction d with
 | nil=>rfl
 | cons d ih=>rw [getL_cons,if_neg (by rintro rfl;exact h (.head _))];exact ih fun hm=>h (.tail _ hm)
theorem form_few {es:MEs} {xs:List PySem.Expr} (hc:chkEs sc nm es xs=true) (hl:xs.length<30):methodCallForm (xs.length+([]:List Keyword).length) (backTo pos (starEach xs env)) (backToKw pos (keywordEach [] env))=true:=by
 have:(backTo pos (starEach xs env)).all (fun x=>!x.1)=true:=List.all_eq_true.mpr fun x hx=>Bool.not_eq_true' ..▸eq_false_of_ne_true (List.any_eq_false.mp (no_stars (pos:=pos) (env:=env) hc) x hx)
 unfold methodCallForm
 rw [this]
 exact decide_eq_true hl
theorem lookIn_of {name:Str} {es:List DictEntry} {m:Nat} {r} (h:getL name es=some r):lookIn name (PySem.W.dictOf es m)=some r:=h
theorem own_meth {c:Nat} {ys:List V} {g:Str} {k:Nat} {pl:Sem Bool} {Q:Value×List Value→Shared→Prop} (CX:CC Z A C n) (S:SR Z F Ψ σ s.heap) (hv:VR Z F (.inst c ys) x) (hk:methOf c g=some k) (h:Q (.ref (Z.fa k),[x]) s):wpAny (Md Z) A (getMethod x g pl) Q Fls s:=
 hv (fun x=>Q (.ref (Z.fa k),[x]) s→wpAny (Md Z) A (getMethod x g pl) Q Fls s) (fun a dx ws des m z gg gd i l h=>by
  have M:=CX.M.at_ c _ k hk
  have CO:=CX.O.cls c M.1 M.2.1
  exact method_fn (S.inK CX) (instAt S gg gd) (plainGet_of CO.get).1 (plainGet_of CO.get).2 M.2.2.1 M.2.2.2.1 (by
   show (lookIn _ (PySem.W.dictOf _ _)).map _=_
   rw [lookIn_of (getL_noField i M.2.2.2.2)];rfl) h) h
theorem methV_bi {ov:V} {g:Str} {vs:List V} {t:MK} {w:V×Mem} (q:methV C ov g vs σ=some w) (q3:preM ov σ=some (t,σ')) (ht:t≠.O):biMeth ov g vs σ=some w:=by
 cases ov with
 | inst=>exact absurd (Prod.mk.inj (Option.some.inj q3)).1.symm ht
 | _=>exact q
theorem wp_meth {M:Model} {E:Value→Shared→Prop} {Q:Value→Shared→Prop} {o:PySem.Expr} {g:Str} {ap:Pos} {m:Nat} {args:List (Bool×Sem Value)} {kws:List (Option Str×Sem Value)} (hf:methodCallForm m args kws=true) (hp:ap.endLine=pos.line)
  (h:wpAny M A (getMethod x g (do return (← importBound o env).getD true)) (fun p s=>wpAny M A (callWith pos p.1 p.2 args kws) Q E s) E s):wpAny M A (methodCall o g ap pos env x m args kws) Q E s:=by
 unfold methodCall
 rw [hf]
 refine wpAny_bind (wpAny_holding ?_)
 unfold calleeOf
 rw [if_pos rfl]
 refine wpAny_mono h (fun p s₁ h₁=>wpAny_bind ?_) fun _ _ z=>z
 unfold methodCallPos
 rw [if_pos (show (!true || ap.endLine == pos.line)=true from beq_iff_eq.mpr hp)]
 exact wpAny_pure h₁
theorem ev_meth {o:ME} {g:Str} {es:MEs} (CX:CC Z A C n) (ho:EvS Z A C o) (he:EsS Z A C es):EvS Z A C (.meth o g es):=fun Ψ F f ρ e h R=>xCallk (G:=EvG Z A C Ψ F f ρ (.meth o g es)) h fun fe xs ks p h=>andk h fun h0 h=>nilk (G:=fun ks=>EvG Z A C Ψ F f ρ (.meth o g es) (.Call fe xs ks p)) h0 <| xAttributek (G:=fun fe=>EvG Z A C Ψ F f ρ (.meth o g es) (.Call fe xs [] p)) h fun v x' ap h=>
 andk h fun h0 h=>andk h fun h1 h=>andk h fun h2 h=>andk h fun h3 h=>andk h fun h4 h5=>eqk (G:=fun x'=>EvG Z A C Ψ F f ρ (.meth o g es) (.Call (.Attribute v x' ap) xs [] p)) h0 <| by
 show Sn Z A Ψ F (VR Z) (eval _ f.env) _
 rw [arm_eval_Call,base_plain h3]
 refine (ho Ψ F f ρ v h4 R).bind fun F₁ ov x E hv=>Sn.stand (t:=fun _=>_) fun F' σ r σ' s E' S q=>bnd_k q fun t σ₀ q0 q=>pre_k (G:=fun t σ₀=>preM ov σ=some (t,σ₀)→(if t=.O∨(idOf t g).isSome then bnd (evs C es ρ) fun vs=>bnd (preM ov) fun t'=>if t=t' then methV C ov g vs else fail else fail:M V) σ₀=some (r,σ')→_) S (hv.mono E') q0 (fun t pt q0 q=>if_k q fun ht q=>bnd_k q fun vs σ₁ q1 q=>?_) q0 q
 refine wp_meth (form_few h5 (of_decide_eq_true h2)) (of_decide_eq_true h1) ?_
 have R':=(R.ext E).ext E'
 rcases pt with pt|pt
 ·refine pt.2.elim fun c w=>w.elim fun ys w=>?_
  subst w
  refine bnd_k q fun t' σ₂ q3 q=>ret_k (a:=MK.O) (G:=fun t' σ₂=>(if t=t' then methV C (.inst c ys) g vs else fail:M V) σ₂=some (r,σ')→_) q3 (fun q=>if_k q fun _ q=>?_) q
  have q:(match methOf c g with
   | some k=>C k (.inst c ys::vs)
   | Option.none=>fail) σ₁=some (r,σ'):=q
  cases hk:methOf c g with
  | none=>rw [hk] at q;exact nn q
  | some k=>
   rw [hk] at q
   exact own_meth CX S (hv.mono E') hk (call_go CX he h5 R' (keeps_K (CX.keep.fn k _ _ _ q)) (Ext.refl _) S q1 fun F₂ zs s₁ E2 S1 hvs=>
    (CX.calls A CX.rm Ψ F₂ (_::zs) (V.inst c ys::vs) (.cons (hv.mono (E'.trans E2)) hvs)).1 k F₂ _ _ _ s₁ (Ext.refl _) S1 q)
 ·refine (Option.isSome_iff_exists.mp (ht.resolve_left pt.1)).elim fun id hid=>getMeth_sound pt.2 hid (call_go CX he h5 R' (fun h _=>⟨.machine,.inr (.inl rfl),Looks.of_pure rfl⟩) (Ext.refl _) S q1 fun F₂ zs s₁ E2 S1 hvs=>?_)
  have hv2:=hv.mono (E'.trans E2)
  refine bnd_k q fun t' σ₂ q3 q=>pre_k (G:=fun t' σ₂=>preM ov σ₁=some (t',σ₂)→(if t=t' then methV C ov g vs else fail:M V) σ₂=some (r,σ')→_) S1 hv2 q3 (fun t' pt' q7 q=>if_k q fun e q5=>?_) q3 q
  subst e
  exact biMeth_sound (pt'.elim (fun w=>absurd w.1 pt.1) fun w=>w.2) S1 hv2 hvs hid q7 (methV_bi q5 q7 pt.1)
end
noncomputable def Agree (own:List Addr) (Ψ Ψ':Pv):Prop:=∀ b,b∉own→Ψ' b=Ψ b
noncomputable abbrev Same (s s':Shared):Prop:=s'.gens=s.gens∧s'.drawn=s.drawn∧s'.os=s.os
noncomputable def Hid (Ψ Ψ':Pv):Prop:=∀ a,(∃ o,Ψ a=some (o,false))→∃ o,Ψ' a=some (o,false)
structure Stores (Ψ:Pv) (env:Env) (own:List Addr) (W:Str→Prop):Prop where
 lo:env.locals∈own
 hd:∀ b∈own,∃ o,Ψ b=some (o,false)
 ob:∃ o m,Ψ env.locals=some (o,false)∧NsO o m
 ce:∀ x,W x→env.kindOf x=some .cell→∃ c,env.cells.lookup x=some c∧c∈own∧∃ o v,Ψ c=some (o,false)∧CellO o v
structure At (Z:Sta) (F:Fz) (σ:Mem) (Ψ₀:Pv) (f:Fr) (own:List Addr) (W:Str→Prop) (ρ:Env') (Ψ:Pv) (s:Shared):Prop where
 R:EnvR Z Ψ F f ρ
 T:Stores Ψ f.env own W
 S:SR Z F Ψ σ s.heap
 ag:Agree own Ψ₀ Ψ
structure SlotOK (f:Fr) (W:Str→Prop) (x:Str) (i:Nat):Prop where
 w:W x
 k:f.env.kindOf x=some .local∨f.env.kindOf x=some .cell
 oi:∀ y,isVar f.sc f.nm y i=true→y=x
 oj:∀ j,isVar f.sc f.nm x j=true→j=i
section
variable {Z:Sta} {A:Around} {n:Nat} {C:Calls} {Ψ Ψ' Ψ'' Ψ₀:Pv} {F:Fz} {σ:Mem} {h h':Heap} {a:Addr} {o o':Obj} {own own':List Addr} {f:Fr} {ρ ρ':Env'} {W:Str→Prop} {s s' s'':Shared} {x:Str} {i:Nat} {v:V} {val:Value} {Q:Unit→Shared→Prop}
theorem Agree.refl (own:List Addr) (Ψ:Pv):Agree own Ψ Ψ:=fun _ _=>rfl
theorem Agree.trans (a:Agree own Ψ Ψ') (b:Agree own Ψ' Ψ''):Agree own Ψ Ψ'':=fun x h=>(b x h).trans (a x h)
theorem Agree.put {w} (h:a∈own):Agree own Ψ (Mine.put Ψ a w):=fun b hb=>put_ne fun (e:b=a)=>hb (e▸h)
theorem Agree.wide (a:Agree own Ψ Ψ') (h:∀ x∈own,x∈own'):Agree own' Ψ Ψ':=fun b hb=>a b fun e=>hb (h b e)
theorem Agree.sub (a:Agree own Ψ Ψ') (n:∀ x∈own,Ψ x=none):Sub Ψ Ψ':=fun x o e=>(a x fun h=>nomatch (n x h).symm.trans e).trans e
theorem Same.trans (p:Same s s') (q:Same s' s''):Same s s'':=⟨q.1.trans p.1,q.2.1.trans p.2.1,q.2.2.trans p.2.2⟩
theorem SR.drop (R:SR Z F Ψ' σ h) (ag:Agree own Ψ Ψ') (nn:∀ a∈own,Ψ a=none∧∃ o,Ψ' a=some (o,false)):SR Z F Ψ σ h∧∀ a∈own,Free F Ψ a:=
 have hφ:∀ a∈own,a∉F.c:=fun a ha=>(nn a ha).2.elim fun o e=>R.hidden e
 have old:=ag.sub fun a ha=>(nn a ha).1
 ⟨R.prv (fun a o b e=>R.frm a o b (old a _ e)) (fun a o e=>R.dis a o (old a _ e)) fun b hb=>(ag b fun hm=>hφ b hm hb).symm,fun a ha=>(nn a ha).2.elim fun o e=>⟨R.dis a _ e,(nn a ha).1,hφ a ha⟩⟩
theorem SR.turn (R:SR Z F Ψ σ h) (ha:Ψ a=some (o,false)) (e:∀ b x,b≠a→h.get? b=some x→h'.get? b=some x) (ho:h'.get? a=some o'):SR Z F (Mine.put Ψ a (o',false)) σ h':=
 have hΦ:=R.dis a _ ha
 have hφ:=R.hidden ha
 have hc:∀ {b},b∈F.c→b≠a:=fun hb e=>hφ (e▸hb)
 ⟨R.sta,fun b x q=>e b x (ne_of hΦ q) (R.frz b x q),fun b x t q=>put_k q (fun e1 e2=>e1▸(Prod.mk.inj e2).1▸ho) fun hb q=>e b x hb (R.frm b x t q),fun b x q=>put_k q (fun e _=>e▸hΦ) fun _ q=>R.dis b x q,R.len,R.nod,fun b hb=>(R.off b hb).elim fun x hx=>⟨x,e b x (hc hb) hx⟩,
  fun i b x hb hx=>have hne:=hc (List.mem_of_getElem? hb);(R.cel i b x hb hx).imp (Ext.refl F) id (put_ne hne).trans (fun _=>(put_ne hne).trans) fun y=>e b y hne⟩
theorem Hid.put (a:Addr) (o:Obj):Hid Ψ (Mine.put Ψ a (o,false)):=fun b h=>if e:b=a then ⟨o,e▸put_self ..⟩ else h.elim fun o h=>⟨o,(put_ne e).trans h⟩
theorem some_put (a:Addr) {w:Obj×Bool} {b:Addr} (h:∃ o,Ψ b=some o):∃ o,Mine.put Ψ a w b=some o:=if e:b=a then ⟨w,e▸put_self ..⟩ else h.elim fun o h=>⟨o,(put_ne e).trans h⟩
theorem envR_stored (R:EnvR Z Ψ F f ρ) (hv:VR Z F v val) (O:SlotOK f W x i) (hx:NameAt Ψ' f.env x val) (keep:∀ y w,y≠x→NameAt Ψ f.env y w→NameAt Ψ' f.env y w) (hcin:∀ c,(∃ o,Ψ c=some o)→∃ o,Ψ' c=some o):EnvR Z Ψ' F f (ρ.set i v):=
 ⟨R.fn,R.gl,R.bl,R.kd,R.dis,R.inj,R.has,fun x c l=>hcin c (R.cin x c l),fun y j u hy hu hn=>set_k hu (fun e e'=>⟨val,e'▸hv,O.oi y (e.symm▸hy)▸hx⟩) fun e hu=>(R.rd y j u hy hu hn).elim fun w p=>⟨w,p.1,keep y w (fun q=>e (O.oj j (q▸hy)).symm) p.2⟩⟩
theorem EnvR.cne {y:Str} {b c:Addr} (R:EnvR Z Ψ F f ρ) (h1:f.env.cells.lookup y=some b) (h2:f.env.cells.lookup x=some c) (n:y≠x):b≠c:=fun e=>n (R.inj y x b h1 (e▸h2))
theorem ns_other {o:Obj} {m m2:Str→Option Value} (p:NsO o m) (q:NsO o m2) (y:Str):m2 y=m y:=p.elim fun es p=>p.elim fun ep p=>q.elim fun es2 q=>q.elim fun ep2 q=>by
 have e:=p.1.symm.trans q.1
 cases e
 exact (q.2.2 y).symm.trans (p.2.2 y)
theorem storeN_sound (P:At Z F σ Ψ₀ f own W ρ Ψ s) (O:SlotOK f W x i) (hv:VR Z F v val) (k:∀ Ψ' s',At Z F σ Ψ₀ f own W (ρ.set i v) Ψ' s'→Same s s'→Hid Ψ Ψ'→Q () s'):wpAny (Md Z) A (storeName f.env x val) Q Fls s:=by
 have hp:(f.env.scope.kind == .class || (f.env.scope.kind == .module&&f.env.locals != f.env.globals))=false:=by rw [P.R.fn];rfl
 rcases O.k with hx|hx
 ·refine P.T.ob.elim fun oL w=>w.elim fun m w=>wpAny_storeName_local hx (w.2.ns (P.S.frm _ _ _ w.1)) (fun h' hn' hs'=>(NsO.of hn').elim fun o' w'=>?_) hp
  refine k (Mine.put Ψ f.env.locals (o',false)) _ ⟨envR_stored P.R hv O (.loc hx (put_self ..) w'.2 (if_pos rfl)) (fun y u hy hN=>?_) (fun c=>some_put _),⟨P.T.lo,fun b hb=>Hid.put _ _ b (P.T.hd b hb),⟨o',_,put_self ..,w'.2⟩,fun y hwy hy=>?_⟩,P.S.turn w.1 (fun b x hb=>(hs'.2 b hb).trans) w'.1,P.ag.trans (Agree.put P.T.lo)⟩ ⟨rfl,rfl,rfl⟩ (Hid.put _ _)
  ·cases hN with
   | loc kk e hm2 hy2=>exact .loc kk (put_self ..) w'.2 ((if_neg hy).trans ((ns_other w.2 ((Prod.mk.inj (Option.some.inj (e.symm.trans w.1))).1▸hm2) y).symm.trans hy2))
   | cel kk l e hc=>exact .cel kk l ((put_ne (P.R.dis _ _ l)).trans e) hc
  ·exact (P.T.ce y hwy hy).elim fun c p=>⟨c,p.1,p.2.1,p.2.2.elim fun o p2=>p2.elim fun u p2=>⟨o,u,(put_ne (P.R.dis _ _ p.1)).trans p2.1,p2.2⟩⟩
 ·refine (P.T.ce x O.w hx).elim fun c w=>w.2.2.elim fun o w2=>w2.elim fun v' w2=>wpAny_storeName_cell P.R.fn hx w.1 (w2.2.is (P.S.frm _ _ _ w2.1)) fun h' hn' hs'=>(CellO.of hn').elim fun o' w'=>?_
  have hcL:=P.R.dis _ _ w.1
  refine k (Mine.put Ψ c (o',false)) _ ⟨envR_stored P.R hv O (.cel (.inl hx) w.1 (put_self ..) w'.2) (fun y u hy hN=>?_) (fun c=>some_put _),⟨P.T.lo,fun b hb=>Hid.put _ _ b (P.T.hd b hb),P.T.ob.elim fun oL p=>p.elim fun m p=>⟨oL,m,(put_ne (Ne.symm hcL)).trans p.1,p.2⟩,fun y hwy hy=>?_⟩,P.S.turn w2.1 (fun b x hb=>(hs'.2 b hb).trans) w'.1,P.ag.trans (Agree.put w.2.1)⟩ ⟨rfl,rfl,rfl⟩ (Hid.put _ _)
  ·cases hN with
   | loc kk e hm2 hy2=>exact .loc kk ((put_ne (Ne.symm hcL)).trans e) hm2 hy2
   | cel kk l e hc=>exact .cel kk l ((put_ne (P.R.cne l w.1 hy)).trans e) hc
  ·by_cases hyx:y=x
   ·exact ⟨c,hyx▸w.1,w.2.1,o',_,put_self ..,w'.2⟩
   ·exact (P.T.ce y hwy hy).elim fun c2 p=>⟨c2,p.1,p.2.1,p.2.2.elim fun o p2=>p2.elim fun u p2=>⟨o,u,(put_ne (P.R.cne p.1 w.1 hyx)).trans p2.1,p2.2⟩⟩
theorem store_sound {pos:Pos} (P:At Z F σ Ψ₀ f own W ρ Ψ s) (O:SlotOK f W x i) (hv:VR Z F v val) (k:∀ Ψ' s',At Z F σ Ψ₀ f own W (ρ.set i v) Ψ' s'→Same s s'→Hid Ψ Ψ'→Q () s'):wpAny (Md Z) A (assign (.Name x pos) f.env val) Q Fls s:=wpAny_assign_Name (storeN_sound P O hv k)
theorem bindName_sound (P:At Z F σ Ψ₀ f own W ρ Ψ s) (O:SlotOK f W x i) (hv:VR Z F v val) (k:∀ Ψ' s',At Z F σ Ψ₀ f own W (ρ.set i v) Ψ' s'→Same s s'→Hid Ψ Ψ'→Q () s'):wpAny (Md Z) A (bindName f.env x val) Q Fls s:=by
 unfold bindName
 exact wpAny_bind (wpAny_holding (wpAny_point (wpAny_bind (storeN_sound P O hv fun Ψ' s' a b c=>wpAny_point (k Ψ' s' a b c)))))
end
noncomputable def ownedIts:List String:=["enumerate","zip","dict_itemiterator","dict_reverseitemiterator","odict_iterator","itertools.zip_longest","itertools.pairwise"]
structure ItD where
 I:Addr
 fp:List Addr
 P:Nat→Value→Prop
 St:Nat→Heap→Prop
structure Iter (Z:Sta) (A:Around) (Ψ:Pv) (F:Fz) (xs:List V) (d:ItD):Prop where
 W:Walks Z.prog Z.w A d.I d.fp [d.I] xs.length d.P d.St
 fix:∀ b∈d.fp,b≠d.I→∃ o,F.o b=some o∨Ψ b=some (o,true)
 val:∀ (i:Nat) v,i<xs.length→d.P i v→∃ u,xs[i]?=some u∧VR Z F u v
 cls:∀ i h,d.St i h→∃ o T,h.get? d.I=some o∧o.cls=.type T∧ownedIts.contains T=false
section
variable {Z:Sta} {A:Around} {n:Nat} {C:Calls} {Ψ Ψ' Ψ'' Ψ₀:Pv} {F F':Fz} {σ σ':Mem} {h h':Heap} {a I:Addr} {o:Obj} {f:Fr} {ρ ρ':Env'} {s s':Shared} {i:Nat} {v:V} {x:Value} {Q:Value→Shared→Prop} {xs:List V} {vs:List Value} {d:ItD} {tk:Nat}
theorem Iter.mono (h:Iter Z A Ψ F xs d) (e:Ext F F') (s:Sub Ψ Ψ'):Iter Z A Ψ' F' xs d:=
 ⟨h.W,fun b hb hI=>(h.fix b hb hI).elim fun o q=>⟨o,q.elim (fun q=>.inl (e.inc _ _ q)) fun q=>.inr (s _ _ q)⟩,fun i v hi hv=>(h.val i v hi hv).elim fun u p=>⟨u,p.1,p.2.mono e⟩,h.cls⟩
theorem VRs.at (l:VRs Z F xs vs) (e:vs[i]?=some x):∃ v,xs[i]?=some v∧VR Z F v x:=by
 induction xs generalizing vs i with
 | nil=>exact l (fun vs=>vs[i]?=some x→∃ v,([]:List V)[i]?=some v∧VR Z F v x) (fun e=>nn e) e
 | cons u xs ih=>
  refine l (fun vs=>vs[i]?=some x→∃ v,(u::xs)[i]?=some v∧VR Z F v x) (fun y ys p l e=>?_) e
  cases i with
  | zero=>exact ⟨u,rfl,Option.some.inj e▸p⟩
  | succ i=>exact ih l e
theorem rangeInts_at (n:Nat) (a:Int) (i:Nat) (h:i<n):(rangeInts n a)[i]?=some (.int (a+i)):=by
 induction n generalizing a i with
 | zero=>exact absurd h (Nat.not_lt_zero _)
 | succ n ih=>
  cases i with
  | zero=>exact congrArg (fun z=>some (V.int z)) (Int.add_zero a).symm
  | succ i=>exact (ih (a+1) i (Nat.lt_of_succ_lt_succ h)).trans (congrArg (fun z=>some (V.int z)) ((Int.add_assoc ..).trans (congrArg (a+·) (Int.add_comm ..))))
theorem rangeInts_len (n:Nat) (a:Int):(rangeInts n a).length=n:=by
 induction n generalizing a with
 | zero=>rfl
 | succ n ih=>exact congrArg (·+1) (ih (a+1))
noncomputable def ItK (Z:Sta) (A:Around) (Ψ:Pv) (F:Fz) (σ:Mem) (s:Shared) (xs:List V) (Q:Value→Shared→Prop):Prop:=∀ d s',Iter Z A Ψ F xs d→d.St 0 s'.heap→Free F Ψ d.I→d.I=s.heap.objs.size→Stp Z Ψ F s F σ s'→Q (.ref d.I) s'
theorem it_new {fp P St} (S:SR Z F Ψ σ s.heap) (k:ItK Z A Ψ F σ s xs Q) (W:Walks Z.prog Z.w A s.heap.objs.size fp [s.heap.objs.size] xs.length P St) (fix:∀ b∈fp,b≠s.heap.objs.size→∃ o,F.o b=some o∨Ψ b=some (o,true)) (val:∀ (i:Nat) v,i<xs.length→P i v→∃ u,xs[i]?=some u∧VR Z F u v)
  (cls:∀ i h,St i h→∃ o T,h.get? s.heap.objs.size=some o∧o.cls=.type T∧ownedIts.contains T=false) (st:St 0 (s.heap.push o)):Q (.ref s.heap.objs.size) { s with heap:=s.heap.push o,toks:=tk }:=k ⟨s.heap.objs.size,fp,P,St⟩ _ ⟨W,fix,val,cls⟩ st S.new rfl (.new (Ext.refl F) (S.push o))
theorem fix2 (g:F.o a=some o):∀ b∈[I,a],b≠I→∃ o,F.o b=some o∨Ψ b=some (o,true):=fun b hb hI=>(List.mem_cons.mp hb).elim (fun e=>absurd e hI) fun hb=>⟨o,.inl ((List.mem_singleton.mp hb)▸g)⟩
theorem fix1:∀ b∈[I],b≠I→∃ o,F.o b=some o∨Ψ b=some (o,true):=fun b hb hI=>absurd (List.mem_singleton.mp hb) hI
theorem itList (hh:A.handled=none) {k:Nat} (S:SR Z F Ψ σ s.heap) (g:F.o a=some (lstObj vs k)) (l:VRs Z F xs vs) (k:ItK Z A Ψ F σ s xs Q):wpAny (Md Z) A (pyIter (.ref a)) Q Fls s:=by
 have g':=isList (S.frz _ _ g)
 refine wpAny_pyIter_list g' (it_new S k (fp:=[s.heap.objs.size,a]) (P:=fun i v=>vs.toArray[i]?=some v) (St:=fun i h=>h.IsListIter s.heap.objs.size a i∧h.IsList a vs.toArray) ?_ (fix2 g) (fun i v hi hv=>l.at ((List.getElem?_toArray ..).symm.trans hv)) (fun i h st=>st.1.elim fun o p=>⟨o,"list_iterator",p.1,p.2.1,by decide⟩) ⟨⟨_,Heap.get?_push_size _ rfl,rfl,rfl⟩,g'.push _⟩)
 rw [← l.length]
 exact Walks.list (prog:=Z.prog) (w:=Z.w) (A:=A) hh s.heap.objs.size a (Nat.ne_of_lt (Heap.lt_size (S.frz _ _ g))) vs.toArray
theorem itTup (hh:A.handled=none) {k:Nat} (S:SR Z F Ψ σ s.heap) (g:F.o a=some (tupObj vs k)) (l:VRs Z F xs vs) (k:ItK Z A Ψ F σ s xs Q):wpAny (Md Z) A (pyIter (.ref a)) Q Fls s:=by
 have g':=isTuple (S.frz _ _ g)
 refine wpAny_pyIter_tuple g' (it_new S k (fp:=[s.heap.objs.size,a]) (P:=fun i v=>vs.toArray[i]?=some v) (St:=fun i h=>h.IsTupleIter s.heap.objs.size a i∧h.IsTuple a vs.toArray) ?_ (fix2 g) (fun i v hi hv=>l.at ((List.getElem?_toArray ..).symm.trans hv)) (fun i h st=>st.1.elim fun o p=>⟨o,"tuple_iterator",p.1,p.2.1,by decide⟩) ⟨⟨_,Heap.get?_push_size _ rfl,rfl,rfl⟩,g'.at fun o e=>Heap.get?_push_of_some _ e⟩)
 rw [← l.length]
 exact Walks.tuple (prog:=Z.prog) (w:=Z.w) (A:=A) hh s.heap.objs.size a (Nat.ne_of_lt (Heap.lt_size (S.frz _ _ g))) vs.toArray
theorem key_at {es:List (Str×V)} {kvs:List (Str×Value)} {k:Str} {y:Value} (l:ER Z F es kvs) (hk:kvs[i]?=some (k,y)):(es.map fun e=>V.str e.1)[i]?=some (.str k):=by
 have e:(es.map (·.1))[i]?=some k:=by rw [← l.keys,List.getElem?_map,hk];rfl
 have e2:=congrArg (Option.map V.str) e
 rw [← List.getElem?_map,List.map_map] at e2
 exact e2
theorem itDict (hh:A.handled=none) {es:List (Str×V)} {kvs} (hs:(a == sysModules)=false) (S:SR Z F Ψ σ s.heap) (g':s.heap.get? a=some o) (fx:∀ b∈[s.heap.objs.size,a],b≠s.heap.objs.size→∃ o,F.o b=some o∨Ψ b=some (o,true)) (d:o.IsDictOf (sk Z) kvs) (l:ER Z F es kvs) (k:ItK Z A Ψ F σ s (es.map fun e=>V.str e.1) Q):wpAny (Md Z) A (pyIter (.ref a)) Q Fls s:=by
 refine (Heap.dictOf_iff.mpr ⟨o,g',d⟩:s.heap.DictOf (sk Z) a kvs).dictAt.elim fun ep hat=>?_
 refine wpAny_pyIter_dict hs hat (it_new S k (fp:=[s.heap.objs.size,a]) (P:=fun i v=>∃ k x,kvs[i]?=some (k,x)∧(sk Z).is k v=true) (St:=fun i h=>h.IsKeyIter s.heap.objs.size a i kvs.length ep∧h.DictAt (sk Z) a kvs ep) ?_ fx (fun i v hi hv=>hv.elim fun k p=>p.elim fun y p=>(Value.isStrOf_shape p.2).elim fun t q=>⟨.str k,key_at l p.1,q▸.str _ _⟩) (fun i h st=>st.1.elim fun o p=>⟨o,"dict_keyiterator",p.1,p.2.1,by decide⟩) ⟨⟨_,Heap.get?_push_size _ rfl,rfl,rfl⟩,hat.push _⟩)
 rw [List.length_map,← l.length]
 exact Walks.dictKeys (knd:=sk Z) (prog:=Z.prog) (w:=Z.w) (A:=A) hh s.heap.objs.size a (Nat.ne_of_lt (Heap.lt_size g')) kvs ep
theorem itByts (hh:A.handled=none) {b:List UInt8} {t:Tok} (S:SR Z F Ψ σ s.heap) (k:ItK Z A Ψ F σ s (b.map fun o=>V.int o.toNat) Q):wpAny (Md Z) A (pyIter (.bytes b.toArray t)) Q Fls s:=by
 refine KBw.pyIter_bytes (it_new S k (fp:=[s.heap.objs.size]) (P:=fun i v=>∃ c u,b.toArray[i]?=some c∧v=.int (c.toNat:Int) u) (St:=fun i h=>KBw.IsBytesIter h s.heap.objs.size b.toArray t i) ?_ fix1 (fun i v hi hv=>hv.elim fun c p=>p.elim fun u p=>⟨.int c.toNat,?_,p.2▸.int _ _⟩) (fun i h st=>st.elim fun o p=>⟨o,"bytes_iterator",p.1,p.2.1,by decide⟩) ⟨_,Heap.get?_push_size _ rfl,rfl,rfl⟩)
 ·rw [List.length_map]
  exact KBw.walks (prog:=Z.prog) (w:=Z.w) (A:=A) hh s.heap.objs.size b.toArray t
 ·rw [List.getElem?_map,(List.getElem?_toArray ..).symm.trans p.1];rfl
theorem itRng (hh:A.handled=none) {b:Int} {t u w:Tok} (hb:-(2 ^ 40)<b∧b<2 ^ 40) (S:SR Z F Ψ σ s.heap) (g:F.o a=some (rngObj 0 b t u w)) (k:ItK Z A Ψ F σ s (rangeInts b.toNat 0) Q):wpAny (Md Z) A (pyIter (.ref a)) Q Fls s:=by
 have hsz:Builtin.Range.rangeSize 0 b 1=((b.toNat:Nat):Int):=by rw [rangeSize_nat];simp
 refine wpAny_pyIter_range (S.frz _ _ g) (small_one (by lia) (by lia) (by lia) (by lia)) (it_new S k (fp:=[s.heap.objs.size]) (P:=fun i v=>∃ t,v=.int (0+(i:Nat)*1) t) (St:=fun i h=>IsRangeIter h s.heap.objs.size (0+(i:Nat)*1) ((b.toNat:Int)-(i:Nat)) 1) ?_ fix1 (fun i v hi hv=>hv.elim fun t e=>⟨_,rangeInts_at _ _ _ (rangeInts_len b.toNat 0▸hi),by rw [e,Int.mul_one];exact .int _ _⟩) (fun i h st=>⟨_,"range_iterator",st,rfl,by decide⟩) ?_)
 ·rw [rangeInts_len]
  exact Walks.range (prog:=Z.prog) (w:=Z.w) (A:=A) hh s.heap.objs.size 0 1 b.toNat
 ·show IsRangeIter _ _ _ _ _
  rw [hsz]
  simpa using Heap.get?_push_size _ rfl
theorem iter_sound (hh:A.handled=none) (S:SR Z F Ψ σ s.heap) (hv:VR Z F v x) (q:itemsOf v σ=some (xs,σ')) (k:ItK Z A Ψ F σ' s xs Q):wpAny (Md Z) A (pyIter x) Q Fls s:=by
 have rk:∀ {ys},ret ys σ=some (xs,σ')→(ItK Z A Ψ F σ s ys Q→wpAny (Md Z) A (pyIter x) Q Fls s)→wpAny (Md Z) A (pyIter x) Q Fls s:=fun q g=>ret_k (G:=fun xs σ'=>ItK Z A Ψ F σ' s xs Q→wpAny (Md Z) A (pyIter x) Q Fls s) q g k
 cases v with
 | list ys=>exact rk q fun k=>hv (fun x=>wpAny (Md Z) A (pyIter x) Q Fls s) fun a vs n z g l=>itList hh S g l k
 | tup ys=>exact rk q fun k=>hv (fun x=>wpAny (Md Z) A (pyIter x) Q Fls s) fun a vs n z g l=>itTup hh S g l k
 | dict es=>exact rk q fun k=>hv (fun x=>wpAny (Md Z) A (pyIter x) Q Fls s) fun a o kvs hs z g d l=>itDict hh hs S (S.frz _ _ g) (fix2 g) d l k
 | byts b=>exact rk q fun k=>hv (fun x=>wpAny (Md Z) A (pyIter x) Q Fls s) fun t=>itByts hh S k
 | rng p b=>exact if_k q fun hb q=>rk q fun k=>hv (fun x=>wpAny (Md Z) A (pyIter x) Q Fls s) fun a t u w g=>itRng hh hb.2 S (hb.1▸g) k
 | _=>exact nn q
theorem rev_sound (hh:A.handled=none) (S:SR Z F Ψ σ s.heap) (hv:VR Z F (.list xs) x) (k:ItK Z A Ψ F σ s xs.reverse Q):wpAny (Md Z) A (call (.type "reversed") [x]) (fun y s₁=>wpAny (Md Z) A (pyIter y) Q Fls s₁) Fls s:=
 hv (fun x=>wpAny (Md Z) A (call (.type "reversed") [x]) (fun y s₁=>wpAny (Md Z) A (pyIter y) Q Fls s₁) Fls s) fun a vs kk z g l=>by
 have g':=S.frz _ _ g
 refine call_reversed_list (isList g') ?_
 have hsz:vs.toArray.size=xs.length:=l.length
 have hit:(s.heap.push (revObj a ((vs.toArray.size:Int)-1))).IsRevIter s.heap.objs.size a ((vs.toArray.size:Int)-1):=⟨_,Heap.get?_push_size _ rfl,rfl,rfl⟩
 refine wpAny_pyIter_revIter hit (it_new S k (fp:=[s.heap.objs.size,a]) (P:=fun i v=>vs.toArray[vs.toArray.size-1-i]?=some v) (St:=fun i h=>i≤vs.toArray.size∧h.IsRevIter s.heap.objs.size a ((vs.toArray.size:Int)-1-(i:Int))∧h.IsList a vs.toArray) ?_ (fix2 g) (fun i v hi hv=>?_) (fun i h st=>st.2.1.elim fun o p=>⟨o,"list_reverseiterator",p.1,p.2.1,by decide⟩) ⟨Nat.zero_le _,by simpa using hit,(isList g').push _⟩)
 ·rw [List.length_reverse,← hsz]
  exact Walks.listRev (prog:=Z.prog) (w:=Z.w) (A:=A) hh s.heap.objs.size a (Nat.ne_of_lt (Heap.lt_size g')) vs.toArray
 ·rw [List.length_reverse] at hi
  exact (l.at (((List.getElem?_toArray ..).symm.trans hv))).elim fun u p=>⟨u,by rw [List.getElem?_reverse hi,← hsz];exact p.1,p.2⟩
theorem owned_cls {T:String} {tgt:PySem.Expr} {v:Value} {Q:Unit→Shared→Prop} (ho:s.heap.get? I=some o) (hc:o.cls=.type T) (hT:ownedIts.contains T=false) (h:Q () s):wpAny (Md Z) A (letOwnedTupleGo tgt (.ref I) v) Q Fls s:=by
 have both:wpAny (Md Z) A (do
   let (.ref r,.ref a):=(Value.ref I,v)|return
   let o←load r
   match o.cls,o.data with
   | .type n,.fields vs=>
    if ["enumerate","zip","dict_itemiterator","dict_reverseitemiterator","odict_iterator","itertools.zip_longest","itertools.pairwise"].contains n&&vs[0]? == some (rawInt a) then
     rule "for.unpacks-the-owned-tuple"
     updateField r 0 .none
   | _,_=>pure ()) Q Fls s:=by
  cases v with
  | ref b=>
   refine wpAny_bind (wpAny_load ho ?_)
   rw [hc]
   cases o.data with
   | fields vs=>
    show wpAny _ _ (if (["enumerate","zip","dict_itemiterator","dict_reverseitemiterator","odict_iterator","itertools.zip_longest","itertools.pairwise"].contains T&&vs[0]? == some (rawInt b))=true then _ else _) _ _ _
    rw [if_neg (by rw [show (["enumerate","zip","dict_itemiterator","dict_reverseitemiterator","odict_iterator","itertools.zip_longest","itertools.pairwise"].contains T)=false from hT];exact Bool.false_ne_true)]
    exact wpAny_pure h
   | _=>exact wpAny_pure h
  | _=>exact wpAny_pure h
 cases tgt with
 | Tuple=>exact both
 | List=>exact both
 | _=>exact wpAny_pure h
theorem owned_sound {tgt:PySem.Expr} {v:Value} {Q:Unit→Shared→Prop} (it:Iter Z A Ψ F xs d) (st:d.St i s.heap) (h:Q () s):wpAny (Md Z) A (letOwnedTupleGo tgt (.ref d.I) v) Q Fls s:=(it.cls i _ st).elim fun o p=>p.elim fun T p=>owned_cls p.1 p.2.1 p.2.2 h
noncomputable def TgOK (f:Fr) (W:Str→Prop) (ts:Nm):Prop:=∀ p∈ts,SlotOK f W p.1 p.2
noncomputable abbrev Stored (Z:Sta) (F:Fz) (σ:Mem) (Ψ₀ Ψ:Pv) (f:Fr) (own:List Addr) (W:Str→Prop) (s:Shared) (Q:Unit→Shared→Prop) (ρ':Env'):Prop:=∀ Ψ' s',At Z F σ Ψ₀ f own W ρ' Ψ' s'→Same s s'→Hid Ψ Ψ'→Q () s'
variable {own:List Addr} {W:Str→Prop} {U:Unit→Shared→Prop} {ts:Nm}
theorem each_sound {es:List PySem.Expr} {is:List Nat} {vs:List V} {xs:List Value} (hm:manyNm es is=some ts) (ok:TgOK f W ts) (hl:vs.length=is.length) (hv:VRs Z F vs xs) (P:At Z F σ Ψ₀ f own W ρ Ψ s) (k:Stored Z F σ Ψ₀ Ψ f own W s U ((is.zip vs).foldl (fun ρ p=>ρ.set p.1 p.2) ρ)) :
  wpAny (Md Z) A (assignInOrder ((assignEach es f.env).map (·.2)) xs) U Fls s:=by
 induction es generalizing is ts vs xs Ψ ρ s with
 | nil=>
  match is,vs,hm,hl,hv,k with
  | [],[],_,_,hv,k=>exact hv (fun xs=>wpAny (Md Z) A (assignInOrder [] xs) U Fls s) (wpAny_pure (k Ψ s P ⟨rfl,rfl,rfl⟩ fun _ x=>x))
 | cons e es ih=>
  match is,vs,hm,hl,hv,k with
  | i::is,v::vs,hm,hl,hv,k=>
   exact obk hm fun x hx hm=>obk hm fun r hr hm=>hv (fun xs=>wpAny (Md Z) A (assignInOrder ((assignEach (e::es) f.env).map (·.2)) xs) U Fls s) fun y ys h l=>oNamek (G:=fun e=>wpAny (Md Z) A (assignInOrder ((assignEach (e::es) f.env).map (·.2)) (y::ys)) U Fls s) hx fun p=>
    have ok:TgOK f W ((x,i)::r):=Option.some.inj hm▸ok
    wpAny_bind (f:=fun _=>assignInOrder ((assignEach es f.env).map (·.2)) ys) (wpAny_holding (store_sound P (ok (x,i) (.head _)) h fun Ψ' s' P' c' hid=>ih hr (fun p hp=>ok p (.tail _ hp)) (Nat.succ.inj hl) l P' fun Ψ'' s'' P'' c'' hid''=>k Ψ'' s'' P'' (c'.trans c'') fun a ha=>hid'' a (hid a ha)))
theorem no_star_targets {env:Env} {es:List PySem.Expr} {is:List Nat} (h:manyNm es is=some ts):(assignEach es env).findIdx? (·.1)=none∧(assignEach es env).length=is.length∧es.length=is.length:=by
 induction es generalizing is ts with
 | nil=>
  match is,h with
  | [],_=>exact ⟨rfl,rfl,rfl⟩
 | cons e es ih=>
  match is,h with
  | i::is,h=>
   exact obk h fun x hx h=>obk h fun r hr h=>oNamek (G:=fun e=>(assignEach (e::es) env).findIdx? (·.1)=none∧(assignEach (e::es) env).length=is.length+1∧es.length+1=is.length+1) hx fun p=>
    have w:=ih hr
    ⟨by
     show ((false,assign (.Name x p) env)::assignEach es env).findIdx? (·.1)=none
     rw [List.findIdx?_cons,w.1];rfl,congrArg (·+1) w.2.1,congrArg (·+1) w.2.2⟩
theorem assign_sound (hh:A.handled=none) {t:Tg} {tgt:PySem.Expr} (P:At Z F σ Ψ₀ f own W ρ Ψ s) (hv:VR Z F v x) (hb:bindT t v ρ=some ρ') (ht:TgR ts t tgt) (ok:TgOK f W ts) (k:Stored Z F σ Ψ₀ Ψ f own W s U ρ'):wpAny (Md Z) A (assign tgt f.env x) U Fls s:=by
 cases ht with
 | @one i e h=>
  exact obk h fun y hy h=>oNamek (G:=fun e=>wpAny (Md Z) A (assign e f.env x) U Fls s) hy fun p=>store_sound P ((Option.some.inj h▸ok:TgOK f W [(y,i)]) (y,i) (.head _)) hv fun Ψ' s' P'=>k Ψ' s' (Option.some.inj hb▸P')
 | many h=>
  exact hv.oTup (G:=fun _ x=>wpAny (Md Z) A (assign _ f.env x) U Fls s) hb fun us a ws m z g l hb=>ifo_k hb fun hl hb=>by
   have w:=no_star_targets (env:=f.env) h
   rw [arm_assign_Tuple]
   exact wpAny_bind (wpAny_standAt (wpAny_unpack_tuple hh (isTuple (P.S.frz _ _ g)) (by rw [w.2.1,List.size_toArray,l.length];exact hl) w.1 fun h' he=>each_sound (s:={ s with heap:=h' }) h ok hl.symm l ⟨P.R,P.T,P.S.extBut P.S.new he,P.ag⟩ fun Ψ' s' P' c' hid=>k Ψ' s' (Option.some.inj hb▸P') c' hid))
end
section
variable {α β:Type} [BEq α] [LawfulBEq α] {l r:List (α×β)} {x a:α} {b c:β}
theorem lk_k {G:Prop} (h:((a,c)::l).lookup x=some b) (k1:x=a→c=b→G) (k2:x≠a→l.lookup x=some b→G):G:=by
 rw [List.lookup_cons] at h
 cases e:x == a with
 | true=>rw [e] at h;exact k1 (eq_of_beq e) (Option.some.inj h)
 | false=>rw [e] at h;exact k2 (fun q=>by rw [q,beq_self_eq_true] at e;cases e) h
theorem lk_self:((x,c)::l).lookup x=some c:=by rw [List.lookup_cons,beq_self_eq_true]
theorem lk_ne (h:x≠a):((a,c)::l).lookup x=l.lookup x:=by rw [List.lookup_cons,beq_false_of_ne h]
theorem lookup_mem (h:l.lookup x=some b):(x,b)∈l:=by
 induction l with
 | nil=>cases h
 | cons e l ih=>exact lk_k (a:=e.1) (c:=e.2) h (fun h1 h2=>h1▸h2▸.head _) fun _ h=>.tail _ (ih h)
theorem lookup_append_none (h:l.lookup x=none):(l++r).lookup x=r.lookup x:=by
 induction l with
 | nil=>rfl
 | cons e l ih=>
  have hn:x≠e.1:=fun q=>nomatch (show ((e.1,e.2)::l).lookup x=some e.2 by rw [q];exact lk_self).symm.trans h
  exact (lk_ne (c:=e.2) hn).trans (ih ((lk_ne (c:=e.2) hn).symm.trans h))
theorem lookup_append_some (h:l.lookup x=some b):(l++r).lookup x=some b:=by
 induction l with
 | nil=>cases h
 | cons e l ih=>exact lk_k (a:=e.1) (c:=e.2) h (fun h1 h2=>h1▸h2▸lk_self) fun hn h=>(lk_ne (c:=e.2) hn).trans (ih h)
end
theorem lookup_filter {β:Type} {p:Str×β→Bool} {l:List (Str×β)} {x:Str} {b:β} (h:(l.filter p).lookup x=some b) (hp:∀ c,p (x,c)=p (x,b)):l.lookup x=some b:=by
 induction l with
 | nil=>cases h
 | cons e l ih=>
  rw [List.filter_cons] at h
  cases hb:p e with
  | true=>
   rw [if_pos hb] at h
   exact lk_k (a:=e.1) (c:=e.2) h (fun h1 h2=>h1▸h2▸lk_self) fun hn h=>(lk_ne (c:=e.2) hn).trans (ih h)
  | false=>
   rw [hb,if_neg Bool.false_ne_true] at h
   have w:=(List.mem_filter.mp (lookup_mem h)).2
   refine (lk_ne (c:=e.2) fun q=>?_).trans (ih h)
   have h1:p (e.1,e.2)=true:=by rw [← q];exact (hp e.2).trans w
   exact nomatch hb.symm.trans h1
theorem nodup_lookup {l:Nm} (h:(l.map (·.1)).Nodup) {x:Str} {j:Nat} (hm:(x,j)∈l):l.lookup x=some j:=by
 induction l with
 | nil=>cases hm
 | cons q l ih=>
  have n:=List.nodup_cons.mp h
  rcases List.mem_cons.mp hm with e|hm
  ·rw [← e];exact lk_self
  ·exact (lk_ne (c:=q.2) fun (e:x=q.1)=>n.1 (List.mem_map.mpr ⟨_,hm,e⟩)).trans (ih n.2 hm)
theorem nodup_slot {l:Nm} (h:(slots l).Nodup) {x y:Str} {i:Nat} (h1:(x,i)∈l) (h2:(y,i)∈l):x=y:=by
 induction l with
 | nil=>cases h1
 | cons q l ih=>
  have n:=List.nodup_cons.mp h
  rcases List.mem_cons.mp h1 with e1|h1'
  ·rcases List.mem_cons.mp h2 with e2|h2'
   ·exact congrArg (·.1) (e1.trans e2.symm)
   ·exact absurd (List.mem_map.mpr ⟨_,h2',(congrArg (·.2) e1:i=q.2)⟩) n.1
  ·rcases List.mem_cons.mp h2 with e2|h2'
   ·exact absurd (List.mem_map.mpr ⟨_,h1',(congrArg (·.2) e2:i=q.2)⟩) n.1
   ·exact ih n.2 h1' h2'
noncomputable def clFrom (cells:List (Str×Addr)):List (Str×NameKind)→List (Str×Addr)→List (Str×Addr)
 | [],cs=>cs
 | (x,k)::r,cs=>clFrom cells r (if k == .free then (x,(cells.lookup x).getD 0)::cs else cs)
noncomputable def clTurn (env:Env) (x:Str×NameKind) (r:List (Str×Addr)):Sem (ForInStep (List (Str×Addr))):=if (x.2 == NameKind.free)=true then do let y←cellOf env x.1;pure (ForInStep.yield ((x.1,y)::r)) else pure (ForInStep.yield r)
theorem clLoop {env:Env} (names:List (Str×NameKind)) (cs:List (Str×Addr)) (hp:∀ p∈names,p.2=.free→∃ c,env.cells.lookup p.1=some c):forIn names cs (clTurn env)=pure (clFrom env.cells names cs):=by
 induction names generalizing cs with
 | nil=>rfl
 | cons p names ih=>
  rw [List.forIn_cons]
  unfold clTurn
  by_cases hk:p.2=.free
  ·refine (hp p (.head _) hk).elim fun c hc=>?_
   have hcell:cellOf env p.1=pure c:=by unfold cellOf;rw [hc]
   have hb:(p.2 == NameKind.free)=true:=beq_iff_eq.mpr hk
   rw [if_pos hb,hcell,pure_bind,pure_bind]
   refine (ih _ fun q hq=>hp q (.tail _ hq)).trans ?_
   show _=pure (clFrom env.cells names (if (p.2 == NameKind.free)=true then (p.1,(env.cells.lookup p.1).getD 0)::cs else cs))
   rw [if_pos hb,hc];rfl
  ·have hb:¬ (p.2 == NameKind.free)=true:=fun e=>hk (eq_of_beq e)
   rw [if_neg hb,pure_bind]
   refine (ih _ fun q hq=>hp q (.tail _ hq)).trans ?_
   show _=pure (clFrom env.cells names (if (p.2 == NameKind.free)=true then (p.1,(env.cells.lookup p.1).getD 0)::cs else cs))
   rw [if_neg hb]
theorem closureFor_eq {scope:Scope} {env:Env} (h:∀ p∈scope.names,p.2=.free→∃ c,env.cells.lookup p.1=some c):closureFor scope env=pure (clFrom env.cells scope.names []):=by
 have e:closureFor scope env=(forIn scope.names ([]:List (Str×Addr)) (clTurn env) >>= fun cs=>pure cs):=rfl
 rw [e,clLoop scope.names [] h,pure_bind]
theorem clFrom_old {cells:List (Str×Addr)} {names:List (Str×NameKind)} {cs:List (Str×Addr)} {x:Str} {c:Addr} (hp:∀ p∈names,p.2=.free→∃ c,cells.lookup p.1=some c) (h:∀ y d,cs.lookup y=some d→cells.lookup y=some d) (e:(clFrom cells names cs).lookup x=some c):cells.lookup x=some c:=by
 induction names generalizing cs with
 | nil=>exact h x c e
 | cons p names ih=>
  refine ih (fun q hm=>hp q (.tail _ hm)) (fun y d hy=>?_) e
  by_cases hb:(p.2 == NameKind.free)=true
  ·rw [if_pos hb] at hy
   exact lk_k hy (fun h1 h2=>(hp p (.head _) (eq_of_beq hb)).elim fun c' hc'=>by rw [hc'] at h2;rw [h1,hc'];exact congrArg some h2) fun _ hy=>h y d hy
  ·rw [if_neg hb] at hy
   exact h y d hy
theorem clFrom_has {cells:List (Str×Addr)} {names:List (Str×NameKind)} {cs:List (Str×Addr)} {x:Str} (h:(x,NameKind.free)∈names∨∃ c,cs.lookup x=some c):∃ c,(clFrom cells names cs).lookup x=some c:=by
 induction names generalizing cs with
 | nil=>exact h.elim (fun h=>nomatch h) id
 | cons p names ih=>
  refine ih (cs:=if (p.2 == NameKind.free)=true then (p.1,(cells.lookup p.1).getD 0)::cs else cs) ?_
  have old:(∃ c,cs.lookup x=some c)→∃ c,(if (p.2 == NameKind.free)=true then (p.1,(cells.lookup p.1).getD 0)::cs else cs).lookup x=some c:=fun h=>by
   by_cases hb:(p.2 == NameKind.free)=true
   ·rw [if_pos hb]
    by_cases e:x=p.1
    ·exact ⟨_,by rw [e];exact lk_self⟩
    ·rw [lk_ne e];exact h
   ·rw [if_neg hb];exact h
  exact h.elim (fun h=>(List.mem_cons.mp h).elim (fun e=>.inr (by rw [← e,if_pos (beq_self_eq_true _)];exact ⟨_,lk_self⟩)) .inl) fun h=>.inr (old h)
noncomputable def relab (env:Env) (n:Str) (k:NameKind):NameKind:=if (k == NameKind.free&&env.scope.kind == .function&&env.kindOf n == some .cell)=true then NameKind.cell else k
theorem relab_or {env:Env} {n:Str} {k:NameKind}:relab env n k=k∨(k=.free∧relab env n k=.cell):=by
 unfold relab
 by_cases h:(k == NameKind.free&&env.scope.kind == .function&&env.kindOf n == some .cell)=true
 ·exact .inr ⟨andk h fun h _=>andk h fun h _=>eq_of_beq h,if_pos h⟩
 ·exact .inl (if_neg h)
theorem relabel_names {env:Env} (names:List (Str×NameKind)):(names.map fun (n,k)=>if (k == NameKind.free&&env.scope.kind == .function&&env.kindOf n == some .cell)=true then (n,NameKind.cell) else (n,k))=names.map fun p=>(p.1,relab env p.1 p.2):=
 List.map_congr_left fun p _=>by
  show (if (p.2 == NameKind.free&&env.scope.kind == .function&&env.kindOf p.1 == some .cell)=true then (p.1,NameKind.cell) else (p.1,p.2))=(p.1,relab env p.1 p.2)
  unfold relab
  split <;> rfl
theorem lookup_map {α β:Type} [BEq α] [LawfulBEq α] (g:α→β→β) {l:List (α×β)} {x:α}:(l.map fun p=>(p.1,g p.1 p.2)).lookup x=(l.lookup x).map (g x):=by
 induction l with
 | nil=>rfl
 | cons e l ih=>
  show ((e.1,g e.1 e.2)::_).lookup x=Option.map (g x) (((e.1,e.2)::l).lookup x)
  by_cases h:x=e.1
  ·rw [h,lk_self,lk_self];rfl
  ·rw [lk_ne h,lk_ne h];exact ih
theorem lookup_relabel {env:Env} {names:List (Str×NameKind)} {x:Str} {k:NameKind} (h:names.lookup x=some k) :
  ∃ k',(names.map fun (n,k)=>if (k == NameKind.free&&env.scope.kind == .function&&env.kindOf n == some .cell) then (n,NameKind.cell) else (n,k)).lookup x=some k'∧(k'=k∨(k=.free∧k'=.cell)):=by
 rw [relabel_names,lookup_map (relab env),h]
 exact ⟨_,rfl,relab_or⟩
theorem relabel_lookup {env:Env} {names:List (Str×NameKind)} {x:Str} {k':NameKind} (h:(names.map fun (n,k)=>if (k == NameKind.free&&env.scope.kind == .function&&env.kindOf n == some .cell) then (n,NameKind.cell) else (n,k)).lookup x=some k'):∃ k,names.lookup x=some k∧(k'=k∨(k=.free∧k'=.cell)):=by
 rw [relabel_names,lookup_map (relab env)] at h
 exact (Option.map_eq_some_iff.mp h).elim fun k p=>⟨k,p.1,p.2▸relab_or⟩
noncomputable def unset (ts:Nm) (ρ:Env'):Env':=(slots ts).foldl (fun ρ i=>ρ.set i V.unb) ρ
theorem unset_get (is:List Nat) (ρ:Env') (j:Nat):(j∉is→(is.foldl (fun ρ i=>ρ.set i V.unb) ρ)[j]?=ρ[j]?)∧(j∈is→∀ v,(is.foldl (fun ρ i=>ρ.set i V.unb) ρ)[j]?=some v→v=.unb):=by
 induction is generalizing ρ with
 | nil=>exact ⟨fun _=>rfl,(fun h=>nomatch h)⟩
 | cons i is ih=>
  have w:=ih (ρ.set i .unb)
  refine ⟨fun h=>(w.1 fun hm=>h (.tail _ hm)).trans (List.getElem?_set_ne fun (e:i=j)=>h (e▸.head _)),fun h v e=>?_⟩
  by_cases hm:j∈is
  ·exact w.2 hm v e
  ·exact (List.mem_cons.mp h).elim (fun q=>set_k ((w.1 hm).symm.trans e) (fun _ e=>e.symm) fun n _=>absurd q.symm n) fun h=>absurd h hm
theorem foldl_set_len (is:List Nat) (ρ:Env'):(is.foldl (fun ρ i=>ρ.set i V.unb) ρ).length=ρ.length:=by
 induction is generalizing ρ with
 | nil=>rfl
 | cons i is ih=>exact (ih _).trans (List.length_set ..)
theorem bindAll_agree {is:List Nat} {vs:List V} {ρ ρ':Env'} (hl:is.length=vs.length) (hl':ρ.length=ρ'.length) (h:∀ j,j∉is→ρ[j]?=ρ'[j]?):(is.zip vs).foldl (fun ρ p=>ρ.set p.1 p.2) ρ=(is.zip vs).foldl (fun ρ p=>ρ.set p.1 p.2) ρ':=by
 induction is generalizing vs ρ ρ' with
 | nil=>exact List.ext_getElem? fun j=>h j (fun hm=>nomatch hm)
 | cons i is ih=>
  match vs,hl with
  | v::vs,hl=>
   refine ih (vs:=vs) (Nat.succ.inj hl) ((List.length_set ..).trans (hl'.trans (List.length_set ..).symm)) fun j hj=>?_
   by_cases e:i=j
   ·rw [List.getElem?_set,List.getElem?_set,hl',if_pos e,if_pos e]
   ·exact (List.getElem?_set_ne e).trans ((h j fun hm=>(List.mem_cons.mp hm).elim (fun q=>e q.symm) hj).trans (List.getElem?_set_ne e).symm)
theorem manyNm_slots {es:List PySem.Expr} {is:List Nat} {ts:Nm} (h:manyNm es is=some ts):slots ts=is:=by
 induction es generalizing is ts with
 | nil=>
  match is,h with
  | [],h=>exact Option.some.inj h▸rfl
 | cons e es ih=>
  match is,h with
  | i::is,h=>exact obk h fun x _ h=>obk h fun r hr h=>Option.some.inj h▸congrArg (i::·) (ih hr)
theorem bindT_unset {t:Tg} {tgt:PySem.Expr} {ts:Nm} {v:V} {ρ ρ':Env'} (ht:TgR ts t tgt) (hb:bindT t v ρ=some ρ'):bindT t v (unset ts ρ)=some ρ':=by
 cases ht with
 | one h=>
  refine obk h fun y _ h=>?_
  rw [← Option.some.inj h,← Option.some.inj hb]
  exact congrArg some (List.set_set ..)
 | many h=>
  refine uTup_k (G:=fun v=>bindT (.many _) v (unset ts ρ)=some ρ') hb fun vs hb=>ifo_k hb fun hl hb=>(if_pos hl).trans ?_
  rw [← Option.some.inj hb]
  exact congrArg some (bindAll_agree hl (foldl_set_len _ _) fun j hj=>(unset_get _ ρ j).1 (manyNm_slots h▸hj))
structure CompOK (sc:Sc) (nm:Nm) (scope:Scope) (ts:Nm):Prop where
 kind:scope.kind=.function
 noCell:∀ p∈scope.names,p.2≠.cell
 loc:∀ p∈scope.names,p.2=.local→scope.names.lookup p.1=some .local
 tgs:∀ p∈ts,scope.names.lookup p.1=some .local
 nm1:(ts.map (·.1)).Nodup
 sl:(slots ts).Nodup
 apart:∀ i∈slots ts,i∉slots (capt sc scope.names nm)
 free:∀ p∈scope.names,p.2=.free→sc.lookup p.1=some .cell∨sc.lookup p.1=some .free
section
variable {Z:Sta} {Ψ Ψ':Pv} {F:Fz} {f:Fr} {ρ:Env'} {scope:Scope} {ts:Nm} {D:Addr} {sc:Sc} {nm:Nm}
theorem compOK_of (h:compOK sc nm scope ts=true):CompOK sc nm scope ts:=
 andk h fun h _=>andk h fun h h10=>andk h fun h h9=>andk h fun h h8=>andk h fun h h7=>andk h fun h h6=>andk h fun h h5=>andk h fun h h4=>andk h fun h _=>andk h fun h1 _=>
  ⟨eq_of_beq h1,fun p hp=>bne_iff_ne.mp (List.all_eq_true.mp h4 p hp),fun p hp hk=>ork (List.all_eq_true.mp h5 p hp) (fun h=>notk h fun h=>nomatch (beq_iff_eq.mpr hk).symm.trans h) eq_of_beq,fun p hp=>eq_of_beq (List.all_eq_true.mp h6 p hp),of_decide_eq_true h7,of_decide_eq_true h8,
   fun i hi hm=>notk (List.all_eq_true.mp h9 i hi) (fun h=>nomatch (List.contains_iff_mem.mpr hm).symm.trans h),fun p hp hk=>ork (List.all_eq_true.mp h10 p hp) (fun h=>notk h fun h=>nomatch (beq_iff_eq.mpr hk).symm.trans h) fun h=>ork h (fun h=>.inl (eq_of_beq h)) fun h=>.inr (eq_of_beq h)⟩
theorem seen_kind (R:EnvR Z Ψ F f ρ) {x:Str} (h:f.sc.lookup x=some .cell∨f.sc.lookup x=some .free):f.env.kindOf x=some .cell∨f.env.kindOf x=some .free:=
 h.elim (fun h=>(R.kd _ _ h).elim fun k p=>p.2.elim (fun e=>.inl (e▸p.1)) fun e=>nomatch e.1) fun h=>(R.kd _ _ h).elim fun k p=>p.2.elim (fun e=>.inr (e▸p.1)) fun e=>.inl (e.2▸p.1)
theorem free_cells (R:EnvR Z Ψ F f ρ) (K:CompOK f.sc nm scope ts):∀ p∈scope.names,p.2=.free→∃ c,f.env.cells.lookup p.1=some c:=fun p hp hk=>R.has p.1 (seen_kind R (K.free p hp hk))
noncomputable abbrev compF (f:Fr) (scope:Scope) (ts:Nm) (D:Addr):Fr:=⟨compEnvC scope (clFrom f.env.cells scope.names []) D f.env,scope.names,ts++capt f.sc scope.names f.nm⟩
theorem compEnvR (R:EnvR Z Ψ F f ρ) (K:CompOK f.sc f.nm scope ts) (s:Sub Ψ Ψ') (hD:∀ x c,f.env.cells.lookup x=some c→c≠D):EnvR Z Ψ' F (compF f scope ts D) (unset ts ρ):=by
 have hf:=free_cells R K
 have old:∀ x c,(clFrom f.env.cells scope.names []).lookup x=some c→f.env.cells.lookup x=some c:=fun x c h=>clFrom_old hf (fun _ _ h=>by cases h) h
 refine ⟨K.kind,R.gl,R.bl,fun x k h=>lookup_relabel h,fun x c h=>hD x c (old x c h),fun x y c h1 h2=>R.inj x y c (old x c h1) (old y c h2),fun x hx=>?_,fun x c h=>(R.cin x c (old x c h)).elim fun o e=>⟨o,s _ _ e⟩,fun x i v hx hv hu=>?_⟩
 ·have hk:∃ k',(relabel scope f.env).names.lookup x=some k'∧(k'=.cell∨k'=.free):=hx.elim (fun h=>⟨_,h,.inl rfl⟩) fun h=>⟨_,h,.inr rfl⟩
  refine hk.elim fun k' w=>(relabel_lookup w.1).elim fun k p=>?_
  have hfree:k=.free:=p.2.elim (fun e=>w.2.elim (fun e2=>absurd (e.symm.trans e2) (K.noCell _ (lookup_mem p.1))) fun e2=>e.symm.trans e2) fun e=>e.1
  exact clFrom_has (.inl (hfree▸lookup_mem p.1))
 ·refine (isVar_kind hx).elim fun k w=>?_
  cases ht:ts.lookup x with
  | some j=>
   have e:=Option.some.inj ((lookup_append_some (r:=capt f.sc scope.names f.nm) ht).symm.trans w.2.2.1)
   exact absurd ((unset_get (slots ts) ρ i).2 (List.mem_map.mpr ⟨(x,i),lookup_mem (e▸ht),rfl⟩) v hv) hu
  | none=>
   have hn:(capt f.sc scope.names f.nm).lookup x=some i:=(lookup_append_none ht).symm.trans w.2.2.1
   have hm:=lookup_mem hn
   refine andk (List.mem_filter.mp hm).2 fun hc2 hc3=>?_
   have hc2:scope.names.lookup x=some .free:=eq_of_beq hc2
   have hi:i∉slots ts:=fun h=>K.apart i h (List.mem_map.mpr ⟨_,hm,rfl⟩)
   have sk:=seen_kind R (ork hc3 (fun h=>.inl (eq_of_beq h)) fun h=>.inr (eq_of_beq h))
   have hx':isVar f.sc f.nm x i=true:=by
    unfold isVar
    rw [lookup_filter hn fun _=>rfl,w.2.2.2.1,w.2.2.2.2]
    refine ork hc3 (fun h=>?_) fun h=>?_
    ·rw [h,Bool.or_true,Bool.true_or,beq_self_eq_true];rfl
    ·rw [h,Bool.or_true,beq_self_eq_true];rfl
   refine (R.rd x i v hx' (((unset_get (slots ts) ρ i).1 hi).symm.trans hv) hu).elim fun val p=>⟨val,p.1,?_⟩
   cases p.2 with
   | loc k=>exact sk.elim (fun h=>nomatch h.symm.trans k) fun h=>nomatch h.symm.trans k
   | cel k l e hco=>exact (lookup_relabel (env:=f.env) hc2).elim fun k' q=>(clFrom_has (cells:=f.env.cells) (cs:=[]) (.inl (lookup_mem hc2))).elim fun c' hc'=>.cel (q.2.elim (fun e=>.inr (e▸q.1)) fun e=>.inl (e.2▸q.1)) (hc'.trans ((old x c' hc').symm.trans l)) (s _ _ e) hco
theorem compTg (K:CompOK f.sc f.nm scope ts):TgOK (compF f scope ts D) (fun x=>x∈ts.map (·.1)) ts:=fun p hp=>
 ⟨List.mem_map.mpr ⟨p,hp,rfl⟩,.inl (lookup_relabel_local (K.tgs p hp)),fun y hy=>(isVar_kind hy).elim fun k w=>(List.mem_append.mp (lookup_mem w.2.2.1)).elim (fun h=>nodup_slot K.sl h hp) fun h=>absurd (List.mem_map.mpr ⟨_,h,rfl⟩) (K.apart p.2 (List.mem_map.mpr ⟨p,hp,rfl⟩)),
  fun j hj=>(isVar_kind hj).elim fun k w=>(Option.some.inj ((lookup_append_some (r:=capt f.sc scope.names f.nm) (nodup_lookup K.nm1 hp)).symm.trans w.2.2.1)).symm⟩
end
noncomputable abbrev dicObj:Obj:={ cls:=.type "dict",data:=.dict #[] }
noncomputable abbrev MIS (Z:Sta) (A:Around) (C:Calls):MI→Prop
 | .fwd e=>EvS Z A C e
 | .rev e=>EvS Z A C e
noncomputable def SubT (Ψ Ψ':Pv):Prop:=∀ a o,Ψ a=some (o,true)→Ψ' a=some (o,true)
noncomputable abbrev testsOf (ifs:List PySem.Expr) (env:Env):Sem Bool:=forIn ifs true fun c r=>if r=true then do let ok←isTrue c env (eval c env);pure (ForInStep.yield ok) else pure (ForInStep.yield r)
section
variable {Z:Sta} {A:Around} {n:Nat} {C:Calls} {Ψ Ψa Ψb:Pv} {F F' Fa Fb:Fz} {σ σ' σa σb:Mem} {h h':Heap} {f:Fr} {ρ:Env'} {s:Shared} {i:Nat} {xs:List V} {d:ItD} {Q:Value→Shared→Prop} {o:Obj}
theorem evI_sound (CX:CC Z A C n) {it:MI} (hi:MIS Z A C it) {e:PySem.Expr} (h:chkI f.sc f.nm it e=true) (R:EnvR Z Ψ F f ρ) (E:Ext F F') (S:SR Z F' Ψ σ s.heap) (q:evI C it ρ σ=some (xs,σ'))
  (k:∀ F₁ d s',Iter Z A Ψ F₁ xs d→d.St 0 s'.heap→Free F₁ Ψ d.I→Stp Z Ψ F' s F₁ σ' s'→Q (.ref d.I) s'):wpAny (Md Z) A (eval e f.env) (fun x s₁=>wpAny (Md Z) A (pyIter x) Q Fls s₁) Fls s:=by
 cases it with
 | fwd a=>exact bnd_k (m:=ev C a ρ) q fun v σ₁ q1 q2=>wpPR (hi Ψ F f ρ e h R F' σ v σ₁ s E S q1) fun x s₁ F₁ p hv=>iter_sound CX.rm.hand p.S hv q2 fun d s' it st fr _ p2=>k F₁ d s' it st fr (p.trans p2)
 | rev a=>
  exact xCallk (G:=fun e=>wpAny (Md Z) A (eval e f.env) (fun x s₁=>wpAny (Md Z) A (pyIter x) Q Fls s₁) Fls s) h fun g ys ks p h=>andk h fun h0 h=>nilk (G:=fun ks=>wpAny (Md Z) A (eval (.Call g ys ks p) f.env) (fun x s₁=>wpAny (Md Z) A (pyIter x) Q Fls s₁) Fls s) h0 <|
   xNamek (G:=fun g=>wpAny (Md Z) A (eval (.Call g ys [] p) f.env) (fun x s₁=>wpAny (Md Z) A (pyIter x) Q Fls s₁) Fls s) h fun x pn h=>l1k (G:=fun ys=>wpAny (Md Z) A (eval (.Call (.Name x pn) ys [] p) f.env) (fun x s₁=>wpAny (Md Z) A (pyIter x) Q Fls s₁) Fls s) h fun y h=>andk h fun h1 h=>andk h fun h2 h3=>by
   rw [arm_eval_Call_Name']
   exact bnd_k (m:=ev C a ρ) q fun v σ₁ q1 q2=>named_sound (g:=10) (b:=.reversed) CX hi R h1 (congrArg some (of_decide_eq_true h2).symm) rfl h3 E S q1 fun z s₁ F₁ p1 hz=>uList_k (G:=fun v=>VR Z F₁ v z→wpAny (Md Z) A (call (.type "reversed") [z]) (fun x s₁=>wpAny (Md Z) A (pyIter x) Q Fls s₁) Fls s₁) q2
    (fun ys q2 hz=>ret_k (G:=fun xs σ'=>(∀ F₁ d s',Iter Z A Ψ F₁ xs d→d.St 0 s'.heap→Free F₁ Ψ d.I→Stp Z Ψ F' s F₁ σ' s'→Q (.ref d.I) s')→wpAny (Md Z) A (call (.type "reversed") [z]) (fun x s₁=>wpAny (Md Z) A (pyIter x) Q Fls s₁) Fls s₁) q2 (fun k=>rev_sound CX.rm.hand p1.S hz fun d s' it st fr _ p2=>k F₁ d s' it st fr (p1.trans p2)) k) hz
theorem Iter.moveT (it:Iter Z A Ψ F xs d) (st:d.St i h) (Sa:SR Z Fa Ψa σa h) (Sb:SR Z Fb Ψb σb h') (ea:Ext F Fa) (eb:Ext F Fb) (sa:SubT Ψ Ψa) (sb:SubT Ψ Ψb) (ha:Ψa d.I=some (o,false)) (hb:Ψb d.I=some (o,false)):d.St i h':=
 it.W.frame i h h' st fun b hm x hx=>if hI:b=d.I then by
   subst hI
   exact Option.some.inj ((Sa.frm _ _ _ ha).symm.trans hx)▸Sb.frm _ _ _ hb
  else (it.fix b hm hI).elim fun y hy=>hy.elim (fun hy=>Option.some.inj ((Sa.frz _ _ (ea.inc _ _ hy)).symm.trans hx)▸Sb.frz _ _ (eb.inc _ _ hy)) fun hy=>Option.some.inj ((Sa.frm _ _ _ (sa _ _ hy)).symm.trans hx)▸Sb.frm _ _ _ (sb _ _ hy)
theorem Iter.move (it:Iter Z A Ψ F xs d) (st:d.St i h) (Sa:SR Z Fa Ψa σa h) (Sb:SR Z Fb Ψb σb h') (ea:Ext F Fa) (eb:Ext F Fb) (sa:Sub Ψ Ψa) (sb:Sub Ψ Ψb) (ha:Ψa d.I=some (o,false)) (hb:Ψb d.I=some (o,false)):d.St i h':=it.moveT st Sa Sb ea eb (fun a o=>sa a (o,true)) (fun a o=>sb a (o,true)) ha hb
theorem tests_sound {cs:MEs} (hcs:AllTs Z A C cs) {ifs:List PySem.Expr} (h:chkEs f.sc f.nm cs ifs=true) (R:EnvR Z Ψ F f ρ):Sn Z A Ψ F BR (testsOf ifs f.env) (cnd C cs ρ):=
 match cs,ifs,hcs,h with
 | .nil,[],_,_=>Sn.pure (v:=true) fun _ _=>rfl
 | .cons c .nil,x::ifs,hcs,h=>andk h fun h1 h2=>nilk (G:=fun ifs=>Sn Z A Ψ F BR (testsOf (x::ifs) f.env) (cnd C (.cons c .nil) ρ)) h2 fun F' σ r σ' s E S q=>wpAny_tests_one (hcs.2.1 Ψ F f ρ x h1 R F' σ r σ' s E S q)
 | .cons c (.cons _ _),_,_,_=>Sn.none fun _=>rfl
noncomputable def CompTurn (Z:Sta) (A:Around) (tgt:PySem.Expr) (it:Value) (ifs:List PySem.Expr) (env:Env) (B:(Shared→Prop)→Shared→Prop) (N:Shared→Prop) (K:Shared→Prop) (s:Shared):Prop:=
 wpAny (Md Z) A (pyNext it) (fun r s₁=>match r with
  | none=>N s₁
  | some v=>wpAny (Md Z) A (letOwnedTupleGo tgt it v) (fun _ s₁=>wpAny (Md Z) A (assign tgt env v) (fun _ s₂=>wpAny (Md Z) A (testsOf ifs env) (fun ok s₃=>if ok=true then B K s₃ else K s₃) Fls s₂) Fls s₁) Fls s₁) Fls s
variable {Rr:Result→Shared→Prop} {target iter:PySem.Expr} {ifs:List PySem.Expr} {scope:Scope} {pos:Pos} {env:Env}
noncomputable abbrev bodyL (Z:Sta) (A:Around) (elt:PySem.Expr) (acc:Value) (env:Env) (K:Shared→Prop) (s:Shared):Prop:=wpAny (Md Z) A (eval elt env) (fun x s₄=>wpAny (Md Z) A (call (.builtin "list.append") [acc,x]) (fun _ s₅=>K s₅) Fls s₄) Fls s
noncomputable abbrev bodyD (Z:Sta) (A:Around) (kx vx:PySem.Expr) (D:Addr) (env:Env) (K:Shared→Prop) (s:Shared):Prop:=wpAny (Md Z) A (eval kx env) (fun kv s₄=>wpAny (Md Z) A (eval vx env) (fun vv s₅=>wpAny (Md Z) A (dictSet D kv vv) (fun _ s₆=>K s₆) Fls s₅) Fls s₄) Fls s
theorem comp_loopL {elt:PySem.Expr} {it acc:Value} (I:Nat→Shared→Prop) (turn:∀ n s,I n s→CompTurn Z A target it ifs env (bodyL Z A elt acc env) (fun s=>Rr (.ok .next) s) (fun s=>∃ m,m<n∧I m s) s) (n:Nat) (h:I n s):codeAny (Md Z) A (.compLoop (.ListComp elt [⟨target,iter,ifs,0⟩] scope pos) 0 it acc env) Rr s:=by
 refine codeAny_loop rfl I (fun n s hI=>?_) n h
 show wpAny _ A ((compTurn (.ListComp elt [⟨target,iter,ifs,0⟩] scope pos) 0 it acc env).onRaise (fun x=>do noteFrame x env;theTreesLotGoes x)) _ _ s
 refine wpAny_noted (wpAny_mono (E:=Fls) ?_ (fun _ _ z=>z) fun _ _ z=>z.elim)
 rw [compTurn_list]
 refine wpAny_bind (wpAny_standAt (wpAny_bind (wpAny_mono (turn n s hI) (fun r s₁ h₁=>?_) fun _ _ h'=>h')))
 cases r with
 | none=>exact wpAny_pure h₁
 | some v=>
  refine wpAny_bind (wpAny_mono h₁ (fun _ s₁ h₁=>wpAny_bind (wpAny_mono h₁ (fun _ s₂ h₂=>wpAny_bind (wpAny_mono h₂ (fun ok s₃ h₃=>?_) fun _ _ h'=>h')) fun _ _ h'=>h')) fun _ _ h'=>h')
  cases ok with
  | false=>exact wpAny_pure ⟨rfl,h₃⟩
  | true=>exact wpAny_bind (wpAny_bind (wpAny_mono h₃ (fun x s₄ h₄=>wpAny_bind (wpAny_mono h₄ (fun _ s₅ h₅=>wpAny_pure (wpAny_pure ⟨rfl,h₅⟩)) fun _ _ h'=>h')) fun _ _ h'=>h'))
theorem comp_loopD {kx vx:PySem.Expr} {it:Value} {D:Addr} (I:Nat→Shared→Prop) (turn:∀ n s,I n s→CompTurn Z A target it ifs env (bodyD Z A kx vx D env) (fun s=>Rr (.ok .next) s) (fun s=>∃ m,m<n∧I m s) s) (n:Nat) (h:I n s):codeAny (Md Z) A (.compLoop (.DictComp kx vx [⟨target,iter,ifs,0⟩] scope pos) 0 it (.ref D) env) Rr s:=by
 refine codeAny_loop rfl I (fun n s hI=>?_) n h
 show wpAny _ A ((compTurn (.DictComp kx vx [⟨target,iter,ifs,0⟩] scope pos) 0 it (.ref D) env).onRaise (fun x=>do noteFrame x env;theTreesLotGoes x)) _ _ s
 refine wpAny_noted (wpAny_mono (E:=Fls) ?_ (fun _ _ z=>z) fun _ _ z=>z.elim)
 rw [compTurn_dict]
 refine wpAny_bind (wpAny_standAt (wpAny_bind (wpAny_mono (turn n s hI) (fun r s₁ h₁=>?_) fun _ _ h'=>h')))
 cases r with
 | none=>exact wpAny_pure h₁
 | some v=>
  refine wpAny_bind (wpAny_mono h₁ (fun _ s₁ h₁=>wpAny_bind (wpAny_mono h₁ (fun _ s₂ h₂=>wpAny_bind (wpAny_mono h₂ (fun ok s₃ h₃=>?_) fun _ _ h'=>h')) fun _ _ h'=>h')) fun _ _ h'=>h')
  cases ok with
  | false=>exact wpAny_pure ⟨rfl,h₃⟩
  | true=>exact wpAny_bind (wpAny_bind (wpAny_mono h₃ (fun kv s₄ h₄=>wpAny_bind (wpAny_holding (wpAny_mono h₄ (fun vv s₅ h₅=>wpAny_bind (wpAny_standAt (wpAny_holding (wpAny_mono h₅ (fun _ s₆ h₆=>wpAny_pure ⟨rfl,h₆⟩) fun _ _ h'=>h')))) fun _ _ h'=>h'))) fun _ _ h'=>h'))
theorem drop_cons {α:Type} {l:List α} {i:Nat} {x:α} {r:List α} (h:l.drop i=x::r):l[i]?=some x∧l.drop (i+1)=r∧i<l.length:=
 have h1:l[i]?=some x:=List.head?_drop.symm.trans (congrArg List.head? h)
 ⟨h1,List.drop_drop.symm.trans (congrArg (List.drop 1) h),(List.getElem?_eq_some_iff.mp h1).1⟩
end
structure Own3 (Ψ:Pv) (I D L:Addr):Prop where
 nI:Ψ I=none
 nD:Ψ D=none
 nL:Ψ L=none
 ID:I≠D
 IL:I≠L
 DL:D≠L
structure CAt (Z:Sta) (Ψ:Pv) (F:Fz) (xs:List V) (d:ItD) (D L:Addr) (Pe:Fz→Obj→Mem→List V→Prop) (h:Heap) (F₁:Fz) (Ψ₁:Pv) (σ₁:Mem) (i:Nat) (rest:List V) (oD:Obj):Prop where
 ext:Ext F F₁
 sr:SR Z F₁ Ψ₁ σ₁ h
 ag:Agree [d.I,D,L] Ψ Ψ₁
 hI:∃ o,Ψ₁ d.I=some (o,false)
 hD:Ψ₁ D=some (oD,false)
 hL:∃ o m,Ψ₁ L=some (o,false)∧NsO o m
 st:d.St i h
 le:i≤xs.length
 dr:xs.drop i=rest
 pe:Pe F₁ oD σ₁ rest
structure StepOK (Z:Sta) (C:Calls) (f:Fr) (scope:Scope) (ts:Nm) (D L:Addr) (t:Tg) (cs:MEs) (ρ:Env') (Pe:Fz→Obj→Mem→List V→Prop) (B:(Shared→Prop)→Shared→Prop) (F₁:Fz) (oD:Obj) (σ₁:Mem) (y:V) (rest:List V) (ρ':Env') (b:Bool) (σb:Mem):Prop where
 bi:bindT t y ρ=some ρ'
 cn:cnd C cs ρ' σ₁=some (b,σb)
 no:b=false→∀ F₂,Ext F₁ F₂→Pe F₂ oD σb rest
 yes:b=true→∀ Ψ₂ F₂ s₂ K,Ext F₁ F₂→EnvR Z Ψ₂ F₂ (compF f scope ts L) ρ'→SR Z F₂ Ψ₂ σb s₂.heap→Ψ₂ D=some (oD,false)→
  (∀ F₃ σ₃ oD' s₃,Ext F₂ F₃→SR Z F₃ (Mine.put Ψ₂ D (oD',false)) σ₃ s₃.heap→Same s₂ s₃→Pe F₃ oD' σ₃ rest→K s₃)→B K s₂
section
variable {Z:Sta} {A:Around} {n:Nat} {C:Calls} {Ψ Ψ₁:Pv} {F F₁:Fz} {σ₁:Mem} {h h':Heap} {f:Fr} {ρ:Env'} {s:Shared} {i:Nat} {xs rest:List V} {d:ItD} {oD:Obj} {D L:Addr} {Pe:Fz→Obj→Mem→List V→Prop} {tgt:PySem.Expr} {ifs:List PySem.Expr} {scope:Scope} {ts:Nm} {t:Tg} {cs:MEs} {B:(Shared→Prop)→Shared→Prop} {N:Shared→Prop}
theorem own3 (O:Own3 Ψ d.I D L) (T:CAt Z Ψ F xs d D L Pe h F₁ Ψ₁ σ₁ i rest oD):∀ a∈[d.I,D,L],Ψ a=none∧∃ o,Ψ₁ a=some (o,false):=fun a ha=>
 (List.mem_cons.mp ha).elim (fun e=>e▸⟨O.nI,T.hI⟩) fun ha=>(List.mem_cons.mp ha).elim (fun e=>e▸⟨O.nD,_,T.hD⟩) fun ha=>(List.mem_singleton.mp ha)▸⟨O.nL,T.hL.elim fun o p=>p.elim fun _ p=>⟨o,p.1⟩⟩
theorem Own3.none {Ψ:Pv} {I D L:Addr} (O:Own3 Ψ I D L):∀ a∈[I,D,L],Ψ a=Option.none:=fun a ha=>(List.mem_cons.mp ha).elim (fun e=>e▸O.nI) fun ha=>(List.mem_cons.mp ha).elim (fun e=>e▸O.nD) fun ha=>(List.mem_singleton.mp ha)▸O.nL
theorem compStores (K:CompOK f.sc f.nm scope ts) (h:∃ o m,Ψ₁ L=some (o,false)∧NsO o m):Stores Ψ₁ (compF f scope ts L).env [L] (fun x=>x∈ts.map (·.1)):=
 ⟨.head _,fun b hb=>h.elim fun o p=>p.elim fun _ p=>⟨o,(List.mem_singleton.mp hb)▸p.1⟩,h,fun x hw hx=>(List.mem_map.mp hw).elim fun p hp=>by
  have e:=lookup_relabel_local (env:=f.env) (K.tgs p hp.1)
  rw [hp.2] at e
  exact nomatch (show (relabel scope f.env).names.lookup x=some .cell from hx).symm.trans e⟩
noncomputable abbrev CInv (Z:Sta) (Ψ:Pv) (F:Fz) (xs:List V) (d:ItD) (D L:Addr) (Pe:Fz→Obj→Mem→List V→Prop) (s:Shared) (m:Nat) (s':Shared):Prop:=∃ F₁ Ψ₁ σ₁ i rest oD,Same s s'∧CAt Z Ψ F xs d D L Pe s'.heap F₁ Ψ₁ σ₁ i rest oD∧m=rest.length
theorem comp_nil (O:Own3 Ψ d.I D L) (it:Iter Z A Ψ F xs d) (T:CAt Z Ψ F xs d D L Pe s.heap F₁ Ψ₁ σ₁ i [] oD)
  (fin:∀ s',SR Z F₁ Ψ σ₁ s'.heap→Free F₁ Ψ D→s'.heap.get? D=some oD→Free F₁ Ψ L→(∃ m,s'.heap.Ns L m)→Same s s'→N s') (P:Value→Shared→Prop):wpAny (Md Z) A (pyNext (.ref d.I)) (fun r s₁=>match r with
  | none=>N s₁
  | some v=>P v s₁) Fls s:=by
 have hi:i=xs.length:=Nat.le_antisymm T.le (List.drop_eq_nil_iff.mp T.dr)
 refine it.W.done _ _ _ (hi▸T.st) fun h' tk' hk=>?_
 have w:=T.sr.drop T.ag (own3 O T)
 have keep:∀ b o,b≠d.I→s.heap.get? b=some o→h'.get? b=some o:=fun b o hb e=>hk b o (fun hm=>hb (List.mem_singleton.mp hm)) e
 exact fin { s with heap:=h',toks:=tk' } (w.1.heap (w.2 d.I (.head _)) keep) (w.2 D (.tail _ (.head _))) (keep D _ (Ne.symm O.ID) (T.sr.frm _ _ _ T.hD)) (w.2 L (.tail _ (.tail _ (.head _)))) (T.hL.elim fun oL p=>p.elim fun m p=>⟨m,p.2.ns (keep L _ (Ne.symm O.IL) (T.sr.frm _ _ _ p.1))⟩) ⟨rfl,rfl,rfl⟩
theorem comp_cons (CX:CC Z A C n) (hcs:AllTs Z A C cs) (hts:TgR ts t tgt) (K:CompOK f.sc f.nm scope ts) (hifs:chkEs scope.names (ts++capt f.sc scope.names f.nm) cs ifs=true) (R:EnvR Z Ψ F f ρ) (O:Own3 Ψ d.I D L) (it:Iter Z A Ψ F xs d) {y:V} {ρ':Env'} {b:Bool} {σb:Mem}
  (T:CAt Z Ψ F xs d D L Pe s.heap F₁ Ψ₁ σ₁ i (y::rest) oD) (so:StepOK Z C f scope ts D L t cs ρ Pe B F₁ oD σ₁ y rest ρ' b σb) {K':Shared→Prop} (go:∀ s' F₂ Ψ₂ σ₂ oD',Same s s'→CAt Z Ψ F xs d D L Pe s'.heap F₂ Ψ₂ σ₂ (i+1) rest oD'→K' s'):CompTurn Z A tgt (.ref d.I) ifs (compF f scope ts L).env B N K' s:=by
 have own:=own3 O T
 have dc:=drop_cons T.dr
 refine it.W.item i _ _ _ dc.2.2 T.st fun v h₁ tk₁ hP st₁ hk₁=>(it.cls _ _ st₁).elim fun oI w=>w.elim fun TT w=>T.hI.elim fun oI0 hI0=>?_
 have S1:=T.sr.turn hI0 (fun b x hb e=>hk₁ b x (fun hm=>hb (List.mem_singleton.mp hm)) e) w.1
 have hv:VR Z F₁ y v:=(it.val i v dc.2.2 hP).elim fun u p=>(Option.some.inj (dc.1.symm.trans p.1))▸p.2.mono T.ext
 refine owned_sound (it.mono T.ext (T.ag.sub fun a ha=>(own a ha).1)) st₁ ?_
 have agI:Agree [d.I,D,L] Ψ (Mine.put Ψ₁ d.I (oI,false)):=T.ag.trans (Agree.put (.head _))
 have subI:=agI.sub O.none
 have hcL:∀ x c,f.env.cells.lookup x=some c→c≠L:=fun x c hl e=>(R.cin x c hl).elim fun o ho=>nomatch (e▸ho).symm.trans O.nL
 have TS:=compStores (Ψ₁:=Mine.put Ψ₁ d.I (oI,false)) (L:=L) K (T.hL.elim fun oL p=>p.elim fun m p=>⟨oL,m,(put_ne (Ne.symm O.IL)).trans p.1,p.2⟩)
 refine assign_sound (f:=compF f scope ts L) CX.rm.hand ⟨(compEnvR (D:=L) R K subI hcL).ext T.ext,TS,S1,Agree.refl [L] _⟩ hv (bindT_unset hts so.bi) hts (compTg K) fun Ψ₂ s₂ P c₂ hid2=>?_
 have keep2:∀ a,a≠L→Ψ₂ a=Mine.put Ψ₁ d.I (oI,false) a:=fun a ha=>P.ag a fun hm=>ha (List.mem_singleton.mp hm)
 have hI2:Ψ₂ d.I=some (oI,false):=(keep2 _ O.IL).trans (put_self ..)
 have hD2:Ψ₂ D=some (oD,false):=(keep2 D O.DL).trans ((put_ne (Ne.symm O.ID)).trans T.hD)
 have ag2:Agree [d.I,D,L] Ψ Ψ₂:=agI.trans (P.ag.wide fun x hm=>(List.mem_singleton.mp hm)▸.tail _ (.tail _ (.head _)))
 have sub2:=ag2.sub O.none
 have st₂:d.St (i+1) s₂.heap:=it.move st₁ S1 P.S T.ext T.ext subI sub2 (put_self ..) hI2
 refine wpPR (tests_sound (f:=compF f scope ts L) hcs hifs P.R F₁ σ₁ b σb _ (Ext.refl _) P.S so.cn) fun ok s₃ F₃ p3 (hb:b=ok)=>?_
 subst hb
 have st₃:d.St (i+1) s₃.heap:=it.move st₂ P.S p3.S T.ext (T.ext.trans p3.e) sub2 sub2 hI2 hI2
 have c₃:Same s s₃:=Same.trans c₂ p3.c
 cases hb:b with
 | false=>
  rw [if_neg Bool.false_ne_true]
  exact go s₃ F₃ Ψ₂ σb oD c₃ ⟨T.ext.trans p3.e,p3.S,ag2,⟨_,hI2⟩,hD2,P.T.ob,st₃,dc.2.2,dc.2.1,so.no hb F₃ p3.e⟩
 | true=>
  rw [if_pos rfl]
  refine so.yes hb Ψ₂ F₃ s₃ K' p3.e (P.R.ext p3.e) p3.S hD2 fun F₄ σ₄ oD' s₄ e4 S4 c4 pe=>?_
  have hI4:Mine.put Ψ₂ D (oD',false) d.I=some (oI,false):=(put_ne O.ID).trans hI2
  have ag4:Agree [d.I,D,L] Ψ (Mine.put Ψ₂ D (oD',false)):=ag2.trans (Agree.put (.tail _ (.head _)))
  exact go s₄ F₄ _ σ₄ oD' (Same.trans c₃ c4) ⟨T.ext.trans (p3.e.trans e4),S4,ag4,⟨_,hI4⟩,put_self ..,P.T.ob.elim fun oL p=>p.elim fun m p=>⟨oL,m,(put_ne (Ne.symm O.DL)).trans p.1,p.2⟩,
   it.move st₃ p3.S S4 (T.ext.trans p3.e) (T.ext.trans (p3.e.trans e4)) sub2 (ag4.sub O.none) hI2 hI4,dc.2.2,dc.2.1,pe⟩
theorem comp_walk (CX:CC Z A C n) (hcs:AllTs Z A C cs) (hts:TgR ts t tgt) (K:CompOK f.sc f.nm scope ts) (hifs:chkEs scope.names (ts++capt f.sc scope.names f.nm) cs ifs=true) (R:EnvR Z Ψ F f ρ) (O:Own3 Ψ d.I D L) (it:Iter Z A Ψ F xs d)
  (so:∀ F₁ oD σ₁ y rest,Pe F₁ oD σ₁ (y::rest)→∃ ρ' b σb,StepOK Z C f scope ts D L t cs ρ Pe B F₁ oD σ₁ y rest ρ' b σb)
  (fin:∀ F₂ σ₂ oD s',Ext F F₂→Pe F₂ oD σ₂ []→SR Z F₂ Ψ σ₂ s'.heap→Free F₂ Ψ D→s'.heap.get? D=some oD→Free F₂ Ψ L→(∃ m,s'.heap.Ns L m)→Same s s'→N s') (m:Nat) (s':Shared) (h:CInv Z Ψ F xs d D L Pe s m s') :
  CompTurn Z A tgt (.ref d.I) ifs (compF f scope ts L).env B N (fun s'=>∃ k,k<m∧CInv Z Ψ F xs d D L Pe s k s') s':=
 h.elim fun F₁ h=>h.elim fun Ψ₁ h=>h.elim fun σ₁ h=>h.elim fun i h=>h.elim fun rest h=>h.elim fun oD h=>by
  cases rest with
  | nil=>exact comp_nil O it h.2.1 (fun s'' a b c e f g=>fin F₁ σ₁ oD s'' h.2.1.ext h.2.1.pe a b c e f (Same.trans h.1 g)) _
  | cons y rest=>exact (so F₁ oD σ₁ y rest h.2.1.pe).elim fun ρ' w=>w.elim fun b w=>w.elim fun σb w=>comp_cons CX hcs hts K hifs R O it h.2.1 w fun s'' F₂ Ψ₂ σ₂ oD' c T=>⟨rest.length,h.2.2▸Nat.lt_succ_self _,F₂,Ψ₂,σ₂,i+1,rest,oD',Same.trans h.1 c,T,rfl⟩
theorem comp_begin {s:Shared} {o:Obj} {h₂:Heap} (it:Iter Z A Ψ F xs d) (st:d.St 0 s.heap) (fI:Free F Ψ d.I) (S:SR Z F Ψ σ₁ s.heap) (hns:h₂.Ns (s.heap.push o).objs.size (fun x=>([]:List (Str×Value)).reverse.lookup x)) (hsb:Heap.SameBut (s.heap.push o).objs.size ((s.heap.push o).push dicObj) h₂) (pe:Pe F o σ₁ xs) (hf:o.isFreed=false) :
  Own3 Ψ d.I s.heap.objs.size (s.heap.push o).objs.size∧∃ Ψ₁,CAt Z Ψ F xs d s.heap.objs.size (s.heap.push o).objs.size Pe h₂ F Ψ₁ σ₁ 0 xs o:=by
 have fD:=S.new
 refine (it.cls _ _ st).elim fun oI w=>w.elim fun _ w=>?_
 have hI:=Heap.lt_size w.1
 have hsz:(s.heap.push o).objs.size=s.heap.objs.size+1:=Heap.size_push ..
 have ID:d.I≠s.heap.objs.size:=Nat.ne_of_lt hI
 have DL:s.heap.objs.size≠(s.heap.push o).objs.size:=hsz▸Nat.ne_of_lt (Nat.lt_succ_self _)
 have IL:d.I≠(s.heap.push o).objs.size:=hsz▸Nat.ne_of_lt (Nat.lt_succ_of_lt hI)
 have SI:=S.hide fI w.1
 have fD2:Free F (Mine.put Ψ d.I (oI,false)) s.heap.objs.size:=⟨fD.fz,(put_ne (Ne.symm ID)).trans fD.pv,fD.ce⟩
 have SD:=(SI.push o).hide fD2 (Heap.get?_push_size _ hf)
 have fL:=SD.new
 have nL:Ψ (s.heap.push o).objs.size=none:=(put_ne (Ne.symm IL)).symm.trans ((put_ne (Ne.symm DL)).symm.trans fL.pv)
 refine (NsO.of hns).elim fun oL wl=>?_
 have SL:=((SD.push dicObj).sameBut fL hsb).hide fL wl.1
 have O:Own3 Ψ d.I s.heap.objs.size (s.heap.push o).objs.size:=⟨fI.pv,fD.pv,nL,ID,IL,DL⟩
 have pI:Mine.put (Mine.put (Mine.put Ψ d.I (oI,false)) s.heap.objs.size (o,false)) (s.heap.push o).objs.size (oL,false) d.I=some (oI,false):=(put_ne IL).trans ((put_ne ID).trans (put_self ..))
 have ag:Agree [d.I,s.heap.objs.size,(s.heap.push o).objs.size] Ψ (Mine.put (Mine.put (Mine.put Ψ d.I (oI,false)) s.heap.objs.size (o,false)) (s.heap.push o).objs.size (oL,false)):=fun b hb=>
  (put_ne fun (e:b=_)=>hb (e▸.tail _ (.tail _ (.head _)))).trans ((put_ne fun (e:b=_)=>hb (e▸.tail _ (.head _))).trans (put_ne fun (e:b=_)=>hb (e▸.head _)))
 exact ⟨O,_,Ext.refl F,SL,ag,⟨_,pI⟩,(put_ne DL).trans (put_self ..),⟨oL,_,put_self ..,wl.2⟩,it.move st SI SL (Ext.refl _) (Ext.refl _) (fun a o e=>put_old fI.pv e) (ag.sub O.none) (put_self ..) pI,Nat.zero_le _,rfl,pe⟩
end
section
variable {Z:Sta} {A:Around} {n:Nat} {C:Calls} {Ψ:Pv} {F F':Fz} {σ σ₁ σ₂:Mem} {f:Fr} {ρ:Env'} {s:Shared} {xs:List V} {tgt iter x kx:PySem.Expr} {ifs:List PySem.Expr} {scope:Scope} {ts:Nm} {t:Tg} {cs:MEs} {el ek:ME} {mi:MI} {pos p2:Pos} {use:Option (Value→Sem Unit)} {Q:Value→Shared→Prop}
theorem noSet_folded {env:Env} (h:noSet iter=true) (v:Value):foldedSetIterable iter env v=pure v:=by
 cases iter with
 | Set=>cases h
 | _=>rfl
noncomputable def PeL (Z:Sta) (C:Calls) (cs:MEs) (el:ME) (t:Tg) (ρ:Env') (full:List V) (σ₂:Mem) (F₁:Fz) (oD:Obj) (σ₁:Mem) (rest:List V):Prop:=∃ vs acc accv k,loopC (cnd C cs) (ev C el) t ρ rest σ₁=some (vs,σ₂)∧oD=lstObj accv k∧VRs Z F₁ acc accv∧acc++vs=full
noncomputable def PeD (Z:Sta) (C:Calls) (cs:MEs) (ek el:ME) (t:Tg) (ρ:Env') (full:List (Str×V)) (σ₂:Mem) (F₁:Fz) (oD:Obj) (σ₁:Mem) (rest:List V):Prop:=∃ acc accv,loopD (cnd C cs) (ev C ek) (ev C el) t ρ acc rest σ₁=some (full,σ₂)∧oD.IsDictOf (sk Z) accv∧ER Z F₁ acc accv∧acc.length≤cap
theorem stepL {full:List V} {D L:Addr} (hel:EvS Z A C el) (hx:chkE scope.names (ts++capt f.sc scope.names f.nm) el x=true) (hcap:full.length<cap) (F₁:Fz) (oD:Obj) (σ₁:Mem) (y:V) (rest:List V) (h:PeL Z C cs el t ρ full σ₂ F₁ oD σ₁ (y::rest)) :
  ∃ ρ' b σb,StepOK Z C f scope ts D L t cs ρ (PeL Z C cs el t ρ full σ₂) (bodyL Z A x (.ref D) (compF f scope ts L).env) F₁ oD σ₁ y rest ρ' b σb:=
 h.elim fun vs h=>h.elim fun acc h=>h.elim fun accv h=>h.elim fun k h=>bndl h.1 fun ρ' eb q=>bnd_k q fun b σb qb q=>⟨ρ',b,σb,eb,qb,fun hb F₂ e=>by
   subst hb
   exact ⟨vs,acc,accv,k,q,h.2.1,h.2.2.1.mono e,h.2.2.2⟩,fun hb Ψ₂ F₂ s₂ K e R S hD go=>by
   subst hb
   refine bnd_k (m:=ev C el ρ') q fun u σc qc q=>bnd_k q fun vs' σd qd q=>?_
   have ev:=Prod.mk.inj (Option.some.inj q)
   refine wpPR (hel Ψ₂ F₂ (compF f scope ts L) ρ' x hx R F₂ σb u σc s₂ (Ext.refl _) S qc) fun w s₄ F₄ p hw=>?_
   have gD:s₄.heap.get? D=some (lstObj accv k):=h.2.1▸p.S.frm _ _ _ hD
   have e0:acc++u::vs'=full:=ev.1▸h.2.2.2
   have hl:=congrArg List.length e0
   have hsz:accv.toArray.size≤sizeLine:=by
    rw [List.size_toArray,h.2.2.1.length]
    exact Nat.le_trans (Nat.le_trans (hl▸(List.length_append ..)▸Nat.le_add_right ..) (Nat.le_of_lt hcap)) (Nat.le_of_lt capLine)
   refine call_meets PySem.F.slot_list_append ⟨_,gD,rfl⟩ PySem.F.entry_list_append (PySem.F.args_list_append_2 _ _) (PySem.AutoListH.list_append_list_val_0 D accv.toArray k _ hsz) ⟨gD,?_⟩
   have gD':=PySem.IsL.update gD fun x=>x.push w
   rw [List.push_toArray] at gD'
   exact go F₄ σc (lstObj (accv++[w]) _) _ p.e (p.S.turn hD (fun b x hb e=>(Heap.get?_update_other _ _ (Ne.symm hb)).trans e) gD') (Same.trans p.c ⟨rfl,rfl,rfl⟩) ⟨vs',acc++[u],accv++[w],_,ev.2▸qd,rfl,(h.2.2.1.mono (e.trans p.e)).append (.cons hw .nil),(List.append_assoc ..).trans e0⟩⟩
theorem stepD {full:List (Str×V)} {D L:Addr} (hek:EvS Z A C ek) (hel:EvS Z A C el) (hkx:chkE scope.names (ts++capt f.sc scope.names f.nm) ek kx=true) (hx:chkE scope.names (ts++capt f.sc scope.names f.nm) el x=true) (F₁:Fz) (oD:Obj) (σ₁:Mem) (y:V) (rest:List V) (h:PeD Z C cs ek el t ρ full σ₂ F₁ oD σ₁ (y::rest)) :
  ∃ ρ' b σb,StepOK Z C f scope ts D L t cs ρ (PeD Z C cs ek el t ρ full σ₂) (bodyD Z A kx x D (compF f scope ts L).env) F₁ oD σ₁ y rest ρ' b σb:=
 h.elim fun acc h=>h.elim fun accv h=>bndl h.1 fun ρ' eb q=>bnd_k q fun b σb qb q=>⟨ρ',b,σb,eb,qb,fun hb F₂ e=>by
   subst hb
   exact ⟨acc,accv,q,h.2.1,h.2.2.1.mono e,h.2.2.2⟩,fun hb Ψ₂ F₂ s₂ K e R S hD go=>by
   subst hb
   refine bnd_k (m:=ev C ek ρ') q fun u σk qk q=>bnd_k q fun w σc qc q=>wpPR (hek Ψ₂ F₂ (compF f scope ts L) ρ' kx hkx R F₂ σb u σk s₂ (Ext.refl _) S qk) fun wk s₄ F₄ p hwk=>?_
   apply hwk.oStr q
   intro key tkk q
   refine if_k q fun hz q=>wpPR (hel Ψ₂ F₂ (compF f scope ts L) ρ' x hx R F₄ σk w σc s₄ p.e p.S qc) fun v s₅ F₅ p5 hw=>?_
   have ee:=e.trans (p.e.trans p5.e)
   refine wpAny_dictSet_pairs (strKind_is Z.prog Z.w key tkk) (Heap.dictOf_iff.mpr ⟨_,p5.S.frm _ _ _ hD,h.2.1⟩) (fun h' hd' hs'=>(Heap.dictOf_iff.mp hd').elim fun oD' g=>?_) (by rw [h.2.2.1.length];exact Nat.le_trans h.2.2.2 (Nat.le_of_lt capLine))
   exact go F₅ σc oD' _ (p.e.trans p5.e) (p5.S.turn hD (fun b x hb e=>(hs'.2 b hb).trans e) g.1) (Same.trans p.c (Same.trans p5.c ⟨rfl,rfl,rfl⟩)) ⟨sto acc key w,stored accv key v,q,g.2,(h.2.2.1.mono ee).stored hw (dictNodup h.2.1),Nat.le_trans (sto_len ..) hz⟩⟩
theorem lcomp_core (CX:CC Z A C n) (hel:EvS Z A C el) (hcs:AllTs Z A C cs) (hmi:MIS Z A C mi) {full:List V} (hts:TgR ts t tgt) (K:CompOK f.sc f.nm scope ts) (hset:noSet iter=true) (hit:chkI f.sc f.nm mi iter=true) (hx:chkE scope.names (ts++capt f.sc scope.names f.nm) el x=true) (hifs:chkEs scope.names (ts++capt f.sc scope.names f.nm) cs ifs=true)
  (R:EnvR Z Ψ F f ρ) (E:Ext F F') (S:SR Z F' Ψ σ s.heap) (q1:evI C mi ρ σ=some (xs,σ₁)) (q2:loopC (cnd C cs) (ev C el) t ρ xs σ₁=some (full,σ₂)) (hcap:full.length<cap)
  (fin:∀ F₂ s' D L accv k,Stp Z Ψ F' s F₂ σ₂ s'→Free F₂ Ψ D→s'.heap.get? D=some (lstObj accv k)→VRs Z F₂ full accv→Free F₂ Ψ L→D≠L→(∃ m,s'.heap.Ns L m)→compPost (Md Z) A Fls use Q (.ref D) L (.ok .next) s') :
  wpAny (Md Z) A (comprehension (.ListComp x [⟨tgt,iter,ifs,0⟩] scope pos) scope f.env p2 (newList []) false (eval iter f.env) use) Q Fls s:=by
 refine wpAny_comprehension_free (cl:=clFrom f.env.cells scope.names []) rfl (noSet_folded hset) (closureFor_eq (free_cells R K)) K.kind K.loc ?_
 refine evI_sound CX hmi hit R E S q1 fun F₁ d s₁ it st fI p1=>wpAny_newList (wpAny_newFunctionEnv K.noCell (by intro y hy;simp at hy) (fun h₂ hns hsb=>?_) K.kind) (Nat.zero_le _)
 have w:=comp_begin (Pe:=PeL Z C cs el t ρ full σ₂) it st fI p1.S hns hsb ⟨full,[],[],0,q2,rfl,.nil,rfl⟩ rfl
 refine w.2.elim fun Ψ₁ T=>?_
 have loop:codeAny (Md Z) A (.compLoop (.ListComp x [⟨tgt,iter,ifs,0⟩] scope pos) 0 (.ref d.I) (.ref s₁.heap.objs.size) (compF f scope ts (s₁.heap.push (lstObj [] 0)).objs.size).env) (compPost (Md Z) A Fls use Q (.ref s₁.heap.objs.size) (s₁.heap.push (lstObj [] 0)).objs.size) { s₁ with heap:=h₂,toks:=s₁.toks+([]:List (Str×Value)).length }:=
  comp_loopL _ (comp_walk CX hcs hts K hifs (R.ext (E.trans p1.e)) w.1 it (stepL hel hx hcap) fun F₂ σ' oD s' e pe S2 fD gD fL mL c=>pe.elim fun vs pe=>pe.elim fun acc pe=>pe.elim fun accv pe=>pe.elim fun k pe=>?_) _ ⟨F₁,Ψ₁,σ₁,0,xs,_,⟨rfl,rfl,rfl⟩,T,rfl⟩
 ·exact codeAny_compStart_list loop (it.W.self 0 _ _ _ T.st loop)
 ·have e2:=Prod.mk.inj (Option.some.inj pe.1)
  exact fin F₂ s' _ _ accv k ⟨Same.trans p1.c c,p1.e.trans e,e2.2▸S2⟩ fD (pe.2.1▸gD) ((e2.1▸pe.2.2.2:acc++[]=full)▸(List.append_nil acc).symm▸pe.2.2.1) fL w.1.DL mL
theorem dcomp_core (CX:CC Z A C n) (hek:EvS Z A C ek) (hel:EvS Z A C el) (hcs:AllTs Z A C cs) (hmi:MIS Z A C mi) {full:List (Str×V)} (hts:TgR ts t tgt) (K:CompOK f.sc f.nm scope ts) (hset:noSet iter=true) (hit:chkI f.sc f.nm mi iter=true) (hkx:chkE scope.names (ts++capt f.sc scope.names f.nm) ek kx=true) (hx:chkE scope.names (ts++capt f.sc scope.names f.nm) el x=true) (hifs:chkEs scope.names (ts++capt f.sc scope.names f.nm) cs ifs=true)
  (R:EnvR Z Ψ F f ρ) (E:Ext F F') (S:SR Z F' Ψ σ s.heap) (q1:evI C mi ρ σ=some (xs,σ₁)) (q2:loopD (cnd C cs) (ev C ek) (ev C el) t ρ [] xs σ₁=some (full,σ₂))
  (fin:∀ F₂ s' D L accv,Stp Z Ψ F' s F₂ σ₂ s'→Free F₂ Ψ D→s'.heap.DictOf (sk Z) D accv→(D == sysModules)=false→full.length≤cap→ER Z F₂ full accv→Free F₂ Ψ L→D≠L→(∃ m,s'.heap.Ns L m)→compPost (Md Z) A Fls use Q (.ref D) L (.ok .next) s') :
  wpAny (Md Z) A (comprehension (.DictComp kx x [⟨tgt,iter,ifs,0⟩] scope pos) scope f.env p2 newDict false (eval iter f.env) use) Q Fls s:=by
 refine wpAny_comprehension_free (cl:=clFrom f.env.cells scope.names []) rfl (noSet_folded hset) (closureFor_eq (free_cells R K)) K.kind K.loc ?_
 refine evI_sound CX hmi hit R E S q1 fun F₁ d s₁ it st fI p1=>wpAny_newObj_type (wpAny_newFunctionEnv K.noCell (by intro y hy;simp at hy) (fun h₂ hns hsb=>?_) K.kind)
 have hdict:dicObj.IsDictOf (sk Z) []:=(dictOf_new (sk Z) s₁.heap).elim fun o p=>Option.some.inj ((Heap.get?_push_size _ rfl:(s₁.heap.push dicObj).get? s₁.heap.objs.size=some dicObj).symm.trans p.1)▸p.2
 have w:=comp_begin (Pe:=PeD Z C cs ek el t ρ full σ₂) (o:=dicObj) it st fI p1.S hns hsb ⟨[],[],q2,hdict,.nil,Nat.zero_le _⟩ rfl
 refine w.2.elim fun Ψ₁ T=>?_
 have loop:codeAny (Md Z) A (.compLoop (.DictComp kx x [⟨tgt,iter,ifs,0⟩] scope pos) 0 (.ref d.I) (.ref s₁.heap.objs.size) (compF f scope ts (s₁.heap.push dicObj).objs.size).env) (compPost (Md Z) A Fls use Q (.ref s₁.heap.objs.size) (s₁.heap.push dicObj).objs.size) { s₁ with heap:=h₂,toks:=s₁.toks+([]:List (Str×Value)).length }:=
  comp_loopD _ (comp_walk CX hcs hts K hifs (R.ext (E.trans p1.e)) w.1 it (stepD hek hel hkx hx) fun F₂ σ' oD s' e pe S2 fD gD fL mL c=>pe.elim fun acc pe=>pe.elim fun accv pe=>?_) _ ⟨F₁,Ψ₁,σ₁,0,xs,_,⟨rfl,rfl,rfl⟩,T,rfl⟩
 ·exact codeAny_compStart_dict loop (it.W.self 0 _ _ _ T.st loop)
 ·have e2:=Prod.mk.inj (Option.some.inj pe.1)
  exact fin F₂ s' _ _ accv ⟨Same.trans p1.c c,p1.e.trans e,e2.2▸S2⟩ fD (Heap.dictOf_iff.mpr ⟨oD,gD,pe.2.1⟩) (notMod p1.S CX.mod) (e2.1▸pe.2.2.2) (e2.1▸pe.2.2.1) fL w.1.DL mL
end
section
variable {Z:Sta} {A:Around} {n:Nat} {C:Calls}
theorem ev_lcomp {m:Bool} {el:ME} {t:Tg} {it:MI} {cs:MEs} (CX:CC Z A C n) (hel:EvS Z A C el) (hcs:AllTs Z A C cs) (hmi:MIS Z A C it):EvS Z A C (.lcomp m el t it cs):=fun Ψ F f ρ e h R=>xListCompk (G:=EvG Z A C Ψ F f ρ (.lcomp m el t it cs)) h fun x gs scope p h=>l1k (G:=fun gs=>EvG Z A C Ψ F f ρ (.lcomp m el t it cs) (.ListComp x gs scope p)) h fun g h=>
 genk (G:=fun g=>EvG Z A C Ψ F f ρ (.lcomp m el t it cs) (.ListComp x [g] scope p)) h fun tgt iter ifs h=>tgNmk h fun ts hts h=>andk h fun h1 h=>andk h fun h2 h=>andk h fun h3 h=>andk h fun h4 h5 F' σ r σ' s E S q=>bnd_k (m:=evI C it ρ) q fun xs σ₁ q1 q=>bnd_k q fun vs σ₂ q3 q4=>by
 rw [eval_ListComp]
 exact lcomp_core CX hel hcs hmi hts (compOK_of h1) h2 h3 h4 h5 R E S q1 q3 (mkL_len q4) (use:=none) fun F₂ s' D L accv k p fD gD rD fL hDL mL=>mL.elim fun mm hm=>⟨mm,hm,fun h'' sb=>PR.up p (newL (s:=s') (p.S.sameBut fL sb) rD q4 fD ((sb.2 D hDL).trans gD))⟩
theorem ev_dcomp {ek el:ME} {t:Tg} {it:MI} {cs:MEs} (CX:CC Z A C n) (hek:EvS Z A C ek) (hel:EvS Z A C el) (hcs:AllTs Z A C cs) (hmi:MIS Z A C it):EvS Z A C (.dcomp ek el t it cs):=fun Ψ F f ρ e h R=>xDictCompk (G:=EvG Z A C Ψ F f ρ (.dcomp ek el t it cs)) h fun kx x gs scope p h=>l1k (G:=fun gs=>EvG Z A C Ψ F f ρ (.dcomp ek el t it cs) (.DictComp kx x gs scope p)) h fun g h=>
 genk (G:=fun g=>EvG Z A C Ψ F f ρ (.dcomp ek el t it cs) (.DictComp kx x [g] scope p)) h fun tgt iter ifs h=>tgNmk h fun ts hts h=>andk h fun h1 h=>andk h fun h2 h=>andk h fun h3 h=>andk h fun h4 h=>andk h fun h6 h5 F' σ r σ' s E S q=>bnd_k (m:=evI C it ρ) q fun xs σ₁ q1 q=>bnd_k q fun vs σ₂ q3 q4=>by
 rw [arm_eval_DictComp]
 exact dcomp_core CX hek hel hcs hmi hts (compOK_of h1) h2 h3 h4 h6 h5 R E S q1 q3 (use:=none) fun F₂ s' D L accv p fD gD hs hz rD fL hDL mL=>mL.elim fun mm hm=>⟨mm,hm,fun h'' sb=>PR.up p (newD (m:=0) (s:=s') (p.S.sameBut fL sb) rD hz q4 fD (dict_keep gD fun o=>(sb.2 D hDL).trans) hs)⟩
theorem frz_truth {v:V} {σ:Mem} {w} (q:bnd (frzV v) truth σ=some w):False:=bnd_k q fun x σ' q1 q2=>uCell_k (G:=fun _=>False) q1 fun i q1=>by
 have q1:(match σ[i]? with
  | some (.list xs)=>some (V.list xs,σ.set i .dead)
  | some (.sd es)=>some (V.dict es,σ.set i .dead)
  | _=>Option.none)=some (x,σ'):=q1
 have no:∀ {y σ'' },some (y,σ'')=some (x,σ')→truth y σ''=none→False:=fun e n=>nn (n.symm.trans ((Prod.mk.inj (Option.some.inj e)).1▸(Prod.mk.inj (Option.some.inj e)).2▸q2))
 cases e:σ[i]? with
 | none=>rw [e] at q1;exact nn q1
 | some o=>
  rw [e] at q1
  cases o with
  | list=>exact no q1 rfl
  | sd=>exact no q1 rfl
  | _=>exact nn q1
theorem ts_frz {a:ME}:TsS Z A C (.frz a):=fun Ψ F f ρ e hc R F' σ r σ' s E S q=>by
 have q:bnd (bnd (ev C a ρ) frzV) truth σ=some (r,σ'):=q
 rw [bnd_assoc] at q
 exact bnd_k q fun v σ₁ _ q=>(frz_truth q).elim
theorem sp_const {e:PySem.Expr} {k:Const→Nat→Pos→Bool} (h:xConstant e k=true):special e=false:=xConstantk (G:=fun e=>special e=false) h fun _ _ _ _=>rfl
theorem sp_name {e:PySem.Expr} {k:Str→Pos→Bool} (h:xName e k=true):special e=false:=xNamek (G:=fun e=>special e=false) h fun _ _ _=>rfl
theorem sp_call {e:PySem.Expr} {k} (h:xCall e k=true):special e=false:=xCallk (G:=fun e=>special e=false) h fun _ _ _ _ _=>rfl
theorem sp_sub {e:PySem.Expr} {k} (h:xSubscript e k=true):special e=false:=xSubscriptk (G:=fun e=>special e=false) h fun _ _ _ _=>rfl
mutual
theorem evA (CX:CC Z A C n):∀ me:ME,EvS Z A C me∧TsS Z A C me
 | .none=>⟨ev_none,ts_plain ev_none fun _ _ _ h=>sp_const h⟩
 | .tru=>⟨ev_tru,ts_plain ev_tru fun _ _ _ h=>sp_const h⟩
 | .fls=>⟨ev_fls,ts_plain ev_fls fun _ _ _ h=>sp_const h⟩
 | .int _=>⟨ev_int,ts_plain ev_int fun _ _ _ h=>sp_const h⟩
 | .neg _=>⟨ev_neg,ts_plain ev_neg fun e _ _ h=>xUnaryOpk (G:=fun e=>special e=false) h fun o _ _ h=>andk h fun h _=>eqk (G:=fun o=>special (.UnaryOp o _ _)=false) h rfl⟩
 | .str _=>⟨ev_str,ts_plain ev_str fun _ _ _ h=>sp_const h⟩
 | .byts _=>⟨ev_byts,ts_plain ev_byts fun _ _ _ h=>sp_const h⟩
 | .var _=>⟨ev_var,ts_plain ev_var fun _ _ _ h=>sp_name h⟩
 | .glob _=>⟨ev_glob CX,ts_plain (ev_glob CX) fun _ _ _ h=>sp_name h⟩
 | .tup es=>⟨ev_tup (evAs CX es).1,ts_plain (ev_tup (evAs CX es).1) fun _ _ _ h=>xTuplek (G:=fun e=>special e=false) h fun _ _ _ _=>rfl⟩
 | .list _ es=>⟨ev_list (evAs CX es).1,ts_plain (ev_list (evAs CX es).1) fun _ _ _ h=>xListk (G:=fun e=>special e=false) h fun _ _ _=>rfl⟩
 | .dict _ _ es=>⟨ev_dict CX (evAs CX es).2,ts_plain (ev_dict CX (evAs CX es).2) fun _ _ _ h=>xDictk (G:=fun e=>special e=false) h fun _ _ _ _=>rfl⟩
 | .bin _ _ a b=>⟨ev_bin (evA CX a).1 (evA CX b).1,ts_plain (ev_bin (evA CX a).1 (evA CX b).1) fun _ _ _ h=>xBinOpk (G:=fun e=>special e=false) h fun _ _ _ _ _=>rfl⟩
 | .not a=>⟨ev_not (evA CX a).1,ts_not (evA CX a).2⟩
 | .and es=>⟨ev_and (evAs CX es).2,ts_and (evAs CX es).2⟩
 | .or es=>⟨ev_or (evAs CX es).2,ts_or (evAs CX es).2⟩
 | .ife t a b=>⟨ev_ife (evA CX t).2 (evA CX a).1 (evA CX b).1,ts_ife (evA CX t).2 (evA CX a).2 (evA CX b).2⟩
 | .cmp _ a b=>⟨ev_cmp CX (evA CX a).1 (evA CX b).1,ts_cmp CX (evA CX a).1 (evA CX b).1⟩
 | .cmp2 _ _ a b c=>⟨ev_cmp2 CX (evA CX a).1 (evA CX b).1 (evA CX c).1,ts_cmp2 CX (evA CX a).1 (evA CX b).1 (evA CX c).1⟩
 | .call f es=>⟨ev_call CX (evA CX f).1 (evAs CX es).1,ts_plain (ev_call CX (evA CX f).1 (evAs CX es).1) fun _ _ _ h=>sp_call h⟩
 | .make _ _ a=>⟨ev_make CX (evA CX a).1,ts_plain (ev_make CX (evA CX a).1) fun _ _ _ h=>sp_call h⟩
 | .meth o _ es=>⟨ev_meth CX (evA CX o).1 (evAs CX es).1,ts_plain (ev_meth CX (evA CX o).1 (evAs CX es).1) fun _ _ _ h=>sp_call h⟩
 | .attr o _=>⟨ev_attr CX (evA CX o).1,ts_plain (ev_attr CX (evA CX o).1) fun _ _ _ h=>xAttributek (G:=fun e=>special e=false) h fun _ _ _ _=>rfl⟩
 | .sub a i=>⟨ev_sub (evA CX a).1 (evA CX i).1,ts_plain (ev_sub (evA CX a).1 (evA CX i).1) fun _ _ _ h=>sp_sub h⟩
 | .upto a b=>⟨ev_upto (evA CX a).1 (evA CX b).1,ts_plain (ev_upto (evA CX a).1 (evA CX b).1) fun _ _ _ h=>sp_sub h⟩
 | .lcomp _ el _ it cs=>⟨ev_lcomp CX (evA CX el).1 (evAs CX cs).2 (evAI CX it),ts_plain (ev_lcomp CX (evA CX el).1 (evAs CX cs).2 (evAI CX it)) fun _ _ _ h=>xListCompk (G:=fun e=>special e=false) h fun _ _ _ _ _=>rfl⟩
 | .dcomp k el _ it cs=>⟨ev_dcomp CX (evA CX k).1 (evA CX el).1 (evAs CX cs).2 (evAI CX it),ts_plain (ev_dcomp CX (evA CX k).1 (evA CX el).1 (evAs CX cs).2 (evAI CX it)) fun _ _ _ h=>xDictCompk (G:=fun e=>special e=false) h fun _ _ _ _ _ _=>rfl⟩
 | .frz a=>⟨ev_frz (evA CX a).1,ts_frz⟩
theorem evAI (CX:CC Z A C n):∀ it:MI,MIS Z A C it
 | .fwd e=>(evA CX e).1
 | .rev e=>(evA CX e).1
theorem evAs (CX:CC Z A C n):∀ es:MEs,EsS Z A C es∧AllTs Z A C es
 | .nil=>⟨evs_nil,trivial⟩
 | .cons e es=>⟨evs_cons (evA CX e).1 (evAs CX es).1,(evA CX e).1,(evA CX e).2,(evAs CX es).2⟩
end
end
noncomputable def FlR (Z:Sta) (F:Fz):Fl→Flow→Prop
 | .next,x=>∀ G:Flow→Prop,G .next→G x
 | .ret v,x=>∀ G:Flow→Prop,(∀ y,VR Z F v y→G (.ret y))→G x
noncomputable abbrev anyName:Str→Prop:=fun _=>True
structure ExA (Z:Sta) (own:List Addr) (Ψ:Pv) (f:Fr) (F:Fz) (s:Shared) (F':Fz) (Ψ':Pv) (σ':Mem) (ρ':Env') (s':Shared):Prop where
 c:Same s s'
 e:Ext F F'
 P:At Z F' σ' Ψ f own anyName ρ' Ψ' s'
 hid:Hid Ψ Ψ'
noncomputable def ExP (Z:Sta) (own:List Addr) (Ψ:Pv) (f:Fr) (F:Fz) (s:Shared) (σ':Mem) (r:Fl×Env') (fl:Flow) (s':Shared):Prop:=∃ F' Ψ',ExA Z own Ψ f F s F' Ψ' σ' r.2 s'∧FlR Z F' r.1 fl
structure NmOK (f:Fr):Prop where
 kind:∀ x i,isVar f.sc f.nm x i=true→f.env.kindOf x=some .local∨f.env.kindOf x=some .cell
 one:∀ x y i,isVar f.sc f.nm x i=true→isVar f.sc f.nm y i=true→x=y
noncomputable def ExG (Z:Sta) (A:Around) (own:List Addr) (Ψ:Pv) (F:Fz) (f:Fr) (s:Shared) (r:Fl×Env') (σ':Mem) (st:PySem.Stmt):Prop:=wpAny (Md Z) A (exec st f.env) (ExP Z own Ψ f F s σ' r) Fls s
noncomputable abbrev ExS (Z:Sta) (A:Around) (C:Calls) (st:MS):Prop:=∀ (own:List Addr) (Ψ:Pv) (F:Fz) (σ:Mem) (f:Fr) (ρ:Env') (s:Shared) (stm:PySem.Stmt) (r:Fl×Env') (σ':Mem),
 chkS f.sc f.nm st stm=true→NmOK f→At Z F σ Ψ f own anyName ρ Ψ s→ex C st ρ σ=some (r,σ')→ExG Z A own Ψ F f s r σ' stm
noncomputable abbrev ExsS (Z:Sta) (A:Around) (C:Calls) (st:MSs):Prop:=∀ (own:List Addr) (Ψ:Pv) (F:Fz) (σ:Mem) (f:Fr) (ρ:Env') (s:Shared) (stm:List PySem.Stmt) (r:Fl×Env') (σ':Mem),
 chkSs f.sc f.nm st stm=true→NmOK f→At Z F σ Ψ f own anyName ρ Ψ s→exs C st ρ σ=some (r,σ')→wpAny (Md Z) A (execs stm f.env) (ExP Z own Ψ f F s σ' r) Fls s
section
variable {Z:Sta} {A:Around} {n:Nat} {C:Calls} {own:List Addr} {Ψ Ψ₁ Ψ₂:Pv} {F F' F₁ F₂:Fz} {σ σ' σ₁ σ₂:Mem} {f:Fr} {ρ ρ₁ ρ₂:Env'} {s s₁ s₂:Shared} {r:Fl×Env'} {fl:Flow} {a:Fl}
theorem FlR.next':FlR Z F .next .next:=fun _ k=>k
theorem FlR.ret' {v:V} {y:Value} (h:VR Z F v y):FlR Z F (.ret v) (.ret y):=fun _ k=>k y h
theorem NmOK.tg (N:NmOK f) {ts:Nm} (h:ts.all (fun p=>isVar f.sc f.nm p.1 p.2)=true):TgOK f anyName ts:=fun p hp=>
 have h1:=List.all_eq_true.mp h p hp
 ⟨trivial,N.kind _ _ h1,fun y hy=>N.one _ _ _ hy h1,fun j hj=>(isVar_kind h1).elim fun _ w1=>(isVar_kind hj).elim fun _ w2=>(Option.some.inj (w1.2.2.1.symm.trans w2.2.2.1)).symm⟩
theorem At.of (R:EnvR Z Ψ F f ρ) (T:Stores Ψ f.env own anyName) (S:SR Z F Ψ σ s.heap):At Z F σ Ψ f own anyName ρ Ψ s:=⟨R,T,S,Agree.refl _ _⟩
theorem At.stp (P:At Z F σ Ψ f own anyName ρ Ψ s) (p:Stp Z Ψ F s F₁ σ₁ s₁):At Z F₁ σ₁ Ψ f own anyName ρ Ψ s₁:=.of (P.R.ext p.e) P.T p.S
theorem At.now (P:At Z F σ Ψ f own anyName ρ Ψ₁ s):At Z F σ Ψ₁ f own anyName ρ Ψ₁ s:=.of P.R P.T P.S
theorem ExA.of (P:At Z F σ Ψ f own anyName ρ Ψ s) (p:Stp Z Ψ F s F₁ σ₁ s₁):ExA Z own Ψ f F s F₁ Ψ σ₁ ρ s₁:=⟨p.c,p.e,P.stp p,fun _ h=>h⟩
theorem ExA.trans (p:ExA Z own Ψ f F s F₁ Ψ₁ σ₁ ρ₁ s₁) (q:ExA Z own Ψ₁ f F₁ s₁ F₂ Ψ₂ σ₂ ρ₂ s₂):ExA Z own Ψ f F s F₂ Ψ₂ σ₂ ρ₂ s₂:=⟨Same.trans p.c q.c,p.e.trans q.e,⟨q.P.R,q.P.T,q.P.S,p.P.ag.trans q.P.ag⟩,fun a h=>q.hid a (p.hid a h)⟩
theorem ExA.up (p:ExA Z own Ψ f F s F₁ Ψ₁ σ₁ ρ₁ s₁) (q:ExP Z own Ψ₁ f F₁ s₁ σ' r fl s₂):ExP Z own Ψ f F s σ' r fl s₂:=q.elim fun F' q=>q.elim fun Ψ' q=>⟨F',Ψ',p.trans q.1,q.2⟩
theorem ExA.go {t:Sem Flow} (p:ExA Z own Ψ f F s F₁ Ψ₁ σ₁ ρ₁ s₁) (h:wpAny (Md Z) A t (ExP Z own Ψ₁ f F₁ s₁ σ' r) Fls s₁):wpAny (Md Z) A t (ExP Z own Ψ f F s σ' r) Fls s₁:=wpAny_mono h (fun _ _ q=>p.up q) fun _ _ z=>z
theorem ExA.p (p:ExA Z own Ψ f F s F₁ Ψ₁ σ₁ ρ₁ s₁) (h:FlR Z F₁ a fl):ExP Z own Ψ f F s σ₁ (a,ρ₁) fl s₁:=⟨F₁,Ψ₁,p,h⟩
theorem ex_ret_k {fl':Fl} {G:Fl×Env'→Mem→Prop} (q:ret (fl',ρ) σ=some (r,σ')) (k:G (fl',ρ) σ):G r σ':=ret_k q k
theorem At.ev (P:At Z F σ Ψ f own anyName ρ Ψ s) {me:ME} {e:PySem.Expr} {v:V} {Q:Value→Shared→Prop} (h:EvS Z A C me) (hc:chkE f.sc f.nm me e=true) (q:Mine.ev C me ρ σ=some (v,σ₁)) (k:∀ x s₁ F₁,Stp Z Ψ F s F₁ σ₁ s₁→VR Z F₁ v x→Q x s₁):wpAny (Md Z) A (eval e f.env) Q Fls s:=
 wpPR (h Ψ F f ρ e hc P.R F σ v σ₁ s (Ext.refl _) P.S q) k
theorem At.ts (P:At Z F σ Ψ f own anyName ρ Ψ s) {me:ME} {e:PySem.Expr} {b:Bool} {Q:Bool→Shared→Prop} (h:TsS Z A C me) (hc:chkE f.sc f.nm me e=true) (q:bnd (Mine.ev C me ρ) truth σ=some (b,σ₁)) (k:∀ s₁ F₁,Stp Z Ψ F s F₁ σ₁ s₁→Q b s₁):wpAny (Md Z) A (isTrue e f.env (eval e f.env)) Q Fls s:=
 wpPR (h Ψ F f ρ e hc P.R F σ b σ₁ s (Ext.refl _) P.S q) fun x s₁ F₁ p (hb:b=x)=>hb▸k s₁ F₁ p
theorem swaps_none {e:PySem.Expr} {l:Nat} {env:Env} (h:compOf e=false):swapsWith e none l env=pure false:=by
 cases e with
 | ListComp=>cases h
 | SetComp=>cases h
 | DictComp=>cases h
 | _=>rfl
theorem ex_expr {a:ME} (CX:CC Z A C n):ExS Z A C (.expr a):=fun own Ψ F σ f ρ s stm r σ' hc N P q=>sExprk (G:=ExG Z A own Ψ F f s r σ') hc fun e pos hc=>andk hc fun h1 h2=>notk h1 fun h1=>bnd_k (m:=ev C a ρ) q fun v σ₁ q1 q=>ret_k (G:=fun r σ'=>ExG Z A own Ψ F f s r σ' (.Expr e pos)) q <| by
 have hi:interactive f.env=false:=by unfold interactive;rw [P.R.fn];rfl
 unfold ExG
 rw [arm_exec_Expr,hi]
 refine wpAny_bind (wpAny_standAt ?_)
 rw [if_neg Bool.false_ne_true]
 refine wpAny_bind (wpAny_of_eq (swaps_none h1) ?_)
 rw [if_neg Bool.false_ne_true]
 exact wpAny_bind (P.ev (evA CX a).1 h2 q1 fun x s₁ F₁ p hv=>wpAny_dropValue ((ExA.of P p).p .next'))
theorem ex_ret {a:ME} (CX:CC Z A C n):ExS Z A C (.ret a):=fun own Ψ F σ f ρ s stm r σ' hc N P q=>sReturnk (G:=ExG Z A own Ψ F f s r σ') hc fun o pos hc=>oBk (G:=fun o=>ExG Z A own Ψ F f s r σ' (.Return o pos)) hc fun e hc=>bnd_k (m:=ev C a ρ) q fun v σ₁ q1 q=>ret_k (G:=fun r σ'=>ExG Z A own Ψ F f s r σ' (.Return (some e) pos)) q <| by
 unfold ExG
 rw [arm_exec_Return]
 refine wpAny_bind (wpAny_standAt ?_)
 show wpAny _ _ (eval e f.env >>= fun x=>pure (Flow.ret x)) _ _ _
 exact wpAny_bind (P.ev (evA CX a).1 hc q1 fun x s₁ F₁ p hv=>wpAny_pure ((ExA.of P p).p (.ret' hv)))
theorem ex_ret0:ExS Z A C .ret0:=fun own Ψ F σ f ρ s stm r σ' hc N P q=>sReturnk (G:=ExG Z A own Ψ F f s r σ') hc fun o pos hc=>o0k (G:=fun o=>ExG Z A own Ψ F f s r σ' (.Return o pos)) hc <| ret_k (a:=(Fl.ret .none,ρ)) (G:=fun r σ'=>ExG Z A own Ψ F f s r σ' (.Return none pos)) q <| by
 unfold ExG
 rw [arm_exec_Return]
 exact wpAny_bind (wpAny_standAt (wpAny_pure ((ExA.of P (.refl P.S)).p (.ret' .none))))
theorem ex_ifs {t:ME} {a b:MSs} (CX:CC Z A C n) (ha:ExsS Z A C a) (hb:ExsS Z A C b):ExS Z A C (.ifs t a b):=fun own Ψ F σ f ρ s stm r σ' hc N P q=>sIfk (G:=ExG Z A own Ψ F f s r σ') hc fun x ss rr pos hc=>andk hc fun h1 hc=>andk hc fun h2 h3=>by
 have q:bnd (ev C t ρ) (fun v=>bnd (truth v) fun c=>bm c (exs C a ρ) (exs C b ρ)) σ=some (r,σ'):=q
 rw [← bnd_assoc] at q
 unfold ExG
 rw [arm_exec_If]
 refine bnd_k q fun c σ₁ q1 q=>wpAny_bind (wpAny_standAt (wpAny_bind (P.ts (evA CX t).2 h1 q1 fun s₁ F₁ p=>?_)))
 cases c with
 | false=>rw [if_neg Bool.false_ne_true];exact (ExA.of P p).go (hb own Ψ F₁ σ₁ f ρ s₁ rr r σ' h3 N (P.stp p) q)
 | true=>rw [if_pos rfl];exact (ExA.of P p).go (ha own Ψ F₁ σ₁ f ρ s₁ ss r σ' h2 N (P.stp p) q)
theorem exs_nil:ExsS Z A C .nil:=fun own Ψ F σ f ρ s stm r σ' hc N P q=>nilk (G:=fun stm=>wpAny (Md Z) A (execs stm f.env) (ExP Z own Ψ f F s σ' r) Fls s) hc <| ret_k (a:=(Fl.next,ρ)) (G:=fun r σ'=>wpAny (Md Z) A (execs [] f.env) (ExP Z own Ψ f F s σ' r) Fls s) q (wpAny_pure ((ExA.of P (.refl P.S)).p .next'))
theorem exs_cons {a:MS} {b:MSs} (ha:ExS Z A C a) (hb:ExsS Z A C b):ExsS Z A C (.cons a b):=fun own Ψ F σ f ρ s stm r σ' hc N P q=>lck (G:=fun stm=>wpAny (Md Z) A (execs stm f.env) (ExP Z own Ψ f F s σ' r) Fls s) hc fun x xs hc=>andk hc fun h1 h2=>bnd_k (m:=ex C a ρ) q fun p1 σ₁ q1 q=>by
 show wpAny _ _ (exec x f.env >>= fun f'=>match f' with|.next=>execs xs f.env|f=>pure f) _ _ _
 refine wpAny_bind (wpAny_mono (ha own Ψ F σ f ρ s x p1 σ₁ h1 N P q1) (fun fl s' p=>p.elim fun F₁ p=>p.elim fun Ψ₁ p=>?_) fun _ _ z=>z)
 cases p1 with|mk w ρ₁=>
 cases w with
 | next=>exact p.2 (fun fl=>wpAny (Md Z) A (match fl with|.next=>execs xs f.env|f=>pure f) (ExP Z own Ψ f F s σ' r) Fls s') (p.1.go (hb own Ψ₁ F₁ σ₁ f ρ₁ s' xs r σ' h2 N p.1.P.now q))
 | ret v=>exact ret_k (a:=(Fl.ret v,ρ₁)) (G:=fun r σ'=>wpAny (Md Z) A (match fl with|.next=>execs xs f.env|f=>pure f) (ExP Z own Ψ f F s σ' r) Fls s') q (p.2 (fun fl=>wpAny (Md Z) A (match fl with|.next=>execs xs f.env|f=>pure f) (ExP Z own Ψ f F s σ₁ (.ret v,ρ₁)) Fls s') fun y hy=>wpAny_pure (p.1.p (.ret' hy)))
end
noncomputable def rem (Ψ:Pv) (a:Addr):Pv:=fun b=>if b=a then none else Ψ b
structure Apart (f:Fr) (own:List Addr) (a:Addr):Prop where
 ho:a∉own
 hl:f.env.locals≠a
 hc:∀ x c,f.env.cells.lookup x=some c→c≠a
section
variable {Z:Sta} {A:Around} {n:Nat} {C:Calls} {own:List Addr} {Ψ Ψ' Ψ₁ Ψ₂:Pv} {F F' F₁ F₂:Fz} {σ σ' σ₁ σ₂:Mem} {f:Fr} {ρ ρ' ρ₁ ρ₂:Env'} {s s' s₁ s₂:Shared} {r:Fl×Env'} {fl:Flow} {a b:Addr} {h:Heap} {o:Obj} {w:Obj×Bool} {W:Str→Prop}
theorem rem_self (Ψ:Pv) (a:Addr):rem Ψ a a=none:=if_pos rfl
theorem rem_ne (h:b≠a):rem Ψ a b=Ψ b:=if_neg h
theorem apart_of (R:EnvR Z Ψ F f ρ) (T:Stores Ψ f.env own W) (hn:Ψ a=none):Apart f own a:=
 have ho:a∉own:=fun hm=>(T.hd a hm).elim fun o e=>nomatch hn.symm.trans e
 ⟨ho,fun h=>ho (h▸T.lo),fun x c l h=>(R.cin x c l).elim fun o e=>nomatch (h▸hn).symm.trans e⟩
theorem EnvR.apart (R:EnvR Z Ψ F f ρ) (p:Apart f own a) (k:∀ b,b≠a→Ψ' b=Ψ b):EnvR Z Ψ' F f ρ:=
 ⟨R.fn,R.gl,R.bl,R.kd,R.dis,R.inj,R.has,fun x c l=>(R.cin x c l).elim fun o e=>⟨o,(k c (p.hc x c l)).trans e⟩,fun x i v hx hv hn=>(R.rd x i v hx hv hn).elim fun val q=>⟨val,q.1,
  NameAt.rec (motive:=fun _=>NameAt Ψ' f.env x val) (fun kk e n h=>.loc kk ((k _ p.hl).trans e) n h) (fun kk l e h=>.cel kk l ((k _ (p.hc _ _ l)).trans e) h) q.2⟩⟩
theorem Stores.apart (T:Stores Ψ f.env own W) (p:Apart f own a) (k:∀ b,b≠a→Ψ' b=Ψ b):Stores Ψ' f.env own W:=
 ⟨T.lo,fun b hb=>(T.hd b hb).elim fun o e=>⟨o,(k b fun h=>p.ho (h▸hb)).trans e⟩,T.ob.elim fun o q=>q.elim fun m q=>⟨o,m,(k _ p.hl).trans q.1,q.2⟩,fun x w hx=>(T.ce x w hx).elim fun c q=>⟨c,q.1,q.2.1,q.2.2.elim fun o q2=>q2.elim fun v q2=>⟨o,v,(k c (p.hc x c q.1)).trans q2.1,q2.2⟩⟩⟩
theorem Stores.sub (T:Stores Ψ f.env own W) (s:Sub Ψ Ψ'):Stores Ψ' f.env own W:=
 ⟨T.lo,fun b hb=>(T.hd b hb).elim fun o e=>⟨o,s _ _ e⟩,T.ob.elim fun o q=>q.elim fun m q=>⟨o,m,s _ _ q.1,q.2⟩,fun x w hx=>(T.ce x w hx).elim fun c q=>⟨c,q.1,q.2.1,q.2.2.elim fun o q2=>q2.elim fun v q2=>⟨o,v,s _ _ q2.1,q2.2⟩⟩⟩
theorem sub_put (h:Ψ a=none):Sub Ψ (Mine.put Ψ a w):=fun b x e=>put_old h e
theorem SR.rem (S:SR Z F Ψ σ h) (ha:Ψ a=some (o,false)):SR Z F (Mine.rem Ψ a) σ h∧Free F (Mine.rem Ψ a) a∧h.get? a=some o:=
 have w:=S.drop (own:=[a]) (Ψ:=Mine.rem Ψ a) (fun b hb=>(rem_ne fun (e:b=a)=>hb (e▸.head _)).symm) fun b hb=>by rw [List.mem_singleton.mp hb];exact ⟨rem_self ..,o,ha⟩
 ⟨w.1,w.2 a (.head _),S.frm _ _ _ ha⟩
theorem ExA.close (hn:Ψ a=none) (p:Apart f own a) (c:Same s s') (e:Ext F F') (S:SR Z F' (Mine.rem Ψ' a) σ' s'.heap) (ag:Agree (a::own) Ψ Ψ') (hid:Hid Ψ Ψ') (R:EnvR Z Ψ' F' f ρ') (T:Stores Ψ' f.env own anyName):ExA Z own Ψ f F s F' (Mine.rem Ψ' a) σ' ρ' s':=
 ⟨c,e,⟨R.apart p fun b hb=>rem_ne hb,T.apart p fun b hb=>rem_ne hb,S,fun b hb=>if q:b=a then (by rw [q];exact (rem_self ..).trans hn.symm) else (rem_ne q).trans (ag b fun hm=>(List.mem_cons.mp hm).elim q hb)⟩,
  fun b hb=>have q:b≠a:=fun e=>hb.elim fun o ho=>nomatch (e▸hn).symm.trans ho;(hid b hb).elim fun o ho=>⟨o,(rem_ne q).trans ho⟩⟩
theorem Agree.cons (ag:Agree own (Mine.put Ψ a w) Ψ'):Agree (a::own) Ψ Ψ':=fun b hb=>(ag b fun h=>hb (.tail _ h)).trans (put_ne fun (e:b=a)=>hb (e▸.head _))
theorem Hid.of_put (hid:Hid (Mine.put Ψ a w) Ψ') (hn:Ψ a=none):Hid Ψ Ψ':=fun b h=>hid b (h.elim fun o h=>⟨o,put_old hn h⟩)
theorem swaps_any {e:PySem.Expr} {t:Option PySem.Expr} {l:Nat} {env:Env} (h:compOf e=false):swapsWith e t l env=pure false:=by
 cases e with
 | ListComp=>cases h
 | SetComp=>cases h
 | DictComp=>cases h
 | _=>rfl
theorem swaps_sub {v x e:PySem.Expr} {p:Pos} {l:Nat} {env:Env}:swapsWith e (some (.Subscript v x p)) l env=pure false:=by cases e <;> rfl
theorem FlR.nx (h:FlR Z F .next fl):fl=.next:=h (fun fl=>fl=.next) rfl
theorem FlR.rt {v:V} (h:FlR Z F (.ret v) fl):∃ y,fl=.ret y∧VR Z F v y:=h (fun fl=>∃ y,fl=.ret y∧VR Z F v y) fun y hy=>⟨y,rfl,hy⟩
theorem ex_put {o i a:ME} (CX:CC Z A C n):ExS Z A C (.put o i a):=fun own Ψ F σ f ρ s stm r σ' hc N P q=>sAssignk (G:=ExG Z A own Ψ F f s r σ') hc fun tg e pos hc=>l1k (G:=fun tg=>ExG Z A own Ψ F f s r σ' (.Assign tg e pos)) hc fun tgt hc=>xSubscriptk (G:=fun tgt=>ExG Z A own Ψ F f s r σ' (.Assign [tgt] e pos)) hc fun v x tp hc=>andk hc fun h1 hc=>andk hc fun h2 hc=>andk hc fun h3 h4=>
 bnd_k (m:=ev C a ρ) q fun av σ₁ q1 q=>bnd_k q fun ov σ₂ q3 q=>bnd_k q fun iv σ₃ q5 q=>bnd_k q fun u σ₄ q7 q=>ret_k (G:=fun r σ'=>ExG Z A own Ψ F f s r σ' (.Assign [.Subscript v x tp] e pos)) q <| by
 have hw:swappedStores [.Subscript v x tp] e f.env=pure none:=by cases e <;> rfl
 unfold ExG
 rw [arm_exec_Assign]
 refine wpAny_bind (wpAny_standAt (wpAny_bind (wpAny_of_eq (swaps_sub (e:=e) (v:=v) (x:=x) (p:=tp) (l:=pos.line) (env:=f.env)) ?_)))
 rw [if_neg Bool.false_ne_true]
 refine wpAny_bind (P.ev (evA CX a).1 h4 q1 fun z s₁ F₁ p1 hv=>wpAny_bind (wpAny_of_eq hw ?_))
 show wpAny _ _ ((holding [z] (eval v f.env) >>= fun ov=>holding [z,ov] (eval x f.env) >>= fun iv=>standAt tp >>= fun _=>holding [z,ov,iv] (setItem ov iv z) >>= fun _=>release _ []) >>= fun _=>pure Flow.next) _ _ _
 refine wpAny_bind (wpAny_bind (wpAny_holding ((P.stp p1).ev (evA CX o).1 h2 q3 fun y s₂ F₂ p2 hov=>wpAny_bind (wpAny_holding (((P.stp p1).stp p2).ev (evA CX i).1 h3 q5 fun w s₃ F₃ p3 hiv=>wpAny_bind (wpAny_standAt (wpAny_bind (wpAny_holding (wpPR (setItemV_sound (hov.mono p3.e) hiv (hv.mono (p2.e.trans p3.e)) F₃ σ₃ u _ _ (Ext.refl _) p3.S q7) fun w s₄ F₄ p4 _=>?_)))))))))
 exact wpAny_release (wpAny_pure ((ExA.of P (p1.trans (p2.trans (p3.trans p4)))).p .next'))
theorem ex_whiles {t:ME} {b:MSs} (CX:CC Z A C n) (hb:ExsS Z A C b):ExS Z A C (.whiles t b):=fun own Ψ F σ f ρ s stm r σ' hc N P q=>sWhilek (G:=ExG Z A own Ψ F f s r σ') hc fun x ss rr pos hc=>andk hc fun h0 hc=>nilk (G:=fun rr=>ExG Z A own Ψ F f s r σ' (.While x ss rr pos)) h0 <| andk hc fun h1 h2=>by
 unfold ExG
 rw [arm_exec_While]
 refine wpAny_bind (wpAny_standAt (wpAny_runOwn ?_))
 refine codeAny_whileLoop (fun m s'=>∃ F₁ Ψ₁ σ₁ ρ₁,ExA Z own Ψ f F s F₁ Ψ₁ σ₁ ρ₁ s'∧loopW (fun ρ=>bnd (ev C t ρ) truth) (exs C b) m ρ₁ σ₁=some (r,σ')) (fun m s' h=>h.elim fun F₁ h=>h.elim fun Ψ₁ h=>h.elim fun σ₁ h=>h.elim fun ρ₁ h=>?_) whileMost ⟨F,Ψ,σ,ρ,ExA.of P (.refl P.S),q⟩
 cases m with
 | zero=>exact nn h.2
 | succ m=>
  refine bnd_k (m:=bnd (ev C t ρ₁) truth) h.2 fun c σ₂ q2 q3=>wpAny_mono (E:=Fls) (h.1.P.now.ts (evA CX t).2 h1 q2 fun s₂ F₂ p2=>?_) (fun _ _ z=>z) fun _ _ z=>z.elim
  have e2:=h.1.trans (ExA.of h.1.P.now p2)
  cases c with
  | false=>
   rw [if_neg Bool.false_ne_true]
   exact ret_k (a:=(Fl.next,ρ₁)) (G:=fun r σ'=>wpAny (Md Z) A (execs [] f.env) (fun fl s₃=>ExP Z own Ψ f F s σ' r fl s₃) (notedBy (Md Z) A f.env Fls) s₂) q3 (wpAny_pure (e2.p .next'))
  | true=>
   rw [if_pos rfl]
   refine bnd_k (m:=exs C b ρ₁) q3 fun p1 σ₃ q4 q5=>wpAny_mono (E:=Fls) (hb own Ψ₁ F₂ σ₂ f ρ₁ s₂ ss p1 σ₃ h2 N (h.1.P.now.stp p2) q4) (fun fl s₃ p=>p.elim fun F₃ p=>p.elim fun Ψ₃ p=>?_) fun _ _ z=>z.elim
   cases p1 with|mk w ρ₃=>
   cases w with
   | next=>
    cases p.2.nx
    exact ⟨m,Nat.lt_succ_self _,F₃,Ψ₃,σ₃,ρ₃,e2.trans p.1,q5⟩
   | ret v=>
    refine p.2.rt.elim fun y w=>?_
    cases w.1
    exact ret_k (a:=(Fl.ret v,ρ₃)) (G:=fun r σ'=>ExP Z own Ψ f F s σ' r (.ret y) s₃) q5 ((e2.trans p.1).p (.ret' w.2))
end
theorem names_of {g:PySem.Expr→Option Str} (hg:∀ x p y,g (.Name x p)=some y→y=x) {es:List PySem.Expr} {is:List Nat} {ts:Nm} (h:manyNm es is=some ts) (hl:(es.filterMap g).length=es.length):es.filterMap g=ts.map (·.1):=by
 induction es generalizing is ts with
 | nil=>
  match is,h with
  | [],h=>exact (Option.some.inj h:[]=ts)▸rfl
 | cons e es ih=>
  match is,h with
  | i::is,h=>
   refine obk h fun x hx h=>obk h fun r hr h=>(Option.some.inj h:(x,i)::r=ts)▸?_
   rw [List.filterMap_cons] at hl ⊢
   cases q:g e with
   | none=>rw [q] at hl;exact absurd (hl▸List.length_filterMap_le g es) (Nat.not_succ_le_self _)
   | some y=>
    rw [q] at hl
    have e1:y=x:=oNamek (G:=fun e=>g e=some y→y=x) hx (fun p=>hg x p y) q
    show y::es.filterMap g=x::r.map (·.1)
    rw [ih hr (Nat.succ.inj hl),e1]
theorem or_f {a b:Bool} (h:¬(a || b)=true):a=false∧b=false:=match a,b,h with
 | false,false,_=>⟨rfl,rfl⟩
 | true,_,h=>absurd rfl h
 | false,true,h=>absurd rfl h
theorem ne_f {a b:Nat} (h:(a != b)=false):a=b:=by simpa using h
theorem swapped_tuple {es vs:List PySem.Expr} {k k2 p p2} {is:List Nat} {ts:Nm} {env:Env} (hm:manyNm es is=some ts) (h1:vs.all (constantsAlone 8)=false) (h2:vs.all (foldedForSure 8)=false) :
  ∃ o,swappedStores [.Tuple es k p] (.Tuple vs k2 p2) env=pure o∧(o=none∨o=some (ts.map (·.1))):=by
 refine iteInduction (motive:=fun x:Sem (Option (List Str))=>∃ o,x=pure o∧(o=none∨o=some (ts.map (·.1)))) (fun _=>⟨none,rfl,.inl rfl⟩) fun _=>?_
 refine iteInduction (motive:=fun x:Sem (Option (List Str))=>∃ o,x=pure o∧(o=none∨o=some (ts.map (·.1)))) (fun _=>⟨none,rfl,.inl rfl⟩) fun _=>?_
 refine iteInduction (motive:=fun x:Sem (Option (List Str))=>∃ o,x=pure o∧(o=none∨o=some (ts.map (·.1)))) (fun _=>⟨none,rfl,.inl rfl⟩) fun hl=>?_
 rw [if_neg (by rw [h2];exact Bool.false_ne_true),if_neg (by rw [h1];exact Bool.false_ne_true)]
 exact ⟨_,rfl,.inr (congrArg some (names_of (fun x p y h=>ifo_k h fun _ h=>(Option.some.inj h).symm) hm (ne_f (or_f hl).1)))⟩
theorem swapped_other {es:List PySem.Expr} {e:PySem.Expr} {k p} {env:Env} (h:Nat.beq e.ctorIdx 25=false):swappedStores [.Tuple es k p] e env=pure none:=by
 cases e with
 | Tuple=>cases h
 | _=>rfl
theorem someRealk {e:PySem.Expr} {G:PySem.Expr→Prop} (h:someReal e=true) (g1:Nat.beq e.ctorIdx 25=false→G e) (g2:∀ vs k p,vs.all (constantsAlone 8)=false→vs.all (foldedForSure 8)=false→G (.Tuple vs k p)):G e:=by
 cases e with
 | Tuple vs k p=>exact notk (a:=vs.all (constantsAlone 8) || vs.all (foldedForSure 8)) h fun h=>g2 vs k p (or_f (by rw [h];exact Bool.false_ne_true)).1 (or_f (by rw [h];exact Bool.false_ne_true)).2
 | _=>exact g1 rfl
section
variable {Z:Sta} {A:Around} {n:Nat} {C:Calls} {own:List Addr} {Ψ Ψ₀ Ψ' Ψ₁ Ψ₂:Pv} {F F' F₁ F₂ F₃:Fz} {σ σ' σ₁ σ₂:Mem} {f:Fr} {ρ ρ' ρ₁ ρ₂:Env'} {s s' s₁ s₂:Shared} {r:Fl×Env'} {fl:Flow} {L:Addr} {o:Obj} {W:Str→Prop} {U:Unit→Shared→Prop} {ts:Nm} {t:Tg} {tgt e:PySem.Expr} {v:V} {x:Value}
theorem fold_comm (i:Nat) (v:V):∀ (l:List (Nat×V)) (ρ:Env'),(∀ q∈l,q.1≠i)→l.foldl (fun ρ q=>ρ.set q.1 q.2) (ρ.set i v)=(l.foldl (fun ρ q=>ρ.set q.1 q.2) ρ).set i v
 | [],_,_=>rfl
 | q::l,ρ,h=>by
  rw [List.foldl_cons,List.foldl_cons,List.set_comm _ _ (Ne.symm (h q (.head _)))]
  exact fold_comm i v l _ fun q hm=>h q (.tail _ hm)
theorem rev_store {ts:Nm} {vs:List V} {xs zs:List Value} {as:List (Value→Sem Unit)} (ok:TgOK f W ts) (hnd:ts.Pairwise fun p q=>p.2≠q.2) (hl:vs.length=ts.length) (hv:VRs Z F vs xs) (P:At Z F σ Ψ₀ f own W ρ Ψ s)
  (k:∀ Ψ' s',At Z F σ Ψ₀ f own W (((ts.map (·.2)).zip vs).foldl (fun ρ p=>ρ.set p.1 p.2) ρ) Ψ' s'→Same s s'→Hid Ψ Ψ'→wpAny (Md Z) A (assignInOrder as zs) U Fls s') :
  wpAny (Md Z) A (assignInOrder ((ts.map (·.1)).reverse.map (fun n=>bindName f.env n)++as) (xs.reverse++zs)) U Fls s:=by
 induction ts generalizing vs xs zs as Ψ s with
 | nil=>
  match vs,hl,hv,k with
  | [],_,hv,k=>exact hv (fun xs=>wpAny (Md Z) A (assignInOrder as (xs.reverse++zs)) U Fls s) (k Ψ s P ⟨rfl,rfl,rfl⟩ fun _ x=>x)
 | cons q ts ih=>
  match vs,hl,hv,k with
  | v::vs,hl,hv,k=>
   refine hv (fun xs=>wpAny (Md Z) A (assignInOrder (((q::ts).map (·.1)).reverse.map (fun n=>bindName f.env n)++as) (xs.reverse++zs)) U Fls s) fun y ys h l=>?_
   rw [List.map_cons,List.reverse_cons,List.map_append,List.append_assoc,List.reverse_cons,List.append_assoc]
   refine ih (fun p hp=>ok p (.tail _ hp)) (List.pairwise_cons.mp hnd).2 (Nat.succ.inj hl) l P fun Ψ' s' P' c' hid=>?_
   refine wpAny_bind (wpAny_holding (bindName_sound P' (ok q (.head _)) h fun Ψ'' s'' P'' c'' hid'=>k Ψ'' s'' ?_ (c'.trans c'') fun a ha=>hid' a (hid a ha)))
   have e:=fold_comm q.2 v ((ts.map (·.2)).zip vs) ρ fun w hw=>(List.mem_map.mp (List.of_mem_zip hw).1).elim fun p hp=>hp.2▸Ne.symm ((List.pairwise_cons.mp hnd).1 p hp.1)
   exact e.symm▸P''
theorem one_assign (ht:TgR ts t tgt) (env:Env):(assignEach [tgt] env).map (·.2)=[assign tgt env]:=by
 cases ht with
 | one h=>exact obk h fun y hy _=>oNamek (G:=fun tgt=>(assignEach [tgt] env).map (·.2)=[assign tgt env]) hy fun _=>rfl
 | many=>rfl
theorem asg_many (CX:CC Z A C n) {is:List Nat} {es:List PySem.Expr} {st:List (Value→Sem Unit)} (N:NmOK f) (P:At Z F σ Ψ f own anyName ρ Ψ s) (hv:VR Z F v x) (hb:bindT (.many is) v ρ=some ρ') (hm:manyNm es is=some ts) (hvar:ts.all (fun p=>isVar f.sc f.nm p.1 p.2)=true) (hnd:(ts.map (·.1)).Nodup)
  (fin:∀ Ψ' s',At Z F σ Ψ f own anyName ρ' Ψ' s'→Same s s'→Hid Ψ Ψ'→ExP Z own Ψ f F s σ (.next,ρ') .next s'):wpAny (Md Z) A (assignStores f.env x (some (ts.map (·.1))) st) (ExP Z own Ψ f F s σ (.next,ρ')) Fls s:=by
 have hb:uTup v (fun vs=>if is.length=vs.length then some ((is.zip vs).foldl (fun ρ p=>ρ.set p.1 p.2) ρ) else Option.none)=some ρ':=hb
 have key:=VR.oTup (Z:=Z) (F:=F) (a:=v) (x:=x) (r:=ρ') (G:=fun _ x=>wpAny (Md Z) A (assignStores f.env x (some (ts.map (·.1))) st) (ExP Z own Ψ f F s σ (.next,ρ')) Fls s) hv hb
 refine key fun us a ws m z g l hb=>?_
 refine ifo_k hb fun hl hb=>?_
 have sl:ts.map (·.2)=is:=manyNm_slots hm
 have hlen:us.length=ts.length:=hl.symm.trans (sl▸List.length_map ..)
 have e1:(ts.map (·.1)).length=ws.toArray.size:=(List.length_map ..).trans (hlen.symm.trans l.length.symm)
 refine wpAny_bind (wpAny_rule ?_)
 rw [e1]
 refine wpAny_bind (wpAny_unpackItems_tuple CX.rm.hand (isTuple (P.S.frz _ _ g)) fun h' he=>?_)
 have st:=rev_store (A:=A) (zs:=[]) (as:=[]) (U:=fun _ s'=>wpAny (Md Z) A (pure Flow.next) (ExP Z own Ψ f F s σ (.next,ρ')) Fls s') (s:={ s with heap:=h' }) (N.tg hvar) ((List.pairwise_map.mp hnd).imp_of_mem fun {a b} ha hb hne e=>hne (N.one _ _ a.2 (List.all_eq_true.mp hvar a ha) (e▸List.all_eq_true.mp hvar b hb))) hlen l ⟨P.R,P.T,P.S.extBut P.S.new he,P.ag⟩
  fun Ψ' s' P' c hid=>wpAny_pure (wpAny_pure (fin Ψ' s' (Option.some.inj hb▸sl▸P') c hid))
 rw [List.append_nil,List.append_nil] at st
 exact wpAny_bind st
theorem asg_plain (CX:CC Z A C n) (N:NmOK f) (P:At Z F σ Ψ f own anyName ρ Ψ s) (hv:VR Z F v x) (hb:bindT t v ρ=some ρ') (ht:TgR ts t tgt) (hvar:ts.all (fun p=>isVar f.sc f.nm p.1 p.2)=true) (hnd:(ts.map (·.1)).Nodup) (hr:someReal e=true) :
  wpAny (Md Z) A (swappedStores [tgt] e f.env >>= fun o=>assignStores f.env x o ((assignEach [tgt] f.env).map (·.2))) (ExP Z own Ψ f F s σ (.next,ρ')) Fls s:=by
 have fin:∀ Ψ' s',At Z F σ Ψ f own anyName ρ' Ψ' s'→Same s s'→Hid Ψ Ψ'→ExP Z own Ψ f F s σ (.next,ρ') .next s':=fun Ψ' s' P' c hid=>⟨F,Ψ',⟨c,.refl _,P',hid⟩,FlR.next'⟩
 have plain:wpAny (Md Z) A (assignStores f.env x none ((assignEach [tgt] f.env).map (·.2))) (ExP Z own Ψ f F s σ (.next,ρ')) Fls s:=by
  rw [one_assign ht]
  exact wpAny_bind (assign_sound CX.rm.hand P hv hb ht (N.tg hvar) fun Ψ' s' P' c hid=>wpAny_pure (fin Ψ' s' P' c hid))
 cases ht with
 | one h=>
  exact obk h fun y hy _=>oNamek (G:=fun tgt=>wpAny (Md Z) A (assignStores f.env x none ((assignEach [tgt] f.env).map (·.2))) (ExP Z own Ψ f F s σ (.next,ρ')) Fls s→wpAny (Md Z) A (swappedStores [tgt] e f.env >>= fun o=>assignStores f.env x o ((assignEach [tgt] f.env).map (·.2))) (ExP Z own Ψ f F s σ (.next,ρ')) Fls s) hy (fun p h=>wpAny_bind (wpAny_of_eq rfl h)) plain
 | many hm=>
  rename_i is es k p
  refine someRealk (G:=fun e=>wpAny (Md Z) A (swappedStores [.Tuple es k p] e f.env >>= fun o=>assignStores f.env x o ((assignEach [.Tuple es k p] f.env).map (·.2))) (ExP Z own Ψ f F s σ (.next,ρ')) Fls s) hr (fun he=>wpAny_bind (wpAny_of_eq (swapped_other he) plain)) fun vs k2 p2 h1 h2=>(swapped_tuple (env:=f.env) hm h1 h2).elim fun o w=>wpAny_bind (wpAny_of_eq w.1 (w.2.elim (fun (e:o=none)=>by rw [e];exact plain) fun (e:o=some (ts.map (·.1)))=>?_))
  rw [e]
  exact asg_many CX N P hv hb hm hvar hnd fin
theorem use_sound (CX:CC Z A C n) {oL:Obj} {mL:Str→Option Value} {Q:Shared→Prop} (N:NmOK f) (P:At Z F₁ σ₁ Ψ f own anyName ρ Ψ s₁) (hL:Ψ L=none) (hmL:NsO oL mL) (hb:bindT t v ρ=some ρ') (ht:TgR ts t tgt) (hvar:ts.all (fun p=>isVar f.sc f.nm p.1 p.2)=true)
  (p:Stp Z (Mine.put Ψ L (oL,false)) F₁ s₁ F₂ σ s₂) (hv:VR Z F₂ v x) (k:∀ s',ExP Z own Ψ f F₁ s₁ σ (.next,ρ') .next s'→Q s') :
  wpAny (Md Z) A (assignAll x ((assignEach [tgt] f.env).map (·.2))) (fun _ s''=>∃ m,s''.heap.Ns L m∧∀ h',Heap.SameBut L s''.heap h'→Q { s'' with heap:=h' }) Fls s₂:=by
 rw [one_assign ht]
 have sub:=sub_put (w:=(oL,false)) hL
 have ap:=apart_of P.R P.T hL
 refine assign_sound CX.rm.hand (At.of (P.R.mono p.e sub) (P.T.sub sub) p.S) hv hb ht (N.tg hvar) fun Ψ' s' P' c hid=>?_
 have w:=P'.S.rem ((P'.ag L ap.ho).trans (put_self ..))
 exact ⟨mL,hmL.ns w.2.2,fun h' sb=>k _ ((ExA.close (s':={ s' with heap:=h' }) hL ap (Same.trans p.c c) p.e (w.1.sameBut w.2.1 sb) (Agree.cons P'.ag) (Hid.of_put hid hL) P'.R P'.T).p .next')⟩
theorem hidL {D:Addr} (fD:Free F Ψ D) (h:D≠L):Free F (Mine.put Ψ L (o,false)) D:=⟨fD.fz,(put_ne h).trans fD.pv,fD.ce⟩
theorem use_list (x tgt iter:PySem.Expr) (ifs:List PySem.Expr) (scope:Scope) (pos:Pos) (env:Env) (u:Value→Sem Unit):evalThenUse (.ListComp x [⟨tgt,iter,ifs,0⟩] scope pos) env u=(do
  let _←comprehension (.ListComp x [⟨tgt,iter,ifs,0⟩] scope pos) scope env iter.pos (newList []) false (eval iter env) (some u)):=rfl
theorem use_dict (k x tgt iter:PySem.Expr) (ifs:List PySem.Expr) (scope:Scope) (pos:Pos) (env:Env) (u:Value→Sem Unit):evalThenUse (.DictComp k x [⟨tgt,iter,ifs,0⟩] scope pos) env u=(do
  let _←comprehension (.DictComp k x [⟨tgt,iter,ifs,0⟩] scope pos) scope env iter.pos newDict false (eval iter env) (some u)):=rfl
noncomputable abbrev AsgG (Z:Sta) (A:Around) (own:List Addr) (Ψ:Pv) (F:Fz) (f:Fr) (ρ':Env') (s:Shared) (σ':Mem) (tgt e:PySem.Expr):Prop:=
 wpAny (Md Z) A (evalThenUse e f.env (fun v=>assignAll v ((assignEach [tgt] f.env).map (·.2)))) (fun _ s'=>ExP Z own Ψ f F s σ' (.next,ρ') .next s') Fls s
theorem asg_lcomp (CX:CC Z A C n) {m:Bool} {el:ME} {t2:Tg} {it:MI} {cs:MEs} (N:NmOK f) (P:At Z F σ Ψ f own anyName ρ Ψ s) (q1:ev C (.lcomp m el t2 it cs) ρ σ=some (v,σ')) (hb:bindT t v ρ=some ρ') (ht:TgR ts t tgt) (hvar:ts.all (fun p=>isVar f.sc f.nm p.1 p.2)=true)
  (h:chkE f.sc f.nm (.lcomp m el t2 it cs) e=true):AsgG Z A own Ψ F f ρ' s σ' tgt e:=xListCompk (G:=AsgG Z A own Ψ F f ρ' s σ' tgt) h fun x gs scope p h=>l1k (G:=fun gs=>AsgG Z A own Ψ F f ρ' s σ' tgt (.ListComp x gs scope p)) h fun g h=>
 genk (G:=fun g=>AsgG Z A own Ψ F f ρ' s σ' tgt (.ListComp x [g] scope p)) h fun tgt2 iter ifs h=>tgNmk h fun ts2 hts h=>andk h fun h1 h=>andk h fun h2 h=>andk h fun h3 h=>andk h fun h4 h5=>bnd_k (m:=evI C it ρ) q1 fun xs σ₁ q1 q=>bnd_k q fun vs σ₂ q3 q4=>by
 unfold AsgG
 rw [use_list]
 exact wpAny_bind (lcomp_core (Q:=fun _ s'=>wpAny (Md Z) A (pure ()) (fun _ s'=>ExP Z own Ψ f F s σ' (.next,ρ') .next s') Fls s') CX (evA CX el).1 (evAs CX cs).2 (evAI CX it) hts (compOK_of h1) h2 h3 h4 h5 P.R (.refl F) P.S q1 q3 (mkL_len q4) fun F₂ s' D L accv k p fD gD rD fL hDL mL=>mL.elim fun mm hm=>(NsO.of hm).elim fun oL w=>
  (newL (s:=s') (p.S.hide fL w.1) rD q4 (hidL fD hDL) gD).elim fun F₃ w3=>use_sound CX N (P.stp p) fL.pv w.2 hb ht hvar w3.1 w3.2 fun s'' q=>wpAny_pure ((ExA.of P p).up q))
theorem asg_dcomp (CX:CC Z A C n) {ek el:ME} {t2:Tg} {it:MI} {cs:MEs} (N:NmOK f) (P:At Z F σ Ψ f own anyName ρ Ψ s) (q1:ev C (.dcomp ek el t2 it cs) ρ σ=some (v,σ')) (hb:bindT t v ρ=some ρ') (ht:TgR ts t tgt) (hvar:ts.all (fun p=>isVar f.sc f.nm p.1 p.2)=true)
  (h:chkE f.sc f.nm (.dcomp ek el t2 it cs) e=true):AsgG Z A own Ψ F f ρ' s σ' tgt e:=xDictCompk (G:=AsgG Z A own Ψ F f ρ' s σ' tgt) h fun kx x gs scope p h=>l1k (G:=fun gs=>AsgG Z A own Ψ F f ρ' s σ' tgt (.DictComp kx x gs scope p)) h fun g h=>
 genk (G:=fun g=>AsgG Z A own Ψ F f ρ' s σ' tgt (.DictComp kx x [g] scope p)) h fun tgt2 iter ifs h=>tgNmk h fun ts2 hts h=>andk h fun h1 h=>andk h fun h2 h=>andk h fun h3 h=>andk h fun h4 h=>andk h fun h6 h5=>bnd_k (m:=evI C it ρ) q1 fun xs σ₁ q1 q=>bnd_k q fun vs σ₂ q3 q4=>by
 unfold AsgG
 rw [use_dict]
 exact wpAny_bind (dcomp_core (Q:=fun _ s'=>wpAny (Md Z) A (pure ()) (fun _ s'=>ExP Z own Ψ f F s σ' (.next,ρ') .next s') Fls s') CX (evA CX ek).1 (evA CX el).1 (evAs CX cs).2 (evAI CX it) hts (compOK_of h1) h2 h3 h4 h6 h5 P.R (.refl F) P.S q1 q3 fun F₂ s' D L accv p fD gD hs hz rD fL hDL mL=>mL.elim fun mm hm=>(NsO.of hm).elim fun oL w=>
  (newD (m:=0) (s:=s') (p.S.hide fL w.1) rD hz q4 (hidL fD hDL) gD hs).elim fun F₃ w3=>use_sound CX N (P.stp p) fL.pv w.2 hb ht hvar w3.1 w3.2 fun s'' q=>wpAny_pure ((ExA.of P p).up q))
theorem isCompk {G:ME→Prop} {a:ME} (h:isComp a=true) (k1:∀ m el t it cs,G (.lcomp m el t it cs)) (k2:∀ m el t it cs,G (.dcomp m el t it cs)):G a:=by
 cases a with
 | lcomp=>exact k1 ..
 | dcomp=>exact k2 ..
 | _=>cases h
theorem swaps_name {env:Env} {l:Nat} {y:Str} {p:Pos} (h:compOf e=true):∃ b,swapsWithSole [.Name y p] e l env=pure b:=by
 cases e with
 | ListComp=>exact ⟨_,rfl⟩
 | SetComp=>exact ⟨_,rfl⟩
 | DictComp=>exact ⟨_,rfl⟩
 | _=>cases h
theorem swaps_tup {env:Env} {l:Nat} {es:List PySem.Expr} {k p} (h:compOf e=true):∃ b,swapsWithSole [.Tuple es k p] e l env=pure b:=by
 cases e with
 | ListComp=>exact ⟨_,rfl⟩
 | SetComp=>exact ⟨_,rfl⟩
 | DictComp=>exact ⟨_,rfl⟩
 | _=>cases h
theorem swaps_some {env:Env} {l:Nat} (ht:TgR ts t tgt) (h:compOf e=true):∃ b,swapsWithSole [tgt] e l env=pure b:=by
 cases ht with
 | one h1=>exact obk h1 fun y hy _=>oNamek (G:=fun tgt=>∃ b,swapsWithSole [tgt] e l env=pure b) hy fun p=>swaps_name h
 | many=>exact swaps_tup h
theorem ex_asg {t:Tg} {a:ME} (CX:CC Z A C n):ExS Z A C (.asg t a):=fun own Ψ F σ f ρ s stm r σ' hc N P q=>sAssignk (G:=ExG Z A own Ψ F f s r σ') hc fun tg e pos hc=>l1k (G:=fun tg=>ExG Z A own Ψ F f s r σ' (.Assign tg e pos)) hc fun tgt hc=>tgNmk hc fun ts ht hc=>andk hc fun h1 hc=>andk hc fun h2 hc=>andk hc fun h3 hc=>andk hc fun h4 h5=>
 bnd_k (m:=ev C a ρ) q fun v σ₁ q1 q=>bndl q fun ρ' hb q=>ret_k (a:=(Fl.next,ρ')) (G:=fun r σ'=>ExG Z A own Ψ F f s r σ' (.Assign [tgt] e pos)) q <| by
 have plain:wpAny (Md Z) A (eval e f.env >>= fun v=>swappedStores [tgt] e f.env >>= fun o=>assignStores f.env v o ((assignEach [tgt] f.env).map (·.2))) (ExP Z own Ψ f F s σ₁ (.next,ρ')) Fls s:=
  wpAny_bind (P.ev (evA CX a).1 h5 q1 fun x s₁ F₁ p hv=>(ExA.of P p).go (asg_plain CX N (P.stp p) hv hb ht h1 (of_decide_eq_true h2) h4))
 unfold ExG
 rw [arm_exec_Assign]
 refine wpAny_bind (wpAny_standAt (wpAny_bind ?_))
 cases hcm:compOf e with
 | false=>
  refine wpAny_of_eq (swaps_any hcm:swapsWith e (some tgt) pos.line f.env=pure false) ?_
  rw [if_neg Bool.false_ne_true]
  exact plain
 | true=>
  refine (swaps_some (l:=pos.line) (env:=f.env) ht hcm).elim fun b hb'=>wpAny_of_eq hb' ?_
  cases b with
  | false=>
   rw [if_neg Bool.false_ne_true]
   exact plain
  | true=>
   rw [if_pos rfl]
   refine ork h3 (fun h=>notk h fun h=>nomatch h.symm.trans hcm) fun h=>wpAny_bind (wpAny_mono (?_:AsgG Z A own Ψ F f ρ' s σ₁ tgt e) (fun _ s' p=>wpAny_pure p) fun _ _ z=>z)
   exact isCompk (G:=fun a=>ev C a ρ σ=some (v,σ₁)→chkE f.sc f.nm a e=true→AsgG Z A own Ψ F f ρ' s σ₁ tgt e) h (fun m el t2 it cs q1 h5=>asg_lcomp CX N P q1 hb ht h1 h5) (fun k el t2 it cs q1 h5=>asg_dcomp CX N P q1 hb ht h1 h5) q1 h5
end
structure FAt (Z:Sta) (own:List Addr) (Ψ:Pv) (F:Fz) (f:Fr) (xs:List V) (d:ItD) (s:Shared) (s':Shared) (F₁:Fz) (Ψ₁:Pv) (σ₁:Mem) (ρ₁:Env') (i:Nat) (rest:List V):Prop where
 c:Same s s'
 e:Ext F F₁
 R:EnvR Z Ψ₁ F₁ f ρ₁
 T:Stores Ψ₁ f.env own anyName
 S:SR Z F₁ Ψ₁ σ₁ s'.heap
 ag:Agree (d.I::own) Ψ Ψ₁
 hI:∃ o,Ψ₁ d.I=some (o,false)
 hid:Hid Ψ Ψ₁
 st:d.St i s'.heap
 le:i≤xs.length
 dr:xs.drop i=rest
theorem forV_k {body:Env'→M (Fl×Env')} {t:Tg} {v:V} {ρ:Env'} {σ σ':Mem} {r:Fl×Env'} {G:V→Mem→Prop} (q:forV body t v ρ σ=some (r,σ'))
  (k1:∀ i es es' σ₂,σ[i]?=some (.sd es)→loopS body t (es.map fun e=>V.str e.1) ρ (σ.set i (.lent es))=some (r,σ₂)→σ₂[i]?=some (.lent es')→G (.cell i) (σ₂.set i (.sd es)))
  (k2:∀ v,bnd (itemsOf v) (fun xs=>loopS body t xs ρ) σ=some (r,σ')→G v σ'):G v σ':=by
 cases v with
 | cell i=>
  have q:(match σ[i]? with
   | some (.sd es)=>match loopS body t (es.map fun e=>V.str e.1) ρ (σ.set i (.lent es)) with
    | some (r,σ')=>match σ'[i]? with
     | some (.lent _)=>some (r,σ'.set i (.sd es))
     | _=>Option.none
    | Option.none=>Option.none
   | _=>Option.none)=some (r,σ'):=q
  cases e1:σ[i]? with
  | none=>rw [e1] at q;exact nn q
  | some ob=>
   rw [e1] at q
   cases ob with
   | sd es=>
    dsimp only at q
    cases e2:loopS body t (es.map fun e=>V.str e.1) ρ (σ.set i (.lent es)) with
    | none=>rw [e2] at q;exact nn q
    | some p=>
     rw [e2] at q
     cases e3:p.2[i]? with
     | none=>dsimp only at q;rw [e3] at q;exact nn q
     | some ob=>
      dsimp only at q
      rw [e3] at q
      cases ob with
      | lent es'=>
       have w:=Prod.mk.inj (Option.some.inj q)
       exact w.2▸k1 i es es' p.2 e1 (w.1▸e2) e3
      | _=>exact nn q
   | _=>exact nn q
 | _=>exact k2 _ q
section
variable {Z:Sta} {A:Around} {n:Nat} {C:Calls} {own:List Addr} {Ψ Ψ₀ Ψ' Ψ₁ Ψ₂:Pv} {F F' F₁ F₂ F₃:Fz} {σ σ' σ₁ σ₂:Mem} {f:Fr} {ρ ρ' ρ₁ ρ₂:Env'} {s s' s₁ s₂:Shared} {r:Fl×Env'} {fl:Flow} {a:Addr} {o:Obj} {ts:Nm} {t:Tg} {tgt e:PySem.Expr} {v:V} {x:Value} {xs:List V} {d:ItD} {i:Nat}
theorem subT_of (T:Stores Ψ f.env own anyName) (hn:Ψ a=none) (ag:Agree (a::own) Ψ Ψ₂):SubT Ψ Ψ₂:=fun b o e=>(ag b fun hm=>(List.mem_cons.mp hm).elim (fun h=>nomatch (h▸e).symm.trans hn) fun h=>(T.hd b h).elim fun o' e'=>nomatch e.symm.trans e').trans e
theorem for_core (CX:CC Z A C n) {b:MSs} {body:List PySem.Stmt} {Rr:Result→Shared→Prop} (hb:ExsS Z A C b) (N:NmOK f) (P:At Z F σ Ψ f own anyName ρ Ψ s) (it:Iter Z A Ψ F xs d) (st:d.St 0 s.heap) (fI:Free F Ψ d.I)
  (ht:TgR ts t tgt) (hvar:ts.all (fun p=>isVar f.sc f.nm p.1 p.2)=true) (hbody:chkSs f.sc f.nm b body=true) (q:loopS (exs C b) t xs ρ σ=some (r,σ')) (fin:∀ fl s',ExP Z own Ψ f F s σ' r fl s'→Rr (.ok fl) s') :
  codeAny (Md Z) A (.forLoop tgt (.ref d.I) body [] f.env) Rr s:=by
 have ap:=apart_of P.R P.T fI.pv
 have sT:∀ Ψ₂,Agree (d.I::own) Ψ Ψ₂→SubT Ψ Ψ₂:=fun Ψ₂=>subT_of P.T fI.pv
 refine (it.cls _ _ st).elim fun o0 w0=>w0.elim fun T0 w0=>?_
 have sub0:Sub Ψ (Mine.put Ψ d.I (o0,false)):=sub_put fI.pv
 refine codeAny_forLoop_any (fun m s'=>∃ F₁ Ψ₁ σ₁ ρ₁ i rest,FAt Z own Ψ F f xs d s s' F₁ Ψ₁ σ₁ ρ₁ i rest∧loopS (exs C b) t rest ρ₁ σ₁=some (r,σ')∧m=rest.length) (fun m s' h=>?_) xs.length
  ⟨F,_,σ,ρ,0,xs,⟨⟨rfl,rfl,rfl⟩,.refl F,P.R.mono (.refl F) sub0,P.T.sub sub0,P.S.hide fI w0.1,Agree.put (.head _),⟨o0,put_self ..⟩,.put _ _,st,Nat.zero_le _,rfl⟩,q,rfl⟩
 refine h.elim fun F₁ h=>h.elim fun Ψ₁ h=>h.elim fun σ₁ h=>h.elim fun ρ₁ h=>h.elim fun i h=>h.elim fun rest h=>?_
 have Q:=h.1
 refine wpAny_mono (E:=Fls) ?_ (fun _ _ z=>z) fun _ _ z=>z.elim
 cases rest with
 | nil=>
  have hi:i=xs.length:=Nat.le_antisymm Q.le (List.drop_eq_nil_iff.mp Q.dr)
  refine ret_k (a:=(Fl.next,ρ₁)) (G:=fun r σ'=>(∀ fl s',ExP Z own Ψ f F s σ' r fl s'→Rr (.ok fl) s')→_) h.2.1 (fun fin=>?_) fin
  refine it.W.done _ _ _ (hi▸Q.st) fun h' tk' hk=>Q.hI.elim fun oI hI=>?_
  have w:=Q.S.rem hI
  exact wpAny_pure (fin _ _ ((ExA.close (s':={ s' with heap:=h',toks:=tk' }) fI.pv ap (Same.trans Q.c ⟨rfl,rfl,rfl⟩) Q.e (w.1.heap w.2.1 fun b o hb e=>hk b o (fun hm=>hb (List.mem_singleton.mp hm)) e) Q.ag Q.hid Q.R Q.T).p .next'))
 | cons y rest=>
  have dc:=drop_cons Q.dr
  refine bndl h.2.1 fun ρ' ea q=>bnd_k q fun p1 σb qb q=>?_
  refine it.W.item i _ _ _ dc.2.2 Q.st fun v h₁ tk₁ hP st₁ hk₁=>(it.cls _ _ st₁).elim fun oJ w=>w.elim fun TJ w=>Q.hI.elim fun oI hI=>?_
  have S2:=Q.S.turn hI (fun b x hb e=>hk₁ b x (fun hm=>hb (List.mem_singleton.mp hm)) e) w.1
  have hv:VR Z F₁ y v:=(it.val i v dc.2.2 hP).elim fun u p=>(Option.some.inj (dc.1.symm.trans p.1))▸p.2.mono Q.e
  refine wpAny_mono (E:=Fls) ?_ (fun _ _ z=>z) fun _ _ z=>z.elim
  refine owned_cls (s:={ s' with heap:=h₁,toks:=tk₁ }) w.1 w.2.1 w.2.2 ?_
  have agI:Agree (d.I::own) Ψ (Mine.put Ψ₁ d.I (oJ,false)):=Q.ag.trans (Agree.put (.head _))
  refine wpAny_mono (E:=Fls) ?_ (fun _ _ z=>z) fun _ _ z=>z.elim
  refine assign_sound (s:={ s' with heap:=h₁,toks:=tk₁ }) CX.rm.hand (At.of (Q.R.apart ap fun b hb=>put_ne hb) (Q.T.apart ap fun b hb=>put_ne hb) S2) hv ea ht (N.tg hvar) fun Ψ₂ s₂ P₂ c₂ hid₂=>?_
  have hI2:Ψ₂ d.I=some (oJ,false):=(P₂.ag _ ap.ho).trans (put_self ..)
  have ag2:=agI.trans (P₂.ag.wide fun x hm=>.tail _ hm)
  have st₂:d.St (i+1) s₂.heap:=it.moveT st₁ S2 P₂.S Q.e Q.e (sT _ agI) (sT _ ag2) (put_self ..) hI2
  refine wpAny_mono (E:=Fls) ?_ (fun _ _ z=>z) fun _ _ z=>z.elim
  refine wpAny_mono (hb own Ψ₂ F₁ σ₁ f ρ' s₂ body p1 σb hbody N P₂.now qb) (fun fl s₃ p=>p.elim fun F₃ p=>p.elim fun Ψ₃ p=>?_) fun _ _ z=>z
  have hI3:Ψ₃ d.I=some (oJ,false):=(p.1.P.ag _ ap.ho).trans hI2
  have ag3:=ag2.trans (p.1.P.ag.wide fun x hm=>.tail _ hm)
  have c3:Same s s₃:=Same.trans Q.c (Same.trans (Same.trans ⟨rfl,rfl,rfl⟩ c₂) p.1.c)
  have hid3:Hid Ψ Ψ₃:=fun b hb=>p.1.hid b (hid₂ b (Hid.put _ _ b (Q.hid b hb)))
  cases p1 with|mk w ρ₃=>
  cases w with
  | next=>
   cases p.2.nx
   exact ⟨rest.length,h.2.2▸Nat.lt_succ_self _,F₃,Ψ₃,σb,ρ₃,i+1,rest,⟨c3,Q.e.trans p.1.e,p.1.P.R,p.1.P.T,p.1.P.S,ag3,⟨_,hI3⟩,hid3,it.moveT st₂ P₂.S p.1.P.S Q.e (Q.e.trans p.1.e) (sT _ ag2) (sT _ ag3) hI2 hI3,dc.2.2,dc.2.1⟩,q,rfl⟩
  | ret v=>
   refine p.2.rt.elim fun y w=>?_
   cases w.1
   refine ret_k (a:=(Fl.ret v,ρ₃)) (G:=fun r σ'=>(∀ fl s',ExP Z own Ψ f F s σ' r fl s'→Rr (.ok fl) s')→Rr (.ok (.ret y)) s₃) q (fun fin=>fin _ _ ?_) fin
   exact (ExA.close fI.pv ap c3 (Q.e.trans p.1.e) (p.1.P.S.rem hI3).1 ag3 hid3 p.1.P.R p.1.P.T).p (.ret' w.2)
theorem put_rem {w:Obj×Bool} (h:Ψ a=some w):Ψ=Mine.put (Mine.rem Ψ a) a w:=funext fun b=>if e:b=a then by rw [e,put_self,h] else ((put_ne e).trans (rem_ne e)).symm
theorem ex_fors {t:Tg} {it:ME} {b:MSs} (CX:CC Z A C n) (hb:ExsS Z A C b):ExS Z A C (.fors t it b):=fun own Ψ F σ f ρ s stm r σ' hc N P q=>sFork (G:=ExG Z A own Ψ F f s r σ') hc fun tgt iter ss rr pos hc=>andk hc fun h0 hc=>nilk (G:=fun rr=>ExG Z A own Ψ F f s r σ' (.For tgt iter ss rr pos)) h0 <|
 tgNmk hc fun ts ht hc=>andk hc fun h1 hc=>andk hc fun h2 hc=>andk hc fun h3 hc=>andk hc fun h4 h5=>bnd_k (m:=ev C it ρ) q fun v σ₁ q1 q=>by
 unfold ExG
 rw [arm_exec_For]
 refine wpAny_bind (wpAny_standAt (wpAny_bind (P.ev (evA CX it).1 h4 q1 fun x s₁ F₁ p hv=>wpAny_bind (wpAny_of_eq (noSet_folded h3 x) (wpAny_bind (wpAny_standAt (wpAny_bind (wpAny_holding ?_))))))))
 have Q:=P.stp p
 refine forV_k (G:=fun v σ'=>VR Z F₁ v x→wpAny (Md Z) A (pyIter x) (fun a s'=>wpAny (Md Z) A (runOwn (Code.forLoop tgt a ss [] f.env) f.env) (ExP Z own Ψ f F s σ' r) Fls s') Fls s₁) q (fun i es es' σ₂ hes q hes' hv=>?_) (fun v q hv=>?_) hv
 ·refine sdCell (G:=fun x=>wpAny (Md Z) A (pyIter x) (fun a s'=>wpAny (Md Z) A (runOwn (Code.forLoop tgt a ss [] f.env) f.env) (ExP Z own Ψ f F s (σ₂.set i (.sd es)) r) Fls s') Fls s₁) Q.S hv hes fun a o kvs hi p1 p2 g dd l=>?_
  have ap:=apart_of Q.R Q.T p2
  have S2:=Q.S.lend hi p1 p2 g dd l
  refine itDict CX.rm.hand dd.2.1 S2 g (fun b hb hI=>(List.mem_cons.mp hb).elim (fun e=>absurd e hI) fun hb=>⟨o,.inr (by rw [List.mem_singleton.mp hb];exact put_self ..)⟩) dd.1 l fun d s₂ it st fI _ p2'=>wpAny_runOwn (for_core CX hb N (At.of ((Q.R.apart ap fun b hb=>put_ne hb).ext p2'.e) (Q.T.apart ap fun b hb=>put_ne hb) p2'.S) it st fI ht h1 h5 q fun fl s' w=>w.elim fun F₅ w=>w.elim fun Ψ₅ w=>?_)
  have ha5:Ψ₅ a=some (o,true):=(w.1.P.ag a ap.ho).trans (put_self ..)
  have S5:=w.1.P.S
  rw [put_rem ha5] at S5
  exact ((ExA.of P p).trans (ExA.close p2 ap (Same.trans p2'.c w.1.c) (p2'.e.trans w.1.e) (S5.back ((p2'.e.trans w.1.e).pre _ _ hi) (rem_self ..) dd (l.mono (p2'.e.trans w.1.e))) (Agree.cons w.1.P.ag) (Hid.of_put w.1.hid p2) w.1.P.R w.1.P.T)).p w.2
 ·exact bnd_k q fun xs σ₂ q3 q=>iter_sound CX.rm.hand Q.S hv q3 fun d s₂ it st fI _ p2=>wpAny_runOwn (for_core CX hb N (Q.stp p2) it st fI ht h1 h5 q fun fl s' w=>(ExA.of P (p.trans p2)).up w)
mutual
theorem exA (CX:CC Z A C n):∀ st:MS,ExS Z A C st
 | .expr a=>ex_expr CX
 | .asg t a=>ex_asg CX
 | .put o i a=>ex_put CX
 | .ret a=>ex_ret CX
 | .ret0=>ex_ret0
 | .ifs t a b=>ex_ifs CX (exAs CX a) (exAs CX b)
 | .fors t it b=>ex_fors CX (exAs CX b)
 | .whiles t b=>ex_whiles CX (exAs CX b)
 | .bad=>fun _ _ _ _ _ _ _ _ _ _ _ _ _ q=>nn q
theorem exAs (CX:CC Z A C n):∀ st:MSs,ExsS Z A C st
 | .nil=>exs_nil
 | .cons a b=>exs_cons (exA CX a) (exAs CX b)
end
end
theorem zip_find {α:Type}:∀ (ns:List Str) (xs:List α),ns.length=xs.length→∀ n∈ns,∃ v,(ns.zip xs).lookup n=some v
 | [],[],_,n,h=>nomatch h
 | m::ns,x::xs,hl,n,h=>by
  rw [List.zip_cons_cons,List.lookup_cons]
  cases e:n == m with
  | true=>exact ⟨x,rfl⟩
  | false=>
   rcases List.mem_cons.mp h with rfl|h
   ·rw [beq_self_eq_true] at e;cases e
   ·exact zip_find ns xs (Nat.succ.inj hl) n h
theorem zip_again {α:Type}:∀ (ns:List Str) (xs:List α),ns.length=xs.length→ns.Nodup→ns.filterMap (fun n=>((ns.zip xs).lookup n).map fun v=>(n,v))=ns.zip xs
 | [],[],_,_=>rfl
 | m::ns,x::xs,hl,hn=>by
  obtain ⟨h1,h2⟩:=List.nodup_cons.mp hn
  rw [List.zip_cons_cons,List.filterMap_cons]
  have e:List.lookup m ((m,x)::ns.zip xs)=some x:=by rw [List.lookup_cons,beq_self_eq_true]
  rw [e]
  show (m,x)::_=_
  congr 1
  have key:∀ l:List Str,(∀ n∈l,n∈ns)→l.filterMap (fun n=>(List.lookup n ((m,x)::ns.zip xs)).map fun v=>(n,v))=l.filterMap (fun n=>(List.lookup n (ns.zip xs)).map fun v=>(n,v)):=by
   intro l
   induction l with
   | nil=>intro _;rfl
   | cons n l ih=>
    intro hl
    have:(n == m)=false:=by
     cases q:n == m with
     | true=>exact absurd (by rw [beq_iff_eq] at q;rw [← q];exact hl n (.head _)) h1
     | false=>rfl
    rw [List.filterMap_cons,List.filterMap_cons,ih fun n h=>hl n (.tail _ h),List.lookup_cons,this]
  rw [key ns fun _ h=>h,zip_again ns xs (Nat.succ.inj hl) h2]
noncomputable def plainParams (p:Arguments) (ns:List Str):Bool:=p.posonlyargs.isEmpty&&p.kwonlyargs.isEmpty&&p.vararg.isNone&&p.kwarg.isNone&&p.args.map (·.arg) == ns
noncomputable def isNoneV:Value→Bool
 | .none=>true
 | _=>false
theorem bindArgs_plain {fd:FuncData} {ns:List Str} {xs:List Value} (hp:plainParams fd.params ns=true) (hd:isNoneV fd.defaults=true) (hn:ns.Nodup) (hl:ns.length=xs.length):bindArgs fd ⟨xs,[]⟩=pure (ns.zip xs):=by
 unfold plainParams at hp
 simp only [Bool.and_eq_true,List.isEmpty_iff,Option.isNone_iff_eq_none,beq_iff_eq] at hp
 obtain ⟨⟨⟨⟨h1,h2⟩,h3⟩,h4⟩,h5⟩:=hp
 have hd:fd.defaults=.none:=by
  unfold isNoneV at hd
  split at hd
  ·rename_i e;exact e
  ·cases hd
 have hs:seqItems? Value.none=pure none:=rfl
 have hm:ns.filter (fun n=>((ns.zip xs).lookup n).isNone)=[]:=by
  rw [List.filter_eq_nil_iff]
  intro n hn
  obtain ⟨v,e⟩:=zip_find ns xs hl n hn
  rw [e];exact Bool.false_ne_true
 unfold bindArgs
 simp [h1,h2,h3,h4,h5,hd,hs,hl,hm,zip_again ns xs hl hn]
 intro x hx hno
 obtain ⟨v,e⟩:=zip_find ns xs hl x (List.mem_of_mem_take hx)
 exact absurd (mem_of_lookup e) (hno v)
theorem zipIdx_lookup:∀ {l:List Str} {n:Nat} {x:Str} {i:Nat},(l.zipIdx n).lookup x=some i→n≤i∧l[i-n]?=some x
 | [],_,_,_,h=>nomatch h
 | y::l,n,x,i,h=>by
  rw [List.zipIdx_cons,List.lookup_cons] at h
  cases e:x == y with
  | true=>
   rw [e] at h
   cases h
   rw [beq_iff_eq] at e
   subst e
   exact ⟨Nat.le_refl _,by rw [Nat.sub_self];rfl⟩
  | false=>
   rw [e] at h
   obtain ⟨h1,h2⟩:=zipIdx_lookup (l:=l) (n:=n+1) h
   refine ⟨Nat.le_of_succ_le h1,?_⟩
   have:i-n=(i-(n+1))+1:=(Nat.succ_pred_eq_of_pos (Nat.sub_pos_of_lt h1)).symm
   rw [this,List.getElem?_cons_succ]
   exact h2
theorem cellsFrom_has:∀ {names:List (Str×NameKind)} {n:Nat} {acc:List (Str×Addr)} {x:Str},((x,NameKind.cell)∈names∨(acc.lookup x).isSome=true)→((cellsFrom n names acc).lookup x).isSome=true
 | [],n,acc,x,h=>h.elim (fun h=>nomatch h) id
 | (y,k)::r,n,acc,x,h=>by
  unfold cellsFrom
  split
  ·refine cellsFrom_has ?_
   rcases h with h|h
   ·rcases List.mem_cons.mp h with e|h
    ·cases e;right;rw [List.lookup_cons,beq_self_eq_true];rfl
    ·exact .inl h
   ·right
    rw [List.lookup_cons]
    split
    ·rfl
    ·exact h
  ·rename_i hk
   refine cellsFrom_has ?_
   rcases h with h|h
   ·rcases List.mem_cons.mp h with e|h
    ·cases e;exact absurd rfl hk
    ·exact .inl h
   ·exact .inr h
theorem bindL_other {kd:Str→Option NameKind}:∀ {binds:List (Str×Value)} {m:Str→Option Value} {x:Str},(∀ p∈binds,p.1≠x)→bindL kd binds m x=m x
 | [],_,_,_=>rfl
 | (n,v)::r,m,x,h=>by
  unfold bindL
  rw [bindL_other fun p hp=>h p (.tail _ hp)]
  split
  ·exact if_neg fun e=>h (n,v) (.head _) e.symm
  ·rfl
theorem bindC_other {kd:Str→Option NameKind}:∀ {binds:List (Str×Value)} {m:Str→Option Value} {x:Str},(∀ p∈binds,p.1≠x)→bindC kd binds m x=m x
 | [],_,_,_=>rfl
 | (n,v)::r,m,x,h=>by
  unfold bindC
  rw [bindC_other fun p hp=>h p (.tail _ hp)]
  split
  ·rfl
  ·exact if_neg fun e=>h (n,v) (.head _) e.symm
theorem bindL_at {kd:Str→Option NameKind} {x:Str} {v:Value} (hx:kd x=some .local):∀ {ns:List Str} {xs:List Value} {m:Str→Option Value} {i:Nat},ns.length=xs.length→ns.Nodup→ns[i]?=some x→xs[i]?=some v→bindL kd (ns.zip xs) m x=some v
 | [],[],_,_,_,_,h,_=>nomatch h
 | n::ns,w::xs,m,0,hl,hn,h,k=>by
  cases h;cases k
  rw [List.zip_cons_cons]
  unfold bindL
  rw [bindL_other fun p hp e=>(List.nodup_cons.mp hn).1 (by rw [← e];exact (List.of_mem_zip hp).1),if_pos hx]
  exact if_pos rfl
 | n::ns,w::xs,m,i+1,hl,hn,h,k=>by
  rw [List.zip_cons_cons]
  unfold bindL
  exact bindL_at hx (Nat.succ.inj hl) (List.nodup_cons.mp hn).2 h k
theorem bindC_at {kd:Str→Option NameKind} {x:Str} {v:Value} (hx:kd x≠some .local):∀ {ns:List Str} {xs:List Value} {m:Str→Option Value} {i:Nat},ns.length=xs.length→ns.Nodup→ns[i]?=some x→xs[i]?=some v→bindC kd (ns.zip xs) m x=some v
 | [],[],_,_,_,_,h,_=>nomatch h
 | n::ns,w::xs,m,0,hl,hn,h,k=>by
  cases h;cases k
  rw [List.zip_cons_cons]
  unfold bindC
  rw [bindC_other fun p hp e=>(List.nodup_cons.mp hn).1 (by rw [← e];exact (List.of_mem_zip hp).1),if_neg hx]
  exact if_pos rfl
 | n::ns,w::xs,m,i+1,hl,hn,h,k=>by
  rw [List.zip_cons_cons]
  unfold bindC
  exact bindC_at hx (Nat.succ.inj hl) (List.nodup_cons.mp hn).2 h k
noncomputable def hideOwn (own:List Addr) (h:Heap) (Ψ:Pv):Pv:=fun b=>if b∈own then (h.get? b).map fun o=>(o,false) else Ψ b
theorem hideOwn_in {own:List Addr} {h:Heap} {Ψ:Pv} {b:Addr} {o:Obj} (hb:b∈own) (e:h.get? b=some o):hideOwn own h Ψ b=some (o,false):=by
 unfold hideOwn;rw [if_pos hb,e];rfl
theorem hideOwn_out {own:List Addr} {h:Heap} {Ψ:Pv} {b:Addr} (hb:b∉own):hideOwn own h Ψ b=Ψ b:=if_neg hb
theorem SR.hideOwn {Z F Ψ σ h} (R:SR Z F Ψ σ h) {own:List Addr} (f:∀ b∈own,Free F Ψ b):SR Z F (Mine.hideOwn own h Ψ) σ h:=by
 refine R.prv (fun b o t q=>?_) (fun b o q=>?_) fun b hb=>hideOwn_out fun hm=>(f b hm).ce hb
 ·by_cases hm:b∈own
  ·unfold Mine.hideOwn at q
   rw [if_pos hm] at q
   exact (Option.map_eq_some_iff.mp q).elim fun o' w=>(Prod.mk.inj w.2).1▸w.1
  ·exact R.frm b o t ((hideOwn_out hm).symm.trans q)
 ·by_cases hm:b∈own
  ·exact (f b hm).fz
  ·exact R.dis b o ((hideOwn_out hm).symm.trans q)
theorem get?_old {h:Heap} {b:Addr} (e:h.objs.size≤b):h.get? b=none:=by
 cases q:h.get? b with
 | none=>rfl
 | some o=>exact absurd (Heap.lt_size q) (Nat.not_lt.mpr e)
noncomputable def foundIn (cells:List (Str×Addr)):List Addr:=cells.filterMap fun p=>cells.lookup p.1
theorem foundIn_of {cells:List (Str×Addr)} {c:Addr} (h:c∈foundIn cells):∃ y,cells.lookup y=some c:=(List.mem_filterMap.mp h).elim fun p w=>⟨p.1,w.2⟩
theorem foundIn_at {cells:List (Str×Addr)} {y:Str} {c:Addr} (h:cells.lookup y=some c):c∈foundIn cells:=List.mem_filterMap.mpr ⟨(y,c),mem_of_lookup h,h⟩
noncomputable def oFunc (d:Data) (k:FuncData→Bool):Bool:=match d with
 | .func fd=>k fd
 | _=>false
theorem oFunck {d:Data} {k:FuncData→Bool} {G:Data→Prop} (h:oFunc d k=true) (g:∀ fd,k fd=true→G (.func fd)):G d:=by
 cases d with
 | func fd=>exact g fd h
 | _=>exact nomatch h
noncomputable def oStm (b:FuncBody) (k:List PySem.Stmt→Bool):Bool:=match b with
 | .stmts x=>k x
 | _=>false
theorem oStmk {d:FuncBody} {k:List PySem.Stmt→Bool} {G:FuncBody→Prop} (h:oStm d k=true) (g:∀ fd,k fd=true→G (.stmts fd)):G d:=by
 cases d with
 | stmts fd=>exact g fd h
 | _=>exact nomatch h
structure FdOK (K:Frag) (fd:FuncData):Prop where
 code:codeIn K fd.code fd.qualname=true
 gl:fd.globals=mainGlobals
 bl:fd.builtins=builtinsNs
 cl:fd.closure=[]
 kind:fd.scope.kind=.function
 noCo:fd.scope.isCoroutine=false
 noGen:fd.scope.isGenerator=false
 noFree:fd.scope.names.all (fun p=>p.2 != .free)=true
noncomputable def fdChk (K:Frag) (fd:FuncData):Bool:=codeIn K fd.code fd.qualname&&(fd.globals == mainGlobals&&(fd.builtins == builtinsNs&&(fd.closure.isEmpty&&(fd.scope.kind == .function&&(!fd.scope.isCoroutine&&(!fd.scope.isGenerator&&fd.scope.names.all (fun p=>p.2 != .free)))))))
theorem fdChk_ok {K:Frag} {fd:FuncData} (h:fdChk K fd=true):FdOK K fd:=andk h fun h1 h=>andk h fun h2 h=>andk h fun h3 h=>andk h fun h4 h=>andk h fun h5 h=>andk h fun h6 h=>andk h fun h7 h=>notk h6 fun h6=>notk h7 fun h7=>⟨h1,eq_of_beq h2,eq_of_beq h3,List.isEmpty_iff.mp h4,eq_of_beq h5,h6,h7,h⟩
noncomputable def fnOK (K:Frag) (a:Addr) (f:MFun):Bool:=oB (K.lookup a) fun o=>oFunc o.data fun fd=>oStm fd.body fun body=>fdChk K fd&&(plainParams fd.params (f.vars.take f.ps)&&(isNoneV fd.defaults&&(decide (f.vars.take f.ps).Nodup&&((f.vars.take f.ps).all (fun x=>fd.scope.names.lookup x == some .local || fd.scope.names.lookup x == some .cell)&&chkSs fd.scope.names f.vars.zipIdx f.body body))))
noncomputable abbrev fnF (fd:FuncData) (vars:List Str) (env:Env):Fr:=⟨env,fd.scope.names,vars.zipIdx⟩
structure Entered (Z:Sta) (Ψ:Pv) (F:Fz) (σ:Mem) (fd:FuncData) (ns vars:List Str) (xs:List Value) (ρ:Env') (s:Shared) (env:Env) (own:List Addr) (Ψ':Pv) (s₁:Shared):Prop where
 P:At Z F σ Ψ' (fnF fd vars env) own anyName ρ Ψ' s₁
 N:NmOK (fnF fd vars env)
 c:Same s s₁
 ag:Agree own Ψ Ψ'
 fr:∀ b∈own,Free F Ψ b
 hN:∀ (i:Nat) (y:Str) (x:Value),ns[i]?=some y→xs[i]?=some x→env.kindOf y=some .local→NameAt Ψ' env y x
 kd:∀ y,env.kindOf y=fd.scope.names.lookup y
 ce:∀ y c,env.cells.lookup y=some c→c∈own
section
variable {Z:Sta} {A:Around} {Ψ:Pv} {F F₀:Fz} {n:Nat} {C:Calls} {σ σ':Mem} {s s₁:Shared} {a:Addr} {fd:FuncData} {body:List PySem.Stmt} {ns vars:List Str} {as xs:List Value} {ρ:Env'} {env:Env} {m:Str→Option Value} {h₁:Heap} {tk:Nat}
theorem cellIn {K:Frag} (D:FdOK K fd) {y:Str} {L:Addr} (h:fd.scope.names.lookup y=some .cell):∃ c,(cellsFrom L fd.scope.names []).lookup y=some c:=Option.isSome_iff_exists.mp (cellsFrom_has (.inl (lookup_mem h)))
theorem noFree {K:Frag} (D:FdOK K fd) {y:Str} (h:fd.scope.names.lookup y=some .free):False:=absurd (List.all_eq_true.mp D.noFree _ (lookup_mem h)) (by show ¬(NameKind.free != NameKind.free)=true;decide)
theorem entered (D:FdOK Z.K fd) {qual func code} (h10:ns.Nodup) (hlen:ns.length=xs.length) (S:SR Z F Ψ σ s.heap)
  (hρ:∀ (i:Nat) (v:V) (y:Str),ρ[i]?=some v→v≠.unb→vars[i]?=some y→ns[i]?=some y∧∃ x,xs[i]?=some x∧VR Z F v x)
  (he:env=newEnv fd.scope s.heap.objs.size mainGlobals (cellsFrom (s.heap.objs.size+1) fd.scope.names []) qual func code none builtinsNs)
  (x:InCallC s env.locals (bindL env.kindOf (ns.zip xs) fun _=>none) env.cells (bindC env.kindOf (ns.zip xs) fun _=>none) s₁):Entered Z Ψ F σ fd ns vars xs ρ s env (env.locals::foundIn env.cells) (hideOwn (env.locals::foundIn env.cells) s₁.heap Ψ) s₁:=by
 have hsc:env.scope=fd.scope:=he▸rfl
 have hcells:env.cells=cellsFrom (s.heap.objs.size+1) fd.scope.names []:=he▸rfl
 have hloc:env.locals=s.heap.objs.size:=he▸rfl
 have hkd:∀ y,env.kindOf y=fd.scope.names.lookup y:=fun y=>he▸rfl
 have sm:Same s s₁:=x.toInCall.same.elim fun h w=>w.elim fun tk e=>e▸⟨rfl,rfl,rfl⟩
 have hge:∀ b∈env.locals::foundIn env.cells,s.heap.objs.size≤b:=fun b hb=>(List.mem_cons.mp hb).elim (fun e=>Nat.le_of_eq (hloc▸e.symm)) fun hb=>(foundIn_of hb).elim fun y hm=>Nat.le_of_lt (hloc▸x.above y b (mem_of_lookup hm))
 have fr:∀ b∈env.locals::foundIn env.cells,Free F Ψ b:=fun b hb=>S.free (get?_old (hge b hb))
 have S2:=(S.grow x.toInCall.keep).hideOwn fr
 have L:=NsO.of x.toInCall.ns
 have cellAt:∀ y c,env.cells.lookup y=some c→∃ o,hideOwn (env.locals::foundIn env.cells) s₁.heap Ψ c=some (o,false)∧CellO o (bindC env.kindOf (ns.zip xs) (fun _=>none) y):=fun y c l=>(CellO.of (x.cell y c l)).elim fun o w=>⟨o,hideOwn_in (.tail _ (foundIn_at l)) w.1,w.2⟩
 have lc:∃ o,hideOwn (env.locals::foundIn env.cells) s₁.heap Ψ env.locals=some (o,false)∧NsO o (bindL env.kindOf (ns.zip xs) fun _=>none):=L.elim fun o w=>⟨o,hideOwn_in (.head _) w.1,w.2⟩
 have hown:∀ b∈env.locals::foundIn env.cells,∃ o,hideOwn (env.locals::foundIn env.cells) s₁.heap Ψ b=some (o,false):=fun b hb=>(List.mem_cons.mp hb).elim (fun (e:b=env.locals)=>by rw [e];exact lc.elim fun o w=>⟨o,w.1⟩) fun hb=>(foundIn_of hb).elim fun y hm=>(cellAt y b hm).elim fun o w=>⟨o,w.1⟩
 have hloN:∀ (i:Nat) (y:Str) (x:Value),ns[i]?=some y→xs[i]?=some x→env.kindOf y=some .local→NameAt (hideOwn (env.locals::foundIn env.cells) s₁.heap Ψ) env y x:=fun i y v hn hx k=>lc.elim fun o w=>.loc k w.1 w.2 (bindL_at k hlen h10 hn hx)
 have has:∀ y,env.kindOf y=some .cell∨env.kindOf y=some .free→∃ c,env.cells.lookup y=some c:=fun y h=>h.elim (fun h=>hcells▸cellIn D ((hkd y).symm.trans h)) fun h=>(noFree D ((hkd y).symm.trans h)).elim
 refine ⟨At.of ⟨hsc▸D.kind,he▸rfl,he▸rfl,fun y k e=>⟨k,(hkd y).trans e,.inl rfl⟩,fun y c l=>Nat.ne_of_gt (x.above y c (mem_of_lookup l)),fun y z c l1 l2=>name_of_addr x.apart (mem_of_lookup l1) (mem_of_lookup l2),has,fun y c l=>(cellAt y c l).elim fun o w=>⟨_,w.1⟩,fun y i v hy hi hu=>?_⟩
   ⟨.head _,hown,lc.elim fun o w=>⟨o,_,w.1,w.2⟩,fun y _ hy=>(has y (.inl hy)).elim fun c l=>⟨c,l,.tail _ (foundIn_at l),(cellAt y c l).elim fun o w=>⟨o,_,w.1,w.2⟩⟩⟩ S2,
  ⟨fun y i h=>(isVar_kind h).elim fun k w=>w.2.1.elim (fun e=>.inl ((hkd y).trans (e▸w.1))) fun h=>h.elim (fun e=>.inr ((hkd y).trans (e▸w.1))) fun e=>(noFree D (e▸w.1)).elim,
   fun y z i hy hz=>(isVar_kind hy).elim fun _ w1=>(isVar_kind hz).elim fun _ w2=>Option.some.inj ((zipIdx_lookup w1.2.2.1).2.symm.trans (zipIdx_lookup w2.2.2.1).2)⟩,sm,fun b hb=>hideOwn_out hb,fr,hloN,hkd,fun y c l=>.tail _ (foundIn_at l)⟩
 refine (isVar_kind hy).elim fun k w=>?_
 have r:=hρ i v y hi hu (zipIdx_lookup w.2.2.1).2
 refine r.2.elim fun val q=>⟨val,q.2,?_⟩
 have cel:env.kindOf y=some .cell→NameAt (hideOwn (env.locals::foundIn env.cells) s₁.heap Ψ) env y val:=fun hc=>(has y (.inl hc)).elim fun c l=>(cellAt y c l).elim fun o w=>.cel (.inl hc) l w.1 (bindC_at (kd:=env.kindOf) (fun e=>nomatch hc.symm.trans e) hlen h10 r.1 q.1▸w.2)
 exact w.2.1.elim (fun e=>hloN i y val r.1 q.1 ((hkd y).trans (e▸w.1))) fun h=>h.elim (fun e=>cel ((hkd y).trans (e▸w.1))) fun e=>(noFree D (e▸w.1)).elim
theorem enter_sound {R:Result→Shared→Prop} {o:Obj} (hroom:A.depth<recursionLimit) (X':Z.K.In s.heap) (L:s.heap.NoLimit) (ho:Z.K.lookup a=some o) (hd:o.data=.func fd) (hb:fd.body=.stmts body) (D:FdOK Z.K fd) (h10:ns.Nodup) (hkinds:∀ x∈ns,fd.scope.names.lookup x=some .local∨fd.scope.names.lookup x=some .cell)
  (hlen:ns.length=xs.length) (hbind:BindsTo s fd ⟨as,[]⟩ (ns.zip xs)) (S:SR Z F Ψ σ s.heap)
  (hρ:∀ (i:Nat) (v:V) (y:Str),ρ[i]?=some v→v≠.unb→vars[i]?=some y→ns[i]?=some y∧∃ x,xs[i]?=some x∧VR Z F v x)
  (k:∀ env own Ψ' s₁,Entered Z Ψ F σ fd ns vars xs ρ s env own Ψ' s₁→wpAny (Md Z) (A.deeper env) (execs body env) (fun f s'=>R (.ok (.ret (match f with|.ret v=>v|_=>.none))) s') Fls s₁) :
  codeAny (Md Z) A (.call (.ref a) ⟨as,[]⟩) R s:=by
 refine codeAny_call_function hroom (X' _ _ ho) hd D.noCo D.noGen hb (codeRec_of X' D.code) (hbind _ _ _ _ ?_)
 rw [D.cl,D.gl,D.bl]
 refine wpAny_newFunctionEnv_cells D.kind (fun y hy=>(hkinds y.1 (List.of_mem_zip hy).1).elim .inl fun h=>.inr ⟨h,cellsFrom_has (.inl (lookup_mem h))⟩) fun env he s₁ x=>⟨L.keeps x.toInCall.keep,codeAny_func ?_⟩
 exact wpAny_mono (k env _ _ s₁ (entered D h10 hlen S hρ he x)) (fun _ _ z=>z) fun _ _ (z:False)=>z.elim
theorem Room.deeper (r:Room A (n+1)) (env:Env):Room (A.deeper env) n:=⟨r.hand,by have:=r.depth;show A.depth+1+3*n+3<_;lia,by have:=r.units;show A.units+3+16*n+64<_;lia⟩
theorem Room.now (r:Room A (n+1)):A.depth<recursionLimit:=Nat.lt_of_le_of_lt (Nat.le_trans (Nat.le_add_right _ _) (Nat.le_add_right _ 3)) r.depth
theorem fn_sound {f:MFun} {vs:List V} (X:Z.K.In Z.h₀) (L:Z.h₀.NoLimit) (hf:fnOK Z.K a f=true) (rm:Room A (n+1)) (CX:∀ A',Room A' n→CC Z A' C n) (hv:VRs Z F₀ vs xs):Sn Z A Ψ F₀ (VR Z) (call (.ref a) xs) (runF C f vs):=fun F σ r σ' s E S q=>
 if_k q fun hps q=>bnd_k q fun p σ₁ q1 q=>ret_k (G:=fun r σ'=>wpAny (Md Z) A (call (.ref a) xs) (PR Z Ψ (VR Z) F s σ' r) Fls s) q <| oBk' hf fun o ho hf=>oFunck (G:=fun d=>o.data=d→wpAny (Md Z) A (call (.ref a) xs) (PR Z Ψ (VR Z) F s σ₁ (valueOf p.1)) Fls s) hf (fun fd hf hd=>oStmk (G:=fun b=>fd.body=b→wpAny (Md Z) A (call (.ref a) xs) (PR Z Ψ (VR Z) F s σ₁ (valueOf p.1)) Fls s) hf (fun body hf hb=>andk hf fun h1 hf=>andk hf fun h2 hf=>andk hf fun h3 hf=>andk hf fun h4 hf=>andk hf fun h5 h6=>by
 have hv:=hv.mono E
 have X':Z.K.In s.heap:=fun a o e=>S.keep a o (X a o e)
 have hn:=of_decide_eq_true h4
 have hlen:(f.vars.take f.ps).length=xs.length:=(List.length_take ..).trans ((Nat.min_eq_left hps.2).trans (hps.1.symm.trans hv.length.symm))
 refine wpAny_call (enter_sound (vars:=f.vars) (ρ:=vs++List.replicate (f.vars.length-f.ps) V.unb) rm.now X' (L.keeps S.keep) ho hd hb (fdChk_ok h1) hn (fun y hy=>ork (List.all_eq_true.mp h5 y hy) (fun h=>.inl (eq_of_beq h)) fun h=>.inr (eq_of_beq h)) hlen (BindsTo.of_eq (bindArgs_plain h2 h3 hn hlen)) S (fun i v y hi hu hy=>?_) fun env own Ψ' s₁ T=>?_)
 ·have hi':i<vs.length:=Nat.lt_of_not_le fun hle=>hu (List.eq_of_mem_replicate (List.mem_of_getElem? ((List.getElem?_append_right hle).symm.trans hi)))
  rw [List.getElem?_append_left hi'] at hi
  exact ⟨(List.getElem?_take_of_lt (hps.1▸hi')).trans hy,hv.get hi⟩
 ·refine wpAny_mono (exAs (CX (A.deeper env) (rm.deeper env)) f.body own _ F σ _ _ s₁ body p _ h6 T.N T.P q1) (fun fl s' w=>w.elim fun F₁ w=>w.elim fun Ψ₁ w=>?_) fun _ _ z=>z.elim
  have S4:=(w.1.P.S.drop (T.ag.trans w.1.P.ag) fun b hb=>⟨(T.fr b hb).pv,w.1.hid b (T.P.T.hd b hb)⟩).1
  have st:Stp Z Ψ F s F₁ σ₁ s':=⟨Same.trans T.c w.1.c,w.1.e,S4⟩
  cases p with|mk pf pρ=>
  cases pf with
  | next=>
   cases w.2.nx
   exact ⟨F₁,st,.none⟩
  | ret v=>
   refine w.2.rt.elim fun y w=>?_
   cases w.1
   exact ⟨F₁,st,w.2⟩) rfl) rfl
end
end Mine
namespace Mine
open PySem PySem.Calls PyProof.Rows PySem.W Builtin Builtin.ObjectAttr
theorem InstD.snoc {f:Str} {v:Value} {hs:Int} {t:Tok} {fs:List Str} {vs:List Value} {des:List DictEntry} (h:InstD fs vs des):InstD (fs++[f]) (vs++[v]) (des++[⟨hs,.str f t,v⟩]):=by
 induction h with
 | nil=>exact .cons .nil
 | cons _ ih=>exact .cons ih
theorem InstD.put {f:Str} {v key:Value} {hs:Int} {fs:List Str} {vs:List Value} {des:List DictEntry} (h:InstD fs vs des) (hn:f∉fs):putL f hs key v des=des++[⟨hs,key,v⟩]:=by
 induction h with
 | nil=>rfl
 | @cons g fs v vs t hs es r ih=>
  have hg:(Value.str g t).isStr f=false:=by
   cases e:(Value.str g t).isStr f with
   | false=>rfl
   | true=>exact absurd ((eq_of_beq (show (g == f)=true from e))▸.head _) hn
  unfold putL
  rw [if_neg (by rw [hg];exact Bool.false_ne_true),ih fun hm=>hn (.tail _ hm)]
  rfl
theorem InstD.len {fs:List Str} {vs:List Value} {des:List DictEntry} (h:InstD fs vs des):des.length=fs.length:=by
 induction h with
 | nil=>rfl
 | cons _ ih=>exact congrArg (·+1) ih
section
variable {prog:Program} {w:World} {A:Around} {K:Frag} {C x dx:Addr} {s:Shared} {R:Result→Shared→Prop}
theorem osa_raw {ox od od':Obj} {name:Str} {tk:Tok} {v:Value} {es:List DictEntry} {n:Nat} (D:s.heap.get? dx=some od) (X:K.In s.heap)
  (I:InstAt s.heap x ox C (some od)) (hd:ox.dict=some dx) (hp:plainOver K C=true) (ht:takerIn K C name=some none) (hh:(clsIn K C).any (·.hasDict)=true)
  (hl:(lookIn name od).isSome=true) (e:Obj.putName name (PyData.keyHash w.params name) (.str name s.toks) v od=od') (e':od'.data=.dict es.toArray n) (hz:es.length≤1000)
  (h:∀ h',Heap.SameBut dx s.heap h'→h'.get? dx=some od'→R (.ok (.ret .none)) { s with heap:=h',toks:=s.toks+1 }) :
  codeAny (model prog w) A (.call (.builtin "object.__setattr__") ⟨[.ref x,.str name tk,v],[]⟩) R s:=by
 refine osa_open X I hp ht fun b=>?_
 obtain ⟨cd,hc,hd'⟩:=any_some hh
 have D':(s.heap.update dx (Obj.putName name (PyData.keyHash w.params name) (.str name s.toks) v)).get? dx=some od':=e▸Heap.get?_update_self _ D (by rw [e];obtain ⟨_,_,dd,_⟩:=od';cases e';rfl)
 obtain ⟨hx,hcl,hn,-⟩:=I
 obtain ⟨oc,odi,oda,osl⟩:=ox
 dsimp only at hcl hd
 subst hcl hd
 refine wpAny_bind (wpAny_pure (wpAny_bind (wpAny_bind (wpAny_loadPart hx (wpAny_bind ((looks_clsIn X hc).here ?_))))))
 rw [hd']
 refine wpAny_pure (a:=some dx) (wpAny_bind (wpAny_pure (wpAny_bind ?_)))
 unfold nsSet
 refine wpAny_bind (wpAny_bind (wpAny_askSetting (wpAny_pure (wpAny_bind (wpAny_mkText (wpAny_bind (wpAny_loadPart D ?_)))))))
 unfold lookIn at hl
 split at hl
 ·rename_i es₀ n₀ q
  rw [q]
  dsimp only
  have c:(!es₀.any (·.key.isStr name)&&es₀.any (·.refKey))=false:=by
   rw [← Array.any_toList,← Array.any_toList]
   split at hl
   ·rename_i en he
    rw [List.any_eq_true.mpr ⟨en,List.mem_of_find?_eq_some he,List.find?_some he⟩];rfl
   ·split at hl
    ·cases hl
    ·rename_i z;rw [Bool.not_eq_true] at z;rw [z,Bool.and_false]
  rw [aRefKeyMayBeTheName_at,c]
  refine wpAny_updatePart D ?_
  refine wpAny_bind (wpAny_lookBehind D' (by rw [e'];exact pastItsLine_dict (by rw [List.size_toArray,sizeLine_eq];lia)) ?_)
  exact wpAny_pure (h _ (Heap.SameBut.update ..) D')
 ·cases hl
theorem set_raw {E:Value→Shared→Prop} {name:Str} {v:Value} {es:List DictEntry} {n:Nat} {fs:List Str} {vs:List Value} {Q:Unit→Shared→Prop} (X:K.In s.heap) (hx:s.heap.get? x=some (instObj C dx)) (D:s.heap.get? dx=some (dictOf es n))
  (hs:findIn K (.ref C) "__setattr__"=some (some (.builtin "object.__setattr__"))) (hp:plainOver K C=true) (ht:takerIn K C name=some none) (hh:hasDictIn K C=true) (hi:InstD fs vs es) (hn:name∉fs) (hz:fs.length<100)
  (h:∀ h' hsh t n',Heap.SameBut dx s.heap h'→h'.get? dx=some (dictOf (es++[⟨hsh,.str name t,v⟩]) n')→Q () { s with heap:=h',toks:=s.toks+2 }):wpAny (model prog w) A (setAttr (.ref x) name v) Q E s:=by
 have I:InstAt s.heap x (instObj C dx) C (some (dictOf es n)):=⟨hx,rfl,rfl,D⟩
 refine set_plain X I hs (osa_raw (s:={ s with toks:=s.toks+1 }) D X I rfl hp ht hh ?_ (putName_dict ..) rfl ?_ fun h' a b=>?_)
 ·rw [lookIn_dict,getL_noField hi hn];rfl
 ·rw [hi.put hn,List.length_append,hi.len]
  show fs.length+1≤1000
  lia
 ·rw [hi.put hn] at b
  exact h h' _ _ _ a b
end
noncomputable def chkInit (sc:Sc) (nm:Nm) (self:Str):List Str→MEs→List PySem.Stmt→Bool
 | [],.nil,l=>l.isEmpty
 | f::fs,.cons a as,l=>lc l fun st r=>sAssign st fun tg e _=>l1 tg fun t=>xAttribute t fun o g _=>xName o fun y _=>y == self&&(g == f&&(!compOf e&&(chkE sc nm a e&&chkInit sc nm self fs as r)))
 | _,_,_=>false
structure SetOK (K:Frag) (C:Addr) (fs:List Str):Prop where
 set:findIn K (.ref C) "__setattr__"=some (some (.builtin "object.__setattr__"))
 over:plainOver K C=true
 dict:hasDictIn K C=true
 tak:∀ f∈fs,takerIn K C f=some none
 nod:fs.Nodup
 len:fs.length<100
structure IAt (Z:Sta) (Ψ:Pv) (F:Fz) (σ:Mem) (f:Fr) (ρ:Env') (sf:Str) (c x dx:Addr) (done:List Str) (xs:List Value) (dvs:List V) (des:List DictEntry) (m:Nat) (s:Shared):Prop where
 R:EnvR Z Ψ F f ρ
 S:SR Z F Ψ σ s.heap
 hN:NameAt Ψ f.env sf (.ref x)
 hx:Ψ x=some (instObj c dx,false)
 hd:Ψ dx=some (dictOf des m,false)
 ne:x≠dx
 ap:Apart f [] dx
 hi:InstD done xs des
 hv:VRs Z F dvs xs
section
variable {Z:Sta} {A:Around} {n:Nat} {C:Calls} {Ψ:Pv} {F:Fz} {σ σ':Mem} {f:Fr} {ρ:Env'} {self:Str} {c x dx:Addr} {all fs done:List Str} {xs:List Value} {dvs vs:List V} {des:List DictEntry} {m:Nat} {s:Shared} {es:MEs} {body:List PySem.Stmt}
theorem put_put {w w':Obj×Bool}:Mine.put (Mine.put Ψ dx w) dx w'=Mine.put Ψ dx w':=funext fun b=>if e:b=dx then by rw [e,put_self,put_self] else (put_ne e).trans ((put_ne e).trans (put_ne e).symm)
theorem put_same {w:Obj×Bool} (h:Ψ dx=some w):Mine.put Ψ dx w=Ψ:=funext fun b=>if e:b=dx then by rw [e,put_self,h] else put_ne e
theorem NameAt.apart {Ψ':Pv} {y:Str} {v:Value} (h:NameAt Ψ f.env y v) (p:Apart f [] dx) (k:∀ b,b≠dx→Ψ' b=Ψ b):NameAt Ψ' f.env y v:=
 NameAt.rec (motive:=fun _=>NameAt Ψ' f.env y v) (fun kk e n h=>.loc kk ((k _ p.hl).trans e) n h) (fun kk l e h=>.cel kk l ((k _ (p.hc _ _ l)).trans e) h) h
noncomputable def IEnd (Z:Sta) (Ψ:Pv) (F:Fz) (σ':Mem) (dx:Addr) (all:List Str) (vs:List V) (s s':Shared):Prop:=∃ F' xs des m,Same s s'∧Ext F F'∧SR Z F' (Mine.put Ψ dx (dictOf des m,false)) σ' s'.heap∧InstD all xs des∧VRs Z F' vs xs
noncomputable def IG (Z:Sta) (A:Around) (Ψ:Pv) (F:Fz) (σ':Mem) (dx:Addr) (all:List Str) (vs:List V) (f:Fr) (s:Shared) (body:List PySem.Stmt):Prop:=wpAny (Md Z) A (execs body f.env) (fun fl s'=>fl=.next∧IEnd Z Ψ F σ' dx all vs s s') Fls s
theorem init_core (CX:CC Z A C n) (K:SetOK Z.K c all) (hsl:f.env.kindOf self=some .local) (hd:(self == ("__debug__":Str))=false) (hall:all=done++fs) (hc:chkInit f.sc f.nm self fs es body=true) (I:IAt Z Ψ F σ f ρ self c x dx done xs dvs des m s) (q:evs C es ρ σ=some (vs,σ')) :
  IG Z A Ψ F σ' dx all (dvs++vs) f s body:=by
 induction fs generalizing es body done dvs xs des m Ψ F σ σ' s vs with
 | nil=>
  cases es with
  | cons _ _=>exact nomatch hc
  | nil=>exact nilk (G:=fun body=>IG Z A Ψ F σ' dx all (dvs++vs) f s body) hc <| ret_k (a:=([]:List V)) (G:=fun vs σ'=>IG Z A Ψ F σ' dx all (dvs++vs) f s []) q <| wpAny_pure ⟨rfl,F,xs,des,m,⟨rfl,rfl,rfl⟩,.refl F,(put_same I.hd).symm▸I.S,hall▸(List.append_nil done).symm▸I.hi,(List.append_nil dvs).symm▸I.hv⟩
 | cons g fs ih=>
  cases es with
  | nil=>exact nomatch hc
  | cons a as=>
   refine lck (G:=IG Z A Ψ F σ' dx all (dvs++vs) f s) hc fun st r hc=>sAssignk (G:=fun st=>IG Z A Ψ F σ' dx all (dvs++vs) f s (st::r)) hc fun tg e ep hc=>l1k (G:=fun tg=>IG Z A Ψ F σ' dx all (dvs++vs) f s (.Assign tg e ep::r)) hc fun t hc=>xAttributek (G:=fun t=>IG Z A Ψ F σ' dx all (dvs++vs) f s (.Assign [t] e ep::r)) hc fun o g' gp hc=>
    xNamek (G:=fun o=>IG Z A Ψ F σ' dx all (dvs++vs) f s (.Assign [.Attribute o g' gp] e ep::r)) hc fun y yp hc=>andk hc fun h1 hc=>andk hc fun h2 hc=>andk hc fun h3 hc=>andk hc fun h4 h5=>notk h3 fun h3=>?_
   cases eq_of_beq h1
   cases eq_of_beq h2
   refine bnd_k (m:=ev C a ρ) q fun v σ₁ q1 q=>bnd_k q fun vr σ₂ q3 q=>ret_k (a:=v::vr) (G:=fun vs σ'=>IG Z A Ψ F σ' dx all (dvs++vs) f s _) q ?_
   have hw:swappedStores [.Attribute (.Name self yp) g gp] e f.env=pure none:=rfl
   show wpAny _ _ (exec (.Assign [.Attribute (.Name self yp) g gp] e ep) f.env >>= fun fl=>match fl with|.next=>execs r f.env|fl=>pure fl) _ _ _
   rw [arm_exec_Assign]
   refine wpAny_bind (wpAny_bind (wpAny_standAt (wpAny_bind (wpAny_of_eq (swaps_any h3:swapsWith e (some (.Attribute (.Name self yp) g gp)) ep.line f.env=pure false) ?_))))
   rw [if_neg Bool.false_ne_true]
   refine wpAny_bind (wpPR ((evA CX a).1 Ψ F f ρ e h4 I.R F σ v σ₁ s (.refl F) I.S q1) fun z s₁ F₁ p hz=>wpAny_bind (wpAny_of_eq hw ?_))
   show wpAny _ _ (assign (.Attribute (.Name self yp) g gp) f.env z >>= fun _=>pure Flow.next) _ _ _
   rw [assign_Attribute]
   refine wpAny_bind (wpAny_bind (wpAny_holding ?_))
   rw [arm_eval_Name]
   refine wpAny_bind (wpAny_standAt ?_)
   rw [if_neg (by rw [hd];exact Bool.false_ne_true)]
   have loc:∀ {Q},Q (Value.ref x) s₁→wpAny (Md Z) A (loadName f.env self) Q Fls s₁:=fun h=>NameAt.rec (motive:=fun _=>wpAny (Md Z) A (loadName f.env self) _ Fls s₁) (fun _ e n hm=>wpAny_loadName_local I.R.fn hsl (n.ns (p.S.frm _ _ _ e)) hm h) (fun k _ _ _=>k.elim (fun k=>nomatch hsl.symm.trans k) fun k=>nomatch hsl.symm.trans k) I.hN
   refine loc (wpAny_bind (wpAny_standAt (wpAny_bind (wpAny_holding ?_))))
   have hgm:g∈all:=hall▸List.mem_append_right _ (.head _)
   have hgd:g∉done:=fun hm=>(List.nodup_append.mp (hall▸K.nod)).2.2 _ hm _ (.head _) rfl
   refine set_raw (fun a o e=>p.S.keep a o (CX.X a o e)) (p.S.frm _ _ _ I.hx) (p.S.frm _ _ _ I.hd) K.set K.over (K.tak g hgm) K.dict I.hi hgd (Nat.lt_of_le_of_lt (hall▸(by rw [List.length_append];exact Nat.le_add_right _ _)) K.len) fun h' hsh t n' hsb hg=>wpAny_release (wpAny_pure ?_)
   have S2:=p.S.turn I.hd (fun b o hb q=>(hsb.2 b hb).trans q) hg
   refine wpAny_mono (ih (done:=done++[g]) (dvs:=dvs++[v]) (Ψ:=Mine.put Ψ dx (dictOf (des++[⟨hsh,.str g t,z⟩]) n',false)) (hall.trans (List.append_assoc done [g] fs).symm) h5 ⟨(I.R.ext p.e).apart I.ap fun b hb=>put_ne hb,S2,I.hN.apart I.ap fun b hb=>put_ne hb,(put_ne I.ne).trans I.hx,put_self ..,I.ne,I.ap,I.hi.snoc,(I.hv.mono p.e).append (.cons hz .nil)⟩ q3) (fun fl s' w=>⟨w.1,?_⟩) fun _ _ z=>z
   exact w.2.elim fun F' w=>w.elim fun xs' w=>w.elim fun des' w=>w.elim fun m' w=>⟨F',xs',des',m',Same.trans p.c (Same.trans ⟨rfl,rfl,rfl⟩ w.1),p.e.trans w.2.1,put_put▸w.2.2.1,w.2.2.2.1,List.append_assoc dvs [v] vr▸w.2.2.2.2⟩
end
end Mine
namespace Mine
open PySem PySem.Calls PyProof.Rows PySem.W
structure FIOK (K:Frag) (f:MInit) (o:Obj) (fd:FuncData) (body:List PySem.Stmt) (sf:Str):Prop where
 data:o.data=.func fd
 stm:fd.body=.stmts body
 D:FdOK K fd
 nod:f.vars.Nodup
 loc:∀ x∈f.vars,fd.scope.names.lookup x=some .local
 fst:f.vars[0]?=some sf
 nd:(sf == ("__debug__":Str))=false
 chk:chkInit fd.scope.names f.vars.zipIdx sf f.fields f.es body=true
 bind:∀ (x:Value) (xs:List Value),xs.length≤f.ps→f.ps≤xs.length+f.dflt.length→∃ dv:List Value,(∀ S,peek K S (bindArgs fd ⟨x::xs,[]⟩)=some (f.vars.zip (x::(xs++dv))))∧∀ Z F,VRs Z F (f.dflt.drop (xs.length+f.dflt.length-f.ps)) dv
structure InitOK (Z:Sta) (c:Nat) (f:MInit):Prop where
 lt:c<7∧c≠3
 mks:makesIn Z.K (Z.ca c)=true
 flds:clsFields c=f.fields
 set:SetOK Z.K (Z.ca c) f.fields
 vars:f.vars.length=f.ps+1
 init:∃ fI o fd body sf,findIn Z.K (.ref (Z.ca c)) "__init__"=some (some (.ref fI))∧typeIn Z.K (.ref fI)=some (.type "function")∧Z.K.lookup fI=some o∧FIOK Z.K f o fd body sf
section
variable {Z:Sta} {A:Around} {Ψ:Pv} {F F₀:Fz} {n:Nat} {C:Calls} {σ:Mem} {h:Heap}
theorem call_weight {args:Args}:(Code.builtin "type.__call__" args).weight≤1∧(Code.builtin "type.__call__" args).cUnits=1:=by
 refine ⟨?_,rfl⟩
 have h1:(Code.builtin "type.__call__" args).frames=0:=by rfl
 have h2:(Code.builtin "type.__call__" args).isGuard=false:=by rfl
 have h3:(Code.builtin "type.__call__" args).isCaller=false:=by rfl
 unfold Code.weight
 rw [h1,h2,h3]
 split <;> simp
theorem Room.make {A:Around} {n:Nat} (r:Room A (n+1)) {a:Addr} {vs:List Value} {kw} (env:Env):Room ((A.under (.builtin "type.__call__" ⟨.ref a::vs,kw⟩)).deeper env) n∧(A.under (.builtin "type.__call__" ⟨.ref a::vs,kw⟩)).depth<recursionLimit:=by
 have hw:=(call_weight (args:=⟨.ref a::vs,kw⟩)).1
 have hu:=(call_weight (args:=⟨.ref a::vs,kw⟩)).2
 have rd:=r.depth
 have ru:=r.units
 refine ⟨⟨r.hand,?_,?_⟩,?_⟩
 ·show A.depth+_+1+3*n+3<_
  clear ru hu
  generalize (Code.builtin "type.__call__" ⟨.ref a::vs,kw⟩).weight=w at hw ⊢
  lia
 ·show A.units+(Code.builtin "type.__call__" ⟨.ref a::vs,kw⟩).cUnits+3+16*n+64<_
  rw [hu]
  clear rd hw
  lia
 ·show A.depth+_<_
  clear ru hu
  generalize (Code.builtin "type.__call__" ⟨.ref a::vs,kw⟩).weight=w at hw ⊢
  lia
theorem len_arith {a d p:Nat} (h1:a≤p) (h2:p≤a+d):p+1=a+(d-(a+d-p))+1:=by lia
theorem two_new {od ox:Obj} (hd:od.isFreed=false) (hx:ox.isFreed=false) (S:SR Z F Ψ σ h):Free F Ψ h.objs.size∧Free F Ψ (h.objs.size+1)∧SR Z F (Mine.put (Mine.put Ψ h.objs.size (od,false)) (h.objs.size+1) (ox,false)) σ ((h.push od).push ox):=by
 have S1:=(S.push od).push ox
 have e:=Heap.size_push h od
 have fx:=(S.push od).new
 have gx:=Heap.get?_push_size (h.push od) hx
 rw [e] at fx gx
 exact ⟨S.new,fx,(S1.hide S.new (Heap.get?_push_of_some _ (Heap.get?_push_size _ hd))).hide ⟨fx.fz,(put_ne (Nat.succ_ne_self _)).trans fx.pv,fx.ce⟩ gx⟩
theorem cls_sound {c:Nat} {f:MInit} {vs:List V} {xs:List Value} (X:Z.K.In Z.h₀) (L:Z.h₀.NoLimit) (hf:InitOK Z c f) (rm:Room A (n+1)) (CX:∀ A',Room A' n→CC Z A' C n) (hv:VRs Z F₀ vs xs):Sn Z A Ψ F₀ (VR Z) (call (.ref (Z.ca c)) xs) (runI C c f vs):=fun F σ r σ' s E S q=>
 if_k q fun hps q=>bnd_k q fun fv σ₁ q1 q=>ret_k (a:=V.inst c fv) (G:=fun r σ'=>wpAny (Md Z) A (call (.ref (Z.ca c)) xs) (PR Z Ψ (VR Z) F s σ' r) Fls s) q <| hf.init.elim fun fI w=>w.elim fun o w=>w.elim fun fd w=>w.elim fun body w=>w.elim fun self w=>by
 have hv:=hv.mono E
 have X':Z.K.In s.heap:=fun a o e=>S.keep a o (X a o e)
 have L':s.heap.NoLimit:=L.keeps S.keep
 have I:=w.2.2.2
 have hlx:=hv.length
 cases s with|mk hh g d t os=>
 refine (I.bind (.ref (hh.objs.size+1)) xs (hlx▸hps.1) (hlx▸hps.2)).elim fun dv wb=>?_
 refine wpAny_call (make_core (makes_of X' hf.mks) (looks_findIn X' w.1) (fun self=>bind_fn X' self w.2.1) (.inl rfl) ?_)
 have S0:SR Z F Ψ σ hh:=S
 have N2:=two_new (od:=emptyDict) (ox:=instObj (Z.ca c) hh.objs.size) rfl rfl S0
 have hne:hh.objs.size+1≠hh.objs.size:=Nat.succ_ne_self _
 have kk:∀ b o,hh.get? b=some o→((hh.push emptyDict).push (instObj (Z.ca c) hh.objs.size)).get? b=some o:=fun b o e=>Heap.get?_push_of_some _ (Heap.get?_push_of_some _ e)
 have hdv:=wb.2 Z F
 have hdl:=hdv.length
 rw [hlx] at hdv hdl
 have hlen:f.vars.length=(Value.ref (hh.objs.size+1)::(xs++dv)).length:=by
  rw [hf.vars,List.length_cons,List.length_append,hdl,List.length_drop,hlx]
  exact len_arith hps.1 hps.2
 have hvv:=hv.append hdv
 have X2:Z.K.In ((hh.push emptyDict).push (instObj (Z.ca c) hh.objs.size)):=X'.keeps kk
 refine enter_sound (ns:=f.vars) (vars:=f.vars) (ρ:=V.unb::(vs++f.dflt.drop (vs.length+f.dflt.length-f.ps))) (rm.make default).2 X2 (L'.keeps kk) w.2.2.1 I.data I.stm I.D I.nod (fun y hy=>.inl (I.loc y hy)) hlen (kp_binds X2 wb.1) N2.2.2 (fun i v y hi hu hy=>?_) fun env own Ψ' s₁ T=>?_
 ·cases i with
  | zero=>exact absurd (Option.some.inj hi).symm hu
  | succ i=>exact ⟨hy,hvv.get hi⟩
 ·have nx:hh.objs.size+1∉own:=fun hm=>nomatch (put_self ..).symm.trans (T.fr _ hm).pv
  have ndx:hh.objs.size∉own:=fun hm=>nomatch ((put_ne (Ne.symm hne)).trans (put_self ..)).symm.trans (T.fr _ hm).pv
  have hx:=(T.ag _ nx).trans (put_self ..)
  have hd:=(T.ag _ ndx).trans ((put_ne (Ne.symm hne)).trans (put_self ..))
  have hs0:env.kindOf self=some .local:=(T.kd self).trans (I.loc self (List.mem_of_getElem? I.fst))
  refine wpAny_mono (init_core (f:=fnF fd f.vars env) (CX _ (rm.make env).1) hf.set hs0 I.nd rfl I.chk ⟨T.P.R,T.P.S,T.hN 0 self _ I.fst rfl hs0,hx,(hd:Ψ' hh.objs.size=some (dictOf [] 0,false)),hne,⟨List.not_mem_nil,fun e=>ndx (e▸T.P.T.lo),fun y a l e=>ndx (e▸T.ce y a l)⟩,.nil,.nil⟩ q1) (fun fl s' w=>?_) fun _ _ (z:False)=>z.elim
  cases w.1
  refine w.2.elim fun F₁ w=>w.elim fun ys w=>w.elim fun des w=>w.elim fun m w=>?_
  have gx:Mine.put Ψ' hh.objs.size (dictOf des m,false) (hh.objs.size+1)=some (instObj (Z.ca c) hh.objs.size,false):=(put_ne hne).trans hx
  have S6:=w.2.2.1.drop (own:=hh.objs.size::(hh.objs.size+1)::own) (Ψ:=Ψ) ((Agree.put (.head _)).trans ((Agree.put (.tail _ (.head _))).trans ((T.ag.wide fun b hb=>.tail _ (.tail _ hb)).trans (Agree.put (.head _))))) fun b hb=>(List.mem_cons.mp hb).elim (fun e=>by rw [e];exact ⟨N2.1.pv,_,put_self ..⟩) fun hb=>(List.mem_cons.mp hb).elim (fun e=>by rw [e];exact ⟨N2.2.1.pv,_,gx⟩) fun hb=>by
   have b1:b≠hh.objs.size:=fun e=>ndx (e▸hb)
   have b2:b≠hh.objs.size+1:=fun e=>nx (e▸hb)
   exact ⟨(put_ne b1).symm.trans ((put_ne b2).symm.trans (T.fr b hb).pv),(T.P.T.hd b hb).elim fun o e=>⟨o,(put_ne b1).trans e⟩⟩
  have f1:=S6.2 _ (.head _)
  have f2:=S6.2 _ (.tail _ (.head _))
  have f3:(F₁.put hh.objs.size (dictOf des m)).o (hh.objs.size+1)=none:=(put_ne hne).trans f2.fz
  have S8:=(S6.1.addF f1 (w.2.2.1.frm _ _ _ (put_self ..))).addF (a:=hh.objs.size+1) ⟨f3,f2.pv,f2.ce⟩ (w.2.2.1.frm _ _ _ gx)
  have E2:=(Ext.put (o:=dictOf des m) f1.fz).trans (Ext.put (o:=instObj (Z.ca c) hh.objs.size) f3)
  exact ⟨rfl,_,⟨Same.trans (Same.trans ⟨rfl,rfl,rfl⟩ T.c) w.1,w.2.1.trans E2,S8⟩,.inst hf.lt (put_self ..) ((put_ne (Ne.symm hne)).trans (put_self ..)) (hf.flds▸w.2.2.2.1) (w.2.2.2.2.mono E2)⟩
end
structure ProgOK (Z:Sta):Prop where
 X:Z.K.In Z.h₀
 O:KOK Z.K Z.ca
 G:GlobsOK Z
 M:MethsOK Z
 mod:∃ o,Z.h₀.get? sysModules=some o
 L:Z.h₀.NoLimit
 fa:∀ c,Z.fa (100+c)=Z.ca c
 fns:∀ k f,k<100→funOf k=some f→fnOK Z.K (Z.fa k) f=true∧keepIn Z.K (.ref (Z.fa k))=true
 cls:∀ c f,initOf c=some f→InitOK Z c f∧keepIn Z.K (.ref (Z.ca c))=true
section
variable {Z:Sta}
theorem callF_k {n k:Nat} {vs:List V} {G:M V→Prop} (k1:∀ f,k<100→funOf k=some f→G (runF (callF n) f vs)) (k2:∀ c f,k=100+c→initOf c=some f→G (runI (callF n) c f vs)) (k3:G fail):G (callF (n+1) k vs):=by
 show G (if k<100 then (match funOf k with
  | some f=>runF (callF n) f vs
  | none=>fail) else (match initOf (k-100) with
  | some f=>runI (callF n) (k-100) f vs
  | none=>fail))
 by_cases h:k<100
 ·rw [if_pos h]
  cases e:funOf k with
  | none=>exact k3
  | some f=>exact k1 f h e
 ·rw [if_neg h]
  cases e:initOf (k-100) with
  | none=>exact k3
  | some f=>exact k2 _ f (Nat.add_sub_cancel' (Nat.le_of_not_lt h)).symm e
theorem add_left {a b:Nat} (h:100+a=100+b):a=b:=Nat.add_left_cancel h
theorem no_lt {c:Nat} (h:100+c<100):False:=absurd h (Nat.not_lt.mpr (Nat.le_add_right 100 c))
theorem keepers_ok (P:ProgOK Z) (n:Nat):Keepers Z (callF n):=by
 have all:∀ k vs σ r,callF n k vs σ=some r→keepIn Z.K (.ref (Z.fa k))=true:=fun k vs σ r h=>by
  cases n with
  | zero=>exact nn h
  | succ n=>exact callF_k (n:=n) (k:=k) (vs:=vs) (G:=fun m=>m σ=some r→keepIn Z.K (.ref (Z.fa k))=true) (fun f hk e _=>(P.fns k f hk e).2) (fun c f hk e _=>by rw [hk,P.fa];exact (P.cls c f e).2) (fun h=>nn h) h
 exact ⟨all,fun c vs σ r h=>P.fa c▸all _ vs σ r h⟩
theorem calls_ok (P:ProgOK Z) (n:Nat):CallsOK Z (callF n) n:=by
 induction n with
 | zero=>exact fun A rm Ψ F xs vs hv=>⟨fun k=>Sn.fail,fun c=>Sn.fail⟩
 | succ n ih=>
  intro A rm Ψ F xs vs hv
  have CX:∀ A',Room A' n→CC Z A' (callF n) n:=fun A' r=>⟨P.X,P.O,P.G,P.M,P.mod,r,ih,keepers_ok P n⟩
  have all:∀ k,Sn Z A Ψ F (VR Z) (call (.ref (Z.fa k)) xs) (callF (n+1) k vs):=fun k=>callF_k (G:=fun m=>Sn Z A Ψ F (VR Z) (call (.ref (Z.fa k)) xs) m) (fun f hk e=>fn_sound P.X P.L (P.fns k f hk e).1 rm CX hv) (fun c f hk e=>by rw [hk,P.fa];exact cls_sound P.X P.L (P.cls c f e).1 rm CX hv) Sn.fail
  exact ⟨all,fun c=>P.fa c▸all _⟩
end
noncomputable def faL:List Nat:=[299,306,327,334,348,355,251,386,398,405,455,462,469,476,483,490,497,504,511,518,525,532,539,544,549,556,563,568,575,580,587,594,599,604,611,618,623,628,633,640,645,650,657,664,669,674,679,684,691,698,703,708]
noncomputable def caL:List Nat:=[183,205,254,309,363,423,444]
noncomputable def caOf (c:Nat):Addr:=caL.getD c 0
noncomputable def faOf (k:Nat):Addr:=if k<100 then faL.getD k 0 else caOf (k-100)
noncomputable def kAddrs:List Addr:=[0,1,2,3,179,180,182,183,195,201,202,204,205,243,244,250,251,253,254,285,291,292,298,299,305,306,308,309,326,327,333,334,347,348,354,355,362,363,385,386,397,398,404,405,406,419,420,422,423,440,441,443,444,454,455,461,462,468,469,475,476,482,483,489,490,496,497,503,504,510,511,517,518,524,525,531,532,538,539,543,544,548,549,555,556,562,563,567,568,574,575,579,580,586,587,593,594,598,599,603,604,610,611,617,618,622,623,627,628,632,633,639,640,644,645,649,650,656,657,663,664,668,669,673,674,678,679,683,684,690,691,697,698,702,703,707,708]
noncomputable def frag (h:Heap):Frag:=kAddrs.filterMap fun a=>(h.get? a).map fun o=>(a,o)
noncomputable def fragT (s:SharedT):Frag:=kAddrs.filterMap fun a=>(@Bool.rec (fun _=>Option Obj) none (alive ((s.tree.get a).getD default)) (Nat.blt a s.n)).map fun o=>(a,o)
theorem fragT_eq (s:SharedT):fragT s=frag s.abs.heap:=by
 unfold fragT frag
 congr 1
 funext a
 refine congrArg (Option.map _) ?_
 show _=(absHeap s.tree s.n s.life).get? a
 unfold Heap.get?
 rw [absHeap_at]
 cases e:Nat.blt a s.n with
 | true=>
  rw [if_pos (Nat.blt_eq.mp e)]
  cases (s.tree.get a).getD default with
  | mk c d dt sl=>cases dt <;> rfl
 | false=>rw [if_neg fun q=>nomatch e.symm.trans (Nat.blt_eq.mpr q)]
noncomputable def strQ (x:Str) (v:Value):Bool:=match v with
 | .str s _=>Fast.sEq s x
 | _=>false
theorem strQ_eq (x:Str) (v:Value):strQ x v=v.isStr x:=by
 cases v with
 | str s t=>
  refine Bool.eq_iff_iff.mpr ?_
  exact Fast.sEq_iff.trans beq_iff_eq.symm
 | _=>rfl
noncomputable def nsL (x:Str) (l:List DictEntry):Option Value:=@List.rec DictEntry (fun _=>Option Value) none (fun e _ ih=>@Bool.rec (fun _=>Option Value) ih (some e.val) (strQ x e.key)) l
theorem nsL_eq (x:Str) (l:List DictEntry):nsL x l=(l.find? fun e=>e.key.isStr x).map (·.val):=by
 induction l with
 | nil=>rfl
 | cons e l ih=>
  rw [List.find?_cons,← strQ_eq,← show @Bool.rec (fun _=>Option Value) (nsL x l) (some e.val) (strQ x e.key)=nsL x (e::l) from rfl]
  cases strQ x e.key with
  | true=>rfl
  | false=>exact ih
noncomputable def nsQ (es:Array DictEntry) (x:Str):Option Value:=nsL x es.toList
theorem nsQ_eq (es:Array DictEntry) (x:Str):nsQ es x=nsFind es x:=by
 unfold nsQ nsFind findBy
 rw [nsL_eq,Array.find?_toList]
theorem frag_in (h:Heap):(frag h).In h:=fun a o e=>(List.mem_filterMap.mp (Mine.lookup_mem e)).elim fun b w=>(Option.map_eq_some_iff.mp w.2).elim fun o' w=>(Prod.mk.inj w.2).1▸(Prod.mk.inj w.2).2▸w.1
noncomputable def oSeq (d:Data) (k:Array Value→Bool):Bool:=match d with
 | .seq vs _=>k vs
 | _=>false
theorem oSeqk {d:Data} {k:Array Value→Bool} {G:Data→Prop} (h:oSeq d k=true) (g:∀ vs n,k vs=true→G (.seq vs n)):G d:=by
 cases d with
 | seq vs n=>exact g vs n h
 | _=>exact nomatch h
noncomputable def oDct (d:Data) (k:Array DictEntry→Bool):Bool:=match d with
 | .dict vs _=>k vs
 | _=>false
theorem oDctk {d:Data} {k:Array DictEntry→Bool} {G:Data→Prop} (h:oDct d k=true) (g:∀ vs n,k vs=true→G (.dict vs n)):G d:=by
 cases d with
 | dict vs n=>exact g vs n h
 | _=>exact nomatch h
noncomputable def oRef (x:Value) (k:Addr→Bool):Bool:=match x with
 | .ref a=>k a
 | _=>false
theorem oRefk {x:Value} {k:Addr→Bool} {G:Value→Prop} (h:oRef x k=true) (g:∀ a,k a=true→G (.ref a)):G x:=by
 cases x with
 | ref a=>exact g a h
 | _=>exact nomatch h
noncomputable def oInt (x:Value) (k:Int→Bool):Bool:=match x with
 | .int a _=>k a
 | _=>false
theorem oIntk {x:Value} {k:Int→Bool} {G:Value→Prop} (h:oInt x k=true) (g:∀ a t,k a=true→G (.int a t)):G x:=by
 cases x with
 | int a t=>exact g a t h
 | _=>exact nomatch h
noncomputable def oStr (x:Value) (k:Str→Bool):Bool:=match x with
 | .str a _=>k a
 | _=>false
theorem oStrk {x:Value} {k:Str→Bool} {G:Value→Prop} (h:oStr x k=true) (g:∀ a t,k a=true→G (.str a t)):G x:=by
 cases x with
 | str a t=>exact g a t h
 | _=>exact nomatch h
noncomputable def oByt (x:Value) (k:Array UInt8→Bool):Bool:=match x with
 | .bytes a _=>k a
 | _=>false
theorem oBytk {x:Value} {k:Array UInt8→Bool} {G:Value→Prop} (h:oByt x k=true) (g:∀ a t,k a=true→G (.bytes a t)):G x:=by
 cases x with
 | bytes a t=>exact g a t h
 | _=>exact nomatch h
section
variable (K:Frag)
noncomputable def clsChk (c:Nat):Bool:=
 plainGet K (caOf c) "__class__"&&(hasDictIn K (caOf c)&&((findIn K (.ref (caOf c)) "__class__" == some (some (.builtin "object.__class__")))&&((mroIn K (caOf c) (.type "object") == some true) &&
 ((clsFields c).all (fun f=>oB (findIn K (.ref (caOf c)) f) fun attr=>noGet K attr) &&
 (kin_notT K (caOf c) "int"&&(kin_notT K (caOf c) "list"&&(kin_notT K (caOf c) "dict"&&((List.range 3).all (fun k=>k == c || kin_not K (caOf c) (caOf k))&&(!Nat.blt c 3 || isIn K (.ref (caOf c)) (caOf c))))))))))
noncomputable def kokChk:Bool:=
 (specialIn K (.builtin "object.__class__") "__get__" == some (some (.builtin "getset_descriptor.__get__")))&&((takesIn K (.builtin "object.__class__") == some true) &&
 ((List.range 3).all (fun k=>isNotIn K "NoneType" (caOf k)&&(isNotIn K "bool" (caOf k)&&(isNotIn K "int" (caOf k)&&(isNotIn K "str" (caOf k)&&(isNotIn K "list" (caOf k)&&isNotIn K "dict" (caOf k)))))) &&
 (List.range 7).all (fun c=>Nat.beq c 3 || clsChk K c)))
noncomputable def gvA:V→Value→Bool
 | .cls c,x=>x == .ref (caOf c)
 | .fn k,x=>x == .ref (faOf k)
 | .bi b,x=>x == biVal b
 | .int i,x=>oInt x fun j=>i == j
 | .str s,x=>oStr x fun t=>s == t
 | .byts b,x=>oByt x fun c=>c == b.toArray
 | _,_=>false
noncomputable def gvN:V→Value→Bool
 | .none,x=>isNoneV x
 | .bool b,x=>x == .bool b
 | _,_=>false
noncomputable def gvRow:List V→List Value→Bool
 | [],l=>l.isEmpty
 | x::xs,l=>lc l fun v vs=>gvA x v&&gvRow xs vs
noncomputable def gvTup (xs:List V) (x:Value):Bool:=oRef x fun a=>oB (K.lookup a) fun o=>oSeq o.data fun vs=>o.cls == .type "tuple"&&(o.dict.isNone&&(o.slots.isEmpty&&(decide (xs.length≤cap)&&gvRow xs vs.toList)))
noncomputable def gvChk (v:V) (x:Value):Bool:=match v with
 | .tup xs=>gvTup K xs x
 | v=>gvA v x
noncomputable def gvAt (es bs:Array DictEntry) (x:Str) (p:V):Bool:=match nsQ es x with
 | some v=>gvChk K p v
 | none=>oB (nsQ bs x) fun v=>gvChk K p v
noncomputable def globChk:Bool:=oB (K.lookup mainGlobals) fun o1=>oDct o1.data fun es=>oB (K.lookup builtinsNs) fun o2=>oDct o2.data fun bs=>(globNm.zip globs).all fun p=>gvAt K es bs p.1 p.2
noncomputable def methChk:Bool:=methL.all fun p=>(findIn K (.ref (caOf p.1)) p.2.1 == some (some (.ref (faOf p.2.2))))&&((typeIn K (.ref (faOf p.2.2)) == some (.type "function"))&&(!(clsFields p.1).contains p.2.1&&(Nat.blt p.1 7&&!Nat.beq p.1 3)))
noncomputable def fnsChk:Bool:=funs.zipIdx.all fun p=>fnOK K (faOf p.2) p.1&&keepIn K (.ref (faOf p.2))
noncomputable def dfltChk (f:MInit) (fd:FuncData):Bool:=match f.dflt with
 | []=>isNoneV fd.defaults
 | [a]=>decide (f.vars=[Mine.S "self",Mine.S "octets",Mine.S "is_hex"])&&oRef fd.defaults fun t=>oB (K.lookup t) fun o=>oSeq o.data fun vs=>l1 vs.toList fun u=>gvN a u
 | [a,b]=>decide (f.vars=[Mine.S "self",Mine.S "table",Mine.S "trailer"])&&oRef fd.defaults fun t=>oB (K.lookup t) fun o=>oSeq o.data fun vs=>l2 vs.toList fun u v=>gvN a u&&gvN b v
 | _=>false
noncomputable def initChk (c:Nat) (f:MInit):Bool:=
 makesIn K (caOf c)&&(decide (clsFields c=f.fields)&&((findIn K (.ref (caOf c)) "__setattr__" == some (some (.builtin "object.__setattr__")))&&(plainOver K (caOf c)&&(hasDictIn K (caOf c)&&(f.fields.all (fun x=>takerIn K (caOf c) x == some none) &&
 (decide f.fields.Nodup&&(Nat.blt f.fields.length 100&&(decide (f.vars.length=f.ps+1)&&(decide f.vars.Nodup&&(keepIn K (.ref (caOf c)) &&
 (oB (findIn K (.ref (caOf c)) "__init__") fun v=>oB v fun v=>oRef v fun fI=>(typeIn K (.ref fI) == some (.type "function"))&&oB (K.lookup fI) fun o=>oFunc o.data fun fd=>oStm fd.body fun body=>fdChk K fd &&
  (f.vars.all (fun x=>fd.scope.names.lookup x == some .local)&&(plainParams fd.params f.vars&&(dfltChk K f fd&&lc f.vars fun self _=>!(self == ("__debug__":Str))&&chkInit fd.scope.names f.vars.zipIdx self f.fields f.es body))))))))))))))
noncomputable def initsChk:Bool:=initL.zipIdx.all fun p=>match p.1 with
 | some f=>initChk K p.2 f
 | none=>Nat.beq p.2 3
noncomputable def allChk:Bool:=kokChk K&&(globChk K&&(methChk K&&((K.lookup sysModules).isSome&&(fnsChk K&&initsChk K))))
end
end Mine
namespace Mine
open PySem PySem.W PyProof.Rows
noncomputable def runT (ok:Thread→Bool) (stp:SharedT→Thread→Option (SharedT×Thread)) (n:Nat):SharedT→Thread→Option SharedT:=
 @Nat.rec (fun _=>SharedT→Thread→Option SharedT) (fun _ _=>none) (fun _ ih s t=>@Bool.rec (fun _=>Option SharedT)
  (@Bool.rec (fun _=>Option SharedT) none (@Option.rec (SharedT×Thread) (fun _=>Option SharedT) none (fun r=>ih r.1 r.2) (stp s t)) (ok t)) (some s) (through t)) n
theorem runT_zero {ok stp s t}:runT ok stp 0 s t=none:=rfl
theorem runT_succ {ok stp n s t}:runT ok stp (n+1) s t=match through t with
 | true=>some s
 | false=>match ok t with
  | false=>none
  | true=>match stp s t with
   | some r=>runT ok stp n r.1 r.2
   | none=>none:=by
 show @Bool.rec (fun _=>Option SharedT) _ _ (through t)=_
 cases through t with
 | true=>rfl
 | false=>
  show @Bool.rec (fun _=>Option SharedT) _ _ (ok t)=_
  cases ok t with
  | false=>rfl
  | true=>
   show @Option.rec (SharedT×Thread) (fun _=>Option SharedT) _ _ (stp s t)=_
   cases stp s t <;> rfl
theorem runT_of {tb:String→Option Builtin} {p:Program} {w:World} {n₀:Nat} {ann:Option Value}:∀ {n:Nat} {s s':SharedT} {t:Thread},runT (stepOk n₀ ann) (stepT (denote tb) p w) n s t=some s'→topRun tb p w n₀ ann n s.abs t=some s'.abs
 | 0,_,_,_,h=>by cases h
 | n+1,s,s',t,h=>by
  rw [runT_succ] at h
  unfold topRun
  cases he:through t with
  | true=>rw [he] at h;cases h;rfl
  | false=>
   rw [he] at h
   cases hk:stepOk n₀ ann t with
   | false=>rw [hk] at h;cases h
   | true=>
    rw [hk] at h
    cases hs:stepT (denote tb) p w s t with
    | none=>rw [hs] at h;cases h
    | some r=>obtain ⟨s₂,t₂⟩:=r;rw [hs] at h;rw [stepT_spec hs];exact runT_of h
noncomputable def growT (l:List Obj):BT→Nat→Option BT:=
 @List.rec Obj (fun _=>BT→Nat→Option BT) (fun t _=>some t) (fun o _ ih t n=>@Bool.rec (fun _=>Option BT) none (ih (t.ins n o) (n+1)) ((t.ins n o).get n).isSome) l
theorem growT_of (life:Life):∀ {l:List Obj} {t t':BT} {n:Nat},growT l t n=some t'→absHeap t' (n+l.length) life=⟨(absHeap t n life).objs++l.toArray,life⟩
 | [],t,t',n,h=>by
  cases h
  show absHeap t n life=⟨(absHeap t n life).objs++#[],life⟩
  rw [Array.append_empty];rfl
 | o::l,t,t',n,h=>by
  have h:@Bool.rec (fun _=>Option BT) none (growT l (t.ins n o) (n+1)) ((t.ins n o).get n).isSome=some t':=h
  cases e:((t.ins n o).get n).isSome with
  | false=>rw [e] at h;cases h
  | true=>
   rw [e] at h
   have:=growT_of life (l:=l) h
   rw [show n+(o::l).length=n+1+l.length by rw [List.length_cons];lia,this,absHeap_ins e]
   show Heap.mk _ _=Heap.mk _ _
   congr 1
   show ((absHeap t n life).objs.push o)++l.toArray=_
   apply Array.toList_inj.mp
   simp
theorem growT_all {H:Heap} {t:BT} {n:Nat} (hn:H.objs.size=n) (h:growT H.objs.toList .nil 0=some t):absHeap t n H.life=H:=by
 have:=growT_of H.life h
 rw [Nat.zero_add] at this
 have e:H.objs.toList.length=n:=by rw [← hn];rfl
 rw [e] at this
 rw [this]
 obtain ⟨o,l⟩:=H
 show Heap.mk _ _=Heap.mk _ _
 congr 1
 apply Array.toList_inj.mp
 simp [absHeap,BT.list]
noncomputable def look {β:Type} (stp:SharedT→Thread→Option (SharedT×Thread)) (ok:Thread→Bool) (f:SharedT→β) (H:Heap) (n:Nat) (g:Array GenState) (d:Drawn) (k:Nat) (os:OsState) (th:Thread) (N:Nat):Option β:=
 (growT H.objs.toList .nil 0).bind fun t=>(runT ok stp N ⟨t,n,H.life,g,d,k,os⟩ th).map f
theorem left_of {p q:Program} {loose:List Str} {Xt:Shared→Bool} {α:Type} {Yf:Shared→α} {Yt:SharedT→α} {Ya:World→α} {N n:Nat} {ann:Option Value} (hY:∀ s,Yt s=Yf s.abs)
  (e:opening p=plainProg p.main.scope.names) (hN:Nat.ble 600 N=true) (fn:∀ s,fenceModules? p s=some s)
  (size:∀ w:World,((boot_heap w.params).isNs mainGlobals,(boot_heap w.params).objs.size,(boot_heap w.params).nsMap mainGlobals "__annotations__")=(true,n,ann))
  (run:∀ (w:World) (os:OsState),look (stepT (denote treeTable) p w) (stepOk n ann) (fun s=>((staticsOk (importedModules p.main.body) (boot_heap w.params) s.abs.heap&&namesBound p s.abs.heap&&gensDone s.abs&&laidKept (boot_heap w.params) s.abs.heap),openSeen q loose (importedModules p.main.body) Xt true s.abs,Yt s))
   (boot_heap w.params) n (Array.mk []) boot_drawn boot_toks os (topStub p) N=some (true,openGood q loose,Ya w)):LeftO p q loose Xt Yf Ya N true:=fun w=>by
 obtain ⟨⟨h,gs,d,k,os⟩,e1,e'⟩:=Option.map_eq_some_iff.mp (boot_open e hN fn w)
 obtain ⟨rfl,rfl,rfl,rfl⟩:h=boot_heap w.params∧gs=Array.mk []∧d=boot_drawn∧k=boot_toks:=by simpa using e'
 obtain ⟨z1,z2,z3⟩:_∧_∧_:=by simpa only [Prod.mk.injEq] using size w
 obtain ⟨t,ht,r1⟩:=Option.bind_eq_some_iff.mp (run w os)
 obtain ⟨s',hs,r2⟩:=Option.map_eq_some_iff.mp r1
 obtain ⟨l1,l2⟩:=Prod.mk.inj r2
 obtain ⟨l2,l3⟩:=Prod.mk.inj l2
 have r:=runT_of hs
 have habs:(SharedT.mk t n (boot_heap w.params).life (Array.mk []) boot_drawn boot_toks os).abs=⟨boot_heap w.params,Array.mk [],boot_drawn,boot_toks,os⟩:=by
  show Shared.mk _ _ _ _ _=Shared.mk _ _ _ _ _
  rw [growT_all z2 ht]
 rw [habs] at r
 have tp:topFrom treeTable p w N ⟨boot_heap w.params,Array.mk [],boot_drawn,boot_toks,os⟩=some s'.abs:=by
  unfold topFrom
  dsimp only
  rw [z1,z2,z3,r]
  show (match staticsOk (importedModules p.main.body) (boot_heap w.params) s'.abs.heap&&namesBound p s'.abs.heap&&gensDone s'.abs&&laidKept (boot_heap w.params) s'.abs.heap with|true=>some s'.abs|false=>none)=_
  rw [l1]
 unfold openEnds
 rw [e1]
 show (topFrom treeTable p w N _).map _=_
 rw [tp]
 exact congrArg some (Prod.ext l2 ((hY s').symm.trans l3))
noncomputable abbrev pw:=PySem.Challenge.pw_pb0495_01
noncomputable def qV:Program:={ pw with main:={ pw.main with body:=pw.main.body.drop 76 } }
noncomputable def looseV:List Str:=[S "_wall",S "PaperError",S "TreeFault",S "Decimal",S "sign_text",S "MOST_HOPS",S "Name",S "String",S "Stream",S "Reference",S "kind_of",S "told_plain",S "told",S "told_objects",S "Lookup",S "Shelf",S "MARK",S "UNKNOWN",S "accent_signs",S "mark_signs",S "sign_of",S "text_of_units",S "text_of",S "home_of",S "INHERITED_KEYS",S "OFF",S "Field",S "FormWalk",S "flag_place",S "flag_set",S "whole_in",S "flags_of",S "has_flag",S "form_of",S "row_in",S "own_name",S "longer_name",S "kind_word",S "with_inherited",S "new_node",S "is_field",S "own_widgets",S "walked_form",S "text_in",S "state_in",S "value_in",S "options",S "on_states",S "shown_states",S "node_faults",S "value_faults",S "field_faults",
 S "_law_take",S "_law_string",S "_law_object",S "_law_entries",S "_law_look",S "_law_widgets",S "_law_node",S "_law_form",S "_law_flag",S "_law_kind",S "_law_plain",S "_law_value",S "_law_states",S "_law_exports",S "_law_hurt",S "_law_links",S "_law_value_words"]
theorem e0:opening pw=plainProg pw.main.scope.names:=by rfl
theorem f0:∀ s,fenceModules? pw s=some s:=fun s=>by rfl
theorem size0:∀ w:World,((boot_heap w.params).isNs mainGlobals,(boot_heap w.params).objs.size,(boot_heap w.params).nsMap mainGlobals "__annotations__")=(true,11,some (.ref 6)):=by
 intro w
 kernel_rfl
theorem run0:∀ (w:World) (os:OsState),look (stepT (denote treeTable) pw w) (stepOk 11 (some (.ref 6))) (fun s=>((staticsOk (importedModules pw.main.body) (boot_heap w.params) s.abs.heap&&namesBound pw s.abs.heap&&gensDone s.abs&&laidKept (boot_heap w.params) s.abs.heap),
  openSeen qV looseV (importedModules pw.main.body) (fun s=>xlAt qV [] s&&recOk [] s) true s.abs,allChk (fragT s))) (boot_heap w.params) 11 (Array.mk []) boot_drawn boot_toks os (topStub pw) 9748=some (true,openGood qV looseV,true):=by
 intro w os
 rw [PySem.W.Fast.te10156331382660048174,PySem.W.Fast.te14364793385576792824,PySem.W.Fast.te11892475500146522536,PySem.W.Fast.te6613529449190102663,PySem.W.Fast.te4187177175401517315]
 kernel_rfl
theorem left0:LeftO pw qV looseV (fun s=>xlAt qV [] s&&recOk [] s) (fun s=>allChk (frag s.heap)) (fun _=>true) 9748:=left_of (fun s=>congrArg allChk (fragT_eq s)) e0 (by decide) f0 size0 run0
end Mine
namespace Mine.Pl
open PySem
local macro_rules | `(tactic| ext) => `(tactic| repeat walk_at "m1")
noncomputable def T {α:Type} (m:M α) (σ:Mem) (Q:α→Mem→Prop):Prop:=∃ a σ',m σ=some (a,σ')∧Q a σ'
section
variable {α β:Type} {m:M α} {f:α→M β} {a:α} {o:Option α} {σ σ':Mem} {Q P:α→Mem→Prop} {R:β→Mem→Prop}
theorem T.ret (h:Q a σ):T (Mine.ret a) σ Q:=⟨a,σ,rfl,h⟩
theorem T.run (e:m σ=some (a,σ')) (h:Q a σ'):T m σ Q:=⟨a,σ',e,h⟩
theorem T.bnd (h:T m σ fun a σ'=>T (f a) σ' R):T (Mine.bnd m f) σ R:=by
 obtain ⟨a,σ',e,b,σ'',e',q⟩:=h
 exact ⟨b,σ'',by unfold Mine.bnd;rw [e];exact e',q⟩
theorem T.lft (e:o=some a) (h:Q a σ):T (Mine.lft o) σ Q:=⟨a,σ,by rw [e];rfl,h⟩
theorem T.mono (h:T m σ P) (k:∀ a σ',P a σ'→Q a σ'):T m σ Q:=let ⟨a,σ',e,p⟩:=h;⟨a,σ',e,k a σ' p⟩
end
noncomputable def noU:V→Bool
 | .unb=>false
 | _=>true
theorem getv_of {ρ:Env'} {i:Nat} {v:V} (h:ρ[i]?=some v) (hv:noU v=true) (σ:Mem):getv ρ i σ=some (v,σ):=by
 unfold getv
 rw [h]
 cases v <;> first|rfl|cases hv
section
variable (C:Calls) (ρ:Env') (es:MEs) (a b:ME) (ss sa sb:MSs) (v:V) (vs:List V) (i:Nat) (nm:Str) (m:Bool)
noncomputable abbrev kCons2 (Qs:List V→Mem→Prop):List V→Mem→Prop:=fun vs σ=>Qs (v::vs) σ
noncomputable abbrev kCons (Qs:List V→Mem→Prop):V→Mem→Prop:=fun v σ=>T (evs C es ρ) σ (kCons2 v Qs)
noncomputable abbrev kTup (Q:V→Mem→Prop):List V→Mem→Prop:=fun vs σ=>vs.length<100∧Q (.tup vs) σ
noncomputable abbrev kList (Q:V→Mem→Prop):List V→Mem→Prop:=fun vs σ=>T (mkL m vs) σ Q
noncomputable abbrev kBin2 (o:Bop) (Q:V→Mem→Prop):V→Mem→Prop:=fun y σ=>T (binV o m v y) σ Q
noncomputable abbrev kBin (o:Bop) (Q:V→Mem→Prop):V→Mem→Prop:=fun x σ=>T (ev C b ρ) σ (kBin2 x m o Q)
noncomputable abbrev kNot2 (Q:V→Mem→Prop):Bool→Mem→Prop:=fun b σ=>Q (.bool (!b)) σ
noncomputable abbrev kNot (Q:V→Mem→Prop):V→Mem→Prop:=fun x σ=>T (truth x) σ (kNot2 Q)
noncomputable abbrev kB (Q:V→Mem→Prop):Bool→Mem→Prop:=fun r σ=>Q (.bool r) σ
noncomputable abbrev kCmp2 (o:Cop) (Q:V→Mem→Prop):V→Mem→Prop:=fun y σ=>T (cmpV o v y) σ (kB Q)
noncomputable abbrev kCmp (o:Cop) (Q:V→Mem→Prop):V→Mem→Prop:=fun x σ=>T (ev C b ρ) σ (kCmp2 x o Q)
noncomputable abbrev kCall2 (Q:V→Mem→Prop):List V→Mem→Prop:=fun vs σ=>T (callV C v vs) σ Q
noncomputable abbrev kCall (Q:V→Mem→Prop):V→Mem→Prop:=fun fv σ=>T (evs C es ρ) σ (kCall2 C fv Q)
noncomputable abbrev kMake (k:Mk) (Q:V→Mem→Prop):V→Mem→Prop:=fun x σ=>T (makeV k i x) σ Q
noncomputable abbrev kAttr (Q:V→Mem→Prop):V→Mem→Prop:=fun x σ=>T (attrV x nm) σ Q
noncomputable abbrev kSub2 (Q:V→Mem→Prop):V→Mem→Prop:=fun y σ=>T (getItemV v y) σ Q
noncomputable abbrev kSub (Q:V→Mem→Prop):V→Mem→Prop:=fun x σ=>T (ev C b ρ) σ (kSub2 x Q)
noncomputable abbrev kFrz (Q:V→Mem→Prop):V→Mem→Prop:=fun x σ=>T (frzV x) σ Q
noncomputable abbrev kIfe (Q:V→Mem→Prop):V→Mem→Prop:=fun x σ=>∃ q,x=.bool q∧T (ev C (match q with|true=>a|false=>b) ρ) σ Q
noncomputable abbrev kAnd (Q:V→Mem→Prop):V→Mem→Prop:=fun x σ=>∃ q,x=.bool q∧(match q with|true=>T (evAnd C es ρ) σ Q|false=>Q (.bool false) σ)
noncomputable abbrev kOr (Q:V→Mem→Prop):V→Mem→Prop:=fun x σ=>∃ q,x=.bool q∧(match q with|false=>T (evOr C es ρ) σ Q|true=>Q (.bool true) σ)
noncomputable abbrev kMeth4 (t:MK) (Q:V→Mem→Prop):MK→Mem→Prop:=fun t' σ=>t=t'∧T (methV C v nm vs) σ Q
noncomputable abbrev kMeth3 (t:MK) (Q:V→Mem→Prop):List V→Mem→Prop:=fun vs σ=>T (preM v) σ (kMeth4 C v vs nm t Q)
noncomputable abbrev kMeth2 (Q:V→Mem→Prop):MK→Mem→Prop:=fun t σ=>(t=.O∨(idOf t nm).isSome=true)∧T (evs C es ρ) σ (kMeth3 C v nm t Q)
noncomputable abbrev kMeth (Q:V→Mem→Prop):V→Mem→Prop:=fun ov σ=>T (preM ov) σ (kMeth2 C ρ es ov nm Q)
noncomputable abbrev kMethO2 (k c:Nat) (Q:V→Mem→Prop):List V→Mem→Prop:=fun ws σ=>T (C k (.inst c vs::ws)) σ Q
noncomputable abbrev kMethO (Q:V→Mem→Prop):V→Mem→Prop:=fun ov σ=>∃ c xs k,ov=.inst c xs∧methOf c nm=some k∧T (evs C es ρ) σ (kMethO2 C xs k c Q)
noncomputable abbrev kThen {α:Type} (S:Fl×Env'→Mem→Prop):α→Mem→Prop:=fun _ σ=>T (exs C ss ρ) σ S
noncomputable abbrev kAsg (S:Fl×Env'→Mem→Prop):V→Mem→Prop:=fun v σ=>T (exs C ss (ρ.set i v)) σ S
noncomputable abbrev kAsgs (is:List Nat) (S:Fl×Env'→Mem→Prop):V→Mem→Prop:=fun v σ=>∃ ρ',bindT (.many is) v ρ=some ρ'∧T (exs C ss ρ') σ S
noncomputable abbrev kPut3 (w:V) (S:Fl×Env'→Mem→Prop):V→Mem→Prop:=fun iv σ=>T (setItemV w iv v) σ (kThen C ρ ss S)
noncomputable abbrev kPut2 (S:Fl×Env'→Mem→Prop):V→Mem→Prop:=fun ov σ=>T (ev C b ρ) σ (kPut3 C ρ ss v ov S)
noncomputable abbrev kPut (S:Fl×Env'→Mem→Prop):V→Mem→Prop:=fun v σ=>T (ev C a ρ) σ (kPut2 C ρ b ss v S)
noncomputable abbrev kRet (S:Fl×Env'→Mem→Prop):V→Mem→Prop:=fun v σ=>S (.ret v,ρ) σ
noncomputable def cont (C:Calls) (ss:MSs) (r:Fl×Env'):M (Fl×Env'):=match r.1 with
 | .next=>exs C ss r.2
 | .ret v=>ret (.ret v,r.2)
noncomputable abbrev kCont (S:Fl×Env'→Mem→Prop):Fl×Env'→Mem→Prop:=fun r σ=>T (cont C ss r) σ S
noncomputable abbrev kIfs (S:Fl×Env'→Mem→Prop):V→Mem→Prop:=fun x σ=>∃ q,x=.bool q∧T (exs C (match q with|true=>sa|false=>sb) ρ) σ (kCont C ss S)
noncomputable abbrev kFor (t:Tg) (S:Fl×Env'→Mem→Prop):V→Mem→Prop:=fun v σ=>T (forV (exs C sb) t v ρ) σ (kCont C ss S)
noncomputable def nextS (body:Env'→M (Fl×Env')) (t:Tg) (xs:List V) (r:Fl×Env'):M (Fl×Env'):=match r.1 with
 | .next=>loopS body t xs r.2
 | .ret v=>ret (.ret v,r.2)
noncomputable abbrev kNext (body:Env'→M (Fl×Env')) (t:Tg) (S:Fl×Env'→Mem→Prop):Fl×Env'→Mem→Prop:=fun r σ=>T (nextS body t vs r) σ S
noncomputable abbrev kItems (Qs:List V→Mem→Prop):V→Mem→Prop:=fun v σ=>T (itemsOf v) σ Qs
noncomputable abbrev kComp (e:ME) (t:Tg) (cs:MEs) (Q:V→Mem→Prop):List V→Mem→Prop:=fun xs σ=>T (loopC (cnd C cs) (ev C e) t ρ xs) σ (kList m Q)
noncomputable abbrev kCc2 (el:Env'→M V) (cond:Env'→M Bool) (t:Tg) (xs:List V) (Qs:List V→Mem→Prop):V→Mem→Prop:=fun v σ=>T (loopC cond el t ρ xs) σ (kCons2 v Qs)
noncomputable abbrev kCc (ρ':Env') (el:Env'→M V) (cond:Env'→M Bool) (t:Tg) (xs:List V) (Qs:List V→Mem→Prop):Bool→Mem→Prop:=fun b σ=>match b with
 | true=>T (el ρ') σ (kCc2 ρ el cond t xs Qs)
 | false=>T (loopC cond el t ρ xs) σ Qs
noncomputable abbrev kCnd (B:Bool→Mem→Prop):V→Mem→Prop:=fun v σ=>∃ q,v=.bool q∧B q σ
noncomputable abbrev kFun (Q:V→Mem→Prop):Fl×Env'→Mem→Prop:=fun r σ=>Q (valueOf r.1) σ
noncomputable abbrev kNew (c:Nat) (Q:V→Mem→Prop):List V→Mem→Prop:=fun xs σ=>Q (.inst c xs) σ
end
section
variable {C:Calls} {ρ:Env'} {σ σ':Mem} {v:V} {i:Nat} {Q:V→Mem→Prop} {Qs:List V→Mem→Prop} {a b c e f t k:ME} {es:MEs}
theorem t_var (h:ρ[i]?=some v) (hv:noU v=true) (q:Q v σ):T (ev C (.var i) ρ) σ Q:=.run (getv_of h hv σ) q
theorem t_glob (h:globs[i]?=some v) (q:Q v σ):T (ev C (.glob i) ρ) σ Q:=.lft h q
theorem t_none (q:Q .none σ):T (ev C .none ρ) σ Q:=.ret q
theorem t_tru (q:Q (.bool true) σ):T (ev C .tru ρ) σ Q:=.ret q
theorem t_fls (q:Q (.bool false) σ):T (ev C .fls ρ) σ Q:=.ret q
theorem t_int (q:Q (.int i) σ):T (ev C (.int i) ρ) σ Q:=.ret q
theorem t_neg (q:Q (.int (-(i:Int))) σ):T (ev C (.neg i) ρ) σ Q:=.ret q
theorem t_str {s:Str} (q:Q (.str s) σ):T (ev C (.str s) ρ) σ Q:=.ret q
theorem t_byts {s:List UInt8} (q:Q (.byts s) σ):T (ev C (.byts s) ρ) σ Q:=.ret q
theorem t_nil (q:Qs [] σ):T (evs C .nil ρ) σ Qs:=.ret q
theorem t_cons' (h:T (ev C e ρ) σ fun v σ=>T (evs C es ρ) σ fun vs σ=>Qs (v::vs) σ):T (evs C (.cons e es) ρ) σ Qs:=.bnd (h.mono fun _ _ h=>.bnd (h.mono fun _ _ q=>.ret q))
theorem t_cons (h:T (ev C e ρ) σ (kCons C ρ es Qs)):T (evs C (.cons e es) ρ) σ Qs:=t_cons' h
theorem t_tup' (h:T (evs C es ρ) σ fun vs σ=>vs.length<100∧Q (.tup vs) σ):T (ev C (.tup es) ρ) σ Q:=.bnd (h.mono fun vs _ h=>.run (if_pos h.1▸rfl) h.2)
theorem t_tup (h:T (evs C es ρ) σ (kTup Q)):T (ev C (.tup es) ρ) σ Q:=t_tup' h
theorem t_list' {m:Bool} (h:T (evs C es ρ) σ fun vs σ=>T (mkL m vs) σ Q):T (ev C (.list m es) ρ) σ Q:=.bnd h
theorem t_list {m:Bool} (h:T (evs C es ρ) σ (kList m Q)):T (ev C (.list m es) ρ) σ Q:=t_list' h
theorem t_bin' {o:Bop} {m:Bool} (h:T (ev C a ρ) σ fun x σ=>T (ev C b ρ) σ fun y σ=>T (binV o m x y) σ Q):T (ev C (.bin o m a b) ρ) σ Q:=.bnd (h.mono fun _ _ h=>.bnd h)
theorem t_bin {o:Bop} {m:Bool} (h:T (ev C a ρ) σ (kBin C ρ b m o Q)):T (ev C (.bin o m a b) ρ) σ Q:=t_bin' h
theorem t_not' (h:T (ev C a ρ) σ fun x σ=>T (truth x) σ fun b σ=>Q (.bool (!b)) σ):T (ev C (.not a) ρ) σ Q:=.bnd (h.mono fun _ _ h=>.bnd (h.mono fun _ _ q=>.ret q))
theorem t_not (h:T (ev C a ρ) σ (kNot Q)):T (ev C (.not a) ρ) σ Q:=t_not' h
theorem t_cmp' {o:Cop} (h:T (ev C a ρ) σ fun x σ=>T (ev C b ρ) σ fun y σ=>T (cmpV o x y) σ fun r σ=>Q (.bool r) σ):T (ev C (.cmp o a b) ρ) σ Q:=.bnd (h.mono fun _ _ h=>.bnd (h.mono fun _ _ h=>.bnd (h.mono fun _ _ q=>.ret q)))
theorem t_cmp {o:Cop} (h:T (ev C a ρ) σ (kCmp C ρ b o Q)):T (ev C (.cmp o a b) ρ) σ Q:=t_cmp' h
theorem t_call' (h:T (ev C f ρ) σ fun fv σ=>T (evs C es ρ) σ fun vs σ=>T (callV C fv vs) σ Q):T (ev C (.call f es) ρ) σ Q:=.bnd (h.mono fun _ _ h=>.bnd h)
theorem t_call (h:T (ev C f ρ) σ (kCall C ρ es Q)):T (ev C (.call f es) ρ) σ Q:=t_call' h
theorem t_make' {k:Mk} {m:Nat} (h:T (ev C a ρ) σ fun x σ=>T (makeV k m x) σ Q):T (ev C (.make k m a) ρ) σ Q:=.bnd h
theorem t_make {k:Mk} {m:Nat} (h:T (ev C a ρ) σ (kMake m k Q)):T (ev C (.make k m a) ρ) σ Q:=t_make' h
theorem t_attr' {n:Str} (h:T (ev C a ρ) σ fun x σ=>T (attrV x n) σ Q):T (ev C (.attr a n) ρ) σ Q:=.bnd h
theorem t_attr {n:Str} (h:T (ev C a ρ) σ (kAttr n Q)):T (ev C (.attr a n) ρ) σ Q:=t_attr' h
theorem t_sub' (h:T (ev C a ρ) σ fun x σ=>T (ev C b ρ) σ fun y σ=>T (getItemV x y) σ Q):T (ev C (.sub a b) ρ) σ Q:=.bnd (h.mono fun _ _ h=>.bnd h)
theorem t_sub (h:T (ev C a ρ) σ (kSub C ρ b Q)):T (ev C (.sub a b) ρ) σ Q:=t_sub' h
theorem t_frz' (h:T (ev C a ρ) σ fun x σ=>T (frzV x) σ Q):T (ev C (.frz a) ρ) σ Q:=.bnd h
theorem t_frz (h:T (ev C a ρ) σ (kFrz Q)):T (ev C (.frz a) ρ) σ Q:=t_frz' h
theorem t_ife' (h:T (ev C t ρ) σ fun x σ=>∃ q,x=.bool q∧T (ev C (match q with|true=>a|false=>b) ρ) σ Q):T (ev C (.ife t a b) ρ) σ Q:=.bnd (h.mono fun x σ h=>by
 obtain ⟨q,rfl,h⟩:=h
 exact .bnd (.run rfl (by cases q <;> exact h)))
theorem t_ife (h:T (ev C t ρ) σ (kIfe C ρ a b Q)):T (ev C (.ife t a b) ρ) σ Q:=t_ife' h
theorem t_and_nil (q:Q (.bool true) σ):T (evAnd C .nil ρ) σ Q:=.ret q
theorem t_and_cons' (h:T (ev C e ρ) σ fun x σ=>∃ q,x=.bool q∧(match q with|true=>T (evAnd C es ρ) σ Q|false=>Q (.bool false) σ)):T (evAnd C (.cons e es) ρ) σ Q:=.bnd (h.mono fun x σ h=>by
 obtain ⟨q,rfl,h⟩:=h
 exact .bnd (.run rfl (by cases q <;> first|exact .ret h|exact h)))
theorem t_and_cons (h:T (ev C e ρ) σ (kAnd C ρ es Q)):T (evAnd C (.cons e es) ρ) σ Q:=t_and_cons' h
theorem t_or_nil (q:Q (.bool false) σ):T (evOr C .nil ρ) σ Q:=.ret q
theorem t_or_cons' (h:T (ev C e ρ) σ fun x σ=>∃ q,x=.bool q∧(match q with|false=>T (evOr C es ρ) σ Q|true=>Q (.bool true) σ)):T (evOr C (.cons e es) ρ) σ Q:=.bnd (h.mono fun x σ h=>by
 obtain ⟨q,rfl,h⟩:=h
 exact .bnd (.run rfl (by cases q <;> first|exact .ret h|exact h)))
theorem t_or_cons (h:T (ev C e ρ) σ (kOr C ρ es Q)):T (evOr C (.cons e es) ρ) σ Q:=t_or_cons' h
theorem t_and (h:T (evAnd C es ρ) σ Q):T (ev C (.and es) ρ) σ Q:=h
theorem t_or (h:T (evOr C es ρ) σ Q):T (ev C (.or es) ρ) σ Q:=h
theorem t_meth' {n:Str} {o:ME} (h:T (ev C o ρ) σ fun ov σ=>T (preM ov) σ fun t σ=>(t=.O∨(idOf t n).isSome=true)∧T (evs C es ρ) σ fun vs σ=>T (preM ov) σ fun t' σ=>t=t'∧T (methV C ov n vs) σ Q):T (ev C (.meth o n es) ρ) σ Q:=
 .bnd (h.mono fun ov σ h=>.bnd (h.mono fun t σ h=>by
  rw [if_pos h.1]
  exact .bnd (h.2.mono fun vs σ h=>.bnd (h.mono fun t' σ h=>by
   rw [if_pos h.1];exact h.2))))
theorem t_meth {n:Str} {o:ME} (h:T (ev C o ρ) σ (kMeth C ρ es n Q)):T (ev C (.meth o n es) ρ) σ Q:=t_meth' h
theorem t_methO' {n:Str} {o:ME} (h:T (ev C o ρ) σ fun ov σ=>∃ c xs k,ov=.inst c xs∧methOf c n=some k∧T (evs C es ρ) σ fun vs σ=>T (C k (.inst c xs::vs)) σ Q):T (ev C (.meth o n es) ρ) σ Q:=
 t_meth (h.mono fun ov σ h=>by
  obtain ⟨c,xs,k,rfl,hm,h⟩:=h
  refine .run rfl ⟨.inl rfl,h.mono fun vs σ h=>.run rfl ⟨rfl,?_⟩⟩
  show T (match methOf c n with|some k=>C k (.inst c xs::vs)|none=>fail) σ Q
  rw [hm];exact h)
theorem t_methO {n:Str} {o:ME} (h:T (ev C o ρ) σ (kMethO C ρ es n Q)):T (ev C (.meth o n es) ρ) σ Q:=t_methO' h
variable {S:Fl×Env'→Mem→Prop} {ss sa sb:MSs}
theorem t_end (h:S (.next,ρ) σ):T (exs C .nil ρ) σ S:=.ret h
theorem t_expr' (h:T (ev C e ρ) σ fun _ σ=>T (exs C ss ρ) σ S):T (exs C (.cons (.expr e) ss) ρ) σ S:=.bnd (.bnd (h.mono fun _ _ h=>.ret h))
theorem t_expr (h:T (ev C e ρ) σ (kThen C ρ ss S)):T (exs C (.cons (.expr e) ss) ρ) σ S:=t_expr' h
theorem t_asg' (h:T (ev C e ρ) σ fun v σ=>T (exs C ss (ρ.set i v)) σ S):T (exs C (.cons (.asg (.one i) e) ss) ρ) σ S:=.bnd (.bnd (h.mono fun _ _ h=>.bnd (.lft rfl (.ret h))))
theorem t_asg (h:T (ev C e ρ) σ (kAsg C ρ ss i S)):T (exs C (.cons (.asg (.one i) e) ss) ρ) σ S:=t_asg' h
theorem t_asgs' {is:List Nat} (h:T (ev C e ρ) σ fun v σ=>∃ ρ',bindT (.many is) v ρ=some ρ'∧T (exs C ss ρ') σ S):T (exs C (.cons (.asg (.many is) e) ss) ρ) σ S:=.bnd (.bnd (h.mono fun _ _ ⟨_,e,h⟩=>.bnd (.lft e (.ret h))))
theorem t_asgs {is:List Nat} (h:T (ev C e ρ) σ (kAsgs C ρ ss is S)):T (exs C (.cons (.asg (.many is) e) ss) ρ) σ S:=t_asgs' h
theorem t_put' {o i:ME} (h:T (ev C e ρ) σ fun v σ=>T (ev C o ρ) σ fun ov σ=>T (ev C i ρ) σ fun iv σ=>T (setItemV ov iv v) σ fun _ σ=>T (exs C ss ρ) σ S):T (exs C (.cons (.put o i e) ss) ρ) σ S:=
 .bnd (.bnd (h.mono fun _ _ h=>.bnd (h.mono fun _ _ h=>.bnd (h.mono fun _ _ h=>.bnd (h.mono fun _ _ h=>.ret h)))))
theorem t_put {o i:ME} (h:T (ev C e ρ) σ (kPut C ρ o i ss S)):T (exs C (.cons (.put o i e) ss) ρ) σ S:=t_put' h
theorem t_ret' (h:T (ev C e ρ) σ fun v σ=>S (.ret v,ρ) σ):T (exs C (.cons (.ret e) ss) ρ) σ S:=.bnd (.bnd (h.mono fun _ _ h=>.ret (.ret h)))
theorem t_ret (h:T (ev C e ρ) σ (kRet ρ S)):T (exs C (.cons (.ret e) ss) ρ) σ S:=t_ret' h
theorem t_ret0 (h:S (.ret .none,ρ) σ):T (exs C (.cons .ret0 ss) ρ) σ S:=.bnd (.ret (.ret h))
theorem t_ifs' (h:T (ev C t ρ) σ fun x σ=>∃ q,x=.bool q∧T (exs C (match q with|true=>sa|false=>sb) ρ) σ fun r σ=>T (cont C ss r) σ S):T (exs C (.cons (.ifs t sa sb) ss) ρ) σ S:=
 .bnd (.bnd (h.mono fun x σ h=>by
  obtain ⟨q,rfl,h⟩:=h
  exact .bnd (.run rfl (by cases q <;> exact h))))
theorem t_ifs (h:T (ev C t ρ) σ (kIfs C ρ ss sa sb S)):T (exs C (.cons (.ifs t sa sb) ss) ρ) σ S:=t_ifs' h
theorem t_cont (h:T (exs C ss ρ) σ S):T (cont C ss (.next,ρ)) σ S:=h
theorem t_contr {v:V} (h:S (.ret v,ρ) σ):T (cont C ss (.ret v,ρ)) σ S:=.ret h
end
section
variable {C:Calls} {ρ ρ':Env'} {σ σ':Mem} {x:V} {xs:List V} {Q:V→Mem→Prop} {Qs:List V→Mem→Prop} {S:Fl×Env'→Mem→Prop} {t:Tg} {body:Env'→M (Fl×Env')} {cond:Env'→M Bool} {el:Env'→M V} {e it:ME} {ss b:MSs} {cs:MEs} {i:Nat}
theorem t_fors' (h:T (ev C it ρ) σ fun v σ=>T (forV (exs C b) t v ρ) σ fun r σ=>T (cont C ss r) σ S):T (exs C (.cons (.fors t it b) ss) ρ) σ S:=.bnd (.bnd (h.mono fun _ _ h=>h))
theorem t_fors (h:T (ev C it ρ) σ (kFor C ρ ss b t S)):T (exs C (.cons (.fors t it b) ss) ρ) σ S:=t_fors' h
theorem for_list (h:T (loopS body t xs ρ) σ S):T (forV body t (.list xs) ρ) σ S:=by
 show T (Mine.bnd (itemsOf (.list xs)) fun xs=>loopS body t xs ρ) σ S
 exact .bnd (.run (a:=xs) (σ':=σ) rfl h)
theorem for_tup (h:T (loopS body t xs ρ) σ S):T (forV body t (.tup xs) ρ) σ S:=by
 show T (Mine.bnd (itemsOf (.tup xs)) fun xs=>loopS body t xs ρ) σ S
 exact .bnd (.run (a:=xs) (σ':=σ) rfl h)
theorem for_dict {es:List (Str×V)} (h:T (loopS body t (es.map fun e=>V.str e.1) ρ) σ S):T (forV body t (.dict es) ρ) σ S:=by
 show T (Mine.bnd (itemsOf (.dict es)) fun xs=>loopS body t xs ρ) σ S
 exact .bnd (.run (a:=es.map fun (p:Str×V)=>V.str p.1) (σ':=σ) rfl h)
theorem items_rng {b:Int} (hb:-(2 ^ 40)<b∧b<2 ^ 40) (q:Qs (rangeInts b.toNat 0) σ):T (itemsOf (.rng 0 b)) σ Qs:=by
 show T (if (0:Int)=0∧-(2 ^ 40)<b∧b<2 ^ 40 then ret (rangeInts b.toNat 0) else fail) σ Qs
 rw [if_pos ⟨rfl,hb⟩];exact .ret q
theorem for_rng {b:Int} (hb:-(2 ^ 40)<b∧b<2 ^ 40) (h:T (loopS body t (rangeInts b.toNat 0) ρ) σ S):T (forV body t (.rng 0 b) ρ) σ S:=by
 show T (Mine.bnd (itemsOf (.rng 0 b)) fun xs=>loopS body t xs ρ) σ S
 exact .bnd (items_rng hb h)
theorem for_sd {es:List (Str×V)} (hs:σ[i]?=some (.sd es)) (h:T (loopS body t (es.map fun (p:Str×V)=>V.str p.1) ρ) (σ.set i (.lent es)) fun r σ=>(∃ fs,σ[i]?=some (.lent fs))∧S r (σ.set i (.sd es))):T (forV body t (.cell i) ρ) σ S:=by
 obtain ⟨r,σ',he,⟨fs,hf⟩,q⟩:=h
 refine ⟨r,σ'.set i (.sd es),?_,q⟩
 show (match σ[i]? with
  | some (.sd es)=>(match loopS body t (es.map fun (p:Str×V)=>V.str p.1) ρ (σ.set i (.lent es)) with
   | some (r,σ')=>(match σ'[i]? with
    | some (.lent _)=>some (r,σ'.set i (.sd es))
    | _=>none)
   | none=>none)
  | _=>none)=_
 rw [hs]
 show (match loopS body t (es.map fun (p:Str×V)=>V.str p.1) ρ (σ.set i (.lent es)) with
   | some (r,σ')=>(match σ'[i]? with
    | some (.lent _)=>some (r,σ'.set i (.sd es))
    | _=>none)
   | none=>none)=_
 rw [he]
 show (match σ'[i]? with
    | some (.lent _)=>some (r,σ'.set i (.sd es))
    | _=>none)=_
 rw [hf]
theorem loop_nil (h:S (.next,ρ) σ):T (loopS body t [] ρ) σ S:=.ret h
theorem loop_cons' (hb:bindT t x ρ=some ρ') (h:T (body ρ') σ fun r σ=>T (nextS body t xs r) σ S):T (loopS body t (x::xs) ρ) σ S:=.bnd (.lft hb (.bnd (h.mono fun _ _ h=>h)))
theorem loop_cons (hb:bindT t x ρ=some ρ') (h:T (body ρ') σ (kNext xs body t S)):T (loopS body t (x::xs) ρ) σ S:=loop_cons' hb h
theorem t_next (h:T (loopS body t xs ρ) σ S):T (nextS body t xs (.next,ρ)) σ S:=h
theorem t_nextr {v:V} (h:S (.ret v,ρ) σ):T (nextS body t xs (.ret v,ρ)) σ S:=.ret h
noncomputable def nextW (cond:Env'→M Bool) (body:Env'→M (Fl×Env')) (n:Nat) (r:Fl×Env'):M (Fl×Env'):=match r.1 with
 | .next=>loopW cond body n r.2
 | .ret v=>ret (.ret v,r.2)
theorem t_whiles' (h:T (loopW (fun ρ=>bnd (ev C e ρ) truth) (exs C b) whileMost ρ) σ fun r σ=>T (cont C ss r) σ S):T (exs C (.cons (.whiles e b) ss) ρ) σ S:=.bnd (h.mono fun _ _ h=>h)
theorem t_whiles (h:T (loopW (fun ρ=>bnd (ev C e ρ) truth) (exs C b) whileMost ρ) σ (kCont C ss S)):T (exs C (.cons (.whiles e b) ss) ρ) σ S:=t_whiles' h
theorem loop_while {n:Nat} (h:T (ev C e ρ) σ fun x σ=>∃ q,x=.bool q∧(match q with|false=>S (.next,ρ) σ|true=>T (body ρ) σ fun r σ=>T (nextW (fun ρ=>bnd (ev C e ρ) truth) body n r) σ S)):T (loopW (fun ρ=>bnd (ev C e ρ) truth) body (n+1) ρ) σ S:=
 .bnd (.bnd (h.mono fun x σ h=>by
  obtain ⟨q,rfl,h⟩:=h
  exact .run (a:=q) (σ':=σ) rfl (by cases q <;> first|exact .ret h|exact .bnd (h.mono fun _ _ h=>h))))
theorem t_nextw {n:Nat} (h:T (loopW cond body n ρ) σ S):T (nextW cond body n (.next,ρ)) σ S:=h
theorem t_nextwr {n:Nat} {v:V} (h:S (.ret v,ρ) σ):T (nextW cond body n (.ret v,ρ)) σ S:=.ret h
theorem t_fwd' (h:T (ev C e ρ) σ fun v σ=>T (itemsOf v) σ Qs):T (evI C (.fwd e) ρ) σ Qs:=.bnd h
theorem t_fwd (h:T (ev C e ρ) σ (kItems Qs)):T (evI C (.fwd e) ρ) σ Qs:=t_fwd' h
theorem t_rev (h:T (ev C e ρ) σ fun v σ=>∃ xs,v=.list xs∧Qs xs.reverse σ):T (evI C (.rev e) ρ) σ Qs:=.bnd (h.mono fun v σ h=>by
 obtain ⟨xs,rfl,h⟩:=h
 exact .ret h)
theorem items_list (h:Qs xs σ):T (itemsOf (.list xs)) σ Qs:=.ret h
theorem items_tup (h:Qs xs σ):T (itemsOf (.tup xs)) σ Qs:=.ret h
theorem t_lcomp' {it:MI} {m:Bool} (h:T (evI C it ρ) σ fun xs σ=>T (loopC (cnd C cs) (ev C e) t ρ xs) σ fun vs σ=>T (mkL m vs) σ Q):T (ev C (.lcomp m e t it cs) ρ) σ Q:=.bnd (h.mono fun _ _ h=>.bnd h)
theorem t_lcomp {it:MI} {m:Bool} (h:T (evI C it ρ) σ (kComp C ρ m e t cs Q)):T (ev C (.lcomp m e t it cs) ρ) σ Q:=t_lcomp' h
theorem comp_nil {cond:Env'→M Bool} (h:Qs [] σ):T (loopC cond el t ρ []) σ Qs:=.ret h
theorem comp_cons' {cond:Env'→M Bool} (hb:bindT t x ρ=some ρ') (h:T (cond ρ') σ fun b σ=>match b with|true=>T (el ρ') σ fun v σ=>T (loopC cond el t ρ xs) σ fun vs σ=>Qs (v::vs) σ|false=>T (loopC cond el t ρ xs) σ Qs):T (loopC cond el t ρ (x::xs)) σ Qs:=
 .bnd (.lft hb (.bnd (h.mono fun b σ h=>by
  cases b
  ·exact h
  ·exact .bnd (h.mono fun _ _ h=>.bnd (h.mono fun _ _ q=>.ret q)))))
theorem comp_cons {cond:Env'→M Bool} (hb:bindT t x ρ=some ρ') (h:T (cond ρ') σ (kCc ρ ρ' el cond t xs Qs)):T (loopC cond el t ρ (x::xs)) σ Qs:=comp_cons' hb h
theorem cnd_nil {B:Bool→Mem→Prop} (h:B true σ):T (cnd C .nil ρ) σ B:=.ret h
theorem cnd_one' {B:Bool→Mem→Prop} (h:T (ev C e ρ) σ fun v σ=>∃ q,v=.bool q∧B q σ):T (cnd C (.cons e .nil) ρ) σ B:=.bnd (h.mono fun v σ h=>by
 obtain ⟨q,rfl,h⟩:=h
 exact .run (a:=q) (σ':=σ) rfl h)
theorem cnd_one {B:Bool→Mem→Prop} (h:T (ev C e ρ) σ (kCnd B)):T (cnd C (.cons e .nil) ρ) σ B:=cnd_one' h
end
theorem t_fun' {n k:Nat} {vs:List V} {σ:Mem} {Q:V→Mem→Prop} {f:MFun} (hk:Nat.blt k 100=true) (hf:funOf k=some f) (hl:(Nat.beq vs.length f.ps&&Nat.ble f.ps f.vars.length)=true)
  (h:T (exs (callF n) f.body (vs++List.replicate (f.vars.length-f.ps) V.unb)) σ fun r σ=>Q (valueOf r.1) σ):T (callF (n+1) k vs) σ Q:=by
 have e:callF (n+1) k vs=runF (callF n) f vs:=by
  show (if k<100 then _ else _)=_
  rw [if_pos (show k<100 from Nat.le_of_ble_eq_true hk),hf]
 rw [e]
 rw [Bool.and_eq_true] at hl
 unfold runF
 rw [if_pos ⟨Nat.eq_of_beq_eq_true hl.1,Nat.le_of_ble_eq_true hl.2⟩]
 exact .bnd (h.mono fun _ _ q=>.ret q)
theorem t_fun {n k:Nat} {vs:List V} {σ:Mem} {Q:V→Mem→Prop} {f:MFun} (hk:Nat.blt k 100=true) (hf:funOf k=some f) (hl:(Nat.beq vs.length f.ps&&Nat.ble f.ps f.vars.length)=true)
  (h:T (exs (callF n) f.body (vs++List.replicate (f.vars.length-f.ps) V.unb)) σ (kFun Q)):T (callF (n+1) k vs) σ Q:=t_fun' hk hf hl h
theorem t_new' {n c:Nat} {vs:List V} {σ:Mem} {Q:V→Mem→Prop} {f:MInit} (hf:initOf c=some f) (hl:(Nat.ble vs.length f.ps&&Nat.ble f.ps (vs.length+f.dflt.length))=true)
  (h:T (evs (callF n) f.es (V.unb::(vs++f.dflt.drop (vs.length+f.dflt.length-f.ps)))) σ fun xs σ=>Q (.inst c xs) σ):T (callF (n+1) (100+c) vs) σ Q:=by
 have e:callF (n+1) (100+c) vs=runI (callF n) c f vs:=by
  show (if 100+c<100 then _ else _)=_
  rw [if_neg (by lia),show 100+c-100=c by lia,hf]
 rw [e]
 rw [Bool.and_eq_true] at hl
 unfold runI
 rw [if_pos ⟨Nat.le_of_ble_eq_true hl.1,Nat.le_of_ble_eq_true hl.2⟩]
 exact .bnd (h.mono fun _ _ q=>.ret q)
theorem t_new {n c:Nat} {vs:List V} {σ:Mem} {Q:V→Mem→Prop} {f:MInit} (hf:initOf c=some f) (hl:(Nat.ble vs.length f.ps&&Nat.ble f.ps (vs.length+f.dflt.length))=true)
  (h:T (evs (callF n) f.es (V.unb::(vs++f.dflt.drop (vs.length+f.dflt.length-f.ps)))) σ (kNew c Q)):T (callF (n+1) (100+c) vs) σ Q:=t_new' hf hl h
noncomputable def pl (ρ:Env') (e:ME):Option V:=match e with
 | .var i=>(match ρ[i]? with
  | some v=>(match noU v with
   | true=>some v
   | false=>none)
  | none=>none)
 | .glob g=>globs[g]?
 | .none=>some .none
 | .tru=>some (.bool true)
 | .fls=>some (.bool false)
 | .int i=>some (.int i)
 | .str s=>some (.str s)
 | .byts b=>some (.byts b)
 | _=>none
noncomputable def pls (ρ:Env'):MEs→Option (List V)
 | .nil=>some []
 | .cons e es=>(match pl ρ e with
  | some v=>(match pls ρ es with
   | some vs=>some (v::vs)
   | none=>none)
  | none=>none)
theorem t_pl {C:Calls} {ρ:Env'} {e:ME} {v:V} {σ:Mem} {Q:V→Mem→Prop} (h:pl ρ e=some v) (q:Q v σ):T (ev C e ρ) σ Q:=by
 cases e with
 | var i=>
  have h:(match ρ[i]? with
   | some v=>(match noU v with
    | true=>some v
    | false=>none)
   | none=>none)=some v:=h
  cases hr:ρ[i]? with
  | none=>rw [hr] at h;cases h
  | some w=>
   rw [hr] at h
   cases hw:noU w with
   | false=>
    have h:(match noU w with
     | true=>some w
     | false=>none)=some v:=h
    rw [hw] at h;cases h
   | true=>
    have h:(match noU w with
     | true=>some w
     | false=>none)=some v:=h
    rw [hw] at h
    cases h
    exact t_var hr hw q
 | glob g=>exact t_glob h q
 | none=>cases h;exact t_none q
 | tru=>cases h;exact t_tru q
 | fls=>cases h;exact t_fls q
 | int i=>cases h;exact t_int q
 | str s=>cases h;exact t_str q
 | byts s=>cases h;exact t_byts q
 | _=>cases h
theorem t_pls {C:Calls} {ρ:Env'}:∀ {es:MEs} {vs:List V} {σ:Mem} {Qs:List V→Mem→Prop},pls ρ es=some vs→Qs vs σ→T (evs C es ρ) σ Qs
 | .nil,vs,σ,Qs,h,q=>by cases h;exact t_nil q
 | .cons e es,vs,σ,Qs,h,q=>by
  have h:(match pl ρ e with
   | some v=>(match pls ρ es with
    | some vs=>some (v::vs)
    | none=>none)
   | none=>none)=some vs:=h
  cases hv:pl ρ e with
  | none=>rw [hv] at h;cases h
  | some v=>
   rw [hv] at h
   cases hs:pls ρ es with
   | none=>
    have h:(match pls ρ es with
     | some vs=>some (v::vs)
     | none=>none)=some vs:=h
    rw [hs] at h;cases h
   | some ws=>
    have h:(match pls ρ es with
     | some vs=>some (v::vs)
     | none=>none)=some vs:=h
    rw [hs] at h
    cases h
    exact t_cons (t_pl hv (t_pls hs q))
theorem t_callp {C:Calls} {ρ:Env'} {f:ME} {es:MEs} {fv:V} {vs:List V} {σ:Mem} {Q:V→Mem→Prop} (hf:pl ρ f=some fv) (hs:pls ρ es=some vs) (q:T (callV C fv vs) σ Q):T (ev C (.call f es) ρ) σ Q:=t_call (t_pl hf (t_pls hs q))
section
variable {C:Calls} {σ σ':Mem} {Q:V→Mem→Prop} {U:Unit→Mem→Prop} {B:Bool→Mem→Prop} {p:Nat} {xs:List V} {es:List (Str×V)} {is:List (Int×V)} {v x y:V}
theorem t_bi {b:BI} {vs:List V} (h:T (biCall b vs) σ Q):T (callV C (.bi b) vs) σ Q:=h
theorem t_fnc {k:Nat} {vs:List V} (h:T (C k vs) σ Q):T (callV C (.fn k) vs) σ Q:=h
theorem t_clsc {k:Nat} {vs:List V} (h:T (C (100+k) vs) σ Q):T (callV C (.cls k) vs) σ Q:=h
theorem t_pre {t:MK} {K:MK→Mem→Prop} (e:preM v σ=some (t,σ)) (h:K t σ):T (preM v) σ K:=.run e h
theorem t_preD {K:MK→Mem→Prop} (h:K .D σ):T (preM (.dict es)) σ K:=.run rfl h
theorem t_preS {K:MK→Mem→Prop} {s:Str} (h:K .S σ):T (preM (.str s)) σ K:=.run rfl h
theorem t_preB {K:MK→Mem→Prop} {s:List UInt8} (h:K .B σ):T (preM (.byts s)) σ K:=.run rfl h
theorem t_asks {t:MK} {n:Str} {X:Prop} (hn:(idOf t n).isSome=true) (h:X):(t=MK.O∨(idOf t n).isSome=true)∧X:=⟨.inr hn,h⟩
theorem t_small {xs:List V} {X:Prop} (h:Nat.blt xs.length 100=true) (x:X):xs.length<100∧X:=⟨Nat.le_of_ble_eq_true h,x⟩
theorem t_same {t:MK} {X:Prop} (h:X):t=t∧X:=⟨rfl,h⟩
noncomputable def notInst:V→Bool
 | .inst _ _=>false
 | _=>true
theorem kind_cell (h:σ[p]?=some (.list xs)):kind3 (.cell p) σ=some (.L,σ):=by
 show (match σ[p]? with|some (.list _)=>some (K3.L,σ)|some (.sd _)=>some (.D,σ)|some (.lent _)=>some (.D,σ)|some (.id _)=>some (.I,σ)|_=>none)=_
 rw [h]
theorem kind_sd (h:σ[p]?=some (.sd es)):kind3 (.cell p) σ=some (.D,σ):=by
 show (match σ[p]? with|some (.list _)=>some (K3.L,σ)|some (.sd _)=>some (.D,σ)|some (.lent _)=>some (.D,σ)|some (.id _)=>some (.I,σ)|_=>none)=_
 rw [h]
theorem kind_id (h:σ[p]?=some (.id is)):kind3 (.cell p) σ=some (.I,σ):=by
 show (match σ[p]? with|some (.list _)=>some (K3.L,σ)|some (.sd _)=>some (.D,σ)|some (.lent _)=>some (.D,σ)|some (.id _)=>some (.I,σ)|_=>none)=_
 rw [h]
theorem rd_cell (h:σ[p]?=some (.list xs)):rdList (.cell p) σ=some (xs,σ):=by
 show (match σ[p]? with|some (.list xs)=>some (xs,σ)|_=>none)=_
 rw [h]
theorem rd_sd (h:σ[p]?=some (.sd es)):rdDict (.cell p) σ=some (es,σ):=by
 show (match σ[p]? with|some (.sd es)=>some (es,σ)|some (.lent es)=>some (es,σ)|_=>none)=_
 rw [h]
theorem rd_id (h:σ[p]?=some (.id is)):rdId (.cell p) σ=some (is,σ):=by
 show (match σ[p]? with|some (.id es)=>some (es,σ)|_=>none)=_
 rw [h]
theorem len_cell (h:σ[p]?=some (.list xs)) (q:Q (.int xs.length) σ):T (biCall .len [.cell p]) σ Q:=
 T.bnd (m:=kind3 (.cell p)) (.run (kind_cell h) (T.bnd (.run (rd_cell h) (.ret q))))
theorem get_cell {k:Int} (h:σ[p]?=some (.list xs)) (hk:0≤k) (hv:xs[k.toNat]?=some v) (q:Q v σ):T (getItemV (.cell p) (.int k)) σ Q:=
 T.bnd (m:=kind3 (.cell p)) (.run (kind_cell h) (T.bnd (.run (rd_cell h) (by
  show T (idx xs k) σ Q
  unfold idx
  rw [if_pos hk]
  exact .lft hv q))))
theorem get_id {k:Int} (h:σ[p]?=some (.id is)) (hv:ascI is k=some v) (q:Q v σ):T (getItemV (.cell p) (.int k)) σ Q:=
 T.bnd (m:=kind3 (.cell p)) (.run (kind_id h) (T.bnd (.run (rd_id h) (.lft hv q))))
theorem get_dict {k:Str} (hv:asc es k=some v) (q:Q v σ):T (getItemV (.dict es) (.str k)) σ Q:=by
 show T (Mine.bnd (rdDict (.dict es)) fun es=>Mine.lft (asc es k)) σ Q
 exact .bnd (.run (a:=es) (σ':=σ) rfl (.lft hv q))
theorem get_sd {k:Str} (h:σ[p]?=some (.sd es)) (hv:asc es k=some v) (q:Q v σ):T (getItemV (.cell p) (.str k)) σ Q:=T.bnd (m:=rdDict (.cell p)) (.run (rd_sd h) (.lft hv q))
theorem set_cell {k:Int} (h:σ[p]?=some (.list xs)) (hk:0≤k∧k<xs.length) (q:U () (σ.set p (.list (xs.set k.toNat v)))):T (setItemV (.cell p) (.int k) v) σ U:=.run (a:=()) (σ':=σ.set p (.list (xs.set k.toNat v))) (by
 show (match σ[p]? with|some (.list xs)=>if 0≤k∧k<xs.length then some ((),σ.set p (.list (xs.set k.toNat v))) else none|some (.id es)=>if es.length<cap then some ((),σ.set p (.id (stoI es k v))) else none|_=>none)=_
 rw [h];exact if_pos hk) q
theorem set_id {k:Int} (h:σ[p]?=some (.id is)) (hk:is.length<cap) (q:U () (σ.set p (.id (stoI is k v)))):T (setItemV (.cell p) (.int k) v) σ U:=.run (a:=()) (σ':=σ.set p (.id (stoI is k v))) (by
 show (match σ[p]? with|some (.list xs)=>if 0≤k∧k<xs.length then some ((),σ.set p (.list (xs.set k.toNat v))) else none|some (.id es)=>if es.length<cap then some ((),σ.set p (.id (stoI es k v))) else none|_=>none)=_
 rw [h];exact if_pos hk) q
theorem set_sd {k:Str} (h:σ[p]?=some (.sd es)) (hk:es.length<cap) (q:U () (σ.set p (.sd (sto es k v)))):T (setItemV (.cell p) (.str k) v) σ U:=.run (a:=()) (σ':=σ.set p (.sd (sto es k v))) (by
 show (match σ[p]? with|some (.sd es)=>if es.length<cap then some ((),σ.set p (.sd (sto es k v))) else none|_=>none)=_
 rw [h];exact if_pos hk) q
theorem pre_of {o:V} {t:MK} {k:K3} (hk:kind3 o σ=some (k,σ)) (ho:(match o with|.inst _ _=>false|.str _=>false|.byts _=>false|_=>true)=true) (ht:(match k with|.L=>some MK.L|.D=>some MK.D|.I=>some MK.I|.N=>none)=some t):preM o σ=some (t,σ):=by
 have e:preM o=bnd (kind3 o) fun k=>match k with|.L=>Mine.ret .L|.D=>Mine.ret .D|.I=>Mine.ret .I|.N=>fail:=by
  cases o <;> first|rfl|cases ho
 rw [e]
 unfold Mine.bnd
 rw [hk]
 cases k <;> cases ht <;> rfl
theorem pre_cell (h:σ[p]?=some (.list xs)):preM (.cell p) σ=some (.L,σ):=pre_of (kind_cell h) rfl rfl
theorem pre_sd (h:σ[p]?=some (.sd es)):preM (.cell p) σ=some (.D,σ):=pre_of (kind_sd h) rfl rfl
theorem pre_id (h:σ[p]?=some (.id is)):preM (.cell p) σ=some (.I,σ):=pre_of (kind_id h) rfl rfl
theorem pop0_cell (h:σ[p]?=some (.list (v::xs))) (q:Q v (σ.set p (.list xs))):T (methV C (.cell p) (S "pop") [.int 0]) σ Q:=.run (a:=v) (σ':=σ.set p (.list xs)) (by
 show (atL σ[p]? fun xs=>popL xs fun v r=>some (v,σ.set p (.list r)))=_
 rw [h];rfl) q
theorem pop_cell (h:σ[p]?=some (.list (xs++[v]))) (q:Q v (σ.set p (.list xs))):T (methV C (.cell p) (S "pop") []) σ Q:=.run (a:=v) (σ':=σ.set p (.list xs)) (by
 show (match σ[p]? with|some (.list xs)=>(match xs.reverse with|v::r=>some (v,σ.set p (.list r.reverse))|[]=>none)|_=>none)=_
 rw [h]
 show (match (xs++[v]).reverse with|v::r=>some (v,σ.set p (.list r.reverse))|[]=>none)=_
 rw [List.reverse_append]
 show some (v,σ.set p (.list xs.reverse.reverse))=_
 rw [List.reverse_reverse]) q
theorem popk_sd {k:Str} (h:σ[p]?=some (.sd es)) (q:Q ((asc es k).getD .none) (σ.set p (.sd (del es k)))):T (methV C (.cell p) (S "pop") [.str k,.none]) σ Q:=.run (a:=(asc es k).getD .none) (σ':=σ.set p (.sd (del es k))) (by
 show (match σ[p]? with|some (.sd es)=>some ((asc es k).getD .none,σ.set p (.sd (del es k)))|_=>none)=_
 rw [h]) q
theorem app_cell (h:σ[p]?=some (.list xs)) (hl:xs.length<cap) (q:Q .none (σ.set p (.list (xs++[v])))):T (methV C (.cell p) (S "append") [v]) σ Q:=.run (a:=.none) (σ':=σ.set p (.list (xs++[v]))) (by
 show (match σ[p]? with|some (.list xs)=>if xs.length<cap then some (V.none,σ.set p (.list (xs++[v]))) else none|_=>none)=_
 rw [h];exact if_pos hl) q
theorem ext_cell {ys:List V} (h:σ[p]?=some (.list xs)) (hl:xs.length+ys.length<cap) (q:Q .none (σ.set p (.list (xs++ys)))):T (methV C (.cell p) (S "extend") [.list ys]) σ Q:=.run (a:=.none) (σ':=σ.set p (.list (xs++ys))) (by
 show (match σ[p]? with|some (.list xs)=>if xs.length+ys.length<cap then some (V.none,σ.set p (.list (xs++ys))) else none|_=>none)=_
 rw [h];exact if_pos hl) q
theorem upd_sd {fs:List (Str×V)} (h:σ[p]?=some (.sd es)) (hl:es.length+fs.length<cap) (q:Q .none (σ.set p (.sd (stoAll es fs)))):T (methV C (.cell p) (S "update") [.dict fs]) σ Q:=.run (a:=.none) (σ':=σ.set p (.sd (stoAll es fs))) (by
 show (match σ[p]? with|some (.sd es)=>if es.length+fs.length<cap then some (V.none,σ.set p (.sd (stoAll es fs))) else none|_=>none)=_
 rw [h];exact if_pos hl) q
theorem dget1 {o:V} {k:Str} (h:rdDict o σ=some (es,σ)) (ho:notInst o=true) (q:Q ((asc es k).getD .none) σ):T (methV C o (S "get") [.str k]) σ Q:=by
 have e:methV C o (S "get") [.str k]=bnd (rdDict o) fun es=>Mine.ret ((asc es k).getD .none):=by
  cases o <;> first|rfl|cases ho
 rw [e];exact .bnd (.run h (.ret q))
theorem dget2 {o d:V} {k:Str} (h:rdDict o σ=some (es,σ)) (ho:notInst o=true) (q:Q ((asc es k).getD d) σ):T (methV C o (S "get") [.str k,d]) σ Q:=by
 have e:methV C o (S "get") [.str k,d]=bnd (rdDict o) fun es=>Mine.ret ((asc es k).getD d):=by
  cases o <;> first|rfl|cases ho
 rw [e];exact .bnd (.run h (.ret q))
theorem iget2 {d:V} {k:Int} (h:σ[p]?=some (.id is)) (q:Q ((ascI is k).getD d) σ):T (methV C (.cell p) (S "get") [.int k,d]) σ Q:=
 T.bnd (m:=rdId (.cell p)) (.run (rd_id h) (.ret q))
theorem in_id {k:Int} {B:Bool→Mem→Prop} (h:σ[p]?=some (.id is)) (q:B (ascI is k).isSome σ):T (cmpV .in (.int k) (.cell p)) σ B:=
 T.bnd (m:=kind3 (.cell p)) (.run (kind_id h) (T.bnd (m:=rdId (.cell p)) (.run (rd_id h) (.ret q))))
theorem nin_id {k:Int} {B:Bool→Mem→Prop} (h:σ[p]?=some (.id is)) (q:B (!(ascI is k).isSome) σ):T (cmpV .nin (.int k) (.cell p)) σ B:=T.bnd (m:=cmpIn (.int k) (.cell p)) ((in_id h (B:=fun r σ=>B (!r) σ) q).mono fun _ _ q=>.ret q)
theorem in_sd {k:Str} {B:Bool→Mem→Prop} (h:σ[p]?=some (.sd es)) (q:B (asc es k).isSome σ):T (cmpV .in (.str k) (.cell p)) σ B:=
 T.bnd (m:=kind3 (.cell p)) (.run (kind_sd h) (T.bnd (m:=rdDict (.cell p)) (.run (rd_sd h) (.ret q))))
theorem nin_sd {k:Str} {B:Bool→Mem→Prop} (h:σ[p]?=some (.sd es)) (q:B (!(asc es k).isSome) σ):T (cmpV .nin (.str k) (.cell p)) σ B:=T.bnd (m:=cmpIn (.str k) (.cell p)) ((in_sd h (B:=fun r σ=>B (!r) σ) q).mono fun _ _ q=>.ret q)
theorem frz_list (h:σ[p]?=some (.list xs)) (q:Q (.list xs) (σ.set p .dead)):T (frzV (.cell p)) σ Q:=.run (a:=.list xs) (σ':=σ.set p .dead) (by
 show (match σ[p]? with|some (.list xs)=>some (V.list xs,σ.set p .dead)|some (.sd es)=>some (.dict es,σ.set p .dead)|_=>none)=_
 rw [h]) q
theorem frz_sd (h:σ[p]?=some (.sd es)) (q:Q (.dict es) (σ.set p .dead)):T (frzV (.cell p)) σ Q:=.run (a:=.dict es) (σ':=σ.set p .dead) (by
 show (match σ[p]? with|some (.list xs)=>some (V.list xs,σ.set p .dead)|some (.sd es)=>some (.dict es,σ.set p .dead)|_=>none)=_
 rw [h]) q
theorem mkl {b:Bool} (hl:xs.length<cap) (q:Q (if b then .cell σ.length else .list xs) (if b then σ++[.list xs] else σ)):T (mkL b xs) σ Q:=by
 unfold mkL
 rw [if_pos hl]
 cases b
 ·exact .ret q
 ·exact .run rfl q
theorem t_dict0 {ρ:Env'} {ks:List Str} {es:MEs} (h:T (evs C es ρ) σ fun vs σ=>(ks.length=vs.length∧ks.Nodup∧ks.length≤15)∧Q (.dict (ks.zip vs)) σ):T (ev C (.dict 0 ks es) ρ) σ Q:=T.bnd (m:=evs C es ρ) (h.mono fun vs σ h=>by
 rw [if_pos h.1];exact .ret h.2)
theorem t_dict1 {ρ:Env'} {ks:List Str} {es:MEs} (h:T (evs C es ρ) σ fun vs σ=>(ks.length=vs.length∧ks.Nodup∧ks.length≤15)∧Q (.cell σ.length) (σ++[.sd (ks.zip vs)])):T (ev C (.dict 1 ks es) ρ) σ Q:=T.bnd (m:=evs C es ρ) (h.mono fun vs σ h=>by
 rw [if_pos h.1];exact .run rfl h.2)
theorem t_dict2 {ρ:Env'} (h:Q (.cell σ.length) (σ++[.id []])):T (ev C (.dict 2 [] .nil) ρ) σ Q:=.run (a:=.cell σ.length) (σ':=σ++[.id []]) rfl h
theorem rng_call {k:Int} (hk:k<2 ^ 40) (q:Q (.rng 0 k) σ):T (biCall .range [.int k]) σ Q:=by
 show T (if k<2 ^ 40 then Mine.ret (.rng 0 k) else fail) σ Q
 rw [if_pos hk];exact .ret q
theorem isi_call {x c:V} {b:Bool} (h:isKind x c σ=some (b,σ)) (q:Q (.bool b) σ):T (biCall .isinstance [x,c]) σ Q:=T.bnd (m:=isKind x c) (.run h (.ret q))
theorem add_str {b:Bool} {x y:Str} (h:x.cps.size+y.cps.size<cap) (q:Q (.str (x++y)) σ):T (binV .add b (.str x) (.str y)) σ Q:=by
 show T (if x.cps.size+y.cps.size<cap then Mine.ret (.str (x++y)) else fail) σ Q
 rw [if_pos h];exact .ret q
theorem add_list {b:Bool} {ys:List V} (h:T (mkL b (xs++ys)) σ Q):T (binV .add b (.list xs) (.list ys)) σ Q:=by
 show T (Mine.bnd (rdList (.list xs)) fun xs=>Mine.bnd (rdList (.list ys)) fun ys=>mkL b (xs++ys)) σ Q
 exact .bnd (.run (a:=xs) (σ':=σ) rfl (.bnd (.run (a:=ys) (σ':=σ) rfl h)))
theorem mod_int {b:Bool} {x y:Int} (hy:y≠0) (q:Q (.int (Int.fmod x y)) σ):T (binV .mod b (.int x) (.int y)) σ Q:=by
 show T (if y≠0 then ret (.int (Int.fmod x y)) else fail) σ Q
 rw [if_pos hy];exact .ret q
theorem fdiv_int {b:Bool} {x y:Int} (hy:y≠0) (hs:y.natAbs<1073741824) (q:Q (.int (Int.fdiv x y)) σ):T (binV .fdiv b (.int x) (.int y)) σ Q:=by
 show T (if y≠0∧y.natAbs<1073741824 then ret (.int (Int.fdiv x y)) else fail) σ Q
 rw [if_pos ⟨hy,hs⟩];exact .ret q
theorem pow_int {b:Bool} {x y:Int} (h:0≤y∧y<1000∧x.natAbs<1000) (q:Q (.int (x ^ y.toNat)) σ):T (binV .pow b (.int x) (.int y)) σ Q:=by
 show T (if 0≤y∧y<1000∧x.natAbs<1000 then ret (.int (x ^ y.toNat)) else fail) σ Q
 rw [if_pos h];exact .ret q
end
local macro_rules | `(tactic| walk_at "m1")=>`(tactic| first
 | ((with_reducible refine' t_callp ?h1 ?h2 ?_);(case h1=>rfl);(case h2=>rfl))
 | ((with_reducible refine' t_pls ?h1 ?_);(case h1=>rfl))
 | ((with_reducible refine' t_var ?h1 ?h2 ?_);(case h1=>rfl);(case h2=>first|rfl|assumption))
 | ((with_reducible refine' t_glob ?h1 ?_);(case h1=>rfl))
 | ((with_reducible refine' t_asks ?h1 ?_);(case h1=>rfl))|((with_reducible refine' t_small ?h1 ?_);(case h1=>rfl))
 | with_reducible first|refine t_none ?_|refine t_tru ?_|refine t_fls ?_|refine t_int ?_|refine t_neg ?_|refine t_str ?_|refine t_byts ?_|refine t_nil ?_|refine t_cons ?_|refine t_tup ?_|refine t_list ?_|refine t_bin ?_|refine t_not ?_|refine t_cmp ?_|refine t_call ?_|refine t_make ?_|refine t_attr ?_|refine t_sub ?_|refine t_frz ?_|refine t_ife ?_|refine t_and ?_|refine t_or ?_|refine t_and_nil ?_|refine t_and_cons ?_|refine t_or_nil ?_|refine t_or_cons ?_|refine t_meth ?_|refine t_end ?_|refine t_expr ?_|refine t_asg ?_|refine t_asgs ?_|refine t_put ?_|refine t_ret ?_|refine t_ret0 ?_|refine t_ifs ?_|refine t_fors ?_|refine t_whiles ?_|refine t_next ?_|refine t_nextr ?_|refine t_nextw ?_|refine t_nextwr ?_|refine t_fwd ?_|refine t_rev ?_|refine t_lcomp ?_|refine comp_nil ?_|refine cnd_nil ?_|refine cnd_one ?_|refine loop_nil ?_|refine items_list ?_|refine items_tup ?_|refine for_list ?_|refine for_tup ?_|refine for_dict ?_|refine t_preD ?_|refine t_preS ?_|refine t_preB ?_|refine t_same ?_|refine t_cont ?_|refine t_contr ?_|refine t_bi ?_|refine t_fnc ?_|refine t_clsc ?_)
local macro_rules | `(tactic| walk_at "m2")=>`(tactic| (refine' T.run ?h ?_;(case h=>rfl)))
theorem take_nil {n:Nat} {p:Nat} {m:Int} {σ:Mem} {Q:V→Mem→Prop} (h:σ[p]?=some (.list [])) (q:Q (.int 0) σ):T (callF (n+1) 34 [.cell p,.int m]) σ Q:=by
 refine t_fun (f:=f_law_take) rfl rfl rfl ?_
 dsimp only [f_law_take]
 ext
 refine len_cell h ?_
 ext
 walk_at "m2"
 refine ⟨true,rfl,?_⟩
 ext
 exact q
theorem take_cons {n:Nat} {p:Nat} {m:Int} {σ:Mem} {Q:V→Mem→Prop} {x:Int} {xs:List Int} (h:σ[p]?=some (.list ((x::xs).map V.int))) (hm:0<m∧m<1000)
  (q:Q (.int (Int.fmod x m)) (σ.set p (.list ((if Int.fdiv x m=0 then xs else Int.fdiv x m::xs).map V.int)))):T (callF (n+1) 34 [.cell p,.int m]) σ Q:=by
 refine t_fun (f:=f_law_take) rfl rfl rfl ?_
 dsimp only [f_law_take]
 ext
 refine len_cell h ?_
 ext
 walk_at "m2"
 refine ⟨false,congrArg V.bool (decide_eq_false (by simp;lia)),?_⟩
 ext
 refine get_cell (k:=0) h (Int.le_refl 0) rfl ?_
 ext
 have hm0:m≠0:=by lia
 refine mod_int hm0 ?_
 ext
 refine get_cell (k:=0) h (Int.le_refl 0) rfl ?_
 ext
 refine fdiv_int hm0 (by lia) ?_
 ext
 refine set_cell (k:=0) h ⟨Int.le_refl 0,by simp⟩ ?_
 have hl:=(List.getElem?_eq_some_iff.mp h).1
 have h':(σ.set p (.list ((Int.fdiv x m::xs).map V.int)))[p]?=some (.list ((Int.fdiv x m::xs).map V.int)):=by simp [hl]
 show T _ (σ.set p (.list ((Int.fdiv x m::xs).map V.int))) _
 ext
 refine get_cell (k:=0) h' (Int.le_refl 0) rfl ?_
 ext
 walk_at "m2"
 by_cases hd:Int.fdiv x m=0
 ·rw [if_pos hd] at q
  refine ⟨true,congrArg V.bool (decide_eq_true hd),?_⟩
  ext
  refine t_pre (pre_cell h') ?_
  refine ⟨.inr rfl,?_⟩
  ext
  refine t_pre (pre_cell h') ?_
  refine ⟨rfl,?_⟩
  refine pop0_cell h' ?_
  rw [List.set_set]
  ext
  exact q
 ·rw [if_neg hd] at q
  refine ⟨false,congrArg V.bool (decide_eq_false hd),?_⟩
  ext
  exact q
structure Gr (σ σ':Mem):Prop where
 len:σ.length≤σ'.length
 kp:∀ i,i<σ.length→σ'[i]?=σ[i]?
theorem Gr.refl (σ:Mem):Gr σ σ:=⟨Nat.le_refl _,fun _ _=>rfl⟩
theorem Gr.trans {σ σ' σ'':Mem} (a:Gr σ σ') (b:Gr σ' σ''):Gr σ σ'':=⟨Nat.le_trans a.len b.len,fun i h=>(b.kp i (Nat.lt_of_lt_of_le h a.len)).trans (a.kp i h)⟩
theorem Gr.push (σ:Mem) (o:Ob):Gr σ (σ++[o]):=⟨by simp,fun i h=>List.getElem?_append_left h⟩
theorem Gr.set {σ σ':Mem} (a:Gr σ σ') {i:Nat} (h:σ.length≤i) (o:Ob):Gr σ (σ'.set i o):=⟨by rw [List.length_set];exact a.len,fun j hj=>by rw [List.getElem?_set_ne (by lia)];exact a.kp j hj⟩
theorem Gr.at {σ σ':Mem} (a:Gr σ σ') {i:Nat} {o:Ob} (h:σ[i]?=some o):σ'[i]?=some o:=(a.kp i (List.getElem?_eq_some_iff.mp h).1).trans h
theorem at_new (σ:Mem) (o:Ob):(σ++[o])[σ.length]?=some o:=by simp
theorem at_set {σ:Mem} {i:Nat} {o o':Ob} (h:σ[i]?=some o):(σ.set i o')[i]?=some o':=by
 have:=(List.getElem?_eq_some_iff.mp h).1
 simp [this]
theorem at_ne {σ:Mem} {i j:Nat} {o':Ob} (h:i≠j):(σ.set i o')[j]?=σ[j]?:=List.getElem?_set_ne h
noncomputable abbrev shV:V:=.inst 4 [.cell 1,.cell 2]
noncomputable abbrev refV (k:Int):V:=.inst 2 [.int k,.int 0]
noncomputable abbrev nameV (s:Str):V:=.inst 0 [.str s]
noncomputable abbrev strV (b:List UInt8):V:=.inst 1 [.byts b,.bool false]
noncomputable def simple:V→Bool
 | .none=>true|.bool _=>true|.int _=>true|.str _=>true|.list _=>true|.dict _=>true
 | .inst d _=>d != 2
 | _=>false
noncomputable def Der (tb:List (Int×V)) (v x:V):Prop:=(simple v=true∧x=v)∨∃ k,v=refV k∧ascI tb k=some (.tup [.int 0,x])∧simple x=true
theorem isRef {x:V} (hx:simple x=true) (σ:Mem):isKind x (.cls 2) σ=some (false,σ):=by
 cases x with
 | inst d xs=>
  have hd:(d == 2)=false:=by simpa [simple] using hx
  show some (d == 2,σ)=_
  rw [hd]
 | none=>rfl
 | bool _=>rfl
 | int _=>rfl
 | str _=>rfl
 | list _=>rfl
 | dict _=>rfl
 | _=>cases hx
theorem simple_noU {x:V} (hx:simple x=true):noU x=true:=by cases x <;> first|rfl|cases hx
section
variable {n:Nat} {σ:Mem} {Q:V→Mem→Prop} {tb:List (Int×V)} {v x:V}
theorem fetch_simple (hv:simple v=true) (q:Q v σ):T (callF (n+1) 0 [shV,v]) σ Q:=by
 have hu:=simple_noU hv
 refine t_fun (f:=f_Lookup_fetch) rfl rfl rfl ?_
 dsimp only [f_Lookup_fetch]
 ext
 refine rng_call (by decide) ?_
 refine for_rng (by decide) ?_
 refine loop_cons rfl ?_
 ext
 refine isi_call (isRef hv σ) ?_
 walk_at "m2"
 refine ⟨true,rfl,?_⟩
 ext
 exact q
theorem fetch_ref {k:Int} (h1:σ[1]?=some (.id tb)) (hk:ascI tb k=some (.tup [.int 0,x])) (hx:simple x=true) (q:Q x σ):T (callF (n+1) 0 [shV,refV k]) σ Q:=by
 have hu:=simple_noU hx
 refine t_fun (f:=f_Lookup_fetch) rfl rfl rfl ?_
 dsimp only [f_Lookup_fetch]
 ext
 refine rng_call (by decide) ?_
 refine for_rng (by decide) ?_
 refine loop_cons rfl ?_
 ext
 refine isi_call (b:=true) rfl ?_
 walk_at "m2"
 refine ⟨false,rfl,?_⟩
 ext
 refine .run (a:=.cell 1) (σ':=σ) rfl ?_
 refine t_pre (pre_id h1) ?_
 refine ⟨.inr rfl,?_⟩
 ext
 refine .run (a:=.int k) (σ':=σ) rfl ?_
 ext
 refine t_pre (pre_id h1) ?_
 refine ⟨rfl,?_⟩
 refine iget2 h1 ?_
 rw [hk]
 refine ⟨_,rfl,?_⟩
 ext
 refine .run (a:=.int 0) (σ':=σ) rfl ?_
 walk_at "m2"
 refine ⟨false,rfl,?_⟩
 ext
 refine loop_cons rfl ?_
 ext
 refine isi_call (isRef hx σ) ?_
 walk_at "m2"
 refine ⟨true,rfl,?_⟩
 ext
 exact q
theorem fetch_der (h1:σ[1]?=some (.id tb)) (hd:Der tb v x) (q:Q x σ):T (callF (n+1) 0 [shV,v]) σ Q:=by
 rcases hd with ⟨h,rfl⟩|⟨k,rfl,hk,hx⟩
 ·exact fetch_simple h q
 ·exact fetch_ref h1 hk hx q
theorem get_der {d:V} {es:List (Str×V)} {k:Str} (h1:σ[1]?=some (.id tb)) (hp:preM d σ=some (.D,σ)) (hr:rdDict d σ=some (es,σ)) (hi:notInst d=true) (hn:noU d=true) (hd:Der tb ((asc es k).getD .none) x) (q:Q x σ) :
  T (callF (n+2) 1 [shV,d,.str k]) σ Q:=by
 refine t_fun (f:=f_Lookup_get) rfl rfl rfl ?_
 dsimp only [f_Lookup_get]
 refine t_ret (t_methO (t_var rfl rfl ?_))
 refine ⟨_,_,_,rfl,rfl,?_⟩
 refine t_cons (t_meth (t_var rfl hn (t_pre hp ?_)))
 refine ⟨.inr rfl,?_⟩
 refine t_cons (t_var rfl rfl (t_nil (t_pre hp ?_)))
 refine ⟨rfl,dget1 hr hi (t_nil ?_)⟩
 exact fetch_der h1 hd q
theorem get_dic {es:List (Str×V)} {k:Str} (h1:σ[1]?=some (.id tb)) (hd:Der tb ((asc es k).getD .none) x) (q:Q x σ):T (callF (n+2) 1 [shV,.dict es,.str k]) σ Q:=get_der h1 rfl rfl rfl rfl hd q
theorem t_get {C:Calls} {ρ:Env'} {o:ME} {es:MEs} (h:T (ev C o ρ) σ fun ov σ=>ov=shV∧T (evs C es ρ) σ fun vs σ=>T (C 1 (shV::vs)) σ Q):T (ev C (.meth o (S "get") es) ρ) σ Q:=
 t_methO (h.mono fun ov σ ⟨e,h⟩=>⟨4,_,1,e,rfl,h⟩)
theorem t_fetch {C:Calls} {ρ:Env'} {o:ME} {es:MEs} (h:T (ev C o ρ) σ fun ov σ=>ov=shV∧T (evs C es ρ) σ fun vs σ=>T (C 0 (shV::vs)) σ Q):T (ev C (.meth o (S "fetch") es) ρ) σ Q:=
 t_methO (h.mono fun ov σ ⟨e,h⟩=>⟨4,_,0,e,rfl,h⟩)
end
noncomputable def byStrs:List (List UInt8):=[[],[97],[98],[99],[97,98,99],[97,98,99,100],[76,111,110,103],[97,46,98]]
noncomputable def txt (b:List UInt8):Str:=⟨(b.map UInt8.toNat).toArray⟩
section
variable {n:Nat} {σ:Mem} {Q:V→Mem→Prop} {b:List UInt8}
theorem text_ok (hb:b∈byStrs) (q:Q (.str (txt b)) σ):T (callF (n+2) 8 [.byts b]) σ Q:=by
 refine .run (a:=.str (txt b)) (σ':=σ) ?_ q
 simp only [byStrs,List.mem_cons,List.not_mem_nil,or_false] at hb
 rcases hb with rfl|rfl|rfl|rfl|rfl|rfl|rfl|rfl <;> rfl
theorem plain_ok (hb:b∈byStrs) (q:Q (.str (txt b)) σ):T (callF (n+1) 44 [strV b]) σ Q:=by
 refine .run (a:=.str (txt b)) (σ':=σ) ?_ q
 simp only [byStrs,List.mem_cons,List.not_mem_nil,or_false] at hb
 rcases hb with rfl|rfl|rfl|rfl|rfl|rfl|rfl|rfl <;> rfl
noncomputable abbrev places1:List (Str×V):=[S "read only",S "required",S "no export",S "multi line",S "password",S "no toggle to off"].zip [V.int 1,.int 2,.int 3,.int 13,.int 14,.int 15]
noncomputable abbrev places2:List (Str×V):=[S "radio",S "push",S "combo",S "edit",S "sort",S "multi select",S "comb"].zip [V.int 16,.int 17,.int 18,.int 19,.int 20,.int 22,.int 25]
theorem place_ok {σ:Mem} {Q:V→Mem→Prop} {w:Str} {p:Nat} (hw:(w,p)∈[(S "push",17),(S "radio",16),(S "combo",18),(S "edit",19),(S "in unison",26)]) (q:∀ σ',Gr σ σ'→Q (.int p) σ'):T (callF (n+1) 10 [.str w]) σ Q:=by
 refine t_fun (f:=f_flag_place) rfl rfl rfl ?_
 dsimp only [f_flag_place]
 refine t_asg (t_dict1 ?_)
 ext
 refine ⟨⟨rfl,by decide +kernel,by decide⟩,?_⟩
 ext
 refine t_pre (pre_sd (at_new σ _)) ?_
 refine ⟨.inr rfl,?_⟩
 refine t_cons (t_dict0 ?_)
 ext
 refine ⟨⟨rfl,by decide +kernel,by decide⟩,?_⟩
 ext
 refine t_pre (pre_sd (at_new σ _)) ?_
 refine ⟨rfl,?_⟩
 refine upd_sd (at_new σ _) (by decide) ?_
 ext
 have h2:=at_set (o':=Ob.sd (stoAll places1 places2)) (at_new σ (Ob.sd places1))
 refine set_sd h2 (by decide) ?_
 have g:Gr σ (((σ++[Ob.sd places1]).set σ.length (Ob.sd (stoAll places1 places2))).set σ.length (Ob.sd (sto (stoAll places1 places2) (S "in unison") (.int 26)))):=
  ((Gr.push σ _).set (Nat.le_refl _) _).set (Nat.le_refl _) _
 ext
 refine get_sd (v:=.int p) (at_set h2) ?_ (q _ g)
 simp only [List.mem_cons,Prod.mk.injEq,List.not_mem_nil,or_false] at hw
 rcases hw with ⟨rfl,rfl⟩|⟨rfl,rfl⟩|⟨rfl,rfl⟩|⟨rfl,rfl⟩|⟨rfl,rfl⟩ <;> kernel_rfl
end
inductive FTy|tx|ch|btn|sig
inductive Val|seven|name (s:Str)|str (b:List UInt8)|lst (bs:List (List UInt8))
inductive OptI|one (b:List UInt8)|two (b c:List UInt8)
structure Info where
 ft:Option FTy
 ff:Option Int
 v:Option Val
 ml:Bool
 opt:Option (List OptI)
noncomputable def FTy.enc:FTy→V
 | .tx=>nameV (S "Tx")|.ch=>nameV (S "Ch")|.btn=>nameV (S "Btn")|.sig=>nameV (S "Sig")
noncomputable def Val.enc:Val→V
 | .seven=>.int 7|.name s=>nameV s|.str b=>strV b|.lst bs=>.list (bs.map strV)
noncomputable def OptI.enc:OptI→V
 | .one b=>strV b|.two b c=>.list [strV b,strV c]
noncomputable def Val.ok:Val→Prop
 | .str b=>b∈byStrs
 | .lst bs=>bs.length<100∧∀ b∈bs,b∈byStrs
 | _=>True
noncomputable def OptI.ok:OptI→Prop
 | .one b=>b∈byStrs
 | .two b c=>b∈byStrs∧c∈byStrs
structure InfoOK (wl:Str→Option V) (i:Info):Prop where
 ft:wl (S "FT")=i.ft.map FTy.enc
 ff:wl (S "Ff")=i.ff.map V.int
 ffp:∀ f,i.ff=some f→0≤f
 v:wl (S "V")=i.v.map Val.enc
 vok:∀ v,i.v=some v→v.ok
 ml:wl (S "MaxLen")=if i.ml then some (.int 3) else none
 opt:wl (S "Opt")=i.opt.map fun os=>.list (os.map OptI.enc)
 ook:∀ os,i.opt=some os→os.length<100∧∀ o∈os,o.ok
noncomputable def flagI (f:Int) (p:Nat):Bool:=decide (Int.fmod (Int.fdiv f (2 ^ (p-1))) 2=1)
noncomputable def Info.flag (i:Info) (p:Nat):Bool:=flagI (i.ff.getD 0) p
noncomputable def Info.kind (i:Info):Str:=match i.ft with
 | none=>S ""
 | some .tx=>S "text"
 | some .ch=>S "choice"
 | some .sig=>S "signature"
 | some .btn=>if i.flag 17 then S "push" else if i.flag 16 then S "radio" else S "check"
theorem and_one {x:Int} (h:0≤x):Builtin.bitAnd x 1=Int.fmod x 2:=by
 rw [PyProof.Rows.bitAnd_pp h (by decide)]
 rw [show (1:Int).toNat=1 from rfl,Nat.and_one_is_mod]
 rw [Int.fmod_eq_emod_of_nonneg _ (by decide)]
 lia
section
variable {n:Nat} {σ:Mem} {Q:V→Mem→Prop} {tb:List (Int×V)} {es:List (Str×V)} {i:Info}
theorem flagset_ok {f:Int} {w:Str} {p:Nat} (hw:(w,p)∈[(S "push",17),(S "radio",16),(S "combo",18),(S "edit",19),(S "in unison",26)]) (hf:0≤f) (q:∀ σ',Gr σ σ'→Q (.bool (flagI f p)) σ'):T (callF (n+2) 11 [.int f,.str w]) σ Q:=by
 have hp:1≤p:=by
  simp only [List.mem_cons,Prod.mk.injEq,List.not_mem_nil,or_false] at hw
  rcases hw with ⟨_,rfl⟩|⟨_,rfl⟩|⟨_,rfl⟩|⟨_,rfl⟩|⟨_,rfl⟩ <;> decide
 refine t_fun (f:=f_flag_set) rfl rfl rfl ?_
 dsimp only [f_flag_set]
 ext
 refine place_ok hw fun σ' g=>?_
 ext
 refine T.run (a:=V.int ((p:Int)-1)) (σ':=σ') rfl ?_
 refine T.run (a:=V.int (Int.fdiv f (2 ^ (p-1)))) (σ':=σ') ?_ ?_
 ·show (if 0≤(p:Int)-1 then Mine.ret (V.int (Int.fdiv f (2 ^ ((p:Int)-1).toNat))) else fail) σ'=_
  rw [if_pos (by lia),show ((p:Int)-1).toNat=p-1 by lia]
  rfl
 ext
 refine T.run (a:=V.int (Int.fmod (Int.fdiv f (2 ^ (p-1))) 2)) (σ':=σ') ?_ ?_
 ·show some (V.int (Builtin.bitAnd (Int.fdiv f (2 ^ (p-1))) 1),σ')=_
  rw [and_one (Int.fdiv_nonneg hf (Int.le_of_lt (Int.pow_pos (by decide))))]
 ext
 walk_at "m2"
 exact q σ' g
theorem lawflag_ok {p:Nat} (hp:1≤p∧p≤29) (hi:InfoOK (asc es) i) (q:Q (.bool (i.flag p)) σ):T (callF (n+1) 42 [.dict es,.int p]) σ Q:=by
 refine t_fun (f:=f_law_flag) rfl rfl rfl ?_
 dsimp only [f_law_flag]
 ext
 refine dget2 rfl rfl ?_
 rw [hi.ff]
 have e:(Option.map V.int i.ff).getD (V.int ((0:Nat):Int))=.int (i.ff.getD 0):=by cases i.ff <;> rfl
 rw [e]
 ext
 refine T.run (a:=V.int ((p:Int)-1)) (σ':=σ) rfl ?_
 have h2:((2:Int) ^ (p-1)).natAbs<1073741824:=by
  rw [Int.natAbs_pow]
  exact Nat.lt_of_le_of_lt (Nat.pow_le_pow_right (by decide) (show p-1≤28 by lia)) (by decide)
 refine pow_int ⟨by lia,by lia,by decide⟩ ?_
 rw [show ((p:Int)-1).toNat=p-1 by lia]
 refine fdiv_int (Int.ne_of_gt (Int.pow_pos (by decide))) h2 ?_
 ext
 refine mod_int (by decide) ?_
 ext
 walk_at "m2"
 exact q
theorem lawkind_ok (hi:InfoOK (asc es) i) (q:Q (.str i.kind) σ):T (callF (n+2) 43 [.dict es]) σ Q:=by
 refine t_fun (f:=f_law_kind) rfl rfl rfl ?_
 dsimp only [f_law_kind]
 ext
 refine t_new (f:=i_Name) rfl rfl ?_
 dsimp only [i_Name]
 ext
 refine dget2 rfl rfl ?_
 rw [hi.ft]
 have pl:∀ (w k:Str),(decide (w=S "Btn"))=false→asc [(S "Tx",V.str (S "text")),(S "Ch",.str (S "choice")),(S "Sig",.str (S "signature"))] w=some (.str k)∨(asc [(S "Tx",V.str (S "text")),(S "Ch",.str (S "choice")),(S "Sig",.str (S "signature"))] w=none∧k=S "")→Q (.str k) σ→
   T (attrV (nameV w) (S "text")) σ fun v σ=>T (exs (callF (n+1)) (.cons (.ifs (.cmp .eq (.var 1) (.str (S "Btn"))) (.cons (.ret (.ife (.call (.glob 63) (.cons (.var 0) (.cons (.int 17) .nil))) (.str (S "push")) (.ife (.call (.glob 63) (.cons (.var 0) (.cons (.int 16) .nil))) (.str (S "radio")) (.str (S "check"))))) .nil) .nil)
    (.cons (.ret (.meth (.dict 0 [S "Tx",S "Ch",S "Sig"] (.cons (.str (S "text")) (.cons (.str (S "choice")) (.cons (.str (S "signature")) .nil)))) (S "get") (.cons (.var 1) (.cons (.str (S "")) .nil)))) .nil)) (([V.dict es]++List.replicate ([S "whole",S "sort"].length-1) V.unb).set 1 v)) σ fun r σ=>Q (valueOf r.1) σ:=by
  intro w k hw hk q
  refine T.run (a:=V.str w) (σ':=σ) rfl ?_
  ext
  walk_at "m2"
  refine ⟨false,congrArg V.bool hw,?_⟩
  ext
  refine t_dict0 ?_
  ext
  refine ⟨⟨rfl,by decide +kernel,by decide⟩,?_⟩
  ext
  refine dget2 rfl rfl ?_
  ext
  rcases hk with h|⟨h,rfl⟩
  ·show Q ((asc [(S "Tx",V.str (S "text")),(S "Ch",.str (S "choice")),(S "Sig",.str (S "signature"))] w).getD (.str (S ""))) σ
   rw [h];exact q
  ·show Q ((asc [(S "Tx",V.str (S "text")),(S "Ch",.str (S "choice")),(S "Sig",.str (S "signature"))] w).getD (.str (S ""))) σ
   rw [h];exact q
 have hk:i.kind=_:=rfl
 unfold Info.kind at q
 cases e:i.ft with
 | none=>
  rw [e] at q
  exact pl (S "") (S "") (by decide +kernel) (.inr ⟨by kernel_rfl,rfl⟩) q
 | some t=>
  rw [e] at q
  cases t with
  | tx=>exact pl (S "Tx") (S "text") (by decide +kernel) (.inl (by kernel_rfl)) q
  | ch=>exact pl (S "Ch") (S "choice") (by decide +kernel) (.inl (by kernel_rfl)) q
  | sig=>exact pl (S "Sig") (S "signature") (by decide +kernel) (.inl (by kernel_rfl)) q
  | btn=>
   refine T.run (a:=V.str (S "Btn")) (σ':=σ) rfl ?_
   ext
   walk_at "m2"
   refine ⟨true,congrArg V.bool (decide_eq_true rfl),?_⟩
   ext
   refine lawflag_ok (p:=17) (by decide) hi ?_
   refine ⟨_,rfl,?_⟩
   dsimp only at q
   cases e17:i.flag 17 with
   | true=>
    rw [e17] at q
    ext
    exact q
   | false=>
    rw [e17] at q
    ext
    refine lawflag_ok (p:=16) (by decide) hi ?_
    refine ⟨_,rfl,?_⟩
    cases e16:i.flag 16 with
    | true=>
     rw [e16] at q;ext
     exact q
    | false=>
     rw [e16] at q;ext
     exact q
end
section
variable {n:Nat} {σ:Mem} {Q:V→Mem→Prop} {tb:List (Int×V)} {es:List (Str×V)} {i:Info}
theorem der_simple {tb:List (Int×V)} {v:V} (h:simple v=true):Der tb v v:=.inl ⟨h,rfl⟩
theorem ftsimple (i:Info):simple ((i.ft.map FTy.enc).getD .none)=true:=by
 cases i.ft with
 | none=>rfl
 | some t=>cases t <;> rfl
theorem ffsimple (i:Info):simple ((i.ff.map V.int).getD .none)=true:=by cases i.ff <;> rfl
theorem flags_ok (h1:σ[1]?=some (.id tb)) (hi:InfoOK (asc es) i) (q:Q (.int (i.ff.getD 0)) σ):T (callF (n+4) 13 [shV,.dict es]) σ Q:=by
 refine t_fun (f:=f_flags_of) rfl rfl rfl ?_
 dsimp only [f_flags_of]
 ext
 refine t_fun (f:=f_whole_in) rfl rfl rfl ?_
 dsimp only [f_whole_in]
 refine t_asg (t_get (t_var rfl rfl ?_))
 refine ⟨rfl,?_⟩
 ext
 refine get_dic h1 (by rw [hi.ff];exact der_simple (ffsimple i)) ?_
 cases e:i.ff with
 | none=>
  rw [e] at q
  ext
  refine isi_call (b:=false) rfl ?_
  refine ⟨false,rfl,?_⟩
  dsimp only
  refine ⟨false,rfl,?_⟩
  ext
  walk_at "m2"
  refine ⟨true,rfl,?_⟩
  ext
  exact q
 | some f=>
  rw [e] at q
  ext
  refine isi_call (b:=true) rfl ?_
  refine ⟨true,rfl,?_⟩
  dsimp only
  ext
  refine isi_call (b:=false) rfl ?_
  walk_at "m2"
  refine ⟨true,rfl,?_⟩
  dsimp only
  ext
  refine ⟨true,rfl,?_⟩
  ext
  walk_at "m2"
  refine ⟨false,rfl,?_⟩
  ext
  exact q
theorem maxlen_ok (h1:σ[1]?=some (.id tb)) (hi:InfoOK (asc es) i) (q:Q (if i.ml then .int 3 else .none) σ):T (callF (n+3) 12 [shV,.dict es,.str (S "MaxLen")]) σ Q:=by
 refine t_fun (f:=f_whole_in) rfl rfl rfl ?_
 dsimp only [f_whole_in]
 refine t_asg (t_get (t_var rfl rfl ?_))
 refine ⟨rfl,?_⟩
 ext
 cases e:i.ml with
 | false=>
  rw [e] at q
  refine get_dic h1 (x:=.none) (by rw [hi.ml,e];exact der_simple rfl) ?_
  ext
  refine isi_call (b:=false) rfl ?_
  refine ⟨false,rfl,?_⟩
  dsimp only
  refine ⟨false,rfl,?_⟩
  ext
  exact q
 | true=>
  rw [e] at q
  refine get_dic h1 (x:=.int 3) (by rw [hi.ml,e];exact der_simple rfl) ?_
  ext
  refine isi_call (b:=true) rfl ?_
  refine ⟨true,rfl,?_⟩
  dsimp only
  ext
  refine isi_call (b:=false) rfl ?_
  walk_at "m2"
  refine ⟨true,rfl,?_⟩
  dsimp only
  ext
  refine ⟨true,rfl,?_⟩
  ext
  exact q
theorem hasflag_ok {w:Str} {p:Nat} {xs:List V} (hx:fieldAt (clsFields 5) xs (S "head")=some (.dict es)) (hw:(w,p)∈[(S "push",17),(S "radio",16),(S "combo",18),(S "edit",19),(S "in unison",26)])
  (h1:σ[1]?=some (.id tb)) (hi:InfoOK (asc es) i) (q:∀ σ',Gr σ σ'→Q (.bool (i.flag p)) σ'):T (callF (n+5) 14 [shV,.inst 5 xs,.str w]) σ Q:=by
 have hf:0≤i.ff.getD 0:=by
  cases e:i.ff with
  | none=>exact Int.le_refl 0
  | some f=>exact hi.ffp f e
 refine t_fun (f:=f_has_flag) rfl rfl rfl ?_
 dsimp only [f_has_flag]
 ext
 refine T.lft hx ?_
 ext
 refine flags_ok h1 hi ?_
 ext
 exact flagset_ok hw hf q
theorem kind_ok (h1:σ[1]?=some (.id tb)) (hi:InfoOK (asc es) i) (q:∀ σ',Gr σ σ'→Q (.str i.kind) σ'):T (callF (n+5) 19 [shV,.dict es]) σ Q:=by
 have hf:0≤i.ff.getD 0:=by
  cases e:i.ff with
  | none=>exact Int.le_refl 0
  | some f=>exact hi.ffp f e
 refine t_fun (f:=f_kind_word) rfl rfl rfl ?_
 dsimp only [f_kind_word]
 refine t_asg (t_get (t_var rfl rfl ?_))
 refine ⟨rfl,?_⟩
 ext
 refine get_dic h1 (by rw [hi.ft];exact der_simple (ftsimple i)) ?_
 have pl:∀ (w k:Str) (ρ:Env'),ρ[3]?=some (.str w)→(decide (w=S "Btn"))=false→asc [(S "Tx",V.str (S "text")),(S "Ch",.str (S "choice")),(S "Sig",.str (S "signature"))] w=some (.str k)∨(asc [(S "Tx",V.str (S "text")),(S "Ch",.str (S "choice")),(S "Sig",.str (S "signature"))] w=none∧k=S "")→Q (.str k) σ→
   T (exs (callF (n+4)) (.cons (.ifs (.cmp .eq (.var 3) (.str (S "Btn"))) (.cons (.asg (.one 4) (.call (.glob 34) (.cons (.var 0) (.cons (.var 1) .nil)))) (.cons (.ifs (.call (.glob 32) (.cons (.var 4) (.cons (.str (S "push")) .nil))) (.cons (.ret (.str (S "push"))) .nil) .nil)
    (.cons (.ret (.ife (.call (.glob 32) (.cons (.var 4) (.cons (.str (S "radio")) .nil))) (.str (S "radio")) (.str (S "check")))) .nil))) .nil)
    (.cons (.ret (.meth (.dict 0 [S "Tx",S "Ch",S "Sig"] (.cons (.str (S "text")) (.cons (.str (S "choice")) (.cons (.str (S "signature")) .nil)))) (S "get") (.cons (.var 3) (.cons (.str (S "")) .nil)))) .nil)) ρ) σ fun r σ=>Q (valueOf r.1) σ:=by
  intro w k ρ hρ hw hk q
  refine t_ifs (t_cmp (t_var hρ rfl ?_))
  ext
  walk_at "m2"
  refine ⟨false,congrArg V.bool hw,?_⟩
  ext
  refine t_dict0 ?_
  ext
  refine ⟨⟨rfl,by decide +kernel,by decide⟩,?_⟩
  ext
  refine t_var hρ rfl ?_
  ext
  refine dget2 rfl rfl ?_
  rcases hk with h|⟨h,rfl⟩
  ·show Q ((asc [(S "Tx",V.str (S "text")),(S "Ch",.str (S "choice")),(S "Sig",.str (S "signature"))] w).getD (.str (S ""))) σ
   rw [h];exact q
  ·show Q ((asc [(S "Tx",V.str (S "text")),(S "Ch",.str (S "choice")),(S "Sig",.str (S "signature"))] w).getD (.str (S ""))) σ
   rw [h];exact q
 unfold Info.kind at q
 cases e:i.ft with
 | none=>
  rw [e] at q
  ext
  refine isi_call (b:=false) rfl ?_
  refine ⟨false,rfl,?_⟩
  refine t_str ?_
  refine pl (S "") (S "") _ ?_ (by decide +kernel) (.inr ⟨by kernel_rfl,rfl⟩) (q σ (.refl σ))
  rfl
 | some t=>
  rw [e] at q
  cases t with
  | btn=>
   ext
   refine isi_call (b:=true) rfl ?_
   refine ⟨true,rfl,?_⟩
   ext
   refine T.run (a:=V.str (S "Btn")) (σ':=σ) rfl ?_
   ext
   walk_at "m2"
   refine ⟨true,congrArg V.bool (decide_eq_true rfl),?_⟩
   ext
   refine flags_ok h1 hi ?_
   ext
   refine flagset_ok (p:=17) (by simp) hf fun σ' g=>?_
   refine ⟨_,rfl,?_⟩
   dsimp only at q
   cases e17:i.flag 17 with
   | true=>
    rw [show flagI (i.ff.getD 0) 17=true from e17]
    rw [e17] at q
    ext
    exact q σ' g
   | false=>
    rw [show flagI (i.ff.getD 0) 17=false from e17]
    rw [e17] at q
    ext
    refine flagset_ok (p:=16) (by simp) hf fun σ'' g'=>?_
    refine ⟨_,rfl,?_⟩
    cases e16:i.flag 16 with
    | true=>
     rw [show flagI (i.ff.getD 0) 16=true from e16];rw [e16] at q;ext
     exact q σ'' (g.trans g')
    | false=>
     rw [show flagI (i.ff.getD 0) 16=false from e16];rw [e16] at q;ext
     exact q σ'' (g.trans g')
  | tx=>
   ext
   refine isi_call (b:=true) rfl ?_
   refine ⟨true,rfl,?_⟩
   ext
   refine T.run (a:=V.str (S "Tx")) (σ':=σ) rfl ?_
   refine pl (S "Tx") (S "text") _ ?_ (by decide +kernel) (.inl (by kernel_rfl)) (q σ (.refl σ))
   rfl
  | ch=>
   ext
   refine isi_call (b:=true) rfl ?_
   refine ⟨true,rfl,?_⟩
   ext
   refine T.run (a:=V.str (S "Ch")) (σ':=σ) rfl ?_
   refine pl (S "Ch") (S "choice") _ ?_ (by decide +kernel) (.inl (by kernel_rfl)) (q σ (.refl σ))
   rfl
  | sig=>
   ext
   refine isi_call (b:=true) rfl ?_
   refine ⟨true,rfl,?_⟩
   ext
   refine T.run (a:=V.str (S "Sig")) (σ':=σ) rfl ?_
   refine pl (S "Sig") (S "signature") _ ?_ (by decide +kernel) (.inl (by kernel_rfl)) (q σ (.refl σ))
   rfl
end
inductive KD|none|text|choice|sig|push|radio|check
noncomputable def KD.str:KD→Str
 | .none=>S "" | .text=>S "text" | .choice=>S "choice" | .sig=>S "signature" | .push=>S "push" | .radio=>S "radio" | .check=>S "check"
noncomputable def KD.isBtn:KD→Bool
 | .radio=>true|.check=>true|_=>false
noncomputable def KD.isCh:KD→Bool
 | .choice=>true|_=>false
noncomputable def KD.isTx:KD→Bool
 | .text=>true|_=>false
noncomputable def KD.isNo:KD→Bool
 | .none=>true|_=>false
noncomputable def KD.isRad:KD→Bool
 | .radio=>true|_=>false
noncomputable def Info.kd (i:Info):KD:=match i.ft with
 | none=>.none
 | some .tx=>.text
 | some .ch=>.choice
 | some .sig=>.sig
 | some .btn=>if i.flag 17 then .push else if i.flag 16 then .radio else .check
theorem kind_eq (i:Info):i.kind=i.kd.str:=by
 unfold Info.kind Info.kd
 cases i.ft with
 | none=>rfl
 | some t=>
  cases t with
  | btn=>
   dsimp only
   cases i.flag 17 with
   | true=>rfl
   | false=>cases i.flag 16 <;> rfl
  | _=>rfl
theorem k_btn (k:KD) (σ:Mem):cmpV .in (.str k.str) (.tup [.str (S "check"),.str (S "radio")]) σ=some (k.isBtn,σ):=by cases k <;> kernel_rfl
theorem k_ct (k:KD) (σ:Mem):cmpV .in (.str k.str) (.tup [.str (S "choice"),.str (S "text")]) σ=some (k.isCh || k.isTx,σ):=by cases k <;> kernel_rfl
theorem k_tc (k:KD) (σ:Mem):cmpV .in (.str k.str) (.tup [.str (S "text"),.str (S "choice")]) σ=some (k.isCh || k.isTx,σ):=by cases k <;> kernel_rfl
theorem k_ch (k:KD) (σ:Mem):cmpV .eq (.str k.str) (.str (S "choice")) σ=some (k.isCh,σ):=by cases k <;> kernel_rfl
theorem k_tx (k:KD) (σ:Mem):cmpV .eq (.str k.str) (.str (S "text")) σ=some (k.isTx,σ):=by cases k <;> kernel_rfl
theorem k_no (k:KD) (σ:Mem):cmpV .eq (.str k.str) (.str (S "")) σ=some (k.isNo,σ):=by cases k <;> kernel_rfl
theorem k_rad (k:KD) (σ:Mem):cmpV .eq (.str k.str) (.str (S "radio")) σ=some (k.isRad,σ):=by cases k <;> kernel_rfl
noncomputable def oStr:Option Str→V
 | none=>.none
 | some s=>.str s
noncomputable def plainV:Option Val→V
 | some (.str b)=>.str (txt b)
 | _=>.none
noncomputable def stOf:Option Val→Str
 | some (.name s)=>s
 | _=>S "Off"
noncomputable def valOf (k:KD) (v:Option Val):V:=if k.isBtn then .str (stOf v) else if k.isCh then (match v with
 | some (.lst bs)=>.list (bs.map fun b=>V.str (txt b))
 | v=>plainV v) else if k.isTx then plainV v else .none
noncomputable def valD (v:Option Val):V:=match v with
 | some v=>v.enc
 | none=>.none
section
variable {C:Calls} {ρ:Env'} {σ:Mem} {Qs:List V→Mem→Prop} {el:Env'→M V} {i:Nat} {f:V→V}
theorem comp_map:∀ {xs:List V} {Qs:List V→Mem→Prop},(∀ x∈xs,∀ Q:V→Mem→Prop,Q (f x) σ→T (el (ρ.set i x)) σ Q)→Qs (xs.map f) σ→T (loopC (cnd C .nil) el (.one i) ρ xs) σ Qs
 | [],_,_,q=>comp_nil q
 | x::xs,Qs,h,q=>comp_cons rfl (cnd_nil (h x (.head _) _ (comp_map (xs:=xs) (fun y hy=>h y (.tail _ hy)) q)))
theorem comp_grow:∀ {xs:List V} {σ:Mem} {Qs:List V→Mem→Prop},(∀ x∈xs,∀ σ',Gr σ σ'→∀ Q:V→Mem→Prop,(∀ σ'',Gr σ' σ''→Q (f x) σ'')→T (el (ρ.set i x)) σ' Q)→(∀ σ',Gr σ σ'→Qs (xs.map f) σ')→T (loopC (cnd C .nil) el (.one i) ρ xs) σ Qs
 | [],σ,_,_,q=>comp_nil (q σ (.refl σ))
 | x::xs,σ,Qs,h,q=>comp_cons rfl (cnd_nil (h x (.head _) σ (.refl σ) _ fun σ' g=>comp_grow (xs:=xs) (fun y hy σ'' g'=>h y (.tail _ hy) σ'' (g.trans g')) fun σ'' g'=>q σ'' (g.trans g')))
theorem comp_filter {p:V→Bool} {cs:MEs}:∀ {xs:List V} {Qs:List V→Mem→Prop},(∀ x∈xs,∀ B:Bool→Mem→Prop,B (p x) σ→T (cnd C cs (ρ.set i x)) σ B)→(∀ x∈xs,∀ Q:V→Mem→Prop,Q (f x) σ→T (el (ρ.set i x)) σ Q)→Qs ((xs.filter p).map f) σ→T (loopC (cnd C cs) el (.one i) ρ xs) σ Qs
 | [],_,_,_,q=>comp_nil q
 | x::xs,Qs,hc,h,q=>comp_cons rfl (hc x (.head _) _ (by
  rw [List.filter_cons] at q
  cases e:p x with
  | true=>
   rw [e,if_pos rfl] at q
   exact h x (.head _) _ (comp_filter (xs:=xs) (fun y hy=>hc y (.tail _ hy)) (fun y hy=>h y (.tail _ hy)) q)
  | false=>
   rw [e,if_neg Bool.false_ne_true] at q
   exact comp_filter (xs:=xs) (fun y hy=>hc y (.tail _ hy)) (fun y hy=>h y (.tail _ hy)) q))
end
section
variable {n:Nat} {σ:Mem} {Q:V→Mem→Prop} {tb:List (Int×V)} {es:List (Str×V)} {i:Info}
theorem ownname_ok {b:Option (List UInt8)} (h1:σ[1]?=some (.id tb)) (hb:asc es (S "T")=b.map strV) (hs:∀ c,b=some c→c∈byStrs) (q:Q (oStr (b.map txt)) σ):T (callF (n+3) 17 [shV,.dict es]) σ Q:=by
 refine t_fun (f:=f_own_name) rfl rfl rfl ?_
 dsimp only [f_own_name]
 refine t_asg (t_get (t_var rfl rfl ?_))
 refine ⟨rfl,?_⟩
 ext
 cases b with
 | none=>
  refine get_dic h1 (x:=.none) (by rw [hb];exact der_simple rfl) ?_
  ext
  refine isi_call (b:=false) rfl ?_
  refine ⟨false,rfl,?_⟩
  ext
  exact q
 | some b=>
  refine get_dic h1 (x:=strV b) (by rw [hb];exact der_simple rfl) ?_
  ext
  refine isi_call (b:=true) rfl ?_
  refine ⟨true,rfl,?_⟩
  ext
  refine T.run (a:=V.byts b) (σ':=σ) rfl ?_
  ext
  exact text_ok (hs b rfl) q
noncomputable def longer (a b:Option Str):Option Str:=match b with
 | none=>a
 | some p=>some (match a with
  | none=>p
  | some m=>m++S "."++p)
theorem longer_ok {a b:Option Str} (hs:∀ x y,a=some x→b=some y→x.cps.size+(S ".").cps.size<cap∧(x++S ".").cps.size+y.cps.size<cap) (q:Q (oStr (longer a b)) σ):T (callF (n+1) 18 [oStr a,oStr b]) σ Q:=by
 cases b with
 | none=>
  cases a <;> exact .run rfl q
 | some y=>
  cases a with
  | none=>exact .run rfl q
  | some x=>
   refine t_fun (f:=f_longer_name) rfl rfl rfl ?_
   dsimp only [f_longer_name]
   ext
   walk_at "m2"
   refine ⟨false,rfl,?_⟩
   ext
   walk_at "m2"
   refine ⟨false,rfl,?_⟩
   ext
   obtain ⟨h1,h2⟩:=hs x y rfl rfl
   refine add_str h1 ?_
   ext
   refine add_str h2 ?_
   exact q
end
section
variable {n:Nat} {σ:Mem} {Q:V→Mem→Prop} {tb:List (Int×V)} {es:List (Str×V)} {i:Info}
theorem valD_of (v:Option Val):(v.map Val.enc).getD .none=valD v:=by cases v <;> rfl
theorem valD_simple (v:Option Val):simple (valD v)=true:=by
 cases v with
 | none=>rfl
 | some v=>cases v <;> rfl
theorem textin_ok {v:Option Val} (hv:∀ x,v=some x→x.ok) (q:Q (plainV v) σ):T (callF (n+3) 25 [shV,valD v]) σ Q:=by
 have hu:=simple_noU (valD_simple v)
 refine t_fun (f:=f_text_in) rfl rfl rfl ?_
 dsimp only [f_text_in]
 refine t_asg (t_fetch (t_var rfl rfl ?_))
 refine ⟨rfl,?_⟩
 ext
 refine fetch_simple (valD_simple v) ?_
 ext
 have no:isKind (valD v) (.cls 1) σ=some (false,σ)→plainV v=.none→T (biCall .isinstance [valD v,.cls 1]) σ fun x σ=>∃ q,x=.bool q∧T (ev (callF (n+2)) (match q with
   | true=>.call (.glob 29) (.cons (.attr (.var 1) (S "octets")) .nil)
   | false=>.none) (([shV,valD v]++List.replicate ([S "shelf",S "value"].length-2) V.unb).set 1 (valD v))) σ fun v σ=>Q v σ:=fun h e=>by
  refine isi_call h ?_
  refine ⟨false,rfl,?_⟩
  refine t_none ?_
  rw [← e];exact q
 cases v with
 | none=>exact no rfl rfl
 | some x=>
  cases x with
  | str b=>
   refine isi_call (b:=true) rfl ?_
   refine ⟨true,rfl,?_⟩
   ext
   refine T.run (a:=V.byts b) (σ':=σ) rfl ?_
   ext
   exact text_ok (hv _ rfl) q
  | _=>exact no rfl rfl
theorem statein_ok {v:Option Val} (q:Q (.str (stOf v)) σ):T (callF (n+2) 26 [shV,valD v]) σ Q:=by
 have hu:=simple_noU (valD_simple v)
 refine t_fun (f:=f_state_in) rfl rfl rfl ?_
 dsimp only [f_state_in]
 refine t_asg (t_fetch (t_var rfl rfl ?_))
 refine ⟨rfl,?_⟩
 ext
 refine fetch_simple (valD_simple v) ?_
 ext
 have no:isKind (valD v) (.cls 0) σ=some (false,σ)→stOf v=S "Off"→T (biCall .isinstance [valD v,.cls 0]) σ fun x σ=>∃ q,x=.bool q∧T (ev (callF (n+1)) (match q with
   | true=>.attr (.var 1) (S "text")
   | false=>.glob 24) (([shV,valD v]++List.replicate ([S "shelf",S "value"].length-2) V.unb).set 1 (valD v))) σ fun v σ=>Q v σ:=fun h e=>by
  refine isi_call h ?_
  refine ⟨false,rfl,?_⟩
  refine t_glob rfl ?_
  rw [← e];exact q
 cases v with
 | none=>exact no rfl rfl
 | some x=>
  cases x with
  | name s=>
   refine isi_call (b:=true) rfl ?_
   refine ⟨true,rfl,?_⟩
   ext
   refine T.run (a:=V.str s) (σ':=σ) rfl ?_
   exact q
  | _=>exact no rfl rfl
theorem lawplain_ok {v:Option Val} (hv:∀ x,v=some x→x.ok) (q:Q (plainV v) σ):T (callF (n+1) 44 [valD v]) σ Q:=by
 cases v with
 | none=>exact .run rfl q
 | some x=>
  cases x with
  | str b=>exact plain_ok (hv _ rfl) q
  | seven=>exact .run rfl q
  | name s=>exact .run rfl q
  | lst bs=>exact .run rfl q
theorem isList_valD (v:Option Val) (σ:Mem):isKind (valD v) (.bi .list) σ=some ((match v with|some (.lst _)=>true|_=>false),σ):=by
 cases v with
 | none=>rfl
 | some x=>cases x <;> rfl
theorem valuein_ok {k:KD} {xs:List V} (h1:σ[1]?=some (.id tb)) (hx:fieldAt (clsFields 5) xs (S "head")=some (.dict es)) (hk:fieldAt (clsFields 5) xs (S "kind")=some (.str k.str)) (hi:InfoOK (asc es) i) (q:Q (valOf k i.v) σ) :
  T (callF (n+4) 27 [shV,.inst 5 xs,.str (S "V")]) σ Q:=by
 have hu:=simple_noU (valD_simple i.v)
 refine t_fun (f:=f_value_in) rfl rfl rfl ?_
 dsimp only [f_value_in]
 ext
 refine T.lft hk ?_
 ext
 refine T.run (k_btn k σ) ?_
 unfold valOf at q
 cases hb:k.isBtn with
 | true=>
  rw [hb,if_pos rfl] at q
  refine ⟨true,rfl,?_⟩
  ext
  refine T.lft hx ?_
  ext
  refine dget1 rfl rfl ?_
  rw [hi.v,valD_of]
  ext
  exact statein_ok (t_contr q)
 | false=>
  rw [hb,if_neg Bool.false_ne_true] at q
  refine ⟨false,rfl,?_⟩
  refine t_end (t_cont (t_asg (t_get (t_var rfl rfl ?_))))
  refine ⟨rfl,?_⟩
  ext
  refine T.lft hx ?_
  ext
  refine get_dic h1 (by rw [hi.v,valD_of];exact der_simple (valD_simple i.v)) ?_
  refine t_ifs (t_and (t_and_cons ?_))
  ext
  refine T.lft hk ?_
  ext
  refine T.run (k_ch k σ) ?_
  have tail:(k.isCh=true→∀ bs,i.v≠some (.lst bs))→T (exs (callF (n+3)) (.cons (.ret (.ife (.cmp .in (.attr (.var 1) (S "kind")) (.tup (.cons (.str (S "choice")) (.cons (.str (S "text")) .nil)))) (.call (.glob 46) (.cons (.var 0) (.cons (.var 3) .nil))) .none)) .nil) (([shV,V.inst 5 xs,V.str (S "V")]++List.replicate ([S "shelf",S "leaf",S "key",S "value",S "part"].length-3) V.unb).set 3 (valD i.v))) σ fun r σ=>Q (valueOf r.1) σ:=fun hno=>by
   ext
   refine T.lft hk ?_
   ext
   refine T.run (k_ct k σ) ?_
   cases hc:k.isCh with
   | true=>
    rw [hc,if_pos rfl] at q
    refine ⟨true,rfl,?_⟩
    ext
    refine textin_ok hi.vok ?_
    have hne:=hno hc
    cases hv:i.v with
    | none=>rw [hv] at q;exact q
    | some x=>
     rw [hv] at q
     cases x with
     | lst bs=>exact absurd hv (hne bs)
     | _=>exact q
   | false=>
    rw [hc,if_neg Bool.false_ne_true] at q
    cases ht:k.isTx with
    | true=>
     rw [ht,if_pos rfl] at q
     refine ⟨true,rfl,?_⟩
     ext
     exact textin_ok hi.vok q
    | false=>
     rw [ht,if_neg Bool.false_ne_true] at q
     refine ⟨false,rfl,?_⟩
     ext
     exact q
  refine ⟨k.isCh,rfl,?_⟩
  cases hc:k.isCh with
  | false=>
   dsimp only
   refine ⟨false,rfl,?_⟩
   refine t_end (t_cont ?_)
   exact tail fun h=>by rw [hc] at h;cases h
  | true=>
   dsimp only
   ext
   refine isi_call (isList_valD i.v σ) ?_
   cases hv:i.v with
   | none=>
    refine ⟨false,rfl,?_⟩
    dsimp only
    refine ⟨false,rfl,?_⟩
    refine t_end (t_cont ?_)
    rw [← hv]
    exact tail fun _ bs=>by rw [hv];nofun
   | some x=>
    cases x with
    | lst bs=>
     refine ⟨true,rfl,?_⟩
     dsimp only
     ext
     refine ⟨true,rfl,?_⟩
     ext
     have hok:=hi.vok _ hv
     rw [hc,if_pos rfl,hv] at q
     show T (itemsOf (.list (bs.map strV))) σ _
     refine items_list ?_
     refine comp_map (f:=fun x=>match x with|.inst _ [.byts b,_]=>.str (txt b)|v=>v) (fun x hx Q hq=>?_) ?_
     ·obtain ⟨b,hb,rfl⟩:=List.mem_map.mp hx
      ext
      exact textin_ok (v:=some (.str b)) (fun x e=>by cases e;exact hok.2 b hb) hq
     ·refine mkl (by rw [List.length_map,List.length_map];have:=hok.1;unfold cap;lia) ?_
      refine t_contr ?_
      rw [List.map_map]
      exact q
    | _=>
     refine ⟨false,rfl,?_⟩
     dsimp only
     refine ⟨false,rfl,?_⟩
     refine t_end (t_cont ?_)
     rw [← hv]
     exact tail fun _ bs=>by rw [hv];nofun
end
section
variable {n:Nat} {σ:Mem} {Q:V→Mem→Prop} {tb:List (Int×V)} {es:List (Str×V)} {i:Info}
theorem isName_valD (v:Option Val) (σ:Mem):isKind (valD v) (.cls 0) σ=some ((match v with|some (.name _)=>true|_=>false),σ):=by
 cases v with
 | none=>rfl
 | some x=>cases x <;> rfl
theorem lawvalue_ok (hi:InfoOK (asc es) i) (q:Q (valOf i.kd i.v) σ):T (callF (n+3) 45 [.dict es,.str (S "V")]) σ Q:=by
 have hu:=simple_noU (valD_simple i.v)
 refine t_fun (f:=f_law_value) rfl rfl rfl ?_
 dsimp only [f_law_value]
 ext
 refine lawkind_ok hi ?_
 ext
 refine dget1 rfl rfl ?_
 rw [hi.v,valD_of,kind_eq]
 ext
 refine ⟨_,rfl,?_⟩
 ext
 refine T.run (k_btn i.kd σ) ?_
 unfold valOf at q
 cases hb:i.kd.isBtn with
 | true=>
  rw [hb,if_pos rfl] at q
  refine ⟨true,rfl,?_⟩
  ext
  refine isi_call (isName_valD i.v σ) ?_
  refine ⟨_,rfl,?_⟩
  cases hv:i.v with
  | none=>
   rw [hv] at q
   ext
   exact q
  | some x=>
   rw [hv] at q
   cases x with
   | name s=>
    ext
    refine T.run (a:=V.str s) (σ':=σ) rfl ?_
    exact t_contr q
   | _=>
    ext
    exact q
 | false=>
  rw [hb,if_neg Bool.false_ne_true] at q
  refine ⟨false,rfl,?_⟩
  ext
  refine T.run (k_ch i.kd σ) ?_
  have tail:(i.kd.isCh=true→∀ bs,i.v≠some (.lst bs))→T (exs (callF (n+2)) (.cons (.ret (.ife (.cmp .in (.var 2) (.tup (.cons (.str (S "text")) (.cons (.str (S "choice")) .nil)))) (.call (.glob 65) (.cons (.var 3) .nil)) .none)) .nil) ((([V.dict es,V.str (S "V")]++List.replicate ([S "whole",S "key",S "kind",S "value",S "one"].length-2) V.unb).set 2 (.str i.kd.str)).set 3 (valD i.v))) σ fun r σ=>Q (valueOf r.1) σ:=fun hno=>by
   ext
   refine T.run (k_tc i.kd σ) ?_
   cases hc:i.kd.isCh with
   | true=>
    rw [hc,if_pos rfl] at q
    refine ⟨true,rfl,?_⟩
    ext
    refine lawplain_ok hi.vok ?_
    have hne:=hno hc
    cases hv:i.v with
    | none=>rw [hv] at q;exact q
    | some x=>
     rw [hv] at q
     cases x with
     | lst bs=>exact absurd hv (hne bs)
     | _=>exact q
   | false=>
    rw [hc,if_neg Bool.false_ne_true] at q
    cases ht:i.kd.isTx with
    | true=>
     rw [ht,if_pos rfl] at q
     refine ⟨true,rfl,?_⟩
     ext
     exact lawplain_ok hi.vok q
    | false=>
     rw [ht,if_neg Bool.false_ne_true] at q
     refine ⟨false,rfl,?_⟩
     ext
     exact q
  refine ⟨i.kd.isCh,rfl,?_⟩
  cases hc:i.kd.isCh with
  | false=>
   dsimp only
   refine ⟨false,rfl,?_⟩
   refine t_end (t_cont ?_)
   exact tail fun h=>by rw [hc] at h;cases h
  | true=>
   dsimp only
   ext
   refine isi_call (isList_valD i.v σ) ?_
   cases hv:i.v with
   | none=>
    refine ⟨false,rfl,?_⟩
    dsimp only
    refine ⟨false,rfl,?_⟩
    refine t_end (t_cont ?_)
    rw [← hv]
    exact tail fun _ bs=>by rw [hv];nofun
   | some x=>
    cases x with
    | lst bs=>
     refine ⟨true,rfl,?_⟩
     dsimp only
     ext
     refine ⟨true,rfl,?_⟩
     ext
     have hok:=hi.vok _ hv
     rw [hc,if_pos rfl,hv] at q
     show T (itemsOf (.list (bs.map strV))) σ _
     refine items_list ?_
     refine comp_map (f:=fun x=>match x with|.inst _ [.byts b,_]=>.str (txt b)|v=>v) (fun x hx Q hq=>?_) ?_
     ·obtain ⟨b,hb,rfl⟩:=List.mem_map.mp hx
      ext
      exact lawplain_ok (v:=some (.str b)) (fun x e=>by cases e;exact hok.2 b hb) hq
     ·refine mkl (by rw [List.length_map,List.length_map];have:=hok.1;unfold cap;lia) ?_
      refine t_contr ?_
      rw [List.map_map]
      exact q
    | _=>
     refine ⟨false,rfl,?_⟩
     dsimp only
     refine ⟨false,rfl,?_⟩
     refine t_end (t_cont ?_)
     rw [← hv]
     exact tail fun _ bs=>by rw [hv];nofun
theorem row_ok {k:Str} {xs:List V} (h1:σ[1]?=some (.id tb)) (hd:Der tb ((asc es k).getD .none) (.list xs)) (q:Q (.list xs) σ):T (callF (n+3) 16 [shV,.dict es,.str k]) σ Q:=by
 refine t_fun (f:=f_row_in) rfl rfl rfl ?_
 dsimp only [f_row_in]
 refine t_asg (t_get (t_var rfl rfl ?_))
 refine ⟨rfl,?_⟩
 ext
 refine get_dic h1 hd ?_
 ext
 walk_at "m2"
 refine ⟨false,rfl,?_⟩
 ext
 refine isi_call (b:=true) rfl ?_
 walk_at "m2"
 refine ⟨false,rfl,?_⟩
 ext
 exact q
theorem row_none {k:Str} (h1:σ[1]?=some (.id tb)) (hd:asc es k=none) (q:Q (.list []) σ):T (callF (n+3) 16 [shV,.dict es,.str k]) σ Q:=by
 refine t_fun (f:=f_row_in) rfl rfl rfl ?_
 dsimp only [f_row_in]
 refine t_asg (t_get (t_var rfl rfl ?_))
 refine ⟨rfl,?_⟩
 ext
 refine get_dic h1 (x:=.none) (by rw [hd];exact der_simple rfl) ?_
 ext
 walk_at "m2"
 refine ⟨true,rfl,?_⟩
 ext
 refine mkl (by decide) ?_
 exact t_contr q
noncomputable def OptI.fst:OptI→List UInt8
 | .one b=>b|.two b _=>b
noncomputable def OptI.snd:OptI→List UInt8
 | .one b=>b|.two _ c=>c
noncomputable def OptI.pair (o:OptI):V:=.tup [.str (txt o.fst),.str (txt o.snd)]
noncomputable def optL (i:Info):List OptI:=i.opt.getD []
theorem optrow_ok (h1:σ[1]?=some (.id tb)) (hi:InfoOK (asc es) i) (q:Q (.list ((optL i).map OptI.enc)) σ):T (callF (n+3) 16 [shV,.dict es,.str (S "Opt")]) σ Q:=by
 cases e:i.opt with
 | none=>
  refine row_none h1 (by rw [hi.opt,e];rfl) ?_
  unfold optL at q;rw [e] at q;exact q
 | some os=>
  refine row_ok h1 (by rw [hi.opt,e];exact der_simple rfl) ?_
  unfold optL at q;rw [e] at q;exact q
theorem optL_ok (hi:InfoOK (asc es) i):(optL i).length<100∧∀ o∈optL i,o.ok:=by
 unfold optL
 cases e:i.opt with
 | none=>exact ⟨by decide,fun _ h=>nomatch h⟩
 | some os=>exact hi.ook os e
end
noncomputable def loopsOf:MSs→List MSs
 | .nil=>[]
 | .cons (.fors _ _ b) ss=>b::loopsOf ss
 | .cons (.whiles _ b) ss=>b::loopsOf ss
 | .cons _ ss=>loopsOf ss
noncomputable def loopOf (f:MFun) (k:Nat):MSs:=(loopsOf f.body).getD k .nil
section
variable {n:Nat} {σ:Mem} {Q:V→Mem→Prop} {tb:List (Int×V)} {es:List (Str×V)} {i:Info}
theorem encs_simple (o:OptI):simple o.enc=true:=by cases o <;> rfl
theorem opts_loop {leaf:V} {c:Nat} {S:Fl×Env'→Mem→Prop} (hc:1≠c):∀ (os:List OptI) (acc:List V) (a b:V) (σ:Mem),σ[1]?=some (.id tb)→σ[c]?=some (.list acc)→(∀ o∈os,o.ok)→acc.length+os.length<cap→
  (∀ a b,S (.next,[shV,leaf,.cell c,a,b]) (σ.set c (.list (acc++os.map OptI.pair))))→T (loopS (exs (callF (n+3)) (loopOf f_options 0)) (.one 3) (os.map OptI.enc) [shV,leaf,.cell c,a,b]) σ S
 | [],acc,a,b,σ,h1,h2,_,_,q=>by
  refine loop_nil ?_
  have:=q a b
  rw [List.map_nil,List.append_nil] at this
  have e:σ.set c (.list acc)=σ:=by
   apply List.ext_getElem?
   intro j
   by_cases hj:c=j
   ·subst hj;rw [at_set h2,h2]
   ·rw [at_ne hj]
  rw [e] at this;exact this
 | o::os,acc,a,b,σ,h1,h2,ho,hl,q=>by
  have hu:=simple_noU (encs_simple o)
  refine loop_cons rfl ?_
  show T (exs (callF (n+3)) (loopOf f_options 0) [shV,leaf,.cell c,o.enc,b]) σ _
  dsimp only [loopOf,loopsOf,f_options,List.getD_cons_zero]
  refine t_asg (t_fetch (t_var rfl rfl ?_))
  refine ⟨rfl,?_⟩
  ext
  refine fetch_simple (encs_simple o) ?_
  have hl':acc.length<cap:=by lia
  have next:T (loopS (exs (callF (n+3)) (loopOf f_options 0)) (.one 3) (os.map OptI.enc) [shV,leaf,.cell c,o.enc,o.enc]) (σ.set c (.list (acc++[o.pair]))) S:=
   opts_loop hc os (acc++[o.pair]) o.enc o.enc (σ.set c (.list (acc++[o.pair]))) ((at_ne (Ne.symm hc)).trans h1) (at_set h2) (fun x hx=>ho x (.tail _ hx)) (by simp only [List.length_append,List.length_cons,List.length_nil] at hl ⊢;lia) fun a b=>by
    rw [List.set_set,List.append_assoc];exact q a b
  have hok:=ho o (.head _)
  cases o with
  | one x=>
   ext
   refine isi_call (b:=false) rfl ?_
   refine ⟨false,rfl,?_⟩
   dsimp only
   refine ⟨false,rfl,?_⟩
   ext
   refine t_pre (pre_cell h2) ?_
   refine ⟨.inr rfl,?_⟩
   ext
   refine textin_ok (v:=some (.str x)) (fun y e=>by cases e;exact hok) ?_
   ext
   refine textin_ok (v:=some (.str x)) (fun y e=>by cases e;exact hok) ?_
   ext
   refine t_pre (pre_cell h2) ?_
   refine ⟨rfl,?_⟩
   refine app_cell h2 hl' ?_
   ext
   exact next
  | two x y=>
   ext
   refine isi_call (b:=true) rfl ?_
   refine ⟨true,rfl,?_⟩
   dsimp only
   ext
   walk_at "m2"
   ext
   walk_at "m2"
   refine ⟨true,rfl,?_⟩
   dsimp only
   ext
   refine ⟨true,rfl,?_⟩
   ext
   refine t_pre (pre_cell h2) ?_
   refine ⟨.inr rfl,?_⟩
   ext
   refine T.run (a:=strV x) (σ':=σ) rfl ?_
   ext
   refine textin_ok (v:=some (.str x)) (fun z e=>by cases e;exact hok.1) ?_
   ext
   refine T.run (a:=strV y) (σ':=σ) rfl ?_
   ext
   refine textin_ok (v:=some (.str y)) (fun z e=>by cases e;exact hok.2) ?_
   ext
   refine t_pre (pre_cell h2) ?_
   refine ⟨rfl,?_⟩
   refine app_cell h2 hl' ?_
   ext
   exact next
theorem options_ok {xs:List V} (h1:σ[1]?=some (.id tb)) (hx:fieldAt (clsFields 5) xs (S "head")=some (.dict es)) (hi:InfoOK (asc es) i) (q:∀ σ',Gr σ σ'→Q (.list ((optL i).map OptI.pair)) σ'):T (callF (n+4) 28 [shV,.inst 5 xs]) σ Q:=by
 refine t_fun (f:=f_options) rfl rfl rfl ?_
 dsimp only [f_options]
 ext
 refine mkl (b:=true) (by decide) ?_
 ext
 refine T.lft hx ?_
 ext
 have g:=Gr.push σ (.list [])
 refine optrow_ok (g.at h1) hi ?_
 ext
 have hlt:=(List.getElem?_eq_some_iff.mp h1).1
 have hne:1≠σ.length:=by lia
 have hol:=optL_ok hi
 refine opts_loop (n:=n) (tb:=tb) (leaf:=.inst 5 xs) (c:=σ.length) hne (optL i) [] .unb .unb (σ++[.list []]) (g.at h1) (at_new _ _) hol.2 (by have:=hol.1;unfold cap;simp only [List.length_nil];lia) fun a b=>?_
 ext
 refine frz_list (at_set (at_new σ _)) ?_
 exact q _ ((g.set (Nat.le_refl _) _).set (Nat.le_refl _) _)
theorem exports_ok (hi:InfoOK (asc es) i) (q:Q (.list ((optL i).map fun o=>V.str (txt o.fst))) σ):T (callF (n+2) 47 [.dict es]) σ Q:=by
 have hol:=optL_ok hi
 refine t_fun (f:=f_law_exports) rfl rfl rfl ?_
 dsimp only [f_law_exports]
 ext
 refine mkl (b:=false) (by decide) ?_
 ext
 refine dget2 rfl rfl ?_
 have e:((asc es (S "Opt")).getD (if false=true then .cell σ.length else .list []))=.list ((optL i).map OptI.enc):=by
  rw [hi.opt];unfold optL;cases i.opt <;> rfl
 rw [e]
 refine items_list ?_
 refine comp_map (f:=fun x=>match x with|.inst _ [.byts b,_]=>.str (txt b)|.list (.inst _ [.byts b,_]::_)=>.str (txt b)|v=>v) (fun x hx Q hq=>?_) ?_
 ·obtain ⟨o,ho,rfl⟩:=List.mem_map.mp hx
  have hok:=hol.2 o ho
  have hu:=simple_noU (encs_simple o)
  ext
  cases o with
  | one x=>
   refine isi_call (b:=false) rfl ?_
   refine ⟨false,rfl,?_⟩
   ext
   exact lawplain_ok (v:=some (.str x)) (fun y e=>by cases e;exact hok) hq
  | two x y=>
   refine isi_call (b:=true) rfl ?_
   refine ⟨true,rfl,?_⟩
   ext
   refine T.run (a:=strV x) (σ':=σ) rfl ?_
   ext
   exact lawplain_ok (v:=some (.str x)) (fun y e=>by cases e;exact hok.1) hq
 ·refine mkl (b:=false) (by rw [List.length_map,List.length_map];have:=hol.1;unfold cap;lia) ?_
  rw [List.map_map]
  have e:((fun x=>match x with|.inst _ [.byts b,_]=>V.str (txt b)|.list (.inst _ [.byts b,_]::_)=>.str (txt b)|v=>v) ∘ OptI.enc)=fun o=>V.str (txt o.fst):=by
   funext o;cases o <;> rfl
  rw [e]
  exact q
end
structure Look where
 a:Bool
 b:Bool
 c:Bool
 st:Str
noncomputable def statesD (l:Look):List (Str×V):=(if l.a then [(S "Off",.int 0)] else [])++((if l.b then [(S "x",.int 0)] else [])++(if l.c then [(S "y",.int 0)] else []))
noncomputable def onL (l:Look):List Str:=(if l.b then [S "x"] else [])++(if l.c then [S "y"] else [])
structure WidOK (we:List (Str×V)) (l:Look):Prop where
 ap:asc we (S "AP")=some (.dict [(S "N",.dict (statesD l))])
 as:asc we (S "AS")=some (nameV l.st)
noncomputable def has (l:List Str) (s:Str):Bool:=l.any fun y=>decide (y=s)
theorem inRow_strs (s:Str):∀ l:List Str,inRow (.str s) (l.map V.str)=some (has l s)
 | []=>rfl
 | x::l=>by
  show ((inRow (.str s) (l.map V.str)).bind fun b=>some (decide (x=s) || b))=_
  rw [inRow_strs s l]
  rfl
noncomputable def shownL (lone:Bool) (st:Str):List Str→List (List Str)→List Str
 | acc,[]=>acc
 | acc,on::r=>shownL lone st (acc++[if has on st&&!(lone&&has acc st) then st else S "Off"]) r
noncomputable def Wids (tb:List (Int×V)) (ws:List (Int×Look)):Prop:=∀ w∈ws,∃ we,ascI tb w.1=some (.tup [.int 0,.dict we])∧WidOK we w.2
section
variable {n:Nat} {σ:Mem} {Q:V→Mem→Prop} {tb:List (Int×V)} {es we:List (Str×V)} {i:Info} {l:Look} {C:Calls}
theorem in_list {xs:List Str} {s:Str} {B:Bool→Mem→Prop} (q:B (has xs s) σ):T (cmpV .in (.str s) (.list (xs.map V.str))) σ B:=by
 show T (Mine.bnd (kind3 (.list (xs.map V.str))) fun k=>match k with
  | .L=>Mine.bnd (rdList (.list (xs.map V.str))) fun ys=>Mine.lft (inRow (.str s) ys)
  | .D=>inD (.list (xs.map V.str)) (.str s)
  | .I=>inI (.list (xs.map V.str)) (.str s)
  | .N=>fail) σ B
 refine .bnd (.run (a:=.L) (σ':=σ) rfl ?_)
 show T (Mine.bnd (rdList (.list (xs.map V.str))) fun ys=>Mine.lft (inRow (.str s) ys)) σ B
 exact .bnd (.run (a:=xs.map V.str) (σ':=σ) rfl (.lft (inRow_strs s xs) q))
theorem in_cell {p:Nat} {xs:List Str} {s:Str} {B:Bool→Mem→Prop} (h:σ[p]?=some (.list (xs.map V.str))) (q:B (has xs s) σ):T (cmpV .in (.str s) (.cell p)) σ B:=
 T.bnd (m:=kind3 (.cell p)) (.run (kind_cell h) (T.bnd (m:=rdList (.cell p)) (.run (rd_cell h) (.lft (inRow_strs s xs) q))))
theorem onstates_ok {k:Int} (h1:σ[1]?=some (.id tb)) (hk:ascI tb k=some (.tup [.int 0,.dict we])) (hw:WidOK we l) (q:Q (.list ((onL l).map V.str)) σ):T (callF (n+3) 29 [shV,refV k]) σ Q:=by
 refine t_fun (f:=f_on_states) rfl rfl rfl ?_
 dsimp only [f_on_states]
 refine t_asg (t_get (t_var rfl rfl ?_))
 refine ⟨rfl,?_⟩
 refine t_cons (t_fetch (t_var rfl rfl ?_))
 refine ⟨rfl,?_⟩
 ext
 refine fetch_ref h1 hk rfl ?_
 ext
 refine get_dic h1 (x:=.dict [(S "N",.dict (statesD l))]) (by rw [hw.ap];exact der_simple rfl) ?_
 ext
 refine isi_call (b:=true) rfl ?_
 refine ⟨true,rfl,?_⟩
 refine t_get (t_var rfl rfl ?_)
 refine ⟨rfl,?_⟩
 ext
 have e:asc [(S "N",V.dict (statesD l))] (S "N")=some (.dict (statesD l)):=by kernel_rfl
 refine get_dic h1 (x:=.dict (statesD l)) (by rw [e];exact der_simple rfl) ?_
 ext
 refine isi_call (b:=true) rfl ?_
 refine ⟨true,rfl,?_⟩
 refine T.run (a:=V.list ((onL l).map V.str)) (σ':=σ) ?_ q
 obtain ⟨a,b,c,s⟩:=l
 cases a <;> cases b <;> cases c <;> kernel_rfl
theorem shown_loop {xs:List V} {c:Nat} {st:Str} {lone:Bool} {S:Fl×Env'→Mem→Prop} (hc:1≠c):∀ (ws:List (Int×Look)) (acc:List Str) (a b:V) (σ:Mem),σ[1]?=some (.id tb)→σ[c]?=some (.list (acc.map V.str))→Wids tb ws→acc.length+ws.length<cap→
  (∀ a b,S (.next,[shV,.inst 5 xs,.str st,.cell c,.bool lone,a,b]) (σ.set c (.list ((shownL lone st acc (ws.map fun w=>onL w.2)).map V.str))))→T (loopS (exs (callF (n+4)) (loopOf f_shown_states 0)) (.one 5) (ws.map fun w=>refV w.1) [shV,.inst 5 xs,.str st,.cell c,.bool lone,a,b]) σ S
 | [],acc,a,b,σ,h1,h2,_,_,q=>by
  refine loop_nil ?_
  have:=q a b
  have e:σ.set c (.list (acc.map V.str))=σ:=by
   apply List.ext_getElem?
   intro j
   by_cases hj:c=j
   ·subst hj;rw [at_set h2,h2]
   ·rw [at_ne hj]
  rw [show shownL lone st acc (([]:List (Int×Look)).map fun w=>onL w.2)=acc from rfl,e] at this;exact this
 | w::ws,acc,a,b,σ,h1,h2,hw,hl,q=>by
  obtain ⟨we,hk,hwe⟩:=hw w (.head _)
  refine loop_cons rfl ?_
  show T (exs (callF (n+4)) (loopOf f_shown_states 0) [shV,.inst 5 xs,.str st,.cell c,.bool lone,refV w.1,b]) σ _
  dsimp only [loopOf,loopsOf,f_shown_states,List.getD_cons_zero]
  have hl':acc.length<cap:=by lia
  have step:∀ (x:Bool),x=(has (onL w.2) st&&!(lone&&has acc st))→T (exs (callF (n+4)) (.cons (.expr (.meth (.var 3) (Mine.S "append") (.cons (.ife (.var 6) (.var 2) (.glob 24)) .nil))) .nil) [shV,.inst 5 xs,.str st,.cell c,.bool lone,refV w.1,.bool x]) σ fun r σ=>T (nextS (exs (callF (n+4)) (loopOf f_shown_states 0)) (.one 5) (ws.map fun w=>refV w.1) r) σ S:=by
   intro x hx
   have next:=shown_loop (xs:=xs) hc ws (acc++[if x then st else Mine.S "Off"]) (refV w.1) (.bool x) (σ.set c (.list ((acc++[if x then st else Mine.S "Off"]).map V.str))) ((at_ne (Ne.symm hc)).trans h1) (at_set h2) (fun y hy=>hw y (.tail _ hy)) (by simp only [List.length_append,List.length_cons,List.length_nil] at hl ⊢;lia) (S:=S) fun a b=>by
    rw [List.set_set,hx];exact q a b
   ext
   refine t_pre (pre_cell h2) ?_
   refine ⟨.inr rfl,?_⟩
   ext
   refine ⟨x,rfl,?_⟩
   cases x with
   | true=>
    ext
    refine t_pre (pre_cell h2) ?_
    refine ⟨rfl,?_⟩
    refine app_cell h2 (by rw [List.length_map];exact hl') ?_
    ext
    rw [if_pos rfl,List.map_append] at next
    exact next
   | false=>
    ext
    refine t_pre (pre_cell h2) ?_
    refine ⟨rfl,?_⟩
    refine app_cell h2 (by rw [List.length_map];exact hl') ?_
    ext
    rw [if_neg Bool.false_ne_true,List.map_append] at next
    exact next
  refine t_asg ?_
  ext
  refine onstates_ok h1 hk hwe ?_
  refine in_list ?_
  refine ⟨_,rfl,?_⟩
  cases e1:has (onL w.2) st with
  | false=>
   dsimp only
   exact step false (by rw [e1];rfl)
  | true=>
   dsimp only
   ext
   refine ⟨lone,rfl,?_⟩
   cases lone with
   | false=>
    dsimp only
    walk_at "m2"
    refine ⟨true,rfl,?_⟩
    dsimp only
    exact t_and_nil (step true (by rw [e1];rfl))
   | true=>
    dsimp only
    ext
    refine in_cell h2 ?_
    refine ⟨has acc st,rfl,?_⟩
    cases e2:has acc st with
    | false=>
     dsimp only
     ext
     walk_at "m2"
     refine ⟨true,rfl,?_⟩
     dsimp only
     exact t_and_nil (step true (by rw [e1,e2];rfl))
    | true=>
     dsimp only
     ext
     walk_at "m2"
     refine ⟨false,rfl,?_⟩
     dsimp only
     exact step false (by rw [e1,e2];rfl)
end
theorem onL_len (l:Look):(onL l).length≤2:=by
 unfold onL
 cases l.b <;> cases l.c <;> decide
noncomputable def lone (k:KD) (i:Info):Bool:=k.isRad&&!i.flag 26
theorem eq_strs:∀ l m:List Str,eqVs (l.map V.str) (m.map V.str)=some (decide (l=m))
 | [],[]=>rfl
 | [],_::_=>rfl
 | _::_,[]=>rfl
 | a::l,b::m=>by
  show ((eqVs (l.map V.str) (m.map V.str)).bind fun y=>some (decide (a=b)&&y))=_
  rw [eq_strs l m]
  show some (decide (a=b)&&decide (l=m))=some (decide (a::l=b::m))
  congr 1
  by_cases h1:a=b <;> by_cases h2:l=m <;> simp [h1,h2]
section
variable {n:Nat} {σ:Mem} {Q:V→Mem→Prop} {tb:List (Int×V)} {es we:List (Str×V)} {i:Info} {l:Look} {C:Calls}
theorem eq_lists {l m:List Str} {B:Bool→Mem→Prop} (q:B (decide (l=m)) σ):T (cmpV .eq (.list (l.map V.str)) (.list (m.map V.str))) σ B:=by
 show T (Mine.bnd (rdList (.list (l.map V.str))) fun xs=>Mine.bnd (rdList (.list (m.map V.str))) fun ys=>Mine.lft (eqVs xs ys)) σ B
 exact .bnd (.run (a:=l.map V.str) (σ':=σ) rfl (.bnd (.run (a:=m.map V.str) (σ':=σ) rfl (.lft (eq_strs l m) q))))
theorem shown_ok {k:KD} {xs:List V} {st:Str} {ws:List (Int×Look)} (h1:σ[1]?=some (.id tb)) (hx:fieldAt (clsFields 5) xs (S "head")=some (.dict es)) (hk:fieldAt (clsFields 5) xs (S "kind")=some (.str k.str))
  (hws:fieldAt (clsFields 5) xs (S "widgets")=some (.list (ws.map fun w=>refV w.1))) (hi:InfoOK (asc es) i) (hw:Wids tb ws) (hl:ws.length<100) (q:∀ σ',Gr σ σ'→Q (.list ((shownL (lone k i) st [] (ws.map fun w=>onL w.2)).map V.str)) σ') :
  T (callF (n+6) 30 [shV,.inst 5 xs,.str st]) σ Q:=by
 have hlt:=(List.getElem?_eq_some_iff.mp h1).1
 have hne:1≠σ.length:=by lia
 refine t_fun (f:=f_shown_states) rfl rfl rfl ?_
 dsimp only [f_shown_states]
 ext
 refine mkl (b:=true) (by decide) ?_
 have g:=Gr.push σ (.list [])
 have fin:∀ σ',Gr (σ++[.list []]) σ'→T (exs (callF (n+5)) (.cons (.fors (.one 5) (.attr (.var 1) (S "widgets")) (loopOf f_shown_states 0)) (.cons (.ret (.frz (.var 3))) .nil)) [shV,.inst 5 xs,.str st,.cell σ.length,.bool (lone k i),.unb,.unb]) σ' fun r σ=>Q (valueOf r.1) σ:=by
  intro σ' g'
  have h2:=g'.at (at_new σ (.list []))
  ext
  refine T.lft hws ?_
  ext
  refine shown_loop (n:=n+1) (tb:=tb) (xs:=xs) hne ws [] .unb .unb σ' ((g.trans g').at h1) h2 hw (by unfold cap;simp only [List.length_nil];lia) fun a b=>?_
  ext
  refine frz_list (at_set h2) ?_
  exact q _ (((g.trans g').set (Nat.le_refl _) _).set (Nat.le_refl _) _)
 refine t_asg (t_and (t_and_cons ?_))
 ext
 refine T.lft hk ?_
 ext
 refine T.run (k_rad k _) ?_
 refine ⟨_,rfl,?_⟩
 cases e:k.isRad with
 | false=>
  have:=fin _ (Gr.refl _)
  rw [show lone k i=false by unfold lone;rw [e];rfl] at this
  exact this
 | true=>
  dsimp only
  ext
  refine hasflag_ok (p:=26) hx (by simp) (g.at h1) hi fun σ' g'=>?_
  ext
  walk_at "m2"
  refine ⟨_,rfl,?_⟩
  have:=fin _ g'
  rw [show lone k i=!i.flag 26 by unfold lone;rw [e];rfl] at this
  cases e2:i.flag 26 with
  | true=>
   rw [e2] at this
   exact this
  | false=>
   rw [e2] at this
   exact t_and_nil this
theorem lawstates_loop {x0 up:V} {k:Int} {c:Nat} {st:Str} {ws':List V} {S:Fl×Env'→Mem→Prop} (hi:InfoOK (asc es) i) (hc:1≠c):∀ (ws:List (Int×Look)) (acc:List Str) (a b d:V) (σ:Mem),σ[1]?=some (.id tb)→σ[c]?=some (.list (acc.map V.str))→Wids tb ws→acc.length+ws.length<cap→
  (∀ a b d,S (.next,[shV,.tup [x0,refV k,up,.dict es,.list ws'],.str st,.cell c,a,b,d,.unb]) (σ.set c (.list ((shownL (lone i.kd i) st acc (ws.map fun w=>onL w.2)).map V.str))))→
  T (loopS (exs (callF (n+3)) (loopOf f_law_states 0)) (.one 4) (ws.map fun w=>refV w.1) [shV,.tup [x0,refV k,up,.dict es,.list ws'],.str st,.cell c,a,b,d,.unb]) σ S
 | [],acc,a,b,d,σ,h1,h2,_,_,q=>by
  refine loop_nil ?_
  have:=q a b d
  have e:σ.set c (.list (acc.map V.str))=σ:=by
   apply List.ext_getElem?
   intro j
   by_cases hj:c=j
   ·subst hj;rw [at_set h2,h2]
   ·rw [at_ne hj]
  rw [show shownL (lone i.kd i) st acc (([]:List (Int×Look)).map fun w=>onL w.2)=acc from rfl,e] at this;exact this
 | w::ws,acc,a,b,d,σ,h1,h2,hw,hl,q=>by
  obtain ⟨we,hk,hwe⟩:=hw w (.head _)
  refine loop_cons rfl ?_
  show T (exs (callF (n+3)) (loopOf f_law_states 0) [shV,.tup [x0,refV k,up,.dict es,.list ws'],.str st,.cell c,refV w.1,b,d,.unb]) σ _
  dsimp only [loopOf,loopsOf,f_law_states,List.getD_cons_zero]
  have hl':acc.length<cap:=by lia
  refine t_asg ?_
  refine t_lcomp (t_fwd (t_sub (t_sub (t_fetch (t_var rfl rfl ?_)))))
  refine ⟨rfl,?_⟩
  ext
  refine fetch_ref h1 hk rfl ?_
  ext
  refine get_dict hwe.ap ?_
  ext
  refine get_dict (v:=.dict (statesD w.2)) (by kernel_rfl) ?_
  refine T.run (a:=(statesD w.2).map fun p=>V.str p.1) (σ':=σ) rfl ?_
  refine T.run (a:=(onL w.2).map V.str) (σ':=σ) ?_ ?_
  ·obtain ⟨k,a,b,c,s⟩:=w
   cases a <;> cases b <;> cases c <;> kernel_rfl
  refine mkl (b:=false) (by rw [List.length_map];have:=onL_len w.2;unfold cap;lia) ?_
  have step:∀ (x:Bool),x=lone i.kd i→T (exs (callF (n+3)) (.cons (.expr (.meth (.var 3) (Mine.S "append") (.cons (.ife (.and (.cons (.cmp .in (.var 2) (.var 5)) (.cons (.not (.and (.cons (.var 6) (.cons (.cmp .in (.var 2) (.var 3)) .nil)))) .nil))) (.var 2) (.str (Mine.S "Off"))) .nil))) .nil)
    [shV,.tup [x0,refV k,up,.dict es,.list ws'],.str st,.cell c,refV w.1,.list ((onL w.2).map V.str),.bool x,.unb]) σ fun r σ=>T (nextS (exs (callF (n+3)) (loopOf f_law_states 0)) (.one 4) (ws.map fun w=>refV w.1) r) σ S:=by
   intro x hx
   have app:∀ y:Bool,y=(has (onL w.2) st&&!(x&&has acc st))→T (methV (callF (n+3)) (.cell c) (Mine.S "append") [.str (if y then st else Mine.S "Off")]) σ fun _ σ=>T (exs (callF (n+3)) .nil [shV,.tup [x0,refV k,up,.dict es,.list ws'],.str st,.cell c,refV w.1,.list ((onL w.2).map V.str),.bool x,.unb]) σ fun r σ=>T (nextS (exs (callF (n+3)) (loopOf f_law_states 0)) (.one 4) (ws.map fun w=>refV w.1) r) σ S:=by
    intro y hy
    refine app_cell h2 (by rw [List.length_map];exact hl') ?_
    refine t_end (t_next ?_)
    have next:=lawstates_loop (x0:=x0) (up:=up) (k:=k) (ws':=ws') hi hc ws (acc++[if y then st else Mine.S "Off"]) (refV w.1) (.list ((onL w.2).map V.str)) (.bool x) (σ.set c (.list ((acc++[if y then st else Mine.S "Off"]).map V.str))) ((at_ne (Ne.symm hc)).trans h1) (at_set h2) (fun y hy=>hw y (.tail _ hy)) (by simp only [List.length_append,List.length_cons,List.length_nil] at hl ⊢;lia) (S:=S) fun a b d=>by
     rw [List.set_set,hy,hx];exact q a b d
    rw [List.map_append] at next
    exact next
   ext
   refine t_pre (pre_cell h2) ?_
   refine ⟨.inr rfl,?_⟩
   ext
   refine in_list ?_
   refine ⟨_,rfl,?_⟩
   have no:(has (onL w.2) st&&!(x&&has acc st))=false→T (evs (callF (n+3)) .nil [shV,.tup [x0,refV k,up,.dict es,.list ws'],.str st,.cell c,refV w.1,.list ((onL w.2).map V.str),.bool x,.unb]) σ fun vs σ=>T (preM (.cell c)) σ fun t' σ=>MK.L=t'∧T (methV (callF (n+3)) (.cell c) (Mine.S "append") (.str (Mine.S "Off")::vs)) σ fun _ σ=>T (exs (callF (n+3)) .nil [shV,.tup [x0,refV k,up,.dict es,.list ws'],.str st,.cell c,refV w.1,.list ((onL w.2).map V.str),.bool x,.unb]) σ fun r σ=>T (nextS (exs (callF (n+3)) (loopOf f_law_states 0)) (.one 4) (ws.map fun w=>refV w.1) r) σ S:=fun e=>by
    refine t_nil (t_pre (pre_cell h2) ?_)
    exact ⟨rfl,app false e.symm⟩
   have yes:(has (onL w.2) st&&!(x&&has acc st))=true→T (ev (callF (n+3)) (.var 2) [shV,.tup [x0,refV k,up,.dict es,.list ws'],.str st,.cell c,refV w.1,.list ((onL w.2).map V.str),.bool x,.unb]) σ fun v σ=>T (evs (callF (n+3)) .nil [shV,.tup [x0,refV k,up,.dict es,.list ws'],.str st,.cell c,refV w.1,.list ((onL w.2).map V.str),.bool x,.unb]) σ fun vs σ=>T (preM (.cell c)) σ fun t' σ=>MK.L=t'∧T (methV (callF (n+3)) (.cell c) (Mine.S "append") (v::vs)) σ fun _ σ=>T (exs (callF (n+3)) .nil [shV,.tup [x0,refV k,up,.dict es,.list ws'],.str st,.cell c,refV w.1,.list ((onL w.2).map V.str),.bool x,.unb]) σ fun r σ=>T (nextS (exs (callF (n+3)) (loopOf f_law_states 0)) (.one 4) (ws.map fun w=>refV w.1) r) σ S:=fun e=>by
    refine t_var rfl rfl (t_nil (t_pre (pre_cell h2) ?_))
    exact ⟨rfl,app true e.symm⟩
   cases e1:has (onL w.2) st with
   | false=>
    dsimp only
    refine ⟨false,rfl,?_⟩
    refine t_str ?_
    exact no (by rw [e1];rfl)
   | true=>
    dsimp only
    ext
    refine ⟨x,rfl,?_⟩
    cases x with
    | false=>
     dsimp only
     walk_at "m2"
     refine ⟨true,rfl,?_⟩
     dsimp only
     refine t_and_nil ?_
     refine ⟨true,rfl,?_⟩
     exact yes (by rw [e1];rfl)
    | true=>
     dsimp only
     ext
     refine in_cell h2 ?_
     refine ⟨has acc st,rfl,?_⟩
     cases e2:has acc st with
     | false=>
      dsimp only
      ext
      walk_at "m2"
      refine ⟨true,rfl,?_⟩
      dsimp only
      refine t_and_nil ?_
      refine ⟨true,rfl,?_⟩
      exact yes (by rw [e1,e2];rfl)
     | true=>
      dsimp only
      refine t_and_nil ?_
      walk_at "m2"
      refine ⟨false,rfl,?_⟩
      dsimp only
      refine ⟨false,rfl,?_⟩
      refine t_str ?_
      exact no (by rw [e1,e2];rfl)
  refine t_asg (t_and (t_and_cons ?_))
  ext
  refine T.run (a:=V.dict es) (σ':=σ) rfl ?_
  ext
  refine lawkind_ok hi ?_
  rw [kind_eq]
  ext
  refine T.run (k_rad i.kd σ) ?_
  refine ⟨_,rfl,?_⟩
  cases e:i.kd.isRad with
  | false=>exact step false (by unfold lone;rw [e];rfl)
  | true=>
   dsimp only
   ext
   refine T.run (a:=V.dict es) (σ':=σ) rfl ?_
   ext
   refine lawflag_ok (p:=26) (by decide) hi ?_
   walk_at "m2"
   refine ⟨_,rfl,?_⟩
   cases e2:i.flag 26 with
   | true=>exact step false (by unfold lone;rw [e,e2];rfl)
   | false=>exact t_and_nil (step true (by unfold lone;rw [e,e2];rfl))
theorem lawstates_ok {x0 up:V} {k:Int} {st:Str} {ws:List (Int×Look)} (h1:σ[1]?=some (.id tb)) (hi:InfoOK (asc es) i) (hw:Wids tb ws) (hl:ws.length<100) (q:∀ σ',Gr σ σ'→Q (.list ((shownL (lone i.kd i) st [] (ws.map fun w=>onL w.2)).map V.str)) σ') :
  T (callF (n+4) 46 [shV,.tup [x0,refV k,up,.dict es,.list (ws.map fun w=>refV w.1)],.str st]) σ Q:=by
 have hlt:=(List.getElem?_eq_some_iff.mp h1).1
 have hne:1≠σ.length:=by lia
 refine t_fun (f:=f_law_states) rfl rfl rfl ?_
 dsimp only [f_law_states]
 ext
 refine mkl (b:=true) (by decide) ?_
 have g:=Gr.push σ (.list [])
 ext
 refine T.run (a:=V.list (ws.map fun w=>refV w.1)) (σ':=σ++[.list []]) rfl ?_
 ext
 refine lawstates_loop (n:=n) (tb:=tb) (x0:=x0) (up:=up) (k:=k) (ws':=ws.map fun w=>refV w.1) hi hne ws [] .unb .unb .unb _ (g.at h1) (at_new _ _) hw (by unfold cap;simp only [List.length_nil];lia) fun a b d=>?_
 ext
 refine frz_list (at_set (at_new σ _)) ?_
 exact q _ ((g.set (Nat.le_refl _) _).set (Nat.le_refl _) _)
end
noncomputable def tooLong (i:Info):Bool:=match i.v with
 | some (.str b)=>i.ml&&decide ((3:Int)<(txt b).cps.size)
 | _=>false
noncomputable def valsOf:Option Val→List Str
 | some (.lst bs)=>bs.map txt
 | some (.str b)=>[txt b]
 | _=>[]
noncomputable def expsOf (i:Info):List Str:=(optL i).map fun o=>txt o.fst
noncomputable def allIn (i:Info):Bool:=(valsOf i.v).all fun s=>has (expsOf i) s
noncomputable def rightAS (i:Info) (ws:List (Int×Look)):Bool:=decide ((ws.map fun w=>w.2.st)=shownL (lone i.kd i) (stOf i.v) [] (ws.map fun w=>onL w.2))
noncomputable def valueW (i:Info) (ws:List (Int×Look)):List Str:=
 if i.kd.isNo then [S "no kind"] else if i.kd.isTx then (if tooLong i then [S "too long"] else []) else if i.kd.isCh then (if (i.flag 18&&i.flag 19) || allIn i then [] else [S "not among Opt"])
 else if i.kd.isBtn then (if rightAS i ws then [] else [S "wrong AS"]) else []
section
variable {n:Nat} {σ:Mem} {Q:V→Mem→Prop} {tb:List (Int×V)} {es we:List (Str×V)} {i:Info} {l:Look} {C:Calls}
theorem len_str {s:Str} (h:s.cps.size<cap) (q:Q (.int s.cps.size) σ):T (biCall .len [.str s]) σ Q:=by
 show T (if s.cps.size<cap then Mine.ret (.int s.cps.size) else fail) σ Q
 rw [if_pos h];exact .ret q
theorem txt_len {b:List UInt8} (hb:b∈byStrs):(txt b).cps.size≤4:=by
 simp only [byStrs,List.mem_cons,List.not_mem_nil,or_false] at hb
 rcases hb with rfl|rfl|rfl|rfl|rfl|rfl|rfl|rfl <;> decide
theorem valOf_tx {k:KD} (h:k.isTx=true) (v:Option Val):valOf k v=plainV v:=by cases k <;> first|rfl|cases h
theorem valOf_ch {k:KD} (h:k.isCh=true) (v:Option Val):valOf k v=(match v with
 | some (.lst bs)=>.list (bs.map fun b=>V.str (txt b))
 | v=>plainV v):=by cases k <;> first|rfl|cases h
theorem valOf_btn {k:KD} (h:k.isBtn=true) (v:Option Val):valOf k v=.str (stOf v):=by cases k <;> first|rfl|cases h
theorem plainV_noU (v:Option Val):noU (plainV v)=true:=by
 cases v with
 | none=>rfl
 | some x=>cases x <;> rfl
theorem valOf_noU (k:KD) (v:Option Val):noU (valOf k v)=true:=by
 unfold valOf
 cases k.isBtn with
 | true=>rfl
 | false=>
  cases k.isCh with
  | true=>
   cases v with
   | none=>rfl
   | some x=>cases x <;> rfl
  | false=>
   cases k.isTx with
   | true=>exact plainV_noU v
   | false=>rfl
theorem allV_bools:∀ l:List Bool,allV (l.map V.bool)=some (l.all id)
 | []=>rfl
 | b::l=>by
  show ((allV (l.map V.bool)).bind fun c=>some (b&&c))=_
  rw [allV_bools l];rfl
theorem comp_map2 {β:Type} {ρ:Env'} {el:Env'→M V} {j:Nat} {enc f:β→V}:∀ {ws:List β} {Qs:List V→Mem→Prop},(∀ w∈ws,∀ Q:V→Mem→Prop,Q (f w) σ→T (el (ρ.set j (enc w))) σ Q)→Qs (ws.map f) σ→T (loopC (cnd C .nil) el (.one j) ρ (ws.map enc)) σ Qs
 | [],_,_,q=>comp_nil q
 | w::ws,Qs,h,q=>comp_cons rfl (cnd_nil (h w (.head _) _ (comp_map2 (ws:=ws) (fun y hy=>h y (.tail _ hy)) q)))
theorem choice_end {S:Fl×Env'→Mem→Prop} {xs:List V} {vs:List Str} {fr:Bool} {a:V} (hS:∀ v σ ρ,Q v σ→S (.ret v,ρ) σ) (hl:vs.length<1000) (q:Q (if fr || vs.all fun s=>has (expsOf i) s then .list [] else .list [.str (Mine.S "not among Opt")]) σ) :
  T (exs (callF n) (.cons (.ret (.ife (.or (.cons (.var 4) (.cons (.call (.glob 20) (.cons (.lcomp false (.cmp .in (.var 9) (.var 5)) (.one 9) (.fwd (.var 6)) .nil) .nil)) .nil))) (.list false .nil) (.list false (.cons (.str (Mine.S "not among Opt")) .nil)))) .nil)
   [shV,.inst 5 xs,a,.unb,.bool fr,.list ((expsOf i).map V.str),.list (vs.map V.str),.unb,.unb,.unb,.unb]) σ S:=by
 ext
 refine ⟨fr,rfl,?_⟩
 cases fr with
 | true=>
  dsimp only
  refine ⟨true,rfl,?_⟩
  ext
  exact mkl (by decide) (hS _ _ _ q)
 | false=>
  dsimp only
  ext
  refine comp_map (f:=fun x=>match x with|.str s=>.bool (has (expsOf i) s)|v=>v) (fun x hx Q hq=>?_) ?_
  ·obtain ⟨s,hs,rfl⟩:=List.mem_map.mp hx
   ext
   exact in_list hq
  ·refine mkl (by rw [List.length_map,List.length_map];unfold cap;lia) ?_
   ext
   have e:((vs.map V.str).map fun x=>match x with|.str s=>V.bool (has (expsOf i) s)|v=>v)=(vs.map fun s=>has (expsOf i) s).map V.bool:=by
    rw [List.map_map,List.map_map];rfl
   rw [if_neg Bool.false_ne_true,if_neg Bool.false_ne_true,e]
   refine T.bnd (m:=lft (allV ((vs.map fun s=>has (expsOf i) s).map V.bool))) (.lft (allV_bools _) (.ret ?_))
   rw [List.all_map]
   have e2:(vs.all (id ∘ fun s=>has (expsOf i) s))=vs.all fun s=>has (expsOf i) s:=rfl
   rw [e2]
   cases e3:vs.all fun s=>has (expsOf i) s with
   | true=>
    rw [e3] at q
    refine ⟨true,rfl,?_⟩
    refine ⟨true,rfl,?_⟩
    ext
    exact mkl (by decide) (hS _ _ _ q)
   | false=>
    rw [e3] at q
    refine ⟨false,rfl,?_⟩
    dsimp only
    refine t_or_nil ?_
    refine ⟨false,rfl,?_⟩
    ext
    exact mkl (by decide) (hS _ _ _ q)
theorem isList_vals (vs:List Str) (σ:Mem):isKind (.list (vs.map V.str)) (.bi .list) σ=some (true,σ):=rfl
theorem faults_ok {xs:List V} {ws:List (Int×Look)} (h1:σ[1]?=some (.id tb)) (hx:fieldAt (clsFields 5) xs (S "head")=some (.dict es)) (hk:fieldAt (clsFields 5) xs (S "kind")=some (.str i.kd.str))
  (hws:fieldAt (clsFields 5) xs (S "widgets")=some (.list (ws.map fun w=>refV w.1))) (hi:InfoOK (asc es) i) (hw:Wids tb ws) (hl:ws.length<100) (q:∀ σ',Gr σ σ'→Q (.list ((valueW i ws).map V.str)) σ') :
  T (callF (n+7) 32 [shV,.inst 5 xs]) σ Q:=by
 have hu:=valOf_noU i.kd i.v
 refine t_fun (f:=f_value_faults) rfl rfl rfl ?_
 dsimp only [f_value_faults]
 ext
 refine valuein_ok h1 hx hk hi ?_
 ext
 refine T.lft hk ?_
 ext
 refine T.run (k_no i.kd σ) ?_
 refine ⟨_,rfl,?_⟩
 unfold valueW at q
 cases e1:i.kd.isNo with
 | true=>
  rw [e1,if_pos rfl] at q
  ext
  exact mkl (by decide) (t_contr (q σ (.refl σ)))
 | false=>
 rw [e1,if_neg Bool.false_ne_true] at q
 ext
 refine T.lft hk ?_
 ext
 refine T.run (k_tx i.kd σ) ?_
 refine ⟨_,rfl,?_⟩
 cases e2:i.kd.isTx with
 | true=>
  rw [e2,if_pos rfl] at q
  rw [valOf_tx e2] at hu ⊢
  ext
  refine T.lft hx ?_
  ext
  refine maxlen_ok h1 hi ?_
  have no:tooLong i=false→T (ev (callF (n+6)) (.list false .nil) [shV,.inst 5 xs,plainV i.v,if i.ml then .int 3 else .none,.unb,.unb,.unb,.unb,.unb,.unb,.unb]) σ fun v σ=>T (cont (callF (n+6)) (.cons (.ifs (.cmp .eq (.attr (.var 1) (S "kind")) (.str (S "choice"))) .nil .nil) .nil) (.ret v,[])) σ fun r σ=>Q (valueOf r.1) σ:=fun e=>by
   rw [e,if_neg Bool.false_ne_true] at q
   exact t_list (t_nil (mkl (by decide) (t_contr (q σ (.refl σ)))))
  have no':tooLong i=false→∀ ρ ρ' ss,T (ev (callF (n+6)) (.list false .nil) ρ) σ fun v σ=>T (cont (callF (n+6)) ss (.ret v,ρ')) σ fun r σ=>Q (valueOf r.1) σ:=fun e ρ ρ' ss=>by
   rw [e,if_neg Bool.false_ne_true] at q
   exact t_list (t_nil (mkl (by decide) (t_contr (q σ (.refl σ)))))
  ext
  have txt_case:∀ b,i.v=some (.str b)→b∈byStrs:=fun b e=>hi.vok _ e
  cases ev:i.v with
  | none=>
   walk_at "m2"
   refine ⟨false,rfl,?_⟩
   dsimp only
   refine ⟨false,rfl,?_⟩
   exact no' (by unfold tooLong;rw [ev]) _ _ _
  | some x=>
   cases x with
   | str b=>
    walk_at "m2"
    refine ⟨true,rfl,?_⟩
    dsimp only
    have hb:=txt_case b ev
    cases em:i.ml with
    | false=>
     ext
     walk_at "m2"
     refine ⟨false,rfl,?_⟩
     dsimp only
     refine ⟨false,rfl,?_⟩
     exact no' (by unfold tooLong;rw [ev,em];rfl) _ _ _
    | true=>
     ext
     walk_at "m2"
     refine ⟨true,rfl,?_⟩
     dsimp only
     ext
     refine len_str (by have:=txt_len hb;unfold cap;lia) ?_
     ext
     walk_at "m2"
     refine ⟨_,rfl,?_⟩
     have et:tooLong i=decide ((3:Int)<(txt b).cps.size):=by unfold tooLong;rw [ev,em];rfl
     rw [et] at q no'
     cases ed:decide ((3:Int)<(txt b).cps.size) with
     | true=>
      rw [ed,if_pos rfl] at q
      dsimp only
      refine t_and_nil ?_
      refine ⟨true,rfl,?_⟩
      ext
      exact mkl (by decide) (t_contr (q σ (.refl σ)))
     | false=>
      dsimp only
      refine ⟨false,rfl,?_⟩
      exact no' ed _ _ _
   | _=>
    walk_at "m2"
    refine ⟨false,rfl,?_⟩
    dsimp only
    refine ⟨false,rfl,?_⟩
    exact no' (by unfold tooLong;rw [ev]) _ _ _
 | false=>
 rw [e2,if_neg Bool.false_ne_true] at q
 ext
 refine T.lft hk ?_
 ext
 refine T.run (k_ch i.kd σ) ?_
 refine ⟨_,rfl,?_⟩
 cases e3:i.kd.isCh with
 | true=>
  rw [e3,if_pos rfl] at q
  rw [valOf_ch e3] at hu ⊢
  have mid:∀ (S:Fl×Env'→Mem→Prop),(∀ v σ ρ,Q v σ→S (.ret v,ρ) σ)→∀ σ',Gr σ σ'→T (exs (callF (n+6)) (.cons (.asg (.one 5) (.lcomp false (.sub (.var 10) (.int 0)) (.one 10) (.fwd (.call (.glob 49) (.cons (.var 0) (.cons (.var 1) .nil)))) .nil))
    (.cons (.asg (.one 6) (.ife (.call (.glob 9) (.cons (.var 2) (.cons (.glob 13) .nil))) (.var 2) (.ife (.cmp .is (.var 2) .none) (.list false .nil) (.list false (.cons (.var 2) .nil)))))
    (.cons (.ret (.ife (.or (.cons (.var 4) (.cons (.call (.glob 20) (.cons (.lcomp false (.cmp .in (.var 9) (.var 5)) (.one 9) (.fwd (.var 6)) .nil) .nil)) .nil))) (.list false .nil) (.list false (.cons (.str (Mine.S "not among Opt")) .nil)))) .nil)))
    [shV,.inst 5 xs,(match i.v with
     | some (.lst bs)=>V.list (bs.map fun b=>V.str (txt b))
     | v=>plainV v),.unb,.bool (i.flag 18&&i.flag 19),.unb,.unb,.unb,.unb,.unb,.unb]) σ' S:=by
   intro S hS σ' g
   ext
   refine options_ok (g.at h1) hx hi fun σ'' g'=>?_
   ext
   refine comp_map (f:=fun x=>match x with|.tup (a::_)=>a|v=>v) (fun x hx Q hq=>?_) ?_
   ·obtain ⟨o,ho,rfl⟩:=List.mem_map.mp hx
    ext
    exact T.run (a:=V.str (txt o.fst)) (σ':=σ'') rfl hq
   have hol:=optL_ok hi
   refine mkl (by rw [List.length_map,List.length_map];have:=hol.1;unfold cap;lia) ?_
   have e:((optL i).map OptI.pair).map (fun x=>match x with|.tup (a::_)=>a|v=>v)=(expsOf i).map V.str:=by
    unfold expsOf;rw [List.map_map,List.map_map];rfl
   rw [if_neg Bool.false_ne_true,if_neg Bool.false_ne_true,e]
   have hq:=q σ'' (g.trans g')
   have hq2:Q (if ((i.flag 18&&i.flag 19) || allIn i)=true then .list [] else .list [.str (Mine.S "not among Opt")]) σ'':=by
    cases e:((i.flag 18&&i.flag 19) || allIn i) with
    | true=>rw [e] at hq;exact hq
    | false=>rw [e] at hq;exact hq
   unfold allIn at hq2
   cases ev:i.v with
   | none=>
    rw [ev] at hq2
    ext
    refine isi_call (b:=false) rfl ?_
    refine ⟨false,rfl,?_⟩
    ext
    walk_at "m2"
    refine ⟨true,rfl,?_⟩
    refine t_list (t_nil (mkl (by decide) ?_))
    exact choice_end (i:=i) (vs:=[]) hS (by decide) hq2
   | some x=>
    rw [ev] at hq2
    cases x with
    | lst bs=>
     have hok:=hi.vok _ ev
     ext
     refine isi_call (b:=true) rfl ?_
     refine ⟨true,rfl,?_⟩
     refine t_var rfl rfl ?_
     have:=choice_end (n:=n+6) (i:=i) (xs:=xs) (a:=V.list (bs.map fun b=>V.str (txt b))) (vs:=bs.map txt) hS (by rw [List.length_map];have:=hok.1;lia) hq2
     rw [List.map_map] at this
     exact this
    | str b=>
     ext
     refine isi_call (b:=false) rfl ?_
     refine ⟨false,rfl,?_⟩
     ext
     walk_at "m2"
     refine ⟨false,rfl,?_⟩
     refine t_list (t_cons (t_var rfl rfl (t_nil (mkl (show 1<cap by decide) ?_))))
     exact choice_end (i:=i) (vs:=[txt b]) hS (show 1<1000 by decide) hq2
    | seven=>
     ext
     refine isi_call (b:=false) rfl ?_
     refine ⟨false,rfl,?_⟩
     ext
     walk_at "m2"
     refine ⟨true,rfl,?_⟩
     refine t_list (t_nil (mkl (by decide) ?_))
     exact choice_end (i:=i) (vs:=[]) hS (by decide) hq2
    | name s=>
     ext
     refine isi_call (b:=false) rfl ?_
     refine ⟨false,rfl,?_⟩
     ext
     walk_at "m2"
     refine ⟨true,rfl,?_⟩
     refine t_list (t_nil (mkl (by decide) ?_))
     exact choice_end (i:=i) (vs:=[]) hS (by decide) hq2
  refine t_asg (t_and (t_and_cons ?_))
  ext
  refine hasflag_ok (p:=18) hx (by simp) h1 hi fun σ' g=>?_
  refine ⟨_,rfl,?_⟩
  cases e18:i.flag 18 with
  | false=>
   rw [e18] at mid
   exact mid _ (fun v σ ρ h=>t_contr h) σ' g
  | true=>
   rw [e18] at mid
   dsimp only
   ext
   refine hasflag_ok (p:=19) hx (by simp) (g.at h1) hi fun σ'' g'=>?_
   refine ⟨_,rfl,?_⟩
   cases e19:i.flag 19 with
   | false=>
    rw [e19] at mid
    exact mid _ (fun v σ ρ h=>t_contr h) σ'' (g.trans g')
   | true=>
    rw [e19] at mid
    exact t_and_nil (mid _ (fun v σ ρ h=>t_contr h) σ'' (g.trans g'))
 | false=>
 rw [e3,if_neg Bool.false_ne_true] at q
 ext
 refine T.lft hk ?_
 ext
 refine T.run (k_btn i.kd σ) ?_
 refine ⟨_,rfl,?_⟩
 cases e4:i.kd.isBtn with
 | false=>
  rw [e4,if_neg Bool.false_ne_true] at q
  ext
  exact mkl (by decide) (q σ (.refl σ))
 | true=>
  rw [e4,if_pos rfl] at q
  rw [valOf_btn e4] at hu ⊢
  ext
  refine T.lft hws ?_
  ext
  refine comp_map2 (f:=fun w=>V.str w.2.st) (fun w hmem Q hq=>?_) ?_
  ·obtain ⟨we,hk,hwe⟩:=hw w hmem
   refine t_call (t_glob rfl (t_cons (t_var rfl rfl (t_cons (t_meth (t_fetch (t_var rfl rfl ?_)))))))
   refine ⟨rfl,?_⟩
   ext
   refine fetch_ref h1 hk rfl ?_
   ext
   refine dget1 rfl rfl ?_
   rw [hwe.as]
   ext
   exact statein_ok (v:=some (.name w.2.st)) hq
  refine mkl (by rw [List.length_map];unfold cap;lia) ?_
  ext
  refine shown_ok (k:=i.kd) h1 hx hk hws hi hw hl fun σ' g=>?_
  have hq:=q σ' g
  unfold rightAS at hq
  have e:(ws.map fun w=>V.str w.2.st)=(ws.map fun w=>w.2.st).map V.str:=by rw [List.map_map];rfl
  rw [if_neg Bool.false_ne_true,e]
  refine eq_lists ?_
  refine ⟨_,rfl,?_⟩
  cases ed:decide ((ws.map fun w=>w.2.st)=shownL (lone i.kd i) (stOf i.v) [] (ws.map fun w=>onL w.2)) with
  | true=>
   rw [ed,if_pos rfl] at hq
   ext
   exact mkl (by decide) (t_contr hq)
  | false=>
   rw [ed,if_neg Bool.false_ne_true] at hq
   ext
   exact mkl (by decide) (t_contr hq)
end
theorem all_filter (vs:List Str) (p:Str→Bool):decide ((0:Int)<(vs.filter fun s=>!p s).length)=!(vs.all p):=by
 induction vs with
 | nil=>rfl
 | cons a l ih=>
  rw [List.filter_cons,List.all_cons]
  cases p a with
  | true=>exact ih
  | false=>
   show decide ((0:Int)<((a::l.filter fun s=>!p s).length:Int))=true
   exact decide_eq_true (by rw [List.length_cons];lia)
section
variable {n:Nat} {σ:Mem} {Q:V→Mem→Prop} {tb:List (Int×V)} {es we:List (Str×V)} {i:Info} {l:Look} {C:Calls}
theorem in_dic {k:Str} {B:Bool→Mem→Prop} (q:B (asc es k).isSome σ):T (cmpV .in (.str k) (.dict es)) σ B:=by
 show T (Mine.bnd (rdDict (.dict es)) fun es=>Mine.ret (asc es k).isSome) σ B
 exact .bnd (.run (a:=es) (σ':=σ) rfl (.ret q))
theorem nin_dic {k:Str} {B:Bool→Mem→Prop} (q:B (!(asc es k).isSome) σ):T (cmpV .nin (.str k) (.dict es)) σ B:=by
 show T (Mine.bnd (cmpIn (.str k) (.dict es)) fun r=>Mine.ret (!r)) σ B
 exact .bnd ((in_dic (B:=fun r σ=>B (!r) σ) q).mono fun _ _ q=>.ret q)
theorem nin_list {xs:List Str} {s:Str} {B:Bool→Mem→Prop} (q:B (!has xs s) σ):T (cmpV .nin (.str s) (.list (xs.map V.str))) σ B:=by
 show T (Mine.bnd (cmpIn (.str s) (.list (xs.map V.str))) fun r=>Mine.ret (!r)) σ B
 exact .bnd ((in_list (B:=fun r σ=>B (!r) σ) q).mono fun _ _ q=>.ret q)
theorem comp_filter2 {β:Type} {ρ:Env'} {el:Env'→M V} {cs:MEs} {j:Nat} {enc f:β→V} {p:β→Bool}:∀ {ws:List β} {Qs:List V→Mem→Prop},(∀ w∈ws,∀ B:Bool→Mem→Prop,B (p w) σ→T (cnd C cs (ρ.set j (enc w))) σ B)→(∀ w∈ws,∀ Q:V→Mem→Prop,Q (f w) σ→T (el (ρ.set j (enc w))) σ Q)→Qs ((ws.filter p).map f) σ→T (loopC (cnd C cs) el (.one j) ρ (ws.map enc)) σ Qs
 | [],_,_,_,q=>comp_nil q
 | w::ws,Qs,hc,h,q=>comp_cons rfl (hc w (.head _) _ (by
  rw [List.filter_cons] at q
  cases e:p w with
  | true=>
   rw [e,if_pos rfl] at q
   exact h w (.head _) _ (comp_filter2 (ws:=ws) (fun y hy=>hc y (.tail _ hy)) (fun y hy=>h y (.tail _ hy)) q)
  | false=>
   rw [e,if_neg Bool.false_ne_true] at q
   exact comp_filter2 (ws:=ws) (fun y hy=>hc y (.tail _ hy)) (fun y hy=>h y (.tail _ hy)) q))
theorem lawwords_ok {x0 up:V} {k:Int} {ws:List (Int×Look)} (h1:σ[1]?=some (.id tb)) (hi:InfoOK (asc es) i) (hw:Wids tb ws) (hl:ws.length<100) (q:∀ σ',Gr σ σ'→Q (.list ((valueW i ws).map V.str)) σ') :
  T (callF (n+5) 50 [shV,.tup [x0,refV k,up,.dict es,.list (ws.map fun w=>refV w.1)]]) σ Q:=by
 have hu:=valOf_noU i.kd i.v
 have ml:(asc es (S "MaxLen")).isSome=i.ml:=by rw [hi.ml];cases i.ml <;> rfl
 refine t_fun (f:=f_law_value_words) rfl rfl rfl ?_
 dsimp only [f_law_value_words]
 ext
 refine T.run (a:=V.dict es) (σ':=σ) rfl ?_
 ext
 refine lawkind_ok hi ?_
 rw [kind_eq]
 ext
 refine lawvalue_ok hi ?_
 ext
 refine ⟨_,rfl,?_⟩
 unfold valueW at q
 have rest:∀ (ρ:Env'),ρ[0]?=some shV→ρ[1]?=some (.tup [x0,refV k,up,.dict es,.list (ws.map fun w=>refV w.1)])→ρ[3]?=some (.str i.kd.str)→ρ[4]?=some (valOf i.kd i.v)→7<ρ.length→
   (∀ σ',Gr σ σ'→Q (.list ((if i.kd.isNo then [S "no kind"] else if i.kd.isBtn then (if rightAS i ws then [] else [S "wrong AS"]) else []).map V.str)) σ')→
   T (exs (callF (n+4)) (.cons (.ifs (.cmp .in (.var 3) (.tup (.cons (.str (S "check")) (.cons (.str (S "radio")) .nil)))) (.cons (.asg (.one 6) (.lcomp false (.attr (.sub (.meth (.var 0) (S "fetch") (.cons (.var 7) .nil)) (.str (S "AS"))) (S "text")) (.one 7) (.fwd (.sub (.var 1) (.int 4))) .nil))
    (.cons (.ret (.ife (.cmp .eq (.var 6) (.call (.glob 67) (.cons (.var 0) (.cons (.var 1) (.cons (.var 4) .nil))))) (.list false .nil) (.list false (.cons (.str (S "wrong AS")) .nil)))) .nil)) .nil)
    (.cons (.ret (.ife (.cmp .eq (.var 3) (.str (S ""))) (.list false (.cons (.str (S "no kind")) .nil)) (.list false .nil))) .nil)) ρ) σ fun r σ=>Q (valueOf r.1) σ:=by
  intro ρ r0 r1 r3 r4 rl q
  refine t_ifs (t_cmp (t_var r3 rfl ?_))
  ext
  refine T.run (k_btn i.kd σ) ?_
  refine ⟨_,rfl,?_⟩
  cases e4:i.kd.isBtn with
  | true=>
   have e1:i.kd.isNo=false:=by cases h:i.kd <;> rw [h] at e4 <;> first|rfl|cases e4
   rw [e1,if_neg Bool.false_ne_true,e4,if_pos rfl] at q
   rw [valOf_btn e4] at r4
   refine t_asg (t_lcomp (t_fwd (t_sub (t_var r1 rfl ?_))))
   ext
   refine T.run (a:=V.list (ws.map fun w=>refV w.1)) (σ':=σ) rfl ?_
   ext
   refine comp_map2 (f:=fun w=>V.str w.2.st) (fun w hmem Q hq=>?_) ?_
   ·obtain ⟨we,hk,hwe⟩:=hw w hmem
    refine t_attr (t_sub (t_fetch (t_var ((List.getElem?_set_ne (by decide)).trans r0) rfl ?_)))
    refine ⟨rfl,?_⟩
    refine t_cons (t_var (List.getElem?_set_self rl) rfl (t_nil ?_))
    refine fetch_ref h1 hk rfl ?_
    ext
    refine get_dict hwe.as ?_
    exact T.run (a:=V.str w.2.st) (σ':=σ) rfl hq
   refine mkl (by rw [List.length_map];unfold cap;lia) ?_
   have e:(ws.map fun w=>V.str w.2.st)=(ws.map fun w=>w.2.st).map V.str:=by rw [List.map_map];rfl
   rw [if_neg Bool.false_ne_true,if_neg Bool.false_ne_true,e]
   refine t_ret (t_ife (t_cmp (t_var (List.getElem?_set_self (by lia)) rfl ?_)))
   refine t_call (t_glob rfl (t_cons (t_var ((List.getElem?_set_ne (by decide)).trans r0) rfl (t_cons (t_var ((List.getElem?_set_ne (by decide)).trans r1) rfl (t_cons (t_var ((List.getElem?_set_ne (by decide)).trans r4) rfl (t_nil ?_))))))))
   refine lawstates_ok h1 hi hw hl fun σ' g=>?_
   have hq:=q σ' g
   unfold rightAS at hq
   refine eq_lists ?_
   refine ⟨_,rfl,?_⟩
   cases ed:decide ((ws.map fun w=>w.2.st)=shownL (lone i.kd i) (stOf i.v) [] (ws.map fun w=>onL w.2)) with
   | true=>
    rw [ed,if_pos rfl] at hq
    ext
    exact mkl (by decide) (t_contr hq)
   | false=>
    rw [ed,if_neg Bool.false_ne_true] at hq
    ext
    exact mkl (by decide) (t_contr hq)
  | false=>
   refine t_end (t_cont (t_ret (t_ife (t_cmp (t_var r3 rfl ?_)))))
   ext
   refine T.run (k_no i.kd σ) ?_
   refine ⟨_,rfl,?_⟩
   rw [e4,if_neg Bool.false_ne_true] at q
   have q:=q σ (.refl σ)
   cases e1:i.kd.isNo with
   | true=>
    rw [e1] at q
    ext
    exact mkl (by decide) q
   | false=>
    rw [e1] at q
    ext
    exact mkl (by decide) q
 let ρ₀:Env':=[shV,.tup [x0,refV k,up,.dict es,.list (ws.map fun w=>refV w.1)],.dict es,.str i.kd.str,valOf i.kd i.v,.unb,.unb,.unb,.unb]
 let b4:MSs:=.cons (.asg (.one 6) (.lcomp false (.attr (.sub (.meth (.var 0) (S "fetch") (.cons (.var 7) .nil)) (.str (S "AS"))) (S "text")) (.one 7) (.fwd (.sub (.var 1) (.int 4))) .nil))
    (.cons (.ret (.ife (.cmp .eq (.var 6) (.call (.glob 67) (.cons (.var 0) (.cons (.var 1) (.cons (.var 4) .nil))))) (.list false .nil) (.list false (.cons (.str (S "wrong AS")) .nil)))) .nil)
 let tl:MSs:=.cons (.ifs (.cmp .in (.var 3) (.tup (.cons (.str (S "check")) (.cons (.str (S "radio")) .nil)))) b4 .nil) (.cons (.ret (.ife (.cmp .eq (.var 3) (.str (S ""))) (.list false (.cons (.str (S "no kind")) .nil)) (.list false .nil))) .nil)
 let b3:MSs:=.cons (.asg (.one 5) (.ife (.call (.glob 9) (.cons (.var 4) (.cons (.glob 13) .nil))) (.var 4) (.list false (.cons (.var 4) .nil))))
  (.cons (.ret (.ife (.cmp .gt (.call (.glob 7) (.cons (.lcomp false (.var 8) (.one 8) (.fwd (.var 5)) (.cons (.cmp .nin (.var 8) (.call (.glob 68) (.cons (.var 2) .nil))) .nil)) .nil)) (.int 0)) (.list false (.cons (.str (S "not among Opt")) .nil)) (.list false .nil))) .nil)
 let th:MSs:=.cons (.ifs (.and (.cons (.cmp .eq (.var 3) (.str (S "choice"))) (.cons (.cmp .isnt (.var 4) .none) (.cons (.not (.and (.cons (.call (.glob 63) (.cons (.var 2) (.cons (.int 18) .nil))) (.cons (.call (.glob 63) (.cons (.var 2) (.cons (.int 19) .nil))) .nil)))) .nil)))) b3 .nil) tl
 have rest':(∀ σ',Gr σ σ'→Q (.list ((if i.kd.isNo then [S "no kind"] else if i.kd.isBtn then (if rightAS i ws then [] else [S "wrong AS"]) else []).map V.str)) σ')→T (exs (callF (n+4)) tl ρ₀) σ fun r σ=>Q (valueOf r.1) σ:=fun q=>rest ρ₀ rfl rfl rfl rfl (show 7<9 by decide) q
 have three:(∀ σ',Gr σ σ'→Q (.list ((if i.kd.isNo then [S "no kind"] else if i.kd.isCh then (if (i.flag 18&&i.flag 19) || allIn i then [] else [S "not among Opt"]) else if i.kd.isBtn then (if rightAS i ws then [] else [S "wrong AS"]) else []).map V.str)) σ')→
   T (exs (callF (n+4)) th ρ₀) σ fun r σ=>Q (valueOf r.1) σ:=by
  intro q
  cases e3:i.kd.isCh with
  | false=>
   refine t_ifs (t_and (t_and_cons (t_cmp (t_var rfl rfl (t_str ?_)))))
   refine T.run (k_ch i.kd σ) ?_
   refine ⟨_,rfl,?_⟩
   rw [e3]
   refine ⟨false,rfl,?_⟩
   refine t_end (t_cont (rest' fun σ' g=>?_))
   have:=q σ' g
   rw [e3,if_neg Bool.false_ne_true] at this
   exact this
  | true=>
   have e1:i.kd.isNo=false:=by cases h:i.kd <;> rw [h] at e3 <;> first|rfl|cases e3
   have e4:i.kd.isBtn=false:=by cases h:i.kd <;> rw [h] at e3 <;> first|rfl|cases e3
   rw [e1,if_neg Bool.false_ne_true,e3,if_pos rfl] at q
   have out:((i.flag 18&&i.flag 19) || allIn i)=true→T (exs (callF (n+4)) tl ρ₀) σ fun r σ=>Q (valueOf r.1) σ:=fun e=>rest' fun σ' g=>by
    have:=q σ' g
    rw [e,if_pos rfl] at this
    rw [e1,e4]
    exact this
   have va:valOf i.kd i.v=(match i.v with
    | some (.lst bs)=>.list (bs.map fun b=>V.str (txt b))
    | v=>plainV v):=valOf_ch e3 i.v
   have sum:∀ (vs:List Str),valsOf i.v=vs→vs.length<1000→(i.flag 18&&i.flag 19)=false→∀ ρ':Env',ρ'[2]?=some (.dict es)→ρ'[5]?=some (.list (vs.map V.str))→8<ρ'.length→
     T (exs (callF (n+4)) (.cons (.ret (.ife (.cmp .gt (.call (.glob 7) (.cons (.lcomp false (.var 8) (.one 8) (.fwd (.var 5)) (.cons (.cmp .nin (.var 8) (.call (.glob 68) (.cons (.var 2) .nil))) .nil)) .nil)) (.int 0)) (.list false (.cons (.str (S "not among Opt")) .nil)) (.list false .nil))) .nil) ρ') σ fun r σ=>T (cont (callF (n+4)) tl r) σ fun r σ=>Q (valueOf r.1) σ:=by
    intro vs hv hl ff ρ' r2 r5 rl
    refine t_ret (t_ife (t_cmp (t_call (t_glob rfl (t_cons (t_lcomp (t_fwd (t_var r5 rfl (items_list ?_)))))))))
    refine comp_filter2 (f:=fun s=>V.str s) (p:=fun s=>!has (expsOf i) s) (fun s hs B hB=>?_) (fun s hs Q hq=>?_) ?_
    ·refine cnd_one (t_cmp (t_var (List.getElem?_set_self (by lia)) rfl (t_call (t_glob rfl (t_cons (t_var ((List.getElem?_set_ne (by decide)).trans r2) rfl (t_nil ?_)))))))
     refine exports_ok hi ?_
     have e:((optL i).map fun o=>V.str (txt o.fst))=(expsOf i).map V.str:=by unfold expsOf;rw [List.map_map];rfl
     rw [e]
     exact nin_list ⟨_,rfl,hB⟩
    ·exact t_var (List.getElem?_set_self (by lia)) rfl hq
    refine mkl (by rw [List.length_map];exact Nat.lt_of_le_of_lt (List.length_filter_le _ _) (by unfold cap;lia)) ?_
    refine t_nil ?_
    refine T.run (a:=V.int (vs.filter fun s=>!has (expsOf i) s).length) (σ':=σ) (by rw [if_neg Bool.false_ne_true,if_neg Bool.false_ne_true];show some (V.int (((vs.filter fun s=>!has (expsOf i) s).map fun s=>V.str s).length:Int),σ)=_;rw [List.length_map]) ?_
    refine t_int ?_
    refine T.run (a:=decide ((0:Int)<(vs.filter fun s=>!has (expsOf i) s).length)) (σ':=σ) rfl ?_
    refine ⟨_,rfl,?_⟩
    rw [all_filter vs fun s=>has (expsOf i) s]
    have hq:=q σ (.refl σ)
    unfold allIn at hq
    rw [ff,hv,Bool.false_or] at hq
    cases ea:vs.all fun s=>has (expsOf i) s with
    | true=>
     rw [ea,if_pos rfl] at hq
     refine t_list (t_nil (mkl (by decide) (t_contr hq)))
    | false=>
     rw [ea,if_neg Bool.false_ne_true] at hq
     refine t_list (t_cons (t_str (t_nil (mkl (show 1<cap by decide) (t_contr hq)))))
   refine t_ifs (t_and (t_and_cons (t_cmp (t_var rfl rfl (t_str ?_)))))
   refine T.run (k_ch i.kd σ) ?_
   refine ⟨_,rfl,?_⟩
   rw [e3]
   refine t_and_cons (t_cmp (t_var rfl hu (t_none ?_)))
   have flags:(∀ fr:Bool,fr=(i.flag 18&&i.flag 19)→∀ Q':V→Mem→Prop,Q' (.bool (!fr)) σ→T (ev (callF (n+4)) (.not (.and (.cons (.call (.glob 63) (.cons (.var 2) (.cons (.int 18) .nil))) (.cons (.call (.glob 63) (.cons (.var 2) (.cons (.int 19) .nil))) .nil)))) ρ₀) σ Q'):=by
    intro fr hf Q' hq
    refine t_not (t_and (t_and_cons (t_call (t_glob rfl (t_cons (t_var rfl rfl (t_cons (t_int (t_nil ?_)))))))))
    refine lawflag_ok (p:=18) (by decide) hi ?_
    refine ⟨_,rfl,?_⟩
    cases e18:i.flag 18 with
    | false=>
     rw [hf,e18] at hq
     exact T.run (a:=false) (σ':=σ) rfl hq
    | true=>
     refine t_and_cons (t_call (t_glob rfl (t_cons (t_var rfl rfl (t_cons (t_int (t_nil ?_)))))))
     refine lawflag_ok (p:=19) (by decide) hi ?_
     refine ⟨_,rfl,?_⟩
     rw [hf,e18] at hq
     cases e19:i.flag 19 with
     | false=>rw [e19] at hq;exact T.run (a:=false) (σ':=σ) rfl hq
     | true=>rw [e19] at hq;exact t_and_nil (T.run (a:=true) (σ':=σ) rfl hq)
   have nov:valsOf i.v=[]→allIn i=true:=fun e=>by unfold allIn;rw [e];rfl
   obtain ⟨v,hV⟩:∃ v,i.v=v:=⟨_,rfl⟩
   cases v with
   | none=>
    refine T.run (a:=false) (σ':=σ) (by rw [va,hV];rfl) ?_
    refine ⟨false,rfl,false,rfl,?_⟩
    exact t_end (t_cont (out (by rw [nov (by rw [hV];rfl),Bool.or_true])))
   | some x=>
    have go:∀ (vs:List Str) (y:V),valsOf i.v=vs→vs.length<1000→(∀ Q':V→Mem→Prop,Q' (.list (vs.map V.str)) σ→T (ev (callF (n+4)) (.ife (.call (.glob 9) (.cons (.var 4) (.cons (.glob 13) .nil))) (.var 4) (.list false (.cons (.var 4) .nil))) ρ₀) σ Q')→
      ∃ q,V.bool true=V.bool q∧(match q with
       | true=>T (evAnd (callF (n+4)) (.cons (.not (.and (.cons (.call (.glob 63) (.cons (.var 2) (.cons (.int 18) .nil))) (.cons (.call (.glob 63) (.cons (.var 2) (.cons (.int 19) .nil))) .nil)))) .nil) ρ₀) σ fun x σ=>∃ q,x=V.bool q∧T (exs (callF (n+4)) (match q with|true=>b3|false=>.nil) ρ₀) σ fun r σ=>T (cont (callF (n+4)) tl r) σ fun r σ=>Q (valueOf r.1) σ
       | false=>∃ q,V.bool false=V.bool q∧T (exs (callF (n+4)) (match q with|true=>b3|false=>.nil) ρ₀) σ fun r σ=>T (cont (callF (n+4)) tl r) σ fun r σ=>Q (valueOf r.1) σ):=by
     intro vs y hv hl some_
     refine ⟨true,rfl,?_⟩
     refine t_and_cons (flags _ rfl _ ?_)
     refine ⟨_,rfl,?_⟩
     cases ef:(i.flag 18&&i.flag 19) with
     | true=>
      refine ⟨false,rfl,?_⟩
      exact t_end (t_cont (out (by rw [ef];rfl)))
     | false=>
      refine t_and_nil ⟨true,rfl,?_⟩
      refine t_asg (some_ _ ?_)
      exact sum vs hv hl ef _ rfl rfl (show 8<9 by decide)
    cases x with
    | seven=>
     refine T.run (a:=false) (σ':=σ) (by rw [va,hV];rfl) ?_
     refine ⟨false,rfl,false,rfl,?_⟩
     exact t_end (t_cont (out (by rw [nov (by rw [hV];rfl),Bool.or_true])))
    | name s=>
     refine T.run (a:=false) (σ':=σ) (by rw [va,hV];rfl) ?_
     refine ⟨false,rfl,false,rfl,?_⟩
     exact t_end (t_cont (out (by rw [nov (by rw [hV];rfl),Bool.or_true])))
    | str b=>
     refine T.run (a:=true) (σ':=σ) (by rw [va,hV];rfl) ?_
     refine go [txt b] .none (by rw [hV];rfl) (show 1<1000 by decide) fun Q' hq=>?_
     have r4:ρ₀[4]?=some (.str (txt b)):=by show some (valOf i.kd i.v)=_;rw [va,hV];rfl
     refine t_ife ?_
     ext
     refine isi_call (b:=false) (by rw [va,hV];rfl) ?_
     refine ⟨false,rfl,?_⟩
     exact t_list (t_cons (t_var r4 rfl (t_nil (mkl (show 1<cap by decide) hq))))
    | lst bs=>
     have hok:=hi.vok _ hV
     refine T.run (a:=true) (σ':=σ) (by rw [va,hV];rfl) ?_
     refine go (bs.map txt) .none (by rw [hV];rfl) (by rw [List.length_map];have:=hok.1;lia) fun Q' hq=>?_
     have r4:ρ₀[4]?=some (.list (bs.map fun b=>V.str (txt b))):=by show some (valOf i.kd i.v)=_;rw [va,hV]
     refine t_ife ?_
     ext
     refine isi_call (b:=true) (by rw [va,hV];rfl) ?_
     refine ⟨true,rfl,?_⟩
     rw [List.map_map] at hq
     exact t_var r4 rfl hq
 refine t_ifs (t_and (t_and_cons (t_cmp (t_var rfl rfl (t_str ?_)))))
 refine T.run (k_tx i.kd σ) ?_
 refine ⟨_,rfl,?_⟩
 cases e2:i.kd.isTx with
 | false=>
  rw [e2] at q
  refine ⟨false,rfl,?_⟩
  exact t_end (t_cont (three fun σ' g=>q σ' g))
 | true=>
  have e1:i.kd.isNo=false:=by cases h:i.kd <;> rw [h] at e2 <;> first|rfl|cases e2
  have e3:i.kd.isCh=false:=by cases h:i.kd <;> rw [h] at e2 <;> first|rfl|cases e2
  have e4:i.kd.isBtn=false:=by cases h:i.kd <;> rw [h] at e2 <;> first|rfl|cases e2
  rw [e1,if_neg Bool.false_ne_true,e2,if_pos rfl] at q
  have out:tooLong i=false→T (exs (callF (n+4)) th ρ₀) σ fun r σ=>Q (valueOf r.1) σ:=fun e=>three fun σ' g=>by
   have:=q σ' g
   rw [e] at this
   rw [e1,e3,e4];exact this
  have va:=valOf_tx e2 i.v
  refine t_and_cons (t_cmp (t_var rfl hu (t_none ?_)))
  obtain ⟨v,hV⟩:∃ v,i.v=v:=⟨_,rfl⟩
  cases v with
  | none=>
   refine T.run (a:=false) (σ':=σ) (by rw [va,hV];rfl) ?_
   refine ⟨false,rfl,false,rfl,?_⟩
   exact t_end (t_cont (out (by unfold tooLong;rw [hV])))
  | some x=>
   cases x with
   | str b=>
    have hb:b∈byStrs:=hi.vok _ hV
    refine T.run (a:=true) (σ':=σ) (by rw [va,hV];rfl) ?_
    refine ⟨true,rfl,?_⟩
    refine t_and_cons (t_cmp (t_str (t_var rfl rfl (in_dic ?_))))
    refine ⟨_,rfl,?_⟩
    rw [ml]
    cases em:i.ml with
    | false=>
     refine ⟨false,rfl,?_⟩
     exact t_end (t_cont (out (by unfold tooLong;rw [hV,em];rfl)))
    | true=>
     have r4:ρ₀[4]?=some (.str (txt b)):=by show some (valOf i.kd i.v)=_;rw [va,hV];rfl
     refine t_and_cons (t_cmp (t_call ?_))
     refine t_glob rfl (t_cons ?_)
     refine t_var r4 rfl (t_nil ?_)
     refine len_str (by have:=txt_len hb;unfold cap;lia) ?_
     refine t_int ?_
     refine T.run (a:=decide ((3:Int)<(txt b).cps.size)) (σ':=σ) rfl ?_
     refine ⟨_,rfl,?_⟩
     have et:tooLong i=decide ((3:Int)<(txt b).cps.size):=by unfold tooLong;rw [hV,em];rfl
     rw [et] at q out
     cases ed:decide ((3:Int)<(txt b).cps.size) with
     | true=>
      have hq:=q σ (.refl σ)
      rw [ed,if_pos rfl] at hq
      refine t_and_nil ⟨true,rfl,?_⟩
      exact t_ret (t_list (t_cons (t_str (t_nil (mkl (show 1<cap by decide) (t_contr hq))))))
     | false=>
      refine ⟨false,rfl,?_⟩
      exact t_end (t_cont (out ed))
   | _=>
    refine T.run (a:=false) (σ':=σ) (by rw [va,hV];rfl) ?_
    refine ⟨false,rfl,false,rfl,?_⟩
    exact t_end (t_cont (out (by unfold tooLong;rw [hV])))
end
inductive Par|none|five|ref (m:Int)
noncomputable def Par.val:Par→V
 | .none=>.none|.five=>.int 5|.ref m=>refV m
noncomputable def Par.num:Par→Int
 | .ref m=>m
 | _=>0
noncomputable def Par.isRef:Par→Bool
 | .ref _=>true
 | _=>false
noncomputable def upV:Option Int→V
 | none=>.none
 | some m=>refV m
noncomputable def upN:Option Int→Int
 | none=>0
 | some m=>m
noncomputable def dotIn:Option (List UInt8)→Bool
 | none=>false
 | some b=>b.contains 46
noncomputable def linkW (p:Par) (up:Option Int) (t:Option (List UInt8)):List Str:=(if decide (p.num=upN up) then [] else [S "wrong Parent"])++(if dotIn t then [S "a dot in T"] else [])
structure NodeOK (es:List (Str×V)) (p:Par) (t:Option (List UInt8)):Prop where
 par:(asc es (S "Parent")).getD .none=p.val
 pos:∀ m,p=.ref m→1≤m
 ti:asc es (S "T")=t.map strV
 tok:∀ b,t=some b→b∈byStrs
section
variable {n:Nat} {σ:Mem} {Q:V→Mem→Prop} {tb:List (Int×V)} {es we:List (Str×V)} {p:Par} {up:Option Int} {t:Option (List UInt8)} {C:Calls}
theorem par_simple (p:Par):noU p.val=true:=by cases p <;> rfl
theorem par_isRef (p:Par) (σ:Mem):isKind p.val (.cls 2) σ=some (p.isRef,σ):=by cases p <;> rfl
theorem txt_dot {b:List UInt8} (hb:b∈byStrs):(txt b).cps.toList.contains 46=b.contains 46:=by
 simp only [byStrs,List.mem_cons,List.not_mem_nil,or_false] at hb
 rcases hb with rfl|rfl|rfl|rfl|rfl|rfl|rfl|rfl <;> decide
theorem links_ok {k:Int} (h1:σ[1]?=some (.id tb)) (hk:ascI tb k=some (.tup [.int 0,.dict es])) (ho:NodeOK es p t) (hup:∀ m,up=some m→1≤m) (q:Q (.list ((linkW p up t).map V.str)) σ) :
  T (callF (n+4) 31 [shV,refV k,upV up]) σ Q:=by
 have hpu:=par_simple p
 have huu:noU (upV up)=true:=by cases up <;> rfl
 have hpos:=ho.pos
 refine t_fun (f:=f_node_faults) rfl rfl rfl ?_
 dsimp only [f_node_faults]
 refine t_asg (t_fetch (t_var rfl rfl ?_))
 refine ⟨rfl,?_⟩
 ext
 refine fetch_ref h1 hk rfl ?_
 ext
 refine dget1 rfl rfl ?_
 rw [ho.par]
 let pr:V:=match p with|.ref m=>.tup [.int m,.int 0]|_=>.none
 let ur:V:=match up with|some m=>.tup [.int m,.int 0]|none=>.none
 have hpr:noU pr=true:=by cases p <;> rfl
 have e5:∀ ρ:Env',ρ[4]?=some p.val→∀ Q':V→Mem→Prop,Q' pr σ→T (ev (callF (n+3)) (.ife (.call (.glob 9) (.cons (.var 4) (.cons (.glob 2) .nil))) (.meth (.var 4) (S "pair") .nil) .none) ρ) σ Q':=by
  intro ρ r4 Q' hq
  refine t_ife (t_call ?_)
  refine t_glob rfl (t_cons (t_var r4 hpu ?_))
  ext
  refine isi_call (par_isRef p σ) ?_
  cases p with
  | ref m=>
   refine ⟨true,rfl,?_⟩
   refine t_methO (t_var r4 rfl ?_)
   exact ⟨2,_,6,rfl,rfl,t_nil (.run (a:=.tup [.int m,.int 0]) (σ':=σ) rfl hq)⟩
  | none=>exact ⟨false,rfl,t_none hq⟩
  | five=>exact ⟨false,rfl,t_none hq⟩
 refine t_asg (e5 _ rfl _ ?_)
 have e6:∀ ρ:Env',ρ[5]?=some pr→ρ[2]?=some (upV up)→∀ Q':V→Mem→Prop,Q' (.list ((if decide (p.num=upN up) then [] else [S "wrong Parent"]).map V.str)) σ→T (ev (callF (n+3)) (.ife (.cmp .eq (.var 5) (.ife (.cmp .is (.var 2) .none) .none (.meth (.var 2) (S "pair") .nil))) (.list false .nil) (.list false (.cons (.str (S "wrong Parent")) .nil))) ρ) σ Q':=by
  intro ρ r5 r2 Q' hq
  refine t_ife (t_cmp (t_var r5 hpr ?_))
  have eu:∀ Q':V→Mem→Prop,Q' ur σ→T (ev (callF (n+3)) (.ife (.cmp .is (.var 2) .none) .none (.meth (.var 2) (S "pair") .nil)) ρ) σ Q':=by
   intro Q' hq
   refine t_ife (t_cmp (t_var r2 huu (t_none ?_)))
   cases up with
   | none=>exact T.run (a:=true) (σ':=σ) rfl ⟨true,rfl,t_none hq⟩
   | some m=>
    refine T.run (a:=false) (σ':=σ) rfl ⟨false,rfl,?_⟩
    refine t_methO (t_var r2 rfl ?_)
    exact ⟨2,_,6,rfl,rfl,t_nil (.run (a:=.tup [.int m,.int 0]) (σ':=σ) rfl hq)⟩
  refine eu _ ?_
  have ec:cmpV .eq pr ur σ=some (decide (p.num=upN up),σ):=by
   cases up with
   | none=>
    cases p with
    | none=>rfl
    | five=>rfl
    | ref m=>
     have:=hpos m rfl
     show some (false,σ)=some (decide (m=0),σ)
     rw [decide_eq_false (by lia)]
   | some u=>
    have hu:=hup u rfl
    cases p with
    | none=>
     show some (false,σ)=some (decide ((0:Int)=u),σ)
     rw [decide_eq_false (by lia)]
    | five=>
     show some (false,σ)=some (decide ((0:Int)=u),σ)
     rw [decide_eq_false (by lia)]
    | ref m=>
     show some (decide (m=u)&&(decide ((0:Int)=0)&&true),σ)=some (decide (m=u),σ)
     simp
  refine T.run ec ?_
  refine ⟨_,rfl,?_⟩
  cases ed:decide (p.num=upN up) with
  | true=>rw [ed] at hq;exact t_list (t_nil (mkl (by decide) hq))
  | false=>rw [ed] at hq;exact t_list (t_cons (t_str (t_nil (mkl (show 1<cap by decide) hq))))
 refine t_asg (e6 _ rfl rfl _ ?_)
 ext
 refine ownname_ok h1 ho.ti ho.tok ?_
 have hl:((if decide (p.num=upN up) then [] else [S "wrong Parent"]).map V.str).length≤1:=by cases decide (p.num=upN up) <;> decide
 have hc:∀ ys:List V,ys.length≤1→(((if decide (p.num=upN up) then [] else [S "wrong Parent"]).map V.str)++ys).length<cap:=fun ys h=>by
  rw [List.length_append];unfold cap;lia
 have htu:noU (oStr (t.map txt))=true:=by cases t <;> rfl
 unfold linkW at q
 rw [List.map_append] at q
 ext
 cases t with
 | none=>
  refine T.run (a:=false) (σ':=σ) rfl ?_
  refine ⟨false,rfl,false,rfl,?_⟩
  refine t_list (t_nil (mkl (by decide) ?_))
  exact add_list (mkl (hc [] (by decide)) q)
 | some b=>
  have hb:=ho.tok b rfl
  refine T.run (a:=true) (σ':=σ) rfl ?_
  refine ⟨true,rfl,?_⟩
  ext
  refine T.run (a:=b.contains 46) (σ':=σ) ?_ ?_
  ·rw [← txt_dot hb];kernel_rfl
  refine ⟨_,rfl,?_⟩
  have ed:dotIn (some b)=b.contains 46:=rfl
  rw [ed] at q
  cases ed2:b.contains 46 with
  | true=>
   rw [ed2] at q
   refine t_and_nil ⟨true,rfl,?_⟩
   refine t_list (t_cons (t_str (t_nil (mkl (show 1<cap by decide) ?_))))
   exact add_list (mkl (hc [.str (S "a dot in T")] (show 1≤1 by decide)) q)
  | false=>
   rw [ed2] at q
   refine ⟨false,rfl,?_⟩
   refine t_list (t_nil (mkl (by decide) ?_))
   exact add_list (mkl (hc [] (by decide)) q)
theorem lawlinks_ok {k:Int} (h1:σ[1]?=some (.id tb)) (hk:ascI tb k=some (.tup [.int 0,.dict es])) (ho:NodeOK es p t) (q:∀ σ',Gr σ σ'→Q (.list ((linkW p up t).map V.str)) σ') :
  T (callF (n+2) 49 [shV,refV k,upV up]) σ Q:=by
 have hpu:=par_simple p
 have huu:noU (upV up)=true:=by cases up <;> rfl
 have hlt:=(List.getElem?_eq_some_iff.mp h1).1
 have g:=Gr.push σ (.list [])
 refine t_fun (f:=f_law_links) rfl rfl rfl ?_
 dsimp only [f_law_links]
 refine t_asg (t_fetch (t_var rfl rfl ?_))
 refine ⟨rfl,?_⟩
 ext
 refine fetch_ref h1 hk rfl ?_
 ext
 refine dget1 rfl rfl ?_
 rw [ho.par]
 refine t_asg (t_list (t_nil (mkl (b:=true) (by decide) ?_)))
 refine t_ifs (t_cmp (t_ife (t_call ?_)))
 refine t_glob rfl (t_cons (t_var rfl hpu ?_))
 ext
 refine isi_call (par_isRef p _) ?_
 refine ⟨_,rfl,?_⟩
 let ρ:Env':=[shV,refV k,upV up,.dict es,p.val,.cell σ.length]
 have e1:∀ Q':V→Mem→Prop,Q' (.int p.num) (σ++[.list []])→T (ev (callF (n+1)) (match p.isRef with|true=>.attr (.var 4) (S "number")|false=>.int 0) ρ) (σ++[.list []]) Q':=by
  intro Q' hq
  cases p with
  | ref m=>exact t_attr (t_var rfl rfl (.run (a:=.int m) (σ':=σ++[Ob.list []]) rfl hq))
  | none=>exact t_int hq
  | five=>exact t_int hq
 refine e1 _ ?_
 have e2:∀ Q':V→Mem→Prop,Q' (.int (upN up)) (σ++[.list []])→T (ev (callF (n+1)) (.ife (.cmp .is (.var 2) .none) (.int 0) (.attr (.var 2) (S "number"))) ρ) (σ++[.list []]) Q':=by
  intro Q' hq
  refine t_ife (t_cmp (t_var rfl huu (t_none ?_)))
  cases up with
  | none=>exact T.run (a:=true) (σ':=σ++[Ob.list []]) rfl ⟨true,rfl,t_int hq⟩
  | some m=>
   refine T.run (a:=false) (σ':=σ++[Ob.list []]) rfl ⟨false,rfl,?_⟩
   exact t_attr (t_var rfl rfl (.run (a:=.int m) (σ':=σ++[Ob.list []]) rfl hq))
 refine e2 _ ?_
 refine T.run (a:=!decide (p.num=upN up)) (σ':=σ++[Ob.list []]) rfl ?_
 refine ⟨_,rfl,?_⟩
 have two:∀ (ws:List Str) (σ':Mem),Gr σ σ'→σ'[σ.length]?=some (.list (ws.map V.str))→ws.length≤1→ws++(if dotIn t then [S "a dot in T"] else [])=linkW p up t→
   T (exs (callF (n+1)) (.cons (.ifs (.and (.cons (.cmp .in (.str (S "T")) (.var 3)) (.cons (.cmp .in (.byts [46]) (.attr (.sub (.var 3) (.str (S "T"))) (S "octets"))) .nil))) (.cons (.expr (.meth (.var 5) (S "append") (.cons (.str (S "a dot in T")) .nil))) .nil) .nil)
    (.cons (.ret (.frz (.var 5))) .nil)) ρ) σ' fun r σ=>Q (valueOf r.1) σ:=by
  intro ws σ' g' hc hl he
  have fin:∀ (vs:List Str) (σ'':Mem),Gr σ σ''→σ''[σ.length]?=some (.list (vs.map V.str))→vs=linkW p up t→T (exs (callF (n+1)) (.cons (.ret (.frz (.var 5))) .nil) ρ) σ'' fun r σ=>Q (valueOf r.1) σ:=by
   intro vs σ'' g'' hc he
   refine t_ret (t_frz (t_var rfl rfl (frz_list hc ?_)))
   rw [he]
   exact q _ (g''.set (Nat.le_refl _) _)
  refine t_ifs (t_and (t_and_cons (t_cmp (t_str (t_var rfl rfl (in_dic ?_))))))
  refine ⟨_,rfl,?_⟩
  rw [ho.ti]
  cases t with
  | none=>
   refine ⟨false,rfl,?_⟩
   refine t_end (t_cont (fin ws σ' g' hc ?_))
   rw [← he];exact (List.append_nil ws).symm
  | some b=>
   refine t_and_cons (t_cmp (t_byts (t_attr (t_sub (t_var rfl rfl (t_str (get_dict ho.ti ?_)))))))
   refine T.run (a:=V.byts b) (σ':=σ') rfl ?_
   refine T.run (a:=b.contains 46) (σ':=σ') rfl ?_
   refine ⟨_,rfl,?_⟩
   have ed:dotIn (some b)=b.contains 46:=rfl
   rw [ed] at he
   cases ed2:b.contains 46 with
   | false=>
    rw [ed2] at he
    refine ⟨false,rfl,?_⟩
    refine t_end (t_cont (fin ws σ' g' hc ?_))
    rw [← he];exact (List.append_nil ws).symm
   | true=>
    rw [ed2] at he
    refine t_and_nil ⟨true,rfl,?_⟩
    refine t_expr (t_meth (t_var rfl rfl (t_pre (pre_cell hc) ?_)))
    refine ⟨.inr rfl,?_⟩
    refine t_cons (t_str (t_nil (t_pre (pre_cell hc) ?_)))
    refine ⟨rfl,app_cell hc (by rw [List.length_map];unfold cap;lia) ?_⟩
    refine t_end (t_cont (fin (ws++[S "a dot in T"]) _ (g'.set (Nat.le_refl _) _) ?_ he))
    rw [at_set hc,List.map_append];rfl
 have hn:=at_new σ (.list [])
 cases ed:decide (p.num=upN up) with
 | true=>
  refine t_end (t_cont ?_)
  exact two [] _ g hn (by decide) (by unfold linkW;rw [ed];rfl)
 | false=>
  refine t_expr (t_meth (t_var rfl rfl (t_pre (pre_cell hn) ?_)))
  refine ⟨.inr rfl,?_⟩
  refine t_cons (t_str (t_nil (t_pre (pre_cell hn) ?_)))
  refine ⟨rfl,app_cell hn (by decide) ?_⟩
  refine t_end (t_cont ?_)
  refine two [S "wrong Parent"] _ (g.set (Nat.le_refl _) _) ?_ (show 1≤1 by decide) (by unfold linkW;rw [ed];rfl)
  rw [at_set hn];rfl
end
theorem asc_sto (k:Str) (v:V) (s:Str):∀ es:List (Str×V),asc (sto es k v) s=if k=s then some v else asc es s
 | []=>rfl
 | (x,u)::r=>by
  unfold sto
  by_cases h:x=k
  ·rw [if_pos h]
   subst h
   show (if x=s then some v else asc r s)=if x=s then some v else (if x=s then some u else asc r s)
   by_cases hs:x=s
   ·rw [if_pos hs,if_pos hs]
   ·rw [if_neg hs,if_neg hs,if_neg hs]
  ·rw [if_neg h]
   show (if x=s then some u else asc (sto r k v) s)=if k=s then some v else (if x=s then some u else asc r s)
   rw [asc_sto k v s r]
   by_cases hs:x=s
   ·rw [if_pos hs,if_neg (fun e=>h (hs.trans e.symm)),if_pos hs]
   ·rw [if_neg hs,if_neg hs]
theorem sto_len (k:Str) (v:V):∀ es:List (Str×V),(sto es k v).length≤es.length+1
 | []=>Nat.le_refl _
 | (x,u)::r=>by
  unfold sto
  by_cases h:x=k
  ·rw [if_pos h];simp
  ·rw [if_neg h,List.length_cons,List.length_cons]
   have:=sto_len k v r
   lia
theorem ascI_sto (k:Int) (v:V) (s:Int):∀ es:List (Int×V),ascI (stoI es k v) s=if k=s then some v else ascI es s
 | []=>rfl
 | (x,u)::r=>by
  unfold stoI
  by_cases h:x=k
  ·rw [if_pos h]
   subst h
   show (if x=s then some v else ascI r s)=if x=s then some v else (if x=s then some u else ascI r s)
   by_cases hs:x=s
   ·rw [if_pos hs,if_pos hs]
   ·rw [if_neg hs,if_neg hs,if_neg hs]
  ·rw [if_neg h]
   show (if x=s then some u else ascI (stoI r k v) s)=if k=s then some v else (if x=s then some u else ascI r s)
   rw [ascI_sto k v s r]
   by_cases hs:x=s
   ·rw [if_pos hs,if_neg (fun e=>h (hs.trans e.symm)),if_pos hs]
   ·rw [if_neg hs,if_neg hs]
theorem stoI_len (k:Int) (v:V):∀ es:List (Int×V),(stoI es k v).length≤es.length+1
 | []=>Nat.le_refl _
 | (x,u)::r=>by
  unfold stoI
  by_cases h:x=k
  ·rw [if_pos h];simp
  ·rw [if_neg h,List.length_cons,List.length_cons]
   have:=stoI_len k v r
   lia
theorem asc_mem:∀ {es:List (Str×V)} {s:Str},s∈es.map (·.1)→∃ v,asc es s=some v
 | (x,u)::r,s,h=>by
  by_cases hs:x=s
  ·exact ⟨u,if_pos hs⟩
  ·rcases List.mem_cons.mp h with e|h
   ·exact absurd e.symm hs
   ·obtain ⟨v,e⟩:=asc_mem h
    exact ⟨v,(if_neg hs).trans e⟩
theorem asc_none:∀ {es:List (Str×V)} {s:Str},s∉es.map (·.1)→asc es s=none
 | [],_,_=>rfl
 | (x,u)::r,s,h=>by
  show (if x=s then some u else asc r s)=none
  rw [if_neg (fun e=>h (by rw [← e];exact .head _)),asc_none fun hm=>h (.tail _ hm)]
section
variable {n:Nat} {σ:Mem} {Q:V→Mem→Prop} {tb:List (Int×V)} {hs gs:List (Str×V)} {C:Calls}
theorem inh_loop {c:Nat} {a:V} {S:Fl×Env'→Mem→Prop}:∀ (ks:List Str) (acc:List (Str×V)) (b:V) (σ:Mem),σ[c]?=some (.sd acc)→(∀ k∈ks,∃ v,asc hs k=some v)→acc.length+ks.length<cap→
  (∀ (acc':List (Str×V)) (b:V),(∀ s,asc acc' s=if s∈ks then asc hs s else asc acc s)→acc'.length≤acc.length+ks.length→S (.next,[.dict hs,a,.cell c,b]) (σ.set c (.sd acc')))→
  T (loopS (exs (callF n) (loopOf f_with_inherited 0)) (.one 3) (ks.map V.str) [.dict hs,a,.cell c,b]) σ S
 | [],acc,b,σ,h,_,_,q=>by
  refine loop_nil ?_
  have:=q acc b (fun s=>by rw [if_neg (fun h=>nomatch h)]) (Nat.le_refl _)
  have e:σ.set c (.sd acc)=σ:=by
   apply List.ext_getElem?
   intro j
   by_cases hj:c=j
   ·subst hj;rw [at_set h,h]
   ·rw [at_ne hj]
  rw [e] at this;exact this
 | k::ks,acc,b,σ,h,hm,hl,q=>by
  obtain ⟨v,hv⟩:=hm k (.head _)
  refine loop_cons rfl ?_
  show T (exs (callF n) (.cons (.put (.var 2) (.var 3) (.sub (.var 0) (.var 3))) .nil) [.dict hs,a,.cell c,.str k]) σ _
  refine t_put (t_sub (t_var rfl rfl (t_var rfl rfl (get_dict hv ?_))))
  refine t_var rfl rfl (t_var rfl rfl (set_sd h (by rw [List.length_cons] at hl;lia) ?_))
  refine t_end (t_next ?_)
  have hln:=sto_len k v acc
  refine inh_loop ks (sto acc k v) (.str k) _ (at_set h) (fun x hx=>hm x (.tail _ hx)) (by rw [List.length_cons] at hl;lia) fun acc' b e l=>?_
  rw [List.set_set]
  refine q acc' b (fun s=>?_) (by rw [List.length_cons];lia)
  rw [e s,asc_sto]
  by_cases h1:s∈ks
  ·rw [if_pos h1,if_pos (.tail _ h1)]
  ·rw [if_neg h1]
   by_cases h2:k=s
   ·subst h2;rw [if_pos rfl,if_pos (.head _),hv]
   ·rw [if_neg h2,if_neg (fun hm=>(List.mem_cons.mp hm).elim (fun e=>h2 e.symm) h1)]
theorem inh_ok (hl:hs.length+gs.length<1000) (q:∀ (fs:List (Str×V)) (σ':Mem),(∀ s,asc fs s=(asc hs s).or (asc gs s))→fs.length≤hs.length+gs.length→Gr σ σ'→Q (.dict fs) σ'):T (callF (n+1) 20 [.dict hs,.dict gs]) σ Q:=by
 refine t_fun (f:=f_with_inherited) rfl rfl rfl ?_
 dsimp only [f_with_inherited]
 ext
 have g:=Gr.push σ (.sd gs)
 refine T.run (a:=.cell σ.length) (σ':=σ++[Ob.sd gs]) ?_ ?_
 ·show (if gs.length<cap then mkD 1 gs else fail) σ=_
  rw [if_pos (by unfold cap;lia)];rfl
 ext
 have e:(hs.map fun p=>V.str p.1)=(hs.map (·.1)).map V.str:=by rw [List.map_map];rfl
 rw [e]
 refine inh_loop (n:=n) (hs:=hs) (a:=.dict gs) (hs.map (·.1)) gs .unb _ (at_new σ _) (fun k hk=>asc_mem hk) (by rw [List.length_map];unfold cap;lia) fun acc' b e l=>?_
 ext
 refine frz_sd (at_set (at_new σ _)) ?_
 refine q acc' _ (fun s=>?_) (by rw [List.length_map] at l;lia) ((g.set (Nat.le_refl _) _).set (Nat.le_refl _) _)
 rw [e s]
 by_cases h:s∈hs.map (·.1)
 ·rw [if_pos h]
  obtain ⟨v,hv⟩:=asc_mem h
  rw [hv];rfl
 ·rw [if_neg h,asc_none h];rfl
theorem home_ok {k:Int} {x:V} (h1:σ[1]?=some (.id tb)) (hk:ascI tb k=some (.tup [.int 0,x])) (hx:simple x=true) (q:∀ σ',Gr σ σ'→Q (refV k) σ'):T (callF (n+1) 9 [shV,refV k]) σ Q:=by
 have hu:=simple_noU hx
 have g:=Gr.push σ (.id [])
 have hn:=at_new σ (.id [])
 have hlt:=(List.getElem?_eq_some_iff.mp h1).1
 refine t_fun (f:=f_home_of) rfl rfl rfl ?_
 dsimp only [f_home_of]
 ext
 refine t_dict2 ?_
 refine t_whiles ?_
 refine loop_while (n:=999) ?_
 ext
 refine isi_call (b:=true) rfl ?_
 refine ⟨true,rfl,?_⟩
 dsimp only
 ext
 refine T.run (a:=.int k) (σ':=σ++[Ob.id []]) rfl ?_
 ext
 refine nin_id hn ?_
 refine ⟨true,rfl,?_⟩
 dsimp only
 refine t_and_nil ⟨true,rfl,?_⟩
 dsimp only
 ext
 refine T.run (a:=.int k) (σ':=σ++[Ob.id []]) rfl ?_
 refine set_id hn (by decide) ?_
 have g2:Gr σ ((σ++[Ob.id []]).set σ.length (Ob.id (stoI [] k (.bool true)))):=g.set (Nat.le_refl _) _
 have h1':=g2.at h1
 ext
 refine T.run (a:=.cell 1) (σ':=(σ++[Ob.id []]).set σ.length (Ob.id (stoI [] k (.bool true)))) rfl ?_
 refine t_pre (pre_id h1') ?_
 refine ⟨.inr rfl,?_⟩
 ext
 refine T.run (a:=.int k) (σ':=(σ++[Ob.id []]).set σ.length (Ob.id (stoI [] k (.bool true)))) rfl ?_
 ext
 refine t_pre (pre_id h1') ?_
 refine ⟨rfl,iget2 h1' ?_⟩
 rw [hk]
 refine ⟨_,rfl,?_⟩
 ext
 refine T.run (a:=.int 0) (σ':=(σ++[Ob.id []]).set σ.length (Ob.id (stoI [] k (.bool true)))) rfl ?_
 walk_at "m2"
 refine ⟨false,rfl,?_⟩
 ext
 refine isi_call (isRef hx _) ?_
 walk_at "m2"
 refine ⟨true,rfl,?_⟩
 ext
 exact q _ g2
end
structure Leaf where
 k:Int
 up:Option Int
 parts:List Str
 i:Info
 ws:List (Int×Look)
 p:Par
 t:Option (List UInt8)
 x0:V
 wh:List (Str×V)
structure Grp where
 k:Int
 up:Option Int
 p:Par
 t:Option (List UInt8)
noncomputable abbrev nodeV (es:List (Str×V)):V:=.tup [.int 0,.dict es]
noncomputable def inhK:List Str:=[S "FT",S "Ff",S "V",S "DV",S "MaxLen",S "Opt"]
noncomputable def nextGv (es:List (Str×V)) (gv:Str→Option V):Str→Option V:=fun s=>if s∈inhK then (asc es s).or (gv s) else none
structure LeafOK (tb:List (Int×V)) (need:Bool) (up:Option Int) (parts:List Str) (gv:Str→Option V) (k:Int) (L:Leaf) (es:List (Str×V)) (ns:List Int):Prop where
 hk:L.k=k
 hup:L.up=up
 row:ascI tb k=some (nodeV es)
 node:NodeOK es L.p L.t
 hp:L.parts=parts++(L.t.map txt).toList
 info:InfoOK (fun s=>(asc es s).or (gv s)) L.i
 wid:Wids tb L.ws
 wl:L.ws.length<100
 len:es.length<100
 has:need=true→L.t≠none
 kids:(asc es (S "Kids")=none∧ns=[k]∧((L.ws.map (·.1)=[k]∧asc es (S "Subtype")=some (nameV (S "Widget")))∨(L.ws=[]∧asc es (S "Subtype")=none))) ∨
  (asc es (S "Kids")=some (.list (L.ws.map fun w=>refV w.1))∧ns=k::L.ws.map (·.1)∧L.ws≠[]∧∀ w∈L.ws,∃ we,ascI tb w.1=some (nodeV we)∧asc we (S "T")=none)
noncomputable def Forest {α:Type} (P:α→List Leaf→List Grp→List Int→Nat→Prop):List α→List Leaf→List Grp→List Int→Nat→Prop
 | [],rs,gs,ns,c=>rs=[]∧gs=[]∧ns=[]∧c=0
 | k::ks,rs,gs,ns,c=>∃ r1 g1 n1 c1 r2 g2 n2 c2,P k r1 g1 n1 c1∧Forest P ks r2 g2 n2 c2∧rs=r1++r2∧gs=g1++g2∧ns=n1++n2∧c=c1+c2
structure GrpOK (tb:List (Int×V)) (need:Bool) (k:Int) (es:List (Str×V)) (p:Par) (t:Option (List UInt8)) (ks:List Int):Prop where
 row:ascI tb k=some (nodeV es)
 node:NodeOK es p t
 has:need=true→t≠none
 len:es.length<100
 kids:asc es (S "Kids")=some (.list (ks.map refV))
 ne:ks≠[]
 pos:1≤k
noncomputable def Tree (tb:List (Int×V)):Nat→Bool→Option Int→List Str→(Str→Option V)→Int→List Leaf→List Grp→List Int→Nat→Prop
 | 0,need,up,parts,gv,k,rs,gs,ns,c=>∃ L es,LeafOK tb need up parts gv k L es ns∧rs=[L]∧gs=[]∧c=1
 | l+1,need,up,parts,gv,k,rs,gs,ns,c=>(∃ L es,LeafOK tb need up parts gv k L es ns∧rs=[L]∧gs=[]∧c=1) ∨
  ∃ es p t ks gs' ns' c',GrpOK tb need k es p t ks∧gs=⟨k,up,p,t⟩::gs'∧ns=k::ns'∧c=c'+1∧Forest (fun k' r g n c=>Tree tb l true (some k) (parts++(t.map txt).toList) (nextGv es gv) k' r g n c) ks rs gs' ns' c'
section
variable {α:Type} {P P':α→List Leaf→List Grp→List Int→Nat→Prop} {k:α} {ks:List α} {rs r1 r2:List Leaf} {gs g1 g2:List Grp} {ns n1 n2:List Int} {c c1 c2:Nat}
theorem Forest.k0 {G:List Leaf→List Grp→List Int→Nat→Prop} (h:Forest P [] rs gs ns c) (g:G [] [] [] 0):G rs gs ns c:=h.1▸h.2.1▸h.2.2.1▸h.2.2.2▸g
theorem Forest.k1 {G:List Leaf→List Grp→List Int→Nat→Prop} (h:Forest P (k::ks) rs gs ns c) (g:∀ r1 g1 n1 c1 r2 g2 n2 c2,P k r1 g1 n1 c1→Forest P ks r2 g2 n2 c2→G (r1++r2) (g1++g2) (n1++n2) (c1+c2)):G rs gs ns c:=by
 obtain ⟨r1,g1,n1,c1,r2,g2,n2,c2,h1,h2,rfl,rfl,rfl,rfl⟩:=h
 exact g _ _ _ _ _ _ _ _ h1 h2
theorem Forest.mk0:Forest P [] [] [] [] 0:=⟨rfl,rfl,rfl,rfl⟩
theorem Forest.mk1 (h:P k r1 g1 n1 c1) (f:Forest P ks r2 g2 n2 c2):Forest P (k::ks) (r1++r2) (g1++g2) (n1++n2) (c1+c2):=⟨_,_,_,_,_,_,_,_,h,f,rfl,rfl,rfl,rfl⟩
theorem Forest.ind {G:List α→List Leaf→List Grp→List Int→Nat→Prop} (h:Forest P ks rs gs ns c) (g0:G [] [] [] [] 0) (g:∀ k ks r1 g1 n1 c1 r2 g2 n2 c2,P k r1 g1 n1 c1→Forest P ks r2 g2 n2 c2→G ks r2 g2 n2 c2→G (k::ks) (r1++r2) (g1++g2) (n1++n2) (c1+c2)):G ks rs gs ns c:=by
 induction ks generalizing rs gs ns c with
 | nil=>exact h.k0 g0
 | cons k ks ih=>exact h.k1 fun r1 g1 n1 c1 r2 g2 n2 c2 h1 h2=>g k ks r1 g1 n1 c1 r2 g2 n2 c2 h1 h2 (ih h2)
theorem Forest.imp (h:Forest P ks rs gs ns c) (f:∀ k r g n c,P k r g n c→P' k r g n c):Forest P' ks rs gs ns c:=h.ind .mk0 fun k ks r1 g1 n1 c1 r2 g2 n2 c2 h1 _ ih=>.mk1 (f _ _ _ _ _ h1) ih
theorem forest_each (h:Forest P ks rs gs ns c):∀ k∈ks,∃ r g n c,P k r g n c:=h.ind (G:=fun ks _ _ _ _=>∀ k∈ks,∃ r g n c,P k r g n c) (fun _ h=>nomatch h) fun k ks r1 g1 n1 c1 r2 g2 n2 c2 h1 _ ih j hj=>(List.mem_cons.mp hj).elim (fun e=>e▸⟨_,_,_,_,h1⟩) (ih j)
theorem forest_len (hP:∀ k r g n c,P k r g n c→1≤c) (h:Forest P ks rs gs ns c):ks.length≤c:=h.ind (G:=fun ks _ _ _ c=>ks.length≤c) (Nat.le_refl 0) fun k ks r1 g1 n1 c1 r2 g2 n2 c2 h1 _ ih=>Nat.le_trans (Nat.le_of_eq (Nat.add_comm ks.length 1)) (Nat.add_le_add (hP _ _ _ _ _ h1) ih)
end
section
variable {tb:List (Int×V)} {l:Nat} {need:Bool} {up:Option Int} {parts:List Str} {gv:Str→Option V} {k:Int} {rs:List Leaf} {gs:List Grp} {ns:List Int} {c:Nat}
theorem Tree.cs {G:Nat→List Leaf→List Grp→List Int→Nat→Prop} (h:Tree tb l need up parts gv k rs gs ns c) (leaf:∀ l L es ns,LeafOK tb need up parts gv k L es ns→G l [L] [] ns 1)
  (grp:∀ l es p t ks rs gs ns c,GrpOK tb need k es p t ks→Forest (fun k' r g n c=>Tree tb l true (some k) (parts++(t.map txt).toList) (nextGv es gv) k' r g n c) ks rs gs ns c→G (l+1) rs (⟨k,up,p,t⟩::gs) (k::ns) (c+1)):G l rs gs ns c:=by
 have one:∀ l,(∃ L es,LeafOK tb need up parts gv k L es ns∧rs=[L]∧gs=[]∧c=1)→G l rs gs ns c:=fun l h=>h.elim fun L h=>h.elim fun es h=>h.2.1▸h.2.2.1▸h.2.2.2▸leaf l L es ns h.1
 cases l with
 | zero=>exact one 0 h
 | succ l=>
  refine Or.elim h (one _) fun h=>?_
  obtain ⟨es,p,t,ks,gs',ns',c',hG,rfl,rfl,rfl,hf⟩:=h
  exact grp l es p t ks rs gs' ns' c' hG hf
theorem Tree.ind {G:Nat→Bool→Option Int→List Str→(Str→Option V)→Int→List Leaf→List Grp→List Int→Nat→Prop} (h:Tree tb l need up parts gv k rs gs ns c) (leaf:∀ l need up parts gv k L es ns,LeafOK tb need up parts gv k L es ns→G l need up parts gv k [L] [] ns 1)
  (grp:∀ l need up parts gv k es p t ks rs gs ns c,GrpOK tb need k es p t ks→Forest (fun k' r g n c=>G l true (some k) (parts++(t.map txt).toList) (nextGv es gv) k' r g n c) ks rs gs ns c→G (l+1) need up parts gv k rs (⟨k,up,p,t⟩::gs) (k::ns) (c+1)):G l need up parts gv k rs gs ns c:=by
 induction l generalizing need up parts gv k rs gs ns c with
 | zero=>exact h.cs (G:=fun l' rs gs ns c=>l'=0→G 0 need up parts gv k rs gs ns c) (fun _ L es ns h _=>leaf 0 need up parts gv k L es ns h) (fun _ _ _ _ _ _ _ _ _ _ _ e=>nomatch e) rfl
 | succ l ih=>exact h.cs (G:=fun l' rs gs ns c=>l'=l+1→G (l+1) need up parts gv k rs gs ns c) (fun _ L es ns h _=>leaf _ need up parts gv k L es ns h) (fun l' es p t ks rs gs ns c hG hf e=>grp l need up parts gv k es p t ks rs gs ns c hG ((Nat.succ.inj e▸hf:Forest (fun k' r g n c=>Tree tb l true (some k) (parts++(t.map txt).toList) (nextGv es gv) k' r g n c) ks rs gs ns c).imp fun k r g n c h=>ih h)) rfl
theorem tree_pos (h:Tree tb l need up parts gv k rs gs ns c):1≤c:=h.cs (G:=fun _ _ _ _ c=>1≤c) (fun _ _ _ _ _=>Nat.le_refl 1) fun _ _ _ _ _ _ _ _ c _ _=>Nat.succ_pos c
theorem tree_node (h:Tree tb l need up parts gv k rs gs ns c):∃ es p t,ascI tb k=some (nodeV es)∧NodeOK es p t∧es.length<100∧(need=true→t≠none):=
 h.cs (G:=fun _ _ _ _ _=>∃ es p t,ascI tb k=some (nodeV es)∧NodeOK es p t∧es.length<100∧(need=true→t≠none)) (fun _ L es _ h=>⟨es,L.p,L.t,h.row,h.node,h.len,h.has⟩) fun _ es p t _ _ _ _ _ h _=>⟨es,p,t,h.row,h.node,h.len,h.has⟩
end
section
variable {n:Nat} {σ:Mem} {Q:V→Mem→Prop} {tb:List (Int×V)} {es we:List (Str×V)} {C:Calls}
theorem isfield_ok {k:Int} {b:Option (List UInt8)} (h1:σ[1]?=some (.id tb)) (hk:ascI tb k=some (nodeV we)) (hb:asc we (S "T")=b.map strV) (hs:∀ c,b=some c→c∈byStrs) (q:Q (.bool b.isSome) σ):T (callF (n+4) 22 [shV,refV k]) σ Q:=by
 refine t_fun (f:=f_is_field) rfl rfl rfl ?_
 dsimp only [f_is_field]
 refine t_asg (t_fetch (t_var rfl rfl ?_))
 refine ⟨rfl,?_⟩
 ext
 refine fetch_ref h1 hk rfl ?_
 ext
 refine isi_call (b:=true) rfl ?_
 refine ⟨true,rfl,?_⟩
 dsimp only
 ext
 refine ownname_ok h1 hb hs ?_
 ext
 cases b with
 | none=>
  refine T.run (a:=false) (σ':=σ) rfl ?_
  exact ⟨false,rfl,q⟩
 | some b=>
  refine T.run (a:=true) (σ':=σ) rfl ?_
  exact ⟨true,rfl,t_and_nil q⟩
noncomputable abbrev tourV (b:Nat):V:=.inst 6 [.cell b,.cell (b+1),.cell (b+2)]
theorem newnode_ok {k:Int} {b:Nat} {SE:List (Int×V)} (h1:σ[1]?=some (.id tb)) (hk:ascI tb k=some (nodeV we)) (hse:σ[b+2]?=some (.id SE)) (hn:ascI SE k=none) (hl:SE.length<cap)
  (q:∀ σ₁,Gr σ σ₁→Q (.tup [refV k,.dict we]) (σ₁.set (b+2) (.id (stoI SE k (.bool true))))):T (callF (n+2) 21 [shV,tourV b,refV k]) σ Q:=by
 refine t_fun (f:=f_new_node) rfl rfl rfl ?_
 dsimp only [f_new_node]
 ext
 refine home_ok h1 hk rfl fun σ₁ g=>?_
 refine t_asg (t_fetch (t_var rfl rfl ?_))
 refine ⟨rfl,?_⟩
 ext
 refine fetch_ref (g.at h1) hk rfl ?_
 ext
 refine T.run (a:=V.int k) (σ':=σ₁) rfl ?_
 ext
 refine T.run (a:=V.cell (b+2)) (σ':=σ₁) rfl ?_
 refine in_id (g.at hse) ?_
 rw [hn]
 refine ⟨false,rfl,?_⟩
 dsimp only
 ext
 refine isi_call (b:=true) rfl ?_
 walk_at "m2"
 refine ⟨false,rfl,?_⟩
 dsimp only
 refine t_or_nil ⟨false,rfl,?_⟩
 ext
 refine T.run (a:=V.cell (b+2)) (σ':=σ₁) rfl ?_
 ext
 refine T.run (a:=V.int k) (σ':=σ₁) rfl ?_
 refine set_id (g.at hse) hl ?_
 ext
 exact q σ₁ g
structure Fb (b:Nat) (σ σ':Mem):Prop where
 len:σ.length≤σ'.length
 kp:∀ j,j<b→σ'[j]?=σ[j]?
theorem Fb.refl (b:Nat) (σ:Mem):Fb b σ σ:=⟨Nat.le_refl _,fun _ _=>rfl⟩
theorem Fb.trans {b:Nat} {σ σ' σ'':Mem} (x:Fb b σ σ') (y:Fb b σ' σ''):Fb b σ σ'':=⟨Nat.le_trans x.len y.len,fun j h=>(y.kp j h).trans (x.kp j h)⟩
theorem Fb.gr {b:Nat} {σ σ':Mem} (g:Gr σ σ') (h:b≤σ.length):Fb b σ σ':=⟨g.len,fun j hj=>g.kp j (by lia)⟩
theorem Fb.set {b:Nat} {σ σ':Mem} (x:Fb b σ σ') {i:Nat} (h:b≤i) (o:Ob):Fb b σ (σ'.set i o):=⟨by rw [List.length_set];exact x.len,fun j hj=>by rw [List.getElem?_set_ne (by lia)];exact x.kp j hj⟩
structure WS (σ:Mem) (b:Nat) (tb:List (Int×V)) (F N:List V) (SE:List (Int×V)) (L:List V):Prop where
 b2:2≤b
 h1:σ[1]?=some (.id tb)
 hf:σ[b]?=some (.list F)
 hn:σ[b+1]?=some (.list N)
 hs:σ[b+2]?=some (.id SE)
 hl:σ[b+3]?=some (.list L)
theorem WS.gr {σ σ':Mem} {b tb F N SE L} (w:WS σ b tb F N SE L) (g:Gr σ σ'):WS σ' b tb F N SE L:=⟨w.b2,g.at w.h1,g.at w.hf,g.at w.hn,g.at w.hs,g.at w.hl⟩
theorem WS.setF {σ:Mem} {b tb F N SE L} (w:WS σ b tb F N SE L) (F':List V):WS (σ.set b (.list F')) b tb F' N SE L:=
 have:=w.b2
 ⟨w.b2,(at_ne (by lia)).trans w.h1,at_set w.hf,(at_ne (by lia)).trans w.hn,(at_ne (by lia)).trans w.hs,(at_ne (by lia)).trans w.hl⟩
theorem WS.setN {σ:Mem} {b tb F N SE L} (w:WS σ b tb F N SE L) (N':List V):WS (σ.set (b+1) (.list N')) b tb F N' SE L:=
 have:=w.b2
 ⟨w.b2,(at_ne (by lia)).trans w.h1,(at_ne (by lia)).trans w.hf,at_set w.hn,(at_ne (by lia)).trans w.hs,(at_ne (by lia)).trans w.hl⟩
theorem WS.setS {σ:Mem} {b tb F N SE L} (w:WS σ b tb F N SE L) (SE':List (Int×V)):WS (σ.set (b+2) (.id SE')) b tb F N SE' L:=
 have:=w.b2
 ⟨w.b2,(at_ne (by lia)).trans w.h1,(at_ne (by lia)).trans w.hf,(at_ne (by lia)).trans w.hn,at_set w.hs,(at_ne (by lia)).trans w.hl⟩
theorem WS.setL {σ:Mem} {b tb F N SE L} (w:WS σ b tb F N SE L) (L':List V):WS (σ.set (b+3) (.list L')) b tb F N SE L':=
 have:=w.b2
 ⟨w.b2,(at_ne (by lia)).trans w.h1,(at_ne (by lia)).trans w.hf,(at_ne (by lia)).trans w.hn,(at_ne (by lia)).trans w.hs,at_set w.hl⟩
theorem WS.lt {σ:Mem} {b tb F N SE L} (w:WS σ b tb F N SE L):b+3<σ.length:=(List.getElem?_eq_some_iff.mp w.hl).1
noncomputable def stoK (SE:List (Int×V)):List Int→List (Int×V)
 | []=>SE
 | k::ks=>stoK (stoI SE k (.bool true)) ks
theorem stoK_none:∀ (ks:List Int) (SE:List (Int×V)) (x:Int),x∉ks→ascI (stoK SE ks) x=ascI SE x
 | [],_,_,_=>rfl
 | k::ks,SE,x,h=>by
  unfold stoK
  rw [stoK_none ks _ x fun hm=>h (.tail _ hm),ascI_sto,if_neg (fun e=>h (by rw [e];exact .head _))]
theorem stoK_len:∀ (ks:List Int) (SE:List (Int×V)),(stoK SE ks).length≤SE.length+ks.length
 | [],_=>Nat.le_refl _
 | k::ks,SE=>by
  unfold stoK
  have h1:=stoK_len ks (stoI SE k (.bool true))
  have h2:=stoI_len k (.bool true) SE
  rw [List.length_cons];lia
theorem wid_loop {b:Nat} {F N L:List V} {a1 a2 a3 a4:V}:∀ (ks:List Int) (SE:List (Int×V)) (σ:Mem) (Qs:List V→Mem→Prop),WS σ b tb F N SE L→(∀ k∈ks,∃ we,ascI tb k=some (nodeV we))→ks.Nodup→(∀ k∈ks,ascI SE k=none)→SE.length+ks.length<cap→
  (∀ σ',Fb b σ σ'→WS σ' b tb F N (stoK SE ks) L→Qs (ks.map refV) σ')→T (loopC (cnd (callF (n+2)) .nil) (ev (callF (n+2)) (.sub (.call (.glob 42) (.cons (.var 0) (.cons (.var 1) (.cons (.var 6) .nil)))) (.int 0))) (.one 6) [shV,tourV b,a1,a2,a3,a4,.unb] (ks.map refV)) σ Qs
 | [],SE,σ,Qs,w,_,_,_,_,q=>comp_nil (q σ (.refl b σ) w)
 | k::ks,SE,σ,Qs,w,hk,hd,hs,hl,q=>by
  obtain ⟨we,hwe⟩:=hk k (.head _)
  obtain ⟨hd1,hd2⟩:=List.nodup_cons.mp hd
  rw [List.length_cons] at hl
  refine comp_cons rfl (cnd_nil ?_)
  show T (ev (callF (n+2)) (.sub (.call (.glob 42) (.cons (.var 0) (.cons (.var 1) (.cons (.var 6) .nil)))) (.int 0)) [shV,tourV b,a1,a2,a3,a4,refV k]) σ _
  ext
  refine newnode_ok w.h1 hwe w.hs (hs k (.head _)) (by lia) fun σ₁ g=>?_
  ext
  refine T.run (a:=refV k) (σ':=σ₁.set (b+2) (.id (stoI SE k (.bool true)))) rfl ?_
  have w':=(w.gr g).setS (stoI SE k (.bool true))
  have hlt:=w.lt
  have f:Fb b σ (σ₁.set (b+2) (.id (stoI SE k (.bool true)))):=(Fb.gr g (by lia)).set (by lia) _
  have hln:=stoI_len k (.bool true) SE
  refine wid_loop ks _ _ _ w' (fun x hx=>hk x (.tail _ hx)) hd2 (fun x hx=>?_) (by lia) fun σ' f' w''=>q σ' (f.trans f') w''
  rw [ascI_sto,if_neg (fun e=>hd1 (by rw [e];exact hx))]
  exact hs x (.tail _ hx)
end
structure Item where
 l:Nat
 need:Bool
 up:Option Int
 parts:List Str
 gv:Str→Option V
 gd:List (Str×V)
 k:Int
noncomputable def fullOf (parts:List Str):Option Str:=parts.foldl (fun a p=>longer a (some p)) none
theorem full_snoc (parts:List Str) (t:Option Str):fullOf (parts++t.toList)=longer (fullOf parts) t:=by
 cases t with
 | none=>show fullOf (parts++[])=_;rw [List.append_nil];rfl
 | some p=>show fullOf (parts++[p])=_;unfold fullOf;rw [List.foldl_append];rfl
theorem str_size (a b:Str):(a++b).cps.size=a.cps.size+b.cps.size:=by
 show (Str.append a b).cps.size=_
 unfold Str.append
 simp
theorem full_size:∀ (parts:List Str) (a:Option Str) (m:Nat),(∀ x,a=some x→x.cps.size≤m)→(∀ p∈parts,p.cps.size≤4)→∀ x,parts.foldl (fun a p=>longer a (some p)) a=some x→x.cps.size≤m+5*parts.length
 | [],a,m,ha,_,x,e=>ha x e
 | p::ps,a,m,ha,hp,x,e=>by
  have:=full_size ps (longer a (some p)) (m+5) (fun y hy=>by
   have h4:=hp p (.head _)
   cases a with
   | none=>
    have hy:some p=some y:=hy
    cases hy
    lia
   | some z=>
    have hy:some (z++S "."++p)=some y:=hy
    cases hy
    have hz:=ha z rfl
    rw [str_size,str_size]
    have:(S ".").cps.size=1:=by decide +kernel
    lia) (fun q hq=>hp q (.tail _ hq)) x e
  rw [List.length_cons];lia
structure ItemOK (it:Item):Prop where
 gd_eq:∀ s,asc it.gd s=it.gv s
 gdl:it.gd.length<100
 pl:it.parts.length+it.l≤2
 ps:∀ p∈it.parts,p.cps.size≤4
 upos:∀ m,it.up=some m→1≤m
noncomputable abbrev itemV (it:Item):V:=.tup [refV it.k,upV it.up,oStr (fullOf it.parts),.dict it.gd]
noncomputable abbrev PendP (tb:List (Int×V)) (it:Item) (rs:List Leaf) (gs:List Grp) (ns:List Int) (c:Nat):Prop:=ItemOK it∧Tree tb it.l it.need it.up it.parts it.gv it.k rs gs ns c
noncomputable abbrev Pend (tb:List (Int×V)) (st:List Item) (rs:List Leaf) (gs:List Grp) (ns:List Int) (c:Nat):Prop:=Forest (PendP tb) st rs gs ns c
theorem pend_len {tb:List (Int×V)} {st:List Item} {rs gs ns c} (h:Pend tb st rs gs ns c):st.length≤c:=forest_len (fun _ _ _ _ _ h=>tree_pos h.2) h
theorem forest_pend {tb:List (Int×V)} {l:Nat} {need:Bool} {up parts gv gd} (hi:∀ k,ItemOK ⟨l,need,up,parts,gv,gd,k⟩) {ks rs gs ns c st r2 g2 n2 c2} (h:Forest (fun k' r g n c=>Tree tb l need up parts gv k' r g n c) ks rs gs ns c) (p:Pend tb st r2 g2 n2 c2) :
  Pend tb (ks.map (fun k=>⟨l,need,up,parts,gv,gd,k⟩)++st) (rs++r2) (gs++g2) (ns++n2) (c+c2):=
 h.ind (G:=fun ks rs gs ns c=>Pend tb (ks.map (fun k=>⟨l,need,up,parts,gv,gd,k⟩)++st) (rs++r2) (gs++g2) (ns++n2) (c+c2)) ((Nat.zero_add c2).symm▸p) fun k ks r1 g1 n1 c1 r3 g3 n3 c3 h1 _ ih=>by
  rw [List.append_assoc,List.append_assoc,List.append_assoc,Nat.add_assoc]
  exact .mk1 ⟨hi k,h1⟩ ih
noncomputable def FieldV (v:V) (L:Leaf):Prop:=∃ fs,v=.inst 5 [.str ((fullOf L.parts).getD (S "")),refV L.k,upV L.up,.list (L.ws.map fun w=>refV w.1),.dict fs,.str L.i.kd.str]∧InfoOK (asc fs) L.i
noncomputable def Fields:List V→List Leaf→Prop
 | [],[]=>True
 | v::vs,L::Ls=>FieldV v L∧Fields vs Ls
 | _,_=>False
noncomputable abbrev grpV (g:Grp):V:=.tup [refV g.k,upV g.up]
section
variable {n:Nat} {σ:Mem} {Q:V→Mem→Prop} {tb:List (Int×V)} {es we:List (Str×V)} {C:Calls}
theorem ownwid_kids {b:Nat} {F N L:List V} {SE:List (Int×V)} {k:Int} {ks:List Int} (w:WS σ b tb F N SE L) (hk:∀ k∈ks,∃ we,ascI tb k=some (nodeV we)) (hd:ks.Nodup) (hs:∀ k∈ks,ascI SE k=none) (hl:SE.length+ks.length<1000) (hne:ks≠[])
  (q:∀ σ',Fb b σ σ'→WS σ' b tb F N (stoK SE ks) L→Q (.list (ks.map refV)) σ'):T (callF (n+3) 23 [shV,tourV b,refV k,.dict es,.list (ks.map refV)]) σ Q:=by
 refine t_fun (f:=f_own_widgets) rfl rfl rfl ?_
 dsimp only [f_own_widgets]
 ext
 refine T.run (a:=V.int (ks.map refV).length) (σ':=σ) rfl ?_
 ext
 refine T.run (a:=true) (σ':=σ) ?_ ?_
 ·show some (decide (((0:Nat):Int)<((ks.map refV).length:Int)),σ)=_
  rw [decide_eq_true]
  rw [List.length_map]
  have:=List.length_pos_iff.mpr hne
  lia
 refine ⟨true,rfl,?_⟩
 ext
 refine wid_loop (n:=n) (a1:=refV k) (a2:=.dict es) (a3:=.list (ks.map refV)) (a4:=.unb) ks SE σ _ w hk hd hs (by unfold cap;lia) fun σ' f w'=>?_
 refine mkl (by rw [List.length_map];unfold cap;lia) ?_
 exact t_contr (q σ' f w')
theorem ownwid_none {b:Nat} {k:Int} {x:Bool} (h1:σ[1]?=some (.id tb)) (hx:asc es (S "Subtype")=if x then some (nameV (S "Widget")) else none) (q:Q (.list (if x then [refV k] else [])) σ):T (callF (n+3) 23 [shV,tourV b,refV k,.dict es,.list []]) σ Q:=by
 refine t_fun (f:=f_own_widgets) rfl rfl rfl ?_
 dsimp only [f_own_widgets]
 ext
 refine T.run (a:=V.int 0) (σ':=σ) rfl ?_
 ext
 walk_at "m2"
 refine ⟨false,rfl,?_⟩
 refine t_end (t_cont (t_asg (t_get (t_var rfl rfl ?_))))
 refine ⟨rfl,?_⟩
 ext
 cases x with
 | true=>
  refine get_dic h1 (x:=nameV (S "Widget")) (by rw [hx];exact der_simple rfl) ?_
  ext
  refine isi_call (b:=true) rfl ?_
  refine ⟨true,rfl,?_⟩
  dsimp only
  ext
  refine T.run (a:=V.str (S "Widget")) (σ':=σ) rfl ?_
  ext
  walk_at "m2"
  refine ⟨true,congrArg V.bool (decide_eq_true rfl),?_⟩
  dsimp only
  refine t_and_nil ⟨true,rfl,?_⟩
  refine t_list (t_cons (t_var rfl rfl (t_nil (mkl (show 1<cap by decide) q))))
 | false=>
  refine get_dic h1 (x:=.none) (by rw [hx];exact der_simple rfl) ?_
  ext
  refine isi_call (b:=false) rfl ?_
  refine ⟨false,rfl,?_⟩
  dsimp only
  refine ⟨false,rfl,?_⟩
  refine t_list (t_nil (mkl (by decide) q))
theorem t_dcomp {ρ:Env'} {k v:ME} {t:Tg} {it:MI} {cs:MEs} (h:T (evI C it ρ) σ fun xs σ=>T (loopD (cnd C cs) (ev C k) (ev C v) t ρ [] xs) σ fun es σ=>Q (.dict es) σ):T (ev C (.dcomp k v t it cs) ρ) σ Q:=T.bnd (m:=evI C it ρ) (h.mono fun _ _ h=>.bnd (h.mono fun _ _ h=>.ret h))
theorem hand_loop {wh:List (Str×V)} {ρ:Env'} (r10:ρ[10]?=some (.dict wh)) (rl:16<ρ.length):∀ (ks:List Str) (acc:List (Str×V)) (Qe:List (Str×V)→Mem→Prop),acc.length+ks.length<cap→
  (∀ acc',(∀ s,asc acc' s=if s∈ks∧(asc wh s).isSome=true then asc wh s else asc acc s)→acc'.length≤acc.length+ks.length→Qe acc' σ)→
  T (loopD (cnd C (.cons (.cmp .in (.var 16) (.var 10)) .nil)) (ev C (.var 16)) (ev C (.sub (.var 10) (.var 16))) (.one 16) ρ acc (ks.map V.str)) σ Qe
 | [],acc,Qe,_,q=>.ret (q acc (fun s=>by rw [if_neg (fun h=>nomatch h.1)]) (Nat.le_refl _))
 | k::ks,acc,Qe,hl,q=>by
  rw [List.length_cons] at hl
  have r16:(ρ.set 16 (.str k))[16]?=some (.str k):=List.getElem?_set_self rl
  have r10':(ρ.set 16 (.str k))[10]?=some (.dict wh):=(List.getElem?_set_ne (by decide)).trans r10
  refine T.bnd (m:=lft (bindT (.one 16) (.str k) ρ)) (.lft rfl (T.bnd (cnd_one (t_cmp (t_var r16 rfl (t_var r10' rfl (in_dic ⟨_,rfl,?_⟩)))))))
  cases e:asc wh k with
  | none=>
   refine hand_loop r10 rl ks acc Qe (by lia) fun acc' ha l=>q acc' (fun s=>?_) (by rw [List.length_cons];lia)
   rw [ha s]
   by_cases h1:s∈ks∧(asc wh s).isSome=true
   ·rw [if_pos h1,if_pos ⟨.tail _ h1.1,h1.2⟩]
   ·rw [if_neg h1]
    by_cases h2:s∈k::ks∧(asc wh s).isSome=true
    ·rcases List.mem_cons.mp h2.1 with rfl|h3
     ·rw [e] at h2;cases h2.2
     ·exact absurd ⟨h3,h2.2⟩ h1
    ·rw [if_neg h2]
  | some v=>
   show T (Mine.bnd (ev C (.var 16) (ρ.set 16 (.str k))) fun x=>Mine.bnd (ev C (.sub (.var 10) (.var 16)) (ρ.set 16 (.str k))) fun v=>dStr x fun k=>if acc.length<cap then loopD (cnd C (.cons (.cmp .in (.var 16) (.var 10)) .nil)) (ev C (.var 16)) (ev C (.sub (.var 10) (.var 16))) (.one 16) ρ (sto acc k v) (ks.map V.str) else fail) σ Qe
   refine .bnd (t_var r16 rfl (.bnd (t_sub (t_var r10' rfl (t_var r16 rfl (get_dict e ?_))))))
   show T (if acc.length<cap then loopD (cnd C (.cons (.cmp .in (.var 16) (.var 10)) .nil)) (ev C (.var 16)) (ev C (.sub (.var 10) (.var 16))) (.one 16) ρ (sto acc k v) (ks.map V.str) else fail) σ Qe
   rw [if_pos (by lia)]
   have hln:=sto_len k v acc
   refine hand_loop r10 rl ks (sto acc k v) Qe (by lia) fun acc' ha l=>q acc' (fun s=>?_) (by rw [List.length_cons];lia)
   rw [ha s,asc_sto]
   by_cases h1:s∈ks∧(asc wh s).isSome=true
   ·rw [if_pos h1,if_pos ⟨.tail _ h1.1,h1.2⟩]
   ·rw [if_neg h1]
    by_cases h2:k=s
    ·subst h2
     rw [if_pos rfl,if_pos ⟨.head _,by rw [e];rfl⟩,e]
    ·rw [if_neg h2,if_neg]
     rintro ⟨h3,h4⟩
     rcases List.mem_cons.mp h3 with e|h3
     ·exact h2 e.symm
     ·exact h1 ⟨h3,h4⟩
end
section
variable {n:Nat} {σ:Mem} {Q:V→Mem→Prop} {tb:List (Int×V)} {es we:List (Str×V)} {C:Calls}
theorem info_of {wl:Str→Option V} {fs:List (Str×V)} {i:Info} (h:InfoOK wl i) (e:∀ s,asc fs s=wl s):InfoOK (asc fs) i:=by
 have:asc fs=wl:=funext e
 rw [this];exact h
theorem txt_ok {t:Option (List UInt8)} (h:∀ b,t=some b→b∈byStrs):∀ p∈(t.map txt).toList,p.cps.size≤4:=by
 intro p hp
 cases t with
 | none=>cases hp
 | some b=>
  rcases List.mem_cons.mp hp with rfl|h'
  ·exact txt_len (h b rfl)
  ·cases h'
theorem tree_cases {tb l need up parts gv k rs gs ns c} (h:Tree tb l need up parts gv k rs gs ns c):∃ es p t,ascI tb k=some (nodeV es)∧NodeOK es p t∧es.length<100∧k∈ns ∧
  ((∃ L,LeafOK tb need up parts gv k L es ns∧L.p=p∧L.t=t∧rs=[L]∧gs=[]∧c=1) ∨
   (∃ l' ks gs' ns' c',l=l'+1∧GrpOK tb need k es p t ks∧gs=⟨k,up,p,t⟩::gs'∧ns=k::ns'∧c=c'+1∧Forest (fun k' r g n c=>Tree tb l' true (some k) (parts++(t.map txt).toList) (nextGv es gv) k' r g n c) ks rs gs' ns' c')):=
 h.cs (G:=fun l rs gs ns c=>∃ es p t,ascI tb k=some (nodeV es)∧NodeOK es p t∧es.length<100∧k∈ns ∧
  ((∃ L,LeafOK tb need up parts gv k L es ns∧L.p=p∧L.t=t∧rs=[L]∧gs=[]∧c=1) ∨
   (∃ l' ks gs' ns' c',l=l'+1∧GrpOK tb need k es p t ks∧gs=⟨k,up,p,t⟩::gs'∧ns=k::ns'∧c=c'+1∧Forest (fun k' r g n c=>Tree tb l' true (some k) (parts++(t.map txt).toList) (nextGv es gv) k' r g n c) ks rs gs' ns' c')))
  (fun _ L es ns h=>⟨es,L.p,L.t,h.row,h.node,h.len,h.kids.elim (fun e=>e.2.1▸.head _) fun e=>e.2.1▸.head _,.inl ⟨L,h,rfl,rfl,rfl,rfl,rfl⟩⟩)
  fun l es p t ks rs gs ns c h hf=>⟨es,p,t,h.row,h.node,h.len,.head _,.inr ⟨l,ks,gs,ns,c,rfl,h,rfl,rfl,rfl,hf⟩⟩
theorem walk_loop {b:Nat}:∀ (m:Nat) (st:List Item) (rs:List Leaf) (gs:List Grp) (ns:List Int) (c:Nat) (F N:List V) (SE:List (Int×V)) (a3 a4 a5 a6 a7 a8 a9 a10 a11 a12 a13 a14:V) (σ:Mem) (S:Fl×Env'→Mem→Prop),
  Pend tb st rs gs ns c→c<m→WS σ b tb F N SE (st.reverse.map itemV)→ns.Nodup→(∀ x∈ns,ascI SE x=none)→F.length+c<500→N.length+c<500→SE.length+ns.length<500→c<500→
  (∀ (F':List V) (σ':Mem) (SE':List (Int×V)) (ρ':Env'),ρ'[1]?=some (tourV b)→Fields F' rs→WS σ' b tb (F++F') (N++gs.map grpV) SE' []→Fb b σ σ'→S (.next,ρ') σ')→
  T (loopW (fun ρ=>bnd (ev (callF (n+6)) (.cmp .gt (.call (.glob 7) (.cons (.var 2) .nil)) (.int 0)) ρ) truth) (exs (callF (n+6)) (loopOf f_walked_form 0)) m [shV,tourV b,.cell (b+3),a3,a4,a5,a6,a7,a8,a9,a10,a11,a12,a13,a14,.unb,.unb,.unb,.unb]) σ S:=by
 intro m
 induction m with
 | zero=>
  intro _ _ _ _ _ _ _ _ _ _ _ _ _ _ _ _ _ _ _ _ _ _ _ h
  exact absurd h (Nat.not_lt_zero _)
 | succ m ih=>
  intro st rs gs ns c F N SE a3 a4 a5 a6 a7 a8 a9 a10 a11 a12 a13 a14 σ S hst hc w hnd hse lF lN lS lc q
  cases st with
  | nil=>
   obtain ⟨e1,e2,e3,e4⟩:=hst
   subst e1 e2 e3 e4
   refine loop_while ?_
   ext
   refine len_cell w.hl ?_
   ext
   walk_at "m2"
   refine ⟨false,rfl,?_⟩
   refine q [] σ SE _ rfl trivial ?_ (.refl b σ)
   rw [List.append_nil,List.map_nil,List.append_nil]
   exact w
  | cons it st=>
   obtain ⟨r1,g1,n1,c1,r2,g2,n2,c2,⟨hit,ht⟩,hp,e1,e2,e3,e4⟩:=hst
   subst e1 e2 e3 e4
   have hpl:=pend_len hp
   obtain ⟨es,p,t,hrow,hnode,hlen,hmem,hcase⟩:=tree_cases ht
   have hb:=w.b2
   have hlt:=w.lt
   have hline:((it::st).reverse.map itemV)=st.reverse.map itemV++[itemV it]:=by rw [List.reverse_cons,List.map_append];rfl
   rw [hline] at w
   have huu:noU (upV it.up)=true:=by cases it.up <;> rfl
   have hfu:noU (oStr (fullOf it.parts))=true:=by cases fullOf it.parts <;> rfl
   refine loop_while ?_
   ext
   refine len_cell w.hl ?_
   ext
   refine T.run (a:=true) (σ':=σ) ?_ ?_
   ·show some (decide (((0:Nat):Int)<((st.reverse.map itemV++[itemV it]).length:Int)),σ)=_
    rw [decide_eq_true]
    rw [List.length_append,List.length_cons];lia
   refine ⟨true,rfl,?_⟩
   dsimp only
   dsimp only [loopOf,loopsOf,f_walked_form,List.getD_cons_zero]
   refine t_asgs ?_
   ext
   refine t_pre (pre_cell w.hl) ?_
   refine ⟨.inr rfl,?_⟩
   ext
   refine t_pre (pre_cell w.hl) ?_
   refine ⟨rfl,?_⟩
   refine pop_cell w.hl ?_
   have w1:=w.setL (st.reverse.map itemV)
   have f1:Fb b σ (σ.set (b+3) (.list (st.reverse.map itemV))):=(Fb.refl b σ).set (by lia) _
   refine ⟨_,rfl,?_⟩
   refine t_asgs ?_
   ext
   refine newnode_ok w1.h1 hrow w1.hs (hse _ (List.mem_append_left _ hmem)) (by unfold cap;lia) fun σ₁ g1=>?_
   have w2:=(w1.gr g1).setS (stoI SE it.k (.bool true))
   have f2:Fb b σ (σ₁.set (b+2) (.id (stoI SE it.k (.bool true)))):=f1.trans ((Fb.gr g1 (by rw [List.length_set];lia)).set (by lia) _)
   generalize hσ₂:σ₁.set (b+2) (.id (stoI SE it.k (.bool true)))=σ₂ at w2 f2
   refine ⟨_,rfl,?_⟩
   refine t_asg ?_
   ext
   refine ownname_ok w2.h1 hnode.ti hnode.tok ?_
   ext
   have htu:noU (oStr (t.map txt))=true:=by cases t <;> rfl
   have hsz:∀ x,fullOf it.parts=some x→x.cps.size≤5*it.parts.length:=fun x hx=>by
    have:=full_size it.parts none 0 (fun _ h=>nomatch h) hit.ps x hx
    lia
   have hd1:(Mine.S ".").cps.size=1:=by decide +kernel
   refine longer_ok (fun x y hx hy=>?_) ?_
   ·have h1:=hsz x hx
    have h2:=hit.pl
    have h3:y.cps.size≤4:=txt_ok hnode.tok y (by rw [hy];exact .head _)
    rw [str_size]
    unfold cap
    have:it.parts.length≤2:=by lia
    lia
   rw [← full_snoc]
   have hfu':noU (oStr (fullOf (it.parts++(t.map txt).toList)))=true:=by cases fullOf (it.parts++(t.map txt).toList) <;> rfl
   ext
   refine inh_ok (by have:=hit.gdl;lia) fun fs σ₃ efs lfs g3=>?_
   have w3:=w2.gr g3
   have f3:Fb b σ σ₃:=f2.trans (Fb.gr g3 (by have:=w2.lt;lia))
   have efs':∀ s,asc fs s=(asc es s).or (it.gv s):=fun s=>by rw [efs s,hit.gd_eq s]
   ext
   have hnd1:=(List.nodup_append.mp hnd)
   rw [List.length_append] at lS
   rcases hcase with ⟨L,hL,e1,e2,e3,e4,e5⟩|⟨l',ks,gs',ns',c',e0,hG,e1,e2,e3,hf⟩
   ·subst e1 e2 e3 e4 e5
    have hi4:InfoOK (asc fs) L.i:=info_of hL.info efs'
    let P':=it.parts++(L.t.map txt).toList
    have fin:∀ (S':Fl×Env'→Mem→Prop),(∀ ρ σ,T (loopW (fun ρ=>bnd (ev (callF (n+6)) (.cmp .gt (.call (.glob 7) (.cons (.var 2) .nil)) (.int 0)) ρ) truth) (exs (callF (n+6)) (loopOf f_walked_form 0)) m ρ) σ S→S' (.next,ρ) σ)→
      ∀ (SE₄:List (Int×V)) (σ₄:Mem) (v11 v12 v13:V),WS σ₄ b tb F N SE₄ (st.reverse.map itemV)→Fb b σ σ₄→(∀ x∈n2,ascI SE₄ x=none)→SE₄.length+n2.length<500→
      T (exs (callF (n+6)) (.cons (.expr (.meth (.attr (.var 1) (Mine.S "fields")) (Mine.S "append") (.cons (.call (.glob 5) (.cons (.ife (.cmp .is (.var 9) .none) (.str (Mine.S "")) (.var 9)) (.cons (.var 7) (.cons (.var 4) (.cons (.var 14) (.cons (.var 10) (.cons (.call (.glob 40) (.cons (.var 0) (.cons (.var 10) .nil))) .nil))))))) .nil))) .nil)
       [shV,tourV b,.cell (b+3),refV it.k,upV it.up,oStr (fullOf it.parts),.dict it.gd,refV it.k,.dict es,oStr (fullOf P'),.dict fs,v11,v12,v13,.list (L.ws.map fun w=>refV w.1),.unb,.unb,.unb,.unb]) σ₄ S':=by
     intro S' hS' SE₄ σ₄ v11 v12 v13 w4 f4 hs4 hl4
     ext
     refine T.run (a:=V.cell b) (σ':=σ₄) rfl ?_
     refine t_pre (pre_cell w4.hf) ?_
     refine ⟨.inr rfl,?_⟩
     refine t_cons (t_call (t_glob rfl ?_))
     have nm:∀ Q':V→Mem→Prop,Q' (.str ((fullOf P').getD (Mine.S ""))) σ₄→T (ev (callF (n+6)) (.ife (.cmp .is (.var 9) .none) (.str (Mine.S "")) (.var 9)) [shV,tourV b,.cell (b+3),refV it.k,upV it.up,oStr (fullOf it.parts),.dict it.gd,refV it.k,.dict es,oStr (fullOf P'),.dict fs,v11,v12,v13,.list (L.ws.map fun w=>refV w.1),.unb,.unb,.unb,.unb]) σ₄ Q':=by
      intro Q' hq
      refine t_ife (t_cmp (t_var rfl hfu' (t_none ?_)))
      cases ef:fullOf P' with
      | none=>
       rw [ef] at hq
       exact T.run (a:=true) (σ':=σ₄) rfl ⟨true,rfl,t_str hq⟩
      | some x=>
       rw [ef] at hq
       exact T.run (a:=false) (σ':=σ₄) rfl ⟨false,rfl,t_var rfl rfl hq⟩
     refine t_cons (nm _ ?_)
     ext
     refine kind_ok w4.h1 hi4 fun σ₅ g5=>?_
     rw [kind_eq]
     ext
     refine t_new (f:=i_Field) rfl rfl ?_
     dsimp only [i_Field]
     ext
     have w5:=w4.gr g5
     refine t_pre (pre_cell w5.hf) ?_
     refine ⟨rfl,?_⟩
     refine app_cell w5.hf (by unfold cap;lia) ?_
     refine t_end (hS' _ _ ?_)
     let fv:V:=.inst 5 [.str ((fullOf P').getD (Mine.S "")),refV it.k,upV it.up,.list (L.ws.map fun w=>refV w.1),.dict fs,.str L.i.kd.str]
     have w6:=w5.setF (F++[fv])
     have f6:Fb b σ (σ₅.set b (.list (F++[fv]))):=(f4.trans (Fb.gr g5 (by have:=w4.lt;lia))).set (Nat.le_refl _) _
     refine ih st r2 g2 n2 c2 (F++[fv]) N SE₄ _ _ _ _ _ _ _ _ _ _ _ _ _ S hp (by lia) w6 hnd1.2.1 hs4 (by rw [List.length_append,List.length_cons,List.length_nil];lia) (by lia) hl4 (by lia) fun F' σ' SE' ρ' h1 hF hw hf=>?_
     rw [List.append_assoc] at hw
     refine q (fv::F') σ' SE' ρ' h1 ⟨⟨fs,?_,hi4⟩,hF⟩ hw (f6.trans hf)
     show fv=V.inst 5 [.str ((fullOf L.parts).getD (Mine.S "")),refV L.k,upV L.up,.list (L.ws.map fun w=>refV w.1),.dict fs,.str L.i.kd.str]
     rw [hL.hp,hL.hk,hL.hup]
    have hn2:∀ x∈n2,ascI (stoI SE it.k (.bool true)) x=none:=fun x hx=>by
     rw [ascI_sto,if_neg (fun e=>hnd1.2.2 _ hmem _ hx e)]
     exact hse x (List.mem_append_right _ hx)
    have hsl:=stoI_len it.k (.bool true) SE
    rcases hL.kids with ⟨hk,hns,hw⟩|⟨hk,hns,hne,hw⟩
    ·refine row_none w3.h1 hk ?_
     refine t_asg (t_lcomp (t_fwd (t_var rfl rfl (items_list (comp_nil (mkl (by decide) ?_))))))
     ext
     refine T.run (a:=V.int 0) (σ':=σ₃) rfl ?_
     ext
     walk_at "m2"
     refine ⟨false,rfl,?_⟩
     ext
     rw [hns,List.length_cons,List.length_nil] at lS
     have sub:∃ x:Bool,asc es (Mine.S "Subtype")=(if x then some (nameV (Mine.S "Widget")) else none)∧(if x then [refV it.k] else [])=L.ws.map fun w=>refV w.1:=by
      rcases hw with ⟨h1,h2⟩|⟨h1,h2⟩
      ·refine ⟨true,h2,?_⟩
       have:(L.ws.map fun w=>refV w.1)=(L.ws.map (·.1)).map refV:=by rw [List.map_map];rfl
       rw [this,h1];rfl
      ·refine ⟨false,h2,?_⟩
       rw [h1];rfl
     obtain ⟨x,hx1,hx2⟩:=sub
     refine ownwid_none w3.h1 hx1 ?_
     rw [hx2]
     exact fin _ (fun ρ σ h=>t_cont (t_end (t_nextw h))) _ σ₃ _ _ _ w3 f3 hn2 (by lia)
    ·refine row_ok w3.h1 (by rw [hk];exact der_simple rfl) ?_
     refine t_asg (t_lcomp (t_fwd (t_var rfl rfl (items_list ?_))))
     refine comp_filter2 (f:=fun w=>refV w.1) (p:=fun _=>false) (fun wd hwd B hB=>?_) (fun wd hwd Q hq=>t_var rfl rfl hq) ?_
     ·obtain ⟨we,h1,h2⟩:=hw wd hwd
      ext
      refine isfield_ok (b:=none) w3.h1 h1 h2 (fun _ h=>nomatch h) ?_
      exact ⟨false,rfl,hB⟩
     have hfl:(L.ws.filter fun _=>false)=[]:=by rw [List.filter_eq_nil_iff];intro _ _;exact Bool.false_ne_true
     rw [hfl]
     refine mkl (by decide) ?_
     ext
     refine T.run (a:=V.int 0) (σ':=σ₃) rfl ?_
     ext
     walk_at "m2"
     refine ⟨false,rfl,?_⟩
     ext
     have em:(L.ws.map fun w=>refV w.1)=(L.ws.map (·.1)).map refV:=by rw [List.map_map];rfl
     rw [hns] at hnd1 lS
     obtain ⟨hd1,hd2⟩:=List.nodup_cons.mp hnd1.1
     rw [List.length_cons] at lS
     have sk:=stoK_len (L.ws.map (·.1)) (stoI SE it.k (.bool true))
     rw [em]
     refine ownwid_kids w3 (fun k hk=>?_) hd2 (fun x hx=>?_) (by lia) (by simpa using hne) fun σ' f w'=>?_
     ·obtain ⟨wd,hwd,rfl⟩:=List.mem_map.mp hk
      obtain ⟨we,h1,_⟩:=hw wd hwd
      exact ⟨we,h1⟩
     ·rw [ascI_sto,if_neg (fun e=>hd1 (by rw [e];exact hx))]
      exact hse x (List.mem_append_left _ (by rw [hns];exact .tail _ hx))
     rw [← em]
     refine fin _ (fun ρ σ h=>t_cont (t_end (t_nextw h))) _ σ' _ _ _ w' (f3.trans f) (fun x hx=>?_) (by lia)
     rw [stoK_none _ _ _ (fun h=>hnd1.2.2 _ (.tail _ h) _ hx rfl)]
     exact hn2 x hx
   ·subst e1 e2 e3
    let P':=it.parts++(t.map txt).toList
    have hkl:ks.length≤c':=forest_len (fun _ _ _ _ _ h=>tree_pos h) hf
    have hkp:0<ks.length:=List.length_pos_iff.mpr hG.ne
    refine row_ok w3.h1 (by rw [hG.kids];exact der_simple rfl) ?_
    refine t_asg (t_lcomp (t_fwd (t_var rfl rfl (items_list ?_))))
    refine comp_filter2 (f:=refV) (p:=fun _=>true) (fun k hk B hB=>?_) (fun k hk Q hq=>t_var rfl rfl hq) ?_
    ·obtain ⟨_,_,_,_,htr⟩:=forest_each hf k hk
     obtain ⟨es',p',t',h1,h2,_,h3⟩:=tree_node htr
     ext
     refine isfield_ok w3.h1 h1 h2.ti h2.tok ?_
     cases t' with
     | none=>exact absurd rfl (h3 rfl)
     | some b=>exact ⟨true,rfl,hB⟩
    have hfl:(ks.filter fun _=>true)=ks:=by rw [List.filter_eq_self];intro _ _;rfl
    rw [hfl]
    refine mkl (by rw [List.length_map];unfold cap;lia) ?_
    ext
    refine T.run (a:=V.int (ks.map refV).length) (σ':=σ₃) rfl ?_
    ext
    refine T.run (a:=true) (σ':=σ₃) ?_ ?_
    ·show some (decide (((0:Nat):Int)<((ks.map refV).length:Int)),σ₃)=_
     rw [decide_eq_true]
     rw [List.length_map];lia
    refine ⟨true,rfl,?_⟩
    ext
    refine T.run (a:=V.cell (b+1)) (σ':=σ₃) rfl ?_
    refine t_pre (pre_cell w3.hn) ?_
    refine ⟨.inr rfl,?_⟩
    ext
    refine t_pre (pre_cell w3.hn) ?_
    refine ⟨rfl,?_⟩
    refine app_cell w3.hn (by unfold cap;lia) ?_
    have w4:=w3.setN (N++[grpV ⟨it.k,it.up,p,t⟩])
    have f4:Fb b σ (σ₃.set (b+1) (.list (N++[grpV ⟨it.k,it.up,p,t⟩]))):=f3.set (by lia) _
    refine t_asg (t_dcomp (t_fwd (t_glob rfl (items_tup ?_))))
    refine' hand_loop (wh:=fs) ?r10 ?rl inhK [] _ ?cl fun hd eh lh=>?_
    case r10=>rfl
    case rl=>exact (show 16<19 by decide)
    case cl=>exact (show 6<cap by decide)
    have eh':∀ s,asc hd s=nextGv es it.gv s:=fun s=>by
     rw [eh s]
     unfold nextGv
     by_cases h1:s∈inhK
     ·rw [if_pos h1]
      by_cases h2:(asc fs s).isSome=true
      ·rw [if_pos ⟨h1,h2⟩,efs' s]
      ·rw [if_neg (fun h=>h2 h.2),← efs' s]
       cases h3:asc fs s with
       | none=>rfl
       | some v=>rw [h3] at h2;exact absurd rfl h2
     ·rw [if_neg h1,if_neg (fun h=>h1 h.1)];rfl
    let item:Int→Item:=fun k=>⟨l',true,some it.k,P',nextGv es it.gv,hd,k⟩
    have hitem:∀ k,ItemOK (item k):=fun k=>by
     refine ⟨eh',?_,?_,?_,fun m e=>?_⟩
     ·have:inhK.length=6:=rfl
      show hd.length<100
      rw [this,List.length_nil] at lh
      lia
     ·have h1:=hit.pl
      show (it.parts++(t.map txt).toList).length+l'≤2
      rw [List.length_append]
      have:(t.map txt).toList.length≤1:=by cases t <;> simp
      lia
     ·intro x hx
      rcases List.mem_append.mp hx with h|h
      ·exact hit.ps x h
      ·exact txt_ok hnode.tok x h
     ·cases e;exact hG.pos
    ext
    refine t_pre (pre_cell w4.hl) ?_
    refine ⟨.inr rfl,?_⟩
    ext
    refine ⟨ks.map refV,rfl,?_⟩
    rw [← List.map_reverse]
    refine comp_map2 (f:=fun k=>itemV (item k)) (fun k hk Q hq=>?_) ?_
    ·ext
     exact hq
    refine mkl (by rw [List.length_map,List.length_reverse];unfold cap;lia) ?_
    refine t_nil (t_pre (pre_cell w4.hl) ?_)
    refine ⟨rfl,?_⟩
    refine ext_cell w4.hl (by rw [List.length_map,List.length_map,List.length_reverse,List.length_reverse];unfold cap;lia) ?_
    have el:st.reverse.map itemV++ks.reverse.map (fun k=>itemV (item k))=((ks.map item++st).reverse).map itemV:=by
     rw [List.reverse_append,List.map_append,← List.map_reverse,List.map_map];rfl
    have w5:=w4.setL (((ks.map item++st).reverse).map itemV)
    have f5:Fb b σ ((σ₃.set (b+1) (.list (N++[grpV ⟨it.k,it.up,p,t⟩]))).set (b+3) (.list (((ks.map item++st).reverse).map itemV))):=f4.set (by lia) _
    rw [el]
    refine t_end (t_cont (t_end (t_nextw ?_)))
    have hsl:=stoI_len it.k (.bool true) SE
    obtain ⟨hd1,hd2⟩:=List.nodup_cons.mp (show (it.k::(ns'++n2)).Nodup from hnd)
    rw [List.length_cons] at lS
    refine ih (ks.map item++st) (r1++r2) (gs'++g2) (ns'++n2) (c'+c2) F (N++[grpV ⟨it.k,it.up,p,t⟩]) (stoI SE it.k (.bool true)) _ _ _ _ _ _ _ _ _ _ _ _ _ S (forest_pend hitem hf hp) (by lia) w5 hd2 (fun x hx=>?_) (by lia) (by rw [List.length_append,List.length_cons,List.length_nil];lia) (by rw [List.length_append];lia) (by lia) fun F' σ' SE' ρ' h1 hF hw hfb=>?_
    ·rw [ascI_sto,if_neg (fun e=>hd1 (by rw [e];exact hx))]
     exact hse x (.tail _ hx)
    ·rw [List.append_assoc] at hw
     exact q F' σ' SE' ρ' h1 hF hw (f5.trans hfb)
end
structure FormOK (tb:List (Int×V)) (tr:List (Str×V)) (ks:List Int):Prop where
 root:∃ r re v fe,asc tr (S "Root")=some (refV r)∧ascI tb r=some (nodeV re)∧asc re (S "AcroForm")=some v∧Der tb v (.dict fe)∧asc fe (S "Fields")=some (.list (ks.map refV))
noncomputable abbrev noGv:Str→Option V:=fun _=>none
noncomputable abbrev Top (tb:List (Int×V)) (ks:List Int) (rs:List Leaf) (gs:List Grp) (ns:List Int) (c:Nat):Prop:=Forest (fun k r g n c=>Tree tb 2 false none [] noGv k r g n c) ks rs gs ns c
section
variable {n:Nat} {σ:Mem} {Q:V→Mem→Prop} {tb:List (Int×V)} {tr:List (Str×V)} {ks:List Int}
theorem formof_ok (h1:σ[1]?=some (.id tb)) (h2:σ[2]?=some (.sd tr)) (hf:FormOK tb tr ks) (q:∀ fe,asc fe (S "Fields")=some (.list (ks.map refV))→Q (.dict fe) σ):T (callF (n+4) 15 [shV]) σ Q:=by
 obtain ⟨r,re,v,fe,e1,e2,e3,e4,e5⟩:=hf.root
 refine t_fun (f:=f_form_of) rfl rfl rfl ?_
 dsimp only [f_form_of]
 refine t_asg (t_get (t_var rfl rfl ?_))
 refine ⟨rfl,?_⟩
 refine t_cons (t_methO (t_var rfl rfl ?_))
 refine ⟨4,_,5,rfl,rfl,t_nil ?_⟩
 refine t_fun (f:=f_Shelf_root) rfl rfl rfl ?_
 dsimp only [f_Shelf_root]
 refine t_asg (t_get (t_var rfl rfl ?_))
 refine ⟨rfl,?_⟩
 ext
 refine T.run (a:=V.cell 2) (σ':=σ) rfl ?_
 ext
 refine get_der h1 (pre_sd h2) (rd_sd h2) rfl rfl (x:=.dict re) (by rw [e1];exact .inr ⟨r,rfl,e2,rfl⟩) ?_
 ext
 refine isi_call (b:=true) rfl ?_
 refine ⟨true,rfl,?_⟩
 ext
 refine get_dic h1 (x:=.dict fe) (by rw [e3];exact e4) ?_
 ext
 refine isi_call (b:=true) rfl ?_
 refine ⟨true,rfl,?_⟩
 ext
 exact q fe e5
theorem walked_ok {rs:List Leaf} {gs:List Grp} {ns:List Int} {c:Nat} (h1:σ[1]?=some (.id tb)) (h2:σ[2]?=some (.sd tr)) (hf:FormOK tb tr ks) (ht:Top tb ks rs gs ns c) (hnd:ns.Nodup) (hc:c<400) (hn:ns.length<400)
  (q:∀ (σ':Mem) (F:List V) (SE:List (Int×V)),Gr σ σ'→Fields F rs→WS σ' σ.length tb F (gs.map grpV) SE []→Q (tourV σ.length) σ'):T (callF (n+7) 24 [shV]) σ Q:=by
 have hlt:=(List.getElem?_eq_some_iff.mp h2).1
 refine t_fun (f:=f_walked_form) rfl rfl rfl ?_
 dsimp only [f_walked_form]
 ext
 refine t_new (f:=i_FormWalk) rfl rfl ?_
 dsimp only [i_FormWalk]
 refine t_cons (t_list (t_nil (mkl (b:=true) (by decide) ?_)))
 refine t_cons (t_list (t_nil (mkl (b:=true) (by decide) ?_)))
 refine t_cons (t_dict2 (t_nil ?_))
 have g3:Gr σ (((σ++[Ob.list []])++[Ob.list []])++[Ob.id []]):=((Gr.push _ _).trans (Gr.push _ _)).trans (Gr.push _ _)
 have tour:V.inst 6 [V.cell σ.length,V.cell (σ++[Ob.list []]).length,V.cell ((σ++[Ob.list []])++[Ob.list []]).length]=tourV σ.length:=by
  rw [List.length_append,List.length_append,List.length_append];rfl
 show T (exs (callF (n+6)) _ (([shV]++List.replicate 18 V.unb).set 1 (V.inst 6 [V.cell σ.length,V.cell (σ++[Ob.list []]).length,V.cell ((σ++[Ob.list []])++[Ob.list []]).length]))) (((σ++[Ob.list []])++[Ob.list []])++[Ob.id []]) _
 rw [tour]
 ext
 refine formof_ok (g3.at h1) (g3.at h2) hf fun fe hfe=>?_
 ext
 refine row_ok (g3.at h1) (by rw [hfe];exact der_simple rfl) ?_
 refine ⟨ks.map refV,rfl,?_⟩
 rw [← List.map_reverse]
 let item:Int→Item:=fun k=>⟨2,false,none,[],noGv,[],k⟩
 have hitem:∀ k,ItemOK (item k):=fun k=>⟨fun _=>rfl,show 0<100 by decide,show 0+2≤2 by decide,fun _ h=>(nomatch h),fun _ h=>(nomatch h)⟩
 refine comp_map2 (f:=fun k=>itemV (item k)) (fun k hk Q hq=>?_) ?_
 ·ext
  refine t_dict0 ?_
  ext
  refine ⟨⟨rfl,List.nodup_nil,by decide⟩,?_⟩
  ext
  exact hq
 have hkl:ks.length≤c:=forest_len (fun _ _ _ _ _ h=>tree_pos h) ht
 refine mkl (b:=true) (by rw [List.length_map,List.length_reverse];unfold cap;lia) ?_
 have hp:Pend tb (ks.map item) rs gs ns c:=by
  have:=forest_pend (st:=[]) (r2:=[]) (g2:=[]) (n2:=[]) (c2:=0) hitem ht ⟨rfl,rfl,rfl,rfl⟩
  rw [List.append_nil,List.append_nil,List.append_nil,List.append_nil] at this
  exact this
 have el:ks.reverse.map (fun k=>itemV (item k))=(ks.map item).reverse.map itemV:=by rw [← List.map_reverse,List.map_map];rfl
 rw [el]
 let σ₃:=((σ++[Ob.list []])++[Ob.list []])++[Ob.id []]
 have l3:σ₃.length=σ.length+3:=by simp [σ₃]
 have g4:Gr σ (σ₃++[Ob.list ((ks.map item).reverse.map itemV)]):=g3.trans (Gr.push _ _)
 have w:WS (σ₃++[Ob.list ((ks.map item).reverse.map itemV)]) σ.length tb [] [] [] ((ks.map item).reverse.map itemV):=by
  refine ⟨by lia,g4.at h1,?_,?_,?_,?_⟩
  ·simp [σ₃]
  ·simp [σ₃]
  ·simp [σ₃]
  ·rw [← l3];exact at_new _ _
 have fin:T (exs (callF (n+6)) (.cons (.whiles (.cmp .gt (.call (.glob 7) (.cons (.var 2) .nil)) (.int 0)) (loopOf f_walked_form 0)) (.cons (.ret (.var 1)) .nil)) (([shV,tourV σ.length]++List.replicate 17 V.unb).set 2 (.cell (σ.length+3)))) (σ₃++[Ob.list ((ks.map item).reverse.map itemV)]) fun r σ=>Q (valueOf r.1) σ:=by
  refine t_whiles ?_
  refine walk_loop 1000 (ks.map item) rs gs ns c [] [] [] .unb .unb .unb .unb .unb .unb .unb .unb .unb .unb .unb .unb _ _ hp (by lia) w hnd (fun _ _=>rfl) (by rw [List.length_nil];lia) (by rw [List.length_nil];lia) (by rw [List.length_nil];lia) (by lia) fun F' σ' SE' ρ' hr hF hw hfb=>?_
  refine t_cont (t_ret (t_var hr rfl ?_))
  refine q σ' F' SE' ⟨Nat.le_trans g4.len hfb.len,fun j hj=>(hfb.kp j hj).trans (g4.kp j hj)⟩ hF hw
 rw [← l3] at fin
 exact fin
end
noncomputable def pairs (k:Int) (ws:List Str):List V:=ws.map fun w=>V.tup [.int k,.str w]
noncomputable def dueN:List Grp→List V
 | []=>[]
 | g::r=>pairs g.k (linkW g.p g.up g.t)++dueN r
noncomputable def nameOf (L:Leaf):Str:=(fullOf L.parts).getD (S "")
noncomputable def wordsOf (km:Str→Option Str) (L:Leaf):List Str:=linkW L.p L.up L.t++valueW L.i L.ws++(if decide ((km (nameOf L)).getD L.i.kd.str=L.i.kd.str) then [] else [S "two kinds of one name"])
noncomputable def dueL:(Str→Option Str)→List Leaf→List V
 | _,[]=>[]
 | km,L::r=>pairs L.k (wordsOf km L)++dueL (fun s=>if nameOf L=s then some L.i.kd.str else km s) r
structure GF (tb:List (Int×V)) (k:Int) (up:Option Int) (p:Par) (t:Option (List UInt8)):Prop where
 row:∃ es,ascI tb k=some (nodeV es)∧NodeOK es p t
 upos:∀ m,up=some m→1≤m
structure LF (tb:List (Int×V)) (L:Leaf):Prop where
 g:GF tb L.k L.up L.p L.t
 wid:Wids tb L.ws
 wl:L.ws.length<100
theorem link_len (p:Par) (up:Option Int) (t:Option (List UInt8)):(linkW p up t).length≤2:=by
 unfold linkW
 rw [List.length_append]
 cases decide (p.num=upN up) <;> cases dotIn t <;> decide
theorem value_len (i:Info) (ws:List (Int×Look)):(valueW i ws).length≤1:=by
 unfold valueW
 cases i.kd.isNo <;> cases i.kd.isTx <;> cases tooLong i <;> cases i.kd.isCh <;> cases ((i.flag 18&&i.flag 19) || allIn i) <;> cases i.kd.isBtn <;> cases rightAS i ws <;> decide
theorem words_len (km:Str→Option Str) (L:Leaf):(wordsOf km L).length≤4:=by
 unfold wordsOf
 rw [List.length_append,List.length_append]
 have h1:=link_len L.p L.up L.t
 have h2:=value_len L.i L.ws
 cases decide ((km (nameOf L)).getD L.i.kd.str=L.i.kd.str)
 ·show _+_+1≤4;lia
 ·show _+_+0≤4;lia
section
variable {n:Nat} {σ:Mem} {Q:V→Mem→Prop} {tb:List (Int×V)} {tr:List (Str×V)} {C:Calls}
theorem mkl0 {xs:List V} (hl:xs.length<cap) (q:Q (.list xs) σ):T (mkL false xs) σ Q:=by
 unfold mkL
 rw [if_pos hl];exact .ret q
theorem mkl1 {xs:List V} (hl:xs.length<cap) (q:Q (.cell σ.length) (σ++[.list xs])):T (mkL true xs) σ Q:=by
 unfold mkL
 rw [if_pos hl];exact .run rfl q
theorem set_same {σ:Mem} {c:Nat} {o:Ob} (h:σ[c]?=some o):σ.set c o=σ:=by
 apply List.ext_getElem?
 intro j
 by_cases hj:c=j
 ·subst hj;rw [at_set h,h]
 ·rw [at_ne hj]
theorem nodes_loop {tour:V} {c:Nat} {S:Fl×Env'→Mem→Prop} (hc:1≠c):∀ (gs:List Grp) (acc:List V) (a b:V) (σ:Mem),σ[1]?=some (.id tb)→σ[c]?=some (.list acc)→(∀ g∈gs,GF tb g.k g.up g.p g.t)→acc.length+2*gs.length<cap→
  (∀ a b,S (.next,[shV,tour,.cell c,a,b,.unb,.unb,.unb,.unb,.unb]) (σ.set c (.list (acc++dueN gs))))→T (loopS (exs (callF (n+4)) (loopOf f_field_faults 0)) (.many [3,4]) (gs.map grpV) [shV,tour,.cell c,a,b,.unb,.unb,.unb,.unb,.unb]) σ S
 | [],acc,a,b,σ,h1,h2,_,_,q=>by
  refine loop_nil ?_
  have:=q a b
  rw [show dueN []=[] from rfl,List.append_nil,set_same h2] at this
  exact this
 | g::gs,acc,a,b,σ,h1,h2,hg,hl,q=>by
  have hG:=hg g (.head _)
  obtain ⟨es,hk,hn⟩:=hG.row
  have huu:noU (upV g.up)=true:=by cases g.up <;> rfl
  have hll:=link_len g.p g.up g.t
  rw [List.length_cons] at hl
  refine loop_cons (ρ':=[shV,tour,.cell c,refV g.k,upV g.up,.unb,.unb,.unb,.unb,.unb]) rfl ?_
  dsimp only [loopOf,loopsOf,f_field_faults,List.getD_cons_zero]
  refine t_expr ?_
  ext
  refine t_pre (pre_cell h2) ?_
  refine ⟨.inr rfl,?_⟩
  ext
  refine links_ok h1 hk hn hG.upos ?_
  refine items_list ?_
  refine comp_map2 (enc:=V.str) (f:=fun w=>V.tup [.int g.k,.str w]) (fun w hw Q hq=>?_) ?_
  ·ext
   refine T.run (a:=V.int g.k) (σ':=σ) rfl ?_
   ext
   exact hq
  refine mkl0 (by rw [List.length_map];unfold cap;lia) ?_
  refine t_nil (t_pre (pre_cell h2) ?_)
  refine ⟨rfl,?_⟩
  refine ext_cell h2 (by rw [List.length_map];lia) ?_
  refine t_end (t_next ?_)
  refine nodes_loop hc gs (acc++pairs g.k (linkW g.p g.up g.t)) _ _ _ ((at_ne (Ne.symm hc)).trans h1) (at_set h2) (fun x hx=>hg x (.tail _ hx)) (by unfold pairs;rw [List.length_append,List.length_map];lia) fun a b=>?_
  rw [List.set_set,List.append_assoc]
  exact q a b
theorem leaf_loop {tour:V} {b c kc:Nat} {S:Fl×Env'→Mem→Prop} (hck:c≠kc) (hb:2≤b) (hbc:b≤c) (hbk:b≤kc):∀ (F:List V) (rs:List Leaf) (acc:List V) (kd:List (Str×V)) (km:Str→Option Str) (a3 a4 a6 a7:V) (σ:Mem),Fields F rs→σ[1]?=some (.id tb)→σ[c]?=some (.list acc)→σ[kc]?=some (.sd kd)→(∀ s,asc kd s=(km s).map V.str)→
  (∀ L∈rs,LF tb L)→acc.length+4*rs.length<500000→kd.length+rs.length<500000→
  (∀ a6 a7 σ',Fb b σ σ'→σ'[c]?=some (.list (acc++dueL km rs))→S (.next,[shV,tour,.cell c,a3,a4,.cell kc,a6,a7,.unb,.unb]) σ')→
  T (loopS (exs (callF (n+7)) (loopOf f_field_faults 1)) (.one 6) F [shV,tour,.cell c,a3,a4,.cell kc,a6,a7,.unb,.unb]) σ S:=by
 intro F
 induction F with
 | nil=>
  intro rs acc kd km a3 a4 a6 a7 σ hF h1 h2 h3 hkm hL hla hlk q
  cases rs with
  | cons _ _=>exact hF.elim
  | nil=>
   refine loop_nil ?_
   refine q a6 a7 σ (.refl b σ) ?_
   rw [show dueL km []=[] from rfl,List.append_nil]
   exact h2
 | cons v F ih=>
  intro rs acc kd km a3 a4 a6 a7 σ hF h1 h2 h3 hkm hL hla hlk q
  cases rs with
  | nil=>exact hF.elim
  | cons L rs=>
   obtain ⟨⟨fs,hv,hi⟩,hF⟩:=hF
   have hLL:=hL L (.head _)
   obtain ⟨es,hk,hn⟩:=hLL.g.row
   have hwl:=words_len km L
   rw [List.length_cons] at hla hlk
   subst hv
   let fv:V:=.inst 5 [.str ((fullOf L.parts).getD (Mine.S "")),refV L.k,upV L.up,.list (L.ws.map fun w=>refV w.1),.dict fs,.str L.i.kd.str]
   refine loop_cons (ρ':=[shV,tour,.cell c,a3,a4,.cell kc,fv,a7,.unb,.unb]) rfl ?_
   dsimp only [loopOf,loopsOf,f_field_faults,List.getD_cons_succ,List.getD_cons_zero]
   refine t_asg ?_
   ext
   refine T.run (a:=refV L.k) (σ':=σ) rfl ?_
   ext
   refine T.run (a:=upV L.up) (σ':=σ) rfl ?_
   ext
   refine links_ok h1 hk hn hLL.g.upos ?_
   ext
   refine faults_ok (es:=fs) (i:=L.i) (ws:=L.ws) h1 rfl rfl rfl hi hLL.wid hLL.wl fun σ₁ g1=>?_
   have hl1:=link_len L.p L.up L.t
   have hl2:=value_len L.i L.ws
   refine add_list (mkl1 (by rw [List.length_append,List.length_map,List.length_map];unfold cap;lia) ?_)
   rw [← List.map_append]
   have hlt2:=(List.getElem?_eq_some_iff.mp h2).1
   have hlt3:=(List.getElem?_eq_some_iff.mp h3).1
   have g2:Gr σ (σ₁++[Ob.list ((linkW L.p L.up L.t++valueW L.i L.ws).map V.str)]):=g1.trans (Gr.push _ _)
   generalize hσ₂:σ₁++[Ob.list ((linkW L.p L.up L.t++valueW L.i L.ws).map V.str)]=σ₂ at g2
   have hp:σ₂[σ₁.length]?=some (.list ((linkW L.p L.up L.t++valueW L.i L.ws).map V.str)):=by rw [← hσ₂];exact at_new _ _
   have hlt1:=g1.len
   have fin:∀ (S':Fl×Env'→Mem→Prop),(∀ ρ σ,T (loopS (exs (callF (n+7)) (loopOf f_field_faults 1)) (.one 6) F ρ) σ S→S' (.next,ρ) σ)→∀ (σ₃:Mem) (ws:List Str),Fb b σ σ₃→σ₃[1]?=some (.id tb)→σ₃[c]?=some (.list acc)→σ₃[kc]?=some (.sd kd)→σ₃[σ₁.length]?=some (.list (ws.map V.str))→ws=wordsOf km L→
     T (exs (callF (n+7)) (.cons (.put (.var 5) (.attr (.var 6) (Mine.S "name")) (.attr (.var 6) (Mine.S "kind"))) (.cons (.expr (.meth (.var 2) (Mine.S "extend") (.cons (.lcomp false (.tup (.cons (.attr (.attr (.var 6) (Mine.S "reference")) (Mine.S "number")) (.cons (.var 8) .nil))) (.one 8) (.fwd (.frz (.var 7))) .nil) .nil))) .nil)) [shV,tour,.cell c,a3,a4,.cell kc,fv,.cell σ₁.length,.unb,.unb]) σ₃ S':=by
    intro S' hS' σ₃ ws f3 k1 k2 k3 k4 hws
    ext
    refine T.run (a:=V.str L.i.kd.str) (σ':=σ₃) rfl ?_
    ext
    refine T.run (a:=V.str (nameOf L)) (σ':=σ₃) rfl ?_
    refine set_sd k3 (by unfold cap;lia) ?_
    have k2':(σ₃.set kc (.sd (sto kd (nameOf L) (.str L.i.kd.str))))[c]?=some (.list acc):=(at_ne (Ne.symm hck)).trans k2
    have k1':(σ₃.set kc (.sd (sto kd (nameOf L) (.str L.i.kd.str))))[1]?=some (.id tb):=(at_ne (by lia)).trans k1
    have k4':(σ₃.set kc (.sd (sto kd (nameOf L) (.str L.i.kd.str))))[σ₁.length]?=some (.list (ws.map V.str)):=(at_ne (by lia)).trans k4
    ext
    refine t_pre (pre_cell k2') ?_
    refine ⟨.inr rfl,?_⟩
    ext
    refine frz_list k4' ?_
    refine items_list ?_
    refine comp_map2 (enc:=V.str) (f:=fun w=>V.tup [.int L.k,.str w]) (fun w hw Q hq=>?_) ?_
    ·ext
     refine T.run (a:=refV L.k) (σ':=_) rfl ?_
     refine T.run (a:=V.int L.k) (σ':=_) rfl ?_
     ext
     exact hq
    refine mkl0 (by rw [List.length_map,hws];unfold cap;lia) ?_
    have k2'':((σ₃.set kc (.sd (sto kd (nameOf L) (.str L.i.kd.str)))).set σ₁.length Ob.dead)[c]?=some (.list acc):=(at_ne (by lia)).trans k2'
    refine t_nil (t_pre (pre_cell k2'') ?_)
    refine ⟨rfl,?_⟩
    refine ext_cell k2'' (by rw [List.length_map,hws];unfold cap;lia) ?_
    refine t_end (hS' _ _ ?_)
    have hln:=sto_len (nameOf L) (V.str L.i.kd.str) kd
    refine ih rs (acc++pairs L.k (wordsOf km L)) (sto kd (nameOf L) (.str L.i.kd.str)) (fun s=>if nameOf L=s then some L.i.kd.str else km s) a3 a4 _ _ _ hF ((at_ne (by lia)).trans ((at_ne (by lia)).trans k1')) (by rw [hws];exact at_set k2'') ((at_ne hck).trans ((at_ne (by lia)).trans (at_set k3))) (fun s=>?_) (fun x hx=>hL x (.tail _ hx)) (by unfold pairs;rw [List.length_append,List.length_map];lia) (by lia) fun a6 a7 σ' f' hc'=>?_
    ·rw [asc_sto,hkm s]
     by_cases h:nameOf L=s
     ·rw [if_pos h,if_pos h];rfl
     ·rw [if_neg h,if_neg h]
    ·refine q a6 a7 σ' ?_ ?_
     ·exact Fb.trans (((f3.set hbk _).set (show b≤σ₁.length by lia) _).set hbc _) f'
     ·rw [hc',List.append_assoc];rfl
   refine t_ifs (t_cmp (t_meth (t_var rfl rfl ?_)))
   refine t_pre (pre_sd (g2.at h3)) ?_
   refine ⟨.inr rfl,?_⟩
   ext
   refine T.run (a:=V.str (nameOf L)) (σ':=σ₂) rfl ?_
   ext
   refine T.run (a:=V.str L.i.kd.str) (σ':=σ₂) rfl ?_
   ext
   refine t_pre (pre_sd (g2.at h3)) ?_
   refine ⟨rfl,?_⟩
   refine dget2 (rd_sd (g2.at h3)) rfl ?_
   rw [hkm]
   have eg:((km (nameOf L)).map V.str).getD (.str L.i.kd.str)=.str ((km (nameOf L)).getD L.i.kd.str):=by cases km (nameOf L) <;> rfl
   rw [eg]
   ext
   refine T.run (a:=V.str L.i.kd.str) (σ':=σ₂) rfl ?_
   refine T.run (a:=!decide ((km (nameOf L)).getD L.i.kd.str=L.i.kd.str)) (σ':=σ₂) rfl ?_
   refine ⟨_,rfl,?_⟩
   have f2:Fb b σ σ₂:=Fb.gr g2 (by lia)
   cases ed:decide ((km (nameOf L)).getD L.i.kd.str=L.i.kd.str) with
   | true=>
    refine t_end (t_cont ?_)
    exact fin _ (fun ρ σ h=>t_next h) σ₂ _ f2 (g2.at h1) (g2.at h2) (g2.at h3) hp (by unfold wordsOf;rw [ed,if_pos rfl,List.append_nil])
   | false=>
    refine t_expr (t_meth (t_var rfl rfl (t_pre (pre_cell hp) ?_)))
    refine ⟨.inr rfl,?_⟩
    refine t_cons (t_str (t_nil (t_pre (pre_cell hp) ?_)))
    refine ⟨rfl,app_cell hp (by rw [List.length_map,List.length_append];unfold cap;lia) ?_⟩
    refine t_end (t_cont ?_)
    refine fin _ (fun ρ σ h=>t_next h) _ (wordsOf km L) (f2.set (by lia) _) ((at_ne (by lia)).trans (g2.at h1)) ((at_ne (by lia)).trans (g2.at h2)) ((at_ne (by lia)).trans (g2.at h3)) ?_ rfl
    rw [at_set hp]
    unfold wordsOf
    rw [ed,if_neg Bool.false_ne_true];simp
end
theorem facts_app {tb:List (Int×V)} {r1 r2:List Leaf} {g1 g2:List Grp} {c1 c2:Nat} (a:(∀ g∈g1,GF tb g.k g.up g.p g.t)∧(∀ L∈r1,LF tb L)∧g1.length+r1.length≤c1) (b:(∀ g∈g2,GF tb g.k g.up g.p g.t)∧(∀ L∈r2,LF tb L)∧g2.length+r2.length≤c2) :
  (∀ g∈g1++g2,GF tb g.k g.up g.p g.t)∧(∀ L∈r1++r2,LF tb L)∧(g1++g2).length+(r1++r2).length≤c1+c2:=
 ⟨fun g hg=>(List.mem_append.mp hg).elim (a.1 g) (b.1 g),fun L hL=>(List.mem_append.mp hL).elim (a.2.1 L) (b.2.1 L),by
  rw [List.length_append,List.length_append,Nat.add_add_add_comm]
  exact Nat.add_le_add a.2.2 b.2.2⟩
theorem tree_facts {tb:List (Int×V)} {l need up parts gv k rs gs ns c} (h:Tree tb l need up parts gv k rs gs ns c):(∀ m,up=some m→1≤m)→(∀ g∈gs,GF tb g.k g.up g.p g.t)∧(∀ L∈rs,LF tb L)∧gs.length+rs.length≤c:=
 h.ind (G:=fun _ _ up _ _ _ rs gs _ c=>(∀ m,up=some m→1≤m)→(∀ g∈gs,GF tb g.k g.up g.p g.t)∧(∀ L∈rs,LF tb L)∧gs.length+rs.length≤c)
  (fun l need up parts gv k L es ns h hu=>⟨fun _ h=>(nomatch h),fun x hx=>List.mem_singleton.mp hx▸⟨⟨⟨es,h.hk▸h.row,h.node⟩,h.hup▸hu⟩,h.wid,h.wl⟩,Nat.le_refl _⟩)
  fun l need up parts gv k es p t ks rs gs ns c hG hf hu=>by
   have a:=hf.ind (G:=fun _ rs gs _ c=>(∀ g∈gs,GF tb g.k g.up g.p g.t)∧(∀ L∈rs,LF tb L)∧gs.length+rs.length≤c) ⟨fun _ h=>(nomatch h),fun _ h=>(nomatch h),Nat.le_refl _⟩ fun k' ks r1 g1 n1 c1 r2 g2 n2 c2 h1 _ ih=>facts_app (h1 fun m e=>Option.some.inj e▸hG.pos) ih
   exact ⟨fun g hg=>(List.mem_cons.mp hg).elim (fun e=>e▸⟨⟨es,hG.row,hG.node⟩,hu⟩) (a.1 g),a.2.1,by
    rw [List.length_cons,Nat.succ_add]
    exact Nat.succ_le_succ a.2.2⟩
theorem top_facts {tb:List (Int×V)} {ks rs gs ns c} (h:Top tb ks rs gs ns c):(∀ g∈gs,GF tb g.k g.up g.p g.t)∧(∀ L∈rs,LF tb L)∧gs.length+rs.length≤c:=
 h.ind (G:=fun _ rs gs _ c=>(∀ g∈gs,GF tb g.k g.up g.p g.t)∧(∀ L∈rs,LF tb L)∧gs.length+rs.length≤c) ⟨fun _ h=>(nomatch h),fun _ h=>(nomatch h),Nat.le_refl _⟩ fun k' ks r1 g1 n1 c1 r2 g2 n2 c2 h1 _ ih=>facts_app (tree_facts h1 fun _ e=>nomatch e) ih
theorem dueN_len:∀ gs:List Grp,(dueN gs).length≤2*gs.length
 | []=>Nat.le_refl _
 | g::gs=>by
  have h1:=link_len g.p g.up g.t
  have h2:=dueN_len gs
  unfold dueN pairs
  rw [List.length_append,List.length_map,List.length_cons];lia
section
variable {n:Nat} {σ:Mem} {Q:V→Mem→Prop} {tb:List (Int×V)} {tr:List (Str×V)} {ks:List Int}
theorem fieldfaults_ok {rs:List Leaf} {gs:List Grp} {ns:List Int} {c:Nat} (h1:σ[1]?=some (.id tb)) (h2:σ[2]?=some (.sd tr)) (hf:FormOK tb tr ks) (ht:Top tb ks rs gs ns c) (hnd:ns.Nodup) (hc:c<400) (hn:ns.length<400)
  (q:∀ σ',Gr σ σ'→Q (.list (dueN gs++dueL (fun _=>none) rs)) σ'):T (callF (n+8) 33 [shV]) σ Q:=by
 have hlt:=(List.getElem?_eq_some_iff.mp h2).1
 obtain ⟨hg,hL,hlen⟩:=top_facts ht
 refine t_fun (f:=f_field_faults) rfl rfl rfl ?_
 dsimp only [f_field_faults]
 ext
 refine walked_ok h1 h2 hf ht hnd hc hn fun σ₁ F SE g1 hF w=>?_
 have lw:=w.lt
 have g2:=Gr.push σ₁ (Ob.list [])
 refine t_asg (t_list (t_nil (mkl1 (by decide) ?_)))
 have b0:=w.b2
 ext
 refine T.run (a:=V.cell (σ.length+1)) (σ':=σ₁++[Ob.list []]) rfl ?_
 refine frz_list (g2.at w.hn) ?_
 refine for_list ?_
 let σ₂:=(σ₁++[Ob.list []]).set (σ.length+1) Ob.dead
 have f2:Fb σ.length σ σ₂:=((Fb.gr g1 (Nat.le_refl _)).trans (Fb.gr g2 (by lia))).set (by lia) _
 have k1:σ₂[1]?=some (.id tb):=(at_ne (by lia)).trans (g2.at w.h1)
 have kc:σ₂[σ₁.length]?=some (.list []):=(at_ne (by lia)).trans (at_new _ _)
 have kf:σ₂[σ.length]?=some (.list F):=(at_ne (by lia)).trans (g2.at w.hf)
 refine nodes_loop (n:=n+3) (tour:=tourV σ.length) (c:=σ₁.length) (by lia) gs [] .unb .unb σ₂ k1 kc hg (by rw [List.length_nil];unfold cap;lia) fun a b=>?_
 rw [List.nil_append]
 have kf2:(σ₂.set σ₁.length (.list (dueN gs)))[σ.length]?=some (.list F):=(at_ne (by lia)).trans kf
 have k12:(σ₂.set σ₁.length (.list (dueN gs)))[1]?=some (.id tb):=(at_ne (by lia)).trans k1
 have kc2:(σ₂.set σ₁.length (.list (dueN gs)))[σ₁.length]?=some (.list (dueN gs)):=at_set kc
 have f3:Fb σ.length σ (σ₂.set σ₁.length (.list (dueN gs))):=f2.set (by have:=g1.len;lia) _
 generalize hσ₃:σ₂.set σ₁.length (.list (dueN gs))=σ₃ at kf2 k12 kc2 f3
 have l3:σ₁.length<σ₃.length:=(List.getElem?_eq_some_iff.mp kc2).1
 refine t_cont (t_asg (t_dict1 (t_nil ?_)))
 refine ⟨⟨rfl,List.nodup_nil,by decide⟩,?_⟩
 have g4:=Gr.push σ₃ (Ob.sd [])
 refine t_fors (t_frz (t_attr (t_var rfl rfl ?_)))
 refine T.run (a:=V.cell σ.length) (σ':=σ₃++[Ob.sd []]) rfl ?_
 refine frz_list (g4.at kf2) ?_
 refine for_list ?_
 have f5:Fb σ.length σ ((σ₃++[Ob.sd []]).set σ.length Ob.dead):=(f3.trans (Fb.gr g4 (by have:=f3.len;lia))).set (Nat.le_refl _) _
 have hdl:=dueN_len gs
 have hlg:=g1.len
 refine leaf_loop (n:=n) (tour:=tourV σ.length) (b:=σ.length) (c:=σ₁.length) (kc:=σ₃.length) (by lia) (by lia) (by lia) (by lia) F rs (dueN gs) [] (fun _=>none) a b .unb .unb _ hF ((at_ne (by lia)).trans (g4.at k12)) ((at_ne (by lia)).trans (g4.at kc2)) ((at_ne (by lia)).trans (at_new _ _)) (fun _=>rfl) hL (by lia) (by rw [List.length_nil];lia) fun a6 a7 σ' f' kc'=>?_
 refine t_cont (t_ret (t_frz (t_var rfl rfl (frz_list kc' ?_))))
 have f6:=(f5.trans f').set (show σ.length≤σ₁.length by lia) Ob.dead
 exact q _ ⟨f6.len,fun i hi=>f6.kp i hi⟩
end
theorem full_join:∀ (n:Nat) (ps:List Str),ps.length=n→(ps=[]→fullOf ps=none)∧(ps≠[]→fullOf ps=some (Str.join (S ".") ps))
 | 0,ps,h=>by
  have:ps=[]:=List.length_eq_zero_iff.mp h
  subst this
  exact ⟨fun _=>rfl,fun h=>absurd rfl h⟩
 | n+1,ps,h=>by
  rcases List.eq_nil_or_concat ps with rfl|⟨l,a,rfl⟩
  ·cases h
  ·rw [List.concat_eq_append] at h ⊢
   rw [List.length_append,List.length_cons,List.length_nil] at h
   have ih:=full_join n l (by lia)
   refine ⟨fun e=>absurd e (by simp),fun _=>?_⟩
   have:=full_snoc l (some a)
   rw [show (some a).toList=[a] from rfl] at this
   rw [this,PyProof.Rows.FinIter.join_snoc]
   by_cases hl:l=[]
   ·rw [if_pos hl,ih.1 hl];rfl
   ·rw [if_neg hl,ih.2 hl];rfl
theorem name_join (L:Leaf):nameOf L=Str.join (S ".") L.parts:=by
 unfold nameOf
 by_cases h:L.parts=[]
 ·rw [(full_join _ _ rfl).1 h,h];kernel_rfl
 ·rw [(full_join _ _ rfl).2 h];rfl
noncomputable def Chain (tb ups:List (Int×V)):Nat→Option Int→Option Int→List Str→Prop
 | _,none,_,ps=>ps=[]
 | 0,some _,_,_=>False
 | d+1,some k,up,ps=>∃ es t pre up',ascI tb k=some (nodeV es)∧asc es (S "T")=t.map strV∧(∀ b,t=some b→b∈byStrs)∧ps=pre++(t.map txt).toList∧(up=none→up'=none)∧(∀ m,up=some m→ascI ups m=some (upV up'))∧Chain tb ups d up up' pre
theorem Chain.cs {tb ups:List (Int×V)} {d:Nat} {here up:Option Int} {ps:List Str} {G:Nat→Option Int→List Str→Prop} (h:Chain tb ups d here up ps) (g0:∀ d,G d none [])
  (g1:∀ d k es t pre up',ascI tb k=some (nodeV es)→asc es (S "T")=t.map strV→(∀ b,t=some b→b∈byStrs)→(up=none→up'=none)→(∀ m,up=some m→ascI ups m=some (upV up'))→Chain tb ups d up up' pre→G (d+1) (some k) (pre++(t.map txt).toList)):G d here ps:=by
 cases here with
 | none=>
  have h:ps=[]:=by cases d <;> exact h
  exact h▸g0 d
 | some k=>
  cases d with
  | zero=>exact h.elim
  | succ d=>
   obtain ⟨es,t,pre,up',h1,h2,h3,rfl,h5,h6,h7⟩:=h
   exact g1 d k es t pre up' h1 h2 h3 h5 h6 h7
theorem opt_len {α β:Type} {t:Option α} {f:α→β}:(t.map f).toList.length≤1:=by
 cases t with
 | none=>exact Nat.zero_le 1
 | some _=>exact Nat.le_refl 1
theorem chain_len {tb ups:List (Int×V)} {d here up ps} (h:Chain tb ups d here up ps):ps.length≤d∧∀ p∈ps,p.cps.size≤4:=by
 induction d generalizing here up ps with
 | zero=>exact h.cs (G:=fun d' _ ps=>d'=0→ps.length≤0∧∀ p∈ps,p.cps.size≤4) (fun _ _=>⟨Nat.le_refl _,fun _ h=>nomatch h⟩) (fun _ _ _ _ _ _ _ _ _ _ _ _ e=>nomatch e) rfl
 | succ d ih=>
  refine h.cs (G:=fun d' _ ps=>d'=d+1→ps.length≤d+1∧∀ p∈ps,p.cps.size≤4) (fun _ _=>⟨Nat.zero_le _,fun _ h=>nomatch h⟩) (fun d' k es t pre up' _ _ ht _ _ hc e=>?_) rfl
  have w:=ih (Nat.succ.inj e▸hc)
  exact ⟨by rw [List.length_append];exact Nat.add_le_add w.1 opt_len,fun p hp=>(List.mem_append.mp hp).elim (w.2 p) (txt_ok ht p)⟩
noncomputable def Anc (tb ups:List (Int×V)) (d:Nat) (up:Option Int) (parts:List Str):Prop:=∃ up',(up=none→up'=none)∧(∀ m,up=some m→ascI ups m=some (upV up'))∧Chain tb ups d up up' parts
theorem Anc.one {tb ups:List (Int×V)} {d:Nat} {up:Option Int} {parts:List Str} {k:Int} {es:List (Str×V)} {t:Option (List UInt8)} (a:Anc tb ups d up parts) (h1:ascI tb k=some (nodeV es)) (h2:asc es (S "T")=t.map strV) (h3:∀ b,t=some b→b∈byStrs):Chain tb ups (d+1) (some k) up (parts++(t.map txt).toList):=
 a.elim fun up' a=>⟨es,t,parts,up',h1,h2,h3,rfl,a.1,a.2.1,a.2.2⟩
theorem tree_chain {tb ups:List (Int×V)} {l need up parts gv k rs gs ns c} (h:Tree tb l need up parts gv k rs gs ns c):∀ d,(∀ g∈gs,ascI ups g.k=some (upV g.up))→Anc tb ups d up parts→∀ L∈rs,∃ d',d'≤d+l+1∧Chain tb ups d' (some L.k) L.up L.parts:=
 h.ind (G:=fun l _ up parts _ _ rs gs _ _=>∀ d,(∀ g∈gs,ascI ups g.k=some (upV g.up))→Anc tb ups d up parts→∀ L∈rs,∃ d',d'≤d+l+1∧Chain tb ups d' (some L.k) L.up L.parts)
  (fun l need up parts gv k L es ns h d _ ha x hx=>by
   rw [List.mem_singleton.mp hx,h.hk,h.hup,h.hp]
   exact ⟨d+1,Nat.succ_le_succ (Nat.le_add_right d l),ha.one h.row h.node.ti h.node.tok⟩)
  fun l need up parts gv k es p t ks rs gs ns c hG hf d hg ha=>by
   have anc:Anc tb ups (d+1) (some k) (parts++(t.map txt).toList):=⟨up,fun e=>(nomatch e),fun m e=>Option.some.inj e▸hg _ (.head _),ha.one hG.row hG.node.ti hG.node.tok⟩
   exact hf.ind (G:=fun _ rs gs _ _=>(∀ g∈gs,ascI ups g.k=some (upV g.up))→∀ L∈rs,∃ d',d'≤d+(l+1)+1∧Chain tb ups d' (some L.k) L.up L.parts) (fun _ _ h=>nomatch h)
    (fun k' ks r1 g1 n1 c1 r2 g2 n2 c2 h1 _ ih hg L hL=>(List.mem_append.mp hL).elim (fun h=>(h1 (d+1) (fun g h=>hg g (List.mem_append_left _ h)) anc L h).elim fun d' w=>⟨d',Nat.le_trans w.1 (Nat.le_of_eq (congrArg (·+1) (Nat.succ_add d l))),w.2⟩) (ih (fun g h=>hg g (List.mem_append_right _ h)) L)) fun g h=>hg g (.tail _ h)
theorem top_chain {tb ups:List (Int×V)} {ks rs gs ns c} (h:Top tb ks rs gs ns c):(∀ g∈gs,ascI ups g.k=some (upV g.up))→∀ L∈rs,∃ d',d'≤3∧Chain tb ups d' (some L.k) L.up L.parts:=
 h.ind (G:=fun _ rs gs _ _=>(∀ g∈gs,ascI ups g.k=some (upV g.up))→∀ L∈rs,∃ d',d'≤3∧Chain tb ups d' (some L.k) L.up L.parts) (fun _ _ h=>nomatch h)
  fun k' ks r1 g1 n1 c1 r2 g2 n2 c2 h1 _ ih hg L hL=>(List.mem_append.mp hL).elim (tree_chain h1 0 (fun g h=>hg g (List.mem_append_left _ h)) ⟨none,fun _=>rfl,fun _ e=>(nomatch e),rfl⟩ L) (ih (fun g h=>hg g (List.mem_append_right _ h)) L)
section
variable {n:Nat} {σ:Mem} {Q:V→Mem→Prop} {tb:List (Int×V)} {tr:List (Str×V)} {ks:List Int} {C:Calls}
noncomputable abbrev lawE (s p r g:V) (u dc kc:Nat) (h7 a8 row pa he be hd n15 w16:V):Env':=[s,p,shV,r,g,.cell u,.cell dc,h7,a8,.cell kc,row,pa,he,be,hd,n15,w16,.unb,.unb,.unb,.unb,.unb]
noncomputable def lawRow:MSs:=loopOf f_law 1
noncomputable def lawUp:MSs:=(loopsOf lawRow).getD 0 .nil
theorem up_loop {ups:List (Int×V)} {s p r g:V} {u dc kc:Nat} {h7 a8 row n15 w16:V} {S:Fl×Env'→Mem→Prop} (h1:σ[1]?=some (.id tb)) (hu:σ[u]?=some (.id ups)):∀ (d m:Nat) (here up:Option Int) (ps acc:List Str) (hd:V),Chain tb ups d here up ps→d<m→acc.length+ps.length<100→
  (∀ be hd,S (.next,lawE s p r g u dc kc h7 a8 row (.list ((ps++acc).map V.str)) .none be hd n15 w16) σ)→
  T (loopW (fun ρ=>bnd (ev (callF (n+3)) (.cmp .isnt (.var 12) .none) ρ) truth) (exs (callF (n+3)) lawUp) m (lawE s p r g u dc kc h7 a8 row (.list (acc.map V.str)) (upV here) (upV up) hd n15 w16)) σ S:=by
 intro d m
 induction m generalizing d with
 | zero=>intro _ _ _ _ _ _ h;exact absurd h (Nat.not_lt_zero _)
 | succ m ih=>
  intro here up ps acc hd h hm hl q
  cases here with
  | none=>
   have h:ps=[]:=by cases d <;> exact h
   subst h
   have huu:noU (upV up)=true:=by cases up <;> rfl
   refine loop_while ?_
   refine t_cmp (t_var rfl rfl (t_none ?_))
   refine T.run (a:=false) (σ':=σ) rfl ?_
   exact ⟨false,rfl,q _ _⟩
  | some k=>
   cases d with
   | zero=>exact h.elim
   | succ d=>
    obtain ⟨es,t,pre,up',hk,ht,htok,e,a1,a2,hc⟩:=h
    subst e
    have huu:noU (upV up)=true:=by cases up <;> rfl
    rw [List.length_append] at hl
    refine loop_while ?_
    refine t_cmp (t_var rfl rfl (t_none ?_))
    refine T.run (a:=true) (σ':=σ) rfl ?_
    refine ⟨true,rfl,?_⟩
    dsimp only
    dsimp only [lawUp,lawRow,loopOf,loopsOf,f_law,List.getD_cons_zero,List.getD_cons_succ]
    refine t_asg (t_fetch (t_var rfl rfl ?_))
    refine ⟨rfl,?_⟩
    refine t_cons (t_var rfl rfl (t_nil ?_))
    refine fetch_ref h1 hk rfl ?_
    refine t_asg (t_bin ?_)
    have pt:∀ (ρ:Env'),ρ[14]?=some (.dict es)→∀ Q':V→Mem→Prop,Q' (.list ((t.map txt).toList.map V.str)) σ→T (ev (callF (n+3)) (.ife (.cmp .in (.str (Mine.S "T")) (.var 14)) (.list false (.cons (.call (.glob 65) (.cons (.sub (.var 14) (.str (Mine.S "T"))) .nil)) .nil)) (.list false .nil)) ρ) σ Q':=by
     intro ρ r14 Q' hq
     refine t_ife (t_cmp (t_str (t_var r14 rfl (in_dic ?_))))
     refine ⟨_,rfl,?_⟩
     rw [ht]
     cases t with
     | none=>exact t_list (t_nil (mkl0 (by decide) hq))
     | some b=>
      refine t_list (t_cons (t_call (t_glob rfl (t_cons (t_sub (t_var r14 rfl (t_str (get_dict ht (t_nil ?_)))))))))
      refine lawplain_ok (v:=some (.str b)) (fun x e=>by cases e;exact htok b rfl) ?_
      exact t_nil (mkl0 (show 1<cap by decide) hq)
    refine pt _ rfl _ ?_
    refine t_var rfl rfl ?_
    refine add_list ?_
    rw [← List.map_append]
    refine mkl0 (by rw [List.length_map,List.length_append];have:(t.map txt).toList.length≤1:=(by cases t <;> simp);unfold cap;lia) ?_
    refine t_asgs (t_tup (t_cons (t_var rfl huu ?_)))
    have nx:∀ (ρ:Env'),ρ[13]?=some (upV up)→ρ[5]?=some (.cell u)→∀ Q':V→Mem→Prop,Q' (upV up') σ→T (ev (callF (n+3)) (.ife (.cmp .is (.var 13) .none) .none (.sub (.var 5) (.attr (.var 13) (Mine.S "number")))) ρ) σ Q':=by
     intro ρ r13 r5 Q' hq
     refine t_ife (t_cmp (t_var r13 huu (t_none ?_)))
     cases up with
     | none=>
      rw [a1 rfl] at hq
      exact T.run (a:=true) (σ':=σ) rfl ⟨true,rfl,t_none hq⟩
     | some m=>
      refine T.run (a:=false) (σ':=σ) rfl ⟨false,rfl,?_⟩
      refine t_sub (t_var r5 rfl (t_attr (t_var r13 rfl ?_)))
      refine T.run (a:=V.int m) (σ':=σ) rfl ?_
      exact get_id hu (a2 m rfl) hq
    refine t_cons (nx _ rfl rfl _ (t_nil ?_))
    refine ⟨show 2<100 by decide,_,rfl,?_⟩
    refine t_end (t_nextw ?_)
    refine ih d up up' pre ((t.map txt).toList++acc) (.dict es) hc (by lia) (by rw [List.length_append];lia) fun be hd=>?_
    have:=q be hd
    rw [List.append_assoc] at this
    exact this
end
theorem strsOf_strs:∀ ps:List Str,strsOf (ps.map V.str)=some ps
 | []=>rfl
 | p::ps=>by
  show ((strsOf (ps.map V.str)).bind fun l=>some (p::l))=_
  rw [strsOf_strs ps];rfl
theorem sum_len:∀ ps:List Str,(∀ p∈ps,p.cps.size≤4)→(ps.map (·.length)).sum≤4*ps.length
 | [],_=>Nat.le_refl _
 | p::ps,h=>by
  have h1:p.length≤4:=h p (.head _)
  have h2:=sum_len ps fun q hq=>h q (.tail _ hq)
  rw [List.map_cons,List.sum_cons,List.length_cons];lia
section
variable {n:Nat} {σ:Mem} {Q:V→Mem→Prop} {tb:List (Int×V)} {tr:List (Str×V)} {ks:List Int} {C:Calls}
theorem join_call {ps:List Str} (h:∀ p∈ps,p.cps.size≤4) (hl:ps.length<1000) (q:Q (.str (Str.join (S ".") ps)) σ):T (methV C (.str (S ".")) (S "join") [.list (ps.map V.str)]) σ Q:=by
 show T (Mine.bnd (rdList (.list (ps.map V.str))) fun xs=>Mine.bnd (Mine.lft (strsOf xs)) fun ss=>if (ss.map (·.length)).sum+ss.length≤1048576∧(S ".").length≤16 then Mine.ret (.str (Str.join (S ".") ss)) else fail) σ Q
 refine .bnd (.run (a:=ps.map V.str) (σ':=σ) rfl (.bnd (.lft (strsOf_strs ps) ?_)))
 have:=sum_len ps h
 have hd:(S ".").length≤16:=by decide +kernel
 rw [if_pos ⟨by lia,hd⟩]
 exact .ret q
noncomputable abbrev rowV (L:Leaf):V:=.tup [L.x0,refV L.k,upV L.up,.dict L.wh,.list (L.ws.map fun w=>refV w.1)]
theorem lawgrp_loop {s p r g:V} {u dc:Nat} {S:Fl×Env'→Mem→Prop} (hdc:2≤dc):∀ (gs:List Grp) (acc:List V) (a b:V) (σ:Mem),σ[1]?=some (.id tb)→σ[dc]?=some (.list acc)→(∀ g∈gs,GF tb g.k g.up g.p g.t)→acc.length+2*gs.length<cap→
  (∀ a b σ',Fb dc σ σ'→σ'[dc]?=some (.list (acc++dueN gs))→S (.next,[s,p,shV,r,g,.cell u,.cell dc,a,b,.unb,.unb,.unb,.unb,.unb,.unb,.unb,.unb,.unb,.unb,.unb,.unb,.unb]) σ')→
  T (loopS (exs (callF (n+2)) (loopOf f_law 0)) (.many [7,8]) (gs.map grpV) [s,p,shV,r,g,.cell u,.cell dc,a,b,.unb,.unb,.unb,.unb,.unb,.unb,.unb,.unb,.unb,.unb,.unb,.unb,.unb]) σ S
 | [],acc,a,b,σ,h1,h2,_,_,q=>by
  refine loop_nil (q a b σ (.refl _ σ) ?_)
  rw [show dueN []=[] from rfl,List.append_nil];exact h2
 | g'::gs,acc,a,b,σ,h1,h2,hg,hl,q=>by
  have hG:=hg g' (.head _)
  obtain ⟨es,hk,hn⟩:=hG.row
  have huu:noU (upV g'.up)=true:=by cases g'.up <;> rfl
  have hll:=link_len g'.p g'.up g'.t
  rw [List.length_cons] at hl
  have hlt:=(List.getElem?_eq_some_iff.mp h2).1
  refine loop_cons (ρ':=[s,p,shV,r,g,.cell u,.cell dc,refV g'.k,upV g'.up,.unb,.unb,.unb,.unb,.unb,.unb,.unb,.unb,.unb,.unb,.unb,.unb,.unb]) rfl ?_
  dsimp only [loopOf,loopsOf,f_law,List.getD_cons_zero]
  refine t_expr (t_meth (t_var rfl rfl (t_pre (pre_cell h2) ?_)))
  refine ⟨.inr rfl,?_⟩
  refine t_cons (t_lcomp (t_fwd (t_call (t_glob rfl ?_))))
  refine t_cons (t_var rfl rfl (t_cons (t_var rfl rfl (t_cons (t_var rfl huu (t_nil ?_))))))
  refine lawlinks_ok h1 hk hn fun σ₁ g1=>?_
  refine items_list ?_
  refine comp_map2 (enc:=V.str) (f:=fun w=>V.tup [.int g'.k,.str w]) (fun w hw Q hq=>?_) ?_
  ·ext
   refine T.run (a:=V.int g'.k) (σ':=σ₁) rfl ?_
   ext
   exact hq
  refine mkl0 (by rw [List.length_map];unfold cap;lia) ?_
  refine t_nil (t_pre (pre_cell (g1.at h2)) ?_)
  refine ⟨rfl,?_⟩
  refine ext_cell (g1.at h2) (by rw [List.length_map];lia) ?_
  refine t_end (t_next ?_)
  have f1:Fb dc σ (σ₁.set dc (.list (acc++pairs g'.k (linkW g'.p g'.up g'.t)))):=(Fb.gr g1 (by lia)).set (Nat.le_refl _) _
  refine lawgrp_loop hdc gs (acc++pairs g'.k (linkW g'.p g'.up g'.t)) _ _ _ ((at_ne (by lia)).trans (g1.at h1)) (at_set (g1.at h2)) (fun x hx=>hg x (.tail _ hx)) (by unfold pairs;rw [List.length_append,List.length_map];lia) fun a b σ' f hc=>?_
  refine q a b σ' (f1.trans f) ?_
  rw [hc,List.append_assoc];rfl
theorem lawrow_loop {s p r g:V} {ups:List (Int×V)} {u dc kc:Nat} {h7 a8:V} {S:Fl×Env'→Mem→Prop} (hdc:2≤dc) (hu:u<dc) (hk:dc<kc):∀ (rs:List Leaf) (acc:List V) (kd:List (Str×V)) (km:Str→Option Str) (row pa he be hd n15 w16:V) (σ:Mem),σ[1]?=some (.id tb)→σ[u]?=some (.id ups)→σ[dc]?=some (.list acc)→σ[kc]?=some (.sd kd)→(∀ s,asc kd s=(km s).map V.str)→
  (∀ L∈rs,LF tb L∧InfoOK (asc L.wh) L.i∧∃ d,d≤3∧Chain tb ups d (some L.k) L.up L.parts)→acc.length+4*rs.length<500000→kd.length+rs.length<500000→
  (∀ row pa he be hd n15 w16 σ',Fb dc σ σ'→σ'[dc]?=some (.list (acc++dueL km rs))→S (.next,lawE s p r g u dc kc h7 a8 row pa he be hd n15 w16) σ')→
  T (loopS (exs (callF (n+5)) lawRow) (.one 10) (rs.map rowV) (lawE s p r g u dc kc h7 a8 row pa he be hd n15 w16)) σ S
 | [],acc,kd,km,row,pa,he,be,hd,n15,w16,σ,h1,hup,h2,h3,hkm,_,_,_,q=>by
  refine loop_nil (q row pa he be hd n15 w16 σ (.refl _ σ) ?_)
  rw [show dueL km []=[] from rfl,List.append_nil];exact h2
 | L::rs,acc,kd,km,row,pa,he,be,hd,n15,w16,σ,h1,hup,h2,h3,hkm,hL,hla,hlk,q=>by
  obtain ⟨hLL,hi,d,hd3,hch⟩:=hL L (.head _)
  obtain ⟨es,hrow,hn⟩:=hLL.g.row
  have hwl:=words_len km L
  rw [List.length_cons] at hla hlk
  have huu:noU (upV L.up)=true:=by cases L.up <;> rfl
  have hcl:=chain_len hch
  refine loop_cons (ρ':=lawE s p r g u dc kc h7 a8 (rowV L) pa he be hd n15 w16) rfl ?_
  dsimp only [lawRow,loopOf,loopsOf,f_law,List.getD_cons_zero,List.getD_cons_succ]
  refine t_asg (t_list (t_nil (mkl0 (by decide) ?_)))
  refine t_asgs (t_tup (t_cons (t_sub (t_var rfl rfl (t_int ?_)))))
  refine T.run (a:=refV L.k) (σ':=σ) rfl ?_
  refine t_cons (t_sub (t_var rfl rfl (t_int ?_)))
  refine T.run (a:=upV L.up) (σ':=σ) rfl ?_
  refine t_nil ⟨show 2<100 by decide,_,rfl,?_⟩
  refine t_whiles ?_
  refine up_loop (n:=n+2) (s:=s) (p:=p) (r:=r) (g:=g) (dc:=dc) (kc:=kc) (h7:=h7) (a8:=a8) (row:=rowV L) (n15:=n15) (w16:=w16) h1 hup d 1000 (some L.k) L.up L.parts [] hd hch (by lia) (by rw [List.length_nil];lia) fun be hd=>?_
  rw [List.append_nil]
  refine t_cont (t_asg (t_meth (t_str (t_preS (t_asks rfl (t_cons (t_var rfl rfl (t_nil (t_preS (t_same ?_))))))))))
  refine join_call hcl.2 (by lia) ?_
  rw [← name_join]
  refine t_asg (t_bin (t_call (t_glob rfl (t_cons (t_var rfl rfl (t_cons (t_sub (t_var rfl rfl (t_int ?_)))))))))
  refine T.run (a:=refV L.k) (σ':=σ) rfl ?_
  refine t_cons (t_sub (t_var rfl rfl (t_int ?_)))
  refine T.run (a:=upV L.up) (σ':=σ) rfl ?_
  refine t_nil ?_
  refine lawlinks_ok h1 hrow hn fun σ₀ g0=>?_
  refine t_call (t_glob rfl (t_cons (t_var rfl rfl (t_cons (t_var rfl rfl (t_nil ?_))))))
  refine lawwords_ok (i:=L.i) (ws:=L.ws) (g0.at h1) hi hLL.wid hLL.wl fun σ₁ g01=>?_
  have g1:=g0.trans g01
  have hl1:=link_len L.p L.up L.t
  have hl2:=value_len L.i L.ws
  refine add_list ?_
  rw [← List.map_append]
  refine mkl1 (by rw [List.length_map,List.length_append];unfold cap;lia) ?_
  have hlt2:=(List.getElem?_eq_some_iff.mp h2).1
  have hlt3:=(List.getElem?_eq_some_iff.mp h3).1
  have g2:Gr σ (σ₁++[Ob.list ((linkW L.p L.up L.t++valueW L.i L.ws).map V.str)]):=g1.trans (Gr.push _ _)
  have hlt1:=g1.len
  have hp:(σ₁++[Ob.list ((linkW L.p L.up L.t++valueW L.i L.ws).map V.str)])[σ₁.length]?=some (.list ((linkW L.p L.up L.t++valueW L.i L.ws).map V.str)):=at_new _ _
  generalize hσ₂:σ₁++[Ob.list ((linkW L.p L.up L.t++valueW L.i L.ws).map V.str)]=σ₂ at g2 hp
  let E:V→Env':=fun hd=>lawE s p r g u dc kc h7 a8 (rowV L) (.list (L.parts.map V.str)) .none be hd (.str (nameOf L)) (.cell σ₁.length)
  have fin:∀ (S':Fl×Env'→Mem→Prop),(∀ ρ σ,T (loopS (exs (callF (n+5)) lawRow) (.one 10) (rs.map rowV) ρ) σ S→S' (.next,ρ) σ)→∀ (σ₃:Mem) (ws:List Str),Fb dc σ σ₃→σ₃[1]?=some (.id tb)→σ₃[u]?=some (.id ups)→σ₃[dc]?=some (.list acc)→σ₃[kc]?=some (.sd kd)→σ₃[σ₁.length]?=some (.list (ws.map V.str))→ws=wordsOf km L→
    T (exs (callF (n+5)) (.cons (.put (.var 9) (.var 15) (.call (.glob 64) (.cons (.sub (.var 10) (.int 3)) .nil))) (.cons (.expr (.meth (.var 6) (Mine.S "extend") (.cons (.lcomp false (.tup (.cons (.attr (.sub (.var 10) (.int 1)) (Mine.S "number")) (.cons (.var 17) .nil))) (.one 17) (.fwd (.frz (.var 16))) .nil) .nil))) .nil)) (E hd)) σ₃ S':=by
   intro S' hS' σ₃ ws f3 k1 ku k2 k3 k4 hws
   refine t_put (t_call (t_glob rfl (t_cons (t_sub (t_var rfl rfl (t_int ?_))))))
   refine T.run (a:=V.dict L.wh) (σ':=σ₃) rfl ?_
   refine t_nil ?_
   refine lawkind_ok hi ?_
   rw [kind_eq]
   refine t_var rfl rfl (t_var rfl rfl (set_sd k3 (by unfold cap;lia) ?_))
   have k2':(σ₃.set kc (.sd (sto kd (nameOf L) (.str L.i.kd.str))))[dc]?=some (.list acc):=(at_ne (by lia)).trans k2
   have k1':(σ₃.set kc (.sd (sto kd (nameOf L) (.str L.i.kd.str))))[1]?=some (.id tb):=(at_ne (by lia)).trans k1
   have ku':(σ₃.set kc (.sd (sto kd (nameOf L) (.str L.i.kd.str))))[u]?=some (.id ups):=(at_ne (by lia)).trans ku
   have k4':(σ₃.set kc (.sd (sto kd (nameOf L) (.str L.i.kd.str))))[σ₁.length]?=some (.list (ws.map V.str)):=(at_ne (by lia)).trans k4
   refine t_expr (t_meth (t_var rfl rfl (t_pre (pre_cell k2') ?_)))
   refine ⟨.inr rfl,?_⟩
   refine t_cons (t_lcomp (t_fwd (t_frz (t_var rfl rfl (frz_list k4' (items_list ?_))))))
   refine comp_map2 (enc:=V.str) (f:=fun w=>V.tup [.int L.k,.str w]) (fun w hw Q hq=>?_) ?_
   ·ext
    refine T.run (a:=refV L.k) (σ':=_) rfl ?_
    refine T.run (a:=V.int L.k) (σ':=_) rfl ?_
    ext
    exact hq
   refine mkl0 (by rw [List.length_map,hws];unfold cap;lia) ?_
   have k2'':((σ₃.set kc (.sd (sto kd (nameOf L) (.str L.i.kd.str)))).set σ₁.length Ob.dead)[dc]?=some (.list acc):=(at_ne (by lia)).trans k2'
   refine t_nil (t_pre (pre_cell k2'') ?_)
   refine ⟨rfl,?_⟩
   refine ext_cell k2'' (by rw [List.length_map,hws];unfold cap;lia) ?_
   refine t_end (hS' _ _ ?_)
   have hln:=sto_len (nameOf L) (V.str L.i.kd.str) kd
   refine lawrow_loop hdc hu hk rs (acc++pairs L.k (wordsOf km L)) (sto kd (nameOf L) (.str L.i.kd.str)) (fun s=>if nameOf L=s then some L.i.kd.str else km s) _ _ _ _ _ _ _ _ ((at_ne (by lia)).trans ((at_ne (by lia)).trans k1')) ((at_ne (by lia)).trans ((at_ne (by lia)).trans ku')) (by rw [hws];exact at_set k2'') ((at_ne (by lia)).trans ((at_ne (by lia)).trans (at_set k3))) (fun s=>?_) (fun x hx=>hL x (.tail _ hx)) (by unfold pairs;rw [List.length_append,List.length_map];lia) (by lia) fun row pa he be hd n15 w16 σ' f' hc'=>?_
   ·rw [asc_sto,hkm s]
    by_cases h:nameOf L=s
    ·rw [if_pos h,if_pos h];rfl
    ·rw [if_neg h,if_neg h]
   ·refine q row pa he be hd n15 w16 σ' ?_ ?_
    ·exact Fb.trans (((f3.set (by lia) _).set (show dc≤σ₁.length by lia) _).set (Nat.le_refl _) _) f'
    ·rw [hc',List.append_assoc];rfl
  have f2:Fb dc σ σ₂:=Fb.gr g2 (by lia)
  refine t_ifs (t_and (t_and_cons (t_cmp (t_var rfl rfl (t_var rfl rfl (in_sd (g2.at h3) ?_))))))
  refine ⟨_,rfl,?_⟩
  rw [hkm]
  cases ek:km (nameOf L) with
  | none=>
   refine ⟨false,rfl,?_⟩
   refine t_end (t_cont ?_)
   refine fin _ (fun ρ σ h=>t_next h) σ₂ _ f2 (g2.at h1) (g2.at hup) (g2.at h2) (g2.at h3) hp ?_
   unfold wordsOf
   rw [ek,show (none:Option Str).getD L.i.kd.str=L.i.kd.str from rfl,decide_eq_true rfl,if_pos rfl,List.append_nil]
  | some k'=>
   refine t_and_cons (t_cmp (t_sub (t_var rfl rfl (t_var rfl rfl (get_sd (g2.at h3) (by rw [hkm,ek];rfl) ?_)))))
   refine t_call (t_glob rfl (t_cons (t_sub (t_var rfl rfl (t_int ?_)))))
   refine T.run (a:=V.dict L.wh) (σ':=σ₂) rfl ?_
   refine t_nil ?_
   refine lawkind_ok hi ?_
   rw [kind_eq]
   refine T.run (a:=!decide (k'=L.i.kd.str)) (σ':=σ₂) rfl ?_
   refine ⟨_,rfl,?_⟩
   cases ed:decide (k'=L.i.kd.str) with
   | true=>
    refine ⟨false,rfl,?_⟩
    refine t_end (t_cont ?_)
    refine fin _ (fun ρ σ h=>t_next h) σ₂ _ f2 (g2.at h1) (g2.at hup) (g2.at h2) (g2.at h3) hp ?_
    unfold wordsOf
    rw [ek,show (some k').getD L.i.kd.str=k' from rfl,ed,if_pos rfl,List.append_nil]
   | false=>
    refine t_and_nil ⟨true,rfl,?_⟩
    refine t_expr (t_meth (t_var rfl rfl (t_pre (pre_cell hp) ?_)))
    refine ⟨.inr rfl,?_⟩
    refine t_cons (t_str (t_nil (t_pre (pre_cell hp) ?_)))
    refine ⟨rfl,app_cell hp (by rw [List.length_map,List.length_append];unfold cap;lia) ?_⟩
    refine t_end (t_cont ?_)
    refine fin _ (fun ρ σ h=>t_next h) _ (wordsOf km L) (f2.set (by lia) _) ((at_ne (by lia)).trans (g2.at h1)) ((at_ne (by lia)).trans (g2.at hup)) ((at_ne (by lia)).trans (g2.at h2)) ((at_ne (by lia)).trans (g2.at h3)) ?_ rfl
    rw [at_set hp]
    unfold wordsOf
    rw [ek,show (some k').getD L.i.kd.str=k' from rfl,ed,if_neg Bool.false_ne_true];simp
end
noncomputable def IsP (v:V):Prop:=∃ (k:Int) (w:Str),v=.tup [.int k,.str w]
theorem eqVs_self:∀ D:List V,(∀ v∈D,IsP v)→eqVs D D=some true
 | [],_=>rfl
 | v::D,h=>by
  obtain ⟨k,w,rfl⟩:=h v (.head _)
  show ((eqVs D D).bind fun y=>some ((decide (k=k)&&(decide (w=w)&&true))&&y))=_
  rw [eqVs_self D fun x hx=>h x (.tail _ hx)]
  simp
theorem pairs_isP (k:Int) (ws:List Str):∀ v∈pairs k ws,IsP v:=fun v hv=>by
 obtain ⟨w,_,rfl⟩:=List.mem_map.mp hv
 exact ⟨k,w,rfl⟩
theorem dueN_isP:∀ gs:List Grp,∀ v∈dueN gs,IsP v
 | [],_,h=>nomatch h
 | g::gs,v,h=>(List.mem_append.mp h).elim (pairs_isP _ _ v) (dueN_isP gs v)
theorem dueL_isP:∀ (rs:List Leaf) (km:Str→Option Str),∀ v∈dueL km rs,IsP v
 | [],_,_,h=>nomatch h
 | L::rs,km,v,h=>(List.mem_append.mp h).elim (pairs_isP _ _ v) (dueL_isP rs _ v)
theorem pairsI_grp:∀ gs:List Grp,pairsI (gs.map fun g=>V.tup [.int g.k,upV g.up])=some (gs.map fun g=>(g.k,upV g.up))
 | []=>rfl
 | g::gs=>by
  show ((pairsI (gs.map fun g=>V.tup [.int g.k,upV g.up])).bind fun l=>some ((g.k,upV g.up)::l))=_
  rw [pairsI_grp gs];rfl
theorem stoAllI_out:∀ (ps:List (Int×V)) (acc:List (Int×V)) (x:Int),x∉ps.map (·.1)→ascI (stoAllI acc ps) x=ascI acc x
 | [],_,_,_=>rfl
 | (k,v)::ps,acc,x,h=>by
  show ascI (stoAllI (stoI acc k v) ps) x=_
  rw [stoAllI_out ps _ x fun hm=>h (.tail _ hm),ascI_sto,if_neg (fun e=>h (by rw [← e];exact .head _))]
theorem stoAllI_in:∀ (ps:List (Int×V)) (acc:List (Int×V)) (x:Int) (v:V),(x,v)∈ps→(ps.map (·.1)).Nodup→ascI (stoAllI acc ps) x=some v
 | (k,u)::ps,acc,x,v,h,hd=>by
  obtain ⟨h1,h2⟩:=List.nodup_cons.mp hd
  show ascI (stoAllI (stoI acc k u) ps) x=_
  rcases List.mem_cons.mp h with e|h
  ·cases e
   rw [stoAllI_out ps _ _ h1,ascI_sto,if_pos rfl]
  ·exact stoAllI_in ps _ x v h h2
theorem sub_app {g1 g2:List Grp} {n1 n2:List Int} (a:(g1.map (·.k)).Sublist n1) (b:(g2.map (·.k)).Sublist n2):((g1++g2).map (·.k)).Sublist (n1++n2):=List.map_append▸a.append b
noncomputable abbrev SubG (gs:List Grp) (ns:List Int):Prop:=(gs.map (·.k)).Sublist ns
theorem tree_sub {tb:List (Int×V)} {l need up parts gv k rs gs ns c} (h:Tree tb l need up parts gv k rs gs ns c):(gs.map (·.k)).Sublist ns:=
 h.ind (G:=fun _ _ _ _ _ _ _ gs ns _=>SubG gs ns) (fun _ _ _ _ _ _ _ _ _ _=>List.nil_sublist _) fun l need up parts gv k es p t ks rs gs ns c hG hf=>
  .cons₂ k (hf.ind (G:=fun _ _ gs ns _=>SubG gs ns) (List.nil_sublist _) fun k' ks r1 g1 n1 c1 r2 g2 n2 c2 h1 _ ih=>sub_app h1 ih)
theorem top_sub {tb:List (Int×V)} {ks rs gs ns c} (h:Top tb ks rs gs ns c):(gs.map (·.k)).Sublist ns:=h.ind (G:=fun _ _ gs ns _=>SubG gs ns) (List.nil_sublist _) fun k' ks r1 g1 n1 c1 r2 g2 n2 c2 h1 _ ih=>sub_app (tree_sub h1) ih
section
variable {n:Nat} {σ:Mem} {Q:V→Mem→Prop} {tb:List (Int×V)} {tr:List (Str×V)} {ks:List Int} {C:Calls}
theorem comp_mapT {β:Type} {t:Tg} {ρ:Env'} {el:Env'→M V} {enc f:β→V} (ρf:β→Env'):∀ {ws:List β} {Qs:List V→Mem→Prop},(∀ w∈ws,bindT t (enc w) ρ=some (ρf w))→(∀ w∈ws,∀ Q:V→Mem→Prop,Q (f w) σ→T (el (ρf w)) σ Q)→Qs (ws.map f) σ→T (loopC (cnd C .nil) el t ρ (ws.map enc)) σ Qs
 | [],_,_,_,q=>comp_nil q
 | w::ws,Qs,hb,h,q=>comp_cons (hb w (.head _)) (cnd_nil (h w (.head _) _ (comp_mapT ρf (ws:=ws) (fun y hy=>hb y (.tail _ hy)) (fun y hy=>h y (.tail _ hy)) q)))
noncomputable def lawTail:MSs:=match f_law.body with
 | .cons _ (.cons _ (.cons _ r))=>r
 | _=>.nil
theorem tail_ok {rs:List Leaf} {gs:List Grp} {ns:List Int} {c:Nat} {s p:V} (h1:σ[1]?=some (.id tb)) (h2:σ[2]?=some (.sd tr)) (hf:FormOK tb tr ks) (ht:Top tb ks rs gs ns c) (hnd:ns.Nodup) (hc:c<400) (hn:ns.length<400)
  (hi:∀ L∈rs,InfoOK (asc L.wh) L.i) :
  T (exs (callF (n+8)) lawTail [s,p,shV,.list (rs.map rowV),.list (gs.map grpV),.unb,.unb,.unb,.unb,.unb,.unb,.unb,.unb,.unb,.unb,.unb,.unb,.unb,.unb,.unb,.unb,.unb]) σ fun r _=>valueOf r.1=.bool true:=by
 have hlt:=(List.getElem?_eq_some_iff.mp h2).1
 obtain ⟨hg,hL,hlen⟩:=top_facts ht
 have hnk:(gs.map (·.k)).Nodup:=(top_sub ht).nodup hnd
 dsimp only [lawTail,f_law]
 refine t_asg (t_make (t_lcomp (t_fwd (t_var rfl rfl (items_list ?_)))))
 refine comp_mapT (fun g=>[s,p,shV,.list (rs.map rowV),.list (gs.map grpV),.unb,.unb,.unb,.unb,.unb,.unb,.unb,.unb,.unb,.unb,.unb,.unb,.unb,.unb,refV g.k,upV g.up,.unb]) (f:=fun g=>V.tup [.int g.k,upV g.up]) (fun g _=>rfl) (fun g _ Q hq=>?_) ?_
 ·have huu:noU (upV g.up)=true:=by cases g.up <;> rfl
  ext
  refine T.run (a:=V.int g.k) (σ':=σ) rfl ?_
  ext
  exact hq
 refine mkl0 (by rw [List.length_map];unfold cap;lia) ?_
 let ups:=stoAllI [] (gs.map fun g=>(g.k,upV g.up))
 refine T.run (a:=V.cell σ.length) (σ':=σ++[Ob.id ups]) ?_ ?_
 ·show (if (gs.map fun g=>V.tup [.int g.k,upV g.up]).length<cap then bnd (lft (pairsI (gs.map fun g=>V.tup [.int g.k,upV g.up]))) fun ps=>alc (.id (stoAllI [] ps)) else fail) σ=_
  rw [if_pos (by rw [List.length_map];unfold cap;lia),pairsI_grp]
  rfl
 have hup:∀ g∈gs,ascI ups g.k=some (upV g.up):=fun g hg=>stoAllI_in _ _ _ _ (List.mem_map.mpr ⟨g,hg,rfl⟩) (by rw [List.map_map];exact hnk)
 have g1:=Gr.push σ (Ob.id ups)
 refine t_asg (t_list (t_nil (mkl1 (by decide) ?_)))
 have g2:=g1.trans (Gr.push (σ++[Ob.id ups]) (Ob.list []))
 have l1:(σ++[Ob.id ups]).length=σ.length+1:=by simp
 have ku:((σ++[Ob.id ups])++[Ob.list []])[σ.length]?=some (.id ups):=(Gr.push _ _).at (at_new _ _)
 have kd:((σ++[Ob.id ups])++[Ob.list []])[(σ++[Ob.id ups]).length]?=some (.list []):=at_new _ _
 generalize hdc:(σ++[Ob.id ups]).length=dc at l1 kd
 have f2:Fb dc ((σ++[Ob.id ups])++[Ob.list []]) ((σ++[Ob.id ups])++[Ob.list []]):=.refl _ _
 generalize hσ₂:(σ++[Ob.id ups])++[Ob.list []]=σ₂ at g2 ku kd
 refine t_fors (t_var rfl rfl (for_list ?_))
 have hdl:=dueN_len gs
 refine lawgrp_loop (n:=n+6) (s:=s) (p:=p) (r:=.list (rs.map rowV)) (g:=.list (gs.map grpV)) (u:=σ.length) (dc:=dc) (by lia) gs [] .unb .unb σ₂ (g2.at h1) kd hg (by rw [List.length_nil];unfold cap;lia) fun a b σ₃ f3 kc=>?_
 rw [List.nil_append] at kc
 have h13:σ₃[1]?=some (.id tb):=(f3.kp 1 (by lia)).trans (g2.at h1)
 have h23:σ₃[2]?=some (.sd tr):=(f3.kp 2 (by lia)).trans (g2.at h2)
 have ku3:σ₃[σ.length]?=some (.id ups):=(f3.kp _ (by lia)).trans ku
 have l3:dc<σ₃.length:=(List.getElem?_eq_some_iff.mp kc).1
 refine t_cont (t_asg (t_dict1 (t_nil ?_)))
 refine ⟨⟨rfl,List.nodup_nil,by decide⟩,?_⟩
 have g4:=Gr.push σ₃ (Ob.sd [])
 refine t_fors (t_var rfl rfl (for_list ?_))
 refine lawrow_loop (n:=n+3) (s:=s) (p:=p) (r:=.list (rs.map rowV)) (g:=.list (gs.map grpV)) (ups:=ups) (u:=σ.length) (dc:=dc) (kc:=σ₃.length) (h7:=a) (a8:=b) (by lia) (by lia) l3 rs (dueN gs) [] (fun _=>none) .unb .unb .unb .unb .unb .unb .unb _ (g4.at h13) (g4.at ku3) (g4.at kc) (at_new _ _) (fun _=>rfl) (fun L hl=>⟨hL L hl,hi L hl,top_chain ht hup L hl⟩) (by lia) (by rw [List.length_nil];lia) fun row pa he be hd n15 w16 σ₅ f5 kc5=>?_
 have h15:σ₅[1]?=some (.id tb):=(f5.kp 1 (by lia)).trans (g4.at h13)
 have h25:σ₅[2]?=some (.sd tr):=(f5.kp 2 (by lia)).trans (g4.at h23)
 refine t_cont (t_ret (t_cmp (t_call (t_glob rfl (t_cons (t_var rfl rfl (t_nil ?_)))))))
 refine fieldfaults_ok h15 h25 hf ht hnd hc hn fun σ₆ g6=>?_
 refine t_var rfl rfl ?_
 let D:=dueN gs++dueL (fun _=>none) rs
 have e:eqVs D D=some true:=eqVs_self D fun v hv=>(List.mem_append.mp hv).elim (dueN_isP gs v) (dueL_isP rs _ v)
 show T (Mine.bnd (rdList (.list D)) fun xs=>Mine.bnd (rdList (.cell dc)) fun ys=>Mine.lft (eqVs xs ys)) σ₆ _
 refine .bnd (.run (a:=D) (σ':=σ₆) rfl (.bnd (.run (rd_cell (g6.at kc5)) (.lft e ?_))))
 rfl
end
noncomputable def NN (xs:List Int):Prop:=∀ x∈xs,0≤x
noncomputable abbrev poolO (xs:List Int):Ob:=.list (xs.map V.int)
section
variable {n:Nat} {σ:Mem} {Q:V→Mem→Prop} {tb:List (Int×V)} {tr:List (Str×V)} {ks:List Int} {C:Calls} {xs:List Int}
theorem take_ok {m:Int} (hp:σ[0]?=some (poolO xs)) (hn:NN xs) (hm:0<m∧m<1000) (q:∀ (d:Int) (xs':List Int),0≤d→d<m→NN xs'→Q (.int d) (σ.set 0 (poolO xs'))):T (callF (n+1) 34 [.cell 0,.int m]) σ Q:=by
 cases xs with
 | nil=>
  have:=q 0 [] (Int.le_refl 0) hm.1 (fun _ h=>nomatch h)
  rw [set_same hp] at this
  exact take_nil hp this
 | cons x xs=>
  have hx:=hn x (.head _)
  have hr:NN xs:=fun y hy=>hn y (.tail _ hy)
  refine take_cons hp hm (q _ _ (Int.fmod_nonneg hx (by lia)) (Int.fmod_lt_of_pos _ hm.1) ?_)
  by_cases h:Int.fdiv x m=0
  ·rw [if_pos h];exact hr
  ·rw [if_neg h]
   intro y hy
   rcases List.mem_cons.mp hy with e|hy
   ·rw [e];exact Int.fdiv_nonneg hx (by lia)
   ·exact hr y hy
theorem pool_at {σ:Mem} {xs xs':List Int} (hp:σ[0]?=some (poolO xs)):(σ.set 0 (poolO xs'))[0]?=some (poolO xs'):=at_set hp
theorem lawstr_ok (hp:σ[0]?=some (poolO xs)) (hn:NN xs) (q:∀ (b:List UInt8) (xs':List Int),b∈byStrs→NN xs'→Q (strV b) (σ.set 0 (poolO xs'))):T (callF (n+2) 35 [.cell 0]) σ Q:=by
 refine t_fun (f:=f_law_string) rfl rfl rfl ?_
 dsimp only [f_law_string]
 ext
 refine take_ok hp hn (by decide) fun d xs' h1 h2 h3=>?_
 have fin:∀ b,b∈byStrs→T (evs (callF (n+1)) .nil ([V.cell 0]++List.replicate 0 V.unb)) (σ.set 0 (poolO xs')) fun vs σ=>T (callV (callF (n+1)) (.cls 1) (.byts b::vs)) σ fun v σ=>Q v σ:=by
  intro b hb
  refine t_nil (t_clsc (t_new (f:=i_String) rfl rfl ?_))
  dsimp only [i_String]
  ext
  exact q b xs' hb h3
 have hd:d=0∨d=1∨d=2∨d=3:=by have:d<4:=h2;lia
 rcases hd with rfl|rfl|rfl|rfl
 ·exact T.run (a:=V.byts []) (σ':=σ.set 0 (poolO xs')) rfl (fin [] (by simp [byStrs]))
 ·exact T.run (a:=V.byts [97]) (σ':=σ.set 0 (poolO xs')) rfl (fin [97] (by simp [byStrs]))
 ·exact T.run (a:=V.byts [97,98,99]) (σ':=σ.set 0 (poolO xs')) rfl (fin [97,98,99] (by simp [byStrs]))
 ·exact T.run (a:=V.byts [97,98,99,100]) (σ':=σ.set 0 (poolO xs')) rfl (fin [97,98,99,100] (by simp [byStrs]))
theorem strs_loop {ρ:Env'} (r0:ρ[0]?=some (.cell 0)):∀ (ys:List V) (xs:List Int) (σ:Mem) (Qs:List V→Mem→Prop),σ[0]?=some (poolO xs)→NN xs→(∀ (bs:List (List UInt8)) (xs':List Int),bs.length=ys.length→(∀ b∈bs,b∈byStrs)→NN xs'→Qs (bs.map strV) (σ.set 0 (poolO xs')))→
  T (loopC (cnd (callF (n+2)) .nil) (ev (callF (n+2)) (.call (.glob 56) (.cons (.var 0) .nil))) (.one 3) ρ ys) σ Qs
 | [],xs,σ,Qs,hp,hn,q=>by
  have:=q [] xs rfl (fun _ h=>nomatch h) hn
  rw [set_same hp] at this
  exact comp_nil this
 | y::ys,xs,σ,Qs,hp,hn,q=>by
  refine comp_cons rfl (cnd_nil ?_)
  refine t_call (t_glob rfl (t_cons (t_var ((List.getElem?_set_ne (by decide)).trans r0) rfl (t_nil ?_))))
  refine lawstr_ok hp hn fun b xs' hb hn'=>?_
  refine strs_loop r0 ys xs' _ _ (pool_at hp) hn' fun bs xs'' hl hbs hn''=>?_
  rw [List.set_set]
  refine q (b::bs) xs'' (by rw [List.length_cons,List.length_cons,hl]) (fun c hc=>?_) hn''
  rcases List.mem_cons.mp hc with e|hc
  ·rw [e];exact hb
  ·exact hbs c hc
theorem rangeInts_len:∀ (k:Nat) (a:Int),(rangeInts k a).length=k
 | 0,_=>rfl
 | k+1,a=>congrArg (·+1) (rangeInts_len k (a+1))
theorem lawobj_ok {sort:Str} (hp:σ[0]?=some (poolO xs)) (hn:NN xs) (q:∀ (v:Val) (xs':List Int),v.ok→NN xs'→Q v.enc (σ.set 0 (poolO xs'))):T (callF (n+3) 36 [.cell 0,.str sort]) σ Q:=by
 refine t_fun (f:=f_law_object) rfl rfl rfl ?_
 dsimp only [f_law_object]
 ext
 refine take_ok hp hn (by decide) fun d xs' h1 h2 h3=>?_
 have hp':(σ.set 0 (poolO xs'))[0]?=some (poolO xs'):=pool_at hp
 have q':∀ (v:Val) (xs'':List Int),v.ok→NN xs''→Q v.enc ((σ.set 0 (poolO xs')).set 0 (poolO xs'')):=fun v xs'' a b=>by rw [List.set_set];exact q v xs'' a b
 generalize σ.set 0 (poolO xs')=σ₁ at hp' q'
 have q0:∀ v:Val,v.ok→Q v.enc σ₁:=fun v hv=>by
  have:=q' v xs' hv h3
  rwa [set_same hp'] at this
 refine t_ifs (t_cmp (t_var rfl rfl (t_int ?_)))
 refine T.run (a:=decide (d=0)) (σ':=σ₁) rfl ?_
 refine ⟨_,rfl,?_⟩
 by_cases hd0:d=0
 ·rw [decide_eq_true hd0]
  exact t_ret (t_int (t_contr (q0 .seven trivial)))
 rw [decide_eq_false hd0]
 refine t_end (t_cont (t_ifs (t_cmp (t_var rfl rfl (t_str ?_)))))
 refine T.run (a:=decide (sort=S "Btn")) (σ':=σ₁) rfl ?_
 refine ⟨_,rfl,?_⟩
 have hd:d=1∨d=2∨d=3∨d=4:=by have:d<5:=h2;lia
 by_cases hb:sort=S "Btn"
 ·rw [decide_eq_true hb]
  refine t_ret (t_call (t_glob rfl (t_cons (t_sub ?_))))
  ext
  refine T.run (a:=V.int (d-1)) (σ':=σ₁) rfl ?_
  have fin:∀ (s:Str) (ρ ρ':Env') (ss:MSs),T (evs (callF (n+2)) .nil ρ) σ₁ fun vs σ=>T (callV (callF (n+2)) (.cls 0) (.str s::vs)) σ fun v σ=>T (cont (callF (n+2)) ss (.ret v,ρ')) σ fun r σ=>Q (valueOf r.1) σ:=by
   intro s ρ ρ' ss
   refine t_nil (t_clsc (t_new (f:=i_Name) rfl rfl ?_))
   dsimp only [i_Name]
   ext
   exact q0 (.name s) trivial
  rcases hd with rfl|rfl|rfl|rfl
  ·exact T.run (a:=V.str (S "Off")) (σ':=σ₁) rfl (fin _ _ _ _)
  ·exact T.run (a:=V.str (S "x")) (σ':=σ₁) rfl (fin _ _ _ _)
  ·exact T.run (a:=V.str (S "y")) (σ':=σ₁) rfl (fin _ _ _ _)
  ·exact T.run (a:=V.str (S "z")) (σ':=σ₁) rfl (fin _ _ _ _)
 rw [decide_eq_false hb]
 have one:∀ ρ:Env',ρ[0]?=some (.cell 0)→∀ S':V→Mem→Prop,(∀ v σ,Q v σ→S' v σ)→T (ev (callF (n+2)) (.call (.glob 56) (.cons (.var 0) .nil)) ρ) σ₁ S':=by
  intro ρ r0 S' hS'
  refine t_call (t_glob rfl (t_cons (t_var r0 rfl (t_nil ?_))))
  exact lawstr_ok hp' h3 fun b xs'' hb hn'=>hS' _ _ (q' (.str b) xs'' hb hn')
 refine t_end (t_cont (t_ret (t_ife (t_and (t_and_cons (t_cmp (t_var rfl rfl (t_str ?_))))))))
 refine T.run (a:=decide (sort=S "Ch")) (σ':=σ₁) rfl ?_
 refine ⟨_,rfl,?_⟩
 by_cases hc:sort=S "Ch"
 ·rw [decide_eq_true hc]
  refine t_and_cons (t_cmp (t_var rfl rfl (t_int ?_)))
  refine T.run (a:=decide ((2:Int)<d)) (σ':=σ₁) rfl ?_
  refine ⟨_,rfl,?_⟩
  by_cases h2:(2:Int)<d
  ·rw [decide_eq_true h2]
   refine t_and_nil ⟨true,rfl,?_⟩
   refine t_lcomp (t_fwd (t_call (t_glob rfl (t_cons (t_bin (t_var rfl rfl (t_int ?_)))))))
   refine T.run (a:=V.int (d-1)) (σ':=σ₁) rfl ?_
   refine t_nil (rng_call (by lia) (items_rng (by lia) ?_))
   refine strs_loop rfl _ xs' σ₁ _ hp' h3 fun bs xs'' hl hbs hn'=>?_
   rw [rangeInts_len] at hl
   refine mkl0 (by rw [List.length_map];unfold cap;lia) ?_
   exact q' (.lst bs) xs'' ⟨by lia,hbs⟩ hn'
  ·rw [decide_eq_false h2]
   exact ⟨false,rfl,one _ rfl _ fun _ _ h=>h⟩
 ·rw [decide_eq_false hc]
  exact ⟨false,rfl,one _ rfl _ fun _ _ h=>h⟩
end
noncomputable def optput (hs:List (Str×V)) (k:Str):Option V→List (Str×V)
 | none=>hs
 | some v=>sto hs k v
theorem asc_optput (hs:List (Str×V)) (k:Str) (o:Option V) (s:Str):asc (optput hs k o) s=if k=s then o.or (asc hs s) else asc hs s:=by
 cases o with
 | none=>
  by_cases h:k=s
  ·rw [if_pos h];rfl
  ·rw [if_neg h];rfl
 | some v=>
  show asc (sto hs k v) s=_
  rw [asc_sto]
  by_cases h:k=s
  ·rw [if_pos h,if_pos h];rfl
  ·rw [if_neg h,if_neg h]
theorem optput_len (hs:List (Str×V)) (k:Str) (o:Option V):(optput hs k o).length≤hs.length+1:=by
 cases o with
 | none=>exact Nat.le_succ _
 | some v=>exact sto_len k v hs
structure F2 (c:Nat) (σ σ':Mem):Prop where
 len:σ.length≤σ'.length
 kp:∀ i,i≠0→i≠c→i<σ.length→σ'[i]?=σ[i]?
theorem F2.refl (c:Nat) (σ:Mem):F2 c σ σ:=⟨Nat.le_refl _,fun _ _ _ _=>rfl⟩
theorem F2.trans {c:Nat} {σ σ' σ'':Mem} (x:F2 c σ σ') (y:F2 c σ' σ''):F2 c σ σ'':=⟨Nat.le_trans x.len y.len,fun i h0 hc hi=>(y.kp i h0 hc (Nat.lt_of_lt_of_le hi x.len)).trans (x.kp i h0 hc hi)⟩
theorem F2.pool {c:Nat} {σ σ':Mem} (x:F2 c σ σ') (o:Ob):F2 c σ (σ'.set 0 o):=⟨by rw [List.length_set];exact x.len,fun i h0 hc hi=>(at_ne (Ne.symm h0)).trans (x.kp i h0 hc hi)⟩
theorem F2.cell {c:Nat} {σ σ':Mem} (x:F2 c σ σ') (o:Ob):F2 c σ (σ'.set c o):=⟨by rw [List.length_set];exact x.len,fun i h0 hc hi=>(at_ne (Ne.symm hc)).trans (x.kp i h0 hc hi)⟩
structure ES (σ:Mem) (c:Nat) (xs:List Int) (hs:List (Str×V)):Prop where
 c0:0≠c
 hp:σ[0]?=some (poolO xs)
 nn:NN xs
 hc:σ[c]?=some (.sd hs)
theorem ES.pool {σ:Mem} {c:Nat} {xs xs':List Int} {hs:List (Str×V)} (e:ES σ c xs hs) (h:NN xs'):ES (σ.set 0 (poolO xs')) c xs' hs:=⟨e.c0,at_set e.hp,h,(at_ne e.c0).trans e.hc⟩
theorem ES.cell {σ:Mem} {c:Nat} {xs:List Int} {hs:List (Str×V)} (e:ES σ c xs hs) (hs':List (Str×V)):ES (σ.set c (.sd hs')) c xs hs':=⟨e.c0,(at_ne (Ne.symm e.c0)).trans e.hp,e.nn,at_set e.hc⟩
noncomputable abbrev entE (c:Nat) (gs:List (Str×V)) (a b d:V):Env':=[.cell 0,.cell c,.dict gs,a,b,d,.unb]
section
variable {n:Nat} {σ:Mem} {S:Fl×Env'→Mem→Prop} {c:Nat} {gs hs:List (Str×V)} {xs:List Int} {C:Calls} {ss:MSs}
theorem take_es {σ:Mem} {c:Nat} {xs:List Int} {hs:List (Str×V)} {m:Int} {Q:V→Mem→Prop} (e:ES σ c xs hs) (hm:0<m∧m<1000) (q:∀ (d:Int) (xs':List Int) (σ':Mem),0≤d→d<m→ES σ' c xs' hs→F2 c σ σ'→Q (.int d) σ'):T (callF (n+1) 34 [.cell 0,.int m]) σ Q:=
 take_ok e.hp e.nn hm fun d xs' h1 h2 h3=>q d xs' _ h1 h2 (e.pool h3) ((F2.refl c σ).pool _)
theorem put_es {σ:Mem} {c:Nat} {xs:List Int} {hs:List (Str×V)} {k:Str} {v:V} {U:Unit→Mem→Prop} (e:ES σ c xs hs) (hl:hs.length<cap) (q:ES (σ.set c (.sd (optput hs k (some v)))) c xs (optput hs k (some v))→F2 c σ (σ.set c (.sd (optput hs k (some v))))→U () (σ.set c (.sd (optput hs k (some v))))):T (setItemV (.cell c) (.str k) v) σ U:=
 set_sd e.hc hl (q (e.cell _) ((F2.refl c σ).cell _))
theorem ent_ft {a b d:V} (e:ES σ c xs hs) (hl:hs.length<1000) (q:∀ (ft:Option FTy) (xs':List Int) (σ':Mem),ES σ' c xs' (optput hs (Mine.S "FT") (ft.map FTy.enc))→F2 c σ σ'→T (exs (callF (n+1)) ss (entE c gs a b d)) σ' S) :
  T (exs (callF (n+1)) (.cons (.ifs (.or (.cons (.cmp .eq (.call (.glob 55) (.cons (.var 0) (.cons (.int 3) .nil))) (.int 1)) (.cons (.and (.cons (.cmp .nin (.str (Mine.S "FT")) (.var 2)) (.cons (.cmp .lt (.call (.glob 55) (.cons (.var 0) (.cons (.int 6) .nil))) (.int 5)) .nil))) .nil)))
  (.cons (.put (.var 1) (.str (Mine.S "FT")) (.call (.glob 0) (.cons (.sub (.tup (.cons (.str (Mine.S "Tx")) (.cons (.str (Mine.S "Ch")) (.cons (.str (Mine.S "Btn")) (.cons (.str (Mine.S "Btn")) (.cons (.str (Mine.S "Ch")) (.cons (.str (Mine.S "Sig")) .nil))))))) (.call (.glob 55) (.cons (.var 0) (.cons (.int 6) .nil)))) .nil))) .nil) .nil) ss) (entE c gs a b d)) σ S:=by
 have yes:∀ (xs':List Int) (σ':Mem),ES σ' c xs' hs→F2 c σ σ'→T (exs (callF (n+1)) (.cons (.put (.var 1) (.str (Mine.S "FT")) (.call (.glob 0) (.cons (.sub (.tup (.cons (.str (Mine.S "Tx")) (.cons (.str (Mine.S "Ch")) (.cons (.str (Mine.S "Btn")) (.cons (.str (Mine.S "Btn")) (.cons (.str (Mine.S "Ch")) (.cons (.str (Mine.S "Sig")) .nil))))))) (.call (.glob 55) (.cons (.var 0) (.cons (.int 6) .nil)))) .nil))) .nil) (entE c gs a b d)) σ' fun r σ=>T (cont (callF (n+1)) ss r) σ S:=by
  intro xs' σ' e' f'
  ext
  refine take_es (c:=c) e' (by decide) fun k xs'' σ'' h1 h2 e'' f''=>?_
  have fin:∀ t:FTy,T (evs (callF (n+1)) .nil (entE c gs a b d)) σ'' fun vs σ=>T (callV (callF (n+1)) (.cls 0) (.str (match t with|.tx=>Mine.S "Tx" | .ch=>Mine.S "Ch" | .btn=>Mine.S "Btn" | .sig=>Mine.S "Sig")::vs)) σ fun v σ=>T (ev (callF (n+1)) (.var 1) (entE c gs a b d)) σ fun ov σ=>T (ev (callF (n+1)) (.str (Mine.S "FT")) (entE c gs a b d)) σ fun iv σ=>T (setItemV ov iv v) σ fun _ σ=>T (exs (callF (n+1)) .nil (entE c gs a b d)) σ fun r σ=>T (cont (callF (n+1)) ss r) σ S:=by
   intro t
   refine t_nil (t_clsc (t_new (f:=i_Name) rfl rfl ?_))
   dsimp only [i_Name]
   ext
   have ee:V.inst 0 [.str (match t with|.tx=>Mine.S "Tx" | .ch=>Mine.S "Ch" | .btn=>Mine.S "Btn" | .sig=>Mine.S "Sig")]=t.enc:=by cases t <;> rfl
   rw [ee]
   refine put_es e'' (by unfold cap;lia) fun e3 f3=>?_
   refine t_end (t_cont ?_)
   exact q (some t) xs'' _ e3 ((f'.trans f'').trans f3)
  have hk:k=0∨k=1∨k=2∨k=3∨k=4∨k=5:=by have:k<6:=h2;lia
  rcases hk with rfl|rfl|rfl|rfl|rfl|rfl
  ·exact T.run (a:=V.str (Mine.S "Tx")) (σ':=σ'') rfl (fin .tx)
  ·exact T.run (a:=V.str (Mine.S "Ch")) (σ':=σ'') rfl (fin .ch)
  ·exact T.run (a:=V.str (Mine.S "Btn")) (σ':=σ'') rfl (fin .btn)
  ·exact T.run (a:=V.str (Mine.S "Btn")) (σ':=σ'') rfl (fin .btn)
  ·exact T.run (a:=V.str (Mine.S "Ch")) (σ':=σ'') rfl (fin .ch)
  ·exact T.run (a:=V.str (Mine.S "Sig")) (σ':=σ'') rfl (fin .sig)
 refine t_ifs (t_or (t_or_cons (t_cmp (t_call ?_))))
 ext
 refine take_es (c:=c) e (by decide) fun k xs' σ' h1 h2 e' f'=>?_
 ext
 refine T.run (a:=decide (k=1)) (σ':=σ') rfl ?_
 refine ⟨_,rfl,?_⟩
 by_cases hk:k=1
 ·rw [decide_eq_true hk]
  exact ⟨true,rfl,yes xs' σ' e' f'⟩
 rw [decide_eq_false hk]
 refine t_or_cons (t_and (t_and_cons (t_cmp (t_str (t_var rfl rfl (nin_dic ?_))))))
 refine ⟨_,rfl,?_⟩
 cases (asc gs (Mine.S "FT")).isSome with
 | true=>
  refine ⟨false,rfl,?_⟩
  refine t_or_nil ⟨false,rfl,?_⟩
  exact t_end (t_cont (q none xs' σ' e' f'))
 | false=>
  refine t_and_cons (t_cmp (t_call ?_))
  ext
  refine take_es (c:=c) e' (by decide) fun k2 xs2 σ2 h3 h4 e2 f2=>?_
  ext
  refine T.run (a:=decide (k2<5)) (σ':=σ2) rfl ?_
  refine ⟨_,rfl,?_⟩
  by_cases hk2:k2<5
  ·rw [decide_eq_true hk2]
   refine t_and_nil ⟨true,rfl,true,rfl,?_⟩
   exact yes xs2 σ2 e2 (f'.trans f2)
  ·rw [decide_eq_false hk2]
   refine ⟨false,rfl,?_⟩
   dsimp only
   refine t_or_nil ⟨false,rfl,?_⟩
   exact t_end (t_cont (q none xs2 σ2 e2 (f'.trans f2)))
theorem pows_loop {a b d:V}:∀ (ps:List Nat) (xs:List Int) (σ:Mem) (Qs:List V→Mem→Prop),ES σ c xs hs→(∀ p∈ps,p≤30)→(∀ (zs:List Int) (xs':List Int) (σ':Mem),zs.length≤ps.length→(∀ z∈zs,0≤z∧z<2 ^ 40)→ES σ' c xs' hs→F2 c σ σ'→Qs (zs.map V.int) σ')→
  T (loopC (cnd (callF (n+1)) (.cons (.cmp .eq (.call (.glob 55) (.cons (.var 0) (.cons (.int 4) .nil))) (.int 1)) .nil)) (ev (callF (n+1)) (.bin .pow false (.int 2) (.var 6))) (.one 6) (entE c gs a b d) (ps.map fun (p:Nat)=>V.int (p:Int))) σ Qs
 | [],xs,σ,Qs,e,_,q=>comp_nil (q [] xs σ (Nat.le_refl _) (fun _ h=>nomatch h) e (.refl c σ))
 | p::ps,xs,σ,Qs,e,hp,q=>by
  have hp1:=hp p (.head _)
  refine comp_cons rfl (cnd_one (t_cmp ?_))
  ext
  refine take_es (c:=c) e (by decide) fun k xs' σ' h1 h2 e' f'=>?_
  ext
  refine T.run (a:=decide (k=1)) (σ':=σ') rfl ?_
  refine ⟨_,rfl,?_⟩
  by_cases hk:k=1
  ·rw [decide_eq_true hk]
   refine t_bin (t_int (t_var rfl rfl ?_))
   refine pow_int (x:=2) (y:=p) ⟨by lia,by lia,by decide⟩ ?_
   refine pows_loop ps xs' σ' _ e' (fun x hx=>hp x (.tail _ hx)) fun zs xs'' σ'' hl hz e'' f''=>?_
   refine q (2 ^ p::zs) xs'' σ'' (by rw [List.length_cons,List.length_cons];lia) (fun z hz'=>?_) e'' (f'.trans f'')
   rcases List.mem_cons.mp hz' with e|hz'
   ·rw [e]
    refine ⟨Int.le_of_lt (Int.pow_pos (by decide)),?_⟩
    have h1:(2:Nat) ^ p≤2 ^ 30:=Nat.pow_le_pow_right (by decide) hp1
    have h3:(2:Int) ^ p=((2 ^ p:Nat):Int):=by simp
    rw [h3]
    have h2:((2 ^ 30:Nat):Int)<2 ^ 40:=by decide
    exact Int.lt_of_le_of_lt (Int.ofNat_le.mpr h1) h2
   ·exact hz z hz'
  ·rw [decide_eq_false hk]
   exact pows_loop ps xs' σ' _ e' (fun x hx=>hp x (.tail _ hx)) fun zs xs'' σ'' hl hz e'' f''=>q zs xs'' σ'' (by rw [List.length_cons];lia) hz e'' (f'.trans f'')
theorem sum_ok:∀ zs:List Int,(∀ z∈zs,0≤z∧z<2 ^ 40)→smalls (zs.map V.int)=true∧∃ t,sumV (zs.map V.int)=some t∧0≤t
 | [],_=>⟨rfl,0,rfl,Int.le_refl 0⟩
 | z::zs,h=>by
  obtain ⟨h1,t,h2,h3⟩:=sum_ok zs fun x hx=>h x (.tail _ hx)
  have hz:=h z (.head _)
  refine ⟨?_,z+t,?_,by lia⟩
  ·show (decide (0≤z)&&decide (z<2 ^ 40)&&smalls (zs.map V.int))=true
   rw [decide_eq_true hz.1,decide_eq_true hz.2,h1];rfl
  ·show ((sumV (zs.map V.int)).bind fun b=>some (z+b))=_
   rw [h2];rfl
theorem ent_ff {a b d:V} (e:ES σ c xs hs) (hl:hs.length<1000) (q:∀ (ff:Option Int) (xs':List Int) (σ':Mem),(∀ f,ff=some f→0≤f)→ES σ' c xs' (optput hs (Mine.S "Ff") (ff.map V.int))→F2 c σ σ'→T (exs (callF (n+1)) ss (entE c gs a b d)) σ' S) :
  T (exs (callF (n+1)) (.cons (.ifs (.cmp .eq (.call (.glob 55) (.cons (.var 0) (.cons (.int 2) .nil))) (.int 1))
  (.cons (.put (.var 1) (.str (Mine.S "Ff")) (.call (.glob 15) (.cons (.lcomp false (.bin .pow false (.int 2) (.var 6)) (.one 6) (.fwd (.tup (.cons (.int 0) (.cons (.int 2) (.cons (.int 14) (.cons (.int 15) (.cons (.int 16) (.cons (.int 17) (.cons (.int 18) (.cons (.int 21) (.cons (.int 25) .nil))))))))))) (.cons (.cmp .eq (.call (.glob 55) (.cons (.var 0) (.cons (.int 4) .nil))) (.int 1)) .nil)) .nil))) .nil) .nil) ss) (entE c gs a b d)) σ S:=by
 refine t_ifs (t_cmp ?_)
 ext
 refine take_es (c:=c) e (by decide) fun k xs' σ' h1 h2 e' f'=>?_
 ext
 refine T.run (a:=decide (k=1)) (σ':=σ') rfl ?_
 refine ⟨_,rfl,?_⟩
 by_cases hk:k=1
 ·rw [decide_eq_true hk]
  ext
  refine pows_loop [0,2,14,15,16,17,18,21,25] xs' σ' _ e' (by decide) fun zs xs'' σ'' hlz hz e'' f''=>?_
  have hlz:zs.length≤9:=hlz
  refine mkl0 (by rw [List.length_map];unfold cap;lia) ?_
  obtain ⟨s1,t,s2,s3⟩:=sum_ok zs hz
  refine t_nil (t_bi ?_)
  refine T.run (a:=V.int t) (σ':=σ'') ?_ ?_
  ·show (if smalls (zs.map V.int)&&decide ((zs.map V.int).length<1000) then bnd (lft (sumV (zs.map V.int))) fun n=>Mine.ret (V.int n) else fail) σ''=_
   rw [s1,decide_eq_true (by rw [List.length_map];lia),s2]
   rfl
  ext
  refine put_es e'' (by unfold cap;lia) fun e3 f3=>?_
  refine t_end (t_cont ?_)
  exact q (some t) xs'' _ (fun f h=>by cases h;exact s3) e3 ((f'.trans f'').trans f3)
 ·rw [decide_eq_false hk]
  exact t_end (t_cont (q none xs' σ' (fun _ h=>nomatch h) e' f'))
theorem obj_es {σ:Mem} {c:Nat} {xs:List Int} {hs:List (Str×V)} {s:Str} {Q:V→Mem→Prop} (e:ES σ c xs hs) (q:∀ (v:Val) (xs':List Int) (σ':Mem),v.ok→ES σ' c xs' hs→F2 c σ σ'→Q v.enc σ'):T (callF (n+3) 36 [.cell 0,.str s]) σ Q:=
 lawobj_ok e.hp e.nn fun v xs' h1 h2=>q v xs' _ h1 (e.pool h2) ((F2.refl c σ).pool _)
theorem val_noU (v:Val):noU v.enc=true:=by cases v <;> rfl
theorem ent_v {s k:Str} {b d:V} {S:Fl×Env'→Mem→Prop} (e:ES σ c xs hs) (hl:hs.length<1000) (q:∀ (v:Option Val) (xs':List Int) (σ':Mem),(∀ x,v=some x→x.ok)→ES σ' c xs' (optput hs k (v.map Val.enc))→F2 c σ σ'→S (.next,entE c gs (.str s) (.str k) d) σ') :
  T (exs (callF (n+3)) (.cons (.ifs (.cmp .eq (.call (.glob 55) (.cons (.var 0) (.cons (.int 2) .nil))) (.int 1)) (.cons (.put (.var 1) (.var 4) (.call (.glob 57) (.cons (.var 0) (.cons (.var 3) .nil)))) .nil) .nil) .nil) (entE c gs (.str s) (.str k) d)) σ S:=by
 refine t_ifs (t_cmp ?_)
 ext
 refine take_es (n:=n+2) (c:=c) e (by decide) fun j xs' σ' h1 h2 e' f'=>?_
 ext
 refine T.run (a:=decide (j=1)) (σ':=σ') rfl ?_
 refine ⟨_,rfl,?_⟩
 by_cases hk:j=1
 ·rw [decide_eq_true hk]
  ext
  refine obj_es e' fun v xs'' σ'' hv e'' f''=>?_
  ext
  refine put_es e'' (by unfold cap;lia) fun e3 f3=>?_
  refine t_end (t_cont (t_end ?_))
  exact q (some v) xs'' _ (fun x h=>by cases h;exact hv) e3 ((f'.trans f'').trans f3)
 ·rw [decide_eq_false hk]
  exact t_end (t_cont (t_end (q none xs' σ' (fun _ h=>nomatch h) e' f')))
theorem ent_ml {a b d:V} (e:ES σ c xs hs) (hl:hs.length<1000) (q:∀ (ml:Bool) (xs':List Int) (σ':Mem),ES σ' c xs' (optput hs (Mine.S "MaxLen") (if ml then some (.int 3) else none))→F2 c σ σ'→T (exs (callF (n+1)) ss (entE c gs a b d)) σ' S) :
  T (exs (callF (n+1)) (.cons (.ifs (.cmp .eq (.call (.glob 55) (.cons (.var 0) (.cons (.int 3) .nil))) (.int 1)) (.cons (.put (.var 1) (.str (Mine.S "MaxLen")) (.int 3)) .nil) .nil) ss) (entE c gs a b d)) σ S:=by
 refine t_ifs (t_cmp ?_)
 ext
 refine take_es (c:=c) e (by decide) fun j xs' σ' h1 h2 e' f'=>?_
 ext
 refine T.run (a:=decide (j=1)) (σ':=σ') rfl ?_
 refine ⟨_,rfl,?_⟩
 by_cases hk:j=1
 ·rw [decide_eq_true hk]
  ext
  refine put_es e' (by unfold cap;lia) fun e3 f3=>?_
  refine t_end (t_cont ?_)
  exact q true xs' _ e3 (f'.trans f3)
 ·rw [decide_eq_false hk]
  exact t_end (t_cont (q false xs' σ' e' f'))
theorem ent_opt {a b d:V} {S:Fl×Env'→Mem→Prop} (e:ES σ c xs hs) (hl:hs.length<1000) (q:∀ (os:Option (List OptI)) (xs':List Int) (σ':Mem) (ρ:Env'),(∀ l,os=some l→l.length<100∧∀ o∈l,o.ok)→ES σ' c xs' (optput hs (Mine.S "Opt") (os.map fun l=>.list (l.map OptI.enc)))→F2 c σ σ'→S (.next,ρ) σ') :
  T (exs (callF (n+1)) (.cons (.ifs (.cmp .eq (.call (.glob 55) (.cons (.var 0) (.cons (.int 2) .nil))) (.int 1))
  (.cons (.asg (.one 5) (.list false (.cons (.call (.glob 1) (.cons (.byts [97,98,99]) .nil)) (.cons (.call (.glob 1) (.cons (.byts [76,111,110,103]) .nil)) .nil))))
  (.cons (.put (.var 1) (.str (Mine.S "Opt")) (.upto (.list false (.cons (.call (.glob 1) (.cons (.byts [97]) .nil)) (.cons (.var 5) (.cons (.call (.glob 1) (.cons (.byts [97,98,99,100]) .nil)) .nil)))) (.bin .add false (.int 1) (.call (.glob 55) (.cons (.var 0) (.cons (.int 3) .nil))))))
  .nil)) .nil) .nil) (entE c gs a b d)) σ S:=by
 have mk:∀ (bs:List UInt8) (σ:Mem) (Q:V→Mem→Prop),Q (strV bs) σ→T (callV (callF (n+1)) (.cls 1) [.byts bs]) σ Q:=by
  intro bs σ Q h
  refine t_clsc (t_new (f:=i_String) rfl rfl ?_)
  dsimp only [i_String]
  ext
  exact h
 refine t_ifs (t_cmp ?_)
 ext
 refine take_es (c:=c) e (by decide) fun j xs' σ' h1 h2 e' f'=>?_
 ext
 refine T.run (a:=decide (j=1)) (σ':=σ') rfl ?_
 refine ⟨_,rfl,?_⟩
 by_cases hk:j=1
 ·rw [decide_eq_true hk]
  refine t_asg (t_list (t_cons (t_call (t_glob rfl (t_cons (t_byts (t_nil (mk _ _ _ ?_))))))))
  refine t_cons (t_call (t_glob rfl (t_cons (t_byts (t_nil (mk _ _ _ (t_nil ?_)))))))
  refine mkl0 (show 2<cap by decide) ?_
  refine t_put ?_
  have up:∀ {C:Calls} {a b:ME} {ρ:Env'} {σ:Mem} {Q:V→Mem→Prop},T (ev C a ρ) σ (fun x σ=>T (ev C b ρ) σ fun y σ=>∃ (k:Int) (l:List V),y=.int k∧x=.list l∧0≤k∧(l.take k.toNat).length<cap∧Q (.list (l.take k.toNat)) σ)→T (ev C (.upto a b) ρ) σ Q:=fun {C a b ρ σ Q} h=>T.bnd (m:=ev C a ρ) (h.mono fun x σ h=>T.bnd (m:=ev C b ρ) (h.mono fun y σ ⟨k,l,e1,e2,h1,h2,h3⟩=>by
   subst e1 e2
   show T (if 0≤k then bnd (rdList (.list l)) fun xs=>mkL false (xs.take k.toNat) else fail) σ Q
   rw [if_pos h1]
   exact .bnd (.run (a:=l) (σ':=σ) rfl (mkl0 h2 h3))))
  refine up (t_list (t_cons (t_call (t_glob rfl (t_cons (t_byts (t_nil (mk _ _ _ ?_))))))))
  refine t_cons (t_var rfl rfl (t_cons (t_call (t_glob rfl (t_cons (t_byts (t_nil (mk _ _ _ (t_nil ?_)))))))))
  refine mkl0 (show 3<cap by decide) ?_
  refine t_bin (t_int (t_call ?_))
  ext
  refine take_es (c:=c) e' (by decide) fun k xs'' σ'' h3 h4 e'' f''=>?_
  refine T.run (a:=V.int (1+k)) (σ':=σ'') rfl ?_
  refine ⟨1+k,_,rfl,rfl,by lia,by rw [List.length_take];unfold cap;simp only [List.length_cons,List.length_nil];lia,?_⟩
  ext
  have all:∀ l:List OptI,l.length<100→(∀ o∈l,o.ok)→T (setItemV (.cell c) (.str (Mine.S "Opt")) (.list (l.map OptI.enc))) σ'' fun _ σ=>T (exs (callF (n+1)) .nil (entE c gs a b (.list [strV [97,98,99],strV [76,111,110,103]]))) σ fun r σ=>T (cont (callF (n+1)) .nil r) σ S:=by
   intro l hl1 hl2
   refine put_es e'' (by unfold cap;lia) fun e3 f3=>?_
   refine t_end (t_cont (t_end ?_))
   exact q (some l) xs'' _ _ (fun x h=>by cases h;exact ⟨hl1,hl2⟩) e3 ((f'.trans f'').trans f3)
  have o1:OptI.ok (.one [97]):=by simp [OptI.ok,byStrs]
  have o2:OptI.ok (.two [97,98,99] [76,111,110,103]):=by simp [OptI.ok,byStrs]
  have o3:OptI.ok (.one [97,98,99,100]):=by simp [OptI.ok,byStrs]
  have hk:k=0∨k=1∨k=2:=by have:k<3:=h4;lia
  rcases hk with rfl|rfl|rfl
  ·exact all [.one [97]] (show 1<100 by decide) (fun o ho=>by rcases List.mem_cons.mp ho with e|h;(rw [e];exact o1);cases h)
  ·exact all [.one [97],.two [97,98,99] [76,111,110,103]] (show 2<100 by decide) (fun o ho=>by
    rcases List.mem_cons.mp ho with e|h
    ·rw [e];exact o1
    rcases List.mem_cons.mp h with e|h
    ·rw [e];exact o2
    cases h)
  ·exact all [.one [97],.two [97,98,99] [76,111,110,103],.one [97,98,99,100]] (show 3<100 by decide) (fun o ho=>by
    rcases List.mem_cons.mp ho with e|h
    ·rw [e];exact o1
    rcases List.mem_cons.mp h with e|h
    ·rw [e];exact o2
    rcases List.mem_cons.mp h with e|h
    ·rw [e];exact o3
    cases h)
 ·rw [decide_eq_false hk]
  exact t_end (t_cont (t_end (q none xs' σ' _ (fun _ h=>nomatch h) e' f')))
end
structure Ent where
 ft:Option FTy
 ff:Option Int
 v:Option Val
 dv:Option Val
 ml:Bool
 opt:Option (List OptI)
noncomputable def Ent.put (E:Ent) (hs:List (Str×V)):List (Str×V):=
 optput (optput (optput (optput (optput (optput hs (Mine.S "FT") (E.ft.map FTy.enc)) (Mine.S "Ff") (E.ff.map V.int)) (Mine.S "V") (E.v.map Val.enc)) (Mine.S "DV") (E.dv.map Val.enc)) (Mine.S "MaxLen") (if E.ml then some (.int 3) else none)) (Mine.S "Opt") (E.opt.map fun l=>.list (l.map OptI.enc))
structure Ent.ok (E:Ent):Prop where
 ff:∀ f,E.ff=some f→0≤f
 v:∀ x,E.v=some x→x.ok
 opt:∀ l,E.opt=some l→l.length<100∧∀ o∈l,o.ok
theorem ent_len (E:Ent) (hs:List (Str×V)):(E.put hs).length≤hs.length+6:=by
 unfold Ent.put
 have h1:=optput_len hs (Mine.S "FT") (E.ft.map FTy.enc)
 have h2:=optput_len (optput hs (Mine.S "FT") (E.ft.map FTy.enc)) (Mine.S "Ff") (E.ff.map V.int)
 have h3:=optput_len (optput (optput hs (Mine.S "FT") (E.ft.map FTy.enc)) (Mine.S "Ff") (E.ff.map V.int)) (Mine.S "V") (E.v.map Val.enc)
 have h4:=optput_len (optput (optput (optput hs (Mine.S "FT") (E.ft.map FTy.enc)) (Mine.S "Ff") (E.ff.map V.int)) (Mine.S "V") (E.v.map Val.enc)) (Mine.S "DV") (E.dv.map Val.enc)
 have h5:=optput_len (optput (optput (optput (optput hs (Mine.S "FT") (E.ft.map FTy.enc)) (Mine.S "Ff") (E.ff.map V.int)) (Mine.S "V") (E.v.map Val.enc)) (Mine.S "DV") (E.dv.map Val.enc)) (Mine.S "MaxLen") (if E.ml then some (.int 3) else none)
 have h6:=optput_len (optput (optput (optput (optput (optput hs (Mine.S "FT") (E.ft.map FTy.enc)) (Mine.S "Ff") (E.ff.map V.int)) (Mine.S "V") (E.v.map Val.enc)) (Mine.S "DV") (E.dv.map Val.enc)) (Mine.S "MaxLen") (if E.ml then some (.int 3) else none)) (Mine.S "Opt") (E.opt.map fun l=>.list (l.map OptI.enc))
 lia
theorem ent_other (E:Ent) (hs:List (Str×V)) (s:Str) (h:s∉inhK):asc (E.put hs) s=asc hs s:=by
 unfold inhK at h
 simp only [List.mem_cons,List.not_mem_nil,or_false,not_or] at h
 obtain ⟨h1,h2,h3,h4,h5,h6⟩:=h
 unfold Ent.put
 rw [asc_optput,if_neg (Ne.symm h6),asc_optput,if_neg (Ne.symm h5),asc_optput,if_neg (Ne.symm h4),asc_optput,if_neg (Ne.symm h3),asc_optput,if_neg (Ne.symm h2),asc_optput,if_neg (Ne.symm h1)]
theorem ent_at (E:Ent) (hs:List (Str×V)) (h:∀ s∈inhK,asc hs s=none) :
  asc (E.put hs) (Mine.S "FT")=E.ft.map FTy.enc∧asc (E.put hs) (Mine.S "Ff")=E.ff.map V.int∧asc (E.put hs) (Mine.S "V")=E.v.map Val.enc∧asc (E.put hs) (Mine.S "MaxLen")=(if E.ml then some (.int 3) else none)∧asc (E.put hs) (Mine.S "Opt")=E.opt.map fun l=>.list (l.map OptI.enc):=by
 have n1:=h (Mine.S "FT") (by simp [inhK])
 have n2:=h (Mine.S "Ff") (by simp [inhK])
 have n3:=h (Mine.S "V") (by simp [inhK])
 have n5:=h (Mine.S "MaxLen") (by simp [inhK])
 have n6:=h (Mine.S "Opt") (by simp [inhK])
 unfold Ent.put
 refine ⟨?_,?_,?_,?_,?_⟩
 ·rw [asc_optput,if_neg (by decide +kernel),asc_optput,if_neg (by decide +kernel),asc_optput,if_neg (by decide +kernel),asc_optput,if_neg (by decide +kernel),asc_optput,if_neg (by decide +kernel),asc_optput,if_pos rfl,n1,Option.or_none]
 ·rw [asc_optput,if_neg (by decide +kernel),asc_optput,if_neg (by decide +kernel),asc_optput,if_neg (by decide +kernel),asc_optput,if_neg (by decide +kernel),asc_optput,if_pos rfl,asc_optput,if_neg (by decide +kernel),n2,Option.or_none]
 ·rw [asc_optput,if_neg (by decide +kernel),asc_optput,if_neg (by decide +kernel),asc_optput,if_neg (by decide +kernel),asc_optput,if_pos rfl,asc_optput,if_neg (by decide +kernel),asc_optput,if_neg (by decide +kernel),n3,Option.or_none]
 ·generalize (if E.ml=true then some (V.int 3) else none:Option V)=mv
  rw [asc_optput,if_neg (by decide +kernel),asc_optput,if_pos rfl,asc_optput,if_neg (by decide +kernel),asc_optput,if_neg (by decide +kernel),asc_optput,if_neg (by decide +kernel),asc_optput,if_neg (by decide +kernel),n5,Option.or_none]
 ·rw [asc_optput,if_pos rfl,asc_optput,if_neg (by decide +kernel),asc_optput,if_neg (by decide +kernel),asc_optput,if_neg (by decide +kernel),asc_optput,if_neg (by decide +kernel),asc_optput,if_neg (by decide +kernel),n6,Option.or_none]
noncomputable def Ent.over (E:Ent) (i:Info):Info:=⟨E.ft.or i.ft,E.ff.or i.ff,E.v.or i.v,E.ml || i.ml,E.opt.or i.opt⟩
theorem map_or {α β:Type} (f:α→β) (a b:Option α):(a.map f).or (b.map f)=(a.or b).map f:=by cases a <;> rfl
theorem ent_info {E:Ent} {hs:List (Str×V)} {gv:Str→Option V} {i:Info} (hE:E.ok) (h:∀ s∈inhK,asc hs s=none) (hi:InfoOK gv i):InfoOK (fun s=>(asc (E.put hs) s).or (gv s)) (E.over i):=by
 obtain ⟨e1,e2,e3,e4,e5⟩:=ent_at E hs h
 refine ⟨?_,?_,?_,?_,?_,?_,?_,?_⟩
 ·show (asc (E.put hs) (Mine.S "FT")).or (gv (Mine.S "FT"))=_
  rw [e1,hi.ft,map_or];rfl
 ·show (asc (E.put hs) (Mine.S "Ff")).or (gv (Mine.S "Ff"))=_
  rw [e2,hi.ff,map_or];rfl
 ·intro f hf
  have hf:E.ff.or i.ff=some f:=hf
  cases hE':E.ff with
  | none=>rw [hE'] at hf;exact hi.ffp f hf
  | some g=>rw [hE'] at hf;exact hE.ff f (hE'.trans hf)
 ·show (asc (E.put hs) (Mine.S "V")).or (gv (Mine.S "V"))=_
  rw [e3,hi.v,map_or];rfl
 ·intro f hf
  have hf:E.v.or i.v=some f:=hf
  cases hE':E.v with
  | none=>rw [hE'] at hf;exact hi.vok f hf
  | some g=>rw [hE'] at hf;exact hE.v f (hE'.trans hf)
 ·show (asc (E.put hs) (Mine.S "MaxLen")).or (gv (Mine.S "MaxLen"))=if (E.ml || i.ml)=true then _ else _
  rw [e4,hi.ml]
  cases E.ml <;> cases i.ml <;> rfl
 ·show (asc (E.put hs) (Mine.S "Opt")).or (gv (Mine.S "Opt"))=_
  rw [e5,hi.opt,map_or];rfl
 ·intro f hf
  have hf:E.opt.or i.opt=some f:=hf
  cases hE':E.opt with
  | none=>rw [hE'] at hf;exact hi.ook f hf
  | some g=>rw [hE'] at hf;exact hE.opt f (hE'.trans hf)
theorem info_congr {wl wl':Str→Option V} {i:Info} (h:∀ s∈inhK,wl' s=wl s) (hi:InfoOK wl i):InfoOK wl' i:=
 ⟨(h _ (by simp [inhK])).trans hi.ft,(h _ (by simp [inhK])).trans hi.ff,hi.ffp,(h _ (by simp [inhK])).trans hi.v,hi.vok,(h _ (by simp [inhK])).trans hi.ml,(h _ (by simp [inhK])).trans hi.opt,hi.ook⟩
section
variable {n:Nat} {σ:Mem} {Q:V→Mem→Prop} {c:Nat} {gs hs:List (Str×V)} {xs:List Int} {C:Calls}
theorem entries_ok {i:Info} (e:ES σ c xs hs) (hl:hs.length<900) (hi:InfoOK (asc gs) i) (hn:asc hs (Mine.S "FT")=none)
  (q:∀ (E:Ent) (xs':List Int) (σ':Mem),E.ok→ES σ' c xs' (E.put hs)→F2 c σ σ'→Q .none σ'):T (callF (n+4) 37 [.cell 0,.cell c,.dict gs]) σ Q:=by
 refine t_fun (f:=f_law_entries) rfl rfl rfl ?_
 dsimp only [f_law_entries]
 refine ent_ft (n:=n+2) e (by lia) fun ft xs1 σ1 e1 f1=>?_
 have l1:=optput_len hs (Mine.S "FT") (ft.map FTy.enc)
 have nm:∀ (s:Str) (σ:Mem) (Q:V→Mem→Prop),Q (nameV s) σ→T (callV (callF (n+3)) (.cls 0) [.str s]) σ Q:=by
  intro s σ Q h
  refine t_clsc (t_new (f:=i_Name) rfl rfl ?_)
  dsimp only [i_Name]
  ext
  exact h
 obtain ⟨s,hs1⟩:∃ s,(asc (optput hs (Mine.S "FT") (ft.map FTy.enc)) (Mine.S "FT")).getD ((asc gs (Mine.S "FT")).getD (nameV (Mine.S "")))=nameV s:=by
  rw [asc_optput,if_pos rfl,hn,Option.or_none,hi.ft]
  cases ft with
  | some t=>cases t <;> exact ⟨_,rfl⟩
  | none=>cases i.ft with
   | some t=>cases t <;> exact ⟨_,rfl⟩
   | none=>exact ⟨_,rfl⟩
 refine t_asg (t_attr (t_meth ?_))
 ext
 refine t_pre (pre_sd e1.hc) ?_
 ext
 refine nm _ _ _ ?_
 ext
 refine dget2 rfl rfl ?_
 ext
 refine t_pre (pre_sd e1.hc) ?_
 ext
 refine dget2 (rd_sd e1.hc) rfl ?_
 rw [hs1]
 refine T.run (a:=V.str s) (σ':=σ1) rfl ?_
 refine ent_ff (n:=n+2) e1 (by lia) fun ff xs2 σ2 hff e2 f2=>?_
 have l2:=optput_len (optput hs (Mine.S "FT") (ft.map FTy.enc)) (Mine.S "Ff") (ff.map V.int)
 refine t_fors (t_tup (t_cons (t_str (t_cons (t_str (t_nil ⟨by decide,?_⟩))))))
 refine for_tup (loop_cons rfl ?_)
 refine ent_v (n:=n) (b:=.unb) e2 (by lia) fun v xs3 σ3 hv e3 f3=>?_
 have l3:=optput_len (optput (optput hs (Mine.S "FT") (ft.map FTy.enc)) (Mine.S "Ff") (ff.map V.int)) (Mine.S "V") (v.map Val.enc)
 refine t_next (loop_cons rfl ?_)
 refine ent_v (n:=n) (b:=.unb) e3 (by lia) fun dv xs4 σ4 hdv e4 f4=>?_
 have l4:=optput_len (optput (optput (optput hs (Mine.S "FT") (ft.map FTy.enc)) (Mine.S "Ff") (ff.map V.int)) (Mine.S "V") (v.map Val.enc)) (Mine.S "DV") (dv.map Val.enc)
 refine t_next (loop_nil (t_cont ?_))
 refine ent_ml (n:=n+2) e4 (by lia) fun ml xs5 σ5 e5 f5=>?_
 have l5:=optput_len (optput (optput (optput (optput hs (Mine.S "FT") (ft.map FTy.enc)) (Mine.S "Ff") (ff.map V.int)) (Mine.S "V") (v.map Val.enc)) (Mine.S "DV") (dv.map Val.enc)) (Mine.S "MaxLen") (if ml then some (.int 3) else none)
 refine ent_opt (n:=n+2) e5 (by lia) fun os xs6 σ6 ρ hos e6 f6=>?_
 exact q ⟨ft,ff,v,dv,ml,os⟩ xs6 σ6 ⟨hff,hv,hos⟩ e6 (f1.trans (f2.trans (f3.trans (f4.trans (f5.trans f6)))))
end
noncomputable def pick:List Str→List Bool→List Str
 | s::ss,b::bs=>(if b then [s] else [])++pick ss bs
 | _,_=>[]
noncomputable def kys (m:Nat):List Int:=(List.range m).map fun (i:Nat)=>((i:Int)+1)
noncomputable def KN (es:List (Str×V)):Prop:=(es.map (·.1)).Nodup
theorem sto_keys {k:Str} {v:V}:∀ es:List (Str×V),∀ s∈(sto es k v).map (·.1),s=k∨s∈es.map (·.1)
 | [],s,h=>.inl (List.mem_singleton.mp h)
 | (j,u)::es,s,h=>by
  have e:(sto ((j,u)::es) k v)=if j=k then (j,v)::es else (j,u)::sto es k v:=rfl
  rw [e] at h
  by_cases hj:j=k
  ·rw [if_pos hj] at h;exact .inr h
  ·rw [if_neg hj] at h
   rcases List.mem_cons.mp h with h|h
   ·exact .inr (by rw [h];exact .head _)
   ·exact (sto_keys es s h).imp id (fun h=>List.mem_cons_of_mem _ h)
theorem KN.sto {k:Str} {v:V}:∀ {es:List (Str×V)},KN es→KN (sto es k v)
 | [],_=>List.nodup_cons.mpr ⟨List.not_mem_nil,List.nodup_nil⟩
 | (j,u)::es,h=>by
  obtain ⟨h1,h2⟩:=List.nodup_cons.mp (show (j::es.map (·.1)).Nodup from h)
  have e:(Mine.sto ((j,u)::es) k v)=if j=k then (j,v)::es else (j,u)::Mine.sto es k v:=rfl
  rw [e]
  by_cases hj:j=k
  ·rw [if_pos hj];exact h
  ·rw [if_neg hj]
   refine List.nodup_cons.mpr ⟨fun hm=>?_,KN.sto (es:=es) h2⟩
   rcases sto_keys es _ hm with h3|h3
   ·exact hj h3
   ·exact h1 h3
theorem KN.optput {k:Str} {o:Option V} {es:List (Str×V)} (h:KN es):KN (optput es k o):=by
 cases o with
 | none=>exact h
 | some v=>exact h.sto
theorem KN.nil:KN []:=List.nodup_nil
theorem KN.one {k:Str} {v:V}:KN [(k,v)]:=List.nodup_cons.mpr ⟨List.not_mem_nil,List.nodup_nil⟩
theorem KN.ent {E:Ent} {es:List (Str×V)} (h:KN es):KN (E.put es):=h.optput.optput.optput.optput.optput.optput
structure Row (es:List (Str×V)):Prop where
 len:es.length<50
 kn:KN es
structure TB (tb:List (Int×V)) (m:Nat):Prop where
 kys:tb.map (·.1)=kys m
 rows:∀ k v,ascI tb k=some v→∃ es,v=nodeV es∧Row es
theorem kys_succ (m:Nat):kys (m+1)=kys m++[(m:Int)+1]:=by
 unfold kys;rw [List.range_succ,List.map_append];rfl
theorem mem_kys {m:Nat} {k:Int}:k∈kys m↔1≤k∧k≤m:=by
 unfold kys
 rw [List.mem_map]
 constructor
 ·rintro ⟨i,hi,rfl⟩
  have:=List.mem_range.mp hi
  lia
 ·rintro ⟨h1,h2⟩
  exact ⟨(k-1).toNat,List.mem_range.mpr (by lia),by lia⟩
theorem ascI_iff {k:Int}:∀ tb:List (Int×V),(ascI tb k).isSome=true↔k∈tb.map (·.1)
 | []=>by simp [ascI]
 | (j,v)::tb=>by
  show (if j=k then some v else ascI tb k).isSome=true↔_
  by_cases h:j=k
  ·rw [if_pos h];simp [h]
  ·rw [if_neg h,ascI_iff tb];simp [Ne.symm h]
theorem stoI_keys {k:Int} {v:V}:∀ tb:List (Int×V),(stoI tb k v).map (·.1)=if k∈tb.map (·.1) then tb.map (·.1) else tb.map (·.1)++[k]
 | []=>rfl
 | (j,u)::tb=>by
  show (if j=k then (j,v)::tb else (j,u)::stoI tb k v).map (·.1)=_
  by_cases h:j=k
  ·rw [if_pos h];simp [h]
  ·show _=if k∈j::tb.map (·.1) then j::tb.map (·.1) else j::tb.map (·.1)++[k]
   rw [if_neg h,List.map_cons,stoI_keys tb]
   by_cases h2:k∈tb.map (·.1)
   ·rw [if_pos h2,if_pos (show k∈j::tb.map (·.1) from List.mem_cons_of_mem _ h2)]
   ·rw [if_neg h2,if_neg (show ¬ k∈j::tb.map (·.1) from fun h3=>(List.mem_cons.mp h3).elim (fun h3=>h (Eq.symm h3)) h2)]
    rfl
section
variable {tb:List (Int×V)} {m:Nat}
theorem TB.has (t:TB tb m) {k:Int}:(ascI tb k).isSome=true↔1≤k∧k≤m:=by rw [ascI_iff,t.kys,mem_kys]
theorem TB.len (t:TB tb m):tb.length=m:=by
 have h:=congrArg List.length t.kys
 rw [List.length_map] at h
 rw [h];unfold Mine.Pl.kys;rw [List.length_map,List.length_range]
theorem TB.add (t:TB tb m) {es:List (Str×V)} (h:Row es):TB (stoI tb ((m:Int)+1) (nodeV es)) (m+1):=by
 refine ⟨?_,fun k v hk=>?_⟩
 ·rw [stoI_keys,t.kys,kys_succ,if_neg (fun h=>by have:=mem_kys.mp h;lia)]
 ·rw [ascI_sto] at hk
  by_cases e:(m:Int)+1=k
  ·rw [if_pos e] at hk;cases hk;exact ⟨es,rfl,h⟩
  ·rw [if_neg e] at hk;exact t.rows k v hk
theorem TB.put (t:TB tb m) {k:Int} (hk:1≤k∧k≤m) {es:List (Str×V)} (h:Row es):TB (stoI tb k (nodeV es)) m:=by
 refine ⟨?_,fun j v hj=>?_⟩
 ·rw [stoI_keys,t.kys,if_pos (mem_kys.mpr hk)]
 ·rw [ascI_sto] at hj
  by_cases e:k=j
  ·rw [if_pos e] at hj;cases hj;exact ⟨es,rfl,h⟩
  ·rw [if_neg e] at hj;exact t.rows j v hj
end
structure Fr (P:Nat→Prop) (σ σ':Mem):Prop where
 len:σ.length≤σ'.length
 kp:∀ i,¬ P i→i<σ.length→σ'[i]?=σ[i]?
theorem Fr.refl (P:Nat→Prop) (σ:Mem):Fr P σ σ:=⟨Nat.le_refl _,fun _ _ _=>rfl⟩
theorem Fr.trans {P:Nat→Prop} {σ σ' σ'':Mem} (x:Fr P σ σ') (y:Fr P σ' σ''):Fr P σ σ'':=⟨Nat.le_trans x.len y.len,fun i h hi=>(y.kp i h (Nat.lt_of_lt_of_le hi x.len)).trans (x.kp i h hi)⟩
theorem Fr.set {P:Nat→Prop} {σ σ':Mem} (x:Fr P σ σ') {j:Nat} (h:P j∨σ.length≤j) (o:Ob):Fr P σ (σ'.set j o):=⟨by rw [List.length_set];exact x.len,fun i hp hi=>(at_ne (fun e=>by
 subst e
 rcases h with h|h
 ·exact hp h
 ·lia)).trans (x.kp i hp hi)⟩
theorem Fr.push {P:Nat→Prop} {σ σ':Mem} (x:Fr P σ σ') (o:Ob):Fr P σ (σ'++[o]):=⟨by rw [List.length_append];exact Nat.le_trans x.len (Nat.le_add_right _ _),fun i hp hi=>(List.getElem?_append_left (Nat.lt_of_lt_of_le hi x.len)).trans (x.kp i hp hi)⟩
theorem Fr.of2 {P:Nat→Prop} {c:Nat} {σ σ':Mem} (x:F2 c σ σ') (h0:P 0) (hc:P c∨σ.length≤c):Fr P σ σ':=⟨x.len,fun i hp hi=>x.kp i (fun e=>hp (by rw [e];exact h0)) (fun e=>by
 subst e
 rcases hc with h|h
 ·exact hp h
 ·lia) hi⟩
theorem Fr.wide {P R:Nat→Prop} {σ σ':Mem} (x:Fr P σ σ') (h:∀ i,i<σ.length→P i→R i):Fr R σ σ':=⟨x.len,fun i hr hi=>x.kp i (fun hp=>hr (h i hi hp)) hi⟩
theorem Fr.at {P:Nat→Prop} {σ σ':Mem} (x:Fr P σ σ') {i:Nat} {o:Ob} (hp:¬ P i) (h:σ[i]?=some o):σ'[i]?=some o:=(x.kp i hp (List.getElem?_eq_some_iff.mp h).1).trans h
section
variable {n:Nat} {σ:Mem} {Q:V→Mem→Prop} {c m:Nat} {hs:List (Str×V)} {xs:List Int} {tb:List (Int×V)} {C:Calls}
theorem look_loop {a b d:V}:∀ (ss:List Str) (xs:List Int) (σ:Mem) (Qs:List V→Mem→Prop),ES σ c xs hs→(∀ (bs:List Bool) (xs':List Int) (σ':Mem),bs.length=ss.length→ES σ' c xs' hs→F2 c σ σ'→Qs ((pick ss bs).map V.str) σ')→
  T (loopC (cnd (callF (n+1)) (.cons (.cmp .eq (.call (.glob 55) (.cons (.var 0) (.cons (.int 2) .nil))) (.int 1)) .nil)) (ev (callF (n+1)) (.var 4)) (.one 4) [.cell 0,.cell c,a,b,d] (ss.map V.str)) σ Qs
 | [],xs,σ,Qs,e,q=>comp_nil (q [] xs σ rfl e (.refl c σ))
 | s::ss,xs,σ,Qs,e,q=>by
  refine comp_cons rfl (cnd_one (t_cmp ?_))
  ext
  refine take_es (c:=c) e (by decide) fun k xs' σ' h1 h2 e' f'=>?_
  ext
  refine T.run (a:=decide (k=1)) (σ':=σ') rfl ?_
  refine ⟨_,rfl,?_⟩
  by_cases hk:k=1
  ·rw [decide_eq_true hk]
   refine t_var rfl rfl ?_
   refine look_loop ss xs' σ' _ e' fun bs xs'' σ'' hb e'' f''=>?_
   exact q (true::bs) xs'' σ'' (by rw [List.length_cons,List.length_cons,hb]) e'' (f'.trans f'')
  ·rw [decide_eq_false hk]
   refine look_loop ss xs' σ' _ e' fun bs xs'' σ'' hb e'' f''=>?_
   exact q (false::bs) xs'' σ'' (by rw [List.length_cons,List.length_cons,hb]) e'' (f'.trans f'')
noncomputable def lookput (l:Look) (hs:List (Str×V)):List (Str×V):=sto (sto hs (Mine.S "AP") (.dict [(Mine.S "N",.dict (statesD l))])) (Mine.S "AS") (nameV l.st)
theorem look_ok (e:ES σ c xs hs) (hl:hs.length<900) (q:∀ (l:Look) (xs':List Int) (σ':Mem),ES σ' c xs' (lookput l hs)→F2 c σ σ'→Q .none σ'):T (callF (n+3) 38 [.cell 0,.cell c]) σ Q:=by
 refine t_fun (f:=f_law_look) rfl rfl rfl ?_
 dsimp only [f_law_look]
 refine t_asg (t_lcomp (t_fwd (t_tup (t_cons (t_str (t_cons (t_str (t_cons (t_str (t_nil ⟨by decide,?_⟩))))))))))
 refine items_tup ?_
 refine look_loop (n:=n+1) [Mine.S "Off",Mine.S "x",Mine.S "y"] xs σ _ e fun bs xs1 σ1 hb e1 f1=>?_
 obtain ⟨a,b,d,rfl⟩:∃ a b d,bs=[a,b,d]:=by
  match bs,hb with
  | [a,b,d],_=>exact ⟨a,b,d,rfl⟩
 have hlp:(pick [Mine.S "Off",Mine.S "x",Mine.S "y"] [a,b,d]).length≤3:=by cases a <;> cases b <;> cases d <;> decide
 refine mkl0 (by rw [List.length_map];unfold cap;lia) ?_
 refine t_put (t_dict0 (t_cons (t_make (t_lcomp (t_fwd (t_var rfl rfl (items_list ?_)))))))
 refine comp_map (f:=fun x=>.tup [x,.int 0]) (fun x hx Q hq=>?_) ?_
 ·obtain ⟨s,_,rfl⟩:=List.mem_map.mp hx
  refine t_tup (t_cons (t_var rfl rfl (t_cons (t_int (t_nil ⟨show 2<100 by decide,hq⟩)))))
 refine mkl0 (by rw [List.length_map,List.length_map];unfold cap;lia) ?_
 have key:∀ (Q:V→Mem→Prop),Q (.dict (statesD ⟨a,b,d,Mine.S ""⟩)) σ1→T (makeV .dictOf 0 (.list (((pick [Mine.S "Off",Mine.S "x",Mine.S "y"] [a,b,d]).map V.str).map fun x=>V.tup [x,.int 0]))) σ1 Q:=by
  intro Q hq
  refine T.run (a:=.dict (statesD ⟨a,b,d,Mine.S ""⟩)) (σ':=σ1) ?_ hq
  cases a <;> cases b <;> cases d <;> rfl
 refine key _ (t_nil ⟨⟨rfl,List.nodup_cons.mpr ⟨List.not_mem_nil,List.nodup_nil⟩,by decide⟩,?_⟩)
 ext
 refine put_es e1 (by unfold cap;lia) fun e2 f2=>?_
 have hl2:=sto_len (Mine.S "AP") (.dict [(Mine.S "N",.dict (statesD ⟨a,b,d,Mine.S ""⟩))]) hs
 refine t_put (t_call (t_glob rfl (t_cons (t_sub ?_))))
 refine t_tup (t_cons (t_str (t_cons (t_str (t_cons (t_str (t_nil ⟨by decide,?_⟩)))))))
 ext
 refine take_es (c:=c) e2 (by decide) fun k xs3 σ3 h1 h2 e3 f3=>?_
 have fin:∀ s:Str,T (evs (callF (n+2)) .nil [.cell 0,.cell c,.list ((pick [Mine.S "Off",Mine.S "x",Mine.S "y"] [a,b,d]).map V.str),.unb,.unb]) σ3 fun vs σ=>T (callV (callF (n+2)) (.cls 0) (.str s::vs)) σ fun v σ=>T (ev (callF (n+2)) (.var 1) [.cell 0,.cell c,.list ((pick [Mine.S "Off",Mine.S "x",Mine.S "y"] [a,b,d]).map V.str),.unb,.unb]) σ fun ov σ=>T (ev (callF (n+2)) (.str (Mine.S "AS")) [.cell 0,.cell c,.list ((pick [Mine.S "Off",Mine.S "x",Mine.S "y"] [a,b,d]).map V.str),.unb,.unb]) σ fun iv σ=>T (setItemV ov iv v) σ fun _ σ=>T (exs (callF (n+2)) .nil [.cell 0,.cell c,.list ((pick [Mine.S "Off",Mine.S "x",Mine.S "y"] [a,b,d]).map V.str),.unb,.unb]) σ fun r σ=>Q (valueOf r.1) σ:=by
  intro s
  refine t_nil (t_clsc (t_new (f:=i_Name) rfl rfl ?_))
  dsimp only [i_Name]
  ext
  refine put_es e3 (Nat.lt_of_le_of_lt hl2 (by unfold cap;lia)) fun e4 f4=>?_
  refine t_end ?_
  exact q ⟨a,b,d,s⟩ xs3 _ e4 (f1.trans (f2.trans (f3.trans f4)))
 have hk:k=0∨k=1∨k=2:=by have:k<3:=h2;lia
 rcases hk with rfl|rfl|rfl
 ·exact T.run (a:=V.str (Mine.S "Off")) (σ':=σ3) rfl (fin _)
 ·exact T.run (a:=V.str (Mine.S "x")) (σ':=σ3) rfl (fin _)
 ·exact T.run (a:=V.str (Mine.S "y")) (σ':=σ3) rfl (fin _)
theorem put_ok {k:Int} {v:V} (hv:noU v=true) (h1:σ[1]?=some (.id tb)) (hl:tb.length<cap) (q:Q .none (σ.set 1 (.id (stoI tb k (.tup [.int 0,v]))))):T (callF (n+1) 2 [shV,.int k,.int 0,v]) σ Q:=by
 refine t_fun (f:=f_Shelf_put) rfl rfl rfl ?_
 dsimp only [f_Shelf_put]
 refine t_put (t_tup (t_cons (t_var rfl rfl (t_cons (t_var rfl hv (t_nil ⟨show 2<100 by decide,?_⟩))))))
 ext
 refine T.run (a:=V.cell 1) (σ':=σ) rfl ?_
 ext
 refine set_id h1 hl ?_
 exact t_end q
theorem add_loop {v:V} {C:Calls} {S:Fl×Env'→Mem→Prop} (h1:σ[1]?=some (.id tb)) (t:TB tb m) (q:S (.next,[shV,v,.int ((m:Int)+1)]) σ):∀ (d:Nat) (j:Int) (f:Nat),1≤j→j+d=m+1→d<f→
  T (loopW (fun ρ=>bnd (ev C (.cmp .in (.var 2) (.attr (.var 0) (Mine.S "table"))) ρ) truth) (exs C (.cons (.asg (.one 2) (.bin .add false (.var 2) (.int 1))) .nil)) f [shV,v,.int j]) σ S
 | d,j,0,_,_,h=>absurd h (Nat.not_lt_zero _)
 | d,j,f+1,hj,hd,hf=>by
  refine loop_while (t_cmp (t_var rfl rfl (t_attr (t_var rfl rfl ?_))))
  refine T.run (a:=V.cell 1) (σ':=σ) rfl ?_
  refine in_id h1 ⟨_,rfl,?_⟩
  cases d with
  | zero=>
   have hn:(ascI tb j).isSome=false:=by
    cases h:(ascI tb j).isSome with
    | false=>rfl
    | true=>have:=t.has.mp h;lia
   rw [hn]
   have e:j=(m:Int)+1:=by lia
   rw [e];exact q
  | succ d=>
   have hn:(ascI tb j).isSome=true:=t.has.mpr ⟨hj,by lia⟩
   rw [hn]
   refine t_asg (t_bin (t_var rfl rfl (t_int ?_)))
   refine T.run (a:=V.int (j+1)) (σ':=σ) rfl ?_
   refine t_end (t_nextw ?_)
   exact add_loop h1 t q d (j+1) f (by lia) (by lia) (by lia)
theorem add_ok {es:List (Str×V)} (h1:σ[1]?=some (.id tb)) (t:TB tb m) (hm:m<900) (q:Q (refV ((m:Int)+1)) (σ.set 1 (.id (stoI tb ((m:Int)+1) (nodeV es))))):T (callF (n+2) 3 [shV,.dict es]) σ Q:=by
 refine t_fun (f:=f_Shelf_add) rfl rfl rfl ?_
 dsimp only [f_Shelf_add]
 refine t_asg (t_int (t_whiles ?_))
 refine add_loop h1 t ?_ m 1 whileMost (by lia) (by lia) (by unfold whileMost;lia)
 refine t_cont (t_put (t_tup (t_cons (t_int (t_cons (t_var rfl rfl (t_nil ⟨show 2<100 by decide,?_⟩)))))))
 ext
 refine T.run (a:=V.cell 1) (σ':=σ) rfl ?_
 ext
 refine set_id h1 (by rw [t.len];unfold cap;lia) ?_
 refine t_ret (t_call (t_glob rfl (t_cons (t_var rfl rfl (t_cons (t_int (t_nil ?_)))))))
 refine t_clsc (t_new (f:=i_Reference) rfl rfl ?_)
 dsimp only [i_Reference]
 ext
 exact q
end
structure NS (ns:List Int) (a b:Nat):Prop where
 nd:ns.Nodup
 mem:∀ j∈ns,(a:Int)<j∧j≤b
 len:ns.length+a≤b
theorem NS.nil (a:Nat):NS [] a a:=⟨List.nodup_nil,(fun _ h=>(nomatch h)),by simp⟩
theorem NS.append {x y:List Int} {a b c:Nat} (h:NS x a b) (k:NS y b c):NS (x++y) a c:=by
 have h1:=h.len
 have k1:=k.len
 refine ⟨List.nodup_append.mpr ⟨h.nd,k.nd,fun i hi j hj e=>?_⟩,fun j hj=>?_,by rw [List.length_append];lia⟩
 ·have:=h.mem i hi;have:=k.mem j hj;lia
 ·rcases List.mem_append.mp hj with hj|hj
  ·have:=h.mem j hj;lia
  ·have:=k.mem j hj;lia
theorem NS.one (a:Nat):NS [(a:Int)+1] a (a+1):=⟨List.nodup_cons.mpr ⟨List.not_mem_nil,List.nodup_nil⟩,(fun j hj=>by
 have:=List.mem_singleton.mp hj
 lia),by show 1+a≤a+1;lia⟩
theorem NS.cons {x:List Int} {a b:Nat} (h:NS x (a+1) b):NS (((a:Int)+1)::x) a b:=(NS.one a).append h
noncomputable def WidRow (tb:List (Int×V)) (w:Int×Look):Prop:=∃ we,ascI tb w.1=some (nodeV we)∧WidOK we w.2∧asc we (Mine.S "T")=none
theorem look_at (l:Look) (hs:List (Str×V)) (s:Str):asc (lookput l hs) s=if Mine.S "AS"=s then some (nameV l.st) else if Mine.S "AP"=s then some (.dict [(Mine.S "N",.dict (statesD l))]) else asc hs s:=by
 unfold lookput
 rw [asc_sto,asc_sto]
theorem look_wid (l:Look) (hs:List (Str×V)):WidOK (lookput l hs) l:=⟨by rw [look_at,if_neg (by decide +kernel),if_pos rfl],by rw [look_at,if_pos rfl]⟩
theorem KN.look {l:Look} {hs:List (Str×V)} (h:KN hs):KN (lookput l hs):=h.sto.sto
theorem look_len (l:Look) (hs:List (Str×V)):(lookput l hs).length≤hs.length+2:=Nat.le_trans (sto_len _ _ _) (Nat.succ_le_succ (sto_len _ _ _))
section
variable {n:Nat} {σ:Mem} {Q:V→Mem→Prop} {c m f:Nat} {hs:List (Str×V)} {xs:List Int} {tb:List (Int×V)} {C:Calls}
noncomputable abbrev kidBody:MSs:=(.cons (.asg (.one 7) (.dict 1 [(Mine.S "Subtype"),(Mine.S "Parent")] (.cons (.call (.glob 0) (.cons (.str (Mine.S "Widget")) .nil)) (.cons (.var 2) .nil))))
  (.cons (.expr (.call (.glob 59) (.cons (.var 0) (.cons (.var 7) .nil))))
  (.cons (.expr (.meth (.var 5) (Mine.S "append") (.cons (.meth (.var 1) (Mine.S "add") (.cons (.frz (.var 7)) .nil)) .nil)))
  .nil)))
noncomputable def wid0 (k:Int):List (Str×V):=[(Mine.S "Subtype",nameV (Mine.S "Widget")),(Mine.S "Parent",refV k)]
theorem wid0_kn (k:Int):KN (wid0 k):=by
 show [Mine.S "Subtype",Mine.S "Parent"].Nodup
 decide +kernel
theorem kid_turn {k:Int} {my u v:V} {ws:List V} {S:Fl×Env'→Mem→Prop} (hc:1≠c) (f0:f≠0) (f1:f≠1) (fc:f≠c) (e:ES σ c xs hs) (h1:σ[1]?=some (.id tb)) (t:TB tb m) (hm:m<899) (hw:ws.length<900) (hf:σ[f]?=some (.list ws))
  (q:∀ (l:Look) (v:V) (xs':List Int) (σ':Mem),ES σ' c xs' hs→σ'[1]?=some (.id (stoI tb ((m:Int)+1) (nodeV (lookput l (wid0 k)))))→TB (stoI tb ((m:Int)+1) (nodeV (lookput l (wid0 k)))) (m+1)→σ'[f]?=some (.list (ws++[refV ((m:Int)+1)]))→Fr (fun i=>i=0∨i=1∨i=f) σ σ'→S (.next,[.cell 0,shV,refV k,.cell c,my,.cell f,u,v]) σ') :
  T (exs (callF (n+4)) kidBody [.cell 0,shV,refV k,.cell c,my,.cell f,u,v]) σ S:=by
 refine t_asg (t_dict1 (t_cons (t_call (t_glob rfl (t_cons (t_str (t_nil ?_)))))))
 refine t_clsc (t_new (f:=i_Name) rfl rfl ?_)
 dsimp only [i_Name]
 ext
 refine ⟨⟨rfl,by decide +kernel,by decide⟩,?_⟩
 have lc:c<σ.length:=(List.getElem?_eq_some_iff.mp e.hc).1
 have l1:1<σ.length:=(List.getElem?_eq_some_iff.mp h1).1
 have l0:0<σ.length:=(List.getElem?_eq_some_iff.mp e.hp).1
 have lf:f<σ.length:=(List.getElem?_eq_some_iff.mp hf).1
 show T (exs (callF (n+4)) _ [.cell 0,shV,refV k,.cell c,my,.cell f,u,.cell σ.length]) (σ++[.sd (wid0 k)]) _
 have ew:ES (σ++[.sd (wid0 k)]) σ.length xs (wid0 k):=⟨by lia,(List.getElem?_append_left l0).trans e.hp,e.nn,at_new σ _⟩
 ext
 refine look_ok (n:=n+1) ew (show 2<900 by decide) fun l xs1 σ1 e1 g1=>?_
 have g1':∀ i,i≠0→i<σ.length→σ1[i]?=σ[i]?:=fun i h0 hi=>(g1.kp i h0 (by lia) (by rw [List.length_append];lia)).trans (List.getElem?_append_left hi)
 have lσ1:σ.length<σ1.length:=(List.getElem?_eq_some_iff.mp e1.hc).1
 have f1':=(g1' f f0 lf).trans hf
 have h1':=(g1' 1 (by lia) l1).trans h1
 refine t_expr (t_meth (t_var rfl rfl ?_))
 refine t_pre (pre_cell f1') ?_
 refine t_asks rfl (t_cons (t_methO (t_var rfl rfl ?_)))
 refine ⟨4,_,3,rfl,rfl,?_⟩
 refine t_cons (t_frz (t_var rfl rfl ?_))
 refine frz_sd e1.hc ?_
 have hwl:Row (lookput l (wid0 k)):=⟨Nat.lt_of_le_of_lt (look_len l (wid0 k)) (show 2+2<50 by decide),(wid0_kn k).look⟩
 ext
 refine add_ok (n:=n+2) (m:=m) (tb:=tb) ((at_ne (by lia)).trans h1') t (by lia) ?_
 ext
 have f2:((σ1.set σ.length Ob.dead).set 1 (Ob.id (stoI tb ((m:Int)+1) (nodeV (lookput l (wid0 k))))))[f]?=some (.list ws):=(at_ne (Ne.symm f1)).trans ((at_ne (by lia)).trans f1')
 refine t_pre (pre_cell f2) ?_
 refine t_same (app_cell f2 (by unfold cap;lia) ?_)
 refine t_end ?_
 refine q l (.cell σ.length) xs1 _ ?_ ?_ (t.add hwl) (at_set f2) ?_
 ·exact ⟨e.c0,(at_ne (by lia)).trans ((at_ne (by lia)).trans ((at_ne (by lia)).trans e1.hp)),e1.nn,(at_ne (by lia)).trans ((at_ne (by lia)).trans ((at_ne (by lia)).trans ((g1' c (Ne.symm e.c0) lc).trans e.hc)))⟩
 ·exact (at_ne f1).trans (at_set ((at_ne (by lia)).trans h1'))
 ·refine Fr.set (Fr.set (Fr.set ?_ (.inr (Nat.le_refl _)) _) (.inl (.inr (.inl rfl))) _) (.inl (.inr (.inr rfl))) _
  exact ⟨Nat.le_of_lt lσ1,fun i hp hi=>g1' i (fun h=>hp (.inl h)) hi⟩
theorem wid0_row {tb':List (Int×V)} {k j:Int} {l:Look} (h:ascI tb' j=some (nodeV (lookput l (wid0 k)))):WidRow tb' (j,l):=by
 refine ⟨lookput l (wid0 k),h,look_wid l (wid0 k),?_⟩
 rw [look_at,if_neg (by decide +kernel),if_neg (by decide +kernel)]
 show (if Mine.S "Subtype"=Mine.S "T" then some (nameV (Mine.S "Widget")) else if Mine.S "Parent"=Mine.S "T" then some (refV k) else none)=none
 rw [if_neg (by decide +kernel),if_neg (by decide +kernel)]
theorem kids_loop {k:Int} {my:V} {S:Fl×Env'→Mem→Prop} (hc:1≠c) (f0:f≠0) (f1:f≠1) (fc:f≠c) (r:Nat):∀ (a:Int) (u v:V) (tb:List (Int×V)) (m:Nat) (ws:List V) (xs:List Int) (σ:Mem),
  ES σ c xs hs→σ[1]?=some (.id tb)→TB tb m→m+r<900→ws.length+r<900→σ[f]?=some (.list ws)→
  (∀ (new:List (Int×Look)) (u v:V) (tb':List (Int×V)) (xs':List Int) (σ':Mem),new.length=r→ES σ' c xs' hs→σ'[1]?=some (.id tb')→TB tb' (m+r)→(∀ j:Int,j≤m→ascI tb' j=ascI tb j)→NS (new.map (·.1)) m (m+r)→(∀ w∈new,WidRow tb' w)→σ'[f]?=some (.list (ws++new.map fun w=>refV w.1))→Fr (fun i=>i=0∨i=1∨i=f) σ σ'→S (.next,[.cell 0,shV,refV k,.cell c,my,.cell f,u,v]) σ')→
  T (loopS (exs (callF (n+4)) kidBody) (.one 6) (rangeInts r a) [.cell 0,shV,refV k,.cell c,my,.cell f,u,v]) σ S:=by
 induction r with
 | zero=>
  intro a u v tb m ws xs σ e h1 t hm hw hf q
  exact loop_nil (q [] u v tb xs σ rfl e h1 t (fun _ _=>rfl) (NS.nil m) (fun _ h=>(nomatch h)) (by rw [List.map_nil,List.append_nil];exact hf) (.refl _ σ))
 | succ r ih=>
  intro a u v tb m ws xs σ e h1 t hm hw hf q
  refine loop_cons rfl ?_
  refine kid_turn (u:=.int a) (v:=v) hc f0 f1 fc e h1 t (by lia) (by lia) hf fun l v' xs1 σ2 e2 h12 t2 hf2 fr=>?_
  refine t_next ?_
  refine ih (a+1) (.int a) v' _ (m+1) _ xs1 σ2 e2 h12 t2 (by lia) (by rw [List.length_append];show ws.length+1+r<900;lia) hf2 fun new u' v' tb' xs' σ' hn e' h1'' t' hj ns' hw' hf' fr'=>?_
  refine q ((((m:Int)+1),l)::new) u' v' tb' xs' σ' (by rw [List.length_cons,hn]) e' h1'' (by rw [Nat.add_assoc,Nat.add_comm 1 r] at t';exact t') (fun j hjm=>?_) (by rw [Nat.add_assoc,Nat.add_comm 1 r] at ns';exact ns'.cons) (fun w hw=>?_) (by rw [List.append_assoc] at hf';exact hf') (fr.trans fr')
  ·rw [hj j (by lia),ascI_sto,if_neg (by lia)]
  ·rcases List.mem_cons.mp hw with rfl|hw
   ·refine wid0_row (k:=k) ?_
    rw [hj _ (by lia),ascI_sto,if_pos rfl]
   ·exact hw' w hw
end
noncomputable def wK:List Str:=[Mine.S "Kids",Mine.S "Subtype",Mine.S "AP",Mine.S "AS"]
noncomputable def WRes (k:Int) (tb:List (Int×V)) (m:Nat) (ws:List (Int×Look)) (tb':List (Int×V)) (m':Nat) (hs':List (Str×V)):Prop:=
 (tb'=tb∧m'=m∧asc hs' (Mine.S "Kids")=none∧∃ l,WidOK hs' l∧((ws=[(k,l)]∧asc hs' (Mine.S "Subtype")=some (nameV (Mine.S "Widget")))∨(ws=[]∧asc hs' (Mine.S "Subtype")=none))) ∨
 (asc hs' (Mine.S "Kids")=some (.list (ws.map fun w=>refV w.1))∧ws≠[]∧NS (ws.map (·.1)) m m'∧∀ w∈ws,WidRow tb' w)
section
variable {n:Nat} {σ:Mem} {Q:V→Mem→Prop} {c m:Nat} {hs:List (Str×V)} {xs:List Int} {tb:List (Int×V)} {C:Calls}
theorem widgets_ok {k:Int} (hc:1≠c) (e:ES σ c xs hs) (h1:σ[1]?=some (.id tb)) (t:TB tb m) (hm:m<800) (hl:hs.length<800) (hK:asc hs (Mine.S "Kids")=none) (hS:asc hs (Mine.S "Subtype")=none)
  (q:∀ (ws:List (Int×Look)) (tb':List (Int×V)) (m':Nat) (hs':List (Str×V)) (xs':List Int) (σ':Mem),WRes k tb m ws tb' m' hs'→ES σ' c xs' hs'→σ'[1]?=some (.id tb')→TB tb' m'→(∀ j:Int,j≤m→ascI tb' j=ascI tb j)→m≤m'→m'≤m+3→ws.length≤3→(∀ s,s∉wK→asc hs' s=asc hs s)→(hs'.length≤hs.length+3∧(KN hs→KN hs'))→Fr (fun i=>i=0∨i=1∨i=c) σ σ'→Q (.list (ws.map fun w=>refV w.1)) σ') :
  T (callF (n+5) 39 [.cell 0,shV,refV k,.cell c]) σ Q:=by
 refine t_fun (f:=f_law_widgets) rfl rfl rfl ?_
 dsimp only [f_law_widgets]
 refine t_asg (t_call (t_glob rfl (t_cons (t_var rfl rfl (t_cons (t_int (t_nil (t_fnc ?_))))))))
 refine take_es (n:=n+3) (c:=c) e (by decide) fun d xs1 σ1 d1 d2 e1 g1=>?_
 have h11:σ1[1]?=some (.id tb):=(g1.kp 1 (by lia) hc (List.getElem?_eq_some_iff.mp h1).1).trans h1
 have fr1:Fr (fun i=>i=0∨i=1∨i=c) σ σ1:=Fr.of2 g1 (.inl rfl) (.inl (.inr (.inr rfl)))
 refine t_ifs (t_cmp (t_var rfl rfl (t_int ?_)))
 refine T.run (a:=decide (d=0)) (σ':=σ1) rfl ?_
 refine ⟨_,rfl,?_⟩
 by_cases hd:d=0
 ·rw [decide_eq_true hd]
  refine t_expr (t_call (t_glob rfl (t_cons (t_var rfl rfl (t_cons (t_var rfl rfl (t_nil (t_fnc ?_))))))))
  refine look_ok (n:=n+1) e1 (by lia) fun l xs2 σ2 e2 g2=>?_
  have hl2:=look_len l hs
  have h12:σ2[1]?=some (.id tb):=(g2.kp 1 (by lia) hc (List.getElem?_eq_some_iff.mp h11).1).trans h11
  have fr2:Fr (fun i=>i=0∨i=1∨i=c) σ σ2:=fr1.trans (Fr.of2 g2 (.inl rfl) (.inl (.inr (.inr rfl))))
  have oth:∀ s,s∉wK→asc (lookput l hs) s=asc hs s:=fun s h=>by
   unfold wK at h
   simp only [List.mem_cons,List.not_mem_nil,or_false,not_or] at h
   rw [look_at,if_neg (Ne.symm h.2.2.2),if_neg (Ne.symm h.2.2.1)]
  have oK:asc (lookput l hs) (Mine.S "Kids")=none:=by rw [look_at,if_neg (by decide +kernel),if_neg (by decide +kernel)];exact hK
  have oS:asc (lookput l hs) (Mine.S "Subtype")=none:=by rw [look_at,if_neg (by decide +kernel),if_neg (by decide +kernel)];exact hS
  refine t_ifs (t_cmp (t_call (t_glob rfl (t_cons (t_var rfl rfl (t_cons (t_int (t_nil (t_fnc ?_)))))))))
  refine take_es (n:=n+3) (c:=c) e2 (by decide) fun b xs3 σ3 b1 b2 e3 g3=>?_
  have h13:σ3[1]?=some (.id tb):=(g3.kp 1 (by lia) hc (List.getElem?_eq_some_iff.mp h12).1).trans h12
  have fr3:Fr (fun i=>i=0∨i=1∨i=c) σ σ3:=fr2.trans (Fr.of2 g3 (.inl rfl) (.inl (.inr (.inr rfl))))
  refine t_int ?_
  refine T.run (a:=decide (b=0)) (σ':=σ3) rfl ?_
  refine ⟨_,rfl,?_⟩
  by_cases hb:b=0
  ·rw [decide_eq_true hb]
   refine t_put (t_call (t_glob rfl (t_cons (t_str (t_nil ?_)))))
   refine t_clsc (t_new (f:=i_Name) rfl rfl ?_)
   dsimp only [i_Name]
   ext
   refine put_es e3 (by unfold cap;lia) fun e4 g4=>?_
   refine t_end (t_cont ?_)
   refine t_ret (t_ife (t_cmp (t_str (t_var rfl rfl (in_sd e4.hc ?_)))))
   have hs4:asc (optput (lookput l hs) (Mine.S "Subtype") (some (nameV (Mine.S "Widget")))) (Mine.S "Subtype")=some (nameV (Mine.S "Widget")):=by rw [asc_optput,if_pos rfl];rfl
   rw [hs4]
   refine ⟨true,rfl,t_list (t_cons (t_var rfl rfl (t_nil (mkl0 (show 1<cap by decide) ?_))))⟩
   refine t_contr ?_
   have hw:WidOK (optput (lookput l hs) (Mine.S "Subtype") (some (nameV (Mine.S "Widget")))) l:=⟨by rw [asc_optput,if_neg (by decide +kernel)];exact (look_wid l hs).ap,by rw [asc_optput,if_neg (by decide +kernel)];exact (look_wid l hs).as⟩
   refine q [(k,l)] tb m _ xs3 _ (.inl ⟨rfl,rfl,by rw [asc_optput,if_neg (by decide +kernel)];exact oK,l,hw,.inl ⟨rfl,hs4⟩⟩) e4 ((at_ne (Ne.symm hc)).trans h13) t (fun _ _=>rfl) (Nat.le_refl _) (by lia) (by show 1≤3;lia) (fun s h=>?_) ⟨Nat.le_trans (optput_len _ _ _) (by lia),fun h=>h.look.optput⟩ (fr3.trans (Fr.of2 g4 (.inl rfl) (.inl (.inr (.inr rfl)))))
   rw [asc_optput,if_neg (fun e=>h (by rw [← e];simp [wK]))]
   exact oth s h
  ·rw [decide_eq_false hb]
   refine t_end (t_cont ?_)
   refine t_ret (t_ife (t_cmp (t_str (t_var rfl rfl (in_sd e3.hc ?_)))))
   rw [oS]
   refine ⟨false,rfl,t_list (t_nil (mkl0 (show 0<cap by decide) ?_))⟩
   refine t_contr ?_
   exact q [] tb m _ xs3 _ (.inl ⟨rfl,rfl,oK,l,look_wid l hs,.inr ⟨rfl,oS⟩⟩) e3 h13 t (fun _ _=>rfl) (Nat.le_refl _) (by lia) (Nat.zero_le _) oth ⟨by lia,fun h=>h.look⟩ fr3
 ·rw [decide_eq_false hd]
  refine t_end (t_cont ?_)
  obtain ⟨r,hr⟩:∃ r:Nat,d=r:=⟨d.toNat,by lia⟩
  subst hr
  have hr3:r≤3:=by have:(r:Int)<4:=d2;lia
  refine t_asg (t_list (t_nil (mkl1 (show 0<cap by decide) ?_)))
  have lc:c<σ1.length:=(List.getElem?_eq_some_iff.mp e1.hc).1
  have l1:1<σ1.length:=(List.getElem?_eq_some_iff.mp h11).1
  have l0:0<σ1.length:=(List.getElem?_eq_some_iff.mp e1.hp).1
  have env:((([V.cell 0,shV,refV k,V.cell c]++List.replicate ([Mine.S "pool",Mine.S "shelf",Mine.S "home",Mine.S "head",Mine.S "many",Mine.S "found",Mine.S "turn",Mine.S "widget"].length-4) V.unb).set 4 (V.int (r:Int))).set 5 (V.cell σ1.length))=[V.cell 0,shV,refV k,V.cell c,V.int (r:Int),V.cell σ1.length,.unb,.unb]:=rfl
  dsimp only [kAsg]
  rw [env]
  refine t_fors (t_call (t_glob rfl (t_cons (t_var rfl rfl (t_nil (t_bi ?_))))))
  refine rng_call (by lia) ?_
  refine for_rng (by lia) ?_
  have e2:ES (σ1++[.list []]) c xs1 hs:=⟨e1.c0,(List.getElem?_append_left l0).trans e1.hp,e1.nn,(List.getElem?_append_left lc).trans e1.hc⟩
  rw [Int.toNat_natCast]
  refine kids_loop (f:=σ1.length) hc (by lia) (by lia) (by lia) r 0 .unb .unb tb m [] xs1 _ e2 ((List.getElem?_append_left l1).trans h11) t (by lia) (by show 0+r<900;lia) (at_new _ _) fun new u v tb' xs' σ' hn e' h1' t' hj ns hw hf fr=>?_
  refine t_cont (t_put (t_make (t_var rfl rfl ?_)))
  have mk:∀ Q:V→Mem→Prop,Q (.list ([]++new.map fun w=>refV w.1)) σ'→T (makeV .listOf 0 (.cell σ1.length)) σ' Q:=fun Q hq=>T.bnd (m:=rdList (.cell σ1.length)) (.run (rd_cell hf) (mkl0 (by rw [List.nil_append,List.length_map];unfold cap;lia) hq))
  refine mk _ ?_
  ext
  refine put_es e' (by unfold cap;lia) fun e3 g3=>?_
  have hcl:c<σ'.length:=(List.getElem?_eq_some_iff.mp e'.hc).1
  have hf3:(σ'.set c (.sd (optput hs (Mine.S "Kids") (some (.list ([]++new.map fun w=>refV w.1))))))[σ1.length]?=some (.list ([]++new.map fun w=>refV w.1)):=(at_ne (by lia)).trans hf
  refine t_ret (t_frz (t_var rfl rfl ?_))
  refine frz_list hf3 ?_
  have e4:=e3
  refine q new tb' (m+r) (optput hs (Mine.S "Kids") (some (.list ([]++new.map fun w=>refV w.1)))) xs' _ (.inr ⟨by rw [asc_optput,if_pos rfl];rfl,fun h=>?_,ns,hw⟩) ?_ ((at_ne (by lia)).trans ((at_ne (Ne.symm hc)).trans h1')) t' hj (by lia) (by lia) (by lia) (fun s h=>?_) ⟨Nat.le_trans (optput_len _ _ _) (by lia),fun h=>h.optput⟩ ?_
  ·rw [h] at hn
   have:r=0:=hn.symm
   exact hd (by lia)
  ·exact ⟨e3.c0,(at_ne (by lia)).trans e3.hp,e3.nn,(at_ne (by lia)).trans e3.hc⟩
  ·rw [asc_optput,if_neg (fun e=>h (by rw [← e];simp [wK]))]
  ·refine Fr.set ?_ (.inr (fr1.len)) _
   refine Fr.set ?_ (.inl (.inr (.inr rfl))) _
   have hlen:=fr.len
   rw [List.length_append] at hlen
   have h1l:=fr1.len
   exact ⟨by lia,fun i hp hi=>(fr.kp i (fun h=>by
    rcases h with h|h|h
    ·exact hp (.inl h)
    ·exact hp (.inr (.inl h))
    ·lia) (by rw [List.length_append];lia)).trans ((List.getElem?_append_left (by lia)).trans (fr1.kp i hp hi))⟩
end
noncomputable abbrev nE (up:Option Int) (nm:V) (gs:List (Str×V)) (d:Int) (v8 v9 v10 v11 v12 v13 v14 v15 v16:V):Env':=[.cell 0,shV,upV up,nm,.dict gs,.int d,.cell 3,.cell 4,v8,v9,v10,v11,v12,v13,v14,v15,v16]
inductive NM (b:Nat):V→Prop
 | none:NM b .none
 | str (s:Str):s.cps.size≤b→NM b (.str s)
theorem NM.noU {b:Nat} {v:V} (h:NM b v):noU v=true:=by cases h <;> rfl
theorem NM.wide {b b':Nat} {v:V} (h:NM b v) (hb:b≤b'):NM b' v:=by
 cases h with
 | none=>exact .none
 | str s hs=>exact .str s (Nat.le_trans hs hb)
theorem app_size (x y:Str):(x++y).cps.size=x.cps.size+y.cps.size:=Array.size_append
inductive PT:Str→List UInt8→Prop
 | a:PT (Mine.S "a") [97]
 | b:PT (Mine.S "b") [98]
 | c:PT (Mine.S "c") [99]
theorem PT.size {s:Str} {b:List UInt8} (h:PT s b):s.cps.size=1:=by cases h <;> decide +kernel
theorem PT.ok {s:Str} {b:List UInt8} (h:PT s b):b∈byStrs:=by cases h <;> simp [byStrs]
section
variable {n:Nat} {σ:Mem} {S:Fl×Env'→Mem→Prop} {c:Nat} {gs hs:List (Str×V)} {xs:List Int} {ss:MSs} {up:Option Int} {nm:V} {d:Int}
theorem node_T {s:Str} {b:List UInt8} {v8 v11 v12 v13 v14 v15 v16:V} (hsb:PT s b) (e:ES σ c xs hs) (hl:hs.length<900)
  (q:∀ (t:Option (List UInt8)) (xs':List Int) (σ':Mem),(∀ x,t=some x→x∈byStrs)→(0<d→t≠none)→ES σ' c xs' (optput hs (Mine.S "T") (t.map strV))→F2 c σ σ'→T (exs (callF (n+2)) ss (nE up nm gs d v8 (.cell c) (.str s) v11 v12 v13 v14 v15 v16)) σ' S) :
  T (exs (callF (n+2)) (.cons (.ifs (.or (.cons (.cmp .gt (.var 5) (.int 0)) (.cons (.cmp .lt (.call (.glob 55) (.cons (.var 0) (.cons (.int 5) .nil))) (.int 4)) .nil)))
  (.cons (.put (.var 9) (.str (Mine.S "T")) (.call (.glob 1) (.cons (.call (.glob 19) (.cons (.list false (.cons (.call (.glob 17) (.cons (.var 10) .nil)) .nil)) .nil)) .nil))) .nil) .nil) ss) (nE up nm gs d v8 (.cell c) (.str s) v11 v12 v13 v14 v15 v16)) σ S:=by
 have yes:∀ (xs':List Int) (σ':Mem),ES σ' c xs' hs→F2 c σ σ'→T (exs (callF (n+2)) (.cons (.put (.var 9) (.str (Mine.S "T")) (.call (.glob 1) (.cons (.call (.glob 19) (.cons (.list false (.cons (.call (.glob 17) (.cons (.var 10) .nil)) .nil)) .nil)) .nil))) .nil) (nE up nm gs d v8 (.cell c) (.str s) v11 v12 v13 v14 v15 v16)) σ' fun r σ=>T (cont (callF (n+2)) ss r) σ S:=by
  intro xs' σ' e' f'
  refine t_put (t_call (t_glob rfl (t_cons (t_call (t_glob rfl (t_cons (t_list (t_cons (t_call (t_glob rfl (t_cons (t_var rfl rfl (t_nil (t_bi ?_))))))))))))))
  have od:∀ Q:V→Mem→Prop,(∀ o,b=[UInt8.ofNat o]→o<256→Q (.int (o:Int)) σ')→T (biCall .ord [.str s]) σ' Q:=by
   intro Q hQ
   cases hsb with
   | a=>exact .run (a:=.int 97) (σ':=σ') rfl (hQ 97 rfl (by decide))
   | b=>exact .run (a:=.int 98) (σ':=σ') rfl (hQ 98 rfl (by decide))
   | c=>exact .run (a:=.int 99) (σ':=σ') rfl (hQ 99 rfl (by decide))
  refine od _ fun o ho hlt=>?_
  refine t_nil (mkl0 (show 1<cap by decide) (t_nil (t_bi ?_)))
  refine T.run (a:=.byts b) (σ':=σ') ?_ ?_
  ·show (if 1<cap then bnd (lft (if (0:Int)≤(o:Int)∧(o:Int)<256 then some [UInt8.ofNat ((o:Int)).toNat] else Option.none)) fun b=>Mine.ret (V.byts b) else fail) σ'=_
   rw [if_pos (show 1<cap by decide),if_pos ⟨by lia,by lia⟩,Int.toNat_natCast,ho]
   rfl
  refine t_nil (t_clsc (t_new (f:=i_String) rfl rfl ?_))
  dsimp only [i_String]
  ext
  refine put_es e' (by unfold cap;lia) fun e3 f3=>?_
  refine t_end (t_cont ?_)
  exact q (some b) xs' _ (fun x h=>by cases h;exact hsb.ok) (fun _ h=>(nomatch h)) e3 (f'.trans f3)
 refine t_ifs (t_or (t_or_cons (t_cmp (t_var rfl rfl (t_int ?_)))))
 refine T.run (a:=decide (0<d)) (σ':=σ) rfl ?_
 refine ⟨_,rfl,?_⟩
 by_cases hd:0<d
 ·rw [decide_eq_true hd]
  exact ⟨true,rfl,yes xs σ e (.refl c σ)⟩
 rw [decide_eq_false hd]
 refine t_or_cons (t_cmp (t_call (t_glob rfl (t_cons (t_var rfl rfl (t_cons (t_int (t_nil (t_fnc ?_)))))))))
 refine take_es (n:=n+1) (c:=c) e (by decide) fun k xs' σ' h1 h2 e' f'=>?_
 refine t_int ?_
 refine T.run (a:=decide (k<4)) (σ':=σ') rfl ?_
 refine ⟨_,rfl,?_⟩
 by_cases hk:k<4
 ·rw [decide_eq_true hk]
  exact ⟨true,rfl,yes xs' σ' e' f'⟩
 ·rw [decide_eq_false hk]
  refine t_or_nil ⟨false,rfl,?_⟩
  exact t_end (t_cont (q none xs' σ' (fun _ h=>(nomatch h)) (fun h=>absurd h hd) e' f'))
theorem node_full {C:Calls} {s:Str} {B:Nat} {v8 v11 v12 v13 v14 v15 v16:V} (hs1:s.cps.size=1) (hn:NM B nm) (hB:B<1000) (hc:σ[c]?=some (.sd hs)) (q:∀ full:V,NM (B+2) full→T (exs C ss (nE up nm gs d v8 (.cell c) (.str s) full v12 v13 v14 v15 v16)) σ S) :
  T (exs C (.cons (.asg (.one 11) (.ife (.cmp .nin (.str (Mine.S "T")) (.var 9)) (.var 3) (.ife (.cmp .is (.var 3) .none) (.var 10) (.bin .add false (.bin .add false (.var 3) (.str (Mine.S "."))) (.var 10))))) ss) (nE up nm gs d v8 (.cell c) (.str s) v11 v12 v13 v14 v15 v16)) σ S:=by
 have hnu:=hn.noU
 refine t_asg (t_ife (t_cmp (t_str (t_var rfl rfl (nin_sd hc ?_)))))
 refine ⟨_,rfl,?_⟩
 cases (asc hs (Mine.S "T")).isSome with
 | false=>exact t_var rfl hnu (q nm (hn.wide (by lia)))
 | true=>
  refine t_ife (t_cmp (t_var rfl hnu (t_none ?_)))
  cases hn with
  | none=>
   refine T.run (a:=true) (σ':=σ) rfl ?_
   exact ⟨true,rfl,t_var rfl rfl (q (.str s) (.str s (by lia)))⟩
  | str m hm=>
   refine T.run (a:=false) (σ':=σ) rfl ?_
   refine ⟨false,rfl,t_bin (t_bin (t_var rfl rfl (t_str ?_)))⟩
   have d1:(Mine.S ".").cps.size=1:=by decide +kernel
   refine add_str (by rw [d1];unfold cap;lia) ?_
   have d2:(m++Mine.S ".").cps.size=m.cps.size+1:=by rw [app_size,d1]
   refine t_var rfl rfl (add_str (by rw [d2,hs1];unfold cap;lia) ?_)
   refine q _ (.str _ ?_)
   rw [app_size,d2,hs1];lia
theorem node_P {C:Calls} {v8 v10 v11 v12 v13 v14 v15 v16:V} (e:ES σ c xs hs) (hl:hs.length<900) (q:∀ σ',ES σ' c xs (optput hs (Mine.S "Parent") (up.map refV))→F2 c σ σ'→T (exs C ss (nE up nm gs d v8 (.cell c) v10 v11 v12 v13 v14 v15 v16)) σ' S) :
  T (exs C (.cons (.ifs (.cmp .isnt (.var 2) .none) (.cons (.put (.var 9) (.str (Mine.S "Parent")) (.var 2)) .nil) .nil) ss) (nE up nm gs d v8 (.cell c) v10 v11 v12 v13 v14 v15 v16)) σ S:=by
 cases up with
 | none=>
  refine t_ifs (t_cmp (t_var rfl rfl (t_none ?_)))
  refine T.run (a:=false) (σ':=σ) rfl ?_
  exact ⟨_,rfl,t_end (t_cont (q σ e (.refl c σ)))⟩
 | some m=>
  refine t_ifs (t_cmp (t_var rfl rfl (t_none ?_)))
  refine T.run (a:=true) (σ':=σ) rfl ?_
  refine ⟨_,rfl,t_put (t_var rfl rfl ?_)⟩
  ext
  refine put_es e (by unfold cap;lia) fun e3 f3=>?_
  exact t_end (t_cont (q _ e3 f3))
theorem whole_loop {C:Calls} {w:Nat} {v8 v10 v11 v14 v15 v16:V} (hcw:c≠w):∀ (ks:List Str) (ws:List (Str×V)) (v13:V) (σ:Mem),σ[c]?=some (.lent hs)→σ[w]?=some (.sd ws)→ws.length+ks.length<900→(∀ k∈ks,(asc hs k).isSome=true)→
  (∀ (ws':List (Str×V)) (v13:V),(∀ s,asc ws' s=if s∈ks then asc hs s else asc ws s)→(σ.set w (.sd ws'))[c]?=some (.lent hs)→S (.next,nE up nm gs d v8 (.cell c) v10 v11 (.cell w) v13 v14 v15 v16) (σ.set w (.sd ws')))→
  T (loopS (exs C (.cons (.put (.var 12) (.var 13) (.sub (.var 9) (.var 13))) .nil)) (.one 13) (ks.map V.str) (nE up nm gs d v8 (.cell c) v10 v11 (.cell w) v13 v14 v15 v16)) σ S:=by
 intro ks
 induction ks with
 | nil=>
  intro ws v13 σ hc hw hl hk q
  refine loop_nil ?_
  have:=q ws v13 (fun s=>by rw [if_neg List.not_mem_nil]) (by rw [set_same hw];exact hc)
  rw [set_same hw] at this
  exact this
 | cons k ks ih=>
  intro ws v13 σ hc hw hl hk q
  rw [List.length_cons] at hl
  refine loop_cons rfl ?_
  obtain ⟨v,hv⟩:=Option.isSome_iff_exists.mp (hk k (.head _))
  refine t_put (t_sub (t_var rfl rfl (t_var rfl rfl ?_)))
  have rd:rdDict (.cell c) σ=some (hs,σ):=by
   show (match σ[c]? with
    | some (.sd es)=>some (es,σ)
    | some (.lent es)=>some (es,σ)
    | _=>Option.none)=_
   rw [hc]
  refine T.bnd (m:=rdDict (.cell c)) (.run rd (.lft hv ?_))
  ext
  refine set_sd hw (by unfold cap;lia) ?_
  refine t_end (t_next ?_)
  have hlen:=sto_len k v ws
  refine ih (sto ws k v) (.str k) _ ((at_ne (Ne.symm hcw)).trans hc) (at_set hw) (by lia) (fun x hx=>hk x (.tail _ hx)) fun ws' v13' hw' hc'=>?_
  rw [List.set_set] at hc' ⊢
  refine q ws' v13' (fun s=>?_) hc'
  rw [hw' s,asc_sto]
  by_cases h1:s∈ks
  ·rw [if_pos h1,if_pos (List.mem_cons_of_mem _ h1)]
  ·rw [if_neg h1]
   by_cases h2:k=s
   ·subst h2
    rw [if_pos rfl,if_pos (.head _)]
    exact hv.symm
   ·rw [if_neg h2,if_neg]
    intro h3
    rcases List.mem_cons.mp h3 with h3|h3
    ·exact h2 (Eq.symm h3)
    ·exact h1 h3
end
theorem leaf_fr {tb tb':List (Int×V)} {need up parts gv k L es ns} (hj:∀ j∈ns,ascI tb' j=ascI tb j) (h:LeafOK tb need up parts gv k L es ns):LeafOK tb' need up parts gv k L es ns:=by
 have hk:k∈ns:=by
  rcases h.kids with ⟨_,e,_⟩|⟨_,e,_⟩ <;> rw [e] <;> exact .head _
 have hw:∀ w∈L.ws,w.1∈ns:=by
  intro w hw
  rcases h.kids with ⟨_,e,h3⟩|⟨_,e,_⟩
  ·rcases h3 with ⟨e3,_⟩|⟨e3,_⟩
   ·have:w.1∈L.ws.map (·.1):=List.mem_map.mpr ⟨w,hw,rfl⟩
    rw [e3] at this
    rw [e];exact this
   ·rw [e3] at hw;cases hw
  ·rw [e];exact List.mem_cons_of_mem _ (List.mem_map.mpr ⟨w,hw,rfl⟩)
 refine { h with row:=(hj k hk).trans h.row,wid:=fun w hw'=>?_,kids:=?_ }
 ·obtain ⟨we,h1,h2⟩:=h.wid w hw'
  exact ⟨we,(hj _ (hw w hw')).trans h1,h2⟩
 ·rcases h.kids with h1|⟨h1,h2,h3,h4⟩
  ·exact .inl h1
  ·refine .inr ⟨h1,h2,h3,fun w hw'=>?_⟩
   obtain ⟨we,h5,h6⟩:=h4 w hw'
   exact ⟨we,(hj _ (hw w hw')).trans h5,h6⟩
theorem forest_fr {P P':Int→List Leaf→List Grp→List Int→Nat→Prop} {ks rs gs ns c} (hp:∀ k r g n c,(∀ j∈n,j∈ns)→P k r g n c→P' k r g n c) (h:Forest P ks rs gs ns c):Forest P' ks rs gs ns c:=
 h.ind (G:=fun ks rs gs n c=>(∀ j∈n,j∈ns)→Forest P' ks rs gs n c) (fun _=>.mk0) (fun k ks r1 g1 n1 c1 r2 g2 n2 c2 h1 _ ih hn=>.mk1 (hp _ _ _ _ _ (fun j hj=>hn j (List.mem_append_left _ hj)) h1) (ih fun j hj=>hn j (List.mem_append_right _ hj))) fun _ h=>h
theorem leaf_tree {tb:List (Int×V)} {l need up parts gv k L es ns} (h:LeafOK tb need up parts gv k L es ns):Tree tb l need up parts gv k [L] [] ns 1:=by
 cases l with
 | zero=>exact ⟨L,es,h,rfl,rfl,rfl⟩
 | succ l=>exact .inl ⟨L,es,h,rfl,rfl,rfl⟩
theorem tree_fr {tb tb':List (Int×V)} {l need up parts gv k rs gs ns c} (hj:∀ j∈ns,ascI tb' j=ascI tb j) (h:Tree tb l need up parts gv k rs gs ns c):Tree tb' l need up parts gv k rs gs ns c:=
 h.ind (G:=fun l need up parts gv k rs gs ns c=>(∀ j∈ns,ascI tb' j=ascI tb j)→Tree tb' l need up parts gv k rs gs ns c) (fun l need up parts gv k L es ns h hj=>leaf_tree (leaf_fr hj h))
  (fun l need up parts gv k es p t ks rs gs ns c hG hf hj=>.inr ⟨es,p,t,ks,gs,ns,c,{ hG with row:=(hj k (.head _)).trans hG.row },rfl,rfl,rfl,forest_fr (fun k r g n c hn ht=>ht fun j hj'=>hj j (List.mem_cons_of_mem _ (hn j hj'))) hf⟩) hj
noncomputable def most:Nat→Nat
 | 0=>4
 | l+1=>2*most l+1
structure LS (σ:Mem) (xs:List Int) (tb:List (Int×V)) (m:Nat) (R G:List V):Prop where
 hp:σ[0]?=some (poolO xs)
 nn:NN xs
 h1:σ[1]?=some (.id tb)
 t:TB tb m
 hr:σ[3]?=some (.list R)
 hg:σ[4]?=some (.list G)
 lr:R.length≤m
 lg:G.length≤m
noncomputable abbrev P4:Nat→Prop:=fun i=>i=0∨i=1∨i=3∨i=4
structure NodeIn (up:Option Int) (nm:V) (gs:List (Str×V)) (i:Info) (need:Bool) (l:Nat) (d:Int):Prop where
 nm:∃ B,NM B nm∧B+2*l<900
 pos:∀ u,up=some u→1≤u
 gl:gs.length<500
 info:InfoOK (asc gs) i
 need:need=true→0<d
noncomputable def NodeSpec (C:Calls) (l:Nat) (d:Int):Prop:=∀ (up:Option Int) (nm:V) (gs:List (Str×V)) (i:Info) (need:Bool) (parts:List Str) (xs:List Int) (tb:List (Int×V)) (m:Nat) (R G:List V) (σ:Mem) (Q:V→Mem→Prop),
 NodeIn up nm gs i need l d→LS σ xs tb m R G→m+most l<300→
 (∀ (rs:List Leaf) (gs':List Grp) (ns:List Int) (c:Nat) (tb':List (Int×V)) (m':Nat) (xs':List Int) (σ':Mem),Tree tb' l need up parts (asc gs) ((m:Int)+1) rs gs' ns c→NS ns m m'→m'≤m+most l→(∀ L∈rs,InfoOK (asc L.wh) L.i)→LS σ' xs' tb' m' (R++rs.map rowV) (G++gs'.map grpV)→(∀ j:Int,j≤m→ascI tb' j=ascI tb j)→Fr P4 σ σ'→Q (refV ((m:Int)+1)) σ')→
 T (C 40 [.cell 0,shV,upV up,nm,.dict gs,.int d,.cell 3,.cell 4]) σ Q
theorem kidnodes {C:Calls} {l:Nat} {d:Int} (sp:NodeSpec C l d) {up:Option Int} {nm:V} {gs:List (Str×V)} {i:Info} {need:Bool} {parts:List Str} (hin:NodeIn up nm gs i need l d) {el:Env'→M V} {j:Nat} {ρ:Env'}
  (hel:∀ (v:V) (σ:Mem) (Q:V→Mem→Prop),T (C 40 [.cell 0,shV,upV up,nm,.dict gs,.int d,.cell 3,.cell 4]) σ Q→T (el (ρ.set j v)) σ Q) (r:Nat):∀ (a:Int) (xs:List Int) (tb:List (Int×V)) (m:Nat) (R G:List V) (σ:Mem) (Qs:List V→Mem→Prop),LS σ xs tb m R G→m+r*most l<300→
  (∀ (ks:List Int) (rs:List Leaf) (gs':List Grp) (ns:List Int) (c:Nat) (tb':List (Int×V)) (m':Nat) (xs':List Int) (σ':Mem),ks.length=r→Forest (fun k r g n c=>Tree tb' l need up parts (asc gs) k r g n c) ks rs gs' ns c→NS ns m m'→m'≤m+r*most l→(∀ L∈rs,InfoOK (asc L.wh) L.i)→LS σ' xs' tb' m' (R++rs.map rowV) (G++gs'.map grpV)→(∀ j:Int,j≤m→ascI tb' j=ascI tb j)→Fr P4 σ σ'→Qs (ks.map refV) σ')→
  T (loopC (cnd C .nil) el (.one j) ρ (rangeInts r a)) σ Qs:=by
 induction r with
 | zero=>
  intro a xs tb m R G σ Qs h hm q
  exact comp_nil (q [] [] [] [] 0 tb m xs σ rfl ⟨rfl,rfl,rfl,rfl⟩ (NS.nil m) (by lia) (fun _ h=>(nomatch h)) (by rw [List.map_nil,List.map_nil,List.append_nil,List.append_nil];exact h) (fun _ _=>rfl) (.refl _ σ))
 | succ r ih=>
  intro a xs tb m R G σ Qs h hm q
  rw [Nat.succ_mul] at hm
  refine comp_cons rfl (cnd_nil (hel _ σ _ ?_))
  refine sp up nm gs i need parts xs tb m R G σ _ hin h (by lia) fun rs gs1 ns c tb1 m1 xs1 σ1 ht hns hm1 hi h1 hj hfr=>?_
  refine ih (a+1) xs1 tb1 m1 _ _ σ1 _ h1 (by lia) fun ks rs2 gs2 ns2 c2 tb2 m2 xs2 σ2 hk hf2 hns2 hm2 hi2 h2 hj2 hfr2=>?_
  refine q (((m:Int)+1)::ks) (rs++rs2) (gs1++gs2) (ns++ns2) (c+c2) tb2 m2 xs2 σ2 (by rw [List.length_cons,hk]) ⟨rs,gs1,ns,c,rs2,gs2,ns2,c2,tree_fr (fun j hjn=>hj2 j (hns.mem j hjn).2) ht,hf2,rfl,rfl,rfl,rfl⟩ (hns.append hns2) (by rw [Nat.succ_mul];lia) (fun L hL=>?_) (by rw [List.map_append,List.map_append,← List.append_assoc,← List.append_assoc];exact h2) (fun j hjm=>?_) (hfr.trans hfr2)
  ·exact (List.mem_append.mp hL).elim (hi L) (hi2 L)
  ·have hm01:m≤m1:=by have:=hns.len;lia
   rw [hj2 j (by lia),hj j hjm]
theorem comp_filter3 {C:Calls} {σ:Mem} {β:Type} {ρ:Env'} {el:Env'→M V} {cs:MEs} {j:Nat} {enc f:β→V} {p:β→Bool}:∀ {ws:List β} {Qs:List V→Mem→Prop},(∀ w∈ws,∀ B:Bool→Mem→Prop,B (p w) σ→T (cnd C cs (ρ.set j (enc w))) σ B)→(∀ w∈ws,p w=true→∀ Q:V→Mem→Prop,Q (f w) σ→T (el (ρ.set j (enc w))) σ Q)→Qs ((ws.filter p).map f) σ→T (loopC (cnd C cs) el (.one j) ρ (ws.map enc)) σ Qs
 | [],_,_,_,q=>comp_nil q
 | w::ws,Qs,hc,he,q=>by
  refine comp_cons rfl (hc w (.head _) _ ?_)
  rw [List.filter_cons] at q
  cases hp:p w with
  | true=>
   rw [hp,if_pos rfl] at q
   exact he w (.head _) hp _ (comp_filter3 (ws:=ws) (fun y hy=>hc y (.tail _ hy)) (fun y hy=>he y (.tail _ hy)) q)
  | false=>
   rw [hp,if_neg (by decide)] at q
   exact comp_filter3 (ws:=ws) (fun y hy=>hc y (.tail _ hy)) (fun y hy=>he y (.tail _ hy)) q
theorem pairs_of {v:Str→V}:∀ ks:List Str,pairsS (ks.map fun s=>V.tup [.str s,v s])=some (ks.map fun s=>(s,v s))
 | []=>rfl
 | k::ks=>by
  show ((pairsS (ks.map fun s=>V.tup [.str s,v s])).bind fun l=>some ((k,v k)::l))=_
  rw [pairs_of ks];rfl
theorem asc_all {v:Str→V} (s:Str):∀ (ks:List Str) (acc:List (Str×V)),asc (stoAll acc (ks.map fun s=>(s,v s))) s=if s∈ks then some (v s) else asc acc s
 | [],acc=>by rw [if_neg List.not_mem_nil];rfl
 | k::ks,acc=>by
  show asc (stoAll (sto acc k (v k)) (ks.map fun s=>(s,v s))) s=_
  rw [asc_all s ks,asc_sto]
  by_cases h1:s∈ks
  ·rw [if_pos h1,if_pos (List.mem_cons_of_mem _ h1)]
  ·rw [if_neg h1]
   by_cases h2:k=s
   ·subst h2
    rw [if_pos rfl,if_pos (.head _)]
   ·rw [if_neg h2,if_neg]
    intro h3
    rcases List.mem_cons.mp h3 with h3|h3
    ·exact h2 (Eq.symm h3)
    ·exact h1 h3
theorem all_len {v:Str→V}:∀ (ks:List Str) (acc:List (Str×V)),(stoAll acc (ks.map fun s=>(s,v s))).length≤acc.length+ks.length
 | [],acc=>Nat.le_refl _
 | k::ks,acc=>by
  have h1:=all_len (v:=v) ks (sto acc k (v k))
  have h2:=sto_len k (v k) acc
  show (stoAll (sto acc k (v k)) (ks.map fun s=>(s,v s))).length≤_
  rw [List.length_cons];lia
noncomputable abbrev P5 (N:Nat):Nat→Prop:=fun i=>i=0∨i=1∨i=3∨i=4∨N≤i
structure NB (N:Nat) (σ0 σ:Mem) (c:Nat) (xs:List Int) (hs:List (Str×V)) (tb:List (Int×V)) (R G:List V):Prop where
 e:ES σ c xs hs
 h1:σ[1]?=some (.id tb)
 hr:σ[3]?=some (.list R)
 hg:σ[4]?=some (.list G)
 c5:4<c
 cN:N≤c
 fr:Fr (P5 N) σ0 σ
theorem at_lt {σ:Mem} {i:Nat} {o:Ob} (h:σ[i]?=some o):i<σ.length:=(List.getElem?_eq_some_iff.mp h).1
theorem NB.f2 {N:Nat} {σ0 σ σ':Mem} {c:Nat} {xs xs':List Int} {hs hs':List (Str×V)} {tb:List (Int×V)} {R G:List V} (b:NB N σ0 σ c xs hs tb R G) (e':ES σ' c xs' hs') (f:F2 c σ σ'):NB N σ0 σ' c xs' hs' tb R G:=
 have h5:=b.c5
 ⟨e',(f.kp 1 (by lia) (by lia) (at_lt b.h1)).trans b.h1,(f.kp 3 (by lia) (by lia) (at_lt b.hr)).trans b.hr,(f.kp 4 (by lia) (by lia) (at_lt b.hg)).trans b.hg,b.c5,b.cN,b.fr.trans (Fr.of2 f (.inl rfl) (.inl (.inr (.inr (.inr (.inr b.cN))))))⟩
theorem asc_iff {s:Str}:∀ es:List (Str×V),(asc es s).isSome=true↔s∈es.map (·.1)
 | []=>by simp [asc]
 | (j,v)::es=>by
  show (if j=s then some v else asc es s).isSome=true↔_
  by_cases h:j=s
  ·rw [if_pos h];simp [h]
  ·rw [if_neg h,asc_iff es];simp [Ne.symm h]
theorem dictof1 {σ:Mem} {es:List (Str×V)} {Q:V→Mem→Prop} (hl:es.length<cap) (q:Q (.cell σ.length) (σ++[.sd es])):T (makeV .dictOf 1 (.dict es)) σ Q:=by
 refine .run (a:=.cell σ.length) (σ':=σ++[.sd es]) ?_ q
 show (if es.length<cap then mkD 1 es else fail) σ=_
 rw [if_pos hl];rfl
section
variable {n N c:Nat} {σ0 σ:Mem} {Q:V→Mem→Prop} {S:Fl×Env'→Mem→Prop} {gs hs he:List (Str×V)} {xs:List Int} {ss:MSs} {up:Option Int} {nm:V} {d:Int} {tb:List (Int×V)} {R G:List V}
theorem part_ok {ρ:Env'} (hρ:ρ[0]?=some (.cell 0)) (e:ES σ c xs hs) (q:∀ (s:Str) (b:List UInt8) (xs':List Int) (σ':Mem),PT s b→ES σ' c xs' hs→F2 c σ σ'→Q (.str s) σ') :
  T (ev (callF (n+1)) (.sub (.tup (.cons (.str (Mine.S "a")) (.cons (.str (Mine.S "b")) (.cons (.str (Mine.S "c")) .nil)))) (.call (.glob 55) (.cons (.var 0) (.cons (.int 3) .nil)))) ρ) σ Q:=by
 refine t_sub (t_tup (t_cons (t_str (t_cons (t_str (t_cons (t_str (t_nil ⟨by decide,?_⟩))))))))
 refine t_call (t_glob rfl (t_cons (t_var hρ rfl (t_cons (t_int (t_nil (t_fnc ?_)))))))
 refine take_es (n:=n) (c:=c) e (by decide) fun k xs3 σ3 h1 h2 e3 f3=>?_
 have hk:k=0∨k=1∨k=2:=by have:k<3:=h2;lia
 rcases hk with rfl|rfl|rfl
 ·exact T.run (a:=V.str (Mine.S "a")) (σ':=σ3) rfl (q _ _ _ _ .a e3 f3)
 ·exact T.run (a:=V.str (Mine.S "b")) (σ':=σ3) rfl (q _ _ _ _ .b e3 f3)
 ·exact T.run (a:=V.str (Mine.S "c")) (σ':=σ3) rfl (q _ _ _ _ .c e3 f3)
theorem node_W {C:Calls} {v8 v10 v11 v12 v13 v14 v15 v16:V} (b:NB N σ0 σ c xs he tb R G) (hN:N≤σ.length) (hg:gs.length<500) (hl:he.length<100)
  (q:∀ (wh:List (Str×V)) (w:Nat) (v13:V) (σ':Mem),(∀ s,asc wh s=(asc he s).or (asc gs s))→NB N σ0 σ' c xs he tb R G→N≤w→w≠c→4<w→σ'[w]?=some (.sd wh)→T (exs C ss (nE up nm gs d v8 (.cell c) v10 v11 (.cell w) v13 v14 v15 v16)) σ' S) :
  T (exs C (.cons (.asg (.one 12) (.make .dictOf 1 (.var 4))) (.cons (.fors (.one 13) (.var 9) (.cons (.put (.var 12) (.var 13) (.sub (.var 9) (.var 13))) .nil)) ss)) (nE up nm gs d v8 (.cell c) v10 v11 v12 v13 v14 v15 v16)) σ S:=by
 have lc:=at_lt b.e.hc
 have l0:=at_lt b.e.hp
 have l1:=at_lt b.h1
 have l3:=at_lt b.hr
 have l4:=at_lt b.hg
 have c5:=b.c5
 refine t_asg (t_make (t_var rfl rfl (dictof1 (by unfold cap;lia) ?_)))
 have hc2:(σ++[.sd gs])[c]?=some (.sd he):=(List.getElem?_append_left lc).trans b.e.hc
 refine t_fors (t_var rfl rfl (for_sd hc2 ?_))
 have em:he.map (fun (p:Str×V)=>V.str p.1)=(he.map (·.1)).map V.str:=by rw [List.map_map];rfl
 rw [em]
 refine whole_loop (C:=C) (up:=up) (nm:=nm) (gs:=gs) (d:=d) (w:=σ.length) (v8:=v8) (v10:=v10) (v11:=v11) (v14:=v14) (v15:=v15) (v16:=v16) (by lia) (he.map (·.1)) gs v13 _ (at_set hc2) ((at_ne (by lia)).trans (at_new σ _)) (by rw [List.length_map];lia) (fun k hk=>(asc_iff he).mpr hk) fun wh v13' hw hc3=>?_
 refine ⟨⟨_,hc3⟩,t_cont ?_⟩
 refine q wh σ.length v13' _ (fun s=>?_) ?_ hN (by lia) (by lia) ((at_ne (by lia)).trans (at_set ((at_ne (by lia)).trans (at_new σ _))))
 ·rw [hw s]
  cases h:asc he s with
  | none=>rw [if_neg (fun hm=>by have:=(asc_iff he).mpr hm;rw [h] at this;cases this)];rfl
  | some v=>rw [if_pos ((asc_iff he).mp (by rw [h];rfl))];rfl
 ·have far:∀ i,i<σ.length→i≠c→((((σ++[Ob.sd gs]).set c (.lent he)).set σ.length (.sd wh)).set c (.sd he))[i]?=σ[i]?:=fun i h1 h2=>(at_ne (Ne.symm h2)).trans ((at_ne (by lia)).trans ((at_ne (Ne.symm h2)).trans (List.getElem?_append_left h1)))
  refine ⟨⟨b.e.c0,(far 0 l0 b.e.c0).trans b.e.hp,b.e.nn,?_⟩,(far 1 l1 (by lia)).trans b.h1,(far 3 l3 (by lia)).trans b.hr,(far 4 l4 (by lia)).trans b.hg,b.c5,b.cN,?_⟩
  ·exact at_set ((at_ne (by lia)).trans (at_set hc2))
  ·refine Fr.set (Fr.set (Fr.set (Fr.push b.fr _) ?_ _) ?_ _) ?_ _
   ·exact .inl (.inr (.inr (.inr (.inr b.cN))))
   ·exact .inl (.inr (.inr (.inr (.inr hN))))
   ·exact .inl (.inr (.inr (.inr (.inr b.cN))))
theorem node_end {k:Int} {v10 v11 v12 v13 v14 v15 v16:V} (b:NB N σ0 σ c xs he tb R G) (hl:tb.length<cap) (q:∀ ρ,S (.ret (refV k),ρ) ((σ.set c .dead).set 1 (.id (stoI tb k (nodeV he))))) :
  T (exs (callF (n+1)) (.cons (.expr (.meth (.var 1) (Mine.S "put") (.cons (.attr (.var 8) (Mine.S "number")) (.cons (.int 0) (.cons (.frz (.var 9)) .nil))))) (.cons (.ret (.var 8)) .nil)) (nE up nm gs d (refV k) (.cell c) v10 v11 v12 v13 v14 v15 v16)) σ S:=by
 have c5:=b.c5
 refine t_expr (t_methO (t_var rfl rfl ?_))
 refine ⟨4,_,2,rfl,rfl,?_⟩
 refine t_cons (t_attr (t_var rfl rfl ?_))
 refine T.run (a:=V.int k) (σ':=σ) rfl ?_
 refine t_cons (t_int (t_cons (t_frz (t_var rfl rfl (frz_sd b.e.hc (t_nil ?_))))))
 refine put_ok rfl ((at_ne (by lia)).trans b.h1) hl ?_
 exact t_ret (t_var rfl rfl (q _))
theorem node_leaf {k:Int} {m w B:Nat} {full v10 v13 v14 v15 v16:V} {wh:List (Str×V)} (b:NB N σ0 σ c xs he tb R G) (t:TB tb m) (hm:m<700) (hf:NM B full) (hw:σ[w]?=some (.sd wh)) (w4:4<w) (wN:N≤w) (wc:w≠c) (hl:he.length<700) (hK:asc he (Mine.S "Kids")=none) (hS:asc he (Mine.S "Subtype")=none) (hR:R.length<900)
  (q:∀ (x0:V) (ws:List (Int×Look)) (tb':List (Int×V)) (m':Nat) (hs':List (Str×V)) (xs':List Int) (σ':Mem),WRes k tb m ws tb' m' hs'→NB N σ0 σ' c xs' hs' tb' (R++[.tup [x0,refV k,upV up,.dict wh,.list (ws.map fun w=>refV w.1)]]) G→TB tb' m'→(∀ j:Int,j≤m→ascI tb' j=ascI tb j)→m≤m'→m'≤m+3→ws.length≤3→(∀ s,s∉wK→asc hs' s=asc he s)→(hs'.length≤he.length+3∧(KN he→KN hs'))→T (exs (callF (n+5)) ss (nE up nm gs d (refV k) (.cell c) v10 full (.cell w) v13 v14 v15 v16)) σ' S) :
  T (exs (callF (n+5)) (.cons (.expr (.meth (.var 6) (Mine.S "append") (.cons (.tup (.cons (.ife (.cmp .isnt (.var 11) .none) (.var 11) (.str (Mine.S ""))) (.cons (.var 8) (.cons (.var 2) (.cons (.frz (.var 12)) (.cons (.call (.glob 60) (.cons (.var 0) (.cons (.var 1) (.cons (.var 8) (.cons (.var 9) .nil))))) .nil)))))) .nil))) ss) (nE up nm gs d (refV k) (.cell c) v10 full (.cell w) v13 v14 v15 v16)) σ S:=by
 have c5:=b.c5
 have hup:noU (upV up)=true:=by cases up <;> rfl
 have hfu:=hf.noU
 have lc:=at_lt b.e.hc
 have l0:=at_lt b.e.hp
 have l1:=at_lt b.h1
 have l3:=at_lt b.hr
 have l4:=at_lt b.hg
 refine t_expr (t_meth (t_var rfl rfl (t_pre (pre_cell b.hr) (t_asks rfl ?_))))
 refine t_cons (t_tup (t_cons (t_ife (t_cmp (t_var rfl hfu (t_none ?_))))))
 have hx:∃ x0,∀ Q':V→Mem→Prop,Q' x0 σ→T (cmpV .isnt full .none) σ fun r σ=>∃ q,V.bool r=.bool q∧T (ev (callF (n+5)) (match q with|true=>ME.var 11|false=>ME.str (Mine.S "")) (nE up nm gs d (refV k) (.cell c) v10 full (.cell w) v13 v14 v15 v16)) σ Q':=by
  cases hf with
  | none=>exact ⟨.str (Mine.S ""),fun Q' hq=>T.run (a:=false) (σ':=σ) rfl ⟨false,rfl,t_str hq⟩⟩
  | str s _=>exact ⟨.str s,fun Q' hq=>T.run (a:=true) (σ':=σ) rfl ⟨true,rfl,t_var rfl rfl hq⟩⟩
 obtain ⟨x0,hx⟩:=hx
 refine hx _ ?_
 refine t_cons (t_var rfl rfl (t_cons (t_var rfl hup (t_cons (t_frz (t_var rfl rfl (frz_sd hw ?_)))))))
 refine t_cons (t_call (t_glob rfl (t_cons (t_var rfl rfl (t_cons (t_var rfl rfl (t_cons (t_var rfl rfl (t_cons (t_var rfl rfl (t_nil (t_fnc ?_))))))))))))
 have e1:ES (σ.set w .dead) c xs he:=⟨b.e.c0,(at_ne (by lia)).trans b.e.hp,b.e.nn,(at_ne wc).trans b.e.hc⟩
 refine widgets_ok (n:=n) (k:=k) (by lia) e1 ((at_ne (by lia)).trans b.h1) t (by lia) (by lia) hK hS fun ws tb' m' hs' xs' σ' hres e' h1' t' hj hm1 hm2 hws hoth hlen fr=>?_
 have f3:σ'[3]?=some (.list R):=(fr.kp 3 (by lia) (by rw [List.length_set];lia)).trans ((at_ne (by lia)).trans b.hr)
 have f4:σ'[4]?=some (.list G):=(fr.kp 4 (by lia) (by rw [List.length_set];lia)).trans ((at_ne (by lia)).trans b.hg)
 refine t_nil ⟨show 5<100 by decide,t_nil (t_pre (pre_cell f3) (t_same (app_cell f3 (by unfold cap;lia) ?_)))⟩
 refine q x0 ws tb' m' hs' xs' _ hres ⟨⟨e'.c0,(at_ne (by lia)).trans e'.hp,e'.nn,(at_ne (by lia)).trans e'.hc⟩,(at_ne (by lia)).trans h1',at_set f3,(at_ne (by lia)).trans f4,b.c5,b.cN,?_⟩ t' hj hm1 hm2 hws hoth hlen
 refine Fr.set (b.fr.trans (Fr.trans (Fr.set (.refl _ σ) (.inl (.inr (.inr (.inr (.inr wN))))) _) (fr.wide fun i hi h=>?_))) (.inl (.inr (.inr (.inl rfl)))) _
 rcases h with h|h|h
 ·exact .inl h
 ·exact .inr (.inl h)
 ·exact .inr (.inr (.inr (.inr (by rw [h];exact b.cN))))
end
theorem dictof_l {σ:Mem} {vs:List V} {ps:List (Str×V)} {Q:V→Mem→Prop} (hl:vs.length<cap) (hp:pairsS vs=some ps) (q:Q (.dict (stoAll [] ps)) σ):T (makeV .dictOf 0 (.list vs)) σ Q:=by
 refine .run (a:=.dict (stoAll [] ps)) (σ':=σ) ?_ q
 show (if vs.length<cap then bnd (lft (pairsS vs)) fun ps=>mkD 0 (stoAll [] ps) else fail) σ=_
 rw [if_pos hl,hp];rfl
noncomputable def handed (wh:List (Str×V)):List (Str×V):=stoAll [] ((inhK.filter fun s=>(asc wh s).isSome).map fun s=>(s,(asc wh s).getD .none))
theorem handed_at (wh:List (Str×V)):asc (handed wh)=fun s=>if s∈inhK then asc wh s else none:=by
 funext s
 unfold handed
 rw [asc_all (v:=fun s=>(asc wh s).getD .none)]
 by_cases h:s∈inhK
 ·rw [if_pos h]
  cases hs:asc wh s with
  | none=>rw [if_neg (fun hm=>by have:=(List.mem_filter.mp hm).2;rw [hs] at this;cases this)];rfl
  | some v=>rw [if_pos (List.mem_filter.mpr ⟨h,by rw [hs];rfl⟩)];rfl
 ·rw [if_neg h,if_neg (fun hm=>h (List.mem_filter.mp hm).1)];rfl
theorem handed_len (wh:List (Str×V)):(handed wh).length≤6:=by
 have h1:=all_len (v:=fun s=>(asc wh s).getD .none) (inhK.filter fun s=>(asc wh s).isSome) []
 have h2:=List.length_filter_le (fun s=>(asc wh s).isSome) inhK
 have h3:inhK.length=6:=rfl
 unfold handed
 have h4:([]:List (Str×V)).length=0:=rfl
 lia
section
variable {n N c:Nat} {σ0 σ:Mem} {Q:V→Mem→Prop} {S:Fl×Env'→Mem→Prop} {gs hs he:List (Str×V)} {xs:List Int} {ss:MSs} {up:Option Int} {nm:V} {d:Int} {tb:List (Int×V)} {R G:List V}
theorem node_hand {C:Calls} {w:Nat} {wh:List (Str×V)} {v8 v9 v10 v11 v13 v14 v15 v16:V} (hw:σ[w]?=some (.sd wh)) (q:T (exs C ss (nE up nm gs d v8 v9 v10 v11 (.cell w) v13 (.dict (handed wh)) v15 v16)) σ S) :
  T (exs C (.cons (.asg (.one 14) (.make .dictOf 0 (.lcomp false (.tup (.cons (.var 16) (.cons (.sub (.var 12) (.var 16)) .nil))) (.one 16) (.fwd (.tup (.cons (.str (Mine.S "FT")) (.cons (.str (Mine.S "Ff")) (.cons (.str (Mine.S "V")) (.cons (.str (Mine.S "DV")) (.cons (.str (Mine.S "MaxLen")) (.cons (.str (Mine.S "Opt")) .nil)))))))) (.cons (.cmp .in (.var 16) (.var 12)) .nil)))) ss) (nE up nm gs d v8 v9 v10 v11 (.cell w) v13 v14 v15 v16)) σ S:=by
 refine t_asg (t_make (t_lcomp (t_fwd (t_tup (t_cons (t_str (t_cons (t_str (t_cons (t_str (t_cons (t_str (t_cons (t_str (t_cons (t_str (t_nil ⟨show 6<100 by decide,items_tup ?_⟩)))))))))))))))))
 refine comp_filter3 (ws:=inhK) (enc:=V.str) (f:=fun s=>.tup [.str s,(asc wh s).getD .none]) (p:=fun s=>(asc wh s).isSome) (fun s hs B hB=>?_) (fun s hs hp Q hQ=>?_) ?_
 ·exact cnd_one (t_cmp (t_var rfl rfl (t_var rfl rfl (in_sd hw ⟨_,rfl,hB⟩))))
 ·obtain ⟨v,hv⟩:=Option.isSome_iff_exists.mp hp
  refine t_tup (t_cons (t_var rfl rfl (t_cons (t_sub (t_var rfl rfl (t_var rfl rfl (get_sd hw hv (t_nil ⟨show 2<100 by decide,?_⟩))))))))
  rw [hv] at hQ
  exact hQ
 have h2:=List.length_filter_le (fun s=>(asc wh s).isSome) inhK
 have h3:inhK.length=6:=rfl
 refine mkl0 (by rw [List.length_map];unfold cap;lia) ?_
 exact dictof_l (by rw [List.length_map];unfold cap;lia) (pairs_of (v:=fun s=>(asc wh s).getD .none) _) q
theorem node_grp {l m B:Nat} {k:Int} {i:Info} {hd:List (Str×V)} {full v10 v12 v13 v15 v16:V} {parts:List Str} (sp:NodeSpec (callF (n+2)) l (d+1)) (b:NB N σ0 σ c xs he tb R G) (t:TB tb m) (hm:m+2*most l<300) (hf:NM B full) (hB:B+2*l<900) (hk:1≤k) (hd0:0≤d) (hl:he.length<700)
  (hdl:hd.length≤6) (hi:InfoOK (asc hd) i) (lr:R.length≤m) (lg:G.length+1≤m)
  (q:∀ (ks:List Int) (rs:List Leaf) (gs':List Grp) (ns:List Int) (cc:Nat) (tb':List (Int×V)) (m':Nat) (xs':List Int) (σ':Mem),ks≠[]→Forest (fun k' r g n c=>Tree tb' l true (some k) parts (asc hd) k' r g n c) ks rs gs' ns cc→NS ns m m'→m'≤m+2*most l→(∀ L∈rs,InfoOK (asc L.wh) L.i)→NB N σ0 σ' c xs' (optput he (Mine.S "Kids") (some (.list (ks.map refV)))) tb' (R++rs.map rowV) ((G++[.tup [refV k,upV up]])++gs'.map grpV)→TB tb' m'→(R++rs.map rowV).length≤m'→((G++[V.tup [refV k,upV up]])++gs'.map grpV).length≤m'→(∀ j:Int,j≤m→ascI tb' j=ascI tb j)→T (exs (callF (n+2)) ss (nE up nm gs d (refV k) (.cell c) v10 full v12 v13 (.dict hd) v15 v16)) σ' S) :
  T (exs (callF (n+2)) (.cons (.expr (.meth (.var 7) (Mine.S "append") (.cons (.tup (.cons (.var 8) (.cons (.var 2) .nil))) .nil)))
  (.cons (.put (.var 9) (.str (Mine.S "Kids")) (.lcomp false (.call (.glob 61) (.cons (.var 0) (.cons (.var 1) (.cons (.var 8) (.cons (.var 11) (.cons (.var 14) (.cons (.bin .add false (.var 5) (.int 1)) (.cons (.var 6) (.cons (.var 7) .nil))))))))) (.one 15) (.fwd (.call (.glob 8) (.cons (.bin .add false (.int 1) (.call (.glob 55) (.cons (.var 0) (.cons (.int 2) .nil)))) .nil))) .nil)) ss)) (nE up nm gs d (refV k) (.cell c) v10 full v12 v13 (.dict hd) v15 v16)) σ S:=by
 have c5:=b.c5
 have hup:noU (upV up)=true:=by cases up <;> rfl
 have hfu:=hf.noU
 refine t_expr (t_meth (t_var rfl rfl (t_pre (pre_cell b.hg) (t_asks rfl ?_))))
 refine t_cons (t_tup (t_cons (t_var rfl rfl (t_cons (t_var rfl hup (t_nil ⟨show 2<100 by decide,?_⟩))))))
 refine t_nil (t_pre (pre_cell b.hg) (t_same (app_cell b.hg (by unfold cap;lia) ?_)))
 let σ1:=σ.set 4 (.list (G++[V.tup [refV k,upV up]]))
 have e1:ES σ1 c xs he:=⟨b.e.c0,(at_ne (by lia)).trans b.e.hp,b.e.nn,(at_ne (by lia)).trans b.e.hc⟩
 have b1:NB N σ0 σ1 c xs he tb R (G++[V.tup [refV k,upV up]]):=⟨e1,(at_ne (by lia)).trans b.h1,(at_ne (by lia)).trans b.hr,at_set b.hg,b.c5,b.cN,Fr.set b.fr (.inl (.inr (.inr (.inr (.inl rfl))))) _⟩
 refine t_put (t_lcomp (t_fwd (t_call (t_glob rfl (t_cons (t_bin (t_int (t_call (t_glob rfl (t_cons (t_var rfl rfl (t_cons (t_int (t_nil (t_fnc ?_)))))))))))))))
 refine take_es (n:=n+1) (c:=c) e1 (by decide) fun a xs2 σ2 a1 a2 e2 f2=>?_
 have b2:=b1.f2 e2 f2
 refine T.run (a:=V.int (1+a)) (σ':=σ2) rfl ?_
 obtain ⟨r,hr⟩:∃ r:Nat,1+a=(r:Int):=⟨(1+a).toNat,by lia⟩
 have hr1:1≤r:=by lia
 have hr2:r≤2:=by have:a<2:=a2;lia
 rw [hr]
 refine t_nil (t_bi (rng_call (by lia) (items_rng (by lia) ?_)))
 rw [Int.toNat_natCast]
 have hrm:r*most l≤2*most l:=Nat.mul_le_mul_right _ hr2
 have hin:NodeIn (some k) full hd i true l (d+1):=⟨⟨B,hf,hB⟩,(fun u hu=>by cases hu;exact hk),by lia,hi,fun _=>by lia⟩
 have ls:LS σ2 xs2 tb m R (G++[V.tup [refV k,upV up]]):=⟨e2.hp,e2.nn,b2.h1,t,b2.hr,b2.hg,lr,by rw [List.length_append];exact lg⟩
 refine kidnodes sp (parts:=parts) hin (fun v σ Q h=>?_) r 0 xs2 tb m R _ σ2 _ ls (by lia) fun ks rs gs' ns cc tb' m' xs' σ' hks hfo hns hm' hinf ls' hj fr=>?_
 ·refine t_call (t_glob rfl ?_)
  refine t_cons (t_var rfl rfl (t_cons (t_var rfl rfl (t_cons (t_var rfl rfl (t_cons (t_var rfl hfu (t_cons (t_var rfl rfl ?_)))))))))
  refine t_cons (t_bin (t_var rfl rfl (t_int ?_)))
  refine T.run (a:=V.int (d+1)) (σ':=σ) rfl ?_
  exact t_cons (t_var rfl rfl (t_cons (t_var rfl rfl (t_nil (t_fnc h)))))
 refine mkl0 (by rw [List.length_map];unfold cap;lia) ?_
 refine t_var rfl rfl (t_str ?_)
 have nP:¬ P4 c:=fun h=>by rcases h with h|h|h|h <;> lia
 have e3:ES σ' c xs' he:=⟨b.e.c0,ls'.hp,ls'.nn,fr.at nP e2.hc⟩
 have b3:NB N σ0 σ' c xs' he tb' (R++rs.map rowV) ((G++[V.tup [refV k,upV up]])++gs'.map grpV):=⟨e3,ls'.h1,ls'.hr,ls'.hg,b.c5,b.cN,b2.fr.trans (fr.wide fun j _ h=>by
  rcases h with h|h|h|h
  ·exact .inl h
  ·exact .inr (.inl h)
  ·exact .inr (.inr (.inl h))
  ·exact .inr (.inr (.inr (.inl h))))⟩
 refine put_es e3 (by unfold cap;lia) fun e4 f4=>?_
 refine q ks rs gs' ns cc tb' m' xs' _ (fun h=>by rw [h] at hks;simp only [List.length_nil] at hks;lia) hfo hns (by lia) hinf (b3.f2 e4 f4) ls'.t ls'.lr ls'.lg hj
end
noncomputable def parOf:Option Int→Par
 | none=>.none
 | some m=>.ref m
theorem node_ok {es:List (Str×V)} {up:Option Int} {t:Option (List UInt8)} (hT:asc es (Mine.S "T")=t.map strV) (hP:asc es (Mine.S "Parent")=up.map refV) (pos:∀ u,up=some u→1≤u) (tok:∀ b,t=some b→b∈byStrs):NodeOK es (parOf up) t:=by
 refine ⟨?_,?_,hT,tok⟩
 ·rw [hP];cases up <;> rfl
 ·intro m h
  cases up with
  | none=>cases h
  | some u=>cases h;exact pos _ rfl
theorem inh_wK:∀ s∈inhK,s∉wK:=by unfold inhK wK;decide +kernel
theorem most_ge:∀ l,4≤most l
 | 0=>Nat.le_refl _
 | l+1=>by have:=most_ge l;show 4≤2*most l+1;lia
section
variable {n N c:Nat} {σ0 σ:Mem} {Q:V→Mem→Prop} {gs hs he:List (Str×V)} {xs:List Int} {up:Option Int} {nm:V} {d:Int} {tb:List (Int×V)} {R G:List V}
theorem node_cond {ρ:Env'} (hρ0:ρ[0]?=some (.cell 0)) (hρ5:ρ[5]?=some (.int d)) (e:ES σ c xs hs) (q:∀ (r:Bool) (xs':List Int) (σ':Mem),(r=true→d<2)→ES σ' c xs' hs→F2 c σ σ'→Q (.bool r) σ') :
  T (ev (callF (n+1)) (.and (.cons (.cmp .lt (.var 5) (.int 2)) (.cons (.cmp .eq (.call (.glob 55) (.cons (.var 0) (.cons (.int 3) .nil))) (.int 1)) .nil))) ρ) σ Q:=by
 refine t_and (t_and_cons (t_cmp (t_var hρ5 rfl (t_int ?_))))
 refine T.run (a:=decide (d<2)) (σ':=σ) rfl ?_
 refine ⟨_,rfl,?_⟩
 by_cases hd:d<2
 ·rw [decide_eq_true hd]
  refine t_and_cons (t_cmp (t_call (t_glob rfl (t_cons (t_var hρ0 rfl (t_cons (t_int (t_nil (t_fnc ?_)))))))))
  refine take_es (n:=n) (c:=c) e (by decide) fun k xs' σ' h1 h2 e' f'=>?_
  refine t_int ?_
  refine T.run (a:=decide (k=1)) (σ':=σ') rfl ?_
  refine ⟨_,rfl,?_⟩
  by_cases hk:k=1
  ·rw [decide_eq_true hk];exact t_and_nil (q true xs' σ' (fun _=>hd) e' f')
  ·rw [decide_eq_false hk];exact q false xs' σ' (fun h=>(nomatch h)) e' f'
 ·rw [decide_eq_false hd]
  exact q false xs σ (fun h=>(nomatch h)) e (.refl c σ)
theorem node_fin {m m':Nat} {es:List (Str×V)} {σ':Mem} {R' G':List V} (b:NB σ.length σ σ' c xs es tb R' G') (t':TB tb m') (hm:m+1≤m') (hes:Row es) (lr:R'.length≤m') (lg:G'.length≤m') :
  LS ((σ'.set c .dead).set 1 (.id (stoI tb ((m:Int)+1) (nodeV es)))) xs (stoI tb ((m:Int)+1) (nodeV es)) m' R' G'∧Fr P4 σ ((σ'.set c .dead).set 1 (.id (stoI tb ((m:Int)+1) (nodeV es)))):=by
 have c5:=b.c5
 refine ⟨⟨(at_ne (by lia)).trans ((at_ne (by lia)).trans b.e.hp),b.e.nn,at_set ((at_ne (by lia)).trans b.h1),t'.put ⟨by lia,by lia⟩ hes,(at_ne (by lia)).trans ((at_ne (by lia)).trans b.hr),(at_ne (by lia)).trans ((at_ne (by lia)).trans b.hg),lr,lg⟩,?_⟩
 refine (Fr.set (Fr.set b.fr (.inl (.inr (.inr (.inr (.inr b.cN))))) _) (.inl (.inr (.inl rfl))) _).wide fun i hi h=>?_
 rcases h with h|h|h|h|h
 ·exact .inl h
 ·exact .inr (.inl h)
 ·exact .inr (.inr (.inl h))
 ·exact .inr (.inr (.inr h))
 ·lia
theorem leaf_of {m m':Nat} {need:Bool} {parts:List Str} {i':Info} {t:Option (List UInt8)} {x0:V} {wh es:List (Str×V)} {ws:List (Int×Look)} {tb':List (Int×V)} (hres:WRes ((m:Int)+1) tb (m+1) ws tb' m' es) (hm':m+1≤m') (hws:ws.length≤3) (hno:NodeOK es (parOf up) t) (hi:InfoOK (fun s=>(asc es s).or (asc gs s)) i') (hl:es.length<100) (hn:need=true→t≠none) :
  ∃ ns,NS ns m m'∧LeafOK (stoI tb' ((m:Int)+1) (nodeV es)) need up parts (asc gs) ((m:Int)+1) ⟨(m:Int)+1,up,parts++(t.map txt).toList,i',ws,parOf up,t,x0,wh⟩ es ns:=by
 have row:ascI (stoI tb' ((m:Int)+1) (nodeV es)) ((m:Int)+1)=some (nodeV es):=by rw [ascI_sto,if_pos rfl]
 rcases hres with ⟨e1,e2,hK,l,hw,hs⟩|⟨hK,hne,hns,hwr⟩
 ·subst e2
  refine ⟨[(m:Int)+1],NS.one m,rfl,rfl,row,hno,rfl,hi,fun w hw'=>?_,by show ws.length<100;lia,hl,hn,.inl ⟨hK,rfl,?_⟩⟩
  ·rcases hs with ⟨h1,h2⟩|⟨h1,h2⟩
   ·have hw':w∈ws:=hw'
    rw [h1] at hw'
    have:=List.mem_singleton.mp hw'
    subst this
    exact ⟨es,row,hw⟩
   ·have hw':w∈ws:=hw'
    rw [h1] at hw';cases hw'
  ·rcases hs with ⟨h1,h2⟩|⟨h1,h2⟩
   ·exact .inl ⟨by show ws.map (·.1)=_;rw [h1];rfl,h2⟩
   ·exact .inr ⟨h1,h2⟩
 ·have far:∀ w∈ws,ascI (stoI tb' ((m:Int)+1) (nodeV es)) w.1=ascI tb' w.1:=fun w hw=>by
   have:=(hns.mem w.1 (List.mem_map.mpr ⟨w,hw,rfl⟩)).1
   rw [ascI_sto,if_neg (by lia)]
  refine ⟨((m:Int)+1)::ws.map (·.1),hns.cons,rfl,rfl,row,hno,rfl,hi,fun w hw'=>?_,by show ws.length<100;lia,hl,hn,.inr ⟨hK,rfl,hne,fun w hw'=>?_⟩⟩
  ·obtain ⟨we,h1,h2,h3⟩:=hwr w hw'
   exact ⟨we,(far w hw').trans h1,h2⟩
  ·obtain ⟨we,h1,h2,h3⟩:=hwr w hw'
   exact ⟨we,(far w hw').trans h1,h3⟩
theorem node_any {l:Nat} (hd:0≤d∧d≤2) (IH:d<2→∃ l',l=l'+1∧NodeSpec (callF (n+5)) l' (d+1)):NodeSpec (callF (n+6)) l d:=by
 intro up nm gs i need parts xs tb m R G σ Q hin h hm q
 obtain ⟨B,hB,hBl⟩:=hin.nm
 have hml:=most_ge l
 have hup:noU (upV up)=true:=by cases up <;> rfl
 have hnu:=hB.noU
 have l0:=at_lt h.hp
 have l1:=at_lt h.h1
 have l3:=at_lt h.hr
 have l4:=at_lt h.hg
 refine t_fun (f:=f_law_node) rfl rfl rfl ?_
 dsimp only [f_law_node]
 refine t_asgs (t_tup (t_cons (t_methO (t_var rfl rfl ?_))))
 refine ⟨4,_,3,rfl,rfl,t_cons (t_dict0 (t_nil ⟨⟨rfl,List.nodup_nil,by decide⟩,?_⟩))⟩
 refine t_nil (add_ok (n:=n+3) (es:=[]) h.h1 h.t (by lia) ?_)
 refine t_cons (t_dict1 (t_nil ⟨⟨rfl,List.nodup_nil,by decide⟩,?_⟩))
 refine t_nil ⟨show 2<100 by decide,_,rfl,?_⟩
 have t1:=h.t.add (es:=[]) ⟨by decide,.nil⟩
 have keep1:∀ j:Int,j≤m→ascI (stoI tb ((m:Int)+1) (nodeV [])) j=ascI tb j:=fun j hj=>by rw [ascI_sto,if_neg (by lia)]
 generalize htb1:stoI tb ((m:Int)+1) (nodeV [])=tb1 at t1 keep1 ⊢
 have hcl:(σ.set 1 (Ob.id tb1)).length=σ.length:=List.length_set
 generalize hcd:(σ.set 1 (Ob.id tb1)).length=c at hcl ⊢
 have b0:NB σ.length σ (σ.set 1 (Ob.id tb1)++[Ob.sd []]) c xs [] tb1 R G:=by
  have far:∀ i,i<σ.length→(σ.set 1 (Ob.id tb1)++[Ob.sd []])[i]?=(σ.set 1 (Ob.id tb1))[i]?:=fun i hi=>List.getElem?_append_left (by lia)
  refine ⟨⟨by lia,(far 0 l0).trans ((at_ne (by lia)).trans h.hp),h.nn,?_⟩,(far 1 l1).trans (at_set h.h1),(far 3 l3).trans ((at_ne (by lia)).trans h.hr),(far 4 l4).trans ((at_ne (by lia)).trans h.hg),by lia,by lia,?_⟩
  ·rw [← hcd];exact at_new _ _
  ·exact Fr.push (Fr.set (.refl _ σ) (.inl (.inr (.inl rfl))) _) _
 refine t_asg (part_ok (n:=n+4) rfl b0.e fun s bb xs1 σ1 hpt e1 f1=>?_)
 have b1:=b0.f2 e1 f1
 refine node_T (n:=n+3) (up:=up) (nm:=nm) (gs:=gs) (d:=d) hpt e1 (by show 0<900;decide) fun t xs2 σ2 htok htn e2 f2=>?_
 have b2:=b1.f2 e2 f2
 refine node_full hpt.size hB (by lia) e2.hc fun full hfull=>?_
 have hl1:=optput_len [] (Mine.S "T") (t.map strV)
 have hl0:([]:List (Str×V)).length=0:=rfl
 refine node_P e2 (by lia) fun σ3 e3 f3=>?_
 have b3:=b2.f2 e3 f3
 have hl2:=optput_len (optput [] (Mine.S "T") (t.map strV)) (Mine.S "Parent") (up.map refV)
 have at0:∀ s,s≠Mine.S "T"→s≠Mine.S "Parent"→asc (optput (optput [] (Mine.S "T") (t.map strV)) (Mine.S "Parent") (up.map refV)) s=none:=fun s h1 h2=>by
  rw [asc_optput,if_neg (Ne.symm h2),asc_optput,if_neg (Ne.symm h1)];rfl
 have inh0:∀ s∈inhK,asc (optput (optput [] (Mine.S "T") (t.map strV)) (Mine.S "Parent") (up.map refV)) s=none:=fun s hs=>at0 s (by revert s;unfold inhK;decide +kernel) (by revert s;unfold inhK;decide +kernel)
 have atT:asc (optput (optput [] (Mine.S "T") (t.map strV)) (Mine.S "Parent") (up.map refV)) (Mine.S "T")=t.map strV:=by
  rw [asc_optput,if_neg (by decide +kernel),asc_optput,if_pos rfl];exact Option.or_none
 have atP:asc (optput (optput [] (Mine.S "T") (t.map strV)) (Mine.S "Parent") (up.map refV)) (Mine.S "Parent")=up.map refV:=by
  rw [asc_optput,if_pos rfl,asc_optput,if_neg (by decide +kernel)];exact Option.or_none
 have kn0:KN (optput (optput [] (Mine.S "T") (t.map strV)) (Mine.S "Parent") (up.map refV)):=KN.nil.optput.optput
 generalize optput (optput [] (Mine.S "T") (t.map strV)) (Mine.S "Parent") (up.map refV)=h0 at e3 b3 hl2 at0 inh0 atT atP kn0
 refine t_expr (t_call (t_glob rfl (t_cons (t_var rfl rfl (t_cons (t_var rfl rfl (t_cons (t_var rfl rfl (t_nil (t_fnc ?_))))))))))
 refine entries_ok (n:=n+1) e3 (by lia) hin.info (inh0 _ (by simp [inhK])) fun E xs4 σ4 hE e4 f4=>?_
 have b4:=b3.f2 e4 f4
 have hl3:=ent_len E h0
 have aT:asc (E.put h0) (Mine.S "T")=t.map strV:=(ent_other E h0 _ (by unfold inhK;decide +kernel)).trans atT
 have aP:asc (E.put h0) (Mine.S "Parent")=up.map refV:=(ent_other E h0 _ (by unfold inhK;decide +kernel)).trans atP
 have aK:asc (E.put h0) (Mine.S "Kids")=none:=(ent_other E h0 _ (by unfold inhK;decide +kernel)).trans (at0 _ (by decide +kernel) (by decide +kernel))
 have aS:asc (E.put h0) (Mine.S "Subtype")=none:=(ent_other E h0 _ (by unfold inhK;decide +kernel)).trans (at0 _ (by decide +kernel) (by decide +kernel))
 have hinf:=ent_info hE inh0 hin.info
 have kn1:KN (E.put h0):=kn0.ent
 generalize E.put h0=he at e4 b4 hl3 aT aP aK aS hinf kn1
 refine node_W b4 (by have:=f1.len;have:=f2.len;have:=f3.len;have:=f4.len;rw [List.length_append] at *;lia) hin.gl (by lia) fun wh w v13 σ5 hwh b5 wN wc w4 hw=>?_
 have hinw:InfoOK (asc wh) (E.over i):=info_congr (fun s _=>hwh s) hinf
 refine t_ifs (node_cond (n:=n+4) rfl rfl b5.e fun r xs6 σ6 hr e6 f6=>?_)
 have b6:=b5.f2 e6 f6
 have hw6:σ6[w]?=some (.sd wh):=(f6.kp w (by lia) wc (at_lt hw)).trans hw
 refine ⟨r,rfl,?_⟩
 cases r with
 | false=>
  refine node_leaf (n:=n) b6 t1 (by lia) hfull hw6 w4 wN wc (by lia) aK aS (by have:=h.lr;lia) fun x0 ws tb' m' es xs7 σ7 hres b7 t7 hj hm1 hm2 hws hoth ⟨hlen,hkn⟩=>?_
  refine t_end (t_cont (node_end (n:=n+4) b7 (by rw [t7.len];unfold cap;lia) fun ρ=>?_))
  have hno:NodeOK es (parOf up) t:=node_ok ((hoth _ (by unfold wK;decide +kernel)).trans aT) ((hoth _ (by unfold wK;decide +kernel)).trans aP) hin.pos htok
  obtain ⟨ns,hns,hleaf⟩:=leaf_of (need:=need) (parts:=parts) (x0:=x0) (wh:=wh) hres hm1 hws hno (info_congr (fun s hs=>by show (asc es s).or (asc gs s)=(asc he s).or (asc gs s);rw [hoth s (inh_wK s hs)]) hinf) (by lia) (fun hn=>htn (hin.need hn))
  have lr:=h.lr
  have lg:=h.lg
  obtain ⟨ls,fr⟩:=node_fin b7 t7 hm1 ⟨by lia,hkn kn1⟩ (by rw [List.length_append];show R.length+1≤m';lia) (by lia)
  refine q _ [] ns 1 _ m' xs7 _ (leaf_tree hleaf) hns (by lia) (fun L hL=>?_) (by rw [List.map_nil,List.append_nil];exact ls) (fun j hjm=>?_) fr
  ·have:=List.mem_singleton.mp hL
   subst this
   exact hinw
  ·rw [ascI_sto,if_neg (by lia),hj j (by lia),keep1 j hjm]
 | true=>
  obtain ⟨l',hl',sp⟩:=IH (hr rfl)
  subst hl'
  have hmo:most (l'+1)=2*most l'+1:=rfl
  refine node_hand hw6 ?_
  have hinh:InfoOK (asc (handed wh)) (E.over i):=info_congr (fun s hs=>by rw [handed_at];exact if_pos hs) hinw
  have lr:=h.lr
  have lg:=h.lg
  refine node_grp (n:=n+3) (parts:=parts++(t.map txt).toList) sp b6 t1 (by lia) hfull (by lia) (by lia) hd.1 (by lia) (handed_len wh) hinh (by lia) (by lia) fun ks rs gs' ns cc tb' m' xs7 σ7 hks hfo hns hm' hinf' b7 t7 lr7 lg7 hj=>?_
  refine t_end (t_cont (node_end (n:=n+4) b7 (by rw [t7.len];unfold cap;lia) fun ρ=>?_))
  have hlen:=optput_len he (Mine.S "Kids") (some (.list (ks.map refV)))
  have hat:∀ s,s≠Mine.S "Kids"→asc (optput he (Mine.S "Kids") (some (.list (ks.map refV)))) s=asc he s:=fun s hs=>by rw [asc_optput,if_neg (Ne.symm hs)]
  have hatK:asc (optput he (Mine.S "Kids") (some (.list (ks.map refV)))) (Mine.S "Kids")=some (.list (ks.map refV)):=by rw [asc_optput,if_pos rfl];rfl
  have kn2:KN (optput he (Mine.S "Kids") (some (.list (ks.map refV)))):=kn1.optput
  generalize optput he (Mine.S "Kids") (some (.list (ks.map refV)))=es at b7 hlen hat hatK kn2
  have hno:NodeOK es (parOf up) t:=node_ok ((hat _ (by decide +kernel)).trans aT) ((hat _ (by decide +kernel)).trans aP) hin.pos htok
  have hm1:=hns.len
  obtain ⟨ls,fr⟩:=node_fin (m:=m) b7 t7 (by lia) ⟨by lia,kn2⟩ lr7 lg7
  have hgv:nextGv es (asc gs)=asc (handed wh):=by
   rw [handed_at]
   funext s
   unfold nextGv
   by_cases hs:s∈inhK
   ·rw [if_pos hs,if_pos hs,hwh s,hat s (by revert s;unfold inhK;decide +kernel)]
   ·rw [if_neg hs,if_neg hs]
  have tree:Tree (stoI tb' ((m:Int)+1) (nodeV es)) (l'+1) need up parts (asc gs) ((m:Int)+1) rs (⟨(m:Int)+1,up,parOf up,t⟩::gs') (((m:Int)+1)::ns) (cc+1):=by
   refine .inr ⟨es,parOf up,t,ks,gs',ns,cc,⟨by rw [ascI_sto,if_pos rfl],hno,fun hn=>htn (hin.need hn),by lia,hatK,hks,by lia⟩,rfl,rfl,rfl,?_⟩
   rw [hgv]
   refine forest_fr (fun k' r g n' c' hn ht=>tree_fr (fun j hjn=>?_) ht) hfo
   have:=(hns.mem j (hn j hjn)).1
   rw [ascI_sto,if_neg (by lia)]
  refine q rs _ _ (cc+1) _ m' xs7 _ tree hns.cons (by lia) hinf' (by rw [List.map_cons];rw [List.append_assoc] at ls;exact ls) (fun j hjm=>?_) fr
  rw [ascI_sto,if_neg (by lia),hj j (by lia),keep1 j hjm]
end
theorem node2 (n:Nat):NodeSpec (callF (n+8)) 2 0:=
 node_any (n:=n+2) ⟨by decide,by decide⟩ fun _=>⟨1,rfl,node_any (n:=n+1) ⟨by decide,by decide⟩ fun _=>⟨0,rfl,node_any (n:=n) ⟨by decide,by decide⟩ fun h=>absurd h (by decide)⟩⟩
structure FormX (tb:List (Int×V)) (tr:List (Str×V)) (ks:List Int):Prop where
 root:asc tr (Mine.S "Root")=some (refV 1)
 more:∃ re v fe,ascI tb 1=some (nodeV re)∧asc re (Mine.S "AcroForm")=some v∧(v=.dict fe∨∃ k,1<k∧v=refV k∧ascI tb k=some (nodeV fe))∧asc fe (Mine.S "Fields")=some (.list (ks.map refV))
theorem FormX.ok {tb:List (Int×V)} {tr:List (Str×V)} {ks:List Int} (h:FormX tb tr ks):FormOK tb tr ks:=by
 obtain ⟨re,v,fe,h1,h2,h3,h4⟩:=h.more
 refine ⟨1,re,v,fe,h.root,h1,h2,?_,h4⟩
 rcases h3 with e|⟨k,_,e1,e2⟩
 ·exact .inl ⟨by rw [e];rfl,e.symm⟩
 ·exact .inr ⟨k,e1,e2,rfl⟩
structure Built (tb:List (Int×V)) (tr:List (Str×V)) (m:Nat) (ks:List Int) (rs:List Leaf) (gs:List Grp) (ns:List Int) (c:Nat):Prop where
 t:TB tb m
 m:m<60
 form:FormX tb tr ks
 top:Top tb ks rs gs ns c
 nd:ns.Nodup
 nl:ns.length<60
 inf:∀ L∈rs,InfoOK (asc L.wh) L.i
 two:∀ j∈ns,1<j
theorem app_c {n1 n2:List Int} {c1 c2:Nat} (a:c1≤n1.length) (b:c2≤n2.length):c1+c2≤(n1++n2).length:=List.length_append▸Nat.add_le_add a b
theorem tree_c {tb:List (Int×V)} {l need up parts gv k rs gs ns c} (h:Tree tb l need up parts gv k rs gs ns c):c≤ns.length:=
 h.ind (G:=fun _ _ _ _ _ _ _ _ ns c=>c≤ns.length) (fun _ _ _ _ _ _ _ _ ns h=>h.kids.elim (fun e=>e.2.1▸Nat.succ_pos _) fun e=>e.2.1▸Nat.succ_pos _) fun l need up parts gv k es p t ks rs gs ns c hG hf=>
  Nat.succ_le_succ (hf.ind (G:=fun _ _ _ ns c=>c≤ns.length) (Nat.le_refl 0) fun k' ks r1 g1 n1 c1 r2 g2 n2 c2 h1 _ ih=>app_c h1 ih)
theorem top_c {tb:List (Int×V)} {ks rs gs ns c} (h:Top tb ks rs gs ns c):c≤ns.length:=h.ind (G:=fun _ _ _ ns c=>c≤ns.length) (Nat.le_refl 0) fun k' ks r1 g1 n1 c1 r2 g2 n2 c2 h1 _ ih=>app_c (tree_c h1) ih
section
variable {n:Nat} {Q:V→Mem→Prop} {xs:List Int}
theorem form_ok (hx:NN xs) (q:∀ (tb:List (Int×V)) (tr:List (Str×V)) (m:Nat) (ks:List Int) (rs:List Leaf) (gs:List Grp) (ns:List Int) (c:Nat) (xs':List Int) (σ':Mem),Built tb tr m ks rs gs ns c→σ'[0]?=some (poolO xs')→NN xs'→σ'[1]?=some (.id tb)→σ'[2]?=some (.sd tr)→Q (.tup [shV,.list (rs.map rowV),.list (gs.map grpV)]) σ') :
  T (callF (n+9) 41 [.cell 0]) [poolO xs] Q:=by
 refine t_fun (f:=f_law_form) rfl rfl rfl ?_
 dsimp only [f_law_form]
 refine t_asg (t_call (t_glob rfl (t_nil (t_clsc (t_new (f:=i_Shelf) rfl rfl ?_)))))
 dsimp only [i_Shelf]
 refine t_cons (t_ife (t_cmp (t_var rfl rfl (t_none ?_))))
 refine T.run (a:=true) (σ':=[poolO xs]) rfl ⟨true,rfl,t_dict2 ?_⟩
 refine t_cons (t_ife (t_cmp (t_var rfl rfl (t_none ?_))))
 refine T.run (a:=true) (σ':=[poolO xs]++[.id []]) rfl ⟨true,rfl,t_dict1 (t_nil ⟨⟨rfl,List.nodup_nil,by decide⟩,?_⟩)⟩
 refine t_nil ?_
 have t0:TB [] 0:=⟨rfl,fun k v h=>(nomatch h)⟩
 refine t_asgs (t_tup (t_cons (t_methO (t_var rfl rfl ?_))))
 refine ⟨4,_,3,rfl,rfl,t_cons (t_dict0 (t_nil ⟨⟨rfl,List.nodup_nil,by decide⟩,?_⟩))⟩
 refine t_nil (add_ok (n:=n+6) (es:=[]) (tb:=[]) (m:=0) rfl t0 (by decide) ?_)
 have t1:=t0.add (es:=[]) ⟨by decide,.nil⟩
 refine t_cons (t_list (t_nil (mkl1 (show 0<cap by decide) ?_)))
 refine t_cons (t_list (t_nil (mkl1 (show 0<cap by decide) ?_)))
 refine t_nil ⟨show 3<100 by decide,_,rfl,?_⟩
 have e0:stoI [] (((0:Nat):Int)+1) (nodeV [])=[(1,nodeV [])]:=rfl
 rw [e0] at t1
 refine t_asg (t_dict0 (t_cons (t_lcomp (t_fwd (t_call (t_glob rfl (t_cons (t_bin (t_int (t_call (t_glob rfl (t_cons (t_var rfl rfl (t_cons (t_int (t_nil (t_fnc ?_)))))))))))))))))
 show T (callF (n+8) 34 [.cell 0,.int 2]) [poolO xs,.id [(1,nodeV [])],.sd [],.list [],.list []] _
 refine take_ok (n:=n+7) (xs:=xs) rfl hx (by decide) fun a xs1 a1 a2 hx1=>?_
 show T (binV .add false (.int 1) (.int a)) [poolO xs1,.id [(1,nodeV [])],.sd [],.list [],.list []] _
 refine T.run (a:=V.int (1+a)) (σ':=[poolO xs1,.id [(1,nodeV [])],.sd [],.list [],.list []]) rfl ?_
 obtain ⟨r,hr⟩:∃ r:Nat,1+a=(r:Int):=⟨(1+a).toNat,by lia⟩
 have hr2:r≤2:=by have:a<2:=a2;lia
 rw [hr]
 refine t_nil (t_bi (rng_call (by lia) (items_rng (by lia) ?_)))
 rw [Int.toNat_natCast]
 have hin:NodeIn none .none [] ⟨none,none,none,false,none⟩ false 2 0:=⟨⟨0,.none,by decide⟩,(fun _ h=>(nomatch h)),by decide,⟨rfl,rfl,(fun _ h=>(nomatch h)),rfl,(fun _ h=>(nomatch h)),rfl,rfl,(fun _ h=>(nomatch h))⟩,(fun h=>(nomatch h))⟩
 have ls:LS [poolO xs1,.id [(1,nodeV [])],.sd [],.list [],.list []] xs1 [(1,nodeV [])] 1 [] []:=⟨rfl,hx1,rfl,t1,rfl,rfl,by decide,by decide⟩
 have m2:most 2=19:=rfl
 refine kidnodes (node2 n) (parts:=[]) hin (fun v σ Q h=>?_) r 0 xs1 _ 1 [] [] _ _ ls (by rw [m2];lia) fun ks rs gs' ns cc tb' m' xs' σ' hks hfo hns hm' hinf ls' hj fr=>?_
 ·refine t_call (t_glob rfl ?_)
  refine t_cons (t_var rfl rfl (t_cons (t_var rfl rfl (t_cons (t_none (t_cons (t_none (t_cons (t_dict0 (t_nil ⟨⟨rfl,List.nodup_nil,by decide⟩,?_⟩))))))))))
  exact t_cons (t_int (t_cons (t_var rfl rfl (t_cons (t_var rfl rfl (t_nil (t_fnc h)))))))
 have hm2:m'<50:=by rw [m2] at hm';lia
 have hnl:=hns.len
 have tr2:σ'[2]?=some (.sd []):=fr.at (fun h=>by rcases h with h|h|h|h <;> lia) rfl
 refine mkl0 (by rw [List.length_map];unfold cap;lia) ?_
 refine t_nil ⟨⟨rfl,List.nodup_cons.mpr ⟨List.not_mem_nil,List.nodup_nil⟩,by decide⟩,?_⟩
 let fe:List (Str×V):=[(Mine.S "Fields",.list (ks.map refV))]
 have hfe:asc fe (Mine.S "Fields")=some (.list (ks.map refV)):=if_pos rfl
 refine t_expr (t_methO (t_var rfl rfl ?_))
 refine ⟨4,_,2,rfl,rfl,?_⟩
 refine t_cons (t_attr (t_var rfl rfl ?_))
 refine T.run (a:=V.int 1) (σ':=σ') rfl ?_
 refine t_cons (t_int (t_cons (t_dict0 (t_cons (t_ife (t_cmp (t_call (t_glob rfl (t_cons (t_var rfl rfl (t_cons (t_int (t_nil (t_fnc ?_))))))))))))))
 refine take_ok (n:=n+7) (xs:=xs') ls'.hp ls'.nn (by decide) fun k xs3 k1 k2 hx3=>?_
 refine t_int ?_
 refine T.run (a:=decide (k=1)) (σ':=σ'.set 0 (poolO xs3)) rfl ?_
 refine ⟨_,rfl,?_⟩
 have h13:(σ'.set 0 (poolO xs3))[1]?=some (.id tb'):=(at_ne (by lia)).trans ls'.h1
 have h23:(σ'.set 0 (poolO xs3))[2]?=some (.sd []):=(at_ne (by lia)).trans tr2
 have h33:(σ'.set 0 (poolO xs3))[3]?=some (.list (rs.map rowV)):=(at_ne (by lia)).trans ls'.hr
 have h43:(σ'.set 0 (poolO xs3))[4]?=some (.list (gs'.map grpV)):=(at_ne (by lia)).trans ls'.hg
 have h03:(σ'.set 0 (poolO xs3))[0]?=some (poolO xs3):=at_set ls'.hp
 have top:∀ tb2,(∀ j∈ns,ascI tb2 j=ascI tb' j)→Top tb2 ks rs gs' ns cc:=fun tb2 hj2=>by
  have eg:asc ([]:List (Str×V))=noGv:=rfl
  rw [eg] at hfo
  exact forest_fr (fun k' r g n' c' hn ht=>tree_fr (fun j hjn=>hj2 j (hn j hjn)) ht) hfo
 have fin:∀ (v:V) (tb2:List (Int×V)) (m2:Nat) (σ2:Mem),noU v=true→σ2[0]?=some (poolO xs3)→σ2[1]?=some (.id tb2)→σ2[2]?=some (.sd [])→σ2[3]?=some (.list (rs.map rowV))→σ2[4]?=some (.list (gs'.map grpV))→TB tb2 m2→1≤m2→m2<60→(∀ j∈ns,ascI tb2 j=ascI tb' j)→(v=.dict fe∨∃ k,1<k∧v=refV k∧ascI tb2 k=some (nodeV fe))→
   T (evs (callF (n+8)) .nil [.cell 0,shV,refV 1,.cell 3,.cell 4,.dict fe,.unb]) σ2 fun vs σ=>(([Mine.S "AcroForm"]:List Str).length=(v::vs).length∧([Mine.S "AcroForm"]:List Str).Nodup∧([Mine.S "AcroForm"]:List Str).length≤15)∧T (evs (callF (n+8)) .nil [.cell 0,shV,refV 1,.cell 3,.cell 4,.dict fe,.unb]) σ fun vs' σ=>T (callF (n+8) 2 (shV::.int 1::.int 0::.dict ([Mine.S "AcroForm"].zip (v::vs))::vs')) σ fun _ σ=>T (exs (callF (n+8)) (.cons (.put (.attr (.var 1) (Mine.S "trailer")) (.str (Mine.S "Root")) (.var 2)) (.cons (.ret (.tup (.cons (.var 1) (.cons (.frz (.var 3)) (.cons (.frz (.var 4)) .nil))))) .nil)) [.cell 0,shV,refV 1,.cell 3,.cell 4,.dict fe,.unb]) σ fun r σ=>Q (valueOf r.1) σ:=by
  intro v tb2 m2 σ2 hv g0 g1 g2 g3 g4 t2 hm1 hm60 hj2 hvv
  refine t_nil ⟨⟨rfl,List.nodup_cons.mpr ⟨List.not_mem_nil,List.nodup_nil⟩,by decide⟩,t_nil ?_⟩
  refine put_ok (n:=n+7) (k:=1) (v:=.dict [(Mine.S "AcroForm",v)]) rfl g1 (by rw [t2.len];unfold cap;lia) ?_
  refine t_put (t_var rfl rfl (t_attr (t_var rfl rfl ?_)))
  refine T.run (a:=V.cell 2) (σ':=_) rfl ?_
  refine t_str (set_sd ((at_ne (by lia)).trans g2) (by decide) ?_)
  refine t_ret (t_tup (t_cons (t_var rfl rfl (t_cons (t_frz (t_var rfl rfl ?_))))))
  refine frz_list ((at_ne (by lia)).trans ((at_ne (by lia)).trans g3)) ?_
  refine t_cons (t_frz (t_var rfl rfl ?_))
  refine frz_list ((at_ne (by lia)).trans ((at_ne (by lia)).trans ((at_ne (by lia)).trans g4))) ?_
  refine t_nil ⟨show 3<100 by decide,?_⟩
  refine q (stoI tb2 1 (nodeV [(Mine.S "AcroForm",v)])) (sto [] (Mine.S "Root") (refV 1)) m2 ks rs gs' ns cc xs3 _ ?_ ?_ hx3 ?_ ?_
  ·refine ⟨t2.put ⟨by lia,by lia⟩ ⟨show 1<50 by decide,.one⟩,hm60,⟨rfl,[(Mine.S "AcroForm",v)],v,fe,by rw [ascI_sto,if_pos rfl],if_pos rfl,?_,hfe⟩,top _ (fun j hjn=>?_),hns.nd,by lia,hinf,fun j hjn=>?_⟩
   ·rcases hvv with e|⟨k,e1,e2,e3⟩
    ·exact .inl e
    ·exact .inr ⟨k,e1,e2,by rw [ascI_sto,if_neg (by lia)];exact e3⟩
   ·have:=(hns.mem j hjn).1
    rw [ascI_sto,if_neg (by lia)];exact hj2 j hjn
   ·have:=(hns.mem j hjn).1
    lia
  ·exact (at_ne (by lia)).trans ((at_ne (by lia)).trans ((at_ne (by lia)).trans ((at_ne (by lia)).trans g0)))
  ·exact (at_ne (by lia)).trans ((at_ne (by lia)).trans ((at_ne (by lia)).trans (at_set g1)))
  ·exact (at_ne (by lia)).trans ((at_ne (by lia)).trans (at_set ((at_ne (by lia)).trans g2)))
 by_cases hk:k=1
 ·rw [decide_eq_true hk]
  refine t_methO (t_var rfl rfl ?_)
  refine ⟨4,_,3,rfl,rfl,t_cons (t_var rfl rfl (t_nil ?_))⟩
  refine add_ok (n:=n+6) (es:=fe) h13 ls'.t (by lia) ?_
  refine fin (refV ((m':Int)+1)) _ (m'+1) _ rfl ((at_ne (by lia)).trans h03) (at_set h13) ((at_ne (by lia)).trans h23) ((at_ne (by lia)).trans h33) ((at_ne (by lia)).trans h43) (ls'.t.add ⟨show 1<50 by decide,.one⟩) (by lia) (by lia) (fun j hjn=>?_) (.inr ⟨_,by lia,rfl,by rw [ascI_sto,if_pos rfl]⟩)
  have:=(hns.mem j hjn).2
  rw [ascI_sto,if_neg (by lia)]
 ·rw [decide_eq_false hk]
  refine t_var rfl rfl ?_
  exact fin (.dict fe) tb' m' _ rfl h03 h13 h23 h33 h43 ls'.t (by lia) (by lia) (fun _ _=>rfl) (.inl rfl)
end
structure Hurt (es es':List (Str×V)):Prop where
 oth:∀ s,s≠Mine.S "Parent"→s≠Mine.S "T"→asc es' s=asc es s
 len:es'.length≤es.length+1
 par:asc es' (Mine.S "Parent")=asc es (Mine.S "Parent")∨∃ p:Par,(asc es' (Mine.S "Parent")).getD .none=p.val∧∀ m,p=.ref m→1≤m
 ti:asc es' (Mine.S "T")=asc es (Mine.S "T")∨((asc es (Mine.S "T")).isSome=true∧asc es' (Mine.S "T")=some (strV [97,46,98]))
theorem del_len (k:Str):∀ es:List (Str×V),(del es k).length≤es.length
 | []=>Nat.le_refl _
 | (j,u)::es=>by
  show (if j=k then es else (j,u)::del es k).length≤_
  by_cases h:j=k
  ·rw [if_pos h];exact Nat.le_succ _
  ·rw [if_neg h];exact Nat.succ_le_succ (del_len k es)
theorem asc_del (k s:Str):∀ es:List (Str×V),KN es→asc (del es k) s=if k=s then none else asc es s
 | [],_=>by by_cases h:k=s <;> simp [h,del,asc]
 | (j,u)::es,h=>by
  obtain ⟨h1,h2⟩:=List.nodup_cons.mp (show (j::es.map (·.1)).Nodup from h)
  have e2:asc ((j,u)::es) s=if j=s then some u else asc es s:=rfl
  have e1:del ((j,u)::es) k=if j=k then es else (j,u)::del es k:=rfl
  rw [e1,e2]
  by_cases hj:j=k
  ·rw [if_pos hj]
   subst hj
   by_cases hs:j=s
   ·rw [if_pos hs]
    subst hs
    cases ha:asc es j with
    | none=>rfl
    | some v=>exact absurd ((asc_iff es).mp (by rw [ha];rfl)) h1
   ·rw [if_neg hs,if_neg hs]
  ·rw [if_neg hj]
   have e3:asc ((j,u)::del es k) s=if j=s then some u else asc (del es k) s:=rfl
   rw [e3,asc_del k s es h2]
   by_cases hs:j=s
   ·rw [if_pos hs,if_pos hs,if_neg (fun e=>hj (hs.trans e.symm))]
   ·rw [if_neg hs,if_neg hs]
theorem incI_of:∀ tb:List (Int×V),(tb.map (·.1)).Pairwise (·<·)→incI tb=true
 | [],_=>rfl
 | (k,v)::tb,h=>by
  obtain ⟨h1,h2⟩:=List.pairwise_cons.mp (show (k::tb.map (·.1)).Pairwise (·<·) from h)
  show (tb.all (fun e=>decide (k<e.1))&&incI tb)=true
  rw [incI_of tb h2,Bool.and_true,List.all_eq_true]
  intro e he
  exact decide_eq_true (h1 _ (List.mem_map.mpr ⟨e,he,rfl⟩))
theorem kys_inc (m:Nat):(kys m).Pairwise (·<·):=by
 unfold kys
 rw [List.pairwise_map]
 exact List.Pairwise.imp (fun h=>by lia) List.pairwise_lt_range
theorem kys_at {m i:Nat} (h:i<m):((kys m).map V.int)[i]?=some (.int ((i:Int)+1)):=by
 unfold kys
 rw [List.getElem?_map,List.getElem?_map,List.getElem?_range h]
 rfl
section
variable {n c m:Nat} {σ:Mem} {Q:V→Mem→Prop} {S:Fl×Env'→Mem→Prop} {es:List (Str×V)} {xs:List Int} {ss:MSs} {tb:List (Int×V)}
theorem numbers_ok (h1:σ[1]?=some (.id tb)) (t:TB tb m) (hm:m<60) (q:Q (.list ((kys m).map V.int)) σ):T (callF (n+1) 4 [shV]) σ Q:=by
 refine t_fun (f:=f_Shelf_numbers) rfl rfl rfl ?_
 dsimp only [f_Shelf_numbers]
 refine t_ret (t_make (t_attr (t_var rfl rfl ?_)))
 refine T.run (a:=V.cell 1) (σ':=σ) rfl ?_
 refine T.bnd (m:=kind3 (.cell 1)) (.run (kind_id h1) ?_)
 refine T.bnd (m:=rdId (.cell 1)) (.run (rd_id h1) ?_)
 have hi:incI tb=true:=incI_of tb (by rw [t.kys];exact kys_inc m)
 rw [hi,decide_eq_true (by rw [t.len];lia)]
 have em:tb.map (fun e=>V.int e.1)=(kys m).map V.int:=by rw [← t.kys,List.map_map];rfl
 rw [em]
 refine mkl0 (by rw [List.length_map,← t.kys,List.length_map,t.len];unfold cap;lia) ?_
 exact q
theorem hurt_mid {w j:Int} (e:ES σ c xs es) (kn:KN es) (hl:es.length<50)
  (q:∀ (es':List (Str×V)) (xs':List Int) (σ':Mem),Hurt es es'→ES σ' c xs' es'→F2 c σ σ'→T (exs (callF (n+2)) ss [.cell 0,shV,.int w,.int j,.cell c]) σ' S) :
  T (exs (callF (n+2)) (.cons (.ifs (.cmp .eq (.var 2) (.int 1))
  (.cons (.expr (.meth (.var 4) (Mine.S "pop") (.cons (.str (Mine.S "Parent")) (.cons .none .nil))))
  .nil)
  (.cons (.ifs (.cmp .eq (.var 2) (.int 2))
  (.cons (.put (.var 4) (.str (Mine.S "Parent")) (.call (.glob 2) (.cons (.bin .add false (.int 1) (.call (.glob 55) (.cons (.var 0) (.cons (.int 9) .nil)))) (.cons (.int 0) .nil))))
  .nil)
  (.cons (.ifs (.cmp .eq (.var 2) (.int 3))
  (.cons (.put (.var 4) (.str (Mine.S "Parent")) (.int 5))
  .nil)
  (.cons (.ifs (.and (.cons (.cmp .eq (.var 2) (.int 4)) (.cons (.cmp .in (.str (Mine.S "T")) (.var 4)) .nil)))
  (.cons (.put (.var 4) (.str (Mine.S "T")) (.call (.glob 1) (.cons (.byts [97,46,98]) .nil)))
  .nil)
  .nil)
  .nil))
  .nil))
  .nil)) ss) [.cell 0,shV,.int w,.int j,.cell c]) σ S:=by
 have same:Hurt es es:=⟨fun _ _ _=>rfl,Nat.le_succ _,.inl rfl,.inl rfl⟩
 have setP:∀ (v:V) (p:Par),v=p.val→(∀ m,p=.ref m→1≤m)→Hurt es (optput es (Mine.S "Parent") (some v)):=fun v p hv hp=>
  ⟨fun s h1 h2=>by rw [asc_optput,if_neg (Ne.symm h1)],optput_len _ _ _,.inr ⟨p,by rw [asc_optput,if_pos rfl];exact hv,hp⟩,.inl (by rw [asc_optput,if_neg (by decide +kernel)])⟩
 refine t_ifs (t_cmp (t_var rfl rfl (t_int ?_)))
 refine T.run (a:=decide (w=1)) (σ':=σ) rfl ⟨_,rfl,?_⟩
 by_cases w1:w=1
 ·rw [decide_eq_true w1]
  refine t_expr (t_meth (t_var rfl rfl (t_pre (pre_sd e.hc) (t_asks rfl ?_))))
  refine t_cons (t_str (t_cons (t_none (t_nil (t_pre (pre_sd e.hc) (t_same (popk_sd e.hc ?_)))))))
  refine t_end (t_cont ?_)
  refine q (del es (Mine.S "Parent")) xs _ ⟨fun s h1 h2=>by rw [asc_del _ _ _ kn,if_neg (Ne.symm h1)],Nat.le_succ_of_le (del_len _ _),.inr ⟨.none,by rw [asc_del _ _ _ kn,if_pos rfl];rfl,fun m h=>(nomatch h)⟩,.inl (by rw [asc_del _ _ _ kn,if_neg (by decide +kernel)])⟩ (e.cell _) ((F2.refl c σ).cell _)
 rw [decide_eq_false w1]
 refine t_ifs (t_cmp (t_var rfl rfl (t_int ?_)))
 refine T.run (a:=decide (w=2)) (σ':=σ) rfl ⟨_,rfl,?_⟩
 by_cases w2:w=2
 ·rw [decide_eq_true w2]
  refine t_put (t_call (t_glob rfl (t_cons (t_bin (t_int (t_call (t_glob rfl (t_cons (t_var rfl rfl (t_cons (t_int (t_nil (t_fnc ?_)))))))))))))
  refine take_es (n:=n+1) (c:=c) e (by decide) fun k xs' σ' k1 k2 e' f'=>?_
  refine T.run (a:=V.int (1+k)) (σ':=σ') rfl ?_
  refine t_cons (t_int (t_nil (t_clsc (t_new (f:=i_Reference) rfl rfl ?_))))
  dsimp only [i_Reference]
  ext
  refine put_es e' (by unfold cap;lia) fun e3 f3=>?_
  refine t_end (t_cont (t_end (t_cont ?_)))
  exact q _ xs' _ (setP _ (.ref (1+k)) rfl (fun m h=>by cases h;lia)) e3 (f'.trans f3)
 rw [decide_eq_false w2]
 refine t_ifs (t_cmp (t_var rfl rfl (t_int ?_)))
 refine T.run (a:=decide (w=3)) (σ':=σ) rfl ⟨_,rfl,?_⟩
 by_cases w3:w=3
 ·rw [decide_eq_true w3]
  refine t_put (t_int (t_var rfl rfl (t_str ?_)))
  refine put_es e (by unfold cap;lia) fun e3 f3=>?_
  refine t_end (t_cont (t_end (t_cont (t_end (t_cont ?_)))))
  exact q _ xs _ (setP _ .five rfl (fun m h=>(nomatch h))) e3 f3
 rw [decide_eq_false w3]
 refine t_ifs (t_and (t_and_cons (t_cmp (t_var rfl rfl (t_int ?_)))))
 refine T.run (a:=decide (w=4)) (σ':=σ) rfl ⟨_,rfl,?_⟩
 have stay:T (exs (callF (n+2)) .nil [.cell 0,shV,.int w,.int j,.cell c]) σ fun r σ=>T (cont (callF (n+2)) .nil r) σ fun r σ=>T (cont (callF (n+2)) .nil r) σ fun r σ=>T (cont (callF (n+2)) .nil r) σ fun r σ=>T (cont (callF (n+2)) ss r) σ S:=
  t_end (t_cont (t_end (t_cont (t_end (t_cont (t_end (t_cont (q es xs σ same e (.refl c σ)))))))))
 by_cases w4:w=4
 ·rw [decide_eq_true w4]
  refine t_and_cons (t_cmp (t_str (t_var rfl rfl (in_sd e.hc ?_))))
  refine ⟨_,rfl,?_⟩
  cases hT:(asc es (Mine.S "T")).isSome with
  | false=>exact ⟨false,rfl,stay⟩
  | true=>
   refine t_and_nil ⟨true,rfl,?_⟩
   refine t_put (t_call (t_glob rfl (t_cons (t_byts (t_nil ?_)))))
   refine t_clsc (t_new (f:=i_String) rfl rfl ?_)
   dsimp only [i_String]
   ext
   refine put_es e (by unfold cap;lia) fun e3 f3=>?_
   refine t_end (t_cont (t_end (t_cont (t_end (t_cont (t_end (t_cont ?_)))))))
   exact q _ xs _ ⟨fun s h1 h2=>by rw [asc_optput,if_neg (Ne.symm h2)],optput_len _ _ _,.inl (by rw [asc_optput,if_neg (by decide +kernel)]),.inr ⟨hT,by rw [asc_optput,if_pos rfl];rfl⟩⟩ e3 f3
 ·rw [decide_eq_false w4]
  exact ⟨false,rfl,stay⟩
theorem hurt_ok (h0:σ[0]?=some (poolO xs)) (nn:NN xs) (h1:σ[1]?=some (.id tb)) (l2:2<σ.length) (t:TB tb m) (hm:1≤m∧m<60) (q0:∀ σ',σ'[1]?=σ[1]?→σ'[2]?=σ[2]?→Q .none σ')
  (q1:∀ (j:Int) (es es':List (Str×V)) (σ':Mem),j≠1→ascI tb j=some (nodeV es)→es.length<50→asc es (Mine.S "Fields")=none→Hurt es es'→σ'[1]?=some (.id (stoI tb j (nodeV es')))→σ'[2]?=σ[2]?→Q .none σ'):T (callF (n+3) 48 [.cell 0,shV]) σ Q:=by
 refine t_fun (f:=f_law_hurt) rfl rfl rfl ?_
 dsimp only [f_law_hurt]
 refine t_asgs (t_tup (t_cons (t_call (t_glob rfl (t_cons (t_var rfl rfl (t_cons (t_int (t_nil (t_fnc ?_))))))))))
 refine take_ok (n:=n+1) (xs:=xs) h0 nn (by decide) fun w xs1 w1 w2 nn1=>?_
 have g1:(σ.set 0 (poolO xs1))[1]?=some (.id tb):=(at_ne (by lia)).trans h1
 refine t_cons (t_sub (t_methO (t_var rfl rfl ?_)))
 refine ⟨4,_,4,rfl,rfl,t_nil (numbers_ok (n:=n+1) g1 t hm.2 ?_)⟩
 refine t_bin (t_call (t_glob rfl (t_cons (t_var rfl rfl (t_cons (t_int (t_nil (t_fnc ?_))))))))
 refine take_ok (n:=n+1) (xs:=xs1) (at_set h0) nn1 (by decide) fun k xs2 k1 k2 nn2=>?_
 rw [List.set_set]
 have g2:(σ.set 0 (poolO xs2))[1]?=some (.id tb):=(at_ne (by lia)).trans h1
 refine t_call (t_glob rfl (t_cons (t_methO (t_var rfl rfl ?_))))
 refine ⟨4,_,4,rfl,rfl,t_nil (numbers_ok (n:=n+1) g2 t hm.2 (t_nil (t_bi ?_)))⟩
 have hkl:((kys m).map V.int).length=m:=by rw [List.length_map,← t.kys,List.length_map,t.len]
 refine T.run (a:=V.int (((kys m).map V.int).length:Int)) (σ':=σ.set 0 (poolO xs2)) rfl ?_
 rw [hkl]
 refine mod_int (by lia) ?_
 obtain ⟨i,hi⟩:∃ i:Nat,Int.fmod k m=(i:Int):=⟨(Int.fmod k m).toNat,by rw [Int.toNat_of_nonneg (Int.fmod_nonneg k1 (by lia))]⟩
 have him:i<m:=by
  have:=Int.fmod_lt_of_pos k (show (0:Int)<m by lia)
  lia
 rw [hi]
 refine T.run (a:=V.int ((i:Int)+1)) (σ':=σ.set 0 (poolO xs2)) ?_ ?_
 ·show (if (0:Int)≤(i:Int) then lft (((kys m).map V.int)[((i:Int)).toNat]?) else fail) (σ.set 0 (poolO xs2))=_
  rw [if_pos (by lia),Int.toNat_natCast,kys_at him];rfl
 refine t_nil ⟨show 2<100 by decide,_,rfl,?_⟩
 obtain ⟨v,hv⟩:=Option.isSome_iff_exists.mp (t.has.mpr (show 1≤(i:Int)+1∧(i:Int)+1≤m by lia))
 obtain ⟨es,rfl,hrow⟩:=t.rows _ _ hv
 generalize hj:(i:Int)+1=j at hv ⊢
 refine t_asg (t_make (t_sub (t_sub (t_attr (t_var rfl rfl ?_)))))
 refine T.run (a:=V.cell 1) (σ':=σ.set 0 (poolO xs2)) rfl ?_
 refine t_var rfl rfl (get_id g2 hv ?_)
 refine t_int ?_
 refine T.run (a:=V.dict es) (σ':=σ.set 0 (poolO xs2)) rfl ?_
 have hes:=hrow.len
 refine dictof1 (by unfold cap;lia) ?_
 have hlen:(σ.set 0 (poolO xs2)).length=σ.length:=List.length_set
 have e:ES (σ.set 0 (poolO xs2)++[Ob.sd es]) (σ.set 0 (poolO xs2)).length xs2 es:=⟨by lia,(List.getElem?_append_left (by lia)).trans (at_set h0),nn2,at_new _ _⟩
 have a1:(σ.set 0 (poolO xs2)++[Ob.sd es])[1]?=some (.id tb):=(List.getElem?_append_left (by lia)).trans g2
 have a2:(σ.set 0 (poolO xs2)++[Ob.sd es])[2]?=σ[2]?:=(List.getElem?_append_left (by lia)).trans (at_ne (by lia))
 generalize hc:(σ.set 0 (poolO xs2)).length=c at e hlen ⊢
 refine t_ifs (t_or (t_or_cons (t_cmp (t_var rfl rfl (t_int ?_)))))
 refine T.run (a:=decide (j=1)) (σ':=_) rfl ⟨_,rfl,?_⟩
 by_cases hj1:j=1
 ·rw [decide_eq_true hj1]
  exact ⟨true,rfl,t_ret0 (t_contr (q0 _ (a1.trans h1.symm) a2))⟩
 rw [decide_eq_false hj1]
 refine t_or_cons (t_cmp (t_str (t_var rfl rfl (in_sd e.hc ?_))))
 refine ⟨_,rfl,?_⟩
 cases hF:asc es (Mine.S "Fields") with
 | some x=>exact ⟨true,rfl,t_ret0 (t_contr (q0 _ (a1.trans h1.symm) a2))⟩
 | none=>
  refine t_or_nil ⟨false,rfl,t_end (t_cont ?_)⟩
  refine hurt_mid (n:=n) e hrow.kn hes fun es' xs3 σ3 hu e3 f3=>?_
  have lc:=at_lt e.hc
  have b1:σ3[1]?=some (.id tb):=(f3.kp 1 (by lia) (by lia) (at_lt a1)).trans a1
  have b2:σ3[2]?=σ[2]?:=(f3.kp 2 (by lia) (by lia) (by lia)).trans a2
  refine t_expr (t_methO (t_var rfl rfl ?_))
  refine ⟨4,_,2,rfl,rfl,?_⟩
  refine t_cons (t_var rfl rfl (t_cons (t_int (t_cons (t_frz (t_var rfl rfl (frz_sd e3.hc (t_nil ?_))))))))
  refine put_ok (n:=n+1) rfl ((at_ne (by lia)).trans b1) (by rw [t.len];unfold cap;lia) ?_
  refine t_end ?_
  exact q1 j es es' _ hj1 hv hes hF hu (at_set ((at_ne (by lia)).trans b1)) ((at_ne (by lia)).trans ((at_ne (by lia)).trans b2))
end
theorem hurt_node {es es':List (Str×V)} (hu:Hurt es es') {p:Par} {t:Option (List UInt8)} (h:NodeOK es p t):∃ p' t',NodeOK es' p' t'∧(t≠none→t'≠none):=by
 have hp:∃ p':Par,(asc es' (Mine.S "Parent")).getD .none=p'.val∧∀ m,p'=.ref m→1≤m:=by
  rcases hu.par with e|⟨p',e1,e2⟩
  ·exact ⟨p,by rw [e];exact h.par,h.pos⟩
  ·exact ⟨p',e1,e2⟩
 obtain ⟨p',hp1,hp2⟩:=hp
 rcases hu.ti with e|⟨e1,e2⟩
 ·exact ⟨p',t,⟨hp1,hp2,by rw [e];exact h.ti,h.tok⟩,id⟩
 ·exact ⟨p',some [97,46,98],⟨hp1,hp2,e2,fun b hb=>by cases hb;simp [byStrs]⟩,fun _ h=>(nomatch h)⟩
section
variable {tb:List (Int×V)} {j:Int} {es es':List (Str×V)}
theorem hurt_row (hj:ascI tb j=some (nodeV es)) (hl:es.length<50) (hu:Hurt es es') {k:Int} {e:List (Str×V)} (hk:ascI tb k=some (nodeV e)):∃ e',ascI (stoI tb j (nodeV es')) k=some (nodeV e')∧((e'=e)∨(Hurt e e'∧e.length<50)):=by
 rw [ascI_sto]
 by_cases h:j=k
 ·subst h
  rw [hj] at hk
  cases hk
  exact ⟨es',if_pos rfl,.inr ⟨hu,hl⟩⟩
 ·exact ⟨e,by rw [if_neg h];exact hk,.inl rfl⟩
theorem hurt_full (hj:ascI tb j=some (nodeV es)) (hl:es.length<50) (hu:Hurt es es') {k:Int} {e:List (Str×V)} {p:Par} {t:Option (List UInt8)} (hk:ascI tb k=some (nodeV e)) (hn:NodeOK e p t) (hlen:e.length<100) :
  ∃ e' p' t',ascI (stoI tb j (nodeV es')) k=some (nodeV e')∧NodeOK e' p' t'∧(t≠none→t'≠none)∧e'.length<100∧∀ s,s≠Mine.S "Parent"→s≠Mine.S "T"→asc e' s=asc e s:=by
 obtain ⟨e',h1,h2⟩:=hurt_row hj hl hu hk
 rcases h2 with rfl|⟨h2,h3⟩
 ·exact ⟨e',p,t,h1,hn,id,hlen,fun _ _ _=>rfl⟩
 ·obtain ⟨p',t',h4,h5⟩:=hurt_node h2 hn
  have:=h2.len
  exact ⟨e',p',t',h1,h4,h5,by lia,h2.oth⟩
theorem inh_oth:∀ s∈inhK,s≠Mine.S "Parent"∧s≠Mine.S "T":=by unfold inhK;decide +kernel
theorem hurt_leaf (hj:ascI tb j=some (nodeV es)) (hl:es.length<50) (hu:Hurt es es') {need up parts gv k L e ns} (h:LeafOK tb need up parts gv k L e ns) (parts':List Str) :
  ∃ p' t' e',LeafOK (stoI tb j (nodeV es')) need up parts' gv k ⟨L.k,L.up,parts'++(t'.map txt).toList,L.i,L.ws,p',t',L.x0,L.wh⟩ e' ns:=by
 obtain ⟨e',p',t',h1,h2,h3,h4,h5⟩:=hurt_full hj hl hu h.row h.node h.len
 have hK:asc e' (Mine.S "Kids")=asc e (Mine.S "Kids"):=h5 _ (by decide +kernel) (by decide +kernel)
 have hS:asc e' (Mine.S "Subtype")=asc e (Mine.S "Subtype"):=h5 _ (by decide +kernel) (by decide +kernel)
 refine ⟨p',t',e',h.hk,h.hup,h1,h2,rfl,?_,?_,h.wl,h4,fun hn=>h3 (h.has hn),?_⟩
 ·exact info_congr (fun s hs=>by show (asc e' s).or (gv s)=(asc e s).or (gv s);rw [h5 s (inh_oth s hs).1 (inh_oth s hs).2]) h.info
 ·intro w hw
  obtain ⟨we,g1,g2⟩:=h.wid w hw
  obtain ⟨we',g3,g4⟩:=hurt_row hj hl hu g1
  refine ⟨we',g3,?_⟩
  rcases g4 with rfl|⟨g4,_⟩
  ·exact g2
  ·exact ⟨by rw [g4.oth _ (by decide +kernel) (by decide +kernel)];exact g2.ap,by rw [g4.oth _ (by decide +kernel) (by decide +kernel)];exact g2.as⟩
 ·rw [hK,hS]
  rcases h.kids with hk|⟨k1,k2,k3,k4⟩
  ·exact .inl hk
  ·refine .inr ⟨k1,k2,k3,fun w hw=>?_⟩
   obtain ⟨we,g1,g2⟩:=k4 w hw
   obtain ⟨we',g3,g4⟩:=hurt_row hj hl hu g1
   refine ⟨we',g3,?_⟩
   rcases g4 with rfl|⟨g4,_⟩
   ·exact g2
   ·rcases g4.ti with e|⟨e1,_⟩
    ·rw [e];exact g2
    ·rw [g2] at e1;cases e1
structure Like (rs rs':List Leaf) (gs gs':List Grp):Prop where
 r:rs'.map rowV=rs.map rowV
 g:gs'.map grpV=gs.map grpV
 i:(∀ L∈rs,InfoOK (asc L.wh) L.i)→∀ L∈rs',InfoOK (asc L.wh) L.i
theorem Like.nil:Like [] [] [] []:=⟨rfl,rfl,fun _ _ h=>(nomatch h)⟩
theorem Like.append {a a' b b':List Leaf} {c c' d d':List Grp} (x:Like a a' c c') (y:Like b b' d d'):Like (a++b) (a'++b') (c++d) (c'++d'):=
 ⟨by rw [List.map_append,List.map_append,x.r,y.r],by rw [List.map_append,List.map_append,x.g,y.g],fun h L hL=>(List.mem_append.mp hL).elim (x.i (fun L hL=>h L (List.mem_append_left _ hL)) L) (y.i (fun L hL=>h L (List.mem_append_right _ hL)) L)⟩
theorem forest_hurt {P P':Int→List Leaf→List Grp→List Int→Nat→Prop} (hp:∀ k r g n c,P k r g n c→∃ r' g',P' k r' g' n c∧Like r r' g g') {ks rs gs ns c} (h:Forest P ks rs gs ns c):∃ rs' gs',Forest P' ks rs' gs' ns c∧Like rs rs' gs gs':=
 h.ind (G:=fun ks rs gs ns c=>∃ rs' gs',Forest P' ks rs' gs' ns c∧Like rs rs' gs gs') ⟨[],[],.mk0,.nil⟩ fun k' ks r1 g1 n1 c1 r2 g2 n2 c2 h1 _ ih=>(hp _ _ _ _ _ h1).elim fun r' w=>w.elim fun g' w=>ih.elim fun r2' w2=>w2.elim fun g2' w2=>⟨_,_,.mk1 w.1 w2.1,w.2.append w2.2⟩
theorem leaf_like (L:Leaf) (parts:List Str) (p:Par) (t:Option (List UInt8)):Like [L] [⟨L.k,L.up,parts,L.i,L.ws,p,t,L.x0,L.wh⟩] [] []:=⟨rfl,rfl,fun h L' hL=>by
 have:=List.mem_singleton.mp hL
 subst this
 exact h L (.head _)⟩
theorem tree_hurt (hj:ascI tb j=some (nodeV es)) (hl:es.length<50) (hu:Hurt es es'):∀ {l need up parts gv k rs gs ns c},Tree tb l need up parts gv k rs gs ns c→∀ parts':List Str,∃ rs' gs',Tree (stoI tb j (nodeV es')) l need up parts' gv k rs' gs' ns c∧Like rs rs' gs gs':=by
 intro l
 induction l with
 | zero=>
  rintro need up parts gv k rs gs ns c ⟨L,e,h,e1,e2,e3⟩ parts'
  obtain ⟨p',t',e',h'⟩:=hurt_leaf hj hl hu h parts'
  exact ⟨_,[],⟨_,e',h',rfl,rfl,e3⟩,by rw [e1,e2];exact leaf_like L _ p' t'⟩
 | succ l ih=>
  rintro need up parts gv k rs gs ns c (⟨L,e,h,e1,e2,e3⟩|⟨e,p,t,ks,gs',ns',c',hG,e1,e2,e3,hf⟩) parts'
  ·obtain ⟨p',t',e',h'⟩:=hurt_leaf hj hl hu h parts'
   exact ⟨_,[],.inl ⟨_,e',h',rfl,rfl,e3⟩,by rw [e1,e2];exact leaf_like L _ p' t'⟩
  ·obtain ⟨e',p',t',h1,h2,h3,h4,h5⟩:=hurt_full hj hl hu hG.row hG.node hG.len
   have hK:asc e' (Mine.S "Kids")=asc e (Mine.S "Kids"):=h5 _ (by decide +kernel) (by decide +kernel)
   have hgv:nextGv e' gv=nextGv e gv:=by
    funext s
    unfold nextGv
    by_cases hs:s∈inhK
    ·rw [if_pos hs,if_pos hs,h5 s (inh_oth s hs).1 (inh_oth s hs).2]
    ·rw [if_neg hs,if_neg hs]
   obtain ⟨rs2,gs2,hf2,lk⟩:=forest_hurt (P':=fun k' r g n c=>Tree (stoI tb j (nodeV es')) l true (some k) (parts'++(t'.map txt).toList) (nextGv e' gv) k' r g n c) (fun k' r g n c ht=>by rw [hgv];exact ih ht _) hf
   refine ⟨rs2,⟨k,up,p',t'⟩::gs2,.inr ⟨e',p',t',ks,gs2,ns',c',⟨h1,h2,fun hn=>h3 (hG.has hn),h4,hK.trans hG.kids,hG.ne,hG.pos⟩,rfl,e2,e3,hf2⟩,?_⟩
   rw [e1]
   exact ⟨lk.r,by rw [List.map_cons,List.map_cons,lk.g],lk.i⟩
theorem top_hurt (hj:ascI tb j=some (nodeV es)) (hl:es.length<50) (hu:Hurt es es') {ks rs gs ns c} (h:Top tb ks rs gs ns c):∃ rs' gs',Top (stoI tb j (nodeV es')) ks rs' gs' ns c∧Like rs rs' gs gs':=
 forest_hurt (P':=fun k r g n c=>Tree (stoI tb j (nodeV es')) 2 false none [] noGv k r g n c) (fun _ _ _ _ _ ht=>tree_hurt hj hl hu ht []) h
theorem form_hurt {tr:List (Str×V)} {ks:List Int} (hj:ascI tb j=some (nodeV es)) (hj1:j≠1) (hF:asc es (Mine.S "Fields")=none) (h:FormX tb tr ks):FormX (stoI tb j (nodeV es')) tr ks:=by
 obtain ⟨re,v,fe,h1,h2,h3,h4⟩:=h.more
 refine ⟨h.root,re,v,fe,by rw [ascI_sto,if_neg hj1];exact h1,h2,?_,h4⟩
 rcases h3 with e|⟨k,e1,e2,e3⟩
 ·exact .inl e
 ·refine .inr ⟨k,e1,e2,?_⟩
  rw [ascI_sto]
  by_cases h:j=k
  ·subst h
   rw [hj] at e3
   cases e3
   rw [hF] at h4
   cases h4
  ·rw [if_neg h];exact e3
end
theorem t_upto {C:Calls} {a b:ME} {ρ:Env'} {σ:Mem} {Q:V→Mem→Prop} (h:T (ev C a ρ) σ (fun x σ=>T (ev C b ρ) σ fun y σ=>∃ (k:Int) (l:List V),y=.int k∧x=.list l∧0≤k∧(l.take k.toNat).length<cap∧Q (.list (l.take k.toNat)) σ)):T (ev C (.upto a b) ρ) σ Q:=
 T.bnd (m:=ev C a ρ) (h.mono fun x σ h=>T.bnd (m:=ev C b ρ) (h.mono fun y σ ⟨k,l,e1,e2,h1,h2,h3⟩=>by
  subst e1 e2
  show T (if 0≤k then bnd (rdList (.list l)) fun xs=>mkL false (xs.take k.toNat) else fail) σ Q
  rw [if_pos h1]
  exact .bnd (.run (a:=l) (σ':=σ) rfl (mkl0 h2 h3))))
noncomputable def drawn (a:Int):Int:=Int.fmod (if a<0 then -a else a) (10 ^ 80)
theorem drawn_nn (a:Int):0≤drawn a:=by
 unfold drawn
 refine Int.fmod_nonneg ?_ (by decide)
 by_cases h:a<0
 ·rw [if_pos h];lia
 ·rw [if_neg h];lia
theorem law_plain (ns:List Int):T (callF 14 51 [.list (ns.map V.int)]) [] fun v _=>v=.bool true:=by
 refine t_fun (f:=f_law) rfl rfl rfl ?_
 dsimp only [f_law]
 have hlen:(ns.take 24).length≤24:=List.length_take_le _ _
 refine t_asg (t_lcomp (t_fwd (t_upto (t_var rfl rfl (t_int ⟨24,_,rfl,rfl,by decide,?_⟩)))))
 have e24:(ns.map V.int).take (24:Int).toNat=(ns.take 24).map V.int:=by
  show (ns.map V.int).take 24=_
  rw [List.map_take]
 rw [e24]
 refine ⟨by rw [List.length_map];unfold cap;lia,items_list ?_⟩
 refine comp_map2 (ws:=ns.take 24) (enc:=V.int) (f:=fun a=>V.int (drawn a)) (fun a ha Q hq=>?_) ?_
 ·refine t_bin (t_call (t_glob rfl (t_cons (t_var rfl rfl (t_nil (t_bi ?_))))))
  refine T.run (a:=V.int (if a<0 then -a else a)) (σ':=[]) rfl ?_
  refine t_bin (t_int (t_int ?_))
  refine T.run (a:=V.int (10 ^ 80)) (σ':=[]) rfl ?_
  exact mod_int (by decide) hq
 refine mkl1 (by rw [List.length_map];unfold cap;lia) ?_
 have em:(ns.take 24).map (fun a=>V.int (drawn a))=((ns.take 24).map drawn).map V.int:=by rw [List.map_map];rfl
 rw [em]
 have hnn:NN ((ns.take 24).map drawn):=fun x hx=>by
  obtain ⟨a,_,rfl⟩:=List.mem_map.mp hx
  exact drawn_nn a
 refine t_asgs (t_call (t_glob rfl (t_cons (t_var rfl rfl (t_nil (t_fnc ?_))))))
 refine form_ok (n:=4) (xs:=(ns.take 24).map drawn) hnn fun tb tr m ks rs gs ns' c xs' σ' hb h0 nn h1 h2=>?_
 refine ⟨_,rfl,?_⟩
 refine t_expr (t_call (t_glob rfl (t_cons (t_var rfl rfl (t_cons (t_var rfl rfl (t_nil (t_fnc ?_))))))))
 have hm1:1≤m:=by
  obtain ⟨re,v,fe,g1,_⟩:=hb.form.more
  have:=hb.t.has.mp (show (ascI tb 1).isSome=true by rw [g1];rfl)
  lia
 have hnl:=hb.nl
 refine hurt_ok (n:=10) (tb:=tb) (m:=m) h0 nn h1 (at_lt h2) hb.t ⟨hm1,hb.m⟩ (fun σ2 g1 g2=>?_) fun j es es' σ2 hj1 hj hl hF hu g1 g2=>?_
 ·have hc:=top_c hb.top
  exact tail_ok (n:=5) (g1.trans h1) (g2.trans h2) hb.form.ok hb.top hb.nd (by lia) (by lia) hb.inf
 ·obtain ⟨rs',gs',ht,lk⟩:=top_hurt hj hl hu hb.top
  have hc:=top_c ht
  rw [← lk.r,← lk.g]
  exact tail_ok (n:=5) g1 (g2.trans h2) (form_hurt hj hj1 hF hb.form).ok ht hb.nd (by lia) (by lia) (lk.i hb.inf)
theorem plain (ns:List Int) (_:ns.length≤63):∃ σ',callF 14 51 [.list (ns.map V.int)] []=some (.bool true,σ'):=by
 obtain ⟨v,σ',h,rfl⟩:=law_plain ns
 exact ⟨σ',h⟩
end Mine.Pl
namespace Mine
open PySem PySem.Calls PyProof.Rows PySem.W
theorem faOf_cls (c:Nat):faOf (100+c)=caOf c:=by
 unfold faOf
 rw [if_neg (Nat.not_lt.mpr (Nat.le_add_right 100 c)),Nat.add_sub_cancel_left]
section
variable {Z:Sta} {F:Fz}
theorem ltk {a b:Nat} (h:Nat.blt a b=true):a<b:=Nat.le_of_ble_eq_true h
theorem kok_ok (hca:Z.ca=caOf) (h:kokChk Z.K=true):KOK Z.K Z.ca:=by
 rw [hca]
 refine andk h fun h1 h=>andk h fun h2 h=>andk h fun h3 h4=>⟨eq_of_beq h1,eq_of_beq h2,fun k hk=>andk (List.all_eq_true.mp h3 k (List.mem_range.mpr hk)) fun a h=>andk h fun b h=>andk h fun c h=>andk h fun d h=>andk h fun e f=>⟨a,b,c,d,e,f⟩,fun c hc hc3=>?_⟩
 refine ork (List.all_eq_true.mp h4 c (List.mem_range.mpr hc)) (fun h=>absurd (Nat.eq_of_beq_eq_true h) hc3) fun h=>andk h fun a1 h=>andk h fun a2 h=>andk h fun a3 h=>andk h fun a4 h=>andk h fun a5 h=>andk h fun a6 h=>andk h fun a7 h=>andk h fun a8 h=>andk h fun a9 a10=>?_
 exact ⟨a1,a2,eq_of_beq a3,eq_of_beq a4,fun f hf=>oBk' (List.all_eq_true.mp a5 f hf) fun attr e h=>⟨attr,e,h⟩,⟨a6,a7,a8⟩,fun k hk hne=>ork (List.all_eq_true.mp a9 k (List.mem_range.mpr hk)) (fun e=>absurd (eq_of_beq e) hne) id,fun hlt=>ork a10 (fun e=>notk e fun e=>nomatch e.symm.trans (Nat.ble_eq_true_of_le hlt)) id⟩
theorem gvA_ok (hca:Z.ca=caOf) (hfa:Z.fa=faOf) {v:V} {x:Value} (h:gvA v x=true):VR Z F v x:=by
 cases v with
 | cls c=>exact eq_of_beq h▸hca▸VR.cls c
 | fn k=>exact eq_of_beq h▸hfa▸VR.fn k
 | bi b=>exact eq_of_beq h▸VR.bi b
 | int i=>exact oIntk (G:=fun x=>VR Z F (.int i) x) h fun j t h=>eq_of_beq h▸.int i t
 | str i=>exact oStrk (G:=fun x=>VR Z F (.str i) x) h fun j t h=>eq_of_beq h▸.str i t
 | byts i=>exact oBytk (G:=fun x=>VR Z F (.byts i) x) h fun j t h=>eq_of_beq h▸.byts i t
 | _=>exact Bool.noConfusion h
theorem gvRow_ok (hca:Z.ca=caOf) (hfa:Z.fa=faOf) {vs:List V} {xs:List Value} (h:gvRow vs xs=true):VRs Z F vs xs:=by
 induction vs generalizing xs with
 | nil=>exact nilk (G:=fun xs=>VRs Z F [] xs) h .nil
 | cons v vs ih=>exact lck (G:=fun xs=>VRs Z F (v::vs) xs) h fun x xs h=>andk h fun h1 h2=>.cons (gvA_ok hca hfa h1) (ih h2)
theorem gv_ok (hca:Z.ca=caOf) (hfa:Z.fa=faOf) (X:∀ a o,Z.K.lookup a=some o→F.o a=some o) {v:V} {x:Value} (h:gvChk Z.K v x=true):VR Z F v x:=by
 cases v with
 | tup xs=>
  refine oRefk (G:=fun x=>VR Z F (.tup xs) x) h fun a h=>oBk' h fun o ho h=>?_
  cases o with|mk oc od oda osl=>
  refine oSeqk (G:=fun d=>Z.K.lookup a=some ⟨oc,od,d,osl⟩→VR Z F (.tup xs) (.ref a)) h (fun vs n h ho=>andk h fun h1 h=>andk h fun h2 h=>andk h fun h3 h=>andk h fun h4 h5=>?_) ho
  cases eq_of_beq h1
  cases Option.isNone_iff_eq_none.mp h2
  cases Array.isEmpty_iff.mp h3
  exact .tup (of_decide_eq_true h4) (X _ _ ho) (gvRow_ok hca hfa h5)
 | _=>exact gvA_ok hca hfa h
theorem globs_ok (hca:Z.ca=caOf) (hfa:Z.fa=faOf) (X:Z.K.In Z.h₀) (hg:Z.h₀.Ns mainGlobals Z.mg) (hb:Z.h₀.Ns builtinsNs Z.mb) (h:globChk Z.K=true):GlobsOK Z:=by
 refine ⟨fun g x v hx hv=>?_,hg,hb⟩
 refine oBk' h fun o1 k1 h=>oDctk (G:=fun d=>o1.data=d→∃ val,(Z.mg x=some val∨(Z.mg x=none∧Z.mb x=some val))∧∀ F:Fz,(∀ a o,Z.h₀.get? a=some o→F.o a=some o)→VR Z F v val) h (fun es n1 h d1=>oBk' h fun o2 k2 h=>oDctk (G:=fun d=>o2.data=d→∃ val,(Z.mg x=some val∨(Z.mg x=none∧Z.mb x=some val))∧∀ F:Fz,(∀ a o,Z.h₀.get? a=some o→F.o a=some o)→VR Z F v val) h (fun bs n2 h d2=>?_) rfl) rfl
 have f1:∀ y,nsFind es y=Z.mg y:=hg.elim fun o w=>w.elim fun es' w=>w.elim fun ep w=>by
  cases (X _ _ k1).symm.trans w.1
  cases d1.symm.trans w.2.1
  exact w.2.2.2
 have f2:∀ y,nsFind bs y=Z.mb y:=hb.elim fun o w=>w.elim fun es' w=>w.elim fun ep w=>by
  cases (X _ _ k2).symm.trans w.1
  cases d2.symm.trans w.2.1
  exact w.2.2.2
 have hm:=List.all_eq_true.mp h _ (List.mem_of_getElem? (l:=globNm.zip globs) (a:=(x,v)) (i:=g) (List.getElem?_zip_eq_some.mpr ⟨hx,hv⟩))
 have hm:(match nsQ es x with
  | some y=>gvChk Z.K v y
  | none=>oB (nsQ bs x) fun y=>gvChk Z.K v y)=true:=hm
 rw [nsQ_eq,nsQ_eq,f1,f2] at hm
 cases e:Z.mg x with
 | some val=>rw [e] at hm;exact ⟨val,.inl rfl,fun F k=>gv_ok hca hfa (fun a o q=>k a o (X a o q)) hm⟩
 | none=>rw [e] at hm;exact oBk' hm fun val e' hm=>⟨val,.inr ⟨rfl,e'⟩,fun F k=>gv_ok hca hfa (fun a o q=>k a o (X a o q)) hm⟩
theorem methOf_in {c:Nat} {n:Str} {k:Nat} (h:methOf c n=some k):(c,n,k)∈methL:=(Option.map_eq_some_iff.mp h).elim fun p w=>by
 have m:=List.mem_of_find?_eq_some w.1
 have q:=List.find?_some w.1
 cases p with|mk c' r=>
 cases r with|mk n' k'=>
 exact andk q fun q1 q2=>Nat.eq_of_beq_eq_true q1▸of_decide_eq_true q2▸w.2▸m
theorem meths_ok (hca:Z.ca=caOf) (hfa:Z.fa=faOf) (h:methChk Z.K=true):MethsOK Z:=by
 refine ⟨fun c n k hm=>?_⟩
 rw [hca,hfa]
 exact andk (List.all_eq_true.mp h _ (methOf_in hm)) fun h1 h=>andk h fun h2 h=>andk h fun h3 h=>andk h fun h4 h5=>notk h3 fun h3=>notk h5 fun h5=>⟨ltk h4,Nat.ne_of_beq_eq_false h5,eq_of_beq h1,eq_of_beq h2,fun hm=>nomatch h3.symm.trans (List.contains_iff_mem.mpr hm)⟩
theorem fns_ok (hfa:Z.fa=faOf) (h:fnsChk Z.K=true) (k:Nat) (f:MFun) (_:k<100) (hf:funOf k=some f):fnOK Z.K (Z.fa k) f=true∧keepIn Z.K (.ref (Z.fa k))=true:=by
 rw [hfa]
 exact andk (List.all_eq_true.mp h (f,k) (List.mk_mem_zipIdx_iff_getElem?.mpr hf)) fun a b=>⟨a,b⟩
theorem peek_load {K:Frag} {S:Setting} {α:Type} {a:Addr} {q:Option Value} {k:Obj→Sem α}:peek K S (.load a q k)=(match K.lookup a with
 | some o=>peek K S (k o)
 | none=>none):=by rw [peek];rfl
theorem peek_at {K:Frag} {S:Setting} {α:Type} {a:Addr} {q:Option Value} {k:Obj→Sem α} {o:Obj} {r:Option α} (hK:K.lookup a=some o) (h:peek K S (k o)=r):peek K S (.load a q k)=r:=by
 rw [peek_load,hK];exact h
noncomputable def loadOf {α:Type} (t:Sem α) (o:Obj):Option (Addr×Sem α):=match t with
 | .load a _ k=>some (a,k o)
 | _=>none
theorem peek_un {K:Frag} {S:Setting} {α:Type} {t:Sem α} {d:Addr} {o:Obj} {r:Option α} (hK:K.lookup d=some o) (h:(loadOf t o).map (fun p=>(p.1,peek K S p.2))=some (d,r)):peek K S t=r:=by
 cases t with
 | load a q k=>
  have h:=Prod.mk.inj (Option.some.inj h)
  cases h.1
  exact peek_at hK h.2
 | _=>exact nn h
noncomputable def Par3 (fd:FuncData) (n0 n1 n2:Str) (d:Addr):Prop:=∀ G:FuncData→Prop,(∀ (fd':FuncData) kd de a0 p0 a1 p1 a2 p2,G { fd' with params:=⟨[],[⟨n0,a0,p0⟩,⟨n1,a1,p1⟩,⟨n2,a2,p2⟩],none,[],kd,none,de⟩,defaults:=.ref d })→G fd
theorem map3 {l:List Arg} {n0 n1 n2:Str} {G:List Arg→Prop} (h:l.map (·.arg)=[n0,n1,n2]) (k:∀ a0 p0 a1 p1 a2 p2,G [⟨n0,a0,p0⟩,⟨n1,a1,p1⟩,⟨n2,a2,p2⟩]):G l:=by
 match l,h with
 | [⟨x0,a0,p0⟩,⟨x1,a1,p1⟩,⟨x2,a2,p2⟩],h=>
  have e1:=List.cons.inj h
  have e2:=List.cons.inj e1.2
  have e3:=List.cons.inj e2.2
  cases e1.1;cases e2.1;cases e3.1
  exact k ..
theorem par3_ok {fd:FuncData} {n0 n1 n2:Str} {d:Addr} (hp:plainParams fd.params [n0,n1,n2]=true) (hd:fd.defaults=.ref d):Par3 fd n0 n1 n2 d:=by
 intro G k
 refine andk hp fun h h5=>andk h fun h h4=>andk h fun h h3=>andk h fun h1 h2=>?_
 have e:∀ p,fd.params=p→G { fd with params:=p,defaults:=.ref d }→G fd:=fun p e g=>by
  cases e
  rw [← hd] at g
  exact g
 cases q:fd.params with|mk po ar va ko kd kw de=>
 rw [q] at h1 h2 h3 h4 h5
 cases List.isEmpty_iff.mp h1
 cases List.isEmpty_iff.mp h2
 cases Option.isNone_iff_eq_none.mp h3
 cases Option.isNone_iff_eq_none.mp h4
 exact map3 (G:=fun ar=>fd.params=⟨[],ar,none,[],kd,none,de⟩→G fd) (eq_of_beq h5) (fun a0 p0 a1 p1 a2 p2 q=>e _ q (k fd kd de a0 p0 a1 p1 a2 p2)) q
theorem bind1 {K:Frag} {fd:FuncData} {d:Addr} {oc od osl} {u:Value} {e:Nat} (P:Par3 fd (Mine.S "self") (Mine.S "octets") (Mine.S "is_hex") d) (hK:K.lookup d=some ⟨oc,od,.seq #[u] e,osl⟩) :
  (∀ S x a,peek K S (bindArgs fd ⟨[x,a],[]⟩)=some [(Mine.S "self",x),(Mine.S "octets",a),(Mine.S "is_hex",u)])∧∀ S x a b,peek K S (bindArgs fd ⟨[x,a,b],[]⟩)=some [(Mine.S "self",x),(Mine.S "octets",a),(Mine.S "is_hex",b)]:=
 P (fun fd=>(∀ S x a,peek K S (bindArgs fd ⟨[x,a],[]⟩)=some [(Mine.S "self",x),(Mine.S "octets",a),(Mine.S "is_hex",u)])∧∀ S x a b,peek K S (bindArgs fd ⟨[x,a,b],[]⟩)=some [(Mine.S "self",x),(Mine.S "octets",a),(Mine.S "is_hex",b)]) fun fd' kd de a0 p0 a1 p1 a2 p2=>⟨fun S x a=>peek_un hK rfl,fun S x a b=>peek_un hK rfl⟩
theorem bind2 {K:Frag} {fd:FuncData} {d:Addr} {oc od osl} {u v:Value} {e:Nat} (P:Par3 fd (Mine.S "self") (Mine.S "table") (Mine.S "trailer") d) (hK:K.lookup d=some ⟨oc,od,.seq #[u,v] e,osl⟩) :
  (∀ S x,peek K S (bindArgs fd ⟨[x],[]⟩)=some [(Mine.S "self",x),(Mine.S "table",u),(Mine.S "trailer",v)])∧(∀ S x a,peek K S (bindArgs fd ⟨[x,a],[]⟩)=some [(Mine.S "self",x),(Mine.S "table",a),(Mine.S "trailer",v)])∧∀ S x a b,peek K S (bindArgs fd ⟨[x,a,b],[]⟩)=some [(Mine.S "self",x),(Mine.S "table",a),(Mine.S "trailer",b)]:=
 P (fun fd=>(∀ S x,peek K S (bindArgs fd ⟨[x],[]⟩)=some [(Mine.S "self",x),(Mine.S "table",u),(Mine.S "trailer",v)])∧(∀ S x a,peek K S (bindArgs fd ⟨[x,a],[]⟩)=some [(Mine.S "self",x),(Mine.S "table",a),(Mine.S "trailer",v)])∧∀ S x a b,peek K S (bindArgs fd ⟨[x,a,b],[]⟩)=some [(Mine.S "self",x),(Mine.S "table",a),(Mine.S "trailer",b)]) fun fd' kd de a0 p0 a1 p1 a2 p2=>⟨fun S x=>peek_un hK rfl,fun S x a=>peek_un hK rfl,fun S x a b=>peek_un hK rfl⟩
theorem gvN_ok {v:V} {x:Value} (h:gvN v x=true):VR Z F v x:=by
 cases v with
 | none=>cases x with
  | none=>exact .none
  | _=>exact Bool.noConfusion h
 | bool b=>exact eq_of_beq h▸VR.bool b
 | _=>exact Bool.noConfusion h
theorem toL {vs:Array Value} {l:List Value} (h:vs.toList=l):vs=l.toArray:=Array.toList_inj.mp h
noncomputable def BindG (K:Frag) (f:MInit) (fd:FuncData):Prop:=∀ (x:Value) (xs:List Value),xs.length≤f.ps→f.ps≤xs.length+f.dflt.length→∃ dv:List Value,(∀ S,peek K S (bindArgs fd ⟨x::xs,[]⟩)=some (f.vars.zip (x::(xs++dv))))∧∀ Z F,VRs Z F (f.dflt.drop (xs.length+f.dflt.length-f.ps)) dv
theorem dflt_ok {f:MInit} {fd:FuncData} (hp:plainParams fd.params f.vars=true) (hn:f.vars.Nodup) (hl:f.vars.length=f.ps+1) (h:dfltChk Z.K f fd=true):BindG Z.K f fd:=by
 cases f with|mk ps vars dflt fields es=>
 cases dflt with
 | nil=>exact fun x xs h1 h2=>⟨[],fun S=>by
   rw [bindArgs_plain hp h hn (hl.trans (congrArg (·+1) (Nat.le_antisymm h2 h1))),List.append_nil]
   rfl,fun Z F=>by
   show VRs Z F (List.drop _ []) []
   rw [List.drop_nil]
   exact .nil⟩
 | cons a r=>
  cases r with
  | nil=>
   refine andk h fun hv h=>oRefk (G:=fun x=>fd.defaults=x→BindG Z.K ⟨ps,vars,[a],fields,es⟩ fd) h (fun t h hd=>oBk' h fun o ho h=>?_) rfl
   cases o with|mk oc od oda osl=>
   refine oSeqk (G:=fun d=>Z.K.lookup t=some ⟨oc,od,d,osl⟩→BindG Z.K ⟨ps,vars,[a],fields,es⟩ fd) h (fun vs n h ho=>l1k (G:=fun l=>vs.toList=l→BindG Z.K ⟨ps,vars,[a],fields,es⟩ fd) h (fun u h e=>?_) rfl) ho
   cases (of_decide_eq_true hv:vars=_)
   cases Nat.succ.inj hl
   cases toL e
   have B:=bind1 (par3_ok hp hd) ho
   intro x xs h1 h2
   match xs,h1,h2 with
   | [],_,h2=>exact absurd h2 (show ¬ 2≤0+1 by decide)
   | [y],_,_=>exact ⟨[u],fun S=>B.1 S x y,fun Z F=>.cons (gvN_ok h) .nil⟩
   | [y,z],_,_=>exact ⟨[],fun S=>B.2 S x y z,fun Z F=>.nil⟩
   | _::_::_::l,h1,_=>exact absurd h1 (Nat.not_le.mpr (Nat.succ_lt_succ (Nat.succ_lt_succ (Nat.zero_lt_succ _))))
  | cons b r=>
   cases r with
   | cons _ _=>exact Bool.noConfusion h
   | nil=>
    refine andk h fun hv h=>oRefk (G:=fun x=>fd.defaults=x→BindG Z.K ⟨ps,vars,[a,b],fields,es⟩ fd) h (fun t h hd=>oBk' h fun o ho h=>?_) rfl
    cases o with|mk oc od oda osl=>
    refine oSeqk (G:=fun d=>Z.K.lookup t=some ⟨oc,od,d,osl⟩→BindG Z.K ⟨ps,vars,[a,b],fields,es⟩ fd) h (fun vs n h ho=>l2k (G:=fun l=>vs.toList=l→BindG Z.K ⟨ps,vars,[a,b],fields,es⟩ fd) h (fun u v h e=>andk h fun hu hv'=>?_) rfl) ho
    cases (of_decide_eq_true hv:vars=_)
    cases Nat.succ.inj hl
    cases toL e
    have B:=bind2 (par3_ok hp hd) ho
    intro x xs h1 h2
    match xs,h1,h2 with
    | [],_,h2=>exact ⟨[u,v],fun S=>B.1 S x,fun Z F=>.cons (gvN_ok hu) (.cons (gvN_ok hv') .nil)⟩
    | [y],_,_=>exact ⟨[v],fun S=>B.2.1 S x y,fun Z F=>.cons (gvN_ok hv') .nil⟩
    | [y,z],_,_=>exact ⟨[],fun S=>B.2.2 S x y z,fun Z F=>.nil⟩
    | _::_::_::l,h1,_=>exact absurd h1 (Nat.not_le.mpr (Nat.succ_lt_succ (Nat.succ_lt_succ (Nat.zero_lt_succ _))))
theorem init_some {c:Nat} {f:MInit} (h:initOf c=some f):initL[c]?=some (some f):=by
 cases e:initL[c]? with
 | none=>exact nn ((congrArg Option.join e).symm.trans h)
 | some o=>exact congrArg some ((congrArg Option.join e).symm.trans h)
theorem inits_ok (hca:Z.ca=caOf) (h:initsChk Z.K=true) (c:Nat) (f:MInit) (hf:initOf c=some f):InitOK Z c f∧keepIn Z.K (.ref (Z.ca c))=true:=by
 have hs:=init_some hf
 have hlt:c<7:=(List.getElem?_eq_some_iff.mp hs).1
 have h3:c≠3:=fun e=>by cases e;cases hs
 have h:initChk Z.K c f=true:=List.all_eq_true.mp h (some f,c) (List.mk_mem_zipIdx_iff_getElem?.mpr hs)
 rw [hca]
 refine andk h fun a1 h=>andk h fun a2 h=>andk h fun a3 h=>andk h fun a4 h=>andk h fun a5 h=>andk h fun a6 h=>andk h fun a7 h=>andk h fun a8 h=>andk h fun a9 h=>andk h fun a10 h=>andk h fun a11 hi=>⟨⟨⟨hlt,h3⟩,hca▸a1,of_decide_eq_true a2,hca▸⟨eq_of_beq a3,a4,a5,fun f hf=>eq_of_beq (List.all_eq_true.mp a6 f hf),of_decide_eq_true a7,ltk a8⟩,of_decide_eq_true a9,?_⟩,a11⟩
 rw [hca]
 refine oBk' hi fun v e1 hi=>oBk (G:=fun v=>findIn Z.K (.ref (caOf c)) "__init__"=some v→_) hi (fun x hi e1=>oRefk (G:=fun x=>findIn Z.K (.ref (caOf c)) "__init__"=some (some x)→_) hi (fun fI hi e1=>andk hi fun ht hi=>oBk' hi fun o ho hi=>oFunck (G:=fun d=>o.data=d→_) hi (fun fd hi hd=>oStmk (G:=fun b=>fd.body=b→_) hi (fun body hi hb=>andk hi fun b1 hi=>andk hi fun b2 hi=>andk hi fun b3 hi=>andk hi fun b4 hi=>?_) rfl) rfl) e1) e1
 exact lck (G:=fun l=>f.vars=l→_) hi (fun sf rest hi e=>andk hi fun c1 c2=>notk c1 fun c1=>⟨fI,o,fd,body,sf,e1,eq_of_beq ht,ho,hd,hb,fdChk_ok b1,of_decide_eq_true a10,fun x hx=>eq_of_beq (List.all_eq_true.mp b2 x hx),e▸rfl,c1,c2,dflt_ok b3 (of_decide_eq_true a10) (of_decide_eq_true a9) b4⟩) rfl
theorem prog_ok (X:Z.K.In Z.h₀) (h:allChk Z.K=true) (hca:Z.ca=caOf) (hfa:Z.fa=faOf) (hg:Z.h₀.Ns mainGlobals Z.mg) (hb:Z.h₀.Ns builtinsNs Z.mb) (L:Z.h₀.NoLimit):ProgOK Z:=
 andk h fun h1 h=>andk h fun h2 h=>andk h fun h3 h=>andk h fun h4 h=>andk h fun h5 h6=>(Option.isSome_iff_exists.mp h4).elim fun o ho=>
 ⟨X,kok_ok hca h1,globs_ok hca hfa X hg hb h2,meths_ok hca hfa h3,⟨o,X _ _ ho⟩,L,fun c=>by rw [hfa,hca];exact faOf_cls c,fns_ok hfa h5,inits_ok hca h6⟩
end
noncomputable def says (_:World) (h:Heap):Prop:=∃ h',(∀ b o,h'.get? b=some o→h.get? b=some o)∧allChk (frag h')=true
theorem holds_of (said:PySem.Challenge.rw_pb0495_01.wellSaid=true)
 {d:DefRec} {kwd:List (Str×PySem.Expr)} (hdef:defOf qV PySem.Challenge.rw_pb0495_01.row.name=some (d,kwd)) (hp:PySem.Challenge.rw_pb0495_01.row.prog.theDef PySem.Challenge.rw_pb0495_01.row.name=some (d.params,d.body,d.scope))
 (hk:kwWritten? d.params.kwonlyargs d.params.kw_defaults=some kwd)
 (walk:WalkO qV looseV (XL qV []) says PySem.Challenge.rw_pb0495_01.row.toRowW d kwd fun f vs=>PySem.call f vs):PySem.Challenge.rw_pb0495_01.Holds:=by
 refine holds_law said fun h=>?_
 refine holds_open (r:=PySem.Challenge.rw_pb0495_01.row) (q:=qV) (loose:=looseV) (Xt:=fun s=>xlAt qV [] s&&recOk [] s) (XP:=XL qV []) (Yf:=fun s=>allChk (frag s.heap)) (Ya:=fun _=>true) (YP:=says) (N:=9748) left0
  (fun w s e=>⟨s.heap,fun _ _ e=>e,e⟩) (fun w h h' ⟨h0,k,c⟩ k'=>⟨h0,fun b o e=>k' _ _ (k b o e),c⟩) (fun s e=>xl_of s (Bool.and_eq_true_iff.mp e).1) XL.keeps hdef hp hk (fun s e=>recFacts_of (Bool.and_eq_true_iff.mp e).2) ?_ h ?_ ?_ ?_ walk
 ·rfl
 ·kernel_rfl
 ·exact ⟨rfl,rfl,rfl,rfl,rfl,by kernel_rfl⟩
 ·w_witness2
end Mine
namespace Mine
open PySem PySem.Calls PyProof.Rows PySem.W
theorem has_int {P:Params} {h:Heap} {v:Value} {d:WData} (w:Well P h v d) (e:WShape.has [] d .int=true) {G:Prop} (k:∀ i t,v=.int i t→G):G:=by
 cases w with
 | int i t=>exact k i t rfl
 | _=>exact nomatch (e:false=true)
theorem well_ints {P:Params} {h:Heap} {Z:Sta} {F:Fz} {vs:List Value} {xs:List WData} (w:WellAll P h vs xs) (hi:WShape.hasItems [] xs .int=true):∃ ns:List Int,ns.length=xs.length∧VRs Z F (ns.map V.int) vs:=by
 induction xs generalizing vs with
 | nil=>cases w;exact ⟨[],rfl,.nil⟩
 | cons d ds ih=>
  cases w with
  | cons w r=>exact andk hi fun h1 h2=>(ih r h2).elim fun ns k=>has_int w h1 fun i t e=>⟨i::ns,congrArg (·+1) k.1,e▸.cons (.int i t) k.2⟩
theorem pre_has {xs:List WData} {sh:WShape} (h:WShape.hasAll [] xs [sh]=true):∃ d,xs=[d]∧WShape.has [] d sh=true:=by
 cases xs with
 | nil=>exact nomatch (h:false=true)
 | cons d r=>
  have h:(WShape.has [] d sh&&WShape.hasAll [] r [])=true:=h
  refine andk h fun h1 h2=>?_
  cases r with
  | nil=>exact ⟨d,rfl,h1⟩
  | cons=>exact nomatch (h2:false=true)
theorem has_list {d:WData} (h:WShape.has [] d (.list .int)=true):∃ xs,d=.list xs∧WShape.hasItems [] xs .int=true:=by
 cases d with
 | list xs=>exact ork (b:=false) h (fun h=>⟨xs,rfl,h⟩) fun h=>nomatch h
 | _=>exact nomatch (h:false=true)
theorem res_ok (xs:List WData):(WShape.has [] (.bool true) .bool&&(WTm.eq .res (.lit (.bool true))).holds [] { args:=[WData.list xs],res:=some (.bool true),after:=[WData.list xs] })=true:=by kernel_rfl
theorem pre_len {xs:List WData} (h:(PySem.Challenge.rw_pb0495_01.pre).holds [] { args:=[.list xs] }=true):xs.length≤63:=by
 have e:PySem.Challenge.rw_pb0495_01.pre=.and (.not (.lt (.lit (.int 63)) (.len (.arg 0)))) (.lit (.bool true)):=rfl
 rw [e] at h
 unfold WTm.holds at h
 simp [WTm.value] at h
 rw [show less? (WData.int 63) (WData.int (xs.length:Int))=some (decide ((63:Int)<xs.length)) from rfl] at h
 by_cases hl:(63:Int)<xs.length
 ·rw [decide_eq_true hl] at h;cases h
 ·omega
theorem callee_of {K:Frag} {es:Array DictEntry} {x:Value} (h:gvChk K (.fn 51) x=true):x=.ref 708:=beq_iff_eq.mp h
noncomputable abbrev staOf (w:World) (h h':Heap) (mg mb:Str→Option Value):Sta:={ prog:=pw,w:=w,h₀:=h,K:=frag h',p:=qV,loose:=looseV,mg:=mg,mb:=mb,fa:=faOf,ca:=caOf }
theorem walk_of (plain:∀ ns:List Int,ns.length≤63→∃ σ',callF 14 51 [.list (ns.map V.int)] []=some (.bool true,σ')) {d:DefRec} {kwd:List (Str×PySem.Expr)} (hdn:d.name=S "law") :
  WalkO qV looseV (XL qV []) says PySem.Challenge.rw_pb0495_01.row.toRowW d kwd fun f vs=>PySem.call f vs:=by
 intro w s₀ s₁ mg mb G Y a o pm cd doc dV kV ho hd hcd hD hmg hg args vals as hpre hlay hrd hwl hlo
 obtain ⟨h',keep,chk⟩:=Y
 have X:(frag h').In s₁.heap:=(frag_in h').keeps keep
 have hNs:s₁.heap.Ns mainGlobals mg:=G.T.g
 have P:ProgOK (staOf w s₁.heap h' mg mb):=prog_ok X chk rfl rfl hNs G.T.b G.T.nolimit
 have ha:a=708:=by
  obtain ⟨val,h1,h2⟩:=P.G.val 72 (S "law") (.fn 51) rfl rfl
  have hm:mg (S "law")=some (.ref a):=by rw [← hdn];exact hmg
  have h2:=h2 ⟨s₁.heap.get?,[]⟩ fun _ _ e=>e
  have e:val=.ref (faOf 51):=h2 (fun x=>x=.ref (faOf 51)) rfl
  refine h1.elim (fun h1=>?_) fun h1=>nomatch (h1.1:mg (S "law")=none).symm.trans hm
  cases (hm.symm.trans (h1:mg (S "law")=some val)).trans (congrArg some e)
  rfl
 subst ha
 have hpre1:(WShape.hasAll [] args [.list .int]&&(PySem.Challenge.rw_pb0495_01.pre).holds [] { args:=args })=true:=hpre
 rw [Bool.and_eq_true] at hpre1
 obtain ⟨d1,rfl,hd1⟩:=pre_has hpre1.1
 obtain ⟨xs,rfl,hi⟩:=has_list hd1
 have hlen:=pre_len hpre1.2
 cases hwl with
 | cons hw hnil=>
  cases hnil
  cases hw with
  | list hb hwl=>
   rename_i b vs
   obtain ⟨ns,hns,hv⟩:=well_ints (Z:=staOf w s₁.heap h' mg mb) (F:=⟨s₁.heap.get?,[]⟩) hwl hi
   obtain ⟨σ',hrun⟩:=plain ns (by rw [hns];exact hlen)
   have S:SR (staOf w s₁.heap h' mg mb) ⟨s₁.heap.get?,[]⟩ (fun _=>none) [] s₁.heap:=
    ⟨fun _ _ e=>e,fun _ _ e=>e,fun _ _ _ e=>(nomatch e),fun _ _ e=>(nomatch e),rfl,List.Pairwise.nil,fun _ h=>(nomatch h),fun i a o h=>(nomatch h)⟩
   have R:Room callerA 14:=⟨rfl,by decide +kernel,by decide +kernel⟩
   have hv':VRs (staOf w s₁.heap h' mg mb) ⟨s₁.heap.get?,[]⟩ [.list (ns.map V.int)] [.ref b]:=
    .cons (.list (n:=0) (by rw [List.length_map,hns];unfold cap;omega) hb hv) .nil
   have K:=((calls_ok P 14) callerA R (fun _=>none) ⟨s₁.heap.get?,[]⟩ [.ref b] [.list (ns.map V.int)] hv').1 51
   have W:=K ⟨s₁.heap.get?,[]⟩ [] (.bool true) σ' s₁ (.refl _) S hrun
   refine wpAny_mono W (fun v s' q=>?_) fun _ _ z=>z.elim
   refine q.elim fun F' w=>?_
   have p:=w.1
   apply w.2
   refine ⟨.inl ⟨_,.bool true,[],rfl,fun _=>rfl,.bool true,?_,fun _=>⟨List.Pairwise.nil,fun _ h=>(nomatch h)⟩⟩,?_,?_,?_⟩
   ·exact res_ok xs
   ·exact .of_keep fun b o e=>p.S.frz _ _ (p.e.inc _ _ e)
   ·exact p.c.2.2
   ·exact .of_eq (p.c.1.trans hg)
noncomputable abbrev rl:=PySem.Challenge.rw_pb0495_01
theorem said1:namesResolve pw=true:=by
 rw [PySem.W.Fast.te8377067652309620493]
 kernel_rfl
theorem said2:noRoadLSs { strict:=!(importedModules pw.main.body).all cThrough.contains,foot:=none,bare:=(["vars","dir","locals"]:List Str).filter (readsOut pw pw.main.body) } pw.main.body=true:=by
 rw [PySem.W.Fast.te8326940854005059898]
 kernel_rfl
theorem said3:namesMeet pw pw.main.body (fun _ n=>attrL n)=true:=by
 rw [PySem.W.Fast.te17119622794617984870]
 kernel_rfl
theorem said4:looksOpen pw=true:=
 look_both (look_both (look_both (look_both (look_both (by kernel_rfl) (by kernel_rfl)) said1) (by kernel_rfl)) said2) said3
theorem said5:noRoadLSs { strict:=true,foot:=some rl.bound',writes:=rl.writes,may:=rl.may } rl.footing=true:=by
 rw [PySem.W.Fast.te8326940854005059898]
 kernel_rfl
theorem said6:noClassBlock rl.prog rl.footing=true:=by
 rw [PySem.W.Fast.te8179353310426384613]
 kernel_rfl
theorem said7:(rl.bound'.all fun n=>!builtinNamed n || rl.about == [n] || !rl.reads n)=true:=by
 rw [PySem.W.Fast.named_eq]
 kernel_rfl
theorem said8:rl.namesIt=true:=by
 rw [PySem.W.Fast.te16286561074155671207]
 kernel_rfl
theorem said9:rl.row.wellSaid=true:=by
 refine look_both (look_both ?_ (by kernel_rfl)) (by kernel_rfl)
 unfold OpenRow.partSaid
 repeat' (with_reducible apply look_both)
 ·exact said4
 all_goals kernel_rfl
theorem saidw:rl.wellSaid=true:=by
 unfold OpenLaw.wellSaid
 repeat' (with_reducible apply look_both)
 ·exact said9
 ·kernel_rfl
 ·kernel_rfl
 ·exact said6
 ·kernel_rfl
 ·kernel_rfl
 ·exact said5
 ·kernel_rfl
 ·exact said8
 ·kernel_rfl
 ·exact said7
 all_goals try rw [PySem.W.Fast.te17119622794617984870]
 all_goals try rw [PySem.W.Fast.named_eq]
 all_goals kernel_rfl
theorem holds_plain (plain:∀ ns:List Int,ns.length≤63→∃ σ',callF 14 51 [.list (ns.map V.int)] []=some (.bool true,σ')):PySem.Challenge.rw_pb0495_01.Holds:=by
 refine holds_of saidw (by rfl) (by rfl) (by rfl) (walk_of plain ?_)
 rfl
end Mine
theorem PySem.Challenge.cw_pb0495_01_holds : PySem.Challenge.rw_pb0495_01.Holds :=
 Mine.holds_plain Mine.Pl.plain
