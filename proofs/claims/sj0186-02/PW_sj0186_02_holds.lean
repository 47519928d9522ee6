import PyProof.Rows.All
import PyProof.AssignAttr
import PyProof.AttrMiss
import PyProof.NoPylong
import PyProof.ForAny
import PyProof.CompFree
import PyProof.DictCalls
import PyProof.DictTruth
import PyProof.DictFindH
import PyProof.TupleKey
import PyProof.RaisesDict
import PyProof.DictRoadsH
import PyProof.DictValues
import PyProof.EnumFor
import PyProof.EnumStmt
import PyProof.EnumMake
import PyProof.NeData
import PyProof.WalksMore
import PyProof.RangeFor
import PyProof.IsiH_list
import PyProof.ListCopy
import PyProof.P3In
import PyProof.Rows.TupAssign
import PyProof.Rows.GenSrcRange
import PyProof.Rows.CellsNews
import PyProof.Rows.DictUnroll
import PyProof.Rows.RuleN_abs
import PyProof.SliceMore
import PyProof.Rows.ListUnroll
import PyProof.Rows.MinMaxN
import PyProof.TupleOfSeq
import KE.KTreeB
import KE.KDictList
import KE.KDictSum
import KE.KDictOf
import KE.KEqDict
import KE.KItemsList
import KE.KSortAsk
import KE.KSortTup
import Wide.FinOn
import OpenK.AllK
import Wide.All
import Lean
import PySem.Challenge.RW_sj0186_02
set_option Elab.async false
set_option linter.all false
set_option compiler.extract_closed false
set_option bootstrap.genMatcherCode false
set_option maxRecDepth 100000
set_option maxHeartbeats 8000000
set_option genInjectivity false
set_option genSizeOf false
set_option genSizeOfSpec false
namespace Mine.Internal
theorem ltr{a b c:Nat}(h:a<=b)(k:b<=c):a<=c:=Nat.le_trans h k
inductive AV where
 | none | bool (b:Bool) | int (i:Int) | str (k:Nat)
 | tup (l:List AV)
 | dct (l:List (Nat×AV))
 | ref (i:Nat)
inductive AO where
 | lst (l:List AV)
 | dic (l:List (AV×AV))
 | ins (C:Nat) (l:List (Nat×AV))
structure AH where
 nx:Nat
 ro:List Nat
 ob:List (Nat×AO)
inductive Bn where | len | min | sorted | tuple | list | dict | abs
inductive Bo where | add | sub | mod | fdiv | mul
inductive Co where | eq | ne | lt | le | gt | is | isNot | inn | notIn
inductive T where
 | loc (n:Nat) | cel (n:Nat) | tup (l:List T)
mutual
inductive X where
 | cst (v:AV)
 | loc (n:Nat) | cel (n:Nat) | glb (n:Nat)
 | attr (x:X) (n:Nat)
 | sub (x y:X) | slf (x y:X) | slt (x y:X)
 | tup (l:List X) | lst (l:List X)
 | dicN (l:List (Nat×X)) | dicF (l:List (Nat×X))
 | callF (f:Nat) (l:List X)
 | callC (C:Nat) (l:List X)
 | callB (b:Bn) (x:X)
 | clsM (C n:Nat) (l:List X)
 | meth (x:X) (n:Nat) (l:List X)
 | cmp (x:X) (o:Co) (y:X)
 | not (x:X) | and (l:List X) | or (l:List X) | ite (t a b:X)
 | bin (x:X) (o:Bo) (y:X)
 | comp (elt:X) (g:List Gn)
 | inVals (x y:X) | lstItems (y:X)
inductive Gn where
 | mk (t:T) (it:It) (ifs:List X)
inductive It where
 | of (x:X) | range (x:X) | enum (x:X)
end
inductive S where
 | asg (n:Nat) (x:X) | asgC (n:Nat) (x:X)
 | asgA (o:X) (n:Nat) (x:X) | asgS (o i:X) (x:X) | asgT (l:List T) (x:X) | asgW (ns:List Nat) (x:X)
 | expr (x:X) | ret (x:X) | ret0
 | ite (t:X) (a b:List S)
 | for_ (t:T) (it:It) (body:List S)
 | while_ (t:X)
 | brk | cont | pass
inductive Fl where | next | brk | cont | ret (v:AV)
structure FrA where
 loc:List (Nat×AV)
 cel:List (Nat×AV)
structure Fn where
 name:Nat
 params:List (Nat×Bool)
 body:List S
 gc:Bool
structure Pg where
 fn:Nat->Option Fn
 mth:Nat->Nat->Option Nat
 glb:Nat->Option AV
 init:Nat
noncomputable def chk {α:Type} (b:Bool) (o:Option α):Option α:=cond b o none
noncomputable def bind2 {α β:Type} (o:Option (α×AH)) (f:α->AH->Option β):Option β:=o.bind fun p=>f p.1 p.2
noncomputable def bind3 {α β:Type} (o:Option (α×FrA×AH)) (f:α->FrA->AH->Option β):Option β:=o.bind fun p=>f p.1 p.2.1 p.2.2
noncomputable def optB {α:Type} (o:Option α) (p:α->Bool):Bool:=o.elim false p
section
variable {α β γ:Type} {Z:Prop}
theorem bindK {o:Option α} {f:α->Option β} {b:β} (h:o.bind f=some b) (k:∀ a,o=some a->f a=some b->Z):Z :=
 match o,h with
 | none,h=>nomatch h
 | some a,h=>k a rfl h
theorem bind2K {o:Option (α×AH)} {f:α->AH->Option β} {b:β} (h:bind2 o f=some b) (k:∀ a h',o=some (a,h')->f a h'=some b->Z):Z:=bindK h fun p=>k p.1 p.2
theorem bind3K {o:Option (α×FrA×AH)} {f:α->FrA->AH->Option β} {b:β} (h:bind3 o f=some b) (k:∀ a fr h',o=some (a,fr,h')->f a fr h'=some b->Z):Z:=bindK h fun p=>k p.1 p.2.1 p.2.2
theorem chkK {b:Bool} {o:Option α} {a:α} (h:chk b o=some a) (k:b=true->o=some a->Z):Z :=
 match b,h with
 | false,h=>nomatch h
 | true,h=>k rfl h
theorem condK {b:Bool} {x y z:α} (h:cond b x y=z) (kt:b=true->x=z->Z) (kf:b=false->y=z->Z):Z :=
 match b,h with
 | false,h=>kf rfl h
 | true,h=>kt rfl h
theorem optBK {o:Option α} {p:α->Bool} (h:optB o p=true) (k:∀ a,o=some a->p a=true->Z):Z :=
 match o,h with
 | none,h=>nomatch h
 | some a,h=>k a rfl h
theorem andK {a b:Bool} (h:(a&&b)=true) (k:a=true->b=true->Z):Z :=
 match a,h with
 | false,h=>nomatch h
 | true,h=>k rfl h
theorem boolK {b:Bool} {F:Bool->Prop} (kt:F true) (kf:F false):F b :=
 match b with
 | true=>kt
 | false=>kf
theorem mapK {o:Option α} {f:α->β} {b:β} {Y:β->Prop} (h:o.map f=some b) (k:∀ a,o=some a->Y (f a)):Y b :=
 match o,h with
 | none,h=>nomatch h
 | some a,h=>Option.some.inj h▸k a rfl
theorem mapsK {o:Option α} {f:α->β} {b:β} (h:o.map f=some b) (k:∀ a,o=some a->f a=b->Z):Z :=
 match o,h with
 | none,h=>nomatch h
 | some a,h=>k a rfl (Option.some.inj h)
theorem someK {a a':α} {Y:α->Prop} (h:some a=some a') (k:Y a):Y a':=Option.some.inj h▸k
theorem some2K {a a':α} {b b':β} {Y:α->β->Prop} (h:some (a,b)=some (a',b')) (k:Y a b):Y a' b':=someK (Y:=fun p=>Y p.1 p.2) h k
theorem some3K {a a':α} {b b':β} {d d':γ} {Y:α->β->γ->Prop} (h:some (a,b,d)=some (a',b',d')) (k:Y a b d):Y a' b' d':=someK (Y:=fun p=>Y p.1 p.2.1 p.2.2) h k
theorem map2K {o:Option α} {f:α->β} {J J':AH} {b:β} {Y:β->AH->Prop} (h:(o.map fun q=>(f q,J))=some (b,J')) (k:∀ q,o=some q->Y (f q) J):Y b J':=mapK (Y:=fun p=>Y p.1 p.2) h k
theorem pairsK {a a':α} {b b':β} (h:some (a,b)=some (a',b')) (k:a=a'->b=b'->Z):Z:=some2K (Y:=fun x y=>(a=x->b=y->Z)->Z) h (fun k=>k rfl rfl) k
end
namespace AV
noncomputable def i?:AV->Option Int
 | .none=>Option.none | .bool _=>Option.none | .int i=>some i | .str _=>Option.none | .tup _=>Option.none | .dct _=>Option.none | .ref _=>Option.none
noncomputable def b?:AV->Option Bool
 | .none=>Option.none | .bool b=>some b | .int _=>Option.none | .str _=>Option.none | .tup _=>Option.none | .dct _=>Option.none | .ref _=>Option.none
noncomputable def s?:AV->Option Nat
 | .none=>Option.none | .bool _=>Option.none | .int _=>Option.none | .str k=>some k | .tup _=>Option.none | .dct _=>Option.none | .ref _=>Option.none
noncomputable def t?:AV->Option (List AV)
 | .none=>Option.none | .bool _=>Option.none | .int _=>Option.none | .str _=>Option.none | .tup l=>some l | .dct _=>Option.none | .ref _=>Option.none
noncomputable def d?:AV->Option (List (Nat×AV))
 | .none=>Option.none | .bool _=>Option.none | .int _=>Option.none | .str _=>Option.none | .tup _=>Option.none | .dct l=>some l | .ref _=>Option.none
noncomputable def r?:AV->Option Nat
 | .none=>Option.none | .bool _=>Option.none | .int _=>Option.none | .str _=>Option.none | .tup _=>Option.none | .dct _=>Option.none | .ref i=>some i
noncomputable def num?:AV->Option Int
 | .none=>Option.none | .bool b=>some (cond b 1 0) | .int i=>some i | .str _=>Option.none | .tup _=>Option.none | .dct _=>Option.none | .ref _=>Option.none
noncomputable def isN:AV->Bool
 | .none=>true | .bool _=>false | .int _=>false | .str _=>false | .tup _=>false | .dct _=>false | .ref _=>false
noncomputable def flat:AV->Bool
 | .none=>true | .bool _=>true | .int _=>true | .str _=>true | .tup _=>false | .dct _=>false | .ref _=>false
noncomputable def kd:AV->Nat
 | .none=>3 | .bool _=>3 | .int _=>0 | .str _=>1 | .tup _=>2 | .dct _=>3 | .ref _=>3
theorem i?S {v:AV} {i:Int} (h:v.i?=some i):v=.int i:=by cases v <;> cases h <;> rfl
theorem b?S {v:AV} {i:Bool} (h:v.b?=some i):v=.bool i:=by cases v <;> cases h <;> rfl
theorem s?S {v:AV} {i:Nat} (h:v.s?=some i):v=.str i:=by cases v <;> cases h <;> rfl
theorem t?S {v:AV} {i:List AV} (h:v.t?=some i):v=.tup i:=by cases v <;> cases h <;> rfl
theorem d?S {v:AV} {i:List (Nat×AV)} (h:v.d?=some i):v=.dct i:=by cases v <;> cases h <;> rfl
theorem r?S {v:AV} {i:Nat} (h:v.r?=some i):v=.ref i:=by cases v <;> cases h <;> rfl
theorem isNT {v:AV} (h:v.isN=true):v=.none:=by cases v <;> cases h <;> rfl
end AV
namespace AO
noncomputable def l?:AO->Option (List AV)
 | .lst l=>some l | .dic _=>none | .ins _ _=>none
noncomputable def n?:AO->Option (Nat×List (Nat×AV))
 | .lst _=>none | .dic _=>none | .ins C l=>some (C,l)
noncomputable def d?:AO->Option (List (AV×AV))
 | .lst _=>none | .dic l=>some l | .ins _ _=>none
noncomputable def its:AO->Option (List AV)
 | .lst l=>some l | .dic l=>some (l.map (·.1)) | .ins _ _=>none
noncomputable def kd:AO->Option Bool
 | .lst _=>some true | .dic _=>some false | .ins _ _=>none
theorem l?S {o:AO} {l:List AV} (h:o.l?=some l):o=.lst l:=by cases o <;> cases h <;> rfl
theorem d?S {o:AO} {l:List (AV×AV)} (h:o.d?=some l):o=.dic l:=by cases o <;> cases h <;> rfl
theorem n?S {o:AO} {q:Nat×List (Nat×AV)} (h:o.n?=some q):o=.ins q.1 q.2:=by cases o <;> cases h <;> rfl
end AO
noncomputable def lk {α:Type}:List (Nat×α)->Nat->Option α
 | [],_=>none
 | p::l,n=>match Nat.beq p.1 n with
  | true=>some p.2
  | false=>lk l n
noncomputable def up {α:Type}:List (Nat×α)->Nat->α->List (Nat×α)
 | [],n,v=>[(n,v)]
 | p::l,n,v=>match Nat.beq p.1 n with
  | true=>(n,v)::l
  | false=>p::up l n v
noncomputable def hasN:List Nat->Nat->Bool
 | [],_=>false
 | m::l,n=>match Nat.beq m n with
  | true=>true
  | false=>hasN l n
mutual
noncomputable def eqB:AV->AV->Bool
 | .none,b=>b.isN
 | .bool x,b=>optB b.num? fun j=>cond x 1 0==j
 | .int x,b=>optB b.num? fun j=>x==j
 | .str k,b=>optB b.s? fun j=>Nat.beq k j
 | .tup l,b=>optB b.t? fun m=>eqBs l m
 | .dct _,_=>false
 | .ref _,_=>false
noncomputable def eqBs:List AV->List AV->Bool
 | [],m=>m.isEmpty
 | x::xs,m=>match m with
  | []=>false
  | y::ys=>eqB x y&&eqBs xs ys
end
noncomputable def lev (p:AV->Bool):Nat->AV->Bool
 | 0,v=>p v
 | n+1,v=>match v.t? with
  | some l=>l.all fun u=>lev p n u
  | none=>p v
section
variable {p:AV->Bool} {F:Nat->AV->Prop} {Fs:Nat->List AV->Prop} (leaf:∀ d v,p v=true->F d v) (tup:∀ d l,Fs d l->F (d+1) (.tup l)) (nil:∀ d,Fs d []) (cons:∀ d v l,F d v->Fs d l->Fs d (v::l))
include nil cons in
theorem levRecs {d:Nat} (h:∀ v,lev p d v=true->F d v):∀ l:List AV,(l.all fun u=>lev p d u)=true->Fs d l
 | [],_=>nil d
 | v::l,q=>andK q fun q1 q2=>cons d v l (h v q1) (levRecs h l q2)
include leaf tup nil cons
theorem levRec:∀ (d:Nat) (v:AV),lev p d v=true->F d v
 | 0,v,h=>leaf 0 v h
 | d+1,v,h=>by
  unfold lev at h
  cases q:v.t? with
  | none=>rw [q] at h; exact leaf _ v h
  | some l=>rw [q] at h; exact AV.t?S q▸tup d l (levRecs nil cons (levRec d) l h)
end
noncomputable def datD:Nat->AV->Bool:=lev AV.flat
noncomputable def dat (v:AV):Bool:=datD 8 v
noncomputable def eqd:List (Nat×AV)->List (Nat×AV)->Option Bool
 | [],_=>some true
 | (k,x)::r,b=>match lk b k with
  | none=>some false
  | some y=>chk (dat x&&dat y) ((eqd r b).map fun q=>eqB x y&&q)
noncomputable def eqv (a b:AV):Option Bool:=match dat a&&dat b with
 | true=>some (eqB a b)
 | false=>a.d?.bind fun x=>b.d?.bind fun y=>cond (x.length==y.length) (eqd x y) (some false)
mutual
noncomputable def ltv:AV->AV->Option Bool
 | .none,_=>none
 | .bool _,_=>none
 | .int a,b=>b.i?.map fun j=>decide (a < j)
 | .str a,b=>b.s?.map fun j=>Nat.blt a j
 | .tup a,b=>b.t?.bind fun m=>ltvs a m
 | .dct _,_=>none
 | .ref _,_=>none
noncomputable def ltvs:List AV->List AV->Option Bool
 | [],m=>some (!m.isEmpty)
 | x::xs,m=>match m with
  | []=>some false
  | y::ys=>cond (eqB x y) (ltvs xs ys) (ltv x y)
end
open PySem.W in
noncomputable def runK {α:Type}:KasT α->(Nat->Nat->Option Bool)->Option α
 | .ret a,_=>some a
 | .ask i j k,o=>match o i j with
  | some b=>runK (k b) o
  | none=>none
noncomputable def two? {α:Type}:List α->Option (α×α)
 | []=>none
 | a::l=>match l with
  | []=>none
  | b::m=>match m with
   | []=>some (a,b)
   | _::_=>none
theorem two?S {α:Type} {l:List α} {p:α×α} (h:two? l=some p):l=[p.1,p.2]:=by
 cases l with
 | nil=>exact nomatch h
 | cons a l=>cases l with
  | nil=>exact nomatch h
  | cons b m=>cases m with
   | nil=>cases h; rfl
   | cons=>exact nomatch h
noncomputable def isInt (v:AV):Bool:=v.i?.isSome
noncomputable def isPair (v:AV):Bool:=optB (v.t?.bind two?) fun p=>p.1.s?.isSome&&p.2.s?.isSome
noncomputable def sortv:List AV->Option (List AV)
 | []=>some []
 | [x]=>some [x]
 | l=>chk ((l.all isInt||l.all isPair)&&Nat.blt l.length 64) ((runK (PySem.W.kas_sort l.length) (fun i j=>ltv (l.getD i .none) (l.getD j .none))).map fun p=>p.toList.map fun i=>l.getD i .none)
noncomputable def keyD:Nat->AV->Bool:=lev fun v=>Nat.blt v.kd 2
noncomputable def keyOk (k:AV):Bool:=keyD 4 k
noncomputable def few (n:Nat):Bool:=Nat.ble n 1000
noncomputable def sameKind (a b:AV):Bool:=Nat.beq a.kd b.kd&&Nat.blt a.kd 3
noncomputable def kfit (k:AV) (l:List (AV×AV)):Bool:=keyOk k&&(match l with
 | []=>true
 | p::_=>sameKind p.1 k)
noncomputable def dget (k:AV):List (AV×AV)->Option AV
 | []=>none
 | p::l=>cond (eqB p.1 k) (some p.2) (dget k l)
noncomputable def dset (k v:AV):List (AV×AV)->List (AV×AV)
 | []=>[(k,v)]
 | p::l=>cond (eqB p.1 k) ((p.1,v)::l) (p::dset k v l)
noncomputable def ddel (k:AV):List (AV×AV)->List (AV×AV)
 | []=>[]
 | p::l=>cond (eqB p.1 k) l (p::ddel k l)
noncomputable def inv (x:AV) (l:List AV):Option Bool:=chk (dat x&&l.all dat) (some (l.any fun y=>eqB y x))
noncomputable def AH.get (h:AH) (i:Nat):Option AO:=lk h.ob i
noncomputable def AH.put (h:AH) (i:Nat) (o:AO):Option AH:=cond (hasN h.ro i) none ((lk h.ob i).map fun _=>{ h with ob:=up h.ob i o })
noncomputable def AH.new (h:AH) (o:AO):AV×AH:=(.ref h.nx,{ h with nx:=h.nx+1,ob:=(h.nx,o)::h.ob })
noncomputable def items (h:AH):AV->Option (List AV)
 | .none=>none | .bool _=>none | .int _=>none | .str _=>none
 | .tup l=>some l
 | .dct l=>some (l.map fun p=>.str p.1)
 | .ref i=>(h.get i).bind AO.its
noncomputable def lockOf (v:AV):List Nat:=v.r?.toList
noncomputable def at_ (l:List AV) (i:Int):Option AV :=
 if few i.natAbs then (if 0<=i then l[i.toNat]? else if 0<=i+l.length then l[(i+l.length).toNat]? else none) else none
noncomputable def allStr:List (AV×AV)->Option (List (Nat×AV))
 | []=>some []
 | p::l=>p.1.s?.bind fun k=>(allStr l).map ((k,p.2)::·)
noncomputable def minI:List AV->Option Int
 | []=>none
 | v::l=>v.i?.bind fun a=>match l with
  | []=>some a
  | _::_=>(minI l).map fun b=>if b < a then b else a
noncomputable def inI (n:Int):List AV->Option Bool
 | []=>some false
 | v::r=>v.i?.bind fun m=>cond (m==n) (some true) (inI n r)
noncomputable def pairsOf:List AV->Option (List (AV×AV))
 | []=>some []
 | x::r=>(x.t?.bind two?).bind fun p=>(pairsOf r).map (p::·)
noncomputable def dsets:List (AV×AV)->List (AV×AV)->Option (List (AV×AV))
 | [],d=>some d
 | p::r,d=>chk (kfit p.1 d) (dsets r (dset p.1 p.2 d))
noncomputable def lstOf (h:AH) (v:AV):Option (List AV):=v.r?.bind fun i=>(h.get i).bind AO.l?
noncomputable def addv (h:AH) (a b:AV):Option (AV×AH):=match a with
 | .none=>none | .bool _=>none | .str _=>none | .dct _=>none
 | .int x=>b.i?.map fun y=>(.int (x+y),h)
 | .tup x=>b.t?.bind fun y=>chk (few (x.length+y.length)) (some (.tup (x++y),h))
 | .ref i=>((h.get i).bind AO.l?).bind fun x=>(lstOf h b).bind fun y=>chk (few (x.length+y.length)) (some (h.new (.lst (x++y))))
noncomputable def int2 (a b:AV) (h:AH) (c:Int->Int->Bool) (g:Int->Int->Int):Option (AV×AH):=a.i?.bind fun x=>b.i?.bind fun y=>chk (c x y) (some (.int (g x y),h))
noncomputable def binop (h:AH) (a:AV) (o:Bo) (b:AV):Option (AV×AH):=match o with
 | .add=>addv h a b
 | .sub=>int2 a b h (fun _ _=>true) fun x y=>x - y
 | .mul=>int2 a b h (fun x _=>few x.natAbs) fun x y=>x * y
 | .mod=>int2 a b h (fun _ y=>decide (0 < y)) fun x y=>Int.fmod x y
 | .fdiv=>int2 a b h (fun _ y=>decide (0 < y/\y < 1000)) fun x y=>Int.fdiv x y
noncomputable def lti (a b:AV):Option Bool:=a.i?.bind fun x=>b.i?.map fun y=>decide (x < y)
noncomputable def cmpv.lsts (h:AH) (i j:Nat):Option Bool:=((h.get i).bind AO.l?).bind fun x=>((h.get j).bind AO.l?).bind fun y=>chk (x.all dat&&y.all dat) (some (eqBs x y))
noncomputable def cmpv.mem (h:AH) (a b:AV):Option Bool:=match b with
 | .none=>none | .bool _=>none | .int _=>none | .str _=>none
 | .tup l=>inv a l
 | .dct l=>a.s?.map fun k=>(lk l k).isSome
 | .ref i=>(h.get i).bind fun o=>match o with
  | .lst l=>inv a l
  | .dic l=>chk (kfit a l) (some (dget a l).isSome)
  | .ins _ _=>none
noncomputable def eqH (h:AH) (a b:AV):Option Bool:=match a.r?.bind fun i=>b.r?.map fun j=>(i,j) with
 | some p=>cmpv.lsts h p.1 p.2
 | none=>eqv a b
noncomputable def cmpv (h:AH) (a:AV) (o:Co) (b:AV):Option Bool:=match o with
 | .eq=>eqH h a b
 | .ne=>cond (a.isN&&b.d?.isSome) (some true) ((eqH h a b).map (!·))
 | .lt=>lti a b
 | .gt=>lti b a
 | .le=>(lti b a).map (!·)
 | .is=>chk b.isN (some a.isN)
 | .isNot=>chk b.isN (some (!a.isN))
 | .inn=>cmpv.mem h a b
 | .notIn=>(cmpv.mem h a b).map (!·)
noncomputable def subv (h:AH) (a b:AV):Option AV:=match a with
 | .none=>none | .bool _=>none | .int _=>none | .str _=>none
 | .tup l=>b.i?.bind fun i=>at_ l i
 | .dct l=>b.s?.bind fun k=>lk l k
 | .ref i=>(h.get i).bind fun o=>match o with
  | .lst l=>b.i?.bind fun j=>at_ l j
  | .dic l=>chk (kfit b l) (dget b l)
  | .ins _ _=>none
noncomputable def sliceFrom (h:AH) (a b:AV):Option (AV×AH):=b.i?.bind fun i=>match a with
 | .none=>none | .bool _=>none | .int _=>none | .str _=>none | .dct _=>none
 | .tup l=>chk (decide (1<=i/\i<=l.length)&&few l.length) (some (.tup (l.drop i.toNat),h))
 | .ref j=>((h.get j).bind AO.l?).bind fun l=>chk (decide (0<=i)) (some (h.new (.lst (l.drop i.toNat))))
noncomputable def sliceTo (h:AH) (a b:AV):Option (AV×AH):=b.i?.bind fun i=>(lstOf h a).bind fun l=>chk (decide (0<=i)) (some (h.new (.lst (l.take i.toNat))))
noncomputable def builtin (h:AH) (b:Bn) (v:AV):Option (AV×AH):=match b with
 | .len=>(items h v).bind fun l=>chk (few l.length) (some (.int l.length,h))
 | .abs=>v.i?.map fun i=>(.int i.natAbs,h)
 | .min=>(lstOf h v).bind fun l=>(minI l).map fun m=>(.int m,h)
 | .sorted=>v.r?.bind fun _=>(items h v).bind fun l=>(sortv l).bind fun l'=>chk (few l'.length) (some (h.new (.lst l')))
 | .tuple=>(lstOf h v).map fun l=>(.tup l,h)
 | .list=>v.r?.bind fun _=>(items h v).map fun l=>h.new (.lst l)
 | .dict=>match v with
  | .none=>none | .bool _=>none | .int _=>none | .str _=>none | .tup _=>none
  | .dct l=>chk (few l.length) (some (h.new (.dic (l.map fun p=>(.str p.1,p.2)))))
  | .ref i=>(h.get i).bind fun o=>match o with
   | .lst l=>(pairsOf l).bind fun ps=>(dsets ps []).map fun d=>h.new (.dic d)
   | .dic l=>(allStr l).map fun _=>h.new (.dic l)
   | .ins _ _=>none
structure Ms where
 get:Nat
 pop:Nat
 append:Nat
 extend:Nat
noncomputable def arg12 {β:Type} (l:List AV) (f:AV->AV->Option β):Option β:=match l with
 | []=>none
 | a::l=>match l with
  | []=>f a .none
  | b::m=>match m with
   | []=>f a b
   | _::_=>none
noncomputable def arg1 {β:Type} (l:List AV) (f:AV->Option β):Option β:=match l with
 | []=>none
 | a::l=>match l with
  | []=>f a
  | _::_=>none
noncomputable def arg2 {β:Type} (l:List AV) (f:AV->AV->Option β):Option β:=match l with
 | []=>none
 | a::l=>match l with
  | []=>none
  | b::m=>match m with
   | []=>f a b
   | _::_=>none
theorem arg1K {β:Type} {l:List AV} {f:AV->Option β} {b:β} {Y:List AV->Prop} (h:arg1 l f=some b) (k:∀ a,f a=some b->Y [a]):Y l :=
 match l,h with
 | [],h=>nomatch h
 | [a],h=>k a h
 | _::_::_,h=>nomatch h
theorem arg2K {β:Type} {l:List AV} {f:AV->AV->Option β} {b:β} {Y:List AV->Prop} (h:arg2 l f=some b) (k:∀ a d,f a d=some b->Y [a,d]):Y l :=
 match l,h with
 | [],h=>nomatch h
 | [_],h=>nomatch h
 | [a,d],h=>k a d h
 | _::_::_::_,h=>nomatch h
theorem arg12K {β:Type} {l:List AV} {f:AV->AV->Option β} {b:β} {Y:List AV->Prop} (h:arg12 l f=some b) (k1:∀ a,f a .none=some b->Y [a]) (k2:∀ a d,f a d=some b->Y [a,d]):Y l :=
 match l,h with
 | [],h=>nomatch h
 | [a],h=>k1 a h
 | [a,d],h=>k2 a d h
 | _::_::_::_,h=>nomatch h
noncomputable def AH.putV (h:AH) (i:Nat) (o:AO) (v:AV):Option (AV×AH):=(h.put i o).map fun h'=>(v,h')
noncomputable def methD (M:Ms) (h:AH) (i:Nat) (d:List (AV×AV)) (n:Nat) (l:List AV):Option (AV×AH) :=
 cond (Nat.beq n M.get) (arg12 l fun k v=>chk (kfit k d) (some ((dget k d).getD v,h)))
  (chk (Nat.beq n M.pop) (arg2 l fun k v=>chk (kfit k d) (match dget k d with
   | some r=>h.putV i (.dic (ddel k d)) r
   | none=>some (v,h))))
noncomputable def extL (h:AH) (i:Nat):AV->Option (List AV)
 | .none=>none | .bool _=>none | .int _=>none | .str _=>none | .dct _=>none
 | .tup ys=>some ys
 | .ref j=>chk (!(Nat.beq j i)) ((h.get j).bind AO.l?)
noncomputable def methL (M:Ms) (h:AH) (i:Nat) (xs:List AV) (n:Nat) (l:List AV):Option (AV×AH) :=
 cond (Nat.beq n M.append) (arg1 l fun v=>chk (few (xs.length+1)) (h.putV i (.lst (xs++[v])) .none))
  (cond (Nat.beq n M.extend) (arg1 l fun v=>(extL h i v).bind fun ys=>chk (few (xs.length+ys.length)) (h.putV i (.lst (xs++ys)) .none))
   (chk (Nat.beq n M.pop) (arg1 l fun v=>v.i?.bind fun z=>chk (z==0) (match xs with
    | x::r=>h.putV i (.lst r) x
    | []=>none))))
noncomputable def methB (M:Ms) (h:AH) (o:AV) (n:Nat) (l:List AV):Option (AV×AH):=match o with
 | .none=>none | .bool _=>none | .int _=>none | .str _=>none | .tup _=>none
 | .dct d=>chk (Nat.beq n M.get) (arg12 l fun k v=>k.s?.map fun k=>((lk d k).getD v,h))
 | .ref i=>(h.get i).bind fun q=>match q with
  | .dic d=>methD M h i d n l
  | .lst xs=>methL M h i xs n l
  | .ins _ _=>none
noncomputable def insOf (h:AH) (v:AV):Option (Nat×List (Nat×AV)):=v.r?.bind fun i=>(h.get i).bind AO.n?
noncomputable def akind (h:AH):AV->Option Bool
 | .none=>none | .bool _=>none | .int _=>none | .str _=>none | .tup _=>none
 | .dct _=>some false
 | .ref i=>(h.get i).bind AO.kd
mutual
noncomputable def bindT (fr:FrA):T->AV->Option FrA
 | .loc n,v=>some { fr with loc:=up fr.loc n v }
 | .cel n,v=>some { fr with cel:=up fr.cel n v }
 | .tup ts,v=>v.t?.bind fun vs=>bindTs fr ts vs
noncomputable def bindTs (fr:FrA):List T->List AV->Option FrA
 | [],vs=>match vs with
  | []=>some fr
  | _::_=>none
 | t::ts,vs=>match vs with
  | []=>none
  | v::vs=>(bindT fr t v).bind fun fr'=>bindTs fr' ts vs
end
noncomputable def enumFrom:Nat->List AV->List AV
 | _,[]=>[]
 | n,x::l=>.tup [.int n,x]::enumFrom (n+1) l
noncomputable def rangeL (n:Nat):List AV:=(List.range n).map fun (i:Nat)=>.int i
structure Ev where
 e:FrA->AH->X->Option (AV×AH)
 t:FrA->AH->X->Option (Bool×AH)
 s:FrA->AH->S->Option (Fl×FrA×AH)
 c:Nat->List AV->AH->Option (AV×AH)
noncomputable def Ev.none:Ev:=⟨fun _ _ _=>.none,fun _ _ _=>.none,fun _ _ _=>.none,fun _ _ _=>.none⟩
noncomputable def sq (o:Option (Fl×FrA×AH)) (k:FrA->AH->Option (Fl×FrA×AH)):Option (Fl×FrA×AH):=bind3 o fun fl fr h=>match fl with
 | .next=>k fr h
 | .brk=>some (.brk,fr,h)
 | .cont=>some (.cont,fr,h)
 | .ret v=>some (.ret v,fr,h)
noncomputable def lp (o:Option (Fl×FrA×AH)) (k:FrA->AH->Option (Fl×FrA×AH)):Option (Fl×FrA×AH):=bind3 o fun fl fr h=>match fl with
 | .next=>k fr h
 | .brk=>some (.next,fr,h)
 | .cont=>k fr h
 | .ret v=>some (.ret v,fr,h)
noncomputable def AH.lock (h:AH) (lo:List Nat):AH:=⟨h.nx,lo++h.ro,h.ob⟩
noncomputable def AH.open_ (h hza:AH):AH:=⟨h.nx,hza.ro,h.ob⟩
section
variable (P:Pg) (M:Ms) (r:Ev)
noncomputable def es (fr:FrA):AH->List X->Option (List AV×AH)
 | h,[]=>some ([],h)
 | h,x::l=>bind2 (r.e fr h x) fun v h=>bind2 (es fr h l) fun vs h=>some (v::vs,h)
noncomputable def eds (fr:FrA):AH->List (Nat×X)->Option (List (Nat×AV)×AH)
 | h,[]=>some ([],h)
 | h,q::l=>bind2 (r.e fr h q.2) fun v h=>bind2 (eds fr h l) fun vs h=>some ((q.1,v)::vs,h)
noncomputable def ss:FrA->AH->List S->Option (Fl×FrA×AH)
 | fr,h,[]=>some (.next,fr,h)
 | fr,h,x::l=>sq (r.s fr h x) fun fr h=>ss fr h l
noncomputable def andv (fr:FrA):AH->List X->Option (AV×AH)
 | _,[]=>none
 | h,x::l=>match l with
  | []=>r.e fr h x
  | _::_=>bind2 (r.e fr h x) fun v h=>v.b?.bind fun b=>cond b (andv fr h l) (some (.bool false,h))
noncomputable def orv (fr:FrA):AH->List X->Option (AV×AH)
 | _,[]=>none
 | h,x::l=>match l with
  | []=>r.e fr h x
  | _::_=>bind2 (r.e fr h x) fun v h=>v.b?.bind fun b=>cond b (some (.bool true,h)) (orv fr h l)
noncomputable def andt (fr:FrA):AH->List X->Option (Bool×AH)
 | h,[]=>some (true,h)
 | h,x::l=>bind2 (r.t fr h x) fun b h=>cond b (andt fr h l) (some (false,h))
noncomputable def ort (fr:FrA):AH->List X->Option (Bool×AH)
 | h,[]=>some (false,h)
 | h,x::l=>bind2 (r.t fr h x) fun b h=>cond b (some (true,h)) (ort fr h l)
noncomputable def iter (fr:FrA) (h:AH) (i:It):Option (List AV×List Nat×AH):=match i with
 | .of x=>bind2 (r.e fr h x) fun v h=>(items h v).map fun l=>(l,lockOf v,h)
 | .range x=>bind2 (r.e fr h x) fun v h=>v.i?.bind fun n=>chk (few n.natAbs) (some (rangeL n.toNat,[],h))
 | .enum x=>bind2 (r.e fr h x) fun v h=>(lstOf h v).map fun l=>(enumFrom 0 l,lockOf v,h)
noncomputable def forGo (t:T) (body:List S):List AV->FrA->AH->Option (Fl×FrA×AH)
 | [],fr,h=>some (.next,fr,h)
 | v::l,fr,h=>(bindT fr t v).bind fun fr=>lp (ss r fr h body) fun fr h=>forGo t body l fr h
noncomputable def compGo (t:T) (ifs:List X) (next:FrA->AH->Option (List AV×FrA×AH)):List AV->FrA->AH->Option (List AV×FrA×AH)
 | [],fr,h=>some ([],fr,h)
 | v::l,fr,h=>(bindT fr t v).bind fun fr=>bind2 (andt r fr h ifs) fun b h =>
  cond b (bind3 (next fr h) fun vs fr h=>bind3 (compGo t ifs next l fr h) fun ws fr h=>some (vs++ws,fr,h)) (compGo t ifs next l fr h)
noncomputable def iter3 {β:Type} (o:Option (List AV×List Nat×AH)) (f:List AV->List Nat->AH->Option β):Option β:=o.bind fun q=>f q.1 q.2.1 q.2.2
noncomputable def compIn (elt:X):List Gn->FrA->AH->Option (List AV×FrA×AH)
 | [],fr,h=>bind2 (r.e fr h elt) fun v h=>some ([v],fr,h)
 | g::gs,fr,h=>match g with
  | .mk t it ifs=>iter3 (iter r fr h it) fun l lo h=>bind3 (compGo r t ifs (compIn elt gs) l fr (h.lock lo)) fun vs fr h'=>some (vs,fr,h'.open_ h)
noncomputable def compE (fr:FrA) (h:AH) (elt:X) (g:List Gn):Option (AV×AH):=match g with
 | []=>none
 | .mk t it ifs::g=>iter3 (iter r fr h it) fun l lo h=>bind3 (compGo r t ifs (compIn r elt g) l { fr with loc:=[] } (h.lock lo)) fun vs _ h'=>chk (few vs.length) (some ((h'.open_ h).new (.lst vs)))
noncomputable def callM (h h':AH) (o:AV) (n:Nat) (vs:List AV):Option (AV×AH):=match insOf h o with
 | some q=>(match lk q.2 n with
  | some _=>none
  | none=>(P.mth q.1 n).bind fun f=>r.c f (o::vs) h')
 | none=>(akind h o).bind fun a=>(akind h' o).bind fun b=>chk (a==b) (methB M h' o n vs)
noncomputable def dicOf (h:AH) (v:AV):Option (List (AV×AV)):=v.r?.bind fun i=>(h.get i).bind AO.d?
noncomputable def inValsV (h:AH) (a b:AV):Option Bool:=(dicOf h b).bind fun l=>a.i?.bind fun n=>(allStr l).bind fun l'=>inI n (l'.map (·.2))
noncomputable def pairL (l:List (Nat×AV)):List AV:=l.map fun p=>.tup [.str p.1,p.2]
noncomputable def itemsL (h:AH) (v:AV):Option (AV×AH):=match v.d? with
 | some l=>some (h.new (.lst (pairL l)))
 | none=>(dicOf h v).bind fun l=>(allStr l).map fun l'=>h.new (.lst (pairL l'))
noncomputable def e2 {β:Type} (fr:FrA) (h:AH) (x y:X) (f:AV->AV->AH->Option β):Option β:=bind2 (r.e fr h x) fun a h=>bind2 (r.e fr h y) fun b h=>f a b h
noncomputable def newI (C:Nat) (vs:List AV) (h:AH):Option (AV×AH):=(P.mth C P.init).bind fun f=>bind2 (r.c f ((h.new (.ins C [])).1::vs) (h.new (.ins C [])).2) fun v h'=>chk v.isN (some ((h.new (.ins C [])).1,h'))
noncomputable def stepE (fr:FrA) (h:AH) (x:X):Option (AV×AH):=match x with
 | .cst v=>some (v,h)
 | .loc n=>(lk fr.loc n).map fun v=>(v,h)
 | .cel n=>(lk fr.cel n).map fun v=>(v,h)
 | .glb n=>(P.glb n).map fun v=>(v,h)
 | .attr x n=>bind2 (r.e fr h x) fun o h=>(insOf h o).bind fun q=>(lk q.2 n).map fun v=>(v,h)
 | .sub x y=>e2 r fr h x y fun a b h=>(subv h a b).map fun v=>(v,h)
 | .slf x y=>e2 r fr h x y fun a b h=>sliceFrom h a b
 | .slt x y=>e2 r fr h x y fun a b h=>sliceTo h a b
 | .tup l=>bind2 (es r fr h l) fun vs h=>some (.tup vs,h)
 | .lst l=>bind2 (es r fr h l) fun vs h=>some (h.new (.lst vs))
 | .dicN l=>bind2 (eds r fr h l) fun vs h=>some (h.new (.dic (vs.map fun p=>(.str p.1,p.2))))
 | .dicF l=>bind2 (eds r fr h l) fun vs h=>some (.dct vs,h)
 | .callF f l=>bind2 (es r fr h l) fun vs h=>r.c f vs h
 | .callC C l=>bind2 (es r fr h l) fun vs h=>newI P r C vs h
 | .callB b x=>bind2 (r.e fr h x) fun v h=>builtin h b v
 | .clsM C n l=>bind2 (es r fr h l) fun vs h=>(P.mth C n).bind fun f=>r.c f vs h
 | .meth x n l=>bind2 (r.e fr h x) fun o h=>bind2 (es r fr h l) fun vs h'=>callM P M r h h' o n vs
 | .cmp x o y=>e2 r fr h x y fun a b h=>(cmpv h a o b).map fun q=>(.bool q,h)
 | .not x=>bind2 (r.e fr h x) fun v h=>v.b?.map fun b=>(.bool (!b),h)
 | .and l=>andv r fr h l
 | .or l=>orv r fr h l
 | .ite t a b=>bind2 (r.t fr h t) fun q h=>cond q (r.e fr h a) (r.e fr h b)
 | .bin x o y=>e2 r fr h x y fun a b h=>binop h a o b
 | .comp elt g=>compE r fr h elt g
 | .inVals x y=>e2 r fr h x y fun a b h=>(inValsV h a b).map fun q=>(.bool q,h)
 | .lstItems y=>bind2 (r.e fr h y) fun v h=>itemsL h v
noncomputable def truB (o:Option (AV×AH)):Option (Bool×AH):=bind2 o fun v h=>v.b?.map fun b=>(b,h)
noncomputable def stepT (fr:FrA) (h:AH) (x:X):Option (Bool×AH):=match x with
 | .not x=>bind2 (r.t fr h x) fun b h=>some (!b,h)
 | .and l=>andt r fr h l
 | .or l=>ort r fr h l
 | .ite t a b=>bind2 (r.t fr h t) fun q h=>cond q (r.t fr h a) (r.t fr h b)
 | .cmp x o y=>e2 r fr h x y fun a b h=>(cmpv h a o b).map fun q=>(q,h)
 | .inVals x y=>e2 r fr h x y fun a b h=>(inValsV h a b).map fun q=>(q,h)
 | .cst v=>truB (some (v,h))
 | .loc n=>truB (r.e fr h (.loc n))
 | .callF f l=>truB (r.e fr h (.callF f l))
 | .meth o n l=>truB (r.e fr h (.meth o n l))
 | .cel _=>none | .glb _=>none | .attr _ _=>none | .sub _ _=>none | .slf _ _=>none | .slt _ _=>none | .tup _=>none | .lst _=>none | .dicN _=>none | .dicF _=>none
 | .callC _ _=>none | .callB _ _=>none | .clsM _ _ _=>none | .bin _ _ _=>none | .comp _ _=>none | .lstItems _=>none
noncomputable def asgv (fr:FrA) (h:AH) (x:X):Option (AV×AH):=match x with
 | .comp elt g=>compE r fr h elt g
 | x=>r.e fr h x
noncomputable def storeI (h:AH) (o k v:AV):Option AH:=o.r?.bind fun j=>(h.get j).bind fun q=>match q with
 | .dic l=>chk (kfit k l&&few (dset k v l).length) (h.put j (.dic (dset k v l)))
 | .lst l=>k.i?.bind fun i=>chk (decide (0<=i/\i < l.length)) (h.put j (.lst (l.set i.toNat v)))
 | .ins _ _=>none
noncomputable def storeA (h:AH) (o:AV) (n:Nat) (v:AV):Option AH:=o.r?.bind fun i=>(h.get i).bind fun q=>q.n?.bind fun q=>chk (Nat.ble (up q.2 n v).length 500) (h.put i (.ins q.1 (up q.2 n v)))
noncomputable def stepS (fr:FrA) (h:AH) (x:S):Option (Fl×FrA×AH):=match x with
 | .asg n x=>bind2 (asgv r fr h x) fun v h=>some (.next,{ fr with loc:=up fr.loc n v },h)
 | .asgC n x=>bind2 (r.e fr h x) fun v h=>some (.next,{ fr with cel:=up fr.cel n v },h)
 | .asgA o n x=>e2 r fr h x o fun v a h=>(storeA h a n v).map fun h=>(.next,fr,h)
 | .asgS o i x=>bind2 (r.e fr h x) fun v h=>e2 r fr h o i fun a k h=>(storeI h a k v).map fun h=>(.next,fr,h)
 | .asgT l x=>bind2 (r.e fr h x) fun v h=>(bindT fr (.tup l) v).map fun fr=>(.next,fr,h)
 | .asgW ns x=>bind2 (r.e fr h x) fun v h=>v.t?.bind fun vs=>(bindTs fr (ns.map .loc) vs.reverse).map fun fr=>(.next,fr,h)
 | .expr x=>bind2 (r.e fr h x) fun _ h=>some (.next,fr,h)
 | .ret x=>bind2 (r.e fr h x) fun v h=>some (.ret v,fr,h)
 | .ret0=>some (.ret .none,fr,h)
 | .ite t a b=>bind2 (r.t fr h t) fun q h=>cond q (ss r fr h a) (ss r fr h b)
 | .for_ t it body=>iter3 (iter r fr h it) fun l lo h=>bind3 (forGo r t body l fr (h.lock lo)) fun f fr h'=>some (f,fr,h'.open_ h)
 | .while_ t=>bind2 (r.t fr h t) fun b h=>chk (!b) (some (.next,fr,h))
 | .brk=>some (.brk,fr,h)
 | .cont=>some (.cont,fr,h)
 | .pass=>some (.next,fr,h)
noncomputable def bindP:List (Nat×Bool)->List AV->FrA->Option FrA
 | [],vs,fr=>match vs with
  | []=>some fr
  | _::_=>none
 | p::ps,vs,fr=>match vs with
  | []=>none
  | v::vs=>bindP ps vs (cond p.2 { fr with cel:=up fr.cel p.1 v } { fr with loc:=up fr.loc p.1 v })
noncomputable def dictNew (nc:Nat) (v:AV) (h:AH):Option (Nat×List (Nat×AV)):=v.r?.bind fun i=>chk (Nat.ble nc i) ((h.get i).bind fun o=>o.d?.bind fun l=>chk (!l.isEmpty) ((allStr l).bind fun l'=>chk (!(hasN h.ro i)) (some (i,l'))))
noncomputable def freeze (nc:Nat) (v:AV) (h:AH):AV×AH:=match dictNew nc v h with
 | some q=>(.dct q.2,{ h with ob:=h.ob.filter fun p=>!(Nat.beq p.1 q.1) })
 | none=>(v,h)
noncomputable def retOf:Fl->AV
 | .next=>.none | .brk=>.none | .cont=>.none | .ret v=>v
noncomputable def stepC (f:Nat) (vs:List AV) (h:AH):Option (AV×AH):=(P.fn f).bind fun F=>(bindP F.params vs ⟨[],[]⟩).bind fun fr=>bind3 (ss r fr h F.body) fun fl _ h'=>some (cond F.gc (freeze h.nx (retOf fl) h') (retOf fl,h'))
end
noncomputable def Ev.step (P:Pg) (M:Ms) (r:Ev):Ev:=⟨stepE P M r,stepT r,stepS r,stepC P r⟩
noncomputable def ev (P:Pg) (M:Ms):Nat->Ev
 | 0=>Ev.none
 | n+1=>Ev.step P M (ev P M n)
end Mine.Internal
namespace Mine.Internal
noncomputable def wordsS:List PySem.Str:=[⟨#[65,100,106,73,110]⟩,⟨#[66,103,112,87,111,114,108,100]⟩,⟨#[67,79,78,70,69,68,95,75,73,78,68,83]⟩,⟨#[67,79,78,70,69,68,95,83,69,81,85,69,78,67,69]⟩,⟨#[67,79,78,70,69,68,95,83,69,84]⟩,⟨#[67,104,111,111,115,101,114]⟩,⟨#[70,76,65,71,95,80,65,82,84,73,65,76]⟩,⟨#[70,76,65,71,95,84,82,65,78,83,73,84,73,86,69]⟩,⟨#[72,101,97,114,100]⟩,⟨#[73,78,83,73,68,69,95,65,76,79,78,69]⟩,⟨#[73,78,83,73,68,69,95,75,73,78,68,83]⟩,⟨#[77,79,83,84,95,73,78,95,83,69,71,77,69,78,84]⟩,⟨#[78,79,95,65,68,86,69,82,84,73,83,69]⟩,⟨#[78,79,95,69,88,80,79,82,84]⟩,⟨#[78,79,95,69,88,80,79,82,84,95,83,85,66,67,79,78,70,69,68]⟩,⟨#[83,69,81,85,69,78,67,69]⟩,⟨#[83,69,84]⟩,⟨#[83,112,101,97,107,101,114]⟩,⟨#[85,83,85,65,76,95,80,82,69,70,69,82,69,78,67,69]⟩,⟨#[87,79,82,83,84,95,77,69,68]⟩,⟨#[95,95,105,110,105,116,95,95]⟩,⟨#[95,95,110,97,109,101,95,95]⟩,⟨#[95,108,97,119,95,80,82,69,70,73,88]⟩,⟨#[95,108,97,119,95,105,115,95,119,97,121]⟩,⟨#[95,108,97,119,95,110,97,109,101,115]⟩,⟨#[95,108,97,119,95,114,101,115,116,115,95,114,105,103,104,116]⟩,⟨#[95,108,97,119,95,114,105,103,104,116]⟩,⟨#[95,108,97,119,95,114,111,119]⟩,⟨#[95,108,97,119,95,116,97,107,101]⟩,⟨#[95,108,97,119,95,116,101,108,108,115,95,114,105,103,104,116]⟩,⟨#[95,108,97,119,95,119,97,121]⟩,⟨#[95,108,97,119,95,119,111,114,108,100]⟩,⟨#[95,119,97,108,108]⟩,⟨#[97]⟩,⟨#[97,98,115]⟩,⟨#[97,100,100]⟩,⟨#[97,100,100,95,112,101,101,114]⟩,⟨#[97,100,100,114]⟩,⟨#[97,100,100,114,101,115,115]⟩,⟨#[97,100,109,105,116,116,101,100]⟩,⟨#[97,103,101,95,97,108,108]⟩,⟨#[97,108,119,97,121,115,95,109,101,100]⟩,⟨#[97,112,112,101,110,100]⟩,⟨#[97,115]⟩,⟨#[97,115,95,112,97,116,104]⟩,⟨#[97,116]⟩,⟨#[97,116,116,114,115]⟩,⟨#[98]⟩,⟨#[98,101,115,116]⟩,⟨#[98,101,115,116,95,109,101,100,115]⟩,⟨#[98,101,115,116,95,111,102]⟩,⟨#[98,111,111,107]⟩,⟨#[98,111,120]⟩,⟨#[99]⟩,⟨#[99,104,97,110,103,101,100]⟩,⟨#[99,104,111,105,99,101]⟩,⟨#[99,104,111,105,99,101,115]⟩,⟨#[99,104,111,105,99,101,115,95,111,102]⟩,⟨#[99,104,111,111,115,101]⟩,⟨#[99,104,111,115,101,110]⟩,⟨#[99,108,101,97,114]⟩,⟨#[99,108,105,101,110,116]⟩,⟨#[99,108,117,115,116,101,114]⟩,⟨#[99,108,117,115,116,101,114,115]⟩,⟨#[99,111,100,101]⟩,⟨#[99,111,109,101,115,95,98,97,99,107]⟩,⟨#[99,111,109,109,117,110,105,116,105,101,115]⟩,⟨#[99,111,110,102,101,100]⟩,⟨#[99,111,110,102,105,103]⟩,⟨#[99,111,110,110,101,99,116]⟩,⟨#[99,111,115,116]⟩,⟨#[99,111,115,116,95,116,111]⟩,⟨#[99,111,115,116,115]⟩,⟨#[100]⟩,⟨#[100,101,101,100]⟩,⟨#[100,101,108,105,118,101,114]⟩,⟨#[100,105,99,116]⟩,⟨#[100,105,115,99,111,110,110,101,99,116]⟩,⟨#[100,114,111,112,95,112,101,101,114]⟩,⟨#[100,117,101]⟩,⟨#[100,117,101,95,116,111]⟩,⟨#[101]⟩,⟨#[101,98,103,112]⟩,⟨#[101,110,117,109,101,114,97,116,101]⟩,⟨#[101,120,116,101,110,100]⟩,⟨#[102,97,99,116,115]⟩,⟨#[102,108,97,103,115]⟩,⟨#[102,111,114,109]⟩,⟨#[102,111,117,110,100]⟩,⟨#[103,101,116]⟩,⟨#[103,111,101,115,95,114,111,117,110,100]⟩,⟨#[103,111,110,101]⟩,⟨#[103,114,111,117,112,115]⟩,⟨#[104,101,97,114]⟩,⟨#[104,101,97,114,101,114]⟩,⟨#[105,98,103,112]⟩,⟨#[105,100]⟩,⟨#[105,110,110,101,114,95,110,117,109,98,101,114,115]⟩,⟨#[105,110,115]⟩,⟨#[105,115,95,102,114,111,109,95,111,117,116,115,105,100,101]⟩,⟨#[105,115,95,111,119,110]⟩,⟨#[105,115,95,113,117,105,101,116]⟩,⟨#[105,115,95,114,101,102,108,101,99,116,101,100]⟩,⟨#[105,115,95,114,101,102,108,101,99,116,111,114]⟩,⟨#[105,115,95,116,119,105,99,101]⟩,⟨#[105,116,101,109,115]⟩,⟨#[107]⟩,⟨#[107,101,112,116]⟩,⟨#[107,101,112,116,95,97,116,116,114,115]⟩,⟨#[107,105,110,100]⟩,⟨#[107,105,110,100,95,111,102,95,111,110,101]⟩,⟨#[107,105,110,100,95,111,102,95,111,116,104,101,114]⟩,⟨#[107,105,110,100,115]⟩,⟨#[108,97,100,100,101,114]⟩,⟨#[108,97,115,116,95,114,117,110,103,115]⟩,⟨#[108,97,119]⟩,⟨#[108,97,119,95,115,106,48,49,56,54,95,48,49]⟩,⟨#[108,97,119,95,115,106,48,49,56,54,95,48,50]⟩,⟨#[108,101,97,115,116]⟩,⟨#[108,101,97,115,116,95,98,121]⟩,⟨#[108,101,102,116]⟩,⟨#[108,101,102,116,95,111,117,116]⟩,⟨#[108,101,110]⟩,⟨#[108,101,116,95,111,117,116]⟩,⟨#[108,105,110,107,115]⟩,⟨#[108,105,115,116]⟩,⟨#[108,111,99,97,108,95,112,114,101,102]⟩,⟨#[108,111,111,107]⟩,⟨#[109,97,110,121]⟩,⟨#[109,97,121,95,98,101,95,116,111,108,100]⟩,⟨#[109,97,121,95,112,97,115,115]⟩,⟨#[109,101,100]⟩,⟨#[109,101,100,95,111,102]⟩,⟨#[109,101,101,116]⟩,⟨#[109,101,109,98,101,114]⟩,⟨#[109,105,110]⟩,⟨#[109,105,115,115,105,110,103,95,119,111,114,115,116]⟩,⟨#[109,111,114,101]⟩,⟨#[109,111,115,116]⟩,⟨#[110,97,109,101]⟩,⟨#[110,97,109,101,115]⟩,⟨#[110,101,105,103,104,98,111,117,114,95,97,115]⟩,⟨#[110,101,120,116,95,104,111,112]⟩,⟨#[110,101,120,116,95,111,102]⟩,⟨#[110,111,119]⟩,⟨#[110,117,109,98,101,114]⟩,⟨#[110,117,109,98,101,114,115]⟩,⟨#[111,99,116,101,116,115]⟩,⟨#[111,110,101]⟩,⟨#[111,112,116,105,111,110,115]⟩,⟨#[111,114,105,103,105,110]⟩,⟨#[111,114,105,103,105,110,97,116,101]⟩,⟨#[111,114,105,103,105,110,97,116,111,114]⟩,⟨#[111,114,105,103,105,110,115]⟩,⟨#[111,116,104,101,114]⟩,⟨#[111,117,116]⟩,⟨#[111,117,116,101,114,95,110,117,109,98,101,114,115]⟩,⟨#[111,117,116,115]⟩,⟨#[111,117,116,115,105,100,101]⟩,⟨#[111,119,110]⟩,⟨#[112,97,105,114]⟩,⟨#[112,97,105,114,115]⟩,⟨#[112,97,116,104]⟩,⟨#[112,97,116,104,95,108,101,110,103,116,104]⟩,⟨#[112,101,101,114]⟩,⟨#[112,101,101,114,95,110,97,109,101]⟩,⟨#[112,101,101,114,115]⟩,⟨#[112,101,110,100,105,110,103]⟩,⟨#[112,111,112]⟩,⟨#[112,114,101,102,101,114,101,110,99,101]⟩,⟨#[112,114,101,102,101,114,101,110,99,101,95,111,102]⟩,⟨#[112,114,101,102,105,120]⟩,⟨#[112,114,101,102,105,120,101,115]⟩,⟨#[112,114,101,112,101,110,100,101,100]⟩,⟨#[112,117,116,95,97,104,101,97,100]⟩,⟨#[112,117,116,95,105,110,95,103,114,111,117,112]⟩,⟨#[113,117,101,117,101,115]⟩,⟨#[114]⟩,⟨#[114,97,110,103,101]⟩,⟨#[114,105,118,97,108,115]⟩,⟨#[114,111,117,116,101]⟩,⟨#[114,111,117,116,101,108,111,111,109,46,97,100,106,105,110]⟩,⟨#[114,111,117,116,101,108,111,111,109,46,98,103,112,114,105,98]⟩,⟨#[114,111,117,116,101,108,111,111,109,46,98,103,112,119,111,114,108,100]⟩,⟨#[114,111,117,116,101,108,111,111,109,46,99,111,109,109,117,110,105,116,105,101,115]⟩,⟨#[114,111,117,116,101,108,111,111,109,46,100,101,99,105,100,101]⟩,⟨#[114,111,117,116,101,108,111,111,109,46,112,97,116,104,115]⟩,⟨#[114,111,117,116,101,108,111,111,109,46,114,101,102,108,101,99,116]⟩,⟨#[114,111,117,116,101,108,111,111,109,46,116,101,108,108,105,110,103]⟩,⟨#[114,111,117,116,101,115]⟩,⟨#[114,111,117,116,101,115,95,116,111]⟩,⟨#[114,111,119]⟩,⟨#[114,111,119,115]⟩,⟨#[114,117,110]⟩,⟨#[114,117,110,103,115]⟩,⟨#[115]⟩,⟨#[115,99,114,105,112,116]⟩,⟨#[115,101,103,109,101,110,116]⟩,⟨#[115,101,108,102]⟩,⟨#[115,101,116,95,99,111,115,116]⟩,⟨#[115,111,109,101]⟩,⟨#[115,111,114,116,101,100]⟩,⟨#[115,112,101,97,107,101,114]⟩,⟨#[115,112,101,97,107,101,114,115]⟩,⟨#[115,116,97,108,101]⟩,⟨#[115,116,101,112]⟩,⟨#[115,119,101,101,112]⟩,⟨#[116]⟩,⟨#[116,97,98,108,101]⟩,⟨#[116,97,107,101]⟩,⟨#[116,101,108,108]⟩,⟨#[116,101,108,108,95,111,110,101]⟩,⟨#[116,101,108,108,101,114]⟩,⟨#[116,101,108,108,101,114,95,97,100,100,114,101,115,115]⟩,⟨#[116,101,108,108,101,114,95,105,100]⟩,⟨#[116,101,108,108,101,114,115]⟩,⟨#[116,111,108,100]⟩,⟨#[116,111,108,100,95,97,116,116,114,115]⟩,⟨#[116,111,108,100,95,98,121]⟩,⟨#[116,111,108,100,95,105,110,115,105,100,101]⟩,⟨#[116,111,108,100,95,111,117,116,115,105,100,101]⟩,⟨#[116,111,108,100,95,116,111,95,109,101,109,98,101,114]⟩,⟨#[116,117,112,108,101]⟩,⟨#[116,117,114,110]⟩,⟨#[117,110,107,110,111,119,110]⟩,⟨#[117,110,107,110,111,119,110,95,111,110]⟩,⟨#[117,112,100,97,116,101]⟩,⟨#[117,115,97,98,108,101]⟩,⟨#[117,115,117,97,108]⟩,⟨#[118,97,108,117,101,115]⟩,⟨#[119,97,121]⟩,⟨#[119,97,121,115]⟩,⟨#[119,104,111,108,101]⟩,⟨#[119,105,116,104,95,109,97,114,107,115]⟩,⟨#[119,105,116,104,100,114,97,119]⟩,⟨#[119,105,116,104,100,114,97,119,110]⟩,⟨#[119,105,116,104,111,117,116,95,99,111,110,102,101,100]⟩,⟨#[119,111,114,108,100]⟩,⟨#[119,111,114,116,104,115]⟩]
noncomputable def f__wall:Fn:=⟨32,[(106,false)],[(.while_ (.cst (.bool true)))],true⟩
noncomputable def f_kept_attrs:Fn:=⟨108,[(46,true),(109,false)],[(.ite (.cmp (.loc 109) .ne (.cst (.str 82))) [(.ret (.cel 46))] []),(.ret (.callB .dict (.comp (.tup [(.loc 139),(.sub (.cel 46) (.loc 139))]) [(.mk (.loc 139) (.of (.cel 46)) [(.cmp (.loc 139) .notIn (.tup [(.cst (.str 126)),(.cst (.str 152)),(.cst (.str 63))]))])])))],true⟩
noncomputable def f_AdjIn_init:Fn:=⟨20,[(198,false),(109,false)],[(.asgA (.loc 198) 109 (.loc 109)),(.asgA (.loc 198) 189 (.dicN [])),(.asgA (.loc 198) 204 (.dicN []))],false⟩
noncomputable def f_AdjIn_take:Fn:=⟨209,[(198,false),(235,false),(46,false),(172,true),(144,false)],[(.asg 54 (.dicN [])),(.for_ (.loc 171) (.of (.comp (.loc 148) [(.mk (.loc 148) (.of (.loc 235)) [(.cmp (.loc 148) .notIn (.cel 172))])])) [(.expr (.meth (.attr (.loc 198) 204) 168 [(.loc 171),(.cst .none)])),(.ite (.cmp (.meth (.attr (.loc 198) 189) 168 [(.loc 171),(.cst .none)]) .isNot (.cst .none)) [(.asgS (.loc 54) (.loc 171) (.cst (.bool true)))] [])]),(.asg 107 (.callF 1 [(.loc 46),(.attr (.loc 198) 109)])),(.for_ (.loc 171) (.of (.cel 172)) [(.expr (.meth (.attr (.loc 198) 204) 168 [(.loc 171),(.cst .none)])),(.ite (.or [(.cmp (.loc 171) .notIn (.attr (.loc 198) 189)),(.cmp (.sub (.sub (.attr (.loc 198) 189) (.loc 171)) (.cst (.int (0)))) .ne (.loc 107))]) [(.asgS (.attr (.loc 198) 189) (.loc 171) (.tup [(.loc 107),(.loc 144)])),(.asgS (.loc 54) (.loc 171) (.cst (.bool true)))] [])]),(.ret (.callB .sorted (.loc 54)))],true⟩
noncomputable def f_AdjIn_look:Fn:=⟨127,[(198,false),(171,false)],[(.ret (.meth (.attr (.loc 198) 189) 89 [(.loc 171)]))],true⟩
noncomputable def f_AdjIn_clear:Fn:=⟨60,[(198,false)],[(.expr (.callF 0 [(.cst (.int (0)))]))],true⟩
noncomputable def f_AdjIn_age_all:Fn:=⟨40,[(198,false)],[(.expr (.callF 0 [(.cst (.int (1)))]))],true⟩
noncomputable def f_AdjIn_sweep:Fn:=⟨206,[(198,false)],[(.expr (.callF 0 [(.cst (.int (2)))]))],true⟩
noncomputable def f_path_length:Fn:=⟨163,[(162,false)],[(.asg 88 (.cst (.int (0)))),(.for_ (.tup [(.loc 109),(.loc 146)]) (.of (.loc 162)) [(.ite (.cmp (.loc 109) .eq (.glb 15)) [(.asg 88 (.bin (.loc 88) .add (.callB .len (.loc 146))))] [(.ite (.cmp (.loc 109) .eq (.glb 16)) [(.asg 88 (.bin (.loc 88) .add (.cst (.int (1)))))] [])])]),(.ret (.loc 88))],true⟩
noncomputable def f_outer_numbers:Fn:=⟨156,[(162,false)],[(.asg 88 (.lst [])),(.for_ (.tup [(.loc 109),(.loc 146)]) (.of (.loc 162)) [(.ite (.cmp (.loc 109) .notIn (.glb 2)) [(.expr (.meth (.loc 88) 84 [(.loc 146)]))] [])]),(.ret (.loc 88))],true⟩
noncomputable def f_inner_numbers:Fn:=⟨97,[(162,false)],[(.asg 88 (.lst [])),(.for_ (.tup [(.loc 109),(.loc 146)]) (.of (.loc 162)) [(.ite (.cmp (.loc 109) .inn (.glb 2)) [(.expr (.meth (.loc 88) 84 [(.loc 146)]))] [])]),(.ret (.loc 88))],true⟩
noncomputable def f_neighbour_as:Fn:=⟨141,[(162,false)],[(.for_ (.tup [(.loc 109),(.loc 146)]) (.of (.loc 162)) [(.ite (.and [(.cmp (.loc 109) .eq (.glb 15)),(.cmp (.callB .len (.loc 146)) .gt (.cst (.int (0))))]) [(.ret (.sub (.loc 146) (.cst (.int (0)))))] []),(.ite (.cmp (.loc 109) .eq (.glb 16)) [(.ret (.cst (.int (0))))] [])]),(.ret (.cst (.int (0))))],true⟩
noncomputable def f_put_ahead:Fn:=⟨174,[(162,false),(145,false),(109,false),(138,false)],[(.ite (.and [(.cmp (.callB .len (.loc 162)) .gt (.cst (.int (0)))),(.cmp (.sub (.sub (.loc 162) (.cst (.int (0)))) (.cst (.int (0)))) .eq (.loc 109)),(.cmp (.callB .len (.sub (.sub (.loc 162) (.cst (.int (0)))) (.cst (.int (1))))) .lt (.loc 138))]) [(.ret (.bin (.tup [(.tup [(.loc 109),(.bin (.tup [(.loc 145)]) .add (.sub (.sub (.loc 162) (.cst (.int (0)))) (.cst (.int (1)))))])]) .add (.slf (.loc 162) (.cst (.int (1))))))] []),(.ret (.bin (.tup [(.tup [(.loc 109),(.tup [(.loc 145)])])]) .add (.loc 162)))],true⟩
noncomputable def f_prepended:Fn:=⟨173,[(162,false),(145,false),(128,false)],[(.for_ (.loc 223) (.range (.loc 128)) [(.asg 162 (.callF 12 [(.loc 162),(.loc 145),(.glb 15),(.glb 11)]))]),(.ret (.loc 162))],true⟩
noncomputable def f_without_confed:Fn:=⟨236,[(162,false)],[(.ret (.callB .tuple (.comp (.loc 197) [(.mk (.loc 197) (.of (.loc 162)) [(.cmp (.sub (.loc 197) (.cst (.int (0)))) .notIn (.glb 2))])])))],true⟩
noncomputable def f_comes_back:Fn:=⟨65,[(162,false),(145,false),(134,false)],[(.ite (.cmp (.loc 145) .inn (.callF 9 [(.loc 162)])) [(.ret (.cst (.bool true)))] []),(.ret (.and [(.cmp (.loc 134) .ne (.cst (.int (0)))),(.cmp (.loc 134) .inn (.callF 10 [(.loc 162)]))]))],true⟩
noncomputable def f_preference_of:Fn:=⟨170,[(180,false)],[(.ret (.meth (.sub (.loc 180) (.cst (.int (1)))) 89 [(.cst (.str 126)),(.glb 18)]))],true⟩
noncomputable def f_med_of:Fn:=⟨132,[(180,false),(149,false)],[(.ret (.meth (.sub (.loc 180) (.cst (.int (1)))) 89 [(.cst (.str 131)),(.ite (.meth (.loc 149) 89 [(.cst (.str 136)),(.cst (.bool false))]) (.glb 19) (.cst (.int (0))))]))],true⟩
noncomputable def f_is_from_outside:Fn:=⟨99,[(180,false),(166,false)],[(.ret (.and [(.cmp (.sub (.loc 180) (.cst (.int (2)))) .isNot (.cst .none)),(.cmp (.sub (.sub (.loc 166) (.sub (.loc 180) (.cst (.int (2))))) (.cst (.str 109))) .eq (.cst (.str 82)))]))],true⟩
noncomputable def f_teller_id:Fn:=⟨214,[(180,false),(166,false)],[(.ite (.cmp (.sub (.loc 180) (.cst (.int (2)))) .is (.cst .none)) [(.ret (.cst (.int (0))))] []),(.ret (.meth (.sub (.loc 180) (.cst (.int (1)))) 89 [(.cst (.str 152)),(.sub (.sub (.loc 166) (.sub (.loc 180) (.cst (.int (2))))) (.cst (.str 96)))]))],true⟩
noncomputable def f_teller_address:Fn:=⟨213,[(180,false),(166,false)],[(.ret (.ite (.cmp (.sub (.loc 180) (.cst (.int (2)))) .is (.cst .none)) (.cst (.int (0))) (.sub (.sub (.loc 166) (.sub (.loc 180) (.cst (.int (2))))) (.cst (.str 37)))))],true⟩
noncomputable def f_least_by:Fn:=⟨119,[(189,false),(238,true)],[(.asgC 118 (.callB .min (.cel 238))),(.ret (.comp (.loc 180) [(.mk (.tup [(.loc 45),(.loc 180)]) (.enum (.loc 189)) [(.cmp (.sub (.cel 238) (.loc 45)) .eq (.cel 118))])]))],true⟩
noncomputable def f_best_meds:Fn:=⟨49,[(189,false),(149,true)],[(.asg 88 (.lst [])),(.for_ (.cel 180) (.of (.loc 189)) [(.asg 179 (.loc 189)),(.ite (.not (.meth (.cel 149) 89 [(.cst (.str 41)),(.cst (.bool false))])) [(.asg 179 (.comp (.loc 154) [(.mk (.loc 154) (.of (.loc 189)) [(.cmp (.callF 11 [(.sub (.sub (.loc 154) (.cst (.int (1)))) (.cst (.str 44)))]) .eq (.callF 11 [(.sub (.sub (.cel 180) (.cst (.int (1)))) (.cst (.str 44)))]))])]))] []),(.ite (.cmp (.callB .min (.comp (.callF 17 [(.loc 154),(.cel 149)]) [(.mk (.loc 154) (.of (.loc 179)) [])])) .eq (.callF 17 [(.cel 180),(.cel 149)])) [(.expr (.meth (.loc 88) 42 [(.cel 180)]))] [])]),(.ret (.loc 88))],true⟩
noncomputable def f_usable:Fn:=⟨227,[(189,false)],[(.ret (.comp (.loc 180) [(.mk (.loc 180) (.of (.loc 189)) [(.cmp (.sub (.loc 180) (.cst (.int (3)))) .isNot (.cst .none))])]))],true⟩
noncomputable def f_ladder:Fn:=⟨113,[(189,false),(166,true),(149,false)],[(.asg 120 (.callF 23 [(.loc 189)])),(.asg 194 (.lst [(.tup [(.cst (.str 227)),(.loc 120)])])),(.ite (.cmp (.callB .len (.loc 120)) .eq (.cst (.int (0)))) [(.ret (.loc 194))] []),(.asg 120 (.callF 21 [(.loc 120),(.comp (.bin (.cst (.int (0))) .sub (.callF 16 [(.loc 180)])) [(.mk (.loc 180) (.of (.loc 120)) [])])])),(.expr (.meth (.loc 194) 42 [(.tup [(.cst (.str 169)),(.loc 120)])])),(.asg 120 (.callF 21 [(.loc 120),(.comp (.ite (.cmp (.sub (.loc 180) (.cst (.int (2)))) .is (.cst .none)) (.cst (.int (0))) (.cst (.int (1)))) [(.mk (.loc 180) (.of (.loc 120)) [])])])),(.expr (.meth (.loc 194) 42 [(.tup [(.cst (.str 159)),(.loc 120)])])),(.asg 120 (.callF 21 [(.loc 120),(.comp (.callF 8 [(.sub (.sub (.loc 180) (.cst (.int (1)))) (.cst (.str 44)))]) [(.mk (.loc 180) (.of (.loc 120)) [])])])),(.expr (.meth (.loc 194) 42 [(.tup [(.cst (.str 162)),(.loc 120)])])),(.asg 120 (.callF 21 [(.loc 120),(.comp (.sub (.sub (.loc 180) (.cst (.int (1)))) (.cst (.str 150))) [(.mk (.loc 180) (.of (.loc 120)) [])])])),(.expr (.meth (.loc 194) 42 [(.tup [(.cst (.str 150)),(.loc 120)])])),(.asg 120 (.callF 22 [(.loc 120),(.loc 149)])),(.expr (.meth (.loc 194) 42 [(.tup [(.cst (.str 131)),(.loc 120)])])),(.asg 120 (.callF 21 [(.loc 120),(.comp (.ite (.callF 18 [(.loc 180),(.cel 166)]) (.cst (.int (0))) (.cst (.int (1)))) [(.mk (.loc 180) (.of (.loc 120)) [])])])),(.expr (.meth (.loc 194) 42 [(.tup [(.cst (.str 158)),(.loc 120)])])),(.asg 120 (.callF 21 [(.loc 120),(.comp (.sub (.loc 180) (.cst (.int (3)))) [(.mk (.loc 180) (.of (.loc 120)) [])])])),(.expr (.meth (.loc 194) 42 [(.tup [(.cst (.str 70)),(.loc 120)])])),(.ret (.bin (.loc 194) .add (.callF 25 [(.loc 120),(.cel 166)])))],true⟩
noncomputable def f_last_rungs:Fn:=⟨114,[(120,false),(166,true)],[(.asg 120 (.callF 21 [(.loc 120),(.comp (.callF 19 [(.loc 180),(.cel 166)]) [(.mk (.loc 180) (.of (.loc 120)) [])])])),(.asg 194 (.lst [(.tup [(.cst (.str 96)),(.loc 120)])])),(.asg 120 (.callF 21 [(.loc 120),(.comp (.callB .len (.meth (.sub (.loc 180) (.cst (.int (1)))) 89 [(.cst (.str 63)),(.tup [])])) [(.mk (.loc 180) (.of (.loc 120)) [])])])),(.expr (.meth (.loc 194) 42 [(.tup [(.cst (.str 63)),(.loc 120)])])),(.asg 120 (.callF 21 [(.loc 120),(.comp (.callF 20 [(.loc 180),(.cel 166)]) [(.mk (.loc 180) (.of (.loc 120)) [])])])),(.expr (.meth (.loc 194) 42 [(.tup [(.cst (.str 38)),(.loc 120)])])),(.ret (.loc 194))],true⟩
noncomputable def f_best_of:Fn:=⟨50,[(189,false),(166,false),(149,false)],[(.asg 120 (.sub (.sub (.callF 24 [(.loc 189),(.loc 166),(.loc 149)]) (.cst (.int (-1)))) (.cst (.int (1))))),(.ret (.ite (.cmp (.callB .len (.loc 120)) .gt (.cst (.int (0)))) (.sub (.loc 120) (.cst (.int (0)))) (.cst .none)))],true⟩
noncomputable def f_may_pass:Fn:=⟨130,[(212,false),(94,false),(103,false)],[(.ite (.or [(.cmp (.loc 212) .notIn (.glb 10)),(.cmp (.loc 94) .notIn (.glb 10))]) [(.ret (.cst (.bool true)))] []),(.ret (.and [(.loc 103),(.or [(.cmp (.loc 212) .eq (.cst (.str 61))),(.cmp (.loc 94) .eq (.cst (.str 61)))])]))],true⟩
noncomputable def f_is_reflected:Fn:=⟨102,[(212,false),(94,false)],[(.ret (.and [(.cmp (.loc 212) .inn (.glb 10)),(.cmp (.loc 94) .inn (.glb 10))]))],true⟩
noncomputable def f_goes_round:Fn:=⟨90,[(46,false),(159,false),(109,false)],[(.ite (.callF 15 [(.sub (.loc 46) (.cst (.str 44))),(.sub (.loc 159) (.cst (.str 43))),(.sub (.loc 159) (.cst (.str 134)))]) [(.ret (.cst (.bool true)))] []),(.ite (.cmp (.loc 109) .notIn (.glb 10)) [(.ret (.cst (.bool false)))] []),(.ret (.or [(.cmp (.meth (.loc 46) 89 [(.cst (.str 152)),(.cst (.int (0)))]) .eq (.sub (.loc 159) (.cst (.str 96)))),(.and [(.cmp (.sub (.loc 159) (.cst (.str 62))) .ne (.cst (.int (0)))),(.cmp (.sub (.loc 159) (.cst (.str 62))) .inn (.meth (.loc 46) 89 [(.cst (.str 63)),(.tup [])]))])]))],true⟩
noncomputable def f_with_marks:Fn:=⟨233,[(46,false),(159,false),(214,false)],[(.asg 88 (.callB .dict (.loc 46))),(.ite (.cmp (.cst (.str 152)) .notIn (.loc 88)) [(.asgS (.loc 88) (.cst (.str 152)) (.loc 214))] []),(.asgS (.loc 88) (.cst (.str 63)) (.bin (.tup [(.sub (.loc 159) (.cst (.str 62)))]) .add (.meth (.loc 88) 89 [(.cst (.str 63)),(.tup [])]))),(.ret (.loc 88))],true⟩
noncomputable def f_may_be_told:Fn:=⟨129,[(200,false),(109,false)],[(.ite (.cmp (.glb 12) .inn (.loc 200)) [(.ret (.cst (.bool false)))] []),(.ite (.cmp (.loc 109) .eq (.cst (.str 82))) [(.ret (.and [(.cmp (.glb 13) .notIn (.loc 200)),(.cmp (.glb 14) .notIn (.loc 200))]))] []),(.ret (.or [(.cmp (.loc 109) .ne (.cst (.str 67))),(.cmp (.glb 14) .notIn (.loc 200))]))],true⟩
noncomputable def f_told_outside:Fn:=⟨220,[(46,true),(159,false),(100,false)],[(.asg 88 (.callB .dict (.comp (.tup [(.loc 139),(.sub (.cel 46) (.loc 139))]) [(.mk (.loc 139) (.of (.cel 46)) [(.cmp (.loc 139) .notIn (.glb 9))])]))),(.ite (.not (.loc 100)) [(.expr (.meth (.loc 88) 168 [(.cst (.str 131)),(.cst .none)]))] []),(.asgS (.loc 88) (.cst (.str 44)) (.callF 13 [(.callF 14 [(.sub (.cel 46) (.cst (.str 44)))]),(.sub (.loc 159) (.cst (.str 43))),(.cst (.int (1)))])),(.asgS (.loc 88) (.cst (.str 142)) (.sub (.loc 159) (.cst (.str 37)))),(.ret (.loc 88))],true⟩
noncomputable def f_told_to_member:Fn:=⟨221,[(46,true),(159,false)],[(.asg 88 (.callB .dict (.comp (.tup [(.loc 139),(.sub (.cel 46) (.loc 139))]) [(.mk (.loc 139) (.of (.cel 46)) [(.cmp (.loc 139) .notIn (.tup [(.cst (.str 152)),(.cst (.str 63))]))])]))),(.asgS (.loc 88) (.cst (.str 44)) (.callF 12 [(.sub (.cel 46) (.cst (.str 44))),(.sub (.loc 159) (.cst (.str 134))),(.glb 3),(.glb 11)])),(.ite (.cmp (.cst (.str 126)) .notIn (.loc 88)) [(.asgS (.loc 88) (.cst (.str 126)) (.glb 18))] []),(.ret (.loc 88))],true⟩
noncomputable def f_told_inside:Fn:=⟨219,[(46,false),(159,false),(212,false),(94,false),(214,false)],[(.asg 88 (.ite (.callF 28 [(.loc 212),(.loc 94)]) (.callF 30 [(.loc 46),(.loc 159),(.loc 214)]) (.callB .dict (.loc 46)))),(.ite (.cmp (.cst (.str 126)) .notIn (.loc 88)) [(.asgS (.loc 88) (.cst (.str 126)) (.glb 18))] []),(.ret (.loc 88))],true⟩
noncomputable def f_told_attrs:Fn:=⟨217,[(46,false),(159,false),(212,false),(214,false),(94,false)],[(.ite (.or [(.not (.callF 27 [(.loc 212),(.loc 94),(.cmp (.sub (.loc 159) (.cst (.str 62))) .ne (.cst (.int (0))))])),(.not (.callF 31 [(.meth (.loc 46) 89 [(.cst (.str 66)),(.tup [])]),(.loc 94)]))]) [(.ret (.cst .none))] []),(.ite (.cmp (.loc 94) .eq (.cst (.str 82))) [(.asg 88 (.callF 33 [(.loc 46),(.loc 159),(.cmp (.loc 212) .is (.cst .none))]))] [(.ite (.cmp (.loc 94) .eq (.cst (.str 67))) [(.asg 88 (.callF 34 [(.loc 46),(.loc 159)]))] [(.asg 88 (.callF 35 [(.loc 46),(.loc 159),(.loc 212),(.loc 94),(.loc 214)]))])]),(.ite (.cmp (.cst (.str 224)) .inn (.loc 88)) [(.asgS (.loc 88) (.cst (.str 224)) (.callF 32 [(.sub (.loc 88) (.cst (.str 224)))])),(.ite (.cmp (.sub (.loc 88) (.cst (.str 224))) .eq (.tup [])) [(.expr (.meth (.loc 88) 168 [(.cst (.str 224))]))] [])] []),(.ret (.loc 88))],true⟩
noncomputable def f_Heard_init:Fn:=⟨20,[(198,false),(68,false)],[(.asg 232 (.meth (.loc 68) 89 [(.cst (.str 67)),(.cst (.int (0)))])),(.asgA (.loc 198) 159 (.dicN [(96,(.sub (.loc 68) (.cst (.str 96)))),(43,(.ite (.cmp (.loc 232) .ne (.cst (.int (0)))) (.loc 232) (.sub (.loc 68) (.cst (.str 43))))),(37,(.sub (.loc 68) (.cst (.str 37))))])),(.asgS (.attr (.loc 198) 159) (.cst (.str 134)) (.ite (.cmp (.loc 232) .ne (.cst (.int (0)))) (.sub (.loc 68) (.cst (.str 43))) (.cst (.int (0))))),(.asgS (.attr (.loc 198) 159) (.cst (.str 62)) (.meth (.loc 68) 89 [(.cst (.str 62)),(.cst (.int (0)))])),(.asgA (.loc 198) 149 (.meth (.loc 68) 89 [(.cst (.str 149)),(.dicF [])])),(.asgA (.loc 198) 166 (.dicN [])),(.asgA (.loc 198) 98 (.dicN [])),(.asgA (.loc 198) 153 (.dicN [])),(.asgA (.loc 198) 72 (.dicN []))],false⟩
noncomputable def f_Heard_add_peer:Fn:=⟨36,[(198,false),(145,false),(164,false)],[(.asgS (.attr (.loc 198) 166) (.loc 145) (.loc 164)),(.asgS (.attr (.loc 198) 98) (.loc 145) (.callC 0 [(.sub (.loc 164) (.cst (.str 109)))]))],false⟩
noncomputable def f_Heard_cost_to:Fn:=⟨71,[(198,false),(145,false),(38,false)],[(.asg 228 (.ite (.cmp (.sub (.sub (.attr (.loc 198) 166) (.loc 145)) (.cst (.str 109))) .eq (.cst (.str 82))) (.cst (.int (0))) (.cst .none))),(.ret (.meth (.attr (.loc 198) 72) 89 [(.loc 38),(.loc 228)]))],true⟩
noncomputable def f_Heard_admitted:Fn:=⟨39,[(198,false),(145,false),(171,false),(46,false)],[(.ite (.or [(.callF 29 [(.loc 46),(.attr (.loc 198) 159),(.sub (.sub (.attr (.loc 198) 166) (.loc 145)) (.cst (.str 109)))]),(.cmp (.sub (.loc 46) (.cst (.str 142))) .eq (.sub (.attr (.loc 198) 159) (.cst (.str 37))))]) [(.ret (.cst .none))] []),(.ret (.loc 46))],true⟩
noncomputable def f_Heard_routes_to:Fn:=⟨190,[(198,false),(171,false)],[(.asg 88 (.lst [])),(.ite (.cmp (.loc 171) .inn (.attr (.loc 198) 153)) [(.expr (.meth (.loc 88) 42 [(.tup [(.loc 171),(.sub (.attr (.loc 198) 153) (.loc 171)),(.cst .none),(.cst (.int (0))),(.cst (.int (0)))])]))] []),(.for_ (.loc 145) (.of (.callB .sorted (.attr (.loc 198) 98))) [(.asg 216 (.meth (.sub (.attr (.loc 198) 98) (.loc 145)) 127 [(.loc 171)])),(.asg 46 (.ite (.cmp (.loc 216) .is (.cst .none)) (.cst .none) (.meth (.loc 198) 39 [(.loc 145),(.loc 171),(.sub (.loc 216) (.cst (.int (0))))]))),(.ite (.cmp (.loc 46) .isNot (.cst .none)) [(.expr (.meth (.loc 88) 42 [(.tup [(.loc 171),(.loc 46),(.loc 145),(.meth (.loc 198) 71 [(.loc 145),(.sub (.loc 46) (.cst (.str 142)))]),(.sub (.loc 216) (.cst (.int (1))))])]))] [])]),(.ret (.loc 88))],true⟩
noncomputable def f_Heard_prefixes:Fn:=⟨172,[(198,false)],[(.asg 88 (.callB .dict (.comp (.tup [(.loc 171),(.cst (.bool true))]) [(.mk (.loc 171) (.of (.attr (.loc 198) 153)) [])]))),(.for_ (.loc 145) (.of (.attr (.loc 198) 98)) [(.expr (.meth (.loc 88) 226 [(.comp (.tup [(.loc 171),(.cst (.bool true))]) [(.mk (.loc 171) (.of (.attr (.sub (.attr (.loc 198) 98) (.loc 145)) 189)) [])])]))]),(.ret (.callB .sorted (.loc 88)))],true⟩
noncomputable def f_Chooser_init:Fn:=⟨20,[(198,false),(68,false)],[(.expr (.clsM 8 20 [(.loc 198),(.loc 68)])),(.asgA (.loc 198) 59 (.dicN []))],false⟩
noncomputable def f_Chooser_choose:Fn:=⟨58,[(198,false),(172,false)],[(.for_ (.loc 171) (.of (.loc 172)) [(.asg 88 (.callF 26 [(.meth (.loc 198) 190 [(.loc 171)]),(.attr (.loc 198) 166),(.attr (.loc 198) 149)])),(.ite (.cmp (.loc 88) .is (.cst .none)) [(.expr (.meth (.attr (.loc 198) 59) 168 [(.loc 171),(.cst .none)]))] [(.asgS (.attr (.loc 198) 59) (.loc 171) (.loc 88))])])],true⟩
noncomputable def f_Chooser_originate:Fn:=⟨151,[(198,false),(171,false),(46,false)],[(.asgS (.attr (.loc 198) 153) (.loc 171) (.loc 46)),(.expr (.meth (.loc 198) 58 [(.lst [(.loc 171)])]))],true⟩
noncomputable def f_Chooser_withdraw:Fn:=⟨234,[(198,false),(171,false)],[(.expr (.meth (.attr (.loc 198) 153) 168 [(.loc 171),(.cst .none)])),(.expr (.meth (.loc 198) 58 [(.lst [(.loc 171)])]))],true⟩
noncomputable def f_Chooser_hear:Fn:=⟨93,[(198,false),(145,false),(235,false),(46,false),(172,false),(144,false)],[(.expr (.meth (.loc 198) 58 [(.meth (.sub (.attr (.loc 198) 98) (.loc 145)) 209 [(.loc 235),(.loc 46),(.loc 172),(.loc 144)])]))],true⟩
noncomputable def f_Chooser_best:Fn:=⟨48,[(198,false),(171,false)],[(.ret (.meth (.attr (.loc 198) 59) 89 [(.loc 171)]))],true⟩
noncomputable def f_Speaker_init:Fn:=⟨20,[(198,false),(68,false)],[(.expr (.clsM 5 20 [(.loc 198),(.loc 68)])),(.asgA (.loc 198) 157 (.dicN []))],false⟩
noncomputable def f_Speaker_add_peer:Fn:=⟨36,[(198,false),(145,false),(164,false)],[(.expr (.clsM 8 36 [(.loc 198),(.loc 145),(.loc 164)])),(.asgS (.attr (.loc 198) 157) (.loc 145) (.dicN []))],false⟩
noncomputable def f_Speaker_let_out:Fn:=⟨123,[(198,false),(145,false),(171,false),(46,false)],[(.ret (.loc 46))],true⟩
noncomputable def f_Speaker_due_to:Fn:=⟨80,[(198,false),(145,false),(171,false)],[(.asg 180 (.meth (.attr (.loc 198) 59) 89 [(.loc 171)])),(.ite (.or [(.cmp (.loc 180) .is (.cst .none)),(.cmp (.sub (.loc 180) (.cst (.int (2)))) .eq (.loc 145))]) [(.ret (.cst .none))] []),(.asg 212 (.ite (.cmp (.sub (.loc 180) (.cst (.int (2)))) .is (.cst .none)) (.cst .none) (.sub (.attr (.loc 198) 166) (.sub (.loc 180) (.cst (.int (2))))))),(.asgT [(.loc 109),(.loc 218)] (.ite (.cmp (.loc 212) .is (.cst .none)) (.tup [(.cst .none),(.cst (.int (0)))]) (.tup [(.sub (.loc 212) (.cst (.str 109))),(.sub (.loc 212) (.cst (.str 96)))]))),(.asg 88 (.callF 36 [(.sub (.loc 180) (.cst (.int (1)))),(.attr (.loc 198) 159),(.loc 109),(.loc 218),(.sub (.sub (.attr (.loc 198) 166) (.loc 145)) (.cst (.str 109)))])),(.asg 88 (.ite (.cmp (.loc 88) .is (.cst .none)) (.cst .none) (.meth (.loc 198) 123 [(.loc 145),(.loc 171),(.loc 88)]))),(.asg 100 (.and [(.cmp (.sub (.loc 180) (.cst (.int (2)))) .is (.cst .none)),(.cmp (.loc 88) .isNot (.cst .none))])),(.ret (.ite (.and [(.loc 100),(.cmp (.meth (.loc 88) 89 [(.cst (.str 142))]) .eq (.sub (.sub (.attr (.loc 198) 166) (.loc 145)) (.cst (.str 37))))]) (.cst .none) (.loc 88)))],true⟩
noncomputable def f_Speaker_tell_one:Fn:=⟨211,[(198,false),(145,false)],[(.asgW [92,91,155] (.tup [(.sub (.attr (.loc 198) 157) (.loc 145)),(.lst []),(.lst [])])),(.for_ (.loc 171) (.of (.callB .sorted (.callB .dict (.comp (.tup [(.loc 148),(.cst (.bool true))]) [(.mk (.loc 148) (.of (.bin (.callB .list (.loc 155)) .add (.callB .list (.attr (.loc 198) 59)))) [])])))) [(.asg 79 (.meth (.loc 198) 80 [(.loc 145),(.loc 171)])),(.ite (.cmp (.loc 79) .is (.cst .none)) [(.ite (.cmp (.meth (.loc 155) 168 [(.loc 171),(.cst .none)]) .isNot (.cst .none)) [(.expr (.meth (.loc 91) 42 [(.loc 171)]))] [])] [(.ite (.cmp (.meth (.loc 155) 89 [(.loc 171)]) .ne (.loc 79)) [(.asgS (.loc 155) (.loc 171) (.loc 79)),(.expr (.callF 58 [(.loc 92),(.loc 79),(.loc 171)]))] [])])]),(.asg 88 (.ite (.cmp (.callB .len (.loc 91)) .gt (.cst (.int (0)))) (.lst [(.tup [(.callB .tuple (.loc 91)),(.dicF []),(.tup [])])]) (.lst []))),(.ret (.bin (.loc 88) .add (.comp (.tup [(.tup []),(.loc 46),(.callB .tuple (.loc 172))]) [(.mk (.tup [(.loc 46),(.loc 172)]) (.of (.loc 92)) [])])))],true⟩
noncomputable def f_Speaker_tell:Fn:=⟨210,[(198,false)],[(.asg 88 (.lst [])),(.for_ (.cel 145) (.of (.callB .sorted (.attr (.loc 198) 157))) [(.expr (.meth (.loc 88) 84 [(.comp (.tup [(.cel 145),(.loc 235),(.loc 46),(.loc 172)]) [(.mk (.tup [(.loc 235),(.loc 46),(.loc 172)]) (.of (.meth (.loc 198) 211 [(.cel 145)])) [])])]))]),(.ret (.loc 88))],true⟩
noncomputable def f_put_in_group:Fn:=⟨175,[(92,false),(46,false),(171,false)],[(.for_ (.loc 200) (.of (.loc 92)) [(.ite (.cmp (.sub (.loc 200) (.cst (.int (0)))) .eq (.loc 46)) [(.expr (.meth (.sub (.loc 200) (.cst (.int (1)))) 42 [(.loc 171)])),.ret0] [])]),(.expr (.meth (.loc 92) 42 [(.tup [(.loc 46),(.lst [(.loc 171)])])]))],false⟩
noncomputable def f_BgpWorld_init:Fn:=⟨20,[(198,false)],[(.asgA (.loc 198) 203 (.dicN [])),(.asgA (.loc 198) 85 (.dicN [])),(.asgA (.loc 198) 146 (.dicN [])),(.asgA (.loc 198) 176 (.dicN []))],false⟩
noncomputable def f_BgpWorld_add:Fn:=⟨35,[(198,false),(139,false),(202,false),(85,false)],[(.asgS (.attr (.loc 198) 203) (.loc 139) (.loc 202)),(.asgS (.attr (.loc 198) 85) (.loc 139) (.loc 85)),(.asgS (.attr (.loc 198) 146) (.loc 139) (.dicN []))],false⟩
noncomputable def f_BgpWorld_meet:Fn:=⟨133,[(198,false),(139,false),(154,false),(109,false)],[(.asg 145 (.bin (.callB .len (.sub (.attr (.loc 198) 146) (.loc 139))) .add (.cst (.int (1))))),(.while_ (.inVals (.loc 145) (.sub (.attr (.loc 198) 146) (.loc 139)))),(.asgS (.sub (.attr (.loc 198) 146) (.loc 139)) (.loc 154) (.loc 145)),(.expr (.meth (.sub (.attr (.loc 198) 203) (.loc 139)) 36 [(.loc 145),(.callB .dict (.bin (.lstItems (.sub (.attr (.loc 198) 85) (.loc 154))) .add (.lst [(.tup [(.cst (.str 109)),(.loc 109)])])))])),(.asgS (.attr (.loc 198) 176) (.tup [(.loc 139),(.loc 154)]) (.lst []))],false⟩
noncomputable def f_BgpWorld_connect:Fn:=⟨69,[(198,false),(148,false),(154,false),(111,false),(110,false)],[(.expr (.meth (.loc 198) 133 [(.loc 148),(.loc 154),(.loc 111)])),(.expr (.meth (.loc 198) 133 [(.loc 154),(.loc 148),(.loc 110)])),(.expr (.meth (.loc 198) 210 [(.loc 148)])),(.expr (.meth (.loc 198) 210 [(.loc 154)]))],false⟩
noncomputable def f_BgpWorld_peer_name:Fn:=⟨165,[(198,false),(139,false),(145,false)],[(.for_ (.loc 154) (.of (.sub (.attr (.loc 198) 146) (.loc 139))) [(.ite (.cmp (.sub (.sub (.attr (.loc 198) 146) (.loc 139)) (.loc 154)) .eq (.loc 145)) [(.ret (.loc 154))] [])]),(.ret (.cst .none))],true⟩
noncomputable def f_BgpWorld_tell:Fn:=⟨210,[(198,false),(139,false)],[(.asg 192 (.meth (.sub (.attr (.loc 198) 203) (.loc 139)) 210 [])),(.for_ (.tup [(.loc 145),(.loc 235),(.loc 46),(.loc 172)]) (.of (.loc 192)) [(.expr (.meth (.sub (.attr (.loc 198) 176) (.tup [(.loc 139),(.meth (.loc 198) 165 [(.loc 139),(.loc 145)])])) 42 [(.tup [(.loc 235),(.loc 46),(.loc 172)])]))]),(.ret (.callB .len (.loc 192)))],true⟩
noncomputable def f_BgpWorld_pending:Fn:=⟨167,[(198,true)],[(.ret (.callB .sorted (.comp (.loc 230) [(.mk (.loc 230) (.of (.attr (.cel 198) 176)) [(.cmp (.callB .len (.sub (.attr (.cel 198) 176) (.loc 230))) .gt (.cst (.int (0))))])])))],true⟩
noncomputable def f_BgpWorld_deliver:Fn:=⟨75,[(198,false),(230,false),(144,false)],[(.asgT [(.loc 139),(.loc 154)] (.loc 230)),(.asgT [(.loc 235),(.loc 46),(.loc 172)] (.meth (.sub (.attr (.loc 198) 176) (.loc 230)) 168 [(.cst (.int (0)))])),(.expr (.meth (.sub (.attr (.loc 198) 203) (.loc 154)) 93 [(.sub (.sub (.attr (.loc 198) 146) (.loc 154)) (.loc 139)),(.loc 235),(.loc 46),(.loc 172),(.loc 144)])),(.expr (.meth (.loc 198) 210 [(.loc 154)]))],true⟩
noncomputable def f_BgpWorld_step:Fn:=⟨205,[(198,false),(55,false),(144,false)],[(.asg 231 (.meth (.loc 198) 167 [])),(.ite (.cmp (.callB .len (.loc 231)) .eq (.cst (.int (0)))) [(.ret (.cst (.bool false)))] []),(.expr (.meth (.loc 198) 75 [(.sub (.loc 231) (.bin (.loc 55) .mod (.callB .len (.loc 231)))),(.loc 144)])),(.ret (.cst (.bool true)))],true⟩
end Mine.Internal
namespace Mine.Internal.L2
open Mine.Internal
noncomputable def f_Chooser_set_cost:Fn:=⟨199,[(198,false),(38,false),(70,false)],[(.asgS (.attr (.loc 198) 72) (.loc 38) (.loc 70)),(.expr (.meth (.loc 198) 58 [(.meth (.loc 198) 172 [])]))],false⟩
noncomputable def f_Chooser_table:Fn:=⟨208,[(198,false)],[(.expr (.callF 0 [(.cst (.int (3)))]))],true⟩
noncomputable def f_Speaker_drop_peer:Fn:=⟨78,[(198,false),(145,false)],[(.expr (.callF 0 [(.cst (.int (4)))]))],true⟩
noncomputable def f_BgpWorld_disconnect:Fn:=⟨77,[(198,false),(148,false),(154,false)],[(.expr (.callF 0 [(.cst (.int (5)))]))],true⟩
noncomputable def f_BgpWorld_is_quiet:Fn:=⟨101,[(198,false)],[(.ret (.cmp (.callB .len (.meth (.loc 198) 167 [])) .eq (.cst (.int (0)))))],true⟩
noncomputable def f_BgpWorld_run:Fn:=⟨193,[(198,false),(56,false),(138,false),(144,false)],[(.expr (.callF 0 [(.cst (.int (6)))]))],true⟩
noncomputable def f_BgpWorld_next_of:Fn:=⟨143,[(198,false),(139,false),(171,false)],[(.expr (.callF 0 [(.cst (.int (7)))]))],true⟩
noncomputable def f_BgpWorld_choices_of:Fn:=⟨57,[(198,false),(171,false)],[(.expr (.callF 0 [(.cst (.int (8)))]))],true⟩
noncomputable def f__law_take:Fn:=⟨28,[(52,false),(128,false)],[(.asgS (.loc 52) (.cst (.int (1))) (.bin (.sub (.loc 52) (.cst (.int (1)))) .add (.cst (.int (1))))),(.ite (.cmp (.sub (.loc 52) (.cst (.int (1)))) .le (.callB .len (.sub (.loc 52) (.cst (.int (0)))))) [(.ret (.bin (.callB .abs (.sub (.sub (.loc 52) (.cst (.int (0)))) (.bin (.sub (.loc 52) (.cst (.int (1)))) .sub (.cst (.int (1)))))) .mod (.loc 128)))] []),(.ret (.bin (.bin (.bin (.cst (.int (5))) .mul (.sub (.loc 52) (.cst (.int (1))))) .add (.bin (.sub (.loc 52) (.cst (.int (1)))) .fdiv (.cst (.int (2))))) .mod (.loc 128)))],true⟩
noncomputable def f__law_world:Fn:=⟨31,[(52,false)],[(.asg 237 (.callC 1 [])),(.for_ (.tup [(.loc 45),(.loc 139)]) (.enum (.callF 79 [])) [(.asg 85 (.dicN [(96,(.bin (.cst (.int (5))) .add (.loc 45))),(43,(.cst (.int (100)))),(37,(.bin (.cst (.int (11))) .add (.loc 45)))])),(.asg 68 (.callB .dict (.loc 85))),(.ite (.cmp (.loc 139) .ne (.cst (.str 81))) [(.asgS (.loc 68) (.cst (.str 62)) (.bin (.cst (.int (31))) .add (.ite (.cmp (.loc 139) .eq (.cst (.str 207))) (.callF 73 [(.loc 52),(.cst (.int (3)))]) (.loc 45))))] []),(.expr (.meth (.loc 237) 35 [(.loc 139),(.callC 17 [(.loc 68)]),(.loc 85)])),(.expr (.meth (.sub (.attr (.loc 237) 203) (.loc 139)) 199 [(.cst (.int (11))),(.cst (.int (3)))]))]),(.asg 104 (.cmp (.callF 73 [(.loc 52),(.cst (.int (3)))]) .eq (.cst (.int (0))))),(.asg 121 (.callF 73 [(.loc 52),(.ite (.loc 104) (.cst (.int (3))) (.cst (.int (4))))])),(.for_ (.tup [(.loc 45),(.loc 160)]) (.enum (.lst [(.tup [(.cst (.str 177)),(.cst (.str 195))]),(.tup [(.cst (.str 195)),(.cst (.str 207))]),(.tup [(.cst (.str 177)),(.cst (.str 207))])])) [(.asg 112 (.callF 73 [(.loc 52),(.cst (.int (4)))])),(.ite (.cmp (.loc 45) .ne (.loc 121)) [(.expr (.meth (.loc 237) 69 [(.sub (.loc 160) (.cst (.int (0)))),(.sub (.loc 160) (.cst (.int (1)))),(.sub (.lst [(.cst (.str 95)),(.cst (.str 61))]) (.bin (.loc 112) .mod (.cst (.int (2))))),(.sub (.lst [(.cst (.str 95)),(.cst (.str 61))]) (.bin (.loc 112) .fdiv (.cst (.int (2)))))]))] [])]),(.expr (.meth (.loc 237) 69 [(.cst (.str 177)),(.cst (.str 81)),(.cst (.str 61)),(.cst (.str 95))])),(.ite (.loc 104) [(.expr (.meth (.loc 237) 69 [(.cst (.str 207)),(.cst (.str 81)),(.cst (.str 61)),(.cst (.str 95))]))] []),(.ret (.loc 237))],false⟩
noncomputable def f_law:Fn:=⟨115,[(196,false)],[(.asgW [51,52] (.tup [(.lst [(.callB .list (.slt (.loc 196) (.cst (.int (28))))),(.cst (.int (0)))]),(.dicN [])])),(.asgC 237 (.callF 74 [(.loc 52)])),(.for_ (.loc 74) (.range (.cst (.int (2)))) [(.ite (.cmp (.loc 74) .eq (.cst (.int (0)))) [(.expr (.meth (.sub (.attr (.cel 237) 203) (.cst (.str 81))) 151 [(.glb 22),(.dicF [(150,(.cst (.int (0)))),(44,(.tup [])),(142,(.cst (.int (11))))])]))] [(.expr (.meth (.sub (.attr (.cel 237) 203) (.cst (.str 81))) 234 [(.glb 22)]))]),(.expr (.meth (.cel 237) 210 [(.cst (.str 81))])),(.ite (.not (.callF 81 [(.cel 237),(.loc 51)])) [(.ret (.cst (.bool false)))] []),(.for_ (.loc 223) (.range (.cst (.int (60)))) [(.ite (.not (.meth (.cel 237) 205 [(.callF 73 [(.loc 52),(.cst (.int (9)))]),(.loc 223)])) [.brk] []),(.ite (.not (.callF 81 [(.cel 237),(.loc 51)])) [(.ret (.cst (.bool false)))] [])]),(.ite (.not (.meth (.cel 237) 101 [])) [(.ret (.cst (.bool false)))] []),(.ite (.and [(.cmp (.loc 74) .eq (.cst (.int (0)))),(.not (.callF 82 [(.cel 237)]))]) [(.ret (.cst (.bool false)))] [])]),(.ret (.cmp (.comp (.loc 139) [(.mk (.loc 139) (.of (.callF 79 [])) [(.cmp (.callF 80 [(.cel 237),(.loc 139)]) .isNot (.cst .none))])]) .eq (.lst [])))],false⟩
noncomputable def f__law_names:Fn:=⟨24,[],[(.ret (.lst [(.cst (.str 81)),(.cst (.str 177)),(.cst (.str 195)),(.cst (.str 207))]))],true⟩
noncomputable def f__law_row:Fn:=⟨27,[(237,false),(139,false)],[(.asg 180 (.meth (.sub (.attr (.loc 237) 203) (.loc 139)) 48 [(.glb 22)])),(.ret (.ite (.cmp (.loc 180) .is (.cst .none)) (.cst .none) (.meth (.sub (.loc 180) (.cst (.int (1)))) 89 [(.cst (.str 63)),(.tup [])])))],true⟩
noncomputable def f__law_right:Fn:=⟨26,[(237,false),(51,false)],[(.for_ (.loc 139) (.of (.callF 79 [])) [(.asgW [191,202] (.tup [(.sub (.attr (.loc 237) 203) (.loc 139)),(.callF 80 [(.loc 237),(.loc 139)])])),(.ite (.cmp (.loc 191) .is (.cst .none)) [.cont] []),(.asg 180 (.meth (.loc 202) 48 [(.glb 22)])),(.asg 212 (.ite (.cmp (.sub (.loc 180) (.cst (.int (2)))) .is (.cst .none)) (.cst .none) (.meth (.loc 237) 165 [(.loc 139),(.sub (.loc 180) (.cst (.int (2))))]))),(.ite (.or [(.cmp (.cmp (.loc 139) .eq (.cst (.str 81))) .ne (.cmp (.loc 212) .is (.cst .none))),(.cmp (.sub (.sub (.loc 180) (.cst (.int (1)))) (.cst (.str 44))) .ne (.tup [])),(.cmp (.sub (.sub (.loc 180) (.cst (.int (1)))) (.cst (.str 142))) .ne (.cst (.int (11))))]) [(.ret (.cst (.bool false)))] []),(.ite (.or [(.cmp (.meth (.sub (.loc 180) (.cst (.int (1)))) 89 [(.cst (.str 126)),(.cst (.int (100)))]) .ne (.cst (.int (100)))),(.cmp (.callB .len (.callB .dict (.comp (.tup [(.loc 148),(.cst (.bool true))]) [(.mk (.loc 148) (.of (.loc 191)) [])]))) .ne (.callB .len (.loc 191)))]) [(.ret (.cst (.bool false)))] []),(.ite (.or [(.cmp (.sub (.attr (.loc 202) 159) (.cst (.str 62))) .inn (.loc 191)),(.cmp (.meth (.sub (.loc 180) (.cst (.int (1)))) 89 [(.cst (.str 152))]) .ne (.ite (.cmp (.loc 191) .eq (.tup [])) (.cst .none) (.cst (.int (5)))))]) [(.ret (.cst (.bool false)))] []),(.ite (.cmp (.cmp (.loc 191) .eq (.tup [])) .ne (.cmp (.loc 212) .inn (.tup [(.cst .none),(.cst (.str 81))]))) [(.ret (.cst (.bool false)))] []),(.ite (.and [(.cmp (.loc 191) .ne (.tup [])),(.or [(.cmp (.sub (.loc 191) (.cst (.int (0)))) .ne (.sub (.attr (.sub (.attr (.loc 237) 203) (.loc 212)) 159) (.cst (.str 62)))),(.cmp (.tup [(.loc 212),(.slf (.loc 191) (.cst (.int (1))))]) .notIn (.loc 51))])]) [(.ret (.cst (.bool false)))] [])]),(.for_ (.loc 139) (.of (.callF 79 [])) [(.ite (.cmp (.callF 80 [(.loc 237),(.loc 139)]) .isNot (.cst .none)) [(.asgS (.loc 51) (.tup [(.loc 139),(.callF 80 [(.loc 237),(.loc 139)])]) (.cst (.bool true)))] [])]),(.ret (.cst (.bool true)))],true⟩
noncomputable def f__law_rests_right:Fn:=⟨25,[(237,false)],[(.for_ (.loc 139) (.of (.slf (.callF 79 []) (.cst (.int (1))))) [(.asg 202 (.sub (.attr (.loc 237) 203) (.loc 139))),(.for_ (.loc 154) (.of (.sub (.attr (.loc 237) 146) (.loc 139))) [(.asg 155 (.meth (.sub (.attr (.sub (.attr (.loc 237) 203) (.loc 154)) 157) (.sub (.sub (.attr (.loc 237) 146) (.loc 154)) (.loc 139))) 89 [(.glb 22)])),(.ite (.or [(.cmp (.loc 155) .is (.cst .none)),(.cmp (.sub (.attr (.loc 202) 159) (.cst (.str 62))) .inn (.meth (.loc 155) 89 [(.cst (.str 63)),(.tup [])]))]) [.cont] []),(.ite (.or [(.cmp (.callF 80 [(.loc 237),(.loc 139)]) .is (.cst .none)),(.cmp (.callB .len (.callF 80 [(.loc 237),(.loc 139)])) .gt (.callB .len (.meth (.loc 155) 89 [(.cst (.str 63)),(.tup [])])))]) [(.ret (.cst (.bool false)))] [])])]),(.ret (.cst (.bool true)))],true⟩
noncomputable def fns:List (Nat×Fn):=[(0,f__wall),(1,f_kept_attrs),(2,f_AdjIn_init),(3,f_AdjIn_take),(4,f_AdjIn_look),(5,f_AdjIn_clear),(6,f_AdjIn_age_all),(7,f_AdjIn_sweep),(8,f_path_length),(9,f_outer_numbers),(10,f_inner_numbers),(11,f_neighbour_as),(12,f_put_ahead),(13,f_prepended),(14,f_without_confed),(15,f_comes_back),(16,f_preference_of),(17,f_med_of),(18,f_is_from_outside),(19,f_teller_id),(20,f_teller_address),(21,f_least_by),(22,f_best_meds),(23,f_usable),(24,f_ladder),(25,f_last_rungs),(26,f_best_of),(27,f_may_pass),(28,f_is_reflected),(29,f_goes_round),(30,f_with_marks),(31,f_may_be_told),(33,f_told_outside),(34,f_told_to_member),(35,f_told_inside),(36,f_told_attrs),(37,f_Heard_init),(38,f_Heard_add_peer),(39,f_Heard_cost_to),(40,f_Heard_admitted),(41,f_Heard_routes_to),(42,f_Heard_prefixes),(43,f_Chooser_init),(44,f_Chooser_choose),(45,f_Chooser_originate),(46,f_Chooser_withdraw),(47,f_Chooser_set_cost),(48,f_Chooser_hear),(49,f_Chooser_best),(50,f_Chooser_table),(51,f_Speaker_init),(52,f_Speaker_add_peer),(53,f_Speaker_drop_peer),(54,f_Speaker_let_out),(55,f_Speaker_due_to),(56,f_Speaker_tell_one),(57,f_Speaker_tell),(58,f_put_in_group),(59,f_BgpWorld_init),(60,f_BgpWorld_add),(61,f_BgpWorld_meet),(62,f_BgpWorld_connect),(63,f_BgpWorld_disconnect),(64,f_BgpWorld_peer_name),(65,f_BgpWorld_tell),(66,f_BgpWorld_pending),(67,f_BgpWorld_is_quiet),(68,f_BgpWorld_deliver),(69,f_BgpWorld_step),(70,f_BgpWorld_run),(71,f_BgpWorld_next_of),(72,f_BgpWorld_choices_of),(73,f__law_take),(74,f__law_world),(78,f_law),(79,f__law_names),(80,f__law_row),(81,f__law_right),(82,f__law_rests_right)]
noncomputable def clss:List (Nat×List (Nat×Nat)):=[(0,[(20,2),(209,3),(127,4),(60,5),(40,6),(206,7)]),(8,[(20,37),(36,38),(71,39),(39,40),(190,41),(172,42)]),(5,[(20,43),(58,44),(151,45),(234,46),(199,47),(93,48),(48,49),(208,50),(36,38),(71,39),(39,40),(190,41),(172,42)]),(17,[(20,51),(36,52),(78,53),(123,54),(80,55),(211,56),(210,57),(58,44),(151,45),(234,46),(199,47),(93,48),(48,49),(208,50),(71,39),(39,40),(190,41),(172,42)]),(1,[(20,59),(35,60),(133,61),(69,62),(77,63),(165,64),(210,65),(167,66),(101,67),(75,68),(205,69),(193,70),(143,71),(57,72)])]
noncomputable def glbs:List (Nat×AV):=[(16,(.int (1))),(15,(.int (2))),(3,(.int (3))),(4,(.int (4))),(2,(.tup [(.int (3)),(.int (4))])),(11,(.int (255))),(18,(.int (100))),(19,(.int (4294967295))),(10,(.tup [(.str 95),(.str 61)])),(13,(.int (4294967041))),(12,(.int (4294967042))),(14,(.int (4294967043))),(7,(.int (64))),(6,(.int (32))),(9,(.tup [(.str 126),(.str 152),(.str 63)])),(22,(.tup [(.int (335544320)),(.int (8))]))]
noncomputable def P:Pg:=⟨lk fns,fun C n=>(lk clss C).bind fun l=>lk l n,lk glbs,20⟩
noncomputable def M:Ms:=⟨89,168,42,84⟩
noncomputable def fLaw:Nat:=78
end Mine.Internal.L2
set_option genInjectivity false
set_option genSizeOf false
set_option genSizeOfSpec false
namespace Mine.Internal
open PySem PySem.W PySem.Calls PyProof.Rows
structure Cx where
 prog:Program
 w:World
 B:Heap
 K:Frag
 wd:Nat->Str
 nw:Nat
 lo:Nat
 fnAt:Nat->Addr
 clAt:Nat->Addr
 cls:List Nat
noncomputable abbrev tupObj (vs:Array Value) (n:Nat):Obj:={ cls:=.type "tuple",data:=.seq vs n }
noncomputable abbrev lstObj (vs:Array Value) (n:Nat):Obj:={ cls:=.type "list",data:=.seq vs n }
noncomputable abbrev dicObj (es:Array DictEntry) (n:Nat):Obj:={ cls:=.type "dict",data:=.dict es n }
noncomputable abbrev insObj (C dx:Addr):Obj:={ cls:=.ref C,dict:=some dx,data:=.plain }
noncomputable def hashAV (c:Cx):AV->Int
 | .int i=>hashInt i
 | .str k=>hashStr c.w (c.wd k)
 | .tup l=>reduceHash (Builtin.Tuple.tupleHashOf (hashL l))
 | _=>0
where hashL:List AV->List Int
 | []=>[]
 | v::l=>hashAV c v::hashL l
noncomputable abbrev Fz:=Addr->Option Obj
inductive Tag | no | fz | ob (i:Nat) | dx (i:Nat)
structure Mp where
 n:Nat
 ρ:Nat->Addr
 δ:Nat->Addr
 fz:Fz
 ω:Addr->Tag
structure Mp.Le (m m':Mp):Prop where
 n:m.n<=m'.n
 rho:∀ i,i < m.n->m'.ρ i=m.ρ i
 del:∀ i,i < m.n->m'.δ i=m.δ i
 fz:∀ a o,m.fz a=some o->m'.fz a=some o
section
variable (c:Cx) (m:Mp)
mutual
noncomputable def VR:AV->Value->Prop
 | .none,w=>w=.none
 | .bool b,w=>w=.bool b
 | .int i,w=>∃ t,w=.int i t
 | .str k,w=>∃ t,w=.str (c.wd k) t/\k < c.nw
 | .tup l,w=>∃ a vs j,w=.ref a/\m.fz a=some (tupObj vs j)/\VRs l vs.toList
 | .dct l,w=>∃ a es j,w=.ref a/\m.fz a=some (dicObj es j)/\(a==sysModules)=false/\DRs l es.toList/\(l.map (·.1)).Nodup/\l.length<=1000
 | .ref i,w=>w=.ref (m.ρ i)/\i < m.n
noncomputable def VRs:List AV->List Value->Prop
 | [],r=>r=[]
 | v::l,r=>∃ w r',r=w::r'/\VR v w/\VRs l r'
noncomputable def DRs:List (Nat×AV)->List DictEntry->Prop
 | [],r=>r=[]
 | (k,v)::l,r=>∃ e r',r=e::r'/\k < c.nw/\(∃ t,e.key=.str (c.wd k) t)/\e.hash=hashStr c.w (c.wd k)/\VR v e.val/\DRs l r'
end
structure KRow (q:AV×AV) (e:DictEntry):Prop where
 key:VR c m q.1 e.key
 hash:e.hash=hashAV c q.1
 val:VR c m q.2 e.val
noncomputable def KRs:List (AV×AV)->List DictEntry->Prop
 | [],r=>r=[]
 | q::l,r=>∃ e r',r=e::r'/\KRow c m q e/\KRs l r'
end
section
variable {c:Cx} {m:Mp} {w:Value} {Y:Value->Prop} {Z:List Value->Prop} {D:List DictEntry->Prop}
theorem VR.none:VR c m .none .none:=rfl
theorem VR.bool (b:Bool):VR c m (.bool b) (.bool b):=rfl
theorem VR.int (i:Int) (t:Tok):VR c m (.int i) (.int i t):=⟨t,rfl⟩
theorem VR.str (k:Nat) (t:Tok) (h:k < c.nw):VR c m (.str k) (.str (c.wd k) t):=⟨t,rfl,h⟩
theorem VR.tup {a:Addr} {vs:Array Value} {j:Nat} {l:List AV} (h:m.fz a=some (tupObj vs j)) (r:VRs c m l vs.toList):VR c m (.tup l) (.ref a):=⟨a,vs,j,rfl,h,r⟩
theorem VR.dct {a:Addr} {es:Array DictEntry} {j:Nat} {l:List (Nat×AV)} (h:m.fz a=some (dicObj es j)) (q:(a==sysModules)=false) (r:DRs c m l es.toList) (d:(l.map (·.1)).Nodup/\l.length<=1000):VR c m (.dct l) (.ref a):=⟨a,es,j,rfl,h,q,r,d⟩
theorem VR.ref {i:Nat} (h:i < m.n):VR c m (.ref i) (.ref (m.ρ i)):=⟨rfl,h⟩
theorem VRs.nil:VRs c m [] []:=rfl
theorem VRs.cons {v:AV} {w:Value} {l:List AV} {r:List Value} (h:VR c m v w) (k:VRs c m l r):VRs c m (v::l) (w::r):=⟨w,r,rfl,h,k⟩
theorem DRs.nil:DRs c m [] []:=rfl
theorem DRs.cons {k:Nat} {v:AV} {e:DictEntry} {l:List (Nat×AV)} {r:List DictEntry} (h1:k < c.nw) (h2:∃ t,e.key=.str (c.wd k) t) (h3:e.hash=hashStr c.w (c.wd k)) (h4:VR c m v e.val) (h5:DRs c m l r):DRs c m ((k,v)::l) (e::r):=⟨e,r,rfl,h1,h2,h3,h4,h5⟩
theorem KRs.nil:KRs c m [] []:=rfl
theorem KRs.cons {q:AV×AV} {e:DictEntry} {l:List (AV×AV)} {r:List DictEntry} (h:KRow c m q e) (k:KRs c m l r):KRs c m (q::l) (e::r):=⟨e,r,rfl,h,k⟩
theorem VR.noneK (V:VR c m .none w) (k:Y .none):Y w:=V▸k
theorem VR.boolK {b:Bool} (V:VR c m (.bool b) w) (k:Y (.bool b)):Y w:=V▸k
theorem VR.intK {i:Int} (V:VR c m (.int i) w) (k:∀ t,Y (.int i t)):Y w:=V.elim fun t e=>e▸k t
theorem VR.strK {i:Nat} (V:VR c m (.str i) w) (k:∀ t,i < c.nw->Y (.str (c.wd i) t)):Y w:=V.elim fun t e=>e.1▸k t e.2
theorem VR.tupK {l:List AV} (V:VR c m (.tup l) w) (k:∀ a vs j,m.fz a=some (tupObj vs j)->VRs c m l vs.toList->Y (.ref a)):Y w:=by obtain ⟨a,vs,j,rfl,h,r⟩:=V; exact k a vs j h r
theorem VR.dctK {l:List (Nat×AV)} (V:VR c m (.dct l) w) (k:∀ a es j,m.fz a=some (dicObj es j)->(a==sysModules)=false->DRs c m l es.toList->(l.map (·.1)).Nodup->l.length<=1000->Y (.ref a)):Y w:=by obtain ⟨a,es,j,rfl,h,q,r,d,e⟩:=V; exact k a es j h q r d e
theorem VR.refK {i:Nat} (V:VR c m (.ref i) w) (k:i < m.n->Y (.ref (m.ρ i))):Y w:=V.1▸k V.2
theorem VRs.nilK {r:List Value} (V:VRs c m [] r) (k:Z []):Z r:=V▸k
theorem VRs.consK {v:AV} {l:List AV} {r:List Value} (V:VRs c m (v::l) r) (k:∀ w r',VR c m v w->VRs c m l r'->Z (w::r')):Z r:=by obtain ⟨w,r',rfl,h,q⟩:=V; exact k w r' h q
theorem DRs.nilK {r:List DictEntry} (V:DRs c m [] r) (k:D []):D r:=V▸k
theorem DRs.consK {p:Nat×AV} {l:List (Nat×AV)} {r:List DictEntry} (V:DRs c m (p::l) r) (k:∀ e r',p.1 < c.nw->(∃ t,e.key=.str (c.wd p.1) t)->e.hash=hashStr c.w (c.wd p.1)->VR c m p.2 e.val->DRs c m l r'->D (e::r')):D r:=by obtain ⟨e,r',rfl,h1,h2,h3,h4,h5⟩:=V; exact k e r' h1 h2 h3 h4 h5
theorem KRs.nilK {r:List DictEntry} (V:KRs c m [] r) (k:D []):D r:=V▸k
theorem KRs.consK {q:AV×AV} {l:List (AV×AV)} {r:List DictEntry} (V:KRs c m (q::l) r) (k:∀ e r',KRow c m q e->KRs c m l r'->D (e::r')):D r:=by obtain ⟨e,r',rfl,h,g⟩:=V; exact k e r' h g
end
inductive KKind | s | i | t
noncomputable def kindIs:KKind->AV->Prop
 | .s,k=>∃ j,k=.str j
 | .i,k=>∃ j,k=.int j
 | .t,k=>∃ l,k=.tup l/\keyOk k=true
section
variable (c:Cx) (m:Mp)
noncomputable def OR (h:Heap) (i:Nat):AO->Prop
 | .lst l=>∃ vs j,h.get? (m.ρ i)=some (lstObj vs j)/\VRs c m l vs.toList/\l.length<=1000
 | .dic l=>∃ es j,h.get? (m.ρ i)=some (dicObj es j)/\KRs c m l es.toList/\(∃ κ,∀ p∈l,kindIs κ p.1)/\(l.map (·.1)).Nodup/\l.length<=1000
 | .ins C l=>∃ es j,h.get? (m.ρ i)=some (insObj (c.clAt C) (m.δ i))/\h.get? (m.δ i)=some (dicObj es j)/\DRs c m l es.toList/\(l.map (·.1)).Nodup/\l.length<=500/\C∈c.cls
end
variable {c:Cx} {m m':Mp}
theorem OR.lstK {h:Heap} {i:Nat} {l:List AV} {Z:Prop} (x:OR c m h i (.lst l)) (k:∀ vs j,h.get? (m.ρ i)=some (lstObj vs j)->VRs c m l vs.toList->l.length<=1000->Z):Z:=by obtain ⟨vs,j,a,b,d⟩:=x; exact k vs j a b d
theorem OR.dicK {h:Heap} {i:Nat} {l:List (AV×AV)} {Z:Prop} (x:OR c m h i (.dic l)) (k:∀ es j,h.get? (m.ρ i)=some (dicObj es j)->KRs c m l es.toList->(∃ κ,∀ p∈l,kindIs κ p.1)->(l.map (·.1)).Nodup->l.length<=1000->Z):Z:=by obtain ⟨es,j,a,b,d,e,g⟩:=x; exact k es j a b d e g
theorem OR.insK {h:Heap} {i C:Nat} {l:List (Nat×AV)} {Z:Prop} (x:OR c m h i (.ins C l)) (k:∀ es j,h.get? (m.ρ i)=some (insObj (c.clAt C) (m.δ i))->h.get? (m.δ i)=some (dicObj es j)->DRs c m l es.toList->(l.map (·.1)).Nodup->l.length<=500->C∈c.cls->Z):Z:=by obtain ⟨es,j,a,b,d,e,g,q⟩:=x; exact k es j a b d e g q
theorem Mp.Le.refl:Mp.Le m m:=⟨Nat.le_refl _,fun _ _=>rfl,fun _ _=>rfl,fun _ _ e=>e⟩
theorem Mp.Le.trans {m'':Mp} (x:Mp.Le m m') (y:Mp.Le m' m''):Mp.Le m m'' :=
 ⟨ltr x.n y.n,fun i h=>(y.rho i (Nat.lt_of_lt_of_le h x.n)).trans (x.rho i h),fun i h=>(y.del i (Nat.lt_of_lt_of_le h x.n)).trans (x.del i h),fun a o e=>y.fz a o (x.fz a o e)⟩
section
variable (x:Mp.Le m m')
include x
mutual
theorem VR.mono:∀ {v w},VR c m v w->VR c m' v w
 | .none,_,h=>h
 | .bool _,_,h=>h
 | .int _,_,h=>h
 | .str _,_,h=>h
 | .tup _,_,h=>h.tupK fun _ _ _ h r=>.tup (x.fz _ _ h) (VRs.mono r)
 | .dct _,_,h=>h.dctK fun _ _ _ h q r d e=>.dct (x.fz _ _ h) q (DRs.mono r) ⟨d,e⟩
 | .ref i,_,h=>⟨h.1.trans (congrArg Value.ref (x.rho i h.2).symm),Nat.lt_of_lt_of_le h.2 x.n⟩
theorem VRs.mono:∀ {l r},VRs c m l r->VRs c m' l r
 | [],_,h=>h
 | _::_,_,h=>h.consK fun _ _ a k=>.cons (VR.mono a) (VRs.mono k)
theorem DRs.mono:∀ {l r},DRs c m l r->DRs c m' l r
 | [],_,h=>h
 | (_,_)::_,_,h=>h.consK fun _ _ h1 h2 h3 h k=>.cons h1 h2 h3 (VR.mono h) (DRs.mono k)
end
theorem KRs.mono:∀ {l r},KRs c m l r->KRs c m' l r
 | [],_,h=>h
 | _::_,_,h=>h.consK fun _ _ h k=>.cons ⟨h.key.mono x,h.hash,h.val.mono x⟩ (KRs.mono k)
end
theorem VRs.length:∀ {l r},VRs c m l r->l.length=r.length
 | [],_,h=>h.nilK (Z:=fun r=>0=r.length) rfl
 | _::_,_,h=>h.consK (Z:=fun r=>_+1=r.length) fun _ _ _ k=>congrArg (·+1) (VRs.length k)
theorem DRs.length:∀ {l r},DRs c m l r->l.length=r.length
 | [],_,h=>h.nilK (D:=fun r=>0=r.length) rfl
 | _::_,_,h=>h.consK (D:=fun r=>_+1=r.length) fun _ _ _ _ _ _ k=>congrArg (·+1) (DRs.length k)
theorem KRs.length:∀ {l r},KRs c m l r->l.length=r.length
 | [],_,h=>h.nilK (D:=fun r=>0=r.length) rfl
 | _::_,_,h=>h.consK (D:=fun r=>_+1=r.length) fun _ _ _ k=>congrArg (·+1) (KRs.length k)
theorem VRs.append:∀ {l r l' r'},VRs c m l r->VRs c m l' r'->VRs c m (l++l') (r++r')
 | [],_,_,r',h,k=>h.nilK (Z:=fun r=>VRs c m _ (r++r')) k
 | _::_,_,_,r',h,k=>h.consK (Z:=fun r=>VRs c m _ (r++r')) fun _ _ h r=>.cons h (VRs.append r k)
theorem VRs.getK {Z:Prop}:∀ {l r},VRs c m l r->∀ {i:Nat} {v:AV},l[i]?=some v->(∀ w,r[i]?=some w->VR c m v w->Z)->Z
 | [],_,_,_,_,e,_=>nomatch e
 | _::_,_,h,0,_,e,k=>(h.consK (Z:=fun r=>(∀ w,r[0]?=some w->VR c m _ w->Z)->Z) fun _ _ h _ k=>k _ rfl (Option.some.inj e▸h)) k
 | _::_,_,h,i+1,_,e,k=>(h.consK (Z:=fun r=>(∀ w,r[i+1]?=some w->VR c m _ w->Z)->Z) fun _ _ _ q k=>VRs.getK q e k) k
structure Fm where
 env:Env
 kd:Nat->Option NameKind
structure Fm.Ok (c:Cx) (f:Fm):Prop where
 kind:f.env.scope.kind=.function
 glob:f.env.globals=mainGlobals
 blt:f.env.builtins=builtinsNs
 names:∀ x k,f.kd x=some k->x < c.nw/\f.env.kindOf (c.wd x)=some k
 nodup:(f.env.cells.map (·.2)).Nodup
 nod':(f.env.cells.map (·.1)).Nodup
structure FrOk (c:Cx) (f:Fm) (m:Mp) (fr:FrA) (h:Heap):Prop where
 loc:∃ t,h.Ns f.env.locals t/\∀ x v,lk fr.loc x=some v->f.kd x=some .local->∃ w,t (c.wd x)=some w/\VR c m v w
 cel:∀ x v,lk fr.cel x=some v->f.kd x=some .cell->∃ a w,f.env.cells.lookup (c.wd x)=some a/\h.IsCell a (some w)/\VR c m v w
 hasCell:∀ x,f.kd x=some .cell->∃ a o,f.env.cells.lookup (c.wd x)=some a/\h.IsCell a o
inductive Own (f:Fm) (ρ δ:Nat->Addr) (J:AH):Addr->Prop
 | loc:Own f ρ δ J f.env.locals
 | cell {p}:p∈f.env.cells->Own f ρ δ J p.2
 | obj {i o}:lk J.ob i=some o->hasN J.ro i=false->Own f ρ δ J (ρ i)
 | dic {i C l}:lk J.ob i=some (.ins C l)->hasN J.ro i=false->Own f ρ δ J (δ i)
structure St (c:Cx) (f:Fm) (fr:FrA) (m:Mp) (J:AH) (s:Shared):Prop where
 nx:m.n=J.nx
 base:∀ a o,c.B.get? a=some o->m.fz a=some o
 fzh:∀ a o,m.fz a=some o->s.heap.get? a=some o
 obj:∀ i o,lk J.ob i=some o->i < m.n/\OR c m s.heap i o
 tF:∀ a o,m.fz a=some o->m.ω a=.fz
 tO:∀ i o,lk J.ob i=some o->m.ω (m.ρ i)=.ob i
 tD:∀ i C l,lk J.ob i=some (.ins C l)->m.ω (m.δ i)=.dx i
 dom:∀ a,s.heap.get? a=none->m.ω a=.no
 tL:m.ω f.env.locals=.no
 tC:∀ p∈f.env.cells,m.ω p.2=.no
 locC:∀ p∈f.env.cells,p.2≠f.env.locals
 fr:FrOk c f m fr s.heap
 gens:s.gens=#[]
 cin:∀ p∈f.env.cells,∃ o,s.heap.get? p.2=some o
 lowL:c.lo<=f.env.locals
 lowC:∀ p∈f.env.cells,c.lo<=p.2
 lowR:∀ i o,lk J.ob i=some o->c.lo<=m.ρ i
 lowD:∀ i C l,lk J.ob i=some (.ins C l)->c.lo<=m.δ i
structure Ext (f:Fm) (m:Mp) (J:AH) (s:Shared) (m':Mp) (J':AH) (s':Shared):Prop where
 le:Mp.Le m m'
 ro:J'.ro=J.ro
 keep:∀ a o,s.heap.get? a=some o->¬ Own f m.ρ m.δ J a->s'.heap.get? a=some o
 there:∀ a o,s.heap.get? a=some o->∃ o',s'.heap.get? a=some o'
 tag:∀ a,m'.ω a=m.ω a∨s.heap.get? a=none
 own:∀ a,Own f m'.ρ m'.δ J' a->Own f m.ρ m.δ J a∨s.heap.get? a=none
 os:s'.os=s.os
 drawn:s'.drawn=s.drawn
theorem Ext.refl {f:Fm} {J:AH} {s:Shared}:Ext f m J s m J s:=⟨.refl,rfl,fun _ _ e _=>e,fun _ o e=>⟨o,e⟩,fun _=>.inl rfl,fun _ h=>.inl h,rfl,rfl⟩
theorem Ext.back {f:Fm} {J Ja:AH} {s sd:Shared} {md:Mp} (x:Ext f m J s md Ja sd) {a:Addr} (h:sd.heap.get? a=none):s.heap.get? a=none:=by
 cases q:s.heap.get? a with
 | none=>rfl
 | some o=>obtain ⟨o',e⟩:=x.there a o q; rw [h] at e; exact nomatch e
theorem Ext.trans {f:Fm} {J Ja Jb:AH} {s sd se:Shared} {md mf:Mp} (x:Ext f m J s md Ja sd) (y:Ext f md Ja sd mf Jb se):Ext f m J s mf Jb se where
 le:=x.le.trans y.le
 ro:=y.ro.trans x.ro
 keep:=fun a o e h=>y.keep a o (x.keep a o e h) fun q=>(x.own a q).elim h fun k=>nomatch e.symm.trans k
 there:=fun a o e=>(x.there a o e).elim (y.there a)
 tag:=fun a=>(y.tag a).elim (fun e=>(x.tag a).imp e.trans id) fun k=>.inr (x.back k)
 own:=fun a h=>(y.own a h).elim (x.own a) fun k=>.inr (x.back k)
 os:=y.os.trans x.os
 drawn:=y.drawn.trans x.drawn
theorem Ext.vr {f:Fm} {J J':AH} {s s':Shared} (x:Ext f m J s m' J' s') {v w} (h:VR c m v w):VR c m' v w:=h.mono x.le
theorem Ext.vrs {f:Fm} {J J':AH} {s s':Shared} (x:Ext f m J s m' J' s') {v w} (h:VRs c m v w):VRs c m' v w:=h.mono x.le
end Mine.Internal
namespace Mine.Internal
open PySem PySem.W PySem.Calls PyProof.Rows
section
variable {c:Cx} {f:Fm} {fr:FrA} {m m':Mp} {J:AH} {s:Shared} {h h':Heap}
theorem OR.move {i:Nat} {o:AO} (x:OR c m h i o) (le:Mp.Le m m') (hi:i < m.n)
  (k:∀ ob,h.get? (m.ρ i)=some ob->h'.get? (m.ρ i)=some ob) (kd:∀ C l,o=.ins C l->∀ ob,h.get? (m.δ i)=some ob->h'.get? (m.δ i)=some ob):OR c m' h' i o :=
 match o,x,kd with
 | .lst _,x,_=>x.lstK fun vs j a b d=>⟨vs,j,le.rho i hi▸k _ a,b.mono le,d⟩
 | .dic _,x,_=>x.dicK fun es j a b d e g=>⟨es,j,le.rho i hi▸k _ a,b.mono le,d,e,g⟩
 | .ins C l,x,kd=>x.insK fun es j a b d q e g=>⟨es,j,le.rho i hi▸le.del i hi▸k _ a,le.del i hi▸kd C l rfl _ b,d.mono le,q,e,g⟩
theorem cellIn {x:Str} {a:Addr}:∀ {l:List (Str×Addr)},l.lookup x=some a->(x,a)∈l
 | [],e=>nomatch e
 | (y,b)::l,e=>by
  rw [List.lookup_cons] at e
  cases q:x==y with
  | true=>rw [q] at e; rw [← Option.some.inj e,eq_of_beq q]; exact .head _
  | false=>rw [q] at e; exact .tail _ (cellIn e)
theorem FrOk.move (x:FrOk c f m fr h) (le:Mp.Le m m')
  (k:∀ ob,h.get? f.env.locals=some ob->h'.get? f.env.locals=some ob) (kc:∀ p∈f.env.cells,∀ ob,h.get? p.2=some ob->h'.get? p.2=some ob):FrOk c f m' fr h' where
 loc:=x.loc.imp fun _ ⟨⟨o,es,ep,ho,r⟩,hl⟩=>⟨⟨o,es,ep,k _ ho,r⟩,fun x v e k=>(hl x v e k).imp fun _ q=>⟨q.1,q.2.mono le⟩⟩
 cel:=fun y v e kk=>(x.cel y v e kk).imp fun _=>Exists.imp fun _ ⟨e1,⟨o,ho,hd⟩,b⟩=>⟨e1,⟨o,kc _ (cellIn e1) _ ho,hd⟩,b.mono le⟩
 hasCell:=fun y kk=>(x.hasCell y kk).imp fun _=>Exists.imp fun _ ⟨e1,ob,ho,hd⟩=>⟨e1,ob,kc _ (cellIn e1) _ ho,hd⟩
theorem St.tick (x:St c f fr m J s) (t:Nat):St c f fr m J { s with toks:=t }:=⟨x.nx,x.base,x.fzh,x.obj,x.tF,x.tO,x.tD,x.dom,x.tL,x.tC,x.locC,x.fr,x.gens,x.cin,x.lowL,x.lowC,x.lowR,x.lowD⟩
theorem there_of {a:Addr} {h h':Heap} (hs:Heap.SameBut a h h') (hat:∃ o,h'.get? a=some o):∀ b o,h.get? b=some o->∃ o',h'.get? b=some o':=fun b o e =>
 if r:b=a then r▸hat else ⟨o,(hs.2 b r).trans e⟩
theorem Ext.tick {t:Nat} (_h:s.toks<=t):Ext f m J s m J { s with toks:=t }:=⟨.refl,rfl,fun _ _ e _=>e,fun _ o e=>⟨o,e⟩,fun _=>.inl rfl,fun _ h=>.inl h,rfl,rfl⟩
theorem St.locLt (x:St c f fr m J s):f.env.locals < s.heap.objs.size:=x.fr.loc.elim fun _ h=>h.1.lt
theorem St.celLt (x:St c f fr m J s) {p} (h:p∈f.env.cells):p.2 < s.heap.objs.size:=(x.cin p h).elim fun _ e=>Heap.lt_size e
noncomputable def put {α:Type} (g:Nat->α) (a:Nat) (o:α):Nat->α:=fun b=>if b=a then o else g b
theorem put_self {α:Type} (g:Nat->α) (a:Nat) (o:α):put g a o a=o:=if_pos rfl
theorem put_ne {α:Type} {g:Nat->α} {a b:Nat} {o:α} (h:b≠a):put g a o b=g b:=if_neg h
structure Un (f:Fm) (m:Mp) (a:Addr):Prop where
 tag:m.ω a=.no
 loc:a≠f.env.locals
 cel:∀ p∈f.env.cells,p.2≠a
theorem no_some {h:Heap} {a b:Addr} {o:Obj} {Z:Prop} (n:h.get? b=none) (r:b=a) (e:h.get? a=some o):Z:=nomatch (r▸n:h.get? a=none).symm.trans e
theorem Un.ofNone (x:St c f fr m J s) {a:Addr} (h:s.heap.get? a=none):Un f m a :=
 ⟨x.dom a h,fun e=>x.fr.loc.elim fun _ q=>q.1.elim fun _ q=>q.elim fun _ q=>q.elim fun _ q=>no_some h e q.1,fun p hp e=>(x.cin p hp).elim fun _ q=>no_some h e.symm q⟩
theorem Un.fresh (x:St c f fr m J s) {a:Addr} (h:s.heap.objs.size<=a):Un f m a:=.ofNone x (Heap.get?_none_of_le h)
theorem Un.ext {J':AH} {s':Shared} {a:Addr} (u:Un f m a) (X:Ext f m J s m' J' s') {o:Obj} (h:s.heap.get? a=some o):Un f m' a:=⟨(X.tag a).elim (·.trans u.tag) fun n=>(nomatch h.symm.trans n),u.loc,u.cel⟩
section
variable (x:St c f fr m J s) {a:Addr} (u:Un f m a)
include x u
theorem Un.fz {o:Obj} {Z:Prop} (e:m.fz a=some o):Z:=nomatch (x.tF _ _ e).symm.trans u.tag
theorem Un.obj {i o} (e:lk J.ob i=some o):m.ρ i≠a:=fun q=>nomatch (x.tO _ _ e).symm.trans (q.symm▸u.tag:m.ω (m.ρ i)=.no)
theorem Un.dic {i C l} (e:lk J.ob i=some (.ins C l)):m.δ i≠a:=fun q=>nomatch (x.tD _ _ _ e).symm.trans (q.symm▸u.tag:m.ω (m.δ i)=.no)
theorem Un.notOwn:¬ Own f m.ρ m.δ J a:=fun q=>by
 cases q with
 | loc=>exact u.loc rfl
 | cell hp=>exact u.cel _ hp rfl
 | obj e _=>exact u.obj x e rfl
 | dic e _=>exact u.dic x e rfl
end
theorem St.heap (x:St c f fr m J s) (hk:∀ b o,¬ Un f m b->s.heap.get? b=some o->h'.get? b=some o) {t:Nat}:St c f fr m J { s with heap:=h',toks:=t } :=
 ⟨x.nx,x.base,fun b o e=>hk b o (fun u=>u.fz x e) (x.fzh _ _ e),fun i q e=>⟨(x.obj i q e).1,(x.obj i q e).2.move .refl (x.obj i q e).1 (fun ob=>hk _ _ fun u=>u.obj x e rfl) fun C l r ob=>hk _ _ fun u=>u.dic x (r▸e) rfl⟩,
  x.tF,x.tO,x.tD,fun b hb=>Classical.byCases (fun u:Un f m b=>u.tag) fun u=>x.dom b (Option.eq_none_iff_forall_ne_some.mpr fun o q=>nomatch hb.symm.trans (hk b o u q)),x.tL,x.tC,x.locC,x.fr.move .refl (fun ob=>hk _ _ fun u=>u.loc rfl) fun p hp ob=>hk _ _ fun u=>u.cel _ hp rfl,x.gens,fun p hp=>(x.cin p hp).imp fun _=>hk _ _ fun u=>u.cel _ hp rfl,x.lowL,x.lowC,x.lowR,x.lowD⟩
section
variable {ma:Mp} {J0:AH} {sa:Shared}
theorem Ext.heap (X:Ext f ma J0 sa m J s) (hk:∀ b o,(sa.heap.get? b).isSome->s.heap.get? b=some o->h'.get? b=some o) {t:Nat}:Ext f ma J0 sa m J { s with heap:=h',toks:=t } :=
 ⟨X.le,X.ro,fun a o e ha=>hk a o (e▸rfl) (X.keep a o e ha),fun a o e=>(X.there a o e).imp fun _=>hk a _ (e▸rfl),X.tag,X.own,X.os,X.drawn⟩
theorem St.raw (x:St c f fr m J s) (o:Obj):St c f fr m J { s with heap:=s.heap.push o }:=x.heap (t:=s.toks) fun _ _ _ e=>Heap.get?_push_of_some _ e
theorem Ext.raw (o:Obj):Ext f m J s m J { s with heap:=s.heap.push o }:=Ext.heap (t:=s.toks) .refl fun _ _ _ e=>Heap.get?_push_of_some _ e
theorem St.rawTurn (x:St c f fr m J s) {a:Addr} (u:Un f m a) (hs:Heap.SameBut a s.heap h') {t:Nat}:St c f fr m J { s with heap:=h',toks:=t }:=x.heap fun b o hb e=>(hs.2 b fun r=>hb (r▸u)).trans e
theorem Ext.rawTurn (X:Ext f ma J0 sa m J s) {a:Addr} (ha:sa.heap.get? a=none) (hs:Heap.SameBut a s.heap h') {t:Nat}:Ext f ma J0 sa m J { s with heap:=h',toks:=t }:=X.heap fun b o hb e=>(hs.2 b fun r=>by rw [r,ha] at hb; exact nomatch hb).trans e
noncomputable def Mp.putFz (m:Mp) (a:Addr) (o:Obj):Mp:={ m with fz:=put m.fz a (some o),ω:=put m.ω a .fz }
theorem Un.leFz (x:St c f fr m J s) {a:Addr} {o:Obj} (u:Un f m a):Mp.Le m (m.putFz a o):=⟨Nat.le_refl _,fun _ _=>rfl,fun _ _=>rfl,fun b p e=>(put_ne fun q=>u.fz x (q▸e)).trans e⟩
theorem St.adoptFz (x:St c f fr m J s) {a:Addr} {o:Obj} (u:Un f m a) (e:s.heap.get? a=some o):St c f fr (m.putFz a o) J s:=by
 refine ⟨x.nx,fun b p q=>(u.leFz x).fz b p (x.base b p q),fun b p q=>?_,fun i q e=>⟨(x.obj i q e).1,(x.obj i q e).2.move (u.leFz x) (x.obj i q e).1 (fun _ e=>e) fun _ _ _ _ e=>e⟩,fun b p q=>?_,fun i q e=>(put_ne (u.obj x e)).trans (x.tO _ _ e),fun i C l e=>(put_ne (u.dic x e)).trans (x.tD _ _ _ e),
  fun b hb=>(put_ne fun r=>no_some hb r e).trans (x.dom b hb),(put_ne (Ne.symm u.loc)).trans x.tL,fun p hp=>(put_ne (u.cel p hp)).trans (x.tC p hp),x.locC,x.fr.move (u.leFz x) (fun _ e=>e) fun _ _ _ e=>e,x.gens,x.cin,x.lowL,x.lowC,x.lowR,x.lowD⟩
 ·by_cases r:b=a
  ·subst r; exact Option.some.inj ((put_self ..).symm.trans q)▸e
  ·exact x.fzh _ _ ((put_ne r).symm.trans q)
 ·by_cases r:b=a
  ·rw [r]; exact put_self ..
  ·exact (put_ne r).trans (x.tF _ _ ((put_ne r).symm.trans q))
theorem Ext.adoptFz (X:Ext f ma J0 sa m J s) {a:Addr} {o:Obj} (le:Mp.Le m (m.putFz a o)) (ha:sa.heap.get? a=none):Ext f ma J0 sa (m.putFz a o) J s :=
 ⟨X.le.trans le,X.ro,X.keep,X.there,fun b=>if r:b=a then .inr (r▸ha) else (X.tag b).imp ((put_ne r).trans ·) id,X.own,X.os,X.drawn⟩
theorem St.freezeNew (x:St c f fr m J s) (o:Obj) (ho:o.isFreed=false) {Z:Prop}
  (k:∀ m',m'.fz s.heap.objs.size=some o->Ext f m J s m' J { s with heap:=s.heap.push o }->St c f fr m' J { s with heap:=s.heap.push o }->Z):Z :=
 have u:=Un.fresh x (Nat.le_refl _)
 k _ (put_self ..) ((Ext.raw o).adoptFz (u.leFz x) (Heap.get?_none_of_le (Nat.le_refl _))) ((x.raw o).adoptFz u (Heap.get?_push_size _ ho))
end
theorem nbF {n m:Nat} (h:n≠m):Nat.beq n m=false:=by
 cases q:Nat.beq n m with
 | false=>rfl
 | true=>exact absurd (Nat.eq_of_beq_eq_true q) h
theorem lk_at {α:Type} (m:Nat) (v:α) (l:List (Nat×α)) (n:Nat):lk ((m,v)::l) n=(match Nat.beq m n with | true=>some v | false=>lk l n):=rfl
theorem lk_cons_self {α:Type} (n:Nat) (v:α) (l:List (Nat×α)):lk ((n,v)::l) n=some v:=by rw [lk_at,Nat.beq_refl]
theorem lk_cons_ne {α:Type} {n m:Nat} (h:n≠m) (v:α) (l:List (Nat×α)):lk ((n,v)::l) m=lk l m:=by rw [lk_at,nbF h]
theorem lk_in {α:Type} {n m:Nat} {v w:α} {l:List (Nat×α)} {F:Nat->α->Prop} (h:lk ((n,v)::l) m=some w) (k0:F n v) (k1:m≠n->lk l m=some w->F m w):F m w:=by
 by_cases e:n=m
 ·subst e; exact Option.some.inj ((lk_cons_self ..).symm.trans h)▸k0
 ·exact k1 (Ne.symm e) ((lk_cons_ne e ..).symm.trans h)
section
variable {ma:Mp} {J0:AH} {sa:Shared}
noncomputable def Mp.putOb (m:Mp) (n:Nat) (a d:Addr):Mp:={ m with n:=n+1,ρ:=put m.ρ n a,δ:=put m.δ n d,ω:=put (put m.ω d (.dx n)) a (.ob n) }
theorem new_in (x:St c f fr m J s) {o:AO} {i:Nat} {q:AO} {F:Nat->AO->Prop} (e:lk (J.new o).2.ob i=some q) (k0:F J.nx o) (k1:i < J.nx->lk J.ob i=some q->F i q):F i q:=lk_in e k0 fun _ e=>k1 (x.nx▸(x.obj _ _ e).1) e
theorem St.leOb (x:St c f fr m J s) {a d:Addr}:Mp.Le m (m.putOb J.nx a d):=⟨ltr (Nat.le_of_eq x.nx) (Nat.le_succ _),fun _ h=>put_ne (Nat.ne_of_lt (x.nx▸h)),fun _ h=>put_ne (Nat.ne_of_lt (x.nx▸h)),fun _ _ e=>e⟩
theorem St.adopt (x:St c f fr m J s) (o:AO) {a d:Addr} (u:Un f m a) (v:Un f m d) (ud:∀ C l,o=.ins C l->d≠a) (ba:c.lo<=a) (bd:c.lo<=d) (la:∃ o,s.heap.get? a=some o) (ld:∃ o,s.heap.get? d=some o) (hor:OR c (m.putOb J.nx a d) s.heap J.nx o):St c f fr (m.putOb J.nx a d) (J.new o).2 s:=by
 have off:∀ {b},b≠a->b≠d->(m.putOb J.nx a d).ω b=m.ω b:=fun h1 h2=>(put_ne h1).trans (put_ne h2)
 refine ⟨rfl,x.base,x.fzh,fun i q e=>new_in x (F:=fun i q=>i < J.nx+1/\OR c (m.putOb J.nx a d) s.heap i q) e ⟨Nat.lt_succ_self _,hor⟩ fun hi e=>⟨Nat.lt_succ_of_lt hi,(x.obj _ _ e).2.move x.leOb (x.obj _ _ e).1 (fun _ e=>e) fun _ _ _ _ e=>e⟩,
  fun b p e=>(off (fun q=>u.fz x (q▸e)) fun q=>v.fz x (q▸e)).trans (x.tF _ _ e),fun i q e=>?_,fun i C l e=>?_,fun b hb=>(off (fun r=>la.elim fun _ e=>no_some hb r e) fun r=>ld.elim fun _ e=>no_some hb r e).trans (x.dom b hb),(off (Ne.symm u.loc) (Ne.symm v.loc)).trans x.tL,
  fun p hp=>(off (u.cel p hp) (v.cel p hp)).trans (x.tC p hp),x.locC,x.fr.move x.leOb (fun _ e=>e) fun _ _ _ e=>e,x.gens,x.cin,x.lowL,x.lowC,fun i q e=>?_,fun i C l e=>?_⟩
 ·refine new_in x (F:=fun i _=>(m.putOb J.nx a d).ω (put m.ρ J.nx a i)=.ob i) e ?_ fun hi e=>?_
  ·rw [put_self]; exact put_self ..
  ·rw [put_ne (Nat.ne_of_lt hi)]; exact (off (u.obj x e) (v.obj x e)).trans (x.tO _ _ e)
 ·refine new_in x (F:=fun i q=>q=.ins C l->(m.putOb J.nx a d).ω (put m.δ J.nx d i)=.dx i) e (fun q=>?_) (fun hi e q=>?_) rfl
  ·rw [put_self]; exact (put_ne (ud C l q)).trans (put_self ..)
  ·rw [put_ne (Nat.ne_of_lt hi)]; exact (off (u.dic x e) (v.dic x e)).trans (x.tD _ _ _ e)
 ·refine new_in x (F:=fun i _=>c.lo<=put m.ρ J.nx a i) e ?_ fun hi e=>?_
  ·rw [put_self]; exact ba
  ·rw [put_ne (Nat.ne_of_lt hi)]; exact x.lowR _ _ e
 ·refine new_in x (F:=fun i q=>q=.ins C l->c.lo<=put m.δ J.nx d i) e (fun _=>?_) (fun hi e q=>?_) rfl
  ·rw [put_self]; exact bd
  ·rw [put_ne (Nat.ne_of_lt hi)]; exact x.lowD _ _ _ e
theorem Ext.adopt (x:St c f fr m J s) (X:Ext f ma J0 sa m J s) (o:AO) {a d:Addr} (ha:sa.heap.get? a=none) (hd:sa.heap.get? d=none):Ext f ma J0 sa (m.putOb J.nx a d) (J.new o).2 s:=by
 refine ⟨X.le.trans x.leOb,X.ro,X.keep,X.there,fun b=>if r:b=a then .inr (r▸ha) else if r':b=d then .inr (r'▸hd) else (X.tag b).imp (((put_ne r).trans (put_ne r')).trans ·) id,fun b hb=>?_,X.os,X.drawn⟩
 cases hb with
 | loc=>exact .inl .loc
 | cell hp=>exact .inl (.cell hp)
 | obj e hr =>
  refine new_in x (F:=fun i _=>hasN J.ro i=false->Own f ma.ρ ma.δ J0 (put m.ρ J.nx a i)∨sa.heap.get? (put m.ρ J.nx a i)=none) e (fun _=>?_) (fun hi e hr=>?_) hr
  ·rw [put_self]; exact .inr ha
  ·rw [put_ne (Nat.ne_of_lt hi)]; exact X.own _ (.obj e hr)
 | @dic i C l e hr =>
  refine new_in x (F:=fun i q=>q=.ins C l->hasN J.ro i=false->Own f ma.ρ ma.δ J0 (put m.δ J.nx d i)∨sa.heap.get? (put m.δ J.nx d i)=none) e (fun _ _=>?_) (fun hi e q hr=>?_) rfl hr
  ·rw [put_self]; exact .inr hd
  ·rw [put_ne (Nat.ne_of_lt hi)]; exact X.own _ (.dic e hr)
end
theorem VR.newOb {n:Nat} {a d:Addr}:VR c (m.putOb n a d) (.ref n) (.ref a):=⟨congrArg Value.ref (put_self ..).symm,Nat.lt_succ_self _⟩
theorem St.makeNew (x:St c f fr m J s) (ob:Obj) (o:AO) (ho:ob.isFreed=false) (hins:∀ C l,o≠.ins C l)
  (hor:∀ m',Mp.Le m m'->m'.ρ J.nx=s.heap.objs.size->OR c m' (s.heap.push ob) J.nx o) {Z:Prop}
  (k:∀ m',VR c m' (J.new o).1 (.ref s.heap.objs.size)->Ext f m J s m' (J.new o).2 { s with heap:=s.heap.push ob }->St c f fr m' (J.new o).2 { s with heap:=s.heap.push ob }->Z):Z :=
 have u:=Un.fresh x (Nat.le_refl _)
 have lo:=ltr x.lowL (Nat.le_of_lt x.locLt)
 have la:∃ o,(s.heap.push ob).get? s.heap.objs.size=some o:=⟨_,Heap.get?_push_size _ ho⟩
 have no:=Heap.get?_none_of_le (Nat.le_refl s.heap.objs.size)
 k _ VR.newOb (Ext.adopt (x.raw ob) (Ext.raw ob) o no no) ((x.raw ob).adopt o u u (fun C l q=>absurd q (hins C l)) lo lo la la (hor _ x.leOb (put_self ..)))
theorem up_same {α:Type}:∀ (l:List (Nat×α)) (n:Nat) (v:α),lk (up l n v) n=some v
 | [],n,v=>lk_cons_self n v []
 | (k,w)::l,n,v=>by
  unfold up
  cases q:Nat.beq k n with
  | true=>exact lk_cons_self n v l
  | false=>exact (lk_cons_ne (Nat.ne_of_beq_eq_false q) w _).trans (up_same l n v)
theorem up_else {α:Type} {n m:Nat} (h:n≠m):∀ (l:List (Nat×α)) (v:α),lk (up l n v) m=lk l m:=by
 intro l
 induction l with
 | nil =>
  intro v
  exact lk_cons_ne h v []
 | cons jv l ih =>
  obtain ⟨k,w⟩:=jv
  intro v
  unfold up
  cases q:Nat.beq k n with
  | true=>rw [Nat.eq_of_beq_eq_true q]; exact (lk_cons_ne h v l).trans (lk_cons_ne h w l).symm
  | false =>
   by_cases e:k=m
   ·subst e; exact (lk_cons_self ..).trans (lk_cons_self ..).symm
   ·exact (lk_cons_ne e w _).trans ((ih v).trans (lk_cons_ne e w l).symm)
theorem up_in {α:Type} {n m:Nat} {v w:α} {l:List (Nat×α)} {F:Nat->α->Prop} (h:lk (up l n v) m=some w) (k0:F n v) (k1:m≠n->lk l m=some w->F m w):F m w:=by
 by_cases e:n=m
 ·subst e; exact Option.some.inj ((up_same ..).symm.trans h)▸k0
 ·exact k1 (Ne.symm e) ((up_else e ..).symm.trans h)
theorem put_some {J J':AH} {i:Nat} {o:AO} {Y:AH->Prop} (e:J.put i o=some J') (k:hasN J.ro i=false->Y { J with ob:=up J.ob i o }):Y J' :=
 condK e (fun _ h=>nomatch h) fun h e=>mapK e fun _ _=>k h
theorem St.turn (x:St c f fr m J s) {i:Nat} {o o':AO} {J':AH} {a:Addr} (e:lk J.ob i=some o) (hp:J.put i o'=some J') (hi:∀ C l,o'=.ins C l->∃ l',o=.ins C l')
  (ha:a=m.ρ i∨a=m.δ i/\∃ C l,o=.ins C l) (hs:Heap.SameBut a s.heap h') (hat:∃ o,h'.get? a=some o) (hor:OR c m h' i o') {t:Nat} (ht:s.toks<=t) {Z:Prop}
  (k:Ext f m J s m J' { s with heap:=h',toks:=t }->St c f fr m J' { s with heap:=h',toks:=t }->Z):Z:=by
 have tg:m.ω a=.ob i∨m.ω a=.dx i:=ha.elim (fun q=>.inl (q▸x.tO i o e)) fun ⟨q,C,l,r⟩=>.inr (q▸x.tD i C l (r▸e))
 have kp:∀ {b g},m.ω b=g->g≠.ob i->g≠.dx i->h'.get? b=s.heap.get? b:=fun q n1 n2=>hs.2 _ fun r=>tg.elim (fun z=>n1 (q.symm.trans (r▸z))) fun z=>n2 (q.symm.trans (r▸z))
 refine put_some (Y:=fun J'=>(Ext f m J s m J' { s with heap:=h',toks:=t }->St c f fr m J' { s with heap:=h',toks:=t }->Z)->Z) hp (fun hro k=>?_) k
 have hin:∀ {j q} {F:Prop},lk (up J.ob i o') j=some q->(∀ q',lk J.ob j=some q'->F)->F:=fun {j q F} g k=>up_in (F:=fun j _=>(∀ q',lk J.ob j=some q'->F)->F) g (fun k=>k o e) (fun _ g k=>k _ g) k
 have hinD:∀ {j C l} {F:Prop},lk (up J.ob i o') j=some (.ins C l)->(∀ l',lk J.ob j=some (.ins C l')->F)->F:=fun {j C l F} g k =>
  up_in (F:=fun j q=>q=.ins C l->(∀ l',lk J.ob j=some (.ins C l')->F)->F) g (fun q k=>(hi C l q).elim fun l' r=>k l' (r▸e)) (fun _ g q k=>k l (q▸g)) rfl k
 have noO:∀ {j},j≠i->Tag.ob j≠.ob i:=fun n q=>n (by injection q)
 have noD:∀ {j},j≠i->Tag.dx j≠.dx i:=fun n q=>n (by injection q)
 refine k ⟨.refl,rfl,fun b p g nb=>(hs.2 b fun r=>nb (r▸?_)).trans g,there_of hs hat,fun _=>.inl rfl,fun b hb=>.inl ?_,rfl,rfl⟩
  ⟨x.nx,x.base,fun b p g=>(kp (x.tF b p g) (fun h=>nomatch h) fun h=>nomatch h).trans (x.fzh b p g),fun j q g=>up_in (F:=fun j q=>j < m.n/\OR c m h' j q) g ⟨(x.obj i o e).1,hor⟩ fun n g =>
   ⟨(x.obj _ _ g).1,(x.obj _ _ g).2.move .refl (x.obj _ _ g).1 (fun _ z=>(kp (x.tO _ _ g) (noO n) fun h=>nomatch h).trans z) fun C l r _ z=>(kp (x.tD j C l (r▸g)) (fun h=>nomatch h) (noD n)).trans z⟩,
  x.tF,fun j q g=>hin g fun q' g=>x.tO j q' g,fun j C l g=>hinD g fun l' g=>x.tD j C l' g,fun b hb=>x.dom b (if r:b=a then hat.elim fun _ e=>no_some hb r e else (hs.2 b r).symm.trans hb),x.tL,x.tC,x.locC,x.fr.move .refl (fun _ g=>(kp x.tL (fun h=>nomatch h) fun h=>nomatch h).trans g) fun p hp _ g=>(kp (x.tC p hp) (fun h=>nomatch h) fun h=>nomatch h).trans g,x.gens,
  fun p hp=>(x.cin p hp).imp fun _ g=>(kp (x.tC p hp) (fun h=>nomatch h) fun h=>nomatch h).trans g,x.lowL,x.lowC,fun j q g=>hin g fun q' g=>x.lowR j q' g,fun j C l g=>hinD g fun l' g=>x.lowD j C l' g⟩
 ·exact ha.elim (fun q=>q▸.obj e hro) fun ⟨q,C,l,r⟩=>q▸.dic (r▸e) hro
 ·cases hb with
  | loc=>exact .loc
  | cell hp=>exact .cell hp
  | obj g hr=>exact hin g fun _ g=>.obj g hr
  | dic g hr=>exact hinD g fun _ g=>.dic g hr
theorem St.frame (x:St c f fr m J s) {a:Addr} {fr':FrA} (ha:a=f.env.locals∨∃ p∈f.env.cells,p.2=a) (hs:Heap.SameBut a s.heap h') (hf:FrOk c f m fr' h') (hat:∃ o,h'.get? a=some o) {t:Nat} (ht:s.toks<=t) {Z:Prop}
  (k:Ext f m J s m J { s with heap:=h',toks:=t }->St c f fr' m J { s with heap:=h',toks:=t }->Z):Z:=by
 have tg:m.ω a=.no:=ha.elim (fun q=>q▸x.tL) fun ⟨p,hp,q⟩=>q▸x.tC p hp
 have kp:∀ {b g},m.ω b=g->g≠.no->h'.get? b=s.heap.get? b:=fun q n=>hs.2 _ fun r=>n (q.symm.trans (r▸tg))
 refine k ⟨.refl,rfl,fun b p g nb=>(hs.2 b fun r=>nb (r▸?_)).trans g,there_of hs hat,fun _=>.inl rfl,fun _ h=>.inl h,rfl,rfl⟩
  ⟨x.nx,x.base,fun b p g=>(kp (x.tF b p g) fun h=>nomatch h).trans (x.fzh b p g),fun j q g=>⟨(x.obj _ _ g).1,(x.obj _ _ g).2.move .refl (x.obj _ _ g).1 (fun _ z=>(kp (x.tO _ _ g) fun h=>nomatch h).trans z) fun C l r _ z=>(kp (x.tD j C l (r▸g)) fun h=>nomatch h).trans z⟩,
  x.tF,x.tO,x.tD,fun b hb=>x.dom b (if r:b=a then hat.elim fun _ e=>no_some hb r e else (hs.2 b r).symm.trans hb),x.tL,x.tC,x.locC,hf,x.gens,fun p hp=>(x.cin p hp).elim (there_of hs hat p.2),x.lowL,x.lowC,x.lowR,x.lowD⟩
 exact ha.elim (fun q=>q▸.loc) fun ⟨p,hp,q⟩=>q▸.cell hp
end
end Mine.Internal
namespace Mine.Internal
open PySem PySem.W PySem.Calls PyProof.Rows
noncomputable def PlainB (o:Expr):Prop:=∀ attr env whole,attributeBase o attr env whole=whole
theorem attributeBase_plain {o:Expr} {attr:Str} {env:Env} {whole:Sem Value} (h:PlainB o):attributeBase o attr env whole=whole:=h attr env whole
noncomputable def opOf:Operator->Option Bo
 | .Add=>some .add | .Sub=>some .sub | .Mod=>some .mod | .FloorDiv=>some .fdiv | .Mult=>some .mul
 | _=>none
noncomputable def coOf:CmpOp->Option Co
 | .Eq=>some .eq | .NotEq=>some .ne | .Lt=>some .lt | .LtE=>some .le | .Gt=>some .gt | .Is=>some .is | .IsNot=>some .isNot | .In=>some .inn | .NotIn=>some .notIn
 | _=>none
noncomputable def bnName:Bn->String
 | .len=>"len" | .min=>"min" | .sorted=>"sorted" | .tuple=>"tuple" | .list=>"list" | .dict=>"dict" | .abs=>"abs"
noncomputable def bnVal:Bn->Value
 | .len=>.builtin "len" | .min=>.builtin "min" | .sorted=>.builtin "sorted" | .tuple=>.type "tuple" | .list=>.type "list" | .dict=>.type "dict" | .abs=>.builtin "abs"
noncomputable abbrev Kd:=Nat->Option NameKind
noncomputable def BltName (c:Cx) (kd:Kd) (n:Nat) (s:String) (v:Value):Prop :=
 kd n=some .globalImplicit/\c.wd n=Str.ofString s/\nsIn c.K mainGlobals (c.wd n)=some none/\bootBuiltins (c.wd n)=some v/\c.wd n ≠ "__name__"
noncomputable def Plain (c:Cx) (n:Nat):Prop:=n < c.nw/\∀ C∈c.cls,findIn c.K (.ref (c.clAt C)) (c.wd n)=some none/\takerIn c.K (c.clAt C) (c.wd n)=some none
noncomputable def locT:T->Bool
 | .loc _=>true
 | .cel _=>false
 | .tup l=>locTs l
where locTs:List T->Bool
 | []=>true
 | t::l=>locT t&&locTs l
noncomputable def TupFor (t:Expr):It->Prop
 | .of _=>True
 | .range _=>True
 | .enum _=>∀ Z:Expr->Prop,(∀ l k p,Z (.Tuple l k p))->Z t
noncomputable def trECst (c:Cx) (ec:Expr):AV->Prop
 | .none=>∀ Z:Expr->Prop,(∀ k p,Z (.Constant .none k p))->Z ec
 | .bool b=>∀ Z:Expr->Prop,(∀ k p,Z (.Constant (.bool b) k p))->Z ec
 | .int i=>∀ Z:Expr->Prop,(∀ k p,Z (.Constant (.int i) k p))->(∀ j k p q,i=-j->Z (.UnaryOp .USub (.Constant (.int j) k p) q))->Z ec
 | .str n=>∀ Z:Expr->Prop,(∀ k p,n < c.nw->Z (.Constant (.str (c.wd n)) k p))->Z ec
 | .tup _=>False
 | .dct _=>False
 | .ref _=>False
section
variable (c:Cx) (P:Pg)
mutual
noncomputable def TrT:Kd->Expr->T->Prop
 | kd,e,.loc n=>∀ Z:Expr->Prop,(∀ p,kd n=some .local->Z (.Name (c.wd n) p))->Z e
 | kd,e,.cel n=>∀ Z:Expr->Prop,(∀ p,kd n=some .cell->Z (.Name (c.wd n) p))->Z e
 | kd,e,.tup ts=>∀ Z:Expr->Prop,(∀ l k p,TrTs kd l ts->Z (.Tuple l k p))->Z e
noncomputable def TrTs:Kd->List Expr->List T->Prop
 | _,l,[]=>l=[]
 | kd,l,t::ts=>∀ Z:List Expr->Prop,(∀ e r,TrT kd e t->TrTs kd r ts->Z (e::r))->Z l
end
structure CompKd (kd kd':Kd) (scope:Scope):Prop where
 kind:scope.kind=.function
 at_:∀ x k,kd' x=some k->x < c.nw/\((k=.local/\scope.names.lookup (c.wd x)=some .local)∨(k=.cell/\scope.names.lookup (c.wd x)=some .free/\kd x=some .cell) ∨
  (k=.globalImplicit/\scope.names.lookup (c.wd x)=some .globalImplicit))
 kinds:∀ y∈scope.names,y.2=.local∨y.2=.free∨y.2=.globalImplicit
 uniq:(scope.names.map (·.1)).Nodup
 free:∀ y∈scope.names,y.2=.free->∃ x,c.wd x=y.1/\kd x=some .cell/\kd' x=some .cell
mutual
noncomputable def TrE:Kd->Expr->X->Prop
 | kd,ec,.cst v=>trECst c ec v
 | kd,ec,.loc n=>∀ Z:Expr->Prop,(∀ p,kd n=some .local->Z (.Name (c.wd n) p))->Z ec
 | kd,ec,.cel n=>∀ Z:Expr->Prop,(∀ p,kd n=some .cell->Z (.Name (c.wd n) p))->Z ec
 | kd,ec,.glb n=>∀ Z:Expr->Prop,(∀ p,kd n=some .globalImplicit->Z (.Name (c.wd n) p))->Z ec
 | kd,ec,.attr x n=>∀ Z:Expr->Prop,(∀ e p,TrE kd e x->PlainB e->Plain c n->Z (.Attribute e (c.wd n) p))->Z ec
 | kd,ec,.sub x y=>∀ Z:Expr->Prop,(∀ e i p,TrE kd e x->TrE kd i y->Z (.Subscript e i p))->Z ec
 | kd,ec,.slf x y=>∀ Z:Expr->Prop,(∀ e i p q,TrE kd e x->TrE kd i y->Z (.Subscript e (.Slice (some i) none none q) p))->Z ec
 | kd,ec,.slt x y=>∀ Z:Expr->Prop,(∀ e i p q,TrE kd e x->TrE kd i y->Z (.Subscript e (.Slice none (some i) none q) p))->Z ec
 | kd,ec,.tup xs=>∀ Z:Expr->Prop,(∀ l k p,TrEs kd l xs->Nat.ble xs.length 1000=true->Z (.Tuple l k p))->Z ec
 | kd,ec,.lst xs=>∀ Z:Expr->Prop,(∀ l p,TrEs kd l xs->Nat.ble xs.length 1000=true->Z (.List l p))->Z ec
 | kd,ec,.dicN xs=>∀ Z:Expr->Prop,(∀ ks vs p,TrDs kd ks vs xs->Nat.ble xs.length 15=true->(xs.map (·.1)).Nodup->Z (.Dict ks vs p))->Z ec
 | kd,ec,.dicF xs=>∀ Z:Expr->Prop,(∀ ks vs p,TrDs kd ks vs xs->Nat.ble xs.length 15=true->(xs.map (·.1)).Nodup->Z (.Dict ks vs p))->Z ec
 | kd,ec,.callF f xs=>∀ Z:Expr->Prop,(∀ n p l q,kd n=some .globalImplicit->nsIn c.K mainGlobals (c.wd n)=some (some (.ref (c.fnAt f)))->fnIn c.K (c.fnAt f)=true->TrEs kd l xs->Z (.Call (.Name (c.wd n) p) l [] q))->Z ec
 | kd,ec,.callC C xs=>∀ Z:Expr->Prop,(∀ n p l q,kd n=some .globalImplicit->nsIn c.K mainGlobals (c.wd n)=some (some (.ref (c.clAt C)))->C∈c.cls->TrEs kd l xs->Z (.Call (.Name (c.wd n) p) l [] q))->Z ec
 | kd,ec,.callB b x=>∀ Z:Expr->Prop,(∀ n p e q,BltName c kd n (bnName b) (bnVal b)->TrE kd e x->Z (.Call (.Name (c.wd n) p) [e] [] q))->Z ec
 | kd,ec,.clsM C a xs=>∀ Z:Expr->Prop,(∀ n p l q r,kd n=some .globalImplicit->nsIn c.K mainGlobals (c.wd n)=some (some (.ref (c.clAt C)))->C∈c.cls->a < c.nw->(q.endLine==r.line)=true->l.length < 20->TrEs kd l xs->Z (.Call (.Attribute (.Name (c.wd n) p) (c.wd a) q) l [] r))->Z ec
 | kd,ec,.meth x a xs=>∀ Z:Expr->Prop,(∀ e l q r,TrE kd e x->PlainB e->a < c.nw->(q.endLine==r.line)=true->l.length < 20->TrEs kd l xs->Z (.Call (.Attribute e (c.wd a) q) l [] r))->Z ec
 | kd,ec,.cmp x o' y=>∀ Z:Expr->Prop,(∀ e o i p,coOf o=some o'->TrE kd e x->TrE kd i y->behindInMarks o i=false->Z (.Compare e [o] [i] p))->Z ec
 | kd,ec,.not x=>∀ Z:Expr->Prop,(∀ e p,TrE kd e x->Z (.UnaryOp .Not e p))->Z ec
 | kd,ec,.and xs=>∀ Z:Expr->Prop,(∀ l p,TrEs kd l xs->Z (.BoolOp .And l p))->Z ec
 | kd,ec,.or xs=>∀ Z:Expr->Prop,(∀ l p,TrEs kd l xs->Z (.BoolOp .Or l p))->Z ec
 | kd,ec,.ite x y z=>∀ Z:Expr->Prop,(∀ t a b p,TrE kd t x->TrE kd a y->TrE kd b z->Z (.IfExp t a b p))->Z ec
 | kd,ec,.bin x o' y=>∀ Z:Expr->Prop,(∀ e o i p,opOf o=some o'->TrE kd e x->TrE kd i y->Z (.BinOp e o i p))->Z ec
 | kd,ec,.comp x (.mk t' i' l'::gs)=>∀ Z:Expr->Prop,(∀ kd' e t i l g scope p,CompKd c kd kd' scope->TrE kd' e x->TrT c kd' t t'->locT t'=true->TupFor t i'->TrI kd i i'->TrEs kd' l l'->TrGs kd' g gs->Z (.ListComp e (⟨t,i,l,0⟩::g) scope p))->Z ec
 | kd,ec,.inVals x y=>∀ Z:Expr->Prop,(∀ e i n q r p,TrE kd e x->TrE kd i y->PlainB i->c.wd n=Str.ofString "values" -> (q.endLine==r.line)=true->Z (.Compare e [.In] [.Call (.Attribute i (c.wd n) q) [] [] r] p))->Z ec
 | kd,ec,.lstItems y=>∀ Z:Expr->Prop,(∀ n m i q r p p',BltName c kd n "list" (.type "list")->TrE kd i y->PlainB i->c.wd m=Str.ofString "items" -> (q.endLine==r.line)=true->Z (.Call (.Name (c.wd n) p) [.Call (.Attribute i (c.wd m) q) [] [] r] [] p'))->Z ec
 | kd,ec,.comp _ []=>False
noncomputable def TrEs:Kd->List Expr->List X->Prop
 | _,l,[]=>l=[]
 | kd,l,x::xs=>∀ Z:List Expr->Prop,(∀ e r,TrE kd e x->TrEs kd r xs->Z (e::r))->Z l
noncomputable def TrDs:Kd->List (Option Expr)->List Expr->List (Nat×X)->Prop
 | _,ks,vs,[]=>ks=[]/\vs=[]
 | kd,ks,vs,(n,x)::xs=>∀ Z:List (Option Expr)->List Expr->Prop,(∀ k p e kr vr,n < c.nw->TrE kd e x->TrDs kd kr vr xs->Z (some (.Constant (.str (c.wd n)) k p)::kr) (e::vr))->Z ks vs
noncomputable def TrI:Kd->Expr->It->Prop
 | kd,e,.of x=>TrE kd e x
 | kd,ec,.range x=>∀ Z:Expr->Prop,(∀ n p e q,BltName c kd n "range" (.type "range")->TrE kd e x->Z (.Call (.Name (c.wd n) p) [e] [] q))->Z ec
 | kd,ec,.enum x=>∀ Z:Expr->Prop,(∀ n p e q,BltName c kd n "enumerate" (.type "enumerate")->TrE kd e x->Z (.Call (.Name (c.wd n) p) [e] [] q))->Z ec
noncomputable def TrGs:Kd->List Comprehension->List Gn->Prop
 | _,g,[]=>g=[]
 | kd,g,.mk t' i' l'::gs=>∀ Z:List Comprehension->Prop,(∀ t i l r,TrT c kd t t'->locT t'=true->TupFor t i'->TrI kd i i'->TrEs kd l l'->TrGs kd r gs->Z (⟨t,i,l,0⟩::r))->Z g
end
end
noncomputable def isComp:X->Bool
 | .comp _ _=>true
 | .cst _=>false
 | .loc _=>false
 | .cel _=>false
 | .glb _=>false
 | .attr _ _=>false
 | .sub _ _=>false
 | .slf _ _=>false
 | .slt _ _=>false
 | .tup _=>false
 | .lst _=>false
 | .dicN _=>false
 | .dicF _=>false
 | .callF _ _=>false
 | .callC _ _=>false
 | .callB _ _=>false
 | .clsM _ _ _=>false
 | .meth _ _ _=>false
 | .cmp _ _ _=>false
 | .not _=>false
 | .and _=>false
 | .or _=>false
 | .ite _ _ _=>false
 | .bin _ _ _=>false
 | .inVals _ _=>false
 | .lstItems _=>false
noncomputable def notTup:Expr->Bool
 | .Tuple _ _ _=>false
 | _=>true
noncomputable def isStar:Expr->Bool
 | .Starred ..=>true
 | _=>false
noncomputable def NmsAt (wd:Nat->Str) (line:Nat):List Expr->List Nat->Prop
 | l,[]=>l=[]
 | l,n::ns=>∀ Z:List Expr->Prop,(∀ p r,(p.line==line)=true->NmsAt wd line r ns->Z (.Name (wd n) p::r))->Z l
structure SwapOk (wd:Nat->Str) (l vs:List Expr) (ns:List Nat):Prop where
 len:(l.length==2||l.length==3)=true
 same:(vs.length != l.length)=false
 star:vs.any isStar=false
 at_:NmsAt wd ((l.head?.map (·.pos.line)).getD 0) l ns
 nodup:((ns.map wd).eraseDups.length != (ns.map wd).length)=false
 fold:vs.all (foldedForSure 8)=false
 cst:vs.all (constantsAlone 8)=false
section
variable (c:Cx)
mutual
noncomputable def TrS:Kd->Stmt->S->Prop
 | kd,ec,.asg n x=>∀ Z:Stmt->Prop,(∀ e p q,kd n=some .local->TrE c kd e x->Z (.Assign [.Name (c.wd n) p] e q))->Z ec
 | kd,ec,.asgC n x=>∀ Z:Stmt->Prop,(∀ e p q,kd n=some .cell->isComp x=false->TrE c kd e x->Z (.Assign [.Name (c.wd n) p] e q))->Z ec
 | kd,ec,.asgA y n x=>∀ Z:Stmt->Prop,(∀ o e p q,Plain c n->isComp x=false->TrE c kd o y->TrE c kd e x->Z (.Assign [.Attribute o (c.wd n) p] e q))->Z ec
 | kd,ec,.asgS y z x=>∀ Z:Stmt->Prop,(∀ o i e p q,isComp x=false->TrE c kd o y->TrE c kd i z->TrE c kd e x->Z (.Assign [.Subscript o i p] e q))->Z ec
 | kd,ec,.asgT ts x=>∀ Z:Stmt->Prop,(∀ l e k p q,notTup e=true->isComp x=false->TrTs c kd l ts->TrE c kd e x->Z (.Assign [.Tuple l k p] e q))->Z ec
 | kd,ec,.asgW ns x=>∀ Z:Stmt->Prop,(∀ l vs k p k' p' q,SwapOk c.wd l vs ns.reverse->(∀ n∈ns,kd n=some .local)->isComp x=false->TrE c kd (.Tuple vs k' p') x->Z (.Assign [.Tuple l k p] (.Tuple vs k' p') q))->Z ec
 | kd,ec,.expr x=>∀ Z:Stmt->Prop,(∀ e q,isComp x=false->TrE c kd e x->Z (.Expr e q))->Z ec
 | kd,ec,.ret x=>∀ Z:Stmt->Prop,(∀ e q,TrE c kd e x->Z (.Return (some e) q))->Z ec
 | kd,ec,.ret0=>∀ Z:Stmt->Prop,(∀ q,Z (.Return none q))->Z ec
 | kd,ec,.pass=>∀ Z:Stmt->Prop,(∀ q,Z (.Pass q))->Z ec
 | kd,ec,.brk=>∀ Z:Stmt->Prop,(∀ q,Z (.Break q))->Z ec
 | kd,ec,.cont=>∀ Z:Stmt->Prop,(∀ q,Z (.Continue q))->Z ec
 | kd,ec,.ite x a' b'=>∀ Z:Stmt->Prop,(∀ t a b q,TrE c kd t x->TrSs kd a a'->TrSs kd b b'->Z (.If t a b q))->Z ec
 | kd,ec,.for_ t' i' a'=>∀ Z:Stmt->Prop,(∀ t i a q,TrT c kd t t'->TupFor t i'->TrI c kd i i'->TrSs kd a a'->Z (.For t i a [] q))->Z ec
 | kd,ec,.while_ x=>∀ Z:Stmt->Prop,(∀ t a q,TrE c kd t x->Z (.While t a [] q))->Z ec
noncomputable def TrSs:Kd->List Stmt->List S->Prop
 | _,l,[]=>l=[]
 | kd,l,x::xs=>∀ Z:List Stmt->Prop,(∀ e r,TrS kd e x->TrSs kd r xs->Z (e::r))->Z l
end
end
structure FnIs (c:Cx) (g:Nat) (F:Fn) (o:Obj) (fd:FuncData) (body:List Stmt) (kd:Kd):Prop where
 at_:c.B.get? (c.fnAt g)=some o
 data:o.data=.func fd
 stmts:fd.body=.stmts body
 clo:fd.closure=[]
 glob:fd.globals=mainGlobals
 blt:fd.builtins=builtinsNs
 code:c.B.CodeRec fd.code fd.qualname
 co:fd.scope.isCoroutine=false
 gen:fd.scope.isGenerator=false
 kind:fd.scope.kind=.function
 bind:∀ vals:List Value,vals.length=F.params.length->bindArgs fd ⟨vals,[]⟩=pure ((F.params.map fun p=>c.wd p.1).zip vals)
 names:∀ x k,kd x=some k->x < c.nw/\fd.scope.names.lookup (c.wd x)=some k
 params:∀ p∈F.params,kd p.1=some (if p.2 then .cell else .local)
 cells:((cellsFrom 0 fd.scope.names []).map (·.1)).Nodup
 tr:TrSs c kd body F.body
noncomputable def FnOk (c:Cx) (g:Nat) (F:Fn):Prop:=∃ o fd body kd,FnIs c g F o fd body kd
structure Gd (c:Cx) (P:Pg) (M:Ms):Prop where
 K:c.K.In c.B
 T:∃ p loose mg mb,TopRead p loose mg mb c.B
 inj:∀ i j,i < c.nw->j < c.nw->c.wd i=c.wd j->i=j
 ord:∀ i j,i < j->j < c.nw->(c.wd i).cps.toList < (c.wd j).cps.toList
 sok:∀ i,i < c.nw->PyData.strOk (c.wd i)=true
 nodebug:∀ i,i < c.nw->(c.wd i==("__debug__" : Str))=false
 glb:∀ x v,P.glb x=some v->∃ w,nsIn c.K mainGlobals (c.wd x)=some (some w)/\∀ n ρ δ ω,VR c ⟨n,ρ,δ,c.B.get?,ω⟩ v w
 cls:∀ C∈c.cls,findIn c.K (.ref (c.clAt C)) "__getattribute__" = some (some (.builtin "object.__getattribute__"))/\findIn c.K (.ref (c.clAt C)) "__getattr__" = some none ∧
  findIn c.K (.ref (c.clAt C)) "__setattr__" = some (some (.builtin "object.__setattr__"))/\hasDictIn c.K (c.clAt C)=true/\plainOver c.K (c.clAt C)=true/\makesIn c.K (c.clAt C)=true/\isClsIn c.K (c.clAt C)=true ∧
  specialIn c.K (.ref (c.clAt C)) "__getattribute__" = some (some (.builtin "type.__getattribute__"))/\keepIn c.K (.ref (c.clAt C))=true
 mth:∀ C∈c.cls,∀ x g,P.mth C x=some g->x < c.nw/\findIn c.K (.ref (c.clAt C)) (c.wd x)=some (some (.ref (c.fnAt g)))/\isFn c.K (.ref (c.fnAt g))=true/\fnIn c.K (c.fnAt g)=true
 clsM:∀ C∈c.cls,∀ a g,P.mth C a=some g->∃ mc,readsIn c.K (c.clAt C) mc=true/\findCls c.K (.ref (c.clAt C)) mc (c.wd a)=some (.val (.ref (c.fnAt g)))
 fn:∀ g F,P.fn g=some F->FnOk c g F
 init:c.wd P.init = "__init__"
 modules:c.lo > sysModules
 ms:c.wd M.get = "get" /\ c.wd M.pop = "pop" /\ c.wd M.append = "append" /\ c.wd M.extend = "extend"
noncomputable abbrev NoE:Value->PySem.Shared->Prop:=fun _ _=>False
structure Room (A:Around) (n:Nat):Prop where
 depth:A.depth+3 * n+10 < recursionLimit
 units:A.units+12 * n+1000 < cLine
 handled:A.handled=none
theorem Room.less {A:Around} {n m:Nat} (r:Room A n) (h:m<=n):Room A m:=⟨Nat.lt_of_le_of_lt (Nat.add_le_add_right (Nat.add_le_add_left (Nat.mul_le_mul_left 3 h) _) 10) r.depth,Nat.lt_of_le_of_lt (Nat.add_le_add_right (Nat.add_le_add_left (Nat.mul_le_mul_left 12 h) _) 1000) r.units,r.handled⟩
section
variable (c:Cx) (f:Fm) (A:Around)
noncomputable def Kt (fr:FrA) (m:Mp) (J:AH) (s:Shared) (v:AV) (J':AH) (Q:Value->Shared->Prop):Prop:=∀ m' s' w,Ext f m J s m' J' s'->St c f fr m' J' s'->VR c m' v w->Q w s'
noncomputable def KtT (fr:FrA) (m:Mp) (J:AH) (s:Shared) (b:Bool) (J':AH) (Q:Bool->Shared->Prop):Prop:=∀ m' s',Ext f m J s m' J' s'->St c f fr m' J' s'->Q b s'
noncomputable def WpE (t:Sem Value) (fr:FrA) (J:AH) (v:AV) (J':AH):Prop :=
 ∀ m s Q,St c f fr m J s->Kt c f fr m J s v J' Q->wpAny (model c.prog c.w) A t Q NoE s
noncomputable def WpEs (t:Sem (List Value)) (fr:FrA) (J:AH) (vs:List AV) (J':AH):Prop :=
 ∀ m s Q,St c f fr m J s->(∀ m' s' ws,Ext f m J s m' J' s'->St c f fr m' J' s'->VRs c m' vs ws->Q ws s')->wpAny (model c.prog c.w) A t Q NoE s
noncomputable def WpT (t:Sem Bool) (fr:FrA) (J:AH) (b:Bool) (J':AH):Prop :=
 ∀ m s Q,St c f fr m J s->KtT c f fr m J s b J' Q->wpAny (model c.prog c.w) A t Q NoE s
noncomputable def FlR (m:Mp):Fl->Flow->Prop
 | .next,g=>g=.next
 | .brk,g=>g=.brk
 | .cont,g=>g=.cont
 | .ret v,g=>∃ w,g=.ret w/\VR c m v w
noncomputable def WpS (t:Sem Flow) (fr:FrA) (J:AH) (fl:Fl) (fr':FrA) (J':AH):Prop :=
 ∀ m s Q,St c f fr m J s->(∀ m' s' g,Ext f m J s m' J' s'->St c f fr' m' J' s'->FlR c m' fl g->Q g s')->wpAny (model c.prog c.w) A t Q NoE s
end
noncomputable def Back (Q:Value->Shared->Prop) (r:Result) (s:Shared):Prop:=match r with
 | .ok (.ret v)=>Q v s
 | _=>False
theorem wpAny_back {M:Model} {A:Around} {f:Value} {ws:List Value} {Q:Value->Shared->Prop} {E:Value->Shared->Prop} {s:Shared} (h:codeAny M A (.call f ⟨ws,[]⟩) (Back Q) s):wpAny M A (call f ws) Q E s :=
 wpAny_call (codeAny_mono h fun r s' z=>by rcases r with e | (v | _ | _ | _) <;> first | exact z.elim | exact z)
noncomputable def WpC (c:Cx) (A:Around) (g:Nat) (vs:List AV) (J:AH) (v:AV) (J':AH):Prop :=
 ∀ (f:Fm) fr m s Q ws,St c f fr m J s->VRs c m vs ws->Kt c f fr m J s v J' Q ->
  codeAny (model c.prog c.w) A (.call (.ref (c.fnAt g)) ⟨ws,[]⟩) (Back Q) s
structure Sound (c:Cx) (r:Ev) (N:Nat):Prop where
 e:∀ {f:Fm} {A:Around} {fr J x v J' e},Room A N->f.Ok c->TrE c f.kd e x->r.e fr J x=some (v,J')->WpE c f A (eval e f.env) fr J v J'
 t:∀ {f:Fm} {A:Around} {fr J x b J' e},Room A N->f.Ok c->TrE c f.kd e x->r.t fr J x=some (b,J')->WpT c f A (isTrue e f.env (eval e f.env)) fr J b J'
 s:∀ {f:Fm} {A:Around} {fr J x fl fr' J' e},Room A N->f.Ok c->TrS c f.kd e x->r.s fr J x=some (fl,fr',J')->WpS c f A (exec e f.env) fr J fl fr' J'
 c:∀ {A:Around} {g vs J v J'},Room A N->r.c g vs J=some (v,J')->WpC c A g vs J v J'
end Mine.Internal
namespace Mine.Internal
open PySem PySem.W PySem.Calls PyProof.Rows
variable {c:Cx} {P:Pg} {M:Ms} {r:Ev} {N:Nat} {f:Fm} {A:Around} {fr:FrA} {J J':AH} {m:Mp} {s:Shared}
theorem Kt.of {v:AV} {p:AV×AH} {Q:Value->Shared->Prop} (k:Kt c f fr m J s v J' Q) (e:some p=some (v,J')):Kt c f fr m J s p.1 p.2 Q:=someK (Y:=fun q=>Kt c f fr m J s q.1 q.2 Q->Kt c f fr m J s p.1 p.2 Q) e id k
theorem es_cons {x:X} {l:List X} {J J':AH} {vs:List AV} {Y:List AV->AH->Prop} (h:es r fr J (x::l)=some (vs,J')) (k:∀ v Ja ws Jb,r.e fr J x=some (v,Ja)->es r fr Ja l=some (ws,Jb)->Y (v::ws) Jb):Y vs J' :=
 bind2K h fun v Ja h1 h=>bind2K h fun ws Jb h2 h=>some2K h (k v Ja ws Jb h1 h2)
noncomputable def Ord (b:Bool) (e:Expr):Prop:=(∀ (l:List Expr) (env:Env),starEach (e::l) env=(false,eval e env)::starEach l env)/\(∀ env v,foldedSetIterable e env v=pure v)/\(∀ o i,subscripted e false o i=operate [o,i] (getItem o i))/\(b=false->∀ t line env,swapsWith e t line env=pure false)
theorem TrE.ord {kd:Kd} {x:X} {e:Expr} (h:TrE c kd e x):Ord (isComp x) e:=by
 cases x with
 | loc=>exact h _ fun _ _=>⟨fun _ _=>rfl,fun _ _=>rfl,fun _ _=>rfl,fun _ _ _ _=>rfl⟩
 | cel=>exact h _ fun _ _=>⟨fun _ _=>rfl,fun _ _=>rfl,fun _ _=>rfl,fun _ _ _ _=>rfl⟩
 | glb=>exact h _ fun _ _=>⟨fun _ _=>rfl,fun _ _=>rfl,fun _ _=>rfl,fun _ _ _ _=>rfl⟩
 | attr=>exact h _ fun _ _ _ _ _=>⟨fun _ _=>rfl,fun _ _=>rfl,fun _ _=>rfl,fun _ _ _ _=>rfl⟩
 | sub=>exact h _ fun _ _ _ _ _=>⟨fun _ _=>rfl,fun _ _=>rfl,fun _ _=>rfl,fun _ _ _ _=>rfl⟩
 | slf=>exact h _ fun _ _ _ _ _ _=>⟨fun _ _=>rfl,fun _ _=>rfl,fun _ _=>rfl,fun _ _ _ _=>rfl⟩
 | slt=>exact h _ fun _ _ _ _ _ _=>⟨fun _ _=>rfl,fun _ _=>rfl,fun _ _=>rfl,fun _ _ _ _=>rfl⟩
 | tup=>exact h _ fun _ _ _ _ _=>⟨fun _ _=>rfl,fun _ _=>rfl,fun _ _=>rfl,fun _ _ _ _=>rfl⟩
 | lst=>exact h _ fun _ _ _ _=>⟨fun _ _=>rfl,fun _ _=>rfl,fun _ _=>rfl,fun _ _ _ _=>rfl⟩
 | dicN=>exact h _ fun _ _ _ _ _ _=>⟨fun _ _=>rfl,fun _ _=>rfl,fun _ _=>rfl,fun _ _ _ _=>rfl⟩
 | dicF=>exact h _ fun _ _ _ _ _ _=>⟨fun _ _=>rfl,fun _ _=>rfl,fun _ _=>rfl,fun _ _ _ _=>rfl⟩
 | callF=>exact h _ fun _ _ _ _ _ _ _ _=>⟨fun _ _=>rfl,fun _ _=>rfl,fun _ _=>rfl,fun _ _ _ _=>rfl⟩
 | callC=>exact h _ fun _ _ _ _ _ _ _ _=>⟨fun _ _=>rfl,fun _ _=>rfl,fun _ _=>rfl,fun _ _ _ _=>rfl⟩
 | callB=>exact h _ fun _ _ _ _ _ _=>⟨fun _ _=>rfl,fun _ _=>rfl,fun _ _=>rfl,fun _ _ _ _=>rfl⟩
 | clsM=>exact h _ fun _ _ _ _ _ _ _ _ _ _ _ _=>⟨fun _ _=>rfl,fun _ _=>rfl,fun _ _=>rfl,fun _ _ _ _=>rfl⟩
 | meth=>exact h _ fun _ _ _ _ _ _ _ _ _ _=>⟨fun _ _=>rfl,fun _ _=>rfl,fun _ _=>rfl,fun _ _ _ _=>rfl⟩
 | cmp=>exact h _ fun _ _ _ _ _ _ _ _=>⟨fun _ _=>rfl,fun _ _=>rfl,fun _ _=>rfl,fun _ _ _ _=>rfl⟩
 | not=>exact h _ fun _ _ _=>⟨fun _ _=>rfl,fun _ _=>rfl,fun _ _=>rfl,fun _ _ _ _=>rfl⟩
 | and=>exact h _ fun _ _ _=>⟨fun _ _=>rfl,fun _ _=>rfl,fun _ _=>rfl,fun _ _ _ _=>rfl⟩
 | or=>exact h _ fun _ _ _=>⟨fun _ _=>rfl,fun _ _=>rfl,fun _ _=>rfl,fun _ _ _ _=>rfl⟩
 | ite=>exact h _ fun _ _ _ _ _ _ _=>⟨fun _ _=>rfl,fun _ _=>rfl,fun _ _=>rfl,fun _ _ _ _=>rfl⟩
 | bin=>exact h _ fun _ _ _ _ _ _ _=>⟨fun _ _=>rfl,fun _ _=>rfl,fun _ _=>rfl,fun _ _ _ _=>rfl⟩
 | inVals=>exact h _ fun _ _ _ _ _ _ _ _ _ _ _=>⟨fun _ _=>rfl,fun _ _=>rfl,fun _ _=>rfl,fun _ _ _ _=>rfl⟩
 | lstItems=>exact h _ fun _ _ _ _ _ _ _ _ _ _ _ _=>⟨fun _ _=>rfl,fun _ _=>rfl,fun _ _=>rfl,fun _ _ _ _=>rfl⟩
 | cst v =>
  cases v with
  | none=>exact h _ fun _ _=>⟨fun _ _=>rfl,fun _ _=>rfl,fun _ _=>rfl,fun _ _ _ _=>rfl⟩
  | bool=>exact h _ fun _ _=>⟨fun _ _=>rfl,fun _ _=>rfl,fun _ _=>rfl,fun _ _ _ _=>rfl⟩
  | int=>exact h _ (fun _ _=>⟨fun _ _=>rfl,fun _ _=>rfl,fun _ _=>rfl,fun _ _ _ _=>rfl⟩) fun _ _ _ _ _=>⟨fun _ _=>rfl,fun _ _=>rfl,fun _ _=>rfl,fun _ _ _ _=>rfl⟩
  | str=>exact h _ fun _ _ _=>⟨fun _ _=>rfl,fun _ _=>rfl,fun _ _=>rfl,fun _ _ _ _=>rfl⟩
  | tup=>exact h.elim
  | dct=>exact h.elim
  | ref=>exact h.elim
 | comp _ g =>
  cases g with
  | nil=>exact h.elim
  | cons q _=>cases q with | mk=>exact h _ fun _ _ _ _ _ _ _ _ _ _ _ _ _ _ _ _=>⟨fun _ _=>rfl,fun _ _=>rfl,fun _ _=>rfl,fun h=>nomatch h⟩
theorem star_of {kd:Kd} {e:Expr} {x:X} (h:TrE c kd e x) (l:List Expr) (env:Env):starEach (e::l) env=(false,eval e env)::starEach l env:=h.ord.1 l env
theorem fold_of {kd:Kd} {e:Expr} {x:X} (h:TrE c kd e x) (env:Env) (v:Value):foldedSetIterable e env v=pure v:=h.ord.2.1 env v
theorem swaps_plain {kd:Kd} {e:Expr} {x:X} (h:TrE c kd e x) (hx:isComp x=false) (t:Option Expr) (line:Nat) (env:Env):swapsWith e t line env=pure false:=h.ord.2.2.2 hx t line env
theorem es_len:∀ {l:List X} {J J':AH} {vs:List AV},es r fr J l=some (vs,J')->vs.length=l.length
 | [],_,_,_,h=>some2K (Y:=fun vs _=>vs.length=0) h rfl
 | _::l,_,_,_,h=>es_cons (Y:=fun vs _=>vs.length=l.length+1) h fun _ _ _ _ _ h2=>congrArg (·+1) (es_len h2)
section
variable (S:Sound c r N) (R:Room A N) (ok:f.Ok c)
include S R ok
theorem snd_es:∀ {xs:List X} {l:List Expr} {J J':AH} {vs:List AV},TrEs c f.kd l xs->es r fr J xs=some (vs,J')->∀ pos,WpEs c f A (spliced (backTo pos (starEach l f.env))) fr J vs J':=by
 intro xs
 induction xs with
 | nil =>
  intro _ J _ _ ht h pos
  exact Eq.symm (show _=[] from ht)▸some2K (Y:=WpEs c f A (spliced (backTo pos (starEach [] f.env))) fr J) h fun _ _ _ St k=>spliced_nil (k _ _ _ .refl St .nil)
 | cons x xs ih =>
  intro l J J' vs ht h pos
  exact ht (fun l=>WpEs c f A (spliced (backTo pos (starEach l f.env))) fr J vs J') fun e l he hl=>es_cons (Y:=WpEs c f A (spliced (backTo pos (starEach (e::l) f.env))) fr J) h fun v Ja ws Jb h1 h2 =>
    star_of he l f.env▸fun _ _ _ St k=>spliced_cons (S.e R ok he h1 _ _ _ St fun _ _ _ Xb St1 Vc=>ih hl h2 pos _ _ _ St1 fun _ _ _ Xc St2 Vd=>k _ _ _ (Xb.trans Xc) St2 (.cons (Xc.vr Vc) Vd))
end
theorem s_cst {e:Expr} {v:AV} (h:TrE c f.kd e (.cst v)):WpE c f A (eval e f.env) fr J v J:=by
 cases v with
 | none=>exact h (fun e=>WpE c f A (eval e f.env) fr J .none J) fun _ _ _ _ _ St k=>wpAny_Constant_none (k _ _ _ .refl St .none)
 | bool b=>exact h (fun e=>WpE c f A (eval e f.env) fr J (.bool b) J) fun _ _ _ _ _ St k=>wpAny_Constant_bool (k _ _ _ .refl St (.bool _))
 | int i=>exact h (fun e=>WpE c f A (eval e f.env) fr J (.int i) J) (fun _ _ _ _ _ St k=>wpAny_Constant_int (k _ _ _ (.tick (Nat.le_succ _)) (St.tick _) (.int _ _))) fun _ _ _ _ e=>e▸fun _ _ _ St k=>wpAny_UnaryOp (wpAny_Constant_int (neg_int (k _ _ _ (.tick (ltr (Nat.le_succ _) (Nat.le_succ _))) (St.tick _) (.int _ _))))
 | str i=>exact h (fun e=>WpE c f A (eval e f.env) fr J (.str i) J) fun _ _ hn _ _ _ St k=>wpAny_Constant_str (k _ _ _ (.tick (Nat.le_succ _)) (St.tick _) (.str _ _ hn))
 | tup=>exact h.elim
 | dct=>exact h.elim
 | ref=>exact h.elim
theorem s_loc (ok:f.Ok c) (G:Gd c P M) {e:Expr} {n:Nat} {v:AV} (h:TrE c f.kd e (.loc n)) (hv:lk fr.loc n=some v):WpE c f A (eval e f.env) fr J v J :=
 h (fun e=>WpE c f A (eval e f.env) fr J v J) fun _ hk _ _ _ St k=>St.fr.loc.elim fun _ hm=>(hm.2 _ _ hv hk).elim fun _ hw=>wpAny_Name (wpAny_loadName_local ok.kind (ok.names _ _ hk).2 hm.1 hw.1 (k _ _ _ .refl St hw.2)) (G.nodebug _ (ok.names _ _ hk).1)
theorem s_cel (ok:f.Ok c) (G:Gd c P M) {e:Expr} {n:Nat} {v:AV} (h:TrE c f.kd e (.cel n)) (hv:lk fr.cel n=some v):WpE c f A (eval e f.env) fr J v J :=
 h (fun e=>WpE c f A (eval e f.env) fr J v J) fun _ hk _ _ _ St k=>(St.fr.cel _ _ hv hk).elim fun _ q=>q.elim fun _ q=>wpAny_Name (wpAny_loadName_cell ok.kind (ok.names _ _ hk).2 q.1 q.2.1 (k _ _ _ .refl St q.2.2)) (G.nodebug _ (ok.names _ _ hk).1)
section
variable (ok:f.Ok c) (G:Gd c P M) {n:Nat} {p:Pos} {w:Value} {E:Value->Shared->Prop} {Q:Value->Shared->Prop} (St:St c f fr m J s)
include ok G St
theorem global_val (hk:f.kd n=some .globalImplicit) (hw:nsIn c.K mainGlobals (c.wd n)=some (some w)) (k:Q w s):wpAny (model c.prog c.w) A (eval (.Name (c.wd n) p) f.env) Q E s :=
 let ⟨_,_,_,_,T⟩:=G.T
 Name_function_global ok.kind (ok.names _ _ hk).2 (loadGlobal_global (ok.glob▸T.g.keeps fun b o e=>St.fzh _ _ (St.base _ _ e)) (mg_of G.K T.g hw) k) (G.nodebug _ (ok.names _ _ hk).1)
theorem builtin_val {x:String} (h:BltName c f.kd n x w) (k:Q w s):wpAny (model c.prog c.w) A (eval (.Name (c.wd n) p) f.env) Q E s :=
 let ⟨_,_,_,_,T⟩:=G.T
 let ⟨hk,_,hw,hb,hn⟩:=h
 Name_function_global ok.kind (ok.names _ _ hk).2 (loadGlobal_builtin (ok.glob▸T.g.keeps fun b o e=>St.fzh _ _ (St.base _ _ e)) (mg_none_of G.K T.g hw) (ok.blt▸T.b.keeps fun b o e=>St.fzh _ _ (St.base _ _ e)) ((T.builtins _ hn).trans hb) k) (G.nodebug _ (ok.names _ _ hk).1)
end
theorem s_glb (ok:f.Ok c) (G:Gd c P M) {e:Expr} {n:Nat} {v:AV} (h:TrE c f.kd e (.glb n)) (hv:P.glb n=some v):WpE c f A (eval e f.env) fr J v J :=
 h (fun e=>WpE c f A (eval e f.env) fr J v J) fun _ hk m _ _ St k=>(G.glb _ _ hv).elim fun _ q=>global_val ok G St hk q.1 (k _ _ _ .refl St (VR.mono (m:=⟨m.n,m.ρ,m.δ,c.B.get?,m.ω⟩) (m':=m) ⟨Nat.le_refl _,fun _ _=>rfl,fun _ _=>rfl,St.base⟩ (q.2 m.n m.ρ m.δ m.ω)))
theorem few_le {n:Nat} (h:few n=true):n<=1000:=Nat.le_of_ble_eq_true h
theorem size_ok {vs:Array Value} {n:Nat} (h:vs.size=n) (hn:n<=1000):vs.size<=sizeLine:=h▸ltr hn (by rw [sizeLine_eq]; decide)
theorem VRs.size {vs:Array Value} {l:List AV} (V:VRs c m l vs.toList):vs.size=l.length:=V.length.symm
theorem St.newTup {A:Around} {E Q:Value->Shared->Prop} (x:St c f fr m J s) {ws:List Value} {vs:List AV} (V:VRs c m vs ws) (hl:vs.length<=1000) (k:Kt c f fr m J s (.tup vs) J Q) :
  wpAny (model c.prog c.w) A (newObj (.type "tuple") (.seq ws.toArray 0)) Q E s :=
 wpAny_newObj_type (x.freezeNew (tupObj ws.toArray 0) rfl fun _ h X St=>k _ _ _ X St (.tup h (X.vrs V))) (size_ok (vs:=ws.toArray) ((List.size_toArray ..).trans V.length.symm) hl)
theorem St.newLst {A:Around} {E Q:Value->Shared->Prop} (x:St c f fr m J s) {ws:List Value} {vs:List AV} (V:VRs c m vs ws) (hl:vs.length<=1000) (k:Kt c f fr m J s (J.new (.lst vs)).1 (J.new (.lst vs)).2 Q) :
  wpAny (model c.prog c.w) A (newObj (.type "list") (.seq ws.toArray 0)) Q E s :=
 wpAny_newObj_type (x.makeNew (lstObj ws.toArray 0) (.lst vs) rfl (fun _ _ h=>nomatch h) (fun _ le e=>⟨ws.toArray,0,e▸Heap.get?_push_size _ rfl,V.mono le,hl⟩) fun _ h X St=>k _ _ _ X St h) (size_ok (vs:=ws.toArray) ((List.size_toArray ..).trans V.length.symm) hl)
section
variable (S:Sound c r N) (R:Room A N) (ok:f.Ok c) {e:Expr} {xs:List X} {v:AV}
include S R ok
theorem s_tup (h:TrE c f.kd e (.tup xs)) (hv:(bind2 (es r fr J xs) fun vs h=>some (AV.tup vs,h))=some (v,J')):WpE c f A (eval e f.env) fr J v J' :=
 bind2K hv fun vs Ja h1 h2=>some2K (Y:=WpE c f A (eval e f.env) fr J) h2 (h (fun e=>WpE c f A (eval e f.env) fr J (.tup vs) Ja) fun _ _ _ hl hb _ _ _ St k =>
  Tuple_ (snd_es S R ok hl h1 _ _ _ _ St fun _ _ _ Xb St1 Vc=>St1.newTup Vc (es_len h1▸Nat.le_of_ble_eq_true hb) fun _ _ _ X St V=>k _ _ _ (Xb.trans X) St V))
theorem s_lst (h:TrE c f.kd e (.lst xs)) (hv:(bind2 (es r fr J xs) fun vs h=>some (h.new (.lst vs)))=some (v,J')):WpE c f A (eval e f.env) fr J v J' :=
 bind2K hv fun vs Ja h1 h2=>someK (Y:=fun p=>WpE c f A (eval e f.env) fr J p.1 p.2) h2 (h (fun e=>WpE c f A (eval e f.env) fr J (Ja.new (.lst vs)).1 (Ja.new (.lst vs)).2) fun _ _ hl hb _ _ _ St k =>
  List_ (snd_es S R ok hl h1 _ _ _ _ St fun _ _ _ Xb St1 Vc=>St1.newLst Vc (es_len h1▸Nat.le_of_ble_eq_true hb) fun _ _ _ X St V=>k _ _ _ (Xb.trans X) St V))
end
end Mine.Internal
namespace Mine.Internal
open PySem PySem.W PySem.Calls PyProof.Rows
variable {c:Cx} {P:Pg} {M:Ms} {r:Ev} {N:Nat} {f:Fm} {A:Around} {fr:FrA} {J J':AH} {m:Mp} {s:Shared}
theorem DRs.lt:∀ {l es},DRs c m l es->∀ p∈l,p.1 < c.nw
 | [],_,_,_,h=>nomatch h
 | _::_,_,D,p,h=>D.consK (D:=fun _=>p.1 < c.nw) fun _ _ hk _ _ _ r=>(List.mem_cons.mp h).elim (fun e=>e▸hk) (DRs.lt r p)
theorem wd_eq (G:Gd c P M) {j k:Nat} (hj:j < c.nw) (hk:k < c.nw):(c.wd j==c.wd k)=Nat.beq j k :=
 if h:j=k then h▸(beq_self_eq_true _).trans (Nat.beq_refl j).symm else (beq_eq_false_iff_ne.mpr fun e=>h (G.inj _ _ hj hk e)).trans (nbF h).symm
theorem find_cons {k j:Nat} {e:DictEntry} {r:List DictEntry} (G:Gd c P M) (hk:k < c.nw) (hj:j < c.nw) (ht:∃ t,e.key=.str (c.wd k) t):(e::r).find? (·.key.isStr (c.wd j))=(match Nat.beq k j with | true=>some e | false=>r.find? (·.key.isStr (c.wd j)))/\e.refKey=false :=
 ht.elim fun t h=>⟨by
  have:e.key.isStr (c.wd j)=Nat.beq k j:=h▸wd_eq G hk hj
  rw [List.find?_cons,this]; rfl,by unfold DictEntry.refKey; rw [h]⟩
noncomputable def Finds (c:Cx) (m:Mp) (j:Nat) (o:Option AV) (es:List DictEntry):Prop:=match o with
 | some v=>∃ e,es.find? (·.key.isStr (c.wd j))=some e/\VR c m v e.val
 | none=>es.find? (·.key.isStr (c.wd j))=none/\es.any (·.refKey)=false
theorem DRs.noRef (G:Gd c P M):∀ {l es},DRs c m l es->es.any (·.refKey)=false
 | [],_,D=>D.nilK (D:=fun es=>es.any (·.refKey)=false) rfl
 | _::_,_,D=>D.consK (D:=fun es=>es.any (·.refKey)=false) fun _ _ hk ht _ _ r=>Bool.or_eq_false_iff.mpr ⟨(find_cons (r:=[]) G hk hk ht).2,DRs.noRef G r⟩
theorem DRs.find (G:Gd c P M) {j:Nat} (hj:j < c.nw):∀ {l es},DRs c m l es->Finds c m j (lk l j) es:=by
 intro l
 induction l with
 | nil =>
  intro _ D
  exact D.nilK (D:=Finds c m j none) ⟨rfl,rfl⟩
 | cons jv l ih =>
  obtain ⟨k,v⟩:=jv
  intro _ D
  exact D.consK (D:=Finds c m j (lk ((k,v)::l) j)) fun e r hk ht _ hv hr=>by
   have ih:=ih hr
   have q:=find_cons (r:=r) G hk hj ht
   rw [lk_at]
   cases z:Nat.beq k j with
   | true=>rw [z] at q; exact ⟨e,q.1,hv⟩
   | false =>
    rw [z] at q
    unfold Finds at ih ⊢
    cases z2:lk l j with
    | some w=>rw [z2] at ih; exact ih.imp fun _ h=>⟨q.1.trans h.1,h.2⟩
    | none=>rw [z2] at ih; exact ⟨q.1.trans ih.1,Bool.or_eq_false_iff.mpr ⟨q.2,ih.2⟩⟩
theorem look_some (G:Gd c P M) {l:List (Nat×AV)} {es:Array DictEntry} {i j:Nat} {v:AV} (hj:j < c.nw) (D:DRs c m l es.toList) (h:lk l j=some v) {Z:Prop} (k:∀ w,lookIn (c.wd j) (dicObj es i)=some (some w)->VR c m v w->Z):Z :=
 have q:Finds c m j (some v) es.toList:=h▸D.find G hj
 q.elim fun e q=>k e.val (by show (match es.toList.find? _ with | some e=>some (some e.val) | none=>_)=_; rw [q.1]) q.2
theorem look_none (G:Gd c P M) {l:List (Nat×AV)} {es:Array DictEntry} {i j:Nat} (hj:j < c.nw) (D:DRs c m l es.toList) (h:lk l j=none):lookIn (c.wd j) (dicObj es i)=some none:=by
 have q:Finds c m j none es.toList:=h▸D.find G hj
 show (match es.toList.find? _ with | some e=>some (some e.val) | none=>if es.toList.any (·.refKey) then none else some none)=_
 rw [q.1,q.2]; rfl
theorem VR.handed {v:AV} {w:Value} (h:VR c m v w):handedIn w=true :=
 match v,h with
 | .none,h=>h.noneK (Y:=fun w=>handedIn w=true) rfl
 | .bool _,h=>h.boolK (Y:=fun w=>handedIn w=true) rfl
 | .int _,h=>h.intK (Y:=fun w=>handedIn w=true) fun _=>rfl
 | .str _,h=>h.strK (Y:=fun w=>handedIn w=true) fun _ _=>rfl
 | .tup _,h=>h.tupK (Y:=fun w=>handedIn w=true) fun _ _ _ _ _=>rfl
 | .dct _,h=>h.dctK (Y:=fun w=>handedIn w=true) fun _ _ _ _ _ _ _ _=>rfl
 | .ref _,h=>h.refK (Y:=fun w=>handedIn w=true) fun _=>rfl
theorem St.K (St:St c f fr m J s) (G:Gd c P M):c.K.In s.heap:=G.K.keeps fun b o e=>St.fzh _ _ (St.base _ _ e)
theorem St.inst (St:St c f fr m J s) {i C:Nat} {l:List (Nat×AV)} (h:lk J.ob i=some (.ins C l)) {Z:Prop}
  (k:∀ es j,InstAt s.heap (m.ρ i) (insObj (c.clAt C) (m.δ i)) (c.clAt C) (some (dicObj es j))->s.heap.get? (m.δ i)=some (dicObj es j)->DRs c m l es.toList->(l.map (·.1)).Nodup->l.length<=500->C∈c.cls->Z):Z :=
 (St.obj _ _ h).2.insK fun es j a b d e g hC=>k es j ⟨a,rfl,rfl,b⟩ b d e g hC
theorem insOfK {h:AH} {v:AV} {q:Nat×List (Nat×AV)} {Y:AV->Prop} (e:insOf h v=some q) (k:∀ i,lk h.ob i=some (.ins q.1 q.2)->Y (.ref i)):Y v :=
 bindK e fun i e1 e=>bindK e fun o e2 e=>AV.r?S e1▸k i (AO.n?S e▸e2)
theorem eval_attr {value:Expr} {attr:Str} {pos:Pos} {env:Env} (hb:PlainB value):eval (.Attribute value attr pos) env=(do
   let o ← eval value env
   standAt pos.atName
   let r ← holding [o] (getAttr o attr true)
   letTemporaryGo value o r
   pure r):=by
 have:eval (.Attribute value attr pos) env=(do
   let o ← attributeBase value attr env (eval value env)
   standAt pos.atName
   let r ← holding [o] (getAttr o attr true)
   letTemporaryGo value o r
   pure r):=rfl
 rw [this,attributeBase_plain hb]
theorem s_attr (S:Sound c r N) (G:Gd c P M) (R:Room A N) (ok:f.Ok c) {e:Expr} {x:X} {n:Nat} {v:AV} (h:TrE c f.kd e (.attr x n)) (hv:(bind2 (r.e fr J x) fun o h=>(insOf h o).bind fun q=>(lk q.2 n).map fun v=>(v,h))=some (v,J')) :
  WpE c f A (eval e f.env) fr J v J' :=
 bind2K hv fun o Ja h1 h2=>bindK h2 fun q h2 h3=>map2K h3 fun v h3=>insOfK (Y:=fun o=>r.e fr J x=some (o,Ja)->WpE c f A (eval e f.env) fr J v Ja) h2 (fun i h2 h1 =>
  h (fun e=>WpE c f A (eval e f.env) fr J v Ja) fun _ _ hx hb hp _ _ Q St k=>Attribute_any_ (S.e R ok hx h1 _ _ _ St fun _ sd _ Xb St1 Vc=>Vc.refK (Y:=fun w=>wpAny (model c.prog c.w) A (getAttr w (c.wd n) true) Q NoE sd) fun _ =>
   St1.inst h2 fun es j I _ D _ _ hC=>look_some G (i:=j) hp.1 D h3 fun w hw V =>
    have g:=G.cls _ hC
    get_value (St1.K G) I g.1 (findObj_own g.2.2.2.1 (hp.2 _ hC).1 rfl hw) V.handed (k _ _ _ (Xb.trans (.tick (Nat.le_succ _))) (St1.tick _) V)) (eval_attr hb)) h1
end Mine.Internal
namespace Mine.Internal
open PySem PySem.W PySem.Calls PyProof.Rows
variable {c:Cx} {P:Pg} {M:Ms}
mutual
noncomputable def pd (c:Cx):AV->PyData
 | .none=>.none
 | .bool b=>.bool b
 | .int i=>.int i
 | .str k=>.str (c.wd k)
 | .tup l=>.tuple (pds c l)
 | .dct _=>.none
 | .ref _=>.none
noncomputable def pds (c:Cx):List AV->List PyData
 | []=>[]
 | v::l=>pd c v::pds c l
end
mutual
noncomputable def Dat (c:Cx):AV->Prop
 | .none=>True
 | .bool _=>True
 | .int _=>True
 | .str k=>k < c.nw
 | .tup l=>Dats c l
 | .dct _=>False
 | .ref _=>False
noncomputable def Dats (c:Cx):List AV->Prop
 | []=>True
 | v::l=>Dat c v/\Dats c l
end
structure Lay (c:Cx) (h:Heap) (d:Nat) (x:AV) (v:Value):Prop where
 reads:∃ as,Reads h v (pd c x) as
 lay:(pd c x).canLay0=true
 deep:(pd c x).depth<=d
 dat:Dat c x
structure Lays (c:Cx) (h:Heap) (d:Nat) (x:List AV) (v:List Value):Prop where
 reads:∃ as,ReadsAll h v (pds c x) as
 lay:PyData.canLayAll0 (pds c x)=true
 deep:PyData.depthAll (pds c x)<=d
 dat:Dats c x
section
variable {m:Mp} {h:Heap} (so:∀ k,k < c.nw->PyData.strOk (c.wd k)=true) (hz:∀ a o,m.fz a=some o->h.get? a=some o)
include so in
theorem lay_leaf (d:Nat):∀ x:AV,x.flat=true->∀ v,VR c m x v->Lay c h d x v
 | .none,_,_,V=>V.noneK (Y:=Lay c h d .none) ⟨⟨_,.none⟩,rfl,Nat.zero_le _,trivial⟩
 | .bool b,_,_,V=>V.boolK (Y:=Lay c h d (.bool b)) ⟨⟨_,.bool _⟩,rfl,Nat.zero_le _,trivial⟩
 | .int i,_,_,V=>V.intK (Y:=Lay c h d (.int i)) fun _=>⟨⟨_,.int _ _⟩,rfl,Nat.zero_le _,trivial⟩
 | .str k,_,_,V=>V.strK (Y:=Lay c h d (.str k)) fun _ hk=>⟨⟨_,.str _ _⟩,so k hk,Nat.zero_le _,hk⟩
 | .tup _,h,_,_=>nomatch h
 | .dct _,h,_,_=>nomatch h
 | .ref _,h,_,_=>nomatch h
theorem lay_nil (d:Nat) (vs:List Value) (V:VRs c m [] vs):Lays c h d [] vs:=V.nilK (Z:=Lays c h d []) ⟨⟨_,.nil⟩,rfl,Nat.zero_le _,trivial⟩
theorem lay_cons (d:Nat) (v:AV) (l:List AV) (hv:∀ w,VR c m v w->Lay c h d v w) (hl:∀ vs,VRs c m l vs->Lays c h d l vs) (vs:List Value) (V:VRs c m (v::l) vs):Lays c h d (v::l) vs :=
 V.consK (Z:=Lays c h d (v::l)) fun w vs a r=>have p:=hv w a; have q:=hl vs r; ⟨p.reads.elim fun _ p=>q.reads.elim fun _ q=>⟨_,.cons p q⟩,(congr (congrArg and p.lay) q.lay:(_&&_)=_),Nat.max_le.mpr ⟨p.deep,q.deep⟩,p.dat,q.dat⟩
include so hz
theorem lay_tup (d:Nat) (l:List AV) (hl:∀ vs,VRs c m l vs->Lays c h d l vs) (v:Value) (V:VR c m (.tup l) v):Lay c h (d+1) (.tup l) v :=
 V.tupK (Y:=Lay c h (d+1) (.tup l)) fun _ _ _ f r=>have q:=hl _ r; ⟨q.reads.imp fun _ q=>.tuple (hz _ _ f) rfl rfl q,q.lay,Nat.succ_le_succ q.deep,q.dat⟩
theorem VR.lay {d:Nat} {x:AV} {v:Value} (hd:datD d x=true) (V:VR c m x v):Lay c h d x v :=
 levRec (p:=AV.flat) (F:=fun d x=>∀ v,VR c m x v->Lay c h d x v) (Fs:=fun d l=>∀ vs,VRs c m l vs->Lays c h d l vs) (lay_leaf so) (lay_tup so hz) lay_nil lay_cons d x hd v V
theorem VRs.lay {d:Nat} {l:List AV} {vs:List Value} (hd:(l.all fun u=>datD d u)=true) (V:VRs c m l vs):Lays c h d l vs :=
 levRecs (p:=AV.flat) (F:=fun d x=>∀ v,VR c m x v->Lay c h d x v) (Fs:=fun d l=>∀ vs,VRs c m l vs->Lays c h d l vs) lay_nil lay_cons (fun _ hx _ V=>VR.lay so hz hx V) l hd vs V
end
mutual
theorem eqv_pd (G:Gd c P M):∀ {x y:AV},Dat c x->Dat c y->PyData.eqv (pd c x) (pd c y)=eqB x y
 | .none,y,_,hy=>by cases y <;> first | rfl | exact hy.elim
 | .bool a,y,_,hy=>by
  cases y with
  | bool b=>cases a <;> cases b <;> rfl
  | int j=>cases a <;> rfl
  | dct=>exact hy.elim
  | ref=>exact hy.elim
  | _=>rfl
 | .int i,y,_,hy=>by
  cases y with
  | bool b=>cases b <;> rfl
  | dct=>exact hy.elim
  | ref=>exact hy.elim
  | _=>rfl
 | .str k,y,hx,hy=>by
  cases y with
  | str j=>exact wd_eq G hx hy
  | dct=>exact hy.elim
  | ref=>exact hy.elim
  | _=>rfl
 | .tup l,y,hx,hy=>by
  cases y with
  | tup m=>exact eqvs_pds G hx hy
  | dct=>exact hy.elim
  | ref=>exact hy.elim
  | _=>rfl
 | .dct _,_,hx,_=>hx.elim
 | .ref _,_,hx,_=>hx.elim
theorem eqvs_pds (G:Gd c P M):∀ {x y:List AV},Dats c x->Dats c y->PyData.eqvAll (pds c x) (pds c y)=eqBs x y
 | [],y,_,_=>by cases y <;> rfl
 | _::_,[],_,_=>rfl
 | _::_,_::_,hx,hy=>congr (congrArg and (eqv_pd G hx.1 hy.1)) (eqvs_pds G hx.2 hy.2)
end
open Classical in
noncomputable def keyMp (h:Heap):Mp:=⟨0,fun _=>0,fun _=>0,fun a=>if ∃ vs j,h.get? a=some (tupObj vs j) then h.get? a else none,fun _=>.no⟩
noncomputable abbrev KeyAt (c:Cx) (h:Heap) (x:AV) (v:Value):Prop:=VR c (keyMp h) x v
noncomputable abbrev KeyAts (c:Cx) (h:Heap) (x:List AV) (v:List Value):Prop:=VRs c (keyMp h) x v
theorem keyMp_some {h:Heap} {a:Addr} {vs:Array Value} {j:Nat} (e:h.get? a=some (tupObj vs j)):(keyMp h).fz a=some (tupObj vs j):=(if_pos ⟨vs,j,e⟩).trans e
theorem keyMp_in {h:Heap} {a:Addr} {o:Obj} {Z:Obj->Prop} (e:(keyMp h).fz a=some o) (k:∀ vs j,h.get? a=some (tupObj vs j)->Z (tupObj vs j)):Z o:=by
 by_cases q:∃ vs j,h.get? a=some (tupObj vs j)
 ·obtain ⟨vs,j,q⟩:=q
  exact Option.some.inj ((keyMp_some q).symm.trans e)▸k vs j q
 ·exact nomatch (if_neg q).symm.trans e
theorem keyMp_hz (h:Heap):∀ a o,(keyMp h).fz a=some o->h.get? a=some o:=fun a o e=>keyMp_in (Z:=fun o=>h.get? a=some o) e fun _ _=>id
theorem KeyAt.move {h h':Heap} (k:∀ a vs j,h.get? a=some (tupObj vs j)->h'.get? a=some (tupObj vs j)) {x:AV} {v:Value} (V:KeyAt c h x v):KeyAt c h' x v :=
 VR.mono (m:=keyMp h) (m':=keyMp h') ⟨Nat.le_refl _,fun _ _=>rfl,fun _ _=>rfl,fun a _ e=>keyMp_in (Z:=fun o=>(keyMp h').fz a=some o) e fun _ _ q=>keyMp_some (k _ _ _ q)⟩ V
theorem keyRec {F:AV->Prop} {Fs:List AV->Prop} (int:∀ i,F (.int i)) (str:∀ k,F (.str k)) (tup:∀ l,Fs l->F (.tup l)) (nil:Fs []) (cons:∀ v l,F v->Fs l->Fs (v::l)) {d:Nat} {v:AV} (h:keyD d v=true):F v :=
 levRec (p:=fun v=>Nat.blt v.kd 2) (F:=fun _=>F) (Fs:=fun _=>Fs) (fun _ v h=>match v,h with
  | .int i,_=>int i | .str k,_=>str k | .none,h=>nomatch h | .bool _,h=>nomatch h | .tup _,h=>nomatch h | .dct _,h=>nomatch h | .ref _,h=>nomatch h) (fun _=>tup) (fun _=>nil) (fun _=>cons) d v h
theorem VR.key {m:Mp} {h:Heap} (hz:∀ a o,m.fz a=some o->h.get? a=some o) {d:Nat} {x:AV} {v:Value} (hd:keyD d x=true) (V:VR c m x v):KeyAt c h x v :=
 keyRec (F:=fun x=>∀ v,VR c m x v->KeyAt c h x v) (Fs:=fun l=>∀ vs,VRs c m l vs->KeyAts c h l vs) (fun _ _ V=>V) (fun _ _ V=>V) (fun l hl v V=>V.tupK (Y:=KeyAt c h (.tup l)) fun _ _ _ f r=>.tup (keyMp_some (hz _ _ f)) (hl _ r)) (fun _ V=>V)
  (fun v l hv hl vs V=>V.consK (Z:=KeyAts c h (v::l)) fun _ _ a r=>.cons (hv _ a) (hl _ r)) hd v V
theorem key_inj (G:Gd c P M) {m:Mp} {d:Nat} {x y:AV} {v:Value} (hd:keyD d x=true) (hy:∃ d,keyD d y=true) (V:VR c m x v) (W:VR c m y v):x=y :=
 keyRec (F:=fun x=>∀ y v,(∃ d,keyD d y=true)->VR c m x v->VR c m y v->x=y) (Fs:=fun l=>∀ y vs,(∃ d,(y.all fun u=>keyD d u)=true)->VRs c m l vs->VRs c m y vs->l=y)
  (fun i y v hy V=>V.intK (Y:=fun v=>VR c m y v->.int i=y) fun t W=>hy.elim fun _ hy=>keyRec (F:=fun y=>VR c m y (.int i t)->.int i=y) (Fs:=fun _=>True) (fun _ W=>W.elim fun _ e=>congrArg AV.int (Value.int.inj e).1) (fun _ W=>W.elim fun _ e=>nomatch e.1) (fun _ _ W=>W.elim fun _ e=>e.elim fun _ e=>e.elim fun _ e=>nomatch e.1) trivial (fun _ _ _ _=>trivial) hy W)
  (fun i y v hy V=>V.strK (Y:=fun v=>VR c m y v->.str i=y) fun t hk W=>hy.elim fun _ hy=>keyRec (F:=fun y=>VR c m y (.str (c.wd i) t)->.str i=y) (Fs:=fun _=>True) (fun _ W=>W.elim fun _ e=>nomatch e) (fun _ W=>W.elim fun _ e=>congrArg AV.str (G.inj _ _ hk e.2 (Value.str.inj e.1).1)) (fun _ _ W=>W.elim fun _ e=>e.elim fun _ e=>e.elim fun _ e=>nomatch e.1) trivial (fun _ _ _ _=>trivial) hy W)
  (fun l hl y v hy V=>V.tupK (Y:=fun v=>VR c m y v->.tup l=y) fun a vs j f r W=>by
   obtain ⟨d,hy⟩:=hy
   cases y with
   | tup l' =>
    obtain ⟨_,_,_,e,f',r'⟩:=W
    cases e
    cases f.symm.trans f'
    cases d with
    | zero=>exact nomatch hy
    | succ d=>exact congrArg AV.tup (hl _ _ ⟨d,hy⟩ r r')
   | none=>exact nomatch W
   | bool=>exact nomatch W
   | int=>exact W.elim fun _ e=>nomatch e
   | str=>exact W.elim fun _ e=>nomatch e.1
   | dct=>cases d <;> exact nomatch hy
   | ref=>cases d <;> exact nomatch hy)
  (fun y vs _ V=>V.nilK (Z:=fun vs=>VRs c m y vs->[]=y) fun W=>by
   cases y with
   | nil=>rfl
   | cons=>obtain ⟨_,_,e,_⟩:=W; exact nomatch e)
  (fun v l hv hl y vs hy V=>V.consK (Z:=fun vs=>VRs c m y vs->v::l=y) fun w r a q W=>by
   cases y with
   | nil=>exact nomatch W
   | cons u y =>
    obtain ⟨d,hy⟩:=hy
    obtain ⟨_,_,e,a',q'⟩:=W
    cases e
    exact andK hy fun h1 h2=>congr (congrArg List.cons (hv _ _ ⟨d,h1⟩ a a')) (hl _ _ ⟨d,h2⟩ q q')) hd y v hy V W
mutual
noncomputable def drawsAV:AV->Nat
 | .tup l=>drawsL l+1
 | .none=>1 | .bool _=>1 | .int _=>1 | .str _=>1 | .dct _=>1 | .ref _=>1
noncomputable def drawsL:List AV->Nat
 | []=>0
 | v::l=>drawsAV v+drawsL l
end
theorem drawsL_app:∀ (l:List AV) (k:AV),drawsL (l++[k])=drawsL l+drawsAV k
 | [],k=>(Nat.add_zero _).trans (Nat.zero_add _).symm
 | v::l,k=>(congrArg (drawsAV v+·) (drawsL_app l k)).trans (Nat.add_assoc ..).symm
theorem hashL_app:∀ (l:List AV) (k:AV),hashAV.hashL c (l++[k])=hashAV.hashL c l++[hashAV c k]
 | [],_=>rfl
 | v::l,k=>congrArg (hashAV c v::·) (hashL_app l k)
theorem hash_leaf {A:Around} {E:Value->Shared->Prop} {s:Shared} {v:AV} {w:Value} {Q:Int->Shared->Prop} (hv:Nat.blt v.kd 2=true) (hk:KeyAt c s.heap v w) (h:Q (hashAV c v) { s with toks:=s.toks+drawsAV v }):wpAny (model c.prog c.w) A (pyHash w) Q E s :=
 match v,hv,hk,h with
 | .int _,_,hk,h=>hk.intK (Y:=fun w=>wpAny (model c.prog c.w) A (pyHash w) Q E s) fun _=>wpAny_pyHash_int h
 | .str _,_,hk,h=>hk.strK (Y:=fun w=>wpAny (model c.prog c.w) A (pyHash w) Q E s) fun _ _=>wpAny_pyHash_str h
 | .none,hv,_,_=>nomatch hv | .bool _,hv,_,_=>nomatch hv | .tup _,hv,_,_=>nomatch hv | .dct _,hv,_,_=>nomatch hv | .ref _,hv,_,_=>nomatch hv
theorem keyD_flat {n:Nat} {v:AV} (h:keyD n v=true) (ht:v.t?=none):Nat.blt v.kd 2=true:=by
 cases n with
 | zero=>exact h
 | succ n=>unfold keyD lev at h; rw [ht] at h; exact h
theorem hash_av:∀ (n:Nat) {A:Around} {E:Value->Shared->Prop} {s:Shared} {v:AV} {w:Value} {Q:Int->Shared->Prop},keyD n v=true->A.units+n < cLine->KeyAt c s.heap v w->Q (hashAV c v) { s with toks:=s.toks+drawsAV v } ->
  wpAny (model c.prog c.w) A (pyHash w) Q E s:=by
 intro n
 induction n with
 | zero=>intro A E s v w Q hn _ hk h; exact hash_leaf hn hk h
 | succ n ih =>
  intro A E s v w Q hn hu hk h
  cases ht:v.t? with
  | none=>exact hash_leaf (keyD_flat hn ht) hk h
  | some l =>
   cases AV.t?S ht
   obtain ⟨a,items,m,rfl,ho,hi⟩:=hk
   replace ho:=keyMp_hz _ _ _ ho
   have hT:s.TypeIs (.ref a) "tuple":=⟨_,ho,rfl⟩
   have hl:=List.all_eq_true.mp (show (l.all fun u=>keyD n u)=true from hn)
   unfold pyHash
   unfold pyHashByItsType
   refine wpAny_bind (wpAny_cRoomFor_or (.inr (by omega)) ?_)
   refine wpAny_bind (wpAny_specialOf hT F.slot_tuple_hash.lookup ?_)
   show wpAny _ _ (if (some (Value.builtin "tuple.__hash__")==some Value.none)=true then _ else _) Q E s
   rw [if_neg (by rw [beq_builtin_none]; exact Bool.false_ne_true)]
   refine wpAny_bind (wpAny_specialOf hT F.slot_tuple_hash.lookup ?_)
   show wpAny _ _ (callSpecialIfBoundUnlessNone? (.ref a) "__hash__" _ >>= _) Q E s
   refine wpAny_bind (wpAny_callSpecialIfBoundUnlessNone?_slot hT F.slot_tuple_hash (wpAny_call_entry F.slot_tuple_hash hT F.entry_tuple_hash ?_ (F.args_tuple_hash_1 _)))
   show wpAny _ _ (Builtin.Tuple.tupleItemsOf (.ref a) >>= _) _ _ s
   refine wpAny_bind (wpAny_tupleItemsOf ho rfl ?_)
   refine wpAny_bind ?_
   rw [← Array.forIn_toList]
   refine wpAny_forIn_list _
    (fun rest (b:Array Int) s'=>∃ done left,l=done++left/\KeyAts c s.heap left rest/\b.toList=hashAV.hashL c done/\s'={ s with toks:=s.toks+drawsL done })
    _ ?_ ?_ _ _ ⟨[],l,rfl,hi,rfl,rfl⟩
   ·rintro x rest b s' ⟨done,left,rfl,hl',hb,rfl⟩
    cases left with
    | nil=>exact nomatch hl'
    | cons k ks' =>
     obtain ⟨_,_,e,h1,hl''⟩:=hl'
     cases e
     have hl3:(done++[k])++ks'=done++k::ks':=by rw [List.append_assoc]; rfl
     have hb':(b.push (hashAV c k)).toList=hashAV.hashL c (done++[k]):=by rw [hashL_app,Array.toList_push,hb]
     refine wpAny_bind (ih (hl k (List.mem_append_right _ (.head _))) (by show A.units+1+n < cLine; omega) h1 ?_)
     first
      | exact wpAny_pure ⟨done++[k],ks',hl3.symm,hl'',hb',by rw [drawsL_app,← Nat.add_assoc]⟩
      | exact wpAny_bind (wpAny_pure (wpAny_pure ⟨done++[k],ks',hl3.symm,hl'',hb',by rw [drawsL_app,← Nat.add_assoc]⟩))
   ·rintro b s' ⟨done,left,rfl,hl',hb,rfl⟩
    cases left with
    | cons=>obtain ⟨_,_,e,_⟩:=hl'; exact nomatch e
    | nil =>
     rw [List.append_nil] at h
     show wpAny _ _ (retInt (Builtin.Tuple.tupleHashOf b.toList)) _ _ _
     rw [hb]
     refine wpAny_ret_mkInt ?_
     show wpAny _ _ (if (decide (-(2:Int) ^ 63<=Builtin.Tuple.tupleHashOf (hashAV.hashL c done))&&decide (Builtin.Tuple.tupleHashOf (hashAV.hashL c done) < 2 ^ 63))=true then _ else _) Q E _
     have h:Q (if (decide (-(2:Int) ^ 63<=Builtin.Tuple.tupleHashOf (hashAV.hashL c done))&&decide (Builtin.Tuple.tupleHashOf (hashAV.hashL c done) < 2 ^ 63))=true then _ else _) { s with toks:=s.toks+drawsL done+1 }:=h
     by_cases hr:(decide (-(2:Int) ^ 63<=Builtin.Tuple.tupleHashOf (hashAV.hashL c done))&&decide (Builtin.Tuple.tupleHashOf (hashAV.hashL c done) < 2 ^ 63))=true
     ·rw [if_pos hr]
      rw [if_pos hr] at h
      exact wpAny_pure h
     ·rw [if_neg hr]
      rw [if_neg hr] at h
      exact wpAny_bind (wpAny_rule (wpAny_pure h))
theorem eqB_self {n:Nat} {x:AV} (h:keyD n x=true):eqB x x=true :=
 keyRec (F:=fun x=>eqB x x=true) (Fs:=fun l=>eqBs l l=true) (fun i=>beq_self_eq_true i) Nat.beq_refl (fun _ h=>h) rfl (fun _ _ h k=>(congr (congrArg and h) k:(_&&_)=(true&&true))) h
theorem eqB_eq {n:Nat} {x:AV} (h:keyD n x=true):∀ y,(∃ d,keyD d y=true)->eqB x y=true->x=y :=
 keyRec (F:=fun x=>∀ y,(∃ d,keyD d y=true)->eqB x y=true->x=y) (Fs:=fun l=>∀ y,(∃ d,(y.all fun u=>keyD d u)=true)->eqBs l y=true->l=y)
  (fun i y hy=>hy.elim fun d hy=>keyRec (F:=fun y=>eqB (.int i) y=true->.int i=y) (Fs:=fun _=>True) (fun _ e=>congrArg AV.int (eq_of_beq e)) (fun _ e=>nomatch e) (fun _ _ e=>nomatch e) trivial (fun _ _ _ _=>trivial) hy)
  (fun i y hy=>hy.elim fun d hy=>keyRec (F:=fun y=>eqB (.str i) y=true->.str i=y) (Fs:=fun _=>True) (fun _ e=>nomatch e) (fun _ e=>congrArg AV.str (Nat.eq_of_beq_eq_true e)) (fun _ _ e=>nomatch e) trivial (fun _ _ _ _=>trivial) hy)
  (fun l hl y hy e=>match y,hy,e with
   | .tup m,⟨0,h⟩,_=>nomatch h
   | .tup m,⟨d+1,h⟩,e=>congrArg AV.tup (hl m ⟨d,h⟩ e)
   | .none,_,e=>nomatch e | .bool _,_,e=>nomatch e | .int _,_,e=>nomatch e | .str _,_,e=>nomatch e | .dct _,_,e=>nomatch e | .ref _,_,e=>nomatch e)
  (fun y _ e=>match y,e with
   | [],_=>rfl
   | _::_,e=>nomatch e)
  (fun v l hv hl y hy e=>match y,hy,e with
   | [],_,e=>nomatch e
   | u::y,⟨d,hy⟩,e=>andK hy fun h1 h2=>andK e fun e1 e2=>congr (congrArg List.cons (hv u ⟨d,h1⟩ e1)) (hl y ⟨d,h2⟩ e2)) h
theorem eqB_key {n m:Nat} {x y:AV} (hx:keyD n x=true) (hy:keyD m y=true):eqB x y=true ↔ x=y:=⟨eqB_eq hx y ⟨m,hy⟩,fun e=>e▸eqB_self hx⟩
theorem keyD_dat {n:Nat} {v:AV} (h:keyD n v=true):datD n v=true :=
 levRec (p:=fun v=>Nat.blt v.kd 2) (F:=fun n v=>datD n v=true) (Fs:=fun n l=>(l.all fun u=>datD n u)=true) (fun d v h=>by cases v <;> cases d <;> first | rfl | exact nomatch h) (fun _ _ h=>h) (fun _=>rfl) (fun _ _ _ a b=>(congr (congrArg and a) b:(_&&_)=(true&&true))) n v h
end Mine.Internal
namespace Mine.Internal
open PySem PySem.W PySem.Calls PyProof.Rows
variable {c:Cx} {P:Pg} {M:Ms}
theorem quiet_leaf {A:Around} {E:Value->Shared->Prop} {s:Shared} {d:Nat} {v:AV} {w:Value} {Q:Bool->Shared->Prop} (hv:Nat.blt v.kd 2=true) (hk:KeyAt c s.heap v w) (h:Q true s):wpAny (model c.prog c.w) A (eqIsQuiet d w) Q E s :=
 match v,hv,hk with
 | .int _,_,hk=>hk.intK (Y:=fun w=>wpAny (model c.prog c.w) A (eqIsQuiet d w) Q E s) fun _=>wpAny_of_eq (eqIsQuiet_byValue _ rfl) h
 | .str _,_,hk=>hk.strK (Y:=fun w=>wpAny (model c.prog c.w) A (eqIsQuiet d w) Q E s) fun _ _=>wpAny_of_eq (eqIsQuiet_byValue _ rfl) h
 | .none,hv,_=>nomatch hv | .bool _,hv,_=>nomatch hv | .tup _,hv,_=>nomatch hv | .dct _,hv,_=>nomatch hv | .ref _,hv,_=>nomatch hv
theorem quiet_av:∀ (n d:Nat) {A:Around} {E:Value->Shared->Prop} {s:Shared} {v:AV} {w:Value} {Q:Bool->Shared->Prop},keyD n v=true->n<=d->KeyAt c s.heap v w->Q true s ->
  wpAny (model c.prog c.w) A (eqIsQuiet d w) Q E s:=by
 intro n
 induction n with
 | zero=>intro d A E s v w Q hn _ hk h; exact quiet_leaf hn hk h
 | succ n ih =>
  intro d A E s v w Q hn hd hk h
  cases ht:v.t? with
  | none=>exact quiet_leaf (keyD_flat hn ht) hk h
  | some l =>
   cases AV.t?S ht
   cases d with
   | zero=>exact absurd hd (Nat.not_succ_le_zero n)
   | succ d =>
   obtain ⟨a,items,m,rfl,ho,hi⟩:=hk
   replace ho:=keyMp_hz _ _ _ ho
   have hT:s.TypeIs (.ref a) "tuple":=⟨_,ho,rfl⟩
   have hl:=List.all_eq_true.mp (show (l.all fun u=>keyD n u)=true from hn)
   unfold eqIsQuiet
   refine wpAny_bind (wpAny_specialOf hT F.slot_tuple_eq.lookup ?_)
   show wpAny _ _ (isInstance (.ref a) (.type "tuple") >>= _) _ _ s
   refine wpAny_bind (wpAny_isInstance hT isSubtype_tuple_tuple ?_)
   refine wpAny_bind (wpAny_seqItems ho rfl (wpAny_bind ?_))
   show wpAny _ _ (forIn items _ _) _ _ s
   rw [← Array.forIn_toList]
   refine wpAny_forIn_list _ (fun rest r s'=>r.1=none/\s'=s/\∃ left,KeyAts c s.heap left rest/\∀ v∈left,keyD n v=true) _ ?_ ?_ _ _ ⟨rfl,rfl,l,hi,hl⟩
   ·rintro v rest r s' ⟨hr,rfl,left,hleft,hall⟩
    cases left with
    | nil=>exact nomatch hleft
    | cons u left =>
     obtain ⟨_,_,e,hv,hr'⟩:=hleft
     cases e
     exact wpAny_bind (ih d (hall _ (.head _)) (Nat.le_of_succ_le_succ hd) hv (wpAny_pure ⟨rfl,rfl,_,hr',fun u hu'=>hall u (.tail _ hu')⟩))
   ·rintro ⟨r1,r2⟩ s' ⟨hr,rfl,_⟩
    cases hr
    exact wpAny_pure h
open Classical in
noncomputable def avKind (G:Gd c P M):HeapKind c.prog c.w AV where
 is:=fun h x a=>KeyAt c h x (.ref a)/\keyOk x=true
 hash:=hashAV c
 draws:=drawsAV
 room:=fun A=>A.units+100 < cLine
 inj:=fun hx hy=>key_inj G hx.2 ⟨4,hy.2⟩ hx.1 hy.1
 keeps:=fun {h h' k a d o es ep} x ho hd hs=>⟨x.1.move fun b vs j e=>(hs.2 b fun q=>by subst q; cases ho.symm.trans e; exact nomatch hd).trans e,x.2⟩
 pyHash:=fun hu hk h=>hash_av 4 hk.2 (Nat.lt_of_le_of_lt (Nat.add_le_add_left (by decide:4<=100) _) hu) hk.1 h
 eqBool:=fun {A E s x y a b Q} hu hx hy h=>by
  have l1:=VR.lay G.sok (keyMp_hz s.heap) (keyD_dat hx.2) hx.1
  have l2:=VR.lay G.sok (keyMp_hz s.heap) (keyD_dat hy.2) hy.1
  have e:PyData.eqv (pd c x) (pd c y)=decide (x=y):=by
   rw [eqv_pd G l1.dat l2.dat]
   by_cases q:x=y
   ·rw [(eqB_key hx.2 hy.2).mpr q,decide_eq_true q]
   ·rw [decide_eq_false q]; exact Bool.eq_false_iff.mpr fun z=>q ((eqB_key hx.2 hy.2).mp z)
  obtain ⟨as,ra⟩:=l1.reads
  obtain ⟨bs,rb⟩:=l2.reads
  exact SeqAt.eqAt_reads _ _ A s _ _ as bs ra rb l1.lay l2.lay (Nat.lt_of_le_of_lt (Nat.add_le_add_left (ltr (Nat.min_le_left _ _) l1.deep) _) (Nat.lt_of_le_of_lt (Nat.add_le_add_left (by decide:4<=100) _) hu)) _ _ _ _ (e▸h)
 quiet:=fun hk h=>quiet_av 4 8 hk.2 (by decide) hk.1 h
noncomputable def kidx (k:AV):List (AV×AV)->Option Nat
 | []=>none
 | p::l=>cond (eqB p.1 k) (some 0) ((kidx k l).map (·+1))
theorem dget_kidx {k:AV} {Z:Prop}:∀ l:List (AV×AV),(kidx k l=none->dget k l=none->Z)->(∀ i p,kidx k l=some i->l[i]?=some p->dget k l=some p.2->eqB p.1 k=true->i < l.length->Z)->Z:=by
 intro l
 induction l with
 | nil =>
  intro k0 _
  exact k0 rfl rfl
 | cons p l ih =>
  intro k0 k1
  unfold kidx dget at k0 k1
  cases h:eqB p.1 k with
  | true=>rw [h] at k1; exact k1 0 p rfl rfl rfl h (Nat.zero_lt_succ _)
  | false =>
   rw [h] at k0 k1
   exact ih (fun a b=>k0 (congrArg (Option.map (·+1)) a) b) fun i q a b d e f=>k1 (i+1) q (congrArg (Option.map (·+1)) a) b d e (Nat.succ_lt_succ f)
variable {m:Mp} {A:Around} {E:Value->Shared->Prop} {s:Shared}
theorem findIdx_list {α:Type} (p:α->Bool) (xs:Array α):xs.findIdx? p=xs.toList.findIdx? p:=by rw [← List.findIdx?_toArray,Array.toArray_toList]
theorem findIdx_kidx {K:Type} [DecidableEq K] (knd:KeyKind c.prog c.w K) (x:K) (k:AV):∀ {l:List (AV×AV)} {es:List DictEntry},KRs c m l es->(∀ p∈l,∀ w,VR c m p.1 w->knd.is x w=eqB p.1 k)->es.findIdx? (fun e=>knd.is x e.key)=kidx k l:=by
 intro l
 induction l with
 | nil =>
  intro _ h _
  exact h.nilK (D:=fun es=>es.findIdx? _=none) rfl
 | cons p l ih =>
  intro _ h hkey
  exact h.consK (D:=fun es=>es.findIdx? (fun e=>knd.is x e.key)=kidx k (p::l)) fun e r hk hr=>by
   rw [List.findIdx?_cons,hkey _ (.head _) _ hk.key]
   unfold kidx
   rw [ih hr fun p hp=>hkey p (.tail _ hp)]
   cases eqB p.1 k <;> rfl
theorem is_str (G:Gd c P M) {x:Nat} (hx:x < c.nw) {j:AV} {w:Value} (h:VR c m j w):(strKind c.prog c.w).is (c.wd x) w=eqB j (.str x) :=
 match j,h with
 | .str k,h=>h.strK (Y:=fun w=>(strKind c.prog c.w).is (c.wd x) w=eqB (.str k) (.str x)) fun _ hk=>wd_eq G hk hx
 | .none,h=>h.noneK (Y:=fun w=>(strKind c.prog c.w).is (c.wd x) w=false) rfl
 | .bool _,h=>h.boolK (Y:=fun w=>(strKind c.prog c.w).is (c.wd x) w=false) rfl
 | .int _,h=>h.intK (Y:=fun w=>(strKind c.prog c.w).is (c.wd x) w=false) fun _=>rfl
 | .tup _,h=>h.tupK (Y:=fun w=>(strKind c.prog c.w).is (c.wd x) w=false) fun _ _ _ _ _=>rfl
 | .dct _,h=>h.dctK (Y:=fun w=>(strKind c.prog c.w).is (c.wd x) w=false) fun _ _ _ _ _ _ _ _=>rfl
 | .ref _,h=>h.refK (Y:=fun w=>(strKind c.prog c.w).is (c.wd x) w=false) fun _=>rfl
theorem is_int {x:Int} {j:AV} {w:Value} (hj:∃ i,j=.int i) (h:VR c m j w):(intKind c.prog c.w).is x w=eqB j (.int x):=by
 obtain ⟨i,rfl⟩:=hj
 exact h.intK (Y:=fun w=>(intKind c.prog c.w).is x w=eqB (.int i) (.int x)) fun _=>rfl
theorem kind_keyOk:∀ {κ:KKind} {k:AV},kindIs κ k->keyOk k=true
 | .s,_,h=>h.elim fun _ h=>h▸rfl
 | .i,_,h=>h.elim fun _ h=>h▸rfl
 | .t,_,h=>h.elim fun _ h=>h.2
noncomputable def kdOf:KKind->Nat
 | .i=>0 | .s=>1 | .t=>2
theorem kind_of {k:AV} (hk:keyOk k=true):∀ κ,Nat.beq (kdOf κ) k.kd=true->kindIs κ k:=by
 cases k with
 | int i=>intro κ h; cases κ <;> first | exact ⟨i,rfl⟩ | exact nomatch h
 | str i=>intro κ h; cases κ <;> first | exact ⟨i,rfl⟩ | exact nomatch h
 | tup l=>intro κ h; cases κ <;> first | exact ⟨l,rfl,hk⟩ | exact nomatch h
 | none=>exact nomatch hk
 | bool=>exact nomatch hk
 | dct=>exact nomatch hk
 | ref=>exact nomatch hk
theorem kind_kd:∀ {κ:KKind} {k:AV},kindIs κ k->k.kd=kdOf κ
 | .s,_,h=>h.elim fun _ h=>h▸rfl
 | .i,_,h=>h.elim fun _ h=>h▸rfl
 | .t,_,h=>h.elim fun _ h=>h.1▸rfl
theorem kind_own {k:AV} (hk:keyOk k=true):∃ κ,kindIs κ k:=by
 cases k with
 | int i=>exact ⟨.i,i,rfl⟩
 | str i=>exact ⟨.s,i,rfl⟩
 | tup l=>exact ⟨.t,l,rfl,hk⟩
 | none=>exact nomatch hk
 | bool=>exact nomatch hk
 | dct=>exact nomatch hk
 | ref=>exact nomatch hk
theorem kfit_kind {k:AV} {l:List (AV×AV)} (h:kfit k l=true) (hu:∃ κ,∀ p∈l,kindIs κ p.1) {Z:Prop} (z:∀ κ,keyOk k=true->kindIs κ k->(∀ p∈l,kindIs κ p.1)->Z):Z :=
 andK h fun hk hf=>match l,hu,hf,z with
  | [],_,_,z=>(kind_own hk).elim fun κ h=>z κ hk h fun _ h=>nomatch h
  | p::l,⟨κ,hu⟩,hf,z=>z κ hk (kind_of hk κ (andK hf fun e _=>kind_kd (hu p (.head _))▸e)) hu
theorem KRs.keysOf {K:Type} [DecidableEq K] (knd:KeyKind c.prog c.w K) {κ:AV->Prop} (h1:∀ j w,VR c m j w->κ j->∃ x,knd.is x w=true/\hashAV c j=knd.hash x) :
  ∀ {l:List (AV×AV)} {es:List DictEntry},KRs c m l es->(∀ p∈l,κ p.1)->∀ e∈es,∃ k,knd.is k e.key=true/\e.hash=knd.hash k:=by
 intro l
 induction l with
 | nil =>
  intro _ D _ _ h
  exact D.nilK (D:=fun es=>_∈es->_) (fun h=>nomatch h) h
 | cons p l ih =>
  intro _ D he e h
  exact D.consK (D:=fun es=>e∈es->∃ k,knd.is k e.key=true/\e.hash=knd.hash k) (fun e' r q hr h=>(List.mem_cons.mp h).elim (fun z=>z▸(h1 _ _ q.key (he _ (.head _))).imp fun x y=>⟨y.1,q.hash.trans y.2⟩) fun h=>ih hr (fun p hp=>he p (.tail _ hp)) e h) h
open Classical in
theorem KRs.rows (G:Gd c P M) {h:Heap} (hz:∀ a o,m.fz a=some o->h.get? a=some o):∀ {l:List (AV×AV)} {es:List DictEntry},KRs c m l es->(∀ p∈l,kindIs .t p.1) ->
  ∃ xs:List (AV×Addr×Value),es=xs.map (entryOfKey (avKind G))/\(∀ x∈xs,(avKind G).is h x.1 x.2.1)/\xs.map (·.1)=l.map (·.1):=by
 intro l
 induction l with
 | nil =>
  intro _ D _
  exact D.nilK (D:=fun es=>∃ xs:List (AV×Addr×Value),es=xs.map (entryOfKey (avKind G))/\(∀ x∈xs,(avKind G).is h x.1 x.2.1)/\xs.map (·.1)=[]) ⟨[],rfl,(fun _ h=>nomatch h),rfl⟩
 | cons jv l ih =>
  obtain ⟨j,v⟩:=jv
  intro _ D ht
  exact D.consK (D:=fun es=>∃ xs:List (AV×Addr×Value),es=xs.map (entryOfKey (avKind G))/\(∀ x∈xs,(avKind G).is h x.1 x.2.1)/\xs.map (·.1)=j::l.map (·.1)) fun e r q hr=>by
   obtain ⟨xs,h1,h2,h3⟩:=ih hr (fun p hp=>ht p (.tail _ hp))
   obtain ⟨l',e0,hok⟩:=ht _ (.head _)
   obtain ⟨eh,ek,ev⟩:=e
   obtain ⟨hk,hh,hv⟩:=q
   cases (show j=.tup l' from e0)
   have hk':=VR.key hz hok hk
   obtain ⟨a,_,_,hek,_⟩:=hk
   cases (show ek=.ref a from hek)
   cases (show eh=hashAV c (.tup l') from hh)
   exact ⟨(.tup l',a,ev)::xs,congrArg (_::·) h1,fun x hx=>(List.mem_cons.mp hx).elim (fun e=>e▸⟨hk',hok⟩) (h2 x),congrArg (_::·) h3⟩
open Classical in
theorem kidx_at {k:AV} (hk:keyOk k=true):∀ {l:List (AV×AV)},(∀ p∈l,keyOk p.1=true)->(l.map (·.1)).Nodup->(∀ i:Nat,(l.map (·.1))[i]?=some k->kidx k l=some i)/\((∀ i:Nat,(l.map (·.1))[i]?≠some k)->kidx k l=none):=by
 intro l
 induction l with
 | nil =>
  intro _ _
  exact ⟨fun i h=>(nomatch h),fun _=>rfl⟩
 | cons p l ih =>
  intro hl hn
  rw [List.map_cons,List.nodup_cons] at hn
  have ih:=ih (fun p hp=>hl p (.tail _ hp)) hn.2
  have e:=eqB_key (hl _ (.head _)) hk
  unfold kidx
  by_cases q:p.1=k
  ·rw [e.mpr q]
   exact ⟨fun i h=>match i,h with
    | 0,_=>rfl
    | i+1,h=>absurd (q▸List.mem_of_getElem? h) hn.1,fun h=>absurd (congrArg some q) (h 0)⟩
  ·rw [Bool.eq_false_iff.mpr fun z=>q (e.mp z)]
   exact ⟨fun i h=>match i,h with
    | 0,h=>absurd (Option.some.inj h) q
    | i+1,h=>congrArg (Option.map (·+1)) (ih.1 i h),fun h=>congrArg (Option.map (·+1)) (ih.2 fun i=>h (i+1))⟩
open Classical in
theorem dictFind_av (G:Gd c P M) {d:Addr} {es:Array DictEntry} {n:Nat} {l:List (AV×AV)} {k:AV} {key:Value} {Q:Option Nat->Shared->Prop} (hz:∀ a o,m.fz a=some o->s.heap.get? a=some o) (hu:A.units+100 < cLine)
  (ho:s.heap.get? d=some (dicObj es n)) (hl:KRs c m l es.toList) (hκ:∃ κ,∀ p∈l,kindIs κ p.1) (hn:(l.map (·.1)).Nodup) (hf:kfit k l=true) (hk:VR c m k key) (h:Q (kidx k l) s) :
  wpAny (model c.prog c.w) A (dictFind d key (hashAV c k)) Q E s:=by
 refine kfit_kind hf hκ fun κ hok hκ hall=>?_
 cases κ with
 | s =>
  obtain ⟨x,rfl⟩:=hκ
  have hx:x < c.nw:=hk.elim fun _ e=>e.2
  refine wpAny_dictFind_of (knd:=strKind c.prog c.w) (k:=c.wd x) ((is_str G hx hk).trans (Nat.beq_refl x)) ho rfl (fun e he=>?_) ?_
  ·exact KRs.keysOf (strKind c.prog c.w) (κ:=kindIs .s) (fun j w V hj=>hj.elim fun i hj=>by subst hj; have hi:i < c.nw:=V.elim fun _ e=>e.2; exact ⟨c.wd i,(is_str G hi V).trans (Nat.beq_refl i),rfl⟩) hl hall e (Array.mem_toList_iff.mpr he)
  ·rw [findIdx_list,findIdx_kidx (strKind c.prog c.w) (c.wd x) (.str x) hl (fun p _ w hw=>is_str G hx hw)]
   exact h
 | i =>
  obtain ⟨x,rfl⟩:=hκ
  refine wpAny_dictFind_of (knd:=intKind c.prog c.w) (k:=x) ((is_int ⟨x,rfl⟩ hk).trans (beq_self_eq_true x)) ho rfl (fun e he=>?_) ?_
  ·exact KRs.keysOf (intKind c.prog c.w) (κ:=kindIs .i) (fun j w V hj=>hj.elim fun i hj=>by subst hj; exact ⟨i,(is_int ⟨i,rfl⟩ V).trans (beq_self_eq_true i),rfl⟩) hl hall e (Array.mem_toList_iff.mpr he)
  ·rw [findIdx_list,findIdx_kidx (intKind c.prog c.w) x (.int x) hl (fun p hp w hw=>is_int (hall p hp) hw)]
   exact h
 | t =>
  obtain ⟨x,rfl,_⟩:=hκ
  obtain ⟨xs,h1,h2,h3⟩:=KRs.rows G hz hl hall
  have at_:=kidx_at hok (fun p hp=>kind_keyOk (hall p hp)) hn
  refine hk.tupK (Y:=fun key=>wpAny (model c.prog c.w) A (dictFind d key (hashAV c (.tup x))) Q E s) fun a _ _ hfz hr =>
   wpAny_dictFind_heap (knd:=avKind G) (k:=.tup x) (es:=es) (ep:=n) (xs:=xs) hu ⟨VR.key hz hok (.tup hfz hr),hok⟩ ho rfl h1 h2 (h3.symm▸hn) (fun hno=>?_) fun j p hj=>?_
  ·refine (at_.2 fun i q=>?_)▸h
   rw [← h3,List.getElem?_map] at q
   obtain ⟨y,hy,hy2⟩:=Option.map_eq_some_iff.mp q
   exact hno i y.2 (by rw [hy,← hy2])
  ·exact (at_.1 j (by rw [← h3,List.getElem?_map,hj]; rfl))▸h
theorem hash_key {k:AV} {key:Value} {Q:Int->Shared->Prop} (hz:∀ a o,m.fz a=some o->s.heap.get? a=some o) (hu:A.units+100 < cLine) (hok:keyOk k=true) (hk:VR c m k key) (h:∀ t,s.toks<=t->Q (hashAV c k) { s with toks:=t }) :
  wpAny (model c.prog c.w) A (pyHash key) Q E s:=hash_av 4 hok (Nat.lt_of_le_of_lt (Nat.add_le_add_left (by decide:4<=100) _) hu) (VR.key hz hok hk) (h _ (Nat.le_add_right _ _))
end Mine.Internal
namespace Mine.Internal
open PySem PySem.W PySem.Calls PyProof.Rows
variable {c:Cx} {P:Pg} {M:Ms} {m:Mp} {A:Around} {E:Value->Shared->Prop} {s:Shared} {d:Addr} {l:List (AV×AV)} {k v:AV} {key w:Value}
structure DicAt (c:Cx) (m:Mp) (h:Heap) (d:Addr) (l:List (AV×AV)) (es:Array DictEntry) (n:Nat):Prop where
 at_:h.get? d=some (dicObj es n)
 rows:KRs c m l es.toList
 kind:∃ κ,∀ p∈l,kindIs κ p.1
 nd:(l.map (·.1)).Nodup
 few:l.length<=1000
 low:(d==sysModules)=false
 hz:∀ a o,m.fz a=some o->h.get? a=some o
theorem KRs.get {Z:Prop}:∀ {l:List (AV×AV)} {es:List DictEntry},KRs c m l es->∀ {i:Nat} {p},l[i]?=some p->(∀ e,es[i]?=some e->KRow c m p e->Z)->Z
 | [],_,_,_,_,h,_=>nomatch h
 | _::_,_,D,0,_,h,z=>D.consK (D:=fun es=>(∀ e,es[0]?=some e->KRow c m _ e->Z)->Z) (fun e _ q _ z=>z e rfl (Option.some.inj h▸q)) z
 | _::_,_,D,i+1,_,h,z=>D.consK (D:=fun es=>(∀ e,es[i+1]?=some e->KRow c m _ e->Z)->Z) (fun _ _ _ hr z=>KRs.get hr h z) z
noncomputable def VRo (c:Cx) (m:Mp):Option AV->Option Value->Prop
 | none,o=>o=none
 | some v,o=>∃ w,o=some w/\VR c m v w
section
variable {es:Array DictEntry} {n:Nat} (G:Gd c P M) (D:DicAt c m s.heap d l es n)
include D
theorem DicAt.typeIs:s.TypeIs (.ref d) "dict":=⟨_,D.at_,rfl⟩
theorem DicAt.size:es.size=l.length:=D.rows.length.symm
include G
theorem dictGet_av {Q:Option Value->Shared->Prop} (hu:A.units+100 < cLine) (hf:kfit k l=true) (hk:VR c m k key) (h:∀ o t,VRo c m (dget k l) o->s.toks<=t->Q o { s with toks:=t }) :
  wpAny (model c.prog c.w) A (dictGet d key) Q E s:=by
 have hok:keyOk k=true:=kfit_kind hf D.kind fun _ h _ _=>h
 unfold dictGet
 try with_reducible refine wpAny_holding ?_
 refine wpAny_bind (hash_key D.hz hu hok hk fun t ht=>wpAny_bind (dictFind_av (s:={ s with toks:=t }) G D.hz hu D.at_ D.rows D.kind D.nd hf hk ?_))
 refine dget_kidx (k:=k) l (fun h1 h2=>?_) fun i p h1 h2 h3 h4 h5=>?_
 ·rw [h1]; exact wpAny_pure (h none t (h2▸rfl) ht)
 ·rw [h1]
  refine D.rows.get h2 fun e he q=>wpAny_bind (wpAny_dictEntries (s:={ s with toks:=t }) D.at_ rfl ?_)
  have:es[i]?=some e:=(Array.getElem?_toList ..).symm.trans he
  rw [this]
  exact wpAny_pure (h (some e.val) t (h3▸⟨_,rfl,q.val⟩) ht)
theorem getItem_av {Q:Value->Shared->Prop} (hu:A.units+101 < cLine) (hf:kfit k l=true) (hk:VR c m k key) (hg:dget k l=some v) (h:∀ w t,VR c m v w->s.toks<=t->Q w { s with toks:=t }):wpAny (model c.prog c.w) A (getItem (.ref d) key) Q E s:=by
 unfold getItem
 try with_reducible refine wpAny_holding ?_
 refine wpAny_bind (wpAny_sequenceKey D.typeIs (by decide) ?_)
 refine wpAny_bind (wpAny_callSpecial?_slot (name:=Str.ofString "__getitem__") D.typeIs slot_dict_getitem
  (wpAny_call_entry slot_dict_getitem D.typeIs entry_dict_getitem ?_ (args_dict_getitem _ _)))
 show wpAny _ _ (dictGet d key >>= _) _ _ s
 refine wpAny_bind (dictGet_av G D hu hf hk fun o t V ht=>?_)
 rw [hg] at V
 obtain ⟨w,rfl,V⟩:=V
 exact wpAny_pure ⟨w,rfl,wpAny_pure (h w t V ht)⟩
theorem contains_av {Q:Bool->Shared->Prop} (hu:A.units+101 < cLine) (hf:kfit k l=true) (hk:VR c m k key) (h:∀ t,s.toks<=t->Q (dget k l).isSome { s with toks:=t }):wpAny (model c.prog c.w) A (contains (.ref d) key) Q E s:=by
 unfold contains
 try with_reducible refine wpAny_holding ?_
 refine wpAny_bind (wpAny_specialOf D.typeIs slot_dict_contains.lookup ?_)
 show wpAny _ _ (if (some (Value.builtin "dict.__contains__")==some Value.none)=true then _ else _) _ E s
 rw [if_neg (by rw [beq_builtin_none]; exact Bool.false_ne_true)]
 refine wpAny_bind (wpAny_callSpecialUnlessNone?_slot (name:=Str.ofString "__contains__") D.typeIs slot_dict_contains
  (wpAny_call_entry slot_dict_contains D.typeIs entry_dict_contains ?_ (args_dict_contains _ _)))
 show wpAny _ _ (dictGet d key >>= _) _ _ s
 refine wpAny_bind (dictGet_av G D hu hf hk fun o t V ht=>?_)
 have h:=h t ht
 cases e:dget k l with
 | some v =>
  rw [e] at V h
  obtain ⟨w,rfl,V⟩:=V
  show wpAny _ _ (ret (.bool true)) _ _ _
  exact wpAny_pure ⟨_,rfl,wpAny_truthy_bool h⟩
 | none =>
  rw [e] at V h
  cases V
  show wpAny _ _ (Builtin.Dict.pendingKey? d key >>= _) _ _ _
  exact wpAny_bind (wpAny_pendingKey_other D.low (wpAny_pure ⟨_,rfl,wpAny_truthy_bool h⟩))
section
variable {Q:Value->Shared->Prop} (hu:A.units+101 < cLine) (hf:kfit k l=true) (hk:VR c m k key) {dv:AV} {dflt:Value} (hd:VR c m dv dflt) (h:∀ w t,VR c m ((dget k l).getD dv) w->s.toks<=t->Q w { s with toks:=t })
include hu hf hk hd h
theorem got_av {F:Option Value->Sem Fin} (hs:∀ w s',Q w s'->wpAny (model c.prog c.w) A.in1 (F (some w)) (fun o s=>∃ w,o=.done (.ret w)/\Q w s) E s') (hn:∀ s',Q dflt s'->wpAny (model c.prog c.w) A.in1 (F none) (fun o s=>∃ w,o=.done (.ret w)/\Q w s) E s') :
  wpAny (model c.prog c.w) A.in1 (dictGet d key >>= F) (fun o s=>∃ w,o=.done (.ret w)/\Q w s) E s :=
 wpAny_bind (dictGet_av G D hu hf hk fun o t V ht=>by
  cases e:dget k l with
  | some v=>rw [e] at V h; obtain ⟨w,rfl,V⟩:=V; exact hs w _ (h w t V ht)
  | none=>rw [e] at V h; cases V; exact hn _ (h dflt t hd ht))
theorem dict_get2:wpAny (model c.prog c.w) A (call (.builtin "dict.get") [.ref d,key,dflt]) Q E s :=
 wpAny_call_entry PySem.F.slot_dict_get D.typeIs PySem.F.entry_dict_get (got_av G D hu hf hk hd h (fun w _ q=>wpAny_pure ⟨w,rfl,q⟩) fun s' q=>by
  show wpAny _ _ (Builtin.Dict.missed d key >>= _) _ _ _
  exact wpAny_bind (wpAny_missed_other D.low (wpAny_pure ⟨_,rfl,q⟩))) (PySem.F.args_dict_get_3 _ _ _)
end
theorem dict_get1 {Q:Value->Shared->Prop} (hu:A.units+101 < cLine) (hf:kfit k l=true) (hk:VR c m k key) (h:∀ w t,VR c m ((dget k l).getD .none) w->s.toks<=t->Q w { s with toks:=t }):wpAny (model c.prog c.w) A (call (.builtin "dict.get") [.ref d,key]) Q E s :=
 wpAny_call_entry PySem.F.slot_dict_get D.typeIs PySem.F.entry_dict_get (got_av G D hu hf hk .none h (fun w _ q=>wpAny_pure ⟨w,rfl,q⟩) fun s' q=>by
  show wpAny _ _ (Builtin.Dict.missed d key >>= _) _ _ _
  exact wpAny_bind (wpAny_missed_other D.low (wpAny_pure ⟨_,rfl,q⟩))) (PySem.F.args_dict_get_2 _ _)
end
theorem dset_kidx {k v:AV} {Y:List (AV×AV)->Prop}:∀ l:List (AV×AV),(∀ i,kidx k l=some i->Y (l.modify i fun p=>(p.1,v)))->(kidx k l=none->Y (l++[(k,v)]))->Y (dset k v l)
 | [],_,k1=>k1 rfl
 | p::l,k0,k1=>by
  unfold dset
  unfold kidx at k0 k1
  cases e:eqB p.1 k with
  | true=>rw [e] at k0; exact k0 0 rfl
  | false =>
   rw [e] at k0 k1
   exact dset_kidx (Y:=fun x=>Y (p::x)) l (fun i h=>List.modify_succ_cons ..▸k0 (i+1) (congrArg (Option.map (·+1)) h)) fun h=>k1 (congrArg (Option.map (·+1)) h)
theorem ddel_kidx (k:AV):∀ {l:List (AV×AV)} {i:Nat},kidx k l=some i->ddel k l=l.eraseIdx i
 | [],_,h=>nomatch h
 | p::l,i,h=>by
  unfold ddel
  unfold kidx at h
  cases e:eqB p.1 k with
  | true=>rw [e] at h; exact someK (Y:=fun i=>l=(p::l).eraseIdx i) h rfl
  | false=>rw [e] at h; exact mapK (Y:=fun i=>p::ddel k l=(p::l).eraseIdx i) h fun j h=>congrArg (p::·) (ddel_kidx k h)
theorem KRs.modify (h:VR c m v w):∀ {l:List (AV×AV)} {es:List DictEntry} (i:Nat),KRs c m l es->KRs c m (l.modify i fun p=>(p.1,v)) (es.modify i fun e=>{ e with val:=w })
 | [],_,i,D=>D.nilK (D:=fun es=>KRs c m ([].modify i _) (es.modify i _)) (by cases i <;> rfl)
 | p::l,_,0,D=>D.consK (D:=fun es=>KRs c m ((p::l).modify 0 _) (es.modify 0 _)) fun _ _ q hr=>.cons ⟨q.key,q.hash,h⟩ hr
 | p::l,_,i+1,D=>D.consK (D:=fun es=>KRs c m ((p::l).modify (i+1) _) (es.modify (i+1) _)) fun _ _ q hr=>by
  rw [List.modify_succ_cons,List.modify_succ_cons]; exact .cons q (KRs.modify h i hr)
theorem KRs.append:∀ {l l':List (AV×AV)} {es es':List DictEntry},KRs c m l es->KRs c m l' es'->KRs c m (l++l') (es++es')
 | [],_,_,es',D,h=>D.nilK (D:=fun es=>KRs c m _ (es++es')) h
 | _::_,_,_,es',D,h=>D.consK (D:=fun es=>KRs c m _ (es++es')) fun _ _ q hr=>.cons q (KRs.append hr h)
theorem KRs.erase:∀ {l:List (AV×AV)} {es:List DictEntry} (i:Nat),KRs c m l es->KRs c m (l.eraseIdx i) (es.eraseIdx i)
 | [],_,_,D=>D.nilK (D:=fun es=>KRs c m [] (es.eraseIdx _)) rfl
 | p::l,_,0,D=>D.consK (D:=fun es=>KRs c m l (es.eraseIdx 0)) fun _ _ _ hr=>hr
 | p::l,_,i+1,D=>D.consK (D:=fun es=>KRs c m ((p::l).eraseIdx (i+1)) (es.eraseIdx (i+1))) fun _ _ q hr=>.cons q (KRs.erase i hr)
theorem dset_keys {k v:AV} (hk:keyOk k=true) {Y:List AV->Prop}:∀ {l:List (AV×AV)},(∀ p∈l,keyOk p.1=true)->(k∈l.map (·.1)->Y (l.map (·.1)))->(k∉l.map (·.1)->Y (l.map (·.1)++[k]))->Y ((dset k v l).map (·.1))
 | [],_,_,k1=>k1 fun z=>nomatch z
 | p::l,h,k0,k1=>by
  have e:=eqB_key (h _ (.head _)) hk
  unfold dset
  cases q:eqB p.1 k with
  | true=>exact k0 (e.mp q▸.head _)
  | false =>
   have:k≠p.1:=fun z=>nomatch q.symm.trans (e.mpr z.symm)
   exact dset_keys (v:=v) hk (Y:=fun x=>Y (p.1::x)) (fun p hp=>h p (.tail _ hp)) (fun a=>k0 (.tail _ a)) fun a=>k1 fun z=>(List.mem_cons.mp z).elim this a
theorem DicAt.set {es es':Array DictEntry} {n n':Nat} {h h':Heap} (D:DicAt c m h d l es n) (hf:kfit k l=true) (hat:h'.get? d=some (dicObj es' n')) (hr:KRs c m (dset k v l) es'.toList) (hl:(dset k v l).length<=1000)
  (hz:∀ a o,m.fz a=some o->h'.get? a=some o):DicAt c m h' d (dset k v l) es' n' :=
 kfit_kind hf D.kind fun κ hok hκ hall =>
  have q:(∀ x∈(dset k v l).map (·.1),kindIs κ x)/\((dset k v l).map (·.1)).Nodup:=by
   have h0:∀ x∈l.map (·.1),kindIs κ x:=fun x hx=>(List.mem_map.mp hx).elim fun p hp=>hp.2▸hall p hp.1
   refine dset_keys (v:=v) (Y:=fun x=>(∀ y∈x,kindIs κ y)/\x.Nodup) hok (fun p hp=>kind_keyOk (hall p hp)) (fun _=>⟨h0,D.nd⟩) fun hn=>⟨fun y hy=>?_,?_⟩
   ·exact (List.mem_append.mp hy).elim (h0 y) fun hy=>List.mem_singleton.mp hy▸hκ
   ·exact List.nodup_append.mpr ⟨D.nd,List.pairwise_singleton ..,fun x hx y hy e=>hn (List.mem_singleton.mp hy▸e▸hx)⟩
  ⟨hat,hr,⟨κ,fun p hp=>q.1 _ (List.mem_map_of_mem hp)⟩,q.2,hl,D.low,hz⟩
theorem size_le {n:Nat} (h:n<=1000):n<=sizeLine:=ltr h (by rw [sizeLine_eq]; decide)
section
variable {es:Array DictEntry} {n:Nat} (G:Gd c P M) (D:DicAt c m s.heap d l es n) (hfz:m.fz d=none)
include D hfz
theorem DicAt.hz' {h':Heap} (hs:Heap.SameBut d s.heap h'):∀ a o,m.fz a=some o->h'.get? a=some o:=fun a o e=>(hs.2 a fun q=>nomatch (q▸hfz:m.fz a=none).symm.trans e).trans (D.hz a o e)
include G
theorem dictSet_av {Q:Unit->Shared->Prop} (hu:A.units+100 < cLine) (hf:kfit k l=true) (hk:VR c m k key) (hv:VR c m v w) (hl:(dset k v l).length<=1000)
  (h:∀ h' es' n' t,DicAt c m h' d (dset k v l) es' n'->Heap.SameBut d s.heap h'->s.toks<=t->Q () { s with heap:=h',toks:=t }):wpAny (model c.prog c.w) A (dictSet d key w) Q E s:=by
 have hok:keyOk k=true:=kfit_kind hf D.kind fun _ h _ _=>h
 unfold dictSet
 try with_reducible refine wpAny_holding ?_
 refine wpAny_bind (hash_key D.hz hu hok hk fun t ht=>?_)
 unfold dictSetHashed
 try with_reducible refine wpAny_holding ?_
 refine wpAny_bind (dictFind_av (s:={ s with toks:=t }) G D.hz hu D.at_ D.rows D.kind D.nd hf hk ?_)
 cases hi:kidx k l with
 | some i =>
  refine wpAny_bind (wpAny_rule (wpAny_bind (wpAny_updateDict (s:={ s with toks:=t }) D.at_ rfl (wpAny_point (h _ (es.modify i fun e=>{ e with val:=w }) n t (D.set hf (Heap.get?_update_self _ D.at_ rfl) ?_ hl (D.hz' hfz (Heap.SameBut.update ..))) (Heap.SameBut.update ..) ht)))))
  rw [Array.toList_modify]
  exact dset_kidx (Y:=fun x=>KRs c m x (es.toList.modify i _)) l (fun j h=>Option.some.inj (hi.symm.trans h)▸D.rows.modify hv i) fun h=>nomatch hi.symm.trans h
 | none =>
  refine wpAny_bind (wpAny_rule (wpAny_updateDictKeys (hz:=D.size▸size_le D.few) (s:={ s with toks:=t }) D.at_ rfl (h _ (es.push ⟨hashAV c k,key,w⟩) (n+1) t (D.set hf (Heap.get?_update_self _ D.at_ rfl) ?_ hl (D.hz' hfz (Heap.SameBut.update ..))) (Heap.SameBut.update ..) ht)))
  rw [Array.toList_push]
  exact dset_kidx (Y:=fun x=>KRs c m x (es.toList++[_])) l (fun j h=>nomatch hi.symm.trans h) fun _=>D.rows.append (.cons ⟨hk,rfl,hv⟩ .nil)
theorem setItem_av {Q:Unit->Shared->Prop} (hu:A.units+101 < cLine) (hf:kfit k l=true) (hk:VR c m k key) (hv:VR c m v w) (hl:(dset k v l).length<=1000)
  (h:∀ h' es' n' t,DicAt c m h' d (dset k v l) es' n'->Heap.SameBut d s.heap h'->s.toks<=t->Q () { s with heap:=h',toks:=t }):wpAny (model c.prog c.w) A (setItem (.ref d) key w) Q E s:=by
 unfold setItem
 try with_reducible refine wpAny_holding ?_
 refine wpAny_bind (wpAny_sequenceKey D.typeIs (by decide) ?_)
 refine wpAny_bind (wpAny_callSpecial?_slot (name:=Str.ofString "__setitem__") D.typeIs slot_dict_setitem
  (wpAny_call_entry slot_dict_setitem D.typeIs entry_dict_setitem ?_ (args_dict_setitem _ _ _)))
 show wpAny _ _ (Builtin.Dict.notOrdered "__setitem__" ⟨[.ref d,key,w],[]⟩ >>= _) _ _ s
 refine wpAny_bind (wpAny_notOrdered_dict D.typeIs ?_)
 show wpAny _ _ (dictSet d key w >>= _) _ _ s
 exact wpAny_bind (dictSet_av G D hfz hu hf hk hv hl fun h' es' n' t D' hs ht=>wpAny_pure ⟨.none,rfl,wpAny_pure (h h' es' n' t D' hs ht)⟩)
section
variable (hf:kfit k l=true) (hk:VR c m k key)
include hf hk
theorem takeOut_av {Q:Option DictEntry->Shared->Prop} (hu:A.units+100 < cLine) (hnone:∀ t,dget k l=none->s.toks<=t->Q none { s with toks:=t })
  (hsome:∀ v e h' es' n' t,dget k l=some v->VR c m v e.val->DicAt c m h' d (ddel k l) es' n'->Heap.SameBut d s.heap h'->s.toks<=t->Q (some e) { s with heap:=h',toks:=t }) :
  wpAny (model c.prog c.w) A (Builtin.Dict.takeOut d key) Q E s:=by
 have hok:keyOk k=true:=kfit_kind hf D.kind fun _ h _ _=>h
 unfold Builtin.Dict.takeOut
 try with_reducible refine wpAny_holding ?_
 refine wpAny_bind (hash_key D.hz hu hok hk fun t ht=>wpAny_bind (dictFind_av (s:={ s with toks:=t }) G D.hz hu D.at_ D.rows D.kind D.nd hf hk ?_))
 refine dget_kidx (k:=k) l (fun h1 h2=>?_) fun i p h1 h2 h3 h4 h5=>?_
 ·rw [h1]; exact wpAny_pure (hnone t h2 ht)
 ·rw [h1]
  refine D.rows.get h2 fun e he q=>wpAny_bind (wpAny_dictEntries (s:={ s with toks:=t }) D.at_ rfl ?_)
  have:es[i]?=some e:=(Array.getElem?_toList ..).symm.trans he
  rw [this]
  have hd:=ddel_kidx k h1
  refine wpAny_bind (wpAny_updateDictKeys (hz:=D.size▸size_le D.few) (s:={ s with toks:=t }) D.at_ rfl (wpAny_pure (hsome p.2 e _ (es.eraseIdxIfInBounds i) (n+1) t h3 q.val ⟨Heap.get?_update_self _ D.at_ rfl,?_,?_,?_,?_,D.low,D.hz' hfz (Heap.SameBut.update ..)⟩ (Heap.SameBut.update ..) ht)))
  ·rw [hd]
   obtain ⟨es⟩:=es
   exact (List.eraseIdxIfInBounds_toArray ..).symm▸D.rows.erase i
  ·exact D.kind.imp fun κ hall p hp=>hall p (List.mem_of_mem_eraseIdx (hd▸hp))
  ·exact hd▸D.nd.sublist ((List.eraseIdx_sublist l i).map (·.1))
  ·exact hd▸ltr (List.length_eraseIdx_le ..) D.few
theorem dict_pop2 {Q:Value->Shared->Prop} {dflt:Value} (hu:A.units+101 < cLine) (hnone:∀ t,dget k l=none->s.toks<=t->Q dflt { s with toks:=t })
  (hsome:∀ v w h' es' n' t,dget k l=some v->VR c m v w->DicAt c m h' d (ddel k l) es' n'->Heap.SameBut d s.heap h'->s.toks<=t->Q w { s with heap:=h',toks:=t }) :
  wpAny (model c.prog c.w) A (call (.builtin "dict.pop") [.ref d,key,dflt]) Q E s:=by
 refine wpAny_call_entry PySem.F.slot_dict_pop D.typeIs PySem.F.entry_dict_pop ?_ (PySem.F.args_dict_pop_3 _ _ _)
 unfold Builtin.«dict.pop»
 refine wpAny_bind ?_
 unfold Builtin.Dict.keyAndDefault
 refine wpAny_bind (wpAny_notOrdered_dict D.typeIs ?_)
 show wpAny _ _ (pure (d,key,some dflt)) _ _ s
 refine wpAny_pure ?_
 have take:wpAny (model c.prog c.w) A.in1 (Builtin.Dict.takeOut d key) (fun (old:Option DictEntry) s'=>Q (old.elim dflt (·.val)) s') E s :=
  takeOut_av G D hfz hf hk hu hnone fun v e h' es' n' t hd hv D' hs ht=>hsome v e.val h' es' n' t hd hv D' hs ht
 have tail:∀ (old:Option DictEntry) s',Q (old.elim dflt (·.val)) s'->wpAny (model c.prog c.w) A.in1 (do
   if old.isNone then Builtin.Dict.missedRemoval d key
   match old,some dflt with
   | some e,_=>letGo [e.key] [e.val]; ret e.val
   | none,some x=>rule "dict.pop.default"; ret x
   | none,none=>rule "dict.pop.keyerror"; raiseNew (← newExc (.type "KeyError") [key])) (fun fin s'=>∃ v,fin=.done (.ret v)/\Q v s') E s':=fun old s' ho=>by
  cases old with
  | none=>exact wpAny_bind (wpAny_missedRemoval_other D.low (wpAny_bind (wpAny_rule (wpAny_pure ⟨dflt,rfl,ho⟩))))
  | some e=>exact wpAny_bind (wpAny_letGo (wpAny_pure ⟨e.val,rfl,ho⟩))
 show wpAny _ _ (if (keyPart key).isSome=true then _ else _) _ _ s
 by_cases hp:(keyPart key).isSome=true
 ·rw [if_pos hp]
  exact wpAny_bind (wpAny_pure (wpAny_bind (wpAny_mono take (fun o s' h=>tail o s' h) fun _ _ e=>e)))
 ·rw [if_neg hp]
  refine wpAny_bind (wpAny_dictEntries D.at_ rfl (wpAny_bind (wpAny_pure ?_)))
  show wpAny _ _ (if es.isEmpty=true then _ else _) _ _ s
  by_cases he:es.isEmpty=true
  ·rw [if_pos he]
   have hl:l=[]:=List.length_eq_zero_iff.mp (D.size▸Array.isEmpty_iff_size_eq_zero.mp he)
   exact wpAny_bind (wpAny_rule (wpAny_bind (wpAny_pure (tail none _ (hnone s.toks (hl▸rfl) (Nat.le_refl _))))))
  ·rw [if_neg he]
   exact wpAny_bind (wpAny_mono take (fun o s' h=>tail o s' h) fun _ _ e=>e)
end
end
end Mine.Internal
namespace Mine.Internal
open PySem PySem.W PySem.Calls PyProof.Rows
section
variable {c:Cx} {P:Pg} {M:Ms} {m:Mp} {A:Around} {E:Value->Shared->Prop} {s:Shared} {f:Fm} {fr:FrA} {J:AH}
theorem St.dic (G:Gd c P M) (St:St c f fr m J s) {i:Nat} {l:List (AV×AV)} (e:lk J.ob i=some (.dic l)) {Z:Prop} (k:∀ es n,DicAt c m s.heap (m.ρ i) l es n->Z):Z :=
 (St.obj _ _ e).2.dicK fun es n h1 h2 h3 h4 h5=>k es n ⟨h1,h2,h3,h4,h5,beq_eq_false_iff_ne.mpr (Nat.ne_of_gt (Nat.lt_of_lt_of_le G.modules (St.lowR _ _ e))),St.fzh⟩
theorem St.fzR (St:St c f fr m J s) {i:Nat} {o:AO} (e:lk J.ob i=some o):m.fz (m.ρ i)=none:=by
 cases h:m.fz (m.ρ i) with
 | none=>rfl
 | some o'=>exact nomatch (St.tF _ _ h).symm.trans (St.tO _ _ e)
theorem St.lst (St:St c f fr m J s) {i:Nat} {l:List AV} (e:lk J.ob i=some (.lst l)) {Z:Prop} (k:∀ vs n,s.heap.get? (m.ρ i)=some (lstObj vs n)->VRs c m l vs.toList->l.length<=1000->Z):Z:=(St.obj _ _ e).2.lstK k
noncomputable def skeys (l:List (Nat×AV)):List (AV×AV):=l.map fun p=>(.str p.1,p.2)
theorem DRs.rows:∀ {l:List (Nat×AV)} {es:List DictEntry},DRs c m l es->KRs c m (skeys l) es
 | [],_,D=>D
 | p::l,_,D=>D.consK (D:=KRs c m (skeys (p::l))) fun _ _ h ht hh hv hr=>.cons ⟨ht.imp fun _ q=>⟨q,h⟩,hh,hv⟩ (DRs.rows hr)
theorem strKeys_kind (l:List (Nat×AV)):∃ κ,∀ p∈skeys l,kindIs κ p.1:=⟨.s,fun p hp=>(List.mem_map.mp hp).elim fun q h=>h.2▸⟨_,rfl⟩⟩
theorem strKeys_nodup {l:List (Nat×AV)} (h:(l.map (·.1)).Nodup):((skeys l).map (·.1)).Nodup:=by
 have:(skeys l).map (·.1)=(l.map (·.1)).map AV.str:=by rw [skeys,List.map_map,List.map_map]; rfl
 rw [this]
 exact List.pairwise_map.mpr (h.imp fun q e=>q (by injection e))
theorem DicAt.frozen {a:Addr} {es:Array DictEntry} {n:Nat} {l:List (Nat×AV)} (hz:∀ a o,m.fz a=some o->s.heap.get? a=some o) (h:m.fz a=some (dicObj es n)) (hm:(a==sysModules)=false) (D:DRs c m l es.toList) (hn:(l.map (·.1)).Nodup) (hl:l.length<=1000) :
  DicAt c m s.heap a (skeys l) es n:=⟨hz _ _ h,D.rows,strKeys_kind l,strKeys_nodup hn,(List.length_map ..).symm▸hl,hm,hz⟩
theorem dget_str (k:Nat):∀ l:List (Nat×AV),dget (.str k) (skeys l)=lk l k
 | []=>rfl
 | p::l=>by
  show cond (Nat.beq p.1 k) _ _=(match Nat.beq p.1 k with | true=>_ | false=>_)
  cases Nat.beq p.1 k with
  | true=>rfl
  | false=>exact dget_str k l
theorem kfit_str (k:Nat):∀ l:List (Nat×AV),kfit (.str k) (skeys l)=true
 | []=>rfl
 | _::_=>rfl
noncomputable def kvs (c:Cx):List (Nat×AV)->List DictEntry->List (Str×Value)
 | [],_=>[]
 | p::l,r=>match r with
  | []=>[]
  | e::es=>(c.wd p.1,e.val)::kvs c l es
structure Prs (c:Cx) (l:List (Nat×AV)) (es:List DictEntry):Prop where
 pairs:Pairs (strKind c.prog c.w) es (kvs c l es)
 keys:∀ e∈es,∃ k,(strKind c.prog c.w).is k e.key=true/\e.hash=(strKind c.prog c.w).hash k
 names:(kvs c l es).map (·.1)=l.map (fun p=>c.wd p.1)
 len:(kvs c l es).length=l.length
theorem DRs.pairs (G:Gd c P M):∀ {l:List (Nat×AV)} {es:List DictEntry},DRs c m l es->Prs c l es:=by
 intro l
 induction l with
 | nil =>
  intro _ D
  exact D.nilK (D:=Prs c []) ⟨.nil,fun _ h=>(nomatch h),rfl,rfl⟩
 | cons p l ih =>
  intro _ D
  exact D.consK (D:=Prs c (p::l)) fun e r h ht hh _ hr =>
   have q:=ih hr
   have y:(strKind c.prog c.w).is (c.wd p.1) e.key=true:=(is_str (m:=m) (j:=.str p.1) G h (ht.imp fun _ q=>⟨q,h⟩)).trans (Nat.beq_refl p.1)
   ⟨.cons y rfl q.pairs,fun e' he=>(List.mem_cons.mp he).elim (fun z=>z▸⟨c.wd p.1,y,hh⟩) (q.keys e'),congrArg (c.wd p.1::·) q.names,congrArg (·+1) q.len⟩
theorem wd_nodup (G:Gd c P M) {l:List (Nat×AV)} (hl:∀ p∈l,p.1 < c.nw) (hn:(l.map (·.1)).Nodup):(l.map fun p=>c.wd p.1).Nodup:=by
 have:(l.map fun p=>c.wd p.1)=(l.map (·.1)).map c.wd:=(List.map_map ..).symm
 rw [this]
 exact List.pairwise_map.mpr (List.Pairwise.imp_of_mem (fun ha hb q e=>q ((List.mem_map.mp ha).elim fun p hp=>(List.mem_map.mp hb).elim fun p' hp'=>G.inj _ _ (hp.2▸hl _ hp.1) (hp'.2▸hl _ hp'.1) e)) hn)
theorem DRs.dictOf (G:Gd c P M) {a:Addr} {es:Array DictEntry} {n:Nat} {l:List (Nat×AV)} (h:s.heap.get? a=some (dicObj es n)) (D:DRs c m l es.toList) (hn:(l.map (·.1)).Nodup):s.heap.DictOf (strKind c.prog c.w) a (kvs c l es.toList) :=
 have q:=D.pairs G
 ⟨_,es,n,h,⟨rfl,rfl,rfl⟩,rfl,fun e he=>q.keys e (Array.mem_toList_iff.mpr he),q.pairs,q.names▸wd_nodup G D.lt hn⟩
theorem DRs.valueAt (G:Gd c P M) {k:Nat} (hk:k < c.nw):∀ {l:List (Nat×AV)} {es:List DictEntry},DRs c m l es->VRo c m (lk l k) (PySem.valueAt (kvs c l es) (c.wd k)):=by
 intro l
 induction l with
 | nil =>
  intro _ _
  exact rfl
 | cons jv l ih =>
  obtain ⟨j,v⟩:=jv
  intro _ D
  exact D.consK (D:=fun es=>VRo c m (lk ((j,v)::l) k) (PySem.valueAt (kvs c ((j,v)::l) es) (c.wd k))) fun e r h _ _ hv hr=>by
   have ih:=ih hr
   have q':decide ((c.wd j,e.val).1=c.wd k)=Nat.beq j k:=(wd_eq G h hk)▸rfl
   unfold PySem.valueAt at ih ⊢
   show VRo c m _ (Option.map _ (List.find? _ ((c.wd j,e.val)::kvs c l r)))
   rw [lk_at,List.find?_cons,q']
   cases Nat.beq j k with
   | true=>exact ⟨_,rfl,hv⟩
   | false=>exact ih
theorem units_le {n k:Nat} {x:Nat} (h:n+k < x) {j:Nat} (hj:j<=k):n+j < x:=Nat.lt_of_le_of_lt (Nat.add_le_add_left hj _) h
section
variable {A:Around} {x y:AV} {v w:Value} (G:Gd c P M) (hz:∀ a o,m.fz a=some o->s.heap.get? a=some o) (hu:A.units+100 < cLine) (hx:dat x=true) (hy:dat y=true) (vx:VR c m x v) (vy:VR c m y w)
include G hz hu hx hy vx vy
theorem two_data {Z:Prop} (k:∀ as bs,Reads s.heap v (pd c x) as->Reads s.heap w (pd c y) bs->(pd c x).canLay0=true->(pd c y).canLay0=true->A.units+min (pd c x).depth (pd c y).depth < cLine->PyData.eqv (pd c x) (pd c y)=eqB x y->Z):Z :=
 have lx:=vx.lay G.sok hz hx
 have ly:=vy.lay G.sok hz hy
 lx.reads.elim fun as ra=>ly.reads.elim fun bs rb=>k as bs ra rb lx.lay ly.lay (units_le hu (ltr (Nat.min_le_left _ _) (ltr lx.deep (by decide:8<=100)))) (eqv_pd G lx.dat ly.dat)
theorem eqAt_av:SeqAt.EqAt A s v w (eqB x y):=two_data G hz hu hx hy vx vy fun _ _ ra rb l1 l2 d e=>e▸SeqAt.eqAt_reads _ _ _ _ _ _ _ _ ra rb l1 l2 d
theorem compareEq_av {Q:Value->Shared->Prop} (h:Q (.bool (eqB x y)) s):wpAny (model c.prog c.w) A (compareOp .Eq v w) Q E s:=two_data G hz hu hx hy vx vy fun _ _ ra rb l1 l2 d e=>SeqAt.compareEq_reads ra rb l1 l2 d (e.symm▸h)
theorem compareNe_av {Q:Value->Shared->Prop} (h:Q (.bool (!eqB x y)) s):wpAny (model c.prog c.w) A (compareOp .NotEq v w) Q E s:=two_data G hz hu hx hy vx vy fun _ _ ra rb l1 l2 d e=>SeqAt.compareNe_reads ra rb l1 l2 d (e.symm▸h)
end
theorem eqd_hits (G:Gd c P M) {A:Around} (hz:∀ a o,m.fz a=some o->s.heap.get? a=some o) (hu:A.units+100 < cLine) {b:List (Nat×AV)} {eb:List DictEntry} (Db:DRs c m b eb) :
  ∀ {a:List (Nat×AV)} {ea:List DictEntry} {r:Bool},DRs c m a ea->eqd a b=some r->KeqHits A s (kvs c b eb) (kvs c a ea) r:=by
 intro a
 induction a with
 | nil =>
  intro _ r _ h
  exact someK (Y:=KeqHits A s (kvs c b eb) []) h .nil
 | cons jv a ih =>
  obtain ⟨k,x⟩:=jv
  intro _ r D h
  exact D.consK (D:=fun ea=>KeqHits A s (kvs c b eb) (kvs c ((k,x)::a) ea) r) fun e es hk _ _ hv q=>by
   unfold eqd at h
   have V:=Db.valueAt G hk
   cases h1:lk b k with
   | none=>rw [h1] at h V; exact someK (Y:=KeqHits A s (kvs c b eb) _) h (.miss V)
   | some y =>
    rw [h1] at h V
    exact V.elim fun w V=>chkK h fun h4 h=>andK h4 fun h4 h5=>mapK (Y:=KeqHits A s (kvs c b eb) _) h fun z h6=>.hit V.1 (eqAt_av G hz hu h4 h5 hv V.2) (ih q h6)
theorem eqv_cases {x y:AV} {r:Bool} {Z:AV->AV->Bool->Prop} (h:eqv x y=some r) (k0:dat x=true->dat y=true->Z x y (eqB x y)) (k1:∀ a b,(a.length=b.length->eqd a b=some r)->((a.length==b.length)=false->r=false)->Z (.dct a) (.dct b) r):Z x y r:=by
 unfold eqv at h
 cases q:dat x&&dat y with
 | true=>rw [q] at h; exact andK q fun q1 q2=>someK h (k0 q1 q2)
 | false =>
  rw [q] at h
  exact bindK h fun a h1 h=>bindK h fun b h2 h=>AV.d?S h1▸AV.d?S h2▸condK h (fun e h=>k1 a b (fun _=>h) fun q=>nomatch e.symm.trans q) fun e h=>k1 a b (fun q=>absurd q (beq_eq_false_iff_ne.mp e)) fun _=>(Option.some.inj h).symm
section
variable (G:Gd c P M) {x y:AV} {v w:Value} {r:Bool} {Q:Value->Shared->Prop} (hz:∀ a o,m.fz a=some o->s.heap.get? a=some o) (hu:A.units+101 < cLine) (vx:VR c m x v) (vy:VR c m y w) (he:eqv x y=some r)
include G hz hu vx vy he
theorem eqv_eq (h:Q (.bool r) s):wpAny (model c.prog c.w) A (compareOp .Eq v w) Q E s :=
 eqv_cases (Z:=fun x y r=>VR c m x v->VR c m y w->Q (.bool r) s->wpAny (model c.prog c.w) A (compareOp .Eq v w) Q E s) he (fun h1 h2 vx vy h=>compareEq_av G hz (Nat.lt_of_succ_lt hu) h1 h2 vx vy h)
  (fun a b h1 h2 vx vy h=>vx.dctK (Y:=fun v=>wpAny (model c.prog c.w) A (compareOp .Eq v w) Q E s) fun A1 es n f1 m1 D1 n1 _=>vy.dctK (Y:=fun w=>wpAny (model c.prog c.w) A (compareOp .Eq (.ref A1) w) Q E s) fun A2 es2 n2 f2 m2 D2 n2 _ =>
   have z1:=(D1.pairs G).len
   have z2:=(D2.pairs G).len
   keq_eq (r:=r) m1 m2 (D1.dictOf G (hz _ _ f1) n1) (D2.dictOf G (hz _ _ f2) n2) (units_le (j:=0) hu (by decide)) (fun q=>eqd_hits G hz hu D2 D1 (h1 (z1.symm.trans (q.trans z2)))) (by
    rw [z1,z2]
    cases e:a.length==b.length with
    | true=>exact h
    | false=>show Q (.bool false) s; exact h2 e▸h)) vx vy h
theorem eqv_ne (h:Q (.bool (!r)) s):wpAny (model c.prog c.w) A (compareOp .NotEq v w) Q E s :=
 eqv_cases (Z:=fun x y r=>VR c m x v->VR c m y w->Q (.bool (!r)) s->wpAny (model c.prog c.w) A (compareOp .NotEq v w) Q E s) he (fun h1 h2 vx vy h=>compareNe_av G hz (Nat.lt_of_succ_lt hu) h1 h2 vx vy h)
  (fun a b h1 h2 vx vy h=>vx.dctK (Y:=fun v=>wpAny (model c.prog c.w) A (compareOp .NotEq v w) Q E s) fun A1 es n f1 m1 D1 n1 _=>vy.dctK (Y:=fun w=>wpAny (model c.prog c.w) A (compareOp .NotEq (.ref A1) w) Q E s) fun A2 es2 n2 f2 m2 D2 n2 _ =>
   have z1:=(D1.pairs G).len
   have z2:=(D2.pairs G).len
   keq_ne (r:=r) m1 m2 (D1.dictOf G (hz _ _ f1) n1) (D2.dictOf G (hz _ _ f2) n2) (units_le (j:=0) hu (by decide)) (fun q=>eqd_hits G hz hu D2 D1 (h1 (z1.symm.trans (q.trans z2)))) (by
    rw [z1,z2]
    cases e:a.length==b.length with
    | true=>exact h
    | false=>show Q (.bool (!false)) s; exact h2 e▸h)) vx vy h
end
theorem lst_reads (G:Gd c P M) {a:Addr} {vs:Array Value} {n:Nat} {l:List AV} (hz:∀ a o,m.fz a=some o->s.heap.get? a=some o) (h:s.heap.get? a=some (lstObj vs n)) (V:VRs c m l vs.toList) (hd:l.all dat=true) {Z:Prop}
  (k:∀ as,Reads s.heap (.ref a) (.list (pds c l)) as->(PyData.list (pds c l)).canLay0=true->(PyData.list (pds c l)).depth<=9->Dats c l->Z):Z :=
 have q:=VRs.lay G.sok hz hd V
 q.reads.elim fun as ra=>k _ (.list h rfl rfl ra) q.lay (Nat.succ_le_succ q.deep) q.dat
end
end Mine.Internal
namespace Mine.Internal
open PySem PySem.W PySem.Calls PyProof.Rows
section
variable {c:Cx} {P:Pg} {M:Ms} {m:Mp} {A:Around} {E:Value->Shared->Prop} {s:Shared} {f:Fm} {fr:FrA} {J:AH}
theorem dict_ne_declines_none (a:Addr) {es:Array DictEntry} {n:Nat} (h:s.heap.get? a=some (dicObj es n)) {Q:Value->Shared->Prop} (q:Q .notImplemented s) :
  wpAny (model c.prog c.w) A (call (.builtin "dict.__ne__") [.ref a,.none]) Q E s:=by
 refine wpAny_call_entry PySem.F.slot_dict_ne ⟨_,h,rfl⟩ PySem.F.entry_dict_ne ?_ (PySem.F.args_dict_ne_2 _ _)
 show wpAny _ _ (Builtin.Dict.dictSlotArgs "__ne__" ⟨[.ref a,.none],[]⟩ >>= _) _ _ s
 refine wpAny_bind ?_
 unfold Builtin.Dict.dictSlotArgs
 refine wpAny_bind (wpAny_notOrdered_dict ⟨_,h,rfl⟩ ?_)
 show wpAny _ _ (pure (Value.ref a,Value.none)) _ _ s
 refine wpAny_pure ?_
 refine wpAny_bind (wpAny_isInstance (T:="NoneType") rfl PySem.F.sub_NoneType_dict ?_)
 show wpAny _ _ (rule _ >>= fun _=>ret Value.notImplemented) _ _ s
 exact wpAny_bind (wpAny_rule (wpAny_pure ⟨_,rfl,q⟩))
theorem ne_none_dict (a:Addr) {es:Array DictEntry} {n:Nat} (h:s.heap.get? a=some (dicObj es n)) {Q:Value->Shared->Prop} (hu:A.units < cLine) (q:Q (.bool true) s) :
  wpAny (model c.prog c.w) A (compareOp .NotEq .none (.ref a)) Q E s:=by
 show wpAny _ _ (richCompare .NotEq .none (.ref a)) Q E s
 exact SeqAt.rc_ne_decline_or (k:=false) rfl ⟨_,h,rfl⟩ (by decide) PySem.F.sub_dict_NoneType PySem.F.slot_NoneType_ne PySem.F.slot_dict_ne_refl
  (fun _ hq=>call_gives PySem.F.slot_NoneType_ne rfl PySem.F.entry_NoneType_ne (PySem.F.args_NoneType_ne_2 _ _) (SeqAt.NoneType___ne___none_ref_0 a) hq)
  (fun _ hq=>dict_ne_declines_none a h hq)
  (fun _ hq=>wpAny_of_eq (rfl:isSame .none (.ref a)=pure false) hq) (.inr hu) q
section
variable {x:AV} {v w:Value} {l:List AV} {b neg:Bool} {Q:Value->Shared->Prop} (G:Gd c P M) (hz:∀ a o,m.fz a=some o->s.heap.get? a=some o) (hu:A.units+100 < cLine) (vx:VR c m x v) (hi:inv x l=some b) (q:Q (.bool (cond neg (!b) b)) s)
theorem pds_any (G:Gd c P M) (vx:Dat c x):∀ {l:List AV},Dats c l->((pds c l).any fun y=>PyData.eqv y (pd c x))=l.any fun y=>eqB y x
 | [],_=>rfl
 | _::_,v=>congr (congrArg or (eqv_pd G v.1 vx)) (pds_any G vx v.2)
include G hz hu vx hi
theorem in_facts {vs:List Value} (V:VRs c m l vs) {Z:Prop} (k:∀ as bs,ReadsAll s.heap vs (pds c l) as->Reads s.heap v (pd c x) bs->PyData.canLayAll0 (pds c l)=true->(pd c x).canLay0=true->A.units+1+min (PyData.depthAll (pds c l)) (pd c x).depth < cLine->((pds c l).any fun y=>PyData.eqv y (pd c x))=b->Z):Z :=
 chkK hi fun h hb=>andK h fun h1 h2 =>
  have lx:=vx.lay G.sok hz h1
  have ll:=VRs.lay G.sok hz h2 V
  lx.reads.elim fun bs rb=>ll.reads.elim fun as ra=>k as bs ra rb ll.lay lx.lay (Nat.lt_of_le_of_lt (Nat.add_le_add_left (ltr (Nat.min_le_left _ _) (ltr ll.deep (by decide:8<=99))) _) hu) ((pds_any G lx.dat ll.dat).trans (Option.some.inj hb))
include q
theorem in_list_av {a:Addr} {vs:Array Value} {n:Nat} (h:s.heap.get? a=some (lstObj vs n)) (V:VRs c m l vs.toList):wpAny (model c.prog c.w) A (compareOp (cond neg .NotIn .In) v (.ref a)) Q E s :=
 in_facts G hz hu vx hi V fun _ _ ra rb l2 y1 hu' e=>match neg,e▸q with
  | false,q=>SeqAt.in_list_reads (.list h rfl rfl ra) rb l2 y1 hu' q
  | true,q=>SeqAt.notIn_list_reads (.list h rfl rfl ra) rb l2 y1 hu' q
theorem in_tup_av (V:VR c m (.tup l) w):wpAny (model c.prog c.w) A (compareOp (cond neg .NotIn .In) v w) Q E s :=
 V.tupK (Y:=fun w=>wpAny (model c.prog c.w) A (compareOp (cond neg .NotIn .In) v w) Q E s) fun _ _ _ h V=>in_facts G hz hu vx hi V fun _ _ ra rb l2 y1 hu' e=>match neg,e▸q with
  | false,q=>SeqAt.in_tuple_reads (.tuple (hz _ _ h) rfl rfl ra) rb l2 y1 hu' q
  | true,q=>SeqAt.notIn_tuple_reads (.tuple (hz _ _ h) rfl rfl ra) rb l2 y1 hu' q
end
theorem in_dic_av (G:Gd c P M) {k:AV} {v:Value} {a:Addr} {l:List (AV×AV)} {es:Array DictEntry} {n:Nat} {neg:Bool} {Q:Value->Shared->Prop} (D:DicAt c m s.heap a l es n) (hu:A.units+101 < cLine) (hf:kfit k l=true) (hk:VR c m k v)
  (q:∀ t,s.toks<=t->Q (.bool (cond neg (!(dget k l).isSome) (dget k l).isSome)) { s with toks:=t }):wpAny (model c.prog c.w) A (compareOp (cond neg .NotIn .In) v (.ref a)) Q E s :=
 match neg,q with
 | false,q=>by
  show wpAny _ _ (do return Value.bool (← contains (.ref a) v)) _ _ _
  exact wpAny_bind (contains_av G D hu hf hk fun t ht=>wpAny_pure (q t ht))
 | true,q=>by
  show wpAny _ _ (do return Value.bool (!(← contains (.ref a) v))) _ _ _
  exact wpAny_bind (contains_av G D hu hf hk fun t ht=>wpAny_pure (q t ht))
section
variable (G:Gd c P M) (St:St c f fr m J s) {x y:AV} {v w:Value} {b neg:Bool} {Q:Value->Shared->Prop} (hu:A.units+101 < cLine)
include G St hu
theorem mem_av (vx:VR c m x v) (vy:VR c m y w) (h:cmpv.mem J x y=some b) (q:∀ t,s.toks<=t->Q (.bool (cond neg (!b) b)) { s with toks:=t }):wpAny (model c.prog c.w) A (compareOp (cond neg .NotIn .In) v w) Q E s :=
 have hu':=Nat.lt_of_succ_lt hu
 match y,vy,h with
 | .none,_,h=>nomatch h
 | .bool _,_,h=>nomatch h
 | .int _,_,h=>nomatch h
 | .str _,_,h=>nomatch h
 | .tup l,vy,h=>in_tup_av G St.fzh hu' vx h (q s.toks (Nat.le_refl _)) vy
 | .dct l,vy,h=>mapsK h fun k h1 h=>vy.dctK (Y:=fun w=>wpAny (model c.prog c.w) A (compareOp (cond neg .NotIn .In) v w) Q E s) fun _ _ _ f1 m1 D1 n1 n2 =>
   in_dic_av G (DicAt.frozen St.fzh f1 m1 D1 n1 n2) hu (kfit_str _ _) (AV.s?S h1▸vx) fun t ht=>(dget_str k l).symm▸h▸q t ht
 | .ref i,vy,h=>bindK h fun o h1 h=>vy.refK (Y:=fun w=>wpAny (model c.prog c.w) A (compareOp (cond neg .NotIn .In) v w) Q E s) fun _=>match o,h1,h with
  | .lst l,h1,h=>St.lst h1 fun _ _ h2 V _=>in_list_av G St.fzh hu' vx h (q s.toks (Nat.le_refl _)) h2 V
  | .dic l,h1,h=>chkK h fun hf h=>St.dic G h1 fun _ _ D=>in_dic_av G D hu hf vx fun t ht=>Option.some.inj h▸q t ht
  | .ins _ _,_,h=>nomatch h
theorem lsts_av {i j:Nat} (h:cmpv.lsts J i j=some b) (q:Q (.bool (cond neg (!b) b)) s):wpAny (model c.prog c.w) A (compareOp (cond neg .NotEq .Eq) (.ref (m.ρ i)) (.ref (m.ρ j))) Q E s :=
 bindK h fun x e1 h=>bindK h fun y e2 h=>chkK h fun d h=>andK d fun dx dy=>bindK e1 fun o h1 e1=>bindK e2 fun o' h2 e2 =>
  St.lst (AO.l?S e1▸h1) fun _ _ g1 V1 _=>St.lst (AO.l?S e2▸h2) fun _ _ g2 V2 _=>lst_reads G St.fzh g1 V1 dx fun as ra l1 l4 d1=>lst_reads G St.fzh g2 V2 dy fun bs rb k1 _ d2 =>
   have e:PyData.eqv (.list (pds c x)) (.list (pds c y))=eqBs x y:=eqvs_pds G d1 d2
   have hu':A.units+min (PyData.list (pds c x)).depth (PyData.list (pds c y)).depth < cLine:=units_le hu (ltr (Nat.min_le_left _ _) (ltr l4 (by decide:9<=101)))
   match neg,q with
   | false,q=>SeqAt.compareEq_reads ra rb l1 k1 hu' (e.trans (Option.some.inj h)▸q)
   | true,q=>SeqAt.compareNe_reads ra rb l1 k1 hu' (e.trans (Option.some.inj h)▸q)
end
theorem isNone_vr {x:AV} {v:Value} (h:VR c m x v):(v==Value.none)=x.isN :=
 match x,h with
 | .none,h=>h.noneK (Y:=fun v=>(v==Value.none)=true) rfl
 | .bool _,h=>h.boolK (Y:=fun v=>(v==Value.none)=false) rfl
 | .int _,h=>h.intK (Y:=fun v=>(v==Value.none)=false) fun _=>rfl
 | .str _,h=>h.strK (Y:=fun v=>(v==Value.none)=false) fun _ _=>rfl
 | .tup _,h=>h.tupK (Y:=fun v=>(v==Value.none)=false) fun _ _ _ _ _=>rfl
 | .dct _,h=>h.dctK (Y:=fun v=>(v==Value.none)=false) fun _ _ _ _ _ _ _ _=>rfl
 | .ref _,h=>h.refK (Y:=fun v=>(v==Value.none)=false) fun _=>rfl
theorem isNone_w {y:AV} {w:Value} (vy:VR c m y w) (hn:y.isN=true):w=.none:=eq_of_beq ((isNone_vr vy).trans hn)
theorem eqH_some {h:AH} {a b:AV} {r:Bool} {Y:AV->AV->Prop} (e:eqH h a b=some r) (k0:∀ i j,cmpv.lsts h i j=some r->Y (.ref i) (.ref j)) (k1:eqv a b=some r->Y a b):Y a b:=by
 unfold eqH at e
 cases q:a.r?.bind fun i=>b.r?.map fun j=>(i,j) with
 | none=>rw [q] at e; exact k1 e
 | some p=>rw [q] at e; exact bindK q fun i q1 q=>mapsK q fun j q2 q=>AV.r?S q1▸AV.r?S q2▸k0 i j (by subst q; exact e)
theorem not_lt (a b:Int):(!decide (a < b))=decide (b<=a):=by
 by_cases z:a < b
 ·rw [decide_eq_true z,decide_eq_false (Int.not_le.mpr z)]; rfl
 ·rw [decide_eq_false z,decide_eq_true (Int.not_lt.mp z)]; rfl
theorem VR.ofI {a:AV} {x:Int} {v:Value} {Y:Value->Prop} (V:VR c m a v) (h:a.i?=some x) (k:∀ t,Y (.int x t)):Y v:=(AV.i?S h▸V:VR c m (.int x) v).intK k
theorem VR.ofR {a:AV} {x:Nat} {v:Value} {Y:Value->Prop} (V:VR c m a v) (h:a.r?=some x) (k:x < m.n->Y (.ref (m.ρ x))):Y v:=(AV.r?S h▸V:VR c m (.ref x) v).refK k
theorem VR.ofB {a:AV} {x:Bool} {v:Value} {Y:Value->Prop} (V:VR c m a v) (h:a.b?=some x) (k:Y (.bool x)):Y v:=(AV.b?S h▸V:VR c m (.bool x) v).boolK k
theorem VR.ofT {a:AV} {x:List AV} {v:Value} {Y:Value->Prop} (V:VR c m a v) (h:a.t?=some x) (k:∀ a vs j,m.fz a=some (tupObj vs j)->VRs c m x vs.toList->Y (.ref a)):Y v:=(AV.t?S h▸V:VR c m (.tup x) v).tupK k
theorem lti_some {a b:AV} {r:Bool} {v w:Value} {Y:Value->Value->Bool->Prop} (e:lti a b=some r) (V:VR c m a v) (W:VR c m b w) (k:∀ x y t u,Y (.int x t) (.int y u) (decide (x < y))):Y v w r :=
 bindK e fun x e1 e=>mapK (Y:=Y v w) e fun y e2=>V.ofI (Y:=fun v=>Y v w _) e1 fun t=>W.ofI (Y:=fun w=>Y _ w _) e2 fun u=>k x y t u
theorem cmp_av (G:Gd c P M) (St:St c f fr m J s) {x y:AV} {v w:Value} {b:Bool} {o:CmpOp} {o':Co} {Q:Value->Shared->Prop} (ho:coOf o=some o') (hu:A.units+101 < cLine) (vx:VR c m x v) (vy:VR c m y w) (h:cmpv J x o' y=some b)
  (q:∀ t,s.toks<=t->Q (.bool b) { s with toks:=t }):wpAny (model c.prog c.w) A (compareOp o v w) Q E s:=by
 have q0:Q (.bool b) s:=q s.toks (Nat.le_refl _)
 have hu0:A.units < cLine:=units_le (j:=0) hu (by decide)
 cases o with
 | Eq =>
  cases ho
  exact eqH_some (Y:=fun x y=>VR c m x v->VR c m y w->wpAny (model c.prog c.w) A (compareOp .Eq v w) Q E s) h (fun i j h vx vy=>vx.refK (Y:=fun v=>wpAny (model c.prog c.w) A (compareOp .Eq v w) Q E s) fun _=>vy.refK (Y:=fun w=>wpAny (model c.prog c.w) A (compareOp .Eq (.ref (m.ρ i)) w) Q E s) fun _=>lsts_av (neg:=false) G St hu h q0)
   (fun h vx vy=>eqv_eq G St.fzh hu vx vy h q0) vx vy
 | NotEq =>
  cases ho
  exact condK h (fun e h=>andK e fun e1 e2=>by
   cases isNone_w vx e1
   obtain ⟨l,e2⟩:=Option.isSome_iff_exists.mp e2
   exact (AV.d?S e2▸vy:VR c m (.dct l) w).dctK (Y:=fun w=>wpAny (model c.prog c.w) A (compareOp .NotEq .none w) Q E s) fun _ _ _ f1 _ _ _ _=>ne_none_dict _ (St.fzh _ _ f1) hu0 (Option.some.inj h▸q0)) fun _ h=>mapsK h fun r h e =>
   eqH_some (Y:=fun x y=>VR c m x v->VR c m y w->wpAny (model c.prog c.w) A (compareOp .NotEq v w) Q E s) h (fun i j h vx vy=>vx.refK (Y:=fun v=>wpAny (model c.prog c.w) A (compareOp .NotEq v w) Q E s) fun _=>vy.refK (Y:=fun w=>wpAny (model c.prog c.w) A (compareOp .NotEq (.ref (m.ρ i)) w) Q E s) fun _=>lsts_av (neg:=true) G St hu h (e▸q0))
    (fun h vx vy=>eqv_ne G St.fzh hu vx vy h (e▸q0)) vx vy
 | Lt=>cases ho; exact lti_some (Y:=fun v w b=>Q (.bool b) s->wpAny (model c.prog c.w) A (compareOp .Lt v w) Q E s) h vx vy (fun _ _ _ _ q0=>wpAny_lt_int q0) q0
 | LtE=>cases ho; exact mapsK h fun r h e=>lti_some (Y:=fun w v r=>Q (.bool (!r)) s->wpAny (model c.prog c.w) A (compareOp .LtE v w) Q E s) h vy vx (fun _ _ _ _ q0=>le_int (not_lt _ _▸q0)) (e▸q0)
 | Gt=>cases ho; exact lti_some (Y:=fun w v b=>Q (.bool b) s->wpAny (model c.prog c.w) A (compareOp .Gt v w) Q E s) h vy vx (fun _ _ _ _ q0=>gt_int q0) q0
 | GtE=>exact nomatch ho
 | Is =>
  cases ho
  exact chkK h fun hn h=>by
   cases isNone_w vy hn
   exact is_none ((isNone_vr vx).symm▸Option.some.inj h▸q0)
 | IsNot =>
  cases ho
  exact chkK h fun hn h=>by
   cases isNone_w vy hn
   exact isNot_none ((isNone_vr vx).symm▸Option.some.inj h▸q0)
 | In=>cases ho; exact mem_av (neg:=false) G St hu vx vy h q
 | NotIn=>cases ho; exact mapsK h fun r h e=>mem_av (neg:=true) G St hu vx vy h (e▸q)
end
end Mine.Internal
namespace Mine.Internal
open PySem PySem.W PySem.Calls PyProof.Rows
variable {c:Cx} {P:Pg} {M:Ms} {r:Ev} {N:Nat} {f:Fm} {A:Around} {fr:FrA} {J J':AH} {m:Mp} {s:Shared}
theorem Room.u (R:Room A N):A.units+101 < cLine:=Nat.lt_of_le_of_lt (Nat.add_le_add_left (ltr (by decide) (Nat.le_add_left 1000 _)) _) (Nat.add_assoc ..▸R.units)
theorem e2K {β:Type} {x y:X} {g:AV->AV->AH->Option β} {b:β} {Z:Prop} (h:e2 r fr J x y g=some b) (k:∀ a d Ja Jb,r.e fr J x=some (a,Ja)->r.e fr Ja y=some (d,Jb)->g a d Jb=some b->Z):Z :=
 bind2K h fun a Ja h1 h=>bind2K h fun d Jb h2 h=>k a d Ja Jb h1 h2 h
section
variable (S:Sound c r N) (R:Room A N) (ok:f.Ok c)
include S R ok
theorem two_wp {ex ey:Expr} {x y:X} {a d:AV} {Ja:AH} (hx:TrE c f.kd ex x) (hy:TrE c f.kd ey y) (h1:r.e fr J x=some (a,Ja)) (h2:r.e fr Ja y=some (d,J')) {Q:Value->Value->Shared->Prop} (st:St c f fr m J s)
  (k:∀ m' s' w w',Ext f m J s m' J' s'->St c f fr m' J' s'->VR c m' a w->VR c m' d w'->Q w w' s'):wpAny (model c.prog c.w) A (eval ex f.env) (fun w=>wpAny (model c.prog c.w) A (eval ey f.env) (Q w) NoE) NoE s :=
 S.e R ok hx h1 _ _ _ st fun _ _ _ Xb St1 Vc=>S.e R ok hy h2 _ _ _ St1 fun _ _ _ Xc St2 Vd=>k _ _ _ _ (Xb.trans Xc) St2 (Xc.vr Vc) Vd
theorem s_cmp (G:Gd c P M) {e:Expr} {x y:X} {o:Co} {v:AV} (h:TrE c f.kd e (.cmp x o y)) (he:(e2 r fr J x y fun a b h=>(cmpv h a o b).map fun q=>(AV.bool q,h))=some (v,J')):WpE c f A (eval e f.env) fr J v J' :=
 e2K he fun _ _ _ Jb h1 h2 he=>map2K (Y:=WpE c f A (eval e f.env) fr J) he fun q hc=>h (fun e=>WpE c f A (eval e f.env) fr J (.bool q) Jb) fun _ _ _ _ ho hx hy hm _ _ _ St k =>
  wpAny_Compare1 (two_wp S R ok hx hy h1 h2 St fun _ _ _ _ X St Vc Vd=>cmp_av G St ho R.u Vc Vd hc fun _ ht=>k _ _ _ (X.trans (.tick ht)) (St.tick _) (.bool _)) hm
theorem t_cmp (G:Gd c P M) {e:Expr} {x y:X} {o:Co} {q:Bool} {whole:Sem Value} (h:TrE c f.kd e (.cmp x o y)) (he:(e2 r fr J x y fun a b h=>(cmpv h a o b).map fun q=>(q,h))=some (q,J')):WpT c f A (isTrue e f.env whole) fr J q J' :=
 e2K he fun _ _ _ Jb h1 h2 he=>map2K (Y:=WpT c f A (isTrue e f.env whole) fr J) he fun q hc=>h (fun e=>WpT c f A (isTrue e f.env whole) fr J q Jb) fun _ _ _ _ ho hx hy hm _ _ _ St k =>
  wpAny_isTrue_Compare1 (two_wp S R ok hx hy h1 h2 St fun _ _ _ _ X St Vc Vd=>cmp_av G St ho R.u Vc Vd hc fun _ ht=>wpAny_truthy_bool (k _ _ (X.trans (.tick ht)) (St.tick _))) hm
theorem t_not {e:Expr} {x:X} {b:Bool} {whole:Sem Value} (h:TrE c f.kd e (.not x)) (hx:(bind2 (r.t fr J x) fun b h=>some (!b,h))=some (b,J')):WpT c f A (isTrue e f.env whole) fr J b J' :=
 bind2K hx fun q Ja h1 h2=>some2K (Y:=WpT c f A (isTrue e f.env whole) fr J) h2 (h (fun e=>WpT c f A (isTrue e f.env whole) fr J (!q) Ja) fun _ _ hx' _ _ _ St k=>wpAny_isTrue_Not (S.t R ok hx' h1 _ _ _ St k))
theorem t_andt:∀ {l:List Expr} {xs:List X} {J:AH} {b:Bool},TrEs c f.kd l xs->andt r fr J xs=some (b,J')->WpT c f A (allTrue .And l f.env) fr J b J':=by
 intro l xs
 revert l
 induction xs with
 | nil=>exact fun {_ J b} ht h=>Eq.symm (show _=[] from ht)▸some2K (Y:=WpT c f A (allTrue .And [] f.env) fr J) h fun _ _ _ St k=>wpAny_allTrue_And_nil (k _ _ .refl St)
 | cons x xs ih=>exact fun {_ J b} ht h=>ht (fun l=>WpT c f A (allTrue .And l f.env) fr J b J') fun e l he hl=>bind2K h fun q Ja h1 h=>match q,h1,h with
   | true,h1,h=>fun _ _ _ St k=>wpAny_allTrue_And_cons (S.t R ok he h1 _ _ _ St fun _ _ Xb St1=>ih hl h _ _ _ St1 fun _ _ Xc St2=>k _ _ (Xb.trans Xc) St2)
   | false,h1,h=>some2K (Y:=WpT c f A (allTrue .And (e::l) f.env) fr J) h fun _ _ _ St k=>wpAny_allTrue_And_cons (S.t R ok he h1 _ _ _ St k)
theorem t_ort:∀ {l:List Expr} {xs:List X} {J:AH} {b:Bool},TrEs c f.kd l xs->ort r fr J xs=some (b,J')->WpT c f A (allTrue .Or l f.env) fr J b J':=by
 intro l xs
 revert l
 induction xs with
 | nil=>exact fun {_ J b} ht h=>Eq.symm (show _=[] from ht)▸some2K (Y:=WpT c f A (allTrue .Or [] f.env) fr J) h fun _ _ _ St k=>wpAny_allTrue_Or_nil (k _ _ .refl St)
 | cons x xs ih=>exact fun {_ J b} ht h=>ht (fun l=>WpT c f A (allTrue .Or l f.env) fr J b J') fun e l he hl=>bind2K h fun q Ja h1 h=>match q,h1,h with
   | false,h1,h=>fun _ _ _ St k=>wpAny_allTrue_Or_cons (S.t R ok he h1 _ _ _ St fun _ _ Xb St1=>ih hl h _ _ _ St1 fun _ _ Xc St2=>k _ _ (Xb.trans Xc) St2)
   | true,h1,h=>some2K (Y:=WpT c f A (allTrue .Or (e::l) f.env) fr J) h fun _ _ _ St k=>wpAny_allTrue_Or_cons (S.t R ok he h1 _ _ _ St k)
omit S R ok in
theorem not_bool {E Q:Value->Shared->Prop} {b:Bool} (k:Q (.bool (!b)) s):wpAny (model c.prog c.w) A (unaryOp .Not (.bool b)) Q E s:=by
 show wpAny _ _ (do return Value.bool (!(← truthy (.bool b)))) _ _ _
 exact wpAny_bind (wpAny_truthy_bool (wpAny_pure k))
theorem s_not {e:Expr} {x:X} {v:AV} (h:TrE c f.kd e (.not x)) (hx:(bind2 (r.e fr J x) fun v h=>v.b?.map fun b=>(AV.bool (!b),h))=some (v,J')):WpE c f A (eval e f.env) fr J v J' :=
 bind2K hx fun a Ja h1 h2=>map2K (Y:=WpE c f A (eval e f.env) fr J) h2 fun b hb=>h (fun e=>WpE c f A (eval e f.env) fr J (.bool (!b)) Ja) fun _ _ hx' _ _ _ St k =>
  wpAny_UnaryOp (S.e R ok hx' h1 _ _ _ St fun _ sd w Xb St1 Vc=>Vc.ofB (Y:=fun w=>wpAny (model c.prog c.w) A (unaryOp .Not w) _ NoE sd) hb (not_bool (k _ _ _ Xb St1 (.bool _))))
theorem s_ite {e:Expr} {x y z:X} {v:AV} (h:TrE c f.kd e (.ite x y z)) (hx:(bind2 (r.t fr J x) fun q h=>cond q (r.e fr h y) (r.e fr h z))=some (v,J')):WpE c f A (eval e f.env) fr J v J' :=
 bind2K hx fun q Ja h1 hv=>h (fun e=>WpE c f A (eval e f.env) fr J v J') fun t a b p ht ha hb m s Q St k =>
  wpAny_IfExp (S.t R ok ht h1 _ _ _ St fun _ _ Xb St1=>match q,hv with
   | true,hv=>S.e R ok ha hv _ _ _ St1 fun _ _ _ Xc St2 Vd=>k _ _ _ (Xb.trans Xc) St2 Vd
   | false,hv=>S.e R ok hb hv _ _ _ St1 fun _ _ _ Xc St2 Vd=>k _ _ _ (Xb.trans Xc) St2 Vd)
theorem s_andv (pos:Pos):∀ {l:List Expr} {xs:List X} {J:AH} {v:AV},TrEs c f.kd l xs->andv r fr J xs=some (v,J')->WpE c f A (boolOp pos .And (l.map fun e=>eval e f.env)) fr J v J':=by
 intro l xs
 revert l
 induction xs with
 | nil=>exact fun _ h=>nomatch h
 | cons x xs ih =>
  cases xs with
  | nil=>exact fun {_ J v} ht h=>ht (fun l=>WpE c f A (boolOp pos .And (l.map fun e=>eval e f.env)) fr J v J') fun e l he hl=>Eq.symm (show l=[] from hl)▸S.e R ok he h
  | cons x' xs =>
   exact fun {_ J v} ht h=>ht (fun l=>WpE c f A (boolOp pos .And (l.map fun e=>eval e f.env)) fr J v J') fun e l he hl=>hl (fun l=>WpE c f A (boolOp pos .And ((e::l).map fun e=>eval e f.env)) fr J v J') fun e' l he' hl =>
     bind2K (show (bind2 (r.e fr J x) fun v h=>v.b?.bind fun b=>cond b (andv r fr h (x'::xs)) (some (AV.bool false,h)))=some (v,J') from h) fun a Ja h1 h=>bindK h fun b hb h=>fun m s Q st k=>by
      refine wpAny_bind (S.e R ok he h1 _ _ _ st fun _ sd w Xb St1 Vc=>?_)
      cases (AV.b?S hb▸Vc:VR c _ (.bool b) w)
      refine wpAny_bind (wpAny_standAt (wpAny_bind (wpAny_holding (wpAny_truthy_bool ?_))))
      exact match b,h,Vc with
       | true,h,_=>ih (show TrEs c f.kd (e'::l) (x'::xs) from fun _ z=>z e' l he' hl) h _ _ _ St1 fun _ _ _ Xc St2 Vd=>k _ _ _ (Xb.trans Xc) St2 Vd
       | false,h,Vc=>some2K (Y:=fun v J'=>Kt c f fr m J s v J' Q->wpAny (model c.prog c.w) A (pure (Value.bool false)) Q NoE sd) h (fun k=>wpAny_pure (k _ _ _ Xb St1 (.bool _))) k
theorem s_orv (pos:Pos):∀ {l:List Expr} {xs:List X} {J:AH} {v:AV},TrEs c f.kd l xs->orv r fr J xs=some (v,J')->WpE c f A (boolOp pos .Or (l.map fun e=>eval e f.env)) fr J v J':=by
 intro l xs
 revert l
 induction xs with
 | nil=>exact fun _ h=>nomatch h
 | cons x xs ih =>
  cases xs with
  | nil=>exact fun {_ J v} ht h=>ht (fun l=>WpE c f A (boolOp pos .Or (l.map fun e=>eval e f.env)) fr J v J') fun e l he hl=>Eq.symm (show l=[] from hl)▸S.e R ok he h
  | cons x' xs =>
   exact fun {_ J v} ht h=>ht (fun l=>WpE c f A (boolOp pos .Or (l.map fun e=>eval e f.env)) fr J v J') fun e l he hl=>hl (fun l=>WpE c f A (boolOp pos .Or ((e::l).map fun e=>eval e f.env)) fr J v J') fun e' l he' hl =>
     bind2K (show (bind2 (r.e fr J x) fun v h=>v.b?.bind fun b=>cond b (some (AV.bool true,h)) (orv r fr h (x'::xs)))=some (v,J') from h) fun a Ja h1 h=>bindK h fun b hb h=>fun m s Q st k=>by
      refine wpAny_bind (S.e R ok he h1 _ _ _ st fun _ sd w Xb St1 Vc=>?_)
      cases (AV.b?S hb▸Vc:VR c _ (.bool b) w)
      refine wpAny_bind (wpAny_standAt (wpAny_bind (wpAny_holding (wpAny_truthy_bool ?_))))
      exact match b,h,Vc with
       | false,h,_=>ih (show TrEs c f.kd (e'::l) (x'::xs) from fun _ z=>z e' l he' hl) h _ _ _ St1 fun _ _ _ Xc St2 Vd=>k _ _ _ (Xb.trans Xc) St2 Vd
       | true,h,Vc=>some2K (Y:=fun v J'=>Kt c f fr m J s v J' Q->wpAny (model c.prog c.w) A (pure (Value.bool true)) Q NoE sd) h (fun k=>wpAny_pure (k _ _ _ Xb St1 (.bool _))) k
end
end Mine.Internal
namespace Mine.Internal
open PySem PySem.W PySem.Calls PyProof.Rows
section
variable {c:Cx} {P:Pg} {M:Ms} {r:Ev} {N:Nat} {f:Fm} {A:Around} {fr:FrA} {J J':AH} {m:Mp} {s:Shared} {E:Value->Shared->Prop}
theorem bits_few {i:Int} (h:few i.natAbs=true):Builtin.Int.intBits i<=64:=by
 have h:=few_le h
 exact PySem.intBits_le_64 (by omega) (by omega)
theorem pos_ne {y:Int} (h:0 < y):¬(y==0)=true:=fun e=>absurd (eq_of_beq e) (Int.ne_of_gt h)
theorem small_log {y:Int} (h:0 < y/\y < 1000) (x:Int):¬(Builtin.divisionGoesByPylong x y)=true:=by
 have hlog:y.natAbs.log2 < 9000:=Nat.lt_of_lt_of_le ((Nat.log2_lt (by omega)).mpr (show y.natAbs < 2 ^ 10 by omega)) (by decide)
 rw [PyProof.noPylong_of_log2 hlog]; exact Bool.false_ne_true
theorem size_two {a b:Array Value} {l k:List AV} (ha:VRs c m l a.toList) (hb:VRs c m k b.toList) (h:few (l.length+k.length)=true):a.size+b.size<=sizeLine:=ha.size▸hb.size▸size_le (few_le h)
theorem VRs.nilOf {a:Array Value} {l:List AV} (h:VRs c m l a.toList) (e:a.isEmpty=true):l=[]:=List.length_eq_zero_iff.mp (h.size▸Array.isEmpty_iff_size_eq_zero.mp e)
theorem VRs.arr {a b:Array Value} {l k:List AV} (ha:VRs c m l a.toList) (hb:VRs c m k b.toList):VRs c m (l++k) (a++b).toList:=by rw [Array.toList_append]; exact ha.append hb
section
variable (x:St c f fr m J s) {va vb:Value} {v:AV} {Q:Value->Shared->Prop} (k:Kt c f fr m J s v J' Q)
include x
theorem add_tup {l l2:List AV} (Va:VR c m (.tup l) va) (Vb:VR c m (.tup l2) vb) (hp:few (l.length+l2.length)=true) (k:Kt c f fr m J s (.tup (l++l2)) J Q):wpAny (model c.prog c.w) A (binaryOp .Add va vb) Q E s :=
 Va.tupK (Y:=fun va=>wpAny (model c.prog c.w) A (binaryOp .Add va vb) Q E s) fun ta vs n fa Ra=>Vb.tupK (Y:=fun vb=>wpAny (model c.prog c.w) A (binaryOp .Add (.ref ta) vb) Q E s) fun tb ws n2 fb Rb=>by
  have ha:=x.fzh _ _ fa
  have hb:=x.fzh _ _ fb
  by_cases hv:vs.isEmpty=true
  ·cases Ra.nilOf hv
   exact concat_meets ⟨_,ha,rfl⟩ ⟨_,hb,rfl⟩ noFill_tuple_add seq_tuple_add PySem.F.slot_tuple_add PySem.F.entry_tuple_add (PySem.F.args_tuple_add_2 _ _) (tuple_addW0 ta tb vs ws n n2 none none #[] #[] hv) ⟨ha,hb,k _ _ _ .refl x (.tup fb Rb)⟩
  ·by_cases hw:ws.isEmpty=true
   ·cases Rb.nilOf hw
    exact concat_meets ⟨_,ha,rfl⟩ ⟨_,hb,rfl⟩ noFill_tuple_add seq_tuple_add PySem.F.slot_tuple_add PySem.F.entry_tuple_add (PySem.F.args_tuple_add_2 _ _) (tuple_addW1 ta tb vs ws n n2 none none #[] #[] hv hw) ⟨ha,hb,k _ _ _ .refl x (List.append_nil _▸.tup fa Ra)⟩
   ·exact concat_meets ⟨_,ha,rfl⟩ ⟨_,hb,rfl⟩ noFill_tuple_add seq_tuple_add PySem.F.slot_tuple_add PySem.F.entry_tuple_add (PySem.F.args_tuple_add_2 _ _) (tuple_addW2 ta tb vs ws n n2 none none #[] #[] hv hw (size_two Ra Rb hp))
     ⟨ha,hb,x.freezeNew (tupObj (vs++ws) 0) rfl fun _ h X St=>k _ _ _ X St (.tup h (X.vrs (Ra.arr Rb)))⟩
theorem add_lst {i j:Nat} {l l2:List AV} (h1:lk J.ob i=some (.lst l)) (h2:lk J.ob j=some (.lst l2)) (hp:few (l.length+l2.length)=true) (k:Kt c f fr m J s (J.new (.lst (l++l2))).1 (J.new (.lst (l++l2))).2 Q):wpAny (model c.prog c.w) A (binaryOp .Add (.ref (m.ρ i)) (.ref (m.ρ j))) Q E s :=
 x.lst h1 fun vs n ha Ra _=>x.lst h2 fun ws n2 hb Rb _=>concat_meets ⟨_,ha,rfl⟩ ⟨_,hb,rfl⟩ noFill_list_add seq_list_add PySem.F.slot_list_add PySem.F.entry_list_add (PySem.F.args_list_add_2 _ _)
  (list_addW _ _ vs ws n n2 none none #[] #[] (size_two Ra Rb hp)) ⟨ha,hb,x.makeNew (lstObj (vs++ws) 0) (.lst (l++l2)) rfl (fun _ _ h=>nomatch h) (fun _ le e=>⟨vs++ws,0,e▸Heap.get?_push_size _ rfl,(Ra.arr Rb).mono le,List.length_append▸few_le hp⟩) fun _ h X St=>k _ _ _ X St h⟩
theorem int_new (i:Int) (k:Kt c f fr m J s (.int i) J Q):Q (.int i s.toks) { s with toks:=s.toks+1 }:=k _ _ _ (.tick (Nat.le_succ _)) (x.tick _) (.int _ _)
omit x in
theorem int2_some {a b:AV} {cc:Int->Int->Bool} {g:Int->Int->Int} {Z:Value->Value->Prop} (e:int2 a b J cc g=some (v,J')) (V:VR c m a va) (W:VR c m b vb) (k:Kt c f fr m J s v J' Q) (z:∀ x y t u,cc x y=true->Kt c f fr m J s (.int (g x y)) J Q->Z (.int x t) (.int y u)):Z va vb :=
 bindK e fun x e1 e=>bindK e fun y e2 e=>chkK e fun hc e=>V.ofI (Y:=fun v=>Z v vb) e1 fun t=>W.ofI (Y:=fun w=>Z _ w) e2 fun u=>z x y t u hc (k.of e)
theorem bin_av {a b:AV} {o:Operator} {o':Bo} (ho:opOf o=some o') (Va:VR c m a va) (Vb:VR c m b vb) (h:binop J a o' b=some (v,J')) (k:Kt c f fr m J s v J' Q):wpAny (model c.prog c.w) A (binaryOp o va vb) Q E s:=by
 cases o with
 | Add =>
  cases ho
  exact match a,Va,h with
   | .int i,Va,h=>mapsK h fun y h2 e=>Va.intK (Y:=fun va=>wpAny (model c.prog c.w) A (binaryOp .Add va vb) Q E s) fun t=>Vb.ofI (Y:=fun vb=>wpAny (model c.prog c.w) A (binaryOp .Add (.int i t) vb) Q E s) h2 fun u=>add_int (int_new x _ (k.of (congrArg some e)))
   | .tup l,Va,h=>bindK h fun l2 h2 h=>chkK h fun hp e=>add_tup x Va (AV.t?S h2▸Vb) hp (k.of e)
   | .ref i,Va,h=>bindK h fun l h1 h=>bindK h fun l2 h2 h=>chkK h fun hp e=>bindK h1 fun o h1 g=>bindK h2 fun j e2 h2=>bindK h2 fun o' h2 g'=>Va.refK (Y:=fun va=>wpAny (model c.prog c.w) A (binaryOp .Add va vb) Q E s) fun _ =>
     Vb.ofR (Y:=fun vb=>wpAny (model c.prog c.w) A (binaryOp .Add (.ref (m.ρ i)) vb) Q E s) e2 fun _=>add_lst x (AO.l?S g▸h1) (AO.l?S g'▸h2) hp (k.of e)
   | .none,_,h=>nomatch h | .bool _,_,h=>nomatch h | .str _,_,h=>nomatch h | .dct _,_,h=>nomatch h
 | Sub=>cases ho; exact int2_some (Z:=fun va vb=>wpAny (model c.prog c.w) A (binaryOp .Sub va vb) Q E s) h Va Vb k fun _ _ _ _ _ k=>sub_int (int_new x _ k)
 | Mult=>cases ho; exact int2_some (Z:=fun va vb=>wpAny (model c.prog c.w) A (binaryOp .Mult va vb) Q E s) h Va Vb k fun _ _ _ _ hc k=>mul_int (int_new x _ k) (.of_left (bits_few hc))
 | Mod=>cases ho; exact int2_some (Z:=fun va vb=>wpAny (model c.prog c.w) A (binaryOp .Mod va vb) Q E s) h Va Vb k fun _ _ _ _ hc k=>AutoIntOps.mod_1 (pos_ne (of_decide_eq_true hc)) (int_new x _ k)
 | FloorDiv=>cases ho; exact int2_some (Z:=fun va vb=>wpAny (model c.prog c.w) A (binaryOp .FloorDiv va vb) Q E s) h Va Vb k fun x' _ _ _ hc k=>AutoIntOps.floordiv_1 (pos_ne (of_decide_eq_true hc).1) (small_log (of_decide_eq_true hc) x') (int_new x _ k)
 | _=>exact nomatch ho
end
end
end Mine.Internal
namespace Mine.Internal
open PySem PySem.W PySem.Calls PyProof.Rows
section
variable {c:Cx} {P:Pg} {M:Ms} {r:Ev} {N:Nat} {f:Fm} {A:Around} {fr:FrA} {J J':AH} {m:Mp} {s:Shared} {E:Value->Shared->Prop}
theorem at_some {l:List AV} {i:Int} {v:AV} {Z:Prop} (h:at_ l i=some v) (k0:0<=i->i<=1000->l[i.toNat]?=some v->Z) (k1:i < 0->-1000<=i->-(l.length:Int)<=i->l[(i+l.length).toNat]?=some v->Z):Z:=by
 unfold at_ at h
 by_cases hf:few i.natAbs=true
 ·rw [if_pos hf] at h
  have:=few_le hf
  by_cases h0:0<=i
  ·rw [if_pos h0] at h; exact k0 h0 (by omega) h
  ·rw [if_neg h0] at h
   by_cases h1:0<=i+l.length
   ·rw [if_pos h1] at h; exact k1 (Int.not_le.mp h0) (by omega) (by omega) h
   ·rw [if_neg h1] at h; exact nomatch h
 ·rw [if_neg hf] at h; exact nomatch h
theorem seq_pos {i:Int} {n:Nat} (h:0<=i) (hn:i.toNat < n):seqIndex? i n=some i.toNat:=by
 unfold seqIndex?
 have h1:¬ i < 0:=Int.not_lt.mpr h
 have h2:i < n:=(Int.toNat_lt h).mp hn
 rw [if_neg h1]; exact if_pos (by rw [decide_eq_true h,decide_eq_true h2]; rfl)
theorem big_lo {i:Int} (h:-1000<=i):-(2 ^ 63)<=i:=Int.le_trans (by decide) h
theorem big_hi {i:Int} (h:i<=1000):i < 2 ^ 63:=Int.lt_of_le_of_lt h (by decide)
theorem VRs.getA {l:List AV} {vs:Array Value} {i:Nat} {v:AV} {Z:Prop} (V:VRs c m l vs.toList) (h:l[i]?=some v) (k:∀ w,vs[i]?=some w->VR c m v w->Z):Z:=V.getK h fun w e=>k w ((Array.getElem?_toList ..).symm.trans e)
theorem cut_tail {value slice:Expr} {o i:Value} {T id:String} {Q:Value->Shared->Prop} {l:List Value} (hs:subscripted slice false o i=operate l (getItem o i)) (hT:s.TypeIs o T) (hl:typeLookup (.type T) "__getitem__" = pure (some (.builtin id))) (h:wpAny (model c.prog c.w) A (getItem o i) Q E s) :
  wpAny (model c.prog c.w) A (subscriptTail value slice o i) Q E s:=by
 unfold subscriptTail
 refine wpAny_bind ?_
 rw [getitemInPython_of_ne hT.not_modules]
 refine wpAny_bind (wpAny_specialOf hT hl (wpAny_pure (wpAny_bind ?_)))
 show wpAny _ _ (subscripted slice false o i) _ _ _
 rw [hs]
 exact wpAny_operating (wpAny_mono h (fun r sg hzd=>wpAny_bind (wpAny_letTemporaryGo (wpAny_pure hzd))) fun _ _ x=>x)
section
variable (x:St c f fr m J s) {a b v:AV} {va vb:Value} {Q:Value->Shared->Prop} {value slice:Expr} {ls:Value->Value->List Value} (Va:VR c m a va) (Vb:VR c m b vb) (hsl:∀ {o i},subscripted slice false o i=operate (ls o i) (getItem o i))
include x Va Vb hsl
theorem sub_av (G:Gd c P M) (hu:A.units+101 < cLine) (h:subv J a b=some v) (k:Kt c f fr m J s v J Q):wpAny (model c.prog c.w) A (subscriptTail value slice va vb) Q E s :=
 have kk:∀ w t,VR c m v w->s.toks<=t->Q w { s with toks:=t }:=fun w t V ht=>k _ _ _ (.tick ht) (x.tick _) V
 have k0:∀ w,VR c m v w->Q w s:=fun w V=>k _ _ _ .refl x V
 match a,Va,h with
 | .tup l,Va,h=>bindK h fun i hi h=>Va.tupK (Y:=fun va=>wpAny (model c.prog c.w) A (subscriptTail value slice va vb) Q E s) fun ta vs n fa Ra=>Vb.ofI (Y:=fun vb=>wpAny (model c.prog c.w) A (subscriptTail value slice (.ref ta) vb) Q E s) hi fun t =>
   cut_tail hsl (T:="tuple") ⟨_,x.fzh _ _ fa,rfl⟩ PyProof.Rows.slot_tuple_getitem.lookup (at_some h (fun h0 h1 h=>Ra.getA h fun w hw V=>PyProof.Rows.getItem_tuple ⟨_,x.fzh _ _ fa,rfl,n,rfl⟩ (big_lo (Int.le_trans (by decide) h0)) (big_hi h1) (Ra.size.symm▸seq_pos h0 (List.getElem?_eq_some_iff.mp h).1) hw (k0 w V))
    fun h0 h1 h2 h=>Ra.getA h fun w hw V=>PyProof.Rows.getItem_tuple ⟨_,x.fzh _ _ fa,rfl,n,rfl⟩ (big_lo h1) (big_hi (Int.le_trans (Int.le_of_lt h0) (by decide))) (Ra.size.symm▸seqIndex_neg h0 h2) hw (k0 w V))
 | .dct l,Va,h=>bindK h fun i hi h=>Va.dctK (Y:=fun va=>wpAny (model c.prog c.w) A (subscriptTail value slice va vb) Q E s) fun a es n f1 m1 D1 n1 n2 =>
   have D:=DicAt.frozen (s:=s) x.fzh f1 m1 D1 n1 n2
   cut_tail hsl (T:="dict") D.typeIs slot_dict_getitem.lookup (getItem_av G D hu (kfit_str _ _) (AV.s?S hi▸Vb) ((dget_str i l).trans h) kk)
 | .ref j,Va,h=>bindK h fun o h1 h=>Va.refK (Y:=fun va=>wpAny (model c.prog c.w) A (subscriptTail value slice va vb) Q E s) fun _=>match o,h1,h with
  | .lst l,h1,h=>bindK h fun i hi h=>x.lst h1 fun vs n h2 Ra _=>Vb.ofI (Y:=fun vb=>wpAny (model c.prog c.w) A (subscriptTail value slice (.ref (m.ρ j)) vb) Q E s) hi fun t =>
    cut_tail hsl (T:="list") ⟨_,h2,rfl⟩ list_getitem_lookup (at_some h (fun h0 h1 h=>Ra.getA h fun w hw V=>wpAny_getItem_list ⟨_,h2,rfl,n,rfl⟩ h0 (big_hi h1) hw (k0 w V))
     fun h0 h1 h3 h=>Ra.getA (Ra.size▸h) fun w hw V=>wpAny_getItem_list_neg ⟨_,h2,rfl,n,rfl⟩ h0 (Ra.size▸h3) (big_lo h1) hw (k0 w V))
  | .dic l,h1,h=>chkK h fun hf h=>x.dic G h1 fun es n D=>cut_tail hsl (T:="dict") D.typeIs slot_dict_getitem.lookup (getItem_av G D hu hf Vb h kk)
  | .ins _ _,_,h=>nomatch h
 | .none,_,h=>nomatch h | .bool _,_,h=>nomatch h | .int _,_,h=>nomatch h | .str _,_,h=>nomatch h
noncomputable abbrev slcObj (l u:Value):Obj:={ cls:=.type "slice",data:=.fields #[l,u,.none] }
omit x Va Vb hsl in
theorem VRs.drop:∀ {l r},VRs c m l r->∀ k:Nat,VRs c m (l.drop k) (r.drop k)
 | _,_,h,0=>h
 | [],_,h,k+1=>h.nilK (Z:=fun r=>VRs c m [] (r.drop (k+1))) .nil
 | _::l,_,h,k+1=>h.consK (Z:=fun r=>VRs c m (l.drop k) (r.drop (k+1))) fun _ _ _ h=>VRs.drop h k
omit x Va Vb hsl in
theorem VRs.take:∀ {l r},VRs c m l r->∀ k:Nat,VRs c m (l.take k) (r.take k)
 | _,_,_,0=>.nil
 | [],_,h,k+1=>h.nilK (Z:=fun r=>VRs c m [] (r.take (k+1))) .nil
 | v::l,_,h,k+1=>h.consK (Z:=fun r=>VRs c m (v::l.take k) (r.take (k+1))) fun _ _ a h=>.cons a (VRs.take h k)
omit x Va hsl in
theorem nat_part {i:Int} (hi:b.i?=some i) (h0:0<=i) {Y:Int->Value->Prop} (k:∀ (j:Nat) t,Y j (.int j t)):Y i vb:=(Int.eq_ofNat_of_zero_le h0).elim fun j e=>e▸Vb.ofI (Y:=Y j) (e▸hi) fun t=>k j t
theorem slf_av {sl:Addr} (h:sliceFrom J a b=some (v,J')) (hs:s.heap.IsSliceOf sl vb .none .none) (k:Kt c f fr m J s v J' Q):wpAny (model c.prog c.w) A (subscriptTail value slice va (.ref sl)) Q E s :=
 bindK h fun i hi h=>match a,Va,h with
 | .tup l,Va,h=>chkK h fun hp h=>andK hp fun hp hf=>have hp:=of_decide_eq_true hp
   Va.tupK (Y:=fun va=>wpAny (model c.prog c.w) A (subscriptTail value slice va (.ref sl)) Q E s) fun ta vs n fa Ra=>nat_part Vb hi (Int.le_trans (by decide) hp.1) (Y:=fun i vb=>1<=i/\i<=l.length->s.heap.IsSliceOf sl vb .none .none->Kt c f fr m J s (.tup (l.drop i.toNat)) J Q->wpAny (model c.prog c.w) A (subscriptTail value slice (.ref ta) (.ref sl)) Q E s)
    (fun j t hp hs k=>cut_tail hsl (T:="tuple") ⟨_,x.fzh _ _ fa,rfl⟩ PyProof.Rows.slot_tuple_getitem.lookup (getItem_tuple_from ⟨_,x.fzh _ _ fa,rfl,n,rfl⟩ hs (Int.ofNat_le.mp hp.1) (Ra.size▸Int.ofNat_le.mp hp.2)
     (x.freezeNew (tupObj (vs.toList.drop j).toArray 0) rfl fun _ f X St=>k _ _ _ X St (.tup f (X.vrs (Ra.drop j)))) (size_ok Ra.size (few_le hf)))) hp hs (k.of h)
 | .ref i,Va,h=>bindK h fun l h1 h=>chkK h fun hp h=>bindK h1 fun o h1 g=>x.lst (AO.l?S g▸h1) fun vs n h2 Ra hl=>Va.refK (Y:=fun va=>wpAny (model c.prog c.w) A (subscriptTail value slice va (.ref sl)) Q E s) fun _ =>
   nat_part Vb hi (of_decide_eq_true hp) (Y:=fun i vb=>s.heap.IsSliceOf sl vb .none .none->Kt c f fr m J s (J.new (.lst (l.drop i.toNat))).1 (J.new (.lst (l.drop i.toNat))).2 Q->wpAny (model c.prog c.w) A (subscriptTail value slice _ (.ref sl)) Q E s)
    (fun j t hs k=>cut_tail hsl (T:="list") ⟨_,h2,rfl⟩ list_getitem_lookup (wpAny_getItem_list_slice ⟨_,h2,rfl,n,rfl⟩ hs (.int _ _) .none .none (fun h=>nomatch h) (slicePick_from' .. ▸
     x.makeNew (lstObj (vs.toList.drop j).toArray 0) (.lst (l.drop j)) rfl (fun _ _ h=>nomatch h) (fun _ le e=>⟨_,0,e▸Heap.get?_push_size _ rfl,(Ra.drop j).mono le,by rw [List.length_drop]; exact ltr (Nat.sub_le ..) hl⟩) fun _ V X St=>k _ _ _ X St V) (size_ok Ra.size hl))) hs (k.of h)
 | .none,_,h=>nomatch h | .bool _,_,h=>nomatch h | .int _,_,h=>nomatch h | .str _,_,h=>nomatch h | .dct _,_,h=>nomatch h
theorem slt_av {sl:Addr} (h:sliceTo J a b=some (v,J')) (hs:s.heap.IsSliceOf sl .none vb .none) (k:Kt c f fr m J s v J' Q):wpAny (model c.prog c.w) A (subscriptTail value slice va (.ref sl)) Q E s :=
 bindK h fun i hi h=>bindK h fun l hl h=>chkK h fun hp h=>bindK hl fun d hd hl=>bindK hl fun o h1 g=>x.lst (AO.l?S g▸h1) fun vs n h2 Ra hl=>Va.ofR (Y:=fun va=>wpAny (model c.prog c.w) A (subscriptTail value slice va (.ref sl)) Q E s) hd fun _ =>
   nat_part Vb hi (of_decide_eq_true hp) (Y:=fun i vb=>s.heap.IsSliceOf sl .none vb .none->Kt c f fr m J s (J.new (.lst (l.take i.toNat))).1 (J.new (.lst (l.take i.toNat))).2 Q->wpAny (model c.prog c.w) A (subscriptTail value slice _ (.ref sl)) Q E s)
    (fun j t hs k=>cut_tail hsl (T:="list") ⟨_,h2,rfl⟩ list_getitem_lookup (wpAny_getItem_list_slice ⟨_,h2,rfl,n,rfl⟩ hs .none (.int _ _) .none (fun h=>nomatch h) (slicePick_upto' .. ▸
     x.makeNew (lstObj (vs.toList.take j).toArray 0) (.lst (l.take j)) rfl (fun _ _ h=>nomatch h) (fun _ le e=>⟨_,0,e▸Heap.get?_push_size _ rfl,(Ra.take j).mono le,ltr (List.length_take_le' ..) hl⟩) fun _ V X St=>k _ _ _ X St V) (size_ok Ra.size hl))) hs (k.of h)
end
theorem Kt.after {m':Mp} {Ja:AH} {s':Shared} {v:AV} {Q:Value->Shared->Prop} (k:Kt c f fr m J s v J' Q) (X:Ext f m J s m' Ja s'):Kt c f fr m' Ja s' v J' Q:=fun _ _ _ Y St V=>k _ _ _ (X.trans Y) St V
section
variable (S:Sound c r N) (G:Gd c P M) (R:Room A N) (ok:f.Ok c) {e:Expr} {x y:X} {v:AV}
include S G R ok
theorem s_bin {o:Bo} (h:TrE c f.kd e (.bin x o y)) (he:(e2 r fr J x y fun a b h=>binop h a o b)=some (v,J')):WpE c f A (eval e f.env) fr J v J' :=
 e2K he fun _ _ _ _ h1 h2 hc=>h (fun e=>WpE c f A (eval e f.env) fr J v J') fun _ _ _ _ ho hx hy _ _ _ St k=>wpAny_BinOp (two_wp S R ok hx hy h1 h2 St fun _ _ _ _ X St Vc Vd=>bin_av St ho Vc Vd hc (k.after X))
theorem s_sub (h:TrE c f.kd e (.sub x y)) (he:(e2 r fr J x y fun a b h=>(subv h a b).map fun v=>(v,h))=some (v,J')):WpE c f A (eval e f.env) fr J v J' :=
 e2K he fun _ _ _ Jb h1 h2 hc=>map2K (Y:=WpE c f A (eval e f.env) fr J) hc fun v hc=>h (fun e=>WpE c f A (eval e f.env) fr J v Jb) fun _ _ _ hx hy _ _ _ St k=>Subscript_ (two_wp S R ok hx hy h1 h2 St fun _ _ _ _ X St Vc Vd=>sub_av St Vc Vd (hy.ord.2.2.1 _ _) G R.u hc (k.after X))
theorem s_slf (h:TrE c f.kd e (.slf x y)) (he:(e2 r fr J x y fun a b h=>sliceFrom h a b)=some (v,J')):WpE c f A (eval e f.env) fr J v J' :=
 e2K he fun _ _ _ _ h1 h2 hc=>h (fun e=>WpE c f A (eval e f.env) fr J v J') fun _ _ _ _ hx hy _ _ _ St k=>by
  refine Subscript_ (S.e R ok hx h1 _ _ _ St fun _ _ w Xb St1 Vc=>?_)
  rw [arm_eval_Slice]
  exact wpAny_bind (S.e R ok hy h2 _ _ _ St1 fun _ _ we Xc St2 Vd=>wpAny_bind (wpAny_holding (wpAny_pure (wpAny_bind (wpAny_holding (wpAny_pure (wpAny_newObj_type (St2.freezeNew (slcObj we .none) rfl fun _ _ Xd St3 =>
   slf_av St3 (Xd.vr (Xc.vr Vc)) (Xd.vr Vd) rfl hc (Heap.IsSliceOf.new ..) (k.after ((Xb.trans Xc).trans Xd))))))))))
theorem s_slt (h:TrE c f.kd e (.slt x y)) (he:(e2 r fr J x y fun a b h=>sliceTo h a b)=some (v,J')):WpE c f A (eval e f.env) fr J v J' :=
 e2K he fun _ _ _ _ h1 h2 hc=>h (fun e=>WpE c f A (eval e f.env) fr J v J') fun _ _ _ _ hx hy _ _ _ St k=>by
  refine Subscript_ (S.e R ok hx h1 _ _ _ St fun _ _ w Xb St1 Vc=>?_)
  rw [arm_eval_Slice]
  exact wpAny_bind (wpAny_pure (wpAny_bind (wpAny_holding (S.e R ok hy h2 _ _ _ St1 fun _ _ we Xc St2 Vd=>wpAny_bind (wpAny_holding (wpAny_pure (wpAny_newObj_type (St2.freezeNew (slcObj .none we) rfl fun _ _ Xd St3 =>
   slt_av St3 (Xd.vr (Xc.vr Vc)) (Xd.vr Vd) rfl hc (Heap.IsSliceOf.new ..) (k.after ((Xb.trans Xc).trans Xd))))))))))
end
end
end Mine.Internal
namespace Mine.Internal
open PySem PySem.W PySem.Calls PyProof.Rows
section
variable {c:Cx} {P:Pg} {M:Ms} {r:Ev} {N:Nat} {f:Fm} {A:Around} {fr:FrA} {J J':AH} {m:Mp} {s:Shared} {E:Value->Shared->Prop}
noncomputable def PRs (c:Cx) (m:Mp):List (Nat×AV)->List (Value×Value)->Prop
 | [],r=>r=[]
 | p::l,r=>∃ t w r',r=(.str (c.wd p.1) t,w)::r'/\p.1 < c.nw/\VR c m p.2 w/\PRs c m l r'
theorem eds_keys:∀ {xs:List (Nat×X)} {J J':AH} {l:List (Nat×AV)},eds r fr J xs=some (l,J')->l.map (·.1)=xs.map (·.1):=by
 intro xs
 induction xs with
 | nil =>
  intro _ _ _ h
  exact some2K (Y:=fun l _=>l.map (·.1)=[]) h rfl
 | cons p xs ih =>
  intro _ _ l h
  exact bind2K h fun _ _ _ h=>bind2K h fun ws _ h2 h=>some2K (Y:=fun l _=>l.map (·.1)=p.1::xs.map (·.1)) h (congrArg (p.1::·) (ih h2))
theorem TrDs.shape {kd:Kd}:∀ {ks:List (Option Expr)} {vs:List Expr} {xs:List (Nat×X)},TrDs c kd ks vs xs->ks.all (·.isSome)=true/\ks.length=vs.length/\ks.length=xs.length
 | _,_,[],h=>h.1▸h.2▸⟨rfl,rfl,rfl⟩
 | _,_,_::xs,h=>h (fun ks vs=>ks.all (·.isSome)=true/\ks.length=vs.length/\ks.length=xs.length+1) fun _ _ _ _ _ _ _ h=>have q:=TrDs.shape h; ⟨q.1,congrArg (·+1) q.2.1,congrArg (·+1) q.2.2⟩
theorem snd_eds (S:Sound c r N) (R:Room A N) (ok:f.Ok c) (pos:Pos):∀ {xs:List (Nat×X)} {ks:List (Option Expr)} {vs:List Expr} {J J':AH} {l:List (Nat×AV)},TrDs c f.kd ks vs xs->eds r fr J xs=some (l,J') ->
  ∀ m s (Q:List (Value×Value)->Shared->Prop),St c f fr m J s->(∀ m' s' ps,Ext f m J s m' J' s'->St c f fr m' J' s'->PRs c m' l ps->Q ps s')->wpAny (model c.prog c.w) A (evalPairs (pairTrees ks vs f.env pos)) Q NoE s:=by
 intro xs
 induction xs with
 | nil =>
  intro _ _ J _ _ ht h m s Q st k
  exact some2K (Y:=fun l J'=>(∀ m' s' ps,Ext f m J s m' J' s'->St c f fr m' J' s'->PRs c m' l ps->Q ps s')->wpAny (model c.prog c.w) A (evalPairs (pairTrees _ _ f.env pos)) Q NoE s) h (fun k=>ht.1▸ht.2▸pairTrees_nil_walk (k _ _ _ .refl st rfl)) k
 | cons jv xs ih =>
  obtain ⟨j,x⟩:=jv
  intro ks vs J J' l ht h m s Q st k
  exact ht (fun ks vs=>wpAny (model c.prog c.w) A (evalPairs (pairTrees ks vs f.env pos)) Q NoE s) fun _ _ e kr vr hj he hl=>bind2K h fun v Ja h1 h=>bind2K h fun ws Jb h2 h =>
    some2K (Y:=fun l J'=>(∀ m' s' ps,Ext f m J s m' J' s'->St c f fr m' J' s'->PRs c m' l ps->Q ps s')->wpAny (model c.prog c.w) A (evalPairs (pairTrees (_::kr) (e::vr) f.env pos)) Q NoE s) h (fun k =>
     pairTrees_cons_walk (wpAny_Constant_str (S.e R ok he h1 _ _ _ (st.tick _) fun _ _ w Xb St1 Vc=>ih hl h2 _ _ _ St1 fun _ _ ps Xc St2 Vd=>k _ _ _ ((Ext.trans (.tick (Nat.le_succ _)) Xb).trans Xc) St2 ⟨_,w,ps,rfl,hj,Xc.vr Vc,Vd⟩))) k
theorem skeys_len (l:List (Nat×AV)):(skeys l).length=l.length:=List.length_map ..
theorem dset_str (v:AV) {k:Nat}:∀ {l:List (Nat×AV)},k∉l.map (·.1)->dset (.str k) v (skeys l)=skeys (l++[(k,v)])
 | [],_=>rfl
 | p::l,h=>by
  show cond (Nat.beq p.1 k) _ _=_
  rw [nbF (show p.1≠k from fun e=>h (show k∈p.1::l.map (·.1) from e▸.head _))]
  exact congrArg (_::·) (dset_str v fun z=>h (.tail _ z))
theorem storeAll_av (G:Gd c P M) {d:Addr} (hfz:m.fz d=none) (hu:A.units+100 < cLine):∀ {l:List (Nat×AV)} {ps:List (Value×Value)} {acc:List (Nat×AV)} {es:Array DictEntry} {n:Nat} {s:Shared} {Q:PUnit->Shared->Prop},
  PRs c m l ps->DicAt c m s.heap d (skeys acc) es n->((acc++l).map (·.1)).Nodup->(acc++l).length<=1000 ->
  (∀ h' es' n' t,DicAt c m h' d (skeys (acc++l)) es' n'->Heap.SameBut d s.heap h'->s.toks<=t->Q PUnit.unit { s with heap:=h',toks:=t })->wpAny (model c.prog c.w) A (storeAll d ps) Q E s:=by
 intro l
 induction l with
 | nil =>
  intro _ acc es n s Q V D _ _ k
  cases V
  unfold storeAll
  rw [List.forIn_nil]
  exact wpAny_pure (k s.heap es n s.toks (by rw [List.append_nil]; exact D) (Heap.SameBut.refl _ _) (Nat.le_refl _))
 | cons jv l ih =>
  obtain ⟨j,v⟩:=jv
  intro _ acc es n s Q V D hn hl k
  obtain ⟨t,w,r,rfl,hj,hv,hr⟩:=V
  rw [show acc++(j,v)::l=(acc++[(j,v)])++l from by rw [List.append_assoc]; rfl] at hn hl k
  unfold storeAll
  rw [List.forIn_cons]
  have hj':j∉acc.map (·.1):=fun h=>by
   rw [List.map_append,List.map_append] at hn
   exact (List.nodup_append.mp (List.nodup_append.mp hn).1).2.2 _ h j (.head _) rfl
  have hset:=dset_str v hj'
  have hle:(dset (.str j) v (skeys acc)).length<=1000:=by rw [hset,skeys_len]; exact ltr (by rw [List.length_append (as:=acc++[(j,v)])]; exact Nat.le_add_right _ _) hl
  refine wpAny_bind (wpAny_bind (dictSet_av (k:=.str j) G D hfz hu (kfit_str _ _) (.str j t hj) hv hle fun h' es' n' t' D' hs ht=>wpAny_pure ?_))
  exact ih (s:={ s with heap:=h',toks:=t' }) hr (hset▸D') hn hl fun h'' es'' n'' t'' D'' hs' ht'=>k _ _ _ _ D'' (hs.trans hs') (ltr ht ht')
theorem St.end_low (G:Gd c P M) (x:St c f fr m J s):c.lo<=s.heap.objs.size/\(s.heap.objs.size==sysModules)=false :=
 have h:=ltr x.lowL (Nat.le_of_lt x.locLt)
 ⟨h,beq_eq_false_iff_ne.mpr (Nat.ne_of_gt (Nat.lt_of_lt_of_le G.modules h))⟩
theorem DicAt.empty {h:Heap} {a:Addr} {n:Nat} (e:h.get? a=some (dicObj #[] n)) (hm:(a==sysModules)=false) (hz:∀ a o,m.fz a=some o->h.get? a=some o):DicAt c m h a [] #[] n:=⟨e,.nil,⟨.s,fun _ h=>nomatch h⟩,.nil,Nat.zero_le _,hm,hz⟩
end
section
variable {c:Cx} {P:Pg} {M:Ms} {r:Ev} {N:Nat} {f:Fm} {A:Around} {fr:FrA} {J J':AH} (S:Sound c r N) (G:Gd c P M) (R:Room A N) (ok:f.Ok c)
include S G R ok
theorem dict_made {ks:List (Option Expr)} {vs:List Expr} {pos:Pos} {xs:List (Nat×X)} {l:List (Nat×AV)} (h:TrDs c f.kd ks vs xs) (hl:Nat.ble xs.length 15=true) (hn:(xs.map (·.1)).Nodup) (he:eds r fr J xs=some (l,J'))
  {m:Mp} {s:Shared} {Q:Value->Shared->Prop} (st:St c f fr m J s) (k:∀ m' s' a es n,s.heap.get? a=none->Ext f m J s m' J' s'->St c f fr m' J' s'->Un f m' a->c.lo<=a->(∃ o,s'.heap.get? a=some o)->DicAt c m' s'.heap a (skeys l) es n->Q (.ref a) s') :
  wpAny (model c.prog c.w) A (eval (.Dict ks vs pos) f.env) Q NoE s:=by
 have g:=h.shape
 have lo:=st.end_low G
 have no:=Heap.get?_none_of_le (Nat.le_refl s.heap.objs.size)
 have D0:DicAt c m (s.heap.push (dicObj #[] 0)) s.heap.objs.size [] #[] 0:=.empty (Heap.get?_push_size _ rfl) lo.2 (st.raw _).fzh
 have u0:Un f m s.heap.objs.size:=Un.fresh st (Nat.le_refl _)
 cases xs with
 | nil =>
  refine some2K (Y:=fun l J'=>(∀ m' s' a es n,s.heap.get? a=none->Ext f m J s m' J' s'->St c f fr m' J' s'->Un f m' a->c.lo<=a->(∃ o,s'.heap.get? a=some o)->DicAt c m' s'.heap a (skeys l) es n->Q (.ref a) s')->_) he (fun k=>?_) k
  obtain ⟨rfl,rfl⟩:=h
  exact wpAny_Dict_empty (k m _ _ #[] 0 no (Ext.raw _) (st.raw _) u0 lo.1 ⟨_,D0.at_⟩ D0)
 | cons x xs =>
  refine wpAny_Dict_any g.1 g.2.1 (fun e=>by rw [e] at g; exact nomatch g.2.2) (g.2.2.symm▸Nat.le_of_ble_eq_true hl) ?_
  refine snd_eds S R ok pos h he _ _ _ (st.raw _) fun md sd ps Xb St1 Vc=>?_
  have u1:Un f md s.heap.objs.size:=u0.ext Xb D0.at_
  have e1:sd.heap.get? s.heap.objs.size=some (dicObj #[] 0):=Xb.keep _ _ D0.at_ (u0.notOwn st)
  have hk:=eds_keys he
  have hlen:l.length<=1000:=by rw [← List.length_map (f:=(·.1)),hk,List.length_map]; exact ltr (Nat.le_of_ble_eq_true hl) (by decide)
  have hz:md.fz s.heap.objs.size=none:=by
   cases q:md.fz s.heap.objs.size with
   | none=>rfl
   | some o=>exact u1.fz St1 q
  refine storeAll_av (acc:=[]) G hz (Nat.lt_of_succ_lt R.u) Vc (.empty e1 lo.2 St1.fzh) (hk▸hn) hlen fun h' es' n' t D' hs ht=>?_
  exact k md _ _ es' n' no (((Ext.raw _).trans Xb).rawTurn no hs) (St1.rawTurn u1 hs) u1 lo.1 ⟨_,D'.at_⟩ D'
variable {e:Expr} {xs:List (Nat×X)} {v:AV}
theorem s_dicN (h:TrE c f.kd e (.dicN xs)) (he:(bind2 (eds r fr J xs) fun vs h=>some (h.new (.dic (skeys vs))))=some (v,J')):WpE c f A (eval e f.env) fr J v J' :=
 bind2K he fun l Ja he h2=>h (fun e=>WpE c f A (eval e f.env) fr J v J') fun _ _ _ hd hl hn m s Q st k=>dict_made S G R ok hd hl hn he st fun md sd a es n hna Xb St1 u la ls D =>
  k.of h2 _ _ _ (Ext.adopt St1 Xb _ hna hna) (St1.adopt (.dic (skeys l)) u u (fun _ _ h=>nomatch h) la la ls ls ⟨es,n,by rw [show (md.putOb Ja.nx a a).ρ Ja.nx=a from put_self ..]; exact D.at_,D.rows.mono St1.leOb,D.kind,D.nd,D.few⟩) .newOb
omit S G R ok in
theorem DRs.ofRows {m:Mp}:∀ {l:List (Nat×AV)} {es:List DictEntry},KRs c m (skeys l) es->DRs c m l es
 | [],_,h=>h
 | p::l,_,h=>h.consK (D:=DRs c m (p::l)) fun e r q hr=>(show VR c m (.str p.1) e.key from q.key).elim fun t z=>.cons z.2 ⟨t,z.1⟩ q.hash q.val (DRs.ofRows hr)
theorem s_dicF (h:TrE c f.kd e (.dicF xs)) (he:(bind2 (eds r fr J xs) fun vs h=>some (AV.dct vs,h))=some (v,J')):WpE c f A (eval e f.env) fr J v J' :=
 bind2K he fun l Ja he h2=>h (fun e=>WpE c f A (eval e f.env) fr J v J') fun _ _ _ hd hl hn m s Q st k=>dict_made S G R ok hd hl hn he st fun md sd a es n hna Xb St1 u la ls D =>
  k.of h2 _ _ _ (Xb.adoptFz (u.leFz St1) hna) (St1.adoptFz u D.at_) (.dct (put_self ..) D.low ((DRs.ofRows D.rows).mono (u.leFz St1)) ⟨eds_keys he▸hn,skeys_len l▸D.few⟩)
end
end Mine.Internal
namespace Mine.Internal
open PySem PySem.W PySem.Calls PyProof.Rows
section
variable {prog:Program} {w:World} {A:Around} {E:Value->Shared->Prop} {s:Shared} {d I:Addr} {es:Array DictEntry} {m:Nat}
theorem iter_dic {Q:Value->Shared->Prop} (hd:(d==sysModules)=false) (h:s.heap.get? d=some (dicObj es m))
  (q:Q (.ref s.heap.objs.size) { s with heap:=s.heap.push { cls:=.type "dict_keyiterator",data:=.fields #[.ref d,.int 0 0,.int es.size 0,.int m 0] } }):wpAny (model prog w) A (pyIter (.ref d)) Q E s:=by
 have hT:s.TypeIs (.ref d) "dict":=⟨_,h,rfl⟩
 refine wpAny_pyIter_slot hT PySem.F.slot_dict_iter (wpAny_call_entry PySem.F.slot_dict_iter hT PySem.F.entry_dict_iter ?_ (PySem.F.args_dict_iter_1 _))
 unfold Builtin.«dict.__iter__»
 refine wpAny_bind ?_
 unfold Builtin.Dict.dictSlotNone
 refine wpAny_bind (wpAny_notOrdered_dict hT ?_)
 show wpAny _ _ (pure (Value.ref d)) _ _ s
 refine wpAny_pure ?_
 show wpAny _ _ (Builtin.Dict.showsAll d >>= _) _ _ s
 unfold Builtin.Dict.showsAll
 rw [if_neg (by rw [hd]; exact Bool.false_ne_true)]
 refine wpAny_bind (wpAny_pure (wpAny_bind (wpAny_dictEntries h rfl (wpAny_bind (wpAny_dictEpoch h rfl ?_)))))
 refine wpAny_bind (wpAny_newObj_type (wpAny_pure ⟨_,rfl,"dict_keyiterator",_,⟨_,Heap.get?_push_size _ rfl,rfl⟩,PySem.F.slot_dict_keyiterator_next.lookup,?_⟩))
 simpa [rawInt] using q
theorem next_head {i:Nat} {Q:Option Value->Shared->Prop} (hit:s.heap.IsKeyIter I d i es.size m) (h:s.heap.get? d=some (dicObj es m))
  (item:∀ e h',es[i]?=some e->h'.IsKeyIter I d (i+1) es.size m->Heap.SameBut I s.heap h'->Q (some e.key) { s with heap:=h' })
  (done:es[i]?=none->A.handled=none/\∀ h',Heap.ExtBut I s.heap h'->Q none { s with heap:=h' }):wpAny (model prog w) A (pyNext (.ref I)) Q E s:=by
 obtain ⟨o,ho,hc,hd⟩:=id hit
 have name:∀ {s:Shared} {Q:String->Shared->Prop} {A:Around} {E:Value->Shared->Prop},s.TypeIs (.ref I) "dict_keyiterator" -> Q "dict_keyiterator" s->wpAny (model prog w) A (typeNameOfWhole (.ref I)) Q E s:=wpAny_typeNameOfWhole_keyiter
 unfold pyNext
 refine wpAny_bind (wpAny_attempt (wpAny_callSpecial?_slot (name:=Str.ofString "__next__") hit.typeIs PySem.F.slot_dict_keyiterator_next
  (wpAny_call_entry PySem.F.slot_dict_keyiterator_next hit.typeIs PySem.F.entry_dict_keyiterator_next ?_ (PySem.F.args_dict_keyiterator_next_1 _))))
 refine wpAny_bind (wpAny_pure (wpAny_bind (wpAny_bind ?_)))
 refine wpAny_bind (name hit.typeIs (wpAny_pure ?_))
 refine wpAny_bind (wpAny_fieldsOf ho hd ?_)
 have hown:Builtin.Dict_items.ownsTuple "dict_keyiterator" = false:=by decide
 rw [hown,if_neg Bool.false_ne_true]
 show wpAny _ _ (if (Value.ref d==Value.none)=true then _ else _) _ _ s
 rw [if_neg (show ¬ ((Value.ref d==Value.none)=true) from Bool.false_ne_true)]
 refine wpAny_bind (wpAny_pure (wpAny_bind (wpAny_dictEntries h rfl ?_)))
 rw [if_neg (by simp)]
 refine wpAny_bind (wpAny_pure (wpAny_bind (wpAny_dictEpoch h rfl ?_)))
 rw [if_neg (by simp)]
 refine wpAny_pure ?_
 dsimp only
 rw [if_neg (show ¬ ((i:Int) < 0) from Int.not_lt.mpr (Int.natCast_nonneg i)),Int.toNat_natCast]
 cases he:es[i]? with
 | some e =>
  refine wpAny_bind ?_
  refine wpAny_bind (name hit.typeIs (wpAny_pure ?_))
  refine wpAny_bind (wpAny_isOneOf_keyiter hit.typeIs ?_)
  show wpAny _ _ (setField (.ref I) 1 (rawInt ((i:Int)+1)) >>= _) _ _ s
  refine wpAny_bind (wpAny_setField ho hd (by simp) ?_)
  have hit':(s.heap.update I (Obj.mapFields (·.setIfInBounds 1 (rawInt ((i:Int)+1))))).IsKeyIter I d (i+1) es.size m :=
   ⟨_,Heap.get?_update_self _ ho (Obj.isFreed_of_fields (Obj.data_mapFields hd _)),(Obj.cls_mapFields ..).trans hc,by rw [Obj.data_mapFields hd]; simp [rawInt]⟩
  refine wpAny_bind (wpAny_holding ?_)
  refine wpAny_bind (wpAny_isOneOf_keyiter (s:={ s with heap:=s.heap.update I (Obj.mapFields (·.setIfInBounds 1 (rawInt ((i:Int)+1)))) }) hit'.typeIs ?_)
  show wpAny _ _ (pure e.key) _ _ _
  exact wpAny_pure (wpAny_pure ⟨_,rfl,wpAny_pure (item _ _ he hit' (Heap.SameBut.update ..))⟩)
 | none =>
  obtain ⟨hh,q⟩:=done he
  refine wpAny_bind ?_
  refine wpAny_bind (name hit.typeIs (wpAny_pure ?_))
  show wpAny _ _ (setField (.ref I) 0 .none >>= _) _ _ s
  refine wpAny_bind (wpAny_setField ho hd (by simp) ?_)
  show wpAny _ _ (newExc (.type "StopIteration") [] >>= _) _ _ _
  refine wpAny_bind ?_
  unfold newExc newTuple
  refine wpAny_bind (wpAny_newObj_type ?_ (by size_fits))
  refine wpAny_bind (m:=firstArgMember _ _) (wpAny_of_eq (a:=Value.none) (by first | rfl | (simp only [firstArgMember]; rfl)) ?_)
  refine wpAny_newObj_type ?_ (by size_fits)
  simp only [raiseNew]
  refine wpAny_bind (wpAny_handled ?_)
  rw [show A.in1.handled=none from hh]
  refine wpAny_bind (wpAny_pure (wpAny_throw ?_))
  refine wpAny_bind (wpAny_isInstance (T:="StopIteration") (b:=true) ⟨_,Heap.get?_push_size _ rfl,rfl⟩ isSubtype_stop ?_)
  exact wpAny_pure (q _ (((Heap.SameBut.update ..).extBut.push _).push _))
theorem walks_dic (hh:A.handled=none) (I d:Addr) (hne:d≠I) (es:Array DictEntry) (m:Nat) :
  Walks prog w A I [I,d] [I] es.size (fun i v=>∃ e,es[i]?=some e/\v=e.key) (fun i h=>h.IsKeyIter I d i es.size m/\h.get? d=some (dicObj es m)) where
 sub:=fun b hb=>by simp at hb; simp [hb]
 frame:=fun _ _ _ st hk=>⟨st.1.at fun o e=>hk I (by simp) o e,hk d (by simp) _ st.2⟩
 item:=fun i s Q E hi st hQ=>by
  refine next_head st.1 st.2 (fun e h' he hit' hs'=>?_) fun e=>absurd e (by simp [hi])
  exact hQ _ h' s.toks ⟨e,he,rfl⟩ ⟨hit',(hs'.2 d hne).trans st.2⟩ fun b o hb e=>(hs'.2 b (fun h=>hb (by simp [h]))).trans e
 done:=fun s Q E st hQ=>by
  refine next_head st.1 st.2 (fun e h' he _ _=>absurd he (by simp)) fun _=>⟨hh,fun h' he'=>hQ h' s.toks fun b o hb e=>he' b o (fun h=>hb (by simp [h])) e⟩
 self:=fun _ _ _ _ st hQ=>wpAny_pyIter_keyiter st.1 hQ
theorem src_dic (lo:(d==sysModules)=false):KdlSrc prog w "dict" d d es.size (fun i v=>∃ e,es[i]?=some e/\v=e.key) (fun h=>h.get? d=some (dicObj es m)) where
 type:=fun _ h=>⟨_,h,rfl⟩
 there:=fun _ h=>⟨Heap.lt_size h,Heap.lt_size h⟩
 keep:=fun _ _ h hk=>hk d (.inl rfl) _ h
 notList:=by decide
 notTuple:=by decide
 hint:=fun _ _ _ _ h hq=>kdl_hint_dict ⟨_,h,rfl⟩ hq
 iter:=fun _ _ hh h=>⟨_,_,(fun _ _ hq=>iter_dic lo h hq),walks_dic hh _ d (Nat.ne_of_lt (Heap.lt_size h)) es m,⟨⟨_,Heap.get?_push_size _ rfl,rfl,rfl⟩,Heap.get?_push_of_some _ h⟩⟩
end
end Mine.Internal
namespace Mine.Internal
open PySem PySem.W PySem.Calls PyProof.Rows
section
variable {c:Cx} {P:Pg} {M:Ms} {r:Ev} {N:Nat} {f:Fm} {A:Around} {fr:FrA} {J J':AH} {m:Mp} {s:Shared} {E:Value->Shared->Prop}
section
variable (x:St c f fr m J s) {h':Heap} (hk:∀ b o,s.heap.get? b=some o->h'.get? b=some o) {t:Nat} {a:Addr} (ha:s.heap.get? a=none) {Q:Value->Shared->Prop}
include x hk
theorem St.grown:St c f fr m J { s with heap:=h',toks:=t }:=x.heap fun b o _=>hk b o
omit x in
theorem Ext.grown:Ext f m J s m J { s with heap:=h',toks:=t }:=Ext.heap (t:=t) .refl fun b o _=>hk b o
include ha
theorem St.takeObj (o:AO) (hno:∀ C l,o≠.ins C l) (hb:c.lo<=a) (hat:∃ o,h'.get? a=some o) (hor:∀ m',Mp.Le m m'->m'.ρ J.nx=a->OR c m' h' J.nx o) (k:Kt c f fr m J s (J.new o).1 (J.new o).2 Q):Q (.ref a) { s with heap:=h',toks:=t } :=
 have u:=Un.ofNone x ha
 k _ _ _ (Ext.adopt (x.grown hk) (.grown hk) o ha ha) ((x.grown hk).adopt o u u (fun C l e=>absurd e (hno C l)) hb hb hat hat (hor _ x.leOb (put_self ..))) .newOb
theorem St.takeList {vs:Array Value} {n:Nat} {l:List AV} (hb:c.lo<=a) (hat:h'.get? a=some (lstObj vs n)) (V:VRs c m l vs.toList) (hl:l.length<=1000) (k:Kt c f fr m J s (J.new (.lst l)).1 (J.new (.lst l)).2 Q):Q (.ref a) { s with heap:=h',toks:=t } :=
 x.takeObj hk ha (.lst l) (fun _ _ h=>nomatch h) hb ⟨_,hat⟩ (fun _ le e=>⟨vs,n,e▸hat,V.mono le,hl⟩) k
theorem St.takeDict {es:Array DictEntry} {n:Nat} {l:List (AV×AV)} (hb:c.lo<=a) (D:DicAt c m h' a l es n) (k:Kt c f fr m J s (J.new (.dic l)).1 (J.new (.dic l)).2 Q):Q (.ref a) { s with heap:=h',toks:=t } :=
 x.takeObj hk ha (.dic l) (fun _ _ h=>nomatch h) hb ⟨_,D.at_⟩ (fun _ le e=>⟨es,n,e▸D.at_,D.rows.mono le,D.kind,D.nd,D.few⟩) k
theorem St.takeTup {vs:Array Value} {n:Nat} {l:List AV} (hat:h'.get? a=some (tupObj vs n)) (V:VRs c m l vs.toList) (k:Kt c f fr m J s (.tup l) J Q):Q (.ref a) { s with heap:=h',toks:=t } :=
 have u:=Un.ofNone x ha
 k _ _ _ (Ext.adoptFz (.grown hk) (u.leFz x) ha) ((x.grown hk).adoptFz u hat) (.tup (put_self ..) (V.mono (u.leFz x)))
end
inductive ItemsAt (c:Cx) (m:Mp) (h:Heap) (a:Addr) (l:List AV):Prop
 | lst {vs n}:h.get? a=some (lstObj vs n)->VRs c m l vs.toList->ItemsAt c m h a l
 | tup {vs n}:h.get? a=some (tupObj vs n)->VRs c m l vs.toList->ItemsAt c m h a l
 | dic {es n ks}:DicAt c m h a ks es n->ks.map (·.1)=l->ItemsAt c m h a l
theorem items_av (G:Gd c P M) (x:St c f fr m J s) {v:AV} {w:Value} {l:List AV} {Y:Value->Prop} (V:VR c m v w) (h:items J v=some l) (k:∀ a,ItemsAt c m s.heap a l->Y (.ref a)):Y w :=
 match v,V,h with
 | .tup _,V,h=>V.tupK fun a _ _ fa Ra=>k a (Option.some.inj h▸.tup (x.fzh _ _ fa) Ra)
 | .dct l,V,h=>V.dctK fun a _ _ f1 m1 D1 n1 n2=>k a (.dic (DicAt.frozen x.fzh f1 m1 D1 n1 n2) (Option.some.inj h▸List.map_map ..))
 | .ref i,V,h=>bindK h fun o h1 h=>V.refK fun _=>match o,h1,h with
  | .lst _,h1,h=>x.lst h1 fun _ _ h2 Ra _=>k _ (Option.some.inj h▸.lst h2 Ra)
  | .dic _,h1,h=>x.dic G h1 fun _ _ D=>k _ (.dic D (Option.some.inj h))
  | .ins _ _,_,h=>nomatch h
 | .none,_,h=>nomatch h | .bool _,_,h=>nomatch h | .int _,_,h=>nomatch h | .str _,_,h=>nomatch h
theorem KRs.keyVals:∀ {l:List (AV×AV)} {es:List DictEntry},KRs c m l es->VRs c m (l.map (·.1)) (es.map (·.key))
 | [],_,D=>D.nilK (D:=fun es=>VRs c m [] (List.map DictEntry.key es)) .nil
 | q::l,_,D=>D.consK (D:=fun es=>VRs c m (q.1::List.map (fun p:AV×AV=>p.1) l) (List.map DictEntry.key es)) fun _ _ h r=>.cons h.key (KRs.keyVals r)
theorem len_dic {d:Addr} {es:Array DictEntry} {n:Nat} {Q:Value->Shared->Prop} (hd:(d==sysModules)=false) (h:s.heap.get? d=some (dicObj es n)) (hz:es.size<=1000)
  (q:Q (.int es.size (s.toks+1)) { s with toks:=s.toks+1+1 }):wpAny (model c.prog c.w) A (call (.builtin "len") [.ref d]) Q E s:=by
 have hT:s.TypeIs (.ref d) "dict":=⟨_,h,rfl⟩
 refine Calls.call_function_entry kind_len plain_len entry_len (args_len1 _) ?_
 unfold Builtin.«len»
 refine wpAny_bind (m:=oneArg "len" _) (wpAny_pure ?_)
 refine wpAny_bind (m:=callSpecial? (.ref d) (Str.ofString "__len__")) (wpAny_callSpecial?_slot (name:=Str.ofString "__len__") hT PySem.F.slot_dict_len
  (wpAny_call_entry PySem.F.slot_dict_len hT PySem.F.entry_dict_len ?_ (PySem.F.args_dict_len_1 _)))
 show wpAny _ _ (dictSize d >>= _) _ _ s
 unfold dictSize
 refine wpAny_bind (wpAny_bind (wpAny_dictEntries h rfl (wpAny_pure ?_)))
 show wpAny _ _ (Builtin.Dict.pendingCount d >>= _) _ _ s
 refine wpAny_bind (wpAny_pendingCount_other hd ?_)
 rw [show ((es.size:Nat):Int)+((0:Nat):Int)=(es.size:Int) from Int.add_zero _]
 refine wpAny_ret_mkInt ?_
 refine wpAny_bind (wpAny_holding (wpAny_pure ?_))
 refine wpAny_bind (wpAny_letGo ?_)
 show wpAny _ _ (if ((es.size:Nat):Int) < 0 then _ else _) _ _ _
 rw [if_neg (Int.not_lt.mpr (Int.natCast_nonneg _))]
 show wpAny _ _ (if ((es.size:Nat):Int) ≥ 2 ^ 63 then _ else _) _ _ _
 rw [if_neg (Int.not_le.mpr (big_hi (Int.ofNat_le.mpr hz)))]
 exact wpAny_bind (wpAny_mkInt (wpAny_pure ⟨_,rfl,q⟩))
theorem minI_spec {Y:List AV->Prop}:∀ {l:List AV} {m:Int},minI l=some m->(∀ ns:List Int,m∈ns->(∀ a∈ns,m<=a)->Y (ns.map .int))->Y l
 | [],_,h,_=>nomatch h
 | [x],m,h,k=>bindK h fun i e h=>AV.i?S e▸k [i] (Option.some.inj h▸.head _) fun a ha=>by rw [List.mem_singleton.mp ha,Option.some.inj h]; exact Int.le_refl _
 | x::y::l,m,h,k=>bindK h fun i e h=>mapsK h fun b hb h=>AV.i?S e▸minI_spec (Y:=fun l=>Y (.int i::l)) hb fun ns h1 h2=>k (i::ns)
   (h▸(by split; exact .tail _ h1; exact .head _)) fun a ha=>by
    subst h
    have:=fun z=>h2 a z
    rcases List.mem_cons.mp ha with rfl | ha
    ·split <;> omega
    ·have:=h2 a ha; split <;> omega
theorem VRs.ints:∀ {ns:List Int} {vs:List Value},VRs c m (ns.map .int) vs->IntsAre vs ns
 | [],_,V=>V.nilK (Z:=fun vs=>IntsAre vs []) .nil
 | n::ns,_,V=>V.consK (Z:=fun vs=>IntsAre vs (n::ns)) fun w r a k=>a.intK (Y:=fun w=>IntsAre (w::r) (n::ns)) fun t=>.cons _ t (VRs.ints k)
theorem min_av {l:Addr} {vs:Array Value} {n:Nat} {q:Int} {la:List AV} {Q:Value->Shared->Prop} (hh:A.handled=none) (h:s.heap.get? l=some (lstObj vs n)) (V:VRs c m la vs.toList) (hm:minI la=some q)
  (k:∀ t h' tk,(∀ b o,s.heap.get? b=some o->h'.get? b=some o)->Q (.int q t) { s with heap:=h',toks:=tk }):wpAny (model c.prog c.w) A (call (.builtin "min") [.ref l]) Q E s :=
 minI_spec (Y:=fun la=>VRs c m la vs.toList->wpAny (model c.prog c.w) A (call (.builtin "min") [.ref l]) Q E s) hm (fun ns h1 h2 V=>by
  have hi:=V.ints
  have hl:s.heap.IsList l vs:=⟨_,h,rfl,n,rfl⟩
  obtain ⟨xs,e⟩:=hi.allInts.items
  have hns:ns=xs.toList.map (·.1):=by rw [← hi.numsOf,← nums_intItems,← e]
  have hlen:ns.length=xs.size:=by rw [hns,List.length_map,Array.length_toList]
  have hsz:0 < xs.size:=hlen▸List.length_pos_of_mem h1
  have e':vs=intItems xs:=(Array.toArray_toList ..).symm.trans e
  rw [e'] at hl
  refine min_intList hh hl hsz fun v h' tk hv hk=>?_
  obtain ⟨t,rfl⟩:=intItems_at hv
  obtain ⟨g1,g2⟩:=argBest_lt (numAt xs) (xs.size - 1)
  have z1:numAt xs (argBest (fun i j=>decide (numAt xs i < numAt xs j)) (xs.size - 1))∈ns:=by rw [hns,numAt_eq]; exact getD_mem (by rw [← hns,hlen]; omega)
  have z2:numAt xs (argBest (fun i j=>decide (numAt xs i < numAt xs j)) (xs.size - 1))<=q:=by
   rw [hns] at h1
   obtain ⟨j,hj,rfl⟩:=mem_getD h1
   rw [← hns,hlen] at hj
   rw [← numAt_eq]; exact g2 j (Nat.le_sub_one_of_lt hj)
  rw [Int.le_antisymm z2 (h2 _ z1)]
  exact k _ _ _ hk) V
end
end Mine.Internal
namespace Mine.Internal
open PySem PySem.W PySem.Calls PyProof.Rows
section
variable {prog:Program} {w:World} {A:Around} {E:Value->Shared->Prop} {s:Shared}
theorem run_wp {α:Type} {cmp:Nat->Nat->(Bool->Shared->Prop)->Shared->Prop} {o:Nat->Nat->Option Bool} (ho:∀ i j b,o i j=some b->∀ C,C b s->cmp i j C s):∀ {t:KasT α} {p:α},runK t o=some p->∀ {G:α->Shared->Prop},G p s->t.kasWp cmp G s
 | .ret a,p,h,G,g=>(Option.some.inj h:a=p)▸g
 | .ask i j k,p,h,G,g=>by
  unfold runK at h
  cases hb:o i j with
  | some b=>rw [hb] at h; exact ho i j b hb _ (run_wp ho h g)
  | none=>rw [hb] at h; exact nomatch h
theorem list_sort_at {a:Addr} {vs:List Value} {n:Nat} {κ:SortKind} {p:Array Nat} {P:PySem.Fin->Shared->Prop} (ho:s.heap.get? a=some (seqObj "list" vs.toArray n)) (h2:2<=vs.length) (h64:vs.length < 64)
  (hkind:∀ (s':Shared) (Q:SortKind->Shared->Prop),(∀ b o,b≠a->s.heap.get? b=some o->s'.heap.get? b=some o)->Q κ s'->wpAny (model prog w) A (keyKind' vs.toArray) Q E s')
  (hrun:∀ (s':Shared) (G:Array Nat->Shared->Prop),(∀ b o,b≠a->s.heap.get? b=some o->s'.heap.get? b=some o)->G p s'->(kas_sort vs.length).kasWp (kas_ask prog w A κ vs) G s')
  (h:∀ h' c,(∀ b o,b≠a->s.heap.get? b=some o->h'.get? b=some o)->h'.get? a=some (seqObj "list" (p.map fun i=>vs.getD i Value.none) c)->P (.done (.ret .none)) { s with heap:=h' }) :
  wpAny (model prog w) A (Builtin.«list.sort» ⟨[.ref a],[]⟩) P E s:=by
 have ha:a < s.heap.objs.size:=Heap.lt_size ho
 have s1:=Heap.SameBut.update s.heap a (Obj.mapSeq fun _=>(#[]:Array Value))
 obtain ⟨e1,ho1⟩:∃ e1,(s.heap.update a (Obj.mapSeq fun _=>(#[]:Array Value))).get? a=some (seqObj "list" #[] e1):=⟨_,get?_update_seq ho fun _=>#[]⟩
 have keep:∀ b o,b≠a->s.heap.get? b=some o->(((s.heap.update a (Obj.mapSeq fun _=>(#[]:Array Value))).push (seqObj "tuple" vs.toArray 0)).push (seqObj "list" #[] 0)).get? b=some o :=
  fun b o hb e=>Heap.get?_push_of_some _ (Heap.get?_push_of_some _ ((s1.2 b hb).trans e))
 have ho3:(((s.heap.update a (Obj.mapSeq fun _=>(#[]:Array Value))).push (seqObj "tuple" vs.toArray 0)).push (seqObj "list" #[] 0)).get? a=some (seqObj "list" #[] e1):=Heap.get?_push_of_some _ (Heap.get?_push_of_some _ ho1)
 rw [list_sort_plain]
 refine wpAny_bind (listItems_at ho rfl ?_)
 refine wpAny_bind (listUpdate_at ho rfl ?_ (by rw [List.size_toArray,sizeLine_eq]; omega) (Nat.zero_le _))
 refine wpAny_bind (seqEpoch_at ho1 rfl ?_)
 refine wpAny_bind (wpAny_newTuple ?_ (by show vs.length<=_; rw [sizeLine_eq]; omega))
 refine wpAny_bind (wpAny_newList ?_ (Nat.zero_le _))
 refine wpAny_holding ?_
 show wpAny (model prog w) A _ P E { s with heap:=((s.heap.update a (Obj.mapSeq fun _=>(#[]:Array Value))).push (seqObj "tuple" vs.toArray 0)).push (seqObj "list" #[] 0) }
 dsimp only
 have hn2:¬ vs.toArray.size < 2:=by rw [List.size_toArray]; omega
 rw [if_neg hn2,if_neg hn2]
 refine wpAny_bind (hkind _ _ keep ?_)
 have est:SortSt.mk' κ (vs.toArray.zip vs.toArray) #[] 7 none=kas_st κ (PyProof.Rows.pairsOf vs) (List.toArray (List.range vs.length)):=by
  have e:=kas_range (PyProof.Rows.pairsOf vs)
  rw [pairsOf_size] at e
  show SortSt.mk' κ (PyProof.Rows.pairsOf vs) #[] 7 none=SortSt.mk' κ ((List.toArray (List.range vs.length)).map (kas_item (PyProof.Rows.pairsOf vs))) #[] 7 none
  rw [e]
 have ask:=hrun { s with heap:=((s.heap.update a (Obj.mapSeq fun _=>(#[]:Array Value))).push (seqObj "tuple" vs.toArray 0)).push (seqObj "list" #[] 0) }
  (fun p' s'=>p'=p/\s'={ s with heap:=((s.heap.update a (Obj.mapSeq fun _=>(#[]:Array Value))).push (seqObj "tuple" vs.toArray 0)).push (seqObj "list" #[] 0) }) keep ⟨rfl,rfl⟩
 rw [kas_ask_eq] at ask
 have run:=kas_runs (E:=E) (Q:=fun _ st' s'=>arrOf st'=p.map (kas_item (PyProof.Rows.pairsOf vs))/\failedOf st'=none/\p.size=vs.length/\s'={ s with heap:=((s.heap.update a (Obj.mapSeq fun _=>(#[]:Array Value))).push (seqObj "tuple" vs.toArray 0)).push (seqObj "list" #[] 0) })
  h2 h64 (fun p' st' s' a1 a2 a3 (a4:p'=p/\_)=>by obtain ⟨rfl,e⟩:=a4; exact ⟨a2,a3,a1,e⟩) ask
 rw [← est] at run
 refine wpAny_bind (wpAny_mono run ?_ fun _ _ e=>e)
 rintro ⟨⟨⟩,st'⟩ s' ⟨har,hf,hp,rfl⟩
 dsimp only
 have hout:(arrOf st').map (·.2)=p.map fun i=>vs.getD i Value.none:=by
  rw [har,Array.map_map]
  exact Array.map_congr_left fun i _=>by show (kas_item (PyProof.Rows.pairsOf vs) i).2=_; rw [kas_item_eq]
 have hsz:(p.map fun i=>vs.getD i Value.none).size=vs.length:=by rw [Array.size_map,hp]
 rw [hout]
 have s2:=Heap.SameBut.update (((s.heap.update a (Obj.mapSeq fun _=>(#[]:Array Value))).push (seqObj "tuple" vs.toArray 0)).push (seqObj "list" #[] 0)) a (Obj.mapSeq fun _=>p.map fun i=>vs.getD i Value.none)
 refine wpAny_bind (seqEpoch_at ho3 rfl ?_)
 refine wpAny_bind (listUpdate_at ho3 rfl ?_ (Nat.zero_le _) (ltr (Nat.le_of_eq hsz) (by rw [sizeLine_eq]; omega)))
 rw [hf]
 simp only [bne_self_eq_false,Bool.false_eq_true,if_false]
 exact wpAny_pure (h _ _ (fun b o hb e=>(s2.2 b hb).trans (keep b o hb e)) (get?_update_seq ho3 fun _=>p.map fun i=>vs.getD i Value.none))
theorem list_sort_small {a:Addr} {vs:List Value} {n:Nat} {P:PySem.Fin->Shared->Prop} (ho:s.heap.get? a=some (seqObj "list" vs.toArray n)) (h2:vs.length < 2)
  (h:∀ h' c,(∀ b o,b≠a->s.heap.get? b=some o->h'.get? b=some o)->h'.get? a=some (seqObj "list" vs.toArray c)->P (.done (.ret .none)) { s with heap:=h' }) :
  wpAny (model prog w) A (Builtin.«list.sort» ⟨[.ref a],[]⟩) P E s:=by
 have s1:=Heap.SameBut.update s.heap a (Obj.mapSeq fun _=>(#[]:Array Value))
 obtain ⟨e1,ho1⟩:∃ e1,(s.heap.update a (Obj.mapSeq fun _=>(#[]:Array Value))).get? a=some (seqObj "list" #[] e1):=⟨_,get?_update_seq ho fun _=>#[]⟩
 have keep:∀ b o,b≠a->s.heap.get? b=some o->(((s.heap.update a (Obj.mapSeq fun _=>(#[]:Array Value))).push (seqObj "tuple" vs.toArray 0)).push (seqObj "list" #[] 0)).get? b=some o :=
  fun b o hb e=>Heap.get?_push_of_some _ (Heap.get?_push_of_some _ ((s1.2 b hb).trans e))
 have ho3:(((s.heap.update a (Obj.mapSeq fun _=>(#[]:Array Value))).push (seqObj "tuple" vs.toArray 0)).push (seqObj "list" #[] 0)).get? a=some (seqObj "list" #[] e1):=Heap.get?_push_of_some _ (Heap.get?_push_of_some _ ho1)
 rw [list_sort_plain]
 refine wpAny_bind (listItems_at ho rfl ?_)
 refine wpAny_bind (listUpdate_at ho rfl ?_ (by rw [List.size_toArray,sizeLine_eq]; omega) (Nat.zero_le _))
 refine wpAny_bind (seqEpoch_at ho1 rfl ?_)
 refine wpAny_bind (wpAny_newTuple ?_ (by show vs.length<=_; rw [sizeLine_eq]; omega))
 refine wpAny_bind (wpAny_newList ?_ (Nat.zero_le _))
 refine wpAny_holding ?_
 show wpAny (model prog w) A _ P E { s with heap:=((s.heap.update a (Obj.mapSeq fun _=>(#[]:Array Value))).push (seqObj "tuple" vs.toArray 0)).push (seqObj "list" #[] 0) }
 dsimp only
 have hn2:vs.toArray.size < 2:=by rw [List.size_toArray]; omega
 rw [if_pos hn2,if_pos hn2]
 refine wpAny_bind (wpAny_pure ?_)
 rw [StateT.run_pure]
 refine wpAny_bind (wpAny_pure ?_)
 dsimp only
 have hout:(arrOf (SortSt.mk' general' (vs.toArray.zip vs.toArray) #[] 7 none)).map (·.2)=vs.toArray:=by
  show ((vs.toArray.zip vs.toArray).map (·.2))=vs.toArray
  match vs,h2 with
  | [],_=>simp
  | [x],_=>simp
  | _::_::_,h2=>simp at h2; omega
 refine wpAny_bind (seqEpoch_at ho3 rfl ?_)
 rw [hout]
 refine wpAny_bind (listUpdate_at ho3 rfl ?_ (Nat.zero_le _) (by show vs.toArray.size<=_; rw [List.size_toArray,sizeLine_eq]; omega))
 simp only [bne_self_eq_false,Bool.false_eq_true,if_false]
 have s2:=Heap.SameBut.update (((s.heap.update a (Obj.mapSeq fun _=>(#[]:Array Value))).push (seqObj "tuple" vs.toArray 0)).push (seqObj "list" #[] 0)) a (Obj.mapSeq fun _=>vs.toArray)
 exact wpAny_pure (h _ _ (fun b o hb e=>(s2.2 b hb).trans (keep b o hb e)) (get?_update_seq ho3 fun _=>vs.toArray))
end
end Mine.Internal
namespace Mine.Internal
open PySem PySem.W PySem.Calls PyProof.Rows
section
variable {c:Cx} {P:Pg} {M:Ms} {r:Ev} {N:Nat} {f:Fm} {A:Around} {fr:FrA} {J J':AH} {m:Mp} {s:Shared} {E:Value->Shared->Prop}
theorem natlist_asymm:∀ {a b:List Nat},a < b->¬ b < a:=fun h h'=>absurd (List.lt_trans h h') (List.lt_irrefl _)
theorem blt_false {i j:Nat} (h:¬ i < j):Nat.blt i j=false:=Bool.eq_false_iff.mpr fun e=>h (Nat.blt_eq.mp e)
theorem wd_lt (G:Gd c P M) {i j:Nat} (hi:i < c.nw) (hj:j < c.nw):decide ((c.wd i).cps.toList < (c.wd j).cps.toList)=Nat.blt i j:=by
 rcases Nat.lt_trichotomy i j with h | h | h
 ·exact (decide_eq_true (G.ord _ _ h hj)).trans (Nat.blt_eq.mpr h).symm
 ·subst h; exact (decide_eq_false (List.lt_irrefl _)).trans (blt_false (Nat.lt_irrefl _)).symm
 ·exact (decide_eq_false (natlist_asymm (G.ord _ _ h hi))).trans (blt_false (Nat.not_lt_of_lt h)).symm
theorem VRs.getD_all:∀ {l:List AV} {vs:List Value},VRs c m l vs->∀ i:Nat,VR c m (l.getD i .none) (vs.getD i .none)
 | [],_,V,i=>V.nilK (Z:=fun vs=>VR c m (List.getD [] i .none) (vs.getD i .none)) .none
 | v::l,_,V,0=>V.consK (Z:=fun vs=>VR c m v (vs.getD 0 .none)) fun _ _ a _=>a
 | v::l,_,V,i+1=>V.consK (Z:=fun vs=>VR c m (l.getD i .none) (vs.getD (i+1) .none)) fun _ _ _ k=>VRs.getD_all k i
theorem VRs.map_getD {l:List AV} {vs:List Value} (V:VRs c m l vs):∀ p:List Nat,VRs c m (p.map fun i=>l.getD i .none) (p.map fun i=>vs.getD i .none)
 | []=>.nil
 | i::p=>.cons (V.getD_all i) (VRs.map_getD V p)
theorem VRs.mem_right {v:Value} {Z:Prop}:∀ {l:List AV} {vs:List Value},VRs c m l vs->v∈vs->(∀ x∈l,VR c m x v->Z)->Z:=by
 intro l
 induction l with
 | nil =>
  intro _ V h _
  exact V.nilK (Z:=fun vs=>v∈vs->Z) (fun h=>nomatch h) h
 | cons x l ih =>
  intro _ V h z
  exact V.consK (Z:=fun vs=>v∈vs->Z) (fun w r a k h=>(List.mem_cons.mp h).elim (fun e=>z x (.head _) (e▸a)) fun h=>ih k h fun x hx=>z x (.tail _ hx)) h
theorem getD_cases:∀ (l:List AV) (i:Nat),l.getD i .none=.none∨l.getD i .none∈l
 | [],_=>.inl rfl
 | _::_,0=>.inr (.head _)
 | _::l,i+1=>(getD_cases l i).imp id (.tail _)
theorem sortv_cases {Y:List AV->Prop}:∀ {l l':List AV},sortv l=some l'->(l.length < 2->Y l) ->
  (2<=l.length->(l.all isInt||l.all isPair)=true->l.length < 64->∀ p,runK (kas_sort l.length) (fun i j=>ltv (l.getD i .none) (l.getD j .none))=some p->Y (p.toList.map fun i=>l.getD i .none))->Y l'
 | [],_,h,k0,_=>someK h (k0 (Nat.zero_lt_succ _))
 | [_],_,h,k0,_=>someK h (k0 (Nat.lt_succ_self _))
 | _::_::l,_,h,_,k1=>chkK h fun hc h=>andK hc fun h1 h2=>mapK h fun p hp=>k1 (Nat.le_add_left 2 l.length) h1 (Nat.blt_eq.mp h2) p hp
theorem ltv_l {Y:AV->Prop} {x y:AV} {b:Bool} {p:AV->Bool} (hx:x=.none∨p x=true) (h:ltv x y=some b):p x=true:=hx.elim (fun e=>nomatch (e▸h:ltv .none y=some b)) id
theorem ask_int {x y:AV} {v w:Value} {b:Bool} {C:Bool->Shared->Prop} (hx:x=.none∨isInt x=true) (vx:VR c m x v) (vy:VR c m y w) (h:ltv x y=some b) (q:C b s):wpAny (model c.prog c.w) A (keyLt' oneType' v w) C E s :=
 (Option.isSome_iff_exists.mp (ltv_l (Y:=fun _=>True) hx h)).elim fun i hi=>mapsK (AV.i?S hi▸h:(ltv (.int i) y)=some b) fun j hj e=>vx.ofI (Y:=fun v=>wpAny (model c.prog c.w) A (keyLt' oneType' v w) C E s) hi fun t=>vy.ofI (Y:=fun w=>wpAny (model c.prog c.w) A (keyLt' oneType' (.int i t) w) C E s) hj fun u=>kat_lt_int (e▸q)
theorem isPair_tup {x:AV} {Y:AV->Prop} (h:isPair x=true) (k:∀ i j,Y (.tup [.str i,.str j])):Y x :=
 optBK h fun p e h=>bindK e fun l e1 e2=>andK h fun h1 h2=>(Option.isSome_iff_exists.mp h1).elim fun i h1=>(Option.isSome_iff_exists.mp h2).elim fun j h2=>AV.t?S e1▸two?S e2▸AV.s?S h1▸AV.s?S h2▸k i j
theorem VR.pair {i j:Nat} {v:Value} {Y:Value->Prop} (h:VR c m (.tup [.str i,.str j]) v) (k:∀ a vs n t u,m.fz a=some (tupObj vs n)->vs.toList=[.str (c.wd i) t,.str (c.wd j) u]->i < c.nw->j < c.nw->Y (.ref a)):Y v :=
 h.tupK fun a vs n fa Ra=>VRs.consK (Z:=fun l=>vs.toList=l->Y (.ref a)) Ra (fun w r a1 R=>R.consK (Z:=fun r=>vs.toList=w::r->Y (.ref a)) fun w' r' a2 R=>R.nilK (Z:=fun r'=>vs.toList=w::w'::r'->Y (.ref a)) (a1.strK (Y:=fun w=>vs.toList=[w,w']->Y (.ref a)) fun t hi=>a2.strK (Y:=fun w'=>vs.toList=[.str (c.wd i) t,w']->Y (.ref a)) fun u hj e=>k a vs n t u fa e hi hj)) rfl
theorem two_size {vs:Array Value} {a b:Value} (e:vs.toList=[a,b]):vs.size=2:=(congrArg List.length e:vs.toList.length=2)
theorem ask_pair (G:Gd c P M) (hu:A.units+100 < cLine) {x y:AV} {v w:Value} {b:Bool} {C:Bool->Shared->Prop} (hz:∀ b o,m.fz b=some o->s.heap.get? b=some o) (hx:x=.none∨isPair x=true) (hy:y=.none∨isPair y=true) (vx:VR c m x v) (vy:VR c m y w) (h:ltv x y=some b) (q:C b s) :
  wpAny (model c.prog c.w) A (keyLt' (tuples' true) v w) C E s :=
 isPair_tup (Y:=fun x=>VR c m x v->ltv x y=some b->wpAny (model c.prog c.w) A (keyLt' (tuples' true) v w) C E s) (ltv_l (Y:=fun _=>True) hx h) (fun i j vx h=>hy.elim (fun e=>nomatch (e▸h:ltv (.tup [.str i,.str j]) .none=some b)) fun hy =>
  isPair_tup (Y:=fun y=>VR c m y w->ltv (.tup [.str i,.str j]) y=some b->wpAny (model c.prog c.w) A (keyLt' (tuples' true) v w) C E s) hy (fun k l vy h=>vx.pair (Y:=fun v=>wpAny (model c.prog c.w) A (keyLt' (tuples' true) v w) C E s) fun a vs n t u fa ea hi hj=>vy.pair (Y:=fun w=>wpAny (model c.prog c.w) A (keyLt' (tuples' true) (.ref a) w) C E s) fun a' vs' n' t' u' fa' ea' hk hl=>by
   refine kat_lt (hz _ _ fa) rfl (hz _ _ fa') rfl ?_
   rw [ea,ea',two_size ea,two_size ea']
   refine kat_cons (eqAt_av (m:=m) G hz hu (x:=.str i) (y:=.str k) rfl rfl (.str i t hi) (.str k t' hk) _ _ _ _ ?_)
   exact condK (show cond (Nat.beq i k) (cond (Nat.beq j l) (some false) (some (Nat.blt j l))) (some (Nat.blt i k))=some b from h) (fun q1 h=>by
    rw [show eqB (.str i) (.str k)=true from q1]
    refine kat_yes (kat_cons (eqAt_av (m:=m) G hz hu (x:=.str j) (y:=.str l) rfl rfl (.str j u hj) (.str l u' hl) _ _ _ _ ?_))
    exact condK h (fun q2 h=>by rw [show eqB (.str j) (.str l)=true from q2]; exact kat_yes (kat_nil (show C false s from Option.some.inj h▸q))) fun q2 h=>by
     rw [show eqB (.str j) (.str l)=false from q2]
     refine kat_no (kat_one _ _ (lt_str ?_))
     show C _ s
     rw [wd_lt G hj hl]; exact Option.some.inj h▸q) fun q1 h=>by
    rw [show eqB (.str i) (.str k)=false from q1]
    refine kat_no (oneLt_str ?_)
    rw [wd_lt G hi hk]; exact Option.some.inj h▸q) vy h) vx h
theorem kat_pairs {h':Heap} (hz:∀ b o,m.fz b=some o->h'.get? b=some o) {Z:Prop}:∀ {l:List AV} {vs:List Value},VRs c m l vs->l.all isPair=true->(∀ fs,KatTups h' vs fs->fs.length=vs.length->(∀ v∈fs,∃ x t,v=.str x t)->Z)->Z:=by
 intro l
 induction l with
 | nil =>
  intro _ V _ z
  exact V.nilK (Z:=fun vs=>(∀ fs,KatTups h' vs fs->fs.length=vs.length->(∀ v∈fs,∃ x t,v=.str x t)->Z)->Z) (fun z=>z [] trivial rfl fun _ h=>nomatch h) z
 | cons x l ih =>
  intro _ V h z
  exact V.consK (Z:=fun vs=>(∀ fs,KatTups h' vs fs->fs.length=vs.length->(∀ v∈fs,∃ x t,v=.str x t)->Z)->Z) (fun w r a k z=>andK h fun h1 h2 =>
    isPair_tup (Y:=fun x=>VR c m x w->Z) h1 (fun i j a=>a.pair (Y:=fun w=>(∀ fs,KatTups h' (w::r) fs->fs.length=(w::r).length->(∀ v∈fs,∃ x t,v=.str x t)->Z)->Z) (fun a' vs n t u fa ea hi hj z=>ih k h2 fun fs k1 k2 k3 =>
     z (.str (c.wd i) t::fs) (.cons (hz _ _ fa) rfl rfl ((Array.getElem?_toList ..).symm.trans (ea▸rfl)) k1) (congrArg (·+1) k2) fun v hv=>(List.mem_cons.mp hv).elim (fun e=>⟨_,_,e⟩) (k3 v)) z) a) z
theorem sort_av (G:Gd c P M) {a:Addr} {vs:List Value} {n:Nat} {l l':List AV} {Q:PySem.Fin->Shared->Prop} (hz:∀ b o,m.fz b=some o->s.heap.get? b=some o) (hfa:m.fz a=none) (hu:A.units+100 < cLine) (ho:s.heap.get? a=some (seqObj "list" vs.toArray n)) (V:VRs c m l vs) (hs:sortv l=some l')
  (h:∀ h' c' ws,(∀ b o,b≠a->s.heap.get? b=some o->h'.get? b=some o)->h'.get? a=some (lstObj ws c')->VRs c m l' ws.toList->Q (.done (.ret .none)) { s with heap:=h' }) :
  wpAny (model c.prog c.w) A (Builtin.«list.sort» ⟨[.ref a],[]⟩) Q E s:=by
 have hlen:=V.length
 refine sortv_cases (Y:=fun l'=>(∀ h' c' ws,(∀ b o,b≠a->s.heap.get? b=some o->h'.get? b=some o)->h'.get? a=some (lstObj ws c')->VRs c m l' ws.toList->Q (.done (.ret .none)) { s with heap:=h' })->_) hs (fun h1 h=>list_sort_small ho (hlen▸h1) fun h' c' hk hat=>h h' c' _ hk hat V) (fun h2 hk h64 p hp h=>?_) h
 rw [hlen] at hp h2 h64
 have fin:∀ h' c',(∀ b o,b≠a->s.heap.get? b=some o->h'.get? b=some o)->h'.get? a=some (seqObj "list" (p.map fun i=>vs.getD i Value.none) c')->Q (.done (.ret .none)) { s with heap:=h' } :=
  fun h' c' hk hat=>h h' c' _ hk hat (by rw [Array.toList_map]; exact V.map_getD p.toList)
 have hz':∀ {s':Shared},(∀ b o,b≠a->s.heap.get? b=some o->s'.heap.get? b=some o)->∀ b o,m.fz b=some o->s'.heap.get? b=some o:=fun hk b o e=>hk b o (fun r=>nomatch (r▸hfa:m.fz b=none).symm.trans e) (hz _ _ e)
 cases hi:l.all isInt with
 | true =>
  have hin:=List.all_eq_true.mp hi
  exact list_sort_at (κ:=oneType') ho h2 h64 (fun s' Q hk q=>kas_kind (T:=.type "int") h2 (fun v hv=>V.mem_right hv fun x hx W=>(Option.isSome_iff_exists.mp (hin x hx)).elim fun i e=>W.ofI (Y:=fun v=>Looks _ _ (typeOf v) _) e fun _=>Looks.of_pure rfl) (by decide) (by decide) q)
   (fun s' G' hk g=>run_wp (fun i j b hb C hC=>ask_int ((getD_cases l i).imp id (hin _)) (V.getD_all i) (V.getD_all j) hb hC) hp g) fin
 | false =>
  rw [hi] at hk
  have hin:=List.all_eq_true.mp hk
  exact list_sort_at (κ:=tuples' true) ho h2 h64 (fun s' Q hk' q=>kat_pairs (hz' hk') V hk fun fs k1 k2 k3=>kat_kind (T:=.type "str") k1 (k2▸Nat.lt_of_lt_of_le Nat.zero_lt_two h2) (fun v hv=>(k3 v hv).elim fun x e=>e.elim fun t e=>e▸Looks.of_pure rfl) (by decide) q)
   (fun s' G' hk' g=>run_wp (fun i j b hb C hC=>ask_pair G hu (hz' hk') ((getD_cases l i).imp id (hin _)) ((getD_cases l j).imp id (hin _)) (V.getD_all i) (V.getD_all j) hb hC) hp g) fin
end
end Mine.Internal
namespace Mine.Internal
open PySem PySem.W PySem.Calls PyProof.Rows
section
variable {c:Cx} {P:Pg} {M:Ms} {r:Ev} {N:Nat} {f:Fm} {A:Around} {fr:FrA} {J J':AH} {m:Mp} {s:Shared} {E:Value->Shared->Prop}
theorem keys_of {es:Array DictEntry} {acc:Array Value} (h:ItemsOf (fun i v=>∃ e,es[i]?=some e/\v=e.key) acc es.size):acc.toList=es.toList.map DictEntry.key:=by
 apply List.ext_getElem?
 intro i
 rw [Array.getElem?_toList,List.getElem?_map,Array.getElem?_toList]
 by_cases hi:i < acc.size
 ·obtain ⟨e,he,hv⟩:=h.2 i acc[i] (Array.getElem?_eq_getElem hi)
  rw [he,Array.getElem?_eq_getElem hi,hv]; rfl
 ·rw [Array.getElem?_eq_none (Nat.not_lt.mp hi),Array.getElem?_eq_none (h.1▸Nat.not_lt.mp hi)]; rfl
theorem DicAt.keysOf {a:Addr} {h:Heap} {es:Array DictEntry} {n:Nat} {ks:List (AV×AV)} {l:List AV} (D:DicAt c m h a ks es n) (e:ks.map (·.1)=l):VRs c m l (es.toList.map DictEntry.key):=e▸D.rows.keyVals
theorem DicAt.sizeLe {a:Addr} {h:Heap} {es:Array DictEntry} {n:Nat} {ks:List (AV×AV)} {l:List AV} (D:DicAt c m h a ks es n) (e:ks.map (·.1)=l) (hl:l.length<=1000):es.size<=sizeLine:=by
 have:es.size=l.length:=by rw [← e,List.length_map]; exact D.rows.length.symm
 exact this▸size_le hl
theorem collect_av {a:Addr} {l:List AV} {Q:List Value->Shared->Prop} (hh:A.handled=none) (I:ItemsAt c m s.heap a l) (hno:∀ vs n,s.heap.get? a≠some (tupObj vs n)) (hl:l.length<=1000)
  (k:∀ h' tk vs,(∀ b o,s.heap.get? b=some o->h'.get? b=some o)->VRs c m l vs->Q vs { s with heap:=h',toks:=tk }):wpAny (model c.prog c.w) A (collect (.ref a)) Q E s :=
 match I with
 | .lst (vs:=vs) (n:=n) h V=>collect_list (vs:=vs.toList) ⟨_,h,rfl,n,by rw [Array.toArray_toList]⟩ (k _ s.toks _ (fun b o e=>(Heap.get?_update_ne _ _ _ _ (Nat.ne_of_lt (Heap.lt_size e))).trans (Heap.get?_push_of_some _ e)) V) (V.length▸size_le hl)
 | .tup h _=>absurd h (hno _ _)
 | .dic D e=>kdu_collect (src_dic D.low) hh D.at_ (D.sizeLe e hl) fun h' tk acc hk hacc=>k h' tk _ hk (keys_of hacc▸D.keysOf e)
section
variable (x:St c f fr m J s) (hh:A.handled=none) {a:Addr} {Q:Value->Shared->Prop}
include x
theorem grown_none {h':Heap} (hk:∀ b o,s.heap.get? b=some o->h'.get? b=some o) {b:Addr} (hb:h'.get? b=none):s.heap.get? b=none:=Option.eq_none_iff_forall_ne_some.mpr fun _ q=>nomatch hb.symm.trans (hk _ _ q)
theorem St.endLo:c.lo<=s.heap.objs.size:=ltr x.lowL (Nat.le_of_lt x.locLt)
include hh
theorem sorted_av (G:Gd c P M) {l l':List AV} (hu:A.units+200 < cLine) (I:ItemsAt c m s.heap a l) (hno:∀ vs n,s.heap.get? a≠some (tupObj vs n)) (hl:l.length<=1000) (hl':l'.length<=1000) (hs:sortv l=some l') (k:Kt c f fr m J s (J.new (.lst l')).1 (J.new (.lst l')).2 Q) :
  wpAny (model c.prog c.w) A (call (.builtin "sorted") [.ref a]) Q E s:=by
 refine Calls.call_function_entry kind_sorted plain_sorted entry_sorted (args_sorted1 _) ?_
 unfold Builtin.«sorted»
 refine wpAny_bind (m:=checkCount "sorted" 1 1 _) (wpAny_pure ?_)
 refine wpAny_bind (collect_av (A:=A.in1) hh I hno hl fun h' tk vs hk V=>?_)
 have x1:=x.grown hk (t:=tk)
 have na:h'.get? h'.objs.size=none:=Heap.get?_none_of_le (Nat.le_refl _)
 have u:=Un.ofNone x1 na
 have hfa:m.fz h'.objs.size=none:=Option.eq_none_iff_forall_ne_some.mpr fun _ q=>u.fz x1 q
 refine wpAny_bind (wpAny_newList ?_ (V.length▸size_le hl))
 have hoL:(h'.push (seqObj "list" vs.toArray 0)).get? h'.objs.size=some (seqObj "list" vs.toArray 0):=Heap.get?_push_size _ rfl
 exact wpAny_bind (wpAny_holding (wpAny_call_entry slot_list_sort ⟨_,hoL,rfl⟩ entry_list_sort (sort_av (s:={ s with heap:=h'.push (seqObj "list" vs.toArray 0),toks:=tk }) G (fun b o e=>Heap.get?_push_of_some _ (hk _ _ (x.fzh _ _ e))) hfa (units_le (k:=198) (j:=100) hu (by decide)) hoL V hs fun h2 c2 ws hk2 hat V2 =>
  ⟨_,rfl,wpAny_pure ⟨_,rfl,x.takeList (t:=tk) (fun b o e=>hk2 b o (fun r=>no_some na r.symm (hk _ _ e)) (Heap.get?_push_of_some _ (hk _ _ e))) (grown_none x hk na) x1.endLo hat V2 hl' k⟩⟩) (args_list_sort _)))
theorem list_av {l:List AV} (I:ItemsAt c m s.heap a l) (hl:l.length<=1000) (k:Kt c f fr m J s (J.new (.lst l)).1 (J.new (.lst l)).2 Q):wpAny (model c.prog c.w) A (call (.type "list") [.ref a]) Q E s :=
 have na:s.heap.get? s.heap.objs.size=none:=Heap.get?_none_of_le (Nat.le_refl _)
 match I with
 | .lst h V=>call_list_seq a (.inl rfl) h rfl rfl (fun h' c' hk hat=>x.takeList (t:=s.toks) hk na x.endLo hat V hl k) (size_ok V.size hl)
 | .tup h V=>call_list_seq a (.inr rfl) h rfl rfl (fun h' c' hk hat=>x.takeList (t:=s.toks) hk na x.endLo hat V hl k) (size_ok V.size hl)
 | .dic D e=>kdl_call (src_dic D.low) hh D.at_ (D.sizeLe e hl) fun h' tk acc c' hk hat hacc=>x.takeList (t:=tk) hk na x.endLo hat (keys_of hacc▸D.keysOf e) hl k
omit hh in
theorem tuple_av {vs:Array Value} {n:Nat} {l:List AV} (h:s.heap.get? a=some (lstObj vs n)) (V:VRs c m l vs.toList) (hl:l.length<=1000) (k:Kt c f fr m J s (.tup l) J Q):wpAny (model c.prog c.w) A (call (.type "tuple") [.ref a]) Q E s :=
 call_tuple_list ⟨_,h,rfl,n,rfl⟩ (fun h' hk=>x.takeTup (t:=s.toks) (fun b o e=>Heap.get?_push_of_some _ (hk _ _ e)) (grown_none x hk (Heap.get?_none_of_le (Nat.le_refl _))) (Heap.get?_push_size _ rfl) V k) (size_ok V.size hl)
end
end
end Mine.Internal
namespace Mine.Internal
open PySem PySem.W PySem.Calls PyProof.Rows
theorem keys_miss:typeLookup (.type "list") "keys" = pure none:=by rw [typeLookup_type,builtinLookup_eq_fast]; kernel_rfl
theorem list_no_hook:typeLookup (.type "list") "__getattr__" = pure none:=by rw [typeLookup_type,builtinLookup_eq_fast]; kernel_rfl
section
variable {prog:Program} {w:World} {A:Around} {E:Value->Shared->Prop} {s:Shared}
theorem miss_entry {l:Addr} {vs:Array Value} {n:Nat} {hp:Heap} {g:Array GenState} {d:Drawn} {tk:Nat} {os:OsState} {u:Tok} {Q:PySem.Fin->Shared->Prop} (ho:hp.get? l=some (lstObj vs n)) (hh:A.handled=none)
  (h:∀ h' tk' e,Heap.NewAttrErr hp h' e (.ref l) (Str.ofString "keys")->E (.ref e) ⟨h',g,d,tk',os⟩):wpAny (model prog w) A (Builtin.«object.__getattribute__» ⟨[.ref l,.str (Str.ofString "keys") u],[]⟩) Q E ⟨hp,g,d,tk,os⟩:=by
 have hT:∀ t,(⟨hp,g,d,t,os⟩:Shared).TypeIs (.ref l) "list":=fun t=>⟨_,ho,rfl⟩
 have hT0:=hT tk
 have hm:=keys_miss
 unfold Builtin.«object.__getattribute__»
 repeat (any_goals (first | assumption | wp_step))
 exact wpAny_raiseAttrError hh h (attrMsg_fits (by decide +kernel) (by size_fits))
theorem no_keys {l:Addr} {vs:Array Value} {n:Nat} {Q:Option Value->Shared->Prop} (ho:s.heap.get? l=some (lstObj vs n)) (hh:A.handled=none)
  (q:∀ h' tk,(∀ b o,s.heap.get? b=some o->h'.get? b=some o)->Q none { s with heap:=h',toks:=tk }):wpAny (model prog w) A (getAttr? (.ref l) "keys") Q E s:=by
 obtain ⟨hp,g,d,tk,os⟩:=s
 have hT:∀ t,(⟨hp,g,d,t,os⟩:Shared).TypeIs (.ref l) "list":=fun t=>⟨_,ho,rfl⟩
 have hT0:=hT tk
 have f1:=sub_AttributeError
 have f3:=PySem.F.slot_list_getattribute.lookup
 have f4:=PySem.F.slot_list_getattribute.bind (.ref l)
 have f5:=list_no_hook
 unfold getAttr? getAttrBy? getAttrBy
 repeat (any_goals (first | assumption | ((with_reducible show wpAny _ _ (call (Value.builtin "list.__getattribute__") _ _) _ _ _); refine wpAny_call_entry PySem.F.slot_list_getattribute (hT _) PySem.F.entry_list_ga (miss_entry ho hh fun h' tk' e hx=>?_) (PySem.F.args_list_getattribute_2 _ _)) | wp_step))
 obtain ⟨t',u',he⟩:=hx.there
 repeat (any_goals (first | assumption | wp_step))
 all_goals exact q _ _ hx.keeps
end
theorem entry_update_loop:entryFor table "dict.update.loop" = some Builtin.«dict.update.loop»:=entryFor_of_tree (by kernel_rfl)
theorem plain_update_loop:plainId "dict.update.loop" = true:=by decide +kernel
section
variable {c:Cx} {P:Pg} {M:Ms} {r:Ev} {N:Nat} {f:Fm} {A:Around} {fr:FrA} {J J':AH} {m:Mp} {s:Shared} {E:Value->Shared->Prop}
theorem DicAt.kept {d:Addr} {l:List (AV×AV)} {es:Array DictEntry} {n:Nat} {h h':Heap} (D:DicAt c m h d l es n) (hk:∀ b o,(m.fz b=some o∨b=d)->h.get? b=some o->h'.get? b=some o):DicAt c m h' d l es n :=
 ⟨hk _ _ (.inr rfl) D.at_,D.rows,D.kind,D.nd,D.few,D.low,fun a o e=>hk _ _ (.inl e) (D.hz a o e)⟩
theorem dset_len (k v:AV):∀ l:List (AV×AV),(dset k v l).length<=l.length+1
 | []=>Nat.le_refl _
 | p::l=>by
  unfold dset
  cases eqB p.1 k with
  | true=>exact Nat.le_succ _
  | false=>exact Nat.succ_le_succ (dset_len k v l)
theorem fits_more {a b l:Nat} (h:a+(l+1)<=1000) (hb:b<=a+1):b+l<=1000:=by omega
section
variable (G:Gd c P M) (hh:A.handled=none) (hu:A.units+200 < cLine) {I ax d:Addr} (hId:I≠d) (haI:ax≠I) (had:ax≠d) (items:Array Value) (hfd:m.fz d=none) (hfI:m.fz I=none)
include G hh hu hId haI had hfd hfI
theorem upd_loop:∀ (l:List AV) (i:Nat) (idx:Int) (t:Tok) (ps acc out:List (AV×AV)) (es:Array DictEntry) (n:Nat) (s:Shared) (R:Result->Shared->Prop),VRs c m l (items.toList.drop i)->Mine.Internal.pairsOf l=some ps->dsets ps acc=some out->acc.length+l.length<=1000->i+l.length=items.size ->
  s.heap.IsListIter I ax i->s.heap.IsList ax items->DicAt c m s.heap d acc es n ->
  (∀ h' tk es' n',DicAt c m h' d out es' n'->(∀ b o,b≠d->b≠I->s.heap.get? b=some o->h'.get? b=some o)->R (.ok (.ret .none)) { s with heap:=h',toks:=tk }) ->
  codeAny (model c.prog c.w) A (.builtin "dict.update.loop" ⟨[.ref d,.ref I,.int idx t,.none],[]⟩) R s:=by
 have notI:∀ b o,(m.fz b=some o∨b=d)->b∉[I]:=fun b o hb hm=>by
  cases List.mem_singleton.mp hm
  exact hb.elim (fun hb=>nomatch hfI.symm.trans hb) hId
 have W:=Walks.list (prog:=c.prog) (w:=c.w) (A:=A.in1) hh I ax haI items
 intro l
 induction l with
 | nil =>
  intro i idx t ps acc out es n s R V hp hd hl hi hit hls D k
  cases hp
  cases hd
  refine codeAny_builtin entry_update_loop ?_
  rw [Around.under_plainId plain_update_loop _]
  show wpAny _ A.in1 (pyNext (.ref I) >>= _) _ _ s
  cases (show i=items.size from hi)
  refine wpAny_bind (W.done s _ _ ⟨hit,hls⟩ fun h' tk hk=>?_)
  show wpAny _ _ (Builtin.Dict.addKeywords d [] >>= fun _=>ret .none) _ _ _
  exact wpAny_bind (wpAny_pure (wpAny_pure (k h' tk es n (D.kept fun b o hb e=>hk b o (notI b o hb) e) fun b o h1 h2 e=>hk b o (fun h=>h2 (List.mem_singleton.mp h)) e)))
 | cons x l ih =>
  intro i idx t ps acc out es n s R V hp hd hl hi hit hls D k
  refine bindK hp fun p e hp=>mapK (Y:=fun ps=>dsets ps acc=some out->_) hp (fun q hq hd=>?_) hd
  refine chkK hd fun hf hd=>?_
  have hlt:i < items.size:=hi▸Nat.lt_add_of_pos_right (Nat.zero_lt_succ _)
  have hdrop:items.toList.drop i=items[i]::items.toList.drop (i+1):=by
   rw [List.drop_eq_getElem_cons (by rw [Array.length_toList]; exact hlt),Array.getElem_toList]
  rw [hdrop] at V
  obtain ⟨_,_,e1,V1,V2⟩:=V
  cases e1
  refine codeAny_builtin entry_update_loop ?_
  rw [Around.under_plainId plain_update_loop _]
  show wpAny _ A.in1 (pyNext (.ref I) >>= _) _ _ s
  refine wpAny_bind (W.item i s _ _ hlt ⟨hit,hls⟩ fun v h' tk hP hst' hk=>?_)
  cases (Option.some.inj ((Array.getElem?_eq_getElem hlt).symm.trans hP):items[i]=v)
  have D1:=D.kept fun b o hb e=>hk b o (notI b o hb) e
  have hx:x=.tup [p.1,p.2]:=bindK e fun l' e1 e2=>two?S e2▸AV.t?S e1
  subst hx
  generalize items[i]=it at V1
  obtain ⟨ta,vs,mm,rfl,fa,Ra⟩:=V1
  have ht:h'.get? ta=some (tupObj vs mm):=D1.hz _ _ fa
  obtain ⟨kv,_,hvs,Vk,w,_,e2,Vv,e3⟩:=Ra
  cases e2
  cases e3
  refine wpAny_bind (wpAny_holding ?_)
  refine wpAny_bind (wpAny_tryCatch ?_)
  refine wpAny_bind (wpAny_typeOf (T:="tuple") (s:={ s with heap:=h',toks:=tk }) ⟨_,ht,rfl⟩ ?_)
  rw [if_pos (by decide)]
  refine wpAny_bind (wpAny_seqItems (s:={ s with heap:=h',toks:=tk }) ht rfl (wpAny_pure ?_))
  show wpAny _ _ (match vs.toList with | [k,v]=>_ | _=>_) _ _ _
  rw [hvs]
  have hb:=fits_more hl (dset_len p.1 p.2 acc)
  refine wpAny_holding (dictSet_av (s:={ s with heap:=h',toks:=tk }) G D1 hfd (units_le (k:=199) (j:=100) hu (by decide)) hf Vk Vv (ltr (Nat.le_add_right _ _) hb) fun h2 es2 n2 t2 D2 hs2 ht2=>?_)
  exact wpAny_pure ⟨plainId_quiet plain_update_loop _,ih (i+1) _ _ q _ _ es2 n2 _ R V2 hq hd hb ((Nat.succ_add i l.length).trans hi)
   (hst'.1.at fun o e=>(hs2.2 _ hId).trans e) (hst'.2.at fun o e=>(hs2.2 _ had).trans e) D2 fun h3 tk3 es3 n3 D3 hk3=>k h3 tk3 es3 n3 D3 fun b o h1 h2 e=>hk3 b o h1 h2 ((hs2.2 b h1).trans (hk b o (fun h=>h2 (List.mem_singleton.mp h)) e))⟩
end
end
end Mine.Internal
namespace Mine.Internal
open PySem PySem.W PySem.Calls PyProof.Rows
section
variable {c:Cx} {P:Pg} {M:Ms} {r:Ev} {N:Nat} {f:Fm} {A:Around} {fr:FrA} {J J':AH} {m:Mp} {s:Shared} {E:Value->Shared->Prop}
theorem fz_none (x:St c f fr m J s) {a:Addr} (h:s.heap.get? a=none):m.fz a=none:=Option.eq_none_iff_forall_ne_some.mpr fun _ q=>nomatch h.symm.trans (x.fzh _ _ q)
theorem dict_list_av (G:Gd c P M) (x:St c f fr m J s) (hh:A.handled=none) (hu:A.units+210 < cLine) {i:Nat} {l:List AV} {ps out:List (AV×AV)} (hl:lk J.ob i=some (.lst l)) (hp:Mine.Internal.pairsOf l=some ps) (hd:dsets ps []=some out)
  {Q:Value->Shared->Prop} (k:Kt c f fr m J s (J.new (.dic out)).1 (J.new (.dic out)).2 Q):wpAny (model c.prog c.w) A (call (.type "dict") [.ref (m.ρ i)]) Q E s:=by
 refine x.lst hl fun vs n ha V hlen=>?_
 have na:s.heap.get? s.heap.objs.size=none:=Heap.get?_none_of_le (Nat.le_refl _)
 refine callType_codes (Q₁:=fun obj sd=>obj=.ref s.heap.objs.size/\sd={ s with heap:=s.heap.push { cls:=.type "dict",data:=.dict #[] } }) PySem.F.kt_called_dict (PySem.F.kt_typeCall_dict_1 _) PySem.F.entry_dict_init (kt_code_dict_new _ ⟨rfl,rfl⟩) ?_
 rintro obj sd ⟨rfl,rfl⟩
 have hnew:(s.heap.push { cls:=.type "dict",data:=.dict #[] }).get? s.heap.objs.size=some (dicObj #[] 0):=Heap.get?_push_size _ rfl
 have hT:({ s with heap:=s.heap.push { cls:=.type "dict",data:=.dict #[] } }:Shared).TypeIs (.ref s.heap.objs.size) "dict":=⟨_,hnew,rfl⟩
 have hls:(s.heap.push { cls:=.type "dict",data:=.dict #[] }).get? (m.ρ i)=some (lstObj vs n):=Heap.get?_push_of_some _ ha
 refine ⟨hT,PySem.F.args_dict_init_2 _ _,?_⟩
 unfold Builtin.«dict.__init__»
 refine wpAny_bind ?_
 unfold Builtin.Dict.selfAndRest
 refine wpAny_bind (wpAny_notOrdered_dict hT ?_)
 show wpAny _ _ (pure (s.heap.objs.size,[Value.ref (m.ρ i)])) _ _ _
 refine wpAny_pure ?_
 show wpAny _ _ (Builtin.Dict.updateFrom "dict.__init__" s.heap.objs.size (.ref (m.ρ i)) [] .none) _ _ _
 unfold Builtin.Dict.updateFrom
 refine wpAny_bind (wpAny_typeOf (T:="list") (s:={ s with heap:=s.heap.push { cls:=.type "dict",data:=.dict #[] } }) ⟨_,hls,rfl⟩ ?_)
 rw [if_pos (by decide)]
 refine wpAny_bind (no_keys (s:={ s with heap:=s.heap.push { cls:=.type "dict",data:=.dict #[] } }) hls hh fun h' tk hk=>?_)
 rw [if_pos (by rfl)]
 refine wpAny_bind (wpAny_rule ?_)
 have hls':=hk _ _ hls
 have hnew':=hk _ _ hnew
 refine wpAny_bind (wpAny_pyIter_list (s:={ s with heap:=h',toks:=tk }) ⟨_,hls',rfl,n,rfl⟩ ?_)
 have nI:s.heap.get? h'.objs.size=none:=grown_none x (fun b o e=>hk _ _ (Heap.get?_push_of_some _ e)) (Heap.get?_none_of_le (Nat.le_refl _))
 have gr:∀ b o,s.heap.get? b=some o->(h'.push { cls:=.type "list_iterator",data:=.fields #[.ref (m.ρ i),.int 0 0] }).get? b=some o:=fun b o e=>Heap.get?_push_of_some _ (hk _ _ (Heap.get?_push_of_some _ e))
 exact wpAny_pure ⟨plainId_quiet plain_update_loop _,upd_loop (m:=m) (A:=A.in1) G hh (units_le (k:=209) (j:=200) hu (by decide)) (Nat.ne_of_gt (Heap.lt_size hnew')) (Nat.ne_of_lt (Heap.lt_size hls')) (fun e=>no_some na e.symm ha) vs (fz_none x na) (fz_none x nI) l 0 0 _ ps [] out #[] 0
  { s with heap:=h'.push { cls:=.type "list_iterator",data:=.fields #[.ref (m.ρ i),.int 0 0] },toks:=tk } _ V hp hd (by rw [List.length_nil,Nat.zero_add]; exact hlen) ((Nat.zero_add _).trans V.size.symm)
  ⟨_,Heap.get?_push_size _ rfl,rfl,rfl⟩ ⟨_,Heap.get?_push_of_some _ hls',rfl,n,rfl⟩ (.empty (Heap.get?_push_of_some _ hnew') (x.end_low G).2 fun b o e=>gr _ _ (x.fzh _ _ e)) fun h2 tk2 es2 m2 D2 hk2 =>
   ⟨rfl,x.takeDict (t:=tk2) (fun b o e=>hk2 b o (fun r=>no_some na r.symm e) (fun r=>no_some nI r.symm e) (gr b o e)) na x.endLo D2 k⟩⟩
theorem DRs.ofPairs (G:Gd c P M):∀ {l:List (Nat×AV)} {es es':List DictEntry},DRs c m l es->Pairs (PySem.strKind c.prog c.w) es' (kvs c l es)->(∀ e∈es',∃ k,(PySem.strKind c.prog c.w).is k e.key=true/\e.hash=(PySem.strKind c.prog c.w).hash k)->DRs c m l es':=by
 intro l
 induction l with
 | nil =>
  intro _ _ _ p _
  exact by cases p; exact .nil
 | cons q l ih =>
  intro _ es' D p z
  exact D.consK (D:=fun es=>Pairs (PySem.strKind c.prog c.w) es' (kvs c (q::l) es)->DRs c m (q::l) es') (fun e r hk _ _ hv hr p=>by
   cases p with
   | @cons e' _ es'' _ h1 h2 h3 =>
    obtain ⟨k',hk',hh'⟩:=z e' (.head _)
    exact .cons hk (Value.isStrOf_shape h1) (hh'.trans (congrArg _ ((PySem.strKind c.prog c.w).inj _ _ _ hk' h1))) (h2.symm▸hv) (ih hr h3 fun e he=>z e (.tail _ he))) p
theorem dict_copy_av (G:Gd c P M) (x:St c f fr m J s) {a:Addr} {es:Array DictEntry} {n:Nat} {l:List (Nat×AV)} (ha:s.heap.get? a=some (dicObj es n)) (hm:(a==sysModules)=false) (D:DRs c m l es.toList) (hn:(l.map (·.1)).Nodup) (hl:l.length<=1000)
  {Q:Value->Shared->Prop} (k:Kt c f fr m J s (J.new (.dic (skeys l))).1 (J.new (.dic (skeys l))).2 Q):wpAny (model c.prog c.w) A (call (.type "dict") [.ref a]) Q E s:=by
 have na:s.heap.get? s.heap.objs.size=none:=Heap.get?_none_of_le (Nat.le_refl _)
 refine kt_call_dict hm (D.dictOf G ha hn) ((D.pairs G).len▸size_le hl) fun h' hd hs=>?_
 obtain ⟨⟨_,_,_,_⟩,es',n',ho,⟨h1,h2,h3⟩,h4,h5,h6,h7⟩:=hd
 cases h1; cases h2; cases h3; cases h4
 have gr:∀ b o,s.heap.get? b=some o->h'.get? b=some o:=fun b o e=>(hs.2 b (fun r=>no_some na r.symm e)).trans (Heap.get?_push_of_some _ e)
 exact x.takeDict (t:=s.toks) gr na x.endLo ⟨ho,(DRs.ofPairs G D h6 fun e he=>h5 e (Array.mem_toList_iff.mp he)).rows,strKeys_kind l,strKeys_nodup hn,(skeys_len l).symm▸hl,(x.end_low G).2,fun b o e=>gr _ _ (x.fzh _ _ e)⟩ k
theorem allStr_some {Y:List (AV×AV)->Prop}:∀ {l:List (AV×AV)} {l':List (Nat×AV)},allStr l=some l'->Y (skeys l')->Y l
 | [],_,h,y=>someK (Y:=fun l'=>Y (skeys l')->Y []) h id y
 | p::l,l',h,y=>bindK h fun k e h=>mapsK h fun q hq h=>allStr_some (Y:=fun l=>Y (p::l)) hq (by
   subst h
   have e:p.1=.str k:=AV.s?S e
   exact (show p=(AV.str k,p.2) from Prod.ext e rfl)▸y)
theorem nodup_of_str {l:List (Nat×AV)} (h:((skeys l).map (·.1)).Nodup):(l.map (·.1)).Nodup:=by
 have e:(skeys l).map (·.1)=(l.map (·.1)).map AV.str:=by rw [skeys,List.map_map,List.map_map]; rfl
 rw [e] at h
 exact (List.pairwise_map.mp h).imp fun q e=>q (congrArg AV.str e)
end
end Mine.Internal
namespace Mine.Internal
open PySem PySem.W PySem.Calls PyProof.Rows
section
variable {c:Cx} {P:Pg} {M:Ms} {r:Ev} {N:Nat} {f:Fm} {A:Around} {fr:FrA} {J J':AH} {m:Mp} {s:Shared} {E:Value->Shared->Prop}
theorem ty_ne {a b:String} (h:a≠b) (e:Value.type a=Value.type b):False:=h (by injection e)
theorem len_av {a:Addr} {l:List AV} (I:ItemsAt c m s.heap a l) (hl:l.length<=1000) {Q:Value->Shared->Prop} (k:Q (.int l.length (s.toks+1)) { s with toks:=s.toks+1+1 }):wpAny (model c.prog c.w) A (call (.builtin "len") [.ref a]) Q E s :=
 have big:(l.length:Int) < 2 ^ 63:=big_hi (Int.ofNat_le.mpr hl)
 match I with
 | .lst (n:=n) h V=>Calls.call_len_list ⟨_,h,rfl,n,rfl⟩ (V.size.symm▸big) (V.size.symm▸k)
 | .tup (n:=n) h V=>len_tuple ⟨_,h,rfl,n,rfl⟩ (V.size.symm▸big) (V.size.symm▸k)
 | .dic (es:=es) D e=>have sz:es.size=l.length:=by rw [← e,List.length_map]; exact D.size
   len_dic D.low D.at_ (sz.symm▸hl) (sz.symm▸k)
section
variable (G:Gd c P M) (x:St c f fr m J s)
include G x
theorem items_ref {i:Nat} {l:List AV} {Z:Prop} (h:items J (.ref i)=some l) (k:ItemsAt c m s.heap (m.ρ i) l->(∀ vs n,s.heap.get? (m.ρ i)≠some (tupObj vs n))->l.length<=1000->Z):Z :=
 bindK h fun o h1 h=>match o,h1,h with
  | .lst _,h1,h=>x.lst h1 fun _ _ h2 Ra h3=>k (Option.some.inj h▸.lst h2 Ra) (fun _ _ e=>ty_ne (by decide) (congrArg Obj.cls (Option.some.inj (h2.symm.trans e)))) (Option.some.inj h▸h3)
  | .dic _,h1,h=>x.dic G h1 fun _ _ D=>k (.dic D (Option.some.inj h)) (fun _ _ e=>ty_ne (by decide) (congrArg Obj.cls (Option.some.inj (D.at_.symm.trans e)))) (Option.some.inj h▸(List.length_map ..).symm▸D.few)
  | .ins _ _,_,h=>nomatch h
theorem blt_av (hh:A.handled=none) (hu:A.units+220 < cLine) {b:Bn} {v v':AV} {w:Value} (V:VR c m v w) (h:builtin J b v=some (v',J')) {Q:Value->Shared->Prop} (k:Kt c f fr m J s v' J' Q):wpAny (model c.prog c.w) A (call (bnVal b) [w]) Q E s :=
 match b,h with
 | .len,h=>bindK h fun l hi h=>chkK h fun hf h=>items_av G x (Y:=fun w=>wpAny (model c.prog c.w) A (call (.builtin "len") [w]) Q E s) V hi fun a I=>len_av I (few_le hf) (k.of h _ _ _ (.tick (ltr (Nat.le_succ _) (Nat.le_succ _))) (x.tick _) (.int _ _))
 | .abs,h=>mapsK h fun i hi h=>V.ofI (Y:=fun w=>wpAny (model c.prog c.w) A (call (.builtin "abs") [w]) Q E s) hi fun t=>call_abs_int fun u tk=>by
   have e:(if i < 0 then -i else i)=(i.natAbs:Int):=by split <;> omega
   rw [e]
   exact k.of (congrArg some h) _ _ _ (.grown fun _ _ e=>e) (x.tick _) (.int _ _)
 | .min,h=>bindK h fun l hl h=>mapsK h fun q hm h=>bindK hl fun i hi hl=>bindK hl fun o h1 g=>V.ofR (Y:=fun w=>wpAny (model c.prog c.w) A (call (.builtin "min") [w]) Q E s) hi fun _ =>
   x.lst (AO.l?S g▸h1) fun vs _ h2 Ra _=>min_av hh h2 Ra hm fun t h' tk hk=>k.of (congrArg some h) _ _ _ (.grown hk) (x.grown hk) (.int _ _)
 | .sorted,h=>bindK h fun i hi h=>bindK h fun l hl h=>bindK h fun l' hs h=>chkK h fun hf h=>items_ref G x (AV.r?S hi▸hl) fun I hno hl=>V.ofR (Y:=fun w=>wpAny (model c.prog c.w) A (call (.builtin "sorted") [w]) Q E s) hi fun _ =>
   sorted_av x hh G (units_le hu (by decide)) I hno hl (few_le hf) hs (k.of h)
 | .tuple,h=>mapsK h fun l hl h=>bindK hl fun i hi hl=>bindK hl fun o h1 g=>V.ofR (Y:=fun w=>wpAny (model c.prog c.w) A (call (.type "tuple") [w]) Q E s) hi fun _=>x.lst (AO.l?S g▸h1) fun vs _ h2 Ra hl=>tuple_av x h2 Ra hl (k.of (congrArg some h))
 | .list,h=>bindK h fun i hi h=>mapsK h fun l hl h=>items_ref G x (AV.r?S hi▸hl) fun I _ hl=>V.ofR (Y:=fun w=>wpAny (model c.prog c.w) A (call (.type "list") [w]) Q E s) hi fun _=>list_av x hh I hl (k.of (congrArg some h))
 | .dict,h=>match v,V,h with
  | .dct l,V,h=>chkK h fun _ h=>V.dctK (Y:=fun w=>wpAny (model c.prog c.w) A (call (.type "dict") [w]) Q E s) fun _ _ _ f1 m1 D1 n1 n2=>dict_copy_av G x (x.fzh _ _ f1) m1 D1 n1 n2 (k.of h)
  | .ref i,V,h=>bindK h fun o h1 h=>V.refK (Y:=fun w=>wpAny (model c.prog c.w) A (call (.type "dict") [w]) Q E s) fun _=>match o,h1,h with
   | .lst l,h1,h=>bindK h fun ps hp h=>mapsK h fun d hd h=>dict_list_av G x hh (units_le hu (by decide)) h1 hp hd (k.of (congrArg some h))
   | .dic l,h1,h=>mapsK h fun l' hl' h=>allStr_some (Y:=fun l=>lk J.ob i=some (.dic l)->J.new (.dic l)=(v',J')->wpAny (model c.prog c.w) A (call (.type "dict") [.ref (m.ρ i)]) Q E s) hl' (fun h1 h=>x.dic G h1 fun _ _ D=>dict_copy_av G x D.at_ D.low (DRs.ofRows D.rows) (nodup_of_str D.nd) (skeys_len l'▸D.few) (k.of (congrArg some h))) h1 h
   | .ins _ _,_,h=>nomatch h
  | .none,_,h=>nomatch h | .bool _,_,h=>nomatch h | .int _,_,h=>nomatch h | .str _,_,h=>nomatch h | .tup _,_,h=>nomatch h
end
theorem Room.u220 (R:Room A N):A.units+220 < cLine:=Nat.lt_of_le_of_lt (Nat.add_le_add_left (ltr (by decide) (Nat.le_add_left 1000 _)) _) (Nat.add_assoc ..▸R.units)
theorem s_callB (S:Sound c r N) (G:Gd c P M) (R:Room A N) (ok:f.Ok c) {e:Expr} {b:Bn} {x:X} {v:AV} (h:TrE c f.kd e (.callB b x)) (he:(bind2 (r.e fr J x) fun v h=>builtin h b v)=some (v,J')):WpE c f A (eval e f.env) fr J v J' :=
 bind2K he fun u Ja h1 hb=>h (fun e=>WpE c f A (eval e f.env) fr J v J') fun n p e0 q hn hx m s Q St k=>by
  refine Call_Name1 (builtin_val ok G St hn ?_) (by rw [star_of hx]; rfl)
  have fin:wpAny (model c.prog c.w) A (eval e0 f.env) (fun v s'=>wpAny (model c.prog c.w) A (call (bnVal b) [v]) Q NoE s') NoE s :=
   S.e R ok hx h1 _ _ _ St fun _ _ _ Xb St1 Vc=>blt_av G St1 R.handled R.u220 Vc hb (k.after Xb)
  cases b <;> first
   | exact callWith_builtin rfl (evalArgs_plain (spliced_cons (wpAny_mono fin (fun v s' h'=>spliced_nil h') fun _ _ x=>x)))
   | exact PyProof.Rows.callWith_type rfl (evalArgs_plain (spliced_cons (wpAny_mono fin (fun v s' h'=>spliced_nil h') fun _ _ x=>x)))
end
end Mine.Internal
namespace Mine.Internal
open PySem PySem.W PySem.Calls PyProof.Rows
section
variable {c:Cx} {P:Pg} {M:Ms} {r:Ev} {N:Nat} {f:Fm} {A:Around} {fr:FrA} {J J':AH} {m:Mp} {s:Shared} {E:Value->Shared->Prop}
noncomputable def kT (b:Bool):String:=cond b "list" "dict"
noncomputable def MethCall (c:Cx) (J:AH) (o:AV) (l:List AV) (id:String) (J':AH) (v:AV):Prop :=
 ∀ (A:Around) (f:Fm) fr m s ov ws Q,A.units+220 < cLine->St c f fr m J s->VR c m o ov->VRs c m l ws->Kt c f fr m J s v J' Q->wpAny (model c.prog c.w) A (call (.builtin id) (ov::ws)) Q NoE s
theorem PlainAttrs_kT:∀ b:Bool,PlainAttrs (kT b)
 | false=>PySem.F.plainAttrs_dict
 | true=>PySem.F.plainAttrs_list
theorem VRs.oneK {x:AV} {ws:List Value} {Z:List Value->Prop} (V:VRs c m [x] ws) (k:∀ a,VR c m x a->Z [a]):Z ws:=V.consK (Z:=Z) fun w r V1 R=>R.nilK (Z:=fun r=>Z (w::r)) (k w V1)
theorem VRs.twoK {x y:AV} {ws:List Value} {Z:List Value->Prop} (V:VRs c m [x,y] ws) (k:∀ a b,VR c m x a->VR c m y b->Z [a,b]):Z ws:=V.consK (Z:=Z) fun w r V1 R=>R.oneK (Z:=fun r=>Z (w::r)) fun b V2=>k w b V1 V2
noncomputable def DicOf (c:Cx) (J:AH) (o:AV) (ks:List (AV×AV)):Prop:=∀ (f:Fm) fr m s ov (Y:Value->Prop),St c f fr m J s->VR c m o ov->(∀ d es n,DicAt c m s.heap d ks es n->Y (.ref d))->Y ov
theorem get_call (G:Gd c P M) {o v:AV} {l:List AV} {ks:List (AV×AV)} (D:DicOf c J o ks) (h:arg12 l (fun k v=>chk (kfit k ks) (some ((dget k ks).getD v,J)))=some (v,J')):MethCall c J o l "dict.get" J' v :=
 arg12K (Y:=fun l=>MethCall c J o l "dict.get" J' v) h (fun k h=>chkK h fun hf h A f fr m s ov ws Q hu St V Vs kk=>D f fr m s ov (fun ov=>wpAny (model c.prog c.w) A (call (.builtin "dict.get") (ov::ws)) Q NoE s) St V fun d es n Dd =>
   Vs.oneK (Z:=fun ws=>wpAny (model c.prog c.w) A (call (.builtin "dict.get") (.ref d::ws)) Q NoE s) fun a V1=>dict_get1 G Dd (units_le hu (by decide)) hf V1 fun w t hw ht=>kk.of h _ _ _ (.tick ht) (St.tick _) hw)
  (fun k dv h=>chkK h fun hf h A f fr m s ov ws Q hu St V Vs kk=>D f fr m s ov (fun ov=>wpAny (model c.prog c.w) A (call (.builtin "dict.get") (ov::ws)) Q NoE s) St V fun d es n Dd =>
   Vs.twoK (Z:=fun ws=>wpAny (model c.prog c.w) A (call (.builtin "dict.get") (.ref d::ws)) Q NoE s) fun a b V1 V2=>dict_get2 G Dd (units_le hu (by decide)) hf V1 V2 fun w t hw ht=>kk.of h _ _ _ (.tick ht) (St.tick _) hw)
theorem dct_of (d:List (Nat×AV)):DicOf c J (.dct d) (skeys d):=fun _ _ _ _ _ Y St V k=>V.dctK (Y:=Y) fun _ _ _ f1 m1 D1 n1 n2=>k _ _ _ (DicAt.frozen St.fzh f1 m1 D1 n1 n2)
theorem dic_of (G:Gd c P M) {i:Nat} {d:List (AV×AV)} (hd:lk J.ob i=some (.dic d)):DicOf c J (.ref i) d:=fun _ _ _ _ _ Y St V k=>V.refK (Y:=Y) fun _=>St.dic G hd fun _ _ D=>k _ _ _ D
theorem get_dct {d:List (Nat×AV)} {l:List AV} {v:AV} (h:arg12 l (fun k v=>k.s?.map fun k=>((lk d k).getD v,J))=some (v,J')):arg12 l (fun k v=>chk (kfit k (skeys d)) (some ((dget k (skeys d)).getD v,J)))=some (v,J') :=
 have one:∀ {k dv:AV},(k.s?.map fun k=>((lk d k).getD dv,J))=some (v,J')->chk (kfit k (skeys d)) (some ((dget k (skeys d)).getD dv,J))=some (v,J'):=fun {k dv} h=>mapsK h fun j hj e=>by
  rw [AV.s?S hj,kfit_str,dget_str]; exact congrArg some e
 arg12K (Y:=fun l=>arg12 l (fun k v=>chk (kfit k (skeys d)) (some ((dget k (skeys d)).getD v,J)))=some (v,J')) h (fun _ h=>one h) fun _ _ h=>one h
section
variable (x:St c f fr m J s) {h':Heap} {i:Nat} {v:AV} {w:Value} {t:Nat} {Q:Value->Shared->Prop} (hv:VR c m v w)
include x hv
theorem St.lstTurn {l l':List AV} {vs:Array Value} {n:Nat} (e:lk J.ob i=some (.lst l)) (hp:J.put i (.lst l')=some J') (hs:Heap.SameBut (m.ρ i) s.heap h') (hat:h'.get? (m.ρ i)=some (lstObj vs n)) (V:VRs c m l' vs.toList) (hl:l'.length<=1000) (k:Kt c f fr m J s v J' Q) :
  Q w { s with heap:=h',toks:=t }:=x.turn e hp (fun _ _ h=>nomatch h) (.inl rfl) hs ⟨_,hat⟩ (t:=s.toks) ⟨vs,n,hat,V,hl⟩ (Nat.le_refl _) fun X St=>k _ _ _ (X.trans (.grown (t:=t) fun _ _ e=>e)) (St.tick _) hv
theorem St.dicTurn {l l':List (AV×AV)} {es:Array DictEntry} {n:Nat} (e:lk J.ob i=some (.dic l)) (hp:J.put i (.dic l')=some J') (hs:Heap.SameBut (m.ρ i) s.heap h') (D:DicAt c m h' (m.ρ i) l' es n) (k:Kt c f fr m J s v J' Q) :
  Q w { s with heap:=h',toks:=t }:=x.turn e hp (fun _ _ h=>nomatch h) (.inl rfl) hs ⟨_,D.at_⟩ (t:=s.toks) ⟨es,n,D.at_,D.rows,D.kind,D.nd,D.few⟩ (Nat.le_refl _) fun X St=>k _ _ _ (X.trans (.grown (t:=t) fun _ _ e=>e)) (St.tick _) hv
end
theorem pop_dic (G:Gd c P M) {i:Nat} {d:List (AV×AV)} {l:List AV} {v:AV} (hd:lk J.ob i=some (.dic d)) (h:arg2 l (fun k v=>chk (kfit k d) (match dget k d with | some r=>J.putV i (.dic (ddel k d)) r | none=>some (v,J)))=some (v,J')):MethCall c J (.ref i) l "dict.pop" J' v :=
 arg2K (Y:=fun l=>MethCall c J (.ref i) l "dict.pop" J' v) h fun k dv h=>chkK h fun hf h A f fr m s ov ws Q hu St V Vs kk=>V.refK (Y:=fun ov=>wpAny (model c.prog c.w) A (call (.builtin "dict.pop") (ov::ws)) Q NoE s) fun _ =>
  St.dic G hd fun es n D=>Vs.twoK (Z:=fun ws=>wpAny (model c.prog c.w) A (call (.builtin "dict.pop") (.ref (m.ρ i)::ws)) Q NoE s) fun a b V1 V2=>dict_pop2 G D (St.fzR hd) hf V1 (units_le hu (by decide))
   (fun t hn ht=>kk.of (p:=(dv,J)) (by rw [hn] at h; exact h) _ _ _ (.tick ht) (St.tick _) V2)
   fun v' w h' es' n' t hs hv D' hsb ht=>mapsK (show (J.put i (.dic (ddel k d))).map (fun h'=>(v',h'))=some (v,J') by rw [hs] at h; exact h) fun J'' hp e=>St.dicTurn hv hd hp hsb D' (kk.of (congrArg some e))
end
end Mine.Internal
namespace Mine.Internal
open PySem PySem.W PySem.Calls PyProof.Rows
section
variable {c:Cx} {P:Pg} {M:Ms} {r:Ev} {N:Nat} {f:Fm} {A:Around} {fr:FrA} {J J':AH} {m:Mp} {s:Shared}
theorem not_long {b:Bool} {n:Nat} (h:n<=1000):¬ (b&&Builtin.List.listTooLong n)=true:=by
 have:Builtin.List.listTooLong n=false:=decide_eq_false (Nat.not_lt.mpr (size_le h))
 rw [this,Bool.and_false]; exact Bool.false_ne_true
section
variable {i:Nat} {xs l:List AV} {v:AV} (hd:lk J.ob i=some (.lst xs))
include hd
theorem append_lst (h:arg1 l (fun v=>chk (few (xs.length+1)) (J.putV i (.lst (xs++[v])) .none))=some (v,J')):MethCall c J (.ref i) l "list.append" J' v :=
 arg1K (Y:=fun l=>MethCall c J (.ref i) l "list.append" J' v) h fun u h=>chkK h fun hf h=>mapsK h fun J'' hp e A f fr m s ov ws Q hu St V Vs kk=>V.refK (Y:=fun ov=>wpAny (model c.prog c.w) A (call (.builtin "list.append") (ov::ws)) Q NoE s) fun _ =>
  St.lst hd fun vs n h2 Ra hl=>Vs.oneK (Z:=fun ws=>wpAny (model c.prog c.w) A (call (.builtin "list.append") (.ref (m.ρ i)::ws)) Q NoE s) fun a V1=>wpAny_list_append_plain (items:=vs) ⟨n,h2⟩ (fun h' hl' hs=>hl'.elim fun n' h3 =>
   St.lstTurn (t:=s.toks) (v:=.none) VR.none hd hp hs h3 (by rw [Array.toList_push]; exact Ra.append (.cons V1 .nil)) (by rw [List.length_append]; exact few_le hf) (kk.of (congrArg some e))) (size_ok Ra.size hl)
theorem extend_lst (h:arg1 l (fun v=>(extL J i v).bind fun ys=>chk (few (xs.length+ys.length)) (J.putV i (.lst (xs++ys)) .none))=some (v,J')):MethCall c J (.ref i) l "list.extend" J' v :=
 arg1K (Y:=fun l=>MethCall c J (.ref i) l "list.extend" J' v) h fun u h=>bindK h fun ys hy h=>chkK h fun hf h=>mapsK h fun J'' hp e A f fr m s ov ws Q hu St V Vs kk=>V.refK (Y:=fun ov=>wpAny (model c.prog c.w) A (call (.builtin "list.extend") (ov::ws)) Q NoE s) fun _ =>
  St.lst hd fun vs n h2 Ra hl=>Vs.oneK (Z:=fun ws=>wpAny (model c.prog c.w) A (call (.builtin "list.extend") (.ref (m.ρ i)::ws)) Q NoE s) fun a V1 =>
   have fin:∀ us:Array Value,VRs c m ys us.toList->Q .none { s with heap:=s.heap.update (m.ρ i) (Obj.mapSeq fun x=>x++us),toks:=s.toks }:=fun us Rb =>
    St.lstTurn (t:=s.toks) (v:=.none) (vs:=vs++us) VR.none hd hp (Heap.SameBut.update ..) (get?_update_seq h2 fun x=>x++us) (Ra.arr Rb) (by rw [List.length_append]; exact few_le hf) (kk.of (congrArg some e))
   have nl:∀ {us:Array Value} {b:Bool},VRs c m ys us.toList->¬ (b&&Builtin.List.listTooLong (vs.size+us.size))=true:=fun Rb=>not_long (Ra.size.symm▸Rb.size.symm▸few_le hf)
   match u,V1,hy with
   | .tup _,V1,hy=>V1.tupK (Y:=fun a=>wpAny (model c.prog c.w) A (call (.builtin "list.extend") [.ref (m.ρ i),a]) Q NoE s) fun ta us k fa Rb=>have Rb:=(Option.some.inj hy)▸Rb
     call_meets PySem.F.slot_list_extend ⟨_,h2,rfl⟩ PySem.F.entry_list_extend (PySem.F.args_list_extend_2 _ _) (AutoSeq1.list_extend_list_tuple_0 (m.ρ i) vs n ta us k (nl Rb) (size_ok Ra.size hl) (Nat.le_succ_of_le (size_two Ra Rb hf))) ⟨h2,St.fzh _ _ fa,fin us Rb⟩
   | .ref j,V1,hy=>chkK hy fun _ hy=>bindK hy fun o h1 g=>V1.refK (Y:=fun a=>wpAny (model c.prog c.w) A (call (.builtin "list.extend") [.ref (m.ρ i),a]) Q NoE s) fun _=>St.lst (AO.l?S g▸h1) fun us k hb Rb _ =>
     call_meets PySem.F.slot_list_extend ⟨_,h2,rfl⟩ PySem.F.entry_list_extend (PySem.F.args_list_extend_2 _ _) (AutoSeq1.list_extend_list_list_0 (m.ρ i) vs n (m.ρ j) us k (nl Rb) (size_ok Ra.size hl) (Nat.le_succ_of_le (size_two Ra Rb hf))) ⟨h2,hb,fin us Rb⟩
   | .none,_,hy=>nomatch hy | .bool _,_,hy=>nomatch hy | .int _,_,hy=>nomatch hy | .str _,_,hy=>nomatch hy | .dct _,_,hy=>nomatch hy
theorem pop_lst (h:arg1 l (fun v=>v.i?.bind fun z=>chk (z==0) (match xs with | x::r=>J.putV i (.lst r) x | []=>none))=some (v,J')):MethCall c J (.ref i) l "list.pop" J' v :=
 arg1K (Y:=fun l=>MethCall c J (.ref i) l "list.pop" J' v) h fun u h=>bindK h fun z hz h=>chkK h fun h0 h A f fr m s ov ws Q hu St V Vs kk=>V.refK (Y:=fun ov=>wpAny (model c.prog c.w) A (call (.builtin "list.pop") (ov::ws)) Q NoE s) fun _ =>
  St.lst hd fun vs n h2 Ra hl=>Vs.oneK (Z:=fun ws=>wpAny (model c.prog c.w) A (call (.builtin "list.pop") (.ref (m.ρ i)::ws)) Q NoE s) fun a V1=>V1.ofI (Y:=fun a=>wpAny (model c.prog c.w) A (call (.builtin "list.pop") [.ref (m.ρ i),a]) Q NoE s) hz fun t=>by
   cases (eq_of_beq h0:z=0)
   cases xs with
   | nil=>exact nomatch h
   | cons x r =>
    refine mapsK h fun J'' hp e=>?_
    obtain ⟨vs⟩:=vs
    obtain ⟨w1,ws1,e1,W1,W2⟩:=Ra
    cases (show vs=w1::ws1 from e1)
    refine call_meets PySem.F.slot_list_pop ⟨_,h2,rfl⟩ PySem.F.entry_list_pop (PySem.F.args_list_pop_2 _ _) (MeetsSeq.list_pop_at (m.ρ i) ⟨w1::ws1⟩ n 0 t 0 w1 (by decide) (seq_pos (Int.le_refl 0) (Nat.zero_lt_succ _)) rfl (size_ok (VRs.size (.cons W1 W2)) hl)) ⟨h2,?_⟩
    exact St.lstTurn (t:=s.toks) (vs:=Array.eraseIdxIfInBounds _ 0) W1 hd hp (Heap.SameBut.update ..) (get?_update_seq h2 fun xs=>xs.eraseIdxIfInBounds 0) ((List.eraseIdxIfInBounds_toArray ..).symm▸W2) (Nat.le_of_succ_le hl) (kk.of (congrArg some e))
end
theorem methB_all (G:Gd c P M) {o v:AV} {nm:Nat} {b:Bool} {l:List AV} (hk:akind J o=some b) (h:methB M J o nm l=some (v,J')) {Z:Prop} (z:∀ id,Slot (kT b) (c.wd nm) id->typeOf (.builtin id)=pure (.type "method_descriptor")->MethCall c J o l id J' v->Z):Z :=
 have nmE:∀ {k:Nat} {t:String},Nat.beq nm k=true->c.wd k=Str.ofString t->c.wd nm=Str.ofString t:=fun e h=>Nat.eq_of_beq_eq_true e▸h
 match o,hk,h with
 | .dct d,hk,h=>chkK h fun hn h=>someK (Y:=fun b=>(∀ id,Slot (kT b) (c.wd nm) id->typeOf (.builtin id)=pure (.type "method_descriptor")->MethCall c J (.dct d) l id J' v->Z)->Z) hk (fun z=>z "dict.get" (nmE hn G.ms.1▸PySem.F.slot_dict_get) PySem.F.type_dict_get (get_call G (dct_of d) (get_dct h))) z
 | .ref i,hk,h=>bindK h fun q hq h=>bindK hk fun q' hq' hk=>match q,hq,h,q',hq.symm.trans hq',hk with
  | .dic d,hq,h,_,rfl,hk=>someK (Y:=fun b=>(∀ id,Slot (kT b) (c.wd nm) id->typeOf (.builtin id)=pure (.type "method_descriptor")->MethCall c J (.ref i) l id J' v->Z)->Z) hk (fun z=>condK h (fun hn h=>z "dict.get" (nmE hn G.ms.1▸PySem.F.slot_dict_get) PySem.F.type_dict_get (get_call G (dic_of G hq) h))
    fun _ h=>chkK h fun hn h=>z "dict.pop" (nmE hn G.ms.2.1▸PySem.F.slot_dict_pop) PySem.F.type_dict_pop (pop_dic G hq h)) z
  | .lst d,hq,h,_,rfl,hk=>someK (Y:=fun b=>(∀ id,Slot (kT b) (c.wd nm) id->typeOf (.builtin id)=pure (.type "method_descriptor")->MethCall c J (.ref i) l id J' v->Z)->Z) hk (fun z=>condK h (fun hn h=>z "list.append" (nmE hn G.ms.2.2.1▸PySem.slot_list_append) PySem.F.type_list_append (append_lst hq h))
    fun _ h=>condK h (fun hn h=>z "list.extend" (nmE hn G.ms.2.2.2▸PySem.F.slot_list_extend) PySem.F.type_list_extend (extend_lst hq h))
    fun _ h=>chkK h fun hn h=>z "list.pop" (nmE hn G.ms.2.1▸PySem.F.slot_list_pop) PySem.F.type_list_pop (pop_lst hq h)) z
  | .ins _ _,_,h,_,_,_=>nomatch h
 | .none,_,h=>nomatch h | .bool _,_,h=>nomatch h | .int _,_,h=>nomatch h | .str _,_,h=>nomatch h | .tup _,_,h=>nomatch h
theorem kind_at (G:Gd c P M) (x:St c f fr m J s) {o:AV} {w:Value} {b:Bool} (V:VR c m o w) (h:akind J o=some b):s.TypeIs w (kT b)/\∀ a,w=.ref a->∃ ob,s.heap.get? a=some ob/\ob.dict=none :=
 match o,V,h with
 | .dct _,V,h=>someK (Y:=fun b=>s.TypeIs w (kT b)/\∀ a,w=.ref a->∃ ob,s.heap.get? a=some ob/\ob.dict=none) h (V.dctK (Y:=fun w=>s.TypeIs w "dict" /\ ∀ a,w=.ref a->∃ ob,s.heap.get? a=some ob/\ob.dict=none) fun _ _ _ f1 _ _ _ _=>⟨⟨_,x.fzh _ _ f1,rfl⟩,fun a e=>⟨_,Value.ref.inj e▸x.fzh _ _ f1,rfl⟩⟩)
 | .ref i,V,h=>bindK h fun q hq h=>V.refK (Y:=fun w=>s.TypeIs w (kT b)/\∀ a,w=.ref a->∃ ob,s.heap.get? a=some ob/\ob.dict=none) fun _=>match q,hq,h with
  | .dic _,hq,h=>someK (Y:=fun b=>s.TypeIs (.ref (m.ρ i)) (kT b)/\∀ a,Value.ref (m.ρ i)=.ref a->∃ ob,s.heap.get? a=some ob/\ob.dict=none) h (x.dic G hq fun _ _ D=>⟨D.typeIs,fun a e=>⟨_,Value.ref.inj e▸D.at_,rfl⟩⟩)
  | .lst _,hq,h=>someK (Y:=fun b=>s.TypeIs (.ref (m.ρ i)) (kT b)/\∀ a,Value.ref (m.ρ i)=.ref a->∃ ob,s.heap.get? a=some ob/\ob.dict=none) h (x.lst hq fun _ _ h2 _ _=>⟨⟨_,h2,rfl⟩,fun a e=>⟨_,Value.ref.inj e▸h2,rfl⟩⟩)
  | .ins _ _,_,h=>nomatch h
 | .none,_,h=>nomatch h | .bool _,_,h=>nomatch h | .int _,_,h=>nomatch h | .str _,_,h=>nomatch h | .tup _,_,h=>nomatch h
theorem args_flat {kd:Kd} (env:Env) (pos:Pos):∀ {xs:List X} {l:List Expr},TrEs c kd l xs->(backTo pos (starEach l env)).all (fun x=>!x.1)=true/\(backTo pos (starEach l env)).any (·.1)=false:=by
 intro xs
 induction xs with
 | nil =>
  intro _ h
  exact Eq.symm (show _=[] from h)▸⟨rfl,rfl⟩
 | cons _ xs ih =>
  intro _ h
  exact h (fun l=>(backTo pos (starEach l env)).all (fun x=>!x.1)=true/\(backTo pos (starEach l env)).any (·.1)=false) fun e l he hl=>star_of he l env▸ih hl
theorem evalArgs_tr {kd:Kd} {env:Env} {pos:Pos} {l:List Expr} {xs:List X} {E:Value->Shared->Prop} (h:TrEs c kd l xs) {fv:Value} {Q:Args->Shared->Prop} (k:wpAny (model c.prog c.w) A (spliced (backTo pos (starEach l env))) (fun vs s'=>Q ⟨vs,[]⟩ s') E s) :
  wpAny (model c.prog c.w) A (evalArgs fv true (backTo pos (starEach l env)) []) Q E s:=by
 cases xs with
 | nil =>
  cases h
  unfold evalArgs
  show wpAny _ A (spliced (backTo pos (starEach [] env)) >>= _) Q E s
  refine wpAny_bind (wpAny_mono k (fun vs s' h'=>?_) fun _ _ x=>x)
  refine wpAny_bind (wpAny_pure ?_)
  refine wpAny_holding ?_
  exact wpAny_bind (wpAny_pure (wpAny_bind (wpAny_pure (wpAny_pure h'))))
 | cons x xs =>
  refine h (fun l=>wpAny (model c.prog c.w) A (spliced (backTo pos (starEach l env))) (fun vs s'=>Q ⟨vs,[]⟩ s') E s->wpAny (model c.prog c.w) A (evalArgs fv true (backTo pos (starEach l env)) []) Q E s) (fun e l he hl k=>?_) k
  rw [star_of he] at k ⊢
  exact evalArgs_plain k
theorem s_methB (S:Sound c r N) (G:Gd c P M) (R:Room A N) (ok:f.Ok c) {e:Expr} {x:X} {nm:Nat} {xs:List X} {o v:AV} {vs:List AV} {b:Bool} {Ja Jb:AH} (h:TrE c f.kd e (.meth x nm xs)) (h1:r.e fr J x=some (o,Ja)) (h2:es r fr Ja xs=some (vs,Jb))
  (k1:akind Ja o=some b) (k2:akind Jb o=some b) (h3:methB M Jb o nm vs=some (v,J')):WpE c f A (eval e f.env) fr J v J' :=
 methB_all G k2 h3 fun id slot hty call=>h (fun e=>WpE c f A (eval e f.env) fr J v J') fun e0 l q r0 hx hb ha hline hlen hl m s Q St k=>by
  refine wpAny_Call_method_lateS (attributeBase_plain hb) ?_ hline ?_
  ·simp only [(args_flat f.env r0 hl).1,Bool.true_and]
   exact decide_eq_true (Nat.lt_of_lt_of_le hlen (by decide))
  ·exact S.e R ok hx h1 _ _ _ St fun _ _ w Xb St1 Vc=>have t:=kind_at G St1 Vc k1
    ⟨kT b,id,PlainAttrs_kT b,slot,hty,t.1,t.2,callWith_builtin (args_flat f.env r0 hl).2 (evalArgs_tr hl (snd_es S R ok hl h2 _ _ _ _ St1 fun _ _ ws Xc St2 Vd=>call _ _ _ _ _ _ _ _ R.u220 St2 (Xc.vr Vc) Vd (k.after (Xb.trans Xc))))⟩
end
end Mine.Internal
namespace Mine.Internal
open PySem PySem.W PySem.Calls PyProof.Rows
section
variable {c:Cx} {P:Pg} {M:Ms} {r:Ev} {N:Nat} {f:Fm} {A:Around} {fr fr':FrA} {J J':AH}
theorem evalEach_map (env:Env):∀ l:List Expr,evalEach l env=l.map fun e=>eval e env
 | []=>rfl
 | e::l=>congrArg (eval e env::·) (evalEach_map env l)
theorem st_pass {e:Stmt} (h:TrS c f.kd e .pass):WpS c f A (exec e f.env) fr J .next fr J:=h (fun e=>WpS c f A (exec e f.env) fr J .next fr J) fun _ _ _ _ St k=>wpAny_Pass (k _ _ _ .refl St rfl)
theorem st_brk {e:Stmt} (h:TrS c f.kd e .brk):WpS c f A (exec e f.env) fr J .brk fr J:=h (fun e=>WpS c f A (exec e f.env) fr J .brk fr J) fun _ _ _ _ St k=>wpAny_Break (k _ _ _ .refl St rfl)
theorem st_cont {e:Stmt} (h:TrS c f.kd e .cont):WpS c f A (exec e f.env) fr J .cont fr J:=h (fun e=>WpS c f A (exec e f.env) fr J .cont fr J) fun _ _ _ _ St k=>wpAny_Continue (k _ _ _ .refl St rfl)
theorem st_ret0 {e:Stmt} (h:TrS c f.kd e .ret0):WpS c f A (exec e f.env) fr J (.ret .none) fr J:=h (fun e=>WpS c f A (exec e f.env) fr J (.ret .none) fr J) fun _ _ _ _ St k=>wpAny_Return_none (k _ _ (.ret .none) .refl St ⟨_,rfl,VR.none⟩)
section
variable (S:Sound c r N) (R:Room A N) (ok:f.Ok c)
include S R ok
theorem s_and {e:Expr} {xs:List X} {v:AV} (h:TrE c f.kd e (.and xs)) (he:andv r fr J xs=some (v,J')):WpE c f A (eval e f.env) fr J v J' :=
 h (fun e=>WpE c f A (eval e f.env) fr J v J') fun l p hl=>by rw [arm_eval_BoolOp,evalEach_map]; exact s_andv S R ok _ hl he
theorem s_or {e:Expr} {xs:List X} {v:AV} (h:TrE c f.kd e (.or xs)) (he:orv r fr J xs=some (v,J')):WpE c f A (eval e f.env) fr J v J' :=
 h (fun e=>WpE c f A (eval e f.env) fr J v J') fun l p hl=>by rw [arm_eval_BoolOp,evalEach_map]; exact s_orv S R ok _ hl he
theorem t_and {e:Expr} {xs:List X} {b:Bool} {whole:Sem Value} (h:TrE c f.kd e (.and xs)) (he:andt r fr J xs=some (b,J')):WpT c f A (isTrue e f.env whole) fr J b J' :=
 h (fun e=>WpT c f A (isTrue e f.env whole) fr J b J') fun _ _ hl _ _ _ St k=>wpAny_isTrue_BoolOp (t_andt S R ok hl he _ _ _ St k)
theorem t_or {e:Expr} {xs:List X} {b:Bool} {whole:Sem Value} (h:TrE c f.kd e (.or xs)) (he:ort r fr J xs=some (b,J')):WpT c f A (isTrue e f.env whole) fr J b J' :=
 h (fun e=>WpT c f A (isTrue e f.env whole) fr J b J') fun _ _ hl _ _ _ St k=>wpAny_isTrue_BoolOp (t_ort S R ok hl he _ _ _ St k)
theorem t_ite {e:Expr} {x y z:X} {b:Bool} {whole:Sem Value} (h:TrE c f.kd e (.ite x y z)) (hx:(bind2 (r.t fr J x) fun q h=>cond q (r.t fr h y) (r.t fr h z))=some (b,J')):WpT c f A (isTrue e f.env whole) fr J b J' :=
 bind2K hx fun q Ja h1 hv=>h (fun e=>WpT c f A (isTrue e f.env whole) fr J b J') fun _ _ _ _ ht ha hb _ _ _ St k=>isTrue_IfExp (S.t R ok ht h1 _ _ _ St fun _ _ Xb St1=>match q,hv with
  | true,hv=>S.t R ok ha hv _ _ _ St1 fun _ _ Xc St2=>k _ _ (Xb.trans Xc) St2
  | false,hv=>S.t R ok hb hv _ _ _ St1 fun _ _ Xc St2=>k _ _ (Xb.trans Xc) St2)
theorem st_ret {e:Stmt} {x:X} {v:AV} (h:TrS c f.kd e (.ret x)) (he:r.e fr J x=some (v,J')):WpS c f A (exec e f.env) fr J (.ret v) fr J' :=
 h (fun e=>WpS c f A (exec e f.env) fr J (.ret v) fr J') fun _ _ hx _ _ _ St k=>wpAny_Return_some (S.e R ok hx he _ _ _ St fun _ _ w Xb St1 Vc=>k _ _ (.ret w) Xb St1 ⟨w,rfl,Vc⟩)
theorem snd_ss:∀ {xs:List Mine.Internal.S} {l:List Stmt} {fr:FrA} {J:AH} {fl:Fl},TrSs c f.kd l xs->ss r fr J xs=some (fl,fr',J')->WpS c f A (execs l f.env) fr J fl fr' J':=by
 intro xs
 induction xs with
 | nil =>
  intro _ fr J _ ht h
  exact Eq.symm (show _=[] from ht)▸some3K (Y:=WpS c f A (execs [] f.env) fr J) h fun _ _ _ St k=>wpAny_execs_nil (k _ _ _ .refl St rfl)
 | cons x xs ih =>
  intro _ fr J fl ht h
  exact ht (fun l=>WpS c f A (execs l f.env) fr J fl fr' J') fun e l he hl=>bind3K (show (bind3 (r.s fr J x) fun fl fr h=>match fl with
    | .next=>ss r fr h xs | .brk=>some (.brk,fr,h) | .cont=>some (.cont,fr,h) | .ret v=>some (.ret v,fr,h))=some (fl,fr',J') from h) fun fla fra Ja h1 h=>match fla,h1,h with
   | .next,h1,h=>fun _ _ _ St k=>wpAny_execs_cons (S.s R ok he h1 _ _ _ St fun _ _ g Xb St1 Fa=>by
     cases (Fa:g=.next)
     exact ih hl h _ _ _ St1 fun _ _ g Xc St2 Fb=>k _ _ _ (Xb.trans Xc) St2 Fb)
   | .brk,h1,h=>some3K (Y:=WpS c f A (execs (e::l) f.env) fr J) h fun _ _ _ St k=>wpAny_execs_cons (S.s R ok he h1 _ _ _ St fun _ _ g Xb St1 Fa=>by
     cases (Fa:g=.brk); exact k _ _ _ Xb St1 rfl)
   | .cont,h1,h=>some3K (Y:=WpS c f A (execs (e::l) f.env) fr J) h fun _ _ _ St k=>wpAny_execs_cons (S.s R ok he h1 _ _ _ St fun _ _ g Xb St1 Fa=>by
     cases (Fa:g=.cont); exact k _ _ _ Xb St1 rfl)
   | .ret v,h1,h=>some3K (Y:=WpS c f A (execs (e::l) f.env) fr J) h fun _ _ _ St k=>wpAny_execs_cons (S.s R ok he h1 _ _ _ St fun _ _ g Xb St1 Fa=>by
     obtain ⟨w,rfl,V⟩:=Fa; exact k _ _ (.ret w) Xb St1 ⟨w,rfl,V⟩)
theorem st_ite {e:Stmt} {x:X} {a b:List Mine.Internal.S} {fl:Fl} (h:TrS c f.kd e (.ite x a b)) (hx:(bind2 (r.t fr J x) fun q h=>cond q (ss r fr h a) (ss r fr h b))=some (fl,fr',J')):WpS c f A (exec e f.env) fr J fl fr' J' :=
 bind2K hx fun q Ja h1 hs=>h (fun e=>WpS c f A (exec e f.env) fr J fl fr' J') fun _ _ _ _ ht ha hb _ _ _ St k=>wpAny_If (S.t R ok ht h1 _ _ _ St fun _ _ Xb St1=>match q,hs with
  | true,hs=>snd_ss S R ok ha hs _ _ _ St1 fun _ _ _ Xc St2 Fb=>k _ _ _ (Xb.trans Xc) St2 Fb
  | false,hs=>snd_ss S R ok hb hs _ _ _ St1 fun _ _ _ Xc St2 Fb=>k _ _ _ (Xb.trans Xc) St2 Fb)
end
end
end Mine.Internal
namespace Mine.Internal
open PySem PySem.W PySem.Calls PyProof.Rows
section
variable {c:Cx} {P:Pg} {M:Ms} {f:Fm} {A:Around} {fr:FrA} {J:AH} {m:Mp} {s:Shared} {E:Value->Shared->Prop}
theorem nodup_snd {l:List (Str×Addr)} (h:(l.map (·.2)).Nodup) {p q:Str×Addr} (hp:p∈l) (hq:q∈l) (e:p.2=q.2):p=q:=by
 induction l with
 | nil=>exact nomatch hp
 | cons a l ih =>
  have h:=List.nodup_cons.mp (show (a.2::l.map (·.2)).Nodup from h)
  rcases List.mem_cons.mp hp with h1 | h1 <;> rcases List.mem_cons.mp hq with h2 | h2
  ·exact h1.trans h2.symm
  ·exact absurd (List.mem_map.mpr ⟨q,h2,e.symm.trans (h1▸rfl)⟩) h.1
  ·exact absurd (List.mem_map.mpr ⟨p,h1,e.trans (h2▸rfl)⟩) h.1
  ·exact ih h.2 h1 h2
section
variable (G:Gd c P M) (ok:f.Ok c) (x:St c f fr m J s) {n:Nat} {v:AV} {w:Value} (V:VR c m v w) {Q:Unit->Shared->Prop}
include G ok x V
theorem store_loc (hk:f.kd n=some .local) (k:∀ s',Ext f m J s m J s'->St c f { fr with loc:=up fr.loc n v } m J s'->Q () s'):wpAny (model c.prog c.w) A (storeName f.env (c.wd n) w) Q E s :=
 x.fr.loc.elim fun t hm=>wpAny_storeName_local (ok.names _ _ hk).2 hm.1 (fun h' hn hs =>
  x.frame (fr':={ fr with loc:=up fr.loc n v }) (.inl rfl) hs ⟨⟨_,hn,fun y u e hy=>up_in (F:=fun y u=>f.kd y=some .local->∃ w',(if c.wd y=c.wd n then some w else t (c.wd y))=some w'/\VR c m u w') e (fun _=>⟨w,if_pos rfl,V⟩)
    (fun q e hy=>(hm.2 _ _ e hy).imp fun w' a=>⟨(if_neg fun z=>q (G.inj _ _ (ok.names _ _ hy).1 (ok.names _ _ hk).1 z)).trans a.1,a.2⟩) hy⟩,
   fun y u e hy=>(x.fr.cel y u e hy).imp fun a=>Exists.imp fun w' q=>⟨q.1,q.2.1.imp fun o z=>⟨(hs.2 _ (x.locC _ (cellIn q.1))).trans z.1,z.2⟩,q.2.2⟩,
   fun y hy=>(x.fr.hasCell y hy).imp fun a=>Exists.imp fun o q=>⟨q.1,q.2.imp fun o z=>⟨(hs.2 _ (x.locC _ (cellIn q.1))).trans z.1,z.2⟩⟩⟩ (hn.elim fun o z=>z.elim fun _ z=>z.elim fun _ z=>⟨o,z.1⟩) (t:=s.toks+1) (Nat.le_succ _) (k _)) (by rw [ok.kind]; rfl)
theorem store_cel (hk:f.kd n=some .cell) (k:∀ s',Ext f m J s m J s'->St c f { fr with cel:=up fr.cel n v } m J s'->Q () s'):wpAny (model c.prog c.w) A (storeName f.env (c.wd n) w) Q E s :=
 (x.fr.hasCell _ hk).elim fun a z=>z.elim fun o hc=>wpAny_storeName_cell ok.kind (ok.names _ _ hk).2 hc.1 hc.2 fun h' hn hs =>
  have ha:=cellIn hc.1
  have oth:∀ {y a'},y≠n->f.kd y=some .cell->f.env.cells.lookup (c.wd y)=some a'->a'≠a:=fun q hy e z=>q (G.inj _ _ (ok.names _ _ hy).1 (ok.names _ _ hk).1 (congrArg Prod.fst (nodup_snd ok.nodup (cellIn e) ha z)))
  x.frame (fr':={ fr with cel:=up fr.cel n v }) (.inr ⟨_,ha,rfl⟩) hs ⟨x.fr.loc.imp fun t hm=>⟨hm.1.imp fun o=>Exists.imp fun _=>Exists.imp fun _ z=>⟨(hs.2 _ (Ne.symm (x.locC _ ha))).trans z.1,z.2⟩,hm.2⟩,
   fun y u e hy=>up_in (F:=fun y u=>f.kd y=some .cell->∃ a w,f.env.cells.lookup (c.wd y)=some a/\h'.IsCell a (some w)/\VR c m u w) e (fun _=>⟨a,w,hc.1,hn,V⟩)
    (fun q e hy=>(x.fr.cel _ _ e hy).imp fun a'=>Exists.imp fun w' r=>⟨r.1,r.2.1.imp fun o z=>⟨(hs.2 _ (oth q hy r.1)).trans z.1,z.2⟩,r.2.2⟩) hy,
   fun y hy=>if q:y=n then ⟨a,_,q▸hc.1,hn⟩ else (x.fr.hasCell y hy).imp fun a'=>Exists.imp fun o' r=>⟨r.1,r.2.imp fun o z=>⟨(hs.2 _ (oth q hy r.1)).trans z.1,z.2⟩⟩⟩ (hn.imp fun _ z=>z.1) (t:=s.toks) (Nat.le_refl _) (k _)
end
end
end Mine.Internal
namespace Mine.Internal
open PySem PySem.W PySem.Calls PyProof.Rows
section
variable {c:Cx} {P:Pg} {M:Ms} {r:Ev} {N:Nat} {f:Fm} {A:Around} {fr fr':FrA} {J J':AH} {fl:Fl} (S:Sound c r N) (G:Gd c P M) (R:Room A N) (ok:f.Ok c)
include S G R ok
theorem st_asg {e:Stmt} {n:Nat} {x:X} (h:TrS c f.kd e (.asg n x)) (hc:isComp x=false) (he:(bind2 (r.e fr J x) fun v h=>some (Fl.next,{ fr with loc:=up fr.loc n v },h))=some (fl,fr',J')):WpS c f A (exec e f.env) fr J fl fr' J' :=
 bind2K he fun v Ja h1 h2=>some3K (Y:=WpS c f A (exec e f.env) fr J) h2 (h (fun e=>WpS c f A (exec e f.env) fr J .next { fr with loc:=up fr.loc n v } Ja) fun _ _ _ hk hx _ _ _ St k=>wpAny_Assign_Name (S.e R ok hx h1 _ _ _ St fun _ _ w Xb St1 Vc=>store_loc G ok St1 Vc hk fun s' Xc St2=>k _ _ _ (Xb.trans Xc) St2 rfl) (swaps_plain hx hc _ _ _))
theorem st_asgC {e:Stmt} {n:Nat} {x:X} (h:TrS c f.kd e (.asgC n x)) (he:(bind2 (r.e fr J x) fun v h=>some (Fl.next,{ fr with cel:=up fr.cel n v },h))=some (fl,fr',J')):WpS c f A (exec e f.env) fr J fl fr' J' :=
 bind2K he fun v Ja h1 h2=>some3K (Y:=WpS c f A (exec e f.env) fr J) h2 (h (fun e=>WpS c f A (exec e f.env) fr J .next { fr with cel:=up fr.cel n v } Ja) fun _ _ _ hk hc hx _ _ _ St k=>wpAny_Assign_Name (S.e R ok hx h1 _ _ _ St fun _ _ w Xb St1 Vc=>store_cel G ok St1 Vc hk fun s' Xc St2=>k _ _ _ (Xb.trans Xc) St2 rfl) (swaps_plain hx hc _ _ _))
theorem st_expr {e:Stmt} {x:X} (hi:interactive f.env=false) (h:TrS c f.kd e (.expr x)) (he:(bind2 (r.e fr J x) fun _ h=>some (Fl.next,fr,h))=some (fl,fr',J')):WpS c f A (exec e f.env) fr J fl fr' J' :=
 bind2K he fun v Ja h1 h2=>some3K (Y:=WpS c f A (exec e f.env) fr J) h2 (h (fun e=>WpS c f A (exec e f.env) fr J .next fr Ja) fun _ _ hc hx m s Q St k=>by
  rw [arm_exec_Expr,hi]
  refine wpAny_bind (wpAny_standAt ?_)
  rw [if_neg Bool.false_ne_true,swaps_plain hx hc]
  refine wpAny_bind (wpAny_pure ?_)
  rw [if_neg Bool.false_ne_true]
  refine wpAny_bind (S.e R ok hx h1 _ _ _ St fun _ sd w Xb St1 Vc=>?_)
  have fin:=k _ _ .next Xb St1 rfl
  exact wpAny_dropValue fin)
end
end Mine.Internal
namespace Mine.Internal
open PySem PySem.W PySem.Calls PyProof.Rows
section
variable {c:Cx} {P:Pg} {M:Ms} {r:Ev} {N:Nat} {f:Fm} {A:Around}
theorem assignEach_tr {kd:Kd} (env:Env):∀ {ts:List T} {l:List Expr},TrTs c kd l ts->assignEach l env=l.map fun t=>(false,assign t env):=by
 intro ts
 induction ts with
 | nil =>
  intro _ h
  exact Eq.symm (show _=[] from h)▸rfl
 | cons t ts ih =>
  intro _ h
  exact h (fun l=>assignEach l env=l.map fun t=>(false,assign t env)) fun e l h hl=>by
   have q:=ih hl
   exact match t,h with
    | .loc _,h=>h (fun e=>assignEach (e::l) env=(e::l).map fun t=>(false,assign t env)) fun _ _=>congrArg (_::·) q
    | .cel _,h=>h (fun e=>assignEach (e::l) env=(e::l).map fun t=>(false,assign t env)) fun _ _=>congrArg (_::·) q
    | .tup _,h=>h (fun e=>assignEach (e::l) env=(e::l).map fun t=>(false,assign t env)) fun _ _ _ _=>congrArg (_::·) q
theorem TrTs.len {kd:Kd}:∀ {ts:List T} {l:List Expr},TrTs c kd l ts->l.length=ts.length
 | [],_,h=>Eq.symm (show _=[] from h)▸rfl
 | _::ts,_,h=>h (fun l=>l.length=ts.length+1) fun _ _ _ hl=>congrArg (·+1) (TrTs.len hl)
theorem bindTs_len:∀ {ts:List T} {vs:List AV} {fr fr':FrA},bindTs fr ts vs=some fr'->ts.length=vs.length
 | [],[],_,_,_=>rfl
 | [],_::_,_,_,h=>nomatch h
 | _::_,[],_,_,h=>nomatch h
 | _::_,_::_,_,_,h=>bindK h fun _ _ h=>congrArg (·+1) (bindTs_len h)
variable (G:Gd c P M) (ok:f.Ok c) (hh:A.handled=none)
include G ok hh
mutual
theorem bind_tr:∀ (tt:T) {t:Expr} {fr fr':FrA} {v:AV} {J:AH} {E:Value->Shared->Prop},TrT c f.kd t tt->bindT fr tt v=some fr' ->
  ∀ m s (Q:Unit->Shared->Prop) w,St c f fr m J s->VR c m v w->(∀ s',Ext f m J s m J s'->St c f fr' m J s'->Q () s')->wpAny (model c.prog c.w) A (assign t f.env w) Q E s
 | .loc _,t,fr,fr',v,J,E,ht,h,m,s,Q,w,st,V,k=>ht (fun t=>wpAny (model c.prog c.w) A (assign t f.env w) Q E s) fun _ hk=>wpAny_assign_Name (store_loc G ok st V hk fun s' X St=>k s' X (Option.some.inj h▸St))
 | .cel _,t,fr,fr',v,J,E,ht,h,m,s,Q,w,st,V,k=>ht (fun t=>wpAny (model c.prog c.w) A (assign t f.env w) Q E s) fun _ hk=>wpAny_assign_Name (store_cel G ok st V hk fun s' X St=>k s' X (Option.some.inj h▸St))
 | .tup ts,t,fr,fr',v,J,E,ht,h,m,s,Q,w,st,V,k=>ht (fun t=>wpAny (model c.prog c.w) A (assign t f.env w) Q E s) fun l _ _ hl=>bindK h fun vs hv h=>V.ofT (Y:=fun w=>wpAny (model c.prog c.w) A (assign (.Tuple l _ _) f.env w) Q E s) hv fun a us n fa Ra=>by
   refine assign_Tuple_tuple hh ⟨_,st.fzh _ _ fa,rfl,n,rfl⟩ ?_ ?_ fun h' hs=>?_
   ·rw [assignEach_tr f.env hl,List.length_map,hl.len,bindTs_len h]; exact Ra.size.symm
   ·rw [assignEach_tr f.env hl,List.findIdx?_eq_none_iff]
    exact fun x hx=>(List.mem_map.mp hx).elim fun y e=>e.2▸rfl
   ·rw [assignEach_tr f.env hl,List.map_map]
    have hk:∀ b o,s.heap.get? b=some o->h'.get? b=some o:=fun b o e=>hs b o (Nat.ne_of_lt (Heap.lt_size e)) e
    exact bind_trs ts hl h m { s with heap:=h' } Q _ (St.grown (t:=s.toks) st hk) Ra fun s' X St'=>k _ ((Ext.grown (t:=s.toks) hk).trans X) St'
theorem bind_trs:∀ (ts:List T) {l:List Expr} {fr fr':FrA} {vs:List AV} {J:AH} {E:Value->Shared->Prop},TrTs c f.kd l ts->bindTs fr ts vs=some fr' ->
  ∀ m s (Q:Unit->Shared->Prop) ws,St c f fr m J s->VRs c m vs ws->(∀ s',Ext f m J s m J s'->St c f fr' m J s'->Q () s') ->
   wpAny (model c.prog c.w) A (assignInOrder (l.map ((fun x=>x.2) ∘ fun t=>(false,assign t f.env))) ws) Q E s
 | [],l,fr,fr',[],J,E,ht,h,m,s,Q,ws,st,V,k=>by
  cases ht
  cases V
  exact wpAny_pure (k _ .refl (Option.some.inj h▸st))
 | [],l,fr,fr',_::_,J,E,ht,h,m,s,Q,ws,st,V,k=>nomatch h
 | _::_,l,fr,fr',[],J,E,ht,h,m,s,Q,ws,st,V,k=>nomatch h
 | t::ts,l,fr,fr',v::vs,J,E,ht,h,m,s,Q,ws,st,V,k=>ht (fun l=>wpAny (model c.prog c.w) A (assignInOrder (l.map ((fun x=>x.2) ∘ fun t=>(false,assign t f.env))) ws) Q E s) fun e l ht hl=>bindK h fun fra h1 h =>
   V.consK (Z:=fun ws=>wpAny (model c.prog c.w) A (assignInOrder ((e::l).map ((fun x=>x.2) ∘ fun t=>(false,assign t f.env))) ws) Q E s) fun w r V1 V2=>by
    show wpAny _ _ (holding _ (assign _ f.env _) >>= fun _=>assignInOrder _ _) _ _ _
    exact wpAny_bind (wpAny_holding (bind_tr t ht h1 m s _ _ st V1 fun sd Xb St1=>bind_trs ts hl h m sd Q _ St1 V2 fun s' X St'=>k _ (Xb.trans X) St'))
end
end
end Mine.Internal
namespace Mine.Internal
open PySem PySem.W PySem.Calls PyProof.Rows
variable {c:Cx} {f:Fm} {fr:FrA} {m m':Mp} {J J':AH} {s s':Shared}
theorem St.lock (x:St c f fr m J s) (l:List Nat):St c f fr m ⟨J.nx,l,J.ob⟩ s:=⟨x.nx,x.base,x.fzh,x.obj,x.tF,x.tO,x.tD,x.dom,x.tL,x.tC,x.locC,x.fr,x.gens,x.cin,x.lowL,x.lowC,x.lowR,x.lowD⟩
theorem hasN_append (b:List Nat) (i:Nat):∀ a:List Nat,hasN (a++b) i=(hasN a i||hasN b i)
 | []=>rfl
 | x::a=>by
  show (match Nat.beq x i with | true=>true | false=>hasN (a++b) i)=((match Nat.beq x i with | true=>true | false=>hasN a i)||hasN b i)
  cases Nat.beq x i with
  | true=>rfl
  | false=>exact hasN_append b i a
theorem Own.less {l:List Nat} {ρ δ:Nat->Addr} (h:∀ i,hasN l i=false->hasN J.ro i=false) {a:Addr} (o:Own f ρ δ ⟨J.nx,l,J.ob⟩ a):Own f ρ δ J a:=by
 cases o with
 | loc=>exact .loc
 | cell hp=>exact .cell hp
 | obj e hr=>exact .obj e (h _ hr)
 | dic e hr=>exact .dic e (h _ hr)
theorem none_end (h:Heap):h.get? h.objs.size=none:=Heap.get?_none_of_le (Nat.le_refl _)
structure ExtD (D:Addr) (f:Fm) (m:Mp) (J:AH) (s:Shared) (m':Mp) (J':AH) (s':Shared):Prop where
 le:Mp.Le m m'
 ro:J'.ro=J.ro
 keep:∀ a o,a≠D->s.heap.get? a=some o->¬ Own f m.ρ m.δ J a->s'.heap.get? a=some o
 there:∀ a o,s.heap.get? a=some o->∃ o',s'.heap.get? a=some o'
 tag:∀ a,m'.ω a=m.ω a∨s.heap.get? a=none
 own:∀ a,Own f m'.ρ m'.δ J' a->Own f m.ρ m.δ J a∨s.heap.get? a=none
 os:s'.os=s.os
 drawn:s'.drawn=s.drawn
theorem Ext.d {D:Addr} (X:Ext f m J s m' J' s'):ExtD D f m J s m' J' s':=⟨X.le,X.ro,fun a o _=>X.keep a o,X.there,X.tag,X.own,X.os,X.drawn⟩
theorem ExtD.ext {D:Addr} (X:ExtD D f m J s m' J' s') (h:s.heap.get? D=none):Ext f m J s m' J' s':=⟨X.le,X.ro,fun a o e=>X.keep a o (fun z=>no_some h z.symm e) e,X.there,X.tag,X.own,X.os,X.drawn⟩
theorem ExtD.unlock {D:Addr} {lo:List Nat} (X:ExtD D f m (J.lock lo) s m' J' s') (hlo:∀ i,hasN lo i=true->i < m.n/\∃ o,lk J.ob i=some o) (hst:∀ i,hasN lo i=true->∀ C l,lk J'.ob i≠some (.ins C l)):ExtD D f m J s m' (J'.open_ J) s':=by
 have less:∀ i,hasN (lo++J.ro) i=false->hasN J.ro i=false:=fun i e=>(Bool.or_eq_false_iff.mp ((hasN_append ..).symm.trans e)).2
 refine ⟨X.le,rfl,fun a o n e h=>X.keep a o n e fun q=>h (Own.less less q),X.there,X.tag,fun a h=>?_,X.os,X.drawn⟩
 have fin:Own f m'.ρ m'.δ J' a->Own f m.ρ m.δ J a∨s.heap.get? a=none:=fun q=>(X.own a q).imp (Own.less less) id
 have hro:∀ i,hasN lo i=false->hasN J.ro i=false->hasN J'.ro i=false:=fun i q hr=>by rw [X.ro]; exact (hasN_append ..).trans (by rw [q,hr]; rfl)
 cases h with
 | loc=>exact .inl .loc
 | cell hp=>exact .inl (.cell hp)
 | @obj i o e hr =>
  cases q:hasN lo i with
  | false=>exact fin (.obj e (hro i q hr))
  | true=>exact (hlo i q).2.elim fun o' e'=>.inl (X.le.rho i (hlo i q).1▸.obj e' hr)
 | @dic i C l e hr =>
  cases q:hasN lo i with
  | false=>exact fin (.dic e (hro i q hr))
  | true=>exact absurd e (hst i q C l)
theorem Ext.unlock {lo:List Nat} (X:Ext f m (J.lock lo) s m' J' s') (hlo:∀ i,hasN lo i=true->i < m.n/\∃ o,lk J.ob i=some o) (hst:∀ i,hasN lo i=true->∀ C l,lk J'.ob i≠some (.ins C l)):Ext f m J s m' (J'.open_ J) s':=(X.d.unlock hlo hst).ext (none_end _)
end Mine.Internal
namespace Mine.Internal
open PySem PySem.W PySem.Calls PyProof.Rows
structure Fx (f:Fm) (fp wr:List Addr) (m:Mp) (J:AH) (s:Shared):Prop where
 own:∀ b∈fp,¬ Own f m.ρ m.δ J b
 there:∀ b∈fp,∃ o,s.heap.get? b=some o
 un:∀ b∈wr,Un f m b
 sub:∀ b∈wr,b∈fp
structure Fo (fp:List Addr) (m:Mp) (s:Shared) (md:Mp) (sd:Shared):Prop where
 le:Mp.Le m md
 keep:∀ b∈fp,∀ o,s.heap.get? b=some o->sd.heap.get? b=some o
structure Tn (wr:List Addr) (m:Mp) (s:Shared) (mh:Mp) (hzd:Heap):Prop where
 le:Mp.Le m mh
 rho:mh.ρ=m.ρ
 del:mh.δ=m.δ
 tag:∀ b,mh.ω b=m.ω b∨s.heap.get? b=none
 keep:∀ b o,b∉wr->s.heap.get? b=some o->hzd.get? b=some o
noncomputable def Itr (c:Cx) (A:Around) (f:Fm) (t:Expr) (I:Addr) (fp wr:List Addr):List AV->Mp->Shared->Prop
 | [],m,s=>∀ md Ja sd fr,Fo fp m s md sd->Fx f fp wr md Ja sd->St c f fr md Ja sd->∀ (Q:Option Value->Shared->Prop) (E:Value->Shared->Prop),
   (∀ h' t',Tn wr md sd md h'->Q none { sd with heap:=h',toks:=t' })->wpAny (model c.prog c.w) A (pyNext (.ref I)) Q E sd
 | v::l,m,s=>∀ md Ja sd fr,Fo fp m s md sd->Fx f fp wr md Ja sd->St c f fr md Ja sd->∀ (Q:Option Value->Shared->Prop) (E:Value->Shared->Prop),
   (∀ w se,(∀ (Q':Unit->Shared->Prop) (E':Value->Shared->Prop),(∀ mh hzd tc,Tn wr md sd mh hzd->(∀ b∈fp,∃ o,hzd.get? b=some o)->St c f fr mh Ja { sd with heap:=hzd,toks:=tc }->VR c mh v w->Itr c A f t I fp wr l mh { sd with heap:=hzd,toks:=tc }->Q' () { sd with heap:=hzd,toks:=tc }) ->
    wpAny (model c.prog c.w) A (letOwnedTupleGo t (.ref I) w) Q' E' se)->Q (some w) se)->wpAny (model c.prog c.w) A (pyNext (.ref I)) Q E sd
section
variable {c:Cx} {P:Pg} {M:Ms} {r:Ev} {N:Nat} {f:Fm} {A:Around} {ma m md mf mh:Mp} {J0 J Ja:AH} {sa s sd se:Shared} {fp wr:List Addr} {hzd:Heap} {tc:Nat}
theorem Fo.trans (x:Fo fp m s md sd) (y:Fo fp md sd mf se):Fo fp m s mf se:=⟨x.le.trans y.le,fun b hb o e=>y.keep b hb o (x.keep b hb o e)⟩
theorem Fo.refl:Fo fp m s m s:=⟨.refl,fun _ _ _ e=>e⟩
theorem Ext.fo (X:Ext f m J s md Ja sd) (h:Fx f fp wr m J s):Fo fp m s md sd:=⟨X.le,fun b hb o e=>X.keep b o e (h.own b hb)⟩
theorem Fx.ext (h:Fx f fp wr m J s) (X:Ext f m J s md Ja sd):Fx f fp wr md Ja sd :=
 ⟨fun b hb q=>(X.own b q).elim (h.own b hb) fun z=>(h.there b hb).elim fun _ e=>(nomatch e.symm.trans z),fun b hb=>(h.there b hb).imp fun o e=>X.keep b o e (h.own b hb),fun b hb=>(h.there b (h.sub b hb)).elim fun _ e=>(h.un b hb).ext X e,h.sub⟩
theorem Fx.turn (h:Fx f fp wr m J s) (T:Tn wr m s mh hzd) (ht:∀ b∈fp,∃ o,hzd.get? b=some o):Fx f fp wr mh J { s with heap:=hzd,toks:=tc } :=
 ⟨fun b hb=>T.rho.symm▸T.del.symm▸h.own b hb,ht,fun b hb=>⟨(T.tag b).elim (·.trans (h.un b hb).tag) fun n=>(h.there b (h.sub b hb)).elim fun _ e=>(nomatch e.symm.trans n),(h.un b hb).loc,(h.un b hb).cel⟩,h.sub⟩
theorem Ext.turned (X:Ext f ma J0 sa m J s) (hw:∀ b∈wr,sa.heap.get? b=none) (T:Tn wr m s mh hzd):Ext f ma J0 sa mh J { s with heap:=hzd,toks:=tc } :=
 have X':=X.heap (h':=hzd) (t:=tc) fun b o hb e=>T.keep b o (fun z=>by rw [hw b z] at hb; exact nomatch hb) e
 ⟨X'.le.trans T.le,X'.ro,X'.keep,X'.there,fun a=>(T.tag a).elim (fun e=>(X'.tag a).imp e.trans id) fun n=>.inr (X.back n),fun a=>T.rho.symm▸T.del.symm▸X'.own a,X'.os,X'.drawn⟩
theorem Itr.move {t:Expr} {I:Addr} (X:Fo fp m s md sd):∀ {l:List AV},Itr c A f t I fp wr l m s->Itr c A f t I fp wr l md sd
 | [],it=>fun _ _ _ _ Y=>it _ _ _ _ (X.trans Y)
 | _::_,it=>fun _ _ _ _ Y=>it _ _ _ _ (X.trans Y)
theorem for_loop (S:Sound c r N) (G:Gd c P M) (R:Room A N) (ok:f.Ok c) {t:Expr} {tt:T} {body:List Stmt} {xs:List Mine.Internal.S} (ht:TrT c f.kd t tt) (hb:TrSs c f.kd body xs) {I:Addr} {l:List AV} {fr fr':FrA} {J':AH} {fl:Fl} (h:forGo r tt xs l fr J=some (fl,fr',J'))
  (hw:∀ b∈wr,sa.heap.get? b=none) (X:Ext f ma J0 sa m J s) (x:St c f fr m J s) (hx:Fx f fp wr m J s) (it:Itr c A f t I fp wr l m s) {R':Result->Shared->Prop}
  (k:∀ m' s' g,Ext f ma J0 sa m' J' s'->St c f fr' m' J' s'->FlR c m' fl g->R' (.ok g) s'):codeAny (model c.prog c.w) A (.forLoop t (.ref I) body [] f.env) R' s:=by
 refine codeAny_forLoop_any (fun n s'=>∃ lc fra md Ja,lc.length=n/\forGo r tt xs lc fra Ja=some (fl,fr',J')/\Ext f ma J0 sa md Ja s'/\St c f fra md Ja s'/\Fx f fp wr md Ja s'/\Itr c A f t I fp wr lc md s') ?_ l.length ⟨l,fr,m,J,rfl,h,X,x,hx,it⟩
 rintro n sd ⟨lc,fra,md,Ja,rfl,hzb,Xb,xb,hxa,it1⟩
 cases lc with
 | nil =>
  refine it1 _ _ _ _ .refl hxa xb _ _ fun h' t' T=>wpAny_execs_nil ?_
  exact some3K (Y:=fun fl fr' J'=>(∀ m' s' g,Ext f ma J0 sa m' J' s'->St c f fr' m' J' s'->FlR c m' fl g->R' (.ok g) s')->R' (.ok .next) { sd with heap:=h',toks:=t' }) hzb (fun k=>k _ _ .next (Xb.turned hw T) (xb.heap fun b o hb e=>T.keep b o (fun z=>hb (hxa.un b z)) e) rfl) k
 | cons v lc =>
  refine bindK hzb fun frb hbind hzb=>?_
  refine it1 _ _ _ _ .refl hxa xb _ _ fun w se lets=>lets _ _ fun mh hzd tc T th xd V3 it3=>?_
  have Xd:=Xb.turned (tc:=tc) hw T
  have hx3:=hxa.turn (tc:=tc) T th
  refine bind_tr G ok R.handled tt ht hbind _ _ _ _ xd V3 fun s4 X4 xe=>?_
  refine bind3K (show (bind3 (ss r frb Ja xs) fun fl fr h=>match fl with
   | .next=>forGo r tt xs lc fr h | .brk=>some (.next,fr,h) | .cont=>forGo r tt xs lc fr h | .ret v=>some (.ret v,fr,h))=some (fl,fr',J') from hzb) fun flb frc Jb hs hzb=>?_
  refine wpAny_mono (snd_ss S R ok hb hs _ _ (fun g s'=>_) xe fun m5 s5 g X5 xh F5=>?_) (fun _ _ z=>z) fun _ _ z=>z.elim
  have X6:=(Xd.trans X4).trans X5
  have go:forGo r tt xs lc frc Jb=some (fl,fr',J')->∃ n,n < lc.length+1/\∃ lc fra md Ja,lc.length=n/\forGo r tt xs lc fra Ja=some (fl,fr',J')/\Ext f ma J0 sa md Ja s5/\St c f fra md Ja s5/\Fx f fp wr md Ja s5/\Itr c A f t I fp wr lc md s5 :=
   fun hzb=>⟨lc.length,Nat.lt_succ_self _,lc,frc,m5,Jb,rfl,hzb,X6,xh,hx3.ext (X4.trans X5),it3.move ((X4.trans X5).fo hx3)⟩
  cases flb with
  | next=>cases (F5:g=.next); exact go hzb
  | cont=>cases (F5:g=.cont); exact go hzb
  | brk=>cases (F5:g=.brk); exact some3K (Y:=fun fl fr' J'=>(∀ m' s' g,Ext f ma J0 sa m' J' s'->St c f fr' m' J' s'->FlR c m' fl g->R' (.ok g) s')->R' (.ok .next) s5) hzb (fun k=>k _ _ .next X6 xh rfl) k
  | ret u=>obtain ⟨w,rfl,V⟩:=F5; exact some3K (Y:=fun fl fr' J'=>(∀ m' s' g,Ext f ma J0 sa m' J' s'->St c f fr' m' J' s'->FlR c m' fl g->R' (.ok g) s')->R' (.ok (.ret w)) s5) hzb (fun k=>k _ _ (.ret w) X6 xh ⟨w,rfl,V⟩) k
theorem itr_walks {t:Expr} {I:Addr} {n:Nat} {Pv:Nat->Value->Prop} {Stt:Nat->Heap->Prop} (W:Walks c.prog c.w A I fp wr n Pv Stt) (hat:∀ i h,Stt i h->∀ b∈wr,∃ o,h.get? b=some o)
  (hgo:∀ i (s':Shared) v (Q':Unit->Shared->Prop) (E':Value->Shared->Prop),Pv i v->Stt (i+1) s'.heap->Q' () s'->wpAny (model c.prog c.w) A (letOwnedTupleGo t (.ref I) v) Q' E' s') :
  ∀ (l:List AV) (i:Nat) (m:Mp) (s:Shared),i+l.length=n->Stt i s.heap->(∀ j w,Pv (i+j) w->∃ v,l[j]?=some v/\VR c m v w)->Itr c A f t I fp wr l m s:=by
 intro l
 induction l with
 | nil =>
  intro i m s hn st _
  exact fun md _ sd _ F _ _ _ _ k=>W.done sd _ _ (hn▸W.frame i _ _ st fun b hb o e=>F.keep b hb o e) fun h' tk hk=>k h' tk ⟨.refl,rfl,rfl,fun _=>.inl rfl,hk⟩
 | cons v l ih =>
  intro i m s hn st hP
  exact fun md _ sd _ F hx x _ _ k=>W.item i sd _ _ (hn▸Nat.lt_add_of_pos_right (Nat.succ_pos _)) (W.frame _ _ _ st fun b hb o e=>F.keep b hb o e) fun w h' tk hPw st' hk=>k w _ fun Q' E' hQ'=>hgo i _ w _ _ hPw st'
    (hQ' md h' tk ⟨.refl,rfl,rfl,fun _=>.inl rfl,hk⟩ (fun b hb=>Classical.byCases (fun q:b∈wr=>hat _ _ st' b q) fun q=>(hx.there b hb).imp fun o=>hk b o q) (x.heap fun b o hb e=>hk b o (fun z=>hb (hx.un b z)) e)
     ((hP 0 w hPw).elim fun _ q=>Option.some.inj q.1▸q.2.mono F.le) (ih (i+1) md _ ((Nat.add_right_comm i 1 _).trans hn) st' fun j w' hw'=>(hP (j+1) w' (Nat.add_right_comm i 1 j▸hw')).imp fun _ q=>⟨q.1,q.2.mono F.le⟩))
structure Src (c:Cx) (A:Around) (f:Fm) (t:Expr) (I:Addr) (fp wr:List Addr) (l:List AV) (m:Mp) (J:AH) (sd se:Shared):Prop where
 itr:∀ g,Itr c A g t I fp wr l m se
 new:∀ b∈wr,sd.heap.get? b=none
 own:∀ b∈fp,¬ Own f m.ρ m.δ J b
 there:∀ b∈fp,∃ o,se.heap.get? b=some o
 sub:∀ b∈wr,b∈fp
 known:∀ b∈fp,b∈wr∨m.ω b≠.no
 self:∀ s',(∀ b∈fp,∀ o,se.heap.get? b=some o->s'.heap.get? b=some o)->∀ (Q:Value->Shared->Prop) (E:Value->Shared->Prop),Q (.ref I) s'->wpAny (model c.prog c.w) A (pyIter (.ref I)) Q E s'
theorem Src.fx {t:Expr} {I:Addr} {l:List AV} {fr:FrA} (h:Src c A f t I fp wr l m J sd se) (x:St c f fr m J sd):Fx f fp wr m J se:=⟨h.own,h.there,fun b hb=>.ofNone x (h.new b hb),h.sub⟩
end
end Mine.Internal
namespace Mine.Internal
open PySem PySem.W PySem.Calls PyProof.Rows
variable {c:Cx} {P:Pg} {M:Ms} {f:Fm} {A:Around} {fr:FrA} {J:AH} {m:Mp} {s:Shared} {E:Value->Shared->Prop}
noncomputable def Tag.safe (ro:List Nat):Tag->Bool
 | .fz=>true
 | .ob i=>hasN ro i
 | .no=>false
 | .dx _=>false
theorem Tag.safe_ne {ro:List Nat} {t:Tag} (h:t.safe ro=true):t≠.no:=fun e=>nomatch (e▸h:Tag.safe ro .no=true)
theorem safe_notOwn (x:St c f fr m J s) {ro:List Nat} {a:Addr} (h:(m.ω a).safe ro=true):¬ Own f m.ρ m.δ ⟨J.nx,ro,J.ob⟩ a:=fun q=>by
 cases q with
 | loc=>exact Tag.safe_ne h x.tL
 | cell hp=>exact Tag.safe_ne h (x.tC _ hp)
 | obj e hr=>rw [x.tO _ _ e] at h; exact nomatch h.symm.trans hr
 | dic e hr=>rw [x.tD _ _ _ e] at h; exact nomatch h
theorem hasN_self (i:Nat) (l:List Nat):hasN (i::l) i=true:=by
 show (match Nat.beq i i with | true=>true | false=>hasN l i)=true
 rw [Nat.beq_refl]
theorem items_safe (x:St c f fr m J s) {v:AV} {w:Value} {l:List AV} (V:VR c m v w) (h:items J v=some l) {a:Addr} (e:w=.ref a):(m.ω a).safe (lockOf v++J.ro)=true :=
 match v,V,h with
 | .tup _,V,_=>V.tupK (Y:=fun w=>w=.ref a->_) (fun _ _ _ fa _ e=>Value.ref.inj e▸x.tF _ _ fa▸rfl) e
 | .dct _,V,_=>V.dctK (Y:=fun w=>w=.ref a->_) (fun _ _ _ fa _ _ _ _ e=>Value.ref.inj e▸x.tF _ _ fa▸rfl) e
 | .ref i,V,h=>V.refK (Y:=fun w=>w=.ref a->_) (fun _ e=>bindK h fun _ h1 _=>Value.ref.inj e▸x.tO _ _ h1▸hasN_self i J.ro) e
 | .none,_,h=>nomatch h | .bool _,_,h=>nomatch h | .int _,_,h=>nomatch h | .str _,_,h=>nomatch h
theorem VRs.getR:∀ {l:List AV} {r:List Value},VRs c m l r->∀ {j:Nat} {w:Value},r[j]?=some w->∃ v,l[j]?=some v/\VR c m v w
 | [],_,h,j,w,e=>h.nilK (Z:=fun r=>r[j]?=some w->∃ v,([]:List AV)[j]?=some v/\VR c m v w) (fun e=>nomatch List.getElem?_nil.symm.trans e) e
 | _::_,_,h,0,w,e=>h.consK (Z:=fun r=>r[0]?=some w->∃ v,(_::_:List AV)[0]?=some v/\VR c m v w) (fun wc _ h _ (e:some wc=some w)=>⟨_,rfl,Option.some.inj e▸h⟩) e
 | _::_,_,h,j+1,w,e=>h.consK (Z:=fun r=>r[j+1]?=some w->∃ v,(_::_:List AV)[j+1]?=some v/\VR c m v w) (fun _ _ _ q e=>VRs.getR q e) e
theorem VRs.getRA {l:List AV} {vs:Array Value} (V:VRs c m l vs.toList) (j:Nat) (w:Value) (e:vs[j]?=some w):∃ v,l[j]?=some v/\VR c m v w:=V.getR ((Array.getElem?_toList ..).trans e)
theorem mem1 {F:Addr->Prop} {p:Addr} (h:F p):∀ b∈[p],F b
 | _,.head _=>h
 | _,.tail _ h=>nomatch h
theorem mem2 {F:Addr->Prop} {p q:Addr} (h:F p) (k:F q):∀ b∈[p,q],F b
 | _,.head _=>h
 | _,.tail _ z=>mem1 k _ z
theorem src_of (x:St c f fr m J s) {t:Expr} {l:List AV} {a:Addr} {ob:Obj} {lo:List Nat} (ha:∃ o,s.heap.get? a=some o) (hs:(m.ω a).safe (lo++J.ro)=true) {n:Nat} (hn:l.length=n) {Pv:Nat->Value->Prop} {Stt:Nat->Heap->Prop} (W:Walks c.prog c.w A s.heap.objs.size [s.heap.objs.size,a] [s.heap.objs.size] n Pv Stt) (hf:ob.isFreed=false)
  (st:Stt 0 (s.heap.push ob)) (hat:∀ i h,Stt i h->∃ o,h.get? s.heap.objs.size=some o) (hgo:∀ i (s':Shared) v (Q':Unit->Shared->Prop) (E':Value->Shared->Prop),Pv i v->Stt (i+1) s'.heap->Q' () s'->wpAny (model c.prog c.w) A (letOwnedTupleGo t (.ref s.heap.objs.size) v) Q' E' s')
  (hP:∀ j w,Pv j w->∃ v,l[j]?=some v/\VR c m v w):Src c A f t s.heap.objs.size [s.heap.objs.size,a] [s.heap.objs.size] l m (J.lock lo) s { s with heap:=s.heap.push ob } where
 itr:=fun _=>itr_walks W (fun i h q=>mem1 (hat i h q)) hgo l 0 m _ ((Nat.zero_add _).trans hn) st fun j w hw=>hP j w (Nat.zero_add j▸hw)
 new:=mem1 (none_end _)
 own:=mem2 ((Un.fresh x (Nat.le_refl _)).notOwn (x.lock _)) (safe_notOwn x hs)
 there:=mem2 ⟨ob,Heap.get?_push_size _ hf⟩ (ha.imp fun _=>Heap.get?_push_of_some _)
 sub:=mem1 (.head _)
 known:=mem2 (.inl (.head _)) (.inr (Tag.safe_ne hs))
 self:=fun s' hk Q E q=>W.self 0 s' Q E (W.frame _ _ _ st hk) q
theorem pyIter_av (G:Gd c P M) (x:St c f fr m J s) (hh:A.handled=none) {v:AV} {w:Value} {l:List AV} (V:VR c m v w) (h:items J v=some l) {t:Expr} {Q:Value->Shared->Prop}
  (k:∀ I fp wr s',(∀ b o,s.heap.get? b=some o->s'.heap.get? b=some o)->Ext f m (J.lock (lockOf v)) s m (J.lock (lockOf v)) s'->St c f fr m (J.lock (lockOf v)) s'->Src c A f t I fp wr l m (J.lock (lockOf v)) s s'->Q (.ref I) s'):wpAny (model c.prog c.w) A (pyIter w) Q E s :=
 items_av (Y:=fun w=>(∀ a,w=.ref a->(m.ω a).safe (lockOf v++J.ro)=true)->wpAny (model c.prog c.w) A (pyIter w) Q E s) G x V h (fun a I safe=>by
  have fin:∀ {ob:Obj},Src c A f t s.heap.objs.size [s.heap.objs.size,a] [s.heap.objs.size] l m (J.lock (lockOf v)) s { s with heap:=s.heap.push ob }->Q (.ref s.heap.objs.size) { s with heap:=s.heap.push ob }:=fun {ob} src=>k _ _ _ _ (fun b o e=>Heap.get?_push_of_some _ e) (Ext.raw ob) ((x.lock _).raw ob) src
  have sf:=safe a rfl
  cases I with
  | lst ht Ra=>exact wpAny_pyIter_list ⟨_,ht,rfl,_,rfl⟩ (fin (src_of x ⟨_,ht⟩ sf Ra.length (Walks.list hh _ _ (Nat.ne_of_lt (Heap.lt_size ht)) _) rfl ⟨⟨_,Heap.get?_push_size _ rfl,rfl,rfl⟩,⟨_,Heap.get?_push_of_some _ ht,rfl,_,rfl⟩⟩ (fun _ _ z=>z.1.imp fun _ q=>q.1) (fun _ _ _ _ _ _ z q=>letGo_listiter z.1 q) Ra.getRA))
  | tup ht Ra=>exact wpAny_pyIter_tuple ⟨_,ht,rfl,_,rfl⟩ (fin (src_of x ⟨_,ht⟩ sf Ra.length (Walks.tuple hh _ _ (Nat.ne_of_lt (Heap.lt_size ht)) _) rfl ⟨⟨_,Heap.get?_push_size _ rfl,rfl,rfl⟩,⟨_,Heap.get?_push_of_some _ ht,rfl,_,rfl⟩⟩ (fun _ _ z=>z.1.imp fun _ q=>q.1) (fun _ _ _ _ _ _ z q=>letGo_tupleiter z.1 q) Ra.getRA))
  | @dic es _ _ D hl =>
   have kv:=hl▸D.rows.keyVals
   have sz:es.size=l.length:=(List.length_map ..).symm.trans kv.length.symm
   exact iter_dic D.low D.at_ (fin (src_of x ⟨_,D.at_⟩ sf sz.symm (walks_dic hh _ _ (Nat.ne_of_lt (Heap.lt_size D.at_)) _ _) rfl ⟨⟨_,Heap.get?_push_size _ rfl,rfl,rfl⟩,Heap.get?_push_of_some _ D.at_⟩ (fun _ _ z=>z.1.imp fun _ q=>q.1) (fun _ _ _ _ _ _ z q=>letGo_keyiter z.1 q) fun j w hw=>hw.elim fun e q=>q.2▸kv.getR (by rw [List.getElem?_map,Array.getElem?_toList,q.1]; rfl))))
  fun a e=>items_safe x V h e
end Mine.Internal
namespace Mine.Internal
open PySem PySem.W PySem.Calls PyProof.Rows
variable {c:Cx} {P:Pg} {M:Ms} {r:Ev} {N:Nat} {f:Fm} {A:Around} {fr fr':FrA} {J J':AH} {m m':Mp} {s s':Shared}
noncomputable def Lk (J:AH) (lo:List Nat):Prop:=∀ i,hasN lo i=true->∃ o,lk J.ob i=some o/\∀ C k,o≠.ins C k
theorem Lk.one {i:Nat} {o:AO} (h:lk J.ob i=some o) (n:∀ C k,o≠.ins C k):Lk J [i]:=fun j hj=>by
 have hj:(match Nat.beq i j with | true=>true | false=>false)=true:=hj
 cases q:Nat.beq i j with
 | true=>exact Nat.eq_of_beq_eq_true q▸⟨o,h,n⟩
 | false=>rw [q] at hj; exact nomatch hj
theorem items_lock {v:AV} {l:List AV} (h:items J v=some l):Lk J (lockOf v) :=
 match v,h with
 | .ref i,h=>bindK h fun o h1 h=>.one h1 fun C k e=>nomatch (e▸h:AO.its (.ins C k)=some l)
 | .tup _,_=>fun _ h=>nomatch h | .dct _,_=>fun _ h=>nomatch h
 | .none,h=>nomatch h | .bool _,h=>nomatch h | .int _,h=>nomatch h | .str _,h=>nomatch h
theorem Lk.lt {lo:List Nat} (h:Lk J lo) (x:St c f fr m J s):∀ i,hasN lo i=true->i < m.n/\∃ o,lk J.ob i=some o:=fun i hi=>(h i hi).elim fun o q=>⟨(x.obj _ _ q.1).1,o,q.1⟩
theorem Lk.stays {D:Addr} {lo:List Nat} (hlo:Lk J lo) (x:St c f fr m J s) (hD:s.heap.get? D=none∨m.ω D=.no) {g g':Fm} {frg:FrA} (X:ExtD D g m (J.lock lo) s m' J' s') (xg:St c g frg m J s) (x':St c g' fr' m' J' s'):∀ i,hasN lo i=true->∀ C k,lk J'.ob i≠some (.ins C k):=fun i hi C k e=>(hlo i hi).elim fun o q=>by
 have hl:(m.ω (m.ρ i)).safe (lo++J.ro)=true:=x.tO _ _ q.1▸((hasN_append ..).trans (by rw [hi]; rfl):hasN (lo++J.ro) i=true)
 have rho:=X.le.rho i (x.obj _ _ q.1).1
 have key:∀ ob t,ob.cls=.type t->s.heap.get? (m.ρ i)=some ob->False:=fun ob t hc h=>(x'.obj _ _ e).2.insK fun es j g1 _ _ _ _ _ =>
  nomatch (show Value.type t=.ref _ from hc.symm.trans (congrArg Obj.cls (Option.some.inj ((X.keep _ _ (fun z=>hD.elim (fun n=>no_some n z.symm h) fun n=>nomatch (z▸x.tO _ _ q.1:m.ω D=.ob i).symm.trans n) h (safe_notOwn xg hl)).symm.trans (rho▸g1)))))
 exact match o,q.2,(x.obj _ _ q.1).2 with
  | .lst _,_,h=>h.lstK fun _ _ a _ _=>key _ _ rfl a
  | .dic _,_,h=>h.dicK fun _ _ a _ _ _ _=>key _ _ rfl a
  | .ins C l,n,_=>n C l rfl
noncomputable def AfterI (c:Cx) (f:Fm) (A:Around) (t:Expr) (fr:FrA) (m:Mp) (J:AH) (s:Shared) (l:List AV) (lo:List Nat) (Ja:AH) (Q:Value->Shared->Prop):Prop :=
 ∀ md sd I fp wr se,Ext f m J s md Ja sd->St c f fr md Ja sd->Lk Ja lo->(∀ b o,sd.heap.get? b=some o->se.heap.get? b=some o) ->
  Ext f md (Ja.lock lo) sd md (Ja.lock lo) se->St c f fr md (Ja.lock lo) se->Src c A f t I fp wr l md (Ja.lock lo) sd se->Q (.ref I) se
theorem iter_of (S:Sound c r N) (G:Gd c P M) (R:Room A N) (ok:f.Ok c) {t i:Expr} {x:X} {l:List AV} {lo:List Nat} {Ja:AH} (hx:TrE c f.kd i x) (h:(bind2 (r.e fr J x) fun v h=>(items h v).map fun l=>(l,lockOf v,h))=some (l,lo,Ja)) {Q:Value->Shared->Prop}
  (x:Mine.Internal.St c f fr m J s) (k:AfterI c f A t fr m J s l lo Ja Q):wpAny (model c.prog c.w) A (eval i f.env) (fun v s'=>wpAny (model c.prog c.w) A (pyIter v) Q NoE s') NoE s :=
 bind2K h fun v Jb h1 h=>mapsK h fun lc h2 h=>some3K (Y:=fun l lo Ja=>AfterI c f A t fr m J s l lo Ja Q->wpAny (model c.prog c.w) A (eval i f.env) (fun v s'=>wpAny (model c.prog c.w) A (pyIter v) Q NoE s') NoE s) (congrArg some h)
  (fun k=>S.e R ok hx h1 _ _ _ x fun md sd w Xb St1 Vc=>pyIter_av (t:=t) G St1 R.handled Vc h2 fun I fp wr se hk Xc St2 it=>k md sd I fp wr se Xb St1 (items_lock h2) hk Xc St2 it) k
end Mine.Internal
namespace Mine.Internal
open PySem PySem.W PySem.Calls PyProof.Rows
section
variable {c:Cx} {P:Pg} {M:Ms} {r:Ev} {N:Nat} {f:Fm} {A:Around} {fr fr':FrA} {J J':AH} {m:Mp} {s:Shared} {fl:Fl} {E:Value->Shared->Prop}
theorem setItem_lst {l:Addr} {vs:Array Value} {n j:Nat} {k:Int} (hk:k=j) {t:Tok} {v:Value} {Q:Unit->Shared->Prop} (ho:s.heap.get? l=some (lstObj vs n)) (hj:j < vs.size) (hfit:vs.size<=1000)
  (hQ:∀ h',h'.get? l=some (lstObj (vs.setIfInBounds j v) n)->Heap.SameBut l s.heap h'->Q () { s with heap:=h' }):wpAny (model c.prog c.w) A (setItem (.ref l) (.int k t) v) Q E s:=by
 have hT:s.TypeIs (.ref l) "list":=⟨_,ho,rfl⟩
 have fits:=fitsIndex_of (Int.natCast_nonneg j) (big_hi (Int.ofNat_le.mpr (ltr (Nat.le_of_lt hj) hfit)))
 rw [← hk] at fits
 unfold setItem
 refine wpAny_holding ?_
 refine wpAny_bind (wpAny_sequenceKey hT (by decide) ?_)
 refine wpAny_bind (wpAny_callSpecial?_slot (name:=Str.ofString "__setitem__") hT slot_list_setitem
  (wpAny_call_entry slot_list_setitem hT entry_list_setitem ?_ (args_list_setitem _ _ _)))
 show wpAny _ _ (Builtin.List.listSubscript? (.int k t) >>= _) _ _ s
 refine wpAny_bind (wpAny_listSubscript_int fits ?_)
 subst hk
 show wpAny _ _ ((seqItemAt l j >>= fun r=>pure (r.map (j,·))) >>= _) _ _ s
 refine wpAny_bind (wpAny_bind (wpAny_seqItemAt ho rfl (wpAny_pure ?_)))
 rw [Array.getElem?_eq_getElem hj]
 show wpAny _ _ (setSeqItemAt l j v >>= _) _ _ s
 refine wpAny_bind (wpAny_setSeqItemAt ho rfl ?_)
 have hg:=get?_update_seq ho (fun xs=>xs.setIfInBounds j v)
 rw [show ((vs.setIfInBounds j v).size==vs.size)=true from by rw [Array.size_setIfInBounds]; exact beq_self_eq_true _] at hg
 exact wpAny_pure ⟨.none,rfl,wpAny_pure (hQ _ hg (Heap.SameBut.update ..))⟩
theorem VRs.set {v:AV} {w:Value} (V:VR c m v w):∀ {l:List AV} {ws:List Value} (i:Nat),VRs c m l ws->VRs c m (l.set i v) (ws.set i w)
 | [],_,_,h=>h.nilK (Z:=fun ws=>VRs c m [] (ws.set _ w)) .nil
 | _::_,_,0,h=>h.consK (Z:=fun ws=>VRs c m (v::_) (ws.set 0 w)) fun _ _ _ r=>.cons V r
 | _::_,_,i+1,h=>h.consK (Z:=fun ws=>VRs c m (_::List.set _ i v) (ws.set (i+1) w)) fun _ _ h r=>.cons h (VRs.set V i r)
theorem store_av (G:Gd c P M) (R:Room A N) (x:St c f fr m J s) {a k v:AV} {wa wk wv:Value} (Va:VR c m a wa) (Vk:VR c m k wk) (Vv:VR c m v wv) {Q:Unit->Shared->Prop} (h:storeI J a k v=some J') (q:Kt c f fr m J s .none J' fun _=>Q ()):wpAny (model c.prog c.w) A (setItem wa wk wv) Q E s :=
 bindK h fun j hr h=>bindK h fun o h1 h=>Va.ofR (Y:=fun wa=>wpAny (model c.prog c.w) A (setItem wa wk wv) Q E s) hr fun _=>match o,h1,h with
  | .dic l,h1,h=>chkK h fun hf h=>andK hf fun hf hl=>x.dic G h1 fun es n D=>setItem_av G D (x.fzR h1) R.u hf Vk Vv (few_le hl) fun h' es' n' t D' hs ht=>x.dicTurn (v:=.none) (w:=.none) (Q:=fun _=>Q ()) .none h1 h hs D' q
  | .lst l,h1,h=>bindK h fun i hi h=>chkK h fun hb h=>x.lst h1 fun vs n g1 Ra g2=>nat_part (Vb:=Vk) hi (of_decide_eq_true hb).1 (Y:=fun i wk=>i < l.length->J.put j (.lst (l.set i.toNat v))=some J'->wpAny (model c.prog c.w) A (setItem (.ref (m.ρ j)) wk wv) Q E s) (fun i t hb h =>
    setItem_lst rfl g1 (Ra.size▸Int.ofNat_lt.mp hb) (Ra.size▸g2) fun h' hat hs=>x.lstTurn (t:=s.toks) (v:=.none) (w:=.none) (Q:=fun _=>Q ()) .none h1 h hs hat (by rw [Array.toList_setIfInBounds]; exact Ra.set Vv i) (ltr (Nat.le_of_eq (List.length_set ..)) g2) q) (of_decide_eq_true hb).2 h
  | .ins _ _,_,h=>nomatch h
end
section
variable {c:Cx} {P:Pg} {M:Ms} {r:Ev} {N:Nat} {f:Fm} {A:Around} {fr fr':FrA} {J J':AH} {fl:Fl} (S:Sound c r N) (R:Room A N) (ok:f.Ok c)
include S R ok
theorem st_asgS (G:Gd c P M) {e:Stmt} {o i x:X} (h:TrS c f.kd e (.asgS o i x)) (he:(bind2 (r.e fr J x) fun v h=>e2 r fr h o i fun a k h=>(storeI h a k v).map fun h=>(Fl.next,fr,h))=some (fl,fr',J')):WpS c f A (exec e f.env) fr J fl fr' J' :=
 bind2K he fun v Ja h1 h2=>e2K h2 fun a k Jb Jc h2 h3 h4=>mapsK h4 fun Jd h4 h5=>some3K (Y:=WpS c f A (exec e f.env) fr J) (congrArg some h5) (h (fun e=>WpS c f A (exec e f.env) fr J .next fr Jd) fun _ _ _ _ _ hc ho hi hx _ _ _ St kk =>
  wpAny_Assign_Subscript (S.e R ok hx h1 _ _ _ St fun _ _ _ Xb St1 Vc=>S.e R ok ho h2 _ _ _ St1 fun _ _ _ Xc St2 Vd=>S.e R ok hi h3 _ _ _ St2 fun _ _ _ Xd St3 V3 =>
   store_av G R St3 (Xd.vr Vd) V3 (Xd.vr (Xc.vr Vc)) h4 fun _ _ _ X4 St4 _=>kk _ _ _ (((Xb.trans Xc).trans Xd).trans X4) St4 rfl) (swaps_plain hx hc _ _ _))
theorem st_while {e:Stmt} {x:X} (h:TrS c f.kd e (.while_ x)) (he:(bind2 (r.t fr J x) fun b h=>chk (!b) (some (Fl.next,fr,h)))=some (fl,fr',J')):WpS c f A (exec e f.env) fr J fl fr' J' :=
 bind2K he fun b Ja h1 h2=>chkK h2 fun hb h3=>some3K (Y:=WpS c f A (exec e f.env) fr J) h3 (h (fun e=>WpS c f A (exec e f.env) fr J .next fr Ja) fun _ _ _ ht m s Q St k =>
  wpAny_While (codeAny_whileLoop (fun n s'=>n=0/\s'=s) (by rintro n s' ⟨rfl,rfl⟩; exact wpAny_mono (S.t R ok ht h1 _ _ (fun b se=>b=false/\Q .next se) St fun _ _ Xb St1=>⟨(Bool.not_eq_true' _).mp hb,k _ _ .next Xb St1 rfl⟩) (fun b se z=>z.1▸wpAny_execs_nil z.2) fun _ _ z=>z.elim) 0 ⟨rfl,rfl⟩))
end
end Mine.Internal
namespace Mine.Internal
open PySem PySem.W PySem.Calls PyProof.Rows
section
variable {c:Cx} {P:Pg} {M:Ms} {r:Ev} {N:Nat} {f:Fm} {A:Around} {fr fr':FrA} {J J':AH} {m:Mp} {s:Shared}
theorem letGo_int {E:Value->Shared->Prop} {t:Expr} {I:Addr} {n:Int} {k:Tok} {Q:Unit->Shared->Prop} (h:Q () s):wpAny (model c.prog c.w) A (letOwnedTupleGo t (.ref I) (.int n k)) Q E s:=by
 unfold letOwnedTupleGo
 cases t <;> exact wpAny_pure h
theorem rangeL_get (n j:Nat) (h:j < n):(rangeL n)[j]?=some (.int j):=by
 unfold rangeL
 rw [List.getElem?_map,List.getElem?_range h]
 rfl
theorem range_size (n:Int):Builtin.Range.rangeSize 0 n 1=((n.toNat:Nat):Int):=by
 rw [rangeSize_one]
 split
 ·next h=>rw [Int.sub_zero,Int.toNat_of_nonneg (Int.le_of_lt h)]
 ·next h=>rw [Int.toNat_of_nonpos (Int.not_lt.mp h)]; rfl
theorem range_small {n:Int} (h:n.natAbs<=1000):Builtin.Range.small 0 n 1=true:=by
 have f:∀ i:Int,-1000<=i->i<=1000->Builtin.Range.rangeFitsLong i=true:=fun i h1 h2=>Bool.and_eq_true_iff.mpr ⟨decide_eq_true (big_lo h1),decide_eq_true (big_hi h2)⟩
 unfold Builtin.Range.small
 rw [range_size,if_pos (by decide),Int.sub_self,Int.add_zero,f 0 (by decide) (by decide),f n (by omega) (by omega),f 1 (by decide) (by decide),f n.toNat (by omega) (by omega),Bool.or_true]
 rfl
theorem iter_range (S:Sound c r N) (G:Gd c P M) (R:Room A N) (ok:f.Ok c) {t i:Expr} {x:X} {l:List AV} {lo:List Nat} {Ja:AH} (hi:TrI c f.kd i (.range x)) (h:(bind2 (r.e fr J x) fun v h=>v.i?.bind fun n=>chk (few n.natAbs) (some (rangeL n.toNat,([]:List Nat),h)))=some (l,lo,Ja)) {Q:Value->Shared->Prop}
  (xa:St c f fr m J s) (k:AfterI c f A t fr m J s l lo Ja Q):wpAny (model c.prog c.w) A (eval i f.env) (fun v s'=>wpAny (model c.prog c.w) A (pyIter v) Q NoE s') NoE s :=
 hi (fun i=>wpAny (model c.prog c.w) A (eval i f.env) (fun v s'=>wpAny (model c.prog c.w) A (pyIter v) Q NoE s') NoE s) fun _ _ e _ hn hx=>Call_Name1 (builtin_val ok G xa hn (PyProof.Rows.callWith_type rfl (evalArgs_plain (spliced_cons
  (bind2K h fun v Jb h1 h=>bindK h fun n hv h=>chkK h fun h2 h=>S.e R ok hx h1 _ _ _ xa fun md sd w Xb xb Vc=>by
   obtain ⟨tn,rfl⟩:=(AV.i?S hv▸Vc:VR c md (.int n) w)
   refine spliced_nil (call_range_1 ?_)
   have hr:IsRange (sd.heap.push { cls:=.type "range",data:=.fields #[.int 0 sd.toks,.int n tn,.int 1 (sd.toks+1)] }) sd.heap.objs.size 0 n 1 sd.toks tn (sd.toks+1):=Heap.get?_push_size _ rfl
   have xc:=(xb.raw { cls:=.type "range",data:=.fields #[.int 0 sd.toks,.int n tn,.int 1 (sd.toks+1)] }).tick (sd.toks+1+1)
   have Xc:=Xb.trans ((Ext.raw { cls:=.type "range",data:=.fields #[.int 0 sd.toks,.int n tn,.int 1 (sd.toks+1)] }).trans (.tick (t:=sd.toks+1+1) (ltr (Nat.le_succ _) (Nat.le_succ _))))
   refine wpAny_pyIter_range (s:={ sd with heap:=sd.heap.push { cls:=.type "range",data:=.fields #[.int 0 sd.toks,.int n tn,.int 1 (sd.toks+1)] },toks:=sd.toks+1+1 }) hr (range_small (few_le h2)) ?_
   rw [range_size]
   revert xc Xc hr
   generalize { sd with heap:=sd.heap.push { cls:=.type "range",data:=.fields #[.int 0 sd.toks,.int n tn,.int 1 (sd.toks+1)] },toks:=sd.toks+1+1 }=se
   intro _ xc Xc
   have W:=(Walks.range (prog:=c.prog) (w:=c.w) (A:=A) R.handled se.heap.objs.size 0 1 n.toNat).bound
   have st0:(se.heap.push { cls:=.type "range_iterator",data:=.fields #[rawInt 0,rawInt (n.toNat:Nat),rawInt 1] }).get? se.heap.objs.size=some { cls:=.type "range_iterator",data:=.fields #[rawInt 0,rawInt (n.toNat:Nat),rawInt 1] }:=Heap.get?_push_size _ rfl
   exact some3K (Y:=fun l lo Ja=>AfterI c f A t fr m J s l lo Ja Q->Q (.ref se.heap.objs.size) _) h (fun k=>k md se _ [se.heap.objs.size] [se.heap.objs.size] _ Xc xc (fun _ h=>nomatch h) (fun b o e=>Heap.get?_push_of_some _ e) (Ext.raw _) ((xc.lock _).raw _)
    ⟨fun _=>itr_walks W (fun i h hs=>mem1 ⟨_,hs⟩) (fun i s' v Q' E' p z q=>p.2.elim fun _ e=>e▸letGo_int q) (rangeL n.toNat) 0 _ _ (by rw [Nat.zero_add]; unfold rangeL; rw [List.length_map,List.length_range]) (by simpa using st0) fun j w hw=>⟨_,rangeL_get _ _ (Nat.zero_add j▸hw.1),hw.2.elim fun t e=>e▸⟨t,by rw [Nat.zero_add,Int.mul_one,Int.zero_add]⟩⟩,
     mem1 (none_end _),mem1 ((Un.fresh xc (Nat.le_refl _)).notOwn (xc.lock _)),mem1 ⟨_,st0⟩,mem1 (.head _),mem1 (.inl (.head _)),fun s' hk Q E q=>W.self 0 s' Q E (W.frame _ _ _ (by simpa using st0) hk) q⟩) k))))) (by rw [star_of hx]; rfl)
end
end Mine.Internal
namespace Mine.Internal
open PySem PySem.W PySem.Calls PyProof.Rows
section
variable {c:Cx} {P:Pg} {M:Ms} {r:Ev} {N:Nat} {f:Fm} {A:Around} {fr fr':FrA} {J J':AH} {m:Mp} {fl:Fl}
theorem swapped_none {l:List Expr} {ke:Nat} {p:Pos} {e:Expr} {env:Env} (h:notTup e=true):swappedStores [.Tuple l ke p] e env=pure none:=by
 cases e <;> first | rfl | exact nomatch h
theorem named (ok:f.Ok c) {line:Nat} {F:Expr->Option Str} (hF:∀ id pos,F (.Name id pos)=if (f.env.kindOf id==some .local&&pos.line==line)=true then some id else none):∀ {ns:List Nat} {l:List Expr},NmsAt c.wd line l ns->(∀ n∈ns,f.kd n=some .local)->l.filterMap F=ns.map c.wd:=by
 intro ns
 induction ns with
 | nil =>
  intro _ h _
  exact Eq.symm (show _=[] from h)▸rfl
 | cons n ns ih =>
  intro l h hk
  exact h (fun l=>l.filterMap F=(n::ns).map c.wd) fun p r hp h=>by
   have e:=hF (c.wd n) p
   rw [(ok.names _ _ (hk n (.head _))).2,hp] at e
   rw [List.filterMap_cons,e.trans (if_pos rfl)]
   exact congrArg (_::·) (ih h fun m hm=>hk m (.tail _ hm))
theorem NmsAt.len {wd:Nat->Str} {line:Nat}:∀ {ns:List Nat} {l:List Expr},NmsAt wd line l ns->l.length=(ns.map wd).length
 | [],_,h=>Eq.symm (show _=[] from h)▸rfl
 | n::ns,l,h=>h (fun l=>l.length=((n::ns).map wd).length) fun p r hp h=>congrArg (·+1) (NmsAt.len h)
theorem swapped_some (ok:f.Ok c) {l vs:List Expr} {ke kg:Nat} {p pa:Pos} {ns:List Nat} (h:SwapOk c.wd l vs ns) (hk:∀ n∈ns,f.kd n=some .local):swappedStores [.Tuple l ke p] (.Tuple vs kg pa) f.env=pure (some (ns.map c.wd)):=by
 have hb:f.env.blockKind=.function:=by unfold Env.blockKind; rw [ok.kind]; rfl
 unfold swappedStores
 dsimp only
 rw [h.len,h.same,hb]
 generalize hY:(List.filterMap _ l:List Str)=Y
 obtain rfl:Y=ns.map c.wd:=hY.symm.trans (named ok (fun _ _=>rfl) h.at_ hk)
 rw [h.fold,h.cst,h.nodup,h.at_.len,bne_self_eq_false]
 refine (if_neg (by decide)).trans ((if_neg ?_).trans ?_)
 ·exact fun q=>Bool.false_ne_true (h.star.symm.trans q)
 ·rw [bne_self_eq_false]; rfl
theorem VRs.reverse:∀ {l:List AV} {ws:List Value},VRs c m l ws->VRs c m l.reverse ws.reverse
 | [],_,h=>h.nilK (Z:=fun ws=>VRs c m [] ws.reverse) .nil
 | v::l,_,h=>h.consK (Z:=fun ws=>VRs c m (v::l).reverse ws.reverse) fun _ _ h r=>by
  rw [List.reverse_cons,List.reverse_cons]
  exact (VRs.reverse r).append (.cons h .nil)
theorem run_stores (G:Gd c P M) (ok:f.Ok c) {E:Value->Shared->Prop}:∀ {ns:List Nat} {vs:List AV} {ws:List Value} {fr:FrA} {s:Shared} {Q:Unit->Shared->Prop},(∀ n∈ns,f.kd n=some .local)->bindTs fr (ns.map .loc) vs=some fr'->St c f fr m J s->VRs c m vs ws ->
  (∀ s',Ext f m J s m J s'->St c f fr' m J s'->Q () s')->wpAny (model c.prog c.w) A (assignInOrder (ns.map fun n=>bindName f.env (c.wd n)) ws) Q E s:=by
 intro ns
 induction ns with
 | nil =>
  intro vs
  cases vs with
  | nil=>exact fun {_ _ s Q} _ h x V k=>V.nilK (Z:=fun ws=>wpAny (model c.prog c.w) A (assignInOrder [] ws) Q E s) (wpAny_pure (k _ .refl (Option.some.inj h▸x)))
  | cons=>exact fun _ h=>nomatch h
 | cons n ns ih =>
  intro vs
  cases vs with
  | nil=>exact fun _ h=>nomatch h
  | cons v vs =>
   exact fun {_ fr s Q} hk h x V k=>V.consK (Z:=fun ws=>wpAny (model c.prog c.w) A (assignInOrder ((n::ns).map fun n=>bindName f.env (c.wd n)) ws) Q E s) fun w r V1 V2=>by
    show wpAny _ _ (holding _ (bindName f.env (c.wd n) _) >>= fun _=>assignInOrder _ _) _ _ _
    exact wpAny_bind (wpAny_holding (wpAny_bindName (store_loc G ok x V1 (hk n (.head _)) fun sd Xb xb=>ih (fun m hm=>hk m (.tail _ hm)) h xb V2 fun s' X x'=>k _ (Xb.trans X) x')))
section
variable (S:Sound c r N) (G:Gd c P M) (R:Room A N) (ok:f.Ok c)
include S G R ok
theorem st_asgT {e:Stmt} {ts:List T} {x:X} (h:TrS c f.kd e (.asgT ts x)) (he:(bind2 (r.e fr J x) fun v h=>(bindT fr (.tup ts) v).map fun fr=>(Fl.next,fr,h))=some (fl,fr',J')):WpS c f A (exec e f.env) fr J fl fr' J' :=
 bind2K he fun v Ja h1 h2=>mapsK h2 fun frb h2 h3=>some3K (Y:=WpS c f A (exec e f.env) fr J) (congrArg some h3) (h (fun e=>WpS c f A (exec e f.env) fr J .next frb Ja) fun l e k p q hn hc ht hx _ _ _ xa kk =>
  Assign_Tuple (S.e R ok hx h1 _ _ _ xa fun _ _ _ Xb xb Vc=>bind_tr G ok R.handled (.tup ts) (fun Z z=>z l k p ht) h2 _ _ _ _ xb Vc fun s' Xc xc=>kk _ _ .next (Xb.trans Xc) xc rfl) (show swapsWith e (some (.Tuple l k p)) q.line f.env=pure false from swaps_plain hx hc _ _ _) (swapped_none hn))
theorem st_asgW {e:Stmt} {ns:List Nat} {x:X} (h:TrS c f.kd e (.asgW ns x)) (he:(bind2 (r.e fr J x) fun v h=>v.t?.bind fun vs=>(bindTs fr (ns.map .loc) vs.reverse).map fun fr=>(Fl.next,fr,h))=some (fl,fr',J')):WpS c f A (exec e f.env) fr J fl fr' J' :=
 bind2K he fun v Ja h1 h2=>bindK h2 fun vs hv h2=>mapsK h2 fun frb h2 h3=>some3K (Y:=WpS c f A (exec e f.env) fr J) (congrArg some h3) (h (fun e=>WpS c f A (exec e f.env) fr J .next frb Ja) fun l us k p k' p' q hs hk hc hx _ _ _ xa kk =>
  Assign_Tuple_swapped (names:=ns.reverse.map c.wd) (S.e R ok hx h1 _ _ _ xa fun md sd w Xb xb Vc=>Vc.ofT (Y:=fun w=>wpAny (model c.prog c.w) A (unpackItems w _ none) _ _ sd) hv fun a us n fa Ra=>by
   have hl:(List.map c.wd ns.reverse).length=us.size:=by
    rw [List.length_map,List.length_reverse,Ra.size,← List.length_reverse (as:=vs),← bindTs_len h2,List.length_map]
   rw [hl]
   refine unpackItems_tuple R.handled ⟨_,xb.fzh _ _ fa,rfl,n,rfl⟩ fun h' hs=>?_
   have hg:∀ b o,sd.heap.get? b=some o->h'.get? b=some o:=fun b o e=>hs b o (Nat.ne_of_lt (Heap.lt_size e)) e
   rw [← List.map_reverse,List.reverse_reverse,List.map_map]
   exact run_stores G ok hk h2 (St.grown (t:=sd.toks) xb hg) Ra.reverse fun s' Xc xc=>kk _ _ .next (Xb.trans ((Ext.grown (t:=sd.toks) hg).trans Xc)) xc rfl) (show swapsWith (.Tuple us k' p') (some (.Tuple l k p)) q.line f.env=pure false from swaps_plain hx hc _ _ _) (swapped_some ok hs fun n hn=>hk n (List.mem_reverse.mp hn)))
end
end
end Mine.Internal
namespace Mine.Internal
open PySem PySem.W PySem.Calls PyProof.Rows
section
variable {c:Cx} {P:Pg} {M:Ms} {r:Ev} {N:Nat} {f:Fm} {A:Around} {fr fr':FrA} {J J':AH}
theorem keep_of_fn {K:Frag} {a:Addr} (h:fnIn K a=true):keepIn K (.ref a)=true:=by
 unfold fnIn at h
 unfold keepIn
 dsimp only
 split at h
 ·rename_i e; rw [e]
 ·exact nomatch h
theorem method_open {o:Expr} {name:Str} {apos pos:Pos} {args:List Expr} {env:Env} {s:Shared} {Q:Value->Shared->Prop} {E:Value->Shared->Prop} (hb:PlainB o)
  (hfew:(backTo pos (starEach args env)).all (fun x=>!x.1)=true) (hlen:args.length < 20) (hline:(apos.endLine==pos.line)=true)
  (h:wpAny (model c.prog c.w) A (eval o env) (fun ov sd=>∀ pl,wpAny (model c.prog c.w) A (getMethod ov name pl) (fun r se=>wpAny (model c.prog c.w) A (callWith pos r.1 r.2 (backTo pos (starEach args env)) []) Q E se) E sd) E s) :
  wpAny (model c.prog c.w) A (eval (.Call (.Attribute o name apos) args [] pos) env) Q E s:=by
 rw [arm_eval_Call,attributeBase_plain hb]
 refine wpAny_bind (wpAny_mono h (fun ov sd hzb=>?_) fun _ _ e=>e)
 refine wpAny_bind (wpAny_standAt ?_)
 have hform:methodCallForm (args.length+([]:List Keyword).length) (backTo pos (starEach args env)) (backToKw pos (keywordEach [] env))=true:=by
  unfold methodCallForm
  rw [hfew]
  exact decide_eq_true (Nat.lt_of_lt_of_le (show args.length < 20 from hlen) (by decide))
 have hpos:methodCallPos true o env apos pos=pure pos:=by unfold methodCallPos; rw [hline]; rfl
 unfold methodCall
 rw [hform]
 refine wpAny_bind (wpAny_holding ?_)
 unfold calleeOf
 rw [if_pos rfl]
 exact wpAny_mono (hzb _) (fun r se hzc=>wpAny_bind (wpAny_of_eq hpos hzc)) fun _ _ e=>e
section
variable (S:Sound c r N) (G:Gd c P M) (R:Room A N) (ok:f.Ok c)
include S G R ok
theorem call_own {m:Mp} {s:Shared} {pos:Pos} {l:List Expr} {xs:List X} {fs vs:List AV} {ws:List Value} {g:Nat} {v:AV} {Ja:AH} (hl:TrEs c f.kd l xs) (h1:es r fr J xs=some (vs,Ja)) (hf:fnIn c.K (c.fnAt g)=true) (h2:r.c g (fs++vs) Ja=some (v,J'))
  (x:St c f fr m J s) (V:VRs c m fs ws) {Q:Value->Shared->Prop} (k:Kt c f fr m J s v J' Q):wpAny (model c.prog c.w) A (callWith pos (.ref (c.fnAt g)) ws (backTo pos (starEach l f.env)) []) Q NoE s :=
 callWith_of (P:=c.K.In) (by rw [(args_flat f.env pos hl).2]; rfl) (keeps_K (keep_of_fn hf)) (evalArgs_tr hl (snd_es S R ok hl h1 _ _ _ _ x fun _ _ ws Xb xb Vc=>⟨xb.K G,wpAny_back (S.c R h2 f fr _ _ _ _ xb ((V.mono Xb.le).append Vc) (k.after Xb))⟩))
theorem s_callF {e:Expr} {g:Nat} {xs:List X} {v:AV} (h:TrE c f.kd e (.callF g xs)) (he:(bind2 (es r fr J xs) fun vs h=>r.c g vs h)=some (v,J')):WpE c f A (eval e f.env) fr J v J' :=
 bind2K he fun vs Ja h1 h2=>h (fun e=>WpE c f A (eval e f.env) fr J v J') fun _ _ _ _ hk hw hf hl _ _ _ x k=>Call_Name rfl (global_val ok G x hk hw (call_own S G R ok (fs:=[]) hl h1 hf h2 x .nil k))
theorem s_meth {e:Expr} {y:X} {nm:Nat} {xs:List X} {v:AV} (h:TrE c f.kd e (.meth y nm xs)) (he:(bind2 (r.e fr J y) fun o h=>bind2 (es r fr h xs) fun vs h'=>callM P M r h h' o nm vs)=some (v,J')):WpE c f A (eval e f.env) fr J v J' :=
 bind2K he fun o Ja h1 h2=>bind2K h2 fun vs Jb h2 h3=>by
  unfold callM at h3
  cases q:insOf Ja o with
  | none =>
   rw [q] at h3
   exact bindK h3 fun a k1 h3=>bindK h3 fun b k2 h3=>chkK h3 fun ab h3=>s_methB S G R ok h h1 h2 k1 (eq_of_beq ab▸k2) h3
  | some q' =>
   rw [q] at h3
   refine insOfK (Y:=fun o=>r.e fr J y=some (o,Ja)->(match lk q'.2 nm with | some _=>none | none=>(P.mth q'.1 nm).bind fun g=>r.c g (o::vs) Jb)=some (v,J')->WpE c f A (eval e f.env) fr J v J') q (fun i h4 h1 h3=>?_) h1 h3
   cases h5:lk q'.2 nm with
   | some _=>rw [h5] at h3; exact nomatch h3
   | none =>
    rw [h5] at h3
    exact bindK h3 fun g h6 h7=>h (fun e=>WpE c f A (eval e f.env) fr J v J') fun _ l _ _ hx hb ha hline hlen hl _ _ _ x k=>method_open hb (args_flat f.env _ hl).1 hlen hline (S.e R ok hx h1 _ _ _ x fun _ sd w Xb xb Vc=>Vc.refK (Y:=fun w=>∀ pl,wpAny (model c.prog c.w) A (getMethod w (c.wd nm) pl) _ NoE sd) fun hi pl =>
     xb.inst h4 fun es' j I _ D _ _ hC=>have mt:=G.mth _ hC nm g h6; method_fn (xb.K G) I (G.cls _ hC).1 (G.cls _ hC).2.1 mt.2.1 (beq_iff_eq.mp mt.2.2.1) (by show (lookIn _ _).map _=_; rw [look_none G (i:=j) ha D h5]; rfl)
      (call_own S G R ok (fs:=[.ref i]) hl h2 mt.2.2.2 h7 xb (.cons (.ref hi) .nil) (k.after Xb)))
theorem s_clsM {e:Expr} {C a:Nat} {xs:List X} {v:AV} (h:TrE c f.kd e (.clsM C a xs)) (he:(bind2 (es r fr J xs) fun vs h=>(P.mth C a).bind fun g=>r.c g vs h)=some (v,J')):WpE c f A (eval e f.env) fr J v J' :=
 bind2K he fun vs Ja h1 h2=>bindK h2 fun g h2 h3=>h (fun e=>WpE c f A (eval e f.env) fr J v J') fun _ _ l _ _ hk hw hC ha hline hlen hl _ _ _ x k =>
  method_open (fun _ _ _=>rfl) (args_flat f.env _ hl).1 hlen hline (global_val ok G x hk hw fun pl=>(G.clsM C hC a g h2).elim fun mc q=>method_cls (x.K G) (G.cls C hC).2.2.2.2.2.2.2.1 (cls_value (x.K G) q.1 q.2 rfl
   (call_own S G R ok (fs:=[]) hl h1 (G.mth C hC a g h2).2.2.2 h3 (x.tick _) .nil (k.after (.tick (Nat.le_succ _))))))
end
end
end Mine.Internal
namespace Mine.Internal
open PySem PySem.W PySem.Calls PyProof.Rows
section
variable {c:Cx} {P:Pg} {M:Ms} {r:Ev} {N:Nat} {f:Fm} {A:Around} {fr fr':FrA} {J J':AH}
theorem room_step {a b k j n l:Nat} (h:a+k * (n+1)+j < l) (hb:b<=k):(a+b)+k * n+j < l :=
 Nat.lt_of_le_of_lt (Nat.add_le_add_right (by rw [Nat.add_assoc,Nat.mul_succ,Nat.add_comm b]; exact Nat.add_le_add_left (Nat.add_le_add_left hb _) _) _) h
theorem room_under (R:Room A (N+1)) (C:Addr) (rest:List Value) (kw:List (Str×Value)):Room (A.under (.builtin "type.__call__" ⟨.ref C::rest,kw⟩)) N :=
 have w:(Code.builtin "type.__call__" ⟨.ref C::rest,kw⟩).weight=1:=by rfl
 have u:(Code.builtin "type.__call__" ⟨.ref C::rest,kw⟩).cUnits=1:=by rfl
 ⟨room_step R.depth (w.symm▸by decide),room_step R.units (u.symm▸by decide),R.handled⟩
theorem s_callC (S:Sound c r N) (G:Gd c P M) (R:Room A (N+1)) (ok:f.Ok c) {e:Expr} {C:Nat} {xs:List X} {v:AV} (h:TrE c f.kd e (.callC C xs)) (he:(bind2 (es r fr J xs) fun vs h=>newI P r C vs h)=some (v,J')):WpE c f A (eval e f.env) fr J v J' :=
 bind2K he fun vs Ja h1 h2=>bindK h2 fun g h2 h3=>bind2K h3 fun vc Jb h3 h4=>chkK h4 fun hn h5=>some2K (Y:=WpE c f A (eval e f.env) fr J) h5 (h (fun e=>WpE c f A (eval e f.env) fr J (Ja.new (.ins C [])).1 Jb) fun _ _ l _ hk hw hC hl m s Q x k=>by
  have mt:=G.mth C hC P.init g h2
  have cl:=(G.cls C hC).2.2.2.2.2
  refine Call_Name rfl (global_val ok G x hk hw ?_)
  refine callWith_of (P:=c.K.In) (by rw [(args_flat f.env _ hl).2]; rfl) (keeps_K cl.2.2.2) (evalArgs_tr hl ?_)
  refine snd_es S (R.less (Nat.le_succ _)) ok hl h1 _ _ _ _ x fun md sd ws Xb xb Vc=>⟨xb.K G,wpAny_call ?_⟩
  obtain ⟨hh,gg,dd,tt,oo⟩:=sd
  refine make_core (makes_of (xb.K G) cl.1) (looks_findIn (xb.K G) (by rw [← G.init]; exact mt.2.1)) (fun self=>bind_fn (xb.K G) self (beq_iff_eq.mp mt.2.2.1)) (.inl rfl) ?_
  have b0:c.lo<=hh.objs.size:=ltr xb.lowL (Nat.le_of_lt xb.locLt)
  have xc:=(xb.raw emptyDict).raw (instObj (c.clAt C) hh.objs.size)
  have g1:((hh.push emptyDict).push (instObj (c.clAt C) hh.objs.size)).get? (hh.objs.size+1)=some (instObj (c.clAt C) hh.objs.size) :=
   Heap.size_push hh emptyDict▸Heap.get?_push_size (hh.push emptyDict) (o:=instObj (c.clAt C) hh.objs.size) rfl
  have g2:((hh.push emptyDict).push (instObj (c.clAt C) hh.objs.size)).get? hh.objs.size=some emptyDict:=Heap.get?_push_of_some _ (Heap.get?_push_size _ rfl)
  have xd:=xc.adopt (.ins C []) (.fresh xb (Nat.le_succ _)) (.fresh xb (Nat.le_refl _)) (fun _ _ _=>Nat.ne_of_lt (Nat.lt_succ_self _)) (ltr b0 (Nat.le_succ _)) b0 ⟨_,g1⟩ ⟨_,g2⟩ ⟨#[],0,by rw [show (md.putOb Ja.nx (hh.objs.size+1) hh.objs.size).ρ Ja.nx=hh.objs.size+1 from put_self ..,show (md.putOb Ja.nx (hh.objs.size+1) hh.objs.size).δ Ja.nx=hh.objs.size from put_self ..]; exact ⟨g1,g2,.nil,.nil,Nat.zero_le _,hC⟩⟩
  have Xd:=Ext.adopt xc ((Xb.trans (Ext.raw emptyDict)).trans (Ext.raw (instObj (c.clAt C) hh.objs.size))) (.ins C []) (a:=hh.objs.size+1) (d:=hh.objs.size) (Xb.back (Heap.get?_none_of_le (Nat.le_succ _))) (Xb.back (none_end _))
  refine codeAny_mono (S.c (room_under R (c.clAt C) ws []) h3 f fr _ _ (fun w s'=>w=.none/\Q (.ref (hh.objs.size+1)) s') _ xd (.cons .newOb (Vc.mono xb.leOb)) fun mi s4 w X4 xe V4=>⟨isNone_w V4 hn,k _ _ _ (Xd.trans X4) xe (X4.vr .newOb)⟩) fun r s' z=>?_
  rcases r with e | (v | _ | _ | _) <;> first | exact z.elim | exact z)
end
end Mine.Internal
namespace Mine.Internal
open PySem PySem.W PySem.Calls PyProof.Rows
section
variable {c:Cx} {P:Pg} {M:Ms} {f g:Fm} {fr fr':FrA} {m m':Mp} {J J':AH} {s s' sd:Shared}
theorem none_back {h hzb:Heap} (hk:∀ b o,h.get? b=some o->hzb.get? b=some o) {a:Addr} (e:hzb.get? a=none):h.get? a=none:=Option.eq_none_iff_forall_ne_some.mpr fun o q=>nomatch e.symm.trans (hk a o q)
theorem Ext.outer (hk:∀ b o,s.heap.get? b=some o->sd.heap.get? b=some o) (ho:sd.os=s.os) (hd:sd.drawn=s.drawn) (hl:s.heap.get? g.env.locals=none) (hc:∀ p∈g.env.cells,s.heap.get? p.2=none∨p∈f.env.cells)
  (X:Ext g m J sd m' J' s'):Ext f m J s m' J' s':=by
 have ow:∀ a,Own g m.ρ m.δ J a->Own f m.ρ m.δ J a∨s.heap.get? a=none:=fun a q=>by
  cases q with
  | loc=>exact .inr hl
  | cell hp=>exact (hc _ hp).elim .inr fun h=>.inl (.cell h)
  | obj e hr=>exact .inl (.obj e hr)
  | dic e hr=>exact .inl (.dic e hr)
 refine ⟨X.le,X.ro,fun a o e h=>X.keep a o (hk _ _ e) fun q=>(ow a q).elim h fun q=>(nomatch e.symm.trans q),fun a o e=>X.there a o (hk _ _ e),fun a=>(X.tag a).imp id (none_back hk),fun a h=>?_,X.os.trans ho,X.drawn.trans hd⟩
 have fin:Own g m'.ρ m'.δ J' a->Own f m.ρ m.δ J a∨s.heap.get? a=none:=fun q=>(X.own a q).elim (ow a) fun h=>.inr (none_back hk h)
 cases h with
 | loc=>exact .inl .loc
 | cell hp=>exact .inl (.cell hp)
 | obj e hr=>exact fin (.obj e hr)
 | dic e hr=>exact fin (.dic e hr)
theorem St.leave (x:St c f fr m J s) (y:St c g fr' m' J' s') (X:Ext f m J s m' J' s') (hf:FrOk c f m' fr s'.heap):St c f fr m' J' s' :=
 ⟨y.nx,y.base,y.fzh,y.obj,y.tF,y.tO,y.tD,y.dom,(X.tag _).elim (·.trans x.tL) fun n=>x.fr.loc.elim fun _ q=>q.1.elim fun _ q=>q.elim fun _ q=>q.elim fun _ q=>(nomatch n.symm.trans q.1),fun p hp=>(X.tag _).elim (·.trans (x.tC p hp)) fun n=>(x.cin p hp).elim fun _ e=>(nomatch n.symm.trans e),
  x.locC,hf,y.gens,fun p hp=>(x.cin p hp).elim (X.there _),x.lowL,x.lowC,y.lowR,y.lowD⟩
structure StB (c:Cx) (m:Mp) (J:AH) (s:Shared):Prop where
 nx:m.n=J.nx
 base:∀ a o,c.B.get? a=some o->m.fz a=some o
 fzh:∀ a o,m.fz a=some o->s.heap.get? a=some o
 obj:∀ i o,lk J.ob i=some o->i < m.n/\OR c m s.heap i o
 tF:∀ a o,m.fz a=some o->m.ω a=.fz
 tO:∀ i o,lk J.ob i=some o->m.ω (m.ρ i)=.ob i
 tD:∀ i C l,lk J.ob i=some (.ins C l)->m.ω (m.δ i)=.dx i
 dom:∀ a,s.heap.get? a=none->m.ω a=.no
 gens:s.gens=#[]
 size:c.lo<=s.heap.objs.size
 lowR:∀ i o,lk J.ob i=some o->c.lo<=m.ρ i
 lowD:∀ i C l,lk J.ob i=some (.ins C l)->c.lo<=m.δ i
theorem St.toB (x:St c f fr m J s):StB c m J s:=⟨x.nx,x.base,x.fzh,x.obj,x.tF,x.tO,x.tD,x.dom,x.gens,ltr x.lowL (Nat.le_of_lt x.locLt),x.lowR,x.lowD⟩
theorem StB.enter (x:StB c m J s) (hk:∀ b o,s.heap.get? b=some o->sd.heap.get? b=some o) (hg:sd.gens=s.gens) (hl:s.heap.objs.size<=g.env.locals) (hc:∀ p∈g.env.cells,m.ω p.2=.no/\c.lo<=p.2/\p.2≠g.env.locals/\∃ o,sd.heap.get? p.2=some o)
  (hf:FrOk c g m fr' sd.heap):St c g fr' m J sd :=
 ⟨x.nx,x.base,fun a o e=>hk _ _ (x.fzh _ _ e),fun i o e=>⟨(x.obj i o e).1,(x.obj i o e).2.move .refl (x.obj i o e).1 (fun _=>hk _ _) fun _ _ _ _=>hk _ _⟩,x.tF,x.tO,x.tD,fun a e=>x.dom a (none_back hk e),x.dom _ (Heap.get?_none_of_le hl),fun p hp=>(hc p hp).1,
  fun p hp=>(hc p hp).2.2.1,hf,hg.trans x.gens,fun p hp=>(hc p hp).2.2.2,ltr x.size hl,fun p hp=>(hc p hp).2.1,x.lowR,x.lowD⟩
theorem lk_drop {i j:Nat} {o:AO}:∀ {l:List (Nat×AO)},lk (l.filter fun p=>!(Nat.beq p.1 i)) j=some o->lk l j=some o/\i≠j:=by
 intro l
 induction l with
 | nil =>
  intro h
  exact nomatch h
 | cons jv l ih =>
  obtain ⟨k,v⟩:=jv
  intro h
  rw [List.filter_cons] at h
  cases q:Nat.beq k i with
  | true =>
   have r:=ih (by rw [q] at h; exact h)
   exact ⟨(lk_cons_ne (Nat.eq_of_beq_eq_true q▸r.2) ..).trans r.1,r.2⟩
  | false =>
   refine lk_in (F:=fun j o=>lk ((k,v)::l) j=some o/\i≠j) (by rw [q] at h; exact h) ⟨lk_cons_self ..,fun e=>nomatch ((e▸Nat.beq_refl i:Nat.beq k i=true).symm.trans q)⟩ fun hne h=>?_
   have r:=ih h
   exact ⟨(lk_cons_ne (Ne.symm hne) ..).trans r.1,r.2⟩
noncomputable def AH.drop (J:AH) (i:Nat):AH:={ J with ob:=J.ob.filter fun p=>!(Nat.beq p.1 i) }
noncomputable def Mp.untag (m:Mp) (a:Addr):Mp:={ m with ω:=put m.ω a .no }
theorem Mp.leUn {a:Addr}:Mp.Le m (m.untag a):=⟨Nat.le_refl _,fun _ _=>rfl,fun _ _=>rfl,fun _ _ e=>e⟩
theorem Tag.obI {i j:Nat}:Tag.ob i=.ob j->i=j
 | rfl=>rfl
theorem St.forget (x:St c f fr m J s) {i:Nat} {o:AO} (h:lk J.ob i=some o):St c f fr (m.untag (m.ρ i)) (J.drop i) s:=by
 have off:∀ {b t},t≠.ob i->m.ω b=t->(m.untag (m.ρ i)).ω b=t:=fun ht e=>(put_ne fun q=>ht (e.symm.trans ((congrArg m.ω q).trans (x.tO _ _ h)))).trans e
 exact ⟨x.nx,x.base,x.fzh,fun j q e=>⟨(x.obj j q (lk_drop e).1).1,(x.obj j q (lk_drop e).1).2.move Mp.leUn (x.obj j q (lk_drop e).1).1 (fun _ e=>e) fun _ _ _ _ e=>e⟩,fun a q e=>off (fun z=>nomatch z) (x.tF a q e),fun j q e=>off (fun z=>(lk_drop e).2 (Tag.obI z).symm) (x.tO _ _ (lk_drop e).1),fun j C l e=>off (fun z=>nomatch z) (x.tD _ _ _ (lk_drop e).1),
  fun a e=>off (fun z=>nomatch z) (x.dom a e),off (fun z=>nomatch z) x.tL,fun p hp=>off (fun z=>nomatch z) (x.tC p hp),x.locC,x.fr.move Mp.leUn (fun _ e=>e) fun _ _ _ e=>e,x.gens,x.cin,x.lowL,x.lowC,fun j q e=>x.lowR _ _ (lk_drop e).1,fun j C l e=>x.lowD _ _ _ (lk_drop e).1⟩
theorem Ext.forget {ma:Mp} {J0:AH} {sa:Shared} (X:Ext f ma J0 sa m J s) {i:Nat} {a:Addr} (ha:sa.heap.get? a=none):Ext f ma J0 sa (m.untag a) (J.drop i) s:=by
 refine ⟨X.le.trans Mp.leUn,X.ro,X.keep,X.there,fun b=>if r:b=a then .inr (r▸ha) else (X.tag b).imp ((put_ne r).trans ·) id,fun b q=>X.own b ?_,X.os,X.drawn⟩
 cases q with
 | loc=>exact .loc
 | cell hp=>exact .cell hp
 | obj e hr=>exact .obj (lk_drop e).1 hr
 | dic e hr=>exact .dic (lk_drop e).1 hr
theorem DRs.of_kvs:∀ {l:List (Nat×AV)} {es:List DictEntry},KRs c m (skeys l) es->DRs c m l es
 | [],_,h=>h
 | (k,v)::l,_,h=>h.consK (q:=(.str k,v)) (D:=fun es=>DRs c m ((k,v)::l) es) fun _ _ hk hr=>Exists.elim (show ∃ t,_ from hk.key) fun t q=>.cons q.2 ⟨t,q.1⟩ hk.hash hk.val (DRs.of_kvs hr)
theorem new_free {ma:Mp} {J0:AH} {sa:Shared} {fr0:FrA} (xa:St c f fr0 ma J0 sa) (X:Ext f ma J0 sa m J s) (x:St c f fr m J s) {i:Nat} {o:AO} (hn:J0.nx<=i) (h:lk J.ob i=some o) (hr:hasN J.ro i=false):sa.heap.get? (m.ρ i)=none :=
 (X.tag (m.ρ i)).elim (fun t=>(X.own _ (.obj h hr)).elim (fun q=>by
  have key:∀ b,Own f ma.ρ ma.δ J0 b->ma.ω b=.ob i->False:=fun b q e=>by
   cases q with
   | loc=>exact nomatch xa.tL.symm.trans e
   | cell hp=>exact nomatch (xa.tC _ hp).symm.trans e
   | obj e' _=>exact Nat.not_lt.mpr hn (xa.nx▸Tag.obI ((xa.tO _ _ e').symm.trans e)▸(xa.obj _ _ e').1)
   | dic e' _=>exact nomatch (xa.tD _ _ _ e').symm.trans e
  exact (key _ q (t.symm.trans (x.tO _ _ h))).elim) id) id
theorem freeze_av (G:Gd c P M) {ma:Mp} {J0:AH} {sa:Shared} {fr0:FrA} (xa:St c f fr0 ma J0 sa) {v:AV} {w:Value} (X:Ext f ma J0 sa m J s) (x:St c f fr m J s) (V:VR c m v w) {Q:Value->Shared->Prop} (k:Kt c f fr ma J0 sa (freeze J0.nx v J).1 (freeze J0.nx v J).2 Q):Q w s:=by
 unfold freeze at k
 cases q:dictNew J0.nx v J with
 | none=>rw [q] at k; exact k _ _ _ X x V
 | some p =>
  rw [q] at k
  refine bindK q fun i hi q=>chkK q fun hn q=>bindK q fun o ho q=>bindK q fun l hl q=>chkK q fun _ q=>bindK q fun l' hs q=>chkK q fun hr q=>?_
  obtain rfl:=Option.some.inj q
  obtain rfl:=AO.d?S hl
  refine V.ofR (Y:=fun w=>Q w s) hi fun hi'=>x.dic G ho fun es n D=>?_
  refine allStr_some (Y:=fun l=>DicAt c m s.heap (m.ρ i) l es n->Q (.ref (m.ρ i)) s) hs (fun D=>?_) D
  have ha:=new_free xa X x (Nat.le_of_ble_eq_true hn) ho ((Bool.not_eq_true' _).mp hr)
  have xb:=x.forget ho
  have u:Un f (m.untag (m.ρ i)) (m.ρ i):=⟨put_self ..,fun z=>(nomatch (x.tO _ _ ho).symm.trans ((congrArg m.ω z).trans x.tL)),fun p hp z=>(nomatch (x.tC p hp).symm.trans ((congrArg m.ω z).trans (x.tO _ _ ho)))⟩
  exact k _ _ _ ((X.forget ha).adoptFz (u.leFz xb) ha) (xb.adoptFz u D.at_) (.dct (put_self ..) D.low ((DRs.of_kvs D.rows).mono (Mp.leUn.trans (u.leFz xb))) ⟨nodup_of_str D.nd,ltr (Nat.le_of_eq (List.length_map ..).symm) D.few⟩)
end
end Mine.Internal
namespace Mine.Internal
open PySem PySem.W PySem.Calls PyProof.Rows
section
variable {c:Cx} {P:Pg} {M:Ms} {r:Ev} {N:Nat} {f:Fm} {A:Around} {fr fr':FrA} {J J':AH} {m:Mp}
noncomputable def Hs (c:Cx) (m:Mp) (kd:Kd) (k:NameKind) (l:List (Nat×AV)) (t:Str->Option Value):Prop:=∀ x v,lk l x=some v->kd x=some k->∃ w,t (c.wd x)=some w/\VR c m v w
theorem Hs.put (G:Gd c P M) {kd:Kd} (hk:∀ x k,kd x=some k->x < c.nw) {k:NameKind} {l:List (Nat×AV)} {t:Str->Option Value} {p:Nat} {v:AV} {w:Value} (hp:kd p=some k) (V:VR c m v w) (h:Hs c m kd k l t):Hs c m kd k (up l p v) fun s=>if s=c.wd p then some w else t s :=
 fun x u e hx=>up_in (F:=fun x u=>kd x=some k->∃ w',(if c.wd x=c.wd p then some w else t (c.wd x))=some w'/\VR c m u w') e (fun _=>⟨w,if_pos rfl,V⟩) (fun q e hx=>(h _ _ e hx).imp fun w' a=>⟨(if_neg fun z=>q (G.inj _ _ (hk _ _ hx) (hk _ _ hp) z)).trans a.1,a.2⟩) hx
theorem bindP_rel (G:Gd c P M) {kd:Kd} {ko:Str->Option NameKind} (hko:∀ x k,kd x=some k->x < c.nw/\ko (c.wd x)=some k) {frE:FrA}:∀ {ps:List (Nat×Bool)} {vs:List AV} {ws:List Value} {fr0:FrA} {t u:Str->Option Value},(∀ p∈ps,kd p.1=some (if p.2 then .cell else .local)) ->
  bindP ps vs fr0=some frE->VRs c m vs ws->Hs c m kd .local fr0.loc t->Hs c m kd .cell fr0.cel u ->
  Hs c m kd .local frE.loc (bindL ko ((ps.map fun p=>c.wd p.1).zip ws) t)/\Hs c m kd .cell frE.cel (bindC ko ((ps.map fun p=>c.wd p.1).zip ws) u):=by
 intro ps
 induction ps with
 | nil =>
  intro vs
  cases vs with
  | nil=>exact fun _ h _ hl hc=>Option.some.inj h▸⟨hl,hc⟩
  | cons=>exact fun _ h=>nomatch h
 | cons q ps ih =>
  obtain ⟨p,b⟩:=q
  intro vs
  cases vs with
  | nil=>exact fun _ h=>nomatch h
  | cons v vs =>
   exact fun {_ fr0 t u} hk h V hl hc=>V.consK (Z:=fun ws=>Hs c m kd .local frE.loc (bindL ko ((((p,b)::ps).map fun p=>c.wd p.1).zip ws) t)/\Hs c m kd .cell frE.cel (bindC ko ((((p,b)::ps).map fun p=>c.wd p.1).zip ws) u)) fun w ws V1 V2=>by
    show Hs c m kd .local frE.loc (bindL ko ((c.wd p,w)::(ps.map fun p=>c.wd p.1).zip ws) t)/\Hs c m kd .cell frE.cel (bindC ko ((c.wd p,w)::(ps.map fun p=>c.wd p.1).zip ws) u)
    unfold bindL bindC
    cases b with
    | false =>
     have hp:kd p=some .local:=hk (p,false) (.head _)
     rw [if_pos (hko _ _ hp).2,if_pos (hko _ _ hp).2]
     exact ih (fun q hq=>hk q (.tail _ hq)) h V2 (hl.put G (fun x k e=>(hko x k e).1) hp V1) hc
    | true =>
     have hp:kd p=some .cell:=hk (p,true) (.head _)
     have nl:¬ ko (c.wd p)=some .local:=fun e=>nomatch e.symm.trans (hko _ _ hp).2
     rw [if_neg nl,if_neg nl]
     exact ih (fun q hq=>hk q (.tail _ hq)) h V2 hl (hc.put G (fun x k e=>(hko x k e).1) hp V1)
theorem cellsFrom_mem:∀ (names:List (Str×NameKind)) (L:Nat) (acc:List (Str×Addr)) (x:Str),(x∈acc.map (·.1)∨(x,NameKind.cell)∈names)->x∈(cellsFrom L names acc).map (·.1):=by
 intro names
 induction names with
 | nil =>
  intro _ _ _ h
  exact h.elim id fun h=>(nomatch h)
 | cons jv r ih =>
  obtain ⟨y,k⟩:=jv
  intro L acc x h
  unfold cellsFrom
  split
  ·exact ih _ _ x (h.elim (fun h=>.inl (.tail _ h)) fun h=>(List.mem_cons.mp h).elim (fun e=>.inl (by rw [(Prod.mk.inj e).1]; exact .head _)) .inr)
  ·next q=>exact ih _ _ x (h.imp id fun h=>(List.mem_cons.mp h).elim (fun e=>absurd (show (k==NameKind.cell)=true by rw [← (Prod.mk.inj e).2]; rfl) q) id)
theorem cell_lookup {names:List (Str×NameKind)} (hnd:((cellsFrom 0 names []).map (·.1)).Nodup) (L:Nat) {x:Str} (h:names.lookup x=some .cell):∃ a,(cellsFrom L names []).lookup x=some a :=
 (List.mem_map.mp (cellsFrom_mem names L [] x (.inr (mem_of_lookup h)))).elim fun p q=>⟨p.2,lookup_of_mem_nodup (cellsFrom_names names 0 L [] [] rfl▸hnd) (q.2▸q.1)⟩
theorem bindP_len:∀ {ps:List (Nat×Bool)} {vs:List AV} {fr0 frE:FrA},bindP ps vs fr0=some frE->vs.length=ps.length
 | [],[],_,_,_=>rfl
 | [],_::_,_,_,h=>nomatch h
 | _::_,[],_,_,h=>nomatch h
 | _::_,_::_,_,_,h=>congrArg (·+1) (bindP_len h)
theorem room_deeper {env:Env} (R:Room A (N+1)):Room (A.deeper env) N:=⟨room_step R.depth (by decide),room_step R.units (by decide),R.handled⟩
noncomputable def backV:Flow->Value
 | .next=>.none | .brk=>.none | .cont=>.none | .ret v=>v
theorem FlR.back {fl:Fl} {g:Flow} (h:FlR c m fl g):VR c m (retOf fl) (backV g) :=
 match fl,h with
 | .next,h=>(show g=_ from h)▸VR.none
 | .brk,h=>(show g=_ from h)▸VR.none
 | .cont,h=>(show g=_ from h)▸VR.none
 | .ret _,h=>Exists.elim (show ∃ w,g=.ret w/\_ from h) fun _ q=>q.1.symm▸q.2
theorem call_core (S:Sound c r N) (G:Gd c P M) (R:Room A (N+1)) {g:Nat} {F:Fn} {vs:List AV} {fr0 fra:FrA} {fl:Fl} {Ja:AH} (hF:P.fn g=some F) (hb:bindP F.params vs ⟨[],[]⟩=some fr0) (hs:ss r fr0 J F.body=some (fl,fra,Ja))
  {s:Shared} {ws:List Value} {Q:Value->Shared->Prop} (x:StB c m J s) (V:VRs c m vs ws)
  (k:∀ (fm:Fm) sd m' s' w,(∀ b o,s.heap.get? b=some o->sd.heap.get? b=some o)->sd.os=s.os->sd.drawn=s.drawn->fm.env.locals=s.heap.objs.size->(∀ q∈fm.env.cells,s.heap.objs.size < q.2)->Ext fm m J sd m' Ja s'->St c fm fra m' Ja s' ->
   VR c m' (retOf fl) w->Q w s'):codeAny (model c.prog c.w) A (.call (.ref (c.fnAt g)) ⟨ws,[]⟩) (Back Q) s:=by
 refine (G.fn g F hF).elim fun o q=>q.elim fun fd q=>q.elim fun body q=>q.elim fun kd L=>?_
 have kp:∀ b o,c.B.get? b=some o->s.heap.get? b=some o:=fun b o e=>x.fzh _ _ (x.base _ _ e)
 refine G.T.elim fun p q=>q.elim fun loose q=>q.elim fun mg q=>q.elim fun mb T=>?_
 refine codeAny_call_cells (Nat.lt_of_le_of_lt (ltr (Nat.le_add_right _ _) (Nat.le_add_right _ _)) R.depth) (kp _ _ L.at_) L.data (T.nolimit.keeps kp) (L.code.keeps kp) L.stmts (L.bind ws (V.length.symm.trans (bindP_len hb))) L.clo (fun y hy=>?_) (fun sd I=>?_) L.co L.gen L.kind
 ·have hy':=(List.of_mem_zip (show (y.1,y.2)∈_ from hy)).1
  exact (List.mem_map.mp hy').elim fun n q=>q.2▸boolK (F:=fun b=>n.2=b->_) (fun e=>.inr (have hk2:=(L.names _ _ ((L.params n q.1).trans (by rw [e]; rfl))).2; ⟨hk2,(cell_lookup L.cells (s.heap.objs.size+1) hk2).elim fun a ha=>ha▸rfl⟩)) (fun e=>.inl (L.names _ _ ((L.params n q.1).trans (by rw [e]; rfl))).2) rfl
 ·refine I.done.elim fun hzb q=>q.elim fun tk q=>?_
  have hs1:=q.1
  have hcellL:∀ q∈(callEnvC fd s.heap.objs.size (c.fnAt g)).cells,s.heap.objs.size < q.2:=fun q hq=>I.above q.1 q.2 hq
  have hndL:((cellsFrom (s.heap.objs.size+1) fd.scope.names []).map (·.1)).Nodup:=cellsFrom_names fd.scope.names 0 (s.heap.objs.size+1) [] [] rfl▸L.cells
  have hkp:∀ b o,s.heap.get? b=some o->sd.heap.get? b=some o:=I.toInCall.keep
  have rel:=bindP_rel (m:=m) G (ko:=(callEnvC fd s.heap.objs.size (c.fnAt g)).kindOf) L.names L.params (t:=fun _=>none) (u:=fun _=>none) hb V (fun _ _ e=>nomatch e) fun _ _ e=>nomatch e
  have y:St c ⟨callEnvC fd s.heap.objs.size (c.fnAt g),kd⟩ fr0 m J sd:=x.enter hkp (by rw [hs1]) (Nat.le_refl _) (fun q hq=>⟨x.dom _ (Heap.get?_none_of_le (Nat.le_of_lt (hcellL q hq))),ltr x.size (Nat.le_of_lt (hcellL q hq)),Nat.ne_of_gt (hcellL q hq),(I.cell q.1 q.2 (lookup_of_mem_nodup hndL hq)).imp fun _ e=>e.1⟩)
   ⟨⟨_,I.toInCall.ns,rel.1⟩,fun y u e hk=>(rel.2 y u e hk).elim fun w q=>(cell_lookup L.cells (s.heap.objs.size+1) (L.names _ _ hk).2).imp fun a ha=>⟨w,ha,q.1▸I.cell _ _ ha,q.2⟩,fun y hk=>(cell_lookup L.cells (s.heap.objs.size+1) (L.names _ _ hk).2).imp fun a ha=>⟨_,ha,I.cell _ _ ha⟩⟩
  exact wpAny_mono (snd_ss S (room_deeper R) ⟨L.kind,L.glob,L.blt,L.names,List.pairwise_map.mpr I.apart,hndL⟩ L.tr hs m sd (fun fl' s'=>Q (backV fl') s') y fun m' s' g' X' y' F'=>k ⟨callEnvC fd s.heap.objs.size (c.fnAt g),kd⟩ sd m' s' _ hkp (by rw [hs1]) (by rw [hs1]) rfl hcellL X' y' F'.back) (fun g _ z=>match g,z with | .next,z=>z | .brk,z=>z | .cont,z=>z | .ret _,z=>z) fun _ _ z=>z.elim
theorem s_call (S:Sound c r N) (G:Gd c P M) (R:Room A (N+1)) {g:Nat} {vs:List AV} {v:AV} (h:stepC P r g vs J=some (v,J')):WpC c A g vs J v J':=fun f fr m s Q ws x V k =>
 bindK h fun F hF h=>bindK h fun fr0 hb h=>bind3K h fun fl fra Ja hs h=>call_core S G R hF hb hs x.toB V fun fm sd m' s' w hkp ho hd hl hcl X' y' V'=>by
  have na:∀ a,s.heap.objs.size<=a->s.heap.get? a=none:=fun a ha=>Heap.get?_none_of_le ha
  have X:Ext f m J s m' Ja s':=Ext.outer hkp ho hd (na _ (Nat.le_of_eq hl.symm)) (fun q hq=>.inl (na _ (Nat.le_of_lt (hcl q hq)))) X'
  have stays:∀ a o,m.ω a=.no->s.heap.get? a=some o->s'.heap.get? a=some o:=fun a o t e=>X'.keep _ _ (hkp _ _ e) fun q=>by
   cases q with
   | loc=>exact Nat.ne_of_lt (Heap.lt_size e) hl
   | cell hp=>exact Nat.lt_asymm (Heap.lt_size e) (hcl _ hp)
   | obj e' _=>exact nomatch t.symm.trans (x.tO _ _ e')
   | dic e' _=>exact nomatch t.symm.trans (x.tD _ _ _ e')
  have x':=x.leave y' X (x.fr.move X.le (fun o=>stays _ o x.tL) fun p hp o=>stays _ o (x.tC p hp))
  revert h
  cases F.gc with
  | false=>exact fun h=>some2K (Y:=fun v J'=>Kt c f fr m J s v J' Q->Q w s') h (fun k=>k _ _ _ X x' V') k
  | true=>exact fun h=>freeze_av G x X x' V' (k.of h)
end
end Mine.Internal
namespace Mine.Internal
open PySem PySem.W PySem.Calls PyProof.Rows
section
variable {c:Cx} {P:Pg} {M:Ms} {r:Ev} {N:Nat} {f:Fm} {A:Around} {fr fr':FrA} {J J':AH} {m:Mp} {s:Shared}
theorem ntr {b:Bool} (e:b=false):¬ b=true:=fun q=>Bool.false_ne_true (e.symm.trans q)
theorem entry_contains_iter:entryFor table "proto.contains_iter" = some Builtin.«proto.contains_iter»:=entryFor_of_tree (by kernel_rfl)
theorem plain_contains_iter:plainId "proto.contains_iter" = true:=by decide +kernel
theorem values_no_contains:typeLookup (.type "dict_values") "__contains__" = pure none:=by rw [typeLookup_type,builtinLookup_eq_fast]; kernel_rfl
theorem DRs.dictAt (G:Gd c P M) {h:Heap} {a:Addr} {es:Array DictEntry} {n:Nat} {l:List (Nat×AV)} (ha:h.get? a=some (dicObj es n)) (D:DRs c m l es.toList) (hn:(l.map (·.1)).Nodup):h.DictAt (strKind c.prog c.w) a (kvs c l es.toList) n :=
 have q:=D.pairs G
 ⟨_,es,ha,⟨rfl,rfl,rfl⟩,rfl,fun e he=>q.keys e (Array.mem_toList_iff.mpr he),q.pairs,q.names▸wd_nodup G D.lt hn⟩
theorem DRs.vals:∀ {l:List (Nat×AV)} {es:List DictEntry},DRs c m l es->VRs c m (l.map (·.2)) ((kvs c l es).map (·.2))
 | [],_,_=>.nil
 | p::l,_,D=>D.consK (D:=fun es=>VRs c m ((p::l).map (·.2)) ((kvs c (p::l) es).map (·.2))) fun _ _ _ _ _ h r=>.cons h r.vals
theorem vals_loop {it d:Addr} {n:Nat} {kv:List (Str×Value)} (hh:A.handled=none) (hid:d≠it) {k:Int} {kt:Tok} {R:Result->Shared->Prop} {sa:Shared} (hni:sa.heap.get? it=none):∀ (r:List AV) (i:Nat) (h:Heap) {q:Bool},VRs c m r ((kv.drop i).map (·.2))->inI k r=some q->h.IsValIter it d i kv.length n->h.DictAt (strKind c.prog c.w) d kv n ->
  (∀ b o,sa.heap.get? b=some o->h.get? b=some o)->(∀ h',(∀ b o,sa.heap.get? b=some o->h'.get? b=some o)->R (.ok (.ret (.bool q))) { sa with heap:=h' })->codeAny (model c.prog c.w) A (.builtin "proto.contains_iter" ⟨[.ref it,.int k kt],[]⟩) R { sa with heap:=h }:=by
 intro r
 induction r with
 | nil =>
  intro i h q V hq hit hd hk hR
  have hnone:kv[i]?=none:=List.getElem?_eq_none (List.drop_eq_nil_iff.mp (List.map_eq_nil_iff.mp (show (kv.drop i).map (·.2)=[] from V)))
  refine codeAny_builtin entry_contains_iter ?_
  rw [Around.under_plainId plain_contains_iter _]
  unfold Builtin.«proto.contains_iter»
  refine wpAny_bind (wpAny_pyNext_values_end (A:=A.in1) (s:={ sa with heap:=h }) hh hit hd hnone fun h' hs'=>?_)
  refine wpAny_bind (wpAny_rule ?_)
  refine wpAny_pure (a:=PySem.Fin.done (.ret (.bool false))) ?_
  exact (Option.some.inj hq:false=q)▸hR h' fun b o e=>hs' b o (fun z=>no_some hni z.symm e) (hk b o e)
 | cons v r ih =>
  intro i h q V hq hit hd hk hR
  cases hp:kv.drop i with
  | nil=>rw [hp] at V; exact V.consK (Z:=fun r=>r=[]->_) (fun _ _ _ _ e=>nomatch e) rfl
  | cons p rest =>
   rw [hp] at V
   have hget:kv[i]?=some p:=(List.getElem?_drop (xs:=kv) (i:=i) (j:=0)).symm.trans (by rw [hp]; rfl)
   have hnext:kv.drop (i+1)=rest:=by rw [← List.drop_drop,hp]; rfl
   refine codeAny_builtin entry_contains_iter ?_
   rw [Around.under_plainId plain_contains_iter _]
   unfold Builtin.«proto.contains_iter»
   refine wpAny_bind (wpAny_pyNext_values_item (s:={ sa with heap:=h }) hit hd (show kv[i]?=some (p.1,p.2) from hget) fun h' hit' hs'=>?_)
   have hk':∀ b o,sa.heap.get? b=some o->h'.get? b=some o:=fun b o e=>(hs'.2 b fun z=>no_some hni z.symm e).trans (hk b o e)
   have V':VR c m v p.2/\VRs c m r (rest.map (·.2)):=V.consK (Z:=fun ws=>ws=p.2::rest.map (·.2)->VR c m v p.2/\VRs c m r (rest.map (·.2))) (fun w r V1 V2 e=>List.head_eq_of_cons_eq e▸List.tail_eq_of_cons_eq e▸⟨V1,V2⟩) rfl
   refine bindK hq fun z hz hq=>V'.1.ofI (Y:=fun w=>wpAny _ _ (eqBool w (.int k kt) >>= _) _ _ _) hz fun t=>wpAny_bind (wpAny_eqBool_int ?_)
   refine condK hq (fun e hq=>?_) fun e hq=>?_
   ·rw [if_pos e]
    refine wpAny_bind (wpAny_rule ?_)
    refine wpAny_pure (a:=PySem.Fin.done (.ret (.bool true))) ?_
    exact (Option.some.inj hq:true=q)▸hR h' hk'
   ·rw [if_neg (ntr e)]
    exact wpAny_pure (a:=PySem.Fin.again (.builtin "proto.contains_iter" ⟨[.ref it,.int k kt],[]⟩)) ⟨plainId_quiet plain_contains_iter _,ih (i+1) h' (hnext▸V'.2) hq hit' (hd.at' fun o e=>(hs'.2 d hid).trans e) hk' hR⟩
theorem in_vals (G:Gd c P M) (hh:A.handled=none) {v d:Addr} {es:Array DictEntry} {n:Nat} {l:List (Nat×AV)} (hv:s.heap.IsValuesView v d) (hd:s.heap.get? d=some (dicObj es n)) (D:DRs c m l es.toList) (hn:(l.map (·.1)).Nodup)
  {k:Int} {kt:Tok} {q:Bool} (hq:inI k (l.map (·.2))=some q) {E:Value->Shared->Prop} {Q:Bool->Shared->Prop} (h:∀ h',(∀ b o,s.heap.get? b=some o->h'.get? b=some o)->Q q { s with heap:=h' }):wpAny (model c.prog c.w) A (contains (.ref v) (.int k kt)) Q E s:=by
 have hda:=D.dictAt G hd hn
 unfold contains
 refine wpAny_holding ?_
 refine wpAny_bind (wpAny_specialOf hv.typeIs values_no_contains ?_)
 rw [if_neg (by decide)]
 refine wpAny_bind (m:=callSpecialUnlessNone? _ _ _ _) ?_
 unfold callSpecialUnlessNone?
 refine wpAny_bind (wpAny_specialOf hv.typeIs values_no_contains (wpAny_pure ?_))
 refine wpAny_bind (wpAny_rule ?_)
 refine wpAny_bind (wpAny_tryCatch (wpAny_pyIter_values hv hda ?_))
 refine wpAny_bind (wpAny_runValue ?_)
 exact vals_loop (sa:=s) hh (Nat.ne_of_lt (Heap.lt_size hd)) (none_end _) _ 0 _ D.vals hq ⟨_,Heap.get?_push_size _ rfl,rfl,rfl⟩ (hda.push _) (fun b o e=>Heap.get?_push_of_some _ e) fun h' hk=>wpAny_pure (h h' hk)
theorem str_dic (G:Gd c P M) (x:St c f fr m J s) {b:AV} {w:Value} {l:List (AV×AV)} {l':List (Nat×AV)} {Y:Value->Prop} (V:VR c m b w) (hd:dicOf J b=some l) (hs:allStr l=some l') (k:∀ a es n,DicAt c m s.heap a (skeys l') es n->Y (.ref a)):Y w :=
 bindK hd fun i hi hd=>bindK hd fun o ho hd=>V.ofR hi fun _=>x.dic G (AO.d?S hd▸ho) fun es n D=>allStr_some (Y:=fun l=>DicAt c m s.heap (m.ρ i) l es n->Y (.ref (m.ρ i))) hs (fun D=>k _ _ _ D) D
section
variable (S:Sound c r N) (G:Gd c P M) (R:Room A N) (ok:f.Ok c)
include S G R ok
theorem view_values {i:Expr} {y:X} {n:Nat} {q p:Pos} {b:AV} {Ja:AH} {l:List (AV×AV)} {l':List (Nat×AV)} (hy:TrE c f.kd i y) (hb:PlainB i) (hn:c.wd n=Str.ofString "values") (hline:(q.endLine==p.line)=true) (he:r.e fr J y=some (b,Ja)) (hd:dicOf Ja b=some l) (hs:allStr l=some l')
  {Q:Value->Shared->Prop} (x:St c f fr m J s) (k:∀ m' s' d es j v,Ext f m J s m' Ja s'->St c f fr m' Ja s'->s'.heap.get? d=some (dicObj es j)->DRs c m' l' es.toList->(l'.map (·.1)).Nodup->s'.heap.IsValuesView v d->Q (.ref v) s') :
  wpAny (model c.prog c.w) A (eval (.Call (.Attribute i (c.wd n) q) [] [] p) f.env) Q NoE s:=by
 rw [hn]
 refine wpAny_Call_method_lateS (attributeBase_plain hb) rfl hline ?_
 refine S.e R ok hy he _ _ _ x fun md sd w Xb xb Vc=>str_dic (Y:=fun w=>MethodOnS c.prog c.w A NoE (Str.ofString "values") w p (backTo p (starEach [] f.env)) Q sd) G xb Vc hd hs fun a es j D=>?_
 have D2:=DRs.of_kvs D.rows
 exact ⟨"dict","dict.values",PySem.F.plainAttrs_dict,PySem.F.slot_dict_values,PySem.F.type_dict_values,D.typeIs,fun a e=>⟨_,Value.ref.inj e▸D.at_,rfl⟩,callWith_builtin rfl (PyProof.Rows.evalArgs_nil3
  (call_meetsIn PySem.F.slot_dict_values D.typeIs PySem.F.entry_dict_values (PySem.F.args_dict_values_1 _) (meets_dict_values (strKind c.prog c.w) _ D.low) ⟨⟨_,D2.dictOf G D.at_ (nodup_of_str D.nd)⟩,
   k md _ a es j _ (Xb.trans (Ext.raw _)) (xb.raw _) (Heap.get?_push_of_some _ D.at_) D2 (nodup_of_str D.nd) ⟨_,Heap.get?_push_size _ rfl,rfl,rfl⟩⟩))⟩
theorem vals_wp {ex i:Expr} {y z:X} {n:Nat} {q' p:Pos} {a b:AV} {Ja:AH} {q:Bool} (hx:TrE c f.kd ex y) (hy:TrE c f.kd i z) (hb:PlainB i) (hn:c.wd n=Str.ofString "values") (hline:(q'.endLine==p.line)=true) (h1:r.e fr J y=some (a,Ja)) (h2:r.e fr Ja z=some (b,J')) (hq:inValsV J' a b=some q)
  (x:St c f fr m J s) {Q:Value->Value->Shared->Prop} (k:∀ v w m' s',Ext f m J s m' J' s'->St c f fr m' J' s'->(∀ (Q':Bool->Shared->Prop) E,(∀ h',Ext f m J s m' J' { s' with heap:=h' }->St c f fr m' J' { s' with heap:=h' }->Q' q { s' with heap:=h' })->wpAny (model c.prog c.w) A (contains w v) Q' E s')->Q v w s') :
  wpAny (model c.prog c.w) A (eval ex f.env) (fun v=>wpAny (model c.prog c.w) A (eval (.Call (.Attribute i (c.wd n) q') [] [] p) f.env) (Q v) NoE) NoE s :=
 bindK hq fun l hd hq=>bindK hq fun ke hk hq=>bindK hq fun l' hs hq=>S.e R ok hx h1 _ _ _ x fun md sd v Xb xb Vc=>view_values S G R ok hy hb hn hline h2 hd hs xb fun mf se d es j w Xc xc hat D hnd hv =>
  (Xc.vr Vc).ofI (Y:=fun v=>Q v (.ref w) se) hk fun t=>k _ _ mf se (Xb.trans Xc) xc fun Q' E kk=>in_vals G R.handled hv hat D hnd hq fun h' hg=>kk h' ((Xb.trans Xc).trans (.grown (t:=se.toks) hg)) (xc.grown (t:=se.toks) hg)
theorem s_inVals {e:Expr} {y z:X} {v:AV} (h:TrE c f.kd e (.inVals y z)) (he:(e2 r fr J y z fun a b h=>(inValsV h a b).map fun q=>(AV.bool q,h))=some (v,J')):WpE c f A (eval e f.env) fr J v J' :=
 e2K he fun a b Ja Jb h1 h2 h3=>map2K (Y:=WpE c f A (eval e f.env) fr J) h3 fun q hq=>h (fun e=>WpE c f A (eval e f.env) fr J (.bool q) Jb) fun _ _ _ _ _ _ hx hy hb hn hline _ _ _ x k =>
  wpAny_Compare1 (vals_wp S G R ok hx hy hb hn hline h1 h2 hq x fun _ _ _ _ _ _ go=>wpAny_bind (go _ _ fun h' X x=>wpAny_pure (k _ _ _ X x (.bool _)))) rfl
theorem t_inVals {e:Expr} {y z:X} {q:Bool} {whole:Sem Value} (h:TrE c f.kd e (.inVals y z)) (he:(e2 r fr J y z fun a b h=>(inValsV h a b).map fun q=>(q,h))=some (q,J')):WpT c f A (isTrue e f.env whole) fr J q J' :=
 e2K he fun a b Ja Jb h1 h2 h3=>map2K (Y:=WpT c f A (isTrue e f.env whole) fr J) h3 fun q hq=>h (fun e=>WpT c f A (isTrue e f.env whole) fr J q Jb) fun _ _ _ _ _ _ hx hy hb hn hline _ _ _ x k =>
  wpAny_isTrue_Compare1 (vals_wp S G R ok hx hy hb hn hline h1 h2 hq x fun _ _ _ _ _ _ go=>wpAny_bind (go _ _ fun h' X x=>wpAny_pure (wpAny_truthy_bool (k _ _ X x)))) rfl
end
end
end Mine.Internal
namespace Mine.Internal
open PySem PySem.W PySem.Calls PyProof.Rows
section
variable {c:Cx} {P:Pg} {M:Ms} {r:Ev} {N:Nat} {f:Fm} {A:Around} {fr fr':FrA} {J J':AH} {s:Shared}
theorem Un.other {m:Mp} {a b:Addr} {o:Obj} (u:Un f m b) (h:b≠a):Un f (m.putFz a o) b:=⟨(put_ne h).trans u.tag,u.loc,u.cel⟩
theorem pairs_taken {ma:Mp} {J0:AH} {sa:Shared} {Z:Prop}:∀ {l:List (Nat×AV)} {es:List DictEntry} {as:List Addr} {m:Mp},DRs c m l es->as.length=l.length->as.Nodup->St c f fr m J s->Ext f ma J0 sa m J s->(∀ a∈as,sa.heap.get? a=none/\Un f m a) ->
  (∀ (j:Nat) a,as[j]?=some a->∃ key k w,(kvs c l es)[j]?=some (k,w)/\(strKind c.prog c.w).is k key=true/\s.heap.get? a=some (tupObj #[key,w] 0)) ->
  (∀ m',Mp.Le m m'->St c f fr m' J s->Ext f ma J0 sa m' J s->VRs c m' (pairL l) (as.map .ref)->(∀ b,b∉as->Un f m b->Un f m' b)->Z)->Z:=by
 intro l
 induction l with
 | nil =>
  intro _ as
  cases as with
  | nil=>exact fun _ _ _ x X _ _ k=>k _ .refl x X .nil fun _ _ u=>u
  | cons=>exact fun _ h=>nomatch h
 | cons p l ih =>
  intro _ as
  cases as with
  | nil=>exact fun _ h=>nomatch h
  | cons a as=>exact fun {m} D hl hn x X ha hp k=>D.consK (D:=fun es=>(∀ (j:Nat) b,(a::as)[j]?=some b->∃ key k w,(kvs c (p::l) es)[j]?=some (k,w)/\(strKind c.prog c.w).is k key=true/\s.heap.get? b=some (tupObj #[key,w] 0))->Z) (fun e es hk _ _ V D hp=>by
   obtain ⟨key,k',w,e1,e2,e3⟩:=hp 0 a rfl
   obtain ⟨rfl,rfl⟩:=Prod.mk.inj (Option.some.inj (show some (c.wd p.1,e.val)=some (k',w) from e1))
   obtain ⟨t,rfl⟩:=Value.isStrOf_shape e2
   have hn:=List.nodup_cons.mp hn
   have u:=(ha a (.head _)).2
   have le:=u.leFz (o:=tupObj #[.str (c.wd p.1) t,e.val] 0) x
   refine ih (D.mono le) (Nat.succ.inj hl) hn.2 (x.adoptFz u e3) (X.adoptFz le (ha a (.head _)).1) (fun b hb=>⟨(ha b (.tail _ hb)).1,(ha b (.tail _ hb)).2.other fun z=>hn.1 (z▸hb)⟩) (fun j b hj=>hp (j+1) b hj) fun m' le' y Y Vs hU=>?_
   exact k m' (le.trans le') y Y (.cons (.tup (le'.fz _ _ (put_self ..)) (.cons (.str _ _ hk) (.cons (V.mono (le.trans le')) .nil))) Vs) fun b hb u=>hU b (fun z=>hb (.tail _ z)) (u.other fun z=>hb (z▸.head _))) hp
theorem items_list {m:Mp} (G:Gd c P M) (x:St c f fr m J s) (hh:A.handled=none) {v d:Addr} {es:Array DictEntry} {n:Nat} {l:List (Nat×AV)} (hv:s.heap.IsItemsView v d) (hd:s.heap.get? d=some (dicObj es n)) (D:DRs c m l es.toList) (hn:(l.map (·.1)).Nodup) (hl:l.length<=1000)
  {E:Value->Shared->Prop} {Q:Value->Shared->Prop} (k:Kt c f fr m J s (J.new (.lst (pairL l))).1 (J.new (.lst (pairL l))).2 Q):wpAny (model c.prog c.w) A (call (.type "list") [.ref v]) Q E s:=by
 have hlen:(kvs c l es.toList).length=l.length:=(D.pairs G).len
 refine kdx_call (knd:=strKind c.prog c.w) hh hv (D.dictAt G hd hn) (hlen▸size_le hl) fun h' tk acc cc as hk hat has hG hacc=>?_
 have na:∀ a,s.heap.objs.size<=a->s.heap.get? a=none:=fun a ha=>Heap.get?_none_of_le ha
 refine pairs_taken (as:=as) D (has.trans hlen) (hG.rise.imp Nat.ne_of_lt) (x.grown hk (t:=tk)) (.grown hk) (fun a ha=>⟨na a (Nat.le_of_lt (hG.above a ha)),.ofNone x (na a (Nat.le_of_lt (hG.above a ha)))⟩) hG.pairs fun m' le y Y Vs hU=>?_
 have u:=hU _ (fun z=>Nat.lt_irrefl _ (hG.above _ z)) (.ofNone x (none_end _))
 exact k _ _ _ (Ext.adopt y Y (.lst _) (none_end _) (none_end _)) (y.adopt (.lst _) u u (fun _ _ e=>nomatch e) (ltr x.lowL (Nat.le_of_lt x.locLt)) (ltr x.lowL (Nat.le_of_lt x.locLt)) ⟨_,hat⟩ ⟨_,hat⟩ ⟨acc,cc,by rw [show (m'.putOb J.nx s.heap.objs.size s.heap.objs.size).ρ J.nx=s.heap.objs.size from put_self ..]; exact hat,hacc▸Vs.mono y.leOb,ltr (Nat.le_of_eq (List.length_map ..)) hl⟩) .newOb
theorem items_dic {m:Mp} (G:Gd c P M) (x:St c f fr m J s) {b v:AV} {w:Value} {Y:Value->Prop} (V:VR c m b w) (h:itemsL J b=some (v,J')) (k:∀ a es n l,DicAt c m s.heap a (skeys l) es n->J.new (.lst (pairL l))=(v,J')->Y (.ref a)):Y w:=by
 unfold itemsL at h
 cases q:b.d? with
 | some l =>
  rw [q] at h
  obtain rfl:=AV.d?S q
  exact V.dctK fun a es n f1 m1 D1 n1 n2=>k a es n l (DicAt.frozen x.fzh f1 m1 D1 n1 n2) (Option.some.inj h)
 | none =>
  rw [q] at h
  exact bindK h fun l hd h=>mapsK h fun l' hs h=>str_dic G x V hd hs fun a es n D=>k a es n l' D h
theorem s_lstItems (S:Sound c r N) (G:Gd c P M) (R:Room A N) (ok:f.Ok c) {e:Expr} {y:X} {v:AV} (h:TrE c f.kd e (.lstItems y)) (he:(bind2 (r.e fr J y) fun v h=>itemsL h v)=some (v,J')):WpE c f A (eval e f.env) fr J v J' :=
 bind2K he fun b Ja h1 h2=>h (fun e=>WpE c f A (eval e f.env) fr J v J') fun _ _ i q p0 _ _ hn hy hb hm hline _ _ _ x k=>by
  refine Call_Name1 (builtin_val ok G x hn ?_) (by rfl)
  refine PyProof.Rows.callWith_type rfl (evalArgs_plain (spliced_cons ?_))
  rw [hm]
  refine wpAny_Call_method_lateS (attributeBase_plain hb) rfl hline ?_
  refine S.e R ok hy h1 _ _ _ x fun md sd w Xb xb Vc=>items_dic (Y:=fun w=>MethodOnS c.prog c.w A NoE (Str.ofString "items") w _ (backTo _ (starEach [] f.env)) _ sd) G xb Vc h2 fun a es n l D hv=>?_
  have D2:=DRs.of_kvs D.rows
  refine ⟨"dict","dict.items",PySem.F.plainAttrs_dict,PySem.F.slot_dict_items,PySem.F.type_dict_items,D.typeIs,fun a e=>⟨_,Value.ref.inj e▸D.at_,rfl⟩,?_⟩
  refine callWith_builtin rfl (PyProof.Rows.evalArgs_nil3 ?_)
  refine call_meetsIn PySem.F.slot_dict_items D.typeIs PySem.F.entry_dict_items (PySem.F.args_dict_items_1 _) (meets_dict_items (strKind c.prog c.w) _ D.low) ⟨⟨_,D2.dictOf G D.at_ (nodup_of_str D.nd)⟩,?_⟩
  exact spliced_nil (items_list G (xb.raw _) R.handled ⟨_,Heap.get?_push_size _ rfl,rfl,rfl⟩ (Heap.get?_push_of_some _ D.at_) D2 (nodup_of_str D.nd) (ltr (Nat.le_of_eq (skeys_len l).symm) D.few) ((k.of (congrArg some hv)).after (Xb.trans (Ext.raw _))))
end
end Mine.Internal
namespace Mine.Internal
open PySem PySem.W PySem.Calls PyProof.Rows
section
variable {c:Cx} {P:Pg} {M:Ms} {r:Ev} {N:Nat} {f:Fm} {A:Around} {fr fr':FrA} {J J':AH} {m:Mp} {s:Shared}
noncomputable def putE (F:DictEntry->Bool) (ec:DictEntry):List DictEntry->List DictEntry
 | []=>[ec]
 | e::r=>cond (F e) ({ e with val:=ec.val }::r) (e::putE F ec r)
theorem putE_at {F:DictEntry->Bool} {ec:DictEntry} {Y:List DictEntry->Prop}:∀ {es:List DictEntry},Y (putE F ec es)->(match es.findIdx? F with | some i=>Y (es.modify i fun e=>{ e with val:=ec.val }) | none=>Y (es++[ec]))
 | [],h=>h
 | e::r,h=>by
  have ih:=putE_at (F:=F) (ec:=ec) (Y:=fun r=>Y (e::r)) (es:=r)
  have h:Y (cond (F e) ({ e with val:=ec.val }::r) (e::putE F ec r)):=h
  rw [List.findIdx?_cons]
  cases q:F e with
  | true=>rw [q] at h; exact h
  | false =>
   rw [q] at h
   have ih:=ih h
   cases z:r.findIdx? F with
   | some i=>rw [z] at ih; exact ih
   | none=>rw [z] at ih; exact ih
theorem DRs.put (G:Gd c P M) {j:Nat} (hj:j < c.nw) {v:AV} {w:Value} (V:VR c m v w) (t:Tok):∀ {l es},DRs c m l es->DRs c m (up l j v) (putE (·.key.isStr (c.wd j)) ⟨hashStr c.w (c.wd j),.str (c.wd j) t,w⟩ es):=by
 intro l
 induction l with
 | nil =>
  intro _ h
  exact h.nilK (D:=fun es=>DRs c m [(j,v)] (putE (·.key.isStr (c.wd j)) ⟨hashStr c.w (c.wd j),.str (c.wd j) t,w⟩ es)) (.cons hj ⟨t,rfl⟩ rfl V .nil)
 | cons jv l ih =>
  obtain ⟨k,v'⟩:=jv
  intro _ h
  exact h.consK (D:=fun es=>DRs c m (up ((k,v')::l) j v) (putE (·.key.isStr (c.wd j)) ⟨hashStr c.w (c.wd j),.str (c.wd j) t,w⟩ es)) fun e r hk ht hh hv hr=>by
   have q:e.key.isStr (c.wd j)=Nat.beq k j:=ht.elim fun _ h=>h▸wd_eq G hk hj
   show DRs c m (match Nat.beq k j with | true=>(j,v)::l | false=>(k,v')::up l j v) (cond (e.key.isStr (c.wd j)) _ _)
   rw [q]
   cases z:Nat.beq k j with
   | true=>exact Nat.eq_of_beq_eq_true z▸.cons hk ht hh V hr
   | false=>exact .cons hk ht hh hv (ih hr)
theorem up_mem {j:Nat} {v:AV} {x:Nat}:∀ {l:List (Nat×AV)},x∈(up l j v).map (·.1)->x∈l.map (·.1)∨x=j:=by
 intro l
 induction l with
 | nil =>
  intro h
  exact .inr (List.mem_singleton.mp h)
 | cons jv l ih =>
  obtain ⟨k,w⟩:=jv
  intro h
  have h:x∈List.map (fun p:Nat×AV=>p.1) (match Nat.beq k j with | true=>(j,v)::l | false=>(k,w)::up l j v):=h
  cases z:Nat.beq k j with
  | true=>rw [z] at h; exact (List.mem_cons.mp h).elim .inr fun h=>.inl (.tail _ h)
  | false=>rw [z] at h; exact (List.mem_cons.mp h).elim (fun e=>.inl (e▸.head _)) fun h=>(ih h).imp (.tail _) id
theorem up_keys {j:Nat} {v:AV}:∀ {l:List (Nat×AV)},(l.map (·.1)).Nodup->((up l j v).map (·.1)).Nodup:=by
 intro l
 induction l with
 | nil =>
  intro _
  exact List.nodup_cons.mpr ⟨fun h=>(nomatch h),List.nodup_nil⟩
 | cons jv l ih =>
  obtain ⟨k,w⟩:=jv
  intro h
  have n:=List.nodup_cons.mp (show (k::l.map (·.1)).Nodup from h)
  show (List.map (fun p:Nat×AV=>p.1) (match Nat.beq k j with | true=>(j,v)::l | false=>(k,w)::up l j v)).Nodup
  cases z:Nat.beq k j with
  | true=>exact Nat.eq_of_beq_eq_true z▸h
  | false=>exact List.nodup_cons.mpr ⟨fun q=>(up_mem q).elim n.1 fun e=>(nomatch (e▸Nat.beq_refl k:Nat.beq k j=true).symm.trans z),ih n.2⟩
theorem setAttr_av (G:Gd c P M) (x:St c f fr m J s) {i C nm:Nat} {l:List (Nat×AV)} {v:AV} {w:Value} (hn:Plain c nm) (hl:lk J.ob i=some (.ins C l)) (V:VR c m v w) (hz:(up l nm v).length<=500) (hp:J.put i (.ins C (up l nm v))=some J') {E:Value->Shared->Prop} {Q:Unit->Shared->Prop}
  (k:∀ s',Ext f m J s m J' s'->St c f fr m J' s'->Q () s'):wpAny (model c.prog c.w) A (setAttr (.ref (m.ρ i)) (c.wd nm) w) Q E s:=x.inst hl fun es n I hat D hnd hlen hC=>by
 have g:=G.cls C hC
 refine set_plain (x.K G) I g.2.2.1 ?_
 have X1:c.K.In ({ s with toks:=s.toks+1 }:Shared).heap:=x.K G
 refine osa_open (s:={ s with toks:=s.toks+1 }) X1 I g.2.2.2.2.1 (hn.2 C hC).2 fun b=>?_
 refine (any_some g.2.2.2.1).elim fun cd hc=>?_
 have hIat:=I.at_
 obtain ⟨hh,gg,dd,tt,oo⟩:=s
 refine wpAny_bind (wpAny_pure (wpAny_bind (wpAny_bind (wpAny_loadPart hIat (wpAny_bind ((looks_clsIn X1 hc.1).here ?_))))))
 rw [hc.2]
 refine wpAny_pure (a:=some (m.δ i)) (wpAny_bind (wpAny_pure (wpAny_bind ?_)))
 unfold nsSet
 refine wpAny_bind (wpAny_bind (wpAny_askSetting (wpAny_pure (wpAny_bind (wpAny_mkText (wpAny_bind (wpAny_loadPart hat ?_)))))))
 dsimp only
 have cnd:(!es.any (·.key.isStr (c.wd nm))&&es.any (·.refKey))=false:=by
  rw [← Array.any_toList,← Array.any_toList,D.noRef G,Bool.and_false]
 rw [aRefKeyMayBeTheName_at,cnd]
 refine wpAny_updatePart hat ?_
 rw [Obj.putName_eq]
 have hput:=putE_at (Y:=fun es'=>DRs c m (up l nm v) es') (D.put G hn.1 V (tt+1))
 refine Exists.elim (p:=fun es'=>∃ n',Obj.putNameByArray (c.wd nm) (PyData.keyHash c.w.params (c.wd nm)) (.str (c.wd nm) (tt+1)) w (dicObj es n)=dicObj es' n'/\DRs c m (up l nm v) es'.toList) ?_ fun es' q=>q.elim fun n' q=>?_
 ·unfold Obj.putNameByArray
  dsimp only
  rw [findIdx_list (fun e:DictEntry=>e.key.isStr (c.wd nm)) es]
  cases hq:es.toList.findIdx? (fun e=>e.key.isStr (c.wd nm)) with
  | some j=>rw [hq] at hput; exact ⟨_,_,rfl,by rw [Array.toList_modify]; exact hput⟩
  | none=>rw [hq] at hput; exact ⟨_,_,rfl,by rw [Array.toList_push]; exact hput⟩
 ·have sb:=Heap.SameBut.update hh (m.δ i) (Obj.putNameByArray (c.wd nm) (PyData.keyHash c.w.params (c.wd nm)) (.str (c.wd nm) (tt+1)) w)
  have hat2:(hh.update (m.δ i) (Obj.putNameByArray (c.wd nm) (PyData.keyHash c.w.params (c.wd nm)) (.str (c.wd nm) (tt+1)) w)).get? (m.δ i)=some (dicObj es' n'):=q.1▸Heap.get?_update_self (Obj.putNameByArray (c.wd nm) (PyData.keyHash c.w.params (c.wd nm)) (.str (c.wd nm) (tt+1)) w) hat (by rw [q.1]; rfl)
  refine wpAny_bind (wpAny_lookBehind hat2 (pastItsLine_dict (Nat.le_succ_of_le (size_le (ltr (Nat.le_of_eq q.2.length.symm) (ltr hz (by decide)))))) ?_)
  have hI2:=(sb.2 _ fun z=>nomatch (x.tO _ _ hl).symm.trans ((congrArg m.ω z).trans (x.tD _ _ _ hl))).trans hIat
  exact wpAny_pure (x.turn (t:=tt+1+1) hl hp (fun C' l' e=>⟨l,by injection e with e1 _; rw [e1]⟩) (.inr ⟨rfl,C,l,rfl⟩) sb ⟨_,hat2⟩ ⟨es',n',hI2,hat2,q.2,up_keys hnd,hz,hC⟩ (ltr (Nat.le_succ _) (Nat.le_succ _)) fun X x'=>k _ X x')
theorem st_asgA (S:Sound c r N) (G:Gd c P M) (R:Room A N) (ok:f.Ok c) {e:Stmt} {o x:X} {n:Nat} {fl:Fl} (h:TrS c f.kd e (.asgA o n x)) (he:(e2 r fr J x o fun v a h=>(storeA h a n v).map fun h=>(Fl.next,fr,h))=some (fl,fr',J')):WpS c f A (exec e f.env) fr J fl fr' J' :=
 e2K he fun v a Ja Jb h1 h2 h3=>mapsK h3 fun Jc h3 h4=>some3K (Y:=WpS c f A (exec e f.env) fr J) (congrArg some h4) (h (fun e=>WpS c f A (exec e f.env) fr J .next fr Jc) fun _ _ _ _ hn hc ho hx _ _ _ St k=>plainObj_wpAny_Assign_Attribute (S.e R ok hx h1 _ _ _ St fun _ _ w Xb St1 Vc=>S.e R ok ho h2 _ _ _ St1 fun mf se wo Xc St2 Vd =>
  bindK h3 fun i hi h3=>bindK h3 fun o' ho' h3=>bindK h3 fun q hq h3=>chkK h3 fun hz h3=>Vd.ofR (Y:=fun wo=>wpAny (model c.prog c.w) A (setAttr wo (c.wd n) w) _ _ se) hi fun _=>setAttr_av G St2 hn (AO.n?S hq▸ho') (Xc.vr Vc) (Nat.le_of_ble_eq_true hz) h3 fun s' Xd St3=>k _ _ _ ((Xb.trans Xc).trans Xd) St3 rfl) (swaps_plain hx hc _ _ _))
end
end Mine.Internal
namespace Mine.Internal
open PySem PySem.W PySem.Calls PyProof.Rows
section
variable {c:Cx} {P:Pg} {M:Ms} {r:Ev} {N:Nat} {f:Fm} {A:Around} {fr fr':FrA} {J J':AH} {m:Mp} {s:Shared}
theorem mem3 {F:Addr->Prop} {p q r:Addr} (h:F p) (k:F q) (l:F r):∀ b∈[p,q,r],F b
 | _,.head _=>h
 | _,.tail _ z=>mem2 k l _ z
theorem VRs.dropK {l:List AV} {v:AV} {i:Nat} {ws:List Value} {Z:Prop} (V:VRs c m (v::l) (ws.drop i)) (k:∀ w,ws[i]?=some w->VR c m v w->VRs c m l (ws.drop (i+1))->Z):Z:=by
 refine V.consK (Z:=fun r=>ws.drop i=r->Z) (fun w r h q e=>k w ?_ h ?_) rfl
 ·exact (List.getElem?_drop (xs:=ws) (i:=i) (j:=0)).symm.trans (by rw [e]; rfl)
 ·rw [← List.drop_drop,e]; exact q
theorem itr_enum (hh:A.handled=none) {elts:List Expr} {x1:Nat} {pos:Pos} {e it la:Addr} {vs:Array Value} {n:Nat} (hei:e≠it) (hle:la≠e) (hli:la≠it):∀ (l:List AV) (i:Nat) (m:Mp) (s:Shared) (old:Value),i+l.length=vs.size ->
  IsEnum s.heap e it (i:Int) old->s.heap.IsListIter it la i->s.heap.get? la=some (lstObj vs n)->VRs c m l (vs.toList.drop i)->Itr c A f (.Tuple elts x1 pos) e [e,it,la] [e,it] (enumFrom i l) m s:=by
 intro l
 induction l with
 | nil =>
  intro i m s old hn he hit hla _
  exact fun md _ sd _ F _ _ Q E k =>
   wpAny_pyNext_enum_end hh (F.keep e (.head _) _ he) (hit.imp fun o q=>⟨F.keep it (.tail _ (.head _)) _ q.1,q.2⟩) ⟨_,F.keep la (.tail _ (.tail _ (.head _))) _ hla,rfl,n,rfl⟩ (Array.getElem?_eq_none (Nat.le_of_eq hn.symm)) fun h' hs =>
    k h' sd.toks ⟨.refl,rfl,rfl,fun _=>.inl rfl,fun b o hb e=>hs b o (fun z=>hb (z▸.tail _ (.head _))) e⟩
 | cons v l ih =>
  intro i m s old hn he hit hla hP
  exact fun md Ja sd fr F hx x Q E k=>hP.dropK fun w hw V Vs=>by
   have hea:IsEnum sd.heap e it (i:Int) old:=F.keep e (.head _) _ he
   have hla1:=F.keep la (.tail _ (.tail _ (.head _))) _ hla
   refine wpAny_pyNext_enum_item hea (hit.imp fun o q=>⟨F.keep it (.tail _ (.head _)) _ q.1,q.2⟩) ⟨_,hla1,rfl,n,rfl⟩ ((Array.getElem?_toList ..).symm.trans hw) hei fun h' ho hit' hT hsz hk=>k _ _ fun Q' E' hQ'=>?_
   refine wpAny_letOwnedTupleGo_enum ho fun hzd he3 hs3=>?_
   have hT3:hzd.get? sd.heap.objs.size=some (tupObj #[.int i sd.toks,w] 0):=(hs3.2 _ (Nat.ne_of_gt (Heap.lt_size hea))).trans hT
   have keep:∀ b o,b∉[e,it]->sd.heap.get? b=some o->hzd.get? b=some o:=fun b o hb q=>(hs3.2 b fun z=>hb (z▸.head _)).trans (hk b o (fun z=>hb (z▸.head _)) (fun z=>hb (z▸.tail _ (.head _))) q)
   have u:Un f md sd.heap.objs.size:=.ofNone x (none_end _)
   have le:=u.leFz (o:=tupObj #[.int i sd.toks,w] 0) x
   have hit3:hzd.IsListIter it la (i+1):=hit'.imp fun o q=>⟨(hs3.2 _ (Ne.symm hei)).trans q.1,q.2⟩
   have hla3:hzd.get? la=some (lstObj vs n):=keep la _ (fun z=>(List.mem_cons.mp z).elim hle fun z=>hli (List.mem_singleton.mp z)) hla1
   exact hQ' (md.putFz sd.heap.objs.size (tupObj #[.int i sd.toks,w] 0)) hzd (sd.toks+1) ⟨le,rfl,rfl,fun b=>if r:b=sd.heap.objs.size then .inr (r▸none_end _) else .inl (put_ne r),keep⟩ (mem3 ⟨_,he3⟩ (hit3.imp fun _ q=>q.1) ⟨_,hla3⟩)
    ((x.heap fun b o hb q=>keep b o (fun z=>hb (hx.un b z)) q).adoptFz u hT3) (.tup (put_self ..) (.cons (.int _ _) (.cons (V.mono (F.le.trans le)) .nil)))
    (ih (i+1) _ _ w ((Nat.add_right_comm i 1 _).trans hn) he3 hit3 hla3 (Vs.mono (F.le.trans le)))
theorem iter_enum (S:Sound c r N) (G:Gd c P M) (R:Room A N) (ok:f.Ok c) {t i:Expr} {x:X} {l:List AV} {lo:List Nat} {Ja:AH} (hi:TrI c f.kd i (.enum x)) (ht:TupFor t (.enum x)) (h:(bind2 (r.e fr J x) fun v h=>(lstOf h v).map fun l=>(enumFrom 0 l,lockOf v,h))=some (l,lo,Ja)) {Q:Value->Shared->Prop}
  (xa:St c f fr m J s) (k:AfterI c f A t fr m J s l lo Ja Q):wpAny (model c.prog c.w) A (eval i f.env) (fun v s'=>wpAny (model c.prog c.w) A (pyIter v) Q NoE s') NoE s :=
 hi (fun i=>wpAny (model c.prog c.w) A (eval i f.env) (fun v s'=>wpAny (model c.prog c.w) A (pyIter v) Q NoE s') NoE s) fun _ _ e _ hn hx=>Call_Name1 (builtin_val ok G xa hn (PyProof.Rows.callWith_type rfl (evalArgs_plain (spliced_cons
  (bind2K h fun v Jb h1 h=>mapsK h fun lc h2 h=>bindK h2 fun j hj h3=>bindK h3 fun o ho h5=>S.e R ok hx h1 _ _ _ xa fun md sd w Xb xb Vc=>by
   obtain rfl:=AV.r?S hj
   obtain rfl:=AO.l?S h5
   obtain ⟨rfl,_⟩:=Vc
   refine spliced_nil (xb.lst ho fun vs n hat Ra _=>call_enumerate_1 hat fun h' he hit hsz hk=>wpAny_pyIter_enum (s:={ sd with heap:=h' }) he ?_)
   have hlt:=Heap.lt_size hat
   have sf:(md.ω (md.ρ j)).safe ([j]++Jb.ro)=true:=xb.tO _ _ ho▸hasN_self j Jb.ro
   refine some3K (Y:=fun l lo Ja=>AfterI c f A t fr m J s l lo Ja Q->Q (.ref (sd.heap.objs.size+1)) { sd with heap:=h' }) (congrArg some h) (fun k=>k md sd _ [sd.heap.objs.size+1,sd.heap.objs.size,md.ρ j] [sd.heap.objs.size+1,sd.heap.objs.size] { sd with heap:=h' } Xb xb (.one ho fun _ _ z=>nomatch z) hk (.grown (t:=sd.toks) hk) ((xb.lock _).grown (t:=sd.toks) hk) ?_) k
   have u:∀ a,sd.heap.objs.size<=a->¬ Own f md.ρ md.δ (Jb.lock [j]) a:=fun a ha=>(Un.ofNone xb (Heap.get?_none_of_le ha)).notOwn (xb.lock _)
   exact ⟨fun g=>ht (fun t=>Itr c A g t _ _ _ _ md _) fun _ _ _=>itr_enum R.handled (Nat.succ_ne_self _) (Nat.ne_of_lt (Nat.lt_succ_of_lt hlt)) (Nat.ne_of_lt hlt) lc 0 md _ .none ((Nat.zero_add _).trans Ra.length) he hit (hk _ _ hat) Ra,
    mem2 (Heap.get?_none_of_le (Nat.le_succ _)) (none_end _),mem3 (u _ (Nat.le_succ _)) (u _ (Nat.le_refl _)) (safe_notOwn xb sf),mem3 ⟨_,he⟩ (hit.imp fun _ q=>q.1) ⟨_,hk _ _ hat⟩,mem2 (.head _) (.tail _ (.head _)),mem3 (.inl (.head _)) (.inl (.tail _ (.head _))) (.inr (Tag.safe_ne sf)),fun s' hks Q E q=>wpAny_pyIter_enum (hks _ (.head _) _ he) q⟩))))) (by rw [star_of hx]; rfl)
theorem iter_open (S:Sound c r N) (G:Gd c P M) (R:Room A N) (ok:f.Ok c) {t i:Expr} {it:It} {l:List AV} {lo:List Nat} {Ja:AH} (hi:TrI c f.kd i it) (ht:TupFor t it) (h:iter r fr J it=some (l,lo,Ja)) {Q:Value->Shared->Prop} (x:St c f fr m J s) (k:AfterI c f A t fr m J s l lo Ja Q) :
  wpAny (model c.prog c.w) A (eval i f.env) (fun v s'=>wpAny (model c.prog c.w) A (pyIter v) Q NoE s') NoE s :=
 match it,hi,ht,h with
 | .of _,hi,_,h=>iter_of S G R ok hi h x k
 | .range _,hi,_,h=>iter_range S G R ok hi h x k
 | .enum _,hi,ht,h=>iter_enum S G R ok hi ht h x k
theorem fold_tr {kd:Kd} {i:Expr} {it:It} (hi:TrI c kd i it) (env:Env) (v:Value):foldedSetIterable i env v=pure v :=
 match it,hi with
 | .of _,hi=>fold_of hi env v
 | .range _,hi=>hi (fun i=>foldedSetIterable i env v=pure v) fun _ _ _ _ _ _=>rfl
 | .enum _,hi=>hi (fun i=>foldedSetIterable i env v=pure v) fun _ _ _ _ _ _=>rfl
theorem iter3K {β:Type} {o:Option (List AV×List Nat×AH)} {g:List AV->List Nat->AH->Option β} {b:β} {Z:Prop} (h:iter3 o g=some b) (k:∀ l lo h',o=some (l,lo,h')->g l lo h'=some b->Z):Z:=bindK h fun p=>k p.1 p.2.1 p.2.2
theorem st_for (S:Sound c r N) (G:Gd c P M) (R:Room A N) (ok:f.Ok c) {e:Stmt} {tt:T} {it:It} {body:List Mine.Internal.S} {fl:Fl} (h:TrS c f.kd e (.for_ tt it body)) (he:(iter3 (iter r fr J it) fun l lo h=>bind3 (forGo r tt body l fr (h.lock lo)) fun f fr h'=>some (f,fr,h'.open_ h))=some (fl,fr',J')):WpS c f A (exec e f.env) fr J fl fr' J' :=
 iter3K he fun l lo Ja h1 h2=>bind3K h2 fun flb frb Jb h2 h3=>some3K (Y:=WpS c f A (exec e f.env) fr J) h3 (h (fun e=>WpS c f A (exec e f.env) fr J flb frb (Jb.open_ Ja)) fun _ _ _ _ ht htf hi hb _ _ _ x k=>wpAny_For (iter_open S G R ok hi htf h1 x fun md sd I fp wr se Xb xb hlo hk Xc xc src =>
  for_loop S G R ok ht hb h2 src.new Xc xc (src.fx (xb.lock _)) (src.itr f) fun mh sg g Xd xd F3=>k _ _ _ (Xb.trans (Xd.unlock (hlo.lt xb) (hlo.stays xb (.inl (none_end _)) Xd.d xb xd))) (xd.lock _) F3) fun v=>fold_tr hi _ v)
end
end Mine.Internal
namespace Mine.Internal
open PySem PySem.W PySem.Calls PyProof.Rows
section
variable {c:Cx} {P:Pg} {M:Ms} {r:Ev} {N:Nat} {f g:Fm} {A:Around} {fr fr':FrA} {J0 J Ja Jb J':AH} {ma m m' md mf mh:Mp} {sa s s' sd se:Shared} {D:Addr} {fp wr:List Addr} {hzd:Heap} {tc:Nat}
theorem ExtD.back (X:ExtD D f m J s md Ja sd) {a:Addr} (h:sd.heap.get? a=none):s.heap.get? a=none:=Option.eq_none_iff_forall_ne_some.mpr fun o q=>(X.there a o q).elim fun o' e=>nomatch h.symm.trans e
theorem ExtD.trans (x:ExtD D f m J s md Ja sd) (y:ExtD D f md Ja sd mf Jb se):ExtD D f m J s mf Jb se where
 le:=x.le.trans y.le
 ro:=y.ro.trans x.ro
 keep:=fun a o n e h=>y.keep a o n (x.keep a o n e h) fun q=>(x.own a q).elim h fun k=>nomatch e.symm.trans k
 there:=fun a o e=>(x.there a o e).elim (y.there a)
 tag:=fun a=>(y.tag a).elim (fun e=>(x.tag a).imp e.trans id) fun k=>.inr (x.back k)
 own:=fun a h=>(y.own a h).elim (x.own a) fun k=>.inr (x.back k)
 os:=y.os.trans x.os
 drawn:=y.drawn.trans x.drawn
theorem ExtD.fo (X:ExtD D f m J s md Ja sd) (h:Fx f fp wr m J s) (hD:D∉fp):Fo fp m s md sd:=⟨X.le,fun b hb o e=>X.keep b o (fun z=>hD (z▸hb)) e (h.own b hb)⟩
theorem Fx.extD (h:Fx f fp wr m J s) (X:ExtD D f m J s md Ja sd):Fx f fp wr md Ja sd :=
 ⟨fun b hb q=>(X.own b q).elim (h.own b hb) fun z=>(h.there b hb).elim fun _ e=>(nomatch e.symm.trans z),fun b hb=>(h.there b hb).elim (X.there b),fun b hb=>(h.there b (h.sub b hb)).elim fun _ e=>⟨(X.tag b).elim (·.trans (h.un b hb).tag) fun n=>(nomatch e.symm.trans n),(h.un b hb).loc,(h.un b hb).cel⟩,h.sub⟩
theorem ExtD.turned (X:ExtD D f ma J0 sa m J s) (hw:∀ b∈wr,sa.heap.get? b=none) (T:Tn wr m s mh hzd):ExtD D f ma J0 sa mh J { s with heap:=hzd,toks:=tc } :=
 have nw:∀ {b o},sa.heap.get? b=some o->b∉wr:=fun e z=>nomatch e.symm.trans (hw _ z)
 ⟨X.le.trans T.le,X.ro,fun a o n e h=>T.keep a o (nw e) (X.keep a o n e h),fun a o e=>(X.there a o e).imp fun o'=>T.keep a o' (nw e),fun a=>(T.tag a).elim (fun e=>(X.tag a).imp e.trans id) fun n=>.inr (X.back n),fun a=>T.rho.symm▸T.del.symm▸X.own a,X.os,X.drawn⟩
theorem ExtD.itself {h':Heap} (hs:Heap.SameBut D s.heap h') (hat:∃ o,h'.get? D=some o):ExtD D f m J s m J { s with heap:=h' } :=
 ⟨.refl,rfl,fun a o n e _=>(hs.2 a n).trans e,there_of hs hat,fun _=>.inl rfl,fun _ h=>.inl h,rfl,rfl⟩
structure Acc (c:Cx) (g:Fm) (D:Addr) (acc:List AV) (m:Mp) (s:Shared):Prop where
 at_:∃ ys n,s.heap.get? D=some (lstObj ys n)/\VRs c m acc ys.toList
 un:Un g m D
theorem Acc.step {acc:List AV} (a:Acc c g D acc m s) (le:Mp.Le m m') (k:∀ o,s.heap.get? D=some o->s'.heap.get? D=some o) (t:m'.ω D=m.ω D∨s.heap.get? D=none):Acc c g D acc m' s' :=
 ⟨a.at_.imp fun _=>Exists.imp fun _ q=>⟨k _ q.1,q.2.mono le⟩,t.elim (·.trans a.un.tag) fun n=>a.at_.elim fun _ q=>q.elim fun _ q=>(nomatch q.1.symm.trans n),a.un.loc,a.un.cel⟩
theorem Acc.ext {acc:List AV} (a:Acc c g D acc m s) (x:St c g fr m J s) (X:Ext g m J s m' J' s'):Acc c g D acc m' s':=a.step X.le (fun o e=>X.keep _ _ e (a.un.notOwn x)) (X.tag D)
theorem Acc.turned {acc:List AV} (a:Acc c g D acc m s) (hD:D∉wr) (T:Tn wr m s mh hzd):Acc c g D acc mh { s with heap:=hzd,toks:=tc }:=a.step T.le (fun o=>T.keep _ o hD) (T.tag D)
theorem Acc.push {acc:List AV} {v:AV} {w:Value} (a:Acc c g D acc m s) (x:St c g fr m J s) (V:VR c m v w) (hl:acc.length<=1000) {Q:Value->Shared->Prop} {E:Value->Shared->Prop}
  (k:∀ s',ExtD D g m J s m J s'->St c g fr m J s'->Acc c g D (acc++[v]) m s'->Q .none s'):wpAny (model c.prog c.w) A (call (.builtin "list.append") [.ref D,w]) Q E s :=
 a.at_.elim fun ys q=>q.elim fun n q=>wpAny_list_append_plain (items:=ys) ⟨n,q.1⟩ (fun h' hl' hs=>hl'.elim fun n' h3=>k _ (ExtD.itself hs ⟨_,h3⟩) (x.rawTurn (t:=s.toks) a.un hs) ⟨⟨_,n',h3,by rw [Array.toList_push]; exact q.2.append (.cons V .nil)⟩,a.un⟩) (size_ok q.2.size hl)
noncomputable def tst (env:Env) (c:Expr) (r:Bool):Sem (ForInStep Bool):=if r=true then do let ok ← isTrue c env (eval c env); pure (ForInStep.yield ok) else pure (ForInStep.yield r)
theorem andt_false {env:Env} {E:Value->Shared->Prop} {Q:Bool->Shared->Prop} (h:Q false s):∀ l:List Expr,wpAny (model c.prog c.w) A (forIn l false (tst env)) Q E s
 | []=>List.forIn_nil (f:=tst env) (m:=Sem)▸wpAny_pure h
 | e::l=>by rw [List.forIn_cons]; exact wpAny_bind (wpAny_pure (andt_false h l))
theorem tests_andt (S:Sound c r N) (R:Room A N) (ok:g.Ok c):∀ {xs:List X} {l:List Expr} {J:AH} {b:Bool},TrEs c g.kd l xs->andt r fr J xs=some (b,J') ->
  ∀ m s (Q:Bool->Shared->Prop) E,St c g fr m J s->KtT c g fr m J s b J' Q->wpAny (model c.prog c.w) A (forIn l true (tst g.env)) Q E s:=by
 intro xs
 induction xs with
 | nil =>
  intro l J b ht h m s Q E x k
  exact some2K (Y:=fun b J'=>KtT c g fr m J s b J' Q->wpAny (model c.prog c.w) A (forIn l true (tst g.env)) Q E s) h (fun k=>by
    rw [show l=[] from ht,List.forIn_nil]
    exact wpAny_pure (k _ _ .refl x)) k
 | cons y xs ih =>
  intro l J b ht h m s Q E x k
  exact ht (fun l=>wpAny (model c.prog c.w) A (forIn l true (tst g.env)) Q E s) fun e l he hl=>bind2K h fun bb Ja h1 h2=>by
   rw [List.forIn_cons]
   refine wpAny_bind (wpAny_bind (wpAny_mono (S.t R ok he h1 _ _ (fun b' s'=>wpAny (model c.prog c.w) A (forIn l b' (tst g.env)) Q E s') x fun md sd Xb xb=>?_) (fun b' s' z=>wpAny_pure z) fun _ _ z=>z.elim))
   exact condK h2 (fun e h2=>e▸ih hl h2 _ _ _ _ xb fun m' s' X x'=>k _ _ (Xb.trans X) x') fun e h2=>e▸andt_false (some2K (Y:=fun b J'=>KtT c g fr m J s b J' Q->Q false sd) h2 (fun k=>k _ _ Xb xb) k) l
noncomputable def InnerW (M:Model) (A:Around) (elt:Expr) (gens:List Comprehension) (e:Expr) (d:Nat) (acc:Value) (env:Env) (K:Shared->Prop) (s:Shared):Prop:=match gens[d]? with
 | some g'=>wpAny M A (eval g'.iter env) (fun x sd=>wpAny M A (pyIter x) (fun it' se=>codeAny M A (.compStart e d it' acc env) (fun r sg=>match r with | .ok _=>K sg | .error _=>False) se) NoE sd) NoE s
 | none=>wpAny M A (eval elt env) (fun x sd=>wpAny M A (call (.builtin "list.append") [acc,x]) (fun _ se=>K se) NoE sd) NoE s
theorem comp_turn {elt:Expr} {gens:List Comprehension} {scope:Scope} {pos:Pos} {d:Nat} {t i:Expr} {ifs:List Expr} {it acc:Value} {env:Env} {s:Shared} {R:Result->Shared->Prop} (h0:∀ x∈gens,x.is_async=0/\∀ env v,foldedSetIterable x.iter env v=pure v) (hg:gens[d]?=some ⟨t,i,ifs,0⟩)
  (h:wpAny (model c.prog c.w) A (pyNext it) (fun q sd=>match q with
   | none=>R (.ok .next) sd
   | some v=>wpAny (model c.prog c.w) A (letOwnedTupleGo t it v) (fun _ se=>wpAny (model c.prog c.w) A (assign t env v) (fun _ sg =>
     wpAny (model c.prog c.w) A (forIn ifs true (tst env)) (fun ok s4 =>
      if ok=true then InnerW (model c.prog c.w) A elt gens (.ListComp elt gens scope pos) (d+1) acc env (codeAny (model c.prog c.w) A (.compLoop (.ListComp elt gens scope pos) d it acc env) R) s4
      else codeAny (model c.prog c.w) A (.compLoop (.ListComp elt gens scope pos) d it acc env) R s4) NoE sg) NoE se) NoE sd) NoE s) :
  codeAny (model c.prog c.w) A (.compLoop (.ListComp elt gens scope pos) d it acc env) R s:=by
 refine codeAny_of_tree ?_
 show wpAny _ A ((compTurn (.ListComp elt gens scope pos) d it acc env).onRaise (fun x=>do noteFrame x env; theTreesLotGoes x)) _ _ s
 refine wpAny_noted (wpAny_mono ?_ (fun _ _ z=>z) fun _ _ z=>False.elim z)
 unfold compTurn
 simp only [hg]
 refine wpAny_bind (wpAny_standAt (wpAny_bind (wpAny_mono h (fun q sd hzb=>?_) fun _ _ z=>z)))
 cases q with
 | none=>exact wpAny_pure hzb
 | some v =>
  refine wpAny_bind (wpAny_mono hzb (fun _ se hzc=>wpAny_bind (wpAny_mono hzc (fun _ sg hzd=>wpAny_bind (wpAny_mono hzd (fun ok s4 hze=>?_) fun _ _ z=>z)) fun _ _ z=>z)) fun _ _ z=>z)
  cases ok with
  | false=>exact wpAny_pure ⟨rfl,hze⟩
  | true =>
   have hzf:InnerW (model c.prog c.w) A elt gens (.ListComp elt gens scope pos) (d+1) acc env (codeAny (model c.prog c.w) A (.compLoop (.ListComp elt gens scope pos) d it acc env) R) s4:=hze
   unfold InnerW at hzf
   cases hd:gens[d+1]? with
   | none =>
    rw [hd] at hzf
    exact wpAny_bind (wpAny_bind (wpAny_mono hzf (fun x s5 hzg=>wpAny_bind (wpAny_mono hzg (fun _ s6 hzh=>wpAny_pure (wpAny_pure ⟨rfl,hzh⟩)) fun _ _ z=>z)) fun _ _ z=>z))
   | some g' =>
    rw [hd] at hzf
    have z:=h0 g' (List.mem_of_getElem? hd)
    obtain ⟨t',i',f',a⟩:=g'
    obtain ⟨z,hf⟩:=z
    dsimp only at z hf
    subst z
    refine wpAny_bind (wpAny_mono hzf (fun x s5 hzg=>wpAny_bind (wpAny_standAt ?_)) fun _ _ z=>z)
    refine wpAny_bind (wpAny_of_eq (hf env x) ?_)
    refine wpAny_bind (wpAny_holding (wpAny_mono hzg (fun it' s6 hzh=>?_) fun _ _ z=>z))
    refine wpAny_bind (wpAny_runOwn (codeAny_mono hzh fun q s7 hzi=>?_))
    cases q with
    | ok fl=>exact wpAny_pure ⟨rfl,hzi⟩
    | error e=>exact hzi.elim
theorem compStart_at {R:Result->Shared->Prop} {elt:Expr} {gens:List Comprehension} {scope:Scope} {pos:Pos} {d:Nat} {t i:Expr} {ifs:List Expr} {it acc:Value} {env:Env} (hg:gens[d]?=some ⟨t,i,ifs,0⟩)
  (h0:codeAny (model c.prog c.w) A (.compLoop (.ListComp elt gens scope pos) d it acc env) R s)
  (h:wpAny (model c.prog c.w) A (pyIter it) (fun it' s'=>codeAny (model c.prog c.w) A (.compLoop (.ListComp elt gens scope pos) d it' acc env) R s') NoE s):codeAny (model c.prog c.w) A (.compStart (.ListComp elt gens scope pos) d it acc env) R s:=by
 refine codeAny_of_tree ?_
 show wpAny _ A ((compStart (.ListComp elt gens scope pos) d it acc env).onRaise (fun x=>do noteFrame x env; standAt theWindowsPlace)) _ _ _
 refine wpAny_notedAt (wpAny_mono ?_ (fun _ _ z=>z) fun _ _ z=>False.elim z)
 unfold compStart
 have hc:(clausesOf (.ListComp elt gens scope pos))[d]?=some ⟨t,i,ifs,0⟩:=hg
 simp only [hc]
 show wpAny _ _ (ask >>= _) _ _ s
 refine wpAny_bind (wpAny_askSetting (wpAny_ite ?_))
 split
 ·first
   | exact wpAny_bind (wpAny_pure (wpAny_pure (And.intro rfl h0)))
   | exact wpAny_pure (And.intro rfl h0)
 ·exact wpAny_bind (wpAny_rule (wpAny_bind (wpAny_standAt (wpAny_bind (wpAny_mono h (fun it' s' h'=>wpAny_pure (And.intro rfl h')) fun _ _ x=>x)))))
end
end Mine.Internal
namespace Mine.Internal
open PySem PySem.W PySem.Calls PyProof.Rows
section
variable {c:Cx} {P:Pg} {M:Ms} {r:Ev} {N:Nat} {g:Fm} {A:Around} {D:Addr}
noncomputable def InnerOk (c:Cx) (g:Fm) (A:Around) (D:Addr) (elt:Expr) (gens:List Comprehension) (e:Expr) (d:Nat) (next:FrA->AH->Option (List AV×FrA×AH)):Prop :=
 ∀ fr J ws fr' J',next fr J=some (ws,fr',J')->∀ m s acc K,St c g fr m J s->Acc c g D acc m s->(acc++ws).length<=1000->(∀ m' s',ExtD D g m J s m' J' s'->St c g fr' m' J' s'->Acc c g D (acc++ws) m' s'->K s')->InnerW (model c.prog c.w) A elt gens e d (.ref D) g.env K s
theorem part_le {α:Type} {a b d:List α} {n:Nat} (h:(a++(b++d)).length<=n):(a++b).length<=n:=ltr (by rw [← List.append_assoc,List.length_append (as:=a++b)]; exact Nat.le_add_right _ _) h
section
variable (S:Sound c r N) (G:Gd c P M) (R:Room A N) (ok:g.Ok c) {elt:Expr} {gens:List Comprehension} {scope:Scope} {pos:Pos} (h0:∀ x∈gens,x.is_async=0/\∀ env v,foldedSetIterable x.iter env v=pure v)
include S G R ok h0
theorem comp_loop {d:Nat} {t i:Expr} {ifs:List Expr} {tt:T} {ifs':List X} (hg:gens[d]?=some ⟨t,i,ifs,0⟩) (ht:TrT c g.kd t tt) (hi:TrEs c g.kd ifs ifs') {next:FrA->AH->Option (List AV×FrA×AH)} (hin:InnerOk c g A D elt gens (.ListComp elt gens scope pos) (d+1) next) {I:Addr} {fp wr:List Addr} (hDf:D∉fp)
  {ma:Mp} {J0:AH} {sa:Shared} (hw:∀ b∈wr,sa.heap.get? b=none) :
  ∀ (l:List AV) {fr fr':FrA} {J J':AH} {ws:List AV},compGo r tt ifs' next l fr J=some (ws,fr',J')->∀ m s acc (R':Result->Shared->Prop),ExtD D g ma J0 sa m J s->St c g fr m J s->Fx g fp wr m J s->Itr c A g t I fp wr l m s->Acc c g D acc m s->(acc++ws).length<=1000 ->
   (∀ m' s',ExtD D g ma J0 sa m' J' s'->St c g fr' m' J' s'->Acc c g D (acc++ws) m' s'->R' (.ok .next) s')->codeAny (model c.prog c.w) A (.compLoop (.ListComp elt gens scope pos) d (.ref I) (.ref D) g.env) R' s:=by
 intro l
 induction l with
 | nil =>
  intro fr fr' J J' ws h m s acc R' X x hx it a hl k
  exact some3K (Y:=fun ws fr' J'=>(∀ m' s',ExtD D g ma J0 sa m' J' s'->St c g fr' m' J' s'->Acc c g D (acc++ws) m' s'->R' (.ok .next) s')->codeAny (model c.prog c.w) A (.compLoop (.ListComp elt gens scope pos) d (.ref I) (.ref D) g.env) R' s) h (fun k =>
    comp_turn h0 hg (it _ _ _ _ .refl hx x _ _ fun h' t' T=>k _ _ (X.turned hw T) (x.heap fun b o hb e=>T.keep b o (fun z=>hb (hx.un b z)) e) ((List.append_nil acc).symm▸a.turned (fun z=>hDf (hx.sub _ z)) T))) k
 | cons v l ih =>
  intro fr fr' J J' ws h m s acc R' X x hx it a hl k
  exact bindK h fun fra hb h=>bind2K h fun b Ja h1 h2 =>
    comp_turn h0 hg (it _ _ _ _ .refl hx x _ _ fun w se lets=>lets _ _ fun mh hzd tc T th xd V3 it3=>bind_tr G ok R.handled tt ht hb _ _ _ _ xd V3 fun s4 X4 xe=>tests_andt S R ok hi h1 _ _ _ _ xe fun m5 s5 X5 xh=>by
     have Xd:=X.turned (tc:=tc) hw T
     have hx3:=hx.turn (tc:=tc) T th
     have ae:=(a.turned (tc:=tc) (fun z=>hDf (hx.sub _ z)) T).ext xd (X4.trans X5)
     have Xa:=(X4.trans X5).d (D:=D)
     refine condK h2 (fun e h2=>?_) fun e h2=>?_
     ·rw [if_pos e]
      exact bind3K h2 fun vs frb Jb h2 h3=>bind3K h3 fun ws' frc Jc h3 h4=>some3K (Y:=fun ws fr' J'=>(acc++ws).length<=1000->(∀ m' s',ExtD D g ma J0 sa m' J' s'->St c g fr' m' J' s'->Acc c g D (acc++ws) m' s'->R' (.ok .next) s') ->
        InnerW (model c.prog c.w) A elt gens (.ListComp elt gens scope pos) (d+1) (.ref D) g.env (codeAny (model c.prog c.w) A (.compLoop (.ListComp elt gens scope pos) d (.ref I) (.ref D) g.env) R') s5) h4
       (fun hl k=>hin _ _ _ _ _ h2 _ _ acc _ xh ae (part_le hl) fun mj s6 X6 xi ag=>by
        rw [← List.append_assoc] at hl k
        exact ih h3 _ _ (acc++vs) R' (Xd.trans (Xa.trans X6)) xi (hx3.extD (Xa.trans X6)) (it3.move ((Xa.trans X6).fo hx3 hDf)) ag hl k) hl k
     ·rw [if_neg (ntr e)]
      exact ih h2 _ _ acc R' (Xd.trans Xa) xh (hx3.extD Xa) (it3.move (Xa.fo hx3 hDf)) ae hl k)
theorem inner_ok {x:X} (hx:TrE c g.kd elt x):∀ (gs:List Gn) (cs:List Comprehension) (d:Nat),gens.drop d=cs->TrGs c g.kd cs gs->InnerOk c g A D elt gens (.ListComp elt gens scope pos) d (compIn r x gs):=by
 intro gs
 induction gs with
 | nil =>
  intro cs d hd ht
  exact fun fr J ws fr' J' h m s acc K xa a hl k=>by
   unfold InnerW
   rw [List.getElem?_eq_none (List.drop_eq_nil_iff.mp (hd.trans ht))]
   exact bind2K h fun v Ja h1 h2=>some3K (Y:=fun ws fr' J'=>(acc++ws).length<=1000->(∀ m' s',ExtD D g m J s m' J' s'->St c g fr' m' J' s'->Acc c g D (acc++ws) m' s'->K s')->wpAny (model c.prog c.w) A (eval elt g.env) _ NoE s) h2
    (fun hl k=>S.e R ok hx h1 _ _ _ xa fun md sd w Xb xb Vc=>(a.ext xa Xb).push xb Vc (ltr (by rw [List.length_append]; exact Nat.le_add_right _ _) hl) fun s' Xc xc ac=>k _ _ (Xb.d.trans Xc) xc ac) hl k
 | cons q gs ih =>
  obtain ⟨tt,it,ifs'⟩:=q
  intro cs d hd ht
  exact ht (fun cs=>gens.drop d=cs->InnerOk c g A D elt gens (.ListComp elt gens scope pos) d (compIn r x (.mk tt it ifs'::gs))) (fun t i l cs' htt _ htf hi hifs hgs hd fr J ws fr' J' h m s acc K xa a hl k=>by
   have hg:gens[d]?=some ⟨t,i,l,0⟩:=(List.getElem?_drop (xs:=gens) (i:=d) (j:=0)).symm.trans (by rw [hd]; rfl)
   have IH:=ih cs' (d+1) (by rw [← List.drop_drop,hd]; rfl) hgs
   unfold InnerW
   rw [hg]
   exact iter3K (show iter3 (iter r fr J it) (fun l lo h=>bind3 (compGo r tt ifs' (compIn r x gs) l fr (h.lock lo)) fun vs fr h'=>some (vs,fr,h'.open_ h))=some (ws,fr',J') from h) fun lc lo Ja h1 h2=>bind3K h2 fun vs frb Jb h2 h3=>some3K (Y:=fun ws fr' J'=>(acc++ws).length<=1000->(∀ m' s',ExtD D g m J s m' J' s'->St c g fr' m' J' s'->Acc c g D (acc++ws) m' s'->K s')->wpAny (model c.prog c.w) A (eval i g.env) _ NoE s) h3
    (fun hl k=>iter_open S G R ok hi htf h1 xa fun md sd I fp wr se Xb xb hlo hk Xc xc src=>by
     have aa:=a.ext xa Xb
     have hDf:D∉fp:=fun z=>(src.known D z).elim (fun q=>aa.at_.elim fun _ y=>y.elim fun _ y=>nomatch y.1.symm.trans (src.new D q)) fun q=>q aa.un.tag
     have go:codeAny (model c.prog c.w) A (.compLoop (.ListComp elt gens scope pos) d (.ref I) (.ref D) g.env) (fun r sg=>match r with | .ok _=>K sg | .error _=>False) se :=
      comp_loop S G R ok h0 hg htt hifs IH hDf src.new lc h2 _ _ acc _ Xc.d xc (src.fx (xb.lock _)) (src.itr g) (aa.ext (xb.lock _) Xc) hl fun mh sg Xd xd ae=>k _ _ (Xb.d.trans (Xd.unlock (hlo.lt xb) (hlo.stays xb (.inr aa.un.tag) Xd xb xd))) (xd.lock _) ae
     exact compStart_at hg go (src.self se (fun b hb o e=>e) _ _ go)) hl k) hd
end
end
end Mine.Internal
namespace Mine.Internal
open PySem PySem.W PySem.Calls PyProof.Rows
section
variable {c:Cx} {P:Pg} {M:Ms} {f:Fm} {fr:FrA} {m:Mp} {cells:List (Str×Addr)}
noncomputable def capt (cells:List (Str×Addr)):List (Str×NameKind)->List (Str×Addr)->List (Str×Addr)
 | [],acc=>acc
 | y::r,acc=>capt cells r (cond (y.2==.free) ((y.1,(cells.lookup y.1).getD 0)::acc) acc)
theorem closure_capt {env:Env} {fn:Str×NameKind->List (Str×Addr)->Sem (ForInStep (List (Str×Addr)))} (hf:∀ y cs,fn y cs=if (y.2==NameKind.free)=true then (cellOf env y.1 >>= fun a=>pure (ForInStep.yield ((y.1,a)::cs))) else pure (ForInStep.yield cs)) :
  ∀ (names:List (Str×NameKind)) (acc:List (Str×Addr)),(∀ y∈names,y.2=.free->∃ a,env.cells.lookup y.1=some a)->forIn names acc fn=pure (capt env.cells names acc):=by
 intro names
 induction names with
 | nil =>
  intro acc _
  exact rfl
 | cons y r ih =>
  intro acc h
  rw [List.forIn_cons,hf]
  unfold capt
  cases hk:(y.2==NameKind.free) with
  | true =>
   refine (h y (.head _) (eq_of_beq hk)).elim fun a ha=>?_
   rw [if_pos rfl,show cellOf env y.1=pure a by unfold cellOf; rw [ha],ha]
   exact ih _ fun y hy=>h y (.tail _ hy)
  | false =>
   rw [if_neg Bool.false_ne_true]
   exact ih _ fun y hy=>h y (.tail _ hy)
theorem closure_of {scope:Scope} {env:Env} (h:∀ y∈scope.names,y.2=.free->∃ a,env.cells.lookup y.1=some a):closureFor scope env=pure (capt env.cells scope.names []):=by
 unfold closureFor
 dsimp only
 rw [closure_capt (env:=env) (fun _ _=>rfl) scope.names [] h]
 rfl
theorem capt_all {F:Str×Addr->Prop}:∀ {names:List (Str×NameKind)} {acc:List (Str×Addr)},(∀ p∈acc,F p)->(∀ y∈names,y.2=.free->F (y.1,(cells.lookup y.1).getD 0))->∀ p∈capt cells names acc,F p:=by
 intro names
 induction names with
 | nil =>
  intro _ h _
  exact h
 | cons y r ih =>
  intro acc h k
  exact ih (boolK (F:=fun b=>(y.2==NameKind.free)=b->∀ p∈cond b ((y.1,(cells.lookup y.1).getD 0)::acc) acc,F p) (fun e p hp=>(List.mem_cons.mp hp).elim (fun z=>z▸k y (.head _) (eq_of_beq e)) (h p)) (fun _=>h) rfl) fun z hz=>k z (.tail _ hz)
theorem capt_has {n:Str}:∀ {names:List (Str×NameKind)} {acc:List (Str×Addr)},((n,NameKind.free)∈names∨(n,(cells.lookup n).getD 0)∈acc)->(n,(cells.lookup n).getD 0)∈capt cells names acc:=by
 intro names
 induction names with
 | nil =>
  intro _ h
  exact h.elim (fun h=>nomatch h) id
 | cons y r ih =>
  intro acc h
  exact ih (h.elim (fun h=>(List.mem_cons.mp h).elim (fun e=>.inr (e▸.head _)) .inl) fun h=>.inr (boolK (F:=fun b=>_∈cond b (_::acc) acc) (.tail _ h) h))
theorem capt_keys:∀ {names:List (Str×NameKind)} {acc:List (Str×Addr)},(acc.map (·.1)++names.map (·.1)).Nodup->((capt cells names acc).map (·.1)).Nodup
 | [],acc,h=>List.append_nil (acc.map (·.1))▸h
 | y::r,acc,h=>capt_keys (names:=r) (boolK (F:=fun b=>((cond b ((y.1,(cells.lookup y.1).getD 0)::acc) acc).map (·.1)++r.map (·.1)).Nodup) (List.perm_middle.nodup_iff.mp h) (h.sublist ((List.sublist_cons_self ..).append_left _)))
theorem lookup_map {F:Str×NameKind->Str×NameKind} (hF:∀ y,(F y).1=y.1):∀ {l:List (Str×NameKind)} {x:Str},(l.map F).lookup x=(l.lookup x).map fun k=>(F (x,k)).2:=by
 intro l
 induction l with
 | nil =>
  intro _
  exact rfl
 | cons jv l ih =>
  obtain ⟨n,k⟩:=jv
  intro x
  show (match x==(F (n,k)).1 with | true=>some (F (n,k)).2 | false=>(l.map F).lookup x)=(match x==n with | true=>some k | false=>l.lookup x).map _
  rw [hF]
  cases q:x==n with
  | true=>rw [eq_of_beq q]; rfl
  | false=>exact ih
noncomputable def inFm (f:Fm) (scope:Scope) (C:Addr) (kd':Kd):Fm:=⟨compEnvC scope (capt f.env.cells scope.names []) C f.env,kd'⟩
theorem free_lookup {h:Heap} {kd':Kd} {scope:Scope} (K:CompKd c f.kd kd' scope) (x:FrOk c f m fr h):∀ y∈scope.names,y.2=.free->∃ a,f.env.cells.lookup y.1=some a:=fun y hy hk=>(K.free y hy hk).elim fun z q=>(x.hasCell z q.2.1).imp fun a w=>w.elim fun _ w=>q.1▸w.1
section
variable {names:List (Str×NameKind)} (h:∀ y∈names,y.2=.free->∃ a,cells.lookup y.1=some a)
include h
theorem capt_sub:∀ p∈capt cells names [],cells.lookup p.1=some p.2/\(p.1,NameKind.free)∈names:=capt_all (F:=fun p=>cells.lookup p.1=some p.2/\(p.1,NameKind.free)∈names) (fun _ h=>nomatch h) fun y hy e=>(h y hy e).elim fun a ha=>⟨by rw [ha]; rfl,by rw [← e]; exact hy⟩
theorem capt_lookup (hn:(names.map (·.1)).Nodup) {x:Str} (hx:names.lookup x=some .free):(capt cells names []).lookup x=cells.lookup x :=
 (h _ (mem_of_lookup hx) rfl).elim fun a ha=>(lookup_of_mem_nodup (capt_keys (acc:=[]) hn) (capt_has (.inl (mem_of_lookup hx)))).trans (by rw [show cells.lookup x=some a from ha]; rfl)
end
theorem inFm_ok (ok:f.Ok c) {kd':Kd} {scope:Scope} (K:CompKd c f.kd kd' scope) {C:Addr} (h:∀ y∈scope.names,y.2=.free->∃ a,f.env.cells.lookup y.1=some a):(inFm f scope C kd').Ok c where
 kind:=K.kind
 glob:=ok.glob
 blt:=ok.blt
 names:=fun x k e=>have q:=K.at_ x k e; ⟨q.1,by
  show (relabel scope f.env).names.lookup (c.wd x)=some k
  unfold relabel
  refine (lookup_map (l:=scope.names) (x:=c.wd x) (F:=fun y=>if (y.2==NameKind.free&&f.env.scope.kind==ScopeKind.function&&f.env.kindOf y.1==some NameKind.cell)=true then (y.1,NameKind.cell) else (y.1,y.2)) fun y=>(apply_ite Prod.fst ..).trans (ite_self _)).trans ?_
  rcases q.2 with ⟨rfl,h2⟩ | ⟨rfl,h2,h3⟩ | ⟨rfl,h2⟩
  ·rw [h2]; rfl
  ·rw [h2]; rw [Option.map_some,(ok.names _ _ h3).2,ok.kind]; rfl
  ·rw [h2]; rfl⟩
 nodup:=List.pairwise_map.mpr ((List.pairwise_map.mp (capt_keys (acc:=[]) K.uniq)).imp_of_mem fun {p q} hp hq hne e=>hne (congrArg Prod.fst (nodup_snd ok.nodup (mem_of_lookup (capt_sub h p hp).1) (mem_of_lookup (capt_sub h q hq).1) e)))
 nod':=capt_keys (acc:=[]) K.uniq
end
end Mine.Internal
namespace Mine.Internal
open PySem PySem.W PySem.Calls PyProof.Rows
section
variable {c:Cx} {P:Pg} {M:Ms} {r:Ev} {N:Nat} {f g:Fm} {A:Around} {fr fr':FrA} {J J':AH} {m:Mp} {s s':Shared}
mutual
theorem bindT_cel:∀ {t:T} {fr fr':FrA} {v:AV},locT t=true->bindT fr t v=some fr'->fr'.cel=fr.cel
 | .loc _,_,_,_,_,h=>Option.some.inj h▸rfl
 | .cel _,_,_,_,hl,_=>nomatch hl
 | .tup _,_,_,_,hl,h=>bindK h fun _ _ h=>bindTs_cel hl h
theorem bindTs_cel:∀ {ts:List T} {fr fr':FrA} {vs:List AV},locT.locTs ts=true->bindTs fr ts vs=some fr'->fr'.cel=fr.cel
 | [],_,_,[],_,h=>Option.some.inj h▸rfl
 | [],_,_,_::_,_,h=>nomatch h
 | _::_,_,_,[],_,h=>nomatch h
 | _::_,_,_,_::_,hl,h=>andK hl fun h1 h2=>bindK h fun _ e1 e2=>(bindTs_cel h2 e2).trans (bindT_cel h1 e1)
end
theorem compGo_cel {tt:T} {ifs:List X} {next:FrA->AH->Option (List AV×FrA×AH)} (hl:locT tt=true) (hn:∀ {fr J vs fr' J'},next fr J=some (vs,fr',J')->fr'.cel=fr.cel):∀ {l:List AV} {fr fr':FrA} {J J':AH} {ws:List AV},compGo r tt ifs next l fr J=some (ws,fr',J')->fr'.cel=fr.cel:=by
 intro l
 induction l with
 | nil =>
  intro fr _ _ _ _ h
  exact some3K (Y:=fun _ fr' _=>fr'.cel=fr.cel) h rfl
 | cons _ _ ih =>
  intro fr _ _ _ _ h
  exact bindK h fun _ hb h=>bind2K h fun _ _ _ h2=>condK h2 (fun _ h2=>bind3K h2 fun _ _ _ h2 h3=>bind3K h3 fun _ _ _ h3 h4=>some3K (Y:=fun _ fr' _=>fr'.cel=fr.cel) h4 ((ih h3).trans ((hn h2).trans (bindT_cel hl hb)))) fun _ h2=>(ih h2).trans (bindT_cel hl hb)
theorem compIn_cel {x:X}:∀ {gs:List Gn} {cs:List Comprehension} {kd:Kd},TrGs c kd cs gs->∀ {fr J vs fr' J'},compIn r x gs fr J=some (vs,fr',J')->fr'.cel=fr.cel
 | [],_,_,_,fr,_,_,_,_,h=>bind2K h fun _ _ _ h2=>some3K (Y:=fun _ fr' _=>fr'.cel=fr.cel) h2 rfl
 | .mk tt it ifs::gs,_,_,ht,fr,J,vs,fr',J',h=>ht (fun _=>fr'.cel=fr.cel) fun _ _ _ _ _ hl _ _ _ hg=>iter3K (show iter3 (iter r fr J it) (fun l lo h=>bind3 (compGo r tt ifs (compIn r x gs) l fr (h.lock lo)) fun vs fr h'=>some (vs,fr,h'.open_ h))=some (vs,fr',J') from h) fun _ _ _ _ h2=>bind3K h2 fun _ _ _ h2 h3=>some3K (Y:=fun _ fr' _=>fr'.cel=fr.cel) h3 (compGo_cel hl (compIn_cel hg) h2)
theorem lookup_mem_any {α:Type} {n:Str} {x:α}:∀ {cs:List (Str×α)},(cs.map (·.1)).Nodup->(n,x)∈cs->cs.lookup n=some x:=by
 intro cs
 induction cs with
 | nil =>
  intro _ h
  exact nomatch h
 | cons jv cs ih =>
  obtain ⟨m,y⟩:=jv
  intro hn h
  have hn:=List.nodup_cons.mp (show (m::cs.map (·.1)).Nodup from hn)
  rw [List.lookup_cons]
  rcases List.mem_cons.mp h with h | h
  ·rw [← (Prod.mk.inj h).1,← (Prod.mk.inj h).2,beq_self_eq_true]
  ·rw [beq_eq_false_iff_ne.mpr fun e=>hn.1 (List.mem_map.mpr ⟨_,h,e⟩)]
   exact ih hn.2 h
theorem gens_plain {kd:Kd}:∀ {gs:List Gn} {gc:List Comprehension},TrGs c kd gc gs->∀ q∈gc,q.is_async=0/\∀ env v,foldedSetIterable q.iter env v=pure v
 | [],_,h=>Eq.symm (show _=[] from h)▸fun _ h=>nomatch h
 | .mk _ _ _::_,_,h=>h (fun gc=>∀ q∈gc,q.is_async=0/\∀ env v,foldedSetIterable q.iter env v=pure v) fun _ _ _ _ _ _ _ hi _ hg _ hq=>(List.mem_cons.mp hq).elim (fun e=>e▸⟨rfl,fold_tr hi⟩) (gens_plain hg _)
theorem Ext.more (hk:∀ b o,s.heap.get? b=some o->s'.heap.get? b=some o) (ho:s'.os=s.os) (hd:s'.drawn=s.drawn):Ext f m J s m J s':=⟨.refl,rfl,fun a o e _=>hk a o e,fun a o e=>⟨o,hk a o e⟩,fun _=>.inl rfl,fun _ h=>.inl h,ho,hd⟩
theorem comp_core (S:Sound c r N) (G:Gd c P M) (R:Room A N) (ok:f.Ok c) {kd':Kd} {elt:Expr} {x:X} {t i:Expr} {tt:T} {it:It} {ifs:List Expr} {ifs':List X} {gc:List Comprehension} {gs:List Gn} {scope:Scope} {pos:Pos} (K:CompKd c f.kd kd' scope) (hx:TrE c kd' elt x) (ht:TrT c kd' t tt) (hlt:locT tt=true)
  (htf:TupFor t it) (hi:TrI c f.kd i it) (hifs:TrEs c kd' ifs ifs') (hgs:TrGs c kd' gc gs) {v:AV} (he:compE r fr J x (.mk tt it ifs'::gs)=some (v,J'))
  {RR:Value->Addr->Result->Shared->Prop} (xa:St c f fr m J s) (k:∀ m' s' D C t,Ext f m J s m' J' s'->St c f fr m' J' s'->VR c m' v (.ref D)->Un f m' C->s'.heap.Ns C t->s.heap.get? C=none->RR (.ref D) C (.ok .next) s') :
  wpAny (model c.prog c.w) A (eval i f.env) (fun xv sd=>wpAny (model c.prog c.w) A (pyIter xv) (fun it se=>wpAny (model c.prog c.w) A (newList []) (fun acc sg =>
   wpAny (model c.prog c.w) A (newFunctionEnv scope f.env.globals (capt f.env.cells scope.names []) [] f.env.qual none .none (some f.env)) (fun cenv s4 =>
    codeAny (model c.prog c.w) A (.compStart (.ListComp elt (⟨t,i,ifs,0⟩::gc) scope pos) 0 it acc { cenv with scope:=relabel scope f.env }) (RR acc cenv.locals) s4) NoE sg) NoE se) NoE sd) NoE s :=
 iter3K (show iter3 (iter r fr J it) (fun l lo h=>bind3 (compGo r tt ifs' (compIn r x gs) l { fr with loc:=[] } (h.lock lo)) fun vs _ h'=>chk (few vs.length) (some ((h'.open_ h).new (.lst vs))))=some (v,J') from he) fun l lo Ja h1 h2=>bind3K h2 fun vs frx Jb h2 h3=>chkK h3 fun hl h3=>iter_open S G R ok hi htf h1 xa fun md sd I fp wr se Xb xb hlo hk Xc xc src=>by
 have hcell:∀ y∈scope.names,y.2≠.cell:=fun y hy z=>(K.kinds y hy).elim (fun q=>nomatch z.symm.trans q) fun q=>q.elim (fun q=>nomatch z.symm.trans q) fun q=>nomatch z.symm.trans q
 refine wpAny_newObj_type (wpAny_newFunctionEnv hcell (fun y hy=>nomatch hy) (fun hzb hns1 hsb1=>?_) K.kind)
 dsimp only at hns1 hsb1 ⊢
 generalize hH2:se.heap.push { cls:=.type "list",dict:=none,data:=.seq ([]:List Value).toArray }=H2 at hns1 hsb1 ⊢
 have hC:H2.objs.size=se.heap.objs.size+1:=by rw [← hH2,Heap.size_push]
 have ltC:se.heap.objs.size < H2.objs.size:=hC▸Nat.lt_succ_self _
 have old:∀ b o,se.heap.get? b=some o->hzb.get? b=some o:=fun b o e=>hsb1.extBut b o (Nat.ne_of_lt (Nat.lt_trans (Heap.lt_size e) ltC)) (Heap.get?_push_of_some _ (hH2▸Heap.get?_push_of_some _ e))
 have hDat:hzb.get? se.heap.objs.size=some (lstObj #[] 0):=hsb1.extBut _ _ (Nat.ne_of_lt ltC) (Heap.get?_push_of_some _ (hH2▸Heap.get?_push_size _ rfl))
 have nC2:se.heap.get? H2.objs.size=none:=Heap.get?_none_of_le (Nat.le_of_lt ltC)
 generalize hs4:({ se with heap:=hzb,toks:=se.toks+([]:List (Str×Value)).length }:Shared)=s4
 have e4:s4.heap=hzb:=by rw [← hs4]
 rw [← e4] at old hDat hns1
 have hfree:=free_lookup K xc.fr
 have hcl:∀ p∈(inFm f scope H2.objs.size kd').env.cells,p∈f.env.cells:=fun p hp=>mem_of_lookup (capt_sub hfree p hp).1
 have clt:∀ p∈f.env.cells,p.2 < se.heap.objs.size:=fun p hp=>xc.celLt hp
 have nameFree:∀ {y:Nat},kd' y=some .cell->scope.names.lookup (c.wd y)=some .free/\f.kd y=some .cell:=fun {y} e=>(K.at_ _ _ e).2.elim (fun q=>nomatch q.1) fun q=>q.elim (fun q=>q.2) fun q=>nomatch q.1
 have y:Mine.Internal.St c (inFm f scope H2.objs.size kd') { fr with loc:=[] } md (Ja.lock lo) s4:=xc.toB.enter old (by rw [← hs4]) (Nat.le_of_lt ltC) (fun p hp=>⟨xc.tC _ (hcl p hp),xc.lowC _ (hcl p hp),Nat.ne_of_lt (Nat.lt_trans (clt _ (hcl p hp)) ltC),(xc.cin _ (hcl p hp)).imp fun o=>old _ o⟩)
  ⟨⟨_,hns1,fun y v e=>nomatch e⟩,fun y v e hk'=>(xc.fr.cel y v e (nameFree hk').2).imp fun a=>Exists.imp fun w q=>⟨(capt_lookup hfree K.uniq (nameFree hk').1).trans q.1,q.2.1.imp fun o z=>⟨old _ _ z.1,z.2⟩,q.2.2⟩,
   fun y hk'=>(xc.fr.hasCell y (nameFree hk').2).imp fun a=>Exists.imp fun o q=>⟨(capt_lookup hfree K.uniq (nameFree hk').1).trans q.1,q.2.imp fun o z=>⟨old _ _ z.1,z.2⟩⟩⟩
 have here:∀ b∈fp,b≠H2.objs.size:=fun b hb z=>(src.there b hb).elim fun _ e=>no_some nC2 z.symm e
 have fx:Fx (inFm f scope H2.objs.size kd') fp wr md (Ja.lock lo) s4:=⟨fun b hb q=>src.own b hb (by
   have key:∀ b,b≠H2.objs.size->Own (inFm f scope H2.objs.size kd') md.ρ md.δ (Ja.lock lo) b->Own f md.ρ md.δ (Ja.lock lo) b:=fun b n q=>by
    cases q with
    | loc=>exact absurd rfl n
    | cell hp=>exact .cell (hcl _ hp)
    | obj e hr=>exact .obj e hr
    | dic e hr=>exact .dic e hr
   exact key b (here b hb) q),fun b hb=>(src.there b hb).imp fun o=>old _ o,fun b hb=>have u:=Un.ofNone xb (src.new b hb); ⟨u.tag,here b (src.sub b hb),fun p hp=>u.cel p (hcl p hp)⟩,src.sub⟩
 have hDf:se.heap.objs.size∉fp:=fun z=>(src.there _ z).elim fun _ e=>nomatch e.symm.trans (none_end _)
 have h0:∀ q∈(⟨t,i,ifs,0⟩::gc:List Comprehension),q.is_async=0/\∀ env v,foldedSetIterable q.iter env v=pure v:=fun q hq=>(List.mem_cons.mp hq).elim (fun e=>e▸⟨rfl,fold_tr hi⟩) (gens_plain hgs q)
 have okg:=inFm_ok (C:=H2.objs.size) ok K hfree
 have go:codeAny (model c.prog c.w) A (.compLoop (.ListComp elt (⟨t,i,ifs,0⟩::gc) scope pos) 0 (.ref I) (.ref se.heap.objs.size) (inFm f scope H2.objs.size kd').env) (RR (.ref se.heap.objs.size) H2.objs.size) s4:=by
  refine comp_loop S G R okg h0 (d:=0) rfl ht hifs (inner_ok (D:=se.heap.objs.size) S G R okg h0 hx gs gc 1 rfl hgs) hDf src.new l h2 _ _ [] _ (Ext.more (fun b o e=>old _ _ (hk _ _ e)) (by rw [← hs4]; exact Xc.os) (by rw [← hs4]; exact Xc.drawn)).d y fx ((src.itr _).move ⟨.refl,fun b _ o e=>old b o e⟩)
   ⟨⟨#[],0,hDat,.nil⟩,xc.dom _ (none_end _),Nat.ne_of_lt ltC,fun p hp=>Nat.ne_of_lt (clt _ (hcl p hp))⟩ (few_le hl) fun m5 s5 X5 y5 af=>?_
  have nD1:=none_back hk (none_end se.heap)
  have nC1:=none_back hk nC2
  have Xg:=X5.ext nD1
  have Xf:Ext f md (Ja.lock lo) sd m5 Jb s5:=Ext.outer (fun _ _ e=>e) rfl rfl nC1 (fun p hp=>.inr (hcl p hp)) Xg
  have keepF:∀ a o,md.ω a=.no->(∀ p∈(inFm f scope H2.objs.size kd').env.cells,p.2≠a)->sd.heap.get? a=some o->s5.heap.get? a=some o:=fun a o t h1 e=>Xg.keep a o e fun q=>by
   cases q with
   | loc=>exact nomatch e.symm.trans nC1
   | cell hp=>exact h1 _ hp rfl
   | obj e' _=>exact nomatch t.symm.trans (xb.tO _ _ e')
   | dic e' _=>exact nomatch t.symm.trans (xb.tD _ _ _ e')
  have keepC:∀ {z:Str} {a:Addr},f.env.cells.lookup z=some a->scope.names.lookup z≠some .free->∀ o,sd.heap.get? a=some o->s5.heap.get? a=some o:=fun {z a} ha hz o=>keepF a o (xb.tC _ (mem_of_lookup ha)) fun p hp q=>hz (by
   have e:=nodup_snd ok.nodup (hcl p hp) (mem_of_lookup ha) q
   have w:=(capt_sub hfree p hp).2
   rw [e] at w
   exact lookup_mem_any K.uniq w)
  have same:∀ {y:Nat},f.kd y=some .cell->scope.names.lookup (c.wd y)=some .free->kd' y=some .cell:=fun {y} hy hz=>(K.free _ (mem_of_lookup hz) rfl).elim fun z q=>G.inj _ _ (ok.names _ _ q.2.1).1 (ok.names _ _ hy).1 q.1▸q.2.2
  have xf:Mine.Internal.St c f fr m5 Jb s5:=(xb.lock _).leave y5 Xf ⟨xb.fr.loc.imp fun t q=>⟨q.1.imp fun o=>Exists.imp fun _=>Exists.imp fun _ z=>⟨keepF _ o xb.tL (fun p hp=>xb.locC p (hcl p hp)) z.1,z.2⟩,fun y v e hy=>(q.2 y v e hy).imp fun _ z=>⟨z.1,Xg.vr z.2⟩⟩,
   fun y v e hy=>Classical.byCases (fun hz:scope.names.lookup (c.wd y)=some .free=>(y5.fr.cel y v (by rw [compGo_cel hlt (compIn_cel hgs) h2]; exact e) (same hy hz)).imp fun a=>Exists.imp fun w q=>⟨(capt_lookup hfree K.uniq hz).symm.trans q.1,q.2⟩) fun hz=>(xb.fr.cel y v e hy).imp fun a=>Exists.imp fun w q=>⟨q.1,q.2.1.imp fun o z=>⟨keepC q.1 hz o z.1,z.2⟩,Xg.vr q.2.2⟩,
   fun y hy=>Classical.byCases (fun hz:scope.names.lookup (c.wd y)=some .free=>(y5.fr.hasCell y (same hy hz)).imp fun a=>Exists.imp fun w q=>⟨(capt_lookup hfree K.uniq hz).symm.trans q.1,q.2⟩) fun hz=>(xb.fr.hasCell y hy).imp fun a=>Exists.imp fun w q=>⟨q.1,q.2.imp fun o z=>⟨keepC q.1 hz o z.1,z.2⟩⟩⟩
  have Xu:=Xf.unlock (hlo.lt xb) (hlo.stays xb (.inl (none_end _)) Xf.d xb xf)
  have xu:Mine.Internal.St c f fr m5 (Jb.open_ Ja) s5:=xf.lock Ja.ro
  have locLt:=xc.locLt
  have uD:Un f m5 se.heap.objs.size:=⟨af.un.tag,Nat.ne_of_gt locLt,fun p hp=>Nat.ne_of_lt (clt p hp)⟩
  have lo0:c.lo<=se.heap.objs.size:=ltr xc.lowL (Nat.le_of_lt locLt)
  exact af.at_.elim fun ys q=>q.elim fun n q=>y5.fr.loc.elim fun tC hC5=>someK (Y:=fun p:AV×AH=>(∀ m' s' D C t,Ext f m J s m' p.2 s'->St c f fr m' p.2 s'->VR c m' p.1 (.ref D)->Un f m' C->s'.heap.Ns C t->s.heap.get? C=none->RR (.ref D) C (.ok .next) s')->RR (.ref se.heap.objs.size) H2.objs.size (.ok .next) s5) h3 (fun k =>
   k _ _ _ _ tC (Ext.adopt xu (Xb.trans Xu) (.lst vs) (Xb.back nD1) (Xb.back nD1)) (xu.adopt (.lst vs) uD uD (fun _ _ e=>nomatch e) lo0 lo0 ⟨_,q.1⟩ ⟨_,q.1⟩ ⟨ys,n,by rw [show (m5.putOb (Jb.open_ Ja).nx se.heap.objs.size se.heap.objs.size).ρ (Jb.open_ Ja).nx=se.heap.objs.size from put_self ..]; exact q.1,q.2.mono xu.leOb,few_le hl⟩) .newOb
    ⟨(put_ne (Nat.ne_of_gt ltC)).trans ((put_ne (Nat.ne_of_gt ltC)).trans y5.tL),Nat.ne_of_gt (Nat.lt_trans locLt ltC),fun p hp=>Nat.ne_of_lt (Nat.lt_trans (clt p hp) ltC)⟩ hC5.1 (Xb.back nC1)) k
 exact compStart_at (d:=0) rfl go (src.self s4 (fun b _ o e=>old b o e) _ _ go)
end
end Mine.Internal
namespace Mine.Internal
open PySem PySem.W PySem.Calls PyProof.Rows
section
variable {c:Cx} {P:Pg} {M:Ms} {r:Ev} {N:Nat} {f:Fm} {A:Around} {fr fr':FrA} {J J':AH} {fl:Fl} (S:Sound c r N) (G:Gd c P M) (R:Room A N) (ok:f.Ok c)
include S G R ok
theorem s_comp {e:Expr} {x:X} {v:AV}:∀ {gs:List Gn},TrE c f.kd e (.comp x gs)->compE r fr J x gs=some (v,J')->WpE c f A (eval e f.env) fr J v J'
 | [],_,he=>nomatch he
 | .mk tt it ifs::gs,h,he=>h (fun e=>WpE c f A (eval e f.env) fr J v J') fun kd' el t i l g scope p K hx ht hlt htf hi hifs hgs m s Q xa k=>by
  rw [eval_ListComp]
  exact wpAny_comprehension_free (use:=none) rfl (fun v=>fold_tr hi _ v) (closure_of (free_lookup K xa.fr)) K.kind (fun y hy e=>lookup_mem_any K.uniq (e▸hy)) (comp_core (RR:=fun acc C=>compPost (model c.prog c.w) A NoE none Q acc C) S G R ok K hx ht hlt htf hi hifs hgs he xa
   fun m' s' D C t X x' V u hm hn=>⟨t,hm,fun h' hs=>k _ _ _ (X.rawTurn (t:=s'.toks) hn hs) (x'.rawTurn (t:=s'.toks) u hs) V⟩)
theorem st_asg_comp {e:Stmt} {n:Nat} {x:X} {gs:List Gn} (h:TrS c f.kd e (.asg n (.comp x gs))) (he:(bind2 (compE r fr J x gs) fun v h=>some (Fl.next,{ fr with loc:=up fr.loc n v },h))=some (fl,fr',J')):WpS c f A (exec e f.env) fr J fl fr' J' :=
 bind2K he fun v Ja h1 h2=>some3K (Y:=WpS c f A (exec e f.env) fr J) h2 (h (fun e=>WpS c f A (exec e f.env) fr J .next { fr with loc:=up fr.loc n v } Ja) fun e0 p q hk hx m s Q xa k=>match gs,hx,h1 with
  | [],_,h1=>nomatch h1
  | .mk tt it ifs::gs,hx,h1=>hx (fun e0=>TrE c f.kd e0 (.comp x (.mk tt it ifs::gs))->wpAny (model c.prog c.w) A (exec (.Assign [.Name (c.wd n) p] e0 q) f.env) Q NoE s) (fun kd' el t i l g scope p' K hx1 ht hlt htf hi hifs hgs hx=>by
   refine Exists.elim (⟨_,rfl⟩:∃ b,swapsWith (.ListComp el (⟨t,i,l,0⟩::g) scope p') (some (.Name (c.wd n) p)) q.line f.env=pure b) fun b hb=>?_
   cases b with
   | false=>exact wpAny_Assign_Name (s_comp S G R ok hx h1 _ _ _ xa fun md sd w Xb xb Vc=>store_loc G ok xb Vc hk fun s' Xc xc=>k _ _ _ (Xb.trans Xc) xc rfl) hb
   | true =>
    rw [exec_Assign_Name_used _ _ _ _ hb]
    refine wpAny_bind (wpAny_standAt (wpAny_bind ?_))
    show wpAny _ A (do let _ ← comprehension (.ListComp _ _ _ _) _ f.env _ (newList []) false (eval _ f.env) (some (assign (.Name (c.wd n) p) f.env))) _ _ s
    refine wpAny_bind (wpAny_mono (wpAny_comprehension_free (E:=NoE) (use:=some (assign (.Name (c.wd n) p) f.env)) (Q:=fun _ s'=>Q .next s') rfl (fun v=>fold_tr hi _ v) (closure_of (free_lookup K xa.fr)) K.kind (fun y hy e=>lookup_mem_any K.uniq (e▸hy))
     (comp_core (RR:=fun acc C=>compPost (model c.prog c.w) A NoE (some (assign (.Name (c.wd n) p) f.env)) (fun _ s'=>Q .next s') acc C) S G R ok K hx1 ht hlt htf hi hifs hgs h1 xa fun m' s' D C t X x' V u hm hn=>?_)) (fun _ s' hq=>wpAny_pure (wpAny_pure hq)) fun _ _ z=>z)
    show wpAny _ A (assign (.Name (c.wd n) p) f.env (.ref D)) _ _ _
    refine wpAny_assign_Name (store_loc G ok x' V hk fun se Xc xc=>?_)
    refine hm.elim fun o q=>q.elim fun es q=>q.elim fun ep q=>?_
    exact ⟨t,⟨o,es,ep,Xc.keep _ _ q.1 (u.notOwn x'),q.2⟩,fun h' hs=>k _ _ .next ((X.trans Xc).rawTurn (t:=se.toks) hn hs) (xc.rawTurn (t:=se.toks) (u.ext Xc q.1) hs) rfl⟩) hx)
end
end Mine.Internal
namespace Mine.Internal
open PySem PySem.W PySem.Calls PyProof.Rows
noncomputable def Vl (e:Expr):Prop:=∀ env whole,isTrue e env whole=(do let v ← whole; standAt e.pos; holding [v] (truthy v))
section
variable {c:Cx} {P:Pg} {M:Ms} {r:Ev} {N:Nat} {f:Fm} {A:Around} {fr fr':FrA} {J J':AH} (S:Sound c r N) (G:Gd c P M) (R:Room A (N+1)) (ok:f.Ok c)
include S G R ok
theorem stepE_ok {e:Expr} {x:X} {v:AV} (h:TrE c f.kd e x) (he:stepE P M r fr J x=some (v,J')):WpE c f A (eval e f.env) fr J v J' :=
 have R':Room A N:=R.less (Nat.le_succ _)
 match x,h,he with
 | .cst _,h,he=>some2K (Y:=WpE c f A (eval e f.env) fr J) he (s_cst h)
 | .loc _,h,he=>map2K (Y:=WpE c f A (eval e f.env) fr J) he fun _ q=>s_loc ok G h q
 | .cel _,h,he=>map2K (Y:=WpE c f A (eval e f.env) fr J) he fun _ q=>s_cel ok G h q
 | .glb _,h,he=>map2K (Y:=WpE c f A (eval e f.env) fr J) he fun _ q=>s_glb ok G h q
 | .attr _ _,h,he=>s_attr S G R' ok h he
 | .sub _ _,h,he=>s_sub S G R' ok h he
 | .slf _ _,h,he=>s_slf S G R' ok h he
 | .slt _ _,h,he=>s_slt S G R' ok h he
 | .tup _,h,he=>s_tup S R' ok h he
 | .lst _,h,he=>s_lst S R' ok h he
 | .dicN _,h,he=>s_dicN S G R' ok h he
 | .dicF _,h,he=>s_dicF S G R' ok h he
 | .callF _ _,h,he=>s_callF S G R' ok h he
 | .callC _ _,h,he=>s_callC S G R ok h he
 | .callB _ _,h,he=>s_callB S G R' ok h he
 | .clsM _ _ _,h,he=>s_clsM S G R' ok h he
 | .meth _ _ _,h,he=>s_meth S G R' ok h he
 | .cmp _ _ _,h,he=>s_cmp S R' ok G h he
 | .not _,h,he=>s_not S R' ok h he
 | .and _,h,he=>s_and S R' ok h he
 | .or _,h,he=>s_or S R' ok h he
 | .ite _ _ _,h,he=>s_ite S R' ok h he
 | .bin _ _ _,h,he=>s_bin S G R' ok h he
 | .comp _ _,h,he=>s_comp S G R' ok h he
 | .inVals _ _,h,he=>s_inVals S G R' ok h he
 | .lstItems _,h,he=>s_lstItems S G R' ok h he
omit S G R ok in
theorem t_val {e:Expr} {o:Option (AV×AH)} {b:Bool} (hv:Vl e) (he:truB o=some (b,J')) (w:∀ v,o=some (v,J')->WpE c f A (eval e f.env) fr J v J'):WpT c f A (isTrue e f.env (eval e f.env)) fr J b J' :=
 bind2K he fun v Ja h1 h2=>mapsK h2 fun b' h2 h3=>pairsK (congrArg some h3) fun e1 e2 _ _ _ x k=>wpAny_isTrue_value (w v (e2▸h1) _ _ _ x fun _ sd w Xb xb Vc=>Vc.ofB (Y:=fun w=>wpAny _ _ (truthy w) _ _ sd) h2 (wpAny_truthy_bool (e1▸k _ _ Xb xb))) (hv _ _)
theorem stepT_ok {e:Expr} {x:X} {b:Bool} (h:TrE c f.kd e x) (he:stepT r fr J x=some (b,J')):WpT c f A (isTrue e f.env (eval e f.env)) fr J b J' :=
 have R':Room A N:=R.less (Nat.le_succ _)
 match x,h,he with
 | .not _,h,he=>t_not S R' ok h he
 | .and _,h,he=>t_and S R' ok h he
 | .or _,h,he=>t_or S R' ok h he
 | .ite _ _ _,h,he=>t_ite S R' ok h he
 | .cmp _ _ _,h,he=>t_cmp S R' ok G h he
 | .inVals _ _,h,he=>t_inVals S G R' ok h he
 | .loc _,h,he=>t_val (h Vl fun _ _ _ _=>rfl) he fun _ h1=>S.e R' ok h h1
 | .callF _ _,h,he=>t_val (h Vl fun _ _ _ _ _ _ _ _ _ _=>rfl) he fun _ h1=>S.e R' ok h h1
 | .meth _ _ _,h,he=>t_val (h Vl fun _ _ _ _ _ _ _ _ _ _ _ _=>rfl) he fun _ h1=>S.e R' ok h h1
 | .cst (.bool _),h,he=>t_val (h Vl fun _ _ _ _=>rfl) he fun _ h1=>some2K (Y:=WpE c f A (eval e f.env) fr J) h1 (s_cst h)
theorem stepS_ok {e:Stmt} {x:Mine.Internal.S} {fl:Fl} (h:TrS c f.kd e x) (he:stepS r fr J x=some (fl,fr',J')):WpS c f A (exec e f.env) fr J fl fr' J' :=
 have R':Room A N:=R.less (Nat.le_succ _)
 match x,h,he with
 | .asg _ (.comp _ _),h,he=>st_asg_comp S G R' ok h he
 | .asgC _ _,h,he=>st_asgC S G R' ok h he
 | .asgA _ _ _,h,he=>st_asgA S G R' ok h he
 | .asgS _ _ _,h,he=>st_asgS S R' ok G h he
 | .asgT _ _,h,he=>st_asgT S G R' ok h he
 | .asgW _ _,h,he=>st_asgW S G R' ok h he
 | .expr _,h,he=>st_expr S G R' ok (by unfold interactive; rw [ok.kind]; rfl) h he
 | .ret x,h,he=>bind2K (show (bind2 (r.e fr J x) fun v h=>some (Fl.ret v,fr,h))=_ from he) fun _ _ h1 h2=>some3K (Y:=WpS c f A (exec e f.env) fr J) h2 (st_ret S R' ok h h1)
 | .ret0,h,he=>some3K (Y:=WpS c f A (exec e f.env) fr J) he (st_ret0 h)
 | .ite _ _ _,h,he=>st_ite S R' ok h he
 | .for_ _ _ _,h,he=>st_for S G R' ok h he
 | .while_ _,h,he=>st_while S R' ok h he
 | .brk,h,he=>some3K (Y:=WpS c f A (exec e f.env) fr J) he (st_brk h)
 | .cont,h,he=>some3K (Y:=WpS c f A (exec e f.env) fr J) he (st_cont h)
 | .pass,h,he=>some3K (Y:=WpS c f A (exec e f.env) fr J) he (st_pass h)
 | .asg n (.cst v),h,he=>st_asg S G R' ok h rfl he
 | .asg n (.loc v),h,he=>st_asg S G R' ok h rfl he
 | .asg n (.cel v),h,he=>st_asg S G R' ok h rfl he
 | .asg n (.glb v),h,he=>st_asg S G R' ok h rfl he
 | .asg n (.attr _ _),h,he=>st_asg S G R' ok h rfl he
 | .asg n (.sub _ _),h,he=>st_asg S G R' ok h rfl he
 | .asg n (.slf _ _),h,he=>st_asg S G R' ok h rfl he
 | .asg n (.slt _ _),h,he=>st_asg S G R' ok h rfl he
 | .asg n (.tup _),h,he=>st_asg S G R' ok h rfl he
 | .asg n (.lst _),h,he=>st_asg S G R' ok h rfl he
 | .asg n (.dicN _),h,he=>st_asg S G R' ok h rfl he
 | .asg n (.dicF _),h,he=>st_asg S G R' ok h rfl he
 | .asg n (.callF _ _),h,he=>st_asg S G R' ok h rfl he
 | .asg n (.callC _ _),h,he=>st_asg S G R' ok h rfl he
 | .asg n (.callB _ _),h,he=>st_asg S G R' ok h rfl he
 | .asg n (.clsM _ _ _),h,he=>st_asg S G R' ok h rfl he
 | .asg n (.meth _ _ _),h,he=>st_asg S G R' ok h rfl he
 | .asg n (.cmp _ _ _),h,he=>st_asg S G R' ok h rfl he
 | .asg n (.not _),h,he=>st_asg S G R' ok h rfl he
 | .asg n (.and _),h,he=>st_asg S G R' ok h rfl he
 | .asg n (.or _),h,he=>st_asg S G R' ok h rfl he
 | .asg n (.ite _ _ _),h,he=>st_asg S G R' ok h rfl he
 | .asg n (.bin _ _ _),h,he=>st_asg S G R' ok h rfl he
 | .asg n (.inVals _ _),h,he=>st_asg S G R' ok h rfl he
 | .asg n (.lstItems _),h,he=>st_asg S G R' ok h rfl he
end
end Mine.Internal
namespace Mine.Internal
open PySem PySem.W PySem.Calls PyProof.Rows
section
variable {c:Cx} {P:Pg} {M:Ms} {r:Ev} {N:Nat} {A:Around}
theorem sound (G:Gd c P M):∀ n,Sound c (ev P M n) n
 | 0=>⟨fun _ _ _ he=>(nomatch he),fun _ _ _ he=>(nomatch he),fun _ _ _ he=>(nomatch he),fun _ he=>(nomatch he)⟩
 | n+1=>have S:=sound G n; ⟨fun R ok h he=>stepE_ok S G R ok h he,fun R ok h he=>stepT_ok S G R ok h he,fun R ok h he=>stepS_ok S G R ok h he,fun R he=>s_call S G R he⟩
theorem ints_vrs {m:Mp}:∀ {vs:List Value} {ns:List Int},IntsAre vs ns->VRs c m (ns.map .int) vs
 | _,_,.nil=>.nil
 | _,_,.cons _ _ h=>.cons (.int _ _) (ints_vrs h)
noncomputable def begin_ (ns:List Int):AH:=⟨1,[0],[(0,.lst (ns.map .int))]⟩
theorem begin_only {ns:List Int} {i:Nat} {o:AO} {Z:Nat->AO->Prop} (e:lk (begin_ ns).ob i=some o) (k:Z 0 (.lst (ns.map .int))):Z i o:=lk_in (F:=Z) e k fun _ e=>nomatch e
open Classical in
theorem top_call (G:Gd c P M) {s:Shared} {a:Addr} {vs:List Value} {n:Nat} {ns:List Int} (hB:∀ b o,c.B.get? b=some o->b≠a/\s.heap.get? b=some o) (hlo:c.lo<=a) (ha:s.heap.get? a=some (lstObj vs.toArray n)) (hI:IntsAre vs ns) (hlen:ns.length<=1000) (hg:s.gens=#[])
  (R:Room A (N+1)) {g k:Nat} {F:Fn} (hF:P.fn g=some F) (hp:F.params=[(k,false)]) {fra:FrA} {Ja:AH} (hs:ss (ev P M N) ⟨[(k,.ref 0)],[]⟩ (begin_ ns) F.body=some (.ret (.bool true),fra,Ja)) :
  codeAny (model c.prog c.w) A (.call (.ref (c.fnAt g)) ⟨[.ref a],[]⟩) (Back fun v s'=>v=.bool true/\(∀ b o,s.heap.get? b=some o->s'.heap.get? b=some o)/\s'.os=s.os/\s'.gens=#[]) s:=by
 have x:StB c ⟨1,fun _=>a,fun _=>0,c.B.get?,fun b=>if b=a then .ob 0 else if (c.B.get? b).isSome then .fz else .no⟩ (begin_ ns) s:=by
  refine ⟨rfl,fun _ _ e=>e,fun b o e=>(hB b o e).2,fun i o e=>begin_only (Z:=fun i o=>i < 1/\OR c _ s.heap i o) e ⟨Nat.one_pos,vs.toArray,n,ha,ints_vrs hI,ltr (Nat.le_of_eq (List.length_map ..)) hlen⟩,fun b o e=>?_,fun i o e=>begin_only (Z:=fun i o=>(if a=a then Tag.ob 0 else _)=.ob i) e (if_pos rfl),
   fun i C l e=>begin_only (Z:=fun i o=>o=.ins C l->_) e (fun e=>nomatch e) rfl,fun b e=>?_,hg,ltr hlo (Nat.le_of_lt (Heap.lt_size ha)),fun _ _ _=>hlo,fun i C l e=>begin_only (Z:=fun i o=>o=.ins C l->_) e (fun e=>nomatch e) rfl⟩
  ·exact (if_neg (hB b o e).1).trans (if_pos (by rw [show c.B.get? b=some o from e]; rfl))
  ·refine (if_neg fun z=>no_some e z ha).trans (if_neg fun z=>?_)
   exact (Option.isSome_iff_exists.mp z).elim fun o q=>nomatch e.symm.trans (hB b o q).2
 refine call_core (sound G N) G R (vs:=[.ref 0]) hF (by rw [hp]; rfl) hs x (.cons (.ref (i:=0) Nat.one_pos) .nil) fun fm sd m' s' w hkp ho hd hl hcl X y V=>?_
 refine ⟨V,fun b o e=>X.keep b o (hkp b o e) fun q=>?_,X.os.trans ho,y.gens⟩
 cases q with
 | loc=>exact Nat.ne_of_lt (Heap.lt_size e) hl
 | cell hq=>exact Nat.lt_asymm (Heap.lt_size e) (hcl _ hq)
 | obj e' hr=>exact begin_only (Z:=fun i _=>hasN (begin_ ns).ro i=false->False) e' (fun h=>nomatch h) hr
 | dic e' _=>exact begin_only (Z:=fun _ o=>o=.ins _ _->False) e' (fun e=>nomatch e) rfl
end
end Mine.Internal
namespace Mine.Internal
open PySem PySem.W PySem.Calls PyProof.Rows
noncomputable def onIx (a n:Nat) (F:a=n->Bool):Bool:=if h:a=n then F h else false
theorem onIxK {a n:Nat} {F:a=n->Bool} {Z:Prop} (h:onIx a n F=true) (k:∀ q,F q=true->Z):Z:=if q:a=n then k q ((dif_pos q).symm.trans h) else (Bool.false_ne_true ((dif_neg q).symm.trans h)).elim
noncomputable def onName (e:Expr) (B:Str->Pos->Bool):Bool:=onIx e.ctorIdx 23 fun q=>Expr.Name.elim (motive_1:=fun _=>Bool) e q fun id p=>B id p
theorem onNameK {e:Expr} {B:Str->Pos->Bool} {Z:Expr->Prop} (h:onName e B=true) (k:∀ id p,B id p=true->Z (.Name id p)):Z e:=onIxK h fun q=>Expr.Name.elim (motive_1:=fun e=>∀ q,Expr.Name.elim (motive_1:=fun _=>Bool) e q (fun id p=>B id p)=true->Z e) e q (fun id p _ h=>k id p h) q
noncomputable def onCst (e:Expr) (B:Const->Bool):Bool:=onIx e.ctorIdx 19 fun q=>Expr.Constant.elim (motive_1:=fun _=>Bool) e q fun v n p=>B v
theorem onCstK {e:Expr} {B:Const->Bool} {Z:Expr->Prop} (h:onCst e B=true) (k:∀ v n p,B v=true->Z (.Constant v n p)):Z e:=onIxK h fun q=>Expr.Constant.elim (motive_1:=fun e=>∀ q,Expr.Constant.elim (motive_1:=fun _=>Bool) e q (fun v n p=>B v)=true->Z e) e q (fun v n p _ h=>k v n p h) q
noncomputable def onAttr (e:Expr) (B:Expr->Str->Pos->Bool):Bool:=onIx e.ctorIdx 20 fun q=>Expr.Attribute.elim (motive_1:=fun _=>Bool) e q fun o a q=>B o a q
theorem onAttrK {e:Expr} {B:Expr->Str->Pos->Bool} {Z:Expr->Prop} (h:onAttr e B=true) (k:∀ o a q,B o a q=true->Z (.Attribute o a q)):Z e:=onIxK h fun q=>Expr.Attribute.elim (motive_1:=fun e=>∀ q,Expr.Attribute.elim (motive_1:=fun _=>Bool) e q (fun o a q=>B o a q)=true->Z e) e q (fun o a q _ h=>k o a q h) q
noncomputable def onSub (e:Expr) (B:Expr->Expr->Bool):Bool:=onIx e.ctorIdx 21 fun q=>Expr.Subscript.elim (motive_1:=fun _=>Bool) e q fun o i p=>B o i
theorem onSubK {e:Expr} {B:Expr->Expr->Bool} {Z:Expr->Prop} (h:onSub e B=true) (k:∀ o i p,B o i=true->Z (.Subscript o i p)):Z e:=onIxK h fun q=>Expr.Subscript.elim (motive_1:=fun e=>∀ q,Expr.Subscript.elim (motive_1:=fun _=>Bool) e q (fun o i p=>B o i)=true->Z e) e q (fun o i p _ h=>k o i p h) q
noncomputable def onSlice (e:Expr) (B:Option Expr->Option Expr->Option Expr->Bool):Bool:=onIx e.ctorIdx 26 fun q=>Expr.Slice.elim (motive_1:=fun _=>Bool) e q fun a b d p=>B a b d
theorem onSliceK {e:Expr} {B:Option Expr->Option Expr->Option Expr->Bool} {Z:Expr->Prop} (h:onSlice e B=true) (k:∀ a b d p,B a b d=true->Z (.Slice a b d p)):Z e:=onIxK h fun q=>Expr.Slice.elim (motive_1:=fun e=>∀ q,Expr.Slice.elim (motive_1:=fun _=>Bool) e q (fun a b d p=>B a b d)=true->Z e) e q (fun a b d p _ h=>k a b d p h) q
noncomputable def onTup (e:Expr) (B:List Expr->Bool):Bool:=onIx e.ctorIdx 25 fun q=>Expr.Tuple.elim (motive_1:=fun _=>Bool) e q fun l n p=>B l
theorem onTupK {e:Expr} {B:List Expr->Bool} {Z:Expr->Prop} (h:onTup e B=true) (k:∀ l n p,B l=true->Z (.Tuple l n p)):Z e:=onIxK h fun q=>Expr.Tuple.elim (motive_1:=fun e=>∀ q,Expr.Tuple.elim (motive_1:=fun _=>Bool) e q (fun l n p=>B l)=true->Z e) e q (fun l n p _ h=>k l n p h) q
noncomputable def onLst (e:Expr) (B:List Expr->Bool):Bool:=onIx e.ctorIdx 24 fun q=>Expr.List.elim (motive_1:=fun _=>Bool) e q fun l p=>B l
theorem onLstK {e:Expr} {B:List Expr->Bool} {Z:Expr->Prop} (h:onLst e B=true) (k:∀ l p,B l=true->Z (.List l p)):Z e:=onIxK h fun q=>Expr.List.elim (motive_1:=fun e=>∀ q,Expr.List.elim (motive_1:=fun _=>Bool) e q (fun l p=>B l)=true->Z e) e q (fun l p _ h=>k l p h) q
noncomputable def onDict (e:Expr) (B:List (Option Expr)->List Expr->Bool):Bool:=onIx e.ctorIdx 6 fun q=>Expr.Dict.elim (motive_1:=fun _=>Bool) e q fun ks vs p=>B ks vs
theorem onDictK {e:Expr} {B:List (Option Expr)->List Expr->Bool} {Z:Expr->Prop} (h:onDict e B=true) (k:∀ ks vs p,B ks vs=true->Z (.Dict ks vs p)):Z e:=onIxK h fun q=>Expr.Dict.elim (motive_1:=fun e=>∀ q,Expr.Dict.elim (motive_1:=fun _=>Bool) e q (fun ks vs p=>B ks vs)=true->Z e) e q (fun ks vs p _ h=>k ks vs p h) q
noncomputable def onCall (e:Expr) (B:Expr->List Expr->List Keyword->Pos->Bool):Bool:=onIx e.ctorIdx 16 fun q=>Expr.Call.elim (motive_1:=fun _=>Bool) e q fun g l ks q=>B g l ks q
theorem onCallK {e:Expr} {B:Expr->List Expr->List Keyword->Pos->Bool} {Z:Expr->Prop} (h:onCall e B=true) (k:∀ g l ks q,B g l ks q=true->Z (.Call g l ks q)):Z e:=onIxK h fun q=>Expr.Call.elim (motive_1:=fun e=>∀ q,Expr.Call.elim (motive_1:=fun _=>Bool) e q (fun g l ks q=>B g l ks q)=true->Z e) e q (fun g l ks q _ h=>k g l ks q h) q
noncomputable def onCmp (e:Expr) (B:Expr->List CmpOp->List Expr->Bool):Bool:=onIx e.ctorIdx 15 fun q=>Expr.Compare.elim (motive_1:=fun _=>Bool) e q fun a os bs p=>B a os bs
theorem onCmpK {e:Expr} {B:Expr->List CmpOp->List Expr->Bool} {Z:Expr->Prop} (h:onCmp e B=true) (k:∀ a os bs p,B a os bs=true->Z (.Compare a os bs p)):Z e:=onIxK h fun q=>Expr.Compare.elim (motive_1:=fun e=>∀ q,Expr.Compare.elim (motive_1:=fun _=>Bool) e q (fun a os bs p=>B a os bs)=true->Z e) e q (fun a os bs p _ h=>k a os bs p h) q
noncomputable def onUn (e:Expr) (B:UnaryOp->Expr->Bool):Bool:=onIx e.ctorIdx 3 fun q=>Expr.UnaryOp.elim (motive_1:=fun _=>Bool) e q fun o a p=>B o a
theorem onUnK {e:Expr} {B:UnaryOp->Expr->Bool} {Z:Expr->Prop} (h:onUn e B=true) (k:∀ o a p,B o a=true->Z (.UnaryOp o a p)):Z e:=onIxK h fun q=>Expr.UnaryOp.elim (motive_1:=fun e=>∀ q,Expr.UnaryOp.elim (motive_1:=fun _=>Bool) e q (fun o a p=>B o a)=true->Z e) e q (fun o a p _ h=>k o a p h) q
noncomputable def onBop (e:Expr) (B:BoolOp->List Expr->Bool):Bool:=onIx e.ctorIdx 0 fun q=>Expr.BoolOp.elim (motive_1:=fun _=>Bool) e q fun o l p=>B o l
theorem onBopK {e:Expr} {B:BoolOp->List Expr->Bool} {Z:Expr->Prop} (h:onBop e B=true) (k:∀ o l p,B o l=true->Z (.BoolOp o l p)):Z e:=onIxK h fun q=>Expr.BoolOp.elim (motive_1:=fun e=>∀ q,Expr.BoolOp.elim (motive_1:=fun _=>Bool) e q (fun o l p=>B o l)=true->Z e) e q (fun o l p _ h=>k o l p h) q
noncomputable def onIte (e:Expr) (B:Expr->Expr->Expr->Bool):Bool:=onIx e.ctorIdx 5 fun q=>Expr.IfExp.elim (motive_1:=fun _=>Bool) e q fun a b d p=>B a b d
theorem onIteK {e:Expr} {B:Expr->Expr->Expr->Bool} {Z:Expr->Prop} (h:onIte e B=true) (k:∀ a b d p,B a b d=true->Z (.IfExp a b d p)):Z e:=onIxK h fun q=>Expr.IfExp.elim (motive_1:=fun e=>∀ q,Expr.IfExp.elim (motive_1:=fun _=>Bool) e q (fun a b d p=>B a b d)=true->Z e) e q (fun a b d p _ h=>k a b d p h) q
noncomputable def onBin (e:Expr) (B:Expr->Operator->Expr->Bool):Bool:=onIx e.ctorIdx 2 fun q=>Expr.BinOp.elim (motive_1:=fun _=>Bool) e q fun a o b p=>B a o b
theorem onBinK {e:Expr} {B:Expr->Operator->Expr->Bool} {Z:Expr->Prop} (h:onBin e B=true) (k:∀ a o b p,B a o b=true->Z (.BinOp a o b p)):Z e:=onIxK h fun q=>Expr.BinOp.elim (motive_1:=fun e=>∀ q,Expr.BinOp.elim (motive_1:=fun _=>Bool) e q (fun a o b p=>B a o b)=true->Z e) e q (fun a o b p _ h=>k a o b p h) q
noncomputable def onComp (e:Expr) (B:Expr->List Comprehension->Scope->Bool):Bool:=onIx e.ctorIdx 8 fun q=>Expr.ListComp.elim (motive_1:=fun _=>Bool) e q fun x g s p=>B x g s
theorem onCompK {e:Expr} {B:Expr->List Comprehension->Scope->Bool} {Z:Expr->Prop} (h:onComp e B=true) (k:∀ x g s p,B x g s=true->Z (.ListComp x g s p)):Z e:=onIxK h fun q=>Expr.ListComp.elim (motive_1:=fun e=>∀ q,Expr.ListComp.elim (motive_1:=fun _=>Bool) e q (fun x g s p=>B x g s)=true->Z e) e q (fun x g s p _ h=>k x g s p h) q
noncomputable def onAsg (e:Stmt) (B:List Expr->Expr->Bool):Bool:=onIx e.ctorIdx 5 fun q=>Stmt.Assign.elim (motive_2:=fun _=>Bool) e q fun ts e p=>B ts e
theorem onAsgK {e:Stmt} {B:List Expr->Expr->Bool} {Z:Stmt->Prop} (h:onAsg e B=true) (k:∀ ts e p,B ts e=true->Z (.Assign ts e p)):Z e:=onIxK h fun q=>Stmt.Assign.elim (motive_2:=fun e=>∀ q,Stmt.Assign.elim (motive_2:=fun _=>Bool) e q (fun ts e p=>B ts e)=true->Z e) e q (fun ts e p _ h=>k ts e p h) q
noncomputable def onExpr (e:Stmt) (B:Expr->Bool):Bool:=onIx e.ctorIdx 24 fun q=>Stmt.Expr.elim (motive_2:=fun _=>Bool) e q fun e p=>B e
theorem onExprK {e:Stmt} {B:Expr->Bool} {Z:Stmt->Prop} (h:onExpr e B=true) (k:∀ e p,B e=true->Z (.Expr e p)):Z e:=onIxK h fun q=>Stmt.Expr.elim (motive_2:=fun e=>∀ q,Stmt.Expr.elim (motive_2:=fun _=>Bool) e q (fun e p=>B e)=true->Z e) e q (fun e p _ h=>k e p h) q
noncomputable def onRet (e:Stmt) (B:Option Expr->Bool):Bool:=onIx e.ctorIdx 3 fun q=>Stmt.Return.elim (motive_2:=fun _=>Bool) e q fun e p=>B e
theorem onRetK {e:Stmt} {B:Option Expr->Bool} {Z:Stmt->Prop} (h:onRet e B=true) (k:∀ e p,B e=true->Z (.Return e p)):Z e:=onIxK h fun q=>Stmt.Return.elim (motive_2:=fun e=>∀ q,Stmt.Return.elim (motive_2:=fun _=>Bool) e q (fun e p=>B e)=true->Z e) e q (fun e p _ h=>k e p h) q
noncomputable def onIf (e:Stmt) (B:Expr->List Stmt->List Stmt->Bool):Bool:=onIx e.ctorIdx 12 fun q=>Stmt.If.elim (motive_2:=fun _=>Bool) e q fun a b d p=>B a b d
theorem onIfK {e:Stmt} {B:Expr->List Stmt->List Stmt->Bool} {Z:Stmt->Prop} (h:onIf e B=true) (k:∀ a b d p,B a b d=true->Z (.If a b d p)):Z e:=onIxK h fun q=>Stmt.If.elim (motive_2:=fun e=>∀ q,Stmt.If.elim (motive_2:=fun _=>Bool) e q (fun a b d p=>B a b d)=true->Z e) e q (fun a b d p _ h=>k a b d p h) q
noncomputable def onFor (e:Stmt) (B:Expr->Expr->List Stmt->List Stmt->Bool):Bool:=onIx e.ctorIdx 9 fun q=>Stmt.For.elim (motive_2:=fun _=>Bool) e q fun t i b d p=>B t i b d
theorem onForK {e:Stmt} {B:Expr->Expr->List Stmt->List Stmt->Bool} {Z:Stmt->Prop} (h:onFor e B=true) (k:∀ t i b d p,B t i b d=true->Z (.For t i b d p)):Z e:=onIxK h fun q=>Stmt.For.elim (motive_2:=fun e=>∀ q,Stmt.For.elim (motive_2:=fun _=>Bool) e q (fun t i b d p=>B t i b d)=true->Z e) e q (fun t i b d p _ h=>k t i b d p h) q
noncomputable def onWhile (e:Stmt) (B:Expr->List Stmt->List Stmt->Bool):Bool:=onIx e.ctorIdx 11 fun q=>Stmt.While.elim (motive_2:=fun _=>Bool) e q fun t b d p=>B t b d
theorem onWhileK {e:Stmt} {B:Expr->List Stmt->List Stmt->Bool} {Z:Stmt->Prop} (h:onWhile e B=true) (k:∀ t b d p,B t b d=true->Z (.While t b d p)):Z e:=onIxK h fun q=>Stmt.While.elim (motive_2:=fun e=>∀ q,Stmt.While.elim (motive_2:=fun _=>Bool) e q (fun t b d p=>B t b d)=true->Z e) e q (fun t b d p _ h=>k t b d p h) q
noncomputable def onPass (e:Stmt):Bool:=onIx e.ctorIdx 25 fun q=>Stmt.Pass.elim (motive_2:=fun _=>Bool) e q fun _=>true
theorem onPassK {e:Stmt} {Z:Stmt->Prop} (h:onPass e=true) (k:∀ p,Z (.Pass p)):Z e:=onIxK h fun q=>Stmt.Pass.elim (motive_2:=fun e=>∀ q,Stmt.Pass.elim (motive_2:=fun _=>Bool) e q (fun _=>true)=true->Z e) e q (fun p _ h=>k p) q
noncomputable def onBrk (e:Stmt):Bool:=onIx e.ctorIdx 26 fun q=>Stmt.Break.elim (motive_2:=fun _=>Bool) e q fun _=>true
theorem onBrkK {e:Stmt} {Z:Stmt->Prop} (h:onBrk e=true) (k:∀ p,Z (.Break p)):Z e:=onIxK h fun q=>Stmt.Break.elim (motive_2:=fun e=>∀ q,Stmt.Break.elim (motive_2:=fun _=>Bool) e q (fun _=>true)=true->Z e) e q (fun p _ h=>k p) q
noncomputable def onCont (e:Stmt):Bool:=onIx e.ctorIdx 27 fun q=>Stmt.Continue.elim (motive_2:=fun _=>Bool) e q fun _=>true
theorem onContK {e:Stmt} {Z:Stmt->Prop} (h:onCont e=true) (k:∀ p,Z (.Continue p)):Z e:=onIxK h fun q=>Stmt.Continue.elim (motive_2:=fun e=>∀ q,Stmt.Continue.elim (motive_2:=fun _=>Bool) e q (fun _=>true)=true->Z e) e q (fun p _ h=>k p) q
noncomputable def onStr (k:Const) (B:Str->Bool):Bool:=onIx k.ctorIdx 5 fun q=>Const.str.elim (motive:=fun _=>Bool) k q B
theorem onStrK {k:Const} {B:Str->Bool} {Z:Const->Prop} (h:onStr k B=true) (z:∀ s,B s=true->Z (.str s)):Z k:=onIxK h fun q=>Const.str.elim (motive:=fun k=>∀ q,Const.str.elim (motive:=fun _=>Bool) k q B=true->Z k) k q (fun s _ h=>z s h) q
noncomputable def on1 {α:Type} (l:List α) (B:α->Bool):Bool:=match l with
 | []=>false
 | a::r=>r.isEmpty&&B a
theorem on1K {α:Type} {l:List α} {B:α->Bool} {Z:List α->Prop} (h:on1 l B=true) (k:∀ a,B a=true->Z [a]):Z l :=
 match l,h with
 | [],h=>nomatch h
 | [a],h=>k a h
 | _::_::_,h=>nomatch h
theorem nilK {α:Type} {l:List α} {Z:List α->Prop} (h:l.isEmpty=true) (k:Z []):Z l :=
 match l,h with
 | [],_=>k
 | _::_,h=>nomatch h
theorem optK {α:Type} {o:Option α} {B:α->Bool} {Z:Option α->Prop} (h:optB o B=true) (k:∀ a,B a=true->Z (some a)):Z o :=
 match o,h with
 | none,h=>nomatch h
 | some a,h=>k a h
theorem noneK {α:Type} {o:Option α} {Z:Option α->Prop} (h:o.isNone=true) (k:Z none):Z o :=
 match o,h with
 | none,_=>k
 | some _,h=>nomatch h
theorem eqK {α:Type} [DecidableEq α] {a b:α} {Z:α->Prop} (h:decide (a=b)=true) (k:Z b):Z a:=of_decide_eq_true h▸k
noncomputable def all2 {α β:Type} (r:α->β->Bool):List α->List β->Bool
 | [],m=>m.isEmpty
 | a::l,m=>match m with
  | []=>false
  | b::m=>r a b&&all2 r l m
theorem all2K {α β:Type} {r:α->β->Bool} {Y:List α->List β->Prop} (nil:Y [] []) (cons:∀ a l b m,r a b=true->Y l m->Y (a::l) (b::m)):∀ {l:List α} {m:List β},all2 r l m=true->Y l m
 | [],[],_=>nil
 | [],_::_,h=>nomatch h
 | _::_,[],h=>nomatch h
 | _::_,_::_,h=>andK h fun h1 h2=>cons _ _ _ _ h1 (all2K nil cons h2)
noncomputable def eqNs:List Nat->List Nat->Bool
 | [],b=>b.isEmpty
 | a::l,b=>match b with
  | []=>false
  | c::r=>Nat.beq a c&&eqNs l r
theorem eqNs_ok:∀ {a b:List Nat},eqNs a b=true->a=b
 | [],[],_=>rfl
 | [],_::_,h=>nomatch h
 | _::_,[],h=>nomatch h
 | _::_,_::_,h=>andK h fun h1 h2=>Nat.eq_of_beq_eq_true h1▸eqNs_ok h2▸rfl
theorem eqNs_self:∀ a:List Nat,eqNs a a=true
 | []=>rfl
 | a::l=>Bool.and_eq_true_iff.mpr ⟨Nat.beq_refl a,eqNs_self l⟩
noncomputable def eqS (a b:Str):Bool:=eqNs a.cps.toList b.cps.toList
theorem eqS_ok {a b:Str} (h:eqS a b=true):a=b :=
 match a,b,h with
 | ⟨⟨_⟩⟩,⟨⟨_⟩⟩,h=>congrArg (fun l:List Nat=>(⟨⟨l⟩⟩:Str)) (eqNs_ok h)
theorem eqS_self (a:Str):eqS a a=true:=eqNs_self _
theorem eqS_beq (a b:Str):eqS a b=(a==b):=by
 cases q:eqS a b with
 | true=>rw [eqS_ok q]; exact (beq_self_eq_true b).symm
 | false=>exact (beq_eq_false_iff_ne.mpr fun e=>by rw [e,eqS_self] at q; exact nomatch q).symm
end Mine.Internal
namespace Mine.Internal
open PySem PySem.W PySem.Calls PyProof.Rows
structure Tb where
 words:List Str
 fnN:List (Nat×Nat)
 plainN:List Nat
 cls:List Nat
 bl:Bn->Nat
 range:Nat
 enum:Nat
 values:Nat
 items:Nat
noncomputable def wdOf (l:List Str) (n:Nat):Str:=l.getD n ⟨#[]⟩
noncomputable def idxS (s:Str):List Str->Nat->Option Nat
 | [],_=>none
 | w::l,n=>cond (eqS w s) (some n) (idxS s l (n+1))
noncomputable def lookS (s:Str):List (Str×NameKind)->Option NameKind
 | []=>none
 | p::l=>cond (eqS s p.1) (some p.2) (lookS s l)
theorem lookS_ok (s:Str):∀ l,lookS s l=l.lookup s
 | []=>rfl
 | p::l=>by
  show cond (eqS s p.1) (some p.2) (lookS s l)=(match s==p.1 with | true=>some p.2 | false=>l.lookup s)
  rw [eqS_beq,lookS_ok s l]
  cases s==p.1 <;> rfl
section
variable {α:Type} {a b:Bool} {Z:Prop}
theorem orK (h:(a||b)=true) (k1:a=true->Z) (k2:b=true->Z):Z:=boolK (F:=fun a=>(a||b)=true->(a=true->Z)->Z) (fun _ k=>k rfl) (fun h _=>k2 h) h k1
theorem notK {b:Bool} (h:(!b)=true):b=false:=(Bool.not_eq_true' b).mp h
theorem allK {l:List α} {p:α->Bool} (h:l.all p=true) {x:α} (m:x∈l):p x=true:=List.all_eq_true.mp h x m
end
section
variable (t:Tb)
noncomputable def kdT (f:NameKind->Option NameKind):List (Str×NameKind)->List (Nat×NameKind)
 | []=>[]
 | p::l=>match f p.2 with
  | some k=>(match idxS p.1 t.words 0 with
   | some n=>(n,k)::kdT f l
   | none=>kdT f l)
  | none=>kdT f l
noncomputable def kAt (kd:List (Nat×NameKind)) (n:Nat) (k:NameKind):Bool:=optB (lk kd n) fun k'=>decide (k'=k)
noncomputable def kFn:NameKind->Option NameKind
 | .local=>some .local
 | .cell=>some .cell
 | .globalImplicit=>some .globalImplicit
 | _=>none
noncomputable def kCo:NameKind->Option NameKind
 | .local=>some .local
 | .free=>some .cell
 | .globalImplicit=>some .globalImplicit
 | _=>none
noncomputable def isW (s:Str) (n:Nat):Bool:=Nat.blt n t.words.length&&eqS s (wdOf t.words n)
noncomputable def nodupN:List Nat->Bool
 | []=>true
 | n::l=>!(hasN l n)&&nodupN l
noncomputable def nodupS:List Str->Bool
 | []=>true
 | s::l=>!(l.any fun x=>eqS s x)&&nodupS l
noncomputable def chkT (kd:List (Nat×NameKind)):Nat->Expr->T->Bool
 | 0,_,_=>false
 | f+1,e,x=>match x with
  | .loc n=>kAt kd n .local&&onName e fun id _=>isW t id n
  | .cel n=>kAt kd n .cell&&onName e fun id _=>isW t id n
  | .tup ts=>onTup e fun l=>all2 (chkT kd f) l ts
noncomputable def chkCo (kd kd':List (Nat×NameKind)) (sc:Scope):Bool :=
 decide (sc.kind=.function)&&(sc.names.all fun y=>decide (y.2=.local)||(decide (y.2=.free)||decide (y.2=.globalImplicit)))&&nodupS (sc.names.map (·.1)) &&
 (kd'.all fun p=>Nat.blt p.1 t.words.length&&optB (lookS (wdOf t.words p.1) sc.names) fun k=>(decide (p.2=.local)&&decide (k=.local))||((decide (p.2=.cell)&&(decide (k=.free)&&kAt kd p.1 .cell))||(decide (p.2=.globalImplicit)&&decide (k=.globalImplicit)))) &&
 sc.names.all fun y=>!(decide (y.2=.free))||optB (idxS y.1 t.words 0) fun n=>eqS (wdOf t.words n) y.1&&(kAt kd n .cell&&kAt kd' n .cell)
noncomputable def bltCall (kd:List (Nat×NameKind)) (n:Nat) (e:Expr) (B:Expr->Bool):Bool:=onCall e fun g l ks _=>ks.isEmpty&&(kAt kd n .globalImplicit&&(onName g (fun id _=>isW t id n)&&on1 l B))
noncomputable def chkI (r:Expr->X->Bool) (kd:List (Nat×NameKind)) (e:Expr):It->Bool
 | .of x=>r e x
 | .range x=>bltCall t kd t.range e fun a=>r a x
 | .enum x=>bltCall t kd t.enum e fun a=>r a x
noncomputable def chkFor (e:Expr):It->Bool
 | .of _=>true
 | .range _=>true
 | .enum _=>onTup e fun _=>true
noncomputable def chkDs (r:Expr->X->Bool):List (Nat×X)->List (Option Expr)->List Expr->Bool
 | [],ks,vs=>ks.isEmpty&&vs.isEmpty
 | p::xs,ks,vs=>match ks with
  | []=>false
  | k::ks=>match vs with
   | []=>false
   | e::vs=>optB k (fun q=>onCst q fun k=>onStr k fun s=>isW t s p.1)&&(r e p.2&&chkDs r xs ks vs)
noncomputable def chkQ (r r':Expr->X->Bool) (kd kd':List (Nat×NameKind)) (q:Comprehension):Gn->Bool
 | .mk t' i' l'=>decide (q.is_async=0)&&(chkT t kd' 9 q.target t'&&(locT t'&&(chkFor q.target i'&&(chkI t r kd q.iter i'&&all2 r' q.ifs l'))))
noncomputable def chkGs (r:Expr->X->Bool) (kd:List (Nat×NameKind)):List Gn->List Comprehension->Bool
 | [],g=>g.isEmpty
 | y::gs,g=>match g with
  | []=>false
  | q::g=>chkQ t r r kd kd q y&&chkGs r kd gs g
noncomputable def fnName (g:Nat):List (Nat×Nat)->Option Nat
 | []=>none
 | p::l=>cond (Nat.beq p.2 g) (some p.1) (fnName g l)
noncomputable def boB:Bo->Operator
 | .add=>.Add | .sub=>.Sub | .mod=>.Mod | .fdiv=>.FloorDiv | .mul=>.Mult
noncomputable def coB:Co->CmpOp
 | .eq=>.Eq | .ne=>.NotEq | .lt=>.Lt | .le=>.LtE | .gt=>.Gt | .is=>.Is | .isNot=>.IsNot | .inn=>.In | .notIn=>.NotIn
noncomputable def baseE (e:Expr):Bool:=!(Nat.beq e.ctorIdx 16)
noncomputable def chkC (e:Expr):AV->Bool
 | .none=>onCst e fun k=>decide (k=.none)
 | .bool b=>onCst e fun k=>decide (k=.bool b)
 | .int i=>(onCst e fun k=>decide (k=.int i))||onUn e fun o a=>decide (o=.USub)&&onCst a fun k=>decide (k=.int (-i))
 | .str n=>onCst e fun k=>onStr k fun s=>isW t s n
 | .tup _=>false | .dct _=>false | .ref _=>false
noncomputable def chkE:Nat->List (Nat×NameKind)->Expr->X->Bool
 | 0,_,_,_=>false
 | f+1,kd,e,x=>match x with
  | .cst v=>chkC t e v
  | .loc n=>kAt kd n .local&&onName e fun id _=>isW t id n
  | .cel n=>kAt kd n .cell&&onName e fun id _=>isW t id n
  | .glb n=>kAt kd n .globalImplicit&&onName e fun id _=>isW t id n
  | .attr y n=>hasN t.plainN n&&onAttr e fun e a _=>baseE e&&(chkE f kd e y&&isW t a n)
  | .sub y z=>onSub e fun e i=>chkE f kd e y&&chkE f kd i z
  | .slf y z=>onSub e fun e s=>chkE f kd e y&&onSlice s fun a b d=>b.isNone&&(d.isNone&&optB a fun i=>chkE f kd i z)
  | .slt y z=>onSub e fun e s=>chkE f kd e y&&onSlice s fun a b d=>a.isNone&&(d.isNone&&optB b fun i=>chkE f kd i z)
  | .tup xs=>onTup e fun l=>all2 (chkE f kd) l xs&&Nat.ble xs.length 1000
  | .lst xs=>onLst e fun l=>all2 (chkE f kd) l xs&&Nat.ble xs.length 1000
  | .dicN xs=>onDict e fun ks vs=>chkDs t (chkE f kd) xs ks vs&&(Nat.ble xs.length 15&&nodupN (xs.map (·.1)))
  | .dicF xs=>onDict e fun ks vs=>chkDs t (chkE f kd) xs ks vs&&(Nat.ble xs.length 15&&nodupN (xs.map (·.1)))
  | .callF g xs=>onCall e fun q l ks _=>ks.isEmpty&&(all2 (chkE f kd) l xs&&optB (fnName g t.fnN) fun n=>kAt kd n .globalImplicit&&onName q fun id _=>isW t id n)
  | .callC C xs=>onCall e fun q l ks _=>ks.isEmpty&&(all2 (chkE f kd) l xs&&(hasN t.cls C&&(kAt kd C .globalImplicit&&onName q fun id _=>isW t id C)))
  | .callB b y=>bltCall t kd (t.bl b) e fun a=>chkE f kd a y
  | .clsM C a xs=>hasN t.cls C&&(kAt kd C .globalImplicit&&onCall e fun q l ks r=>ks.isEmpty&&(all2 (chkE f kd) l xs&&(Nat.blt l.length 20&&onAttr q fun o m p=>isW t m a&&((p.endLine==r.line)&&onName o fun id _=>isW t id C))))
  | .meth y a xs=>onCall e fun q l ks r=>ks.isEmpty&&(all2 (chkE f kd) l xs&&(Nat.blt l.length 20&&onAttr q fun o m p=>isW t m a&&((p.endLine==r.line)&&(baseE o&&chkE f kd o y))))
  | .cmp y o z=>onCmp e fun a os bs=>on1 os fun op=>on1 bs fun b=>decide (op=coB o)&&(chkE f kd a y&&(chkE f kd b z&&!(behindInMarks op b)))
  | .not y=>onUn e fun o a=>decide (o=.Not)&&chkE f kd a y
  | .and xs=>onBop e fun o l=>decide (o=.And)&&all2 (chkE f kd) l xs
  | .or xs=>onBop e fun o l=>decide (o=.Or)&&all2 (chkE f kd) l xs
  | .ite y z w=>onIte e fun a b d=>chkE f kd a y&&(chkE f kd b z&&chkE f kd d w)
  | .bin y o z=>onBin e fun a op b=>decide (op=boB o)&&(chkE f kd a y&&chkE f kd b z)
  | .comp y gs=>onComp e fun el g sc=>match gs with
   | []=>false
   | q'::gs=>match g with
    | []=>false
    | q::g=>chkCo t kd (kdT t kCo sc.names) sc&&(chkE f (kdT t kCo sc.names) el y&&(chkQ t (chkE f kd) (chkE f (kdT t kCo sc.names)) kd (kdT t kCo sc.names) q q'&&chkGs t (chkE f (kdT t kCo sc.names)) (kdT t kCo sc.names) gs g))
  | .inVals y z=>onCmp e fun a os bs=>on1 os fun op=>on1 bs fun b=>decide (op=.In)&&(chkE f kd a y&&onCall b fun q l ks r=>ks.isEmpty&&(l.isEmpty&&onAttr q fun i m p=>isW t m t.values&&((p.endLine==r.line)&&(baseE i&&chkE f kd i z))))
  | .lstItems z=>bltCall t kd (t.bl .list) e fun b=>onCall b fun q l ks r=>ks.isEmpty&&(l.isEmpty&&onAttr q fun i m p=>isW t m t.items&&((p.endLine==r.line)&&(baseE i&&chkE f kd i z)))
end
noncomputable def BlOk (c:Cx) (n:Nat) (s:String) (v:Value):Prop:=c.wd n=Str.ofString s/\nsIn c.K mainGlobals (c.wd n)=some none/\bootBuiltins (c.wd n)=some v/\c.wd n ≠ "__name__"
structure TbOk (c:Cx) (t:Tb):Prop where
 wd:c.wd=wdOf t.words
 nw:c.nw=t.words.length
 cls:c.cls=t.cls
 fn:∀ n g,(n,g)∈t.fnN->nsIn c.K mainGlobals (c.wd n)=some (some (.ref (c.fnAt g)))/\fnIn c.K (c.fnAt g)=true
 cl:∀ C∈c.cls,nsIn c.K mainGlobals (c.wd C)=some (some (.ref (c.clAt C)))
 plain:∀ n∈t.plainN,Plain c n
 bl:∀ b,BlOk c (t.bl b) (bnName b) (bnVal b)
 range:BlOk c t.range "range" (.type "range")
 enum:BlOk c t.enum "enumerate" (.type "enumerate")
 values:c.wd t.values=Str.ofString "values"
 items:c.wd t.items=Str.ofString "items"
section
variable {c:Cx} {t:Tb}
theorem blt_ok {a b:Nat} (h:Nat.blt a b=true):a < b:=Nat.le_of_ble_eq_true h
theorem lk_mem {α:Type} {n:Nat} {v:α}:∀ {l:List (Nat×α)},lk l n=some v->(n,v)∈l:=by
 intro l
 induction l with
 | nil =>
  intro h
  exact nomatch h
 | cons _ _ ih =>
  intro h
  exact lk_in (F:=fun n v=>(n,v)∈_) h (.head _) fun _ h=>.tail _ (ih h)
theorem kAt_ok {kd:List (Nat×NameKind)} {n:Nat} {k:NameKind} (h:kAt kd n k=true):lk kd n=some k:=optBK h fun _ e h=>e.trans (congrArg some (of_decide_eq_true h))
theorem hasN_mem {n:Nat}:∀ {l:List Nat},hasN l n=true->n∈l
 | [],h=>nomatch h
 | a::l,h=>by
  have h:(match Nat.beq a n with | true=>true | false=>hasN l n)=true:=h
  cases q:Nat.beq a n with
  | true=>exact Nat.eq_of_beq_eq_true q▸.head _
  | false=>rw [q] at h; exact .tail _ (hasN_mem h)
theorem mem_hasN {n:Nat}:∀ {l:List Nat},n∈l->hasN l n=true:=by
 intro l
 induction l with
 | nil =>
  intro h
  exact nomatch h
 | cons a l ih =>
  intro h
  show (match Nat.beq a n with | true=>true | false=>hasN l n)=true
  cases q:Nat.beq a n with
  | true=>rfl
  | false=>exact (List.mem_cons.mp h).elim (fun e=>nomatch (e▸Nat.beq_refl n:Nat.beq a n=true).symm.trans q) ih
theorem nodupN_ok:∀ {l:List Nat},nodupN l=true->l.Nodup
 | [],_=>.nil
 | _::_,h=>andK h fun h1 h2=>List.nodup_cons.mpr ⟨fun z=>(nomatch (mem_hasN z).symm.trans (notK h1)),nodupN_ok h2⟩
theorem nodupS_ok:∀ {l:List Str},nodupS l=true->l.Nodup
 | [],_=>.nil
 | s::_,h=>andK h fun h1 h2=>List.nodup_cons.mpr ⟨fun z=>(nomatch (List.any_eq_true.mpr ⟨s,z,eqS_self s⟩).symm.trans (notK h1)),nodupS_ok h2⟩
theorem fnName_mem {g n:Nat}:∀ {l:List (Nat×Nat)},fnName g l=some n->(n,g)∈l:=by
 intro l
 induction l with
 | nil =>
  intro h
  exact nomatch h
 | cons jv l ih =>
  obtain ⟨a,b⟩:=jv
  intro h
  exact condK (show cond (Nat.beq b g) (some a) (fnName g l)=some n from h) (fun q h=>Option.some.inj h▸Nat.eq_of_beq_eq_true q▸.head _) fun _ h=>.tail _ (ih h)
section
variable (H:TbOk c t) {kd:List (Nat×NameKind)}
include H
theorem isWK {s:Str} {n:Nat} {Y:Str->Prop} (h:isW t s n=true) (k:n < c.nw->Y (c.wd n)):Y s:=andK h fun h1 h2=>eqS_ok h2▸H.wd▸k (H.nw▸blt_ok h1)
theorem nameK {e:Expr} {n:Nat} {Z:Expr->Prop} (h:(onName e fun id _=>isW t id n)=true) (k:∀ p,Z (.Name (c.wd n) p)):Z e:=onNameK h fun _ p h=>isWK H h (Y:=fun s=>Z (.Name s p)) fun _=>k p
theorem knameK {e:Expr} {n:Nat} {q:NameKind} {Z:Expr->Prop} (h:(kAt kd n q&&onName e fun id _=>isW t id n)=true) (k:∀ p,lk kd n=some q->Z (.Name (c.wd n) p)):Z e:=andK h fun h1 h2=>nameK H h2 fun p=>k p (kAt_ok h1)
theorem bltCallK {n:Nat} {e:Expr} {B:Expr->Bool} {Z:Expr->Prop} {s:String} {v:Value} (b:BlOk c n s v) (h:bltCall t kd n e B=true) (k:∀ p a q,BltName c (lk kd) n s v->B a=true->Z (.Call (.Name (c.wd n) p) [a] [] q)):Z e :=
 onCallK h fun g l ks q h=>andK h fun h1 h=>andK h fun h2 h=>andK h fun h3 h4=>nilK (Z:=fun ks=>Z (.Call g l ks q)) h1 (nameK H (Z:=fun g=>Z (.Call g l [] q)) h3 fun p=>on1K (Z:=fun l=>Z (.Call (.Name (c.wd n) p) l [] q)) h4 fun a h=>k p a q ⟨kAt_ok h2,b⟩ h)
theorem chkT_ok:∀ {f:Nat} {e:Expr} {x:T},chkT t kd f e x=true->TrT c (lk kd) e x
 | 0,_,_,h=>nomatch h
 | _+1,_,.loc _,h=>fun _ k=>knameK H h k
 | _+1,_,.cel _,h=>fun _ k=>knameK H h k
 | f+1,_,.tup _,h=>fun _ k=>onTupK h fun l n p h=>k l n p (all2K (r:=chkT t kd f) (Y:=TrTs c (lk kd)) rfl (fun _ _ _ _ h1 h2 _ k=>k _ _ (chkT_ok h1) h2) h)
omit H in
theorem chkFor_ok {e:Expr}:∀ {i:It},chkFor e i=true->TupFor e i
 | .of _,_=>trivial
 | .range _,_=>trivial
 | .enum _,h=>fun _ k=>onTupK h fun l n p _=>k l n p
omit H in
theorem chkEs_ok {kd:Kd} {r:Expr->X->Bool} (hr:∀ e x,r e x=true->TrE c kd e x) {l:List Expr} {xs:List X} (h:all2 r l xs=true):TrEs c kd l xs:=all2K (Y:=TrEs c kd) rfl (fun _ _ _ _ h1 h2 _ k=>k _ _ (hr _ _ h1) h2) h
theorem chkDs_ok {kd:Kd} {r:Expr->X->Bool} (hr:∀ e x,r e x=true->TrE c kd e x):∀ {xs:List (Nat×X)} {ks:List (Option Expr)} {vs:List Expr},chkDs t r xs ks vs=true->TrDs c kd ks vs xs
 | [],_,_,h=>andK h fun h1 h2=>⟨nilK (Z:=fun l=>l=[]) h1 rfl,nilK (Z:=fun l=>l=[]) h2 rfl⟩
 | (_,_)::_,[],_,h=>nomatch h
 | (_,_)::_,_::_,[],h=>nomatch h
 | (n,_)::_,_::ks,e::vs,h=>fun Z k=>andK h fun h1 h=>andK h fun h2 h3=>optK (Z:=fun o=>Z (o::ks) (e::vs)) h1 fun _ h1=>onCstK (Z:=fun q=>Z (some q::ks) (e::vs)) h1 fun _ kk p h1=>onStrK (Z:=fun q=>Z (some (.Constant q kk p)::ks) (e::vs)) h1 fun _ h1=>isWK H (Y:=fun s=>Z (some (.Constant (.str s) kk p)::ks) (e::vs)) h1 fun hn=>k kk p e ks vs hn (hr _ _ h2) (chkDs_ok hr h3)
theorem chkI_ok {r:Expr->X->Bool} (hr:∀ e x,r e x=true->TrE c (lk kd) e x) {e:Expr}:∀ {i:It},chkI t r kd e i=true->TrI c (lk kd) e i
 | .of _,h=>hr _ _ h
 | .range _,h=>fun Z k=>bltCallK H H.range h fun p a q hb h=>k _ p a q hb (hr _ _ h)
 | .enum _,h=>fun Z k=>bltCallK H H.enum h fun p a q hb h=>k _ p a q hb (hr _ _ h)
theorem chkQK {kd':List (Nat×NameKind)} {r r':Expr->X->Bool} (hr:∀ e x,r e x=true->TrE c (lk kd) e x) (hr':∀ e x,r' e x=true->TrE c (lk kd') e x) {t':T} {i':It} {l':List X} {Z:Comprehension->Prop}:∀ {q:Comprehension},chkQ t r r' kd kd' q (.mk t' i' l')=true ->
  (∀ e i l,TrT c (lk kd') e t'->locT t'=true->TupFor e i'->TrI c (lk kd) i i'->TrEs c (lk kd') l l'->Z ⟨e,i,l,0⟩)->Z q
 | ⟨e,i,l,a⟩,h,k=>andK h fun h1 h=>andK h fun h2 h=>andK h fun h3 h=>andK h fun h4 h=>andK h fun h5 h6=>eqK (Z:=fun a=>Z ⟨e,i,l,a⟩) h1 (k _ _ _ (chkT_ok H h2) h3 (chkFor_ok h4) (chkI_ok H hr h5) (chkEs_ok hr' h6))
theorem chkGs_ok {r:Expr->X->Bool} (hr:∀ e x,r e x=true->TrE c (lk kd) e x):∀ {gs:List Gn} {g:List Comprehension},chkGs t r kd gs g=true->TrGs c (lk kd) g gs
 | [],_,h=>nilK (Z:=fun l=>l=[]) h rfl
 | _::_,[],h=>nomatch h
 | .mk _ _ _::_,q::g,h=>fun Z k=>andK h fun h1 h2=>chkQK H hr hr (Z:=fun q=>Z (q::g)) h1 fun _ _ _ a b d e f=>k _ _ _ _ a b d e f (chkGs_ok hr h2)
theorem chkCo_ok {kd':List (Nat×NameKind)} {sc:Scope} (h:chkCo t kd kd' sc=true):CompKd c (lk kd) (lk kd') sc:=andK h fun h h5=>andK h fun h h4=>andK h fun h h3=>andK h fun h1 h2 =>
 ⟨of_decide_eq_true h1,fun x k e=>andK (allK h4 (lk_mem e:(x,k)∈kd')) fun b q=>⟨H.nw▸blt_ok b,optBK q fun k' e' q=>by
   have e':sc.names.lookup (c.wd x)=some k':=by rw [H.wd,← lookS_ok]; exact e'
   exact orK q (fun q=>andK q fun q1 q2=>.inl ⟨of_decide_eq_true q1,of_decide_eq_true q2▸e'⟩) fun q=>orK q (fun q=>andK q fun q1 q=>andK q fun q2 q3=>.inr (.inl ⟨of_decide_eq_true q1,of_decide_eq_true q2▸e',kAt_ok q3⟩)) fun q=>andK q fun q1 q2=>.inr (.inr ⟨of_decide_eq_true q1,of_decide_eq_true q2▸e'⟩)⟩,
  fun y m=>orK (allK h2 m) (fun q=>.inl (of_decide_eq_true q)) fun q=>orK q (fun q=>.inr (.inl (of_decide_eq_true q))) fun q=>.inr (.inr (of_decide_eq_true q)),nodupS_ok h3,
  fun y m e=>orK (allK h5 m) (fun q=>absurd e (of_decide_eq_false (notK q))) fun q=>optBK q fun n _ q=>andK q fun q1 q=>andK q fun q2 q3=>⟨n,H.wd▸eqS_ok q1,kAt_ok q2,kAt_ok q3⟩⟩
omit H in
theorem baseE_ok {e:Expr} (h:baseE e=true):PlainB e:=by
 cases e <;> first | exact (Bool.false_ne_true h).elim | exact fun _ _ _=>rfl
theorem chkC_ok {kd:Kd} {e:Expr}:∀ {v:AV},chkC t e v=true->TrE c kd e (.cst v)
 | .none,h=>fun Z k=>onCstK h fun _ n p h=>eqK (Z:=fun a=>Z (.Constant a n p)) h (k n p)
 | .bool _,h=>fun Z k=>onCstK h fun _ n p h=>eqK (Z:=fun a=>Z (.Constant a n p)) h (k n p)
 | .int i,h=>fun Z k k'=>orK h (fun h=>onCstK h fun _ n p h=>eqK (Z:=fun a=>Z (.Constant a n p)) h (k n p)) fun h=>onUnK h fun o a q h=>andK h fun h1 h2=>eqK (Z:=fun o=>Z (.UnaryOp o a q)) h1 (onCstK (Z:=fun a=>Z (.UnaryOp .USub a q)) h2 fun _ n p h=>eqK (Z:=fun a=>Z (.UnaryOp .USub (.Constant a n p) q)) h (k' _ n p q (Int.neg_neg i).symm))
 | .str _,h=>fun Z k=>onCstK h fun _ n p h=>onStrK (Z:=fun a=>Z (.Constant a n p)) h fun _ h=>isWK H (Y:=fun s=>Z (.Constant (.str s) n p)) h (k n p)
end
end
end Mine.Internal
namespace Mine.Internal
open PySem PySem.W PySem.Calls PyProof.Rows
section
variable {c:Cx} {t:Tb} (H:TbOk c t)
include H
theorem chkE_ok:∀ {f:Nat} {kd:List (Nat×NameKind)} {e:Expr} {x:X},chkE t f kd e x=true->TrE c (lk kd) e x
 | 0,_,_,_,h=>nomatch h
 | f+1,kd,e,x,h =>
  have IH:∀ {kd} e x,chkE t f kd e x=true->TrE c (lk kd) e x:=fun _ _ h=>chkE_ok h
  match x,h with
  | .cst _,h=>chkC_ok H h
  | .loc _,h=>fun _ k=>knameK H h k
  | .cel _,h=>fun _ k=>knameK H h k
  | .glb _,h=>fun _ k=>knameK H h k
  | .attr _ n,h=>fun Z k=>andK h fun h1 h=>onAttrK h fun e a p h=>andK h fun h2 h=>andK h fun h3 h4=>isWK H (Y:=fun a=>Z (.Attribute e a p)) h4 fun _=>k e p (IH _ _ h3) (baseE_ok h2) (H.plain _ (hasN_mem h1))
  | .sub _ _,h=>fun _ k=>onSubK h fun e i p h=>andK h fun h1 h2=>k e i p (IH _ _ h1) (IH _ _ h2)
  | .slf _ _,h=>fun Z k=>onSubK h fun e s p h=>andK h fun h1 h=>onSliceK (Z:=fun s=>Z (.Subscript e s p)) h fun a b d q h=>andK h fun h2 h=>andK h fun h3 h=>noneK (Z:=fun b=>Z (.Subscript e (.Slice a b d q) p)) h2 (noneK (Z:=fun d=>Z (.Subscript e (.Slice a none d q) p)) h3 (optK (Z:=fun a=>Z (.Subscript e (.Slice a none none q) p)) h fun i h=>k e i p q (IH _ _ h1) (IH _ _ h)))
  | .slt _ _,h=>fun Z k=>onSubK h fun e s p h=>andK h fun h1 h=>onSliceK (Z:=fun s=>Z (.Subscript e s p)) h fun a b d q h=>andK h fun h2 h=>andK h fun h3 h=>noneK (Z:=fun a=>Z (.Subscript e (.Slice a b d q) p)) h2 (noneK (Z:=fun d=>Z (.Subscript e (.Slice none b d q) p)) h3 (optK (Z:=fun b=>Z (.Subscript e (.Slice none b none q) p)) h fun i h=>k e i p q (IH _ _ h1) (IH _ _ h)))
  | .tup _,h=>fun _ k=>onTupK h fun l n p h=>andK h fun h1 h2=>k l n p (chkEs_ok IH h1) h2
  | .lst _,h=>fun _ k=>onLstK h fun l p h=>andK h fun h1 h2=>k l p (chkEs_ok IH h1) h2
  | .dicN _,h=>fun _ k=>onDictK h fun ks vs p h=>andK h fun h1 h=>andK h fun h2 h3=>k ks vs p (chkDs_ok H IH h1) h2 (nodupN_ok h3)
  | .dicF _,h=>fun _ k=>onDictK h fun ks vs p h=>andK h fun h1 h=>andK h fun h2 h3=>k ks vs p (chkDs_ok H IH h1) h2 (nodupN_ok h3)
  | .callF g _,h=>fun Z k=>onCallK h fun q l ks r h=>andK h fun h1 h=>andK h fun h2 h=>optBK h fun n e h=>nilK (Z:=fun ks=>Z (.Call q l ks r)) h1 (knameK H (Z:=fun q=>Z (.Call q l [] r)) h fun p hk=>have m:=H.fn n g (fnName_mem e); k n p l r hk m.1 m.2 (chkEs_ok IH h2))
  | .callC C _,h=>fun Z k=>onCallK h fun q l ks r h=>andK h fun h1 h=>andK h fun h2 h=>andK h fun h3 h=>nilK (Z:=fun ks=>Z (.Call q l ks r)) h1 (knameK H (Z:=fun q=>Z (.Call q l [] r)) h fun p hk=>have m:=H.cls▸hasN_mem h3; k C p l r hk (H.cl C m) m (chkEs_ok IH h2))
  | .callB b _,h=>fun _ k=>bltCallK H (H.bl b) h fun p a q hb h=>k _ p a q hb (IH _ _ h)
  | .clsM C a _,h=>fun Z k=>andK h fun h1 h=>andK h fun h2 h=>onCallK h fun q l ks r h=>andK h fun h3 h=>andK h fun h4 h=>andK h fun h5 h=>nilK (Z:=fun ks=>Z (.Call q l ks r)) h3 (onAttrK (Z:=fun q=>Z (.Call q l [] r)) h fun o m p h=>andK h fun h6 h=>andK h fun h7 h=>isWK H (Y:=fun m=>Z (.Call (.Attribute o m p) l [] r)) h6 fun ha =>
    nameK H (Z:=fun o=>Z (.Call (.Attribute o (c.wd a) p) l [] r)) h fun p'=>have m:=H.cls▸hasN_mem h1; k C p' l p r (kAt_ok h2) (H.cl C m) m ha h7 (blt_ok h5) (chkEs_ok IH h4))
  | .meth _ a _,h=>fun Z k=>onCallK h fun q l ks r h=>andK h fun h3 h=>andK h fun h4 h=>andK h fun h5 h=>nilK (Z:=fun ks=>Z (.Call q l ks r)) h3 (onAttrK (Z:=fun q=>Z (.Call q l [] r)) h fun o m p h=>andK h fun h6 h=>andK h fun h7 h=>andK h fun h8 h=>isWK H (Y:=fun m=>Z (.Call (.Attribute o m p) l [] r)) h6 fun ha=>k o l p r (IH _ _ h) (baseE_ok h8) ha h7 (blt_ok h5) (chkEs_ok IH h4))
  | .cmp _ o _,h=>fun Z k=>onCmpK h fun a os bs p h=>on1K (Z:=fun os=>Z (.Compare a os bs p)) h fun op h=>on1K (Z:=fun bs=>Z (.Compare a [op] bs p)) h fun b h=>andK h fun h1 h=>andK h fun h2 h=>andK h fun h3 h4=>k a op b p (eqK (Z:=fun op=>coOf op=some o) h1 (by cases o <;> rfl)) (IH _ _ h2) (IH _ _ h3) (notK h4)
  | .not _,h=>fun Z k=>onUnK h fun o a p h=>andK h fun h1 h2=>eqK (Z:=fun o=>Z (.UnaryOp o a p)) h1 (k a p (IH _ _ h2))
  | .and _,h=>fun Z k=>onBopK h fun o l p h=>andK h fun h1 h2=>eqK (Z:=fun o=>Z (.BoolOp o l p)) h1 (k l p (chkEs_ok IH h2))
  | .or _,h=>fun Z k=>onBopK h fun o l p h=>andK h fun h1 h2=>eqK (Z:=fun o=>Z (.BoolOp o l p)) h1 (k l p (chkEs_ok IH h2))
  | .ite _ _ _,h=>fun _ k=>onIteK h fun a b d p h=>andK h fun h1 h=>andK h fun h2 h3=>k a b d p (IH _ _ h1) (IH _ _ h2) (IH _ _ h3)
  | .bin _ o _,h=>fun Z k=>onBinK h fun a op b p h=>andK h fun h1 h=>andK h fun h2 h3=>k a op b p (eqK (Z:=fun op=>opOf op=some o) h1 (by cases o <;> rfl)) (IH _ _ h2) (IH _ _ h3)
  | .comp _ [],h=>onCompK (Z:=fun _=>False) h fun _ _ _ _ h=>nomatch h
  | .comp _ (.mk t' i' l'::gs),h=>fun Z k=>onCompK h fun el g sc p h=>match g,h with
   | [],h=>nomatch h
   | q::g,h=>andK h fun h1 h=>andK h fun h2 h=>andK h fun h3 h4=>chkQK H IH IH (Z:=fun q=>Z (.ListComp el (q::g) sc p)) h3 fun e i l a b d e' f'=>k (lk (kdT t kCo sc.names)) el e i l g sc p (chkCo_ok H h1) (IH _ _ h2) a b d e' f' (chkGs_ok H IH h4)
  | .inVals _ _,h=>fun Z k=>onCmpK h fun a os bs p h=>on1K (Z:=fun os=>Z (.Compare a os bs p)) h fun op h=>on1K (Z:=fun bs=>Z (.Compare a [op] bs p)) h fun b h=>andK h fun h1 h=>andK h fun h2 h=>eqK (Z:=fun op=>Z (.Compare a [op] [b] p)) h1 (onCallK (Z:=fun b=>Z (.Compare a [.In] [b] p)) h fun q l ks r h=>andK h fun h3 h=>andK h fun h4 h =>
    nilK (Z:=fun ks=>Z (.Compare a [.In] [.Call q l ks r] p)) h3 (nilK (Z:=fun l=>Z (.Compare a [.In] [.Call q l [] r] p)) h4 (onAttrK (Z:=fun q=>Z (.Compare a [.In] [.Call q [] [] r] p)) h fun i m q h=>andK h fun h5 h=>andK h fun h6 h=>andK h fun h7 h=>isWK H (Y:=fun m=>Z (.Compare a [.In] [.Call (.Attribute i m q) [] [] r] p)) h5 fun _=>k a i _ q r p (IH _ _ h2) (IH _ _ h) (baseE_ok h7) H.values h6)))
  | .lstItems _,h=>fun Z k=>bltCallK H (H.bl .list) h fun p b p' hb h=>onCallK (Z:=fun b=>Z (.Call (.Name (c.wd (t.bl .list)) p) [b] [] p')) h fun q l ks r h=>andK h fun h3 h=>andK h fun h4 h =>
    nilK (Z:=fun ks=>Z (.Call (.Name (c.wd (t.bl .list)) p) [.Call q l ks r] [] p')) h3 (nilK (Z:=fun l=>Z (.Call (.Name (c.wd (t.bl .list)) p) [.Call q l [] r] [] p')) h4 (onAttrK (Z:=fun q=>Z (.Call (.Name (c.wd (t.bl .list)) p) [.Call q [] [] r] [] p')) h fun i m q h=>andK h fun h5 h=>andK h fun h6 h=>andK h fun h7 h=>isWK H (Y:=fun m=>Z (.Call (.Name (c.wd (t.bl .list)) p) [.Call (.Attribute i m q) [] [] r] [] p')) h5 fun _=>k _ _ i q r p p' hb (IH _ _ h) (baseE_ok h7) H.items h6))
end
end Mine.Internal
namespace Mine.Internal
open PySem PySem.W PySem.Calls PyProof.Rows
section
variable (t:Tb)
noncomputable def chkNms (line:Nat):List Nat->List Expr->Bool
 | [],l=>l.isEmpty
 | n::ns,l=>match l with
  | []=>false
  | e::l=>onName e (fun id p=>isW t id n&&(p.line==line))&&chkNms line ns l
noncomputable def chkSwap (l vs:List Expr) (ns:List Nat):Bool :=
 (l.length==2||l.length==3)&&(!(vs.length != l.length)&&(!(vs.any isStar)&&(chkNms t ((l.head?.map (·.pos.line)).getD 0) ns l&&(!((ns.map (wdOf t.words)).eraseDups.length != (ns.map (wdOf t.words)).length)&&(!(vs.all (foldedForSure 8))&&!(vs.all (constantsAlone 8)))))))
noncomputable def chkS:Nat->List (Nat×NameKind)->Stmt->S->Bool
 | 0,_,_,_=>false
 | f+1,kd,s,x=>match x with
  | .asg n x=>kAt kd n .local&&onAsg s fun l e=>on1 l fun q=>onName q (fun id _=>isW t id n)&&chkE t 30 kd e x
  | .asgC n x=>kAt kd n .cell&&(!(isComp x)&&onAsg s fun l e=>on1 l fun q=>onName q (fun id _=>isW t id n)&&chkE t 30 kd e x)
  | .asgA y n x=>hasN t.plainN n&&(!(isComp x)&&onAsg s fun l e=>on1 l fun q=>onAttr q fun o a _=>isW t a n&&(chkE t 30 kd o y&&chkE t 30 kd e x))
  | .asgS y z x=>!(isComp x)&&onAsg s fun l e=>on1 l fun q=>onSub q fun o i=>chkE t 30 kd o y&&(chkE t 30 kd i z&&chkE t 30 kd e x)
  | .asgT ts x=>!(isComp x)&&onAsg s fun l e=>on1 l fun q=>onTup q fun l=>notTup e&&(all2 (chkT t kd 9) l ts&&chkE t 30 kd e x)
  | .asgW ns x=>!(isComp x)&&(ns.all (fun n=>kAt kd n .local)&&onAsg s fun l e=>on1 l fun q=>onTup q fun l=>onTup e (fun vs=>chkSwap t l vs ns.reverse)&&chkE t 30 kd e x)
  | .expr x=>!(isComp x)&&onExpr s fun e=>chkE t 30 kd e x
  | .ret x=>onRet s fun o=>optB o fun e=>chkE t 30 kd e x
  | .ret0=>onRet s fun o=>o.isNone
  | .pass=>onPass s
  | .brk=>onBrk s
  | .cont=>onCont s
  | .ite y a b=>onIf s fun e l m=>chkE t 30 kd e y&&(all2 (chkS f kd) l a&&all2 (chkS f kd) m b)
  | .for_ t' i' a=>onFor s fun tt i l m=>m.isEmpty&&(chkT t kd 9 tt t'&&(chkFor tt i'&&(chkI t (chkE t 30 kd) kd i i'&&all2 (chkS f kd) l a)))
  | .while_ y=>onWhile s fun e _ m=>m.isEmpty&&chkE t 30 kd e y
end
section
variable {c:Cx} {t:Tb} (H:TbOk c t)
include H
theorem chkNms_ok {line:Nat}:∀ {ns:List Nat} {l:List Expr},chkNms t line ns l=true->NmsAt c.wd line l ns
 | [],_,h=>nilK (Z:=fun l=>l=[]) h rfl
 | _::_,[],h=>nomatch h
 | _::_,e::l,h=>fun Z k=>andK h fun h1 h2=>onNameK (Z:=fun e=>Z (e::l)) h1 fun _ p h=>andK h fun h3 h4=>isWK H (Y:=fun s=>Z (.Name s p::l)) h3 fun _=>k p l h4 (chkNms_ok h2)
theorem chkSwap_ok {l vs:List Expr} {ns:List Nat} (h:chkSwap t l vs ns=true):SwapOk c.wd l vs ns :=
 andK h fun h1 h=>andK h fun h2 h=>andK h fun h3 h=>andK h fun h4 h=>andK h fun h5 h=>andK h fun h6 h7=>⟨h1,notK h2,notK h3,chkNms_ok H h4,H.wd▸notK h5,notK h6,notK h7⟩
theorem chkS_ok:∀ {f:Nat} {kd:List (Nat×NameKind)} {s:Stmt} {x:S},chkS t f kd s x=true->TrS c (lk kd) s x
 | 0,_,_,_,h=>nomatch h
 | f+1,kd,s,x,h =>
  have IH:∀ {l:List Stmt} {m:List S},all2 (chkS t f kd) l m=true->TrSs c (lk kd) l m:=fun h=>all2K (Y:=TrSs c (lk kd)) rfl (fun _ _ _ _ h1 h2 _ k=>k _ _ (chkS_ok h1) h2) h
  match x,h with
  | .asg n _,h=>fun Z k=>andK h fun h1 h=>onAsgK h fun l e q h=>on1K (Z:=fun l=>Z (.Assign l e q)) h fun g h=>andK h fun h2 h3=>nameK H (Z:=fun g=>Z (.Assign [g] e q)) h2 fun p=>k e p q (kAt_ok h1) (chkE_ok H h3)
  | .asgC n _,h=>fun Z k=>andK h fun h1 h=>andK h fun hc h=>onAsgK h fun l e q h=>on1K (Z:=fun l=>Z (.Assign l e q)) h fun g h=>andK h fun h2 h3=>nameK H (Z:=fun g=>Z (.Assign [g] e q)) h2 fun p=>k e p q (kAt_ok h1) (notK hc) (chkE_ok H h3)
  | .asgA _ n _,h=>fun Z k=>andK h fun h1 h=>andK h fun hc h=>onAsgK h fun l e q h=>on1K (Z:=fun l=>Z (.Assign l e q)) h fun g h=>onAttrK (Z:=fun g=>Z (.Assign [g] e q)) h fun o a p h=>andK h fun h2 h=>andK h fun h3 h4=>isWK H (Y:=fun a=>Z (.Assign [.Attribute o a p] e q)) h2 fun _=>k o e p q (H.plain _ (hasN_mem h1)) (notK hc) (chkE_ok H h3) (chkE_ok H h4)
  | .asgS _ _ _,h=>fun Z k=>andK h fun hc h=>onAsgK h fun l e q h=>on1K (Z:=fun l=>Z (.Assign l e q)) h fun g h=>onSubK (Z:=fun g=>Z (.Assign [g] e q)) h fun o i p h=>andK h fun h2 h=>andK h fun h3 h4=>k o i e p q (notK hc) (chkE_ok H h2) (chkE_ok H h3) (chkE_ok H h4)
  | .asgT _ _,h=>fun Z k=>andK h fun hc h=>onAsgK h fun l e q h=>on1K (Z:=fun l=>Z (.Assign l e q)) h fun g h=>onTupK (Z:=fun g=>Z (.Assign [g] e q)) h fun l n p h=>andK h fun h2 h=>andK h fun h3 h4=>k l e n p q h2 (notK hc) (all2K (r:=chkT t kd 9) (Y:=TrTs c (lk kd)) rfl (fun _ _ _ _ h1 h2 _ k=>k _ _ (chkT_ok H h1) h2) h3) (chkE_ok H h4)
  | .asgW _ _,h=>fun Z k=>andK h fun hc h=>andK h fun hk h=>onAsgK h fun l e q h=>on1K (Z:=fun l=>Z (.Assign l e q)) h fun g h=>onTupK (Z:=fun g=>Z (.Assign [g] e q)) h fun l n p h=>andK h fun h2 h3=>onTupK (Z:=fun e=>TrE c (lk kd) e _->Z (.Assign [.Tuple l n p] e q)) h2 (fun vs n' p' h he=>k l vs n p n' p' q (chkSwap_ok H h) (fun n hn=>kAt_ok (allK hk hn)) (notK hc) he) (chkE_ok H h3)
  | .expr _,h=>fun _ k=>andK h fun hc h=>onExprK h fun e q h=>k e q (notK hc) (chkE_ok H h)
  | .ret _,h=>fun Z k=>onRetK h fun o q h=>optK (Z:=fun o=>Z (.Return o q)) h fun e h=>k e q (chkE_ok H h)
  | .ret0,h=>fun Z k=>onRetK h fun o q h=>noneK (Z:=fun o=>Z (.Return o q)) h (k q)
  | .pass,h=>fun _ k=>onPassK h k
  | .brk,h=>fun _ k=>onBrkK h k
  | .cont,h=>fun _ k=>onContK h k
  | .ite _ _ _,h=>fun _ k=>onIfK h fun e l m q h=>andK h fun h1 h=>andK h fun h2 h3=>k e l m q (chkE_ok H h1) (IH h2) (IH h3)
  | .for_ _ _ _,h=>fun Z k=>onForK h fun tt i l m q h=>andK h fun h1 h=>andK h fun h2 h=>andK h fun h3 h=>andK h fun h4 h5=>nilK (Z:=fun m=>Z (.For tt i l m q)) h1 (k tt i l q (chkT_ok H h2) (chkFor_ok h3) (chkI_ok H (fun _ _=>chkE_ok H) h4) (IH h5))
  | .while_ _,h=>fun Z k=>onWhileK h fun e l m q h=>andK h fun h1 h2=>nilK (Z:=fun m=>Z (.While e l m q)) h1 (k e l q (chkE_ok H h2))
end
theorem zip_lookup_some:∀ {ns:List Str} {vs:List Value},ns.length=vs.length->∀ n∈ns,((ns.zip vs).lookup n).isNone=false
 | [],_,_,_,h=>nomatch h
 | _::_,[],h,_,_=>nomatch h
 | m::ns,v::vs,h,n,hn=>by
  rw [List.zip_cons_cons,List.lookup_cons]
  cases q:n==m with
  | true=>rfl
  | false=>exact zip_lookup_some (Nat.succ.inj h) n ((List.mem_cons.mp hn).elim (fun e=>absurd e (beq_eq_false_iff_ne.mp q)) id)
theorem zip_skip {m:Str} {v:Value} {z:List (Str×Value)}:∀ {l:List Str},(∀ n∈l,n≠m)->(l.filterMap fun n=>(((m,v)::z).lookup n).map (n,·))=l.filterMap fun n=>(z.lookup n).map (n,·):=by
 intro l
 induction l with
 | nil =>
  intro _
  exact rfl
 | cons n l ih =>
  intro h
  exact by rw [List.filterMap_cons,List.filterMap_cons,List.lookup_cons,beq_eq_false_iff_ne.mpr (h n (.head _)),ih fun x hx=>h x (.tail _ hx)]
theorem zip_filterMap:∀ {ns:List Str} {vs:List Value},ns.Nodup->ns.length=vs.length->(ns.filterMap fun n=>((ns.zip vs).lookup n).map (n,·))=ns.zip vs
 | [],_,_,_=>rfl
 | _::_,[],_,h=>nomatch h
 | m::ns,v::vs,hn,h=>by
  have hn:=List.nodup_cons.mp hn
  rw [List.zip_cons_cons,List.filterMap_cons,List.lookup_cons,beq_self_eq_true]
  exact congrArg ((m,v)::·) ((zip_skip (m:=m) fun n hn' (e:n=m)=>hn.1 (e▸hn')).trans (zip_filterMap hn.2 (Nat.succ.inj h)))
theorem bind_plain {fd:FuncData} {as:List Arg} {kd:List (Option Expr)} {ds:List Expr} (hp:fd.params=⟨[],as,none,[],kd,none,ds⟩) (hd:fd.defaults=.none) (hn:(as.map (·.arg)).Nodup) {vals:List Value} (hl:vals.length=as.length) :
  bindArgs fd ⟨vals,[]⟩=pure ((as.map (·.arg)).zip vals):=by
 have hz:(as.map (·.arg)).length=vals.length:=(List.length_map ..).trans hl.symm
 have hmiss:((as.map (·.arg)).take ((as.map (·.arg)).length - 0)).filter (fun n=>(((as.map (·.arg)).zip vals).lookup n).isNone)=[] :=
  List.filter_eq_nil_iff.mpr fun n hn'=>ntr (zip_lookup_some hz n (List.mem_of_mem_take hn'))
 have hfm:=zip_filterMap hn hz
 have c1:(decide (vals.length > (as.map (·.arg)).length)&&true)=false:=by rw [hz,decide_eq_false (Nat.lt_irrefl _)]; rfl
 obtain ⟨_,_,_,_,_,_,_,_,_,_,_,_,_,_⟩:=fd
 cases hp
 cases hd
 show (if (decide (vals.length > (as.map (·.arg)).length)&&true)=true then _ else _)=_
 refine (if_neg (ntr c1)).trans ?_
 have d0:((none:Option (Array Value)).getD #[]).toList=[]:=rfl
 simp only [d0,List.drop_nil]
 show (if (!(((as.map (·.arg)).take ((as.map (·.arg)).length - 0)).filter (fun n=>(((as.map (·.arg)).zip vals).lookup n).isNone)).isEmpty)=true then _ else _)=_
 refine (if_neg (by rw [hmiss]; exact Bool.false_ne_true)).trans ?_
 simp only [List.zip_nil_right]
 show (pure (List.filterMap (fun n=>(((as.map fun a:Arg=>a.arg).zip vals).lookup n).map (n,·)) ((as.map fun a:Arg=>a.arg)++[])):Sem (List (Str×Value)))=_
 rw [List.append_nil,hfm]
end Mine.Internal
namespace Mine.Internal
open PySem PySem.W PySem.Calls PyProof.Rows
noncomputable def onInt (e:Value) (B:Int->Bool):Bool:=onIx e.ctorIdx 4 fun q=>Value.int.elim (motive:=fun _=>Bool) e q fun i t=>B i
theorem onIntK {e:Value} {B:Int->Bool} {Z:Value->Prop} (h:onInt e B=true) (k:∀ i t,B i=true->Z (.int i t)):Z e:=onIxK h fun q=>Value.int.elim (motive:=fun e=>∀ q,Value.int.elim (motive:=fun _=>Bool) e q (fun i t=>B i)=true->Z e) e q (fun i t _ h=>k i t h) q
noncomputable def onVStr (e:Value) (B:Str->Bool):Bool:=onIx e.ctorIdx 6 fun q=>Value.str.elim (motive:=fun _=>Bool) e q fun s t=>B s
theorem onVStrK {e:Value} {B:Str->Bool} {Z:Value->Prop} (h:onVStr e B=true) (k:∀ s t,B s=true->Z (.str s t)):Z e:=onIxK h fun q=>Value.str.elim (motive:=fun e=>∀ q,Value.str.elim (motive:=fun _=>Bool) e q (fun s t=>B s)=true->Z e) e q (fun s t _ h=>k s t h) q
noncomputable def onType (e:Value) (B:String->Bool):Bool:=onIx e.ctorIdx 8 fun q=>Value.type.elim (motive:=fun _=>Bool) e q fun s=>B s
theorem onTypeK {e:Value} {B:String->Bool} {Z:Value->Prop} (h:onType e B=true) (k:∀ s,B s=true->Z (.type s)):Z e:=onIxK h fun q=>Value.type.elim (motive:=fun e=>∀ q,Value.type.elim (motive:=fun _=>Bool) e q (fun s=>B s)=true->Z e) e q (fun s _ h=>k s h) q
noncomputable def onBlt (e:Value) (B:String->Bool):Bool:=onIx e.ctorIdx 9 fun q=>Value.builtin.elim (motive:=fun _=>Bool) e q fun s=>B s
theorem onBltK {e:Value} {B:String->Bool} {Z:Value->Prop} (h:onBlt e B=true) (k:∀ s,B s=true->Z (.builtin s)):Z e:=onIxK h fun q=>Value.builtin.elim (motive:=fun e=>∀ q,Value.builtin.elim (motive:=fun _=>Bool) e q (fun s=>B s)=true->Z e) e q (fun s _ h=>k s h) q
noncomputable def onRef (e:Value) (B:Addr->Bool):Bool:=onIx e.ctorIdx 10 fun q=>Value.ref.elim (motive:=fun _=>Bool) e q fun a=>B a
theorem onRefK {e:Value} {B:Addr->Bool} {Z:Value->Prop} (h:onRef e B=true) (k:∀ a,B a=true->Z (.ref a)):Z e:=onIxK h fun q=>Value.ref.elim (motive:=fun e=>∀ q,Value.ref.elim (motive:=fun _=>Bool) e q (fun a=>B a)=true->Z e) e q (fun a _ h=>k a h) q
noncomputable def onSeq (e:Data) (B:Array Value->Bool):Bool:=onIx e.ctorIdx 2 fun q=>Data.seq.elim (motive:=fun _=>Bool) e q fun vs n=>B vs
theorem onSeqK {e:Data} {B:Array Value->Bool} {Z:Data->Prop} (h:onSeq e B=true) (k:∀ vs n,B vs=true->Z (.seq vs n)):Z e:=onIxK h fun q=>Data.seq.elim (motive:=fun e=>∀ q,Data.seq.elim (motive:=fun _=>Bool) e q (fun vs n=>B vs)=true->Z e) e q (fun vs n _ h=>k vs n h) q
noncomputable def onFunc (e:Data) (B:FuncData->Bool):Bool:=onIx e.ctorIdx 7 fun q=>Data.func.elim (motive:=fun _=>Bool) e q fun fd=>B fd
theorem onFuncK {e:Data} {B:FuncData->Bool} {Z:Data->Prop} (h:onFunc e B=true) (k:∀ fd,B fd=true->Z (.func fd)):Z e:=onIxK h fun q=>Data.func.elim (motive:=fun e=>∀ q,Data.func.elim (motive:=fun _=>Bool) e q (fun fd=>B fd)=true->Z e) e q (fun fd _ h=>k fd h) q
noncomputable def onFields (e:Data) (B:Array Value->Bool):Bool:=onIx e.ctorIdx 9 fun q=>Data.fields.elim (motive:=fun _=>Bool) e q fun vs=>B vs
theorem onFieldsK {e:Data} {B:Array Value->Bool} {Z:Data->Prop} (h:onFields e B=true) (k:∀ vs,B vs=true->Z (.fields vs)):Z e:=onIxK h fun q=>Data.fields.elim (motive:=fun e=>∀ q,Data.fields.elim (motive:=fun _=>Bool) e q (fun vs=>B vs)=true->Z e) e q (fun vs _ h=>k vs h) q
noncomputable def onStmts (e:FuncBody) (B:List Stmt->Bool):Bool:=onIx e.ctorIdx 0 fun q=>FuncBody.stmts.elim (motive:=fun _=>Bool) e q fun l=>B l
theorem onStmtsK {e:FuncBody} {B:List Stmt->Bool} {Z:FuncBody->Prop} (h:onStmts e B=true) (k:∀ l,B l=true->Z (.stmts l)):Z e:=onIxK h fun q=>FuncBody.stmts.elim (motive:=fun e=>∀ q,FuncBody.stmts.elim (motive:=fun _=>Bool) e q (fun l=>B l)=true->Z e) e q (fun l _ h=>k l h) q
noncomputable def codeIn (K:Frag) (cd:Value) (q:Str):Bool:=onRef cd fun a=>optB (K.lookup a) fun o=>onFields o.data fun vs=>optB vs.toList[1]? fun v=>onVStr v fun s=>eqS s q
theorem codeIn_ok {K:Frag} {cd:Value} {q:Str} {h:Heap} (X:K.In h) (e:codeIn K cd q=true):h.CodeRec cd q :=
 onRefK (Z:=fun cd=>h.CodeRec cd q) e fun a e=>optBK e fun o ho e=>onFieldsK (Z:=fun d=>o.data=d->h.CodeRec (.ref a) q) e (fun vs e hd=>optBK e fun v h1 e=>onVStrK (Z:=fun v=>vs.toList[1]?=some v->h.CodeRec (.ref a) q) e (fun s t e h1=>⟨_,o,vs,t,rfl,X _ _ ho,hd,by rw [← Array.getElem?_toList,h1,← eqS_ok e]⟩) h1) rfl
section
variable (t:Tb) (K:Frag)
noncomputable def chkPs (p:Arguments) (ps:List (Nat×Bool)):Bool:=p.posonlyargs.isEmpty&&(p.vararg.isNone&&(p.kwonlyargs.isEmpty&&(p.kwarg.isNone&&(all2 (fun (a:Arg) p=>eqS a.arg (wdOf t.words p.1)) p.args ps&&nodupS (p.args.map (·.arg))))))
noncomputable def chkFd (fd:FuncData) (F:Fn):Bool :=
 onStmts fd.body (fun body=>all2 (chkS t 12 (kdT t kFn fd.scope.names)) body F.body)&&(fd.closure.isEmpty&&(Nat.beq fd.globals mainGlobals&&(Nat.beq fd.builtins builtinsNs&&(codeIn K fd.code fd.qualname&&(!fd.scope.isCoroutine&&(!fd.scope.isGenerator&&(decide (fd.scope.kind=.function) &&
  (decide (fd.defaults=.none)&&(chkPs t fd.params F.params &&
  (((kdT t kFn fd.scope.names).all fun p=>Nat.blt p.1 t.words.length&&optB (lookS (wdOf t.words p.1) fd.scope.names) fun k=>decide (k=p.2)) &&
  (F.params.all (fun p=>kAt (kdT t kFn fd.scope.names) p.1 (if p.2 then .cell else .local))&&nodupS ((cellsFrom 0 fd.scope.names []).map (·.1)))))))))))))
noncomputable def chkFn (a:Addr) (F:Fn):Bool:=optB (K.lookup a) fun o=>onFunc o.data fun fd=>chkFd t K fd F
end
theorem chkFn_ok {c:Cx} {t:Tb} (H:TbOk c t) (X:c.K.In c.B) {g:Nat} {F:Fn} (h:chkFn t c.K (c.fnAt g) F=true):FnOk c g F :=
 optBK h fun o ho h=>onFuncK (Z:=fun d=>o.data=d->FnOk c g F) h (fun fd h hfd=>andK h fun h1 h=>andK h fun h2 h=>andK h fun h3 h=>andK h fun h4 h=>andK h fun h5 h=>andK h fun h6 h=>andK h fun h7 h=>andK h fun h8 h=>andK h fun h9 h=>andK h fun hp h=>andK h fun h10 h=>andK h fun h11 h12 =>
  onStmtsK (Z:=fun b=>fd.body=b->FnOk c g F) h1 (fun body h1 hb=>⟨o,fd,body,lk (kdT t kFn fd.scope.names),X _ _ ho,hfd,hb,nilK (Z:=fun l=>l=[]) h2 rfl,Nat.eq_of_beq_eq_true h3,Nat.eq_of_beq_eq_true h4,codeIn_ok X h5,notK h6,notK h7,of_decide_eq_true h8,fun vals hv=>by
    refine andK hp fun p1 hp=>andK hp fun p2 hp=>andK hp fun p3 hp=>andK hp fun p4 hp=>andK hp fun p5 p6=>?_
    have hm:fd.params.args.map (·.arg)=F.params.map fun p=>c.wd p.1:=all2K (Y:=fun l m=>List.map (fun a:Arg=>a.arg) l=List.map (fun p:Nat×Bool=>c.wd p.1) m) rfl (fun a l b m h1 h2=>by rw [List.map_cons,List.map_cons,h2,H.wd,eqS_ok h1]) p5
    refine (bind_plain (kd:=fd.params.kw_defaults) (ds:=fd.params.defaults) ?_ (of_decide_eq_true h9) (nodupS_ok p6) (hv.trans ?_)).trans (by rw [hm])
    ·generalize fd.params=p at p1 p2 p3 p4
     obtain ⟨a,b,v,k,kd,w,ds⟩:=p
     exact nilK (Z:=fun a=>Arguments.mk a b v k kd w ds=⟨[],b,none,[],kd,none,ds⟩) p1 (noneK (Z:=fun v=>Arguments.mk [] b v k kd w ds=⟨[],b,none,[],kd,none,ds⟩) p2 (nilK (Z:=fun k=>Arguments.mk [] b none k kd w ds=⟨[],b,none,[],kd,none,ds⟩) p3 (noneK (Z:=fun w=>Arguments.mk [] b none [] kd w ds=⟨[],b,none,[],kd,none,ds⟩) p4 rfl)))
    ·exact ((List.length_map ..).symm.trans (congrArg List.length hm.symm)).trans (List.length_map ..),
   fun x k e=>andK (allK h10 (lk_mem e:(x,k)∈_)) fun b q=>⟨H.nw▸blt_ok b,optBK q fun k' e' q=>by rw [H.wd,← lookS_ok]; exact e'.trans (congrArg some (of_decide_eq_true q))⟩,fun p hp=>kAt_ok (allK h11 hp),nodupS_ok h12,all2K (Y:=TrSs c (lk (kdT t kFn fd.scope.names))) rfl (fun _ _ _ _ h1 h2 _ k=>k _ _ (chkS_ok H h1) h2) h1⟩) rfl) rfl
noncomputable def chkV (t:Tb) (K:Frag):Nat->AV->Value->Bool
 | 0,_,_=>false
 | f+1,v,w=>match v with
  | .int i=>onInt w fun j=>decide (j=i)
  | .str n=>onVStr w fun s=>isW t s n
  | .tup l=>onRef w fun a=>optB (K.lookup a) fun o=>onType o.cls (fun T=>T == "tuple")&&(o.dict.isNone&&(o.slots.isEmpty&&onSeq o.data fun vs=>all2 (chkV t K f) l vs.toList))
  | .none=>false | .bool _=>false | .dct _=>false | .ref _=>false
theorem chkV_ok {c:Cx} {t:Tb} (H:TbOk c t) (X:c.K.In c.B) {m:Mp} (hm:m.fz=c.B.get?):∀ {f:Nat} {v:AV} {w:Value},chkV t c.K f v w=true->VR c m v w
 | 0,_,_,h=>nomatch h
 | f+1,v,w,h=>by
  cases v with
  | int i=>exact onIntK (Z:=VR c m (.int i)) h fun j t h=>of_decide_eq_true h▸.int j t
  | str n=>exact onVStrK (Z:=VR c m (.str n)) h fun s t h=>isWK H (Y:=fun s=>VR c m (.str n) (.str s t)) h fun hn=>.str n t hn
  | tup l =>
   refine onRefK (Z:=VR c m (.tup l)) h fun a h=>optBK h fun o ho h=>andK h fun h1 h=>andK h fun h2 h=>andK h fun h3 h=>?_
   obtain ⟨cl,d,da,sl⟩:=o
   exact onTypeK (Z:=fun cl=>List.lookup a c.K=some ⟨cl,d,da,sl⟩->VR c m (.tup l) (.ref a)) h1 (fun T h1 ho=>noneK (Z:=fun d=>List.lookup a c.K=some ⟨.type T,d,da,sl⟩->VR c m (.tup l) (.ref a)) h2 (fun ho=>onSeqK (Z:=fun da=>List.lookup a c.K=some ⟨.type T,none,da,sl⟩->VR c m (.tup l) (.ref a)) h (fun vs n h ho=>by
    have e4:sl=#[]:=Array.isEmpty_iff.mp h3
    rw [e4,eq_of_beq h1] at ho
    exact .tup (hm▸X _ _ ho) (all2K (r:=chkV t c.K f) (Y:=VRs c m) .nil (fun _ _ _ _ h1 h2=>.cons (chkV_ok H X hm h1) h2) h)) ho) ho) ho
  | none=>exact (Bool.false_ne_true h).elim
  | bool=>exact (Bool.false_ne_true h).elim
  | dct=>exact (Bool.false_ne_true h).elim
  | ref=>exact (Bool.false_ne_true h).elim
noncomputable def ltNs:List Nat->List Nat->Bool
 | [],b=>!b.isEmpty
 | a::l,b=>match b with
  | []=>false
  | b::r=>Nat.blt a b||(Nat.beq a b&&ltNs l r)
theorem ltNs_ok:∀ {a b:List Nat},ltNs a b=true->a < b
 | [],[],h=>nomatch h
 | [],_::_,_=>List.nil_lt_cons _ _
 | _::_,[],h=>nomatch h
 | _::_,_::_,h=>orK h (fun h=>List.cons_lt_cons_iff.mpr (.inl (blt_ok h))) fun h=>andK h fun h1 h2=>List.cons_lt_cons_iff.mpr (.inr ⟨Nat.eq_of_beq_eq_true h1,ltNs_ok h2⟩)
noncomputable def rise:List Str->Bool
 | []=>true
 | a::l=>(match l with
  | []=>true
  | b::_=>ltNs a.cps.toList b.cps.toList)&&rise l
theorem rise_ok:∀ {l:List Str},rise l=true->l.Pairwise fun a b=>a.cps.toList < b.cps.toList
 | [],_=>.nil
 | [_],_=>List.pairwise_singleton _ _
 | a::b::l,h=>andK h fun h1 h2=>have ih:=rise_ok h2; List.pairwise_cons.mpr ⟨fun x hx=>(List.mem_cons.mp hx).elim (fun e=>e▸ltNs_ok h1) fun hx=>List.lt_trans (ltNs_ok h1) ((List.pairwise_cons.mp ih).1 x hx),ih⟩
end Mine.Internal
namespace Mine.Internal
open PySem PySem.W PySem.Calls PyProof.Rows
structure Lw where
 t:Tb
 fns:List (Nat×Fn)
 clss:List (Nat×List (Nat×Nat))
 glbs:List (Nat×AV)
 init:Nat
 fnAt:List (Nat×Addr)
 clAt:List (Nat×Addr)
noncomputable def atOf (l:List (Nat×Addr)) (n:Nat):Addr:=(lk l n).getD 0
noncomputable def Lw.P (L:Lw):Pg:=⟨lk L.fns,fun C n=>(lk L.clss C).bind fun l=>lk l n,lk L.glbs,L.init⟩
noncomputable def Lw.cx (L:Lw) (prog:Program) (w:World) (B:Heap) (K:Frag):Cx:=⟨prog,w,B,K,wdOf L.t.words,L.t.words.length,2,atOf L.fnAt,atOf L.clAt,L.t.cls⟩
noncomputable abbrev OV:=Option (Option Value)
noncomputable def isRef (o:OV) (a:Addr):Bool:=optB o fun o=>optB o fun v=>onRef v fun b=>Nat.beq b a
theorem isRef_ok {o:OV} {a:Addr} (h:isRef o a=true):o=some (some (.ref a)):=optK (Z:=fun o=>o=some (some (.ref a))) h fun _ h=>optK (Z:=fun o=>some o=some (some (.ref a))) h fun _ h=>onRefK (Z:=fun v=>some (some v)=some (some (.ref a))) h fun _ h=>Nat.eq_of_beq_eq_true h▸rfl
noncomputable def isNo (o:OV):Bool:=optB o fun o=>o.isNone
theorem isNo_ok {o:OV} (h:isNo o=true):o=some none:=optK (Z:=fun o=>o=some none) h fun _ h=>noneK (Z:=fun o=>some o=some none) h rfl
noncomputable def isBlt (o:OV) (s:String):Bool:=optB o fun o=>optB o fun v=>onBlt v fun b=>b==s
theorem isBlt_ok {o:OV} {s:String} (h:isBlt o s=true):o=some (some (.builtin s)):=optK (Z:=fun o=>o=some (some (.builtin s))) h fun _ h=>optK (Z:=fun o=>some o=some (some (.builtin s))) h fun _ h=>onBltK (Z:=fun v=>some (some v)=some (some (.builtin s))) h fun _ h=>eq_of_beq h▸rfl
section
variable (L:Lw) (K:Frag)
noncomputable def chkNames:Bool :=
 (L.t.fnN.all fun p=>isRef (nsIn K mainGlobals (wdOf L.t.words p.1)) (atOf L.fnAt p.2)&&fnIn K (atOf L.fnAt p.2)) &&
 ((L.t.cls.all fun C=>isRef (nsIn K mainGlobals (wdOf L.t.words C)) (atOf L.clAt C)) &&
 (([Bn.len,.min,.sorted,.tuple,.list,.dict,.abs].all fun b=>isNo (nsIn K mainGlobals (wdOf L.t.words (L.t.bl b))))&&(isNo (nsIn K mainGlobals (wdOf L.t.words L.t.range))&&(isNo (nsIn K mainGlobals (wdOf L.t.words L.t.enum)) &&
 L.glbs.all fun p=>optB (nsIn K mainGlobals (wdOf L.t.words p.1)) fun o=>optB o fun w=>chkV L.t K 4 p.2 w))))
noncomputable def chkPlain:Bool:=L.t.plainN.all fun n=>Nat.blt n L.t.words.length&&L.t.cls.all fun C=>isNo (findIn K (.ref (atOf L.clAt C)) (wdOf L.t.words n))&&isNo (takerIn K (atOf L.clAt C) (wdOf L.t.words n))
noncomputable def chkCls:Bool :=
 L.t.cls.all fun C=>isBlt (findIn K (.ref (atOf L.clAt C)) "__getattribute__") "object.__getattribute__" && (isNo (findIn K (.ref (atOf L.clAt C)) "__getattr__")&&(isBlt (findIn K (.ref (atOf L.clAt C)) "__setattr__") "object.__setattr__" && (hasDictIn K (atOf L.clAt C)&&(plainOver K (atOf L.clAt C)&&(makesIn K (atOf L.clAt C) &&
  (isClsIn K (atOf L.clAt C)&&(isBlt (specialIn K (.ref (atOf L.clAt C)) "__getattribute__") "type.__getattribute__" && keepIn K (.ref (atOf L.clAt C)))))))))
noncomputable def chkMth:Bool :=
 L.clss.all fun q=>!(hasN L.t.cls q.1)||q.2.all fun p=>Nat.blt p.1 L.t.words.length&&(isRef (findIn K (.ref (atOf L.clAt q.1)) (wdOf L.t.words p.1)) (atOf L.fnAt p.2)&&(isFn K (.ref (atOf L.fnAt p.2))&&(fnIn K (atOf L.fnAt p.2)&&(readsIn K (atOf L.clAt q.1) (.type "type") &&
  (match findCls K (.ref (atOf L.clAt q.1)) (.type "type") (wdOf L.t.words p.1) with | some (.val v)=>onRef v fun b=>Nat.beq b (atOf L.fnAt p.2) | _=>false)))))
end
structure Lw.Ok (L:Lw) (M:Ms):Prop where
 rise:rise L.t.words=true
 wellS:L.t.words.all PyData.strOk=true
 debug:L.t.words.all (fun s=>!(s==("__debug__" : Str)))=true
 bl:∀ b,wdOf L.t.words (L.t.bl b)=Str.ofString (bnName b)/\bootBuiltins (wdOf L.t.words (L.t.bl b))=some (bnVal b)/\wdOf L.t.words (L.t.bl b) ≠ "__name__"
 range:wdOf L.t.words L.t.range=Str.ofString "range" /\ bootBuiltins (wdOf L.t.words L.t.range)=some (.type "range")/\wdOf L.t.words L.t.range ≠ "__name__"
 enum:wdOf L.t.words L.t.enum=Str.ofString "enumerate" /\ bootBuiltins (wdOf L.t.words L.t.enum)=some (.type "enumerate")/\wdOf L.t.words L.t.enum ≠ "__name__"
 values:wdOf L.t.words L.t.values=Str.ofString "values"
 items:wdOf L.t.words L.t.items=Str.ofString "items"
 init:wdOf L.t.words L.init = "__init__"
 ms:wdOf L.t.words M.get = "get" /\ wdOf L.t.words M.pop = "pop" /\ wdOf L.t.words M.append = "append" /\ wdOf L.t.words M.extend = "extend"
theorem wdOf_get {l:List Str} {i:Nat} (h:i < l.length):wdOf l i=l[i]:=by
 unfold wdOf
 rw [List.getD_eq_getElem?_getD,List.getElem?_eq_getElem h]; rfl
section
variable {L:Lw} {M:Ms} {prog:Program} {w:World} {B:Heap} {K:Frag}
theorem tbOk (O:L.Ok M) (h1:chkNames L K=true) (h2:chkPlain L K=true):TbOk (L.cx prog w B K) L.t:=andK h1 fun a1 h1=>andK h1 fun a2 h1=>andK h1 fun a3 h1=>andK h1 fun a4 h1=>andK h1 fun a5 _ =>
 ⟨rfl,rfl,rfl,fun n g hm=>andK (allK a1 hm) fun p q=>⟨isRef_ok p,q⟩,fun C hC=>isRef_ok (allK a2 hC),fun n hn=>andK (allK h2 hn) fun p q=>⟨blt_ok p,fun C hC=>andK (allK q hC) fun u v=>⟨isNo_ok u,isNo_ok v⟩⟩,
  fun b=>⟨(O.bl b).1,isNo_ok (allK a3 (by cases b <;> simp only [List.mem_cons,true_or,or_true])),(O.bl b).2.1,(O.bl b).2.2⟩,⟨O.range.1,isNo_ok a4,O.range.2⟩,⟨O.enum.1,isNo_ok a5,O.enum.2⟩,O.values,O.items⟩
theorem gd (O:L.Ok M) (X:K.In B) (T:∃ p loose mg mb,TopRead p loose mg mb B) (h1:chkNames L K=true) (h2:chkPlain L K=true) (h3:chkCls L K=true) (h4:chkMth L K=true) (h5:(L.fns.all fun p=>chkFn L.t K (atOf L.fnAt p.1) p.2)=true):Gd (L.cx prog w B K) L.P M:=by
 have H:=tbOk (prog:=prog) (w:=w) (B:=B) O h1 h2
 have pw:=List.pairwise_iff_getElem.mp (rise_ok O.rise)
 have ord:∀ i j,i < j->j < L.t.words.length->(wdOf L.t.words i).cps.toList < (wdOf L.t.words j).cps.toList:=fun i j hij hj=>by
  rw [wdOf_get (Nat.lt_trans hij hj),wdOf_get hj]; exact pw i j _ _ hij
 have mth:∀ C∈L.t.cls,∀ x g,L.P.mth C x=some g->(Nat.blt x L.t.words.length&&(isRef (findIn K (.ref (atOf L.clAt C)) (wdOf L.t.words x)) (atOf L.fnAt g)&&(isFn K (.ref (atOf L.fnAt g))&&(fnIn K (atOf L.fnAt g)&&(readsIn K (atOf L.clAt C) (.type "type") &&
   (match findCls K (.ref (atOf L.clAt C)) (.type "type") (wdOf L.t.words x) with | some (.val v)=>onRef v fun b=>Nat.beq b (atOf L.fnAt g) | _=>false))))))=true:=fun C hC x g e =>
  bindK e fun l hl e=>orK (allK h4 (lk_mem hl:(C,l)∈L.clss)) (fun q=>nomatch (mem_hasN hC).symm.trans (notK q)) fun q=>allK q (lk_mem e:(x,g)∈l)
 have ne:∀ i j,i < j->j < L.t.words.length->wdOf L.t.words i≠wdOf L.t.words j:=fun i j hij hj e=>by
  have:=ord i j hij hj
  rw [e] at this
  exact List.lt_irrefl _ this
 refine ⟨X,T,fun i j hi hj e=>(Nat.lt_trichotomy i j).elim (fun h=>absurd e (ne i j h hj)) fun h=>h.elim id fun h=>absurd e.symm (ne j i h hi),ord,fun i hi=>?_,fun i hi=>?_,fun x v e=>?_,fun C hC=>?_,fun C hC x g e=>andK (mth C hC x g e) fun b1 h=>andK h fun b2 h=>andK h fun b3 h=>andK h fun b4 _=>⟨blt_ok b1,isRef_ok b2,b3,b4⟩,
  fun C hC x g e=>andK (mth C hC x g e) fun b1 h=>andK h fun b2 h=>andK h fun b3 h=>andK h fun b4 h=>andK h fun b5 b6=>⟨_,b5,?_⟩,fun g F e=>chkFn_ok H X (allK h5 (lk_mem e:(g,F)∈L.fns)),O.init,by show sysModules < 2; decide,O.ms⟩
 ·show PyData.strOk (wdOf L.t.words i)=true
  rw [wdOf_get hi]; exact allK O.wellS (List.getElem_mem _)
 ·show (wdOf L.t.words i==_)=false
  rw [wdOf_get hi]
  exact notK (allK O.debug (List.getElem_mem hi))
 ·exact andK h1 fun _ h1=>andK h1 fun _ h1=>andK h1 fun _ h1=>andK h1 fun _ h1=>andK h1 fun _ a6=>optBK (allK a6 (lk_mem e:(x,v)∈L.glbs)) fun o e1 q=>optBK q fun w' e2 q=>⟨w',e1.trans (congrArg some e2),fun n ρ δ ω=>chkV_ok H X rfl q⟩
 ·exact andK (allK h3 hC) fun b1 h=>andK h fun b2 h=>andK h fun b3 h=>andK h fun b4 h=>andK h fun b5 h=>andK h fun b6 h=>andK h fun b7 h=>andK h fun b8 b9=>⟨isBlt_ok b1,isNo_ok b2,isBlt_ok b3,b4,b5,b6,b7,isBlt_ok b8,b9⟩
 ·split at b6
  ·next v hv=>exact hv.trans (onRefK (Z:=fun v=>some (CFound.val v)=some (.val (.ref (atOf L.fnAt g)))) b6 fun b q=>Nat.eq_of_beq_eq_true q▸rfl)
  ·exact nomatch b6
end
end Mine.Internal
namespace Mine.Internal
open PySem PySem.W PySem.Calls PyProof.Rows
noncomputable def noList (K:Frag):Bool:=K.all fun p=>!(onType p.2.cls fun T=>T == "list")
theorem lookup_in {α:Type} {a:Nat} {o:α}:∀ {K:List (Nat×α)},K.lookup a=some o->(a,o)∈K:=by
 intro K
 induction K with
 | nil =>
  intro h
  exact nomatch h
 | cons jv K ih =>
  obtain ⟨b,q⟩:=jv
  intro h
  rw [List.lookup_cons] at h
  cases z:a==b with
  | true=>rw [z] at h; rw [eq_of_beq z,Option.some.inj h]; exact .head _
  | false=>rw [z] at h; exact .tail _ (ih h)
section
variable {L:Lw} {M:Ms} {prog:Program} {w:World} {K:Frag} {s:Shared} {a:Addr} {vs:List Value} {m:Nat}
theorem not_dict (ha:s.heap.get? a=some (lstObj vs.toArray m)) {b:Addr} {o:Obj} {es:Array DictEntry} {n:Nat} (h:s.heap.get? b=some o) (hd:o.data=.dict es n):b≠a:=fun z=>by
 rw [z,ha] at h
 exact nomatch (show Data.seq vs.toArray m=.dict es n from (congrArg Obj.data (Option.some.inj h)).trans hd)
theorem hide_ns (ha:s.heap.get? a=some (lstObj vs.toArray m)) {b:Addr} {mm:Str->Option Value} (h:s.heap.Ns b mm):(hideAll s.heap [a]).Ns b mm :=
 h.imp fun o=>Exists.imp fun es=>Exists.imp fun ep q=>⟨hideAll_get _ q.1 fun z=>not_dict ha q.1 q.2.1 (List.mem_singleton.mp z),q.2⟩
theorem law_ends {p:Program} {loose:List Str} {mg mb:Str->Option Value} (g:∀ B,K.In B->(∃ p loose mg mb,TopRead p loose mg mb B)->Gd (L.cx prog w B K) L.P M) (X:K.In s.heap) (T:TopRead p loose mg mb s.heap) (hnl:noList K=true) {ns:List Int}
  (ha:s.heap.get? a=some (lstObj vs.toArray m)) (hI:IntsAre vs ns) (h1:(a==sysModules)=false) (hg:s.gens=#[]) (hlen:ns.length<=1000) {f k N:Nat} {F:Fn} {fa:Addr} {x:Str} (hN:N<=200) (hfa:mg x=some (.ref fa)) (hx:isRef (nsIn K mainGlobals x) (atOf L.fnAt f)=true)
  (hF:L.P.fn f=some F) (hp:F.params=[(k,false)]) {fra:FrA} {Ja:AH} (hs:ss (ev L.P M N) ⟨[(k,.ref 0)],[]⟩ (begin_ ns) F.body=some (.ret (.bool true),fra,Ja)) :
  wpAny (model prog w) callerA (call (.ref fa) [.ref a]) (fun v s'=>v=.bool true/\(∀ b o,s.heap.get? b=some o->s'.heap.get? b=some o)/\s'.os=s.os/\s'.gens=#[]) NoE s:=by
 obtain rfl:fa=atOf L.fnAt f:=Value.ref.inj (Option.some.inj (hfa.symm.trans (mg_of X T.g (isRef_ok hx))))
 have XB:K.In (hideAll s.heap [a]):=fun b o hb=>hideAll_get _ (X b o hb) fun z=>by
  have e:=Option.some.inj (ha.symm.trans (List.mem_singleton.mp z▸X _ _ hb))
  have n:=notK (allK hnl (lookup_in hb))
  rw [← e] at n
  exact nomatch n
 have TB:TopRead p loose mg mb (hideAll s.heap [a]):=⟨hide_ns ha T.g,hide_ns ha T.b,T.nolimit.imp fun _ q=>⟨hide_ns ha q.1,q.2⟩,T.builtins,T.free⟩
 have ha0:a≠0:=fun z=>T.b.elim fun o q=>q.elim fun _ q=>q.elim fun _ q=>not_dict ha q.1 q.2.1 z.symm
 have ha2:2<=a:=Nat.lt_of_le_of_ne (Nat.one_le_iff_ne_zero.mpr ha0) (Ne.symm (beq_eq_false_iff_ne.mp h1))
 have R:Room callerA (N+1):=⟨by show 301+3 * (N+1)+10 < 1000; omega,by show 4+12 * (N+1)+1000 < 9900; omega,rfl⟩
 exact wpAny_back (top_call (c:=L.cx prog w (hideAll s.heap [a]) K) (g _ XB ⟨_,_,_,_,TB⟩) (fun b o hb=>⟨fun z=>no_some (hideAll_none [a] (List.mem_singleton.mpr z)) rfl (show (hideAll s.heap [a]).get? b=some o from hb),of_hideAll _ hb⟩) ha2 ha hI hlen hg R hF hp hs)
end
end Mine.Internal
namespace Mine.Internal
noncomputable def M0:Ms:=⟨89,168,42,84⟩
noncomputable abbrev V (k:Nat):Ev:=ev L2.P M0 k
section
variable {α β:Type} {R:Option β}
theorem b2 {o:Option (α×AH)} {K:α->AH->Option β} {a:α} {h:AH} (h1:o=some (a,h)) (h2:K a h=R):bind2 o K=R:=h1▸h2
theorem b3 {o:Option (α×FrA×AH)} {K:α->FrA->AH->Option β} {a:α} {fr:FrA} {h:AH} (h1:o=some (a,fr,h)) (h2:K a fr h=R):bind3 o K=R:=h1▸h2
theorem bo {o:Option α} {K:α->Option β} {a:α} (h1:o=some a) (h2:K a=R):o.bind K=R:=h1▸h2
theorem bm {o:Option α} {f:α->β} {a:α} (h1:o=some a):o.map f=some (f a):=h1▸rfl
theorem bc {b:Bool} {o:Option β} (h1:b=true) (h2:o=R):chk b o=R:=h1▸h2
theorem b4 {o:Option (List AV×List Nat×AH)} {K:List AV->List Nat->AH->Option β} {a:List AV} {b:List Nat} {c:AH} (h1:o=some (a,b,c)) (h2:K a b c=R):iter3 o K=R:=h1▸h2
theorem bt {b:Bool} {x y z:β} (h1:b=true) (h2:x=z):cond b x y=z:=h1▸h2
theorem bf {b:Bool} {x y z:β} (h1:b=false) (h2:y=z):cond b x y=z:=h1▸h2
end
theorem geS {n:Nat} {p:Nat->Prop} (h:∀ k,n<=k->p (k+1)):∀ k,n+1<=k->p k
 | 0,q=>absurd q (Nat.not_succ_le_zero n)
 | k+1,q=>h k (Nat.le_of_succ_le_succ q)
section
variable {n:Nat} {fr:FrA} {h:AH}
theorem geE {x:X} {R:Option (AV×AH)} (e:∀ k,n<=k->stepE L2.P M0 (V k) fr h x=R):∀ k,n+1<=k->(V k).e fr h x=R:=geS e
theorem geT {x:X} {R:Option (Bool×AH)} (e:∀ k,n<=k->stepT (V k) fr h x=R):∀ k,n+1<=k->(V k).t fr h x=R:=geS e
theorem geM {x:S} {R:Option (Fl×FrA×AH)} (e:∀ k,n<=k->stepS (V k) fr h x=R):∀ k,n+1<=k->(V k).s fr h x=R:=geS e
theorem geC {f:Nat} {vs:List AV} {R:Option (AV×AH)} (e:∀ k,n<=k->stepC L2.P (V k) f vs h=R):∀ k,n+1<=k->(V k).c f vs h=R:=geS e
end
noncomputable def FrA.sl (fr:FrA) (m:Nat) (v:AV):FrA:=⟨up fr.loc m v,fr.cel⟩
noncomputable def FrA.sc (fr:FrA) (m:Nat) (v:AV):FrA:=⟨fr.loc,up fr.cel m v⟩
noncomputable def FrA.bT (fr:FrA) (t:T) (v:AV):FrA:=(bindT fr t v).getD fr
noncomputable def FrA.bW (fr:FrA) (l:List T) (vs:List AV):FrA:=(bindTs fr l vs).getD fr
noncomputable def frP (ps:List (Nat×Bool)) (vs:List AV):FrA:=(bindP ps vs ⟨[],[]⟩).getD ⟨[],[]⟩
noncomputable def AH.ad (h:AH) (o:AO):AH:=⟨h.nx+1,h.ro,(h.nx,o)::h.ob⟩
noncomputable def AH.st (h:AH) (i:Nat) (o:AO):AH:=⟨h.nx,h.ro,up h.ob i o⟩
noncomputable def AH.wr (h:AH) (ro:List Nat):AH:=⟨h.nx,ro,h.ob⟩
section
variable (n:Nat) (fr:FrA) (h:AH)
noncomputable def Ee (x:X) (v:AV) (h':AH):Prop:=∀ k,n<=k->(V k).e fr h x=some (v,h')
noncomputable def Et (x:X) (q:Bool) (h':AH):Prop:=∀ k,n<=k->(V k).t fr h x=some (q,h')
noncomputable def Em (x:S) (fl:Fl) (fr':FrA) (h':AH):Prop:=∀ k,n<=k->(V k).s fr h x=some (fl,fr',h')
noncomputable def El (l:List X) (vs:List AV) (h':AH):Prop:=∀ k,n<=k->es (V k) fr h l=some (vs,h')
noncomputable def Ed (l:List (Nat×X)) (vs:List (Nat×AV)) (h':AH):Prop:=∀ k,n<=k->eds (V k) fr h l=some (vs,h')
noncomputable def Ea (l:List X) (q:Bool) (h':AH):Prop:=∀ k,n<=k->andt (V k) fr h l=some (q,h')
noncomputable def Eo (l:List X) (q:Bool) (h':AH):Prop:=∀ k,n<=k->ort (V k) fr h l=some (q,h')
noncomputable def Ean (l:List X) (v:AV) (h':AH):Prop:=∀ k,n<=k->andv (V k) fr h l=some (v,h')
noncomputable def Eor (l:List X) (v:AV) (h':AH):Prop:=∀ k,n<=k->orv (V k) fr h l=some (v,h')
noncomputable def Ei (it:It) (ws:List AV) (lo:List Nat) (h':AH):Prop:=∀ k,n<=k->iter (V k) fr h it=some (ws,lo,h')
noncomputable def Es (l:List S) (fl:Fl) (fr':FrA) (h':AH):Prop:=∀ k,n<=k->ss (V k) fr h l=some (fl,fr',h')
noncomputable def Ec (x:X) (gs:List Gn) (vs:List AV) (fr':FrA) (h':AH):Prop:=∀ k,n<=k->compIn (V k) x gs fr h=some (vs,fr',h')
noncomputable def Eg (t:T) (ifs:List X) (x:X) (gs:List Gn) (ws:List AV) (vs:List AV) (fr':FrA) (h':AH):Prop:=∀ k,n<=k->compGo (V k) t ifs (compIn (V k) x gs) ws fr h=some (vs,fr',h')
noncomputable def Ek (x:X) (gs:List Gn) (v:AV) (h':AH):Prop:=∀ k,n<=k->compE (V k) fr h x gs=some (v,h')
noncomputable def Ef (t:T) (b:List S) (ws:List AV) (fl:Fl) (fr':FrA) (h':AH):Prop:=∀ k,n<=k->forGo (V k) t b ws fr h=some (fl,fr',h')
noncomputable def Cl (f:Nat) (vs:List AV) (v:AV) (h':AH):Prop:=∀ k,n<=k->(V k).c f vs h=some (v,h')
end
section
variable {n:Nat} {fr fr1 fr2 fr3:FrA} {h h1 h2 h3 h4:AH} {x y z:X} {l:List X} {a b o v w:AV} {vs ws us:List AV} {q r:Bool}
theorem El.nil:El n fr h [] [] h:=fun _ _=>rfl
theorem El.c (e1:Ee n fr h x v h1) (e2:El n fr h1 l vs h2):El n fr h (x::l) (v::vs) h2:=fun k q=>b2 (e1 k q) (b2 (e2 k q) rfl)
theorem Ee.cst:Ee (n+1) fr h (.cst v) v h:=geS fun _ _=>rfl
theorem Ee.loc {m:Nat} (e:lk fr.loc m=some v):Ee (n+1) fr h (.loc m) v h:=geS fun _ _=>bm (f:=fun v=>(v,h)) e
theorem Ee.cel {m:Nat} (e:lk fr.cel m=some v):Ee (n+1) fr h (.cel m) v h:=geS fun _ _=>bm (f:=fun v=>(v,h)) e
theorem Ee.glb {m:Nat} (e:L2.P.glb m=some v):Ee (n+1) fr h (.glb m) v h:=geS fun _ _=>bm (f:=fun v=>(v,h)) e
theorem Ee.tup (e1:El n fr h l vs h1):Ee (n+1) fr h (.tup l) (.tup vs) h1:=geE fun k q=>by unfold stepE; exact b2 (e1 k q) rfl
theorem lk_sl {m:Nat}:lk (fr.sl m v).loc m=some v:=up_same ..
theorem lk_slO {m k:Nat} (e0:Nat.beq k m=false) (e:lk fr.loc m=some w):lk (fr.sl k v).loc m=some w:=(up_else (fun z=>nomatch (Nat.beq_refl m).symm.trans ((congrArg (fun x=>Nat.beq x m) z.symm).trans e0)) ..).trans e
theorem lk_uO {m k:Nat} {l:List (Nat×AV)} (e0:Nat.beq k m=false) (e:lk l m=some w):lk (up l k v) m=some w:=lk_slO (fr:=⟨l,[]⟩) e0 e
theorem lk_sc {m:Nat}:lk (fr.sc m v).cel m=some v:=up_same ..
theorem lk_scO {m k:Nat} (e0:Nat.beq k m=false) (e:lk fr.cel m=some w):lk (fr.sc k v).cel m=some w:=lk_slO (fr:=⟨fr.cel,[]⟩) e0 e
theorem Ee.attr {m i C:Nat} {d:List (Nat×AV)} (e1:Ee n fr h x (.ref i) h1) (e2:lk h1.ob i=some (.ins C d)) (e3:lk d m=some v):Ee (n+1) fr h (.attr x m) v h1:=geE fun k q=>by unfold stepE; exact b2 (K:=fun o h=>(insOf h o).bind fun q=>(lk q.2 m).map fun v=>(v,h)) (e1 k q) (bo (bo (o:=lk h1.ob i) e2 rfl) (bm (f:=fun v=>(v,h1)) e3))
theorem Ee.sub (e1:Ee n fr h x a h1) (e2:Ee n fr h1 y b h2) (e3:subv h2 a b=some v):Ee (n+1) fr h (.sub x y) v h2:=geE fun k q=>by unfold stepE; exact b2 (e1 k q) (b2 (e2 k q) (bm (f:=fun v=>(v,h2)) e3))
theorem Ee.slf (e1:Ee n fr h x a h1) (e2:Ee n fr h1 y b h2) (e3:sliceFrom h2 a b=some (v,h3)):Ee (n+1) fr h (.slf x y) v h3:=geE fun k q=>by unfold stepE; exact b2 (e1 k q) (b2 (e2 k q) e3)
theorem Ee.slt (e1:Ee n fr h x a h1) (e2:Ee n fr h1 y b h2) (e3:sliceTo h2 a b=some (v,h3)):Ee (n+1) fr h (.slt x y) v h3:=geE fun k q=>by unfold stepE; exact b2 (e1 k q) (b2 (e2 k q) e3)
theorem Ee.cmp {c:Co} (e1:Ee n fr h x a h1) (e2:Ee n fr h1 y b h2) (e3:cmpv h2 a c b=some q):Ee (n+1) fr h (.cmp x c y) (.bool q) h2:=geE fun k g=>by unfold stepE; exact b2 (e1 k g) (b2 (e2 k g) (bm (f:=fun q=>(AV.bool q,h2)) e3))
theorem Ee.bin {c:Bo} (e1:Ee n fr h x a h1) (e2:Ee n fr h1 y b h2) (e3:binop h2 a c b=some (v,h3)):Ee (n+1) fr h (.bin x c y) v h3:=geE fun k q=>by unfold stepE; exact b2 (e1 k q) (b2 (e2 k q) e3)
theorem Ee.lst (e1:El n fr h l vs h1):Ee (n+1) fr h (.lst l) (.ref h1.nx) (h1.ad (.lst vs)):=geE fun k q=>by unfold stepE; exact b2 (e1 k q) rfl
theorem Ed.nil:Ed n fr h [] [] h:=fun _ _=>rfl
theorem Ed.c {m:Nat} {l:List (Nat×X)} {vs:List (Nat×AV)} (e1:Ee n fr h x v h1) (e2:Ed n fr h1 l vs h2):Ed n fr h ((m,x)::l) ((m,v)::vs) h2:=fun k q=>b2 (e1 k q) (b2 (e2 k q) rfl)
theorem Ee.dicN {l:List (Nat×X)} {vs:List (Nat×AV)} (e1:Ed n fr h l vs h1):Ee (n+1) fr h (.dicN l) (.ref h1.nx) (h1.ad (.dic (vs.map fun p=>(.str p.1,p.2)))):=geE fun k q=>by unfold stepE; exact b2 (e1 k q) rfl
theorem Ee.dicF {l:List (Nat×X)} {vs:List (Nat×AV)} (e1:Ed n fr h l vs h1):Ee (n+1) fr h (.dicF l) (.dct vs) h1:=geE fun k q=>by unfold stepE; exact b2 (e1 k q) rfl
theorem Ee.callF {f:Nat} (e1:El n fr h l vs h1) (e2:Cl n h1 f vs v h2):Ee (n+1) fr h (.callF f l) v h2:=geE fun k q=>by unfold stepE; exact b2 (e1 k q) (e2 k q)
noncomputable def isB (m:Nat):Bool:=Nat.beq m M0.get||(Nat.beq m M0.pop||(Nat.beq m M0.append||Nat.beq m M0.extend))
noncomputable def mB (h h':AH) (o:AV) (m:Nat) (vs:List AV):Option (AV×AH):=cond (insOf h o).isNone ((akind h o).bind fun a=>(akind h' o).bind fun b=>chk (a==b) (methB M0 h' o m vs)) none
structure MB (h h':AH) (o:AV) (m:Nat) (vs:List AV) (v:AV) (h3:AH):Prop where
 e:mB h h' o m vs=some (v,h3)
structure BL (h:AH) (c:Bn) (a v:AV) (h3:AH):Prop where
 e:builtin h c a=some (v,h3)
theorem Ee.callB {c:Bn} (e1:Ee n fr h x a h1) (e2:BL h1 c a v h2):Ee (n+1) fr h (.callB c x) v h2:=geE fun k q=>by unfold stepE; exact b2 (e1 k q) e2.e
theorem Ee.mB {m:Nat} (_:isB m=true) (e1:Ee n fr h x o h1) (e2:El n fr h1 l vs h2) (e3:MB h1 h2 o m vs v h3):Ee (n+1) fr h (.meth x m l) v h3:=geE fun k q=>by unfold stepE; exact b2 (e1 k q) (b2 (e2 k q) (condK e3.e (fun e e3=>(by
 have e:insOf h1 o=none:=Option.isNone_iff_eq_none.mp e
 show (match insOf h1 o with | some q=>_ | none=>(akind h1 o).bind fun a=>(akind h2 o).bind fun b=>chk (a==b) (methB M0 h2 o m vs))=_
 rw [e]; exact e3)) fun _ e3=>nomatch e3))
theorem Ee.mI {m f C i:Nat} {d:List (Nat×AV)} (e1:Ee n fr h x (.ref i) h1) (e2:lk h1.ob i=some (.ins C d)) (e3:lk d m=none) (e4:L2.P.mth C m=some f) (e5:El n fr h1 l vs h2) (e6:Cl n h2 f (.ref i::vs) v h3):Ee (n+1) fr h (.meth x m l) v h3:=geE fun k q=>by unfold stepE; exact b2 (e1 k q) (b2 (e5 k q) (by
 show (match (lk h1.ob i).bind AO.n? with | some q=>(match lk q.2 m with | some _=>none | none=>(L2.P.mth q.1 m).bind fun f=>(V k).c f (.ref i::vs) h2) | none=>_)=_
 rw [e2]
 show (match lk d m with | some _=>none | none=>(L2.P.mth C m).bind fun f=>(V k).c f (.ref i::vs) h2)=_
 rw [e3]
 exact bo e4 (e6 k q)))
theorem Ean.c (e1:Ee n fr h x (.bool q) h1) (e2:cond q (Ean n fr h1 (y::l) v h2) (v=.bool false/\h2=h1)):Ean n fr h (x::y::l) v h2:=match q,e1,e2 with
 | true,e1,e2=>fun k q=>(show bind2 ((V k).e fr h x) (fun v h=>v.b?.bind fun b=>cond b (andv (V k) fr h (y::l)) (some (.bool false,h)))=_ from b2 (e1 k q) (e2 k q))
 | false,e1,⟨e2,e3⟩=>fun k q=>e2▸e3▸(show bind2 ((V k).e fr h x) (fun v h=>v.b?.bind fun b=>cond b (andv (V k) fr h (y::l)) (some (.bool false,h)))=_ from b2 (e1 k q) rfl)
theorem Eor.c (e1:Ee n fr h x (.bool q) h1) (e2:cond q (v=.bool true/\h2=h1) (Eor n fr h1 (y::l) v h2)):Eor n fr h (x::y::l) v h2:=match q,e1,e2 with
 | false,e1,e2=>fun k q=>(show bind2 ((V k).e fr h x) (fun v h=>v.b?.bind fun b=>cond b (some (.bool true,h)) (orv (V k) fr h (y::l)))=_ from b2 (e1 k q) (e2 k q))
 | true,e1,⟨e2,e3⟩=>fun k q=>e2▸e3▸(show bind2 ((V k).e fr h x) (fun v h=>v.b?.bind fun b=>cond b (some (.bool true,h)) (orv (V k) fr h (y::l)))=_ from b2 (e1 k q) rfl)
theorem Ee.and (e1:Ean n fr h l v h1):Ee (n+1) fr h (.and l) v h1:=geS e1
theorem Ee.or (e1:Eor n fr h l v h1):Ee (n+1) fr h (.or l) v h1:=geS e1
theorem Ee.ite (e1:Et n fr h x q h1) (e2:Ee n fr h1 (cond q y z) v h2):Ee (n+1) fr h (.ite x y z) v h2:=match q,e1,e2 with
 | true,e1,e2=>geE fun k q=>by unfold stepE; exact b2 (e1 k q) (e2 k q)
 | false,e1,e2=>geE fun k q=>by unfold stepE; exact b2 (e1 k q) (e2 k q)
theorem Ei.of (e1:Ee n fr h x v h1) (e2:Mine.Internal.items h1 v=some vs):Ei n fr h (.of x) vs (lockOf v) h1:=fun k q=>by unfold iter; exact b2 (e1 k q) (bm (f:=fun l=>(l,lockOf v,h1)) e2)
theorem Ei.range {i:Int} (e1:Ee n fr h x (.int i) h1) (e2:few i.natAbs=true):Ei n fr h (.range x) (rangeL i.toNat) [] h1:=fun k q=>by unfold iter; exact b2 (e1 k q) (bc e2 rfl)
theorem Ei.enum (e1:Ee n fr h x v h1) (e2:lstOf h1 v=some vs):Ei n fr h (.enum x) (enumFrom 0 vs) (lockOf v) h1:=fun k q=>by unfold iter; exact b2 (e1 k q) (bm (f:=fun l=>(enumFrom 0 l,lockOf v,h1)) e2)
variable {t:T} {ifs:List X} {it:It} {gs:List Gn} {lo:List Nat} {ro:List Nat}
theorem Eg.nil:Eg n fr h t ifs x gs [] [] fr h:=fun _ _=>rfl
noncomputable def Gk (q:Bool) (n:Nat) (fr:FrA) (h:AH) (t:T) (ifs:List X) (x:X) (gs:List Gn) (ws vs:List AV) (fr':FrA) (h':AH):Prop:=∀ k,n<=k->cond q (bind3 (compIn (V k) x gs fr h) fun vs fr h=>bind3 (compGo (V k) t ifs (compIn (V k) x gs) ws fr h) fun us fr h=>some (vs++us,fr,h)) (compGo (V k) t ifs (compIn (V k) x gs) ws fr h)=some (vs,fr',h')
theorem Eg.k (hb:bindT fr t v=some (fr.bT t v)) (e1:Ea n (fr.bT t v) h ifs q h1) (e2:Gk q n (fr.bT t v) h1 t ifs x gs ws us fr3 h3):Eg n fr h t ifs x gs (v::ws) us fr3 h3:=fun k g=>bo hb (b2 (e1 k g) (e2 k g))
theorem Gk.yy (e2:Ec n fr1 h1 x gs vs fr2 h2) (e3:Eg n fr2 h2 t ifs x gs ws us fr3 h3):Gk true n fr1 h1 t ifs x gs ws (vs++us) fr3 h3:=fun k q=>bt (b:=true) rfl (b3 (e2 k q) (b3 (e3 k q) rfl))
theorem Gk.nn (e3:Eg n fr1 h1 t ifs x gs ws us fr3 h3):Gk false n fr1 h1 t ifs x gs ws us fr3 h3:=e3
theorem Ec.nil (e1:Ee n fr h x v h1):Ec n fr h x [] [v] fr h1:=fun k q=>b2 (e1 k q) rfl
theorem Ek.mk (e1:Ei n fr h it ws lo h1) (e2:Eg n ⟨[],fr.cel⟩ (h1.lock lo) t ifs x gs ws vs fr1 h2) (e3:few vs.length=true):Ek n fr h x (.mk t it ifs::gs) (.ref h2.nx) ((h2.wr h1.ro).ad (.lst vs)):=fun k q=>by unfold compE; exact b4 (e1 k q) (b3 (e2 k q) (bc e3 rfl))
theorem Ee.comp (e1:Ek n fr h x gs v h1):Ee (n+1) fr h (.comp x gs) v h1:=geS e1
theorem Et.not (e1:Et n fr h x q h1):Et (n+1) fr h (.not x) (!q) h1:=geT fun k q=>by unfold stepT; exact b2 (e1 k q) rfl
theorem Et.and (e1:Ea n fr h l q h1):Et (n+1) fr h (.and l) q h1:=geS e1
theorem Et.or (e1:Eo n fr h l q h1):Et (n+1) fr h (.or l) q h1:=geS e1
theorem Ea.nil:Ea n fr h [] true h:=fun _ _=>rfl
theorem Ea.c (e1:Et n fr h x q h1) (e2:cond q (Ea n fr h1 l r h2) (r=false/\h2=h1)):Ea n fr h (x::l) r h2:=match q,e1,e2 with
 | true,e1,e2=>fun k q=>b2 (e1 k q) (e2 k q)
 | false,e1,⟨e2,e3⟩=>fun k q=>e2▸e3▸b2 (e1 k q) rfl
theorem Eo.nil:Eo n fr h [] false h:=fun _ _=>rfl
theorem Eo.c (e1:Et n fr h x q h1) (e2:cond q (r=true/\h2=h1) (Eo n fr h1 l r h2)):Eo n fr h (x::l) r h2:=match q,e1,e2 with
 | false,e1,e2=>fun k q=>b2 (e1 k q) (e2 k q)
 | true,e1,⟨e2,e3⟩=>fun k q=>e2▸e3▸b2 (e1 k q) rfl
theorem Et.cmp {c:Co} (e1:Ee n fr h x a h1) (e2:Ee n fr h1 y b h2) (e3:cmpv h2 a c b=some q):Et (n+1) fr h (.cmp x c y) q h2:=geT fun k g=>by unfold stepT; exact b2 (e1 k g) (b2 (e2 k g) (bm (f:=fun q=>(q,h2)) e3))
theorem Et.loc {m:Nat} (e1:Ee n fr h (.loc m) (.bool q) h1):Et (n+1) fr h (.loc m) q h1:=geT fun k q=>by unfold stepT; exact b2 (e1 k q) rfl
theorem Et.callF {f:Nat} (e1:Ee n fr h (.callF f l) (.bool q) h1):Et (n+1) fr h (.callF f l) q h1:=geT fun k q=>by unfold stepT; exact b2 (e1 k q) rfl
theorem Et.meth {m:Nat} (e1:Ee n fr h (.meth x m l) (.bool q) h1):Et (n+1) fr h (.meth x m l) q h1:=geT fun k q=>by unfold stepT; exact b2 (e1 k q) rfl
variable {sl sm:List S} {fl fl1:Fl}
noncomputable def Sk (n:Nat) (fl:Fl) (fr:FrA) (h:AH) (l:List S) (fl2:Fl) (fr2:FrA) (h2:AH):Prop:=match fl with
 | .next=>Es n fr h l fl2 fr2 h2
 | .brk=>Fl.brk=fl2/\fr=fr2/\h=h2
 | .cont=>Fl.cont=fl2/\fr=fr2/\h=h2
 | .ret v=>Fl.ret v=fl2/\fr=fr2/\h=h2
theorem Sk.nx (e:Es n fr h sl fl fr1 h1):Sk n .next fr h sl fl fr1 h1:=e
theorem Sk.rt:Sk n (.ret v) fr h sl (.ret v) fr h:=⟨rfl,rfl,rfl⟩
theorem Sk.bk:Sk n .brk fr h sl .brk fr h:=⟨rfl,rfl,rfl⟩
theorem Sk.ct:Sk n .cont fr h sl .cont fr h:=⟨rfl,rfl,rfl⟩
theorem Es.nil:Es n fr h [] .next fr h:=fun _ _=>rfl
theorem Es.k {x:S} (e1:Em n fr h x fl1 fr1 h1) (e2:Sk n fl1 fr1 h1 sl fl fr2 h2):Es n fr h (x::sl) fl fr2 h2:=match fl1,e1,e2 with
 | .next,e1,e2=>fun k q=>(congrArg (fun o=>sq o fun fr h=>ss (V k) fr h sl) (e1 k q)).trans (e2 k q)
 | .brk,e1,⟨a,b,c⟩=>a▸b▸c▸fun k q=>congrArg (fun o=>sq o fun fr h=>ss (V k) fr h sl) (e1 k q)
 | .cont,e1,⟨a,b,c⟩=>a▸b▸c▸fun k q=>congrArg (fun o=>sq o fun fr h=>ss (V k) fr h sl) (e1 k q)
 | .ret v,e1,⟨a,b,c⟩=>a▸b▸c▸fun k q=>congrArg (fun o=>sq o fun fr h=>ss (V k) fr h sl) (e1 k q)
theorem Es.c {x:S} (e1:Em n fr h x .next fr1 h1) (e2:Es n fr1 h1 sl fl fr2 h2):Es n fr h (x::sl) fl fr2 h2:=Es.k e1 (Sk.nx e2)
theorem Es.e {x:S} (e1:Em n fr h x fl fr1 h1) (hf:fl.ctorIdx≠0):Es n fr h (x::sl) fl fr1 h1:=Es.k e1 (match fl,hf with
 | .next,hf=>absurd rfl hf
 | .brk,_=>Sk.bk | .cont,_=>Sk.ct | .ret _,_=>Sk.rt)
noncomputable def isP (x:X):Bool:=x.ctorIdx==X.ctorIdx (.comp (.cst .none) [])
theorem asg_p (hx:isP x=false) (r:Ev):asgv r fr h x=r.e fr h x:=by
 cases x with
 | comp=>exact nomatch (show true=false from hx)
 | _=>rfl
theorem Em.asg {m:Nat} (hx:isP x=false) (e1:Ee n fr h x v h1):Em (n+1) fr h (.asg m x) .next (fr.sl m v) h1:=geM fun k q=>by unfold stepS; exact b2 (K:=fun v h=>some (Fl.next,({ fr with loc:=up fr.loc m v }:FrA),h)) ((asg_p hx _).trans (e1 k q)) rfl
theorem Es.asg {m:Nat} (hx:isP x=false) (e1:Ee n fr h x v h1) (e2:Es (n+1) (fr.sl m v) h1 sl fl fr2 h2):Es (n+1) fr h (.asg m x::sl) fl fr2 h2:=Es.c (Em.asg hx e1) e2
theorem Es.asgP {m:Nat} (e1:Ek n fr h x gs v h1) (e2:Es (n+1) (fr.sl m v) h1 sl fl fr2 h2):Es (n+1) fr h (.asg m (.comp x gs)::sl) fl fr2 h2:=Es.c (geM fun k q=>by unfold stepS; exact b2 (o:=compE (V k) fr h x gs) (K:=fun v h=>some (Fl.next,({ fr with loc:=up fr.loc m v }:FrA),h)) (e1 k q) rfl) e2
theorem Es.asgC {m:Nat} (e1:Ee n fr h x v h1) (e2:Es (n+1) (fr.sc m v) h1 sl fl fr2 h2):Es (n+1) fr h (.asgC m x::sl) fl fr2 h2:=Es.c (geM fun k q=>by unfold stepS; exact b2 (K:=fun v h=>some (Fl.next,({ fr with cel:=up fr.cel m v }:FrA),h)) (e1 k q) rfl) e2
theorem Es.asgS (e1:Ee n fr h x v h1) (e2:Ee n fr h1 y a h2) (e3:Ee n fr h2 z b h3) (e4:storeI h3 a b v=some h4) (e5:Es (n+1) fr h4 sl fl fr2 h2'):Es (n+1) fr h (.asgS y z x::sl) fl fr2 h2':=Es.c (geM fun k q=>by unfold stepS; exact b2 (e1 k q) (b2 (e2 k q) (b2 (e3 k q) (bm (f:=fun h=>(Fl.next,fr,h)) e4)))) e5
theorem Es.asgT {l:List T} (e1:Ee n fr h x v h1) (e2:bindT fr (.tup l) v=some (fr.bT (.tup l) v)) (e3:Es (n+1) (fr.bT (.tup l) v) h1 sl fl fr2 h2):Es (n+1) fr h (.asgT l x::sl) fl fr2 h2:=Es.c (geM fun k q=>by unfold stepS; exact b2 (e1 k q) (bm (f:=fun fr=>(Fl.next,fr,h1)) e2)) e3
theorem Es.asgW {l:List Nat} (e1:Ee n fr h x (.tup vs) h1) (e2:bindTs fr (l.map .loc) vs.reverse=some (fr.bW (l.map .loc) vs.reverse)) (e3:Es (n+1) (fr.bW (l.map .loc) vs.reverse) h1 sl fl fr2 h2):Es (n+1) fr h (.asgW l x::sl) fl fr2 h2:=Es.c (geM fun k q=>by unfold stepS; exact b2 (e1 k q) (bm (f:=fun fr=>(Fl.next,fr,h1)) e2)) e3
theorem Em.expr (e1:Ee n fr h x v h1):Em (n+1) fr h (.expr x) .next fr h1:=geM fun k q=>by unfold stepS; exact b2 (e1 k q) rfl
theorem Em.up {m:Nat} {x:S} (e:Em n fr h x fl fr1 h1) (hm:n<=m):Em m fr h x fl fr1 h1:=fun k q=>e k (ltr hm q)
theorem Es.expr (e1:Ee n fr h x v h1) (e2:Es (n+1) fr h1 sl fl fr2 h2):Es (n+1) fr h (.expr x::sl) fl fr2 h2:=Es.c (Em.expr e1) e2
theorem Es.ret (e1:Ee n fr h x v h1):Es (n+1) fr h (.ret x::sl) (.ret v) fr h1:=Es.e (geM fun k q=>by unfold stepS; exact b2 (e1 k q) rfl) Nat.noConfusion
theorem Es.cont:Es (n+1) fr h (.cont::sl) .cont fr h:=Es.e (geS fun _ _=>rfl) Nat.noConfusion
theorem Es.brk:Es (n+1) fr h (.brk::sl) .brk fr h:=Es.e (geS fun _ _=>rfl) Nat.noConfusion
theorem Em.ite (e1:Et n fr h x q h1) (e2:Es n fr h1 (cond q sl sm) fl fr1 h2):Em (n+1) fr h (.ite x sl sm) fl fr1 h2:=match q,e1,e2 with
 | true,e1,e2=>geM fun k q=>by unfold stepS; exact b2 (e1 k q) (e2 k q)
 | false,e1,e2=>geM fun k q=>by unfold stepS; exact b2 (e1 k q) (e2 k q)
theorem Es.ite {su:List S} (e1:Et n fr h x q h1) (e2:Es n fr h1 (cond q sl sm) fl1 fr1 h2) (e3:Sk (n+1) fl1 fr1 h2 su fl fr2 h3):Es (n+1) fr h (.ite x sl sm::su) fl fr2 h3:=Es.k (Em.ite e1 e2) e3
theorem Es.for_ (e1:Ei n fr h it ws lo h1) (e2:Ef n fr (h1.lock lo) t sm ws fl1 fr1 h2) (e3:Sk (n+1) fl1 fr1 (h2.wr h1.ro) sl fl fr2 h3):Es (n+1) fr h (.for_ t it sm::sl) fl fr2 h3:=Es.k (geM fun k q=>by unfold stepS; exact b4 (e1 k q) (b3 (e2 k q) rfl)) e3
theorem Ef.nil:Ef n fr h t sl [] .next fr h:=fun _ _=>rfl
noncomputable def Fk (n:Nat) (fl:Fl) (fr:FrA) (h:AH) (t:T) (sl:List S) (ws:List AV) (fl2:Fl) (fr2:FrA) (h2:AH):Prop:=∀ k,n<=k->lp (some (fl,fr,h)) (fun fr h=>forGo (V k) t sl ws fr h)=some (fl2,fr2,h2)
theorem Ef.k (hb:bindT fr t v=some (fr.bT t v)) (e1:Es n (fr.bT t v) h sl fl1 fr2 h1) (e2:Fk n fl1 fr2 h1 t sl ws fl fr3 h2):Ef n fr h t sl (v::ws) fl fr3 h2:=fun k q=>bo hb ((congrArg (fun o=>lp o fun fr h=>forGo (V k) t sl ws fr h) (e1 k q)).trans (e2 k q))
theorem Fk.nx (e:Ef n fr h t sl ws fl fr1 h1):Fk n .next fr h t sl ws fl fr1 h1:=e
theorem Fk.ct (e:Ef n fr h t sl ws fl fr1 h1):Fk n .cont fr h t sl ws fl fr1 h1:=e
theorem Fk.bk:Fk n .brk fr h t sl ws .next fr h:=fun _ _=>rfl
theorem Fk.rt:Fk n (.ret v) fr h t sl ws (.ret v) fr h:=fun _ _=>rfl
theorem Cl.mk {f:Nat} {F:Fn} (hf:L2.P.fn f=some F) (hb:bindP F.params vs ⟨[],[]⟩=some (frP F.params vs)) (e1:Es n (frP F.params vs) h F.body fl fr1 h1) (e2:cond F.gc (freeze h.nx (retOf fl) h1) (retOf fl,h1)=(v,h2)):Cl (n+1) h f vs v h2:=geC fun k q=>bo hf (bo hb (b3 (e1 k q) (congrArg some e2)))
theorem Cl.up {m f:Nat} (e:Cl n h f vs v h1) (hm:Nat.ble n m=true):Cl m h f vs v h1:=fun k q=>e k (ltr (Nat.le_of_ble_eq_true hm) q)
theorem Ef.up {m:Nat} (e:Ef n fr h t sl ws fl fr1 h1) (hm:Nat.ble n m=true):Ef m fr h t sl ws fl fr1 h1:=fun k q=>e k (ltr (Nat.le_of_ble_eq_true hm) q)
theorem Ee.up {m:Nat} (e:Ee n fr h x v h1) (hm:n<=m):Ee m fr h x v h1:=fun k q=>e k (ltr hm q)
theorem Ek.up {m:Nat} (e:Ek n fr h x gs v h1) (hm:Nat.ble n m=true):Ek m fr h x gs v h1:=fun k q=>e k (ltr (Nat.le_of_ble_eq_true hm) q)
theorem Es.up {m:Nat} (e:Es n fr h sl fl fr1 h1) (hm:n<=m):Es m fr h sl fl fr1 h1:=fun k q=>e k (ltr hm q)
end
end Mine.Internal
namespace Mine.Internal
section
variable {Z:Prop}
theorem x1c2 {α0:Type} {A B:α0->Prop} (h:∃ x0,A x0/\B x0) (k:∀ x0,A x0->B x0->Z):Z:=h.elim fun x0 h=>k x0 h.1 h.2
theorem x1c3 {α0:Type} {A B C:α0->Prop} (h:∃ x0,A x0/\B x0/\C x0) (k:∀ x0,A x0->B x0->C x0->Z):Z:=h.elim fun x0 h=>k x0 h.1 h.2.1 h.2.2
theorem x2c3 {α0:Type} {α1:Type} {A B C:α0->α1->Prop} (h:∃ x0,∃ x1,A x0 x1/\B x0 x1/\C x0 x1) (k:∀ x0 x1,A x0 x1->B x0 x1->C x0 x1->Z):Z:=h.elim fun x0 h=>h.elim fun x1 h=>k x0 x1 h.1 h.2.1 h.2.2
theorem x2c4 {α0:Type} {α1:Type} {A B C D:α0->α1->Prop} (h:∃ x0,∃ x1,A x0 x1/\B x0 x1/\C x0 x1/\D x0 x1) (k:∀ x0 x1,A x0 x1->B x0 x1->C x0 x1->D x0 x1->Z):Z:=h.elim fun x0 h=>h.elim fun x1 h=>k x0 x1 h.1 h.2.1 h.2.2.1 h.2.2.2
theorem x2c5 {α0:Type} {α1:Type} {A B C D E:α0->α1->Prop} (h:∃ x0,∃ x1,A x0 x1/\B x0 x1/\C x0 x1/\D x0 x1/\E x0 x1) (k:∀ x0 x1,A x0 x1->B x0 x1->C x0 x1->D x0 x1->E x0 x1->Z):Z:=h.elim fun x0 h=>h.elim fun x1 h=>k x0 x1 h.1 h.2.1 h.2.2.1 h.2.2.2.1 h.2.2.2.2
theorem x2c6 {α0:Type} {α1:Type} {A B C D E F:α0->α1->Prop} (h:∃ x0,∃ x1,A x0 x1/\B x0 x1/\C x0 x1/\D x0 x1/\E x0 x1/\F x0 x1) (k:∀ x0 x1,A x0 x1->B x0 x1->C x0 x1->D x0 x1->E x0 x1->F x0 x1->Z):Z:=h.elim fun x0 h=>h.elim fun x1 h=>k x0 x1 h.1 h.2.1 h.2.2.1 h.2.2.2.1 h.2.2.2.2.1 h.2.2.2.2.2
theorem x3c3 {α0:Type} {α1:Type} {α2:Type} {A B C:α0->α1->α2->Prop} (h:∃ x0,∃ x1,∃ x2,A x0 x1 x2/\B x0 x1 x2/\C x0 x1 x2) (k:∀ x0 x1 x2,A x0 x1 x2->B x0 x1 x2->C x0 x1 x2->Z):Z:=h.elim fun x0 h=>h.elim fun x1 h=>h.elim fun x2 h=>k x0 x1 x2 h.1 h.2.1 h.2.2
theorem x3c4 {α0:Type} {α1:Type} {α2:Type} {A B C D:α0->α1->α2->Prop} (h:∃ x0,∃ x1,∃ x2,A x0 x1 x2/\B x0 x1 x2/\C x0 x1 x2/\D x0 x1 x2) (k:∀ x0 x1 x2,A x0 x1 x2->B x0 x1 x2->C x0 x1 x2->D x0 x1 x2->Z):Z:=h.elim fun x0 h=>h.elim fun x1 h=>h.elim fun x2 h=>k x0 x1 x2 h.1 h.2.1 h.2.2.1 h.2.2.2
theorem x3c5 {α0:Type} {α1:Type} {α2:Type} {A B C D E:α0->α1->α2->Prop} (h:∃ x0,∃ x1,∃ x2,A x0 x1 x2/\B x0 x1 x2/\C x0 x1 x2/\D x0 x1 x2/\E x0 x1 x2) (k:∀ x0 x1 x2,A x0 x1 x2->B x0 x1 x2->C x0 x1 x2->D x0 x1 x2->E x0 x1 x2->Z):Z:=h.elim fun x0 h=>h.elim fun x1 h=>h.elim fun x2 h=>k x0 x1 x2 h.1 h.2.1 h.2.2.1 h.2.2.2.1 h.2.2.2.2
theorem x4c6 {α0:Type} {α1:Type} {α2:Type} {α3:Type} {A B C D E F:α0->α1->α2->α3->Prop} (h:∃ x0,∃ x1,∃ x2,∃ x3,A x0 x1 x2 x3/\B x0 x1 x2 x3/\C x0 x1 x2 x3/\D x0 x1 x2 x3/\E x0 x1 x2 x3/\F x0 x1 x2 x3) (k:∀ x0 x1 x2 x3,A x0 x1 x2 x3->B x0 x1 x2 x3->C x0 x1 x2 x3->D x0 x1 x2 x3->E x0 x1 x2 x3->F x0 x1 x2 x3->Z):Z:=h.elim fun x0 h=>h.elim fun x1 h=>h.elim fun x2 h=>h.elim fun x3 h=>k x0 x1 x2 x3 h.1 h.2.1 h.2.2.1 h.2.2.2.1 h.2.2.2.2.1 h.2.2.2.2.2
theorem x5c5 {α0:Type} {α1:Type} {α2:Type} {α3:Type} {α4:Type} {A B C D E:α0->α1->α2->α3->α4->Prop} (h:∃ x0,∃ x1,∃ x2,∃ x3,∃ x4,A x0 x1 x2 x3 x4/\B x0 x1 x2 x3 x4/\C x0 x1 x2 x3 x4/\D x0 x1 x2 x3 x4/\E x0 x1 x2 x3 x4) (k:∀ x0 x1 x2 x3 x4,A x0 x1 x2 x3 x4->B x0 x1 x2 x3 x4->C x0 x1 x2 x3 x4->D x0 x1 x2 x3 x4->E x0 x1 x2 x3 x4->Z):Z:=h.elim fun x0 h=>h.elim fun x1 h=>h.elim fun x2 h=>h.elim fun x3 h=>h.elim fun x4 h=>k x0 x1 x2 x3 x4 h.1 h.2.1 h.2.2.1 h.2.2.2.1 h.2.2.2.2
theorem x6c4 {α0:Type} {α1:Type} {α2:Type} {α3:Type} {α4:Type} {α5:Type} {A B C D:α0->α1->α2->α3->α4->α5->Prop} (h:∃ x0,∃ x1,∃ x2,∃ x3,∃ x4,∃ x5,A x0 x1 x2 x3 x4 x5/\B x0 x1 x2 x3 x4 x5/\C x0 x1 x2 x3 x4 x5/\D x0 x1 x2 x3 x4 x5) (k:∀ x0 x1 x2 x3 x4 x5,A x0 x1 x2 x3 x4 x5->B x0 x1 x2 x3 x4 x5->C x0 x1 x2 x3 x4 x5->D x0 x1 x2 x3 x4 x5->Z):Z:=h.elim fun x0 h=>h.elim fun x1 h=>h.elim fun x2 h=>h.elim fun x3 h=>h.elim fun x4 h=>h.elim fun x5 h=>k x0 x1 x2 x3 x4 x5 h.1 h.2.1 h.2.2.1 h.2.2.2
theorem x6c12 {α0:Type} {α1:Type} {α2:Type} {α3:Type} {α4:Type} {α5:Type} {A B C D E F G H I J K L:α0->α1->α2->α3->α4->α5->Prop} (h:∃ x0,∃ x1,∃ x2,∃ x3,∃ x4,∃ x5,A x0 x1 x2 x3 x4 x5/\B x0 x1 x2 x3 x4 x5/\C x0 x1 x2 x3 x4 x5/\D x0 x1 x2 x3 x4 x5/\E x0 x1 x2 x3 x4 x5/\F x0 x1 x2 x3 x4 x5/\G x0 x1 x2 x3 x4 x5/\H x0 x1 x2 x3 x4 x5/\I x0 x1 x2 x3 x4 x5/\J x0 x1 x2 x3 x4 x5/\K x0 x1 x2 x3 x4 x5/\L x0 x1 x2 x3 x4 x5) (k:∀ x0 x1 x2 x3 x4 x5,A x0 x1 x2 x3 x4 x5->B x0 x1 x2 x3 x4 x5->C x0 x1 x2 x3 x4 x5->D x0 x1 x2 x3 x4 x5->E x0 x1 x2 x3 x4 x5->F x0 x1 x2 x3 x4 x5->G x0 x1 x2 x3 x4 x5->H x0 x1 x2 x3 x4 x5->I x0 x1 x2 x3 x4 x5->J x0 x1 x2 x3 x4 x5->K x0 x1 x2 x3 x4 x5->L x0 x1 x2 x3 x4 x5->Z):Z:=h.elim fun x0 h=>h.elim fun x1 h=>h.elim fun x2 h=>h.elim fun x3 h=>h.elim fun x4 h=>h.elim fun x5 h=>k x0 x1 x2 x3 x4 x5 h.1 h.2.1 h.2.2.1 h.2.2.2.1 h.2.2.2.2.1 h.2.2.2.2.2.1 h.2.2.2.2.2.2.1 h.2.2.2.2.2.2.2.1 h.2.2.2.2.2.2.2.2.1 h.2.2.2.2.2.2.2.2.2.1 h.2.2.2.2.2.2.2.2.2.2.1 h.2.2.2.2.2.2.2.2.2.2.2
theorem x7c6 {α0:Type} {α1:Type} {α2:Type} {α3:Type} {α4:Type} {α5:Type} {α6:Type} {A B C D E F:α0->α1->α2->α3->α4->α5->α6->Prop} (h:∃ x0,∃ x1,∃ x2,∃ x3,∃ x4,∃ x5,∃ x6,A x0 x1 x2 x3 x4 x5 x6/\B x0 x1 x2 x3 x4 x5 x6/\C x0 x1 x2 x3 x4 x5 x6/\D x0 x1 x2 x3 x4 x5 x6/\E x0 x1 x2 x3 x4 x5 x6/\F x0 x1 x2 x3 x4 x5 x6) (k:∀ x0 x1 x2 x3 x4 x5 x6,A x0 x1 x2 x3 x4 x5 x6->B x0 x1 x2 x3 x4 x5 x6->C x0 x1 x2 x3 x4 x5 x6->D x0 x1 x2 x3 x4 x5 x6->E x0 x1 x2 x3 x4 x5 x6->F x0 x1 x2 x3 x4 x5 x6->Z):Z:=h.elim fun x0 h=>h.elim fun x1 h=>h.elim fun x2 h=>h.elim fun x3 h=>h.elim fun x4 h=>h.elim fun x5 h=>h.elim fun x6 h=>k x0 x1 x2 x3 x4 x5 x6 h.1 h.2.1 h.2.2.1 h.2.2.2.1 h.2.2.2.2.1 h.2.2.2.2.2
theorem x7c8 {α0:Type} {α1:Type} {α2:Type} {α3:Type} {α4:Type} {α5:Type} {α6:Type} {A B C D E F G H:α0->α1->α2->α3->α4->α5->α6->Prop} (h:∃ x0,∃ x1,∃ x2,∃ x3,∃ x4,∃ x5,∃ x6,A x0 x1 x2 x3 x4 x5 x6/\B x0 x1 x2 x3 x4 x5 x6/\C x0 x1 x2 x3 x4 x5 x6/\D x0 x1 x2 x3 x4 x5 x6/\E x0 x1 x2 x3 x4 x5 x6/\F x0 x1 x2 x3 x4 x5 x6/\G x0 x1 x2 x3 x4 x5 x6/\H x0 x1 x2 x3 x4 x5 x6) (k:∀ x0 x1 x2 x3 x4 x5 x6,A x0 x1 x2 x3 x4 x5 x6->B x0 x1 x2 x3 x4 x5 x6->C x0 x1 x2 x3 x4 x5 x6->D x0 x1 x2 x3 x4 x5 x6->E x0 x1 x2 x3 x4 x5 x6->F x0 x1 x2 x3 x4 x5 x6->G x0 x1 x2 x3 x4 x5 x6->H x0 x1 x2 x3 x4 x5 x6->Z):Z:=h.elim fun x0 h=>h.elim fun x1 h=>h.elim fun x2 h=>h.elim fun x3 h=>h.elim fun x4 h=>h.elim fun x5 h=>h.elim fun x6 h=>k x0 x1 x2 x3 x4 x5 x6 h.1 h.2.1 h.2.2.1 h.2.2.2.1 h.2.2.2.2.1 h.2.2.2.2.2.1 h.2.2.2.2.2.2.1 h.2.2.2.2.2.2.2
end
theorem nbS {i j:Nat} (h:Nat.beq i j=false):Nat.beq j i=false:=nbF fun e=>nomatch (Nat.beq_refl j).symm.trans ((congrArg (fun x=>Nat.beq x j) e).trans h)
theorem nbN {i j:Nat} (h:Nat.beq i j=false):i≠j:=fun e=>nomatch (Nat.beq_refl i).symm.trans ((congrArg (Nat.beq i) e).trans h)
section
variable {α:Type} {R:Option α}
theorem lk_skip {m i:Nat} {v:α} {l:List (Nat×α)} (h:Nat.beq m i=false) (e:lk l i=R):lk ((m,v)::l) i=R:=by
 show (match Nat.beq m i with | true=>some v | false=>lk l i)=R
 rw [h]; exact e
end
theorem hasN_skip {a i:Nat} {l:List Nat} {b:Bool} (h:Nat.beq a i=false) (e:hasN l i=b):hasN (a::l) i=b:=by
 show (match Nat.beq a i with | true=>true | false=>hasN l i)=b
 rw [h]; exact e
theorem hasN_append' (b:List Nat) (i:Nat):∀ a:List Nat,hasN (a++b) i=(hasN a i||hasN b i)
 | []=>rfl
 | x::a=>by
  show (match Nat.beq x i with | true=>true | false=>hasN (a++b) i)=((match Nat.beq x i with | true=>true | false=>hasN a i)||hasN b i)
  cases Nat.beq x i with
  | true=>rfl
  | false=>exact hasN_append' b i a
structure Wf (J:AH):Prop where
 ob:∀ i o,lk J.ob i=some o->i < J.nx
 ro:∀ i,hasN J.ro i=true->i < J.nx
theorem Wf.free {J:AH} (w:Wf J) {i:Nat} (h:J.nx<=i):hasN J.ro i=false:=Bool.eq_false_iff.mpr fun q=>absurd (w.ro i q) (Nat.not_lt.mpr h)
structure Ch (S:List Nat) (J J':AH):Prop where
 ro:J'.ro=J.ro
 nx:J.nx<=J'.nx
 keep:∀ i,i < J.nx->i∉S->lk J'.ob i=lk J.ob i
 wf:Wf J'
section
variable {S T:List Nat} {J J' Ja Jb:AH}
theorem Ch.refl (w:Wf J):Ch S J J:=⟨rfl,Nat.le_refl _,fun _ _ _=>rfl,w⟩
theorem Ch.trans (a:Ch S J Ja) (b:Ch S Ja Jb):Ch S J Jb :=
 ⟨b.ro.trans a.ro,ltr a.nx b.nx,fun i hi hs=>(b.keep i (Nat.lt_of_lt_of_le hi a.nx) hs).trans (a.keep i hi hs),b.wf⟩
theorem Ch.mono (a:Ch S J J') (h:∀ i∈S,i∈T):Ch T J J':=⟨a.ro,a.nx,fun i hi hs=>a.keep i hi fun z=>hs (h i z),a.wf⟩
theorem Ch.gr (a:Ch [] J J'):Ch S J J':=a.mono fun _ h=>nomatch h
theorem Ch.at (a:Ch S J J') (w:Wf J) {i:Nat} {o:AO} (h:lk J.ob i=some o) (hs:i∉S):lk J'.ob i=some o:=(a.keep i (w.ob i o h) hs).trans h
theorem Ch.at0 (a:Ch [] J J') (w:Wf J) {i:Nat} {o:AO} (h:lk J.ob i=some o):lk J'.ob i=some o:=a.at w h fun h=>nomatch h
theorem Ch.cong (a:Ch S J J') {i:Nat} (h:hasN J.ro i=false):hasN J'.ro i=false:=by rw [a.ro]; exact h
theorem Ch.ad (a:Ch S J J') (o:AO):Ch S J (J'.ad o) :=
 ⟨a.ro,Nat.le_succ_of_le a.nx,fun i hi hs=>(lk_skip (nbF (Nat.ne_of_gt (Nat.lt_of_lt_of_le hi a.nx))) rfl).trans (a.keep i hi hs),fun i _ h=>lk_in (F:=fun i _=>i < J'.nx+1) h (Nat.lt_succ_self _) fun _ h=>Nat.lt_succ_of_lt (a.wf.ob _ _ h),fun i h=>Nat.lt_succ_of_lt (a.wf.ro i h)⟩
theorem Ch.new (w:Wf J) (o:AO):Ch S J (J.ad o):=(Ch.refl w).ad o
theorem Ch.st (a:Ch S J J') {i:Nat} {o o':AO} (h:lk J'.ob i=some o) (hi:i∈S∨J.nx<=i):Ch S J (J'.st i o') :=
 ⟨a.ro,a.nx,fun j hj hs=>(up_else (fun z:i=j=>hi.elim (fun q=>hs (show j∈S from z▸q)) fun q=>absurd hj (Nat.not_lt.mpr (show J.nx<=j from z▸q))) ..).trans (a.keep j hj hs),fun j q e=>up_in (F:=fun j _=>j < J'.nx) e (a.wf.ob _ _ h) fun _ e=>a.wf.ob _ _ e,a.wf.ro⟩
theorem Wf.lock (w:Wf J) {lo:List Nat} (h:∀ i,hasN lo i=true->i < J.nx):Wf (J.lock lo):=⟨w.ob,fun i hi=>by
 have hi:(hasN lo i||hasN J.ro i)=true:=(hasN_append' ..).symm.trans hi
 exact (Bool.or_eq_true_iff.mp hi).elim (h i) (w.ro i)⟩
theorem Wf.lock1 (w:Wf J) {i:Nat} (h:i < J.nx):Wf (J.lock [i]):=w.lock fun j hj=>by
 have:i=j:=Nat.eq_of_beq_eq_true ((boolK (F:=fun b=>(match b with | true=>true | false=>false)=b) rfl rfl).symm.trans hj)
 exact this▸h
theorem Ch.newS (c:Ch [] J Ja) (D:Ch [J.nx] Ja J'):Ch [] J J' :=
 ⟨D.ro.trans c.ro,ltr c.nx D.nx,fun j hj _=>(D.keep j (Nat.lt_of_lt_of_le hj c.nx) fun z=>absurd hj (by rw [List.mem_singleton.mp z]; exact Nat.lt_irrefl _)).trans (c.keep j hj fun z=>nomatch z),D.wf⟩
theorem Ch.lock {lo:List Nat} (a:Ch S (J.lock lo) J') (w:Wf J):Ch S J (J'.wr J.ro):=⟨rfl,a.nx,a.keep,a.wf.ob,fun i hi=>Nat.lt_of_lt_of_le (w.ro i hi) a.nx⟩
noncomputable def AH.dr (h:AH) (i:Nat):AH:=⟨h.nx,h.ro,h.ob.filter fun p=>!(Nat.beq p.1 i)⟩
theorem lk_dr {i j:Nat} (h:Nat.beq i j=false):∀ l:List (Nat×AO),lk (l.filter fun p=>!(Nat.beq p.1 i)) j=lk l j:=by
 intro l
 induction l with
 | nil =>
  exact rfl
 | cons p l ih =>
  rw [List.filter_cons]
  cases q:Nat.beq p.1 i with
  | true=>exact (ih).trans (lk_skip (R:=lk l j) (Nat.eq_of_beq_eq_true q▸h) rfl).symm
  | false =>
   show (match Nat.beq p.1 j with | true=>some p.2 | false=>lk (l.filter fun p=>!(Nat.beq p.1 i)) j)=(match Nat.beq p.1 j with | true=>some p.2 | false=>lk l j)
   rw [ih]
theorem lk_drI {i j:Nat} {o:AO}:∀ {l:List (Nat×AO)},lk (l.filter fun p=>!(Nat.beq p.1 i)) j=some o->∃ o,(j,o)∈l:=by
 intro l
 induction l with
 | nil =>
  intro h
  exact nomatch h
 | cons p l ih =>
  intro h
  rw [List.filter_cons] at h
  cases q:Nat.beq p.1 i with
  | true=>rw [q] at h; exact (ih h).imp fun _=>.tail _
  | false =>
   rw [q] at h
   exact lk_in (F:=fun j _=>∃ o,(j,o)∈p::l) h ⟨p.2,.head _⟩ fun _ h=>(ih h).imp fun _=>.tail _
theorem mem_lk {j:Nat}:∀ {l:List (Nat×AO)} {o:AO},(j,o)∈l->∃ o,lk l j=some o
 | _,o,.head l=>⟨o,lk_cons_self j o l⟩
 | _,_,.tail p (as:=l) h=>match q:Nat.beq p.1 j with
  | true=>⟨p.2,Nat.eq_of_beq_eq_true q▸lk_cons_self p.1 p.2 l⟩
  | false=>(mem_lk h).imp fun _ e=>lk_skip q e
theorem Ch.dr (a:Ch S J J') {i:Nat} (hi:J.nx<=i):Ch S J (J'.dr i) :=
 ⟨a.ro,a.nx,fun j hj hs=>(lk_dr (nbF (Nat.ne_of_gt (Nat.lt_of_lt_of_le hj hi))) _).trans (a.keep j hj hs),fun _ _ e=>(lk_drI e).elim fun _ m=>(mem_lk m).elim fun _ e=>a.wf.ob _ _ e,a.wf.ro⟩
theorem at_new {o:AO}:lk (J.ad o).ob J.nx=some o:=lk_cons_self ..
theorem at_old {i:Nat} {o o':AO} (w:Wf J) (e:lk J.ob i=some o):lk (J.ad o').ob i=some o:=lk_skip (nbF (Nat.ne_of_gt (w.ob i o e))) e
theorem at_st {i:Nat} {o:AO}:lk (J.st i o).ob i=some o:=up_same ..
theorem at_stO {i j:Nat} {o o':AO} (h:Nat.beq i j=false) (e:lk J.ob j=some o):lk (J.st i o').ob j=some o:=(up_else (nbN h) ..).trans e
theorem Wf.ad (w:Wf J) (o:AO):Wf (J.ad o):=(Ch.new (S:=[]) w o).wf
theorem Wf.st (w:Wf J) {i:Nat} {o o':AO} (h:lk J.ob i=some o):Wf (J.st i o'):=((Ch.refl (S:=[i]) w).st h (.inl (.head _))).wf
theorem Wf.nb (w:Wf J) {i n:Nat} {o:AO} (e:lk J.ob i=some o) (h:J.nx<=n):Nat.beq n i=false:=nbF (Nat.ne_of_gt (Nat.lt_of_lt_of_le (w.ob i o e) h))
end
section
variable {h:AH} {i n m:Nat} {v w:AV} {l vs:List AV} {d:List (AV×AV)}
theorem it_lst (e:lk h.ob i=some (.lst l)):items h (.ref i)=some l:=bo (o:=lk h.ob i) e rfl
theorem it_dic (e:lk h.ob i=some (.dic d)):items h (.ref i)=some (d.map (·.1)):=bo (o:=lk h.ob i) e rfl
theorem lo_lst (e:lk h.ob i=some (.lst l)):lstOf h (.ref i)=some l:=bo (o:=lk h.ob i) e rfl
theorem sv_lst {j:Int} (e:lk h.ob i=some (.lst l)) (e2:at_ l j=some v):subv h (.ref i) (.int j)=some v:=bo (o:=lk h.ob i) e e2
theorem sv_dic (e:lk h.ob i=some (.dic d)) (e1:kfit w d=true) (e2:dget w d=some v):subv h (.ref i) w=some v:=bo (o:=lk h.ob i) e (bc e1 e2)
theorem cv_in {o:Option AV} (e:lk h.ob i=some (.dic d)) (e1:kfit v d=true) (e2:dget v d=o):cmpv h v .inn (.ref i)=some o.isSome:=bo (o:=lk h.ob i) e (bc e1 (congrArg (fun o=>some o.isSome) e2))
theorem cv_ni {o:Option AV} (e:lk h.ob i=some (.dic d)) (e1:kfit v d=true) (e2:dget v d=o):cmpv h v .notIn (.ref i)=some !o.isSome:=bm (f:=(!·)) (cv_in e e1 e2)
theorem cv_inl {b:Bool} (e:lk h.ob i=some (.lst l)) (e1:inv v l=some b):cmpv h v .inn (.ref i)=some b:=bo (o:=lk h.ob i) e e1
theorem cv_ii {a b:Int} {q:Bool} (e:(a==b)=q):cmpv h (.int a) .eq (.int b)=some q:=congrArg some e
theorem cv_nn {a b:Int} {q:Bool} (e:(a==b)=q):cmpv h (.int a) .ne (.int b)=some !q:=congrArg (fun q=>some !q) e
theorem cv_gt {a b:Int} {q:Bool} (e:decide (b < a)=q):cmpv h (.int a) .gt (.int b)=some q:=congrArg some e
theorem cv_ned {a b:List (Nat×AV)} {q:Bool} (e:eqv (.dct a) (.dct b)=some q):cmpv h (.dct a) .ne (.dct b)=some !q:=bm (f:=(!·)) e
variable {h1 h2:AH}
theorem mb_dct {k:Nat} {d:List (Nat×AV)} {o:Option AV} (e:lk d k=o):MB h1 h2 (.dct d) 89 [.str k] (o.getD .none) h2:=⟨e▸rfl⟩
theorem mb_dct2 {k:Nat} {d:List (Nat×AV)} {o:Option AV} (e:lk d k=o):MB h1 h2 (.dct d) 89 [.str k,w] (o.getD w) h2:=⟨e▸rfl⟩
theorem mb_d {R:Option (AV×AH)} (e:lk h1.ob i=some (.dic d)) (e1:lk h2.ob i=some (.dic d)) (e2:methD M0 h2 i d m vs=R):mB h1 h2 (.ref i) m vs=R:=by
 show cond (((lk h1.ob i).bind AO.n?).isNone) (((lk h1.ob i).bind AO.kd).bind fun a=>((lk h2.ob i).bind AO.kd).bind fun b=>chk (a==b) ((lk h2.ob i).bind _)) none=_
 rw [e,e1]
 exact e2
theorem mb_l {R:Option (AV×AH)} (e:lk h1.ob i=some (.lst l)) (e1:lk h2.ob i=some (.lst l)) (e2:methL M0 h2 i l m vs=R):mB h1 h2 (.ref i) m vs=R:=by
 show cond (((lk h1.ob i).bind AO.n?).isNone) (((lk h1.ob i).bind AO.kd).bind fun a=>((lk h2.ob i).bind AO.kd).bind fun b=>chk (a==b) ((lk h2.ob i).bind _)) none=_
 rw [e,e1]
 exact e2
theorem mb_get {o:Option AV} (e:lk h1.ob i=some (.dic d)) (e':lk h2.ob i=some (.dic d)) (e1:kfit v d=true) (e2:dget v d=o):MB h1 h2 (.ref i) 89 [v] (o.getD .none) h2:=⟨mb_d e e' (bt (b:=true) rfl (bc e1 (e2▸rfl)))⟩
theorem mb_get2 {o:Option AV} (e:lk h1.ob i=some (.dic d)) (e':lk h2.ob i=some (.dic d)) (e1:kfit v d=true) (e2:dget v d=o):MB h1 h2 (.ref i) 89 [v,w] (o.getD w) h2:=⟨mb_d e e' (bt (b:=true) rfl (bc e1 (e2▸rfl)))⟩
theorem mb_pop0 (e:lk h1.ob i=some (.dic d)) (e':lk h2.ob i=some (.dic d)) (e1:kfit v d=true) (e2:dget v d=none):MB h1 h2 (.ref i) 168 [v,w] w h2:=⟨mb_d e e' (bf (b:=false) rfl (bc (b:=true) rfl (bc e1 (by rw [e2]))))⟩
theorem put_ok {o o':AO} (e:lk h.ob i=some o) (hr:hasN h.ro i=false):h.put i o'=some (h.st i o'):=bf hr (bm (o:=lk h.ob i) e)
theorem mb_pop {u:AV} (e:lk h1.ob i=some (.dic d)) (e':lk h2.ob i=some (.dic d)) (hr:hasN h2.ro i=false) (e1:kfit v d=true) (e2:dget v d=some u):MB h1 h2 (.ref i) 168 [v,w] u (h2.st i (.dic (ddel v d))):=⟨mb_d e e' (bf (b:=false) rfl (bc (b:=true) rfl (bc e1 (by rw [e2]; exact bm (f:=fun h=>(u,h)) (put_ok e' hr)))))⟩
theorem mb_app (e:lk h1.ob i=some (.lst l)) (e':lk h2.ob i=some (.lst l)) (hr:hasN h2.ro i=false) (e1:few (l.length+1)=true):MB h1 h2 (.ref i) 42 [v] .none (h2.st i (.lst (l++[v]))):=⟨mb_l e e' (bt (b:=true) rfl (bc e1 (bm (f:=fun h=>(AV.none,h)) (put_ok e' hr))))⟩
theorem mb_extL {j:Nat} (hj:Nat.beq j i=false) (e0:lk h2.ob j=some (.lst vs)) (e:lk h1.ob i=some (.lst l)) (e':lk h2.ob i=some (.lst l)) (hr:hasN h2.ro i=false) (e1:few (l.length+vs.length)=true):MB h1 h2 (.ref i) 84 [.ref j] .none (h2.st i (.lst (l++vs))) :=
 ⟨mb_l e e' (bf (b:=false) rfl (bt (b:=true) rfl (bo (o:=extL h2 i (.ref j)) (K:=fun ys=>chk (few (l.length+ys.length)) (h2.putV i (.lst (l++ys)) .none)) (bc (o:=(lk h2.ob j).bind AO.l?) (congrArg (!·) hj) (bo (o:=lk h2.ob j) e0 rfl)) (bc e1 (bm (f:=fun h=>(AV.none,h)) (put_ok e' hr))))))⟩
theorem mb_popL (e:lk h1.ob i=some (.lst (v::l))) (e':lk h2.ob i=some (.lst (v::l))) (hr:hasN h2.ro i=false):MB h1 h2 (.ref i) 168 [.int 0] v (h2.st i (.lst l)):=⟨mb_l e e' (bf (b:=false) rfl (bf (b:=false) rfl (bc (b:=true) rfl (bm (f:=fun h=>(v,h)) (put_ok e' hr)))))⟩
theorem st_dic (e:lk h.ob i=some (.dic d)) (hr:hasN h.ro i=false) (e1:kfit w d=true) (e2:few (dset w v d).length=true):storeI h (.ref i) w v=some (h.st i (.dic (dset w v d))):=bo (o:=lk h.ob i) e (bc (Bool.and_eq_true_iff.mpr ⟨e1,e2⟩) (put_ok e hr))
theorem bl_len (e:items h v=some l) (e1:few l.length=true):BL h .len v (.int l.length) h:=⟨bo (o:=items h v) e (bc e1 rfl)⟩
theorem bl_min {q:Int} (e:lk h.ob i=some (.lst l)) (e1:minI l=some q):BL h .min (.ref i) (.int q) h:=⟨bo (o:=lstOf h (.ref i)) (lo_lst e) (bm (f:=fun m=>(AV.int m,h)) e1)⟩
theorem bl_sorted (e:items h (.ref i)=some l) (e1:sortv l=some vs) (e2:few vs.length=true):BL h .sorted (.ref i) (.ref h.nx) (h.ad (.lst vs)):=⟨bo (o:=items h (.ref i)) e (bo e1 (bc e2 rfl))⟩
theorem bl_tuple (e:lk h.ob i=some (.lst l)):BL h .tuple (.ref i) (.tup l) h:=⟨bm (f:=fun l=>(AV.tup l,h)) (lo_lst e)⟩
theorem bl_list (e:items h (.ref i)=some l):BL h .list (.ref i) (.ref h.nx) (h.ad (.lst l)):=⟨bm (o:=items h (.ref i)) (f:=fun l=>h.new (.lst l)) e⟩
theorem bl_dctc {d:List (Nat×AV)} (e:few d.length=true):BL h .dict (.dct d) (.ref h.nx) (h.ad (.dic (d.map fun p=>(.str p.1,p.2)))):=⟨bc e rfl⟩
theorem bl_dictL {ps:List (AV×AV)} (e:lk h.ob i=some (.lst l)) (e1:pairsOf l=some ps) (e2:dsets ps []=some d):BL h .dict (.ref i) (.ref h.nx) (h.ad (.dic d)):=⟨bo (o:=lk h.ob i) e (bo e1 (bm (f:=fun d=>h.new (.dic d)) e2))⟩
theorem bn_lst {j:Nat} (e:lk h.ob i=some (.lst l)) (e1:lk h.ob j=some (.lst vs)) (e2:few (l.length+vs.length)=true):binop h (.ref i) .add (.ref j)=some (.ref h.nx,h.ad (.lst (l++vs))):=bo (o:=(lk h.ob i).bind AO.l?) (bo (o:=lk h.ob i) e rfl) (bo (o:=(lk h.ob j).bind AO.l?) (bo (o:=lk h.ob j) e1 rfl) (bc e2 rfl))
theorem bn_tup (e2:few (l.length+vs.length)=true):binop h (.tup l) .add (.tup vs)=some (.tup (l++vs),h):=bc e2 rfl
theorem sf_tup {j:Int} (e:(decide (1<=j/\j<=l.length)&&few l.length)=true):sliceFrom h (.tup l) (.int j)=some (.tup (l.drop j.toNat),h):=bc e rfl
theorem sf_lst {j:Int} (e:lk h.ob i=some (.lst l)) (e1:decide (0<=j)=true):sliceFrom h (.ref i) (.int j)=some (.ref h.nx,h.ad (.lst (l.drop j.toNat))):=bo (o:=(lk h.ob i).bind AO.l?) (bo (o:=lk h.ob i) e rfl) (bc e1 rfl)
theorem stp_lst {j:Int} (e:lk h.ob i=some (.lst l)) (e1:decide (0<=j)=true):sliceTo h (.ref i) (.int j)=some (.ref h.nx,h.ad (.lst (l.take j.toNat))):=bo (o:=lstOf h (.ref i)) (lo_lst e) (bc e1 rfl)
theorem bl_c {c:Bn} {a v:AV} {h':AH} (e:builtin h c a=some (v,h')):BL h c a v h':=⟨e⟩
theorem mb_c {o:AV} (e:mB h1 h2 o m vs=some (v,h)):MB h1 h2 o m vs v h:=⟨e⟩
theorem cr0 {g:Bool} (e:freeze n v h=(v,h)):cond g (freeze n v h) (v,h)=(v,h):=boolK (F:=fun g=>cond g (freeze n v h) (v,h)=(v,h)) e rfl
theorem fz_n (e:dictNew n v h=none):freeze n v h=(v,h):=by unfold freeze; rw [e]
theorem fz_s {q:Nat×List (Nat×AV)} (e:dictNew n v h=some q):freeze n v h=(.dct q.2,h.dr q.1):=by unfold freeze; rw [e]; rfl
theorem cN {α:Type} {b:Bool} {o:Option α} (e:o=none):chk b o=none:=boolK (F:=fun b=>chk b o=none) e rfl
theorem bN {α β:Type} {o:Option α} {K:α->Option β} {a:α} (e:o=some a) (e1:K a=none):o.bind K=none:=e▸e1
theorem fz_r (e:v.r?=none):freeze n v h=(v,h):=fz_n (by unfold dictNew; rw [e]; rfl)
theorem fz_lst (e:lk h.ob i=some (.lst l)):freeze n (.ref i) h=(.ref i,h):=fz_n (cN (bN (o:=lk h.ob i) e rfl))
theorem fz_dic {p:AV×AV} {l':List (Nat×AV)} (e:lk h.ob i=some (.dic (p::d))) (e1:allStr (p::d)=some l') (hn:n<=i) (hr:hasN h.ro i=false):freeze n (.ref i) h=(.dct l',h.dr i):=fz_s (q:=(i,l')) (bc (Nat.ble_eq_true_of_le hn) (bo (o:=lk h.ob i) e (bo (o:=allStr (p::d)) e1 (bc (congrArg (!·) hr) rfl))))
theorem cr_dic {R:AV×AH} {p:AV×AV} {l':List (Nat×AV)} (e:lk h.ob i=some (.dic (p::d))) (e1:allStr (p::d)=some l') (hn:n<=i) (hr:hasN h.ro i=false):cond true (freeze n (.ref i) h) R=(.dct l',h.dr i):=fz_dic e e1 hn hr
end
theorem few_ok {n:Nat} (h:n<=1000):few n=true:=Nat.ble_eq_true_of_le h
end Mine.Internal
namespace Mine.Internal
noncomputable def RepK {K:Type} (has:K->Prop) (U:K->Nat) (ct:K->AO) (J:AH):Prop:=∀ k,has k->lk J.ob (U k)=some (ct k)
section
variable {K:Type} {has:K->Prop} {U:K->Nat} {ct ct':K->AO} {J J':AH} {S:List Nat}
theorem RepK.ch (R:RepK has U ct J) (w:Wf J) (C:Ch S J J') (hS:∀ k,has k->U k∉S):RepK has U ct J':=fun k h=>C.at w (R k h) (hS k h)
theorem RepK.gr (R:RepK has U ct J) (w:Wf J) (C:Ch [] J J'):RepK has U ct J':=R.ch w C fun _ _ h=>nomatch h
theorem RepK.set (R:RepK has U ct J) (w:Wf J) (C:Ch S J J') (h1:∀ k,has k->U k∈S->lk J'.ob (U k)=some (ct' k)) (h2:∀ k,has k->U k∉S->ct' k=ct k):RepK has U ct' J' :=
 fun k h=>if q:U k∈S then h1 k h q else (C.at w (R k h) q).trans (congrArg some (h2 k h q).symm)
end
noncomputable def pre:AV:=.tup [.int 335544320,.int 8]
noncomputable def pl (o:Option AV):List (AV×AV):=(o.map fun v=>(pre,v)).toList
noncomputable def pdic (o:Option AV):AO:=.dic (pl o)
theorem optF {α:Type} {F:Option α->Prop} (h0:F none) (h1:∀ a,F (some a)):∀ o,F o
 | none=>h0
 | some a=>h1 a
theorem pre_fit:∀ o:Option AV,kfit pre (pl o)=true:=optF rfl fun _=>rfl
theorem pre_get:∀ o:Option AV,dget pre (pl o)=o:=optF rfl fun _=>rfl
theorem pre_set (v:AV):∀ o:Option AV,dset pre v (pl o)=pl (some v):=optF rfl fun _=>rfl
structure Pr where
 no:Int
 id:Int
 addr:Int
 kd:Bool
noncomputable def kdV (b:Bool):AV:=.str (cond b 61 95)
theorem kd_eq (h:AH) (b:Bool):cmpv h (kdV b) .eq (.str 82)=some false:=by cases b <;> rfl
theorem kd_ne (h:AH) (b:Bool):cmpv h (kdV b) .ne (.str 82)=some true:=by cases b <;> rfl
theorem kd_in (h:AH) (b:Bool):cmpv h (kdV b) .inn (.tup [.str 95,.str 61])=some true:=by cases b <;> rfl
theorem kd_ni (h:AH) (b:Bool):cmpv h (kdV b) .notIn (.tup [.str 95,.str 61])=some false:=by cases b <;> rfl
noncomputable abbrev Row:=List Nat
noncomputable def natV (n:Nat):AV:=.int n
noncomputable def rowT (r:Row):AV:=.tup (r.map natV)
noncomputable def ownV:AV:=.dct [(150,.int 0),(44,.tup []),(142,.int 11)]
noncomputable def rowL:Row->List (Nat×AV)
 | []=>[(150,.int 0),(44,.tup []),(142,.int 11),(126,.int 100)]
 | c::r=>[(150,.int 0),(44,.tup []),(142,.int 11),(126,.int 100),(152,.int 5),(63,rowT (c::r))]
noncomputable def rowV (r:Row):AV:=.dct (rowL r)
section
variable (h h1 h2:AH)
theorem sr_nh (a:Row):subv h (rowV a) (.str 142)=some (.int 11):=by cases a <;> rfl
theorem sr_ap (a:Row):subv h (rowV a) (.str 44)=some (.tup []):=by cases a <;> rfl
theorem gr_cl (a:Row):MB h1 h2 (rowV a) 89 [.str 63,.tup []] (rowT a) h2:=by cases a <;> exact ⟨rfl⟩
theorem gr_cm (a:Row):MB h1 h2 (rowV a) 89 [.str 66,.tup []] (.tup []) h2:=by cases a <;> exact ⟨rfl⟩
end
theorem all_m {α β:Type} {f:α->β} {p:β->Bool} (h:∀ a,p (f a)=true):∀ l:List α,(l.map f).all p=true
 | []=>rfl
 | a::l=>by rw [List.map_cons,List.all_cons,h a,all_m h l]; rfl
theorem dat_row (r:Row):dat (rowT r)=true:=by
 show ((r.map natV).all fun u=>lev AV.flat 7 u)=true
 exact all_m (fun _=>rfl) r
theorem eqB_nat (a b:Nat):eqB (natV a) (natV b)=decide (a=b):=decide_eq_decide.mpr ⟨Int.ofNat.inj,fun e=>congrArg _ e⟩
theorem eqBs_nats:∀ a b:Row,eqBs (a.map natV) (b.map natV)=decide (a=b)
 | [],[]=>rfl
 | [],_::_=>rfl
 | _::_,[]=>rfl
 | x::a,y::b=>by
  show (eqB (natV x) (natV y)&&eqBs (a.map natV) (b.map natV))=_
  rw [eqBs_nats a b,eqB_nat,← Bool.decide_and]
  exact decide_eq_decide.mpr (List.cons_eq_cons).symm
theorem eqv_row:∀ a b:Row,eqv (rowV a) (rowV b)=some (decide (a=b))
 | [],[]=>rfl
 | [],_::_=>rfl
 | _::_,[]=>rfl
 | x::a,y::b=>by
  have h:chk (dat (rowT (x::a))&&dat (rowT (y::b))) (some (eqB (rowT (x::a)) (rowT (y::b))&&true))=some (decide (x::a=y::b)):=by
   rw [dat_row,dat_row]
   show some (eqBs ((x::a).map natV) ((y::b).map natV)&&true)=_
   rw [eqBs_nats,Bool.and_true]
  have g:∀ o:Option Bool,(((((o.map fun q=>true&&q).map fun q=>true&&q).map fun q=>true&&q).map fun q=>true&&q).map fun q=>true&&q)=o:=optF rfl fun _=>rfl
  exact (g _).trans h
structure Rt where
 row:Row
 no:Option Int
 now:Int
noncomputable def noV (o:Option Int):AV:=(o.map AV.int).getD .none
noncomputable def Rt.a (r:Rt):AV:=r.no.elim ownV fun _=>rowV r.row
noncomputable def Rt.v (r:Rt):AV:=.tup [pre,r.a,noV r.no,.int (r.no.elim 0 fun _=>3),.int r.now]
noncomputable def Rt.c (r:Rt):Row:=r.no.elim [] fun _=>r.row
section
variable (h h1 h2:AH)
theorem sa_ap (r:Rt):subv h r.a (.str 44)=some (.tup []):=by obtain ⟨a,n,t⟩:=r; cases n <;> cases a <;> rfl
theorem sa_or (r:Rt):subv h r.a (.str 150)=some (.int 0):=by obtain ⟨a,n,t⟩:=r; cases n <;> cases a <;> rfl
theorem sa_nh (r:Rt):subv h r.a (.str 142)=some (.int 11):=by obtain ⟨a,n,t⟩:=r; cases n <;> cases a <;> rfl
theorem ga_lp (r:Rt):MB h1 h2 r.a 89 [.str 126,.int 100] (.int 100) h2:=by obtain ⟨a,n,t⟩:=r; cases n <;> cases a <;> exact ⟨rfl⟩
theorem ga_md (r:Rt):MB h1 h2 r.a 89 [.str 131,.int 0] (.int 0) h2:=by obtain ⟨a,n,t⟩:=r; cases n <;> cases a <;> exact ⟨rfl⟩
theorem ga_cl (r:Rt):MB h1 h2 r.a 89 [.str 63,.tup []] (rowT r.c) h2:=by obtain ⟨a,n,t⟩:=r; cases n <;> cases a <;> exact ⟨rfl⟩
end
inductive SKey | me | own | peers | ins | origins | costs | chosen | outs | pd (p:Pr) | ai (p:Pr) | rt (p:Pr) | st (p:Pr) | ot (p:Pr)
structure Sp where
 U:SKey->Nat
 id:Int
 addr:Int
 cl:Nat
 prs:List Pr
noncomputable def rtv (q:Row×Int):AV:=.tup [rowV q.1,.int q.2]
structure SpSt where
 org:Bool
 rt:Int->Option (Row×Int)
 cho:Option Rt
 out:Int->Option Row
noncomputable def Sp.has (s:Sp):SKey->Prop
 | .pd p=>p∈s.prs | .ai p=>p∈s.prs | .rt p=>p∈s.prs | .st p=>p∈s.prs | .ot p=>p∈s.prs
 | .me=>True | .own=>True | .peers=>True | .ins=>True | .origins=>True | .costs=>True | .chosen=>True | .outs=>True
noncomputable def ownAO (s:Sp):AO:=.dic [(.str 96,.int s.id),(.str 43,.int 100),(.str 37,.int s.addr),(.str 134,.int 0),(.str 62,natV s.cl)]
noncomputable def peerAO (p:Pr):AO:=.dic [(.str 96,.int p.id),(.str 43,.int 100),(.str 37,.int p.addr),(.str 109,kdV p.kd)]
noncomputable def Sp.attrs (s:Sp):List (Nat×AV):=[(159,.ref (s.U .own)),(149,.dct []),(166,.ref (s.U .peers)),(98,.ref (s.U .ins)),(153,.ref (s.U .origins)),(72,.ref (s.U .costs)),(59,.ref (s.U .chosen)),(157,.ref (s.U .outs))]
noncomputable def byNo (s:Sp) (f:Pr->SKey):List (AV×AV):=s.prs.map fun p=>(.int p.no,.ref (s.U (f p)))
noncomputable def aiAO (s:Sp) (p:Pr):AO:=.ins 0 [(109,kdV p.kd),(189,.ref (s.U (.rt p))),(204,.ref (s.U (.st p)))]
noncomputable def orgV (b:Bool):Option AV:=cond b (some ownV) none
noncomputable def Sp.ct (s:Sp) (x:SpSt):SKey->AO
 | .me=>.ins 17 s.attrs
 | .own=>ownAO s
 | .peers=>.dic (byNo s .pd)
 | .ins=>.dic (byNo s .ai)
 | .origins=>pdic (orgV x.org)
 | .costs=>.dic [(.int 11,.int 3)]
 | .chosen=>pdic (x.cho.map Rt.v)
 | .outs=>.dic (byNo s .ot)
 | .pd p=>peerAO p
 | .ai p=>aiAO s p
 | .rt p=>pdic ((x.rt p.no).map rtv)
 | .st _=>.dic []
 | .ot p=>pdic ((x.out p.no).map rowV)
noncomputable def isE (s:Sp):Bool:=(5:Int)==s.id
structure Sp.Ok (s:Sp):Prop where
 nd:(s.prs.map (·.no)).Nodup
 srt:sortv (s.prs.map fun p=>.int p.no)=some (s.prs.map fun p=>.int p.no)
 few:s.prs.length<=10
 id0:((0:Int)==s.id)=false
 adr:((11:Int)==s.addr)=isE s
 cl0:((s.cl:Int)==0)=isE s
 inj:∀ a b,s.has a->s.has b->s.U a=s.U b->a=b
noncomputable def SpRep (s:Sp) (x:SpSt) (J:AH):Prop:=RepK s.has s.U (s.ct x) J
theorem SpRep.gr {s:Sp} {x:SpSt} {J J':AH} (R:SpRep s x J) (w:Wf J) (C:Ch [] J J'):SpRep s x J':=RepK.gr R w C
theorem dget_no {g:Pr->AV} {p:Pr} {prs:List Pr} (hn:(prs.map (·.no)).Nodup) (hp:p∈prs):dget (.int p.no) (prs.map fun q=>(.int q.no,g q))=some (g p):=by
 induction prs with
 | nil=>exact nomatch hp
 | cons q l ih =>
  have h2:=List.nodup_cons.mp hn
  exact (List.mem_cons.mp hp).elim (fun e=>e▸bt (decide_eq_true rfl) rfl) fun hp=>bf (decide_eq_false fun e:q.no=p.no=>h2.1 (List.mem_map.mpr ⟨p,hp,e.symm⟩)) (ih h2.2 hp)
theorem kfit_no {g:Pr->AV} (i:Int):∀ prs:List Pr,kfit (.int i) (prs.map fun q=>(.int q.no,g q))=true
 | []=>rfl
 | _::_=>rfl
theorem inv_nats (n:Nat) (p:Row):inv (natV n) (p.map natV)=some (p.contains n):=by
 have h2:∀ l:Row,(l.map natV).any (fun y=>eqB y (natV n))=l.contains n:=fun l=>by
  induction l with
  | nil=>rfl
  | cons a l ih =>
   rw [List.map_cons,List.any_cons,ih,eqB_nat,List.contains_cons]
   exact congrArg (·||l.contains n) (decide_eq_decide.mpr ⟨Eq.symm,Eq.symm⟩)
 unfold inv
 rw [all_m (fun _=>rfl),h2]; rfl
theorem byNo_get {s:Sp} (o:s.Ok) (f:Pr->SKey) {p:Pr} (hp:p∈s.prs):dget (.int p.no) (byNo s f)=some (.ref (s.U (f p))):=dget_no (g:=fun p=>.ref (s.U (f p))) o.nd hp
theorem byNo_fit (s:Sp) (f:Pr->SKey) (i:Int):kfit (.int i) (byNo s f)=true:=kfit_no (g:=fun p=>.ref (s.U (f p))) i _
section
variable {s:Sp} {x:SpSt} {J:AH} (R:SpRep s x J)
include R
theorem SpRep.me:lk J.ob (s.U .me)=some (.ins 17 s.attrs):=R .me trivial
theorem SpRep.own:lk J.ob (s.U .own)=some (ownAO s):=R .own trivial
theorem SpRep.peers:lk J.ob (s.U .peers)=some (.dic (byNo s .pd)):=R .peers trivial
theorem SpRep.ins:lk J.ob (s.U .ins)=some (.dic (byNo s .ai)):=R .ins trivial
theorem SpRep.origins:lk J.ob (s.U .origins)=some (.dic (pl (orgV x.org))):=R .origins trivial
theorem SpRep.costs:lk J.ob (s.U .costs)=some (.dic [(.int 11,.int 3)]):=R .costs trivial
theorem SpRep.chosen:lk J.ob (s.U .chosen)=some (.dic (pl (x.cho.map Rt.v))):=R .chosen trivial
theorem SpRep.outs:lk J.ob (s.U .outs)=some (.dic (byNo s .ot)):=R .outs trivial
theorem SpRep.pd {p:Pr} (h:p∈s.prs):lk J.ob (s.U (.pd p))=some (peerAO p):=R (.pd p) h
theorem SpRep.ai {p:Pr} (h:p∈s.prs):lk J.ob (s.U (.ai p))=some (aiAO s p):=R (.ai p) h
theorem SpRep.rt {p:Pr} (h:p∈s.prs):lk J.ob (s.U (.rt p))=some (.dic (pl ((x.rt p.no).map rtv))):=R (.rt p) h
theorem SpRep.st {p:Pr} (h:p∈s.prs):lk J.ob (s.U (.st p))=some (.dic []):=R (.st p) h
theorem SpRep.ot {p:Pr} (h:p∈s.prs):lk J.ob (s.U (.ot p))=some (.dic (pl ((x.out p.no).map rowV))):=R (.ot p) h
end
noncomputable def Free (s:Sp) (J:AH):Prop:=∀ k,s.has k->hasN J.ro (s.U k)=false
end Mine.Internal
namespace Mine.Internal
local macro_rules | `(tactic| tb_rel)=>`(tactic| first | assumption | exact at_new | exact at_st | (apply at_stO; assumption; tb_rel) | (apply at_old; assumption; tb_rel))
local macro_rules | `(tactic| tb_start)=>`(tactic| first
 | exact Ee.cst | exact El.nil | apply El.c | apply Ee.sub | apply Ee.cmp | apply Ee.attr | apply Ee.callF | apply Ee.tup | apply Ee.callB | apply Ee.bin | apply Ee.lst | apply Ee.comp
 | apply Ee.dicN | apply Ee.dicF | exact Ed.nil | apply Ed.c | apply Ee.ite | apply Ee.and | apply Ee.or | apply Ee.slf | apply Ee.slt | apply Ee.items
 | apply Et.cmp | apply Et.not | apply Et.and | apply Et.or | apply Et.loc | apply Et.callF | apply Et.meth | apply Et.inVals
 | exact Ea.nil | apply Ea.c | exact Eo.nil | apply Eo.c | apply Ean.c | apply Eor.c
 | apply Es.asgP | apply Es.expr | apply Es.ret | apply Es.ite | exact Es.nil | apply Es.asgS | apply Es.for_ | apply Es.asgC | apply Es.asgT | apply Es.asgW | exact Es.cont | exact Es.brk
 | exact Sk.rt | apply Sk.nx | exact Sk.ct | exact Sk.bk | apply Ei.of | apply Ei.range | apply Ei.enum | exact Ef.nil | apply Ef.k | apply Fk.nx | apply Fk.ct | exact Fk.rt | exact Fk.bk
 | exact Eg.nil | apply Eg.k | apply Gk.yy | apply Gk.nn | apply Ec.nil | apply Ec.c)
local macro_rules | `(tactic| ktr_rel)=>`(tactic| first
 | with_reducible tb_start | exact Ee.loc rfl | exact Ee.cel rfl | exact Ee.glb rfl | with_reducible apply Ee.loc | with_reducible apply Ee.cel | ((with_reducible apply Ee.mB); exact rfl) | with_reducible apply Ee.mI | ((with_reducible apply Es.asg); exact rfl)
 | (apply Cl.up; assumption; exact rfl) | ((with_reducible apply Ef.up); assumption; exact rfl) | ((with_reducible apply Ek.up); assumption; exact rfl) | tb_rel | with_reducible apply Ek.mk | exact lk_sl | exact lk_sc | (apply lk_scO; exact rfl) | exact up_same _ _ _ | (apply lk_uO; exact rfl) | (apply lk_slO; exact rfl) | exact cv_ii (by assumption) | exact cv_nn (by assumption) | exact cv_ned (by assumption) | exact cv_lt (by assumption) | exact cv_gt (by assumption)
 | (apply cv_ni; tb_rel) | (apply cv_in; tb_rel) | (apply cv_inl; tb_rel) | (apply cv_nil; tb_rel) | (apply sv_dic; tb_rel) | (apply sv_lst; tb_rel) | (apply it_lst; tb_rel) | (apply it_dic; tb_rel) | (apply lo_lst; tb_rel)
 | (apply cr0; apply fz_lst; tb_rel) | (apply cr0; apply fz_emp; tb_rel) | (apply cr_dic; tb_rel)
 | apply bl_len | apply bl_min | apply bl_sorted | apply bl_tuple | apply bl_list | apply bl_dctc | apply bl_dictL | apply bn_lst | apply bn_tup | apply sf_tup | apply sf_lst | apply stp_lst
 | exact gr_cl _ _ _ | exact gr_cm _ _ _ | exact ga_lp _ _ _ | exact ga_md _ _ _ | exact ga_cl _ _ _ | apply mb_dct | apply mb_dct2 | apply mb_get | apply mb_get2 | (apply mb_pop0; tb_rel; tb_rel; (first | assumption | exact rfl); (first | assumption | exact rfl)) | apply mb_pop | apply mb_app | apply mb_extT | apply mb_popL | apply st_dic
 | exact sr_nh _ _ | exact sr_ap _ _ | exact sa_ap _ _ | exact sa_or _ _ | exact sa_nh _ _ | exact kd_eq _ _ | exact kd_ne _ _ | exact kd_in _ _ | exact kd_ni _ _ | exact rfl | exact bl_c rfl | exact mb_c rfl | exact And.intro rfl rfl | exact Nat.le_refl _ | exact Nat.le_add_right _ _ | (apply Es.asg; exact rfl) | (apply Ee.mB; exact rfl) | apply Ee.mI | tb_start)
local macro_rules | `(tactic| ktr_unf)=>`(tactic| repeat ktr_rel)
noncomputable def Grow (n:Nat) (J:AH) (f:Nat) (vs:List AV) (v:AV):Prop:=∃ J',Cl n J f vs v J'/\Ch [] J J'
theorem path0_ev (J:AH):Cl 8 J 8 [.tup []] (.int 0) J:=by apply Cl.mk (F:=f_path_length) rfl rfl; ktr_unf
theorem nbr0_ev (J:AH):Cl 9 J 11 [.tup []] (.int 0) J:=by apply Cl.mk (F:=f_neighbour_as) rfl rfl; ktr_unf
theorem outer0_ev {J:AH} (w:Wf J):Cl 8 J 9 [.tup []] (.ref J.nx) (J.ad (.lst [])):=by
 have hr:=w.free (Nat.le_refl _)
 apply Cl.mk (F:=f_outer_numbers) rfl rfl; ktr_unf
theorem comes_back_ev (n:Int) {J:AH} (w:Wf J):Grow 14 J 15 [.tup [],.int n,.int 0] (.bool false):=by
 have h1:=outer0_ev w
 have hi:=cv_inl (v:=.int n) (b:=false) (at_new (J:=J) (o:=.lst [])) rfl
 exact ⟨_,by apply Cl.mk (F:=f_comes_back) rfl rfl; ktr_unf,Ch.new w _⟩
noncomputable def goesRound (a:Row) (s:Sp):Bool:=cond a.isEmpty false (isE s||a.contains s.cl)
theorem goes_round_ev (a:Row) (s:Sp) (o:s.Ok) (b:Bool) {J:AH} {i:Nat} (hi:lk J.ob i=some (ownAO s)) (w:Wf J):Grow 20 J 29 [rowV a,.ref i,kdV b] (.bool (goesRound a s)):=by
 refine x1c2 (comes_back_ev 100 w) fun Ja h1 c1=>?_
 have hi':=c1.at0 w hi
 have z0:=o.id0
 have zc:(natV s.cl,(0:Int))=(.int s.cl,0):=rfl
 refine ⟨Ja,?_,c1⟩
 have c0:=o.cl0
 cases a with
 | nil =>
  cases hE:isE s <;> rw [hE] at c0 <;> (apply Cl.mk (F:=f_goes_round) rfl rfl; ktr_unf)
 | cons c r =>
  have hin:=inv_nats s.cl (c::r)
  have hE':((5:Int)==s.id)=isE s:=rfl
  show Cl _ _ _ _ (.bool (isE s||(c::r).contains s.cl)) _
  cases hE:isE s <;> rw [hE] at hE' c0
  ·cases hc:(c::r).contains s.cl <;> rw [hc] at hin <;> (apply Cl.mk (F:=f_goes_round) rfl rfl; ktr_unf)
  ·apply Cl.mk (F:=f_goes_round) rfl rfl; ktr_unf
noncomputable def adm (a:Row) (s:Sp):Bool:=!(isE s||a.contains s.cl)
theorem admitted_ev {s:Sp} {x:SpSt} {J:AH} (R:SpRep s x J) (o:s.Ok) {p:Pr} (hp:p∈s.prs) (a:Row) (w:Wf J) :
  Grow 26 J 40 [.ref (s.U .me),.int p.no,pre,rowV a] (cond (adm a s) (rowV a) .none):=by
 refine x1c2 (goes_round_ev a s o p.kd R.own w) fun Ja h1 c1=>?_
 have R':=R.gr w c1
 have e:=R.me; have e2:=R.own; have e3:=R.peers; have e4:=R.pd hp; have f1:=byNo_get o .pd hp; have f2:=byNo_fit s .pd p.no
 have e':=R'.me; have e2':=R'.own
 have ha:=o.adr
 refine ⟨Ja,?_,c1⟩
 unfold adm
 unfold goesRound at h1
 cases a with
 | nil =>
  have h1:Cl 20 J 29 [rowV [],.ref (s.U .own),kdV p.kd] (.bool false) Ja:=h1
  rw [show (isE s||[].contains s.cl)=isE s from Bool.or_false _]
  cases hE:isE s <;> rw [hE] at ha <;> (apply Cl.mk (F:=f_Heard_admitted) rfl rfl; ktr_unf)
 | cons c r =>
  have h1:Cl 20 J 29 [rowV (c::r),.ref (s.U .own),kdV p.kd] (.bool (isE s||(c::r).contains s.cl)) Ja:=h1
  cases hE:isE s <;> rw [hE] at h1 ha
  ·cases hc:(c::r).contains s.cl <;> rw [hc] at h1 <;> (apply Cl.mk (F:=f_Heard_admitted) rfl rfl; ktr_unf)
  ·apply Cl.mk (F:=f_Heard_admitted) rfl rfl; ktr_unf
theorem look_ev {s:Sp} {x:SpSt} {J:AH} (R:SpRep s x J) {p:Pr} (hp:p∈s.prs):Cl 8 J 4 [.ref (s.U (.ai p)),pre] (((x.rt p.no).map rtv).getD .none) J:=by
 have e:=R.ai hp; have e2:=R.rt hp
 have f:=pre_fit ((x.rt p.no).map rtv); have g:=pre_get ((x.rt p.no).map rtv)
 have z:∀ o:Option (Row×Int),((o.map rtv).getD .none).r?=none:=optF rfl fun _=>rfl
 apply Cl.mk (F:=f_AdjIn_look) rfl rfl; ktr_unf
 exact cr0 (fz_r (z _))
theorem cost_to_ev {s:Sp} {x:SpSt} {J:AH} (R:SpRep s x J) (o:s.Ok) {p:Pr} (hp:p∈s.prs):Cl 12 J 39 [.ref (s.U .me),.int p.no,.int 11] (.int 3) J:=by
 have e:=R.me; have e3:=R.peers; have e4:=R.pd hp; have f1:=byNo_get o .pd hp; have f2:=byNo_fit s .pd p.no; have e5:=R.costs
 apply Cl.mk (F:=f_Heard_cost_to) rfl rfl; ktr_unf
theorem kept_ev (v:AV) (hv:v.r?=none) (b:Bool) {J:AH} (w:Wf J):Grow 20 J 1 [v,kdV b] v:=by
 refine ⟨J,?_,Ch.refl w⟩
 apply Cl.mk (F:=f_kept_attrs) rfl rfl; ktr_unf
 exact cr0 (fz_r hv)
noncomputable def took (o:Option (Row×Int)) (a:Row) (now:Int):Option (Row×Int):=o.elim (some (a,now)) fun q=>cond (decide (q.1=a)) (some q) (some (a,now))
noncomputable def news (o:Option (Row×Int)) (a:Row):Bool:=o.elim true fun q=>!decide (q.1=a)
noncomputable def Took (n:Nat) (J:AH) (s:Sp) (p:Pr) (vs:List AV) (b:Bool) (o:Option AV):Prop:=∃ i J',Cl n J 3 (.ref (s.U (.ai p))::vs) (.ref i) J'/\Ch [s.U (.rt p)] J J'/\lk J'.ob i=some (.lst (cond b [pre] []))/\lk J'.ob (s.U (.rt p))=some (.dic (pl o))
theorem take_ev {s:Sp} {x:SpSt} {J:AH} (R:SpRep s x J) (F:Free s J) {p:Pr} (hp:p∈s.prs) {a:Row} (w:Wf J) (now:Int) :
  Took 30 J s p [.tup [],rowV a,.tup [pre],.int now] (news (x.rt p.no) a) ((took (x.rt p.no) a now).map rtv):=by
 have c0:=(Ch.new (S:=[]) w (.dic [])).ad (.lst [])
 refine x1c2 (kept_ev (rowV a) rfl p.kd c0.wf) fun Ja h1 c1=>?_
 have w1:=c1.wf
 have c2:=c0.trans c1
 have hn:lk Ja.ob J.nx=some (.dic []):=c1.at0 c0.wf (at_old (w.ad _) at_new)
 have e:=at_old (o':=.lst []) (w.ad (.dic [])) (at_old (o':=.dic []) w (R.ai hp))
 have R':=R.gr w c2
 have e':=R'.ai hp; have e2':=R'.rt hp; have e3':=R'.st hp
 have r2:=c2.cong (F (.rt p) hp)
 have rn:=c2.cong (w.free (Nat.le_refl _))
 have hne':=w.nb (R.rt hp) (Nat.le_refl _)
 have hne:=nbS hne'
 have c3:=c2.gr (S:=[s.U (.rt p)])
 have w3:Wf (Ja.st (s.U (.rt p)) (.dic [(pre,.tup [rowV a,.int now])])):=w1.st e2'
 have w4:Wf ((Ja.st (s.U (.rt p)) (.dic [(pre,.tup [rowV a,.int now])])).st J.nx (.dic [(pre,.bool true)])):=w3.st (at_stO hne hn)
 have hk:=pre_fit ((x.rt p.no).map rtv)
 have c4:=(c3.st (o':=.dic [(pre,.tup [rowV a,.int now])]) e2' (.inl (.head _))).st (o':=.dic [(pre,.bool true)]) (at_stO hne hn) (.inr (Nat.le_refl _))
 unfold news took
 cases ho:x.rt p.no with
 | none =>
  rw [ho] at e2'
  exact ⟨_,_,by apply Cl.mk (F:=f_AdjIn_take) rfl rfl; ktr_unf,c4.ad (.lst [pre]),at_new,at_old w4 (at_stO hne' at_st)⟩
 | some q =>
  rw [ho] at e2'
  have hq:=eqv_row q.1 a
  show Took _ _ _ _ _ (!decide (q.1=a)) ((cond (decide (q.1=a)) (some q) (some (a,now))).map rtv)
  cases z:decide (q.1=a) <;> rw [z] at hq
  ·exact ⟨_,_,by apply Cl.mk (F:=f_AdjIn_take) rfl rfl; ktr_unf,c4.ad (.lst [pre]),at_new,at_old w4 (at_stO hne' at_st)⟩
  ·exact ⟨_,_,by apply Cl.mk (F:=f_AdjIn_take) rfl rfl; ktr_unf,c3.ad (.lst []),at_new,at_old w1 e2'⟩
theorem untake_ev {s:Sp} {x:SpSt} {J:AH} (R:SpRep s x J) (F:Free s J) (o:s.Ok) {p:Pr} (hp:p∈s.prs) (w:Wf J) (now:Int) :
  Took 30 J s p [.tup [pre],.dct [],.tup [],.int now] (x.rt p.no).isSome none:=by
 have e:=R.ai hp; have e2:=R.rt hp; have e3:=R.st hp
 have hai:Nat.beq (s.U (.rt p)) (s.U (.ai p))=false:=nbF fun z=>nomatch (o.inj (.rt p) (.ai p) hp hp z)
 have r2:=F (.rt p) hp
 have rn:=w.free (Nat.le_refl J.nx)
 have hne':=w.nb e2 (Nat.le_refl _)
 have hne:=nbS hne'
 have hne2:=w.nb e (Nat.le_succ _)
 have hne3:=w.nb e2 (Nat.le_succ _)
 have wa:=w.ad (.dic [])
 have ea:=at_old (o':=.dic []) w e
 have en:lk (J.ad (.dic [])).ob J.nx=some (.dic []):=at_new
 cases ho:x.rt p.no with
 | none =>
  rw [ho] at e2
  have c0:=(Ch.new (S:=[]) w (.dic [])).ad (.lst [pre])
  refine x1c2 (kept_ev (.dct []) rfl p.kd c0.wf) fun Ja h1 c1=>?_
  have c2:=c0.trans c1
  have R':=R.gr w c2
  have e2':=R'.rt hp
  rw [ho] at e2'
  have hn:lk Ja.ob J.nx=some (.dic []):=c1.at0 c0.wf (at_old wa at_new)
  have w1:=c1.wf
  exact ⟨_,_,by apply Cl.mk (F:=f_AdjIn_take) rfl rfl; ktr_unf,c2.gr.ad (.lst []),at_new,at_old w1 e2'⟩
 | some q =>
  rw [ho] at e2
  have wb:=wa.ad (.lst [pre])
  have eb:=at_old (o':=.lst [pre]) wa ea
  have e2b:=at_old (o':=.lst [pre]) wa (at_old (o':=.dic []) w e2)
  have e3b:=at_old (o':=.lst [pre]) wa (at_old (o':=.dic []) w e3)
  have enb:=at_old (o':=.lst [pre]) wa en
  have c0:=((((Ch.new (S:=[s.U (.rt p)]) w (.dic [])).ad (.lst [pre])).st (o':=.dic []) e2b (.inl (.head _))).st (i:=J.nx) (o':=.dic [(pre,.bool true)]) (at_stO hne enb) (.inr (Nat.le_refl _)))
  refine x1c2 (kept_ev (.dct []) rfl p.kd c0.wf) fun Ja h1 c1=>?_
  have c2:=c0.trans c1.gr
  have hn:lk Ja.ob J.nx=some (.dic [(pre,.bool true)]):=c1.at0 c0.wf at_st
  have hz:lk Ja.ob (s.U (.rt p))=some (.dic []):=c1.at0 c0.wf (at_stO hne' at_st)
  have w1:=c1.wf
  have g1:hasN ([J.nx+1]++J.ro) (s.U (.rt p))=false:=hasN_skip hne3 r2
  have g2:hasN ([J.nx+1]++J.ro) J.nx=false:=hasN_skip (nbF (Nat.succ_ne_self _)) rn
  have ez:=at_stO (o':=.dic (ddel pre (pl (some (rtv q))))) hai eb
  have ey:=at_stO (o':=.dic [(pre,.bool true)]) (w.nb e (Nat.le_refl _)) ez
  exact ⟨_,_,by apply Cl.mk (F:=f_AdjIn_take) rfl rfl; ktr_unf,c2.ad (.lst [pre]),at_new,at_old w1 hz⟩
noncomputable def cand (s:Sp) (x:SpSt) (p:Pr):Option Rt:=(x.rt p.no).bind fun q=>cond (adm q.1 s) (some ⟨q.1,some p.no,q.2⟩) none
noncomputable def ownR (x:SpSt):List Rt:=cond x.org [⟨[],none,0⟩] []
theorem ownR_len (x:SpSt):(ownR x).length<=1:=boolK (b:=x.org) (F:=fun b=>(cond b [⟨[],none,0⟩] []:List Rt).length<=1) (Nat.le_refl _) (Nat.zero_le _)
noncomputable def routes (s:Sp) (x:SpSt):List Rt:=ownR x++s.prs.filterMap (cand s x)
theorem fm_cons {α β:Type} {f:α->Option β} {a:α} {o:Option β} (l:List α) (h:f a=o):(a::l).filterMap f=o.toList++l.filterMap f:=by
 rw [List.filterMap_cons,h]; cases o <;> rfl
noncomputable abbrev RouL (fid:Nat) (fr:FrA) (J:AH) (vs l:List AV):Prop:=∃ fr' J',Ef 40 fr J (.loc 145) [(.asg 216 (.meth (.sub (.attr (.loc 198) 98) (.loc 145)) 127 [(.loc 171)])),(.asg 46 (.ite (.cmp (.loc 216) .is (.cst .none)) (.cst .none) (.meth (.loc 198) 39 [(.loc 145),(.loc 171),(.sub (.loc 216) (.cst (.int (0))))]))),(.ite (.cmp (.loc 46) .isNot (.cst .none)) [(.expr (.meth (.loc 88) 42 [(.tup [(.loc 171),(.loc 46),(.loc 145),(.meth (.loc 198) 71 [(.loc 145),(.sub (.loc 46) (.cst (.str 142)))]),(.sub (.loc 216) (.cst (.int (1))))])]))] [])] vs .next fr' J'/\lk fr'.loc 88=some (.ref fid)/\Ch [fid] J J'/\lk J'.ob fid=some (.lst l)
theorem routes_loop {s:Sp} {x:SpSt} (o:s.Ok) {fid:Nat} (ps:List Pr):(∀ p∈ps,p∈s.prs)->∀ (fr:FrA) (J:AH) (acc:List AV),
  lk fr.loc 198=some (.ref (s.U .me))->lk fr.loc 171=some pre->lk fr.loc 88=some (.ref fid)->SpRep s x J->Wf J->lk J.ob fid=some (.lst acc)->(∀ k,s.has k->Nat.beq fid (s.U k)=false)->hasN J.ro fid=false->acc.length+ps.length<=500 ->
  RouL fid fr J (ps.map fun p=>.int p.no) (acc++(ps.filterMap (cand s x)).map Rt.v):=by
 induction ps with
 | nil=>exact fun _ fr J acc h1 h2 h3 R w hf hne hr hlen=>⟨fr,J,Ef.nil,h3,Ch.refl w,hf.trans (by rw [List.filterMap_nil,List.map_nil,List.append_nil])⟩
 | cons p ps ih =>
  intro hps fr J acc h1 h2 h3 R w hf hne hr hlen
  have hp:=hps p (.head _)
  have hps':=fun q hq=>hps q (.tail _ hq)
  have e:=R.me; have e1:=R.ins; have e2:=R.ai hp; have f1:=byNo_get o .ai hp; have f2:=byNo_fit s .ai p.no
  have hl:=look_ev R hp
  rw [List.length_cons] at hlen
  have go:∀ (fr2:FrA) (Ja:AH) (oc:Option Rt),cand s x p=oc->Ch [fid] J Ja->lk Ja.ob fid=some (.lst (acc++oc.toList.map Rt.v))->Es 40 (fr.bT (.loc 145) (.int p.no)) J [(.asg 216 (.meth (.sub (.attr (.loc 198) 98) (.loc 145)) 127 [(.loc 171)])),(.asg 46 (.ite (.cmp (.loc 216) .is (.cst .none)) (.cst .none) (.meth (.loc 198) 39 [(.loc 145),(.loc 171),(.sub (.loc 216) (.cst (.int (0))))]))),(.ite (.cmp (.loc 46) .isNot (.cst .none)) [(.expr (.meth (.loc 88) 42 [(.tup [(.loc 171),(.loc 46),(.loc 145),(.meth (.loc 198) 71 [(.loc 145),(.sub (.loc 46) (.cst (.str 142)))]),(.sub (.loc 216) (.cst (.int (1))))])]))] [])] .next fr2 Ja->lk fr2.loc 198=some (.ref (s.U .me))->lk fr2.loc 171=some pre->lk fr2.loc 88=some (.ref fid) ->
    RouL fid fr J ((p::ps).map fun p=>.int p.no) (acc++((p::ps).filterMap (cand s x)).map Rt.v):=fun fr2 Ja oc hc C hf' E g1 g2 g3=>by
   refine x2c4 ((ih hps' fr2 Ja _ g1 g2 g3 (RepK.ch R w C fun k hk z=>nbN (hne k hk) (List.mem_singleton.mp z).symm) C.wf hf' hne (C.cong hr) (by
    have:oc.toList.length<=1:=optF (F:=fun o=>o.toList.length<=1) (Nat.zero_le _) (fun _=>Nat.le_refl _) oc
    rw [List.length_append,List.length_map]; omega))) fun fr' J' q1 q2 q3 q4=>?_
   exact ⟨fr',J',Ef.k rfl E (Fk.nx q1),q2,C.trans q3,by rw [q4,fm_cons ps hc,List.map_append,List.append_assoc]⟩
  cases ho:x.rt p.no with
  | none =>
   rw [ho] at hl
   exact go _ J none (by rw [cand,ho]; rfl) (Ch.refl w) (hf.trans (by rw [Option.toList_none,List.map_nil,List.append_nil])) (by ktr_unf) (by ktr_unf) (by ktr_unf) (by ktr_unf)
  | some q =>
   rw [ho] at hl
   refine x1c2 (admitted_ev R o hp q.1 w) fun Jb a1 c2=>?_
   have R2:=R.gr w c2
   have e':=R2.me; have e1':=R2.ins; have e2':=R2.ai hp
   have hf2:=c2.at0 w hf
   have hr2:=c2.cong hr
   have hx:=cost_to_ev R2 o hp
   cases ha:adm q.1 s with
   | false =>
    rw [ha] at a1
    exact go _ Jb none (by rw [cand,ho]; exact bf ha rfl) c2.gr (hf2.trans (by rw [Option.toList_none,List.map_nil,List.append_nil])) (by ktr_unf) (by ktr_unf) (by ktr_unf) (by ktr_unf)
   | true =>
    rw [ha] at a1
    have hlf:few (acc.length+1)=true:=few_ok (by omega)
    exact go _ _ (some ⟨q.1,some p.no,q.2⟩) (by rw [cand,ho]; exact bt ha rfl) (c2.gr.st hf2 (.inl (.head _))) at_st (by ktr_unf) (by ktr_unf) (by ktr_unf) (by ktr_unf)
theorem byNo_keys (s:Sp) (f:Pr->SKey):(byNo s f).map (·.1)=s.prs.map fun p:Pr=>.int p.no:=by
 unfold byNo; rw [List.map_map]; rfl
theorem routes_to_ev {s:Sp} {x:SpSt} (o:s.Ok) {J:AH} (R:SpRep s x J) (w:Wf J) :
  ∃ i J',Cl 46 J 41 [.ref (s.U .me),pre] (.ref i) J'/\Ch [] J J'/\lk J'.ob i=some (.lst ((routes s x).map Rt.v)):=by
 have hr:=w.free (Nat.le_refl J.nx)
 have e2:=R.origins
 have hsrt:sortv ((byNo s .ai).map (·.1))=_:=(congrArg sortv (byNo_keys s .ai)).trans o.srt
 have hfl:few (s.prs.map fun p:Pr=>AV.int p.no).length=true:=few_ok (by rw [List.length_map]; exact ltr o.few (by decide))
 have go:∀ (Ja:AH),Ch [] J Ja->lk Ja.ob J.nx=some (.lst ((ownR x).map Rt.v)) ->
   ∃ fr' J',Ef 40 ((frP (f_Heard_routes_to).params [.ref (s.U .me),pre]).sl 88 (.ref J.nx)) ((Ja.ad (.lst (s.prs.map fun p:Pr=>.int p.no))).lock [Ja.nx]) (.loc 145) [(.asg 216 (.meth (.sub (.attr (.loc 198) 98) (.loc 145)) 127 [(.loc 171)])),(.asg 46 (.ite (.cmp (.loc 216) .is (.cst .none)) (.cst .none) (.meth (.loc 198) 39 [(.loc 145),(.loc 171),(.sub (.loc 216) (.cst (.int (0))))]))),(.ite (.cmp (.loc 46) .isNot (.cst .none)) [(.expr (.meth (.loc 88) 42 [(.tup [(.loc 171),(.loc 46),(.loc 145),(.meth (.loc 198) 71 [(.loc 145),(.sub (.loc 46) (.cst (.str 142)))]),(.sub (.loc 216) (.cst (.int (1))))])]))] [])] (s.prs.map fun p=>.int p.no) .next fr' J'/\lk fr'.loc 88=some (.ref J.nx)/\Ch [] J (J'.wr Ja.ro)/\lk J'.ob J.nx=some (.lst ((routes s x).map Rt.v)):=fun Ja C hf=>by
  have n0:=C.wf.ob _ _ hf
  have C':=C.ad (.lst (s.prs.map fun p:Pr=>.int p.no))
  have R':=R.gr w C'
  refine x2c4 ((routes_loop o (fid:=J.nx) s.prs (fun _ h=>h) ((frP (f_Heard_routes_to).params [.ref (s.U .me),pre]).sl 88 (.ref J.nx)) ((Ja.ad (.lst (s.prs.map fun p:Pr=>.int p.no))).lock [Ja.nx]) _ rfl rfl rfl R'
   (C'.wf.lock1 (Nat.lt_succ_self _)) (at_old C.wf hf) (fun k hk=>w.nb (R k hk) (Nat.le_refl _)) (hasN_skip (nbF (Nat.ne_of_gt n0)) (C.cong hr)) (by
    have:=ownR_len x
    rw [List.length_map]; have:=o.few; omega))) fun fr' J' q1 q2 q3 q4=>?_
  have D:=q3.lock C'.wf
  refine ⟨fr',J',q1,q2,C'.newS D,by rw [q4,routes,List.map_append]⟩
 have wa:=w.ad (.lst [])
 have e2a:=at_old (o':=.lst []) w e2
 cases ho:x.org with
 | false =>
  rw [ho] at e2a
  have C:=Ch.new (S:=[]) w (.lst [])
  refine x2c4 (go _ C (by unfold ownR; rw [ho]; exact at_new)) fun fr' J' q1 q2 q3 q4=>?_
  have e:=at_old (o':=.lst []) w R.me
  have e1:=at_old (o':=.lst []) w R.ins
  exact ⟨_,_,by apply Cl.mk (F:=f_Heard_routes_to) rfl rfl; ktr_unf,q3,q4⟩
 | true =>
  rw [ho] at e2a
  have C:=(Ch.new (S:=[]) w (.lst [])).st (o':=.lst [(⟨[],none,0⟩:Rt).v]) at_new (.inr (Nat.le_refl _))
  refine x2c4 (go _ C (by unfold ownR; rw [ho]; exact at_st)) fun fr' J' q1 q2 q3 q4=>?_
  have e:=at_old (o':=.lst []) w R.me
  have e1:=C.at0 w R.ins
  have e':=C.at0 w R.me
  exact ⟨_,_,by apply Cl.mk (F:=f_Heard_routes_to) rfl rfl; ktr_unf,q3,q4⟩
theorem Eg_run {U:Type} {n:Nat} {h:AH} {t:T} {ifs:List X} {x:X} (val:U->AV) (F:U->FrA) (p:U->Bool) (g:U->AV) (B:FrA->Prop) (ks:List U):(∀ fr,B fr->∀ k∈ks,bindT fr t (val k)=some (F k))->(∀ k∈ks,B (F k))->(∀ k∈ks,Ea n (F k) h ifs (p k) h)->(∀ k∈ks,Ee n (F k) h x (g k) h) ->
  ∀ fr,B fr->∃ fr',Eg n fr h t ifs x [] (ks.map val) ((ks.filter p).map g) fr' h:=by
 induction ks with
 | nil=>exact fun _ _ _ _ fr _=>⟨fr,Eg.nil⟩
 | cons k ks ih =>
  intro hb hB hp hx fr b
  have e:=hb fr b k (.head _)
  have e0:fr.bT t (val k)=F k:=by unfold FrA.bT; rw [e]; rfl
  have e1:=hp k (.head _)
  obtain ⟨fr',q⟩:=ih (fun fr b k hk=>hb fr b k (.tail _ hk)) (fun k hk=>hB k (.tail _ hk)) (fun k hk=>hp k (.tail _ hk)) (fun k hk=>hx k (.tail _ hk)) (F k) (hB k (.head _))
  refine ⟨fr',?_⟩
  rw [← e0] at e1 e q
  rw [List.map_cons,List.filter_cons]
  refine Eg.k e e1 ?_
  cases p k with
  | true=>exact Gk.yy (Ec.nil (e0▸hx k (.head _))) q
  | false=>exact Gk.nn q
theorem few_f {U:Type} {p:U->Bool} {g:U->AV} {ks:List U} (h:ks.length<=1000):few ((ks.filter p).map g).length=true:=few_ok (by rw [List.length_map]; exact ltr (List.length_filter_le ..) h)
theorem Ek_run {U:Type} {n:Nat} {fr:FrA} {h h1:AH} {it:It} {lo:List Nat} {m:Nat} {ifs:List X} {x:X} {ks:List U} (val:U->AV) (p:U->Bool) (g:U->AV) (hm:Nat.beq m m=true) (e1:Ei n fr h it (ks.map val) lo h1) (hl:ks.length<=1000) (hp:∀ k∈ks,Ea n ⟨[(m,val k)],fr.cel⟩ (h1.lock lo) ifs (p k) (h1.lock lo)) (hx:∀ k∈ks,Ee n ⟨[(m,val k)],fr.cel⟩ (h1.lock lo) x (g k) (h1.lock lo)) :
  Ek n fr h x [.mk (.loc m) it ifs] (.ref h1.nx) (h1.ad (.lst ((ks.filter p).map g))):=by
 obtain ⟨fr',q⟩:=Eg_run (n:=n) (h:=h1.lock lo) (t:=.loc m) (ifs:=ifs) (x:=x) val (fun k=>⟨[(m,val k)],fr.cel⟩) p g (fun f=>f=⟨[],fr.cel⟩∨∃ u,f=⟨[(m,u)],fr.cel⟩) ks (fun f hf k _=>by
  rcases hf with rfl | ⟨u,rfl⟩
  ·rfl
  ·show some (⟨(match Nat.beq m m with | true=>[(m,val k)] | false=>(m,u)::up [] m (val k)),fr.cel⟩:FrA)=_
   rw [hm]) (fun k _=>.inr ⟨_,rfl⟩) hp hx ⟨[],fr.cel⟩ (.inl rfl)
 exact show Ek n fr h x _ (.ref (h1.lock lo).nx) (((h1.lock lo).wr h1.ro).ad _) from Ek.mk e1 q (few_f hl)
theorem filter_t {α:Type}:∀ l:List α,l.filter (fun _=>true)=l
 | []=>rfl
 | a::l=>(List.filter_cons ..).trans (congrArg (a::·) (filter_t l))
theorem Ek_all {U:Type} {n:Nat} {fr:FrA} {h h1:AH} {it:It} {lo:List Nat} {m:Nat} {x:X} {ks:List U} (val:U->AV) (g:U->AV) (hm:Nat.beq m m=true) (e1:Ei n fr h it (ks.map val) lo h1) (hl:ks.length<=1000) (hx:∀ k∈ks,Ee n ⟨[(m,val k)],fr.cel⟩ (h1.lock lo) x (g k) (h1.lock lo)) :
  Ek n fr h x [.mk (.loc m) it []] (.ref h1.nx) (h1.ad (.lst (ks.map g))):=(congrArg (fun l:List U=>h1.ad (.lst (l.map g))) (filter_t ks))▸Ek_run val (fun _=>true) g hm e1 hl (fun _ _=>Ea.nil) hx
section
variable {α:Type}
noncomputable def minW (wf:α->Int):List α->Int
 | []=>0
 | a::l=>match l with
  | []=>wf a
  | _::_=>if minW wf l < wf a then minW wf l else wf a
noncomputable def leastBy (wf:α->Int) (rs:List α):List α:=rs.filter fun a=>wf a==minW wf rs
theorem minI_map (wf:α->Int):∀ rs:List α,rs≠[]->minI (rs.map fun a=>.int (wf a))=some (minW wf rs)
 | [],h=>absurd rfl h
 | [_],_=>rfl
 | a::b::l,_=>by
  show (minI ((b::l).map fun a=>.int (wf a))).map (fun c=>if c < wf a then c else wf a)=_
  rw [minI_map wf (b::l) (fun e=>nomatch e)]; rfl
theorem leastBy_ne (wf:α->Int):∀ rs:List α,rs≠[]->∃ a∈rs,wf a=minW wf rs
 | [],h=>absurd rfl h
 | [a],_=>⟨a,.head _,rfl⟩
 | a::b::l,_=>by
  obtain ⟨c,hc,e⟩:=leastBy_ne wf (b::l) (fun e=>nomatch e)
  show ∃ c∈_,wf c=if minW wf (b::l) < wf a then minW wf (b::l) else wf a
  by_cases h:minW wf (b::l) < wf a
  ·exact ⟨c,.tail _ hc,e.trans (if_pos h).symm⟩
  ·exact ⟨a,.head _,(if_neg h).symm⟩
theorem leastBy_len (wf:α->Int) (rs:List α):(leastBy wf rs).length<=rs.length:=List.length_filter_le _ _
theorem leastBy_nn (wf:α->Int) {rs:List α} (h:rs≠[]):leastBy wf rs≠[]:=fun z =>
 (leastBy_ne wf rs h).elim fun a q=>nomatch (show a∈[] from z▸List.mem_filter.mpr ⟨q.1,beq_iff_eq.mpr q.2⟩)
theorem leastBy_mem {wf:α->Int} {rs:List α} {a:α} (h:a∈leastBy wf rs):a∈rs:=(List.mem_filter.mp h).1
end
noncomputable def idx:Nat->List Rt->List (Nat×Rt)
 | _,[]=>[]
 | n,a::l=>(n,a)::idx (n+1) l
theorem idx_val:∀ (rs:List Rt) (n:Nat),enumFrom n (rs.map Rt.v)=(idx n rs).map fun q=>.tup [.int q.1,q.2.v]
 | [],_=>rfl
 | _::rs,n=>congrArg (_::·) (idx_val rs (n+1))
theorem idx_fil (p:Rt->Bool):∀ (rs:List Rt) (n:Nat),((idx n rs).filter fun q=>p q.2).map (fun q=>q.2.v)=(rs.filter p).map Rt.v:=by
 intro rs
 induction rs with
 | nil =>
  intro _
  exact rfl
 | cons a rs ih =>
  intro n
  show (((n,a)::idx (n+1) rs).filter fun q=>p q.2).map (fun q=>q.2.v)=_
  rw [List.filter_cons,List.filter_cons]
  cases p a with
  | true=>exact congrArg (a.v::·) (ih (n+1))
  | false=>exact ih (n+1)
theorem idx_at {β:Type} (f:Rt->β) (rs:List Rt):∀ (n:Nat),∀ q∈idx n rs,n<=q.1/\(rs.map f)[q.1 - n]?=some (f q.2)/\q.1 < n+rs.length:=by
 induction rs with
 | nil=>exact fun _ _ h=>nomatch h
 | cons a rs ih =>
  intro n q h
  cases h with
  | head=>exact ⟨Nat.le_refl _,by rw [Nat.sub_self]; rfl,Nat.lt_add_of_pos_right (Nat.succ_pos _)⟩
  | tail _ h =>
   have ⟨h1,h2,h3⟩:=ih (n+1) q h
   refine ⟨Nat.le_of_succ_le h1,?_,Nat.lt_of_lt_of_le h3 (Nat.le_of_eq (Nat.add_right_comm n 1 rs.length))⟩
   have:q.1 - n=(q.1 - (n+1))+1:=(Nat.succ_pred_eq_of_pos (Nat.sub_pos_of_lt h1)).symm
   rw [this]; exact h2
theorem at_nat {l:List AV} {n:Nat} {v:AV} (h:l[n]?=some v) (hn:n<=1000):at_ l (n:Int)=some v:=by
 unfold at_
 rw [if_pos (show few (n:Int).natAbs=true from few_ok hn),if_pos (Int.natCast_nonneg n)]; exact h
theorem least_by_ev (wf:Rt->Int) {rs:List Rt} (hne:rs≠[]) (hl:rs.length<=500) {i j:Nat} {J:AH} (w:Wf J) (hi:lk J.ob i=some (.lst (rs.map Rt.v))) (hj:lk J.ob j=some (.lst (rs.map fun a=>.int (wf a)))) :
  ∃ J',Cl 20 J 21 [.ref i,.ref j] (.ref J.nx) J'/\Ch [] J J'/\lk J'.ob J.nx=some (.lst ((leastBy wf rs).map Rt.v)):=by
 have hm:=minI_map wf rs hne
 have hlen:∀ n,(idx n rs).length=rs.length:=by
  clear hi hj hm hne hl
  induction rs with
  | nil=>exact fun _=>rfl
  | cons a l ih=>exact fun n=>congrArg (·+1) (ih (n+1))
 have hc:∃ fr',Eg 17 ⟨[],[(238,.ref j),(118,.int (minW wf rs))]⟩ (J.lock [i]) (.tup [.loc 45,.loc 180]) [.cmp (.sub (.cel 238) (.loc 45)) .eq (.cel 118)] (.loc 180) [] (enumFrom 0 (rs.map Rt.v)) ((leastBy wf rs).map Rt.v) fr' (J.lock [i]):=by
  rw [idx_val,leastBy,← idx_fil _ rs 0]
  refine Eg_run _ (fun q=>⟨[(45,.int q.1),(180,q.2.v)],[(238,.ref j),(118,.int (minW wf rs))]⟩) _ _ (fun f=>f=⟨[],[(238,.ref j),(118,.int (minW wf rs))]⟩∨∃ a b,f=⟨[(45,a),(180,b)],[(238,.ref j),(118,.int (minW wf rs))]⟩) _ (fun f hf k _=>?_) (fun k _=>.inr ⟨_,_,rfl⟩) (fun q hq=>?_) (fun q hq=>?_) _ (.inl rfl)
  ·rcases hf with rfl | ⟨a,b,rfl⟩ <;> rfl
  ·have ⟨_,h2,h3⟩:=idx_at (fun a=>AV.int (wf a)) rs 0 q hq
   have hg:=at_nat h2 (by omega)
   cases hw:(wf q.2==minW wf rs) <;> ktr_unf
  ·ktr_unf
 obtain ⟨fr',q⟩:=hc
 have hf:few ((leastBy wf rs).map Rt.v).length=true:=few_ok (by rw [List.length_map]; exact ltr (leastBy_len ..) (by omega))
 exact ⟨_,by apply Cl.mk (F:=f_least_by) rfl rfl; ktr_unf,Ch.new w _,at_new⟩
noncomputable def Sp.pr (s:Sp) (n:Int):Pr:=(s.prs.find? (·.no==n)).getD ⟨0,0,0,false⟩
theorem find_no {p:Pr} {prs:List Pr} (hn:(prs.map (·.no)).Nodup) (hp:p∈prs):prs.find? (·.no==p.no)=some p:=by
 induction prs with
 | nil=>exact nomatch hp
 | cons q l ih =>
  have h2:=List.nodup_cons.mp hn
  rw [List.find?_cons]
  refine (List.mem_cons.mp hp).elim (fun e=>?_) fun hp=>?_
  ·rw [e,beq_self_eq_true]
  ·rw [show (q.no==p.no)=false from decide_eq_false fun e:q.no=p.no=>h2.1 (List.mem_map.mpr ⟨p,hp,e.symm⟩)]
   exact ih h2.2 hp
theorem Sp.Ok.pr {s:Sp} (o:s.Ok) {p:Pr} (hp:p∈s.prs):s.pr p.no=p:=by unfold Sp.pr; rw [find_no o.nd hp]; rfl
structure RtIs (s:Sp) (a:Rt):Prop where
 ok:a.row.length<=200
 no:∀ n,a.no=some n->∃ p∈s.prs,p.no=n
noncomputable def wOwn (a:Rt):Int:=a.no.elim 0 fun _=>1
noncomputable def wCost (a:Rt):Int:=a.no.elim 0 fun _=>3
noncomputable def wId (s:Sp) (a:Rt):Int:=a.no.elim 0 fun n=>cond a.row.isEmpty (s.pr n).id 5
noncomputable def wCl (a:Rt):Int:=a.c.length
noncomputable def wAddr (s:Sp) (a:Rt):Int:=a.no.elim 0 fun n=>(s.pr n).addr
noncomputable def Worth (s:Sp) (J:AH) (elt:X) (wf:Rt->Int):Prop:=∀ a,RtIs s a->Ee 20 ⟨[(180,a.v)],[(166,.ref (s.U .peers))]⟩ J elt (.int (wf a)) J
section
variable {s:Sp} {x:SpSt} {J:AH}
theorem e_pref:Worth s J (.bin (.cst (.int 0)) .sub (.callF 16 [.loc 180])) fun _=>-100:=fun a _=>by
 have q:Cl 10 J 16 [a.v] (.int 100) J:=by apply Cl.mk (F:=f_preference_of) rfl rfl; ktr_unf
 ktr_unf
theorem e_own:Worth s J (.ite (.cmp (.sub (.loc 180) (.cst (.int (2)))) .is (.cst .none)) (.cst (.int (0))) (.cst (.int (1)))) wOwn:=fun ⟨a,n,t⟩ _=>by
 cases n <;> ktr_unf
theorem e_path:Worth s J (.callF 8 [.sub (.sub (.loc 180) (.cst (.int (1)))) (.cst (.str 44))]) fun _=>0:=fun a _=>by
 have q:=path0_ev J
 ktr_unf
theorem e_origin:Worth s J (.sub (.sub (.loc 180) (.cst (.int (1)))) (.cst (.str 150))) fun _=>0:=fun a _=>by ktr_unf
theorem e_cost:Worth s J (.sub (.loc 180) (.cst (.int (3)))) wCost:=fun a _=>by ktr_unf
theorem c_len {a:Rt} (h:a.row.length<=200):a.c.length<=200:=optF (F:=fun o:Option Int=>(o.elim [] fun _=>a.row:Row).length<=200) (Nat.zero_le _) (fun _=>h) a.no
theorem e_clusters:Worth s J (.callB .len (.meth (.sub (.loc 180) (.cst (.int (1)))) 89 [.cst (.str 63),.tup []])) wCl:=fun a ha=>by
 have hf:few (a.c.map natV).length=true:=few_ok (by rw [List.length_map]; exact ltr (c_len ha.ok) (by decide))
 show Ee _ _ _ _ (.int (a.c.length:Nat)) _
 rw [← List.length_map (f:=natV)]
 ktr_unf
variable (R:SpRep s x J) (o:s.Ok)
include R o
theorem e_outside:Worth s J (.ite (.callF 18 [.loc 180,.cel 166]) (.cst (.int (0))) (.cst (.int (1)))) fun _=>1:=fun ⟨a,n,t⟩ ha=>by
 have e:=R.peers
 have q:Cl 12 J 18 [Rt.v ⟨a,n,t⟩,.ref (s.U .peers)] (.bool false) J:=by
  cases n with
  | none=>apply Cl.mk (F:=f_is_from_outside) rfl rfl; ktr_unf
  | some n =>
   obtain ⟨p,hp,z⟩:=ha.no n rfl
   cases z
   have e2:=R.pd hp; have f1:=byNo_get o .pd hp; have f2:=byNo_fit s .pd p.no
   apply Cl.mk (F:=f_is_from_outside) rfl rfl; ktr_unf
 ktr_unf
theorem e_id:Worth s J (.callF 19 [.loc 180,.cel 166]) (wId s):=fun ⟨a,n,t⟩ ha=>by
 have e:=R.peers
 have q:Cl 12 J 19 [Rt.v ⟨a,n,t⟩,.ref (s.U .peers)] (.int (wId s ⟨a,n,t⟩)) J:=by
  cases n with
  | none=>apply Cl.mk (F:=f_teller_id) rfl rfl; ktr_unf
  | some n =>
   obtain ⟨p,hp,z⟩:=ha.no n rfl
   cases z
   have e2:=R.pd hp; have f1:=byNo_get o .pd hp; have f2:=byNo_fit s .pd p.no
   have z:wId s ⟨a,some p.no,t⟩=cond a.isEmpty p.id 5:=congrArg (fun q:Pr=>cond a.isEmpty q.id 5) (o.pr hp)
   rw [z]
   cases a <;> (apply Cl.mk (F:=f_teller_id) rfl rfl; ktr_unf)
 ktr_unf
theorem e_addr:Worth s J (.callF 20 [.loc 180,.cel 166]) (wAddr s):=fun ⟨a,n,t⟩ ha=>by
 have e:=R.peers
 have q:Cl 12 J 20 [Rt.v ⟨a,n,t⟩,.ref (s.U .peers)] (.int (wAddr s ⟨a,n,t⟩)) J:=by
  cases n with
  | none=>apply Cl.mk (F:=f_teller_address) rfl rfl; ktr_unf
  | some n =>
   obtain ⟨p,hp,z⟩:=ha.no n rfl
   cases z
   have e2:=R.pd hp; have f1:=byNo_get o .pd hp; have f2:=byNo_fit s .pd p.no
   have z:wAddr s ⟨a,some p.no,t⟩=p.addr:=congrArg Pr.addr (o.pr hp)
   rw [z]
   apply Cl.mk (F:=f_teller_address) rfl rfl; ktr_unf
 ktr_unf
end
theorem usable_ev {rs:List Rt} (hl:rs.length<=500) {i:Nat} {J:AH} (w:Wf J) (hi:lk J.ob i=some (.lst (rs.map Rt.v))) :
  ∃ J',Cl 26 J 23 [.ref i] (.ref J.nx) J'/\Ch [] J J'/\lk J'.ob J.nx=some (.lst (rs.map Rt.v)):=by
 have e0:Ei 22 (frP (f_usable).params [.ref i]) J (.of (.loc 189)) (rs.map Rt.v) (lockOf (.ref i)) J:=by ktr_unf
 have q:=Ek_run (m:=180) (ifs:=[.cmp (.sub (.loc 180) (.cst (.int 3))) .isNot (.cst .none)]) (x:=.loc 180) Rt.v (fun _=>true) Rt.v rfl e0 (ltr hl (by decide)) (fun a _=>by ktr_unf) (fun a _=>by ktr_unf)
 rw [filter_t] at q
 exact ⟨_,by apply Cl.mk (F:=f_usable) rfl rfl; ktr_unf,Ch.new w _,at_new⟩
theorem med_of_ev (a:Rt) (J:AH):Cl 14 J 17 [a.v,.dct []] (.int 0) J:=by apply Cl.mk (F:=f_med_of) rfl rfl; ktr_unf
theorem min0:∀ {l:List Rt},l≠[]->minI (l.map fun _=>AV.int 0)=some 0
 | [],h=>absurd rfl h
 | [_],_=>rfl
 | _::b::l,_=>by
  show (minI ((b::l).map fun _=>AV.int 0)).map (fun c=>if c < 0 then c else 0)=_
  rw [min0 (l:=b::l) (fun e=>nomatch e)]; rfl
noncomputable abbrev MedL (fid:Nat) (fr:FrA) (J:AH) (vs l:List AV):Prop:=∃ fr' J',Ef 30 fr J (.cel 180) [(.asg 179 (.loc 189)),(.ite (.not (.meth (.cel 149) 89 [(.cst (.str 41)),(.cst (.bool false))])) [(.asg 179 (.comp (.loc 154) [(.mk (.loc 154) (.of (.loc 189)) [(.cmp (.callF 11 [(.sub (.sub (.loc 154) (.cst (.int (1)))) (.cst (.str 44)))]) .eq (.callF 11 [(.sub (.sub (.cel 180) (.cst (.int (1)))) (.cst (.str 44)))]))])]))] []),(.ite (.cmp (.callB .min (.comp (.callF 17 [(.loc 154),(.cel 149)]) [(.mk (.loc 154) (.of (.loc 179)) [])])) .eq (.callF 17 [(.cel 180),(.cel 149)])) [(.expr (.meth (.loc 88) 42 [(.cel 180)]))] [])] vs .next fr' J'/\lk fr'.loc 88=some (.ref fid)/\Ch [fid] J J'/\lk J'.ob fid=some (.lst l)
theorem meds_loop {rs:List Rt} (hl:rs.length<=400) {i fid:Nat} (hif:Nat.beq fid i=false) (ps:List Rt):(∀ a∈ps,a∈rs)->∀ (fr:FrA) (J:AH) (acc:List AV),
  lk fr.loc 189=some (.ref i)->lk fr.loc 88=some (.ref fid)->lk fr.cel 149=some (.dct [])->Wf J->lk J.ob i=some (.lst (rs.map Rt.v))->lk J.ob fid=some (.lst acc)->hasN J.ro fid=false->acc.length+ps.length<=500 ->
  MedL fid fr J (ps.map Rt.v) (acc++ps.map Rt.v):=by
 induction ps with
 | nil=>exact fun _ fr J acc h1 h2 _ w hi hf hr hlen=>⟨fr,J,Ef.nil,h2,Ch.refl w,hf.trans (by rw [List.map_nil,List.append_nil])⟩
 | cons a ps ih =>
  intro hps fr J acc h1 h2 h3 w hi hf hr hlen
  have ha:=hps a (.head _)
  rw [List.length_cons] at hlen
  have hlf:few (acc.length+1)=true:=few_ok (by omega)
  have g1:lk (fr.bT (.cel 180) a.v).cel 180=some a.v:=lk_sc
  have g2:lk (fr.bT (.cel 180) a.v).cel 149=some (.dct []):=lk_scO rfl h3
  have g3:lk (fr.bT (.cel 180) a.v).loc 189=some (.ref i):=h1
  have e0:Ei 20 ((fr.bT (.cel 180) a.v).sl 179 (.ref i)) J (.of (.loc 189)) (rs.map Rt.v) (lockOf (.ref i)) J:=by ktr_unf
  have q0:=nbr0_ev (J.lock (lockOf (.ref i)))
  have k1:=Ek_run (m:=154) (ifs:=[.cmp (.callF 11 [.sub (.sub (.loc 154) (.cst (.int (1)))) (.cst (.str 44))]) .eq (.callF 11 [.sub (.sub (.cel 180) (.cst (.int (1)))) (.cst (.str 44))])]) (x:=.loc 154) Rt.v (fun _=>true) Rt.v rfl e0 (ltr hl (by decide)) (fun b hb=>by
   have hz:((0:Int)==0)=true:=rfl
   ktr_unf) (fun b _=>by ktr_unf)
  rw [filter_t] at k1
  have hne:rs≠[]:=fun z=>nomatch (show a∈[] from z▸ha)
  have hll:rs.length<=1000:=ltr hl (by decide)
  have c1:=Ch.new (S:=[fid]) w (.lst (rs.map Rt.v))
  have e1:Ei 20 (((fr.bT (.cel 180) a.v).sl 179 (.ref i)).sl 179 (.ref J.nx)) (J.ad (.lst (rs.map Rt.v))) (.of (.loc 179)) (rs.map Rt.v) (lockOf (.ref J.nx)) (J.ad (.lst (rs.map Rt.v))):=by ktr_unf
  have k2:=Ek_all (m:=154) (x:=.callF 17 [.loc 154,.cel 149]) Rt.v (fun _=>.int 0) rfl e1 hll (fun b _=>by
   have q1:=med_of_ev b ((J.ad (.lst (rs.map Rt.v))).lock (lockOf (.ref J.nx)))
   ktr_unf)
  have hmin:=min0 hne
  have c2:=c1.ad (.lst (rs.map fun _=>.int 0))
  have hf2:=at_old (o':=.lst (rs.map fun _=>.int 0)) c1.wf (at_old (o':=.lst (rs.map Rt.v)) w hf)
  have hi2:=at_old (o':=.lst (rs.map fun _=>.int 0)) c1.wf (at_old (o':=.lst (rs.map Rt.v)) w hi)
  have c3:=c2.st (o':=.lst (acc++[a.v])) hf2 (.inl (.head _))
  have hm:=med_of_ev a ((J.ad (.lst (rs.map Rt.v))).ad (.lst (rs.map fun _=>.int 0)))
  have hz:((0:Int)==0)=true:=rfl
  refine x2c4 ((ih (fun b hb=>hps b (.tail _ hb)) (((fr.bT (.cel 180) a.v).sl 179 (.ref i)).sl 179 (.ref J.nx)) _ _ (lk_slO rfl (lk_slO rfl h1)) (lk_slO rfl (lk_slO rfl h2)) g2 c3.wf (at_stO hif hi2) at_st hr (by rw [List.length_append]; show _+1+_<=_; omega))) fun fr' J' q1 q2 q3 q4=>?_
  exact ⟨fr',J',Ef.k rfl (by ktr_unf) (Fk.nx q1),q2,c3.trans q3,by rw [q4,List.append_assoc]; rfl⟩
theorem best_meds_ev {rs:List Rt} (hl:rs.length<=400) {i:Nat} {J:AH} (w:Wf J) (hi:lk J.ob i=some (.lst (rs.map Rt.v))) :
  ∃ J',Cl 36 J 22 [.ref i,.dct []] (.ref J.nx) J'/\Ch [] J J'/\lk J'.ob J.nx=some (.lst (rs.map Rt.v)):=by
 have n1:=w.ob _ _ hi
 have c0:=Ch.new (S:=[]) w (.lst [])
 have hi':=at_old (o':=.lst []) w hi
 refine x2c4 ((meds_loop hl (i:=i) (fid:=J.nx) (nbF (Nat.ne_of_gt n1)) rs (fun _ h=>h) ((frP (f_best_meds).params [.ref i,.dct []]).sl 88 (.ref J.nx)) ((J.ad (.lst [])).lock [i]) [] rfl rfl rfl
  (c0.wf.lock1 (Nat.lt_succ_of_lt n1)) hi' at_new (hasN_skip (nbF (Nat.ne_of_lt n1)) (w.free (Nat.le_refl _))) (by show 0+_<=_; omega))) fun fr' J' q1 q2 q3 q4=>?_
 have D:=q3.lock c0.wf
 exact ⟨_,by apply Cl.mk (F:=f_best_meds) rfl rfl; ktr_unf,c0.newS D,q4⟩
structure Lad (s:Sp) (J0:AH) (rid n:Nat) (fr:FrA) (J:AH) (rs:List Rt):Prop where
 ch:Ch [] J0 J
 new:J0.nx<=rid
 ro:hasN J.ro rid=false
 cel:fr.cel=[(166,.ref (s.U .peers))]
 left:∃ i rl nm,lk fr.loc 120=some (.ref i)/\lk J.ob i=some (.lst (rs.map Rt.v))/\lk fr.loc 194=some (.ref rid)/\lk J.ob rid=some (.lst (rl++[.tup [.str nm,.ref i]]))/\rl.length<=n
noncomputable def Go2 (n:Nat) (fr:FrA) (J:AH) (a b:S) (fr':FrA) (J':AH):Prop:=∀ m rest fl fr2 h2,n<=m->Es m fr' J' rest fl fr2 h2->Es m fr J (a::b::rest) fl fr2 h2
noncomputable def sLeast (elt:X):S:=.asg 120 (.callF 21 [.loc 120,.comp elt [.mk (.loc 180) (.of (.loc 120)) []]])
noncomputable def sPut (nm:Nat):S:=.expr (.meth (.loc 194) 42 [.tup [.cst (.str nm),.loc 120]])
section
variable {s:Sp} {J0:AH} {rid n:Nat} {fr:FrA} {J:AH} {rs:List Rt}
theorem rung (wf:Rt->Int) {elt:X} (hne:rs≠[]) (hl:rs.length<=400) {i:Nat} (w:Wf J) (hc:fr.cel=[(166,.ref (s.U .peers))]) (hloc:lk fr.loc 120=some (.ref i)) (hi:lk J.ob i=some (.lst (rs.map Rt.v))) (hrs:∀ a∈rs,RtIs s a) (W:Worth s (J.lock (lockOf (.ref i))) elt wf) :
  ∃ j J',Em 30 fr J (sLeast elt) .next (fr.sl 120 (.ref j)) J'/\Ch [] J J'/\lk J'.ob j=some (.lst ((leastBy wf rs).map Rt.v))/\J.nx<=j:=by
 have e0:Ei 20 fr J (.of (.loc 120)) (rs.map Rt.v) (lockOf (.ref i)) J:=by ktr_unf
 have k1:=Ek_all (m:=180) (x:=elt) Rt.v (fun a=>.int (wf a)) rfl e0 (ltr hl (by decide)) (fun a ha=>hc▸W a (hrs a ha))
 have c1:=Ch.new (S:=[]) w (.lst (rs.map fun a=>.int (wf a)))
 refine x1c3 (least_by_ev wf hne (by omega) (i:=i) (j:=J.nx) c1.wf (at_old w hi) at_new) fun J' q c2 q2=>?_
 exact ⟨_,J',Em.asg rfl (by ktr_unf),c1.trans c2,q2,Nat.le_succ _⟩
theorem put_rung {i nm:Nat} {rl:List AV} (h1:lk fr.loc 120=some (.ref i)) (h2:lk fr.loc 194=some (.ref rid)) (h3:lk J.ob rid=some (.lst rl)) (h4:hasN J.ro rid=false) (h5:rl.length<=100) :
  Em 30 fr J (sPut nm) .next fr (J.st rid (.lst (rl++[.tup [.str nm,.ref i]]))):=by
 have hf:few (rl.length+1)=true:=few_ok (by omega)
 exact Em.expr (by ktr_unf)
theorem rungL {i j:Nat} {Ja:AH} {st:S} {nm nm':Nat} {rl:List AV} {rs':List Rt} (L:Lad s J0 rid n fr J rs) (hn:n<=50) (e3:lk fr.loc 194=some (.ref rid)) (e4:lk J.ob rid=some (.lst (rl++[.tup [.str nm',.ref i]]))) (e5:rl.length<=n) (q:Em 45 fr J st .next (fr.sl 120 (.ref j)) Ja) (c1:Ch [] J Ja) (q2:lk Ja.ob j=some (.lst (rs'.map Rt.v))) (q3:J.nx<=j) :
  ∃ fr' J',Go2 45 fr J st (sPut nm) fr' J'/\Lad s J0 rid (n+1) fr' J' rs'/\lk fr'.loc 149=lk fr.loc 149:=by
 have w:=L.ch.wf
 have e4':=c1.at0 w e4
 have e3':lk (fr.sl 120 (.ref j)).loc 194=some (.ref rid):=lk_slO rfl e3
 have hr:=c1.cong L.ro
 have p:=put_rung (nm:=nm) lk_sl e3' e4' hr (by rw [List.length_append]; show _+1<=_; omega)
 exact ⟨_,_,fun m rest fl fr2 h2 hm E=>Es.c (q.up hm) (Es.c (p.up (by omega)) E),
  ⟨(L.ch.trans c1).st e4' (.inr L.new),L.new,hr,L.cel,j,rl++[.tup [.str nm',.ref i]],nm,lk_sl,at_stO (nbF (Nat.ne_of_lt (Nat.lt_of_lt_of_le (w.ob _ _ e4) q3))) q2,e3',at_st,by rw [List.length_append]; exact Nat.succ_le_succ e5⟩,up_else (n:=120) (m:=149) (by decide) fr.loc (.ref j)⟩
theorem rung2 (wf:Rt->Int) {elt:X} (nm:Nat) (L:Lad s J0 rid n fr J rs) (hne:rs≠[]) (hl:rs.length<=400) (hn:n<=50) (hrs:∀ a∈rs,RtIs s a) (W:∀ l,Worth s (J.lock l) elt wf) :
  ∃ fr' J',Go2 45 fr J (sLeast elt) (sPut nm) fr' J'/\Lad s J0 rid (n+1) fr' J' (leastBy wf rs)/\lk fr'.loc 149=lk fr.loc 149:=by
 refine x3c5 (L.left) fun i rl nm' e1 e2 e3 e4 e5=>?_
 refine x2c4 (rung wf hne hl L.ch.wf L.cel e1 e2 hrs (W _)) fun j Ja q c1 q2 q3=>?_
 exact rungL L hn e3 e4 e5 (q.up (by decide)) c1 q2 q3
theorem rungM (L:Lad s J0 rid n fr J rs) (hrs:∀ a∈rs,RtIs s a) (hl:rs.length<=400) (hn:n<=50) (ho:lk fr.loc 149=some (.dct [])) (nm:Nat) :
  ∃ fr' J',Go2 45 fr J (.asg 120 (.callF 22 [.loc 120,.loc 149])) (sPut nm) fr' J'/\Lad s J0 rid (n+1) fr' J' rs/\lk fr'.loc 149=lk fr.loc 149:=by
 refine x3c5 (L.left) fun i rl nm' e1 e2 e3 e4 e5=>?_
 refine x1c3 (best_meds_ev hl L.ch.wf e2) fun Ja q c1 q2=>?_
 exact rungL (j:=J.nx) L hn e3 e4 e5 (Em.asg rfl (by ktr_unf)) c1 q2 (Nat.le_refl _)
end
theorem leastBy_is {s:Sp} {wf:Rt->Int} {rs:List Rt} (h:∀ a∈rs,RtIs s a):∀ a∈leastBy wf rs,RtIs s a:=fun a ha=>h a (leastBy_mem ha)
theorem leastBy_le {wf:Rt->Int} {rs:List Rt} {n:Nat} (h:rs.length<=n):(leastBy wf rs).length<=n:=ltr (leastBy_len ..) h
noncomputable def w0 (_:Rt):Int:=0
noncomputable def w1 (_:Rt):Int:=1
noncomputable def chainL (s:Sp) (rs:List Rt):List Rt:=leastBy (wAddr s) (leastBy wCl (leastBy (wId s) rs))
noncomputable def chainM (rs:List Rt):List Rt:=leastBy wCost (leastBy w1 (leastBy w0 (leastBy w0 (leastBy wOwn (leastBy (fun _=>-100) rs)))))
noncomputable def chain (s:Sp) (rs:List Rt):List Rt:=chainL s (chainM rs)
theorem SpRep.lck {s:Sp} {x:SpSt} {J:AH} (R:SpRep s x J) (l:List Nat):SpRep s x (J.lock l):=R
noncomputable def Climbs (n:Nat) (J:AH) (f:Nat) (vs:List AV) (m:Nat) (rs:List Rt):Prop:=∃ rid j rl nm J',Cl n J f vs (.ref rid) J'/\Ch [] J J'/\Mine.Internal.lk J'.ob rid=some (.lst (rl++[.tup [.str nm,.ref j]]))/\rl.length<=m/\Mine.Internal.lk J'.ob j=some (.lst (rs.map Rt.v))
section
variable {s:Sp} {x:SpSt} {J:AH} (R:SpRep s x J) (o:s.Ok) (w:Wf J) {rs:List Rt} (hrs:∀ a∈rs,RtIs s a) (hl:rs.length<=400) {i:Nat} (hi:Mine.Internal.lk J.ob i=some (.lst (rs.map Rt.v)))
include R o w hrs hl hi
theorem last_rungs_ev (hne:rs≠[]):Climbs 46 J 25 [.ref i,.ref (s.U .peers)] 2 (chainL s rs):=by
 refine x2c4 (rung (wId s) (elt:=.callF 19 [.loc 180,.cel 166]) hne hl w (fr:=frP (f_last_rungs).params [.ref i,.ref (s.U .peers)]) rfl rfl hi hrs (e_id (R.lck _) o)) fun j Ja q c1 q2 q3=>?_
 have c2:=c1.ad (.lst [.tup [.str 96,.ref j]])
 have L0:Lad s J Ja.nx 0 (((frP (f_last_rungs).params [.ref i,.ref (s.U .peers)]).sl 120 (.ref j)).sl 194 (.ref Ja.nx)) (Ja.ad (.lst [.tup [.str 96,.ref j]])) (leastBy (wId s) rs) :=
  ⟨c2,c1.nx,c1.wf.free (Nat.le_refl _),rfl,j,[],96,rfl,at_old c1.wf q2,rfl,at_new,Nat.le_refl _⟩
 refine x2c3 (rung2 wCl 63 L0 (leastBy_nn _ hne) (leastBy_le hl) (by decide) (leastBy_is hrs) fun l=>e_clusters) fun f1 Jb p1 L1 _=>?_
 refine x2c3 (rung2 (wAddr s) 38 L1 (leastBy_nn _ (leastBy_nn _ hne)) (leastBy_le (leastBy_le hl)) (by decide) (leastBy_is (leastBy_is hrs)) fun l=>e_addr ((R.gr w L1.ch).lck l) o) fun f2 Jc p2 L2 _=>?_
 refine x3c5 (L2.left) fun j' rl nm e1 e2 e3 e4 e5=>?_
 exact ⟨Ja.nx,j',rl,nm,Jc,Cl.mk (F:=f_last_rungs) rfl rfl (Es.c (q.up (by decide)) (Es.asg rfl (by ktr_unf) (p1 _ _ _ _ _ (by decide) (p2 _ _ _ _ _ (by decide) (Es.ret (Ee.loc e3)))))) (cr0 (fz_lst e4)),L2.ch,e4,e5,e2⟩
theorem ladder_ev:Climbs 60 J 24 [.ref i,.ref (s.U .peers),.dct []] 100 (if rs=[] then [] else chain s rs):=by
 refine x1c3 (usable_ev (ltr hl (by decide)) w hi) fun Ja q c1 q2=>?_
 have c2:=c1.ad (.lst [.tup [.str 227,.ref J.nx]])
 have q2':=at_old (o':=.lst [.tup [.str 227,.ref J.nx]]) c1.wf q2
 have hf:few (rs.map Rt.v).length=true:=few_ok (by rw [List.length_map]; omega)
 have hz:(((rs.map Rt.v).length:Int)==0)=decide (rs=[]):=by
  cases rs with
  | nil=>rfl
  | cons a l=>exact decide_eq_false fun h=>nomatch (show (a::l).length=0 from (List.length_map (as:=a::l) Rt.v)▸Int.ofNat.inj h)
 by_cases hne:rs=[]
 ·rw [decide_eq_true hne] at hz
  rw [if_pos hne]
  exact ⟨Ja.nx,J.nx,[],227,_,by apply Cl.mk (F:=f_ladder) rfl rfl; ktr_unf,c2,at_new,Nat.zero_le _,hne▸q2'⟩
 ·rw [decide_eq_false hne] at hz
  rw [if_neg hne]
  have L0:Lad s J Ja.nx 0 (((frP (f_ladder).params [.ref i,.ref (s.U .peers),.dct []]).sl 120 (.ref J.nx)).sl 194 (.ref Ja.nx)) (Ja.ad (.lst [.tup [.str 227,.ref J.nx]])) rs :=
   ⟨c2,c1.nx,c1.wf.free (Nat.le_refl _),rfl,J.nx,[],227,rfl,q2',rfl,at_new,Nat.le_refl _⟩
  have g1:=leastBy_nn (fun _=>-100) hne
  have g2:=leastBy_nn wOwn g1
  have g3:=leastBy_nn w0 g2
  have g4:=leastBy_nn w0 g3
  have g5:=leastBy_nn w1 g4
  have g6:=leastBy_nn wCost g5
  have i1:=leastBy_is (wf:=fun _=>-100) hrs
  have i2:=leastBy_is (wf:=wOwn) i1
  have i3:=leastBy_is (wf:=w0) i2
  have i4:=leastBy_is (wf:=w0) i3
  have i5:=leastBy_is (wf:=w1) i4
  have l1:=leastBy_le (wf:=fun _=>-100) hl
  have l2:=leastBy_le (wf:=wOwn) l1
  have l3:=leastBy_le (wf:=w0) l2
  have l4:=leastBy_le (wf:=w0) l3
  have l5:=leastBy_le (wf:=w1) l4
  refine x2c3 (rung2 (fun _=>-100) 169 L0 hne hl (by decide) hrs fun l=>e_pref) fun f1 τ1 p1 L1 o1=>?_
  refine x2c3 (rung2 wOwn 159 L1 g1 l1 (by decide) i1 fun l=>e_own) fun f2 τ2 p2 L2 o2=>?_
  refine x2c3 (rung2 w0 162 L2 g2 l2 (by decide) i2 fun l=>e_path) fun f3 τ3 p3 L3 o3=>?_
  refine x2c3 (rung2 w0 150 L3 g3 l3 (by decide) i3 fun l=>e_origin) fun f4 τ4 p4 L4 o4=>?_
  refine x2c3 (rungM L4 i4 l4 (by decide) (o4.trans (o3.trans (o2.trans o1))) 131) fun f5 τ5 p5 L5 o5=>?_
  refine x2c3 (rung2 w1 158 L5 g4 l4 (by decide) i4 fun l=>e_outside ((R.gr w L5.ch).lck l) o) fun f6 τ6 p6 L6 o6=>?_
  refine x2c3 (rung2 wCost 70 L6 g5 l5 (by decide) i5 fun l=>e_cost) fun f7 τ7 p7 L7 o7=>?_
  refine x3c5 (L7.left) fun i' rl nm e1 e2 e3 e4 e5=>?_
  refine x5c5 (last_rungs_ev (R.gr w L7.ch) o L7.ch.wf (leastBy_is i5) (leastBy_le l5) e2 g6) fun rid2 j rl2 nm2 τ8 q8 c8 r8 m8 l8=>?_
  have e4':=c8.at0 L7.ch.wf e4
  have hc:=L7.cel
  have hp:Mine.Internal.lk f7.cel 166=some (.ref (s.U .peers)):=by rw [hc]; rfl
  have hf8:few ((rl++[AV.tup [.str nm,.ref i']]).length+(rl2++[AV.tup [.str nm2,.ref j]]).length)=true:=few_ok (by rw [List.length_append,List.length_append]; show _+1+(_+1)<=_; omega)
  have e:=List.append_assoc (rl++[AV.tup [.str nm,.ref i']]) rl2 [.tup [.str nm2,.ref j]]
  refine ⟨τ8.nx,j,rl++[.tup [.str nm,.ref i']]++rl2,nm2,_,Cl.mk (F:=f_ladder) rfl rfl (Es.asg rfl (by ktr_unf) (Es.asg rfl (by ktr_unf) (Es.ite (by ktr_unf) (by ktr_unf) (Sk.nx (p1 _ _ _ _ _ (by decide) (p2 _ _ _ _ _ (by decide) (p3 _ _ _ _ _ (by decide) (p4 _ _ _ _ _ (by decide) (p5 _ _ _ _ _ (by decide) (p6 _ _ _ _ _ (by decide) (p7 _ _ _ _ _ (by decide) (Es.ret (by ktr_unf))))))))))))) (cr0 (fz_lst at_new)),(L7.ch.trans c8).ad _,?_,?_,at_old c8.wf l8⟩
  ·rw [e]; exact at_new
  ·rw [List.length_append,List.length_append]; show _+1+_<=_; omega
end
theorem at_last (rl:List AV) (v:AV) (h:rl.length<=100):at_ (rl++[v]) (-1)=some v:=by
 have h0:((-1:Int)+((rl++[v]).length:Nat))=(rl.length:Nat):=by rw [List.length_append]; show -1+((rl.length+1:Nat):Int)=_; omega
 unfold at_
 rw [if_pos (show few (-1:Int).natAbs=true from rfl),if_neg (by decide),h0,if_pos (Int.natCast_nonneg _)]
 exact List.getElem?_concat_length
noncomputable def bestR (s:Sp) (rs:List Rt):Option Rt:=(if rs=[] then [] else chain s rs).head?
theorem chain_mem {s:Sp} {rs:List Rt} {a:Rt} (h:a∈chain s rs):a∈rs:=leastBy_mem (leastBy_mem (leastBy_mem (leastBy_mem (leastBy_mem (leastBy_mem (leastBy_mem (leastBy_mem (leastBy_mem h))))))))
theorem chain_len {s:Sp} {rs:List Rt} {n:Nat} (h:rs.length<=n):(chain s rs).length<=n:=leastBy_le (leastBy_le (leastBy_le (leastBy_le (leastBy_le (leastBy_le (leastBy_le (leastBy_le (leastBy_le h))))))))
theorem bestR_mem {s:Sp} {rs:List Rt} {r:Rt} (h:bestR s rs=some r):r∈rs:=by
 unfold bestR at h
 by_cases e:rs=[]
 ·rw [if_pos e] at h; exact nomatch h
 ·rw [if_neg e] at h; exact chain_mem (List.mem_of_head? h)
theorem best_of_ev {s:Sp} {x:SpSt} {J:AH} (R:SpRep s x J) (o:s.Ok) (w:Wf J) {rs:List Rt} (hrs:∀ a∈rs,RtIs s a) (hl:rs.length<=400) {i:Nat} (hi:Mine.Internal.lk J.ob i=some (.lst (rs.map Rt.v))) :
  Grow 66 J 26 [.ref i,.ref (s.U .peers),.dct []] (((bestR s rs).map Rt.v).getD .none):=by
 refine x5c5 (ladder_ev R o w hrs hl hi) fun rid j rl nm J' q c1 e1 e2 e3=>?_
 refine ⟨J',?_,c1⟩
 have hf:(if rs=[] then ([]:List Rt) else chain s rs).length<=400:=by
  by_cases e:rs=[]
  ·rw [if_pos e]; exact Nat.zero_le _
  ·rw [if_neg e]; exact chain_len hl
 have ha:=sv_lst e1 (at_last rl (.tup [.str nm,.ref j]) e2)
 unfold bestR
 generalize (if rs=[] then ([]:List Rt) else chain s rs)=cl at *
 cases cl with
 | nil=>apply Cl.mk (F:=f_best_of) rfl rfl; ktr_unf
 | cons a cl =>
  have hf':few ((a::cl).map Rt.v).length=true:=few_ok (by rw [List.length_map]; omega)
  have hp:decide ((0:Int) < (((a::cl).map Rt.v).length:Nat))=true:=decide_eq_true (by rw [List.map_cons,List.length_cons]; omega)
  apply Cl.mk (F:=f_best_of) rfl rfl; ktr_unf
noncomputable def chooseR (s:Sp) (x:SpSt):SpSt:={ x with cho:=bestR s (routes s x) }
noncomputable def XOk (s:Sp) (x:SpSt):Prop:=∀ p∈s.prs,∀ q,x.rt p.no=some q->q.1.length<=200
theorem routes_mem {s:Sp} {x:SpSt} {r:Rt} (h:r∈routes s x):(x.org=true/\r=⟨[],none,0⟩)∨∃ p∈s.prs,∃ q,x.rt p.no=some q/\adm q.1 s=true/\r=⟨q.1,some p.no,q.2⟩ :=
 (List.mem_append.mp h).elim (fun h=>.inl (by
  unfold ownR at h
  cases e:x.org <;> rw [e] at h
  ·exact nomatch h
  ·exact ⟨rfl,List.mem_singleton.mp h⟩)) fun h=>(List.mem_filterMap.mp h).elim fun p q=>.inr ⟨p,q.1,bindK q.2 fun v e1 e2=>condK e2 (fun ha e=>⟨v,e1,ha,(Option.some.inj e).symm⟩) fun _ e=>nomatch e⟩
theorem routes_ok {s:Sp} {x:SpSt} (X:XOk s x):∀ a∈routes s x,RtIs s a:=fun _ h=>by
 rcases routes_mem h with ⟨e,rfl⟩ | ⟨p,hp,q,e,_,rfl⟩
 ·exact ⟨Nat.zero_le _,fun _ z=>nomatch z⟩
 ·exact ⟨X p hp q e,fun n z=>⟨p,hp,Option.some.inj z⟩⟩
theorem routes_len (s:Sp) (o:s.Ok) (x:SpSt):(routes s x).length<=11:=by
 have h1:=ownR_len x
 have h2:=List.length_filterMap_le (cand s x) s.prs
 have h3:=o.few
 unfold routes
 rw [List.length_append]; omega
theorem choose_ev {s:Sp} {x:SpSt} {J:AH} (R:SpRep s x J) (F:Free s J) (o:s.Ok) (w:Wf J) (X:XOk s x) {i:Nat} (hi:Mine.Internal.lk J.ob i=some (.lst [pre])) (hs:∀ k,s.has k->Nat.beq i (s.U k)=false) :
  ∃ J',Cl 76 J 44 [.ref (s.U .me),.ref i] .none J'/\Ch [s.U .chosen] J J'/\SpRep s (chooseR s x) J':=by
 have hl:=routes_len s o x
 have wl:=w.lock1 (w.ob _ _ hi)
 have Fl:Free s (J.lock [i]):=fun k hk=>hasN_skip (hs k hk) (F k hk)
 have Rl:=R.lck [i]
 refine x2c3 (routes_to_ev o Rl wl) fun j Ja q1 c1 l1=>?_
 have R1:=Rl.gr wl c1
 refine x1c2 (best_of_ev R1 o c1.wf (routes_ok X) (by omega) l1) fun Jb q2 c2=>?_
 have R2:=R1.gr c1.wf c2
 have c3:=c1.trans c2
 have e:=Rl.me; have e1:=R1.me; have e2:=R2.me; have e3:=R2.chosen
 have hro:=c3.cong (Fl .chosen trivial)
 have hk:=pre_fit (x.cho.map Rt.v)
 have hg:=pre_get (x.cho.map Rt.v)
 have fin:∀ b:Option Rt,b=bestR s (routes s x)->∀ J',Mine.Internal.lk J'.ob (s.U .chosen)=some (.dic (pl (b.map Rt.v)))->Ch [s.U .chosen] (J.lock [i]) J'->Ch [s.U .chosen] J (J'.wr J.ro)/\SpRep s (chooseR s x) (J'.wr J.ro):=fun b hb J' h1 h2=>by
  have h3:=Ch.lock h2 w
  refine ⟨h3,RepK.set R w h3 (fun k hk hm=>?_) (fun k hk hm=>?_)⟩
  ·have:=o.inj k .chosen hk trivial (List.mem_singleton.mp hm)
   subst this
   subst hb
   exact h1
  ·cases k <;> first | rfl | exact absurd (List.mem_singleton.mpr rfl) hm
 cases hb:bestR s (routes s x) with
 | none =>
  rw [hb] at q2
  cases hc:x.cho with
  | none =>
   rw [hc] at e3 hk hg
   exact ⟨_,by apply Cl.mk (F:=f_Chooser_choose) rfl rfl; ktr_unf,fin _ hb.symm Jb e3 c3.gr⟩
  | some r =>
   rw [hc] at e3 hk hg
   exact ⟨_,by apply Cl.mk (F:=f_Chooser_choose) rfl rfl; ktr_unf,fin _ hb.symm (Jb.st (s.U .chosen) (.dic (pl none))) at_st (c3.gr.st e3 (.inl (.head _)))⟩
 | some r =>
  rw [hb] at q2
  have hd:few (dset pre r.v (pl (x.cho.map Rt.v))).length=true:=by rw [pre_set]; rfl
  exact ⟨_,by apply Cl.mk (F:=f_Chooser_choose) rfl rfl; ktr_unf,fin _ hb.symm (Jb.st (s.U .chosen) (.dic (dset pre r.v (pl (x.cho.map Rt.v))))) (by rw [pre_set]; exact at_st) (c3.gr.st e3 (.inl (.head _)))⟩
noncomputable def setRt (x:SpSt) (n:Int) (v:Option (Row×Int)):SpSt:={ x with rt:=fun m=>if m=n then v else x.rt m }
noncomputable def setOrg (x:SpSt) (v:Bool):SpSt:={ x with org:=v }
noncomputable def hearA (s:Sp) (x:SpSt) (p:Pr) (a:Row) (now:Int):SpSt:=cond (news (x.rt p.no) a) (chooseR s (setRt x p.no (some (a,now)))) x
noncomputable def hearW (s:Sp) (x:SpSt) (p:Pr):SpSt:=cond (x.rt p.no).isSome (chooseR s (setRt x p.no none)) x
theorem nodup_inj {l:List Pr} (h:(l.map (·.no)).Nodup) {p q:Pr} (hp:p∈l) (hq:q∈l) (e:p.no=q.no):p=q:=Option.some.inj ((find_no h hp).symm.trans ((congrArg (fun n=>l.find? (·.no==n)) e).trans (find_no h hq)))
theorem setRt_same (x:SpSt) (n:Int):setRt x n (x.rt n)=x:=by
 have:(fun m=>if m=n then x.rt n else x.rt m)=x.rt:=funext fun m=>if h:m=n then (if_pos h).trans (congrArg x.rt h.symm) else if_neg h
 unfold setRt
 rw [this]
section
variable {s:Sp} {x:SpSt} {J:AH} (R:SpRep s x J) (o:s.Ok) (w:Wf J)
include R o w
theorem rep_rt {p:Pr} (hp:p∈s.prs) {v:Option (Row×Int)} {J':AH} (c:Ch [s.U (.rt p)] J J') (e:lk J'.ob (s.U (.rt p))=some (.dic (pl (v.map rtv)))):SpRep s (setRt x p.no v) J':=by
 refine RepK.set R w c (fun k hk hm=>?_) (fun k hk hm=>?_)
 ·have:=o.inj k (.rt p) hk hp (List.mem_singleton.mp hm)
  subst this
  exact e.trans (congrArg (fun q:Option (Row×Int)=>some (pdic (q.map rtv))) (if_pos rfl).symm)
 ·cases k with
  | rt q=>exact congrArg (fun q:Option (Row×Int)=>pdic (q.map rtv)) (if_neg (fun z:q.no=p.no=>hm (by rw [nodup_inj o.nd hk hp z]; exact .head _)))
  | _=>rfl
theorem rep_org {v:Bool} {J':AH} (c:Ch [s.U .origins] J J') (e:lk J'.ob (s.U .origins)=some (.dic (pl (orgV v)))):SpRep s (setOrg x v) J':=by
 refine RepK.set R w c (fun k hk hm=>?_) (fun k hk hm=>?_)
 ·have:=o.inj k .origins hk trivial (List.mem_singleton.mp hm)
  subst this
  exact e
 ·cases k <;> first | rfl | exact absurd (List.mem_singleton.mpr rfl) hm
omit o w in
theorem choose0_ev {i:Nat} (hi:lk J.ob i=some (.lst [])):Cl 76 J 44 [.ref (s.U .me),.ref i] .none J:=by
 apply Cl.mk (F:=f_Chooser_choose) rfl rfl; ktr_unf
theorem anew (F:Free s J) (X:XOk s x) (v:Bool) {Ja:AH} (c1:Ch [s.U .origins] J Ja) (e:lk Ja.ob (s.U .origins)=some (.dic (pl (orgV v)))) :
  ∃ J',Cl 76 (Ja.ad (.lst [pre])) 44 [.ref (s.U .me),.ref Ja.nx] .none J'/\Ch [s.U .origins,s.U .chosen] J J'/\SpRep s (chooseR s (setOrg x v)) J':=by
 have R1:=rep_org R o w (v:=v) c1 e
 have c2:=c1.ad (.lst [pre])
 have R2:=R1.gr c1.wf (Ch.new c1.wf (.lst [pre]))
 refine x1c3 (choose_ev R2 (fun k hk=>c1.cong (F k hk)) o c2.wf X (at_new (J:=Ja)) (fun k hk=>w.nb (R k hk) c1.nx)) fun J' q c3 R3=>?_
 exact ⟨J',q,(c2.mono fun _ h=>List.mem_singleton.mp h▸.head _).trans (c3.mono fun _ h=>.tail _ h),R3⟩
theorem originate_ev (F:Free s J) (X:XOk s x) :
  ∃ J',Cl 80 J 45 [.ref (s.U .me),pre,ownV] .none J'/\Ch [s.U .origins,s.U .chosen] J J'/\SpRep s (chooseR s (setOrg x true)) J':=by
 have e:=R.me; have e1:=R.origins
 have hr:=F .origins trivial
 have hk:=pre_fit (orgV x.org)
 have hd:few (dset pre ownV (pl (orgV x.org))).length=true:=by rw [pre_set]; rfl
 have c1:=(Ch.refl (S:=[s.U .origins]) w).st (o':=.dic (dset pre ownV (pl (orgV x.org)))) e1 (.inl (.head _))
 refine x1c3 (anew R o w F X true c1 (by rw [pre_set]; exact at_st)) fun J' q c3 R3=>?_
 have hne:Nat.beq (s.U .origins) (s.U .me)=false:=nbF fun z=>nomatch (o.inj .origins .me trivial trivial z)
 exact ⟨J',by apply Cl.mk (F:=f_Chooser_originate) rfl rfl; ktr_unf,c3,R3⟩
theorem withdraw_ev (F:Free s J) (X:XOk s x) :
  ∃ J',Cl 80 J 46 [.ref (s.U .me),pre] .none J'/\Ch [s.U .origins,s.U .chosen] J J'/\SpRep s (chooseR s (setOrg x false)) J':=by
 have e:=R.me; have e1:=R.origins
 have hr:=F .origins trivial
 have hne:Nat.beq (s.U .origins) (s.U .me)=false:=nbF fun z=>nomatch (o.inj .origins .me trivial trivial z)
 have hk:=pre_fit (orgV x.org)
 have hg:=pre_get (orgV x.org)
 cases hx:x.org with
 | false =>
  rw [hx] at e1 hk hg
  refine x1c3 (anew R o w F X false (Ch.refl w) e1) fun J' q c3 R3=>?_
  exact ⟨J',by apply Cl.mk (F:=f_Chooser_withdraw) rfl rfl; ktr_unf,c3,R3⟩
 | true =>
  rw [hx] at e1 hk hg
  have c1:=(Ch.refl (S:=[s.U .origins]) w).st (o':=.dic (ddel pre (pl (some ownV)))) e1 (.inl (.head _))
  refine x1c3 (anew R o w F X false c1 at_st) fun J' q c3 R3=>?_
  exact ⟨J',by apply Cl.mk (F:=f_Chooser_withdraw) rfl rfl; ktr_unf,c3,R3⟩
end
theorem ct_lst (s:Sp) (x:SpSt) (l:List AV):∀ k,s.ct x k≠.lst l:=fun k=>by
 cases k <;> exact fun h=>nomatch h
theorem SpRep.nlst {s:Sp} {x:SpSt} {J:AH} (R:SpRep s x J) {i:Nat} {l:List AV} (h:lk J.ob i=some (.lst l)):∀ k,s.has k->Nat.beq i (s.U k)=false:=fun k hk=>nbF fun z=>by
 subst z
 exact ct_lst s x l k (Option.some.inj ((R k hk).symm.trans h))
section
variable {s:Sp} {x:SpSt} {J:AH} (R:SpRep s x J) (o:s.Ok) (w:Wf J) (F:Free s J) (X:XOk s x)
theorem xok_rt (o:s.Ok) (X:XOk s x) {p:Pr} (hp:p∈s.prs) {v:Option (Row×Int)} (hv:∀ q,v=some q->q.1.length<=200):XOk s (setRt x p.no v):=fun q hq r hr=>by
 by_cases e:q.no=p.no
 ·exact hv r ((if_pos e).symm.trans hr)
 ·exact X q hq r ((if_neg e).symm.trans hr)
include R o w F X
theorem heard {p:Pr} (hp:p∈s.prs) {b:Bool} {v:Option (Row×Int)} {vs:List AV} (T:Took 30 J s p vs b (v.map rtv)) (hv:∀ q,v=some q->q.1.length<=200) (hb:b=false->v=x.rt p.no) :
  ∃ i Ja J',Cl 30 J 3 (.ref (s.U (.ai p))::vs) (.ref i) Ja/\Mine.Internal.lk Ja.ob (s.U .me)=some (.ins 17 s.attrs)/\Cl 76 Ja 44 [.ref (s.U .me),.ref i] .none J'/\Ch [s.U (.rt p),s.U .chosen] J J'/\SpRep s (cond b (chooseR s (setRt x p.no v)) x) J':=by
 refine x2c4 (T) fun i Ja q1 c1 l1 l2=>?_
 have R1:=rep_rt R o w hp c1 l2
 have c1':=c1.mono (T:=[s.U (.rt p),s.U .chosen]) fun _ h=>List.mem_singleton.mp h▸.head _
 cases b with
 | false =>
  rw [hb rfl,setRt_same] at R1
  exact ⟨i,Ja,Ja,q1,R1.me,choose0_ev R1 l1,c1',R1⟩
 | true =>
  refine x1c3 (choose_ev R1 (fun k hk=>c1.cong (F k hk)) o c1.wf (xok_rt o X hp hv) l1 (R1.nlst l1)) fun J' q2 c3 R3=>?_
  exact ⟨i,Ja,J',q1,R1.me,q2,c1'.trans (c3.mono fun _ h=>.tail _ h),R3⟩
omit R o w F X in
theorem took_f {a:Row} {now:Int}:∀ o:Option (Row×Int),news o a=false->took o a now=o
 | none,h=>nomatch h
 | some q,h=>show cond (decide (q.1=a)) (some q) (some (a,now))=some q from boolK (F:=fun b=>(!b)=false->cond b (some q) (some (a,now))=some q) (fun _=>rfl) (fun h=>nomatch h) h
omit R o w F X in
theorem took_t {a:Row} {now:Int}:∀ o:Option (Row×Int),news o a=true->took o a now=some (a,now)
 | none,_=>rfl
 | some q,h=>show cond (decide (q.1=a)) (some q) (some (a,now))=some (a,now) from boolK (F:=fun b=>(!b)=true->cond b (some q) (some (a,now))=some (a,now)) (fun h=>nomatch h) (fun _=>rfl) h
theorem hear_ev {p:Pr} (hp:p∈s.prs) {a:Row} (ha:a.length<=200) (now:Int) :
  ∃ J',Cl 84 J 48 [.ref (s.U .me),.int p.no,.tup [],rowV a,.tup [pre],.int now] .none J'/\Ch [s.U (.rt p),s.U .chosen] J J'/\SpRep s (hearA s x p a now) J':=by
 have e:=R.me; have e1:=R.ins; have e2:=R.ai hp; have f1:=byNo_get o .ai hp; have f2:=byNo_fit s .ai p.no
 have T:=take_ev R F hp (a:=a) w now
 unfold hearA
 cases z:news (x.rt p.no) a with
 | false =>
  rw [z,took_f _ z] at T
  refine x3c5 (heard R o w F X hp T (X p hp) fun _=>rfl) fun i Ja J' q1 e' q2 c R'=>?_
  exact ⟨J',by apply Cl.mk (F:=f_Chooser_hear) rfl rfl; ktr_unf,c,R'⟩
 | true =>
  rw [z,took_t _ z] at T
  refine x3c5 (heard R o w F X hp (v:=some (a,now)) T (fun q hq=>Option.some.inj hq▸ha) (fun z=>nomatch z)) fun i Ja J' q1 e' q2 c R'=>?_
  exact ⟨J',by apply Cl.mk (F:=f_Chooser_hear) rfl rfl; ktr_unf,c,R'⟩
theorem unhear_ev {p:Pr} (hp:p∈s.prs) (now:Int) :
  ∃ J',Cl 84 J 48 [.ref (s.U .me),.int p.no,.tup [pre],.dct [],.tup [],.int now] .none J'/\Ch [s.U (.rt p),s.U .chosen] J J'/\SpRep s (hearW s x p) J':=by
 have e:=R.me; have e1:=R.ins; have e2:=R.ai hp; have f1:=byNo_get o .ai hp; have f2:=byNo_fit s .ai p.no
 refine x3c5 (heard R o w F X hp (v:=none) (untake_ev R F o hp w now) (fun q hq=>nomatch hq) (fun z=>(Option.isNone_iff_eq_none.mp (by rw [← Option.not_isSome,z]; rfl)).symm)) fun i Ja J' q1 e' q2 c R'=>?_
 exact ⟨J',by apply Cl.mk (F:=f_Chooser_hear) rfl rfl; ktr_unf,c,R'⟩
end
noncomputable abbrev D1 (t:Int):List (AV×AV):=[(.str 150,.int 0),(.str 44,.tup []),(.str 142,.int 11),(.str 126,.int 100),(.str 152,.int t)]
noncomputable abbrev D2 (t:Int) (c:Nat) (r:Row):List (AV×AV):=[(.str 150,.int 0),(.str 44,.tup []),(.str 142,.int 11),(.str 126,.int 100),(.str 152,.int t),(.str 63,rowT (c::r))]
theorem with_marks_ev (row:Row) (hl:row.length<=200) (s:Sp) {J:AH} {i:Nat} (hi:lk J.ob i=some (ownAO s)) (w:Wf J) (t:Int) (ht:row=[]->t=5):Grow 20 J 30 [rowV row,.ref i,.int t] (rowV (s.cl::row)):=by
 have hr:=w.free (Nat.le_refl J.nx)
 have hne:=w.nb hi (Nat.le_refl _)
 have hf:few ([natV s.cl].length+(row.map natV).length)=true:=few_ok (by rw [List.length_map]; show 1+_<=_; omega)
 have hle:=Nat.le_refl J.nx
 cases row with
 | nil =>
  cases ht rfl
  have c:=(((Ch.new (S:=[]) w (.dic [(.str 150,.int 0),(.str 44,.tup []),(.str 142,.int 11),(.str 126,.int 100)])).st (o':=.dic (D1 5)) at_new (.inr (Nat.le_refl _))).st (i:=J.nx) (o':=.dic (D2 5 s.cl [])) at_st (.inr (Nat.le_refl _))).dr (i:=J.nx) (Nat.le_refl _)
  exact ⟨_,by apply Cl.mk (F:=f_with_marks) rfl rfl; ktr_unf,c⟩
 | cons a r =>
  have c:=(((Ch.new (S:=[]) w (.dic (D2 5 a r)))).st (o':=.dic (D2 5 s.cl (a::r))) at_new (.inr (Nat.le_refl _))).dr (i:=J.nx) (Nat.le_refl _)
  exact ⟨_,by apply Cl.mk (F:=f_with_marks) rfl rfl; ktr_unf,c⟩
theorem may_be_told_ev (b:Bool) (J:AH):Cl 20 J 31 [.tup [],kdV b] (.bool true) J:=by
 cases b <;> (apply Cl.mk (F:=f_may_be_told) rfl rfl; ktr_unf)
theorem told_own_ev (s:Sp) (b:Bool) {J:AH} {i:Nat} (hi:lk J.ob i=some (ownAO s)) (w:Wf J):Grow 50 J 36 [ownV,.ref i,.none,.int 0,kdV b] (rowV []):=by
 have hr:=w.free (Nat.le_refl J.nx)
 have hle:=Nat.le_refl J.nx
 have c:=((Ch.new (S:=[]) w (.dic [(.str 150,.int 0),(.str 44,.tup []),(.str 142,.int 11)])).st (o':=.dic [(.str 150,.int 0),(.str 44,.tup []),(.str 142,.int 11),(.str 126,.int 100)]) at_new (.inr (Nat.le_refl _))).dr (i:=J.nx) (Nat.le_refl _)
 have q1:=may_be_told_ev b J
 have q0:Cl 20 J 28 [.none,kdV b] (.bool false) J:=by apply Cl.mk (F:=f_is_reflected) rfl rfl; ktr_unf
 have q:Cl 30 J 35 [ownV,.ref i,.none,kdV b,.int 0] (rowV []) ((J.ad (.dic [(.str 150,.int 0),(.str 44,.tup []),(.str 142,.int 11)])).st J.nx (.dic [(.str 150,.int 0),(.str 44,.tup []),(.str 142,.int 11),(.str 126,.int 100)]) |>.dr J.nx):=by apply Cl.mk (F:=f_told_inside) rfl rfl; ktr_unf
 refine ⟨_,?_,c⟩
 cases hc:((s.cl:Int)==0) with
 | true =>
  have q2:Cl 20 J 27 [.none,kdV b,.bool false] (.bool true) J:=by apply Cl.mk (F:=f_may_pass) rfl rfl; ktr_unf
  cases b <;> (apply Cl.mk (F:=f_told_attrs) rfl rfl; ktr_unf)
 | false =>
  have q2:Cl 20 J 27 [.none,kdV b,.bool true] (.bool true) J:=by apply Cl.mk (F:=f_may_pass) rfl rfl; ktr_unf
  cases b <;> (apply Cl.mk (F:=f_told_attrs) rfl rfl; ktr_unf)
theorem may_pass_ev (a b:Bool) (J:AH):Cl 20 J 27 [kdV a,kdV b,.bool true] (.bool (a||b)) J:=by
 cases a <;> cases b <;> (apply Cl.mk (F:=f_may_pass) rfl rfl; ktr_unf)
theorem is_reflected_ev (a b:Bool) (J:AH):Cl 20 J 28 [kdV a,kdV b] (.bool true) J:=by
 apply Cl.mk (F:=f_is_reflected) rfl rfl; ktr_unf
theorem told_in_ev (row:Row) (hl:row.length<=200) (s:Sp) (o:s.Ok) (hE:isE s=false) (a b:Bool) {J:AH} {i:Nat} (hi:lk J.ob i=some (ownAO s)) (w:Wf J) (t:Int) (ht:row=[]->t=5):Grow 50 J 36 [rowV row,.ref i,kdV a,.int t,kdV b] (cond (a||b) (rowV (s.cl::row)) .none):=by
 have hc:=o.cl0
 rw [hE] at hc
 have q1:=may_be_told_ev b J
 have q2:=may_pass_ev a b J
 cases hab:a||b <;> rw [hab] at q2
 ·exact ⟨J,by apply Cl.mk (F:=f_told_attrs) rfl rfl; ktr_unf,Ch.refl w⟩
 ·refine x1c2 (with_marks_ev row hl s hi w t ht) fun J' q c=>?_
  have q0:=is_reflected_ev a b J
  have q3:Cl 30 J 35 [rowV row,.ref i,kdV a,kdV b,.int t] (rowV (s.cl::row)) J':=by apply Cl.mk (F:=f_told_inside) rfl rfl; ktr_unf
  refine ⟨J',?_,c⟩
  cases b <;> (apply Cl.mk (F:=f_told_attrs) rfl rfl; ktr_unf)
noncomputable def due (s:Sp) (x:SpSt) (p:Pr):Option Row:=x.cho.bind fun r=>r.no.elim (some []) fun n=>cond (n==p.no) none (cond ((s.pr n).kd||p.kd) (some (s.cl::r.row)) none)
structure ChoIs (s:Sp) (r:Rt):Prop where
 is:RtIs s r
 own:r.no=none->∀ p∈s.prs,((11:Int)==p.addr)=false
 via:∀ n,r.no=some n->isE s=false/\(r.row=[]->(s.pr n).id=5)
noncomputable def DOk (s:Sp) (x:SpSt):Prop:=∀ r,x.cho=some r->ChoIs s r
theorem nhs (a:Row) (J:AH):MB J J (rowV a) 89 [.str 142] (.int 11) J:=by cases a <;> exact ⟨rfl⟩
theorem due_to_ev {s:Sp} {x:SpSt} {J:AH} (R:SpRep s x J) (o:s.Ok) (w:Wf J) (D:DOk s x) {p:Pr} (hp:p∈s.prs):Grow 60 J 55 [.ref (s.U .me),.int p.no,pre] (((due s x p).map rowV).getD .none):=by
 have e:=R.me; have e1:=R.chosen; have e2:=R.peers; have e3:=R.pd hp; have f1:=byNo_get o .pd hp; have f2:=byNo_fit s .pd p.no
 unfold due
 cases hc:x.cho with
 | none =>
  rw [hc] at e1
  exact ⟨J,by apply Cl.mk (F:=f_Speaker_due_to) rfl rfl; ktr_unf,Ch.refl w⟩
 | some r =>
  rw [hc] at e1
  have I:=D r hc
  obtain ⟨a,n,t⟩:=r
  cases n with
  | none =>
   refine x1c2 (told_own_ev s p.kd R.own w) fun J' q c=>?_
   have R':=R.gr w c
   have e':=R'.me; have e2':=R'.peers; have e3':=R'.pd hp
   have l:Cl 8 J' 54 [.ref (s.U .me),.int p.no,pre,rowV []] (rowV []) J':=by apply Cl.mk (F:=f_Speaker_let_out) rfl rfl; ktr_unf
   have hf:=I.own rfl p hp
   exact ⟨J',by apply Cl.mk (F:=f_Speaker_due_to) rfl rfl; ktr_unf,c⟩
  | some n =>
   obtain ⟨t',ht,z⟩:=I.is.no n rfl
   cases z
   have ⟨hE,h5⟩:=I.via _ rfl
   have e4:=R.pd ht; have f3:=byNo_get o .pd ht; have f4:=byNo_fit s .pd t'.no
   have hpr:=o.pr ht
   show Grow _ _ _ _ (((cond (t'.no==p.no) none (cond ((s.pr t'.no).kd||p.kd) (some (s.cl::a)) none)).map rowV).getD .none)
   rw [hpr] at h5 ⊢
   cases hq:(t'.no==p.no) with
   | true=>exact ⟨J,by apply Cl.mk (F:=f_Speaker_due_to) rfl rfl; ktr_unf,Ch.refl w⟩
   | false =>
    refine x1c2 (told_in_ev a I.is.ok s o hE t'.kd p.kd R.own w t'.id h5) fun J' q c=>?_
    have R':=R.gr w c
    have e':=R'.me; have e2':=R'.peers; have e3':=R'.pd hp
    show Grow _ _ _ _ (((cond (t'.kd||p.kd) (some (s.cl::a)) none).map rowV).getD .none)
    cases hk:t'.kd||p.kd <;> rw [hk] at q
    ·exact ⟨J',by apply Cl.mk (F:=f_Speaker_due_to) rfl rfl; ktr_unf,c⟩
    ·have l:Cl 8 J' 54 [.ref (s.U .me),.int p.no,pre,rowV (s.cl::a)] (rowV (s.cl::a)) J':=by apply Cl.mk (F:=f_Speaker_let_out) rfl rfl; ktr_unf
     have hg:=nhs (s.cl::a) J'
     exact ⟨J',by apply Cl.mk (F:=f_Speaker_due_to) rfl rfl; ktr_unf,c⟩
noncomputable abbrev Msg:=Option Row
noncomputable def msgL (o d:Option Row):List Msg:=d.elim (cond o.isSome [none] []) fun b=>cond (decide (o=some b)) [] [some b]
noncomputable def mv:Msg->AV
 | none=>.tup [.tup [pre],.dct [],.tup []]
 | some b=>.tup [.tup [],(rowV b),.tup [pre]]
theorem keys_pl (o1 o2:Option AV):∃ Q D,Mine.Internal.pairsOf (((pl o1).map (·.1)++(pl o2).map (·.1)).map fun v=>.tup [v,.bool true])=some Q/\dsets Q []=some D/\sortv (D.map (·.1))=some (cond (o1.isSome||o2.isSome) [pre] []) :=
 optF (F:=fun o1=>∃ Q D,Mine.Internal.pairsOf (((pl o1).map (·.1)++(pl o2).map (·.1)).map fun v=>.tup [v,.bool true])=some Q/\dsets Q []=some D/\sortv (D.map (·.1))=some (cond (o1.isSome||o2.isSome) [pre] []))
  (optF (F:=fun o2=>∃ Q D,Mine.Internal.pairsOf (((pl none).map (·.1)++(pl o2).map (·.1)).map fun v=>.tup [v,.bool true])=some Q/\dsets Q []=some D/\sortv (D.map (·.1))=some (cond (false||o2.isSome) [pre] [])) ⟨_,_,rfl,rfl,rfl⟩ (fun _=>⟨_,_,rfl,rfl,rfl⟩) o2)
  (fun a=>optF (F:=fun o2=>∃ Q D,Mine.Internal.pairsOf (((pl (some a)).map (·.1)++(pl o2).map (·.1)).map fun v=>.tup [v,.bool true])=some Q/\dsets Q []=some D/\sortv (D.map (·.1))=some [pre]) ⟨_,_,rfl,rfl,rfl⟩ (fun _=>⟨_,_,rfl,rfl,rfl⟩) o2) o1
theorem put_group {J:AH} {g:Nat} {v:AV} (w:Wf J) (hg:lk J.ob g=some (.lst [])) (hr:hasN J.ro g=false):Cl 20 J 58 [.ref g,v,pre] .none ((J.ad (.lst [pre])).st g (.lst [.tup [v,.ref J.nx]])):=by
 have e:=at_old (o':=.lst [pre]) w hg
 apply Cl.mk (F:=f_put_in_group) rfl rfl; ktr_unf
noncomputable def Left (J:AH) (i:Nat) (ms:List Msg):Prop:=(ms=[]/\lk J.ob i=some (.lst [])/\lk J.ob (i+1)=some (.lst []))∨(ms=[none]/\lk J.ob i=some (.lst [pre])/\lk J.ob (i+1)=some (.lst []))∨∃ b g,ms=[some b]/\lk J.ob i=some (.lst [])/\lk J.ob (i+1)=some (.lst [.tup [(rowV b),.ref g]])/\lk J.ob g=some (.lst [pre])
noncomputable abbrev OneT (s:Sp) (p:Pr) (i:Nat) (fr:FrA) (J:AH) (L:List AV) (ms:List Msg) (v:Option AV):Prop:=∃ fr' J',Ef 70 fr J (.loc 171) [(.asg 79 (.meth (.loc 198) 80 [(.loc 145),(.loc 171)])),(.ite (.cmp (.loc 79) .is (.cst .none)) [(.ite (.cmp (.meth (.loc 155) 168 [(.loc 171),(.cst .none)]) .isNot (.cst .none)) [(.expr (.meth (.loc 91) 42 [(.loc 171)]))] [])] [(.ite (.cmp (.meth (.loc 155) 89 [(.loc 171)]) .ne (.loc 79)) [(.asgS (.loc 155) (.loc 171) (.loc 79)),(.expr (.callF 58 [(.loc 92),(.loc 79),(.loc 171)]))] [])])] L .next fr' J'/\lk fr'.loc 91=some (.ref i)/\lk fr'.loc 92=some (.ref (i+1))/\Ch [i,i+1,s.U (.ot p)] J J'/\Left J' i ms/\lk J'.ob (s.U (.ot p))=some (.dic (pl v))
section
variable {s:Sp} {x:SpSt} {J:AH} (R:SpRep s x J) (o:s.Ok) (w:Wf J) (F:Free s J) (D:DOk s x)
include R o w F D
theorem one_turn {p:Pr} (hp:p∈s.prs) {i:Nat} (hi0:lk J.ob i=some (.lst [])) (hi1:lk J.ob (i+1)=some (.lst [])) (hr0:hasN J.ro i=false) (hr1:hasN J.ro (i+1)=false) {fr:FrA}
  (g1:lk fr.loc 198=some (.ref (s.U .me))) (g2:lk fr.loc 145=some (.int p.no)) (g3:lk fr.loc 155=some (.ref (s.U (.ot p)))) (g4:lk fr.loc 91=some (.ref i)) (g5:lk fr.loc 92=some (.ref (i+1))) :
  OneT s p i fr J [pre] (msgL (x.out p.no) (due s x p)) ((due s x p).map rowV):=by
 have e:=R.me
 refine x1c2 (due_to_ev R o w D hp) fun Ja q c=>?_
 have R1:=R.gr w c
 have e':=R1.me; have e3:=R1.ot hp
 have a0:=c.at0 w hi0; have a1:=c.at0 w hi1
 have h0:=c.cong hr0; have h1:=c.cong hr1; have h2:=c.cong (F (.ot p) hp)
 have n0:=R1.nlst a0 (.ot p) hp
 have n1:=R1.nlst a1 (.ot p) hp
 have n0':=nbS n0
 have n1':=nbS n1
 have c0:Ch [i,i+1,s.U (.ot p)] J Ja:=c.gr
 have hk:=pre_fit ((x.out p.no).map rowV)
 have hg:=pre_get ((x.out p.no).map rowV)
 have m2:s.U (.ot p)∈[i,i+1,s.U (.ot p)]:=.tail _ (.tail _ (.head _))
 have hii:Nat.beq i (i+1)=false:=nbF (Nat.ne_of_lt (Nat.lt_succ_self _))
 unfold msgL
 cases hd:due s x p with
 | none =>
  rw [hd] at q
  cases ho:x.out p.no with
  | none =>
   rw [ho] at e3 hk hg
   exact ⟨_,Ja,Ef.k rfl (by ktr_unf) (Fk.nx Ef.nil),by ktr_unf,by ktr_unf,c0,.inl ⟨rfl,a0,a1⟩,e3⟩
  | some a =>
   rw [ho] at e3 hk hg
   have a0':=at_stO (o':=.dic (ddel pre (pl (some (rowV a))))) n0' a0
   exact ⟨_,_,Ef.k rfl (by ktr_unf) (Fk.nx Ef.nil),by ktr_unf,by ktr_unf,(c0.st (o':=.dic (ddel pre (pl (some (rowV a))))) e3 (.inl m2)).st (o':=.lst [pre]) a0' (.inl (.head _)),.inr (.inl ⟨rfl,at_st,at_stO hii (at_stO n1' a1)⟩),at_stO n0 at_st⟩
 | some b =>
  rw [hd] at q
  have hset:=pre_set (rowV b) ((x.out p.no).map rowV)
  have hfw:few (dset pre (rowV b) (pl ((x.out p.no).map rowV))).length=true:=by rw [hset]; rfl
  have w1:=c.wf
  have w2:Wf (Ja.st (s.U (.ot p)) (.dic (dset pre (rowV b) (pl ((x.out p.no).map rowV))))):=w1.st e3
  have a1':=at_stO (o':=.dic (dset pre (rowV b) (pl ((x.out p.no).map rowV)))) n1' a1
  have a0':=at_stO (o':=.dic (dset pre (rowV b) (pl ((x.out p.no).map rowV)))) n0' a0
  have pg:=put_group (v:=(rowV b)) w2 a1' h1
  have cc:=((c0.st (o':=.dic (dset pre (rowV b) (pl ((x.out p.no).map rowV)))) e3 (.inl m2)).ad (.lst [pre])).st (i:=i+1) (o':=.lst [.tup [(rowV b),.ref Ja.nx]]) (at_old w2 a1') (.inl (.tail _ (.head _)))
  have hot:lk ((((Ja.st (s.U (.ot p)) (.dic (dset pre (rowV b) (pl ((x.out p.no).map rowV))))).ad (.lst [pre]))).st (i+1) (.lst [.tup [(rowV b),.ref Ja.nx]])).ob (s.U (.ot p))=some (.dic (pl (some (rowV b)))):=at_stO n1 (at_old w2 (at_st.trans (by rw [hset])))
  have L:Left ((((Ja.st (s.U (.ot p)) (.dic (dset pre (rowV b) (pl ((x.out p.no).map rowV))))).ad (.lst [pre]))).st (i+1) (.lst [.tup [(rowV b),.ref Ja.nx]])) i [some b]:=.inr (.inr ⟨b,Ja.nx,rfl,at_stO (nbS hii) (at_old w2 a0'),at_st,at_stO (nbS (w1.nb a1 (Nat.le_refl _))) at_new⟩)
  cases ho:x.out p.no with
  | none =>
   rw [ho] at e3 hk hg pg cc hot L hfw
   exact ⟨_,_,Ef.k rfl (by ktr_unf) (Fk.nx Ef.nil),by ktr_unf,by ktr_unf,cc,L,hot⟩
  | some a =>
   rw [ho] at e3 hk hg pg cc hot L hfw
   have hq:=eqv_row a b
   show OneT s p i fr J [pre] (cond (decide (some a=some b)) [] [some b]) (some (rowV b))
   by_cases z:a=b
   ·rw [decide_eq_true z] at hq
    rw [show decide (some a=some b)=true from decide_eq_true (congrArg some z)]
    subst z
    exact ⟨_,Ja,Ef.k rfl (by ktr_unf) (Fk.nx Ef.nil),by ktr_unf,by ktr_unf,c0,.inl ⟨rfl,a0,a1⟩,e3⟩
   ·rw [decide_eq_false z] at hq
    rw [show decide (some a=some b)=false from decide_eq_false fun h=>z (Option.some.inj h)]
    exact ⟨_,_,Ef.k rfl (by ktr_unf) (Fk.nx Ef.nil),by ktr_unf,by ktr_unf,cc,L,hot⟩
theorem tell_head {p:Pr} (hp:p∈s.prs):∃ J8,Ch [] J J8/\J.nx+1 < J8.nx/\lk J8.ob J.nx=some (.lst [])/\lk J8.ob (J.nx+1)=some (.lst [])/\∃ fr,lk fr.loc 198=some (.ref (s.U .me))/\lk fr.loc 145=some (.int p.no)/\lk fr.loc 155=some (.ref (s.U (.ot p)))/\lk fr.loc 91=some (.ref J.nx)/\lk fr.loc 92=some (.ref (J.nx+1))/\∃ t,J.nx+1 < t/\t < J8.nx ∧
  ∀ fr' J',Ef 70 fr (J8.lock [t]) (.loc 171) [(.asg 79 (.meth (.loc 198) 80 [(.loc 145),(.loc 171)])),(.ite (.cmp (.loc 79) .is (.cst .none)) [(.ite (.cmp (.meth (.loc 155) 168 [(.loc 171),(.cst .none)]) .isNot (.cst .none)) [(.expr (.meth (.loc 91) 42 [(.loc 171)]))] [])] [(.ite (.cmp (.meth (.loc 155) 89 [(.loc 171)]) .ne (.loc 79)) [(.asgS (.loc 155) (.loc 171) (.loc 79)),(.expr (.callF 58 [(.loc 92),(.loc 79),(.loc 171)]))] [])])] (cond (((x.out p.no).map rowV).isSome||(x.cho.map Rt.v).isSome) [pre] []) .next fr' J'->∀ i fr2 h2 l,Es 79 fr' (J'.wr J.ro) ((f_Speaker_tell_one).body.drop 2) (.ret (.ref i)) fr2 h2->lk h2.ob i=some (.lst l)->Cl 80 J 56 [.ref (s.U .me),.int p.no] (.ref i) h2:=by
 refine x2c3 (keys_pl ((x.out p.no).map rowV) (x.cho.map Rt.v)) fun Q dd k1 k2 k3=>?_
 have hK:few (cond (((x.out p.no).map rowV).isSome||(x.cho.map Rt.v).isSome) [pre] []).length=true:=boolK (F:=fun b=>few (cond b [pre] []).length=true) rfl rfl
 have f1:=byNo_get o .ot hp; have f2:=byNo_fit s .ot p.no
 have e:=R.me; have e2:=R.outs
 have c2:=(Ch.new (S:=[]) w (.lst [])).ad (.lst [])
 have R2:=R.gr w c2
 have a1:=R2.ot hp
 have c3:=c2.ad (.lst ((pl ((x.out p.no).map rowV)).map (·.1)))
 have R3:=R.gr w c3
 have b1:=R3.me; have b2:=R3.chosen
 have c4:=c3.ad (.lst ((pl (x.cho.map Rt.v)).map (·.1)))
 have d1:=at_old (o':=.lst ((pl (x.cho.map Rt.v)).map (·.1))) c3.wf (at_new (J:=(J.ad (.lst [])).ad (.lst [])) (o:=.lst ((pl ((x.out p.no).map rowV)).map (·.1))))
 have hl:∀ o:Option AV,((pl o).map (·.1)).length<=1:=optF (Nat.zero_le _) fun _=>Nat.le_refl _
 have hl2:(((pl ((x.out p.no).map rowV)).map (·.1))++((pl (x.cho.map Rt.v)).map (·.1))).length<=2:=by rw [List.length_append]; exact Nat.add_le_add (hl _) (hl _)
 have hf2:few (((pl ((x.out p.no).map rowV)).map (·.1)).length+((pl (x.cho.map Rt.v)).map (·.1)).length)=true:=few_ok (ltr (Nat.add_le_add (hl _) (hl _)) (by decide))
 let fr:FrA:=(frP (f_Speaker_tell_one).params [.ref (s.U .me),.int p.no]).bW (([92,91,155]:List Nat).map .loc) ([.ref (s.U (.ot p)),.ref J.nx,.ref (J.nx+1)]:List AV).reverse
 have e0:Ei 20 fr ((J.ad (.lst [])).ad (.lst [])) (.of (.bin (.callB .list (.loc 155)) .add (.callB .list (.attr (.loc 198) 59)))) (((pl ((x.out p.no).map rowV)).map (·.1)++(pl (x.cho.map Rt.v)).map (·.1)).map fun v=>v) (lockOf (.ref (J.nx+4))) (((((J.ad (.lst [])).ad (.lst [])).ad (.lst ((pl ((x.out p.no).map rowV)).map (·.1)))).ad (.lst ((pl (x.cho.map Rt.v)).map (·.1)))).ad (.lst (((pl ((x.out p.no).map rowV)).map (·.1))++((pl (x.cho.map Rt.v)).map (·.1))))):=by rw [List.map_id']; ktr_unf
 have k:=Ek_all (m:=148) (x:=.tup [.loc 148,.cst (.bool true)]) (fun v=>v) (fun v=>.tup [v,.bool true]) rfl e0 (ltr hl2 (by decide)) (fun v _=>by ktr_unf)
 have c8:=((((((Ch.new (S:=[]) c2.wf (.lst ((pl ((x.out p.no).map rowV)).map (·.1)))).ad (.lst ((pl (x.cho.map Rt.v)).map (·.1))))).ad (.lst ((pl ((x.out p.no).map rowV)).map (·.1)++(pl (x.cho.map Rt.v)).map (·.1)))).ad (.lst (((pl ((x.out p.no).map rowV)).map (·.1)++(pl (x.cho.map Rt.v)).map (·.1)).map fun v=>.tup [v,.bool true]))).ad (.dic dd)).ad (.lst (cond (((x.out p.no).map rowV).isSome||(x.cho.map Rt.v).isSome) [pre] []))
 refine ⟨_,c2.trans c8,by show J.nx+1 < J.nx+8; omega,c8.at0 c2.wf (at_old (w.ad _) at_new),c8.at0 c2.wf at_new,fr,rfl,rfl,rfl,rfl,rfl,J.nx+7,by omega,Nat.lt_succ_self _,fun fr' J' E i fr2 h2 l T L=>?_⟩
 refine Cl.mk (F:=f_Speaker_tell_one) (fl:=.ret (.ref i)) (fr1:=fr2) (h1:=h2) rfl rfl ?_ (cr0 (fz_lst L))
 apply Es.asgW
 ·ktr_unf
 ·rfl
 apply Es.for_
 ·ktr_unf
 ·exact E.up rfl
 ·exact Sk.nx T
end
theorem Ch.sub {S T:List Nat} {J Ja J':AH} (c:Ch [] J Ja) (D:Ch T Ja J') (h:∀ i∈T,i∈S∨J.nx<=i):Ch S J J' :=
 ⟨D.ro.trans c.ro,ltr c.nx D.nx,fun j hj hs=>(D.keep j (Nat.lt_of_lt_of_le hj c.nx) fun z=>(h j z).elim hs fun q=>absurd hj (Nat.not_lt.mpr q)).trans (c.keep j hj fun z=>nomatch z),D.wf⟩
theorem tell_tail {J:AH} (w:Wf J) {i:Nat} {ms:List Msg} (L:Left J i ms) {fr:FrA} (g1:lk fr.loc 91=some (.ref i)) (g2:lk fr.loc 92=some (.ref (i+1))) :
  ∃ j fr' J',Es 79 fr J ((f_Speaker_tell_one).body.drop 2) (.ret (.ref j)) fr' J'/\Ch [] J J'/\lk J'.ob j=some (.lst (ms.map mv)):=by
 rcases L with ⟨rfl,a,b⟩ | ⟨rfl,a,b⟩ | ⟨c,g,rfl,a,b,e⟩
 ·have b':=at_old (o':=.lst []) w b
  have c1:=Ch.new (S:=[]) w (.lst [])
  have d:=at_old (o':=.lst []) c1.wf (at_new (J:=J) (o:=.lst []))
  exact ⟨_,_,_,by ktr_unf,((c1.ad (.lst [])).ad (.lst ([]++[]))),at_new⟩
 ·have b':=at_old (o':=.lst [mv none]) w b
  have c1:=Ch.new (S:=[]) w (.lst [mv none])
  have d:=at_old (o':=.lst []) c1.wf (at_new (J:=J) (o:=.lst [mv none]))
  exact ⟨_,_,_,by ktr_unf,((c1.ad (.lst [])).ad (.lst ([mv none]++[]))),at_new⟩
 ·have b':=at_old (o':=.lst []) w b
  have e':=at_old (o':=.lst []) w e
  have c1:=Ch.new (S:=[]) w (.lst [])
  have d:=at_old (o':=.lst [mv (some c)]) c1.wf (at_new (J:=J) (o:=.lst []))
  exact ⟨_,_,_,by ktr_unf,((c1.ad (.lst [mv (some c)])).ad (.lst ([]++[mv (some c)]))),at_new⟩
noncomputable abbrev Told1 (s:Sp) (p:Pr) (J:AH) (ms:List Msg) (v:Option AV):Prop:=∃ i J',Cl 80 J 56 [.ref (s.U .me),.int p.no] (.ref i) J'/\Ch [s.U (.ot p)] J J'/\lk J'.ob i=some (.lst (ms.map mv))/\lk J'.ob (s.U (.ot p))=some (.dic (pl v))
theorem tell_one_ev {s:Sp} {x:SpSt} {J:AH} (R:SpRep s x J) (o:s.Ok) (w:Wf J) (F:Free s J) (D:DOk s x) {p:Pr} (hp:p∈s.prs) :
  Told1 s p J (msgL (x.out p.no) (due s x p)) ((due s x p).map rowV):=by
 obtain ⟨J8,c8,hn,l0,l1,fr,g1,g2,g3,g4,g5,t,ht,ht',go⟩:=tell_head R o w F D hp
 have wl:=c8.wf.lock1 ht'
 have Rl:=(R.gr w c8).lck [t]
 have Fl:Free s (J8.lock [t]):=fun k hk=>hasN_skip (w.nb (R k hk) (by omega)) (c8.cong (F k hk))
 have mid:OneT s p J.nx fr (J8.lock [t]) (cond (((x.out p.no).map rowV).isSome||(x.cho.map Rt.v).isSome) [pre] []) (msgL (x.out p.no) (due s x p)) ((due s x p).map rowV):=by
  cases hb:((x.out p.no).map rowV).isSome||(x.cho.map Rt.v).isSome with
  | true=>exact one_turn Rl o wl Fl D hp l0 l1 (hasN_skip (nbF (by omega)) (c8.cong (w.free (Nat.le_refl _)))) (hasN_skip (nbF (by omega)) (c8.cong (w.free (Nat.le_succ _)))) g1 g2 g3 g4 g5
  | false =>
   have e3:=Rl.ot hp
   have h1:x.out p.no=none:=by cases h:x.out p.no with | none=>rfl | some _=>rw [h] at hb; exact nomatch hb
   have h2:x.cho=none:=by cases h:x.cho with | none=>rfl | some _=>rw [h,h1] at hb; exact nomatch hb
   have hd:due s x p=none:=by unfold due; rw [h2]; rfl
   rw [h1] at e3 ⊢
   rw [hd]
   exact ⟨fr,_,Ef.nil,g4,g5,Ch.refl wl,.inl ⟨rfl,l0,l1⟩,e3⟩
 refine x2c6 (mid) fun fr' J' q k1 k2 c L e=>?_
 have c':=Ch.lock c c8.wf
 have cc:Ch [s.U (.ot p)] J (J'.wr J8.ro):=c8.sub c' fun i hi=>by
  rcases List.mem_cons.mp hi with rfl | hi
  ·exact .inr (Nat.le_refl _)
  ·rcases List.mem_cons.mp hi with rfl | hi
   ·exact .inr (Nat.le_succ _)
   ·exact .inl hi
 refine x3c3 (tell_tail (J:=J'.wr J.ro) (c8.ro▸cc.wf) L k1 k2) fun j fr2 Jb T c2 l=>?_
 have cf:Ch [s.U (.ot p)] J (J'.wr J.ro):=c8.ro▸cc
 exact ⟨j,Jb,go fr' J' q j fr2 Jb _ T l,cf.trans c2.gr,l,c2.at0 cf.wf e⟩
noncomputable def m3:Msg->AV×AV×AV
 | none=>(.tup [pre],.dct [],.tup [])
 | some b=>(.tup [],(rowV b),.tup [pre])
noncomputable def rowv (q:Int×Msg):AV:=.tup [.int q.1,(m3 q.2).1,(m3 q.2).2.1,(m3 q.2).2.2]
theorem mv_3:∀ m,mv m=.tup [(m3 m).1,(m3 m).2.1,(m3 m).2.2]
 | none=>rfl
 | some _=>rfl
noncomputable def setOut (x:SpSt) (n:Int) (v:Option Row):SpSt:={ x with out:=fun m=>if m=n then v else x.out m }
noncomputable def tellSt (s:Sp) (x:SpSt):List Pr->SpSt
 | []=>x
 | p::ps=>tellSt s (setOut x p.no (due s x p)) ps
noncomputable def tellRows (s:Sp) (x:SpSt):List Pr->List (Int×Msg)
 | []=>[]
 | p::ps=>(msgL (x.out p.no) (due s x p)).map (fun m=>(p.no,m))++tellRows s (setOut x p.no (due s x p)) ps
theorem msgL_len (o d:Option Row):(msgL o d).length<=1 :=
 optF (F:=fun d=>(msgL o d).length<=1) (boolK (F:=fun b=>(cond b [none] []:List Msg).length<=1) (Nat.le_refl _) (Nat.zero_le _)) (fun b=>boolK (F:=fun q=>(cond q [] [some b]:List Msg).length<=1) (Nat.zero_le _) (Nat.le_refl _)) d
theorem tellRows_len (s:Sp):∀ (ps:List Pr) (x:SpSt),(tellRows s x ps).length<=ps.length
 | [],_=>Nat.le_refl _
 | p::ps,x=>by
  show ((msgL (x.out p.no) (due s x p)).map (fun m=>(p.no,m))++tellRows s (setOut x p.no (due s x p)) ps).length<=ps.length+1
  rw [List.length_append,List.length_map,Nat.add_comm]
  exact Nat.add_le_add (tellRows_len s ps _) (msgL_len ..)
noncomputable abbrev TellL (s:Sp) (x:SpSt) (fid:Nat) (fr:FrA) (J:AH) (acc:List AV) (ps:List Pr):Prop:=∃ fr' J',Ef 90 fr J (.cel 145) [(.expr (.meth (.loc 88) 84 [(.comp (.tup [(.cel 145),(.loc 235),(.loc 46),(.loc 172)]) [(.mk (.tup [(.loc 235),(.loc 46),(.loc 172)]) (.of (.meth (.loc 198) 211 [(.cel 145)])) [])])]))] (ps.map fun p=>.int p.no) .next fr' J'/\lk fr'.loc 88=some (.ref fid)/\Ch (fid::ps.map fun p=>s.U (.ot p)) J J'/\SpRep s (tellSt s x ps) J'/\lk J'.ob fid=some (.lst (acc++(tellRows s x ps).map rowv))
section
variable {s:Sp} (o:s.Ok)
include o
theorem rep_out {x:SpSt} {J J':AH} (R:SpRep s x J) (w:Wf J) {p:Pr} (hp:p∈s.prs) {v:Option Row} {S:List Nat} (c:Ch S J J') (hS:∀ k,s.has k->s.U k∈S->k=.ot p) (e:lk J'.ob (s.U (.ot p))=some (.dic (pl (v.map rowV)))):SpRep s (setOut x p.no v) J':=fun k hk=>by
 by_cases hm:k=.ot p
 ·subst hm
  exact e.trans (congrArg (fun q:Option Row=>some (pdic (q.map rowV))) (if_pos rfl).symm)
 ·refine (c.at w (R k hk) (fun z=>hm (hS k hk z))).trans ?_
  cases k with
  | ot q=>exact congrArg (fun q:Option Row=>some (pdic (q.map rowV))) (if_neg (fun z:q.no=p.no=>hm (by rw [nodup_inj o.nd hk hp z]))).symm
  | _=>rfl
theorem tell_loop {fid:Nat} (ps:List Pr):(∀ p∈ps,p∈s.prs)->∀ (x:SpSt) (fr:FrA) (J:AH) (acc:List AV),DOk s x->SpRep s x J->Wf J->Free s J->lk fr.loc 198=some (.ref (s.U .me))->lk fr.loc 88=some (.ref fid) ->
  lk J.ob fid=some (.lst acc)->hasN J.ro fid=false->acc.length+ps.length<=500 ->
  TellL s x fid fr J acc ps:=by
 induction ps with
 | nil=>exact fun _ x fr J acc D R w F h1 h2 hf hr hlen=>⟨fr,J,Ef.nil,h2,Ch.refl w,R,hf.trans (congrArg (fun l=>some (AO.lst l)) (List.append_nil acc).symm)⟩
 | cons p ps ih =>
  intro hps x fr J acc D R w F h1 h2 hf hr hlen
  have hp:=hps p (.head _)
  rw [List.length_cons] at hlen
  refine x2c4 ((tell_one_ev R o w F D hp)) fun i Ja q c1 l1 l2=>?_
  have hm:=msgL_len (x.out p.no) (due s x p)
  generalize hms:msgL (x.out p.no) (due s x p)=ms at l1 hm
  have e:=R.me
  have hnf:=R.nlst hf
  have hfo:=hnf (.ot p) hp
  have hf1:lk Ja.ob fid=some (.lst acc):=c1.at w hf fun z=>nbN hfo (List.mem_singleton.mp z)
  have hr1:=c1.cong hr
  have g1:lk (fr.bT (.cel 145) (.int p.no)).cel 145=some (.int p.no):=lk_sc
  have g2:lk (fr.bT (.cel 145) (.int p.no)).loc 198=some (.ref (s.U .me)):=h1
  have g3:lk (fr.bT (.cel 145) (.int p.no)).loc 88=some (.ref fid):=h2
  have e0:Ei 84 (fr.bT (.cel 145) (.int p.no)) J (.of (.meth (.loc 198) 211 [.cel 145])) (ms.map mv) (lockOf (.ref i)) Ja:=by ktr_unf
  obtain ⟨frb,k⟩:=Eg_run (n:=84) (h:=Ja.lock (lockOf (.ref i))) (t:=.tup [.loc 235,.loc 46,.loc 172]) (ifs:=[]) (x:=.tup [.cel 145,.loc 235,.loc 46,.loc 172]) mv
   (fun m=>⟨[(235,(m3 m).1),(46,(m3 m).2.1),(172,(m3 m).2.2)],(fr.bT (.cel 145) (.int p.no)).cel⟩) (fun _=>true) (fun m=>rowv (p.no,m)) (fun f=>f=⟨[],(fr.bT (.cel 145) (.int p.no)).cel⟩∨∃ a b c,f=⟨[(235,a),(46,b),(172,c)],(fr.bT (.cel 145) (.int p.no)).cel⟩) ms
   (fun f hf m _=>by rw [mv_3]; rcases hf with rfl | ⟨a,b,c,rfl⟩ <;> rfl) (fun _ _=>.inr ⟨_,_,_,rfl⟩) (fun _ _=>Ea.nil) (fun m _=>by ktr_unf) _ (.inl rfl)
  rw [filter_t] at k
  have kk:=Ek.mk e0 k (few_ok (by rw [List.length_map]; omega))
  have c2:=c1.ad (.lst (ms.map fun m=>rowv (p.no,m)))
  have hf2:=at_old (o':=.lst (ms.map fun m=>rowv (p.no,m))) c1.wf hf1
  have hot:=at_old (o':=.lst (ms.map fun m=>rowv (p.no,m))) c1.wf l2
  have hj:=c1.wf.nb hf1 (Nat.le_refl _)
  have hn:lk (Ja.ad (.lst (ms.map fun m=>rowv (p.no,m)))).ob Ja.nx=some (.lst (ms.map fun m=>rowv (p.no,m))):=at_new
  have hfw:few (acc.length+(ms.map fun m=>rowv (p.no,m)).length)=true:=few_ok (by rw [List.length_map]; omega)
  have c3:=(c2.mono (T:=[fid,s.U (.ot p)]) fun _ h=>.tail _ h).st (o':=.lst (acc++ms.map fun m=>rowv (p.no,m))) hf2 (.inl (.head _))
  have R3:=rep_out o R w hp (v:=due s x p) c3 (fun k hk hm=>(List.mem_cons.mp hm).elim (fun z=>absurd z.symm (nbN (hnf k hk))) fun z=>o.inj k (.ot p) hk hp (List.mem_singleton.mp z)) (at_stO hfo hot)
  refine x2c5 ((ih (fun b hb=>hps b (.tail _ hb)) (setOut x p.no (due s x p)) (fr.bT (.cel 145) (.int p.no)) _ _ D R3 c3.wf (fun k hk=>c3.cong (F k hk)) h1 h2 at_st hr1 (by rw [List.length_append,List.length_map]; omega))) fun fr' J' q1 q2 q3 q4 q5=>?_
  refine ⟨fr',J',Ef.k rfl ?_ (Fk.nx q1),q2,(c3.mono fun z hz=>?_).trans (q3.mono fun z hz=>?_),q4,by
   show lk J'.ob fid=some (.lst (acc++((msgL (x.out p.no) (due s x p)).map (fun m=>(p.no,m))++tellRows s (setOut x p.no (due s x p)) ps).map rowv))
   rw [q5,hms,List.map_append,List.map_map,List.append_assoc]; rfl⟩
  ·refine Es.expr (Ee.mB rfl (Ee.loc g3) (El.c (Ee.comp (kk.up rfl)) El.nil) (mb_extL hj hn hf hf2 hr1 hfw)) Es.nil
  ·rcases List.mem_cons.mp hz with rfl | hz
   ·exact .head _
   ·exact .tail _ (List.mem_singleton.mp hz▸.head _)
  ·rcases List.mem_cons.mp hz with rfl | hz
   ·exact .head _
   ·exact .tail _ (.tail _ hz)
theorem tell_ev {x:SpSt} {J:AH} (R:SpRep s x J) (w:Wf J) (F:Free s J) (D:DOk s x):∃ i J',Cl 100 J 57 [.ref (s.U .me)] (.ref i) J'/\Ch (s.prs.map fun p=>s.U (.ot p)) J J'/\SpRep s (tellSt s x s.prs) J'/\lk J'.ob i=some (.lst ((tellRows s x s.prs).map rowv))/\J.nx<=i:=by
 have e:=at_old (o':=.lst []) w R.me; have e1:=at_old (o':=.lst []) w R.outs
 have hsrt:sortv ((byNo s .ot).map (·.1))=_:=(congrArg sortv (byNo_keys s .ot)).trans o.srt
 have hfl:few (s.prs.map fun p:Pr=>AV.int p.no).length=true:=few_ok (by rw [List.length_map]; exact ltr o.few (by decide))
 have hr:=w.free (Nat.le_refl J.nx)
 have c0:=Ch.new (S:=[]) w (.lst [])
 have c1:=c0.ad (.lst (s.prs.map fun p:Pr=>.int p.no))
 refine x2c5 ((tell_loop o (fid:=J.nx) s.prs (fun _ h=>h) x ((frP (f_Speaker_tell).params [.ref (s.U .me)]).sl 88 (.ref J.nx)) (((J.ad (.lst [])).ad (.lst (s.prs.map fun p:Pr=>.int p.no))).lock [J.nx+1]) [] D ((R.gr w c1).lck _) (c1.wf.lock1 (Nat.lt_succ_self _))
  (fun k hk=>hasN_skip (w.nb (R k hk) (Nat.le_succ _)) (F k hk)) rfl rfl (at_old c0.wf at_new) (hasN_skip (nbF (Nat.succ_ne_self _)) hr) (by have:=o.few; show 0+_<=_; omega))) fun fr' J' q1 q2 q3 q4 q5=>?_
 refine ⟨J.nx,_,by apply Cl.mk (F:=f_Speaker_tell) rfl rfl; ktr_unf,c1.sub (q3.lock c1.wf) fun i hi=>?_,q4.lck J.ro,q5,Nat.le_refl _⟩
 rcases List.mem_cons.mp hi with rfl | hi
 ·exact .inr (Nat.le_refl _)
 ·exact .inl hi
end
inductive WKey | me | speakers | facts | numbers | queues | num (a:Nat) | fct (a:Nat) | que (a b:Nat) | sp (a:Nat) (k:SKey)
structure Wd where
 U:WKey->Nat
 ns:List Nat
 sp:Nat->Sp
 nb:Nat->List (Nat×Pr)
 ways:List (Nat×Nat)
structure WSt where
 st:Nat->SpSt
 q:Nat->Nat->List Msg
noncomputable def wayv (q:Nat×Nat):AV:=.tup [.str q.1,.str q.2]
noncomputable def Wd.has (W:Wd):WKey->Prop
 | .num a=>a∈W.ns | .fct a=>a∈W.ns | .que a b=>(a,b)∈W.ways | .sp a k=>a∈W.ns/\(W.sp a).has k
 | .me=>True | .speakers=>True | .facts=>True | .numbers=>True | .queues=>True
noncomputable def byNm (W:Wd) (f:Nat->WKey):List (AV×AV):=W.ns.map fun a=>(.str a,.ref (W.U (f a)))
noncomputable def numL (W:Wd) (a:Nat):List (AV×AV):=(W.nb a).map fun q=>(.str q.1,.int q.2.no)
noncomputable def queL (W:Wd):List (AV×AV):=W.ways.map fun q=>(wayv q,.ref (W.U (.que q.1 q.2)))
noncomputable def factAO (s:Sp):AO:=.dic [(.str 96,.int s.id),(.str 43,.int 100),(.str 37,.int s.addr)]
noncomputable def Wd.attrs (W:Wd):List (Nat×AV):=[(203,.ref (W.U .speakers)),(85,.ref (W.U .facts)),(146,.ref (W.U .numbers)),(176,.ref (W.U .queues))]
noncomputable def Wd.ct (W:Wd) (x:WSt):WKey->AO
 | .me=>.ins 1 W.attrs
 | .speakers=>.dic (byNm W (.sp · .me))
 | .facts=>.dic (byNm W .fct)
 | .numbers=>.dic (byNm W .num)
 | .queues=>.dic (queL W)
 | .num a=>.dic (numL W a)
 | .fct a=>factAO (W.sp a)
 | .que a b=>.lst ((x.q a b).map mv)
 | .sp a k=>(W.sp a).ct (x.st a) k
noncomputable def WRep (W:Wd) (x:WSt) (J:AH):Prop:=RepK W.has W.U (W.ct x) J
noncomputable def WFree (W:Wd) (J:AH):Prop:=∀ k,W.has k->hasN J.ro (W.U k)=false
structure Wd.Ok (W:Wd):Prop where
 inj:∀ a b,W.has a->W.has b->W.U a=W.U b->a=b
 spU:∀ a k,(W.sp a).U k=W.U (.sp a k)
 nd:W.ns.Nodup
 ok:∀ a∈W.ns,(W.sp a).Ok
 prs:∀ a∈W.ns,(W.sp a).prs=(W.nb a).map (·.2)
 ndn:∀ a∈W.ns,((W.nb a).map (·.1)).Nodup
 ndw:W.ways.Nodup
 way:∀ a∈W.ns,∀ q∈W.nb a,(a,q.1)∈W.ways
 wayn:∀ q∈W.ways,q.1∈W.ns/\q.2∈W.ns/\∃ p,(q.1,p)∈W.nb q.2
 few:W.ways.length<=20
section
variable {W:Wd} {x:WSt} {J:AH} (R:WRep W x J)
include R
theorem WRep.gr {J':AH} (w:Wf J) (C:Ch [] J J'):WRep W x J':=RepK.gr R w C
theorem WRep.lck (l:List Nat):WRep W x (J.lock l):=R
theorem WRep.me:lk J.ob (W.U .me)=some (.ins 1 W.attrs):=R .me trivial
theorem WRep.speakers:lk J.ob (W.U .speakers)=some (.dic (byNm W (.sp · .me))):=R .speakers trivial
theorem WRep.numbers:lk J.ob (W.U .numbers)=some (.dic (byNm W .num)):=R .numbers trivial
theorem WRep.queues:lk J.ob (W.U .queues)=some (.dic (queL W)):=R .queues trivial
theorem WRep.num {a:Nat} (h:a∈W.ns):lk J.ob (W.U (.num a))=some (.dic (numL W a)):=R (.num a) h
theorem WRep.que {a b:Nat} (h:(a,b)∈W.ways):lk J.ob (W.U (.que a b))=some (.lst ((x.q a b).map mv)):=R (.que a b) h
theorem WRep.sp (o:W.Ok) {a:Nat} (h:a∈W.ns):SpRep (W.sp a) (x.st a) J:=fun k hk=>by rw [o.spU]; exact R (.sp a k) ⟨h,hk⟩
end
theorem dget_map {U:Type} {key:U->AV} {g:U->AV} {l:List U} {a:U} (h:a∈l) (hs:eqB (key a) (key a)=true) (hd:∀ b∈l,eqB (key b) (key a)=true->b=a):dget (key a) (l.map fun b=>(key b,g b))=some (g a):=by
 induction l with
 | nil=>exact nomatch h
 | cons b l ih =>
  show cond (eqB (key b) (key a)) (some (g b)) (dget (key a) (l.map fun b=>(key b,g b)))=_
  cases q:eqB (key b) (key a) with
  | true=>exact congrArg (fun b=>some (g b)) (hd b (.head _) q)
  | false =>
   cases h with
   | head=>exact nomatch q.symm.trans hs
   | tail _ h=>exact ih h fun c hc=>hd c (.tail _ hc)
theorem byNm_get {W:Wd} (f:Nat->WKey) {a:Nat} (h:a∈W.ns):dget (.str a) (byNm W f)=some (.ref (W.U (f a))):=dget_map (key:=AV.str) (g:=fun a=>.ref (W.U (f a))) h (Nat.beq_refl a) fun _ _ e=>Nat.eq_of_beq_eq_true e
theorem kf_map {U:Type} {key:U->AV} {g:U->AV} {k:AV} (hk:keyOk k=true) (h:∀ a,sameKind (key a) k=true):∀ l:List U,kfit k (l.map fun a=>(key a,g a))=true
 | []=>(congrArg (·&&true) hk)
 | a::_=>(congrArg (·&&sameKind (key a) k) hk).trans (h a)
theorem byNm_fit (W:Wd) (f:Nat->WKey) (a:Nat):kfit (.str a) (byNm W f)=true:=kf_map (key:=AV.str) rfl (fun _=>rfl) _
theorem numL_fit (W:Wd) (a b:Nat):kfit (.str b) (numL W a)=true:=kf_map (key:=fun q:Nat×Pr=>AV.str q.1) rfl (fun _=>rfl) _
theorem queL_fit (W:Wd) (q:Nat×Nat):kfit (wayv q) (queL W)=true:=kf_map (key:=wayv) rfl (fun _=>rfl) _
theorem nd_fst {l:List (Nat×Pr)} (hn:(l.map (·.1)).Nodup) {q r:Nat×Pr} (hq:q∈l) (hr:r∈l) (e:r.1=q.1):r=q:=by
 induction l with
 | nil=>exact nomatch hq
 | cons b l ih =>
  have ⟨h1,h2⟩:=List.nodup_cons.mp hn
  cases hq with
  | head=>cases hr with
   | head=>rfl
   | tail _ hr=>exact absurd (show q.1∈l.map _ from e▸List.mem_map_of_mem hr) h1
  | tail _ hq=>cases hr with
   | head=>exact absurd (show r.1∈l.map _ from e▸List.mem_map_of_mem hq) h1
   | tail _ hr=>exact ih h2 hq hr
theorem numL_get {W:Wd} {a:Nat} (hn:((W.nb a).map (·.1)).Nodup) {q:Nat×Pr} (h:q∈W.nb a):dget (.str q.1) (numL W a)=some (.int q.2.no):=dget_map (key:=fun q:Nat×Pr=>AV.str q.1) (g:=fun q=>.int q.2.no) h (Nat.beq_refl _) fun _ hb e=>nd_fst hn h hb (Nat.eq_of_beq_eq_true e)
theorem queL_get {W:Wd} {q:Nat×Nat} (h:q∈W.ways):dget (wayv q) (queL W)=some (.ref (W.U (.que q.1 q.2))):=dget_map (key:=wayv) (g:=fun q=>.ref (W.U (.que q.1 q.2))) h
 (by show (Nat.beq q.1 q.1&&(Nat.beq q.2 q.2&&true))=true; rw [Nat.beq_refl,Nat.beq_refl]; rfl)
 fun b _ e=>andK (a:=Nat.beq b.1 q.1) e fun e1 e2=>andK e2 fun e2 _=>Prod.ext (Nat.eq_of_beq_eq_true e1) (Nat.eq_of_beq_eq_true e2)
section
variable {W:Wd} (o:W.Ok) {x:WSt} {J:AH} (R:WRep W x J) (w:Wf J)
include o R w
theorem peer_loop {a:Nat} (ha:a∈W.ns) (n:Int) {r:List Nat} (qs:List (Nat×Pr)):(∀ q∈qs,q∈W.nb a)->∀ (fr:FrA),lk fr.loc 198=some (.ref (W.U .me))->lk fr.loc 139=some (.str a)->lk fr.loc 145=some (.int n)->(∃ q∈qs,q.2.no=n) ->
  ∃ q∈qs,q.2.no=n/\∃ fr',Ef 20 fr (J.lock r) (.loc 154) [(.ite (.cmp (.sub (.sub (.attr (.loc 198) 146) (.loc 139)) (.loc 154)) .eq (.loc 145)) [(.ret (.loc 154))] [])] (qs.map fun q=>.str q.1) (.ret (.str q.1)) fr' (J.lock r):=by
 induction qs with
 | nil=>exact fun _ _ _ _ _ h=>h.elim fun _ h=>nomatch h.1
 | cons q qs ih =>
  intro hqs fr h1 h2 h3 hex
  have e:=(R.lck r).me; have e1:=(R.lck r).numbers; have e2:=(R.lck r).num ha
  have f1:=byNm_get .num ha; have f2:=byNm_fit W .num a
  have hq:=hqs q (.head _)
  have f3:=numL_get (o.ndn a ha) hq; have f4:=numL_fit W a q.1
  cases e0:(q.2.no==n) with
  | true=>exact ⟨q,.head _,eq_of_beq e0,_,Ef.k rfl (by ktr_unf) Fk.rt⟩
  | false =>
   have hex':∃ q∈qs,q.2.no=n:=hex.elim fun q' h=>(List.mem_cons.mp h.1).elim (fun z=>absurd (z▸h.2) (beq_eq_false_iff_ne.mp e0)) fun m=>⟨q',m,h.2⟩
   obtain ⟨q',hq',z,fr',p⟩:=ih (fun b hb=>hqs b (.tail _ hb)) (fr.bT (.loc 154) (.str q.1)) (lk_slO rfl h1) (lk_slO rfl h2) (lk_slO rfl h3) hex'
   exact ⟨q',.tail _ hq',z,fr',Ef.k rfl (by ktr_unf) (Fk.nx p)⟩
theorem nb_no {a:Nat} (ha:a∈W.ns) {q r:Nat×Pr} (hq:q∈W.nb a) (hr:r∈W.nb a) (e:r.2.no=q.2.no):r=q:=by
 have hn:=(o.ok a ha).nd
 rw [o.prs a ha,List.map_map] at hn
 generalize W.nb a=l at *
 induction l with
 | nil=>exact nomatch hq
 | cons b l ih =>
  have ⟨h1,h2⟩:=List.nodup_cons.mp hn
  cases hq with
  | head=>cases hr with
   | head=>rfl
   | tail _ hr=>exact absurd (show q.2.no∈l.map _ from e▸List.mem_map_of_mem hr) h1
  | tail _ hq=>cases hr with
   | head=>exact absurd (show r.2.no∈l.map _ from e▸List.mem_map_of_mem hq) h1
   | tail _ hr=>exact ih hq hr h2
theorem peer_name_ev {a:Nat} (ha:a∈W.ns) {q:Nat×Pr} (hq:q∈W.nb a):Cl 26 J 64 [.ref (W.U .me),.str a,.int q.2.no] (.str q.1) J:=by
 obtain ⟨q',hq',z,fr',p⟩:=peer_loop o R w ha q.2.no (r:=[W.U (.num a)]) (W.nb a) (fun _ h=>h) (frP (f_BgpWorld_peer_name).params [.ref (W.U .me),.str a,.int q.2.no]) rfl rfl rfl ⟨q,hq,rfl⟩
 have hqq:=nb_no o R w ha hq hq' z
 subst hqq
 have e:=R.me; have e1:=R.numbers; have e2:=R.num ha
 have f1:=byNm_get .num ha; have f2:=byNm_fit W .num a
 have hk:(numL W a).map (·.1)=(W.nb a).map fun q=>.str q.1:=by unfold numL; rw [List.map_map]; rfl
 rw [← hk] at p
 apply Cl.mk (F:=f_BgpWorld_peer_name) rfl rfl; ktr_unf
end
structure ChW (W:Wd) (J J':AH):Prop where
 ro:J'.ro=J.ro
 nx:J.nx<=J'.nx
 keep:∀ i,i < J.nx->(∀ k,W.has k->W.U k≠i)->lk J'.ob i=lk J.ob i
 wf:Wf J'
section
variable {W:Wd} {S:List Nat} {J J' Ja Jb:AH}
theorem ChW.refl (w:Wf J):ChW W J J:=⟨rfl,Nat.le_refl _,fun _ _ _=>rfl,w⟩
theorem ChW.trans (a:ChW W J Ja) (b:ChW W Ja Jb):ChW W J Jb :=
 ⟨b.ro.trans a.ro,ltr a.nx b.nx,fun i hi hs=>(b.keep i (Nat.lt_of_lt_of_le hi a.nx) hs).trans (a.keep i hi hs),b.wf⟩
theorem Ch.toW (a:Ch S J J') (h:∀ i∈S,∃ k,W.has k/\W.U k=i):ChW W J J' :=
 ⟨a.ro,a.nx,fun i hi hs=>a.keep i hi fun z=>(h i z).elim fun k q=>hs k q.1 q.2,a.wf⟩
theorem ChW.lock {r:List Nat} (a:ChW W (J.lock r) J') (w:Wf J):ChW W J (J'.wr J.ro) :=
 ⟨rfl,a.nx,a.keep,⟨a.wf.ob,fun i hi=>Nat.lt_of_lt_of_le (w.ro i hi) a.nx⟩⟩
theorem ChW.at (a:ChW W J J') (w:Wf J) {i:Nat} {o:AO} (h:lk J.ob i=some o) (hs:∀ k,W.has k->W.U k≠i):lk J'.ob i=some o:=(a.keep i (w.ob i o h) hs).trans h
theorem ChW.free (a:ChW W J J') (F:WFree W J):WFree W J':=fun k hk=>by rw [a.ro]; exact F k hk
end
noncomputable def setSt (x:WSt) (a:Nat) (s:SpSt):WSt:={ x with st:=fun c=>if c=a then s else x.st c }
noncomputable def setQ (x:WSt) (a b:Nat) (l:List Msg):WSt:={ x with q:=fun c d=>if c=a/\d=b then l else x.q c d }
noncomputable def pushQ (x:WSt) (a b:Nat) (m:Msg):WSt:=setQ x a b (x.q a b++[m])
noncomputable def nmOf (W:Wd) (a:Nat) (n:Int):Nat:=(((W.nb a).find? fun q=>q.2.no==n).map (·.1)).getD 0
noncomputable def pushRows (W:Wd) (a:Nat):WSt->List (Int×Msg)->WSt
 | x,[]=>x
 | x,q::r=>pushRows W a (pushQ x a (nmOf W a q.1) q.2) r
noncomputable def tellW (W:Wd) (x:WSt) (a:Nat):WSt:=pushRows W a (setSt x a (tellSt (W.sp a) (x.st a) (W.sp a).prs)) (tellRows (W.sp a) (x.st a) (W.sp a).prs)
theorem tellRows_no (s:Sp):∀ (ps:List Pr) (x:SpSt),∀ q∈tellRows s x ps,∃ p∈ps,p.no=q.1:=by
 intro ps
 induction ps with
 | nil =>
  intro _ _ h
  exact nomatch h
 | cons p ps ih =>
  intro x q h
  exact (List.mem_append.mp (show q∈_++_ from h)).elim (fun h=>(List.mem_map.mp h).elim fun _ e=>⟨p,.head _,e.2▸rfl⟩) fun h=>(ih _ q h).elim fun p' e=>⟨p',.tail _ e.1,e.2⟩
noncomputable abbrev PushL (W:Wd) (a:Nat) (x:WSt) (rs:List (Int×Msg)) (fr:FrA) (J:AH):Prop:=∃ fr' J',Ef 40 fr J (.tup [.loc 145,.loc 235,.loc 46,.loc 172]) [(.expr (.meth (.sub (.attr (.loc 198) 176) (.tup [(.loc 139),(.meth (.loc 198) 165 [(.loc 139),(.loc 145)])])) 42 [(.tup [(.loc 235),(.loc 46),(.loc 172)])]))] (rs.map rowv) .next fr' J'/\(∀ v,lk fr.loc 192=some v->lk fr'.loc 192=some v)/\ChW W J J'/\WRep W (pushRows W a x rs) J'
section
variable {W:Wd} (o:W.Ok)
include o
theorem rep_sp {x:WSt} {J J':AH} (R:WRep W x J) (w:Wf J) {a:Nat} (ha:a∈W.ns) {S:List Nat} (c:Ch S J J') (hS:∀ i∈S,∃ k,(W.sp a).has k/\W.U (.sp a k)=i) {st:SpSt} (R':SpRep (W.sp a) st J'):WRep W (setSt x a st) J':=fun k hk=>by
 by_cases hm:∃ j,k=.sp a j
 ·obtain ⟨j,rfl⟩:=hm
  have:=R' j hk.2
  rw [o.spU] at this
  exact this.trans (congrArg (fun st=>some ((W.sp a).ct st j)) (if_pos rfl).symm)
 ·refine (c.at w (R k hk) (fun z=>(hS _ z).elim fun j q=>hm ⟨j,o.inj k (.sp a j) hk ⟨ha,q.1⟩ q.2.symm⟩)).trans ?_
  cases k with
  | sp b j=>exact congrArg (fun st=>some ((W.sp b).ct st j)) (if_neg (fun z:b=a=>hm ⟨j,by rw [z]⟩)).symm
  | _=>rfl
theorem rep_q {x:WSt} {J J':AH} (R:WRep W x J) (w:Wf J) {a b:Nat} (hab:(a,b)∈W.ways) (c:Ch [W.U (.que a b)] J J') {l:List Msg} (h:lk J'.ob (W.U (.que a b))=some (.lst (l.map mv))):WRep W (setQ x a b l) J':=fun k hk=>by
 by_cases hm:k=.que a b
 ·subst hm
  exact h.trans (congrArg (fun l:List Msg=>some (AO.lst (l.map mv))) (if_pos ⟨rfl,rfl⟩).symm)
 ·refine (c.at w (R k hk) (fun z=>hm (o.inj k (.que a b) hk hab (List.mem_singleton.mp z)))).trans ?_
  cases k with
  | que c d=>exact congrArg (fun l:List Msg=>some (AO.lst (l.map mv))) (if_neg (fun z:c=a/\d=b=>hm (by rw [z.1,z.2]))).symm
  | _=>rfl
theorem nmOf_eq {x:WSt} {J:AH} (R:WRep W x J) (w:Wf J) {a:Nat} (ha:a∈W.ns) {q:Nat×Pr} (hq:q∈W.nb a):nmOf W a q.2.no=q.1:=by
 unfold nmOf
 cases h:(W.nb a).find? fun r=>r.2.no==q.2.no with
 | none=>exact absurd (beq_self_eq_true q.2.no) (List.find?_eq_none.mp h q hq)
 | some r =>
  have e:r.2.no=q.2.no:=eq_of_beq (List.find?_some (p:=fun r:Nat×Pr=>r.2.no==q.2.no) h)
  exact congrArg (·.1) (nb_no o R w ha hq (List.mem_of_find?_eq_some h) e)
theorem push_loop {a:Nat} (ha:a∈W.ns) (rs:List (Int×Msg)):(∀ q∈rs,∃ p∈(W.sp a).prs,p.no=q.1)->∀ (x:WSt) (fr:FrA) (J:AH),WRep W x J->Wf J->WFree W J->lk fr.loc 198=some (.ref (W.U .me))->lk fr.loc 139=some (.str a)->(∀ c d,(x.q c d).length+rs.length<=900) ->
  PushL W a x rs fr J:=by
 induction rs with
 | nil=>exact fun _ x fr J R w F _ _ _=>⟨fr,J,Ef.nil,fun _ h=>h,ChW.refl w,R⟩
 | cons q rs ih =>
  intro hrs x fr J R w F h1 h2 hlen
  obtain ⟨p,hp,e0⟩:=hrs q (.head _)
  rw [o.prs a ha] at hp
  obtain ⟨nb,hnb,rfl⟩:=List.mem_map.mp hp
  have hway:=o.way a ha nb hnb
  have e:=R.me; have e1:=R.queues; have e2:=R.que hway
  have hpn:=peer_name_ev o R w ha hnb
  have hnm:=nmOf_eq o R w ha hnb
  rw [e0] at hpn hnm
  have f1:=queL_get hway; have f2:=queL_fit W (a,nb.1)
  have hr:=F (.que a nb.1) hway
  have hl:=hlen a nb.1
  rw [List.length_cons] at hl
  have hf:few (((x.q a nb.1).map mv).length+1)=true:=few_ok (by rw [List.length_map]; omega)
  have c1:=(Ch.refl (S:=[W.U (.que a nb.1)]) w).st (o':=.lst ((x.q a nb.1).map mv++[mv q.2])) e2 (.inl (.head _))
  have R1:=rep_q o R w hway c1 (l:=x.q a nb.1++[q.2]) (at_st.trans (by rw [List.map_append]; rfl))
  have cw:=c1.toW (W:=W) fun i hi=>⟨.que a nb.1,hway,(List.mem_singleton.mp hi).symm⟩
  refine x2c4 ((ih (fun b hb=>hrs b (.tail _ hb)) (pushQ x a nb.1 q.2) (fr.bT (.tup [.loc 145,.loc 235,.loc 46,.loc 172]) (rowv q)) _ R1 cw.wf (cw.free F) (by ktr_unf) (by ktr_unf) fun c d=>by
   show (if c=a/\d=nb.1 then x.q a nb.1++[q.2] else x.q c d).length+rs.length<=900
   have:=hlen c d
   rw [List.length_cons] at this
   by_cases z:c=a/\d=nb.1
   ·rw [if_pos z,List.length_append]; show _+1+_<=_; omega
   ·rw [if_neg z]; omega)) fun fr' J' q1 q2 q3 q4=>?_
  have hmv:=mv_3 q.2
  rw [hmv] at q1
  exact ⟨fr',J',Ef.k rfl (by ktr_unf) (Fk.nx q1),fun v h=>q2 v (lk_uO rfl (lk_uO rfl (lk_uO rfl (lk_uO rfl h)))),cw.trans q3,by
   show WRep W (pushRows W a (pushQ x a (nmOf W a q.1) q.2) rs) J'
   rw [hnm]; exact q4⟩
end
theorem wtell_ev {W:Wd} (o:W.Ok) {x:WSt} {J:AH} (R:WRep W x J) (w:Wf J) (F:WFree W J) {a:Nat} (ha:a∈W.ns) (D:DOk (W.sp a) (x.st a)) (hq:∀ c d,(x.q c d).length<=800) :
  ∃ J',Cl 110 J 65 [.ref (W.U .me),.str a] (.int (tellRows (W.sp a) (x.st a) (W.sp a).prs).length) J'/\ChW W J J'/\WRep W (tellW W x a) J':=by
 have e:=R.me; have e1:=R.speakers
 have f1:=byNm_get (W:=W) (.sp · .me) ha; have f2:=byNm_fit W (.sp · .me) a
 have Fs:Free (W.sp a) J:=fun k hk=>by rw [o.spU]; exact F (.sp a k) ⟨ha,hk⟩
 refine x2c5 (tell_ev (o.ok a ha) (R.sp o ha) w Fs D) fun i Ja q1 c1 R1 l1 ni=>?_
 have hS:∀ i∈(W.sp a).prs.map (fun p=>(W.sp a).U (.ot p)),∃ k,(W.sp a).has k/\W.U (.sp a k)=i:=fun i hi=>(List.mem_map.mp hi).elim fun p q=>⟨.ot p,q.1,(o.spU a (.ot p)).symm.trans q.2⟩
 have W1:=rep_sp o R w ha c1 hS R1
 have cw:=c1.toW (W:=W) fun i hi=>(hS i hi).elim fun k q=>⟨.sp a k,⟨ha,q.1⟩,q.2⟩
 have F1:=cw.free F
 have hni:∀ k,W.has k->W.U k≠i:=fun k hk=>Nat.ne_of_lt (Nat.lt_of_lt_of_le (w.ob _ _ (R k hk)) ni)
 have hlen:=tellRows_len (W.sp a) (W.sp a).prs (x.st a)
 have hfew:=(o.ok a ha).few
 have wl:=c1.wf.lock1 (c1.wf.ob _ _ l1)
 refine x2c4 ((push_loop o ha (tellRows (W.sp a) (x.st a) (W.sp a).prs) (tellRows_no _ _ _) (setSt x a (tellSt (W.sp a) (x.st a) (W.sp a).prs)) ((frP (f_BgpWorld_tell).params [.ref (W.U .me),.str a]).sl 192 (.ref i)) (Ja.lock [i]) W1 wl
  (fun k hk=>hasN_skip (nbF (Ne.symm (hni k hk))) (F1 k hk)) rfl rfl (fun c d=>by have:=hq c d; show (x.q c d).length+_<=_; omega))) fun fr' J' q2 l2 c2 R2=>?_
 have l3:lk J'.ob i=some (.lst ((tellRows (W.sp a) (x.st a) (W.sp a).prs).map rowv)):=c2.at wl l1 hni
 have hr3:=l2 _ rfl
 have e2:=(R.sp o ha).me
 rw [o.spU] at q1 e2
 have hfl:few ((tellRows (W.sp a) (x.st a) (W.sp a).prs).map rowv).length=true:=few_ok (by rw [List.length_map]; omega)
 rw [← List.length_map (f:=rowv)]
 exact ⟨_,by apply Cl.mk (F:=f_BgpWorld_tell) rfl rfl; ktr_unf,cw.trans (c2.lock c1.wf),R2⟩
open PySem.W PyProof.Rows
noncomputable def KasOk (n:Nat) {α:Type} (Q:α->Prop):KasT α->Prop
 | .ret a=>Q a
 | .ask i j k=>i < n/\j < n/\∀ b,KasOk n Q (k b)
theorem kasok_bind {n:Nat} {α β:Type} {f:α->KasT β} {Q:β->Prop} {G:α->Prop} (hf:∀ a,G a->KasOk n Q (f a)):∀ t:KasT α,KasOk n G t->KasOk n Q (t.bind f)
 | .ret a,h=>hf a h
 | .ask _ _ k,h=>⟨h.1,h.2.1,fun b=>kasok_bind hf (k b) (h.2.2 b)⟩
theorem kasok_run {n:Nat} {α:Type} {Q:α->Prop} {o:Nat->Nat->Option Bool} (ho:∀ i j,i < n->j < n->∃ b,o i j=some b):∀ t:KasT α,KasOk n Q t->∃ a,runK t o=some a/\Q a
 | .ret a,h=>⟨a,rfl,h⟩
 | .ask i j k,h=>by
  obtain ⟨b,e⟩:=ho i j h.1 h.2.1
  obtain ⟨a,e1,q⟩:=kasok_run ho (k b) (h.2.2 b)
  exact ⟨a,by simp only [runK,e]; exact e1,q⟩
noncomputable def Pm (n:Nat) (p:Array Nat):Prop:=p.Perm (List.toArray (List.range n))
theorem pm_lt {n:Nat} (h0:0 < n) {p:Array Nat} (h:Pm n p) (i:Nat):p.getD i 0 < n:=by
 by_cases hi:i < p.size
 ·have e:p.getD i 0=p[i]:=by simp [Array.getD,hi]
  rw [e]
  have hm:p[i]∈p:=Array.getElem_mem hi
  have:=(Array.Perm.mem_iff h).mp hm
  simpa using this
 ·have e:p.getD i 0=0:=by simp [Array.getD,hi]
  rw [e]; exact h0
section
variable {n:Nat} (h0:0 < n)
include h0
theorem ok_asc {p:Array Nat} (h:Pm n p):∀ (f m:Nat),KasOk n (fun _=>True) (kas_asc p f m)
 | 0,m=>trivial
 | f+1,m=>⟨pm_lt h0 h _,pm_lt h0 h _,fun b=>by cases b <;> first | exact ok_asc h f (m+1) | trivial⟩
omit h0 in
theorem pm_rev {p:Array Nat} (h:Pm n p) (i j:Nat):Pm n (kas_rev p i j):=(mirror_perm p i j _).trans h
theorem ok_desc:∀ (f:Nat) (p:Array Nat) (m q:Nat),Pm n p->KasOk n (fun r=>Pm n r.1) (kas_desc f p m q)
 | 0,p,m,q,h=>h
 | f+1,p,m,q,h=>⟨pm_lt h0 h _,pm_lt h0 h _,fun b=>by
  cases b with
  | true =>
   show KasOk n _ (if q > 0 then _ else _)
   split
   ·exact ok_desc f _ _ _ (pm_rev h _ _)
   ·exact ok_desc f _ _ _ h
  | false =>
   exact ⟨pm_lt h0 h _,pm_lt h0 h _,fun d=>by
    cases d with
    | true=>exact h
    | false=>exact ok_desc f _ _ _ h⟩⟩
theorem ok_tail3 {p:Array Nat} (h:Pm n p) (m r:Nat):KasOk n (fun r=>Pm n r.2) (kas_tail3 m r p) :=
 by
 unfold kas_tail3
 refine kasok_bind (G:=fun _=>True) (fun a _=>?_) _ (ok_asc h0 (pm_rev h _ _) _ _)
 exact (pm_rev h _ _:Pm n (kas_rev p 0 m))
theorem ok_descPart {p:Array Nat} (h:Pm n p) (m r:Nat):KasOk n (fun r=>Pm n r.2) (kas_descPart m r p):=by
 refine kasok_bind (fun a ha=>?_) _ (ok_desc h0 _ p _ _ h)
 split
 ·exact ok_tail3 h0 (pm_rev ha _ _) _ _
 ·exact ok_tail3 h0 ha _ _
theorem ok_count {p:Array Nat} (h:Pm n p) (r:Nat):KasOk n (fun r=>Pm n r.2) (kas_count r p):=by
 refine kasok_bind (G:=fun _=>True) (fun a _=>?_) _ (ok_asc h0 h _ _)
 split
 ·exact h
 ·split
  ·exact ⟨pm_lt h0 h _,pm_lt h0 h _,fun b=>by
    cases b with
    | true=>exact h
    | false=>exact ok_descPart h0 (pm_rev h _ _) _ _⟩
  ·exact ok_descPart h0 h _ _
theorem ok_place {p:Array Nat} (h:Pm n p) (k:Nat):∀ (f l r:Nat),KasOk n (fun _=>True) (kas_place p k f l r)
 | 0,l,r=>trivial
 | f+1,l,r=>by
  unfold kas_place
  split
  ·trivial
  ·exact ⟨pm_lt h0 h _,pm_lt h0 h _,fun b=>by cases b <;> exact ok_place h k f _ _⟩
theorem ok_bin:∀ (f:Nat) (p:Array Nat) (k:Nat),Pm n p->KasOk n (Pm n) (kas_bin f p k)
 | 0,p,k,h=>h
 | f+1,p,k,h=>kasok_bind (G:=fun _=>True) (fun l _=>ok_bin f _ _ ((bubble_perm p _ _).trans h)) _ (ok_place h0 h _ _ _ _)
theorem ok_sort:KasOk n (Pm n) (kas_sort n):=by
 refine kasok_bind (fun r hr=>?_) _ (ok_count h0 (p:=List.toArray (List.range n)) (Array.Perm.refl _) n)
 split
 ·exact ok_bin h0 _ _ _ hr
 ·exact hr
end
theorem ltv_pairs (a b:Nat×Nat):∃ r,ltv (wayv a) (wayv b)=some r:=by
 show ∃ r,cond (Nat.beq a.1 b.1) (cond (Nat.beq a.2 b.2) (some false) (some (Nat.blt a.2 b.2))) (some (Nat.blt a.1 b.1))=some r
 cases Nat.beq a.1 b.1 with
 | false=>exact ⟨_,rfl⟩
 | true=>cases Nat.beq a.2 b.2 <;> exact ⟨_,rfl⟩
theorem getD_way {l:List (Nat×Nat)} {i:Nat} (hi:i < l.length):(l.map wayv).getD i .none=wayv (l.getD i (0,0)):=by
 rw [List.getD_eq_getElem?_getD,List.getD_eq_getElem?_getD,List.getElem?_map,List.getElem?_eq_getElem hi]; rfl
theorem sort_ways:∀ l:List (Nat×Nat),l.length < 64->∃ l':List (Nat×Nat),sortv (l.map wayv)=some (l'.map wayv)/\l'.Perm l
 | [],_=>⟨[],rfl,.nil⟩
 | [a],_=>⟨[a],rfl,.refl _⟩
 | a::b::m,hl=>by
  obtain ⟨l,e⟩:∃ l,l=a::b::m:=⟨_,rfl⟩
  have hs:sortv (l.map wayv)=chk (((l.map wayv).all isInt||(l.map wayv).all isPair)&&Nat.blt (l.map wayv).length 64) ((runK (kas_sort (l.map wayv).length) (fun i j=>ltv ((l.map wayv).getD i .none) ((l.map wayv).getD j .none))).map fun p=>p.toList.map fun i=>(l.map wayv).getD i .none):=by rw [e]; rfl
  rw [← e] at hl ⊢
  have h0:0 < l.length:=by rw [e]; exact Nat.succ_pos _
  obtain ⟨p,h1,h2⟩:=kasok_run (n:=l.length) (o:=fun i j=>ltv ((l.map wayv).getD i .none) ((l.map wayv).getD j .none)) (fun i j hi hj=>by
   rw [getD_way hi,getD_way hj]; exact ltv_pairs _ _) _ (ok_sort h0)
  have h3:p.toList.Perm (List.range l.length):=Array.perm_iff_toList_perm.mp h2
  refine ⟨p.toList.map fun i=>l.getD i (0,0),?_,?_⟩
  ·rw [hs,all_m (p:=isPair) (fun _=>rfl),Bool.or_true,List.length_map,h1]
   refine (bc (Nat.ble_eq_true_of_le hl) rfl).trans (congrArg some ?_)
   rw [List.map_map]
   exact List.map_congr_left fun i hi=>getD_way (List.mem_range.mp (h3.mem_iff.mp hi))
  ·have h5:(List.range l.length).map (fun i=>l.getD i (0,0))=l:=List.ext_getElem (by rw [List.length_map,List.length_range]) fun i h1 h2=>by
    rw [List.getElem_map,List.getElem_range,List.getD_eq_getElem?_getD,List.getElem?_eq_getElem h2]; rfl
   exact (h3.map _).trans (.of_eq h5)
noncomputable def full (W:Wd) (x:WSt):List (Nat×Nat):=W.ways.filter fun q=>decide (0 < (x.q q.1 q.2).length)
noncomputable def hearM (s:Sp) (x:SpSt) (p:Pr) (m:Msg) (now:Int):SpSt:=match m with
 | none=>hearW s x p
 | some a=>hearA s x p a now
noncomputable def deliverW (W:Wd) (x:WSt) (a b:Nat) (p:Pr) (m:Msg) (rest:List Msg) (now:Int):WSt:=tellW W (setSt (setQ x a b rest) b (hearM (W.sp b) (x.st b) p m now)) b
section
variable {W:Wd} (o:W.Ok) {x:WSt} {J:AH} (R:WRep W x J) (w:Wf J) (F:WFree W J)
include o R w
theorem pending_ev (hq:∀ c d,(x.q c d).length<=800):∃ (l':List (Nat×Nat)) (J':AH),Cl 30 J 66 [.ref (W.U .me)] (.ref (J.nx+1)) J'/\Ch [] J J'/\lk J'.ob (J.nx+1)=some (.lst (l'.map wayv))/\l'.Perm (full W x):=by
 have e:=R.me; have e1:=R.queues
 have hlen:=o.few
 have hfl:(full W x).length<=20:=ltr (List.length_filter_le _ _) hlen
 refine x1c2 (sort_ways (full W x) (by omega)) fun l' h1 h2=>?_
 have hfew:few (l'.map wayv).length=true:=few_ok (by rw [List.length_map,h2.length_eq]; omega)
 have hk:(queL W).map (·.1)=W.ways.map wayv:=by unfold queL; rw [List.map_map]; rfl
 have e0:Ei 20 (frP (f_BgpWorld_pending).params [.ref (W.U .me)]) J (.of (.attr (.cel 198) 176)) (W.ways.map wayv) (lockOf (.ref (W.U .queues))) J:=hk▸by ktr_unf
 have k:=Ek_run (m:=230) (ifs:=[.cmp (.callB .len (.sub (.attr (.cel 198) 176) (.loc 230))) .gt (.cst (.int (0)))]) (x:=.loc 230) wayv (fun q=>decide (0 < (x.q q.1 q.2).length)) wayv rfl e0 (by omega) (fun q hq'=>by
  have f1:=queL_get hq'; have f2:=queL_fit W q
  have e2:=R.que (a:=q.1) (b:=q.2) hq'
  have hf:few ((x.q q.1 q.2).map mv).length=true:=few_ok (by rw [List.length_map]; have:=hq q.1 q.2; omega)
  have hd:decide ((0:Int) < ((x.q q.1 q.2).map mv).length)=decide (0 < (x.q q.1 q.2).length):=decide_eq_decide.mpr (by rw [List.length_map]; omega)
  cases hp:decide (0 < (x.q q.1 q.2).length) <;> rw [hp] at hd <;> ktr_unf) (fun q _=>by ktr_unf)
 exact ⟨l',_,by apply Cl.mk (F:=f_BgpWorld_pending) rfl rfl; ktr_unf,(Ch.new w _).ad _,at_new,h2⟩
include F
theorem deliver_ev {a b:Nat} (hab:(a,b)∈W.ways) {p:Pr} (hp:(a,p)∈W.nb b) {m:Msg} {rest:List Msg} (hx:x.q a b=m::rest) (hq:∀ c d,(x.q c d).length<=800) (X:XOk (W.sp b) (x.st b))
  (now:Int) (hm:∀ c,m=some c->c.length<=200) (D:DOk (W.sp b) (hearM (W.sp b) (x.st b) p m now)) :
  ∃ J',Cl 120 J 68 [.ref (W.U .me),wayv (a,b),.int now] .none J'/\ChW W J J'/\WRep W (deliverW W x a b p m rest now) J':=by
 have hb:b∈W.ns:=(o.wayn _ hab).2.1
 have hpp:p∈(W.sp b).prs:=by rw [o.prs b hb]; exact List.mem_map.mpr ⟨_,hp,rfl⟩
 have e:=R.me; have e1:=R.queues; have e2:=R.que hab
 rw [hx,List.map_cons,mv_3] at e2
 have f1:=queL_get hab; have f2:=queL_fit W (a,b)
 have hr:=F (.que a b) hab
 have c1:=(Ch.refl (S:=[W.U (.que a b)]) w).st (o':=.lst (rest.map mv)) e2 (.inl (.head _))
 have R1:=rep_q o R w hab c1 (l:=rest) at_st
 have cw1:=c1.toW (W:=W) fun i hi=>⟨.que a b,hab,(List.mem_singleton.mp hi).symm⟩
 have F1:=cw1.free F
 have Fs:Free (W.sp b) (J.st (W.U (.que a b)) (.lst (rest.map mv))):=fun k hk=>by rw [o.spU]; exact F1 (.sp b k) ⟨hb,hk⟩
 have hear:∃ Jb,Cl 84 (J.st (W.U (.que a b)) (.lst (rest.map mv))) 48 [.ref ((W.sp b).U .me),.int p.no,(m3 m).1,(m3 m).2.1,(m3 m).2.2,.int now] .none Jb
   /\ Ch [(W.sp b).U (.rt p),(W.sp b).U .chosen] (J.st (W.U (.que a b)) (.lst (rest.map mv))) Jb/\SpRep (W.sp b) (hearM (W.sp b) (x.st b) p m now) Jb:=by
  cases m with
  | none=>exact unhear_ev (R1.sp o hb) (o.ok b hb) c1.wf Fs X hpp now
  | some c=>exact hear_ev (R1.sp o hb) (o.ok b hb) c1.wf Fs X hpp (hm c rfl) now
 refine x1c3 (hear) fun Jb q2 c2 S2=>?_
 have hS:∀ i∈[(W.sp b).U (.rt p),(W.sp b).U .chosen],∃ k,(W.sp b).has k/\W.U (.sp b k)=i:=fun i hi=>by
  rcases List.mem_cons.mp hi with rfl | hi
  ·exact ⟨.rt p,hpp,(o.spU b _).symm⟩
  ·exact ⟨.chosen,trivial,(o.spU b _).symm.trans (List.mem_singleton.mp hi).symm⟩
 have R2:=rep_sp o R1 c1.wf hb c2 hS S2
 have cw2:=c2.toW (W:=W) fun i hi=>(hS i hi).elim fun k q=>⟨.sp b k,⟨hb,q.1⟩,q.2⟩
 have F2:=cw2.free F1
 have hq2:∀ c d,((setSt (setQ x a b rest) b (hearM (W.sp b) (x.st b) p m now)).q c d).length<=800:=fun c d=>by
  show (if c=a/\d=b then rest else x.q c d).length<=800
  by_cases z:c=a/\d=b
  ·rw [if_pos z]; have:=hq a b; rw [hx,List.length_cons] at this; omega
  ·rw [if_neg z]; exact hq c d
 have hst:(setSt (setQ x a b rest) b (hearM (W.sp b) (x.st b) p m now)).st b=hearM (W.sp b) (x.st b) p m now:=if_pos rfl
 refine x1c3 (wtell_ev o R2 c2.wf F2 hb (by rw [hst]; exact D) hq2) fun J' q3 c3 R3=>?_
 have e3:=R1.me; have e4:=R1.speakers; have e5:=R1.numbers; have e6:=R1.num hb
 have f3:=byNm_get (W:=W) (.sp · .me) hb; have f4:=byNm_fit W (.sp · .me) b; have f5:=byNm_get .num hb; have f6:=byNm_fit W .num b; have f7:=numL_get (o.ndn b hb) hp; have f8:=numL_fit W b a
 have e7:=(R1.sp o hb).me
 rw [o.spU] at q2 e7
 have e8:=R2.me
 exact ⟨J',by apply Cl.mk (F:=f_BgpWorld_deliver) rfl rfl; ktr_unf,cw1.trans (cw2.trans c3),R3⟩
end
structure WOk (W:Wd) (x:WSt) (now:Int):Prop where
 q:∀ c d,(x.q c d).length<=800
 X:∀ b∈W.ns,XOk (W.sp b) (x.st b)
 m:∀ a b p,(a,b)∈W.ways->(a,p)∈W.nb b->∀ c,some c∈x.q a b->c.length<=200
 D:∀ a b p m rest,(a,b)∈W.ways->(a,p)∈W.nb b->x.q a b=m::rest->DOk (W.sp b) (hearM (W.sp b) (x.st b) p m now)
theorem fmod_lt (c:Int) {n:Nat} (h:0 < n):0<=Int.fmod c n/\Int.fmod c n < n:=by
 have h0:(0:Int) < n:=by omega
 rw [Int.fmod_eq_emod_of_nonneg c (by omega)]
 exact ⟨Int.emod_nonneg c (by omega),Int.emod_lt_of_pos c h0⟩
theorem bn_mod {h:AH} {a b:Int} (e:decide (0 < b)=true):binop h (.int a) .mod (.int b)=some (.int (Int.fmod a b),h):=bc e rfl
section
variable {W:Wd} (o:W.Ok) {x:WSt} {J:AH} (R:WRep W x J) (w:Wf J) (F:WFree W J)
include o R w F
theorem step_ev {now:Int} (K:WOk W x now) (choice:Int) :
  (full W x=[]/\∃ J',Cl 130 J 69 [.ref (W.U .me),.int choice,.int now] (.bool false) J'/\ChW W J J'/\WRep W x J')
  ∨ (∃ a b p m rest,(a,b)∈W.ways/\(a,p)∈W.nb b/\x.q a b=m::rest/\∃ J',Cl 130 J 69 [.ref (W.U .me),.int choice,.int now] (.bool true) J'/\ChW W J J'/\WRep W (deliverW W x a b p m rest now) J'):=by
 have e:=R.me
 refine x2c4 (pending_ev o R w K.q) fun l' Ja q1 c1 l1 p1=>?_
 have cw1:=c1.toW (W:=W) fun i hi=>nomatch hi
 have R1:=R.gr w c1
 have F1:=cw1.free F
 have e1:=R1.me
 have hle:l'.length<=20:=by rw [p1.length_eq]; exact ltr (List.length_filter_le _ _) o.few
 have hfew:few (l'.map wayv).length=true:=few_ok (by rw [List.length_map]; omega)
 by_cases hl:l'.length=0
 ·have hn:l'=[]:=List.length_eq_zero_iff.mp hl
  have hz:(((l'.map wayv).length:Int)==0)=true:=by rw [hn]; rfl
  exact .inl ⟨(hn▸p1).symm.eq_nil,Ja,by apply Cl.mk (F:=f_BgpWorld_step) rfl rfl; ktr_unf,cw1,R1⟩
 ·have hpos:0 < l'.length:=Nat.pos_of_ne_zero hl
  have hz:(((l'.map wayv).length:Int)==0)=false:=by rw [List.length_map]; exact beq_eq_false_iff_ne.mpr (by omega)
  have hm:decide ((0:Int) < ((l'.map wayv).length:Int))=true:=decide_eq_true (by rw [List.length_map]; omega)
  have hb:=bn_mod (h:=Ja) (a:=choice) hm
  obtain ⟨h0,h1⟩:=fmod_lt choice (n:=(l'.map wayv).length) (by rw [List.length_map]; exact hpos)
  generalize Int.fmod choice ((l'.map wayv).length:Int)=i at *
  obtain ⟨n,rfl⟩:=Int.eq_ofNat_of_zero_le h0
  have hi:n < l'.length:=by rw [List.length_map] at h1; omega
  obtain ⟨q,hq⟩:∃ q,l'[n]?=some q:=⟨_,List.getElem?_eq_getElem hi⟩
  have hat:=sv_lst l1 (at_nat (n:=n) (by rw [List.getElem?_map,hq]; rfl) (by omega))
  obtain ⟨hab,hne⟩:=List.mem_filter.mp (p1.mem_iff.mp (List.mem_of_getElem? hq))
  obtain ⟨a,b⟩:=q
  obtain ⟨p,hp⟩:=(o.wayn _ hab).2.2
  have hb':b∈W.ns:=(o.wayn _ hab).2.1
  obtain ⟨m,rest,hx⟩:∃ m rest,x.q a b=m::rest:=by
   cases h:x.q a b with
   | nil=>exact absurd (of_decide_eq_true hne) (by rw [h]; exact Nat.lt_irrefl _)
   | cons m rest=>exact ⟨m,rest,rfl⟩
  refine x1c3 (deliver_ev o R1 c1.wf F1 hab hp hx K.q (K.X b hb') now (fun c hc=>K.m a b p hab hp c (by rw [hx,hc]; exact .head _)) (K.D a b p m rest hab hp hx)) fun J' q2 c2 R2=>?_
  exact .inr ⟨a,b,p,m,rest,hab,hp,hx,J',by apply Cl.mk (F:=f_BgpWorld_step) rfl rfl; ktr_unf,cw1.trans c2,R2⟩
end
theorem tellSt_keep (s:Sp):∀ (ps:List Pr) (x:SpSt),(tellSt s x ps).cho=x.cho/\(tellSt s x ps).rt=x.rt/\(tellSt s x ps).org=x.org
 | [],_=>⟨rfl,rfl,rfl⟩
 | p::ps,x=>tellSt_keep s ps (setOut x p.no (due s x p))
theorem tellSt_other (s:Sp):∀ (ps:List Pr) (x:SpSt) (n:Int),(∀ p∈ps,p.no≠n)->(tellSt s x ps).out n=x.out n
 | [],_,_,_=>rfl
 | p::ps,x,n,h=>(tellSt_other s ps (setOut x p.no (due s x p)) n fun q hq=>h q (.tail _ hq)).trans (if_neg (Ne.symm (h p (.head _))))
theorem tellSt_out (s:Sp) (ps:List Pr):∀ (x:SpSt),(ps.map (·.no)).Nodup->∀ p∈ps,(tellSt s x ps).out p.no=due s x p:=by
 induction ps with
 | nil=>exact fun _ _ _ h=>nomatch h
 | cons q ps ih =>
  intro x hn p hp
  have h2:=List.nodup_cons.mp hn
  refine (List.mem_cons.mp hp).elim (fun e=>?_) fun hp=>ih (setOut x q.no (due s x q)) h2.2 p hp
  rw [e]
  exact (tellSt_other s ps (setOut x q.no (due s x q)) q.no fun r hr z=>h2.1 (show q.no∈ps.map _ from z▸List.mem_map_of_mem hr)).trans (if_pos rfl)
theorem msgL_mem {o d:Option Row} {m:Msg}:m∈msgL o d->m=d/\o≠d :=
 optF (F:=fun d=>m∈msgL o d->m=d/\o≠d)
  (optF (F:=fun o=>m∈msgL o none->m=none/\o≠none) (fun h=>nomatch h) (fun _ h=>⟨List.mem_singleton.mp h,fun z=>nomatch z⟩) o)
  (fun b h=>by
   have h:m∈cond (decide (o=some b)) [] [some b]:=h
   by_cases z:o=some b
   ·rw [decide_eq_true z] at h; exact nomatch h
   ·rw [decide_eq_false z] at h; exact ⟨List.mem_singleton.mp h,z⟩) d
theorem tellRows_mem (s:Sp) (ps:List Pr):∀ (x:SpSt),(ps.map (·.no)).Nodup->∀ q∈tellRows s x ps,∃ p∈ps,p.no=q.1/\q.2=due s x p/\x.out p.no≠due s x p:=by
 induction ps with
 | nil=>exact fun _ _ _ h=>nomatch h
 | cons p ps ih =>
  intro x hn q h
  rcases List.mem_append.mp (show q∈_++_ from h) with h | h
  ·obtain ⟨m,hm,rfl⟩:=List.mem_map.mp h
   exact ⟨p,.head _,rfl,msgL_mem hm⟩
  ·obtain ⟨p',h',e1,e2,e3⟩:=ih (setOut x p.no (due s x p)) (List.nodup_cons.mp hn).2 q h
   exact ⟨p',.tail _ h',e1,e2,fun z=>e3 ((if_neg fun y:p'.no=p.no=>(List.nodup_cons.mp hn).1 (show p.no∈ps.map _ from y▸List.mem_map_of_mem h')).trans z)⟩
theorem pushRows_st (W:Wd) (a:Nat):∀ (rs:List (Int×Msg)) (x:WSt),(pushRows W a x rs).st=x.st
 | [],_=>rfl
 | q::rs,x=>pushRows_st W a rs (pushQ x a (nmOf W a q.1) q.2)
theorem pushRows_mem (W:Wd) (a:Nat) (rs:List (Int×Msg)):∀ (x:WSt) (c d:Nat) (m:Msg),m∈(pushRows W a x rs).q c d->m∈x.q c d∨(c=a/\∃ n,(n,m)∈rs/\nmOf W a n=d):=by
 induction rs with
 | nil=>exact fun _ _ _ _ h=>.inl h
 | cons q rs ih =>
  intro x c d m h
  rcases ih (pushQ x a (nmOf W a q.1) q.2) c d m h with h | ⟨e,n,hn,e2⟩
  ·have g:m∈(if c=a/\d=nmOf W a q.1 then x.q a (nmOf W a q.1)++[q.2] else x.q c d):=h
   by_cases e:c=a/\d=nmOf W a q.1
   ·rw [if_pos e] at g
    obtain ⟨rfl,rfl⟩:=e
    exact (List.mem_append.mp (show m∈x.q c (nmOf W c q.1)++[q.2] from g)).imp id fun h=>⟨rfl,q.1,(List.mem_singleton.mp h:m=q.2)▸.head _,rfl⟩
   ·rw [if_neg e] at g; exact .inl g
  ·exact .inr ⟨e,n,.tail _ hn,e2⟩
theorem pushRows_len (W:Wd) (a:Nat):∀ (rs:List (Int×Msg)) (x:WSt) (c d:Nat),((pushRows W a x rs).q c d).length<=(x.q c d).length+rs.length:=by
 intro rs
 induction rs with
 | nil =>
  intro _ _ _
  exact Nat.le_refl _
 | cons q rs ih =>
  intro x c d
  refine ltr (ih (pushQ x a (nmOf W a q.1) q.2) c d) ?_
  show (if c=a/\d=nmOf W a q.1 then x.q a (nmOf W a q.1)++[q.2] else x.q c d).length+rs.length<=_
  rw [List.length_cons]
  by_cases e:c=a/\d=nmOf W a q.1
  ·rw [if_pos e,List.length_append,e.1,e.2]; show _+1+_<=_; omega
  ·rw [if_neg e]; omega
open L2
theorem st_lst {h:AH} {i:Nat} {l:List AV} {j:Int} {v:AV} (e:lk h.ob i=some (.lst l)) (hr:hasN h.ro i=false) (e1:decide (0<=j/\j < l.length)=true):storeI h (.ref i) (.int j) v=some (h.st i (.lst (l.set j.toNat v))):=bo (o:=lk h.ob i) e (bc e1 (put_ok e hr))
theorem cv_le {h:AH} {a b:Int} {q:Bool} (e:decide (b < a)=q):cmpv h (.int a) .le (.int b)=some !q:=congrArg (fun q=>some !q) e
theorem fmod_in (c:Nat) {many:Int} (hm:0 < many):0<=Int.fmod c many/\Int.fmod c many < many:=by
 rw [Int.fmod_eq_emod_of_nonneg c (by omega)]
 exact ⟨Int.emod_nonneg c (by omega),Int.emod_lt_of_pos c hm⟩
noncomputable def drawV (ns:List Int) (n:Nat) (many:Int):Int:=(ns[n]?).elim (Int.fmod (5 * ((n:Int)+1)+Int.fdiv ((n:Int)+1) 2) many) fun i=>Int.fmod (i.natAbs:Nat) many
theorem drawV_in (ns:List Int) (n:Nat) {many:Int} (hm:0 < many):0<=drawV ns n many/\drawV ns n many < many:=by
 unfold drawV
 cases ns[n]? with
 | none=>exact fmod_in (5 * (n+1)+(n+1) / 2) hm
 | some i=>exact fmod_in i.natAbs hm
theorem drawV_nat (ns:List Int) (n m:Nat) {many:Int} (e:many=m) (hm:0 < m):∃ v:Nat,drawV ns n many=v/\v < m :=
 have ⟨h0,h1⟩:=drawV_in ns n (many:=many) (e▸Int.ofNat_lt.mpr hm)
 have ⟨v,e1⟩:=Int.eq_ofNat_of_zero_le h0
 ⟨v,e1,Int.ofNat_lt.mp (e▸e1▸h1)⟩
theorem draw_ev {J:AH} {bi li:Nat} {ns:List Int} {n:Nat} (h1:lk J.ob bi=some (.lst [.ref li,.int n])) (h2:lk J.ob li=some (.lst (ns.map .int))) (hr:hasN J.ro bi=false) (hbl:Nat.beq bi li=false) (hlen:ns.length<=100) (hn:n<=200) (many:Int) (hm:decide (0 < many)=true) :
  Cl 16 J 73 [.ref bi,.int many] (.int (drawV ns n many)) (J.st bi (.lst [.ref li,.int (n+1:Nat)])):=by
 have hs:=st_lst (v:=.int ((n:Int)+1)) h1 hr (j:=1) rfl
 have hf:few (ns.map AV.int).length=true:=few_ok (by rw [List.length_map]; omega)
 unfold drawV
 cases hd:decide (((ns.map AV.int).length:Int) < (n:Int)+1) with
 | false =>
  have hnl:n < ns.length:=by have:=of_decide_eq_false hd; rw [List.length_map] at this; omega
  have hat:at_ (ns.map .int) ((fun x y:Int=>x - y) ((n:Int)+1) 1)=some (.int ns[n]):=(congrArg (at_ _) (show (n:Int)+1 - 1=n by omega)).trans <| at_nat (l:=ns.map AV.int) (n:=n) (v:=.int ns[n]) (by rw [List.getElem?_map,List.getElem?_eq_getElem hnl]; rfl) (by omega)
  have hle:=cv_le (h:=J.st bi (.lst [.ref li,.int (n+1:Nat)])) hd
  have hb:=bn_mod (h:=J.st bi (.lst [.ref li,.int (n+1:Nat)])) (a:=((ns[n].natAbs:Nat):Int)) hm
  rw [List.getElem?_eq_getElem hnl]
  show Cl _ _ _ _ (.int (Int.fmod (ns[n].natAbs:Nat) many)) _
  apply Cl.mk (F:=f__law_take) rfl rfl; ktr_unf
 | true =>
  have hnl:ns.length<=n:=by have:=of_decide_eq_true hd; rw [List.length_map] at this; omega
  have hle:=cv_le (h:=J.st bi (.lst [.ref li,.int (n+1:Nat)])) hd
  have hb:=bn_mod (h:=J.st bi (.lst [.ref li,.int (n+1:Nat)])) (a:=5 * ((n:Int)+1)+Int.fdiv ((n:Int)+1) 2) hm
  rw [List.getElem?_eq_none hnl]
  show Cl _ _ _ _ (.int (Int.fmod (5 * ((n:Int)+1)+Int.fdiv ((n:Int)+1) 2) many)) _
  apply Cl.mk (F:=f__law_take) rfl rfl; ktr_unf
structure LeO {α:Type} (o o':Option α):Prop where
 h:∀ a,o=some a->o'=some a
structure LeV (r r':Ev):Prop where
 e:∀ fr h x,LeO (r.e fr h x) (r'.e fr h x)
 t:∀ fr h x,LeO (r.t fr h x) (r'.t fr h x)
 s:∀ fr h x,LeO (r.s fr h x) (r'.s fr h x)
 c:∀ f vs h,LeO (r.c f vs h) (r'.c f vs h)
section
variable {α β:Type}
theorem lr {o:Option α}:LeO o o:=⟨fun _ h=>h⟩
theorem lb {o o':Option α} {f f':α->Option β} (h:LeO o o') (g:∀ a,LeO (f a) (f' a)):LeO (o.bind f) (o'.bind f'):=⟨fun b e=>bindK e fun a e1 e2=>bo (h.h a e1) ((g a).h b e2)⟩
theorem lb2 {o o':Option (α×AH)} {f f':α->AH->Option β} (h:LeO o o') (g:∀ a k,LeO (f a k) (f' a k)):LeO (bind2 o f) (bind2 o' f'):=lb h fun p=>g p.1 p.2
theorem lb3 {o o':Option (α×FrA×AH)} {f f':α->FrA->AH->Option β} (h:LeO o o') (g:∀ a b k,LeO (f a b k) (f' a b k)):LeO (bind3 o f) (bind3 o' f'):=lb h fun p=>g p.1 p.2.1 p.2.2
theorem li3 {o o':Option (List AV×List Nat×AH)} {f f':List AV->List Nat->AH->Option β} (h:LeO o o') (g:∀ a b k,LeO (f a b k) (f' a b k)):LeO (iter3 o f) (iter3 o' f'):=lb h fun p=>g p.1 p.2.1 p.2.2
theorem lq {b:Bool} {x x' y y':Option α} (h:LeO x x') (g:LeO y y'):LeO (cond b x y) (cond b x' y'):=match b with
 | true=>h
 | false=>g
end
section
variable {r r':Ev} (L:LeV r r')
include L
theorem l_es (fr:FrA) (l:List X):∀ h,LeO (es r fr h l) (es r' fr h l):=by
 induction l with
 | nil=>exact fun _=>lr
 | cons x l ih=>exact fun h=>show LeO (bind2 (r.e fr h x) _) (bind2 (r'.e fr h x) _) from lb2 (L.e _ _ _) fun _ h=>lb2 (ih h) fun _ _=>lr
theorem l_eds (fr:FrA) (l:List (Nat×X)):∀ h,LeO (eds r fr h l) (eds r' fr h l):=by
 induction l with
 | nil=>exact fun _=>lr
 | cons x l ih=>exact fun h=>show LeO (bind2 (r.e fr h x.2) _) (bind2 (r'.e fr h x.2) _) from lb2 (L.e _ _ _) fun _ h=>lb2 (ih h) fun _ _=>lr
theorem l_ss (l:List S):∀ fr h,LeO (ss r fr h l) (ss r' fr h l):=by
 induction l with
 | nil=>exact fun _ _=>lr
 | cons x l ih =>
  intro fr h
  show LeO (sq (r.s fr h x) fun fr h=>ss r fr h l) (sq (r'.s fr h x) fun fr h=>ss r' fr h l)
  unfold sq
  refine lb3 (L.s _ _ _) fun fl fr h=>?_
  cases fl with
  | next=>exact ih fr h
  | _=>exact lr
theorem l_andv (fr:FrA) (l:List X):∀ h,LeO (andv r fr h l) (andv r' fr h l):=by
 induction l with
 | nil=>exact fun _=>lr
 | cons x l ih =>
  intro h
  cases l with
  | nil=>exact L.e _ _ _
  | cons y l=>exact show LeO (bind2 (r.e fr h x) fun v h=>v.b?.bind fun b=>cond b (andv r fr h (y::l)) (some (.bool false,h))) (bind2 (r'.e fr h x) fun v h=>v.b?.bind fun b=>cond b (andv r' fr h (y::l)) (some (.bool false,h))) from lb2 (L.e _ _ _) fun _ h=>lb lr fun _=>lq (ih h) lr
theorem l_orv (fr:FrA) (l:List X):∀ h,LeO (orv r fr h l) (orv r' fr h l):=by
 induction l with
 | nil=>exact fun _=>lr
 | cons x l ih =>
  intro h
  cases l with
  | nil=>exact L.e _ _ _
  | cons y l=>exact show LeO (bind2 (r.e fr h x) fun v h=>v.b?.bind fun b=>cond b (some (.bool true,h)) (orv r fr h (y::l))) (bind2 (r'.e fr h x) fun v h=>v.b?.bind fun b=>cond b (some (.bool true,h)) (orv r' fr h (y::l))) from lb2 (L.e _ _ _) fun _ h=>lb lr fun _=>lq lr (ih h)
theorem l_andt (fr:FrA) (l:List X):∀ h,LeO (andt r fr h l) (andt r' fr h l):=by
 induction l with
 | nil=>exact fun _=>lr
 | cons x l ih=>exact fun h=>show LeO (bind2 (r.t fr h x) _) (bind2 (r'.t fr h x) _) from lb2 (L.t _ _ _) fun _ h=>lq (ih h) lr
theorem l_ort (fr:FrA) (l:List X):∀ h,LeO (ort r fr h l) (ort r' fr h l):=by
 induction l with
 | nil=>exact fun _=>lr
 | cons x l ih=>exact fun h=>show LeO (bind2 (r.t fr h x) _) (bind2 (r'.t fr h x) _) from lb2 (L.t _ _ _) fun _ h=>lq lr (ih h)
theorem l_iter (fr:FrA) (h:AH) (i:It):LeO (iter r fr h i) (iter r' fr h i):=by
 cases i <;> (unfold iter; exact lb2 (L.e _ _ _) fun _ _=>lr)
theorem l_for (t:T) (b:List S) (l:List AV):∀ fr h,LeO (forGo r t b l fr h) (forGo r' t b l fr h):=by
 induction l with
 | nil=>exact fun _ _=>lr
 | cons x l ih =>
  intro fr h
  show LeO ((bindT fr t x).bind _) ((bindT fr t x).bind _)
  refine lb lr fun fr=>?_
  show LeO (bind3 (ss r fr h b) _) (bind3 (ss r' fr h b) _)
  refine lb3 (l_ss L b fr h) fun fl fr h=>?_
  cases fl with
  | next=>exact ih fr h
  | cont=>exact ih fr h
  | _=>exact lr
theorem l_cgo (t:T) (ifs:List X) {nx nx':FrA->AH->Option (List AV×FrA×AH)} (hn:∀ fr h,LeO (nx fr h) (nx' fr h)) (l:List AV):∀ fr h,LeO (compGo r t ifs nx l fr h) (compGo r' t ifs nx' l fr h):=by
 induction l with
 | nil=>exact fun _ _=>lr
 | cons x l ih =>
  intro fr h
  show LeO ((bindT fr t x).bind _) ((bindT fr t x).bind _)
  refine lb lr fun fr=>lb2 (l_andt L fr ifs h) fun _ h=>lq (lb3 (hn fr h) fun _ fr h=>lb3 (ih fr h) fun _ _ _=>lr) (ih fr h)
theorem l_cin (x:X) (gs:List Gn):∀ fr h,LeO (compIn r x gs fr h) (compIn r' x gs fr h):=by
 induction gs with
 | nil=>exact fun fr h=>show LeO (bind2 (r.e fr h x) _) (bind2 (r'.e fr h x) _) from lb2 (L.e _ _ _) fun _ _=>lr
 | cons g gs ih =>
  intro fr h
  obtain ⟨t,it,ifs⟩:=g
  show LeO (iter3 (iter r fr h it) fun l lo h'=>bind3 (compGo r t ifs (compIn r x gs) l fr (h'.lock lo)) fun vs fr h''=>some (vs,fr,h''.open_ h')) (iter3 (iter r' fr h it) fun l lo h'=>bind3 (compGo r' t ifs (compIn r' x gs) l fr (h'.lock lo)) fun vs fr h''=>some (vs,fr,h''.open_ h'))
  exact li3 (l_iter L fr h it) fun l lo h=>lb3 (l_cgo L t ifs ih l fr _) fun _ _ _=>lr
theorem l_cmp (fr:FrA) (h:AH) (x:X) (g:List Gn):LeO (compE r fr h x g) (compE r' fr h x g):=by
 cases g with
 | nil=>exact lr
 | cons g gs =>
  obtain ⟨t,it,ifs⟩:=g
  unfold compE
  exact li3 (l_iter L fr h it) fun l lo h=>lb3 (l_cgo L t ifs (l_cin L x gs) l _ _) fun _ _ _=>lr
variable (P:Pg) (M:Ms)
theorem l_callM (h h':AH) (o:AV) (n:Nat) (vs:List AV):LeO (callM P M r h h' o n vs) (callM P M r' h h' o n vs):=by
 unfold callM
 cases insOf h o with
 | none=>exact lr
 | some q =>
  show LeO (match lk q.2 n with | some _=>none | none=>(P.mth q.1 n).bind fun f=>r.c f (o::vs) h') (match lk q.2 n with | some _=>none | none=>(P.mth q.1 n).bind fun f=>r'.c f (o::vs) h')
  cases lk q.2 n with
  | none=>exact lb lr fun _=>L.c _ _ _
  | some _=>exact lr
theorem l_e (fr:FrA) (h:AH) (x:X):LeO (stepE P M r fr h x) (stepE P M r' fr h x):=by
 have a1:=l_es L; have a2:=l_eds L; have a3:=l_callM L P M; have a4:=l_cmp L
 cases x with
 | and l=>exact l_andv L fr l h
 | or l=>exact l_orv L fr l h
 | comp x g=>exact a4 fr h x g
 | tup l=>unfold stepE; exact lb2 (a1 fr l h) fun _ _=>lr
 | lst l=>unfold stepE; exact lb2 (a1 fr l h) fun _ _=>lr
 | dicN l=>unfold stepE; exact lb2 (a2 fr l h) fun _ _=>lr
 | dicF l=>unfold stepE; exact lb2 (a2 fr l h) fun _ _=>lr
 | callF f l=>unfold stepE; exact lb2 (a1 fr l h) fun _ _=>L.c _ _ _
 | callC C l=>unfold stepE newI; exact lb2 (a1 fr l h) fun _ _=>lb lr fun _=>lb2 (L.c _ _ _) fun _ _=>lr
 | clsM C n l=>unfold stepE; exact lb2 (a1 fr l h) fun _ _=>lb lr fun _=>L.c _ _ _
 | meth x n l=>unfold stepE; exact lb2 (L.e _ _ _) fun _ h=>lb2 (a1 fr l h) fun _ _=>a3 _ _ _ _ _
 | ite t a b=>unfold stepE; exact lb2 (L.t _ _ _) fun _ _=>lq (L.e _ _ _) (L.e _ _ _)
 | cst _=>exact lr
 | loc _=>exact lr
 | cel _=>exact lr
 | glb _=>exact lr
 | attr x n=>unfold stepE; exact lb2 (L.e _ _ _) fun _ _=>lr
 | callB b x=>unfold stepE; exact lb2 (L.e _ _ _) fun _ _=>lr
 | not x=>unfold stepE; exact lb2 (L.e _ _ _) fun _ _=>lr
 | lstItems x=>unfold stepE; exact lb2 (L.e _ _ _) fun _ _=>lr
 | _=>unfold stepE e2; exact lb2 (L.e _ _ _) fun _ _=>lb2 (L.e _ _ _) fun _ _=>lr
theorem l_t (fr:FrA) (h:AH) (x:X):LeO (stepT r fr h x) (stepT r' fr h x):=by
 cases x with
 | not x=>unfold stepT; exact lb2 (L.t _ _ _) fun _ _=>lr
 | and l=>exact l_andt L fr l h
 | or l=>exact l_ort L fr l h
 | ite t a b=>unfold stepT; exact lb2 (L.t _ _ _) fun _ _=>lq (L.t _ _ _) (L.t _ _ _)
 | cmp x o y=>unfold stepT e2; exact lb2 (L.e _ _ _) fun _ _=>lb2 (L.e _ _ _) fun _ _=>lr
 | inVals x y=>unfold stepT e2; exact lb2 (L.e _ _ _) fun _ _=>lb2 (L.e _ _ _) fun _ _=>lr
 | loc _=>unfold stepT truB; exact lb2 (L.e _ _ _) fun _ _=>lr
 | callF _ _=>unfold stepT truB; exact lb2 (L.e _ _ _) fun _ _=>lr
 | meth _ _ _=>unfold stepT truB; exact lb2 (L.e _ _ _) fun _ _=>lr
 | _=>exact lr
theorem l_asg (fr:FrA) (h:AH) (x:X):LeO (asgv r fr h x) (asgv r' fr h x):=by
 cases x with
 | comp x g=>exact l_cmp L fr h x g
 | _=>exact L.e _ _ _
theorem l_s (fr:FrA) (h:AH) (x:S):LeO (stepS r fr h x) (stepS r' fr h x):=by
 cases x with
 | asg n x=>unfold stepS; exact lb2 (l_asg L _ _ _) fun _ _=>lr
 | asgA o n x=>unfold stepS e2; exact lb2 (L.e _ _ _) fun _ _=>lb2 (L.e _ _ _) fun _ _=>lr
 | asgS o i x=>unfold stepS e2; exact lb2 (L.e _ _ _) fun _ _=>lb2 (L.e _ _ _) fun _ _=>lb2 (L.e _ _ _) fun _ _=>lr
 | ite t a b=>unfold stepS; exact lb2 (L.t _ _ _) fun _ h=>lq (l_ss L _ _ _) (l_ss L _ _ _)
 | for_ t it b=>unfold stepS; exact li3 (l_iter L _ _ _) fun _ _ _=>lb3 (l_for L _ _ _ _ _) fun _ _ _=>lr
 | while_ t=>unfold stepS; exact lb2 (L.t _ _ _) fun _ _=>lr
 | ret0=>exact lr
 | brk=>exact lr
 | cont=>exact lr
 | pass=>exact lr
 | _=>unfold stepS; exact lb2 (L.e _ _ _) fun _ _=>lr
theorem l_step:LeV (Ev.step P M r) (Ev.step P M r'):=⟨l_e L P M,l_t L,l_s L,fun f vs h=>by
 show LeO (stepC P r f vs h) (stepC P r' f vs h)
 unfold stepC
 exact lb lr fun _=>lb lr fun _=>lb3 (l_ss L _ _ _) fun _ _ _=>lr⟩
end
theorem ev_s (P:Pg) (M:Ms):∀ n,LeV (ev P M n) (ev P M (n+1))
 | 0=>⟨fun _ _ _=>⟨fun _ h=>nomatch h⟩,fun _ _ _=>⟨fun _ h=>nomatch h⟩,fun _ _ _=>⟨fun _ h=>nomatch h⟩,fun _ _ _=>⟨fun _ h=>nomatch h⟩⟩
 | n+1=>l_step (ev_s P M n) P M
theorem lt3 {α:Type} {a b c:Option α} (h:LeO a b) (g:LeO b c):LeO a c:=⟨fun _ e=>g.h _ (h.h _ e)⟩
theorem ev_le {n k:Nat} (h:n<=k):LeV (V n) (V k):=by
 induction h with
 | refl=>exact ⟨fun _ _ _=>lr,fun _ _ _=>lr,fun _ _ _=>lr,fun _ _ _=>lr⟩
 | step _ ih=>exact ⟨fun fr h x=>lt3 (ih.e fr h x) ((ev_s _ _ _).e fr h x),fun fr h x=>lt3 (ih.t fr h x) ((ev_s _ _ _).t fr h x),fun fr h x=>lt3 (ih.s fr h x) ((ev_s _ _ _).s fr h x),fun f vs h=>lt3 (ih.c f vs h) ((ev_s _ _ _).c f vs h)⟩
theorem Cl.of {n f:Nat} {h h':AH} {vs:List AV} {v:AV} (e:(V n).c f vs h=some (v,h')):Cl n h f vs v h':=fun _ q=>((ev_le q).c _ _ _).h _ e
theorem Es.of {n:Nat} {fr fr':FrA} {h h':AH} {l:List S} {fl:Fl} (e:ss (V n) fr h l=some (fl,fr',h')):Es n fr h l fl fr' h':=fun _ q=>(l_ss (ev_le q) l fr h).h _ e
noncomputable def WKey.k?:WKey->SKey
 | .me=>.me | .speakers=>.me | .facts=>.me | .numbers=>.me | .queues=>.me | .num _=>.me | .fct _=>.me | .que _ _=>.me | .sp _ k=>k
noncomputable def keysS (prs:List Pr):List SKey:=[.me,.own,.peers,.ins,.origins,.costs,.chosen,.outs]++prs.flatMap fun p=>[.pd p,.ai p,.rt p,.st p,.ot p]
theorem keysS_in {prs:List Pr} {p:Pr} (h:p∈prs) {k:SKey} (hk:k∈[SKey.pd p,.ai p,.rt p,.st p,.ot p]):k∈keysS prs:=List.mem_append.mpr (.inr (List.mem_flatMap.mpr ⟨p,h,hk⟩))
theorem keysS_has (s:Sp):∀ k,s.has k->k∈keysS s.prs
 | .me,_=>.head _ | .own,_=>.tail _ (.head _) | .peers,_=>.tail _ (.tail _ (.head _)) | .ins,_=>.tail _ (.tail _ (.tail _ (.head _)))
 | .origins,_=>.tail _ (.tail _ (.tail _ (.tail _ (.head _)))) | .costs,_=>.tail _ (.tail _ (.tail _ (.tail _ (.tail _ (.head _))))) | .chosen,_=>.tail _ (.tail _ (.tail _ (.tail _ (.tail _ (.tail _ (.head _)))))) | .outs,_=>.tail _ (.tail _ (.tail _ (.tail _ (.tail _ (.tail _ (.tail _ (.head _)))))))
 | .pd _,h=>keysS_in h (.head _) | .ai _,h=>keysS_in h (.tail _ (.head _)) | .rt _,h=>keysS_in h (.tail _ (.tail _ (.head _))) | .st _,h=>keysS_in h (.tail _ (.tail _ (.tail _ (.head _)))) | .ot _,h=>keysS_in h (.tail _ (.tail _ (.tail _ (.tail _ (.head _)))))
noncomputable def keysN (W:Wd) (a:Nat):List WKey:=[.num a,.fct a]++(keysS (W.sp a).prs).map (.sp a)
noncomputable def keysW (W:Wd):List WKey:=[.me,.speakers,.facts,.numbers,.queues]++((W.ns.flatMap (keysN W))++W.ways.map fun q=>.que q.1 q.2)
theorem keysN_in {W:Wd} {a:Nat} (h:a∈W.ns) {k:WKey} (hk:k∈keysN W a):k∈keysW W:=List.mem_append.mpr (.inr (List.mem_append.mpr (.inl (List.mem_flatMap.mpr ⟨a,h,hk⟩))))
theorem keysW_has (W:Wd):∀ k,W.has k->k∈keysW W
 | .me,_=>.head _ | .speakers,_=>.tail _ (.head _) | .facts,_=>.tail _ (.tail _ (.head _)) | .numbers,_=>.tail _ (.tail _ (.tail _ (.head _))) | .queues,_=>.tail _ (.tail _ (.tail _ (.tail _ (.head _))))
 | .num _,h=>keysN_in h (.head _) | .fct _,h=>keysN_in h (.tail _ (.head _))
 | .sp _ k,h=>keysN_in h.1 (List.mem_append.mpr (.inr (List.mem_map.mpr ⟨k,keysS_has _ k h.2,rfl⟩)))
 | .que a b,h=>List.mem_append.mpr (.inr (List.mem_append.mpr (.inr (List.mem_map.mpr ⟨(a,b),h,rfl⟩))))
noncomputable def ndupN:List Nat->Bool
 | []=>true
 | a::l=>!hasN l a&&ndupN l
theorem hasNm {a:Nat} {l:List Nat} (h:a∈l):hasN l a=true:=by
 induction l with
 | nil=>exact nomatch h
 | cons b l ih =>
  show (match Nat.beq b a with | true=>true | false=>hasN l a)=true
  cases e:Nat.beq b a with
  | true=>rfl
  | false=>exact ih ((List.mem_cons.mp h).resolve_left fun z=>nbN e z.symm)
theorem ndupN_ok:∀ {l:List Nat},ndupN l=true->l.Nodup
 | [],_=>List.nodup_nil
 | a::l,h=>andK h fun h1 h2=>List.nodup_cons.mpr ⟨fun z=>Bool.false_ne_true ((congrArg (!·) (hasNm z)).symm.trans h1),ndupN_ok h2⟩
theorem nodup_map_inj {α:Type} {f:α->Nat} {l:List α} (hn:(l.map f).Nodup):∀ a∈l,∀ b∈l,f a=f b->a=b:=by
 induction l with
 | nil=>exact fun _ h=>nomatch h
 | cons c l ih =>
  intro a ha b hb e
  have h:=List.nodup_cons.mp hn
  refine (List.mem_cons.mp ha).elim (fun za=>(List.mem_cons.mp hb).elim (fun zb=>za.trans zb.symm) fun hb=>absurd (show f c∈l.map f from (za▸e:f c=f b)▸List.mem_map_of_mem hb) h.1) fun ha=>(List.mem_cons.mp hb).elim (fun zb=>absurd (show f c∈l.map f from (zb▸e:f a=f c)▸List.mem_map_of_mem ha) h.1) fun hb=>ih h.2 a ha b hb e
noncomputable def fld (J:AH) (i n:Nat):Nat:=(((lk J.ob i).bind AO.n?).bind fun q=>(lk q.2 n).bind AV.r?).getD 0
noncomputable def dref (J:AH) (i:Nat) (k:AV):Nat:=(((lk J.ob i).bind AO.d?).bind fun l=>(dget k l).bind AV.r?).getD 0
noncomputable def rdS (J:AH) (m:Nat):SKey->Nat
 | .me=>m
 | .own=>fld J m 159 | .peers=>fld J m 166 | .ins=>fld J m 98 | .origins=>fld J m 153 | .costs=>fld J m 72 | .chosen=>fld J m 59 | .outs=>fld J m 157
 | .pd p=>dref J (fld J m 166) (.int p.no)
 | .ai p=>dref J (fld J m 98) (.int p.no)
 | .rt p=>fld J (dref J (fld J m 98) (.int p.no)) 189
 | .st p=>fld J (dref J (fld J m 98) (.int p.no)) 204
 | .ot p=>dref J (fld J m 157) (.int p.no)
noncomputable def rdW (J:AH) (w:Nat):WKey->Nat
 | .me=>w
 | .speakers=>fld J w 203 | .facts=>fld J w 85 | .numbers=>fld J w 146 | .queues=>fld J w 176
 | .num a=>dref J (fld J w 146) (.str a)
 | .fct a=>dref J (fld J w 85) (.str a)
 | .que a b=>dref J (fld J w 176) (wayv (a,b))
 | .sp a k=>rdS J (dref J (fld J w 203) (.str a)) k
noncomputable def nmI (i:Nat):Nat:=([81,177,195,207]:List Nat).getD i 207
noncomputable def ixN (a:Nat):Nat:=cond (Nat.beq a 81) 0 (cond (Nat.beq a 177) 1 (cond (Nat.beq a 195) 2 3))
noncomputable def prI (j n:Nat) (k:Bool):Nat×Pr:=(nmI j,⟨n,((5+j:Nat):Int),((11+j:Nat):Int),k⟩)
noncomputable abbrev Ses:=Nat×Nat×Bool×Bool
noncomputable def nbL (a:Nat):List Ses->Nat->List (Nat×Pr)
 | [],_=>[]
 | q::r,n=>cond (Nat.beq q.1 a) (prI q.2.1 n q.2.2.1::nbL a r (n+1)) (cond (Nat.beq q.2.1 a) (prI q.1 n q.2.2.2::nbL a r (n+1)) (nbL a r n))
noncomputable def names:List Nat:=[81,177,195,207]
noncomputable def clI (c i:Nat):Nat:=cond (Nat.beq i 0) 0 (cond (Nat.beq i 3) (31+c) (31+i))
noncomputable def spI (U:SKey->Nat) (c:Nat) (l:List Ses) (i:Nat):Sp:=⟨U,((5+i:Nat):Int),((11+i:Nat):Int),clI c i,(nbL i l 1).map (·.2)⟩
noncomputable def wdI (U:WKey->Nat) (c:Nat) (l:List Ses):Wd:=⟨U,names,fun a=>spI (fun k=>U (.sp a k)) c l (ixN a),fun a=>nbL (ixN a) l 1,l.flatMap fun q=>[(nmI q.1,nmI q.2.1),(nmI q.2.1,nmI q.1)]⟩
noncomputable def st0:WSt:=⟨fun _=>⟨false,fun _=>none,none,fun _=>none⟩,fun _ _=>[]⟩
structure Kds where
 a:Bool
 b:Bool
 c:Bool
 d:Bool
 e:Bool
 f:Bool
noncomputable def Kds.one (k:Kds) (i:Nat):Bool:=cond (Nat.beq i 0) k.a (cond (Nat.beq i 1) k.c k.e)
noncomputable def Kds.two (k:Kds) (i:Nat):Bool:=cond (Nat.beq i 0) k.b (cond (Nat.beq i 1) k.d k.f)
noncomputable def sesI (tw:Bool) (lo:Nat) (k:Kds):List Ses:=[(1,2,k.a,k.b),(2,3,k.c,k.d),(1,3,k.e,k.f)].eraseIdx lo++(1,0,true,false)::cond tw [(3,0,true,false)] []
noncomputable def tops:List (Bool×Nat):=[(false,0),(false,1),(false,2),(false,3),(true,0),(true,1),(true,2)]
theorem tops_in {F:Bool->Nat->Prop} (a0:F false 0) (a1:F false 1) (a2:F false 2) (a3:F false 3) (b0:F true 0) (b1:F true 1) (b2:F true 2):∀ q∈tops,F q.1 q.2 :=
 List.forall_mem_cons.mpr ⟨a0,List.forall_mem_cons.mpr ⟨a1,List.forall_mem_cons.mpr ⟨a2,List.forall_mem_cons.mpr ⟨a3,List.forall_mem_cons.mpr ⟨b0,List.forall_mem_cons.mpr ⟨b1,List.forall_mem_cons.mpr ⟨b2,fun _ h=>nomatch h⟩⟩⟩⟩⟩⟩⟩
open L2
noncomputable def bx (n:Nat):AO:=.lst [.ref 2,.int n]
noncomputable def hB (S L:List AV):AH:=⟨5,[0],[(4,.dic []),(3,bx 0),(2,.lst L),(1,.lst L),(0,.lst S)]⟩
noncomputable abbrev FH:=FrA×AH
noncomputable def fO (R:Option FH):FrA:=(R.map (·.1)).getD ⟨[],[]⟩
noncomputable def hO (R:Option FH):AH:=(R.map (·.2)).getD ⟨0,[],[]⟩
noncomputable def gO (R:Option AH):AH:=R.getD ⟨0,[],[]⟩
noncomputable def rn (l:List S) (s:FH):Option FH:=(ss (V 100) s.1 s.2 l).bind fun q=>match q.1 with
 | .next=>some q.2
 | .brk=>none | .cont=>none | .ret _=>none
noncomputable def wS (i:Nat):S:=f__law_world.body.getD i .pass
noncomputable def nBody:List S:=[(.asg 85 (.dicN [(96,(.bin (.cst (.int (5))) .add (.loc 45))),(43,(.cst (.int (100)))),(37,(.bin (.cst (.int (11))) .add (.loc 45)))])),(.asg 68 (.callB .dict (.loc 85))),(.ite (.cmp (.loc 139) .ne (.cst (.str 81))) [(.asgS (.loc 68) (.cst (.str 62)) (.bin (.cst (.int (31))) .add (.ite (.cmp (.loc 139) .eq (.cst (.str 207))) (.callF 73 [(.loc 52),(.cst (.int (3)))]) (.loc 45))))] []),(.expr (.meth (.loc 237) 35 [(.loc 139),(.callC 17 [(.loc 68)]),(.loc 85)])),(.expr (.meth (.sub (.attr (.loc 237) 203) (.loc 139)) 199 [(.cst (.int (11))),(.cst (.int (3)))]))]
noncomputable def nS (i:Nat):S:=nBody.getD i .pass
noncomputable def onNm (s:FH) (i:Nat):FH:=(s.1.bT (.tup [.loc 45,.loc 139]) (.tup [.int i,.str (nmI i)]),s.2)
noncomputable def atNms (s:FH):FH:=(s.1,(s.2.ad (.lst (names.map .str))).lock [s.2.nx])
noncomputable def R0 (S L:List AV):Option FH:=rn [wS 0] (⟨[(52,.ref 3)],[]⟩,hB S L)
noncomputable def R1 (S L:List AV):Nat->Option FH
 | 0=>(R0 S L).map atNms
 | i+1=>(R1 S L i).bind fun s=>rn nBody (onNm s i)
noncomputable def R2 (S L:List AV):Option FH:=(R1 S L 3).bind fun s=>rn [nS 0,nS 1] (onNm s 3)
noncomputable def stC (c:Nat):S:=.asgS (.loc 68) (.cst (.str 62)) (.bin (.cst (.int 31)) .add (.cst (.int c)))
noncomputable def R3 (S L:List AV) (c:Nat):Option FH:=(R2 S L).bind fun s=>(rn [stC c] (s.1,s.2.st 3 (bx 1))).bind fun s=>rn [nS 3,nS 4] s
noncomputable def prN (i:Nat):Nat×Nat:=cond (Nat.beq i 0) (177,195) (cond (Nat.beq i 1) (195,207) (177,207))
noncomputable def pairsV:List AV:=[wayv (prN 0),wayv (prN 1),wayv (prN 2)]
noncomputable def kl:AO:=.lst [.str 95,.str 61]
noncomputable def h4 (h:AH):AH:=((((h.wr [0]).st 3 (bx 2)).st 3 (bx 3)).ad (.lst pairsV)).lock [h.nx]
noncomputable def conn (a b:Nat) (k1 k2:Bool) (h:AH):Option AH:=((V 100).c 62 [.ref 5,.str a,.str b,kdV k1,kdV k2] h).bind fun q=>cond q.1.isN (some q.2) none
noncomputable def stepP (lo:Nat) (k:Kds) (i:Nat) (h:AH):Option AH:=cond (Nat.beq i lo) (some (h.st 3 (bx (3+i+1)))) (conn (prN i).1 (prN i).2 (k.one i) (k.two i) (((h.st 3 (bx (3+i+1))).ad kl).ad kl))
noncomputable def HP (S L:List AV) (c lo:Nat) (k:Kds):Nat->Option AH
 | 0=>(R3 S L c).map fun s=>h4 s.2
 | i+1=>(HP S L c lo k i).bind (stepP lo k i)
noncomputable def H7 (S L:List AV) (c lo:Nat) (k:Kds):Option AH:=(HP S L c lo k 3).bind fun h=>conn 177 81 true false (h.wr [0])
noncomputable def H8 (S L:List AV) (c lo:Nat) (k:Kds) (tw:Bool):Option AH:=(H7 S L c lo k).bind fun h=>cond tw (conn 207 81 true false h) (some h)
noncomputable def atts:AO:=.ins 1 [(203,.ref 6),(85,.ref 7),(146,.ref 8),(176,.ref 9)]
theorem split8 {Z:Prop} {A B C D E F G H:Type} {a a':A} {b b':B} {c c':C} {d d':D} {e e':E} {f f':F} {g g':G} {h h':H} (z:(a,b,c,d,e,f,g,h)=(a',b',c',d',e',f',g',h')) (k:a=a'->b=b'->c=c'->d=d'->e=e'->f=f'->g=g'->h=h'->Z):Z :=
 k (congrArg (·.1) z) (congrArg (·.2.1) z) (congrArg (·.2.2.1) z) (congrArg (·.2.2.2.1) z) (congrArg (·.2.2.2.2.1) z) (congrArg (·.2.2.2.2.2.1) z) (congrArg (·.2.2.2.2.2.2.1) z) (congrArg (·.2.2.2.2.2.2.2) z)
theorem consK {Z:Prop} {A:Type} {a b:A} {l m:List A} (h:a::l=b::m) (k:a=b->l=m->Z):Z:=k (List.cons.inj h).1 (List.cons.inj h).2
noncomputable abbrev seesQ (L:List AV) (X0 X2 X3:Option FH):Prop :=
 (X0,X2,lk (fO X2).loc 52,lk (fO X2).loc 139,lk (hO X2).ob 2,lk (hO X2).ob 3,(hO X2).ro,X3,lk (fO X3).loc 52,lk (fO X3).loc 237,lk (hO X3).ob 2,lk (hO X3).ob 3,lk (hO X3).ob 5,[(hO X3).ro,(hO X0).ro],Nat.ble 10 (hO X3).nx)
 = (some (fO X0,hO X0),some (fO X2,hO X2),some (.ref 3),some (.str 207),some (.lst L),some (bx 0),[10,0],some (fO X3,hO X3),some (.ref 3),some (.ref 5),some (.lst L),some (bx 1),some atts,[[10,0],[0]],true)
noncomputable abbrev seesA (S L:List AV) (c:Nat):Prop:=seesQ L (R0 S L) (R2 S L) (R3 S L c)
theorem seesA_all (S L:List AV) (c:Nat):seesA S L c:=by kernel_rfl
open L2
noncomputable def wdR (c:Nat) (l:List Ses) (R:Option AH):Wd:=wdI (rdW (gO R) 5) c l
noncomputable def sawI (x:Option AH):List (Option AO)×Option AH×List Nat:=([lk (gO x).ob 2,lk (gO x).ob 3,lk (gO x).ob 5],x,(gO x).ro)
noncomputable def sawJ (L:List AV) (x:Option AH) (i nx:Nat):List (Option AO)×Option AH×List Nat:=([some (.lst L),some (bx (3+i)),some atts],some (gO x),[nx,0])
noncomputable abbrev seesP (L:List AV) (c:Nat) (k:Kds) (tw:Bool) (lo nx:Nat) (x0 x1 x2 x3 x7 x8:Option AH):Prop :=
 ([sawI x0,sawI x1,sawI x2,sawI x3],x7,lk (gO x7).ob 5,x8,(gO x8).ro,[lk (gO x8).ob 2,lk (gO x8).ob 3,lk (gO x8).ob 4],
  (keysW (wdR c (sesI tw lo k) x8)).map (fun q=>lk (gO x8).ob ((wdR c (sesI tw lo k) x8).U q)),ndupN ((keysW (wdR c (sesI tw lo k) x8)).map (wdR c (sesI tw lo k) x8).U)&&((gO x8).ob.all (fun p=>Nat.blt p.1 (gO x8).nx)&&(keysW (wdR c (sesI tw lo k) x8)).all fun q=>Nat.ble 5 ((wdR c (sesI tw lo k) x8).U q)))
 = ([sawJ L x0 0 nx,sawJ L x1 1 nx,sawJ L x2 2 nx,sawJ L x3 3 nx],some (gO x7),some atts,some (gO x8),[0],[some (.lst L),some (bx 6),some (.dic [])],
  (keysW (wdR c (sesI tw lo k) x8)).map (fun q=>some ((wdR c (sesI tw lo k) x8).ct st0 q)),true)
noncomputable abbrev seesB (S L:List AV) (c:Nat) (k:Kds) (tw:Bool) (lo:Nat):Prop:=seesP L c k tw lo (hO (R3 S L c)).nx (HP S L c lo k 0) (HP S L c lo k 1) (HP S L c lo k 2) (HP S L c lo k 3) (H7 S L c lo k) (H8 S L c lo k tw)
theorem seesB_all (S L:List AV) (c:Nat) (k:Kds):∀ q∈tops,seesB S L c k q.1 q.2 :=
 tops_in (F:=seesB S L c k) (by kernel_rfl) (by kernel_rfl) (by kernel_rfl) (by kernel_rfl) (by kernel_rfl) (by kernel_rfl) (by kernel_rfl)
noncomputable def W0 (tw:Bool) (lo:Nat) (c:Nat) (k:Kds):Wd:=wdI (fun _=>0) c (sesI tw lo k)
noncomputable abbrev tabs (c:Nat) (k:Kds) (tw:Bool) (lo:Nat):Prop :=
 (ndupN (W0 tw lo c k).ns&&(((W0 tw lo c k).ns.all fun a=>decide ((((W0 tw lo c k).sp a).prs.map (·.no)).Nodup)&&(Nat.ble ((W0 tw lo c k).sp a).prs.length 10&&(ndupN (((W0 tw lo c k).nb a).map (·.1))&&(((W0 tw lo c k).nb a).all fun q=>decide ((a,q.1)∈(W0 tw lo c k).ways))))) &&
  (decide (W0 tw lo c k).ways.Nodup&&(((W0 tw lo c k).ways.all fun q=>decide (q.1∈(W0 tw lo c k).ns)&&(decide (q.2∈(W0 tw lo c k).ns)&&((W0 tw lo c k).nb q.2).any fun r=>Nat.beq r.1 q.1))&&Nat.ble (W0 tw lo c k).ways.length 20))),
  (W0 tw lo c k).ns.map fun a=>sortv (((W0 tw lo c k).sp a).prs.map fun p=>.int p.no))=(true,(W0 tw lo c k).ns.map fun a=>some (((W0 tw lo c k).sp a).prs.map fun p=>.int p.no))
theorem tabs_all (c:Nat) (k:Kds):∀ q∈tops,tabs c k q.1 q.2 :=
 tops_in (F:=tabs c k) (by kernel_rfl) (by kernel_rfl) (by kernel_rfl) (by kernel_rfl) (by kernel_rfl) (by kernel_rfl) (by kernel_rfl)
theorem map_at {α β:Type} {f g:α->β} {l:List α} (h:l.map f=l.map g):∀ a∈l,f a=g a:=List.map_inj_left.mp h
theorem allK' {α:Type} {p:α->Bool} {l:List α} (h:l.all p=true) {a:α} (m:a∈l):p a=true:=List.all_eq_true.mp h a m
theorem sp_ids {U:SKey->Nat} {c:Nat} {l:List Ses}:∀ i,((0:Int)==(spI U c l i).id)=false/\((11:Int)==(spI U c l i).addr)=isE (spI U c l i)/\(((spI U c l i).cl:Int)==0)=isE (spI U c l i):=fun i=>by
 have h5:isE (spI U c l i)=decide (i=0):=decide_eq_decide.mpr ⟨fun h:(5:Int)=((5+i:Nat):Int)=>by omega,fun h=>by rw [h]; rfl⟩
 rw [h5]
 refine ⟨decide_eq_false fun h:(0:Int)=((5+i:Nat):Int)=>by omega,decide_eq_decide.mpr ⟨fun h:(11:Int)=((11+i:Nat):Int)=>by omega,fun h=>by rw [h]; rfl⟩,decide_eq_decide.mpr ⟨fun h:((clI c i:Nat):Int)=0=>?_,fun h=>by rw [h]; rfl⟩⟩
 have h:clI c i=0:=Int.ofNat.inj h
 unfold clI at h
 cases e:Nat.beq i 0 with
 | true=>exact Nat.eq_of_beq_eq_true e
 | false =>
  rw [e] at h
  cases e2:Nat.beq i 3 <;> rw [e2] at h
  ·exact absurd (show 31+i=0 from h) (by omega)
  ·exact absurd (show 31+c=0 from h) (by omega)
theorem wd_ok {U:WKey->Nat} {c:Nat} {k:Kds} {tw:Bool} {lo:Nat} (ht:(tw,lo)∈tops) (hi:ndupN ((keysW (wdI U c (sesI tw lo k))).map U)=true):(wdI U c (sesI tw lo k)).Ok:=by
 have T:=tabs_all c k _ ht
 have s1:=(Prod.mk.inj T).1
 have s2:=map_at (Prod.mk.inj T).2
 have hinj:∀ a b,(wdI U c (sesI tw lo k)).has a->(wdI U c (sesI tw lo k)).has b->U a=U b->a=b:=fun a b ha hb e=>nodup_map_inj (ndupN_ok hi) a (keysW_has _ a ha) b (keysW_has _ b hb) e
 exact andK s1 fun q1 q=>andK q fun q2 q3=>andK q3 fun q3 q4=>andK q4 fun q4 q5 =>
  ⟨hinj,fun _ _=>rfl,ndupN_ok q1,fun a ha=>andK (allK' q2 ha) fun r1 r=>andK r fun r2 _ =>
   have z:=sp_ids (U:=fun q=>U (.sp a q)) (c:=c) (l:=sesI tw lo k) (ixN a)
   ⟨of_decide_eq_true r1,s2 a ha,Nat.le_of_ble_eq_true r2,z.1,z.2.1,z.2.2,fun x y hx hy e=>congrArg WKey.k? (hinj (.sp a x) (.sp a y) ⟨ha,hx⟩ ⟨ha,hy⟩ e)⟩,
   fun _ _=>rfl,fun a ha=>andK (allK' q2 ha) fun _ r=>andK r fun _ r=>andK r fun r4 _=>ndupN_ok r4,of_decide_eq_true q3,
   fun a ha q hq=>andK (allK' q2 ha) fun _ r=>andK r fun _ r=>andK r fun _ r5=>of_decide_eq_true (allK' r5 hq),
   fun q hq=>andK (allK' q4 hq) fun r1 r=>andK r fun r2 r3=>⟨of_decide_eq_true r1,of_decide_eq_true r2,(List.any_eq_true.mp r3).elim fun r h=>⟨r.2,by
    have e:=Nat.eq_of_beq_eq_true h.2
    rw [← e]; exact h.1⟩⟩,Nat.le_of_ble_eq_true q5⟩
open L2
theorem ss_app {r:Ev} {b:List S} {fr':FrA} {h':AH}:∀ (a:List S) {fr:FrA} {h:AH},ss r fr h a=some (.next,fr',h')->ss r fr h (a++b)=ss r fr' h' b:=by
 intro a
 induction a with
 | nil =>
  intro fr h e
  have e:some (Fl.next,fr,h)=some (.next,fr',h'):=e
  cases e; rfl
 | cons x a ih =>
  intro fr h e
  have e:sq (r.s fr h x) (fun fr h=>ss r fr h a)=some (.next,fr',h'):=e
  show sq (r.s fr h x) (fun fr h=>ss r fr h (a++b))=_
  cases q:r.s fr h x with
  | none=>rw [q] at e; exact nomatch e
  | some p =>
   rw [q] at e
   obtain ⟨fl,f1,h1⟩:=p
   cases fl with
   | next=>exact ih e
   | _=>exact nomatch (show Fl.next=_ from (Prod.mk.inj (Option.some.inj e)).1.symm)
theorem Es.app {n:Nat} {fr fr1 fr2:FrA} {h h1 h2:AH} {a b:List S} {fl:Fl} (e1:Es n fr h a .next fr1 h1) (e2:Es n fr1 h1 b fl fr2 h2):Es n fr h (a++b) fl fr2 h2:=fun k q=>(ss_app a (e1 k q)).trans (e2 k q)
theorem rn_es {l:List S} {s s':FH} (e:rn l s=some s'):Es 100 s.1 s.2 l .next s'.1 s'.2:=bindK e fun q e1 e2=>by
 obtain ⟨fl,f,h⟩:=q
 cases fl with
 | next=>have e2:some (f,h)=some s':=e2; cases e2; exact Es.of e1
 | _=>exact nomatch e2
theorem sq_id {o:Option (Fl×FrA×AH)} {f:FrA} {h:AH} (e:sq o (fun fr h=>some (.next,fr,h))=some (.next,f,h)):o=some (.next,f,h):=by
 cases o with
 | none=>exact nomatch e
 | some p =>
  obtain ⟨fl,f1,h1⟩:=p
  cases fl with
  | next=>exact e
  | _=>exact nomatch (show Fl.next=_ from (Prod.mk.inj (Option.some.inj e)).1.symm)
theorem asgS_at {fr fr':FrA} {h h1 h':AH} {o i x y:X} {w:AV} (ex:Ee 99 fr h x w h1) (ey:Ee 99 fr h1 y w h1) (e:Es 100 fr h1 [.asgS o i y] .next fr' h'):Em 100 fr h (.asgS o i x) .next fr' h':=geM fun j q=>by
 have e2:sq (stepS (V j) fr h1 (.asgS o i y)) (fun fr h=>some (.next,fr,h))=some (.next,fr',h'):=e (j+1) (Nat.succ_le_succ q)
 have e3:stepS (V j) fr h (.asgS o i x)=stepS (V j) fr h1 (.asgS o i y):=by
  have K:∀ x h,stepS (V j) fr h (.asgS o i x)=bind2 ((V j).e fr h x) fun v h=>Mine.Internal.e2 (V j) fr h o i fun a k h=>(storeI h a k v).map fun h=>(.next,fr,h):=fun _ _=>rfl
  rw [K,K,ex j q,ey j q]
 rw [e3]
 exact sq_id e2
theorem names_ev (J:AH):Cl 8 J 79 [] (.ref J.nx) (J.ad (.lst (names.map .str))):=by apply Cl.mk (F:=f__law_names) rfl rfl; ktr_unf
theorem up1 {fr fr':FrA} {h h':AH} {l:List S} (e:Es 100 fr h l .next fr' h'):Es 101 fr h l .next fr' h':=e.up (by decide)
structure Added (Sc L:List AV) (c:Nat) (fr:FrA) (h:AH):Prop where
 run:∃ f0 h0,R0 Sc L=some (f0,h0)/\h0.ro=[0]/\Ef 101 f0 ((h0.ad (.lst (names.map .str))).lock [h0.nx]) (.tup [.loc 45,.loc 139]) nBody (enumFrom 0 (names.map .str)) .next fr h
 is:R3 Sc L c=some (fr,h)
 box:lk fr.loc 52=some (.ref 3)
 world:lk fr.loc 237=some (.ref 5)
 two:lk h.ob 2=some (.lst L)
 three:lk h.ob 3=some (bx 1)
 five:lk h.ob 5=some atts
 ro:h.ro=[10,0]
 nx:Nat.ble 10 h.nx=true
theorem ex_ev {f2:FrA} {h2:AH} {c:Nat} (l1:lk f2.loc 52=some (.ref 3)) (l2:lk f2.loc 139=some (.str 207)) (d:Cl 16 h2 73 [.ref 3,.int 3] (.int c) (h2.st 3 (bx 1))):Ee 99 f2 h2 (.bin (.cst (.int 31)) .add (.ite (.cmp (.loc 139) .eq (.cst (.str 207))) (.callF 73 [.loc 52,.cst (.int 3)]) (.loc 45))) (.int (31+(c:Int))) (h2.st 3 (bx 1)):=by ktr_unf
theorem ey_ev (f2:FrA) (h:AH) (c:Nat):Ee 99 f2 h (.bin (.cst (.int 31)) .add (.cst (.int c))) (.int (31+(c:Int))) h:=by ktr_unf
theorem names_of {Sc:List AV} {ns:List Int} (hl:ns.length<=100) {c:Nat} (hc:drawV ns 0 3=c) {X0 Y0 Y1 Y2 Y3 X2 X3:Option FH} (hX0:R0 Sc (ns.map .int)=X0) (hX3:R3 Sc (ns.map .int) c=X3) (b0:Y0=X0.map atNms) (b1:Y1=Y0.bind fun s=>rn nBody (onNm s 0)) (b2:Y2=Y1.bind fun s=>rn nBody (onNm s 1)) (b3:Y3=Y2.bind fun s=>rn nBody (onNm s 2)) (b4:X2=Y3.bind fun s=>rn [nS 0,nS 1] (onNm s 3)) (b5:X3=X2.bind fun s=>(rn [stC c] (s.1,s.2.st 3 (bx 1))).bind fun s=>rn [nS 3,nS 4] s) (A:seesQ (ns.map .int) X0 X2 X3):∃ fr h,Added Sc (ns.map .int) c fr h:=by
 refine split8 A fun a0 a2 l1 l2 o2 o3 r2 A=>?_
 refine split8 A fun a3 k1 k2 j1 j2 j3 g5 nx=>?_
 refine consK g5 fun m1 g5=>?_
 have m2:=(List.cons.inj g5).1
 clear g5 A
 cases X0 with
 | none=>exact nomatch a0
 | some f0 =>
 cases X2 with
 | none=>exact nomatch a2
 | some f2 =>
 cases X3 with
 | none=>exact nomatch a3
 | some f3 =>
 obtain ⟨f0,h0⟩:=f0
 obtain ⟨f2,h2⟩:=f2
 obtain ⟨f3,h3⟩:=f3
 clear a0 a2 a3
 have l1:lk f2.loc 52=some (.ref 3):=l1
 have l2:lk f2.loc 139=some (.str 207):=l2
 have o2:lk h2.ob 2=some (.lst (ns.map .int)):=o2
 have o3:lk h2.ob 3=some (bx 0):=o3
 have r2:h2.ro=[10,0]:=r2
 refine ⟨f3,h3,⟨f0,h0,hX0,m2,?_⟩,hX3,k1,k2,j1,j2,j3,m1,nx⟩
 refine bindK b5.symm fun s2 b1' b2'=>bindK b2' fun s3 b3' b4'=>?_
 cases b1'
 have hr:hasN h2.ro 3=false:=by rw [r2]; rfl
 have d:=draw_ev (ns:=ns) (n:=0) o3 o2 hr rfl hl (by decide) 3 rfl
 rw [hc] at d
 clear k1 k2 j1 j2 j3 m1 m2 nx
 have d:Cl 16 h2 73 [.ref 3,.int 3] (.int c) (h2.st 3 (bx 1)):=d
 have m4:Em 101 f2 h2 (nS 2) .next s3.1 s3.2:=Em.ite (q:=true) (Et.cmp (n:=99) (Ee.loc l2) Ee.cst rfl) (Es.c (asgS_at (ex_ev l1 l2 d) (ey_ev f2 (h2.st 3 (bx 1)) c) (rn_es b3')) Es.nil)
 refine bindK b4.symm fun t3 c1 c2=>bindK (b3.symm.trans c1) fun t2 c3 c4=>bindK (b2.symm.trans c3) fun t1 c5 c6=>bindK (b1.symm.trans c5) fun t0 c7 c8=>?_
 cases b0.symm.trans c7
 have e4:Es 101 (onNm t3 3).1 (onNm t3 3).2 ([nS 0,nS 1]++(nS 2::[nS 3,nS 4])) .next f3 h3:=Es.app (up1 (rn_es c2)) (Es.c m4 (up1 (rn_es b4')))
 exact Ef.k rfl (up1 (rn_es c8)) (Fk.nx (Ef.k rfl (up1 (rn_es c6)) (Fk.nx (Ef.k rfl (up1 (rn_es c4)) (Fk.nx (Ef.k rfl e4 (Fk.nx Ef.nil)))))))
theorem names_loop (Sc:List AV) (ns:List Int) (hl:ns.length<=100) {c:Nat} (hc:drawV ns 0 3=c):∃ fr h,Added Sc (ns.map .int) c fr h:=by
 have A:=seesA_all Sc (ns.map .int) c
 unfold seesA at A
 have b0:R1 Sc (ns.map .int) 0=(R0 Sc (ns.map .int)).map atNms:=rfl
 have b1:R1 Sc (ns.map .int) 1=(R1 Sc (ns.map .int) 0).bind fun s=>rn nBody (onNm s 0):=rfl
 have b2:R1 Sc (ns.map .int) 2=(R1 Sc (ns.map .int) 1).bind fun s=>rn nBody (onNm s 1):=rfl
 have b3:R1 Sc (ns.map .int) 3=(R1 Sc (ns.map .int) 2).bind fun s=>rn nBody (onNm s 2):=rfl
 have b4:R2 Sc (ns.map .int)=(R1 Sc (ns.map .int) 3).bind fun s=>rn [nS 0,nS 1] (onNm s 3):=rfl
 have b5:R3 Sc (ns.map .int) c=(R2 Sc (ns.map .int)).bind fun s=>(rn [stC c] (s.1,s.2.st 3 (bx 1))).bind fun s=>rn [nS 3,nS 4] s:=rfl
 exact names_of hl hc rfl rfl b0 b1 b2 b3 b4 b5 A
open L2
theorem conn_cl {a b:Nat} {k1 k2:Bool} {h h':AH} (e:conn a b k1 k2 h=some h'):Cl 100 h 62 [.ref 5,.str a,.str b,kdV k1,kdV k2] .none h':=bindK e fun q e1 e2=>by
 obtain ⟨v,g⟩:=q
 exact condK e2 (fun e3 e4=>by cases AV.isNT e3; cases e4; exact Cl.of e1) fun _ e4=>nomatch e4
noncomputable def kdA (v:Nat):Bool:=Nat.beq (v % 2) 1
noncomputable def kdB (v:Nat):Bool:=Nat.beq (v / 2) 1
theorem kds_at {v:Nat} (h:v < 4):at_ [.str 95,.str 61] (Int.fmod v 2)=some (kdV (kdA v))/\at_ [.str 95,.str 61] (Int.fdiv v 2)=some (kdV (kdB v)) :=
 have H:∀ v∈[0,1,2,3],at_ [.str 95,.str 61] (Int.fmod (v:Nat) 2)=some (kdV (kdA v))/\at_ [.str 95,.str 61] (Int.fdiv (v:Nat) 2)=some (kdV (kdB v)):=List.forall_mem_cons.mpr ⟨⟨rfl,rfl⟩,List.forall_mem_cons.mpr ⟨⟨rfl,rfl⟩,List.forall_mem_cons.mpr ⟨⟨rfl,rfl⟩,List.forall_mem_cons.mpr ⟨⟨rfl,rfl⟩,fun _ h=>nomatch h⟩⟩⟩⟩
 H v (List.mem_range.mpr h)
structure Way (ns:List Int) (n nx:Nat) (h:AH):Prop where
 two:lk h.ob 2=some (.lst (ns.map .int))
 three:lk h.ob 3=some (bx n)
 five:lk h.ob 5=some atts
 ro:h.ro=[nx,0]
structure FrW (tw:Bool) (lo:Nat) (fr:FrA):Prop where
 box:lk fr.loc 52=some (.ref 3)
 world:lk fr.loc 237=some (.ref 5)
 tw:lk fr.loc 104=some (.bool tw)
 lo:lk fr.loc 121=some (.int lo)
theorem FrW.bt {tw:Bool} {lo:Nat} {fr:FrA} (e:FrW tw lo fr) (a b c:AV):FrW tw lo ((fr.bT (.tup [.loc 45,.loc 160]) (.tup [a,b])).sl 112 c) :=
 ⟨lk_slO rfl (lk_uO rfl (lk_uO rfl e.box)),lk_slO rfl (lk_uO rfl (lk_uO rfl e.world)),lk_slO rfl (lk_uO rfl (lk_uO rfl e.tw)),lk_slO rfl (lk_uO rfl (lk_uO rfl e.lo))⟩
theorem pair_ev {ns:List Int} (hl:ns.length<=100) {tw:Bool} {lo i:Nat} {k:Kds} {fr:FrA} (E:FrW tw lo fr) {h h':AH} {nx:Nat} (hnx:Nat.beq nx 3=false) (W:Way ns (3+i) nx h) (hi:i < 3) (hs:stepP lo k i h=some h') {v:Nat} (hv:drawV ns (3+i) 4=v) (hv4:v < 4) (hk1:k.one i=kdA v) (hk2:k.two i=kdB v) :
  Es 120 (fr.bT (.tup [.loc 45,.loc 160]) (.tup [.int i,wayv (prN i)])) h [(.asg 112 (.callF 73 [(.loc 52),(.cst (.int (4)))])),(.ite (.cmp (.loc 45) .ne (.loc 121)) [(.expr (.meth (.loc 237) 69 [(.sub (.loc 160) (.cst (.int (0)))),(.sub (.loc 160) (.cst (.int (1)))),(.sub (.lst [(.cst (.str 95)),(.cst (.str 61))]) (.bin (.loc 112) .mod (.cst (.int (2))))),(.sub (.lst [(.cst (.str 95)),(.cst (.str 61))]) (.bin (.loc 112) .fdiv (.cst (.int (2)))))]))] [])] .next ((fr.bT (.tup [.loc 45,.loc 160]) (.tup [.int i,wayv (prN i)])).sl 112 (.int v)) h':=by
 obtain ⟨two,three,five,ro⟩:=W
 have g1:=E.box; have g2:=E.world; have g3:=E.lo
 have d:=draw_ev (ns:=ns) (n:=3+i) three two (by rw [ro]; exact hasN_skip hnx rfl) rfl hl (by omega) 4 rfl
 rw [hv] at d
 have d:Cl 16 h 73 [.ref 3,.int 4] (.int v) (h.st 3 (bx (3+i+1))):=d
 have five':=at_stO (o':=bx (3+i+1)) (show Nat.beq 3 5=false from rfl) five
 unfold stepP at hs
 cases hz:Nat.beq i lo with
 | true =>
  rw [hz] at hs
  have hs:some (h.st 3 (bx (3+i+1)))=some h':=hs
  cases hs
  have hq:((i:Int)==(lo:Int))=true:=by rw [Nat.eq_of_beq_eq_true hz]; exact beq_self_eq_true _
  ktr_unf
 | false =>
  rw [hz,hk1,hk2] at hs
  have hc:=conn_cl (show conn _ _ _ _ _=some h' from hs)
  have hq:((i:Int)==(lo:Int))=false:=beq_eq_false_iff_ne.mpr fun z=>nbN hz (Int.ofNat.inj z)
  have ⟨ka,kb⟩:=kds_at hv4
  refine Es.asg rfl (by ktr_unf) (Es.ite (q:=true) (by ktr_unf) (Es.expr (Ee.mI (Ee.loc (lk_slO rfl (lk_uO rfl (lk_uO rfl g2)))) five' rfl rfl (El.c (by ktr_unf) (El.c (by ktr_unf) (El.c (by ktr_unf) (El.c (by ktr_unf) El.nil)))) (hc.up rfl)) Es.nil) (Sk.nx Es.nil))
open L2
structure Built (W:Wd) (ns:List Int) (J:AH):Prop where
 rep:WRep W st0 J
 ok:W.Ok
 wf:Wf J
 ro:J.ro=[0]
 two:lk J.ob 2=some (.lst (ns.map .int))
 box:lk J.ob 3=some (bx 6)
 bk:lk J.ob 4=some (.dic [])
 ids:∀ k,W.has k->5<=W.U k
theorem lk_mq {α:Type} {i:Nat} {o:α}:∀ {l:List (Nat×α)},lk l i=some o->∃ p,p∈l/\p.1=i
 | [],h=>nomatch h
 | p::l,h=>match q:Nat.beq p.1 i with
  | true=>⟨p,.head _,Nat.eq_of_beq_eq_true q⟩
  | false=>(lk_mq (l:=l) (by
   have h':(match Nat.beq p.1 i with | true=>some p.2 | false=>lk l i)=some o:=h
   rw [q] at h'; exact h')).imp fun _ h=>⟨.tail _ h.1,h.2⟩
noncomputable abbrev Goes (ns:List Int) (c:Nat) (tw:Bool) (lo:Nat) (k:Kds) (h:AH):Prop:=∃ g1 g2 g3 h7 h8 U,stepP lo k 0 (h4 h)=some g1/\stepP lo k 1 g1=some g2/\stepP lo k 2 g2=some g3/\Way ns 3 h.nx (h4 h)/\Way ns 4 h.nx g1/\Way ns 5 h.nx g2/\Way ns 6 h.nx g3/\conn 177 81 true false (g3.wr [0])=some h7/\lk h7.ob 5=some atts/\cond tw (conn 207 81 true false h7) (some h7)=some h8/\U .me=5/\Built (wdI U c (sesI tw lo k)) ns h8
theorem saw_way {ns:List Int} {n nx:Nat} {x:Option AH} (h:([lk (gO x).ob 2,lk (gO x).ob 3,lk (gO x).ob 5],x,(gO x).ro)=([some (.lst (ns.map .int)),some (bx n),some atts],some (gO x),[nx,0])):∃ g,x=some g/\Way ns n nx g:=by
 have ⟨h1,h2⟩:=Prod.mk.inj h
 have ⟨h2,h3⟩:=Prod.mk.inj h2
 have ⟨a1,h1⟩:=List.cons.inj h1
 have ⟨a2,h1⟩:=List.cons.inj h1
 exact ⟨_,h2,a1,a2,(List.cons.inj h1).1,h3⟩
theorem wf_of {h8:AH} {o:AO} (a2:(h8.ob.all fun p=>Nat.blt p.1 h8.nx)=true) (r8:h8.ro=[0]) (f84:lk h8.ob 4=some o):Wf h8 :=
 have hob:∀ i o,lk h8.ob i=some o->i < h8.nx:=fun i o e=>(lk_mq e).elim fun p hp=>Nat.le_of_ble_eq_true (hp.2▸allK' a2 hp.1)
 ⟨hob,fun i hi=>by
  rw [r8] at hi
  have:0=i:=Nat.eq_of_beq_eq_true ((boolK (F:=fun b=>(match b with | true=>true | false=>false)=b) rfl rfl).symm.trans hi)
  exact this▸Nat.lt_of_le_of_lt (Nat.zero_le 4) (hob 4 _ f84)⟩
theorem goes_of {ns:List Int} {c:Nat} {tw:Bool} {lo:Nat} (ht:(tw,lo)∈tops) {k:Kds} {h:AH} {x1 x2 x3 x7 x8:Option AH} (b1:x1=stepP lo k 0 (h4 h)) (b2:x2=x1.bind (stepP lo k 1)) (b3:x3=x2.bind (stepP lo k 2)) (b7:x7=x3.bind fun h=>conn 177 81 true false (h.wr [0])) (b8:x8=x7.bind fun h=>cond tw (conn 207 81 true false h) (some h))
  (B:seesP (ns.map .int) c k tw lo h.nx (some (h4 h)) x1 x2 x3 x7 x8):Goes ns c tw lo k h:=by
 refine split8 B fun q c7 f7 c8 r8 f8 rep h5=>?_
 clear B
 refine consK q fun q0 q=>?_
 refine consK q fun q1 q=>?_
 refine consK q fun q2 q=>?_
 have q3:=(List.cons.inj q).1
 obtain ⟨g0,z0,w0⟩:=saw_way q0
 cases z0
 obtain ⟨g1,rfl,w1⟩:=saw_way q1
 obtain ⟨g2,rfl,w2⟩:=saw_way q2
 obtain ⟨g3,rfl,w3⟩:=saw_way q3
 refine consK f8 fun f82 f8=>?_
 refine consK f8 fun f83 f8=>?_
 have f84:=(List.cons.inj f8).1
 clear q q0 q1 q2 q3
 cases x7 with
 | none=>exact nomatch c7
 | some h7 =>
  cases x8 with
  | none=>exact nomatch c8
  | some h8 =>
   exact andK h5 fun a1 h5=>andK h5 fun a2 a3=>⟨g1,g2,g3,h7,h8,rdW h8 5,b1.symm,b2.symm,b3.symm,w0,w1,w2,w3,b7.symm,f7,b8.symm,rfl,fun k hk=>map_at rep k (keysW_has _ k hk),wd_ok ht a1,wf_of a2 r8 f84,r8,f82,f83,f84,fun k hk=>Nat.le_of_ble_eq_true (allK' a3 (keysW_has _ k hk))⟩
theorem goes {Sc:List AV} {ns:List Int} {c:Nat} {tw:Bool} {lo:Nat} (ht:(tw,lo)∈tops) (k:Kds) {fr:FrA} {h:AH} (A:Added Sc (ns.map .int) c fr h):Goes ns c tw lo k h:=by
 have B:=seesB_all Sc (ns.map .int) c k _ ht
 unfold seesB at B
 have b0:HP Sc (ns.map .int) c lo k 0=(R3 Sc (ns.map .int) c).map fun s=>h4 s.2:=rfl
 have b1:HP Sc (ns.map .int) c lo k 1=(HP Sc (ns.map .int) c lo k 0).bind (stepP lo k 0):=rfl
 have b2:HP Sc (ns.map .int) c lo k 2=(HP Sc (ns.map .int) c lo k 1).bind (stepP lo k 1):=rfl
 have b3:HP Sc (ns.map .int) c lo k 3=(HP Sc (ns.map .int) c lo k 2).bind (stepP lo k 2):=rfl
 have b7:H7 Sc (ns.map .int) c lo k=(HP Sc (ns.map .int) c lo k 3).bind fun h=>conn 177 81 true false (h.wr [0]):=rfl
 have b8:H8 Sc (ns.map .int) c lo k tw=(H7 Sc (ns.map .int) c lo k).bind fun h=>cond tw (conn 207 81 true false h) (some h):=rfl
 have bx3:(hO (R3 Sc (ns.map .int) c)).nx=h.nx:=by rw [A.is]; rfl
 rw [A.is] at b0
 rw [bx3] at B
 have b0:HP Sc (ns.map .int) c lo k 0=some (h4 h):=b0
 rw [b0] at B b1
 have b1:HP Sc (ns.map .int) c lo k 1=stepP lo k 0 (h4 h):=b1
 exact goes_of ht b1 b2 b3 b7 b8 B
theorem pairs_ev {ns:List Int} (hl:ns.length<=100) {tw:Bool} {lo:Nat} {fr:FrA} (E0:FrW tw lo fr) {g0 g1 g2 g3:AH} {nx:Nat} (hnx:Nat.beq nx 3=false) (w0:Way ns 3 nx g0) (w1:Way ns 4 nx g1) (w2:Way ns 5 nx g2) {v0 v1 v2:Nat} (s0:stepP lo ⟨kdA v0,kdB v0,kdA v1,kdB v1,kdA v2,kdB v2⟩ 0 g0=some g1) (s1:stepP lo ⟨kdA v0,kdB v0,kdA v1,kdB v1,kdA v2,kdB v2⟩ 1 g1=some g2) (s2:stepP lo ⟨kdA v0,kdB v0,kdA v1,kdB v1,kdA v2,kdB v2⟩ 2 g2=some g3)
  (hv0:drawV ns 3 4=v0) (h04:v0 < 4) (hv1:drawV ns 4 4=v1) (h14:v1 < 4) (hv2:drawV ns 5 4=v2) (h24:v2 < 4):∃ fr',Ef 120 fr g0 (.tup [.loc 45,.loc 160]) [(.asg 112 (.callF 73 [(.loc 52),(.cst (.int (4)))])),(.ite (.cmp (.loc 45) .ne (.loc 121)) [(.expr (.meth (.loc 237) 69 [(.sub (.loc 160) (.cst (.int (0)))),(.sub (.loc 160) (.cst (.int (1)))),(.sub (.lst [(.cst (.str 95)),(.cst (.str 61))]) (.bin (.loc 112) .mod (.cst (.int (2))))),(.sub (.lst [(.cst (.str 95)),(.cst (.str 61))]) (.bin (.loc 112) .fdiv (.cst (.int (2)))))]))] [])] [.tup [.int (0:Nat),wayv (prN 0)],.tup [.int (1:Nat),wayv (prN 1)],.tup [.int (2:Nat),wayv (prN 2)]] .next fr' g3/\FrW tw lo fr':=by
 have p0:=pair_ev hl (i:=0) E0 hnx w0 (by decide) s0 hv0 h04 rfl rfl
 have E1:=E0.bt (.int (0:Nat)) (wayv (prN 0)) (.int v0)
 generalize hF:(fr.bT (.tup [.loc 45,.loc 160]) (.tup [.int (0:Nat),wayv (prN 0)])).sl 112 (.int v0)=F at p0 E1
 have p1:=pair_ev hl (i:=1) E1 hnx w1 (by decide) s1 hv1 h14 rfl rfl
 have E2:=E1.bt (.int (1:Nat)) (wayv (prN 1)) (.int v1)
 generalize hG:(F.bT (.tup [.loc 45,.loc 160]) (.tup [.int (1:Nat),wayv (prN 1)])).sl 112 (.int v1)=G at p1 E2
 exact ⟨_,Ef.k rfl p0 (Fk.nx (Ef.k rfl p1 (Fk.nx (Ef.k rfl (pair_ev hl (i:=2) E2 hnx w2 (by decide) s2 hv2 h24 rfl rfl) (Fk.nx Ef.nil))))),E2.bt _ _ _⟩
noncomputable abbrev WorldB (Sc:List AV) (ns:List Int):Prop:=∃ (tw:Bool) (lo c:Nat) (k:Kds) (U:WKey->Nat) (J:AH),(tw,lo)∈tops/\c < 3/\Cl 140 (hB Sc (ns.map .int)) 74 [.ref 3] (.ref (U .me)) J/\Built (wdI U c (sesI tw lo k)) ns J
theorem world_ev (Sc:List AV) (ns:List Int) (hl:ns.length<=100):WorldB Sc ns:=by
 obtain ⟨c,hc,hc3⟩:=drawV_nat ns 0 3 (many:=3) rfl (by decide)
 obtain ⟨fr,h,A⟩:=names_loop Sc ns hl hc
 obtain ⟨u,hu,hu3⟩:=drawV_nat ns 1 3 (many:=3) rfl (by decide)
 obtain ⟨tw,htw⟩:∃ tw,((u:Int)==0)=tw:=⟨_,rfl⟩
 obtain ⟨lo,hlo,ht⟩:∃ lo:Nat,drawV ns 2 (cond tw 3 4)=lo/\(tw,lo)∈tops:=by
  cases tw with
  | true =>
   obtain ⟨lo,e,hl⟩:=drawV_nat ns 2 3 (many:=3) rfl (by decide)
   exact ⟨lo,e,(by decide:∀ u < 3,(true,u)∈tops) lo hl⟩
  | false =>
   obtain ⟨lo,e,hl⟩:=drawV_nat ns 2 4 (many:=4) rfl (by decide)
   exact ⟨lo,e,(by decide:∀ u < 4,(false,u)∈tops) lo hl⟩
 obtain ⟨v0,hv0,h04⟩:=drawV_nat ns 3 4 (many:=4) rfl (by decide)
 obtain ⟨v1,hv1,h14⟩:=drawV_nat ns 4 4 (many:=4) rfl (by decide)
 obtain ⟨v2,hv2,h24⟩:=drawV_nat ns 5 4 (many:=4) rfl (by decide)
 refine x6c12 ((goes ht ⟨kdA v0,kdB v0,kdA v1,kdB v1,kdA v2,kdB v2⟩ A)) fun g1 g2 g3 h7 h8 U s0 s1 s2 w0 w1 w2 w3 e7 f7 e8 hme B=>?_
 refine ⟨tw,lo,c,_,U,h8,ht,hc3,?_,B⟩
 rw [hme]
 obtain ⟨⟨f0,h0,r0,ro0,L⟩,_,box,world,two,three,five,ro,nx⟩:=A
 have hnx:Nat.beq h.nx 3=false:=nbF (Nat.ne_of_gt (Nat.lt_of_lt_of_le (by decide) (Nat.le_of_ble_eq_true nx)))
 have d1:=draw_ev (J:=h.wr [0]) (ns:=ns) (n:=1) three two rfl rfl hl (by decide) 3 rfl
 rw [hu] at d1
 have d1:Cl 16 (h.wr [0]) 73 [.ref 3,.int 3] (.int u) ((h.wr [0]).st 3 (bx 2)):=d1
 have d2:=draw_ev (J:=(h.wr [0]).st 3 (bx 2)) (ns:=ns) (n:=2) at_st (at_stO rfl two) rfl rfl hl (by decide) (cond tw 3 4) (by cases tw <;> rfl)
 rw [hlo] at d2
 have d2:Cl 16 ((h.wr [0]).st 3 (bx 2)) 73 [.ref 3,.int (cond tw 3 4)] (.int lo) (((h.wr [0]).st 3 (bx 2)).st 3 (bx 3)):=d2
 have x1:Ee 130 fr (h.wr [0]) (.cmp (.callF 73 [.loc 52,.cst (.int 3)]) .eq (.cst (.int 0))) (.bool tw) ((h.wr [0]).st 3 (bx 2)):=Ee.cmp (Ee.callF (El.c (Ee.loc box) (El.c Ee.cst El.nil)) (d1.up rfl)) Ee.cst (cv_ii htw)
 have b2:lk (fr.sl 104 (.bool tw)).loc 104=some (.bool tw):=lk_sl
 have b3:lk (fr.sl 104 (.bool tw)).loc 52=some (.ref 3):=lk_slO rfl box
 have x2:Ee 130 (fr.sl 104 (.bool tw)) ((h.wr [0]).st 3 (bx 2)) (.callF 73 [.loc 52,.ite (.loc 104) (.cst (.int 3)) (.cst (.int 4))]) (.int lo) (((h.wr [0]).st 3 (bx 2)).st 3 (bx 3)):=by
  cases tw
  ·exact Ee.callF (El.c (Ee.loc b3) (El.c (Ee.ite (Et.loc (Ee.loc b2)) Ee.cst) El.nil)) (d2.up rfl)
  ·exact Ee.callF (El.c (Ee.loc b3) (El.c (Ee.ite (Et.loc (Ee.loc b2)) Ee.cst) El.nil)) (d2.up rfl)
 have E0:FrW tw lo ((fr.sl 104 (.bool tw)).sl 121 (.int lo)):=⟨lk_slO rfl b3,lk_slO rfl (lk_slO rfl world),lk_slO rfl b2,lk_sl⟩
 refine x1c2 (pairs_ev hl E0 hnx w0 w1 w2 s0 s1 s2 hv0 h04 hv1 h14 hv2 h24) fun f9 P E3=>?_
 have c7:=conn_cl e7
 have five3:lk (g3.wr [0]).ob 5=some atts:=w3.five
 have bw:=E3.world; have bt:=E3.tw
 have m1:Em 130 f9 (g3.wr [0]) (wS 5) .next f9 h7:=Em.expr (Ee.mI (Ee.loc bw) five3 rfl rfl (El.c Ee.cst (El.c Ee.cst (El.c Ee.cst (El.c Ee.cst El.nil)))) (c7.up rfl))
 have m2:Em 130 f9 h7 (wS 6) .next f9 h8:=by
  cases tw with
  | false =>
   have e8:some h7=some h8:=e8
   cases e8
   exact Em.ite (Et.loc (Ee.loc bt)) Es.nil
  | true=>exact Em.ite (Et.loc (Ee.loc bt)) (Es.expr (Ee.mI (Ee.loc bw) f7 rfl rfl (El.c Ee.cst (El.c Ee.cst (El.c Ee.cst (El.c Ee.cst El.nil)))) ((conn_cl e8).up rfl)) Es.nil)
 have tail:Es 131 fr (h.wr [0]) [wS 2,wS 3,wS 4,wS 5,wS 6,wS 7] (.ret (.ref 5)) f9 h8 :=
  Es.asg rfl x1 (Es.asg rfl x2 (Es.for_ (h1:=(((h.wr [0]).st 3 (bx 2)).st 3 (bx 3)).ad (.lst pairsV)) (Ei.enum (Ee.lst (El.c (Ee.tup (El.c Ee.cst (El.c Ee.cst El.nil))) (El.c (Ee.tup (El.c Ee.cst (El.c Ee.cst El.nil))) (El.c (Ee.tup (El.c Ee.cst (El.c Ee.cst El.nil))) El.nil)))) (lo_lst at_new)) (P.up rfl) (Sk.nx (Es.c (m1.up (m:=131) (by decide)) (Es.c (m2.up (m:=131) (by decide)) (Es.ret (Ee.loc bw)))))))
 have head:=rn_es (show rn [wS 0] _=_ from r0)
 have all:Es 139 ⟨[(52,.ref 3)],[]⟩ (hB Sc (ns.map .int)) ([wS 0]++[wS 1,wS 2,wS 3,wS 4,wS 5,wS 6,wS 7]) (.ret (.ref 5)) f9 h8 :=
  Es.app (head.up (by decide)) (Es.for_ (Ei.enum (Ee.callF El.nil ((names_ev h0).up rfl)) (lo_lst at_new)) (L.up rfl) (Sk.nx (show Es _ fr (h.wr h0.ro) _ _ _ _ by rw [ro0]; exact tail.up (by decide))))
 exact Cl.mk (F:=f__law_world) rfl rfl all rfl
open L2
theorem best_ev {s:Sp} {x:SpSt} {J:AH} (R:SpRep s x J):Cl 10 J 49 [.ref (s.U .me),pre] ((x.cho.map Rt.v).getD .none) J:=by
 have e:=R.me; have e2:=R.chosen
 have f:=pre_fit (x.cho.map Rt.v); have g:=pre_get (x.cho.map Rt.v)
 have z:∀ o:Option Rt,((o.map Rt.v).getD .none).r?=none:=optF rfl fun _=>rfl
 apply Cl.mk (F:=f_Chooser_best) rfl rfl; ktr_unf
 exact cr0 (fz_r (z _))
noncomputable def rowO (x:SpSt):AV:=(x.cho.map fun r=>rowT r.c).getD .none
theorem row_ev {W:Wd} (o:W.Ok) {x:WSt} {J:AH} (R:WRep W x J) {a:Nat} (ha:a∈W.ns):Cl 16 J 80 [.ref (W.U .me),.str a] (rowO (x.st a)) J:=by
 have e:=R.me; have e1:=R.speakers
 have f1:=byNm_get (W:=W) (.sp · .me) ha; have f2:=byNm_fit W (.sp · .me) a
 have S:=R.sp o ha
 have hb:=best_ev S
 have e4:=S.me
 rw [o.spU] at hb e4
 unfold rowO
 cases hc:(x.st a).cho with
 | none =>
  rw [hc] at hb
  apply Cl.mk (F:=f__law_row) rfl rfl; ktr_unf
 | some r =>
  rw [hc] at hb
  apply Cl.mk (F:=f__law_row) rfl rfl; ktr_unf
noncomputable def onesL (p:Row):List (AV×AV):=p.map fun n=>(natV n,.bool true)
theorem pairsOf_nats:∀ p:Row,pairsOf (p.map fun n=>.tup [natV n,.bool true])=some (onesL p)
 | []=>rfl
 | a::p=>bm (o:=pairsOf (p.map fun n=>.tup [natV n,.bool true])) (f:=((natV a,AV.bool true)::·)) (pairsOf_nats p)
theorem dset_nat (n:Nat):∀ d:Row,n∉d->dset (natV n) (.bool true) (onesL d)=onesL (d++[n])
 | [],_=>rfl
 | a::d,h=>bf (b:=eqB (natV a) (natV n)) ((eqB_nat a n).trans (decide_eq_false fun z=>h (z▸.head _))) (congrArg (_::·) (dset_nat n d fun z=>h (.tail _ z)))
theorem kfit_ones (a:Nat):∀ d:Row,kfit (natV a) (onesL d)=true
 | []=>rfl
 | _::_=>rfl
theorem dsets_nats:∀ (p d:Row),(d++p).Nodup->dsets (onesL p) (onesL d)=some (onesL (d++p)):=by
 intro p
 induction p with
 | nil =>
  intro d _
  exact congrArg (fun l=>some (onesL l)) (List.append_nil d).symm
 | cons a p ih =>
  intro d h
  exact bc (kfit_ones a d) (by
   have ha:a∉d:=fun z=>(List.nodup_append.mp h).2.2 a z a (.head _) rfl
   have e:d++a::p=(d++[a])++p:=(List.append_assoc d [a] p).symm
   rw [dset_nat a d ha,e]
   exact ih (d++[a]) (e▸h))
noncomputable abbrev Bk:=List (Nat×Row)
noncomputable def bkV (q:Nat×Row):AV:=.tup [.str q.1,rowT q.2]
noncomputable def bookL (bk:Bk):List (AV×AV):=bk.map fun q=>(bkV q,.bool true)
theorem eqB_bk (a b:Nat×Row):eqB (bkV a) (bkV b)=decide (a=b):=by
 show (Nat.beq a.1 b.1&&(eqBs (a.2.map natV) (b.2.map natV)&&true))=_
 rw [eqBs_nats,Bool.and_true]
 cases e:Nat.beq a.1 b.1 with
 | true=>exact decide_eq_decide.mpr ⟨fun h=>Prod.ext (Nat.eq_of_beq_eq_true e) h,fun h=>congrArg Prod.snd h⟩
 | false=>exact (decide_eq_false fun h=>nbN e (congrArg Prod.fst h)).symm
theorem dget_bk (p:Nat×Row):∀ {bk:Bk},p∈bk->dget (bkV p) (bookL bk)=some (.bool true):=by
 intro bk
 induction bk with
 | nil=>exact fun h=>nomatch h
 | cons a bk ih =>
  intro h
  show cond (eqB (bkV a) (bkV p)) (some (.bool true)) (dget (bkV p) (bookL bk))=_
  rw [eqB_bk]
  by_cases q:a=p
  ·rw [decide_eq_true q]; rfl
  ·rw [decide_eq_false q]
   exact ih ((List.mem_cons.mp h).resolve_left fun z=>q z.symm)
theorem key_bk (p:Nat×Row):∀ bk:Bk,kfit (bkV p) (bookL bk)=true :=
 kf_map (key:=bkV) (show (true&&((p.2.map natV).all (fun v=>lev (fun v=>Nat.blt v.kd 2) 2 v)&&true))=true by rw [all_m (fun _=>rfl)]; rfl) (fun _=>rfl)
noncomputable def addB (bk:Bk) (p:Nat×Row):Bk:=if p∈bk then bk else bk++[p]
theorem dset_book (p:Nat×Row) (bk:Bk):dset (bkV p) (.bool true) (bookL bk)=bookL (addB bk p):=by
 induction bk with
 | nil=>exact rfl
 | cons a bk ih =>
  show cond (eqB (bkV a) (bkV p)) ((bkV a,AV.bool true)::bookL bk) ((bkV a,AV.bool true)::dset (bkV p) (.bool true) (bookL bk))=_
  rw [eqB_bk,ih]
  unfold addB
  by_cases e:a=p
  ·rw [decide_eq_true e,if_pos (List.mem_cons.mpr (.inl e.symm))]; rfl
  ·rw [decide_eq_false e]
   by_cases e2:p∈bk
   ·rw [if_pos e2,if_pos (.tail _ e2)]; rfl
   ·rw [if_neg e2,if_neg fun z=>(List.mem_cons.mp z).elim (fun z=>e z.symm) e2]; rfl
theorem mem_addB {bk:Bk} {p q:Nat×Row}:q∈addB bk p ↔ q∈bk∨q=p:=by
 unfold addB
 by_cases e:p∈bk
 ·rw [if_pos e]; exact ⟨.inl,fun z=>z.elim id fun z=>z▸e⟩
 ·rw [if_neg e]; exact ⟨fun z=>(List.mem_append.mp z).imp_right List.mem_singleton.mp,fun z=>List.mem_append.mpr (z.imp_right List.mem_singleton.mpr)⟩
theorem len_addB (bk:Bk) (p:Nat×Row):(addB bk p).length<=bk.length+1:=by
 unfold addB
 by_cases e:p∈bk
 ·rw [if_pos e]; exact Nat.le_succ _
 ·rw [if_neg e,List.length_append]; exact Nat.le_refl _
open L2
structure Held (W:Wd) (bk:Bk) (a:Nat) (r:Rt):Prop where
 nd:r.c.Nodup
 out:(W.sp a).cl∉r.c
 len:r.row.length<=100
 how:(r.no=none/\a=81)∨(a≠81/\∃ q∈W.nb a,r.no=some q.2.no/\((r.row=[]/\q.1=81)∨(q.1≠81/\q.1∈W.ns/\∃ row,r.row=(W.sp q.1).cl::row/\(q.1,row)∈bk)))
theorem cv_ss {h:AH} {a b:Nat} {q:Bool} (e:Nat.beq a b=q):cmpv h (.str a) .eq (.str b)=some q:=congrArg some e
theorem in_ne {h:AH} {b:Nat} (e:Nat.beq b 81=false):cmpv h (.str b) .inn (.tup [.none,.str 81])=some false:=by
 show some (false||(Nat.beq 81 b||false))=_
 rw [nbS e]; rfl
theorem rt_q0 (h:AH) (c:Nat) (r:Row):cmpv h (rowT (c::r)) .eq (.tup [])=some false/\cmpv h (rowT (c::r)) .ne (.tup [])=some true:=by
 have e:eqv (rowT (c::r)) (.tup [])=some false:=by
  unfold eqv
  rw [dat_row]; rfl
 exact ⟨e,congrArg (fun o:Option Bool=>o.map (!·)) e⟩
noncomputable def AH.ones (J:AH) (c:Row):AH:=(J.ad (.lst (c.map fun n=>.tup [natV n,.bool true]))).ad (.dic (onesL c))
theorem ones_ch {J:AH} (w:Wf J) (c:Row):Ch [] J (J.ones c):=(Ch.new w _).ad _
section
variable {fr:FrA} {J:AH} {r:Rt} {a b sp ow:Nat} {c cl:Nat} {row:Row}
theorem q1a (h1:lk fr.loc 139=some (.str 81)) (h2:lk fr.loc 212=some .none) (h3:lk fr.loc 180=some r.v):Et 59 fr J (.or [(.cmp (.cmp (.loc 139) .eq (.cst (.str 81))) .ne (.cmp (.loc 212) .is (.cst .none))),(.cmp (.sub (.sub (.loc 180) (.cst (.int (1)))) (.cst (.str 44))) .ne (.tup [])),(.cmp (.sub (.sub (.loc 180) (.cst (.int (1)))) (.cst (.str 142))) .ne (.cst (.int (11))))]) false J:=by ktr_unf
theorem q1b (ha:Nat.beq a 81=false) (h1:lk fr.loc 139=some (.str a)) (h2:lk fr.loc 212=some (.str b)) (h3:lk fr.loc 180=some r.v):Et 59 fr J (.or [(.cmp (.cmp (.loc 139) .eq (.cst (.str 81))) .ne (.cmp (.loc 212) .is (.cst .none))),(.cmp (.sub (.sub (.loc 180) (.cst (.int (1)))) (.cst (.str 44))) .ne (.tup [])),(.cmp (.sub (.sub (.loc 180) (.cst (.int (1)))) (.cst (.str 142))) .ne (.cst (.int (11))))]) false J:=by
 have h:=cv_ss (h:=J) ha
 ktr_unf
theorem q2 (nd:r.c.Nodup) (hl:r.c.length<=100) (h2:lk fr.loc 191=some (rowT r.c)) (h3:lk fr.loc 180=some r.v):Et 59 fr J (.or [(.cmp (.meth (.sub (.loc 180) (.cst (.int (1)))) 89 [(.cst (.str 126)),(.cst (.int (100)))]) .ne (.cst (.int (100)))),(.cmp (.callB .len (.callB .dict (.comp (.tup [(.loc 148),(.cst (.bool true))]) [(.mk (.loc 148) (.of (.loc 191)) [])]))) .ne (.callB .len (.loc 191)))]) false (J.ones r.c):=by
 have hml:(r.c.map natV).length=r.c.length:=List.length_map ..
 have hf:few (r.c.map natV).length=true:=few_ok (by omega)
 have hps:=pairsOf_nats r.c
 have hds:dsets (onesL r.c) []=some (onesL r.c):=dsets_nats r.c [] nd
 have hol:((onesL r.c).map (·.1)).length=r.c.length:=(List.length_map ..).trans (show (r.c.map _).length=_ from List.length_map ..)
 have hf1:few ((onesL r.c).map (·.1)).length=true:=few_ok (by omega)
 have he1:((((onesL r.c).map (·.1)).length:Int)==((r.c.map natV).length:Int))=true:=beq_iff_eq.mpr (by rw [hol,hml])
 have k:Ek 20 fr J (.tup [.loc 148,.cst (.bool true)]) [.mk (.loc 148) (.of (.loc 191)) []] (.ref J.nx) (J.ad (.lst (r.c.map fun n=>.tup [natV n,.bool true]))) :=
  Ek_all (lo:=[]) natV (fun n=>.tup [natV n,.bool true]) rfl (Ei.of (v:=rowT r.c) (Ee.loc h2) rfl) (by omega) (fun n _=>by ktr_unf)
 have hz:((100:Int)==100)=true:=rfl
 clear nd hl hml hol
 ktr_unf
theorem q3 (h4:lk fr.loc 202=some (.ref sp)) {d:List (Nat×AV)} {C:Nat} (e1:lk J.ob sp=some (.ins C d)) (e2:lk d 159=some (.ref ow)) {s:Sp} (e3:lk J.ob ow=some (ownAO s)) (hn:s.cl∉r.c) (h2:lk fr.loc 191=some (rowT r.c)) (h3:lk fr.loc 180=some r.v):Et 59 fr J (.or [(.cmp (.sub (.attr (.loc 202) 159) (.cst (.str 62))) .inn (.loc 191)),(.cmp (.meth (.sub (.loc 180) (.cst (.int (1)))) 89 [(.cst (.str 152))]) .ne (.ite (.cmp (.loc 191) .eq (.tup [])) (.cst .none) (.cst (.int (5)))))]) false J:=by
 have hi:=inv_nats s.cl r.c
 rw [Bool.eq_false_iff.mpr fun z=>hn (List.contains_iff_mem.mp z)] at hi
 have hi1:cmpv J (natV s.cl) .inn (rowT r.c)=some false:=hi
 clear hn hi
 obtain ⟨row,no,now⟩:=r
 cases no with
 | none=>ktr_unf
 | some n =>
  cases row with
  | nil=>ktr_unf
  | cons c row =>
   have z1:=(rt_q0 J c row).1
   ktr_unf
theorem q4a {tv:AV} (h1:cmpv J tv .inn (.tup [.none,.str 81])=some true) (h2:lk fr.loc 191=some (rowT [])) (h3:lk fr.loc 212=some tv):Et 59 fr J (.cmp (.cmp (.loc 191) .eq (.tup [])) .ne (.cmp (.loc 212) .inn (.tup [(.cst .none),(.cst (.str 81))]))) false J:=by ktr_unf
theorem q4b (h1:cmpv J (.str b) .inn (.tup [.none,.str 81])=some false) (h2:lk fr.loc 191=some (rowT (c::row))) (h3:lk fr.loc 212=some (.str b)):Et 59 fr J (.cmp (.cmp (.loc 191) .eq (.tup [])) .ne (.cmp (.loc 212) .inn (.tup [(.cst .none),(.cst (.str 81))]))) false J:=by
 have z1:=(rt_q0 J c row).1
 ktr_unf
theorem q5a (h2:lk fr.loc 191=some (rowT [])):Et 59 fr J (.and [(.cmp (.loc 191) .ne (.tup [])),(.or [(.cmp (.sub (.loc 191) (.cst (.int (0)))) .ne (.sub (.attr (.sub (.attr (.loc 237) 203) (.loc 212)) 159) (.cst (.str 62)))),(.cmp (.tup [(.loc 212),(.slf (.loc 191) (.cst (.int (1))))]) .notIn (.loc 51))])]) false J:=by ktr_unf
end
theorem q5b {W:Wd} (o:W.Ok) {x:WSt} {bk:Bk} {bi b:Nat} {row:Row} {J:AH} (R:WRep W x J) (hb:b∈W.ns) (hbk:(b,row)∈bk) (hl:row.length<=100) {fr:FrA} (e1:lk J.ob bi=some (.dic (bookL bk))) (h2:lk fr.loc 191=some (rowT ((W.sp b).cl::row))) (h3:lk fr.loc 212=some (.str b)) (h4:lk fr.loc 237=some (.ref (W.U .me))) (h5:lk fr.loc 51=some (.ref bi)):Et 59 fr J (.and [(.cmp (.loc 191) .ne (.tup [])),(.or [(.cmp (.sub (.loc 191) (.cst (.int (0)))) .ne (.sub (.attr (.sub (.attr (.loc 237) 203) (.loc 212)) 159) (.cst (.str 62)))),(.cmp (.tup [(.loc 212),(.slf (.loc 191) (.cst (.int (1))))]) .notIn (.loc 51))])]) false J:=by
 have Sb:=R.sp o hb
 have j4:=Sb.me; have j5:=Sb.own
 have j1:=byNm_get (W:=W) (.sp · .me) hb; have j2:=byNm_fit W (.sp · .me) b
 rw [o.spU] at j4
 have g1:=R.me; have g2:=R.speakers
 have hcc:(((W.sp b).cl:Int)==((W.sp b).cl:Int))=true:=beq_self_eq_true _
 have b2:=dget_bk _ hbk
 have b3:=key_bk (b,row) bk
 have hf:few (((W.sp b).cl::row).map natV).length=true:=few_ok (by rw [List.length_map]; exact ltr (Nat.succ_le_succ hl) (by decide))
 have hsl:(decide ((1:Int)<=1/\(1:Int)<=((((W.sp b).cl::row).map natV).length:Nat))&&few (((W.sp b).cl::row).map natV).length)=true:=Bool.and_eq_true_iff.mpr ⟨decide_eq_true ⟨Int.le_refl _,Int.ofNat_le.mpr (Nat.succ_le_succ (Nat.zero_le _))⟩,hf⟩
 have z2:=(rt_q0 J (W.sp b).cl row).2
 clear hf hl hbk
 ktr_unf
noncomputable def frR (fr:FrA) (a sp:Nat) (r:Rt) (tv:AV):FrA:=(((fr.bT (.loc 139) (.str a)).bW (([191,202]:List Nat).map .loc) ([.ref sp,rowT r.c]:List AV).reverse).sl 180 r.v).sl 212 tv
theorem body_of {G:FrA} {J J':AH} (t1:Et 59 G J (.or [(.cmp (.cmp (.loc 139) .eq (.cst (.str 81))) .ne (.cmp (.loc 212) .is (.cst .none))),(.cmp (.sub (.sub (.loc 180) (.cst (.int (1)))) (.cst (.str 44))) .ne (.tup [])),(.cmp (.sub (.sub (.loc 180) (.cst (.int (1)))) (.cst (.str 142))) .ne (.cst (.int (11))))]) false J) (t2:Et 59 G J (.or [(.cmp (.meth (.sub (.loc 180) (.cst (.int (1)))) 89 [(.cst (.str 126)),(.cst (.int (100)))]) .ne (.cst (.int (100)))),(.cmp (.callB .len (.callB .dict (.comp (.tup [(.loc 148),(.cst (.bool true))]) [(.mk (.loc 148) (.of (.loc 191)) [])]))) .ne (.callB .len (.loc 191)))]) false J') (t3:Et 59 G J' (.or [(.cmp (.sub (.attr (.loc 202) 159) (.cst (.str 62))) .inn (.loc 191)),(.cmp (.meth (.sub (.loc 180) (.cst (.int (1)))) 89 [(.cst (.str 152))]) .ne (.ite (.cmp (.loc 191) .eq (.tup [])) (.cst .none) (.cst (.int (5)))))]) false J') (t4:Et 59 G J' (.cmp (.cmp (.loc 191) .eq (.tup [])) .ne (.cmp (.loc 212) .inn (.tup [(.cst .none),(.cst (.str 81))]))) false J') (t5:Et 59 G J' (.and [(.cmp (.loc 191) .ne (.tup [])),(.or [(.cmp (.sub (.loc 191) (.cst (.int (0)))) .ne (.sub (.attr (.sub (.attr (.loc 237) 203) (.loc 212)) 159) (.cst (.str 62)))),(.cmp (.tup [(.loc 212),(.slf (.loc 191) (.cst (.int (1))))]) .notIn (.loc 51))])]) false J'):Es 60 G J (([(.asgW [191,202] (.tup [(.sub (.attr (.loc 237) 203) (.loc 139)),(.callF 80 [(.loc 237),(.loc 139)])])),(.ite (.cmp (.loc 191) .is (.cst .none)) [.cont] []),(.asg 180 (.meth (.loc 202) 48 [(.glb 22)])),(.asg 212 (.ite (.cmp (.sub (.loc 180) (.cst (.int (2)))) .is (.cst .none)) (.cst .none) (.meth (.loc 237) 165 [(.loc 139),(.sub (.loc 180) (.cst (.int (2))))]))),(.ite (.or [(.cmp (.cmp (.loc 139) .eq (.cst (.str 81))) .ne (.cmp (.loc 212) .is (.cst .none))),(.cmp (.sub (.sub (.loc 180) (.cst (.int (1)))) (.cst (.str 44))) .ne (.tup [])),(.cmp (.sub (.sub (.loc 180) (.cst (.int (1)))) (.cst (.str 142))) .ne (.cst (.int (11))))]) [(.ret (.cst (.bool false)))] []),(.ite (.or [(.cmp (.meth (.sub (.loc 180) (.cst (.int (1)))) 89 [(.cst (.str 126)),(.cst (.int (100)))]) .ne (.cst (.int (100)))),(.cmp (.callB .len (.callB .dict (.comp (.tup [(.loc 148),(.cst (.bool true))]) [(.mk (.loc 148) (.of (.loc 191)) [])]))) .ne (.callB .len (.loc 191)))]) [(.ret (.cst (.bool false)))] []),(.ite (.or [(.cmp (.sub (.attr (.loc 202) 159) (.cst (.str 62))) .inn (.loc 191)),(.cmp (.meth (.sub (.loc 180) (.cst (.int (1)))) 89 [(.cst (.str 152))]) .ne (.ite (.cmp (.loc 191) .eq (.tup [])) (.cst .none) (.cst (.int (5)))))]) [(.ret (.cst (.bool false)))] []),(.ite (.cmp (.cmp (.loc 191) .eq (.tup [])) .ne (.cmp (.loc 212) .inn (.tup [(.cst .none),(.cst (.str 81))]))) [(.ret (.cst (.bool false)))] []),(.ite (.and [(.cmp (.loc 191) .ne (.tup [])),(.or [(.cmp (.sub (.loc 191) (.cst (.int (0)))) .ne (.sub (.attr (.sub (.attr (.loc 237) 203) (.loc 212)) 159) (.cst (.str 62)))),(.cmp (.tup [(.loc 212),(.slf (.loc 191) (.cst (.int (1))))]) .notIn (.loc 51))])]) [(.ret (.cst (.bool false)))] [])]:List S).drop 4) .next G J' :=
 Es.ite t1 Es.nil (Sk.nx (Es.ite t2 Es.nil (Sk.nx (Es.ite t3 Es.nil (Sk.nx (Es.ite t4 Es.nil (Sk.nx (Es.ite t5 Es.nil (Sk.nx Es.nil)))))))))
noncomputable def rB:List S:=[(.asgW [191,202] (.tup [(.sub (.attr (.loc 237) 203) (.loc 139)),(.callF 80 [(.loc 237),(.loc 139)])])),(.ite (.cmp (.loc 191) .is (.cst .none)) [.cont] []),(.asg 180 (.meth (.loc 202) 48 [(.glb 22)])),(.asg 212 (.ite (.cmp (.sub (.loc 180) (.cst (.int (2)))) .is (.cst .none)) (.cst .none) (.meth (.loc 237) 165 [(.loc 139),(.sub (.loc 180) (.cst (.int (2))))]))),(.ite (.or [(.cmp (.cmp (.loc 139) .eq (.cst (.str 81))) .ne (.cmp (.loc 212) .is (.cst .none))),(.cmp (.sub (.sub (.loc 180) (.cst (.int (1)))) (.cst (.str 44))) .ne (.tup [])),(.cmp (.sub (.sub (.loc 180) (.cst (.int (1)))) (.cst (.str 142))) .ne (.cst (.int (11))))]) [(.ret (.cst (.bool false)))] []),(.ite (.or [(.cmp (.meth (.sub (.loc 180) (.cst (.int (1)))) 89 [(.cst (.str 126)),(.cst (.int (100)))]) .ne (.cst (.int (100)))),(.cmp (.callB .len (.callB .dict (.comp (.tup [(.loc 148),(.cst (.bool true))]) [(.mk (.loc 148) (.of (.loc 191)) [])]))) .ne (.callB .len (.loc 191)))]) [(.ret (.cst (.bool false)))] []),(.ite (.or [(.cmp (.sub (.attr (.loc 202) 159) (.cst (.str 62))) .inn (.loc 191)),(.cmp (.meth (.sub (.loc 180) (.cst (.int (1)))) 89 [(.cst (.str 152))]) .ne (.ite (.cmp (.loc 191) .eq (.tup [])) (.cst .none) (.cst (.int (5)))))]) [(.ret (.cst (.bool false)))] []),(.ite (.cmp (.cmp (.loc 191) .eq (.tup [])) .ne (.cmp (.loc 212) .inn (.tup [(.cst .none),(.cst (.str 81))]))) [(.ret (.cst (.bool false)))] []),(.ite (.and [(.cmp (.loc 191) .ne (.tup [])),(.or [(.cmp (.sub (.loc 191) (.cst (.int (0)))) .ne (.sub (.attr (.sub (.attr (.loc 237) 203) (.loc 212)) 159) (.cst (.str 62)))),(.cmp (.tup [(.loc 212),(.slf (.loc 191) (.cst (.int (1))))]) .notIn (.loc 51))])]) [(.ret (.cst (.bool false)))] [])]
section
variable {W:Wd} (o:W.Ok) {x:WSt} {bk:Bk} {bi:Nat} {a:Nat} (ha:a∈W.ns) {fr:FrA} {J:AH} (R:WRep W x J) (h1:lk fr.loc 237=some (.ref (W.U .me)))
include o ha R h1
theorem pair0 {v:AV} (hrow:Cl 16 J 80 [.ref (W.U .me),.str a] v J):El 58 (fr.bT (.loc 139) (.str a)) J [.sub (.attr (.loc 237) 203) (.loc 139),.callF 80 [.loc 237,.loc 139]] [.ref (W.U (.sp a .me)),v] J:=by
 have h2:lk (fr.bT (.loc 139) (.str a)).loc 237=some (.ref (W.U .me)):=lk_slO rfl h1
 have h3:lk (fr.bT (.loc 139) (.str a)).loc 139=some (.str a):=lk_sl
 exact El.c (Ee.sub (n:=57) (Ee.attr (n:=56) (Ee.loc h2) R.me rfl) (Ee.loc h3) (sv_dic R.speakers (byNm_fit W (.sp · .me) a) (byNm_get (W:=W) (.sp · .me) ha))) (El.c (Ee.callF (n:=57) (El.c (Ee.loc h2) (El.c (Ee.loc h3) El.nil)) (hrow.up rfl)) El.nil)
theorem tell_by {r:Rt} (H:Held W bk a r) (w:Wf J) (e1:lk J.ob bi=some (.dic (bookL bk))) {F:FrA} (k5:lk F.loc 180=some r.v) (l3:lk F.loc 139=some (.str a)) (l4:lk F.loc 237=some (.ref (W.U .me))):∃ tv,Ee 59 F J (.ite (.cmp (.sub (.loc 180) (.cst (.int 2))) .is (.cst .none)) (.cst .none) (.meth (.loc 237) 165 [.loc 139,.sub (.loc 180) (.cst (.int 2))])) tv J/\∀ G:FrA,lk G.loc 191=some (rowT r.c)->lk G.loc 212=some tv->lk G.loc 139=some (.str a)->lk G.loc 180=some r.v->lk G.loc 51=some (.ref bi)->lk G.loc 237=some (.ref (W.U .me))->Et 59 G J (.or [(.cmp (.cmp (.loc 139) .eq (.cst (.str 81))) .ne (.cmp (.loc 212) .is (.cst .none))),(.cmp (.sub (.sub (.loc 180) (.cst (.int (1)))) (.cst (.str 44))) .ne (.tup [])),(.cmp (.sub (.sub (.loc 180) (.cst (.int (1)))) (.cst (.str 142))) .ne (.cst (.int (11))))]) false J/\Et 59 G (J.ones r.c) (.cmp (.cmp (.loc 191) .eq (.tup [])) .ne (.cmp (.loc 212) .inn (.tup [(.cst .none),(.cst (.str 81))]))) false (J.ones r.c)/\Et 59 G (J.ones r.c) (.and [(.cmp (.loc 191) .ne (.tup [])),(.or [(.cmp (.sub (.loc 191) (.cst (.int (0)))) .ne (.sub (.attr (.sub (.attr (.loc 237) 203) (.loc 212)) 159) (.cst (.str 62)))),(.cmp (.tup [(.loc 212),(.slf (.loc 191) (.cst (.int (1))))]) .notIn (.loc 51))])]) false (J.ones r.c):=by
 obtain ⟨row,no,now⟩:=r
 rcases H.how with ⟨hn,rfl⟩ | ⟨hae,q,hq,hn,hw⟩
 ·cases hn
  exact ⟨.none,Ee.ite (q:=true) (Et.cmp (n:=57) (Ee.sub (n:=56) (Ee.loc k5) Ee.cst rfl) Ee.cst rfl) Ee.cst,fun G g1 g2 g3 g4 _ _=>⟨q1a g3 g2 g4,q4a rfl g1 g2,q5a g1⟩⟩
 ·cases hn
  refine ⟨.str q.1,Ee.ite (n:=58) (q:=false) (Et.cmp (n:=57) (Ee.sub (n:=56) (Ee.loc k5) Ee.cst rfl) Ee.cst rfl) (Ee.mI (n:=57) (Ee.loc l4) R.me rfl rfl (El.c (Ee.loc l3) (El.c (Ee.sub (n:=56) (Ee.loc k5) Ee.cst rfl) El.nil)) ((peer_name_ev o R w ha hq).up rfl)),fun G g1 g2 g3 g4 g5 g6=>⟨q1b (nbF hae) g3 g2 g4,?_⟩⟩
  rcases hw with ⟨hr,he⟩ | ⟨hbe,hbn,row',hr,hbk⟩
  ·cases hr
   rw [he] at g2
   exact ⟨q4a rfl g1 g2,q5a g1⟩
  ·cases hr
   exact ⟨q4b (in_ne (nbF hbe)) g1 g2,q5b o (R.gr w (ones_ch w _)) hbn hbk (Nat.le_of_succ_le H.len) ((ones_ch w _).at0 w e1) g1 g2 g6 g5⟩
theorem right_some {r:Rt} (hc:(x.st a).cho=some r) (H:Held W bk a r) (w:Wf J) (h2:lk fr.loc 51=some (.ref bi)) (e1:lk J.ob bi=some (.dic (bookL bk))):∃ tv,Es 60 (fr.bT (.loc 139) (.str a)) J rB .next (frR fr a (W.U (.sp a .me)) r tv) (J.ones r.c):=by
 have Sa:=R.sp o ha
 have hb:=best_ev Sa
 have hrow:=row_ev o R ha
 have e4:=Sa.me
 rw [o.spU] at hb e4
 unfold rowO at hrow
 rw [hc] at hrow hb
 have hrow:Cl 16 J 80 [.ref (W.U .me),.str a] (rowT r.c) J:=hrow
 have hb:Cl 10 J 49 [.ref (W.U (.sp a .me)),pre] r.v J:=hb
 have hl:r.c.length<=100:=optF (F:=fun o:Option Int=>(o.elim [] fun _=>r.row:Row).length<=100) (Nat.zero_le _) (fun _=>H.len) r.no
 have C:=ones_ch w r.c
 have R1:=R.gr w C
 have S1:=R1.sp o ha
 have g4:=S1.me
 rw [o.spU] at g4
 have s1:=pair0 o ha R h1 hrow
 unfold frR
 generalize hF:(fr.bT (.loc 139) (.str a)).bW (([191,202]:List Nat).map .loc) ([.ref (W.U (.sp a .me)),rowT r.c]:List AV).reverse=F
 have k1:lk F.loc 191=some (rowT r.c):=hF▸lk_uO rfl (up_same ..)
 have k2:lk F.loc 202=some (.ref (W.U (.sp a .me))):=hF▸up_same ..
 have k3:lk F.loc 139=some (.str a):=hF▸lk_uO rfl (lk_uO rfl (up_same ..))
 have k4:lk F.loc 237=some (.ref (W.U .me)):=hF▸lk_uO rfl (lk_uO rfl (lk_uO rfl h1))
 have k7:lk F.loc 51=some (.ref bi):=hF▸lk_uO rfl (lk_uO rfl (lk_uO rfl h2))
 have nn:Et 59 F J (.cmp (.loc 191) .is (.cst .none)) false J:=Et.cmp (n:=58) (Ee.loc k1) Ee.cst rfl
 have s2:Ee 59 F J (.meth (.loc 202) 48 [.glb 22]) r.v J:=Ee.mI (n:=58) (Ee.loc k2) e4 rfl rfl (El.c (Ee.glb rfl) El.nil) (hb.up rfl)
 have k5:lk (F.sl 180 r.v).loc 180=some r.v:=lk_sl
 have l3:=lk_slO (v:=r.v) (k:=180) rfl k3; have l4:=lk_slO (v:=r.v) (k:=180) rfl k4
 refine x1c2 (tell_by o ha R h1 H w e1 k5 l3 l4) fun tv s3 K=>?_
 have kr:lk ((F.sl 180 r.v).sl 212 tv).loc 191=some (rowT r.c):=lk_slO rfl (lk_slO rfl k1)
 have kv:lk ((F.sl 180 r.v).sl 212 tv).loc 180=some r.v:=lk_slO rfl k5
 obtain ⟨t1,t4,t5⟩:=K _ kr lk_sl (lk_slO rfl l3) kv (lk_slO rfl (lk_slO rfl k7)) (lk_slO rfl l4)
 exact ⟨tv,Es.asgW (n:=59) (Ee.tup s1) rfl (by rw [hF]; exact Es.ite nn Es.nil (Sk.nx (Es.asg rfl s2 (Es.asg rfl s3 (body_of t1 (q2 H.nd hl kr kv) (q3 (lk_slO rfl (lk_slO rfl k2)) g4 rfl S1.own H.out kr kv) t4 t5)))))⟩
theorem right_one (hH:∀ r,(x.st a).cho=some r->Held W bk a r) (w:Wf J) (h2:lk fr.loc 51=some (.ref bi)) (e1:lk J.ob bi=some (.dic (bookL bk))) :
  ∃ fl fr' J',Es 60 (fr.bT (.loc 139) (.str a)) J rB fl fr' J'/\(fl=.next∨fl=.cont)/\lk fr'.loc 237=some (.ref (W.U .me))/\lk fr'.loc 51=some (.ref bi)/\Ch [] J J':=by
 cases hc:(x.st a).cho with
 | none =>
  have hrow:=row_ev o R ha
  unfold rowO at hrow
  rw [hc] at hrow
  have s1:=pair0 o ha R h1 hrow
  refine ⟨.cont,(fr.bT (.loc 139) (.str a)).bW (([191,202]:List Nat).map .loc) ([.ref (W.U (.sp a .me)),.none]:List AV).reverse,J,?_,.inr rfl,lk_uO rfl (lk_uO rfl (lk_uO rfl h1)),lk_uO rfl (lk_uO rfl (lk_uO rfl h2)),Ch.refl w⟩
  exact Es.asgW (n:=59) (Ee.tup s1) rfl (Es.ite (n:=59) (q:=true) (Et.cmp (n:=58) (Ee.loc (lk_uO rfl (up_same ..))) Ee.cst rfl) Es.cont Sk.ct)
 | some r =>
  obtain ⟨tv,K⟩:=right_some o ha R h1 hc (hH r hc) w h2 e1
  exact ⟨.next,_,_,K,.inl rfl,lk_slO rfl (lk_slO rfl (lk_uO rfl (lk_uO rfl (lk_uO rfl h1)))),lk_slO rfl (lk_slO rfl (lk_uO rfl (lk_uO rfl (lk_uO rfl h2)))),ones_ch w r.c⟩
end
open L2
section
variable {W:Wd} (o:W.Ok) {x:WSt} {bk:Bk} {bi:Nat}
include o
theorem right_loop (hH:∀ a∈W.ns,∀ r,(x.st a).cho=some r->Held W bk a r) (qs:List Nat):(∀ q∈qs,q∈W.ns)->∀ (fr:FrA) (J:AH),WRep W x J->Wf J->lk fr.loc 237=some (.ref (W.U .me))->lk fr.loc 51=some (.ref bi)->lk J.ob bi=some (.dic (bookL bk)) ->
  ∃ fr' J',Ef 60 fr J (.loc 139) [(.asgW [191,202] (.tup [(.sub (.attr (.loc 237) 203) (.loc 139)),(.callF 80 [(.loc 237),(.loc 139)])])),(.ite (.cmp (.loc 191) .is (.cst .none)) [.cont] []),(.asg 180 (.meth (.loc 202) 48 [(.glb 22)])),(.asg 212 (.ite (.cmp (.sub (.loc 180) (.cst (.int (2)))) .is (.cst .none)) (.cst .none) (.meth (.loc 237) 165 [(.loc 139),(.sub (.loc 180) (.cst (.int (2))))]))),(.ite (.or [(.cmp (.cmp (.loc 139) .eq (.cst (.str 81))) .ne (.cmp (.loc 212) .is (.cst .none))),(.cmp (.sub (.sub (.loc 180) (.cst (.int (1)))) (.cst (.str 44))) .ne (.tup [])),(.cmp (.sub (.sub (.loc 180) (.cst (.int (1)))) (.cst (.str 142))) .ne (.cst (.int (11))))]) [(.ret (.cst (.bool false)))] []),(.ite (.or [(.cmp (.meth (.sub (.loc 180) (.cst (.int (1)))) 89 [(.cst (.str 126)),(.cst (.int (100)))]) .ne (.cst (.int (100)))),(.cmp (.callB .len (.callB .dict (.comp (.tup [(.loc 148),(.cst (.bool true))]) [(.mk (.loc 148) (.of (.loc 191)) [])]))) .ne (.callB .len (.loc 191)))]) [(.ret (.cst (.bool false)))] []),(.ite (.or [(.cmp (.sub (.attr (.loc 202) 159) (.cst (.str 62))) .inn (.loc 191)),(.cmp (.meth (.sub (.loc 180) (.cst (.int (1)))) 89 [(.cst (.str 152))]) .ne (.ite (.cmp (.loc 191) .eq (.tup [])) (.cst .none) (.cst (.int (5)))))]) [(.ret (.cst (.bool false)))] []),(.ite (.cmp (.cmp (.loc 191) .eq (.tup [])) .ne (.cmp (.loc 212) .inn (.tup [(.cst .none),(.cst (.str 81))]))) [(.ret (.cst (.bool false)))] []),(.ite (.and [(.cmp (.loc 191) .ne (.tup [])),(.or [(.cmp (.sub (.loc 191) (.cst (.int (0)))) .ne (.sub (.attr (.sub (.attr (.loc 237) 203) (.loc 212)) 159) (.cst (.str 62)))),(.cmp (.tup [(.loc 212),(.slf (.loc 191) (.cst (.int (1))))]) .notIn (.loc 51))])]) [(.ret (.cst (.bool false)))] [])] (qs.map .str) .next fr' J'/\lk fr'.loc 237=some (.ref (W.U .me))/\lk fr'.loc 51=some (.ref bi)/\Ch [] J J':=by
 induction qs with
 | nil=>exact fun _ fr J _ w h1 h2 _=>⟨fr,J,Ef.nil,h1,h2,Ch.refl w⟩
 | cons q qs ih =>
  intro hqs fr J R w h1 h2 e
  have hq:=hqs q (.head _)
  refine x3c5 (right_one o hq R h1 (hH q hq) w h2 e) fun fl fr1 J1 E hfl g1 g2 C=>?_
  refine x2c4 (ih (fun b hb=>hqs b (.tail _ hb)) fr1 J1 (R.gr w C) C.wf g1 g2 (C.at0 w e)) fun fr' J' q1 q2 q3 C'=>?_
  refine ⟨fr',J',Ef.k rfl E ?_,q2,q3,C.trans C'⟩
  rcases hfl with rfl | rfl
  ·exact Fk.nx q1
  ·exact Fk.ct q1
structure Grown (W:Wd) (x:WSt) (qs:List Nat) (bk bk':Bk):Prop where
 sub:∀ p∈bk,p∈bk'
 has:∀ q∈qs,∀ r,(x.st q).cho=some r->(q,r.c)∈bk'
 of:∀ p∈bk',p∈bk∨∃ q∈qs,∃ r,(x.st q).cho=some r/\p=(q,r.c)
 len:bk'.length<=bk.length+qs.length
noncomputable abbrev BookL (W:Wd) (x:WSt) (bi:Nat) (qs:List Nat) (bk:Bk) (fr:FrA) (J:AH):Prop:=∃ fr' J' bk',Ef 60 fr J (.loc 139) [(.ite (.cmp (.callF 80 [(.loc 237),(.loc 139)]) .isNot (.cst .none)) [(.asgS (.loc 51) (.tup [(.loc 139),(.callF 80 [(.loc 237),(.loc 139)])]) (.cst (.bool true)))] [])] (qs.map .str) .next fr' J'/\Ch [bi] J J'/\lk J'.ob bi=some (.dic (bookL bk'))/\Grown W x qs bk bk'
theorem book_loop (hbi:∀ k,W.has k->W.U k≠bi) (qs:List Nat):(∀ q∈qs,q∈W.ns)->∀ (bk:Bk) (fr:FrA) (J:AH),WRep W x J->Wf J->hasN J.ro bi=false->lk fr.loc 237=some (.ref (W.U .me))->lk fr.loc 51=some (.ref bi)->lk J.ob bi=some (.dic (bookL bk))->bk.length+qs.length<=900 ->
  BookL W x bi qs bk fr J:=by
 induction qs with
 | nil=>exact fun _ bk fr J _ w _ _ _ e _=>⟨fr,J,bk,Ef.nil,Ch.refl w,e,fun _ z=>z,fun _ z=>(nomatch z),fun _ z=>.inl z,Nat.le_refl _⟩
 | cons q qs ih =>
  intro hqs bk fr J R w hr h1 h2 e hlen
  have hq:=hqs q (.head _)
  rw [List.length_cons] at hlen
  have hrow:=row_ev o R hq
  have next:=fun (bk:Bk) (Jb:AH) (c:Ch [bi] J Jb)=>ih (fun b hb=>hqs b (.tail _ hb)) bk (fr.bT (.loc 139) (.str q)) Jb (RepK.ch R w c fun k hk z=>hbi k hk (List.mem_singleton.mp z)) c.wf (c.cong hr) (lk_slO rfl h1) (lk_slO rfl h2)
  unfold rowO at hrow
  cases hc:(x.st q).cho with
  | none =>
   rw [hc] at hrow
   have hrow:Cl 16 J 80 [.ref (W.U .me),.str q] .none J:=hrow
   refine x3c4 ((next bk J (Ch.refl w) e (Nat.le_of_succ_le hlen))) fun fr' J' bk' q3 c3 e3 g=>?_
   exact ⟨fr',J',bk',Ef.k rfl (by ktr_unf) (Fk.nx q3),c3,e3,g.sub,fun a ha r hr=>by
    rcases List.mem_cons.mp ha with rfl | ha
    ·exact nomatch hc.symm.trans hr
    ·exact g.has a ha r hr,fun p hp=>(g.of p hp).imp_right fun z=>z.imp fun a z=>⟨.tail _ z.1,z.2⟩,Nat.le_succ_of_le g.len⟩
  | some r =>
   rw [hc] at hrow
   have hrow:Cl 16 J 80 [.ref (W.U .me),.str q] (rowT r.c) J:=hrow
   have hd:=dset_book (q,r.c) bk
   have hk:=key_bk (q,r.c) bk
   have hla:=len_addB bk (q,r.c)
   have hl2:(addB bk (q,r.c)).length+qs.length<=bk.length+(qs.length+1):=ltr (Nat.add_le_add_right hla _) (Nat.le_of_eq (Nat.add_right_comm ..))
   have hf:few (dset (bkV (q,r.c)) (.bool true) (bookL bk)).length=true:=hd▸few_ok (ltr (Nat.le_of_eq (List.length_map ..)) (ltr hla (ltr (Nat.add_le_add_left (Nat.succ_le_succ (Nat.zero_le _)) _) (ltr hlen (by decide)))))
   have c2:=(Ch.refl (S:=[bi]) w).st (o':=.dic (dset (bkV (q,r.c)) (.bool true) (bookL bk))) e (.inl (.head _))
   refine x3c4 ((next (addB bk (q,r.c)) _ c2 (at_st.trans (by rw [hd])) (ltr hl2 hlen))) fun fr' J' bk' q3 c3 e3 g=>?_
   exact ⟨fr',J',bk',Ef.k rfl (by ktr_unf) (Fk.nx q3),c2.trans c3,e3,fun p hp=>g.sub p (mem_addB.mpr (.inl hp)),fun a ha r' hr=>by
    rcases List.mem_cons.mp ha with rfl | ha
    ·exact Option.some.inj (hc.symm.trans hr)▸g.sub _ (mem_addB.mpr (.inr rfl))
    ·exact g.has a ha r' hr,fun p hp=>(g.of p hp).elim (fun z=>(mem_addB.mp z).imp_right fun z=>⟨q,.head _,r,hc,z⟩) fun z=>.inr (z.imp fun a z=>⟨.tail _ z.1,z.2⟩),ltr g.len hl2⟩
theorem right_ev (hns:W.ns=names) (hH:∀ a∈W.ns,∀ r,(x.st a).cho=some r->Held W bk a r) {J:AH} (R:WRep W x J) (w:Wf J) (hbi:∀ k,W.has k->W.U k≠bi) (e:lk J.ob bi=some (.dic (bookL bk))) (hr:hasN J.ro bi=false) (hlen:bk.length<=800) :
  ∃ J' bk',Cl 80 J 81 [.ref (W.U .me),.ref bi] (.bool true) J'/\Ch [bi] J J'/\lk J'.ob bi=some (.dic (bookL bk'))/\Grown W x names bk bk':=by
 have c1:=Ch.new (S:=[]) w (.lst (names.map AV.str))
 have hm:∀ q∈names,q∈W.ns:=fun q h=>hns▸h
 refine x2c4 (right_loop o hH names hm (frP (f__law_right).params [.ref (W.U .me),.ref bi]) ((J.ad (.lst (names.map .str))).lock [J.nx]) ((R.gr w c1).lck _) (c1.wf.lock1 (Nat.lt_succ_self _)) rfl rfl (at_old w e)) fun fr1 J2 q1 g1 g2 c2=>?_
 have c2':=c1.trans (c2.lock c1.wf)
 generalize hτ:J2.wr (J.ad (.lst (names.map AV.str))).ro=τ at c2'
 have e2:=c2'.at0 w e
 have c3:=Ch.new (S:=[]) c2'.wf (.lst (names.map AV.str))
 refine x3c4 ((book_loop o (x:=x) (bi:=bi) hbi names hm bk fr1 ((τ.ad (.lst (names.map .str))).lock [τ.nx]) (((R.gr w c2').gr c2'.wf c3).lck _) (c3.wf.lock1 (Nat.lt_succ_self _)) (hasN_skip (c2'.wf.nb e2 (Nat.le_refl _)) (c2'.cong hr)) g1 g2 (at_old c2'.wf e2) (ltr (Nat.add_le_add_right hlen 4) (by decide)))) fun fr2 J4 bk' q2 c4 e4 g=>?_
 have c4':=c2'.gr.trans (c3.gr.trans (c4.lock c3.wf))
 refine ⟨_,bk',Cl.mk (F:=f__law_right) (fl:=.ret (.bool true)) (fr1:=fr2) rfl rfl (Es.for_ (n:=78) (Ei.of (Ee.callF El.nil ((names_ev J).up rfl)) (it_lst at_new)) (q1.up rfl) (Sk.nx ?_)) (cr0 (fz_r rfl)),c4',e4,g⟩
 exact Es.for_ (n:=78) (Ei.of (Ee.callF El.nil (by rw [hτ]; exact (names_ev τ).up rfl)) (it_lst at_new)) (q2.up rfl) (Sk.nx (Es.ret Ee.cst))
end
open L2
structure Topo (W:Wd):Prop where
 ns:W.ns=names
 e:∀ b∈W.ns,isE (W.sp b)=Nat.beq b 81
 adr:∀ b∈W.ns,∀ q∈W.nb b,((11:Int)==q.2.addr)=Nat.beq q.1 81
 id:∀ b∈W.ns,∀ q∈W.nb b,q.1=81->q.2.id=5
 ne:∀ b∈W.ns,∀ q∈W.nb b,Nat.beq q.1 b=false
 ns':∀ b∈W.ns,∀ q∈W.nb b,q.1∈W.ns
 way:∀ b∈W.ns,∀ q∈W.nb b,(q.1,b)∈W.ways
structure Good (W:Wd) (T:Nat) (p:Nat×Row):Prop where
 nd:p.2.Nodup
 out:(W.sp p.1).cl∉p.2
 le:p.2.length<=T
noncomputable def EntOk (W:Wd) (bk:Bk) (a:Nat) (c:Row):Prop:=(a=81/\c=[])∨(a≠81/\∃ row,c=(W.sp a).cl::row/\(a,row)∈bk)
structure Inv (W:Wd) (bk:Bk) (T:Nat) (x:WSt) (ex:Option Nat):Prop where
 good:∀ p∈bk,Good W T p
 q:∀ a b,(a,b)∈W.ways->∀ c,some c∈x.q a b->EntOk W bk a c
 ql:∀ a b,(x.q a b).length<=10 * T
 rt:∀ b∈W.ns,∀ r∈W.nb b,∀ q,(x.st b).rt r.2.no=some q->EntOk W bk r.1 q.1
 org:∀ b∈W.ns,(x.st b).org=true->b=81
 cho:∀ b∈W.ns,(x.st b).cho=bestR (W.sp b) (routes (W.sp b) (x.st b))
 out:∀ b∈W.ns,ex≠some b->∀ p∈(W.sp b).prs,(x.st b).out p.no=due (W.sp b) (x.st b) p
theorem adm_not {a:Row} {s:Sp} (h:adm a s=true):isE s=false/\s.cl∉a:=by
 unfold adm at h
 cases e:isE s <;> rw [e] at h
 ·refine ⟨rfl,fun z=>?_⟩
  rw [List.contains_iff_mem.mpr z] at h
  exact nomatch h
 ·exact nomatch h
theorem good_mono {W:Wd} {T T':Nat} {p:Nat×Row} (h:Good W T p) (hT:T<=T'):Good W T' p:=⟨h.nd,h.out,ltr h.le hT⟩
theorem ent_mono {W:Wd} {bk bk':Bk} {a:Nat} {c:Row} (h:EntOk W bk a c) (hb:∀ p∈bk,p∈bk'):EntOk W bk' a c:=h.imp_right fun z=>⟨z.1,z.2.imp fun _ y=>⟨y.1,hb _ y.2⟩⟩
theorem routes_cong {s:Sp} {x y:SpSt} (h1:x.rt=y.rt) (h2:x.org=y.org):routes s x=routes s y:=by
 unfold routes ownR cand; rw [h1,h2]
theorem tellW_st (W:Wd) (x:WSt) (b c:Nat):(tellW W x b).st c=if c=b then tellSt (W.sp b) (x.st b) (W.sp b).prs else x.st c:=by
 unfold tellW; rw [pushRows_st]; rfl
theorem st_self (x:WSt) (b:Nat) (s:SpSt):(setSt x b s).st b=s:=if_pos rfl
theorem st_else (x:WSt) (b c:Nat) (s:SpSt) (h:c≠b):(setSt x b s).st c=x.st c:=if_neg h
theorem ent_len {W:Wd} {bk:Bk} {T:Nat} {x:WSt} {ex:Option Nat} (h:Inv W bk T x ex) {a:Nat} {c:Row} (e:EntOk W bk a c):c.length<=T+1:=by
 rcases e with ⟨_,rfl⟩ | ⟨_,row,rfl,hb⟩
 ·exact Nat.zero_le _
 ·exact Nat.succ_le_succ (h.good _ hb).le
section
variable {W:Wd} (o:W.Ok) (tp:Topo W) {bk bk':Bk} {T:Nat} {x y:WSt} {b:Nat} {ex:Option Nat}
include o tp
theorem held (hT:T<=90) (h:Inv W bk T x ex) (hb:b∈W.ns) {r:Rt} (hr:(x.st b).cho=some r):Held W bk b r/\Good W (T+1) (b,r.c):=by
 rw [h.cho b hb] at hr
 rcases routes_mem (bestR_mem hr) with ⟨ha,rfl⟩ | ⟨p,hp,q,hq,hadm,rfl⟩
 ·have e:=h.org b hb ha
  exact ⟨⟨List.nodup_nil,fun z=>(nomatch z),Nat.zero_le _,.inl ⟨rfl,e⟩⟩,List.nodup_nil,fun z=>(nomatch z),Nat.zero_le _⟩
 ·rw [o.prs b hb] at hp
  obtain ⟨n,hn,rfl⟩:=List.mem_map.mp hp
  have E:=h.rt b hb n hn q hq
  have ⟨hE,hc⟩:=adm_not hadm
  have hbe:b≠81:=nbN ((tp.e b hb).symm.trans hE)
  have hl:q.1.length<=T+1:=ent_len h E
  have hnd:q.1.Nodup:=by
   rcases E with ⟨_,e⟩ | ⟨_,row,e,hk⟩
   ·rw [e]; exact List.nodup_nil
   ·rw [e]; exact List.nodup_cons.mpr ⟨(h.good _ hk).out,(h.good _ hk).nd⟩
  exact ⟨⟨hnd,hc,ltr hl (ltr (Nat.succ_le_succ hT) (by decide)),.inr ⟨hbe,n,hn,rfl,E.imp (fun z=>⟨z.2,z.1⟩) fun z=>⟨z.1,tp.ns' b hb n hn,z.2⟩⟩⟩,hnd,hc,hl⟩
theorem tell_inv (hT:T<=90) {J:AH} (R:WRep W y J) (w:Wf J) (hb:b∈W.ns) (h:Inv W bk T x (some b)) (h1:∀ p∈bk,p∈bk') (h2:∀ r,(x.st b).cho=some r->(b,r.c)∈bk') (h3:∀ p∈bk',Good W (T+1) p):Inv W bk' (T+1) (tellW W x b) none:=by
 have hk:=tellSt_keep (W.sp b) (W.sp b).prs (x.st b)
 have hlen:=tellRows_len (W.sp b) (W.sp b).prs (x.st b)
 have hfew:=(o.ok b hb).few
 have e1:∀ c,((tellW W x b).st c).rt=(x.st c).rt/\((tellW W x b).st c).org=(x.st c).org/\((tellW W x b).st c).cho=(x.st c).cho:=fun c=>by
  rw [tellW_st]
  by_cases e:c=b
  ·rw [if_pos e,e]; exact ⟨hk.2.1,hk.2.2,hk.1⟩
  ·rw [if_neg e]; exact ⟨rfl,rfl,rfl⟩
 refine ⟨h3,fun a d had c hc=>?_,fun a d=>?_,fun c hc r hr q hq=>ent_mono (h.rt c hc r hr q ((congrFun (e1 c).1 _).symm.trans hq)) h1,fun c hc hd=>h.org c hc ((e1 c).2.1.symm.trans hd),fun c hc=>(e1 c).2.2.trans ((h.cho c hc).trans (congrArg _ (routes_cong (e1 c).1 (e1 c).2.1).symm)),fun c hc _ p hp=>?_⟩
 ·rcases pushRows_mem W b _ _ a d (some c) hc with hm | ⟨rfl,n,hn,_⟩
  ·exact ent_mono (h.q a d had c hm) h1
  ·obtain ⟨p,hp,_,e2,_⟩:=tellRows_mem (W.sp a) _ _ (o.ok a hb).nd _ hn
   unfold due at e2
   cases hr:(x.st a).cho with
   | none=>rw [hr] at e2; exact nomatch e2
   | some r =>
    rw [hr] at e2
    have ⟨H,_⟩:=held o tp hT h hb hr
    have hm:=h2 r hr
    obtain ⟨row,no,now⟩:=r
    rcases H.how with ⟨hn,hae⟩ | ⟨hae,q,_,hn,_⟩
    ·cases hn
     exact .inl ⟨hae,Option.some.inj e2⟩
    ·cases hn
     have e2:some c=cond (q.2.no==p.no) none (cond (((W.sp a).pr q.2.no).kd||p.kd) (some ((W.sp a).cl::row)) none):=e2
     exact condK e2.symm (fun _ z=>nomatch z) fun _ z=>condK z (fun _ z=>.inr ⟨hae,row,(Option.some.inj z).symm,hm⟩) fun _ z=>nomatch z
 ·exact ltr (pushRows_len W b (tellRows (W.sp b) (x.st b) (W.sp b).prs) (setSt x b (tellSt (W.sp b) (x.st b) (W.sp b).prs)) a d) (Nat.add_le_add (h.ql a d) (ltr hlen hfew))
 ·rw [tellW_st]
  by_cases e:c=b
  ·rw [if_pos e,e]
   rw [e] at hp
   rw [tellSt_out (W.sp b) _ _ (o.ok b hb).nd p hp]
   unfold due; rw [hk.1]
  ·rw [if_neg e]; exact h.out c hc (fun z=>e (Option.some.inj z).symm) p hp
omit o tp
theorem pre_of (h:Inv W bk T x none) (hst:∀ c,c≠b->y.st c=x.st c) (hq:∀ a d m,m∈y.q a d->m∈x.q a d) (hql:∀ a d,(y.q a d).length<=(x.q a d).length)
  (hrt:b∈W.ns->∀ r∈W.nb b,∀ q,(y.st b).rt r.2.no=some q->EntOk W bk r.1 q.1) (horg:b∈W.ns->(y.st b).org=true->b=81) (hcho:b∈W.ns->(y.st b).cho=bestR (W.sp b) (routes (W.sp b) (y.st b))):Inv W bk T y (some b):=by
 have both:∀ {F:Nat->SpSt->Prop},(b∈W.ns->F b (y.st b))->(∀ c∈W.ns,F c (x.st c))->∀ c∈W.ns,F c (y.st c):=fun {F} f1 f2 c hc=>by
  by_cases e:c=b
  ·rw [e] at hc ⊢; exact f1 hc
  ·rw [hst c e]; exact f2 c hc
 exact ⟨h.good,fun a d had c hc=>h.q a d had c (hq a d _ hc),fun a d=>ltr (hql a d) (h.ql a d),
  both (F:=fun c s=>∀ r∈W.nb c,∀ q,s.rt r.2.no=some q->EntOk W bk r.1 q.1) hrt h.rt,both (F:=fun c s=>s.org=true->c=81) horg h.org,
  both (F:=fun c s=>s.cho=bestR (W.sp c) (routes (W.sp c) s)) hcho h.cho,fun c hc hne p hp=>by
   rw [hst c fun z=>hne (congrArg some z.symm)]
   exact h.out c hc (fun z=>nomatch z) p hp⟩
theorem pre_org {v:Bool} (h:Inv W bk T x none):Inv W bk T (setSt x 81 (chooseR (W.sp 81) (setOrg (x.st 81) v))) (some 81) :=
 pre_of h (fun c hc=>st_else _ _ _ _ hc) (fun _ _ _ z=>z) (fun _ _=>Nat.le_refl _) (fun hb=>by rw [st_self]; exact h.rt _ hb) (fun _ _=>rfl) (fun _=>by rw [st_self]; rfl)
end
section
variable {s:Sp} {x:SpSt}
theorem hearM_in {F:SpSt->Prop} (p:Pr) (m:Msg) (now:Int) (h0:F x) (h1:∀ v,(∀ q,v=some q->m=some q.1)->F (chooseR s (setRt x p.no v))):F (hearM s x p m now):=by
 cases m with
 | none=>exact boolK (b:=(x.rt p.no).isSome) (F:=fun b=>F (cond b (chooseR s (setRt x p.no none)) x)) (h1 _ fun _ e=>nomatch e) h0
 | some a=>exact boolK (b:=news (x.rt p.no) a) (F:=fun b=>F (cond b (chooseR s (setRt x p.no (some (a,now)))) x)) (h1 _ fun q e=>by cases e; rfl) h0
end
theorem pre_hear {W:Wd} (o:W.Ok) {bk:Bk} {T:Nat} {x:WSt} {J:AH} (R:WRep W x J) (w:Wf J) {a b:Nat} (hab:(a,b)∈W.ways) {p:Pr} (hp:(a,p)∈W.nb b) {m:Msg} {rest:List Msg} (hx:x.q a b=m::rest) (h:Inv W bk T x none) (now:Int) :
  Inv W bk T (setSt (setQ x a b rest) b (hearM (W.sp b) (x.st b) p m now)) (some b):=by
 have hmem:∀ c d,(∀ n,n∈(setQ x a b rest).q c d->n∈x.q c d)/\((setQ x a b rest).q c d).length<=(x.q c d).length:=fun c d=>by
  show (∀ n,n∈(if c=a/\d=b then rest else x.q c d)->n∈x.q c d)/\(if c=a/\d=b then rest else x.q c d).length<=_
  by_cases e:c=a/\d=b
  ·rw [if_pos e,e.1,e.2,hx]; exact ⟨fun _=>.tail _,Nat.le_succ _⟩
  ·rw [if_neg e]; exact ⟨fun _ z=>z,Nat.le_refl _⟩
 refine pre_of h (fun c hc=>st_else _ _ _ _ hc) (fun c d=>(hmem c d).1) (fun c d=>(hmem c d).2) (fun hb=>?_) (fun hb=>?_) (fun hb=>?_)
 ·rw [st_self]
  refine hearM_in (F:=fun s=>∀ r∈W.nb b,∀ q,s.rt r.2.no=some q->EntOk W bk r.1 q.1) p m now (h.rt b hb) fun v hv r hr q hq=>?_
  have hq:(if r.2.no=p.no then v else (x.st b).rt r.2.no)=some q:=hq
  by_cases e:r.2.no=p.no
  ·rw [if_pos e] at hq
   have hr':=nb_no o R w hb hp hr e
   rw [hr']
   exact h.q a b hab q.1 (by rw [hx,hv q hq]; exact .head _)
  ·rw [if_neg e] at hq; exact h.rt b hb r hr q hq
 ·rw [st_self]; exact hearM_in (F:=fun s=>s.org=true->b=81) p m now (h.org b hb) fun _ _=>h.org b hb
 ·rw [st_self]; exact hearM_in (F:=fun s=>s.cho=bestR (W.sp b) (routes (W.sp b) s)) p m now (h.cho b hb) fun _ _=>rfl
section
variable {W:Wd} (o:W.Ok) (tp:Topo W) {bk:Bk} {T:Nat} (hT:T<=75) {x:WSt} {b:Nat} {ex:Option Nat}
include hT o
theorem xok_of (h:Inv W bk T x ex) (hb:b∈W.ns):XOk (W.sp b) (x.st b):=fun p hp q hq=>by
 rw [o.prs b hb] at hp
 obtain ⟨n,hn,rfl⟩:=List.mem_map.mp hp
 exact ltr (ent_len h (h.rt b hb n hn q hq)) (ltr (Nat.succ_le_succ hT) (by decide))
include tp
theorem dok_of (h:Inv W bk T x ex) (hb:b∈W.ns):DOk (W.sp b) (x.st b):=fun r e=>by
 have H:=(held o tp (ltr hT (by decide)) h hb e).1
 rw [h.cho b hb] at e
 refine ⟨routes_ok (xok_of o hT h hb) r (bestR_mem e),fun hn p hp=>?_,fun n hn=>?_⟩
 ·rw [o.prs b hb] at hp
  obtain ⟨q,hq,rfl⟩:=List.mem_map.mp hp
  rcases H.how with ⟨_,rfl⟩ | ⟨_,q,_,h2,_⟩
  ·exact (tp.adr _ hb q hq).trans (tp.ne _ hb q hq)
  ·exact nomatch hn.symm.trans h2
 ·rcases H.how with ⟨h2,_⟩ | ⟨h1,q,hq,h2,h3⟩
  ·exact nomatch hn.symm.trans h2
  ·cases hn.symm.trans h2
   have hp:q.2∈(W.sp b).prs:=by rw [o.prs b hb]; exact List.mem_map_of_mem hq
   refine ⟨(tp.e b hb).trans (nbF h1),fun hr=>?_⟩
   rw [(o.ok b hb).pr hp]
   rcases h3 with ⟨_,h3⟩ | ⟨_,_,row,h3,_⟩
   ·exact tp.id b hb q hq h3
   ·exact nomatch hr.symm.trans h3
theorem wok {J:AH} (R:WRep W x J) (w:Wf J) (h:Inv W bk T x none) (now:Int):WOk W x now :=
 ⟨fun c d=>ltr (h.ql c d) (ltr (Nat.mul_le_mul_left 10 hT) (by decide)),fun b hb=>xok_of o hT h hb,fun a b p hab hp c hc=>ltr (ent_len h (h.q a b hab c hc)) (ltr (Nat.succ_le_succ hT) (by decide)),fun a b p m rest hab hp hx=>by
  have:=dok_of o tp hT (pre_hear o R w hab hp hx h now) (o.wayn _ hab).2.1
  rw [st_self] at this; exact this⟩
end
structure Mid (W:Wd) (bk:Bk) (T:Nat) (x:WSt):Prop where
 good:∀ p∈bk,Good W T p
 held:∀ b∈W.ns,∀ r,(x.st b).cho=some r->Held W bk b r/\Good W (T+1) (b,r.c)
 next:∀ bk',(∀ p∈bk,p∈bk')->(∀ b∈W.ns,∀ r,(x.st b).cho=some r->(b,r.c)∈bk')->(∀ p∈bk',Good W (T+1) p)->Inv W bk' (T+1) x none
theorem mid_pre {W:Wd} (o:W.Ok) (tp:Topo W) {bk:Bk} {T:Nat} (hT:T<=75) {x y:WSt} {J:AH} (R:WRep W y J) (w:Wf J) {b:Nat} (hb:b∈W.ns) (h:Inv W bk T x (some b)):Mid W bk T (tellW W x b):=by
 have hch:∀ c,((tellW W x b).st c).cho=(x.st c).cho:=fun c=>by
  rw [tellW_st]
  by_cases e:c=b
  ·rw [if_pos e,e]; exact (tellSt_keep (W.sp b) (W.sp b).prs (x.st b)).1
  ·rw [if_neg e]
 exact ⟨h.good,fun c hc r hr=>held o tp (ltr hT (by decide)) h hc ((hch c).symm.trans hr),fun bk' h1 h2 h3=>tell_inv o tp (ltr hT (by decide)) R w hb h h1 (fun r hr=>h2 b hb r ((hch b).trans hr)) h3⟩
structure Cf where
 nb:Nat->List Nat
 cl:Nat->Nat
 ad:Nat->Int
 ps:Nat->Nat->Nat->Bool
noncomputable abbrev Slot:=Option Row×List (Option Row)
noncomputable abbrev Sl:=List ((Nat×Nat)×Slot)
noncomputable def atWay (a b:Nat) (e:(Nat×Nat)×Slot):Bool:=Nat.beq e.1.1 a&&Nat.beq e.1.2 b
noncomputable def lkW (a b:Nat):Sl->Slot
 | []=>(none,[])
 | e::l=>cond (atWay a b e) e.2 (lkW a b l)
noncomputable def upW (a b:Nat) (f:Slot->Slot):Sl->Sl
 | []=>[]
 | e::l=>cond (atWay a b e) ((e.1,f e.2)::l) (e::upW a b f l)
noncomputable def isEn (b:Nat):Bool:=Nat.beq b 81
noncomputable abbrev Ch0:=Option (Option Nat×Row)
section
variable (C:Cf)
noncomputable def cands (l:Sl) (b:Nat):List (Nat×Row):=(C.nb b).filterMap fun a=>(lkW a b l).1.bind fun r=>cond (isEn b||r.contains (C.cl b)) none (some (a,r))
noncomputable def lenC (q:Nat×Row):Int:=q.2.length
noncomputable def adrC (q:Nat×Row):Int:=C.ad q.1
noncomputable def bestC (l:List (Nat×Row)):Option (Nat×Row):=(leastBy (adrC C) (leastBy lenC l)).head?
noncomputable def chosenC (g:Bool) (l:Sl) (b:Nat):Ch0:=cond (isEn b) (cond g (some (none,[])) none) ((bestC C (cands C l b)).map fun q=>(some q.1,q.2))
noncomputable def dueC (c:Ch0) (b p:Nat):Option Row:=c.bind fun q=>q.1.elim (some []) fun a=>cond (Nat.beq a p) none (cond (C.ps b a p) (some (C.cl b::q.2)) none)
noncomputable def eqR:Row->Row->Bool
 | [],l=>l.isEmpty
 | a::r,l=>match l with
  | []=>false
  | b::s=>Nat.beq a b&&eqR r s
noncomputable def eqO:Option Row->Option Row->Bool
 | none,o=>o.isNone
 | some r,o=>o.elim false (eqR r)
noncomputable def tellC (b:Nat) (c0 c1:Ch0):List Nat->Sl->Sl
 | [],l=>l
 | p::ps,l=>tellC b c0 c1 ps (cond (eqO (dueC C c0 b p) (dueC C c1 b p)) l (upW b p (fun e=>(e.1,e.2++[dueC C c1 b p])) l))
noncomputable def deliverC (g:Bool) (l:Sl) (a b:Nat) (m:Option Row) (rest:List (Option Row)):Sl:=tellC C b (chosenC C g l b) (chosenC C g (upW a b (fun _=>(m,rest)) l) b) (C.nb b) (upW a b (fun _=>(m,rest)) l)
noncomputable def setC (g g':Bool) (l:Sl):Sl:=tellC C 81 (chosenC C g l 81) (chosenC C g' l 81) (C.nb 81) l
noncomputable def quietC (l:Sl):Bool:=l.all fun e=>e.2.2.isEmpty
noncomputable def nextC (g:Bool) (l:Sl):Sl->List Sl
 | []=>[]
 | e::r=>match e.2.2 with
  | []=>nextC g l r
  | m::rest=>deliverC C g l e.1.1 e.1.2 m rest::nextC g l r
noncomputable def eqQ:List (Option Row)->List (Option Row)->Bool
 | [],l=>l.isEmpty
 | a::r,l=>match l with
  | []=>false
  | b::s=>eqO a b&&eqQ r s
noncomputable def eqL:Sl->Sl->Bool
 | [],l=>l.isEmpty
 | a::r,l=>match l with
  | []=>false
  | b::s=>eqO a.2.1 b.2.1&&(eqQ a.2.2 b.2.2&&(Nat.beq a.1.1 b.1.1&&Nat.beq a.1.2 b.1.2&&eqL r s))
noncomputable def addS (s:Sl) (l:List Sl):List Sl:=cond (l.any (eqL s)) l (s::l)
noncomputable def addAll:List Sl->List Sl->List Sl
 | [],l=>l
 | s::r,l=>addAll r (addS s l)
noncomputable def level (g:Bool):List Sl->List Sl->List Sl
 | [],acc=>acc
 | s::r,acc=>level g r (addAll (nextC C g s s) acc)
noncomputable def explore (g:Bool) (ok:Sl->Bool):Nat->List Sl->Bool
 | 0,l=>l.isEmpty
 | n+1,l=>match l with
  | []=>true
  | s::r=>(s::r).all (fun s=>cond (quietC s) (ok s) true)&&explore g ok n (level C g (s::r) [])
noncomputable def restsC (ns:List Nat) (l:Sl):Bool:=ns.all fun b=>(C.nb b).all fun a=>(dueC C (chosenC C true l a) a b).elim true fun r=>r.contains (C.cl b)||((chosenC C true l b).elim false fun q=>Nat.ble q.2.length r.length)
noncomputable def nobodyC (ns:List Nat) (l:Sl):Bool:=ns.all fun b=>(chosenC C false l b).isNone
end
noncomputable def ses0 (tw:Bool) (lo:Nat):List Ses:=sesI tw lo ⟨false,false,false,false,false,false⟩
noncomputable def nbI (tw:Bool) (lo b:Nat):List Nat:=cond (Nat.beq b 81) (177::cond tw [207] []) (cond (Nat.beq b 177) (cond (Nat.beq lo 0) [207,81] (195::cond (Nat.beq lo 2) [81] [207,81])) (cond (Nat.beq b 195) (cond (Nat.beq lo 0) [207] (177::cond (Nat.beq lo 1) [] [207])) (cond (Nat.beq lo 1) (177::cond tw [81] []) (195::cond (Nat.beq lo 2) (cond tw [81] []) (177::cond tw [81] [])))))
noncomputable def clJ (c b:Nat):Nat:=cond (Nat.beq b 81) 0 (cond (Nat.beq b 177) 32 (cond (Nat.beq b 195) 33 (cond (Nat.beq c 0) 31 (cond (Nat.beq c 1) 32 33))))
noncomputable def adJ (b:Nat):Int:=cond (Nat.beq b 81) 11 (cond (Nat.beq b 177) 12 (cond (Nat.beq b 195) 13 14))
noncomputable def cfI (tw:Bool) (lo c:Nat) (fr fs ft:Bool):Cf:=⟨nbI tw lo,clJ c,adJ,fun b y z=>isEn y||(isEn z||cond (isEn b) false (cond (Nat.beq b 177) fr (cond (Nat.beq b 195) fs ft)))⟩
noncomputable def ways0 (tw:Bool) (lo:Nat):Sl:=(ses0 tw lo).flatMap fun q=>[((nmI q.1,nmI q.2.1),none,[]),((nmI q.2.1,nmI q.1),none,[])]
noncomputable def law0 (tw:Bool) (lo c:Nat) (fr fs ft:Bool):Bool :=
 explore (cfI tw lo c fr fs ft) true (fun s=>restsC (cfI tw lo c fr fs ft) [177,195,207] s&&explore (cfI tw lo c fr fs ft) false (nobodyC (cfI tw lo c fr fs ft) names) 30 [setC (cfI tw lo c fr fs ft) true false s]) 30 [setC (cfI tw lo c fr fs ft) false true (ways0 tw lo)]
noncomputable def allB (f:Bool->Bool):Bool:=f true&&f false
theorem allB_ok {f:Bool->Bool} (h:allB f=true):∀ b,f b=true
 | true=>(Bool.and_eq_true_iff.mp h).1
 | false=>(Bool.and_eq_true_iff.mp h).2
noncomputable def all3 (f:Nat->Bool):Bool:=f 0&&(f 1&&f 2)
theorem all3_ok {f:Nat->Bool} (h:all3 f=true):∀ c,c < 3->f c=true :=
 have h2:=Bool.and_eq_true_iff.mp h
 have h3:=Bool.and_eq_true_iff.mp h2.2
 have H:∀ c∈[0,1,2],f c=true:=List.forall_mem_cons.mpr ⟨h2.1,List.forall_mem_cons.mpr ⟨h3.1,List.forall_mem_cons.mpr ⟨h3.2,fun _ h=>nomatch h⟩⟩⟩
 fun c hc=>H c (List.mem_range.mpr hc)
theorem go_f0:(all3 fun c=>allB fun d=>law0 false 0 c false false d)=true:=by kernel_rfl
theorem go_f1:(all3 fun c=>allB fun d=>law0 false 1 c d false false)=true:=by kernel_rfl
theorem go_f2:(all3 fun c=>allB fun d=>law0 false 2 c false d false)=true:=by kernel_rfl
theorem go_f3:(all3 fun c=>allB fun a=>allB fun b=>allB fun d=>law0 false 3 c a b d)=true:=by kernel_rfl
theorem go_t0:(all3 fun c=>allB fun d=>law0 true 0 c false false d)=true:=by kernel_rfl
theorem go_t1:(all3 fun c=>allB fun d=>law0 true 1 c d false false)=true:=by kernel_rfl
theorem go_t2:(all3 fun c=>allB fun d=>law0 true 2 c false d false)=true:=by kernel_rfl
noncomputable def flR (lo:Nat) (k:Kds):Bool:=cond (Nat.beq lo 0||Nat.beq lo 2) false (k.a||k.e)
noncomputable def flS (lo:Nat) (k:Kds):Bool:=cond (Nat.beq lo 0||Nat.beq lo 1) false (k.b||k.c)
noncomputable def flT (lo:Nat) (k:Kds):Bool:=cond (Nat.beq lo 1||Nat.beq lo 2) false (k.d||k.f)
theorem law0_ok {c:Nat} (hc:c < 3) (k:Kds):∀ q∈tops,law0 q.1 q.2 c (flR q.2 k) (flS q.2 k) (flT q.2 k)=true :=
 tops_in (F:=fun tw lo=>law0 tw lo c (flR lo k) (flS lo k) (flT lo k)=true) (allB_ok (all3_ok go_f0 c hc) _) (allB_ok (all3_ok go_f1 c hc) _) (allB_ok (all3_ok go_f2 c hc) _) (allB_ok (allB_ok (allB_ok (all3_ok go_f3 c hc) _) _) _) (allB_ok (all3_ok go_t0 c hc) _) (allB_ok (all3_ok go_t1 c hc) _) (allB_ok (all3_ok go_t2 c hc) _)
open L2
section
variable {α β:Type}
theorem minW_const {wf:α->Int} {c:Int}:∀ {l:List α},l≠[]->(∀ a∈l,wf a=c)->minW wf l=c
 | [],h,_=>absurd rfl h
 | [a],_,h=>h a (.head _)
 | a::b::l,_,h=>by
  have e:minW wf (b::l)=c:=minW_const (l:=b::l) (fun z=>nomatch z) fun x hx=>h x (.tail _ hx)
  show (if minW wf (b::l) < wf a then minW wf (b::l) else wf a)=c
  rw [e,h a (.head _),if_neg (Int.lt_irrefl c)]
theorem lb_const {wf:α->Int} {c:Int} {l:List α} (h:∀ a∈l,wf a=c):leastBy wf l=l:=by
 unfold leastBy
 cases l with
 | nil=>rfl
 | cons a r=>rw [minW_const (l:=a::r) (fun z=>nomatch z) h]; exact List.filter_eq_self.mpr fun x hx=>beq_iff_eq.mpr (h x hx)
theorem minW_map (wf:β->Int) (g:α->β):∀ l:List α,minW wf (l.map g)=minW (fun a=>wf (g a)) l
 | []=>rfl
 | [_]=>rfl
 | a::b::l=>by
  show (if minW wf ((b::l).map g) < wf (g a) then minW wf ((b::l).map g) else wf (g a))=(if minW (fun a=>wf (g a)) (b::l) < wf (g a) then minW (fun a=>wf (g a)) (b::l) else wf (g a))
  rw [minW_map wf g (b::l)]
theorem lb_map (wf:β->Int) (g:α->β) (l:List α):leastBy wf (l.map g)=(leastBy (fun a=>wf (g a)) l).map g:=by
 unfold leastBy
 rw [minW_map,List.filter_map]; rfl
theorem minW_cong {wf wg:α->Int}:∀ {l:List α},(∀ a∈l,wf a=wg a)->minW wf l=minW wg l
 | [],_=>rfl
 | [a],h=>h a (.head _)
 | a::b::l,h=>by
  show (if minW wf (b::l) < wf a then minW wf (b::l) else wf a)=(if minW wg (b::l) < wg a then minW wg (b::l) else wg a)
  rw [minW_cong fun x hx=>h x (.tail _ hx),h a (.head _)]
theorem lb_cong {wf wg:α->Int} {l:List α} (h:∀ a∈l,wf a=wg a):leastBy wf l=leastBy wg l:=by
 unfold leastBy
 rw [minW_cong h]
 exact List.filter_congr fun x hx=>by rw [h x hx]
theorem lb_one (wf:α->Int) (a:α):leastBy wf [a]=[a]:=lb_const (c:=wf a) fun _ h=>List.mem_singleton.mp h▸rfl
theorem fm_cong {f g:α->Option β}:∀ {l:List α},(∀ a∈l,f a=g a)->l.filterMap f=l.filterMap g:=by
 intro l
 induction l with
 | nil =>
  intro _
  exact rfl
 | cons a l ih =>
  intro h
  exact by rw [fm_cons l (h a (.head _)),fm_cons (f:=g) l rfl,ih fun x hx=>h x (.tail _ hx)]
end
structure CfOk (W:Wd) (C:Cf):Prop where
 nb:∀ b∈W.ns,C.nb b=(W.nb b).map (·.1)
 cl:∀ b∈W.ns,C.cl b=(W.sp b).cl
 ad:∀ b∈W.ns,∀ q∈W.nb b,C.ad q.1=q.2.addr
 ps:∀ b∈W.ns,∀ y∈W.nb b,∀ z∈W.nb b,Nat.beq y.1 z.1=false->C.ps b y.1 z.1=(y.2.kd||z.2.kd)
structure RelR (W:Wd) (x:WSt) (g:Bool) (l:Sl):Prop where
 org:(x.st 81).org=g
 rt:∀ b∈W.ns,∀ q∈W.nb b,((x.st b).rt q.2.no).map (·.1)=(lkW q.1 b l).1
 ks:l.map (·.1)=W.ways
noncomputable def chW (W:Wd) (b:Nat) (o:Option Rt):Ch0:=o.map fun r=>(r.no.map (nmOf W b),r.row)
theorem best_via {s:Sp} {rs:List Rt} (h:∀ r∈rs,(∃ n,r.no=some n)/\wId s r=5):bestR s rs=(leastBy (wAddr s) (leastBy wCl rs)).head?:=by
 have no:∀ r∈rs,∃ n,r.no=some n:=fun r hr=>(h r hr).1
 have e1:leastBy (fun _=>-100) rs=rs:=lb_const (c:=-100) fun _ _=>rfl
 have e2:leastBy wOwn rs=rs:=lb_const (c:=1) fun r hr=>(no r hr).elim fun n e=>by unfold wOwn; rw [e]; rfl
 have e3:leastBy w0 rs=rs:=lb_const (c:=0) fun _ _=>rfl
 have e4:leastBy w1 rs=rs:=lb_const (c:=1) fun _ _=>rfl
 have e5:leastBy wCost rs=rs:=lb_const (c:=3) fun r hr=>(no r hr).elim fun n e=>by unfold wCost; rw [e]; rfl
 have e6:leastBy (wId s) rs=rs:=lb_const (c:=5) fun r hr=>(h r hr).2
 have e:chain s rs=leastBy (wAddr s) (leastBy wCl rs):=by
  unfold chain chainL chainM
  rw [e1,e2,e3,e3,e4,e5,e6]
 unfold bestR
 rw [e]
 cases rs with
 | nil=>rfl
 | cons a l=>rfl
theorem best_own (s:Sp) (a:Rt):bestR s [a]=some a:=by
 have e:chain s [a]=[a]:=by
  unfold chain chainL chainM
  rw [lb_one,lb_one,lb_one,lb_one,lb_one,lb_one,lb_one,lb_one,lb_one]
 unfold bestR
 rw [e]; rfl
section
variable {W:Wd} (o:W.Ok) (tp:Topo W) {C:Cf} (co:CfOk W C) {bk:Bk} {T:Nat} {x:WSt} {ex:Option Nat} (h:Inv W bk T x ex) {J:AH} {w:WSt} (R:WRep W w J) (wf:Wf J) {g:Bool} {l:Sl} (re:RelR W x g l) {b:Nat} (hb:b∈W.ns)
include o tp co h R wf re hb
theorem cho_rel:chosenC C g l b=chW W b (x.st b).cho:=by
 rw [h.cho b hb]
 have hE:=tp.e b hb
 unfold chosenC isEn
 cases e:Nat.beq b 81 with
 | true =>
  rw [e] at hE
  have hbe:=Nat.eq_of_beq_eq_true e
  have hc:(W.sp b).prs.filterMap (cand (W.sp b) (x.st b))=[]:=List.filterMap_eq_nil_iff.mpr fun p _=>by
   unfold cand
   cases (x.st b).rt p.no with
   | none=>rfl
   | some q =>
    show cond (adm q.1 (W.sp b)) _ none=none
    unfold adm
    rw [hE]; rfl
  unfold routes
  rw [hc,List.append_nil]
  unfold ownR
  have ho:=re.org
  rw [← hbe] at ho
  rw [ho]
  cases g
  ·rfl
  ·show some ((none:Option Nat),([]:Row))=chW W b (bestR (W.sp b) [⟨[],none,0⟩])
   rw [best_own]; rfl
 | false =>
  rw [e] at hE
  have hbe:b≠81:=nbN e
  have ho:(x.st b).org=false:=Bool.eq_false_iff.mpr fun z=>hbe (h.org b hb z)
  let gm:Rt->Nat×Row:=fun r=>(nmOf W b (r.no.getD 0),r.row)
  have hr:routes (W.sp b) (x.st b)=(W.nb b).filterMap fun q=>cand (W.sp b) (x.st b) q.2:=by
   unfold routes ownR
   rw [ho,o.prs b hb,List.filterMap_map]; rfl
  have hm:cands C l b=(routes (W.sp b) (x.st b)).map gm:=by
   rw [hr,List.map_filterMap]
   unfold cands
   rw [co.nb b hb,List.filterMap_map]
   refine fm_cong fun q hq=>?_
   show ((lkW q.1 b l).1.bind fun r=>cond (isEn b||r.contains (C.cl b)) none (some (q.1,r)))=(cand (W.sp b) (x.st b) q.2).map gm
   rw [← re.rt b hb q hq,co.cl b hb]
   unfold cand isEn
   rw [e]
   cases (x.st b).rt q.2.no with
   | none=>rfl
   | some v =>
    show cond (v.1.contains (W.sp b).cl) none (some (q.1,v.1))=(cond (adm v.1 (W.sp b)) (some ⟨v.1,some q.2.no,v.2⟩) none).map gm
    unfold adm
    rw [hE]
    show cond (v.1.contains (W.sp b).cl) none (some (q.1,v.1))=(cond (!(v.1.contains (W.sp b).cl)) (some ⟨v.1,some q.2.no,v.2⟩) none).map gm
    cases v.1.contains (W.sp b).cl
    ·show some (q.1,v.1)=some (nmOf W b q.2.no,v.1)
     rw [nmOf_eq o R wf hb hq]
    ·rfl
  have hq:∀ r∈routes (W.sp b) (x.st b),∃ q∈W.nb b,r.no=some q.2.no/\wId (W.sp b) r=5:=fun r hr=>by
   rcases routes_mem hr with ⟨z,_⟩ | ⟨p,hp,v,hv,_,rfl⟩
   ·exact nomatch ho.symm.trans z
   ·rw [o.prs b hb] at hp
    obtain ⟨q,hq,rfl⟩:=List.mem_map.mp hp
    refine ⟨q,hq,rfl,?_⟩
    show cond v.1.isEmpty ((W.sp b).pr q.2.no).id 5=5
    rw [(o.ok b hb).pr (by rw [o.prs b hb]; exact List.mem_map_of_mem hq)]
    rcases h.rt b hb q hq v hv with ⟨ha,hc⟩ | ⟨_,row,hc,_⟩
    ·rw [hc]; exact tp.id b hb q hq ha
    ·rw [hc]; rfl
  rw [best_via fun r hr=>(hq r hr).elim fun q z=>⟨⟨_,z.2.1⟩,z.2.2⟩]
  unfold bestC
  have l1:leastBy lenC (cands C l b)=(leastBy wCl (routes (W.sp b) (x.st b))).map gm:=by
   rw [hm,lb_map]
   refine congrArg (List.map gm) (lb_cong fun r hr=>?_)
   obtain ⟨q,_,hn,_⟩:=hq r hr
   show (r.row.length:Int)=(r.c.length:Int)
   unfold Rt.c
   rw [hn]; rfl
  have l2:leastBy (adrC C) (leastBy lenC (cands C l b))=(leastBy (wAddr (W.sp b)) (leastBy wCl (routes (W.sp b) (x.st b)))).map gm:=by
   rw [l1,lb_map]
   refine congrArg (List.map gm) (lb_cong fun r hr=>?_)
   obtain ⟨q,hqn,hn,_⟩:=hq r (leastBy_mem hr)
   show C.ad (nmOf W b (r.no.getD 0))=wAddr (W.sp b) r
   unfold wAddr
   rw [hn]
   show C.ad (nmOf W b q.2.no)=((W.sp b).pr q.2.no).addr
   rw [nmOf_eq o R wf hb hqn,(o.ok b hb).pr (by rw [o.prs b hb]; exact List.mem_map_of_mem hqn)]
   exact co.ad b hb q hqn
  rw [l2,List.head?_map]
  have hh:∀ r,(leastBy (wAddr (W.sp b)) (leastBy wCl (routes (W.sp b) (x.st b)))).head?=some r->∃ n,r.no=some n:=fun r hr=>(hq r (leastBy_mem (leastBy_mem (List.mem_of_head? hr)))).elim fun q z=>⟨_,z.2.1⟩
  generalize (leastBy (wAddr (W.sp b)) (leastBy wCl (routes (W.sp b) (x.st b)))).head?=f at hh
  cases f with
  | none=>rfl
  | some r =>
   obtain ⟨n,hn⟩:=hh r rfl
   show some (some (nmOf W b (r.no.getD 0)),r.row)=some (r.no.map (nmOf W b),r.row)
   rw [hn]; rfl
end
open L2
theorem eqR_dec:∀ a b:Row,eqR a b=decide (a=b)
 | [],[]=>rfl
 | [],_::_=>rfl
 | _::_,[]=>rfl
 | x::a,y::b=>by
  show (Nat.beq x y&&eqR a b)=_
  rw [eqR_dec a b]
  cases e:Nat.beq x y with
  | true =>
   have e:=Nat.eq_of_beq_eq_true e
   exact decide_eq_decide.mpr ⟨fun h=>by rw [e,h],fun h=>(List.cons.inj h).2⟩
  | false=>exact (decide_eq_false fun h=>nbN e (List.cons.inj h).1).symm
theorem eqO_dec:∀ a b:Option Row,eqO a b=decide (a=b)
 | none,none=>rfl
 | none,some _=>rfl
 | some _,none=>rfl
 | some a,some b=>(eqR_dec a b).trans (decide_eq_decide.mpr ⟨fun h=>congrArg some h,fun h=>Option.some.inj h⟩)
theorem msgL_eq (o d:Option Row):msgL o d=cond (eqO o d) [] [d]:=by
 rw [eqO_dec]
 cases d with
 | none=>cases o <;> rfl
 | some b=>rfl
theorem atWay_t {a b:Nat} {e:(Nat×Nat)×Slot}:atWay a b e=true ↔ e.1=(a,b):=by
 unfold atWay
 refine ⟨fun h=>andK h fun h1 h2=>Prod.ext (Nat.eq_of_beq_eq_true h1) (Nat.eq_of_beq_eq_true h2),fun h=>?_⟩
 rw [h,Nat.beq_refl,Nat.beq_refl]; rfl
theorem upW_ks (a b:Nat) (f:Slot->Slot):∀ l:Sl,(upW a b f l).map (·.1)=l.map (·.1)
 | []=>rfl
 | e::l=>by
  show (cond (atWay a b e) ((e.1,f e.2)::l) (e::upW a b f l)).map (·.1)=e.1::l.map (·.1)
  cases atWay a b e with
  | true=>rfl
  | false=>exact congrArg (e.1::·) (upW_ks a b f l)
theorem lkW_up (a b:Nat) (f:Slot->Slot):∀ {l:Sl},(a,b)∈l.map (·.1)->lkW a b (upW a b f l)=f (lkW a b l):=by
 intro l
 induction l with
 | nil=>exact fun h=>nomatch h
 | cons e l ih =>
  intro h
  show lkW a b (cond (atWay a b e) ((e.1,f e.2)::l) (e::upW a b f l))=f (cond (atWay a b e) e.2 (lkW a b l))
  cases q:atWay a b e with
  | true =>
   show cond (atWay a b (e.1,f e.2)) (f e.2) _=f e.2
   rw [show atWay a b (e.1,f e.2)=true from q]; rfl
  | false =>
   show cond (atWay a b e) e.2 (lkW a b (upW a b f l))=f (lkW a b l)
   rw [q]
   exact ih ((List.mem_cons.mp h).resolve_left fun z=>nomatch q.symm.trans (atWay_t.mpr z.symm))
theorem lkW_else {a b c d:Nat} (f:Slot->Slot) (h:¬ (c=a/\d=b)):∀ l:Sl,lkW c d (upW a b f l)=lkW c d l:=by
 intro l
 induction l with
 | nil =>
  exact rfl
 | cons e l ih =>
  show lkW c d (cond (atWay a b e) ((e.1,f e.2)::l) (e::upW a b f l))=cond (atWay c d e) e.2 (lkW c d l)
  cases q:atWay a b e with
  | true =>
   show cond (atWay c d (e.1,f e.2)) (f e.2) (lkW c d l)=_
   have z:atWay c d e=false:=Bool.eq_false_iff.mpr fun z=>by
    have:=(atWay_t.mp z).symm.trans (atWay_t.mp q)
    exact h ⟨congrArg Prod.fst this,congrArg Prod.snd this⟩
   rw [show atWay c d (e.1,f e.2)=false from z,z]; rfl
  | false =>
   show cond (atWay c d e) e.2 (lkW c d (upW a b f l))=_
   rw [ih]
section
variable (C:Cf) (b:Nat) (c0 c1:Ch0)
theorem tellC_ks:∀ (ps:List Nat) (l:Sl),(tellC C b c0 c1 ps l).map (·.1)=l.map (·.1)
 | [],_=>rfl
 | p::ps,l=>(tellC_ks ps _).trans (boolK (b:=eqO (dueC C c0 b p) (dueC C c1 b p)) (F:=fun q=>(cond q l (upW b p _ l)).map (·.1)=l.map (·.1)) rfl (upW_ks ..))
theorem tellC_else {a d:Nat}:∀ (ps:List Nat) (l:Sl),¬ (a=b/\d∈ps)->lkW a d (tellC C b c0 c1 ps l)=lkW a d l:=by
 intro ps
 induction ps with
 | nil =>
  intro _ _
  exact rfl
 | cons p ps ih =>
  intro l h
  exact (ih _ fun z=>h ⟨z.1,.tail _ z.2⟩).trans (boolK (b:=eqO (dueC C c0 b p) (dueC C c1 b p)) (F:=fun q=>lkW a d (cond q l (upW b p _ l))=lkW a d l) rfl (lkW_else _ (fun z:a=b/\d=p=>h ⟨z.1,z.2▸.head _⟩) l))
theorem tellC_at {d:Nat} (ps:List Nat):∀ (l:Sl),ps.Nodup->d∈ps->(b,d)∈l.map (·.1)->lkW b d (tellC C b c0 c1 ps l)=((lkW b d l).1,(lkW b d l).2++cond (eqO (dueC C c0 b d) (dueC C c1 b d)) [] [dueC C c1 b d]):=by
 induction ps with
 | nil=>exact fun _ _ h=>nomatch h
 | cons p ps ih =>
  intro l hn h hk
  have ⟨n1,n2⟩:=List.nodup_cons.mp hn
  show lkW b d (tellC C b c0 c1 ps (cond (eqO (dueC C c0 b p) (dueC C c1 b p)) l (upW b p _ l)))=_
  by_cases e:d=p
  ·subst e
   rw [tellC_else C b c0 c1 ps _ fun z=>n1 z.2]
   cases eqO (dueC C c0 b d) (dueC C c1 b d) with
   | true=>exact Prod.ext rfl (List.append_nil _).symm
   | false=>exact lkW_up b d _ hk
  ·rw [ih _ n2 ((List.mem_cons.mp h).resolve_left e) (by cases eqO (dueC C c0 b p) (dueC C c1 b p) with | true=>exact hk | false=>exact (upW_ks b p _ l)▸hk)]
   have z:lkW b d (cond (eqO (dueC C c0 b p) (dueC C c1 b p)) l (upW b p (fun e=>(e.1,e.2++[dueC C c1 b p])) l))=lkW b d l:=by
    cases eqO (dueC C c0 b p) (dueC C c1 b p) with
    | true=>rfl
    | false=>exact lkW_else _ (fun z=>e z.2) l
   rw [z]
end
theorem pushRows_app (W:Wd) (a:Nat):∀ (r1:List (Int×Msg)) {r2:List (Int×Msg)} {x:WSt},pushRows W a x (r1++r2)=pushRows W a (pushRows W a x r1) r2
 | [],_,_=>rfl
 | _::r1,_,_=>pushRows_app W a r1
theorem pushMs (W:Wd) (a:Nat) (n:Int) (ms:List Msg):∀ (x:WSt) (c d:Nat),(pushRows W a x (ms.map fun m=>(n,m))).q c d=if c=a/\d=nmOf W a n then x.q c d++ms else x.q c d:=by
 induction ms with
 | nil =>
  intro x c d
  show x.q c d=_
  rw [List.append_nil]
  by_cases e:c=a/\d=nmOf W a n
  ·rw [if_pos e]
  ·rw [if_neg e]
 | cons m ms ih =>
  intro x c d
  refine (ih (pushQ x a (nmOf W a n) m) c d).trans ?_
  show (if c=a/\d=nmOf W a n then (if c=a/\d=nmOf W a n then x.q a (nmOf W a n)++[m] else x.q c d)++ms else (if c=a/\d=nmOf W a n then x.q a (nmOf W a n)++[m] else x.q c d))=_
  by_cases e:c=a/\d=nmOf W a n
  ·rw [if_pos e,if_pos e,if_pos e,e.1,e.2,List.append_assoc]; rfl
  ·rw [if_neg e,if_neg e,if_neg e]
section
variable (W:Wd) (b:Nat) (s:Sp)
theorem pushT_else {a d:Nat} (qs:List (Nat×Pr)):∀ (y:WSt) (z:SpSt),(∀ q∈qs,nmOf W b q.2.no=q.1)->¬ (a=b/\d∈qs.map (·.1))->(pushRows W b y (tellRows s z (qs.map (·.2)))).q a d=y.q a d:=by
 induction qs with
 | nil=>exact fun _ _ _ _=>rfl
 | cons q qs ih =>
  intro y z hn h
  show (pushRows W b y ((msgL (z.out q.2.no) (due s z q.2)).map (fun m=>(q.2.no,m))++tellRows s (setOut z q.2.no (due s z q.2)) (qs.map (·.2)))).q a d=_
  rw [pushRows_app,ih _ _ (fun r hr=>hn r (.tail _ hr)) fun w=>h ⟨w.1,.tail _ w.2⟩,pushMs,hn q (.head _)]
  exact if_neg fun w:a=b/\d=q.1=>h ⟨w.1,w.2▸.head _⟩
theorem pushT_at {q:Nat×Pr} (qs:List (Nat×Pr)):∀ (y:WSt) (z:SpSt),(∀ q∈qs,nmOf W b q.2.no=q.1)->(qs.map (·.1)).Nodup->q∈qs->(pushRows W b y (tellRows s z (qs.map (·.2)))).q b q.1=y.q b q.1++msgL (z.out q.2.no) (due s z q.2):=by
 induction qs with
 | nil=>exact fun _ _ _ _ h=>nomatch h
 | cons r qs ih =>
  intro y z hn hd h
  have ⟨n1,n2⟩:=List.nodup_cons.mp hd
  show (pushRows W b y ((msgL (z.out r.2.no) (due s z r.2)).map (fun m=>(r.2.no,m))++tellRows s (setOut z r.2.no (due s z r.2)) (qs.map (·.2)))).q b q.1=_
  rw [pushRows_app]
  rcases List.mem_cons.mp h with rfl | h
  ·rw [pushT_else W b s qs _ _ (fun r hr=>hn r (.tail _ hr)) fun w=>n1 w.2,pushMs,if_pos ⟨rfl,(hn q (.head _)).symm⟩]
  ·have e1:q.1≠r.1:=fun z=>n1 (show r.1∈qs.map _ from z▸List.mem_map_of_mem h)
   have e2:q.2.no≠r.2.no:=fun z=>e1 ((hn q (.tail _ h)).symm.trans ((congrArg (nmOf W b) z).trans (hn r (.head _))))
   rw [ih _ _ (fun r hr=>hn r (.tail _ hr)) n2 h,pushMs,if_neg fun w=>e1 (w.2.trans (hn r (.head _)))]
   have e3:(setOut z r.2.no (due s z r.2)).out q.2.no=z.out q.2.no:=if_neg e2
   rw [e3]; rfl
end
section
variable {W:Wd} (o:W.Ok) {C:Cf} (co:CfOk W C) {J:AH} {w:WSt} (R:WRep W w J) (wf:Wf J) {b:Nat} (hb:b∈W.ns) {x:SpSt} (hv:∀ r,x.cho=some r->∀ n,r.no=some n->∃ q∈W.nb b,q.2.no=n) {p:Nat×Pr} (hp:p∈W.nb b)
include o co R wf hb hv hp
theorem due_rel:dueC C (chW W b x.cho) b p.1=due (W.sp b) x p.2:=by
 unfold due
 cases hc:x.cho with
 | none=>rfl
 | some r =>
  obtain ⟨row,no,now⟩:=r
  cases no with
  | none=>rfl
  | some n =>
   obtain ⟨q,hq,rfl⟩:=hv _ hc n rfl
   show cond (Nat.beq (nmOf W b q.2.no) p.1) none (cond (C.ps b (nmOf W b q.2.no) p.1) (some (C.cl b::row)) none)=cond (q.2.no==p.2.no) none (cond (((W.sp b).pr q.2.no).kd||p.2.kd) (some ((W.sp b).cl::row)) none)
   rw [nmOf_eq o R wf hb hq,(o.ok b hb).pr (by rw [o.prs b hb]; exact List.mem_map_of_mem hq),co.cl b hb]
   cases e:Nat.beq q.1 p.1 with
   | true =>
    have e:=nd_fst (o.ndn b hb) hp hq (Nat.eq_of_beq_eq_true e)
    rw [e,beq_self_eq_true]; rfl
   | false =>
    have e2:(q.2.no==p.2.no)=false:=beq_eq_false_iff_ne.mpr fun z=>nbN e (congrArg Prod.fst (nb_no o R wf hb hp hq z))
    rw [e2,co.ps b hb q hq p hp e]
end
open L2
structure Rel (W:Wd) (x:WSt) (g:Bool) (l:Sl):Prop where
 r:RelR W x g l
 q:∀ a b,(a,b)∈W.ways->x.q a b=(lkW a b l).2
theorem cho_via {W:Wd} (o:W.Ok) {bk:Bk} {T:Nat} {x:WSt} {ex:Option Nat} (h:Inv W bk T x ex) {b:Nat} (hb:b∈W.ns):∀ r,(x.st b).cho=some r->∀ n,r.no=some n->∃ q∈W.nb b,q.2.no=n:=fun r hr n hn=>by
 rw [h.cho b hb] at hr
 rcases routes_mem (bestR_mem hr) with ⟨_,rfl⟩ | ⟨p,hp,q,_,_,rfl⟩
 ·exact nomatch hn
 ·rw [o.prs b hb] at hp
  obtain ⟨y,hy,rfl⟩:=List.mem_map.mp hp
  exact ⟨y,hy,Option.some.inj hn⟩
section
variable {W:Wd} (o:W.Ok) (tp:Topo W) {C:Cf} (co:CfOk W C) {bk bk0:Bk} {T T0:Nat} {x y:WSt} {J:AH} {w:WSt} (R:WRep W w J) (wf:Wf J)
include o tp co R wf
theorem tell_rel {b:Nat} (hb:b∈W.ns) (hx:Inv W bk0 T0 x none) (hy:Inv W bk T y (some b)) {g g':Bool} {l0 l:Sl} (r0:RelR W x g l0) (r1:RelR W y g' l) (q1:∀ a b,(a,b)∈W.ways->y.q a b=(lkW a b l).2) (ho:∀ n,(y.st b).out n=(x.st b).out n) :
  Rel W (tellW W y b) g' (tellC C b (chosenC C g l0 b) (chosenC C g' l b) (C.nb b) l):=by
 have hk:=tellSt_keep (W.sp b) (W.sp b).prs (y.st b)
 have e1:∀ c,((tellW W y b).st c).rt=(y.st c).rt/\((tellW W y b).st c).org=(y.st c).org:=fun c=>by
  rw [tellW_st]
  by_cases e:c=b
  ·rw [if_pos e,e]; exact ⟨hk.2.1,hk.2.2⟩
  ·rw [if_neg e]; exact ⟨rfl,rfl⟩
 have c0:=cho_rel o tp co hx R wf r0 hb
 have c1:=cho_rel o tp co hy R wf r1 hb
 have hnb:=co.nb b hb
 have hnm:∀ q∈W.nb b,nmOf W b q.2.no=q.1:=fun q hq=>nmOf_eq o R wf hb hq
 have hq:∀ a d,(tellW W y b).q a d=(pushRows W b (setSt y b (tellSt (W.sp b) (y.st b) (W.sp b).prs)) (tellRows (W.sp b) (y.st b) ((W.nb b).map (·.2)))).q a d:=fun a d=>by
  unfold tellW; rw [o.prs b hb]
 refine ⟨⟨(e1 _).2.trans r1.org,fun c hc q hqn=>?_,(tellC_ks ..).trans r1.ks⟩,fun a d had=>?_⟩
 ·rw [(e1 c).1,r1.rt c hc q hqn]
  by_cases e:q.1=b/\c∈C.nb b
  ·have hcn:=e.2
   rw [e.1,tellC_at C b _ _ _ _ (hnb▸o.ndn b hb) hcn (by rw [r1.ks]; exact e.1▸tp.way c hc q hqn)]
  ·rw [tellC_else C b _ _ _ _ e]
 ·rw [hq]
  by_cases e:a=b/\d∈C.nb b
  ·obtain ⟨rfl,hd⟩:=e
   rw [tellC_at C a _ _ _ _ (hnb▸o.ndn a hb) hd (by rw [r1.ks]; exact had)]
   rw [hnb] at hd
   obtain ⟨q,hqn,rfl⟩:=List.mem_map.mp hd
   rw [pushT_at W a (W.sp a) (W.nb a) _ (y.st a) hnm (o.ndn a hb) hqn,msgL_eq,c0,c1,due_rel o co R wf hb (cho_via o hx hb) hqn,due_rel o co R wf hb (cho_via o hy hb) hqn,ho,hx.out a hb (fun z=>nomatch z) q.2 (by rw [o.prs a hb]; exact List.mem_map_of_mem hqn)]
   exact congrArg (·++_) (q1 a q.1 had)
  ·rw [tellC_else C b _ _ _ _ e,pushT_else W b (W.sp b) (W.nb b) _ (y.st b) hnm (by rw [← hnb]; exact e)]
   exact q1 a d had
end
theorem hear_rt {s:Sp} {x:SpSt} (p:Pr) (m:Msg) (now n:Int):((hearM s x p m now).rt n).map (·.1)=if n=p.no then m else (x.rt n).map (·.1):=by
 cases m with
 | none =>
  show ((cond (x.rt p.no).isSome (chooseR s (setRt x p.no none)) x).rt n).map (·.1)=_
  cases e:(x.rt p.no).isSome with
  | true =>
   show (if n=p.no then none else x.rt n).map (·.1)=_
   by_cases z:n=p.no
   ·rw [if_pos z,if_pos z]; rfl
   ·rw [if_neg z,if_neg z]
  | false =>
   show (x.rt n).map (·.1)=_
   by_cases z:n=p.no
   ·rw [if_pos z,z,Option.not_isSome_iff_eq_none.mp (Bool.eq_false_iff.mp e)]; rfl
   ·rw [if_neg z]
 | some a =>
  show ((cond (news (x.rt p.no) a) (chooseR s (setRt x p.no (some (a,now)))) x).rt n).map (·.1)=_
  cases e:news (x.rt p.no) a with
  | true =>
   show (if n=p.no then some (a,now) else x.rt n).map (·.1)=_
   by_cases z:n=p.no
   ·rw [if_pos z,if_pos z]; rfl
   ·rw [if_neg z,if_neg z]
  | false =>
   show (x.rt n).map (·.1)=_
   by_cases z:n=p.no
   ·rw [if_pos z,z]
    cases hq:x.rt p.no with
    | none=>rw [hq] at e; exact nomatch e
    | some q =>
     rw [hq] at e
     have e:(!decide (q.1=a))=false:=e
     exact congrArg some (of_decide_eq_true ((Bool.not_eq_false' _).mp e))
   ·rw [if_neg z]
theorem hear_keep {s:Sp} {x:SpSt} (p:Pr) (m:Msg) (now:Int):(hearM s x p m now).org=x.org/\∀ n,(hearM s x p m now).out n=x.out n :=
 hearM_in (F:=fun y=>y.org=x.org/\∀ n,y.out n=x.out n) p m now ⟨rfl,fun _=>rfl⟩ fun _ _=>⟨rfl,fun _=>rfl⟩
section
variable {W:Wd} (o:W.Ok) (tp:Topo W) {C:Cf} (co:CfOk W C) {bk:Bk} {T:Nat} {x:WSt} {J:AH} (R:WRep W x J) (wf:Wf J) (h:Inv W bk T x none) {g:Bool} {l:Sl} (re:Rel W x g l)
include o tp co R wf h re
theorem deliver_rel {a b:Nat} (hab:(a,b)∈W.ways) {p:Pr} (hp:(a,p)∈W.nb b) {m:Msg} {rest:List Msg} (hx:x.q a b=m::rest) (now:Int):Rel W (deliverW W x a b p m rest now) g (deliverC C g l a b m rest):=by
 have hb:=(o.wayn _ hab).2.1
 have hy:=pre_hear o R wf hab hp hx h now
 have hk:(a,b)∈l.map (·.1):=by rw [re.r.ks]; exact hab
 have hs:=hear_keep (s:=W.sp b) (x:=x.st b) p m now
 refine tell_rel o tp co R wf hb h hy re.r ⟨?_,fun c hc q hq=>?_,(upW_ks ..).trans re.r.ks⟩ (fun c d hcd=>?_) (fun n=>?_)
 ·show (if 81=b then hearM (W.sp b) (x.st b) p m now else x.st 81).org=g
  by_cases e:81=b
  ·rw [if_pos e,hs.1,← e]; exact re.r.org
  ·rw [if_neg e]; exact re.r.org
 ·show ((if c=b then hearM (W.sp b) (x.st b) p m now else x.st c).rt q.2.no).map (·.1)=_
  by_cases e:c=b
  ·subst e
   rw [if_pos rfl,hear_rt]
   by_cases z:q.2.no=p.no
   ·have hqa:=nb_no o R wf hc hp hq z
    rw [if_pos z,hqa,lkW_up a c _ hk]
   ·rw [if_neg z,lkW_else _ (fun y:q.1=a/\c=c=>z (congrArg (fun r:Nat×Pr=>r.2.no) (nd_fst (o.ndn c hc) hp hq y.1))),re.r.rt c hc q hq]
  ·rw [if_neg e,lkW_else _ (fun y:q.1=a/\c=b=>e y.2),re.r.rt c hc q hq]
 ·show (if c=a/\d=b then rest else x.q c d)=_
  by_cases e:c=a/\d=b
  ·rw [if_pos e,e.1,e.2,lkW_up a b _ hk]
  ·rw [if_neg e,lkW_else _ e,re.q c d hcd]
 ·show (if b=b then hearM (W.sp b) (x.st b) p m now else x.st b).out n=_
  rw [if_pos rfl]; exact hs.2 n
theorem org_rel (he:81∈W.ns) (g':Bool):Rel W (tellW W (setSt x 81 (chooseR (W.sp 81) (setOrg (x.st 81) g'))) 81) g' (setC C g g' l):=by
 have st:∀ c,((setSt x 81 (chooseR (W.sp 81) (setOrg (x.st 81) g'))).st c).rt=(x.st c).rt:=fun c=>by
  show (if c=81 then chooseR (W.sp 81) (setOrg (x.st 81) g') else x.st c).rt=_
  by_cases e:c=81
  ·rw [if_pos e,e]; rfl
  ·rw [if_neg e]
 exact tell_rel o tp co R wf he h (pre_org h) re.r ⟨rfl,fun c hc q hq=>by rw [st c]; exact re.r.rt c hc q hq,re.r.ks⟩ re.q fun _=>rfl
end
open L2
theorem eqO_ok {a b:Option Row} (h:eqO a b=true):a=b:=of_decide_eq_true ((eqO_dec a b).symm.trans h)
theorem eqQ_ok:∀ {a b:List (Option Row)},eqQ a b=true->a=b
 | [],[],_=>rfl
 | [],_::_,h=>nomatch h
 | _::_,[],h=>nomatch h
 | a::r,b::s,h=>andK (a:=eqO a b) h fun h1 h2=>by rw [eqO_ok h1,eqQ_ok h2]
theorem eqL_ok:∀ {a b:Sl},eqL a b=true->a=b
 | [],[],_=>rfl
 | [],_::_,h=>nomatch h
 | _::_,[],h=>nomatch h
 | a::r,b::s,h=>andK (a:=eqO a.2.1 b.2.1) h fun h1 h=>andK h fun h2 h=>andK h fun h3 h5=>andK h3 fun h3 h4 =>
  congr (congrArg List.cons (Prod.ext (Prod.ext (Nat.eq_of_beq_eq_true h3) (Nat.eq_of_beq_eq_true h4)) (Prod.ext (eqO_ok h1) (eqQ_ok h2)))) (eqL_ok h5)
theorem mem_addS {s t:Sl} {l:List Sl} (h:t=s∨t∈l):t∈addS s l:=by
 unfold addS
 cases e:l.any (eqL s) with
 | true =>
  refine h.elim (fun z=>?_) id
  obtain ⟨u,hu,hs⟩:=List.any_eq_true.mp e
  rw [z,eqL_ok hs]; exact hu
 | false=>exact h.elim (fun z=>z▸.head _) (.tail _)
theorem mem_addAll {t:Sl}:∀ {r l:List Sl},t∈r∨t∈l->t∈addAll r l:=by
 intro r
 induction r with
 | nil =>
  intro _ h
  exact h.resolve_left fun z=>nomatch z
 | cons s r ih =>
  intro l h
  exact show t∈addAll r (addS s l) from ih (h.elim (fun z=>(List.mem_cons.mp z).elim (fun z=>.inr (mem_addS (.inl z))) .inl) fun z=>.inr (mem_addS (.inr z)))
section
variable {C:Cf} {g:Bool}
theorem mem_level {t:Sl}:∀ {ls acc:List Sl},((∃ s∈ls,t∈nextC C g s s)∨t∈acc)->t∈level C g ls acc:=by
 intro ls
 induction ls with
 | nil =>
  intro _ h
  exact h.resolve_left fun z=>z.elim fun _ y=>nomatch y.1
 | cons u r ih =>
  intro acc h
  exact show t∈level C g r (addAll (nextC C g u u) acc) from ih (h.elim (fun z=>z.elim fun s y=>(List.mem_cons.mp y.1).elim (fun e=>.inr (mem_addAll (.inl (e▸y.2)))) fun e=>.inl ⟨s,e,y.2⟩) fun z=>.inr (mem_addAll (.inr z)))
theorem mem_next {l:Sl} {e:(Nat×Nat)×Slot} {m:Option Row} {rest:List (Option Row)} (he:e.2.2=m::rest):∀ {r:Sl},e∈r->deliverC C g l e.1.1 e.1.2 m rest∈nextC C g l r:=by
 intro r
 induction r with
 | nil=>exact fun h=>nomatch h
 | cons x r ih =>
  intro h
  show _∈(match x.2.2 with | []=>nextC C g l r | m::rest=>deliverC C g l x.1.1 x.1.2 m rest::nextC C g l r)
  rcases List.mem_cons.mp h with rfl | h
  ·rw [he]; exact .head _
  ·cases x.2.2 with
   | nil=>exact ih h
   | cons _ _=>exact .tail _ (ih h)
noncomputable def Ends (C:Cf) (g:Bool) (ok:Sl->Bool):Nat->Sl->Prop
 | 0,_=>False
 | n+1,l=>(quietC l=true->ok l=true)/\∀ e∈l,∀ m rest,e.2.2=m::rest->Ends C g ok n (deliverC C g l e.1.1 e.1.2 m rest)
theorem explore_ok {ok:Sl->Bool}:∀ (n:Nat) (ls:List Sl),explore C g ok n ls=true->∀ l∈ls,Ends C g ok n l
 | 0,ls,h,l,hl=>by
  have h:ls.isEmpty=true:=h
  rw [List.isEmpty_iff.mp h] at hl; exact nomatch hl
 | n+1,[],_,_,hl=>nomatch hl
 | n+1,s::r,h,l,hl=>andK (a:=(s::r).all fun s=>cond (quietC s) (ok s) true) h fun h1 h2 =>
  ⟨fun hq=>by
   have:=List.all_eq_true.mp h1 l hl
   rw [hq] at this; exact this,fun e he m rest hm=>explore_ok n _ h2 _ (mem_level (.inl ⟨l,hl,mem_next hm he⟩))⟩
end
theorem lkW_mem {a b:Nat}:∀ {l:Sl},(a,b)∈l.map (·.1)->∃ e∈l,e.1=(a,b)/\e.2=lkW a b l:=by
 intro l
 induction l with
 | nil=>exact fun h=>nomatch h
 | cons e l ih =>
  intro h
  show ∃ x∈e::l,x.1=(a,b)/\x.2=cond (atWay a b e) e.2 (lkW a b l)
  cases q:atWay a b e with
  | true=>exact ⟨e,.head _,atWay_t.mp q,rfl⟩
  | false =>
   obtain ⟨x,hx,y⟩:=ih ((List.mem_cons.mp h).resolve_left fun z=>nomatch q.symm.trans (atWay_t.mpr z.symm))
   exact ⟨x,.tail _ hx,y⟩
theorem lkW_of:∀ {l:Sl},(l.map (·.1)).Nodup->∀ e∈l,lkW e.1.1 e.1.2 l=e.2:=by
 intro l
 induction l with
 | nil=>exact fun _ _ h=>nomatch h
 | cons x l ih =>
  intro hn e he
  have ⟨n1,n2⟩:=List.nodup_cons.mp hn
  show cond (atWay e.1.1 e.1.2 x) x.2 (lkW e.1.1 e.1.2 l)=e.2
  rcases List.mem_cons.mp he with rfl | he
  ·rw [atWay_t.mpr rfl]; rfl
  ·have:atWay e.1.1 e.1.2 x=false:=Bool.eq_false_iff.mpr fun z=>n1 (show x.1∈l.map _ from (atWay_t.mp z).symm▸List.mem_map_of_mem he)
   rw [this]; exact ih n2 e he
section
variable {W:Wd} (o:W.Ok) {x:WSt} {g:Bool} {l:Sl} (re:Rel W x g l)
include o re
theorem quiet_rel (h:full W x=[]):quietC l=true:=List.all_eq_true.mpr fun e he=>by
 have hw:e.1∈W.ways:=by rw [← re.r.ks]; exact List.mem_map_of_mem he
 have h1:x.q e.1.1 e.1.2=e.2.2:=by rw [re.q _ _ hw,lkW_of (by rw [re.r.ks]; exact o.ndw) e he]
 rw [← h1]
 cases hq:x.q e.1.1 e.1.2 with
 | nil=>rfl
 | cons m r=>exact nomatch (show e.1∈[] from h▸List.mem_filter.mpr ⟨hw,decide_eq_true (by rw [hq]; exact Nat.succ_pos _)⟩)
omit o in
theorem next_rel {C:Cf} {ok:Sl->Bool} {n:Nat} (h:Ends C g ok (n+1) l) {a b:Nat} (hab:(a,b)∈W.ways) {m:Msg} {rest:List Msg} (hx:x.q a b=m::rest):Ends C g ok n (deliverC C g l a b m rest):=by
 obtain ⟨e,he,h1,h2⟩:=lkW_mem (l:=l) (a:=a) (b:=b) (by rw [re.r.ks]; exact hab)
 have:=h.2 e he m rest (by rw [h2,← re.q a b hab]; exact hx)
 rw [h1] at this; exact this
end
open L2
structure RestOk (W:Wd) (x:WSt):Prop where
 ok:∀ b∈names.tail,∀ q∈W.nb b,∀ p,(b,p)∈W.nb q.1->∀ r,(x.st q.1).out p.no=some r->(W.sp b).cl∈r∨∃ ch,(x.st b).cho=some ch/\ch.c.length<=r.length
 out:∀ a∈W.ns,∀ q∈W.nb a,∀ r,(x.st a).out q.2.no=some r->r.length<=500
 cho:∀ a∈W.ns,∀ r,(x.st a).cho=some r->r.c.length<=500
noncomputable abbrev RestI (W:Wd) (lo:List Nat) (qs:List (Nat×Pr)) (fr:FrA) (J:AH):Prop:=∃ fr',Ef 60 fr (J.lock lo) (.loc 154) [(.asg 155 (.meth (.sub (.attr (.sub (.attr (.loc 237) 203) (.loc 154)) 157) (.sub (.sub (.attr (.loc 237) 146) (.loc 154)) (.loc 139))) 89 [(.glb 22)])),(.ite (.or [(.cmp (.loc 155) .is (.cst .none)),(.cmp (.sub (.attr (.loc 202) 159) (.cst (.str 62))) .inn (.meth (.loc 155) 89 [(.cst (.str 63)),(.tup [])]))]) [.cont] []),(.ite (.or [(.cmp (.callF 80 [(.loc 237),(.loc 139)]) .is (.cst .none)),(.cmp (.callB .len (.callF 80 [(.loc 237),(.loc 139)])) .gt (.callB .len (.meth (.loc 155) 89 [(.cst (.str 63)),(.tup [])])))]) [(.ret (.cst (.bool false)))] [])] (qs.map fun q=>.str q.1) .next fr' (J.lock lo)/\lk fr'.loc 237=some (.ref (W.U .me))
section
variable {W:Wd} (o:W.Ok) {x:WSt} {J:AH} (R:WRep W x J)
include o R
theorem is_quiet_ev (w:Wf J) (hq:∀ c d,(x.q c d).length<=800) (h:full W x=[]):Grow 40 J 67 [.ref (W.U .me)] (.bool true):=by
 refine x2c4 (pending_ev o R w hq) fun l' J' q1 c1 l1 p1=>?_
 rw [h] at p1
 have hn:=p1.eq_nil
 subst hn
 have e:=R.me
 exact ⟨J',by apply Cl.mk (F:=f_BgpWorld_is_quiet) rfl rfl; ktr_unf,c1⟩
theorem rest_inner (h:RestOk W x) {b:Nat} (hb:b∈W.ns) (hbt:b∈names.tail) (lo:List Nat):∀ (qs:List (Nat×Pr)),(∀ q∈qs,q∈W.nb b)->∀ (fr:FrA),lk fr.loc 237=some (.ref (W.U .me))->lk fr.loc 139=some (.str b)->lk fr.loc 202=some (.ref (W.U (.sp b .me))) ->
  RestI W lo qs fr J:=by
 intro qs
 induction qs with
 | nil=>exact fun _ fr h1 _ _=>⟨fr,Ef.nil,h1⟩
 | cons q qs ih =>
  intro hqs fr h1 h2 h3
  have hq:=hqs q (.head _)
  have hw:=o.way b hb q hq
  have ⟨_,ha,p,hp⟩:=o.wayn _ hw
  have R:=R.lck lo
  have e:=R.me; have e1:=R.speakers; have e2:=R.numbers; have e3:=R.num ha
  have f1:=byNm_get (W:=W) (.sp · .me) ha; have f2:=byNm_fit W (.sp · .me) q.1; have f3:=byNm_get .num ha; have f4:=byNm_fit W .num q.1
  have f5:=numL_get (o.ndn q.1 ha) hp; have f6:=numL_fit W q.1 b
  have Sa:=R.sp o ha
  have hpp:p∈(W.sp q.1).prs:=by rw [o.prs q.1 ha]; exact List.mem_map_of_mem hp
  have e4:=Sa.me; have e5:=Sa.outs; have e6:=Sa.ot hpp
  have f7:=byNo_get (o.ok q.1 ha) .ot hpp; have f8:=byNo_fit (W.sp q.1) .ot p.no
  have Sb:=R.sp o hb
  have e7:=Sb.me; have e8:=Sb.own
  rw [o.spU] at e4 e7
  have g1:=pre_fit (((x.st q.1).out p.no).map rowV); have g2:=pre_get (((x.st q.1).out p.no).map rowV)
  have hrow:=row_ev o R hb
  unfold rowO at hrow
  have next:=fun (v:AV)=>ih (fun z hz=>hqs z (.tail _ hz)) ((fr.bT (.loc 154) (.str q.1)).sl 155 v) (lk_slO rfl (lk_slO rfl h1)) (lk_slO rfl (lk_slO rfl h2)) (lk_slO rfl (lk_slO rfl h3))
  cases ho:(x.st q.1).out p.no with
  | none =>
   rw [ho] at e6 g1 g2
   refine x1c2 ((next .none)) fun fr' E w'=>?_
   exact ⟨fr',Ef.k (fl1:=.cont) rfl (by ktr_unf) (Fk.ct E),w'⟩
  | some r =>
   rw [ho] at e6 g1 g2
   refine x1c2 ((next (rowV r))) fun fr' E w'=>?_
   have hin:=inv_nats (W.sp b).cl r
   have hi1:cmpv (J.lock lo) (natV (W.sp b).cl) .inn (rowT r)=some (r.contains (W.sp b).cl):=hin
   cases hc:r.contains (W.sp b).cl with
   | true =>
    rw [hc] at hi1
    exact ⟨fr',Ef.k (fl1:=.cont) rfl (by ktr_unf) (Fk.ct E),w'⟩
   | false =>
    rw [hc] at hi1
    have hs:=(h.ok b hbt q hq p hp r ho).resolve_left fun z=>Bool.false_ne_true (hc.symm.trans (List.contains_iff_mem.mpr z))
    obtain ⟨ch,hch,hle⟩:=hs
    have l1:=h.out q.1 ha _ hp r ho
    have l2:=h.cho b hb ch hch
    rw [hch] at hrow
    have hrow:Cl 16 (J.lock lo) 80 [.ref (W.U .me),.str b] (rowT ch.c) (J.lock lo):=hrow
    have hf1:few (r.map natV).length=true:=few_ok (by rw [List.length_map]; omega)
    have hf2:few (ch.c.map natV).length=true:=few_ok (by rw [List.length_map]; omega)
    have hd:decide (((r.map natV).length:Int) < ((ch.c.map natV).length:Nat))=false:=decide_eq_false (by rw [List.length_map,List.length_map]; omega)
    exact ⟨fr',Ef.k (fl1:=.next) rfl (by ktr_unf) (Fk.nx E),w'⟩
theorem rest_outer (h:RestOk W x) (lo:List Nat):∀ (bs:List Nat),(∀ b∈bs,b∈W.ns/\b∈names.tail)->∀ (fr:FrA),lk fr.loc 237=some (.ref (W.U .me)) ->
  ∃ fr',Ef 64 fr (J.lock lo) (.loc 139) [(.asg 202 (.sub (.attr (.loc 237) 203) (.loc 139))),(.for_ (.loc 154) (.of (.sub (.attr (.loc 237) 146) (.loc 139))) [(.asg 155 (.meth (.sub (.attr (.sub (.attr (.loc 237) 203) (.loc 154)) 157) (.sub (.sub (.attr (.loc 237) 146) (.loc 154)) (.loc 139))) 89 [(.glb 22)])),(.ite (.or [(.cmp (.loc 155) .is (.cst .none)),(.cmp (.sub (.attr (.loc 202) 159) (.cst (.str 62))) .inn (.meth (.loc 155) 89 [(.cst (.str 63)),(.tup [])]))]) [.cont] []),(.ite (.or [(.cmp (.callF 80 [(.loc 237),(.loc 139)]) .is (.cst .none)),(.cmp (.callB .len (.callF 80 [(.loc 237),(.loc 139)])) .gt (.callB .len (.meth (.loc 155) 89 [(.cst (.str 63)),(.tup [])])))]) [(.ret (.cst (.bool false)))] [])])] (bs.map .str) .next fr' (J.lock lo):=by
 intro bs
 induction bs with
 | nil=>exact fun _ fr _=>⟨fr,Ef.nil⟩
 | cons b bs ih =>
  intro hbs fr h1
  have ⟨hb,hbt⟩:=hbs b (.head _)
  have e:=(R.lck lo).me; have e1:=(R.lck lo).speakers; have e2:=(R.lck lo).numbers; have e3:=(R.lck lo).num hb
  have f1:=byNm_get (W:=W) (.sp · .me) hb; have f2:=byNm_fit W (.sp · .me) b; have f3:=byNm_get .num hb; have f4:=byNm_fit W .num b
  have hk:(numL W b).map (·.1)=(W.nb b).map fun q=>.str q.1:=by unfold numL; rw [List.map_map]; rfl
  refine x1c2 ((rest_inner o R h hb hbt ([W.U (.num b)]++lo) (W.nb b) (fun _ z=>z) ((fr.bT (.loc 139) (.str b)).sl 202 (.ref (W.U (.sp b .me)))) (lk_slO rfl (lk_slO rfl h1)) (lk_slO rfl lk_sl) lk_sl)) fun fr1 E w1=>?_
  rw [← hk] at E
  obtain ⟨fr',E'⟩:=ih (fun z hz=>hbs z (.tail _ hz)) fr1 w1
  have hsp:Ee 63 (fr.bT (.loc 139) (.str b)) (J.lock lo) (.sub (.attr (.loc 237) 203) (.loc 139)) (.ref (W.U (.sp b .me))) (J.lock lo):=by ktr_unf
  have hit:Ee 63 ((fr.bT (.loc 139) (.str b)).sl 202 (.ref (W.U (.sp b .me)))) (J.lock lo) (.sub (.attr (.loc 237) 146) (.loc 139)) (.ref (W.U (.num b))) (J.lock lo):=by ktr_unf
  exact ⟨fr',Ef.k rfl (Es.asg rfl hsp (Es.for_ (h1:=J.lock lo) (Ei.of hit (it_dic e3)) (E.up rfl) (Sk.nx Es.nil))) (Fk.nx E')⟩
theorem rests_right_ev (hns:W.ns=names) (w:Wf J) (h:RestOk W x):Grow 80 J 82 [.ref (W.U .me)] (.bool true):=by
 have c1:=Ch.new (S:=[]) w (.lst (names.map AV.str))
 have c2:=c1.ad (.lst ((names.map AV.str).drop 1))
 obtain ⟨fr',E⟩:=rest_outer o (R.gr w c2) h [J.nx+1] names.tail (fun b hb=>⟨hns▸List.mem_of_mem_tail hb,hb⟩) (frP (f__law_rests_right).params [.ref (W.U .me)]) rfl
 refine ⟨_,Cl.mk (F:=f__law_rests_right) (fl:=.ret (.bool true)) (fr1:=fr') rfl rfl (Es.for_ (n:=78) (Ei.of (Ee.slf (Ee.callF El.nil ((names_ev J).up rfl)) Ee.cst (sf_lst at_new rfl)) (it_lst at_new)) (E.up rfl) (Sk.nx (Es.ret Ee.cst))) (cr0 (fz_r rfl)),c2⟩
end
theorem last_ev {W:Wd} (o:W.Ok) (hns:W.ns=names) {x:WSt} {J:AH} (R:WRep W x J) (w:Wf J) (h:∀ b∈W.ns,(x.st b).cho=none) {fr:FrA} (h1:lk fr.cel 237=some (.ref (W.U .me))) :
  ∃ J',Ee 60 fr J (.cmp (.comp (.loc 139) [.mk (.loc 139) (.of (.callF 79 [])) [.cmp (.callF 80 [.cel 237,.loc 139]) .isNot (.cst .none)]]) .eq (.lst [])) (.bool true) J':=by
 have c1:=Ch.new (S:=[]) w (.lst (names.map AV.str))
 have k:=Ek_run (n:=50) (fr:=fr) (m:=139) (ifs:=[.cmp (.callF 80 [.cel 237,.loc 139]) .isNot (.cst .none)]) (x:=.loc 139) AV.str (fun _=>false) AV.str rfl (Ei.of (Ee.callF El.nil ((names_ev J).up rfl)) (it_lst at_new)) (by decide) (fun b hb=>by
  have hb:b∈W.ns:=hns▸hb
  have q:=row_ev o ((R.gr w c1).lck (lockOf (.ref J.nx))) hb
  unfold rowO at q
  rw [h b hb] at q
  have q:Cl 16 ((J.ad (.lst (names.map AV.str))).lock (lockOf (.ref J.nx))) 80 [.ref (W.U .me),.str b] .none ((J.ad (.lst (names.map AV.str))).lock (lockOf (.ref J.nx))):=q
  ktr_unf) (fun b _=>by ktr_unf)
 have hf:(names.filter fun _=>false)=[]:=rfl
 rw [hf] at k
 have w2:=(c1.ad (.lst [])).wf
 have hc:cmpv (((J.ad (.lst (names.map AV.str))).ad (.lst [])).ad (.lst [])) (.ref (J.nx+1)) .eq (.ref (J.nx+2))=some true:=by
  have e1:=at_old (o':=.lst []) w2 (at_new (J:=J.ad (.lst (names.map AV.str))) (o:=.lst []))
  have e2:=at_new (J:=(J.ad (.lst (names.map AV.str))).ad (.lst [])) (o:=.lst [])
  exact bo (o:=(lk _ (J.nx+1)).bind AO.l?) (bo (o:=lk _ (J.nx+1)) e1 rfl) (bo (o:=(lk _ (J.nx+2)).bind AO.l?) (bo (o:=lk _ (J.nx+2)) e2 rfl) (bc rfl rfl))
 exact ⟨_,Ee.cmp (Ee.comp (k.up rfl)) (Ee.lst El.nil) hc⟩
open L2
structure EnvF (W:Wd) (fr:FrA):Prop where
 box:lk fr.loc 52=some (.ref 3)
 book:lk fr.loc 51=some (.ref 4)
 world:lk fr.cel 237=some (.ref (W.U .me))
structure EnvH (W:Wd) (ns:List Int) (J:AH) (x:WSt) (bk:Bk) (k:Nat):Prop where
 wf:Wf J
 rep:WRep W x J
 ro:J.ro=[0]
 two:lk J.ob 2=some (.lst (ns.map .int))
 box:lk J.ob 3=some (bx k)
 bk:lk J.ob 4=some (.dic (bookL bk))
theorem free0 {J:AH} (h:J.ro=[0]) {i:Nat} (hi:i≠0):hasN J.ro i=false:=by rw [h]; exact hasN_skip (nbF (Ne.symm hi)) rfl
theorem nm1 {i j:Nat} (h:i≠j):i∉[j]:=fun z=>h (List.mem_singleton.mp z)
theorem ne5 {i j:Nat} (h:j < 5) (h5:5<=i):i≠j:=Nat.ne_of_gt (Nat.lt_of_lt_of_le h h5)
section
variable {W:Wd} (ids:∀ k,W.has k->5<=W.U k) {ns:List Int} {J:AH} {x:WSt} {bk:Bk} {k:Nat} (e:EnvH W ns J x bk k)
include ids e
theorem EnvH.free:WFree W J:=fun q hq=>free0 e.ro (ne5 (by decide) (ids q hq))
theorem EnvH.drawn (k':Nat):EnvH W ns (J.st 3 (bx k')) x bk k' :=
 have c:=(Ch.refl (S:=[3]) e.wf).st (o':=bx k') e.box (.inl (.head _))
 ⟨c.wf,RepK.ch e.rep e.wf c fun q hq=>nm1 (ne5 (by decide) (ids q hq)),e.ro,c.at e.wf e.two (nm1 (by decide)),at_st,c.at e.wf e.bk (nm1 (by decide))⟩
theorem EnvH.goes {J':AH} {x':WSt} (c:ChW W J J') (R:WRep W x' J'):EnvH W ns J' x' bk k :=
 have n:∀ i,i < 5->∀ q,W.has q->W.U q≠i:=fun i hi q hq=>ne5 hi (ids q hq)
 ⟨c.wf,R,c.ro.trans e.ro,c.at e.wf e.two (n 2 (by decide)),c.at e.wf e.box (n 3 (by decide)),c.at e.wf e.bk (n 4 (by decide))⟩
variable (o:W.Ok) (tp:Topo W)
include o tp
theorem look_at {T:Nat} (hT:T<=75) (M:Mid W bk T x) (hbl:bk.length<=4 * T):∃ J' bk',Cl 80 J 81 [.ref (W.U .me),.ref 4] (.bool true) J'/\EnvH W ns J' x bk' k/\Inv W bk' (T+1) x none/\bk'.length<=4 * (T+1):=by
 refine x2c4 (right_ev o tp.ns (fun a ha r hr=>(M.held a ha r hr).1) e.rep e.wf (fun q hq=>ne5 (by decide) (ids q hq)) e.bk (free0 e.ro (by decide)) (ltr hbl (ltr (Nat.mul_le_mul_left 4 hT) (by decide)))) fun J' bk' q c b g=>?_
 refine ⟨J',bk',q,⟨c.wf,RepK.ch e.rep e.wf c fun q hq=>nm1 (ne5 (by decide) (ids q hq)),c.ro.trans e.ro,c.at e.wf e.two (nm1 (by decide)),c.at e.wf e.box (nm1 (by decide)),b⟩,M.next bk' g.sub (fun b hb r hr=>g.has b (tp.ns▸hb) r hr) (fun p hp=>?_),ltr g.len (Nat.add_le_add_right hbl 4)⟩
 rcases g.of p hp with z | ⟨a,ha,r,hr,rfl⟩
 ·exact good_mono (M.good p z) (Nat.le_succ T)
 ·exact (M.held a (tp.ns.symm▸ha) r hr).2
end
noncomputable def turnB:List S:=[(.ite (.not (.meth (.cel 237) 205 [(.callF 73 [(.loc 52),(.cst (.int (9)))]),(.loc 223)])) [.brk] []),(.ite (.not (.callF 81 [(.cel 237),(.loc 51)])) [(.ret (.cst (.bool false)))] [])]
theorem El.up16 {n m:Nat} {fr:FrA} {h h1:AH} {l:List X} {vs:List AV} (e:El n fr h l vs h1) (hm:n<=m):El m fr h l vs h1:=fun k q=>e k (ltr hm q)
theorem EnvF.sl {W:Wd} {fr:FrA} (E:EnvF W fr) {m:Nat} (h1:Nat.beq m 52=false) (h2:Nat.beq m 51=false) (v:AV):EnvF W (fr.sl m v):=⟨lk_slO h1 E.box,lk_slO h2 E.book,E.world⟩
structure At (W:Wd) (ns:List Int) (J:AH) (x:WSt) (bk:Bk) (k T:Nat) (g:Bool) (l:Sl):Prop where
 e:EnvH W ns J x bk k
 h:Inv W bk T x none
 re:Rel W x g l
 bl:bk.length<=4 * T
noncomputable abbrev Turned (W:Wd) (ns:List Int) (g:Bool) (ok:Sl->Bool) (n t d T k:Nat) (fr:FrA) (J:AH):Prop:=∃ fr' J' x' bk' l' T' k',Ef 160 fr J (.loc 223) turnB ((List.range' t d).map fun i:Nat=>AV.int i) .next fr' J'/\EnvF W fr'/\(∀ v,lk fr.loc 74=some v->lk fr'.loc 74=some v)/\At W ns J' x' bk' k' T' g l'/\full W x'=[]/\ok l'=true/\T'<=T+n/\k'<=k+n
section
variable {W:Wd} (ids:∀ k,W.has k->5<=W.U k) {ns:List Int} (hns:ns.length<=100) (o:W.Ok) (tp:Topo W) {C:Cf} (co:CfOk W C)
include ids hns o tp co
theorem turns {g:Bool} {ok:Sl->Bool} (n:Nat):∀ (t d:Nat),n<=d->∀ {T k:Nat},T+n<=75->k+n<=199->∀ {fr:FrA} {J:AH} {x:WSt} {bk:Bk} {l:Sl},EnvF W fr->At W ns J x bk k T g l->Ends C g ok n l ->
  Turned W ns g ok n t d T k fr J:=by
 induction n with
 | zero=>exact fun _ _ _ _ _ _ _ _ _ _ _ _ _ _ h=>h.elim
 | succ n ih =>
  intro t d hd T k hT hk fr J x bk l E A h
  obtain ⟨d,rfl⟩:=Nat.exists_eq_add_one_of_ne_zero (Nat.ne_of_gt (Nat.lt_of_lt_of_le (Nat.succ_pos n) hd))
  have hT75:T<=75:=ltr (Nat.le_add_right T (n+1)) hT
  have E1:EnvF W (fr.bT (.loc 223) (.int t)):=E.sl (m:=223) rfl rfl (.int t)
  have hdr:=draw_ev (ns:=ns) (n:=k) A.e.box A.e.two (free0 A.e.ro (by decide)) rfl hns (ltr (Nat.le_add_right k (n+1)) (ltr hk (by decide))) 9 rfl
  have e1:=A.e.drawn ids (k+1)
  have hdr:Cl 16 J 73 [.ref 3,.int 9] (.int (drawV ns k 9)) (J.st 3 (bx (k+1))):=hdr
  generalize J.st 3 (bx (k+1))=J1 at hdr e1
  have b1:=E1.box; have b2:=E1.book; have b3:=E1.world
  have b4:lk (fr.bT (.loc 223) (.int t)).loc 223=some (.int t):=lk_sl
  have a1:El 140 (fr.bT (.loc 223) (.int t)) J [.callF 73 [.loc 52,.cst (.int 9)],.loc 223] [.int (drawV ns k 9),.int t] J1:=by ktr_unf
  have me:=A.e.rep.me
  rcases step_ev o e1.rep e1.wf (e1.free ids) (wok o tp hT75 e1.rep e1.wf A.h t) (drawV ns k 9) with ⟨hf,J',q,c,R'⟩ | ⟨a,b,p,m,rest,hab,hp,hx,J',q,c,R'⟩
  ·have hb:Es 160 (fr.bT (.loc 223) (.int t)) J turnB .brk (fr.bT (.loc 223) (.int t)) J' :=
    Es.ite (n:=159) (q:=true) (Et.not (q:=false) (Et.meth (n:=157) (Ee.mI (n:=156) (Ee.cel b3) me rfl rfl (a1.up16 (by decide)) (q.up rfl)))) Es.brk Sk.bk
   exact ⟨_,J',x,bk,l,T,k+1,Ef.k rfl hb Fk.bk,E1,fun v z=>lk_slO rfl z,⟨e1.goes ids c R',A.h,A.re,A.bl⟩,hf,h.1 (quiet_rel o A.re hf),Nat.le_add_right _ _,Nat.add_le_add_left (Nat.succ_le_succ (Nat.zero_le n)) k⟩
  ·have e2:=e1.goes ids c R'
   have M:=mid_pre o tp hT75 A.e.rep A.e.wf (o.wayn _ hab).2.1 (pre_hear o A.e.rep A.e.wf hab hp hx A.h t)
   have re':=deliver_rel o tp co A.e.rep A.e.wf A.h A.re hab hp hx t
   refine x2c4 (look_at ids e2 o tp hT75 M A.bl) fun J2 bk2 q2 e3 h3 bl3=>?_
   refine x7c8 ((ih (t+1) d (Nat.le_of_succ_le_succ hd) (T:=T+1) (k:=k+1) (ltr (Nat.le_of_eq (Nat.succ_add_eq_add_succ T n)) hT) (ltr (Nat.le_of_eq (Nat.succ_add_eq_add_succ k n)) hk) E1 ⟨e3,h3,re',bl3⟩ (next_rel A.re h hab hx))) fun fr' J' x' bk' l' T' k' Q r1 r2 r3 r4 r5 r6 r7=>?_
   have hb:Es 160 (fr.bT (.loc 223) (.int t)) J turnB .next (fr.bT (.loc 223) (.int t)) J2 :=
    Es.ite (n:=159) (q:=false) (Et.not (q:=true) (Et.meth (n:=157) (Ee.mI (n:=156) (Ee.cel b3) me rfl rfl (a1.up16 (by decide)) (q.up rfl)))) Es.nil (Sk.nx (Es.ite (n:=159) (q:=false) (Et.not (q:=true) (Et.callF (Ee.callF (El.c (Ee.cel b3) (El.c (Ee.loc b2) El.nil)) (q2.up rfl)))) Es.nil (Sk.nx Es.nil)))
   exact ⟨fr',J',x',bk',l',T',k',Ef.k rfl hb (Fk.nx Q),r1,fun v z=>r2 v (lk_slO rfl z),r3,r4,r5,ltr r6 (Nat.le_of_eq (Nat.succ_add_eq_add_succ T n)),ltr r7 (Nat.le_of_eq (Nat.succ_add_eq_add_succ k n))⟩
end
open L2
noncomputable def deedS:S:=.ite (.cmp (.loc 74) .eq (.cst (.int (0)))) [(.expr (.meth (.sub (.attr (.cel 237) 203) (.cst (.str 81))) 151 [(.glb 22),(.dicF [(150,(.cst (.int (0)))),(44,(.tup [])),(142,(.cst (.int (11))))])]))] [(.expr (.meth (.sub (.attr (.cel 237) 203) (.cst (.str 81))) 234 [(.glb 22)]))]
noncomputable abbrev Phased (W:Wd) (ns:List Int) (v:Bool) (ok:Sl->Bool) (T k:Nat) (fr:FrA) (J:AH):Prop:=∃ fr' J' x' bk' l' T' k',Es 180 fr J [(.ite (.cmp (.loc 74) .eq (.cst (.int (0)))) [(.expr (.meth (.sub (.attr (.cel 237) 203) (.cst (.str 81))) 151 [(.glb 22),(.dicF [(150,(.cst (.int (0)))),(44,(.tup [])),(142,(.cst (.int (11))))])]))] [(.expr (.meth (.sub (.attr (.cel 237) 203) (.cst (.str 81))) 234 [(.glb 22)]))]),(.expr (.meth (.cel 237) 210 [(.cst (.str 81))])),(.ite (.not (.callF 81 [(.cel 237),(.loc 51)])) [(.ret (.cst (.bool false)))] []),(.for_ (.loc 223) (.range (.cst (.int (60)))) [(.ite (.not (.meth (.cel 237) 205 [(.callF 73 [(.loc 52),(.cst (.int (9)))]),(.loc 223)])) [.brk] []),(.ite (.not (.callF 81 [(.cel 237),(.loc 51)])) [(.ret (.cst (.bool false)))] [])]),(.ite (.not (.meth (.cel 237) 101 [])) [(.ret (.cst (.bool false)))] []),(.ite (.and [(.cmp (.loc 74) .eq (.cst (.int (0)))),(.not (.callF 82 [(.cel 237)]))]) [(.ret (.cst (.bool false)))] [])] .next fr' J'/\EnvF W fr'/\At W ns J' x' bk' k' T' v l'/\ok l'=true/\T'<=T+31/\k'<=k+30
noncomputable abbrev Deeded (W:Wd) (ns:List Int) (C:Cf) (g v:Bool) (bk:Bk) (T k:Nat) (l:Sl) (fr:FrA) (J:AH):Prop:=∃ y J1 n J2,Em 150 fr J deedS .next fr J1/\lk J1.ob (W.U .me)=some (.ins 1 W.attrs)/\Cl 110 J1 65 [.ref (W.U .me),.str 81] (.int n) J2/\EnvH W ns J2 y bk k/\Mid W bk T y/\Rel W y v (setC C g v l)
theorem e_in {W:Wd} (tp:Topo W):81∈W.ns:=tp.ns▸.head _
section
variable {W:Wd} (ids:∀ k,W.has k->5<=W.U k) {ns:List Int} (hns:ns.length<=100) (o:W.Ok) (tp:Topo W) {C:Cf} (co:CfOk W C) {T k:Nat} {fr:FrA} {J:AH} {x:WSt} {bk:Bk} {l:Sl}
include ids o tp
theorem set_ev (hT:T<=75) (E:EnvF W fr) (e:EnvH W ns J x bk k) (h:Inv W bk T x none) (v:Bool) (hi:lk fr.loc 74=some (.int (cond v 0 1))) :
  ∃ J1,Em 150 fr J deedS .next fr J1/\Ch [(W.sp 81).U .origins,(W.sp 81).U .chosen] J J1/\SpRep (W.sp 81) (chooseR (W.sp 81) (setOrg (x.st 81) v)) J1:=by
 have hb:=e_in tp
 have R:=e.rep
 have a1:=R.me; have a2:=R.speakers; have a3:=E.world
 have f1:=byNm_get (W:=W) (.sp · .me) hb; have f2:=byNm_fit W (.sp · .me) 81
 have S:=R.sp o hb
 have Fs:Free (W.sp 81) J:=fun q hq=>by rw [o.spU]; exact e.free ids (.sp 81 q) ⟨hb,hq⟩
 have e6:=S.me
 rw [o.spU] at e6
 cases v with
 | true =>
  refine x1c3 (originate_ev S (o.ok _ hb) e.wf Fs (xok_of o hT h hb)) fun J1 q1 c1 S1=>?_
  rw [o.spU .. ] at q1
  have hi:lk fr.loc 74=some (.int 0):=hi
  exact ⟨J1,Em.ite (q:=true) (by ktr_unf) (by unfold cond; ktr_unf),c1,S1⟩
 | false =>
  refine x1c3 (withdraw_ev S (o.ok _ hb) e.wf Fs (xok_of o hT h hb)) fun J1 q1 c1 S1=>?_
  rw [o.spU .. ] at q1
  have hi:lk fr.loc 74=some (.int 1):=hi
  exact ⟨J1,Em.ite (q:=false) (by ktr_unf) (by unfold cond; ktr_unf),c1,S1⟩
include co
theorem deed_ev (hT:T<=75) (E:EnvF W fr) {g:Bool} (A:At W ns J x bk k T g l) (v:Bool) (hi:lk fr.loc 74=some (.int (cond v 0 1))) :
  Deeded W ns C g v bk T k l fr J:=by
 have hb:=e_in tp
 refine x1c3 (set_ev ids o tp hT E A.e A.h v hi) fun J1 q1 c1 S1=>?_
 have hS:∀ i∈[(W.sp 81).U .origins,(W.sp 81).U .chosen],∃ k,(W.sp 81).has k/\W.U (.sp 81 k)=i:=fun i hi=>by
  rcases List.mem_cons.mp hi with rfl | hi
  ·exact ⟨.origins,trivial,(o.spU _ _).symm⟩
  ·exact ⟨.chosen,trivial,(o.spU _ _).symm.trans (List.mem_singleton.mp hi).symm⟩
 have R1:=rep_sp o A.e.rep A.e.wf hb c1 hS S1
 have cw1:=c1.toW (W:=W) (fun i hi=>(hS i hi).elim fun k q=>⟨.sp 81 k,⟨hb,q.1⟩,q.2⟩)
 have hp:=pre_org (v:=v) A.h
 refine x1c3 (wtell_ev o R1 c1.wf (cw1.free (A.e.free ids)) hb (dok_of o tp hT hp hb) (fun c d=>ltr (hp.ql c d) (ltr (Nat.mul_le_mul_left 10 hT) (by decide)))) fun J2 q2 c2 R2=>?_
 exact ⟨_,J1,_,J2,q1,R1.me,q2,A.e.goes ids (cw1.trans c2) R2,mid_pre o tp hT A.e.rep A.e.wf hb hp,org_rel o tp co A.e.rep A.e.wf A.h A.re hb v⟩
omit ids in
theorem rest_ok (hT:T<=75) (A:At W ns J x bk k T true l) (h:restsC C [177,195,207] l=true):RestOk W x:=by
 have hcl:∀ a∈W.ns,∀ r,(x.st a).cho=some r->r.row.length<=100:=fun a ha r hr=>(held o tp (ltr hT (by decide)) A.h ha hr).1.len
 have hcr:∀ r:Rt,r.c.length<=r.row.length:=fun r=>optF (F:=fun q:Option Int=>(q.elim [] fun _=>r.row:Row).length<=r.row.length) (Nat.zero_le _) (fun _=>Nat.le_refl _) r.no
 have hdue:∀ a∈W.ns,∀ q∈W.nb a,(x.st a).out q.2.no=dueC C (chosenC C true l a) a q.1:=fun a ha q hq=>by
  rw [cho_rel o tp co A.h A.e.rep A.e.wf A.re.r ha,due_rel o co A.e.rep A.e.wf ha (cho_via o A.h ha) hq]
  exact A.h.out a ha (fun z=>nomatch z) q.2 (by rw [o.prs a ha]; exact List.mem_map_of_mem hq)
 refine ⟨fun b hb q hq p hp r hr=>?_,fun a ha q hq r hr=>?_,fun a ha r hr=>ltr (hcr r) (ltr (hcl a ha r hr) (by decide))⟩
 ·have hbn:b∈W.ns:=tp.ns▸List.mem_of_mem_tail hb
  have han:=tp.ns' b hbn q hq
  have h1:=List.all_eq_true.mp (List.all_eq_true.mp h b hb) q.1 (by rw [co.nb b hbn]; exact List.mem_map_of_mem hq)
  have h2:=hdue q.1 han (b,p) hp
  rw [hr] at h2
  have h2:dueC C (chosenC C true l q.1) q.1 b=some r:=h2.symm
  rw [h2] at h1
  have h1:(r.contains (C.cl b)||((chosenC C true l b).elim false fun q=>Nat.ble q.2.length r.length))=true:=h1
  rcases Bool.or_eq_true_iff.mp h1 with z | z
  ·exact .inl (by rw [← co.cl b hbn]; exact List.contains_iff_mem.mp z)
  ·rw [cho_rel o tp co A.h A.e.rep A.e.wf A.re.r hbn] at z
   cases hc:(x.st b).cho with
   | none=>rw [hc] at z; exact nomatch z
   | some ch =>
    rw [hc] at z
    exact .inr ⟨ch,rfl,ltr (hcr ch) (Nat.le_of_ble_eq_true z)⟩
 ·rw [A.h.out a ha (fun z=>nomatch z) q.2 (by rw [o.prs a ha]; exact List.mem_map_of_mem hq)] at hr
  unfold due at hr
  cases hc:(x.st a).cho with
  | none=>rw [hc] at hr; exact nomatch hr
  | some ch =>
   rw [hc] at hr
   have hl:=hcl a ha ch hc
   obtain ⟨row,no,now⟩:=ch
   cases no with
   | none=>cases (show some []=some r from hr); exact Nat.zero_le _
   | some n =>
    exact condK (show cond (n==q.2.no) none (cond (((W.sp a).pr n).kd||q.2.kd) (some ((W.sp a).cl::row)) none)=some r from hr) (fun _ z=>nomatch z) fun _ z=>condK z (fun _ z=>Option.some.inj z▸ltr (Nat.succ_le_succ hl) (by decide)) fun _ z=>nomatch z
omit ids in
theorem none_ok (A:At W ns J x bk k T false l) (h:nobodyC C names l=true):∀ b∈W.ns,(x.st b).cho=none:=fun b hb=>by
 have h1:=List.all_eq_true.mp h b (tp.ns▸hb)
 rw [cho_rel o tp co A.h A.e.rep A.e.wf A.re.r hb] at h1
 cases hc:(x.st b).cho with
 | none=>rfl
 | some r=>rw [hc] at h1; exact nomatch h1
include hns
theorem phase (hT:T<=40) (hk:k<=150) (E:EnvF W fr) {g:Bool} (A:At W ns J x bk k T g l) (v:Bool) (hi:lk fr.loc 74=some (.int (cond v 0 1))) {ok:Sl->Bool} (hE:Ends C v ok 30 (setC C g v l)) (hok:v=true->∀ l,ok l=true->restsC C [177,195,207] l=true) :
  Phased W ns v ok T k fr J:=by
 have hT75:T<=75:=ltr hT (by decide)
 refine x4c6 ((deed_ev ids o tp co hT75 E A v hi)) fun y J1 n J2 m0 me1 q2 e2 M re2=>?_
 refine x2c4 (look_at ids e2 o tp hT75 M A.bl) fun J3 bk3 q3 e3 h3 bl3=>?_
 refine x7c8 ((turns ids hns o tp co 30 0 60 (by decide) (T:=T+1) (k:=k) (by omega) (by omega) E ⟨e3,h3,re2,bl3⟩ hE)) fun fr4 J4 x4 bk4 l4 T4 k4 q4 E4 d4 A4 f4 ok4 hT4 hk4=>?_
 have hT4':T4<=75:=by omega
 refine x1c2 (is_quiet_ev o A4.e.rep A4.e.wf (fun c d=>ltr (A4.h.ql c d) (ltr (Nat.mul_le_mul_left 10 hT4') (by decide))) f4) fun J5 q5 c5=>?_
 have cw5:=c5.toW (W:=W) fun i hi=>nomatch hi
 have e5:=A4.e.goes ids cw5 (A4.e.rep.gr A4.e.wf c5)
 have A5:At W ns J5 x4 bk4 k4 T4 v l4:=⟨e5,A4.h,A4.re,A4.bl⟩
 have w1:=E.world; have w2:=E.book; have w4:=E4.world
 have hi4:=d4 _ hi
 have hr:(List.range' 0 60).map (fun i:Nat=>AV.int i)=rangeL ((60:Int)).toNat:=by
  unfold rangeL; rw [List.range_eq_range']; rfl
 rw [hr] at q4
 have me4:=A4.e.rep.me
 have fin:∃ J6,At W ns J6 x4 bk4 k4 T4 v l4/\Em 180 fr4 J5 (.ite (.and [.cmp (.loc 74) .eq (.cst (.int 0)),.not (.callF 82 [.cel 237])]) [.ret (.cst (.bool false))] []) .next fr4 J6:=by
  cases v with
  | false =>
   have hi4:lk fr4.loc 74=some (.int 1):=hi4
   exact ⟨J5,A5,Em.ite (n:=179) (q:=false) (Et.and (Ea.c (q:=false) (Et.cmp (Ee.loc hi4) Ee.cst rfl) ⟨rfl,rfl⟩)) Es.nil⟩
  | true =>
   have hi4:lk fr4.loc 74=some (.int 0):=hi4
   refine x1c2 (rests_right_ev o e5.rep tp.ns e5.wf (rest_ok o tp co hT4' A5 (hok rfl l4 ok4))) fun J6 q6 c6=>?_
   have cw6:=c6.toW (W:=W) fun i hi=>nomatch hi
   exact ⟨J6,⟨e5.goes ids cw6 (e5.rep.gr e5.wf c6),A4.h,A4.re,A4.bl⟩,Em.ite (n:=179) (q:=false) (Et.and (Ea.c (q:=true) (Et.cmp (Ee.loc hi4) Ee.cst rfl) (Ea.c (q:=false) (Et.not (q:=true) (Et.callF (Ee.callF (El.c (Ee.cel w4) El.nil) (q6.up rfl)))) ⟨rfl,rfl⟩))) Es.nil⟩
 refine x1c2 (fin) fun J6 A6 m6=>?_
 refine ⟨fr4,J6,x4,bk4,l4,T4,k4,?_,E4,A6,ok4,by omega,hk4⟩
 refine Es.c (x:=deedS) (m0.up (by decide)) (Es.expr (n:=179) (Ee.mI (n:=178) (Ee.cel w1) me1 rfl rfl (El.c Ee.cst El.nil) (q2.up rfl)) (Es.ite (n:=179) (q:=false) (Et.not (q:=true) (Et.callF (Ee.callF (El.c (Ee.cel w1) (El.c (Ee.loc w2) El.nil)) (q3.up rfl)))) Es.nil (Sk.nx ?_)))
 have hw:J4.wr J3.ro=J4:=by
  rw [e3.ro,← A4.e.ro]; rfl
 refine Es.for_ (n:=179) (Ei.range (n:=179) Ee.cst rfl) (q4.up rfl) (Sk.nx (by rw [hw]; exact Es.ite (n:=179) (q:=false) (Et.not (q:=true) (Et.meth (n:=177) (Ee.mI (n:=176) (Ee.cel w4) me4 rfl rfl El.nil (q5.up rfl)))) Es.nil (Sk.nx (Es.c m6 Es.nil))))
end
open L2
noncomputable def nbT (tw:Bool) (lo:Nat) (k:Kds) (b:Nat):List (Nat×Pr):=nbL (ixN b) (sesI tw lo k) 1
noncomputable def wayT (tw:Bool) (lo:Nat) (k:Kds):List (Nat×Nat):=(sesI tw lo k).flatMap fun q=>[(nmI q.1,nmI q.2.1),(nmI q.2.1,nmI q.1)]
noncomputable abbrev topB (k:Kds) (tw:Bool) (lo:Nat):Prop :=
 ((names.all fun b=>(nbT tw lo k b).all fun q=>decide (((11:Int)==q.2.addr)=Nat.beq q.1 81)&&(cond (Nat.beq q.1 81) (decide (q.2.id=5)) true&&(!(Nat.beq q.1 b)&&(decide (q.1∈names)&&(decide ((q.1,b)∈wayT tw lo k)&&decide (adJ q.1=q.2.addr)))))),names.map fun b=>nbI tw lo b,(ways0 tw lo).map (·.1),(ways0 tw lo).all fun e=>e.2.1.isNone&&e.2.2.isEmpty)
 = (true,names.map fun b=>(nbT tw lo k b).map (·.1),wayT tw lo k,true)
theorem topB_all (k:Kds):∀ q∈tops,topB k q.1 q.2 :=
 tops_in (F:=topB k) (by kernel_rfl) (by kernel_rfl) (by kernel_rfl) (by kernel_rfl) (by kernel_rfl) (by kernel_rfl) (by kernel_rfl)
noncomputable def psB (tw:Bool) (lo:Nat) (k:Kds):Bool:=names.all fun b=>(nbT tw lo k b).all fun y=>(nbT tw lo k b).all fun z=>Nat.beq y.1 z.1||((cfI tw lo 0 (flR lo k) (flS lo k) (flT lo k)).ps b y.1 z.1==(y.2.kd||z.2.kd))
noncomputable def psA (tw:Bool) (lo:Nat):Bool:=allB fun a=>allB fun b=>allB fun c=>allB fun d=>allB fun e=>allB fun f=>psB tw lo ⟨a,b,c,d,e,f⟩
theorem psA_all:∀ q∈tops,psA q.1 q.2=true :=
 tops_in (F:=fun tw lo=>psA tw lo=true) (by kernel_rfl) (by kernel_rfl) (by kernel_rfl) (by kernel_rfl) (by kernel_rfl) (by kernel_rfl) (by kernel_rfl)
theorem isE_all (U:SKey->Nat) (c:Nat) (l:List Ses):names.map (fun b=>isE (spI U c l (ixN b)))=names.map fun b=>Nat.beq b 81:=rfl
theorem cl_all {c:Nat} (hc:c < 3):names.map (fun b=>clJ c b)=names.map fun b=>clI c (ixN b) :=
 have H:∀ c∈[0,1,2],names.map (fun b=>clJ c b)=names.map fun b=>clI c (ixN b):=List.forall_mem_cons.mpr ⟨rfl,List.forall_mem_cons.mpr ⟨rfl,List.forall_mem_cons.mpr ⟨rfl,fun _ h=>nomatch h⟩⟩⟩
 H c (List.mem_range.mpr hc)
section
variable {tw:Bool} {lo:Nat} (ht:(tw,lo)∈tops) (k:Kds) (U:WKey->Nat)
include ht
theorem topo (c:Nat):Topo (wdI U c (sesI tw lo k)):=by
 have T:=topB_all k _ ht
 have h1:=(Prod.mk.inj T).1
 have h:∀ b∈names,∀ q∈nbT tw lo k b,_:=fun b hb q hq=>allK' (allK' h1 hb) hq
 exact ⟨rfl,fun b hb=>map_at (isE_all (fun q=>U (.sp b q)) c (sesI tw lo k)) b hb,fun b hb q hq=>andK (h b hb q hq) fun r _=>of_decide_eq_true r,
  fun b hb q hq e=>andK (h b hb q hq) fun _ r=>andK r fun r _=>by
   rw [e] at r; exact of_decide_eq_true r,
  fun b hb q hq=>andK (h b hb q hq) fun _ r=>andK r fun _ r=>andK r fun r _=>(Bool.not_eq_true' _).mp r,
  fun b hb q hq=>andK (h b hb q hq) fun _ r=>andK r fun _ r=>andK r fun _ r=>andK r fun r _=>of_decide_eq_true r,
  fun b hb q hq=>andK (h b hb q hq) fun _ r=>andK r fun _ r=>andK r fun _ r=>andK r fun _ r=>andK r fun r _=>of_decide_eq_true r⟩
theorem cf_ok {c:Nat} (hc:c < 3):CfOk (wdI U c (sesI tw lo k)) (cfI tw lo c (flR lo k) (flS lo k) (flT lo k)):=by
 have T:=topB_all k _ ht
 have h1:=(Prod.mk.inj T).1
 have h2:=(Prod.mk.inj (Prod.mk.inj T).2).1
 have P:=allB_ok (allB_ok (allB_ok (allB_ok (allB_ok (allB_ok (psA_all _ ht) k.a) k.b) k.c) k.d) k.e) k.f
 have h:∀ b∈names,∀ q∈nbT tw lo k b,_:=fun b hb q hq=>allK' (allK' h1 hb) hq
 exact ⟨fun b hb=>map_at h2 b hb,fun b hb=>map_at (cl_all hc) b hb,fun b hb q hq=>andK (h b hb q hq) fun _ r=>andK r fun _ r=>andK r fun _ r=>andK r fun _ r=>andK r fun _ r=>of_decide_eq_true r,
  fun b hb y hy z hz e=>by
   have q:=allK' (allK' (allK' P hb) hy) hz
   rw [e] at q
   exact eq_of_beq q⟩
theorem rel0 (c:Nat):Rel (wdI U c (sesI tw lo k)) st0 false (ways0 tw lo):=by
 have T:=topB_all k _ ht
 have h3:=(Prod.mk.inj (Prod.mk.inj (Prod.mk.inj T).2).2).1
 have h4:=(Prod.mk.inj (Prod.mk.inj (Prod.mk.inj T).2).2).2
 have z:∀ l:Sl,(l.all fun e=>e.2.1.isNone&&e.2.2.isEmpty)=true->∀ a b,lkW a b l=(none,[]):=fun l=>by
  induction l with
  | nil=>exact fun _ _ _=>rfl
  | cons e l ih =>
   intro h a b
   refine andK (a:=e.2.1.isNone&&e.2.2.isEmpty) h fun h1 h2=>?_
   show cond (atWay a b e) e.2 (lkW a b l)=_
   rw [ih h2]
   refine andK h1 fun h3 h4=>?_
   have:e.2=(none,[]):=Prod.ext (Option.isNone_iff_eq_none.mp h3) (List.isEmpty_iff.mp h4)
   rw [this]
   cases atWay a b e <;> rfl
 exact ⟨⟨rfl,fun b _ q _=>by rw [z _ h4]; rfl,h3⟩,fun a b _=>by rw [z _ h4]; rfl⟩
end
theorem inv0 (W:Wd):Inv W [] 0 st0 none:=by
 refine ⟨fun _ h=>(nomatch h),fun _ _ _ _ h=>(nomatch h),fun _ _=>Nat.le_refl _,fun _ _ _ _ _ h=>(nomatch h),fun _ _ h=>(nomatch h),fun b _=>?_,fun _ _ _ _ _=>rfl⟩
 have:routes (W.sp b) (st0.st b)=[]:=(congrArg (fun l:List Rt=>[]++l) (List.filterMap_eq_nil_iff.mpr fun _ _=>rfl))
 rw [this]; rfl
noncomputable def sAt (i:Nat):S:=f_law.body.getD i .pass
noncomputable abbrev PlainL (ns:List Int):Prop:=∃ fra Ja,ss (V 200) ⟨[(196,.ref 0)],[]⟩ ⟨1,[0],[(0,.lst (ns.map .int))]⟩ f_law.body=some (.ret (.bool true),fra,Ja)
theorem plain0 (ns:List Int):PlainL ns:=by
 have hll:(ns.take 28).length<=100:=ltr (List.length_take_le _ _) (by decide)
 have s0:∃ v h,Ee 199 ⟨[(196,.ref 0)],[]⟩ ⟨1,[0],[(0,.lst (ns.map .int))]⟩ (.tup [.lst [.callB .list (.slt (.loc 196) (.cst (.int 28))),.cst (.int 0)],.dicN []]) v h/\v=.tup [.ref 3,.ref 4]/\h=hB (ns.map .int) ((ns.take 28).map .int):=by
  have e:lk (⟨1,[0],[(0,.lst (ns.map .int))]⟩:AH).ob 0=some (.lst (ns.map .int)):=rfl
  refine ⟨_,_,by ktr_unf,?_,?_⟩
  ·rfl
  ·rw [List.map_take]; rfl
 obtain ⟨_,_,s0,rfl,rfl⟩:=s0
 refine x6c4 ((world_ev (ns.map .int) (ns.take 28) hll)) fun tw lo c k U J ht hc q B=>?_
 have tp:=topo ht k U c
 have co:=cf_ok ht k U hc
 have r0:=rel0 ht k U c
 have L0:=law0_ok hc k _ ht
 obtain ⟨rep,o,wf,ro,two,box,bk,ids⟩:=B
 have hme:U .me=(wdI U c (sesI tw lo k)).U .me:=rfl
 rw [hme] at q
 generalize wdI U c (sesI tw lo k)=W at rep o ids tp co r0 q
 unfold law0 at L0
 have X1:=explore_ok _ _ L0 _ (.head _)
 generalize cfI tw lo c (flR lo k) (flS lo k) (flT lo k)=C at co X1
 have E0:EnvF W ((⟨[(196,.ref 0),(51,.ref 4),(52,.ref 3)],[]⟩:FrA).sc 237 (.ref (W.U .me))):=⟨rfl,rfl,rfl⟩
 generalize hfr:(⟨[(196,.ref 0),(51,.ref 4),(52,.ref 3)],[]⟩:FrA).sc 237 (.ref (W.U .me))=fr at E0
 have A0:At W (ns.take 28) J st0 [] 6 0 false (ways0 tw lo):=⟨⟨wf,rep,ro,two,box,bk⟩,inv0 W,r0,Nat.le_refl _⟩
 refine x7c6 ((phase ids hll o tp co (by decide) (by decide) (E0.sl (m:=74) rfl rfl (.int 0)) A0 true lk_sl X1 fun _ l h=>(Bool.and_eq_true_iff.mp h).1)) fun fr1 J1 x1 bk1 l1 T1 k1 Q1 E1 A1 ok1 hT1 hk1=>?_
 have X2:=explore_ok _ _ (Bool.and_eq_true_iff.mp ok1).2 _ (.head _)
 refine x7c6 ((phase ids hll o tp co (T:=T1) (k:=k1) (by omega) (by omega) (E1.sl (m:=74) rfl rfl (.int 1)) A1 false lk_sl X2 fun z=>nomatch z)) fun fr2 J2 x2 bk2 l2 T2 k2 Q2 E2 A2 ok2 _ _=>?_
 obtain ⟨J3,Q3⟩:=last_ev o tp.ns A2.e.rep A2.e.wf (none_ok o tp co A2 ok2) E2.world
 have hw:J2.wr J.ro=J2:=by
  rw [ro,← A2.e.ro]; rfl
 refine ⟨fr2,J3,?_⟩
 have z:Es 200 ⟨[(196,.ref 0)],[]⟩ ⟨1,[0],[(0,.lst (ns.map .int))]⟩ [sAt 0,sAt 1,sAt 2,sAt 3] (.ret (.bool true)) fr2 J3:=by
  refine Es.asgW s0 rfl (Es.asgC (n:=199) (Ee.callF (n:=198) (El.c (Ee.loc rfl) El.nil) (q.up rfl)) (show Es 200 ((⟨[(196,.ref 0),(51,.ref 4),(52,.ref 3)],[]⟩:FrA).sc 237 (.ref (W.U .me))) J [sAt 2,sAt 3] _ _ _ from ?_))
  rw [hfr]
  refine Es.for_ (n:=199) (Ei.range Ee.cst rfl) (Ef.k (v:=.int (0:Nat)) (ws:=[.int (1:Nat)]) rfl (Q1.up (m:=199) (by decide)) (Fk.nx (Ef.k (v:=.int (1:Nat)) rfl (Q2.up (m:=199) (by decide)) (Fk.nx Ef.nil)))) (Sk.nx ?_)
  show Es 200 fr2 (J2.wr J.ro) [sAt 3] _ _ _
  rw [hw]
  exact Es.ret (n:=199) (Q3.up (by decide))
 exact z 200 (Nat.le_refl _)
theorem plain (ns:List Int):∃ fra Ja,ss (V 200) ⟨[(196,.ref 0)],[]⟩ ⟨1,[0],[(0,.lst (ns.map .int))]⟩ f_law.body=some (.ret (.bool true),fra,Ja):=(plain0 ns)
end Mine.Internal
namespace Mine.Internal.L2
open Mine.Internal
noncomputable def blW:Bn->Nat
 | .len=>122
 | .min=>135
 | .sorted=>201
 | .tuple=>222
 | .list=>125
 | .dict=>76
 | .abs=>34
noncomputable def tb:Tb:=⟨wordsS,[(32,0),(108,1),(163,8),(156,9),(97,10),(141,11),(174,12),(173,13),(236,14),(65,15),(170,16),(132,17),(99,18),(214,19),(213,20),(119,21),(49,22),(227,23),(113,24),(114,25),(50,26),(130,27),(102,28),(90,29),(233,30),(129,31),(225,32),(220,33),(221,34),(219,35),(217,36),(175,58),(28,73),(31,74),(115,78),(24,79),(27,80),(26,81),(25,82)],[159,149,166,98,153,72,59,157,109,189,204,203,85,146,176],[0,8,5,17,1],blW,178,83,229,105⟩
noncomputable def L:Lw:=⟨tb,fns,clss,glbs,20,[(0,21),(1,26),(2,40),(3,45),(4,52),(5,59),(6,66),(7,73),(8,88),(9,95),(10,102),(11,109),(12,116),(13,123),(14,128),(15,135),(16,142),(17,149),(18,156),(19,163),(20,170),(21,175),(22,180),(23,185),(24,190),(25,195),(26,202),(27,210),(28,217),(29,224),(30,231),(31,238),(32,244),(33,249),(34,254),(35,261),(36,268),(37,282),(38,289),(39,296),(40,303),(41,310),(42,315),(43,336),(44,343),(45,350),(46,357),(47,364),(48,371),(49,378),(50,385),(51,404),(52,411),(53,418),(54,425),(55,432),(56,437),(57,442),(58,454),(59,468),(60,475),(61,482),(62,489),(63,496),(64,503),(65,510),(66,515),(67,522),(68,529),(69,536),(70,543),(71,550),(72,557),(73,579),(74,586),(78,610),(79,572),(80,593),(81,598),(82,605)],[(0,76),(8,318),(5,388),(17,445),(1,560)]⟩
end Mine.Internal.L2
open PySem PySem.W PyProof.Rows
set_option Elab.async false
namespace Mine.Internal.L2
open Mine.Internal
theorem rise_:rise wordsS=true:=by decide +kernel
theorem strs_:wordsS.all PyData.strOk=true:=by decide +kernel
theorem debug_:wordsS.all (fun s=>!(s==("__debug__" : Str)))=true:=by decide +kernel
theorem bl_:∀ b,wdOf wordsS (blW b)=Str.ofString (bnName b)/\bootBuiltins (wdOf wordsS (blW b))=some (bnVal b)/\wdOf wordsS (blW b) ≠ "__name__":=by
 intro b
 cases b <;> exact ⟨by decide +kernel,by kernel_rfl,by decide +kernel⟩
theorem range_:wdOf wordsS tb.range=Str.ofString "range" /\ bootBuiltins (wdOf wordsS tb.range)=some (.type "range")/\wdOf wordsS tb.range ≠ "__name__":=⟨by decide +kernel,by kernel_rfl,by decide +kernel⟩
theorem enum_:wdOf wordsS tb.enum=Str.ofString "enumerate" /\ bootBuiltins (wdOf wordsS tb.enum)=some (.type "enumerate")/\wdOf wordsS tb.enum ≠ "__name__":=⟨by decide +kernel,by kernel_rfl,by decide +kernel⟩
theorem ok_:L.Ok M:=⟨rise_,strs_,debug_,bl_,range_,enum_,by decide +kernel,by decide +kernel,by decide +kernel,by decide +kernel,by decide +kernel,by decide +kernel,by decide +kernel⟩
theorem plainLaw (ns:List Int):∃ fra Ja,ss (ev L.P M 200) ⟨[(196,.ref 0)],[]⟩ (begin_ ns) f_law.body=some (.ret (.bool true),fra,Ja):=plain ns
noncomputable def chkAll (K:Frag):Bool:=noList K&&(isRef (nsIn K mainGlobals (Str.ofString "law")) (atOf L.fnAt fLaw)&&(chkNames L K&&(chkPlain L K&&(chkCls L K&&(chkMth L K&&fns.all fun p=>chkFn tb K (atOf L.fnAt p.1) p.2)))))
theorem law_final {K:Frag} {prog:Program} {w:World} {s:Shared} {a:Addr} {vs:List Value} {m:Nat} {p:Program} {loose:List Str} {mg mb:Str->Option Value} (c:chkAll K=true) (X:K.In s.heap) (T:TopRead p loose mg mb s.heap) {ns:List Int}
  (ha:s.heap.get? a=some (lstObj vs.toArray m)) (hI:IntsAre vs ns) (h1:(a==sysModules)=false) (hg:s.gens=#[]) (hlen:ns.length<=63) {fa:Addr} (hfa:mg (Str.ofString "law")=some (.ref fa)) :
  wpAny (model prog w) callerA (call (.ref fa) [.ref a]) (fun v s'=>v=.bool true/\(∀ b o,s.heap.get? b=some o->s'.heap.get? b=some o)/\s'.os=s.os/\s'.gens=#[]) NoE s :=
 andK c fun c1 c=>andK c fun c2 c=>andK c fun c3 c=>andK c fun c4 c=>andK c fun c5 c=>andK c fun c6 c7=>by
  obtain ⟨fra,Ja,hs⟩:=plainLaw ns
  exact law_ends (fun B X T=>gd ok_ X T c3 c4 c5 c6 c7) X T c1 ha hI h1 hg (ltr hlen (by decide)) (by decide) hfa c2 rfl rfl hs
end Mine.Internal.L2
open PySem PySem.W PyProof.Rows
set_option Elab.async true
namespace Mine.Internal
namespace h
def tw10029407428348048616:=Nat
def tw10030467187398857570:=Nat
def tw10030551666511567830:=Nat
def tw10056649832635796748:=Nat
def tw10066243032650365218:=Nat
def tw10096628701986980782:=Nat
def tw10141870938668228388:=Nat
def tw10172854441005033158:=Nat
def tw10176545686471495257:=Nat
def tw10176974529620079290:=Nat
def tw10209591716021878969:=Nat
def tw10209620991628300436:=Nat
def tw10216591877996542068:=Nat
def tw10236500404347357482:=Nat
def tw10237215097572071390:=Nat
def tw10274919345457184069:=Nat
def tw10294305082320416828:=Nat
def tw10304460806384484365:=Nat
def tw10308061794334053471:=Nat
def tw10310270144061126392:=Nat
def tw10319573614256863910:=Nat
def tw10389712337508899699:=Nat
def tw10403405879096207809:=Nat
def tw10405081018763313399:=Nat
def tw10433915819725442679:=Nat
def tw10468422229764028090:=Nat
def tw10489985564363579387:=Nat
def tw10554466853696668032:=Nat
def tw10563576707476060789:=Nat
def tw10578809182971466630:=Nat
def tw10582250045366316675:=Nat
def tw10590240174274511095:=Nat
def tw10630584534763623505:=Nat
def tw10639240405035285308:=Nat
def tw10655100599613642668:=Nat
def tw10700745577223249213:=Nat
def tw10733770672737358627:=Nat
def tw10781076329906999696:=Nat
def tw10785378975020284601:=Nat
def tw10843411219405324193:=Nat
def tw10889216430814630256:=Nat
def tw10934887272839734318:=Nat
def tw10981199660410213593:=Nat
def tw1098577539371810014:=Nat
def tw11005529976221432771:=Nat
def tw11011076637071787117:=Nat
def tw11038148946071854954:=Nat
def tw11173642076277706964:=Nat
def tw11179526292118744053:=Nat
def tw11200237687060424247:=Nat
def tw11211664981096991796:=Nat
def tw11230478366091672690:=Nat
def tw11248335157493568473:=Nat
def tw11269396575098336479:=Nat
def tw11275240856166064585:=Nat
def tw11293677773682475064:=Nat
def tw11301085678189736239:=Nat
def tw11305809366887970209:=Nat
def tw11337612847456127874:=Nat
def tw11345358527723029028:=Nat
def tw11363288532897968706:=Nat
def tw11381328606023851429:=Nat
def tw11384035147314299323:=Nat
def tw11425673385166586857:=Nat
def tw11474758875010461091:=Nat
def tw11490526129141354682:=Nat
def tw11499355913609962786:=Nat
def tw11510955273000818389:=Nat
def tw11613968451307275940:=Nat
def tw11621498233833769271:=Nat
def tw11642118290042492226:=Nat
def tw11671251620599952892:=Nat
def tw11680944738803784799:=Nat
def tw11711608378786851337:=Nat
def tw11758182952161893429:=Nat
def tw11760029891904807822:=Nat
def tw11769494150484577709:=Nat
def tw11801544507425350805:=Nat
def tw11804840771654451120:=Nat
def tw11819819923512561346:=Nat
def tw11821455920151838205:=Nat
def tw11833607008865203547:=Nat
def tw11902879834314266504:=Nat
def tw11929090322459354604:=Nat
def tw11938403174074652104:=Nat
def tw11938878862052604736:=Nat
def tw119766627775172234:=Nat
def tw11977770405018611718:=Nat
def tw12019023368207550218:=Nat
def tw12084184597549184474:=Nat
def tw12097077413681655732:=Nat
def tw12101157251452678755:=Nat
def tw12123235563078639756:=Nat
def tw12133360179525551429:=Nat
def tw12246409903686013403:=Nat
def tw12255102692929202766:=Nat
def tw12294765944349225421:=Nat
def tw12303170382060731875:=Nat
def tw12380342171653343394:=Nat
def tw12408836524461534087:=Nat
def tw12415604746930716304:=Nat
def tw12424463459254959717:=Nat
def tw12435925812147652225:=Nat
def tw12447585419443719996:=Nat
def tw12472345858506129878:=Nat
def tw12503719140618055267:=Nat
def tw12505566915613261056:=Nat
def tw12544624802484387524:=Nat
def tw12552453969866160919:=Nat
def tw12627332176540428995:=Nat
def tw12631687265020781425:=Nat
def tw12658442457115067050:=Nat
def tw12690472209799890775:=Nat
def tw12701206989616842685:=Nat
def tw12718955625787926057:=Nat
def tw12741631323784696106:=Nat
def tw12748028871116591273:=Nat
def tw12768463709691026794:=Nat
def tw12779300999492915151:=Nat
def tw12784901936968217917:=Nat
def tw12793483965762352686:=Nat
def tw12802022457516066526:=Nat
def tw12813569395086607786:=Nat
def tw12814941811360514655:=Nat
def tw12842916108797361697:=Nat
def tw12865556820600013841:=Nat
def tw12877943847600832030:=Nat
def tw12891525039896643960:=Nat
def tw12965549010351891024:=Nat
def tw12967833124661619014:=Nat
def tw13031543003844019906:=Nat
def tw13033996696560668203:=Nat
def tw13103488535562539790:=Nat
def tw13167946976713937462:=Nat
def tw13168930289225293150:=Nat
def tw13221472175088321383:=Nat
def tw13228592821750150602:=Nat
def tw13287842782858397578:=Nat
def tw13292524425192586260:=Nat
def tw13298211813537937815:=Nat
def tw13299595001617295373:=Nat
def tw13304106628918243963:=Nat
def tw13354121747300564104:=Nat
def tw1335547322600909529:=Nat
def tw13374087145903091907:=Nat
def tw13419958591952730060:=Nat
def tw13420562920653053:=Nat
def tw13422086345980785442:=Nat
def tw13452982053297489087:=Nat
def tw13468016615049822838:=Nat
def tw13475674426834692479:=Nat
def tw1348980291093044562:=Nat
def tw13553113237236827981:=Nat
def tw13598882375158072097:=Nat
def tw13660220492193851976:=Nat
def tw13662276703404876589:=Nat
def tw13681517553180852248:=Nat
def tw13690393396710146742:=Nat
def tw13709860305279663052:=Nat
def tw13874618297009298462:=Nat
def tw13942756014399881786:=Nat
def tw14009857634682381658:=Nat
def tw14054553445517439351:=Nat
def tw14092945194184803162:=Nat
def tw14110238858584869482:=Nat
def tw14125254534234705110:=Nat
def tw14149543262258801056:=Nat
def tw14161058916163106047:=Nat
def tw14241808928878365511:=Nat
def tw14253134277189543645:=Nat
def tw14290283993448261861:=Nat
def tw14294757122758251951:=Nat
def tw14322322749322378994:=Nat
def tw14343425912235704169:=Nat
def tw14358720406997112544:=Nat
def tw14372154204200311271:=Nat
def tw14406585599280994723:=Nat
def tw14412309891071536129:=Nat
def tw14443439632087861409:=Nat
def tw14489899914680789914:=Nat
def tw14629618390772572787:=Nat
def tw14636560077704033022:=Nat
def tw14641524191986905273:=Nat
def tw14672081660177418745:=Nat
def tw14673937727783725635:=Nat
def tw14696530988498163740:=Nat
def tw14717989319876044198:=Nat
def tw14731233389103999176:=Nat
def tw14731893884729741603:=Nat
def tw14765853707851766789:=Nat
def tw14836992762949198072:=Nat
def tw14898592330182814176:=Nat
def tw14912557794037573924:=Nat
def tw14920757832905273127:=Nat
def tw14946254515826156370:=Nat
def tw1495806314176976464:=Nat
def tw15011199024981865381:=Nat
def tw15080798721362408873:=Nat
def tw15085667291896112413:=Nat
def tw15133692979859939773:=Nat
def tw15134755304614568534:=Nat
def tw15156020656907591225:=Nat
def tw15187399590975947938:=Nat
def tw15191737075074627814:=Nat
def tw15202830259052791077:=Nat
def tw15205624640905244971:=Nat
def tw15276253562186719196:=Nat
def tw15284110753963499022:=Nat
def tw15360249629754589390:=Nat
def tw15371563202922969502:=Nat
def tw15459908435036672458:=Nat
def tw15465523473399006591:=Nat
def tw15481570814823447846:=Nat
def tw15485134557753302863:=Nat
def tw15544465385125055169:=Nat
def tw15628863840653639234:=Nat
def tw15669756701684751691:=Nat
def tw1568941417348552559:=Nat
def tw15735395130073856303:=Nat
def tw15739378826453633165:=Nat
def tw1577092642071663537:=Nat
def tw15797640545141026382:=Nat
def tw15891085095514853188:=Nat
def tw15902017535097049064:=Nat
def tw15906570499601092116:=Nat
def tw15971083818803333284:=Nat
def tw16073289059170993680:=Nat
def tw16088328538503583320:=Nat
def tw16099000207806067558:=Nat
def tw16103858238542439907:=Nat
def tw16114028837333195111:=Nat
def tw16174633238812995153:=Nat
def tw16201113819222145001:=Nat
def tw16220577264680208729:=Nat
def tw16227481734789447488:=Nat
def tw16242881431906064190:=Nat
def tw16243727107862801437:=Nat
def tw16254256151246878719:=Nat
def tw1629802056756541638:=Nat
def tw16304738204520729961:=Nat
def tw16306278244276520086:=Nat
def tw16359654991465747875:=Nat
def tw16360492408659348916:=Nat
def tw16360627563876532019:=Nat
def tw16417781519517549696:=Nat
def tw1641851782374431490:=Nat
def tw16451627974716185446:=Nat
def tw16490811257940695481:=Nat
def tw16490855383122336857:=Nat
def tw16550479352273487160:=Nat
def tw16556675247768028134:=Nat
def tw16585817322426371356:=Nat
def tw16593280124950458650:=Nat
def tw16686056489002663225:=Nat
def tw16698651818264420867:=Nat
def tw16702014464002830611:=Nat
def tw16717990931824456872:=Nat
def tw16733884435684934355:=Nat
def tw16776949066794802376:=Nat
def tw16805566768638631368:=Nat
def tw16830300719615008457:=Nat
def tw1684908928428827256:=Nat
def tw16889904991140685162:=Nat
def tw16947269944696413593:=Nat
def tw16957889108050815272:=Nat
def tw16989681041555056164:=Nat
def tw17007625938307072906:=Nat
def tw17009318898813225439:=Nat
def tw17021495882261679483:=Nat
def tw17057426120662361973:=Nat
def tw17081395277590804934:=Nat
def tw17095349468891001283:=Nat
def tw17141692475804223887:=Nat
def tw17143811421494988297:=Nat
def tw17175103159146034596:=Nat
def tw17196208666171498751:=Nat
def tw17205412138806069437:=Nat
def tw17214416673749911001:=Nat
def tw17214893992208877848:=Nat
def tw1722514254758521159:=Nat
def tw17249822747710301471:=Nat
def tw17269172581289977328:=Nat
def tw17295169933922074451:=Nat
def tw17344299811706580941:=Nat
def tw17351822035254854046:=Nat
def tw17418421612358848520:=Nat
def tw17536863671837280745:=Nat
def tw17552286862711982822:=Nat
def tw1756767646945014476:=Nat
def tw17587119110905029746:=Nat
def tw17606323422870791771:=Nat
def tw17615048517220608312:=Nat
def tw17629990946945478482:=Nat
def tw17652940635593229146:=Nat
def tw1770280839601912908:=Nat
def tw17766551360429844046:=Nat
def tw17780807861282455828:=Nat
def tw17801969969650823944:=Nat
def tw17823210659418679440:=Nat
def tw17842758563574079195:=Nat
def tw17844117589994039586:=Nat
def tw17881440581452666455:=Nat
def tw17940995380638352314:=Nat
def tw17953559428318479505:=Nat
def tw18083345694482557431:=Nat
def tw18091650013571584192:=Nat
def tw18099857533010734655:=Nat
def tw18123904335616985050:=Nat
def tw18131721661930196931:=Nat
def tw18148547829415314423:=Nat
def tw18200676845264988563:=Nat
def tw18220904897469207935:=Nat
def tw18280146011181451139:=Nat
def tw18285335800752518312:=Nat
def tw1834270714227516178:=Nat
def tw18382463476168214558:=Nat
def tw1839073049252394722:=Nat
def tw18394655290700555471:=Nat
def tw18429936020356628456:=Nat
def tw1965000457826345584:=Nat
def tw197088424353733252:=Nat
def tw1998120732741690648:=Nat
def tw2040813900355207550:=Nat
def tw208233463519707651:=Nat
def tw2194635206463003790:=Nat
def tw219603395881285915:=Nat
def tw2252170969200475499:=Nat
def tw2253710910892259809:=Nat
def tw2274812171931049195:=Nat
def tw2289196052877248975:=Nat
def tw2354642882987088234:=Nat
def tw2362610301568776742:=Nat
def tw2372891151666778078:=Nat
def tw2391837923644204262:=Nat
def tw2400296051325879776:=Nat
def tw2447311075957141870:=Nat
def tw2551672919130393346:=Nat
def tw2592531768389336676:=Nat
def tw2609537879683755764:=Nat
def tw2627566370513297437:=Nat
def tw2629860971404101248:=Nat
def tw2686296066169033477:=Nat
def tw2748317743101111729:=Nat
def tw2841329976590712548:=Nat
def tw2867774090155588369:=Nat
def tw2868208277430562098:=Nat
def tw2873570698144900323:=Nat
def tw2892106591335270850:=Nat
def tw2926892271326644314:=Nat
def tw2933661650913984292:=Nat
def tw2970566713477525822:=Nat
def tw2970734933863136641:=Nat
def tw3040464752301911762:=Nat
def tw3045597634285061701:=Nat
def tw3080856084779413729:=Nat
def tw3117936367502461444:=Nat
def tw3139925393391414494:=Nat
def tw3154601465531399774:=Nat
def tw3194220025935070060:=Nat
def tw3218199345935868760:=Nat
def tw3220132111387245897:=Nat
def tw3238329756671980755:=Nat
def tw3280693283615921522:=Nat
def tw3302916181421038649:=Nat
def tw3315293572859735111:=Nat
def tw3323431734963469554:=Nat
def tw3324328012365390371:=Nat
def tw3326549257284185790:=Nat
def tw3379621575769377733:=Nat
def tw3385344643026863570:=Nat
def tw3449801169253215019:=Nat
def tw3496236268356473892:=Nat
def tw3549809657556336193:=Nat
def tw3552911502402159278:=Nat
def tw3557332851944537553:=Nat
def tw3598081192245139019:=Nat
def tw3624435971017162397:=Nat
def tw3633501230921293522:=Nat
def tw3641933933771922050:=Nat
def tw3648175686352137809:=Nat
def tw3666188994037697252:=Nat
def tw3681500404239224044:=Nat
def tw369041910934395125:=Nat
def tw3732179771000727749:=Nat
def tw3765655044975828930:=Nat
def tw3770498782174872671:=Nat
def tw3776502631127084591:=Nat
def tw3891550320537204188:=Nat
def tw3909246562327151939:=Nat
def tw4039130158902741159:=Nat
def tw4046221044680947816:=Nat
def tw4064122171788046353:=Nat
def tw4120953712077802224:=Nat
def tw4126474977829025833:=Nat
def tw4127307562779967806:=Nat
def tw4204089304596029934:=Nat
def tw4209983056498494065:=Nat
def tw4213322324791736572:=Nat
def tw4241723060373809349:=Nat
def tw4268397102997093035:=Nat
def tw4290091610026646101:=Nat
def tw4343191549400461475:=Nat
def tw4368264095695208248:=Nat
def tw4379912703379107401:=Nat
def tw4470878676275919748:=Nat
def tw4474847356283947584:=Nat
def tw4485044770318252170:=Nat
def tw4489622076275684006:=Nat
def tw450102290976807419:=Nat
def tw4523709762023110539:=Nat
def tw4567845811750741339:=Nat
def tw4662884043251333502:=Nat
def tw4698833073627635413:=Nat
def tw4790405025896001552:=Nat
def tw4794776867376925955:=Nat
def tw480569445748392603:=Nat
def tw4810377110257887788:=Nat
def tw4820682785350857124:=Nat
def tw4862269185777535928:=Nat
def tw4960335769204101831:=Nat
def tw4986443950611435873:=Nat
def tw5017272733894397789:=Nat
def tw5027226304546875727:=Nat
def tw5030882887709938880:=Nat
def tw5036054449119429401:=Nat
def tw504222098378307947:=Nat
def tw5084755297088798712:=Nat
def tw5140102603754670576:=Nat
def tw5146050640745517032:=Nat
def tw5197320004674560216:=Nat
def tw521910038389369472:=Nat
def tw5249458027657442957:=Nat
def tw5260421071253186758:=Nat
def tw526856517466296794:=Nat
def tw5272936923876805921:=Nat
def tw5281000122675284238:=Nat
def tw5366601939650609305:=Nat
def tw5374526166469876081:=Nat
def tw5382963021518350249:=Nat
def tw5386415164613485745:=Nat
def tw5414333356127763542:=Nat
def tw5428425563690104576:=Nat
def tw5455637202054601192:=Nat
def tw5458364619246529283:=Nat
def tw5486397884454206080:=Nat
def tw548901073287593348:=Nat
def tw5507694563332899381:=Nat
def tw5533477196136134768:=Nat
def tw5579744956931022156:=Nat
def tw5588083386107461403:=Nat
def tw5595596643411838072:=Nat
def tw5597764737795624992:=Nat
def tw5620194224446561808:=Nat
def tw5623471622947604071:=Nat
def tw5630178524658604518:=Nat
def tw5633688486438548497:=Nat
def tw5680188782405205346:=Nat
def tw5723526159465818638:=Nat
def tw5745238871936294237:=Nat
def tw5770793428380785879:=Nat
def tw5787450237792925587:=Nat
def tw5810404520187056141:=Nat
def tw5815345567064312806:=Nat
def tw5859352701933604532:=Nat
def tw5887987592377861485:=Nat
def tw5919579383542897248:=Nat
def tw5921213671752122368:=Nat
def tw5946955344868968629:=Nat
def tw5950367813144615205:=Nat
def tw5950700121726602732:=Nat
def tw5966700429710138896:=Nat
def tw6006316799633139109:=Nat
def tw600703321921909260:=Nat
def tw6014954106998288422:=Nat
def tw6015650479847269118:=Nat
def tw605737041828634081:=Nat
def tw6059209417597690074:=Nat
def tw6063579428384327325:=Nat
def tw6075763205755722662:=Nat
def tw6092815694270733086:=Nat
def tw609981743009346612:=Nat
def tw6101173481649672645:=Nat
def tw6131603751417422581:=Nat
def tw6163389338353510057:=Nat
def tw616587908502263945:=Nat
def tw6189910604796633144:=Nat
def tw6239232092866240245:=Nat
def tw6263893448770001551:=Nat
def tw6309264721689932280:=Nat
def tw6314947983828293853:=Nat
def tw6326904594397921003:=Nat
def tw633989510714418195:=Nat
def tw6346407671120966693:=Nat
def tw6346624816816384050:=Nat
def tw6359375920634387754:=Nat
def tw6373714338665647423:=Nat
def tw6381219453109377879:=Nat
def tw6413896723188204728:=Nat
def tw6431181315268018024:=Nat
def tw6612752654613846777:=Nat
def tw6616191606357900011:=Nat
def tw6642896972314509765:=Nat
def tw6653691549590019443:=Nat
def tw6659631991812547914:=Nat
def tw6660762324911715012:=Nat
def tw6682741030901530681:=Nat
def tw6713004331356030826:=Nat
def tw6713350765829323130:=Nat
def tw6723747571645773665:=Nat
def tw6744750066896113128:=Nat
def tw6746900839112520113:=Nat
def tw6767324551063703406:=Nat
def tw6834290861968267416:=Nat
def tw6850304193448778390:=Nat
def tw6864832727235704509:=Nat
def tw6883143840388239334:=Nat
def tw6884590803068895496:=Nat
def tw6966247946651679664:=Nat
def tw6992861115744642700:=Nat
def tw7045667604196983280:=Nat
def tw708874861161696285:=Nat
def tw7100740464207002558:=Nat
def tw7129384515372189442:=Nat
def tw7131028607829930107:=Nat
def tw7163682515582402453:=Nat
def tw7171757885458768461:=Nat
def tw7186780590691620469:=Nat
def tw7214592646633458380:=Nat
def tw7238538898068617636:=Nat
def tw7241560360916791253:=Nat
def tw7270877162572835176:=Nat
def tw731159815717915810:=Nat
def tw7324324412746953911:=Nat
def tw7326147443050723056:=Nat
def tw7330668030540796338:=Nat
def tw734648404169450407:=Nat
def tw7362703571073089862:=Nat
def tw7399214152573662411:=Nat
def tw7425648538258465479:=Nat
def tw7461279761353650003:=Nat
def tw7483971367640966367:=Nat
def tw7526758794822967465:=Nat
def tw7528023364146967617:=Nat
def tw7565762860317140362:=Nat
def tw7572740107976403476:=Nat
def tw758336690217300687:=Nat
def tw7595079615200845585:=Nat
def tw7596865560867300002:=Nat
def tw7602710399880433120:=Nat
def tw7615423273914190403:=Nat
def tw7649650656363005804:=Nat
def tw7665827491049385717:=Nat
def tw7679270048204067857:=Nat
def tw7767401986868520400:=Nat
def tw7797599019080633814:=Nat
def tw7874173440677564912:=Nat
def tw7887826499296272838:=Nat
def tw789974264712396265:=Nat
def tw7934404935370992239:=Nat
def tw7945630931038723581:=Nat
def tw7967715605851970507:=Nat
def tw8009866515117597374:=Nat
def tw8057112795637171708:=Nat
def tw8115516316645421900:=Nat
def tw8115642691718577676:=Nat
def tw8160922743204303948:=Nat
def tw8254938782573523171:=Nat
def tw8282102726887524643:=Nat
def tw838020568627936564:=Nat
def tw8386441735560416184:=Nat
def tw8399881330928854916:=Nat
def tw8405902675516899129:=Nat
def tw8426332841197548503:=Nat
def tw8458758286968501012:=Nat
def tw8473362572651355318:=Nat
def tw8519068173018820733:=Nat
def tw8533717353327235569:=Nat
def tw8629767062781064452:=Nat
def tw8660908482468684654:=Nat
def tw8682494273182496525:=Nat
def tw8694004458901722855:=Nat
def tw8789602554806659178:=Nat
def tw88189420864841239:=Nat
def tw8950511612463346698:=Nat
def tw8955389900117509476:=Nat
def tw8958131714455100358:=Nat
def tw8980946972638968947:=Nat
def tw8990843383264974526:=Nat
def tw9008445721842140636:=Nat
def tw900922233762790609:=Nat
def tw9049832424788242200:=Nat
def tw9051623862053488614:=Nat
def tw9057319447517282491:=Nat
def tw9081385321154562725:=Nat
def tw9085825156051173270:=Nat
def tw9114427537964335625:=Nat
def tw914004120575587195:=Nat
def tw9149415239821544403:=Nat
def tw9212837297944036933:=Nat
def tw9214296206292245536:=Nat
def tw9245646257451619970:=Nat
def tw9283213084007381081:=Nat
def tw9304419509343983459:=Nat
def tw9330130111084588027:=Nat
def tw9377646155264751899:=Nat
def tw9389710370402753839:=Nat
def tw9392404622212859420:=Nat
def tw9392732677226734453:=Nat
def tw9482087549267976291:=Nat
def tw9505420918366754556:=Nat
def tw953135173914919881:=Nat
def tw9565813555679928353:=Nat
def tw9583872475266951645:=Nat
def tw9590736495191519578:=Nat
def tw9683107611789733180:=Nat
def tw9717889823437880763:=Nat
def tw9720158136829455795:=Nat
def tw9737763932422256902:=Nat
def tw9769648834774814049:=Nat
def tw9792259102105265921:=Nat
def tw9926631864633472773:=Nat
def tw9963229095918965806:=Nat
def tw9970265281582839244:=Nat
def tw9978339726307471710:=Nat
def tw9981011898417462806:=Nat
def tw9987119905645689380:=Nat
end h
end Mine.Internal
theorem Mine.Internal.h:PySem.Challenge.rw_sj0186_02.Holds:=by
 w_on; o_law; k_head; (case hw=>w_witness2); w_strict (
  intro w sa sd mg mb G Y fa o pm cd doc dV kV ho hd' hcd hD hmg hg args vals as hpre hlay hrd hwl hlo
  have KX:=kIn_of Y
  have T:=Ground.T G
  have hlo2:=hlo
  have hrd2:=hrd
  clear hd' hcd hD
  wrow_args hpre hlay hrd hwl hlo
  clear Y
  rename_i ns _ _ _ _ _ as1 as2 a vs as3 hL ra w1 r0 hI hr hlen _
  cases w1 with
  | list ha _ =>
   cases r0 with
   | list q1 q2 =>
    obtain ⟨o2,ho2,_,n2,hd2⟩:=hL
    rw [ha] at ho2
    cases ho2
    simp only [Data.seq.injEq] at hd2
    have hv:=congrArg Array.toList hd2.1
    simp only [List.toList_toArray] at hv
    subst hv
    have h1:(a==sysModules)=false:=hlo2 a (by simp)
    refine wpAny_mono (Mine.Internal.L2.law_final ?ck KX (topRead_of T) ha hI h1 hg (by omega) hmg) (fun v s' z=>?_) fun _ _ z=>z.elim
    case ck=>kernel_rfl
    obtain ⟨rfl,hk,ho',hg'⟩:=z
    refine ⟨.inl ⟨_,_,[],rfl,fun _=>rfl,ReadsW.bool true,?_,fun _=>⟨List.nodup_nil,fun _ hm=>(nomatch hm)⟩⟩,.of_keep hk,ho',.of_eq hg'⟩
    first | rfl | wrow_post)
theorem PySem.Challenge.cw_sj0186_02_holds : PySem.Challenge.rw_sj0186_02.Holds :=
 Mine.Internal.h
