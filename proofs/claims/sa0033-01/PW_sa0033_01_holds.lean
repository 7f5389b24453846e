import PyProof.Rows.All
import PyProof.CollectIter
import PyProof.DictIter
import PyProof.DictWalks
import PyProof.ListRange
import PyProof.Rows.SortShell
import PyProof.SetRoads
import PyProof.Rows.SetFrom
import Open.FastLooks
import Open.Line
import OpenK.KCell
import Open.FastRun
import Open.FastT9
import KE.KUnpack
import KE.KItem
import KE.KDictSum
import KE.KSort
import KE.KSortAsk
import KE.KSortTup
import Wide.All
import Lean
import PySem.Challenge.RW_sa0033_01
set_option Elab.async false
set_option autoImplicit false
set_option linter.all false
set_option maxRecDepth 100000
set_option bootstrap.genMatcherCode false
set_option compiler.extract_closed false
set_option genCtorIdx false
set_option genInjectivity false
set_option genSizeOf false
set_option tactic.hygienic false
namespace Mine.Internal
theorem Za {a b:Nat}(h:Nat.ble a b=true):a<=b:=Nat.le_of_ble_eq_true h
theorem Zb {a b c:Nat}(h:a<=b)(k:b<c):a<c:=Nat.lt_of_le_of_lt h k
theorem Zc {a b c:Nat}(h:a<=b)(k:b<=c):a<=c:=Nat.le_trans h k
theorem Zd {a b c:Nat}(h:a<b)(k:b<=c):a<c:=Nat.lt_of_lt_of_le h k
theorem Ze {a b c:Nat}(h:a<b)(k:b<c):a<c:=Nat.lt_trans h k
theorem Zf {a b:Nat}(h:b<a):a≠b:=Nat.ne_of_gt h
theorem Zg (a:Nat):a<=a:=Nat.le_refl a
theorem Zh {a b:Nat}(h:a<=b):a<b+1:=Nat.lt_succ_of_le h
theorem Zi {a b:Nat}(h:a<b):a<b+1:=Nat.lt_succ_of_lt h
theorem Zj {a b:Nat}(h:a<=b):a<=b+1:=Nat.le_succ_of_le h
theorem Zk {a b:Nat}(h:a<b):a≠b:=Nat.ne_of_lt h
theorem Zl {a b:Nat}(h:a<b):a<=b:=Nat.le_of_lt h
theorem Zm (a:Nat):0<=a:=Nat.zero_le a
theorem Zn {a b:Nat}(h:¬ a<b):b<=a:=Nat.le_of_not_lt h
theorem Zo (a:Nat):a<a+1:=Nat.lt_succ_self a
theorem Zp {a b:Nat}(h:a<=b):¬ b<a:=Nat.not_lt_of_le h
theorem Zq {a b:Nat}(h:¬ a<=b):b<a:=Nat.lt_of_not_le h
theorem Zr {a b:Nat}(h:a<b+1):a<=b:=Nat.le_of_lt_succ h
theorem Zs (a b:Nat):a<=b+a:=Nat.le_add_left a b
theorem Zt (a b:Nat):a<=a+b:=Nat.le_add_right a b
theorem Zu {a b:Nat}(h:a<=b)(k:¬ a=b):a<b:=Nat.lt_of_le_of_ne h k
theorem Zv {a b:Nat}(h:a<=b)(k:b<=a):a=b:=Nat.le_antisymm h k
theorem Zw {a b:Nat}(h:a<b):a+1<=b:=h
theorem Zx {α:Type}{a b:α}(h:a∈[b]):a=b:=List.mem_singleton.mp h
theorem Zy {α:Type}{l:List α}{i:Nat}{a:α}(h:l[i]? = some a):a∈l:=List.mem_of_getElem? h
theorem Zz {α:Type}{a b:α}{l:List α}(h:a∈b::l):a=b\/a∈l:=List.mem_cons.mp h
theorem ZA {α:Type}{a:α}{l m:List α}(h:a∈l++m):a∈l\/a∈m:=List.mem_append.mp h
theorem ZB {α β:Type}{f:α->β}{b:β}{l:List α}(h:b∈l.map f):∃ a,a∈l/\f a=b:=List.mem_map.mp h
theorem ZC {α β:Type}{f:α->β}{b:β}{l:List α}(h:∃ a,a∈l/\f a=b):b∈l.map f:=List.mem_map.mpr h
theorem ZD {α β:Type}{f:α->β}{b:β}{x:Option α}(h:x.map f=some b):∃ a,x=some a/\f a=b:=Option.map_eq_some_iff.mp h
theorem ZE {α β:Type}{f:α->β}{a:α}{l:List α}(h:a∈l):f a∈l.map f:=List.mem_map_of_mem h
theorem ZF {α β:Type}{l:List α}(f:α->β):(l.map f).length=l.length:=List.length_map f
theorem ZG {α:Type}{l m:List α}:(l++m).length=l.length+m.length:=List.length_append
theorem ZH {α β:Type}{f:α->β}{l:List α}{i:Nat}:(l.map f)[i]? = l[i]?.map f:=List.getElem?_map
theorem ZI {α:Type}{l:List α}{i:Nat}(h:i<l.length):l[i]? = some l[i]:=List.getElem?_eq_getElem h
theorem ZJ {α β:Type}{f:α->β}{a:α}{l:List α}:(a::l).map f=f a::l.map f:=List.map_cons
theorem ZK {α:Type}{p:α->Prop}{a:α}{l:List α}(h:p a/\∀ x,x∈l->p x):∀ x,x∈a::l->p x:=List.forall_mem_cons.mpr h
theorem ZL {α β:Type}{l:List α}{f g:α->β}(h:∀ a,a∈l->f a=g a):l.map f=l.map g:=List.map_congr_left h
theorem ZM {α:Type}{a:α}:[a].length=1:=rfl
@[elab_as_elim] theorem ZN {α:Sort _} {p:α->Prop} {a b:α} (h:b=a) (k:p a):p b:=Eq.substr h k
theorem ZO {α:Sort _}{a b c:α}(h:a=b)(k:b=c):a=c:=Eq.trans h k
section
set_option backward.match.sparseCases false
def au:Lean.Syntax:=.node .none `Lean.Parser.Tactic.tacticSeq #[.node .none `Lean.Parser.Tactic.tacticSeq1Indented #[.node .none `null #[.node .none `Lean.Parser.Tactic.intros #[.atom .none "intros",.node .none `null #[]],.atom .none ";",.node .none `Lean.Parser.Tactic.tacticRfl #[.atom .none "rfl"]]]]
set_option genCtorIdx false
set_option genInjectivity true
inductive At where
 | i (n:Int)
 | s (x:String)
noncomputable def At.ctorIdx:At->Nat:=λx=>At.casesOn x (λ_=>0) λ_=>1
noncomputable instance:DecidableEq At:=λa b=>match a with
 | .i m=>match b with
  | .i n=>if h:m=n then isTrue (h▸rfl)else isFalse λe=>h (At.i.inj e)
  | .s _=>isFalse nofun
 | .s m=>match b with
  | .s n=>if h:m=n then isTrue (h▸rfl)else isFalse λe=>h (At.s.inj e)
  | .i _=>isFalse nofun
inductive MV where
 | none | bool (b:Bool) | int (i:Int) | str (s:String)
 | fn (c n:String)
 | tup (l:List MV) | fl (l:List MV)
 | ref (i:Nat) | obj (c:String) (i:Nat)
noncomputable def MV.ctorIdx:MV->Nat:=λx=>MV.casesOn x 0 (λ_=>1) (λ_=>2) (λ_=>3) (λ_ _=>4) (λ_=>5) (λ_=>6) (λ_=>7) λ_ _=>8
inductive MO where
 | list (l:List MV)
 | ed
 | idict (l:List (Int×MV))
 | tdict (l:List (List At×MV))
 | attrs (l:List (String×MV))
noncomputable def MO.ctorIdx:MO->Nat:=λx=>MO.casesOn x (λ_=>0) 1 (λ_=>2) (λ_=>3) λ_=>4
abbrev MH:=List MO
abbrev ME':=List (String×MV)
set_option genInjectivity false
inductive BO where | add | mul | fdiv (u:Unit) | mod | sub
inductive CO where | eq | ne | lt | gt (u:Unit) | le | is | isin | notin
inductive BI where | len | sum | max | min | tuple | str | int | sortedset | sorted | lenset | listrange (u:Unit)
inductive IK where | it | range | enum (u:Unit)
set_option genCtorIdx false
inductive TG where
 | v (x:String)
 | two (x y:String)
 | one (x:String)
inductive ME where
 | v (x:String)
 | g (c n:String)
 | c (k:MV)
 | tup (es:List ME)
 | lst (es:List ME)
 | flst (es:List ME)
 | dict
 | bin (o:BO) (a b:ME)
 | cat (a b:ME)
 | cmp (o:CO) (a b:ME)
 | chain (o p:CO) (a b c:ME)
 | and (a b:ME) | or (a b:ME) | not (a:ME)
 | ite (c a b:ME)
 | attr (o:ME) (n:String)
 | idx (o i:ME)
 | from1 (o:ME)
 | upto (o:ME) (n:Nat)
 | call (f:ME) (as:List ME)
 | meth (o:ME) (n:String) (as:List ME)
 | bi (b:BI) (as:List ME)
 | comp (elt:ME) (t:TG) (k:IK) (iter:ME) (conds:List ME)
 | comp2 (elt:ME) (t:TG) (iter:ME) (t2:TG) (iter2:ME)
inductive PL where
 | v (x:String)
 | attr (o:ME) (n:String)
 | idx (o i:ME)
inductive MS where
 | assign (p:PL) (e:ME)
 | unpack (ps:List PL) (e:ME)
 | expr (e:ME)
 | ite (c:ME) (a b:List MS)
 | while (c:ME) (b:List MS)
 | for (t:TG) (k:IK) (iter:ME) (b:List MS)
 | ret (e:ME)
 | cont
inductive FL where | next | cont | ret (v:MV)
noncomputable def FL.ctorIdx:FL->Nat:=λx=>FL.casesOn x 0 1 λ_=>2
structure FN where
 params:List String
 body:List MS
noncomputable def MV.int? : MV->Option Int
 | .int i=>some i
 | _=>Option.none
noncomputable def MV.at? : MV->Option At
 | .int i=>some (.i i)
 | .str s=>some (.s s)
 | _=>Option.none
noncomputable def MV.key? : MV->Option (List At)
 | .tup l=>l.mapM MV.at?
 | _=>Option.none
noncomputable def At.mv:At->MV
 | .i n=>.int n
 | .s x=>.str x
noncomputable def attrNames:List String:=["heap","bank","unions","edges","forest","known","above","waiting","backs","nodes","numbers","weights","depths","lots","merged"]
noncomputable abbrev big:Nat:=1048576
noncomputable def Fs (x:String):List Nat:=x.toList.map Char.toNat
noncomputable def At.lt:At->At->Bool
 | .i a,.i b=>decide (a<b)
 | .s a,.s b=>decide (Fs a<Fs b)
 | .i _,.s _=>true
 | .s _,.i _=>false
noncomputable def Ag:List At->List At->Bool
 | _,[]=>false
 | [],_::_=>true
 | a::r,b::t=>if a=b then Ag r t else a.lt b
section
variable {α:Type} (lt:α->α->Bool)
noncomputable def ins (x:α):List α->List α
 | []=>[x]
 | y::r=>if lt y x then y::ins x r else x::y::r
noncomputable def BJ:List α->List α
 | []=>[]
 | x::r=>ins lt x (BJ r)
end
noncomputable def BG {α:Type} [DecidableEq α]:List α->List α
 | []=>[]
 | x::r=>if x∈r then BG r else x::BG r
noncomputable def B7 (a b:Int):Bool:=decide (a<b)
noncomputable def items (U:MH):MV->Option (List MV)
 | .tup l=>some l
 | .fl l=>some l
 | .ref i=>match U[i]? with
  | some (.list l)=>some l
  | _=>Option.none
 | _=>Option.none
noncomputable def AO (U:MH):MV->Option (List MV)
 | .fl l=>some l
 | .ref i=>match U[i]? with
  | some (.list l)=>some l
  | _=>Option.none
 | _=>Option.none
noncomputable def D9 (o:MO) (k:MV):Option (Option MV):=match o with
 | .ed=>match k with
  | .int _=>some Option.none
  | .tup l=>(MV.key? (.tup l)).map λ_=>Option.none
  | _=>Option.none
 | .idict l=>match k with
  | .int i=>some (l.lookup i)
  | _=>Option.none
 | .tdict l=>match k with
  | .tup x=>(MV.key? (.tup x)).map λx=>l.lookup x
  | _=>Option.none
 | _=>Option.none
noncomputable def put {κ:Type} [BEq κ] [DecidableEq κ] (l:List (κ×MV)) (k:κ) (v:MV):List (κ×MV) :=
 if (l.lookup k).isSome then l.map λp=>if p.1=k then (k,v)else p else l++[(k,v)]
noncomputable def Fa (o:MO) (k:MV) (v:MV):Option MO:=match o with
 | .ed=>match k with
  | .int i=>some (.idict [(i,v)])
  | .tup x=>(MV.key? (.tup x)).map λx=>.tdict [(x,v)]
  | _=>Option.none
 | .idict l=>match k with
  | .int i=>if l.length<big then some (.idict (put l i v))else Option.none
  | _=>Option.none
 | .tdict l=>match k with
  | .tup x=>(MV.key? (.tup x)).bind λx=>if l.length<big then some (.tdict (put l x v))else Option.none
  | _=>Option.none
 | _=>Option.none
noncomputable def Bx:List (List At)->Option (List At)
 | []=>Option.none
 | [x]=>some x
 | x::r=>(Bx r).map λy=>if Ag y x then y else x
noncomputable def At.isI:At->Bool
 | .i _=>true
 | .s _=>false
noncomputable def E7:List At->Bool
 | .s _::r=>r.all At.isI
 | _=>false
noncomputable def J9 (k:List At):Bool:=!k.isEmpty && k.all At.isI
noncomputable def iter2 (U:MH) (k:IK) (x:MV):Option (List MV):=match k with
 | .it=>match x with
  | .str s=>if (s.toList.all λc=>decide (c.toNat<128))=true then some (s.toList.map λc=>.str (String.ofList [c]))else Option.none
  | x=>items U x
 | .range=>match x with
  | .int n=>if 0<=n/\n<=1000 then some ((List.range n.toNat).map λ(i:Nat)=>.int i)else Option.none
  | _=>Option.none
 | .enum _=>(AO U x).map λl=>l.zipIdx.map λp=>.tup [.int p.2,p.1]
noncomputable def CY (t:TG) (x:MV) (J:ME'):Option ME':=match t with
 | .v n=>some ((n,x)::J)
 | .two a b=>match x with
  | .tup l=>match l with
   | [x,y]=>some ((b,y)::(a,x)::J)
   | _=>Option.none
  | _=>Option.none
 | .one a=>match x with
  | .tup l=>match l with
   | [x]=>some ((a,x)::J)
   | _=>Option.none
  | _=>Option.none
noncomputable def TG.names:TG->List String
 | .v x=>[x]
 | .two a b=>[a,b]
 | .one a=>[a]
noncomputable def without (J:ME') (ns:List String):ME':=J.filter λp=>!ns.contains p.1
noncomputable def CD (U:MH):MV->Option Bool
 | .ref i=>match U[i]? with
  | some (.list _)=>some true
  | some (.attrs _)=>Option.none
  | some _=>some false
  | Option.none=>Option.none
 | _=>Option.none
theorem eX1 {a1:Type}{P:a1->Prop}{G:Prop}(h:∃ x1,P x1)(k:∀ x1,P x1->G):G:=h.elim λx1 h=>k x1 h
theorem eX2 {a1:Type}{a2:Type}{P:a1->a2->Prop}{G:Prop}(h:∃ x1 x2,P x1 x2)(k:∀ x1 x2,P x1 x2->G):G:=h.elim λx1 h=>h.elim λx2 h=>k x1 x2 h
theorem eX3 {a1:Type}{a2:Type}{a3:Type}{P:a1->a2->a3->Prop}{G:Prop}(h:∃ x1 x2 x3,P x1 x2 x3)(k:∀ x1 x2 x3,P x1 x2 x3->G):G:=h.elim λx1 h=>h.elim λx2 h=>h.elim λx3 h=>k x1 x2 x3 h
theorem eX4 {a1:Type}{a2:Type}{a3:Type}{a4:Type}{P:a1->a2->a3->a4->Prop}{G:Prop}(h:∃ x1 x2 x3 x4,P x1 x2 x3 x4)(k:∀ x1 x2 x3 x4,P x1 x2 x3 x4->G):G:=h.elim λx1 h=>h.elim λx2 h=>h.elim λx3 h=>h.elim λx4 h=>k x1 x2 x3 x4 h
theorem eX5 {a1:Type}{a2:Type}{a3:Type}{a4:Type}{a5:Type}{P:a1->a2->a3->a4->a5->Prop}{G:Prop}(h:∃ x1 x2 x3 x4 x5,P x1 x2 x3 x4 x5)(k:∀ x1 x2 x3 x4 x5,P x1 x2 x3 x4 x5->G):G:=h.elim λx1 h=>h.elim λx2 h=>h.elim λx3 h=>h.elim λx4 h=>h.elim λx5 h=>k x1 x2 x3 x4 x5 h
theorem eX6 {a1:Type}{a2:Type}{a3:Type}{a4:Type}{a5:Type}{a6:Type}{P:a1->a2->a3->a4->a5->a6->Prop}{G:Prop}(h:∃ x1 x2 x3 x4 x5 x6,P x1 x2 x3 x4 x5 x6)(k:∀ x1 x2 x3 x4 x5 x6,P x1 x2 x3 x4 x5 x6->G):G:=h.elim λx1 h=>h.elim λx2 h=>h.elim λx3 h=>h.elim λx4 h=>h.elim λx5 h=>h.elim λx6 h=>k x1 x2 x3 x4 x5 x6 h
theorem aN2 {A1 A2 G:Prop}(h:A1/\A2)(k:A1->A2->G):G:=k h.1 h.2
theorem aN3 {A1 A2 A3 G:Prop}(h:A1/\A2/\A3)(k:A1->A2->A3->G):G:=k h.1 h.2.1 h.2.2
theorem aN4 {A1 A2 A3 A4 G:Prop}(h:A1/\A2/\A3/\A4)(k:A1->A2->A3->A4->G):G:=k h.1 h.2.1 h.2.2.1 h.2.2.2
theorem aN5 {A1 A2 A3 A4 A5 G:Prop}(h:A1/\A2/\A3/\A4/\A5)(k:A1->A2->A3->A4->A5->G):G:=k h.1 h.2.1 h.2.2.1 h.2.2.2.1 h.2.2.2.2
theorem aN6 {A1 A2 A3 A4 A5 A6 G:Prop}(h:A1/\A2/\A3/\A4/\A5/\A6)(k:A1->A2->A3->A4->A5->A6->G):G:=k h.1 h.2.1 h.2.2.1 h.2.2.2.1 h.2.2.2.2.1 h.2.2.2.2.2
theorem aN7 {A1 A2 A3 A4 A5 A6 A7 G:Prop}(h:A1/\A2/\A3/\A4/\A5/\A6/\A7)(k:A1->A2->A3->A4->A5->A6->A7->G):G:=k h.1 h.2.1 h.2.2.1 h.2.2.2.1 h.2.2.2.2.1 h.2.2.2.2.2.1 h.2.2.2.2.2.2
theorem aN8 {A1 A2 A3 A4 A5 A6 A7 A8 G:Prop}(h:A1/\A2/\A3/\A4/\A5/\A6/\A7/\A8)(k:A1->A2->A3->A4->A5->A6->A7->A8->G):G:=k h.1 h.2.1 h.2.2.1 h.2.2.2.1 h.2.2.2.2.1 h.2.2.2.2.2.1 h.2.2.2.2.2.2.1 h.2.2.2.2.2.2.2
theorem aN9 {A1 A2 A3 A4 A5 A6 A7 A8 A9 G:Prop}(h:A1/\A2/\A3/\A4/\A5/\A6/\A7/\A8/\A9)(k:A1->A2->A3->A4->A5->A6->A7->A8->A9->G):G:=k h.1 h.2.1 h.2.2.1 h.2.2.2.1 h.2.2.2.2.1 h.2.2.2.2.2.1 h.2.2.2.2.2.2.1 h.2.2.2.2.2.2.2.1 h.2.2.2.2.2.2.2.2
theorem PZ {A1 A2 A3 A4 A5 A6 A7 A8 A9 A10 G:Prop}(h:A1/\A2/\A3/\A4/\A5/\A6/\A7/\A8/\A9/\A10)(k:A1->A2->A3->A4->A5->A6->A7->A8->A9->A10->G):G:=k h.1 h.2.1 h.2.2.1 h.2.2.2.1 h.2.2.2.2.1 h.2.2.2.2.2.1 h.2.2.2.2.2.2.1 h.2.2.2.2.2.2.2.1 h.2.2.2.2.2.2.2.2.1 h.2.2.2.2.2.2.2.2.2
theorem aN11 {A1 A2 A3 A4 A5 A6 A7 A8 A9 A10 A11 G:Prop}(h:A1/\A2/\A3/\A4/\A5/\A6/\A7/\A8/\A9/\A10/\A11)(k:A1->A2->A3->A4->A5->A6->A7->A8->A9->A10->A11->G):G:=k h.1 h.2.1 h.2.2.1 h.2.2.2.1 h.2.2.2.2.1 h.2.2.2.2.2.1 h.2.2.2.2.2.2.1 h.2.2.2.2.2.2.2.1 h.2.2.2.2.2.2.2.2.1 h.2.2.2.2.2.2.2.2.2.1 h.2.2.2.2.2.2.2.2.2.2
theorem eI2 {a1:Type}{a2:Type}{P:a1->a2->Prop}(x1:a1)(x2:a2)(h:P x1 x2):∃ x1 x2,P x1 x2:=⟨x1,x2,h⟩
theorem eI3 {a1:Type}{a2:Type}{a3:Type}{P:a1->a2->a3->Prop}(x1:a1)(x2:a2)(x3:a3)(h:P x1 x2 x3):∃ x1 x2 x3,P x1 x2 x3:=⟨x1,x2,x3,h⟩
theorem eI4 {a1:Type}{a2:Type}{a3:Type}{a4:Type}{P:a1->a2->a3->a4->Prop}(x1:a1)(x2:a2)(x3:a3)(x4:a4)(h:P x1 x2 x3 x4):∃ x1 x2 x3 x4,P x1 x2 x3 x4:=⟨x1,x2,x3,x4,h⟩
theorem eI5 {a1:Type}{a2:Type}{a3:Type}{a4:Type}{a5:Type}{P:a1->a2->a3->a4->a5->Prop}(x1:a1)(x2:a2)(x3:a3)(x4:a4)(x5:a5)(h:P x1 x2 x3 x4 x5):∃ x1 x2 x3 x4 x5,P x1 x2 x3 x4 x5:=⟨x1,x2,x3,x4,x5,h⟩
theorem eI6 {a1:Type}{a2:Type}{a3:Type}{a4:Type}{a5:Type}{a6:Type}{P:a1->a2->a3->a4->a5->a6->Prop}(x1:a1)(x2:a2)(x3:a3)(x4:a4)(x5:a5)(x6:a6)(h:P x1 x2 x3 x4 x5 x6):∃ x1 x2 x3 x4 x5 x6,P x1 x2 x3 x4 x5 x6:=⟨x1,x2,x3,x4,x5,x6,h⟩
theorem slt {a b c:Nat}(h:a - b<c):a<c+b:=Zq λq=>Nat.not_lt.mpr (Nat.le_sub_of_add_le q) h
theorem slt' {a b c:Nat}(h:a - b<c):a<b+c:=Nat.add_comm c b▸slt h
theorem step_lt {l i n:Nat}(h1:l - i<n+1)(h2:i<l):l - (i+1)<n:=Zd (Nat.sub_lt (n:=l - i) (Nat.sub_pos_of_lt h2) Nat.one_pos) (Zr h1)
theorem step_eq {l i k:Nat}(h1:l - i=k+1):l - (i+1)=k:=congrArg Nat.pred h1
theorem step_in {l i k:Nat}(h1:l - i=k+1):i<l:=Nat.lt_of_sub_eq_succ h1
theorem P0 {l i:Nat}(h1:l - i=0)(h2:i<=l):i=l:=Zv h2 (Nat.le_of_sub_eq_zero h1)
theorem OE {a b k:Nat}(h1:k<b):a<=a+b - 1 - k:=Nat.le_sub_of_add_le (Nat.le_sub_one_of_lt (Nat.add_lt_add_left h1 a))
theorem OF {a b k:Nat}(h1:a<=k)(h2:k<b):a+b - 1 - k<b :=
 have hb:0<b:=Nat.zero_lt_of_lt h2
 Nat.sub_lt_left_of_lt_add (Nat.le_sub_one_of_lt (Zd h2 (Zs b a))) (Zd (Nat.sub_lt (Zd hb (Zs b a)) Nat.one_pos) (Nat.add_le_add_right h1 b))
theorem mid_l {l r:Nat}(h:l<=r):l<=(l+r) / 2:=(Nat.le_div_iff_mul_le Nat.two_pos).mpr (Nat.mul_two l▸Nat.add_le_add_left h l)
theorem P1 {l r:Nat}(h:l<r):(l+r) / 2<r:=Nat.div_lt_of_lt_mul (Nat.two_mul r▸Nat.add_lt_add_right h r)
theorem mid_s1 {l r f:Nat}(h:r - l<=f+1)(h2:l<r):(l+r) / 2 - l<=f :=
 Nat.sub_le_of_le_add (Zr (Zd (P1 h2) (le_of_le_of_eq (Nat.le_add_of_sub_le h) (Nat.add_right_comm f 1 l))))
theorem mid_s2 {l r f:Nat}(h:r - l<=f+1)(h2:l<=r):r - ((l+r) / 2+1)<=f :=
 Nat.sub_le_of_le_add (Zc (le_of_le_of_eq (Nat.le_add_of_sub_le h) (Nat.add_right_comm f 1 l)) (Nat.succ_le_succ (Nat.add_le_add_left (mid_l h2) f)))
noncomputable def Dt (U:MH):MV->Bool
 | .obj _ i=>match U[i]? with
  | some (.attrs _)=>true
  | _=>false
 | _=>true
abbrev Tx:=String->String->Option FN
end
end Mine.Internal
namespace Mine.Internal
open PySem PySem.W PyProof.Rows
theorem wp_of {α:Type}{M:Model}{A:Around}{m m':Sem α}{Q:α->Shared->Prop}{E:Value->Shared->Prop}{s:Shared}(e:m=m')(h:wpAny M A m' Q E s):wpAny M A m Q E s:=e▸h
theorem CP {α β:Type} [BEq α] [LawfulBEq α] {l:List (α×β)}{a:α}{b:β}(e:l.lookup a=some b):(a,b)∈l:=by
 induction l with
 | nil=>cases e
 | cons p l ih =>
  obtain⟨x,y⟩:=p;rw[List.lookup_cons]at e
  split at e
  ·rename_i q;cases e;rw[beq_iff_eq.mp q];exact .head _
  ·exact .tail _ (ih e)
noncomputable def biT:List (String×Value):=[("len",.builtin "len"),("sum",.builtin "sum"),("max",.builtin "max"),("min",.builtin "min"),("sorted",.builtin "sorted"),("tuple",.type "tuple"),("str",.type "str"),("int",.type "int"),("set",.type "set"),("list",.type "list"),("range",.type "range"),("enumerate",.type "enumerate")]
noncomputable def Gn (x:String):Option Value:=biT.lookup x
noncomputable def stm (i:Nat):Stmt:=(PySem.Challenge.pw_sa0033_01.main.body)[i]?.getD (.Pass default)
noncomputable def sub (s:Stmt) (i:Nat):Stmt:=match s with
 | .ClassDef _ _ _ body _ _ _ _ _ _ _=>body[i]?.getD (.Pass default)
 | _=>.Pass default
noncomputable def Hb (s:Stmt):List Stmt:=match s with
 | .FunctionDef _ _ body _ _ _ _ _ _ _=>body
 | _=>[]
noncomputable def Am (s:Stmt):Scope:=match s with
 | .FunctionDef _ _ _ _ _ _ scope _ _ _=>scope
 | _=>{ kind:=.function,names:=[],isGenerator:=false,isCoroutine:=false }
noncomputable def dfT:List ((String×String)×Addr):=[(("","size_over"),28),(("","is_op"),152),(("","_law_reel"),482),(("","_law_deeds"),489),(("","_law_lots"),494),(("","_law_smallest"),499),(("","_law_term"),504),(("","_law_nodes"),509),(("","_law_told_right"),514),(("","law"),519)]
noncomputable def meT:List ((String×Addr)×String×Addr):=[(("Grammar",102),"__init__",42),(("Grammar",102),"class_of",47),(("Grammar",102),"accepts",54),(("Grammar",102),"kids",59),(("Grammar",102),"reached",66),(("Grammar",102),"least",85),(("Grammar",102),"least_size",92),(("Bank",259),"__init__",171),(("Bank",259),"size",178),(("Bank",259),"take",183),(("Bank",259),"require",190),(("Bank",259),"op",216),(("Bank",259),"kids",223),(("Unions",341),"__init__",277),(("Unions",341),"make",284),(("Unions",341),"size",291),(("Unions",341),"find",298),(("Unions",341),"merge",305),(("Unions",341),"members",312),(("Heap",471),"__init__",359),(("Heap",471),"node",371),(("Heap",471),"add",376),(("Heap",471),"put",381),(("Heap",471),"look_at",388),(("Heap",471),"find",395),(("Heap",471),"merge",409),(("Heap",471),"join",416),(("Heap",471),"settle",423),(("Heap",471),"members",444),(("Heap",471),"nodes_of",449),(("Heap",471),"seek",461)]
noncomputable def clT:List (String×Addr):=[("Grammar",102),("Bank",259),("Unions",341),("Heap",471)]
noncomputable def keptAt:List Addr:=[0,3,27,28,41,42,46,47,53,54,58,59,65,66,84,85,91,92,101,102,151,152,170,171,177,178,182,183,189,190,215,216,222,223,258,259,276,277,283,284,290,291,297,298,304,305,311,312,340,341,358,359,370,371,375,376,380,381,387,388,394,395,408,409,415,416,422,423,443,444,448,449,460,461,470,471,481,482,488,489,493,494,498,499,503,504,508,509,513,514,518,519]
noncomputable def fnT:List (Addr×Stmt):=[(28,stm 2),(42,sub (stm 3) 0),(47,sub (stm 3) 1),(54,sub (stm 3) 2),(59,sub (stm 3) 3),(66,sub (stm 3) 4),(85,sub (stm 3) 7),(92,sub (stm 3) 8),(171,sub (stm 10) 0),(178,sub (stm 10) 1),(183,sub (stm 10) 2),(190,sub (stm 10) 3),(216,sub (stm 10) 7),(223,sub (stm 10) 8),(277,sub (stm 12) 0),(284,sub (stm 12) 1),(291,sub (stm 12) 2),(298,sub (stm 12) 3),(305,sub (stm 12) 4),(312,sub (stm 12) 5),(359,sub (stm 14) 0),(371,sub (stm 14) 2),(376,sub (stm 14) 3),(381,sub (stm 14) 4),(388,sub (stm 14) 5),(395,sub (stm 14) 6),(409,sub (stm 14) 8),(416,sub (stm 14) 9),(423,sub (stm 14) 10),(444,sub (stm 14) 13),(449,sub (stm 14) 14),(461,sub (stm 14) 16),(152,stm 8),(482,stm 16),(489,stm 17),(494,stm 18),(499,stm 19),(504,stm 20),(509,stm 21),(514,stm 22),(519,stm 23)]
noncomputable def Bl (h:Heap):Frag:=keptAt.filterMap λa=>(h.get? a).map (a,·)
noncomputable def B9 (s:Stmt):Arguments:=match s with
 | .FunctionDef _ ps _ _ _ _ _ _ _ _=>ps
 | _=>⟨[],[],none,[],[],none,[]⟩
noncomputable def Pv (K:Frag) (f:Addr):Option FuncData:=match K.lookup f with
 | some ⟨_,_,.func fd,_⟩=>some fd
 | _=>none
noncomputable abbrev FdV:=FuncBody×Scope×Arguments×Addr×Addr×List (Str×Addr)×Value×Bool
noncomputable def Lm (K:Frag) (f:Addr):Option FdV:=(Pv K f).map λfd=>(fd.body,fd.scope,fd.params,fd.globals,fd.builtins,fd.closure,fd.defaults,codeIn K fd.code fd.qualname)
noncomputable def Ln (st:Stmt):Option FdV:=some (.stmts (Hb st),Am st,B9 st,mainGlobals,builtinsNs,[],.none,true)
noncomputable def fvT:List ((String×String)×Addr):=dfT++clT.map (λx=>(("class",x.1),x.2))++meT.map (λx=>((x.1.1,x.2.1),x.2.2))
noncomputable def glT:List (String×Addr):=dfT.map (λx=>(x.1.2,x.2))++clT
noncomputable def biNames:List String:=biT.map (·.1)
noncomputable abbrev ObsT:=List Bool×List (Option (Option Value)×Option Value)×List (Option Bool×Option (Option Value)×Option (Option Value)×Option (Option Value)×Bool×Bool)×List (List (Option (Option Value)))×List (Option FdV)×(Bool×Bool)×List (Option Value)×List (Option Value×Option Value)
noncomputable def Da (h:Heap):ObsT :=
 (fvT.map (λp=>keepIn (Bl h) (.ref p.2)),
  meT.map (λx=>(findIn (Bl h) (.ref x.1.2) (Str.ofString x.2.1),typeIn (Bl h) (.ref x.2.2))),
  clT.map (λx=>((clsIn (Bl h) x.2).map (·.hasDict),findIn (Bl h) (.ref x.2) "__getattribute__",findIn (Bl h) (.ref x.2) "__getattr__",findIn (Bl h) (.ref x.2) "__setattr__",plainOver (Bl h) x.2,makesIn (Bl h) x.2)),
  clT.map (λx=>attrNames.map λn=>findIn (Bl h) (.ref x.2) (Str.ofString n)),
  fnT.map (λx=>Lm (Bl h) x.1),
  (h.isNs mainGlobals,h.isNs builtinsNs),
  glT.map (λx=>h.nsMap mainGlobals (Str.ofString x.1)),
  biNames.map (λx=>(h.nsMap mainGlobals (Str.ofString x),h.nsMap builtinsNs (Str.ofString x))))
noncomputable def D8:ObsT :=
 (fvT.map (λ_=>true),
  meT.map (λx=>(some (some (.ref x.2.2)),some (.type "function"))),
  clT.map (λ_=>(some true,some (some (.builtin "object.__getattribute__")),some none,some (some (.builtin "object.__setattr__")),true,true)),
  clT.map (λ_=>attrNames.map λ_=>some none),
  fnT.map (λx=>Ln x.2),
  (true,true),
  glT.map (λx=>some (.ref x.2)),
  biNames.map (λx=>(none,Gn x)))
noncomputable abbrev pw:=PySem.Challenge.pw_sa0033_01
noncomputable def qv:Program:={ pw with main:={ pw.main with body:=[(pw.main.body)[23]?.getD (.Pass default)] } }
noncomputable def lo:List Str:=["_wall","size_over","Grammar","HeapError","TermFault","is_op","parts","Bank","Unions","Heap","_law_reel","_law_deeds","_law_lots","_law_smallest","_law_term","_law_nodes","_law_told_right"].map Str.ofString
section
set_option maxHeartbeats 0
theorem Ja {tb:String->Option Builtin}{p:Program}{w:World}{N:Nat}{s₀ s₁:Shared}(h0:(s₀.heap.isNs mainGlobals && s₀.gens.size == 0)=true)
  (h1:topRun tb p w s₀.heap.objs.size (s₀.heap.nsMap mainGlobals "__annotations__") N s₀ (topStub p)=some s₁) (h2:(staticsOk (importedModules p.main.body) s₀.heap s₁.heap && namesBound p s₁.heap && gensDone s₁ && laidKept s₀.heap s₁.heap)=true):topFrom tb p w N s₀=some s₁:=by
 unfold topFrom;rw[h0];dsimp only;rw[h1,Option.bind_some,h2]
theorem NW {p q:Program}{loose:List Str}{Xt:Shared->Bool}{α:Type}{ob:Heap->α}{va:α}{N:Nat}{H:World->Heap}{d:Drawn}{k:Nat}
  (hb:∀ w:World,(fencedOpening treeTable p w N).map (λs=>(s.heap,s.gens,s.drawn,s.toks))=some (H w,Array.mk [],d,k)) (hns:∀ w,(H w).isNs mainGlobals=true)
  (ran:∀ w os,Option.map (λs=>(openSeen q loose (importedModules p.main.body) Xt true s,(staticsOk (importedModules p.main.body) (H w) s.heap && namesBound p s.heap && gensDone s && laidKept (H w) s.heap),ob s.heap)) (topRun treeTable p w (H w).objs.size ((H w).nsMap mainGlobals "__annotations__") N ⟨H w,⟨[]⟩,d,k,os⟩ (topStub p))=some (openGood q loose,true,va)) :
  LeftO p q loose Xt (λs:Shared=>ob s.heap) (λ_=>va) N:=by
 intro w;obtain⟨⟨hp,g,dr,tk,os⟩,h0,e⟩:=ZD (hb w);simp only[Prod.mk.injEq]at e;obtain⟨e1,e2,e3,e4⟩:=e;subst e1 e2 e3 e4;obtain⟨s₁,r1,r2⟩:=ZD (ran w os);injection r2 with q1 r2
 injection r2 with q2 q3
 unfold openEnds;rw[h0,Option.bind_some,Ja (s₁:=s₁) (by show ((H w).isNs mainGlobals && _)=true;rw[hns];rfl) r1 q2,Option.map_some];show some (_,ob s₁.heap)=some (_,va);rw[q1,q3]
end
section
set_option maxHeartbeats 0
theorem o1:opening pw=plainProg pw.main.scope.names:=by kernel_rfl
theorem o2 (s:Shared):fenceModules? pw s=some s:=by kernel_rfl
theorem OV (w:World):(boot_heap w.params).isNs mainGlobals=true:=by kernel_rfl
end
section
set_option maxHeartbeats 0
noncomputable def OW (s:Shared):Bool:=xlAt qv [] s && recOk [] s
noncomputable def P2 (d:Thread->Bool) (st:SharedT->Thread->Option (SharedT×Thread)) (n:Nat):SharedT->Thread->Option SharedT :=
 @Nat.rec (λ_=>SharedT->Thread->Option SharedT) (λ_ _=>none) (λ_ ih s t=>@Bool.rec (λ_=>Option SharedT) (@Bool.rec (λ_=>Option SharedT) none (@Option.rec (SharedT×Thread) (λ_=>Option SharedT) none (λx=>ih x.1 x.2) (st s t)) (d t)) (some s) (through t)) n
theorem Ko {a b:Bool}{x:Option (SharedT×Thread)}{y:Step}{g:SharedT->Thread->Option SharedT}{G:Shared->Thread->Option Shared}{s s':SharedT}
  (hx:∀ s t,x=some (s,t)->y=.go s.abs t) (hg:∀ s t,g s t=some s'->G s.abs t=some s'.abs)
  (h:@Bool.rec (λ_=>Option SharedT) (@Bool.rec (λ_=>Option SharedT) none (@Option.rec (SharedT×Thread) (λ_=>Option SharedT) none (λx=>g x.1 x.2) x) b) (some s) a=some s') :
  @Bool.rec (λ_=>Option Shared) (@Bool.rec (λ_=>Option Shared) none (@Step.rec (λ_=>Option Shared) G (λ_ _=>none) y) b) (some s.abs) a=some s'.abs:=by
 cases a with
 | true=>exact congrArg (Option.map SharedT.abs) h
 | false=>cases b with
  | false=>exact absurd h.symm (Option.some_ne_none _)
  | true=>cases x with
   | none=>exact absurd h.symm (Option.some_ne_none _)
   | some r=>exact hx r.1 r.2 rfl▸hg r.1 r.2 h
theorem NX {tb:String->Option Builtin}{p:Program}{w:World}{n₀:Nat}{ann:Option Value}{n:Nat}:∀ (s s':SharedT)(t:Thread),P2 (stepOk n₀ ann) (stepT (denote tb) p w) n s t=some s'->topRun tb p w n₀ ann n s.abs t=some s'.abs:=by
 induction n with
 | zero=>exact λ_ _ _ h=>absurd h.symm (Option.some_ne_none _)
 | succ n ih=>exact λs s' t h=>ZO (by kernel_rfl) (Ko (λ_ _=>stepT_spec) (λs t=>ih s s' t) h)
noncomputable def OG (P:Params):BT×Nat:=(boot_heap P).objs.toList.foldl (λx o=>(x.1.ins x.2 o,x.2+1)) (.nil,0)
noncomputable def OH (w:World) (os:OsState):SharedT:=⟨(OG w.params).1,(OG w.params).2,(boot_heap w.params).life,⟨[]⟩,boot_drawn,boot_toks,os⟩
theorem Kq (w:World)(os:OsState):(OH w os).abs=⟨boot_heap w.params,⟨[]⟩,boot_drawn,boot_toks,os⟩:=by kernel_rfl
noncomputable def look (w:World) (s:Shared):=(openSeen qv lo (importedModules pw.main.body) OW true s,(staticsOk (importedModules pw.main.body) (boot_heap w.params) s.heap && namesBound pw s.heap && gensDone s && laidKept (boot_heap w.params) s.heap),Da s.heap)
theorem Pw (w:World)(os:OsState):Option.map (λs:SharedT=>look w s.abs) (P2 (stepOk (boot_heap w.params).objs.size ((boot_heap w.params).nsMap mainGlobals "__annotations__")) (stepT (denote treeTable) pw w) 7000 (OH w os) (topStub pw))=some (openGood qv lo,true,D8):=by
 unfold look;rw[PySem.W.Fast.te10156331382660048174,PySem.W.Fast.te6613529449190102663,PySem.W.Fast.te11892475500146522536,PySem.W.Fast.te14364793385576792824,PySem.W.Fast.te4187177175401517315]
 kernel_rfl
theorem OX (w:World)(os:OsState):Option.map (look w) (topRun treeTable pw w (boot_heap w.params).objs.size ((boot_heap w.params).nsMap mainGlobals "__annotations__") 7000 ⟨boot_heap w.params,⟨[]⟩,boot_drawn,boot_toks,os⟩ (topStub pw))=some (openGood qv lo,true,D8):=by
 obtain⟨s,h1,h2⟩:=ZD (Pw w os);refine Eq.subst (motive:=λz=>Option.map (look w) (topRun treeTable pw w _ _ 7000 z (topStub pw))=_) (Kq w os) ?_;rw[NX _ _ _ h1];exact congrArg some h2
theorem left:LeftO pw qv lo OW (λs:Shared=>Da s.heap) (λ_=>D8) 7000 :=
 NW (H:=λw=>boot_heap w.params) (boot_open (p:=pw) (N:=7000) o1 (by decide) o2) OV OX
theorem P3:PySem.Challenge.rw_sa0033_01.wellSaid=true:=by rw[PySem.W.Fast.te9446332074065402090];kernel_rfl
end
end Mine.Internal
namespace Mine.Internal
noncomputable def ir_size_over:FN:=⟨["kids"],[
 .ret (.bin .add (.c (.int 1)) (.bi .sum [.v "kids"]))]⟩
noncomputable def ir_Grammar_init:FN:=⟨["self","heap"],[
 .assign (.attr (.v "self") "heap") (.v "heap")]⟩
noncomputable def ir_Grammar_class_of:FN:=⟨["self","term"],[
 .assign (.v "kids") (.comp (.meth (.v "self") "class_of" [.v "part"]) (.v "part") .it (.from1 (.v "term")) []),
 .ret (.ite (.cmp .isin (.c (.int (-1))) (.v "kids")) (.c (.int (-1))) (.meth (.attr (.v "self") "heap") "seek" [.idx (.v "term") (.c (.int 0)),.v "kids"]))]⟩
noncomputable def ir_Grammar_accepts:FN:=⟨["self","c","term"],[
 .ret (.cmp .eq (.meth (.v "self") "class_of" [.v "term"]) (.meth (.attr (.v "self") "heap") "find" [.v "c"]))]⟩
noncomputable def ir_Grammar_kids:FN:=⟨["self","c"],[
 .ret (.bi .sortedset [.comp2 (.v "kid") (.v "node") (.meth (.attr (.v "self") "heap") "nodes_of" [.v "c"]) (.v "kid") (.from1 (.v "node"))])]⟩
noncomputable def ir_Grammar_reached:FN:=⟨["self","c"],[
 .unpack [.v "seen",.v "waiting"] (.tup [.dict,.lst [.meth (.attr (.v "self") "heap") "find" [.v "c"]]]),
 .while (.cmp .ne (.v "waiting") (.flst [])) [
  .assign (.v "here") (.meth (.v "waiting") "pop" []),
  .ite (.cmp .notin (.v "here") (.v "seen")) [
   .assign (.idx (.v "seen") (.v "here")) (.c (.bool true)),
   .expr (.meth (.v "waiting") "extend" [.meth (.v "self") "kids" [.v "here"]])] []],
 .ret (.bi .sorted [.v "seen"])]⟩
noncomputable def ir_Grammar_least:FN:=⟨["self","c","over"],[
 .unpack [.v "found",.v "some",.v "is_new"] (.tup [.dict,.meth (.v "self") "reached" [.v "c"],.c (.bool true)]),
 .while (.v "is_new") [
  .assign (.v "is_new") (.c (.bool false)),
  .for (.v "here") .it (.v "some") [
   .for (.v "node") .it (.meth (.attr (.v "self") "heap") "nodes_of" [.v "here"]) [
    .ite (.cmp .eq (.comp (.v "kid") (.v "kid") .it (.from1 (.v "node")) [.cmp .notin (.v "kid") (.v "found")]) (.flst [])) [
     .assign (.v "value") (.call (.v "over") [.comp (.idx (.v "found") (.v "kid")) (.v "kid") .it (.from1 (.v "node")) []]),
     .ite (.or (.cmp .notin (.v "here") (.v "found")) (.cmp .lt (.v "value") (.idx (.v "found") (.v "here")))) [
      .unpack [.idx (.v "found") (.v "here"),.v "is_new"] (.tup [.v "value",.c (.bool true)])] []] []]]],
 .ret (.idx (.v "found") (.meth (.attr (.v "self") "heap") "find" [.v "c"]))]⟩
noncomputable def ir_Grammar_least_size:FN:=⟨["self","c"],[
 .ret (.meth (.v "self") "least" [.v "c",.g "" "size_over"])]⟩
noncomputable def ir_is_op:FN:=⟨["text"],[
 .ret (.and (.cmp .ne (.v "text") (.c (.str ""))) (.cmp .eq (.comp (.v "sign") (.v "sign") .it (.v "text") [.or (.meth (.v "sign") "isspace" []) (.cmp .isin (.v "sign") (.c (.str "()[]{},:")))]) (.flst [])))]⟩
noncomputable def ir_Bank_init:FN:=⟨["self"],[
 .assign (.attr (.v "self") "nodes") (.lst []),
 .assign (.attr (.v "self") "numbers") (.dict),
 .assign (.attr (.v "self") "weights") (.lst []),
 .assign (.attr (.v "self") "depths") (.lst [])]⟩
noncomputable def ir_Bank_size:FN:=⟨["self"],[
 .ret (.bi .len [.attr (.v "self") "nodes"])]⟩
noncomputable def ir_Bank_take:FN:=⟨["self","op","kids"],[
 .assign (.v "node") (.bin .add (.tup [.v "op"]) (.bi .tuple [.v "kids"])),
 .ite (.cmp .isin (.v "node") (.attr (.v "self") "numbers")) [
  .ret (.idx (.attr (.v "self") "numbers") (.v "node"))] [],
 .expr (.meth (.v "self") "require" [.v "op"]),
 .for (.v "kid") .it (.from1 (.v "node")) [
  .ite (.not (.chain .le .lt (.c (.int 0)) (.v "kid") (.bi .len [.attr (.v "self") "nodes"]))) [
   .expr (.attr (.c .none) "")] []],
 .assign (.idx (.attr (.v "self") "numbers") (.v "node")) (.bi .len [.attr (.v "self") "nodes"]),
 .expr (.meth (.attr (.v "self") "nodes") "append" [.v "node"]),
 .expr (.meth (.attr (.v "self") "weights") "append" [.bin .add (.c (.int 1)) (.bi .sum [.comp (.idx (.attr (.v "self") "weights") (.v "kid")) (.v "kid") .it (.from1 (.v "node")) []])]),
 .expr (.meth (.attr (.v "self") "depths") "append" [.bin .add (.c (.int 1)) (.bi .max [.bin .add (.comp (.idx (.attr (.v "self") "depths") (.v "kid")) (.v "kid") .it (.from1 (.v "node")) []) (.flst [.c (.int 0)])])]),
 .ret (.bin .sub (.bi .len [.attr (.v "self") "nodes"]) (.c (.int 1)))]⟩
noncomputable def ir_Bank_require:FN:=⟨["self","op"],[
 .ite (.or (.not (.call (.g "" "is_op") [.v "op"])) (.cmp .eq (.idx (.v "op") (.c (.int 0))) (.c (.str "?")))) [
  .expr (.attr (.c .none) "")] []]⟩
noncomputable def ir_Bank_op:FN:=⟨["self","n"],[
 .ret (.idx (.idx (.attr (.v "self") "nodes") (.v "n")) (.c (.int 0)))]⟩
noncomputable def ir_Bank_kids:FN:=⟨["self","n"],[
 .ret (.from1 (.idx (.attr (.v "self") "nodes") (.v "n")))]⟩
noncomputable def ir_Unions_init:FN:=⟨["self"],[
 .assign (.attr (.v "self") "above") (.lst []),
 .assign (.attr (.v "self") "lots") (.lst []),
 .assign (.attr (.v "self") "merged") (.lst [])]⟩
noncomputable def ir_Unions_make:FN:=⟨["self"],[
 .expr (.meth (.attr (.v "self") "above") "append" [.bi .len [.attr (.v "self") "above"]]),
 .expr (.meth (.attr (.v "self") "lots") "append" [.lst [.bi .len [.attr (.v "self") "lots"]]]),
 .ret (.bin .sub (.bi .len [.attr (.v "self") "above"]) (.c (.int 1)))]⟩
noncomputable def ir_Unions_size:FN:=⟨["self"],[
 .ret (.bi .len [.attr (.v "self") "above"])]⟩
noncomputable def ir_Unions_find:FN:=⟨["self","a"],[
 .while (.cmp .ne (.idx (.attr (.v "self") "above") (.v "a")) (.v "a")) [
  .assign (.v "a") (.idx (.attr (.v "self") "above") (.v "a"))],
 .ret (.v "a")]⟩
noncomputable def ir_Unions_merge:FN:=⟨["self","a","b"],[
 .unpack [.v "kept",.v "gone"] (.bi .sorted [.flst [.meth (.v "self") "find" [.v "a"],.meth (.v "self") "find" [.v "b"]]]),
 .ite (.cmp .eq (.v "kept") (.v "gone")) [
  .ret (.c .none)] [],
 .assign (.idx (.attr (.v "self") "above") (.v "gone")) (.v "kept"),
 .expr (.meth (.idx (.attr (.v "self") "lots") (.v "kept")) "extend" [.idx (.attr (.v "self") "lots") (.v "gone")]),
 .expr (.meth (.attr (.v "self") "merged") "append" [.tup [.v "kept",.v "gone"]]),
 .ret (.tup [.v "kept",.v "gone"])]⟩
noncomputable def ir_Unions_members:FN:=⟨["self","a"],[
 .ret (.bi .sorted [.idx (.attr (.v "self") "lots") (.meth (.v "self") "find" [.v "a"])])]⟩
noncomputable def ir_Heap_init:FN:=⟨["self"],[
 .assign (.attr (.v "self") "bank") (.call (.g "class" "Bank") []),
 .assign (.attr (.v "self") "unions") (.call (.g "class" "Unions") []),
 .assign (.attr (.v "self") "edges") (.lst []),
 .assign (.attr (.v "self") "forest") (.lst []),
 .assign (.attr (.v "self") "known") (.dict),
 .assign (.attr (.v "self") "above") (.dict),
 .assign (.attr (.v "self") "waiting") (.lst []),
 .assign (.attr (.v "self") "backs") (.c (.int 0))]⟩
noncomputable def ir_Heap_node:FN:=⟨["self","n"],[
 .ret (.bin .add (.tup [.meth (.attr (.v "self") "bank") "op" [.v "n"]]) (.bi .tuple [.comp (.meth (.v "self") "find" [.v "kid"]) (.v "kid") .it (.meth (.attr (.v "self") "bank") "kids" [.v "n"]) []]))]⟩
noncomputable def ir_Heap_add:FN:=⟨["self","op","numbers"],[
 .assign (.v "n") (.meth (.attr (.v "self") "bank") "take" [.v "op",.v "numbers"]),
 .ite (.cmp .lt (.v "n") (.meth (.attr (.v "self") "unions") "size" [])) [
  .ret (.v "n")] [],
 .expr (.meth (.attr (.v "self") "unions") "make" []),
 .assign (.idx (.attr (.v "self") "above") (.v "n")) (.lst []),
 .for (.v "c") .it (.bi .sortedset [.comp (.meth (.v "self") "find" [.v "kid"]) (.v "kid") .it (.v "numbers") []]) [
  .expr (.meth (.idx (.attr (.v "self") "above") (.v "c")) "append" [.v "n"])],
 .expr (.meth (.v "self") "look_at" [.v "n"]),
 .ret (.v "n")]⟩
noncomputable def ir_Heap_put:FN:=⟨["self","term"],[
 .ret (.meth (.v "self") "add" [.idx (.v "term") (.c (.int 0)),.bi .tuple [.comp (.meth (.v "self") "put" [.v "part"]) (.v "part") .it (.from1 (.v "term")) []]])]⟩
noncomputable def ir_Heap_look_at:FN:=⟨["self","n"],[
 .assign (.v "other") (.meth (.attr (.v "self") "known") "setdefault" [.meth (.v "self") "node" [.v "n"],.v "n"]),
 .ite (.cmp .ne (.meth (.v "self") "find" [.v "other"]) (.meth (.v "self") "find" [.v "n"])) [
  .expr (.meth (.v "self") "join" [.v "other",.v "n",.tup [.c (.str "like")]])] []]⟩
noncomputable def ir_Heap_find:FN:=⟨["self","n"],[
 .ret (.meth (.attr (.v "self") "unions") "find" [.v "n"])]⟩
noncomputable def ir_Heap_merge:FN:=⟨["self","a","b","reason"],[
 .ret (.meth (.v "self") "join" [.v "a",.v "b",.v "reason"])]⟩
noncomputable def ir_Heap_join:FN:=⟨["self","a","b","reason"],[
 .expr (.meth (.attr (.v "self") "edges") "append" [.tup [.v "a",.v "b",.v "reason"]]),
 .assign (.v "merged") (.meth (.attr (.v "self") "unions") "merge" [.v "a",.v "b"]),
 .ite (.cmp .is (.v "merged") (.c .none)) [
  .ret (.c (.bool false))] [],
 .unpack [.v "kept",.v "gone"] (.v "merged"),
 .expr (.meth (.attr (.v "self") "forest") "append" [.bin .sub (.bi .len [.attr (.v "self") "edges"]) (.c (.int 1))]),
 .expr (.meth (.attr (.v "self") "waiting") "extend" [.idx (.attr (.v "self") "above") (.v "gone")]),
 .assign (.idx (.attr (.v "self") "above") (.v "kept")) (.cat (.idx (.attr (.v "self") "above") (.v "kept")) (.meth (.attr (.v "self") "above") "pop" [.v "gone"])),
 .ret (.c (.bool true))]⟩
noncomputable def ir_Heap_settle:FN:=⟨["self"],[
 .while (.cmp (.gt ()) (.bi .len [.attr (.v "self") "waiting"]) (.c (.int 0))) [
  .expr (.meth (.v "self") "look_at" [.meth (.attr (.v "self") "waiting") "pop" []])]]⟩
noncomputable def ir_Heap_members:FN:=⟨["self","c"],[
 .ret (.meth (.attr (.v "self") "unions") "members" [.v "c"])]⟩
noncomputable def ir_Heap_nodes_of:FN:=⟨["self","c"],[
 .ret (.bi .sortedset [.comp (.meth (.v "self") "node" [.v "n"]) (.v "n") .it (.meth (.v "self") "members" [.v "c"]) []])]⟩
noncomputable def ir_Heap_seek:FN:=⟨["self","op","classes"],[
 .assign (.v "n") (.meth (.attr (.v "self") "known") "get" [.bin .add (.tup [.v "op"]) (.bi .tuple [.comp (.meth (.v "self") "find" [.v "c"]) (.v "c") .it (.v "classes") []]),.c (.int (-1))]),
 .ret (.ite (.cmp .lt (.v "n") (.c (.int 0))) (.c (.int (-1))) (.meth (.v "self") "find" [.v "n"]))]⟩
noncomputable def ir_law_reel:FN:=⟨["spool","many"],[
 .assign (.v "place") (.idx (.v "spool") (.c (.int 1))),
 .assign (.idx (.v "spool") (.c (.int 1))) (.bin .add (.v "place") (.c (.int 1))),
 .ret (.bin .mod (.ite (.cmp .lt (.v "place") (.bi .len [.idx (.v "spool") (.c (.int 0))])) (.idx (.idx (.v "spool") (.c (.int 0))) (.v "place")) (.bin (.fdiv ()) (.bin .add (.bin .add (.bin .mul (.bin .mul (.c (.int 5)) (.v "place")) (.v "place")) (.bin .mul (.c (.int 7)) (.v "place"))) (.c (.int 8))) (.c (.int 4)))) (.v "many"))]⟩
noncomputable def ir_law_deeds:FN:=⟨["spool","heap","rows","pairs"],[
 .for (.v "lap") .range (.bin .add (.c (.int 1)) (.call (.g "" "_law_reel") [.v "spool",.c (.int 5)])) [
  .unpack [.v "way",.v "one",.v "other"] (.tup [.call (.g "" "_law_reel") [.v "spool",.c (.int 4)],.call (.g "" "_law_reel") [.v "spool",.bi .len [.v "rows"]],.call (.g "" "_law_reel") [.v "spool",.bi .len [.v "rows"]]]),
  .ite (.or (.cmp .eq (.v "way") (.c (.int 3))) (.cmp (.gt ()) (.bi .len [.v "rows"]) (.c (.int 7)))) [
   .expr (.meth (.v "pairs") "append" [.tup [.v "one",.v "other"]]),
   .expr (.meth (.v "heap") "merge" [.v "one",.v "other",.tup [.c (.str "told"),.bi .str [.bi .len [.v "pairs"]]]]),
   .cont] [],
  .assign (.v "last") (.bin .sub (.bi .len [.v "rows"]) (.c (.int 1))),
  .assign (.v "row") (.idx (.flst [.tup [.c (.str "f"),.v "one"],.tup [.c (.str "g"),.v "one",.v "other"],.tup [.c (.str "g"),.v "last",.v "last"]]) (.v "way")),
  .assign (.v "n") (.meth (.v "heap") "add" [.idx (.v "row") (.c (.int 0)),.from1 (.v "row")]),
  .ite (.cmp .eq (.v "n") (.bi .len [.v "rows"])) [
   .expr (.meth (.v "rows") "append" [.v "row"])] [],
  .ite (.cmp .ne (.idx (.v "rows") (.v "n")) (.v "row")) [
   .ret (.c (.bool false))] []],
 .expr (.meth (.v "heap") "settle" []),
 .ret (.c (.bool true))]⟩
noncomputable def ir_law_lots:FN:=⟨["rows","pairs"],[
 .unpack [.v "lots",.v "goes_on"] (.tup [.bi (.listrange ()) [.bi .len [.v "rows"]],.c (.bool true)]),
 .while (.v "goes_on") [
  .unpack [.v "goes_on",.v "first_of"] (.tup [.c (.bool false),.dict]),
  .assign (.v "same") (.comp (.tup [.meth (.v "first_of") "setdefault" [.bin .add (.tup [.idx (.v "row") (.c (.int 0))]) (.bi .tuple [.comp (.idx (.v "lots") (.v "kid")) (.v "kid") .it (.from1 (.v "row")) []]),.v "n"],.v "n"]) (.two "n" "row") (.enum ()) (.v "rows") []),
  .for (.two "one" "other") .it (.bin .add (.v "pairs") (.v "same")) [
   .unpack [.v "low",.v "high"] (.bi .sorted [.flst [.idx (.v "lots") (.v "one"),.idx (.v "lots") (.v "other")]]),
   .ite (.cmp .ne (.v "low") (.v "high")) [
    .unpack [.v "lots",.v "goes_on"] (.tup [.comp (.ite (.cmp .eq (.v "lot") (.v "high")) (.v "low") (.v "lot")) (.v "lot") .it (.v "lots") [],.c (.bool true)])] []]],
 .ret (.v "lots")]⟩
noncomputable def ir_law_smallest:FN:=⟨["rows","lots"],[
 .assign (.v "found") (.dict),
 .while (.cmp .lt (.bi .len [.v "found"]) (.bi .lenset [.v "lots"])) [
  .assign (.v "able") (.lst []),
  .for (.two "n" "row") (.enum ()) (.v "rows") [
   .ite (.and (.cmp .notin (.idx (.v "lots") (.v "n")) (.v "found")) (.cmp .eq (.comp (.v "kid") (.v "kid") .it (.from1 (.v "row")) [.cmp .notin (.idx (.v "lots") (.v "kid")) (.v "found")]) (.flst []))) [
    .expr (.meth (.v "able") "append" [.tup [.bin .add (.c (.int 1)) (.bi .sum [.comp (.idx (.idx (.v "found") (.idx (.v "lots") (.v "kid"))) (.c (.int 0))) (.v "kid") .it (.from1 (.v "row")) []]),.v "n"]])] []],
  .unpack [.v "few",.v "n"] (.bi .min [.v "able"]),
  .assign (.idx (.v "found") (.idx (.v "lots") (.v "n"))) (.tup [.v "few",.v "n"])],
 .ret (.v "found")]⟩
noncomputable def ir_law_term:FN:=⟨["rows","lots","found","lot"],[
 .assign (.v "row") (.idx (.v "rows") (.idx (.idx (.v "found") (.v "lot")) (.c (.int 1)))),
 .ret (.bin .add (.tup [.idx (.v "row") (.c (.int 0))]) (.bi .tuple [.comp (.call (.g "" "_law_term") [.v "rows",.v "lots",.v "found",.idx (.v "lots") (.v "kid")]) (.v "kid") .it (.from1 (.v "row")) []]))]⟩
noncomputable def ir_law_nodes:FN:=⟨["term"],[
 .ret (.bin .add (.c (.int 1)) (.bi .sum [.comp (.call (.g "" "_law_nodes") [.v "kid"]) (.v "kid") .it (.from1 (.v "term")) []]))]⟩
noncomputable def ir_law_told_right:FN:=⟨["spool","grammar","rows","pairs"],[
 .assign (.v "lots") (.call (.g "" "_law_lots") [.v "rows",.v "pairs"]),
 .assign (.v "found") (.call (.g "" "_law_smallest") [.v "rows",.v "lots"]),
 .unpack [.v "n",.v "other"] (.tup [.call (.g "" "_law_reel") [.v "spool",.bi .len [.v "rows"]],.call (.g "" "_law_reel") [.v "spool",.bi .len [.v "rows"]]]),
 .ite (.cmp .ne (.comp (.meth (.v "grammar") "least_size" [.v "one"]) (.v "one") .it (.tup [.v "n",.v "other",.bin .sub (.bi .len [.v "rows"]) (.c (.int 1))]) []) (.comp (.idx (.idx (.v "found") (.idx (.v "lots") (.v "one"))) (.c (.int 0))) (.v "one") .it (.tup [.v "n",.v "other",.bin .sub (.bi .len [.v "rows"]) (.c (.int 1))]) [])) [
  .ret (.c (.bool false))] [],
 .assign (.v "term") (.call (.g "" "_law_term") [.v "rows",.v "lots",.v "found",.idx (.v "lots") (.v "n")]),
 .ite (.or (.cmp .ne (.call (.g "" "_law_nodes") [.v "term"]) (.idx (.idx (.v "found") (.idx (.v "lots") (.v "n"))) (.c (.int 0)))) (.cmp .ne (.meth (.v "grammar") "class_of" [.v "term"]) (.idx (.v "lots") (.v "n")))) [
  .ret (.c (.bool false))] [],
 .ret (.and (.meth (.v "grammar") "accepts" [.v "n",.v "term"]) (.cmp .eq (.meth (.v "grammar") "accepts" [.v "other",.v "term"]) (.cmp .eq (.idx (.v "lots") (.v "other")) (.idx (.v "lots") (.v "n")))))]⟩
noncomputable def ir_law:FN:=⟨["script"],[
 .unpack [.v "spool",.v "heap"] (.tup [.lst [.comp (.bin .mod (.bi .int [.v "cell"]) (.c (.int 1000003))) (.v "cell") .it (.upto (.v "script") 48) [],.c (.int 0)],.call (.g "class" "Heap") []]),
 .unpack [.v "grammar",.v "rows",.v "pairs"] (.tup [.call (.g "class" "Grammar") [.v "heap"],.lst [.tup [.c (.str "a")],.tup [.c (.str "b")]],.lst []]),
 .for (.v "row") .it (.v "rows") [
  .expr (.meth (.v "heap") "put" [.v "row"])],
 .for (.v "lap") .range (.c (.int 2)) [
  .ite (.or (.not (.call (.g "" "_law_deeds") [.v "spool",.v "heap",.v "rows",.v "pairs"])) (.not (.call (.g "" "_law_told_right") [.v "spool",.v "grammar",.v "rows",.v "pairs"]))) [
   .ret (.c (.bool false))] []],
 .ret (.c (.bool true))]⟩
noncomputable def txL:List ((String×String)×FN):=[(("","size_over"),ir_size_over),(("Grammar","__init__"),ir_Grammar_init),(("Grammar","class_of"),ir_Grammar_class_of),(("Grammar","accepts"),ir_Grammar_accepts),(("Grammar","kids"),ir_Grammar_kids),(("Grammar","reached"),ir_Grammar_reached),(("Grammar","least"),ir_Grammar_least),(("Grammar","least_size"),ir_Grammar_least_size),(("","is_op"),ir_is_op),(("Bank","__init__"),ir_Bank_init),(("Bank","size"),ir_Bank_size),(("Bank","take"),ir_Bank_take),(("Bank","require"),ir_Bank_require),(("Bank","op"),ir_Bank_op),(("Bank","kids"),ir_Bank_kids),(("Unions","__init__"),ir_Unions_init),(("Unions","make"),ir_Unions_make),(("Unions","size"),ir_Unions_size),(("Unions","find"),ir_Unions_find),(("Unions","merge"),ir_Unions_merge),(("Unions","members"),ir_Unions_members),(("Heap","__init__"),ir_Heap_init),(("Heap","node"),ir_Heap_node),(("Heap","add"),ir_Heap_add),(("Heap","put"),ir_Heap_put),(("Heap","look_at"),ir_Heap_look_at),(("Heap","find"),ir_Heap_find),(("Heap","merge"),ir_Heap_merge),(("Heap","join"),ir_Heap_join),(("Heap","settle"),ir_Heap_settle),(("Heap","members"),ir_Heap_members),(("Heap","nodes_of"),ir_Heap_nodes_of),(("Heap","seek"),ir_Heap_seek),(("","_law_reel"),ir_law_reel),(("","_law_deeds"),ir_law_deeds),(("","_law_lots"),ir_law_lots),(("","_law_smallest"),ir_law_smallest),(("","_law_term"),ir_law_term),(("","_law_nodes"),ir_law_nodes),(("","_law_told_right"),ir_law_told_right),(("","law"),ir_law)]
noncomputable def tx:Tx:=λc n=>txL.lookup (c,n)
section
set_option backward.match.sparseCases false
structure CK where
 call:String->String->List MV->MH->(MV->MH->Prop)->Prop
 turns:Nat
inductive BinR (U:MH):BO->MV->MV->MV->Prop
 | add (a b:Int):BinR U .add (.int a) (.int b) (.int (a+b))
 | sub (a b:Int):BinR U .sub (.int a) (.int b) (.int (a - b))
 | mul (a b:Int):a.natAbs<2 ^ 60/\b.natAbs<2 ^ 60->BinR U .mul (.int a) (.int b) (.int (a * b))
 | fdiv (a b:Int):0<=a/\a<2 ^ 60/\0<b/\b<2 ^ 60->BinR U (.fdiv ()) (.int a) (.int b) (.int (a.fdiv b))
 | mod (a b:Int):b≠0->BinR U .mod (.int a) (.int b) (.int (a.fmod b))
 | tup (a b:List MV):a.length+b.length<=big->BinR U .add (.tup a) (.tup b) (.tup (a++b))
 | lst (a b:MV) (l m:List MV):AO U a=some l->AO U b=some m->l.length+m.length<=big->BinR U .add a b (.fl (l++m))
inductive CmpR (U:MH):CO->MV->MV->Bool->Prop
 | eqi (a b:Int):CmpR U .eq (.int a) (.int b) (decide (a=b))
 | nei (a b:Int):CmpR U .ne (.int a) (.int b) (decide (a≠b))
 | lti (a b:Int):CmpR U .lt (.int a) (.int b) (decide (a<b))
 | gti (a b:Int):CmpR U (.gt ()) (.int a) (.int b) (decide (a > b))
 | lei (a b:Int):CmpR U .le (.int a) (.int b) (decide (a<=b))
 | eqs (a b:String):CmpR U .eq (.str a) (.str b) (decide (a=b))
 | nes (a b:String):CmpR U .ne (.str a) (.str b) (decide (a≠b))
 | eqb (a b:Bool):CmpR U .eq (.bool a) (.bool b) (decide (a=b))
 | net (a b:List MV) (ka kb:List At):MV.key? (.tup a)=some ka->MV.key? (.tup b)=some kb->CmpR U .ne (.tup a) (.tup b) (decide (ka≠kb))
 | isn:CmpR U .is .none .none true
 | ist (a:List MV):CmpR U .is (.tup a) .none false
 | inl (i:Int) (b:MV) (l:List MV) (ns:List Int):AO U b=some l->l.mapM MV.int? = some ns->CmpR U .isin (.int i) b (decide (i∈ns))
 | ind (a:MV) (j:Nat) (o:MO) (r:Option MV):U[j]? = some o->D9 o a=some r->CmpR U .isin a (.ref j) r.isSome
 | nin (i:Int) (j:Nat) (o:MO) (r:Option MV):U[j]? = some o->D9 o (.int i)=some r->CmpR U .notin (.int i) (.ref j) r.isNone
 | ins (a b:String) (c:Char):a.toList=[c]->CmpR U .isin (.str a) (.str b) (decide (c∈b.toList))
 | eql (a b:MV) (la lb:List Int):((AO U a).bind λl=>l.mapM MV.int?)=some la->((AO U b).bind λl=>l.mapM MV.int?)=some lb->CmpR U .eq a b (decide (la=lb))
 | nel (a b:MV) (la lb:List Int):((AO U a).bind λl=>l.mapM MV.int?)=some la->((AO U b).bind λl=>l.mapM MV.int?)=some lb->CmpR U .ne a b (!decide (la=lb))
inductive IdxR (U:MH):MV->MV->MV->Prop
 | tup (l:List MV) (i:Nat) (v:MV):i<2 ^ 60->l[i]? = some v->IdxR U (.tup l) (.int i) v
 | fl (l:List MV) (i:Nat) (v:MV):i<2 ^ 60->l[i]? = some v->IdxR U (.fl l) (.int i) v
 | str (s:String) (c:Char) (rest:List Char):s.toList=c::rest->IdxR U (.str s) (.int 0) (.str (String.ofList [c]))
 | lst (j:Nat) (l:List MV) (i:Nat) (v:MV):U[j]? = some (.list l)->i<2 ^ 60->l[i]? = some v->IdxR U (.ref j) (.int i) v
 | dct (j:Nat) (o:MO) (i v:MV):U[j]? = some o->D9 o i=some (some v)->IdxR U (.ref j) i v
inductive MetR (U:MH):Option Bool->MV->String->List MV->MV->MH->Prop
 | isspace (kd:Option Bool) (z:String) (c:Char):z.toList=[c]->97<=c.toNat/\c.toNat<128->MetR U kd (.str z) "isspace" [] (.bool false) U
 | append (i:Nat) (l:List MV) (x:MV):U[i]? = some (.list l)->l.length<big->MetR U (some true) (.ref i) "append" [x] .none (U.set i (.list (l++[x])))
 | extend (i:Nat) (l m:List MV) (x:MV):U[i]? = some (.list l)->AO U x=some m->l.length+m.length<=big->MetR U (some true) (.ref i) "extend" [x] .none (U.set i (.list (l++m)))
 | lpop (i:Nat) (l:List MV) (x:MV):U[i]? = some (.list l)->l.getLast? = some x->MetR U (some true) (.ref i) "pop" [] x (U.set i (.list l.dropLast))
 | get (i:Nat) (o:MO) (k v:MV) (r:Option MV):U[i]? = some o->D9 o k=some r->MetR U (some false) (.ref i) "get" [k,v] (r.getD v) U
 | sold (i:Nat) (o:MO) (k:List MV) (v x:MV):U[i]? = some o->D9 o (.tup k)=some (some x)->MetR U (some false) (.ref i) "setdefault" [.tup k,v] x U
 | snew (i:Nat) (o o':MO) (k:List MV) (v:MV):U[i]? = some o->D9 o (.tup k)=some none->Fa o (.tup k) v=some o'->MetR U (some false) (.ref i) "setdefault" [.tup k,v] v (U.set i o')
 | dpop (i:Nat) (l:List (Int×MV)) (k:Int) (x:MV):U[i]? = some (.idict l)->l.lookup k=some x->MetR U (some false) (.ref i) "pop" [.int k] x (U.set i (.idict (l.filter λp=>p.1≠k)))
noncomputable abbrev BiP (U:MH) (b:BI) (x v:MV):Prop:=match b with
 | .len=>(∃ l,items U x=some l/\l.length<=big/\v=.int l.length)\/(∃ i,x=.ref i/\U[i]? = some .ed/\v=.int 0)\/∃ i l,x=.ref i/\U[i]? = some (.idict l)/\v=.int l.length
 | .sum=>∃ l ns,AO U x=some l/\l.mapM MV.int? = some ns/\(ns.length<=1000/\(ns.all λi=>decide (0<=i/\i<2 ^ 40))=true)/\v=.int ns.sum
 | .max=>∃ l ns m,AO U x=some l/\l.mapM MV.int? = some ns/\ns.max? = some m/\v=.int m
 | .min=>∃ l ks k,AO U x=some l/\l.mapM MV.key? = some ks/\(ks.all J9=true/\ks.length<=1000)/\Bx ks=some k/\v=.tup (k.map At.mv)
 | .tuple=>∃ l,items U x=some l/\l.length<=big/\v=.tup l
 | .sorted=>(∃ l ns,AO U x=some l/\l.length<64/\l.mapM MV.int? = some ns/\v=.fl ((BJ B7 ns).map .int))\/(∃ i,x=.ref i/\U[i]? = some .ed/\v=.fl [])\/∃ i l,x=.ref i/\U[i]? = some (.idict l)/\l.length<64/\v=.fl ((BJ B7 (l.map (·.1))).map .int)
 | .str=>∃ i,x=.int i/\(0<=i/\i<1000)/\v=.str (toString i.toNat)
 | .int=>∃ i,x=.int i/\v=.int i
 | .sortedset=>∃ l,x=.fl l/\l.length<64/\((∃ ns,l.mapM MV.int? = some ns/\v=.fl ((BJ B7 (BG ns)).map .int))\/∃ ks,l.mapM MV.key? = some ks/\(ks.all E7=true/\(BG ks).length<=16)/\v=.fl ((BJ Ag (BG ks)).map λk=>.tup (k.map At.mv)))
 | .lenset=>∃ l ns,x=.fl l/\l.length<64/\l.mapM MV.int? = some ns/\v=.int (BG ns).length
 | .listrange _=>∃ i,x=.int i/\(0<=i/\i<=1000)/\v=.fl ((List.range i.toNat).map λ(j:Nat)=>.int j)
noncomputable def isB (x:MV) (P:Bool->Prop):Prop:=match x with
 | .bool b=>P b
 | _=>False
noncomputable def P4 (fl:FL) (K:FL->Prop) (go:Prop):Prop:=match fl with
 | .ret v=>K (.ret v)
 | _=>go
noncomputable def EE (cur:MH->Option (List MV)) (f:MV->List MV->MH->(List MV->MH->Prop)->Prop):Nat->Nat->List MV->MH->(List MV->MH->Prop)->Prop
 | 0,_,_,_,_=>False
 | n+1,i,acc,U,K=>∃ l,cur U=some l/\(l[i]? = none->K acc U)/\∀ x,l[i]? = some x->f x acc U λacc U=>EE cur f n (i+1) acc U K
noncomputable def KS (cur:MH->Option (List MV)) (f:MV->ME'->MH->(FL->ME'->MH->Prop)->Prop):Nat->Nat->ME'->MH->(FL->ME'->MH->Prop)->Prop
 | 0,_,_,_,_=>False
 | n+1,i,J,U,K=>∃ l,cur U=some l/\(l[i]? = none->K .next J U)/\∀ x,l[i]? = some x->f x J U λfl J U=>P4 fl (λfl=>K fl J U) (KS cur f n (i+1) J U K)
noncomputable def KT (c:ME'->MH->(Bool->MH->Prop)->Prop) (f:ME'->MH->(FL->ME'->MH->Prop)->Prop):Nat->ME'->MH->(FL->ME'->MH->Prop)->Prop
 | 0,_,_,_=>False
 | n+1,J,U,K=>c J U λb U=>match b with
  | false=>K .next J U
  | true=>f J U λfl J U=>P4 fl (λfl=>K fl J U) (KT c f n J U K)
noncomputable def P5 (X:CK) (x:MV) (kd:Option Bool) (n:String) (vs:List MV) (U:MH) (K:MV->MH->Prop):Prop:=match x with
 | .obj c i=>X.call c n (.obj c i::vs) U K
 | x=>∃ v U',MetR U kd x n vs v U'/\K v U'
noncomputable def CK.has (X:CK) (c n:String):Prop:=∃ vs U K,X.call c n vs U K
noncomputable def OY (X:CK) (U:MH) (x:MV) (n:String):Prop:=match x with
 | .obj c _=>X.has c n
 | .str _=>n="isspace"
 | x=>(CD U x=some true/\n∈["append","extend","pop"])\/(CD U x=some false/\n∈["get","setdefault","pop"])
noncomputable def P6 (U:MH) (a:Nat) (k v:MV) (o':MO):Prop :=
 (∃ l n,U[a]? = some (.list l)/\k=.int n/\0<=n/\n<2 ^ 60/\n.toNat<l.length/\o'=.list (l.set n.toNat v))\/∃ o,U[a]? = some o/\Fa o k v=some o'
section
variable (X:CK)
mutual
noncomputable def evK:ME->ME'->MH->(MV->MH->Prop)->Prop
 | .v x,J,U,K=>∃ v,J.lookup x=some v/\K v U
 | .g c n,_,U,K=>K (.fn c n) U
 | .c k,_,U,K=>K k U
 | .tup es,J,U,K=>evKs es J U λvs U=>vs.length=es.length/\K (.tup vs) U
 | .lst es,J,U,K=>evKs es J U λvs U=>vs.length=es.length/\K (.ref U.length) (U++[.list vs])
 | .flst es,J,U,K=>evKs es J U λvs U=>vs.length=es.length/\K (.fl vs) U
 | .dict,_,U,K=>K (.ref U.length) (U++[.ed])
 | .bin o a b,J,U,K=>evK a J U λx U=>evK b J U λy U=>∃ v,BinR U o x y v/\K v U
 | .cat a b,J,U,K=>evK a J U λx U=>evK b J U λy U=>∃ l m,AO U x=some l/\AO U y=some m/\l.length+m.length<=big/\K (.ref U.length) (U++[.list (l++m)])
 | .cmp o a b,J,U,K=>evK a J U λx U=>evK b J U λy U=>∃ r,CmpR U o x y r/\K (.bool r) U
 | .chain o p a b c,J,U,K=>evK a J U λx U=>evK b J U λy U=>∃ r,CmpR U o x y r/\match r with
  | false=>K (.bool false) U
  | true=>evK c J U λz U=>∃ r,CmpR U p y z r/\K (.bool r) U
 | .and a b,J,U,K=>evK a J U λx U=>isB x λc=>match c with
  | false=>K (.bool false) U
  | true=>evK b J U K
 | .or a b,J,U,K=>evK a J U λx U=>isB x λc=>match c with
  | true=>K (.bool true) U
  | false=>evK b J U K
 | .not a,J,U,K=>evK a J U λx U=>isB x λc=>K (.bool (!c)) U
 | .ite c a b,J,U,K=>evK c J U λx U=>isB x λc=>match c with
  | true=>evK a J U K
  | false=>evK b J U K
 | .attr o n,J,U,K=>evK o J U λx U=>∃ c i l v,x=.obj c i/\U[i]? = some (.attrs l)/\l.lookup n=some v/\K v U
 | .idx o i,J,U,K=>evK o J U λx U=>evK i J U λy U=>∃ v,IdxR U x y v/\K v U
 | .from1 o,J,U,K=>evK o J U λx U=>∃ l,x=.tup l/\(1<=l.length/\l.length<=big)/\K (.tup (l.drop 1)) U
 | .upto o n,J,U,K=>evK o J U λx U=>∃ l,x=.fl l/\l.length<=big/\K (.fl (l.take n)) U
 | .call f as,J,U,K=>evK f J U λx U=>∃ c n,x=.fn c n/\evKs as J U λvs U=>X.call c n vs U K
 | .meth o n as,J,U,K=>evK o J U λx U=>Dt U x=true/\OY X U x n/\evKs as J U λvs U'=>P5 X x (CD U x) n vs U' K
 | .bi b as,J,U,K=>evKs as J U λvs U=>∃ x v,vs=[x]/\BiP U b x v/\K v U
 | .comp elt t k iter conds,J,U,K=>evK iter J U λx U=>(∃ l,iter2 U k x=some l) /\
   EE (λU=>iter2 U k x) (λy acc U K=>∃ J',CY t y (without J (".0"::t.names))=some J'/\evKc conds J' U λb U=>match b with
    | false=>K acc U
    | true=>evK elt J' U λv U=>acc.length<big/\K (acc++[v]) U) X.turns 0 [] U λvs U=>K (.fl vs) U
 | .comp2 elt t iter t2 iter2',J,U,K=>evK iter J U λx U=>(∃ l,iter2 U .it x=some l) /\
   EE (λU=>iter2 U .it x) (λy acc U K=>∃ J',CY t y (without J (".0"::(t.names++t2.names)))=some J'/\evK iter2' J' U λx2 U=>(∃ l,iter2 U .it x2=some l) /\
    EE (λU=>iter2 U .it x2) (λy2 acc U K=>∃ J'',CY t2 y2 (without J' t2.names)=some J''/\evK elt J'' U λv U=>acc.length<big/\K (acc++[v]) U) X.turns 0 acc U K) X.turns 0 [] U λvs U=>K (.fl vs) U
noncomputable def evKs:List ME->ME'->MH->(List MV->MH->Prop)->Prop
 | [],_,U,K=>K [] U
 | e::r,J,U,K=>evK e J U λv U=>evKs r J U λvs U=>K (v::vs) U
noncomputable def evKc:List ME->ME'->MH->(Bool->MH->Prop)->Prop
 | [],_,U,K=>K true U
 | e::r,J,U,K=>evK e J U λx U=>isB x λc=>match c with
  | false=>K false U
  | true=>evKc r J U K
end
noncomputable def stK (p:PL) (v:MV) (J:ME') (U:MH) (K:ME'->MH->Prop):Prop:=match p with
 | .v x=>K ((x,v)::J) U
 | .attr o n=>evK X o J U λx U=>∃ c i l,x=.obj c i/\U[i]? = some (.attrs l)/\l.length<100/\n∈attrNames/\K J (U.set i (.attrs (put l n v)))
 | .idx o i=>evK X o J U λx U=>evK X i J U λk U=>∃ a o',x=.ref a/\P6 U a k v o'/\K J (U.set a o')
noncomputable def Lo:List PL->List MV->ME'->MH->(ME'->MH->Prop)->Prop
 | [],vs,J,U,K=>vs=[]/\K J U
 | p::ps,vs,J,U,K=>∃ v ws,vs=v::ws/\stK X p v J U λJ U=>Lo ps ws J U K
mutual
noncomputable def exK:MS->ME'->MH->(FL->ME'->MH->Prop)->Prop
 | .assign p e,J,U,K=>evK X e J U λv U=>stK X p v J U λJ U=>K .next J U
 | .unpack ps e,J,U,K=>evK X e J U λv U=>∃ vs,items U v=some vs/\ps.length=vs.length/\Lo X ps vs J U λJ U=>K .next J U
 | .expr e,J,U,K=>evK X e J U λ_ U=>K .next J U
 | .ite c a b,J,U,K=>evK X c J U λx U=>isB x λc=>match c with
  | true=>exKs a J U K
  | false=>exKs b J U K
 | .while c b,J,U,K=>KT (λJ U K=>evK X c J U λx U=>isB x λb=>K b U) (λJ U K=>exKs b J U K) X.turns J U K
 | .for t k iter b,J,U,K=>evK X iter J U λx U=>(∃ l,iter2 U k x=some l) /\
   KS (λU=>iter2 U k x) (λy J U K=>∃ J',CY t y J=some J'/\exKs b J' U K) X.turns 0 J U K
 | .ret e,J,U,K=>evK X e J U λv U=>K (.ret v) J U
 | .cont,J,U,K=>K .cont J U
noncomputable def exKs:List MS->ME'->MH->(FL->ME'->MH->Prop)->Prop
 | [],J,U,K=>K .next J U
 | s::r,J,U,K=>exK s J U λfl J U=>match fl with
  | .next=>exKs r J U K
  | fl=>K fl J U
end
noncomputable def P7 (fl:FL) (U:MH) (K:MV->MH->Prop):Prop:=match fl with
 | .ret v=>K v U
 | .next=>K .none U
 | .cont=>False
noncomputable def Lp (f:FN) (as:List MV) (U:MH) (K:MV->MH->Prop):Prop :=
 f.params.length=as.length/\exKs X f.body ((f.params.zip as).reverse) U λfl _ U=>P7 fl U K
end
noncomputable def Cg (T:Tx) (turns:Nat):Nat->String->String->List MV->MH->(MV->MH->Prop)->Prop
 | 0,_,_,_,_,_=>False
 | n+1,c,f,as,U,K=>if c="class" then ∃ fn,T f "__init__"=some fn/\Lp ⟨Cg T turns n,turns⟩ fn (.obj f U.length::as) (U++[.attrs []]) λv U'=>v=.none/\K (.obj f U.length) U'
  else ∃ fn,T c f=some fn/\Lp ⟨Cg T turns n,turns⟩ fn as U K
end
structure LtOk {α:Type} (lt:α->α->Bool):Prop where
 irrefl:∀ a,lt a a=false
 trans:∀ a b c,lt a b=true->lt b c=true->lt a c=true
 total:∀ a b,lt a b=false->lt b a=false->a=b
section
variable {α:Type} {lt:α->α->Bool}
theorem LtOk.asymm (O:LtOk lt){a b:α}(h:lt a b=true):lt b a=false:=by
 cases q:lt b a with
 | false=>rfl
 | true=>have:=O.trans a b a h q;rw[O.irrefl]at this;exact this.symm▸rfl
theorem LtOk.leTrans (O:LtOk lt){a b c:α}(h1:lt b a=false)(h2:lt c b=false):lt c a=false:=by
 cases q:lt c a with
 | false=>rfl
 | true =>
  cases q1:lt a b with
  | true=>have:=O.trans c a b q q1;replace this:=ZO h2.symm this;cases this
  | false=>have e:=O.total a b q1 h1;subst e;replace q:=ZO h2.symm q;cases q
theorem IR (x:α)(l:List α):(ins lt x l).Perm (x::l):=by
 induction l with
 | nil=>exact .refl _
 | cons y r ih =>
  unfold ins
  split
  ·exact (ih.cons y).trans (.swap x y r)
  ·exact .refl _
theorem Bm (l:List α):(BJ lt l).Perm l:=by
 induction l with
 | nil=>exact .refl _
 | cons x r ih=>exact (IR x _).trans (ih.cons x)
theorem Jc (O:LtOk lt)(x:α){l:List α}(h:l.Pairwise (λa b=>lt b a=false)):(ins lt x l).Pairwise (λa b=>lt b a=false):=by
 induction h with
 | nil=>exact .cons (λ_ h=>nomatch h) .nil
 | @cons y r h1 h ih =>
  unfold ins
  split
  ·rename_i q
   refine .cons (λz hz=>?_) ih;rcases Zz ((IR x r).mem_iff.mp hz)with rfl | hz
   ·exact O.asymm q
   ·exact h1 z hz
  ·rename_i q
   have q:=eq_false_of_ne_true q;refine .cons (λz hz=>?_) (.cons h1 h);rcases Zz hz with rfl | hz
   ·exact q
   ·exact O.leTrans q (h1 z hz)
theorem E8 (O:LtOk lt)(l:List α):(BJ lt l).Pairwise (λa b=>lt b a=false):=by
 induction l with
 | nil=>exact .nil
 | cons x r ih=>exact Jc O x ih
theorem IS (O:LtOk lt){a b:List α}(p:a.Perm b)(ha:a.Pairwise (λa b=>lt b a=false))(hb:b.Pairwise (λa b=>lt b a=false)):a=b:=by
 induction ha generalizing b with
 | nil=>exact p.nil_eq
 | @cons x r hx ha ih =>
  cases hb with
  | nil=>exact nomatch p.length_eq
  | @cons y t hy hb =>
   have e:x=y:=by
    rcases Zz (p.mem_iff.mp (.head _))with h | h
    ·exact h
    ·rcases Zz (p.mem_iff.mpr (.head _))with h' | h'
     ·exact h'.symm
     ·exact O.total _ _ (hy x h) (hx y h')
   subst e;rw[ih p.cons_inv hb]
theorem Ft (O:LtOk lt){a l:List α}(p:a.Perm l)(s:a.Pairwise (λa b=>lt b a=false)):a=BJ lt l :=
 IS O (p.trans (Bm l).symm) s (E8 O l)
end
theorem intLt_ok:LtOk B7 where
 irrefl:=λa=>by simp[B7]
 trans:=λa b c h1 h2=>by simp only[B7,decide_eq_true_eq]at *;lia
 total:=λa b h1 h2=>by simp only[B7,decide_eq_false_iff_not]at *;lia
theorem Kr {a b:String}(h:Fs a=Fs b):a=b:=by
 have h2:a.toList=b.toList:=by
  refine List.map_inj_right (f:=Char.toNat) ?_ |>.mp h
  intro x y e;exact Char.ext (UInt32.toNat_inj.mp e)
 exact String.toList_injective h2
theorem atLt_ok:LtOk At.lt where
 irrefl:=λa=>by
  cases a with
  | i a=>exact decide_eq_false (Int.lt_irrefl a)
  | s a=>exact decide_eq_false (List.lt_irrefl _)
 trans:=λa b c h1 h2=>by
  cases a with
  | i a=>cases c with
   | s=>rfl
   | i c=>cases b with
    | s=>cases h2
    | i b=>exact decide_eq_true (Int.lt_trans (of_decide_eq_true h1) (of_decide_eq_true h2))
  | s a=>cases b with
   | i=>cases h1
   | s b=>cases c with
    | i=>cases h2
    | s c=>exact decide_eq_true (List.lt_trans (of_decide_eq_true h1) (of_decide_eq_true h2))
 total:=λa b h1 h2=>by
  cases a with
  | i a=>cases b with
   | i b=>exact congrArg At.i (Int.le_antisymm (Int.not_lt.mp (of_decide_eq_false h2)) (Int.not_lt.mp (of_decide_eq_false h1)))
   | s=>cases h1
  | s a=>cases b with
   | i=>cases h2
   | s b=>exact congrArg At.s (Kr (List.le_antisymm (of_decide_eq_false h2) (of_decide_eq_false h1)))
theorem keyLt_ok:LtOk Ag where
 irrefl:=λa=>by
  induction a with
  | nil=>rfl
  | cons x r ih=>exact (if_pos rfl).trans ih
 trans:=λa b c h1 h2=>by
  induction a generalizing b c with
  | nil=>cases b with
   | nil=>cases h1
   | cons=>cases c with
    | nil=>cases h2
    | cons=>rfl
  | cons x a ih=>cases b with
   | nil=>cases h1
   | cons y b=>cases c with
    | nil=>cases h2
    | cons z c =>
     have h1:(if x=y then Ag a b else x.lt y)=true:=h1
     have h2:(if y=z then Ag b c else y.lt z)=true:=h2
     show (if x=z then Ag a c else x.lt z)=true
     by_cases e1:x=y
     ·subst e1
      replace h1:=ZO (if_pos rfl).symm h1
      by_cases e2:x=z
      ·rw[if_pos e2]at h2 ⊢;exact ih _ _ h1 h2
      ·rw[if_neg e2]at h2 ⊢;exact h2
     ·replace h1:=ZO (if_neg e1).symm h1
      by_cases e2:y=z
      ·subst e2;refine ZN (if_neg e1) ?_;exact h1
      ·replace h2:=ZO (if_neg e2).symm h2
       have:=atLt_ok.trans _ _ _ h1 h2;refine ZN (if_neg λe3=>by subst e3;rw[atLt_ok.irrefl]at this;cases this) ?_;exact this
 total:=λa b h1 h2=>by
  induction a generalizing b with
  | nil=>cases b with
   | nil=>rfl
   | cons=>cases h1
  | cons x a ih=>cases b with
   | nil=>cases h2
   | cons y b =>
    have h1:(if x=y then Ag a b else x.lt y)=false:=h1
    have h2:(if y=x then Ag b a else y.lt x)=false:=h2
    by_cases e:x=y
    ·subst e
     rw[if_pos rfl]at h1 h2;rw[ih _ h1 h2]
    ·replace h1:=ZO (if_neg e).symm h1
     replace h2:=ZO (if_neg (Ne.symm e)).symm h2;exact absurd (atLt_ok.total _ _ h1 h2) e
section
variable {α:Type} [DecidableEq α]
theorem mem_dedup {x:α}{l:List α}:x∈BG l↔x∈l:=by
 induction l with
 | nil=>exact .rfl
 | cons y r ih =>
  unfold BG
  split
  ·rename_i q
   rw[ih,List.mem_cons];exact⟨.inr,λh=>h.elim (λe=>e▸q) id⟩
  ·rw[List.mem_cons,List.mem_cons,ih]
theorem Db (l:List α):(BG l).Nodup:=by
 induction l with
 | nil=>exact .nil
 | cons y r ih =>
  unfold BG
  split
  ·exact ih
  ·rename_i q
   exact List.nodup_cons.mpr ⟨λh=>q (mem_dedup.mp h),ih⟩
theorem EL {a l:List α}(n:a.Nodup)(h:∀ x,x∈a↔x∈l):a.Perm (BG l) :=
 (List.perm_ext_iff_of_nodup n (Db l)).mpr λx=>(h x).trans mem_dedup.symm
theorem E9 (l:List α):(BG l).length<=l.length:=by
 induction l with
 | nil=>exact Zg _
 | cons y r ih =>
  unfold BG
  split
  ·exact Zj ih
  ·exact Nat.succ_le_succ ih
end
end Mine.Internal
namespace Mine.Internal
open PySem PySem.W PyProof.Rows
theorem Ah {a b:String}(h:Str.ofString a=Str.ofString b):a=b:=by
 rw[Str.ofString_eq_toList,Str.ofString_eq_toList]at h;have h2:a.toList=b.toList:=by
  refine List.map_inj_right (f:=Char.toNat) ?_ |>.mp (congrArg (λs:Str=>s.cps.toList) h)
  intro x y e;exact Char.ext (UInt32.toNat_inj.mp e)
 exact String.toList_injective h2
noncomputable def Lq:At->Value->Bool
 | .i n,v=>Value.isInt n v
 | .s x,v=>Value.isStrOf (Str.ofString x) v
noncomputable def OZ (w:World):At->Int
 | .i n=>hashInt n
 | .s x=>hashStr w (Str.ofString x)
theorem Fu {prog:Program}{w:World}{A:Around}{E:Value->Shared->Prop}{s:Shared}{a:Int}{b:Str}{t u:Tok}{Q:Bool->Shared->Prop}(h:Q false s) :
  wpAny (model prog w) A (eqBool (.int a t) (.str b u)) Q E s:=by
 refine wpAny_holding ?_;show wpAny _ _ (if (Value.int a t == Value.str b u)=true then _ else _) Q E s
 have k:wpAny (model prog w) A (richCompare .Eq (.int a t) (.str b u)) (λr s'=>r=.bool false/\s'=s) E s:=EqMixed.eq_int_str ⟨rfl,rfl⟩;refine wpAny_bind (wpAny_mono k ?_ λ_ _ e=>e)
 rintro _ _ ⟨rfl,rfl⟩
 exact wpAny_truthy_bool h
theorem Fv {prog:Program}{w:World}{A:Around}{E:Value->Shared->Prop}{s:Shared}{a:Str}{b:Int}{t u:Tok}{Q:Bool->Shared->Prop}(h:Q false s) :
  wpAny (model prog w) A (eqBool (.str a t) (.int b u)) Q E s:=by
 refine wpAny_holding ?_;show wpAny _ _ (if (Value.str a t == Value.int b u)=true then _ else _) Q E s
 have k:wpAny (model prog w) A (richCompare .Eq (.str a t) (.int b u)) (λr s'=>r=.bool false/\s'=s) E s:=EqMixed.eq_str_int ⟨rfl,rfl⟩;refine wpAny_bind (wpAny_mono k ?_ λ_ _ e=>e)
 rintro _ _ ⟨rfl,rfl⟩
 exact wpAny_truthy_bool h
theorem Bn {n:Int}{v:Value}(h:Lq (.i n) v=true):∃ t,v=.int n t:=Value.isInt_shape h
theorem Bo {x:String}{v:Value}(h:Lq (.s x) v=true):∃ t,v=.str (Str.ofString x) t:=Value.isStrOf_shape h
set_option tactic.hygienic true in
noncomputable def BL (prog:Program) (w:World):KeyKind prog w At where
 is:=Lq
 hash:=OZ w
 inj:=λv a b ha hb=>by
  cases a <;> cases b
  ·obtain⟨t,rfl⟩:=Bn ha
   obtain⟨u,h⟩:=Bn hb;injection h with h;rw[h]
  ·obtain⟨t,rfl⟩:=Bn ha
   obtain⟨u,h⟩:=Bo hb;cases h
  ·obtain⟨t,rfl⟩:=Bo ha
   obtain⟨u,h⟩:=Bn hb;cases h
  ·obtain⟨t,rfl⟩:=Bo ha
   obtain⟨u,h⟩:=Bo hb;injection h with h;rw[Ah h]
 byValue:=λk v h=>by
  cases k
  ·obtain⟨t,rfl⟩:=Bn h;rfl
  ·obtain⟨t,rfl⟩:=Bo h;rfl
 pyHash:=λ{A E s k v Q} hv h=>by
  cases k
  ·obtain⟨t,rfl⟩:=Bn hv;exact wpAny_pyHash_int h
  ·obtain⟨t,rfl⟩:=Bo hv;exact wpAny_pyHash_str h
 eqBool:=λ{A E s a b u v Q} hu hv h=>by
  cases a <;> cases b
  ·obtain⟨t,rfl⟩:=Bn hu
   obtain⟨u,rfl⟩:=Bn hv;refine wpAny_eqBool_int ?_;rename_i x y;have e:(decide (x=y))=decide (At.i x=At.i y):=by
    by_cases q:x=y
    ·subst q;simp
    ·refine ZO (decide_eq_false q) ?_;rw[decide_eq_false λe=>q (At.i.inj e)]
   first | (rw[e];exact h) | (rw[show (x == y)=decide (x=y)from rfl,e];exact h)
  ·obtain⟨t,rfl⟩:=Bn hu
   obtain⟨u,rfl⟩:=Bo hv;exact Fu (by simpa using h)
  ·obtain⟨t,rfl⟩:=Bo hu
   obtain⟨u,rfl⟩:=Bn hv;exact Fv (by simpa using h)
  ·obtain⟨t,rfl⟩:=Bo hu
   obtain⟨u,rfl⟩:=Bo hv;refine wpAny_eqBool_str ?_;rename_i x y;have e:decide (Str.ofString x=Str.ofString y)=decide (At.s x=At.s y):=by
    by_cases q:x=y
    ·subst q;simp
    ·refine ZO (decide_eq_false λe=>q (Ah e)) ?_;rw[decide_eq_false λe=>q (At.s.inj e)]
   rw[e];exact h
 «strs»:=λk x t v h=>by
  cases k
  ·simp[Lq,Value.isInt]at h
  ·obtain⟨u,e⟩:=Bo h
   injection e with e1 _
   subst e1;cases v <;> rfl
noncomputable abbrev kK (prog:Program) (w:World):=tupleKind (BL prog w)
structure Gl where
 prog:Program
 w:World
 K:Frag
 h0:Heap
 fv:String->String->Option Value
 cl:String->Option Addr
 av:List Addr
noncomputable def Gl.at (g:Gl) (av:List Addr):Gl:={ g with av:=av }
noncomputable def IsLx (h:Heap) (a:Addr) (items:Array Value):Prop:=∃ n,h.get? a=some { cls:=.type "list",data:=.seq items n }
theorem IsLx.list {h:Heap}{a:Addr}{items:Array Value}(x:IsLx h a items):h.IsList a items:=let ⟨n,e⟩:=x;⟨_,e,rfl,n,rfl⟩
section
variable (g:Gl) (μ:List Addr) (h:Heap)
mutual
noncomputable def VRel:MV->Value->Prop
 | .none,x=>x=.none
 | .bool b,x=>x=.bool b
 | .int i,x=>∃ t,x=.int i t
 | .str s,x=>∃ t,x=.str (Str.ofString s) t
 | .fn c n,x=>g.fv c n=some x
 | .tup vs,x=>∃ a items,x=.ref a/\h.IsTuple a items/\a∉μ/\2<a/\VRels vs items.toList
 | .fl vs,x=>∃ a items,x=.ref a/\IsLx h a items/\(a∉μ/\a∉g.av)/\2<a/\VRels vs items.toList
 | .ref i,x=>∃ a,x=.ref a/\μ[i]? = some a
 | .obj c i,x=>∃ C d a,x=.ref a/\g.cl c=some C/\h.get? a=some (instObj C d)/\μ[i]? = some d/\a∉μ/\2<a
noncomputable def VRels:List MV->List Value->Prop
 | [],xs=>xs=[]
 | v::vs,xs=>∃ x ys,xs=x::ys/\VRel v x/\VRels vs ys
end
end
variable {g:Gl} {μ μ':List Addr} {h h':Heap}
theorem VRel.none:VRel g μ h .none .none:=rfl
theorem VRel.bool {b:Bool}:VRel g μ h (.bool b) (.bool b):=rfl
theorem VRel.int {i:Int}{t:Tok}:VRel g μ h (.int i) (.int i t):=⟨t,rfl⟩
theorem VRel.str {s:String}{t:Tok}:VRel g μ h (.str s) (.str (Str.ofString s) t):=⟨t,rfl⟩
theorem VRel.fn {c n:String}{v:Value}(e:g.fv c n=some v):VRel g μ h (.fn c n) v:=e
theorem VRel.tup {vs:List MV}{a:Addr}{items:Array Value}(i1:h.IsTuple a items)(i2:a∉μ)(i3:2<a)(i4:VRels g μ h vs items.toList):VRel g μ h (.tup vs) (.ref a):=⟨a,items,rfl,i1,i2,i3,i4⟩
theorem VRel.fl {vs:List MV}{a:Addr}{items:Array Value}(i1:IsLx h a items)(i2:a∉μ/\a∉g.av)(i3:2<a)(i4:VRels g μ h vs items.toList):VRel g μ h (.fl vs) (.ref a):=⟨a,items,rfl,i1,i2,i3,i4⟩
theorem VRel.ref {i:Nat}{a:Addr}(e:μ[i]? = some a):VRel g μ h (.ref i) (.ref a):=⟨a,rfl,e⟩
theorem VRel.obj {c:String}{i:Nat}{C d x:Addr}(h1:g.cl c=some C)(h2:h.get? x=some (instObj C d))(h3:μ[i]? = some d)(h4:x∉μ)(h5:2<x):VRel g μ h (.obj c i) (.ref x):=⟨C,d,x,rfl,h1,h2,h3,h4,h5⟩
theorem VRels.nil:VRels g μ h [] []:=rfl
theorem VRels.cons {v:MV}{x:Value}{vs:List MV}{xs:List Value}(a:VRel g μ h v x)(b:VRels g μ h vs xs):VRels g μ h (v::vs) (x::xs):=⟨x,xs,rfl,a,b⟩
theorem VRels.length {vs:List MV}{xs:List Value}(r:VRels g μ h vs xs):vs.length=xs.length:=by
 induction vs generalizing xs with
 | nil=>refine ZN (show xs=[]from r) ?_;rfl
 | cons v vs ih=>refine eX2 (r) λ_ _ zz=>aN3 zz λq3 _ b=>?_;subst q3;exact congrArg Nat.succ (ih b)
theorem VRels.append {vs ws:List MV}{xs ys:List Value}(a:VRels g μ h vs xs)(b:VRels g μ h ws ys):VRels g μ h (vs++ws) (xs++ys):=by
 induction vs generalizing xs with
 | nil=>refine ZN (show xs=[]from a) ?_;exact b
 | cons v vs ih=>refine eX2 (a) λ_ _ zz=>aN3 zz λq3 p q=>?_;subst q3;exact .cons p (ih q)
theorem VRels.get {vs:List MV}{xs:List Value}(a:VRels g μ h vs xs){i:Nat}{v:MV}(e:vs[i]? = some v):∃ x,xs[i]? = some x/\VRel g μ h v x:=by
 induction vs generalizing xs i with
 | nil=>cases e
 | cons w vs ih =>
  refine eX2 (a) λx ys zz=>aN3 zz λq3 p q=>?_;subst q3
  cases i with
  | zero=>cases e;exact⟨x,rfl,p⟩
  | succ i=>exact ih q e
theorem VRels.get_none {vs:List MV}{xs:List Value}(a:VRels g μ h vs xs){i:Nat}(e:vs[i]? = Option.none):xs[i]? = Option.none:=by
 rw[List.getElem?_eq_none_iff]at e ⊢;refine ZN a.length.symm ?_;exact e
theorem VRels.drop {vs:List MV}{xs:List Value}(a:VRels g μ h vs xs)(n:Nat):VRels g μ h (vs.drop n) (xs.drop n):=by
 induction n generalizing vs xs with
 | zero=>exact a
 | succ n ih =>
  cases vs with
  | nil=>refine ZN (show xs=[]from a) ?_;exact .nil
  | cons v vs=>refine eX2 (a) λ_ _ zz=>aN3 zz λq3 _ q=>?_;subst q3;exact ih q
theorem VRels.take {vs:List MV}{xs:List Value}(a:VRels g μ h vs xs)(n:Nat):VRels g μ h (vs.take n) (xs.take n):=by
 induction n generalizing vs xs with
 | zero=>exact .nil
 | succ n ih =>
  cases vs with
  | nil=>refine ZN (show xs=[]from a) ?_;exact .nil
  | cons v vs=>refine eX2 (a) λ_ _ zz=>aN3 zz λq3 p q=>?_;subst q3;exact .cons p (ih q)
theorem VRels.set {vs:List MV}{xs:List Value}(a:VRels g μ h vs xs)(n:Nat){v:MV}{x:Value}(b:VRel g μ h v x):VRels g μ h (vs.set n v) (xs.set n x):=by
 induction n generalizing vs xs with
 | zero=>cases vs with
  | nil=>refine ZN (show xs=[]from a) ?_;exact .nil
  | cons v vs=>refine eX2 (a) λ_ _ zz=>aN3 zz λq3 p q=>?_;subst q3;exact .cons b q
 | succ n ih=>cases vs with
  | nil=>refine ZN (show xs=[]from a) ?_;exact .nil
  | cons v vs=>refine eX2 (a) λ_ _ zz=>aN3 zz λq3 p q=>?_;subst q3;exact .cons p (ih q)
theorem VRels.snoc {vs:List MV}{xs:List Value}(a:VRels g μ h vs xs){v:MV}{x:Value}(b:VRel g μ h v x):VRels g μ h (vs++[v]) (xs++[x]):=a.append (.cons b .nil)
structure Kp (loc:List Addr) (μ μ':List Addr) (h h':Heap):Prop where
 keep:∀ b o,b≠2->h.get? b=some o->b∉μ->b∉loc->h'.get? b=some o
 grow:∃ e,μ'=μ++e/\∀ a∈e,a≠2/\h.get? a=none
structure Ext (loc:List Addr) (μ μ':List Addr) (h h':Heap):Prop extends Kp loc μ μ' h h' where
 alive:∀ b o,b≠2->h.get? b=some o->∃ o',h'.get? b=some o'
theorem Ext.refl (loc:List Addr)(μ:List Addr)(h:Heap):Ext loc μ μ h h:=⟨⟨λ_ _ _ e _ _=>e,⟨[],by simp,by simp⟩⟩,λ_ o _ e=>⟨o,e⟩⟩
theorem Kp.get {loc:List Addr}(x:Kp loc μ μ' h h'){i:Nat}{a:Addr}(e:μ[i]? = some a):μ'[i]? = some a:=by
 obtain⟨l,rfl,_⟩:=x.grow;have:=List.getElem?_eq_some_iff.mp e;refine ZN (List.getElem?_append_left this.1) ?_;exact e
theorem Kp.notin {loc:List Addr}(x:Kp loc μ μ' h h'){a:Addr}{o:Obj}(e:h.get? a=some o)(n:a∉μ):a∉μ':=by
 obtain⟨l,rfl,hl⟩:=x.grow;intro q;rcases ZA q with q | q
 ·exact n q
 ·replace e:=ZO ((hl a q).2).symm e;cases e
theorem Ext.get {loc:List Addr}(x:Ext loc μ μ' h h'){i:Nat}{a:Addr}(e:μ[i]? = some a):μ'[i]? = some a:=x.toKp.get e
theorem Ext.notin {loc:List Addr}(x:Ext loc μ μ' h h'){a:Addr}{o:Obj}(e:h.get? a=some o)(n:a∉μ):a∉μ':=x.toKp.notin e n
theorem Ext.dead {loc:List Addr}(x:Ext loc μ μ' h h'){a:Addr}(n:a≠2)(e:h'.get? a=none):h.get? a=none:=by
 cases q:h.get? a with
 | none=>rfl
 | some o=>obtain⟨o',e'⟩:=x.alive a o n q;replace e':=ZO e.symm e';cases e'
theorem Ext.trans {loc loc':List Addr}{μ'':List Addr}{h'':Heap}(x:Ext loc μ μ' h h')(y:Ext loc' μ' μ'' h' h'')(hs:∀ a∈loc',a∈loc\/h.get? a=none):Ext loc μ μ'' h h'':=by
 refine⟨⟨λb o b2 e n q=>?_,?_⟩,λb o n e=>?_⟩
 ·refine y.keep b o b2 (x.keep b o b2 e n q) (x.notin e n) λz=>?_
  rcases hs b z with z | z
  ·exact q z
  ·replace e:=ZO z.symm e;cases e
 ·obtain⟨l,rfl,hl⟩:=x.grow
  obtain⟨m,rfl,hm⟩:=y.grow;refine⟨l++m,by simp,λa q=>?_⟩;rcases ZA q with q | q
  ·exact hl a q
  ·exact⟨(hm a q).1,x.dead (hm a q).1 (hm a q).2⟩
 ·obtain⟨o',e'⟩:=x.alive b o n e
  exact y.alive b o' n e'
theorem Ext.loc {loc loc':List Addr}(x:Ext loc μ μ' h h')(hs:∀ a∈loc,a∈loc'\/h.get? a=none):Ext loc' μ μ' h h' :=
 ⟨⟨λb o b2 e n q=>x.keep b o b2 e n λz=>(hs b z).elim q λz=>(by replace e:=ZO z.symm e;cases e),x.grow⟩,x.alive⟩
noncomputable def LocOk (g:Gl) (loc:List Addr) (h:Heap):Prop:=∀ a∈loc,∀ o,h.get? a=some o->((∀ xs n,o.data≠.seq xs n)/\o.data≠.plain)\/(a∈g.av/\o.cls=.type "list")
theorem LocOk.nil:LocOk g [] h:=λ_ q=>nomatch q
mutual
theorem VRel.kp {loc:List Addr}(x:Kp loc μ μ' h h')(hl:LocOk g loc h)(v:MV){y:Value}(r:VRel g μ h v y):VRel g μ' h' v y:=by
 cases v with
 | tup l =>
  refine eX2 (r) λa it zz=>aN5 zz λe0 q4 n n1 r=>?_;obtain⟨o,e,ec,ed⟩:=q4
  exact⟨a,it,e0,⟨o,x.keep _ _ (Zf n1) e n (λq=>(hl _ q o e).elim (λz=>ed.elim λm e'=>z.1 _ m e') λz=>absurd (ec▸z.2) (by decide)),ec,ed⟩,x.notin e n,n1,VRels.kp x hl l r⟩
 | fl l =>
  refine eX2 (r) λa it zz=>aN5 zz λe0 q4 n n1 r=>?_;obtain⟨m,e⟩:=q4
  exact⟨a,it,e0,⟨m,x.keep _ _ (Zf n1) e n.1 (λq=>(hl _ q _ e).elim (λz=>z.1 _ m rfl) λz=>n.2 z.1)⟩,⟨x.notin e n.1,n.2⟩,n1,VRels.kp x hl l r⟩
 | ref i =>
  obtain⟨a,e0,e⟩:=r;exact⟨a,e0,x.get e⟩
 | obj c i =>
  refine eX3 (r) λC d a zz=>aN6 zz λe0 e1 e2 e3 n n1=>?_
  exact⟨C,d,a,e0,e1,x.keep _ _ (Zf n1) e2 n (λq=>(hl _ q _ e2).elim (λz=>z.2 rfl) λz=>nomatch z.2),x.get e3,x.notin e2 n,n1⟩
 | _=>exact r
theorem VRels.kp {loc:List Addr}(x:Kp loc μ μ' h h')(hl:LocOk g loc h)(l:List MV){y:List Value}(r:VRels g μ h l y):VRels g μ' h' l y:=by
 cases l with
 | nil=>exact r
 | cons v l =>
  refine eX2 (r) λy ys zz=>aN3 zz λe a b=>?_
  exact⟨y,ys,e,VRel.kp x hl v a,VRels.kp x hl l b⟩
end
theorem VRel.ext {loc:List Addr}(x:Ext loc μ μ' h h')(hl:LocOk g loc h){v:MV}{y:Value}(r:VRel g μ h v y):VRel g μ' h' v y:=VRel.kp x.toKp hl v r
theorem VRels.ext {loc:List Addr}(x:Ext loc μ μ' h h')(hl:LocOk g loc h){v:List MV}{y:List Value}(r:VRels g μ h v y):VRels g μ' h' v y:=VRels.kp x.toKp hl v r
noncomputable abbrev P8 (h:Heap) (mc:Str->Option Value):Prop:=h.Ns cStatics mc/\mc "sys.recursionlimit"=none
section
section
variable (g:Gl) (μ:List Addr) (h:Heap)
inductive ARel:List (String×MV)->List DictEntry->Prop
 | nil:ARel [] []
 | cons {n:String} {v:MV} {t:Tok} {e:DictEntry} {r:List (String×MV)} {es:List DictEntry}:e.key=.str (Str.ofString n) t->VRel g μ h v e.val->ARel r es->ARel ((n,v)::r) (e::es)
inductive IRel:List (Int×MV)->List (Int×Value)->Prop
 | nil:IRel [] []
 | cons {n:Int} {v:MV} {x:Value} {r:List (Int×MV)} {es:List (Int×Value)}:VRel g μ h v x->IRel r es->IRel ((n,v)::r) ((n,x)::es)
inductive TRel:List (List At×MV)->List (List At×Addr×Value)->Prop
 | nil:TRel [] []
 | cons {n:List At} {v:MV} {a:Addr} {x:Value} {r:List (List At×MV)} {es:List (List At×Addr×Value)}:a∉μ->2<a->VRel g μ h v x->TRel r es->TRel ((n,v)::r) ((n,a,x)::es)
noncomputable def ORel (a:Addr):MO->Prop
 | .list l=>l.length<=big/\∃ items,IsLx h a items/\VRels g μ h l items.toList
 | .ed=>∃ n,h.get? a=some { cls:=.type "dict",data:=.dict #[] n }
 | .idict l=>l.length<=big/\∃ kvs,h.DictOf (intKind g.prog g.w) a kvs/\IRel g μ h l kvs
 | .tdict l=>l.length<=big/\∃ xs,h.DictOfH (kK g.prog g.w) a xs/\TRel g μ h l xs
 | .attrs l=>(l.length<=100/\(∀ p∈l,p.1∈attrNames)/\(l.map (·.1)).Nodup)/\(∃ es n,h.get? a=some { cls:=.type "dict",data:=.dict es n }/\ARel g μ h l es.toList)
end
variable {g:Gl} {μ μ':List Addr} {h h':Heap}
theorem ARel.kp {loc:List Addr}(x:Kp loc μ μ' h h')(hl:LocOk g loc h){l:List (String×MV)}{es:List DictEntry}(r:ARel g μ h l es):ARel g μ' h' l es:=by
 induction r with
 | nil=>exact .nil
 | cons a b _ ih=>exact .cons a (b.kp x hl _) ih
theorem IRel.kp {loc:List Addr}(x:Kp loc μ μ' h h')(hl:LocOk g loc h){l:List (Int×MV)}{es:List (Int×Value)}(r:IRel g μ h l es):IRel g μ' h' l es:=by
 induction r with
 | nil=>exact .nil
 | cons b _ ih=>exact .cons (b.kp x hl _) ih
theorem TRel.keys {l:List (List At×MV)}{xs:List (List At×Addr×Value)}(r:TRel g μ h l xs):∀ p∈xs,p.2.1∉μ/\2<p.2.1:=by
 induction r with
 | nil=>intro p hp;cases hp
 | cons a b _ _ ih=>intro p hp;rcases Zz hp with rfl | hp;exact⟨a,b⟩;exact ih p hp
theorem TRel.kp {loc:List Addr}(x:Kp loc μ μ' h h')(hl:LocOk g loc h){l:List (List At×MV)}{es:List (List At×Addr×Value)}(r:TRel g μ h l es)(hk:∀ p∈es,∃ o,h.get? p.2.1=some o):TRel g μ' h' l es:=by
 induction r with
 | nil=>exact .nil
 | cons a b c _ ih =>
  obtain⟨o,ho⟩:=hk _ (.head _);exact .cons (x.notin ho a) b (c.kp x hl _) (ih λp hp=>hk p (.tail _ hp))
theorem ORel.kp {loc:List Addr}(x:Kp loc μ μ' h h')(hl:LocOk g loc h){a:Addr}{o:MO}(ha:∀ o,h.get? a=some o->h'.get? a=some o)(r:ORel g μ h a o):ORel g μ' h' a o:=by
 cases o with
 | list l =>
  refine aN2 (r) λz zz=>eX1 zz λitems zz=>aN2 zz λq3 k=>?_;obtain⟨n,e⟩:=q3
  exact⟨z,items,⟨n,ha _ e⟩,k.kp x hl _⟩
 | ed=>obtain⟨n,e⟩:=r;exact⟨n,ha _ e⟩
 | idict l =>
  refine aN2 (r) λz zz=>eX1 zz λkvs zz=>aN2 zz λq3 k=>?_;refine eX3 (q3) λo es ep zz=>aN2 zz λe c=>?_
  exact⟨z,kvs,⟨o,es,ep,ha _ e,c⟩,k.kp x hl⟩
 | tdict l =>
  refine aN2 (r) λz zz=>eX1 zz λxs zz=>aN2 zz λq3 k=>?_;refine eX3 (q3) λo es ep zz=>aN6 zz λe c1 c2 c3 c4 c5=>?_
  refine⟨z,xs,⟨o,es,ep,ha _ e,c1,c2,c3,λp hp=>?_,c5⟩,k.kp x hl λp hp=>?_⟩
  ·refine eX3 (c4 p hp) λot items n zz=>aN3 zz λe1 e2 e3=>?_
   refine⟨ot,items,n,x.keep _ _ (Zf (k.keys p hp).2) e1 (k.keys p hp).1 (λq=>?_),e2,e3⟩;exact (hl _ q _ e1).elim (λz=>z.1 _ _ e3.1) λz=>by rw[e2]at z;exact absurd z.2 (by decide)
  ·refine eX3 (c4 p hp) λot items n zz=>aN2 zz λe1 _=>?_
   exact⟨ot,e1⟩
 | attrs l =>
  refine aN2 (r) λz zz=>eX2 zz λes n zz=>aN2 zz λe k=>?_
  exact⟨z,es,n,ha _ e,k.kp x hl⟩
theorem ARel.ext {loc:List Addr}(x:Ext loc μ μ' h h')(hl:LocOk g loc h){l:List (String×MV)}{es:List DictEntry}(r:ARel g μ h l es):ARel g μ' h' l es:=r.kp x.toKp hl
theorem IRel.ext {loc:List Addr}(x:Ext loc μ μ' h h')(hl:LocOk g loc h){l:List (Int×MV)}{es:List (Int×Value)}(r:IRel g μ h l es):IRel g μ' h' l es:=r.kp x.toKp hl
theorem TRel.ext {loc:List Addr}(x:Ext loc μ μ' h h')(hl:LocOk g loc h){l:List (List At×MV)}{es:List (List At×Addr×Value)}(r:TRel g μ h l es)(hk:∀ p∈es,∃ o,h.get? p.2.1=some o):TRel g μ' h' l es:=r.kp x.toKp hl hk
theorem ORel.ext {loc:List Addr}(x:Ext loc μ μ' h h')(hl:LocOk g loc h){a:Addr}{o:MO}(ha:∀ o,h.get? a=some o->h'.get? a=some o)(r:ORel g μ h a o):ORel g μ' h' a o:=r.kp x.toKp hl ha
structure Rel (g:Gl) (μ:List Addr) (U:MH) (s:Shared):Prop where
 len:μ.length=U.length
 nodup:μ.Nodup
 low:∀ a∈μ,2<a
 live:∀ a∈μ,∃ o,s.heap.get? a=some o
 objs:∀ (i:Nat) (o:MO) (a:Addr),U[i]? = some o->μ[i]? = some a->ORel g μ s.heap a o
 base:∀ (b:Nat) (o:Obj),b≠2->g.h0.get? b=some o->s.heap.get? b=some o
 fresh:∀ a∈μ,g.h0.get? a=none
 stat:∃ mc,P8 g.h0 mc/\∀ o,g.h0.get? 2=some o->s.heap.get? 2=some o
 avl:∀ a∈g.av,2<a/\a∉μ/\∃ o,s.heap.get? a=some o
 av0:∀ a∈g.av,g.h0.get? a=none
structure Still (s s':Shared):Prop where
 gens:s'.gens=s.gens
 os:s'.os=s.os
theorem Still.refl (s:Shared):Still s s:=⟨rfl,rfl⟩
theorem Still.trans {s s' s'':Shared}(a:Still s s')(b:Still s' s''):Still s s'':=⟨b.1.trans a.1,b.2.trans a.2⟩
structure Grow (h h':Heap):Prop where
 keep:∀ (b:Nat) (o:Obj),b≠2->h.get? b=some o->h'.get? b=some o
 stat:∀ o,h.get? 2=some o->h'.get? 2=some o
theorem Du {h:Heap}{a:Addr}{m m':Str->Option Value}(x:h.Ns a m)(y:h.Ns a m'):m=m':=by
 refine eX3 (x) λo es ep zz=>aN4 zz λe d _ f=>?_
 refine eX3 (y) λo' es' ep' zz=>aN4 zz λe' d' _ f'=>?_
 replace e':=ZO e.symm e';cases e';replace d':=ZO d.symm d';cases d';funext z;rw[<- f,<- f']
theorem Grow.refl (h:Heap):Grow h h:=⟨λ_ _ _ e=>e,λo e=>e⟩
theorem Grow.trans {h h' h'':Heap}(a:Grow h h')(b:Grow h' h''):Grow h h'' :=
 ⟨λx o n e=>b.keep x o n (a.keep x o n e),λo e=>b.stat o (a.stat o e)⟩
theorem Grow.push (h:Heap)(o:Obj):Grow h (h.push o) :=
 ⟨λ_ _ _ e=>Heap.get?_push_of_some o e,λ_ e=>Heap.get?_push_of_some o e⟩
theorem Grow.of_keep {h h':Heap}(k:∀ b o,h.get? b=some o->h'.get? b=some o):Grow h h' :=
 ⟨λb o _ e=>k b o e,λo e=>k 2 o e⟩
theorem Grow.ext {h h':Heap}(x:Grow h h')(loc:List Addr)(μ:List Addr):Ext loc μ μ h h':=⟨⟨λb o n e _ _=>x.keep b o n e,⟨[],by simp,by simp⟩⟩,λb o n e=>⟨o,x.keep b o n e⟩⟩
theorem Rel.statAt {U:MH}{s:Shared}(r:Rel g μ U s):∃ mc,P8 s.heap mc:=by
 refine eX1 (r.stat) λmc zz=>aN2 zz λS0 k=>?_
 refine eX3 (S0.1) λo es ep zz=>aN2 zz λe x=>?_
 exact⟨mc,⟨o,es,ep,k o e,x⟩,S0.2⟩
theorem Rel.grow {U:MH}{s s':Shared}(r:Rel g μ U s)(x:Grow s.heap s'.heap):Rel g μ U s' where
 len:=r.len
 nodup:=r.nodup
 low:=r.low
 live:=λa q=>let ⟨o,e⟩:=r.live a q;⟨o,x.keep a o (Zf (r.low a q)) e⟩
 objs:=λi o a e1 e2=>(r.objs i o a e1 e2).ext (x.ext [] μ) LocOk.nil λo' e=>x.keep a o' (Zf (r.low a (Zy e2))) e
 base:=λb o n e=>x.keep b o n (r.base b o n e)
 fresh:=r.fresh
 stat:=let ⟨mc,S0,S⟩:=r.stat;⟨mc,S0,λo e=>x.stat o (S o e)⟩
 av0:=r.av0
 avl:=λa q=>let ⟨h1,h2,o,e⟩:=r.avl a q;⟨h1,h2,o,x.keep a o (Zf h1) e⟩
theorem Rel.addr {U:MH}{s:Shared}(r:Rel g μ U s){i:Nat}{o:MO}(e:U[i]? = some o):∃ a,μ[i]? = some a:=by
 have:=(List.getElem?_eq_some_iff.mp e).1;rw[<- r.len]at this;exact⟨μ[i],ZI this⟩
theorem Rel.at {U:MH}{s:Shared}(r:Rel g μ U s){i:Nat}{o:MO}{a:Addr}(e:U[i]? = some o)(e2:μ[i]? = some a):ORel g μ s.heap a o:=r.objs i o a e e2
theorem Rel.apart {U:MH}{s:Shared}(r:Rel g μ U s){i j:Nat}{a:Addr}(e:μ[i]? = some a)(e2:μ[j]? = some a):i=j :=
 (List.getElem?_inj (List.getElem?_eq_some_iff.mp e).1 r.nodup).mp (e.trans e2.symm)
structure Turn (a:Addr) (h h':Heap):Prop where
 keep:∀ (b:Nat) (o:Obj),b≠2->b≠a->h.get? b=some o->h'.get? b=some o
 there:∃ o',h'.get? a=some o'
 stat:∀ o,h.get? 2=some o->h'.get? 2=some o
theorem Turn.ext {a:Addr}(x:Turn a h h')(loc:List Addr)(ha:a∈μ):Ext loc μ μ h h':=⟨⟨λb o n e q _=>x.keep b o n (λz=>q (z▸ha)) e,⟨[],by simp,by simp⟩⟩,λb o n e=>by
 by_cases q:b=a
 ·subst q;exact x.there
 ·exact⟨o,x.keep b o n q e⟩⟩
theorem Turn.of_same {a:Addr}{o o':Obj}(x:Heap.SameBut a h h')(e0:h.get? a=some o)(e:h'.get? a=some o')(ec:o'.cls=o.cls)(h2:2<a):Turn a h h' :=
 ⟨λb o _ n e=>(x.2 b n).trans e,⟨o',e⟩,λo e=>(x.2 2 (Zk h2)).trans e⟩
theorem Rel.turn {U:MH}{s s':Shared}(r:Rel g μ U s){i:Nat}{a:Addr}(ea:μ[i]? = some a)(x:Turn a s.heap s'.heap){o:MO}(ho:ORel g μ s'.heap a o):Rel g μ (U.set i o) s' where
 len:=by refine ZN List.length_set ?_;exact r.len
 nodup:=r.nodup
 low:=r.low
 live:=λb q=>by
  by_cases e:b=a
  ·subst e;exact x.there
  ·obtain⟨o,eo⟩:=r.live b q
   exact⟨o,x.keep b o (Zf (r.low b q)) e eo⟩
 objs:=λj o' b e1 e2=>by
  by_cases e:i=j
  ·subst e
   replace e2:=ZO ea.symm e2;cases e2;replace e1:=ZO (List.getElem?_set_self (by have:=(List.getElem?_eq_some_iff.mp e1).1;simpa using this)).symm e1;cases e1;exact ho
  ·replace e1:=ZO (List.getElem?_set_ne e).symm e1
   have hb:b≠a:=λq=>e (r.apart ea (q▸e2))
   exact (r.objs j o' b e1 e2).ext (x.ext [] (Zy ea)) LocOk.nil λo'' e=>x.keep b o'' (Zf (r.low b (Zy e2))) hb e
 base:=λb o n e=>by
  refine x.keep b o n (λq=>?_) (r.base b o n e);subst q;replace e:=ZO (r.fresh b (Zy ea)).symm e;cases e
 fresh:=r.fresh
 stat:=let ⟨mc,S0,S⟩:=r.stat;⟨mc,S0,λo e=>x.stat o (S o e)⟩
 av0:=r.av0
 avl:=λb q=>let ⟨h1,h2,o,e⟩:=r.avl b q;⟨h1,h2,o,x.keep b o (Zf h1) (λz=>h2 (z▸Zy ea)) e⟩
theorem Ext.more {a:Addr}(x:Grow h h')(ha:h.get? a=none)(h2:2<a)(loc:List Addr):Ext loc μ (μ++[a]) h h' :=
 ⟨⟨λb o n e _ _=>x.keep b o n e,⟨[a],rfl,λb q=>by refine ZN (Zx q) ?_;exact⟨Zf h2,ha⟩⟩⟩,λb o n e=>⟨o,x.keep b o n e⟩⟩
theorem Ba (h:Heap):h.get? h.objs.size=none:=by
 cases e:h.get? h.objs.size with
 | none=>rfl
 | some o=>exact absurd (Heap.lt_size e) (Nat.lt_irrefl _)
theorem Rel.more {U:MH}{s s':Shared}(r:Rel g μ U s){a:Addr}(x:Grow s.heap s'.heap)(ha:s.heap.get? a=none)(h2:2<a){o:MO}{ob:Obj}(hob:s'.heap.get? a=some ob)(ho:ORel g (μ++[a]) s'.heap a o) :
  Rel g (μ++[a]) (U++[o]) s' where
 len:=by simp[r.len]
 nodup:=by
  refine List.nodup_append.mpr ⟨r.nodup,by simp,λb hb c hc=>?_⟩;refine ZN (Zx hc) ?_
  rintro rfl
  obtain⟨o,e⟩:=r.live b hb;replace e:=ZO ha.symm e;cases e
 low:=λb hb=>by
  rcases ZA hb with q | q
  ·exact r.low b q
  ·refine ZN (Zx q) ?_;exact h2
 live:=λb hb=>by
  rcases ZA hb with q | q
  ·obtain⟨o,e⟩:=r.live b q;exact⟨o,x.keep b o (Zf (r.low b q)) e⟩
  ·refine ZN (Zx q) ?_;exact⟨ob,hob⟩
 objs:=λi o' b e1 e2=>by
  by_cases q:i<U.length
  ·replace e1:=ZO (List.getElem?_append_left q).symm e1
   replace e2:=ZO (List.getElem?_append_left (by refine ZN r.len ?_;exact q)).symm e2;exact (r.objs i o' b e1 e2).ext (Ext.more x ha h2 []) LocOk.nil λo'' e=>x.keep b o'' (Zf (r.low b (Zy e2))) e
  ·have hi:i=U.length:=by
    have:=(List.getElem?_eq_some_iff.mp e1).1;simp at this;lia
   subst hi;replace e1:=ZO (List.getElem?_append_right (Zg _)).symm e1;replace e2:=ZO (List.getElem?_append_right (by refine ZN r.len ?_;exact Zg _)).symm e2;rw[r.len]at e2;simp at e1 e2;subst e1 e2;exact ho
 base:=λb o n e=>x.keep b o n (r.base b o n e)
 fresh:=λb hb=>by
  rcases ZA hb with q | q
  ·exact r.fresh b q
  ·refine ZN (Zx q) ?_
   cases e:g.h0.get? a with
   | none=>rfl
   | some o =>
    have:=r.base a o (Zf h2) e;replace this:=ZO ha.symm this;cases this
 stat:=let ⟨mc,S0,S⟩:=r.stat;⟨mc,S0,λo e=>x.stat o (S o e)⟩
 av0:=r.av0
 avl:=λb q=>by
  refine aN3 (r.avl b q) λh1 h2 zz=>eX1 zz λo e=>?_
  refine⟨h1,λz=>?_,o,x.keep b o (Zf h1) e⟩;rcases ZA z with z | z
  ·exact h2 z
  ·rw[Zx z]at e;replace e:=ZO ha.symm e;cases e
theorem Rel.plain {U:MH}{s:Shared}(r:Rel g μ U s){i:Nat}{a:Addr}(e:μ[i]? = some a):∃ o,s.heap.get? a=some o/\o.dict=none:=by
 have hi:=(List.getElem?_eq_some_iff.mp e).1;rw[r.len]at hi;have ho:=r.objs i U[i] a (ZI hi) e;cases q:U[i] <;> rw[q]at ho
 ·refine aN2 (ho) λ_ zz=>eX1 zz λitems zz=>aN2 zz λq3 _=>?_;obtain⟨n,e⟩:=q3;exact⟨_,e,rfl⟩
 ·obtain⟨n,e⟩:=ho;exact⟨_,e,rfl⟩
 ·refine aN2 (ho) λ_ zz=>eX1 zz λkvs zz=>aN2 zz λq3 _=>?_;refine eX3 (q3) λo es ep zz=>aN3 zz λe c _=>?_;exact⟨_,e,c.2.1⟩
 ·refine aN2 (ho) λ_ zz=>eX1 zz λkvs zz=>aN2 zz λq3 _=>?_;refine eX3 (q3) λo es ep zz=>aN3 zz λe c _=>?_;exact⟨_,e,c.2.1⟩
 ·refine aN2 (ho) λ_ zz=>eX2 zz λes n zz=>aN2 zz λe _=>?_;exact⟨_,e,rfl⟩
theorem Rel.but {U:MH}{s s':Shared}{own:List Addr}(r:Rel g μ U s)(k:∀ (b:Nat)(o:Obj),b≠2->b∉own->s.heap.get? b=some o->s'.heap.get? b=some o)(hl:LocOk g own s.heap)(hm:∀ a∈own,a∉μ)(h0:∀ a∈own,g.h0.get? a=none)(st:∀ o,s.heap.get? 2=some o->s'.heap.get? 2=some o)(hav:∀ a∈own,a∈g.av->∃ o,s'.heap.get? a=some o):Rel g μ U s' where
 len:=r.len
 nodup:=r.nodup
 low:=r.low
 live:=λa q=>let ⟨o,e⟩:=r.live a q;⟨o,k a o (Zf (r.low a q)) (λz=>hm a z q) e⟩
 objs:=λi o a e1 e2=>(r.objs i o a e1 e2).kp (loc:=own) ⟨λb o n e _ q=>k b o n q e,⟨[],by simp,by simp⟩⟩ hl λo' e=>k a o' (Zf (r.low a (Zy e2))) (λz=>hm a z (Zy e2)) e
 base:=λb o n e=>k b o n (λz=>by replace e:=ZO (h0 b z).symm e;cases e) (r.base b o n e)
 fresh:=r.fresh
 stat:=let ⟨mc,S0,S⟩:=r.stat;⟨mc,S0,λo e=>st o (S o e)⟩
 av0:=r.av0
 avl:=λa q=>by
  refine aN3 (r.avl a q) λh1 h2 zz=>eX1 zz λo e=>?_
  refine⟨h1,h2,?_⟩
  by_cases z:a∈own
  ·exact hav a z q
  ·exact⟨o,k a o (Zf h1) z e⟩
theorem VRel.but {own:List Addr}{v:MV}{y:Value}(r:VRel g μ h v y)(k:∀ (b:Nat)(o:Obj),b≠2->b∉own->h.get? b=some o->h'.get? b=some o)(hl:LocOk g own h):VRel g μ h' v y :=
 r.kp (loc:=own) ⟨λb o n e _ q=>k b o n q e,⟨[],by simp,by simp⟩⟩ hl _
end
section
structure EnvOk (sc:Scope) (env:Env):Prop where
 scope:env.scope=sc
 kind:sc.kind=.function
 globals:env.globals=mainGlobals
 builtins:env.builtins=builtinsNs
theorem EnvOk.kindOf {sc:Scope}{env:Env}(e:EnvOk sc env)(x:Str):env.kindOf x=sc.names.lookup x:=by
 unfold Env.kindOf;rw[e.scope]
theorem EnvOk.fn {sc:Scope}{env:Env}(e:EnvOk sc env):env.scope.kind=.function:=by rw[e.scope];exact e.kind
noncomputable def DH (g:Gl) (μ:List Addr) (env:Env) (h:Heap) (x:String) (v:MV):Prop:=match env.kindOf (Str.ofString x)with
 | some .local=>∃ m y,h.Ns env.locals m/\m (Str.ofString x)=some y/\VRel g μ h v y
 | some .cell=>∃ c y,env.cells.lookup (Str.ofString x)=some c/\h.IsCell c (some y)/\VRel g μ h v y
 | some .free=>∃ c y,env.cells.lookup (Str.ofString x)=some c/\h.IsCell c (some y)/\VRel g μ h v y
 | _=>True
structure EnvRel (g:Gl) (μ:List Addr) (J:ME') (env:Env) (h:Heap):Prop where
 ns:∃ m,h.Ns env.locals m
 lL:env.locals∉μ
 l2:2<env.locals
 l0:g.h0.get? env.locals=none
 cell:∀ p∈env.cells,(∃ v,h.IsCell p.2 v)/\p.2∉μ/\2<p.2/\p.2≠env.locals/\g.h0.get? p.2=none
 inj:∀ x y c,env.cells.lookup x=some c->env.cells.lookup y=some c->x=y
 has:∀ x,env.kindOf x=some .cell\/env.kindOf x=some .free->∃ c,env.cells.lookup x=some c
 vars:∀ x v,J.lookup x=some v->DH g μ env h x v
noncomputable def Env.mine (env:Env):List Addr:=env.locals::env.cells.map (·.2)
variable {g:Gl} {μ μ':List Addr} {h h':Heap}
theorem IsCell.ext {loc:List Addr}(x:Ext loc μ μ' h h'){c:Addr}{v:Option Value}(hc:h.IsCell c v)(n:c∉μ)(n2:2<c)(nl:c∉loc):h'.IsCell c v :=
 let ⟨o,e,d⟩:=hc;⟨o,x.keep c o (Zf n2) e n nl,d⟩
theorem Ns.ext {loc:List Addr}(x:Ext loc μ μ' h h'){L:Addr}{m:Str->Option Value}(hc:h.Ns L m)(n:L∉μ)(n2:2<L)(nl:L∉loc):h'.Ns L m :=
 let ⟨o,es,ep,e,d⟩:=hc;⟨o,es,ep,x.keep L o (Zf n2) e n nl,d⟩
theorem EnvRel.ext {J:ME'}{env:Env}(E:EnvRel g μ J env h)(x:Ext [] μ μ' h h'):EnvRel g μ' J env h' where
 ns:=let ⟨m,hm⟩:=E.ns;⟨m,Ns.ext x hm E.lL E.l2 (by simp)⟩
 lL:=let ⟨m,o,es,ep,e,_⟩:=E.ns;x.notin e E.lL
 l2:=E.l2
 l0:=E.l0
 cell:=λp e=>by
  refine aN4 (E.cell p e) λq1 n n2 nl=>?_;obtain⟨v,hv⟩:=q1
  refine eX1 (id hv) λo zz=>aN2 zz λeo _=>?_
  exact⟨⟨v,IsCell.ext x hv n n2 (by simp)⟩,x.notin eo n,n2,nl⟩
 inj:=E.inj
 has:=E.has
 vars:=λy v e=>by
  have:=E.vars y v e;unfold DH at this ⊢
  split at this
  ·refine eX2 (this) λm z zz=>aN3 zz λa b c=>?_
   exact (eI2 m z ⟨Ns.ext x a E.lL E.l2 (by simp),b,c.ext x LocOk.nil⟩)
  ·refine eX2 (this) λc z zz=>aN3 zz λa b d=>?_
   refine aN4 (E.cell _ (mem_of_lookup a)) λ_ n n2 _=>?_
   exact (eI2 c z ⟨a,IsCell.ext x b n n2 (by simp),d.ext x LocOk.nil⟩)
  ·refine eX2 (this) λc z zz=>aN3 zz λa b d=>?_
   refine aN4 (E.cell _ (mem_of_lookup a)) λ_ n n2 _=>?_
   exact (eI2 c z ⟨a,IsCell.ext x b n n2 (by simp),d.ext x LocOk.nil⟩)
  ·trivial
structure Room (A:Around) (d k:Nat):Prop where
 handled:A.handled=none
 depth:A.depth+2 * d<900
 units:A.units+100 * d+10 * k<9800
noncomputable abbrev Then (g:Gl) (μ:List Addr) (s:Shared) (v:MV) (U':MH) (Q:Value->Shared->Prop):Prop :=
 ∀ (μ':List Addr) (s':Shared) (x:Value),Ext [] μ μ' s.heap s'.heap->Rel g μ' U' s'->Still s s'->VRel g μ' s'.heap v x->Q x s'
noncomputable abbrev Lr (g:Gl) (μ:List Addr) (s:Shared) (K:MV->MH->Prop) (Q:Value->Shared->Prop):Prop:=∀ v U',K v U'->Then g μ s v U' Q
noncomputable def Ai (X:CK) (g:Gl) (d k:Nat) (sc:Scope) (e:Expr) (t:ME):Prop :=
 ∀ (env:Env) (J:ME') (U:MH) (K:MV->MH->Prop) (μ:List Addr) (A:Around) (E:Value->Shared->Prop) (s:Shared) (Q:Value->Shared->Prop),
  evK X t J U K->EnvOk sc env->EnvRel g μ J env s.heap->Rel g μ U s->Room A d k->Lr g μ s K Q->wpAny (model g.prog g.w) A (eval e env) Q E s
noncomputable def EM (X:CK) (g:Gl) (d k:Nat) (sc:Scope) (e:Expr) (t:ME):Prop :=
 ∀ (env:Env) (J:ME') (U:MH) (K:Bool->MH->Prop) (μ:List Addr) (A:Around) (E:Value->Shared->Prop) (s:Shared) (Q:Bool->Shared->Prop),
  evK X t J U (λx U=>isB x λb=>K b U)->EnvOk sc env->EnvRel g μ J env s.heap->Rel g μ U s->Room A d k ->
  (∀ b U',K b U'->∀ μ' s',Ext [] μ μ' s.heap s'.heap->Rel g μ' U' s'->Still s s'->Q b s')->wpAny (model g.prog g.w) A (isTrue e env (eval e env)) Q E s
variable {X:CK} {d k:Nat} {sc:Scope}
theorem Then.trans {s s':Shared}{v:MV}{U'':MH}{Q:Value->Shared->Prop}(t:Then g μ s v U'' Q)(x:Ext [] μ μ' s.heap s'.heap)(st:Still s s'):Then g μ' s' v U'' Q :=
 λμ'' s'' y x' r st' vr=>t μ'' s'' y (x.trans x' (λa q=>nomatch q)) r (st.trans st') vr
theorem Then.tok {s:Shared}{v:MV}{U:MH}{Q:Value->Shared->Prop}(t:Then g μ s v U Q)(r:Rel g μ U s){x:Value}{tk:Nat}(vr:VRel g μ s.heap v x):Q x { s with toks:=tk } :=
 t μ { s with toks:=tk } x (Ext.refl _ _ _) (r.grow (Grow.refl _)) ⟨rfl,rfl⟩ vr
theorem Then.now {s:Shared}{v:MV}{U:MH}{Q:Value->Shared->Prop}(t:Then g μ s v U Q)(r:Rel g μ U s){x:Value}(vr:VRel g μ s.heap v x):Q x s :=
 t μ s x (Ext.refl _ _ _) r (Still.refl _) vr
theorem Then.grow {s s':Shared}{v:MV}{U:MH}{Q:Value->Shared->Prop}(t:Then g μ s v U Q)(r:Rel g μ U s){x:Value}(gr:Grow s.heap s'.heap)(st:Still s s')(vr:VRel g μ s'.heap v x):Q x s' :=
 t μ s' x (gr.ext _ _) (r.grow gr) st vr
theorem IT {x:String}(hx:(x == "__debug__")=false):(Str.ofString x == ("__debug__":Str))=false:=by
 rw[beq_eq_false_iff_ne]at hx ⊢;exact λe=>hx (Ah e)
theorem Hc {x:String}(hx:(x == "__classdict__")=false):(Str.ofString x == ("__classdict__":Str))=false:=by
 rw[beq_eq_false_iff_ne]at hx ⊢;exact λe=>hx (Ah e)
theorem AD {x:String}{p:Pos}(hk:(sc.names.lookup (Str.ofString x) == some .local || sc.names.lookup (Str.ofString x) == some .cell || sc.names.lookup (Str.ofString x) == some .free)=true)
  (hd:autoParam ((x == "__debug__")=false) au) (hc:autoParam ((x == "__classdict__")=false) au):Ai X g d k sc (.Name (Str.ofString x) p) (.v x):=by
 intro env J U K μ A E s Q ⟨y,e,kv⟩ eo er r rm th;have th:=th _ _ kv;refine wpAny_Name ?_ (IT hd);have va:=er.vars x y e;unfold DH at va;rw[eo.kindOf]at va;simp only[Bool.or_eq_true,beq_iff_eq]at hk;rcases hk with (hk | hk) | hk <;> rw[hk]at va <;> dsimp only at va
 ·refine eX2 (va) λm z zz=>aN3 zz λa b c=>?_
  exact wpAny_loadName_local eo.fn (by rw[eo.kindOf];exact hk) a b (th.now r c)
 ·refine eX2 (va) λc z zz=>aN3 zz λa b q=>?_
  exact wpAny_loadName_cell eo.fn (by rw[eo.kindOf];exact hk) a b (th.now r q)
 ·refine eX2 (va) λc z zz=>aN3 zz λa b q=>?_
  exact wpAny_loadName_free eo.fn (by rw[eo.kindOf];exact hk) a b (th.now r q) (Hc hc)
theorem AV {i:Int}{j:Nat}{p:Pos}:Ai X g d k sc (.Constant (.int i) j p) (.c (.int i)):=by
 intro env J U K μ A E s Q ev eo er r rm th;have th:=th _ _ ev
 show wpAny _ _ (mkInt i) _ _ _;exact wpAny_mkInt (th.tok r .int)
theorem Fj {i:Int}{j:Nat}{p p':Pos}:Ai X g d k sc (.UnaryOp .USub (.Constant (.int i) j p) p') (.c (.int (-i))):=by
 intro env J U K μ A E s Q ev eo er r rm th;refine wpAny_bind (wpAny_mkInt (wpAny_bind (wpAny_standAt (wpAny_holding ?_))));exact PyProof.Rows.neg_int ((th _ _ ev).tok r .int)
theorem CX {x:String}{j:Nat}{p:Pos}:Ai X g d k sc (.Constant (.str (Str.ofString x)) j p) (.c (.str x)):=by
 intro env J U K μ A E s Q ev eo er r rm th;have th:=th _ _ ev
 show wpAny _ _ (mkText _) _ _ _;exact wpAny_mkText (th.tok r .str)
theorem BV {b:Bool}{j:Nat}{p:Pos}:Ai X g d k sc (.Constant (.bool b) j p) (.c (.bool b)):=by
 intro env J U K μ A E s Q ev eo er r rm th;have th:=th _ _ ev;exact wpAny_pure (th.now r .bool)
theorem IU {j:Nat}{p:Pos}:Ai X g d k sc (.Constant .none j p) (.c .none):=by
 intro env J U K μ A E s Q ev eo er r rm th;have th:=th _ _ ev;exact wpAny_pure (th.now r .none)
end
section
variable {g:Gl} {μ μ':List Addr} {h h':Heap} {X:CK} {d k:Nat} {sc:Scope}
noncomputable abbrev P9 (g:Gl) (μ:List Addr) (s:Shared) (vs:List MV) (U':MH) (Q:List Value->Shared->Prop):Prop :=
 ∀ (μ':List Addr) (s':Shared) (xs:List Value),Ext [] μ μ' s.heap s'.heap->Rel g μ' U' s'->Still s s'->VRels g μ' s'.heap vs xs->Q xs s'
noncomputable def Ea (X:CK) (g:Gl) (d k:Nat) (sc:Scope) (es:List Expr) (ts:List ME):Prop :=
 ∀ (env:Env) (J:ME') (U:MH) (K:List MV->MH->Prop) (μ:List Addr) (A:Around) (E:Value->Shared->Prop) (s:Shared) (Q:List Value->Shared->Prop) (pos:Pos),
  evKs X ts J U K->EnvOk sc env->EnvRel g μ J env s.heap->Rel g μ U s->Room A d k->(∀ vs U',K vs U'->P9 g μ s vs U' Q)->wpAny (model g.prog g.w) A (spliced (backTo pos (starEach es env))) Q E s
theorem AG:Ea X g d k sc [] []:=λenv J U K μ A E s Q pos ev eo er r rm th=>wpAny_pure (th _ _ ev μ s [] (Ext.refl _ _ _) r (Still.refl _) .nil)
theorem AA {e:Expr}{es:List Expr}{t:ME}{ts:List ME}(h1:Ai X g d k sc e t)(h2:Ea X g d k sc es ts)
  (hs:autoParam (∀ env,starEach (e::es) env=(false,eval e env)::starEach es env) au):Ea X g d k sc (e::es) (t::ts):=by
 intro env J U K μ A E s Q pos ev eo er r rm th;rw[hs];show wpAny _ _ (eval e env >>= λv=>(pure [v]:Sem (List Value)) >>= λhere=>holding here (spliced (backTo pos (starEach es env))) >>= λr=>pure (here++r)) _ _ _;refine wpAny_bind (h1 env J U _ μ A E s _ ev eo er r rm λv U₁ ev μ₁ s₁ x x1 r1 st1 v1=>wpAny_bind (wpAny_pure (wpAny_bind (wpAny_holding ?_))));exact h2 env J U₁ _ μ₁ A E s₁ _ pos ev eo (er.ext x1) r1 rm λws U₂ ev μ₂ s₂ xs x2 r2 st2 v2=>wpAny_pure (th _ _ ev μ₂ s₂ (x::xs) (x1.trans x2 λa q=>nomatch q) r2 (st1.trans st2) (.cons (v1.ext x2 LocOk.nil) v2))
theorem EnvRel.size {J:ME'}{env:Env}(E:EnvRel g μ J env h):2<h.objs.size:=by
 obtain⟨m,hm⟩:=E.ns;exact Ze E.l2 hm.lt
theorem BQ {U:MH}{s:Shared}(r:Rel g μ U s):s.heap.objs.size∉μ:=λq=>by
 obtain⟨o,e⟩:=r.live _ q;exact absurd (Heap.lt_size e) (Nat.lt_irrefl _)
theorem DB {U:MH}{s:Shared}(r:Rel g μ U s):s.heap.objs.size∉g.av:=λq=>by
 obtain⟨_,_,o,e⟩:=r.avl _ q;exact absurd (Heap.lt_size e) (Nat.lt_irrefl _)
theorem FV {U:MH}{s:Shared}(r:Rel g μ U s):s.heap.objs.size∉μ/\s.heap.objs.size∉g.av:=⟨BQ r,DB r⟩
theorem Ks {A:Around}{E:Value->Shared->Prop}{s:Shared}{U:MH}{vs:List MV}{xs:List Value}{Q:Value->Shared->Prop}(r:Rel g μ U s)(vr:VRels g μ s.heap vs xs)(h2:2<s.heap.objs.size)(hz:vs.length<=big)(th:Then g μ s (.tup vs) U Q) :
  wpAny (model g.prog g.w) A (newTuple xs) Q E s:=by
 refine wpAny_newTuple ?_ (by refine ZN vr.length.symm ?_;refine ZN sizeLine_eq ?_;exact Zc hz (by decide));refine th.grow r (Grow.push _ _) ⟨rfl,rfl⟩ (.tup ⟨_,Heap.get?_push_size _ rfl,rfl,0,rfl⟩ (BQ r) h2 ?_);exact vr.ext ((Grow.push _ _).ext [] μ) LocOk.nil
theorem O0 {A:Around}{E:Value->Shared->Prop}{s:Shared}{U:MH}{vs:List MV}{xs:List Value}{Q:Value->Shared->Prop}(r:Rel g μ U s)(vr:VRels g μ s.heap vs xs)(h2:2<s.heap.objs.size)(hz:vs.length<=big)(th:Then g μ s (.fl vs) U Q) :
  wpAny (model g.prog g.w) A (newList xs) Q E s:=by
 refine wpAny_newList ?_ (by refine ZN vr.length.symm ?_;refine ZN sizeLine_eq ?_;exact Zc hz (by decide));refine th.grow r (Grow.push _ _) ⟨rfl,rfl⟩ (.fl ⟨0,Heap.get?_push_size _ rfl⟩ (FV r) h2 ?_);exact vr.ext ((Grow.push _ _).ext [] μ) LocOk.nil
theorem NY {A:Around}{E:Value->Shared->Prop}{s:Shared}{U:MH}{vs:List MV}{xs:List Value}{Q:Value->Shared->Prop}(r:Rel g μ U s)(vr:VRels g μ s.heap vs xs)(h2:2<s.heap.objs.size)(hz:vs.length<=big)(th:Then g μ s (.ref U.length) (U++[.list vs]) Q) :
  wpAny (model g.prog g.w) A (newList xs) Q E s:=by
 refine wpAny_newList ?_ (by refine ZN vr.length.symm ?_;refine ZN sizeLine_eq ?_;exact Zc hz (by decide));have gr:=Grow.push s.heap { cls:=.type "list",data:=.seq xs.toArray }
 have x:Ext [] μ (μ++[s.heap.objs.size]) s.heap _:=Ext.more gr (Ba _) (by first | exact h2 | exact er.size | exact ((er.ext x1).ext x2).size) [];refine th (μ++[s.heap.objs.size]) { s with heap:=_ } (.ref s.heap.objs.size) x (r.more (s':={ s with heap:=s.heap.push _ }) gr (Ba _) h2 (Heap.get?_push_size _ rfl) ?_) ⟨rfl,rfl⟩ (.ref ?_)
 ·exact⟨hz,_,⟨0,Heap.get?_push_size _ rfl⟩,vr.ext x LocOk.nil⟩
 ·refine ZN r.len.symm ?_;refine ZO (List.getElem?_append_right (Zg _)) ?_;simp
theorem Ad {es:List Expr}{ts:List ME}{j:Nat}{p:Pos}(h1:Ea X g d k sc es ts)(hz:autoParam (Nat.ble ts.length 100=true) au):Ai X g d k sc (.Tuple es j p) (.tup ts) :=
 λenv J U K μ A E s Q ev eo er r rm th=>Tuple_ (h1 env J U _ μ A E s _ p ev eo er r rm λvs U₁ ev μ₁ s₁ xs x1 r1 st1 v1=>Ks r1 v1 (er.ext x1).size (by refine ZN ev.1 ?_;exact Zc (Za hz) (by decide)) ((th _ _ ev.2).trans x1 st1))
theorem CZ {es:List Expr}{ts:List ME}{p:Pos}(h1:Ea X g d k sc es ts)(hz:autoParam (Nat.ble ts.length 100=true) au):Ai X g d k sc (.List es p) (.flst ts) :=
 λenv J U K μ A E s Q ev eo er r rm th=>List_ (h1 env J U _ μ A E s _ p ev eo er r rm λvs U₁ ev μ₁ s₁ xs x1 r1 st1 v1=>O0 r1 v1 (er.ext x1).size (by refine ZN ev.1 ?_;exact Zc (Za hz) (by decide)) ((th _ _ ev.2).trans x1 st1))
theorem B8 {es:List Expr}{ts:List ME}{p:Pos}(h1:Ea X g d k sc es ts)(hz:autoParam (Nat.ble ts.length 100=true) au):Ai X g d k sc (.List es p) (.lst ts) :=
 λenv J U K μ A E s Q ev eo er r rm th=>List_ (h1 env J U _ μ A E s _ p ev eo er r rm λvs U₁ ev μ₁ s₁ xs x1 r1 st1 v1=>NY r1 v1 (er.ext x1).size (by refine ZN ev.1 ?_;exact Zc (Za hz) (by decide)) ((th _ _ ev.2).trans x1 st1))
theorem Ch {p:Pos}:Ai X g d k sc (.Dict [] [] p) .dict:=by
 intro env J U K μ A E s Q ev eo er r rm th;have gr:=Grow.push s.heap { cls:=.type "dict",data:=.dict #[] };refine wpAny_Dict_empty (th _ _ ev (μ++[s.heap.objs.size]) { s with heap:=_ } (.ref s.heap.objs.size) (Ext.more gr (Ba _) er.size []) (r.more (s':={ s with heap:=s.heap.push _ }) gr (Ba _) er.size (Heap.get?_push_size _ rfl) ⟨0,Heap.get?_push_size _ rfl⟩) ⟨rfl,rfl⟩ (.ref ?_));refine ZN r.len.symm ?_;refine ZO (List.getElem?_append_right (Zg _)) ?_;simp
noncomputable def OI:BO->Operator
 | .add=>.Add | .sub=>.Sub | .mul=>.Mult | .fdiv _=>.FloorDiv | .mod=>.Mod
set_option tactic.hygienic true in
theorem EF {U:MH}{s:Shared}{v:MV}{x:Value}{l:List MV}(r:Rel g μ U s)(vr:VRel g μ s.heap v x)(e:AO U v=some l) :
  ∃ a items,x=.ref a/\IsLx s.heap a items/\VRels g μ s.heap l items.toList:=by
 cases v <;> simp only[AO]at e <;> try (cases e;done)
 ·cases e
  obtain⟨a,i,e,p,_,_,q⟩:=vr;exact⟨a,i,e,p,q⟩
 ·rename_i i
  split at e
  ·rename_i l' hl
   cases e;obtain⟨_,rfl,hi⟩:=vr;obtain⟨_,items,c,d⟩:=r.at hl hi;exact⟨_,items,rfl,c,d⟩
  ·cases e
theorem listItems_at {U:MH}{s:Shared}{v:MV}{x:Value}{l:List MV}(r:Rel g μ U s)(vr:VRel g μ s.heap v x)(e:AO U v=some l) :
  ∃ a items,x=.ref a/\s.heap.IsList a items/\VRels g μ s.heap l items.toList:=let ⟨a,i,h1,h2,h3⟩:=EF r vr e;⟨a,i,h1,h2.list,h3⟩
theorem By {α:Type}(a:Array α):a=a.toList.toArray:=by simp
section
open PyProof.Rows
variable {prog:Program} {w:World} {A:Around} {E:Value->Shared->Prop} {s:Shared}
theorem Fx {l b:Addr}{vs ws:List Value}{Q:Value->Shared->Prop}(hl:s.heap.IsList l vs.toArray)(hb:s.heap.IsList b ws.toArray)
  (h:∀ h',h'=s.heap.push { cls:=.type "list",data:=.seq (vs++ws).toArray }->Q (.ref s.heap.objs.size) { s with heap:=h' }) (hsz:vs.length+ws.length<=sizeLine) :
  wpAny (model prog w) A (binaryOp .Add (.ref l) (.ref b)) Q E s:=by
 obtain⟨⟨c1,d1,x1,s1⟩,ho,hc,n,hd⟩:=id hl;obtain⟨⟨c2,d2,x2,s2⟩,ho2,hc2,n2,hd2⟩:=id hb;dsimp only at hc hd hc2 hd2;subst hc hd hc2 hd2;refine concat_meets ⟨_,ho,rfl⟩ ⟨_,ho2,rfl⟩ noFill_list_add seq_list_add PySem.F.slot_list_add PySem.F.entry_list_add (PySem.F.args_list_add_2 _ _) (list_addW l b vs.toArray ws.toArray n n2 d1 d2 s1 s2 (by simpa using hsz)) ⟨ho,ho2,?_⟩;exact h _ (by simp)
theorem IV {t b:Addr}{vs ws:List Value}{Q:Value->Shared->Prop}(ht:IsTup s.heap t vs.toArray)(hb:IsTup s.heap b ws.toArray)(h0:vs=[]->Q (.ref b) s)(h1:ws=[]->Q (.ref t) s)
  (h2:∀ h',h'=s.heap.push { cls:=.type "tuple",data:=.seq (vs++ws).toArray }->Q (.ref s.heap.objs.size) { s with heap:=h' }) (hsz:vs.length+ws.length<=sizeLine) :
  wpAny (model prog w) A (binaryOp .Add (.ref t) (.ref b)) Q E s:=by
 obtain⟨⟨c1,d1,x1,s1⟩,ho,hc,n,hd⟩:=id ht;obtain⟨⟨c2,d2,x2,s2⟩,ho2,hc2,n2,hd2⟩:=id hb;dsimp only at hc hd hc2 hd2;subst hc hd hc2 hd2;cases vs with
 | nil=>exact concat_meets ⟨_,ho,rfl⟩ ⟨_,ho2,rfl⟩ noFill_tuple_add seq_tuple_add PySem.F.slot_tuple_add PySem.F.entry_tuple_add (PySem.F.args_tuple_add_2 _ _) (tuple_addW0 t b _ ws.toArray n n2 d1 d2 s1 s2 (by simp)) ⟨ho,ho2,h0 rfl⟩
 | cons v vs =>
  cases ws with
  | nil=>exact concat_meets ⟨_,ho,rfl⟩ ⟨_,ho2,rfl⟩ noFill_tuple_add seq_tuple_add PySem.F.slot_tuple_add PySem.F.entry_tuple_add (PySem.F.args_tuple_add_2 _ _) (tuple_addW1 t b _ _ n n2 d1 d2 s1 s2 (by simp) (by simp)) ⟨ho,ho2,h1 rfl⟩
  | cons u ws =>
   refine concat_meets ⟨_,ho,rfl⟩ ⟨_,ho2,rfl⟩ noFill_tuple_add seq_tuple_add PySem.F.slot_tuple_add PySem.F.entry_tuple_add (PySem.F.args_tuple_add_2 _ _) (tuple_addW2 t b _ _ n n2 d1 d2 s1 s2 (by simp) (by simp) (by refine ZN List.size_toArray ?_;refine ZN List.size_toArray ?_;exact hsz)) ⟨ho,ho2,?_⟩;exact h2 _ (by simp)
end
theorem Px {α:Type}{p:Prop} [Decidable p] {a:Option α}{b:α}(h:(if p then a else none)=some b):p/\a=some b:=by
 by_cases q:p
 ·replace h:=ZO (if_pos q).symm h;exact⟨q,h⟩
 ·replace h:=ZO (if_neg q).symm h;cases h
theorem bs {α β:Type}{o:Option α}{f:α->Option β}{b:β}(h:o.bind f=some b):∃ a,o=some a/\f a=some b:=Option.bind_eq_some_iff.mp h
theorem ms {α β:Type}{o:Option α}{f:α->β}{b:β}(h:o.map f=some b):∃ a,o=some a/\f a=b:=ZD h
theorem O1 {o:BO}{U:MH}{a b v:MV}{x y:Value}{A:Around}{E:Value->Shared->Prop}{s:Shared}{Q:Value->Shared->Prop}(e:BinR U o a b v)(r:Rel g μ U s)(va:VRel g μ s.heap a x)(vb:VRel g μ s.heap b y)(h2:2<s.heap.objs.size)
  (th:Then g μ s v U Q):wpAny (model g.prog g.w) A (binaryOp (OI o) x y) Q E s:=by
 induction e with
 | add a b=>obtain⟨_,rfl⟩:=va;obtain⟨_,rfl⟩:=vb;exact PyProof.Rows.add_int (th.tok r .int)
 | sub a b=>obtain⟨_,rfl⟩:=va;obtain⟨_,rfl⟩:=vb;exact PyProof.Rows.sub_int (th.tok r .int)
 | mul a b q =>
  obtain⟨_,rfl⟩:=va;obtain⟨_,rfl⟩:=vb;refine PyProof.Rows.mul_int (th.tok r .int) ?_;have:Builtin.Int.intBits a<=64:=by
   refine PySem.intBits_le_64 ?_ ?_ <;> lia
  unfold IntMulOk;refine ZN (show (decide (Builtin.Int.intBits a > shortFactorBits))=false from decide_eq_false (by unfold shortFactorBits;lia)) ?_;simp
 | fdiv a b q =>
  obtain⟨_,rfl⟩:=va;obtain⟨_,rfl⟩:=vb;exact PyProof.Rows.floordiv_int (by lia) (th.tok r .int) (.inl (PyProof.noPylong_of_log2 (by
   have:b.natAbs.log2<60:=(Nat.log2_lt (by lia)).mpr (by lia);exact Ze this (Za rfl))))
 | mod a b q=>obtain⟨_,rfl⟩:=va;obtain⟨_,rfl⟩:=vb;exact PyProof.Rows.mod_int' q (th.tok r .int)
 | tup l m hz =>
  obtain⟨ta,ia,rfl,i1,i2,i3,i4⟩:=va;obtain⟨tb,ib,rfl,j1,j2,j3,j4⟩:=vb;refine IV (vs:=ia.toList) (ws:=ib.toList) (by rw[<- By];exact i1) (by rw[<- By];exact j1) (λe0=>?_) (λe1=>?_) (λh' hh=>?_) ?_
  ·have:=i4.length
   rw[e0]at this;have:=List.eq_nil_of_length_eq_zero this;subst this;exact th.now r (.tup j1 j2 j3 j4)
  ·have:=j4.length
   rw[e1]at this;have:=List.eq_nil_of_length_eq_zero this;subst this;exact th.now r (.tup i1 i2 i3 (by rw[List.append_nil];exact i4))
  ·have hn:h'.get? s.heap.objs.size=some { cls:=.type "tuple",data:=.seq (ia.toList++ib.toList).toArray }:=by refine ZN hh ?_;exact Heap.get?_push_size _ rfl
   have gr:Grow s.heap h':=by refine ZN hh ?_;exact Grow.push _ _
   exact th.grow r gr ⟨rfl,rfl⟩ (.tup ⟨_,hn,rfl,0,rfl⟩ (BQ r) h2 ((i4.append j4).ext (gr.ext [] μ) LocOk.nil))
  ·refine ZN i4.length.symm ?_;refine ZN j4.length.symm ?_;refine ZN sizeLine_eq ?_;exact Zc hz (by decide)
 | lst a b l m hl hm hz =>
  obtain⟨aa,ia,rfl,i1,i4⟩:=listItems_at r va hl;obtain⟨ab,ib,rfl,j1,j4⟩:=listItems_at r vb hm;refine Fx (vs:=ia.toList) (ws:=ib.toList) (by rw[<- By];exact i1) (by rw[<- By];exact j1) (λh' hh=>?_) ?_
  ·have hn:h'.get? s.heap.objs.size=some { cls:=.type "list",data:=.seq (ia.toList++ib.toList).toArray }:=by refine ZN hh ?_;exact Heap.get?_push_size _ rfl
   have gr:Grow s.heap h':=by refine ZN hh ?_;exact Grow.push _ _
   exact th.grow r gr ⟨rfl,rfl⟩ (.fl ⟨0,hn⟩ (FV r) h2 ((i4.append j4).ext (gr.ext [] μ) LocOk.nil))
  ·refine ZN i4.length.symm ?_;refine ZN j4.length.symm ?_;refine ZN sizeLine_eq ?_;exact Zc hz (by decide)
theorem Aj {o:BO}{a b:Expr}{ta tb:ME}{p:Pos}(h1:Ai X g d k sc a ta)(h2:Ai X g d k sc b tb):Ai X g d k sc (.BinOp a (OI o) b p) (.bin o ta tb):=by
 intro env J U K μ A E s Q ev eo er r rm th;refine wpAny_bind (h1 env J U _ μ A E s _ ev eo er r rm λx U₁ ev μ₁ s₁ x' x1 r1 st1 v1=>wpAny_bind (wpAny_holding ?_));refine h2 env J U₁ _ μ₁ A E s₁ _ ev eo (er.ext x1) r1 rm λy U₂ ee μ₂ s₂ y' x2 r2 st2 v2=>?_
 obtain⟨v,e3,kv⟩:=ee;exact wpAny_bind (wpAny_standAt (wpAny_operating (O1 e3 r2 (v1.ext x2 LocOk.nil) v2 ((er.ext x1).ext x2).size (((th _ _ kv).trans x1 st1).trans x2 st2))))
theorem NZ {a b:Expr}{ta tb:ME}{p:Pos}(h1:Ai X g d k sc a ta)(h2:Ai X g d k sc b tb):Ai X g d k sc (.BinOp a .Add b p) (.cat ta tb):=by
 intro env J U K μ A E s Q ev eo er r rm th;refine wpAny_bind (h1 env J U _ μ A E s _ ev eo er r rm λx U₁ ev μ₁ s₁ x' x1 r1 st1 v1=>wpAny_bind (wpAny_holding ?_));refine h2 env J U₁ _ μ₁ A E s₁ _ ev eo (er.ext x1) r1 rm λy U₂ ee μ₂ s₂ y' x2 r2 st2 v2=>wpAny_bind (wpAny_standAt (wpAny_operating ?_))
 obtain⟨l,m,hl,hm,hz,kv⟩:=ee;have h2:=((er.ext x1).ext x2).size;obtain⟨aa,ia,rfl,i1,i4⟩:=listItems_at r2 (v1.ext x2 LocOk.nil) hl;obtain⟨ab,ib,rfl,j1,j4⟩:=listItems_at r2 v2 hm;refine Fx (vs:=ia.toList) (ws:=ib.toList) (by rw[<- By];exact i1) (by rw[<- By];exact j1) (λh' hh=>?_) ?_
 ·have hn:h'.get? s₂.heap.objs.size=some { cls:=.type "list",data:=.seq (ia.toList++ib.toList).toArray }:=by refine ZN hh ?_;exact Heap.get?_push_size _ rfl
  have gr:Grow s₂.heap h':=by refine ZN hh ?_;exact Grow.push _ _
  have x3:Ext [] μ₂ (μ₂++[s₂.heap.objs.size]) s₂.heap h':=Ext.more gr (Ba _) h2 [];refine (((th _ _ kv).trans x1 st1).trans x2 st2) (μ₂++[s₂.heap.objs.size]) { s₂ with heap:=h' } (.ref s₂.heap.objs.size) x3 (r2.more (s':={ s₂ with heap:=h' }) gr (Ba _) h2 hn ⟨by refine ZN ZG ?_;exact hz,_,⟨0,hn⟩,(i4.append j4).ext x3 LocOk.nil⟩) ⟨rfl,rfl⟩ (.ref ?_);refine ZN r2.len.symm ?_;refine ZO (List.getElem?_append_right (Zg _)) ?_;simp
 ·refine ZN i4.length.symm ?_;refine ZN j4.length.symm ?_;refine ZN sizeLine_eq ?_;exact Zc hz (by decide)
end
section
variable {g:Gl} {μ μ':List Addr} {h h':Heap} {X:CK} {d k:Nat} {sc:Scope}
theorem BH {a:Addr}(h2:2<a):(a == sysModules)=false:=by
 refine beq_eq_false_iff_ne.mpr ?_;intro e;subst e;exact absurd h2 (by decide)
theorem IRel.at {l:List (Int×MV)}{kvs:List (Int×Value)}(r:IRel g μ h l kvs)(i:Int) :
  (l.lookup i=none/\valueAt kvs i=none)\/∃ v x,l.lookup i=some v/\valueAt kvs i=some x/\VRel g μ h v x:=by
 induction r with
 | nil=>exact .inl ⟨rfl,rfl⟩
 | @cons n v x r es a _ ih =>
  by_cases e:n=i
  ·subst e
   exact .inr ⟨v,x,by simp,by simp[valueAt],a⟩
  ·have h1:((n,v)::r).lookup i=r.lookup i:=by
    rw[List.lookup_cons,show (i == n)=false from beq_eq_false_iff_ne.mpr λq=>e q.symm]
   have h2:valueAt ((n,x)::es) i=valueAt es i:=by simp[valueAt,e]
   refine ZN h1 ?_;refine ZN h2 ?_;exact ih
theorem TRel.at {l:List (List At×MV)}{xs:List (List At×Addr×Value)}(r:TRel g μ h l xs)(i:List At) :
  (l.lookup i=none/\atKey xs i=none)\/∃ v a x,l.lookup i=some v/\atKey xs i=some (a,x)/\VRel g μ h v x:=by
 induction r with
 | nil=>exact .inl ⟨rfl,rfl⟩
 | @cons n v a x r es a1 a2 a3 _ ih =>
  by_cases e:n=i
  ·subst e
   exact .inr ⟨v,a,x,by simp,by simp[atKey],a3⟩
  ·have h1:((n,v)::r).lookup i=r.lookup i:=by
    rw[List.lookup_cons,show (i == n)=false from beq_eq_false_iff_ne.mpr λq=>e q.symm]
   have h2:atKey ((n,a,x)::es) i=atKey es i:=by simp[atKey,e]
   refine ZN h1 ?_;refine ZN h2 ?_;exact ih
theorem Bz (i:Int)(t:Tok):Value.isInt i (.int i t)=true:=by simp[Value.isInt]
theorem Eb {o:MO}{i:Int}{r:Option MV}{a:Addr}(e:D9 o (.int i)=some r)(hr:ORel g μ h a o) :
  ∃ kvs,h.DictOf (intKind g.prog g.w) a kvs/\((r=none/\valueAt kvs i=none)\/∃ v x,r=some v/\valueAt kvs i=some x/\VRel g μ h v x):=by
 cases o <;> simp only[D9]at e <;> try (cases e;done)
 ·cases e
  obtain⟨n,hn⟩:=hr;exact⟨[],⟨_,#[],n,hn,⟨rfl,rfl,rfl⟩,rfl,λ_ hx=>by simp at hx,.nil,.nil⟩,.inl ⟨rfl,rfl⟩⟩
 ·cases e
  refine aN2 (hr) λ_ zz=>eX1 zz λkvs zz=>aN2 zz λhd hk=>?_
  exact⟨kvs,hd,hk.at i⟩
theorem Pa {v:MV}{t:At}{x:Value}(e:v.at? = some t)(vr:VRel g μ h v x):(BL g.prog g.w).is t x=true:=by
 cases v <;> simp only[MV.at?]at e <;> try (cases e;done)
 ·cases e;obtain⟨tk,rfl⟩:=vr;exact Bz _ tk
 ·cases e;obtain⟨tk,rfl⟩:=vr;simp[BL,Lq,Value.isStrOf]
theorem Kt {l:List MV}{ks:List At}{xs:List Value}(e:l.mapM MV.at? = some ks)(vr:VRels g μ h l xs):ItemsAre (BL g.prog g.w) ks xs:=by
 induction l generalizing ks xs with
 | nil=>cases e;refine ZN (show xs=[]from vr) ?_;exact .nil
 | cons v l ih =>
  simp only[List.mapM_cons,Option.bind_eq_bind,Option.bind_eq_some_iff,Option.pure_def,Option.some.injEq]at e;refine eX1 (e) λt zz=>aN2 zz λe1 zz=>eX1 zz λts zz=>aN2 zz λe2 q5=>?_;subst q5
  refine eX2 (vr) λ_ _ zz=>aN3 zz λq3 a b=>?_;subst q3
  exact .cons (Pa e1 a) (ih e2 b)
theorem DS {l:List MV}{ks:List At}{x:Value}(e:MV.key? (.tup l)=some ks)(vr:VRel g μ h (.tup l) x):∃ a,x=.ref a/\a∉μ/\2<a/\(kK g.prog g.w).is h ks a:=by
 refine eX2 (vr) λa it zz=>aN5 zz λq3 q4 n n1 r=>?_;subst q3;refine eX1 (q4) λo zz=>aN3 zz λe1 e2 zz=>eX1 zz λm e3=>?_
 exact⟨a,rfl,n,n1,o,_,m,e1,e2,e3,Kt e r⟩
theorem Dc {o:MO}{l:List MV}{r:Option MV}{a:Addr}(e:D9 o (.tup l)=some r)(hr:ORel g μ h a o) :
  ∃ ks xs,MV.key? (.tup l)=some ks/\h.DictOfH (kK g.prog g.w) a xs/\((r=none/\atKey xs ks=none)\/∃ v b x,r=some v/\atKey xs ks=some (b,x)/\VRel g μ h v x):=by
 cases o <;> simp only[D9]at e <;> try (cases e;done)
 ·obtain⟨ks,e1,rfl⟩:=ZD e
  obtain⟨n,hn⟩:=hr;exact⟨ks,[],e1,⟨_,#[],n,hn,⟨rfl,rfl,rfl⟩,rfl,rfl,λ_ hx=>(by simp at hx),.nil⟩,.inl ⟨rfl,rfl⟩⟩
 ·obtain⟨ks,e1,rfl⟩:=ZD e
  refine aN2 (hr) λ_ zz=>eX1 zz λxs zz=>aN2 zz λhd hk=>?_
  exact⟨ks,xs,e1,hd,hk.at ks⟩
theorem Room.line {A:Around}(r:Room A d k):A.units+64<cLine:=by have:=r.units;unfold cLine;lia
noncomputable def D4:CO->CmpOp
 | .eq=>.Eq | .ne=>.NotEq | .lt=>.Lt | .gt _=>.Gt | .le=>.LtE | .is=>.Is | .isin=>.In | .notin=>.NotIn
theorem Bk {l:List MV}{ks:List Int}{xs:List Value}(e:l.mapM MV.int? = some ks)(vr:VRels g μ h l xs):ReadsAll h xs (ks.map PyData.int) []/\IntsAre xs ks:=by
 induction l generalizing ks xs with
 | nil=>cases e;refine ZN (show xs=[]from vr) ?_;exact⟨.nil,.nil⟩
 | cons v l ih =>
  simp only[List.mapM_cons,Option.bind_eq_bind,Option.bind_eq_some_iff,Option.pure_def,Option.some.injEq]at e;refine eX1 (e) λt zz=>aN2 zz λe1 zz=>eX1 zz λts zz=>aN2 zz λe2 q5=>?_;subst q5
  cases v <;> simp only[MV.int?]at e1 <;> try (cases e1;done)
  cases e1;refine eX2 (vr) λ_ _ zz=>aN3 zz λq3 q4 b=>?_;subst q3;obtain⟨tk,rfl⟩:=q4
  exact⟨.cons (.int _ tk) (ih e2 b).1,.cons _ tk (ih e2 b).2⟩
theorem IW (ks:List Int):PyData.canLayAll0 (ks.map PyData.int)=true:=by
 induction ks with
 | nil=>rfl
 | cons k ks ih=>simp[PyData.canLayAll0,PyData.canLay0,ih]
theorem Jd (ks:List Int):PyData.depthAll (ks.map PyData.int)<=1:=by
 induction ks with
 | nil=>exact Zm _
 | cons k ks ih=>simp[PyData.depthAll,PyData.depth];exact ih
theorem Ku (a b:List Int):Spec.sameAll (a.map PyData.int) (b.map PyData.int)=decide (a=b) :=
 sameAll_map (λa b=>by simp[Spec.same];rfl) a b
theorem Fy (a b:List Int):SeqAt.noMixAll (a.map PyData.int) (b.map PyData.int)=true:=by
 induction a generalizing b with
 | nil=>cases b <;> rfl
 | cons x a ih=>cases b with
  | nil=>rfl
  | cons y b=>simp[SeqAt.noMixAll,SeqAt.noMix,ih b]
theorem Cr (ks:List Int):SeqAt.shaped (.list (ks.map PyData.int))=true:=by
 have:=Jd ks;simp only[SeqAt.shaped,PyData.canLay0,PyData.depth,IW,Bool.true_and];exact decide_eq_true (Zw (Zb this (Za rfl)))
noncomputable def At.py:At->PyData
 | .i n=>.int n
 | .s x=>.str (Str.ofString x)
theorem Ls (x:String):PyData.strOk (Str.ofString x)=true:=by
 unfold PyData.strOk;rw[Str.ofString_eq_toList];refine ZO Array.all_toList.symm ?_;refine List.all_eq_true.mpr λc hc=>?_
 obtain⟨c',_,rfl⟩:=ZB (show c∈x.toList.map Char.toNat from hc);have:=c'.valid;refine decide_eq_true ?_;show c'.val.toNat<1114112;rcases this with h | ⟨_,h⟩ <;> lia
theorem IX {ks:List At}{xs:List Value}(e:ItemsAre (BL g.prog g.w) ks xs):ReadsAll h xs (ks.map At.py) []:=by
 induction e with
 | nil=>exact .nil
 | @cons k v ks vs a _ ih =>
  cases k with
  | i n=>obtain⟨t,rfl⟩:=Bn a;exact .cons (as:=[]) (.int n t) ih
  | s x=>obtain⟨t,rfl⟩:=Bo a;exact .cons (as:=[]) (.str _ t) ih
theorem Je (ks:List At):PyData.canLayAll0 (ks.map At.py)=true:=by
 induction ks with
 | nil=>rfl
 | cons k ks ih=>cases k <;> simp[PyData.canLayAll0,PyData.canLay0,At.py,ih,Ls]
theorem Kv (ks:List At):PyData.depthAll (ks.map At.py)<=1:=by
 induction ks with
 | nil=>exact Zm _
 | cons k ks ih=>cases k <;> simp[PyData.depthAll,PyData.depth,At.py] <;> lia
theorem N0 (a b:At):Spec.same a.py b.py=decide (a=b):=by
 cases a <;> cases b <;> simp[At.py,Spec.same]
 ·rfl
 ·exact Bool.eq_iff_iff.mpr ⟨λe=>decide_eq_true (Ah (of_decide_eq_true e)),λe=>decide_eq_true (congrArg _ (of_decide_eq_true e))⟩
theorem Kw (a b:List At):SeqAt.noMixAll (a.map At.py) (b.map At.py)=true:=by
 induction a generalizing b with
 | nil=>cases b <;> rfl
 | cons x a ih=>cases b with
  | nil=>rfl
  | cons y b=>cases x <;> cases y <;> simp[SeqAt.noMixAll,SeqAt.noMix,At.py,ih b]
theorem Fz (ks:List At):SeqAt.shaped (.tuple (ks.map At.py))=true:=by
 have:=Kv ks;simp only[SeqAt.shaped,PyData.canLay0,PyData.depth,Je,Bool.true_and];exact decide_eq_true (Zw (Zb this (Za rfl)))
theorem Kx {x y:List At}{a b:Addr}{A:Around}{E:Value->Shared->Prop}{s:Shared}{Q:Value->Shared->Prop}(hx:(kK g.prog g.w).is s.heap x a)(hy:(kK g.prog g.w).is s.heap y b)(hu:A.units+64<cLine)(h:Q (.bool (decide (x≠y))) s) :
  wpAny (model g.prog g.w) A (compareOp .NotEq (.ref a) (.ref b)) Q E s:=by
 refine eX3 (hx) λoa ia na zz=>aN4 zz λa1 a2 a3 a4=>?_
 refine eX3 (hy) λob ib nb zz=>aN4 zz λb1 b2 b3 b4=>?_
 refine ne_dataH_same (.tuple a1 a2 a3 (IX a4)) (.tuple b1 b2 b3 (IX b4)) (Fz _) (Fz _) hu (Kw _ _) ?_;refine ZN (show Spec.same (.tuple (x.map At.py)) (.tuple (y.map At.py))=decide (x=y)from sameAll_map N0 _ _) ?_;refine ZN decide_not.symm ?_;exact h
theorem Hd {o:CO}{U:MH}{a b:MV}{v:Bool}{x y:Value}{A:Around}{E:Value->Shared->Prop}{s:Shared}{Q:Value->Shared->Prop}(e:CmpR U o a b v)(r:Rel g μ U s)(rm:Room A d k)(va:VRel g μ s.heap a x)(vb:VRel g μ s.heap b y)
  (th:∀ tk,Q (.bool v) { s with toks:=tk }):wpAny (model g.prog g.w) A (compareOp (D4 o) x y) Q E s:=by
 have lists:∀ {a b:MV} {x y:Value} {la lb:List Int},VRel g μ s.heap a x->VRel g μ s.heap b y->((AO U a).bind λl=>l.mapM MV.int?)=some la->((AO U b).bind λl=>l.mapM MV.int?)=some lb ->
   (Q (.bool (decide (la=lb))) s->wpAny (model g.prog g.w) A (compareOp .Eq x y) Q E s)/\(Q (.bool (!decide (la=lb))) s->wpAny (model g.prog g.w) A (compareOp .NotEq x y) Q E s):=λ{a b x y la lb} va vb h1 h2=>by
  obtain⟨l,l1,l2⟩:=bs h1;obtain⟨m,m1,m2⟩:=bs h2;refine eX2 (listItems_at r va l1) λaa ia zz=>aN3 zz λq3 q4 i4=>?_;subst q3;refine eX1 (q4) λoa zz=>aN3 zz λi1 i2 zz=>eX1 zz λna i3=>?_
  refine eX2 (listItems_at r vb m1) λab ib zz=>aN3 zz λq3 q4 j4=>?_;subst q3;refine eX1 (q4) λob zz=>aN3 zz λj1 j2 zz=>eX1 zz λnb j3=>?_
  have same:=Ku la lb;exact⟨λh=>eq_dataH_same (.list i1 i2 i3 (Bk l2 i4).1) (.list j1 j2 j3 (Bk m2 j4).1) (Cr _) (Cr _) rm.line (Fy _ _) (by rw[show Spec.same (.list (la.map PyData.int)) (.list (lb.map PyData.int))=_ from same];exact h),
   λh=>ne_dataH_same (.list i1 i2 i3 (Bk l2 i4).1) (.list j1 j2 j3 (Bk m2 j4).1) (Cr _) (Cr _) rm.line (Fy _ _) (by rw[show Spec.same (.list (la.map PyData.int)) (.list (lb.map PyData.int))=_ from same];exact h)⟩
 have str:∀ a b:String,(Str.ofString a == Str.ofString b)=decide (a=b):=λa b=>by
  by_cases q:a=b
  ·subst q;simp
  ·rw[decide_eq_false q];refine beq_eq_false_iff_ne.mpr ?_;exact λe=>q (Ah e)
 induction e with
 | eqi a b=>obtain⟨_,rfl⟩:=va;obtain⟨_,rfl⟩:=vb;exact PyProof.Rows.eq_int (th _)
 | nei a b=>obtain⟨_,rfl⟩:=va;obtain⟨_,rfl⟩:=vb;exact PyProof.Rows.ne_int (by refine ZN (show (a != b)=decide (a≠b)from by simp[bne];rfl) ?_;exact th s.toks)
 | lti a b=>obtain⟨_,rfl⟩:=va;obtain⟨_,rfl⟩:=vb;exact PyProof.Rows.lt_int (th _)
 | gti a b=>obtain⟨_,rfl⟩:=va;obtain⟨_,rfl⟩:=vb;exact PyProof.Rows.gt_int (th _)
 | lei a b=>obtain⟨_,rfl⟩:=va;obtain⟨_,rfl⟩:=vb;exact PyProof.Rows.le_int (th _)
 | eqs a b=>obtain⟨_,rfl⟩:=va;obtain⟨_,rfl⟩:=vb;exact PyProof.Rows.eq_str (by rw[str];exact th s.toks)
 | nes a b=>obtain⟨_,rfl⟩:=va;obtain⟨_,rfl⟩:=vb;exact PyProof.Rows.ne_str (by rw[bne,str];refine ZN decide_not.symm ?_;exact th s.toks)
 | eqb a b=>cases va;cases vb;exact PyProof.Rows.eq_bool (by refine ZN (show (a == b)=decide (a=b)from by cases a <;> cases b <;> rfl) ?_;exact th s.toks)
 | net a b ka kb h1 h2 =>
  refine eX1 (DS h1 va) λaa zz=>aN4 zz λq2 _ _ ha=>?_;subst q2
  refine eX1 (DS h2 vb) λab zz=>aN4 zz λq2 _ _ hb=>?_;subst q2
  exact Kx ha hb rm.line (th s.toks)
 | isn=>cases va;cases vb;exact wpAny_pure (th s.toks)
 | ist l=>cases vb;obtain⟨_,_,rfl,_⟩:=va;exact wpAny_pure (th s.toks)
 | inl i b l ns hl e1 =>
  refine eX2 (listItems_at r vb hl) λaa ia zz=>aN3 zz λq3 i1 i4=>?_;subst q3
  obtain⟨tk,rfl⟩:=va;refine PyProof.Rows.in_list_ints (by rw[<- By];exact i1) (Bk e1 i4).2 ?_;rw[show (ns.any (· == i))=decide (i∈ns)from by
   refine Bool.eq_iff_iff.mpr ?_;rw[decide_eq_true_eq,List.any_eq_true];exact⟨λ⟨x,h1,h2⟩=>by replace h2:=beq_iff_eq.mp h2;exact h2▸h1,λh=>⟨i,h,by simp⟩⟩]
  exact th s.toks
 | ind a j o r0 ho e1 =>
  obtain⟨_,rfl,hj⟩:=vb;have n:=BH (r.low _ (Zy hj));cases a with
  | int i =>
   obtain⟨tk,rfl⟩:=va;obtain⟨kvs,hd,q⟩:=Eb e1 (r.at ho hj);refine wpAny_in_of (knd:=intKind g.prog g.w) (k:=i) (Bz i tk) n hd.mapOf ?_;rcases q with ⟨rfl,q⟩ | ⟨v,x,rfl,q,_⟩ <;> refine ZN q ?_ <;> exact th _
  | tup l =>
   refine eX2 (Dc e1 (r.at ho hj)) λks xs zz=>aN3 zz λk1 hd q=>?_
   refine eX1 (DS k1 va) λaa zz=>aN4 zz λq2 _ _ ha=>?_;subst q2
   refine wpAny_in_heap (knd:=kK g.prog g.w) (k:=ks) (tupleKind_room_in1 (by have:=rm.line;exact Ze (Nat.add_lt_add_left (Za rfl) _) this)) ha n hd ?_;rcases q with ⟨rfl,q⟩ | ⟨v,b,x,rfl,q,_⟩ <;> refine ZN q ?_ <;> exact th _
  | _=>cases o <;> cases e1
 | nin i j o r0 ho e1 =>
  obtain⟨tk,rfl⟩:=va;obtain⟨_,rfl,hj⟩:=vb;obtain⟨kvs,hd,q⟩:=Eb e1 (r.at ho hj);refine wpAny_notIn_of (knd:=intKind g.prog g.w) (k:=i) (Bz i tk) (BH (r.low _ (Zy hj))) hd.mapOf ?_;rcases q with ⟨rfl,q⟩ | ⟨v,x,rfl,q,_⟩ <;> rw[q] <;> exact th _
 | ins a b c hc =>
  obtain⟨_,rfl⟩:=va;obtain⟨_,rfl⟩:=vb;refine PyProof.Rows.in_str ?_;rw[show Str.ofString a=⟨#[c.toNat]⟩from by rw[Str.ofString_eq_toList,hc];rfl,StrLaws.found_one];rw[show decide (c.toNat∈(Str.ofString b).cps.toList)=decide (c∈b.toList)from by
   rw[Str.ofString_eq_toList];refine Bool.eq_iff_iff.mpr ⟨λh=>decide_eq_true ?_,λh=>decide_eq_true ?_⟩
   ·have h:=of_decide_eq_true h
    obtain⟨c',h1,h2⟩:=ZB (show c.toNat∈b.toList.map Char.toNat from h);rwa [Char.ext (UInt32.toNat_inj.mp h2)]at h1
   ·exact ZE (f:=Char.toNat) (of_decide_eq_true h)]
  exact th s.toks
 | eql a b la lb h1 h2=>exact (lists va vb h1 h2).1 (th s.toks)
 | nel a b la lb h1 h2=>exact (lists va vb h1 h2).2 (th s.toks)
end
section
variable {g:Gl} {μ μ':List Addr} {h h':Heap} {X:CK} {d k:Nat} {sc:Scope}
theorem KU {x:MV}{P:Bool->Prop}(h:isB x P){C:MV->Prop}(k:∀ b,P b->C (.bool b)):C x:=by
 cases x <;> first | exact k _ h | exact h.elim
theorem HG {e:Expr}{t:ME}(h1:Ai X g d k sc e t)(he:autoParam (∀ env whole,isTrue e env whole=(do let v <- whole;standAt e.pos;holding [v] (truthy v))) au):EM X g d k sc e t:=by
 intro env J U K μ A E s Q ev eo er r rm th;refine isTrue_plain (h1 env J U _ μ A E s _ ev eo er r rm λv U' ev μ' s' x x1 r1 st1 v1=>?_) (he _ _);revert v1;refine KU (C:=λv=>VRel g μ' s'.heap v x->_) ev λb kb v1=>?_
 cases v1;exact wpAny_truthy_bool (th b U' kb μ' s' x1 r1 st1)
theorem Ec {o:CO}{a b:Expr}{ta tb:ME}{p:Pos}(h1:Ai X g d k sc a ta)(h2:Ai X g d k sc b tb)(hm:autoParam (behindInMarks (D4 o) b=false) au):Ai X g d k sc (.Compare a [D4 o] [b] p) (.cmp o ta tb):=by
 intro env J U K μ A E s Q ev eo er r rm th;rw[eval_Compare1];refine ZN (markedBehindIn_of_false hm) ?_;refine wpAny_bind (h1 env J U _ μ A E s _ ev eo er r rm λx U₁ ev μ₁ s₁ x' x1 r1 st1 v1=>wpAny_bind (wpAny_holding ?_));refine h2 env J U₁ _ μ₁ A E s₁ _ ev eo (er.ext x1) r1 rm λy U₂ ee μ₂ s₂ y' x2 r2 st2 v2=>?_
 obtain⟨c,e3,kv⟩:=ee;exact wpAny_bind (wpAny_standAt (wpAny_operating (Hd e3 r2 rm (v1.ext x2 LocOk.nil) v2 λtk=>(((th _ _ kv).trans x1 st1).trans x2 st2).tok r2 .bool)))
theorem AX {o:CO}{a b:Expr}{ta tb:ME}{p:Pos}(h1:Ai X g d k sc a ta)(h2:Ai X g d k sc b tb)(hm:autoParam (behindInMarks (D4 o) b=false) au):EM X g d k sc (.Compare a [D4 o] [b] p) (.cmp o ta tb) :=
 λenv J U K μ A E s Q ev eo er r rm th=>wpAny_isTrue_Compare1 (h1 env J U _ μ A E s _ ev eo er r rm λx U₁ ev μ₁ s₁ x' x1 r1 st1 v1=>h2 env J U₁ _ μ₁ A E s₁ _ ev eo (er.ext x1) r1 rm λy U₂ ⟨c,e3,kv⟩ μ₂ s₂ y' x2 r2 st2 v2 =>
  Hd e3 r2 rm (v1.ext x2 LocOk.nil) v2 λtk=>wpAny_truthy_bool (th _ _ kv μ₂ _ (x1.trans x2 λa q=>nomatch q) (r2.grow (Grow.refl _)) (st1.trans (st2.trans ⟨rfl,rfl⟩)))) hm
theorem Jf {o q:CO}{a b c:Expr}{ta tb tc:ME}{p:Pos}(h1:Ai X g d k sc a ta)(h2:Ai X g d k sc b tb)(h3:Ai X g d k sc c tc)(hm:autoParam (lastMarks [D4 o,D4 q] [b,c]=false) au):EM X g d k sc (.Compare a [D4 o,D4 q] [b,c] p) (.chain o q ta tb tc):=by
 intro env J U K μ A E s Q ev eo er r rm th;refine isTrue_chain (h1 env J U _ μ A E s _ ev eo er r rm λx U₁ ev μ₁ s₁ x' x1 r1 st1 v1=>?_) hm;show wpAny _ _ (do
  let rv <- holding [x'] (eval b env)
  standAt p
  let c' <- holding [x',rv] (compareOp (D4 o) x' rv)
  release [x',rv] [c']
  if <- holding [c',rv] (truthy c')then testChain p rv [D4 q] [eval c env]else pure false) _ _ _
 refine wpAny_bind (wpAny_holding (h2 env J U₁ _ μ₁ A E s₁ _ ev eo (er.ext x1) r1 rm λy U₂ ee μ₂ s₂ y' x2 r2 st2 v2=>wpAny_bind (wpAny_standAt (wpAny_bind (wpAny_holding ?_)))));obtain⟨z,e3,ev⟩:=ee;refine Hd e3 r2 rm (v1.ext x2 LocOk.nil) v2 λtk₁=>wpAny_bind (wpAny_release' (wpAny_bind (wpAny_holding (wpAny_truthy_bool ?_))))
 have x12:=x1.trans x2 λa q=>nomatch q
 cases z with
 | false=>exact wpAny_pure (th _ _ ev μ₂ _ x12 (r2.grow (Grow.refl _)) (st1.trans (st2.trans ⟨rfl,rfl⟩)))
 | true =>
  show wpAny _ _ (do
   let rv <- holding [y'] (eval c env)
   standAt p
   let c <- operate [y',rv] (compareOp (D4 q) y' rv)
   holding [c] (truthy c)) _ _ _
  refine wpAny_bind (wpAny_holding (h3 env J U₂ _ μ₂ A E { s₂ with toks:=tk₁ } _ ev eo (er.ext x12) (r2.grow (Grow.refl _)) rm λw U₃ ee μ₃ s₃ z' x3 r3 st3 v3=>wpAny_bind (wpAny_standAt (wpAny_bind (wpAny_operating ?_)))));obtain⟨b,e5,kv⟩:=ee;refine Hd e5 r3 rm (v2.ext x3 LocOk.nil) v3 λtk=>wpAny_holding (wpAny_truthy_bool ?_)
  exact th _ _ kv μ₃ _ (x12.trans x3 λa q=>nomatch q) (r3.grow (Grow.refl _)) (st1.trans (st2.trans (Still.trans (s':={ s₂ with toks:=tk₁ }) ⟨rfl,rfl⟩ (st3.trans ⟨rfl,rfl⟩))))
theorem Ed {a:Expr}{ta:ME}{p:Pos}(h1:EM X g d k sc a ta):EM X g d k sc (.UnaryOp .Not a p) (.not ta) :=
 λenv J U K μ A E s Q ev eo er r rm th=>isTrue_not (h1 env J U (λb U=>K (!b) U) μ A E s _ ev eo er r rm λb U' kb=>th _ _ kb)
theorem Lu {a b:Expr}{ta tb:ME}{p:Pos}(h1:EM X g d k sc a ta)(h2:EM X g d k sc b tb):EM X g d k sc (.BoolOp .And [a,b] p) (.and ta tb) :=
 λenv J U K μ A E s Q ev eo er r rm th=>isTrue_and (h1 env J U (λc U=>match c with | false=>K false U | true=>evK X tb J U λx U=>isB x λb=>K b U) μ A E s _ ev eo er r rm λc U₁ ev μ₁ s₁ x1 r1 st1=>match c,ev with
  | false,ev=>th _ _ ev μ₁ s₁ x1 r1 st1
  | true,ev=>isTrue_and (h2 env J U₁ K μ₁ A E s₁ _ ev eo (er.ext x1) r1 rm λv U₂ kv μ₂ s₂ x2 r2 st2=>match v,th v U₂ kv μ₂ s₂ (x1.trans x2 λa q=>nomatch q) r2 (st1.trans st2)with
   | false,h=>h
   | true,h=>isTrue_and_nil h))
theorem Dv {a b:Expr}{ta tb:ME}{p:Pos}(h1:EM X g d k sc a ta)(h2:EM X g d k sc b tb):EM X g d k sc (.BoolOp .Or [a,b] p) (.or ta tb) :=
 λenv J U K μ A E s Q ev eo er r rm th=>isTrue_or (h1 env J U (λc U=>match c with | true=>K true U | false=>evK X tb J U λx U=>isB x λb=>K b U) μ A E s _ ev eo er r rm λc U₁ ev μ₁ s₁ x1 r1 st1=>match c,ev with
  | true,ev=>th _ _ ev μ₁ s₁ x1 r1 st1
  | false,ev=>isTrue_or (h2 env J U₁ K μ₁ A E s₁ _ ev eo (er.ext x1) r1 rm λv U₂ kv μ₂ s₂ x2 r2 st2=>match v,th v U₂ kv μ₂ s₂ (x1.trans x2 λa q=>nomatch q) r2 (st1.trans st2)with
   | true,h=>h
   | false,h=>isTrue_or_nil h))
theorem KV {a b:Expr}{ta tb:ME}{p:Pos}(h1:Ai X g d k sc a ta)(h2:Ai X g d k sc b tb):Ai X g d k sc (.BoolOp .And [a,b] p) (.and ta tb):=by
 intro env J U K μ A E s Q ev eo er r rm th;refine IsLeap.wpAny_and2 (h1 env J U _ μ A E s _ ev eo er r rm λw U₁ ev μ₁ s₁ x x1 r1 st1 v1=>?_);revert v1;refine KU (C:=λv=>VRel g μ₁ s₁.heap v x->_) ev λc ev v1=>?_
 cases v1;refine wpAny_truthy_bool ?_;cases c with
 | false=>exact th _ _ ev μ₁ s₁ _ x1 r1 st1 .bool
 | true=>exact h2 env J U₁ K μ₁ A E s₁ _ ev eo (er.ext x1) r1 rm λv U' kv=>(th v U' kv).trans x1 st1
theorem Fk {c a b:Expr}{tc ta tb:ME}{p:Pos}(h0:EM X g d k sc c tc)(h1:Ai X g d k sc a ta)(h2:Ai X g d k sc b tb):Ai X g d k sc (.IfExp c a b p) (.ite tc ta tb) :=
 λenv J U K μ A E s Q ev eo er r rm th=>IfExp_ (h0 env J U (λc U=>match c with | true=>evK X ta J U K | false=>evK X tb J U K) μ A E s _ ev eo er r rm λc U₁ ev μ₁ s₁ x1 r1 st1=>match c,ev with
  | false,ev=>h2 env J U₁ K μ₁ A E s₁ _ ev eo (er.ext x1) r1 rm λv U' kv=>(th v U' kv).trans x1 st1
  | true,ev=>h1 env J U₁ K μ₁ A E s₁ _ ev eo (er.ext x1) r1 rm λv U' kv=>(th v U' kv).trans x1 st1)
structure GOk (g:Gl):Prop where
 keep:∀ h:Heap,(∀ (b:Nat) (o:Obj),b≠2->g.h0.get? b=some o->h.get? b=some o)->g.K.In h
 handed:∀ c n v,g.fv c n=some v->handedIn v=true
 dict:∀ c C,g.cl c=some C->∃ cd,clsIn g.K C=some cd/\cd.hasDict=true
 hook:∀ c C,g.cl c=some C->findIn g.K (.ref C) "__getattribute__"=some (some (.builtin "object.__getattribute__"))
 miss:∀ c C,g.cl c=some C->findIn g.K (.ref C) "__getattr__"=some none
 glob:∃ mg mb,g.h0.Ns mainGlobals mg/\g.h0.Ns builtinsNs mb/\(∀ x v,Gn x=some v->mg (Str.ofString x)=none/\mb (Str.ofString x)=some v)/\(∀ c n v,c=""\/c="class"->g.fv c n=some v->mg (Str.ofString n)=some v)
 meth:∀ c C n v,g.cl c=some C->g.fv c n=some v->∃ f,v=.ref f/\n∉attrNames/\findIn g.K (.ref C) (Str.ofString n)=some (some (.ref f))/\typeIn g.K (.ref f)=some (.type "function")
 keeps:∀ c n v,g.fv c n=some v->keepIn g.K v=true
 setattr:∀ c C,g.cl c=some C->findIn g.K (.ref C) "__setattr__"=some (some (.builtin "object.__setattr__"))/\plainOver g.K C=true
 attr:∀ c C n,g.cl c=some C->n∈attrNames->findIn g.K (.ref C) (Str.ofString n)=some none
theorem Rel.K {U:MH}{s:Shared}(G:GOk g)(r:Rel g μ U s):g.K.In s.heap:=G.keep _ r.base
theorem ARel.at {l:List (String×MV)}{es:List DictEntry}(r:ARel g μ h l es)(n:String) :
  (l.lookup n=none/\es.find? (·.key.isStr (Str.ofString n))=none)\/∃ v e,l.lookup n=some v/\es.find? (·.key.isStr (Str.ofString n))=some e/\VRel g μ h v e.val:=by
 induction r with
 | nil=>exact .inl ⟨rfl,rfl⟩
 | @cons m v t e r es a b _ ih =>
  have hs:e.key.isStr (Str.ofString n)=decide (m=n):=by
   refine ZN a ?_;show (Str.ofString m == Str.ofString n)=_
   by_cases q:m=n
   ·subst q;simp
   ·refine ZN (decide_eq_false q) ?_;refine beq_eq_false_iff_ne.mpr ?_;exact λe=>q (Ah e)
  by_cases q:m=n
  ·subst q
   exact .inr ⟨v,e,by simp,by refine ZO (List.find?_cons) ?_;refine ZN hs ?_;simp,b⟩
  ·refine ZN List.lookup_cons ?_;refine ZN (show (n == m)=false from beq_eq_false_iff_ne.mpr λe=>q e.symm) ?_;refine ZN (List.find?_cons) ?_;refine ZN hs ?_;refine ZN (decide_eq_false q) ?_
   exact ih
theorem ARel.noRef {l:List (String×MV)}{es:List DictEntry}(r:ARel g μ h l es):es.any (·.refKey)=false:=by
 induction r with
 | nil=>rfl
 | cons a _ _ ih =>
  refine ZO List.any_cons ?_;refine ZN ih ?_;rw[Bool.or_false];unfold DictEntry.refKey;rw[a]
theorem Ky {G:GOk g}{v:MV}{x:Value}(vr:VRel g μ h v x):handedIn x=true:=by
 cases v with
 | none=>refine ZN (show x=.none from vr) ?_;rfl
 | bool b=>refine ZN (show x=.bool b from vr) ?_;rfl
 | int i=>obtain⟨_,rfl⟩:=vr;rfl
 | str i=>obtain⟨_,rfl⟩:=vr;rfl
 | fn c n=>exact G.handed _ _ _ vr
 | tup l=>obtain⟨_,_,rfl,_⟩:=vr;rfl
 | fl l=>obtain⟨_,_,rfl,_⟩:=vr;rfl
 | ref i=>obtain⟨_,rfl,_⟩:=vr;rfl
 | obj c i=>refine eX3 (vr) λ_ _ _ zz=>aN2 zz λq4 _=>?_;subst q4;rfl
theorem He {U:MH}{s:Shared}(r:Rel g μ U s){c:String}{i:Nat}{y:Value}(vr:VRel g μ s.heap (.obj c i) y){l:List (String×MV)}(ho:U[i]? = some (.attrs l)) :
  ∃ x C dd es n,y=.ref x/\g.cl c=some C/\μ[i]? = some dd/\(l.length<=100/\(∀ p∈l,p.1∈attrNames)/\(l.map (·.1)).Nodup)/\ARel g μ s.heap l es.toList/\x∉μ/\2<x/\s.heap.get? x=some (instObj C dd)/\s.heap.get? dd=some { cls:=.type "dict",data:=.dict es n } /\
   InstAt s.heap x (instObj C dd) C (some { cls:=.type "dict",data:=.dict es n }):=by
 refine eX3 (vr) λC dd x zz=>aN6 zz λq4 h1 h2 h3 h4 h5=>?_;subst q4
 refine aN2 (r.at ho h3) λhz zz=>eX2 zz λes n zz=>aN2 zz λh6 h7=>?_
 exact⟨x,C,dd,es,n,rfl,h1,h3,hz,h7,h4,h5,h2,h6,⟨h2,rfl,rfl,h6⟩⟩
theorem Lv {U:MH}{s:Shared}(G:GOk g)(r:Rel g μ U s){c n:String}{i:Nat}{y:Value}{A:Around}{E:Value->Shared->Prop}{Q:Value->Shared->Prop}{ex:Bool}(vr:VRel g μ s.heap (.obj c i) y){l:List (String×MV)}(ho:U[i]? = some (.attrs l))
  {v:MV} (hn:n∈attrNames) (hv:l.lookup n=some v) (th:Then g μ s v U Q):wpAny (model g.prog g.w) A (getAttr y (Str.ofString n) ex) Q E s:=by
 refine eX5 (He r vr ho) λx C dd es m zz=>PZ zz λq6 hc hi hz ha hx hx2 e1 e2 I=>?_;subst q6
 obtain⟨cd,hcd,hd⟩:=G.dict _ _ hc;rcases ha.at n with ⟨q,_⟩ | z0
 ·replace q:=ZO hv.symm q;cases q
 ·refine eX2 (z0) λv' e zz=>aN3 zz λq q2 q3=>?_
  replace q:=ZO hv.symm q;cases q;refine get_value (v:=e.val) (r.K G) I (G.hook _ _ hc) ?_ (Ky (G:=G) q3) (th.tok r q3);unfold findObj;refine ZN hcd ?_;rw[Option.bind_some];refine ZN (G.attr _ _ _ hc hn) ?_;rw[Option.bind_some,Option.bind_some,Option.bind_some];dsimp only;unfold W.ownOf lookIn;refine ZN hd ?_;refine ZN (if_pos rfl) ?_;dsimp only;refine ZN q2 ?_;rfl
theorem AN {e:Expr}{t:ME}{n:String}{p:Pos}(G:GOk g)(h1:Ai X g d k sc e t)(hn:autoParam (attrNames.elem n=true) au)(hb:autoParam (∀ env whole,attributeBase e (Str.ofString n) env whole=whole) au):Ai X g d k sc (.Attribute e (Str.ofString n) p) (.attr t n):=by
 intro env J U K μ A E s Q ev eo er r rm th;show wpAny _ _ (do
  let o <- attributeBase e (Str.ofString n) env (eval e env)
  standAt p.atName
  let r <- holding [o] (getAttr o (Str.ofString n) true)
  letTemporaryGo e o r
  pure r) _ _ _
 rw[hb];refine wpAny_bind (h1 env J U _ μ A E s _ ev eo er r rm λx U₁ ev μ₁ s₁ x' x1 r1 st1 v1=>wpAny_bind (wpAny_standAt (wpAny_bind (wpAny_holding ?_))));refine eX4 (ev) λc i l v zz=>aN4 zz λq5 hl hv kv=>?_;subst q5
 exact Lv G r1 v1 hl (List.mem_of_elem_eq_true hn) hv λμ₂ s₂ y x2 r2 st2 v2=>wpAny_bind (wpAny_letTemporaryGo (wpAny_pure (((th _ _ kv).trans x1 st1) μ₂ s₂ y x2 r2 st2 v2)))
end
section
variable {g:Gl} {μ μ':List Addr} {h h':Heap} {X:CK} {d k:Nat} {sc:Scope}
noncomputable def Big (h:Heap):Prop:=∃ (L:Nat) (o:Obj),2<L/\h.get? L=some o
theorem EnvRel.big {J:ME'}{env:Env}(E:EnvRel g μ J env h):Big h:=by
 refine eX4 (E.ns) λm o es ep zz=>aN2 zz λe _=>?_
 exact⟨env.locals,o,E.l2,e⟩
theorem Big.size (b:Big h):2<h.objs.size:=by
 refine eX2 (b) λL o zz=>aN2 zz λh2 e=>?_
 exact Ze h2 (Heap.lt_size e)
theorem Big.keeps (b:Big h)(k:∀ (b:Nat)(o:Obj),b≠2->h.get? b=some o->h'.get? b=some o):Big h':=by
 refine eX2 (b) λL o zz=>aN2 zz λh2 e=>?_
 exact⟨L,o,h2,k L o (Zf h2) e⟩
theorem Big.ext {loc:List Addr}(b:Big h)(x:Ext loc μ μ' h h'):Big h':=by
 refine eX2 (b) λL o zz=>aN2 zz λh2 e=>?_
 obtain⟨o',e'⟩:=x.alive L o (Zf h2) e;exact⟨L,o',h2,e'⟩
theorem VRels.arr {vs:List MV}{ia:Array Value}(r:VRels g μ h vs ia.toList):vs.length=ia.size:=by refine ZO r.length ?_;simp
theorem VRels.at {vs:List MV}{ia:Array Value}(r:VRels g μ h vs ia.toList){i:Nat}{v:MV}(e:vs[i]? = some v):∃ x,ia[i]? = some x/\VRel g μ h v x:=by
 refine eX1 (r.get e) λx zz=>aN2 zz λe1 e2=>?_
 exact⟨x,by refine ZO (Array.getElem?_toList).symm ?_;exact e1,e2⟩
theorem O2 {U:MH}{o i v:MV}{x y:Value}{value slice:Expr}{A:Around}{E:Value->Shared->Prop}{s:Shared}{Q:Value->Shared->Prop}(e:IdxR U o i v)(r:Rel g μ U s)(rm:Room A d k)
  (vo:VRel g μ s.heap o x) (vi:VRel g μ s.heap i y) (hs:∀ o i,subscripted slice false o i=operate [o,i] (getItem o i)) (th:Then g μ s v U Q):wpAny (model g.prog g.w) A (subscriptTail value slice x y) Q E s:=by
 have lst:∀ {a:Addr} {ia:Array Value} {l:List MV} {i:Nat} {v:MV} {y:Value},VRel g μ s.heap (.int i) y->IsLx s.heap a ia->VRels g μ s.heap l ia.toList->i<2 ^ 60->l[i]? = some v->Then g μ s v U Q->wpAny (model g.prog g.w) A (subscriptTail value slice (.ref a) y) Q E s:=λvi i1 i4 hi e th=>by
  obtain⟨_,rfl⟩:=vi;refine eX1 (i4.at e) λz zz=>aN2 zz λe1 e2=>?_
  exact tail_any i1.list.typeIs slot_list_getitem.lookup (wpAny_getItem_list i1.list (Int.natCast_nonneg _) (Int.lt_trans (Int.ofNat_lt.mpr hi) (by decide)) e1 (th.now r e2)) (hs _ _)
 induction e with
 | tup l i v hi e =>
  refine eX2 (vo) λta ia zz=>aN5 zz λq3 i1 i2 i3 i4=>?_;subst q3
  obtain⟨_,rfl⟩:=vi;refine eX1 (i4.at e) λz zz=>aN2 zz λe1 e2=>?_
  have hlt:i<ia.size:=(Array.getElem?_eq_some_iff.mp e1).1;exact tail_any (IsTup.typeIs i1) slot_tuple_getitem.lookup (PyProof.Rows.getItem_tuple i1 (by lia) (by lia) (seqIndex_of (Int.natCast_nonneg _) (Int.ofNat_lt.mpr hlt)) e1 (th.now r e2)) (hs _ _)
 | fl l i v hi e =>
  refine eX2 (vo) λta ia zz=>aN5 zz λq3 i1 i2 i3 i4=>?_;subst q3
  exact lst vi i1 i4 hi e th
 | str z c rest hc =>
  obtain⟨_,rfl⟩:=vo;obtain⟨_,rfl⟩:=vi;refine tail_any (typeIs_str s _ _) PySem.F.slot_str_getitem.lookup (PyProof.Rows.getItem_str (c:=c.toNat) (by decide) ?_ ?_) (hs _ _)
  ·rw[Str.ofString_eq_toList];refine ZN hc ?_;refine ZN (seqIndex?_zero (by simp[Str.length])) ?_
   rfl
  ·refine ZN (show (⟨#[c.toNat]⟩:Str)=Str.ofString (String.ofList [c])from by rw[Str.ofString_eq_toList];simp) ?_
   exact th.tok r .str
 | lst j l i v ho hi e =>
  refine eX1 (vo) λ_ zz=>aN2 zz λq2 hj=>?_;subst q2
  refine aN2 (r.at ho hj) λ_ zz=>eX1 zz λia zz=>aN2 zz λi1 i4=>?_
  exact lst vi i1 i4 hi e th
 | dct j o i v ho e1 =>
  refine eX1 (vo) λ_ zz=>aN2 zz λq2 hj=>?_;subst q2
  cases i with
  | int i =>
   obtain⟨tk,rfl⟩:=vi;refine eX1 (Eb e1 (r.at ho hj)) λkvs zz=>aN2 zz λhd q=>?_
   rcases q with ⟨q,_⟩ | z0
   ·cases q
   ·refine eX2 (z0) λv' z zz=>aN3 zz λq q2 q3=>?_
    cases q;exact tail_any hd.mapOf.typeIs slot_dict_getitem.lookup (wpAny_getItem_of (knd:=intKind g.prog g.w) (Bz _ tk) hd.mapOf q2 (th.tok r q3)) (hs _ _)
  | tup l =>
   refine eX2 (Dc e1 (r.at ho hj)) λks xs zz=>aN3 zz λk1 hd q=>?_
   refine eX1 (DS k1 vi) λaa zz=>aN4 zz λq2 _ _ ha=>?_;subst q2
   rcases q with ⟨q,_⟩ | z0
   ·cases q
   ·refine eX3 (z0) λv' b z zz=>aN3 zz λq q2 q3=>?_
    cases q;exact tail_any hd.typeIs slot_dict_getitem.lookup (wpAny_getItem_heap (knd:=kK g.prog g.w) (tupleKind_room_in1 (by have:=rm.line;exact Ze (Nat.add_lt_add_left (Za rfl) _) this)) ha hd q2 (th.tok r q3)) (hs _ _)
  | _=>cases o <;> cases e1
theorem AQ {a b:Expr}{ta tb:ME}{p:Pos}(h1:Ai X g d k sc a ta)(h2:Ai X g d k sc b tb)(hs:autoParam (∀ o i,subscripted b false o i=operate [o,i] (getItem o i)) au):Ai X g d k sc (.Subscript a b p) (.idx ta tb):=by
 intro env J U K μ A E s Q ev eo er r rm th;exact Subscript_ (h1 env J U _ μ A E s _ ev eo er r rm λx U₁ ev μ₁ s₁ x' x1 r1 st1 v1=>h2 env J U₁ _ μ₁ A E s₁ _ ev eo (er.ext x1) r1 rm λy U₂ ⟨v,e3,kv⟩ μ₂ s₂ y' x2 r2 st2 v2 =>
  O2 e3 r2 rm (v1.ext x2 LocOk.nil) v2 hs (((th _ _ kv).trans x1 st1).trans x2 st2))
theorem HH {U:MH}{s:Shared}(r:Rel g μ U s)(o:Obj):(s.heap.push o).objs.size∉μ/\(s.heap.push o).objs.size∉g.av:=by
 have dead:∀ x,s.heap.get? (s.heap.push o).objs.size≠some x:=λx e=>by
  have:=Heap.lt_size e;rw[Heap.size_push]at this;exact absurd (show (s.heap.objs.size+1:Nat)<s.heap.objs.size from this) (Zp (Zj (Zg _)))
 exact⟨λq=>(r.live _ q).elim dead,λq=>(r.avl _ q).2.2.elim dead⟩
theorem IY (h2:2<h.objs.size)(o:Obj):2<(h.push o).objs.size:=by rw[Heap.size_push];exact Zi h2
theorem BE {a:Expr}{ta:ME}{p q p1:Pos}{j:Nat}(h1:Ai X g d k sc a ta):Ai X g d k sc (.Subscript a (.Slice (some (.Constant (.int 1) j p1)) none none q) p) (.from1 ta):=by
 intro env J U K μ A E s Q ev eo er r rm th;refine Subscript_ (h1 env J U _ μ A E s _ ev eo er r rm λx U₁ ee μ₁ s₁ x' x1 r1 st1 v1=>wpAny_Slice ?_);refine eX1 (ee) λl zz=>aN3 zz λex hz kv=>?_
 subst ex;rw[evalPart_some,evalPart_none];refine wpAny_mkInt (wpAny_pure (wpAny_pure ?_));refine eX2 (v1) λta ia zz=>aN5 zz λq3 i1 i2 i3 i4=>?_;subst q3
 have hl:l.length=ia.size:=i4.arr
 have i1':IsTup (s₁.heap.push { cls:=.type "slice",data:=.fields #[.int 1 s₁.toks,.none,.none] }) ta ia:=IsTup.keeps i1 λ_ _ e=>Heap.get?_push_of_some _ e
 refine tail_any (s:={ s₁ with heap:=s₁.heap.push _,toks:=s₁.toks+1 }) (IsTup.typeIs i1') slot_tuple_getitem.lookup (getItem_tuple_from (a:=1) i1' (Heap.IsSliceOf.new ..) (Zg _) (le_of_le_of_eq hz.1 hl) ?_ (by refine ZN hl.symm ?_;refine ZN sizeLine_eq ?_;exact Zc hz.2 (by decide))) rfl;have gr:Grow s₁.heap ((s₁.heap.push { cls:=.type "slice",data:=.fields #[.int 1 s₁.toks,.none,.none] }).push { cls:=.type "tuple",data:=.seq (ia.toList.drop 1).toArray }):=(Grow.push _ _).trans (Grow.push _ _);exact ((th _ _ kv).trans x1 st1).grow r1 gr ⟨rfl,rfl⟩ (.tup ⟨_,Heap.get?_push_size _ rfl,rfl,0,rfl⟩ (HH r1 _).1 (IY ((er.ext x1).big.size) _) ((i4.drop 1).ext (gr.ext [] μ₁) LocOk.nil))
theorem Lw {a:Expr}{ta:ME}{p q p1:Pos}{j:Nat}{n:Nat}(h1:Ai X g d k sc a ta):Ai X g d k sc (.Subscript a (.Slice none (some (.Constant (.int n) j p1)) none q) p) (.upto ta n):=by
 intro env J U K μ A E s Q ev eo er r rm th;refine Subscript_ (h1 env J U _ μ A E s _ ev eo er r rm λx U₁ ee μ₁ s₁ x' x1 r1 st1 v1=>wpAny_Slice ?_);refine eX1 (ee) λl zz=>aN3 zz λex hz kv=>?_
 subst ex;rw[evalPart_some,evalPart_none];refine wpAny_pure ?_;refine wpAny_mkInt (wpAny_pure ?_);refine eX2 (v1) λta ia zz=>aN5 zz λq3 i1 i2 i3 i4=>?_;subst q3
 have i1':(s₁.heap.push { cls:=.type "slice",data:=.fields #[.none,.int n s₁.toks,.none] }).IsList ta ia:=i1.list.push _;refine tail_any (s:={ s₁ with heap:=s₁.heap.push _,toks:=s₁.toks+1 }) (Heap.IsList.typeIs (s:={ s₁ with heap:=s₁.heap.push _,toks:=s₁.toks+1 }) i1') slot_list_getitem.lookup
  (wpAny_getItem_list_slice (s:={ s₁ with heap:=s₁.heap.push _,toks:=s₁.toks+1 }) (lo:=none) (hi:=some n) (st:=none) i1' (Heap.IsSliceOf.new ..) .none (.int _ _) .none (by decide) ?_ (by refine ZN (show l.length=ia.size from i4.arr).symm ?_;refine ZN sizeLine_eq ?_;exact Zc hz (by decide))) rfl
 rw[slicePick_upto'];have gr:Grow s₁.heap ((s₁.heap.push { cls:=.type "slice",data:=.fields #[.none,.int n s₁.toks,.none] }).push { cls:=.type "list",data:=.seq (ia.toList.take n).toArray }):=(Grow.push _ _).trans (Grow.push _ _);exact ((th _ _ kv).trans x1 st1).grow r1 gr ⟨rfl,rfl⟩ (.fl ⟨0,Heap.get?_push_size _ rfl⟩ (HH r1 _) (IY ((er.ext x1).big.size) _) ((i4.take n).ext (gr.ext [] μ₁) LocOk.nil))
end
section
variable {g:Gl} {μ μ':List Addr} {h h':Heap} {X:CK} {d k:Nat} {sc:Scope}
theorem Hf {α β:Type}{f:α->Option β}:∀ {l:List α}{r:List β},l.mapM f=some r->l.length=r.length/\∀ (i:Nat)(x:α),l[i]? = some x->∃ y,r[i]? = some y/\f x=some y:=by
 intro l
 induction l with
 | nil=>intro r e;cases e;exact⟨rfl,by simp⟩
 | cons a l ih =>
  intro r e;simp only[List.mapM_cons,Option.bind_eq_bind,Option.bind_eq_some_iff,Option.pure_def,Option.some.injEq]at e;refine eX1 (e) λt zz=>aN2 zz λe1 zz=>eX1 zz λts zz=>aN2 zz λe2 q5=>?_;subst q5
  obtain⟨h1,h2⟩:=ih e2;refine⟨by simp[h1],λi x hx=>?_⟩;cases i with
  | zero=>simp at hx;subst hx;exact⟨t,rfl,e1⟩
  | succ i=>simp at hx;obtain⟨y,a,b⟩:=h2 i x hx;exact⟨y,by simpa using a,b⟩
theorem Ee {ns:List Int}:∀ {vs:List Value},IntsAre vs ns->∀ (i:Nat)(v:Value),vs[i]? = some v->∃ t,v=.int (ns.getD i 0) t:=by
 induction ns with
 | nil=>intro vs a;cases a;intro i v e;simp at e
 | cons n ns ih =>
  intro vs a;cases a with
  | cons n t b =>
   intro i v e;cases i with
   | zero=>simp at e;subst e;exact⟨t,rfl⟩
   | succ i=>simp at e;obtain⟨u,hu⟩:=ih b i v e;exact⟨u,by simpa using hu⟩
theorem FW (ns:List Int):∀ j,j<=ns.length->preSum (λi=>ns.getD i 0) j=(ns.take j).sum:=by
 intro j
 induction j with
 | zero=>intro _;simp[preSum]
 | succ j ih =>
  intro hj;rw[preSum];refine ZN (ih (Zl hj)) ?_;refine ZN (List.take_succ_eq_append_getElem (by assumption)) ?_;refine ZN List.sum_append ?_;simp[List.getD_eq_getElem?_getD,ZI (show j<ns.length by assumption)]
theorem Kz (ns:List Int)(h1:(ns.all λi=>decide (0<=i/\i<2 ^ 40))=true):0<=ns.sum/\ns.sum<=ns.length * 2 ^ 40:=by
 induction ns with
 | nil=>simp
 | cons n ns ih =>
  simp only[List.all_cons,Bool.and_eq_true,decide_eq_true_eq]at h1;have:=ih h1.2;simp only[List.sum_cons,List.length_cons];lia
theorem O3 {ns:List Int}{U:MH}{s:Shared}{v:MV}{l:List MV}{x:Value}{A:Around}{E:Value->Shared->Prop}{Q:Value->Shared->Prop}(r:Rel g μ U s)(rm:Room A d k)(va:VRel g μ s.heap v x)(hl:AO U v=some l)(hm:l.mapM MV.int? = some ns)
  (hz:ns.length<=1000) (hb:(ns.all λi=>decide (0<=i/\i<2 ^ 40))=true) (th:Then g μ s (.int ns.sum) U Q):wpAny (model g.prog g.w) A (call (.builtin "sum") [x]) Q E s:=by
 refine eX2 (listItems_at r va hl) λaa ia zz=>aN3 zz λq3 i1 i4=>?_;subst q3
 have hlen:ia.size=ns.length:=by refine ZO i4.arr.symm ?_;exact (Hf hm).1
 refine call_sum_walk (wpAny_pyIter_list i1 ?_);have live:aa<s.heap.objs.size:=by obtain⟨o,e,_⟩:=i1;exact Heap.lt_size e
 refine⟨_,_,_,_,_,_,λi=>ns.getD i 0,rfl,Walks.list (A:=A.in1) rm.handled s.heap.objs.size aa (Zk live) ia,⟨⟨_,Heap.get?_push_size _ rfl,rfl,rfl⟩,i1.push _⟩,?_,?_,?_,?_⟩
 ·intro b hb
  rw[Heap.size_push];simp only[List.mem_cons,List.not_mem_nil,or_false]at hb;rcases hb with rfl | rfl
  ·exact Zo _
  ·exact Zi live
 ·intro i v e
  exact Ee ((Bk hm i4).2) i v (by refine ZO (Array.getElem?_toList) ?_;exact e)
 ·intro j hj
  rw[hlen]at hj;have hh:=List.all_eq_true.mp hb
  have h1:decide (0<=ns[j]/\ns[j]<2 ^ 40)=true:=hh _ (List.getElem_mem hj)
  have h1:=of_decide_eq_true h1
  have e:ns.getD j 0=ns[j]:=by simp[List.getD_eq_getElem?_getD,ZI hj]
  have h2:=Kz (ns.take (j+1)) (List.all_eq_true.mpr λx hx=>hh x (List.mem_of_mem_take hx))
  have h3:(ns.take (j+1)).length<=1000:=by refine ZN List.length_take ?_;exact Zc (Nat.min_le_right _ _) hz
  unfold InLong;refine ZN ((FW ns (j+1) (Zw hj))) ?_;show (-2 ^ 63<=ns.getD j 0/\ns.getD j 0<2 ^ 63)/\_;refine ZN e ?_;have h5:((ns.take (j+1)).length:Int) * 2 ^ 40<=1000 * 2 ^ 40:=by lia
  lia
 ·intro h' tk t' kp
  have h4:preSum (λi=>ns.getD i 0) ia.size=ns.sum:=by refine ZN hlen ?_;refine ZO (FW ns _ (Zg _)) ?_;rw[List.take_length]
  refine ZN h4 ?_;have gr:Grow s.heap h':=Grow.of_keep λb o e=>kp b o (by
   simp only[List.mem_singleton];exact Zk (Heap.lt_size e)) (Heap.get?_push_of_some _ e)
  exact th.grow r (s':={ s with heap:=h',toks:=tk }) gr ⟨rfl,rfl⟩ VRel.int
theorem IZ (ns:List Int):∀ k,k<ns.length->argBest (λi j=>decide (ns.getD i 0 > ns.getD j 0)) k<ns.length/\(ns.take (k+1)).max? = some (ns.getD (argBest (λi j=>decide (ns.getD i 0 > ns.getD j 0)) k) 0):=by
 intro k
 induction k with
 | zero =>
  intro hk;refine⟨hk,?_⟩;cases ns with
  | nil=>simp at hk
  | cons n ns=>simp[argBest,List.max?]
 | succ k ih =>
  intro hk;obtain⟨h1,h2⟩:=ih (Ze (Zo _) hk);have g1:ns.getD (k+1) 0=ns[k+1]:=by simp[List.getD_eq_getElem?_getD,ZI hk]
  have e2:(ns.take (k+1+1)).max? = some (max (ns.getD (argBest (λi j=>decide (ns.getD i 0 > ns.getD j 0)) k) 0) ns[k+1]):=by
   refine ZN ((List.take_succ_eq_append_getElem hk)) ?_;cases hns:ns.take (k+1)with
   | nil=>rw[hns]at h2;simp at h2
   | cons a r =>
    rw[hns]at h2;replace h2:=ZO (List.max?_cons').symm h2;refine ZN List.cons_append ?_;refine ZN (List.max?_cons') ?_;refine ZN List.foldl_append ?_;simp only[Option.some.injEq]at h2;refine ZN h2 ?_;rfl
  refine ZN e2 ?_;refine ZN (show argBest (λi j=>decide (ns.getD i 0 > ns.getD j 0)) (k+1)=if decide (ns.getD (k+1) 0 > ns.getD (argBest (λi j=>decide (ns.getD i 0 > ns.getD j 0)) k) 0)then k+1 else argBest (λi j=>decide (ns.getD i 0 > ns.getD j 0)) k from rfl) ?_
  by_cases q:ns.getD (k+1) 0 > ns.getD (argBest (λi j=>decide (ns.getD i 0 > ns.getD j 0)) k) 0
  ·refine ZN (decide_eq_true q) ?_;refine ZN (if_pos rfl) ?_
   exact⟨hk,by rw[g1]at q ⊢;congr 1;lia⟩
  ·refine ZN (decide_eq_false q) ?_;refine ZN (if_neg (by decide)) ?_
   exact⟨h1,by rw[g1]at q;congr 1;lia⟩
theorem O4 {ns:List Int}{m:Int}{U:MH}{s:Shared}{v:MV}{l:List MV}{x:Value}{A:Around}{E:Value->Shared->Prop}{Q:Value->Shared->Prop}(r:Rel g μ U s)(rm:Room A d k)(va:VRel g μ s.heap v x)(hl:AO U v=some l)(hm:l.mapM MV.int? = some ns)
  (hx:ns.max? = some m) (th:Then g μ s (MV.int m) U Q):wpAny (model g.prog g.w) A (call (.builtin "max") [x]) Q E s:=by
 refine eX2 (listItems_at r va hl) λaa ia zz=>aN3 zz λq3 i1 i4=>?_;subst q3
 have hlen:ia.size=ns.length:=by refine ZO i4.arr.symm ?_;exact (Hf hm).1
 have hpos:0<ns.length:=by cases ns with | nil=>simp at hx | cons=>simp
 refine call_max_walk (wpAny_pyIter_list i1 ?_);have live:aa<s.heap.objs.size:=by obtain⟨o,e,_⟩:=i1;exact Heap.lt_size e
 have vals:∀ (i:Nat) (v:Value),ia[i]? = some v->∃ t,v=Value.int (ns.getD i 0) t:=λi v e=>Ee ((Bk hm i4).2) i v (by refine ZO (Array.getElem?_toList) ?_;exact e)
 refine⟨_,_,_,_,_,_,λi j=>decide (ns.getD i 0 > ns.getD j 0),rfl,Walks.list (A:=A.in1) rm.handled s.heap.objs.size aa (Zk live) ia,⟨⟨_,Heap.get?_push_size _ rfl,rfl,rfl⟩,i1.push _⟩,?_,lt_of_lt_of_eq hpos hlen.symm,CmpOf.ints_gt (λi=>ns.getD i 0) vals,?_⟩
 ·intro b hb
  rw[Heap.size_push];simp only[List.mem_cons,List.not_mem_nil,or_false]at hb;rcases hb with rfl | rfl
  ·exact Zo _
  ·exact Zi live
 ·intro v h' tk hv kp
  obtain⟨t,rfl⟩:=vals _ _ hv;obtain⟨a,b⟩:=IZ ns (ia.size - 1) (Zd (Nat.sub_lt (lt_of_lt_of_eq hpos hlen.symm) (Za rfl)) (Nat.le_of_eq hlen));rw[show ia.size - 1+1=ns.length from by lia,List.take_length]at b;replace b:=ZO hx.symm b;injection b with b
  refine ZN b.symm ?_;have gr:Grow s.heap h':=Grow.of_keep λb o e=>kp b o (by
   simp only[List.mem_singleton];exact Zk (Heap.lt_size e)) (Heap.get?_push_of_some _ e)
  exact th.grow r (s':={ s with heap:=h',toks:=tk }) gr ⟨rfl,rfl⟩ VRel.int
theorem Lx {U:MH}{s:Shared}{v:MV}{l:List MV}{x:Value}{A:Around}{E:Value->Shared->Prop}{Q:Value->Shared->Prop}(r:Rel g μ U s)(bg:Big s.heap)(va:VRel g μ s.heap v x)(hl:items U v=some l)(hz:l.length<=big)
  (th:Then g μ s (.tup l) U Q):wpAny (model g.prog g.w) A (call (.type "tuple") [x]) Q E s:=by
 by_cases hv:∃ l,v=.tup l
 ·obtain⟨l',rfl⟩:=hv
  cases hl;refine eX2 (va) λa it zz=>aN5 zz λq3 i1 n1 n2 i4=>?_;subst q3
  exact call_tuple_same i1 (th.now r (.tup i1 n1 n2 i4))
 ·have hl':AO U v=some l:=by
   cases v <;> first | exact hl | (exfalso;exact hv ⟨_,rfl⟩)
  refine eX2 (listItems_at r va hl') λaa ia zz=>aN3 zz λq3 i1 i4=>?_;subst q3
  refine call_tuple_list i1 (λh' kp=>?_) (by refine ZN i4.arr.symm ?_;refine ZN sizeLine_eq ?_;exact Zc hz (by decide));have gr0:Grow s.heap h':=Grow.of_keep kp
  have gr:Grow s.heap (h'.push { cls:=.type "tuple",data:=.seq ia }):=gr0.trans (Grow.push _ _);refine th.grow r (s':={ s with heap:=h'.push _ }) gr ⟨rfl,rfl⟩ (.tup ⟨_,Heap.get?_push_size _ rfl,rfl,0,rfl⟩ ?_ (bg.keeps gr0.keep).size (i4.ext (gr.ext [] μ) LocOk.nil));exact BQ (s:={ s with heap:=h' }) (r.grow gr0)
theorem O5 {w:MV}{U:MH}{s:Shared}{v:MV}{x:Value}{A:Around}{E:Value->Shared->Prop}{Q:Value->Shared->Prop}(r:Rel g μ U s)(va:VRel g μ s.heap v x)(e:BiP U .len v w)(th:Then g μ s w U Q) :
  wpAny (model g.prog g.w) A (call (.builtin "len") [x]) Q E s:=by
 rcases e with z0 | z0 | z0
 ·obtain⟨l,hi,hz,rfl⟩:=z0
  by_cases hv:∃ l,v=.tup l
  ·obtain⟨l',rfl⟩:=hv
   cases hi;refine eX2 (va) λa it zz=>aN5 zz λq3 i1 _ _ i4=>?_;subst q3
   rw[i4.arr]at th hz;exact PyProof.Rows.len_tuple i1 (by unfold big at hz;lia) (th.tok r .int)
  ·have hl':AO U v=some l:=by
    cases v <;> first | exact hi | (exfalso;exact hv ⟨_,rfl⟩)
   refine eX2 (listItems_at r va hl') λaa ia zz=>aN3 zz λq3 i1 i4=>?_;subst q3
   rw[i4.arr]at th hz;exact Calls.call_len_list i1 (by unfold big at hz;lia) (th.tok r .int)
 ·obtain⟨i,rfl,ho,rfl⟩:=z0
  obtain⟨a,rfl,hj⟩:=va;obtain⟨n,hn⟩:=r.at ho hj;exact call_len_dict (knd:=intKind g.prog g.w) (kvs:=[]) (BH (r.low _ (Zy hj))) ⟨_,#[],n,hn,⟨rfl,rfl,rfl⟩,rfl,λ_ hx=>by simp at hx,.nil,.nil⟩ (by decide) (th.tok r .int)
 ·obtain⟨i,l,rfl,ho,rfl⟩:=z0
  obtain⟨a,rfl,hj⟩:=va;obtain⟨hz,kvs,hd,hk⟩:=r.at ho hj;have hlen:l.length=kvs.length:=by
   clear hz hd ho th
   induction hk with
   | nil=>rfl
   | cons _ _ ih=>simp[ih]
  rw[hlen]at th hz;exact call_len_dict (knd:=intKind g.prog g.w) (BH (r.low _ (Zy hj))) hd (by unfold big at hz;lia) (th.tok r .int)
theorem N1 (n:Nat)(h:n<1000):n.log2<1920:=by
 by_cases q:n=0
 ·subst q;decide
 ·have:n.log2<10:=(Nat.log2_lt q).mpr (Ze h (Za rfl))
  exact Ze this (Za rfl)
theorem O6 {i:Int}{U:MH}{s:Shared}{x:Value}{A:Around}{E:Value->Shared->Prop}{Q:Value->Shared->Prop}(r:Rel g μ U s)(va:VRel g μ s.heap (.int i) x)(hi:0<=i/\i<1000)(th:Then g μ s (.str (toString i.toNat)) U Q) :
  wpAny (model g.prog g.w) A (call (.type "str") [x]) Q E s:=by
 obtain⟨_,rfl⟩:=va;refine PySem.P.str_of_int ?_ (th.tok r ?_)
 ·exact N1 _ (by lia)
 ·obtain⟨n,rfl⟩:=Int.eq_ofNat_of_zero_le hi.1
  exact .str
theorem O7 {i:Int}{U:MH}{s:Shared}{x:Value}{A:Around}{E:Value->Shared->Prop}{Q:Value->Shared->Prop}(r:Rel g μ U s)(va:VRel g μ s.heap (.int i) x)(th:Then g μ s (.int i) U Q) :
  wpAny (model g.prog g.w) A (call (.type "int") [x]) Q E s:=by
 obtain⟨t,rfl⟩:=va;exact call_int_int (th.now r .int)
end
section
variable {g:Gl} {μ μ':List Addr} {h h':Heap} {X:CK} {d k:Nat} {sc:Scope}
theorem Then.turn {s s':Shared}{v:MV}{U:MH}{Q:Value->Shared->Prop}{i:Nat}{a:Addr}{o:MO}(t:Then g μ s v (U.set i o) Q)(r:Rel g μ U s)(ea:μ[i]? = some a)(x:Turn a s.heap s'.heap)(ho:ORel g μ s'.heap a o)(st:Still s s'){y:Value}(vr:VRel g μ s'.heap v y):Q y s' :=
 t μ s' y (x.ext [] (Zy ea)) (r.turn ea x ho) st vr
theorem IRel.put {l:List (Int×MV)}{kvs:List (Int×Value)}(r:IRel g μ h l kvs)(i:Int){v:MV}{x:Value}(b:VRel g μ h v x):IRel g μ h (put l i v) (stored kvs i x):=by
 have hany:(l.lookup i).isSome=kvs.any (λkv=>decide (kv.1=i)):=by
  induction r with
  | nil=>rfl
  | @cons n v' x' r es a _ ih =>
   by_cases e:n=i
   ·subst e;simp
   ·rw[List.lookup_cons,show (i == n)=false from beq_eq_false_iff_ne.mpr λq=>e q.symm,List.any_cons,decide_eq_false e,Bool.false_or];exact ih
 unfold Internal.put stored;rw[hany]
 split
 ·clear hany
  rename_i q;clear q
  induction r with
  | nil=>exact .nil
  | @cons n v' x' r es a _ ih =>
   rw[ZJ,ZJ];dsimp only
   by_cases e:n=i
   ·rw[if_pos e,if_pos e];subst e;exact .cons b ih
   ·rw[if_neg e,if_neg e];exact .cons a ih
 ·rename_i q
  clear q hany
  induction r with
  | nil=>exact .cons b .nil
  | cons a _ ih=>exact .cons a ih
theorem TRel.put {l:List (List At×MV)}{xs:List (List At×Addr×Value)}(r:TRel g μ h l xs)(i:List At){v:MV}{x:Value}{a:Addr}(ha:a∉μ)(h2:2<a)(b:VRel g μ h v x):TRel g μ h (put l i v) (storedH xs i a x):=by
 have hany:(l.lookup i).isSome=(atKey xs i).isSome:=by
  rcases r.at i with ⟨e1,e2⟩ | ⟨_,_,_,e1,e2,_⟩ <;> rw[e1,e2] <;> rfl
 unfold Internal.put storedH;rw[hany]
 split
 ·clear hany
  rename_i q;clear q
  induction r with
  | nil=>exact .nil
  | @cons n v' a' x' r es a1 a2 a3 _ ih =>
   rw[ZJ,ZJ];unfold putAt;dsimp only
   by_cases e:n=i
   ·rw[if_pos e,if_pos e];subst e;exact .cons a1 a2 b ih
   ·rw[if_neg e,if_neg e];exact .cons a1 a2 a3 ih
 ·rename_i q
  clear q hany
  induction r with
  | nil=>exact .cons ha h2 b .nil
  | cons a1 a2 a3 _ ih=>exact .cons a1 a2 a3 ih
theorem EN {κ:Type} [BEq κ] [DecidableEq κ] (l:List (κ×MV))(i:κ)(v:MV):(put l i v).length<=l.length+1:=by
 unfold put;split <;> simp
theorem IRel.length {l:List (Int×MV)}{kvs:List (Int×Value)}(r:IRel g μ h l kvs):l.length=kvs.length:=by
 induction r with
 | nil=>rfl
 | cons _ _ ih=>simp[ih]
theorem TRel.length {l:List (List At×MV)}{xs:List (List At×Addr×Value)}(r:TRel g μ h l xs):l.length=xs.length:=by
 induction r with
 | nil=>rfl
 | cons _ _ _ _ ih=>simp[ih]
theorem ARel.length {l:List (String×MV)}{xs:List DictEntry}(r:ARel g μ h l xs):l.length=xs.length:=by
 induction r with
 | nil=>rfl
 | cons _ _ _ ih=>simp[ih]
theorem DictOf.turn {K:Type} [DecidableEq K] {prog:Program}{w:World}{knd knd':PySem.KeyKind prog w K}{a:Addr}{kvs kvs':List (K×Value)}(x:Heap.SameBut a h h')(d0:h.DictOf knd a kvs)(d1:h'.DictOf knd' a kvs')(h2:2<a):Turn a h h':=by
 refine eX3 (d0) λo _ _ zz=>aN3 zz λe c _=>?_
 refine eX3 (d1) λo' _ _ zz=>aN3 zz λe' c' _=>?_
 exact Turn.of_same x e e' (c'.1.trans c.1.symm) h2
theorem DictOfH.turn {K:Type} [DecidableEq K] {prog:Program}{w:World}{knd knd':HeapKind prog w K}{a:Addr}{kvs kvs':List (K×Addr×Value)}(x:Heap.SameBut a h h')(d0:h.DictOfH knd a kvs)(d1:h'.DictOfH knd' a kvs')(h2:2<a):Turn a h h':=by
 refine eX3 (d0) λo _ _ zz=>aN3 zz λe c _=>?_
 refine eX3 (d1) λo' _ _ zz=>aN3 zz λe' c' _=>?_
 exact Turn.of_same x e e' (c'.1.trans c.1.symm) h2
set_option tactic.hygienic true in
theorem Ly {o o':MO}{i:Int}{v:MV}{a:Addr}(e:Fa o (.int i) v=some o')(hr:ORel g μ h a o) :
  ∃ kvs,h.DictOf (intKind g.prog g.w) a kvs/\kvs.length<=big/\∀ {h':Heap} {x:Value},VRel g μ h v x->h'.DictOf (intKind g.prog g.w) a (stored kvs i x)->Ext [] μ μ h h'->ORel g μ h' a o':=by
 cases o <;> simp only[Fa]at e <;> try (cases e;done)
 ·cases e
  obtain⟨n,hn⟩:=hr;refine⟨[],⟨_,#[],n,hn,⟨rfl,rfl,rfl⟩,rfl,λ_ hx=>by simp at hx,.nil,.nil⟩,Zm _,λ{h' x} vr hd ex=>⟨by show 1<=big;decide,_,hd,?_⟩⟩;exact .cons (vr.ext ex LocOk.nil) .nil
 ·split at e
  ·rename_i l hz
   cases e;refine aN2 (hr) λ_ zz=>eX1 zz λkvs zz=>aN2 zz λhd hk=>?_
   refine⟨kvs,hd,by rw[<- hk.length];exact Zl hz,λ{h' x} vr hd' ex=>⟨Zc (EN _ _ _) hz,_,hd',?_⟩⟩;exact (hk.put i vr).ext ex LocOk.nil
  ·cases e
theorem Lz {knd:HeapKind g.prog g.w (List At)}(hk:knd=kK g.prog g.w){a:Addr}{xs:List (List At×Addr×Value)}(hd:h.DictOfH knd a xs):∀ p∈xs,∃ o,h.get? p.2.1=some o:=by
 subst hk;intro p hp;refine eX3 (hd) λ_ _ _ zz=>aN6 zz λ_ _ _ _ c4 _=>?_
 refine eX3 (c4 p hp) λot items n zz=>aN2 zz λe1 _=>?_
 exact⟨ot,e1⟩
set_option tactic.hygienic true in
theorem I0 {o o':MO}{l:List MV}{v:MV}{a:Addr}(e:Fa o (.tup l) v=some o')(hr:ORel g μ h a o) :
  ∃ ks xs,MV.key? (.tup l)=some ks/\h.DictOfH (kK g.prog g.w) a xs/\xs.length<=big/\∀ {h':Heap} {x:Value} {b:Addr},VRel g μ h v x->b∉μ->2<b->h'.DictOfH (kK g.prog g.w) a (storedH xs ks b x)->(∃ o,h.get? b=some o)->Ext [] μ μ h h'->ORel g μ h' a o':=by
 cases o <;> simp only[Fa]at e <;> try (cases e;done)
 ·refine eX1 (ZD e) λks zz=>aN2 zz λe1 q3=>?_;subst q3
  obtain⟨n,hn⟩:=hr;refine (eI2 ks ([]) ⟨e1,⟨_,#[],n,hn,⟨rfl,rfl,rfl⟩,rfl,rfl,λ_ hx=>(by simp at hx),.nil⟩,Zm _,λ{h' x b} vr hb hb2 hd _ ex=>⟨by show 1<=big;decide,_,hd,?_⟩⟩);exact .cons hb hb2 (vr.ext ex LocOk.nil) .nil
 ·rename_i l0
  refine eX1 (Option.bind_eq_some_iff.mp e) λks zz=>aN2 zz λe1 e2=>?_
  split at e2
  ·rename_i hz
   cases e2;refine aN2 (hr) λ_ zz=>eX1 zz λxs zz=>aN2 zz λhd hk=>?_
   refine (eI2 ks xs ⟨e1,hd,by rw[<- hk.length];exact Zl hz,λ{h' x b} vr hb hb2 hd' hl ex=>⟨Zc (EN _ _ _) hz,_,hd',?_⟩⟩);refine (hk.put ks hb hb2 vr).ext ex LocOk.nil λp hp=>?_
   rcases mem_storedH hp with z0 | ⟨_,e⟩
   ·obtain⟨y,hy,_,e⟩:=z0
    rw[e];exact Lz rfl hd y hy
   ·rw[e];exact hl
  ·cases e2
theorem D5 {K:Type} [DecidableEq K] {prog:Program}{w:World}{knd:HeapKind prog w K}{A:Around}{E:Value->Shared->Prop}{s:Shared}{d a:Addr}{xs:List (K×Addr×Value)}{k:K}{v:Value}{Q:Value->Shared->Prop}(hu:knd.room A)(hkey:knd.is s.heap k a)(hm:s.heap.DictOfH knd d xs)
  (h1:∀ p,atKey xs k=some p->Q p.2 { s with toks:=s.toks+knd.draws k })
  (h2:atKey xs k=none->∀ h',h'.DictOfH knd d (storedH xs k a v)->Heap.SameBut d s.heap h'->Q v { s with heap:=h',toks:=s.toks+knd.draws k }) (hsz:xs.length<=sizeLine) :
  wpAny (model prog w) A (dictSetDefault d (.ref a) v) Q E s:=by
 refine eX3 (hm) λo es ep zz=>aN6 zz λho hc hd he his hn=>?_
 unfold dictSetDefault
 try with_reducible refine wpAny_holding ?_
 refine wpAny_bind (knd.pyHash hu hkey ?_);refine wpAny_bind (wpAny_dictFind_heap (s:={ s with toks:=s.toks+knd.draws k }) hu hkey ho hd he his hn ?_ ?_)
 ·intro hno
  have hnk:=atKey_none_of_get hno
  have hz:=size_of_entries he;refine wpAny_bind (wpAny_rule (wpAny_bind (wpAny_updateDictKeys (hz:=le_of_eq_of_le hz hsz) (s:={ s with toks:=s.toks+knd.draws k }) ho hd (wpAny_pure (h2 hnk _ ⟨_,_,ep+1,Heap.get?_update_self _ ho (Obj.isFreed_of_dict (Obj.data_mapDictKeys hd _)),hc.mapDictKeys _,Obj.data_mapDictKeys hd _,?_,?_,?_⟩ (Heap.SameBut.update ..))))))
  ·rw[storedH_new hnk]
   simp[he,entryOfKey]
  ·rw[storedH_new hnk]
   intro x hx;rcases ZA hx with hx | hx
   ·exact knd.keeps (his x hx) ho hd (Heap.SameBut.update ..)
   ·rw[Zx hx]
    exact knd.keeps hkey ho hd (Heap.SameBut.update ..)
  ·rw[storedH_new hnk,List.map_append];refine List.nodup_append.mpr ?_
   refine⟨hn,by simp,λx hx y hy=>?_⟩;rw[Zx hy];intro e;subst e;exact (not_mem_keys_of_get hno) hx
 ·intro j p hj
  refine wpAny_bind (wpAny_dictEntries (s:={ s with toks:=s.toks+knd.draws k }) ho hd ?_);rw[entry_at he j,hj];exact wpAny_bind (wpAny_rule (wpAny_pure (h1 p (atKey_of_get hn hj))))
set_option tactic.hygienic true in
theorem Jg {U:MH}{i:Nat}{o':MO}{kv v:MV}{y z:Value}{a:Addr}{A:Around}{E:Value->Shared->Prop}{s:Shared}{Q:Unit->Shared->Prop}(r:Rel g μ U s)(rm:Room A d k)
  (ea:μ[i]? = some a) (vk:VRel g μ s.heap kv y) (vv:VRel g μ s.heap v z) (ho:(∃ l n,U[i]? = some (.list l)/\kv=.int n/\0<=n/\n<2 ^ 60/\n.toNat<l.length/\o'=.list (l.set n.toNat v))\/∃ o,U[i]? = some o/\Fa o kv v=some o')
  (th:∀ s',Ext [] μ μ s.heap s'.heap->Rel g μ (U.set i o') s'->Still s s'->Q () s'):wpAny (model g.prog g.w) A (setItem (.ref a) y z) Q E s:=by
 have hlow:=r.low _ (Zy ea);rcases ho with z0 | z0
 ·obtain⟨l,n,ho,rfl,h0,h60,hlt,rfl⟩:=z0
  obtain⟨tk,rfl⟩:=vk;refine aN2 (r.at ho ea) λhz zz=>eX1 zz λia zz=>aN2 zz λq3 hv=>?_;obtain⟨m,e⟩:=q3
  have hsz:l.length=ia.size:=hv.arr;refine ki_setAt (items:=ia) (n:=m) e h0 (by lia) (by lia) ?_;have e':=PySem.IsL.update (x:=e) (·.setIfInBounds n.toNat z)
  have tn:Turn a s.heap (s.heap.update a (Obj.mapSeq (·.setIfInBounds n.toNat z))):=Turn.of_same (Heap.SameBut.update ..) e e' rfl hlow
  have ex:=tn.ext (μ:=μ) [] (Zy ea);refine th { s with heap:=_ } ex (r.turn (s':={ s with heap:=s.heap.update a (Obj.mapSeq (·.setIfInBounds n.toNat z)) }) ea tn ?_) ⟨rfl,rfl⟩;refine⟨by rw[List.length_set];exact hz,_,⟨_,e'⟩,?_⟩;rw[Array.toList_setIfInBounds];exact (hv.set n.toNat vv).ext ex LocOk.nil
 ·obtain⟨o,ho,e⟩:=z0
  cases kv <;> try (cases o <;> simp only[Fa]at e <;> cases e;done)
  ·rename_i n
   obtain⟨tk,rfl⟩:=vk;refine eX1 (Ly e (r.at ho ea)) λkvs zz=>aN3 zz λhd hz hback=>?_
   refine wpAny_setItem_pairs (knd:=intKind g.prog g.w) (Bz n tk) hd (λh' hd' hs=>?_) (by rw[sizeLine_eq];exact Zc hz (by decide));have tn:=DictOf.turn hs hd hd' hlow
   have ex:=tn.ext (μ:=μ) [] (Zy ea);exact th { s with heap:=h',toks:=s.toks+1 } ex (r.turn (s':={ s with heap:=h',toks:=s.toks+1 }) ea tn (hback vv hd' ex)) ⟨rfl,rfl⟩
  ·rename_i l
   refine eX2 (I0 e (r.at ho ea)) λks xs zz=>aN4 zz λk1 hd hz hback=>?_
   refine eX1 (DS k1 vk) λb zz=>aN4 zz λq2 hb hb2 hk=>?_;subst q2
   refine wpAny_setItem_heap (knd:=kK g.prog g.w) (tupleKind_room_in1 (by have:=rm.line;exact Ze (Nat.add_lt_add_left (Za rfl) _) this)) hk hd (λh' hd' hs=>?_) (by rw[sizeLine_eq];exact Zc hz (by decide));have tn:=DictOfH.turn hs hd hd' hlow
   have ex:=tn.ext (μ:=μ) [] (Zy ea)
   have hl:∃ o,s.heap.get? b=some o:=by refine eX3 (hk) λo _ _ zz=>aN2 zz λe _=>?_;exact⟨o,e⟩
   exact th { s with heap:=h',toks:=_ } ex (r.turn (s':={ s with heap:=h',toks:=_ }) ea tn (hback vv hb hb2 hd' hl ex)) ⟨rfl,rfl⟩
end
section
variable {g:Gl} {μ μ':List Addr} {h h':Heap} {X:CK} {d k:Nat} {sc:Scope}
theorem LA {U:MH}{i:Nat}{l:List MV}{v:MV}{y:Value}{a:Addr}{A:Around}{E:Value->Shared->Prop}{s:Shared}{Q:Value->Shared->Prop}(r:Rel g μ U s)(ea:μ[i]? = some a)(ho:U[i]? = some (.list l))(hz:l.length<big)(vr:VRel g μ s.heap v y)
  (th:Then g μ s .none (U.set i (.list (l++[v]))) Q):wpAny (model g.prog g.w) A (call (.builtin "list.append") [.ref a,y]) Q E s:=by
 refine aN2 (r.at ho ea) λ_ zz=>eX1 zz λia zz=>aN2 zz λq3 hv=>?_;obtain⟨n,e⟩:=q3
 refine call_meets PySem.F.slot_list_append ⟨_,e,rfl⟩ PySem.F.entry_list_append (PySem.F.args_list_append_2 _ _) (list_append a ia n y (by refine ZN ((hv.arr)).symm ?_;refine ZN sizeLine_eq ?_;exact Zc (Zl hz) (by decide))) ⟨e,?_⟩;have e':=PySem.IsL.update (x:=e) λx=>x.push y
 have tn:Turn a s.heap (s.heap.update a (Obj.mapSeq λx=>x.push y)):=Turn.of_same (Heap.SameBut.update ..) e e' rfl (r.low _ (Zy ea));refine th.turn (s':={ s with heap:=_ }) r ea tn ⟨by refine ZN ZG ?_;exact hz,_,⟨_,e'⟩,?_⟩ ⟨rfl,rfl⟩ .none;refine ZN Array.toList_push ?_;exact (hv.snoc vr).ext (tn.ext [] (Zy ea)) LocOk.nil
theorem LB {U:MH}{i:Nat}{l m:List MV}{v:MV}{y:Value}{a:Addr}{A:Around}{E:Value->Shared->Prop}{s:Shared}{Q:Value->Shared->Prop}(r:Rel g μ U s)(ea:μ[i]? = some a)(ho:U[i]? = some (.list l))(hm:AO U v=some m)(hz:l.length+m.length<=big)(vr:VRel g μ s.heap v y)
  (th:Then g μ s .none (U.set i (.list (l++m))) Q):wpAny (model g.prog g.w) A (call (.builtin "list.extend") [.ref a,y]) Q E s:=by
 refine aN2 (r.at ho ea) λ_ zz=>eX1 zz λia zz=>aN2 zz λq3 hv=>?_;obtain⟨n,e⟩:=q3
 refine eX2 (EF r vr hm) λb ib zz=>aN3 zz λq3 q4 hw=>?_;subst q3;obtain⟨n2,e2⟩:=q4
 have hsz:=hv.arr
 have hbig:ia.size+ib.size<=sizeLine:=by refine ZN hsz.symm ?_;refine ZN ((hw.arr)).symm ?_;refine ZN sizeLine_eq ?_;exact Zc hz (by decide)
 refine call_meets PySem.F.slot_list_extend ⟨_,e,rfl⟩ PySem.F.entry_list_extend (PySem.F.args_list_extend_2 _ _) (AutoSeq1.list_extend_list_list_0 a ia n b ib n2 ?_ (Zc (Zt _ _) hbig) (Zj hbig)) ⟨e,e2,?_⟩
 ·refine ZN (show Builtin.List.listTooLong (ia.size+ib.size)=false from decide_eq_false (by lia)) ?_;rw[Bool.and_false];decide
 have e':=PySem.IsL.update (x:=e) λx=>x++ib
 have tn:Turn a s.heap (s.heap.update a (Obj.mapSeq λx=>x++ib)):=Turn.of_same (Heap.SameBut.update ..) e e' rfl (r.low _ (Zy ea));refine th.turn (s':={ s with heap:=_ }) r ea tn ⟨by refine ZN ZG ?_;exact hz,_,⟨_,e'⟩,?_⟩ ⟨rfl,rfl⟩ .none;refine ZN Array.toList_append ?_;exact (hv.append hw).ext (tn.ext [] (Zy ea)) LocOk.nil
theorem VRels.dropLast {vs:List MV}{xs:List Value}(a:VRels g μ h vs xs):VRels g μ h vs.dropLast xs.dropLast:=by
 refine ZN List.dropLast_eq_take ?_;refine ZN List.dropLast_eq_take ?_;refine ZN a.length ?_;exact a.take _
theorem O8 {U:MH}{i:Nat}{l:List MV}{v:MV}{a:Addr}{A:Around}{E:Value->Shared->Prop}{s:Shared}{Q:Value->Shared->Prop}(r:Rel g μ U s)(ea:μ[i]? = some a)(ho:U[i]? = some (.list l))(hx:l.getLast? = some v)
  (th:Then g μ s v (U.set i (.list l.dropLast)) Q):wpAny (model g.prog g.w) A (call (.builtin "list.pop") [.ref a]) Q E s:=by
 refine aN2 (r.at ho ea) λhz zz=>eX1 zz λia zz=>aN2 zz λq3 hv=>?_;obtain⟨n,e⟩:=q3
 have hsz:=hv.arr
 have hx':l[l.length - 1]? = some v:=by refine ZO (List.getLast?_eq_getElem?).symm ?_;exact hx
 obtain⟨y,e1,e2⟩:=hv.at hx';rw[hsz]at e1;refine call_meets PySem.F.slot_list_pop ⟨_,e,rfl⟩ PySem.F.entry_list_pop (PySem.F.args_list_pop_1 _) (MeetsSeq.list_pop_last a ia n y e1 (by refine ZN hsz.symm ?_;refine ZN sizeLine_eq ?_;exact Zc hz (by decide))) ⟨e,?_⟩;have e':=PySem.IsL.update (x:=e) λxs=>xs.eraseIdxIfInBounds (ia.size - 1)
 have tn:Turn a s.heap (s.heap.update a (Obj.mapSeq λxs=>xs.eraseIdxIfInBounds (ia.size - 1))):=Turn.of_same (Heap.SameBut.update ..) e e' rfl (r.low _ (Zy ea))
 have ex:=tn.ext (μ:=μ) [] (Zy ea);refine th.turn (s':={ s with heap:=_ }) r ea tn ⟨by refine ZN List.length_dropLast ?_;exact Zc (Nat.sub_le _ _) hz,_,⟨_,e'⟩,?_⟩ ⟨rfl,rfl⟩ (e2.ext ex LocOk.nil);have:(ia.eraseIdxIfInBounds (ia.size - 1)).toList=ia.toList.dropLast:=by
  unfold Array.eraseIdxIfInBounds;refine ZN (dif_pos ((Array.getElem?_eq_some_iff.mp e1).1)) ?_;refine ZO Array.toList_eraseIdx ?_;refine ZN Array.length_toList.symm ?_;exact List.eraseIdx_length_sub_one
 refine ZN this ?_;exact hv.dropLast.ext ex LocOk.nil
set_option tactic.hygienic true in
theorem O9 {U:MH}{i:Nat}{o:MO}{kv dv:MV}{r0:Option MV}{y z:Value}{a:Addr}{A:Around}{E:Value->Shared->Prop}{s:Shared}{Q:Value->Shared->Prop}(r:Rel g μ U s)(rm:Room A d k)(ea:μ[i]? = some a)(ho:U[i]? = some o)(hg:D9 o kv=some r0)(vk:VRel g μ s.heap kv y)(vd:VRel g μ s.heap dv z)
  (th:Then g μ s (r0.getD dv) U Q):wpAny (model g.prog g.w) A (call (.builtin "dict.get") [.ref a,y,z]) Q E s:=by
 have hs:=BH (r.low _ (Zy ea));cases kv
 case int n =>
  obtain⟨tk,rfl⟩:=vk;obtain⟨kvs,hd,q⟩:=Eb hg (r.at ho ea);refine wpAny_call (codeAny_call_builtin PySem.F.slot_dict_get.plain PySem.F.entry_dict_get (PySem.F.slot_dict_get.check _ _ _ _ _ _ _ _ hd.typeIs (PySem.F.args_dict_get_3 _ _ _) (meets_dict_get_default (intKind g.prog g.w) a (key:=.int n tk) (k:=n) (Bz n tk) hs z A (wants Q E) s ⟨_,hd.mapOf,?_⟩)));rcases q with ⟨rfl,q⟩ | z0
  ·refine ZN q ?_;exact th.tok r vd
  ·refine eX2 (z0) λv x zz=>aN3 zz λq3 q q2=>?_;subst q3
   refine ZN q ?_;exact th.tok r q2
 case tup l =>
  refine eX2 (Dc hg (r.at ho ea)) λks xs zz=>aN3 zz λk1 hd q=>?_
  refine eX1 (DS k1 vk) λb zz=>aN4 zz λq2 hb hb2 hk=>?_;subst q2
  refine wpAny_call (codeAny_call_builtin PySem.F.slot_dict_get.plain PySem.F.entry_dict_get (PySem.F.slot_dict_get.check _ _ _ _ _ _ _ _ hd.typeIs (PySem.F.args_dict_get_3 _ _ _) (meetsH_dict_get_default (kK g.prog g.w) a b hs z A (wants Q E) s ⟨tupleKind_room_in1 (by have:=rm.line;exact Ze (Nat.add_lt_add_left (Za rfl) _) this),ks,xs,hk,hd,?_⟩)));rcases q with ⟨rfl,q⟩ | z0
  ·refine ZN q ?_;exact th.tok r vd
  ·refine eX3 (z0) λv c x zz=>aN3 zz λq4 q q2=>?_;subst q4
   refine ZN q ?_;exact th.tok r q2
 all_goals (cases o <;> simp only[D9]at hg <;> cases hg)
theorem Ef {U:MH}{i:Nat}{o o':MO}{l:List MV}{dv:MV}{y z:Value}{a:Addr}{A:Around}{E:Value->Shared->Prop}{s:Shared}{Q:Value->Shared->Prop}(r:Rel g μ U s)(rm:Room A d k)(ea:μ[i]? = some a)(ho:U[i]? = some o)(hg:D9 o (.tup l)=some Option.none)(hs':Fa o (.tup l) dv=some o')(vk:VRel g μ s.heap (.tup l) y)(vd:VRel g μ s.heap dv z)
  (th:Then g μ s dv (U.set i o') Q):wpAny (model g.prog g.w) A (call (.builtin "dict.setdefault") [.ref a,y,z]) Q E s:=by
 have hlow:=r.low _ (Zy ea);refine eX2 (Dc hg (r.at ho ea)) λks xs zz=>aN3 zz λk1 hd q=>?_
 refine eX2 (I0 hs' (r.at ho ea)) λks' xs' zz=>aN4 zz λk1' hd' hz hback=>?_
 replace k1':=ZO k1.symm k1';cases k1';refine eX1 (DS k1 vk) λb zz=>aN4 zz λq2 hb hb2 hk=>?_;subst q2
 refine wpAny_call (codeAny_call_builtin PySem.F.slot_dict_setdefault.plain PySem.F.entry_dict_setdefault (PySem.F.slot_dict_setdefault.check _ _ _ _ _ _ _ _ hd.typeIs (PySem.F.args_dict_setdefault_3 _ _ _) ?_));refine wpAny_bind ?_;refine wpAny_bind (wpAny_notOrdered_dict hd.typeIs ?_);refine wpAny_pure ?_;show wpAny _ _ (if (a == sysModules)=true then _ else (dictSetDefault a (.ref b) z >>= _)) _ _ s;rw[if_neg (by rw[(BH hlow)];exact Bool.false_ne_true)];have hl:∃ o,s.heap.get? b=some o:=by refine eX3 (hk) λo _ _ zz=>aN2 zz λe _=>?_;exact⟨o,e⟩
 refine wpAny_bind (D5 (knd:=kK g.prog g.w) (tupleKind_room_in1 (by have:=rm.line;exact Ze (Nat.add_lt_add_left (Za rfl) _) this)) hk hd' (λp hp=>?_) (λ_ h' hd2 hsb=>?_) (by refine ZN sizeLine_eq ?_;exact Zc hz (by decide)))
 ·exfalso
  rcases q with ⟨_,q⟩ | z0
  ·refine eX3 (hd) λo1 es1 ep1 zz=>aN6 zz λa1 a2 a3 a4 a5 a6=>?_
   refine eX3 (hd') λo2 es2 ep2 zz=>aN6 zz λb1 b2 b3 b4 b5 b6=>?_
   replace b1:=ZO a1.symm b1;cases b1;replace b3:=ZO a3.symm b3;cases b3;replace b4:=ZO a4.symm b4;have hxx:xs=xs':=by
    have key:∀ (u v:List (List At×Addr×Value)),u.map (entryOfKey (kK g.prog g.w))=v.map (entryOfKey (kK g.prog g.w))->(∀ x∈u,(kK g.prog g.w).is s.heap x.1 x.2.1)->(∀ x∈v,(kK g.prog g.w).is s.heap x.1 x.2.1)->u=v:=by
     intro u
     induction u with
     | nil=>intro v e _ _;cases v with | nil=>rfl | cons=>simp at e
     | cons p u ih =>
      intro v e hu hv;cases v with
      | nil=>simp at e
      | cons q v =>
       simp only[ZJ,List.cons.injEq]at e;obtain⟨p1,p2,p3⟩:=p;obtain⟨q1,q2,q3⟩:=q;have e1:=e.1;unfold entryOfKey at e1;simp only[DictEntry.mk.injEq,Value.ref.injEq]at e1;obtain⟨_,rfl,rfl⟩:=e1;have:=(kK g.prog g.w).inj (hu (p1,p2,p3) (.head _)) (hv (q1,p2,p3) (.head _));dsimp only at this;subst this;rw[ih v e.2 (λx hx=>hu x (.tail _ hx)) λx hx=>hv x (.tail _ hx)]
    exact key _ _ b4 a5 b5
   subst hxx;replace hp:=ZO q.symm hp;cases hp
  ·refine eX3 (z0) λv c x zz=>aN2 zz λq0 _=>?_
   cases q0
 ·have tn:=DictOfH.turn hsb hd' hd2 hlow
  have ex:=tn.ext (μ:=μ) [] (Zy ea);exact wpAny_pure (th.turn (s':={ s with heap:=h',toks:=_ }) r ea tn (hback vd hb hb2 hd2 hl ex) ⟨rfl,rfl⟩ (vd.ext ex LocOk.nil))
theorem Eg {U:MH}{i:Nat}{o:MO}{l:List MV}{dv v:MV}{y z:Value}{a:Addr}{A:Around}{E:Value->Shared->Prop}{s:Shared}{Q:Value->Shared->Prop}(r:Rel g μ U s)(rm:Room A d k)(ea:μ[i]? = some a)(ho:U[i]? = some o)(hg:D9 o (.tup l)=some (some v))(vk:VRel g μ s.heap (.tup l) y)
  (th:Then g μ s v U Q):wpAny (model g.prog g.w) A (call (.builtin "dict.setdefault") [.ref a,y,z]) Q E s:=by
 refine eX2 (Dc hg (r.at ho ea)) λks xs zz=>aN3 zz λk1 hd q=>?_
 refine eX1 (DS k1 vk) λb zz=>aN4 zz λq2 hb hb2 hk=>?_;subst q2
 refine wpAny_call (codeAny_call_builtin PySem.F.slot_dict_setdefault.plain PySem.F.entry_dict_setdefault (PySem.F.slot_dict_setdefault.check _ _ _ _ _ _ _ _ hd.typeIs (PySem.F.args_dict_setdefault_3 _ _ _) ?_));refine wpAny_bind ?_;refine wpAny_bind (wpAny_notOrdered_dict hd.typeIs ?_);refine wpAny_pure ?_;show wpAny _ _ (if (a == sysModules)=true then _ else (dictSetDefault a (.ref b) z >>= _)) _ _ s;rw[if_neg (by rw[(BH (r.low _ (Zy ea)))];exact Bool.false_ne_true)];rcases q with ⟨q,_⟩ | z0
 ·cases q
 ·refine eX3 (z0) λv c x zz=>aN3 zz λq0 q q2=>?_
  cases q0;have hz:xs.length<=sizeLine:=by
   have:=r.at ho ea;cases o <;> simp only[D9]at hg <;> try (cases hg;done)
   ·obtain⟨_,_,e⟩:=ZD hg;cases e
   ·refine aN2 (this) λhz zz=>eX1 zz λxs' zz=>aN2 zz λq3 hk'=>?_;refine eX3 (q3) λo2 es2 ep2 zz=>aN5 zz λb1 b2 b3 b4 _=>?_
    refine eX3 (hd) λo1 es1 ep1 zz=>aN5 zz λa1 a2 a3 a4 _=>?_
    replace b1:=ZO a1.symm b1;cases b1;replace b3:=ZO a3.symm b3;cases b3;have:=size_of_entries a4
    have:=size_of_entries b4
    have:=hk'.length;refine ZN sizeLine_eq ?_;unfold big at hz;lia
  refine wpAny_bind (D5 (knd:=kK g.prog g.w) (tupleKind_room_in1 (by have:=rm.line;exact Ze (Nat.add_lt_add_left (Za rfl) _) this)) hk hd (λp hp=>?_) (λhn=>?_) hz)
  ·replace hp:=ZO q.symm hp;cases hp
   exact wpAny_pure (th.tok r q2)
  ·replace hn:=ZO q.symm hn;cases hn
theorem IRel.without {l:List (Int×MV)}{kvs:List (Int×Value)}(r:IRel g μ h l kvs)(i:Int):IRel g μ h (l.filter λp=>p.1≠i) (PySem.without kvs i):=by
 unfold PySem.without
 induction r with
 | nil=>exact .nil
 | @cons n v x r es a _ ih =>
  by_cases e:n=i
  ·refine ZN (List.filter_cons_of_neg (by simpa using e)) ?_;refine ZN (List.filter_cons_of_neg (by simpa using e)) ?_;exact ih
  ·refine ZN (List.filter_cons_of_pos (by simpa using e)) ?_;refine ZN (List.filter_cons_of_pos (by simpa using e)) ?_;exact .cons a ih
theorem N2 {U:MH}{i:Nat}{l:List (Int×MV)}{n:Int}{v:MV}{y:Value}{a:Addr}{A:Around}{E:Value->Shared->Prop}{s:Shared}{Q:Value->Shared->Prop}(r:Rel g μ U s)(rm:Room A d k)(ea:μ[i]? = some a)(ho:U[i]? = some (.idict l))(hg:l.lookup n=some v)(vk:VRel g μ s.heap (.int n) y)
  (th:Then g μ s v (U.set i (.idict (l.filter λp=>p.1≠n))) Q):wpAny (model g.prog g.w) A (call (.builtin "dict.pop") [.ref a,y]) Q E s:=by
 obtain⟨tk,rfl⟩:=vk;refine aN2 (r.at ho ea) λhz zz=>eX1 zz λkvs zz=>aN2 zz λhd hk=>?_
 rcases hk.at n with ⟨q,_⟩ | z0
 ·replace q:=ZO hg.symm q;cases q
 ·refine eX2 (z0) λv' x zz=>aN3 zz λq0 q q2=>?_
  replace q0:=ZO hg.symm q0;cases q0;refine wpAny_call (codeAny_call_builtin PySem.F.slot_dict_pop.plain PySem.F.entry_dict_pop (PySem.F.slot_dict_pop.check _ _ _ _ _ _ _ _ hd.typeIs (PySem.F.args_dict_pop_2 _ _) (meets_dict_pop_there (knd:=intKind g.prog g.w) a (key:=.int n tk) (k:=n) (Bz n tk) [] (.inl rfl) rfl A (wants Q E) s (eI2 kvs x ⟨hd,?_,q,λh' hd' hs=>?_⟩))))
  ·refine ZN hk.length.symm ?_;refine ZN sizeLine_eq ?_;exact Zc hz (by decide)
  ·have tn:=DictOf.turn hs hd hd' (r.low _ (Zy ea))
   have ex:=tn.ext (μ:=μ) [] (Zy ea);exact th.turn (s':={ s with heap:=h',toks:=s.toks+1 }) r ea tn ⟨Zc (List.length_filter_le _ _) hz,_,hd',(hk.without n).ext ex LocOk.nil⟩ ⟨rfl,rfl⟩ (q2.ext ex LocOk.nil)
end
section
variable {g:Gl} {μ μ':List Addr} {h h':Heap} {X:CK} {d k:Nat} {sc:Scope}
noncomputable def GA (X:CK) (g:Gl) (d k:Nat):Prop :=
 ∀ (c n:String) (vs:List MV) (U:MH) (K:MV->MH->Prop) (μ:List Addr) (A:Around) (E:Value->Shared->Prop) (s:Shared) (Q:Value->Shared->Prop) (f:Value) (xs:List Value),
  X.call c n vs U K->g.fv c n=some f->VRels g μ s.heap vs xs->Rel g μ U s->Big s.heap->Room A d k->Lr g μ s K Q->wpAny (model g.prog g.w) A (call f xs) Q E s
theorem GB (pos:Pos)(l:List (Bool×Sem Value)):(backTo pos l).any (·.1)=l.any (·.1):=by
 unfold backTo;refine ZO List.any_map ?_;rfl
noncomputable abbrev Eh (es:List Expr):Prop:=∀ env,(starEach es env).any (·.1)=false/\(starEach es env=[]\/∃ x rest,starEach es env=(false,x)::rest)
theorem AH:Eh []:=λ_=>⟨rfl,.inl rfl⟩
theorem AC {e:Expr}{es:List Expr}(hs:autoParam (∀ env,starEach (e::es) env=(false,eval e env)::starEach es env) au)(h:Eh es):Eh (e::es):=λenv=>by
 rw[hs];exact⟨(h env).1,.inr ⟨_,_,rfl⟩⟩
theorem Hg {M:Model}{A:Around}{E:Value->Shared->Prop}{s:Shared}{f:Value}{es:List Expr}{env:Env}{pos:Pos}{Q:Args->Shared->Prop}(hp:Eh es)
  (h:wpAny M A (spliced (backTo pos (starEach es env))) (λvs s'=>Q ⟨vs,[]⟩ s') E s):wpAny M A (evalArgs f true (backTo pos (starEach es env)) []) Q E s:=by
 rcases (hp env).2 with e | z0
 ·rw[e]at h ⊢
  show wpAny M A (spliced (backTo pos []) >>= λvs=>pure ⟨vs,[]⟩) Q E s;exact wpAny_bind (wpAny_mono h (λ_ _ z=>wpAny_pure z) λ_ _ z=>z)
 ·refine eX2 (z0) λx rest e=>?_
  rw[e]at h ⊢;exact Calls.evalArgs_plain h
theorem EO {M:Model}{A:Around}{E:Value->Shared->Prop}{s:Shared}{f:Value}{first:List Value}{es:List Expr}{env:Env}{pos:Pos}{Q:Value->Shared->Prop}(hp:Eh es)(P:Heap->Prop)
  (hk:∀ h,P h->∃ k,(k=Keeper.frame\/k=Keeper.machine\/k=Keeper.boundFrame)/\Looks M h (keeperOf f) k)
  (h:wpAny M A (spliced (backTo pos (starEach es env))) (λvs s₁=>P s₁.heap/\wpAny M A (call f (first++vs)) Q E s₁) E s):wpAny M A (callWith pos f first (backTo pos (starEach es env)) (backToKw pos (keywordEach [] env))) Q E s:=by
 refine callWith_of (P:=P) (by rw[GB];refine ZN ((hp env).1) ?_;rfl) hk (Hg hp ?_);exact h
theorem Ci {M:Model}{h:Heap}(id:String):∃ k,(k=Keeper.frame\/k=Keeper.machine\/k=Keeper.boundFrame)/\Looks M h (keeperOf (.builtin id)) k:=⟨.machine,.inr (.inl rfl),.now⟩
theorem Cs {M:Model}{h:Heap}(id:String):∃ k,(k=Keeper.frame\/k=Keeper.machine\/k=Keeper.boundFrame)/\Looks M h (keeperOf (.type id)) k:=⟨.machine,.inr (.inl rfl),.now⟩
theorem KW {h h':Heap}{a:Addr}{m:Str->Option Value}(hn:h.Ns a m)(n2:a≠2)(kp:∀ (b:Nat)(o:Obj),b≠2->h.get? b=some o->h'.get? b=some o):h'.Ns a m :=
 let ⟨o,es,ep,e,r⟩:=hn;⟨o,es,ep,kp a o n2 e,r⟩
theorem Cb {x:String}{v:Value}{p:Pos}{env:Env}{A:Around}{E:Value->Shared->Prop}{s:Shared}{Q:Value->Shared->Prop}{U:MH}(G:GOk g)(eo:EnvOk sc env)(r:Rel g μ U s)
  (hk:sc.names.lookup (Str.ofString x)=some .globalImplicit) (hv:Gn x=some v\/∃ c,(c=""\/c="class")/\g.fv c x=some v) (h:Q v s) (hd:(x == "__debug__")=false):wpAny (model g.prog g.w) A (eval (.Name (Str.ofString x) p) env) Q E s:=by
 refine eX2 (G.glob) λmg mb zz=>aN4 zz λhg hb h1 h2=>?_
 have hg':s.heap.Ns env.globals mg:=by refine ZN eo.globals ?_;exact KW hg (by decide) r.base
 have hb':s.heap.Ns env.builtins mb:=by refine ZN eo.builtins ?_;exact KW hb (by decide) r.base
 refine Calls.Name_function_global eo.fn (by rw[eo.kindOf];exact hk) ?_ (IT hd);rcases hv with hv | z0
 ·exact Calls.loadGlobal_builtin hg' (h1 x v hv).1 hb' (h1 x v hv).2 h
 ·refine eX1 (z0) λc zz=>aN2 zz λhc hv=>?_
  exact Calls.loadGlobal_global hg' (h2 c x v hc hv) h
theorem CA {c n:String}{p:Pos}(G:GOk g)(hf:(g.fv c n).isSome=true)(hc:c=""\/c="class")(hk:sc.names.lookup (Str.ofString n)=some .globalImplicit)(hd:autoParam ((n == "__debug__")=false) au):Ai X g d k sc (.Name (Str.ofString n) p) (.g c n):=by
 intro env J U K μ A E s Q ev eo er r rm th;obtain⟨f,hf⟩:=Option.isSome_iff_exists.mp hf;exact Cb G eo r hk (.inr ⟨c,hc,hf⟩) ((th _ _ ev).now r (.fn hf)) hd
theorem Au {f:Expr}{es:List Expr}{tf:ME}{ts:List ME}{p:Pos}(G:GOk g)(hX:GA X g d k)(h0:Ai X g d k sc f tf)(hp:Eh es)(h1:Ea X g d k sc es ts)
  (he:autoParam (∀ env,eval (.Call f es [] p) env=(do callWith p (<- eval f env) [] (backTo p (starEach es env)) (backToKw p (keywordEach [] env)))) au):Ai X g d k sc (.Call f es [] p) (.call tf ts):=by
 intro env J U K μ A E s Q ev eo er r rm th;rw[he];refine wpAny_bind (h0 env J U _ μ A E s _ ev eo er r rm λx U₁ ee μ₁ s₁ f x1 r1 st1 v1=>?_);refine eX2 (ee) λc n zz=>aN2 zz λex ev=>?_
 subst ex;exact EO hp g.K.In (λh hh=>keeps_K (G.keeps _ _ _ v1) h hh) (h1 env J U₁ _ μ₁ A E s₁ _ p ev eo (er.ext x1) r1 rm λvs U₂ ev μ₂ s₂ xs x2 r2 st2 v2=>⟨r2.K G,
  hX c n vs U₂ K μ₂ A E s₂ Q f xs ev v1 v2 r2 ((er.ext x1).ext x2).big rm λv U' kv=>((th v U' kv).trans x1 st1).trans x2 st2⟩)
theorem KX {x:String}{f:Value}(hf:Gn x=some f):(∃ id,f=.builtin id)\/∃ id,f=.type id:=by
 have h:∀ p∈biT,(∃ id,p.2=.builtin id)\/∃ id,p.2=.type id:=by
  repeat first | exact ZK ⟨.inl ⟨_,rfl⟩,‹_›⟩ | refine ZK ⟨by first | exact .inl ⟨_,rfl⟩ | exact .inr ⟨_,rfl⟩,?_⟩
  exact λ_ h=>nomatch h
 exact h _ (CP hf)
noncomputable def Hh (g:Gl) (d k:Nat) (b:BI) (f:Value):Prop :=
 ∀ (w:MV) (U:MH) (v:MV) (μ:List Addr) (A:Around) (E:Value->Shared->Prop) (s:Shared) (Q:Value->Shared->Prop) (x:Value),
  BiP U b w v->VRel g μ s.heap w x->Rel g μ U s->Big s.heap->Room A d k->Then g μ s v U Q->wpAny (model g.prog g.w) A (call f [x]) Q E s
theorem VRels.one {v:MV}{xs:List Value}(r:VRels g μ h [v] xs):∃ x,xs=[x]/\VRel g μ h v x:=by
 refine eX2 (r) λx _ zz=>aN3 zz λq3 a q5=>?_;subst q3;subst q5
 exact⟨x,rfl,a⟩
theorem Aa {b:BI}{x:String}{f:Value}{es:List Expr}{ts:List ME}{p p':Pos}(G:GOk g)(hb:Hh g d k b f)(hf:Gn x=some f)(hx:sc.names.lookup (Str.ofString x)=some .globalImplicit)(hp:Eh es)(h1:Ea X g d k sc es ts)
  (hd:autoParam ((x == "__debug__")=false) au):Ai X g d k sc (.Call (.Name (Str.ofString x) p') es [] p) (.bi b ts):=by
 intro env J U K μ A E s Q ev eo er r rm th;refine wpAny_bind (Cb G eo r hx (.inl hf) ?_ hd);have keep:∀ h:Heap,True->∃ k,(k=Keeper.frame\/k=Keeper.machine\/k=Keeper.boundFrame)/\Looks (model g.prog g.w) h (keeperOf f) k:=by
  intro h _;rcases KX hf with ⟨_,rfl⟩ | ⟨_,rfl⟩
  ·exact Ci _
  ·exact Cs _
 refine EO hp (λ_=>True) keep ?_;refine h1 env J U _ μ A E s _ p ev eo er r rm λvs U₂ ee μ₂ s₂ xs x2 r2 st2 v2=>⟨trivial,?_⟩
 refine eX2 (ee) λw v zz=>aN3 zz λew e3 kv=>?_
 subst ew;refine eX1 (v2.one) λy zz=>aN2 zz λq2 vy=>?_;subst q2
 exact hb w U₂ v μ₂ A E s₂ Q y e3 vy r2 (er.ext x2).big rm ((th _ _ kv).trans x2 st2)
theorem BW:Hh g d k .len (.builtin "len"):=λw U v μ A E s Q x e vx r bg rm th=>O5 r vx e th
end
section
variable {g:Gl} {μ μ':List Addr} {h h':Heap} {X:CK} {d k:Nat} {sc:Scope}
noncomputable def Hi (X:CK) (g:Gl):Prop:=∀ c n,X.has c n->∃ f,g.fv c n=some f
noncomputable abbrev GC (g:Gl) (s:Shared) (x:Value) (n:String) (f:Value):Prop :=
 ∀ (A:Around) (E:Value->Shared->Prop) (pl:Sem Bool) (Q:Value×List Value->Shared->Prop),Q (f,[x]) s->wpAny (model g.prog g.w) A (getMethod x (Str.ofString n) pl) Q E s
set_option tactic.hygienic true in
theorem MA {U:MH}{s:Shared}(G:GOk g)(r:Rel g μ U s){c n:String}{i:Nat}{y:Value}(vr:VRel g μ s.heap (.obj c i) y)(hr:Dt U (.obj c i)=true){f:Value}(hf:g.fv c n=some f):GC g s y n f:=by
 intro A E pl Q hQ;simp only[Dt]at hr
 split at hr
 ·rename_i l ho
  obtain⟨x,C,dd,es,m,rfl,hc,hi,hz,ha,hx,hx2,e1,e2,I⟩:=He r vr ho;obtain⟨a,rfl,hn,h1,h2⟩:=G.meth _ _ _ _ hc hf;refine method_fn (r.K G) I (G.hook _ _ hc) (G.miss _ _ hc) h1 h2 ?_ hQ;have hnone:l.lookup n=none:=by
   cases q:l.lookup n with
   | none=>rfl
   | some v =>
    exfalso;have:(n,v)∈l:=by
     clear hz ha ho I
     induction l with
     | nil=>simp at q
     | cons p l ih =>
      replace q:=ZO List.lookup_cons.symm q
      split at q
      ·rename_i e;cases q;refine ZN (beq_iff_eq.mp e) ?_;exact .head _
      ·exact .tail _ (ih q)
    exact hn (hz.2.1 _ this)
  rcases ha.at n with ⟨_,q⟩ | z0
  ·unfold shadowIn lookIn
   dsimp only;refine ZN q ?_;dsimp only;rw[if_neg (by rw[ha.noRef];decide)];rfl
  ·obtain⟨v,e,q,_⟩:=z0
   replace q:=ZO hnone.symm q;cases q
 ·cases hr
theorem Bs {s:Shared}{x:Value}{T n id:String}(hT:s.TypeIs x T)(pa:PlainAttrs T)(slot:Slot T (Str.ofString n) id)(hty:typeOf (.builtin id)=pure (.type "method_descriptor"))(hd:∀ a,x=.ref a->∃ o,s.heap.get? a=some o/\o.dict=none):GC g s x n (.builtin id) :=
 λA E pl Q hQ=>getMethod_builtin hT pa slot hty hd hQ
theorem HI {o:Expr}{n:String}{es:List Expr}{apos pos:Pos}{env:Env}{A:Around}{E:Value->Shared->Prop}{s:Shared}{Q:Value->Shared->Prop}{x f:Value}(hp:Eh es)(P:Heap->Prop)
  (hm:GC g s x n f) (hk:∀ h,P h->∃ k,(k=Keeper.frame\/k=Keeper.machine\/k=Keeper.boundFrame)/\Looks (model g.prog g.w) h (keeperOf f) k)
  (hl:(apos.endLine == pos.line)=true) (hz:es.length<29)
  (h:wpAny (model g.prog g.w) A (spliced (backTo pos (starEach es env))) (λvs s₁=>P s₁.heap/\wpAny (model g.prog g.w) A (call f (x::vs)) Q E s₁) E s) :
  wpAny (model g.prog g.w) A (methodCall o (Str.ofString n) apos pos env x (es.length+0) (backTo pos (starEach es env)) (backToKw pos (keywordEach [] env))) Q E s:=by
 have few:methodCallForm (es.length+0) (backTo pos (starEach es env)) (backToKw pos (keywordEach [] env))=true:=by
  unfold methodCallForm;have h1:((backTo pos (starEach es env)).all λx=>!x.1)=true:=by
   have:=GB pos (starEach es env);rw[(hp env).1]at this;refine ZN List.all_eq_not_any_not ?_;simp only[Bool.not_not];refine ZN this ?_;rfl
  refine ZN h1 ?_;refine ZN (decide_eq_true (by solve_by_elim (maxDepth:=4) [Zd,Zb,Zc,Zl,Zh,Zn,Zi,Zq,Zk,Zf,Zj])) ?_;rfl
 unfold methodCall;refine ZN few ?_;refine wpAny_bind (wpAny_holding ?_);unfold calleeOf;refine ZN (if_pos rfl) ?_;refine hm _ _ _ _ ?_;dsimp only;unfold methodCallPos;refine ZN hl ?_;refine wpAny_bind (wpAny_pure ?_);exact EO hp P hk h
theorem VRels.two {v w:MV}{xs:List Value}(r:VRels g μ h [v,w] xs):∃ x y,xs=[x,y]/\VRel g μ h v x/\VRel g μ h w y:=by
 refine eX2 (r) λx _ zz=>aN3 zz λq3 a zz=>eX2 zz λy _ zz=>aN3 zz λq7 b q9=>?_;subst q3;subst q7;subst q9
 exact⟨x,y,rfl,a,b⟩
theorem N3:∀ c,c<128->97<=c->Txt.isspace ⟨#[c]⟩=false:=by decide +kernel
theorem I1 {z:String}{c:Char}(hc:z.toList=[c])(hr:97<=c.toNat/\c.toNat<128):Txt.isspace (Str.ofString z)=false:=by
 rw[Str.ofString_eq_toList];refine ZN hc ?_;exact N3 c.toNat hr.2 hr.1
noncomputable def FH (kd:Option Bool) (n:String):String:=match kd with
 | some true=>if n="append" then "list.append" else if n="extend" then "list.extend" else "list.pop"
 | some false=>if n="get" then "dict.get" else if n="setdefault" then "dict.setdefault" else "dict.pop"
 | none=>"str.isspace"
theorem Jh {U:MH}{s:Shared}{x:MV}{y:Value}{n:String}(r:Rel g μ U s)(vr:VRel g μ s.heap x y)(hx:∀ c i,x≠.obj c i)(hp:OY X U x n):GC g s y n (.builtin (FH (CD U x) n)):=by
 have atRef:∀ {b:Bool},CD U x=some b->∃ i a o,x=.ref i/\y=.ref a/\s.heap.get? a=some o/\o.cls=.type (if b then "list" else "dict")/\o.dict=none:=λ{b} hk=>by
  cases x with
  | ref i =>
   obtain⟨a,rfl,hi⟩:=vr;cases ho:U[i]? with
   | none=>simp only[CD,ho]at hk;cases hk
   | some o =>
    simp only[CD,ho]at hk;have hr:=r.at ho hi;cases o with
    | list l=>cases hk;refine aN2 (hr) λ_ zz=>eX1 zz λia zz=>aN2 zz λq3 _=>?_;obtain⟨m,e⟩:=q3;exact⟨i,a,_,rfl,rfl,e,rfl,rfl⟩
    | attrs l=>cases hk
    | ed=>cases hk;obtain⟨m,e⟩:=hr;exact⟨i,a,_,rfl,rfl,e,rfl,rfl⟩
    | idict l=>cases hk;refine aN2 (hr) λ_ zz=>eX1 zz λ_ zz=>aN2 zz λq3 _=>?_;refine eX3 (q3) λo es ep zz=>aN3 zz λe c _=>?_;exact⟨i,a,o,rfl,rfl,e,c.1,c.2.1⟩
    | tdict l=>cases hk;refine aN2 (hr) λ_ zz=>eX1 zz λ_ zz=>aN2 zz λq3 _=>?_;refine eX3 (q3) λo es ep zz=>aN3 zz λe c _=>?_;exact⟨i,a,o,rfl,rfl,e,c.1,c.2.1⟩
  | _=>cases hk
 have kinds:((CD U x=some true/\n∈["append","extend","pop"])\/(CD U x=some false/\n∈["get","setdefault","pop"]))->GC g s y n (.builtin (FH (CD U x) n)):=λhp=>by
  rcases hp with ⟨hk,hn⟩ | ⟨hk,hn⟩
  ·refine eX3 (atRef hk) λi a o zz=>aN5 zz λq4 q5 e c dn=>?_;subst q4;subst q5
   refine ZN hk ?_;have dd:∀ a',(Value.ref a)=.ref a'->∃ o,s.heap.get? a'=some o/\o.dict=none:=λa' e2=>by cases e2;exact⟨o,e,dn⟩
   rcases Zz hn with rfl | hn
   ·exact Bs ⟨o,e,c⟩ PySem.F.plainAttrs_list PySem.F.slot_list_append PySem.F.type_list_append dd
   rcases Zz hn with rfl | hn
   ·exact Bs ⟨o,e,c⟩ PySem.F.plainAttrs_list PySem.F.slot_list_extend PySem.F.type_list_extend dd
   ·refine ZN (Zx hn) ?_
    exact Bs ⟨o,e,c⟩ PySem.F.plainAttrs_list PySem.F.slot_list_pop PySem.F.type_list_pop dd
  ·refine eX3 (atRef hk) λi a o zz=>aN5 zz λq4 q5 e c dn=>?_;subst q4;subst q5
   refine ZN hk ?_;have dd:∀ a',(Value.ref a)=.ref a'->∃ o,s.heap.get? a'=some o/\o.dict=none:=λa' e2=>by cases e2;exact⟨o,e,dn⟩
   rcases Zz hn with rfl | hn
   ·exact Bs ⟨o,e,c⟩ PySem.F.plainAttrs_dict PySem.F.slot_dict_get PySem.F.type_dict_get dd
   rcases Zz hn with rfl | hn
   ·exact Bs ⟨o,e,c⟩ PySem.F.plainAttrs_dict PySem.F.slot_dict_setdefault PySem.F.type_dict_setdefault dd
   ·refine ZN (Zx hn) ?_
    exact Bs ⟨o,e,c⟩ PySem.F.plainAttrs_dict PySem.F.slot_dict_pop PySem.F.type_dict_pop dd
 cases x with
 | obj c i=>exact absurd rfl (hx c i)
 | str z =>
  obtain⟨_,rfl⟩:=vr;refine ZN (show n="isspace" from hp) ?_;exact λA E pl Q hQ=>GM.isspace hQ
 | _=>exact kinds hp
theorem N4 {U U':MH}{kd:Option Bool}{x v:MV}{n:String}{vs:List MV}{y:Value}{xs:List Value}{A:Around}{E:Value->Shared->Prop}{s:Shared}{Q:Value->Shared->Prop}(e:MetR U kd x n vs v U')(hs:∀ z,x=.str z->kd=none)(r:Rel g μ U s)(rm:Room A d k)(vx:VRel g μ s.heap x y)(vv:VRels g μ s.heap vs xs)
  (th:Then g μ s v U' Q):wpAny (model g.prog g.w) A (call (.builtin (FH kd n)) (y::xs)) Q E s:=by
 induction e with
 | isspace kd z c hc hr =>
  cases hs z rfl;obtain⟨_,rfl⟩:=vx;refine ZN (show xs=[]from vv) ?_;refine SC.isspace ?_;refine ZN (I1 hc hr) ?_;exact th.now r .bool
 | append i l x ho hz =>
  obtain⟨_,rfl,hi⟩:=vx;obtain⟨z,rfl,vz⟩:=vv.one;exact LA r hi ho hz vz th
 | extend i l m x ho hm hz =>
  obtain⟨_,rfl,hi⟩:=vx;obtain⟨z,rfl,vz⟩:=vv.one;exact LB r hi ho hm hz vz th
 | lpop i l x ho hx =>
  obtain⟨_,rfl,hi⟩:=vx;refine ZN (show xs=[]from vv) ?_;exact O8 r hi ho hx th
 | get i o k v r0 ho hg =>
  obtain⟨_,rfl,hi⟩:=vx;refine eX2 (vv.two) λz u zz=>aN3 zz λq3 vz vu=>?_;subst q3
  exact O9 r rm hi ho hg vz vu th
 | sold i o k v x ho hg =>
  obtain⟨_,rfl,hi⟩:=vx;refine eX2 (vv.two) λz u zz=>aN3 zz λq3 vz vu=>?_;subst q3
  exact Eg (dv:=.none) r rm hi ho hg vz th
 | snew i o o' k v ho hg hd =>
  obtain⟨_,rfl,hi⟩:=vx;refine eX2 (vv.two) λz u zz=>aN3 zz λq3 vz vu=>?_;subst q3
  exact Ef r rm hi ho hg hd vz vu th
 | dpop i l k x ho hg =>
  obtain⟨_,rfl,hi⟩:=vx;obtain⟨z,rfl,vz⟩:=vv.one;exact N2 r rm hi ho hg vz th
theorem AL {o:Expr}{n:String}{es:List Expr}{to:ME}{ts:List ME}{apos p:Pos}(G:GOk g)(hX:GA X g d k)(hV:Hi X g)(h0:Ai X g d k sc o to)(hp:Eh es)(h1:Ea X g d k sc es ts)
  (hl:autoParam ((apos.endLine == p.line)=true) au) (hz:autoParam (Nat.ble es.length 28=true) au) (hb:autoParam (∀ env whole,attributeBase o (Str.ofString n) env whole=whole) au):Ai X g d k sc (.Call (.Attribute o (Str.ofString n) apos) es [] p) (.meth to n ts):=by
 intro env J U K μ A E s Q ev eo er r rm th;show wpAny _ _ (do
  let ov <- attributeBase o (Str.ofString n) env (eval o env)
  standAt apos.atName
  methodCall o (Str.ofString n) apos p env ov (es.length+0) (backTo p (starEach es env)) (backToKw p (keywordEach [] env))) _ _ _
 rw[hb];refine wpAny_bind (h0 env J U _ μ A E s _ ev eo er r rm λx U₁ ee μ₁ s₁ y x1 r1 st1 v1=>wpAny_bind (wpAny_standAt ?_));obtain⟨hready,hpre,ev⟩:=ee;have er1:=er.ext x1
 by_cases hobj:∃ c i,x=.obj c i
 ·obtain⟨c,i,rfl⟩:=hobj
  obtain⟨f,hf⟩:=hV _ _ hpre;exact HI hp g.K.In (MA G r1 v1 hready hf) (λh hh=>keeps_K (G.keeps _ _ _ hf) h hh) hl (Zh (Za hz)) (h1 env J U₁ _ μ₁ A E s₁ _ p ev eo er1 r1 rm λvs U₂ ev μ₂ s₂ xs x2 r2 st2 v2=>⟨r2.K G,
   hX c n (.obj c i::vs) U₂ K μ₂ A E s₂ Q f (y::xs) ev hf (.cons (v1.ext x2 LocOk.nil) v2) r2 (er1.ext x2).big rm λv U' kv=>((th v U' kv).trans x1 st1).trans x2 st2⟩)
 ·refine HI hp (λ_=>True) (Jh r1 v1 (λc i e=>hobj ⟨c,i,e⟩) hpre) (λh _=>Ci _) hl (Zh (Za hz)) (h1 env J U₁ _ μ₁ A E s₁ _ p ev eo er1 r1 rm λvs U₂ ev μ₂ s₂ xs x2 r2 st2 v2=>⟨trivial,?_⟩)
  have ev:∃ v U',MetR U₂ (CD U₁ x) x n vs v U'/\K v U':=by
   cases x <;> first | exact ev | (exfalso;exact hobj ⟨_,_,rfl⟩)
  obtain⟨v,U',e,kv⟩:=ev;exact N4 e (λz e=>by refine ZN e ?_;rfl) r2 rm (v1.ext x2 LocOk.nil) v2 (((th v U' kv).trans x1 st1).trans x2 st2)
end
section
variable {g:Gl} {μ μ':List Addr} {h h':Heap} {X:CK} {d k:Nat} {sc:Scope}
noncomputable def Pb (g:Gl) (μ:List Addr) (h:Heap) (fl:FL) (F:Flow):Prop:=match fl with
 | .next=>F=.next
 | .cont=>F=.cont
 | .ret v=>∃ x,F=.ret x/\VRel g μ h v x
noncomputable abbrev ThenF (g:Gl) (env:Env) (μ:List Addr) (s:Shared) (fl:FL) (J':ME') (U':MH) (Q:Flow->Shared->Prop):Prop :=
 ∀ (μ':List Addr) (s':Shared) (F:Flow),Ext (Env.mine env) μ μ' s.heap s'.heap->Rel g μ' U' s'->Still s s'->EnvRel g μ' J' env s'.heap->Pb g μ' s'.heap fl F->Q F s'
noncomputable abbrev MB (g:Gl) (env:Env) (μ:List Addr) (s:Shared) (K:FL->ME'->MH->Prop) (Q:Flow->Shared->Prop):Prop:=∀ fl J' U',K fl J' U'->ThenF g env μ s fl J' U' Q
noncomputable def Fb (X:CK) (g:Gl) (d k:Nat) (sc:Scope) (st:Stmt) (t:MS):Prop :=
 ∀ (env:Env) (J:ME') (U:MH) (K:FL->ME'->MH->Prop) (μ:List Addr) (A:Around) (E:Value->Shared->Prop) (s:Shared) (Q:Flow->Shared->Prop),
  exK X t J U K->EnvOk sc env->EnvRel g μ J env s.heap->Rel g μ U s->Room A d k->MB g env μ s K Q->wpAny (model g.prog g.w) A (exec st env) Q E s
noncomputable def Go (X:CK) (g:Gl) (d k:Nat) (sc:Scope) (st:List Stmt) (t:List MS):Prop :=
 ∀ (env:Env) (J:ME') (U:MH) (K:FL->ME'->MH->Prop) (μ:List Addr) (A:Around) (E:Value->Shared->Prop) (s:Shared) (Q:Flow->Shared->Prop),
  exKs X t J U K->EnvOk sc env->EnvRel g μ J env s.heap->Rel g μ U s->Room A d k->MB g env μ s K Q->wpAny (model g.prog g.w) A (execs st env) Q E s
theorem EnvRel.loc {J:ME'}{env:Env}(E:EnvRel g μ J env h):LocOk g (Env.mine env) h:=by
 intro a ha o e;rcases Zz ha with rfl | ha
 ·refine eX4 (E.ns) λm o' es ep zz=>aN3 zz λe' d _=>?_
  replace e':=ZO e.symm e';cases e';exact .inl ⟨λxs n q=>(by replace q:=ZO d.symm q;cases q),λq=>(by replace q:=ZO d.symm q;cases q)⟩
 ·refine eX1 (ZB ha) λp zz=>aN2 zz λhm q3=>?_;subst q3
  obtain⟨⟨v,o',e',d⟩,_⟩:=E.cell p hm;replace e':=ZO e.symm e';cases e';exact .inl ⟨λxs n q=>(by replace q:=ZO d.symm q;cases q),λq=>(by replace q:=ZO d.symm q;cases q)⟩
theorem EnvRel.mineOk {J:ME'}{env:Env}(E:EnvRel g μ J env h):∀ a∈Env.mine env,a∉μ/\2<a/\g.h0.get? a=none/\∃ o,h.get? a=some o:=by
 intro a ha;rcases Zz ha with rfl | ha
 ·refine eX4 (E.ns) λm o' es ep zz=>aN2 zz λe' _=>?_
  exact⟨E.lL,E.l2,E.l0,o',e'⟩
 ·refine eX1 (ZB ha) λp zz=>aN2 zz λhm q3=>?_;subst q3
  refine aN5 (E.cell p hm) λq1 n n2 nl n0=>?_;refine eX2 (q1) λv o' zz=>aN2 zz λe' d=>?_
  exact⟨n,n2,n0,o',e'⟩
noncomputable abbrev ThenU (g:Gl) (env:Env) (μ:List Addr) (s:Shared) (J':ME') (U':MH) (Q:Unit->Shared->Prop):Prop :=
 ∀ (μ':List Addr) (s':Shared),Ext (Env.mine env) μ μ' s.heap s'.heap->Rel g μ' U' s'->Still s s'->EnvRel g μ' J' env s'.heap->Q () s'
theorem Dd {h h':Heap}{a:Addr}{m:Str->Option Value}(hn:h.Ns a m)(e:∀ o,h.get? a=some o->h'.get? a=some o):h'.Ns a m :=
 let ⟨o,es,ep,x,r⟩:=hn;⟨o,es,ep,e o x,r⟩
theorem BX {h h':Heap}{a:Addr}{v:Option Value}(hn:h.IsCell a v)(e:∀ o,h.get? a=some o->h'.get? a=some o):h'.IsCell a v :=
 let ⟨o,x,r⟩:=hn;⟨o,e o x,r⟩
theorem Dw {x:String}{v:MV}{y:Value}{env:Env}{J:ME'}{U:MH}{A:Around}{E:Value->Shared->Prop}{s:Shared}{Q:Unit->Shared->Prop}(eo:EnvOk sc env)(er:EnvRel g μ J env s.heap)(r:Rel g μ U s)(vr:VRel g μ s.heap v y)
  (hk:(sc.names.lookup (Str.ofString x) == some .local || sc.names.lookup (Str.ofString x) == some .cell)=true) (th:ThenU g env μ s ((x,v)::J) U Q):wpAny (model g.prog g.w) A (storeName env (Str.ofString x) y) Q E s:=by
 have one:∀ (a:Addr),a∈Env.mine env->∀ (s':Shared),(∀ b:Nat,b≠a->s'.heap.get? b=s.heap.get? b)->(∃ o',s'.heap.get? a=some o')->s'.gens=s.gens->s'.os=s.os->(Ext (Env.mine env) μ μ s.heap s'.heap/\Rel g μ U s'/\Still s s'/\∀ {v y},VRel g μ s.heap v y->VRel g μ s'.heap v y):=by
  intro a ha s' hb ht h1 h2;refine aN4 (er.mineOk a ha) λn n2 n0 zz=>eX1 zz λo eo=>?_
  have hl:LocOk g [a] s.heap:=λb hb o e=>er.loc b (by refine ZN (Zx hb) ?_;exact ha) o e
  have kb:∀ (b:Nat) (o:Obj),b≠2->b∉[a]->s.heap.get? b=some o->s'.heap.get? b=some o:=λb o _ q e=>(hb b (λz=>q (by refine ZN z ?_;exact .head _))).trans e
  refine⟨⟨⟨λb o b2 e q1 q2=>kb b o b2 (λz=>q2 (by refine ZN (Zx z) ?_;exact ha)) e,⟨[],by simp,by simp⟩⟩,λb o b2 e=>?_⟩,?_,⟨h1,h2⟩,λr=>r.but kb hl⟩
  ·by_cases q:b=a
   ·subst q
    exact ht
   ·exact⟨o,(hb b q).trans e⟩
  ·refine r.but kb hl (λb hb=>by refine ZN (Zx hb) ?_;exact n) (λb hb=>by refine ZN (Zx hb) ?_;exact n0) (λo e=>(hb 2 (Zk n2)).trans e) λb hb _=>(by refine ZN (Zx hb) ?_;exact ht)
 have names:∀ z,(Str.ofString z=Str.ofString x)↔z=x:=λz=>⟨Ah,λe=>by rw[e]⟩
 simp only[Bool.or_eq_true,beq_iff_eq]at hk;rcases hk with hk | hk
 ·obtain⟨m,hm⟩:=er.ns
  refine wpAny_storeName_local (by rw[eo.kindOf];exact hk) hm (λh' hn hs=>?_) (by refine ZN eo.fn ?_;rfl);refine eX3 (id hm) λoL es ep zz=>aN2 zz λeL dL=>?_
  have cl:∃ o',h'.get? env.locals=some o':=by refine eX3 (id hn) λo' _ _ zz=>aN2 zz λe' _=>?_;exact⟨o',e'⟩
  refine aN4 (one env.locals (.head _) { s with heap:=h',toks:=s.toks+1 } (λb q=>hs.2 b q) cl rfl rfl) λex rl st vv=>?_
  refine th μ _ ex rl st ⟨⟨_,hn⟩,er.lL,er.l2,er.l0,λp hp=>?_,er.inj,er.has,λz w e=>?_⟩
  ·refine aN5 (er.cell p hp) λq1 a1 a2 a3 a4=>?_;obtain⟨v0,hv⟩:=q1
   exact⟨⟨v0,BX hv λo e=>(hs.2 p.2 a3).trans e⟩,a1,a2,a3,a4⟩
  ·replace e:=ZO List.lookup_cons.symm e
   unfold DH
   split at e
   ·rename_i q
    cases e;refine ZN (beq_iff_eq.mp q) ?_;rw[eo.kindOf];refine ZN hk ?_;exact⟨_,y,hn,by simp,vv vr⟩
   ·rename_i q
    have q:z≠x:=λe=>by subst e;simp at q
    have va:=er.vars z w e;unfold DH at va
    split at va
    ·refine eX2 (va) λm0 y0 zz=>aN3 zz λb1 b2 b3=>?_
     refine⟨_,y0,hn,?_,vv b3⟩;refine ZO (if_neg (λe=>q ((names z).mp e))) ?_;refine ZN (Du hm b1) ?_;exact b2
    ·refine eX2 (va) λc y0 zz=>aN3 zz λb1 b2 b3=>?_
     exact⟨c,y0,b1,BX b2 λo e=>(hs.2 c (er.cell _ (mem_of_lookup b1)).2.2.2.1).trans e,vv b3⟩
    ·refine eX2 (va) λc y0 zz=>aN3 zz λb1 b2 b3=>?_
     exact⟨c,y0,b1,BX b2 λo e=>(hs.2 c (er.cell _ (mem_of_lookup b1)).2.2.2.1).trans e,vv b3⟩
    ·trivial
 ·obtain⟨c,hc⟩:=er.has _ (.inl (by rw[eo.kindOf];exact hk))
  refine aN5 (er.cell _ (mem_of_lookup hc)) λq1 c1 c2 c3 c4=>?_;obtain⟨v0,hv0⟩:=q1
  refine wpAny_storeName_cell eo.fn (by rw[eo.kindOf];exact hk) hc hv0 (λh' hn hs=>?_);have cl:∃ o',h'.get? c=some o':=by refine eX1 (id hn) λo' zz=>aN2 zz λe' _=>?_;exact⟨o',e'⟩
  refine aN4 (one c (.tail _ (ZE (f:=(·.2)) (mem_of_lookup hc))) { s with heap:=h' } (λb q=>hs.2 b q) cl rfl rfl) λex rl st vv=>?_
  obtain⟨m,hm⟩:=er.ns;have hm':h'.Ns env.locals m:=Dd hm λo e=>(hs.2 _ (Ne.symm c3)).trans e
  have other:∀ {z:Str} {c':Addr} {w:Option Value},env.cells.lookup z=some c'->z≠Str.ofString x->s.heap.IsCell c' w->h'.IsCell c' w:=λ{z c' w} h1 h2 h3=>BX h3 λo e=>(hs.2 c' (λq=>h2 (by subst q;exact er.inj _ _ _ h1 hc))).trans e
  refine th μ _ ex rl st ⟨⟨m,hm'⟩,er.lL,er.l2,er.l0,λp hp=>?_,er.inj,er.has,λz w e=>?_⟩
  ·refine aN5 (er.cell p hp) λq1 a1 a2 a3 a4=>?_;obtain⟨v0,hv⟩:=q1
   by_cases q:p.2=c
   ·exact⟨⟨_,q▸hn⟩,a1,a2,a3,a4⟩
   ·exact⟨⟨v0,BX hv λo e=>(hs.2 p.2 q).trans e⟩,a1,a2,a3,a4⟩
  ·replace e:=ZO List.lookup_cons.symm e
   unfold DH
   split at e
   ·rename_i q
    cases e;refine ZN (beq_iff_eq.mp q) ?_;rw[eo.kindOf];refine ZN hk ?_;exact⟨c,y,hc,hn,vv vr⟩
   ·rename_i q
    have q:z≠x:=λe=>by subst e;simp at q
    have q':Str.ofString z≠Str.ofString x:=λe=>q ((names z).mp e)
    have va:=er.vars z w e;unfold DH at va
    split at va
    ·refine eX2 (va) λm0 y0 zz=>aN3 zz λb1 b2 b3=>?_
     exact⟨m,y0,hm',by refine ZN (Du hm b1) ?_;exact b2,vv b3⟩
    ·refine eX2 (va) λc' y0 zz=>aN3 zz λb1 b2 b3=>?_
     exact⟨c',y0,b1,other b1 q' b2,vv b3⟩
    ·refine eX2 (va) λc' y0 zz=>aN3 zz λb1 b2 b3=>?_
     exact⟨c',y0,b1,other b1 q' b2,vv b3⟩
    ·trivial
end
section
variable {g:Gl} {μ μ':List Addr} {h h':Heap} {X:CK} {d k:Nat} {sc:Scope}
theorem ARel.put {l:List (String×MV)}{es:List DictEntry}(r:ARel g μ h l es)(nd:(l.map (·.1)).Nodup)(n:String){v:MV}{y:Value}{hsh:Int}{tk:Tok}(b:VRel g μ h v y):ARel g μ h (put l n v) (putL (Str.ofString n) hsh (.str (Str.ofString n) tk) y es):=by
 have key:∀ {l:List (String×MV)} {es:List DictEntry},ARel g μ h l es->l.lookup n=none->ARel g μ h (l++[(n,v)]) (putL (Str.ofString n) hsh (.str (Str.ofString n) tk) y es):=by
  intro l es r
  induction r with
  | nil=>intro _;exact .cons rfl b .nil
  | @cons m w t e r es a c _ ih =>
   intro hn;replace hn:=ZO List.lookup_cons.symm hn
   split at hn
   ·cases hn
   ·rename_i q
    have:e.key.isStr (Str.ofString n)=false:=by
     refine ZN a ?_;show (Str.ofString m == Str.ofString n)=false;refine beq_eq_false_iff_ne.mpr ?_;intro z;rw[Ah z]at q;simp at q
    unfold putL;refine ZN this ?_;exact .cons a c (ih hn)
 have key2:∀ {l:List (String×MV)} {es:List DictEntry},ARel g μ h l es->(l.map (·.1)).Nodup->(l.lookup n).isSome=true->ARel g μ h (l.map λp=>if p.1=n then (n,v)else p) (putL (Str.ofString n) hsh (.str (Str.ofString n) tk) y es):=by
  intro l es r
  induction r with
  | nil=>intro _ hn;simp at hn
  | @cons m w t e r es a c rr ih =>
   intro nd hn;rw[ZJ]at nd;replace nd:=List.nodup_cons.mp nd;refine ZN ZJ ?_;unfold putL
   by_cases q:m=n
   ·subst q
    have:e.key.isStr (Str.ofString m)=true:=by refine ZN a ?_;show (Str.ofString m == Str.ofString m)=true;simp
    refine ZN this ?_;refine ZN (if_pos rfl) ?_;refine ZN (if_pos rfl) ?_;have:(r.map λp=>if p.1=m then (m,v)else p)=r:=by
     refine (ZL (g:=id) λp hp=>?_).trans (List.map_id _);rw[if_neg];rfl;intro z;exact nd.1 (ZC ⟨p,hp,z⟩)
    refine ZN this ?_;exact .cons a b rr
   ·have:e.key.isStr (Str.ofString n)=false:=by
     refine ZN a ?_;show (Str.ofString m == Str.ofString n)=false;refine beq_eq_false_iff_ne.mpr ?_;exact λz=>q (Ah z)
    refine ZN this ?_;refine ZN (if_neg q) ?_;rw[List.lookup_cons,show (n == m)=false from beq_eq_false_iff_ne.mpr λz=>q z.symm]at hn;exact .cons a c (ih nd.2 hn)
 unfold Internal.put
 split
 ·rename_i q;exact key2 r nd q
 ·rename_i q
  exact key r (by cases z:l.lookup n with | none=>rfl | some _=>rw[z]at q;exact absurd rfl q)
theorem MC {l:List (String×MV)}{n:String}{v:MV}(hn:n∈attrNames)(h1:∀ p∈l,p.1∈attrNames)(nd:(l.map (·.1)).Nodup):(∀ p∈put l n v,p.1∈attrNames)/\((put l n v).map (·.1)).Nodup:=by
 unfold put
 split
 ·have e:((l.map λp=>if p.1=n then (n,v)else p).map (·.1))=l.map (·.1):=by
   refine ZO List.map_map ?_;refine ZL λp _=>?_
   show (if p.1=n then (n,v)else p).1=p.1
   split
   ·rename_i q;exact q.symm
   ·rfl
  refine⟨λp hp=>?_,by refine ZN e ?_;exact nd⟩;have:p.1∈l.map (·.1):=by refine ZN e.symm ?_;exact ZE (f:=(·.1)) hp
  refine eX1 (ZB this) λq zz=>aN2 zz λhq e=>?_
  refine ZN e.symm ?_;exact h1 q hq
 ·rename_i q
  refine⟨λp hp=>?_,?_⟩
  ·rcases ZA hp with hp | hp
   ·exact h1 p hp
   ·refine ZN (Zx hp) ?_;exact hn
  ·refine ZN List.map_append ?_;refine List.nodup_append.mpr ?_
   refine⟨nd,by simp,λa ha b hb=>?_⟩;simp only[ZJ,List.map_nil,List.mem_singleton]at hb;subst hb
   rintro rfl
   obtain⟨p,hp,rfl⟩:=ZB ha;apply q;clear q nd h1 ha
   induction l with
   | nil=>cases hp
   | cons x l ih =>
    refine ZN List.lookup_cons ?_
    split
    ·rfl
    ·rename_i z
     rcases Zz hp with rfl | hp
     ·simp at z
     ·exact ih hp
theorem I2 (name:Str)(hsh:Int)(key v:Value)(es:List DictEntry):(putL name hsh key v es).length<=es.length+1:=by
 induction es with
 | nil=>simp[putL]
 | cons e r ih=>unfold putL;split <;> simp <;> exact ih
section
variable {prog:Program} {w:World} {A:Around} {s:Shared} {K:Frag} {x C:Addr} {R:Result->Shared->Prop}
set_option tactic.hygienic true in
theorem LC {ox od od':Obj}{dx:Addr}{name:Str}{tk:Tok}{v:Value}{es:List DictEntry}{n:Nat}(X:K.In s.heap)(I:InstAt s.heap x ox C (some od))(D:s.heap.get? dx=some od)(hd:ox.dict=some dx)(hp:plainOver K C=true)(ht:takerIn K C name=some none)
  (hh:(clsIn K C).any (·.hasDict)=true) (hl:(lookIn name od).isSome=true) (e:Obj.putName name (PyData.keyHash w.params name) (.str name s.toks) v od=od') (e':od'.data=.dict es.toArray n) (hz:es.length<=1000)
  (h:∀ h',Heap.SameBut dx s.heap h'->h'.get? dx=some od'->R (.ok (.ret .none)) { s with heap:=h',toks:=s.toks+1 }) :
  codeAny (model prog w) A (.call (.builtin "object.__setattr__") ⟨[.ref x,.str name tk,v],[]⟩) R s:=by
 refine osa_open X I hp ht λb=>?_
 refine eX1 (any_some hh) λcd zz=>aN2 zz λhc hd'=>?_
 have D':(s.heap.update dx (Obj.putName name (PyData.keyHash w.params name) (.str name s.toks) v)).get? dx=some od':=by
  refine ZN e.symm ?_;exact Heap.get?_update_self _ D (by refine ZN e ?_;obtain⟨_,_,dd,_⟩:=od';cases e';rfl)
 obtain⟨hx,hcl,hn,-⟩:=I;obtain⟨oc,odi,oda,osl⟩:=ox;dsimp only at hcl hd;subst hcl hd;refine wpAny_bind (wpAny_pure (wpAny_bind (wpAny_bind (wpAny_loadPart hx (wpAny_bind ((looks_clsIn X hc).here ?_))))));refine ZN hd' ?_;refine wpAny_pure (a:=some dx) (wpAny_bind (wpAny_pure (wpAny_bind ?_)));refine wpAny_bind (wpAny_bind (wpAny_askSetting (wpAny_pure (wpAny_bind (wpAny_mkText (wpAny_bind (wpAny_loadPart D ?_)))))));unfold lookIn at hl
 split at hl
 ·rename_i es₀ n₀ q
  refine ZN q ?_;dsimp only;have c:(!es₀.any (·.key.isStr name) && es₀.any (·.refKey))=false:=by
   refine ZN Array.any_toList.symm ?_;refine ZN Array.any_toList.symm ?_
   split at hl
   ·rename_i en he
    refine ZN (List.any_eq_true.mpr ⟨en,List.mem_of_find?_eq_some he,List.find?_some he⟩) ?_;rfl
   ·split at hl
    ·cases hl
    ·rename_i z;rw[Bool.not_eq_true]at z;refine ZN z ?_;rw[Bool.and_false]
  rw[aRefKeyMayBeTheName_at];refine ZN c ?_;refine wpAny_updatePart D ?_;refine wpAny_bind (wpAny_lookBehind D' (by refine ZN e' ?_;exact pastItsLine_dict (by rw[List.size_toArray,sizeLine_eq];exact Zc hz (Za rfl))) ?_);exact wpAny_pure (h _ (Heap.SameBut.update ..) D')
 ·cases hl
end
theorem Ji {U:MH}{c n:String}{i:Nat}{l:List (String×MV)}{v:MV}{x y:Value}{A:Around}{E:Value->Shared->Prop}{s:Shared}{Q:Unit->Shared->Prop}(G:GOk g)(r:Rel g μ U s)(vx:VRel g μ s.heap (.obj c i) x)(ho:U[i]? = some (.attrs l))(hl:l.length<100)(hn:n∈attrNames)(vv:VRel g μ s.heap v y)
  (th:∀ s',Ext [] μ μ s.heap s'.heap->Rel g μ (U.set i (.attrs (put l n v))) s'->Still s s'->Q () s'):wpAny (model g.prog g.w) A (setAttr x (Str.ofString n) y) Q E s:=by
 refine eX5 (He r vx ho) λa C dd es m zz=>PZ zz λq6 hc hi hz ha hx hx2 e1 e2 I=>?_;subst q6
 obtain⟨s1,s2⟩:=G.setattr _ _ hc;have e2':({ cls:=.type "dict",data:=.dict es m }:Obj)=dictOf es.toList m:=by unfold dictOf;rw[Array.toArray_toList]
 refine set_plain (r.K G) I s1 ?_;refine LC (s:={ s with toks:=s.toks+1 }) (od':=dictOf (putL (Str.ofString n) (PyData.keyHash g.w.params (Str.ofString n)) (.str (Str.ofString n) (s.toks+1)) y es.toList) (putN (Str.ofString n) es.toList m)) (es:=putL (Str.ofString n) (PyData.keyHash g.w.params (Str.ofString n)) (.str (Str.ofString n) (s.toks+1)) y es.toList) (n:=putN (Str.ofString n) es.toList m)
  (show g.K.In s.heap from r.K G) I e2 rfl s2 ?_ ?_ ?_ (by refine ZN e2' ?_;exact putName_dict _ _ _ _ _ _) rfl ?_ λh' hsb hnew=>?_
 ·unfold takerIn;refine ZN (G.attr _ _ _ hc hn) ?_;rfl
 ·refine eX1 (G.dict _ _ hc) λcd zz=>aN2 zz λh1 h2=>?_
  rw[h1];exact h2
 ·unfold lookIn
  dsimp only;rcases ha.at n with ⟨_,q⟩ | z0
  ·rw[q];dsimp only;rw[if_neg (by rw[ha.noRef];decide)];rfl
  ·refine eX2 (z0) λw e zz=>aN3 zz λ_ q _=>?_
   refine ZN q ?_;rfl
 ·have:=I2 (Str.ofString n) (PyData.keyHash g.w.params (Str.ofString n)) (.str (Str.ofString n) (s.toks+1)) y es.toList
  have:=ha.length;lia
 ·have tn:Turn dd s.heap h':=⟨λb o b2 bd e=>(hsb.2 b bd).trans e,⟨_,hnew⟩,λo e=>(hsb.2 2 (Zk (r.low _ (Zy hi)))).trans e⟩
  have ex:=tn.ext (μ:=μ) [] (Zy hi);refine th { s with heap:=h',toks:=s.toks+1+1 } ex (r.turn (s':={ s with heap:=h',toks:=s.toks+1+1 }) hi tn ?_) ⟨rfl,rfl⟩;obtain⟨k1,k2⟩:=MC (v:=v) hn hz.2.1 hz.2.2;refine⟨⟨?_,k1,k2⟩,_,_,hnew,?_⟩
  ·have:=EN l n v;lia
  ·exact (ha.put hz.2.2 n vv).ext ex LocOk.nil
end
section
variable {g:Gl} {μ μ':List Addr} {h h':Heap} {X:CK} {d k:Nat} {sc:Scope}
theorem ThenU.trans {env:Env}{s s':Shared}{J':ME'}{U':MH}{Q:Unit->Shared->Prop}(t:ThenU g env μ s J' U' Q)(x:Ext (Env.mine env) μ μ' s.heap s'.heap)(st:Still s s'):ThenU g env μ' s' J' U' Q :=
 λμ'' s'' x' r st' er=>t μ'' s'' (x.trans x' λa ha=>.inl ha) r (st.trans st') er
theorem ThenF.trans {env:Env}{s s':Shared}{fl:FL}{J':ME'}{U':MH}{Q:Flow->Shared->Prop}(t:ThenF g env μ s fl J' U' Q)(x:Ext (Env.mine env) μ μ' s.heap s'.heap)(st:Still s s'):ThenF g env μ' s' fl J' U' Q :=
 λμ'' s'' F x' r st' er fr=>t μ'' s'' F (x.trans x' λa ha=>.inl ha) r (st.trans st') er fr
theorem Ext.up {loc:List Addr}(x:Ext [] μ μ' h h'):Ext loc μ μ' h h':=x.loc λa ha=>nomatch ha
noncomputable abbrev MD (g:Gl) (env:Env) (μ:List Addr) (s:Shared) (K:ME'->MH->Prop) (Q:Unit->Shared->Prop):Prop:=∀ J' U',K J' U'->ThenU g env μ s J' U' Q
noncomputable def MF (X:CK) (g:Gl) (d k:Nat) (sc:Scope) (t:Expr) (p:PL):Prop :=
 ∀ (env:Env) (J:ME') (U:MH) (K:ME'->MH->Prop) (v:MV) (y:Value) (μ:List Addr) (A:Around) (E:Value->Shared->Prop) (s:Shared) (Q:Unit->Shared->Prop),
  stK X p v J U K->EnvOk sc env->EnvRel g μ J env s.heap->Rel g μ U s->Room A d k->VRel g μ s.heap v y->MD g env μ s K Q->wpAny (model g.prog g.w) A (assign t env y) Q E s
theorem Ae {x:String}{p:Pos}(hk:(sc.names.lookup (Str.ofString x) == some .local || sc.names.lookup (Str.ofString x) == some .cell)=true):MF X g d k sc (.Name (Str.ofString x) p) (.v x) :=
 λenv J U K v y μ A E s Q ev eo er r rm vr th=>PyProof.Rows.assign_Name (Dw eo er r vr hk (th _ _ ev))
theorem Az {o:Expr}{n:String}{to:ME}{p:Pos}(G:GOk g)(h1:Ai X g d k sc o to):MF X g d k sc (.Attribute o (Str.ofString n) p) (.attr to n):=by
 intro env J U K v y μ A E s Q ev eo er r rm vr th;show wpAny _ _ (do
  let ov <- holding [y] (eval o env)
  standAt p.atName
  holding [y,ov] (setAttr ov (Str.ofString n) y)
  release [y,ov] []) _ _ _
 refine wpAny_bind (wpAny_holding (h1 env J U _ μ A E s _ ev eo er r rm λx U₁ ee μ₁ s₁ x x1 r1 st1 v1=>wpAny_bind (wpAny_standAt (wpAny_bind (wpAny_holding ?_)))));refine eX3 (ee) λc i l zz=>aN5 zz λex hl hz hn kv=>?_
 subst ex;exact Ji G r1 v1 hl hz hn (vr.ext x1 LocOk.nil) λs₂ x2 r2 st2=>wpAny_release' (th _ _ kv μ₁ s₂ (x1.trans x2 λa q=>nomatch q).up r2 (st1.trans st2) ((er.ext x1).ext x2))
noncomputable def Pc (i:Expr) (v ov iv:Value):List Value:=match i with
 | .Slice _ _ none _=>[iv,v,ov]
 | _=>[v,ov,iv]
theorem C0 {o i:Expr}{to ti:ME}{p:Pos}(h1:Ai X g d k sc o to)(h2:Ai X g d k sc i ti):MF X g d k sc (.Subscript o i p) (.idx to ti):=by
 intro env J U K v y μ A E s Q ev eo er r rm vr th;show wpAny _ _ (do
  let ov <- holding [y] (eval o env)
  let iv <- holding [y,ov] (eval i env)
  standAt p
  holding [y,ov,iv] (setItem ov iv y)
  release (Pc i y ov iv) []) _ _ _
 refine wpAny_bind (wpAny_holding (h1 env J U _ μ A E s _ ev eo er r rm λx U₁ ev μ₁ s₁ x x1 r1 st1 v1=>wpAny_bind (wpAny_holding ?_)));refine h2 env J U₁ _ μ₁ A E s₁ _ ev eo (er.ext x1) r1 rm λkv U₂ ee μ₂ s₂ z x2 r2 st2 v2=>wpAny_bind (wpAny_standAt (wpAny_bind (wpAny_holding ?_)))
 refine eX2 (ee) λa o' zz=>aN3 zz λex ho kk=>?_
 have x12:=x1.trans x2 λa q=>nomatch q
 subst ex;obtain⟨_,rfl,hi⟩:=v1;exact Jg r2 rm (x2.get hi) v2 (vr.ext x12 LocOk.nil) ho λs₃ x3 r3 st3=>wpAny_release' (th _ _ kk μ₂ s₃ (x12.trans x3 λa q=>nomatch q).up r3 ((st1.trans st2).trans st3) ((er.ext x12).ext x3))
noncomputable def I3 (X:CK) (g:Gl) (d k:Nat) (sc:Scope) (ts:List Expr) (ps:List PL):Prop :=
 ∀ (env:Env) (J:ME') (U:MH) (K:ME'->MH->Prop) (vs:List MV) (ys:List Value) (μ:List Addr) (A:Around) (E:Value->Shared->Prop) (s:Shared) (Q:Unit->Shared->Prop),
  Lo X ps vs J U K->EnvOk sc env->EnvRel g μ J env s.heap->Rel g μ U s->Room A d k->VRels g μ s.heap vs ys->MD g env μ s K Q->wpAny (model g.prog g.w) A (assignInOrder ((assignEach ts env).map (·.2)) ys) Q E s
theorem Bv:I3 X g d k sc [] []:=by
 intro env J U K vs ys μ A E s Q ⟨e,kv⟩ eo er r rm vr th;subst e;refine ZN (show ys=[]from vr) ?_;exact wpAny_pure (th _ _ kv μ s (Ext.refl _ _ _) r (Still.refl _) er)
theorem Af {t:Expr}{ts:List Expr}{p:PL}{ps:List PL}(h1:MF X g d k sc t p)(h2:I3 X g d k sc ts ps)(hs:autoParam (∀ env,assignEach (t::ts) env=(false,assign t env)::assignEach ts env) au):I3 X g d k sc (t::ts) (p::ps):=by
 intro env J U K vs ys μ A E s Q ⟨v,ws,e,ev⟩ eo er r rm vr th;subst e;refine eX2 (vr) λy ys zz=>aN3 zz λq3 a b=>?_;subst q3
 rw[hs];exact wpAny_bind (wpAny_holding (h1 env J U _ v y μ A E s _ ev eo er r rm a λJ₁ U₁ ev μ₁ s₁ x1 r1 st1 er1=>h2 env J₁ U₁ K ws ys μ₁ A E s₁ Q ev eo er1 r1 rm (b.ext x1 er.loc) λJ' U' kv=>(th J' U' kv).trans x1 st1))
theorem Dx {U:MH}{v:MV}{vs:List MV}{y:Value}{n:Nat}{A:Around}{E:Value->Shared->Prop}{s:Shared}{Q:List Value->Shared->Prop}(e:items U v=some vs)(hn:n=vs.length)(r:Rel g μ U s)(rm:Room A d k)(vr:VRel g μ s.heap v y)
  (th:∀ s' ys,Grow s.heap s'.heap->Still s s'->VRels g μ s'.heap vs ys->Q ys s'):wpAny (model g.prog g.w) A (unpackItems y n none) Q E s:=by
 have fin:∀ (h':Heap) (ys:List Value),Heap.ExtBut s.heap.objs.size s.heap h'->VRels g μ s.heap vs ys->Q ys { s with heap:=h' }:=λh' ys he vv=>by
  have gr:Grow s.heap h':=Grow.of_keep λb o e=>he b o (Zk (Heap.lt_size e)) e
  exact th { s with heap:=h' } ys gr ⟨rfl,rfl⟩ (vv.ext (gr.ext [] μ) LocOk.nil)
 by_cases hv:∃ l,v=.tup l
 ·obtain⟨l',rfl⟩:=hv
  cases e;refine eX2 (vr) λa it zz=>aN5 zz λq3 i1 _ _ i4=>?_;subst q3
  refine ZN hn ?_;refine ZN i4.arr ?_;exact wpAny_unpackItems_tuple rm.handled i1 λh' he=>fin h' _ he i4
 ·have hl':AO U v=some vs:=by
   cases v <;> first | exact e | (exfalso;exact hv ⟨_,rfl⟩)
  refine eX2 (listItems_at r vr hl') λaa ia zz=>aN3 zz λq3 i1 i4=>?_;subst q3
  refine ZN hn ?_;refine ZN i4.arr ?_;exact kun_itemsOf rm.handled i1 λh' he=>fin h' _ he i4
end
section
variable {g:Gl} {μ μ':List Addr} {h h':Heap} {X:CK} {d k:Nat} {sc:Scope}
theorem ThenF.thenU {env:Env}{s:Shared}{J':ME'}{U':MH}{Q:Flow->Shared->Prop}(t:ThenF g env μ s .next J' U' Q):ThenU g env μ s J' U' (λ_=>Q .next) :=
 λμ' s' x r st er=>t μ' s' .next x r st er rfl
theorem AK:Go X g d k sc [] []:=λenv J U K μ A E s Q ev eo er r rm th=>wpAny_execs_nil (th _ _ _ ev μ s .next (Ext.refl _ _ _) r (Still.refl _) er rfl)
theorem AE {st:Stmt}{sts:List Stmt}{t:MS}{ts:List MS}(h1:Fb X g d k sc st t)(h2:Go X g d k sc sts ts):Go X g d k sc (st::sts) (t::ts):=by
 intro env J U K μ A E s Q ev eo er r rm th;refine wpAny_execs_cons (h1 env J U _ μ A E s _ ev eo er r rm λfl J₁ U₁ ev μ₁ s₁ F x1 r1 st1 er1 fr=>?_);cases fl with
 | next=>cases fr;exact h2 env J₁ U₁ K μ₁ A E s₁ Q ev eo er1 r1 rm λfl J' U' kv=>(th fl J' U' kv).trans x1 st1
 | cont=>cases fr;exact th _ _ _ ev μ₁ s₁ .cont x1 r1 st1 er1 rfl
 | ret v=>refine eX1 (fr) λx zz=>aN2 zz λq2 vx=>?_;subst q2;exact th _ _ _ ev μ₁ s₁ _ x1 r1 st1 er1 ⟨x,rfl,vx⟩
theorem AM {t e:Expr}{p:PL}{te:ME}{pos:Pos}(h1:Ai X g d k sc e te)(h2:MF X g d k sc t p)
  (hs:∀ env,env.scope=sc->swapsWithSole [t] e pos.line env=pure false) (hw:∀ env,env.scope=sc->swappedStores [t] e env=pure none)
  (ha:autoParam (∀ env,(assignEach [t] env).map (·.2)=[assign t env]) au):Fb X g d k sc (.Assign [t] e pos) (.assign p te):=by
 intro env J U K μ A E s Q ev eo er r rm th;refine wpAny_Assign_stores (h1 env J U _ μ A E s _ ev eo er r rm λv U₁ ev μ₁ s₁ y x1 r1 st1 v1=>?_) (hs env eo.scope) (hw env eo.scope);rw[ha];exact h2 env J U₁ _ v y μ₁ A E s₁ _ ev eo (er.ext x1) r1 rm v1 λJ' U' kv=>((th _ _ _ kv).trans x1.up st1).thenU
theorem B3 {ts:List Expr}{e:Expr}{ps:List PL}{te:ME}{pos tp:Pos}{j:Nat}(h1:Ai X g d k sc e te)(h2:I3 X g d k sc ts ps)(hn:ps.length=ts.length)
  (hs:∀ env,env.scope=sc->swapsWithSole [.Tuple ts j tp] e pos.line env=pure false) (hw:∀ env,env.scope=sc->swappedStores [.Tuple ts j tp] e env=pure none)
  (hl:∀ env,(assignEach ts env).length=ts.length/\(assignEach ts env).findIdx? (·.1)=none):Fb X g d k sc (.Assign [.Tuple ts j tp] e pos) (.unpack ps te):=by
 intro env J U K μ A E s Q ev eo er r rm th;refine PyProof.Rows.Assign_Tuple (h1 env J U _ μ A E s _ ev eo er r rm λv U₁ ee μ₁ s₁ y x1 r1 st1 v1=>?_) (hs env eo.scope) (hw env eo.scope);refine eX1 (ee) λvs zz=>aN3 zz λe3 e4 ev=>?_
 rw[PyProof.Rows.assign_Tuple];refine wpAny_bind (wpAny_standAt ?_);unfold unpack;refine ZN ((hl env).1) ?_;refine ZN ((hl env).2) ?_;refine wpAny_bind (wpAny_holding (Dx e3 (by refine ZO hn.symm ?_;exact e4) r1 rm v1 λs₂ ys gr st2 vv=>?_));have x2:=gr.ext [] μ₁;exact h2 env J U₁ _ vs ys μ₁ A E s₂ _ ev eo ((er.ext x1).ext x2) (r1.grow gr) rm vv λJ' U' kv=>(((th _ _ _ kv).trans x1.up st1).trans x2.up st2).thenU
theorem EnvRel.congr {J J':ME'}{env:Env}(E:EnvRel g μ J env h)(e:∀ x,J'.lookup x=J.lookup x):EnvRel g μ J' env h :=
 ⟨E.ns,E.lL,E.l2,E.l0,E.cell,E.inj,E.has,λx v h=>E.vars x v (by rw[<- e];exact h)⟩
theorem I4 {env:Env}{A:Around}{E:Value->Shared->Prop}(eo:EnvOk sc env){Q:Unit->Shared->Prop}:∀ (names:List String)(vs:List MV)(ys:List Value)(J:ME')(U:MH)(μ:List Addr)(s:Shared),
  names.length=vs.length->(∀ x∈names,(sc.names.lookup (Str.ofString x) == some .local || sc.names.lookup (Str.ofString x) == some .cell)=true)->EnvRel g μ J env s.heap->Rel g μ U s->VRels g μ s.heap vs ys ->
  ThenU g env μ s ((names.zip vs).reverse++J) U Q->wpAny (model g.prog g.w) A (assignInOrder (names.map λn=>bindName env (Str.ofString n)) ys) Q E s:=by
 intro names
 induction names with
 | nil =>
  intro vs ys J U μ s hn hk er r vr th;cases vs with
  | nil=>refine ZN (show ys=[]from vr) ?_;exact wpAny_pure (th μ s (Ext.refl _ _ _) r (Still.refl _) er)
  | cons=>cases hn
 | cons n names ih =>
  intro vs ys J U μ s hn hk er r vr th;cases vs with
  | nil=>cases hn
  | cons v vs =>
   refine eX2 (vr) λy ys zz=>aN3 zz λq3 a b=>?_;subst q3
   refine wpAny_bind (wpAny_holding (wpAny_bindName (Dw eo er r a (hk _ (.head _)) λμ₁ s₁ x1 r1 st1 er1=>?_)));refine ih vs ys ((n,v)::J) U μ₁ s₁ (Nat.succ.inj hn) (λx hx=>hk x (.tail _ hx)) er1 r1 (b.ext x1 er.loc) ?_;refine ThenU.trans ?_ x1 st1;rw[List.zip_cons_cons,List.reverse_cons,List.append_assoc]at th;exact th
theorem Hj {K:ME'->MH->Prop}{U:MH}:∀ (names:List String)(vs:List MV)(J:ME'),Lo X (names.map .v) vs J U K->K ((names.zip vs).reverse++J) U:=by
 intro names
 induction names with
 | nil=>intro vs J ⟨e,kv⟩;subst e;exact kv
 | cons n names ih =>
  intro vs J ⟨v,ws,e,kv⟩;subst e;refine ZN List.zip_cons_cons ?_;refine ZN List.reverse_cons ?_;rw[List.append_assoc];exact ih ws _ kv
theorem DC {κ β:Type} [BEq κ] (l r:List (κ×β))(x:κ):(l++r).lookup x=(l.lookup x).or (r.lookup x):=by
 induction l with
 | nil=>rfl
 | cons p l ih =>
  refine ZN List.cons_append ?_;refine ZO List.lookup_cons ?_;refine ZN List.lookup_cons ?_
  split
  ·rfl
  ·exact ih
theorem I5 {β:Type}{l:List (String×β)}{x:String}(h:x∉l.map (·.1)):l.lookup x=none:=by
 induction l with
 | nil=>rfl
 | cons p l ih =>
  obtain⟨m,w⟩:=p;rw[ZJ,List.mem_cons]at h;replace h:=not_or.mp h;refine ZN List.lookup_cons ?_;refine ZN (show (x == m)=false from beq_eq_false_iff_ne.mpr h.1) ?_;exact ih h.2
theorem De {β:Type}(l:List (String×β))(nd:(l.map (·.1)).Nodup)(x:String):l.reverse.lookup x=l.lookup x:=by
 induction l with
 | nil=>rfl
 | cons p l ih =>
  obtain⟨m,w⟩:=p;rw[ZJ]at nd;replace nd:=List.nodup_cons.mp nd;refine ZN List.reverse_cons ?_;rw[DC];refine ZN (ih nd.2) ?_
  by_cases q:x=m
  ·subst q
   refine ZN (I5 nd.1) ?_;simp[List.lookup_cons]
  ·have q':(x == m)=false:=beq_eq_false_iff_ne.mpr q
   refine ZN List.lookup_cons ?_;refine ZN List.lookup_cons ?_;refine ZN q' ?_;simp
theorem DI {ts:List Expr}{e:Expr}{names:List String}{te:ME}{pos tp:Pos}{j:Nat}(h1:Ai X g d k sc e te)
  (hk:∀ x∈names,(sc.names.lookup (Str.ofString x) == some .local || sc.names.lookup (Str.ofString x) == some .cell)=true) (nd:names.Nodup)
  (hs:∀ env,env.scope=sc->swapsWithSole [.Tuple ts j tp] e pos.line env=pure false) (hw:∀ env,env.scope=sc->swappedStores [.Tuple ts j tp] e env=pure (some (names.map Str.ofString))):Fb X g d k sc (.Assign [.Tuple ts j tp] e pos) (.unpack (names.map .v) te):=by
 intro env J U K μ A E s Q ev eo er r rm th;refine PyProof.Rows.Assign_Tuple_swapped (h1 env J U _ μ A E s _ ev eo er r rm λv U₁ ee μ₁ s₁ y x1 r1 st1 v1=>?_) (hs env eo.scope) (hw env eo.scope);obtain⟨vs,e3,e4,ev⟩:=ee;have hlen:names.length=vs.length:=by rwa [ZF]at e4
 have kv:=Hj names vs J ev;refine Dx e3 (by rw[ZF];exact hlen) r1 rm v1 λs₂ ys gr st2 vv=>?_
 have x2:=gr.ext [] μ₁;refine ZN List.map_reverse.symm ?_;refine ZN List.map_map ?_;have vrev:VRels g μ₁ s₂.heap vs.reverse ys.reverse:=by
  clear e3 e4 hlen ev kv
  induction vs generalizing ys with
  | nil=>refine ZN (show ys=[]from vv) ?_;exact .nil
  | cons v vs ih=>refine eX2 (vv) λ_ _ zz=>aN3 zz λq3 a b=>?_;subst q3;refine ZN List.reverse_cons ?_;refine ZN List.reverse_cons ?_;exact (ih _ b).snoc a
 refine I4 (Q:=λ_=>Q .next) eo names.reverse vs.reverse ys.reverse J _ μ₁ s₂ (by simp[hlen]) (λx hx=>hk x (List.mem_reverse.mp hx)) ((er.ext x1).ext x2) (r1.grow gr) vrev ?_;intro μ₃ s₃ x3 r3 st3 er3;refine ((((th _ _ _ kv).trans x1.up st1).trans x2.up st2).thenU) μ₃ s₃ x3 r3 st3 (er3.congr λx=>?_);have hz:(names.reverse.zip vs.reverse).reverse=names.zip vs:=by
  have:=List.reverse_zipWith (f:=Prod.mk) hlen
  show (List.zipWith Prod.mk names.reverse vs.reverse).reverse=List.zipWith Prod.mk names vs;refine ZN this.symm ?_;rw[List.reverse_reverse]
 refine ZN hz ?_;rw[DC,DC,De];refine ZN (List.map_fst_zip (Nat.le_of_eq hlen)) ?_;exact nd
theorem Ab {e:Expr}{te:ME}{pos:Pos}(h1:Ai X g d k sc e te)(hi:∀ env,env.scope=sc->interactive env=false:=by rintro _ rfl;rfl)(hs:autoParam (∀ env,swapsWith e none pos.line env=pure false) au):Fb X g d k sc (.Expr e pos) (.expr te) :=
 λenv J U K μ A E s Q ev eo er r rm th=>wpAny_Expr_any (h1 env J U _ μ A E s _ ev eo er r rm λv U₁ kv μ₁ s₁ y x1 r1 st1 v1=>th _ _ _ kv μ₁ s₁ .next x1.up r1 st1 (er.ext x1) rfl) (hi env eo.scope) (hs env)
theorem BZ {c:Expr}{a b:List Stmt}{tc:ME}{ta tb:List MS}{pos:Pos}(h0:EM X g d k sc c tc)(h1:Go X g d k sc a ta)(h2:Go X g d k sc b tb):Fb X g d k sc (.If c a b pos) (.ite tc ta tb) :=
 λenv J U K μ A E s Q ev eo er r rm th=>wpAny_If (h0 env J U (λc U=>match c with | true=>exKs X ta J U K | false=>exKs X tb J U K) μ A E s _ ev eo er r rm λc U₁ ev μ₁ s₁ x1 r1 st1=>match c,ev with
  | true,ev=>h1 env J U₁ K μ₁ A E s₁ Q ev eo (er.ext x1) r1 rm λfl J' U' kv=>(th fl J' U' kv).trans x1.up st1
  | false,ev=>h2 env J U₁ K μ₁ A E s₁ Q ev eo (er.ext x1) r1 rm λfl J' U' kv=>(th fl J' U' kv).trans x1.up st1)
theorem AR {e:Expr}{te:ME}{pos:Pos}(h1:Ai X g d k sc e te):Fb X g d k sc (.Return (some e) pos) (.ret te) :=
 λenv J U K μ A E s Q ev eo er r rm th=>wpAny_Return_some (h1 env J U _ μ A E s _ ev eo er r rm λv U₁ kv μ₁ s₁ y x1 r1 st1 v1=>th _ _ _ kv μ₁ s₁ _ x1.up r1 st1 (er.ext x1) ⟨y,rfl,v1⟩)
theorem LD {pos:Pos}:Fb X g d k sc (.Continue pos) .cont :=
 λenv J U K μ A E s Q ev eo er r rm th=>wpAny_bind (wpAny_standAt (wpAny_pure (th _ _ _ ev μ s .cont (Ext.refl _ _ _) r (Still.refl _) er rfl)))
end
section
variable {g:Gl} {μ μ':List Addr} {h h':Heap} {X:CK} {d k:Nat} {sc:Scope}
theorem CQ {c:Expr}{b:List Stmt}{tc:ME}{tb:List MS}{pos:Pos}(h0:EM X g d k sc c tc)(h1:Go X g d k sc b tb):Fb X g d k sc (.While c b [] pos) (.while tc tb):=by
 intro env J U K μ A E s Q ev eo er r rm th;refine wpAny_While ?_;refine codeAny_whileLoop (λn s'=>∃ J₁ U₁ μ₁,KT (λJ U K=>evK X tc J U λx U=>isB x λb=>K b U) (λJ U K=>exKs X tb J U K) n J₁ U₁ K/\Ext (Env.mine env) μ μ₁ s.heap s'.heap/\Rel g μ₁ U₁ s'/\Still s s'/\EnvRel g μ₁ J₁ env s'.heap) ?_ X.turns ⟨J,U,μ,ev,Ext.refl _ _ _,r,Still.refl _,er⟩;intro n s₁ y2;refine eX3 (y2) λJ₁ U₁ μ₁ zz=>aN5 zz λev x1 r1 st1 er1=>?_
 cases n with
 | zero=>cases ev
 | succ n =>
  refine h0 env J₁ U₁ _ μ₁ A _ s₁ _ ev eo er1 r1 rm λb' U₂ ev μ₂ s₂ x2 r2 st2=>?_
  have x12:Ext (Env.mine env) μ μ₂ s.heap s₂.heap:=x1.trans x2.up λa ha=>.inl ha
  have er2:=er1.ext x2;cases b' with
  | false=>exact wpAny_execs_nil (th _ _ _ ev μ₂ s₂ .next x12 r2 (st1.trans st2) er2 rfl)
  | true =>
   refine h1 env J₁ U₂ _ μ₂ A _ s₂ _ ev eo er2 r2 rm λfl J₂ U₃ ev μ₃ s₃ F x3 r3 st3 er3 fr=>?_
   have x13:=x12.trans x3 λa ha=>.inl ha
   have st13:=(st1.trans st2).trans st3;cases fl with
   | next=>cases fr;exact⟨n,Zo _,J₂,U₃,μ₃,ev,x13,r3,st13,er3⟩
   | cont=>cases fr;exact⟨n,Zo _,J₂,U₃,μ₃,ev,x13,r3,st13,er3⟩
   | ret v=>obtain⟨x,rfl,vx⟩:=fr;exact th _ _ _ ev μ₃ s₃ _ x13 r3 st13 er3 ⟨x,rfl,vx⟩
end
section
variable {g:Gl} {μ μ':List Addr} {h h':Heap} {X:CK} {d k:Nat} {sc:Scope}
noncomputable abbrev DT (own:List Addr) (h h':Heap):Prop:=∀ (b:Nat) (o:Obj),b∉own->h.get? b=some o->h'.get? b=some o
structure Src (g:Gl) (kd:IK) (x:MV) (y0:Value) (target:Expr) (I:Addr) (own:List Addr) (St:Nat->Heap->Prop) (Md:Nat->Value->Heap->Prop):Prop where
 mem:I∈own
 frame:∀ i h h',St i h->(∀ b∈own,∀ o,h.get? b=some o->h'.get? b=some o)->St i h'
 live:∀ i h,St i h->∀ b∈own,∃ o vs,h.get? b=some o/\o.data=.fields vs
 liveM:∀ i y h,Md i y h->∀ b∈own,∃ o vs,h.get? b=some o/\o.data=.fields vs
 next:∀ (i:Nat) (U:MH) (μ:List Addr) (A:Around) (E:Value->Shared->Prop) (s:Shared) (l:List MV) (Q:Option Value->Shared->Prop),A.handled=none->St i s.heap->Rel g μ U s->VRel g μ s.heap x y0->Big s.heap ->
  (∀ b∈own,b∉μ/\2<b)->iter2 U kd x=some l ->
  (l[i]? = none->∀ h' tk,DT own s.heap h'->Q none { s with heap:=h',toks:=tk }) ->
  (∀ v,l[i]? = some v->∀ h' tk y,DT own s.heap h'->Md i y h'->VRel g μ h' v y->Q (some y) { s with heap:=h',toks:=tk })->wpAny (model g.prog g.w) A (pyNext (.ref I)) Q E s
 go:∀ (i:Nat) (y:Value) (A:Around) (E:Value->Shared->Prop) (s:Shared) (Q:Unit->Shared->Prop),Md i y s.heap->(∀ h',DT own s.heap h'->St (i+1) h'->Q () { s with heap:=h' })->wpAny (model g.prog g.w) A (letOwnedTupleGo target (.ref I) y) Q E s
noncomputable abbrev MG (g:Gl) (I:Addr) (St:Nat->Heap->Prop):Prop:=∀ (i:Nat) (A:Around) (E:Value->Shared->Prop) (s:Shared) (Q:Value->Shared->Prop),St i s.heap->Q (.ref I) s->wpAny (model g.prog g.w) A (pyIter (.ref I)) Q E s
noncomputable def Df (X:CK) (g:Gl) (d k:Nat) (sc:Scope) (target it:Expr) (kd:IK) (ti:ME):Prop :=
 ∀ (env:Env) (J:ME') (U:MH) (K:MV->MH->Prop) (μ:List Addr) (A:Around) (E:Value->Shared->Prop) (s:Shared) (Q:Value->Shared->Prop),
  evK X ti J U (λx U=>(∃ l,iter2 U kd x=some l)/\K x U)->EnvOk sc env->EnvRel g μ J env s.heap->Rel g μ U s->Room A d k ->
  (∀ x U',K x U'->∀ μ' s' y0 I own St Md,Ext [] μ μ' s.heap s'.heap->Rel g μ' U' s'->Still s s'->VRel g μ' s'.heap x y0->(∀ av,Src (g.at av) kd x y0 target I own St Md)->MG g I St->St 0 s'.heap ->
   (∀ b∈own,b∉μ'/\2<b/\s.heap.get? b=none/\g.h0.get? b=none)->Q (.ref I) s') ->
  wpAny (model g.prog g.w) A (eval it env) (λv s₁=>wpAny (model g.prog g.w) A (pyIter v) Q E s₁) E s
noncomputable def MI (X:CK) (g:Gl) (d k:Nat) (sc:Scope) (target:Expr) (t:TG):Prop :=
 ∀ (env:Env) (J J':ME') (U:MH) (v:MV) (y:Value) (μ:List Addr) (A:Around) (E:Value->Shared->Prop) (s:Shared) (Q:Unit->Shared->Prop),
  CY t v J=some J'->EnvOk sc env->EnvRel g μ J env s.heap->Rel g μ U s->Room A d k->VRel g μ s.heap v y->ThenU g env μ s J' U Q->wpAny (model g.prog g.w) A (assign target env y) Q E s
theorem EP {x:String}{p:Pos}(hk:(sc.names.lookup (Str.ofString x) == some .local || sc.names.lookup (Str.ofString x) == some .cell)=true):MI X g d k sc (.Name (Str.ofString x) p) (.v x):=by
 intro env J J' U v y μ A E s Q ev eo er r rm vr th;cases ev;exact PyProof.Rows.assign_Name (Dw eo er r vr hk th)
theorem I6 {x z:String}{p p' tp:Pos}{j:Nat}(hk:(sc.names.lookup (Str.ofString x) == some .local || sc.names.lookup (Str.ofString x) == some .cell)=true)(hk':(sc.names.lookup (Str.ofString z) == some .local || sc.names.lookup (Str.ofString z) == some .cell)=true) :
  MI X g d k sc (.Tuple [.Name (Str.ofString x) p,.Name (Str.ofString z) p'] j tp) (.two x z):=by
 intro env J J' U v y μ A E s Q ev eo er r rm vr th;cases v with
 | tup l =>
  rcases l with _ | ⟨v1,_ | ⟨v2,_ | _⟩⟩ <;> try (cases ev;done)
  cases ev;rw[PyProof.Rows.assign_Tuple];refine wpAny_bind (wpAny_standAt ?_);show wpAny _ _ (do assignInOrder [assign (.Name (Str.ofString x) p) env,assign (.Name (Str.ofString z) p') env] (<- holding [y] (unpackItems y 2 none))) _ _ _;refine wpAny_bind (wpAny_holding (Dx (U:=U) (vs:=[v1,v2]) rfl rfl r rm vr λs₂ ys gr st2 vv=>?_));have x2:=gr.ext [] μ
  have hh:I3 X g d k sc [.Name (Str.ofString x) p,.Name (Str.ofString z) p'] [.v x,.v z]:=Af (Ae hk) (Af (Ae hk') Bv);exact hh env J U (λr s=>r=_/\s=U) [v1,v2] ys μ A E s₂ Q ⟨_,_,rfl,_,_,rfl,rfl,rfl,rfl⟩ eo (er.ext x2) (r.grow gr) rm vv λJ' U' ⟨e1,e2⟩=>by subst e1 e2;exact th.trans x2.up st2
 | _=>cases ev
theorem EnvRel.but {J:ME'}{env:Env}{own:List Addr}(E:EnvRel g μ J env h)(kp:∀ (b:Nat)(o:Obj),b≠2->b∉own->h.get? b=some o->h'.get? b=some o)(hl:LocOk g own h)(hm:∀ a∈Env.mine env,a∉own):EnvRel g μ J env h':=by
 have hL:env.locals∉own:=hm _ (.head _)
 have hC:∀ p∈env.cells,p.2∉own:=λp hp=>hm _ (.tail _ (ZE (f:=(·.2)) hp))
 refine⟨?_,E.lL,E.l2,E.l0,λp hp=>?_,E.inj,E.has,λy v e=>?_⟩
 ·obtain⟨m,hn⟩:=E.ns
  exact⟨m,Dd hn λo e=>kp _ o (Zf E.l2) hL e⟩
 ·refine aN4 (E.cell p hp) λq1 a1 a2 a3=>?_;obtain⟨v,hv⟩:=q1
  exact⟨⟨v,BX hv λo e=>kp _ o (Zf a2) (hC p hp) e⟩,a1,a2,a3⟩
 ·have:=E.vars y v e
  unfold DH at this ⊢
  split at this
  ·refine eX2 (this) λm z zz=>aN3 zz λa b c=>?_
   exact (eI2 m z ⟨Dd a λo e=>kp _ o (Zf E.l2) hL e,b,c.but kp hl⟩)
  ·refine eX2 (this) λc z zz=>aN3 zz λa b q=>?_
   have hm:=mem_of_lookup a;exact (eI2 c z ⟨a,BX b λo e=>kp _ o (Zf (E.cell _ hm).2.2.1) (hC _ hm) e,q.but kp hl⟩)
  ·refine eX2 (this) λc z zz=>aN3 zz λa b q=>?_
   have hm:=mem_of_lookup a;exact (eI2 c z ⟨a,BX b λo e=>kp _ o (Zf (E.cell _ hm).2.2.1) (hC _ hm) e,q.but kp hl⟩)
  ·trivial
structure Step (own:List Addr) (s s':Shared):Prop where
 keep:DT own s.heap s'.heap
 gens:s'.gens=s.gens
 os:s'.os=s.os
theorem GD {env:Env}{own:List Addr}{s s₁ s₂:Shared}(x:Ext (Env.mine env) μ μ' s.heap s₁.heap)(hs:Step own s₁ s₂)(hd:∀ b∈own,s.heap.get? b=none):Ext (Env.mine env) μ μ' s.heap s₂.heap:=by
 refine⟨⟨λb o b2 e n q=>hs.keep b o (λz=>by replace e:=ZO (hd b z).symm e;cases e) (x.keep b o b2 e n q),x.grow⟩,λb o b2 e=>?_⟩;obtain⟨o',e'⟩:=x.alive b o b2 e;exact⟨o',hs.keep b o' (λz=>by replace e:=ZO (hd b z).symm e;cases e) e'⟩
theorem DJ {U:MH}{own:List Addr}{s₁ s₂:Shared}(r:Rel g μ U s₁)(hs:Step own s₁ s₂)(hl:LocOk g own s₁.heap)(h1:∀ b∈own,b∉μ/\2<b/\g.h0.get? b=none/\b∉g.av):Rel g μ U s₂:=by
 refine r.but (λb o _ q e=>hs.keep b o q e) hl (λa ha=>(h1 a ha).1) (λa ha=>(h1 a ha).2.2.1) (λo e=>hs.keep 2 o (λz=>?_) e) λa ha z=>absurd z (h1 a ha).2.2.2
 exact absurd (h1 _ z).2.1 (by decide)
theorem CE {target it:Expr}{b:List Stmt}{t:TG}{kd:IK}{ti:ME}{tb:List MS}{pos:Pos}(h0:Df X g d k sc target it kd ti)(h1:MI X g d k sc target t)(h2:Go X g d k sc b tb)(hf:autoParam (∀ env,∀ x,foldedSetIterable it env x=pure x) au):Fb X g d k sc (.For target it b [] pos) (.for t kd ti tb):=by
 intro env J U K μ A E s Q ev eo er r rm th;refine wpAny_For ?_ (hf env);refine h0 env J U _ μ A E s _ ev eo er r rm λx U₀ ev μ₀ s₀ y0 I own St Md x0 r0 st0 vx S _ hst hown=>?_
 have S:Src g kd x y0 target I own St Md:=S g.av;refine codeAny_forLoop_any (λn s'=>∃ i J₁ U₁ μ₁,KS (λU=>iter2 U kd x) (λy J U K=>∃ J',CY t y J=some J'/\exKs X tb J' U K) n i J₁ U₁ K/\Ext (Env.mine env) μ μ₁ s.heap s'.heap/\Rel g μ₁ U₁ s'/\Still s s'/\EnvRel g μ₁ J₁ env s'.heap/\St i s'.heap/\VRel g μ₁ s'.heap x y0/\(∀ b∈own,b∉μ₁)) ?_ X.turns ⟨0,J,U₀,μ₀,ev,x0.up,r0,st0,er.ext x0,hst,vx,λb hb=>(hown b hb).1⟩;intro n s₁ y2;refine eX4 (y2) λi J₁ U₁ μ₁ zz=>aN8 zz λev x1 r1 st1 er1 hst1 vx1 ho1=>?_
 cases n with
 | zero=>cases ev
 | succ n =>
  refine eX1 (ev) λl zz=>aN3 zz λhl ev0 ev1=>?_
  have hdead:∀ b∈own,s.heap.get? b=none:=λb hb=>(hown b hb).2.2.1
  have hlocSt:∀ {i h},St i h->LocOk g own h:=λ{i h} hs b hb o e=>by
   refine eX2 (S.live i h hs b hb) λo' vs zz=>aN2 zz λe' dd=>?_
   replace e':=ZO e.symm e';cases e';exact .inl ⟨λxs n q=>(by replace q:=ZO dd.symm q;cases q),λq=>(by replace q:=ZO dd.symm q;cases q)⟩
  have hlocMd:∀ {i y h},Md i y h->LocOk g own h:=λ{i y h} hs b hb o e=>by
   refine eX2 (S.liveM i y h hs b hb) λo' vs zz=>aN2 zz λe' dd=>?_
   replace e':=ZO e.symm e';cases e';exact .inl ⟨λxs n q=>(by replace q:=ZO dd.symm q;cases q),λq=>(by replace q:=ZO dd.symm q;cases q)⟩
  have hmine:∀ a∈Env.mine env,a∉own:=λa ha z=>by
   refine aN4 (er.mineOk a ha) λ_ _ _ zz=>eX1 zz λo e=>?_
   replace e:=ZO (hdead a z).symm e;cases e
  have hfull:∀ {μ₂:List Addr},(∀ b∈own,b∉μ₂)->∀ b∈own,b∉μ₂/\2<b/\g.h0.get? b=none/\b∉g.av:=λhh b hb=>⟨hh b hb,(hown b hb).2.1,(hown b hb).2.2.2,λz=>by
   refine aN3 (r.avl b z) λ_ _ zz=>eX1 zz λo e=>?_
   replace e:=ZO (hdead b hb).symm e;cases e⟩
  refine S.next i U₁ μ₁ A _ s₁ l _ rm.handled hst1 r1 vx1 er1.big (λb hb=>⟨ho1 b hb,(hown b hb).2.1⟩) hl (λhn h' tk kp=>?_) (λv hv h' tk y kp hmd vy=>?_)
  ·have hs:Step own s₁ { s₁ with heap:=h',toks:=tk }:=⟨kp,rfl,rfl⟩
   refine wpAny_execs_nil (th _ _ _ (ev0 hn) μ₁ { s₁ with heap:=h',toks:=tk } .next (GD x1 hs hdead) (DJ r1 hs (hlocSt hst1) (hfull ho1)) (st1.trans ⟨rfl,rfl⟩) (er1.but (λb o _ q e=>kp b o q e) (hlocSt hst1) hmine) rfl)
  ·refine eX1 (ev1 v hv) λJ₂ zz=>aN2 zz λe2 ev=>?_
   have hs:Step own s₁ { s₁ with heap:=h',toks:=tk }:=⟨kp,rfl,rfl⟩
   have x2:=GD x1 hs hdead;refine S.go i y A _ { s₁ with heap:=h',toks:=tk } _ hmd λh'' kp2 hst2=>?_
   have hs2:Step own { s₁ with heap:=h',toks:=tk } { s₁ with heap:=h'',toks:=tk }:=⟨kp2,rfl,rfl⟩
   have er3:=(er1.but (h':=h') (λb o _ q e=>kp b o q e) (hlocSt hst1) hmine).but (h':=h'') (λb o _ q e=>kp2 b o q e) (hlocMd hmd) hmine;refine h1 env J₁ J₂ U₁ v y μ₁ A _ { s₁ with heap:=h'',toks:=tk } _ e2 eo er3 (DJ (DJ r1 hs (hlocSt hst1) (hfull ho1)) hs2 (hlocMd hmd) (hfull ho1)) rm (vy.but (λb o _ q e=>kp2 b o q e) (hlocMd hmd)) λμ₄ s₄ x4 r4 st4 er4=>?_
   have frame:∀ {μa μb:List Addr} {ha hb:Heap} {i:Nat},Ext (Env.mine env) μa μb ha hb->St i ha->(∀ b∈own,b∉μa)->St i hb/\∀ b∈own,b∉μb:=λ{μa μb ha hb i} xx hst hn=>by
    refine⟨S.frame i ha hb hst λb hb' o e=>xx.keep b o (Zf (hown b hb').2.1) e (hn b hb') λz=>hmine b z hb',λb hb'=>?_⟩;refine eX2 (S.live i ha hst b hb') λo _ zz=>aN2 zz λe _=>?_
    exact xx.notin e (hn b hb')
   obtain⟨f1,f2⟩:=frame x4 hst2 ho1;refine h2 env J₂ U₁ _ μ₄ A _ s₄ _ ev eo er4 r4 rm λfl J₃ U₃ ev μ₅ s₅ F x5 r5 st5 er5 fr=>?_
   obtain⟨f3,f4⟩:=frame x5 f1 f2;have x15:=((GD x2 hs2 hdead).trans x4 λa ha=>.inl ha).trans x5 λa ha=>.inl ha
   have st15:Still s s₅:=(st1.trans ⟨rfl,rfl⟩:Still s { s₁ with heap:=h'',toks:=tk }).trans (st4.trans st5)
   have vx5:VRel g μ₅ s₅.heap x y0:=(((vx1.but (λb o _ q e=>kp b o q e) (hlocSt hst1)).but (λb o _ q e=>kp2 b o q e) (hlocMd hmd)).ext x4 er3.loc).ext x5 er4.loc;cases fl with
   | next=>cases fr;exact⟨n,Zo _,i+1,J₃,U₃,μ₅,ev,x15,r5,st15,er5,f3,vx5,f4⟩
   | cont=>cases fr;exact⟨n,Zo _,i+1,J₃,U₃,μ₅,ev,x15,r5,st15,er5,f3,vx5,f4⟩
   | ret v=>refine eX1 (fr) λx zz=>aN2 zz λq2 vx=>?_;subst q2;exact th _ _ _ ev μ₅ s₅ _ x15 r5 st15 er5 ⟨x,rfl,vx⟩
end
section
variable {g:Gl} {μ μ':List Addr} {h h':Heap} {X:CK} {d k:Nat} {sc:Scope}
set_option tactic.hygienic true in
theorem Ei {M:Model}{A:Around}{E:Value->Shared->Prop}{s:Shared}{Q:Unit->Shared->Prop}{target:Expr}{I:Addr}{y:Value}{n:String}{o:Obj}(ho:s.heap.get? I=some o)(hc:o.cls=.type n)
  (hn:["enumerate","zip","dict_itemiterator","dict_reverseitemiterator","odict_iterator","itertools.zip_longest","itertools.pairwise"].contains n=false) (h:Q () s):wpAny M A (letOwnedTupleGo target (.ref I) y) Q E s:=by
 have fin:wpAny M A (do
   let (.ref r,.ref a):=(Value.ref I,y) | return
   let o <- load r
   match o.cls,o.data with
   | .type n,.fields vs =>
    if ["enumerate","zip","dict_itemiterator","dict_reverseitemiterator","odict_iterator","itertools.zip_longest","itertools.pairwise"].contains n && vs[0]? == some (rawInt a)then
     rule "for.unpacks-the-owned-tuple"
     updateField r 0 .none
   | _,_=>pure ()) Q E s:=by
  cases y <;> try exact wpAny_pure h
  refine wpAny_bind (wpAny_load ho ?_);refine ZN hc ?_
  split
  ·rename_i vs e _
   cases e;refine ZN hn ?_;rw[Bool.false_and];refine ZN (if_neg (by decide)) ?_;exact wpAny_pure h
  ·exact wpAny_pure h
 cases target <;> first | exact fin | exact wpAny_pure h
theorem Bt {I:Addr}{h h':Heap}(x:Heap.SameBut I h h'):DT [I] h h':=λb o q e=>(x.2 b λz=>q (by refine ZN z ?_;exact .head _)).trans e
theorem Ct {I:Addr}{h h':Heap}(x:Heap.ExtBut I h h'):DT [I] h h':=λb o q e=>x b o (λz=>q (by refine ZN z ?_;exact .head _)) e
theorem MJ {x:MV}{a I:Addr}{target:Expr}(hx:∀ U l,iter2 U .it x=some l->AO U x=some l):Src g .it x (.ref a) target I [I] (λi h=>h.IsListIter I a i) (λi _ h=>h.IsListIter I a (i+1)) where
 mem:=.head _
 frame:=λi h h' st hk=>st.at λo e=>hk I (.head _) o e
 live:=λi h ⟨o,e,_,dd⟩ b hb=>by refine ZN (Zx hb) ?_;exact (eI2 o _ ⟨e,dd⟩)
 liveM:=λi y h ⟨o,e,_,dd⟩ b hb=>by refine ZN (Zx hb) ?_;exact (eI2 o _ ⟨e,dd⟩)
 next:=λi U μ A E s l Q hh st r vr bg ho hl h0 h1=>by
  obtain⟨a',items,e,i1,i4⟩:=listItems_at r vr (hx U l hl);cases e;cases hv:l[i]? with
  | none =>
   have hn:items[i]? = none:=by refine ZO (Array.getElem?_toList).symm ?_;exact i4.get_none hv
   exact wpAny_pyNext_list_end hh st i1 hn λh' he=>h0 hv h' s.toks (Ct he)
  | some v =>
   obtain⟨y,e1,e2⟩:=i4.at hv;refine wpAny_pyNext_list_item st i1 e1 λh' hit' hs'=>h1 v hv h' s.toks y (Bt hs') hit' ?_
   refine e2.but (own:=[I]) (λb o _ q e=>Bt hs' b o q e) λb hb o e=>?_
   rw[Zx hb]at e;obtain⟨o',e',_,dd⟩:=st;replace e':=ZO e.symm e';cases e';exact .inl ⟨λxs n q=>(by replace q:=ZO dd.symm q;cases q),λq=>(by replace q:=ZO dd.symm q;cases q)⟩
 go:=λi y A E s Q st h=>by
  obtain⟨o,e,c,_⟩:=id st;exact Ei e c (by decide) (h s.heap (λb o _ e=>e) st)
theorem N5 {l0:List MV}{a I:Addr}{target:Expr}:Src g .it (.tup l0) (.ref a) target I [I] (λi h=>h.IsTupleIter I a i) (λi _ h=>h.IsTupleIter I a (i+1)) where
 mem:=.head _
 frame:=λi h h' ⟨o,e,r⟩ hk=>⟨o,hk I (.head _) o e,r⟩
 live:=λi h ⟨o,e,_,dd⟩ b hb=>by refine ZN (Zx hb) ?_;exact (eI2 o _ ⟨e,dd⟩)
 liveM:=λi y h ⟨o,e,_,dd⟩ b hb=>by refine ZN (Zx hb) ?_;exact (eI2 o _ ⟨e,dd⟩)
 next:=λi U μ A E s l Q hh st r vr bg ho hl h0 h1=>by
  cases hl;obtain⟨_,items,e0,i1,i2,i3,i4⟩:=vr;cases e0;cases hv:l0[i]? with
  | none =>
   have hn:items[i]? = none:=by refine ZO (Array.getElem?_toList).symm ?_;exact i4.get_none hv
   exact wpAny_pyNext_tuple_end hh st i1 hn λh' he=>h0 hv h' s.toks (Ct he)
  | some v =>
   obtain⟨y,e1,e2⟩:=i4.at hv;refine wpAny_pyNext_tuple_item st i1 e1 λh' hit' hs'=>h1 v hv h' s.toks y (Bt hs') hit' ?_
   refine e2.but (own:=[I]) (λb o _ q e=>Bt hs' b o q e) λb hb o e=>?_
   rw[Zx hb]at e;obtain⟨o',e',_,dd⟩:=st;replace e':=ZO e.symm e';cases e';exact .inl ⟨λxs n q=>(by replace q:=ZO dd.symm q;cases q),λq=>(by replace q:=ZO dd.symm q;cases q)⟩
 go:=λi y A E s Q st h=>by
  obtain⟨o,e,c,_⟩:=id st;exact Ei e c (by decide) (h s.heap (λb o _ e=>e) st)
theorem N6 (c:Char):(⟨#[c.toNat]⟩:Str)=Str.ofString (String.ofList [c]):=by rw[Str.ofString_eq_toList];simp
theorem N7 {z:String}{tk:Tok}{I:Addr}{target:Expr}:Src g .it (.str z) (.str (Str.ofString z) tk) target I [I] (λi h=>h.IsStrIter I "str_ascii_iterator" (Str.ofString z) tk i) (λi _ h=>h.IsStrIter I "str_ascii_iterator" (Str.ofString z) tk (i+1)) where
 mem:=.head _
 frame:=λi h h' ⟨o,e,r⟩ hk=>⟨o,hk I (.head _) o e,r⟩
 live:=λi h ⟨o,e,_,dd⟩ b hb=>by refine ZN (Zx hb) ?_;exact (eI2 o _ ⟨e,dd⟩)
 liveM:=λi y h ⟨o,e,_,dd⟩ b hb=>by refine ZN (Zx hb) ?_;exact (eI2 o _ ⟨e,dd⟩)
 next:=λi U μ A E s l Q hh st r vr bg ho hl h0 h1=>by
  simp only[iter2]at hl
  split at hl
  ·cases hl
   have hcps:∀ (j:Nat),(Str.ofString z).cps[j]? = (z.toList[j]?).map Char.toNat:=λj=>by
    rw[Str.ofString_eq_toList];refine ZO (List.getElem?_toArray) ?_;exact ZH
   cases hv:z.toList[i]? with
   | none=>exact wpAny_pyNext_ascii_end hh st (by rw[hcps];refine ZN hv ?_;rfl) λh' he=>h0 (by refine ZO (ZH) ?_;refine ZN hv ?_;rfl) h' s.toks (Ct he)
   | some c =>
    refine wpAny_pyNext_ascii_item st (c:=c.toNat) (by rw[hcps];refine ZN hv ?_;rfl) λh' hit' hs'=>?_
    rw[N6];exact h1 (.str (String.ofList [c])) (by refine ZO (ZH) ?_;refine ZN hv ?_;rfl) h' (s.toks+1) _ (Bt hs') hit' .str
  ·cases hl
 go:=λi y A E s Q st h=>by
  obtain⟨o,e,c,_⟩:=id st;exact Ei e c (by decide) (h s.heap (λb o _ e=>e) st)
theorem LE {n:Nat}{y0:Value}{I:Addr}{target:Expr}:Src g .range (.int n) y0 target I [I] (λi h=>IsRangeIter h I i ((n:Int) - i) 1/\i<=n) (λi _ h=>IsRangeIter h I ((i+1:Nat):Int) ((n:Int) - ((i+1:Nat):Int)) 1/\i+1<=n) where
 mem:=.head _
 frame:=λi h h' st hk=>⟨hk I (.head _) _ st.1,st.2⟩
 live:=λi h st b hb=>by refine ZN (Zx hb) ?_;exact (eI2 _ _ ⟨st.1,rfl⟩)
 liveM:=λi y h st b hb=>by refine ZN (Zx hb) ?_;exact (eI2 _ _ ⟨st.1,rfl⟩)
 next:=λi U μ A E s l Q hh st r vr bg ho hl h0 h1=>by
  simp only[iter2]at hl
  split at hl
  ·cases hl
   have hi:∀ (j:Nat),((List.range (n:Int).toNat).map λ(i:Nat)=>MV.int i)[j]? = if j<n then some (.int j)else none:=λj=>by
    refine ZO (ZH) ?_;rw[Int.toNat_natCast]
    by_cases q:j<n
    ·refine ZN (if_pos q) ?_;refine ZN (List.getElem?_range q) ?_;rfl
    ·refine ZN (if_neg q) ?_;refine ZN (List.getElem?_eq_none (by simpa using q)) ?_;rfl
   by_cases q:i<n
   ·refine wpAny_pyNext_range_item st.1 (by lia) λh' hit' hs'=>h1 (.int i) (by rw[hi];exact if_pos q) h' (s.toks+1) _ (Bt hs') ⟨?_,by assumption⟩ .int
    have e1:((i:Int)+1)=((i+1:Nat):Int):=by solve_by_elim (maxDepth:=4) [Zd,Zb,Zc,Zl,Zh,Zn,Zi,Zq,Zk,Zf,Zj]
    have e2:((n:Int) - i - 1)=(n:Int) - ((i+1:Nat):Int):=by lia
    refine ZN e2.symm ?_;refine ZN e1.symm ?_;exact hit'
   ·exact wpAny_pyNext_range_end hh st.1 (by lia) λh' he=>h0 (by rw[hi];exact if_neg q) h' s.toks (Ct he)
  ·cases hl
 go:=λi y A E s Q st h=>Ei st.1 rfl (by decide) (h s.heap (λb o _ e=>e) st)
theorem MK {x:MV}{a e it:Addr}{ts:List Expr}{j:Nat}{tp:Pos}(hne:e≠it):Src g (.enum ()) x (.ref a) (.Tuple ts j tp) e [e,it] (λi h=>∃ old,IsEnum h e it i old/\h.IsListIter it a i) (λi y h=>∃ b old,y=.ref b/\IsEnumOut h e it ((i:Int)+1) old b/\h.IsListIter it a (i+1)) where
 mem:=.head _
 frame:=λi h h' ⟨old,h1,h2⟩ hk=>⟨old,hk e (.head _) _ h1,h2.at λo eo=>hk it (.tail _ (.head _)) o eo⟩
 live:=λi h ⟨old,h1,o,eo,_,dd⟩ b hb=>by
  rcases Zz hb with rfl | hb
  ·exact (eI2 _ _ ⟨h1,rfl⟩)
  ·refine ZN (Zx hb) ?_;exact (eI2 o _ ⟨eo,dd⟩)
 liveM:=λi y h ⟨_,old,_,h1,o,eo,_,dd⟩ b hb=>by
  rcases Zz hb with rfl | hb
  ·exact (eI2 _ _ ⟨h1,rfl⟩)
  ·refine ZN (Zx hb) ?_;exact (eI2 o _ ⟨eo,dd⟩)
 next:=λi U μ A E s l Q hh st r vr bg ho hl h0 h1=>by
  obtain⟨old,s1,s2⟩:=st;simp only[iter2,Option.map_eq_some_iff]at hl;obtain⟨l',hl,rfl⟩:=hl;obtain⟨a',items,ee,i1,i4⟩:=listItems_at r vr hl;cases ee;cases hv:l'[i]? with
  | none =>
   have hn:items[i]? = none:=by refine ZO (Array.getElem?_toList).symm ?_;exact i4.get_none hv
   refine wpAny_pyNext_enum_end hh s1 s2 i1 hn λh' he=>h0 ?_ h' s.toks λb o q e'=>he b o (λz=>q (by refine ZN z ?_;exact .tail _ (.head _))) e'
   refine ZO (ZH) ?_;refine ZN (List.getElem?_zipIdx) ?_;refine ZN hv ?_;rfl
  | some v =>
   obtain⟨y,e1,e2⟩:=i4.at hv;refine wpAny_pyNext_enum_item s1 s2 i1 e1 hne λh' q1 q2 q3 q4 q5=>?_
   have kp:DT [e,it] s.heap h':=λb o q e'=>q5 b o (λz=>q (by refine ZN z ?_;exact .head _)) (λz=>q (by refine ZN z ?_;exact .tail _ (.head _))) e'
   refine h1 (.tup [.int i,v]) ?_ h' (s.toks+1) _ kp (eI2 _ _ ⟨rfl,q1,q2⟩) ?_
   ·refine ZO (ZH) ?_;refine ZN (List.getElem?_zipIdx) ?_;refine ZN hv ?_;simp
   ·have e3:VRel g μ h' v y:=e2.but (own:=[e,it]) (λb o _ q e'=>kp b o q e') λb hb o e'=>by
     rcases Zz hb with rfl | hb
     ·replace e':=ZO s1.symm e';cases e'
      exact .inl ⟨λxs n q=>(by cases q),λq=>(by cases q)⟩
     ·rw[Zx hb]at e'
      obtain⟨o',e'',_,dd⟩:=s2;replace e'':=ZO e'.symm e'';cases e'';exact .inl ⟨λxs n q=>(by replace q:=ZO dd.symm q;cases q),λq=>(by replace q:=ZO dd.symm q;cases q)⟩
    exact .tup ⟨_,q3,rfl,0,rfl⟩ (BQ r) bg.size (.cons .int (.cons e3 .nil))
 go:=λi y A E s Q st h=>by
  obtain⟨b,old,rfl,h1,h2⟩:=st;refine wpAny_letOwnedTupleGo_enum h1 λh' he hs=>h h' (λb o q e'=>(hs.2 b λz=>q (by refine ZN z ?_;exact .head _)).trans e') ⟨old,?_,?_⟩
  ·exact he
  ·exact h2.at λo eo=>(hs.2 it λz=>hne z.symm).trans eo
theorem C9 {U:MH}{s:Shared}(r:Rel g μ U s){a:Addr}(h2:a≠2)(e:s.heap.get? a=none):g.h0.get? a=none:=by
 cases q:g.h0.get? a with
 | none=>rfl
 | some o=>replace e:=ZO (r.base a o h2 q).symm e;cases e
theorem BD {target e:Expr}{t:ME}(h1:Ai X g d k sc e t):Df X g d k sc target e .it t:=by
 intro env J U K μ A E s Q ev eo er r rm th;refine h1 env J U _ μ A E s _ ev eo er r rm λx U' ee μ₁ s₁ y x1 r1 st1 v1=>?_
 obtain⟨⟨l,hl⟩,kv⟩:=ee;have hb:=(er.ext x1).big.size
 have grow:∀ o:Obj,Grow s₁.heap (s₁.heap.push o):=λo=>Grow.push _ _
 have fin:∀ {St:Nat->Heap->Prop} {Md:Nat->Value->Heap->Prop} (o:Obj),(∀ av,Src (g.at av) .it x y target s₁.heap.objs.size [s₁.heap.objs.size] St Md)->MG g s₁.heap.objs.size St->St 0 (s₁.heap.push o)->Q (.ref s₁.heap.objs.size) { s₁ with heap:=s₁.heap.push o }:=λ{St Md} o S sf st=>by
  refine th x U' kv μ₁ { s₁ with heap:=s₁.heap.push o } y _ _ St Md (x1.trans ((grow o).ext [] _) λa q=>nomatch q) (r1.grow (grow o)) (st1.trans ⟨rfl,rfl⟩) (v1.ext ((grow o).ext [] _) LocOk.nil) S sf st λb hb'=>?_
  refine ZN (Zx hb') ?_;have d1:=Ba s₁.heap
  have n2:s₁.heap.objs.size≠2:=Zf hb;exact⟨BQ r1,hb,x1.dead n2 d1,C9 r1 n2 d1⟩
 by_cases htup:∃ l,x=.tup l
 ·obtain⟨l',rfl⟩:=htup
  obtain⟨a,items,e0,i1,_⟩:=id v1;subst e0;exact wpAny_pyIter_tuple i1 (fin _ (λ_=>N5) (λ_ _ _ _ _ st h=>wpAny_pyIter_tupleiter st h) ⟨_,Heap.get?_push_size _ rfl,rfl,rfl⟩)
 ·by_cases hstr:∃ z,x=.str z
  ·obtain⟨z,rfl⟩:=hstr
   obtain⟨tk,e0⟩:=id v1;subst e0;refine wpAny_pyIter_ascii ?_ (fin _ (λ_=>N7) (λ_ _ _ _ _ st h=>wpAny_pyIter_striter_ascii st h) ⟨_,Heap.get?_push_size _ rfl,rfl,rfl⟩);simp only[iter2]at hl
   split at hl
   ·rename_i q
    rw[Str.ofString_eq_toList];refine ZO Array.all_toList.symm ?_;refine ZO List.all_map ?_;exact q
   ·cases hl
  ·have hx:∀ U l,iter2 U .it x=some l->AO U x=some l:=by
    intro U l e;cases x <;> first | exact e | (exfalso;exact htup ⟨_,rfl⟩) | (exfalso;exact hstr ⟨_,rfl⟩)
   obtain⟨a,items,rfl,i1,i4⟩:=listItems_at r1 v1 (hx _ _ hl);exact wpAny_pyIter_list i1 (fin _ (λ_=>MJ hx) (λ_ _ _ _ _ st h=>wpAny_pyIter_listiter st h) ⟨_,Heap.get?_push_size _ rfl,rfl,rfl⟩)
noncomputable def Oa (K:MV->MH->Prop) (vs:List MV) (U:MH):Prop:=match vs with
 | [x]=>K x U
 | _=>False
theorem KY {K:MV->MH->Prop}{vs:List MV}{U:MH}{xs:List Value}(k:Oa K vs U)(v:VRels g μ h vs xs):∃ x y,vs=[x]/\xs=[y]/\K x U/\VRel g μ h x y:=by
 rcases vs with _ | ⟨x,_ | _⟩ <;> try (exact k.elim)
 obtain⟨y,rfl,vy⟩:=v.one;exact (eI2 x y ⟨rfl,rfl,k,vy⟩)
theorem GE {target e:Expr}{t:ME}{p p':Pos}(G:GOk g)(h1:Ai X g d k sc e t)(hx:sc.names.lookup (Str.ofString "range")=some .globalImplicit)
  (he:autoParam (∀ env,starEach [e] env=[(false,eval e env)]) au):Df X g d k sc target (.Call (.Name (Str.ofString "range") p') [e] [] p) .range t:=by
 intro env J U K μ A E s Q ev eo er r rm th;refine wpAny_bind (Cb G eo r hx (.inl rfl) ?_ (by decide));refine EO (AC he AH) (λ_=>True) (λh _=>Cs _) ?_;refine (AA (sc:=sc) h1 (AG (X:=X) (g:=g) (d:=d) (k:=k)) he) env J U (Oa λx U=>(∃ l,iter2 U .range x=some l)/\K x U) μ A E s _ p ev eo er r rm λvs U' kv μ₁ s₁ xs x1 r1 st1 v1=>⟨trivial,?_⟩
 obtain⟨x,y,rfl,rfl,⟨⟨l,hl⟩,kv⟩,vy⟩:=KY kv v1;have hx':∃ n:Nat,x=.int n/\n<=1000:=by
  cases x <;> try (cases hl;done)
  obtain⟨q,_⟩:=Px hl;obtain⟨n,rfl⟩:=Int.eq_ofNat_of_zero_le q.1;exact⟨n,rfl,Int.ofNat_le.mp q.2⟩
 obtain⟨n,rfl,hn⟩:=hx';obtain⟨tk,e0⟩:=id vy;subst e0;refine call_range_1 ?_;refine wpAny_pyIter_range (IsRange.new _ _ _ _ _ _ _) (small_one (by solve_by_elim (maxDepth:=4) [Zd,Zb,Zc,Zl,Zh,Zn,Zi,Zq,Zk,Zf,Zj]) (by solve_by_elim (maxDepth:=4) [Zd,Zb,Zc,Zl,Zh,Zn,Zi,Zq,Zk,Zf,Zj]) (by solve_by_elim (maxDepth:=4) [Zd,Zb,Zc,Zl,Zh,Zn,Zi,Zq,Zk,Zf,Zj]) (by lia)) ?_;rw[rangeSize_one];have gr:Grow s₁.heap ((s₁.heap.push { cls:=.type "range",data:=.fields #[.int 0 s₁.toks,.int (n:Int) tk,.int 1 (s₁.toks+1)] }).push { cls:=.type "range_iterator",data:=.fields #[rawInt 0,rawInt (if (0:Int)<n then (n:Int) - 0 else 0),rawInt 1] }):=(Grow.push _ _).trans (Grow.push _ _);refine th _ _ kv μ₁ { s₁ with heap:=_,toks:=s₁.toks+1+1 } (.int n tk) _ _ _ _ (x1.trans (gr.ext [] _) λa q=>nomatch q) (r1.grow (s':={ s₁ with heap:=_,toks:=s₁.toks+1+1 }) gr) (st1.trans ⟨rfl,rfl⟩) .int (λ_=>LE (n:=n)) (λ_ _ _ _ _ st h=>wpAny_pyIter_rangeiter st.1 h) ⟨?_,Zm _⟩ λb hb'=>?_
 ·have e:(if (0:Int)<n then (n:Int) - 0 else 0)=(n:Int) - ((0:Nat):Int):=by split <;> lia
  refine ZN e ?_;exact Heap.get?_push_size _ rfl
 ·refine ZN (Zx hb') ?_
  have d1:s₁.heap.get? (s₁.heap.push { cls:=.type "range",data:=.fields #[.int 0 s₁.toks,.int (n:Int) tk,.int 1 (s₁.toks+1)] }).objs.size=none:=by
   cases q:s₁.heap.get? (s₁.heap.push { cls:=.type "range",data:=.fields #[.int 0 s₁.toks,.int (n:Int) tk,.int 1 (s₁.toks+1)] }).objs.size with
   | none=>rfl
   | some o =>
    have:=Heap.lt_size q;rw[Heap.size_push]at this;exact absurd (show (s₁.heap.objs.size+1:Nat)<s₁.heap.objs.size from this) (Zp (Zj (Zg _)))
  have h2:2<(s₁.heap.push { cls:=.type "range",data:=.fields #[.int 0 s₁.toks,.int (n:Int) tk,.int 1 (s₁.toks+1)] }).objs.size:=by
   rw[Heap.size_push];exact Zi ((er.ext x1).big.size)
  have n2:=Zf h2;refine⟨λq=>?_,h2,x1.dead n2 d1,C9 r1 n2 d1⟩;obtain⟨o,e⟩:=r1.live _ q;replace e:=ZO d1.symm e;cases e
theorem HJ {e:Expr}{t:ME}{p p' tp:Pos}{ts:List Expr}{j:Nat}(G:GOk g)(h1:Ai X g d k sc e t)(hx:sc.names.lookup (Str.ofString "enumerate")=some .globalImplicit)
  (he:autoParam (∀ env,starEach [e] env=[(false,eval e env)]) au):Df X g d k sc (.Tuple ts j tp) (.Call (.Name (Str.ofString "enumerate") p') [e] [] p) (.enum ()) t:=by
 intro env J U K μ A E s Q ev eo er r rm th;refine wpAny_bind (Cb G eo r hx (.inl rfl) ?_ (by decide));refine EO (AC he AH) (λ_=>True) (λh _=>Cs _) ?_;refine (AA (sc:=sc) h1 (AG (X:=X) (g:=g) (d:=d) (k:=k)) he) env J U (Oa λx U=>(∃ l,iter2 U (.enum ()) x=some l)/\K x U) μ A E s _ p ev eo er r rm λvs U' kv μ₁ s₁ xs x1 r1 st1 v1=>⟨trivial,?_⟩
 obtain⟨x,y,rfl,rfl,⟨⟨l,hl⟩,kv⟩,vy⟩:=KY kv v1;obtain⟨l',hl,_⟩:=ms hl;obtain⟨a,items,rfl,i1,i4⟩:=listItems_at r1 vy hl;refine call_enumerate_list i1 λh' q1 q2 q3 q4=>?_
 have gr:Grow s₁.heap h':=Grow.of_keep q4;refine wpAny_pyIter_enum (s:={ s₁ with heap:=h' }) q1 ?_;refine th _ _ kv μ₁ { s₁ with heap:=h' } (.ref a) _ _ _ _ (x1.trans (gr.ext [] _) λa q=>nomatch q) (r1.grow (s':={ s₁ with heap:=h' }) gr) (st1.trans ⟨rfl,rfl⟩) (vy.ext (gr.ext [] _) LocOk.nil) (λ_=>MK (x:=x) (a:=a) (Nat.succ_ne_self _)) (λ_ _ _ _ _ st h=>wpAny_pyIter_enum st.choose_spec.1 h) ⟨.none,q1,q2⟩ λb hb'=>?_
 have dead:∀ c:Nat,s₁.heap.objs.size<=c->s₁.heap.get? c=none:=λc hc=>by
  cases q:s₁.heap.get? c with
  | none=>rfl
  | some o=>exact absurd (Heap.lt_size q) (Nat.not_lt.mpr hc)
 have fin:∀ c:Nat,s₁.heap.objs.size<=c->c∉μ₁/\2<c/\s.heap.get? c=none/\g.h0.get? c=none:=λc hc=>by
  have d1:=dead c hc
  have h2:2<c:=Zd ((er.ext x1).big.size) hc
  have n2:=Zf h2;refine⟨λq=>?_,h2,x1.dead n2 d1,C9 r1 n2 d1⟩;obtain⟨o,e⟩:=r1.live _ q;replace e:=ZO d1.symm e;cases e
 rcases Zz hb' with rfl | hb'
 ·exact fin _ (Nat.le_succ _)
 ·refine ZN (Zx hb') ?_;exact fin _ (Zg _)
end
section
variable {g:Gl} {μ μ':List Addr} {h h':Heap} {X:CK} {d k:Nat} {sc:Scope}
noncomputable abbrev OJ (g:Gl) (env:Env) (loc μ:List Addr) (s:Shared) (J':ME') (U':MH) (Q:Unit->Shared->Prop):Prop :=
 ∀ (μ':List Addr) (s':Shared),Ext loc μ μ' s.heap s'.heap->Rel g μ' U' s'->Still s s'->EnvRel g μ' J' env s'.heap->Q () s'
theorem Dg {x:String}{v:MV}{y:Value}{env:Env}{J:ME'}{U:MH}{A:Around}{E:Value->Shared->Prop}{s:Shared}{Q:Unit->Shared->Prop}(eo:EnvOk sc env)(er:EnvRel g μ J env s.heap)(r:Rel g μ U s)(vr:VRel g μ s.heap v y)
  (hk:sc.names.lookup (Str.ofString x)=some .local) (th:OJ g env [env.locals] μ s ((x,v)::J) U Q):wpAny (model g.prog g.w) A (storeName env (Str.ofString x) y) Q E s:=by
 obtain⟨m,hm⟩:=er.ns;refine wpAny_storeName_local (by rw[eo.kindOf];exact hk) hm (λh' hn hs=>?_) (by refine ZN eo.fn ?_;rfl);refine aN4 (er.mineOk env.locals (.head _)) λn n2 n0 zz=>eX1 zz λo eo'=>?_
 have cl:∃ o',h'.get? env.locals=some o':=by refine eX3 (id hn) λo' _ _ zz=>aN2 zz λe' _=>?_;exact⟨o',e'⟩
 have hl:LocOk g [env.locals] s.heap:=λb hb o e=>er.loc b (by refine ZN (Zx hb) ?_;exact .head _) o e
 have kb:∀ (b:Nat) (o:Obj),b≠2->b∉[env.locals]->s.heap.get? b=some o->h'.get? b=some o:=λb o _ q e=>(hs.2 b (λz=>q (by refine ZN z ?_;exact .head _))).trans e
 have vv:∀ {v y},VRel g μ s.heap v y->VRel g μ h' v y:=λr=>r.but kb hl
 have ex:Ext [env.locals] μ μ s.heap h':=⟨⟨λb o b2 e q1 q2=>kb b o b2 q2 e,⟨[],by simp,by simp⟩⟩,λb o b2 e=>by
  by_cases q:b=env.locals
  ·refine ZN q ?_;exact cl
  ·exact⟨o,(hs.2 b q).trans e⟩⟩
 have rl:Rel g μ U { s with heap:=h',toks:=s.toks+1 }:=r.but kb hl (λb hb=>by refine ZN (Zx hb) ?_;exact n) (λb hb=>by refine ZN (Zx hb) ?_;exact n0)
  (λo e=>(hs.2 2 (Zk n2)).trans e) λb hb _=>by refine ZN (Zx hb) ?_;exact cl
 refine th μ { s with heap:=h',toks:=s.toks+1 } ex rl ⟨rfl,rfl⟩ ⟨⟨_,hn⟩,er.lL,er.l2,er.l0,λp hp=>?_,er.inj,er.has,λz w e=>?_⟩
 ·refine aN5 (er.cell p hp) λq1 a1 a2 a3 a4=>?_;obtain⟨v0,hv⟩:=q1
  exact⟨⟨v0,BX hv λo e=>(hs.2 p.2 a3).trans e⟩,a1,a2,a3,a4⟩
 ·replace e:=ZO List.lookup_cons.symm e
  unfold DH
  split at e
  ·rename_i q
   cases e;refine ZN (beq_iff_eq.mp q) ?_;rw[eo.kindOf];refine ZN hk ?_;exact (eI2 _ y ⟨hn,by simp,vv vr⟩)
  ·rename_i q
   have q:z≠x:=λe=>by subst e;simp at q
   have va:=er.vars z w e;unfold DH at va
   split at va
   ·refine eX2 (va) λm0 y0 zz=>aN3 zz λb1 b2 b3=>?_
    refine (eI2 _ y0 ⟨hn,?_,vv b3⟩);refine ZO (if_neg (λe=>q (Ah e))) ?_;refine ZN (Du hm b1) ?_;exact b2
   ·refine eX2 (va) λc y0 zz=>aN3 zz λb1 b2 b3=>?_
    exact (eI2 c y0 ⟨b1,BX b2 λo e=>(hs.2 c (er.cell _ (mem_of_lookup b1)).2.2.2.1).trans e,vv b3⟩)
   ·refine eX2 (va) λc y0 zz=>aN3 zz λb1 b2 b3=>?_
    exact (eI2 c y0 ⟨b1,BX b2 λo e=>(hs.2 c (er.cell _ (mem_of_lookup b1)).2.2.2.1).trans e,vv b3⟩)
   ·trivial
noncomputable def EG (g:Gl) (d k:Nat) (sc:Scope) (target:Expr) (t:TG):Prop :=
 ∀ (env:Env) (J J':ME') (U:MH) (v:MV) (y:Value) (μ:List Addr) (A:Around) (E:Value->Shared->Prop) (s:Shared) (Q:Unit->Shared->Prop),
  CY t v J=some J'->EnvOk sc env->EnvRel g μ J env s.heap->Rel g μ U s->Room A d k->VRel g μ s.heap v y->OJ g env [env.locals] μ s J' U Q->wpAny (model g.prog g.w) A (assign target env y) Q E s
theorem B1 {x:String}{p:Pos}(hk:sc.names.lookup (Str.ofString x)=some .local):EG g d k sc (.Name (Str.ofString x) p) (.v x):=by
 intro env J J' U v y μ A E s Q ev eo er r rm vr th;cases ev;exact PyProof.Rows.assign_Name (Dg eo er r vr hk th)
theorem ML {x z:String}{p p' tp:Pos}{j:Nat}(hk:sc.names.lookup (Str.ofString x)=some .local)(hk':sc.names.lookup (Str.ofString z)=some .local) :
  EG g d k sc (.Tuple [.Name (Str.ofString x) p,.Name (Str.ofString z) p'] j tp) (.two x z):=by
 intro env J J' U v y μ A E s Q ev eo er r rm vr th;cases v with
 | tup l =>
  rcases l with _ | ⟨v1,_ | ⟨v2,_ | _⟩⟩ <;> try (cases ev;done)
  cases ev;rw[PyProof.Rows.assign_Tuple];refine wpAny_bind (wpAny_standAt ?_);show wpAny _ _ (do assignInOrder [assign (.Name (Str.ofString x) p) env,assign (.Name (Str.ofString z) p') env] (<- holding [y] (unpackItems y 2 none))) _ _ _;refine wpAny_bind (wpAny_holding (Dx (U:=U) (vs:=[v1,v2]) rfl rfl r rm vr λs₂ ys gr st2 vv=>?_));have x2:=gr.ext [] μ;refine eX2 (vv.two) λy1 y2 zz=>aN3 zz λq3 w1 w2=>?_;subst q3
  refine wpAny_bind (wpAny_holding (PyProof.Rows.assign_Name (Dg eo (er.ext x2) (r.grow gr) w1 hk λμ₃ s₃ x3 r3 st3 er3=>?_)));refine wpAny_bind (wpAny_holding (PyProof.Rows.assign_Name (Dg eo er3 r3 (w2.ext x3 (λb hb o e=>(er.ext x2).loc b (by refine ZN (Zx hb) ?_;exact .head _) o e)) hk' λμ₄ s₄ x4 r4 st4 er4=>?_)));exact wpAny_pure (th μ₄ s₄ ((x2.up.trans x3 λa ha=>.inl ha).trans x4 λa ha=>.inl ha) r4 (st2.trans (st3.trans st4)) er4)
 | _=>cases ev
noncomputable abbrev Body:=Around->(Value->Shared->Prop)->(Shared->Prop)->Shared->Prop
noncomputable abbrev FC:=ME'->List MV->MH->(List MV->MH->Prop)->Prop
noncomputable def Hk (nm:List String) (g:Gl) (d k:Nat) (cenv:Env) (D:Addr) (f:FC) (body:Body):Prop :=
 ∀ (J:ME') (U:MH) (vs:List MV) (K:List MV->MH->Prop) (ys:Array Value) (μ:List Addr) (A:Around) (E:Value->Shared->Prop) (s:Shared) (Q:Shared->Prop),
  f J vs U K->EnvRel g μ J cenv s.heap->Rel g μ U s->Room A d k->IsLx s.heap D ys->VRels g μ s.heap vs ys.toList ->
  (∀ ws U',K ws U'->∀ μ' s' ys',Ext [cenv.locals,D] μ μ' s.heap s'.heap->Rel g μ' U' s'->Still s s'->EnvRel g μ' (without J nm) cenv s'.heap->IsLx s'.heap D ys'->VRels g μ' s'.heap ws ys'.toList->Q s')->body A E Q s
theorem EnvRel.weaken {J J':ME'}{env:Env}(E:EnvRel g μ J env h)(e:∀ x v,J'.lookup x=some v->J.lookup x=some v):EnvRel g μ J' env h :=
 ⟨E.ns,E.lL,E.l2,E.l0,E.cell,E.inj,E.has,λx v h=>E.vars x v (e x v h)⟩
theorem Hl {t:TG}{v:MV}{J J':ME'}(e:CY t v J=some J')(hn:∀ x∈t.names,J.lookup x=none):∀ x w,J.lookup x=some w->J'.lookup x=some w:=by
 intro x w hx;have hnot:∀ z∈t.names,(x == z)=false:=λz hz=>by
  refine beq_eq_false_iff_ne.mpr ?_;rintro rfl;replace hx:=ZO (hn _ hz).symm hx;cases hx
 cases t with
 | v n=>cases e;refine ZN List.lookup_cons ?_;refine ZN (hnot _ (.head _)) ?_;exact hx
 | two a b =>
  cases v with
  | tup l =>
   rcases l with _ | ⟨v1,_ | ⟨v2,_ | _⟩⟩ <;> try (cases e;done)
   cases e;refine ZN List.lookup_cons ?_;refine ZN (hnot _ (.tail _ (.head _))) ?_;refine ZN List.lookup_cons ?_;refine ZN (hnot _ (.head _)) ?_;exact hx
  | _=>cases e
 | one a =>
  cases v with
  | tup l =>
   rcases l with _ | ⟨v1,_ | _⟩ <;> try (cases e;done)
   cases e;refine ZN List.lookup_cons ?_;refine ZN (hnot _ (.head _)) ?_;exact hx
  | _=>cases e
theorem CF {J:ME'}{nm:List String}{x:String}{v:MV}(e:(without J nm).lookup x=some v):J.lookup x=some v/\x∉nm:=by
 unfold without at e
 induction J with
 | nil=>cases e
 | cons p J ih =>
  obtain⟨n,w⟩:=p;rw[List.filter_cons]at e
  split at e
  ·rename_i q
   rw[List.lookup_cons]at e ⊢
   split at e
   ·rename_i z
    rw[beq_iff_eq.mp z]at *;exact⟨e,by simpa using q⟩
   ·exact ih e
  ·rename_i q
   have:=ih e;refine ZN List.lookup_cons ?_;have hxn:(x == n)=false:=by
    refine beq_eq_false_iff_ne.mpr ?_
    rintro rfl
    apply q;simpa using this.2
   refine ZN hxn ?_;exact this
theorem Hm {J:ME'}{nm:List String}{x:String}(h:x∉nm):(without J nm).lookup x=J.lookup x:=by
 unfold without
 induction J with
 | nil=>rfl
 | cons p J ih =>
  obtain⟨n,w⟩:=p;refine ZN List.filter_cons ?_
  split
  ·refine ZO List.lookup_cons ?_;refine ZN List.lookup_cons ?_;rw[ih]
  ·rename_i q
   refine ZO ih ?_;refine ZN List.lookup_cons ?_;have:(x == n)=false:=by
    refine beq_eq_false_iff_ne.mpr ?_
    rintro rfl
    apply q;simpa using h
   rw[this]
theorem DU {J:ME'}{nm:List String}{x:String}(h:x∈nm):(without J nm).lookup x=none:=by
 cases q:(without J nm).lookup x with
 | none=>rfl
 | some v=>exact absurd h (CF q).2
theorem DK {loc own:List Addr}{hb:Heap}{s₁ s₂:Shared}(x:Ext loc μ μ' hb s₁.heap)(hs:Step own s₁ s₂)(hd:∀ b∈own,hb.get? b=none):Ext loc μ μ' hb s₂.heap:=by
 refine⟨⟨λb o b2 e n q=>hs.keep b o (λz=>by replace e:=ZO (hd b z).symm e;cases e) (x.keep b o b2 e n q),x.grow⟩,λb o b2 e=>?_⟩;obtain⟨o',e'⟩:=x.alive b o b2 e;exact⟨o',hs.keep b o' (λz=>by replace e:=ZO (hd b z).symm e;cases e) e'⟩
theorem IsLx.at {a:Addr}{items:Array Value}(x:IsLx h a items)(e:∀ o,h.get? a=some o->h'.get? a=some o):IsLx h' a items:=let ⟨n,q⟩:=x;⟨n,e _ q⟩
theorem Pd {J:ME'}{cenv:Env}{D:Addr}{ys:Array Value}(er:EnvRel g μ J cenv h)(hl:IsLx h D ys)(hD:D∈g.av):LocOk g [cenv.locals,D] h:=by
 intro b hb o e;rcases Zz hb with rfl | hb
 ·exact er.loc _ (.head _) o e
 ·rw[Zx hb]at e ⊢
  obtain⟨n,q⟩:=hl;replace q:=ZO e.symm q;cases q;exact .inr ⟨hD,rfl⟩
structure Pe (g:Gl) (cenv:Env) (D:Addr) (own:List Addr) (St:Nat->Heap->Prop) (x:MV) (y0:Value) (J0:ME') (μb:List Addr) (sb:Shared) (i:Nat) (U:MH) (μ:List Addr) (vs:List MV) (ys:Array Value) (s:Shared):Prop where
 x1:Ext [cenv.locals,D] μb μ sb.heap s.heap
 st1:Still sb s
 er1:EnvRel g μ J0 cenv s.heap
 r1:Rel g μ U s
 hl1:IsLx s.heap D ys
 hv1:VRels g μ s.heap vs ys.toList
 hst1:St i s.heap
 vx1:VRel g μ s.heap x y0
 ho1:∀ b∈own,b∉μ
theorem HK {elt:Expr}{gens:List Comprehension}{cs:Scope}{pos:Pos}{depth:Nat}{target:Expr}{t:TG}{kd:IK}{x:MV}{y0:Value}{I D:Addr}{own:List Addr}{St:Nat->Heap->Prop}{Md:Nat->Value->Heap->Prop}{cenv:Env}{csc:Scope}{f:FC}{body:Body}
  (hturn:∀ (A:Around) (E:Value->Shared->Prop) (s:Shared) (Q:Fin->Shared->Prop),wpAny (model g.prog g.w) A (pyNext (.ref I)) (λr s₁=>match r with
   | none=>Q (.done .next) s₁
   | some v=>wpAny (model g.prog g.w) A (letOwnedTupleGo target (.ref I) v) (λ_ s₂=>wpAny (model g.prog g.w) A (assign target cenv v) (λ_ s₃=>body A E (λs₄=>Q (.again (.compLoop (.ListComp elt gens cs pos) depth (.ref I) (.ref D) cenv)) s₄) s₃) E s₂) E s₁) E s->wpAny (model g.prog g.w) A (compTurn (.ListComp elt gens cs pos) depth (.ref I) (.ref D) cenv) Q E s)
  (S:Src g kd x y0 target I own St Md) (ht:EG g d k csc target t) {nm:List String} (hb:Hk nm g d k cenv D f body) (eo:EnvOk csc cenv) (hD:D∈g.av) (J0:ME') (hn:∀ z∈t.names,J0.lookup z=none) (hnm:∀ z∈nm,J0.lookup z=none)
  {n i:Nat} {U:MH} {vs:List MV} {K:List MV->MH->Prop} {ys:Array Value} {μb μ:List Addr} {A:Around} {sb s:Shared} {R:Result->Shared->Prop} (ev:EE (λU=>iter2 U kd x) (λy acc U K=>∃ J',CY t y J0=some J'/\f J' acc U K) n i vs U K)
  (x0:Ext [cenv.locals,D] μb μ sb.heap s.heap) (st0:Still sb s) (er:EnvRel g μ J0 cenv s.heap) (r:Rel g μ U s) (rm:Room A d k) (hl:IsLx s.heap D ys) (hv:VRels g μ s.heap vs ys.toList) (hst:St i s.heap) (vx:VRel g μ s.heap x y0)
  (hown:∀ b∈own,b∉μ/\2<b/\g.h0.get? b=none/\b∉g.av/\b∉Env.mine cenv/\sb.heap.get? b=none)
  (th:∀ ws U',K ws U'->∀ μ' s' ys',Ext [cenv.locals,D] μb μ' sb.heap s'.heap->Rel g μ' U' s'->Still sb s'->EnvRel g μ' J0 cenv s'.heap->IsLx s'.heap D ys'->VRels g μ' s'.heap ws ys'.toList->R (.ok .next) s') :
  codeAny (model g.prog g.w) A (.compLoop (.ListComp elt gens cs pos) depth (.ref I) (.ref D) cenv) R s:=by
 refine codeAny_loop rfl (λn s'=>∃ i U₁ μ₁ vs₁ ys₁,EE (λU=>iter2 U kd x) (λy acc U K=>∃ J',CY t y J0=some J'/\f J' acc U K) n i vs₁ U₁ K/\Pe g cenv D own St x y0 J0 μb sb i U₁ μ₁ vs₁ ys₁ s') ?_ n
  ⟨i,U,μ,vs,ys,ev,x0,st0,er,r,hl,hv,hst,vx,λb hb=>(hown b hb).1⟩
 intro n s₁ y2;refine eX5 (y2) λi U₁ μ₁ vs₁ ys₁ zz=>aN2 zz λev Z=>?_
 show wpAny _ A ((compTurn (.ListComp elt gens cs pos) depth (.ref I) (.ref D) cenv).onRaise (λx=>do noteFrame x cenv;theTreesLotGoes x)) _ _ s₁;refine wpAny_noted ?_;refine hturn A _ s₁ _ ?_;cases n with
 | zero=>cases ev
 | succ n =>
  refine eX1 (ev) λl zz=>aN3 zz λhl' ev0 ev1=>?_
  have hdead:∀ b∈own,sb.heap.get? b=none:=λb hb=>(hown b hb).2.2.2.2.2
  have hlocSt:∀ {i h},St i h->LocOk g own h:=λ{i h} hs b hb o e=>by
   refine eX2 (S.live i h hs b hb) λo' vs zz=>aN2 zz λe' dd=>?_
   replace e':=ZO e.symm e';cases e';exact .inl ⟨λxs n q=>(by replace q:=ZO dd.symm q;cases q),λq=>(by replace q:=ZO dd.symm q;cases q)⟩
  have hlocMd:∀ {i y h},Md i y h->LocOk g own h:=λ{i y h} hs b hb o e=>by
   refine eX2 (S.liveM i y h hs b hb) λo' vs zz=>aN2 zz λe' dd=>?_
   replace e':=ZO e.symm e';cases e';exact .inl ⟨λxs n q=>(by replace q:=ZO dd.symm q;cases q),λq=>(by replace q:=ZO dd.symm q;cases q)⟩
  have hmine:∀ a∈Env.mine cenv,a∉own:=λa ha z=>(hown a z).2.2.2.2.1 ha
  have hDown:D∉own:=λz=>(hown D z).2.2.2.1 hD
  have hfull:∀ b∈own,b∉μ₁/\2<b/\g.h0.get? b=none/\b∉g.av:=λb hb=>⟨Z.ho1 b hb,(hown b hb).2.1,(hown b hb).2.2.1,(hown b hb).2.2.2.1⟩
  refine S.next i U₁ μ₁ A _ s₁ l _ rm.handled Z.hst1 Z.r1 Z.vx1 Z.er1.big (λb hb=>⟨Z.ho1 b hb,(hown b hb).2.1⟩) hl' (λhnn h' tk kp=>?_) (λv hvv h' tk y kp hmd vy=>?_)
  ·have hs:Step own s₁ { s₁ with heap:=h',toks:=tk }:=⟨kp,rfl,rfl⟩
   exact th _ _ (ev0 hnn) μ₁ { s₁ with heap:=h',toks:=tk } ys₁ (DK Z.x1 hs hdead) (DJ Z.r1 hs (hlocSt Z.hst1) hfull) (Z.st1.trans ⟨rfl,rfl⟩) (Z.er1.but (λb o _ q e=>kp b o q e) (hlocSt Z.hst1) hmine) (Z.hl1.at λo e=>kp D o hDown e) (Z.hv1.kp (loc:=own) ⟨λb o n e _ q=>kp b o q e,⟨[],by simp,by simp⟩⟩ (hlocSt Z.hst1))
  ·refine eX1 (ev1 v hvv) λJ' zz=>aN2 zz λe2 e3=>?_
   have hs:Step own s₁ { s₁ with heap:=h',toks:=tk }:=⟨kp,rfl,rfl⟩
   have hv2:VRels g μ₁ h' vs₁ ys₁.toList:=Z.hv1.kp (loc:=own) ⟨λb o n e _ q=>kp b o q e,⟨[],by simp,by simp⟩⟩ (hlocSt Z.hst1);refine S.go i y A _ { s₁ with heap:=h',toks:=tk } _ hmd λh'' kp2 hst2=>?_
   have hs2:Step own { s₁ with heap:=h',toks:=tk } { s₁ with heap:=h'',toks:=tk }:=⟨kp2,rfl,rfl⟩
   have r3:=DJ (DJ Z.r1 hs (hlocSt Z.hst1) hfull) hs2 (hlocMd hmd) hfull
   have er3:=(Z.er1.but (h':=h') (λb o _ q e=>kp b o q e) (hlocSt Z.hst1) hmine).but (h':=h'') (λb o _ q e=>kp2 b o q e) (hlocMd hmd) hmine
   have hl3:IsLx h'' D ys₁:=(Z.hl1.at λo e=>kp D o hDown e).at λo e=>kp2 D o hDown e
   have hDC:D≠cenv.locals:=λz=>by
    refine eX4 (er3.ns) λm o es ep zz=>aN3 zz λe dd _=>?_
    obtain⟨n,q⟩:=hl3;rw[z]at q;replace q:=ZO e.symm q;cases q;cases dd
   refine ht cenv J0 J' U₁ v y μ₁ A _ { s₁ with heap:=h'',toks:=tk } _ e2 eo er3 r3 rm (vy.but (λb o _ q e=>kp2 b o q e) (hlocMd hmd)) λμ₄ s₄ x4 r4 st4 er4=>?_
   have frame:∀ {loc μa μb:List Addr} {ha hb:Heap} {i:Nat},(∀ a∈loc,a=cenv.locals\/a=D)->Ext loc μa μb ha hb->St i ha->(∀ b∈own,b∉μa)->St i hb/\∀ b∈own,b∉μb:=λ{loc μa μb ha hb i} hloc xx hst hn=>by
    refine⟨S.frame i ha hb hst λb hb' o e=>xx.keep b o (Zf (hown b hb').2.1) e (hn b hb') λz=>?_,λb hb'=>?_⟩
    ·rcases hloc b z with rfl | rfl
     ·exact hmine _ (.head _) hb'
     ·exact hDown hb'
    ·refine eX2 (S.live i ha hst b hb') λo _ zz=>aN2 zz λe _=>?_
     exact xx.notin e (hn b hb')
   refine aN2 (frame (λa ha=>.inl (Zx ha)) x4 hst2 Z.ho1) λf1 f2=>?_
   have hloc4:LocOk g [cenv.locals] h'':=λb hb o e=>er3.loc b (by refine ZN (Zx hb) ?_;exact .head _) o e
   have hD2:=(r3.avl D hD)
   have hl4:IsLx s₄.heap D ys₁:=hl3.at λo e=>x4.keep D o (Zf hD2.1) e hD2.2.1 λz=>hDC (Zx z)
   refine hb J' U₁ vs₁ _ ys₁ μ₄ A _ s₄ _ e3 er4 r4 rm hl4 ((hv2.kp (loc:=own) ⟨λb o n e _ q=>kp2 b o q e,⟨[],by simp,by simp⟩⟩ (hlocMd hmd)).ext x4 hloc4) λws U₂ ev2 μ₅ s₅ ys₅ x5 r5 st5 er5 hl5 hv5=>?_
   refine aN2 (frame (λa ha=>by rcases Zz ha with h | h;exact .inl h;exact .inr (Zx h)) x5 f1 f2) λf3 f4=>?_
   exact⟨rfl,n,Zo _,i+1,U₂,μ₅,ws,ys₅,ev2,(((DK (DK Z.x1 hs hdead) hs2 hdead).trans x4 λa ha=>.inl (by refine ZN (Zx ha) ?_;exact .head _)).trans x5 λa ha=>.inl ha),((Z.st1.trans ⟨rfl,rfl⟩:Still sb { s₁ with heap:=h'',toks:=tk }).trans (st4.trans st5)),er5.weaken (λz w hz=>(Hm λq=>by replace hz:=ZO (hnm z q).symm hz;cases hz).trans (Hl e2 hn z w hz)),r5,hl5,hv5,f3,((((Z.vx1.but (λb o _ q e=>kp b o q e) (hlocSt Z.hst1)).but (λb o _ q e=>kp2 b o q e) (hlocMd hmd)).ext x4 hloc4).ext x5 (Pd er4 hl4 hD)),f4⟩
end
section
variable {g:Gl} {μ μ':List Addr} {h h':Heap} {X:CK} {d k:Nat} {sc:Scope}
noncomputable def Bp (env:Env):List (Str×NameKind)->List (Str×Addr)->List (Str×Addr)
 | [],acc=>acc
 | (n,kd)::r,acc=>if kd == .free then (match env.cells.lookup n with | some c=>Bp env r ((n,c)::acc) | none=>Bp env r acc)else Bp env r acc
theorem Gp {env:Env}{scope:Scope}(hf:∀ y∈scope.names,y.2=.free->(env.cells.lookup y.1).isSome=true):closureFor scope env=pure (Bp env scope.names []):=by
 unfold closureFor;generalize ([]:List (Str×Addr))=acc;generalize scope.names=l at hf ⊢;dsimp only
 induction l generalizing acc with
 | nil=>rfl
 | cons y l ih =>
  obtain⟨n,kd⟩:=y;rw[List.forIn_cons];unfold Bp
  by_cases q:(kd == .free)=true
  ·obtain⟨c,hc⟩:=Option.isSome_iff_exists.mp (hf _ (.head _) (beq_iff_eq.mp q))
   simp only[q,if_true];unfold cellOf;refine ZN hc ?_;exact ih _ (λy hy=>hf y (.tail _ hy))
  ·simp only[q,Bool.false_eq_true,if_false]
   exact ih _ (λy hy=>hf y (.tail _ hy))
theorem EQ {env:Env}:∀ {l:List (Str×NameKind)}{acc:List (Str×Addr)}{p:Str×Addr},p∈Bp env l acc->p∈acc\/env.cells.lookup p.1=some p.2:=by
 intro l
 induction l with
 | nil=>intro acc p h;exact .inl h
 | cons y l ih =>
  obtain⟨n,kd⟩:=y;intro acc p h;unfold Bp at h
  split at h
  ·split at h
   ·rename_i c hc
    rcases ih h with h | h
    ·rcases Zz h with rfl | h
     ·exact .inr hc
     ·exact .inl h
    ·exact .inr h
   ·exact ih h
  ·exact ih h
theorem Jj {env:Env}:∀ {l:List (Str×NameKind)}{acc:List (Str×Addr)}{x:Str},(acc.lookup x).isSome=true->((Bp env l acc).lookup x).isSome=true:=by
 intro l
 induction l with
 | nil=>intro acc x h;exact h
 | cons y l ih =>
  obtain⟨n,kd⟩:=y;intro acc x h;unfold Bp
  split
  ·split
   ·refine ih ?_
    refine ZN List.lookup_cons ?_
    split
    ·rfl
    ·exact h
   ·exact ih h
  ·exact ih h
theorem GF {env:Env}:∀ {l:List (Str×NameKind)}{acc:List (Str×Addr)}{x:Str},(x,NameKind.free)∈l->(env.cells.lookup x).isSome=true->((Bp env l acc).lookup x).isSome=true:=by
 intro l
 induction l with
 | nil=>intro acc x h;cases h
 | cons y l ih =>
  obtain⟨n,kd⟩:=y;intro acc x h hs;unfold Bp;rcases Zz h with h | h
  ·cases h
   refine ZN (if_pos (by decide)) ?_;obtain⟨c,hc⟩:=Option.isSome_iff_exists.mp hs;refine ZN hc ?_;exact Jj (by refine ZN List.lookup_cons ?_;simp)
  ·split
   ·split <;> exact ih h hs
   ·exact ih h hs
noncomputable def Cj (cs sc:Scope):Scope:={ cs with names:=cs.names.map λ(n,kd)=>if (kd == .free && sc.kind == .function && sc.names.lookup n == some .cell)then (n,.cell)else (n,kd) }
theorem N8 {cs:Scope}{env:Env}(eo:EnvOk sc env):relabel cs env=Cj cs sc:=by
 unfold relabel Cj;refine ZN eo.scope ?_
 congr 1
 refine ZL λp _=>?_
 obtain⟨n,kd⟩:=p;dsimp only;rw[eo.kindOf]
theorem lookup_relS {cs:Scope}{x:Str}:(Cj cs sc).names.lookup x=match cs.names.lookup x with
  | some .free=>if (sc.kind == .function && sc.names.lookup x == some .cell)then some .cell else some .free
  | o=>o:=by
 unfold Cj;dsimp only
 induction cs.names with
 | nil=>rfl
 | cons y l ih =>
  obtain⟨n,kd⟩:=y;refine ZN ZJ ?_
  by_cases q:x=n
  ·subst q
   have self:∀ (kd:NameKind) (l:List (Str×NameKind)),((x,kd)::l).lookup x=some kd:=λkd l=>by refine ZO List.lookup_cons ?_;rw[beq_self_eq_true]
   rw[self];dsimp only
   by_cases c:(kd == NameKind.free && sc.kind == ScopeKind.function && List.lookup x sc.names == some NameKind.cell)=true
   ·refine ZN (if_pos c) ?_;rw[self]
    simp only[Bool.and_eq_true]at c;refine ZN (beq_iff_eq.mp c.1.1) ?_;dsimp only;rw[if_pos (by refine ZN c.1.2 ?_;refine ZN c.2 ?_;rfl)]
   ·refine ZN (if_neg c) ?_;rw[self]
    cases kd <;> try rfl
    dsimp only;rw[if_neg (λz=>c (by refine ZN (show (NameKind.free == NameKind.free)=true from rfl) ?_;rw[Bool.true_and];exact z))]
  ·have q':(x == n)=false:=beq_eq_false_iff_ne.mpr q
   split <;> (refine ZN List.lookup_cons ?_;refine ZN List.lookup_cons ?_;refine ZN q' ?_;exact ih)
structure ER (cs sc:Scope) (names:List String):Prop where
 kind:cs.kind=.function
 noCell:∀ y∈cs.names,y.2≠.cell
 loc:∀ x∈cs.names,x.2=.local->cs.names.lookup x.1=some .local
 free:∀ y∈cs.names,y.2=.free->sc.names.lookup y.1=some .cell\/sc.names.lookup y.1=some .free
 names:∀ n:String,cs.names.lookup (Str.ofString n)=some .local->n∈names
theorem Ax {β:Type}{l:List (Str×β)}{x:Str}{v:β}(h:l.lookup x=some v):(x,v)∈l:=mem_of_lookup_some h
set_option tactic.hygienic true in
theorem I7 {cs:Scope}{names:List String}{C:Addr}{env:Env}{J:ME'}{U:MH}{s:Shared}{m:Str->Option Value}(O:ER cs sc names)(eo:EnvOk sc env)(er:EnvRel g μ J env s.heap)(r:Rel g μ U s)(hC:s.heap.Ns C m)(hCμ:C∉μ)(h2:2<C)(h0:g.h0.get? C=none)(hm:C∉Env.mine env) :
  EnvOk (Cj cs sc) (compEnvC cs (Bp env cs.names []) C env)/\EnvRel g μ (without J names) (compEnvC cs (Bp env cs.names []) C env) s.heap:=by
 have eoC:EnvOk (Cj cs sc) (compEnvC cs (Bp env cs.names []) C env):=⟨N8 eo,O.kind,eo.globals,eo.builtins⟩
 have look:∀ {x c},(Bp env cs.names []).lookup x=some c->env.cells.lookup x=some c:=λ{x c} h=>by
  rcases EQ (Ax h)with h | h
  ·cases h
  ·exact h
 have freeOf:∀ x,(Cj cs sc).names.lookup x=some .cell\/(Cj cs sc).names.lookup x=some .free->cs.names.lookup x=some .free:=λx h=>by
  rw[lookup_relS]at h
  split at h
  ·rename_i q;exact q
  ·rename_i o q
   rcases h with h | h
   ·exact absurd rfl (O.noCell _ (Ax h))
   ·exact h
 refine⟨eoC,⟨m,hC⟩,hCμ,h2,h0,λp hp=>?_,λx y c hx hy=>er.inj x y c (look hx) (look hy),λx hx=>?_,λx v e=>?_⟩
 ·rcases EQ hp with h | h
  ·cases h
  ·refine aN5 (er.cell _ (mem_of_lookup h)) λa1 a2 a3 a4 a5=>?_
   refine⟨a1,a2,a3,λz=>hm ?_,a5⟩;have z':p.2=C:=z;refine ZN z'.symm ?_;exact .tail _ (ZE (f:=(·.2)) (mem_of_lookup h))
 ·rw[eoC.kindOf]at hx
  have hm:=Ax (freeOf x hx)
  have:=O.free _ hm rfl;obtain⟨c,hc⟩:=er.has x (by rw[eo.kindOf];exact this);exact Option.isSome_iff_exists.mp (GF hm (by refine ZN hc ?_;rfl))
 ·have e1:J.lookup x=some v/\x∉names:=by
   unfold without at e;clear r er
   induction J with
   | nil=>cases e
   | cons p J ih =>
    obtain⟨n,w⟩:=p;rw[List.filter_cons]at e
    split at e
    ·rename_i q
     rw[List.lookup_cons]at e ⊢
     split at e
     ·rename_i z
      rw[beq_iff_eq.mp z]at *;refine⟨e,?_⟩;simpa using q
     ·exact ih e
    ·rename_i q
     have:=ih e;refine ZN List.lookup_cons ?_;have hxn:(x == n)=false:=by
      refine beq_eq_false_iff_ne.mpr ?_
      rintro rfl
      apply q;simpa using this.2
     refine ZN hxn ?_;exact this
  have va:=er.vars x v e1.1;unfold DH at va ⊢;rw[eo.kindOf]at va;refine ZN ((eoC.kindOf _)) ?_;have cellCase:cs.names.lookup (Str.ofString x)=some .free->∃ c y,(Bp env cs.names []).lookup (Str.ofString x)=some c/\s.heap.IsCell c (some y)/\VRel g μ s.heap v y:=λhf=>by
   have hm:=Ax hf
   have hk:=O.free _ hm rfl
   have get:∃ c y,env.cells.lookup (Str.ofString x)=some c/\s.heap.IsCell c (some y)/\VRel g μ s.heap v y:=by
    rcases hk with hk | hk <;> (dsimp only at hk;rw[hk]at va;exact va)
   refine eX2 (get) λc y zz=>aN3 zz λb1 b2 b3=>?_
   obtain⟨c',hc'⟩:=Option.isSome_iff_exists.mp (GF (acc:=[]) hm (by refine ZN b1 ?_;rfl));have:=look hc';replace this:=ZO b1.symm this;cases this;exact (eI2 c y ⟨hc',b2,b3⟩)
  split
  ·rename_i hk
   replace hk:=ZO lookup_relS.symm hk
   split at hk
   ·split at hk <;> cases hk
   ·exact absurd (O.names x hk) e1.2
  ·rename_i hk;exact cellCase (freeOf _ (.inl hk))
  ·rename_i hk;exact cellCase (freeOf _ (.inr hk))
  ·trivial
end
section
variable {g:Gl} {μ μ':List Addr} {h h':Heap} {X:CK} {d k:Nat} {sc:Scope}
mutual
theorem VRel.atAv {av':List Addr}(hd:∀ a o,h.get? a=some o->a∉g.av->a∉av')(v:MV){y:Value}(r:VRel g μ h v y):VRel (g.at av') μ h v y:=by
 cases v with
 | tup l =>
  refine eX2 (r) λa it zz=>aN5 zz λe ht n n1 r=>?_
  exact⟨a,it,e,ht,n,n1,VRels.atAv hd l r⟩
 | fl l =>
  refine eX2 (r) λa it zz=>aN5 zz λe ht n n1 r=>?_
  exact⟨a,it,e,ht,⟨n.1,ht.elim λm e=>hd _ _ e n.2⟩,n1,VRels.atAv hd l r⟩
 | _=>exact r
theorem VRels.atAv {av':List Addr}(hd:∀ a o,h.get? a=some o->a∉g.av->a∉av')(v:List MV){y:List Value}(r:VRels g μ h v y):VRels (g.at av') μ h v y:=by
 cases v with
 | nil=>exact r
 | cons v l =>
  refine eX2 (r) λy ys zz=>aN3 zz λe a b=>?_
  exact⟨y,ys,e,VRel.atAv hd v a,VRels.atAv hd l b⟩
end
theorem VRel.under {D:Addr}(hd:h.get? D=Option.none){v:MV}{y:Value}:VRel g μ h v y->VRel (g.at (D::g.av)) μ h v y :=
 VRel.atAv (λa o e n q=>(Zz q).elim (λz=>by subst z;replace e:=ZO hd.symm e;cases e) n) v
theorem VRel.over {D:Addr}{v:MV}{y:Value}:VRel (g.at (D::g.av)) μ h v y->VRel g μ h v y:=VRel.atAv (g:=g.at (D::g.av)) (av':=g.av) (λ_ _ _ n q=>n (.tail _ q)) v
theorem VRels.over {D:Addr}{v:List MV}{y:List Value}:VRels (g.at (D::g.av)) μ h v y->VRels g μ h v y:=VRels.atAv (g:=g.at (D::g.av)) (av':=g.av) (λ_ _ _ n q=>n (.tail _ q)) v
theorem ORel.map {g':Gl}(hp:g'.prog=g.prog)(hw:g'.w=g.w)(f:∀ {v y},VRel g μ h v y->VRel g' μ h v y){a:Addr}{o:MO}(r:ORel g μ h a o):ORel g' μ h a o:=by
 obtain⟨p,w,K,h0,fv,cl,av⟩:=g;obtain⟨p',w',K',h0',fv',cl',av'⟩:=g';dsimp only at hp hw;subst hp hw;have fs:∀ {l:List MV} {ys:List Value},VRels ⟨p',w',K,h0,fv,cl,av⟩ μ h l ys->VRels ⟨p',w',K',h0',fv',cl',av'⟩ μ h l ys:=by
  intro l
  induction l with
  | nil=>intro ys r;exact r
  | cons v l ih=>intro ys ⟨y,zs,e,a,b⟩;exact⟨y,zs,e,f a,ih b⟩
 cases o with
 | list l=>refine aN2 (r) λz zz=>eX1 zz λitems zz=>aN2 zz λe k=>?_;exact⟨z,items,e,fs k⟩
 | ed=>exact r
 | idict l =>
  obtain⟨z,kvs,e,k⟩:=r;refine⟨z,kvs,e,?_⟩;clear e z
  induction k with
  | nil=>exact .nil
  | cons a _ ih=>exact .cons (f a) ih
 | tdict l =>
  obtain⟨z,kvs,e,k⟩:=r;refine⟨z,kvs,e,?_⟩;clear e z
  induction k with
  | nil=>exact .nil
  | cons a b c _ ih=>exact .cons a b (f c) ih
 | attrs l =>
  obtain⟨z,es,n,e,k⟩:=r;refine⟨z,es,n,e,?_⟩;clear e z;generalize es.toList=el at k
  induction k with
  | nil=>exact .nil
  | cons a b _ ih=>exact .cons a (f b) ih
theorem Rel.under {U:MH}{s s':Shared}{D:Addr}(r:Rel g μ U s)(hd:s.heap.get? D=none)(h2:2<D)(gr:Grow s.heap s'.heap)(hl:∃ o,s'.heap.get? D=some o):Rel (g.at (D::g.av)) μ U s':=by
 have r':=r.grow gr;refine⟨r'.len,r'.nodup,r'.low,r'.live,λi o a e1 e2=>?_,r'.base,r'.fresh,r'.stat,λa q=>?_,λa q=>?_⟩
 ·have:=ORel.map (g:=g) (g':=g.at (D::g.av)) rfl rfl (λv=>VRel.under (g:=g) hd v) (r.objs i o a e1 e2)
  exact this.ext (gr.ext [] μ) LocOk.nil λo' e=>gr.keep a o' (Zf (r.low a (Zy e2))) e
 ·rcases Zz q with rfl | q
  ·refine⟨h2,λz=>?_,hl⟩
   obtain⟨o,e⟩:=r.live _ z;replace e:=ZO hd.symm e;cases e
  ·exact r'.avl a q
 ·rcases Zz q with rfl | q
  ·exact C9 r (Zf h2) hd
  ·exact r'.av0 a q
theorem Rel.over {U:MH}{s:Shared}{D:Addr}(r:Rel (g.at (D::g.av)) μ U s):Rel g μ U s :=
 ⟨r.len,r.nodup,r.low,r.live,λi o a e1 e2=>ORel.map (g:=g.at (D::g.av)) (g':=g) rfl rfl (λv=>VRel.over (g:=g) v) (r.objs i o a e1 e2),r.base,r.fresh,r.stat,λa q=>r.avl a (.tail _ q),λa q=>r.av0 a (.tail _ q)⟩
theorem EnvRel.map {g':Gl}(h0:g'.h0=g.h0)(f:∀ {v y},VRel g μ h v y->VRel g' μ h v y){J:ME'}{env:Env}(E:EnvRel g μ J env h):EnvRel g' μ J env h:=by
 refine⟨E.ns,E.lL,E.l2,h0▸E.l0,h0▸E.cell,E.inj,E.has,λx v e=>?_⟩;have:=E.vars x v e;unfold DH at this ⊢
 split at this
 ·refine eX2 (this) λm y zz=>aN3 zz λa b c=>?_;exact (eI2 m y ⟨a,b,f c⟩)
 ·refine eX2 (this) λm y zz=>aN3 zz λa b c=>?_;exact (eI2 m y ⟨a,b,f c⟩)
 ·refine eX2 (this) λm y zz=>aN3 zz λa b c=>?_;exact (eI2 m y ⟨a,b,f c⟩)
 ·trivial
theorem Ob {ys:Array Value}{D:Addr}{y:Value}{cenv:Env}{J:ME'}{U:MH}{vs:List MV}{v:MV}{A:Around}{E:Value->Shared->Prop}{s:Shared}{Q:Value->Shared->Prop}(hD:D∈g.av)(er:EnvRel g μ J cenv s.heap)(r:Rel g μ U s)(hl:IsLx s.heap D ys)(hv:VRels g μ s.heap vs ys.toList)(hz:vs.length+1<=big)(vy:VRel g μ s.heap v y)
  (th:∀ s' ys',Ext [cenv.locals,D] μ μ s.heap s'.heap->Rel g μ U s'->Still s s'->EnvRel g μ J cenv s'.heap->IsLx s'.heap D ys'->VRels g μ s'.heap (vs++[v]) ys'.toList->Q .none s'):wpAny (model g.prog g.w) A (call (.builtin "list.append") [.ref D,y]) Q E s:=by
 obtain⟨n,e⟩:=id hl;refine aN3 (r.avl D hD) λh2 hμ zz=>eX1 zz λo0 e0=>?_
 have hsz:=hv.arr;refine call_meets PySem.F.slot_list_append ⟨_,e,rfl⟩ PySem.F.entry_list_append (PySem.F.args_list_append_2 _ _) (list_append D ys n y (by refine ZN hsz.symm ?_;refine ZN sizeLine_eq ?_;exact Zc (Nat.le_of_succ_le hz) (by decide))) ⟨e,?_⟩;have e':=PySem.IsL.update (x:=e) λx=>x.push y
 have hs:Heap.SameBut D s.heap (s.heap.update D (Obj.mapSeq λx=>x.push y)):=Heap.SameBut.update ..
 have kb:∀ (b:Nat) (o:Obj),b≠2->b∉[D]->s.heap.get? b=some o->(s.heap.update D (Obj.mapSeq λx=>x.push y)).get? b=some o:=λb o _ q e=>(hs.2 b λz=>q (by refine ZN z ?_;exact .head _)).trans e
 have hloc:LocOk g [D] s.heap:=λb hb o eo=>by
  rw[Zx hb]at eo ⊢;replace eo:=ZO e.symm eo;cases eo;exact .inr ⟨hD,rfl⟩
 have hDm:∀ a∈Env.mine cenv,a∉[D]:=λa ha z=>by
  rw[Zx z]at ha;rcases Zz ha with ha | ha
  ·refine eX4 (er.ns) λm o es ep zz=>aN3 zz λeo dd _=>?_
   rw[<- ha]at eo;replace eo:=ZO e.symm eo;cases eo;cases dd
  ·refine eX1 (ZB ha) λp zz=>aN2 zz λhp hq=>?_
   obtain⟨⟨w,o,eo,dd⟩,_⟩:=er.cell p hp;rw[hq]at eo;replace eo:=ZO e.symm eo;cases eo;cases dd
 have h0:g.h0.get? D=none:=r.av0 D hD;refine th { s with heap:=_ } _ ⟨⟨λb o b2 e q1 q2=>kb b o b2 (λz=>q2 (.tail _ z)) e,⟨[],by simp,by simp⟩⟩,λb o b2 eb=>?_⟩ (r.but kb hloc (λb hb=>by refine ZN (Zx hb) ?_;exact hμ) (λb hb=>by refine ZN (Zx hb) ?_;exact h0) (λo eo=>(hs.2 2 (Zk h2)).trans eo) λb hb _=>by refine ZN (Zx hb) ?_;exact⟨_,e'⟩) ⟨rfl,rfl⟩
  (er.but kb hloc hDm) ⟨_,e'⟩ ?_
 ·by_cases q:b=D
  ·subst q;exact⟨_,e'⟩
  ·exact⟨o,(hs.2 b q).trans eb⟩
 ·refine ZN Array.toList_push ?_
  exact (hv.kp (loc:=[D]) ⟨λb o n e _ q=>kb b o n q e,⟨[],by simp,by simp⟩⟩ hloc).snoc (vy.but kb hloc)
end
section
variable {g:Gl} {μ μ':List Addr} {h h':Heap} {X:CK} {d k:Nat} {sc:Scope}
noncomputable abbrev Ej (ifs:List Expr) (env:Env):Sem Bool:=forIn ifs true λc r=>if r=true then do let ok <- isTrue c env (eval c env);pure (ForInStep.yield ok)else pure (ForInStep.yield r)
noncomputable def HL (X:CK) (g:Gl) (d k:Nat) (sc:Scope) (ifs:List Expr) (ts:List ME):Prop :=
 ∀ (env:Env) (J:ME') (U:MH) (K:Bool->MH->Prop) (μ:List Addr) (A:Around) (E:Value->Shared->Prop) (s:Shared) (Q:Bool->Shared->Prop),
  evKc X ts J U K->EnvOk sc env->EnvRel g μ J env s.heap->Rel g μ U s->Room A d k ->
  (∀ b U',K b U'->∀ μ' s',Ext [] μ μ' s.heap s'.heap->Rel g μ' U' s'->Still s s'->Q b s')->wpAny (model g.prog g.w) A (Ej ifs env) Q E s
theorem BM:HL X g d k sc [] []:=λenv J U K μ A E s Q ev eo er r rm th=>wpAny_tests_nil (th _ _ ev μ s (Ext.refl _ _ _) r (Still.refl _))
theorem Hn {c:Expr}{t:ME}(h1:EM X g d k sc c t):HL X g d k sc [c] [t] :=
 λenv J U K μ A E s Q ev eo er r rm th=>wpAny_tests_one (h1 env J U (λc U=>match c with | false=>K false U | true=>evKc X [] J U K) μ A E s _ ev eo er r rm λb U' kb=>match b,kb with
  | false,kb=>th _ _ kb
  | true,kb=>th _ _ kb)
noncomputable abbrev OK (X:CK) (telt:ME) (tcs:List ME):FC:=λJ' acc U K=>evKc X tcs J' U λb U=>match b with
 | false=>K acc U
 | true=>evK X telt J' U λv U=>acc.length<big/\K (acc++[v]) U
theorem I8 {elt:Expr}{ifs:List Expr}{telt:ME}{tcs:List ME}{cenv:Env}{csc:Scope}{D:Addr}(eo:EnvOk csc cenv)(hD:D∈g.av)(hc:HL X g d k csc ifs tcs)(he:Ai X g d k csc elt telt) :
  Hk [] g d k cenv D (OK X telt tcs)
  (λA E Q s=>wpAny (model g.prog g.w) A (Ej ifs cenv) (λok s₃=>if ok=true then wpAny (model g.prog g.w) A (eval elt cenv) (λx s₄=>wpAny (model g.prog g.w) A (call (.builtin "list.append") [.ref D,x]) (λ_ s₅=>Q s₅) E s₄) E s₃ else Q s₃) E s):=by
 intro J U vs K ys μ A E s Q ev er r rm hl hv th;refine hc cenv J U _ μ A E s _ ev eo er r rm λb U₁ ev μ₁ s₁ x1 r1 st1=>?_
 have hDl:=r.avl D hD
 have hl1:IsLx s₁.heap D ys:=hl.at λo e=>x1.keep D o (Zf hDl.1) e hDl.2.1 (by simp)
 have hv1:=hv.ext x1 LocOk.nil;cases b with
 | false =>
  refine ZN (if_neg (by decide)) ?_;exact th _ _ ev μ₁ s₁ ys x1.up r1 st1 ((er.ext x1).weaken λ_ _ e=>(CF e).1) hl1 hv1
 | true =>
  refine ZN (if_pos rfl) ?_;refine he cenv J U₁ _ μ₁ A E s₁ _ ev eo (er.ext x1) r1 rm λv U₂ ee μ₂ s₂ y x2 r2 st2 v2=>?_
  obtain⟨hz,kv⟩:=ee;have hDl1:=r1.avl D hD;exact Ob hD ((er.ext x1).ext x2) r2 (hl1.at λo e=>x2.keep D o (Zf hDl1.1) e hDl1.2.1 (by simp)) (hv1.ext x2 LocOk.nil) hz v2 λs₃ ys' x3 r3 st3 er3 hl3 hv3 =>
   th _ _ kv μ₂ s₃ ys' ((x1.up.trans x2.up λa ha=>.inl ha).trans x3 λa ha=>.inl ha) r3 (st1.trans (st2.trans st3)) (er3.weaken λ_ _ e=>(CF e).1) hl3 hv3
noncomputable abbrev KZ (g:Gl) (μ:List Addr) (s:Shared) (K:MV->MH->Prop) (A:Around) (E:Value->Shared->Prop) (use:Option (Value->Sem Unit)) (Q:Value->Shared->Prop):Prop :=
 ∀ (v:MV) (U':MH),K v U'->∀ (μ':List Addr) (s':Shared) (D C:Addr) (m:Str->Option Value),Ext [] μ μ' s.heap s'.heap->Rel g μ' U' s'->Still s s'->VRel g μ' s'.heap v (.ref D)->s'.heap.Ns C m->C∉μ'->2<C->s.heap.get? C=none ->
  compPost (model g.prog g.w) A E use Q (.ref D) C (.ok .next) s'
theorem HM {elt it:Expr}{gens:List Comprehension}{gifs:List Expr}{cs:Scope}{pos cpos:Pos}{target:Expr}{t:TG}{kd:IK}{names:List String}{f:FC}{body:Addr->Env->Body}{ti:ME}
  (O:ER cs sc names) (hn:∀ z∈t.names,z∈names) {nm:List String} (hnm:∀ z∈nm,z∈names)
  (hit:Df X g d k sc target it kd ti) (ht:∀ av,EG (g.at av) d k (Cj cs sc) target t)
  (hb:∀ D cenv,EnvOk (Cj cs sc) cenv->cenv.scope.kind=.function->Hk nm (g.at (D::g.av)) d k cenv D f (body D cenv))
  (hf:∀ env x,foldedSetIterable it env x=pure x)
  (hturn:∀ (I D:Addr) (cenv:Env) (A:Around) (E:Value->Shared->Prop) (s:Shared) (Q:Fin->Shared->Prop),wpAny (model g.prog g.w) A (pyNext (.ref I)) (λr s₁=>match r with
   | none=>Q (.done .next) s₁
   | some v=>wpAny (model g.prog g.w) A (letOwnedTupleGo target (.ref I) v) (λ_ s₂=>wpAny (model g.prog g.w) A (assign target cenv v) (λ_ s₃=>body D cenv A E (λs₄=>Q (.again (.compLoop (.ListComp elt (⟨target,it,gifs,0⟩::gens) cs pos) 0 (.ref I) (.ref D) cenv)) s₄) s₃) E s₂) E s₁) E s->wpAny (model g.prog g.w) A (compTurn (.ListComp elt (⟨target,it,gifs,0⟩::gens) cs pos) 0 (.ref I) (.ref D) cenv) Q E s)
  {env:Env} {J:ME'} {U:MH} {K:MV->MH->Prop} {μ:List Addr} {A:Around} {E:Value->Shared->Prop} {s:Shared} {Q:Value->Shared->Prop} {use:Option (Value->Sem Unit)}
  (ev:evK X ti J U λx U=>(∃ l,iter2 U kd x=some l)/\EE (λU=>iter2 U kd x) (λy acc U K=>∃ J',CY t y (without J names)=some J'/\f J' acc U K) X.turns 0 [] U λvs U=>K (.fl vs) U)
  (eo:EnvOk sc env) (er:EnvRel g μ J env s.heap) (r:Rel g μ U s) (rm:Room A d k) (th:KZ g μ s K A E use Q) :
  wpAny (model g.prog g.w) A (comprehension (.ListComp elt (⟨target,it,gifs,0⟩::gens) cs pos) cs env cpos (newList []) false (eval it env) use) Q E s:=by
 refine wpAny_comprehension_free rfl (hf env) (Gp λy hy hfr=>?_) O.kind O.loc ?_
 ·obtain⟨c,hc⟩:=er.has y.1 (by rw[eo.kindOf];exact O.free y hy hfr)
  refine ZN hc ?_;rfl
 refine hit env J U _ μ A E s _ ev eo er r rm λx U₀ ev μ₁ s₁ y0 I own St Md x1 r1 st1 vx S sf hst hown=>?_
 have er1:=er.ext x1
 have hbig:=er1.big.size;refine wpAny_newList ?_ (by show 0<=sizeLine;exact Zm _);refine wpAny_newFunctionEnv O.noCell (by intro y hy;simp at hy) (λh₁ hns hsb=>?_) O.kind;generalize hH:s₁.heap.push { cls:=.type "list",data:=.seq ([]:List Value).toArray }=H at hns hsb ⊢;have hC:H.objs.size=s₁.heap.objs.size+1:=by refine ZN hH.symm ?_;rw[Heap.size_push]
 have gr:Grow s₁.heap h₁:=by
  refine Grow.of_keep λb o e=>?_
  refine (hsb.2 b ?_).trans (Heap.get?_push_of_some _ ?_)
  ·refine ZN hC ?_;exact Zk (Zi (Heap.lt_size e))
  ·refine ZN hH.symm ?_;exact Heap.get?_push_of_some _ e
 have hDl:IsLx h₁ s₁.heap.objs.size #[]:=by
  refine⟨0,(hsb.2 _ ?_).trans (Heap.get?_push_of_some _ ?_)⟩
  ·refine ZN hC ?_;exact Zk (Zo _)
  ·refine ZN hH.symm ?_;exact Heap.get?_push_size _ rfl
 have dD:=Ba s₁.heap
 have dC:s₁.heap.get? H.objs.size=none:=by
  cases q:s₁.heap.get? H.objs.size with
  | none=>rfl
  | some o =>
   have:=Heap.lt_size q;rw[hC]at this;exact absurd (show (s₁.heap.objs.size+1:Nat)<s₁.heap.objs.size from this) (Zp (Zj (Zg _)))
 have hC2:2<H.objs.size:=by refine ZN hC ?_;exact Zi hbig
 have sD:s.heap.get? s₁.heap.objs.size=none:=x1.dead (Zf hbig) dD
 have sC:s.heap.get? H.objs.size=none:=x1.dead (Zf hC2) dC
 have nDC:s₁.heap.objs.size≠H.objs.size:=by refine ZN hC ?_;exact Zk (Zo _)
 have r2:Rel (g.at (s₁.heap.objs.size::g.av)) μ₁ U₀ { s₁ with heap:=h₁,toks:=s₁.toks+([]:List (Str×Value)).length }:=Rel.under (s':={ s₁ with heap:=h₁,toks:=s₁.toks+([]:List (Str×Value)).length }) r1 dD hbig gr (by obtain⟨n,e⟩:=hDl;exact⟨_,e⟩)
 have nCμ:H.objs.size∉μ₁:=λq=>by obtain⟨o,e⟩:=r1.live _ q;replace e:=ZO dC.symm e;cases e
 have mineDead:∀ a∈Env.mine env,∃ o,s.heap.get? a=some o:=λa ha=>(er.mineOk a ha).2.2.2
 have nCm:H.objs.size∉Env.mine env:=λq=>by obtain⟨o,e⟩:=mineDead _ q;replace e:=ZO sC.symm e;cases e
 refine aN2 (I7 (g:=g.at (s₁.heap.objs.size::g.av)) (s:={ s₁ with heap:=h₁,toks:=s₁.toks+([]:List (Str×Value)).length }) O eo ((EnvRel.map (g:=g) (g':=g.at (s₁.heap.objs.size::g.av)) rfl (λv=>VRel.under (g:=g) dD v) er1).ext (gr.ext [] μ₁)) r2 hns nCμ hC2 (C9 r1 (Zf hC2) dC) nCm) λeoC erC=>?_
 have S1:=S (s₁.heap.objs.size::g.av)
 have hst1:St 0 h₁:=S1.frame 0 s₁.heap h₁ hst λb hb o e=>gr.keep b o (Zf (hown b hb).2.1) e
 have ownLive:∀ b∈own,∃ o,s₁.heap.get? b=some o:=λb hb=>by refine eX2 (S1.live 0 s₁.heap hst b hb) λo _ zz=>aN2 zz λe _=>?_;exact⟨o,e⟩
 have loop:codeAny (model g.prog g.w) A (.compLoop (.ListComp elt (⟨target,it,gifs,0⟩::gens) cs pos) 0 (.ref I) (.ref s₁.heap.objs.size) (compEnvC cs (Bp env cs.names []) H.objs.size env)) (compPost (model g.prog g.w) A E use Q (.ref s₁.heap.objs.size) H.objs.size) { s₁ with heap:=h₁,toks:=s₁.toks+([]:List (Str×Value)).length }:=by
  refine HK (g:=g.at (s₁.heap.objs.size::g.av)) (sb:=s) (μb:=μ) (vs:=[]) (hturn I _ _) S1 (ht _) (hb _ _ eoC (by show cs.kind=_;exact O.kind)) eoC (.head _) (without J names) (λz hz'=>?_) (λz hz'=>DU (hnm z hz')) ev ?_ (st1.trans ⟨rfl,rfl⟩) erC r2 rm hDl .nil hst1 ((VRel.under (g:=g) dD vx).ext (gr.ext [] μ₁) LocOk.nil) (λb hb=>?_) λws U' kv μ₅ s₅ ys₅ x5 r5 st5 er5 hl5 hv5=>?_
  ·exact DU (hn z hz')
  ·exact (x1.trans (gr.ext [] μ₁) λa q=>nomatch q).up
  ·refine aN4 (hown b hb) λb1 b2 b3 b4=>?_
   refine⟨b1,b2,b4,λq=>?_,λq=>?_,b3⟩
   ·rcases Zz q with q | q
    ·obtain⟨o,e⟩:=ownLive b hb;rw[q]at e;replace e:=ZO dD.symm e;cases e
    ·refine aN3 (r.avl b q) λ_ _ zz=>eX1 zz λo e=>?_;replace e:=ZO b3.symm e;cases e
   ·rcases Zz q with q | q
    ·obtain⟨o,e⟩:=ownLive b hb
     rw[show b=H.objs.size from q]at e;replace e:=ZO dC.symm e;cases e
    ·refine eX1 (ZB q) λp zz=>aN2 zz λhp hq=>?_
     rcases EQ hp with hp | hp
     ·cases hp
     ·obtain⟨o,e⟩:=mineDead _ (.tail _ (ZE (f:=(·.2)) (mem_of_lookup hp)))
      rw[show p.2=b from hq]at e;replace e:=ZO b3.symm e;cases e
  ·have hD5:=r5.avl s₁.heap.objs.size (.head _)
   obtain⟨m,hm⟩:=er5.ns;refine th _ _ kv μ₅ s₅ s₁.heap.objs.size H.objs.size m (x5.loc λa ha=>.inr ?_) (Rel.over (g:=g) r5) st5 ?_ hm er5.lL hC2 sC
   ·rcases Zz ha with rfl | ha
    ·exact sC
    ·refine ZN (Zx ha) ?_;exact sD
   ·refine .fl hl5 ⟨hD5.2.1,λq=>?_⟩ hbig (VRels.over (g:=g) (D:=s₁.heap.objs.size) hv5)
    refine aN3 (r.avl _ q) λ_ _ zz=>eX1 zz λo e=>?_
    replace e:=ZO sD.symm e;cases e
 exact codeAny_compStart_list loop (sf 0 A _ _ _ hst1 loop)
end
section
variable {g:Gl} {μ μ':List Addr} {h h':Heap} {X:CK} {d k:Nat} {sc:Scope}
theorem N9 {C:Addr}{m:Str->Option Value}(hn:h.Ns C m):LocOk g [C] h:=by
 intro b hb o e;rw[Zx hb]at e;refine eX3 (hn) λo' es ep zz=>aN3 zz λe' dd _=>?_
 replace e':=ZO e.symm e';cases e';exact .inl ⟨λxs n q=>(by replace q:=ZO dd.symm q;cases q),λq=>(by replace q:=ZO dd.symm q;cases q)⟩
theorem GG {U:MH}{s s':Shared}{C:Addr}{m:Str->Option Value}{hh:Heap}(r0:Rel g μ U s){μ':List Addr}{U':MH}(x:Ext [] μ μ' s.heap s'.heap)(r:Rel g μ' U' s')(hn:s'.heap.Ns C m)(hC:C∉μ')(h2:2<C)(hd:s.heap.get? C=none)(hs:Heap.SameBut C s'.heap hh) :
  Ext [] μ μ' s.heap hh/\Rel g μ' U' { s' with heap:=hh }/\∀ {v y},VRel g μ' s'.heap v y->VRel g μ' hh v y:=by
 have kb:∀ (b:Nat) (o:Obj),b≠2->b∉[C]->s'.heap.get? b=some o->hh.get? b=some o:=λb o _ q e=>(hs.2 b λz=>q (by refine ZN z ?_;exact .head _)).trans e
 have hav:C∉g.av:=λq=>by refine aN3 (r0.avl C q) λ_ _ zz=>eX1 zz λo e=>?_;replace e:=ZO hd.symm e;cases e
 refine⟨DK (s₁:=s') (s₂:={ s' with heap:=hh }) x (own:=[C]) ⟨λb o q e=>(hs.2 b λz=>q (by refine ZN z ?_;exact .head _)).trans e,rfl,rfl⟩ λb hb=>by refine ZN (Zx hb) ?_;exact hd,r.but kb (N9 hn) (λb hb=>by refine ZN (Zx hb) ?_;exact hC) (λb hb=>by refine ZN (Zx hb) ?_;exact C9 r0 (Zf h2) hd) (λo e=>(hs.2 2 (Zk h2)).trans e) λb hb q=>?_,λv=>v.but kb (N9 hn)⟩;rw[Zx hb]at q;exact absurd q hav
theorem MM {prog:Program}{w:World}{elt target it:Expr}{ifs:List Expr}{cs:Scope}{pos:Pos}(I D:Addr)(cenv:Env)(A:Around)(E:Value->Shared->Prop)(s:Shared)(Q:Fin->Shared->Prop)(h:wpAny (model prog w) A (pyNext (.ref I)) (λr s₁=>match r with
   | none=>Q (.done .next) s₁
   | some v=>wpAny (model prog w) A (letOwnedTupleGo target (.ref I) v) (λ_ s₂=>wpAny (model prog w) A (assign target cenv v) (λ_ s₃ =>
    wpAny (model prog w) A (Ej ifs cenv) (λok s₃=>if ok=true then wpAny (model prog w) A (eval elt cenv) (λx s₄=>wpAny (model prog w) A (call (.builtin "list.append") [.ref D,x]) (λ_ s₅=>Q (.again (.compLoop (.ListComp elt [⟨target,it,ifs,0⟩] cs pos) 0 (.ref I) (.ref D) cenv)) s₅) E s₄) E s₃ else Q (.again (.compLoop (.ListComp elt [⟨target,it,ifs,0⟩] cs pos) 0 (.ref I) (.ref D) cenv)) s₃) E s₃) E s₂) E s₁) E s) :
  wpAny (model prog w) A (compTurn (.ListComp elt [⟨target,it,ifs,0⟩] cs pos) 0 (.ref I) (.ref D) cenv) Q E s:=by
 rw[compTurn_list];refine wpAny_bind (wpAny_standAt (wpAny_bind (wpAny_mono h (λr s₁ h₁=>?_) λ_ _ h'=>h')));cases r with
 | none=>exact wpAny_pure h₁
 | some v =>
  refine wpAny_bind (wpAny_mono h₁ (λ_ s₂ h₂=>?_) λ_ _ h'=>h');refine wpAny_bind (wpAny_mono h₂ (λ_ s₃ h₃=>wpAny_bind (wpAny_mono h₃ (λok s₄ h₄=>?_) λ_ _ h'=>h')) λ_ _ h'=>h');cases ok with
  | false=>exact wpAny_pure h₄
  | true=>exact wpAny_bind (wpAny_bind (wpAny_mono h₄ (λx s₅ h₅=>wpAny_bind (wpAny_mono h₅ (λ_ s₆ h₆=>wpAny_pure (wpAny_pure h₆)) λ_ _ h'=>h')) λ_ _ h'=>h'))
theorem I9 {elt it target:Expr}{ifs:List Expr}{cs:Scope}{pos cpos:Pos}{t:TG}{kd:IK}{ti telt:ME}{tcs:List ME}(O:ER cs sc (".0"::t.names))
  (hit:Df X g d k sc target it kd ti) (ht:∀ av,EG (g.at av) d k (Cj cs sc) target t) (hc:∀ av,HL X (g.at av) d k (Cj cs sc) ifs tcs) (he:∀ av,Ai X (g.at av) d k (Cj cs sc) elt telt) (hf:∀ env x,foldedSetIterable it env x=pure x)
  {env:Env} {J:ME'} {U:MH} {K:MV->MH->Prop} {A:Around} {E:Value->Shared->Prop} {s:Shared} {Q:Value->Shared->Prop} {use:Option (Value->Sem Unit)} (ev:evK X (.comp telt t kd ti tcs) J U K)
  (eo:EnvOk sc env) (er:EnvRel g μ J env s.heap) (r:Rel g μ U s) (rm:Room A d k) (th:KZ g μ s K A E use Q) :
  wpAny (model g.prog g.w) A (comprehension (.ListComp elt [⟨target,it,ifs,0⟩] cs pos) cs env cpos (newList []) false (eval it env) use) Q E s :=
 HM (f:=OK X telt tcs) (nm:=[]) O (λz hz=>.tail _ hz) (λz hz=>nomatch hz) hit ht (λD cenv eoC _=>I8 (g:=g.at (D::g.av)) eoC (.head _) (hc _) (he _)) hf (λI D cenv A E s Q hh=>MM I D cenv A E s Q hh) ev eo er r rm th
theorem Ay {elt it target:Expr}{ifs:List Expr}{cs:Scope}{pos:Pos}{t:TG}{kd:IK}{ti telt:ME}{tcs:List ME}(O:ER cs sc (".0"::t.names))
  (hit:Df X g d k sc target it kd ti) (ht:∀ av,EG (g.at av) d k (Cj cs sc) target t) (hc:∀ av,HL X (g.at av) d k (Cj cs sc) ifs tcs) (he:∀ av,Ai X (g.at av) d k (Cj cs sc) elt telt) (hf:autoParam (∀ env x,foldedSetIterable it env x=pure x) au) :
  Ai X g d k sc (.ListComp elt [⟨target,it,ifs,0⟩] cs pos) (.comp telt t kd ti tcs):=by
 intro env J U K μ A E s Q ev eo er r rm th;rw[eval_ListComp];refine I9 (use:=none) O hit ht hc he hf ev eo er r rm λv U' kv μ' s' D C m x r' st vr hn hC h2 hd=>⟨m,hn,λhh hs=>?_⟩
 refine aN3 (GG r x r' hn hC h2 hd hs) λa b c=>?_
 exact th _ _ kv μ' { s' with heap:=hh } (.ref D) a b (st.trans ⟨rfl,rfl⟩) (c vr)
theorem HN {elt it target:Expr}{ifs:List Expr}{cs:Scope}{pos spos py:Pos}{t:TG}{kd:IK}{ti telt:ME}{tcs:List ME}{y:String}(O:ER cs sc (".0"::t.names))
  (hit:Df X g d k sc target it kd ti) (ht:∀ av,EG (g.at av) d k (Cj cs sc) target t) (hc:∀ av,HL X (g.at av) d k (Cj cs sc) ifs tcs) (he:∀ av,Ai X (g.at av) d k (Cj cs sc) elt telt)
  (hk:(sc.names.lookup (Str.ofString y) == some .local || sc.names.lookup (Str.ofString y) == some .cell)=true)
  (hsw:∀ env,env.scope=sc->swapsWith (.ListComp elt [⟨target,it,ifs,0⟩] cs pos) (some (.Name (Str.ofString y) py)) spos.line env=pure true) (hf:autoParam (∀ env x,foldedSetIterable it env x=pure x) au) :
  Fb X g d k sc (.Assign [.Name (Str.ofString y) py] (.ListComp elt [⟨target,it,ifs,0⟩] cs pos) spos) (.assign (.v y) (.comp telt t kd ti tcs)):=by
 intro env J U K μ A E s Q ev eo er r rm th;refine ZN (exec_Assign_Name_used _ _ _ _ (hsw env eo.scope)) ?_;refine wpAny_bind (wpAny_standAt (wpAny_bind ?_));have ev:evK X (.comp telt t kd ti tcs) J U λv U=>K .next ((y,v)::J) U:=ev
 refine wpAny_bind (I9 (use:=some (assign (.Name (Str.ofString y) py) env)) (Q:=λ_ s'=>wpAny (model g.prog g.w) A (pure ()) (λ_ s''=>wpAny (model g.prog g.w) A (pure Flow.next) Q E s'') E s') O hit ht hc he hf ev eo er r rm λv U' kv μ' s' D C m x r' st vr hn hC h2 hd=>?_);refine PyProof.Rows.assign_Name (Dw eo (er.ext x) r' vr hk λμ₂ s₂ x2 r2 st2 er2=>?_);have hCm:C∉Env.mine env:=λq=>by refine aN4 (er.mineOk C q) λ_ _ _ zz=>eX1 zz λo e=>?_;replace e:=ZO hd.symm e;cases e
 have hn2:s₂.heap.Ns C m:=Dd hn λo e=>x2.keep C o (Zf h2) e hC hCm
 have hC2:C∉μ₂:=by refine eX3 (hn) λo _ _ zz=>aN2 zz λe _=>?_;exact x2.notin e hC
 refine⟨m,hn2,λhh hs=>wpAny_pure (wpAny_pure ?_)⟩;have hnD:∀ a∈Env.mine env,a∉[C]:=λa ha z=>hCm (by rw[Zx z]at ha;exact ha)
 have kb:∀ (b:Nat) (o:Obj),b≠2->b∉[C]->s₂.heap.get? b=some o->hh.get? b=some o:=λb o _ q e=>(hs.2 b λz=>q (by refine ZN z ?_;exact .head _)).trans e
 have hav:C∉g.av:=λq=>by refine aN3 (r.avl C q) λ_ _ zz=>eX1 zz λo e=>?_;replace e:=ZO hd.symm e;cases e
 have x12:Ext (Env.mine env) μ μ₂ s.heap s₂.heap:=x.up.trans x2 λa ha=>.inl ha
 refine th _ _ _ kv μ₂ { s₂ with heap:=hh } .next (DK (s₁:=s₂) (s₂:={ s₂ with heap:=hh }) x12 (own:=[C]) ⟨λb o q e=>(hs.2 b λz=>q (by refine ZN z ?_;exact .head _)).trans e,rfl,rfl⟩ λb hb=>by refine ZN (Zx hb) ?_;exact hd)
  (r2.but kb (N9 hn2) (λb hb=>by refine ZN (Zx hb) ?_;exact hC2) (λb hb=>by refine ZN (Zx hb) ?_;exact C9 r (Zf h2) hd) (λo e=>(hs.2 2 (Zk h2)).trans e) λb hb q=>by rw[Zx hb]at q;exact absurd q hav) ((st.trans st2).trans ⟨rfl,rfl⟩) (er2.but kb (N9 hn2) hnD) rfl
end
section
variable {g:Gl} {μ μ':List Addr} {h h':Heap} {X:CK} {d k:Nat} {sc:Scope}
theorem FI {prog:Program}{w:World}{A:Around}{R:Result->Shared->Prop}{s:Shared}{elt:Expr}{g0:Comprehension}{target iter:Expr}{ifs:List Expr}{cs:Scope}{pos:Pos}{it acc:Value}{env:Env}
  (h0:codeAny (model prog w) A (.compLoop (.ListComp elt [g0,⟨target,iter,ifs,0⟩] cs pos) 1 it acc env) R s)
  (h:wpAny (model prog w) A (pyIter it) (λit' s'=>codeAny (model prog w) A (.compLoop (.ListComp elt [g0,⟨target,iter,ifs,0⟩] cs pos) 1 it' acc env) R s')
   (notedBy (model prog w) A env λx s'=>R (.error x) s') s) :
  codeAny (model prog w) A (.compStart (.ListComp elt [g0,⟨target,iter,ifs,0⟩] cs pos) 1 it acc env) R s:=by
 refine codeAny_of_tree ?_;refine wpAny_notedAt ?_;refine wpAny_bind (wpAny_askSetting (wpAny_ite ?_))
 split
 ·first
   | exact wpAny_bind (wpAny_pure (wpAny_pure (And.intro rfl h0)))
   | exact wpAny_pure (And.intro rfl h0)
 ·first
   | exact wpAny_bind (wpAny_rule (wpAny_bind (wpAny_standAt (wpAny_bind (wpAny_mono h (λit' s' h'=>wpAny_pure (And.intro rfl h')) λ_ _ x=>x)))))
   | (refine wpAny_bind (wpAny_rule ?_);show wpAny _ _ (standAt iter.pos >>= _) _ _ s;exact wpAny_bind (wpAny_standAt (wpAny_bind (wpAny_mono h (λit' s' h'=>wpAny_pure (And.intro rfl h')) λ_ _ x=>x))))
theorem Jk {prog:Program}{w:World}{elt target it t2 it2:Expr}{ifs2:List Expr}{cs:Scope}{pos:Pos}(I D:Addr)(cenv:Env)(A:Around)(E:Value->Shared->Prop)(s:Shared)(Q:Fin->Shared->Prop)(hf:∀ env x,foldedSetIterable it2 env x=pure x)
  (h:wpAny (model prog w) A (pyNext (.ref I)) (λr s₁=>match r with
   | none=>Q (.done .next) s₁
   | some v=>wpAny (model prog w) A (letOwnedTupleGo target (.ref I) v) (λ_ s₂=>wpAny (model prog w) A (assign target cenv v) (λ_ s₃ =>
    wpAny (model prog w) A (eval it2 cenv) (λx s₄=>wpAny (model prog w) A (pyIter x) (λit' s₅=>codeAny (model prog w) A (.compStart (.ListComp elt [⟨target,it,[],0⟩,⟨t2,it2,ifs2,0⟩] cs pos) 1 it' (.ref D) cenv)
     (λr s'=>match r with | .ok _=>Q (.again (.compLoop (.ListComp elt [⟨target,it,[],0⟩,⟨t2,it2,ifs2,0⟩] cs pos) 0 (.ref I) (.ref D) cenv)) s' | .error e=>cameBackBy (model prog w) A cenv E e s') s₅) E s₄) E s₃) E s₂) E s₁) E s) :
  wpAny (model prog w) A (compTurn (.ListComp elt [⟨target,it,[],0⟩,⟨t2,it2,ifs2,0⟩] cs pos) 0 (.ref I) (.ref D) cenv) Q E s:=by
 show wpAny _ A (do
   standAt it.pos
   match <- pyNext (.ref I)with
   | none=>pure (.done .next)
   | some v=>do
    letOwnedTupleGo target (.ref I) v
    assign target cenv v
    let x <- eval it2 cenv
    standAt it2.pos
    let x <- foldedSetIterable it2 cenv x
    let _ <- runOwn (.compStart (.ListComp elt [⟨target,it,[],0⟩,⟨t2,it2,ifs2,0⟩] cs pos) 1 (<- holding [x] (pyIter x)) (.ref D) cenv) cenv
    again (.compLoop (.ListComp elt [⟨target,it,[],0⟩,⟨t2,it2,ifs2,0⟩] cs pos) 0 (.ref I) (.ref D) cenv)) Q E s
 refine wpAny_bind (wpAny_standAt (wpAny_bind (wpAny_mono h (λr s₁ h₁=>?_) λ_ _ h'=>h')));cases r with
 | none=>exact wpAny_pure h₁
 | some v =>
  refine wpAny_bind (wpAny_mono h₁ (λ_ s₂ h₂=>?_) λ_ _ h'=>h');refine wpAny_bind (wpAny_mono h₂ (λ_ s₃ h₃=>?_) λ_ _ h'=>h');refine wpAny_bind (wpAny_mono h₃ (λx s₄ h₄=>wpAny_bind (wpAny_standAt (wpAny_bind (wpAny_of_eq (hf cenv x) (wpAny_bind (wpAny_holding (wpAny_mono h₄ (λit' s₅ h₅=>?_) λ_ _ h'=>h'))))))) λ_ _ h'=>h');refine wpAny_bind (wpAny_runOwn (codeAny_mono h₅ λr s' hr=>?_));cases r with
  | ok f=>exact wpAny_pure hr
  | error e=>exact hr
theorem Ia {prog:Program}{w:World}{elt t0 it0 target it:Expr}{cs:Scope}{pos:Pos}{if0:List Expr}(I D:Addr)(cenv:Env)(A:Around)(E:Value->Shared->Prop)(s:Shared)(Q:Fin->Shared->Prop)(h:wpAny (model prog w) A (pyNext (.ref I)) (λr s₁=>match r with
   | none=>Q (.done .next) s₁
   | some v=>wpAny (model prog w) A (letOwnedTupleGo target (.ref I) v) (λ_ s₂=>wpAny (model prog w) A (assign target cenv v) (λ_ s₃ =>
    wpAny (model prog w) A (Ej [] cenv) (λok s₃=>if ok=true then wpAny (model prog w) A (eval elt cenv) (λx s₄=>wpAny (model prog w) A (call (.builtin "list.append") [.ref D,x]) (λ_ s₅=>Q (.again (.compLoop (.ListComp elt [⟨t0,it0,if0,0⟩,⟨target,it,[],0⟩] cs pos) 1 (.ref I) (.ref D) cenv)) s₅) E s₄) E s₃ else Q (.again (.compLoop (.ListComp elt [⟨t0,it0,if0,0⟩,⟨target,it,[],0⟩] cs pos) 1 (.ref I) (.ref D) cenv)) s₃) E s₃) E s₂) E s₁) E s) :
  wpAny (model prog w) A (compTurn (.ListComp elt [⟨t0,it0,if0,0⟩,⟨target,it,[],0⟩] cs pos) 1 (.ref I) (.ref D) cenv) Q E s:=by
 show wpAny _ A (do
   standAt it.pos
   match <- pyNext (.ref I)with
   | none=>pure (.done .next)
   | some v=>do
    letOwnedTupleGo target (.ref I) v
    assign target cenv v
    (do
      let ok <- Ej [] cenv
      if ok then do
       (do let _ <- call (.builtin "list.append") [.ref D,<- eval elt cenv])
       again (.compLoop (.ListComp elt [⟨t0,it0,if0,0⟩,⟨target,it,[],0⟩] cs pos) 1 (.ref I) (.ref D) cenv)
      else again (.compLoop (.ListComp elt [⟨t0,it0,if0,0⟩,⟨target,it,[],0⟩] cs pos) 1 (.ref I) (.ref D) cenv))) Q E s
 refine wpAny_bind (wpAny_standAt (wpAny_bind (wpAny_mono h (λr s₁ h₁=>?_) λ_ _ h'=>h')));cases r with
 | none=>exact wpAny_pure h₁
 | some v =>
  refine wpAny_bind (wpAny_mono h₁ (λ_ s₂ h₂=>?_) λ_ _ h'=>h');refine wpAny_bind (wpAny_mono h₂ (λ_ s₃ h₃=>wpAny_bind (wpAny_mono h₃ (λok s₄ h₄=>?_) λ_ _ h'=>h')) λ_ _ h'=>h');cases ok with
  | false=>exact wpAny_pure h₄
  | true=>exact wpAny_bind (wpAny_bind (wpAny_mono h₄ (λx s₅ h₅=>wpAny_bind (wpAny_mono h₅ (λ_ s₆ h₆=>wpAny_pure (wpAny_pure h₆)) λ_ _ h'=>h')) λ_ _ h'=>h'))
theorem EnvRel.sub {J:ME'}{env:Env}(E:EnvRel g μ J env h)(nm:List String):EnvRel g μ (without J nm) env h:=E.weaken λ_ _ e=>(CF e).1
noncomputable abbrev MN (X:CK) (telt ti2:ME) (t2:TG):FC:=λJ' acc U K=>evK X ti2 J' U λx2 U=>(∃ l,iter2 U .it x2=some l) /\
 EE (λU=>iter2 U .it x2) (λy2 acc U K=>∃ J'',CY t2 y2 (without J' t2.names)=some J''/\evK X telt J'' U λv U=>acc.length<big/\K (acc++[v]) U) X.turns 0 acc U K
theorem MP {elt target it t2e it2:Expr}{t2:TG}{ti2 telt:ME}{cs:Scope}{pos:Pos}{cenv:Env}{csc:Scope}{D:Addr}(eo:EnvOk csc cenv)(hD:D∈g.av)
  (hit:Df X g d k csc t2e it2 .it ti2) (ht:EG g d k csc t2e t2) (he:Ai X g d k csc elt telt) :
  Hk t2.names g d k cenv D (MN X telt ti2 t2)
  (λA E Q s=>wpAny (model g.prog g.w) A (eval it2 cenv) (λx s₄=>wpAny (model g.prog g.w) A (pyIter x) (λit' s₅=>codeAny (model g.prog g.w) A (.compStart (.ListComp elt [⟨target,it,[],0⟩,⟨t2e,it2,[],0⟩] cs pos) 1 it' (.ref D) cenv)
     (λr s'=>match r with | .ok _=>Q s' | .error e=>cameBackBy (model g.prog g.w) A cenv E e s') s₅) E s₄) E s):=by
 intro J U vs K ys μ A E s Q ev er r rm hl hv th;refine hit cenv J U _ μ A E s _ ev eo er r rm λx U₀ ev μ₁ s₁ y0 I own St Md x1 r1 st1 vx S sf hst hown=>?_
 have S1:Src g .it x y0 t2e I own St Md:=S g.av
 have hDl:=r.avl D hD
 have b1:=I8 (g:=g) (X:=X) (d:=d) (k:=k) (tcs:=[]) eo hD BM he
 have loop:codeAny (model g.prog g.w) A (.compLoop (.ListComp elt [⟨target,it,[],0⟩,⟨t2e,it2,[],0⟩] cs pos) 1 (.ref I) (.ref D) cenv) (λr s'=>match r with | .ok _=>Q s' | .error e=>cameBackBy (model g.prog g.w) A cenv E e s') s₁:=by
  refine HK (n:=X.turns) (i:=0) (sb:=s) (μb:=μ) (vs:=vs) (nm:=[]) (Ia I D cenv) S1 ht b1 eo hD (without J t2.names) (λz hz=>DU hz) (λz hz=>nomatch hz) ev x1.up st1 ((er.ext x1).sub _) r1 rm (hl.at λo e=>x1.keep D o (Zf hDl.1) e hDl.2.1 (by simp)) (hv.ext x1 LocOk.nil) hst vx (λb hb=>?_) λws U' kv μ₅ s₅ ys₅ x5 r5 st5 er5 hl5 hv5=>th ws U' kv μ₅ s₅ ys₅ x5 r5 st5 er5 hl5 hv5
  refine aN4 (hown b hb) λb1 b2 b3 b4=>?_
  refine⟨b1,b2,b4,λq=>?_,λq=>?_,b3⟩
  ·refine aN3 (r.avl b q) λ_ _ zz=>eX1 zz λo e=>?_;replace e:=ZO b3.symm e;cases e
  ·refine aN4 (er.mineOk b q) λ_ _ _ zz=>eX1 zz λo e=>?_;replace e:=ZO b3.symm e;cases e
 exact FI loop (sf 0 A _ _ _ hst loop)
theorem LF {elt it target t2e it2:Expr}{cs:Scope}{pos:Pos}{t t2:TG}{ti ti2 telt:ME}(O:ER cs sc (".0"::(t.names++t2.names)))
  (hit:Df X g d k sc target it .it ti) (ht:∀ av,EG (g.at av) d k (Cj cs sc) target t) (hit2:∀ av,Df X (g.at av) d k (Cj cs sc) t2e it2 .it ti2) (ht2:∀ av,EG (g.at av) d k (Cj cs sc) t2e t2) (he:∀ av,Ai X (g.at av) d k (Cj cs sc) elt telt)
  (hf:autoParam (∀ env x,foldedSetIterable it env x=pure x) au) (hf2:autoParam (∀ env x,foldedSetIterable it2 env x=pure x) au) :
  Ai X g d k sc (.ListComp elt [⟨target,it,[],0⟩,⟨t2e,it2,[],0⟩] cs pos) (.comp2 telt t ti t2 ti2):=by
 intro env J U K μ A E s Q ev eo er r rm th;refine HM (use:=none) (kd:=.it) (t:=t) (nm:=t2.names) (f:=MN X telt ti2 t2)
  O (λz hz=>.tail _ (List.mem_append_left _ hz)) (λz hz=>.tail _ (List.mem_append_right _ hz)) hit ht (λD cenv eoC _=>MP (g:=g.at (D::g.av)) (t2:=t2) eoC (.head _) (hit2 _) (ht2 _) (he _)) hf (λI D cenv A E s Q hh=>Jk I D cenv A E s Q hf2 hh) ev eo er r rm λv U' kv μ' s' D C m x r' st vr hn hC h2 hd=>⟨m,hn,λhh hs=>?_⟩
 refine aN3 (GG r x r' hn hC h2 hd hs) λa b c=>?_
 exact th _ _ kv μ' { s' with heap:=hh } (.ref D) a b (st.trans ⟨rfl,rfl⟩) (c vr)
end
section
variable {g:Gl} {μ μ':List Addr} {h h':Heap} {X:CK} {d k:Nat} {sc:Scope}
theorem GOk.at (G:GOk g)(av:List Addr):GOk (g.at av):=⟨G.keep,G.handed,G.dict,G.hook,G.miss,G.glob,G.meth,G.keeps,G.setattr,G.attr⟩
structure FnAt (g:Gl) (f:Addr) (fn:FN) (fd:FuncData) (body:List Stmt):Prop where
 look:∃ oc od osl,g.K.lookup f=some ⟨oc,od,.func fd,osl⟩
 body:fd.body=.stmts body
 glob:fd.globals=mainGlobals
 bi:fd.builtins=builtinsNs
 clos:fd.closure=[]
 co:fd.scope.isCoroutine=false
 gen:fd.scope.isGenerator=false
 kind:fd.scope.kind=.function
 code:codeIn g.K fd.code fd.qualname=true
 bind:∀ xs:List Value,xs.length=fn.params.length->bindArgs fd ⟨xs,[]⟩=pure ((fn.params.map Str.ofString).zip xs)
 kinds:∀ x∈fn.params,fd.scope.names.lookup (Str.ofString x)=some .local\/fd.scope.names.lookup (Str.ofString x)=some .cell
 cells:∀ y,fd.scope.names.lookup y=some .cell->((cellsFrom 0 fd.scope.names []).lookup y).isSome=true
 cellNames:((cellsFrom 0 fd.scope.names []).map (·.1)).Nodup
 noFree:∀ y∈fd.scope.names,y.2≠.free
 nodup:fn.params.Nodup
theorem Ib (kindOf:Str->Option NameKind):∀ (l:List (Str×Value))(n:Str)(m:Str->Option Value),n∉l.map (·.1)->bindL kindOf l m n=m n:=by
 intro l
 induction l with
 | nil=>intro n m _;rfl
 | cons p l ih =>
  intro n m hn;obtain⟨a,b⟩:=p;rw[ZJ,List.mem_cons]at hn;replace hn:=not_or.mp hn;show bindL kindOf l _ n=m n;refine ZO (ih n _ hn.2) ?_
  split
  ·exact if_neg hn.1
  ·rfl
theorem Ic (kindOf:Str->Option NameKind):∀ (l:List (Str×Value))(n:Str)(m:Str->Option Value),n∉l.map (·.1)->bindC kindOf l m n=m n:=by
 intro l
 induction l with
 | nil=>intro n m _;rfl
 | cons p l ih =>
  intro n m hn;obtain⟨a,b⟩:=p;rw[ZJ,List.mem_cons]at hn;replace hn:=not_or.mp hn;show bindC kindOf l _ n=m n;refine ZO (ih n _ hn.2) ?_
  split
  ·rfl
  ·exact if_neg hn.1
theorem CG {β γ:Type}{l:List (Str×β)}{l':List (Str×γ)}(e:l.map (·.1)=l'.map (·.1))(x:Str):(l.lookup x).isSome=(l'.lookup x).isSome:=by
 induction l generalizing l' with
 | nil=>cases l' with | nil=>rfl | cons=>cases e
 | cons p l ih =>
  cases l' with
  | nil=>cases e
  | cons p' l' =>
   obtain⟨a,b⟩:=p;obtain⟨a',b'⟩:=p';simp only[ZJ,List.cons.injEq]at e;obtain⟨rfl,e⟩:=e;refine ZN List.lookup_cons ?_;refine ZN List.lookup_cons ?_;cases x == a <;> simp[ih e]
theorem Ho {kindOf:Str->Option NameKind}:∀ (ps:List String)(vs:List MV)(xs:List Value)(m:Str->Option Value),VRels g μ h vs xs->ps.length=vs.length->ps.Nodup->∀ (x:String)(v:MV),(ps.zip vs).lookup x=some v ->
  ∃ y,VRel g μ h v y/\(kindOf (Str.ofString x)=some .local->bindL kindOf ((ps.map Str.ofString).zip xs) m (Str.ofString x)=some y)/\(∀ m,kindOf (Str.ofString x)≠some .local->bindC kindOf ((ps.map Str.ofString).zip xs) m (Str.ofString x)=some y):=by
 intro ps
 induction ps with
 | nil=>intro vs xs m _ _ _ x v e;cases e
 | cons p ps ih =>
  intro vs xs m vr hn nd x v e;cases vs with
  | nil=>cases hn
  | cons w vs =>
   refine eX2 (vr) λy ys zz=>aN3 zz λq3 a b=>?_;subst q3
   replace nd:=List.nodup_cons.mp nd;rw[List.zip_cons_cons]at e;replace e:=ZO List.lookup_cons.symm e;refine ZN ZJ ?_;refine ZN List.zip_cons_cons ?_
   split at e
   ·rename_i q
    have q:=beq_iff_eq.mp q;subst q;cases e;have nin:Str.ofString x∉(((ps.map Str.ofString).zip ys).map (·.1)):=λz=>by
     have:Str.ofString x∈ps.map Str.ofString:=by
      refine eX1 (ZB z) λq zz=>aN2 zz λhq e=>?_
      have:=(List.of_mem_zip hq).1;rw[<- e];exact this
     refine eX1 (ZB this) λx' zz=>aN2 zz λhx' e=>?_
     exact nd.1 (Ah e▸hx')
    refine⟨y,a,λhk=>?_,λm hk=>?_⟩
    ·show bindL kindOf _ (if kindOf (Str.ofString x)=some .local then _ else _) _=_
     refine ZO (Ib _ _ _ _ nin) ?_;rw[if_pos hk];exact if_pos rfl
    ·show bindC kindOf _ (if kindOf (Str.ofString x)=some .local then _ else _) _=_
     refine ZO (Ic _ _ _ _ nin) ?_;rw[if_neg hk];exact if_pos rfl
   ·obtain⟨z,h1,h2,h3⟩:=ih vs ys _ b (Nat.succ.inj hn) nd.2 x v e
    exact⟨z,h1,h2,λm hk=>h3 _ hk⟩
structure Room1 (A:Around) (d k:Nat):Prop where
 handled:A.handled=none
 depth:A.depth+1+2 * d<900
 units:A.units+3+100 * d+10 * k<9800
theorem Room1.deeper {A:Around}(r:Room1 A d k)(env:Env):Room (A.deeper env) d k:=⟨r.handled,r.depth,r.units⟩
theorem Room.one {A:Around}(r:Room A (d+1) k):Room1 A d k:=⟨r.handled,by have:=r.depth;lia,by have:=r.units;lia⟩
theorem OL {f:Addr}{fn:FN}{fd:FuncData}{body:List Stmt}(G:GOk g)(F:FnAt g f fn fd body)(hL:Go X g d k fd.scope body fn.body){vs:List MV}{xs:List Value}{U:MH}{K:MV->MH->Prop}{A:Around}{s:Shared}{R:Result->Shared->Prop}
  (ev:Lp X fn vs U K) (vr:VRels g μ s.heap vs xs) (r:Rel g μ U s) (bg:Big s.heap) (rm:Room1 A d k) (th:Lr g μ s K (λy s'=>R (.ok (.ret y)) s')):codeAny (model g.prog g.w) A (.call (.ref f) ⟨xs,[]⟩) R s:=by
 obtain⟨hlen,ev⟩:=ev;refine eX3 (F.look) λoc od osl hlook=>?_
 have hxs:xs.length=fn.params.length:=by refine ZN hlen ?_;rw[vr.length]
 refine codeAny_call_function (body:=body) (fd:=fd) (by have:=rm.depth;unfold recursionLimit;exact Ze (Ze (Zd (Zo _) (Zt _ _)) this) (Za rfl)) (r.K G _ _ hlook) rfl F.co F.gen F.body (codeRec_of (r.K G) F.code) ?_;refine ZN (F.bind xs hxs) ?_;refine wpAny_pure ?_;refine ZN F.glob ?_;refine ZN F.bi ?_;refine ZN F.clos ?_;have hbk:∀ n,∀ x∈(fn.params.map Str.ofString).zip xs,fd.scope.names.lookup x.1=some .local\/(fd.scope.names.lookup x.1=some .cell/\((cellsFrom n fd.scope.names []).lookup x.1).isSome=true):=λn x hx=>by
  refine eX1 (ZB (List.of_mem_zip hx).1) λp zz=>aN2 zz λhp e=>?_
  refine ZN e.symm ?_;rcases F.kinds p hp with q | q
  ·exact .inl q
  ·exact .inr ⟨q,by rw[CG (cellsFrom_names fd.scope.names n 0 [] [] rfl)];exact F.cells _ q⟩
 refine wpAny_newFunctionEnv_cells F.kind (hbk _) λenv he s' x=>?_
 refine eX2 (x.done) λh₁ tk zz=>aN2 zz λq3 _=>?_;subst q3
 have gr:Grow s.heap h₁:=Grow.of_keep (x.toInCall.keep)
 have r1:Rel g μ U { s with heap:=h₁,toks:=tk }:=r.grow gr;refine⟨let ⟨mc,S⟩:=r1.statAt;⟨mc,S.1,S.2⟩,codeAny_func ?_⟩;have eo:EnvOk fd.scope env:=by subst he;exact⟨rfl,F.kind,rfl,rfl⟩
 have hloc:env.locals=s.heap.objs.size:=by subst he;rfl
 have hcells:env.cells=cellsFrom (s.heap.objs.size+1) fd.scope.names []:=by subst he;rfl
 have nd:(env.cells.map (·.1)).Nodup:=by refine ZN hcells ?_;refine ZN (cellsFrom_names fd.scope.names _ 0 [] [] rfl) ?_;exact F.cellNames
 have b2:=bg.size
 have deadGe:∀ c:Nat,s.heap.objs.size<=c->s.heap.get? c=none:=λc hc=>by
  cases q:s.heap.get? c with
  | none=>rfl
  | some o=>exact absurd (Heap.lt_size q) (Nat.not_lt.mpr hc)
 have dead:∀ a∈Env.mine env,s.heap.get? a=none/\2<a:=λa ha=>by
  rcases Zz ha with rfl | ha
  ·refine ZN hloc ?_;exact⟨Ba _,b2⟩
  ·refine eX1 (ZB ha) λp zz=>aN2 zz λhp q3=>?_;subst q3
   have hlt:=x.above p.1 p.2 hp;rw[hloc]at hlt;exact⟨deadGe _ (Zl hlt),Ze b2 hlt⟩
 have notμ:∀ a,s.heap.get? a=none->a∉μ:=λa ha q=>by obtain⟨o,e⟩:=r.live _ q;replace e:=ZO ha.symm e;cases e
 have er:EnvRel g μ ((fn.params.zip vs).reverse) env h₁:=by
  refine⟨⟨_,x.toInCall.ns⟩,notμ _ (dead _ (.head _)).1,(dead _ (.head _)).2,C9 r (Zf (dead _ (.head _)).2) (dead _ (.head _)).1,λp hp=>?_,λy z c hy hz=>?_,λy hy=>?_,λy w e=>?_⟩
  ·have hm:=dead p.2 (.tail _ (ZE (f:=(·.2)) hp))
   refine⟨⟨_,x.cell p.1 p.2 (lookup_of_mem_nodup nd hp)⟩,notμ _ hm.1,hm.2,Zf (x.above p.1 p.2 hp),C9 r (Zf hm.2) hm.1⟩
  ·have ap:=x.apart
   by_cases q:y=z
   ·exact q
   ·exfalso
    have key:∀ (l:List (Str×Addr)),l.Pairwise (λx y=>x.2≠y.2)->(y,c)∈l->(z,c)∈l->False:=by
     intro l
     induction l with
     | nil=>intro _ h _;cases h
     | cons a l ih =>
      intro hp h1 h2;replace hp:=List.pairwise_cons.mp hp;rcases Zz h1 with h1 | h1
      ·rcases Zz h2 with h2 | h2
       ·rw[<- h1]at h2;cases h2;exact q rfl
       ·exact hp.1 _ h2 (by rw[<- h1])
      ·rcases Zz h2 with h2 | h2
       ·exact hp.1 _ h1 (by rw[<- h2])
       ·exact ih hp.2 h1 h2
    exact key _ ap (Ax hy) (Ax hz)
  ·rw[eo.kindOf]at hy
   rcases hy with hy | hy
   ·have:=F.cells _ hy
    rw[CG (cellsFrom_names fd.scope.names 0 (s.heap.objs.size+1) [] [] rfl),<- hcells]at this;exact Option.isSome_iff_exists.mp this
   ·exact absurd rfl (F.noFree _ (Ax hy))
  ·rw[De _ (by refine ZN (List.map_fst_zip (Nat.le_of_eq hlen)) ?_;exact F.nodup)]at e
   refine eX1 (Ho (kindOf:=env.kindOf) fn.params vs xs (λ_=>none) vr hlen F.nodup y w e) λz zz=>aN3 zz λh1 h2 h3=>?_
   have h1':=h1.ext (gr.ext [] μ) LocOk.nil
   have hy:y∈fn.params:=by
    have:(y,w)∈fn.params.zip vs:=by
     generalize fn.params.zip vs=l at e
     induction l with
     | nil=>cases e
     | cons p l ih =>
      obtain⟨n,u⟩:=p;replace e:=ZO List.lookup_cons.symm e
      split at e
      ·rename_i q;cases e;refine ZN (beq_iff_eq.mp q) ?_;exact .head _
      ·exact .tail _ (ih e)
    exact (List.of_mem_zip this).1
   unfold DH;rcases F.kinds y hy with q | q
   ·rw[eo.kindOf];refine ZN q ?_
    exact⟨_,z,x.toInCall.ns,h2 (by rw[eo.kindOf];exact q),h1'⟩
   ·rw[eo.kindOf];refine ZN q ?_
    have:=F.cells _ q;rw[CG (cellsFrom_names fd.scope.names 0 (s.heap.objs.size+1) [] [] rfl),<- hcells]at this;obtain⟨c,hc⟩:=Option.isSome_iff_exists.mp this;refine⟨c,z,hc,?_,h1'⟩;rw[<- h3 (λ_=>none) (by rw[eo.kindOf,q];decide)];exact x.cell _ _ hc
 refine hL env _ U _ μ (A.deeper env) _ { s with heap:=h₁,toks:=tk } _ ev eo er r1 (rm.deeper env) λfl J' U₁ ev μ' s' Fw x2 r2 st2 er2 fr=>?_
 have xx:Ext [] μ μ' s.heap s'.heap:=by
  have:Ext (Env.mine env) μ μ' s.heap s'.heap:=(gr.ext (Env.mine env) μ).trans x2 λa ha=>.inl ha
  exact this.loc λa ha=>.inr (dead a ha).1
 have st:Still s s':=(⟨rfl,rfl⟩:Still s { s with heap:=h₁,toks:=tk }).trans st2;cases fl with
 | next=>cases fr;exact th _ _ ev μ' s' .none xx r2 st .none
 | cont=>exact ev.elim
 | ret v=>refine eX1 (fr) λx zz=>aN2 zz λq2 vx=>?_;subst q2;exact th _ _ ev μ' s' _ xx r2 st vx
end
section
variable {g:Gl} {μ μ':List Addr} {h h':Heap} {X:CK} {d k:Nat} {sc:Scope}
theorem Gq {A:Around}(r:Room A (d+1) k)(C:Addr)(xs:List Value):Room1 (A.under (.builtin "type.__call__" ⟨.ref C::xs,[]⟩)) d k:=by
 have w:(Code.builtin "type.__call__" ⟨.ref C::xs,[]⟩).weight<=1:=Nat.le_of_eq (by kernel_rfl)
 have u:(Code.builtin "type.__call__" ⟨.ref C::xs,[]⟩).cUnits<=1:=Nat.le_of_eq (by kernel_rfl)
 have h1:=r.depth
 have h2:=r.units;refine⟨r.handled,?_,?_⟩
 ·show A.depth+(Code.builtin "type.__call__" ⟨.ref C::xs,[]⟩).weight+1+2 * d<900
  lia
 ·show A.units+(Code.builtin "type.__call__" ⟨.ref C::xs,[]⟩).cUnits+3+100 * d+10 * k<9800
  lia
structure Oc (g:Gl) (T:Tx):Prop where
 fn:∀ c n fn,T c n=some fn->c≠"class"->∃ f fd body,g.fv c n=some (.ref f)/\FnAt g f fn fd body /\
  ∀ (X:CK) (d k:Nat),(∀ av,GA X (g.at av) d k)->Hi X g->∀ av,Go X (g.at av) d k fd.scope body fn.body
 cls:∀ c fn,T c "__init__"=some fn->c≠"class"/\∃ C fI,g.fv "class" c=some (.ref C)/\g.cl c=some C/\g.fv c "__init__"=some (.ref fI)/\makesIn g.K C=true/\findIn g.K (.ref C) "__init__"=some (some (.ref fI))/\typeIn g.K (.ref fI)=some (.type "function")
theorem callK_class {T:Tx}{turns n:Nat}{f:String}{as:List MV}{U:MH}{K:MV->MH->Prop}:Cg T turns (n+1) "class" f as U K = ∃ fn,T f "__init__"=some fn/\Lp ⟨Cg T turns n,turns⟩ fn (.obj f U.length::as) (U++[.attrs []]) λv U'=>v=.none/\K (.obj f U.length) U':=if_pos rfl
theorem Id {T:Tx}{turns n:Nat}{c f:String}{as:List MV}{U:MH}{K:MV->MH->Prop}(hc:c≠"class"):Cg T turns (n+1) c f as U K = ∃ fn,T c f=some fn/\Lp ⟨Cg T turns n,turns⟩ fn as U K:=if_neg hc
theorem MQ (T:Tx)(O:Oc g T)(turns n:Nat):Hi ⟨Cg T turns n,turns⟩ g:=by
 intro c f ⟨vs,U,K,e⟩;cases n with
 | zero=>exact e.elim
 | succ n =>
  by_cases hc:c="class"
  ·subst hc
   refine eX1 (callK_class.mp e) λfn zz=>aN2 zz λh1 _=>?_
   refine aN2 (O.cls _ _ h1) λ_ zz=>eX2 zz λC fI zz=>aN2 zz λh2 _=>?_
   exact⟨_,h2⟩
  ·refine eX1 ((Id hc).mp e) λfn zz=>aN2 zz λh1 _=>?_
   refine eX3 (O.fn _ _ _ h1 hc) λf' fd body zz=>aN2 zz λh2 _=>?_
   exact⟨_,h2⟩
theorem FnAt.at {f:Addr}{fn:FN}{fd:FuncData}{body:List Stmt}(F:FnAt g f fn fd body)(av:List Addr):FnAt (g.at av) f fn fd body:=⟨F.look,F.body,F.glob,F.bi,F.clos,F.co,F.gen,F.kind,F.code,F.bind,F.kinds,F.cells,F.cellNames,F.noFree,F.nodup⟩
theorem Od (G:GOk g){T:Tx}(O:Oc g T)(turns k:Nat):∀ n av,GA ⟨Cg T turns n,turns⟩ (g.at av) n k:=by
 intro n
 induction n with
 | zero=>intro av c f vs U K μ A E s Q fv xs ev;exact ev.elim
 | succ n ih =>
  intro av c f vs U K μ A E s Q fv xs ev hf vr r bg rm th;refine wpAny_call ?_
  by_cases hc:c="class"
  ·subst hc
   refine eX1 (callK_class.mp ev) λfn zz=>aN2 zz λh1 ev=>?_
   refine aN2 (O.cls _ _ h1) λhne zz=>eX2 zz λC fI zz=>aN6 zz λh2 h3 h4 h5 h6 h7=>?_
   refine eX3 (O.fn _ _ _ h1 hne) λf' fd body zz=>aN3 zz λh8 F hL=>?_
   replace h8:=ZO h4.symm h8;cases h8;have hf':g.fv "class" f=some fv:=hf;replace hf':=ZO h2.symm hf';cases hf';have KI:=r.K (G.at av);obtain⟨hh,gg,dr,tk,os⟩:=s;have b2:2<hh.objs.size:=bg.size;refine make_core (makes_of KI h5) (looks_findIn KI h6) (λself=>bind_fn KI self h7) (.inl rfl) ?_;have gr:Grow hh ((hh.push emptyDict).push (instObj C hh.objs.size)):=(Grow.push _ _).trans (Grow.push _ _)
   have hd:((hh.push emptyDict).push (instObj C hh.objs.size)).get? hh.objs.size=some emptyDict:=Heap.get?_push_of_some _ (Heap.get?_push_size _ rfl)
   have hx:((hh.push emptyDict).push (instObj C hh.objs.size)).get? (hh.objs.size+1)=some (instObj C hh.objs.size):=by rw[<- (Heap.size_push ..)];exact Heap.get?_push_size _ rfl
   have dx:hh.get? (hh.objs.size+1)=none:=by
    cases q:hh.get? (hh.objs.size+1)with
    | none=>rfl
    | some o=>exact absurd (show (hh.objs.size+1:Nat)<hh.objs.size from Heap.lt_size q) (Zp (Zj (Zg _)))
   have x1:Ext [] μ (μ++[hh.objs.size]) hh ((hh.push emptyDict).push (instObj C hh.objs.size)):=Ext.more gr (Ba hh) b2 []
   have r1:Rel (g.at av) (μ++[hh.objs.size]) (U++[.attrs []]) ⟨(hh.push emptyDict).push (instObj C hh.objs.size),gg,dr,tk,os⟩ :=
    r.more (s':=⟨(hh.push emptyDict).push (instObj C hh.objs.size),gg,dr,tk,os⟩) gr (Ba hh) b2 hd ⟨⟨by decide,(λp hp=>nomatch hp),.nil⟩,#[],0,hd,.nil⟩
   have vobj:VRel (g.at av) (μ++[hh.objs.size]) ((hh.push emptyDict).push (instObj C hh.objs.size)) (.obj f U.length) (.ref (hh.objs.size+1)):=by
    refine .obj (C:=C) (d:=hh.objs.size) h3 hx ?_ (λq=>?_) (Zi b2)
    ·refine ZN r.len.symm ?_;refine ZO (List.getElem?_append_right (Zg _)) ?_;simp
    ·rcases ZA q with q | q
     ·obtain⟨o,e⟩:=r.live _ q
      replace e:=ZO dx.symm e;cases e
     ·exact Nat.succ_ne_self _ (Zx q)
   refine OL (G.at av) (F.at av) (hL ⟨Cg T turns n,turns⟩ n k ih (MQ T O turns n) av) ev (.cons vobj (vr.ext x1 LocOk.nil)) r1 (bg.ext x1) (Gq rm C xs) λw U₁ ee μ' s' y x2 r2 st2 v2=>?_
   obtain⟨ew,kv⟩:=ee;subst ew;cases v2;exact⟨rfl,th _ _ kv μ' s' _ (x1.trans x2 λa q=>nomatch q) r2 (⟨st2.1,st2.2⟩) (vobj.ext x2 LocOk.nil)⟩
  ·refine eX1 ((Id hc).mp ev) λfn zz=>aN2 zz λh1 ev=>?_
   refine eX3 (O.fn _ _ _ h1 hc) λf' fd body zz=>aN3 zz λh2 F hL=>?_
   have hf':g.fv c f=some fv:=hf;replace hf':=ZO h2.symm hf';cases hf';exact OL (G.at av) (F.at av) (hL ⟨Cg T turns n,turns⟩ n k ih (MQ T O turns n) av) ev vr r bg rm.one th
end
section
variable {g:Gl} {μ μ':List Addr} {h h':Heap} {X:CK} {d k:Nat} {sc:Scope}
theorem GH {st:Stmt}:Fb X g d k sc st (.expr (.attr (.c .none) "")):=by
 intro env J U K μ A E s Q ee;refine eX4 (ee) λ_ _ _ _ zz=>aN2 zz λe _=>?_
 cases e
theorem Hq:Hh g d k .sum (.builtin "sum"):=λw U v μ A E s Q x ee vx r bg rm th=>by
 refine eX2 (ee) λl ns zz=>aN4 zz λhl hm hz q6=>?_;subst q6
 exact O3 r rm vx hl hm hz.1 hz.2 th
theorem Oe:Hh g d k .max (.builtin "max"):=λw U v μ A E s Q x ee vx r bg rm th=>by
 refine eX3 (ee) λl ns m zz=>aN4 zz λhl hm hx q7=>?_;subst q7
 exact O4 r rm vx hl hm hx th
theorem DL:Hh g d k .tuple (.type "tuple"):=λw U v μ A E s Q x ee vx r bg rm th=>by
 obtain⟨l,hl,hz,rfl⟩:=ee;exact Lx r bg vx hl hz th
theorem Of:Hh g d k .str (.type "str"):=λw U v μ A E s Q x ee vx r bg rm th=>by
 obtain⟨i,rfl,hz,rfl⟩:=ee;exact O6 r vx hz th
theorem Og:Hh g d k .int (.type "int"):=λw U v μ A E s Q x ee vx r bg rm th=>by
 obtain⟨i,rfl,rfl⟩:=ee;exact O7 r vx th
noncomputable def OM (cs sc:Scope) (names:List String):Bool :=
 cs.kind == .function && cs.names.all (λy=>y.2 != .cell) && cs.names.all (λy=>y.2 != .local || cs.names.lookup y.1 == some .local) &&
 cs.names.all (λy=>y.2 != .free || sc.names.lookup y.1 == some .cell || sc.names.lookup y.1 == some .free) && cs.names.all (λy=>y.2 != .local || names.any λn=>Str.ofString n == y.1)
theorem Ac {cs:Scope}{names:List String}(e:OM cs sc names=true):ER cs sc names:=by
 simp only[OM,Bool.and_eq_true,List.all_eq_true]at e;obtain⟨⟨⟨⟨e1,e2⟩,e3⟩,e4⟩,e5⟩:=e;refine⟨beq_iff_eq.mp e1,λy hy q=>?_,λy hy q=>?_,λy hy q=>?_,λn hn=>?_⟩
 ·have:=e2 y hy;rw[q]at this;exact absurd this (by decide)
 ·have:=e3 y hy;rw[q]at this;simpa using this
 ·have:=e4 y hy;rw[q]at this;simpa using this
 ·have:=e5 _ (Ax hn)
  simp at this;obtain⟨m,hm,e⟩:=this;refine ZN (Ah e).symm ?_;exact hm
end
section
variable {g:Gl} {μ μ':List Addr} {h h':Heap} {X:CK} {d k:Nat} {sc:Scope}
noncomputable def K5:List (String×String):=[("","size_over"),("","is_op"),("class","Bank"),("class","Unions"),("class","Heap"),("class","Grammar"),("","_law_reel"),("","_law_deeds"),("","_law_lots"),("","_law_smallest"),("","_law_term"),("","_law_nodes"),("","_law_told_right"),("","law")]
noncomputable def Pf (g:Gl):Prop:=∀ c n,(c,n)∈K5->(g.fv c n).isSome=true
noncomputable def MR (sc:Scope):Env:={ scope:=sc,locals:=0,globals:=0,cells:=[] }
theorem AZ {t e:Expr}{l:Nat}{b:Bool}{sc:Scope}(h:swapsWithSole [t] e l (MR sc)=pure b):∀ env:Env,env.scope=sc->swapsWithSole [t] e l env=pure b:=by
 rintro env rfl;exact h
theorem ON {t e:Expr}{l:Nat}{b:Bool}{sc:Scope}(h:swapsWith e (some t) l (MR sc)=pure b):∀ env:Env,env.scope=sc->swapsWith e (some t) l env=pure b:=by
 rintro env rfl;exact h
theorem A0 {ts:List Expr}{e:Expr}{l:Option (List Str)}{sc:Scope}(h:swappedStores ts e (MR sc)=pure l):∀ env:Env,env.scope=sc->swappedStores ts e env=pure l:=by
 rintro env rfl;exact h
theorem Bq {sc:Scope}(h:(sc.kind == .module)=false):∀ env:Env,env.scope=sc->interactive env=false:=by
 rintro env rfl;unfold interactive;rw[h];rfl
end
section
variable {g:Gl} {μ μ':List Addr} {h h':Heap} {X:CK} {d k:Nat} {sc:Scope}
theorem Ie {x:String}{f:Value}(hf:Gn x=some f){M:Model}(h:Heap):∃ k,(k=Keeper.frame\/k=Keeper.machine\/k=Keeper.boundFrame)/\Looks M h (keeperOf f) k:=by
 rcases KX hf with ⟨_,rfl⟩ | ⟨_,rfl⟩
 ·exact Ci _
 ·exact Cs _
theorem FJ {x1 x2:String}{f1 f2:Value}{e:Expr}{t:ME}{b:BI}{p p' p2 p2':Pos}(G:GOk g)(hf1:Gn x1=some f1)(hf2:Gn x2=some f2)(hx:sc.names.lookup (Str.ofString x1)=some .globalImplicit)(hy:sc.names.lookup (Str.ofString x2)=some .globalImplicit)
  (h1:Ai X g d k sc e t) (hd1:(x1 == "__debug__")=false) (hd2:(x2 == "__debug__")=false)
  (step:∀ (w v:MV) (U:MH) (μ:List Addr) (A:Around) (E:Value->Shared->Prop) (s:Shared) (Q:Value->Shared->Prop) (y:Value),BiP U b w v->VRel g μ s.heap w y->Rel g μ U s->Big s.heap->Room A d k->Then g μ s v U Q ->
   wpAny (model g.prog g.w) A (call f2 [y]) (λz s₁=>wpAny (model g.prog g.w) A (call f1 [z]) Q E s₁) E s)
  (he:autoParam (∀ env,starEach [e] env=[(false,eval e env)]) au) :
  Ai X g d k sc (.Call (.Name (Str.ofString x1) p) [.Call (.Name (Str.ofString x2) p2) [e] [] p2'] [] p') (.bi b [t]):=by
 intro env J U K μ A E s Q ev eo er r rm th;have he2:∀ env,starEach [.Call (.Name (Str.ofString x2) p2) [e] [] p2'] env=[(false,eval (.Call (.Name (Str.ofString x2) p2) [e] [] p2') env)]:=λ_=>rfl
 refine wpAny_bind (Cb G eo r hx (.inl hf1) ?_ hd1);refine EO (AC he2 AH) (λ_=>True) (λh _=>Ie hf1 h) ?_;refine ZN (he2 env) ?_;show wpAny _ _ (eval (.Call (.Name (Str.ofString x2) p2) [e] [] p2') env >>= λv=>(pure [v]:Sem (List Value)) >>= λhere=>holding here (spliced (backTo p' (starEach [] env))) >>= λr=>pure (here++r)) _ _ _;refine wpAny_bind ?_;show wpAny _ _ (do callWith p2' (<- eval (.Name (Str.ofString x2) p2) env) [] (backTo p2' (starEach [e] env)) (backToKw p2' (keywordEach [] env))) _ _ _;refine wpAny_bind (Cb G eo r hy (.inl hf2) ?_ hd2);refine EO (AC he AH) (λ_=>True) (λh _=>Ie hf2 h) ?_;refine AA (sc:=sc) h1 (AG (X:=X) (g:=g) (d:=d) (k:=k)) he env J U _ μ A E s _ p2' ev eo er r rm λvs U₁ ee μ₁ s₁ xs x1 r1 st1 v1=>⟨trivial,?_⟩
 refine eX2 (ee) λw v' zz=>aN3 zz λew e3 kv=>?_
 subst ew;obtain⟨y,rfl,vy⟩:=v1.one;refine wpAny_mono (step w v' _ μ₁ A E s₁ Q y e3 vy r1 (er.ext x1).big rm ((th _ _ kv).trans x1 st1)) (λz s₂ hz=>?_) λ_ _ h=>h
 refine wpAny_bind (wpAny_pure (wpAny_bind (wpAny_holding ?_)));exact wpAny_pure (wpAny_pure ⟨trivial,hz⟩)
theorem DV {xs:List Value}{ns:List Int}(i:IntsAre xs ns):VRels g μ h (ns.map .int) xs:=by
 induction ns generalizing xs with
 | nil=>cases i;exact .nil
 | cons n ns ih=>cases i with | cons _ t b=>exact .cons .int (ih b)
theorem Hr {acc:Array Value}{n:Nat}(it:ItemsOf (λi v=>∃ t,v=Value.int ((0:Int)+i * 1) t) acc n):IntsAre acc.toList ((List.range n).map λ(i:Nat)=>(i:Int)):=by
 obtain⟨h1,h2⟩:=it;have:∀ (l:List Value) (j:Nat),(∀ (i:Nat) (v:Value),l[i]? = some v->∃ t,v=Value.int ((j+i:Nat):Int) t)->IntsAre l ((List.range' j l.length).map λ(i:Nat)=>(i:Int)):=by
  intro l
  induction l with
  | nil=>intro j _;exact .nil
  | cons v l ih =>
   intro j hl;obtain⟨t,e⟩:=hl 0 v rfl;refine ZN List.length_cons ?_;refine ZN List.range'_succ ?_;refine ZN ZJ ?_;refine ZN e ?_;refine .cons _ t (ih (j+1) λi v hv=>?_);obtain⟨t,e⟩:=hl (i+1) v (by simpa using hv);exact⟨t,by refine ZO e ?_;congr 1;lia⟩
 have:=this acc.toList 0 λi v hv=>by
  obtain⟨t,e⟩:=h2 i v (by refine ZO (Array.getElem?_toList).symm ?_;exact hv);exact⟨t,by refine ZO e ?_;congr 1;lia⟩
 rw[Array.length_toList,h1]at this;refine ZN List.range_eq_range' ?_;exact this
theorem Gr {e:Expr}{t:ME}{p p' p2 p2':Pos}(G:GOk g)(hx:sc.names.lookup (Str.ofString "list")=some .globalImplicit)(hy:sc.names.lookup (Str.ofString "range")=some .globalImplicit)(h1:Ai X g d k sc e t)
  (he:autoParam (∀ env,starEach [e] env=[(false,eval e env)]) au) :
  Ai X g d k sc (.Call (.Name (Str.ofString "list") p) [.Call (.Name (Str.ofString "range") p2) [e] [] p2'] [] p') (.bi (.listrange ()) [t]):=by
 refine FJ (f1:=.type "list") (f2:=.type "range") G rfl rfl hx hy h1 (by decide) (by decide) (λw v U μ A E s Q y e3 vy r bg rm th=>?_) he;obtain⟨i,rfl,q,e4⟩:=e3;obtain⟨n,rfl⟩:=Int.eq_ofNat_of_zero_le q.1;have hn:n<=1000:=Int.ofNat_le.mp q.2;subst e4;obtain⟨tk,rfl⟩:=vy;refine call_range_1 ?_;refine call_list_range (n:=n) rm.handled (IsRange.new _ _ _ _ _ _ _) (small_one (by solve_by_elim (maxDepth:=4) [Zd,Zb,Zc,Zl,Zh,Zn,Zi,Zq,Zk,Zf,Zj]) (by solve_by_elim (maxDepth:=4) [Zd,Zb,Zc,Zl,Zh,Zn,Zi,Zq,Zk,Zf,Zj]) (by solve_by_elim (maxDepth:=4) [Zd,Zb,Zc,Zl,Zh,Zn,Zi,Zq,Zk,Zf,Zj]) (by lia)) ?_ (Zc hn (Za rfl)) λh' tk' acc' c' kp hg hi=>?_
 ·rw[rangeSize_one];lia
 have gr0:Grow s.heap (s.heap.push { cls:=.type "range",data:=.fields #[.int 0 s.toks,.int (n:Int) tk,.int 1 (s.toks+1)] }):=Grow.push _ _;refine th.grow r (s':={ s with heap:=h',toks:=tk' }) (gr0.trans (Grow.of_keep kp)) ⟨rfl,rfl⟩ (.fl ⟨c',hg⟩ ⟨λq=>?_,λq=>?_⟩ ?_ ?_)
 ·obtain⟨o,e⟩:=r.live _ q
  have:=Heap.lt_size e;rw[Heap.size_push]at this;exact absurd (show (s.heap.objs.size+1:Nat)<s.heap.objs.size from this) (Zp (Zj (Zg _)))
 ·obtain⟨_,_,o,e⟩:=r.avl _ q
  have:=Heap.lt_size e;rw[Heap.size_push]at this;exact absurd (show (s.heap.objs.size+1:Nat)<s.heap.objs.size from this) (Zp (Zj (Zg _)))
 ·rw[Heap.size_push];exact Zi bg.size
 ·have:=DV (g:=g) (μ:=μ) (h:=h') (Hr hi)
  rwa [List.map_map]at this
end
noncomputable def Ak {α:Type} (lt:Nat->Nat->Bool):KasT α->α
 | .ret a=>a
 | .ask i j k=>Ak lt (k (lt i j))
theorem Cc {α β:Type}{lt:Nat->Nat->Bool}{f:α->KasT β}:∀ t:KasT α,Ak lt (t.bind f)=Ak lt (f (Ak lt t))
 | .ret _=>rfl
 | .ask i j k=>Cc (k (lt i j))
structure WO (lt:Nat->Nat->Bool):Prop where
 asym:∀ a b,lt a b=true->lt b a=false
 leT:∀ a b c,lt b a=false->lt c b=false->lt c a=false
theorem WO.irr {lt:Nat->Nat->Bool}(W:WO lt)(a:Nat):lt a a=false:=by
 cases q:lt a a with
 | false=>rfl
 | true=>have:=W.asym a a q;replace this:=ZO q.symm this;exact this
section
variable {lt:Nat->Nat->Bool} (W:WO lt)
noncomputable abbrev pa (p:Array Nat) (k:Nat):Nat:=p.getD k 0
noncomputable def Up (lt:Nat->Nat->Bool) (p:Array Nat) (n:Nat):Prop:=∀ i j,i<=j->j<n->lt (pa p j) (pa p i)=false
noncomputable def Dn (lt:Nat->Nat->Bool) (p:Array Nat) (n:Nat):Prop:=∀ i j,i<=j->j<n->lt (pa p i) (pa p j)=false
noncomputable def Eqs (lt:Nat->Nat->Bool) (p:Array Nat) (a b:Nat):Prop:=∀ i j,a<=i->i<b->a<=j->j<b->lt (pa p i) (pa p j)=false
theorem Dh {p q:Array Nat}{i j:Nat}(h:p[i]? = q[j]?):pa p i=pa q j:=by
 unfold pa;refine ZO (Array.getD_eq_getD_getElem?) ?_;refine ZN (Array.getD_eq_getD_getElem?) ?_;rw[h]
theorem HO {p:Array Nat}{src d:Nat}(hs:src<p.size)(hd:d<=src)(k:Nat) :
  pa (bubble p src d) k=if k=src - d then pa p src else if src - d<k/\k<=src then pa p (k - 1)else pa p k:=by
 have e:=getElem?_bubble hs d hd k
 by_cases h1:k=src - d
 ·rw[if_pos h1]at e ⊢;exact Dh e
 ·rw[if_neg h1]at e ⊢
  by_cases h2:src - d<k/\k<=src
  ·rw[if_pos h2]at e ⊢;exact Dh e
  ·rw[if_neg h2]at e ⊢;exact Dh e
theorem Jl {p:Array Nat}{i j:Nat}(hj:j<=p.size)(k:Nat):pa (kas_rev p i j) k=if i<=k/\k<j then pa p (i+j - 1 - k)else pa p k:=by
 have e:=getElem?_mirror_all (i:=i) hj k
 by_cases h1:i<=k/\k<j
 ·rw[if_pos h1]at e ⊢;exact Dh e
 ·rw[if_neg h1]at e ⊢;exact Dh e
include W
theorem Up.snoc {p:Array Nat}{n:Nat}(h:Up lt p n)(h1:1<=n)(e:lt (pa p n) (pa p (n - 1))=false):Up lt p (n+1):=by
 intro i j hij hj
 by_cases q:j<n
 ·exact h i j hij q
 ·have:j=n:=Zv (Zr hj) (Zn q)
  subst this
  by_cases q2:i=j
  ·subst q2;exact W.irr _
  ·exact W.leT _ _ _ (h i (j - 1) (Nat.le_sub_one_of_lt (Zu hij q2)) (Nat.sub_lt (Zd (Za rfl) h1) (Za rfl))) e
theorem Dn.snoc {p:Array Nat}{n:Nat}(h:Dn lt p n)(h1:1<=n)(e:lt (pa p (n - 1)) (pa p n)=false):Dn lt p (n+1):=by
 intro i j hij hj
 by_cases q:j<n
 ·exact h i j hij q
 ·have:j=n:=Zv (Zr hj) (Zn q)
  subst this
  by_cases q2:i=j
  ·subst q2;exact W.irr _
  ·exact W.leT _ _ _ e (h i (j - 1) (Nat.le_sub_one_of_lt (Zu hij q2)) (Nat.sub_lt (Zd (Za rfl) h1) (Za rfl)))
theorem Dn.like {p p':Array Nat}{n:Nat}(h:Dn lt p n)(e:∀ k,lt (pa p k) (pa p' k)=false/\lt (pa p' k) (pa p k)=false):Dn lt p' n:=λi j hij hj =>
 W.leT _ _ _ (W.leT _ _ _ (e j).1 (h i j hij hj)) (e i).2
theorem GI {p:Array Nat}{a b:Nat}(hb:b<=p.size)(h:Eqs lt p a b):∀ k,lt (pa p k) (pa (kas_rev p a b) k)=false/\lt (pa (kas_rev p a b) k) (pa p k)=false:=by
 intro k;rw[Jl hb]
 split
 ·rename_i q
  exact⟨h _ _ q.1 q.2 (OE q.2) (OF q.1 q.2),h _ _ (OE q.2) (OF q.1 q.2) q.1 q.2⟩
 ·exact⟨W.irr _,W.irr _⟩
theorem Eqs.one (p:Array Nat)(n:Nat):Eqs lt p n (n+1):=λi j a b c d=>by
 have:i=j:=Zv (Zc (Zr b) c) (Zc (Zr d) a);subst this;exact W.irr _
theorem MT (p:Array Nat):∀ f n,1<=n->Up lt p n->n<=Ak lt (kas_asc p f n)/\Ak lt (kas_asc p f n)<=n+f/\Up lt p (Ak lt (kas_asc p f n))/\(Ak lt (kas_asc p f n)<n+f->lt (pa p (Ak lt (kas_asc p f n))) (pa p (Ak lt (kas_asc p f n) - 1))=true):=by
 intro f
 induction f with
 | zero=>intro n h1 hu;exact⟨Zg _,Zg _,hu,λh=>absurd h (Nat.lt_irrefl _)⟩
 | succ f ih =>
  intro n h1 hu;have e:Ak lt (kas_asc p (f+1) n)=Ak lt (if lt (pa p n) (pa p (n - 1))=true then KasT.ret n else kas_asc p f (n+1)):=rfl;refine ZN e ?_
  split
  ·rename_i q
   exact⟨Zg _,by show n<=_;exact Zt _ _,hu,λ_=>q⟩
  ·rename_i q
   refine aN4 (ih (n+1) (Zj h1) (Up.snoc W hu h1 (by simpa using q))) λa b c d=>?_
   exact⟨Zl (Zd (Zo _) a),le_of_le_of_eq (le_of_le_of_eq b (Nat.add_right_comm _ _ _)) (Nat.add_assoc _ _ _),c,λh=>d (lt_of_lt_of_eq (lt_of_lt_of_eq h (Nat.add_assoc _ _ _).symm) (Nat.add_right_comm _ _ _))⟩
theorem Na:∀ (f:Nat)(p:Array Nat)(n q:Nat),q+1<=n->n+f<=p.size->Dn lt p n->Eqs lt p (n - (q+1)) n ->
  (Ak lt (kas_desc f p n q)).1.Perm p/\n<=(Ak lt (kas_desc f p n q)).2.1/\(Ak lt (kas_desc f p n q)).2.1<=n+f/\Dn lt (Ak lt (kas_desc f p n q)).1 (Ak lt (kas_desc f p n q)).2.1 /\
  (Ak lt (kas_desc f p n q)).2.2+1<=(Ak lt (kas_desc f p n q)).2.1/\Eqs lt (Ak lt (kas_desc f p n q)).1 ((Ak lt (kas_desc f p n q)).2.1 - ((Ak lt (kas_desc f p n q)).2.2+1)) (Ak lt (kas_desc f p n q)).2.1:=by
 intro f
 induction f with
 | zero=>intro p n q h1 h2 hd he;exact⟨.refl _,Zg _,Zg _,hd,h1,he⟩
 | succ f ih =>
  intro p n q h1 h2 hd he;have e:Ak lt (kas_desc (f+1) p n q)=Ak lt (if lt (pa p n) (pa p (n - 1))=true then (if q > 0 then kas_desc f (kas_rev p (n - (q+1)) n) (n+1) 0 else kas_desc f p (n+1) 0)
   else .ask (p.getD (n - 1) 0) (p.getD n 0) λd=>if d=true then .ret (p,n,q)else kas_desc f p (n+1) (q+1)):=rfl
  refine ZN e ?_
  split
  ·rename_i c
   have hd1:=Dn.snoc W hd (Zc (Zs _ _) h1) (W.asym _ _ c)
   split
   ·have hs:(kas_rev p (n - (q+1)) n).size=p.size:=mirror_size _ _ _ _
    refine aN6 (ih (kas_rev p (n - (q+1)) n) (n+1) 0 (Nat.succ_le_succ (Zm _)) (by lia) (Dn.like W hd1 (GI W (Zc (Zt _ _) h2) he)) (Eqs.one W _ n)) λa1 a2 a3 a4 a5 a6=>?_
    exact⟨a1.trans (mirror_perm _ _ _ _),Zl (Zd (Zo _) a2),by lia,a4,a5,a6⟩
   ·refine aN6 (ih p (n+1) 0 (Nat.succ_le_succ (Zm _)) (le_of_eq_of_le ((Nat.add_right_comm _ _ _).trans (Nat.add_assoc _ _ _)) h2) hd1 (Eqs.one W _ n)) λa1 a2 a3 a4 a5 a6=>?_
    exact⟨a1,Zl (Zd (Zo _) a2),le_of_le_of_eq (le_of_le_of_eq a3 (Nat.add_right_comm _ _ _)) (Nat.add_assoc _ _ _),a4,a5,a6⟩
  ·rename_i c
   have c:lt (pa p n) (pa p (n - 1))=false:=by simpa using c
   have e2:Ak lt (.ask (p.getD (n - 1) 0) (p.getD n 0) λd=>if d=true then .ret (p,n,q)else kas_desc f p (n+1) (q+1))=Ak lt (if lt (pa p (n - 1)) (pa p n)=true then .ret (p,n,q)else kas_desc f p (n+1) (q+1)):=rfl;refine ZN e2 ?_
   split
   ·exact⟨.refl _,Zg _,by show n<=_;exact Zt _ _,hd,h1,he⟩
   ·rename_i c2
    have c2:lt (pa p (n - 1)) (pa p n)=false:=by simpa using c2
    have he1:Eqs lt p (n+1 - (q+1+1)) (n+1):=by
     intro i j b1 b2 b3 b4
     by_cases i1:i=n
     ·by_cases j1:j=n
      ·refine ZN i1 ?_;refine ZN j1 ?_;exact W.irr _
      ·refine ZN i1 ?_;exact W.leT _ _ _ (he (n - 1) j (Nat.le_sub_one_of_lt (Nat.sub_lt (Zb (Zm _) h1) (Zb (Zm _) (Zo _)))) (Nat.sub_lt (Zb (Zm _) h1) (Za rfl)) (by lia) (Zu (Zr b4) j1)) c
     ·by_cases j1:j=n
      ·refine ZN j1 ?_;exact W.leT _ _ _ c2 (he i (n - 1) (by lia) (Zu (Zr b2) i1) (Nat.le_sub_one_of_lt (Nat.sub_lt (Zb (Zm _) h1) (Zb (Zm _) (Zo _)))) (Nat.sub_lt (Zb (Zm _) h1) (Za rfl)))
      ·exact he i j (by lia) (Zu (Zr b2) i1) (by lia) (Zu (Zr b4) j1)
    refine aN6 (ih p (n+1) (q+1) (Nat.succ_le_succ h1) (le_of_eq_of_le ((Nat.add_right_comm _ _ _).trans (Nat.add_assoc _ _ _)) h2) (Dn.snoc W hd (Zc (Zs _ _) h1) c2) he1) λa1 a2 a3 a4 a5 a6=>?_
    exact⟨a1,Zl (Zd (Zo _) a2),le_of_le_of_eq (le_of_le_of_eq a3 (Nat.add_right_comm _ _ _)) (Nat.add_assoc _ _ _),a4,a5,a6⟩
theorem Ig {n nrem:Nat}{p:Array Nat}(h1:1<=n)(h2:n<=nrem)(h3:nrem<=p.size)(hd:Dn lt p n) :
  (Ak lt (kas_tail3 n nrem p)).2.Perm p/\n<=(Ak lt (kas_tail3 n nrem p)).1/\(Ak lt (kas_tail3 n nrem p)).1<=nrem/\Up lt (Ak lt (kas_tail3 n nrem p)).2 (Ak lt (kas_tail3 n nrem p)).1:=by
 have e:Ak lt (kas_tail3 n nrem p)=(Ak lt (kas_asc (kas_rev p 0 n) (nrem - n) n),kas_rev p 0 n):=by
  unfold kas_tail3;rw[Cc];rfl
 refine ZN e ?_;have hu:Up lt (kas_rev p 0 n) n:=by
  intro i j hij hj;rw[Jl (Zc h2 h3),Jl (Zc h2 h3)];refine ZN (if_pos (⟨(Zm _),hj⟩)) ?_;refine ZN (if_pos (⟨(Zm _),(Zb hij hj)⟩)) ?_;exact hd _ _ (Nat.sub_le_sub_left hij _) (by lia)
 refine aN4 (MT W (kas_rev p 0 n) (nrem - n) n h1 hu) λa b c _=>?_
 exact⟨mirror_perm _ _ _ _,a,by show _<=nrem;exact le_of_le_of_eq b (Nat.add_sub_of_le h2),c⟩
theorem FX {n nrem:Nat}{p:Array Nat}(h1:1<=n)(h2:n+1<=nrem)(h3:nrem<=p.size)(hd:Dn lt p (n+1)) :
  (Ak lt (kas_descPart n nrem p)).2.Perm p/\1<=(Ak lt (kas_descPart n nrem p)).1/\(Ak lt (kas_descPart n nrem p)).1<=nrem/\Up lt (Ak lt (kas_descPart n nrem p)).2 (Ak lt (kas_descPart n nrem p)).1:=by
 unfold kas_descPart;rw[Cc];refine aN6 (Na W (nrem - (n+1)) p (n+1) 0 (Nat.succ_le_succ (Zm _)) (le_of_eq_of_le (Nat.add_sub_of_le h2) h3) hd (Eqs.one W _ n)) λa1 a2 a3 a4 a5 a6=>?_
 generalize Ak lt (kas_desc (nrem - (n+1)) p (n+1) 0)=r at *;have hs:r.1.size=p.size:=a1.size_eq
 split
 ·have hs2:(kas_rev r.1 (r.2.1 - (r.2.2+1)) r.2.1).size=r.1.size:=mirror_size _ _ _ _
  refine aN4 (Ig W (n:=r.2.1) (nrem:=nrem) (p:=kas_rev r.1 (r.2.1 - (r.2.2+1)) r.2.1) (Zc (Zs _ _) a2) (le_of_le_of_eq a3 (Nat.add_sub_of_le h2)) (le_of_le_of_eq (le_of_le_of_eq h3 hs.symm) hs2.symm) (Dn.like W a4 (GI W (le_of_le_of_eq (Zc (le_of_le_of_eq a3 (Nat.add_sub_of_le h2)) h3) hs.symm) a6))) λb1 b2 b3 b4=>?_
  exact⟨b1.trans ((mirror_perm _ _ _ _).trans a1),Zc (Zc (Zs _ _) a2) b2,b3,b4⟩
 ·refine aN4 (Ig W (n:=r.2.1) (nrem:=nrem) (p:=r.1) (Zc (Zs _ _) a2) (le_of_le_of_eq a3 (Nat.add_sub_of_le h2)) (le_of_le_of_eq h3 hs.symm) a4) λb1 b2 b3 b4=>?_
  exact⟨b1.trans a1,Zc (Zc (Zs _ _) a2) b2,b3,b4⟩
theorem MU {nrem:Nat}{p:Array Nat}(h1:1<=nrem)(h3:nrem<=p.size) :
  (Ak lt (kas_count nrem p)).2.Perm p/\1<=(Ak lt (kas_count nrem p)).1/\(Ak lt (kas_count nrem p)).1<=nrem/\Up lt (Ak lt (kas_count nrem p)).2 (Ak lt (kas_count nrem p)).1:=by
 unfold kas_count;rw[Cc];have hu1:Up lt p 1:=λi j hij hj=>by
  have e1:i=0:=Zv (Zc hij (Zr hj)) (Zm _)
  have e2:j=0:=Zv (Zr hj) (Zm _);subst e1;subst e2;exact W.irr _
 refine aN4 (MT W p (nrem - 1) 1 (Zg _) hu1) λa1 a2 a3 a4=>?_
 generalize Ak lt (kas_asc p (nrem - 1) 1)=n at *
 split
 ·exact⟨.refl _,a1,by show n<=nrem;exact le_of_le_of_eq a2 (Nat.add_sub_of_le h1),a3⟩
 ·rename_i q
  have q:n≠nrem:=by simpa using q
  have hlt:=a4 (by lia)
  split
  ·rename_i hn
   have e2:Ak lt (.ask (p.getD 0 0) (p.getD (n - 1) 0) λc=>if c=true then KasT.ret (n,p)else kas_descPart n nrem (kas_rev p 0 n))=Ak lt (if lt (pa p 0) (pa p (n - 1))=true then KasT.ret (n,p)else kas_descPart n nrem (kas_rev p 0 n)):=rfl;refine ZN e2 ?_
   split
   ·exact⟨.refl _,a1,by show n<=nrem;exact le_of_le_of_eq a2 (Nat.add_sub_of_le h1),a3⟩
   ·rename_i c
    have c:lt (pa p 0) (pa p (n - 1))=false:=by simpa using c
    have he:Eqs lt p 0 n:=λi j _ b2 _ b4=>W.leT _ _ _ (a3 j (n - 1) (Nat.le_sub_one_of_lt b4) (Nat.sub_lt (Zb (Zm _) b2) (Za rfl))) (W.leT _ _ _ c (a3 0 i (Zm _) (b2)))
    have hd:Dn lt p n:=λi j hij hj=>he i j (Zm _) (Zb hij hj) (Zm _) hj
    have hs2:(kas_rev p 0 n).size=p.size:=mirror_size _ _ _ _;refine aN4 (FX W (n:=n) (nrem:=nrem) (p:=kas_rev p 0 n) (a1) (Zw (Zu (le_of_le_of_eq a2 (Nat.add_sub_of_le h1)) q)) (le_of_le_of_eq h3 hs2.symm) (Dn.like W (Dn.snoc W hd (a1) (W.asym _ _ hlt)) (GI W (Zc (le_of_le_of_eq a2 (Nat.add_sub_of_le h1)) h3) he))) λb1 b2 b3 b4=>?_
    exact⟨b1.trans (mirror_perm _ _ _ _),b2,b3,b4⟩
  ·have e1:n=1:=by lia
   subst e1;have hd:Dn lt p 1:=λi j hij hj=>by
    have e1:i=0:=Zv (Zc hij (Zr hj)) (Zm _)
    have e2:j=0:=Zv (Zr hj) (Zm _);subst e1;subst e2;exact W.irr _
   exact FX W (a1) (Zw (Zu h1 q)) h3 (Dn.snoc W hd (a1) (W.asym _ _ hlt))
theorem MW {p:Array Nat}{k:Nat}(hu:Up lt p k):∀ f l r,l<=r->r<=k->r - l<=f->(∀ a,a<l->lt (pa p k) (pa p a)=false)->(∀ a,r<=a->a<k->lt (pa p k) (pa p a)=true) ->
  Ak lt (kas_place p k f l r)<=k/\(∀ a,a<Ak lt (kas_place p k f l r)->lt (pa p k) (pa p a)=false)/\(∀ a,Ak lt (kas_place p k f l r)<=a->a<k->lt (pa p k) (pa p a)=true):=by
 intro f
 induction f with
 | zero =>
  intro l r h1 h2 h3 hl hr;have:l=r:=Zv h1 (Nat.le_of_sub_eq_zero (Nat.le_zero.mp h3));subst this;exact⟨h2,hl,hr⟩
 | succ f ih =>
  intro l r h1 h2 h3 hl hr;unfold kas_place
  split
  ·have:l=r:=by lia
   subst this;exact⟨h2,hl,hr⟩
  ·rename_i q
   have e2:Ak lt (.ask (p.getD k 0) (p.getD ((l+r) / 2) 0) λc=>if c=true then kas_place p k f l ((l+r) / 2)else kas_place p k f ((l+r) / 2+1) r)=Ak lt (if lt (pa p k) (pa p ((l+r) / 2))=true then kas_place p k f l ((l+r) / 2)else kas_place p k f ((l+r) / 2+1) r):=rfl;refine ZN e2 ?_
   split
   ·rename_i c
    refine ih l ((l+r) / 2) (Internal.mid_l h1) (by lia) (by lia) hl λa b1 b2=>?_
    cases q2:lt (pa p k) (pa p a)with
    | true=>rfl
    | false =>
     have:=W.leT _ _ _ (hu ((l+r) / 2) a b1 b2) q2;replace this:=ZO c.symm this;cases this
   ·rename_i c
    have c:lt (pa p k) (pa p ((l+r) / 2))=false:=by simpa using c
    exact ih ((l+r) / 2+1) r (by lia) h2 (by exact Internal.mid_s2 h3 h1) (λa b=>W.leT _ _ _ (hu a ((l+r) / 2) (Zr b) (by lia)) c) hr
theorem Oh:∀ (f:Nat)(p:Array Nat)(k:Nat),k+f<=p.size->Up lt p k->(Ak lt (kas_bin f p k)).Perm p/\Up lt (Ak lt (kas_bin f p k)) (k+f):=by
 intro f
 induction f with
 | zero=>intro p k h hu;exact⟨.refl _,hu⟩
 | succ f ih =>
  intro p k h hu;unfold kas_bin;rw[Cc];refine aN3 (MW W hu k 0 k (Zm _) (Zg _) (Zg _) (λa b=>absurd b (Zp (Zm _))) (λa b c=>absurd c (Zp b))) λa1 a2 a3=>?_
  generalize Ak lt (kas_place p k k 0 k)=l at *;have hs:(bubble p k (k - l)).size=p.size:=bubble_size _ _ _
  have hu1:Up lt (bubble p k (k - l)) (k+1):=by
   intro i j hij hj;rw[HO (Zd (Zb (Zt _ _) (Nat.add_lt_add_left (Zo _) _)) h) (Nat.sub_le _ _),HO (Zd (Zb (Zt _ _) (Nat.add_lt_add_left (Zo _) _)) h) (Nat.sub_le _ _)];refine ZN (show k - (k - l)=l by exact Nat.sub_sub_self a1) ?_
   by_cases i1:i=l
   ·refine ZN (if_pos i1) ?_
    by_cases j1:j=l
    ·refine ZN (if_pos j1) ?_;exact W.irr _
    ·refine ZN (if_neg j1) ?_;refine ZN (if_pos (⟨(Zu (le_of_eq_of_le i1.symm hij) (Ne.symm j1)),(Zr hj)⟩)) ?_;exact W.asym _ _ (a3 _ (Nat.le_sub_one_of_lt (Zu (le_of_eq_of_le i1.symm hij) (Ne.symm j1))) (by lia))
   ·refine ZN (if_neg i1) ?_
    by_cases j1:j=l
    ·refine ZN (if_pos j1) ?_;refine ZN (if_neg (by lia)) ?_;exact a2 _ (by exact Zu (le_of_le_of_eq hij j1) i1)
    ·refine ZN (if_neg j1) ?_
     by_cases i2:l<i/\i<=k
     ·refine ZN (if_pos i2) ?_;refine ZN (if_pos (⟨(Zd i2.1 hij),(Zr hj)⟩)) ?_;exact hu _ _ (Nat.le_sub_one_of_lt (Zd (Nat.sub_lt (Zb (Zm _) i2.1) (Za rfl)) hij)) (Zd (Nat.sub_lt (Zd (Zb (Zm _) i2.1) hij) (Za rfl)) (Zr hj))
     ·refine ZN (if_neg i2) ?_
      by_cases j2:l<j/\j<=k
      ·refine ZN (if_pos j2) ?_;exact hu _ _ (by lia) (Zd (Nat.sub_lt (Zb (Zm _) j2.1) (Za rfl)) (Zr hj))
      ·refine ZN (if_neg j2) ?_;exact hu _ _ (hij) (by lia)
  obtain⟨b1,b2⟩:=ih (bubble p k (k - l)) (k+1) (le_of_le_of_eq (le_of_eq_of_le ((Nat.add_right_comm _ _ _).trans (Nat.add_assoc _ _ _)) h) hs.symm) hu1;exact⟨b1.trans (bubble_perm _ _ _),by refine ZN (show k+(f+1)=k+1+f by exact (Nat.add_assoc _ _ _).symm.trans (Nat.add_right_comm _ _ _)) ?_;exact b2⟩
theorem Fl {n:Nat}(h1:1<=n):(Ak lt (kas_sort n)).Perm (List.toArray (List.range n))/\Up lt (Ak lt (kas_sort n)) n:=by
 unfold kas_sort;rw[Cc];have hz:(List.toArray (List.range n)).size=n:=by simp
 refine aN4 (MU W (nrem:=n) (p:=List.toArray (List.range n)) h1 (Nat.le_of_eq hz.symm)) λa1 a2 a3 a4=>?_
 generalize Ak lt (kas_count n (List.toArray (List.range n)))=r at *;have hs:r.2.size=n:=by refine ZO a1.size_eq ?_;exact hz
 split
 ·have hm:max r.1 1=r.1:=Nat.max_eq_left a2
  refine ZN hm ?_;obtain⟨b1,b2⟩:=Oh W (n - r.1) r.2 r.1 (Nat.le_of_eq ((Nat.add_sub_of_le a3).trans hs.symm)) a4;rw[show r.1+(n - r.1)=n by exact Nat.add_sub_of_le a3]at b2;exact⟨b1.trans a1,b2⟩
 ·have:r.1=n:=by lia
  rw[this]at a4;exact⟨a1,a4⟩
end
theorem Pg {α:Type}{cmp:Nat->Nat->(Bool->Shared->Prop)->Shared->Prop}{lt:Nat->Nat->Bool}{s:Shared}(hc:∀ i j C,C (lt i j) s->cmp i j C s){Q:α->Shared->Prop}:∀ t:KasT α,Q (Ak lt t) s->t.kasWp cmp Q s
 | .ret a,h=>h
 | .ask i j k,h=>hc i j _ (Pg hc (k (lt i j)) h)
theorem HP {α:Type}{ltK:α->α->Bool}(O:LtOk ltK)(ks:List α)(x0:α)(h1:1<=ks.length) :
  ((Ak (λi j=>ltK (ks.getD i x0) (ks.getD j x0)) (kas_sort ks.length)).toList.map λi=>ks.getD i x0)=BJ ltK ks:=by
 have W:WO (λi j=>ltK (ks.getD i x0) (ks.getD j x0)):=⟨λa b h=>O.asymm h,λa b c h1 h2=>O.leTrans h1 h2⟩
 obtain⟨p1,p2⟩:=Fl W h1;generalize hp:Ak (λi j=>ltK (ks.getD i x0) (ks.getD j x0)) (kas_sort ks.length)=p at *;have p1':p.toList.Perm (List.range ks.length):=by have:=p1.toList;simpa using this
 have hz:p.toList.length=ks.length:=by refine ZO p1'.length_eq ?_;exact List.length_range
 refine Ft O ?_ ?_
 ·refine (p1'.map _).trans (List.Perm.of_eq ?_)
  apply List.ext_getElem (by simp);intro i h1 h2;simp at h1;simp[List.getD_eq_getElem?_getD,ZI h1]
 ·refine List.pairwise_map.mpr ?_;refine List.pairwise_iff_getElem.mpr ?_
  intro i j hi hj hij;have:=p2 i j (Zl hij) (lt_of_lt_of_eq hj hz)
  have ei:pa p i=p.toList[i]:=by simp[pa,Array.getD_eq_getD_getElem?,show i<p.size by simpa using hi]
  have ej:pa p j=p.toList[j]:=by simp[pa,Array.getD_eq_getD_getElem?,show j<p.size by simpa using hj]
  rw[ei,ej]at this;exact this
noncomputable def AskQ {α:Type} (n:Nat):KasT α->(α->Prop)->Prop
 | .ret a,Q=>Q a
 | .ask i j k,Q=>i<n/\j<n/\∀ b,AskQ n (k b) Q
theorem AskQ.bind {α β:Type}{n:Nat}{f:α->KasT β}{Q:β->Prop}:∀ {t:KasT α},AskQ n t (λa=>AskQ n (f a) Q)->AskQ n (t.bind f) Q
 | .ret _,h=>h
 | .ask i j k,h=>⟨h.1,h.2.1,λb=>AskQ.bind (h.2.2 b)⟩
noncomputable def Small (n:Nat) (p:Array Nat):Prop:=∀ x∈p,x<n
theorem Small.at {n:Nat}{p:Array Nat}(h:Small n p)(h1:1<=n)(k:Nat):p.getD k 0<n:=by
 refine ZN (Array.getD_eq_getD_getElem?) ?_;cases q:p[k]? with
 | none=>exact h1
 | some x=>exact h x (Array.mem_of_getElem? q)
theorem Small.perm {n:Nat}{p q:Array Nat}(h:Small n p)(e:q.Perm p):Small n q:=λx hx=>h x (e.mem_iff.mp hx)
section
variable {n:Nat} (h1:1<=n)
include h1
theorem K6 {p:Array Nat}(hp:Small n p):∀ f m,AskQ n (kas_asc p f m) (λ_=>True):=by
 intro f
 induction f with
 | zero=>intro m;trivial
 | succ f ih =>
  intro m;refine⟨hp.at h1 _,hp.at h1 _,λb=>?_⟩
  try dsimp only
  split
  ·trivial
  ·exact ih _
theorem MX:∀ (f:Nat)(p:Array Nat)(m q:Nat),Small n p->AskQ n (kas_desc f p m q) (λr=>Small n r.1):=by
 intro f
 induction f with
 | zero=>intro p m q hp;exact hp
 | succ f ih =>
  intro p m q hp;refine⟨hp.at h1 _,hp.at h1 _,λb=>?_⟩
  try dsimp only
  split
  ·split
   ·exact ih _ _ _ (hp.perm (mirror_perm _ _ _ _))
   ·exact ih _ _ _ hp
  ·refine⟨hp.at h1 _,hp.at h1 _,λb=>?_⟩
   try dsimp only
   split
   ·exact hp
   ·exact ih _ _ _ hp
theorem AskQ.mono {α:Type}{Q Q':α->Prop}(hq:∀ a,Q a->Q' a):∀ {t:KasT α},AskQ n t Q->AskQ n t Q'
 | .ret a,h=>hq a h
 | .ask i j k,h=>⟨h.1,h.2.1,λb=>AskQ.mono hq (h.2.2 b)⟩
theorem HQ {p:Array Nat}{m nrem:Nat}(hp:Small n p):AskQ n (kas_tail3 m nrem p) (λr=>Small n r.2) :=
 AskQ.bind (AskQ.mono h1 (λ_ _=>hp.perm (mirror_perm _ _ _ _)) (K6 h1 (hp.perm (mirror_perm _ _ _ _)) _ _))
theorem Ek {p:Array Nat}{m nrem:Nat}(hp:Small n p):AskQ n (kas_descPart m nrem p) (λr=>Small n r.2) :=
 AskQ.bind (AskQ.mono h1 (λr hr=>by
  try dsimp only
  split
  ·exact HQ h1 (hr.perm (mirror_perm _ _ _ _))
  ·exact HQ h1 hr) (MX h1 _ _ _ _ hp))
theorem LG {p:Array Nat}{nrem:Nat}(hp:Small n p):AskQ n (kas_count nrem p) (λr=>Small n r.2) :=
 AskQ.bind (AskQ.mono h1 (λm _=>by
  try dsimp only
  split
  ·exact hp
  ·split
   ·refine⟨hp.at h1 _,hp.at h1 _,λb=>?_⟩
    try dsimp only
    split
    ·exact hp
    ·exact Ek h1 (hp.perm (mirror_perm _ _ _ _))
   ·exact Ek h1 hp) (K6 h1 hp _ _))
theorem LH {p:Array Nat}{k:Nat}(hp:Small n p):∀ f l r,AskQ n (kas_place p k f l r) (λ_=>True):=by
 intro f
 induction f with
 | zero=>intro l r;trivial
 | succ f ih =>
  intro l r;unfold kas_place
  split
  ·trivial
  ·refine⟨hp.at h1 _,hp.at h1 _,λb=>?_⟩
   try dsimp only
   split
   ·exact ih _ _
   ·exact ih _ _
theorem Nb:∀ (f:Nat)(p:Array Nat)(k:Nat),Small n p->AskQ n (kas_bin f p k) (λ_=>True):=by
 intro f
 induction f with
 | zero=>intro p k hp;trivial
 | succ f ih =>
  intro p k hp;exact AskQ.bind (AskQ.mono h1 (λl _=>ih _ _ (hp.perm (bubble_perm _ _ _))) (LH h1 hp _ _ _))
theorem MY:AskQ n (kas_sort n) (λ_=>True):=by
 refine AskQ.bind (AskQ.mono h1 (λr hr=>?_) (LG h1 (p:=List.toArray (List.range n)) λx hx=>by simpa using hx))
 try dsimp only
 split
 ·exact Nb h1 _ _ _ hr
 ·trivial
end
theorem MZ {α:Type}{n:Nat}{cmp:Nat->Nat->(Bool->Shared->Prop)->Shared->Prop}{lt:Nat->Nat->Bool}{s:Shared}(hc:∀ i j C,i<n->j<n->C (lt i j) s->cmp i j C s){Q:α->Shared->Prop}:∀ t:KasT α,AskQ n t (λ_=>True)->Q (Ak lt t) s->t.kasWp cmp Q s
 | .ret a,_,h=>h
 | .ask i j k,a,h=>hc i j _ a.1 a.2.1 (MZ hc (k (lt i j)) (a.2.2 _) h)
noncomputable def El (prog:Program) (w:World) (A:Around) (vs out:List Value) (s:Shared):Prop :=
 ∃ κ lt,wpAny (model prog w) A (keyKind' vs.toArray) (λκ' s'=>κ'=κ/\s'=s) (λ_ _=>False) s/\(∀ i j C,i<vs.length->j<vs.length->C (lt i j) s->kas_ask prog w A κ vs i j C s) /\
  ((Ak lt (kas_sort vs.length)).toList.map λi=>vs.getD i Value.none)=out/\out.length=vs.length
section
variable {prog:Program} {w:World} {A:Around} {E:Value->Shared->Prop} {s:Shared}
theorem Gs {a:Addr}{vs out:List Value}{n:Nat}{P:PySem.Fin->Shared->Prop}(ho:s.heap.get? a=some (seqObj "list" vs.toArray n))(h64:vs.length<64)
  (hs:vs.length<2->out=vs) (hb:2<=vs.length->∀ h3:Heap,(∀ b o,b≠a->s.heap.get? b=some o->h3.get? b=some o)->El prog w A vs out { s with heap:=h3 })
  (h:P (.done (.ret .none)) { s with heap:=sortedHeap s.heap a vs out.toArray }):wpAny (model prog w) A (Builtin.«list.sort» ⟨[.ref a],[]⟩) P E s:=by
 rw[list_sort_plain];refine wpAny_bind (PyProof.Rows.listItems_at ho rfl ?_);refine wpAny_bind (listUpdate_at ho rfl ?_ (by refine ZN List.size_toArray ?_;refine ZN sizeLine_eq ?_;exact Zl (Ze h64 (Za rfl))) (Zm _));obtain⟨e1,ho1⟩:∃ e1,(s.heap.update a (Obj.mapSeq λ_=>(#[]:Array Value))).get? a=some (seqObj "list" #[] e1):=⟨_,get?_update_seq ho (λ_=>#[])⟩
 refine wpAny_bind (seqEpoch_at ho1 rfl ?_);refine wpAny_bind (wpAny_newTuple ?_ (by show vs.length<=_;refine ZN sizeLine_eq ?_;exact Zl (Ze h64 (Za rfl))));refine wpAny_bind (wpAny_newList ?_ (Zm _));refine wpAny_holding ?_;have ho6:(((s.heap.update a (Obj.mapSeq λ_=>(#[]:Array Value))).push (seqObj "tuple" vs.toArray 0)).push (seqObj "list" #[] 0)).get? a=some (seqObj "list" #[] e1) :=
  Heap.get?_push_of_some _ (Heap.get?_push_of_some _ ho1)
 have keep:∀ b o,b≠a->s.heap.get? b=some o->(((s.heap.update a (Obj.mapSeq λ_=>(#[]:Array Value))).push (seqObj "tuple" vs.toArray 0)).push (seqObj "list" #[] 0)).get? b=some o:=λb o hba e =>
  Heap.get?_push_of_some _ (Heap.get?_push_of_some _ ((Heap.get?_update_other _ _ (Ne.symm hba)).trans e))
 show wpAny (model prog w) A _ P E { s with heap:=((s.heap.update a (Obj.mapSeq λ_=>#[])).push (seqObj "tuple" vs.toArray 0)).push (seqObj "list" #[] 0) };dsimp only
 by_cases h2:vs.toArray.size<2
 ·refine ZN (if_pos h2) ?_;refine ZN (if_pos h2) ?_
  refine wpAny_bind (wpAny_pure ?_);rw[StateT.run_pure];refine wpAny_bind (wpAny_pure ?_)
  try dsimp only
  refine wpAny_bind (seqEpoch_at ho6 rfl ?_);have hout:(arrOf (SortSt.mk' general' (vs.toArray.zip vs.toArray) #[] 7 none)).map (·.2)=out.toArray:=by
   refine ZN (hs (by omega)) ?_;show (vs.toArray.zip vs.toArray).map (·.2)=vs.toArray;apply Array.toList_inj.mp;simp[List.map_snd_zip]
  refine ZN hout ?_;have hol:out.length=vs.length:=by rw[hs (by omega)]
  refine wpAny_bind (listUpdate_at ho6 rfl ?_ (Zm _) (by refine ZN List.size_toArray ?_;refine ZN sizeLine_eq ?_;exact Zl (Ze (lt_of_eq_of_lt hol h64) (Za rfl))));simp only[bne_self_eq_false,Bool.false_eq_true,if_false];exact wpAny_pure h
 ·refine ZN (if_neg h2) ?_;refine ZN (if_neg h2) ?_
  refine eX2 (hb (by solve_by_elim (maxDepth:=4) [Zd,Zb,Zc,Zl,Zh,Zn,Zi,Zq,Zk,Zf,Zj]) _ keep) λκ lt zz=>aN4 zz λk1 k2 k3 hol=>?_
  refine wpAny_bind (wpAny_mono k1 (λκ' s' e=>?_) λ_ _ x=>x.elim);obtain⟨rfl,rfl⟩:=e;refine wpAny_bind (wpAny_mono (kat_run (Q:=λst' s'=>(arrOf st').map (·.2)=out.toArray/\failedOf st'=none/\s'={ s with heap:=((s.heap.update a (Obj.mapSeq λ_=>#[])).push (seqObj "tuple" vs.toArray 0)).push (seqObj "list" #[] 0) })
   (G:=λp s'=>p=Ak lt (kas_sort vs.length)/\s'={ s with heap:=((s.heap.update a (Obj.mapSeq λ_=>#[])).push (seqObj "tuple" vs.toArray 0)).push (seqObj "list" #[] 0) })
   rfl (by solve_by_elim (maxDepth:=4) [Zd,Zb,Zc,Zl,Zh,Zn,Zi,Zq,Zk,Zf,Zj]) h64 (λp' st' s' a1 a2 a3 a4=>?_) (MZ k2 _ (MY (by solve_by_elim (maxDepth:=4) [Zd,Zb,Zc,Zl,Zh,Zn,Zi,Zq,Zk,Zf,Zj])) ⟨rfl,rfl⟩)) ?_ λ_ _ e=>e)
  ·obtain⟨rfl,rfl⟩:=a4
   exact⟨by refine ZO (kat_snds rfl a2) ?_;rw[k3],a3,rfl⟩
  ·intro y0 s' y2
   obtain⟨⟨⟩,st'⟩:=y0;refine aN3 (y2) λb1 b2 q3=>?_;subst q3
   refine ZN b1 ?_;refine ZN b2 ?_;refine wpAny_bind (seqEpoch_at ho6 rfl ?_);refine wpAny_bind (listUpdate_at ho6 rfl ?_ (Zm _) (by refine ZN List.size_toArray ?_;refine ZN sizeLine_eq ?_;exact Zl (Ze (lt_of_eq_of_lt hol h64) (Za rfl))));simp only[bne_self_eq_false,Bool.false_eq_true,if_false];exact wpAny_pure h
theorem ES {x:Value}{Q:Value->Shared->Prop}
  (hc:wpAny (model prog w) A.in1 (collect x) (λvs s1=>∃ out:List Value,vs.length<64/\(vs.length<2->out=vs)/\(2<=vs.length->∀ h3:Heap,(∀ b o,s1.heap.get? b=some o->h3.get? b=some o)->El prog w A.in1.in1 vs out { s1 with heap:=h3 }) /\
   Q (.ref s1.heap.objs.size) { s1 with heap:=sortedHeap (s1.heap.push (seqObj "list" vs.toArray 0)) s1.heap.objs.size vs out.toArray }) E s) :
  wpAny (model prog w) A (call (.builtin "sorted") [x]) Q E s:=by
 refine Calls.call_function_entry kind_sorted plain_sorted entry_sorted (args_sorted1 _) ?_;refine wpAny_bind (m:=checkCount "sorted" 1 1 _) (wpAny_pure ?_);refine wpAny_bind (wpAny_mono hc (λvs s1 hq=>?_) λ_ _ x=>x);refine eX1 (hq) λout zz=>aN4 zz λh64 hs hb hQ=>?_
 refine wpAny_bind (wpAny_newList ?_ (by refine ZN sizeLine_eq ?_;exact Zl (Ze h64 (Za rfl))));have hoL:(s1.heap.push (seqObj "list" vs.toArray 0)).get? s1.heap.objs.size=some (seqObj "list" vs.toArray 0):=Heap.get?_push_size _ rfl;refine wpAny_bind (wpAny_holding (wpAny_call_entry slot_list_sort ⟨_,hoL,rfl⟩ entry_list_sort (Gs hoL h64 hs (λh2 h3 k=>?_) ⟨_,rfl,?_⟩) (args_list_sort _)))
 ·exact hb h2 h3 λb o e=>k b o (Zk (Heap.lt_size e)) (Heap.get?_push_of_some _ e)
 ·exact wpAny_pure ⟨_,rfl,hQ⟩
end
section
variable {prog:Program} {w:World} {A:Around} {E:Value->Shared->Prop} {s:Shared}
theorem DW {vs out:List Value}{ns:List Int}(hi:IntsAre vs ns)(h2:2<=vs.length)
  (ho:out=(Ak (λi j=>B7 (ns.getD i 0) (ns.getD j 0)) (kas_sort ns.length)).toList.map (λi=>vs.getD i Value.none)):El prog w A vs out s:=by
 have hl:=IntsAre.length hi;refine⟨oneType',λi j=>B7 (ns.getD i 0) (ns.getD j 0),?_,λi j C hi' hj hC=>?_,by refine ZN ho ?_;rw[hl],?_⟩
 ·refine ZN (ksk_kind (keys:=vs.toArray) (kz:=ns) (by simpa using hi) (by simpa using h2)) ?_
  exact wpAny_pure ⟨rfl,rfl⟩
 ·unfold kas_ask
  have e1:vs.getD i Value.none=vs[i]:=by simp[List.getD_eq_getElem?_getD,hi']
  have e2:vs.getD j Value.none=vs[j]:=by simp[List.getD_eq_getElem?_getD,hj]
  obtain⟨t,h1⟩:=Ee hi i vs[i] (ZI hi');obtain⟨u,h2⟩:=Ee hi j vs[j] (ZI hj);refine ZN e1 ?_;refine ZN e2 ?_;refine ZN h1 ?_;refine ZN h2 ?_;exact kat_lt_int hC
 ·have h1:1<=ns.length:=le_of_le_of_eq (Zc (Za rfl) h2) hl
  have W:WO (λi j=>B7 (ns.getD i 0) (ns.getD j 0)):=⟨λa b h=>intLt_ok.asymm h,λa b c h1 h2=>intLt_ok.leTrans h1 h2⟩
  refine ZN ho ?_;rw[ZF];refine ZN Array.length_toList ?_;refine ZN (((Fl W h1).1.size_eq)) ?_;refine ZN hl ?_;simp
theorem Ih (x:String):(Str.ofString x).cps.toList=Fs x:=by
 rw[Str.ofString_eq_toList];rfl
noncomputable abbrev OO (prog:Program) (w:World) (h:Heap) (ks:List (List At)) (vs:List Value):Prop:=vs.length=ks.length/\∀ i v,vs[i]? = some v->∃ a,v=.ref a/\(kK prog w).is h (ks.getD i []) a
theorem Em {ks:List At}{xs:List Value}(h:ItemsAre (BL prog w) ks xs):ks.length=xs.length:=by
 induction h with
 | nil=>rfl
 | cons _ _ ih=>simp[ih]
theorem M0 {b:Bool}{fin:Bool}{Q:Bool->Shared->Prop}{k1:List At}{xs:List Value}(hx:ItemsAre (BL prog w) k1 xs):∀ {k2:List At}{ys:List Value}(i:Nat),ItemsAre (BL prog w) k2 ys->k1.all At.isI=true->k2.all At.isI=true ->
  (b && i == 0)=false->(fin=decide (k1.length<k2.length))->Q (Ag k1 k2) s->KatLex prog w A b fin Q (xs.zip ys) i s:=by
 induction hx with
 | nil =>
  intro k2 ys i hy _ _ _ hf h;cases hy with
  | nil=>exact kat_nil (hf.symm▸h)
  | cons _ _=>exact kat_nil (hf.symm▸h)
 | @cons x v k1 xs hx rx ih =>
  intro k2 ys i hy a1 a2 hi hf h;cases hy with
  | nil=>exact kat_nil (hf.symm▸h)
  | @cons y u k2 ys hy ry =>
  refine kat_cons ((BL prog w).eqBool hx hy ?_);cases x with
  | s=>cases a1
  | i n =>
  cases y with
  | s=>cases a2
  | i m =>
  obtain⟨t,rfl⟩:=Bn hx;obtain⟨t',rfl⟩:=Bn hy
  by_cases e:n=m
  ·subst e
   refine ZN (decide_eq_true rfl) ?_;refine kat_yes (ih (i+1) ry a1 a2 (Bool.and_false _) (by refine ZO hf ?_;simp) ?_);rwa [Ag,if_pos rfl]at h
  ·refine ZN (decide_eq_false (λq=>e (At.i.inj q))) ?_
   refine kat_no ?_;refine ZN hi ?_;refine kat_one _ _ (lt_int ?_);rwa [Ag,if_neg (λq=>e (At.i.inj q))]at h
theorem Oi {fin:Bool}{Q:Bool->Shared->Prop}{k1 k2:List At}{xs ys:List Value}(hx:ItemsAre (BL prog w) k1 xs)(hy:ItemsAre (BL prog w) k2 ys)(a1:E7 k1=true)(a2:E7 k2=true)
  (hf:fin=decide (k1.length<k2.length)) (h:Q (Ag k1 k2) s):KatLex prog w A true fin Q (xs.zip ys) 0 s:=by
 cases k1 with
 | nil=>cases a1
 | cons x k1 =>
 cases k2 with
 | nil=>cases a2
 | cons y k2 =>
 cases x with
 | i=>cases a1
 | s n =>
 cases y with
 | i=>cases a2
 | s m =>
 cases hx with
 | cons hx rx =>
 cases hy with
 | cons hy ry =>
 refine kat_cons ((BL prog w).eqBool hx hy ?_);obtain⟨t,rfl⟩:=Bo hx;obtain⟨t',rfl⟩:=Bo hy
 by_cases e:n=m
 ·subst e
  refine ZN (decide_eq_true rfl) ?_;refine kat_yes (M0 rx 1 ry a1 a2 rfl (by refine ZO hf ?_;simp) ?_);simpa [Ag]using h
 ·refine ZN (decide_eq_false (by simpa using e)) ?_
  refine kat_no ?_;refine oneLt_str ?_;have:Ag (At.s n::k1) (At.s m::k2)=decide (Fs n<Fs m):=if_neg (λq=>e (At.s.inj q));rw[this]at h;rw[Ih,Ih];exact h
theorem Oj {ks:List (List At)}:∀ {vs:List Value},OO prog w s.heap ks vs->ks.all E7=true->∃ fs,KatTups s.heap vs fs/\fs.length=vs.length/\∀ v∈fs,∃ x t,v=Value.str x t:=by
 induction ks with
 | nil =>
  intro vs ⟨h,_⟩ _;cases vs with
  | nil=>exact⟨[],trivial,rfl,λ_ h=>nomatch h⟩
  | cons=>simp at h
 | cons k ks ih =>
  intro vs ⟨h,hv⟩ ho;cases vs with
  | nil=>simp at h
  | cons v vs =>
  simp only[List.all_cons,Bool.and_eq_true]at ho;obtain⟨a,rfl,hk⟩:=hv 0 v rfl;refine eX1 (ih (vs:=vs) ⟨by simpa using h,λi u hu=>hv (i+1) u (by simpa using hu)⟩ ho.2) λfs zz=>aN3 zz λh1 h2 h3=>?_
  refine eX3 (hk) λo items n zz=>aN4 zz λe1 e2 e3 e4=>?_
  have e4:ItemsAre (BL prog w) k items.toList:=e4;cases k with
  | nil=>cases ho.1
  | cons x k =>
  cases x with
  | i=>cases ho.1
  | s x =>
  generalize hq:items.toList=l at e4;cases e4 with
  | @cons _ v _ l' hx rx =>
  obtain⟨t,rfl⟩:=Bo hx;refine⟨_::fs,KatTups.cons e1 e2 e3 (f:=.str (Str.ofString x) t) ?_ h1,by simp[h2],λu hu=>?_⟩
  ·refine ZO (Array.getElem?_toList).symm ?_;refine ZN hq ?_;rfl
  ·rcases Zz hu with rfl | hu
   ·exact⟨_,_,rfl⟩
   ·exact h3 u hu
theorem Hs {vs out:List Value}{ks:List (List At)}(hk:OO prog w s.heap ks vs)(ha:ks.all E7=true)(h2:2<=vs.length)
  (ho:out=(Ak (λi j=>Ag (ks.getD i []) (ks.getD j [])) (kas_sort ks.length)).toList.map (λi=>vs.getD i Value.none)):El prog w A vs out s:=by
 have hl:=hk.1;refine⟨tuples' true,λi j=>Ag (ks.getD i []) (ks.getD j []),?_,λi j C hi' hj hC=>?_,by refine ZN ho ?_;rw[hl],?_⟩
 ·obtain⟨fs,h1,h3,h4⟩:=Oj hk ha
  refine kat_kind (T:=.type "str") h1 (lt_of_lt_of_eq (Zd (Za rfl) h2) h3.symm) (λv hv=>?_) (by decide) ⟨by rfl,rfl⟩;obtain⟨x,t,rfl⟩:=h4 v hv;exact Looks.of_pure rfl
 ·unfold kas_ask
  have e1:vs.getD i Value.none=vs[i]:=by simp[List.getD_eq_getElem?_getD,hi']
  have e2:vs.getD j Value.none=vs[j]:=by simp[List.getD_eq_getElem?_getD,hj]
  obtain⟨a,h1,k1⟩:=hk.2 i vs[i] (ZI hi');obtain⟨b,h2,k2⟩:=hk.2 j vs[j] (ZI hj);refine ZN e1 ?_;refine ZN e2 ?_;refine ZN h1 ?_;refine ZN h2 ?_;refine eX3 (k1) λo1 i1 n1 zz=>aN4 zz λp1 p2 p3 p4=>?_
  refine eX3 (k2) λo2 i2 n2 zz=>aN4 zz λq1 q2 q3 q4=>?_
  have g1:E7 (ks.getD i [])=true:=by
   have hi2:i<ks.length:=lt_of_lt_of_eq hi' hl;refine ZN (List.getD_eq_getElem?_getD) ?_;refine ZN (ZI hi2) ?_;exact List.all_eq_true.mp ha _ (List.getElem_mem hi2)
  have g2:E7 (ks.getD j [])=true:=by
   have hi2:j<ks.length:=lt_of_lt_of_eq hj hl;refine ZN (List.getD_eq_getElem?_getD) ?_;refine ZN (ZI hi2) ?_;exact List.all_eq_true.mp ha _ (List.getElem_mem hi2)
  refine kat_lt p1 p3 q1 q3 (Oi p4 q4 g1 g2 ?_ hC);refine ZN ((Em p4)) ?_;refine ZN ((Em q4)) ?_;simp
 ·have h1:1<=ks.length:=le_of_le_of_eq (Zc (Za rfl) h2) hl
  have W:WO (λi j=>Ag (ks.getD i []) (ks.getD j [])):=⟨λa b h=>keyLt_ok.asymm h,λa b c h1 h2=>keyLt_ok.leTrans h1 h2⟩
  refine ZN ho ?_;rw[ZF];refine ZN Array.length_toList ?_;refine ZN (((Fl W h1).1.size_eq)) ?_;refine ZN hl ?_;simp
end
section
variable {g:Gl} {μ μ':List Addr} {h h':Heap} {X:CK} {d k:Nat} {sc:Scope}
theorem Fm {α:Type}{ltK:α->α->Bool}(O:LtOk ltK)(ks:List α)(x0:α)(h1:1<=ks.length):∀ i∈(Ak (λi j=>ltK (ks.getD i x0) (ks.getD j x0)) (kas_sort ks.length)).toList,i<ks.length:=by
 have W:WO (λi j=>ltK (ks.getD i x0) (ks.getD j x0)):=⟨λa b h=>O.asymm h,λa b c h1 h2=>O.leTrans h1 h2⟩
 intro i hi;have:=(((Fl W h1).1.toList).mem_iff (a:=i)).mp hi;simpa using this
theorem ET {vs:List MV}{xs:List Value}(vr:VRels g μ h vs xs){v0:MV}:∀ l:List Nat,(∀ i∈l,i<vs.length)->VRels g μ h (l.map λi=>vs.getD i v0) (l.map λi=>xs.getD i Value.none)
 | [],_=>.nil
 | i::l,hl=>by
  have hi:i<vs.length:=hl i (.head _);refine eX1 (vr.get (ZI hi)) λx zz=>aN2 zz λh1 h2=>?_
  refine .cons ?_ (ET vr l λj hj=>hl j (.tail _ hj));show VRel g μ h (vs.getD i v0) (xs.getD i Value.none);refine ZN (List.getD_eq_getElem?_getD) ?_;refine ZN (List.getD_eq_getElem?_getD) ?_;refine ZN h1 ?_;refine ZN (ZI hi) ?_;exact h2
theorem FY {U:MH}{s:Shared}{Q:Value->Shared->Prop}{h1:Heap}{tk:Nat}{vs out:List Value}{ws:List MV}(r:Rel g μ U s)(bg:Big s.heap)(gr:Grow s.heap h1)(vr:VRels g μ h1 ws out)(th:Then g μ s (.fl ws) U Q) :
  Q (.ref h1.objs.size) { s with heap:=sortedHeap (h1.push (seqObj "list" vs.toArray 0)) h1.objs.size vs out.toArray,toks:=tk }:=by
 obtain⟨e,he⟩:=sortedHeap_at (out:=out.toArray) (Heap.get?_push_size _ rfl);have kp:∀ b o,h1.get? b=some o->(sortedHeap (h1.push (seqObj "list" vs.toArray 0)) h1.objs.size vs out.toArray).get? b=some o:=λb o q=>by
  have hlt:=Heap.lt_size q;refine ZN (sortedHeap_old (Zk hlt) (by rw[Heap.size_push];exact Zi hlt)) ?_;exact Heap.get?_push_of_some _ q
 have r1:Rel g μ U { s with heap:=h1 }:=r.grow gr;refine th.grow r (s':={ s with heap:=_,toks:=tk }) (gr.trans (Grow.of_keep kp)) ⟨rfl,rfl⟩ (.fl (items:=out.toArray) ⟨e,he⟩ ⟨BQ r1,DB r1⟩ (bg.keeps gr.keep).size ?_);refine ZN List.toList_toArray ?_;exact vr.ext ((Grow.of_keep kp).ext [] μ) LocOk.nil
theorem FZ {α:Type}{lt:α->α->Bool}{l:List α}(h:l.length<2):BJ lt l=l:=by
 match l with
 | []=>rfl
 | [x]=>rfl
 | _::_::_=>simp at h;exact False.elim (Zp (Nat.succ_le_succ (Zs _ _)) h)
theorem Di {vs:List Value}{ns:List Int}(hi:IntsAre vs ns):∃ out:List Value,(vs.length<2->out=vs)/\(2<=vs.length->out=(Ak (λi j=>B7 (ns.getD i 0) (ns.getD j 0)) (kas_sort ns.length)).toList.map (λi=>vs.getD i Value.none)) /\
  ∀ {g:Gl} {μ:List Addr} {h:Heap},VRels g μ h ((BJ B7 ns).map .int) out:=by
 have hl:=IntsAre.length hi
 by_cases h2:2<=vs.length
 ·refine⟨_,λq=>absurd q (Zp h2),λ_=>rfl,λ{g μ h}=>?_⟩
  have:=ET (g:=g) (μ:=μ) (h:=h) (v0:=.int 0) (DV hi) _ (λi hi=>by rw[ZF];exact Fm intLt_ok ns 0 (le_of_le_of_eq (Zc (Za rfl) h2) hl) i hi);refine ZN (HP intLt_ok ns 0 (le_of_le_of_eq (Zc (Za rfl) h2) hl)).symm ?_;refine ZN List.map_map ?_;have e:∀ l:List Nat,(∀ i∈l,i<ns.length)->l.map (MV.int∘λi=>ns.getD i 0)=l.map (λi=>(List.map MV.int ns).getD i (MV.int 0)):=λl hl=>by
   refine ZL λi hi=>?_
   have:=hl i hi;simp[List.getD_eq_getElem?_getD,ZI this]
  refine ZN (e _ λi hi=>Fm intLt_ok ns 0 (le_of_le_of_eq (Zc (Za rfl) h2) hl) i hi) ?_;exact this
 ·refine⟨vs,λ_=>rfl,λq=>absurd q h2,λ{g μ h}=>?_⟩
  refine ZN (FZ (lt_of_eq_of_lt hl.symm (Zq h2))) ?_;exact DV hi
theorem Dy:Hh g d k .sorted (.builtin "sorted"):=λw U v μ A E s Q x e vx r bg rm th=>by
 have fromList:∀ (l:List MV),AO U w=some l->(∃ ns,l.length<64/\l.mapM MV.int? = some ns/\v=.fl ((BJ B7 ns).map .int))->wpAny (model g.prog g.w) A (call (.builtin "sorted") [x]) Q E s:=λl hl e=>by
  refine eX1 (e) λns zz=>aN3 zz λh64 hm q4=>?_;subst q4
  refine eX2 (listItems_at r vx hl) λaa ia zz=>aN3 zz λq3 i1 i4=>?_;subst q3
  have hi:=(Bk hm i4).2
  have hlen:ia.toList.length<64:=by refine ZN i4.length.symm ?_;exact h64
  refine eX1 (Di hi) λout zz=>aN3 zz λo1 o2 o3=>?_
  have i1':s.heap.IsList aa ia.toList.toArray:=by refine ZN Array.toArray_toList ?_;exact i1
  refine ES (collect_list i1' ⟨out,hlen,o1,λh2 h3 kp=>DW hi h2 (o2 h2),?_⟩ (by refine ZN sizeLine_eq ?_;exact Zl (Ze hlen (Za rfl))));have gr:Grow s.heap ((s.heap.push (seqObj "list" #[] 0)).update s.heap.objs.size (Obj.mapSeq (·++ia.toList.toArray))):=Grow.of_keep λb o q=>by
   refine ZO (Heap.get?_update_ne _ _ _ _ (Zk (Heap.lt_size q))) ?_;exact Heap.get?_push_of_some _ q
  exact FY (s:=s) (tk:=s.toks) r bg gr o3 th
 have fromDict:∀ (y:Addr) (kvs:List (Int×Value)),x=.ref y->(y == sysModules)=false->s.heap.DictOf (intKind g.prog g.w) y kvs->kvs.length<64->v=.fl ((BJ B7 (kvs.map (·.1))).map .int)->wpAny (model g.prog g.w) A (call (.builtin "sorted") [x]) Q E s:=by
  rintro y kvs rfl hs hd h64 rfl
  obtain⟨ep,hd⟩:∃ ep,s.heap.DictAt (intKind g.prog g.w) y kvs ep:=by
   refine eX3 (hd) λo es ep a=>?_
   exact⟨ep,o,es,a⟩
  refine ES (kdu_collect (A:=A.in1) (kdl_dict hs) rm.handled hd (by refine ZN sizeLine_eq ?_;exact Zl (Ze h64 (Za rfl))) λh' tk acc kp it=>?_);have hi:IntsAre acc.toList (kvs.map (·.1)):=by
   obtain⟨t1,t2⟩:=it;have:∀ (kvs:List (Int×Value)) (l:List Value),l.length=kvs.length->(∀ (i:Nat) (v:Value),l[i]? = some v->∃ (k:Int) (x:Value),kvs[i]? = some (k,x)/\(intKind g.prog g.w).is k v=true)->IntsAre l (kvs.map (·.1)):=by
    intro kvs
    induction kvs with
    | nil=>intro l h1 _;cases l with | nil=>exact .nil | cons=>simp at h1
    | cons p kvs ih =>
     intro l h1 h2;cases l with
     | nil=>simp at h1
     | cons v l =>
      refine eX2 (h2 0 v rfl) λk x zz=>aN2 zz λe hk=>?_
      simp only[List.getElem?_cons_zero,Option.some.injEq]at e;subst e;obtain⟨t,rfl⟩:=Value.isInt_shape hk;exact .cons _ t (ih l (by simpa using h1) λi v hv=>by simpa using h2 (i+1) v (by simpa using hv))
   exact this kvs acc.toList (by refine ZO Array.length_toList ?_;exact t1) λi v hv=>t2 i v (by refine ZO (Array.getElem?_toList).symm ?_;exact hv)
  refine eX1 (Di hi) λout zz=>aN3 zz λo1 o2 o3=>?_
  have hl:=IntsAre.length hi;rw[ZF]at hl;exact⟨out,lt_of_eq_of_lt hl h64,o1,λh2 h3 kp=>DW hi h2 (o2 h2),FY (s:=s) r bg (Grow.of_keep kp) o3 th⟩
 rcases e with z0 | z0 | z0
 ·refine eX2 (z0) λl ns zz=>aN2 zz λhl e=>?_
  exact fromList l hl ⟨ns,e⟩
 ·refine eX1 (z0) λi zz=>aN3 zz λq2 ho ev=>?_;subst q2
  refine eX1 (vx) λy zz=>aN2 zz λq2 hj=>?_;subst q2
  obtain⟨n,hn⟩:=r.at ho hj;exact fromDict _ [] rfl (BH (r.low _ (Zy hj))) ⟨_,#[],n,hn,⟨rfl,rfl,rfl⟩,rfl,λ_ hx=>by simp at hx,.nil,.nil⟩ (by decide) ev
 ·obtain⟨i,l,rfl,ho,h64,ev⟩:=z0
  refine eX1 (vx) λy zz=>aN2 zz λq2 hj=>?_;subst q2
  obtain⟨hz,kvs,hd,hk⟩:=r.at ho hj;have hkl:l.map (·.1)=kvs.map (·.1):=by
   clear hz hd ho th h64 fromDict ev
   induction hk with
   | nil=>rfl
   | cons _ _ ih=>simp[ih]
  have hlen:l.length=kvs.length:=by have:=congrArg List.length hkl;simpa using this
  exact fromDict _ kvs rfl (BH (r.low _ (Zy hj))) hd (lt_of_eq_of_lt hlen.symm h64) (by refine ZN hkl.symm ?_;exact ev)
end
section
variable {g:Gl} {μ μ':List Addr} {h h':Heap} {X:CK} {d k:Nat} {sc:Scope}
theorem Dj (val:Nat->Int):∀ i,(firstMet val i).Nodup
 | 0=>.nil
 | i+1=>by
  have ih:=Dj val i;rw[firstMet_succ];unfold step_dedup
  split
  ·exact ih
  ·rename_i q
   refine List.nodup_append.mpr ?_;refine⟨ih,List.nodup_cons.mpr ⟨by simp,.nil⟩,λa ha b hb e=>q ?_⟩;rw[Zx hb]at e;refine List.any_eq_true.mpr ?_;exact⟨a,ha,by simpa using e⟩
theorem Fc (ns:List Int):(firstMet (λi=>ns.getD i 0) ns.length).length=(BG ns).length:=by
 refine (EL (Dj _ _) λx=>?_).length_eq;have:=firstMet_any (λi=>ns.getD i 0) ns.length x
 have e:(List.range ns.length).map (λi=>ns.getD i 0)=ns:=by
  apply List.ext_getElem (by simp);intro i h1 h2;simp at h1;simp[List.getD_eq_getElem?_getD,ZI h1]
 rw[e]at this;replace this:=Bool.eq_iff_iff.mp this;rw[List.any_eq_true,List.any_eq_true]at this;constructor
 ·intro hx
  refine eX1 (this.mp ⟨x,hx,by simp⟩) λy zz=>aN2 zz λhy q=>?_
  rw[beq_iff_eq.mp q]at hy;exact hy
 ·intro hx
  refine eX1 (this.mpr ⟨x,hx,by simp⟩) λy zz=>aN2 zz λhy q=>?_
  rw[beq_iff_eq.mp q]at hy;exact hy
theorem Jm {e:Expr}{t:ME}{p p' p2 p2':Pos}(G:GOk g)(hx:sc.names.lookup (Str.ofString "len")=some .globalImplicit)(hy:sc.names.lookup (Str.ofString "set")=some .globalImplicit)(h1:Ai X g d k sc e t)
  (he:autoParam (∀ env,starEach [e] env=[(false,eval e env)]) au) :
  Ai X g d k sc (.Call (.Name (Str.ofString "len") p) [.Call (.Name (Str.ofString "set") p2) [e] [] p2'] [] p') (.bi .lenset [t]):=by
 refine FJ (f1:=.builtin "len") (f2:=.type "set") G rfl rfl hx hy h1 (by decide) (by decide) (λw v U μ A E s Q y e3 vy r bg rm th=>?_) he
 ·refine eX2 (e3) λl ns zz=>aN4 zz λq3 h64 hm q6=>?_;subst q3;subst q6
  refine eX2 (listItems_at r vy (l:=l) rfl) λaa ia zz=>aN3 zz λq3 i1 i4=>?_;subst q3
  have hi:=(Bk hm i4).2
  have hlen:ia.size=ns.length:=by refine ZO i4.arr.symm ?_;exact (Hf hm).1
  have hz:ia.size<64:=by refine ZN i4.arr.symm ?_;exact h64
  refine call_set_list rm.handled i1 hi (by unfold scanBound;exact Zb (Nat.add_le_add (Zl hz) (Zg _)) (Za rfl)) λh' tk hS kp=>?_
  refine eX4 (hS) λo es ep tb zz=>aN8 zz λho hex hd hel hmem hb hf hn=>?_
  refine call_len_set ho hex hd hf (by unfold scanBound at hb;lia) ?_;refine ZN hn ?_;refine ZN hlen ?_;rw[Fc];have gr:Grow s.heap h':=Grow.of_keep λb o e=>kp b o (Heap.lt_size e) e
  exact th.grow (s':={ s with heap:=h',toks:=tk+1+1 }) r gr ⟨rfl,rfl⟩ .int
end
theorem M1 {xs:Array Nat}{j k:Nat}(h1:∀ i,i<k->xs.getD i j<j)(h2:∀ i,k<=i->¬ xs.getD i j<j):∀ fuel lo hi,lo<=k->k<=hi->hi - lo<=fuel->SetTable.below.go xs j fuel lo hi=k:=by
 intro fuel
 induction fuel with
 | zero=>intro lo hi a b c;unfold SetTable.below.go;exact Zv a (Zc b (Nat.le_of_sub_eq_zero (Nat.le_zero.mp c)))
 | succ fuel ih =>
  intro lo hi a b c;unfold SetTable.below.go
  by_cases q:lo<hi
  ·refine ZO (if_pos q) ?_
   dsimp only
   by_cases q2:xs.getD ((lo+hi) / 2) j<j
   ·refine ZO (if_pos q2) ?_
    have:(lo+hi) / 2<k:=by
     rcases Nat.lt_or_ge ((lo+hi) / 2) k with h | h
     ·exact h
     ·exact absurd q2 (h2 _ h)
    exact ih _ _ (by assumption) b (Internal.mid_s2 c (Zl q))
   ·refine ZO (if_neg q2) ?_
    have:k<=(lo+hi) / 2:=by
     rcases Nat.lt_or_ge ((lo+hi) / 2) k with h | h
     ·exact absurd (h1 _ h) q2
     ·exact h
    exact ih _ _ a this (Internal.mid_s1 c q)
  ·refine ZO (if_neg q) ?_;exact Zv a (Zc b (Zn q))
theorem Dk {xs:Array Nat}{j k:Nat}(hk:k<=xs.size)(h1:∀ i,i<k->xs.getD i j<j)(h2:∀ i,k<=i->¬ xs.getD i j<j):SetTable.below xs j=k :=
 M1 h1 h2 _ _ _ (Zm _) hk (Nat.sub_le _ _)
noncomputable def CN (xs:Array Nat):Prop:=∀ i j:Nat,∀ (_:i<j) (hj:j<xs.size),xs[i]<xs[j]
theorem EU {α:Type}:∀ {l:List α}{i:Nat}(h:i<l.length),(l[i]::l.eraseIdx i).Perm l
 | x::r,0,_=>.refl _
 | x::r,i+1,h=>by
  refine ZN List.eraseIdx_cons_succ ?_;rw[List.getElem_cons_succ];exact (List.Perm.swap _ _ _).trans (List.Perm.cons x (EU (l:=r) (i:=i) (by simpa using h)))
theorem LI {α:Type}(next:Nat->Nat):∀ (fuel k:Nat)(left:List α)(out:Array α),left.length=fuel->(pickOrder.go next fuel k left out).toList.Perm (out.toList++left):=by
 intro fuel
 induction fuel with
 | zero =>
  intro k left out h;have:left=[]:=List.length_eq_zero_iff.mp h;subst this;unfold pickOrder.go;simp
 | succ fuel ih =>
  intro k left out h;unfold pickOrder.go;have hlt:next k % left.length<left.length:=Nat.mod_lt _ (lt_of_lt_of_eq (Zb (Zm _) (Zo _)) h.symm);refine ZN (ZI hlt) ?_;refine (ih (k+1) _ _ (by refine ZO (List.length_eraseIdx_of_lt hlt) ?_;exact Zv (Nat.sub_le_of_le_add (Nat.le_of_eq h)) (Nat.le_sub_one_of_lt (lt_of_lt_of_eq (Zo _) h.symm)))).trans ?_;refine ZN Array.toList_push ?_;rw[List.append_assoc];refine List.Perm.append_left _ ?_;have:=EU hlt;simpa using this
theorem Dl {α:Type}(next:Nat->Nat)(xs:Array α):(pickOrder next xs).toList.Perm xs.toList:=by
 have:=LI next xs.size 0 xs.toList #[] (by simp);simpa [pickOrder]using this
section
variable {prog:Program} {w:World} {A:Around} {E:Value->Shared->Prop} {s:Shared}
theorem Ht {M:Model}{src:Source}{n:Nat}{Q:Nat->Shared->Prop}(hn:n≠0)(h:∀ i,i<n->Q i { s with drawn:=s.drawn.bump src }):wpAny M A (choose src n) Q E s:=fun Γ p _=>by
 unfold choose;rw[Sem.wp_choose];exact⟨hn,by rw[Sem.wp_pure];exact h _ (Nat.mod_lt _ (Nat.pos_of_ne_zero hn))⟩
theorem Fd {α:Type}{M:Model}:∀ (n:Nat)(xs:List α)(s:Shared){Q:List α->Shared->Prop},n=xs.length->(∀ d ys,ys.Perm xs->Q ys { s with drawn:=d })->wpAny M A (drawOrder n xs) Q E s:=by
 intro n
 induction n with
 | zero =>
  intro xs s Q h hQ;have:xs=[]:=List.length_eq_zero_iff.mp h.symm;subst this;exact wpAny_pure (hQ s.drawn [] (.refl _))
 | succ n ih =>
  intro xs s Q h hQ;cases xs with
  | nil=>simp at h
  | cons x xs =>
  refine wpAny_bind (Ht (by simp) λi hi=>?_);refine ZN (ZI hi) ?_;refine wpAny_bind (ih _ _ (by refine ZN (List.length_eraseIdx_of_lt hi) ?_;simp at h ⊢;exact h) λd ys hp=>wpAny_pure (hQ d _ ?_));exact (List.Perm.cons _ hp).trans (EU hi)
end
theorem Ii (a:Addr):setDrawn a=(do
  let (es,_,t) <- setState a
  let byText <- setsByText
  return !byText && (!t.plain && decide (es.size > 1))):=rfl
noncomputable def Ph (b:Bool):Sem Unit:=do
 if b then unsupported "set:maker-not-led"
theorem GJ (a:Addr):setWalk a=(do
  let (es,epoch,t) <- setState a
  if <- setsByText then return pickOrder ((<- ask).params.setOrder a epoch) es
  if !t.plain && decide (es.size > 1)then return (<- drawOrder es.size es.toList).toArray
  Ph (!t.led && decide (es.size > 1))
  return es):=rfl
theorem DX (a:Addr)(slot given epochThen:Nat):setNext a slot given epochThen=(do
  let (es,epoch,t) <- setState a
  if <- setsByText then
   if epoch != epochThen then unsupported "set_iterator.__next__:elements-changed"
   return ((<- setWalk a)[given]?).map λe=>(e.2,slot)
  if !t.plain && decide (es.size > 1)then unsupported "set_iterator.__next__:the-table-is-plain-no-more"
  Ph (!t.led && !es.isEmpty)
  let i:=SetTable.below t.place slot
  return match es[i]?,t.place[i]? with
   | some (_,x),some j=>some (x,j+1)
   | _,_=>none):=rfl
theorem Ck:Manifest.owners.lookup (String.ofList ['r','o','t','a','r','e','t','i','_','t','e','s'].reverse)=some Manifest.sig_set_iterator:=by kernel_rfl
theorem slot_set_iterator_next:Slot "set_iterator" "__next__" "set_iterator.__next__" :=
 .of (owner:="set_iterator") (n:="__next__") (by rw[typeLookup_type];refine ZN builtinLookup_eq_fast ?_;kernel_rfl) (by decide +kernel) (by decide +kernel) (by decide +kernel)
  (by first | exact .inl (by decide +kernel) | exact .inr (by decide +kernel)) (by rw[isSubtype_type];kernel_rfl)
theorem CB:entryFor table "set_iterator.__next__"=some Builtin.«set_iterator.__next__»:=entryFor_of_tree (by kernel_rfl)
theorem Bw (a:Value):argsOk "set_iterator.__next__" ⟨[a],[]⟩:=by
 unfold argsOk;refine ZN (signature?_of (id:="set_iterator.__next__") (n:=['_','_','t','x','e','n','_','_']) (o:=['r','o','t','a','r','e','t','i','_','t','e','s']) (by kernel_rfl) Ck) ?_;kernel_rfl
theorem GK:entryFor table "set.__iter__"=some Builtin.«frozenset.__iter__» :=
 entryFor_alias (id':="frozenset.__iter__") (by kernel_rfl) rfl (by decide +kernel) (by kernel_rfl)
theorem CH:Slot "set_iterator" "__iter__" "set_iterator.__iter__":=.of (owner:="set_iterator") (n:="__iter__") (by rw[typeLookup_type];refine ZN builtinLookup_eq_fast ?_;kernel_rfl) (by decide +kernel) (by decide +kernel) (by decide +kernel)
  (by first | exact .inl (by decide +kernel) | exact .inr (by decide +kernel)) (by rw[isSubtype_type];kernel_rfl)
theorem DM:entryFor table "set_iterator.__iter__"=some Builtin.«dict_keyiterator.__iter__» :=
 entryFor_alias (id':="dict_keyiterator.__iter__") (by kernel_rfl) rfl (by decide +kernel) (by kernel_rfl)
theorem DD (a:Value):argsOk "set_iterator.__iter__" ⟨[a],[]⟩:=by
 unfold argsOk;rw[signature?_of (id:="set_iterator.__iter__") (n:=['_','_','r','e','t','i','_','_']) (o:=['r','o','t','a','r','e','t','i','_','t','e','s']) (by kernel_rfl) Ck];kernel_rfl
noncomputable abbrev byT (w:World):Bool:=w.params.followText "set-order"
structure SetLook (w:World) (h:Heap) (a:Addr) (es:Array (Int×Value)) (ep:Nat) (t:SetTable):Prop where
 here:h.get? a=some { cls:=.type "set",dict:=none,data:=.set es ep t,slots:=#[] }
 fits:t.fits es.size=true
 rises:CN t.place
 led:byT w=false->t.led=true
theorem SetLook.at {w:World}{h h':Heap}{a:Addr}{es:Array (Int×Value)}{ep:Nat}{t:SetTable}(S:SetLook w h a es ep t)(k:∀ o,h.get? a=some o->h'.get? a=some o):SetLook w h' a es ep t:=⟨k _ S.here,S.fits,S.rises,S.led⟩
theorem SetLook.size {w:World}{h:Heap}{a:Addr}{es:Array (Int×Value)}{ep:Nat}{t:SetTable}(S:SetLook w h a es ep t):t.place.size=es.size:=by
 have:=S.fits;simp only[SetTable.fits,Bool.and_eq_true,beq_iff_eq]at this;exact this.1
inductive SetWay (w:World) (h:Heap) (a:Addr) (es:Array (Int×Value)) (ep:Nat) (t:SetTable):List (Int×Value)->(Nat->Value)->List Addr->Prop
 | text:byT w=true->SetWay w h a es ep t (pickOrder (w.params.setOrder a ep) es).toList (λ_=>.int 0 0) []
 | drawn {T:Addr} {pl:List Nat}:byT w=false->(!t.plain && decide (es.size > 1))=true->h.get? T=some { cls:=.type "tuple",data:=.seq (pl.map λ(i:Nat)=>rawInt i).toArray }->pl.Perm (List.range es.size) ->
   SetWay w h a es ep t (pl.map λi=>es.getD i (0,.none)) (λ_=>.ref T) [T]
 | led:byT w=false->(!t.plain && decide (es.size > 1))=false->SetWay w h a es ep t es.toList (λi=>if i=0 then .int 0 0 else .int ((t.place.getD (i - 1) 0+1:Nat):Int) 0) []
section
variable {prog:Program} {w:World} {A:Around} {E:Value->Shared->Prop} {s:Shared} {a:Addr} {es:Array (Int×Value)} {ep:Nat} {t:SetTable}
theorem BF {Q:Bool->Shared->Prop}(h:Q (byT w) s):wpAny (model prog w) A setsByText Q E s:=by
 unfold setsByText;exact wpAny_bind (wpAny_askSetting (wpAny_pure h))
theorem Jn {Q:Value->Shared->Prop}(S:SetLook w s.heap a es ep t)(hz:es.size<=4096)
  (h:∀ (h':Heap) (d:Drawn) (I:Addr) (ord:List (Int×Value)) (first:Nat->Value) (Ts:List Addr),(∀ b o,s.heap.get? b=some o->h'.get? b=some o)->s.heap.objs.size<=I->I<h'.objs.size->SetLook w h' a es ep t->SetWay w h' a es ep t ord first Ts->ord.Perm es.toList ->
   h'.get? I=some { cls:=.type "set_iterator",data:=.fields #[first 0,.int 0 0,.ref a,.int es.size 0,.int ep 0] }->Q (.ref I) { s with heap:=h',drawn:=d }) :
  wpAny (model prog w) A (pyIter (.ref a)) Q E s:=by
 have hT:s.TypeIs (.ref a) "set":=⟨_,S.here,rfl⟩
 refine wpAny_pyIter_slot hT F.slot_set_iter (wpAny_call_entry F.slot_set_iter hT GK ?_ (F.args_set_iter_1 _));unfold Builtin.«frozenset.__iter__» Builtin.Frozenset.slot0 slotArgs;simp only[List.isEmpty_nil,Bool.not_true,Bool.false_eq_true,↓reduceIte,bind_assoc,List.length_nil,bne_self_eq_false];refine wpAny_bind (wpAny_pure ?_)
 try dsimp only
 refine wpAny_bind (wpAny_pure ?_);refine wpAny_bind (wpAny_bind (wpAny_setEntries_of S.here rfl S.fits (wpAny_pure ?_)));rw[Ii];refine wpAny_bind (wpAny_bind (wpAny_setState_of S.here rfl S.fits ?_));refine wpAny_bind (BF (wpAny_pure ?_));have hown:Builtin.Dict_items.ownsTuple "set_iterator"=false:=by decide
 have fin:∀ (h1:Heap) (d:Drawn) (ord:List (Int×Value)) (first:Nat->Value) (Ts:List Addr),(∀ b o,s.heap.get? b=some o->h1.get? b=some o)->s.heap.objs.size<=h1.objs.size->SetWay w h1 a es ep t ord first Ts->ord.Perm es.toList ->
   (∀ h2,(∀ b o,h1.get? b=some o->h2.get? b=some o)->SetWay w h2 a es ep t ord first Ts) ->
   wpAny (model prog w) A.in1 (do
    let e <- setEpoch a
    let v <- newFields "set_iterator" [first 0,rawInt 0,Value.ref a,rawInt es.size,rawInt e]
    ret v) (λfin s'=>∃ v,fin=Fin.done (Flow.ret v)/\∃ T' r,s'.TypeIs v T'/\typeLookup (Value.type T') (Str.ofString "__next__")=pure (some r)/\Q v s') E { s with heap:=h1,drawn:=d }:=by
  intro h1 d ord first Ts kp hsz way perm way2;have S1:=S.at (kp a);refine wpAny_bind (wpAny_setEpoch_of S1.here rfl S1.fits ?_);refine wpAny_bind (wpAny_newObj_type ?_ (by size_fits));refine wpAny_pure ⟨_,rfl,"set_iterator",_,⟨_,Heap.get?_push_size _ rfl,rfl⟩,slot_set_iterator_next.lookup,?_⟩;have kp2:∀ b o,h1.get? b=some o->(h1.push { cls:=.type "set_iterator",data:=.fields [first 0,rawInt 0,Value.ref a,rawInt es.size,rawInt ep].toArray }).get? b=some o:=λb o e=>Heap.get?_push_of_some _ e
  exact h _ d h1.objs.size ord first Ts (λb o e=>kp2 b o (kp b o e)) hsz (by rw[Heap.size_push];exact Zo _) (S1.at λo e=>kp2 _ _ e) (way2 _ kp2) perm (Heap.get?_push_size _ rfl)
 cases hB:byT w with
 | true =>
  refine ZN (if_neg (by simp)) ?_;refine wpAny_bind (wpAny_pure ?_);exact fin s.heap s.drawn (pickOrder (w.params.setOrder a ep) es).toList (λ_=>.int 0 0) [] (λ_ _ e=>e) (Zg _) (.text hB) (Dl _ _) λ_ _=>.text hB
 | false =>
  by_cases hp:(!t.plain && decide (es.size > 1))=true
  ·refine ZN (if_pos (by rw[hp];rfl)) ?_
   refine wpAny_bind (Fd es.size (List.range es.size) _ (by simp) λd ys hperm=>?_);have hyl:ys.length=es.size:=by refine ZO hperm.length_eq ?_;exact List.length_range
   refine wpAny_bind (wpAny_newTuple ?_ (by rw[ZF];refine ZN hyl ?_;refine ZN sizeLine_eq ?_;exact Zc hz (Za rfl)));have hT2:(s.heap.push { cls:=.type "tuple",data:=.seq (ys.map λ(i:Nat)=>rawInt i).toArray }).get? s.heap.objs.size=some { cls:=.type "tuple",data:=.seq (ys.map λ(i:Nat)=>rawInt i).toArray }:=Heap.get?_push_size _ rfl;refine fin _ d (ys.map λi=>es.getD i (0,.none)) (λ_=>.ref s.heap.objs.size) [_] (λb o e=>Heap.get?_push_of_some _ e) (by rw[Heap.size_push];exact Nat.le_succ _) (.drawn hB hp hT2 hperm) ?_ λh2 k2=>.drawn hB hp (k2 _ _ hT2) hperm
   refine (hperm.map _).trans (List.Perm.of_eq ?_);apply List.ext_getElem (by simp);intro i h1 h2;simp at h1;simp[Array.getD,h1]
  ·refine ZN (if_neg (by simpa using hp)) ?_
   refine wpAny_bind (wpAny_pure ?_);have hp:(!t.plain && decide (es.size > 1))=false:=by simpa using hp
   exact fin s.heap s.drawn es.toList (λi=>if i=0 then .int 0 0 else .int ((t.place.getD (i - 1) 0+1:Nat):Int) 0) [] (λ_ _ e=>e) (Zg _) (.led hB hp) (.refl _) λ_ _=>.led hB hp
end
section
variable {prog:Program} {w:World} {A:Around} {E:Value->Shared->Prop} {s:Shared} {a I:Addr} {es:Array (Int×Value)} {ep:Nat} {t:SetTable} {ord:List (Int×Value)} {first:Nat->Value} {Ts:List Addr}
noncomputable def Hu (h:Heap) (I a:Addr) (n ep:Nat) (first:Nat->Value) (i:Nat):Prop :=
 ∃ f,(f=first i)/\∃ o,h.get? I=some o/\o.cls=.type "set_iterator"/\o.data=.fields #[f,.int i 0,.ref a,.int n 0,.int ep 0]
theorem SetWay.at {h h':Heap}(W:SetWay w h a es ep t ord first Ts)(k:∀ b∈Ts,∀ o,h.get? b=some o->h'.get? b=some o):SetWay w h' a es ep t ord first Ts:=by
 cases W with
 | text x=>exact .text x
 | drawn x y z p=>exact .drawn x y (k _ (.head _) _ z) p
 | led x y=>exact .led x y
theorem SetWay.length {h:Heap}(W:SetWay w h a es ep t ord first Ts):ord.length=es.size:=by
 cases W with
 | text x=>have:=(Dl (w.params.setOrder a ep) es).length_eq;simpa using this
 | drawn x y z p=>rw[ZF];refine ZO p.length_eq ?_;exact List.length_range
 | led x y=>simp
theorem CR {h:Heap}{I:Addr}{o:Obj}{vs:Array Value}(j:Nat)(x:Value)(ho:h.get? I=some o)(hd:o.data=.fields vs) :
  ∃ o',(h.update I (Obj.mapFields (·.setIfInBounds j x))).get? I=some o'/\o'.cls=o.cls/\o'.data=.fields (vs.setIfInBounds j x) :=
 ⟨_,Heap.get?_update_self _ ho (Obj.isFreed_of_fields (Obj.data_mapFields hd _)),Obj.cls_mapFields ..,Obj.data_mapFields hd _⟩
theorem Fe {i:Nat}{Q:Option Value->Shared->Prop}(S:SetLook w s.heap a es ep t)(W:SetWay w s.heap a es ep t ord first Ts)(hI:Hu s.heap I a es.size ep first i)(hi:i<es.size)
  (hQ:∀ e h',ord[i]? = some e->Hu h' I a es.size ep first (i+1)->Heap.SameBut I s.heap h'->Q (some e.2) { s with heap:=h' }):wpAny (model prog w) A (pyNext (.ref I)) Q E s:=by
 obtain⟨f,hf,o,ho,hc,hd⟩:=hI;have hT:s.TypeIs (.ref I) "set_iterator":=⟨_,ho,hc⟩
 refine wpAny_bind (wpAny_attempt (wpAny_callSpecial?_slot (name:=Str.ofString "__next__") hT slot_set_iterator_next
  (wpAny_call_entry slot_set_iterator_next hT CB ?_ (Bw _))))
 refine wpAny_bind (wpAny_pure ?_);dsimp only;refine wpAny_bind (wpAny_fieldsOf ho hd ?_);refine wpAny_bind (wpAny_setEntries_of S.here rfl S.fits ?_);simp only[bne_self_eq_false,Bool.false_eq_true,↓reduceIte];have hle:i<ord.length:=by refine ZN W.length ?_;exact hi
 cases W with
 | text hB =>
  subst hf;dsimp only;rw[DX];refine wpAny_bind (wpAny_bind (wpAny_setState_of S.here rfl S.fits ?_));refine wpAny_bind (BF ?_);refine ZN hB ?_;simp only[↓reduceIte,Int.toNat_natCast,bne_self_eq_false,Bool.false_eq_true];rw[GJ];refine wpAny_bind (wpAny_bind (wpAny_setState_of S.here rfl S.fits ?_));refine wpAny_bind (BF ?_);refine ZN hB ?_;refine wpAny_bind (wpAny_askSetting (wpAny_pure (wpAny_pure ?_)));have he:(pickOrder (w.params.setOrder a ep) es)[i]? = some (pickOrder (w.params.setOrder a ep) es).toList[i]:=by refine ZO (Array.getElem?_toList).symm ?_;exact ZI hle
  show wpAny _ _ (match ((pickOrder (w.params.setOrder a ep) es)[i]?).map (λe=>(e.2,(0:Int).toNat))with | some (x,next)=>_ | none=>_) _ _ _;refine ZN he ?_;obtain⟨o1,g1,c1,d1⟩:=CR 0 (rawInt ((0:Int).toNat:Int)) ho hd;refine wpAny_bind (wpAny_setField ho hd (by simp) ?_);obtain⟨o2,g2,c2,d2⟩:=CR 1 (rawInt ((i:Int)+1)) g1 d1;refine wpAny_bind (wpAny_setField g1 d1 (by simp) ?_);refine wpAny_pure ⟨_,rfl,wpAny_pure (hQ _ _ (by exact ZI hle) ⟨_,rfl,o2,g2,by refine ZO c2 ?_;refine ZO c1 ?_;exact hc,?_⟩ ((Heap.SameBut.update ..).trans (Heap.SameBut.update ..)))⟩;refine ZO d2 ?_;simp[rawInt]
 | @drawn T pl hB hp hT2 perm =>
  subst hf;have hpl:i<pl.length:=by simpa using hle
  refine wpAny_bind (wpAny_seqItems hT2 rfl ?_);dsimp only;have e1:(pl.map λ(i:Nat)=>rawInt i).toArray[((i:Int).toNat)]? = some (rawInt pl[i]):=by simp[hpl]
  refine ZN e1 ?_;refine wpAny_bind (wpAny_bind (wpAny_setState_of S.here rfl S.fits ?_));have hin:pl[i]<es.size:=by have:=(perm.mem_iff (a:=pl[i])).mp (List.getElem_mem hpl);simpa using this
  simp only[Int.toNat_natCast,bne_self_eq_false,Bool.false_eq_true,↓reduceIte,Array.getElem?_eq_getElem hin];refine wpAny_pure ?_;obtain⟨o2,g2,c2,d2⟩:=CR 1 (rawInt ((i:Int)+1)) ho hd;refine wpAny_bind (wpAny_setField ho hd (by simp) ?_);refine wpAny_pure ⟨_,rfl,wpAny_pure (hQ es[pl[i]] _ ?_ ⟨_,rfl,o2,g2,by refine ZO c2 ?_;exact hc,?_⟩ (Heap.SameBut.update ..))⟩
  ·simp[hpl,Array.getD,hin]
  ·refine ZO d2 ?_;simp[rawInt]
 | led hB hp =>
  have hps:=S.size
  have hplt:i<t.place.size:=lt_of_lt_of_eq hi hps.symm
  have hslot:∃ sl:Nat,f=.int (sl:Int) 0/\SetTable.below t.place sl=i:=by
   by_cases h0:i=0
   ·refine⟨0,by refine ZO hf ?_;dsimp only;refine ZO (if_pos h0) ?_;rfl,Dk (Zl hplt) (λj hj=>absurd hj (by exact Zp (le_of_eq_of_le h0 (Zm _)))) λj _=>Nat.not_lt_zero _⟩
   ·refine⟨t.place.getD (i - 1) 0+1,by refine ZO hf ?_;dsimp only;exact if_neg h0,Dk (Zl hplt) (λj hj=>?_) λj hj=>?_⟩
    ·have hj2:j<t.place.size:=by exact Ze hj hplt
     have e1:t.place.getD j (t.place.getD (i - 1) 0+1)=t.place[j]:=by simp[Array.getD,hj2]
     have e2:t.place.getD (i - 1) 0=t.place[i - 1]'(by exact Zb (Nat.sub_le _ _) hplt):=by simp[Array.getD,show i - 1<t.place.size by exact Zb (Nat.sub_le _ _) hplt]
     refine ZN e1 ?_;refine ZN e2 ?_
     by_cases q:j=i - 1
     ·subst q;exact Zo _
     ·exact Zi (S.rises j (i - 1) (Zu (Nat.le_sub_one_of_lt hj) q) (by exact Zb (Nat.sub_le _ _) hplt))
    ·by_cases hj2:j<t.place.size
     ·have e1:t.place.getD j (t.place.getD (i - 1) 0+1)=t.place[j]:=by simp[Array.getD,hj2]
      have e2:t.place.getD (i - 1) 0=t.place[i - 1]'(by exact Zb (Nat.sub_le _ _) hplt):=by simp[Array.getD,show i - 1<t.place.size by exact Zb (Nat.sub_le _ _) hplt]
      refine ZN e1 ?_;refine ZN e2 ?_;have:=S.rises (i - 1) j (Zd (Nat.sub_lt (Nat.pos_of_ne_zero h0) (Za rfl)) hj) hj2;lia
     ·have e1:t.place.getD j (t.place.getD (i - 1) 0+1)=t.place.getD (i - 1) 0+1:=by simp[Array.getD,hj2]
      refine ZN e1 ?_;exact Nat.lt_irrefl _
  obtain⟨sl,rfl,hsl⟩:=hslot;dsimp only;rw[DX];refine wpAny_bind (wpAny_bind (wpAny_setState_of S.here rfl S.fits ?_));refine wpAny_bind (BF ?_);refine ZN hB ?_;simp only[Bool.false_eq_true,↓reduceIte,hp,S.led hB,Bool.not_true,Bool.false_and];refine wpAny_bind (wpAny_pure ?_);simp only[Int.toNat_natCast,hsl,Array.getElem?_eq_getElem hi,Array.getElem?_eq_getElem hplt];refine wpAny_pure ?_;obtain⟨o1,g1,c1,d1⟩:=CR 0 (rawInt ((t.place[i]+1:Nat):Int)) ho hd;refine wpAny_bind (wpAny_setField ho hd (by simp) ?_);obtain⟨o2,g2,c2,d2⟩:=CR 1 (rawInt ((i:Int)+1)) g1 d1;refine wpAny_bind (wpAny_setField g1 d1 (by simp) ?_);refine wpAny_pure ⟨_,rfl,wpAny_pure (hQ es[i] _ (by simp[hi]) ⟨_,rfl,o2,g2,by refine ZO c2 ?_;refine ZO c1 ?_;exact hc,?_⟩ ((Heap.SameBut.update ..).trans (Heap.SameBut.update ..)))⟩;refine ZO d2 ?_;simp[rawInt,Array.getD,hplt]
end
section
variable {prog:Program} {w:World} {A:Around} {E:Value->Shared->Prop} {s:Shared} {a I:Addr} {es:Array (Int×Value)} {ep:Nat} {t:SetTable} {ord:List (Int×Value)} {first:Nat->Value} {Ts:List Addr}
theorem FK {h1:Heap}{Q:Option Value->Shared->Prop}(hh:A.handled=none)(hb:Heap.SameBut I s.heap h1){o:Obj}{vs:Array Value}(ho:h1.get? I=some o)(hd:o.data=.fields vs)(hz:2<vs.size)
  (hQ:∀ h',Heap.ExtBut I s.heap h'->Q none { s with heap:=h' }) :
  wpAny (model prog w) A.in1 (do
   setField (Value.ref I) 2 Value.none
   let x <- newExc (Value.type "StopIteration") []
   (raiseNew x:Sem PySem.Fin)) (λfin s'=>∃ v,fin=Fin.done (Flow.ret v)/\wpAny (model prog w) A (pure (some v)) Q E s') (λe s' =>
   wpAny (model prog w) A
    (do
     let y <- isInstance e (Value.type "StopIteration")
     if y=true then pure none else throw e)
    Q E s') { s with heap:=h1 }:=by
 refine wpAny_bind (wpAny_setField ho hd hz ?_);refine wpAny_bind ?_;simp only[newExc,newTuple];refine wpAny_bind (wpAny_newObj_type ?_ (by size_fits));refine wpAny_bind (m:=firstArgMember _ _) (wpAny_of_eq (a:=Value.none) (by first | rfl | (simp only[firstArgMember];rfl)) ?_);refine wpAny_newObj_type ?_ (by size_fits);refine wpAny_bind (wpAny_handled ?_);refine ZN (show A.in1.handled=none from hh) ?_;refine wpAny_bind (wpAny_pure (wpAny_throw ?_));refine wpAny_bind (wpAny_isInstance (T:="StopIteration") (b:=true) ⟨_,Heap.get?_push_size _ rfl,rfl⟩ isSubtype_stop ?_);exact wpAny_pure (hQ _ ((((hb.trans (Heap.SameBut.update ..)).extBut).push _).push _))
theorem GL {Q:Option Value->Shared->Prop}(hh:A.handled=none)(S:SetLook w s.heap a es ep t)(W:SetWay w s.heap a es ep t ord first Ts)(hI:Hu s.heap I a es.size ep first es.size)
  (hQ:∀ h',Heap.ExtBut I s.heap h'->Q none { s with heap:=h' }):wpAny (model prog w) A (pyNext (.ref I)) Q E s:=by
 obtain⟨f,hf,o,ho,hc,hd⟩:=hI;have hT:s.TypeIs (.ref I) "set_iterator":=⟨_,ho,hc⟩
 refine wpAny_bind (wpAny_attempt (wpAny_callSpecial?_slot (name:=Str.ofString "__next__") hT slot_set_iterator_next
  (wpAny_call_entry slot_set_iterator_next hT CB ?_ (Bw _))))
 refine wpAny_bind (wpAny_pure ?_);dsimp only;refine wpAny_bind (wpAny_fieldsOf ho hd ?_);refine wpAny_bind (wpAny_setEntries_of S.here rfl S.fits ?_);simp only[bne_self_eq_false,Bool.false_eq_true,↓reduceIte];have hlen:=W.length;cases W with
 | text hB =>
  subst hf;dsimp only;rw[DX];refine wpAny_bind (wpAny_bind (wpAny_setState_of S.here rfl S.fits ?_));refine wpAny_bind (BF ?_);refine ZN hB ?_;simp only[↓reduceIte,Int.toNat_natCast,bne_self_eq_false,Bool.false_eq_true];rw[GJ];refine wpAny_bind (wpAny_bind (wpAny_setState_of S.here rfl S.fits ?_));refine wpAny_bind (BF ?_);refine ZN hB ?_;refine wpAny_bind (wpAny_askSetting (wpAny_pure (wpAny_pure ?_)));have he:(pickOrder (w.params.setOrder a ep) es)[es.size]? = none:=by
   refine ZO (Array.getElem?_toList).symm ?_;exact List.getElem?_eq_none (Nat.le_of_eq hlen)
  show wpAny _ _ (match ((pickOrder (w.params.setOrder a ep) es)[es.size]?).map (λe=>(e.2,(0:Int).toNat))with | some (x,next)=>_ | none=>_) _ _ _;refine ZN he ?_;exact FK hh (Heap.SameBut.refl ..) ho hd (by simp) hQ
 | @drawn T pl hB hp hT2 perm =>
  subst hf;refine wpAny_bind (wpAny_seqItems hT2 rfl ?_);dsimp only;have e1:(pl.map λ(i:Nat)=>rawInt i).toArray[((es.size:Int).toNat)]? = none:=by
   rw[ZF]at hlen;simp[hlen]
  refine ZN e1 ?_;dsimp only;obtain⟨o2,g2,c2,d2⟩:=CR 0 (rawInt 0) ho hd;refine wpAny_bind (wpAny_setField ho hd (by simp) ?_);exact FK hh (Heap.SameBut.update ..) g2 d2 (by simp) hQ
 | led hB hp =>
  have hps:=S.size
  have hslot:∃ sl:Nat,f=.int (sl:Int) 0/\SetTable.below t.place sl=es.size:=by
   by_cases h0:es.size=0
   ·refine⟨0,by refine ZO hf ?_;dsimp only;refine ZO (if_pos h0) ?_;rfl,Dk (Nat.le_of_eq hps.symm) (λj hj=>absurd hj (Zp (le_of_eq_of_le h0 (Zm _)))) λj _=>Nat.not_lt_zero _⟩
   ·refine⟨t.place.getD (es.size - 1) 0+1,by refine ZO hf ?_;dsimp only;exact if_neg h0,Dk (Nat.le_of_eq hps.symm) (λj hj=>?_) λj hj=>?_⟩
    ·have hj2:j<t.place.size:=lt_of_lt_of_eq hj hps.symm
     have e1:t.place.getD j (t.place.getD (es.size - 1) 0+1)=t.place[j]:=by simp[Array.getD,hj2]
     have e2:t.place.getD (es.size - 1) 0=t.place[es.size - 1]'(by exact Zd (Nat.sub_lt (Nat.pos_of_ne_zero h0) (Za rfl)) (Nat.le_of_eq hps.symm)):=by simp[Array.getD,show es.size - 1<t.place.size by exact Zd (Nat.sub_lt (Nat.pos_of_ne_zero h0) (Za rfl)) (Nat.le_of_eq hps.symm)]
     refine ZN e1 ?_;refine ZN e2 ?_
     by_cases q:j=es.size - 1
     ·subst q;exact Zo _
     ·exact Zi (S.rises j (es.size - 1) (Zu (Nat.le_sub_one_of_lt hj) q) (Zd (Nat.sub_lt (Nat.pos_of_ne_zero h0) (Za rfl)) (Nat.le_of_eq hps.symm)))
    ·have hj2:¬ j<t.place.size:=Zp (le_of_eq_of_le hps hj)
     have e1:t.place.getD j (t.place.getD (es.size - 1) 0+1)=t.place.getD (es.size - 1) 0+1:=by simp[Array.getD,hj2]
     refine ZN e1 ?_;exact Nat.lt_irrefl _
  obtain⟨sl,rfl,hsl⟩:=hslot;dsimp only;rw[DX];refine wpAny_bind (wpAny_bind (wpAny_setState_of S.here rfl S.fits ?_));refine wpAny_bind (BF ?_);refine ZN hB ?_;simp only[Bool.false_eq_true,↓reduceIte,hp,S.led hB,Bool.not_true,Bool.false_and];refine wpAny_bind (wpAny_pure ?_);have e1:es[es.size]? = none:=Array.getElem?_eq_none (Zg _);simp only[Int.toNat_natCast,hsl,e1];refine wpAny_pure ?_;exact FK hh (Heap.SameBut.refl ..) ho hd (by simp) hQ
theorem LJ (hh:A.handled=none)(hIa:I≠a)(hIT:I∉Ts):Walks prog w A I (I::a::Ts) [I] es.size (λi v=>∃ e,ord[i]? = some e/\v=e.2) (λi h=>Hu h I a es.size ep first i/\SetLook w h a es ep t/\SetWay w h a es ep t ord first Ts) where
 sub:=λb hb=>by simp at hb;simp[hb]
 frame:=λi h h' st hk=>by
  obtain⟨⟨f,hf,o,ho,hc,hd⟩,S,W⟩:=st;exact⟨⟨f,hf,o,hk I (.head _) o ho,hc,hd⟩,S.at λo e=>hk a (.tail _ (.head _)) o e,W.at λb hb o e=>hk b (.tail _ (.tail _ hb)) o e⟩
 item:=λi s Q E hi st hQ=>by
  refine Fe st.2.1 st.2.2 st.1 hi λe h' he hit hsb=>?_
  refine hQ e.2 h' s.toks ⟨e,he,rfl⟩ ⟨hit,st.2.1.at λo q=>(hsb.2 a (Ne.symm hIa)).trans q,st.2.2.at λb hb o q=>(hsb.2 b λz=>hIT (z▸hb)).trans q⟩ λb o hb q=>(hsb.2 b λz=>hb (by simp[z])).trans q
 done:=λs Q E st hQ=>GL hh st.2.1 st.2.2 st.1 λh' he'=>hQ h' s.toks λb o hb e=>he' b o (λz=>hb (by simp[z])) e
 self:=λi s Q E st hQ=>by
  obtain⟨⟨f,hf,o,ho,hc,hd⟩,_,_⟩:=st;have hT:s.TypeIs (.ref I) "set_iterator":=⟨_,ho,hc⟩
  refine wpAny_pyIter_slot hT CH (wpAny_call_entry CH hT DM ?_ (DD _));exact wpAny_pure ⟨_,rfl,"set_iterator",_,hT,slot_set_iterator_next.lookup,hQ⟩
end
section
variable {prog:Program} {w:World} {A:Around} {E:Value->Shared->Prop} {s:Shared} {a:Addr} {es:Array (Int×Value)} {ep:Nat} {t:SetTable}
theorem M2 {Q:Bool->Shared->Prop}(hT:s.TypeIs (.ref a) "set")(h:Q false s):wpAny (model prog w) A (Builtin.List.listLengthHint (.ref a)) Q E s:=by
 refine wpAny_bind (wpAny_specialOf hT F.slot_set_len.lookup ?_);generalize hid:("set.__len__":String)=id0
 wp_delta
 refine ZN (show splitId id0=some ("set","__len__")from by subst hid;decide +kernel) ?_;subst hid;refine wpAny_bind (wpAny_isInstance (T:="set") (b:=true) hT (by rw[isSubtype_type];kernel_rfl) ?_);refine wpAny_ite_split (λhab=>absurd hab (by decide)) (λ_=>?_);refine wpAny_ite_split (λ_=>?_) (λhab=>absurd (by decide +kernel) hab);refine wpAny_bind (wpAny_typeOf hT ?_);exact wpAny_pure h
theorem Ij {R:List Value->Shared->Prop}(hh:A.handled=none)(S:SetLook w s.heap a es ep t)(hz:es.size<=4096)
  (h:∀ (h':Heap) (tk:Nat) (d:Drawn) (ord:List (Int×Value)),(∀ b o,s.heap.get? b=some o->h'.get? b=some o)->ord.Perm es.toList->R (ord.map (·.2)) { s with heap:=h',toks:=tk,drawn:=d }) :
  wpAny (model prog w) A (collect (.ref a)) R E s:=by
 have hla:a<s.heap.objs.size:=Heap.lt_size S.here;refine wpAny_bind (wpAny_runValue (codeAny_builtin entry_proto_collect' ?_));refine ZN (Around.under_plainId PySem.F.plain_proto_collect _) ?_;show wpAny _ A.in1 (newList [] >>= λl=>again (.builtin "list.__iadd__" ⟨[l,.ref a],[]⟩)) _ _ s;refine wpAny_bind (wpAny_newObj_type ?_);refine wpAny_pure ⟨plainId_quiet PySem.F.plain_list_iadd _,codeAny_builtin entry_list_iadd' ?_⟩;refine ZN (Around.under_plainId PySem.F.plain_list_iadd _) ?_;have hS₁:(s.heap.push { cls:=.type "list",data:=.seq ([]:List Value).toArray }).get? s.heap.objs.size=some { cls:=.type "list",dict:=none,data:=.seq #[],slots:=#[] }:=Heap.get?_push_size _ rfl
 have S1:SetLook w (s.heap.push { cls:=.type "list",data:=.seq ([]:List Value).toArray }) a es ep t:=S.at λo e=>Heap.get?_push_of_some _ e
 have hT1:Shared.TypeIs { s with heap:=s.heap.push { cls:=.type "list",data:=.seq ([]:List Value).toArray } } (.ref a) "set":=⟨_,S1.here,rfl⟩
 show wpAny _ A.in1 (Builtin.List.listExtendWith (.ref s.heap.objs.size) (.ref a) (.ref s.heap.objs.size)) _ _ _;refine wpAny_bind (wpAny_typeOf hT1 ?_);have h1:Builtin.List.listSameRef (.ref s.heap.objs.size) (.ref a)=false:=by simp[Builtin.List.listSameRef,Zf hla]
 rw[if_neg (by rw[h1];decide)];refine wpAny_bind (Jn S1 hz λh' d I ord first Ts kp hI1 hI2 S2 W perm hit=>?_);have hT2:Shared.TypeIs { s with heap:=h',drawn:=d } (.ref a) "set":=⟨_,S2.here,rfl⟩
 refine wpAny_bind (wpAny_holding (M2 hT2 ?_));rw[Heap.size_push]at hI1;have hSg:h'.get? s.heap.objs.size=some { cls:=.type "list",dict:=none,data:=.seq #[],slots:=#[] }:=kp _ _ hS₁
 have hIT:I∉Ts/\s.heap.objs.size∉Ts:=by
  cases W with
  | text=>simp
  | led=>simp
  | drawn x y z p =>
   simp only[List.mem_singleton];refine⟨λe=>?_,λe=>?_⟩
   ·subst e;replace z:=ZO hit.symm z;simp at z
   ·subst e;replace z:=ZO hSg.symm z;simp at z
 have Wk:=LJ (prog:=prog) (w:=w) (A:=A.in1) (I:=I) (a:=a) (es:=es) (ep:=ep) (t:=t) (ord:=ord) (first:=first) (Ts:=Ts) hh (Zf (Zd (Zi hla) hI1)) hIT.1
 have hsub:∀ b∈I::a::Ts,b≠s.heap.objs.size:=λb hb=>by
  rcases Zz hb with rfl | hb
  ·exact Ne.symm (Zk (Zd (Zo _) hI1))
  ·rcases Zz hb with rfl | hb
   ·exact Zk hla
   ·exact λe=>hIT.2 (e▸hb)
 have hSf:s.heap.objs.size∉I::a::Ts:=λq=>hsub _ q rfl
 have fin:∀ (h2:Heap) (c2:Nat),(∀ b o,b≠s.heap.objs.size->h'.get? b=some o->h2.get? b=some o)->h2.get? s.heap.objs.size=some { cls:=.type "list",dict:=none,data:=.seq #[] c2,slots:=#[] } ->
   ∀ {P:Result->Shared->Prop},(∀ h3 tk acc c3,(∀ b o,s.heap.get? b=some o->h3.get? b=some o)->h3.get? s.heap.objs.size=some { cls:=.type "list",dict:=none,data:=.seq acc c3,slots:=#[] }->ItemsOf (λi v=>∃ e,ord[i]? = some e/\v=e.2) acc es.size ->
    P (.ok (.ret (.ref s.heap.objs.size))) { s with heap:=h3,toks:=tk,drawn:=d })->codeAny (model prog w) A (.builtin "list.extend.loop" ⟨[.ref s.heap.objs.size,.ref I,.ref s.heap.objs.size],[]⟩) P { s with heap:=h2,drawn:=d }:=by
  intro h2 c2 k2 g2 P hP;refine codeAny_extend_loopS Wk.toS (by refine ZN sizeLine_eq ?_;exact Zc hz (Za rfl)) s.heap.objs.size hSf _ es.size 0 _ #[] c2 rfl (Zm _) (Wk.frame 0 h' h2 (⟨⟨_,rfl,_,hit,rfl,rfl⟩,S2,W⟩) λb hb o e=>k2 b o (hsub b hb) e) g2 (ItemsOf.nil _) λs' acc' c' hm hS' hacc=>?_
  refine ZN (Moved.eq_with hm) ?_;refine hP s'.heap s'.toks acc' c' (λb o e=>hm.heap b o (λhmem=>?_) (k2 b o (Zk (Heap.lt_size e)) (kp b o (Heap.get?_push_of_some _ e)))) hS' hacc;have hb:=Heap.lt_size e;rcases Zz hmem with e' | hmem
  ·exact absurd hb (by refine ZN e' ?_;exact Nat.lt_irrefl _)
  ·rw[Zx hmem]at hb;exact absurd (Zb hI1 hb) (Zp (Zj (Zg _)))
 have done:∀ (h3:Heap) (tk:Nat) (acc:Array Value) (c3:Nat),(∀ b o,s.heap.get? b=some o->h3.get? b=some o)->h3.get? s.heap.objs.size=some { cls:=.type "list",dict:=none,data:=.seq acc c3,slots:=#[] }->ItemsOf (λi v=>∃ e,ord[i]? = some e/\v=e.2) acc es.size ->
   R acc.toList { s with heap:=h3,toks:=tk,drawn:=d }:=by
  intro h3 tk acc c3 b1 b2 b3;have:acc.toList=ord.map (·.2):=by
   apply List.ext_getElem (by refine ZO Array.length_toList ?_;refine ZO b3.1 ?_;rw[ZF,(W.length)]);intro i q1 q2;have hi:i<acc.size:=by simpa using q1
   obtain⟨e,e1,e2⟩:=b3.2 i acc[i] (Array.getElem?_eq_getElem hi);have hi2:i<ord.length:=by simpa using q2
   replace e1:=ZO (ZI hi2).symm e1;injection e1 with e1
   rw[List.getElem_map];refine ZN e1 ?_;refine ZN e2.symm ?_;rw[Array.getElem_toList]
  refine ZN this ?_;exact h h3 tk d ord b1 perm
 have out:∀ (h3:Heap) (tk:Nat) (acc:Array Value) (c3:Nat),(∀ b o,s.heap.get? b=some o->h3.get? b=some o)->h3.get? s.heap.objs.size=some { cls:=.type "list",dict:=none,data:=.seq acc c3,slots:=#[] }->ItemsOf (λi v=>∃ e,ord[i]? = some e/\v=e.2) acc es.size ->
   wpAny (model prog w) A (load s.heap.objs.size >>= λo=>match o.data with | .seq xs _=>pure xs.toList | _=>unsupported "internal:collect") R E { s with heap:=h3,toks:=tk,drawn:=d }:=by
  intro h3 tk acc c3 b1 b2 b3;exact wpAny_bind (wpAny_load b2 (wpAny_pure (done h3 tk acc c3 b1 b2 b3)))
 refine wpAny_ite_split (λ_=>?_) (λ_=>wpAny_pure ⟨plainId_quiet PySem.F.plain_extend_loop _,fin h' _ (λb o _ e=>e) hSg λh3 tk acc c3 b1 b2 b3=>out h3 tk acc c3 b1 b2 b3⟩);refine wpAny_bind (wpAny_rule ?_);refine wpAny_bind ?_;refine wpAny_bind (wpAny_updateSeq hSg rfl ?_);have hS₂:=Heap.get?_update_self (Obj.mapSeq (·.push Value.none)) hSg rfl;refine wpAny_updateSeq (hz:=by seq_fits) hS₂ rfl ?_;exact wpAny_pure ⟨plainId_quiet PySem.F.plain_extend_loop _,fin _ _ (λb o hb e=>(Heap.get?_update_other _ _ (Ne.symm hb)).trans ((Heap.get?_update_other _ _ (Ne.symm hb)).trans e)) (Heap.get?_update_self (Obj.mapSeq (·.pop)) hS₂ rfl) λh3 tk acc c3 b1 b2 b3=>out h3 tk acc c3 b1 b2 b3⟩
end
theorem rises_iff {xs:Array Nat}:CN xs↔xs.toList.Pairwise (· < ·):=by
 rw[List.pairwise_iff_getElem];constructor
 ·intro h i j hi hj hij
  have:=h i j hij (by simpa using hj);simpa using this
 ·intro h i j hij hj
  have:=h i j (by simp;exact Ze hij hj) (by simpa using hj) hij;simpa using this
theorem Cu (n:Nat):CN (Array.range n):=by
 intro i j hij hj;simp at hj ⊢;exact hij
theorem EV {xs:Array Nat}(hr:CN xs)(j:Nat):SetTable.below xs j<=xs.size/\(∀ i,∀ (h:i<xs.size),i<SetTable.below xs j->xs[i]<j)/\(∀ i,∀ (h:i<xs.size),SetTable.below xs j<=i->j<=xs[i]):=by
 obtain⟨k,hk,h1,h2⟩:∃ k,k<=xs.size/\(∀ i,∀ (h:i<xs.size),i<k->xs[i]<j)/\(∀ i,∀ (h:i<xs.size),k<=i->j<=xs[i]):=by
  suffices h:∀ n,n<=xs.size->∃ k,k<=n/\(∀ i,∀ (h:i<xs.size),i<k->xs[i]<j)/\(∀ i,∀ (h:i<xs.size),k<=i->i<n->j<=xs[i]) by
   obtain⟨k,a,b,c⟩:=h xs.size (Zg _);exact⟨k,a,b,λi hi hk=>c i hi hk hi⟩
  intro n
  induction n with
  | zero=>intro _;exact⟨0,Zg _,λi _ h=>absurd h (Nat.not_lt_zero _),λi _ _ h=>absurd h (Nat.not_lt_zero _)⟩
  | succ n ih =>
   intro hn;obtain⟨k,a,b,c⟩:=ih (Zl hn)
   by_cases q:xs[n]<j
   ·refine⟨n+1,Zg _,λi hi hin=>?_,λi hi h1 h2=>absurd h2 (Zp h1)⟩
    by_cases e:i=n
    ·subst e;exact q
    ·exact Ze (hr i n (Zu (Zr hin) e) (by assumption)) q
   ·refine⟨k,Zj a,b,λi hi h1 h2=>?_⟩
    by_cases e:i=n
    ·subst e;lia
    ·exact c i hi h1 (Zu (Zr h2) e)
 have:SetTable.below xs j=k:=Dk hk (λi hi=>by
   have hi2:i<xs.size:=Zd hi hk;simp only[Array.getD,hi2,dif_pos];exact h1 i hi2 hi) λi hi=>by
   by_cases hi2:i<xs.size
   ·simp only[Array.getD,hi2,dif_pos]
    exact Nat.not_lt.mpr (h2 i hi2 hi)
   ·simp only[Array.getD,hi2,dif_neg,not_false_eq_true]
    exact Nat.lt_irrefl _
 refine ZN this ?_;exact⟨hk,h1,h2⟩
theorem D6 {α:Type}(xs:Array α)(p:Nat)(x:α):(SetTable.insertAt xs p x).toList=xs.toList.take p++x::xs.toList.drop p:=by
 unfold SetTable.insertAt;simp[Array.toList_extract,List.extract_eq_take_drop];exact List.take_of_length_le (by simp)
theorem En {xs:Array Nat}(hr:CN xs){j:Nat}(hj:xs[SetTable.below xs j]?≠some j):CN (SetTable.insertAt xs (SetTable.below xs j) j):=by
 obtain⟨b1,b2,b3⟩:=EV hr j;generalize SetTable.below xs j=k at *;refine rises_iff.mpr ?_;rw[D6];have hp:=rises_iff.mp hr;refine List.pairwise_append.mpr ?_;refine⟨hp.take,List.pairwise_cons.mpr ⟨λy hy=>?_,hp.drop⟩,λy hy z hz=>?_⟩
 ·obtain⟨i,hi,rfl⟩:=List.getElem_of_mem hy
  refine ZN List.getElem_drop ?_;rw[List.length_drop]at hi;have hlt:k+i<xs.size:=by simp at hi;exact Nat.add_lt_of_lt_sub' hi
  have h3:=b3 (k+i) hlt (Zt _ _);rw[Array.getElem_toList];rcases Nat.lt_or_ge j xs[k+i]with h | h
  ·exact h
  ·exfalso
   have e:xs[k+i]=j:=Zv h h3
   have hk:k<xs.size:=Zb (Zt _ _) hlt
   have h4:=b3 k hk (Zg _)
   have e2:i=0:=by
    rcases Nat.eq_zero_or_pos i with h5 | h5
    ·exact h5
    ·have:=hr k (k+i) (by lia) hlt;lia
   subst e2;apply hj;refine ZO (Array.getElem?_eq_getElem hk) ?_;simp at e;rw[e]
 ·obtain⟨i,hi,rfl⟩:=List.getElem_of_mem hy
  rw[List.length_take]at hi;have hlt:i<xs.size:=by simp at hi;exact Zd hi (Nat.min_le_right _ _)
  have hik:i<k:=Zd hi (Nat.min_le_left _ _)
  have h2:=b2 i hlt hik;refine ZN List.getElem_take ?_;rw[Array.getElem_toList];rcases Zz hz with rfl | hz
  ·exact h2
  ·obtain⟨m,hm,rfl⟩:=List.getElem_of_mem hz
   rw[List.length_drop]at hm;have hlt2:k+m<xs.size:=by simp at hm;exact Nat.add_lt_of_lt_sub' hm
   refine ZN List.getElem_drop ?_;rw[Array.getElem_toList];exact Zd h2 (b3 _ hlt2 (Zt _ _))
noncomputable def C3 (t:SetTable) (j:Nat):Prop:=t.place[SetTable.below t.place j]?≠some j
theorem F0 {t:SetTable}{j:Nat}(h:∀ i,t.slot j≠.live i):C3 t j:=λe=>by
 apply h (SetTable.below t.place j);unfold SetTable.slot;dsimp only;refine ZN e ?_;simp
theorem Hv {t:SetTable}{hashAt:Nat->Int}{hh:Int}:∀ (fuel:Nat)(p:SetTable.Probe)(j:Nat)(dm:Option Nat),(∀ x,p.dummy=some x->C3 t x)->SetTable.probe.go t hashAt hh fuel p=some (.empty j dm)->C3 t j/\∀ x,dm=some x->C3 t x:=by
 intro fuel
 induction fuel with
 | zero=>intro p j dm _ h;unfold SetTable.probe.go at h;cases h
 | succ fuel ih =>
  intro p j dm hd h;unfold SetTable.probe.go at h;have adv:∀ q:SetTable.Probe,(t.advance q).dummy=q.dummy:=λq=>by
   unfold SetTable.advance
   split <;> rfl
  split at h
  ·rename_i e
   cases h;exact⟨F0 (λi q=>by replace q:=ZO e.symm q;cases q),hd⟩
  ·rename_i e
   refine ih _ j dm (λx hx=>?_) h;rw[adv]at hx;cases hx;exact F0 λi q=>by replace q:=ZO e.symm q;cases q
  ·split at h
   ·cases h
   ·exact ih _ j dm (λx hx=>hd x (by rw[adv]at hx;exact hx)) h
set_option tactic.hygienic true in
theorem Ff {t:SetTable}{hh:Int}{j:Nat}{b:Bool}(h:t.freeSlot hh=some (j,b)):C3 t j:=by
 unfold SetTable.freeSlot at h
 split at h
 ·rename_i j' dm e
  cases h;have:=Hv _ _ j' dm (λx hx=>by unfold SetTable.probeStart at hx;cases hx) e;cases dm with
  | none=>exact this.1
  | some x=>exact this.2 x rfl
 ·cases h
set_option tactic.hygienic true in
theorem Hw {t:SetTable}{es:Array (Int×Value)}{hh:Int}{x:Value}(hr:CN t.place):CN (layNew t es hh x).2.1.place:=by
 unfold layNew
 split
 ·rename_i slot wd e
  show CN (SetTable.orStandIn (t.put slot).1 _).place;unfold SetTable.orStandIn
  split
  ·exact En hr (Ff e)
  ·exact Cu _
 ·exact Cu _
theorem GN {mask finger moves:Nat}{led plain:Bool}{hashes:Array Int}{t:SetTable}{o:Array Nat}(h:SetTable.laid mask finger moves led plain hashes=some (t,o)):CN t.place:=by
 unfold SetTable.laid at h;simp only[Option.bind_eq_bind,Option.bind_eq_some_iff,Option.pure_def,Option.some.injEq,Prod.mk.injEq]at h;obtain⟨owner,_,rfl,_⟩:=h;refine rises_iff.mpr ?_;refine ZN List.toList_toArray ?_;refine ZN List.map_filterMap ?_;have hs:List.Pairwise (· < ·) ((List.range (mask+1)).filterMap λj=>((owner.getD j none).map (j,·)).map (·.1)):=by
  refine List.pairwise_filterMap.mpr ?_;refine List.Pairwise.imp (λ{a b} hab=>?_) List.pairwise_lt_range;intro x hx y hy;cases q1:owner.getD a none with
  | none=>rw[q1]at hx;cases hx
  | some k1 =>
   cases q2:owner.getD b none with
   | none=>rw[q2]at hy;cases hy
   | some k2 =>
    rw[q1]at hx;rw[q2]at hy;cases hx;cases hy;exact hab
 exact hs
set_option tactic.hygienic true in
theorem GO {t:SetTable}{es:Array (Int×Value)}{n:Nat}:CN (relayAll t es n).2.1.place:=by
 unfold relayAll
 split
 ·rename_i t' order e
  dsimp only
  split
  ·exact GN e
  ·exact Cu _
 ·exact Cu _
end Mine.Internal
namespace Mine.Internal
open PySem
noncomputable def itF (M:Nat):Nat->Nat->Nat
 | 0,i=>i
 | m+1,i=>itF M m ((i * 5+1) % M)
noncomputable def C6 (mask:Nat):Nat->Nat×Nat->Nat×Nat
 | 0,p=>p
 | m+1,p=>C6 mask m (SetTable.leap mask p.1 p.2)
theorem HR (mask:Nat):∀ a b p,C6 mask (a+b) p=C6 mask b (C6 mask a p)
 | 0,b,p=>by rw[Nat.zero_add];rfl
 | a+1,b,p=>by rw[Nat.add_right_comm];exact HR mask a b _
theorem EH (mask:Nat):∀ m p,(C6 mask m p).2=p.2 / 32 ^ m
 | 0,p=>by simp[C6]
 | m+1,p=>by
  show (C6 mask m (SetTable.leap mask p.1 p.2)).2=_;rw[EH mask m];show p.2 / 32 / 32 ^ m=_;rw[Nat.div_div_eq_div_mul,Nat.pow_succ,Nat.mul_comm]
theorem GP (mask:Nat):∀ m i,C6 mask m (i,0)=(itF (mask+1) m i,0)
 | 0,i=>rfl
 | m+1,i=>by
  show C6 mask m (SetTable.leap mask i 0)=_
  have:SetTable.leap mask i 0=((i * 5+1) % (mask+1),0):=by simp[SetTable.leap]
  refine ZN this ?_;rw[GP mask m];rfl
theorem Nc:∀ i:Fin 8,∀ j:Fin 8,∃ m:Fin 8,itF 8 m i=j:=by decide +kernel
theorem M3:∀ i:Fin 32,∀ j:Fin 32,∃ m:Fin 32,itF 32 m i=j:=by decide +kernel
theorem Ik {mask:Nat}:∀ m p,p.1<mask+1->(C6 mask m p).1<mask+1
 | 0,p,h=>h
 | m+1,p,h=>Ik m _ (Nat.mod_lt _ (Zh (Zm _)))
noncomputable abbrev DY (mask:Nat):Prop:=mask=7\/mask=31
theorem F1 {mask i pt j:Nat}(hm:DY mask)(hi:i<mask+1)(hj:j<mask+1)(hp:pt<2 ^ 64):∃ m,m<=13+mask/\(C6 mask m (i,pt)).1=j:=by
 have h0:(C6 mask 13 (i,pt)).2=0:=by
  rw[EH];exact Nat.div_eq_of_lt (Ze hp (by decide))
 have hl:=Ik (mask:=mask) 13 (i,pt) hi;generalize hq:C6 mask 13 (i,pt)=q at h0 hl;obtain⟨a,b⟩:=q;dsimp only at h0 hl;subst h0;have:∃ m,m<mask+1/\itF (mask+1) m a=j:=by
  rcases hm with rfl | rfl
  ·obtain⟨m,h⟩:=Nc ⟨a,hl⟩ ⟨j,hj⟩;exact⟨m,m.2,h⟩
  ·obtain⟨m,h⟩:=M3 ⟨a,hl⟩ ⟨j,hj⟩;exact⟨m,m.2,h⟩
 refine eX1 (this) λm zz=>aN2 zz λh1 h2=>?_
 refine⟨13+m,Nat.add_le_add_left (Zr h1) _,?_⟩;rw[HR];refine ZN hq ?_;rw[GP];exact h2
noncomputable def adv (t:SetTable):Nat->SetTable.Probe->SetTable.Probe
 | 0,p=>p
 | k+1,p=>adv t k (t.advance p)
theorem CI (t:SetTable):∀ a b p,adv t (a+b) p=adv t b (adv t a p)
 | 0,b,p=>by rw[Nat.zero_add];rfl
 | a+1,b,p=>by rw[Nat.add_right_comm];exact CI t a b _
noncomputable def FM (t:SetTable) (p:SetTable.Probe):Prop:=p.j=p.i/\p.more=SetTable.runEnd t.mask p.i - p.i
theorem LK (mask i:Nat):SetTable.runEnd mask i - i<=9:=by
 unfold SetTable.runEnd;split <;> lia
theorem K7 (t:SetTable):∀ n p,p.more=n->FM t (adv t (n+1) p)/\((adv t (n+1) p).i,(adv t (n+1) p).perturb)=SetTable.leap t.mask p.i p.perturb:=by
 intro n
 induction n with
 | zero =>
  intro p hp;have:t.advance p={ p with j:=(SetTable.leap t.mask p.i p.perturb).1,more:=SetTable.runEnd t.mask (SetTable.leap t.mask p.i p.perturb).1 - (SetTable.leap t.mask p.i p.perturb).1,i:=(SetTable.leap t.mask p.i p.perturb).1,perturb:=(SetTable.leap t.mask p.i p.perturb).2 }:=by
   unfold SetTable.advance;exact if_neg (by lia)
  show FM t (t.advance p)/\((t.advance p).i,(t.advance p).perturb)=_;refine ZN this ?_;exact⟨⟨rfl,rfl⟩,rfl⟩
 | succ n ih =>
  intro p hp;have e:t.advance p={ p with j:=p.j+1,more:=p.more - 1 }:=by unfold SetTable.advance;exact if_pos (lt_of_lt_of_eq (Zb (Zm _) (Zo _)) hp.symm)
  have:=ih (t.advance p) (by refine ZN e ?_;show p.more - 1=n;exact Zv (Nat.sub_le_of_le_add (Nat.le_of_eq hp)) (Nat.le_sub_one_of_lt (lt_of_lt_of_eq (Zo _) hp.symm)));refine⟨this.1,?_⟩;show ((adv t (n+1) (t.advance p)).i,(adv t (n+1) (t.advance p)).perturb)=_;refine ZO this.2 ?_;rw[e]
theorem LL (t:SetTable):∀ m p,FM t p->∃ k,k<=10 * m/\FM t (adv t k p)/\((adv t k p).i,(adv t k p).perturb)=C6 t.mask m (p.i,p.perturb):=by
 intro m
 induction m with
 | zero=>intro p hp;exact⟨0,Zg _,hp,rfl⟩
 | succ m ih =>
  intro p hp;obtain⟨h1,h2⟩:=K7 t p.more p rfl;refine eX1 (ih _ h1) λk zz=>aN3 zz λa b c=>?_
  have:=LK t.mask p.i;refine⟨p.more+1+k,by refine ZN hp.2 ?_;lia,?_,?_⟩
  ·rw[CI];exact b
  ·rw[CI];refine ZO c ?_;refine ZN h2 ?_;rfl
theorem DN (t:SetTable)(p:SetTable.Probe):(t.advance p).dummy=p.dummy:=by unfold SetTable.advance;split <;> rfl
structure TabOk (t:SetTable) (n:Nat):Prop where
 size:t.place.size=n
 dum:t.dummies = #[]
 mask:DY t.mask
 rises:CN t.place
 le:∀ i,∀ (h:i<t.place.size),t.place[i]<=t.mask
 room:n * 5<t.mask * 3
theorem Dz {t:SetTable}(hd:t.dummies = #[])(j:Nat):t.slot j=if t.place[SetTable.below t.place j]? = some j then .live (SetTable.below t.place j)else .empty:=by
 unfold SetTable.slot;dsimp only
 by_cases q:t.place[SetTable.below t.place j]? = some j
 ·refine ZN (if_pos q) ?_;exact if_pos (by refine ZN q ?_;simp)
 ·refine ZN (if_neg q) ?_;refine ZO (if_neg (by simpa using q)) ?_;exact if_neg (by refine ZN hd ?_;simp[SetTable.has])
theorem EW {t:SetTable}(hd:t.dummies = #[]){j:Nat}:t.slot j=.empty↔C3 t j:=by
 rw[Dz hd];unfold C3
 by_cases q:t.place[SetTable.below t.place j]? = some j
 ·refine ZN (if_pos q) ?_;simp[q]
 ·refine ZN (if_neg q) ?_;simp[q]
theorem HS {t:SetTable}{j:Nat}(h:∀ i,∀ (hi:i<t.place.size),t.place[i]≠j):C3 t j:=by
 intro e;obtain⟨hi,e⟩:=Array.getElem?_eq_some_iff.mp e;exact h _ hi e
theorem PY {t:SetTable}(hd:t.dummies = #[]){j i:Nat}(h:t.slot j=.live i):i<t.place.size:=by
 rw[Dz hd]at h
 split at h
 ·rename_i q
  cases h;exact (Array.getElem?_eq_some_iff.mp q).1
 ·cases h
theorem Il {xs:Array Nat}(hr:CN xs):∀ m,(∀ j,j<=m->∃ i,∃ (h:i<xs.size),xs[i]=j)->∃ i,∃ (h:i<xs.size),xs[i]=m/\m<=i:=by
 intro m
 induction m with
 | zero=>intro h;obtain⟨i,hi,e⟩:=h 0 (Zg _);exact⟨i,hi,e,Zm _⟩
 | succ m ih =>
  intro h;obtain⟨i,hi,e,q⟩:=ih λj hj=>h j (Zj hj)
  obtain⟨k,hk,e2⟩:=h (m+1) (Zg _);refine⟨k,hk,e2,?_⟩;rcases Nat.lt_or_ge i k with z | z
  ·exact Zw (Zb q z)
  ·exfalso
   rcases Nat.lt_or_ge k i with z2 | z2
   ·have:=hr k i z2 hi;lia
   ·have:k=i:=Zv z z2
    subst this;lia
theorem TabOk.vacant {t:SetTable}{n:Nat}(T:TabOk t n):∃ j,j<t.mask+1/\C3 t j:=by
 apply Classical.byContradiction;intro hn;have hall:∀ j,j<=t.mask->∃ i,∃ (h:i<t.place.size),t.place[i]=j:=by
  intro j hj;apply Classical.byContradiction;intro q;exact hn ⟨j,Zh hj,HS λi hi e=>q ⟨i,hi,e⟩⟩
 obtain⟨i,hi,e,q⟩:=Il T.rises t.mask hall;have:=T.size
 have:=T.room;lia
theorem TabOk.start {t:SetTable}{n:Nat}(T:TabOk t n)(h:Int):∃ k,k<10 * SetTable.turns t.mask/\t.slot (adv t k (t.probeStart h)).j=.empty:=by
 refine eX1 (T.vacant) λj zz=>aN2 zz λhj v=>?_
 have hs:FM t (t.probeStart h):=⟨rfl,rfl⟩
 have hb:SetTable.bits h<2 ^ 64:=by
  unfold SetTable.bits;lia
 refine eX1 (F1 (mask:=t.mask) (i:=(t.probeStart h).i) (pt:=(t.probeStart h).perturb) T.mask (Nat.mod_lt _ (Zh (Zm _))) hj hb) λm zz=>aN2 zz λhm e=>?_
 refine eX1 (LL t m _ hs) λk zz=>aN3 zz λhk st e2=>?_
 refine⟨k,?_,?_⟩
 ·unfold SetTable.turns;lia
 ·refine ZN st.1 ?_;refine (EW T.dum).mpr ?_
  have:(adv t k (t.probeStart h)).i=j:=by rw[<- e,<- e2]
  refine ZN this ?_;exact v
theorem Pu {t:SetTable}(hd:t.dummies = #[]){hashAt:Nat->Int}{hh:Int}:∀ (k fuel:Nat)(p:SetTable.Probe),k<fuel->t.slot (adv t k p).j=.empty ->
  (∃ j,SetTable.probe.go t hashAt hh fuel p=some (.empty j p.dummy)/\t.slot j=.empty) \/
  (∃ j i next k',SetTable.probe.go t hashAt hh fuel p=some (.candidate j i next)/\t.slot j=.live i/\hashAt i=hh/\next.dummy=p.dummy/\k'<k/\t.slot (adv t k' next).j=.empty):=by
 intro k
 induction k with
 | zero =>
  intro fuel p hf he;cases fuel with
  | zero=>lia
  | succ fuel =>
  left;refine⟨p.j,?_,he⟩;unfold SetTable.probe.go;rw[show t.slot p.j=.empty from he]
 | succ k ih =>
  intro fuel p hf he;cases fuel with
  | zero=>lia
  | succ fuel =>
  unfold SetTable.probe.go;cases q:t.slot p.j with
  | empty=>left;exact⟨p.j,rfl,q⟩
  | dummy =>
   rw[Dz hd]at q
   split at q <;> cases q
  | live i =>
   dsimp only
   by_cases hq:(hashAt i == hh)=true
   ·refine ZN (if_pos hq) ?_
    right;exact⟨p.j,i,_,k,rfl,q,beq_iff_eq.mp hq,DN t p,Zo _,he⟩
   ·refine ZN (if_neg hq) ?_
    rcases ih fuel (t.advance p) (Nat.lt_of_succ_lt_succ hf) he with z0 | z0
    ·refine eX1 (z0) λj zz=>aN2 zz λa b=>?_
     left;rw[DN]at a;exact⟨j,a,b⟩
    ·refine eX4 (z0) λj i' next k' zz=>aN6 zz λa b c d e f=>?_
     right;rw[DN]at d;exact⟨j,i',next,k',a,b,c,d,Zh (Zl e),f⟩
theorem Jo {t:SetTable}(hd:t.dummies = #[])(j:Nat):t.put j=({ t with place:=SetTable.insertAt t.place (SetTable.below t.place j) j },SetTable.below t.place j):=by
 unfold SetTable.put;dsimp only;rw[if_neg (by rw[hd];simp[SetTable.has]),hd]
theorem EI {α:Type}(xs:Array α)(p:Nat)(x:α):(SetTable.insertAt xs p x).size=xs.size+1:=by
 refine ZO Array.length_toList.symm ?_;refine ZO ((SetTable.insertAt_perm xs p x).length_eq) ?_;refine ZO Array.length_toList ?_;rw[Array.size_push]
theorem insertAt_mem {α:Type}{xs:Array α}{p:Nat}{x y:α}:y∈(SetTable.insertAt xs p x).toList↔y∈xs.toList\/y=x:=by
 rw[(SetTable.insertAt_perm xs p x).mem_iff];refine ZN Array.toList_push ?_;rw[List.mem_append,List.mem_singleton]
structure TabPut (t t':SetTable) (n:Nat):Prop where
 size:t'.place.size=n+1
 dum:t'.dummies = #[]
 mask:t'.mask=t.mask
 rises:CN t'.place
 le:∀ i,∀ (h:i<t'.place.size),t'.place[i]<=t'.mask
 led:t'.led=t.led
 plain:t'.plain=t.plain
theorem TabOk.put {t:SetTable}{n:Nat}(T:TabOk t n){j:Nat}(v:C3 t j)(hj:j<=t.mask):TabPut t (t.put j).1 n:=by
 rw[Jo T.dum];refine⟨?_,T.dum,rfl,En T.rises v,λi h=>?_,rfl,rfl⟩
 ·show (SetTable.insertAt _ _ _).size=_
  rw[EI,T.size]
 ·have hm:(SetTable.insertAt t.place (SetTable.below t.place j) j)[i]'h∈(SetTable.insertAt t.place (SetTable.below t.place j) j).toList:=by
   refine Array.mem_toList_iff.mpr ?_;exact Array.getElem_mem h
  rcases insertAt_mem.mp hm with q | q
  ·obtain⟨k,hk,e⟩:=List.getElem_of_mem q
   show (SetTable.insertAt t.place (SetTable.below t.place j) j)[i]'h<=t.mask;refine ZN e.symm ?_;rw[Array.getElem_toList];exact T.le k (by simpa using hk)
  ·show (SetTable.insertAt t.place (SetTable.below t.place j) j)[i]'h<=t.mask
   refine ZN q ?_;exact hj
theorem TabPut.ok {t t':SetTable}{n:Nat}(T:TabOk t n)(P:TabPut t t' n)(h:t'.tooFull=false):TabOk t' (n+1):=by
 refine⟨P.size,P.dum,by refine ZN P.mask ?_;exact T.mask,P.rises,P.le,?_⟩;unfold SetTable.tooFull SetTable.fill at h;rw[P.size,P.dum]at h;simpa using h
noncomputable abbrev own (o:Array (Option Nat)) (j:Nat):Option Nat:=o.getD j none
structure Own (mask:Nat) (o:Array (Option Nat)) (k:Nat):Prop where
 size:o.size=mask+1
 lt:∀ j v,own o j=some v->v<k
 has:∀ v,v<k->∃ j,own o j=some v
 inj:∀ j j' v,own o j=some v->own o j'=some v->j=j'
 cnt:o.toList.countP Option.isNone=mask+1 - k
theorem M4 {o:Array (Option Nat)}{j:Nat}(h:(o.getD j (some 0)).isNone=true):∃ (hj:j<o.size),o[j]=none:=by
 by_cases q:j<o.size
 ·refine⟨q,?_⟩
  simp[Array.getD,q]at h;exact h
 ·simp[Array.getD,q]at h
theorem LM {mask:Nat}{o:Array (Option Nat)}:∀ m fuel i pt,m<fuel->(o.getD (C6 mask m (i,pt)).1 (some 0)).isNone=true->(C6 mask m (i,pt)).1<mask+1->i<mask+1 ->
  ∃ j,SetTable.layClean.free mask o fuel i pt=some j/\(o.getD j (some 0)).isNone=true:=by
 intro m
 induction m with
 | zero =>
  intro fuel i pt hf h h1 h2;cases fuel with
  | zero=>exact False.elim (Zp (Zg _) hf)
  | succ fuel =>
  unfold SetTable.layClean.free;have h:(o.getD i (some 0)).isNone=true:=h
  have:((List.range (SetTable.runEnd mask i+1 - i)).find? λk=>(o.getD (i+k) (some 0)).isNone).isSome=true:=by
   refine (List.find?_isSome).mpr ?_;refine⟨0,?_,by simpa using h⟩;refine List.mem_range.mpr ?_;unfold SetTable.runEnd;split <;> lia
  obtain⟨k,hk⟩:=Option.isSome_iff_exists.mp this;rw[hk];exact⟨i+k,rfl,by simpa using List.find?_some hk⟩
 | succ m ih =>
  intro fuel i pt hf h h1 h2;cases fuel with
  | zero=>exact False.elim (Zp (Zm _) hf)
  | succ fuel =>
  unfold SetTable.layClean.free;cases hk:(List.range (SetTable.runEnd mask i+1 - i)).find? λk=>(o.getD (i+k) (some 0)).isNone with
  | some k=>exact⟨i+k,rfl,by simpa using List.find?_some hk⟩
  | none=>exact ih fuel _ _ (by exact Nat.lt_of_succ_lt_succ hf) h h1 (Nat.mod_lt _ (Zh (Zm _)))
theorem Own.next {mask:Nat}{o:Array (Option Nat)}{k:Nat}(O:Own mask o k)(hm:DY mask)(hk:k<mask+1)(h:Int) :
  ∃ j,SetTable.layClean.free mask o (SetTable.turns mask) (SetTable.bits h % (mask+1)) (SetTable.bits h)=some j/\Own mask (o.setIfInBounds j (some k)) (k+1):=by
 have hc:0<o.toList.countP Option.isNone:=by refine ZN O.cnt ?_;exact Nat.sub_pos_of_lt hk
 replace hc:=List.countP_pos_iff.mp hc;obtain⟨x,hx,hn⟩:=hc;obtain⟨j0,hj0,e0⟩:=List.getElem_of_mem hx;have hj1:j0<o.size:=by simpa using hj0
 have hb:SetTable.bits h<2 ^ 64:=by
  unfold SetTable.bits;lia
 obtain⟨m,hm2,e⟩:=F1 (j:=j0) hm (Nat.mod_lt (SetTable.bits h) ((Zh (Zm _)):0<mask+1)) (by refine ZN O.size.symm ?_;exact hj1) hb;obtain⟨j,hj,hv⟩:=LM (mask:=mask) (o:=o) m (SetTable.turns mask) (SetTable.bits h % (mask+1)) (SetTable.bits h) (by unfold SetTable.turns;lia) (by
  refine ZN e ?_;simp only[Array.getD,hj1,dif_pos];rw[Array.getElem_toList]at e0;show (o[j0]).isNone=true;refine ZN e0 ?_;exact hn) (by refine ZN e ?_;refine ZN O.size.symm ?_;exact hj1) (Nat.mod_lt _ (Zh (Zm _)))
 obtain⟨hjs,hjn⟩:=M4 hv;have get:∀ i,own (o.setIfInBounds j (some k)) i=if i=j then some k else own o i:=by
  intro i;unfold own;refine ZO (Array.getD_eq_getD_getElem?) ?_;refine ZN (Array.getD_eq_getD_getElem?) ?_;refine ZN (Array.getElem?_setIfInBounds) ?_
  by_cases q:j=i
  ·subst q;simp[hjs]
  ·refine ZN (if_neg q) ?_;rw[if_neg (Ne.symm q)]
 have hoj:own o j=none:=by unfold own;refine ZO (Array.getD_eq_getD_getElem?) ?_;refine ZN (Array.getElem?_eq_getElem hjs) ?_;refine ZN hjn ?_;rfl
 refine⟨j,hj,⟨by refine ZO Array.size_setIfInBounds ?_;exact O.size,λi v hi=>?_,λv hv=>?_,λi i' v h1 h2=>?_,?_⟩⟩
 ·rw[get]at hi
  split at hi
  ·cases hi;exact Zo _
  ·have:=O.lt i v hi;exact Zh (Zl this)
 ·by_cases q:v=k
  ·exact⟨j,by rw[get];refine ZO (if_pos rfl) ?_;rw[q]⟩
  ·obtain⟨i,hi⟩:=O.has v (Zu (Zr hv) q)
   refine⟨i,?_⟩;rw[get,if_neg (λz=>by subst z;rw[hoj]at hi;cases hi)];exact hi
 ·rw[get]at h1 h2
  split at h1 <;> split at h2
  ·lia
  ·cases h1;exact absurd (O.lt _ _ h2) (Nat.lt_irrefl _)
  ·cases h2;exact absurd (O.lt _ _ h1) (Nat.lt_irrefl _)
  ·exact O.inj _ _ _ h1 h2
 ·refine ZN Array.toList_setIfInBounds ?_;refine ZO (List.countP_set (by simpa using hjs)) ?_;rw[Array.getElem_toList];refine ZN hjn ?_;refine ZN O.cnt ?_
  simp;lia
theorem M5 {mask:Nat}(hm:DY mask):∀ (hs:List Int)(o:Array (Option Nat))(k:Nat),Own mask o k->k+hs.length<=mask+1 ->
  ∃ o',hs.foldl (λ(acc:Option (Array (Option Nat)×Nat)) h=>(do
   let (owner,k) <- acc
   let j <- SetTable.layClean.free mask owner (SetTable.turns mask) (SetTable.bits h % (mask+1)) (SetTable.bits h)
   pure (owner.setIfInBounds j (some k),k+1))) (some (o,k))=some (o',k+hs.length)/\Own mask o' (k+hs.length):=by
 intro hs
 induction hs with
 | nil=>intro o k O _;exact⟨o,rfl,O⟩
 | cons h hs ih =>
  intro o k O hl;simp only[List.length_cons]at hl ⊢;obtain⟨j,hj,O'⟩:=O.next hm (Zd (Zb (Zt _ _) (Nat.add_lt_add_left (Zo _) _)) hl) h;obtain⟨o',a,b⟩:=ih _ _ O' (le_of_eq_of_le ((Nat.add_right_comm _ _ _).trans (Nat.add_assoc _ _ _)) hl);refine⟨o',?_,by refine ZN (show k+(hs.length+1)=k+1+hs.length by exact (Nat.add_assoc _ _ _).symm.trans (Nat.add_right_comm _ _ _)) ?_;exact b⟩;refine ZO List.foldl_cons ?_;refine ZN (show k+(hs.length+1)=k+1+hs.length by exact (Nat.add_assoc _ _ _).symm.trans (Nat.add_right_comm _ _ _)) ?_;refine ZN a.symm ?_;simp only[Option.bind_eq_bind,Option.bind_some,hj,Option.pure_def]
theorem Gu {mask:Nat}(hm:DY mask){hs:Array Int}(hl:hs.size<=mask+1):∃ o,SetTable.layClean mask hs=some o/\Own mask o hs.size:=by
 obtain⟨o,a,b⟩:=M5 hm hs.toList (Array.replicate (mask+1) none) 0 ⟨by simp,λj v h=>by
   unfold own at h;replace h:=ZO (Array.getD_eq_getD_getElem?).symm h;rw[Array.getElem?_replicate]at h;split at h <;> simp at h,λv hv=>False.elim (Zp (Zm _) hv),λj j' v h=>by
   unfold own at h;replace h:=ZO (Array.getD_eq_getD_getElem?).symm h;rw[Array.getElem?_replicate]at h;split at h <;> simp at h,by
   refine ZN Array.toList_replicate ?_;refine ZO List.countP_replicate ?_;simp⟩ (by simpa using hl)
 rw[Nat.zero_add,Array.length_toList]at a b;refine⟨o,?_,b⟩;unfold SetTable.layClean;rw[<- Array.foldl_toList];refine ZN a ?_;rfl
theorem LN {mask finger moves:Nat}{led plain:Bool}{hs:Array Int}(hm:DY mask)(hl:hs.size * 5<mask * 3) :
  ∃ t o,SetTable.laid mask finger moves led plain hs=some (t,o)/\TabOk t hs.size/\t.led=led/\t.plain=plain/\o.toList.Perm (List.range hs.size):=by
 obtain⟨ow,h1,O⟩:=Gu hm (hs:=hs) (by lia);have hlaid:SetTable.laid mask finger moves led plain hs=some ({ mask,place:=((((List.range (mask+1)).filterMap λj=>(ow.getD j none).map (j,·))).map (·.1)).toArray,dummies:=#[],finger,led,moves,plain },(((List.range (mask+1)).filterMap λj=>(ow.getD j none).map (j,·)).map (·.2)).toArray):=by
  unfold SetTable.laid;refine ZN h1 ?_;rfl
 have ho:(((List.range (mask+1)).filterMap λj=>(ow.getD j none).map (j,·)).map (·.2)).Perm (List.range hs.size):=by
  refine ZN List.map_filterMap ?_;refine (List.perm_ext_iff_of_nodup ?_ List.nodup_range).mpr λv=>?_
  ·rw[List.Nodup];refine List.pairwise_filterMap.mpr ?_
   refine List.Pairwise.imp (λ{a b} hab=>?_) List.pairwise_lt_range;intro x hx y hy e;subst e;cases q1:ow.getD a none with
   | none=>rw[q1]at hx;cases hx
   | some k1 =>
    cases q2:ow.getD b none with
    | none=>rw[q2]at hy;cases hy
    | some k2 =>
     rw[q1]at hx;rw[q2]at hy;cases hx;cases hy;have:=O.inj a b k1 q1 q2;exact False.elim (Zp (Nat.le_of_eq this.symm) hab)
  ·rw[List.mem_filterMap,List.mem_range]
   constructor
   ·intro y0
    obtain⟨j,_,e⟩:=y0;cases q1:ow.getD j none with
    | none=>rw[q1]at e;cases e
    | some k1=>rw[q1]at e;cases e;exact O.lt _ _ q1
   ·intro hv
    obtain⟨j,hj⟩:=O.has v hv;refine⟨j,?_,?_⟩
    ·refine List.mem_range.mpr ?_
     rcases Nat.lt_or_ge j (mask+1)with z | z
     ·exact z
     ·have hz:¬ j<ow.size:=by refine ZN O.size ?_;exact Zp z
      simp[own,Array.getD,hz]at hj
    ·have hj:ow.getD j none=some v:=hj
     refine ZN hj ?_;rfl
 refine⟨_,_,hlaid,⟨?_,rfl,hm,GN hlaid,λi h=>?_,hl⟩,rfl,rfl,ho⟩
 ·have:=ho.length_eq
  simpa using this
 ·have hall:∀ y∈(((List.range (mask+1)).filterMap λj=>(ow.getD j none).map (j,·)).map (·.1)),y<=mask:=by
   intro y hmem;rw[List.map_filterMap]at hmem;replace hmem:=List.mem_filterMap.mp hmem;obtain⟨j,hj,e⟩:=hmem;replace hj:=List.mem_range.mp hj;cases q1:ow.getD j none with
   | none=>rw[q1]at e;cases e
   | some k1 =>
    rw[q1]at e;simp only[Option.map_some,Option.some.injEq]at e;exact le_of_eq_of_le e.symm (Zr hj)
  exact hall _ (by rw[List.getElem_toArray];exact List.getElem_mem _)
theorem Cm {t t':SetTable}(h:t.mask=t'.mask):∀ k p,adv t k p=adv t' k p
 | 0,p=>rfl
 | k+1,p=>by
  have:t.advance p=t'.advance p:=by unfold SetTable.advance;rw[h]
  show adv t k (t.advance p)=adv t' k (t'.advance p);refine ZN this ?_;exact Cm h k _
theorem CS {t t':SetTable}(h:t.mask=t'.mask)(x:Int):t.probeStart x=t'.probeStart x:=by unfold SetTable.probeStart;rw[h]
theorem K8 {t:SetTable}(hd:t.dummies = #[])(hr:CN t.place){i j:Nat}(h:t.place[i]? = some j):t.slot j=.live i:=by
 obtain⟨hi,e⟩:=Array.getElem?_eq_some_iff.mp h;refine aN3 (EV hr j) λb1 b2 b3=>?_
 have:SetTable.below t.place j=i:=by
  rcases Nat.lt_trichotomy (SetTable.below t.place j) i with q | q | q
  ·have h1:=b3 (SetTable.below t.place j) (Ze q hi) (Zg _)
   have h2:=hr _ i q hi;lia
  ·exact q
  ·have:=b2 i hi q;exact False.elim (Zp (Nat.le_of_eq e.symm) this)
 rw[Dz hd];refine ZN this ?_;exact if_pos h
theorem GQ {t:SetTable}(hd:t.dummies = #[]){i j:Nat}(h:t.slot j=.live i):t.place[i]? = some j:=by
 rw[Dz hd]at h
 split at h
 ·rename_i q;cases h;exact q
 ·cases h
theorem GR {t:SetTable}(hd:t.dummies = #[])(hr:CN t.place){j:Nat}:t.slot j=.empty↔j∉t.place.toList:=by
 constructor
 ·intro h hm
  obtain⟨i,hi,e⟩:=List.getElem_of_mem hm;have:=K8 (i:=i) (j:=j) hd hr (by refine ZO (Array.getElem?_toList).symm ?_;refine ZO (ZI hi) ?_;rw[e]);replace this:=ZO h.symm this;cases this
 ·intro h
  refine (EW hd).mpr ?_;refine HS λi hi e=>h ?_
  refine ZN e.symm ?_;refine Array.mem_toList_iff.mpr ?_;exact Array.getElem_mem hi
noncomputable def Path (t:SetTable) (h:Int) (j:Nat):Prop:=∃ c,(adv t c (t.probeStart h)).j=j/\∀ c',c'<c->(adv t c' (t.probeStart h)).j∈t.place.toList
theorem Path.more {t t':SetTable}{h:Int}{j:Nat}(p:Path t h j)(hm:t'.mask=t.mask)(hs:∀ x∈t.place.toList,x∈t'.place.toList):Path t' h j:=by
 refine eX1 (p) λc zz=>aN2 zz λa b=>?_
 refine⟨c,?_,λc' hc=>?_⟩
 ·rw[CS hm,Cm hm];exact a
 ·rw[CS hm,Cm hm];exact hs _ (b c' hc)
noncomputable def Paths (t:SetTable) (es:Array (Int×Value)):Prop:=∀ (i j:Nat) (e:Int×Value),t.place[i]? = some j->es[i]? = some e->Path t e.1 j
theorem Eo {α:Type}(xs:Array α)(p:Nat)(hp:p<=xs.size)(x:α)(i:Nat):(SetTable.insertAt xs p x)[i]? = if i<p then xs[i]? else if i=p then some x else xs[i - 1]?:=by
 refine ZO (Array.getElem?_toList).symm ?_;rw[D6];have hl:(xs.toList.take p).length=p:=by refine ZO List.length_take ?_;refine ZN Array.length_toList ?_;exact Nat.min_eq_left hp
 by_cases h1:i<p
 ·refine ZN (if_pos h1) ?_;refine ZN (List.getElem?_append_left (lt_of_lt_of_eq h1 hl.symm)) ?_;refine ZN (List.getElem?_take) ?_;refine ZN (if_pos h1) ?_;exact Array.getElem?_toList
 ·refine ZN (if_neg h1) ?_;refine ZN (List.getElem?_append_right (le_of_eq_of_le hl (Zn h1))) ?_;refine ZN hl ?_
  by_cases h2:i=p
  ·subst h2;refine ZN (if_pos rfl) ?_;rw[Nat.sub_self];rfl
  ·refine ZN (if_neg h2) ?_
   obtain⟨d,rfl⟩:=Nat.exists_eq_add_of_lt (Zu (Zn h1) (Ne.symm h2));have hd:p+d+1 - p=d+1:=Nat.add_sub_cancel_left p (d+1);refine ZN hd ?_;refine ZN (List.getElem?_cons_succ) ?_;refine ZN (List.getElem?_drop) ?_;refine ZN (Array.getElem?_toList) ?_;rfl
theorem Paths.put {t:SetTable}{n:Nat}{es:Array (Int×Value)}(T:TabOk t n)(P:Paths t es)(hn:es.size=n){h:Int}{x:Value}{j:Nat}(hv:C3 t j)(hp:Path t h j) :
  Paths (t.put j).1 (SetTable.insertAt es (t.put j).2 (h,x)):=by
 rw[Jo T.dum];have hb:=(EV T.rises j).1;intro i j' e h1 h2;have h1:(SetTable.insertAt t.place (SetTable.below t.place j) j)[i]? = some j':=h1;rw[Eo _ _ hb]at h1;rw[Eo _ _ (by refine ZN hn ?_;refine ZN T.size.symm ?_;exact hb)]at h2;have more:∀ {h j},Path t h j->Path { t with place:=SetTable.insertAt t.place (SetTable.below t.place ‹Nat›) ‹Nat› } h j:=λ{h j} p=>p.more rfl λx hx=>insertAt_mem.mpr (.inl hx)
 have more:∀ {h0 j0},Path t h0 j0->Path { t with place:=SetTable.insertAt t.place (SetTable.below t.place j) j } h0 j0:=λ{h0 j0} p=>p.more rfl λx hx=>insertAt_mem.mpr (.inl hx)
 split at h1
 ·rename_i q
  replace h2:=ZO (if_pos q).symm h2;exact more (P i j' e h1 h2)
 ·rename_i q
  replace h2:=ZO (if_neg q).symm h2
  split at h1
  ·rename_i q2
   replace h2:=ZO (if_pos q2).symm h2;cases h1;cases h2;exact more hp
  ·rename_i q2
   replace h2:=ZO (if_neg q2).symm h2;exact more (P _ j' e h1 h2)
theorem Nd {t:SetTable}(hd:t.dummies = #[]){hashAt:Nat->Int}{hh:Int}:∀ (k fuel:Nat)(p:SetTable.Probe),k<fuel->t.slot (adv t k p).j=.empty ->
  ∃ c,c<=k/\(∀ c',c'<c->∃ i,t.slot (adv t c' p).j=.live i/\hashAt i≠hh) /\
  ((SetTable.probe.go t hashAt hh fuel p=some (.empty (adv t c p).j p.dummy)/\t.slot (adv t c p).j=.empty) \/
  (c<k/\∃ i,SetTable.probe.go t hashAt hh fuel p=some (.candidate (adv t c p).j i (adv t (c+1) p))/\t.slot (adv t c p).j=.live i/\hashAt i=hh)):=by
 intro k
 induction k with
 | zero =>
  intro fuel p hf he;cases fuel with
  | zero=>lia
  | succ fuel =>
  refine⟨0,Zg _,λc' h=>False.elim (Zp (Zm _) h),.inl ⟨?_,he⟩⟩;unfold SetTable.probe.go;refine ZN (show t.slot p.j=.empty from he) ?_;rfl
 | succ k ih =>
  intro fuel p hf he;cases fuel with
  | zero=>lia
  | succ fuel =>
  unfold SetTable.probe.go;cases q:t.slot p.j with
  | empty=>exact⟨0,Zm _,λc' h=>False.elim (Zp (Zm _) h),.inl ⟨rfl,q⟩⟩
  | dummy =>
   rw[Dz hd]at q
   split at q <;> cases q
  | live i =>
   dsimp only
   by_cases hq:(hashAt i == hh)=true
   ·refine ZN (if_pos hq) ?_
    exact⟨0,Zm _,λc' h=>False.elim (Zp (Zm _) h),.inr ⟨Zh (Zm _),i,rfl,q,beq_iff_eq.mp hq⟩⟩
   ·refine ZN (if_neg hq) ?_
    refine eX1 (ih fuel (t.advance p) (Nat.lt_of_succ_lt_succ hf) he) λc zz=>aN3 zz λa b cc=>?_
    refine⟨c+1,Nat.add_le_add_right a _,λc' hc=>?_,?_⟩
    ·cases c' with
     | zero=>exact⟨i,q,λe=>hq (beq_iff_eq.mpr e)⟩
     | succ c'=>exact b c' (Nat.lt_of_succ_lt_succ hc)
    ·rcases cc with ⟨z,y⟩ | z0
     ·left;rw[DN]at z;exact⟨z,y⟩
     ·refine aN2 (z0) λz zz=>eX1 zz λi' y=>?_
      right;exact⟨Nat.add_lt_add_right z _,i',y⟩
noncomputable def T0 (mask:Nat):SetTable:={ SetTable.fresh 0 0 true with mask:=mask }
noncomputable def PathO (mask:Nat) (o:Array (Option Nat)) (h:Int) (j:Nat):Prop:=∃ c,(adv (T0 mask) c ((T0 mask).probeStart h)).j=j/\∀ c',c'<c->∃ v,own o (adv (T0 mask) c' ((T0 mask).probeStart h)).j=some v
theorem Jp (t:SetTable):∀ c p,c<=p.more->(adv t c p).j=p.j+c
 | 0,p,_=>rfl
 | c+1,p,h=>by
  have e:t.advance p={ p with j:=p.j+1,more:=p.more - 1 }:=by unfold SetTable.advance;exact if_pos (Zd (Zb (Zm _) (Zo _)) h)
  show (adv t c (t.advance p)).j=_;refine ZO (Jp t c _ (by refine ZN e ?_;show c<=p.more - 1;exact Nat.le_sub_one_of_lt h)) ?_;refine ZN e ?_;show p.j+1+c=_;exact (Nat.add_right_comm _ _ _).trans (Nat.add_assoc _ _ _)
set_option tactic.hygienic true in
theorem LO {mask:Nat}{o:Array (Option Nat)}(hs:o.size=mask+1):∀ fuel i pt j,i<mask+1->SetTable.layClean.free mask o fuel i pt=some j->∀ p:SetTable.Probe,FM (T0 mask) p->p.i=i->p.perturb=pt ->
  ∃ c,(adv (T0 mask) c p).j=j/\∀ c',c'<c->∃ v,own o (adv (T0 mask) c' p).j=some v:=by
 intro fuel
 induction fuel with
 | zero=>intro i pt j hi h;unfold SetTable.layClean.free at h;cases h
 | succ fuel ih =>
  intro i pt j hi h p sp e1 e2;unfold SetTable.layClean.free at h;have hre:SetTable.runEnd mask i<=mask:=by unfold SetTable.runEnd;split <;> lia
  have hri:i<=SetTable.runEnd mask i:=by unfold SetTable.runEnd;split <;> lia
  have hmore:p.more=SetTable.runEnd mask i - i:=by refine ZO sp.2 ?_;refine ZN e1 ?_;rfl
  have him:i+p.more<=mask:=by rw[hmore,Nat.add_sub_of_le hri];exact hre
  have full:∀ k,k<=p.more->(o.getD (i+k) (some 0)).isNone=false->∃ v,own o (adv (T0 mask) k p).j=some v:=by
   intro k hk hf;refine ZN (Jp _ _ _ hk) ?_;refine ZN sp.1 ?_;refine ZN e1 ?_;have hlt:i+k<o.size:=by refine ZN hs ?_;exact Zh (Zc (Nat.add_le_add_left hk i) him)
   simp only[Array.getD,hlt,dif_pos]at hf;simp only[Array.getD,hlt,dif_pos];cases q:o[i+k]with
   | none=>rw[show o.getInternal (i+k) hlt=o[i+k]from rfl,q]at hf;cases hf
   | some v=>exact⟨v,q⟩
  split at h
  ·rename_i k hk
   cases h;replace hk:=(List.find?_range_eq_some).mp hk;refine aN3 (hk) λh1 h2 h3=>?_
   replace h2:=List.mem_range.mp h2;have hk2:k<=p.more:=by rw[hmore];exact Nat.le_sub_of_add_le (Zr (Nat.add_lt_of_lt_sub h2))
   refine⟨k,?_,λc' hc=>full c' (Zc (Zl hc) hk2) ?_⟩
   ·refine ZO (Jp _ _ _ hk2) ?_;refine ZN sp.1 ?_;rw[e1]
   ·have:=h3 c' hc
    simpa using this
  ·rename_i hk
   replace hk:=(List.find?_eq_none).mp hk;obtain⟨s1,s2⟩:=K7 (T0 mask) p.more p rfl;have s2:((adv (T0 mask) (p.more+1) p).i,(adv (T0 mask) (p.more+1) p).perturb)=SetTable.leap mask i pt:=by refine ZO s2 ?_;refine ZN e1 ?_;refine ZN e2 ?_;rfl
   refine eX1 (ih _ _ j (Nat.mod_lt _ (Zh (Zm _))) h _ s1 (congrArg Prod.fst s2) (congrArg Prod.snd s2)) λc zz=>aN2 zz λa b=>?_
   refine⟨p.more+1+c,by rw[CI];exact a,λc' hc=>?_⟩
   by_cases q:c'<=p.more
   ·refine full c' q ?_
    have:=hk c' (List.mem_range.mpr (Nat.lt_sub_of_add_lt (Zh (Nat.add_le_of_le_sub hri (hmore▸q)))));exact (Bool.not_eq_true _).mp this
   ·have:=b (c' - (p.more+1)) (Nat.sub_lt_left_of_lt_add (Zw (Zq q)) hc)
    rw[<- CI]at this;rwa [show p.more+1+(c' - (p.more+1))=c' by exact Nat.add_sub_of_le (Zw (Zq q))]at this
theorem PathO.more {mask:Nat}{o o':Array (Option Nat)}{h:Int}{j:Nat}(p:PathO mask o h j)(hs:∀ i v,own o i=some v->own o' i=some v):PathO mask o' h j:=by
 refine eX1 (p) λc zz=>aN2 zz λa b=>?_
 exact⟨c,a,λc' hc=>let ⟨v,e⟩:=b c' hc;⟨v,hs _ _ e⟩⟩
theorem Hx {o:Array (Option Nat)}{j:Nat}{k:Nat}(hj:j<o.size)(i:Nat):own (o.setIfInBounds j (some k)) i=if i=j then some k else own o i:=by
 unfold own;refine ZO (Array.getD_eq_getD_getElem?) ?_;refine ZN (Array.getD_eq_getD_getElem?) ?_;refine ZN (Array.getElem?_setIfInBounds) ?_
 by_cases q:j=i
 ·subst q;simp[hj]
 ·rw[if_neg q,if_neg (Ne.symm q)]
theorem LP {mask:Nat}(hm:DY mask):∀ (hs pre:List Int)(o:Array (Option Nat)),Own mask o pre.length->(∀ j v h,own o j=some v->pre[v]? = some h->PathO mask o h j)->pre.length+hs.length<=mask+1 ->
  ∃ o',hs.foldl (λ(acc:Option (Array (Option Nat)×Nat)) h=>(do
   let (owner,k) <- acc
   let j <- SetTable.layClean.free mask owner (SetTable.turns mask) (SetTable.bits h % (mask+1)) (SetTable.bits h)
   pure (owner.setIfInBounds j (some k),k+1))) (some (o,pre.length))=some (o',pre.length+hs.length)/\Own mask o' (pre.length+hs.length)/\(∀ j v h,own o' j=some v->(pre++hs)[v]? = some h->PathO mask o' h j):=by
 intro hs
 induction hs with
 | nil=>intro pre o O hp _;exact⟨o,rfl,O,by simpa using hp⟩
 | cons h hs ih =>
  intro pre o O hp hl;simp only[List.length_cons]at hl ⊢;refine eX1 (O.next hm (Zd (Zb (Zt _ _) (Nat.add_lt_add_left (Zo _) _)) hl) h) λj zz=>aN2 zz λhj O'=>?_
  have hjs:j<o.size:=by
   have:=O'.has pre.length (Zo _);obtain⟨i,hi⟩:=this;apply Classical.byContradiction;intro q;have:o.setIfInBounds j (some pre.length)=o:=by simp[Array.setIfInBounds,q]
   rw[this]at hi;exact absurd (O.lt _ _ hi) (Nat.lt_irrefl _)
  refine eX1 (LO O.size _ _ _ j (Nat.mod_lt _ (Zh (Zm _))) hj ((T0 mask).probeStart h) ⟨rfl,rfl⟩ rfl rfl) λc zz=>aN2 zz λc1 c2=>?_
  have hnone:own o j=none:=by
   cases q:own o j with
   | none=>rfl
   | some v =>
    exfalso;have h1:=O.lt _ _ q;obtain⟨i,hi⟩:=O'.has v (Zh (Zl h1));rw[Hx hjs]at hi
    split at hi
    ·cases hi;exact False.elim (Zp (Zg _) h1)
    ·rename_i z
     exact z (O.inj _ _ _ hi q)
  have grow:∀ i v,own o i=some v->own (o.setIfInBounds j (some pre.length)) i=some v:=λi v e=>by
   rw[Hx hjs,if_neg (λz=>by subst z;rw[hnone]at e;cases e)];exact e
  have hlen:(pre++[h]).length=pre.length+1:=by simp
  refine eX1 (ih (pre++[h]) (o.setIfInBounds j (some pre.length)) (by refine ZN hlen ?_;exact O') (λi v h' e1 e2=>by
   rw[Hx hjs]at e1
   split at e1
   ·rename_i z
    cases e1;replace e2:=ZO (List.getElem?_append_right (Zg _)).symm e2;rw[Nat.sub_self]at e2;cases e2;refine ZN z ?_;exact PathO.more ⟨c,c1,c2⟩ grow
   ·have hv:=O.lt _ _ e1
    replace e2:=ZO (List.getElem?_append_left hv).symm e2;exact (hp i v h' e1 e2).more grow) (by refine ZN hlen ?_;exact le_of_eq_of_le ((Nat.add_right_comm _ _ _).trans (Nat.add_assoc _ _ _)) hl)) λo' zz=>aN3 zz λa b cc=>?_
  rw[hlen]at a b;refine⟨o',?_,by refine ZN (show pre.length+(hs.length+1)=pre.length+1+hs.length by exact (Nat.add_assoc _ _ _).symm.trans (Nat.add_right_comm _ _ _)) ?_;exact b,by simpa using cc⟩;refine ZO List.foldl_cons ?_;refine ZN (show pre.length+(hs.length+1)=pre.length+1+hs.length by exact (Nat.add_assoc _ _ _).symm.trans (Nat.add_right_comm _ _ _)) ?_;refine ZN a.symm ?_;simp only[Option.bind_eq_bind,Option.bind_some,hj,Option.pure_def]
theorem Gv {mask:Nat}(hm:DY mask){hs:Array Int}(hl:hs.size<=mask+1):∃ o,SetTable.layClean mask hs=some o/\Own mask o hs.size/\∀ j v h,own o j=some v->hs[v]? = some h->PathO mask o h j:=by
 have none0:∀ j v,own (Array.replicate (mask+1) none) j=some v->False:=λj v h=>by
  unfold own at h;replace h:=ZO (Array.getD_eq_getD_getElem?).symm h;rw[Array.getElem?_replicate]at h;split at h <;> simp at h
 refine eX1 (LP hm hs.toList [] (Array.replicate (mask+1) none) ⟨by simp,λj v h=>(none0 j v h).elim,λv hv=>absurd hv (Nat.not_lt_zero _),λj j' v h=>(none0 j v h).elim,by
   refine ZN Array.toList_replicate ?_;refine ZO List.countP_replicate ?_;simp⟩ (λj v h e=>(none0 j v e).elim) (by simpa using hl)) λo zz=>aN3 zz λa b c=>?_
 simp only[List.length_nil,Nat.zero_add,Array.length_toList,List.nil_append,Array.getElem?_toList]at a b c;refine⟨o,?_,b,c⟩;unfold SetTable.layClean;rw[<- Array.foldl_toList];refine ZN a ?_;rfl
theorem Jq {mask finger moves:Nat}{led plain:Bool}{es:Array (Int×Value)}(hm:DY mask)(hl:es.size * 5<mask * 3) :
  ∃ t o,SetTable.laid mask finger moves led plain (es.map (·.1))=some (t,o)/\TabOk t es.size/\t.led=led/\t.plain=plain/\(o.filterMap (es[·]?)).toList.Perm es.toList/\Paths t (o.filterMap (es[·]?)):=by
 have hsz:(es.map (·.1)).size=es.size:=by simp
 refine eX2 (LN (mask:=mask) (finger:=finger) (moves:=moves) (led:=led) (plain:=plain) (hs:=es.map (·.1)) hm (by refine ZN hsz ?_;exact hl)) λt o zz=>aN5 zz λh1 h2 h3 h4 h5=>?_
 rw[hsz]at h2 h5;refine eX1 (Gv hm (hs:=es.map (·.1)) (by refine ZN hsz ?_;lia)) λow zz=>aN3 zz λq1 O hpath=>?_
 rw[hsz]at O;have hlaid:SetTable.laid mask finger moves led plain (es.map (·.1))=some ({ mask,place:=((((List.range (mask+1)).filterMap λj=>(ow.getD j none).map (j,·))).map (·.1)).toArray,dummies:=#[],finger,led,moves,plain },(((List.range (mask+1)).filterMap λj=>(ow.getD j none).map (j,·)).map (·.2)).toArray):=by
  unfold SetTable.laid;refine ZN q1 ?_;rfl
 replace hlaid:=ZO h1.symm hlaid;injection hlaid with hlaid
 injection hlaid with ht ho
 refine⟨t,o,h1,h2,h3,h4,?_,?_⟩
 ·refine ZN Array.toList_filterMap ?_
  exact (h5.filterMap _).trans (by rw[filterMap_getElem?_range])
 ·have htm:t.mask=mask:=by rw[ht]
  have hpl:t.place.toList=(((List.range (mask+1)).filterMap λj=>(ow.getD j none).map (j,·)).map (·.1)):=by rw[ht]
  have hol:o.toList=(((List.range (mask+1)).filterMap λj=>(ow.getD j none).map (j,·)).map (·.2)):=by rw[ho]
  generalize hL:((List.range (mask+1)).filterMap λj=>(ow.getD j none).map (j,·))=L at hpl hol;have hLm:∀ x∈L,own ow x.1=some x.2:=by
   intro x hx;rw[<- hL]at hx;replace hx:=List.mem_filterMap.mp hx;refine eX1 (hx) λj zz=>aN2 zz λ_ e=>?_
   refine eX1 (ZD e) λv zz=>aN2 zz λe1 e2=>?_
   refine ZN e2.symm ?_;exact e1
  have hLm2:∀ j v,own ow j=some v->j∈t.place.toList:=by
   intro j v e;refine ZN hpl ?_;refine ZC ?_;refine⟨(j,v),?_,rfl⟩;refine ZN hL.symm ?_;refine List.mem_filterMap.mpr ?_;refine⟨j,?_,?_⟩
   ·refine List.mem_range.mpr ?_
    rcases Nat.lt_or_ge j (mask+1)with z | z
    ·exact z
    ·have hz:¬ j<ow.size:=by refine ZN O.size ?_;exact Zp z
     simp[own,Array.getD,hz]at e
   ·have e':ow.getD j none=some v:=e
    refine ZN e' ?_;rfl
  have hmap:(o.filterMap (es[·]?)).toList=L.filterMap λx=>es[x.2]?:=by
   refine ZO Array.toList_filterMap ?_;refine ZN hol ?_;refine ZO List.filterMap_map ?_;rfl
  have hget:∀ (L':List (Nat×Nat)),(∀ x∈L',x.2<es.size)->∀ i:Nat,(L'.filterMap λx=>es[x.2]?)[i]? = (L'[i]?).bind λx=>es[x.2]?:=by
   intro L'
   induction L' with
   | nil=>intro _ i;simp
   | cons x L' ih =>
    intro hx i;refine ZN (List.filterMap_cons_some (f:=λx:Nat×Nat=>es[x.2]?) (b:=es[x.2]'(hx x (.head _))) (Array.getElem?_eq_getElem (hx x (.head _)))) ?_;cases i with
    | zero=>simp[Array.getElem?_eq_getElem (hx x (.head _))]
    | succ i=>simpa using ih (λy hy=>hx y (.tail _ hy)) i
  intro i j e e1 e2;replace e2:=ZO (Array.getElem?_toList) e2;rw[hmap,hget L (λx hx=>O.lt _ _ (hLm x hx))]at e2;replace e1:=ZO (Array.getElem?_toList) e1;rw[hpl]at e1;replace e1:=ZO (ZH).symm e1;cases hx:L[i]? with
  | none=>rw[hx]at e1;cases e1
  | some x =>
  rw[hx]at e1 e2;simp only[Option.map_some,Option.some.injEq,Option.bind_some]at e1 e2;subst e1;refine eX1 (hpath x.1 x.2 e.1 (hLm x (Zy hx)) (by refine ZO (Array.getElem?_map) ?_;refine ZN e2 ?_;rfl)) λc zz=>aN2 zz λa b=>?_
  have tm:t.mask=(T0 mask).mask:=htm;refine⟨c,?_,λc' hc=>?_⟩
  ·rw[CS tm,Cm tm];exact a
  ·rw[CS tm,Cm tm]
   obtain⟨v,e⟩:=b c' hc;exact hLm2 _ v e
end Mine.Internal
namespace Mine.Internal
open PySem PySem.W PyProof.Rows
theorem HT (t:SetTable):∀ k p,p.j+p.more<=t.mask->(adv t k p).j+(adv t k p).more<=t.mask
 | 0,p,h=>h
 | k+1,p,h=>by
  refine HT t k _ ?_;unfold SetTable.advance
  split
  ·show p.j+1+(p.more - 1)<=_;lia
  ·dsimp only
   have h1:(SetTable.leap t.mask p.i p.perturb).1<t.mask+1:=Nat.mod_lt _ (Zh (Zm _));generalize (SetTable.leap t.mask p.i p.perturb).1=i at *;show i+(SetTable.runEnd t.mask i - i)<=_;unfold SetTable.runEnd;split <;> lia
theorem Im (t:SetTable)(h:Int):(t.probeStart h).j+(t.probeStart h).more<=t.mask:=by
 have h1:SetTable.bits h % (t.mask+1)<t.mask+1:=Nat.mod_lt _ (Zh (Zm _))
 show SetTable.bits h % (t.mask+1)+(SetTable.runEnd t.mask (SetTable.bits h % (t.mask+1)) - SetTable.bits h % (t.mask+1))<=_;generalize SetTable.bits h % (t.mask+1)=i at *;unfold SetTable.runEnd;split <;> lia
noncomputable abbrev Ep (es:Array (Int×Value)) (i:Nat):Int:=(es[i]?.map (·.1)).getD 0
theorem EX (a:Addr)(x:Value)(h:Int)(adding:Bool)(fuel:Nat)(stand:Option SetTable.Probe):setSearchFrom a x h adding (fuel+1) stand=(do
  let (es,_,t) <- setState a
  if t.gaveWay then unsupported "set:on-a-table-that-gave-way"
  let some met:=t.probe (Ep es) h (stand.getD (t.probeStart h)) | unsupported "internal:set-table-without-an-empty-slot"
  match met with
  | .empty j dummy =>
   match dummy with
   | none=>return .free j false
   | some d =>
    if adding && t.slot d != .dummy then rule "set.search.the-dummy-was-taken";return <- setSearchFrom a x h adding fuel none
    return .free d true
  | .candidate j i next =>
   if !t.led then
    if <- searchCouldBeSeen x ((es.filter (·.1 == h)).toList.map (·.2))then unsupported "set:the-search-would-show-the-table"
   let some (_,y):=es[i]? | unsupported "internal:set-entry"
   let equal <- holding [y] (eqBool y x)
   let (es',_,t') <- setState a
   if adding && equal then return .there none
   let some same:=t'.sameMemory t.moves t.mask | unsupported "set.changed-during-lookup:is-the-new-block-at-the-old-address"
   let still <- match (if same then t'.slot j else .empty)with
    | .live i'=>match es'[i']? with
     | some (_,y')=>do pure (if <- isSame y' y then some i' else none)
     | none=>pure none
    | _=>pure none
   match still with
   | none=>rule "set.search.anew";setSearchFrom a x h adding fuel none
   | some i'=>if equal then return .there (some i')else setSearchFrom a x h adding fuel (some next)):=rfl
section
variable {prog:Program} {w:World} {A:Around} {E:Value->Shared->Prop} {s:Shared}
theorem Jr {y:Value}{k:At}(n:Nat)(h:(BL prog w).is k y=true):ofAClassStatement n y=pure false:=by
 cases k
 ·obtain⟨t,rfl⟩:=Bn h;unfold ofAClassStatement;rfl
 ·obtain⟨t,rfl⟩:=Bo h;unfold ofAClassStatement;rfl
theorem Er {ks:List At}{xs:List Value}(h:ItemsAre (BL prog w) ks xs):∀ y∈xs,∃ k,(BL prog w).is k y=true:=by
 induction h with
 | nil=>intro y hy;cases hy
 | cons a b ih =>
  intro y hy;rcases Zz hy with rfl | hy
  ·exact⟨_,a⟩
  ·exact ih y hy
theorem F2 {ks:List At}{b:Addr}{Q:Bool->Shared->Prop}(hk:(kK prog w).is s.heap ks b)(h:Q false s):wpAny (model prog w) A (ofAClassStatement 8 (.ref b)) Q E s:=by
 have hT:s.TypeIs (.ref b) "tuple":=IsTupleKey.typeIs hk;refine eX3 (hk) λo items n zz=>aN4 zz λho hc hd hi=>?_
 unfold ofAClassStatement;refine wpAny_bind (wpAny_typeOf hT ?_);refine wpAny_bind ?_;refine wpAny_pure ?_;refine wpAny_bind (wpAny_seqItems ho hd ?_);refine wpAny_bind ?_;refine ZN Array.forIn_toList.symm ?_;refine wpAny_forIn_list _ (λrest r s'=>r.1=none/\s'=s/\∀ y∈rest,∃ k,(BL prog w).is k y=true) _ ?_ ?_ _ _ ⟨rfl,rfl,Er hi⟩
 ·intro y rest r s' y4
  obtain⟨hr,rfl,hall⟩:=y4;obtain⟨k,hk⟩:=hall y (.head _);rw[Jr _ hk];refine wpAny_bind (wpAny_pure ?_);exact wpAny_pure ⟨rfl,rfl,λz hz=>hall z (.tail _ hz)⟩
 ·intro y0 s' y2
  obtain⟨r1,r2⟩:=y0;obtain⟨hr,rfl,_⟩:=y2;simp only at hr;subst hr;exact wpAny_pure h
theorem Io {ks:List At}{b:Addr}{ys:List Value}{Q:Bool->Shared->Prop}(hk:(kK prog w).is s.heap ks b)(hy:∀ y∈ys,∃ k c,y=.ref c/\(kK prog w).is s.heap k c)(h:Q false s) :
  wpAny (model prog w) A (searchCouldBeSeen (.ref b) ys) Q E s:=by
 refine wpAny_bind ?_;refine wpAny_forIn_list _ (λrest r s'=>r.1=none/\s'=s/\∀ y∈rest,∃ k c,y=.ref c/\(kK prog w).is s.heap k c) _ ?_ ?_ _ _ ⟨rfl,rfl,hy⟩
 ·intro y rest r s' y4
  obtain⟨hr,rfl,hall⟩:=y4;obtain⟨k,c,rfl,hc⟩:=hall y (.head _);have rest':∀ z∈rest,∃ k c,z=.ref c/\(kK prog w).is s'.heap k c:=λz hz=>hall z (.tail _ hz)
  dsimp only
  by_cases q:(b == c)=true
  ·rw[if_pos (by rw[q];rfl)]
   exact wpAny_pure ⟨rfl,rfl,rest'⟩
  ·refine ZN (if_neg (by simpa [carriedByValue]using q)) ?_
   refine wpAny_bind ((kK prog w).quiet hk ?_);refine wpAny_bind ((kK prog w).quiet hc ?_);refine wpAny_bind (F2 hk ?_);refine wpAny_bind (F2 hc ?_);exact wpAny_pure ⟨rfl,rfl,rest'⟩
 ·intro y0 s' y2
  obtain⟨r1,r2⟩:=y0;obtain⟨hr,rfl,_⟩:=y2;simp only at hr;subst hr;exact wpAny_pure h
structure TSetAt (prog:Program) (w:World) (h:Heap) (a:Addr) (xs:List (List At×Addr)) (es:Array (Int×Value)) (ep:Nat) (t:SetTable):Prop where
 here:h.get? a=some { cls:=.type "set",dict:=none,data:=.set es ep t,slots:=#[] }
 tab:TabOk t es.size
 led:byT w=false->t.led=true
 paths:Paths t es
 ents:es.toList=xs.map λx=>((kK prog w).hash x.1,.ref x.2)
 keys:∀ x∈xs,(kK prog w).is h x.1 x.2
 nodup:(xs.map (·.1)).Nodup
theorem TSetAt.fits {h:Heap}{a:Addr}{xs:List (List At×Addr)}{es:Array (Int×Value)}{ep:Nat}{t:SetTable}(S:TSetAt prog w h a xs es ep t):t.fits es.size=true:=by
 have h1:=S.tab.size
 have h2:=S.tab.room;simp only[SetTable.fits,SetTable.fill,S.tab.dum,Bool.and_eq_true,beq_iff_eq,decide_eq_true_eq];refine⟨h1,?_⟩;refine ZN h1 ?_;show es.size+0<=_;lia
theorem TSetAt.length {h:Heap}{a:Addr}{xs:List (List At×Addr)}{es:Array (Int×Value)}{ep:Nat}{t:SetTable}(S:TSetAt prog w h a xs es ep t):es.size=xs.length:=by
 refine ZO Array.length_toList.symm ?_;refine ZN S.ents ?_;rw[ZF]
theorem TSetAt.get {h:Heap}{a:Addr}{xs:List (List At×Addr)}{es:Array (Int×Value)}{ep:Nat}{t:SetTable}(S:TSetAt prog w h a xs es ep t)(i:Nat):es[i]? = (xs[i]?).map λx=>((kK prog w).hash x.1,.ref x.2):=by
 refine ZO (Array.getElem?_toList).symm ?_;refine ZN S.ents ?_;exact ZH
theorem Ip {M:Model}{a:Addr}{Q:Bool->Shared->Prop}(h:Q true s):wpAny M A (isSame (.ref a) (.ref a)) Q E s:=by
 unfold isSame
 first
  | exact wpAny_pure (by simpa using h)
  | (simp;exact wpAny_pure h)
theorem Iq {a b:Addr}{k:List At}{xs:List (List At×Addr)}{es:Array (Int×Value)}{ep:Nat}{t:SetTable}{Q:SetFound->Shared->Prop}(hu:A.units<cLine)(S:TSetAt prog w s.heap a xs es ep t)(hk:(kK prog w).is s.heap k b)
  (h1:k∈xs.map (·.1)->Q (.there none) s) (h2:k∉xs.map (·.1)->∀ j,C3 t j->j<=t.mask->Path t ((kK prog w).hash k) j->Q (.free j false) s) {K:Nat} (hK:K<10 * SetTable.turns t.mask) (hKe:t.slot (adv t K (t.probeStart ((kK prog w).hash k))).j=.empty) :
  ∀ (fuel c:Nat) (stand:Option SetTable.Probe),stand.getD (t.probeStart ((kK prog w).hash k))=adv t c (t.probeStart ((kK prog w).hash k))->c<=K->K - c<fuel ->
   (∀ c',c'<c->∃ i,t.slot (adv t c' (t.probeStart ((kK prog w).hash k))).j=.live i/\∀ x,xs[i]? = some x->x.1≠k) ->
   (adv t c (t.probeStart ((kK prog w).hash k))).dummy=none->wpAny (model prog w) A (setSearchFrom a (.ref b) ((kK prog w).hash k) true fuel stand) Q E s:=by
 intro fuel;generalize hH:(kK prog w).hash k=H at *;generalize hP:t.probeStart H=P at *
 induction fuel with
 | zero=>intro c stand _ _ h;lia
 | succ fuel ih =>
  intro c stand hst hc hf hist hdm;rw[EX];refine wpAny_bind (wpAny_setState_of S.here rfl S.fits ?_);dsimp only;have hgw:t.gaveWay=false:=by
   unfold SetTable.gaveWay;rcases S.tab.mask with e | e <;> refine ZN e ?_ <;> rfl
  refine ZN hgw ?_;simp only[Bool.false_eq_true,↓reduceIte];refine ZN hP ?_;refine ZN hst ?_;have hKc:t.slot (adv t (K - c) (adv t c P)).j=.empty:=by rw[<- CI];refine ZN (show c+(K - c)=K by exact Nat.add_sub_of_le hc) ?_;exact hKe
  obtain⟨c1,hc1,hb,hr⟩:=Nd S.tab.dum (hashAt:=Ep es) (hh:=H) (K - c) (10 * SetTable.turns t.mask) (adv t c P) (Zb (Nat.sub_le _ _) hK) hKc;have hist2:∀ c',c'<c+c1->∃ i,t.slot (adv t c' P).j=.live i/\∀ x,xs[i]? = some x->x.1≠k:=by
   intro c' hc'
   by_cases q:c'<c
   ·exact hist c' q
   ·obtain⟨i,e1,e2⟩:=hb (c' - c) (Nat.sub_lt_left_of_lt_add (Zn q) hc')
    rw[<- CI,show c+(c' - c)=c' by exact Nat.add_sub_of_le (Zn q)]at e1;refine⟨i,e1,λx hx e=>e2 ?_⟩;show ((es[i]?).map (·.1)).getD 0=H;rw[S.get];refine ZN hx ?_;show (kK prog w).hash x.1=H;refine ZN e ?_;exact hH
  rcases hr with ⟨hg,he⟩ | z0
  ·refine ZN (show t.probe (Ep es) H (adv t c P)=_ from hg) ?_;refine ZN hdm ?_
   refine wpAny_pure ?_;rw[<- CI]at he ⊢;refine h2 (λhm=>?_) _ ((EW S.tab.dum).mp he) ?_ ⟨c+c1,by rw[hP],λc' hc'=>?_⟩
   ·obtain⟨x,hx,hxk⟩:=ZB hm
    obtain⟨i,hi⟩:=List.mem_iff_getElem?.mp hx;have hes:es[i]? = some (H,.ref x.2):=by rw[S.get];refine ZN hi ?_;show some ((kK prog w).hash x.1,Value.ref x.2)=_;refine ZN hxk ?_;rw[hH]
    have hpi:i<t.place.size:=by refine ZN S.tab.size ?_;exact ((Array.getElem?_eq_some_iff.mp hes).1)
    obtain⟨c2,p1,p2⟩:=S.paths i t.place[i] _ (Array.getElem?_eq_getElem hpi) hes;simp only at p1 p2;rw[hP]at p1 p2;have hsl:t.slot (adv t c2 P).j=.live i:=by refine ZN p1 ?_;exact K8 S.tab.dum S.tab.rises (Array.getElem?_eq_getElem hpi)
    rcases Nat.lt_trichotomy c2 (c+c1)with z | z | z
    ·obtain⟨i',e1,e2⟩:=hist2 c2 z
     replace e1:=ZO hsl.symm e1;cases e1;exact e2 x hi hxk
    ·rw[z]at hsl;replace hsl:=ZO he.symm hsl;cases hsl
    ·exact (GR S.tab.dum S.tab.rises).mp he (p2 _ z)
   ·have:=HT t (c+c1) P (by refine ZN hP.symm ?_;exact Im t H)
    exact Zc (Zt _ _) this
   ·obtain⟨i,e1,_⟩:=hist2 c' hc'
    refine ZN hP ?_;have:=GQ S.tab.dum e1;replace this:=ZO (Array.getElem?_toList) this;exact Zy this
  ·obtain⟨hlt,i,hg,hl,hh⟩:=z0
   refine ZN (show t.probe (Ep es) H (adv t c P)=_ from hg) ?_;dsimp only;have hi1:i<es.size:=by refine ZN S.tab.size.symm ?_;exact (Array.getElem?_eq_some_iff.mp (GQ S.tab.dum hl)).1
   have hi2:i<xs.length:=by refine ZN S.length.symm ?_;exact hi1
   have hxi:xs[i]? = some xs[i]:=ZI hi2
   have hei:es[i]? = some ((kK prog w).hash xs[i].1,.ref xs[i].2):=by rw[S.get];refine ZN hxi ?_;rfl
   have after:wpAny (model prog w) A (do
     let some (_,y):=es[i]? | unsupported "internal:set-entry"
     let equal <- holding [y] (eqBool y (.ref b))
     let (es',_,t') <- setState a
     if true && equal then return .there none
     let some same:=t'.sameMemory t.moves t.mask | unsupported "set.changed-during-lookup:is-the-new-block-at-the-old-address"
     let still <- match (if same then t'.slot (adv t c1 (adv t c P)).j else .empty)with
      | .live i'=>match es'[i']? with
       | some (_,y')=>do pure (if <- isSame y' y then some i' else none)
       | none=>pure none
      | _=>pure none
     match still with
     | none=>rule "set.search.anew";setSearchFrom a (.ref b) H true fuel none
     | some i'=>if equal then return .there (some i')else setSearchFrom a (.ref b) H true fuel (some (adv t (c1+1) (adv t c P)))) Q E s:=by
    refine ZN hei ?_;refine wpAny_bind (wpAny_holding ((kK prog w).eqBool hu (S.keys _ (List.getElem_mem hi2)) hk ?_));refine wpAny_bind (wpAny_setState_of S.here rfl S.fits ?_);dsimp only
    by_cases q:xs[i].1=k
    ·refine ZN (decide_eq_true q) ?_
     exact wpAny_pure (h1 (ZC ⟨_,List.getElem_mem hi2,q⟩))
    ·refine ZN (decide_eq_false q) ?_
     have hsm:t.sameMemory t.moves t.mask=some true:=by unfold SetTable.sameMemory;simp
     refine ZN hsm ?_;simp only[↓reduceIte];refine ZN hl ?_;dsimp only;refine ZN hei ?_;refine wpAny_bind (Ip (wpAny_bind (wpAny_pure ?_)));rw[<- CI];refine ih (c+(c1+1)) _ rfl (Nat.add_lt_of_lt_sub' hlt) (Nat.sub_add_eq K c (c1+1)▸Zd (Nat.sub_lt (Nat.zero_lt_of_lt hlt) (Nat.succ_pos c1)) (Zr hf)) (λc' hc'=>?_) ?_
     ·by_cases q2:c'<c+c1
      ·exact hist2 c' q2
      ·have:c'=c+c1:=by lia
       subst this;rw[CI];exact⟨i,hl,λx hx e=>by replace hx:=ZO hxi.symm hx;cases hx;exact q e⟩
     ·rw[CI]
      have:∀ n p,(adv t n p).dummy=p.dummy:=by
       intro n
       induction n with
       | zero=>intro p;rfl
       | succ n ihn=>intro p;show (adv t n (t.advance p)).dummy=_;rw[ihn,DN]
      rw[this];exact hdm
   cases hled:t.led with
   | true =>
    exact after
   | false =>
    refine wpAny_bind (Io hk (λy hy=>?_) ?_)
    ·obtain⟨e,he,rfl⟩:=ZB hy
     rw[Array.toList_filter]at he;replace he:=List.mem_filter.mp he;have he:=he.1;rw[S.ents]at he;obtain⟨x,hx,rfl⟩:=ZB he;exact⟨x.1,x.2,rfl,S.keys x hx⟩
    ·simp only[Bool.false_eq_true,↓reduceIte]
     exact after
end
theorem CJ {α β:Type}{f:α->β}:∀ {l:List β}{m:List β},l.Perm m->∀ xs:List α,m=xs.map f->∃ ys:List α,ys.Perm xs/\l=ys.map f:=by
 intro l m p
 induction p with
 | nil =>
  intro xs e;have:xs=[]:=by cases xs with
   | nil=>rfl
   | cons=>cases e
  exact⟨[],by rw[this],rfl⟩
 | cons x p ih =>
  intro xs e;cases xs with
  | nil=>cases e
  | cons y xs =>
   injection e with e1 e2
   refine eX1 (ih xs e2) λys zz=>aN2 zz λq r=>?_
   exact⟨y::ys,q.cons y,by refine ZN ZJ ?_;refine ZN e1.symm ?_;rw[r]⟩
 | swap x y l =>
  intro xs e;cases xs with
  | nil=>cases e
  | cons a xs =>
   cases xs with
   | nil=>cases e
   | cons b xs =>
    injection e with e1 e2
    injection e2 with e2 e3
    exact⟨b::a::xs,.swap _ _ _,by rw[ZJ,ZJ,<- e1,<- e2,<- e3]⟩
 | trans p q ih1 ih2 =>
  intro xs e;refine eX1 (ih2 xs e) λys zz=>aN2 zz λq1 r1=>?_
  refine eX1 (ih1 ys r1) λzs zz=>aN2 zz λq2 r2=>?_
  exact⟨zs,q2.trans q1,r2⟩
theorem Nf {α β:Type}(f:α->β)(xs:Array α)(p:Nat)(x:α):SetTable.insertAt (xs.map f) p (f x)=(SetTable.insertAt xs p x).map f:=by
 apply Array.toList_inj.mp;refine ZN Array.toList_map ?_;rw[SetTable.toList_insertAt,SetTable.toList_insertAt];refine ZN Array.toList_map ?_;simp
theorem C7 (a:Addr)(x:Value)(h:Int)(fuel:Nat):setAddHashedIn a x h (fuel+1)=(do
  let (es₀,_,t₀) <- setState a
  if byScan x es₀ then
   match <- setAddByScan a x h es₀ t₀ with
   | some added=>return added
   | none=>return <- setAddHashedIn a x h fuel
  let .free slot wasDummy <- setSearch a x h (adding:=true) | return false
  let (es,_,t) <- setState a
  let (t,p):=t.put slot
  let byValue <- if t.plain then hashByValue 8 x else pure true
  let t:=if byValue then t else { t with plain:=false }
  storeSet a (SetTable.insertAt es p (h,x)) t
  if !wasDummy && t.tooFull then setRelay a (SetTable.grown (es.size+1))
  return true):=rfl
noncomputable def GS (es:Array (Int×Value)) (laid:Option (SetTable×Array Nat)):Sem (Array (Int×Value)×SetTable):=do
 let some (t,order):=laid | unsupported "internal:set-table-without-room"
 let es':=order.filterMap (es[·]?)
 if es'.size != es.size then unsupported "internal:set-table-lost-an-element"
 pure (es',t)
theorem Ir (a:Addr)(wanted:Nat):setRelay a wanted=(do
 let (es,_,t) <- setState a
 if SetTable.sizeAbove wanted > sizeLine then unsupported "set:memory"
 let (es,t) <- GS es (t.relaid (es.map (·.1)) wanted)
 storeSet a es t):=rfl
section
variable {prog:Program} {w:World} {A:Around} {E:Value->Shared->Prop} {s:Shared}
theorem LQ {y:Value}{k:At}(n:Nat)(h:(BL prog w).is k y=true):∃ b,hashByValue n y=pure b:=by
 cases k
 ·obtain⟨t,rfl⟩:=Bn h;exact⟨true,by cases n <;> rfl⟩
 ·obtain⟨t,rfl⟩:=Bo h;exact⟨false,by cases n <;> rfl⟩
theorem Js {ks:List At}{b:Addr}{Q:Bool->Shared->Prop}(hk:(kK prog w).is s.heap ks b)(h:∀ r,Q r s):wpAny (model prog w) A (hashByValue 8 (.ref b)) Q E s:=by
 have hT:s.TypeIs (.ref b) "tuple":=IsTupleKey.typeIs hk;refine eX3 (hk) λo items n zz=>aN4 zz λho hc hd hi=>?_
 refine wpAny_bind (wpAny_specialOf hT F.slot_tuple_hash.lookup ?_);refine wpAny_bind (wpAny_seqItems ho hd ?_);refine wpAny_bind ?_;refine ZN Array.forIn_toList.symm ?_;refine wpAny_forIn_list _ (λrest r s'=>s'=s/\∀ y∈rest,∃ k,(BL prog w).is k y=true) _ ?_ ?_ _ _ ⟨rfl,Er hi⟩
 ·rintro y rest r s' ⟨rfl,hall⟩
  obtain⟨k,hk⟩:=hall y (.head _);obtain⟨bb,hb⟩:=LQ 7 hk;refine ZN hb ?_;refine wpAny_bind (wpAny_pure ?_);cases bb
  ·simp only[Bool.not_false,if_true]
   exact wpAny_pure (wpAny_pure (h _))
  ·simp only[Bool.not_true,Bool.false_eq_true,if_false]
   exact wpAny_pure ⟨rfl,λz hz=>hall z (.tail _ hz)⟩
 ·rintro⟨r1,r2⟩ s' ⟨rfl,_⟩
  cases r1 <;> exact wpAny_pure (h _)
theorem GT {h h':Heap}{a:Addr}{o:Obj}{es:Array (Int×Value)}{ep:Nat}{t:SetTable}{k:List At}{b:Addr}(hk:(kK prog w).is h k b)(ho:h.get? a=some o)(hd:o.data=.set es ep t)(hs:Heap.SameBut a h h'):(kK prog w).is h' k b:=by
 refine eX3 (hk) λo' items n zz=>aN4 zz λho' hc hd' hi=>?_
 have hne:b≠a:=by
  rintro rfl
  replace ho':=ZO ho.symm ho';cases ho';replace hd':=ZO hd.symm hd';cases hd'
 exact⟨o',items,n,(hs.2 b hne).trans ho',hc,hd',hi⟩
theorem Fn {h:Heap}{a:Addr}{es:Array (Int×Value)}{ep:Nat}{t:SetTable}(ho:h.get? a=some { cls:=.type "set",dict:=none,data:=.set es ep t,slots:=#[] })(es':Array (Int×Value))(t':SetTable) :
  (h.update a (Obj.putSet es' t')).get? a=some { cls:=.type "set",dict:=none,data:=.set es' (ep+1) t',slots:=#[] }:=by
 have:=Heap.get?_update_self (Obj.putSet es' t') ho (by refine ZN (putSet_of es' t' rfl) ?_;rfl);rw[putSet_of es' t' rfl]at this;exact this
theorem LR {a b:Addr}{k:List At}{xs:List (List At×Addr)}{es:Array (Int×Value)}{ep:Nat}{t:SetTable}{Q:Bool->Shared->Prop}(hu:A.units<cLine)(S:TSetAt prog w s.heap a xs es ep t)(hk:(kK prog w).is s.heap k b)
  (h16:xs.length<17)
  (h:∀ (h':Heap) (xs':List (List At×Addr)) (es':Array (Int×Value)) (ep':Nat) (t':SetTable) (r:Bool),Heap.SameBut a s.heap h'->TSetAt prog w h' a xs' es' ep' t'->(k∈xs.map (·.1)->xs'=xs)->(k∉xs.map (·.1)->xs'.Perm ((k,b)::xs))->Q r { s with heap:=h' }) :
  wpAny (model prog w) A (setAddHashed a (.ref b) ((kK prog w).hash k)) Q E s:=by
 refine wpAny_holding ?_;rw[C7];refine wpAny_bind (wpAny_setState_of S.here rfl S.fits ?_);dsimp only;refine ZN (show byScan (.ref b) es=false from rfl) ?_;refine eX1 (S.tab.start ((kK prog w).hash k)) λK zz=>aN2 zz λhK hKe=>?_
 have hK2:K<100000:=by
  have:SetTable.turns t.mask<=46:=by unfold SetTable.turns;rcases S.tab.mask with e | e <;> rw[e] <;> lia
  exact Zb (Zc (Zl hK) (Nat.mul_le_mul (Zg _) this)) (Za rfl)
 refine wpAny_bind ?_;refine Iq hu S hk (λhm=>?_) (λhm j hv hj hp=>?_) hK hKe 100000 0 none rfl (Zm _) (Zb (Nat.sub_le _ _) hK2) (λc' hc'=>absurd hc' (Nat.not_lt_zero _)) rfl
 ·dsimp only
  refine wpAny_pure ?_;have e:s={ s with heap:=s.heap }:=by cases s;rfl
  rw[e];exact h s.heap xs es ep t false (Heap.SameBut.refl a s.heap) S (λ_=>rfl) (λq=>absurd hm q)
 ·dsimp only
  refine wpAny_bind (wpAny_setState_of S.here rfl S.fits ?_);have P:=S.tab.put hv hj
  have hPp:=S.paths.put S.tab rfl (h:=(kK prog w).hash k) (x:=.ref b) hv hp
  have hput2:(t.put j).2=SetTable.below t.place j:=by rw[Jo S.tab.dum]
  generalize hT:t.put j=T at *;obtain⟨t1,p⟩:=T;have hx1:(SetTable.insertAt es p ((kK prog w).hash k,.ref b)).toList=(SetTable.insertAt xs.toArray p (k,b)).toList.map λx=>((kK prog w).hash x.1,Value.ref x.2):=by
   rw[SetTable.toList_insertAt,SetTable.toList_insertAt];refine ZN S.ents ?_;simp
  have hperm:(SetTable.insertAt xs.toArray p (k,b)).toList.Perm ((k,b)::xs):=by
   refine (SetTable.insertAt_perm _ _ _).trans ?_;refine ZN Array.toList_push ?_;exact List.perm_append_singleton _ _
  generalize hX:(SetTable.insertAt xs.toArray p (k,b)).toList=X at hx1 hperm;generalize hE:SetTable.insertAt es p ((kK prog w).hash k,Value.ref b)=E1 at hx1 hPp ⊢;have hnd:∀ X':List (List At×Addr),X'.Perm X->(X'.map (·.1)).Nodup:=λX' hp=>by
   exact (((hp.trans hperm).map (·.1)).nodup_iff.mpr) (by refine ZN ZJ ?_;refine List.nodup_cons.mpr ?_;exact⟨hm,S.nodup⟩)
  have hE1:E1.size=es.size+1:=by refine ZN hE.symm ?_;rw[EI]
  have keysAt:∀ X':List (List At×Addr),X'.Perm X->∀ h':Heap,Heap.SameBut a s.heap h'->∀ x∈X',(kK prog w).is h' x.1 x.2:=λX' hp h' hs x hx=>by
   have:x∈(k,b)::xs:=(hp.trans hperm).mem_iff.mp hx;rcases Zz this with rfl | q
   ·exact GT hk S.here rfl hs
   ·exact GT (S.keys x q) S.here rfl hs
  have step:∀ byv:Bool,wpAny (model prog w) A (do
    storeSet a E1 (if byv then t1 else { t1 with plain:=false })
    if !false && (if byv then t1 else { t1 with plain:=false }).tooFull then setRelay a (SetTable.grown (es.size+1))
    return true) Q E s:=by
   intro byv;have hsize:(if byv then t1 else { t1 with plain:=false }).place.size=es.size+1:=by cases byv <;> exact P.size
   have hdum:(if byv then t1 else { t1 with plain:=false }).dummies = #[]:=by cases byv <;> exact P.dum
   have hmask:(if byv then t1 else { t1 with plain:=false }).mask=t.mask:=by cases byv <;> exact P.mask
   have hrises:CN (if byv then t1 else { t1 with plain:=false }).place:=by cases byv <;> exact P.rises
   have hle:∀ i,∀ (h:i<(if byv then t1 else { t1 with plain:=false }).place.size),(if byv then t1 else { t1 with plain:=false }).place[i]<=(if byv then t1 else { t1 with plain:=false }).mask:=by cases byv <;> exact P.le
   have hled:(if byv then t1 else { t1 with plain:=false }).led=t.led:=by cases byv <;> exact P.led
   have hpaths:Paths (if byv then t1 else { t1 with plain:=false }) E1:=by
    cases byv
    ·intro i j' e e1 e2
     refine eX1 (hPp i j' e e1 e2) λc zz=>aN2 zz λq1 q2=>?_
     have hmk:({ t1 with plain:=false }:SetTable).mask=t1.mask:=rfl;refine⟨c,?_,λc' hc'=>?_⟩
     ·show (adv { t1 with plain:=false } c (SetTable.probeStart { t1 with plain:=false } e.1)).j=j'
      rw[CS hmk,Cm hmk];exact q1
     ·show (adv { t1 with plain:=false } c' (SetTable.probeStart { t1 with plain:=false } e.1)).j∈_
      rw[CS hmk,Cm hmk];exact q2 c' hc'
    ·exact hPp
   generalize (if byv then t1 else { t1 with plain:=false })=t2 at *;refine wpAny_bind (wpAny_storeSet_of S.here rfl ?_ (by refine ZN hE1 ?_;refine ZN sizeLine_eq ?_;refine ZN S.length ?_;exact Zw (Ze h16 (Za rfl))));have g1:=Fn S.here E1 t2
   have sb1:=Heap.SameBut.update s.heap a (Obj.putSet E1 t2);cases hfull:t2.tooFull with
   | false =>
    refine wpAny_pure ?_;have T2:TabOk t2 E1.size:=by
     refine ZN hE1 ?_;refine⟨hsize,hdum,by refine ZN hmask ?_;exact S.tab.mask,hrises,hle,?_⟩;unfold SetTable.tooFull SetTable.fill at hfull;rw[hsize,hdum]at hfull;simpa using hfull
    exact h _ X E1 (ep+1) t2 true sb1 ⟨g1,T2,λq=>by refine ZO hled ?_;exact S.led q,hpaths,hx1,keysAt X (.refl _) _ sb1,hnd X (.refl _)⟩ (λq=>absurd q hm) λ_=>hperm
   | true =>
    have hn4:es.size=4/\t2.mask=7:=by
     unfold SetTable.tooFull SetTable.fill at hfull;rw[hsize,hdum]at hfull;have h3:(es.size+1+0) * 5≥t2.mask * 3:=by simpa using hfull
     have h4:=S.tab.room
     have h5:=S.length;rcases S.tab.mask with e | e
     ·rw[hmask]at h3 ⊢;rw[e]at h3 h4 ⊢;lia
     ·rw[hmask]at h3;rw[e]at h3 h4;lia
    refine ZN hn4.1 ?_;rw[Ir];have fits1:t2.fits E1.size=true:=by
     simp only[SetTable.fits,SetTable.fill,hdum,Bool.and_eq_true,beq_iff_eq,decide_eq_true_eq];refine ZN hsize ?_;refine ZN hE1 ?_;refine ZN hn4.1 ?_;refine ZN hn4.2 ?_;exact⟨rfl,by decide⟩
    refine wpAny_bind (wpAny_bind (wpAny_setState_of g1 rfl fits1 ?_));dsimp only;rw[if_neg (by rw[sizeLine_eq];decide)];refine eX2 (Jq (mask:=31) (finger:=t2.finger) (moves:=t2.movedTo 31) (led:=t2.led) (plain:=t2.plain) (es:=E1) (.inr rfl) (by refine ZN hE1 ?_;refine ZN hn4.1 ?_;decide)) λt3 o zz=>aN6 zz λr1 r2 r3 r4 r5 r6=>?_
    have hrel:t2.relaid (E1.map (·.1)) (SetTable.grown (4+1))=some (t3,o):=by
     unfold SetTable.relaid;refine ZN (show SetTable.sizeAbove (SetTable.grown (4+1)) - 1=31 from by decide) ?_;exact r1
    refine ZN hrel ?_;unfold GS;dsimp only;have hsz2:(o.filterMap (E1[·]?)).size=E1.size:=by refine ZO Array.length_toList.symm ?_;refine ZO r5.length_eq ?_;exact Array.length_toList
    rw[if_neg (by rw[hsz2];simp)];refine wpAny_bind (wpAny_pure ?_);dsimp only;refine wpAny_storeSet_of g1 rfl ?_ (by refine ZN hsz2 ?_;refine ZN hE1 ?_;refine ZN hn4.1 ?_;refine ZN sizeLine_eq ?_;exact Za rfl);refine wpAny_pure ?_;have sb2:=sb1.trans (Heap.SameBut.update _ a (Obj.putSet (o.filterMap (E1[·]?)) t3));refine eX1 (CJ r5 X hx1) λX2 zz=>aN2 zz λp2 e2=>?_
    exact h _ X2 _ (ep+1+1) t3 true sb2 ⟨(Fn g1 (o.filterMap (E1[·]?)) t3),by refine ZN hsz2 ?_;exact r2,λq=>by refine ZO r3 ?_;refine ZO hled ?_;exact S.led q,r6,e2,keysAt X2 p2 _ sb2,hnd X2 p2⟩ (λq=>absurd q hm) λ_=>p2.trans hperm
  split
  ·refine wpAny_bind (Js hk λr=>?_)
   exact step r
  ·refine wpAny_bind (wpAny_pure ?_)
   exact step true
end
noncomputable abbrev BA (w:World):Obj:={ cls:=.type "set",dict:=none,data:=.set #[] 0 (.fresh 0 0 (!byT w)) }
section
variable {prog:Program} {w:World} {A:Around} {E:Value->Shared->Prop} {s:Shared}
theorem M6 (a:Value){Q₁:Value->Shared->Prop}(h:Q₁ (.ref s.heap.objs.size) { s with heap:=s.heap.push (BA w) }) :
  codeAny (model prog w) A (.call (.builtin "set.__new__") ⟨[.type "set",a],[]⟩) (wants Q₁ E) s:=by
 refine codeAny_of_tree ?_;show wpAny _ A.in1 (do checkBuiltinCall "set.__new__" ⟨[.type "set",a],[]⟩;again (.builtin "set.__new__" ⟨[.type "set",a],[]⟩)) _ _ s;refine wpAny_bind (wpAny_of_eq (PySem.F.newCall_set_1 a) (wpAny_pure ⟨plainId_quiet PySem.F.plain_set_new _,codeAny_builtin PySem.F.entry_set_new ?_⟩));refine ZN (Around.under_plainId PySem.F.plain_set_new _) ?_;unfold Builtin.«set.__new__» Builtin.Frozenset.newClass;have hsub:=sub_set_self;obtain⟨hp,g,d,tk,os⟩:=s;dsimp only
 wp_walk
 refine wpAny_askSetting (wpAny_pure ?_);dsimp only;simp only[newObj];refine wpAny_bind (wpAny_alloc (wpAny_pure ?_));exact wpAny_pure h
theorem It {R:Result->Shared->Prop}{I:Addr}{fp wr:List Addr}{G:Array GenState->Array GenState->Prop}{n:Nat}{P:Nat->Value->Prop}{St:Nat->Shared->Prop}
  (W:WalksS prog w A.in1 I fp wr G n P St) (S:Addr) (hSf:S∉fp) (Inv:Nat->Heap->Prop)
  (hfr:∀ i h h',Inv i h->(∀ b o,b∉wr->h.get? b=some o->h'.get? b=some o)->Inv i h')
  (hstep:∀ (i:Nat) (v:Value) (s:Shared) (E:Value->Shared->Prop) (Q:Bool->Shared->Prop),i<n->P i v->Inv i s.heap->(∀ h' tk r,Heap.SameBut S s.heap h'->Inv (i+1) h'->s.toks<=tk->Q r { s with heap:=h',toks:=tk })->wpAny (model prog w) A.in1 (setAdd S v) Q E s) :
  ∀ (k i:Nat) (s:Shared),n - i=k->i<=n->St i s->Inv i s.heap ->
   (∀ s',Moved (S::wr) G s s'->Inv n s'.heap->R (.ok (.ret .none)) s') ->
   codeAny (model prog w) A (.builtin "set.update.loop" ⟨[.ref S,.ref I],[]⟩) R s:=by
 have hSw:S∉wr:=λh=>hSf (W.sub _ h)
 have hsub:∀ b∈wr,b∈S::wr:=λb hb=>List.mem_cons_of_mem _ hb
 intro k
 induction k with
 | zero =>
  intro i s hk hi hst hS hR;have hin:i=n:=Zv hi (Nat.le_of_sub_eq_zero hk);subst hin;refine codeAny_builtin PyProof.Rows.F.entry_set_update_loop ?_;refine ZN (Around.under_plainId PyProof.Rows.F.plain_set_update_loop _) ?_;show wpAny _ A.in1 (pyNext (.ref I) >>= _) _ _ s;refine wpAny_bind (W.done s _ _ hst λs' hm=>?_);show wpAny _ A.in1 (ret Value.none) _ _ s';exact wpAny_pure (hR s' (hm.mono hsub) (hfr _ _ _ hS λb o hb e=>hm.heap b o hb e))
 | succ k ih =>
  intro i s hk hi hst hS hR;have hlt:i<n:=Internal.step_in hk;refine codeAny_builtin PyProof.Rows.F.entry_set_update_loop ?_;refine ZN (Around.under_plainId PyProof.Rows.F.plain_set_update_loop _) ?_;show wpAny _ A.in1 (pyNext (.ref I) >>= _) _ _ s;refine wpAny_bind (W.item i s _ _ hlt hst λv s' hP hst' hm=>?_);show wpAny _ A.in1 (holding [v] (setAdd S v) >>= _) _ _ s';refine wpAny_bind (wpAny_holding (hstep i v s' _ _ hlt hP (hfr _ _ _ hS λb o hb e=>hm.heap b o hb e) λh' tk r hsb hI htk=>?_));refine wpAny_pure ⟨plainId_quiet PyProof.Rows.F.plain_set_update_loop _,ih (i+1) _ (Internal.step_eq hk) hlt (W.frame _ s' _ _ hst' htk λb hb o e=>?_) hI λs'' hm'' hS''=>?_⟩
  ·exact (hsb.2 b (λh:b=S=>hSf (by refine ZN h.symm ?_;exact hb))).trans e
  ·refine hR s'' (Moved.trans W.gtrans ((hm.mono hsub).then_heap htk λb o hb e=>?_) hm'') hS''
   exact (hsb.2 b (λh:b=S=>hb (by refine ZN h ?_;exact List.mem_cons_self))).trans e
set_option maxHeartbeats 3200000 in
theorem F3 {l:Addr}{items:Array Value}{Q:Value->Shared->Prop}(Inv:Addr->Addr->Nat->Heap->Prop)
  (hh:A.handled=none) (hl:IsLx s.heap l items)
  (h0:Inv s.heap.objs.size (s.heap.objs.size+1) 0 ((s.heap.push (BA w)).push { cls:=.type "list_iterator",data:=.fields #[.ref l,.int 0 0] }))
  (hfr:∀ i h h',Inv s.heap.objs.size (s.heap.objs.size+1) i h->(∀ b o,b≠s.heap.objs.size+1->h.get? b=some o->h'.get? b=some o)->Inv s.heap.objs.size (s.heap.objs.size+1) i h')
  (hstep:∀ (i:Nat) (v:Value) (A':Around) (s':Shared) (E:Value->Shared->Prop) (Q:Bool->Shared->Prop),A'.units<=A.units+16->i<items.size->items[i]? = some v->Inv s.heap.objs.size (s.heap.objs.size+1) i s'.heap ->
   (∀ h' tk r,Heap.SameBut s.heap.objs.size s'.heap h'->Inv s.heap.objs.size (s.heap.objs.size+1) (i+1) h'->s'.toks<=tk->Q r { s' with heap:=h',toks:=tk })->wpAny (model prog w) A' (setAdd s.heap.objs.size v) Q E s')
  (h:∀ (h':Heap) (tk:Nat),Inv s.heap.objs.size (s.heap.objs.size+1) items.size h' ->
   (∀ b o,b<s.heap.objs.size->s.heap.get? b=some o->h'.get? b=some o)->Q (.ref s.heap.objs.size) { s with heap:=h',toks:=tk }) :
  wpAny (model prog w) A (call (.type "set") [.ref l]) Q E s:=by
 obtain⟨c,tl,hmro⟩:=PySem.F.called_set.mro;have hmade:=PySem.F.called_set.made
 have hsub:=PySem.F.called_set.sub;refine wpAny_call (codeAny_of_tree ?_);show wpAny _ _ (callAny (.type "set") _) _ _ _;refine wpAny_pure ⟨Code.quiet_builtin _ (by decide +kernel),codeAny_builtin F.entry_type_call ?_⟩;refine ZN (Around.under_plain (weight_type_call_type "set" [.ref l] []) rfl) ?_;have h1:=PySem.F.called_set.notType
 have h2:=PySem.F.called_set.canCreate
 have hct:=PySem.F.typeCall_set_1 (.ref l)
 repeat (any_goals (first | assumption | wp_step))
 refine codeAny_mono (M6 (.ref l) (E:=E) (Q₁:=λobj s₁=>obj=.ref s.heap.objs.size/\s₁={ s with heap:=s.heap.push (BA w) }) ⟨rfl,rfl⟩) λr s₁ hr=>?_
 cases r with
 | error e=>exact hr
 | ok fl =>
  cases fl with
  | ret obj =>
   obtain⟨rfl,rfl⟩:=hr;have hS:(s.heap.push (BA w)).get? s.heap.objs.size=some (BA w):=Heap.get?_push_size _ rfl
   have hT:Shared.TypeIs { s with heap:=s.heap.push (BA w) } (.ref s.heap.objs.size) "set":=⟨_,hS,rfl⟩
   have hli:=PySem.F.called_set.init.lookup
   have hbi:=PySem.F.called_set.init.bind (.ref s.heap.objs.size)
   repeat (any_goals (first | assumption | wp_step))
   refine codeAny_mono (codeAny_call_builtin (R:=wants (λr s₂=>r=.none/\∃ h' tk,s₂={ s with heap:=h',toks:=tk } /\
     Inv s.heap.objs.size (s.heap.objs.size+1) items.size h' /\
     (∀ b o,b<s.heap.objs.size->s.heap.get? b=some o->h'.get? b=some o)) E) PySem.F.called_set.init.plain PySem.F.entry_set_init (check_set_init_1 hT ?_)) λr₂ s₂ hr₂=>?_
   ·obtain⟨nl,hol⟩:=hl
    have hol':(s.heap.push (BA w)).get? l=some { cls:=.type "list",data:=.seq items nl }:=Heap.get?_push_of_some _ hol
    have hsls:=PySem.F.sub_list_set
    have hslf:=PySem.F.sub_list_frozenset
    have hne:(Value.type "list" == Value.type "dict")=false:=by decide
    have hl1:(s.heap.push (BA w)).IsList l items:=⟨_,hol',rfl,nl,rfl⟩
    unfold Builtin.«set.__init__» noKeywords Builtin.Frozenset.updateFrom;generalize hPI:pyIter=PI
    wp_walk
    subst hPI;refine wpAny_pyIter_list hl1 ?_;refine wpAny_bind (wpAny_runValue ?_);have hlS:l<s.heap.objs.size:=Heap.lt_size hol
    have hsz2:(s.heap.push (BA w)).objs.size=s.heap.objs.size+1:=Heap.size_push ..
    have hneI:l≠(s.heap.push (BA w)).objs.size:=by
     rw[Heap.size_push];exact Zk (Zi hlS)
    have hSf:s.heap.objs.size∉[(s.heap.push (BA w)).objs.size,l]:=by
     rw[Heap.size_push];simp only[List.mem_cons,List.mem_singleton,List.not_mem_nil,or_false,not_or];exact⟨Zk (Zo _),Zf hlS⟩
    refine It ((Walks.list (by simp[hh]) _ l hneI items).toS) s.heap.objs.size hSf (Inv s.heap.objs.size (s.heap.objs.size+1)) ?hfr ?hstep (items.size - 0) 0 _ (rfl) (Zm _)
     ⟨⟨_,Heap.get?_push_size _ rfl,rfl,rfl⟩,(hl1.push _)⟩ h0 ?hR
    case hfr =>
     intro i h1 h2 hI hk;refine hfr i h1 h2 hI λb o hb e=>hk b o (λq=>hb ?_) e
     refine ZN hsz2.symm ?_;exact Zx q
    case hstep =>
     intro i v s' E' Q' hi hP hI hQ;refine hstep i v _ s' E' Q' ?_ hi hP hI hQ;simp
    case hR =>
     intro s' hm hS';obtain⟨h',g',d',tk',os'⟩:=s';have eg:g'=s.gens:=hm.gens
     have ed:d'=s.drawn:=hm.drawn
     have eo:os'=s.os:=hm.os;subst eg;subst ed;subst eo;show wpAny _ _ _ _ _ _;refine wpAny_pure ?_;show wpAny _ _ (ret Value.none) _ _ _;refine wpAny_pure ⟨rfl,h',tk',rfl,hS',λb o hb e=>?_⟩;have hb1:b≠s.heap.objs.size:=Zk hb
     have hb2:b≠(s.heap.push (BA w)).objs.size:=by
      rw[Heap.size_push];exact Zk (Zi hb)
     exact hm.heap b o (by simp only[List.mem_cons,List.mem_singleton,List.not_mem_nil,or_false,not_or];exact⟨hb1,hb2⟩) (Heap.get?_push_of_some _ (Heap.get?_push_of_some _ e))
   ·cases r₂ with
    | error e=>exact hr₂
    | ok fl₂ =>
     cases fl₂ with
     | ret r =>
      obtain⟨rfl,h',tk,rfl,hS',hk'⟩:=hr₂
      repeat (any_goals (first | assumption | wp_step))
      exact h _ _ hS' hk'
     | _=>exact hr₂.elim
  | _=>exact hr.elim
end
section
variable {g:Gl} {μ μ':List Addr} {h h':Heap} {X:CK} {d k:Nat} {sc:Scope}
theorem Dm {α:Type}:∀ {a b:List α},a.Nodup->(∀ x∈a,x∈b)->a.length<=b.length
 | [],b,_,_=>Zm _
 | x::r,b,hn,hs=>by
  have h1:=List.nodup_cons.mp hn;refine eX2 (List.append_of_mem (hs x (.head _))) λp q e=>?_
  subst e;have:r.length<=(p++q).length:=Dm h1.2 λy hy=>by
   rcases ZA (hs y (.tail _ hy))with z | z
   ·exact List.mem_append_left _ z
   ·rcases Zz z with rfl | z
    ·exact absurd hy h1.1
    ·exact List.mem_append_right _ z
  simp only[ZG,List.length_cons]at this ⊢;lia
theorem Hy {U:MH}{s:Shared}{Q:Value->Shared->Prop}{h1:Heap}{tk:Nat}{dr:Drawn}{vs out:List Value}{ws:List MV}(r:Rel g μ U s)(bg:Big s.heap)(gr:Grow s.heap h1)(vr:VRels g μ h1 ws out)(th:Then g μ s (.fl ws) U Q) :
  Q (.ref h1.objs.size) { s with heap:=sortedHeap (h1.push (seqObj "list" vs.toArray 0)) h1.objs.size vs out.toArray,toks:=tk,drawn:=dr }:=by
 obtain⟨e,he⟩:=sortedHeap_at (out:=out.toArray) (Heap.get?_push_size _ rfl);have kp:∀ b o,h1.get? b=some o->(sortedHeap (h1.push (seqObj "list" vs.toArray 0)) h1.objs.size vs out.toArray).get? b=some o:=λb o q=>by
  have hlt:=Heap.lt_size q;refine ZN (sortedHeap_old (Zk hlt) (by rw[Heap.size_push];exact Zi hlt)) ?_;exact Heap.get?_push_of_some _ q
 have r1:Rel g μ U { s with heap:=h1 }:=r.grow gr;refine th.grow r (s':={ s with heap:=_,toks:=tk,drawn:=dr }) (gr.trans (Grow.of_keep kp)) ⟨rfl,rfl⟩ (.fl (items:=out.toArray) ⟨e,he⟩ ⟨BQ r1,DB r1⟩ (bg.keeps gr.keep).size ?_);refine ZN List.toList_toArray ?_;exact vr.ext ((Grow.of_keep kp).ext [] μ) LocOk.nil
theorem EJ {U:MH}{s:Shared}{A:Around}{E:Value->Shared->Prop}{Q:Value->Shared->Prop}{h1:Heap}{tk1:Nat}{a:Addr}{es:Array (Int×Value)}{ep:Nat}{t:SetTable}{ws:List MV}(r:Rel g μ U s)(bg:Big s.heap)(rm:Room A d k)
  (gr:Grow s.heap h1) (S:SetLook g.w h1 a es ep t) (hz:es.size<64)
  (hout:∀ (h2:Heap) (ord:List (Int×Value)),(∀ b o,h1.get? b=some o->h2.get? b=some o)->ord.Perm es.toList->∃ out:List Value,(ord.length<2->out=ord.map (·.2)) /\
   (2<=ord.length->∀ (s3:Shared) (A':Around),(∀ b o,h2.get? b=some o->s3.heap.get? b=some o)->El g.prog g.w A' (ord.map (·.2)) out s3)/\VRels g μ h2 ws out)
  (th:Then g μ s (.fl ws) U Q):wpAny (model g.prog g.w) A (call (.builtin "sorted") [.ref a]) Q E { s with heap:=h1,toks:=tk1 }:=by
 refine ES (Ij (s:={ s with heap:=h1,toks:=tk1 }) rm.handled S (Zl (Ze hz (Za rfl))) λh2 tk dr ord kp perm=>?_);refine eX1 (hout h2 ord kp perm) λout zz=>aN3 zz λo1 o2 o3=>?_
 have hl:ord.length=es.size:=by refine ZO perm.length_eq ?_;exact Array.length_toList
 refine⟨out,by rw[ZF];refine ZN hl ?_;exact hz,by rw[ZF];exact o1,λh3 h4 k4=>o2 (by simpa using h3) _ _ k4,?_⟩;exact Hy (s:=s) (tk:=tk) (dr:=dr) r bg (gr.trans (Grow.of_keep kp)) o3 th
theorem Iu {α β:Type}{f:α->Option β}{v:α}{l:List α}{ks:List β}(e:(v::l).mapM f=some ks):∃ t ts,f v=some t/\l.mapM f=some ts/\ks=t::ts:=by
 replace e:=ZO List.mapM_cons.symm e;refine eX1 (bs e) λt zz=>aN2 zz λe1 e=>?_
 refine eX1 (bs e) λts zz=>aN2 zz λe2 e=>?_
 cases e;exact (eI2 t ts ⟨e1,e2,rfl⟩)
theorem Ng {l:List MV}{ks:List At}(e:l.mapM MV.at? = some ks):l=ks.map At.mv:=by
 induction l generalizing ks with
 | nil=>cases e;rfl
 | cons v l ih =>
  refine eX2 (Iu e) λt ts zz=>aN3 zz λe1 e2 q5=>?_;subst q5
  refine ZN ZJ ?_;refine ZN (ih e2).symm ?_;cases v <;> cases e1 <;> rfl
structure Inp (g:Gl) (μ:List Addr) (h:Heap) (inp:List (List At×Addr)):Prop where
 is:∀ x∈inp,(kK g.prog g.w).is h x.1 x.2
 rel:∀ x∈inp,VRel g μ h (.tup (x.1.map At.mv)) (.ref x.2)
theorem M7 {l:List MV}{ks:List (List At)}{xs:List Value}(e:l.mapM MV.key? = some ks)(vr:VRels g μ h l xs):∃ inp:List (List At×Addr),Inp g μ h inp/\inp.map (·.1)=ks/\xs=inp.map λx=>.ref x.2:=by
 induction l generalizing ks xs with
 | nil=>cases e;cases (show xs=[]from vr);exact⟨[],⟨(λ_ h=>nomatch h),(λ_ h=>nomatch h)⟩,rfl,rfl⟩
 | cons v l ih =>
  refine eX2 (Iu e) λt ts zz=>aN3 zz λe1 e2 q5=>?_;subst q5
  refine eX2 (vr) λy ys zz=>aN3 zz λq3 a b=>?_;subst q3
  refine eX1 (ih e2 b) λinp zz=>aN3 zz λi1 i2 i3=>?_
  have hv:∃ m,v=.tup m:=by cases v <;> first | exact⟨_,rfl⟩ | cases e1
  obtain⟨m,rfl⟩:=hv;refine eX1 (DS e1 a) λc zz=>aN4 zz λq2 c1 c2 c3=>?_;subst q2
  rw[(Ng (show m.mapM MV.at? = some t from e1))]at a;refine⟨(t,c)::inp,⟨λx hx=>?_,λx hx=>?_⟩,by refine ZO ZJ ?_;rw[i2],by refine ZN ZJ ?_;rw[i3]⟩
  ·rcases Zz hx with rfl | hx
   ·exact c3
   ·exact i1.is x hx
  ·rcases Zz hx with rfl | hx
   ·exact a
   ·exact i1.rel x hx
theorem TSetAt.frame {prog:Program}{w:World}{h h':Heap}{a:Addr}{xs:List (List At×Addr)}{es:Array (Int×Value)}{ep:Nat}{t:SetTable}(S:TSetAt prog w h a xs es ep t)(ha:∀ o,h.get? a=some o->h'.get? a=some o)(hx:∀ x∈xs,(kK prog w).is h' x.1 x.2):TSetAt prog w h' a xs es ep t :=
 ⟨ha _ S.here,S.tab,S.led,S.paths,S.ents,hx,S.nodup⟩
theorem Cd {prog:Program}{w:World}{h h':Heap}{k:List At}{b:Addr}(hk:(kK prog w).is h k b)(kp:∀ o,h.get? b=some o->h'.get? b=some o):(kK prog w).is h' k b:=by
 refine eX3 (hk) λo' items n zz=>aN4 zz λho' hc hd' hi=>?_
 exact⟨o',items,n,kp _ ho',hc,hd',hi⟩
theorem F4 {α:Type}{lt:α->α->Bool}(O:LtOk lt){a b:List α}(p:a.Perm b):BJ lt a=BJ lt b:=Ft O ((Bm a).trans p) (E8 O a)
theorem Jt {U:MH}{s:Shared}{A:Around}{E:Value->Shared->Prop}{Q:Value->Shared->Prop}{l:List MV}{ks:List (List At)}{y:Value}(r:Rel g μ U s)(bg:Big s.heap)(rm:Room A d k)(vy:VRel g μ s.heap (.fl l) y)(hk:l.mapM MV.key? = some ks)(ho:ks.all E7=true)(h16:(BG ks).length<=16)
  (th:Then g μ s (.fl ((BJ Ag (BG ks)).map λk=>.tup (k.map At.mv))) U Q) :
  wpAny (model g.prog g.w) A (call (.type "set") [y]) (λz s₁=>wpAny (model g.prog g.w) A (call (.builtin "sorted") [z]) Q E s₁) E s:=by
 refine eX2 (vy) λaa ia zz=>aN5 zz λq3 hlx hna h2a vrs=>?_;subst q3
 refine eX1 (M7 hk vrs) λinp zz=>aN3 zz λi1 i2 i3=>?_
 have hlow:∀ x∈inp,x.2<s.heap.objs.size:=λx hx=>by
  refine eX3 (i1.is x hx) λo _ _ zz=>aN2 zz λe _=>?_
  exact Heap.lt_size e
 have hu:=rm.line;refine F3 (λS I i h'=>∃ xs es ep t,TSetAt g.prog g.w h' S xs es ep t/\(∀ x∈xs,x∈inp)/\(∀ x∈inp,(kK g.prog g.w).is h' x.1 x.2)/\∀ k,k∈xs.map (·.1)↔k∈(inp.take i).map (·.1)) rm.handled hlx ?h0 ?hfr ?hstep ?hend
 case h0 =>
  have hS:((s.heap.push (BA g.w)).push { cls:=.type "list_iterator",data:=.fields #[.ref aa,.int 0 0] }).get? s.heap.objs.size=some (BA g.w):=Heap.get?_push_of_some _ (Heap.get?_push_size _ rfl);refine⟨[],#[],0,_,⟨hS,⟨rfl,rfl,.inl rfl,λi j _ h=>absurd h (Nat.not_lt_zero _),λi h=>absurd h (Nat.not_lt_zero _),(show 0 * 5<7 * 3 from by decide)⟩,λq=>by show (!byT g.w)=true;refine ZN q ?_;rfl,λi j e h=>by simp[SetTable.fresh]at h,rfl,(λ_ h=>nomatch h),.nil⟩,(λ_ h=>nomatch h),λx hx=>Cd (i1.is x hx) λo e=>Heap.get?_push_of_some _ (Heap.get?_push_of_some _ e),λk=>by simp⟩
 case hfr =>
  intro i h1 h2 y3 hk;refine eX4 (y3) λxs es ep t zz=>aN4 zz λT q1 q2 q3=>?_
  have keyok:∀ x∈inp,(kK g.prog g.w).is h2 x.1 x.2:=λx hx=>Cd (q2 x hx) λo e=>hk _ o (Zk (Zi (hlow x hx))) e
  exact⟨xs,es,ep,t,T.frame (λo e=>hk _ o (Zk (Zo _)) e) λx hx=>keyok x (q1 x hx),q1,keyok,q3⟩
 case hstep =>
  intro i v A' s' E' Q' hA hi hv y9 hQ;refine eX4 (y9) λxs es ep t zz=>aN4 zz λT q1 q2 q3=>?_
  replace hv:=ZO (Array.getElem?_toList) hv;rw[i3]at hv;replace hv:=ZO (ZH).symm hv;refine eX1 (ZD hv) λx zz=>aN2 zz λhx q3=>?_;subst q3
  have hxm:=Zy hx
  have hkx:=q2 x hxm;refine wpAny_holding (wpAny_bind ((kK g.prog g.w).pyHash (show A'.units<cLine by exact Ze (Zb hA (Nat.add_lt_add_left (Za rfl) _)) hu) hkx ?_));have hlen:xs.length<17:=by
   have:=Dm (b:=BG ks) T.nodup λk hk=>by
    refine mem_dedup.mpr ?_;refine ZN i2.symm ?_;have:=(q3 k).mp hk;refine eX1 (ZB this) λz zz=>aN2 zz λhz q3=>?_;subst q3
    exact ZE (List.mem_of_mem_take hz)
   rw[ZF]at this;exact Zb (Zc this h16) (Za rfl)
  refine LR (s:={ s' with toks:=_ }) (show A'.units<cLine by exact Ze (Zb hA (Nat.add_lt_add_left (Za rfl) _)) hu) T hkx hlen λh2 xs' es' ep' t' rr sb T' p1 p2=>?_
  have htake:(inp.take (i+1))=inp.take i++[x]:=by
   refine ZO List.take_add_one ?_;refine ZN hx ?_;rfl
  refine hQ h2 _ rr sb ⟨xs',es',ep',t',T',λz hz=>?_,λz hz=>?_,λk=>?_⟩ (Zt _ _)
  ·by_cases q:x.1∈xs.map (·.1)
   ·rw[p1 q]at hz;exact q1 z hz
   ·have:=(p2 q).mem_iff.mp hz
    rcases Zz this with rfl | z2
    ·exact hxm
    ·exact q1 z z2
  ·exact GT (q2 z hz) T.here rfl sb
  ·refine ZN htake ?_;refine ZN List.map_append ?_;rw[List.mem_append,<- q3 k]
   by_cases q:x.1∈xs.map (·.1)
   ·refine ZN (p1 q) ?_
    constructor
    ·exact .inl
    ·rintro (z | z)
     ·exact z
     ·simp only[ZJ,List.map_nil,List.mem_singleton]at z;refine ZN z ?_;exact q
   ·rw[((p2 q).map (·.1)).mem_iff]
    simp only[ZJ,List.mem_cons,List.map_nil,List.mem_singleton,List.not_mem_nil,or_false];exact⟨λz=>z.elim .inr .inl,λz=>z.elim .inr .inl⟩
 case hend =>
  intro h2 tk y2 kp;refine eX4 (y2) λxs es ep t zz=>aN4 zz λT q1 q2 q3=>?_
  have kp2:∀ b o,s.heap.get? b=some o->h2.get? b=some o:=λb o e=>kp b o (Heap.lt_size e) e
  have gr:Grow s.heap h2:=Grow.of_keep kp2
  have hlen:xs.length<=16:=by
   have:=Dm (b:=BG ks) T.nodup λk hk=>by
    refine mem_dedup.mpr ?_;refine ZN i2.symm ?_;have:=(q3 k).mp hk;refine eX1 (ZB this) λz zz=>aN2 zz λhz q3=>?_;subst q3
    exact ZE (List.mem_of_mem_take hz)
   rw[ZF]at this;exact Zc this h16
  have hsz:es.size=xs.length:=T.length
  have hkeys:(xs.map (·.1)).Perm (BG ks):=EL T.nodup λx=>by
   rw[q3 x];have:inp.take ia.size=inp:=by
    apply List.take_of_length_le;have:ia.toList.length=inp.length:=by refine ZN i3 ?_;rw[ZF]
    refine ZN Array.length_toList.symm ?_;refine ZN this ?_;exact Zg _
   refine ZN this ?_;rw[i2]
  refine EJ (s:=s) (tk1:=tk) (es:=es) (ep:=ep) (t:=t) r bg rm gr ⟨T.here,T.fits,T.tab.rises,T.led⟩ (Zb (le_of_eq_of_le hsz hlen) (Za rfl)) (λh3 ord kp3 perm=>?_) th;obtain⟨ys,y1,y2⟩:=CJ perm xs T.ents;have hvs:ord.map (·.2)=ys.map λx=>Value.ref x.2:=by refine ZN y2 ?_;refine ZO List.map_map ?_;rfl
  have hyi:∀ x∈ys,x∈inp:=λx hx=>q1 x (y1.mem_iff.mp hx)
  have hks:BJ Ag (BG ks)=BJ Ag (ys.map (·.1)):=F4 keyLt_ok (hkeys.symm.trans (y1.map (·.1)).symm)
  have hol:ord.length=ys.length:=by refine ZN y2 ?_;rw[ZF]
  have keyIs:∀ x∈inp,(kK g.prog g.w).is h3 x.1 x.2:=λx hx=>Cd (q2 x hx) λo e=>kp3 _ o e
  have relIs:∀ x∈inp,VRel g μ h3 (.tup (x.1.map At.mv)) (.ref x.2):=λx hx=>(i1.rel x hx).ext ((gr.trans (Grow.of_keep kp3)).ext [] μ) LocOk.nil
  have vall:VRels g μ h3 (ys.map λx=>MV.tup (x.1.map At.mv)) (ys.map λx=>Value.ref x.2):=by
   clear hol hks hvs y2 y1
   induction ys with
   | nil=>exact .nil
   | cons x ys ih=>exact .cons (relIs x (hyi x (.head _))) (ih λz hz=>hyi z (.tail _ hz))
  refine ZN hks ?_;refine ZN hvs ?_
  by_cases h2:2<=ord.length
  ·have hyl:1<=(ys.map (·.1)).length:=by rw[ZF];exact le_of_le_of_eq (Zc (Za rfl) h2) hol
   refine⟨_,λq=>absurd q (Zp h2),λ_ s3 A' k4=>Hs (ks:=ys.map (·.1)) ⟨by simp,λi v hv=>?_⟩ ?_ (by rw[ZF];exact le_of_le_of_eq h2 hol) rfl,?_⟩
   ·replace hv:=ZO (ZH).symm hv
    refine eX1 (ZD hv) λx zz=>aN2 zz λhx q3=>?_;subst q3
    refine⟨x.2,rfl,?_⟩;refine ZN (List.getD_eq_getElem?_getD) ?_;refine ZN (ZH) ?_;refine ZN hx ?_;exact Cd (keyIs x (hyi x (Zy hx))) λo e=>k4 _ o e
   ·refine List.all_eq_true.mpr ?_
    intro k hk;refine eX1 (ZB hk) λx zz=>aN2 zz λhx q3=>?_;subst q3
    refine List.all_eq_true.mp ho _ ?_;refine ZN i2.symm ?_;exact ZE (hyi x hx)
   ·have hp:=ET vall (v0:=.tup []) (Ak (λi j=>Ag ((ys.map (·.1)).getD i []) ((ys.map (·.1)).getD j [])) (kas_sort (ys.map (·.1)).length)).toList λi hi=>by
     have:=Fm keyLt_ok (ys.map (·.1)) [] hyl i hi;simpa using this
    have e:(BJ Ag (ys.map (·.1))).map (λk=>MV.tup (k.map At.mv))=(Ak (λi j=>Ag ((ys.map (·.1)).getD i []) ((ys.map (·.1)).getD j [])) (kas_sort (ys.map (·.1)).length)).toList.map (λi=>(ys.map λx=>MV.tup (x.1.map At.mv)).getD i (.tup [])):=by
     rw[<- HP keyLt_ok (ys.map (·.1)) [] hyl];refine ZO List.map_map ?_;refine ZL λi hi=>?_
     have hi2:=Fm keyLt_ok (ys.map (·.1)) [] hyl i hi;rw[ZF]at hi2;simp[List.getD_eq_getElem?_getD,ZI hi2]
    refine ZN e ?_;exact hp
  ·refine⟨_,λ_=>rfl,λq=>absurd q h2,?_⟩
   refine ZN (FZ (by rw[ZF];exact lt_of_eq_of_lt hol.symm (Zq h2))) ?_;refine ZN List.map_map ?_;exact vall
end
section
variable {g:Gl} {μ μ':List Addr} {h h':Heap} {X:CK} {d k:Nat} {sc:Scope}
structure ISetAt (w:World) (h:Heap) (a:Addr) (xs:List (Int×Tok)) (es:Array (Int×Value)) (ep:Nat) (t:SetTable):Prop where
 look:SetLook w h a es ep t
 ents:es.toList=xs.map λx=>(hashInt x.1,.int x.1 x.2)
 nodup:(xs.map (·.1)).Nodup
theorem ISetAt.length {w:World}{h:Heap}{a:Addr}{xs:List (Int×Tok)}{es:Array (Int×Value)}{ep:Nat}{t:SetTable}(S:ISetAt w h a xs es ep t):es.size=xs.length:=by
 refine ZO Array.length_toList.symm ?_;refine ZN S.ents ?_;rw[ZF]
theorem Ju {prog:Program}{w:World}{l:List (Int×Value)}{xs:List (Int×Tok)}(e:l=xs.map λx=>(hashInt x.1,.int x.1 x.2)):ElemsOf (intKind prog w) l:=by
 intro y hy;rw[e]at hy;obtain⟨x,_,rfl⟩:=ZB hy;exact⟨⟨x.1,intKind_is _ _ _ _,rfl⟩,rfl⟩
set_option tactic.hygienic true in
theorem Jv {t:SetTable}{es:Array (Int×Value)}{hh:Int}{x:Value}:(layNew t es hh x).2.1.led=t.led:=by
 unfold layNew
 split
 ·rename_i slot wd e
  show (SetTable.orStandIn (t.put slot).1 _).led=_;unfold SetTable.orStandIn
  split <;> rfl
 ·rfl
theorem M8 {mask finger moves:Nat}{led plain:Bool}{hashes:Array Int}{t:SetTable}{o:Array Nat}(h:SetTable.laid mask finger moves led plain hashes=some (t,o)):t.led=led:=by
 unfold SetTable.laid at h;simp only[Option.bind_eq_bind,Option.bind_eq_some_iff,Option.pure_def,Option.some.injEq,Prod.mk.injEq]at h;obtain⟨owner,_,rfl,_⟩:=h;rfl
set_option tactic.hygienic true in
theorem Hz {t:SetTable}{es:Array (Int×Value)}{n:Nat}:(relayAll t es n).2.1.led=t.led:=by
 unfold relayAll
 split
 ·rename_i t' order e
  dsimp only
  split
  ·exact M8 e
  ·rfl
 ·rfl
section
variable {prog:Program} {w:World} {A:Around} {E:Value->Shared->Prop} {s:Shared}
theorem add_int {a:Addr}{n:Int}{tk:Tok}{xs:List (Int×Tok)}{es:Array (Int×Value)}{ep:Nat}{t:SetTable}{Q:Bool->Shared->Prop}(S:ISetAt w s.heap a xs es ep t)(hroom:xs.length<100)
  (h:∀ (h':Heap) (xs':List (Int×Tok)) (es':Array (Int×Value)) (ep':Nat) (t':SetTable) (r:Bool),Heap.SameBut a s.heap h'->ISetAt w h' a xs' es' ep' t'->(n∈xs.map (·.1)->xs'=xs)->(n∉xs.map (·.1)->xs'.Perm ((n,tk)::xs))->Q r { s with heap:=h' }) :
  wpAny (model prog w) A (setAddHashed a (.int n tk) (hashInt n)) Q E s:=by
 have ho:=S.look.here
 have hf:=S.look.fits
 have hel:ElemsOf (intKind prog w) es.toList:=Ju S.ents
 have hb:es.size<scanBound:=by refine ZN S.length ?_;unfold scanBound;exact Ze hroom (Za rfl)
 refine wpAny_holding ?_;rw[C7];refine wpAny_bind (wpAny_setState_of ho rfl hf ?_);dsimp only;refine ZN (byScan_of (knd:=intKind prog w) rfl hb hel) ?_;refine wpAny_bind ?_;refine wpAny_bind (wpAny_rule ?_);refine wpAny_bind (wpAny_setScan_of (knd:=intKind prog w) (k:=n) (intKind_is _ _ _ _) ho rfl hf hel ?_);have hmem:n∈xs.map (·.1)↔∃ e∈es.toList,(intKind prog w).is n e.2=true:=by
  refine ZN S.ents ?_;constructor
  ·intro hm
   obtain⟨x,hx,rfl⟩:=ZB hm;exact⟨_,ZE hx,intKind_is _ _ _ _⟩
  ·intro y0
   obtain⟨e,he,q⟩:=y0;obtain⟨x,hx,rfl⟩:=ZB he;obtain⟨t,e⟩:=Value.isInt_shape (show Value.isInt n (Value.int x.1 x.2)=true from q);injection e with e1 _
   refine ZN e1.symm ?_;exact ZE (f:=λx:Int×Tok=>x.1) hx
 cases hr:List.findIdx? (λe=>(intKind prog w).is n e.2) es.toList with
 | some j =>
  dsimp only;obtain⟨hj,hpj,_⟩:=List.findIdx?_eq_some_iff_getElem.mp hr;refine wpAny_pure (wpAny_pure ?_);have e:s={ s with heap:=s.heap }:=by cases s;rfl
  refine ZN e ?_;exact h s.heap xs es ep t false (Heap.SameBut.refl a s.heap) S (λ_=>rfl) (λq=>absurd (hmem.mpr ⟨es.toList[j],List.getElem_mem hj,hpj⟩) q)
 | none =>
  have hm:n∉xs.map (·.1):=λq=>by
   obtain⟨e,he,hp⟩:=hmem.mp q;have:=List.findIdx?_eq_none_iff.mp hr e he;replace this:=ZO hp.symm this;cases this
  have hgw:∀ (b:Bool) {s₁:Shared} {Q':Unit->Shared->Prop},Q' () s₁->wpAny (model prog w) A (match b with | true=>rule "set.scan.the-table-gave-way" | false=>pure ()) Q' E s₁ :=
   λb s₁ Q' hq=>by cases b <;> first | exact wpAny_pure hq | exact wpAny_rule hq
  have hperm:=layNew_perm t es (hashInt n) (.int n tk)
  have hfits:=layNew_fits t es (hashInt n) (.int n tk)
  have hrise:=Hw (t:=t) (es:=es) (hh:=hashInt n) (x:=.int n tk) S.look.rises
  have hled:=Jv (t:=t) (es:=es) (hh:=hashInt n) (x:=.int n tk);generalize layNew t es (hashInt n) (.int n tk)=L at hperm hfits hrise hled ⊢;obtain⟨es1,t1,wasDummy,gave⟩:=L;dsimp only at hperm hfits hrise hled ⊢;rw[Array.toList_push,S.ents]at hperm;refine eX1 (CJ (f:=λx:Int×Tok=>(hashInt x.1,Value.int x.1 x.2)) hperm (xs++[(n,tk)]) (by simp)) λX zz=>aN2 zz λx1 x2=>?_
  have x3:X.Perm ((n,tk)::xs):=x1.trans (List.perm_append_singleton _ _)
  have hnd:∀ X':List (Int×Tok),X'.Perm X->(X'.map (·.1)).Nodup:=λX' hp =>
   ((hp.trans x3).map (·.1)).nodup_iff.mpr (by refine ZN ZJ ?_;refine List.nodup_cons.mpr ?_;exact⟨hm,S.nodup⟩)
  have hs1:es1.size=es.size+1:=by refine ZO Array.length_toList.symm ?_;refine ZN x2 ?_;rw[ZF];refine ZO x3.length_eq ?_;refine ZO List.length_cons ?_;rw[S.length]
  refine wpAny_bind (hgw _ ?_);have step:∀ t2:SetTable,t2.fits es1.size=true->CN t2.place->t2.led=t.led->wpAny (model prog w) A (do
    storeSet a es1 t2
    if (!wasDummy && t2.tooFull)=true then do
      (match (relayAll t2 es1 (SetTable.grown es1.size)).2.2 with | true=>rule "set.scan.the-table-gave-way" | false=>pure ())
      storeSet a (relayAll t2 es1 (SetTable.grown es1.size)).1 (relayAll t2 es1 (SetTable.grown es1.size)).2.1
      pure (some true)
     else pure (some true)) (λr s'=>wpAny (model prog w) A (match r with | some added=>pure added | none=>setAddHashedIn a (.int n tk) (hashInt n) 99999) Q E s') E s:=by
   intro t2 f2 r2 l2;refine wpAny_bind (wpAny_storeSet_of ho rfl ?_ (by refine ZN hs1 ?_;refine ZN S.length ?_;refine ZN sizeLine_eq ?_;exact Zw (Ze hroom (Za rfl))));have g1:=Fn ho es1 t2
   have sb1:=Heap.SameBut.update s.heap a (Obj.putSet es1 t2)
   split
   ·have hp:=relayAll_perm t2 es1 (SetTable.grown es1.size)
    have hfr:=relayAll_fits t2 es1 (SetTable.grown es1.size)
    have hrr:=GO (t:=t2) (es:=es1) (n:=SetTable.grown es1.size)
    have hll:=Hz (t:=t2) (es:=es1) (n:=SetTable.grown es1.size);generalize relayAll t2 es1 (SetTable.grown es1.size)=Rl at hp hfr hrr hll ⊢;obtain⟨es2,t3,gave2⟩:=Rl;obtain⟨Y,y1,y2⟩:=CJ hp X x2;have hs2:es2.size=es1.size:=by refine ZO Array.length_toList.symm ?_;refine ZO hp.length_eq ?_;exact Array.length_toList
    refine wpAny_bind (hgw _ ?_);refine wpAny_bind (wpAny_storeSet_of g1 rfl ?_ (by refine ZN hs2 ?_;refine ZN hs1 ?_;refine ZN S.length ?_;refine ZN sizeLine_eq ?_;exact Zw (Ze hroom (Za rfl))));refine wpAny_pure (wpAny_pure ?_);exact h _ Y es2 (ep+1+1) t3 true (sb1.trans (Heap.SameBut.update _ a _)) ⟨⟨(Fn g1 es2 t3),hfr,hrr,λq=>by refine ZO hll ?_;refine ZO l2 ?_;exact S.look.led q⟩,y2,hnd Y y1⟩ (λq=>absurd q hm) λ_=>y1.trans x3
   ·refine wpAny_pure (wpAny_pure ?_)
    exact h _ X es1 (ep+1) t2 true sb1 ⟨⟨g1,f2,r2,λq=>by refine ZO l2 ?_;exact S.look.led q⟩,x2,hnd X (.refl _)⟩ (λq=>absurd q hm) λ_=>x3
  split
  ·refine wpAny_bind (wpAny_pure ?_)
   exact step t1 hfits hrise hled
  ·refine wpAny_bind (wpAny_pure ?_)
   exact step t1 hfits hrise hled
end
theorem LS {vs:List Value}{ns:List Int}(hi:IntsAre vs ns):∃ ts:List (Int×Tok),ts.map (·.1)=ns/\vs=ts.map λx=>.int x.1 x.2:=by
 induction ns generalizing vs with
 | nil=>cases hi;exact⟨[],rfl,rfl⟩
 | cons n ns ih =>
  cases hi with
  | cons _ t hr =>
  obtain⟨ts,e1,e2⟩:=ih hr;exact⟨(n,t)::ts,by refine ZO ZJ ?_;rw[e1],by refine ZN ZJ ?_;rw[e2]⟩
theorem LT (ts:List (Int×Tok)):IntsAre (ts.map λx=>Value.int x.1 x.2) (ts.map (·.1)):=by
 induction ts with
 | nil=>exact .nil
 | cons x ts ih=>exact .cons _ _ ih
theorem M9 {U:MH}{s:Shared}{A:Around}{E:Value->Shared->Prop}{Q:Value->Shared->Prop}{l:List MV}{ns:List Int}{y:Value}(r:Rel g μ U s)(bg:Big s.heap)(rm:Room A d k)(vy:VRel g μ s.heap (.fl l) y)(hk:l.mapM MV.int? = some ns)(h64:l.length<64)
  (th:Then g μ s (.fl ((BJ B7 (BG ns)).map .int)) U Q) :
  wpAny (model g.prog g.w) A (call (.type "set") [y]) (λz s₁=>wpAny (model g.prog g.w) A (call (.builtin "sorted") [z]) Q E s₁) E s:=by
 refine eX2 (vy) λaa ia zz=>aN5 zz λq3 hlx hna h2a vrs=>?_;subst q3
 obtain⟨inp,i2,i3⟩:=LS (Bk hk vrs).2;have hil:inp.length<64:=by
  have:ia.toList.length=inp.length:=by refine ZN i3 ?_;rw[ZF]
  refine ZN this.symm ?_;refine ZN vrs.length.symm ?_;exact h64
 refine F3 (λS I i h'=>∃ xs es ep t,ISetAt g.w h' S xs es ep t/\∀ k,k∈xs.map (·.1)↔k∈(inp.take i).map (·.1)) rm.handled hlx ?h0 ?hfr ?hstep ?hend
 case h0 =>
  have hS:((s.heap.push (BA g.w)).push { cls:=.type "list_iterator",data:=.fields #[.ref aa,.int 0 0] }).get? s.heap.objs.size=some (BA g.w):=Heap.get?_push_of_some _ (Heap.get?_push_size _ rfl);exact⟨[],#[],0,_,⟨⟨hS,rfl,λi j _ h=>absurd h (Nat.not_lt_zero _),λq=>by show (!byT g.w)=true;refine ZN q ?_;rfl⟩,rfl,.nil⟩,λk=>by simp⟩
 case hfr =>
  intro i h1 h2 y3 hk;refine eX4 (y3) λxs es ep t zz=>aN2 zz λT q3=>?_
  exact⟨xs,es,ep,t,⟨T.look.at λo e=>hk _ o (Zk (Zo _)) e,T.ents,T.nodup⟩,q3⟩
 case hstep =>
  intro i v A' s' E' Q' hA hi hv y9 hQ;refine eX4 (y9) λxs es ep t zz=>aN2 zz λT q3=>?_
  replace hv:=ZO (Array.getElem?_toList) hv;rw[i3]at hv;replace hv:=ZO (ZH).symm hv;obtain⟨x,hx,rfl⟩:=ZD hv;refine wpAny_holding (wpAny_bind (wpAny_pyHash_int ?_));have hlen:xs.length<100:=by
   have:=Dm (b:=inp.map (·.1)) T.nodup λk hk=>by
    have:=(q3 k).mp hk;obtain⟨z,hz,rfl⟩:=ZB this;exact ZE (List.mem_of_mem_take hz)
   rw[ZF,ZF]at this;exact Ze (Zb this hil) (Za rfl)
  refine add_int (s:={ s' with toks:=_ }) T hlen λh2 xs' es' ep' t' rr sb T' p1 p2=>?_
  have htake:(inp.take (i+1))=inp.take i++[x]:=by
   refine ZO List.take_add_one ?_;refine ZN hx ?_;rfl
  refine hQ h2 _ rr sb ⟨xs',es',ep',t',T',λk=>?_⟩ (Zt _ _);refine ZN htake ?_;refine ZN List.map_append ?_;rw[List.mem_append,<- q3 k]
  by_cases q:x.1∈xs.map (·.1)
  ·refine ZN (p1 q) ?_
   constructor
   ·exact .inl
   ·rintro (z | z)
    ·exact z
    ·simp only[ZJ,List.map_nil,List.mem_singleton]at z;refine ZN z ?_;exact q
  ·rw[((p2 q).map (·.1)).mem_iff]
   simp only[ZJ,List.mem_cons,List.map_nil,List.not_mem_nil,or_false];exact⟨λz=>z.elim .inr .inl,λz=>z.elim .inr .inl⟩
 case hend =>
  intro h2 tk y2 kp;refine eX4 (y2) λxs es ep t zz=>aN2 zz λT q3=>?_
  have kp2:∀ b o,s.heap.get? b=some o->h2.get? b=some o:=λb o e=>kp b o (Heap.lt_size e) e
  have hlen:xs.length<64:=by
   have:=Dm (b:=inp.map (·.1)) T.nodup λk hk=>by
    have:=(q3 k).mp hk;obtain⟨z,hz,rfl⟩:=ZB this;exact ZE (List.mem_of_mem_take hz)
   rw[ZF,ZF]at this;exact Zb this hil
  have hkeys:(xs.map (·.1)).Perm (BG ns):=EL T.nodup λx=>by
   rw[q3 x];have:inp.take ia.size=inp:=by
    apply List.take_of_length_le;have:ia.toList.length=inp.length:=by refine ZN i3 ?_;rw[ZF]
    refine ZN Array.length_toList.symm ?_;refine ZN this ?_;exact Zg _
   refine ZN this ?_;rw[i2]
  refine EJ (s:=s) (tk1:=tk) (es:=es) (ep:=ep) (t:=t) r bg rm (Grow.of_keep kp2) T.look (by refine ZN T.length ?_;exact hlen) (λh3 ord kp3 perm=>?_) th;obtain⟨ys,y1,y2⟩:=CJ perm xs T.ents;have hvs:ord.map (·.2)=ys.map λx=>Value.int x.1 x.2:=by refine ZN y2 ?_;refine ZO List.map_map ?_;rfl
  have hol:ord.length=ys.length:=by refine ZN y2 ?_;rw[ZF]
  have hi:=LT ys;obtain⟨out,o1,o2,o3⟩:=Di hi;refine ZN ((F4 intLt_ok (hkeys.symm.trans (y1.map (·.1)).symm))) ?_;refine ZN hvs ?_;rw[ZF]at o1 o2;exact⟨out,λq=>o1 (lt_of_eq_of_lt hol.symm q),λq s3 A' _=>DW hi (by rw[ZF];exact le_of_le_of_eq q hol) (o2 (le_of_le_of_eq q hol)),o3⟩
theorem DE {e:Expr}{t:ME}{p p' p2 p2':Pos}(G:GOk g)(hx:sc.names.lookup (Str.ofString "sorted")=some .globalImplicit)(hy:sc.names.lookup (Str.ofString "set")=some .globalImplicit)(h1:Ai X g d k sc e t)
  (he:autoParam (∀ env,starEach [e] env=[(false,eval e env)]) au) :
  Ai X g d k sc (.Call (.Name (Str.ofString "sorted") p) [.Call (.Name (Str.ofString "set") p2) [e] [] p2'] [] p') (.bi .sortedset [t]):=by
 refine FJ (f1:=.builtin "sorted") (f2:=.type "set") G rfl rfl hx hy h1 (by decide) (by decide) (λw v U μ A E s Q y e3 vy r bg rm th=>?_) he;obtain⟨l,rfl,h64,⟨ns,hm,rfl⟩ | ⟨ks,hk,hz,rfl⟩⟩:=e3
 ·exact M9 r bg rm vy hm h64 th
 ·exact Jt r bg rm vy hk hz.1 hz.2 th
end
section
variable {g:Gl} {μ μ':List Addr} {h h':Heap} {X:CK} {d k:Nat} {sc:Scope}
section
variable {prog:Program} {w:World} {A:Around} {E:Value->Shared->Prop} {s:Shared}
noncomputable def LtI (prog:Program) (w:World) (x y:List At) (n:Bool) (rest:List (Value×Value)):Prop :=
 ∃ (x' y':List At) (xs' ys':List Value),rest=List.zip xs' ys'/\ItemsAre (BL prog w) x' xs'/\ItemsAre (BL prog w) y' ys'/\x'.all At.isI=true/\y'.all At.isI=true/\Ag x' y'=Ag x y/\decide (xs'.length<ys'.length)=n
theorem LtI.head {x y:List At}{n:Bool}{u v:Value}{rest:List (Value×Value)}(h:LtI prog w x y n ((u,v)::rest)) :
  ∃ (i j:Int) (t t':Tok),u=.int i t/\v=.int j t'/\(BL prog w).is (.i i) u=true/\(BL prog w).is (.i j) v=true/\(i=j->LtI prog w x y n rest)/\(i≠j->Ag x y=decide (i<j)):=by
 obtain⟨x',y',xs',ys',hz,hx',hy',ax',ay',hdec,hlen⟩:=h;cases hx' with
 | nil=>cases hz
 | @cons k1 u' x'' xs'' h1 hx'' =>
  cases hy' with
  | nil=>cases hz
  | @cons k2 v' y'' ys'' h2 hy'' =>
   cases hz;cases k1 with
   | s=>cases ax'
   | i i =>
   cases k2 with
   | s=>cases ay'
   | i j =>
   obtain⟨t,e⟩:=Bn h1;obtain⟨t',e'⟩:=Bn h2;refine⟨i,j,t,t',e,e',h1,h2,λq=>?_,λq=>?_⟩
   ·subst q
    exact⟨x'',y'',xs'',ys'',rfl,hx'',hy'',ax',ay',(if_pos rfl).symm.trans hdec,(decide_eq_decide.mpr Nat.succ_lt_succ_iff).symm.trans hlen⟩
   ·exact hdec.symm.trans (if_neg λz=>q (At.i.inj z))
theorem LtI.done {x y:List At}{n:Bool}(h:LtI prog w x y n []):n=Ag x y:=by
 obtain⟨x',y',xs',ys',hz,hx',hy',_,_,hdec,hlen⟩:=h;refine ZN hdec.symm ?_;refine ZO hlen.symm ?_;cases hx' with
 | nil=>cases hy' with
  | nil=>rfl
  | cons _ _=>rfl
 | cons _ _=>cases hy' with
  | nil=>rfl
  | cons _ _=>cases hz
theorem Gw {x y:List At}{a b:Addr}{P:PySem.Fin->Shared->Prop}(hx:(kK prog w).is s.heap x a)(hy:(kK prog w).is s.heap y b)(ax:x.all At.isI=true)(ay:y.all At.isI=true)
  (h:P (.done (.ret (.bool (Ag x y)))) s):wpAny (model prog w) A (Builtin.«tuple.__lt__» ⟨[.ref a,.ref b],[]⟩) P E s:=by
 have hTb:=IsTupleKey.typeIs hy;obtain⟨oa,xs,na,hoa,_,hda,hia⟩:=hx;obtain⟨ob,ys,nb,hob,_,hdb,hib⟩:=hy;show wpAny _ _ (isInstance (.ref b) (.type "tuple") >>= _) _ _ s;refine wpAny_bind (wpAny_isInstance hTb isSubtype_tuple_tuple (wpAny_bind (wpAny_tupleItemsOf hoa hda (wpAny_bind (wpAny_tupleItemsOf hob hdb (wpAny_bind ?_))))));refine wpAny_forIn_list _ (λrest r s'=>r.1=none/\s'=s/\LtI prog w x y (decide (xs.size<ys.size)) rest) _ ?_ ?_ _ _ ⟨rfl,rfl,x,y,xs.toList,ys.toList,rfl,hia,hib,ax,ay,rfl,rfl⟩
 ·intro y0 rest r s' y4
  obtain⟨u,v⟩:=y0;obtain⟨hr,rfl,hI⟩:=y4;obtain⟨i,j,t,t',rfl,rfl,h1,h2,h3,h4⟩:=hI.head;refine wpAny_bind ((BL prog w).eqBool h1 h2 ?_)
  by_cases e:i=j
  ·refine ZN (decide_eq_true (congrArg At.i e)) ?_
   exact wpAny_pure ⟨rfl,rfl,h3 e⟩
  ·refine ZN (decide_eq_false λz=>e (At.i.inj z)) ?_
   exact wpAny_bind (wpAny_rule (wpAny_bind (PyProof.Rows.lt_int (wpAny_bind (wpAny_pure (wpAny_pure (wpAny_pure (h4 e▸h))))))))
 ·intro y0 s' y2
  obtain⟨r1,r2⟩:=y0;obtain⟨rfl,rfl,hI⟩:=y2;refine wpAny_pure ?_;show P (.done (.ret (.bool (decide (xs.size<ys.size))))) s';rw[hI.done];exact h
theorem LU {x y:List At}{a b:Addr}{Q:Value->Shared->Prop}(hu:A.units<cLine)(hx:(kK prog w).is s.heap x a)(hy:(kK prog w).is s.heap y b)(ax:x.all At.isI=true)(ay:y.all At.isI=true)(h:Q (.bool (Ag x y)) s) :
  wpAny (model prog w) A (richCompare .Lt (.ref a) (.ref b)) Q E s :=
 wpAny_richCompare_same_room (op:=.Lt) (IsTupleKey.typeIs hx) (IsTupleKey.typeIs hy) PySem.F.slot_tuple_lt
  (wpAny_call_entry PySem.F.slot_tuple_lt (IsTupleKey.typeIs hx) PySem.F.entry_tuple_lt (Gw hx hy ax ay ⟨_,rfl,(λe=>nomatch e),h⟩) (PySem.F.args_tuple_lt_2 _ _)) hu
noncomputable def Ol (prog:Program) (w:World) (A:Around) (P:Nat->Value->Prop) (Hp:Heap->Prop) (bt:Nat->Nat->Bool):Prop :=
 ∀ i j vi vj (s:Shared) (Q:Value->Shared->Prop) (E:Value->Shared->Prop),P i vi->P j vj->Hp s.heap->Q (.bool (bt i j)) s->wpAny (model prog w) A (richCompare .Lt vi vj) Q E s
section
variable {R:Result->Shared->Prop} {I:Addr} {fp wr:List Addr} {n:Nat} {P:Nat->Value->Prop} {St:Nat->Heap->Prop} {Hp:Heap->Prop}
theorem Ma (W:Walks prog w A.in1 I fp wr n P St)(bt:Nat->Nat->Bool)(hcmp:Ol prog w A.in1 P Hp bt)(S:Addr)(hSf:S∉fp)(hHp:∀ h h',Hp h->(∀ b o,b∉wr->b≠S->h.get? b=some o->h'.get? b=some o)->Hp h') :
  ∀ (k j:Nat) (s:Shared) (vb:Value) (c:Nat),n - (j+1)=k->j+1<=n->St (j+1) s.heap->Hp s.heap->P (argBest bt j) vb ->
  s.heap.get? S=some { cls:=.type "list",dict:=none,data:=.seq #[vb,vb] c,slots:=#[] } ->
  (∀ v h' tk,P (argBest bt (n - 1)) v->(∀ b o,b∉wr->b≠S->s.heap.get? b=some o->h'.get? b=some o)->R (.ok (.ret v)) { s with heap:=h',toks:=tk }) ->
  codeAny (model prog w) A (.builtin "min.loop" ⟨[.ref I,.none,.ref S],[]⟩) R s:=by
 have hSw:S∉wr:=λh=>hSf (W.sub _ h)
 have hname:(toString "min"++toString ".loop":String)="min.loop":=by decide
 intro k
 induction k with
 | zero =>
  intro j s vb c hk hj hst hH hPb hS hR;have hin:j+1=n:=Zv hj (Nat.le_of_sub_eq_zero hk);refine codeAny_builtin PySem.F.entry_min_loop ?_;refine ZN (Around.under_plainId PySem.F.plain_min_loop _) ?_;refine wpAny_bind (wpAny_seqItems hS rfl ?_);refine wpAny_bind (wpAny_tryCatch (W.done s _ _ (hin▸hst) λh' tk hk'=>?_));have hS':=hk' S _ hSw hS;refine wpAny_bind ?_;refine wpAny_updateSeq hS' rfl (wpAny_bind (wpAny_letGo (wpAny_pure ?_)));refine hR vb _ tk (by refine ZN hin.symm ?_;exact hPb) λb o hbw hbS e=>(Heap.get?_update_other _ _ (Ne.symm hbS)).trans (hk' b o hbw e)
 | succ k ih =>
  intro j s vb c hk hj hst hH hPb hS hR;have hlt:j+1<n:=Internal.step_in hk;refine codeAny_builtin PySem.F.entry_min_loop ?_;rw[Around.under_plainId PySem.F.plain_min_loop _];refine wpAny_bind (wpAny_seqItems hS rfl ?_);show wpAny _ A.in1 (tryCatch (pyNext (.ref I)) _ >>= _) _ _ s;refine wpAny_bind (wpAny_tryCatch (W.item (j+1) s _ _ hlt hst λv h' tk hP hst' hk'=>?_));have hS':=hk' S _ hSw hS
  have hH':Hp h':=hHp _ _ hH λb o hb _ e=>hk' b o hb e
  show wpAny _ A.in1 (tryCatch (holding [v,v] (richCompare .Lt v vb >>= _)) _ >>= _) _ _ _;refine wpAny_bind (wpAny_tryCatch (wpAny_holding (wpAny_bind (hcmp (j+1) (argBest bt j) v vb _ _ _ hP hPb hH' ?_))));refine wpAny_bind (wpAny_holding (wpAny_truthy_bool ?_));refine wpAny_bind (wpAny_letGo (wpAny_pure ?_));cases hb:bt (j+1) (argBest bt j)with
  | true =>
   refine wpAny_bind ?_;refine wpAny_updateSeq hS' rfl (wpAny_bind (wpAny_letGo ?_));refine ZN hname ?_;have upd:∀ (f:Obj->Obj) b o,b≠S->h'.get? b=some o->(h'.update S f).get? b=some o:=λf b o hbS e=>(Heap.get?_update_other _ _ (Ne.symm hbS)).trans e
   refine wpAny_pure ⟨plainId_quiet PySem.F.plain_min_loop _,ih (j+1) _ v _ (Internal.step_eq hk) hlt (W.frame _ _ _ hst' λb hbf o e=>?_) (hHp _ _ hH' λb o _ hbS e=>upd _ b o hbS e) (by simp only[argBest,hb,if_true];exact hP) (Heap.get?_update_self _ hS' rfl)
    λv' h'' tk'' hP' hk''=>?_⟩
   ·exact upd _ b o (λh:b=S=>hSf (by refine ZN h.symm ?_;exact hbf)) e
   ·exact hR v' h'' tk'' hP' λb o hbw hbS e=>hk'' b o hbw hbS (upd _ b o hbS (hk' b o hbw e))
  | false =>
   refine wpAny_bind (wpAny_letGo ?_);rw[hname];refine wpAny_pure ⟨plainId_quiet PySem.F.plain_min_loop _,ih (j+1) _ vb c (Internal.step_eq hk) hlt hst' hH' (by simp only[argBest,hb,Bool.false_eq_true,if_false];exact hPb) hS' λv' h'' tk'' hP' hk''=>?_⟩;exact hR v' h'' tk'' hP' λb o hbw hbS e=>hk'' b o hbw hbS (hk' b o hbw e)
theorem LV (W:Walks prog w A.in1 I fp wr n P St)(bt:Nat->Nat->Bool)(hcmp:Ol prog w A.in1 P Hp bt)(S:Addr)(hSf:S∉fp)(hHp:∀ h h',Hp h->(∀ b o,b∉wr->b≠S->h.get? b=some o->h'.get? b=some o)->Hp h')(hn:0<n){s:Shared}{c:Nat}(hst:St 0 s.heap)(hH:Hp s.heap)
  (hS:s.heap.get? S=some { cls:=.type "list",dict:=none,data:=.seq #[] c,slots:=#[] })
  (hR:∀ v h' tk,P (argBest bt (n - 1)) v->(∀ b o,b∉wr->b≠S->s.heap.get? b=some o->h'.get? b=some o)->R (.ok (.ret v)) { s with heap:=h',toks:=tk }) :
  codeAny (model prog w) A (.builtin "min.loop" ⟨[.ref I,.none,.ref S],[]⟩) R s:=by
 have hSw:S∉wr:=λh=>hSf (W.sub _ h)
 have hname:(toString "min"++toString ".loop":String)="min.loop":=by decide
 refine codeAny_builtin PySem.F.entry_min_loop ?_;refine ZN (Around.under_plainId PySem.F.plain_min_loop _) ?_;refine wpAny_bind (wpAny_seqItems hS rfl ?_);refine wpAny_bind (wpAny_tryCatch (W.item 0 s _ _ hn hst λv h' tk hP hst' hk'=>?_));have hS':=hk' S _ hSw hS
 show wpAny _ A.in1 (updateSeq S (λ_=>#[v,v]) >>= _) _ _ _;refine wpAny_bind ?_;refine wpAny_updateSeq hS' rfl ?_;refine ZN hname ?_;have upd:∀ (f:Obj->Obj) b o,b≠S->h'.get? b=some o->(h'.update S f).get? b=some o:=λf b o hbS e=>(Heap.get?_update_other _ _ (Ne.symm hbS)).trans e
 refine wpAny_pure ⟨plainId_quiet PySem.F.plain_min_loop _,Ma W bt hcmp S hSf hHp _ 0 _ v _ rfl hn (W.frame _ _ _ hst' λb hbf o e=>?_) (hHp _ _ hH λb o hbw hbS e=>upd _ b o hbS (hk' b o hbw e)) hP (Heap.get?_update_self _ hS' rfl) λv' h'' tk'' hP' hk''=>?_⟩
 ·exact upd _ b o (λh:b=S=>hSf (by refine ZN h.symm ?_;exact hbf)) e
 ·exact hR v' h'' tk'' hP' λb o hbw hbS e=>hk'' b o hbw hbS (upd _ b o hbS (hk' b o hbw e))
end
theorem Gx {x:Value}{Q:Value->Shared->Prop}
  (h:wpAny (model prog w) A.in1 (pyIter x) (λit s₂=>∃ I fp wr n P St bt Hp,it=.ref I/\Walks prog w A.in1 I fp wr n P St/\St 0 s₂.heap/\(∀ b∈fp,b<s₂.heap.objs.size)/\0<n/\Ol prog w A.in1 P Hp bt/\Hp s₂.heap /\
   (∀ h h',Hp h->(∀ b o,b∉wr->b≠s₂.heap.objs.size->h.get? b=some o->h'.get? b=some o)->Hp h') /\
   ∀ v h' tk,P (argBest bt (n - 1)) v->(∀ b o,b∉wr->s₂.heap.get? b=some o->h'.get? b=some o)->Q v { s₂ with heap:=h',toks:=tk }) E s) :
  wpAny (model prog w) A (call (.builtin "min") [x]) Q E s:=by
 have hname:(toString "min"++toString ".loop":String)="min.loop":=by decide
 refine call_function_tree PySem.F.kind_min PySem.F.plain_min PySem.F.entry_min (PySem.F.args_min1 _) ?_;refine wpAny_bind (wpAny_of_eq (show Builtin.Builtins.bindParams "min" ["key","default"] 0 ⟨[],[]⟩=pure [none,none]from rfl) ?_);refine wpAny_bind (wpAny_pure ?_);refine wpAny_bind (wpAny_mono h (λit s₂ h₂=>?_) λ_ _ e=>e);obtain⟨I,fp,wr,n,P,St,bt,Hp,rfl,W,hst,hfp,hn,hcmp,hH,hHp,hQ⟩:=h₂;refine wpAny_bind (wpAny_newObj_type ?_);have hSf:s₂.heap.objs.size∉fp:=λhm=>Nat.lt_irrefl _ (hfp _ hm)
 refine ZN hname ?_;refine wpAny_pure ⟨plainId_quiet PySem.F.plain_min_loop _,LV W bt hcmp s₂.heap.objs.size hSf hHp hn (W.frame _ _ _ hst λb _ o e=>Heap.get?_push_of_some _ e) (hHp _ _ hH λb o _ _ e=>Heap.get?_push_of_some _ e) (Heap.get?_push_size _ rfl) λv h' tk hP hk=>?_⟩;exact hQ v h' tk hP λb o hbw e=>hk b o hbw (Zk (Heap.lt_size e)) (Heap.get?_push_of_some _ e)
end
theorem Iv {l:List (List At)}{y:List At}:∀ {m},Bx l=some m->Bx (l++[y])=some (if Ag y m then y else m):=by
 induction l with
 | nil=>intro m h;cases h
 | cons x l ih =>
  intro m h;cases l with
  | nil =>
   cases h;show (Bx [y]).map _=_;simp only[Bx,Option.map_some]
  | cons z l =>
   have e1:Bx (x::z::l)=(Bx (z::l)).map λy=>if Ag y x then y else x:=rfl
   replace h:=ZO e1.symm h;obtain⟨m',h1,h2⟩:=ZD h;have e2:Bx (x::z::l++[y])=(Bx (z::l++[y])).map λy=>if Ag y x then y else x:=rfl
   refine ZN e2 ?_;refine ZN ((ih h1)) ?_;simp only[Option.map_some,Option.some.injEq];subst h2
   by_cases a:Ag y m'=true
   ·refine ZN (if_pos a) ?_
    by_cases b:Ag m' x=true
    ·refine ZN (if_pos b) ?_;refine ZN (if_pos a) ?_;exact if_pos (keyLt_ok.trans _ _ _ a b)
    ·rw[if_neg b]
   ·refine ZN (if_neg a) ?_
    by_cases b:Ag m' x=true
    ·refine ZN (if_pos b) ?_;rw[if_neg a]
    ·refine ZN (if_neg b) ?_
     have a':Ag y m'=false:=by simpa using a
     have b':Ag m' x=false:=by simpa using b
     have:Ag y x=false:=keyLt_ok.leTrans b' a';rw[if_neg (by refine ZN this ?_;decide)]
theorem Iw (ks:List (List At)):∀ i,i<ks.length->argBest (λi j=>Ag (ks.getD i []) (ks.getD j [])) i<ks.length/\Bx (ks.take (i+1))=some (ks.getD (argBest (λi j=>Ag (ks.getD i []) (ks.getD j [])) i) []):=by
 intro i
 induction i with
 | zero =>
  intro hi;cases ks with
  | nil=>simp at hi
  | cons x ks=>exact⟨by simp[argBest],by simp[argBest,Bx]⟩
 | succ i ih =>
  intro hi;obtain⟨h1,h2⟩:=ih (Ze (Zo _) hi);have e:ks.take (i+1+1)=ks.take (i+1)++[ks.getD (i+1) []]:=by
   refine ZO List.take_add_one ?_;refine ZN (ZI hi) ?_;simp[List.getD_eq_getElem?_getD,ZI hi]
  refine ZN e ?_;refine ZN (Iv h2) ?_;simp only[argBest]
  split
  ·exact⟨hi,rfl⟩
  ·exact⟨h1,rfl⟩
theorem Om:Hh g d k .min (.builtin "min"):=λw U v μ A E s Q x e vx r bg rm th=>by
 obtain⟨l,ks,m,hl,hm,hz,hmk,rfl⟩:=e;obtain⟨aa,ia,rfl,i1,i4⟩:=listItems_at r vx hl;obtain⟨inp,p1,p2,p3⟩:=M7 hm i4;have live:aa<s.heap.objs.size:=by obtain⟨o,e,_⟩:=i1;exact Heap.lt_size e
 have hsz:ia.size=inp.length:=by refine ZO Array.length_toList.symm ?_;refine ZN p3 ?_;rw[ZF]
 have hkl:ks.length=inp.length:=by refine ZN p2.symm ?_;rw[ZF]
 have hpos:0<ks.length:=by cases ks with | nil=>cases hmk | cons=>simp
 have hlow:∀ x∈inp,x.2<s.heap.objs.size:=λx hx=>by
  obtain⟨o,_,_,e,_⟩:=p1.is x hx;exact Heap.lt_size e
 have hints:∀ i,i<ks.length->(ks.getD i []).all At.isI=true:=λi hi=>by
  have h1:=List.all_eq_true.mp hz.1 (ks.getD i []) (by refine ZN (List.getD_eq_getElem?_getD) ?_;refine ZN (ZI hi) ?_;exact List.getElem_mem hi);unfold J9 at h1;simp only[Bool.and_eq_true]at h1;exact h1.2
 have hu:=rm.line;refine Gx (wpAny_pyIter_list i1 ?_);refine⟨_,_,_,_,_,_,λi j=>Ag (ks.getD i []) (ks.getD j []),λh=>∀ x∈inp,(kK g.prog g.w).is h x.1 x.2,rfl,Walks.list (A:=A.in1) rm.handled s.heap.objs.size aa (Zk live) ia,⟨⟨_,Heap.get?_push_size _ rfl,rfl,rfl⟩,i1.push _⟩,?_,lt_of_lt_of_eq (lt_of_lt_of_eq hpos hkl) hsz.symm,?_,λx hx=>Cd (p1.is x hx) λo e=>Heap.get?_push_of_some _ e,?_,?_⟩
 ·intro b hb
  rw[Heap.size_push];simp only[List.mem_cons,List.not_mem_nil,or_false]at hb;rcases hb with rfl | rfl
  ·exact Zo _
  ·exact Zi live
 ·intro i j vi vj s' Q' E' hvi hvj hH hQ
  rw[<- Array.getElem?_toList,p3,ZH]at hvi hvj;obtain⟨xi,hxi,rfl⟩:=ZD hvi;obtain⟨xj,hxj,rfl⟩:=ZD hvj;have ei:ks.getD i []=xi.1:=by refine ZO (List.getD_eq_getElem?_getD) ?_;refine ZN p2.symm ?_;refine ZN (ZH) ?_;refine ZN hxi ?_;rfl
  have ej:ks.getD j []=xj.1:=by refine ZO (List.getD_eq_getElem?_getD) ?_;refine ZN p2.symm ?_;refine ZN (ZH) ?_;refine ZN hxj ?_;rfl
  have li:i<ks.length:=by refine ZN hkl ?_;exact (List.getElem?_eq_some_iff.mp hxi).1
  have lj:j<ks.length:=by refine ZN hkl ?_;exact (List.getElem?_eq_some_iff.mp hxj).1
  have ai:=hints i li
  have aj:=hints j lj;rw[ei]at ai;rw[ej]at aj;dsimp only at hQ;rw[ei,ej]at hQ;exact LU (by show A.in1.units<cLine;simp only[Around.in1_units];exact Ze (Nat.add_lt_add_left (Za rfl) _) hu) (hH _ (Zy hxi)) (hH _ (Zy hxj)) ai aj hQ
 ·intro h1 h2 hH hk x hx
  have:=hlow x hx;refine Cd (hH x hx) λo e=>hk _ o ?_ ?_ e
  ·simp only[List.mem_singleton];exact Zk this
  ·rw[Heap.size_push];exact Zk (Zi this)
 ·intro v h' tk hv kp
  obtain⟨b1,b2⟩:=Iw ks (ia.size - 1) (by lia);rw[show ia.size - 1+1=ks.length from by lia,List.take_length]at b2;replace b2:=ZO hmk.symm b2;injection b2 with b2
  replace hv:=ZO (Array.getElem?_toList) hv;rw[p3]at hv;replace hv:=ZO (ZH).symm hv;obtain⟨x,hx,rfl⟩:=ZD hv;have ex:m=x.1:=by refine ZO b2 ?_;refine ZO (List.getD_eq_getElem?_getD) ?_;refine ZN p2.symm ?_;refine ZN (ZH) ?_;rw[<- p2]at hx;refine ZN hx ?_;rfl
  have gr:Grow s.heap h':=Grow.of_keep λb o e=>kp b o (by
   simp only[List.mem_singleton];exact Zk (Heap.lt_size e)) (Heap.get?_push_of_some _ e)
  refine th.grow r (s':={ s with heap:=h',toks:=tk }) gr ⟨rfl,rfl⟩ ?_;refine ZN ex ?_;exact (p1.rel x (Zy hx)).ext (gr.ext [] μ) LocOk.nil
end
noncomputable def Ok (st:Stmt) (fn:FN):Prop:=∀ {g:Gl},GOk g->Pf g->∀ (X:CK) (d k:Nat),(∀ av,GA X (g.at av) d k)->Hi X g->∀ av,Go X (g.at av) d k (Am st) (Hb st) fn.body
theorem Ix:Ok (stm 2) ir_size_over:=λG V X d k hC hV av =>
 (AE (AR (Aj (o:=.add) AV (Aa (G.at av) Hq rfl (by kernel_rfl) (AC (h:=AH)) (AA (AD (by kernel_rfl)) AG))))
 AK)
theorem GU:Ok (sub (stm 3) 0) ir_Grammar_init:=λG V X d k hC hV av =>
 (AE (AM (AD (by kernel_rfl)) (Az (G.at av) (AD (by kernel_rfl))) (AZ (by kernel_rfl)) (A0 (by kernel_rfl)))
 AK)
theorem EY:Ok (sub (stm 3) 1) ir_Grammar_class_of:=λG V X d k hC hV av =>
 (AE (HN (Ac (by kernel_rfl)) (BD (BE (AD (by kernel_rfl)))) (λa1=>(B1 (by kernel_rfl))) (λa2=>BM) (λa3=>(AL (G.at a3) (hC a3) hV (AD (by kernel_rfl)) (AC (h:=AH)) (AA (AD (by kernel_rfl)) AG))) (by kernel_rfl) (ON (by kernel_rfl)))
 (AE (AR (Fk (AX (o:=.isin) Fj (AD (by kernel_rfl))) Fj (AL (G.at av) (hC av) hV (AN (G.at av) (AD (by kernel_rfl))) (AC (h:=(AC (h:=AH)))) (AA (AQ (AD (by kernel_rfl)) AV) (AA (AD (by kernel_rfl)) AG)))))
 AK))
theorem Es:Ok (sub (stm 3) 2) ir_Grammar_accepts:=λG V X d k hC hV av =>
 (AE (AR (Ec (o:=.eq) (AL (G.at av) (hC av) hV (AD (by kernel_rfl)) (AC (h:=AH)) (AA (AD (by kernel_rfl)) AG)) (AL (G.at av) (hC av) hV (AN (G.at av) (AD (by kernel_rfl))) (AC (h:=AH)) (AA (AD (by kernel_rfl)) AG))))
 AK)
theorem GV:Ok (sub (stm 3) 3) ir_Grammar_kids:=λG V X d k hC hV av =>
 (AE (AR (DE (G.at av) (by kernel_rfl) (by kernel_rfl) (LF (Ac (by kernel_rfl)) (BD (AL (G.at av) (hC av) hV (AN (G.at av) (AD (by kernel_rfl))) (AC (h:=AH)) (AA (AD (by kernel_rfl)) AG))) (λa4=>(B1 (by kernel_rfl))) (λa5=>(BD (BE (AD (by kernel_rfl))))) (λa6=>(B1 (by kernel_rfl))) (λa7=>(AD (by kernel_rfl))))))
 AK)
theorem Et:Ok (sub (stm 3) 4) ir_Grammar_reached:=λG V X d k hC hV av =>
 (AE (DI (names:=["seen","waiting"]) (Ad (AA Ch (AA (B8 (AA (AL (G.at av) (hC av) hV (AN (G.at av) (AD (by kernel_rfl))) (AC (h:=AH)) (AA (AD (by kernel_rfl)) AG)) AG)) AG))) (by decide +kernel) (by decide) (AZ (by kernel_rfl)) (A0 (by kernel_rfl)))
 (AE (CQ (AX (o:=.ne) (AD (by kernel_rfl)) (CZ AG))
 (AE (AM (AL (G.at av) (hC av) hV (AD (by kernel_rfl)) AH AG) (Ae (by kernel_rfl)) (AZ (by kernel_rfl)) (A0 (by kernel_rfl)))
  (AE (BZ (AX (o:=.notin) (AD (by kernel_rfl)) (AD (by kernel_rfl)))
  (AE (AM BV (C0 (AD (by kernel_rfl)) (AD (by kernel_rfl))) (AZ (by kernel_rfl)) (A0 (by kernel_rfl)))
   (AE (Ab (AL (G.at av) (hC av) hV (AD (by kernel_rfl)) (AC (h:=AH)) (AA (AL (G.at av) (hC av) hV (AD (by kernel_rfl)) (AC (h:=AH)) (AA (AD (by kernel_rfl)) AG)) AG)) (Bq (by kernel_rfl)))
   AK))
  AK)
  AK)))
 (AE (AR (Aa (G.at av) Dy rfl (by kernel_rfl) (AC (h:=AH)) (AA (AD (by kernel_rfl)) AG)))
 AK)))
theorem Fg:Ok (sub (stm 3) 7) ir_Grammar_least:=λG V X d k hC hV av =>
 (AE (B3 (Ad (AA Ch (AA (AL (G.at av) (hC av) hV (AD (by kernel_rfl)) (AC (h:=AH)) (AA (AD (by kernel_rfl)) AG)) (AA BV AG)))) (Af (Ae (by kernel_rfl)) (Af (Ae (by kernel_rfl)) (Af (Ae (by kernel_rfl)) Bv))) rfl (AZ (by kernel_rfl)) (A0 (by kernel_rfl)) (λ_=>⟨rfl,rfl⟩))
 (AE (CQ (HG (AD (by kernel_rfl)))
 (AE (AM BV (Ae (by kernel_rfl)) (AZ (by kernel_rfl)) (A0 (by kernel_rfl)))
  (AE (CE (BD (AD (by kernel_rfl))) (EP (by kernel_rfl))
  (AE (CE (BD (AL (G.at av) (hC av) hV (AN (G.at av) (AD (by kernel_rfl))) (AC (h:=AH)) (AA (AD (by kernel_rfl)) AG))) (EP (by kernel_rfl))
   (AE (BZ (AX (o:=.eq) (Ay (Ac (by kernel_rfl)) (BD (BE (AD (by kernel_rfl)))) (λa8=>(B1 (by kernel_rfl))) (λa9=>(Hn (AX (o:=.notin) (AD (by kernel_rfl)) (AD (by kernel_rfl))))) (λa10=>(AD (by kernel_rfl)))) (CZ AG))
    (AE (AM (Au (G.at av) (hC av) (AD (by kernel_rfl)) (AC (h:=AH)) (AA (Ay (Ac (by kernel_rfl)) (BD (BE (AD (by kernel_rfl)))) (λa11=>(B1 (by kernel_rfl))) (λa12=>BM) (λa13=>(AQ (AD (by kernel_rfl)) (AD (by kernel_rfl))))) AG)) (Ae (by kernel_rfl)) (AZ (by kernel_rfl)) (A0 (by kernel_rfl)))
     (AE (BZ (Dv (AX (o:=.notin) (AD (by kernel_rfl)) (AD (by kernel_rfl))) (AX (o:=.lt) (AD (by kernel_rfl)) (AQ (AD (by kernel_rfl)) (AD (by kernel_rfl)))))
     (AE (B3 (Ad (AA (AD (by kernel_rfl)) (AA BV AG))) (Af (C0 (AD (by kernel_rfl)) (AD (by kernel_rfl))) (Af (Ae (by kernel_rfl)) Bv)) rfl (AZ (by kernel_rfl)) (A0 (by kernel_rfl)) (λ_=>⟨rfl,rfl⟩))
      AK)
     AK)
     AK))
    AK)
    AK))
   AK))
  AK)))
 (AE (AR (AQ (AD (by kernel_rfl)) (AL (G.at av) (hC av) hV (AN (G.at av) (AD (by kernel_rfl))) (AC (h:=AH)) (AA (AD (by kernel_rfl)) AG))))
 AK)))
theorem Do:Ok (sub (stm 3) 8) ir_Grammar_least_size:=λG V X d k hC hV av =>
 (AE (AR (AL (G.at av) (hC av) hV (AD (by kernel_rfl)) (AC (h:=(AC (h:=AH)))) (AA (AD (by kernel_rfl)) (AA (CA (G.at av) (V _ _ (by decide)) (.inl rfl) (by kernel_rfl)) AG))))
 AK)
theorem Nh:Ok (stm 8) ir_is_op:=λG V X d k hC hV av =>
 (AE (AR (KV (Ec (o:=.ne) (AD (by kernel_rfl)) CX) (Ec (o:=.eq) (Ay (Ac (by kernel_rfl)) (BD (AD (by kernel_rfl))) (λa14=>(B1 (by kernel_rfl))) (λa15=>(Hn (Dv (HG (AL (G.at a15) (hC a15) hV (AD (by kernel_rfl)) AH AG)) (AX (o:=.isin) (AD (by kernel_rfl)) CX)))) (λa16=>(AD (by kernel_rfl)))) (CZ AG))))
 AK)
theorem Iy:Ok (sub (stm 10) 0) ir_Bank_init:=λG V X d k hC hV av =>
 (AE (AM (B8 AG) (Az (G.at av) (AD (by kernel_rfl))) (AZ (by kernel_rfl)) (A0 (by kernel_rfl)))
 (AE (AM Ch (Az (G.at av) (AD (by kernel_rfl))) (AZ (by kernel_rfl)) (A0 (by kernel_rfl)))
 (AE (AM (B8 AG) (Az (G.at av) (AD (by kernel_rfl))) (AZ (by kernel_rfl)) (A0 (by kernel_rfl)))
 (AE (AM (B8 AG) (Az (G.at av) (AD (by kernel_rfl))) (AZ (by kernel_rfl)) (A0 (by kernel_rfl)))
 AK))))
theorem Iz:Ok (sub (stm 10) 1) ir_Bank_size:=λG V X d k hC hV av =>
 (AE (AR (Aa (G.at av) BW rfl (by kernel_rfl) (AC (h:=AH)) (AA (AN (G.at av) (AD (by kernel_rfl))) AG)))
 AK)
theorem JA:Ok (sub (stm 10) 2) ir_Bank_take:=λG V X d k hC hV av =>
 (AE (AM (Aj (o:=.add) (Ad (AA (AD (by kernel_rfl)) AG)) (Aa (G.at av) DL rfl (by kernel_rfl) (AC (h:=AH)) (AA (AD (by kernel_rfl)) AG))) (Ae (by kernel_rfl)) (AZ (by kernel_rfl)) (A0 (by kernel_rfl)))
 (AE (BZ (AX (o:=.isin) (AD (by kernel_rfl)) (AN (G.at av) (AD (by kernel_rfl))))
 (AE (AR (AQ (AN (G.at av) (AD (by kernel_rfl))) (AD (by kernel_rfl))))
  AK)
 AK)
 (AE (Ab (AL (G.at av) (hC av) hV (AD (by kernel_rfl)) (AC (h:=AH)) (AA (AD (by kernel_rfl)) AG)) (Bq (by kernel_rfl)))
 (AE (CE (BD (BE (AD (by kernel_rfl)))) (EP (by kernel_rfl))
 (AE (BZ (Ed (Jf (o:=.le) (q:=.lt) AV (AD (by kernel_rfl)) (Aa (G.at av) BW rfl (by kernel_rfl) (AC (h:=AH)) (AA (AN (G.at av) (AD (by kernel_rfl))) AG))))
  (AE GH
   AK)
  AK)
  AK))
 (AE (AM (Aa (G.at av) BW rfl (by kernel_rfl) (AC (h:=AH)) (AA (AN (G.at av) (AD (by kernel_rfl))) AG)) (C0 (AN (G.at av) (AD (by kernel_rfl))) (AD (by kernel_rfl))) (AZ (by kernel_rfl)) (A0 (by kernel_rfl)))
 (AE (Ab (AL (G.at av) (hC av) hV (AN (G.at av) (AD (by kernel_rfl))) (AC (h:=AH)) (AA (AD (by kernel_rfl)) AG)) (Bq (by kernel_rfl)))
 (AE (Ab (AL (G.at av) (hC av) hV (AN (G.at av) (AD (by kernel_rfl))) (AC (h:=AH)) (AA (Aj (o:=.add) AV (Aa (G.at av) Hq rfl (by kernel_rfl) (AC (h:=AH)) (AA (Ay (Ac (by kernel_rfl)) (BD (BE (AD (by kernel_rfl)))) (λa20=>(B1 (by kernel_rfl))) (λa21=>BM) (λa22=>(AQ (AN (G.at a22) (AD (by kernel_rfl))) (AD (by kernel_rfl))))) AG))) AG)) (Bq (by kernel_rfl)))
 (AE (Ab (AL (G.at av) (hC av) hV (AN (G.at av) (AD (by kernel_rfl))) (AC (h:=AH)) (AA (Aj (o:=.add) AV (Aa (G.at av) Oe rfl (by kernel_rfl) (AC (h:=AH)) (AA (Aj (o:=.add) (Ay (Ac (by kernel_rfl)) (BD (BE (AD (by kernel_rfl)))) (λa17=>(B1 (by kernel_rfl))) (λa18=>BM) (λa19=>(AQ (AN (G.at a19) (AD (by kernel_rfl))) (AD (by kernel_rfl))))) (CZ (AA AV AG))) AG))) AG)) (Bq (by kernel_rfl)))
 (AE (AR (Aj (o:=.sub) (Aa (G.at av) BW rfl (by kernel_rfl) (AC (h:=AH)) (AA (AN (G.at av) (AD (by kernel_rfl))) AG)) AV))
 AK)))))))))
theorem GX:Ok (sub (stm 10) 3) ir_Bank_require:=λG V X d k hC hV av =>
 (AE (BZ (Dv (Ed (HG (Au (G.at av) (hC av) (CA (G.at av) (V _ _ (by decide)) (.inl rfl) (by kernel_rfl)) (AC (h:=AH)) (AA (AD (by kernel_rfl)) AG)))) (AX (o:=.eq) (AQ (AD (by kernel_rfl)) AV) CX))
 (AE GH
  AK)
 AK)
 AK)
theorem LX:Ok (sub (stm 10) 7) ir_Bank_op:=λG V X d k hC hV av =>
 (AE (AR (AQ (AQ (AN (G.at av) (AD (by kernel_rfl))) (AD (by kernel_rfl))) AV))
 AK)
theorem JB:Ok (sub (stm 10) 8) ir_Bank_kids:=λG V X d k hC hV av =>
 (AE (AR (BE (AQ (AN (G.at av) (AD (by kernel_rfl))) (AD (by kernel_rfl)))))
 AK)
theorem Gy:Ok (sub (stm 12) 0) ir_Unions_init:=λG V X d k hC hV av =>
 (AE (AM (B8 AG) (Az (G.at av) (AD (by kernel_rfl))) (AZ (by kernel_rfl)) (A0 (by kernel_rfl)))
 (AE (AM (B8 AG) (Az (G.at av) (AD (by kernel_rfl))) (AZ (by kernel_rfl)) (A0 (by kernel_rfl)))
 (AE (AM (B8 AG) (Az (G.at av) (AD (by kernel_rfl))) (AZ (by kernel_rfl)) (A0 (by kernel_rfl)))
 AK)))
theorem Gz:Ok (sub (stm 12) 1) ir_Unions_make:=λG V X d k hC hV av =>
 (AE (Ab (AL (G.at av) (hC av) hV (AN (G.at av) (AD (by kernel_rfl))) (AC (h:=AH)) (AA (Aa (G.at av) BW rfl (by kernel_rfl) (AC (h:=AH)) (AA (AN (G.at av) (AD (by kernel_rfl))) AG)) AG)) (Bq (by kernel_rfl)))
 (AE (Ab (AL (G.at av) (hC av) hV (AN (G.at av) (AD (by kernel_rfl))) (AC (h:=AH)) (AA (B8 (AA (Aa (G.at av) BW rfl (by kernel_rfl) (AC (h:=AH)) (AA (AN (G.at av) (AD (by kernel_rfl))) AG)) AG)) AG)) (Bq (by kernel_rfl)))
 (AE (AR (Aj (o:=.sub) (Aa (G.at av) BW rfl (by kernel_rfl) (AC (h:=AH)) (AA (AN (G.at av) (AD (by kernel_rfl))) AG)) AV))
 AK)))
theorem HA:Ok (sub (stm 12) 2) ir_Unions_size:=λG V X d k hC hV av =>
 (AE (AR (Aa (G.at av) BW rfl (by kernel_rfl) (AC (h:=AH)) (AA (AN (G.at av) (AD (by kernel_rfl))) AG)))
 AK)
theorem HB:Ok (sub (stm 12) 3) ir_Unions_find:=λG V X d k hC hV av =>
 (AE (CQ (AX (o:=.ne) (AQ (AN (G.at av) (AD (by kernel_rfl))) (AD (by kernel_rfl))) (AD (by kernel_rfl)))
 (AE (AM (AQ (AN (G.at av) (AD (by kernel_rfl))) (AD (by kernel_rfl))) (Ae (by kernel_rfl)) (AZ (by kernel_rfl)) (A0 (by kernel_rfl)))
  AK))
 (AE (AR (AD (by kernel_rfl)))
 AK))
theorem GY:Ok (sub (stm 12) 4) ir_Unions_merge:=λG V X d k hC hV av =>
 (AE (B3 (Aa (G.at av) Dy rfl (by kernel_rfl) (AC (h:=AH)) (AA (CZ (AA (AL (G.at av) (hC av) hV (AD (by kernel_rfl)) (AC (h:=AH)) (AA (AD (by kernel_rfl)) AG)) (AA (AL (G.at av) (hC av) hV (AD (by kernel_rfl)) (AC (h:=AH)) (AA (AD (by kernel_rfl)) AG)) AG))) AG)) (Af (Ae (by kernel_rfl)) (Af (Ae (by kernel_rfl)) Bv)) rfl (AZ (by kernel_rfl)) (A0 (by kernel_rfl)) (λ_=>⟨rfl,rfl⟩))
 (AE (BZ (AX (o:=.eq) (AD (by kernel_rfl)) (AD (by kernel_rfl)))
 (AE (AR IU)
  AK)
 AK)
 (AE (AM (AD (by kernel_rfl)) (C0 (AN (G.at av) (AD (by kernel_rfl))) (AD (by kernel_rfl))) (AZ (by kernel_rfl)) (A0 (by kernel_rfl)))
 (AE (Ab (AL (G.at av) (hC av) hV (AQ (AN (G.at av) (AD (by kernel_rfl))) (AD (by kernel_rfl))) (AC (h:=AH)) (AA (AQ (AN (G.at av) (AD (by kernel_rfl))) (AD (by kernel_rfl))) AG)) (Bq (by kernel_rfl)))
 (AE (Ab (AL (G.at av) (hC av) hV (AN (G.at av) (AD (by kernel_rfl))) (AC (h:=AH)) (AA (Ad (AA (AD (by kernel_rfl)) (AA (AD (by kernel_rfl)) AG))) AG)) (Bq (by kernel_rfl)))
 (AE (AR (Ad (AA (AD (by kernel_rfl)) (AA (AD (by kernel_rfl)) AG))))
 AK))))))
theorem FO:Ok (sub (stm 12) 5) ir_Unions_members:=λG V X d k hC hV av =>
 (AE (AR (Aa (G.at av) Dy rfl (by kernel_rfl) (AC (h:=AH)) (AA (AQ (AN (G.at av) (AD (by kernel_rfl))) (AL (G.at av) (hC av) hV (AD (by kernel_rfl)) (AC (h:=AH)) (AA (AD (by kernel_rfl)) AG))) AG)))
 AK)
theorem JC:Ok (sub (stm 14) 0) ir_Heap_init:=λG V X d k hC hV av =>
 (AE (AM (Au (G.at av) (hC av) (CA (G.at av) (V _ _ (by decide)) (.inr rfl) (by kernel_rfl)) AH AG) (Az (G.at av) (AD (by kernel_rfl))) (AZ (by kernel_rfl)) (A0 (by kernel_rfl)))
 (AE (AM (Au (G.at av) (hC av) (CA (G.at av) (V _ _ (by decide)) (.inr rfl) (by kernel_rfl)) AH AG) (Az (G.at av) (AD (by kernel_rfl))) (AZ (by kernel_rfl)) (A0 (by kernel_rfl)))
 (AE (AM (B8 AG) (Az (G.at av) (AD (by kernel_rfl))) (AZ (by kernel_rfl)) (A0 (by kernel_rfl)))
 (AE (AM (B8 AG) (Az (G.at av) (AD (by kernel_rfl))) (AZ (by kernel_rfl)) (A0 (by kernel_rfl)))
 (AE (AM Ch (Az (G.at av) (AD (by kernel_rfl))) (AZ (by kernel_rfl)) (A0 (by kernel_rfl)))
 (AE (AM Ch (Az (G.at av) (AD (by kernel_rfl))) (AZ (by kernel_rfl)) (A0 (by kernel_rfl)))
 (AE (AM (B8 AG) (Az (G.at av) (AD (by kernel_rfl))) (AZ (by kernel_rfl)) (A0 (by kernel_rfl)))
 (AE (AM AV (Az (G.at av) (AD (by kernel_rfl))) (AZ (by kernel_rfl)) (A0 (by kernel_rfl)))
 AK))))))))
theorem JD:Ok (sub (stm 14) 2) ir_Heap_node:=λG V X d k hC hV av =>
 (AE (AR (Aj (o:=.add) (Ad (AA (AL (G.at av) (hC av) hV (AN (G.at av) (AD (by kernel_rfl))) (AC (h:=AH)) (AA (AD (by kernel_rfl)) AG)) AG)) (Aa (G.at av) DL rfl (by kernel_rfl) (AC (h:=AH)) (AA (Ay (Ac (by kernel_rfl)) (BD (AL (G.at av) (hC av) hV (AN (G.at av) (AD (by kernel_rfl))) (AC (h:=AH)) (AA (AD (by kernel_rfl)) AG))) (λa23=>(B1 (by kernel_rfl))) (λa24=>BM) (λa25=>(AL (G.at a25) (hC a25) hV (AD (by kernel_rfl)) (AC (h:=AH)) (AA (AD (by kernel_rfl)) AG)))) AG))))
 AK)
theorem Jw:Ok (sub (stm 14) 3) ir_Heap_add:=λG V X d k hC hV av =>
 (AE (AM (AL (G.at av) (hC av) hV (AN (G.at av) (AD (by kernel_rfl))) (AC (h:=(AC (h:=AH)))) (AA (AD (by kernel_rfl)) (AA (AD (by kernel_rfl)) AG))) (Ae (by kernel_rfl)) (AZ (by kernel_rfl)) (A0 (by kernel_rfl)))
 (AE (BZ (AX (o:=.lt) (AD (by kernel_rfl)) (AL (G.at av) (hC av) hV (AN (G.at av) (AD (by kernel_rfl))) AH AG))
 (AE (AR (AD (by kernel_rfl)))
  AK)
 AK)
 (AE (Ab (AL (G.at av) (hC av) hV (AN (G.at av) (AD (by kernel_rfl))) AH AG) (Bq (by kernel_rfl)))
 (AE (AM (B8 AG) (C0 (AN (G.at av) (AD (by kernel_rfl))) (AD (by kernel_rfl))) (AZ (by kernel_rfl)) (A0 (by kernel_rfl)))
 (AE (CE (BD (DE (G.at av) (by kernel_rfl) (by kernel_rfl) (Ay (Ac (by kernel_rfl)) (BD (AD (by kernel_rfl))) (λa26=>(B1 (by kernel_rfl))) (λa27=>BM) (λa28=>(AL (G.at a28) (hC a28) hV (AD (by kernel_rfl)) (AC (h:=AH)) (AA (AD (by kernel_rfl)) AG)))))) (EP (by kernel_rfl))
 (AE (Ab (AL (G.at av) (hC av) hV (AQ (AN (G.at av) (AD (by kernel_rfl))) (AD (by kernel_rfl))) (AC (h:=AH)) (AA (AD (by kernel_rfl)) AG)) (Bq (by kernel_rfl)))
  AK))
 (AE (Ab (AL (G.at av) (hC av) hV (AD (by kernel_rfl)) (AC (h:=AH)) (AA (AD (by kernel_rfl)) AG)) (Bq (by kernel_rfl)))
 (AE (AR (AD (by kernel_rfl)))
 AK)))))))
theorem Jx:Ok (sub (stm 14) 4) ir_Heap_put:=λG V X d k hC hV av =>
 (AE (AR (AL (G.at av) (hC av) hV (AD (by kernel_rfl)) (AC (h:=(AC (h:=AH)))) (AA (AQ (AD (by kernel_rfl)) AV) (AA (Aa (G.at av) DL rfl (by kernel_rfl) (AC (h:=AH)) (AA (Ay (Ac (by kernel_rfl)) (BD (BE (AD (by kernel_rfl)))) (λa29=>(B1 (by kernel_rfl))) (λa30=>BM) (λa31=>(AL (G.at a31) (hC a31) hV (AD (by kernel_rfl)) (AC (h:=AH)) (AA (AD (by kernel_rfl)) AG)))) AG)) AG))))
 AK)
theorem GZ:Ok (sub (stm 14) 5) ir_Heap_look_at:=λG V X d k hC hV av =>
 (AE (AM (AL (G.at av) (hC av) hV (AN (G.at av) (AD (by kernel_rfl))) (AC (h:=(AC (h:=AH)))) (AA (AL (G.at av) (hC av) hV (AD (by kernel_rfl)) (AC (h:=AH)) (AA (AD (by kernel_rfl)) AG)) (AA (AD (by kernel_rfl)) AG))) (Ae (by kernel_rfl)) (AZ (by kernel_rfl)) (A0 (by kernel_rfl)))
 (AE (BZ (AX (o:=.ne) (AL (G.at av) (hC av) hV (AD (by kernel_rfl)) (AC (h:=AH)) (AA (AD (by kernel_rfl)) AG)) (AL (G.at av) (hC av) hV (AD (by kernel_rfl)) (AC (h:=AH)) (AA (AD (by kernel_rfl)) AG)))
 (AE (Ab (AL (G.at av) (hC av) hV (AD (by kernel_rfl)) (AC (h:=(AC (h:=(AC (h:=AH)))))) (AA (AD (by kernel_rfl)) (AA (AD (by kernel_rfl)) (AA (Ad (AA CX AG)) AG)))) (Bq (by kernel_rfl)))
  AK)
 AK)
 AK))
theorem JE:Ok (sub (stm 14) 6) ir_Heap_find:=λG V X d k hC hV av =>
 (AE (AR (AL (G.at av) (hC av) hV (AN (G.at av) (AD (by kernel_rfl))) (AC (h:=AH)) (AA (AD (by kernel_rfl)) AG)))
 AK)
theorem IA:Ok (sub (stm 14) 8) ir_Heap_merge:=λG V X d k hC hV av =>
 (AE (AR (AL (G.at av) (hC av) hV (AD (by kernel_rfl)) (AC (h:=(AC (h:=(AC (h:=AH)))))) (AA (AD (by kernel_rfl)) (AA (AD (by kernel_rfl)) (AA (AD (by kernel_rfl)) AG)))))
 AK)
theorem JF:Ok (sub (stm 14) 9) ir_Heap_join:=λG V X d k hC hV av =>
 (AE (Ab (AL (G.at av) (hC av) hV (AN (G.at av) (AD (by kernel_rfl))) (AC (h:=AH)) (AA (Ad (AA (AD (by kernel_rfl)) (AA (AD (by kernel_rfl)) (AA (AD (by kernel_rfl)) AG)))) AG)) (Bq (by kernel_rfl)))
 (AE (AM (AL (G.at av) (hC av) hV (AN (G.at av) (AD (by kernel_rfl))) (AC (h:=(AC (h:=AH)))) (AA (AD (by kernel_rfl)) (AA (AD (by kernel_rfl)) AG))) (Ae (by kernel_rfl)) (AZ (by kernel_rfl)) (A0 (by kernel_rfl)))
 (AE (BZ (AX (o:=.is) (AD (by kernel_rfl)) IU)
 (AE (AR BV)
  AK)
 AK)
 (AE (B3 (AD (by kernel_rfl)) (Af (Ae (by kernel_rfl)) (Af (Ae (by kernel_rfl)) Bv)) rfl (AZ (by kernel_rfl)) (A0 (by kernel_rfl)) (λ_=>⟨rfl,rfl⟩))
 (AE (Ab (AL (G.at av) (hC av) hV (AN (G.at av) (AD (by kernel_rfl))) (AC (h:=AH)) (AA (Aj (o:=.sub) (Aa (G.at av) BW rfl (by kernel_rfl) (AC (h:=AH)) (AA (AN (G.at av) (AD (by kernel_rfl))) AG)) AV) AG)) (Bq (by kernel_rfl)))
 (AE (Ab (AL (G.at av) (hC av) hV (AN (G.at av) (AD (by kernel_rfl))) (AC (h:=AH)) (AA (AQ (AN (G.at av) (AD (by kernel_rfl))) (AD (by kernel_rfl))) AG)) (Bq (by kernel_rfl)))
 (AE (AM (NZ (AQ (AN (G.at av) (AD (by kernel_rfl))) (AD (by kernel_rfl))) (AL (G.at av) (hC av) hV (AN (G.at av) (AD (by kernel_rfl))) (AC (h:=AH)) (AA (AD (by kernel_rfl)) AG))) (C0 (AN (G.at av) (AD (by kernel_rfl))) (AD (by kernel_rfl))) (AZ (by kernel_rfl)) (A0 (by kernel_rfl)))
 (AE (AR BV)
 AK))))))))
theorem HC:Ok (sub (stm 14) 10) ir_Heap_settle:=λG V X d k hC hV av =>
 (AE (CQ (AX (o:=(.gt ())) (Aa (G.at av) BW rfl (by kernel_rfl) (AC (h:=AH)) (AA (AN (G.at av) (AD (by kernel_rfl))) AG)) AV)
 (AE (Ab (AL (G.at av) (hC av) hV (AD (by kernel_rfl)) (AC (h:=AH)) (AA (AL (G.at av) (hC av) hV (AN (G.at av) (AD (by kernel_rfl))) AH AG) AG)) (Bq (by kernel_rfl)))
  AK))
 AK)
theorem G0:Ok (sub (stm 14) 13) ir_Heap_members:=λG V X d k hC hV av =>
 (AE (AR (AL (G.at av) (hC av) hV (AN (G.at av) (AD (by kernel_rfl))) (AC (h:=AH)) (AA (AD (by kernel_rfl)) AG)))
 AK)
theorem Fh:Ok (sub (stm 14) 14) ir_Heap_nodes_of:=λG V X d k hC hV av =>
 (AE (AR (DE (G.at av) (by kernel_rfl) (by kernel_rfl) (Ay (Ac (by kernel_rfl)) (BD (AL (G.at av) (hC av) hV (AD (by kernel_rfl)) (AC (h:=AH)) (AA (AD (by kernel_rfl)) AG))) (λa32=>(B1 (by kernel_rfl))) (λa33=>BM) (λa34=>(AL (G.at a34) (hC a34) hV (AD (by kernel_rfl)) (AC (h:=AH)) (AA (AD (by kernel_rfl)) AG))))))
 AK)
theorem JG:Ok (sub (stm 14) 16) ir_Heap_seek:=λG V X d k hC hV av =>
 (AE (AM (AL (G.at av) (hC av) hV (AN (G.at av) (AD (by kernel_rfl))) (AC (h:=(AC (h:=AH)))) (AA (Aj (o:=.add) (Ad (AA (AD (by kernel_rfl)) AG)) (Aa (G.at av) DL rfl (by kernel_rfl) (AC (h:=AH)) (AA (Ay (Ac (by kernel_rfl)) (BD (AD (by kernel_rfl))) (λa35=>(B1 (by kernel_rfl))) (λa36=>BM) (λa37=>(AL (G.at a37) (hC a37) hV (AD (by kernel_rfl)) (AC (h:=AH)) (AA (AD (by kernel_rfl)) AG)))) AG))) (AA Fj AG))) (Ae (by kernel_rfl)) (AZ (by kernel_rfl)) (A0 (by kernel_rfl)))
 (AE (AR (Fk (AX (o:=.lt) (AD (by kernel_rfl)) AV) Fj (AL (G.at av) (hC av) hV (AD (by kernel_rfl)) (AC (h:=AH)) (AA (AD (by kernel_rfl)) AG))))
 AK))
theorem Jy:Ok (stm 16) ir_law_reel:=λG V X d k hC hV av =>
 (AE (AM (AQ (AD (by kernel_rfl)) AV) (Ae (by kernel_rfl)) (AZ (by kernel_rfl)) (A0 (by kernel_rfl)))
 (AE (AM (Aj (o:=.add) (AD (by kernel_rfl)) AV) (C0 (AD (by kernel_rfl)) AV) (AZ (by kernel_rfl)) (A0 (by kernel_rfl)))
 (AE (AR (Aj (o:=.mod) (Fk (AX (o:=.lt) (AD (by kernel_rfl)) (Aa (G.at av) BW rfl (by kernel_rfl) (AC (h:=AH)) (AA (AQ (AD (by kernel_rfl)) AV) AG))) (AQ (AQ (AD (by kernel_rfl)) AV) (AD (by kernel_rfl))) (Aj (o:=(.fdiv ())) (Aj (o:=.add) (Aj (o:=.add) (Aj (o:=.mul) (Aj (o:=.mul) AV (AD (by kernel_rfl))) (AD (by kernel_rfl))) (Aj (o:=.mul) AV (AD (by kernel_rfl)))) AV) AV)) (AD (by kernel_rfl))))
 AK)))
theorem JH:Ok (stm 17) ir_law_deeds:=λG V X d k hC hV av =>
 (AE (CE (GE (G.at av) (Aj (o:=.add) AV (Au (G.at av) (hC av) (CA (G.at av) (V _ _ (by decide)) (.inl rfl) (by kernel_rfl)) (AC (h:=(AC (h:=AH)))) (AA (AD (by kernel_rfl)) (AA AV AG)))) (by kernel_rfl)) (EP (by kernel_rfl))
 (AE (DI (names:=["way","one","other"]) (Ad (AA (Au (G.at av) (hC av) (CA (G.at av) (V _ _ (by decide)) (.inl rfl) (by kernel_rfl)) (AC (h:=(AC (h:=AH)))) (AA (AD (by kernel_rfl)) (AA AV AG))) (AA (Au (G.at av) (hC av) (CA (G.at av) (V _ _ (by decide)) (.inl rfl) (by kernel_rfl)) (AC (h:=(AC (h:=AH)))) (AA (AD (by kernel_rfl)) (AA (Aa (G.at av) BW rfl (by kernel_rfl) (AC (h:=AH)) (AA (AD (by kernel_rfl)) AG)) AG))) (AA (Au (G.at av) (hC av) (CA (G.at av) (V _ _ (by decide)) (.inl rfl) (by kernel_rfl)) (AC (h:=(AC (h:=AH)))) (AA (AD (by kernel_rfl)) (AA (Aa (G.at av) BW rfl (by kernel_rfl) (AC (h:=AH)) (AA (AD (by kernel_rfl)) AG)) AG))) AG)))) (by decide +kernel) (by decide) (AZ (by kernel_rfl)) (A0 (by kernel_rfl)))
  (AE (BZ (Dv (AX (o:=.eq) (AD (by kernel_rfl)) AV) (AX (o:=(.gt ())) (Aa (G.at av) BW rfl (by kernel_rfl) (AC (h:=AH)) (AA (AD (by kernel_rfl)) AG)) AV))
  (AE (Ab (AL (G.at av) (hC av) hV (AD (by kernel_rfl)) (AC (h:=AH)) (AA (Ad (AA (AD (by kernel_rfl)) (AA (AD (by kernel_rfl)) AG))) AG)) (Bq (by kernel_rfl)))
   (AE (Ab (AL (G.at av) (hC av) hV (AD (by kernel_rfl)) (AC (h:=(AC (h:=(AC (h:=AH)))))) (AA (AD (by kernel_rfl)) (AA (AD (by kernel_rfl)) (AA (Ad (AA CX (AA (Aa (G.at av) Of rfl (by kernel_rfl) (AC (h:=AH)) (AA (Aa (G.at av) BW rfl (by kernel_rfl) (AC (h:=AH)) (AA (AD (by kernel_rfl)) AG)) AG)) AG))) AG)))) (Bq (by kernel_rfl)))
   (AE LD
   AK)))
  AK)
  (AE (AM (Aj (o:=.sub) (Aa (G.at av) BW rfl (by kernel_rfl) (AC (h:=AH)) (AA (AD (by kernel_rfl)) AG)) AV) (Ae (by kernel_rfl)) (AZ (by kernel_rfl)) (A0 (by kernel_rfl)))
  (AE (AM (AQ (CZ (AA (Ad (AA CX (AA (AD (by kernel_rfl)) AG))) (AA (Ad (AA CX (AA (AD (by kernel_rfl)) (AA (AD (by kernel_rfl)) AG)))) (AA (Ad (AA CX (AA (AD (by kernel_rfl)) (AA (AD (by kernel_rfl)) AG)))) AG)))) (AD (by kernel_rfl))) (Ae (by kernel_rfl)) (AZ (by kernel_rfl)) (A0 (by kernel_rfl)))
  (AE (AM (AL (G.at av) (hC av) hV (AD (by kernel_rfl)) (AC (h:=(AC (h:=AH)))) (AA (AQ (AD (by kernel_rfl)) AV) (AA (BE (AD (by kernel_rfl))) AG))) (Ae (by kernel_rfl)) (AZ (by kernel_rfl)) (A0 (by kernel_rfl)))
  (AE (BZ (AX (o:=.eq) (AD (by kernel_rfl)) (Aa (G.at av) BW rfl (by kernel_rfl) (AC (h:=AH)) (AA (AD (by kernel_rfl)) AG)))
  (AE (Ab (AL (G.at av) (hC av) hV (AD (by kernel_rfl)) (AC (h:=AH)) (AA (AD (by kernel_rfl)) AG)) (Bq (by kernel_rfl)))
   AK)
  AK)
  (AE (BZ (AX (o:=.ne) (AQ (AD (by kernel_rfl)) (AD (by kernel_rfl))) (AD (by kernel_rfl)))
  (AE (AR BV)
   AK)
  AK)
  AK))))))))
 (AE (Ab (AL (G.at av) (hC av) hV (AD (by kernel_rfl)) AH AG) (Bq (by kernel_rfl)))
 (AE (AR BV)
 AK)))
theorem Jz:Ok (stm 18) ir_law_lots:=λG V X d k hC hV av =>
 (AE (B3 (Ad (AA (Gr (G.at av) (by kernel_rfl) (by kernel_rfl) (Aa (G.at av) BW rfl (by kernel_rfl) (AC (h:=AH)) (AA (AD (by kernel_rfl)) AG))) (AA BV AG))) (Af (Ae (by kernel_rfl)) (Af (Ae (by kernel_rfl)) Bv)) rfl (AZ (by kernel_rfl)) (A0 (by kernel_rfl)) (λ_=>⟨rfl,rfl⟩))
 (AE (CQ (HG (AD (by kernel_rfl)))
 (AE (B3 (Ad (AA BV (AA Ch AG))) (Af (Ae (by kernel_rfl)) (Af (Ae (by kernel_rfl)) Bv)) rfl (AZ (by kernel_rfl)) (A0 (by kernel_rfl)) (λ_=>⟨rfl,rfl⟩))
  (AE (HN (Ac (by kernel_rfl)) (HJ (G.at av) (AD (by kernel_rfl)) (by kernel_rfl)) (λa41=>(ML (by kernel_rfl) (by kernel_rfl))) (λa42=>BM) (λa43=>(Ad (AA (AL (G.at a43) (hC a43) hV (AD (by kernel_rfl)) (AC (h:=(AC (h:=AH)))) (AA (Aj (o:=.add) (Ad (AA (AQ (AD (by kernel_rfl)) AV) AG)) (Aa (G.at a43) DL rfl (by kernel_rfl) (AC (h:=AH)) (AA (Ay (Ac (by kernel_rfl)) (BD (BE (AD (by kernel_rfl)))) (λa44=>(B1 (by kernel_rfl))) (λa45=>BM) (λa46=>(AQ (AD (by kernel_rfl)) (AD (by kernel_rfl))))) AG))) (AA (AD (by kernel_rfl)) AG))) (AA (AD (by kernel_rfl)) AG)))) (by kernel_rfl) (ON (by kernel_rfl)))
  (AE (CE (BD (Aj (o:=.add) (AD (by kernel_rfl)) (AD (by kernel_rfl)))) (I6 (by kernel_rfl) (by kernel_rfl))
  (AE (B3 (Aa (G.at av) Dy rfl (by kernel_rfl) (AC (h:=AH)) (AA (CZ (AA (AQ (AD (by kernel_rfl)) (AD (by kernel_rfl))) (AA (AQ (AD (by kernel_rfl)) (AD (by kernel_rfl))) AG))) AG)) (Af (Ae (by kernel_rfl)) (Af (Ae (by kernel_rfl)) Bv)) rfl (AZ (by kernel_rfl)) (A0 (by kernel_rfl)) (λ_=>⟨rfl,rfl⟩))
   (AE (BZ (AX (o:=.ne) (AD (by kernel_rfl)) (AD (by kernel_rfl)))
   (AE (B3 (Ad (AA (Ay (Ac (by kernel_rfl)) (BD (AD (by kernel_rfl))) (λa38=>(B1 (by kernel_rfl))) (λa39=>BM) (λa40=>(Fk (AX (o:=.eq) (AD (by kernel_rfl)) (AD (by kernel_rfl))) (AD (by kernel_rfl)) (AD (by kernel_rfl))))) (AA BV AG))) (Af (Ae (by kernel_rfl)) (Af (Ae (by kernel_rfl)) Bv)) rfl (AZ (by kernel_rfl)) (A0 (by kernel_rfl)) (λ_=>⟨rfl,rfl⟩))
    AK)
   AK)
   AK)))
  AK))))
 (AE (AR (AD (by kernel_rfl)))
 AK)))
theorem G3:Ok (stm 19) ir_law_smallest:=λG V X d k hC hV av =>
 (AE (AM Ch (Ae (by kernel_rfl)) (AZ (by kernel_rfl)) (A0 (by kernel_rfl)))
 (AE (CQ (AX (o:=.lt) (Aa (G.at av) BW rfl (by kernel_rfl) (AC (h:=AH)) (AA (AD (by kernel_rfl)) AG)) (Jm (G.at av) (by kernel_rfl) (by kernel_rfl) (AD (by kernel_rfl))))
 (AE (AM (B8 AG) (Ae (by kernel_rfl)) (AZ (by kernel_rfl)) (A0 (by kernel_rfl)))
  (AE (CE (HJ (G.at av) (AD (by kernel_rfl)) (by kernel_rfl)) (I6 (by kernel_rfl) (by kernel_rfl))
  (AE (BZ (Lu (AX (o:=.notin) (AQ (AD (by kernel_rfl)) (AD (by kernel_rfl))) (AD (by kernel_rfl))) (AX (o:=.eq) (Ay (Ac (by kernel_rfl)) (BD (BE (AD (by kernel_rfl)))) (λa47=>(B1 (by kernel_rfl))) (λa48=>(Hn (AX (o:=.notin) (AQ (AD (by kernel_rfl)) (AD (by kernel_rfl))) (AD (by kernel_rfl))))) (λa49=>(AD (by kernel_rfl)))) (CZ AG)))
   (AE (Ab (AL (G.at av) (hC av) hV (AD (by kernel_rfl)) (AC (h:=AH)) (AA (Ad (AA (Aj (o:=.add) AV (Aa (G.at av) Hq rfl (by kernel_rfl) (AC (h:=AH)) (AA (Ay (Ac (by kernel_rfl)) (BD (BE (AD (by kernel_rfl)))) (λa50=>(B1 (by kernel_rfl))) (λa51=>BM) (λa52=>(AQ (AQ (AD (by kernel_rfl)) (AQ (AD (by kernel_rfl)) (AD (by kernel_rfl)))) AV))) AG))) (AA (AD (by kernel_rfl)) AG))) AG)) (Bq (by kernel_rfl)))
    AK)
   AK)
   AK))
  (AE (B3 (Aa (G.at av) Om rfl (by kernel_rfl) (AC (h:=AH)) (AA (AD (by kernel_rfl)) AG)) (Af (Ae (by kernel_rfl)) (Af (Ae (by kernel_rfl)) Bv)) rfl (AZ (by kernel_rfl)) (A0 (by kernel_rfl)) (λ_=>⟨rfl,rfl⟩))
  (AE (AM (Ad (AA (AD (by kernel_rfl)) (AA (AD (by kernel_rfl)) AG))) (C0 (AD (by kernel_rfl)) (AQ (AD (by kernel_rfl)) (AD (by kernel_rfl)))) (AZ (by kernel_rfl)) (A0 (by kernel_rfl)))
  AK)))))
 (AE (AR (AD (by kernel_rfl)))
 AK)))
theorem KA:Ok (stm 20) ir_law_term:=λG V X d k hC hV av =>
 (AE (AM (AQ (AD (by kernel_rfl)) (AQ (AQ (AD (by kernel_rfl)) (AD (by kernel_rfl))) AV)) (Ae (by kernel_rfl)) (AZ (by kernel_rfl)) (A0 (by kernel_rfl)))
 (AE (AR (Aj (o:=.add) (Ad (AA (AQ (AD (by kernel_rfl)) AV) AG)) (Aa (G.at av) DL rfl (by kernel_rfl) (AC (h:=AH)) (AA (Ay (Ac (by kernel_rfl)) (BD (BE (AD (by kernel_rfl)))) (λa53=>(B1 (by kernel_rfl))) (λa54=>BM) (λa55=>(Au (G.at a55) (hC a55) (CA (G.at a55) (V _ _ (by decide)) (.inl rfl) (by kernel_rfl)) (AC (h:=(AC (h:=(AC (h:=(AC (h:=AH)))))))) (AA (AD (by kernel_rfl)) (AA (AD (by kernel_rfl)) (AA (AD (by kernel_rfl)) (AA (AQ (AD (by kernel_rfl)) (AD (by kernel_rfl))) AG))))))) AG))))
 AK))
theorem JI:Ok (stm 21) ir_law_nodes:=λG V X d k hC hV av =>
 (AE (AR (Aj (o:=.add) AV (Aa (G.at av) Hq rfl (by kernel_rfl) (AC (h:=AH)) (AA (Ay (Ac (by kernel_rfl)) (BD (BE (AD (by kernel_rfl)))) (λa56=>(B1 (by kernel_rfl))) (λa57=>BM) (λa58=>(Au (G.at a58) (hC a58) (CA (G.at a58) (V _ _ (by decide)) (.inl rfl) (by kernel_rfl)) (AC (h:=AH)) (AA (AD (by kernel_rfl)) AG)))) AG))))
 AK)
theorem FP:Ok (stm 22) ir_law_told_right:=λG V X d k hC hV av =>
 (AE (AM (Au (G.at av) (hC av) (CA (G.at av) (V _ _ (by decide)) (.inl rfl) (by kernel_rfl)) (AC (h:=(AC (h:=AH)))) (AA (AD (by kernel_rfl)) (AA (AD (by kernel_rfl)) AG))) (Ae (by kernel_rfl)) (AZ (by kernel_rfl)) (A0 (by kernel_rfl)))
 (AE (AM (Au (G.at av) (hC av) (CA (G.at av) (V _ _ (by decide)) (.inl rfl) (by kernel_rfl)) (AC (h:=(AC (h:=AH)))) (AA (AD (by kernel_rfl)) (AA (AD (by kernel_rfl)) AG))) (Ae (by kernel_rfl)) (AZ (by kernel_rfl)) (A0 (by kernel_rfl)))
 (AE (DI (names:=["n","other"]) (Ad (AA (Au (G.at av) (hC av) (CA (G.at av) (V _ _ (by decide)) (.inl rfl) (by kernel_rfl)) (AC (h:=(AC (h:=AH)))) (AA (AD (by kernel_rfl)) (AA (Aa (G.at av) BW rfl (by kernel_rfl) (AC (h:=AH)) (AA (AD (by kernel_rfl)) AG)) AG))) (AA (Au (G.at av) (hC av) (CA (G.at av) (V _ _ (by decide)) (.inl rfl) (by kernel_rfl)) (AC (h:=(AC (h:=AH)))) (AA (AD (by kernel_rfl)) (AA (Aa (G.at av) BW rfl (by kernel_rfl) (AC (h:=AH)) (AA (AD (by kernel_rfl)) AG)) AG))) AG))) (by decide +kernel) (by decide) (AZ (by kernel_rfl)) (A0 (by kernel_rfl)))
 (AE (BZ (AX (o:=.ne) (Ay (Ac (by kernel_rfl)) (BD (Ad (AA (AD (by kernel_rfl)) (AA (AD (by kernel_rfl)) (AA (Aj (o:=.sub) (Aa (G.at av) BW rfl (by kernel_rfl) (AC (h:=AH)) (AA (AD (by kernel_rfl)) AG)) AV) AG))))) (λa59=>(B1 (by kernel_rfl))) (λa60=>BM) (λa61=>(AL (G.at a61) (hC a61) hV (AD (by kernel_rfl)) (AC (h:=AH)) (AA (AD (by kernel_rfl)) AG)))) (Ay (Ac (by kernel_rfl)) (BD (Ad (AA (AD (by kernel_rfl)) (AA (AD (by kernel_rfl)) (AA (Aj (o:=.sub) (Aa (G.at av) BW rfl (by kernel_rfl) (AC (h:=AH)) (AA (AD (by kernel_rfl)) AG)) AV) AG))))) (λa62=>(B1 (by kernel_rfl))) (λa63=>BM) (λa64=>(AQ (AQ (AD (by kernel_rfl)) (AQ (AD (by kernel_rfl)) (AD (by kernel_rfl)))) AV))))
 (AE (AR BV)
  AK)
 AK)
 (AE (AM (Au (G.at av) (hC av) (CA (G.at av) (V _ _ (by decide)) (.inl rfl) (by kernel_rfl)) (AC (h:=(AC (h:=(AC (h:=(AC (h:=AH)))))))) (AA (AD (by kernel_rfl)) (AA (AD (by kernel_rfl)) (AA (AD (by kernel_rfl)) (AA (AQ (AD (by kernel_rfl)) (AD (by kernel_rfl))) AG))))) (Ae (by kernel_rfl)) (AZ (by kernel_rfl)) (A0 (by kernel_rfl)))
 (AE (BZ (Dv (AX (o:=.ne) (Au (G.at av) (hC av) (CA (G.at av) (V _ _ (by decide)) (.inl rfl) (by kernel_rfl)) (AC (h:=AH)) (AA (AD (by kernel_rfl)) AG)) (AQ (AQ (AD (by kernel_rfl)) (AQ (AD (by kernel_rfl)) (AD (by kernel_rfl)))) AV)) (AX (o:=.ne) (AL (G.at av) (hC av) hV (AD (by kernel_rfl)) (AC (h:=AH)) (AA (AD (by kernel_rfl)) AG)) (AQ (AD (by kernel_rfl)) (AD (by kernel_rfl)))))
 (AE (AR BV)
  AK)
 AK)
 (AE (AR (KV (AL (G.at av) (hC av) hV (AD (by kernel_rfl)) (AC (h:=(AC (h:=AH)))) (AA (AD (by kernel_rfl)) (AA (AD (by kernel_rfl)) AG))) (Ec (o:=.eq) (AL (G.at av) (hC av) hV (AD (by kernel_rfl)) (AC (h:=(AC (h:=AH)))) (AA (AD (by kernel_rfl)) (AA (AD (by kernel_rfl)) AG))) (Ec (o:=.eq) (AQ (AD (by kernel_rfl)) (AD (by kernel_rfl))) (AQ (AD (by kernel_rfl)) (AD (by kernel_rfl)))))))
 AK)))))))
theorem Pi:Ok (stm 23) ir_law:=λG V X d k hC hV av =>
 (AE (DI (names:=["spool","heap"]) (Ad (AA (B8 (AA (Ay (Ac (by kernel_rfl)) (BD (Lw (AD (by kernel_rfl)))) (λa65=>(B1 (by kernel_rfl))) (λa66=>BM) (λa67=>(Aj (o:=.mod) (Aa (G.at a67) Og rfl (by kernel_rfl) (AC (h:=AH)) (AA (AD (by kernel_rfl)) AG)) AV))) (AA AV AG))) (AA (Au (G.at av) (hC av) (CA (G.at av) (V _ _ (by decide)) (.inr rfl) (by kernel_rfl)) AH AG) AG))) (by decide +kernel) (by decide) (AZ (by kernel_rfl)) (A0 (by kernel_rfl)))
 (AE (DI (names:=["grammar","rows","pairs"]) (Ad (AA (Au (G.at av) (hC av) (CA (G.at av) (V _ _ (by decide)) (.inr rfl) (by kernel_rfl)) (AC (h:=AH)) (AA (AD (by kernel_rfl)) AG)) (AA (B8 (AA (Ad (AA CX AG)) (AA (Ad (AA CX AG)) AG))) (AA (B8 AG) AG)))) (by decide +kernel) (by decide) (AZ (by kernel_rfl)) (A0 (by kernel_rfl)))
 (AE (CE (BD (AD (by kernel_rfl))) (EP (by kernel_rfl))
 (AE (Ab (AL (G.at av) (hC av) hV (AD (by kernel_rfl)) (AC (h:=AH)) (AA (AD (by kernel_rfl)) AG)) (Bq (by kernel_rfl)))
  AK))
 (AE (CE (GE (G.at av) AV (by kernel_rfl)) (EP (by kernel_rfl))
 (AE (BZ (Dv (Ed (HG (Au (G.at av) (hC av) (CA (G.at av) (V _ _ (by decide)) (.inl rfl) (by kernel_rfl)) (AC (h:=(AC (h:=(AC (h:=(AC (h:=AH)))))))) (AA (AD (by kernel_rfl)) (AA (AD (by kernel_rfl)) (AA (AD (by kernel_rfl)) (AA (AD (by kernel_rfl)) AG))))))) (Ed (HG (Au (G.at av) (hC av) (CA (G.at av) (V _ _ (by decide)) (.inl rfl) (by kernel_rfl)) (AC (h:=(AC (h:=(AC (h:=(AC (h:=AH)))))))) (AA (AD (by kernel_rfl)) (AA (AD (by kernel_rfl)) (AA (AD (by kernel_rfl)) (AA (AD (by kernel_rfl)) AG))))))))
  (AE (AR BV)
   AK)
  AK)
  AK))
 (AE (AR BV)
 AK)))))
theorem F5 {h:Heap}:∀ (l:List Addr){a:Addr}{o:Obj},(l.filterMap λa=>(h.get? a).map (a,·)).lookup a=some o->h.get? a=some o/\a∈l:=by
 intro l
 induction l with
 | nil=>intro a o e;cases e
 | cons b l ih =>
  intro a o e;cases q:h.get? b with
  | none =>
   rw[List.filterMap_cons_none (by refine ZN q ?_;rfl)]at e;exact⟨(ih e).1,.tail _ (ih e).2⟩
  | some x =>
   rw[List.filterMap_cons_some (b:=(b,x)) (by refine ZN q ?_;rfl)]at e;replace e:=ZO List.lookup_cons.symm e
   split at e
   ·rename_i z
    cases e;refine ZN (beq_iff_eq.mp z) ?_;exact⟨q,.head _⟩
   ·exact⟨(ih e).1,.tail _ (ih e).2⟩
theorem Ni (h:Heap):(Bl h).In h:=λa o e=>(F5 keptAt e).1
theorem Mb {h:Heap}{a:Addr}{o:Obj}(e:(Bl h).lookup a=some o):a≠2:=λq=>by
 have:=(F5 keptAt e).2;subst q;exact absurd this (by decide)
noncomputable def JJ (st:Stmt):List Str:=(B9 st).args.map (·.arg)
structure KB (st:Stmt) (fn:FN):Prop where
 a1:(B9 st).posonlyargs.isEmpty=true
 a2:(B9 st).vararg.isNone=true
 a3:(B9 st).kwonlyargs.isEmpty=true
 a4:(B9 st).kwarg.isNone=true
 a5:JJ st=fn.params.map Str.ofString
 a6:fn.params.Nodup
 a7:(Am st).isCoroutine=false
 a8:(Am st).isGenerator=false
 a9:(Am st).kind=.function
 a10:∀ x∈fn.params,(Am st).names.lookup (Str.ofString x)=some .local\/(Am st).names.lookup (Str.ofString x)=some .cell
 a11:∀ y∈(Am st).names,y.2≠.cell\/((cellsFrom 0 (Am st).names []).lookup y.1).isSome=true
 a12:((cellsFrom 0 (Am st).names []).map (·.1)).Nodup
 a13:∀ y∈(Am st).names,y.2≠.free
theorem JK {α β:Type}{f g:α->Option β}:∀ {l:List α},(∀ x∈l,f x=g x)->l.filterMap f=l.filterMap g
 | [],_=>rfl
 | x::l,h=>by refine ZO List.filterMap_cons ?_;refine ZN List.filterMap_cons ?_;refine ZN (h x (.head _)) ?_;rw[JK λy hy=>h y (.tail _ hy)]
theorem KC {fd:FuncData}{ns:List Str}(h1:fd.params.posonlyargs=[])(h2:fd.params.args.map (·.arg)=ns)(h3:fd.params.kwonlyargs=[])(h4:fd.params.vararg=none)(h5:fd.params.kwarg=none)(h6:fd.defaults=.none)(hn:ns.Nodup)(xs:List Value)(hx:xs.length=ns.length) :
  bindArgs fd ⟨xs,[]⟩=pure (ns.zip xs):=by
 have look:∀ (ns:List Str) (xs:List Value),xs.length=ns.length->∀ n∈ns,((ns.zip xs).lookup n).isSome=true:=by
  intro ns
  induction ns with
  | nil=>intro xs _ n h;cases h
  | cons m ns ih =>
   intro xs hx n h;cases xs with
   | nil=>cases hx
   | cons x xs =>
   refine ZN List.zip_cons_cons ?_;refine ZN List.lookup_cons ?_
   by_cases q:n=m
   ·subst q;simp
   ·refine ZN (show (n == m)=false from beq_false_of_ne q) ?_
    rcases Zz h with rfl | h
    ·exact absurd rfl q
    ·exact ih xs (by simpa using hx) n h
 have fm:∀ (ns:List Str) (xs:List Value),ns.Nodup->xs.length=ns.length->ns.filterMap (λn=>((ns.zip xs).lookup n).map (n,·))=ns.zip xs:=by
  intro ns
  induction ns with
  | nil=>intro xs _ _;rfl
  | cons m ns ih =>
   intro xs hn hx;cases xs with
   | nil=>cases hx
   | cons x xs =>
   have hn:=List.nodup_cons.mp hn;refine ZN List.zip_cons_cons ?_;refine ZN (List.filterMap_cons_some (b:=(m,x)) (by simp)) ?_
   congr 1
   refine ZO (JK λn h=>?_) (ih xs hn.2 (by simpa using hx));rw[List.lookup_cons,show (n == m)=false from beq_false_of_ne λe=>hn.1 (e▸h)]
 have hmiss:(ns.filter λn=>((ns.zip xs).lookup n).isNone)=[]:=by
  refine List.filter_eq_nil_iff.mpr ?_;intro n h;have:=look ns xs hx n h;cases q:(ns.zip xs).lookup n with
  | none=>rw[q]at this;cases this
  | some=>simp
 obtain⟨name,qualname,params,body,scope,globals,closure,defaults,kwdefaults,doc,pym,ann,code,ct,bi⟩:=fd;obtain⟨po,args,va,ko,kd,ka,df⟩:=params;cases h1;cases h3;cases h4;cases h5;cases h6;cases h2;unfold bindArgs;dsimp only[List.map_nil,List.nil_append,List.append_nil,List.forIn_nil];have c1:¬ (decide (xs.length > (args.map (·.arg)).length) && (none:Option Arg).isNone)=true:=by
  refine ZN (show decide (xs.length > (args.map (·.arg)).length)=false from decide_eq_false (Zp (Nat.le_of_eq hx))) ?_;exact Bool.false_ne_true
 refine (pure_bind _ _).trans ?_;refine (pure_bind (none:Option (Array Value)) _).trans ?_;refine (if_neg c1).trans ?_;have e:∀ k,List.drop k ((none:Option (Array Value)).getD #[]).toList=[]:=λk=>List.drop_nil
 refine (if_neg (by
  rw[e];show ¬ (!(List.filter _ (List.take (args.map (·.arg)).length (args.map (·.arg)))).isEmpty)=true;refine ZN List.take_length ?_;exact λq=>nomatch (congrArg (λl:List Str=>!l.isEmpty) hmiss).symm.trans q)).trans ?_
 have ez:∀ (k:Nat) (L:List Str),L.zip (List.drop k ((none:Option (Array Value)).getD #[]).toList)=[]:=λk L=>by rw[e];exact List.zip_nil_right
 refine (congrArg (λl=>bind (forIn l _ _) _) (ez _ _)).trans ?_;refine (pure_bind _ _).trans ?_;refine (pure_bind _ _).trans ?_;refine (if_neg (λq=>nomatch q)).trans ?_;exact congrArg pure ((congrArg (List.filterMap _) (List.append_nil _)).trans (fm _ _ hn hx))
set_option tactic.hygienic true in
theorem Nj {g:Gl}{f:Addr}{fn:FN}{st:Stmt}(h:Lm g.K f=Ln st)(p:KB st fn):∃ fd,FnAt g f fn fd (Hb st)/\fd.scope=Am st:=by
 refine eX1 (ms h) λfd zz=>aN2 zz λhf e=>?_
 have e2:fd.scope=Am st:=congrArg (·.2.1) e
 have e3:fd.params=B9 st:=congrArg (·.2.2.1) e;refine⟨fd,⟨?_,congrArg (·.1) e,congrArg (·.2.2.2.1) e,congrArg (·.2.2.2.2.1) e,congrArg (·.2.2.2.2.2.1) e,by refine ZN e2 ?_;exact p.a7,by refine ZN e2 ?_;exact p.a8,by refine ZN e2 ?_;exact p.a9,congrArg (·.2.2.2.2.2.2.2) e,
  λxs hx=>KC (by refine ZN e3 ?_;exact List.isEmpty_iff.mp p.a1) (by refine ZN e3 ?_;exact p.a5) (by refine ZN e3 ?_;exact List.isEmpty_iff.mp p.a3) (by refine ZN e3 ?_;exact Option.isNone_iff_eq_none.mp p.a2) (by refine ZN e3 ?_;exact Option.isNone_iff_eq_none.mp p.a4) (congrArg (·.2.2.2.2.2.2.1) e) ?_ xs (by rw[ZF];exact hx),
  by refine ZN e2 ?_;exact p.a10,λy hy=>?_,by refine ZN e2 ?_;exact p.a12,by refine ZN e2 ?_;exact p.a13,p.a6⟩,e2⟩
 ·have hf:(match g.K.lookup f with
   | some ⟨_,_,.func fd,_⟩=>some fd
   | _=>none)=some fd:=hf
  split at hf
  ·rename_i oc od fd' osl q
   cases hf;exact⟨oc,od,osl,q⟩
  ·cases hf
 ·rw[List.Nodup];refine List.pairwise_map.mpr ?_
  exact List.Pairwise.imp (λh e=>h (Ah e)) p.a6
 ·rw[e2]at hy ⊢
  exact (p.a11 _ (Ax hy)).resolve_left λq=>q rfl
noncomputable def G4:Hook:=⟨ObsT,λs=>Da s.heap,λ_=>D8,λ_ h=>∃ h0:Heap,Da h0=D8/\∀ b o,h0.get? b=some o->h.get? b=some o,
 λ_ s e=>⟨s.heap,e,λ_ _ e=>e⟩,λ_ _ _ ⟨h0,e,k⟩ k2=>⟨h0,e,λb o q=>k2 b o (k b o q)⟩⟩
theorem CC {α β:Type}{f g:α->β}{l:List α}(e:l.map f=l.map g):∀ x∈l,f x=g x:=List.map_inj_left.mp e
noncomputable def G5 (prog:Program) (w:World) (h h0:Heap):Gl:=⟨prog,w,Bl h,h0,λc n=>(fvT.lookup (c,n)).map Value.ref,λc=>clT.lookup c,[]⟩
section
variable {prog:Program} {w:World} {h h0:Heap}
theorem K9 {c n:String}{v:Value}(e:(G5 prog w h h0).fv c n=some v):∃ a,v=.ref a/\((c,n),a)∈fvT:=by
 obtain⟨a,h1,h2⟩:=ms e;exact⟨a,h2.symm,CP h1⟩
theorem G6 {c:String}{C:Addr}(e:(G5 prog w h h0).cl c=some C):(c,C)∈clT:=CP e
theorem pf {α β:Type}{a b:α×β}(e:a=b):a.1=b.1:=e▸rfl
theorem ps {α β:Type}{a b:α×β}(e:a=b):a.2=b.2:=e▸rfl
theorem ob1 (o:Da h=D8):∀ p∈fvT,keepIn (Bl h) (.ref p.2)=true:=CC (congrArg (·.1) o)
theorem ob2 (o:Da h=D8){x:(String×Addr)×String×Addr}(m:x∈meT):findIn (Bl h) (.ref x.1.2) (Str.ofString x.2.1)=some (some (.ref x.2.2))/\typeIn (Bl h) (.ref x.2.2)=some (.type "function") :=
 have e:=CC (f:=λx=>(findIn (Bl h) (.ref x.1.2) (Str.ofString x.2.1),typeIn (Bl h) (.ref x.2.2))) (g:=λx=>(some (some (.ref x.2.2)),some (.type "function"))) (congrArg (·.2.1) o) x m
 ⟨pf e,ps e⟩
structure Pj (h:Heap) (C:Addr):Prop where
 a1:(clsIn (Bl h) C).map (·.hasDict)=some true
 a2:findIn (Bl h) (.ref C) "__getattribute__"=some (some (.builtin "object.__getattribute__"))
 a3:findIn (Bl h) (.ref C) "__getattr__"=some none
 a4:findIn (Bl h) (.ref C) "__setattr__"=some (some (.builtin "object.__setattr__"))
 a5:plainOver (Bl h) C=true
 a6:makesIn (Bl h) C=true
theorem ob3 (o:Da h=D8){x:String×Addr}(m:x∈clT):Pj h x.2 :=
 have e:=CC (f:=λx=>((clsIn (Bl h) x.2).map (·.hasDict),findIn (Bl h) (.ref x.2) "__getattribute__",findIn (Bl h) (.ref x.2) "__getattr__",findIn (Bl h) (.ref x.2) "__setattr__",plainOver (Bl h) x.2,makesIn (Bl h) x.2)) (g:=λ_=>(some true,some (some (.builtin "object.__getattribute__")),some none,some (some (.builtin "object.__setattr__")),true,true)) (congrArg (·.2.2.1) o) x m
 ⟨pf e,pf (ps e),pf (ps (ps e)),pf (ps (ps (ps e))),pf (ps (ps (ps (ps e)))),ps (ps (ps (ps (ps e))))⟩
theorem ob4 (o:Da h=D8){x:String×Addr}(m:x∈clT):∀ n∈attrNames,findIn (Bl h) (.ref x.2) (Str.ofString n)=some none:=CC (CC (f:=λx=>attrNames.map λn=>findIn (Bl h) (.ref x.2) (Str.ofString n)) (g:=λ_=>attrNames.map λ_=>some none) (congrArg (·.2.2.2.1) o) x m)
theorem ob5 (o:Da h=D8):∀ x∈fnT,Lm (Bl h) x.1=Ln x.2:=CC (congrArg (·.2.2.2.2.1) o)
theorem ob6 (o:Da h=D8):h.Ns mainGlobals (h.nsMap mainGlobals):=.of_isNs (congrArg (·.2.2.2.2.2.1.1) o)
theorem ob7 (o:Da h=D8):h.Ns builtinsNs (h.nsMap builtinsNs):=.of_isNs (congrArg (·.2.2.2.2.2.1.2) o)
theorem ob8 (o:Da h=D8):∀ x∈glT,h.nsMap mainGlobals (Str.ofString x.1)=some (.ref x.2):=CC (congrArg (·.2.2.2.2.2.2.1) o)
theorem ob9 (o:Da h=D8){x:String}(m:x∈biNames):h.nsMap mainGlobals (Str.ofString x)=none/\h.nsMap builtinsNs (Str.ofString x)=Gn x :=
 have e:=CC (f:=λx=>(h.nsMap mainGlobals (Str.ofString x),h.nsMap builtinsNs (Str.ofString x))) (g:=λx=>(none,Gn x)) (congrArg (·.2.2.2.2.2.2.2) o) x m
 ⟨pf e,ps e⟩
theorem On:∀ x∈fvT,(x.1.1=""\/x.1.1="class")->(x.1.2,x.2)∈glT:=by decide +kernel
theorem Oo:∀ y∈clT,∀ x∈fvT,x.1.1=y.1->((y.1,y.2),x.1.2,x.2)∈meT/\x.1.2∉attrNames:=by decide +kernel
theorem gOk (o:Da h=D8)(k:∀ b o,h.get? b=some o->h0.get? b=some o):GOk (G5 prog w h h0):=by
 refine⟨λh' kp a o e=>?_,λc n v e=>?_,λc C e=>?_,λc C e=>(ob3 o (G6 e)).a2,λc C e=>(ob3 o (G6 e)).a3,?_,λc C n v e1 e2=>?_,λc n v e=>?_,λc C e=>⟨(ob3 o (G6 e)).a4,(ob3 o (G6 e)).a5⟩,λc C n e hn=>ob4 o (G6 e) n hn⟩
 ·exact kp a o (Mb e) (k a o (Ni h a o e))
 ·obtain⟨a,rfl,_⟩:=K9 e;rfl
 ·obtain⟨cd,h1,h2⟩:=ms (ob3 o (G6 e)).a1
  exact⟨cd,h1,h2⟩
 ·refine⟨h.nsMap mainGlobals,h.nsMap builtinsNs,Dd (ob6 o) λo e=>k _ o e,Dd (ob7 o) λo e=>k _ o e,λx v e=>?_,λc n v hc e=>?_⟩
  ·have hx:x∈biNames:=ZE (f:=(·.1)) (CP e)
   exact⟨(ob9 o hx).1,(ob9 o hx).2.trans e⟩
  ·obtain⟨a,rfl,hm⟩:=K9 e
   exact ob8 o _ (On _ hm hc)
 ·obtain⟨a,rfl,hm⟩:=K9 e2
  obtain⟨m1,m2⟩:=Oo _ (G6 e1) _ hm rfl;exact⟨a,rfl,m2,(ob2 o m1).1,(ob2 o m1).2⟩
 ·obtain⟨a,rfl,hm⟩:=K9 e
  exact ob1 o _ hm
theorem Py:Pf (G5 prog w h h0):=λc n hm =>
 (show ∀ p∈K5,((fvT.lookup p).map Value.ref).isSome=true by decide +kernel) (c,n) hm
theorem Pk:∀ p∈txL.map (·.1),p.2="__init__"->p.1≠"class"/\∃ y∈meT,y.1.1=p.1/\y.2.1="__init__"/\(p.1,y.1.2)∈clT/\fvT.lookup ("class",p.1)=some y.1.2/\clT.lookup p.1=some y.1.2/\fvT.lookup p=some y.2.2:=by decide +kernel
theorem Pl (o:Da h=D8)(c:String)(fn:FN)(e:tx c "__init__"=some fn):c≠"class"/\∃ C fI,(G5 prog w h h0).fv "class" c=some (.ref C)/\(G5 prog w h h0).cl c=some C/\(G5 prog w h h0).fv c "__init__"=some (.ref fI)/\makesIn (Bl h) C=true/\findIn (Bl h) (.ref C) "__init__"=some (some (.ref fI))/\typeIn (Bl h) (.ref fI)=some (.type "function"):=by
 obtain⟨h1,y,hy,e1,e2,h3,h4,h5,h6⟩:=Pk _ (ZE (f:=(·.1)) (CP e)) rfl;have q:=ob2 o hy;rw[e2]at q;exact⟨h1,y.1.2,y.2.2,congrArg (Option.map Value.ref) h4,h5,congrArg (Option.map Value.ref) h6,(ob3 o h3).a6,q⟩
end
noncomputable def plainB (st:Stmt) (fn:FN):Bool:=(B9 st).posonlyargs.isEmpty && ((B9 st).vararg.isNone && ((B9 st).kwonlyargs.isEmpty && ((B9 st).kwarg.isNone && (decide (JJ st=fn.params.map Str.ofString) &&
 (decide fn.params.Nodup && (!(Am st).isCoroutine && (!(Am st).isGenerator && (decide ((Am st).kind=.function) && (decide (∀ x∈fn.params,(Am st).names.lookup (Str.ofString x)=some .local\/(Am st).names.lookup (Str.ofString x)=some .cell) &&
 (decide (∀ y∈(Am st).names,y.2≠.cell\/((cellsFrom 0 (Am st).names []).lookup y.1).isSome=true) && (decide ((cellsFrom 0 (Am st).names []).map (·.1)).Nodup && decide (∀ y∈(Am st).names,y.2≠.free))))))))))))
theorem plainB.ok {st:Stmt}{fn:FN}(h:plainB st fn=true):KB st fn:=by
 simp only[plainB,Bool.and_eq_true,decide_eq_true_eq,Bool.not_eq_true']at h;obtain⟨a1,a2,a3,a4,a5,a6,a7,a8,a9,a10,a11,a12,a13⟩:=h;exact⟨a1,a2,a3,a4,a5,a6,a7,a8,a9,a10,a11,a12,a13⟩
structure Pm (x:(String×String)×FN) (i:Nat) (a:Addr) (st:Stmt):Prop where
 fv:fvT.lookup x.1=some a
 ix:fnT[i]? = some (a,st)
 plain:KB st x.2
 ok:Ok st x.2
theorem Op:∀ x∈txL,∃ i a st,Pm x i a st:=by
 unfold txL;refine ZK ⟨⟨0,28,stm 2,by kernel_rfl,rfl,plainB.ok (by kernel_rfl),Ix⟩,?_⟩;refine ZK ⟨⟨1,42,sub (stm 3) 0,by kernel_rfl,rfl,plainB.ok (by kernel_rfl),GU⟩,?_⟩;refine ZK ⟨⟨2,47,sub (stm 3) 1,by kernel_rfl,rfl,plainB.ok (by kernel_rfl),EY⟩,?_⟩;refine ZK ⟨⟨3,54,sub (stm 3) 2,by kernel_rfl,rfl,plainB.ok (by kernel_rfl),Es⟩,?_⟩;refine ZK ⟨⟨4,59,sub (stm 3) 3,by kernel_rfl,rfl,plainB.ok (by kernel_rfl),GV⟩,?_⟩;refine ZK ⟨⟨5,66,sub (stm 3) 4,by kernel_rfl,rfl,plainB.ok (by kernel_rfl),Et⟩,?_⟩;refine ZK ⟨⟨6,85,sub (stm 3) 7,by kernel_rfl,rfl,plainB.ok (by kernel_rfl),Fg⟩,?_⟩;refine ZK ⟨⟨7,92,sub (stm 3) 8,by kernel_rfl,rfl,plainB.ok (by kernel_rfl),Do⟩,?_⟩;refine ZK ⟨⟨32,152,stm 8,by kernel_rfl,rfl,plainB.ok (by kernel_rfl),Nh⟩,?_⟩;refine ZK ⟨⟨8,171,sub (stm 10) 0,by kernel_rfl,rfl,plainB.ok (by kernel_rfl),Iy⟩,?_⟩;refine ZK ⟨⟨9,178,sub (stm 10) 1,by kernel_rfl,rfl,plainB.ok (by kernel_rfl),Iz⟩,?_⟩;refine ZK ⟨⟨10,183,sub (stm 10) 2,by kernel_rfl,rfl,plainB.ok (by kernel_rfl),JA⟩,?_⟩;refine ZK ⟨⟨11,190,sub (stm 10) 3,by kernel_rfl,rfl,plainB.ok (by kernel_rfl),GX⟩,?_⟩;refine ZK ⟨⟨12,216,sub (stm 10) 7,by kernel_rfl,rfl,plainB.ok (by kernel_rfl),LX⟩,?_⟩;refine ZK ⟨⟨13,223,sub (stm 10) 8,by kernel_rfl,rfl,plainB.ok (by kernel_rfl),JB⟩,?_⟩;refine ZK ⟨⟨14,277,sub (stm 12) 0,by kernel_rfl,rfl,plainB.ok (by kernel_rfl),Gy⟩,?_⟩;refine ZK ⟨⟨15,284,sub (stm 12) 1,by kernel_rfl,rfl,plainB.ok (by kernel_rfl),Gz⟩,?_⟩;refine ZK ⟨⟨16,291,sub (stm 12) 2,by kernel_rfl,rfl,plainB.ok (by kernel_rfl),HA⟩,?_⟩;refine ZK ⟨⟨17,298,sub (stm 12) 3,by kernel_rfl,rfl,plainB.ok (by kernel_rfl),HB⟩,?_⟩;refine ZK ⟨⟨18,305,sub (stm 12) 4,by kernel_rfl,rfl,plainB.ok (by kernel_rfl),GY⟩,?_⟩;refine ZK ⟨⟨19,312,sub (stm 12) 5,by kernel_rfl,rfl,plainB.ok (by kernel_rfl),FO⟩,?_⟩;refine ZK ⟨⟨20,359,sub (stm 14) 0,by kernel_rfl,rfl,plainB.ok (by kernel_rfl),JC⟩,?_⟩;refine ZK ⟨⟨21,371,sub (stm 14) 2,by kernel_rfl,rfl,plainB.ok (by kernel_rfl),JD⟩,?_⟩;refine ZK ⟨⟨22,376,sub (stm 14) 3,by kernel_rfl,rfl,plainB.ok (by kernel_rfl),Jw⟩,?_⟩;refine ZK ⟨⟨23,381,sub (stm 14) 4,by kernel_rfl,rfl,plainB.ok (by kernel_rfl),Jx⟩,?_⟩;refine ZK ⟨⟨24,388,sub (stm 14) 5,by kernel_rfl,rfl,plainB.ok (by kernel_rfl),GZ⟩,?_⟩;refine ZK ⟨⟨25,395,sub (stm 14) 6,by kernel_rfl,rfl,plainB.ok (by kernel_rfl),JE⟩,?_⟩;refine ZK ⟨⟨26,409,sub (stm 14) 8,by kernel_rfl,rfl,plainB.ok (by kernel_rfl),IA⟩,?_⟩;refine ZK ⟨⟨27,416,sub (stm 14) 9,by kernel_rfl,rfl,plainB.ok (by kernel_rfl),JF⟩,?_⟩;refine ZK ⟨⟨28,423,sub (stm 14) 10,by kernel_rfl,rfl,plainB.ok (by kernel_rfl),HC⟩,?_⟩;refine ZK ⟨⟨29,444,sub (stm 14) 13,by kernel_rfl,rfl,plainB.ok (by kernel_rfl),G0⟩,?_⟩;refine ZK ⟨⟨30,449,sub (stm 14) 14,by kernel_rfl,rfl,plainB.ok (by kernel_rfl),Fh⟩,?_⟩;refine ZK ⟨⟨31,461,sub (stm 14) 16,by kernel_rfl,rfl,plainB.ok (by kernel_rfl),JG⟩,?_⟩;refine ZK ⟨⟨33,482,stm 16,by kernel_rfl,rfl,plainB.ok (by kernel_rfl),Jy⟩,?_⟩;refine ZK ⟨⟨34,489,stm 17,by kernel_rfl,rfl,plainB.ok (by kernel_rfl),JH⟩,?_⟩;refine ZK ⟨⟨35,494,stm 18,by kernel_rfl,rfl,plainB.ok (by kernel_rfl),Jz⟩,?_⟩;refine ZK ⟨⟨36,499,stm 19,by kernel_rfl,rfl,plainB.ok (by kernel_rfl),G3⟩,?_⟩;refine ZK ⟨⟨37,504,stm 20,by kernel_rfl,rfl,plainB.ok (by kernel_rfl),KA⟩,?_⟩;refine ZK ⟨⟨38,509,stm 21,by kernel_rfl,rfl,plainB.ok (by kernel_rfl),JI⟩,?_⟩;refine ZK ⟨⟨39,514,stm 22,by kernel_rfl,rfl,plainB.ok (by kernel_rfl),FP⟩,?_⟩;refine ZK ⟨⟨40,519,stm 23,by kernel_rfl,rfl,plainB.ok (by kernel_rfl),Pi⟩,?_⟩;exact λ_ h=>nomatch h
section
variable {prog:Program} {w:World} {h h0:Heap}
theorem Pz (o:Da h=D8)(kp:∀ b o,h.get? b=some o->h0.get? b=some o):Oc (G5 prog w h h0) tx where
 fn:=λc n fn e hne=>by
  obtain⟨i,a,st,r⟩:=Op _ (CP e);obtain⟨fd,F,hs⟩:=Nj (g:=G5 prog w h h0) (ob5 o _ (Zy r.ix)) r.plain;exact⟨a,fd,_,congrArg (Option.map Value.ref) r.fv,F,λX d k hC hV av=>by rw[hs];exact r.ok (gOk o kp) Py X d k hC hV av⟩
 cls:=λc fn e=>Pl o c fn e
end
noncomputable abbrev QA:RowW:=(PySem.Challenge.rw_sa0033_01.row).toRowW
noncomputable abbrev YPm (w:World) (h:Heap):Prop:=∃ h0:Heap,Da h0=D8/\∀ b o,h0.get? b=some o->h.get? b=some o
set_option tactic.hygienic true in
theorem Pn (mini:∀ ns:List Int,ns.length<=63->∃ U',∀ K:MV->MH->Prop,K (.bool true) U'->Cg tx 10000 60 "" "law" [.fl (ns.map .int)] [] K){d:DefRec}{kwd:List (Str×Expr)}(hd:d.name=Str.ofString "law") :
  WalkO qv lo (XL qv []) YPm QA d kwd (λf vs=>PySem.call f vs):=by
 intro w s₀ s₁ mg mb G Y a o pm cd doc dV kV ho hd' hcd hD hmg hg args vals as hpre hlay hrd hwl hlo;refine eX1 (Y) λh0 zz=>aN2 zz λhob hk=>?_
 have hwl':=hwl
 have ha:a=519:=by
  have h1:h0.nsMap mainGlobals (Str.ofString "law")=some (.ref 519):=ob8 hob ("law",519) (by decide +kernel);rw[hd,(Du G.T.g (Dd (ob6 hob) λo e=>hk _ o e))]at hmg;replace hmg:=ZO h1.symm hmg;injection hmg with h2
  injection h2 with h2
  exact h2.symm
 subst ha;have hb0:∃ o es n,s₁.heap.get? builtinsNs=some o/\o.data=.dict es n:=by
  refine eX3 (Dd (ob7 hob) λo e=>hk _ o e) λo es ep zz=>aN3 zz λe x _=>?_
  exact⟨o,es,ep,e,x⟩
 refine eX1 (G.T.nolimit) λmc zz=>aN2 zz λS1 S2=>?_
 have hb2:∃ o es n,s₁.heap.get? cStatics=some o/\o.data=.dict es n:=by
  refine eX3 (S1) λo es ep zz=>aN3 zz λe x _=>?_
  exact⟨o,es,ep,e,x⟩
 have hlo':=hlo
 wrow_args hpre hlay hrd hwl hlo
 rename_i ns _ _ hL1 _ _ w4 _ l vs _ hL ra hw r0 hI _ hlen _;have hx:s₁.heap.get? l=some { cls:=.type "list",data:=.seq vs.toArray }:=by
  cases hwl' with
  | cons x _ =>
  generalize hq:ofPy (PyData.list (List.map PyData.int ns))=q at x;cases x with
  | list e _ =>
   refine eX1 (hL) λo zz=>aN3 zz λe2 _ zz=>eX1 zz λn e3=>?_
   replace e2:=ZO e.symm e2;cases e2;injection e3 with e4 _
   refine ZN e ?_;rw[e4]
  | _=>cases hq
 have hl2:2<l:=by
  have n0:l≠0:=λq=>by
   refine eX3 (hb0) λo es n zz=>aN2 zz λe x=>?_
   rw[q]at hx;rw[show (builtinsNs:Nat)=0 from rfl]at e;replace e:=ZO hx.symm e;cases e;cases x
  have n2:l≠2:=λq=>by
   refine eX3 (hb2) λo es n zz=>aN2 zz λe x=>?_
   rw[q]at hx;rw[show (cStatics:Nat)=2 from rfl]at e;replace e:=ZO hx.symm e;cases e;cases x
  have n1:l≠1:=λq=>by
   have:∃ ai,w4=l::ai:=by cases r0;exact⟨_,rfl⟩
   obtain⟨ai,e⟩:=this;have:=hlo' l (by refine ZN e ?_;exact .head _);rw[q]at this;exact absurd this (by decide)
  have h3:∀ x:Nat,x≠0->x≠1->x≠2->2<x:=by intro x;lia
  exact h3 l n0 n1 n2
 obtain⟨U',hm⟩:=mini ns (by lia);have vr:VRels (G5 pw w h0 s₁.heap) [] s₁.heap [.fl (ns.map .int)] [.ref l]:=.cons (.fl ⟨0,hx⟩ ⟨(λq=>nomatch q),(λq=>nomatch q)⟩ hl2 (by refine ZN List.toList_toArray ?_;exact DV hI)) .nil
 have rel:Rel (G5 pw w h0 s₁.heap) [] [] s₁:=⟨rfl,.nil,(λ_ h=>nomatch h),(λ_ h=>nomatch h),(λi o a e=>by cases e),λb o _ e=>e,(λ_ h=>nomatch h),⟨mc,⟨S1,S2⟩,λo e=>e⟩,(λ_ h=>nomatch h),(λ_ h=>nomatch h)⟩
 refine Od (gOk (prog:=pw) (w:=w) hob hk) (Pz (prog:=pw) (w:=w) hob hk) 10000 0 60 [] "" "law" _ [] (λv _=>v=.bool true) [] callerA _ s₁ _ (.ref 519) [.ref l] (hm _ rfl) (by show (fvT.lookup ("","law")).map Value.ref=some (.ref 519);decide) vr rel ⟨l,_,hl2,hx⟩ (⟨rfl,by decide,by decide⟩) λv U₁ kv μ' s' x ex rl st vx=>?_
 subst kv;cases (show x=.bool true from vx);refine⟨.inl ⟨.bool true,.bool true,[],rfl,raisesW_false (by wrow_none_raised),.bool true,by wrow_post,λ_=>⟨.nil,λ_ h=>nomatch h⟩⟩,⟨λb o e=>?_,λb o e=>?_⟩,st.os,?_⟩
 ·by_cases q:b=2
  ·refine eX1 (rl.stat) λ_ zz=>aN2 zz λ_ k=>?_
   subst q;exact .inl (k o e)
  ·exact .inl (ex.keep b o q e (λh=>nomatch h) (λh=>nomatch h))
 ·by_cases q:b=2
  ·refine eX1 (rl.stat) λ_ zz=>aN2 zz λ_ k=>?_
   subst q;exact⟨o,k o e⟩
  ·exact⟨o,ex.keep b o q e (λh=>nomatch h) (λh=>nomatch h)⟩
 ·refine ZN st.gens ?_;refine ZN hg ?_;exact .empty
end Mine.Internal
namespace Mine.Internal
noncomputable def Ev (X:CK) (e:ME) (J:ME') (U:MH) (v:MV) (τ:MH):Prop:=∀ K:MV->MH->Prop,K v τ->evK X e J U K
noncomputable def Evs (X:CK) (e:List ME) (J:ME') (U:MH) (v:List MV) (τ:MH):Prop:=v.length=e.length/\∀ K:List MV->MH->Prop,K v τ->evKs X e J U K
noncomputable def Cl (X:CK) (c n:String) (vs:List MV) (U:MH) (v:MV) (τ:MH):Prop:=∀ K:MV->MH->Prop,K v τ->X.call c n vs U K
noncomputable def St (X:CK) (p:PL) (v:MV) (J:ME') (U:MH) (J':ME') (τ:MH):Prop:=∀ K:ME'->MH->Prop,K J' τ->stK X p v J U K
noncomputable def Sts (X:CK) (p:List PL) (v:List MV) (J:ME') (U:MH) (J':ME') (τ:MH):Prop:=p.length=v.length/\∀ K:ME'->MH->Prop,K J' τ->Lo X p v J U K
noncomputable def Xs (X:CK) (s:MS) (J:ME') (U:MH) (fl:FL) (J':ME') (τ:MH):Prop:=∀ K:FL->ME'->MH->Prop,K fl J' τ->exK X s J U K
noncomputable def Xl (X:CK) (s:List MS) (J:ME') (U:MH) (fl:FL) (J':ME') (τ:MH):Prop:=∀ K:FL->ME'->MH->Prop,K fl J' τ->exKs X s J U K
section
variable {X:CK} {J J':ME'} {U U1 U2 U3:MH} {e a b c:ME} {es:List ME} {v x y z:MV} {vs:List MV}
theorem S_v {n:String}(h:J.lookup n=some v):Ev X (.v n) J U v U:=λK k=>⟨v,h,k⟩
theorem S_g {k n:String}:Ev X (.g k n) J U (.fn k n) U:=λK k=>k
theorem S_c {k:MV}:Ev X (.c k) J U k U:=λK k=>k
theorem AI:Evs X [] J U [] U:=⟨rfl,λK k=>k⟩
theorem AF (h1:Ev X e J U v U1)(h2:Evs X es J U1 vs U2):Evs X (e::es) J U (v::vs) U2:=⟨congrArg Nat.succ h2.1,λK k=>h1 _ (h2.2 _ k)⟩
theorem BR (h:Evs X es J U vs U1):Ev X (.tup es) J U (.tup vs) U1:=λK k=>h.2 _ ⟨h.1,k⟩
theorem C8 (h:Evs X es J U vs U1):Ev X (.lst es) J U (.ref U1.length) (U1++[.list vs]):=λK k=>h.2 _ ⟨h.1,k⟩
theorem DZ (h:Evs X es J U vs U1):Ev X (.flst es) J U (.fl vs) U1:=λK k=>h.2 _ ⟨h.1,k⟩
theorem EZ:Ev X .dict J U (.ref U.length) (U++[.ed]):=λK k=>k
theorem Bb {o:BO}(h1:Ev X a J U x U1)(h2:Ev X b J U1 y U2)(h3:BinR U2 o x y v):Ev X (.bin o a b) J U v U2:=λK k=>h1 _ (h2 _ ⟨v,h3,k⟩)
theorem Po {l m:List MV}(h1:Ev X a J U x U1)(h2:Ev X b J U1 y U2)(h3:AO U2 x=some l)(h4:AO U2 y=some m)(h5:l.length+m.length<=big):Ev X (.cat a b) J U (.ref U2.length) (U2++[.list (l++m)]):=λK k=>h1 _ (h2 _ ⟨l,m,h3,h4,h5,k⟩)
theorem Ap {o:CO}{r:Bool}(h1:Ev X a J U x U1)(h2:Ev X b J U1 y U2)(h3:CmpR U2 o x y r):Ev X (.cmp o a b) J U (.bool r) U2:=λK k=>h1 _ (h2 _ ⟨r,h3,k⟩)
theorem Mc {o p:CO}{r:Bool}(h1:Ev X a J U x U1)(h2:Ev X b J U1 y U2)(h3:CmpR U2 o x y true)(h4:Ev X c J U2 z U3)(h5:CmpR U3 p y z r):Ev X (.chain o p a b c) J U (.bool r) U3:=λK k=>h1 _ (h2 _ ⟨true,h3,h4 _ ⟨r,h5,k⟩⟩)
theorem KD {r:MV}(h1:Ev X a J U (.bool true) U1)(h2:Ev X b J U1 r U2):Ev X (.and a b) J U r U2:=λK k=>h1 _ (h2 _ k)
theorem Oq (h1:Ev X a J U (.bool false) U1):Ev X (.and a b) J U (.bool false) U1:=λK k=>h1 _ k
theorem OP (h1:Ev X a J U (.bool true) U1):Ev X (.or a b) J U (.bool true) U1:=λK k=>h1 _ k
theorem G7 {r:MV}(h1:Ev X a J U (.bool false) U1)(h2:Ev X b J U1 r U2):Ev X (.or a b) J U r U2:=λK k=>h1 _ (h2 _ k)
theorem Ka {r:Bool}(h1:Ev X a J U (.bool r) U1):Ev X (.not a) J U (.bool (!r)) U1:=λK k=>h1 _ k
theorem KF {r:MV}(h1:Ev X c J U (.bool true) U1)(h2:Ev X a J U1 r U2):Ev X (.ite c a b) J U r U2:=λK k=>h1 _ (h2 _ k)
theorem IB {r:MV}(h1:Ev X c J U (.bool false) U1)(h2:Ev X b J U1 r U2):Ev X (.ite c a b) J U r U2:=λK k=>h1 _ (h2 _ k)
theorem AT {o:ME}{n k:String}{i:Nat}{l:List (String×MV)}(h1:Ev X o J U (.obj k i) U1)(h2:U1[i]? = some (.attrs l))(h3:l.lookup n=some v):Ev X (.attr o n) J U v U1:=λK q=>h1 _ ⟨k,i,l,v,rfl,h2,h3,q⟩
theorem An {o i:ME}(h1:Ev X o J U x U1)(h2:Ev X i J U1 y U2)(h3:IdxR U2 x y v):Ev X (.idx o i) J U v U2:=λK k=>h1 _ (h2 _ ⟨v,h3,k⟩)
theorem CL {o:ME}{l:List MV}(h1:Ev X o J U (.tup l) U1)(h2:1<=l.length/\l.length<=big):Ev X (.from1 o) J U (.tup (l.drop 1)) U1:=λK k=>h1 _ ⟨l,rfl,h2,k⟩
theorem Os {o:ME}{l:List MV}{n:Nat}(h1:Ev X o J U (.fl l) U1)(h2:l.length<=big):Ev X (.upto o n) J U (.fl (l.take n)) U1:=λK k=>h1 _ ⟨l,rfl,h2,k⟩
theorem Bc {f:ME}{k n:String}(h1:Ev X f J U (.fn k n) U1)(h2:Evs X es J U1 vs U2)(h3:Cl X k n vs U2 v U3):Ev X (.call f es) J U v U3:=λK q=>h1 _ ⟨k,n,rfl,h2.2 _ (h3 _ q)⟩
theorem AW {o:ME}{k n:String}{i:Nat}{l:List (String×MV)}(h1:Ev X o J U (.obj k i) U1)(h2:U1[i]? = some (.attrs l))(h3:Evs X es J U1 vs U2)(h4:Cl X k n (.obj k i::vs) U2 v U3):Ev X (.meth o n es) J U v U3 :=
 λK q=>h1 _ ⟨by simp only[Dt,h2],⟨_,_,_,h4 (λ_ _=>True) trivial⟩,h3.2 _ (h4 _ q)⟩
theorem IC {o:ME}{n:String}{kd:Option Bool}(h1:Ev X o J U x U1)(hx:∀ k i,x≠.obj k i)(hp:OY X U1 x n)(h2:CD U1 x=kd)(h3:Evs X es J U1 vs U2)(h4:MetR U2 kd x n vs v U3):Ev X (.meth o n es) J U v U3:=λK q=>h1 _ (by
 cases x with
 | obj k i=>exact absurd rfl (hx k i)
 | _=>exact⟨rfl,hp,h3.2 _ ⟨v,U3,h2▸h4,q⟩⟩)
theorem B0 {o:ME}{n:String}{i:Nat}{l:List MV}(h1:Ev X o J U (.ref i) U1)(h2:U1[i]? = some (.list l))(h3:Evs X es J U1 vs U2)(h4:MetR U2 (some true) (.ref i) n vs v U3)(hn:autoParam (["append","extend","pop"].elem n=true) au):Ev X (.meth o n es) J U v U3 :=
 have hk:CD U1 (.ref i)=some true:=by simp only[CD,h2]
 IC h1 (λ_ _ e=>nomatch e) (.inl ⟨hk,List.mem_of_elem_eq_true hn⟩) hk h3 h4
theorem EA {o:ME}{n:String}{i:Nat}{d:MO}(h1:Ev X o J U (.ref i) U1)(h2:U1[i]? = some d)(hd:CD U1 (.ref i)=some false)(h3:Evs X es J U1 vs U2)(h4:MetR U2 (some false) (.ref i) n vs v U3)(hn:autoParam (["get","setdefault","pop"].elem n=true) au):Ev X (.meth o n es) J U v U3:=IC h1 (λ_ _ e=>nomatch e) (.inr ⟨hd,List.mem_of_elem_eq_true hn⟩) hd h3 h4
theorem Nk {o:ME}{s:String}(h1:Ev X o J U (.str s) U1)(h3:Evs X es J U1 vs U2)(h4:MetR U2 none (.str s) "isspace" vs v U3):Ev X (.meth o "isspace" es) J U v U3:=IC h1 (λ_ _ e=>nomatch e) rfl rfl h3 h4
theorem Bg {o:BI}(h1:Evs X es J U [x] U1)(h2:BiP U1 o x v):Ev X (.bi o es) J U v U1:=λK k=>h1.2 _ ⟨x,v,rfl,h2,k⟩
variable {s:MS} {r:List MS} {fl:FL} {J1 J2:ME'}
theorem P_v {n:String}:St X (.v n) v J U ((n,v)::J) U:=λK k=>k
theorem Me {o:ME}{n k:String}{i:Nat}{l:List (String×MV)}(h1:Ev X o J U (.obj k i) U1)(h2:U1[i]? = some (.attrs l))(h3:l.length<100)(h4:n∈attrNames):St X (.attr o n) v J U J (U1.set i (.attrs (put l n v))):=λK q=>h1 _ ⟨k,i,l,rfl,h2,h3,h4,q⟩
theorem Mf {o i:ME}{a:Nat}{l:List MV}{k:Nat}(h1:Ev X o J U (.ref a) U1)(h2:Ev X i J U1 (.int (k:Int)) U2)(h3:U2[a]? = some (.list l))(h4:k<l.length)(h5:k<2 ^ 60):St X (.idx o i) v J U J (U2.set a (.list (l.set k v))) :=
 λK q=>h1 _ (h2 _ ⟨a,_,rfl,.inl ⟨l,k,h3,rfl,Int.natCast_nonneg _,by lia,by rw[Int.toNat_natCast];exact h4,rfl⟩,q⟩)
theorem FQ {o i:ME}{a:Nat}{d d':MO}{k:MV}(h1:Ev X o J U (.ref a) U1)(h2:Ev X i J U1 k U2)(h3:U2[a]? = some d)(hl:∀ l,d≠.list l)(ha:∀ l,d≠.attrs l)(h4:Fa d k v=some d'):St X (.idx o i) v J U J (U2.set a d'):=λK q=>h1 _ (h2 _ ⟨a,d',rfl,.inr ⟨d,h3,h4⟩,q⟩)
theorem AS {p:PL}(h1:Ev X e J U v U1)(h2:St X p v J U1 J1 U2):Xs X (.assign p e) J U .next J1 U2:=λK k=>h1 _ (h2 _ k)
theorem BY {ps:List PL}(h1:Ev X e J U v U1)(h2:items U1 v=some vs)(h3:Sts X ps vs J U1 J1 U2):Xs X (.unpack ps e) J U .next J1 U2:=λK k=>h1 _ ⟨vs,h2,h3.1,h3.2 _ k⟩
theorem Cn:Sts X [] [] J U J U:=⟨rfl,λK k=>⟨rfl,k⟩⟩
theorem Ao {p:PL}{ps:List PL}(h1:St X p v J U J1 U1)(h2:Sts X ps vs J1 U1 J2 U2):Sts X (p::ps) (v::vs) J U J2 U2:=⟨congrArg Nat.succ h2.1,λK k=>⟨v,vs,rfl,h1 _ (h2.2 _ k)⟩⟩
theorem BN (h1:Ev X e J U v U1):Xs X (.expr e) J U .next J U1:=λK k=>h1 _ k
theorem CT {a b:List MS}(h1:Ev X c J U (.bool true) U1)(h2:Xl X a J U1 fl J1 U2):Xs X (.ite c a b) J U fl J1 U2:=λK k=>h1 _ (h2 _ k)
theorem B5 {a b:List MS}(h1:Ev X c J U (.bool false) U1)(h2:Xl X b J U1 fl J1 U2):Xs X (.ite c a b) J U fl J1 U2:=λK k=>h1 _ (h2 _ k)
theorem BB (h1:Ev X e J U v U1):Xs X (.ret e) J U (.ret v) J U1:=λK k=>h1 _ k
theorem Ot:Xs X .cont J U .cont J U:=λK k=>k
theorem AY:Xl X [] J U .next J U:=λK k=>k
theorem AJ (h1:Xs X s J U .next J1 U1)(h2:Xl X r J1 U1 fl J2 U2):Xl X (s::r) J U fl J2 U2:=λK k=>h1 _ (h2 _ k)
theorem Ar (h1:Xs X s J U (.ret v) J1 U1):Xl X (s::r) J U (.ret v) J1 U1:=λK k=>h1 _ k
theorem Mg (h1:Xs X s J U .cont J1 U1):Xl X (s::r) J U .cont J1 U1:=λK k=>h1 _ k
end
noncomputable abbrev TT:Nat:=10000
noncomputable abbrev XX (n:Nat):CK:=⟨Cg tx TT n,TT⟩
noncomputable abbrev run (n:Nat):=Cl (XX n)
section
variable {J1:ME'} {U U1:MH} {v:MV} {vs:List MV} {n:Nat} {k f:String} {fn:FN}
theorem OQ {fl:FL}(h0:(k == "class")=false)(h1:tx k f=some fn)(h2:fn.params.length=vs.length)(h3:Xl (XX n) fn.body ((fn.params.zip vs).reverse) U fl J1 U1)(h4:∀ K,K v U1->P7 fl U1 K):run (n+1) k f vs U v U1:=λK q=>by
 unfold Cg;refine ZN (if_neg (by simpa using h0)) ?_;exact⟨fn,h1,h2,h3 _ (h4 _ q)⟩
theorem BC (h0:(k == "class")=false)(h1:tx k f=some fn)(h2:fn.params.length=vs.length)(h3:Xl (XX n) fn.body ((fn.params.zip vs).reverse) U (.ret v) J1 U1):run (n+1) k f vs U v U1:=OQ h0 h1 h2 h3 λ_ k=>k
theorem G8 (h0:(k == "class")=false)(h1:tx k f=some fn)(h2:fn.params.length=vs.length)(h3:Xl (XX n) fn.body ((fn.params.zip vs).reverse) U .next J1 U1):run (n+1) k f vs U .none U1:=OQ h0 h1 h2 h3 λ_ k=>k
theorem Fo (h1:tx f "__init__"=some fn)(h2:fn.params.length=(MV.obj f U.length::vs).length)(h3:Xl (XX n) fn.body ((fn.params.zip (.obj f U.length::vs)).reverse) (U++[.attrs []]) .next J1 U1):run (n+1) "class" f vs U (.obj f U.length) U1:=λK q=>by
 unfold Cg;refine ZN (if_pos rfl) ?_;exact⟨fn,h1,h2,h3 _ ⟨rfl,q⟩⟩
end
section
variable {X:CK} {J:ME'} {U U1:MH}
theorem EB {c:ME}{b:List MS}(I:Nat->ME'->MH->Prop)(D:ME'->MH->Prop)
  (step:∀ m J U,I m J U->(∃ U1,Ev X c J U (.bool false) U1/\D J U1)\/(∃ U1,Ev X c J U (.bool true) U1/\∃ fl J' U',Xl X b J U1 fl J' U'/\(fl=.next\/fl=.cont)/\∃ m',m'<m/\I m' J' U')) {m:Nat} (hI:I m J U) (hm:m<X.turns) :
  ∃ J' U',Xs X (.while c b) J U .next J' U'/\D J' U':=by
 have key:∀ n m J U,I m J U->m<n->∃ J' U',(∀ K,K .next J' U'->KT (λJ U K=>evK X c J U λx U=>isB x λb=>K b U) (λJ U K=>exKs X b J U K) n J U K)/\D J' U':=by
  intro n
  induction n with
  | zero=>intro m J U _ h;lia
  | succ n ih =>
   intro m J U hI hm;rcases step m J U hI with z0 | z0
   ·refine eX1 (z0) λU1 zz=>aN2 zz λh1 h2=>?_
    exact⟨J,U1,λK k=>h1 _ k,h2⟩
   ·refine eX1 (z0) λU1 zz=>aN2 zz λh1 zz=>eX3 zz λfl J' U' zz=>aN3 zz λh2 h3 zz=>eX1 zz λm' zz=>aN2 zz λh4 h5=>?_
    refine eX2 (ih m' J' U' h5 (Zd h4 (Zr hm))) λJ2 U2 zz=>aN2 zz λh6 h7=>?_
    refine⟨J2,U2,λK k=>h1 _ (h2 _ ?_),h7⟩;rcases h3 with rfl | rfl <;> exact h6 K k
 exact key X.turns m J U hI hm
theorem Eu {t:TG}{k:IK}{iter:ME}{b:List MS}{x:MV}{l:List MV}(I:Nat->ME'->MH->Prop)(h1:Ev X iter J U x U1)(hc:∀ i J U,i<=l.length->I i J U->iter2 U k x=some l)
  (step:∀ i y J U,l[i]? = some y->I i J U->∃ Jb fl J' U',CY t y J=some Jb/\Xl X b Jb U fl J' U'/\(fl=.next\/fl=.cont)/\I (i+1) J' U') (hI:I 0 J U1) (hn:l.length<X.turns) :
  ∃ J' U',Xs X (.for t k iter b) J U .next J' U'/\I l.length J' U':=by
 have key:∀ n i J U,i<=l.length->l.length - i<n->I i J U->∃ J' U',(∀ K,K .next J' U'->KS (λU=>iter2 U k x) (λy J U K=>∃ J',CY t y J=some J'/\exKs X b J' U K) n i J U K)/\I l.length J' U':=by
  intro n
  induction n with
  | zero=>intro i J U _ h;lia
  | succ n ih =>
   intro i J U hi hn hI
   by_cases q:i<l.length
   ·have hx:=ZI q
    refine eX4 (step i _ J U hx hI) λJb fl J' U' zz=>aN4 zz λh0 h1 h2 h3=>?_
    refine eX2 (ih (i+1) J' U' q (Nat.sub_lt_left_of_lt_add (Zw q) (lt_of_lt_of_eq (lt_of_lt_of_eq (Internal.slt' hn) (Nat.add_assoc _ _ _).symm) (Nat.add_right_comm _ _ _))) h3) λJ2 U2 zz=>aN2 zz λh4 h5=>?_
    refine⟨J2,U2,λK k=>⟨l,hc i J U hi hI,λz=>(by replace z:=ZO hx.symm z;cases z),λy z=>?_⟩,h5⟩;replace z:=ZO hx.symm z;cases z;refine⟨Jb,h0,h1 _ ?_⟩;rcases h2 with rfl | rfl <;> exact h4 K k
   ·have hi2:i=l.length:=Zv hi (Zn q)
    subst hi2;have hx:l[l.length]? = none:=List.getElem?_eq_none (Zg _);exact⟨J,U,λK k=>⟨l,hc _ J U hi hI,λ_=>k,λy z=>(by replace z:=ZO hx.symm z;cases z)⟩,hI⟩
 refine eX2 (key X.turns 0 J U1 (Zm _) (Zb (Nat.sub_le _ _) hn) hI) λJ' U' zz=>aN2 zz λh2 h3=>?_
 exact⟨J',U',λK k=>h1 _ ⟨⟨l,hc _ _ _ (Zm _) hI⟩,h2 K k⟩,h3⟩
theorem HU {cur:MH->Option (List MV)}{f:MV->List MV->MH->(List MV->MH->Prop)->Prop}{l:List MV}(I:Nat->List MV->MH->Prop)
  (hc:∀ i out U,i<=l.length->I i out U->cur U=some l)
  (step:∀ i x out U,l[i]? = some x->I i out U->∃ ys U',(∀ K,K ys U'->f x out U K)/\I (i+1) ys U') :
  ∀ n i out U,i<=l.length->l.length - i<n->I i out U->∃ zs U',(∀ K,K zs U'->EE cur f n i out U K)/\I l.length zs U':=by
 intro n
 induction n with
 | zero=>intro i out U _ h;exact False.elim (Zp (Zm _) h)
 | succ n ih =>
  intro i out U hi hn hI
  by_cases q:i<l.length
  ·have hx:=ZI q
   refine eX2 (step i _ out U hx hI) λys U' zz=>aN2 zz λh1 h3=>?_
   refine eX2 (ih (i+1) _ U' q (Nat.sub_lt_left_of_lt_add (Zw q) (lt_of_lt_of_eq (lt_of_lt_of_eq (Internal.slt' hn) (Nat.add_assoc _ _ _).symm) (Nat.add_right_comm _ _ _))) h3) λzs U2 zz=>aN2 zz λh4 h5=>?_
   refine⟨zs,U2,λK k=>⟨l,hc i out U hi hI,λz=>(by replace z:=ZO hx.symm z;cases z),λy z=>?_⟩,h5⟩;replace z:=ZO hx.symm z;cases z;exact h1 _ (h4 _ k)
  ·have hi2:i=l.length:=Zv hi (Zn q)
   subst hi2;have hx:l[l.length]? = none:=List.getElem?_eq_none (Zg _);exact⟨out,U,λK k=>⟨l,hc _ out U hi hI,λ_=>k,λy z=>(by replace z:=ZO hx.symm z;cases z)⟩,hI⟩
theorem FR {cur:MH->Option (List MV)}{f:MV->List MV->MH->(List MV->MH->Prop)->Prop}{l:List MV}{U:MH}(g:MV->List MV)(hc:cur U=some l)(hf:∀ x∈l,∀ acc:List MV,acc.length+(g x).length<=big->∀ K,K (acc++g x) U->f x acc U K){n:Nat}(hn:l.length<n){acc:List MV}(hb:acc.length+(l.flatMap g).length<=big)(K:List MV->MH->Prop)(k:K (acc++l.flatMap g) U):EE cur f n 0 acc U K:=by
 refine eX2 (HU (cur:=cur) (f:=f) (l:=l) (λi out U'=>U'=U/\out=acc++(l.take i).flatMap g) (λi out U' _ h=>by refine ZN h.1 ?_;exact hc) (λi y out U' hy h=>by
  obtain⟨rfl,rfl⟩:=h;have ht:(l.take (i+1)).flatMap g=(l.take i).flatMap g++g y:=by refine ZN List.take_add_one ?_;refine ZN hy ?_;simp
  have hs:l.flatMap g=(l.take (i+1)).flatMap g++(l.drop (i+1)).flatMap g:=by refine ZN List.flatMap_append.symm ?_;rw[List.take_append_drop]
  refine⟨_,U',hf y (Zy hy) _ ?_,rfl,by refine ZN ht ?_;rw[List.append_assoc]⟩;rw[hs,ht,ZG,ZG]at hb;refine ZN ZG ?_;exact Zc (le_of_eq_of_le (Nat.add_assoc _ _ _) (Nat.add_le_add_left (Zt _ _) _)) hb) n 0 acc U (Zm _) (Zb (Nat.sub_le _ _) hn) ⟨rfl,by simp⟩) λzs U' zz=>aN3 zz λe1 e2 e3=>?_
 subst e2;rw[List.take_length]at e3;subst e3;exact e1 K k
theorem Co {ns:List String}{n:String}(h:ns.contains n=false):(without J ns).lookup n=J.lookup n:=by
 unfold without
 induction J with
 | nil=>rfl
 | cons p J ih =>
  obtain⟨a,v⟩:=p
  by_cases q:n=a
  ·subst q
   refine ZN (List.filter_cons_of_pos (by simpa using h)) ?_;simp[List.lookup_cons]
  ·by_cases q2:ns.contains a=true
   ·refine ZN (List.filter_cons_of_neg (by simpa using q2)) ?_;refine ZN List.lookup_cons ?_;refine ZN (show (n == a)=false from beq_false_of_ne q) ?_
    exact ih
   ·refine ZN (List.filter_cons_of_pos (by simpa using q2)) ?_;refine ZO List.lookup_cons ?_;refine ZN List.lookup_cons ?_;refine ZN (show (n == a)=false from beq_false_of_ne q) ?_
    exact ih
theorem JL {elt cd:ME}{n:String}{k:IK}{iter:ME}{x:MV}{l:List MV}{g:MV->MV}{p:MV->Bool}(h1:Ev X iter J U x U1)(h2:iter2 U1 k x=some l)(hp:∀ y∈l,Ev X cd ((n,y)::without J [".0",n]) U1 (.bool (p y)) U1)
  (h3:∀ y∈l,p y=true->Ev X elt ((n,y)::without J [".0",n]) U1 (g y) U1) (hn:l.length<X.turns) (hb:l.length<=big) :
  Ev X (.comp elt (.v n) k iter [cd]) J U (.fl ((l.filter p).map g)) U1:=λK0 q0=>by
 have e:∀ l:List MV,l.flatMap (λy=>if p y=true then [g y]else [])=(l.filter p).map g:=λl=>by
  induction l with
  | nil=>rfl
  | cons y l ih=>by_cases q:p y=true <;> simp[q,ih]
 have hlen:((l.filter p).map g).length<=big:=by rw[ZF];exact Zc (List.length_filter_le _ _) hb
 refine h1 _ ⟨⟨l,h2⟩,FR (λy=>if p y=true then [g y]else []) h2 (λy hy acc ha K1 k1=>⟨_,rfl,hp y hy _ (by
  have k2:K1 (acc++if p y=true then [g y]else []) U1:=k1
  have ha:acc.length+(if p y=true then [g y]else []).length<=big:=ha;cases z:p y with
  | false=>rw[z]at k2;exact (List.append_nil acc)▸k2
  | true=>rw[z]at k2 ha;exact h3 y hy z _ ⟨ha,k2⟩)⟩) hn (by rw[e];simpa using hlen) _ (by
  rw[e];exact q0)⟩
theorem ID {elt iter:ME}{t:TG}{k:IK}{x:MV}{l:List MV}(I:Nat->List MV->MH->Prop)(h1:Ev X iter J U x U1)(hc:∀ i out U,i<=l.length->I i out U->iter2 U k x=some l)
  (step:∀ i y out U,l[i]? = some y->I i out U->∃ J' v U',CY t y (without J (".0"::t.names))=some J'/\Ev X elt J' U v U'/\I (i+1) (out++[v]) U') (hI:I 0 [] U1) (hn:l.length<X.turns) (hb:l.length<=big) :
  ∃ zs U',Ev X (.comp elt t k iter []) J U (.fl zs) U'/\I l.length zs U':=by
 refine eX2 (HU (cur:=λU=>iter2 U k x) (f:=λy acc U K=>∃ J',CY t y (without J (".0"::t.names))=some J'/\evK X elt J' U λv U=>acc.length<big/\K (acc++[v]) U) (l:=l) (λi out U=>I i out U/\out.length=i) (λi out U hi h=>hc i out U hi h.1) (λi y out U hy hi=>by
  refine eX3 (step i y out U hy hi.1) λJ' v U' zz=>aN3 zz λe1 e2 e3=>?_
  have:=(List.getElem?_eq_some_iff.mp hy).1;exact⟨out++[v],U',λK k=>⟨J',e1,e2 _ ⟨by refine ZN hi.2 ?_;exact Zd this hb,k⟩⟩,e3,by refine ZO ZG ?_;refine ZN hi.2 ?_;rfl⟩) X.turns 0 [] U1 (Zm _) (Zb (Nat.sub_le _ _) hn) ⟨hI,rfl⟩) λzs U' zz=>aN2 zz λh2 h3=>?_
 exact⟨zs,U',λK k=>h1 _ ⟨⟨l,hc _ _ _ (Zm _) hI⟩,h2 _ k⟩,h3.1⟩
theorem Ca {elt iter:ME}{n:String}{k:IK}{x:MV}{l out:List MV}(h1:Ev X iter J U x U1)(h2:iter2 U1 k x=some l)(hl:out.length=l.length)
  (h3:∀ (i:Nat) (y v:MV),l[i]? = some y->out[i]? = some v->Ev X elt ((n,y)::without J [".0",n]) U1 v U1) (hn:l.length<X.turns) (hb:l.length<=big) :
  Ev X (.comp elt (.v n) k iter []) J U (.fl out) U1:=by
 refine eX2 (ID (X:=X) (t:=.v n) (elt:=elt) (l:=l) (λi acc U'=>U'=U1/\acc=out.take i) h1 (λi acc U' _ h=>by refine ZN h.1 ?_;exact h2) (λi y acc U' hy h=>by
  obtain⟨rfl,rfl⟩:=h;have hi:i<out.length:=by refine ZN hl ?_;exact (List.getElem?_eq_some_iff.mp hy).1
  have hv:=ZI hi;exact⟨_,out[i],_,rfl,h3 i y _ hy hv,rfl,by refine ZN List.take_add_one ?_;refine ZN hv ?_;rfl⟩) ⟨rfl,rfl⟩ hn hb) λzs U' zz=>aN3 zz λe1 q4 e3=>?_;subst q4
 rw[<- hl,List.take_length]at e3;refine ZN e3.symm ?_;exact e1
theorem QB {elt:ME}{n:String}{k:IK}{iter:ME}{x:MV}{l:List MV}{g:MV->MV}(h1:Ev X iter J U x U1)(h2:iter2 U1 k x=some l)(h3:∀ y∈l,Ev X elt ((n,y)::without J [".0",n]) U1 (g y) U1)(hn:l.length<X.turns)(hb:l.length<=big) :
  Ev X (.comp elt (.v n) k iter []) J U (.fl (l.map g)) U1 :=
 Ca h1 h2 (ZF ..) (λi y v hy hv=>by
  replace hv:=ZO (ZH).symm hv;rw[hy]at hv;cases hv;exact h3 y (Zy hy)) hn hb
end
noncomputable abbrev iv (n:Nat):MV:=.int (n:Int)
noncomputable def nl (l:List Nat):List MV:=l.map iv
noncomputable def fnd (par:List Nat):Nat->Nat->Nat
 | 0,a=>a
 | k+1,a=>if par.getD a 0=a then a else fnd par k (par.getD a 0)
noncomputable def fd (par:List Nat) (a:Nat):Nat:=fnd par a a
noncomputable def C1 (par:List Nat):Prop:=∀ a,a<par.length->par.getD a 0<=a
theorem Mh {par:List Nat}(F:C1 par):∀ k j a,a<=k->a<=j->a<par.length->fnd par k a=fnd par j a:=by
 intro k
 induction k with
 | zero =>
  intro j a h1 h2 h3;have h0:a=0:=Zv h1 (Zm _);subst h0;cases j with
  | zero=>rfl
  | succ j =>
   have:=F 0 h3;simp only[fnd];rw[if_pos (Zv this (Zm _))]
 | succ k ih =>
  intro j a h1 h2 h3;simp only[fnd]
  split
  ·rename_i e
   cases j with
   | zero=>rfl
   | succ j=>simp only[fnd];rw[if_pos e]
  ·rename_i e
   have:=F a h3;cases j with
   | zero=>exact False.elim (Nat.not_le_of_lt (Zu (Zc h2 (Zm _)) (Ne.symm e)) this)
   | succ j =>
    simp only[fnd];refine ZN (if_neg e) ?_;exact ih j _ (by lia) (by lia) (Zb this h3)
theorem CM {par:List Nat}(F:C1 par){a:Nat}(h:a<par.length):fd par a=if par.getD a 0=a then a else fd par (par.getD a 0):=by
 unfold fd;cases a with
 | zero =>
  have:=F 0 h;simp only[fnd];rw[if_pos (Zv this (Zm _))]
 | succ a =>
  simp only[fnd]
  split
  ·rfl
  ·rename_i e
   have:=F _ h;exact Mh F _ _ _ (by lia) (Zg _) (Zb this h)
theorem IE {par:List Nat}(F:C1 par){P:Nat->Prop}(h1:∀ a,a<par.length->par.getD a 0=a->P a)(h2:∀ a,a<par.length->par.getD a 0<a->P (par.getD a 0)->P a):∀ a,a<par.length->P a:=by
 intro a
 induction a using Nat.strongRecOn with
 | _ a ih =>
  intro h;have:=F a h
  by_cases e:par.getD a 0=a
  ·exact h1 a h e
  ·exact h2 a h (Zu this e) (ih _ (Zu this e) (Zb this h))
theorem OR {par:List Nat}(F:C1 par):∀ a,a<par.length->fd par a<=a :=
 IE F (λa h e=>by refine ZN (CM F h) ?_;refine ZN (if_pos e) ?_;exact Zg _) λa h l ih=>by refine ZN (CM F h) ?_;refine ZN (if_neg (Zk l)) ?_;exact Zl (Zb ih l)
theorem Cv {par:List Nat}(F:C1 par){a:Nat}(h:a<par.length):fd par a<par.length:=by have:=OR F a h;exact Zb this h
theorem Mi {par:List Nat}(F:C1 par):∀ a,a<par.length->par.getD (fd par a) 0=fd par a :=
 IE F (λa h e=>by refine ZN (CM F h) ?_;refine ZN (if_pos e) ?_;exact e) λa h l ih=>by refine ZN (CM F h) ?_;refine ZN (if_neg (Zk l)) ?_;exact ih
theorem Cw {par:List Nat}(F:C1 par){a:Nat}(h:a<par.length)(e:par.getD a 0=a):fd par a=a:=by refine ZO (CM F h) ?_;exact if_pos e
theorem Mj {par:List Nat}(F:C1 par){a:Nat}(h:a<par.length):fd par a=a↔par.getD a 0=a :=
 ⟨λe=>by have:=Mi F a h;rwa [e]at this,Cw F h⟩
theorem Ew {par:List Nat}(F:C1 par){a:Nat}(h:a<par.length):fd par (fd par a)=fd par a:=Cw F (Cv F h) (Mi F a h)
theorem DO {l:List Nat}{x a:Nat}:(l++[x]).getD a 0=if a<l.length then l.getD a 0 else if a=l.length then x else 0:=by
 simp only[List.getD_eq_getElem?_getD]
 by_cases h:a<l.length
 ·refine ZN (if_pos h) ?_;rw[List.getElem?_append_left h]
 ·refine ZN (if_neg h) ?_;refine ZN (List.getElem?_append_right (Zn h)) ?_
  by_cases e:a=l.length
  ·refine ZN (if_pos e) ?_;refine ZN e ?_;simp
  ·refine ZN (if_neg e) ?_;refine ZN (List.getElem?_eq_none (by simp;lia)) ?_;rfl
theorem Dp {l:List Nat}{i x a:Nat}(hi:i<l.length):(l.set i x).getD a 0=if a=i then x else l.getD a 0:=by
 simp only[List.getD_eq_getElem?_getD,List.getElem?_set]
 by_cases e:i=a
 ·subst e;simp[hi]
 ·refine ZN (if_neg e) ?_;rw[if_neg (Ne.symm e)]
theorem E0 {par:List Nat}(F:C1 par):C1 (par++[par.length]):=by
 intro a h;rw[DO];simp at h
 split
 ·exact F a (by assumption)
 ·split <;> lia
theorem Ex {par:List Nat}(F:C1 par){a:Nat}(h:a<par.length):fd (par++[par.length]) a=fd par a:=by
 have F':=E0 F;refine IE F (P:=λa=>fd (par++[par.length]) a=fd par a) (λa h e=>?_) (λa h l ih=>?_) a h
 ·rw[Cw F h e,Cw F' (by simp;exact Zh (Zl h)) (by rw[DO,if_pos h];exact e)]
 ·refine ZN (CM F h) ?_;refine ZO (CM F' (by simp;exact Zh (Zl h))) ?_;refine ZN DO ?_;refine ZN (if_pos h) ?_;refine ZO (if_neg (Zk l)) ?_;refine ZN (if_neg (Zk l)) ?_;exact ih
theorem Kb {par:List Nat}(F:C1 par):fd (par++[par.length]) par.length=par.length :=
 Cw (E0 F) (by simp) (by refine ZO DO ?_;refine ZO (if_neg (Zp (Zg _))) ?_;exact if_pos rfl)
section
variable {par:List Nat} {kept gone:Nat}
theorem HW (F:C1 par)(h1:kept<gone)(h2:gone<par.length):C1 (par.set gone kept):=by
 intro a h;refine ZN (Dp h2) ?_;simp at h
 split
 ·lia
 ·exact F a h
theorem Ou (F:C1 par)(h1:kept<gone)(h2:gone<par.length)(hk:fd par kept=kept)(hg:fd par gone=gone):∀ a,a<par.length->fd (par.set gone kept) a=if fd par a=gone then kept else fd par a:=by
 have F':=HW F h1 h2
 have hk':fd (par.set gone kept) kept=kept:=Cw F' (by simp;exact Ze h1 h2) (by refine ZO (Dp h2) ?_;refine ZO (if_neg (Zk h1)) ?_;exact (Mj F (Ze h1 h2)).mp hk);refine IE F (λa h e=>?_) (λa h l ih=>?_)
 ·refine ZN (Cw F h e) ?_
  by_cases q:a=gone
  ·refine ZN (if_pos q) ?_;refine ZN q ?_;refine ZO (CM F' (by simpa using h2)) ?_;refine ZN (Dp h2) ?_;refine ZN (if_pos rfl) ?_;refine ZO (if_neg (Zk h1)) ?_;exact hk'
  ·refine ZN (if_neg q) ?_
   exact Cw F' (by simpa using h) (by refine ZO (Dp h2) ?_;refine ZO (if_neg q) ?_;exact e)
 ·have q:a≠gone:=λe=>by
   subst e;have:=(Mj F h).mp hg;exact False.elim (Zp (Nat.le_of_eq this.symm) l)
  refine ZN (CM F' (by simpa using h)) ?_;refine ZN (Dp h2) ?_;refine ZN (if_neg q) ?_;refine ZN (if_neg (Zk l)) ?_;refine ZN ih ?_;have e:fd par a=fd par (par.getD a 0):=by refine ZO (CM F h) ?_;exact if_neg (Zk l)
  rw[e]
end
abbrev Row:=String×List Nat
noncomputable def rkey (r:Row):List At:=.s r.1::r.2.map λk:Nat=>At.i (k:Int)
noncomputable def rmv (r:Row):MV:=.tup (.str r.1::nl r.2)
theorem G9:∀ l:List Nat,(nl l).mapM MV.at? = some (l.map λk:Nat=>At.i (k:Int))
 | []=>rfl
 | k::l=>by
  show List.mapM MV.at? (iv k::nl l)=_;refine ZO List.mapM_cons ?_;refine ZN (G9 l) ?_;rfl
theorem BS:∀ l:List Nat,(nl l).mapM MV.int? = some (l.map λk:Nat=>(k:Int))
 | []=>rfl
 | k::l=>by
  show List.mapM MV.int? (iv k::nl l)=_;refine ZO List.mapM_cons ?_;refine ZN (BS l) ?_;rfl
theorem IF (r:Row):MV.key? (.tup (.str r.1::nl r.2))=some (rkey r):=by
 show List.mapM MV.at? (.str r.1::nl r.2)=_;refine ZO List.mapM_cons ?_;rw[G9];rfl
theorem Dq (r:Row):MV.key? (rmv r)=some (rkey r):=IF r
theorem LY {a b:List Nat}(h:a.map (λk:Nat=>At.i (k:Int))=b.map λk:Nat=>At.i (k:Int)):a=b:=by
 refine List.map_inj_right (f:=λk:Nat=>At.i (k:Int)) ?_ |>.mp h
 intro x y e;injection e with e
 exact Int.ofNat_inj.mp e
theorem Ey {a b:Row}(h:rkey a=rkey b):a=b:=by
 unfold rkey at h;injection h with h1 h2
 injection h1 with h1
 exact Prod.ext h1 (LY h2)
theorem Nl (r:Row):(rkey r).map At.mv=.str r.1::nl r.2:=by
 unfold rkey nl;refine ZO ZJ ?_;refine ZN List.map_map ?_;rfl
noncomputable def IsR (o:MO) (l:List (Row×Nat)):Prop:=o=.tdict (l.map λp=>(rkey p.1,iv p.2))\/(o=.ed/\l=[])
theorem Bh {α β γ δ:Type} [BEq α] [LawfulBEq α] [BEq γ] [LawfulBEq γ] {f:α->γ}{g:β->δ}(hf:∀ x y,f x=f y->x=y)(l:List (α×β))(a:α):(l.map λp=>(f p.1,g p.2)).lookup (f a)=(l.lookup a).map g:=by
 induction l with
 | nil=>rfl
 | cons p l ih =>
  obtain⟨x,y⟩:=p;refine ZN ZJ ?_;refine ZO List.lookup_cons ?_;refine ZN List.lookup_cons ?_
  by_cases q:a=x
  ·subst q;simp
  ·refine ZN (show (f a == f x)=false from beq_false_of_ne λe=>q (hf _ _ e)) ?_;refine ZN (show (a == x)=false from beq_false_of_ne q) ?_
   exact ih
theorem IsR.get {o:MO}{l:List (Row×Nat)}(h:IsR o l)(r:Row):D9 o (rmv r)=some ((l.lookup r).map iv):=by
 rcases h with rfl | ⟨rfl,rfl⟩
 ·show (MV.key? (rmv r)).map _=_
  rw[Dq];simp only[Option.map_some];rw[Bh (f:=rkey) (g:=iv) λx y=>Ey]
 ·show (MV.key? (rmv r)).map _=_
  rw[Dq];rfl
theorem Kc {κ:Type} [BEq κ] [DecidableEq κ] {l:List (κ×MV)}{k:κ}{v:MV}(h:l.lookup k=none):put l k v=l++[(k,v)]:=by
 unfold put;rw[h];rfl
theorem IsR.set {o:MO}{l:List (Row×Nat)}(h:IsR o l){r:Row}(n:Nat)(hn:l.lookup r=none)(hb:l.length<big):∃ o',Fa o (rmv r) (iv n)=some o'/\IsR o' (l++[(r,n)])/\(∀ l,o≠.list l)/\(∀ l,o≠.attrs l):=by
 rcases h with rfl | ⟨rfl,rfl⟩
 ·refine⟨.tdict ((l++[(r,n)]).map λp=>(rkey p.1,iv p.2)),?_,.inl rfl,(λ_ h=>by cases h),(λ_ h=>by cases h)⟩
  show (MV.key? (rmv r)).bind _=_;rw[Dq];simp only[Option.bind_some];refine ZO (if_pos (by simpa using hb)) ?_;rw[Kc (by rw[Bh (f:=rkey) (g:=iv) λx y=>Ey,hn];rfl)];simp
 ·refine⟨.tdict [(rkey r,iv n)],?_,.inl rfl,(λ_ h=>by cases h),(λ_ h=>by cases h)⟩
  show (MV.key? (rmv r)).map _=_;rw[Dq];rfl
theorem IsR.kind {o:MO}{l:List (Row×Nat)}(h:IsR o l){U:MH}{i:Nat}(e:U[i]? = some o):CD U (.ref i)=some false:=by
 rcases h with rfl | ⟨rfl,rfl⟩ <;> simp[CD,e]
noncomputable def IsD (o:MO) (l:List (Nat×MV)):Prop:=o=.idict (l.map λp=>((p.1:Int),p.2))\/(o=.ed/\l=[])
theorem E4 {x y:Nat}(h:(x:Int)=(y:Int)):x=y:=Int.ofNat_inj.mp h
theorem IsD.get {o:MO}{l:List (Nat×MV)}(h:IsD o l)(k:Nat):D9 o (iv k)=some (l.lookup k):=by
 rcases h with rfl | ⟨rfl,rfl⟩
 ·show some (List.lookup _ _)=_
  refine ZN (show (l.map λp=>((p.1:Int),p.2))=l.map λp=>((λn:Nat=>(n:Int)) p.1,id p.2)from rfl) ?_;rw[Bh (f:=λn:Nat=>(n:Int)) (g:=id) λx y=>E4];simp
 ·rfl
noncomputable def putN (l:List (Nat×MV)) (k:Nat) (v:MV):List (Nat×MV):=if (l.lookup k).isSome then l.map λp=>if p.1=k then (k,v)else p else l++[(k,v)]
theorem JM (l:List (Nat×MV))(k:Nat)(v:MV)(j:Nat):(putN l k v).lookup j=if j=k then some v else l.lookup j:=by
 unfold putN
 by_cases h:(l.lookup k).isSome=true
 ·refine ZN (if_pos h) ?_
  by_cases q:j=k
  ·subst q
   refine ZN (if_pos rfl) ?_
   induction l with
   | nil=>cases h
   | cons p l ih =>
    obtain⟨x,y⟩:=p;refine ZN ZJ ?_
    by_cases e:x=j
    ·subst e;simp
    ·simp only[e,if_false,List.lookup_cons]
     refine ZN (show (j == x)=false from beq_false_of_ne (Ne.symm e)) ?_;rw[List.lookup_cons,show (j == x)=false from beq_false_of_ne (Ne.symm e)]at h;exact ih h
  ·refine ZN (if_neg q) ?_
   clear h
   induction l with
   | nil=>rfl
   | cons p l ih =>
    obtain⟨x,y⟩:=p;refine ZN ZJ ?_
    by_cases e:x=k
    ·subst e
     simp only[if_true,List.lookup_cons];refine ZN (show (j == x)=false from beq_false_of_ne q) ?_;exact ih
    ·simp only[e,if_false,List.lookup_cons]
     split
     ·rfl
     ·exact ih
 ·refine ZN (if_neg h) ?_
  have hn:l.lookup k=none:=Option.not_isSome_iff_eq_none.mp h;clear h
  induction l with
  | nil =>
   rw[List.nil_append];refine ZN List.lookup_cons ?_
   by_cases q:j=k
   ·subst q;simp
   ·rw[if_neg q,show (j == k)=false from beq_false_of_ne q]
  | cons p l ih =>
   obtain⟨x,y⟩:=p;replace hn:=ZO List.lookup_cons.symm hn
   split at hn
   ·cases hn
   ·rename_i e
    refine ZN List.cons_append ?_;refine ZN List.lookup_cons ?_;refine ZN List.lookup_cons ?_;refine ZN (ih hn) ?_
    split
    ·rename_i e2
     have:j≠k:=λz=>by subst z;replace e2:=ZO e.symm e2;cases e2
     rw[if_neg this]
    ·rfl
theorem HX (l:List (Nat×MV))(k:Nat)(v:MV):(putN l k v).map (·.1)=if (l.lookup k).isSome then l.map (·.1)else l.map (·.1)++[k]:=by
 unfold putN
 split
 ·refine ZO List.map_map ?_
  refine ZL λp _=>?_
  show (if p.1=k then (k,v)else p).1=p.1
  split
  ·rename_i e;exact e.symm
  ·rfl
 ·simp
theorem IsD.set {o:MO}{l:List (Nat×MV)}(h:IsD o l)(k:Nat)(v:MV)(hb:l.length<big):∃ o',Fa o (iv k) v=some o'/\IsD o' (putN l k v)/\(∀ l,o≠.list l)/\(∀ l,o≠.attrs l):=by
 rcases h with rfl | ⟨rfl,rfl⟩
 ·refine⟨.idict ((putN l k v).map λp=>((p.1:Int),p.2)),?_,.inl rfl,(λ_ h=>by cases h),(λ_ h=>by cases h)⟩
  show (if _ then _ else _)=_;refine ZO (if_pos (by simpa using hb)) ?_
  congr 2
  unfold put putN;refine ZN (show (l.map λp=>((p.1:Int),p.2))=l.map λp=>((λn:Nat=>(n:Int)) p.1,id p.2)from rfl) ?_;rw[Bh (f:=λn:Nat=>(n:Int)) (g:=id) λx y=>E4];simp only[Option.isSome_map]
  split
  ·refine ZO List.map_map ?_;refine ZN List.map_map ?_
   refine ZL λp _=>?_
   simp only[Function.comp,id]
   by_cases q:p.1=k
   ·refine ZN (if_pos q) ?_;exact if_pos (by solve_by_elim (maxDepth:=4) [Zd,Zb,Zc,Zl,Zh,Zn,Zi,Zq,Zk,Zf,Zj])
   ·refine ZN (if_neg q) ?_;exact if_neg (by lia)
  ·simp
 ·exact⟨.idict [((k:Int),v)],rfl,.inl rfl,(λ_ h=>by cases h),(λ_ h=>by cases h)⟩
theorem IsD.kind {o:MO}{l:List (Nat×MV)}(h:IsD o l){U:MH}{i:Nat}(e:U[i]? = some o):CD U (.ref i)=some false:=by
 rcases h with rfl | ⟨rfl,rfl⟩ <;> simp[CD,e]
theorem IsD.pop {o:MO}{l:List (Nat×MV)}(h:IsD o l){U:MH}{i:Nat}(e:U[i]? = some o){k:Nat}{v:MV}(hk:l.lookup k=some v):∃ o',MetR U (some false) (.ref i) "pop" [iv k] v (U.set i o')/\IsD o' (l.filter λp=>p.1≠k):=by
 rcases h with rfl | ⟨rfl,rfl⟩
 ·refine⟨.idict ((l.map λp=>((p.1:Int),p.2)).filter λp=>p.1≠(k:Int)),?_,.inl ?_⟩
  ·refine .dpop i _ k v e ?_
   refine ZN (show (l.map λp=>((p.1:Int),p.2))=l.map λp=>((λn:Nat=>(n:Int)) p.1,id p.2)from rfl) ?_;rw[Bh (f:=λn:Nat=>(n:Int)) (g:=id) λx y=>E4];refine ZN hk ?_;rfl
  ·congr 1
   refine ZO List.filter_map ?_
   congr 1
   refine List.filter_congr λp _=>?_
   simp only[Function.comp]
   by_cases q:p.1=k
   ·simp[q]
   ·have:¬ (p.1:Int)=k:=by lia
    simp[q,this]
 ·cases hk
structure HV where
 rs:List Row
 ws:List Nat
 ds:List Int
 par:List Nat
 lots:List (Nat×List Nat)
 mg:List MV
 ed:List MV
 fo:List MV
 kn:List (Row×Nat)
 ab:List (Nat×Nat×List Nat)
 wt:List Nat
noncomputable def Ez:List (String×MV):=[("bank",.obj "Bank" 2),("unions",.obj "Unions" 7),("edges",.ref 11),("forest",.ref 12),("known",.ref 13),("above",.ref 14),("waiting",.ref 15),("backs",.int 0)]
noncomputable def DP:List (String×MV):=[("nodes",.ref 3),("numbers",.ref 4),("weights",.ref 5),("depths",.ref 6)]
noncomputable def Ov:List (String×MV):=[("above",.ref 8),("lots",.ref 9),("merged",.ref 10)]
structure HeapIs (U:MH) (H:HV):Prop where
 len:19<=U.length
 h1:U[1]? = some (.attrs Ez)
 h2:U[2]? = some (.attrs DP)
 h3:U[3]? = some (.list (H.rs.map rmv))
 h4:∃ o,U[4]? = some o/\IsR o H.rs.zipIdx
 h5:U[5]? = some (.list (nl H.ws))
 h6:U[6]? = some (.list (H.ds.map .int))
 h7:U[7]? = some (.attrs Ov)
 h8:U[8]? = some (.list (nl H.par))
 h9:U[9]? = some (.list (H.lots.map λp=>.ref p.1))
 h10:U[10]? = some (.list H.mg)
 h11:U[11]? = some (.list H.ed)
 h12:U[12]? = some (.list H.fo)
 h13:∃ o,U[13]? = some o/\IsR o H.kn
 h14:∃ o,U[14]? = some o/\IsD o (H.ab.map λp=>(p.1,.ref p.2.1))
 h15:U[15]? = some (.list (nl H.wt))
 h16:U[16]? = some (.attrs [("heap",.obj "Heap" 1)])
 lotsAt:∀ p∈H.lots,U[p.1]? = some (.list (nl p.2))
 abAt:∀ p∈H.ab,U[p.2.1]? = some (.list (nl p.2.2))
 refs:(H.lots.map (·.1)++H.ab.map (·.2.1)).Nodup
 low:∀ r∈H.lots.map (·.1)++H.ab.map (·.2.1),19<=r
theorem As {a N:Nat}(h:19<=a)(hN:Nat.ble 19 N=false):(a == N)=false:=beq_false_of_ne λe=>by
 subst e;exact nomatch hN.symm.trans (Nat.ble_eq_true_of_le h)
theorem Aq {a N:Nat}(h:19<=a)(hN:Nat.ble 19 N=false):N≠a:=λe=>by
 subst e;exact nomatch hN.symm.trans (Nat.ble_eq_true_of_le h)
structure Wf (H:HV):Prop where
 n8:H.rs.length<=8
 parlen:H.par.length=H.rs.length
 falls:C1 H.par
 kids:∀ (i:Nat) (r:Row),H.rs[i]? = some r->r.2.length<=2/\∀ k∈r.2,k<i
 lotslen:H.lots.length=H.rs.length
 lotsOk:∀ (c:Nat) (p:Nat×List Nat),H.lots[c]? = some p->fd H.par c=c->p.2.Perm ((List.range H.rs.length).filter λn=>fd H.par n=c)
theorem HeapIs.more {U:MH}{H:HV}(h:HeapIs U H)(e:MH):HeapIs (U++e) H:=by
 have k:∀ {i:Nat} {o:MO},U[i]? = some o->(U++e)[i]? = some o:=λ{i o} q=>by
  refine ZO (List.getElem?_append_left (List.getElem?_eq_some_iff.mp q).1) ?_;exact q
 exact⟨by refine ZN ZG ?_;have:=h.len;exact Zc this (Zt _ _),k h.h1,k h.h2,k h.h3,let ⟨o,a,b⟩:=h.h4;⟨o,k a,b⟩,k h.h5,k h.h6,k h.h7,k h.h8,k h.h9,k h.h10,k h.h11,k h.h12,let ⟨o,a,b⟩:=h.h13;⟨o,k a,b⟩,let ⟨o,a,b⟩:=h.h14;⟨o,k a,b⟩,k h.h15,k h.h16,
  λp hp=>k (h.lotsAt p hp),λp hp=>k (h.abAt p hp),h.refs,h.low⟩
theorem CU {l:List Nat}{i:Nat}(h:i<l.length):(nl l)[i]? = some (iv (l.getD i 0)):=by
 simp[nl,List.getD_eq_getElem?_getD,ZI h]
theorem AP (l:List Nat):(nl l).length=l.length:=by simp[nl]
theorem Bd {U:MH}{a:Nat}{l:List MV}{k:Nat}{v:MV}(h:U[a]? = some (.list l))(hk:l[k]? = some v)(hb:k<2 ^ 60):IdxR U (.ref a) (iv k) v:=.lst a l k v h hb hk
theorem C4 {U:MH}{l:List MV}{k:Nat}{v:MV}(hk:l[k]? = some v)(hb:k<2 ^ 60):IdxR U (.fl l) (iv k) v:=.fl l k v hb hk
theorem EC {U:MH}{l:List MV}{k:Nat}{v:MV}(hk:l[k]? = some v)(hb:k<2 ^ 60):IdxR U (.tup l) (iv k) v:=.tup l k v hb hk
theorem FA {U:MH}{a:Nat}{o:MO}{l:List (Nat×MV)}{k:Nat}{v:MV}(h:U[a]? = some o)(ho:IsD o l)(hk:l.lookup k=some v):IdxR U (.ref a) (iv k) v:=.dct a o _ v h ((ho.get k).trans (congrArg some hk))
theorem Pp {U:MH}{a:Nat}{o:MO}{l:List (Row×Nat)}{r:Row}{n:Nat}(h:U[a]? = some o)(ho:IsR o l)(hk:l.lookup r=some n):IdxR U (.ref a) (rmv r) (iv n):=.dct a o _ _ h ((ho.get r).trans (by refine ZN hk ?_;rfl))
theorem Ga {U:MH}{s:String}{l:List MV}:IdxR U (.tup (.str s::l)) (.int 0) (.str s):=.tup _ 0 _ (by decide) rfl
theorem CmpR.to {U:MH}{o:CO}{x y:MV}{r r':Bool}(h:CmpR U o x y r)(e:r=r'):CmpR U o x y r':=e▸h
theorem BinR.to {U:MH}{o:BO}{x y v v':MV}(h:BinR U o x y v)(e:v=v'):BinR U o x y v':=e▸h
theorem CV {U:MH}(a b:Nat):CmpR U .ne (iv a) (iv b) (decide (a≠b)):=(CmpR.nei a b).to (decide_eq_decide.mpr (not_congr Int.ofNat_inj))
theorem Br {U:MH}(a b:Nat):CmpR U .eq (iv a) (iv b) (decide (a=b)):=(CmpR.eqi a b).to (decide_eq_decide.mpr Int.ofNat_inj)
section
variable {U:MH} {H:HV}
theorem FS (h:HeapIs U H)(w:Wf H){a:Nat}(ha:a<H.rs.length)(n:Nat):run (n+1) "Unions" "find" [.obj "Unions" 7,iv a] U (iv (fd H.par a)) U:=by
 rw[<- w.parlen]at ha;have n8:=w.n8;rw[<- w.parlen]at n8;refine eX2 (EB (X:=XX n) (c:=.cmp .ne (.idx (.attr (.v "self") "above") (.v "a")) (.v "a")) (b:=[.assign (.v "a") (.idx (.attr (.v "self") "above") (.v "a"))]) (J:=[("a",iv a),("self",.obj "Unions" 7)]) (U:=U)
  (λm J U'=>U'=U/\m<100/\J.lookup "self"=some (.obj "Unions" 7)/\∃ b,m=b/\b<H.par.length/\fd H.par b=fd H.par a/\J.lookup "a"=some (iv b)) (λJ U'=>U'=U/\J.lookup "a"=some (iv (fd H.par a))) (by
  intro m J U' y3;refine aN4 (y3) λq1 hm hs zz=>eX1 zz λb zz=>aN4 zz λq5 hb hf hv=>?_;subst q1;subst q5
  have e1:Ev (XX n) (.idx (.attr (.v "self") "above") (.v "a")) J U' (iv (H.par.getD m 0)) U':=An (AT (S_v hs) h.h7 rfl) (S_v hv) (Bd h.h8 (CU hb) (Ze hm (Za rfl)))
  have e2:Ev (XX n) (.cmp .ne (.idx (.attr (.v "self") "above") (.v "a")) (.v "a")) J U' (.bool (decide (H.par.getD m 0≠m))) U':=Ap e1 (S_v hv) (CV _ _)
  have st:=CM w.falls hb
  by_cases q:H.par.getD m 0=m
  ·left
   rw[decide_eq_false (λz=>z q)]at e2;refine⟨U',e2,rfl,?_⟩;rw[if_pos q]at st;refine ZO hv ?_;refine ZN hf.symm ?_;rw[st]
  ·right
   rw[decide_eq_true q]at e2;refine⟨U',e2,.next,("a",iv (H.par.getD m 0))::J,U',AJ (AS e1 P_v) AY,.inl rfl,H.par.getD m 0,?_,rfl,?_,?_,_,rfl,?_,?_,rfl⟩
   ·have:=w.falls m hb;exact Zu this q
   ·have:=w.falls m hb;exact Zb this hm
   ·exact hs
   ·have:=w.falls m hb;exact Zb this hb
   ·rw[if_neg q]at st;refine ZO st.symm ?_;exact hf) (m:=a) ⟨rfl,Ze (Zd ha n8) (Za rfl),rfl,a,rfl,ha,rfl,rfl⟩ (by show a<10000;exact Ze (Zd ha n8) (Za rfl))) λJ' U' zz=>aN3 zz λk1 q4 k2=>?_;subst q4
 exact BC rfl rfl rfl (AJ k1 (Ar (BB (S_v k2))))
theorem DF (h:HeapIs U H)(w:Wf H){a:Nat}(ha:a<H.rs.length)(n:Nat):run (n+2) "Heap" "find" [.obj "Heap" 1,iv a] U (iv (fd H.par a)) U :=
 BC rfl rfl rfl (Ar (BB (AW (AT (S_v rfl) h.h1 rfl) h.h7 (AF (S_v rfl) AI) (FS h w ha n))))
theorem Gb {rs:List Row}{i:Nat}{r:Row}(h:rs[i]? = some r):(rs.map rmv)[i]? = some (rmv r):=by refine ZO (ZH) ?_;refine ZN h ?_;rfl
theorem QC (h:HeapIs U H){i:Nat}{r:Row}(hr:H.rs[i]? = some r)(hi:i<1000)(n:Nat):run (n+1) "Bank" "op" [.obj "Bank" 2,iv i] U (.str r.1) U :=
 BC rfl rfl rfl (Ar (BB (An (An (AT (S_v rfl) h.h2 rfl) (S_v rfl) (Bd h.h3 (Gb hr) (Ze hi (Za rfl)))) S_c (EC (k:=0) (l:=.str r.1::nl r.2) rfl (Za rfl)))))
theorem Ow (h:HeapIs U H){i:Nat}{r:Row}(hr:H.rs[i]? = some r)(hi:i<1000)(hl:r.2.length<=2)(n:Nat):run (n+1) "Bank" "kids" [.obj "Bank" 2,iv i] U (.tup (nl r.2)) U :=
 BC rfl rfl rfl (Ar (BB (CL (l:=.str r.1::nl r.2) (An (AT (S_v rfl) h.h2 rfl) (S_v rfl) (Bd h.h3 (Gb hr) (Ze hi (Za rfl)))) (by refine ZN List.length_cons ?_;rw[AP];exact⟨Zs _ _,by unfold big;exact Zw (Zb hl (Za rfl))⟩))))
noncomputable def Bj (par:List Nat) (r:Row):Row:=(r.1,r.2.map (fd par))
theorem LZ {U:MH}{l:List MV}:items U (.tup l)=some l:=rfl
theorem ED {X:CK}{J:ME'}{U U1:MH}{e:ME}{l:List MV}{x:MV}(h:Ev X e J U x U1)(hi:items U1 x=some l)(hb:l.length<=big):Ev X (.bi .tuple [e]) J U (.tup l) U1 :=
 Bg (AF h AI) ⟨l,hi,hb,rfl⟩
theorem FB {U:MH}{a b:List MV}(h:a.length+b.length<=big):BinR U .add (.tup a) (.tup b) (.tup (a++b)):=.tup a b h
theorem D0 {X:CK}{J:ME'}{U U1:MH}{elt iter:ME}{n:String}{x:MV}{l:List Nat}{f:Nat->Nat}(h1:Ev X iter J U x U1)(h2:iter2 U1 .it x=some (nl l))(h3:∀ k∈l,Ev X elt ((n,iv k)::without J [".0",n]) U1 (iv (f k)) U1)(hn:l.length<X.turns)(hb:l.length<=big) :
  Ev X (.comp elt (.v n) .it iter []) J U (.fl (nl (l.map f))) U1:=by
 refine Ca h1 h2 (by rw[AP,AP,ZF]) (λi y v hy hv=>?_) (by rw[AP];exact hn) (by rw[AP];exact hb);unfold nl at hy hv;rw[ZH]at hy hv;rw[ZH]at hv;obtain⟨k,hk,rfl⟩:=ZD hy;rw[hk]at hv;cases hv;exact h3 k (Zy hk)
theorem BK {U:MH}{l:List MV}:iter2 U .it (.tup l)=some l:=rfl
theorem Cx {U:MH}{l:List MV}:iter2 U .it (.fl l)=some l:=rfl
theorem Al {rs:List Row}{i:Nat}{r:Row}(h:rs[i]? = some r):i<rs.length:=(List.getElem?_eq_some_iff.mp h).1
theorem Mk (h:HeapIs U H)(w:Wf H){i:Nat}{r:Row}(hr:H.rs[i]? = some r)(n:Nat):run (n+3) "Heap" "node" [.obj "Heap" 1,iv i] U (rmv (Bj H.par r)) U:=by
 have n8:=w.n8
 have hi:=Al hr;obtain⟨k1,k2⟩:=w.kids i r hr;refine BC rfl rfl rfl (Ar (BB (Bb (BR (AF (AW (AT (S_v rfl) h.h1 rfl) h.h2 (AF (S_v rfl) AI) (QC h hr (Ze (Zd hi n8) (Za rfl)) (n+1))) AI)) (ED (D0 (l:=r.2) (f:=fd H.par) (AW (AT (S_v rfl) h.h1 rfl) h.h2 (AF (S_v rfl) AI) (Ow h hr (Ze (Zd hi n8) (Za rfl)) k1 (n+1))) BK (λk hk=>?_) ?_ ?_) rfl ?_) (FB ?_))))
 ·exact AW (S_v rfl) h.h1 (AF (S_v rfl) AI) (DF h w (by have:=k2 k hk;exact Ze this hi) n)
 ·show _<10000;exact Zb k1 (Za rfl)
 ·unfold big;exact Zc k1 (Za rfl)
 ·rw[AP,ZF];unfold big;exact Zc k1 (Za rfl)
 ·rw[AP,ZF];unfold big;simp;exact Zc (Nat.add_le_add (Zg _) k1) (Za rfl)
end
theorem L0 {l:List (List At)}(h:∀ k∈l,∃ r:Row,k=rkey r):∃ L:List Row,l=L.map rkey:=by
 induction l with
 | nil=>exact⟨[],rfl⟩
 | cons k l ih =>
  obtain⟨r,hr⟩:=h k (.head _);refine eX1 (ih λx hx=>h x (.tail _ hx)) λL hL=>?_
  exact⟨r::L,by refine ZN hr ?_;refine ZN hL ?_;rfl⟩
theorem HY {l:List Int}(h:∀ k∈l,∃ n:Nat,k=n):∃ L:List Nat,l=L.map λn:Nat=>(n:Int):=by
 induction l with
 | nil=>exact⟨[],rfl⟩
 | cons k l ih =>
  obtain⟨r,hr⟩:=h k (.head _);refine eX1 (ih λx hx=>h x (.tail _ hx)) λL hL=>?_
  exact⟨r::L,by refine ZN hr ?_;refine ZN hL ?_;rfl⟩
theorem EK:∀ l:List Row,(l.map rmv).mapM MV.key? = some (l.map rkey)
 | []=>rfl
 | r::l=>by
  refine ZN ZJ ?_;refine ZO List.mapM_cons ?_;refine ZN (EK l) ?_;rw[Dq];rfl
theorem sort_mem {α:Type} [DecidableEq α] {lt:α->α->Bool}{l:List α}{x:α}:x∈BJ lt (BG l)↔x∈l:=(Bm _).mem_iff.trans mem_dedup
theorem JN {α:Type} [DecidableEq α] {lt:α->α->Bool}{l:List α}:(BJ lt (BG l)).length<=l.length:=by
 refine ZN ((Bm _).length_eq) ?_;exact E9 l
theorem Ml {U:MH}{l:List Row}(h0:l≠[])(h1:l.length<=16):∃ L:List Row,BiP U .sortedset (.fl (l.map rmv)) (.fl (L.map rmv))/\(∀ r,r∈L↔r∈l)/\L.length<=l.length:=by
 have hmem:∀ k∈BJ Ag (BG (l.map rkey)),∃ r:Row,k=rkey r:=λk hk=>by
  have:=sort_mem.mp hk;refine eX1 (ZB this) λr zz=>aN2 zz λ_ e=>?_
  exact⟨r,e.symm⟩
 obtain⟨L,hL⟩:=L0 hmem;refine⟨L,?_,λr=>?_,?_⟩
 ·have hc:(l.map rkey).all E7=true/\(BG (l.map rkey)).length<=16:=by
   constructor
   ·refine List.all_eq_true.mpr ?_
    intro k hk;refine eX1 (ZB hk) λr zz=>aN2 zz λ_ q3=>?_;subst q3
    show (r.2.map λk:Nat=>At.i (k:Int)).all At.isI=true;refine List.all_eq_true.mpr ?_;intro x hx;refine eX1 (ZB hx) λk zz=>aN2 zz λ_ q3=>?_;subst q3
    rfl
   ·have:=E9 (l.map rkey)
    rw[ZF]at this;exact Zc this h1
  refine⟨_,rfl,by rw[ZF];exact Zb h1 (Za rfl),.inr ⟨_,EK l,hc,?_⟩⟩;refine ZN hL ?_;refine ZN List.map_map ?_
  congr 2
  funext r;show _=MV.tup ((rkey r).map At.mv);rw[Nl];rfl
 ·have:rkey r∈BJ Ag (BG (l.map rkey))↔rkey r∈l.map rkey:=sort_mem
  rw[hL]at this;constructor
  ·intro h
   refine eX1 (ZB (this.mp (ZE h))) λr' zz=>aN2 zz λh1 h2=>?_
   refine ZN (Ey h2).symm ?_;exact h1
  ·intro h
   refine eX1 (ZB (this.mpr (ZE h))) λr' zz=>aN2 zz λh1 h2=>?_
   refine ZN (Ey h2).symm ?_;exact h1
 ·have:=JN (lt:=Ag) (l:=l.map rkey)
  rw[hL,ZF,ZF]at this;exact this
theorem JO {U:MH}{l:List Nat}(h1:l.length<64):∃ L:List Nat,BiP U .sortedset (.fl (nl l)) (.fl (nl L))/\(∀ r,r∈L↔r∈l)/\L.length<=l.length/\L.Nodup:=by
 have hmem:∀ k∈BJ B7 (BG (l.map λn:Nat=>(n:Int))),∃ n:Nat,k=n:=λk hk=>by
  have:=sort_mem.mp hk;refine eX1 (ZB this) λr zz=>aN2 zz λ_ e=>?_
  exact⟨r,e.symm⟩
 obtain⟨L,hL⟩:=HY hmem;refine⟨L,?_,λr=>?_,?_,?_⟩
 ·exact⟨_,rfl,by rw[AP];exact h1,.inl ⟨_,BS l,by refine ZN hL ?_;refine ZN List.map_map ?_;rfl⟩⟩
 ·have:(r:Int)∈BJ B7 (BG (l.map λn:Nat=>(n:Int)))↔(r:Int)∈l.map λn:Nat=>(n:Int):=sort_mem
  rw[hL]at this;constructor
  ·intro h
   refine eX1 (ZB (this.mp (ZC ⟨r,h,rfl⟩))) λr' zz=>aN2 zz λh1 h2=>?_
   have:r'=r:=Int.ofNat_inj.mp h2;refine ZN this.symm ?_;exact h1
  ·intro h
   refine eX1 (ZB (this.mpr (ZC ⟨r,h,rfl⟩))) λr' zz=>aN2 zz λh1 h2=>?_
   have:r'=r:=Int.ofNat_inj.mp h2;refine ZN this.symm ?_;exact h1
 ·have:=JN (lt:=B7) (l:=l.map λn:Nat=>(n:Int))
  rw[hL,ZF,ZF]at this;exact this
 ·have:(BJ B7 (BG (l.map λn:Nat=>(n:Int)))).Nodup:=(Bm _).nodup_iff.mpr (Db _)
  rw[hL,List.Nodup]at this;replace this:=List.pairwise_map.mp this;exact this.imp λh e=>h (by rw[e])
theorem JP {l m:List Nat}(p:l.Perm m)(s:m.Pairwise (· < ·)):BJ B7 (l.map λn:Nat=>(n:Int))=m.map λn:Nat=>(n:Int):=by
 symm
 refine Ft intLt_ok (p.map _).symm ?_;refine List.pairwise_map.mpr ?_;exact s.imp λh=>by simp[B7];exact Zl h
section
variable {U:MH} {H:HV}
noncomputable def mem (H:HV) (c:Nat):List Nat:=(List.range H.rs.length).filter λn=>fd H.par n=c
theorem mem_iff {c n:Nat}:n∈mem H c↔n<H.rs.length/\fd H.par n=c:=by
 unfold mem;rw[List.mem_filter,List.mem_range];simp
theorem Kd {c:Nat}(w:Wf H):(mem H c).length<=8:=by
 have:=List.length_filter_le (λn=>decide (fd H.par n=c)) (List.range H.rs.length);rw[List.length_range]at this;have:=w.n8;unfold mem;lia
theorem L6 (h:HeapIs U H)(w:Wf H){a:Nat}(ha:a<H.rs.length)(n:Nat):run (n+2) "Unions" "members" [.obj "Unions" 7,iv a] U (.fl (nl (mem H (fd H.par a)))) U:=by
 have hf:fd H.par a<H.lots.length:=by refine ZN w.lotslen ?_;refine ZN w.parlen.symm ?_;exact Cv w.falls (by refine ZN w.parlen ?_;exact ha)
 have hg:=ZI hf
 have hp:=w.lotsOk _ _ hg (Ew w.falls (by refine ZN w.parlen ?_;exact ha));refine BC rfl rfl rfl (Ar (BB (Bg (AF (An (AT (S_v rfl) h.h7 rfl) (AW (S_v rfl) h.h7 (AF (S_v rfl) AI) (FS h w ha n)) (Bd h.h9 (by refine ZO (ZH) ?_;refine ZN hg ?_;rfl) ?_)) AI) ?_)))
 ·have:=w.n8;have:=w.lotslen;lia
 ·have h1:(nl H.lots[fd H.par a].2).length<64:=by
   rw[AP];refine ZN hp.length_eq ?_;have:=Kd (c:=fd H.par a) w;unfold mem at this;exact Zb this (Za rfl)
  exact .inl ⟨_,_,by simp only[AO,h.lotsAt _ (List.getElem_mem hf)],h1,BS _,by refine ZN (JP hp (List.pairwise_lt_range.filter _)) ?_;refine ZN List.map_map ?_;rfl⟩
theorem L7 (h:HeapIs U H)(w:Wf H){a:Nat}(ha:a<H.rs.length)(n:Nat):run (n+3) "Heap" "members" [.obj "Heap" 1,iv a] U (.fl (nl (mem H (fd H.par a)))) U :=
 BC rfl rfl rfl (Ar (BB (AW (AT (S_v rfl) h.h1 rfl) h.h7 (AF (S_v rfl) AI) (L6 h w ha n))))
noncomputable def Nm (H:HV) (c:Nat) (L:List Row):Prop:=(∀ r,r∈L↔∃ n r0,H.rs[n]? = some r0/\fd H.par n=c/\r=Bj H.par r0)/\L.length<=8
theorem Gc (h:HeapIs U H)(w:Wf H){a:Nat}(ha:a<H.rs.length)(n:Nat):∃ L,run (n+4) "Heap" "nodes_of" [.obj "Heap" 1,iv a] U (.fl (L.map rmv)) U/\Nm H (fd H.par a) L:=by
 have hm:=Kd (c:=fd H.par a) w
 have ham:a∈mem H (fd H.par a):=mem_iff.mpr ⟨ha,rfl⟩
 have hcomp:Ev (XX (n+3)) (.comp (.meth (.v "self") "node" [.v "n"]) (.v "n") .it (.meth (.v "self") "members" [.v "c"]) []) [("c",iv a),("self",.obj "Heap" 1)] U (.fl (((mem H (fd H.par a)).map λi=>Bj H.par (H.rs.getD i ("",[]))).map rmv)) U:=by
  refine Ca (AW (S_v rfl) h.h1 (AF (S_v rfl) AI) (L7 h w ha n)) Cx (by rw[ZF,ZF,AP]) (λj y v hy hv=>?_) (by rw[AP];show _<10000;exact Zb hm (Za rfl)) (by rw[AP];unfold big;exact Zc hm (Za rfl));unfold nl at hy;rw[ZH]at hy hv;rw[ZH]at hv;refine eX1 (ZD hy) λi zz=>aN2 zz λhi q3=>?_;subst q3
  rw[hi]at hv;cases hv;have hr:=ZI (mem_iff.mp (Zy hi)).1;dsimp only;refine ZN (List.getD_eq_getElem?_getD) ?_;refine ZN hr ?_;exact AW (S_v rfl) h.h1 (AF (S_v rfl) AI) (Mk h w hr n)
 refine eX1 (Ml (U:=U) (l:=(mem H (fd H.par a)).map λi=>Bj H.par (H.rs.getD i ("",[]))) (λq=>by
  replace q:=List.map_eq_nil_iff.mp q;rw[q]at ham;cases ham) (by rw[ZF];exact Zc hm (Za rfl))) λL zz=>aN3 zz λe1 e2 e3=>?_
 refine⟨L,BC rfl rfl rfl (Ar (BB (Bg (AF hcomp AI) e1))),λr=>?_,by rw[ZF]at e3;exact Zc e3 hm⟩;rw[e2,List.mem_map];constructor
 ·intro y0
  refine eX1 (y0) λi zz=>aN2 zz λhi q3=>?_;subst q3
  obtain⟨h1,h2⟩:=mem_iff.mp hi;exact⟨i,H.rs[i],ZI h1,h2,by refine ZN (List.getD_eq_getElem?_getD) ?_;refine ZN (ZI h1) ?_;rfl⟩
 ·intro y0
  refine eX2 (y0) λi r0 zz=>aN3 zz λh1 h2 q5=>?_;subst q5
  exact⟨i,mem_iff.mpr ⟨Al h1,h2⟩,by refine ZN (List.getD_eq_getElem?_getD) ?_;refine ZN h1 ?_;rfl⟩
noncomputable def Ke (H:HV) (op:String) (cs:List Nat):Option Nat:=(H.kn.lookup (op,cs.map (fd H.par))).map (fd H.par)
noncomputable def QD:Option Nat->MV
 | some n=>iv n
 | none=>.int (-1)
theorem Ox (h:HeapIs U H)(w:Wf H){op:String}{cs:List Nat}(hc:∀ c∈cs,c<H.rs.length)(hl:cs.length<=2)(hk:∀ p∈H.kn,p.2<H.rs.length)(n:Nat):run (n+3) "Heap" "seek" [.obj "Heap" 1,.str op,.fl (nl cs)] U (QD (Ke H op cs)) U:=by
 refine eX1 (h.h13) λo zz=>aN2 zz λo1 o2=>?_
 have hkey:Ev (XX (n+2)) (.bin .add (.tup [.v "op"]) (.bi .tuple [.comp (.meth (.v "self") "find" [.v "c"]) (.v "c") .it (.v "classes") []])) [("classes",.fl (nl cs)),("op",.str op),("self",.obj "Heap" 1)] U (rmv (op,cs.map (fd H.par))) U:=by
  refine Bb (BR (AF (S_v rfl) AI)) (ED (D0 (l:=cs) (f:=fd H.par) (S_v rfl) Cx (λk hk=>?_) ?_ ?_) rfl ?_) (FB ?_)
  ·exact AW (S_v rfl) h.h1 (AF (S_v rfl) AI) (DF h w (hc k hk) n)
  ·show _<10000;exact Zb hl (Za rfl)
  ·unfold big;exact Zc hl (Za rfl)
  ·rw[AP,ZF];unfold big;exact Zc hl (Za rfl)
  ·rw[AP,ZF];unfold big;simp;exact Zc (Nat.add_le_add (Zg _) hl) (Za rfl)
 have hget:MetR U (some false) (.ref 13) "get" [rmv (op,cs.map (fd H.par)),.int (-1)] (((H.kn.lookup (op,cs.map (fd H.par))).map iv).getD (.int (-1))) U:=.get 13 o _ _ _ o1 (o2.get (op,cs.map (fd H.par)))
 have e1:=EA (X:=XX (n+2)) (o:=.attr (.v "self") "known") (n:="get") (J:=[("classes",.fl (nl cs)),("op",.str op),("self",.obj "Heap" 1)]) (AT (S_v rfl) h.h1 rfl) o1 (o2.kind o1) (AF hkey (AF S_c AI)) hget;unfold Ke;cases q:H.kn.lookup (op,cs.map (fd H.par))with
 | none =>
  rw[q]at e1;exact BC rfl rfl rfl (AJ (AS e1 P_v) (Ar (BB (KF (Ap (S_v rfl) S_c (.lti (-1) 0)) S_c))))
 | some m =>
  rw[q]at e1;have hm:m<H.rs.length:=by
   have:∀ (l:List (Row×Nat)) (r:Row),l.lookup r=some m->∃ p∈l,p.2=m:=by
    intro l r
    induction l with
    | nil=>intro h;cases h
    | cons p l ih =>
     intro h;obtain⟨x,y⟩:=p;replace h:=ZO List.lookup_cons.symm h
     split at h
     ·cases h;exact⟨_,.head _,rfl⟩
     ·refine eX1 (ih h) λp zz=>aN2 zz λh1 h2=>?_;exact⟨p,.tail _ h1,h2⟩
   refine eX1 (this _ _ q) λp zz=>aN2 zz λh1 h2=>?_
   refine ZN h2.symm ?_;exact hk p h1
  refine BC rfl rfl rfl (AJ (AS e1 P_v) (Ar (BB (IB (Ap (S_v rfl) S_c ((CmpR.lti _ _).to (decide_eq_false (by lia)))) (AW (S_v rfl) h.h1 (AF (S_v rfl) AI) (DF h w hm n))))))
end
section
variable {U:MH} {H:HV}
inductive C5 (H:HV):Nat->MV->Nat->Nat->Prop
 | c0 {n:Nat} {op:String}:H.rs[n]? = some (op,[])->C5 H (fd H.par n) (.tup [.str op]) 1 1
 | c1 {n k s d:Nat} {op:String} {t:MV}:H.rs[n]? = some (op,[k])->C5 H (fd H.par k) t s d->C5 H (fd H.par n) (.tup [.str op,t]) (1+s) (d+1)
 | c2 {n k j s d s' d':Nat} {op:String} {t t':MV}:H.rs[n]? = some (op,[k,j])->C5 H (fd H.par k) t s d->C5 H (fd H.par j) t' s' d'->C5 H (fd H.par n) (.tup [.str op,t,t']) (1+s+s') (max d d'+1)
structure Mm (H:HV):Prop where
 kn:∀ p∈H.kn,p.2<H.rs.length
 all:∀ (n:Nat) (r:Row),H.rs[n]? = some r->∃ m,H.kn.lookup (Bj H.par r)=some m/\fd H.par m=fd H.par n
theorem D1 (h:HeapIs U H)(w:Wf H)(s:Mm H){n:Nat}{op:String}{ks:List Nat}{ts:List MV}(hr:H.rs[n]? = some (op,ks))(hl:ts.length=ks.length){m:Nat}(hm:2<=m)
  (hk:∀ (i k:Nat) (t:MV),ks[i]? = some k->ts[i]? = some t->run (m+1) "Grammar" "class_of" [.obj "Grammar" 16,t] U (iv (fd H.par k)) U) :
  run (m+2) "Grammar" "class_of" [.obj "Grammar" 16,.tup (.str op::ts)] U (iv (fd H.par n)) U:=by
 obtain⟨w1,w2⟩:=w.kids n _ hr;have w1:ks.length<=2:=w1
 have hn:=Al hr
 have hlt:∀ k∈ks,k<H.rs.length:=λk hk=>by have:=(w2) k hk;exact Ze this hn
 have hp:∀ k∈ks,k<H.par.length:=λk hk=>by refine ZN w.parlen ?_;exact hlt k hk
 have hcomp:Ev (XX (m+1)) (.comp (.meth (.v "self") "class_of" [.v "part"]) (.v "part") .it (.from1 (.v "term")) []) [("term",.tup (.str op::ts)),("self",.obj "Grammar" 16)] U (.fl (nl (ks.map (fd H.par)))) U:=by
  refine Ca (l:=ts) (CL (l:=.str op::ts) (S_v rfl) ⟨by simp,by simp;unfold big;exact Zw (Zb (le_of_eq_of_le hl w1) (Za rfl))⟩) BK (by rw[AP,ZF,hl]) (λi t v ht hv=>?_) (by show _<10000;exact Zb (le_of_eq_of_le hl w1) (Za rfl)) (by unfold big;exact Zc (le_of_eq_of_le hl w1) (Za rfl));have hi:i<ks.length:=by refine ZN hl.symm ?_;exact (List.getElem?_eq_some_iff.mp ht).1
  have hki:=ZI hi
  have:v=iv (fd H.par ks[i]):=by
   unfold nl at hv;replace hv:=ZO (ZH).symm hv;rw[ZH,hki]at hv;exact (Option.some.inj hv).symm
  refine ZN this ?_;exact AW (S_v rfl) h.h16 (AF (S_v rfl) AI) (hk i _ t hki ht)
 have hin:CmpR U .isin (.int (-1)) (.fl (nl (ks.map (fd H.par)))) false:=(CmpR.inl _ _ _ _ rfl (BS _)).to (decide_eq_false λq=>by
  refine eX1 (ZB q) λk zz=>aN2 zz λ_ e=>?_
  lia)
 refine eX1 (s.all n _ hr) λj zz=>aN2 zz λk1 k2=>?_
 obtain⟨m',rfl⟩:∃ m',m=m'+2:=⟨m - 2,(Nat.sub_add_cancel hm).symm⟩
 have hs:=Ox h w (op:=op) (cs:=ks.map (fd H.par)) (λc hc=>by
  refine eX1 (ZB hc) λk zz=>aN2 zz λhk q3=>?_;subst q3
  refine ZN w.parlen.symm ?_;exact Cv w.falls (hp k hk)) (by rw[ZF];exact w1) s.kn m'
 have hv:Ke H op (ks.map (fd H.par))=some (fd H.par n):=by
  unfold Ke;have e:(ks.map (fd H.par)).map (fd H.par)=ks.map (fd H.par):=by
   refine ZO List.map_map ?_;exact ZL λk hk=>Ew w.falls (hp k hk)
  refine ZN e ?_;show (H.kn.lookup (Bj H.par (op,ks))).map _=_;refine ZN k1 ?_;rw[Option.map_some,k2]
 rw[hv]at hs;exact BC rfl rfl rfl (AJ (AS hcomp P_v) (Ar (BB (IB (Ap S_c (S_v rfl) hin) (AW (AT (S_v rfl) h.h16 rfl) h.h1 (AF (An (S_v rfl) S_c (EC (k:=0) (v:=.str op) rfl (Za rfl))) (AF (S_v rfl) AI)) hs)))))
theorem Gd (h:HeapIs U H)(w:Wf H)(s:Mm H){c sz d:Nat}{t:MV}(ht:C5 H c t sz d):∀ m,d<=m->run (m+3) "Grammar" "class_of" [.obj "Grammar" 16,t] U (iv c) U:=by
 induction ht with
 | c0 hr =>
  intro m hm;exact D1 (m:=m+1) h w s hr rfl (Nat.succ_le_succ hm) (λi k t hk=>by simp at hk)
 | c1 hr _ ih =>
  intro m hm;refine D1 (m:=m+1) h w s hr rfl (Nat.succ_le_succ (Zc (Zs _ _) hm)) (λi k t hk ht=>?_);obtain⟨m',rfl⟩:∃ m',m=m'+1:=⟨m - 1,(Nat.sub_add_cancel (Zc (Zs _ _) hm)).symm⟩
  cases i with
  | zero=>cases hk;cases ht;exact ih m' (Nat.le_of_succ_le_succ hm)
  | succ i=>simp at hk
 | c2 hr _ _ ih1 ih2 =>
  intro m hm;refine D1 (m:=m+1) h w s hr rfl (Nat.succ_le_succ (Zc (Zs _ _) hm)) (λi k t hk ht=>?_);obtain⟨m',rfl⟩:∃ m',m=m'+1:=⟨m - 1,(Nat.sub_add_cancel (Zc (Zs _ _) hm)).symm⟩
  cases i with
  | zero=>cases hk;cases ht;exact ih1 m' (Zc (Nat.le_max_left _ _) (Nat.le_of_succ_le_succ hm))
  | succ i =>
   cases i with
   | zero=>cases hk;cases ht;exact ih2 m' (Zc (Nat.le_max_right _ _) (Nat.le_of_succ_le_succ hm))
   | succ i=>simp at hk
theorem HZ (h:HeapIs U H)(w:Wf H)(s:Mm H){c sz d a:Nat}{t:MV}(ht:C5 H c t sz d)(ha:a<H.rs.length){m:Nat}(hm:d<=m):run (m+4) "Grammar" "accepts" [.obj "Grammar" 16,iv a,t] U (.bool (decide (c=fd H.par a))) U :=
 BC rfl rfl rfl (Ar (BB (Ap (AW (S_v rfl) h.h16 (AF (S_v rfl) AI) (Gd h w s ht m hm)) (AW (AT (S_v rfl) h.h16 rfl) h.h1 (AF (S_v rfl) AI) (DF h w ha (m+1))) (Br _ _))))
theorem Nn {X:CK}{J:ME'}{U U1:MH}{iter:ME}{L:List Row}(h1:Ev X iter J U (.fl (L.map rmv)) U1)(hn:∀ r∈L,r.2.length<=2)(hL:L.length<=8)(hT:100<X.turns) :
  Ev X (.comp2 (.v "kid") (.v "node") iter (.v "kid") (.from1 (.v "node"))) J U (.fl (nl (L.flatMap (·.2)))) U1:=by
 have e:∀ L:List Row,(L.map rmv).flatMap (λy=>match y with | .tup (_::t)=>t | _=>[])=nl (L.flatMap (·.2)):=by
  intro L
  induction L with
  | nil=>rfl
  | cons r L ih=>refine ZN ZJ ?_;refine ZO List.flatMap_cons ?_;refine ZN List.flatMap_cons ?_;refine ZN ih ?_;unfold nl;refine ZN List.map_append ?_;rfl
 have hlen:∀ L:List Row,(∀ r∈L,r.2.length<=2)->(L.flatMap (·.2)).length<=2 * L.length:=by
  intro L
  induction L with
  | nil=>intro _;simp
  | cons r L ih =>
   intro h;refine ZN List.flatMap_cons ?_;refine ZN ZG ?_;refine ZN List.length_cons ?_;have:=ih λx hx=>h x (.tail _ hx)
   have:=h r (.head _);lia
 have hall:((L.map rmv).flatMap (λy=>match y with | .tup (_::t)=>t | _=>[])).length<=big:=by rw[e,AP];have:=hlen L hn;unfold big;exact Zc (Zc this (Nat.mul_le_mul (Zg _) hL)) (Za rfl)
 refine λK q=>h1 _ ⟨⟨_,rfl⟩,FR (λy=>match y with | .tup (_::t)=>t | _=>[]) rfl (λy hy acc ha K k=>?_) (by rw[ZF];exact Zb (Zc hL (Za rfl)) hT) (by simpa using hall) _ (by rw[e];exact q)⟩
 refine eX1 (ZB hy) λr zz=>aN2 zz λhr q3=>?_;subst q3
 have hr2:=hn r hr
 have ha:acc.length+(nl r.2).length<=big:=ha
 have hfl:(nl r.2).flatMap (λy=>[y])=nl r.2:=List.flatMap_singleton' _;exact⟨_,rfl,_,rfl,_,rfl,⟨by refine ZN List.length_cons ?_;rw[AP];exact Zs _ _,by refine ZN List.length_cons ?_;rw[AP];unfold big;exact Zw (Zb hr2 (Za rfl))⟩,⟨_,rfl⟩,FR (l:=nl r.2) (λy=>[y]) rfl (λy hy acc ha K k=>⟨_,rfl,_,rfl,ha,k⟩) (by rw[AP];exact Zb (Zc hr2 (Za rfl)) hT) (by refine ZN hfl ?_;exact ha) K (by refine ZN hfl ?_;exact k)⟩
theorem Oy (h:HeapIs U H)(w:Wf H){a:Nat}(ha:a<H.rs.length)(n:Nat):∃ K:List Nat,run (n+5) "Grammar" "kids" [.obj "Grammar" 16,iv a] U (.fl (nl K)) U/\(∀ k,k∈K↔∃ i r0,H.rs[i]? = some r0/\fd H.par i=fd H.par a/\∃ j∈r0.2,k=fd H.par j)/\K.length<=16:=by
 refine eX1 (Gc h w ha n) λL zz=>aN3 zz λe1 e2 e3=>?_
 have hn:∀ r∈L,r.2.length<=2:=λr hr=>by
  refine eX2 ((e2 r).mp hr) λi r0 zz=>aN3 zz λh1 _ q5=>?_;subst q5
  show (r0.2.map _).length<=2;rw[ZF];exact (w.kids i r0 h1).1
 have hlen:∀ L:List Row,(∀ r∈L,r.2.length<=2)->(L.flatMap (·.2)).length<=2 * L.length:=by
  intro L
  induction L with
  | nil=>intro _;simp
  | cons r L ih =>
   intro h;refine ZN List.flatMap_cons ?_;refine ZN ZG ?_;refine ZN List.length_cons ?_;have:=ih λx hx=>h x (.tail _ hx)
   have:=h r (.head _);lia
 have hll:=hlen L hn;refine eX1 (JO (U:=U) (l:=L.flatMap (·.2)) (Zb (Zc hll (Nat.mul_le_mul (Zg _) e3)) (Za rfl))) λK zz=>aN4 zz λk1 k2 k3 _=>?_
 refine⟨K,BC rfl rfl rfl (Ar (BB (Bg (AF (Nn (AW (AT (S_v rfl) h.h16 rfl) h.h1 (AF (S_v rfl) AI) e1) hn e3 (by show 100<10000;exact Za rfl)) AI) k1))),λk=>?_,Zc (Zc (Zc k3 hll) (Nat.mul_le_mul (Zg _) e3)) (Za rfl)⟩;rw[k2,List.mem_flatMap];constructor
 ·intro y0
  obtain⟨r,hr,hk⟩:=y0;refine eX2 ((e2 r).mp hr) λi r0 zz=>aN3 zz λh1 h2 q5=>?_;subst q5
  refine eX1 (ZB hk) λj zz=>aN2 zz λhj q3=>?_;subst q3
  exact⟨i,r0,h1,h2,j,hj,rfl⟩
 ·intro y0
  obtain⟨i,r0,h1,h2,j,hj,rfl⟩:=y0;exact⟨_,(e2 _).mpr ⟨i,r0,h1,h2,rfl⟩,ZE hj⟩
theorem IG {U:MH}{l:List Nat}(hl:l.length<=1000)(hb:∀ x∈l,x<2 ^ 40):BiP U .sum (.fl (nl l)) (iv l.sum):=by
 refine⟨_,_,rfl,BS l,⟨by rw[ZF];exact hl,List.all_eq_true.mpr λx hx=>?_⟩,?_⟩
 ·refine eX1 (ZB hx) λk zz=>aN2 zz λhk q3=>?_;subst q3
  have:=hb k hk;exact decide_eq_true (by lia)
 ·refine congrArg MV.int ?_
  clear hl hb
  induction l with
  | nil=>rfl
  | cons x l ih=>refine ZN ZJ ?_;refine ZN List.sum_cons ?_;refine ZN List.sum_cons ?_;refine ZN ih.symm ?_;lia
theorem Cy {U:MH}(a b:Nat):BinR U .add (iv a) (iv b) (iv (a+b)):=.add a b
theorem IH {l:List Nat}(hl:l.length<=1000)(hb:∀ x∈l,x<2 ^ 40)(n:Nat):run (n+1) "" "size_over" [.fl (nl l)] U (iv (1+l.sum)) U :=
 BC rfl rfl rfl (Ar (BB (Bb S_c (Bg (AF (S_v rfl) AI) (IG hl hb)) (Cy 1 l.sum))))
end
theorem Ce {α:Type}:∀ {a b:List α},a.Nodup->(∀ x∈a,x∈b)->a.length<=b.length
 | [],b,_,_=>Zm _
 | x::r,b,hn,hs=>by
  have h1:=List.nodup_cons.mp hn;obtain⟨p,q,e⟩:=List.append_of_mem (hs x (.head _));subst e;have:r.length<=(p++q).length:=Ce h1.2 λy hy=>by
   rcases ZA (hs y (.tail _ hy))with z | z
   ·exact List.mem_append_left _ z
   ·rcases Zz z with rfl | z
    ·exact absurd hy h1.1
    ·exact List.mem_append_right _ z
  simp only[ZG,List.length_cons]at this ⊢;exact le_of_le_of_eq (Nat.add_le_add_right this _) (Nat.add_assoc _ _ _)
theorem Dr {a:List Nat}{n:Nat}(h:a.Nodup)(hb:∀ x∈a,x<n):a.length<=n:=by
 have:=Ce (b:=List.range n) h λx hx=>List.mem_range.mpr (hb x hx)
 rwa [List.length_range]at this
section
variable {U:MH} {a b c:MO}
theorem DQ {e:List MO}:(U++a::e)[U.length]? = some a:=by simp
theorem Mn {e:List MO}:(U++a::b::e)[U.length+1]? = some b:=by
 refine ZN (List.getElem?_append_right (Zj (Zg _))) ?_;simp
theorem set0 {e:List MO}:(U++a::e).set U.length c=U++c::e:=by
 refine ZO (List.set_append_right _ _ (Zg _)) ?_;simp
theorem set1 {e:List MO}:(U++a::b::e).set (U.length+1) c=U++a::c::e:=by
 refine ZN (List.set_append_right _ _ (Zj (Zg _))) ?_;simp
end
theorem keys_of_lookup {l:List (Nat×MV)}{k:Nat}:(l.lookup k).isSome=true↔k∈l.map (·.1):=by
 induction l with
 | nil=>simp
 | cons p l ih =>
  obtain⟨x,y⟩:=p;refine ZN List.lookup_cons ?_;refine ZN ZJ ?_;rw[List.mem_cons]
  by_cases q:k=x
  ·subst q;simp
  ·refine ZN (show (k == x)=false from beq_false_of_ne q) ?_
   rw[ih];simp[q]
theorem KG {l:List (Nat×MV)}{k:Nat}{v:MV}(h:(l.map (·.1)).Nodup):((putN l k v).map (·.1)).Nodup:=by
 rw[HX]
 split
 ·exact h
 ·rename_i q
  refine List.nodup_append.mpr ?_;refine⟨h,by simp,λx hx y hy e=>q ?_⟩;rw[Zx hy]at e;refine keys_of_lookup.mpr ?_;refine ZN e.symm ?_;exact hx
theorem KH (W K:List Nat):nl (W++K)=nl W++nl K:=List.map_append
theorem JQ {U:MH}{i:Nat}{W:List Nat}{x:Nat}(h:U[i]? = some (.list (nl (W++[x])))):MetR U (some true) (.ref i) "pop" [] (iv x) (U.set i (.list (nl W))):=by
 have:=MetR.lpop (U:=U) i _ (iv x) h (by rw[KH];exact List.getLast?_concat);rwa [KH,show nl [x]=[iv x]from rfl,List.dropLast_concat]at this
theorem JR {U:MH}{i:Nat}{W K:List Nat}(h:U[i]? = some (.list (nl W)))(hb:W.length+K.length<=big):MetR U (some true) (.ref i) "extend" [.fl (nl K)] .none (U.set i (.list (nl (W++K)))):=by
 rw[KH];exact .extend i _ _ _ h rfl (by rw[AP,AP];exact hb)
theorem Mo {U:MH}{i:Nat}{W:List Nat}(h:U[i]? = some (.list (nl W))):((AO U (.ref i)).bind λl=>l.mapM MV.int?)=some (W.map λk:Nat=>(k:Int)):=by
 simp only[AO,h,Option.bind_some];exact BS W
theorem Mp {U:MH}{i:Nat}{W:List Nat}(h:U[i]? = some (.list (nl W))):CmpR U .ne (.ref i) (.fl []) (decide (W≠[])):=(CmpR.nel _ _ _ _ (Mo h) rfl).to (by cases W <;> rfl)
theorem FD {U:MH}{i:Nat}{o:MO}{l:List (Nat×MV)}(h:U[i]? = some o)(ho:IsD o l)(k:Nat):CmpR U .notin (iv k) (.ref i) (l.lookup k).isNone:=.nin k i o _ h (ho.get k)
section
variable {U:MH} {H:HV}
theorem L8 (h:HeapIs U H)(w:Wf H){a:Nat}(ha:a<H.rs.length)(n:Nat):∃ e R,run (n+6) "Grammar" "reached" [.obj "Grammar" 16,iv a] U (.fl (nl R)) (U++e)/\fd H.par a∈R/\(∀ x∈R,x<H.rs.length/\fd H.par x=x) /\
  (∀ (i:Nat) (r:Row),H.rs[i]? = some r->fd H.par i∈R->∀ j∈r.2,fd H.par j∈R)/\R.Nodup:=by
 have hpl:=w.parlen
 have n8:=w.n8
 have hfa:fd H.par a<H.rs.length:=by refine ZN hpl.symm ?_;exact Cv w.falls (by refine ZN hpl ?_;exact ha)
 have hm1:∀ e,HeapIs (U++e) H:=λe=>h.more e
 have e0:Ev (XX (n+5)) (.tup [.dict,.lst [.meth (.attr (.v "self") "heap") "find" [.v "c"]]]) [("c",iv a),("self",.obj "Grammar" 16)] U (.tup [.ref U.length,.ref (U.length+1)]) (U++[.ed,.list (nl [fd H.par a])]):=by
  have hh:=hm1 [.ed]
  have:=C8 (X:=XX (n+5)) (J:=[("c",iv a),("self",.obj "Grammar" 16)]) (AF (AW (o:=.attr (.v "self") "heap") (n:="find") (k:="Heap") (AT (S_v (n:="self") rfl) hh.h16 rfl) hh.h1 (AF (S_v (n:="c") rfl) AI) (DF hh w ha (n+3))) AI);simpa [nl]using (BR (AF (EZ (X:=XX (n+5)) (J:=[("c",iv a),("self",.obj "Grammar" 16)]) (U:=U)) (AF this AI)))
 let I:Nat->ME'->MH->Prop:=λm J U'=>∃ (o:MO) (S:List (Nat×MV)) (W:List Nat),U'=U++[o,.list (nl W)]/\IsD o S/\(S.map (·.1)).Nodup/\(∀ x,x∈S.map (·.1)\/x∈W->x<H.rs.length/\fd H.par x=x)/\(fd H.par a∈S.map (·.1)\/fd H.par a∈W) /\
  (∀ (i:Nat) (r:Row),H.rs[i]? = some r->fd H.par i∈S.map (·.1)->∀ j∈r.2,fd H.par j∈S.map (·.1)\/fd H.par j∈W)/\m=(8 - S.length) * 17+W.length/\m<=200 /\
  J.lookup "self"=some (.obj "Grammar" 16)/\J.lookup "seen"=some (.ref U.length)/\J.lookup "waiting"=some (.ref (U.length+1))
 have key:=λ{m0:Nat} {J0:ME'} {U0:MH}=>EB (X:=(XX (n+5))) (c:=(.cmp .ne (.v "waiting") (.flst []))) (b:=[
  .assign (.v "here") (.meth (.v "waiting") "pop" []),
  .ite (.cmp .notin (.v "here") (.v "seen")) [
   .assign (.idx (.v "seen") (.v "here")) (.c (.bool true)),
   .expr (.meth (.v "waiting") "extend" [.meth (.v "self") "kids" [.v "here"]])] []]) (m:=m0) (J:=J0) (U:=U0) I
  (λJ U'=>∃ (o:MO) (S:List (Nat×MV)),U'=U++[o,.list (nl [])]/\IsD o S/\(S.map (·.1)).Nodup/\(∀ x,x∈S.map (·.1)->x<H.rs.length/\fd H.par x=x)/\fd H.par a∈S.map (·.1) /\
   (∀ (i:Nat) (r:Row),H.rs[i]? = some r->fd H.par i∈S.map (·.1)->∀ j∈r.2,fd H.par j∈S.map (·.1))/\J.lookup "seen"=some (.ref U.length)) (by
  intro m J U' y3;obtain⟨o,S,W,rfl,ho,hnd,hlt,hfa',hcl,hm,hm2,l1,l2,l3⟩:=y3;have ec:Ev (XX (n+5)) (.cmp .ne (.v "waiting") (.flst [])) J (U++[o,.list (nl W)]) (.bool (decide (W≠[]))) (U++[o,.list (nl W)]):=Ap (S_v l3) (DZ AI) (Mp Mn)
  by_cases q:W=[]
  ·left
   subst q;refine⟨_,ec,o,S,rfl,ho,hnd,λx hx=>hlt x (.inl hx),?_,λi r hr hi j hj=>?_,l2⟩
   ·exact hfa'.elim id λz=>by cases z
   ·exact (hcl i r hr hi j hj).elim id λz=>by cases z
  ·right
   obtain⟨W',x,rfl⟩:∃ W' x,W=W'++[x]:=(eI2 W.dropLast (W.getLast q) ((List.dropLast_concat_getLast q).symm))
   refine⟨_,by have z:=ec;rw[decide_eq_true q]at z;exact z,?_⟩;have hx:=hlt x (.inr (by simp))
   have e1:Ev (XX (n+5)) (.meth (.v "waiting") "pop" []) J (U++[o,.list (nl (W'++[x]))]) (iv x) (U++[o,.list (nl W')]):=by
    have:=B0 (X:=XX (n+5)) (o:=.v "waiting") (n:="pop") (J:=J) (U:=U++[o,.list (nl (W'++[x]))]) (S_v l3) Mn AI (JQ (W:=W') (x:=x) Mn);rw[set1]at this;exact this
   have e2:Ev (XX (n+5)) (.cmp .notin (.v "here") (.v "seen")) (("here",iv x)::J) (U++[o,.list (nl W')]) (.bool (S.lookup x).isNone) (U++[o,.list (nl W')]):=Ap (S_v rfl) (S_v (by exact l2)) (FD DQ ho x)
   have wlen:(W'++[x]).length=W'.length+1:=by simp
   cases hs:S.lookup x with
   | some v =>
    rw[hs]at e2;have hxs:x∈S.map (·.1):=keys_of_lookup.mp (by refine ZN hs ?_;rfl);refine⟨.next,_,_,AJ (AS e1 P_v) (AJ (B5 e2 AY) AY),.inl rfl,(8 - S.length) * 17+W'.length,by refine ZN hm ?_;refine ZN wlen ?_;exact Nat.add_lt_add_left (Zo _) _,o,S,W',rfl,ho,hnd,λy hy=>hlt y (hy.imp id λz=>by simp[z]),?_,λi r hr hi j hj=>?_,rfl,by rw[hm,wlen]at hm2;exact Zl (Zd (Nat.add_lt_add_left (Zo _) _) hm2),l1,l2,l3⟩
    ·rcases hfa' with z | z
     ·exact .inl z
     ·rcases ZA z with z | z
      ·exact .inr z
      ·refine ZN (Zx z) ?_;exact .inl hxs
    ·rcases hcl i r hr hi j hj with z | z
     ·exact .inl z
     ·rcases ZA z with z | z
      ·exact .inr z
      ·refine ZN (Zx z) ?_;exact .inl hxs
   | none =>
    rw[hs]at e2;have hxs:x∉S.map (·.1):=λz=>by
     have:=keys_of_lookup.mpr z;rw[hs]at this;cases this
    have hlen8:S.length+1<=8:=by
     have h1:(S.map (·.1)++[x]).Nodup:=by
      refine List.nodup_append.mpr ?_;exact⟨hnd,by simp,λy hy z hz e=>hxs (by refine ZN (Zx hz).symm ?_;refine ZN e.symm ?_;exact hy)⟩
     have:=Dr (n:=H.rs.length) h1 λy hy=>by
      rcases ZA hy with z | z
      ·exact (hlt y (.inl z)).1
      ·refine ZN (Zx z) ?_;exact hx.1
     simp at this;exact Zc this n8
    refine eX1 (ho.set x (.bool true) (by unfold big;exact Ze (Zd (Zo _) hlen8) (Za rfl))) λo' zz=>aN4 zz λd1 d2 d3 d4=>?_
    have hkeys:(putN S x (.bool true)).map (·.1)=S.map (·.1)++[x]:=by rw[HX];refine ZN hs ?_;rfl
    obtain⟨K,k1,k2,k3⟩:=Oy (hm1 [o',.list (nl W')]) w hx.1 n;have e3:Xs (XX (n+5)) (.assign (.idx (.v "seen") (.v "here")) (.c (.bool true))) (("here",iv x)::J) (U++[o,.list (nl W')]) .next (("here",iv x)::J) (U++[o',.list (nl W')]):=by
     have:=AS (X:=XX (n+5)) (J:=("here",iv x)::J) (U:=U++[o,.list (nl W')]) (S_c (k:=.bool true)) (FQ (o:=.v "seen") (i:=.v "here") (S_v (by exact l2)) (S_v rfl) DQ d3 d4 d1);rw[set0]at this;exact this
    have e4:Xs (XX (n+5)) (.expr (.meth (.v "waiting") "extend" [.meth (.v "self") "kids" [.v "here"]])) (("here",iv x)::J) (U++[o',.list (nl W')]) .next (("here",iv x)::J) (U++[o',.list (nl (W'++K))]):=by
     have:=BN (X:=XX (n+5)) (J:=("here",iv x)::J) (B0 (o:=.v "waiting") (n:="extend") (U:=U++[o',.list (nl W')]) (S_v (by exact l3)) Mn (AF (AW (o:=.v "self") (n:="kids") (k:="Grammar") (S_v (n:="self") (by exact l1)) (hm1 [o',.list (nl W')]).h16 (AF (S_v (n:="here") rfl) AI) k1) AI) (JR (W:=W') (K:=K) Mn (by rw[hm,wlen]at hm2;unfold big;lia)));rw[set1]at this;exact this
    refine⟨.next,_,_,AJ (AS e1 P_v) (AJ (CT e2 (AJ e3 (AJ e4 AY))) AY),.inl rfl,(8 - (S.length+1)) * 17+(W'++K).length,by refine ZN hm ?_;refine ZN wlen ?_;refine ZN ZG ?_;lia,o',putN S x (.bool true),W'++K,rfl,d2,KG hnd,λy hy=>?_,?_,λi r hr hi j hj=>?_,?_,by rw[hm,wlen]at hm2;refine ZN ZG ?_;lia,l1,l2,l3⟩
    ·rw[hkeys]at hy
     rcases hy with z | z
     ·rcases ZA z with z | z
      ·exact hlt y (.inl z)
      ·refine ZN (Zx z) ?_;exact hx
     ·rcases ZA z with z | z
      ·exact hlt y (.inr (List.mem_append_left _ z))
      ·refine eX2 ((k2 y).mp z) λi r0 zz=>aN3 zz λh1 h2 zz=>eX1 zz λj zz=>aN2 zz λhj q7=>?_;subst q7
       have hjn:j<H.par.length:=by refine ZN hpl ?_;have:=(w.kids i r0 h1).2 j hj;have:=Al h1;lia
       exact⟨by refine ZN hpl.symm ?_;exact Cv w.falls hjn,Ew w.falls hjn⟩
    ·refine ZN hkeys ?_
     rcases hfa' with z | z
     ·exact .inl (List.mem_append_left _ z)
     ·rcases ZA z with z | z
      ·exact .inr (List.mem_append_left _ z)
      ·exact .inl (List.mem_append_right _ z)
    ·rw[hkeys]at hi ⊢
     rcases ZA hi with z | z
     ·rcases hcl i r hr z j hj with y | y
      ·exact .inl (List.mem_append_left _ y)
      ·rcases ZA y with y | y
       ·exact .inr (List.mem_append_left _ y)
       ·exact .inl (List.mem_append_right _ y)
     ·right
      refine List.mem_append_right _ ((k2 _).mpr (eI2 i r ⟨hr,?_,j,hj,rfl⟩));refine ZO (Zx z) ?_;rw[hx.2]
    ·have:(putN S x (.bool true)).length=S.length+1:=by
      have:=congrArg List.length hkeys;simpa using this
     rw[this])
 refine eX2 (key (m0:=_) (J0:=[("waiting",.ref (U.length+1)),("seen",.ref U.length),("c",iv a),("self",.obj "Grammar" 16)]) (U0:=(U++[.ed,.list (nl [fd H.par a])]))
  ⟨.ed,[],[fd H.par a],rfl,.inr ⟨rfl,rfl⟩,.nil,λx hx=>by
   rcases hx with z | z
   ·cases z
   ·refine ZN (Zx z) ?_;exact⟨hfa,Ew w.falls (by refine ZN hpl ?_;exact ha)⟩,.inr (.head _),(λi r hr hi=>by cases hi),rfl,(by simp),rfl,rfl,rfl⟩ (by show _<10000;simp)) λJ' U' zz=>aN2 zz λk1 zz=>eX2 zz λo S zz=>aN7 zz λq6 ho hnd hlt hfa' hcl l2=>?_;subst q6
 have hlen8:S.length<=8:=by
  have:=Dr (n:=H.rs.length) hnd λy hy=>(hlt y hy).1
  rw[ZF]at this;exact Zc this n8
 rcases ho with rfl | ⟨rfl,rfl⟩
 ·have hs:∀ k∈BJ B7 ((S.map λp=>((p.1:Int),p.2)).map (·.1)),∃ m:Nat,k=m:=λk hk=>by
   have:=(Bm _).mem_iff.mp hk;rw[List.map_map]at this;obtain⟨p,_,e⟩:=ZB this;exact⟨p.1,e.symm⟩
  obtain⟨R,hR⟩:=HY hs;have hRm:∀ x,x∈R↔x∈S.map (·.1):=λx=>by
   have:(x:Int)∈BJ B7 ((S.map λp=>((p.1:Int),p.2)).map (·.1))↔(x:Int)∈(S.map λp=>((p.1:Int),p.2)).map (·.1):=(Bm _).mem_iff;rw[hR,List.map_map]at this;constructor
   ·intro hx
    obtain⟨p,h1,h2⟩:=ZB (this.mp (ZC ⟨x,hx,rfl⟩));have h2:(p.1:Int)=x:=h2
    have:p.1=x:=Int.ofNat_inj.mp h2;refine ZN this.symm ?_;exact ZE h1
   ·intro hx
    obtain⟨p,h1,rfl⟩:=ZB hx;obtain⟨y,h3,h4⟩:=ZB (this.mpr (ZC ⟨p,h1,rfl⟩));have:y=p.1:=Int.ofNat_inj.mp h4;refine ZN this.symm ?_;exact h3
  have hRn:R.Nodup:=by
   have:(BJ B7 ((S.map λp=>((p.1:Int),p.2)).map (·.1))).Nodup:=by
    refine ((Bm _).nodup_iff).mpr ?_;refine ZN List.map_map ?_;rw[List.Nodup,List.pairwise_map]at hnd ⊢;exact hnd.imp λh e=>h (by have e:((_:Nat):Int)=((_:Nat):Int):=e;exact Int.ofNat_inj.mp e)
   rw[hR,List.Nodup]at this;replace this:=List.pairwise_map.mp this;exact this.imp λh e=>h (by rw[e])
  refine (eI2 _ R ⟨BC rfl rfl rfl (AJ (BY e0 rfl (Ao P_v (Ao P_v Cn))) (AJ (J1:=J') (U1:=U++[.idict (S.map λp=>((p.1:Int),p.2)),.list (nl [])]) ?_ (Ar (BB (Bg (AF (S_v l2) AI) ?_))))),(hRm _).mpr hfa',λx hx=>hlt x ((hRm x).mp hx),λi r hr hi j hj=>(hRm _).mpr (hcl i r hr ((hRm _).mp hi) j hj),hRn⟩)
  ·exact k1
  ·exact .inr (.inr (eI2 _ _ ⟨rfl,DQ,by rw[ZF];exact Zb hlen8 (Za rfl),by refine ZN hR ?_;refine ZN List.map_map ?_;rfl⟩))
 ·cases hfa'
end
theorem II {α:Type}{f g:α->Nat}:∀ {l:List α},(∀ x∈l,f x<=g x)->(l.map f).sum<=(l.map g).sum
 | [],_=>Zg _
 | x::l,h=>by
  refine ZN ZJ ?_;refine ZN ZJ ?_;refine ZN List.sum_cons ?_;refine ZN List.sum_cons ?_;have:=II (l:=l) λy hy=>h y (.tail _ hy)
  have:=h x (.head _);lia
theorem FU {α:Type}{f:α->Nat}:∀ {l:List α}{x:α},x∈l->f x<=(l.map f).sum
 | y::l,x,h=>by
  refine ZN ZJ ?_;refine ZN List.sum_cons ?_;rcases Zz h with rfl | h
  ·exact Zt _ _
  ·have:=FU (f:=f) h;exact Zc this (Zs _ _)
structure Kf (H:HV) (few:Nat->Nat):Prop where
 low:∀ (i:Nat) (r:Row),H.rs[i]? = some r->few (fd H.par i)<=1+(r.2.map λj=>few (fd H.par j)).sum
 att:∀ a,a<H.rs.length->∃ (i:Nat) (r:Row),H.rs[i]? = some r/\fd H.par i=fd H.par a/\few (fd H.par a)=1+(r.2.map λj=>few (fd H.par j)).sum
noncomputable abbrev gv (G:List (Nat×Nat)) (c:Nat):Nat:=(G.lookup c).getD 0
noncomputable def gF (G:List (Nat×Nat)):List (Nat×MV):=G.map λp=>(p.1,iv p.2)
noncomputable def C2 (G:List (Nat×Nat)) (k v:Nat):List (Nat×Nat):=if (G.lookup k).isSome then G.map λp=>if p.1=k then (k,v)else p else G++[(k,v)]
theorem Bu (G:List (Nat×Nat))(k:Nat):(gF G).lookup k=(G.lookup k).map iv:=by
 have:=Bh (f:=λn:Nat=>n) (g:=iv) (λx y e=>e) G k;exact this
theorem Mq (G:List (Nat×Nat))(k v:Nat):gF (C2 G k v)=putN (gF G) k (iv v):=by
 unfold C2 putN;rw[Bu];refine ZN Option.isSome_map ?_
 split
 ·unfold gF
  refine ZO List.map_map ?_;refine ZN List.map_map ?_;refine ZL λp _=>?_
  simp only[Function.comp]
  split <;> rfl
 ·simp[gF]
theorem Mr {a b:Nat}(h:iv a=iv b):a=b:=by injection h with h;exact Int.ofNat_inj.mp h
theorem Ds (G:List (Nat×Nat))(k v j:Nat):(C2 G k v).lookup j=if j=k then some v else G.lookup j:=by
 have h1:=JM (gF G) k (iv v) j;rw[<- Mq,Bu,Bu]at h1;cases q:(C2 G k v).lookup j with
 | none =>
  rw[q]at h1
  split at h1
  ·cases h1
  ·rename_i z
   refine ZN (if_neg z) ?_;cases q2:G.lookup j with
   | none=>rfl
   | some x=>rw[q2]at h1;cases h1
 | some y =>
  rw[q]at h1
  split at h1
  ·rename_i z
   refine ZN (if_pos z) ?_;rw[Mr (Option.some.inj h1)]
  ·rename_i z
   refine ZN (if_neg z) ?_;cases q2:G.lookup j with
   | none=>rw[q2]at h1;cases h1
   | some x=>rw[q2]at h1;rw[Mr (Option.some.inj h1)]
theorem H4 (G:List (Nat×Nat))(k v:Nat):(C2 G k v).map (·.1)=if (G.lookup k).isSome then G.map (·.1)else G.map (·.1)++[k]:=by
 unfold C2
 split
 ·refine ZO List.map_map ?_
  refine ZL λp _=>?_
  show (if p.1=k then (k,v)else p).1=p.1
  split
  ·rename_i e;exact e.symm
  ·rfl
 ·simp
theorem keysG {G:List (Nat×Nat)}{k:Nat}:(G.lookup k).isSome=true↔k∈G.map (·.1):=by
 have:=keys_of_lookup (l:=gF G) (k:=k);rw[Bu,Option.isSome_map]at this;rw[this];unfold gF;refine ZN List.map_map ?_;rfl
theorem Cz {G:List (Nat×Nat)}{k v:Nat}(h:G.lookup k=some v):(k,v)∈G:=by
 induction G with
 | nil=>cases h
 | cons p G ih =>
  obtain⟨x,y⟩:=p;replace h:=ZO List.lookup_cons.symm h
  split at h
  ·rename_i e;cases h;refine ZN (beq_iff_eq.mp e) ?_;exact .head _
  ·exact .tail _ (ih h)
theorem JS {G:List (Nat×Nat)}(hn:(G.map (·.1)).Nodup){k v:Nat}(h:(k,v)∈G):G.lookup k=some v:=by
 induction G with
 | nil=>cases h
 | cons p G ih =>
  obtain⟨x,y⟩:=p;rw[ZJ]at hn;replace hn:=List.nodup_cons.mp hn;refine ZN List.lookup_cons ?_;rcases Zz h with e | h
  ·cases e;simp
  ·have:k≠x:=λe=>hn.1 (by refine ZN e.symm ?_;exact ZC ⟨(k,v),h,rfl⟩)
   refine ZN (show (k == x)=false from beq_false_of_ne this) ?_;exact ih hn.2 h
theorem Ms {G:List (Nat×Nat)}(hn:(G.map (·.1)).Nodup){k v u:Nat}(h:G.lookup k=some u):((C2 G k v).map (·.2)).sum+u=(G.map (·.2)).sum+v:=by
 unfold C2;rw[if_pos (by rw[h];rfl)]
 induction G with
 | nil=>cases h
 | cons p G ih =>
  obtain⟨x,y⟩:=p;rw[ZJ]at hn;replace hn:=List.nodup_cons.mp hn;replace h:=ZO List.lookup_cons.symm h
  split at h
  ·rename_i e
   cases h;have e:=beq_iff_eq.mp e;subst e;have:G.map (λp=>if p.1=k then (k,v)else p)=G:=by
    refine (ZL λp hp=>?_).trans (List.map_id G);have hne:¬ p.1=k:=λe=>hn.1 (by refine ZN e.symm ?_;exact ZC ⟨p,hp,rfl⟩)
    refine ZN (if_neg hne) ?_;rfl
   rw[ZJ];refine ZN this ?_;simp;lia
  ·rename_i e
   have q:¬ x=k:=λz=>by subst z;simp at e
   have:=ih hn.2 h;rw[ZJ];refine ZN (if_neg q) ?_;refine ZN ZJ ?_;refine ZN List.sum_cons ?_;refine ZN ZJ ?_;refine ZN List.sum_cons ?_;lia
structure GInv (H:HV) (R:List Nat) (G:List (Nat×Nat)):Prop where
 nd:(G.map (·.1)).Nodup
 sub:∀ p∈G,p.1∈R
 bnd:∀ p∈G,p.2<2 ^ G.length
 just:∀ c v,G.lookup c=some v->∃ (i:Nat) (r:Row),H.rs[i]? = some r/\fd H.par i=c/\(∀ j∈r.2,(G.lookup (fd H.par j)).isSome=true)/\1+(r.2.map λj=>gv G (fd H.par j)).sum<=v
noncomputable def GM (G:List (Nat×Nat)):Nat:=(8 - G.length) * 300+(G.map (·.2)).sum
noncomputable def F6 (G:List (Nat×Nat)) (c:Nat) (ks:List Nat):Prop:=(∀ k∈ks,(G.lookup k).isSome=true)->∃ v,G.lookup c=some v/\v<=1+(ks.map (gv G)).sum
theorem GInv.len {H:HV}{R:List Nat}{G:List (Nat×Nat)}(I:GInv H R G)(hR:∀ x∈R,x<8):G.length<=8:=by
 have:=Dr (n:=8) I.nd λy hy=>by
  refine eX1 (ZB hy) λp zz=>aN2 zz λhp q3=>?_;subst q3
  exact hR _ (I.sub p hp)
 rwa [ZF]at this
theorem GInv.put {H:HV}{R:List Nat}{G:List (Nat×Nat)}(I:GInv H R G)(hR:∀ x∈R,x<8){i:Nat}{r:Row}(hr:H.rs[i]? = some r)(hl:r.2.length<=2)(hc:fd H.par i∈R)(hk:∀ j∈r.2,(G.lookup (fd H.par j)).isSome=true)
  (hb:∀ u,G.lookup (fd H.par i)=some u->1+(r.2.map λj=>gv G (fd H.par j)).sum<u) :
  GInv H R (C2 G (fd H.par i) (1+(r.2.map λj=>gv G (fd H.par j)).sum))/\GM (C2 G (fd H.par i) (1+(r.2.map λj=>gv G (fd H.par j)).sum))<GM G:=by
 generalize hv:1+(r.2.map λj=>gv G (fd H.par j)).sum=v at *;have hle:∀ k u,G.lookup k=some u->∃ u',(C2 G (fd H.par i) v).lookup k=some u'/\u'<=u:=λk u hu=>by
  rw[Ds]
  by_cases q:k=fd H.par i
  ·refine ZN (if_pos q) ?_
   exact⟨v,rfl,Zl (hb u (by refine ZN q.symm ?_;exact hu))⟩
  ·refine ZN (if_neg q) ?_;exact⟨u,hu,Zg _⟩
 have hsum:∀ r0:Row,(∀ j∈r0.2,(G.lookup (fd H.par j)).isSome=true)->(∀ j∈r0.2,((C2 G (fd H.par i) v).lookup (fd H.par j)).isSome=true)/\(r0.2.map λj=>gv (C2 G (fd H.par i) v) (fd H.par j)).sum<=(r0.2.map λj=>gv G (fd H.par j)).sum:=λr0 h0=>by
  refine⟨λj hj=>?_,II λj hj=>?_⟩
  ·obtain⟨u,hu⟩:=Option.isSome_iff_exists.mp (h0 j hj)
   refine eX1 (hle _ u hu) λu' zz=>aN2 zz λh1 _=>?_
   refine ZN h1 ?_;rfl
  ·obtain⟨u,hu⟩:=Option.isSome_iff_exists.mp (h0 j hj)
   refine eX1 (hle _ u hu) λu' zz=>aN2 zz λh1 h2=>?_
   unfold gv;refine ZN h1 ?_;refine ZN hu ?_;exact h2
 have hjust:∀ c u,(C2 G (fd H.par i) v).lookup c=some u->∃ (i':Nat) (r':Row),H.rs[i']? = some r'/\fd H.par i'=c/\(∀ j∈r'.2,((C2 G (fd H.par i) v).lookup (fd H.par j)).isSome=true)/\1+(r'.2.map λj=>gv (C2 G (fd H.par i) v) (fd H.par j)).sum<=u:=λc u hu=>by
  rw[Ds]at hu
  split at hu
  ·rename_i q
   cases hu;obtain⟨h1,h2⟩:=hsum r hk;exact (eI2 i r ⟨hr,q.symm,h1,le_of_le_of_eq (Nat.add_le_add_left h2 _) hv⟩)
  ·refine eX2 (I.just c u hu) λi' r' zz=>aN4 zz λh1 h2 h3 h4=>?_
   obtain⟨h5,h6⟩:=hsum r' h3;exact (eI2 i' r' ⟨h1,h2,h5,Zc (Nat.add_le_add_left h6 _) h4⟩)
 have hpow:∀ j∈r.2,gv G (fd H.par j)<2 ^ G.length:=λj hj=>by
  obtain⟨u,hu⟩:=Option.isSome_iff_exists.mp (hk j hj);unfold gv;refine ZN hu ?_;exact I.bnd _ (Cz hu)
 have hv2:v<2 ^ (G.length+1):=by
  have:∀ l:List Nat,l.length<=2->(∀ j∈l,gv G (fd H.par j)<2 ^ G.length)->1+(l.map λj=>gv G (fd H.par j)).sum<2 ^ (G.length+1):=by
   intro l hl h;have hp:0<2 ^ G.length:=Nat.two_pow_pos _;rw[Nat.pow_succ]
   match l,hl with
   | [],_=>simp;lia
   | [x],_=>have:=h x (.head _);simp;lia
   | [x,y],_ =>
    have:=h x (.head _)
    have:=h y (.tail _ (.head _));simp;lia
  refine ZN hv.symm ?_;exact this r.2 hl hpow
 cases q:G.lookup (fd H.par i)with
 | some u =>
  have hu:=hb u q
  have hkeys:(C2 G (fd H.par i) v).map (·.1)=G.map (·.1):=by rw[H4];refine ZN q ?_;rfl
  have hlen:(C2 G (fd H.par i) v).length=G.length:=by have:=congrArg List.length hkeys;simpa using this
  refine⟨⟨by refine ZN hkeys ?_;exact I.nd,λp hp=>?_,λp hp=>?_,hjust⟩,?_⟩
  ·have:p.1∈(C2 G (fd H.par i) v).map (·.1):=ZE hp
   rw[hkeys]at this;refine eX1 (ZB this) λp' zz=>aN2 zz λh1 h2=>?_
   refine ZN h2.symm ?_;exact I.sub p' h1
  ·refine ZN hlen ?_
   have hl:=JS (by refine ZN hkeys ?_;exact I.nd) (show (p.1,p.2)∈C2 G (fd H.par i) v from hp);rw[Ds]at hl
   split at hl
   ·have:=I.bnd _ (Cz q)
    have e:=Option.some.inj hl;dsimp only at this;exact Ze (lt_of_eq_of_lt e.symm hu) this
   ·exact I.bnd _ (Cz hl)
  ·have:=Ms I.nd (v:=v) q
   unfold GM;refine ZN hlen ?_;lia
 | none =>
  have hkeys:(C2 G (fd H.par i) v).map (·.1)=G.map (·.1)++[fd H.par i]:=by rw[H4];refine ZN q ?_;rfl
  have e:C2 G (fd H.par i) v=G++[(fd H.par i,v)]:=by unfold C2;refine ZN q ?_;rfl
  have hni:fd H.par i∉G.map (·.1):=λz=>by
   have:=keysG.mpr z;rw[q]at this;cases this
  have hnd:((C2 G (fd H.par i) v).map (·.1)).Nodup:=by
   refine ZN hkeys ?_;refine List.nodup_append.mpr ?_;exact⟨I.nd,by simp,λx hx y hy e=>hni (by refine ZN (Zx hy).symm ?_;refine ZN e.symm ?_;exact hx)⟩
  have hlen:(C2 G (fd H.par i) v).length=G.length+1:=by refine ZN e ?_;simp
  have hsub:∀ p∈C2 G (fd H.par i) v,p.1∈R:=λp hp=>by
   rw[e]at hp;rcases ZA hp with z | z
   ·exact I.sub p z
   ·refine ZN (Zx z) ?_;exact hc
  have hl8:G.length+1<=8:=by
   have:=Dr (n:=8) hnd λy hy=>by
    refine eX1 (ZB hy) λp zz=>aN2 zz λhp q3=>?_;subst q3
    exact hR _ (hsub p hp)
   rw[ZF,hlen]at this;exact this
  refine⟨⟨hnd,hsub,λp hp=>?_,hjust⟩,?_⟩
  ·refine ZN hlen ?_
   rw[e]at hp;rcases ZA hp with z | z
   ·have:=I.bnd p z
    lia
   ·refine ZN (Zx z) ?_;exact hv2
  ·unfold GM
   refine ZN hlen ?_;refine ZN e ?_;have h2:2 ^ (G.length+1)<=2 ^ 8:=Nat.pow_le_pow_right (by decide) hl8
   have h3:(2:Nat) ^ 8=256:=by decide
   simp;lia
theorem Mt {H:HV}{R:List Nat}{G:List (Nat×Nat)}(I:GInv H R G)(hcl:∀ (i:Nat)(r:Row),H.rs[i]? = some r->fd H.par i∈R->∀ j∈r.2,fd H.par j∈R)
  (hfix:∀ (i:Nat) (r:Row),H.rs[i]? = some r->fd H.par i∈R->F6 G (fd H.par i) (r.2.map (fd H.par))) {few:Nat->Nat} (L:Kf H few) {a:Nat} (ha:a<H.rs.length) (hR:fd H.par a∈R)
  (hk:∀ (i:Nat) (r:Row),H.rs[i]? = some r->∀ j∈r.2,j<H.rs.length) :
  G.lookup (fd H.par a)=some (few (fd H.par a)):=by
 have lower:∀ v c,G.lookup c=some v->few c<=v:=by
  intro v
  induction v using Nat.strongRecOn with
  | _ v ih =>
   intro c hc;refine eX2 (I.just c v hc) λi r zz=>aN4 zz λh1 q4 h3 h4=>?_;subst q4
   have h5:=L.low i r h1
   have:(r.2.map λj=>few (fd H.par j)).sum<=(r.2.map λj=>gv G (fd H.par j)).sum:=II λj hj=>by
    obtain⟨u,hu⟩:=Option.isSome_iff_exists.mp (h3 j hj);have hle:=FU (f:=λj=>gv G (fd H.par j)) hj
    have e:gv G (fd H.par j)=u:=by unfold gv;refine ZN hu ?_;rfl
    refine ZN e ?_;exact ih u (by lia) _ hu
   exact Zc (Zc h5 (Nat.add_le_add_left this _)) h4
 have upper:∀ s a,a<H.rs.length->fd H.par a∈R->few (fd H.par a)=s->∃ v,G.lookup (fd H.par a)=some v/\v<=s:=by
  intro s
  induction s using Nat.strongRecOn with
  | _ s ih =>
   intro a ha hR hs;refine eX2 (L.att a ha) λi r zz=>aN3 zz λh1 h2 h3=>?_
   have hiR:fd H.par i∈R:=by refine ZN h2 ?_;exact hR
   have hkid:∀ j∈r.2,∃ v,G.lookup (fd H.par j)=some v/\v<=few (fd H.par j):=λj hj=>by
    have:=FU (f:=λj=>few (fd H.par j)) hj;exact ih (few (fd H.par j)) (by lia) j (hk i r h1 j hj) (hcl i r h1 hiR j hj) rfl
   refine eX1 (hfix i r h1 hiR λk hk=>by
    obtain⟨j,hj,rfl⟩:=ZB hk;obtain⟨v,hv,_⟩:=hkid j hj;refine ZN hv ?_;rfl) λv zz=>aN2 zz λh4 h5=>?_
   rw[h2]at h4;refine⟨v,h4,?_⟩;have:((r.2.map (fd H.par)).map (gv G)).sum<=(r.2.map λj=>few (fd H.par j)).sum:=by
    refine ZN List.map_map ?_;exact II λj hj=>by
     refine eX1 (hkid j hj) λv zz=>aN2 zz λhv hle=>?_
     show gv G (fd H.par j)<=_;unfold gv;refine ZN hv ?_;exact hle
   lia
 refine eX1 (upper _ a ha hR rfl) λv zz=>aN2 zz λh1 h2=>?_
 have:=lower v _ h1;refine ZN h1 ?_
 congr 1
 exact Zv h2 this
noncomputable def Mu:ME:=.cmp .eq (.comp (.v "kid") (.v "kid") .it (.from1 (.v "node")) [.cmp .notin (.v "kid") (.v "found")]) (.flst [])
noncomputable def OS:ME:=.call (.v "over") [.comp (.idx (.v "found") (.v "kid")) (.v "kid") .it (.from1 (.v "node")) []]
noncomputable def Ge:ME:=.or (.cmp .notin (.v "here") (.v "found")) (.cmp .lt (.v "value") (.idx (.v "found") (.v "here")))
noncomputable def Fp:List MS:=[.ite Mu [.assign (.v "value") OS,.ite Ge [.unpack [.idx (.v "found") (.v "here"),.v "is_new"] (.tup [.v "value",.c (.bool true)])] []] []]
noncomputable def IJ:List MS:=[.for (.v "node") .it (.meth (.attr (.v "self") "heap") "nodes_of" [.v "here"]) Fp]
noncomputable def Kg:List MS:=[.assign (.v "is_new") (.c (.bool false)),.for (.v "here") .it (.v "some") IJ]
theorem JT:ir_Grammar_least=⟨["self","c","over"],[.unpack [.v "found",.v "some",.v "is_new"] (.tup [.dict,.meth (.v "self") "reached" [.v "c"],.c (.bool true)]),.while (.v "is_new") Kg,
 .ret (.idx (.v "found") (.meth (.attr (.v "self") "heap") "find" [.v "c"]))]⟩:=rfl
theorem Kh {X:CK}{J:ME'}{U U1:MH}{cd iter:ME}{n:String}{x:MV}{l:List Nat}{q:Nat->Bool}(h1:Ev X iter J U x U1)(h2:iter2 U1 .it x=some (nl l))(h3:∀ k∈l,Ev X cd ((n,iv k)::without J [".0",n]) U1 (.bool (q k)) U1)(hn:l.length<X.turns)(hb:l.length<=big) :
  Ev X (.comp (.v n) (.v n) .it iter [cd]) J U (.fl (nl (l.filter q))) U1:=by
 have:=JL (X:=X) (elt:=.v n) (cd:=cd) (n:=n) (k:=.it) (g:=λy=>y) (p:=λx=>match x with | .int i=>q i.toNat | _=>false) h1 h2 (λy hy=>?_) (λy hy _=>S_v (by simp)) (by rw[AP];exact hn) (by rw[AP];exact hb)
 ·have e:nl (l.filter q)=((nl l).filter (λx=>match x with | .int i=>q i.toNat | _=>false)).map λy=>y:=by
   rw[List.map_id'];unfold nl;refine ZN List.filter_map ?_
   congr 1
  refine ZN e ?_;exact this
 ·obtain⟨k,hk,rfl⟩:=ZB hy
  exact h3 k hk
theorem JU {U:MH}{l:List Nat}:CmpR U .eq (.fl (nl l)) (.fl []) (decide (l=[])):=(CmpR.eql (.fl (nl l)) (.fl []) _ [] (BS l) rfl).to (by cases l <;> rfl)
theorem CW {U:MH}(a b:Nat):CmpR U .lt (iv a) (iv b) (decide (a<b)):=(CmpR.lti a b).to (decide_eq_decide.mpr Int.ofNat_lt)
structure HD (U:MH) (a:Nat) (R:List Nat) (J:ME') (flag:Bool):Prop where
 self:J.lookup "self"=some (.obj "Grammar" 16)
 found:J.lookup "found"=some (.ref U.length)
 new:J.lookup "is_new"=some (.bool flag)
 over:J.lookup "over"=some (.fn "" "size_over")
 c:J.lookup "c"=some (iv a)
 some:J.lookup "some"=some (.fl (nl R))
section
variable {U:MH} {H:HV}
theorem Mv (w:Wf H){R:List Nat}(hR:∀ x∈R,x<8){a:Nat}{n:Nat}{e:MH}{o:MO}{G:List (Nat×Nat)}(ho:IsD o (gF G))(I:GInv H R G){i:Nat}{r:Row}(hr:H.rs[i]? = some r)(hc:fd H.par i∈R){J:ME'}{flag:Bool}(E:HD U a R J flag)(hh:J.lookup "here"=some (iv (fd H.par i))) :
  ∃ J' o' G' flag',Xl (XX (n+6)) Fp (("node",rmv (Bj H.par r))::J) (U++o::e) .next J' (U++o'::e)/\IsD o' (gF G')/\GInv H R G'/\HD U a R J' flag'/\J'.lookup "here"=some (iv (fd H.par i)) /\
   ((flag'=flag/\G'=G/\F6 G (fd H.par i) (r.2.map (fd H.par)))\/(flag'=true/\GM G'<GM G)):=by
 obtain⟨k1,k2⟩:=w.kids i r hr;have hlen:(r.2.map (fd H.par)).length<=2:=by rw[ZF];exact k1
 have hnode:Ev (XX (n+6)) (.from1 (.v "node")) (("node",rmv (Bj H.par r))::J) (U++o::e) (.tup (nl (r.2.map (fd H.par)))) (U++o::e) :=
  CL (l:=.str r.1::nl (r.2.map (fd H.par))) (S_v rfl) ⟨by simp,by refine ZN List.length_cons ?_;rw[AP];unfold big;exact Zw (Zb hlen (Za rfl))⟩
 have hcond:Ev (XX (n+6)) Mu (("node",rmv (Bj H.par r))::J) (U++o::e) (.bool (decide ((r.2.map (fd H.par)).filter (λk=>(G.lookup k).isNone)=[]))) (U++o::e):=by
  refine Ap (Kh (l:=r.2.map (fd H.par)) (q:=λk=>(G.lookup k).isNone) hnode BK (λk hk=>?_) (by show _<10000;exact Zb hlen (Za rfl)) (by unfold big;exact Zc hlen (Za rfl))) (DZ AI) JU;refine Ap (S_v (n:="kid") (v:=iv k) (rfl)) (S_v (n:="found") (v:=.ref U.length) ?_) ?_
  ·refine ZO List.lookup_cons ?_;refine ZN (show ("found" == "kid")=false from by decide) ?_
   dsimp only;refine ZO (Co (by decide)) ?_;exact E.found
  ·exact (FD DQ ho k).to (by rw[Bu];exact Option.isNone_map)
 by_cases q:(r.2.map (fd H.par)).filter (λk=>(G.lookup k).isNone)=[]
 ·have hk:∀ j∈r.2,(G.lookup (fd H.par j)).isSome=true:=λj hj=>by
   replace q:=List.filter_eq_nil_iff.mp q;have:=q (fd H.par j) (ZE hj);cases z:G.lookup (fd H.par j)with
   | none=>rw[z]at this;exact absurd rfl this
   | some=>rfl
  have hbnd:∀ x∈(r.2.map (fd H.par)).map (gv G),x<2 ^ 40:=λx hx=>by
   obtain⟨k,hk',rfl⟩:=ZB hx;obtain⟨j,hj,rfl⟩:=ZB hk';obtain⟨u,hu⟩:=Option.isSome_iff_exists.mp (hk j hj);unfold gv;refine ZN hu ?_;have h1:=I.bnd _ (Cz hu)
   have h2:2 ^ G.length<=2 ^ 8:=Nat.pow_le_pow_right (by decide) (I.len hR)
   have h3:(2:Nat) ^ 8<2 ^ 40:=by decide
   show u<2 ^ 40;dsimp only at h1;exact Ze (Zd h1 h2) h3
  have hsum:1+(((r.2.map (fd H.par)).map (gv G)).sum)=1+(r.2.map λj=>gv G (fd H.par j)).sum:=by refine ZN List.map_map ?_;rfl
  have hval:Ev (XX (n+6)) OS (("node",rmv (Bj H.par r))::J) (U++o::e) (iv (1+(r.2.map λj=>gv G (fd H.par j)).sum)) (U++o::e):=by
   refine ZN hsum.symm ?_;refine Bc (k:="") (n:="size_over") (S_v (n:="over") ?_) (AF (D0 (l:=r.2.map (fd H.par)) (f:=gv G) hnode BK (λk hk'=>?_) (by show _<10000;exact Zb hlen (Za rfl)) (by unfold big;exact Zc hlen (Za rfl))) AI) (IH (by rw[ZF];exact Zc hlen (Za rfl)) hbnd (n+5))
   ·exact E.over
   ·obtain⟨j,hj,rfl⟩:=ZB hk'
    obtain⟨u,hu⟩:=Option.isSome_iff_exists.mp (hk j hj);refine An (S_v (n:="found") (v:=.ref U.length) ?_) (S_v (n:="kid") (v:=iv (fd H.par j)) (rfl)) (FA DQ ho ?_)
    ·refine ZO List.lookup_cons ?_;refine ZN (show ("found" == "kid")=false from by decide) ?_
     dsimp only;refine ZO (Co (by decide)) ?_;exact E.found
    ·rw[Bu]
     unfold gv;refine ZN hu ?_;rfl
  generalize hv:1+(r.2.map λj=>gv G (fd H.par j)).sum=v at *;have l1:(("value",iv v)::("node",rmv (Bj H.par r))::J).lookup "here"=some (iv (fd H.par i)):=hh
  have l2:(("value",iv v)::("node",rmv (Bj H.par r))::J).lookup "found"=some (.ref U.length):=E.found
  have b1:Ev (XX (n+6)) (.cmp .notin (.v "here") (.v "found")) (("value",iv v)::("node",rmv (Bj H.par r))::J) (U++o::e) (.bool (G.lookup (fd H.par i)).isNone) (U++o::e):=by
   refine Ap (S_v l1) (S_v l2) ?_;exact (FD DQ ho _).to (by rw[Bu];exact Option.isNone_map)
  have improve:(∀ u,G.lookup (fd H.par i)=some u->v<u)->Ev (XX (n+6)) Ge (("value",iv v)::("node",rmv (Bj H.par r))::J) (U++o::e) (.bool true) (U++o::e) ->
    ∃ J' o' G' flag',Xl (XX (n+6)) Fp (("node",rmv (Bj H.par r))::J) (U++o::e) .next J' (U++o'::e)/\IsD o' (gF G')/\GInv H R G'/\HD U a R J' flag'/\J'.lookup "here"=some (iv (fd H.par i)) /\
     ((flag'=flag/\G'=G/\F6 G (fd H.par i) (r.2.map (fd H.par)))\/(flag'=true/\GM G'<GM G)):=λhb hbt=>by
   obtain⟨p1,p2⟩:=I.put hR hr k1 hc hk (by refine ZN hv ?_;exact hb);rw[hv]at p1 p2;refine eX1 (ho.set (fd H.par i) (iv v) (by unfold gF;rw[ZF];have:=I.len hR;unfold big;exact Zb this (Za rfl))) λo' zz=>aN4 zz λd1 d2 d3 d4=>?_
   rw[<- Mq]at d2;have hst:Sts (XX (n+6)) [.idx (.v "found") (.v "here"),.v "is_new"] [iv v,.bool true] (("value",iv v)::("node",rmv (Bj H.par r))::J) (U++o::e) (("is_new",.bool true)::("value",iv v)::("node",rmv (Bj H.par r))::J) (U++o'::e):=by
    have:=Ao (X:=XX (n+6)) (FQ (o:=.v "found") (i:=.v "here") (U:=U++o::e) (S_v l2) (S_v l1) DQ d3 d4 d1) (Ao (P_v (n:="is_new") (v:=.bool true)) Cn);rw[set0]at this;exact this
   refine⟨_,o',_,true,AJ (CT (by have z:=hcond;rw[decide_eq_true q]at z;exact z) (AJ (AS hval P_v) (AJ (CT hbt (AJ (BY (BR (AF (S_v rfl) (AF S_c AI))) rfl hst) AY)) AY))) AY,d2,p1,⟨E.self,E.found,rfl,E.over,E.c,E.some⟩,hh,.inr ⟨rfl,p2⟩⟩
  cases z:G.lookup (fd H.par i)with
  | none =>
   rw[z]at b1;exact improve (λu hu=>by replace hu:=ZO z.symm hu;cases hu) (OP b1)
  | some u =>
   rw[z]at b1;have b2:Ev (XX (n+6)) Ge (("value",iv v)::("node",rmv (Bj H.par r))::J) (U++o::e) (.bool (decide (v<u))) (U++o::e) :=
    G7 b1 (Ap (S_v rfl) (An (S_v l2) (S_v l1) (FA (v:=iv u) DQ ho (by rw[Bu];refine ZN z ?_;rfl))) (CW _ _))
   by_cases hlt:v<u
   ·exact improve (λu' hu=>by replace hu:=ZO z.symm hu;cases hu;exact hlt) (by have z:=b2;rw[decide_eq_true hlt]at z;exact z)
   ·rw[decide_eq_false hlt]at b2
    refine⟨_,o,G,flag,AJ (CT (by have z:=hcond;rw[decide_eq_true q]at z;exact z) (AJ (AS hval P_v) (AJ (B5 b2 AY) AY))) AY,ho,I,(⟨E.self,E.found,E.new,E.over,E.c,E.some⟩),hh,.inl ⟨rfl,rfl,λ_=>⟨u,z,?_⟩⟩⟩;exact le_of_le_of_eq (Zn hlt) hsum.symm
 ·refine⟨_,o,G,flag,AJ (B5 (by have z:=hcond;rw[decide_eq_false q]at z;exact z) AY) AY,ho,I,⟨E.self,E.found,E.new,E.over,E.c,E.some⟩,hh,.inl ⟨rfl,rfl,λhk=>absurd ?_ q⟩⟩
  refine List.filter_eq_nil_iff.mpr ?_;intro k hk';have:=hk k hk';cases z:G.lookup k with
  | none=>rw[z]at this;cases this
  | some=>simp
end
section
variable {U:MH} {H:HV}
theorem Oz (h:HeapIs U H)(w:Wf H){R:List Nat}(hR:∀ x∈R,x<H.rs.length/\fd H.par x=x){a:Nat}{n:Nat}{e:MH}{o:MO}{G:List (Nat×Nat)}(ho:IsD o (gF G))(I:GInv H R G){c:Nat}(hc:c∈R){J:ME'}{flag:Bool}(E:HD U a R J flag)(hh:J.lookup "here"=some (iv c)) :
  ∃ J' o' G' flag',Xl (XX (n+6)) IJ J (U++o::e) .next J' (U++o'::e)/\IsD o' (gF G')/\GInv H R G'/\HD U a R J' flag' /\
   ((flag'=flag/\G'=G/\∀ (i:Nat) (r:Row),H.rs[i]? = some r->fd H.par i=c->F6 G c (r.2.map (fd H.par)))\/(flag'=true/\GM G'<GM G)):=by
 have n8:=w.n8
 have hR8:∀ x∈R,x<8:=λx hx=>by have:=(hR x hx).1;exact Zd this n8
 obtain⟨hc1,hc2⟩:=hR c hc;have hm:=h.more (o::e);refine eX1 (Gc hm w hc1 (n+2)) λL zz=>aN3 zz λL1 L2 L3=>?_
 rw[hc2]at L2;have e1:Ev (XX (n+6)) (.meth (.attr (.v "self") "heap") "nodes_of" [.v "here"]) J (U++o::e) (.fl (L.map rmv)) (U++o::e) :=
  AW (k:="Heap") (AT (S_v E.self) hm.h16 rfl) hm.h1 (AF (S_v hh) AI) L1
 refine eX2 (Eu (X:=XX (n+6)) (t:=.v "node") (k:=.it) (b:=Fp) (l:=L.map rmv) (λi J U'=>∃ o' G' flag',U'=U++o'::e/\IsD o' (gF G')/\GInv H R G'/\HD U a R J flag'/\J.lookup "here"=some (iv c) /\
   ((flag'=flag/\G'=G/\∀ r∈L.take i,F6 G c r.2)\/(flag'=true/\GM G'<GM G))) e1 (λi J U' _ _=>Cx) (by
  intro i y J U' hy y5;obtain⟨o',G',flag',rfl,k2,k3,k4,k5,k6⟩:=y5;replace hy:=ZO (ZH).symm hy;obtain⟨r,hr,rfl⟩:=ZD hy;refine eX2 ((L2 r).mp (Zy hr)) λi' r0 zz=>aN3 zz λq1 q2 q5=>?_;subst q5
  subst q2;refine eX4 (Mv (n:=n) (e:=e) w hR8 k2 k3 q1 hc k4 k5) λJ2 o2 G2 flag2 zz=>aN6 zz λs1 s2 s3 s4 s5 s6=>?_
  refine⟨_,.next,J2,_,rfl,s1,.inl rfl,o2,G2,flag2,rfl,s2,s3,s4,s5,?_⟩;have ht:L.take (i+1)=L.take i++[Bj H.par r0]:=by refine ZO List.take_add_one ?_;refine ZN hr ?_;rfl
  rcases k6 with z0 | ⟨rfl,k7⟩
  ·obtain⟨rfl,rfl,k7⟩:=z0
   rcases s6 with ⟨rfl,rfl,s7⟩ | ⟨rfl,s7⟩
   ·refine .inl ⟨rfl,rfl,λr hr=>?_⟩
    rw[ht]at hr;rcases ZA hr with z | z
    ·exact k7 r z
    ·refine ZN (Zx z) ?_;exact s7
   ·exact .inr ⟨rfl,s7⟩
  ·rcases s6 with z0 | ⟨rfl,s7⟩
   ·obtain⟨rfl,rfl,s7⟩:=z0
    exact .inr ⟨rfl,k7⟩
   ·exact .inr ⟨rfl,Ze s7 k7⟩) ⟨o,G,flag,rfl,ho,I,E,hh,.inl ⟨rfl,rfl,λr hr=>by simp at hr⟩⟩ (by rw[ZF];show _<10000;exact Zb L3 (Za rfl))) λJ' U' zz=>aN2 zz λk1 zz=>eX3 zz λo' G' flag' zz=>aN6 zz λq7 k2 k3 k4 k5 k6=>?_;subst q7
 refine⟨J',o',G',flag',AJ k1 AY,k2,k3,k4,?_⟩;rcases k6 with z0 | q
 ·obtain⟨q1,q2,q3⟩:=z0
  refine .inl ⟨q1,q2,λi r hr hi=>?_⟩;rw[ZF,List.take_length]at q3;exact q3 _ ((L2 _).mpr (eI2 i r ⟨hr,hi,rfl⟩))
 ·exact .inr q
theorem No (h:HeapIs U H)(w:Wf H){few:Nat->Nat}(Lf:Kf H few){a:Nat}(ha:a<H.rs.length)(n:Nat):∃ e,run (n+7) "Grammar" "least" [.obj "Grammar" 16,iv a,.fn "" "size_over"] U (iv (few (fd H.par a))) (U++e):=by
 have n8:=w.n8;refine eX2 (L8 (h.more [.ed]) w ha n) λe R zz=>aN5 zz λr1 r2 r3 r4 r5=>?_
 have hR8:∀ x∈R,x<8:=λx hx=>by have:=(r3 x hx).1;exact Zd this n8
 have hRl:R.length<=8:=Dr r5 hR8
 have hse:(U++[MO.ed])++e=U++.ed::e:=by simp
 rw[hse]at r1;have e0:Ev (XX (n+6)) (.tup [.dict,.meth (.v "self") "reached" [.v "c"],.c (.bool true)]) [("over",.fn "" "size_over"),("c",iv a),("self",.obj "Grammar" 16)] U (.tup [.ref U.length,.fl (nl R),.bool true]) (U++.ed::e) :=
  BR (AF EZ (AF (AW (k:="Grammar") (S_v rfl) (h.more [.ed]).h16 (AF (S_v rfl) AI) r1) (AF S_c AI)))
 have key:=λ{m0:Nat} {J0:ME'} {U0:MH}=>EB (X:=(XX (n+6))) (c:=(.v "is_new")) (b:=Kg) (m:=m0) (J:=J0) (U:=U0)
  (λm J U'=>∃ o G flag,U'=U++o::e/\IsD o (gF G)/\GInv H R G/\HD U a R J flag/\((flag=true/\m=GM G+1)\/(flag=false/\m=0/\∀ (i:Nat) (r:Row),H.rs[i]? = some r->fd H.par i∈R->F6 G (fd H.par i) (r.2.map (fd H.par)))))
  (λJ U'=>∃ o G,U'=U++o::e/\IsD o (gF G)/\GInv H R G/\HD U a R J false/\∀ (i:Nat) (r:Row),H.rs[i]? = some r->fd H.par i∈R->F6 G (fd H.par i) (r.2.map (fd H.par))) (by
  intro m J U' y3;obtain⟨o,G,flag,rfl,ho,I,E,hf⟩:=y3;rcases hf with ⟨rfl,rfl⟩ | z0
  ·right
   refine⟨_,S_v E.new,?_⟩;have E1:HD U a R (("is_new",.bool false)::J) false:=⟨E.self,E.found,rfl,E.over,E.c,E.some⟩
   refine eX2 (Eu (X:=XX (n+6)) (t:=.v "here") (k:=.it) (b:=IJ) (l:=nl R) (λi J U'=>∃ o' G' flag',U'=U++o'::e/\IsD o' (gF G')/\GInv H R G'/\HD U a R J flag' /\
     ((flag'=false/\G'=G/\∀ c∈R.take i,∀ (i:Nat) (r:Row),H.rs[i]? = some r->fd H.par i=c->F6 G c (r.2.map (fd H.par)))\/(flag'=true/\GM G'<GM G))) (S_v (X:=XX (n+6)) (J:=("is_new",.bool false)::J) (U:=U++o::e) E1.some) (λi J U' _ _=>Cx) (by
    intro i y J U' hy y5;obtain⟨o',G',flag',rfl,k2,k3,k4,k6⟩:=y5;unfold nl at hy;replace hy:=ZO (ZH).symm hy;obtain⟨c,hc,rfl⟩:=ZD hy;refine eX4 (Oz (n:=n) (e:=e) h w r3 k2 k3 (Zy hc) (J:=("here",iv c)::J) ⟨k4.self,k4.found,k4.new,k4.over,k4.c,k4.some⟩ (rfl)) λJ2 o2 G2 flag2 zz=>aN5 zz λs1 s2 s3 s4 s6=>?_
    refine⟨_,.next,J2,_,rfl,s1,.inl rfl,o2,G2,flag2,rfl,s2,s3,s4,?_⟩;have ht:R.take (i+1)=R.take i++[c]:=by refine ZO List.take_add_one ?_;refine ZN hc ?_;rfl
    rcases k6 with z0 | ⟨rfl,k7⟩
    ·obtain⟨rfl,rfl,k7⟩:=z0
     rcases s6 with ⟨rfl,rfl,s7⟩ | ⟨rfl,s7⟩
     ·refine .inl ⟨rfl,rfl,λc' hc'=>?_⟩
      rw[ht]at hc';rcases ZA hc' with z | z
      ·exact k7 c' z
      ·refine ZN (Zx z) ?_;exact s7
     ·exact .inr ⟨rfl,s7⟩
    ·rcases s6 with z0 | ⟨rfl,s7⟩
     ·obtain⟨rfl,rfl,s7⟩:=z0
      exact .inr ⟨rfl,k7⟩
     ·exact .inr ⟨rfl,Ze s7 k7⟩) ⟨o,G,false,rfl,ho,I,E1,.inl ⟨rfl,rfl,λc hc=>by simp at hc⟩⟩ (by rw[AP];show _<10000;exact Zb hRl (Za rfl))) λJ' U' zz=>aN2 zz λk1 zz=>eX3 zz λo' G' flag' zz=>aN5 zz λq7 k2 k3 k4 k6=>?_;subst q7
   rcases k6 with z0 | ⟨rfl,q⟩
   ·obtain⟨rfl,rfl,q3⟩:=z0
    refine⟨.next,_,_,AJ (AS S_c P_v) (AJ k1 AY),.inl rfl,0,Zh (Zm _),o',G',false,rfl,k2,k3,k4,.inr ⟨rfl,rfl,λi r hr hi=>?_⟩⟩;rw[AP,List.take_length]at q3;exact q3 _ hi i r hr rfl
   ·exact⟨.next,_,_,AJ (AS S_c P_v) (AJ k1 AY),.inl rfl,GM G'+1,Nat.succ_lt_succ q,o',G',true,rfl,k2,k3,k4,.inl ⟨rfl,rfl⟩⟩
  ·obtain⟨rfl,rfl,hf⟩:=z0
   left;exact⟨_,S_v E.new,o,G,rfl,ho,I,E,hf⟩)
 refine eX2 (key (m0:=2401) (J0:=[("is_new",.bool true),("some",.fl (nl R)),("found",.ref U.length),("over",.fn "" "size_over"),("c",iv a),("self",.obj "Grammar" 16)]) (U0:=(U++.ed::e))
  ⟨.ed,[],true,rfl,.inr ⟨rfl,rfl⟩,⟨.nil,(λ_ h=>nomatch h),(λ_ h=>nomatch h),(λc v h=>by cases h)⟩,⟨rfl,rfl,rfl,rfl,rfl,rfl⟩,.inl ⟨rfl,rfl⟩⟩ (by show 2401<10000;decide)) λJ' U' zz=>aN2 zz λk1 zz=>eX2 zz λo G zz=>aN5 zz λq6 ho I E hfix=>?_;subst q6
 refine⟨o::e,BC (J1:=J') rfl (show tx "Grammar" "least"=some ir_Grammar_least from rfl) rfl ?_⟩;refine ZN JT ?_;refine AJ (BY e0 rfl (Ao P_v (Ao P_v (Ao P_v Cn)))) (AJ (J1:=J') (U1:=U++o::e) ?_ (Ar (BB (An (S_v E.found) (AW (k:="Heap") (n:="find") (AT (S_v E.self) (h.more (o::e)).h16 rfl) (h.more (o::e)).h1 (AF (S_v E.c) AI) (DF (h.more (o::e)) w ha (n+4))) (FA (v:=iv (few (fd H.par a))) DQ ho ?_)))))
 ·exact k1
 ·rw[Bu];refine ZN ((Mt I r4 hfix Lf ha r2 (λi r hr j hj=>by have:=(w.kids i r hr).2 j hj;have:=Al hr;lia))) ?_;rfl
theorem IL (h:HeapIs U H)(w:Wf H){few:Nat->Nat}(Lf:Kf H few){a:Nat}(ha:a<H.rs.length)(n:Nat):∃ e,run (n+8) "Grammar" "least_size" [.obj "Grammar" 16,iv a] U (iv (few (fd H.par a))) (U++e):=by
 obtain⟨e,he⟩:=No h w Lf ha n;exact⟨e,BC rfl rfl rfl (Ar (BB (AW (k:="Grammar") (S_v rfl) h.h16 (AF (S_v rfl) (AF S_g AI)) he)))⟩
end
noncomputable def Bi (rs:List Row) (ps:List (Nat×Nat)) (f:Nat->Nat):Prop :=
 (∀ p∈ps,f p.1=f p.2)/\∀ (n m:Nat) (r s:Row),rs[n]? = some r->rs[m]? = some s->r.1=s.1->r.2.map f=s.2.map f->f n=f m
structure F7 (rs:List Row) (ps:List (Nat×Nat)) (f:Nat->Nat):Prop where
 le:∀ x,x<rs.length->f x<=x
 idem:∀ x,x<rs.length->f (f x)=f x
 closed:Bi rs ps f
 sound:∀ g,Bi rs ps g->∀ x,x<rs.length->g (f x)=g x
theorem IM {rs:List Row}{ps:List (Nat×Nat)}{f g:Nat->Nat}(F:F7 rs ps f)(G:F7 rs ps g):∀ x,x<rs.length->f x=g x:=by
 intro x hx;have h1:=F.le x hx
 have h2:=G.le x hx
 have h3:g (f x)=g x:=F.sound g G.closed x hx
 have h4:f (g x)=f x:=G.sound f F.closed x hx
 have h5:=G.le (f x) (Zb h1 hx)
 have h6:=F.le (g x) (Zb h2 hx);exact Zv (le_of_eq_of_le h4.symm h6) (le_of_eq_of_le h3.symm h5)
structure LotsI (rs:List Row) (ps:List (Nat×Nat)) (ls:List Nat):Prop where
 len:ls.length=rs.length
 le:∀ x,x<rs.length->ls.getD x 0<=x
 idem:∀ x,x<rs.length->ls.getD (ls.getD x 0) 0=ls.getD x 0
 sound:∀ g,Bi rs ps g->∀ x,x<rs.length->g (ls.getD x 0)=g x
noncomputable def cnt (N:Nat) (ls:List Nat):Nat:=((List.range N).filter λx=>ls.getD x 0=x).length
noncomputable def relab (ls:List Nat) (low high:Nat):List Nat:=ls.map λlot=>if lot=high then low else lot
theorem Mw {l:List Nat}{f:Nat->Nat}{x:Nat}(h:x<l.length):(l.map f).getD x 0=f (l.getD x 0):=by
 simp[List.getD_eq_getElem?_getD,h]
theorem LotsI.relab {rs:List Row}{ps:List (Nat×Nat)}{ls:List Nat}(I:LotsI rs ps ls){low high a b:Nat}(ha:a<rs.length)(hb:b<rs.length)(h1:ls.getD a 0=low)(h2:ls.getD b 0=high)(hlt:low<high)
  (hs:∀ g,Bi rs ps g->g a=g b):LotsI rs ps (relab ls low high)/\cnt rs.length (relab ls low high)<cnt rs.length ls:=by
 have hlow:ls.getD low 0=low:=by refine ZN h1.symm ?_;exact I.idem a ha
 have hhigh:ls.getD high 0=high:=by refine ZN h2.symm ?_;exact I.idem b hb
 have l1:low<=a:=by refine ZN h1.symm ?_;exact I.le a ha
 have l2:high<=b:=by refine ZN h2.symm ?_;exact I.le b hb
 have get:∀ x,x<rs.length->(Internal.relab ls low high).getD x 0=if ls.getD x 0=high then low else ls.getD x 0:=λx hx=>Mw (by refine ZN I.len ?_;exact hx)
 have hgl:∀ g,Bi rs ps g->g low=g high:=λg hg=>by
  have e1:=I.sound g hg a ha
  have e2:=I.sound g hg b hb;rw[h1]at e1;rw[h2]at e2;refine ZN e1 ?_;refine ZN e2 ?_;exact hs g hg
 refine⟨⟨by unfold Internal.relab;rw[ZF];exact I.len,λx hx=>?_,λx hx=>?_,λg hg x hx=>?_⟩,?_⟩
 ·refine ZN (get x hx) ?_
  have:=I.le x hx
  split <;> lia
 ·refine ZN (get x hx) ?_
  split
  ·refine ZO (get low (Zb l1 ha)) ?_;refine ZN hlow ?_;exact if_neg (Zk hlt)
  ·rename_i q
   have:=I.le x hx;refine ZN (get _ (Zb this hx)) ?_;refine ZN (I.idem x hx) ?_;exact if_neg q
 ·refine ZN (get x hx) ?_
  have:=I.sound g hg x hx
  split
  ·rename_i q
   rw[q]at this;refine ZN (hgl g hg) ?_;exact this
  ·exact this
 ·have hnd:(high::(List.range rs.length).filter λx=>(Internal.relab ls low high).getD x 0=x).Nodup:=by
   refine List.nodup_cons.mpr ?_;refine⟨λz=>?_,List.nodup_range.filter _⟩;replace z:=List.mem_filter.mp z;have z2:=of_decide_eq_true z.2;replace z2:=ZO (get high (Zb l2 hb)).symm z2;rw[hhigh]at z2;replace z2:=ZO (if_pos rfl).symm z2;exact False.elim (Zp (Nat.le_of_eq z2.symm) hlt)
  have:=Ce (b:=(List.range rs.length).filter λx=>ls.getD x 0=x) hnd λy hy=>by
   refine List.mem_filter.mpr ?_;rw[List.mem_range];rcases Zz hy with rfl | hy
   ·exact⟨Zb l2 hb,by simpa using hhigh⟩
   ·replace hy:=List.mem_filter.mp hy;rw[List.mem_range]at hy
    refine⟨hy.1,?_⟩;have z2:=of_decide_eq_true hy.2;replace z2:=ZO (get y hy.1).symm z2
    split at z2
    ·rename_i q
     exfalso;have:=I.le y hy.1;rw[z2]at hlow;exact False.elim (Zp (le_of_le_of_eq (le_of_eq_of_le q.symm this) z2.symm) hlt)
    ·exact decide_eq_true z2
  unfold cnt;rw[List.length_cons]at this;exact Zd (Zo _) this
noncomputable def Fi (ls:List Nat) (r:Row):Row:=(r.1,r.2.map λk=>ls.getD k 0)
structure Ki (rs:List Row) (ls:List Nat) (sm:List (Nat×Nat)):Prop where
 len:sm.length=rs.length
 get:∀ (n:Nat) (p:Nat×Nat),sm[n]? = some p->p.2=n/\∃ r s,rs[p.1]? = some r/\rs[n]? = some s/\Fi ls r=Fi ls s
 same:∀ (n m:Nat) (r s:Row) (p q:Nat×Nat),rs[n]? = some r->rs[m]? = some s->Fi ls r=Fi ls s->sm[n]? = some p->sm[m]? = some q->p.1=q.1
theorem KJ {rs:List Row}{ps:List (Nat×Nat)}{ls:List Nat}{sm:List (Nat×Nat)}(S:Ki rs ls sm)(I:LotsI rs ps ls)(hk:∀ (i:Nat)(r:Row),rs[i]? = some r->∀ k∈r.2,k<rs.length):∀ p∈sm,∀ g,Bi rs ps g->g p.1=g p.2:=by
 intro p hp g hg;obtain⟨n,hn⟩:=List.mem_iff_getElem?.mp hp;refine aN2 (S.get n p hn) λe zz=>eX2 zz λr s zz=>aN3 zz λh1 h2 h3=>?_
 refine ZN e ?_;refine hg.2 p.1 n r s h1 h2 (congrArg (·.1) h3) ?_;have h4:(r.2.map λk=>ls.getD k 0)=s.2.map λk=>ls.getD k 0:=congrArg (·.2) h3
 have h5:∀ r:Row,(∀ k∈r.2,k<rs.length)->r.2.map g=(r.2.map λk=>ls.getD k 0).map g:=λr hr=>by
  refine ZN List.map_map ?_;exact ZL λk hk'=>(I.sound g hg k (hr k hk')).symm
 refine ZN (h5 r (hk _ r h1)) ?_;refine ZN (h5 s (hk _ s h2)) ?_;rw[h4]
theorem Mx {rs:List Row}{ps:List (Nat×Nat)}{ls:List Nat}{sm:List (Nat×Nat)}(I:LotsI rs ps ls)(S:Ki rs ls sm)(h:∀ p∈ps++sm,ls.getD p.1 0=ls.getD p.2 0):F7 rs ps (λx=>ls.getD x 0):=by
 refine⟨I.le,I.idem,⟨λp hp=>h p (List.mem_append_left _ hp),λn m r s hn hm h1 h2=>?_⟩,I.sound⟩;have ln:=Al hn
 have lm:=Al hm
 have en:=ZI (l:=sm) (i:=n) (by refine ZN S.len ?_;exact ln)
 have em:=ZI (l:=sm) (i:=m) (by refine ZN S.len ?_;exact lm)
 have e2:=h _ (List.mem_append_right _ (Zy en))
 have e3:=h _ (List.mem_append_right _ (Zy em));rw[(S.get n _ en).1]at e2;rw[(S.get m _ em).1]at e3;show ls.getD n 0=ls.getD m 0;refine ZO e2.symm ?_;refine ZN e3.symm ?_;rw[(S.same n m r s _ _ hn hm (Prod.ext h1 h2) en em)]
theorem Pq {rs:List Row}{ps:List (Nat×Nat)}:LotsI rs ps (List.range rs.length):=by
 have g:∀ x,x<rs.length->(List.range rs.length).getD x 0=x:=λx hx=>by simp[List.getD_eq_getElem?_getD,hx]
 exact⟨by simp,λx hx=>by refine ZN (g x hx) ?_;exact Zg _,λx hx=>by refine ZN (g x hx) ?_;exact g x hx,λf _ x hx=>by rw[g x hx]⟩
theorem My {U:MH}(a b:Nat):BiP U .sorted (.fl [iv a,iv b]) (.fl [iv (min a b),iv (max a b)]):=by
 refine .inl ⟨_,[(a:Int),(b:Int)],rfl,Nat.lt_of_sub_eq_succ rfl,rfl,?_⟩
 by_cases h:(b:Int)<a
 ·have h2:BJ B7 [(a:Int),(b:Int)]=[(b:Int),(a:Int)]:=by simp[BJ,ins,B7,h]
  refine ZN h2 ?_;refine ZN (Nat.min_eq_right (Zl (Int.ofNat_lt.mp h))) ?_;refine ZN (Nat.max_eq_left (Zl (Int.ofNat_lt.mp h))) ?_;rfl
 ·have h2:BJ B7 [(a:Int),(b:Int)]=[(a:Int),(b:Int)]:=by simp[BJ,ins,B7,h]
  refine ZN h2 ?_;refine ZN (Nat.min_eq_left (by lia)) ?_;refine ZN (Nat.max_eq_right (by lia)) ?_;rfl
noncomputable def pmv (p:Nat×Nat):MV:=.tup [iv p.1,iv p.2]
theorem Gf {U:MH}{i:Nat}{o:MO}{l:List (Row×Nat)}{r:Row}{n m:Nat}(h:U[i]? = some o)(ho:IsR o l)(hl:l.lookup r=some m):MetR U (some false) (.ref i) "setdefault" [rmv r,iv n] (iv m) U :=
 .sold i o _ _ _ h ((ho.get r).trans (by refine ZN hl ?_;rfl))
theorem Gg {U:MH}{i:Nat}{o:MO}{l:List (Row×Nat)}{r:Row}{n:Nat}(h:U[i]? = some o)(ho:IsR o l)(hl:l.lookup r=none)(hb:l.length<big):∃ o',MetR U (some false) (.ref i) "setdefault" [rmv r,iv n] (iv n) (U.set i o')/\IsR o' (l++[(r,n)]) :=
 let ⟨o',d1,d2,_⟩:=ho.set n hl hb
 ⟨o',.snew i o o' _ _ h ((ho.get r).trans (by refine ZN hl ?_;rfl)) d1,d2⟩
theorem lookup_snoc {l:List (Row×Nat)}{k k':Row}{n:Nat}:(l++[(k,n)]).lookup k'=(l.lookup k').or (if k'=k then some n else none):=by
 induction l with
 | nil =>
  simp only[List.nil_append,List.lookup_nil,Option.none_or,List.lookup_cons]
  by_cases h:k'=k
  ·subst h;simp
  ·have h2:(k' == k)=false:=by simpa using h
   refine ZN h2 ?_;simp[h]
 | cons p r ih =>
  obtain⟨a,b⟩:=p;simp only[List.cons_append,List.lookup_cons];cases k' == a <;> simp[ih]
structure FirstI (rs:List Row) (ls:List Nat) (i:Nat) (l:List (Row×Nat)) (sm:List (Nat×Nat)):Prop where
 len:sm.length=i
 ll:l.length<=i
 old:∀ (k:Row) (m:Nat),l.lookup k=some m->∃ r,rs[m]? = some r/\Fi ls r=k
 at':∀ (j:Nat) (p:Nat×Nat),sm[j]? = some p->p.2=j/\∃ r,rs[j]? = some r/\l.lookup (Fi ls r)=some p.1
theorem FirstI.done {rs:List Row}{ls:List Nat}{l:List (Row×Nat)}{sm:List (Nat×Nat)}(F:FirstI rs ls rs.length l sm):Ki rs ls sm:=by
 refine⟨F.len,λn p hn=>?_,λn m r s p q hr hs e hp hq=>?_⟩
 ·obtain⟨h1,r,h2,h3⟩:=F.at' n p hn
  obtain⟨s,h4,h5⟩:=F.old _ _ h3;exact⟨h1,s,r,h4,h2,h5⟩
 ·obtain⟨_,r',h2,h3⟩:=F.at' n p hp
  obtain⟨_,s',h4,h5⟩:=F.at' m q hq;replace h2:=ZO hr.symm h2;cases h2;replace h4:=ZO hs.symm h4;cases h4;rw[e]at h3;replace h3:=ZO h5.symm h3;exact (Option.some.inj h3).symm
theorem FirstI.old_step {rs:List Row}{ls:List Nat}{i:Nat}{l:List (Row×Nat)}{sm:List (Nat×Nat)}(F:FirstI rs ls i l sm){r:Row}(hr:rs[i]? = some r){m:Nat}(hm:l.lookup (Fi ls r)=some m):FirstI rs ls (i+1) l (sm++[(m,i)]):=by
 refine⟨by refine ZO ZG ?_;refine ZN F.len ?_;rfl,by have:=F.ll;exact Zj this,F.old,λj p hj=>?_⟩
 by_cases q:j<sm.length
 ·replace hj:=ZO (List.getElem?_append_left q).symm hj
  exact F.at' j p hj
 ·replace hj:=ZO (List.getElem?_append_right (Zn q)).symm hj
  have hl:=F.len
  have h2:=(List.getElem?_eq_some_iff.mp hj).1;simp only[ZM]at h2;have h3:j=i:=by lia
  subst h3;have h4:j - sm.length=0:=Zv (Nat.sub_le_of_le_add (le_of_eq_of_le hl.symm (Zs _ _))) (Zm _);rw[h4]at hj;cases hj;exact⟨rfl,r,hr,hm⟩
theorem FirstI.new_step {rs:List Row}{ls:List Nat}{i:Nat}{l:List (Row×Nat)}{sm:List (Nat×Nat)}(F:FirstI rs ls i l sm){r:Row}(hr:rs[i]? = some r)(hm:l.lookup (Fi ls r)=none):FirstI rs ls (i+1) (l++[(Fi ls r,i)]) (sm++[(i,i)]):=by
 refine⟨by refine ZO ZG ?_;refine ZN F.len ?_;rfl,by refine ZN ZG ?_;have:=F.ll;simp;exact this,λk m hk=>?_,λj p hj=>?_⟩
 ·replace hk:=ZO lookup_snoc.symm hk
  cases h:l.lookup k with
  | some m' =>
   rw[h]at hk;exact F.old k m (by refine ZO h ?_;exact hk)
  | none =>
   rw[h]at hk
   split at hk
   ·rename_i q
    cases hk;exact⟨r,hr,q.symm⟩
   ·cases hk
 ·by_cases q:j<sm.length
  ·replace hj:=ZO (List.getElem?_append_left q).symm hj
   obtain⟨h1,r',h2,h3⟩:=F.at' j p hj;exact⟨h1,r',h2,by refine ZO lookup_snoc ?_;refine ZN h3 ?_;rfl⟩
  ·replace hj:=ZO (List.getElem?_append_right (Zn q)).symm hj
   have hl:=F.len
   have h2:=(List.getElem?_eq_some_iff.mp hj).1;simp only[ZM]at h2;have h3:j=i:=by lia
   subst h3;have h4:j - sm.length=0:=Zv (Nat.sub_le_of_le_add (le_of_eq_of_le hl.symm (Zs _ _))) (Zm _);rw[h4]at hj;cases hj;exact⟨rfl,r,hr,by refine ZO lookup_snoc ?_;refine ZN hm ?_;simp⟩
theorem H5 {U:MH}{a:Nat}{rs:List Row}(h:U[a]? = some (.list (rs.map rmv))):iter2 U (.enum ()) (.ref a)=some (rs.zipIdx.map λp=>.tup [iv p.2,rmv p.1]):=by
 simp only[iter2,AO,h,Option.map_some]
 congr 1
 refine ZN List.zipIdx_map ?_;refine ZO List.map_map ?_;rfl
noncomputable def Mz:ME:=.bin .add (.tup [.idx (.v "row") (.c (.int 0))]) (.bi .tuple [.comp (.idx (.v "lots") (.v "kid")) (.v "kid") .it (.from1 (.v "row")) []])
theorem Pr {X:CK}{J:ME'}{U:MH}{r:Row}{ls:List Nat}(hr:J.lookup "row"=some (rmv r))(hl:J.lookup "lots"=some (.fl (nl ls)))(h2:r.2.length<=2)(hk:∀ k∈r.2,k<ls.length)(h8:ls.length<=8)(hT:100<X.turns):Ev X Mz J U (rmv (Fi ls r)) U:=by
 refine Bb (BR (AF (An (S_v hr) S_c Ga) AI)) (ED (D0 (l:=r.2) (f:=λk=>ls.getD k 0) (CL (S_v hr) (by simp[nl,big];exact Zc h2 (Za rfl))) BK (λk hk'=>An (S_v (v:=.fl (nl ls)) ?_) (S_v rfl) (C4 (CU (hk k hk')) (by have:=hk k hk';exact Ze (Zd this h8) (Za rfl)))) (Zb (Zc h2 (Za rfl)) hT) (by simp only[big];exact Zc h2 (Za rfl))) (l:=nl (r.2.map λk=>ls.getD k 0)) rfl ?_) ?_
 ·show List.lookup "lots" (("kid",iv k)::without J [".0","kid"])=_
  show (without J [".0","kid"]).lookup "lots"=_;refine ZO (Co rfl) ?_;exact hl
 ·simp[nl,big];exact Zc h2 (Za rfl)
 ·exact FB (a:=[_]) (by simp[nl,big];exact Zc (Nat.add_le_add (Zg _) h2) (Za rfl))
theorem PA {X:CK}{J:ME'}{U:MH}{rs:List Row}{ls:List Nat}(h17:U[17]? = some (.list (rs.map rmv)))(n8:rs.length<=8)(kids:∀ (i:Nat)(r:Row),rs[i]? = some r->r.2.length<=2/\∀ k∈r.2,k<rs.length)(hls:ls.length=rs.length)(hT:100<X.turns)
  (e1:J.lookup "rows"=some (.ref 17)) (e2:J.lookup "lots"=some (.fl (nl ls))) (e3:J.lookup "first_of"=some (.ref U.length)) :
  ∃ sm o,Ev X (.comp (.tup [.meth (.v "first_of") "setdefault" [Mz,.v "n"],.v "n"]) (.two "n" "row") (.enum ()) (.v "rows") []) J (U++[.ed]) (.fl (sm.map pmv)) (U++[o])/\Ki rs ls sm:=by
 have g17:∀ o:MO,(U++[o])[17]? = some (.list (rs.map rmv)):=λo=>by refine ZO (List.getElem?_append_left ((List.getElem?_eq_some_iff.mp h17).1)) ?_;exact h17
 have hll:(rs.zipIdx.map λp=>MV.tup [iv p.2,rmv p.1]).length=rs.length:=by simp
 obtain⟨zs,U',k1,o,l,sm,rfl,k2,rfl,k3⟩:=ID (X:=X) (J:=J) (U:=U++[.ed]) (elt:=.tup [.meth (.v "first_of") "setdefault" [Mz,.v "n"],.v "n"]) (t:=.two "n" "row") (k:=(.enum ())) (iter:=.v "rows") (l:=rs.zipIdx.map λp=>.tup [iv p.2,rmv p.1])
  (λi out U'=>∃ o l sm,U'=U++[o]/\IsR o l/\out=sm.map pmv/\FirstI rs ls i l sm) (S_v e1) (λi out U' _ hi=>by
   obtain⟨o,l,sm,rfl,_⟩:=hi;exact H5 (g17 o)) (λi y out U' hy hi=>by
   obtain⟨o,l,sm,rfl,ho,rfl,F⟩:=hi;replace hy:=ZO (ZH).symm hy;obtain⟨⟨r,j⟩,hz,rfl⟩:=ZD hy;replace hz:=ZO (List.getElem?_zipIdx).symm hz;obtain⟨r',hr,hz⟩:=ZD hz;cases hz;rw[Nat.zero_add];have hi:=Al hr
   have hb:l.length<big:=by have:=F.ll;simp only[big];exact Ze (Zd (Zb this hi) n8) (Za rfl)
   have go:(U++[o])[U.length]? = some o:=DQ
   have wl:∀ {n:String} {v:MV},[".0","n","row"].contains n=false->J.lookup n=some v->(without J [".0","n","row"]).lookup n=some v:=λh1 h2=>by refine ZO (Co h1) ?_;exact h2
   have key:Ev X Mz (("row",rmv r)::("n",iv i)::without J [".0","n","row"]) (U++[o]) (rmv (Fi ls r)) (U++[o]):=Pr rfl (wl rfl e2) (kids i r hr).1 (λk hk=>by refine ZN hls ?_;exact (kids i r hr).2 k hk) (le_of_eq_of_le hls n8) hT
   have lf:(("row",rmv r)::("n",iv i)::without J [".0","n","row"]).lookup "first_of"=some (.ref U.length):=wl rfl e3;cases hm:l.lookup (Fi ls r)with
   | some m =>
    exact⟨_,pmv (m,i),U++[o],rfl,BR (AF (EA (S_v lf) go (ho.kind go) (AF key (AF (S_v rfl) AI)) (Gf go ho hm)) (AF (S_v rfl) AI)),o,l,sm++[(m,i)],rfl,ho,by simp,F.old_step hr hm⟩
   | none =>
    obtain⟨o',d1,d2⟩:=Gg (U:=U++[o]) (n:=i) go ho hm hb;rw[set0]at d1;exact⟨_,pmv (i,i),U++[o'],rfl,BR (AF (EA (S_v lf) go (ho.kind go) (AF key (AF (S_v rfl) AI)) d1) (AF (S_v rfl) AI)),o',_,sm++[(i,i)],rfl,d2,by simp,F.new_step hr hm⟩)
  ⟨.ed,[],[],rfl,.inr ⟨rfl,rfl⟩,rfl,⟨rfl,Zg _,(λ_ _ h=>nomatch h),(λj p h=>by simp at h)⟩⟩ (by refine ZN hll ?_;exact Zb (Zc n8 (Za rfl)) hT) (by refine ZN hll ?_;simp only[big];exact Zc n8 (Za rfl))
 rw[hll]at k3;exact (eI2 sm o ⟨k1,k3.done⟩)
noncomputable def NA:List MS:=[.unpack [.v "low",.v "high"] (.bi .sorted [.flst [.idx (.v "lots") (.v "one"),.idx (.v "lots") (.v "other")]]),
   .ite (.cmp .ne (.v "low") (.v "high")) [
    .unpack [.v "lots",.v "goes_on"] (.tup [.comp (.ite (.cmp .eq (.v "lot") (.v "high")) (.v "low") (.v "lot")) (.v "lot") .it (.v "lots") [],.c (.bool true)])] []]
noncomputable def IN:List MS:=[.unpack [.v "goes_on",.v "first_of"] (.tup [.c (.bool false),.dict]),
  .assign (.v "same") (.comp (.tup [.meth (.v "first_of") "setdefault" [Mz,.v "n"],.v "n"]) (.two "n" "row") (.enum ()) (.v "rows") []),
  .for (.two "one" "other") .it (.bin .add (.v "pairs") (.v "same")) NA]
theorem KK:ir_law_lots=⟨["rows","pairs"],[.unpack [.v "lots",.v "goes_on"] (.tup [.bi (.listrange ()) [.bi .len [.v "rows"]],.c (.bool true)]),.while (.v "goes_on") IN,.ret (.v "lots")]⟩:=rfl
structure JV (J:ME') (ls:List Nat) (flag:Bool):Prop where
 rows:J.lookup "rows"=some (.ref 17)
 pairs:J.lookup "pairs"=some (.ref 18)
 lots:J.lookup "lots"=some (.fl (nl ls))
 flag:J.lookup "goes_on"=some (.bool flag)
theorem Np {X:CK}{J:ME'}{U:MH}{rs:List Row}{ps:List (Nat×Nat)}{ls:List Nat}{flag:Bool}(hT:100<X.turns)(n8:rs.length<=8)(I:LotsI rs ps ls){a b:Nat}(ha:a<rs.length)(hb:b<rs.length)(hs:∀ g,Bi rs ps g->g a=g b)(E:JV J ls flag)
  (h1:J.lookup "one"=some (iv a)) (h2:J.lookup "other"=some (iv b)) :
  ∃ J' ls' flag',Xl X NA J U .next J' U/\JV J' ls' flag'/\LotsI rs ps ls'/\((flag'=flag/\ls'=ls/\ls.getD a 0=ls.getD b 0)\/(flag'=true/\cnt rs.length ls'<cnt rs.length ls)):=by
 have il:=I.len
 have s1:Xs X (.unpack [.v "low",.v "high"] (.bi .sorted [.flst [.idx (.v "lots") (.v "one"),.idx (.v "lots") (.v "other")]])) J U .next (("high",iv (max (ls.getD a 0) (ls.getD b 0)))::("low",iv (min (ls.getD a 0) (ls.getD b 0)))::J) U :=
  BY (Bg (AF (DZ (AF (An (S_v E.lots) (S_v h1) (C4 (CU (lt_of_lt_of_eq ha il.symm)) (Ze (Zd ha n8) (Za rfl)))) (AF (An (S_v E.lots) (S_v h2) (C4 (CU (lt_of_lt_of_eq hb il.symm)) (Ze (Zd hb n8) (Za rfl)))) AI))) AI) (My _ _)) rfl (Ao P_v (Ao P_v Cn))
 have s2:Ev X (.cmp .ne (.v "low") (.v "high")) (("high",iv (max (ls.getD a 0) (ls.getD b 0)))::("low",iv (min (ls.getD a 0) (ls.getD b 0)))::J) U (.bool (decide (min (ls.getD a 0) (ls.getD b 0)≠max (ls.getD a 0) (ls.getD b 0)))) U :=
  Ap (S_v rfl) (S_v rfl) (CV _ _)
 generalize hlow:min (ls.getD a 0) (ls.getD b 0)=low at *;generalize hhigh:max (ls.getD a 0) (ls.getD b 0)=high at *
 by_cases q:low=high
 ·rw[decide_eq_false (by simpa using q)]at s2
  exact⟨_,ls,flag,AJ s1 (AJ (B5 s2 AY) AY),⟨E.rows,E.pairs,E.lots,E.flag⟩,I,.inl ⟨rfl,rfl,by lia⟩⟩
 ·rw[decide_eq_true q]at s2
  have key:LotsI rs ps (relab ls low high)/\cnt rs.length (relab ls low high)<cnt rs.length ls:=by
   by_cases r:ls.getD a 0<=ls.getD b 0
   ·exact I.relab ha hb (by lia) (Zv (le_of_le_of_eq (Nat.le_max_right _ _) hhigh) (le_of_eq_of_le hhigh.symm (Nat.max_le.mpr ⟨r,(Zg _)⟩))) (Zu (le_of_le_of_eq (Zc (le_of_eq_of_le hlow.symm (Nat.min_le_left _ _)) (Nat.le_max_left _ _)) hhigh) q) hs
   ·exact I.relab hb ha (by lia) (by lia) (lt_of_lt_of_eq (Zd (Zb (le_of_eq_of_le hlow.symm (Nat.min_le_right _ _)) (Zq r)) (Nat.le_max_left _ _)) hhigh) (λg hg=>(hs g hg).symm)
  have s3:Ev X (.comp (.ite (.cmp .eq (.v "lot") (.v "high")) (.v "low") (.v "lot")) (.v "lot") .it (.v "lots") []) (("high",iv high)::("low",iv low)::J) U (.fl (nl (relab ls low high))) U:=by
   refine D0 (l:=ls) (f:=λlot=>if lot=high then low else lot) (S_v E.lots) Cx (λk hk=>?_) (Zb (Zc (le_of_eq_of_le il n8) (Za rfl)) hT) (by simp only[big];exact Zc (le_of_eq_of_le il n8) (Za rfl));have e1:Ev X (.cmp .eq (.v "lot") (.v "high")) (("lot",iv k)::without (("high",iv high)::("low",iv low)::J) [".0","lot"]) U (.bool (decide (k=high))) U:=Ap (S_v rfl) (S_v rfl) (Br _ _)
   by_cases z:k=high
   ·rw[decide_eq_true z]at e1
    show Ev _ _ _ _ (iv (if k=high then low else k)) U;refine ZN (if_pos z) ?_;exact KF e1 (S_v rfl)
   ·rw[decide_eq_false z]at e1
    show Ev _ _ _ _ (iv (if k=high then low else k)) U;refine ZN (if_neg z) ?_;exact IB e1 (S_v rfl)
  exact⟨_,relab ls low high,true,AJ s1 (AJ (CT s2 (AJ (BY (BR (AF s3 (AF S_c AI))) rfl (Ao P_v (Ao P_v Cn))) AY)) AY),⟨E.rows,E.pairs,rfl,rfl⟩,key.1,.inr ⟨rfl,key.2⟩⟩
theorem KL {U:MH}{i:Nat}{a b:List MV}(h:U[i]? = some (.list a))(hb:a.length+b.length<=big):BinR U .add (.ref i) (.fl b) (.fl (a++b)):=.lst _ _ a b (by simp only[AO,h]) rfl hb
theorem HE {U:MH}{k:Nat}(h:k<=1000):BiP U (.listrange ()) (iv k) (.fl (nl (List.range k))):=by
 refine⟨_,rfl,⟨Int.natCast_nonneg _,Int.ofNat_le.mpr h⟩,?_⟩;rfl
theorem Cp {U:MH}{i:Nat}{l:List MV}(h:U[i]? = some (.list l))(hb:l.length<=big):BiP U .len (.ref i) (iv l.length):=.inl ⟨l,by simp only[items,h],hb,rfl⟩
theorem Gh {U:MH}{i n:Nat}{l:List MV}(h:U[i]? = some (.list l))(hn:l.length=n)(hb:n<=big):BiP U .len (.ref i) (iv n):=by
 subst hn;exact Cp h hb
theorem PB {U:MH}{rs:List Row}{ps:List (Nat×Nat)}(h17:U[17]? = some (.list (rs.map rmv)))(h18:U[18]? = some (.list (ps.map pmv)))(n8:rs.length<=8)(kids:∀ (i:Nat)(r:Row),rs[i]? = some r->r.2.length<=2/\∀ k∈r.2,k<rs.length)
  (hp:∀ p∈ps,p.1<rs.length/\p.2<rs.length) (hpl:ps.length<=100) (n:Nat):∃ e ls,run (n+1) "" "_law_lots" [.ref 17,.ref 18] U (.fl (nl ls)) (U++e)/\LotsI rs ps ls/\F7 rs ps (λx=>ls.getD x 0):=by
 have hT:100<(XX n).turns:=by show 100<10000;decide
 have g17:∀ e:MH,(U++e)[17]? = some (.list (rs.map rmv)):=λe=>by refine ZO (List.getElem?_append_left ((List.getElem?_eq_some_iff.mp h17).1)) ?_;exact h17
 have g18:∀ e:MH,(U++e)[18]? = some (.list (ps.map pmv)):=λe=>by refine ZO (List.getElem?_append_left ((List.getElem?_eq_some_iff.mp h18).1)) ?_;exact h18
 have key:=λ{m0:Nat} {J0:ME'} {U0:MH}=>EB (X:=(XX n)) (c:=(.v "goes_on")) (b:=IN) (m:=m0) (J:=J0) (U:=U0)
  (λm J U'=>∃ e ls flag,U'=U++e/\JV J ls flag/\LotsI rs ps ls/\((flag=true/\m=cnt rs.length ls+1)\/(flag=false/\m=0/\F7 rs ps (λx=>ls.getD x 0))))
  (λJ U'=>∃ e ls,U'=U++e/\JV J ls false/\LotsI rs ps ls/\F7 rs ps (λx=>ls.getD x 0)) (by
  intro m J U' y3;obtain⟨e,ls,flag,rfl,E,I,hf⟩:=y3;rcases hf with ⟨rfl,rfl⟩ | z0
  ·right
   refine⟨_,S_v E.flag,?_⟩;have u1:Xs (XX n) (.unpack [.v "goes_on",.v "first_of"] (.tup [.c (.bool false),.dict])) J (U++e) .next (("first_of",.ref (U++e).length)::("goes_on",.bool false)::J) ((U++e)++[.ed]) :=
    BY (BR (AF S_c (AF EZ AI))) rfl (Ao P_v (Ao P_v Cn))
   obtain⟨sm,o,k1,S⟩:=PA (X:=XX n) (J:=("first_of",.ref (U++e).length)::("goes_on",.bool false)::J) (g17 e) n8 kids I.len hT E.rows E.lots rfl;have hsm:sm.length=rs.length:=S.len
   have u3:Ev (XX n) (.bin .add (.v "pairs") (.v "same")) (("same",.fl (sm.map pmv))::("first_of",.ref (U++e).length)::("goes_on",.bool false)::J) ((U++e)++[o]) (.fl ((ps++sm).map pmv)) ((U++e)++[o]):=by
    refine Bb (S_v E.pairs) (S_v rfl) ?_;refine ZN List.map_append ?_;exact KL (by rw[List.append_assoc];exact g18 _) (by simp only[ZF,big];exact Zc (Nat.add_le_add hpl (le_of_eq_of_le hsm n8)) (Za rfl))
   obtain⟨J',U',k2,ls',flag',rfl,E',I',k3⟩:=Eu (X:=XX n) (t:=.two "one" "other") (k:=.it) (b:=NA) (l:=(ps++sm).map pmv) (λi J U'=>∃ ls' flag',U'=(U++e)++[o]/\JV J ls' flag'/\LotsI rs ps ls' /\
     ((flag'=false/\ls'=ls/\∀ p∈(ps++sm).take i,ls.getD p.1 0=ls.getD p.2 0)\/(flag'=true/\cnt rs.length ls'<cnt rs.length ls))) u3 (λi J U' _ _=>Cx) (by
    intro i y J U' hy y5;obtain⟨ls',flag',rfl,E',I',k3⟩:=y5;replace hy:=ZO (ZH).symm hy;obtain⟨p,hp',rfl⟩:=ZD hy;have hmem:=Zy hp'
    have hb:p.1<rs.length/\p.2<rs.length:=by
     rcases ZA hmem with z | z
     ·exact hp p z
     ·obtain⟨j,hj⟩:=List.mem_iff_getElem?.mp z
      obtain⟨q1,r,s,q2,q3,_⟩:=S.get j p hj;exact⟨Al q2,by refine ZN q1 ?_;exact Al q3⟩
    have hs:∀ g,Bi rs ps g->g p.1=g p.2:=by
     rcases ZA hmem with z | z
     ·exact λg hg=>hg.1 p z
     ·exact KJ S I (λi r hr=>(kids i r hr).2) p z
    obtain⟨J2,ls2,flag2,r1,r2,r3,r4⟩:=Np (X:=XX n) (U:=(U++e)++[o]) hT n8 I' hb.1 hb.2 hs (J:=("other",iv p.2)::("one",iv p.1)::J) ⟨E'.rows,E'.pairs,E'.lots,E'.flag⟩ rfl rfl;refine⟨_,.next,J2,_,rfl,r1,.inl rfl,ls2,flag2,rfl,r2,r3,?_⟩;have ht:(ps++sm).take (i+1)=(ps++sm).take i++[p]:=by refine ZO List.take_add_one ?_;refine ZN hp' ?_;rfl
    rcases k3 with z0 | ⟨rfl,k4⟩
    ·obtain⟨rfl,rfl,k4⟩:=z0
     rcases r4 with ⟨rfl,rfl,r5⟩ | ⟨rfl,r5⟩
     ·refine .inl ⟨rfl,rfl,λp' hp2=>?_⟩
      rw[ht]at hp2;rcases ZA hp2 with z | z
      ·exact k4 p' z
      ·refine ZN (Zx z) ?_;exact r5
     ·exact .inr ⟨rfl,r5⟩
    ·rcases r4 with z0 | ⟨rfl,r5⟩
     ·obtain⟨rfl,rfl,r5⟩:=z0
      exact .inr ⟨rfl,k4⟩
     ·exact .inr ⟨rfl,Ze r5 k4⟩) (eI2 ls false ⟨rfl,⟨E.rows,E.pairs,E.lots,rfl⟩,I,.inl ⟨rfl,rfl,λp hp=>by simp at hp⟩⟩) (by rw[ZF];refine ZN ZG ?_;show _<10000;exact Zb (Nat.add_le_add hpl (le_of_eq_of_le hsm n8)) (Za rfl))
   have ha:(U++e)++[o]=U++(e++[o]):=List.append_assoc _ _ _
   have run1:Xl (XX n) IN J (U++e) .next J' ((U++e)++[o]):=AJ u1 (AJ (AS k1 P_v) (AJ k2 AY));rw[ha]at run1;rcases k3 with z0 | ⟨rfl,q⟩
   ·obtain⟨rfl,rfl,q3⟩:=z0
    refine⟨.next,_,_,run1,.inl rfl,0,Zh (Zm _),e++[o],ls',false,rfl,E',I',.inr ⟨rfl,rfl,?_⟩⟩;rw[ZF,List.take_length]at q3;exact Mx I' S q3
   ·exact⟨.next,_,_,run1,.inl rfl,cnt rs.length ls'+1,Nat.succ_lt_succ q,e++[o],ls',true,rfl,E',I',.inl ⟨rfl,rfl⟩⟩
  ·obtain⟨rfl,rfl,hf⟩:=z0
   left;exact⟨_,S_v E.flag,e,ls,rfl,E,I,hf⟩)
 have hcnt:∀ ls,cnt rs.length ls<=8:=λls=>by
  unfold cnt;have:=List.length_filter_le (λx=>decide (ls.getD x 0=x)) (List.range rs.length);rw[List.length_range]at this;exact Zc this n8
 obtain⟨J',U',k1,e,ls,rfl,E,I,C⟩:=key (m0:=(cnt rs.length (List.range rs.length)+1)) (J0:=[("goes_on",.bool true),("lots",.fl (nl (List.range rs.length))),("pairs",.ref 18),("rows",.ref 17)]) (U0:=U)
  ⟨[],List.range rs.length,true,by simp,⟨rfl,rfl,rfl,rfl⟩,Pq,.inl ⟨rfl,rfl⟩⟩ (by have:=hcnt (List.range rs.length);show _<10000;exact Zb (Nat.add_le_add this (Zg _)) (Za rfl))
 refine (eI2 e ls ⟨BC (J1:=J') rfl (show tx "" "_law_lots"=some ir_law_lots from rfl) rfl ?_,I,C⟩);refine ZN KK ?_;refine AJ (BY (BR (AF (Bg (AF (Bg (AF (S_v rfl) AI) (Cp h17 (by simp only[ZF,big];exact Zc n8 (Za rfl)))) AI) (HE (by rw[ZF];exact Zc n8 (Za rfl)))) (AF S_c AI))) rfl (Ao P_v (Ao P_v Cn))) (AJ (J1:=J') (U1:=U++e) ?_ (Ar (BB (S_v E.lots))));rw[ZF];exact k1
theorem lookup_snocG {β:Type}{l:List (Nat×β)}{k k':Nat}{n:β}:(l++[(k,n)]).lookup k'=(l.lookup k').or (if k'=k then some n else none):=by
 induction l with
 | nil =>
  simp only[List.nil_append,List.lookup_nil,Option.none_or,List.lookup_cons]
  by_cases h:k'=k
  ·subst h;simp
  ·have h2:(k' == k)=false:=by simpa using h
   refine ZN h2 ?_;simp[h]
 | cons p r ih =>
  obtain⟨a,b⟩:=p;simp only[List.cons_append,List.lookup_cons];cases k' == a <;> simp[ih]
abbrev FT:=List (Nat×Nat×Nat)
noncomputable def fw (F:FT) (c:Nat):Nat:=((F.lookup c).map (·.1)).getD 0
noncomputable def val (ls:List Nat) (F:FT) (r:Row):Nat:=1+(r.2.map λk=>fw F (ls.getD k 0)).sum
noncomputable def HF (rs:List Row) (ls:List Nat) (F:FT) (n:Nat) (r:Row):Prop:=rs[n]? = some r/\F.lookup (ls.getD n 0)=none/\∀ k∈r.2,∃ p,F.lookup (ls.getD k 0)=some p
inductive Found (rs:List Row) (ls:List Nat):FT->Prop
 | nil:Found rs ls []
 | snoc {F:FT} {n:Nat} {r:Row}:Found rs ls F->HF rs ls F n r->Found rs ls (F++[(ls.getD n 0,val ls F r,n)])
structure SmI (rs:List Row) (ls:List Nat) (F:FT):Prop where
 fnd:Found rs ls F
 top:∃ M,M<2 ^ F.length/\(∀ c p,F.lookup c=some p->p.1<=M)/\∀ n r,HF rs ls F n r->M<=val ls F r
 low:∀ (n:Nat) (r:Row) (p:Nat×Nat),rs[n]? = some r->F.lookup (ls.getD n 0)=some p->(∀ k∈r.2,∃ p,F.lookup (ls.getD k 0)=some p)->p.1<=val ls F r
theorem PC {F:FT}{c c' v n:Nat}{p:Nat×Nat}(h:F.lookup c'=some p):fw (F++[(c,v,n)]) c'=fw F c':=by
 unfold fw;refine ZN lookup_snocG ?_;refine ZN h ?_;rfl
theorem PD {F:FT}{c v n:Nat}(h:F.lookup c=none):fw (F++[(c,v,n)]) c=v:=by
 unfold fw;refine ZN lookup_snocG ?_;refine ZN h ?_;simp
theorem Fq {F:FT}{ls:List Nat}{c v n:Nat}{r:Row}(h:∀ k∈r.2,∃ p,F.lookup (ls.getD k 0)=some p):val ls (F++[(c,v,n)]) r=val ls F r:=by
 unfold val
 congr 2
 exact ZL λk hk=>by obtain⟨p,hp⟩:=h k hk;exact PC hp
theorem SmI.zero {rs:List Row}{ls:List Nat}:SmI rs ls [] :=
 ⟨.nil,⟨0,by decide,(λc p h=>by cases h),λn r h=>Zm _⟩,λn r p h1 h2=>by cases h2⟩
theorem SmI.step {rs:List Row}{ls:List Nat}{F:FT}(S:SmI rs ls F){n:Nat}{r:Row}(A:HF rs ls F n r)(h2:r.2.length<=2)(hmin:∀ n' r',HF rs ls F n' r'->val ls F r<=val ls F r'):SmI rs ls (F++[(ls.getD n 0,val ls F r,n)]):=by
 refine eX1 (S.top) λM zz=>aN3 zz λm1 m2 m3=>?_
 have hMv:=m3 n r A
 have key:∀ r':Row,(∀ k∈r'.2,∃ p,(F++[(ls.getD n 0,val ls F r,n)]).lookup (ls.getD k 0)=some p)->(∀ k∈r'.2,∃ p,F.lookup (ls.getD k 0)=some p)\/val ls F r<=val ls (F++[(ls.getD n 0,val ls F r,n)]) r':=by
  intro r' hk
  by_cases q:∀ k∈r'.2,∃ p,F.lookup (ls.getD k 0)=some p
  ·exact .inl q
  ·right
   have:∃ k∈r'.2,F.lookup (ls.getD k 0)=none:=by
    apply Classical.byContradiction;intro z;refine q λk hk'=>?_
    cases h:F.lookup (ls.getD k 0)with
    | some p=>exact⟨p,rfl⟩
    | none=>exact absurd ⟨k,hk',h⟩ z
   refine eX1 (this) λk zz=>aN2 zz λhk' hn=>?_
   obtain⟨p,hp⟩:=hk k hk';replace hp:=ZO lookup_snocG.symm hp;rw[hn]at hp
   split at hp
   ·rename_i e
    have h3:fw (F++[(ls.getD n 0,val ls F r,n)]) (ls.getD k 0)=val ls F r:=by refine ZN e ?_;exact PD A.2.1
    have h4:=FU (f:=λk=>fw (F++[(ls.getD n 0,val ls F r,n)]) (ls.getD k 0)) hk'
    have h4:fw (F++[(ls.getD n 0,val ls F r,n)]) (ls.getD k 0)<=_:=h4;rw[h3]at h4;show _<=1+_;lia
   ·cases hp
 refine⟨.snoc S.fnd A,⟨val ls F r,?_,?_,?_⟩,?_⟩
 ·have hle:∀ k,fw F k<=M:=λk=>by
   unfold fw;cases h:F.lookup k with
   | none=>exact Zm _
   | some p=>exact m2 k p h
  have:(r.2.map λk=>fw F (ls.getD k 0)).sum<=2 * M:=by
   rcases h:r.2 with _ | ⟨a,_ | ⟨b,_ | ⟨c,l⟩⟩⟩
   ·simp
   ·simp;have:=hle (ls.getD a 0);simp only[List.getD_eq_getElem?_getD]at this;lia
   ·simp;have:=hle (ls.getD a 0);have:=hle (ls.getD b 0);simp only[List.getD_eq_getElem?_getD]at *;lia
   ·rw[h]at h2;simp at h2
  refine ZN ZG ?_;refine ZN ZM ?_;unfold val;lia
 ·intro c p h
  replace h:=ZO lookup_snocG.symm h;cases q:F.lookup c with
  | some p' =>
   rw[q]at h;cases h;have:=m2 c _ q;exact Zc this hMv
  | none =>
   rw[q]at h;replace h:=ZO Option.none_or.symm h
   split at h
   ·cases h;exact Zg _
   ·cases h
 ·intro n' r' ⟨a1,a2,a3⟩
  rcases key r' a3 with q | q
  ·refine ZN (Fq q) ?_
   refine hmin n' r' ⟨a1,?_,q⟩;replace a2:=ZO lookup_snocG.symm a2;cases h:F.lookup (ls.getD n' 0)with
   | none=>rfl
   | some p=>rw[h]at a2;cases a2
  ·exact q
 ·intro n' r' p a1 a2 a3
  have hp:p.1<=val ls F r:=by
   replace a2:=ZO lookup_snocG.symm a2;cases q:F.lookup (ls.getD n' 0)with
   | some p' =>
    rw[q]at a2;cases a2;have:=m2 _ _ q;exact Zc this hMv
   | none =>
    rw[q]at a2;replace a2:=ZO Option.none_or.symm a2
    split at a2
    ·cases a2;exact Zg _
    ·cases a2
  rcases key r' a3 with q | q
  ·refine ZN (Fq q) ?_
   replace a2:=ZO lookup_snocG.symm a2;cases h:F.lookup (ls.getD n' 0)with
   | some p' =>
    rw[h]at a2;cases a2;exact S.low n' r' _ a1 h q
   | none=>exact Zc hp (hmin n' r' ⟨a1,h,q⟩)
  ·exact Zc hp q
theorem Nq {rs:List Row}{ls:List Nat}{F:FT}(kids:∀ (i:Nat)(r:Row),rs[i]? = some r->∀ k∈r.2,k<i)(h:∃ n,n<rs.length/\F.lookup (ls.getD n 0)=none):∃ n r,HF rs ls F n r:=by
 have:∀ m n,n<=m->n<rs.length->F.lookup (ls.getD n 0)=none->∃ n r,HF rs ls F n r:=by
  intro m
  induction m with
  | zero =>
   intro n hn hl hz;have hr:=ZI hl;exact (eI2 n _ ⟨hr,hz,λk hk=>by have:=kids n _ hr k hk;exact False.elim (Nat.not_le_of_lt (Zb (Zm _) this) hn)⟩)
  | succ m ih =>
   intro n hn hl hz;have hr:=ZI hl
   by_cases q:∀ k∈rs[n].2,∃ p,F.lookup (ls.getD k 0)=some p
   ·exact (eI2 n _ ⟨hr,hz,q⟩)
   ·have:∃ k∈rs[n].2,F.lookup (ls.getD k 0)=none:=by
     apply Classical.byContradiction;intro z;refine q λk hk'=>?_
     cases h:F.lookup (ls.getD k 0)with
     | some p=>exact⟨p,rfl⟩
     | none=>exact absurd ⟨k,hk',h⟩ z
    refine eX1 (this) λk zz=>aN2 zz λhk hn'=>?_
    have:=kids n _ hr k hk;exact ih k (by lia) (Ze this hl) hn'
 refine eX1 (h) λn zz=>aN2 zz λh1 h2=>?_
 exact this n n (Zg _) h1 h2
noncomputable def pk (p:Nat×Nat):List At:=[.i (p.1:Int),.i (p.2:Int)]
theorem OT {p q:Nat×Nat}:(Ag (pk p) (pk q)=true->p.1<=q.1)/\(Ag (pk p) (pk q)=false->q.1<=p.1):=by
 unfold pk;simp only[Ag];constructor
 ·intro h
  split at h
  ·rename_i e;injection e;lia
  ·simp only[At.lt]at h
   have:=of_decide_eq_true h;exact Zl (Int.ofNat_lt.mp this)
 ·intro h
  split at h
  ·rename_i e;injection e;lia
  ·simp only[At.lt]at h
   have:=of_decide_eq_false h;lia
theorem NB:∀ A:List (Nat×Nat),A≠[]->∃ p∈A,Bx (A.map pk)=some (pk p)/\∀ q∈A,p.1<=q.1
 | [],h=>absurd rfl h
 | [x],_=>⟨x,by simp,rfl,by simp⟩
 | x::y::r,_=>by
  refine eX1 (NB (y::r) (by simp)) λp zz=>aN3 zz λh1 h2 h3=>?_
  have e:Bx ((x::y::r).map pk)=(Bx ((y::r).map pk)).map λz=>if Ag z (pk x)then z else pk x:=rfl
  refine ZN e ?_;refine ZN h2 ?_;rw[Option.map_some];cases q:Ag (pk p) (pk x)
  ·have:=(OT (p:=p) (q:=x)).2 q
   refine⟨x,by simp,rfl,λz hz=>?_⟩;rcases Zz hz with rfl | hz
   ·exact Zg _
   ·have:=h3 z hz;lia
  ·have:=(OT (p:=p) (q:=x)).1 q
   refine⟨p,List.mem_cons_of_mem _ h1,rfl,λz hz=>?_⟩;rcases Zz hz with rfl | hz
   ·exact this
   ·exact h3 z hz
theorem NC {U:MH}{i:Nat}{A:List (Nat×Nat)}(h:U[i]? = some (.list (A.map pmv)))(h0:A≠[])(h1:A.length<=1000):∃ p∈A,BiP U .min (.ref i) (pmv p)/\∀ q∈A,p.1<=q.1:=by
 refine eX1 (NB A h0) λp zz=>aN3 zz λp1 p2 p3=>?_
 refine⟨p,p1,?_,p3⟩;have hm:∀ A:List (Nat×Nat),(A.map pmv).mapM MV.key? = some (A.map pk):=by
  intro A
  induction A with
  | nil=>rfl
  | cons a r ih =>
   refine ZN ZJ ?_;refine ZO List.mapM_cons ?_;refine ZN ih ?_;rfl
 have hc:(A.map pk).all J9=true/\(A.map pk).length<=1000:=by
  refine⟨?_,by rw[ZF];exact h1⟩;refine List.all_eq_true.mpr ?_;intro x hx;refine eX1 (ZB hx) λa zz=>aN2 zz λ_ q3=>?_;subst q3
  rfl
 exact⟨_,_,_,by simp only[AO,h],hm A,hc,p2,rfl⟩
noncomputable def fE (F:FT):List (Nat×MV):=F.map λp=>(p.1,pmv p.2)
theorem Cf (F:FT)(k:Nat):(fE F).lookup k=(F.lookup k).map pmv:=by
 have:=Bh (f:=λn:Nat=>n) (g:=pmv) (λx y e=>e) F k;exact this
theorem Ps {U:MH}{i:Nat}{o:MO}{l:List (Nat×MV)}(h:U[i]? = some o)(ho:IsD o l):BiP U .len (.ref i) (iv l.length):=by
 rcases ho with rfl | ⟨rfl,rfl⟩
 ·exact .inr (.inr (eI2 i _ ⟨rfl,h,by rw[ZF]⟩))
 ·exact .inr (.inl ⟨i,rfl,h,rfl⟩)
noncomputable def iN (l:List Nat):List Int:=l.map λn:Nat=>(n:Int)
theorem L9 {U:MH}{l:List Nat}(h:l.length<64):BiP U .lenset (.fl (nl l)) (iv (BG (iN l)).length):=(eI2 _ _ ⟨rfl,by rw[AP];exact h,BS l,rfl⟩)
theorem Av {U:MH}{i:Nat}{l:List MV}{x:MV}(h:U[i]? = some (.list l))(hb:l.length<big):MetR U (some true) (.ref i) "append" [x] .none (U.set i (.list (l++[x]))):=.append i l x h hb
noncomputable def fK (F:FT):List Int:=F.map λp=>(p.1:Int)
theorem mem_fK {F:FT}{c:Nat}:(c:Int)∈fK F↔∃ p,F.lookup c=some p:=by
 unfold fK
 induction F with
 | nil=>simp
 | cons p l ih =>
  obtain⟨x,y⟩:=p;refine ZN List.lookup_cons ?_;refine ZN ZJ ?_;rw[List.mem_cons]
  by_cases q:c=x
  ·subst q;simp
  ·refine ZN (show (c == x)=false from beq_false_of_ne q) ?_
   simp only;rw[ih];exact⟨λh=>h.resolve_left (by lia),.inr⟩
set_option tactic.hygienic true in
theorem Found.keys {rs:List Row}{ls:List Nat}{F:FT}(f:Found rs ls F)(hl:ls.length=rs.length):(fK F).Nodup/\(∀ x∈fK F,x∈iN ls):=by
 induction f with
 | nil=>exact⟨List.nodup_nil,λ_ h=>nomatch h⟩
 | snoc f a ih =>
  rename_i F n r;have e:fK (F++[(ls.getD n 0,val ls F r,n)])=fK F++[((ls.getD n 0:Nat):Int)]:=by simp[fK]
  refine ZN e ?_;refine⟨?_,λx hx=>?_⟩
  ·refine List.nodup_append.mpr ?_
   refine⟨ih.1,by simp,λx hx y hy hxy=>?_⟩;replace hy:=Zx hy;rw[hxy,hy]at hx;replace hx:=mem_fK.mp hx;obtain⟨p,hp⟩:=hx;replace hp:=ZO a.2.1.symm hp;cases hp
  ·rcases ZA hx with z | z
   ·exact ih.2 x z
   ·refine ZN (Zx z) ?_
    have hn:=Al a.1;refine ZC ⟨ls.getD n 0,?_,rfl⟩;refine ZN (List.getD_eq_getElem?_getD) ?_;refine ZN (ZI ((lt_of_lt_of_eq hn hl.symm):n<ls.length)) ?_;exact List.getElem_mem _
theorem Found.len {rs:List Row}{ls:List Nat}{F:FT}(f:Found rs ls F)(hl:ls.length=rs.length):F.length<=rs.length:=by
 have h:=Ce (f.keys hl).1 (f.keys hl).2;unfold fK iN at h;rw[ZF,ZF]at h;exact le_of_le_of_eq h hl
theorem H6 {rs:List Row}{ls:List Nat}{F:FT}(f:Found rs ls F)(hl:ls.length=rs.length):F.length<(BG (iN ls)).length↔∃ n,n<rs.length/\F.lookup (ls.getD n 0)=none:=by
 obtain⟨k1,k2⟩:=f.keys hl;have kl:(fK F).length=F.length:=by simp[fK]
 constructor
 ·intro h
  apply Classical.byContradiction;intro z;have:=Ce (a:=BG (iN ls)) (b:=fK F) (Db _) λx hx=>by
   replace hx:=mem_dedup.mp hx;obtain⟨c,hc,rfl⟩:=ZB hx;refine mem_fK.mpr ?_;obtain⟨n,hn⟩:=List.mem_iff_getElem?.mp hc;have hlt:=(List.getElem?_eq_some_iff.mp hn).1
   have hg:ls.getD n 0=c:=by refine ZO (List.getD_eq_getElem?_getD) ?_;refine ZN hn ?_;rfl
   cases h:F.lookup c with
   | some p=>exact⟨p,rfl⟩
   | none=>exact absurd ⟨n,lt_of_lt_of_eq hlt hl,by refine ZN hg ?_;exact h⟩ z
  exact False.elim (Zp (le_of_le_of_eq this kl) h)
 ·intro y0
  obtain⟨n,hn,h⟩:=y0;have:=Ce (a:=((ls.getD n 0:Nat):Int)::fK F) (b:=BG (iN ls)) (by
   refine List.nodup_cons.mpr ?_;refine⟨λz=>?_,k1⟩;replace z:=mem_fK.mp z;obtain⟨p,hp⟩:=z;replace hp:=ZO h.symm hp;cases hp) λx hx=>by
   refine mem_dedup.mpr ?_;rcases Zz hx with rfl | hx
   ·refine ZC ⟨ls.getD n 0,?_,rfl⟩
    refine ZN (List.getD_eq_getElem?_getD) ?_;refine ZN (ZI ((lt_of_lt_of_eq hn hl.symm):n<ls.length)) ?_;exact List.getElem_mem _
   ·exact k2 x hx
  rw[List.length_cons]at this;exact Zd (lt_of_eq_of_lt kl.symm (Zo _)) this
noncomputable def ND:ME:=.and (.cmp .notin (.idx (.v "lots") (.v "n")) (.v "found")) (.cmp .eq (.comp (.v "kid") (.v "kid") .it (.from1 (.v "row")) [.cmp .notin (.idx (.v "lots") (.v "kid")) (.v "found")]) (.flst []))
noncomputable def NE:List MS:=[.ite ND [.expr (.meth (.v "able") "append" [.tup [.bin .add (.c (.int 1)) (.bi .sum [.comp (.idx (.idx (.v "found") (.idx (.v "lots") (.v "kid"))) (.c (.int 0))) (.v "kid") .it (.from1 (.v "row")) []]),.v "n"]])] []]
noncomputable def Kj:List MS:=[.assign (.v "able") (.lst []),.for (.two "n" "row") (.enum ()) (.v "rows") NE,.unpack [.v "few",.v "n"] (.bi .min [.v "able"]),.assign (.idx (.v "found") (.idx (.v "lots") (.v "n"))) (.tup [.v "few",.v "n"])]
theorem Gi:ir_law_smallest=⟨["rows","lots"],[.assign (.v "found") (.dict),.while (.cmp .lt (.bi .len [.v "found"]) (.bi .lenset [.v "lots"])) Kj,.ret (.v "found")]⟩:=rfl
structure F8 (J:ME') (ls:List Nat) (d:Nat):Prop where
 rows:J.lookup "rows"=some (.ref 17)
 lots:J.lookup "lots"=some (.fl (nl ls))
 found:J.lookup "found"=some (.ref d)
theorem wl {J:ME'}{ns:List String}{n:String}{v:MV}(h1:ns.contains n=false)(h2:J.lookup n=some v):(without J ns).lookup n=some v:=by refine ZO (Co h1) ?_;exact h2
theorem Nr {X:CK}{J:ME'}{U:MH}{rs:List Row}{ls:List Nat}{F:FT}{d:Nat}{o:MO}(hT:100<X.turns)(n8:rs.length<=8)(hl:ls.length=rs.length)(hd:U[d]? = some o)(ho:IsD o (fE F))(E:F8 J ls d){i:Nat}{r:Row}(hr:rs[i]? = some r)(h2:r.2.length<=2)(hk:∀ k∈r.2,k<rs.length)
  (e1:J.lookup "row"=some (rmv r)) (e2:J.lookup "n"=some (iv i)):∃ b:Bool,Ev X ND J U (.bool b) U/\(b=true↔HF rs ls F i r):=by
 have hi:=Al hr
 have c1:Ev X (.cmp .notin (.idx (.v "lots") (.v "n")) (.v "found")) J U (.bool (F.lookup (ls.getD i 0)).isNone) U:=by
  have:=FD hd ho (ls.getD i 0);rw[Cf,Option.isNone_map]at this;exact Ap (An (S_v E.lots) (S_v e2) (C4 (CU (lt_of_lt_of_eq hi hl.symm)) (Ze (Zd hi n8) (Za rfl)))) (S_v E.found) this
 cases q:F.lookup (ls.getD i 0)with
 | some p =>
  rw[q]at c1;exact⟨false,Oq c1,⟨(λh=>by cases h),(λh=>by replace q:=ZO h.2.1.symm q;cases q)⟩⟩
 | none =>
  rw[q]at c1;have c2:=Kh (X:=X) (J:=J) (U:=U) (cd:=.cmp .notin (.idx (.v "lots") (.v "kid")) (.v "found")) (n:="kid") (l:=r.2) (q:=λk=>(F.lookup (ls.getD k 0)).isNone) (CL (S_v e1) (by simp[nl,big];exact Zc h2 (Za rfl))) BK (λk hk'=>by
   have:=FD hd ho (ls.getD k 0);rw[Cf,Option.isNone_map]at this;exact Ap (An (S_v (v:=.fl (nl ls)) (wl rfl E.lots)) (S_v rfl) (C4 (CU (by have:=hk k hk';exact lt_of_lt_of_eq this hl.symm)) (by have:=hk k hk';exact Ze (Zd this n8) (Za rfl)))) (S_v (v:=.ref d) (wl rfl E.found)) this) (Zb (Zc h2 (Za rfl)) hT) (by simp only[big];exact Zc h2 (Za rfl))
  refine⟨_,KD c1 (Ap c2 (DZ AI) JU),?_⟩;rw[decide_eq_true_iff,List.filter_eq_nil_iff];constructor
  ·intro h
   refine⟨hr,q,λk hk'=>?_⟩;have:=h k hk';cases z:F.lookup (ls.getD k 0)with
   | some p=>exact⟨p,rfl⟩
   | none=>rw[z]at this;exact absurd rfl this
  ·intro h k hk' z
   obtain⟨p,hp⟩:=h.2.2 k hk';rw[hp]at z;cases z
theorem PE {X:CK}{J:ME'}{U:MH}{rs:List Row}{ls:List Nat}{F:FT}{d:Nat}{o:MO}(hT:100<X.turns)(n8:rs.length<=8)(hl:ls.length=rs.length)(hd:U[d]? = some o)(ho:IsD o (fE F))(hF:∀ c,fw F c<2 ^ 40)(E:F8 J ls d){i:Nat}{r:Row}(A:HF rs ls F i r)(h2:r.2.length<=2)(hk:∀ k∈r.2,k<rs.length)
  (e1:J.lookup "row"=some (rmv r)):Ev X (.bin .add (.c (.int 1)) (.bi .sum [.comp (.idx (.idx (.v "found") (.idx (.v "lots") (.v "kid"))) (.c (.int 0))) (.v "kid") .it (.from1 (.v "row")) []])) J U (iv (val ls F r)) U:=by
 have c2:=D0 (X:=X) (J:=J) (U:=U) (elt:=.idx (.idx (.v "found") (.idx (.v "lots") (.v "kid"))) (.c (.int 0))) (n:="kid") (l:=r.2) (f:=λk=>fw F (ls.getD k 0)) (CL (S_v e1) (by simp[nl,big];exact Zc h2 (Za rfl))) BK (λk hk'=>by
  obtain⟨p,hp⟩:=A.2.2 k hk';have hv:fw F (ls.getD k 0)=p.1:=by unfold fw;refine ZN hp ?_;rfl
  refine An (x:=pmv p) (y:=iv 0) (An (S_v (v:=.ref d) (wl rfl E.found)) (An (S_v (v:=.fl (nl ls)) (wl rfl E.lots)) (S_v rfl) (C4 (CU (by have:=hk k hk';exact lt_of_lt_of_eq this hl.symm)) (by have:=hk k hk';exact Ze (Zd this n8) (Za rfl)))) (FA hd ho (by rw[Cf];refine ZN hp ?_;rfl))) S_c ?_;refine ZN hv ?_;exact EC (k:=0) rfl (by decide)) (Zb (Zc h2 (Za rfl)) hT) (by simp only[big];exact Zc h2 (Za rfl))
 exact Bb (x:=iv 1) S_c (Bg (AF c2 AI) (IG (by rw[ZF];exact Zc h2 (Za rfl)) (λx hx=>by obtain⟨k,_,rfl⟩:=ZB hx;exact hF _))) (Cy 1 _)
structure OU (rs:List Row) (ls:List Nat) (F:FT) (i:Nat) (A:List (Nat×Nat)):Prop where
 len:A.length<=i
 mem:∀ p∈A,∃ r,HF rs ls F p.2 r/\p.1=val ls F r
 all:∀ n r,n<i->HF rs ls F n r->(val ls F r,n)∈A
theorem PF {X:CK}{J:ME'}{τ:MH}{rs:List Row}{ls:List Nat}{F:FT}{d:Nat}{o:MO}(hT:100<X.turns)(n8:rs.length<=8)(hl:ls.length=rs.length)(h17:τ[17]? = some (.list (rs.map rmv)))(hd:τ[d]? = some o)(ho:IsD o (fE F))(hF:∀ c,fw F c<2 ^ 40)(E:F8 J ls d)
  (kids:∀ (i:Nat) (r:Row),rs[i]? = some r->r.2.length<=2/\∀ k∈r.2,k<i) (ea:J.lookup "able"=some (.ref τ.length)) :
  ∃ J' A,Xs X (.for (.two "n" "row") (.enum ()) (.v "rows") NE) J (τ++[.list []]) .next J' (τ++[.list (A.map pmv)])/\OU rs ls F rs.length A/\F8 J' ls d/\J'.lookup "able"=some (.ref τ.length):=by
 have g17:∀ a:MO,(τ++[a])[17]? = some (.list (rs.map rmv)):=λa=>by refine ZO (List.getElem?_append_left ((List.getElem?_eq_some_iff.mp h17).1)) ?_;exact h17
 have gd:∀ a:MO,(τ++[a])[d]? = some o:=λa=>by refine ZO (List.getElem?_append_left ((List.getElem?_eq_some_iff.mp hd).1)) ?_;exact hd
 have hll:(rs.zipIdx.map λp=>MV.tup [iv p.2,rmv p.1]).length=rs.length:=by simp
 refine eX2 (Eu (X:=X) (J:=J) (U:=τ++[.list []]) (t:=.two "n" "row") (k:=(.enum ())) (iter:=.v "rows") (b:=NE) (l:=rs.zipIdx.map λp=>.tup [iv p.2,rmv p.1])
  (λi J U'=>∃ A,U'=τ++[.list (A.map pmv)]/\OU rs ls F i A/\F8 J ls d/\J.lookup "able"=some (.ref τ.length)) (S_v E.rows) (λi J U' _ hi=>by
   obtain⟨A,rfl,_⟩:=hi;exact H5 (g17 _)) (by
   intro i y J U' hy y5;refine eX1 (y5) λA zz=>aN4 zz λq2 I E ea=>?_;subst q2
   replace hy:=ZO (ZH).symm hy;obtain⟨⟨r,j⟩,hz,rfl⟩:=ZD hy;replace hz:=ZO (List.getElem?_zipIdx).symm hz;obtain⟨r',hr,hz⟩:=ZD hz;cases hz;rw[Nat.zero_add];have hi:=Al hr;obtain⟨q1,q2⟩:=kids i r hr;have hk:∀ k∈r.2,k<rs.length:=λk hk=>by have:=q2 k hk;exact Ze this hi
   have E1:F8 (("row",rmv r)::("n",iv i)::J) ls d:=⟨E.rows,E.lots,E.found⟩
   obtain⟨b,c1,c2⟩:=Nr (X:=X) (U:=τ++[.list (A.map pmv)]) hT n8 hl (gd _) ho E1 hr q1 hk rfl rfl;cases b with
   | false =>
    refine⟨_,.next,_,_,rfl,AJ (B5 c1 AY) AY,.inl rfl,A,rfl,⟨by have:=I.len;exact Zj this,I.mem,λn' r' hn' ha=>?_⟩,E1,ea⟩
    by_cases z:n'=i
    ·subst z
     have:=ha.1;replace this:=ZO hr.symm this;cases this;exact absurd (c2.mpr ha) (by decide)
    ·exact I.all n' r' (Zu (Zr hn') z) ha
   | true =>
    have ha:=c2.mp rfl
    have hap:=Av (U:=τ++[MO.list (A.map pmv)]) (i:=τ.length) (l:=A.map pmv) (x:=pmv (val ls F r,i)) DQ (by rw[ZF];have:=I.len;simp only[big];exact Ze (Zd (Zb this hi) n8) (Za rfl));rw[set0]at hap;have hA:A.map pmv++[pmv (val ls F r,i)]=(A++[(val ls F r,i)]).map pmv:=by simp
    rw[hA]at hap;refine⟨_,.next,_,_,rfl,AJ (CT c1 (AJ (BN (B0 (S_v (ea:List.lookup "able" (("row",rmv r)::("n",iv i)::J)=_)) DQ (AF (BR (AF (PE (X:=X) (U:=τ++[.list (A.map pmv)]) hT n8 hl (gd _) ho hF E1 ha q1 hk rfl) (AF (S_v rfl) AI))) AI) hap)) AY)) AY,.inl rfl,_,rfl,⟨by refine ZN ZG ?_;have:=I.len;simp;exact this,λp hp=>?_,λn' r' hn' ha'=>?_⟩,E1,ea⟩
    ·rcases ZA hp with z | z
     ·exact I.mem p z
     ·refine ZN (Zx z) ?_;exact⟨r,ha,rfl⟩
    ·by_cases z:n'=i
     ·subst z
      have:=ha'.1;replace this:=ZO hr.symm this;cases this;exact List.mem_append_right _ (List.mem_singleton.mpr rfl)
     ·exact List.mem_append_left _ (I.all n' r' (Zu (Zr hn') z) ha')) ⟨[],rfl,⟨Zg _,(λp hp=>nomatch hp),(λn r h _=>absurd h (Zp (Zm _)))⟩,E,ea⟩ (by refine ZN hll ?_;exact Zb (Zc n8 (Za rfl)) hT)) λJ' U' zz=>aN2 zz λk1 zz=>eX1 zz λA zz=>aN4 zz λq5 k2 k3 k4=>?_;subst q5
 rw[hll]at k2;exact (eI2 (J') A ⟨k1,k2,k3,k4⟩)
theorem SmI.bound {rs:List Row}{ls:List Nat}{F:FT}(S:SmI rs ls F)(hl:ls.length=rs.length)(n8:rs.length<=8):∀ c,fw F c<256:=by
 intro c;refine eX1 (S.top) λM zz=>aN3 zz λm1 m2 _=>?_
 have:=S.fnd.len hl
 have h2:2 ^ F.length<=2 ^ 8:=Nat.pow_le_pow_right (by decide) (Zc this n8);unfold fw;cases h:F.lookup c with
 | none=>simp
 | some p =>
  have:=m2 c p h;simp;exact Zd (Zd (Zb this m1) h2) (Za rfl)
theorem KM {U:MH}{rs:List Row}{ls:List Nat}(h17:U[17]? = some (.list (rs.map rmv)))(n8:rs.length<=8)(hl:ls.length=rs.length)(kids:∀ (i:Nat)(r:Row),rs[i]? = some r->r.2.length<=2/\∀ k∈r.2,k<i)(n:Nat) :
  ∃ e o F,run (n+1) "" "_law_smallest" [.ref 17,.fl (nl ls)] U (.ref U.length) (U++o::e)/\IsD o (fE F)/\SmI rs ls F/\∀ k,k<rs.length->∃ p,F.lookup (ls.getD k 0)=some p:=by
 have hT:100<(XX n).turns:=by show 100<10000;decide
 have g17:∀ e:MH,(U++e)[17]? = some (.list (rs.map rmv)):=λe=>by refine ZO (List.getElem?_append_left ((List.getElem?_eq_some_iff.mp h17).1)) ?_;exact h17
 have key:=λ{m0:Nat} {J0:ME'} {U0:MH}=>EB (X:=(XX n)) (c:=(.cmp .lt (.bi .len [.v "found"]) (.bi .lenset [.v "lots"]))) (b:=Kj) (m:=m0) (J:=J0) (U:=U0)
  (λm J U'=>∃ e o F,U'=U++o::e/\F8 J ls U.length/\IsD o (fE F)/\SmI rs ls F/\m=8 - F.length)
  (λJ U'=>∃ e o F,U'=U++o::e/\F8 J ls U.length/\IsD o (fE F)/\SmI rs ls F/\∀ k,k<rs.length->∃ p,F.lookup (ls.getD k 0)=some p) (by
  intro m J U' y3;refine eX3 (y3) λe o F zz=>aN5 zz λq4 E ho S q8=>?_;subst q4;subst q8
  have hc:Ev (XX n) (.cmp .lt (.bi .len [.v "found"]) (.bi .lenset [.v "lots"])) J (U++o::e) (.bool (decide (F.length<(BG (iN ls)).length))) (U++o::e):=by
   have h1:=Ps (U:=U++o::e) (i:=U.length) DQ ho;rw[show (fE F).length=F.length from ZF _]at h1;exact Ap (Bg (AF (S_v E.found) AI) h1) (Bg (AF (S_v E.lots) AI) (L9 (Zb (le_of_eq_of_le hl n8) (Za rfl)))) (CW _ _)
  by_cases q:F.length<(BG (iN ls)).length
  ·right
   rw[decide_eq_true q]at hc;refine⟨_,hc,?_⟩;have hF:∀ c,fw F c<2 ^ 40:=λc=>by have:=S.bound hl n8 c;exact Ze this (Za rfl)
   refine eX2 (PF (X:=XX n) (J:=("able",.ref (U++o::e).length)::J) (τ:=U++o::e) hT n8 hl (g17 _) DQ ho hF ⟨E.rows,E.lots,E.found⟩ kids rfl) λJ' A zz=>aN4 zz λk1 k2 k3 k4=>?_
   refine eX2 (Nq (λi r hr=>(kids i r hr).2) ((H6 S.fnd hl).mp q)) λn0 r0 ha0=>?_
   have hA0:A≠[]:=λz=>by
    have:=k2.all n0 r0 (Al ha0.1) ha0;rw[z]at this;cases this
   refine eX1 (NC (U:=(U++o::e)++[.list (A.map pmv)]) (i:=(U++o::e).length) DQ hA0 (by have:=k2.len;exact Zc (Zc this n8) (Za rfl))) λp zz=>aN3 zz λp1 p2 p3=>?_
   refine eX1 (k2.mem p p1) λr zz=>aN2 zz λha hv=>?_
   have hn:=Al ha.1
   have hb:(fE F).length<big:=by refine ZN (show (fE F).length=F.length from ZF _) ?_;have:=S.fnd.len hl;simp only[big];exact Zb (Zc this n8) (Za rfl)
   refine eX1 (ho.set (ls.getD p.2 0) (pmv p) hb) λo' zz=>aN4 zz λd1 d2 d3 d4=>?_
   have hput:putN (fE F) (ls.getD p.2 0) (pmv p)=fE (F++[(ls.getD p.2 0,val ls F r,p.2)]):=by
    unfold putN;rw[Cf];refine ZN ha.2.1 ?_;simp[fE,<- hv]
   rw[hput]at d2;have hst:(U++o::e)++[MO.list (A.map pmv)]=U++o::(e++[MO.list (A.map pmv)]):=by simp
   refine⟨.next,("n",iv p.2)::("few",iv p.1)::J',U++o'::(e++[MO.list (A.map pmv)]),AJ (AS (C8 AI) P_v) (AJ k1 (AJ (BY (Bg (AF (S_v k4) AI) p2) rfl (Ao P_v (Ao P_v Cn))) (AJ (AS (v:=pmv p) (BR (AF (S_v rfl) (AF (S_v rfl) AI))) ?_) AY))),.inl rfl,8 - (F.length+1),?_,e++[MO.list (A.map pmv)],o',_,rfl,⟨k3.rows,k3.lots,k3.found⟩,d2,S.step ha (kids _ _ ha.1).1 (λn' r' ha'=>?_),by simp⟩
   ·refine ZN hst ?_
    have:=FQ (X:=XX n) (v:=pmv p) (U:=U++o::(e++[MO.list (A.map pmv)])) (J:=("n",iv p.2)::("few",iv p.1)::J') (o:=.v "found") (i:=.idx (.v "lots") (.v "n")) (S_v k3.found) (An (S_v k3.lots) (S_v rfl) (C4 (CU ((lt_of_lt_of_eq hn hl.symm):p.2<ls.length)) (Ze (Zd hn n8) (Za rfl)))) DQ d3 d4 d1;rw[set0]at this;exact this
   ·have h1:=(S.step ha (kids _ _ ha.1).1 (λn' r' ha'=>by
     have:=p3 _ (k2.all n' r' (Al ha'.1) ha');refine ZN hv.symm ?_;exact this)).fnd.len hl
    rw[ZG,ZM]at h1;exact Internal.step_lt (Zo _) (Zd h1 n8)
   ·have:=p3 _ (k2.all n' r' (Al ha'.1) ha')
    refine ZN hv.symm ?_;exact this
  ·left
   rw[decide_eq_false q]at hc;refine⟨_,hc,e,o,F,rfl,E,ho,S,λk hk=>?_⟩;cases z:F.lookup (ls.getD k 0)with
   | some p=>exact⟨p,rfl⟩
   | none=>exact absurd ((H6 S.fnd hl).mpr ⟨k,hk,z⟩) q)
 refine eX2 (key (m0:=8) (J0:=[("found",.ref U.length),("lots",.fl (nl ls)),("rows",.ref 17)]) (U0:=(U++[.ed]))
  ⟨[],.ed,[],rfl,⟨rfl,rfl,rfl⟩,.inr ⟨rfl,rfl⟩,SmI.zero,rfl⟩ (by show 8<10000;decide)) λJ' U' zz=>aN2 zz λk1 zz=>eX3 zz λe o F zz=>aN5 zz λq7 E ho S hall=>?_;subst q7
 refine⟨e,o,F,BC (J1:=J') rfl (show tx "" "_law_smallest"=some ir_law_smallest from rfl) rfl ?_,ho,S,hall⟩;refine ZN Gi ?_;refine AJ (AS EZ P_v) (AJ (J1:=J') (U1:=U++o::e) ?_ (Ar (BB (S_v E.found))));exact k1
set_option tactic.hygienic true in
theorem Found.att {rs:List Row}{ls:List Nat}{F:FT}(f:Found rs ls F):∀ (c:Nat)(p:Nat×Nat),F.lookup c=some p->∃ r,rs[p.2]? = some r/\ls.getD p.2 0=c/\p.1=val ls F r/\∀ k∈r.2,∃ q,F.lookup (ls.getD k 0)=some q:=by
 induction f with
 | nil=>intro c p h;cases h
 | snoc f a ih =>
  rename_i F n r;have up:∀ (c:Nat) (q:Nat×Nat),F.lookup c=some q->(F++[(ls.getD n 0,val ls F r,n)]).lookup c=some q:=λc q h=>by refine ZO lookup_snocG ?_;refine ZN h ?_;rfl
  intro c p h;replace h:=ZO lookup_snocG.symm h;cases q:F.lookup c with
  | some p' =>
   rw[q]at h;cases h;refine eX1 (ih c _ q) λr' zz=>aN4 zz λa1 a2 a3 a4=>?_
   exact⟨r',a1,a2,by refine ZN (Fq a4) ?_;exact a3,λk hk=>by obtain⟨z,hz⟩:=a4 k hk;exact⟨z,up _ _ hz⟩⟩
  | none =>
   rw[q]at h
   split at h
   ·rename_i e
    cases h;exact⟨r,a.1,e.symm,by rw[Fq a.2.2],λk hk=>by obtain⟨z,hz⟩:=a.2.2 k hk;exact⟨z,up _ _ hz⟩⟩
   ·cases h
theorem NF {H:HV}{ls:List Nat}{F:FT}(S:SmI H.rs ls F)(w:Wf H)(heq:∀ x,x<H.rs.length->ls.getD x 0=fd H.par x)(hall:∀ k,k<H.rs.length->∃ p,F.lookup (ls.getD k 0)=some p):Kf H (fw F):=by
 have hv:∀ (i:Nat) (r:Row),H.rs[i]? = some r->val ls F r=1+(r.2.map λj=>fw F (fd H.par j)).sum:=λi r hr=>by
  unfold val
  congr 2
  exact ZL λk hk=>by rw[heq k (by have:=(w.kids i r hr).2 k hk;have:=Al hr;lia)]
 refine⟨λi r hr=>?_,λa ha=>?_⟩
 ·have hi:=Al hr
  obtain⟨p,hp⟩:=hall i hi;have:=S.low i r p hr hp (λk hk=>hall k (by have:=(w.kids i r hr).2 k hk;exact Ze this hi));rw[hv i r hr]at this;refine ZN (heq i hi).symm ?_;have e:fw F (ls.getD i 0)=p.1:=by unfold fw;refine ZN hp ?_;rfl
  refine ZN e ?_;exact this
 ·obtain⟨p,hp⟩:=hall a ha
  refine eX1 (S.fnd.att _ _ hp) λr zz=>aN4 zz λa1 a2 a3 _=>?_
  refine (eI2 p.2 r ⟨a1,by refine ZO (heq _ (Al a1)).symm ?_;refine ZN (heq a ha).symm ?_;exact a2,?_⟩);refine ZN (heq a ha).symm ?_;refine ZN (hv _ r a1).symm ?_;refine ZN a3.symm ?_;unfold fw;refine ZN hp ?_;rfl
set_option tactic.hygienic true in
theorem La {H:HV}{ls:List Nat}{G F:FT}{U:MH}{d:Nat}{o:MO}(w:Wf H)(h17:U[17]? = some (.list (H.rs.map rmv)))(hl:ls.length=H.rs.length)(heq:∀ x,x<H.rs.length->ls.getD x 0=fd H.par x)(hd:U[d]? = some o)(ho:IsD o (fE G))(f:Found H.rs ls F)(hG:∀ (c:Nat)(p:Nat×Nat),F.lookup c=some p->G.lookup c=some p) :
  ∀ (c:Nat) (p:Nat×Nat),F.lookup c=some p->∃ t k,k<=F.length/\C5 H c t p.1 k/\∀ m,k<=m->run (m+1) "" "_law_term" [.ref 17,.fl (nl ls),.ref d,iv c] U t U:=by
 have n8:=w.n8
 induction f with
 | nil=>intro c p h;cases h
 | snoc f a ih =>
  rename_i F n r;have up:∀ (c:Nat) (q:Nat×Nat),F.lookup c=some q->(F++[(ls.getD n 0,val ls F r,n)]).lookup c=some q:=λc q h=>by refine ZO lookup_snocG ?_;refine ZN h ?_;rfl
  have ih:=ih (λc p h=>hG c p (up c p h));intro c p h;have hg:=hG c p h;refine ZN ZG ?_;refine ZN ZM ?_;replace h:=ZO lookup_snocG.symm h;cases q:F.lookup c with
  | some p' =>
   rw[q]at h;cases h;refine eX2 (ih c _ q) λt k zz=>aN3 zz λt1 t2 t3=>?_
   exact (eI2 t k ⟨Zj t1,t2,t3⟩)
  | none =>
   rw[q]at h
   split at h
   ·rename_i e
    cases h;subst e;have hn:=Al a.1;obtain⟨w1,w2⟩:=w.kids n r a.1;have step:∀ (m:Nat) (ts:List MV),ts.length=r.2.length->(∀ (i k:Nat) (t:MV),r.2[i]? = some k->ts[i]? = some t->run m "" "_law_term" [.ref 17,.fl (nl ls),.ref d,iv (ls.getD k 0)] U t U) ->
      run (m+1) "" "_law_term" [.ref 17,.fl (nl ls),.ref d,iv (ls.getD n 0)] U (.tup (.str r.1::ts)) U:=by
     intro m ts hts hk;have e1:Ev (XX m) (.idx (.v "rows") (.idx (.idx (.v "found") (.v "lot")) (.c (.int 1)))) [("lot",iv (ls.getD n 0)),("found",.ref d),("lots",.fl (nl ls)),("rows",.ref 17)] U (rmv r) U :=
      An (S_v rfl) (An (y:=iv 1) (An (S_v rfl) (S_v rfl) (FA hd ho (by rw[Cf];refine ZN hg ?_;rfl))) S_c (EC (k:=1) (l:=[iv _,iv n]) rfl (by decide))) (Bd h17 (Gb a.1) (Ze (Zd hn n8) (Za rfl)))
     have e2:=Ca (X:=XX m) (J:=[("row",rmv r),("lot",iv (ls.getD n 0)),("found",.ref d),("lots",.fl (nl ls)),("rows",.ref 17)]) (U:=U) (elt:=.call (.g "" "_law_term") [.v "rows",.v "lots",.v "found",.idx (.v "lots") (.v "kid")]) (n:="kid") (k:=.it) (l:=nl r.2) (out:=ts)
      (CL (o:=.v "row") (S_v rfl) (by simp[nl,big];exact Zc w1 (Za rfl))) BK (by rw[AP];exact hts) (λi y v hy hv=>by
       unfold nl at hy;replace hy:=ZO (ZH).symm hy;obtain⟨k,hk1,rfl⟩:=ZD hy;have hk2:=w2 k (Zy hk1);exact Bc (k:="") (n:="_law_term") S_g (AF (S_v rfl) (AF (S_v rfl) (AF (S_v rfl) (AF (An (S_v (v:=.fl (nl ls)) rfl) (S_v rfl) (C4 (CU (lt_of_lt_of_eq (Ze hk2 hn) hl.symm)) (Ze (Zd (Ze hk2 hn) n8) (Za rfl)))) AI)))) (hk i k v hk1 hv)) (by rw[AP];show _<10000;exact Zb w1 (Za rfl)) (by rw[AP];simp only[big];exact Zc w1 (Za rfl))
     refine BC rfl (show tx "" "_law_term"=some ir_law_term from rfl) rfl (AJ (AS e1 P_v) (Ar (BB (Bb (BR (AF (An (S_v rfl) S_c Ga) AI)) (ED e2 rfl (by simp only[big];exact Zc (le_of_eq_of_le hts w1) (Za rfl))) ?_))));exact FB (a:=[_]) (by simp[big];exact Zc (Nat.add_le_add (Zg _) (le_of_eq_of_le hts w1)) (Za rfl))
    have hr:=a.1;obtain⟨op,ks⟩:=r;have fwk:∀ k q,F.lookup (ls.getD k 0)=some q->fw F (ls.getD k 0)=q.1:=λk q h=>by unfold fw;refine ZN h ?_;rfl
    rcases ks with _ | ⟨k,_ | ⟨j,_ | ⟨z,zs⟩⟩⟩
    ·refine (eI2 (.tup [.str op]) 1 ⟨Zs _ _,?_,λm hm=>?_⟩)
     ·refine ZN (heq n hn) ?_;exact .c0 hr
     ·exact step m [] rfl (λi k t h _=>by simp at h)
    ·obtain⟨q1,hq1⟩:=a.2.2 k (by simp)
     refine eX2 (ih _ _ hq1) λt d1 zz=>aN3 zz λt1 t2 t3=>?_
     have hkN:k<H.rs.length:=by have:=w2 k (by simp);exact Ze this hn
     refine (eI2 (.tup [.str op,t]) (d1+1) ⟨Nat.succ_le_succ t1,?_,λm hm=>?_⟩)
     ·have hv:val ls F (op,[k])=1+q1.1:=by unfold val;simp only[ZJ,List.map_nil,List.sum_cons,List.sum_nil];refine ZN (fwk k q1 hq1) ?_;lia
      show C5 H (ls.getD n 0) _ (val ls F (op,[k])) _;refine ZN hv ?_;refine ZN (heq n hn) ?_;rw[heq k hkN]at t2;exact .c1 hr t2
     ·obtain⟨m',rfl⟩:∃ m',m=m'+1:=⟨m - 1,(Nat.sub_add_cancel (Zc (Zs _ _) hm)).symm⟩
      refine step (m'+1) [t] rfl (λi k' t' h1 h2=>?_);rcases i with _ | i
      ·cases h1;cases h2;exact t3 m' (Nat.le_of_succ_le_succ hm)
      ·simp at h1
    ·obtain⟨q1,hq1⟩:=a.2.2 k (by simp)
     obtain⟨q2,hq2⟩:=a.2.2 j (by simp);refine eX2 (ih _ _ hq1) λt d1 zz=>aN3 zz λt1 t2 t3=>?_
     refine eX2 (ih _ _ hq2) λs d2 zz=>aN3 zz λs1 s2 s3=>?_
     have hkN:k<H.rs.length:=by have:=w2 k (by simp);exact Ze this hn
     have hjN:j<H.rs.length:=by have:=w2 j (by simp);exact Ze this hn
     refine (eI2 (.tup [.str op,t,s]) (max d1 d2+1) ⟨Nat.succ_le_succ (Nat.max_le.mpr ⟨t1,s1⟩),?_,λm hm=>?_⟩)
     ·have hv:val ls F (op,[k,j])=1+q1.1+q2.1:=by unfold val;simp only[ZJ,List.map_nil,List.sum_cons,List.sum_nil];refine ZN (fwk k q1 hq1) ?_;refine ZN (fwk j q2 hq2) ?_;lia
      show C5 H (ls.getD n 0) _ (val ls F (op,[k,j])) _;refine ZN hv ?_;refine ZN (heq n hn) ?_;rw[heq k hkN]at t2;rw[heq j hjN]at s2;exact .c2 hr t2 s2
     ·obtain⟨m',rfl⟩:∃ m',m=m'+1:=⟨m - 1,(Nat.sub_add_cancel (Zc (Zs _ _) hm)).symm⟩
      refine step (m'+1) [t,s] rfl (λi k' t' h1 h2=>?_);rcases i with _ | _ | i
      ·cases h1;cases h2;exact t3 m' (Zc (Nat.le_max_left _ _) (Nat.le_of_succ_le_succ hm))
      ·cases h1;cases h2;exact s3 m' (Zc (Nat.le_max_right _ _) (Nat.le_of_succ_le_succ hm))
      ·simp at h1
    ·simp at w1
   ·cases h
theorem E5 {U:MH}{op:String}{ts:List MV}{ss:List Nat}{m:Nat}(hl:ss.length=ts.length)(h2:ts.length<=2)(hb:∀ x∈ss,x<2 ^ 40)(hk:∀ (i:Nat)(t:MV)(s:Nat),ts[i]? = some t->ss[i]? = some s->run m "" "_law_nodes" [t] U (iv s) U) :
  run (m+1) "" "_law_nodes" [.tup (.str op::ts)] U (iv (1+ss.sum)) U:=by
 have e2:=Ca (X:=XX m) (J:=[("term",.tup (.str op::ts))]) (U:=U) (elt:=.call (.g "" "_law_nodes") [.v "kid"]) (n:="kid") (k:=.it) (l:=ts) (out:=nl ss)
  (CL (o:=.v "term") (l:=.str op::ts) (S_v rfl) (by simp[big];exact Zc h2 (Za rfl))) BK (by rw[AP];exact hl) (λi y v hy hv=>by
   unfold nl at hv;replace hv:=ZO (ZH).symm hv;refine eX1 (ZD hv) λs zz=>aN2 zz λhs q3=>?_;subst q3
   exact Bc (k:="") (n:="_law_nodes") S_g (AF (S_v rfl) AI) (hk i y s hy hs)) (by show _<10000;exact Zb h2 (Za rfl)) (by simp only[big];exact Zc h2 (Za rfl))
 exact BC rfl (show tx "" "_law_nodes"=some ir_law_nodes from rfl) rfl (Ar (BB (Bb (x:=iv 1) S_c (Bg (AF e2 AI) (IG (Zc (le_of_eq_of_le hl h2) (Za rfl)) hb)) (Cy 1 _))))
set_option tactic.hygienic true in
theorem Nt {H:HV}{U:MH}{c sz d:Nat}{t:MV}(ht:C5 H c t sz d):sz<2 ^ 40->∀ m,d<=m->run (m+1) "" "_law_nodes" [t] U (iv sz) U:=by
 induction ht with
 | c0 h=>exact λ_ m hm=>E5 (ss:=[]) rfl (by simp) (λ_ h=>nomatch h) (λi t s h _=>by simp at h)
 | c1 h t1 ih =>
  intro hs m hm;rename_i n k s d op t;obtain⟨m',rfl⟩:∃ m',m=m'+1:=⟨m - 1,(Nat.sub_add_cancel (Zc (Zs _ _) hm)).symm⟩
  have:=E5 (U:=U) (op:=op) (ts:=[t]) (ss:=[s]) (m:=m'+1) rfl (by simp) (λx hx=>by refine ZN (Zx hx) ?_;exact Zb (Zs _ _) hs) (λi t' s' h1 h2=>by
   rcases i with _ | i
   ·cases h1;cases h2;exact ih (Zb (Zs _ _) hs) m' (Nat.le_of_succ_le_succ hm)
   ·simp at h1)
  simpa using this
 | c2 h t1 t2 ih1 ih2 =>
  intro hs m hm;rename_i n k j s d s2 d2 op t t';obtain⟨m',rfl⟩:∃ m',m=m'+1:=⟨m - 1,(Nat.sub_add_cancel (Zc (Zs _ _) hm)).symm⟩
  have:=E5 (U:=U) (op:=op) (ts:=[t,t']) (ss:=[s,s2]) (m:=m'+1) rfl (by simp) (λx hx=>by
   rcases Zz hx with rfl | hx
   ·exact Zb (Zc (Zs _ _) (Zt _ _)) hs
   ·refine ZN (Zx hx) ?_;exact Zb (Zs _ _) hs) (λi t'' s' h1 h2=>by
   rcases i with _ | _ | i
   ·cases h1;cases h2;exact ih1 (Zb (Zc (Zs _ _) (Zt _ _)) hs) m' (Zc (Nat.le_max_left _ _) (Nat.le_of_succ_le_succ hm))
   ·cases h1;cases h2;exact ih2 (Zb (Zs _ _) hs) m' (Zc (Nat.le_max_right _ _) (Nat.le_of_succ_le_succ hm))
   ·simp at h1)
  have e:1+[s,s2].sum=1+s+s2:=by simp;exact (Nat.add_assoc _ _ _).symm
  rw[e]at this;exact this
noncomputable def JW (U:MH) (place:Nat):Prop:=∃ cells:List Nat,cells.length<=48/\U[0]? = some (.list [.fl (nl cells),iv place])
theorem PG {U:MH}{place many:Nat}(h:JW U place)(hp:place<2 ^ 20)(hm:0<many)(n:Nat):∃ v x,v<many/\run (n+1) "" "_law_reel" [.ref 0,iv many] U (iv v) (U.set 0 x)/\JW (U.set 0 x) (place+1):=by
 refine eX1 (h) λcells zz=>aN2 zz λhc h0=>?_
 have h1:(U.set 0 (.list [.fl (nl cells),iv (place+1)]))[0]? = some (.list [.fl (nl cells),iv (place+1)]):=by simp[((List.getElem?_eq_some_iff.mp h0).1)]
 have u2:Xs (XX n) (.assign (.idx (.v "spool") (.c (.int 1))) (.bin .add (.v "place") (.c (.int 1)))) [("place",iv place),("many",iv many),("spool",.ref 0)] U .next [("place",iv place),("many",iv many),("spool",.ref 0)] (U.set 0 (.list [.fl (nl cells),iv (place+1)])) :=
  AS (Bb (y:=iv 1) (S_v rfl) S_c (Cy place 1)) (Mf (k:=1) (a:=0) (l:=[.fl (nl cells),iv place]) (S_v rfl) S_c h0 (by simp) (by decide))
 generalize hσ:U.set 0 (.list [.fl (nl cells),iv (place+1)])=τ at *;have u3:Ev (XX n) (.cmp .lt (.v "place") (.bi .len [.idx (.v "spool") (.c (.int 0))])) [("place",iv place),("many",iv many),("spool",.ref 0)] τ (.bool (decide (place<cells.length))) τ:=by
  refine Ap (S_v rfl) (Bg (AF (An (y:=iv 0) (S_v rfl) S_c (Bd (k:=0) h1 rfl (by decide))) AI) ?_) (CW place cells.length);have hb:(nl cells).length<=big:=by rw[AP];simp only[big];exact Zc hc (Za rfl)
  exact .inl ⟨_,rfl,hb,by rw[AP]⟩
 have fin:∀ v:Nat,BinR τ .mod (iv v) (iv many) (iv (v % many)):=λv=>by
  have hne:¬ ((many:Int)=0):=by lia
  refine (BinR.mod v many hne).to (congrArg MV.int ?_);refine ZO (Int.fmod_eq_emod_of_nonneg _ (Int.natCast_nonneg _)) ?_;lia
 have key:∃ v:Nat,Ev (XX n) (.ite (.cmp .lt (.v "place") (.bi .len [.idx (.v "spool") (.c (.int 0))])) (.idx (.idx (.v "spool") (.c (.int 0))) (.v "place")) (.bin (.fdiv ()) (.bin .add (.bin .add (.bin .mul (.bin .mul (.c (.int 5)) (.v "place")) (.v "place")) (.bin .mul (.c (.int 7)) (.v "place"))) (.c (.int 8))) (.c (.int 4)))) [("place",iv place),("many",iv many),("spool",.ref 0)] τ (iv v) τ:=by
  by_cases q:place<cells.length
  ·rw[decide_eq_true q]at u3
   exact⟨_,KF u3 (An (An (y:=iv 0) (S_v rfl) S_c (Bd (k:=0) h1 rfl (by decide))) (S_v rfl) (C4 (CU q) (Ze hp (Za rfl))))⟩
  ·rw[decide_eq_false q]at u3
   have mul:∀ a b:Nat,a<2 ^ 60->b<2 ^ 60->BinR τ .mul (iv a) (iv b) (iv (a * b)):=λa b ha hb=>.mul a b ⟨ha,hb⟩
   have sq:5 * place * place<2 ^ 43:=by
    have h1:5 * place<=5 * 2 ^ 20:=Zc (Nat.mul_le_mul (Zg _) (Zl hp)) (Za rfl)
    have:=Nat.mul_le_mul h1 (Zl hp);exact Zb this (Za rfl)
   have dv:BinR τ (.fdiv ()) (iv (5 * place * place+7 * place+8)) (iv 4) (iv ((5 * place * place+7 * place+8) / 4)):=by
    generalize hg:5 * place * place+7 * place+8=g;refine (BinR.fdiv g 4 ⟨Int.natCast_nonneg _,by lia,by decide,by decide⟩).to (congrArg MV.int ?_);refine ZO (Int.fdiv_eq_ediv_of_nonneg _ (by decide)) ?_;lia
   exact⟨_,IB u3 (Bb (y:=iv 4) (Bb (y:=iv 8) (Bb (Bb (Bb (x:=iv 5) S_c (S_v rfl) (mul 5 place (by decide) (Ze hp (Za rfl)))) (S_v rfl) (mul _ _ (Zb (Nat.mul_le_mul (Zg _) (Zl hp)) (Za rfl)) (Ze hp (Za rfl)))) (Bb (x:=iv 7) S_c (S_v rfl) (mul 7 place (by decide) (Ze hp (Za rfl)))) (Cy _ _)) S_c (Cy _ 8)) S_c dv)⟩
 obtain⟨v,hv⟩:=key;refine⟨v % many,.list [.fl (nl cells),iv (place+1)],Nat.mod_lt _ hm,?_,cells,hc,by refine ZN (hσ) ?_;exact h1⟩;refine ZN (hσ) ?_;exact BC rfl (show tx "" "_law_reel"=some ir_law_reel from rfl) rfl (AJ (AS (An (y:=iv 1) (S_v rfl) S_c (Bd (k:=1) h0 rfl (by decide))) P_v) (AJ u2 (Ar (BB (Bb hv (S_v rfl) (fin v))))))
theorem HeapIs.set0 {U:MH}{H:HV}(h:HeapIs U H)(x:MO):HeapIs (U.set 0 x) H:=by
 have k:∀ {i:Nat} {o:MO},(i == 0)=false->U[i]? = some o->(U.set 0 x)[i]? = some o:=λ{i o} hi q=>by
  refine ZO (List.getElem?_set_ne (Ne.symm (ne_of_beq_false hi))) ?_;exact q
 have low:∀ r,r∈H.lots.map (·.1)++H.ab.map (·.2.1)->(r == 0)=false:=λr hr=>As (h.low r hr) rfl
 exact⟨by refine ZN List.length_set ?_;exact h.len,k rfl h.h1,k rfl h.h2,k rfl h.h3,let ⟨o,a,b⟩:=h.h4;⟨o,k rfl a,b⟩,k rfl h.h5,k rfl h.h6,k rfl h.h7,k rfl h.h8,k rfl h.h9,k rfl h.h10,k rfl h.h11,k rfl h.h12,let ⟨o,a,b⟩:=h.h13;⟨o,k rfl a,b⟩,let ⟨o,a,b⟩:=h.h14;⟨o,k rfl a,b⟩,k rfl h.h15,k rfl h.h16,
  λp hp=>k (low _ (List.mem_append_left _ (ZE hp))) (h.lotsAt p hp),λp hp=>k (low p.2.1 (List.mem_append_right _ (ZC ⟨p,hp,rfl⟩))) (h.abAt p hp),h.refs,h.low⟩
structure LW (U:MH) (H:HV) (ps:List (Nat×Nat)) (place:Nat):Prop where
 h:HeapIs U H
 h17:U[17]? = some (.list (H.rs.map rmv))
 h18:U[18]? = some (.list (ps.map pmv))
 sp:JW U place
theorem B4 {U:MH}{i:Nat}{o:MO}(q:U[i]? = some o)(e:MH):(U++e)[i]? = some o:=by
 refine ZO (List.getElem?_append_left (List.getElem?_eq_some_iff.mp q).1) ?_;exact q
theorem LW.more {U:MH}{H:HV}{ps:List (Nat×Nat)}{place:Nat}(L:LW U H ps place)(e:MH):LW (U++e) H ps place :=
 ⟨L.h.more e,B4 L.h17 e,B4 L.h18 e,let ⟨c,a,b⟩:=L.sp;⟨c,a,B4 b e⟩⟩
theorem LW.reel {U:MH}{H:HV}{ps:List (Nat×Nat)}{place many:Nat}(L:LW U H ps place)(hp:place<2 ^ 20)(hm:0<many)(n:Nat):∃ v τ,v<many/\run (n+1) "" "_law_reel" [.ref 0,iv many] U (iv v) τ/\LW τ H ps (place+1)/\∀ (d:Nat)(o:MO),d≠0->U[d]? = some o->τ[d]? = some o:=by
 refine eX2 (PG L.sp hp hm n) λv x zz=>aN3 zz λv1 v2 v3=>?_
 have k:∀ {i:Nat} {o:MO},i≠0->U[i]? = some o->(U.set 0 x)[i]? = some o:=λ{i o} hi q=>by
  refine ZO (List.getElem?_set_ne (Ne.symm hi)) ?_;exact q
 exact (eI2 v _ ⟨v1,v2,⟨L.h.set0 x,k (by decide) L.h17,k (by decide) L.h18,v3⟩,λd o hd q=>k hd q⟩)
theorem Nu {U:MH}{l:List Nat}:CmpR U .ne (.fl (nl l)) (.fl (nl l)) false:=(CmpR.nel (.fl (nl l)) (.fl (nl l)) _ _ (BS l) (BS l)).to (by refine ZN (decide_eq_true rfl) ?_;rfl)
theorem FE {U:MH}{k:Nat}(h:0<k):BinR U .sub (iv k) (iv 1) (iv (k - 1)):=(BinR.sub k 1).to (congrArg MV.int (by lia))
theorem PH {U:MH}{H:HV}{ps:List (Nat×Nat)}{place:Nat}(L:LW U H ps place)(w:Wf H)(s:Mm H)(hN:0<H.rs.length)(C:F7 H.rs ps (fd H.par))(hps:∀ p∈ps,p.1<H.rs.length/\p.2<H.rs.length)(hpl:ps.length<=100)(hp:place+2<2 ^ 20)(n:Nat) :
  ∃ τ,run (n+20) "" "_law_told_right" [.ref 0,.obj "Grammar" 16,.ref 17,.ref 18] U (.bool true) τ/\LW τ H ps (place+2):=by
 have n8:=w.n8
 have kids':∀ (i:Nat) (r:Row),H.rs[i]? = some r->r.2.length<=2/\∀ k∈r.2,k<H.rs.length:=λi r hr=>⟨(w.kids i r hr).1,λk hk=>by have:=(w.kids i r hr).2 k hk;have:=Al hr;lia⟩
 refine eX2 (PB L.h17 L.h18 n8 kids' hps hpl (n+18)) λe1 ls zz=>aN3 zz λr1 I C'=>?_
 have heq:∀ x,x<H.rs.length->ls.getD x 0=fd H.par x:=IM C' C
 have hl:=I.len
 have L1:=L.more e1;refine eX3 (KM L1.h17 n8 hl w.kids (n+18)) λe2 o F zz=>aN4 zz λr2 ho S hall=>?_
 have hd0:((U++e1)++o::e2)[(U++e1).length]? = some o:=DQ
 have L2:=L1.more (o::e2)
 have hdne:(U++e1).length≠0:=by have:=L1.h.len;exact Zf (Zd (Za rfl) this)
 generalize hd:(U++e1).length=d at *;generalize hτ:(U++e1)++o::e2=τ at *;refine eX2 (L2.reel (Ze (Nat.lt_add_of_pos_right (Za rfl)) hp) hN (n+18)) λa τ1 zz=>aN4 zz λa1 a2 L3 k3=>?_
 refine eX2 (L3.reel (Ze (Nat.add_lt_add_left (Za rfl) _) hp) hN (n+18)) λb τ2 zz=>aN4 zz λb1 b2 L4 k4=>?_
 have fwv:∀ k,k<H.rs.length->∃ p,F.lookup (ls.getD k 0)=some p/\p.1=fw F (fd H.par k):=λk hk=>by
  obtain⟨p,hp⟩:=hall k hk;exact⟨p,hp,by refine ZN (heq k hk).symm ?_;unfold fw;refine ZN hp ?_;rfl⟩
 have hlen:∀ {τ:MH},τ[17]? = some (.list (H.rs.map rmv))->BiP τ .len (.ref 17) (iv H.rs.length):=λh=>by
  have:=Cp h (by rw[ZF];simp only[big];exact Zc n8 (Za rfl));rw[ZF]at this;exact this
 let J3:ME':=[("other",iv b),("n",iv a),("found",.ref d),("lots",.fl (nl ls)),("pairs",.ref 18),("rows",.ref 17),("grammar",.obj "Grammar" 16),("spool",.ref 0)]
 have tupE:∀ {τ:MH},τ[17]? = some (.list (H.rs.map rmv))->Ev (XX (n+19)) (.tup [.v "n",.v "other",.bin .sub (.bi .len [.v "rows"]) (.c (.int 1))]) J3 τ (.tup (nl [a,b,H.rs.length - 1])) τ:=λh =>
  BR (AF (S_v rfl) (AF (S_v rfl) (AF (Bb (y:=iv 1) (Bg (AF (S_v rfl) AI) (hlen h)) S_c (FE hN)) AI)))
 have hall3:∀ k∈[a,b,H.rs.length - 1],k<H.rs.length:=λk hk=>by
  rcases Zz hk with rfl | hk
  ·exact a1
  rcases Zz hk with rfl | hk
  ·exact b1
  refine ZN (Zx hk) ?_;exact Nat.sub_lt hN (Za rfl)
 refine eX2 (ID (X:=XX (n+19)) (J:=J3) (elt:=.meth (.v "grammar") "least_size" [.v "one"]) (t:=.v "one") (k:=.it) (l:=nl [a,b,H.rs.length - 1]) (λi out U'=>∃ e,U'=τ2++e/\out=nl (([a,b,H.rs.length - 1].take i).map λk=>fw F (fd H.par k))) (tupE L4.h17) (λi out U _ _=>BK) (by
  intro i y out U' hy y5;obtain⟨e,rfl,rfl⟩:=y5;unfold nl at hy;replace hy:=ZO (ZH).symm hy;obtain⟨k,hk,rfl⟩:=ZD hy;obtain⟨e',he'⟩:=IL (L4.h.more e) w (NF S w heq hall) (hall3 k (Zy hk)) (n+11);refine⟨_,_,_,rfl,AW (k:="Grammar") (n:="least_size") (S_v rfl) (L4.h.more e).h16 (AF (S_v rfl) AI) he',e++e',by rw[List.append_assoc],?_⟩;have ht:[a,b,H.rs.length - 1].take (i+1)=[a,b,H.rs.length - 1].take i++[k]:=by refine ZO List.take_add_one ?_;refine ZN hk ?_;rfl
  refine ZN ht ?_;simp[nl]) ⟨[],by simp,rfl⟩ (by rw[AP];show 3<10000;decide) (by rw[AP];show 3<=big;simp[big])) λzs U' zz=>aN2 zz λc1 zz=>eX1 zz λe zz=>aN2 zz λq5 q6=>?_;subst q5;subst q6
 have L5:=L4.more e
 have hd3:=B4 (k4 d o hdne (k3 d o hdne hd0)) e;generalize hτ3:τ2++e=τ3 at *;have fnd0:∀ {J:ME'} {x:String} {k:Nat},J.lookup "found"=some (.ref d)->J.lookup "lots"=some (.fl (nl ls))->J.lookup x=some (iv k)->k<H.rs.length->Ev (XX (n+19)) (.idx (.idx (.v "found") (.idx (.v "lots") (.v x))) (.c (.int 0))) J τ3 (iv (fw F (fd H.par k))) τ3:=λ{J x k} h1 h2 h3 hk=>by
  refine eX1 (fwv k hk) λp zz=>aN2 zz λp1 p2=>?_
  refine ZN p2.symm ?_;exact An (x:=pmv p) (y:=iv 0) (An (S_v h1) (An (S_v h2) (S_v h3) (C4 (CU (lt_of_lt_of_eq hk hl.symm)) (Ze (Zd hk n8) (Za rfl)))) (FA hd3 ho (by rw[Cf];refine ZN p1 ?_;rfl))) S_c (EC (k:=0) rfl (by decide))
 have c2:Ev (XX (n+19)) (.comp (.idx (.idx (.v "found") (.idx (.v "lots") (.v "one"))) (.c (.int 0))) (.v "one") .it (.tup [.v "n",.v "other",.bin .sub (.bi .len [.v "rows"]) (.c (.int 1))]) []) J3 τ3 (.fl (nl ([a,b,H.rs.length - 1].map λk=>fw F (fd H.par k)))) τ3 :=
  D0 (l:=[a,b,H.rs.length - 1]) (f:=λk=>fw F (fd H.par k)) (tupE L5.h17) BK (λk hk=>fnd0 rfl rfl rfl (hall3 k hk)) (by show 3<10000;decide) (by simp[big])
 have lotsE:∀ {J:ME'} {x:String} {k:Nat},J.lookup "lots"=some (.fl (nl ls))->J.lookup x=some (iv k)->k<H.rs.length->Ev (XX (n+19)) (.idx (.v "lots") (.v x)) J τ3 (iv (fd H.par k)) τ3:=λ{J x k} h2 h3 hk=>by
  refine ZN (heq k hk).symm ?_;exact An (S_v h2) (S_v h3) (C4 (CU (lt_of_lt_of_eq hk hl.symm)) (Ze (Zd hk n8) (Za rfl)))
 refine eX1 (fwv a a1) λp zz=>aN2 zz λp1 p2=>?_
 refine eX2 (La w L5.h17 hl heq hd3 ho S.fnd (λc p h=>h) _ p p1) λt k zz=>aN3 zz λt1 t2 t3=>?_
 have hF8:F.length<=8:=by have:=S.fnd.len hl;exact Zc this n8
 have hb:=S.bound hl n8 (fd H.par a);rw[heq a a1]at t2;rw[p2]at t2;refine⟨τ3,BC (J1:=("term",t)::J3) rfl (show tx "" "_law_told_right"=some ir_law_told_right from rfl) rfl ?_,L5⟩;refine AJ (AS (Bc (k:="") (n:="_law_lots") S_g (AF (S_v rfl) (AF (S_v rfl) AI)) r1) P_v) ?_;refine AJ (AS (Bc (k:="") (n:="_law_smallest") S_g (AF (S_v rfl) (AF (S_v rfl) AI)) r2) P_v) ?_;refine AJ (BY (BR (AF (Bc (k:="") (n:="_law_reel") S_g (AF (S_v rfl) (AF (Bg (AF (S_v rfl) AI) (hlen L2.h17)) AI)) a2) (AF (Bc (k:="") (n:="_law_reel") S_g (AF (S_v rfl) (AF (Bg (AF (S_v rfl) AI) (hlen L3.h17)) AI)) b2) AI))) rfl (Ao P_v (Ao P_v Cn))) ?_;refine AJ (B5 (Ap c1 c2 Nu) AY) ?_;refine AJ (AS (Bc (k:="") (n:="_law_term") S_g (AF (S_v rfl) (AF (S_v rfl) (AF (S_v rfl) (AF (lotsE rfl rfl a1) AI)))) (by refine ZN (heq a a1).symm ?_;exact t3 (n+18) (Zc (Zc (Zc t1 hF8) (Za rfl)) (Zs _ _)))) P_v) ?_;have z1:Ev (XX (n+19)) (.cmp .ne (.call (.g "" "_law_nodes") [.v "term"]) (.idx (.idx (.v "found") (.idx (.v "lots") (.v "n"))) (.c (.int 0)))) (("term",t)::J3) τ3 (.bool false) τ3:=by
  have:=Ap (X:=XX (n+19)) (J:=("term",t)::J3) (Bc (k:="") (n:="_law_nodes") S_g (AF (S_v (n:="term") rfl) AI) (Nt (U:=τ3) t2 (Ze hb (Za rfl)) (n+18) (Zc (Zc (Zc t1 hF8) (Za rfl)) (Zs _ _)))) (fnd0 (J:=("term",t)::J3) (x:="n") rfl rfl rfl a1) (CV _ _);rw[decide_eq_false (by simp)]at this;exact this
 have z2:Ev (XX (n+19)) (.cmp .ne (.meth (.v "grammar") "class_of" [.v "term"]) (.idx (.v "lots") (.v "n"))) (("term",t)::J3) τ3 (.bool false) τ3:=by
  have:=Ap (X:=XX (n+19)) (J:=("term",t)::J3) (AW (k:="Grammar") (n:="class_of") (S_v (n:="grammar") rfl) L5.h.h16 (AF (S_v (n:="term") rfl) AI) (Gd L5.h w s t2 (n+16) (Zc (Zc (Zc t1 hF8) (Za rfl)) (Zs _ _)))) (lotsE (J:=("term",t)::J3) (x:="n") rfl rfl a1) (CV _ _);rw[decide_eq_false (by simp)]at this;exact this
 refine AJ (B5 (G7 z1 z2) AY) (Ar (BB ?_));have z3:Ev (XX (n+19)) (.meth (.v "grammar") "accepts" [.v "n",.v "term"]) (("term",t)::J3) τ3 (.bool true) τ3:=by
  have:=AW (X:=XX (n+19)) (J:=("term",t)::J3) (k:="Grammar") (n:="accepts") (S_v (n:="grammar") rfl) L5.h.h16 (AF (S_v (n:="n") rfl) (AF (S_v (n:="term") rfl) AI)) (HZ L5.h w s t2 a1 (m:=n+15) (Zc (Zc (Zc t1 hF8) (Za rfl)) (Zs _ _)));rw[decide_eq_true rfl]at this;exact this
 refine KD z3 (Ap (AW (X:=XX (n+19)) (k:="Grammar") (n:="accepts") (S_v (n:="grammar") rfl) L5.h.h16 (AF (S_v (n:="other") rfl) (AF (S_v (n:="term") rfl) AI)) (HZ L5.h w s t2 b1 (m:=n+15) (Zc (Zc (Zc t1 hF8) (Za rfl)) (Zs _ _)))) (Ap (lotsE (J:=("term",t)::J3) (x:="other") rfl rfl b1) (lotsE (J:=("term",t)::J3) (x:="n") rfl rfl a1) (Br _ _)) ?_);exact (CmpR.eqb _ _).to (decide_eq_true (decide_eq_decide.mpr ⟨Eq.symm,Eq.symm⟩))
theorem AU {U:MH}{i j:Nat}{x o:MO}(hi:j≠i)(q:U[j]? = some o):(U.set i x)[j]? = some o:=by
 refine ZO (List.getElem?_set_ne (Ne.symm hi)) ?_;exact q
theorem Be {U:MH}{i:Nat}{x o:MO}(q:U[i]? = some o):(U.set i x)[i]? = some x:=by
 exact List.getElem?_set_self (List.getElem?_eq_some_iff.mp q).1
theorem Aw {H:HV}{p:Nat×List Nat}(hp:p∈H.lots):p.1∈H.lots.map (·.1)++H.ab.map (·.2.1):=List.mem_append_left _ (ZE hp)
theorem BP {H:HV}{p:Nat×Nat×List Nat}(hp:p∈H.ab):p.2.1∈H.lots.map (·.1)++H.ab.map (·.2.1):=List.mem_append_right _ (ZC ⟨p,hp,rfl⟩)
theorem HeapIs.lt {U:MH}{H:HV}(h:HeapIs U H){r:Nat}(hr:r∈H.lots.map (·.1)++H.ab.map (·.2.1)):r<U.length:=by
 rcases ZA hr with z | z
 ·obtain⟨p,hp,rfl⟩:=ZB z
  exact (List.getElem?_eq_some_iff.mp (h.lotsAt p hp)).1
 ·obtain⟨p,hp,rfl⟩:=ZB z
  exact (List.getElem?_eq_some_iff.mp (h.abAt p hp)).1
theorem HeapIs.sPar {U:MH}{H:HV}(h:HeapIs U H)(l:List Nat):HeapIs (U.set 8 (.list (nl l))) { H with par:=l }:=by
 have k:∀ {j:Nat} {o:MO},(j == 8)=false->U[j]? = some o->(U.set 8 (.list (nl l)))[j]? = some o:=λhi q=>AU (ne_of_beq_false hi) q
 have lw1:∀ p∈H.lots,(p.1 == 8)=false:=λp hp=>As (h.low _ (Aw hp)) rfl
 have lw2:∀ p∈H.ab,(p.2.1 == 8)=false:=λp hp=>As (h.low _ (BP hp)) rfl
 exact⟨by refine ZN List.length_set ?_;exact h.len,k rfl h.h1,k rfl h.h2,k rfl h.h3,(let ⟨o,a,b⟩:=h.h4;⟨o,k rfl a,b⟩),k rfl h.h5,k rfl h.h6,k rfl h.h7,Be h.h8,k rfl h.h9,k rfl h.h10,k rfl h.h11,k rfl h.h12,(let ⟨o,a,b⟩:=h.h13;⟨o,k rfl a,b⟩),(let ⟨o,a,b⟩:=h.h14;⟨o,k rfl a,b⟩),k rfl h.h15,k rfl h.h16,(λp hp=>k (lw1 p hp) (h.lotsAt p hp)),(λp hp=>k (lw2 p hp) (h.abAt p hp)),h.refs,h.low⟩
theorem HeapIs.sMg {U:MH}{H:HV}(h:HeapIs U H)(l:List MV):HeapIs (U.set 10 (.list l)) { H with mg:=l }:=by
 have k:∀ {j:Nat} {o:MO},(j == 10)=false->U[j]? = some o->(U.set 10 (.list l))[j]? = some o:=λhi q=>AU (ne_of_beq_false hi) q
 have lw1:∀ p∈H.lots,(p.1 == 10)=false:=λp hp=>As (h.low _ (Aw hp)) rfl
 have lw2:∀ p∈H.ab,(p.2.1 == 10)=false:=λp hp=>As (h.low _ (BP hp)) rfl
 exact⟨by refine ZN List.length_set ?_;exact h.len,k rfl h.h1,k rfl h.h2,k rfl h.h3,(let ⟨o,a,b⟩:=h.h4;⟨o,k rfl a,b⟩),k rfl h.h5,k rfl h.h6,k rfl h.h7,k rfl h.h8,k rfl h.h9,Be h.h10,k rfl h.h11,k rfl h.h12,(let ⟨o,a,b⟩:=h.h13;⟨o,k rfl a,b⟩),(let ⟨o,a,b⟩:=h.h14;⟨o,k rfl a,b⟩),k rfl h.h15,k rfl h.h16,(λp hp=>k (lw1 p hp) (h.lotsAt p hp)),(λp hp=>k (lw2 p hp) (h.abAt p hp)),h.refs,h.low⟩
theorem HeapIs.sEd {U:MH}{H:HV}(h:HeapIs U H)(l:List MV):HeapIs (U.set 11 (.list l)) { H with ed:=l }:=by
 have k:∀ {j:Nat} {o:MO},(j == 11)=false->U[j]? = some o->(U.set 11 (.list l))[j]? = some o:=λhi q=>AU (ne_of_beq_false hi) q
 have lw1:∀ p∈H.lots,(p.1 == 11)=false:=λp hp=>As (h.low _ (Aw hp)) rfl
 have lw2:∀ p∈H.ab,(p.2.1 == 11)=false:=λp hp=>As (h.low _ (BP hp)) rfl
 exact⟨by refine ZN List.length_set ?_;exact h.len,k rfl h.h1,k rfl h.h2,k rfl h.h3,(let ⟨o,a,b⟩:=h.h4;⟨o,k rfl a,b⟩),k rfl h.h5,k rfl h.h6,k rfl h.h7,k rfl h.h8,k rfl h.h9,k rfl h.h10,Be h.h11,k rfl h.h12,(let ⟨o,a,b⟩:=h.h13;⟨o,k rfl a,b⟩),(let ⟨o,a,b⟩:=h.h14;⟨o,k rfl a,b⟩),k rfl h.h15,k rfl h.h16,(λp hp=>k (lw1 p hp) (h.lotsAt p hp)),(λp hp=>k (lw2 p hp) (h.abAt p hp)),h.refs,h.low⟩
theorem HeapIs.sFo {U:MH}{H:HV}(h:HeapIs U H)(l:List MV):HeapIs (U.set 12 (.list l)) { H with fo:=l }:=by
 have k:∀ {j:Nat} {o:MO},(j == 12)=false->U[j]? = some o->(U.set 12 (.list l))[j]? = some o:=λhi q=>AU (ne_of_beq_false hi) q
 have lw1:∀ p∈H.lots,(p.1 == 12)=false:=λp hp=>As (h.low _ (Aw hp)) rfl
 have lw2:∀ p∈H.ab,(p.2.1 == 12)=false:=λp hp=>As (h.low _ (BP hp)) rfl
 exact⟨by refine ZN List.length_set ?_;exact h.len,k rfl h.h1,k rfl h.h2,k rfl h.h3,(let ⟨o,a,b⟩:=h.h4;⟨o,k rfl a,b⟩),k rfl h.h5,k rfl h.h6,k rfl h.h7,k rfl h.h8,k rfl h.h9,k rfl h.h10,k rfl h.h11,Be h.h12,(let ⟨o,a,b⟩:=h.h13;⟨o,k rfl a,b⟩),(let ⟨o,a,b⟩:=h.h14;⟨o,k rfl a,b⟩),k rfl h.h15,k rfl h.h16,(λp hp=>k (lw1 p hp) (h.lotsAt p hp)),(λp hp=>k (lw2 p hp) (h.abAt p hp)),h.refs,h.low⟩
theorem HeapIs.sWt {U:MH}{H:HV}(h:HeapIs U H)(l:List Nat):HeapIs (U.set 15 (.list (nl l))) { H with wt:=l }:=by
 have k:∀ {j:Nat} {o:MO},(j == 15)=false->U[j]? = some o->(U.set 15 (.list (nl l)))[j]? = some o:=λhi q=>AU (ne_of_beq_false hi) q
 have lw1:∀ p∈H.lots,(p.1 == 15)=false:=λp hp=>As (h.low _ (Aw hp)) rfl
 have lw2:∀ p∈H.ab,(p.2.1 == 15)=false:=λp hp=>As (h.low _ (BP hp)) rfl
 exact⟨by refine ZN List.length_set ?_;exact h.len,k rfl h.h1,k rfl h.h2,k rfl h.h3,(let ⟨o,a,b⟩:=h.h4;⟨o,k rfl a,b⟩),k rfl h.h5,k rfl h.h6,k rfl h.h7,k rfl h.h8,k rfl h.h9,k rfl h.h10,k rfl h.h11,k rfl h.h12,(let ⟨o,a,b⟩:=h.h13;⟨o,k rfl a,b⟩),(let ⟨o,a,b⟩:=h.h14;⟨o,k rfl a,b⟩),Be h.h15,k rfl h.h16,(λp hp=>k (lw1 p hp) (h.lotsAt p hp)),(λp hp=>k (lw2 p hp) (h.abAt p hp)),h.refs,h.low⟩
theorem HeapIs.sKn {U:MH}{H:HV}(h:HeapIs U H){o':MO}{l:List (Row×Nat)}(ho:IsR o' l):HeapIs (U.set 13 o') { H with kn:=l }:=by
 have k:∀ {j:Nat} {o:MO},(j == 13)=false->U[j]? = some o->(U.set 13 o')[j]? = some o:=λhi q=>AU (ne_of_beq_false hi) q
 have lw1:∀ p∈H.lots,(p.1 == 13)=false:=λp hp=>As (h.low _ (Aw hp)) rfl
 have lw2:∀ p∈H.ab,(p.2.1 == 13)=false:=λp hp=>As (h.low _ (BP hp)) rfl
 exact⟨by refine ZN List.length_set ?_;exact h.len,k rfl h.h1,k rfl h.h2,k rfl h.h3,(let ⟨o,a,b⟩:=h.h4;⟨o,k rfl a,b⟩),k rfl h.h5,k rfl h.h6,k rfl h.h7,k rfl h.h8,k rfl h.h9,k rfl h.h10,k rfl h.h11,k rfl h.h12,(let ⟨o,a,b⟩:=h.h13;⟨o',Be a,ho⟩),(let ⟨o,a,b⟩:=h.h14;⟨o,k rfl a,b⟩),k rfl h.h15,k rfl h.h16,(λp hp=>k (lw1 p hp) (h.lotsAt p hp)),(λp hp=>k (lw2 p hp) (h.abAt p hp)),h.refs,h.low⟩
theorem HeapIs.sBank {U:MH}{H:HV}(h:HeapIs U H){o':MO}{R:List Row}{ws:List Nat}{ds:List Int}(ho:IsR o' R.zipIdx):HeapIs ((((U.set 4 o').set 3 (.list (R.map rmv))).set 5 (.list (nl ws))).set 6 (.list (ds.map .int))) { H with rs:=R,ws:=ws,ds:=ds }:=by
 have k:∀ {j:Nat} {o:MO},(j == 4)=false->(j == 3)=false->(j == 5)=false->(j == 6)=false->U[j]? = some o->((((U.set 4 o').set 3 (.list (R.map rmv))).set 5 (.list (nl ws))).set 6 (.list (ds.map .int)))[j]? = some o:=λa b c d q=>AU (ne_of_beq_false d) (AU (ne_of_beq_false c) (AU (ne_of_beq_false b) (AU (ne_of_beq_false a) q)))
 exact⟨by simp only[List.length_set];exact h.len,k rfl rfl rfl rfl h.h1,k rfl rfl rfl rfl h.h2,AU (by decide) (AU (by decide) (Be (AU (by decide) h.h3))),(let ⟨o,a,b⟩:=h.h4;⟨o',AU (by decide) (AU (by decide) (AU (by decide) (Be a))),ho⟩),AU (by decide) (Be (AU (by decide) (AU (by decide) h.h5))),Be (AU (by decide) (AU (by decide) (AU (by decide) h.h6))),k rfl rfl rfl rfl h.h7,k rfl rfl rfl rfl h.h8,k rfl rfl rfl rfl h.h9,k rfl rfl rfl rfl h.h10,k rfl rfl rfl rfl h.h11,k rfl rfl rfl rfl h.h12,(let ⟨o,a,b⟩:=h.h13;⟨o,k rfl rfl rfl rfl a,b⟩),(let ⟨o,a,b⟩:=h.h14;⟨o,k rfl rfl rfl rfl a,b⟩),k rfl rfl rfl rfl h.h15,k rfl rfl rfl rfl h.h16,(λp hp=>k (As (h.low _ (Aw hp)) rfl) (As (h.low _ (Aw hp)) rfl) (As (h.low _ (Aw hp)) rfl) (As (h.low _ (Aw hp)) rfl) (h.lotsAt p hp)),(λp hp=>k (As (h.low _ (BP hp)) rfl) (As (h.low _ (BP hp)) rfl) (As (h.low _ (BP hp)) rfl) (As (h.low _ (BP hp)) rfl) (h.abAt p hp)),h.refs,h.low⟩
theorem HeapIs.sAbPop {U:MH}{H:HV}(h:HeapIs U H){o':MO}{c:Nat}(ho:IsD o' ((H.ab.filter λp=>p.1≠c).map λp=>(p.1,.ref p.2.1))):HeapIs (U.set 14 o') { H with ab:=H.ab.filter λp=>p.1≠c }:=by
 have k:∀ {j:Nat} {o:MO},(j == 14)=false->U[j]? = some o->(U.set 14 o')[j]? = some o:=λhi q=>AU (ne_of_beq_false hi) q
 have lw1:∀ p∈H.lots,(p.1 == 14)=false:=λp hp=>As (h.low _ (Aw hp)) rfl
 have lw2:∀ p∈H.ab,(p.2.1 == 14)=false:=λp hp=>As (h.low _ (BP hp)) rfl
 exact⟨by refine ZN List.length_set ?_;exact h.len,k rfl h.h1,k rfl h.h2,k rfl h.h3,(let ⟨o,a,b⟩:=h.h4;⟨o,k rfl a,b⟩),k rfl h.h5,k rfl h.h6,k rfl h.h7,k rfl h.h8,k rfl h.h9,k rfl h.h10,k rfl h.h11,k rfl h.h12,(let ⟨o,a,b⟩:=h.h13;⟨o,k rfl a,b⟩),(let ⟨o,a,b⟩:=h.h14;⟨o',Be a,ho⟩),k rfl h.h15,k rfl h.h16,(λp hp=>k (lw1 p hp) (h.lotsAt p hp)),(λp hp=>k (lw2 p (List.mem_filter.mp hp).1) (h.abAt p (List.mem_filter.mp hp).1)),(h.refs.sublist (List.Sublist.append (List.Sublist.refl _) (List.filter_sublist.map _))),(λr hr=>h.low r ((List.Sublist.append (List.Sublist.refl _) (List.filter_sublist.map _)).subset hr))⟩
theorem HeapIs.sLot {U:MH}{H:HV}(h:HeapIs U H){c r:Nat}{l:List Nat}(hc:H.lots[c]? = some (r,l))(m:List Nat):HeapIs (U.set r (.list (nl m))) { H with lots:=H.lots.set c (r,m) }:=by
 have hm:=Zy hc
 have hr:=h.low r (Aw hm)
 have hcl:=(List.getElem?_eq_some_iff.mp hc).1
 have k:∀ {j:Nat} {o:MO},j≠r->U[j]? = some o->(U.set r (.list (nl m)))[j]? = some o:=λhi q=>AU hi q
 have e:(H.lots.set c (r,m)).map (·.1)=H.lots.map (·.1):=by
  refine ZO List.map_set ?_;apply List.ext_getElem?;intro i;refine ZO (List.getElem?_set) ?_
  split
  ·rename_i q
   subst q;refine ZO (if_pos (by rw[ZF];exact hcl)) ?_;refine ZN (ZH) ?_;refine ZN hc ?_;rfl
  ·rfl
 have e9:(H.lots.set c (r,m)).map (λp=>MV.ref p.1)=H.lots.map (λp=>MV.ref p.1):=by
  have:∀ L:List (Nat×List Nat),L.map (λp=>MV.ref p.1)=(L.map (·.1)).map MV.ref:=λL=>by refine ZN List.map_map ?_;rfl
  rw[this,this,e]
 have h9:=h.h9;rw[<- e9]at h9;have hnd:=List.nodup_append.mp h.refs;exact⟨by refine ZN List.length_set ?_;exact h.len,k (Aq hr rfl) h.h1,k (Aq hr rfl) h.h2,k (Aq hr rfl) h.h3,(let ⟨o,a,b⟩:=h.h4;⟨o,k (Aq hr rfl) a,b⟩),k (Aq hr rfl) h.h5,k (Aq hr rfl) h.h6,k (Aq hr rfl) h.h7,k (Aq hr rfl) h.h8,k (Aq hr rfl) h9,k (Aq hr rfl) h.h10,k (Aq hr rfl) h.h11,k (Aq hr rfl) h.h12,(let ⟨o,a,b⟩:=h.h13;⟨o,k (Aq hr rfl) a,b⟩),(let ⟨o,a,b⟩:=h.h14;⟨o,k (Aq hr rfl) a,b⟩),k (Aq hr rfl) h.h15,k (Aq hr rfl) h.h16,(λp hp=>by
   obtain⟨i,hi⟩:=List.mem_iff_getElem?.mp hp
   by_cases q:c=i
   ·subst q
    replace hi:=ZO (List.getElem?_set_self hcl).symm hi;cases hi;exact Be (h.lotsAt _ hm)
   ·replace hi:=ZO (List.getElem?_set_ne q).symm hi
    refine k (λz=>q ?_) (h.lotsAt p (Zy hi));have h1:(H.lots.map (·.1))[c]? = some r:=by refine ZO (ZH) ?_;refine ZN hc ?_;rfl
    have h2:(H.lots.map (·.1))[i]? = some r:=by refine ZO (ZH) ?_;refine ZN hi ?_;refine ZN z.symm ?_;rfl
    exact (List.getElem?_inj (by rw[ZF];exact hcl) hnd.1).mp (h1.trans h2.symm)),(λp hp=>k (λz=>hnd.2.2 r (ZC ⟨_,hm,rfl⟩) p.2.1 (ZC ⟨p,hp,rfl⟩) z.symm) (h.abAt p hp)),(by show (List.map (·.1) (H.lots.set c (r,m))++_).Nodup;refine ZN e ?_;exact h.refs),(by show ∀ x∈List.map (·.1) (H.lots.set c (r,m))++_,_;refine ZN e ?_;exact h.low)⟩
theorem HeapIs.sLotNew {U:MH}{H:HV}(h:HeapIs U H)(m:List Nat):HeapIs ((U++[MO.list (nl m)]).set 9 (MO.list (H.lots.map (λp=>MV.ref p.1)++[MV.ref U.length]))) { H with lots:=H.lots++[(U.length,m)] }:=by
 have hl:=h.len
 have k:∀ {j:Nat} {o:MO},(j == 9)=false->U[j]? = some o->((U++[MO.list (nl m)]).set 9 (MO.list (H.lots.map (λp=>MV.ref p.1)++[MV.ref U.length])))[j]? = some o:=λhi q=>AU (ne_of_beq_false hi) (B4 q _)
 have hno:U.length∉H.lots.map (·.1)++H.ab.map (·.2.1):=λz=>by have:=h.lt z;exact False.elim (Zp (Zg _) this)
 have e9:(H.lots++[(U.length,m)]).map (λp=>MV.ref p.1)=H.lots.map (λp=>MV.ref p.1)++[MV.ref U.length]:=by simp
 have lw1:∀ p∈H.lots,(p.1 == 9)=false:=λp hp=>As (h.low _ (Aw hp)) rfl
 have lw2:∀ p∈H.ab,(p.2.1 == 9)=false:=λp hp=>As (h.low _ (BP hp)) rfl
 have hp9:((H.lots++[(U.length,m)]).map (·.1)++H.ab.map (·.2.1)).Perm (U.length::(H.lots.map (·.1)++H.ab.map (·.2.1))):=by
  refine ZN List.map_append ?_;rw[List.append_assoc];exact List.perm_middle
 exact⟨by refine ZN List.length_set ?_;refine ZN ZG ?_;exact Zc hl (Zt _ _),k rfl h.h1,k rfl h.h2,k rfl h.h3,(let ⟨o,a,b⟩:=h.h4;⟨o,k rfl a,b⟩),k rfl h.h5,k rfl h.h6,k rfl h.h7,k rfl h.h8,(by refine ZN e9 ?_;exact Be (B4 h.h9 _)),k rfl h.h10,k rfl h.h11,k rfl h.h12,(let ⟨o,a,b⟩:=h.h13;⟨o,k rfl a,b⟩),(let ⟨o,a,b⟩:=h.h14;⟨o,k rfl a,b⟩),k rfl h.h15,k rfl h.h16,(λp hp=>by
   rcases ZA hp with z | z
   ·exact k (lw1 p z) (h.lotsAt p z)
   ·refine ZN (Zx z) ?_
    exact AU ((Zf (Zd (Za rfl) hl)):U.length≠9) DQ),(λp hp=>k (lw2 p hp) (h.abAt p hp)),(hp9.nodup_iff.mpr (List.nodup_cons.mpr ⟨hno,h.refs⟩)),(λr hr=>(Zz (hp9.mem_iff.mp hr)).elim (λe=>by refine ZN e ?_;exact hl) (λz=>h.low r z))⟩
theorem HeapIs.sAbNew {U:MH}{H:HV}(h:HeapIs U H){o':MO}{c:Nat}{m:List Nat}(ho:IsD o' (H.ab.map (λp=>(p.1,MV.ref p.2.1))++[(c,MV.ref U.length)])):HeapIs ((U++[MO.list (nl m)]).set 14 o') { H with ab:=H.ab++[(c,U.length,m)] }:=by
 have hl:=h.len
 have k:∀ {j:Nat} {o:MO},(j == 14)=false->U[j]? = some o->((U++[MO.list (nl m)]).set 14 o')[j]? = some o:=λhi q=>AU (ne_of_beq_false hi) (B4 q _)
 have hno:U.length∉H.lots.map (·.1)++H.ab.map (·.2.1):=λz=>by have:=h.lt z;exact False.elim (Zp (Zg _) this)
 have e14:(H.ab++[(c,U.length,m)]).map (λp=>(p.1,MV.ref p.2.1))=H.ab.map (λp=>(p.1,MV.ref p.2.1))++[(c,MV.ref U.length)]:=by simp
 rw[<- e14]at ho;have lw1:∀ p∈H.lots,(p.1 == 14)=false:=λp hp=>As (h.low _ (Aw hp)) rfl
 have lw2:∀ p∈H.ab,(p.2.1 == 14)=false:=λp hp=>As (h.low _ (BP hp)) rfl
 have hp9:(H.lots.map (·.1)++(H.ab++[(c,U.length,m)]).map (·.2.1)).Perm (U.length::(H.lots.map (·.1)++H.ab.map (·.2.1))):=by
  refine ZN List.map_append ?_;rw[<- List.append_assoc];exact List.perm_append_singleton _ _
 exact⟨by refine ZN List.length_set ?_;refine ZN ZG ?_;exact Zc hl (Zt _ _),k rfl h.h1,k rfl h.h2,k rfl h.h3,(let ⟨o,a,b⟩:=h.h4;⟨o,k rfl a,b⟩),k rfl h.h5,k rfl h.h6,k rfl h.h7,k rfl h.h8,k rfl h.h9,k rfl h.h10,k rfl h.h11,k rfl h.h12,(let ⟨o,a,b⟩:=h.h13;⟨o,k rfl a,b⟩),(let ⟨o,a,b⟩:=h.h14;⟨o',Be (B4 a _),ho⟩),k rfl h.h15,k rfl h.h16,(λp hp=>k (lw1 p hp) (h.lotsAt p hp)),(λp hp=>by
   rcases ZA hp with z | z
   ·exact k (lw2 p z) (h.abAt p z)
   ·refine ZN (Zx z) ?_
    exact AU ((Zf (Zd (Za rfl) hl)):U.length≠14) DQ),(hp9.nodup_iff.mpr (List.nodup_cons.mpr ⟨hno,h.refs⟩)),(λr hr=>(Zz (hp9.mem_iff.mp hr)).elim (λe=>by refine ZN e ?_;exact hl) (λz=>h.low r z))⟩
abbrev AB:=List (Nat×Nat×List Nat)
noncomputable def BU (l:AB) (c r:Nat) (m:List Nat):AB:=l.map λp=>if p.1=c then (c,r,m)else p
theorem B6 {β:Type}:∀ {l:List (Nat×β)}{p:Nat×β},(l.map (·.1)).Nodup->p∈l->l.lookup p.1=some p.2
 | q::l,p,hk,hp=>by
  rw[ZJ]at hk;replace hk:=List.nodup_cons.mp hk;obtain⟨x,y⟩:=q;refine ZN List.lookup_cons ?_;rcases Zz hp with rfl | z
  ·simp
  ·have:p.1≠x:=λe=>hk.1 (ZC ⟨p,z,e⟩)
   refine ZN (show (p.1 == x)=false from beq_false_of_ne this) ?_;exact B6 hk.2 z
theorem mem_of_lookup {β:Type}:∀ {l:List (Nat×β)}{c:Nat}{b:β},l.lookup c=some b->(c,b)∈l
 | (x,y)::l,c,b,h=>by
  replace h:=ZO List.lookup_cons.symm h
  by_cases q:c=x
  ·subst q
   simp at h;subst h;exact List.mem_cons_self
  ·rw[show (c == x)=false from beq_false_of_ne q]at h
   exact List.mem_cons_of_mem _ (mem_of_lookup h)
theorem H7 {α β:Type}{f:α->β}:∀ {l:List α}{x y:α},(l.map f).Nodup->x∈l->y∈l->f x=f y->x=y
 | a::l,x,y,h,hx,hy,e=>by
  rw[ZJ]at h;replace h:=List.nodup_cons.mp h;obtain⟨h1,h2⟩:=h;rcases Zz hx with ex | hx'
  ·rcases Zz hy with ey | hy'
   ·refine ZN ex ?_;rw[ey]
   ·exact absurd (ZC ⟨y,hy',by refine ZO e.symm ?_;rw[ex]⟩) h1
  ·rcases Zz hy with ey | hy'
   ·exact absurd (ZC ⟨x,hx',by refine ZO e ?_;rw[ey]⟩) h1
   ·exact H7 h2 hx' hy' e
theorem Lb (l:AB)(c r:Nat)(m:List Nat):(BU l c r m).map (·.1)=l.map (·.1):=by
 unfold BU;refine ZO List.map_map ?_;refine ZL λp _=>?_
 simp only[Function.comp]
 split
 ·rename_i h;exact h.symm
 ·rfl
theorem JX (l:AB)(c r:Nat)(m:List Nat)(j:Nat):(BU l c r m).lookup j=if j=c then (l.lookup c).map (λ_=>(r,m))else l.lookup j:=by
 unfold BU
 induction l with
 | nil=>simp
 | cons p l ih =>
  obtain⟨x,y⟩:=p;refine ZN ZJ ?_
  by_cases q:x=c
  ·subst q
   refine ZN (if_pos rfl) ?_;refine ZO List.lookup_cons ?_;refine ZN List.lookup_cons ?_;refine ZN List.lookup_cons ?_
   by_cases z:j=x
   ·subst z;simp
   ·refine ZN (show (j == x)=false from beq_false_of_ne z) ?_;refine ZN (if_neg z) ?_;refine ZN ih ?_;exact if_neg z
  ·refine ZN (if_neg q) ?_;refine ZO List.lookup_cons ?_;refine ZN List.lookup_cons ?_;refine ZN List.lookup_cons ?_;refine ZN ih ?_
   by_cases z:j=x
   ·subst z;simp[q]
   ·rw[show (j == x)=false from beq_false_of_ne z,show (c == x)=false from beq_false_of_ne (Ne.symm q)]
theorem FF {l:AB}{c r:Nat}{m:List Nat}{p:Nat×Nat×List Nat}(hp:p∈BU l c r m):p=(c,r,m)\/(p∈l/\p.1≠c):=by
 obtain⟨q,hq,e⟩:=ZB hp
 split at e
 ·exact .inl e.symm
 ·rename_i h
  refine ZN e.symm ?_;exact .inr ⟨hq,h⟩
theorem Kk {l:AB}{c r:Nat}{m:List Nat}(h:c∉l.map (·.1)):BU l c r m=l:=by
 unfold BU;have:l.map (λp=>if p.1=c then (c,r,m)else p)=l.map id:=ZL λp hp=>by
  refine ZO (if_neg λe=>h (by refine ZN e.symm ?_;exact ZE hp)) ?_;rfl
 rw[this,List.map_id]
theorem Lc {l:AB}{c s:Nat}{m:List Nat}(hk:(l.map (·.1)).Nodup)(hr:(l.map (·.2.1)).Nodup)(hs:s∉l.map (·.2.1)):((BU l c s m).map (·.2.1)).Nodup/\∀ x∈(BU l c s m).map (·.2.1),x=s\/x∈l.map (·.2.1):=by
 have h2:∀ (l:AB),∀ x∈(BU l c s m).map (·.2.1),x=s\/x∈l.map (·.2.1):=λl x hx=>by
  obtain⟨p,hp,rfl⟩:=ZB hx;rcases FF hp with rfl | ⟨z,_⟩
  ·exact .inl rfl
  ·exact .inr (ZC ⟨p,z,rfl⟩)
 refine⟨?_,h2 l⟩
 induction l with
 | nil=>exact List.nodup_nil
 | cons p l ih =>
  rw[ZJ,List.nodup_cons]at hk hr;rw[ZJ,List.mem_cons]at hs;replace hs:=not_or.mp hs
  by_cases q:p.1=c
  ·have e:BU (p::l) c s m=(c,s,m)::l:=by
    show (if p.1=c then (c,s,m)else p)::BU l c s m=_;rw[if_pos q,Kk (by rw[<- q];exact hk.1)]
   refine ZN e ?_;refine ZN ZJ ?_;refine List.nodup_cons.mpr ?_;exact⟨hs.2,hr.2⟩
  ·have e:BU (p::l) c s m=p::BU l c s m:=by
    show (if p.1=c then (c,s,m)else p)::BU l c s m=_;rw[if_neg q]
   refine ZN e ?_;refine ZN ZJ ?_;refine List.nodup_cons.mpr ?_;refine⟨λz=>?_,ih hk.2 hr.2 hs.2⟩;rcases h2 l _ z with z | z
   ·exact hs.1 z.symm
   ·exact hr.1 z
theorem NG {l:AB}{c s:Nat}{m:List Nat}(h:∃ p,l.lookup c=some p):putN (l.map λp=>(p.1,MV.ref p.2.1)) c (.ref s)=(BU l c s m).map λp=>(p.1,MV.ref p.2.1):=by
 obtain⟨p,hp⟩:=h;unfold putN;refine ZN (((Bh (f:=λn:Nat=>n) (g:=λp:Nat×List Nat=>MV.ref p.1) (λx y e=>e) l c))) ?_;refine ZN hp ?_;unfold BU;refine ZN List.map_map ?_;refine ZN List.map_map ?_;refine ZL λq _=>?_
 simp only[Function.comp]
 split <;> rfl
theorem HeapIs.sAbApp {U:MH}{H:HV}(h:HeapIs U H){c r:Nat}{l:List Nat}(hk:(H.ab.map (·.1)).Nodup)(hc:H.ab.lookup c=some (r,l))(m:List Nat):HeapIs (U.set r (.list (nl m))) { H with ab:=BU H.ab c r m }:=by
 have hm:=mem_of_lookup hc
 have hr:=h.low r (BP hm)
 have k:∀ {j:Nat} {o:MO},j≠r->U[j]? = some o->(U.set r (.list (nl m)))[j]? = some o:=λhi q=>AU hi q
 have hnd:=List.nodup_append.mp h.refs
 have same:∀ p∈H.ab,p.1=c->p.2.1=r:=λp hp e=>by
  have:=B6 hk hp;rw[e]at this;replace this:=ZO hc.symm this;rw[<- Option.some.inj this]
 have e1:(BU H.ab c r m).map (·.2.1)=H.ab.map (·.2.1):=by
  unfold BU;refine ZO List.map_map ?_;refine ZL λp hp=>?_
  simp only[Function.comp]
  split
  ·rename_i q;exact (same p hp q).symm
  ·rfl
 have e14:(BU H.ab c r m).map (λp=>(p.1,MV.ref p.2.1))=H.ab.map λp=>(p.1,MV.ref p.2.1):=by
  unfold BU;refine ZO List.map_map ?_;refine ZL λp hp=>?_
  simp only[Function.comp]
  split
  ·rename_i q
   refine ZN (same p hp q) ?_;rw[q]
  ·rfl
 exact⟨by refine ZN List.length_set ?_;exact h.len,k (Aq hr rfl) h.h1,k (Aq hr rfl) h.h2,k (Aq hr rfl) h.h3,(let ⟨o,a,b⟩:=h.h4;⟨o,k (Aq hr rfl) a,b⟩),k (Aq hr rfl) h.h5,k (Aq hr rfl) h.h6,k (Aq hr rfl) h.h7,k (Aq hr rfl) h.h8,k (Aq hr rfl) h.h9,k (Aq hr rfl) h.h10,k (Aq hr rfl) h.h11,k (Aq hr rfl) h.h12,(let ⟨o,a,b⟩:=h.h13;⟨o,k (Aq hr rfl) a,b⟩),(let ⟨o,a,b⟩:=h.h14;⟨o,k (Aq hr rfl) a,by refine ZN e14 ?_;exact b⟩),k (Aq hr rfl) h.h15,k (Aq hr rfl) h.h16,
  (λp hp=>k (λz=>hnd.2.2 p.1 (ZE hp) r (ZC ⟨_,hm,rfl⟩) z) (h.lotsAt p hp)),
  (λp hp=>by
   rcases FF hp with rfl | ⟨z,zc⟩
   ·exact Be (h.abAt _ hm)
   ·refine k (λe=>zc ?_) (h.abAt p z)
    have:=H7 (f:=λp:Nat×Nat×List Nat=>p.2.1) hnd.2.1 z hm e;rw[this]),
  (by show (_++(BU H.ab c r m).map (·.2.1)).Nodup;refine ZN e1 ?_;exact h.refs),
  (by show ∀ x∈_++(BU H.ab c r m).map (·.2.1),_;refine ZN e1 ?_;exact h.low)⟩
theorem HeapIs.sAbPut {U:MH}{H:HV}(h:HeapIs U H){o':MO}{c:Nat}{m:List Nat}(hk:(H.ab.map (·.1)).Nodup)(ho:IsD o' ((BU H.ab c U.length m).map λp=>(p.1,MV.ref p.2.1))):HeapIs ((U++[MO.list (nl m)]).set 14 o') { H with ab:=BU H.ab c U.length m }:=by
 have hl:=h.len
 have k:∀ {j:Nat} {o:MO},(j == 14)=false->U[j]? = some o->((U++[MO.list (nl m)]).set 14 o')[j]? = some o:=λhi q=>AU (ne_of_beq_false hi) (B4 q _)
 have hnd:=List.nodup_append.mp h.refs
 have hno:U.length∉H.lots.map (·.1)++H.ab.map (·.2.1):=λz=>by have:=h.lt z;exact False.elim (Zp (Zg _) this)
 rw[List.mem_append]at hno;replace hno:=not_or.mp hno;obtain⟨u1,u2⟩:=Lc (c:=c) (m:=m) hk hnd.2.1 hno.2;have lw1:∀ p∈H.lots,(p.1 == 14)=false:=λp hp=>As (h.low _ (Aw hp)) rfl
 have lw2:∀ p∈H.ab,(p.2.1 == 14)=false:=λp hp=>As (h.low _ (BP hp)) rfl
 exact⟨by refine ZN List.length_set ?_;refine ZN ZG ?_;exact Zc hl (Zt _ _),k rfl h.h1,k rfl h.h2,k rfl h.h3,(let ⟨o,a,b⟩:=h.h4;⟨o,k rfl a,b⟩),k rfl h.h5,k rfl h.h6,k rfl h.h7,k rfl h.h8,k rfl h.h9,k rfl h.h10,k rfl h.h11,k rfl h.h12,(let ⟨o,a,b⟩:=h.h13;⟨o,k rfl a,b⟩),(let ⟨o,a,b⟩:=h.h14;⟨o',Be (B4 a _),ho⟩),k rfl h.h15,k rfl h.h16,
  (λp hp=>k (lw1 p hp) (h.lotsAt p hp)),
  (λp hp=>by
   rcases FF hp with rfl | ⟨z,zc⟩
   ·exact AU ((Zf (Zd (Za rfl) hl)):U.length≠14) DQ
   ·exact k (lw2 p z) (h.abAt p z)),
  (List.nodup_append.mpr ⟨hnd.1,u1,λa ha b hb=>by
   rcases u2 b hb with rfl | z
   ·exact λe=>hno.1 (by refine ZN e.symm ?_;exact ha)
   ·exact hnd.2.2 a ha b z⟩),
  (λr hr=>by
   rcases ZA hr with z | z
   ·exact h.low r (List.mem_append_left _ z)
   ·rcases u2 r z with rfl | z
    ·exact hl
    ·exact h.low r (List.mem_append_right _ z))⟩
noncomputable def IO (s:String):Prop:=∃ c:Char,s.toList=[c]/\97<=c.toNat/\c.toNat<128/\c∉"()[]{},:".toList/\s≠""/\String.ofList [c]=s/\s≠"?"
theorem PJ:IO "f":=⟨'f',rfl,by decide,by decide,by decide,by decide,rfl,by decide⟩
theorem NH:IO "g":=⟨'g',rfl,by decide,by decide,by decide,by decide,rfl,by decide⟩
theorem PK:IO "a":=⟨'a',rfl,by decide,by decide,by decide,by decide,rfl,by decide⟩
theorem PM:IO "b":=⟨'b',rfl,by decide,by decide,by decide,by decide,rfl,by decide⟩
theorem Ld {U:MH}{s:String}(h:IO s)(n:Nat):run (n+2) "Bank" "require" [.obj "Bank" 2,.str s] U .none U:=by
 refine eX1 (h) λc zz=>aN7 zz λh1 h2 h3 h4 h5 h6 h7=>?_
 have hit:iter2 U .it (.str s)=some [.str s]:=by
  simp only[iter2,h1];refine ZO (if_pos (by simp;exact h3)) ?_;show some [MV.str (String.ofList [c])]=_;rw[h6]
 have e1:Ev (XX n) (.comp (.v "sign") (.v "sign") .it (.v "text") [.or (.meth (.v "sign") "isspace" []) (.cmp .isin (.v "sign") (.c (.str "()[]{},:")))]) [("text",.str s)] U (.fl []) U:=by
  have hsp:MetR U none (.str s) "isspace" [] (.bool false) U:=.isspace none s c h1 ⟨h2,h3⟩
  have hin:CmpR U .isin (.str s) (.str "()[]{},:") false:=(CmpR.ins _ _ c h1).to (decide_eq_false h4)
  have:=JL (X:=XX n) (J:=[("text",.str s)]) (U:=U) (elt:=.v "sign") (cd:=.or (.meth (.v "sign") "isspace" []) (.cmp .isin (.v "sign") (.c (.str "()[]{},:")))) (n:="sign") (k:=.it) (iter:=.v "text") (g:=λy=>y) (p:=λ_=>false) (S_v rfl) hit (λy hy=>by
   refine ZN (Zx hy) ?_;exact G7 (Nk (S_v rfl) AI hsp) (Ap (S_v rfl) S_c hin)) (λy hy z=>by cases z) (by show 1<10000;decide) (by simp[big])
  exact this
 have e2:run (n+1) "" "is_op" [.str s] U (.bool true) U :=
  BC rfl (show tx "" "is_op"=some ir_is_op from rfl) rfl (Ar (BB (KD (Ap (S_v rfl) S_c ((CmpR.nes s "").to (decide_eq_true h5))) (Ap e1 (DZ AI) (CmpR.eql (.fl []) (.fl []) [] [] rfl rfl)))))
 have e3:IdxR U (.str s) (.int 0) (.str s):=by
  have:=IdxR.str (U:=U) s c [] h1;rwa [h6]at this
 exact G8 rfl (show tx "Bank" "require"=some ir_Bank_require from rfl) rfl (AJ (B5 (G7 (Ka (r:=true) (Bc (k:="") (n:="is_op") S_g (AF (S_v rfl) AI) e2)) (Ap (An (S_v rfl) S_c e3) S_c ((CmpR.eqs s "?").to (decide_eq_false h7)))) AY) AY)
structure Fr (U τ:MH):Prop where
 len:U.length<=τ.length
 at':∀ (j:Nat) (o:MO),(j=0\/j=17\/j=18)->U[j]? = some o->τ[j]? = some o
theorem Fr.refl {U:MH}:Fr U U:=⟨Zg _,λ_ _ _ h=>h⟩
theorem Fr.trans {U τ υ:MH}(a:Fr U τ)(b:Fr τ υ):Fr U υ:=⟨Zc a.len b.len,λj o hj h=>b.at' j o hj (a.at' j o hj h)⟩
theorem Fr.set {U:MH}{i:Nat}{x:MO}(h:i≠0/\i≠17/\i≠18):Fr U (U.set i x):=⟨by refine ZN List.length_set ?_;exact Zg _,λj o hj q=>AU (by lia) q⟩
theorem Fr.more {U:MH}{e:MH}:Fr U (U++e):=⟨by refine ZN ZG ?_;exact Zt _ _,λj o hj q=>B4 q e⟩
theorem Gj {β:Type} [BEq β] [LawfulBEq β]:∀ {l:List β}{k i:Nat}{r:β},l.Nodup->l[i]? = some r->(l.zipIdx k).lookup r=some (k+i)
 | a::l,k,i,r,h,hr=>by
  replace h:=List.nodup_cons.mp h;refine ZN List.zipIdx_cons ?_;refine ZN List.lookup_cons ?_;rcases i with _ | i
  ·simp at hr
   refine ZN hr ?_;simp
  ·have hr':l[i]? = some r:=hr
   have:r≠a:=λe=>h.1 (by refine ZN e.symm ?_;exact Zy hr')
   refine ZN (show (r == a)=false from beq_false_of_ne this) ?_;simp only;refine ZN (Gj h.2 hr') ?_
   congr 1
   exact (Nat.add_right_comm _ _ _).trans (Nat.add_assoc _ _ _)
theorem JY {β:Type} [BEq β] [LawfulBEq β]:∀ {l:List β}{k:Nat}{r:β},r∉l->(l.zipIdx k).lookup r=none
 | [],k,r,h=>rfl
 | a::l,k,r,h=>by
  rw[List.mem_cons]at h;replace h:=not_or.mp h;refine ZN List.zipIdx_cons ?_;refine ZN List.lookup_cons ?_;refine ZN (show (r == a)=false from beq_false_of_ne h.1) ?_;exact JY h.2
theorem NI {U:MH}{i:Nat}{o:MO}{l:List (Row×Nat)}(h:U[i]? = some o)(ho:IsR o l)(r:Row):CmpR U .isin (rmv r) (.ref i) (l.lookup r).isSome:=(CmpR.ind (rmv r) i o _ h (ho.get r)).to (by exact Option.isSome_map)
theorem JZ {X:CK}{J:ME'}{U:MH}{r:Row}(h1:J.lookup "op"=some (.str r.1))(h2:J.lookup "kids"=some (.tup (nl r.2)))(hl:r.2.length<=2):Ev X (.bin .add (.tup [.v "op"]) (.bi .tuple [.v "kids"])) J U (rmv r) U:=by
 refine Bb (BR (AF (S_v h1) AI)) (ED (S_v h2) rfl (by rw[AP];simp only[big];exact Zc hl (Za rfl))) ?_;exact FB (a:=[_]) (by rw[AP];simp[big];exact Zc (Nat.add_le_add (Zg _) hl) (Za rfl))
theorem KN {U:MH}{H:HV}(h:HeapIs U H)(nd:H.rs.Nodup){i:Nat}{r:Row}(hr:H.rs[i]? = some r)(hl:r.2.length<=2)(n:Nat):run (n+3) "Bank" "take" [.obj "Bank" 2,.str r.1,.tup (nl r.2)] U (iv i) U:=by
 refine eX1 (h.h4) λo zz=>aN2 zz λo1 o2=>?_
 have hlk:=Gj (k:=0) nd hr;rw[Nat.zero_add]at hlk;have hin:=NI o1 o2 r;rw[hlk]at hin;exact BC (J1:=[("node",rmv r),("kids",.tup (nl r.2)),("op",.str r.1),("self",.obj "Bank" 2)]) rfl (show tx "Bank" "take"=some ir_Bank_take from rfl) rfl (AJ (AS (JZ rfl rfl hl) P_v) (Ar (by
  exact CT (Ap (X:=XX (n+2)) (J:=[("node",rmv r),("kids",.tup (nl r.2)),("op",.str r.1),("self",.obj "Bank" 2)]) (S_v (n:="node") rfl) (AT (n:="numbers") (S_v (n:="self") rfl) h.h2 rfl) hin) (Ar (BB (An (AT (S_v rfl) h.h2 rfl) (S_v rfl) (Pp o1 o2 hlk)))))))
theorem NJ {U:MH}{l:List Int}(h:l≠[]):∃ d,BiP U .max (.fl (l.map .int)) (.int d):=by
 have hm:(l.map MV.int).mapM MV.int? = some l:=by
  induction l with
  | nil=>rfl
  | cons a r ih =>
   by_cases q:r=[]
   ·subst q;rfl
   ·refine ZN ZJ ?_;refine ZO List.mapM_cons ?_;refine ZN (ih q) ?_;rfl
 cases hx:l.max? with
 | none=>exact absurd (List.max?_eq_none_iff.mp hx) h
 | some d =>
  refine⟨d,?_⟩;exact⟨_,_,_,rfl,hm,hx,rfl⟩
theorem KO {U:MH}{H:HV}(h:HeapIs U H){r:Row}(hr:r∉H.rs)(hop:IO r.1)(hk:∀ k∈r.2,k<H.rs.length)(h2:r.2.length<=2)(n8:H.rs.length<=7)(hw:H.ws.length=H.rs.length)(hd:H.ds.length=H.rs.length)(hb:∀ i,H.ws.getD i 0<2 ^ 39)(n:Nat) :
  ∃ d τ,run (n+3) "Bank" "take" [.obj "Bank" 2,.str r.1,.tup (nl r.2)] U (iv H.rs.length) τ/\Fr U τ/\HeapIs τ { H with rs:=H.rs++[r],ws:=H.ws++[1+(r.2.map λk=>H.ws.getD k 0).sum],ds:=H.ds++[d] }:=by
 refine eX1 (h.h4) λo zz=>aN2 zz λo1 o2=>?_
 have hno:H.rs.zipIdx.lookup r=none:=JY hr
 have hin:=NI o1 o2 r;rw[hno]at hin;refine eX1 (o2.set (r:=r) H.rs.length hno (by refine ZN List.length_zipIdx ?_;simp only[big];exact Zb n8 (Za rfl))) λo' zz=>aN4 zz λp1 p2 p3 p4=>?_
 have hz:H.rs.zipIdx++[(r,H.rs.length)]=(H.rs++[r]).zipIdx:=by refine ZN List.zipIdx_append ?_;simp
 rw[hz]at p2
 let J1:ME':=[("node",rmv r),("kids",.tup (nl r.2)),("op",.str r.1),("self",.obj "Bank" 2)]
 have frm:∀ {J:ME'} {U':MH},J.lookup "node"=some (rmv r)->Ev (XX (n+2)) (.from1 (.v "node")) J U' (.tup (nl r.2)) U':=λhρ=>CL (l:=.str r.1::nl r.2) (S_v hρ) (by refine ZN List.length_cons ?_;rw[AP];simp only[big];exact⟨(Zs _ _),(Zw (Zb h2 (Za rfl)))⟩)
 have lenE:∀ {J:ME'} {U':MH} {R:List Row},J.lookup "self"=some (.obj "Bank" 2)->U'[2]? = some (.attrs DP)->U'[3]? = some (.list (R.map rmv))->R.length<=8->Ev (XX (n+2)) (.bi .len [.attr (.v "self") "nodes"]) J U' (iv R.length) U':=λhρ q2 q3 q=>by
  exact Bg (AF (AT (S_v hρ) q2 rfl) AI) (Gh q3 (ZF ..) (by simp only[big];exact Zc q (Za rfl)))
 refine eX2 (Eu (X:=XX (n+2)) (J:=J1) (U:=U) (t:=.v "kid") (k:=.it) (iter:=.from1 (.v "node")) (b:=[.ite (.not (.chain .le .lt (.c (.int 0)) (.v "kid") (.bi .len [.attr (.v "self") "nodes"]))) [.expr (.attr (.c .none) "")] []]) (l:=nl r.2)
  (λi J U'=>U'=U/\J.lookup "node"=some (rmv r)/\J.lookup "self"=some (.obj "Bank" 2)) (frm rfl) (λi J U' _ _=>BK) (by
  intro i y J U' hy y5;obtain⟨rfl,q1,q2⟩:=y5;unfold nl at hy;replace hy:=ZO (ZH).symm hy;obtain⟨k,hk1,rfl⟩:=ZD hy;have hle:CmpR U' .le (.int 0) (iv k) true:=(CmpR.lei 0 k).to (decide_eq_true (Int.natCast_nonneg _))
  have hlt:CmpR U' .lt (iv k) (iv H.rs.length) true:=(CW _ _).to (decide_eq_true (hk k (Zy hk1)));refine⟨("kid",iv k)::J,.next,_,_,rfl,AJ (B5 (Ka (r:=true) (Mc S_c (S_v rfl) hle (lenE (J:=("kid",iv k)::J) q2 h.h2 h.h3 (Zc n8 (Za rfl))) hlt)) AY) AY,.inl rfl,rfl,q1,q2⟩) ⟨rfl,rfl,rfl⟩ (by rw[AP];show _<10000;exact Zb h2 (Za rfl))) λJ2 U2 zz=>aN4 zz λk1 q4 k2 k3=>?_;subst q4
 have s1:Xs (XX (n+2)) (.assign (.idx (.attr (.v "self") "numbers") (.v "node")) (.bi .len [.attr (.v "self") "nodes"])) J2 U2 .next J2 (U2.set 4 o') :=
  AS (lenE k3 h.h2 h.h3 (Zc n8 (Za rfl))) (FQ (AT (S_v k3) h.h2 rfl) (S_v k2) o1 p3 p4 p1)
 have g2:∀ {x:MO},(U2.set 4 x)[2]? = some (.attrs DP):=λ{x}=>AU (by decide) h.h2
 have s2:Xs (XX (n+2)) (.expr (.meth (.attr (.v "self") "nodes") "append" [.v "node"])) J2 (U2.set 4 o') .next J2 ((U2.set 4 o').set 3 (.list ((H.rs++[r]).map rmv))):=by
  have ha:=Av (U:=U2.set 4 o') (i:=3) (x:=rmv r) (AU (by decide) h.h3) (by rw[ZF];simp only[big];exact Zb n8 (Za rfl))
  have he:H.rs.map rmv++[rmv r]=(H.rs++[r]).map rmv:=by simp
  rw[he]at ha;exact BN (B0 (AT (S_v k3) g2 rfl) (AU (by decide) h.h3) (AF (S_v k2) AI) ha)
 generalize hτ2:(U2.set 4 o').set 3 (.list ((H.rs++[r]).map rmv))=τ2 at s2;have t2:τ2[2]? = some (.attrs DP):=by refine ZN (hτ2).symm ?_;exact AU (by decide) g2
 have t3:τ2[3]? = some (.list ((H.rs++[r]).map rmv)):=by refine ZN (hτ2).symm ?_;exact Be (AU (by decide) h.h3)
 have t5:τ2[5]? = some (.list (nl H.ws)):=by refine ZN (hτ2).symm ?_;exact AU (by decide) (AU (by decide) h.h5)
 have t6:τ2[6]? = some (.list (H.ds.map .int)):=by refine ZN (hτ2).symm ?_;exact AU (by decide) (AU (by decide) h.h6)
 have w1:Ev (XX (n+2)) (.bin .add (.c (.int 1)) (.bi .sum [.comp (.idx (.attr (.v "self") "weights") (.v "kid")) (.v "kid") .it (.from1 (.v "node")) []])) J2 τ2 (iv (1+(r.2.map λk=>H.ws.getD k 0).sum)) τ2:=by
  exact Bb (x:=iv 1) S_c (Bg (AF (D0 (X:=XX (n+2)) (J:=J2) (U:=τ2) (elt:=.idx (.attr (.v "self") "weights") (.v "kid")) (n:="kid") (l:=r.2) (f:=λk=>H.ws.getD k 0) (frm k2) BK (λk hk'=>An (AT (S_v (wl rfl k3)) t2 rfl) (S_v rfl) (Bd t5 (CU (by refine ZN hw ?_;exact hk k hk')) (by have:=hk k hk';exact Ze (Zd this n8) (Za rfl)))) (by show _<10000;exact Zb h2 (Za rfl)) (by simp only[big];exact Zc h2 (Za rfl))) AI) (IG (by rw[ZF];exact Zc h2 (Za rfl)) (λx hx=>by refine eX1 (ZB hx) λk zz=>aN2 zz λ_ q3=>?_;subst q3;have:=hb k;exact Ze this (Za rfl)))) (Cy 1 _)
 have s3:Xs (XX (n+2)) (.expr (.meth (.attr (.v "self") "weights") "append" [.bin .add (.c (.int 1)) (.bi .sum [.comp (.idx (.attr (.v "self") "weights") (.v "kid")) (.v "kid") .it (.from1 (.v "node")) []])])) J2 τ2 .next J2 (τ2.set 5 (.list (nl (H.ws++[1+(r.2.map λk=>H.ws.getD k 0).sum])))):=by
  have ha:=Av (U:=τ2) (i:=5) (x:=iv (1+(r.2.map λk=>H.ws.getD k 0).sum)) t5 (by rw[AP];simp only[big];exact Zb (le_of_eq_of_le hw n8) (Za rfl))
  have he:nl H.ws++[iv (1+(r.2.map λk=>H.ws.getD k 0).sum)]=nl (H.ws++[1+(r.2.map λk=>H.ws.getD k 0).sum]):=by simp[nl]
  rw[he]at ha;exact BN (B0 (AT (S_v k3) t2 rfl) t5 (AF w1 AI) ha)
 generalize hτ3:τ2.set 5 (.list (nl (H.ws++[1+(r.2.map λk=>H.ws.getD k 0).sum])))=τ3 at s3;have u2:τ3[2]? = some (.attrs DP):=by refine ZN (hτ3).symm ?_;exact AU (by decide) t2
 have u3:τ3[3]? = some (.list ((H.rs++[r]).map rmv)):=by refine ZN (hτ3).symm ?_;exact AU (by decide) t3
 have u6:τ3[6]? = some (.list (H.ds.map .int)):=by refine ZN (hτ3).symm ?_;exact AU (by decide) t6
 have c6:=Ca (X:=XX (n+2)) (J:=J2) (U:=τ3) (elt:=.idx (.attr (.v "self") "depths") (.v "kid")) (n:="kid") (k:=.it) (l:=nl r.2) (out:=r.2.map λk=>MV.int (H.ds.getD k 0)) (frm k2) BK (by rw[AP,ZF]) (λi y v hy hv=>by
  unfold nl at hy;rw[ZH]at hy hv;refine eX1 (ZD hy) λk zz=>aN2 zz λhk1 q3=>?_;subst q3
  rw[hk1]at hv;cases hv;have hkN:=hk k (Zy hk1);exact An (AT (S_v (wl rfl k3)) u2 rfl) (S_v rfl) (Bd u6 (by show (H.ds.map MV.int)[k]? = some (.int (H.ds.getD k 0));refine ZO (ZH) ?_;refine ZN (List.getD_eq_getElem?_getD) ?_;refine ZN (ZI ((lt_of_lt_of_eq hkN hd.symm):k<H.ds.length)) ?_;rfl) (Ze (Zd hkN n8) (Za rfl)))) (by rw[AP];show _<10000;exact Zb h2 (Za rfl)) (by rw[AP];simp only[big];exact Zc h2 (Za rfl))
 refine eX1 (NJ (U:=τ3) (l:=(r.2.map λk=>H.ds.getD k 0)++[0]) (by simp)) λd0 hd0=>?_
 have w2:Ev (XX (n+2)) (.bin .add (.c (.int 1)) (.bi .max [.bin .add (.comp (.idx (.attr (.v "self") "depths") (.v "kid")) (.v "kid") .it (.from1 (.v "node")) []) (.flst [.c (.int 0)])])) J2 τ3 (.int (1+d0)) τ3:=by
  refine Bb S_c (Bg (AF (Bb c6 (DZ (AF S_c AI)) (v:=.fl (((r.2.map λk=>H.ds.getD k 0)++[0]).map .int)) ?_) AI) hd0) (.add 1 d0);refine ZN List.map_append ?_;exact .lst _ _ _ _ (congrArg some List.map_map.symm) rfl (by rw[ZF];simp[big];exact Zc h2 (Za rfl))
 have s4:Xs (XX (n+2)) (.expr (.meth (.attr (.v "self") "depths") "append" [.bin .add (.c (.int 1)) (.bi .max [.bin .add (.comp (.idx (.attr (.v "self") "depths") (.v "kid")) (.v "kid") .it (.from1 (.v "node")) []) (.flst [.c (.int 0)])])])) J2 τ3 .next J2 (τ3.set 6 (.list ((H.ds++[1+d0]).map .int))):=by
  have ha:=Av (U:=τ3) (i:=6) (x:=.int (1+d0)) u6 (by rw[ZF];simp only[big];exact Zb (le_of_eq_of_le hd n8) (Za rfl))
  have he:H.ds.map MV.int++[.int (1+d0)]=(H.ds++[1+d0]).map .int:=by simp
  rw[he]at ha;exact BN (B0 (AT (S_v k3) u2 rfl) u6 (AF w2 AI) ha)
 generalize hτ4:τ3.set 6 (.list ((H.ds++[1+d0]).map .int))=τ4 at s4;have v2:τ4[2]? = some (.attrs DP):=by refine ZN (hτ4).symm ?_;exact AU (by decide) u2
 have v3:τ4[3]? = some (.list ((H.rs++[r]).map rmv)):=by refine ZN (hτ4).symm ?_;exact AU (by decide) u3
 have hret:Ev (XX (n+2)) (.bin .sub (.bi .len [.attr (.v "self") "nodes"]) (.c (.int 1))) J2 τ4 (iv H.rs.length) τ4:=by
  have:=Bb (X:=XX (n+2)) (J:=J2) (y:=iv 1) (lenE k3 v2 v3 (by simp;exact n8)) S_c (FE (by simp));rw[show (H.rs++[r]).length - 1=H.rs.length by simp]at this;exact this
 refine (eI2 (1+d0) (τ4) ⟨BC (J1:=J2) rfl (show tx "Bank" "take"=some ir_Bank_take from rfl) rfl (AJ (AS (JZ rfl rfl h2) P_v) (AJ (B5 (Ap (X:=XX (n+2)) (J:=J1) (S_v (n:="node") rfl) (AT (n:="numbers") (S_v (n:="self") rfl) h.h2 rfl) hin) AY) (AJ (BN (AW (k:="Bank") (n:="require") (S_v rfl) h.h2 (AF (S_v rfl) AI) (Ld hop n))) (AJ k1 (AJ s1 (AJ s2 (AJ s3 (AJ s4 (Ar (BB hret)))))))))),?_,?_⟩)
 ·refine ZN (hτ4).symm ?_;refine ZN (hτ3).symm ?_;refine ZN (hτ2).symm ?_
  exact ((Fr.set (by decide)).trans (Fr.set (by decide))).trans ((Fr.set (by decide)).trans (Fr.set (by decide)))
 ·refine ZN (hτ4).symm ?_;refine ZN (hτ3).symm ?_;refine ZN (hτ2).symm ?_
  exact h.sBank p2
theorem Gk {U:MH}{i j:Nat}{W K:List MV}(h:U[i]? = some (.list W))(hj:U[j]? = some (.list K))(hb:W.length+K.length<=big):MetR U (some true) (.ref i) "extend" [.ref j] .none (U.set i (.list (W++K))):=.extend i W K _ h (by simp only[AO,hj]) hb
theorem Fr.set' {U:MH}{i:Nat}{x:MO}(h:19<=i):Fr U (U.set i x):=Fr.set ⟨Zf (Zd (Za rfl) h),Zf (Zd (Za rfl) h),Zf (Zd (Za rfl) h)⟩
theorem PN {U:MH}{H:HV}(h:HeapIs U H)(hl:H.lots.length=H.par.length)(hb:H.par.length<=8)(n:Nat):∃ τ r,run (n+1) "Unions" "make" [.obj "Unions" 7] U (iv H.par.length) τ/\Fr U τ/\HeapIs τ { H with par:=H.par++[H.par.length],lots:=H.lots++[(r,[H.par.length])] }:=by
 have l8:=Cp h.h8 (by rw[AP];simp only[big];exact Zc hb (Za rfl));rw[AP]at l8;have a1:=Av (U:=U) (i:=8) (x:=iv H.par.length) h.h8 (by rw[AP];simp only[big];exact Zb hb (Za rfl))
 have e1:nl H.par++[iv H.par.length]=nl (H.par++[H.par.length]):=by simp[nl]
 rw[e1]at a1;have s1:Xs (XX n) (.expr (.meth (.attr (.v "self") "above") "append" [.bi .len [.attr (.v "self") "above"]])) [("self",.obj "Unions" 7)] U .next [("self",.obj "Unions" 7)] (U.set 8 (.list (nl (H.par++[H.par.length])))) :=
  BN (B0 (AT (S_v rfl) h.h7 rfl) h.h8 (AF (Bg (AF (AT (S_v rfl) h.h7 rfl) AI) l8) AI) a1)
 have h1:=h.sPar (H.par++[H.par.length]);generalize hσ1:U.set 8 (.list (nl (H.par++[H.par.length])))=U1 at *;have hN:(H.lots.map λp=>MV.ref p.1).length=H.par.length:=by rw[ZF];exact hl
 have l9:BiP U1 .len (.ref 9) (iv H.par.length):=Gh h1.h9 hN (by simp only[big];exact Zc hb (Za rfl))
 have s2:Xs (XX n) (.expr (.meth (.attr (.v "self") "lots") "append" [.lst [.bi .len [.attr (.v "self") "lots"]]])) [("self",.obj "Unions" 7)] U1 .next [("self",.obj "Unions" 7)] ((U1++[MO.list (nl [H.par.length])]).set 9 (.list (H.lots.map (λp=>MV.ref p.1)++[MV.ref U1.length]))) :=
  BN (B0 (AT (S_v rfl) h1.h7 rfl) h1.h9 (AF (C8 (AF (Bg (AF (AT (S_v rfl) h1.h7 rfl) AI) l9) AI)) AI) (Av (U:=U1++[MO.list (nl [H.par.length])]) (i:=9) (x:=.ref U1.length) (B4 h1.h9 _) (by show (H.lots.map λp=>MV.ref p.1).length<big;refine ZN hN ?_;simp only[big];exact Zb hb (Za rfl))))
 have h2:=h1.sLotNew [H.par.length]
 have l82:=Cp h2.h8 (by rw[AP];simp[big];exact Zc hb (Za rfl));rw[AP]at l82;have hret:=Bb (X:=XX n) (J:=[("self",.obj "Unions" 7)]) (y:=iv 1) (Bg (AF (AT (S_v (n:="self") rfl) h2.h7 (n:="above") rfl) AI) l82) S_c (FE (by simp));refine (eI2 _ (U1.length) ⟨BC (J1:=[("self",.obj "Unions" 7)]) rfl (show tx "Unions" "make"=some ir_Unions_make from rfl) rfl (AJ s1 (AJ s2 (Ar (BB ?_)))),?_,h2⟩)
 ·rw[show (H.par++[H.par.length]).length - 1=H.par.length by simp]at hret
  exact hret
 ·refine ZN (hσ1).symm ?_
  exact (Fr.set (by decide)).trans (Fr.more.trans (Fr.set (by decide)))
theorem NK {U:MH}{H:HV}(h:HeapIs U H)(hb:H.par.length<=8)(n:Nat):run (n+1) "Unions" "size" [.obj "Unions" 7] U (iv H.par.length) U:=by
 have l8:=Cp h.h8 (by rw[AP];simp only[big];exact Zc hb (Za rfl));rw[AP]at l8;exact BC rfl rfl rfl (Ar (BB (Bg (AF (AT (S_v rfl) h.h7 rfl) AI) l8)))
noncomputable def mgU (H:HV) (kept gone rk:Nat) (lk lg:List Nat):HV:={ H with par:=H.par.set gone kept,lots:=H.lots.set kept (rk,lk++lg),mg:=H.mg++[.tup [iv kept,iv gone]] }
theorem IP {U:MH}{H:HV}(h:HeapIs U H)(w:Wf H){a b:Nat}(ha:a<H.rs.length)(hb:b<H.rs.length)(e:fd H.par a=fd H.par b)(n:Nat):run (n+2) "Unions" "merge" [.obj "Unions" 7,iv a,iv b] U .none U:=by
 have s0:=My (U:=U) (fd H.par a) (fd H.par b);rw[e,Nat.min_self,Nat.max_self]at s0;have fa:=FS h w ha n;rw[e]at fa;have c:Ev (XX (n+1)) (.cmp .eq (.v "kept") (.v "gone")) [("gone",iv (fd H.par b)),("kept",iv (fd H.par b)),("b",iv b),("a",iv a),("self",.obj "Unions" 7)] U (.bool true) U:=by
  have:=Ap (X:=XX (n+1)) (J:=[("gone",iv (fd H.par b)),("kept",iv (fd H.par b)),("b",iv b),("a",iv a),("self",.obj "Unions" 7)]) (S_v (n:="kept") rfl) (S_v (n:="gone") rfl) (Br (U:=U) (fd H.par b) (fd H.par b));rw[decide_eq_true rfl]at this;exact this
 exact BC rfl (show tx "Unions" "merge"=some ir_Unions_merge from rfl) rfl (AJ (BY (Bg (AF (DZ (AF (AW (k:="Unions") (n:="find") (S_v rfl) h.h7 (AF (S_v rfl) AI) fa) (AF (AW (k:="Unions") (n:="find") (S_v rfl) h.h7 (AF (S_v rfl) AI) (FS h w hb n)) AI))) AI) s0) rfl (Ao P_v (Ao P_v Cn))) (Ar (CT c (Ar (BB S_c)))))
theorem Nv {U:MH}{H:HV}(h:HeapIs U H)(w:Wf H){a b:Nat}(ha:a<H.rs.length)(hb:b<H.rs.length){kept gone:Nat}(ek:min (fd H.par a) (fd H.par b)=kept)(eg:max (fd H.par a) (fd H.par b)=gone)(hne:kept≠gone){rk rg:Nat}{lk lg:List Nat}(hk:H.lots[kept]? = some (rk,lk))(hg:H.lots[gone]? = some (rg,lg))(hlen:lk.length+lg.length<=big)(hmg:H.mg.length<big)(n:Nat) :
  ∃ τ,run (n+2) "Unions" "merge" [.obj "Unions" 7,iv a,iv b] U (.tup [iv kept,iv gone]) τ/\Fr U τ/\HeapIs τ (mgU H kept gone rk lk lg):=by
 have n8:=w.n8
 have la:=Cv w.falls (a:=a) (by refine ZN w.parlen ?_;exact ha)
 have lb:=Cv w.falls (a:=b) (by refine ZN w.parlen ?_;exact hb);rw[w.parlen]at la lb;have kg:gone<H.rs.length:=lt_of_eq_of_lt eg.symm (Nat.max_lt.mpr ⟨la,lb⟩)
 have kk:kept<H.rs.length:=Zb (le_of_eq_of_le ek.symm (Nat.min_le_left _ _)) la
 have s0:=My (U:=U) (fd H.par a) (fd H.par b);rw[ek,eg]at s0
 let J:ME':=[("gone",iv gone),("kept",iv kept),("b",iv b),("a",iv a),("self",.obj "Unions" 7)]
 have c:Ev (XX (n+1)) (.cmp .eq (.v "kept") (.v "gone")) J U (.bool false) U:=by
  have:=Ap (X:=XX (n+1)) (J:=J) (S_v (n:="kept") rfl) (S_v (n:="gone") rfl) (Br (U:=U) kept gone);rw[decide_eq_false hne]at this;exact this
 have s1:Xs (XX (n+1)) (.assign (.idx (.attr (.v "self") "above") (.v "gone")) (.v "kept")) J U .next J (U.set 8 (.list (nl (H.par.set gone kept)))):=by
  have:=AS (X:=XX (n+1)) (J:=J) (S_v (n:="kept") rfl) (Mf (o:=.attr (.v "self") "above") (i:=.v "gone") (k:=gone) (AT (S_v rfl) h.h7 rfl) (S_v rfl) h.h8 (by rw[AP];refine ZN w.parlen ?_;exact kg) (Ze (Zd kg n8) (Za rfl)))
  have e:(nl H.par).set gone (iv kept)=nl (H.par.set gone kept):=by simp[nl,List.map_set]
  rw[e]at this;exact this
 have h1:=h.sPar (H.par.set gone kept);generalize hσ1:U.set 8 (.list (nl (H.par.set gone kept)))=U1 at *;have mk:=Zy hk
 have atk:=h1.lotsAt (rk,lk) mk
 have ex:=Gk atk (h1.lotsAt (rg,lg) (Zy hg)) (by rw[AP,AP];exact hlen)
 have e2:nl lk++nl lg=nl (lk++lg):=by simp[nl]
 rw[e2]at ex;have lotE:∀ {x:String} {k r:Nat} {l:List Nat},J.lookup x=some (iv k)->k<2 ^ 60->H.lots[k]? = some (r,l)->Ev (XX (n+1)) (.idx (.attr (.v "self") "lots") (.v x)) J U1 (.ref r) U1:=λhx hb hl =>
  An (AT (S_v rfl) h1.h7 rfl) (S_v hx) (Bd h1.h9 (by show (H.lots.map λp=>MV.ref p.1)[_]? = _;refine ZO (ZH) ?_;refine ZN hl ?_;rfl) hb)
 have s2:Xs (XX (n+1)) (.expr (.meth (.idx (.attr (.v "self") "lots") (.v "kept")) "extend" [.idx (.attr (.v "self") "lots") (.v "gone")])) J U1 .next J (U1.set rk (.list (nl (lk++lg)))) :=
  BN (B0 (lotE (x:="kept") rfl (Ze (Zd kk n8) (Za rfl)) hk) atk (AF (lotE (x:="gone") rfl (Ze (Zd kg n8) (Za rfl)) hg) AI) ex)
 have h2:=h1.sLot (c:=kept) (r:=rk) (l:=lk) hk (lk++lg);generalize hσ2:U1.set rk (.list (nl (lk++lg)))=U2 at *;have s3:Xs (XX (n+1)) (.expr (.meth (.attr (.v "self") "merged") "append" [.tup [.v "kept",.v "gone"]])) J U2 .next J (U2.set 10 (.list (H.mg++[.tup [iv kept,iv gone]]))) :=
  BN (B0 (AT (S_v rfl) h2.h7 rfl) h2.h10 (AF (BR (AF (S_v rfl) (AF (S_v rfl) AI))) AI) (Av (U:=U2) (i:=10) (x:=.tup [iv kept,iv gone]) h2.h10 hmg))
 refine⟨_,BC (J1:=J) rfl (show tx "Unions" "merge"=some ir_Unions_merge from rfl) rfl (AJ (BY (Bg (AF (DZ (AF (AW (k:="Unions") (n:="find") (S_v rfl) h.h7 (AF (S_v rfl) AI) (FS h w ha n)) (AF (AW (k:="Unions") (n:="find") (S_v rfl) h.h7 (AF (S_v rfl) AI) (FS h w hb n)) AI))) AI) s0) rfl (Ao P_v (Ao P_v Cn))) (AJ (B5 c AY) (AJ s1 (AJ s2 (AJ s3 (Ar (BB (BR (AF (S_v rfl) (AF (S_v rfl) AI)))))))))),?_,(h2.sMg (H.mg++[.tup [iv kept,iv gone]]))⟩;refine ZN (hσ2).symm ?_;refine ZN (hσ1).symm ?_;exact (Fr.set (by decide)).trans ((Fr.set' (h.low rk (Aw (p:=(rk,lk)) mk))).trans (Fr.set (by decide)))
theorem DG {β:Type}(l:List (Nat×β))(g k:Nat):(l.filter λp=>p.1≠g).lookup k=if k=g then none else l.lookup k:=by
 induction l with
 | nil=>simp
 | cons p l ih =>
  obtain⟨x,y⟩:=p
  by_cases q:x=g
  ·subst q
   refine ZN (List.filter_cons_of_neg (by simp)) ?_;refine ZO ih ?_;refine ZN List.lookup_cons ?_
   by_cases z:k=x
   ·subst z;simp
   ·rw[show (k == x)=false from beq_false_of_ne z]
  ·refine ZN (List.filter_cons_of_pos (by simpa using q)) ?_;refine ZO List.lookup_cons ?_;refine ZN List.lookup_cons ?_;refine ZN ih ?_
   by_cases z:k=x
   ·subst z;simp[q]
   ·rw[show (k == x)=false from beq_false_of_ne z]
noncomputable def abV (l:AB):List (Nat×MV):=l.map λp=>(p.1,MV.ref p.2.1)
theorem Cq (l:AB)(c:Nat):(abV l).lookup c=(l.lookup c).map λp=>MV.ref p.1:=by
 have hl:=Bh (f:=λn:Nat=>n) (g:=λp:Nat×List Nat=>MV.ref p.1) (λx y e=>e) l c;exact hl
theorem KP (l:AB)(g:Nat):((abV l).filter λp=>p.1≠g)=abV (l.filter λp=>p.1≠g):=by
 unfold abV;refine ZO List.filter_map ?_;rfl
noncomputable def jnU (H:HV) (x:MV) (kept gone rk:Nat) (lk lg:List Nat) (ra:Nat) (uk ug:List Nat):HV :=
 { H with par:=H.par.set gone kept,lots:=H.lots.set kept (rk,lk++lg),mg:=H.mg++[.tup [iv kept,iv gone]],ed:=H.ed++[x],fo:=H.fo++[iv H.ed.length],wt:=H.wt++ug,ab:=BU (H.ab.filter λp=>p.1≠gone) kept ra (uk++ug) }
theorem J5 {U:MH}{H:HV}(h:HeapIs U H)(w:Wf H){a b:Nat}{x:MV}(ha:a<H.rs.length)(hb:b<H.rs.length)(e:fd H.par a=fd H.par b)(hed:H.ed.length<big)(n:Nat):∃ τ,run (n+3) "Heap" "join" [.obj "Heap" 1,iv a,iv b,x] U (.bool false) τ/\Fr U τ/\HeapIs τ { H with ed:=H.ed++[.tup [iv a,iv b,x]] }:=by
 have h1:=h.sEd (H.ed++[.tup [iv a,iv b,x]])
 have w1:Wf { H with ed:=H.ed++[.tup [iv a,iv b,x]] }:=⟨w.n8,w.parlen,w.falls,w.kids,w.lotslen,w.lotsOk⟩
 refine⟨_,BC (J1:=[("merged",.none),("reason",x),("b",iv b),("a",iv a),("self",.obj "Heap" 1)]) rfl (show tx "Heap" "join"=some ir_Heap_join from rfl) rfl (AJ (BN (B0 (AT (S_v rfl) h.h1 rfl) h.h11 (AF (BR (AF (S_v rfl) (AF (S_v rfl) (AF (S_v rfl) AI)))) AI) (Av (U:=U) (i:=11) (x:=.tup [iv a,iv b,x]) h.h11 hed))) (AJ (AS (AW (k:="Unions") (n:="merge") (AT (S_v rfl) h1.h1 rfl) h1.h7 (AF (S_v rfl) (AF (S_v rfl) AI)) (IP h1 w1 ha hb e n)) P_v) (Ar (CT (Ap (S_v rfl) S_c .isn) (Ar (BB S_c)))))),Fr.set (by decide),h1⟩
theorem PO {U:MH}{H:HV}(h:HeapIs U H)(w:Wf H){a b:Nat}{x:MV}(ha:a<H.rs.length)(hb:b<H.rs.length){kept gone:Nat}(ek:min (fd H.par a) (fd H.par b)=kept)(eg:max (fd H.par a) (fd H.par b)=gone)(hne:kept≠gone){rk rg:Nat}{lk lg:List Nat}(hk:H.lots[kept]? = some (rk,lk))(hg:H.lots[gone]? = some (rg,lg))(hlen:lk.length+lg.length<=big)
  (hmg:H.mg.length<big) (hed:H.ed.length<big - 1) (hfo:H.fo.length<big) (keys:(H.ab.map (·.1)).Nodup) (habl:H.ab.length<big) {sk sg:Nat} {uk ug:List Nat} (huk:H.ab.lookup kept=some (sk,uk)) (hug:H.ab.lookup gone=some (sg,ug)) (hul:uk.length+ug.length<=big) (hwt:H.wt.length+ug.length<=big) (n:Nat) :
  ∃ τ ra,run (n+3) "Heap" "join" [.obj "Heap" 1,iv a,iv b,x] U (.bool true) τ/\Fr U τ/\HeapIs τ (jnU H (.tup [iv a,iv b,x]) kept gone rk lk lg ra uk ug):=by
 have h1:=h.sEd (H.ed++[.tup [iv a,iv b,x]])
 have w1:Wf { H with ed:=H.ed++[.tup [iv a,iv b,x]] }:=⟨w.n8,w.parlen,w.falls,w.kids,w.lotslen,w.lotsOk⟩
 refine eX1 (Nv h1 w1 ha hb ek eg hne hk hg hlen hmg n) λU2 zz=>aN3 zz λm1 m2 h2=>?_
 have la:=Cv w.falls (a:=a) (by refine ZN w.parlen ?_;exact ha)
 have lb:=Cv w.falls (a:=b) (by refine ZN w.parlen ?_;exact hb);rw[w.parlen]at la lb
 let J:ME':=[("gone",iv gone),("kept",iv kept),("merged",.tup [iv kept,iv gone]),("reason",x),("b",iv b),("a",iv a),("self",.obj "Heap" 1)]
 have s1:Xs (XX (n+2)) (.expr (.meth (.attr (.v "self") "edges") "append" [.tup [.v "a",.v "b",.v "reason"]])) [("reason",x),("b",iv b),("a",iv a),("self",.obj "Heap" 1)] U .next [("reason",x),("b",iv b),("a",iv a),("self",.obj "Heap" 1)] (U.set 11 (.list (H.ed++[.tup [iv a,iv b,x]]))) :=
  BN (B0 (AT (S_v rfl) h.h1 rfl) h.h11 (AF (BR (AF (S_v rfl) (AF (S_v rfl) (AF (S_v rfl) AI)))) AI) (Av (U:=U) (i:=11) (x:=.tup [iv a,iv b,x]) h.h11 (Ze hed (Za rfl))))
 have s2:Xs (XX (n+2)) (.assign (.v "merged") (.meth (.attr (.v "self") "unions") "merge" [.v "a",.v "b"])) [("reason",x),("b",iv b),("a",iv a),("self",.obj "Heap" 1)] (U.set 11 (.list (H.ed++[.tup [iv a,iv b,x]]))) .next [("merged",.tup [iv kept,iv gone]),("reason",x),("b",iv b),("a",iv a),("self",.obj "Heap" 1)] U2 :=
  AS (AW (k:="Unions") (n:="merge") (AT (S_v rfl) h1.h1 rfl) h1.h7 (AF (S_v rfl) (AF (S_v rfl) AI)) m1) P_v
 have l11:BiP U2 .len (.ref 11) (iv (H.ed.length+1)):=Gh h2.h11 (ZG ..) (Zw (Ze hed (Za rfl)))
 have f1:Ev (XX (n+2)) (.bin .sub (.bi .len [.attr (.v "self") "edges"]) (.c (.int 1))) J U2 (iv H.ed.length) U2:=by
  have:=Bb (X:=XX (n+2)) (J:=J) (y:=iv 1) (Bg (AF (AT (S_v (n:="self") rfl) h2.h1 (n:="edges") rfl) AI) l11) S_c (FE (Zh (Zm _)));exact this
 have s3:Xs (XX (n+2)) (.expr (.meth (.attr (.v "self") "forest") "append" [.bin .sub (.bi .len [.attr (.v "self") "edges"]) (.c (.int 1))])) J U2 .next J (U2.set 12 (.list (H.fo++[iv H.ed.length]))) :=
  BN (B0 (AT (S_v rfl) h2.h1 rfl) h2.h12 (AF f1 AI) (Av (U:=U2) (i:=12) (x:=iv H.ed.length) h2.h12 hfo))
 have h3:=h2.sFo (H.fo++[iv H.ed.length]);generalize hσ3:U2.set 12 (.list (H.fo++[iv H.ed.length]))=U3 at *;refine eX1 (h3.h14) λo zz=>aN2 zz λo1 o2=>?_
 have o2:IsD o (abV H.ab):=o2
 have mk:=mem_of_lookup huk
 have mg:=mem_of_lookup hug
 have atg:=h3.abAt (gone,sg,ug) mg
 have idE:∀ {y:String} {c r:Nat} {u:List Nat} {X:CK},J.lookup y=some (iv c)->H.ab.lookup c=some (r,u)->Ev X (.idx (.attr (.v "self") "above") (.v y)) J U3 (.ref r) U3:=λhy hc =>
  An (AT (S_v rfl) h3.h1 rfl) (S_v hy) (FA o1 o2 (by rw[Cq];refine ZN hc ?_;rfl))
 have ex:=Gk (U:=U3) (i:=15) (j:=sg) h3.h15 atg (by rw[AP,AP];exact hwt)
 have e4:nl H.wt++nl ug=nl (H.wt++ug):=by simp[nl]
 have ex:MetR U3 (some true) (.ref 15) "extend" [.ref sg] .none (U3.set 15 (.list (nl (H.wt++ug)))):=by refine ZN e4.symm ?_;exact ex
 have s4:Xs (XX (n+2)) (.expr (.meth (.attr (.v "self") "waiting") "extend" [.idx (.attr (.v "self") "above") (.v "gone")])) J U3 .next J (U3.set 15 (.list (nl (H.wt++ug)))) :=
  BN (B0 (AT (S_v rfl) h3.h1 rfl) h3.h15 (AF (idE rfl hug) AI) ex)
 have h4:=h3.sWt (H.wt++ug)
 have i4:(U3.set 15 (.list (nl (H.wt++ug))))[14]? = some o:=AU (by decide) o1
 have idE4:Ev (XX (n+2)) (.idx (.attr (.v "self") "above") (.v "kept")) J (U3.set 15 (.list (nl (H.wt++ug)))) (.ref sk) (U3.set 15 (.list (nl (H.wt++ug)))) :=
  An (AT (S_v rfl) h4.h1 rfl) (S_v rfl) (FA i4 o2 (by rw[Cq];refine ZN huk ?_;rfl))
 generalize hσ4:U3.set 15 (.list (nl (H.wt++ug)))=U4 at *;refine eX1 (o2.pop i4 (k:=gone) (v:=.ref sg) (by rw[Cq];refine ZN hug ?_;rfl)) λo' zz=>aN2 zz λp1 p2=>?_
 rw[KP]at p2;have h5:=h4.sAbPop (c:=gone) (o':=o') p2
 have s19k:19<=sk:=h.low sk (BP mk)
 have s19g:19<=sg:=h.low sg (BP mg)
 have g14:(U4.set 14 o')[14]? = some o':=Be i4
 have atk5:(U4.set 14 o')[sk]? = some (.list (nl uk)):=AU (Zf (Zd (Za rfl) s19k)) (by refine ZN (hσ4).symm ?_;exact AU (Zf (Zd (Za rfl) s19k)) (h3.abAt (kept,sk,uk) mk))
 have atg5:(U4.set 14 o')[sg]? = some (.list (nl ug)):=AU (Zf (Zd (Za rfl) s19g)) (by refine ZN (hσ4).symm ?_;exact AU (Zf (Zd (Za rfl) s19g)) atg);generalize hσ5:U4.set 14 o'=U5 at *;have ecat:Ev (XX (n+2)) (.cat (.idx (.attr (.v "self") "above") (.v "kept")) (.meth (.attr (.v "self") "above") "pop" [.v "gone"])) J U4 (.ref U5.length) (U5++[MO.list (nl (uk++ug))]):=by
  have e5:nl uk++nl ug=nl (uk++ug):=by simp[nl]
  refine ZN e5.symm ?_;exact Po idE4 (EA (AT (S_v rfl) h4.h1 rfl) i4 (o2.kind i4) (AF (S_v rfl) AI) p1) (by simp only[AO,atk5]) (by simp only[AO,atg5]) (by rw[AP,AP];exact hul)
 refine eX1 (p2.set kept (.ref U5.length) (by unfold abV;rw[ZF];have:=List.length_filter_le (λp:Nat×Nat×List Nat=>decide (p.1≠gone)) H.ab;exact Zb this habl)) λo'' zz=>aN4 zz λq1 q2 q3 q4=>?_
 have hput:putN (abV (H.ab.filter λp=>p.1≠gone)) kept (.ref U5.length)=abV (BU (H.ab.filter λp=>p.1≠gone) kept U5.length (uk++ug)):=NG (⟨(sk,uk),by rw[DG];refine ZO (if_neg hne) ?_;exact huk⟩);rw[hput]at q2;have s5:Xs (XX (n+2)) (.assign (.idx (.attr (.v "self") "above") (.v "kept")) (.cat (.idx (.attr (.v "self") "above") (.v "kept")) (.meth (.attr (.v "self") "above") "pop" [.v "gone"]))) J U4 .next J ((U5++[MO.list (nl (uk++ug))]).set 14 o'') :=
  AS ecat (FQ (AT (S_v rfl) (B4 h5.h1 _) rfl) (S_v rfl) (B4 g14 _) q3 q4 q1)
 refine (eI2 _ (U5.length) ⟨BC (J1:=J) rfl (show tx "Heap" "join"=some ir_Heap_join from rfl) rfl (AJ s1 (AJ s2 (AJ (B5 (Ap (S_v rfl) S_c (.ist _)) AY) (AJ (BY (S_v rfl) rfl (Ao P_v (Ao P_v Cn))) (AJ s3 (AJ s4 (AJ s5 (Ar (BB S_c))))))))),?_,(h5.sAbPut (c:=kept) (m:=uk++ug) (o':=o'') (keys.sublist (List.filter_sublist.map _)) q2)⟩);refine (Fr.set (by decide):Fr U (U.set 11 _)).trans (m2.trans ?_);refine ZN (hσ5).symm ?_;refine ZN (hσ4).symm ?_;refine ZN (hσ3).symm ?_;exact (Fr.set (by decide)).trans ((Fr.set (by decide)).trans ((Fr.set (by decide)).trans (Fr.more.trans (Fr.set (by decide)))))
noncomputable def tot (l:AB):Nat:=(l.map λp=>p.2.2.length).sum
structure Base (H:HV) (ps:List (Nat×Nat)):Prop where
 w:Wf H
 wl:H.ws.length=H.rs.length
 dl:H.ds.length=H.rs.length
 wb:∀ i,H.ws.getD i 0<2 ^ (i+1)
 nd:H.rs.Nodup
 keys:(H.ab.map (·.1)).Nodup
 abk:∀ c,(∃ p,H.ab.lookup c=some p)↔c<H.rs.length/\fd H.par c=c
 abu:∀ (n:Nat) (r:Row),H.rs[n]? = some r->∀ k∈r.2,∃ p,H.ab.lookup (fd H.par k)=some p/\n∈p.2
 abv:∀ p∈H.ab,∀ n∈p.2.2,n<H.rs.length
 tt:tot H.ab<=2 * H.rs.length
 knb:∀ p∈H.kn,p.2<H.rs.length/\(∀ k∈p.1.2,k<H.rs.length)/\∃ r,H.rs[p.2]? = some r/\p.1.1=r.1/\p.1.2.map (fd H.par)=r.2.map (fd H.par)
 wtb:∀ n∈H.wt,n<H.rs.length
 cap:H.kn.length+H.wt.length+17 * H.ab.length<=18 * H.rs.length
 snd:∀ g,Bi H.rs ps g->∀ x,x<H.rs.length->g (fd H.par x)=g x
 prs:∀ p∈ps,p.1<H.rs.length/\p.2<H.rs.length/\fd H.par p.1=fd H.par p.2
 edl:H.ed.length+H.ab.length<=H.rs.length+ps.length
 fol:H.fo.length<=H.ed.length
 mgl:H.mg.length<=H.ed.length
noncomputable def NL (H:HV) (n:Nat) (r:Row):Prop:=n∈H.wt\/∃ m,H.kn.lookup (Bj H.par r)=some m/\fd H.par m=fd H.par n
structure Good (H:HV) (ps:List (Nat×Nat)):Prop extends Base H ps where
 pend:∀ (n:Nat) (r:Row),H.rs[n]? = some r->NL H n r
theorem Good.set1 {H:HV}{ps:List (Nat×Nat)}(G:Good H ps)(h:H.wt=[]):Mm H:=by
 refine⟨λp hp=>(G.knb p hp).1,λn r hr=>?_⟩;rcases G.pend n r hr with z | z
 ·rw[h]at z;cases z
 ·exact z
theorem DA {l:List (Row×Nat)}{c:Row}{b:Nat}(h:l.lookup c=some b):(c,b)∈l:=by
 induction l with
 | nil=>cases h
 | cons p l ih =>
  obtain⟨x,y⟩:=p;replace h:=ZO List.lookup_cons.symm h
  by_cases q:c=x
  ·subst q
   simp at h;subst h;exact List.mem_cons_self
  ·rw[show (c == x)=false from beq_false_of_ne q]at h
   exact List.mem_cons_of_mem _ (ih h)
theorem Good.canon {H:HV}{ps:List (Nat×Nat)}(G:Good H ps)(h:H.wt=[]):F7 H.rs ps (fd H.par):=by
 have w:=G.w
 have fl:∀ {x},x<H.rs.length->x<H.par.length:=λhx=>by refine ZN w.parlen ?_;exact hx
 refine⟨λx hx=>OR w.falls x (fl hx),λx hx=>Ew w.falls (fl hx),⟨λp hp=>(G.prs p hp).2.2,λn m r s hr hs e1 e2=>?_⟩,G.snd⟩;obtain⟨a,a1,a2⟩:=(G.set1 h).all n r hr;obtain⟨b,b1,b2⟩:=(G.set1 h).all m s hs;have:Bj H.par r=Bj H.par s:=Prod.ext e1 e2;rw[this]at a1;replace a1:=ZO b1.symm a1;cases a1;rw[<- a2,<- b2]
theorem E6:∀ {l:AB}{g s:Nat}{u:List Nat},(l.map (·.1)).Nodup->l.lookup g=some (s,u)->tot (l.filter λp=>p.1≠g)+u.length=tot l/\(l.filter λp=>p.1≠g).length+1=l.length
 | (x,y)::l,g,s,u,hk,h=>by
  rw[ZJ]at hk;replace hk:=List.nodup_cons.mp hk;replace h:=ZO List.lookup_cons.symm h
  by_cases q:g=x
  ·subst q
   simp at h;subst h;have:(l.filter λp=>p.1≠g)=l:=List.filter_eq_self.mpr λp hp=>by
    refine decide_eq_true λe=>hk.1 (ZC ⟨p,hp,e⟩)
   refine ZN (List.filter_cons_of_neg (by simp)) ?_;refine ZN this ?_;exact⟨Nat.add_comm _ _,rfl⟩
  ·rw[show (g == x)=false from beq_false_of_ne q]at h
   obtain⟨i1,i2⟩:=E6 hk.2 h;refine ZN (List.filter_cons_of_pos (by simpa using (Ne.symm q))) ?_;unfold tot at *;refine ZN ZJ ?_;refine ZN List.sum_cons ?_;refine ZN ZJ ?_;refine ZN List.sum_cons ?_;refine ZN List.length_cons ?_;refine ZN List.length_cons ?_;constructor
   ·lia
   ·exact Zv (Nat.succ_le_succ (Nat.le_of_eq i2)) (Nat.succ_le_succ (Nat.le_of_eq i2.symm))
theorem IQ:∀ {l:AB}{c s r:Nat}{u m:List Nat},(l.map (·.1)).Nodup->l.lookup c=some (s,u)->tot (BU l c r m)+u.length=tot l+m.length
 | (x,y)::l,c,s,r,u,m,hk,h=>by
  rw[ZJ]at hk;replace hk:=List.nodup_cons.mp hk;replace h:=ZO List.lookup_cons.symm h
  by_cases q:c=x
  ·subst q
   simp at h;subst h;have e:BU ((c,(s,u))::l) c r m=(c,r,m)::l:=by
    show (if c=c then (c,r,m)else _)::BU l c r m=_;refine ZN (if_pos rfl) ?_;rw[Kk hk.1]
   refine ZN e ?_;show m.length+_+u.length=u.length+_+m.length;lia
  ·rw[show (c == x)=false from beq_false_of_ne q]at h
   have i1:=IQ (r:=r) (m:=m) hk.2 h
   have e:BU ((x,y)::l) c r m=(x,y)::BU l c r m:=by
    show (if x=c then (c,r,m)else _)::BU l c r m=_;rw[if_neg (Ne.symm q)]
   refine ZN e ?_;unfold tot at *;refine ZN ZJ ?_;refine ZN List.sum_cons ?_;refine ZN ZJ ?_;refine ZN List.sum_cons ?_;lia
theorem H8 {α:Type}{p q:α->Bool}:∀ {l:List α},(∀ x∈l,p x=true->q x=true->False)->(l.filter p++l.filter q).Perm (l.filter λx=>p x || q x)
 | [],_=>List.Perm.refl _
 | a::l,h=>by
  have ih:=H8 (p:=p) (q:=q) (l:=l) (λx hx=>h x (List.mem_cons_of_mem _ hx));cases hp:p a
  ·cases hq:q a
   ·refine ZN (List.filter_cons_of_neg (by simp[hp])) ?_;refine ZN (List.filter_cons_of_neg (by simp[hq])) ?_;refine ZN (List.filter_cons_of_neg (by simp[hp,hq])) ?_
    exact ih
   ·refine ZN (List.filter_cons_of_neg (by simp[hp])) ?_;refine ZN (List.filter_cons_of_pos hq) ?_;refine ZN (List.filter_cons_of_pos (by simp[hq])) ?_
    exact List.perm_middle.trans (ih.cons a)
  ·cases hq:q a
   ·refine ZN (List.filter_cons_of_pos hp) ?_;refine ZN (List.filter_cons_of_neg (by simp[hq])) ?_;refine ZN (List.filter_cons_of_pos (by simp[hp])) ?_
    exact ih.cons a
   ·exact absurd hq (λ_=>(h a List.mem_cons_self) hp hq)
section
variable {H:HV} {ps ps':List (Nat×Nat)} {a b kept gone rk rg sk sg ra:Nat} {lk lg uk ug:List Nat} {x:MV}
theorem Base.join (B:Base H ps)(ha:a<H.rs.length)(hb:b<H.rs.length)(ek:min (fd H.par a) (fd H.par b)=kept)(eg:max (fd H.par a) (fd H.par b)=gone)(hne:kept≠gone)(hk:H.lots[kept]? = some (rk,lk))(hg:H.lots[gone]? = some (rg,lg))
  (huk:H.ab.lookup kept=some (sk,uk)) (hug:H.ab.lookup gone=some (sg,ug)) (hs:∀ g,Bi H.rs ps' g->g a=g b/\Bi H.rs ps g) (hp':∀ p∈ps',p∈ps\/p=(a,b)) (hpl:ps.length<=ps'.length) :
  Base (jnU H x kept gone rk lk lg ra uk ug) ps'/\∀ y,y<H.rs.length->fd (H.par.set gone kept) y=if fd H.par y=gone then kept else fd H.par y:=by
 have w:=B.w
 have fl:∀ {x},x<H.rs.length->x<H.par.length:=λhx=>by refine ZN w.parlen ?_;exact hx
 have la:=Cv w.falls (fl ha)
 have lb:=Cv w.falls (fl hb);rw[w.parlen]at la lb;have hlt:kept<gone:=Zu (le_of_le_of_eq (Zc (le_of_eq_of_le ek.symm (Nat.min_le_left _ _)) (Nat.le_max_left _ _)) eg) hne
 have kg:gone<H.rs.length:=lt_of_eq_of_lt eg.symm (Nat.max_lt.mpr ⟨la,lb⟩)
 have kk:kept<H.rs.length:=Ze hlt kg
 have rootA:=Ew w.falls (fl ha)
 have rootB:=Ew w.falls (fl hb)
 have rK:fd H.par kept=kept:=by
  rcases Nat.le_total (fd H.par a) (fd H.par b)with z | z
  ·replace ek:=ZO (Nat.min_eq_left z).symm ek;refine ZN ek.symm ?_;exact rootA
  ·replace ek:=ZO (Nat.min_eq_right z).symm ek;refine ZN ek.symm ?_;exact rootB
 have rG:fd H.par gone=gone:=by
  rcases Nat.le_total (fd H.par a) (fd H.par b)with z | z
  ·replace eg:=ZO (Nat.max_eq_right z).symm eg;refine ZN eg.symm ?_;exact rootB
  ·replace eg:=ZO (Nat.max_eq_left z).symm eg;refine ZN eg.symm ?_;exact rootA
 have key:∀ y,y<H.rs.length->fd (H.par.set gone kept) y=if fd H.par y=gone then kept else fd H.par y:=λy hy=>Ou w.falls hlt (fl kg) rK rG y (fl hy)
 have eab:fd (H.par.set gone kept) a=fd (H.par.set gone kept) b:=by
  refine ZO (key a ha) ?_;refine ZN (key b hb) ?_;rcases Nat.le_total (fd H.par a) (fd H.par b)with z | z
  ·replace ek:=ZO (Nat.min_eq_left z).symm ek;replace eg:=ZO (Nat.max_eq_right z).symm eg
   refine ZN ek ?_;refine ZN eg ?_;simp[hne]
  ·replace ek:=ZO (Nat.min_eq_right z).symm ek;replace eg:=ZO (Nat.max_eq_left z).symm eg
   refine ZN ek ?_;refine ZN eg ?_;refine ZN (if_pos rfl) ?_;simp[hne]
 have up:∀ {y z:Nat},y<H.rs.length->z<H.rs.length->fd H.par y=fd H.par z->fd (H.par.set gone kept) y=fd (H.par.set gone kept) z:=λhy hz e=>by refine ZO (key _ hy) ?_;refine ZN (key _ hz) ?_;rw[e]
 have fdN:∀ {y},y<H.rs.length->fd H.par y<H.rs.length:=λhy=>by have:=Cv w.falls (fl hy);rw[w.parlen]at this;exact this
 have ident:∀ {y},y<H.rs.length->fd (H.par.set gone kept) (fd H.par y)=fd (H.par.set gone kept) y:=λhy=>up (fdN hy) hy (Ew w.falls (fl hy))
 have keysF:((H.ab.filter λp=>p.1≠gone).map (·.1)).Nodup:=B.keys.sublist (List.filter_sublist.map _)
 have lkF:(H.ab.filter λp=>p.1≠gone).lookup kept=some (sk,uk):=by rw[DG];refine ZO (if_neg hne) ?_;exact huk
 obtain⟨t1,t2⟩:=E6 B.keys hug;have t3:=IQ (r:=ra) (m:=uk++ug) keysF lkF
 have abL:∀ c,(BU (H.ab.filter λp=>p.1≠gone) kept ra (uk++ug)).lookup c=if c=kept then some (ra,uk++ug)else if c=gone then none else H.ab.lookup c:=λc=>by
  rw[JX];refine ZN lkF ?_;rw[DG];rfl
 have lenA:(BU (H.ab.filter λp=>p.1≠gone) kept ra (uk++ug)).length+1=H.ab.length:=by
  unfold BU;rw[ZF];exact t2
 have ugm:=mem_of_lookup hug
 have ugl:ug.length<=16:=by have:=B.tt;have:=w.n8;lia
 refine⟨⟨⟨w.n8,by show (H.par.set gone kept).length=_;refine ZO List.length_set ?_;exact w.parlen,HW w.falls hlt (fl kg),w.kids,by show (H.lots.set kept _).length=_;refine ZO List.length_set ?_;exact w.lotslen,λc p hc hr=>?_⟩,B.wl,B.dl,B.wb,B.nd,?_,λc=>?_,λn r hr k hk'=>?_,λp hp n hn=>?_,?_,λp hp=>?_,λn hn=>?_,?_,λg hg x hx=>?_,λp hp=>?_,?_,?_,?_⟩,key⟩
 ·
  have hc:(H.lots.set kept (rk,lk++lg))[c]? = some p:=hc
  have hr:fd (H.par.set gone kept) c=c:=hr
  have hcN:c<H.rs.length:=by have:=(List.getElem?_eq_some_iff.mp hc).1;rw[List.length_set,w.lotslen]at this;exact this
  show p.2.Perm ((List.range H.rs.length).filter λn=>fd (H.par.set gone kept) n=c)
  by_cases q:c=kept
  ·subst q
   replace hc:=ZO (List.getElem?_set_self (by refine ZN w.lotslen ?_;exact kk)).symm hc;cases hc;refine ((w.lotsOk c _ hk rK).append (w.lotsOk gone _ hg rG)).trans ((H8 (λz _ h1 h2=>?_)).trans ?_)
   ·have h1:=of_decide_eq_true h1
    exact hne (h1.symm.trans (of_decide_eq_true h2))
   ·refine List.Perm.of_eq (List.filter_congr λz hz=>?_)
    refine ZN (key z (List.mem_range.mp hz)) ?_
    by_cases q1:fd H.par z=gone
    ·simp[q1]
    ·simp[q1]
  ·replace hc:=ZO (List.getElem?_set_ne (Ne.symm q)).symm hc
   replace hr:=ZO (key c hcN).symm hr;have hr':fd H.par c=c:=by
    split at hr
    ·exact absurd hr.symm q
    ·exact hr
   have cg:c≠gone:=λe=>by
    subst e;replace hr:=ZO (if_pos rG).symm hr;exact q hr.symm
   refine (w.lotsOk c p hc hr').trans (List.Perm.of_eq (List.filter_congr λz hz=>?_));refine ZN (key z (List.mem_range.mp hz)) ?_
   by_cases q1:fd H.par z=gone
   ·refine ZN (if_pos q1) ?_;refine ZN q1 ?_
    simp[Ne.symm q,Ne.symm cg]
   ·rw[if_neg q1]
 ·show ((BU _ kept ra _).map (·.1)).Nodup
  rw[Lb];exact keysF
 ·show (∃ p,(BU (H.ab.filter λp=>p.1≠gone) kept ra (uk++ug)).lookup c=some p)↔c<H.rs.length/\fd (H.par.set gone kept) c=c
  refine ZN (abL c) ?_
  by_cases q:c=kept
  ·subst q
   refine ZN (if_pos rfl) ?_;refine⟨λ_=>⟨kk,?_⟩,λ_=>⟨_,rfl⟩⟩;refine ZO (key c kk) ?_;refine ZN rK ?_;exact if_neg hne
  ·refine ZN (if_neg q) ?_
   by_cases q2:c=gone
   ·subst q2
    refine ZN (if_pos rfl) ?_;refine⟨λ⟨_,h⟩=>by (cases h),λ⟨_,h⟩=>?_⟩;replace h:=ZO (key c kg).symm h;rw[rG]at h;replace h:=ZO (if_pos rfl).symm h;exact absurd h hne
   ·refine ZN (if_neg q2) ?_;rw[B.abk c]
    refine⟨λ⟨h1,h2⟩=>⟨h1,?_⟩,λ⟨h1,h2⟩=>⟨h1,?_⟩⟩
    ·refine ZO (key c h1) ?_;refine ZN h2 ?_;exact if_neg q2
    ·replace h2:=ZO (key c h1).symm h2
     split at h2
     ·exact absurd h2.symm q
     ·exact h2
 ·show ∃ p,(BU (H.ab.filter λp=>p.1≠gone) kept ra (uk++ug)).lookup (fd (H.par.set gone kept) k)=some p/\n∈p.2
  refine eX1 (B.abu n r hr k hk') λp zz=>aN2 zz λp1 p2=>?_
  refine ZN (key k (Ze ((w.kids n r hr).2 k hk') (Al (rs:=H.rs) hr))) ?_
  by_cases q:fd H.par k=gone
  ·refine ZN (if_pos q) ?_;rw[abL];refine ZN (if_pos rfl) ?_
   rw[q]at p1;replace p1:=ZO hug.symm p1;cases p1;exact⟨_,rfl,List.mem_append_right _ p2⟩
  ·refine ZN (if_neg q) ?_;rw[abL]
   by_cases q2:fd H.par k=kept
   ·refine ZN (if_pos q2) ?_
    rw[q2]at p1;replace p1:=ZO huk.symm p1;cases p1;exact⟨_,rfl,List.mem_append_left _ p2⟩
   ·refine ZN (if_neg q2) ?_;refine ZN (if_neg q) ?_
    exact⟨p,p1,p2⟩
 ·rcases FF hp with rfl | ⟨z,_⟩
  ·rcases ZA hn with z | z
   ·exact B.abv _ (mem_of_lookup huk) n z
   ·exact B.abv _ ugm n z
  ·exact B.abv p (List.mem_filter.mp z).1 n hn
 ·show tot (BU (H.ab.filter λp=>p.1≠gone) kept ra (uk++ug))<=2 * H.rs.length
  rw[ZG]at t3;have:=B.tt;lia
 ·refine aN3 (B.knb p hp) λh1 h2 zz=>eX1 zz λr zz=>aN3 zz λh3 h4 h5=>?_
  refine⟨h1,h2,r,h3,h4,?_⟩;show p.1.2.map (fd (H.par.set gone kept))=r.2.map (fd (H.par.set gone kept))
  have e:∀ l:List Nat,(∀ k∈l,k<H.rs.length)->l.map (fd (H.par.set gone kept))=(l.map (fd H.par)).map (fd (H.par.set gone kept)):=λl hl=>by
   refine ZN List.map_map ?_;exact ZL λk hk=>(ident (hl k hk)).symm
  refine ZN (e _ h2) ?_;refine ZN (e r.2 (λk hk=>Ze ((w.kids _ r h3).2 k hk) h1)) ?_;rw[h5]
 ·rcases ZA hn with z | z
  ·exact B.wtb n z
  ·exact B.abv _ ugm n z
 ·show H.kn.length+(H.wt++ug).length+17 * (BU (H.ab.filter λp=>p.1≠gone) kept ra (uk++ug)).length<=18 * H.rs.length
  refine ZN ZG ?_;have:=B.cap;lia
 ·show g (fd (H.par.set gone kept) x)=g x
  obtain⟨g1,g2⟩:=hs g hg;have ea:=B.snd g g2 a ha
  have eb:=B.snd g g2 b hb
  have ex:=B.snd g g2 x hx
  have ekg:g kept=g gone:=by
   rcases Nat.le_total (fd H.par a) (fd H.par b)with z | z
   ·replace ek:=ZO (Nat.min_eq_left z).symm ek;replace eg:=ZO (Nat.max_eq_right z).symm eg
    refine ZN ek.symm ?_;refine ZN eg.symm ?_;refine ZN ea ?_;refine ZN eb ?_;exact g1
   ·replace ek:=ZO (Nat.min_eq_right z).symm ek;replace eg:=ZO (Nat.max_eq_left z).symm eg
    refine ZN ek.symm ?_;refine ZN eg.symm ?_;refine ZN ea ?_;refine ZN eb ?_;rw[g1]
  refine ZN (key x hx) ?_
  split
  ·rename_i q
   refine ZN ekg ?_;refine ZN q.symm ?_;exact ex
  ·exact ex
 ·rcases hp' p hp with z | rfl
  ·refine aN3 (B.prs p z) λh1 h2 h3=>?_
   exact⟨h1,h2,up h1 h2 h3⟩
  ·exact⟨ha,hb,eab⟩
 ·show (H.ed++[x]).length+(BU (H.ab.filter λp=>p.1≠gone) kept ra (uk++ug)).length<=H.rs.length+ps'.length
  refine ZN ZG ?_;refine ZN ZM ?_;have:=B.edl;lia
 ·show (H.fo++[_]).length<=(H.ed++[x]).length
  refine ZN ZG ?_;refine ZN ZG ?_;rw[ZM];refine ZN ZM ?_;have:=B.fol;exact Nat.succ_le_succ this
 ·show (H.mg++[_]).length<=(H.ed++[x]).length
  refine ZN ZG ?_;refine ZN ZG ?_;rw[ZM];refine ZN ZM ?_;have:=B.mgl;exact Nat.succ_le_succ this
end
section
variable {H:HV} {ps ps':List (Nat×Nat)} {a b kept gone rk rg sk sg ra:Nat} {lk lg uk ug:List Nat} {x:MV}
theorem Base.pend_join (B:Base H ps)(hug:H.ab.lookup gone=some (sg,ug))(key:∀ y,y<H.rs.length->fd (H.par.set gone kept) y=if fd H.par y=gone then kept else fd H.par y)
  (hp:∀ (n:Nat) (r:Row),H.rs[n]? = some r->n∈H.wt\/∃ m,H.kn.lookup (Bj H.par r)=some m/\fd (H.par.set gone kept) m=fd (H.par.set gone kept) n) :
  ∀ (n:Nat) (r:Row),H.rs[n]? = some r->NL (jnU H x kept gone rk lk lg ra uk ug) n r:=by
 intro n r hr;rcases hp n r hr with z | z0
 ·exact .inl (List.mem_append_left _ z)
 ·obtain⟨m,m1,m2⟩:=z0
  by_cases q:∃ k∈r.2,fd H.par k=gone
  ·obtain⟨k,k1,k2⟩:=q
   obtain⟨p,p1,p2⟩:=B.abu n r hr k k1;rw[k2]at p1;replace p1:=ZO hug.symm p1;cases p1;exact .inl (List.mem_append_right _ p2)
  ·have e:Bj (H.par.set gone kept) r=Bj H.par r:=by
    refine Prod.ext rfl ?_;refine ZL λk hk=>?_
    refine ZO (key k (Ze ((B.w.kids n r hr).2 k hk) (Al hr))) ?_;exact if_neg λe=>q ⟨k,hk,e⟩
   refine .inr ⟨m,?_,m2⟩;show H.kn.lookup (Bj (H.par.set gone kept) r)=some m;rw[e];exact m1
theorem Base.parts (B:Base H ps){c:Nat}(hc:c<H.rs.length)(hr:fd H.par c=c):∃ r l s u,H.lots[c]? = some (r,l)/\H.ab.lookup c=some (s,u)/\l.length<=8/\u.length<=16:=by
 have h1:=ZI (l:=H.lots) (i:=c) (by rw[B.w.lotslen];exact hc);obtain⟨p,h2⟩:=(B.abk c).mpr ⟨hc,hr⟩;refine⟨_,_,p.1,p.2,h1,h2,?_,?_⟩
 ·have:=(B.w.lotsOk c _ h1 hr).length_eq
  refine Zc (Nat.le_of_eq this) ?_;have h3:=List.length_filter_le (λn=>decide (fd H.par n=c)) (List.range H.rs.length);rw[List.length_range]at h3;have:=B.w.n8;exact Zc h3 this
 ·have h3:=FU (f:=λp:Nat×Nat×List Nat=>p.2.2.length) (mem_of_lookup h2)
  have h3:p.2.length<=tot H.ab:=h3
  have:=B.tt
  have:=B.w.n8;lia
end
theorem Base.fdN {H:HV}{ps:List (Nat×Nat)}(B:Base H ps){y:Nat}(hy:y<H.rs.length):fd H.par y<H.rs.length/\fd H.par (fd H.par y)=fd H.par y:=by
 have w:=B.w
 have fl:y<H.par.length:=by rw[w.parlen];exact hy
 have:=Cv w.falls fl;rw[w.parlen]at this;exact⟨this,Ew w.falls fl⟩
theorem Base.kidN {H:HV}{ps:List (Nat×Nat)}(B:Base H ps){n:Nat}{r:Row}(hr:H.rs[n]? = some r):∀ k∈r.2,k<H.rs.length:=λk hk=>Ze ((B.w.kids n r hr).2 k hk) (Al hr)
theorem Base.ckey2 {H:HV}{ps:List (Nat×Nat)}(B:Base H ps){n:Nat}{r:Row}(hr:H.rs[n]? = some r):(Bj H.par r).2.map (fd H.par)=r.2.map (fd H.par):=by
 show (r.2.map (fd H.par)).map (fd H.par)=_;refine ZO List.map_map ?_;exact ZL λk hk=>(B.fdN (B.kidN hr k hk)).2
theorem Base.known {H:HV}{ps:List (Nat×Nat)}(B:Base H ps){n:Nat}{r:Row}(hr:H.rs[n]? = some r)(hno:H.kn.lookup (Bj H.par r)=none)(slack:H.kn.length+1+H.wt.length+17 * H.ab.length<=18 * H.rs.length)
  (hp:∀ (n':Nat) (r':Row),H.rs[n']? = some r'->n'=n\/NL H n' r'):Good { H with kn:=H.kn++[(Bj H.par r,n)] } ps:=by
 have w:=B.w;refine⟨⟨⟨w.n8,w.parlen,w.falls,w.kids,w.lotslen,w.lotsOk⟩,B.wl,B.dl,B.wb,B.nd,B.keys,B.abk,B.abu,B.abv,B.tt,λp hp=>?_,B.wtb,?_,B.snd,B.prs,B.edl,B.fol,B.mgl⟩,λn' r' hr'=>?_⟩
 ·rcases ZA hp with z | z
  ·exact B.knb p z
  ·rw[Zx z]
   refine⟨Al hr,λk hk=>?_,r,hr,rfl,B.ckey2 hr⟩;obtain⟨j,hj,rfl⟩:=ZB hk;exact (B.fdN (B.kidN hr j hj)).1
 ·show (H.kn++[_]).length+_+_<=_
  rw[ZG];exact slack
 ·have hr':H.rs[n']? = some r':=hr'
  show n'∈H.wt\/∃ m,(H.kn++[(Bj H.par r,n)]).lookup (Bj H.par r')=some m/\fd H.par m=fd H.par n';rcases hp n' r' hr' with rfl | z | z0
  ·replace hr':=ZO hr.symm hr'
   cases hr';exact .inr ⟨n',by refine ZO lookup_snoc ?_;rw[hno];simp,rfl⟩
  ·exact .inl z
  ·obtain⟨m,m1,m2⟩:=z0
   exact .inr ⟨m,by refine ZO lookup_snoc ?_;rw[m1];rfl,m2⟩
theorem F9 {U:MH}{H:HV}{ps ps':List (Nat×Nat)}(h:HeapIs U H)(B:Base H ps){a b:Nat}{x:MV}(ha:a<H.rs.length)(hb:b<H.rs.length)(hab:fd H.par a≠fd H.par b)(hs:∀ g,Bi H.rs ps' g->g a=g b/\Bi H.rs ps g)(hp':∀ p∈ps',p∈ps\/p=(a,b))(hpl:ps.length<=ps'.length)(hpb:ps.length<=100)
  (hp:∀ (n:Nat) (r:Row),H.rs[n]? = some r->n∈H.wt\/∃ m,m<H.rs.length/\H.kn.lookup (Bj H.par r)=some m/\(fd H.par m=fd H.par n\/(m=a/\n=b))) (n:Nat) :
  ∃ τ H',run (n+3) "Heap" "join" [.obj "Heap" 1,iv a,iv b,x] U (.bool true) τ/\Fr U τ/\HeapIs τ H'/\Good H' ps'/\H'.rs=H.rs/\H'.wt.length+17 * H'.ab.length<=H.wt.length+17 * H.ab.length:=by
 have n8:=B.w.n8;obtain⟨a1,a2⟩:=B.fdN ha;obtain⟨b1,b2⟩:=B.fdN hb;generalize ek:min (fd H.par a) (fd H.par b)=kept;generalize eg:max (fd H.par a) (fd H.par b)=gone;have hne:kept≠gone:=by lia
 have rK:kept<H.rs.length/\fd H.par kept=kept:=by
  rcases Nat.le_total (fd H.par a) (fd H.par b)with z | z
  ·replace ek:=ZO (Nat.min_eq_left z).symm ek;refine ZN ek.symm ?_;exact⟨a1,a2⟩
  ·replace ek:=ZO (Nat.min_eq_right z).symm ek;refine ZN ek.symm ?_;exact⟨b1,b2⟩
 have rG:gone<H.rs.length/\fd H.par gone=gone:=by
  rcases Nat.le_total (fd H.par a) (fd H.par b)with z | z
  ·replace eg:=ZO (Nat.max_eq_right z).symm eg;refine ZN eg.symm ?_;exact⟨b1,b2⟩
  ·replace eg:=ZO (Nat.max_eq_left z).symm eg;refine ZN eg.symm ?_;exact⟨a1,a2⟩
 refine eX4 (B.parts rK.1 rK.2) λrk lk sk uk zz=>aN4 zz λk1 k2 k3 k4=>?_
 refine eX4 (B.parts rG.1 rG.2) λrg lg sg ug zz=>aN4 zz λg1 g2 g3 g4=>?_
 have:=B.edl
 have:=B.fol
 have:=B.mgl
 have:=B.cap
 have hbig:big=1048576:=rfl;refine eX2 (PO (x:=x) h B.w ha hb ek eg hne k1 g1 (Zc (Nat.add_le_add k3 g3) (Za rfl)) (by lia) (by lia) (by lia) B.keys (by lia) k2 g2 (Zc (Nat.add_le_add k4 g4) (Za rfl)) (by lia) n) λτ ra zz=>aN3 zz λt1 t2 t3=>?_
 obtain⟨B',key⟩:=B.join (x:=.tup [iv a,iv b,x]) (ra:=ra) ha hb ek eg hne k1 g1 k2 g2 hs hp' hpl;have up:∀ {y z:Nat},y<H.rs.length->z<H.rs.length->fd H.par y=fd H.par z->fd (H.par.set gone kept) y=fd (H.par.set gone kept) z:=λhy hz e=>by refine ZO (key _ hy) ?_;refine ZN (key _ hz) ?_;rw[e]
 have eab:fd (H.par.set gone kept) a=fd (H.par.set gone kept) b:=by
  refine ZO (key a ha) ?_;refine ZN (key b hb) ?_;rcases Nat.le_total (fd H.par a) (fd H.par b)with z | z
  ·replace ek:=ZO (Nat.min_eq_left z).symm ek;replace eg:=ZO (Nat.max_eq_right z).symm eg
   refine ZN ek ?_;refine ZN eg ?_;refine ZN (if_pos rfl) ?_;simp[hne]
  ·replace ek:=ZO (Nat.min_eq_right z).symm ek;replace eg:=ZO (Nat.max_eq_left z).symm eg
   refine ZN ek ?_;refine ZN eg ?_;refine ZN (if_pos rfl) ?_;simp[hne]
 refine (eI2 (τ) _ ⟨t1,t2,t3,⟨B',B.pend_join g2 key λn r hr=>?_⟩,rfl,?_⟩)
 ·rcases hp n r hr with z | ⟨m,m0,m1,m2 | ⟨rfl,rfl⟩⟩
  ·exact .inl z
  ·exact .inr ⟨m,m1,up m0 (Al hr) m2⟩
  ·exact .inr ⟨m,m1,eab⟩
 ·show (H.wt++ug).length+17 * (BU (H.ab.filter λp=>p.1≠gone) kept ra (uk++ug)).length<=_
  have e2:=(E6 B.keys g2).2
  have e3:(BU (H.ab.filter λp=>p.1≠gone) kept ra (uk++ug)).length=(H.ab.filter λp=>p.1≠gone).length:=by unfold BU;rw[ZF]
  refine ZN e3 ?_;refine ZN ZG ?_;lia
theorem NM {U:MH}{H:HV}{ps:List (Nat×Nat)}(h:HeapIs U H)(B:Base H ps)(hpb:ps.length<=100)(slack:H.kn.length+1+H.wt.length+17 * H.ab.length<=18 * H.rs.length){n:Nat}{r:Row}(hr:H.rs[n]? = some r)
  (hp:∀ (n':Nat) (r':Row),H.rs[n']? = some r'->n'=n\/NL H n' r') (m:Nat) :
  ∃ τ H',run (m+4) "Heap" "look_at" [.obj "Heap" 1,iv n] U .none τ/\Fr U τ/\HeapIs τ H'/\Good H' ps/\H'.rs=H.rs/\H'.wt.length+17 * H'.ab.length<=H.wt.length+17 * H.ab.length:=by
 have w:=B.w
 have n8:=w.n8
 have hn:=Al hr;refine eX1 (h.h13) λo zz=>aN2 zz λo1 o2=>?_
 have enode:Ev (XX (m+3)) (.meth (.v "self") "node" [.v "n"]) [("n",iv n),("self",.obj "Heap" 1)] U (rmv (Bj H.par r)) U:=AW (k:="Heap") (n:="node") (S_v rfl) h.h1 (AF (S_v rfl) AI) (Mk h w hr m);cases hl:H.kn.lookup (Bj H.par r)with
 | none =>
  refine eX1 (Gg (n:=n) o1 o2 hl (by simp only[big];lia)) λo' zz=>aN2 zz λd1 d2=>?_
  have h1:=h.sKn d2
  have G:=B.known hr hl slack hp
  have e1:Xs (XX (m+3)) (.assign (.v "other") (.meth (.attr (.v "self") "known") "setdefault" [.meth (.v "self") "node" [.v "n"],.v "n"])) [("n",iv n),("self",.obj "Heap" 1)] U .next [("other",iv n),("n",iv n),("self",.obj "Heap" 1)] (U.set 13 o') :=
   AS (EA (AT (S_v rfl) h.h1 rfl) o1 (o2.kind o1) (AF enode (AF (S_v rfl) AI)) d1) P_v
  have f1:=DF h1 G.w (a:=n) hn (m+1)
  have c1:=Ap (X:=XX (m+3)) (J:=[("other",iv n),("n",iv n),("self",.obj "Heap" 1)]) (AW (k:="Heap") (n:="find") (S_v (n:="self") rfl) h1.h1 (AF (S_v (n:="other") rfl) AI) f1) (AW (k:="Heap") (n:="find") (S_v (n:="self") rfl) h1.h1 (AF (S_v (n:="n") rfl) AI) f1) (CV _ _);rw[decide_eq_false (by simp)]at c1;exact (eI2 _ _ ⟨G8 rfl (show tx "Heap" "look_at"=some ir_Heap_look_at from rfl) rfl (AJ e1 (AJ (B5 c1 AY) AY)),Fr.set (by decide),h1,G,rfl,Zg _⟩)
 | some other =>
  have hmem:=DA hl;refine aN3 (B.knb _ hmem) λq1 q2 zz=>eX1 zz λs zz=>aN3 zz λq3 q4 q5=>?_
  have q1:other<H.rs.length:=q1
  have e1:Xs (XX (m+3)) (.assign (.v "other") (.meth (.attr (.v "self") "known") "setdefault" [.meth (.v "self") "node" [.v "n"],.v "n"])) [("n",iv n),("self",.obj "Heap" 1)] U .next [("other",iv other),("n",iv n),("self",.obj "Heap" 1)] U :=
   AS (EA (AT (S_v rfl) h.h1 rfl) o1 (o2.kind o1) (AF enode (AF (S_v rfl) AI)) (Gf o1 o2 hl)) P_v
  have c1:=Ap (X:=XX (m+3)) (J:=[("other",iv other),("n",iv n),("self",.obj "Heap" 1)]) (AW (k:="Heap") (n:="find") (S_v (n:="self") rfl) h.h1 (AF (S_v (n:="other") rfl) AI) (DF h w q1 (m+1))) (AW (k:="Heap") (n:="find") (S_v (n:="self") rfl) h.h1 (AF (S_v (n:="n") rfl) AI) (DF h w hn (m+1))) (CV _ _)
  by_cases z:fd H.par other=fd H.par n
  ·rw[decide_eq_false (by simpa using z)]at c1
   refine (eI2 (U) H ⟨G8 rfl (show tx "Heap" "look_at"=some ir_Heap_look_at from rfl) rfl (AJ e1 (AJ (B5 c1 AY) AY)),Fr.refl,h,⟨B,λn' r' hr'=>?_⟩,rfl,Zg _⟩);rcases hp n' r' hr' with rfl | y
   ·replace hr':=ZO hr.symm hr'
    cases hr';exact .inr ⟨other,hl,z⟩
   ·exact y
  ·rw[decide_eq_true z]at c1
   have j1:∀ g,Bi H.rs ps g->g other=g n/\Bi H.rs ps g:=λg hg=>by
    refine⟨hg.2 other n s r q3 hr q4.symm ?_,hg⟩;have eg:∀ l:List Nat,(∀ k∈l,k<H.rs.length)->l.map g=(l.map (fd H.par)).map g:=λl hl'=>by
     refine ZN List.map_map ?_;exact ZL λk hk=>(B.snd g hg k (hl' k hk)).symm
    refine ZN (eg s.2 (B.kidN q3)) ?_;refine ZN (eg r.2 (B.kidN hr)) ?_;refine ZN ((q5)).symm ?_;rw[B.ckey2 hr]
   have j2:∀ (n':Nat) (r':Row),H.rs[n']? = some r'->n'∈H.wt\/∃ m,m<H.rs.length/\H.kn.lookup (Bj H.par r')=some m/\(fd H.par m=fd H.par n'\/(m=other/\n'=n)):=λn' r' hr'=>by
    rcases hp n' r' hr' with rfl | y | z0
    ·replace hr':=ZO hr.symm hr'
     cases hr';exact .inr ⟨other,q1,hl,.inr ⟨rfl,rfl⟩⟩
    ·exact .inl y
    ·refine eX1 (z0) λk zz=>aN2 zz λy1 y2=>?_
     exact .inr ⟨k,(B.knb _ (DA y1)).1,y1,.inl y2⟩
   refine eX2 (F9 (x:=.tup [.str "like"]) (ps':=ps) h B q1 hn z j1 (λp hp=>.inl hp) (Zg _) hpb j2 m) λτ H' zz=>aN6 zz λt1 t2 t3 t4 t5 t6=>?_
   exact (eI2 (τ) H' ⟨G8 rfl (show tx "Heap" "look_at"=some ir_Heap_look_at from rfl) rfl (AJ e1 (AJ (CT c1 (AJ (BN (AW (k:="Heap") (n:="join") (S_v rfl) h.h1 (AF (S_v rfl) (AF (S_v rfl) (AF (BR (AF S_c AI)) AI))) t1)) AY)) AY)),t2,t3,t4,t5,t6⟩)
theorem Nw {U:MH}(k:Nat):CmpR U (.gt ()) (iv k) (.int 0) (decide (0<k)):=(CmpR.gti k 0).to (decide_eq_decide.mpr Int.natCast_pos)
theorem NN {U:MH}{H:HV}{ps:List (Nat×Nat)}(h:HeapIs U H)(G:Good H ps)(hpb:ps.length<=100)(m:Nat):∃ τ H',run (m+5) "Heap" "settle" [.obj "Heap" 1] U .none τ/\Fr U τ/\HeapIs τ H'/\Good H' ps/\H'.rs=H.rs/\H'.wt=[]:=by
 have key:=λ{m0:Nat} {J0:ME'} {U0:MH}=>EB (X:=(XX (m+4))) (c:=(.cmp (.gt ()) (.bi .len [.attr (.v "self") "waiting"]) (.c (.int 0)))) (b:=[.expr (.meth (.v "self") "look_at" [.meth (.attr (.v "self") "waiting") "pop" []])]) (m:=m0) (J:=J0) (U:=U0)
  (λk J τ=>∃ H',J.lookup "self"=some (.obj "Heap" 1)/\Fr U τ/\HeapIs τ H'/\Good H' ps/\H'.rs=H.rs/\k=H'.wt.length+17 * H'.ab.length)
  (λJ τ=>∃ H',Fr U τ/\HeapIs τ H'/\Good H' ps/\H'.rs=H.rs/\H'.wt=[]) (by
  intro k J τ y3;refine eX1 (y3) λH1 zz=>aN6 zz λe f h1 G1 er q7=>?_;subst q7
  have n8:=G1.w.n8
  have cap:=G1.cap
  have l15:=Cp h1.h15 (by rw[AP];simp only[big];lia);rw[AP]at l15;have hc:=Ap (X:=XX (m+4)) (J:=J) (Bg (AF (AT (S_v e) h1.h1 (n:="waiting") rfl) AI) l15) S_c (Nw _);rcases List.eq_nil_or_concat H1.wt with z | z0
  ·left
   rw[z]at hc;exact⟨τ,hc,H1,f,h1,G1,er,z⟩
  ·refine eX2 (z0) λW x z=>?_
   right;rw[List.concat_eq_append]at z;rw[decide_eq_true (by refine ZN z ?_;refine ZN ZG ?_;refine ZN ZM ?_;exact Zh (Zm _))]at hc;refine⟨τ,hc,?_⟩;have h15:=h1.h15;rw[z]at h15;have wl1:H1.wt.length=W.length+1:=by refine ZN z ?_;refine ZO ZG ?_;rw[ZM]
   have B2:Base { H1 with wt:=W } ps:=⟨⟨G1.w.n8,G1.w.parlen,G1.w.falls,G1.w.kids,G1.w.lotslen,G1.w.lotsOk⟩,G1.wl,G1.dl,G1.wb,G1.nd,G1.keys,G1.abk,G1.abu,G1.abv,G1.tt,G1.knb,λn hn=>G1.wtb n (by refine ZN z ?_;exact List.mem_append_left _ hn),by show H1.kn.length+W.length+17 * H1.ab.length<=18 * H1.rs.length;lia,G1.snd,G1.prs,G1.edl,G1.fol,G1.mgl⟩
   refine eX2 (NM (h1.sWt W) B2 hpb (by show H1.kn.length+1+W.length+17 * H1.ab.length<=18 * H1.rs.length;lia) (ZI (G1.wtb x (by refine ZN z ?_;simp))) (λn' r' hr'=>by
    rcases G1.pend n' r' hr' with y | y
    ·rw[z]at y
     rcases ZA y with y | y
     ·exact .inr (.inl y)
     ·exact .inl (Zx y)
    ·exact .inr (.inr y)) m) λυ H3 zz=>aN6 zz λu1 u2 u3 u4 u5 u6=>?_
   refine⟨.next,J,υ,AJ (BN (AW (k:="Heap") (n:="look_at") (S_v e) h1.h1 (AF (B0 (AT (S_v e) h1.h1 rfl) h15 AI (JQ h15)) AI) u1)) AY,.inl rfl,H3.wt.length+17 * H3.ab.length,?_,H3,e,f.trans ((Fr.set (by decide)).trans u2),u3,u4,u5.trans er,rfl⟩;have u6:H3.wt.length+17 * H3.ab.length<=W.length+17 * H1.ab.length:=u6;lia)
 have n8:=G.w.n8
 have cap:=G.cap;refine eX2 (key (m0:=_) (J0:=[("self",.obj "Heap" 1)]) (U0:=U) ⟨H,rfl,Fr.refl,h,G,rfl,rfl⟩ (by show _<10000;lia)) λJ' τ zz=>aN2 zz λk1 zz=>eX1 zz λH' zz=>aN5 zz λf h' G' er ew=>?_
 refine (eI2 (τ) H' ⟨G8 (J1:=J') rfl (show tx "Heap" "settle"=some ir_Heap_settle from rfl) rfl (AJ (J1:=J') (U1:=τ) ?_ AY),f,h',G',er,ew⟩);exact k1
theorem Nx {U:MH}{H:HV}{ps:List (Nat×Nat)}(h:HeapIs U H)(G:Good H ps)(hpb:ps.length<=90){a b:Nat}{x:MV}(ha:a<H.rs.length)(hb:b<H.rs.length)(m:Nat) :
  ∃ v τ H',run (m+4) "Heap" "merge" [.obj "Heap" 1,iv a,iv b,x] U v τ/\Fr U τ/\HeapIs τ H'/\Good H' (ps++[(a,b)])/\H'.rs=H.rs:=by
 have n8:=G.w.n8
 have hcl:∀ g,Bi H.rs (ps++[(a,b)]) g->g a=g b/\Bi H.rs ps g:=λg hg=>⟨hg.1 (a,b) (by simp),λp hp=>hg.1 p (List.mem_append_left _ hp),hg.2⟩
 have wrap:∀ {v:MV} {τ:MH},run (m+3) "Heap" "join" [.obj "Heap" 1,iv a,iv b,x] U v τ->run (m+4) "Heap" "merge" [.obj "Heap" 1,iv a,iv b,x] U v τ:=λhj =>
  BC rfl (show tx "Heap" "merge"=some ir_Heap_merge from rfl) rfl (Ar (BB (AW (k:="Heap") (n:="join") (S_v rfl) h.h1 (AF (S_v rfl) (AF (S_v rfl) (AF (S_v rfl) AI))) hj)))
 have edl:=G.edl
 have hbig:big=1048576:=rfl
 by_cases z:fd H.par a=fd H.par b
 ·refine eX1 (J5 (x:=x) h G.w ha hb z (by lia) m) λτ zz=>aN3 zz λt1 t2 t3=>?_
  refine⟨_,τ,_,wrap t1,t2,t3,⟨⟨⟨G.w.n8,G.w.parlen,G.w.falls,G.w.kids,G.w.lotslen,G.w.lotsOk⟩,G.wl,G.dl,G.wb,G.nd,G.keys,G.abk,G.abu,G.abv,G.tt,G.knb,G.wtb,G.cap,λg hg=>G.snd g (hcl g hg).2,λp hp=>?_,?_,?_,?_⟩,G.pend⟩,rfl⟩
  ·rcases ZA hp with y | y
   ·exact G.prs p y
   ·refine ZN (Zx y) ?_;exact⟨ha,hb,z⟩
  ·show (H.ed++[_]).length+H.ab.length<=H.rs.length+(ps++[_]).length
   refine ZN ZG ?_;refine ZN ZG ?_;rw[ZM];refine ZN ZM ?_;exact le_of_le_of_eq (le_of_eq_of_le (Nat.add_right_comm _ _ _) (Nat.add_le_add_right edl _)) (Nat.add_assoc _ _ _)
  ·show H.fo.length<=(H.ed++[_]).length
   refine ZN ZG ?_;have:=G.fol;exact Zc this (Zt _ _)
  ·show H.mg.length<=(H.ed++[_]).length
   refine ZN ZG ?_;have:=G.mgl;exact Zc this (Zt _ _)
 ·refine eX2 (F9 (x:=x) (ps':=ps++[(a,b)]) h G.toBase ha hb z hcl (λp hp=>by
   rcases ZA hp with y | y
   ·exact .inl y
   ·exact .inr (Zx y)) (by refine ZN ZG ?_;exact Zt _ _) (Zc hpb (Za rfl)) (λn' r' hr'=>by
   rcases G.pend n' r' hr' with y | z0
   ·exact .inl y
   ·refine eX1 (z0) λk zz=>aN2 zz λy1 y2=>?_
    exact .inr ⟨k,(G.knb _ (DA y1)).1,y1,.inl y2⟩) m) λτ H' zz=>aN6 zz λt1 t2 t3 t4 t5 _=>?_
  exact⟨_,τ,H',wrap t1,t2,t3,t4,t5⟩
noncomputable def apA (l:AB) (c n:Nat):AB:=l.map λp=>if p.1=c then (p.1,p.2.1,p.2.2++[n])else p
theorem J6 (l:AB)(c n:Nat):(apA l c n).map (·.1)=l.map (·.1):=by
 unfold apA;refine ZO List.map_map ?_;refine ZL λp _=>?_
 simp only[Function.comp]
 split <;> rfl
theorem Ny (l:AB)(c n:Nat):(apA l c n).length=l.length:=by unfold apA;rw[ZF]
theorem Kl {l:AB}{c n s:Nat}{u:List Nat}(hk:(l.map (·.1)).Nodup)(h:l.lookup c=some (s,u)):apA l c n=BU l c s (u++[n]):=by
 refine ZL λp hp=>?_
 split
 ·rename_i q
  have:=B6 hk hp;rw[q]at this;replace this:=ZO h.symm this;rw[<- Option.some.inj this,q]
 ·rfl
theorem KQ (l:AB)(c n j:Nat):(apA l c n).lookup j=(l.lookup j).map λp=>if j=c then (p.1,p.2++[n])else p:=by
 unfold apA
 induction l with
 | nil=>rfl
 | cons p l ih =>
  obtain⟨x,y⟩:=p;rw[ZJ]
  by_cases q:x=c
  ·subst q
   rw[if_pos rfl];refine ZO List.lookup_cons ?_;rw[List.lookup_cons]
   by_cases z:j=x
   ·subst z;simp
   ·rw[show (j == x)=false from beq_false_of_ne z]
    exact ih
  ·rw[if_neg q];refine ZO List.lookup_cons ?_;rw[List.lookup_cons]
   by_cases z:j=x
   ·subst z;simp[q]
   ·rw[show (j == x)=false from beq_false_of_ne z]
    exact ih
noncomputable def Bf (l:AB) (K:List Nat) (n:Nat):AB:=K.foldl (λl c=>apA l c n) l
theorem KR (l:AB)(K:List Nat)(c n:Nat):Bf l (K++[c]) n=apA (Bf l K n) c n:=by unfold Bf;refine ZO List.foldl_append ?_;rfl
theorem Gm (l:AB)(n:Nat):∀ K:List Nat,(Bf l K n).map (·.1)=l.map (·.1):=by
 intro K
 induction K generalizing l with
 | nil=>rfl
 | cons c K ih =>
  show (Bf (apA l c n) K n).map (·.1)=_;rw[ih,J6]
theorem FG (n j:Nat):∀ (K:List Nat)(l:AB),K.Nodup->(Bf l K n).lookup j=(l.lookup j).map λp=>if j∈K then (p.1,p.2++[n])else p:=by
 intro K
 induction K with
 | nil=>intro l _;show l.lookup j=_;cases l.lookup j <;> simp
 | cons c K ih =>
  intro l hK;replace hK:=List.nodup_cons.mp hK;show (Bf (apA l c n) K n).lookup j=_;refine ZO (ih _ hK.2) ?_;rw[KQ,Option.map_map]
  congr 1
  funext p
  by_cases q:j=c
  ·subst q
   simp[hK.1]
  ·simp[q]
noncomputable def NO:List MS:=[.expr (.meth (.idx (.attr (.v "self") "above") (.v "c")) "append" [.v "n"])]
theorem PP {U:MH}{H:HV}(h:HeapIs U H)(keys:(H.ab.map (·.1)).Nodup){K:List Nat}(hK:K.Nodup){n:Nat}(hKl:∀ c∈K,∃ p,H.ab.lookup c=some p/\p.2.length<=100)(hKn:K.length<=16){X:CK}(hT:100<X.turns){J:ME'}{iter:ME}(hi:Ev X iter J U (.fl (nl K)) U)(e1:J.lookup "self"=some (.obj "Heap" 1))(e2:J.lookup "n"=some (iv n)) :
  ∃ J' τ,Xs X (.for (.v "c") .it iter NO) J U .next J' τ/\Fr U τ/\HeapIs τ { H with ab:=Bf H.ab K n }/\J'.lookup "self"=some (.obj "Heap" 1)/\J'.lookup "n"=some (iv n):=by
 refine eX2 (Eu (X:=X) (J:=J) (U:=U) (t:=.v "c") (k:=.it) (iter:=iter) (b:=NO) (l:=nl K)
  (λi J τ=>Fr U τ/\HeapIs τ { H with ab:=Bf H.ab (K.take i) n }/\J.lookup "self"=some (.obj "Heap" 1)/\J.lookup "n"=some (iv n)) hi (λi J U _ _=>Cx) (by
  intro i y J τ hy y5;refine aN4 (y5) λf h1 e1 e2=>?_
  unfold nl at hy;replace hy:=ZO (ZH).symm hy;refine eX1 (ZD hy) λc zz=>aN2 zz λhc q3=>?_;subst q3
  refine eX1 (hKl c (Zy hc)) λp zz=>aN2 zz λp1 p2=>?_
  have hno:c∉K.take i:=λz=>by
   obtain⟨j,hj⟩:=List.mem_iff_getElem?.mp z;have hjl:=(List.getElem?_eq_some_iff.mp hj).1;rw[List.length_take]at hjl;replace hj:=ZO (List.getElem?_take_of_lt (Zd hjl (Nat.min_le_left _ _))).symm hj;have:=(List.getElem?_inj (Zd hjl (Nat.min_le_right _ _)) hK).mp (hj.trans hc.symm);exact False.elim (Zp (le_of_le_of_eq (Nat.min_le_left _ _) this.symm) hjl)
  have keys1:((Bf H.ab (K.take i) n).map (·.1)).Nodup:=by rw[Gm];exact keys
  have hl:(Bf H.ab (K.take i) n).lookup c=some (p.1,p.2):=by
   refine ZO (FG n c _ _ (hK.sublist (List.take_sublist _ _))) ?_;refine ZN p1 ?_;rw[Option.map_some,if_neg hno]
  refine eX1 (h1.h14) λo zz=>aN2 zz λo1 o2=>?_
  have o2:IsD o (abV (Bf H.ab (K.take i) n)):=o2
  have hm:=mem_of_lookup hl
  have hat:=h1.abAt _ hm
  have ap:=Av (x:=iv n) hat (by rw[AP];simp only[big];exact Zb p2 (Za rfl))
  have e4:nl p.2++[iv n]=nl (p.2++[n]):=by simp[nl]
  have ap:MetR τ (some true) (.ref p.1) "append" [iv n] .none (τ.set p.1 (.list (nl (p.2++[n])))):=by refine ZN e4.symm ?_;exact ap
  have h2:=h1.sAbApp (c:=c) (r:=p.1) (l:=p.2) keys1 hl (p.2++[n])
  have h2:HeapIs (τ.set p.1 (.list (nl (p.2++[n])))) { H with ab:=BU (Bf H.ab (K.take i) n) c p.1 (p.2++[n]) }:=h2;rw[<- Kl keys1 hl,<- KR]at h2;have ht:K.take (i+1)=K.take i++[c]:=by refine ZO List.take_add_one ?_;refine ZN hc ?_;rfl
  exact⟨("c",iv c)::J,.next,_,_,rfl,AJ (BN (B0 (An (AT (S_v e1) h1.h1 rfl) (S_v rfl) (FA o1 o2 (by rw[Cq];refine ZN hl ?_;rfl))) hat (AF (S_v e2) AI) ap)) AY,.inl rfl,f.trans (Fr.set' (h1.low p.1 (BP (p:=(c,p.1,p.2)) hm))),by refine ZN ht ?_;exact h2,e1,e2⟩) ⟨Fr.refl,h,e1,e2⟩ (by rw[AP];exact Zb (Zc hKn (Za rfl)) hT)) λJ' τ zz=>aN5 zz λk1 k2 k3 k4 k5=>?_
 rw[AP,List.take_length]at k3;exact (eI2 (J') (τ) ⟨k1,k2,k3,k4,k5⟩)
theorem Nz {l:AB}{c n:Nat}(hk:(l.map (·.1)).Nodup):tot (apA l c n)<=tot l+1:=by
 cases h:l.lookup c with
 | some p =>
  rw[Kl hk (s:=p.1) (u:=p.2) h];have:=IQ (r:=p.1) (m:=p.2++[n]) hk (s:=p.1) (u:=p.2) h;rw[ZG,ZM]at this;lia
 | none =>
  have:apA l c n=l:=by
   unfold apA;have e:l.map (λp=>if p.1=c then (p.1,p.2.1,p.2.2++[n])else p)=l.map id:=ZL λp hp=>by
    rw[if_neg λe=>by
     have:=B6 hk hp;rw[e,h]at this;cases this]
    rfl
   refine ZN e ?_;rw[List.map_id]
  refine ZN this ?_;exact Zj (Zg _)
theorem Le {n:Nat}:∀ (K:List Nat)(l:AB),(l.map (·.1)).Nodup->tot (Bf l K n)<=tot l+K.length:=by
 intro K
 induction K with
 | nil=>intro l _;exact Zg _
 | cons c K ih =>
  intro l hk;have h1:=ih (apA l c n) (by rw[J6];exact hk)
  have h2:=Nz (c:=c) (n:=n) hk
  show tot (Bf (apA l c n) K n)<=_;refine ZN List.length_cons ?_;lia
theorem Lg (n:Nat):∀ (K:List Nat)(l:AB),(Bf l K n).length=l.length:=by
 intro K
 induction K with
 | nil=>intro l;rfl
 | cons c K ih=>intro l;show (Bf (apA l c n) K n).length=_;rw[ih,Ny]
noncomputable def adU (H:HV) (r:Row) (d:Int) (rl ra:Nat) (K:List Nat):HV :=
 { H with rs:=H.rs++[r],ws:=H.ws++[1+(r.2.map λk=>H.ws.getD k 0).sum],ds:=H.ds++[d],par:=H.par++[H.par.length],lots:=H.lots++[(rl,[H.par.length])],ab:=Bf (H.ab++[(H.rs.length,ra,[])]) K H.rs.length }
theorem NP {H:HV}(w:Wf H)(n7:H.rs.length<=7){r:Row}(h2:r.2.length<=2)(hk:∀ k∈r.2,k<H.rs.length){ws:List Nat}{ds:List Int}{ab:AB}{rl:Nat}:Wf { H with rs:=H.rs++[r],ws:=ws,ds:=ds,par:=H.par++[H.par.length],lots:=H.lots++[(rl,[H.par.length])],ab:=ab }:=by
 have fl:∀ {x},x<H.rs.length->x<H.par.length:=λhx=>by refine ZN w.parlen ?_;exact hx
 refine⟨by show (H.rs++[r]).length<=8;refine ZN ZG ?_;refine ZN ZM ?_;exact Zw (Zb n7 (Za rfl)),by show (H.par++[_]).length=(H.rs++[_]).length;refine ZO ZG ?_;refine ZN ZG ?_;refine ZN w.parlen ?_;rfl,E0 w.falls,λi s hs=>?_,by show (H.lots++[_]).length=(H.rs++[_]).length;refine ZO ZG ?_;refine ZN ZG ?_;refine ZN w.lotslen ?_;rfl,λc p hc hr=>?_⟩
 ·have hs:(H.rs++[r])[i]? = some s:=hs
  by_cases q:i<H.rs.length
  ·replace hs:=ZO (List.getElem?_append_left q).symm hs
   exact w.kids i s hs
  ·have hi:=Al hs
   rw[ZG,ZM]at hi;have:i=H.rs.length:=Zv (Zr hi) (Zn q);subst this;replace hs:=ZO (List.getElem?_append_right (Zg _)).symm hs;rw[Nat.sub_self]at hs;cases hs;exact⟨h2,hk⟩
 ·have hc:(H.lots++[(rl,[H.par.length])])[c]? = some p:=hc
  have hr:fd (H.par++[H.par.length]) c=c:=hr
  show p.2.Perm ((List.range (H.rs++[r]).length).filter λn=>fd (H.par++[H.par.length]) n=c);refine ZN ZG ?_;refine ZN ZM ?_;refine ZN List.range_succ ?_;rw[List.filter_append];have hlast:fd (H.par++[H.par.length]) H.rs.length=H.rs.length:=by refine ZN w.parlen.symm ?_;exact Kb w.falls
  by_cases q:c<H.rs.length
  ·replace hc:=ZO (List.getElem?_append_left (by refine ZN w.lotslen ?_;exact q)).symm hc
   replace hr:=ZO (Ex w.falls (fl q)).symm hr;have e1:(List.range H.rs.length).filter (λn=>decide (fd (H.par++[H.par.length]) n=c))=(List.range H.rs.length).filter λn=>decide (fd H.par n=c):=List.filter_congr λz hz=>by
    rw[Ex w.falls (fl (List.mem_range.mp hz))]
   have e2:[H.rs.length].filter (λn=>decide (fd (H.par++[H.par.length]) n=c))=[]:=by
    refine ZO (List.filter_cons_of_neg (by refine ZN hlast ?_;simp;exact Zf q)) ?_;rfl
   refine ZN e1 ?_;refine ZN e2 ?_;rw[List.append_nil];exact w.lotsOk c p hc hr
  ·have hcl:=(List.getElem?_eq_some_iff.mp hc).1
   rw[ZG,ZM,w.lotslen]at hcl;have:c=H.rs.length:=Zv (Zr hcl) (Zn q);subst this;replace hc:=ZO (List.getElem?_append_right (by refine ZN w.lotslen ?_;exact Zg _)).symm hc;rw[w.lotslen,Nat.sub_self]at hc;cases hc;have e1:(List.range H.rs.length).filter (λn=>decide (fd (H.par++[H.par.length]) n=H.rs.length))=[]:=List.filter_eq_nil_iff.mpr λz hz=>by
    have hz:=List.mem_range.mp hz;refine ZN (Ex w.falls (fl hz)) ?_;have:=Cv w.falls (fl hz);rw[w.parlen]at this;simp;exact Zk this
   have e2:[H.rs.length].filter (λn=>decide (fd (H.par++[H.par.length]) n=H.rs.length))=[H.rs.length]:=by
    refine ZO (List.filter_cons_of_pos (by refine ZN hlast ?_;simp)) ?_;rfl
   refine ZN e1 ?_;refine ZN e2 ?_;refine ZN w.parlen ?_;exact List.Perm.refl _
theorem NQ {H:HV}{ps:List (Nat×Nat)}(G:Good H ps)(n7:H.rs.length<=7){r:Row}(hno:r∉H.rs)(h2:r.2.length<=2)(hk:∀ k∈r.2,k<H.rs.length){d:Int}{rl ra:Nat}{K:List Nat}(hK:K.Nodup)(hKm:∀ c,c∈K↔∃ k∈r.2,fd H.par k=c)(hKl:K.length<=2) :
  Base (adU H r d rl ra K) ps/\(adU H r d rl ra K).kn.length+1+(adU H r d rl ra K).wt.length+17 * (adU H r d rl ra K).ab.length<=18 * (adU H r d rl ra K).rs.length /\
   (adU H r d rl ra K).rs[H.rs.length]? = some r/\∀ (n':Nat) (r':Row),(adU H r d rl ra K).rs[n']? = some r'->n'=H.rs.length\/NL (adU H r d rl ra K) n' r':=by
 have w:=G.w
 have fl:∀ {x},x<H.rs.length->x<H.par.length:=λhx=>by refine ZN w.parlen ?_;exact hx
 have old:∀ {x},x<H.rs.length->fd (H.par++[H.par.length]) x=fd H.par x:=λhx=>Ex w.falls (fl hx)
 have new:fd (H.par++[H.par.length]) H.rs.length=H.rs.length:=by refine ZN w.parlen.symm ?_;exact Kb w.falls
 have len1:(H.rs++[r]).length=H.rs.length+1:=by refine ZO ZG ?_;rw[ZM]
 have row:∀ {n:Nat} {s:Row},(H.rs++[r])[n]? = some s->(H.rs[n]? = some s)\/(n=H.rs.length/\s=r):=λ{n s} hs=>by
  by_cases q:n<H.rs.length
  ·replace hs:=ZO (List.getElem?_append_left q).symm hs
   exact .inl hs
  ·have hi:=Al hs
   have:n=H.rs.length:=by lia
   subst this;replace hs:=ZO (List.getElem?_append_right (Zg _)).symm hs;rw[Nat.sub_self]at hs;cases hs;exact .inr ⟨rfl,rfl⟩
 have rowUp:∀ {n:Nat} {s:Row},H.rs[n]? = some s->(H.rs++[r])[n]? = some s:=λhs=>by refine ZO (List.getElem?_append_left (Al hs)) ?_;exact hs
 have mapOld:∀ {l:List Nat},(∀ k∈l,k<H.rs.length)->l.map (fd (H.par++[H.par.length]))=l.map (fd H.par):=λhl=>ZL λk hk=>old (hl k hk)
 have noN:H.ab.lookup H.rs.length=none:=by
  cases h:H.ab.lookup H.rs.length with
  | none=>rfl
  | some p=>exact absurd ((G.abk _).mp ⟨p,h⟩).1 (Zp (Zg _))
 have keys1:((H.ab++[(H.rs.length,ra,([]:List Nat))]).map (·.1)).Nodup:=by
  refine ZN List.map_append ?_;refine List.nodup_append.mpr ?_;refine⟨G.keys,by simp,λx hx y hy e=>?_⟩;rw[ZJ,List.map_nil]at hy;replace hy:=Zx hy;subst hy;refine eX1 (ZB hx) λp zz=>aN2 zz λhp hx=>?_
  have:=B6 G.keys hp;rw[hx,e]at this;replace this:=ZO noN.symm this;cases this
 have abL:∀ j,(Bf (H.ab++[(H.rs.length,ra,[])]) K H.rs.length).lookup j=((H.ab.lookup j).or (if j=H.rs.length then some (ra,[])else none)).map λp=>if j∈K then (p.1,p.2++[H.rs.length])else p:=λj=>by
  refine ZO (FG _ _ _ _ hK) ?_;rw[lookup_snocG]
 have keys2:((Bf (H.ab++[(H.rs.length,ra,[])]) K H.rs.length).map (·.1)).Nodup:=by rw[Gm];exact keys1
 have hclo:∀ g,Bi (H.rs++[r]) ps g->Bi H.rs ps g:=λg hg=>⟨hg.1,λn m s t hs ht=>hg.2 n m s t (rowUp hs) (rowUp ht)⟩
 have abLen:(Bf (H.ab++[(H.rs.length,ra,[])]) K H.rs.length).length=H.ab.length+1:=by rw[Lg];refine ZO ZG ?_;rw[ZM]
 have cap:=G.cap
 have hKN:H.rs.length∉K:=λz=>by
  refine eX1 ((hKm _).mp z) λk zz=>aN2 zz λk1 k2=>?_
  have:=(G.toBase.fdN (hk k k1)).1;exact False.elim (Zp (Nat.le_of_eq k2.symm) this)
 refine⟨⟨NP w n7 h2 hk,?_,?_,λi=>?_,?_,keys2,λc=>?_,λn s hs k hk'=>?_,λp hp n hn=>?_,?_,λp hp=>?_,λn hn=>?_,?_,λg hg x hx=>?_,λp hp=>?_,?_,G.fol,G.mgl⟩,?_,?_,λn' r' hr'=>?_⟩
 ·show (H.ws++[_]).length=(H.rs++[r]).length
  refine ZN len1 ?_;refine ZO ZG ?_;refine ZN ZM ?_;rw[G.wl]
 ·show (H.ds++[_]).length=(H.rs++[r]).length
  refine ZN len1 ?_;refine ZO ZG ?_;refine ZN ZM ?_;rw[G.dl]
 ·show (H.ws++[_]).getD i 0<2 ^ (i+1)
  refine ZN DO ?_;have hpos:0<2 ^ (i+1):=Nat.pow_pos (by decide)
  split
  ·exact G.wb i
  ·split
   ·rename_i q
    have hle:∀ k∈r.2,H.ws.getD k 0+1<=2 ^ i:=λk hk1=>by
     have h3:=G.wb k
     have h4:2 ^ (k+1)<=2 ^ i:=Nat.pow_le_pow_right (by decide) (by have:=hk k hk1;refine ZN q ?_;refine ZN G.wl ?_;exact Zw this);exact Zw (Zd h3 h4)
    rw[Nat.pow_succ];rcases h:r.2 with _ | ⟨a,_ | ⟨b,_ | ⟨c,l⟩⟩⟩
    ·simp;lia
    ·have:=hle a (by refine ZN h ?_;simp)
     simp only[ZJ,List.map_nil,List.sum_cons,List.sum_nil];lia
    ·have:=hle a (by refine ZN h ?_;simp)
     have:=hle b (by refine ZN h ?_;simp);simp only[ZJ,List.map_nil,List.sum_cons,List.sum_nil];lia
    ·rw[h]at h2;simp at h2
   ·exact hpos
 ·show (H.rs++[r]).Nodup
  refine List.nodup_append.mpr ?_;refine⟨G.nd,by simp,λx hx y hy e=>?_⟩;replace hy:=Zx hy;rw[e,hy]at hx;exact hno hx
 ·show (∃ p,(Bf (H.ab++[(H.rs.length,ra,[])]) K H.rs.length).lookup c=some p)↔c<(H.rs++[r]).length/\fd (H.par++[H.par.length]) c=c
  refine ZN (abL c) ?_;refine ZN len1 ?_
  by_cases q:c=H.rs.length
  ·subst q
   refine ZN noN ?_;refine ZN (if_pos rfl) ?_;exact⟨λ_=>⟨Zo _,new⟩,λ_=>⟨_,rfl⟩⟩
  ·refine ZN (if_neg q) ?_;refine ZN Option.or_none ?_
   constructor
   ·rintro⟨p,hp⟩
    refine eX1 (ZD hp) λp' zz=>aN2 zz λhp' _=>?_
    obtain⟨h3,h4⟩:=(G.abk c).mp ⟨p',hp'⟩;exact⟨Zh (Zl h3),by refine ZO (old h3) ?_;exact h4⟩
   ·rintro⟨h3,h4⟩
    have h5:c<H.rs.length:=Zu (Zr h3) q;replace h4:=ZO (old h5).symm h4;obtain⟨p,hp⟩:=(G.abk c).mpr ⟨h5,h4⟩;exact⟨_,by refine ZN hp ?_;rfl⟩
 ·show ∃ p,(Bf (H.ab++[(H.rs.length,ra,[])]) K H.rs.length).lookup (fd (H.par++[H.par.length]) k)=some p/\n∈p.2
  rcases row hs with hs | ⟨rfl,rfl⟩
  ·have hkN:=G.toBase.kidN hs k hk'
   refine eX1 (G.abu n s hs k hk') λp zz=>aN2 zz λp1 p2=>?_
   refine ZN (old hkN) ?_;rw[abL];refine ZN p1 ?_;refine⟨_,rfl,?_⟩;show n∈(if _ then (p.1,p.2++[H.rs.length])else p).2
   split
   ·exact List.mem_append_left _ p2
   ·exact p2
  ·have hkN:=hk k hk'
   obtain⟨p,p1⟩:=(G.abk _).mpr (G.toBase.fdN hkN);refine ZN (old hkN) ?_;rw[abL];refine ZN p1 ?_;refine⟨_,rfl,?_⟩;show H.rs.length∈(if _ then (p.1,p.2++[H.rs.length])else p).2;refine ZN (if_pos ((hKm _).mpr ⟨k,hk',rfl⟩)) ?_;simp
 ·show n<(H.rs++[r]).length
  have hl:=B6 keys2 hp;rw[abL]at hl;refine eX1 (ZD hl) λp' zz=>aN2 zz λhp' e=>?_
  have hold:∀ x∈p'.2,x<H.rs.length:=λx hx=>by
   cases h:H.ab.lookup p.1 with
   | some q =>
    rw[h]at hp';cases hp';exact G.abv _ (mem_of_lookup h) x hx
   | none =>
    rw[h]at hp'
    split at hp'
    ·cases hp';cases hx
    ·cases hp'
  refine ZN len1 ?_;rw[<- e]at hn
  split at hn
  ·rcases ZA hn with z | z
   ·have:=hold n z;exact Zh (Zl this)
   ·refine ZN (Zx z) ?_;exact Zo _
  ·have:=hold n hn;exact Zh (Zl this)
 ·show tot (Bf (H.ab++[(H.rs.length,ra,[])]) K H.rs.length)<=2 * (H.rs++[r]).length
  have h3:=Le (n:=H.rs.length) K _ keys1
  have h4:tot (H.ab++[(H.rs.length,ra,([]:List Nat))])=tot H.ab:=by unfold tot;simp
  have:=G.tt;lia
 ·refine aN3 (G.knb p hp) λh3 h4 zz=>eX1 zz λs zz=>aN3 zz λh5 h6 h7=>?_
  refine⟨by show p.2<(H.rs++[r]).length;refine ZN len1 ?_;exact Zh (Zl h3),λk hk1=>by show k<(H.rs++[r]).length;refine ZN len1 ?_;have:=h4 k hk1;exact Zh (Zl this),s,rowUp h5,h6,?_⟩;show p.1.2.map (fd (H.par++[H.par.length]))=s.2.map (fd (H.par++[H.par.length]));refine ZO (mapOld h4) ?_;refine ZN (mapOld (G.toBase.kidN h5)) ?_;exact h7
 ·show n<(H.rs++[r]).length
  refine ZN len1 ?_;have:=G.wtb n hn;exact Zh (Zl this)
 ·show H.kn.length+H.wt.length+17 * (Bf _ K H.rs.length).length<=18 * (H.rs++[r]).length
  refine ZN abLen ?_;refine ZN len1 ?_;lia
 ·show g (fd (H.par++[H.par.length]) x)=g x
  have hx:x<(H.rs++[r]).length:=hx
  by_cases q:x=H.rs.length
  ·refine ZN q ?_;rw[new]
  ·refine ZN (old (by lia)) ?_
   exact G.snd g (hclo g hg) x (by lia)
 ·refine aN3 (G.prs p hp) λh3 h4 h5=>?_
  refine⟨by show p.1<(H.rs++[r]).length;refine ZN len1 ?_;exact Zh (Zl h3),by show p.2<(H.rs++[r]).length;refine ZN len1 ?_;exact Zh (Zl h4),?_⟩;show fd (H.par++[H.par.length]) p.1=fd (H.par++[H.par.length]) p.2;refine ZO (old h3) ?_;refine ZN (old h4) ?_;exact h5
 ·show H.ed.length+(Bf _ K H.rs.length).length<=(H.rs++[r]).length+ps.length
  refine ZN abLen ?_;have:=G.edl;lia
 ·show H.kn.length+1+H.wt.length+17 * (Bf _ K H.rs.length).length<=18 * (H.rs++[r]).length
  refine ZN abLen ?_;refine ZN len1 ?_;lia
 ·show (H.rs++[r])[H.rs.length]? = some r
  simp
 ·rcases row hr' with hs | ⟨rfl,rfl⟩
  ·right
   rcases G.pend n' r' hs with z | z0
   ·exact .inl z
   ·refine eX1 (z0) λm zz=>aN2 zz λm1 m2=>?_
    refine .inr ⟨m,?_,?_⟩
    ·show H.kn.lookup (Bj (H.par++[H.par.length]) r')=some m
     have:Bj (H.par++[H.par.length]) r'=Bj H.par r':=Prod.ext rfl (mapOld (G.toBase.kidN hs));refine ZN this ?_;exact m1
    ·show fd (H.par++[H.par.length]) m=fd (H.par++[H.par.length]) n'
     refine ZN (old (G.knb _ (DA m1)).1) ?_;refine ZN (old (Al hs)) ?_;exact m2
  ·exact .inl rfl
theorem Lh {U:MH}{H:HV}{ps:List (Nat×Nat)}(h:HeapIs U H)(G:Good H ps){i:Nat}{r:Row}(hr:H.rs[i]? = some r)(m:Nat):run (m+5) "Heap" "add" [.obj "Heap" 1,.str r.1,.tup (nl r.2)] U (iv i) U:=by
 have c:=Ap (X:=XX (m+4)) (J:=[("n",iv i),("numbers",.tup (nl r.2)),("op",.str r.1),("self",.obj "Heap" 1)]) (S_v (n:="n") rfl) (AW (k:="Unions") (n:="size") (AT (S_v (n:="self") rfl) h.h1 (n:="unions") rfl) h.h7 AI (NK h (by refine ZN G.w.parlen ?_;exact (G.w.n8)) (m+3))) (CW _ _);rw[decide_eq_true (by refine ZN G.w.parlen ?_;exact (Al hr))]at c;exact BC (J1:=[("n",iv i),("numbers",.tup (nl r.2)),("op",.str r.1),("self",.obj "Heap" 1)]) rfl (show tx "Heap" "add"=some ir_Heap_add from rfl) rfl (AJ (AS (AW (k:="Bank") (n:="take") (AT (S_v rfl) h.h1 rfl) h.h2 (AF (S_v rfl) (AF (S_v rfl) AI)) (KN h G.nd hr (G.w.kids i r hr).1 (m+1))) P_v) (Ar (CT c (Ar (BB (S_v rfl))))))
theorem H9 {U:MH}{H:HV}{ps:List (Nat×Nat)}(h:HeapIs U H)(G:Good H ps)(hpb:ps.length<=100)(n7:H.rs.length<=7){r:Row}(hno:r∉H.rs)(hop:IO r.1)(h2:r.2.length<=2)(hk:∀ k∈r.2,k<H.rs.length)(m:Nat) :
  ∃ τ H',run (m+5) "Heap" "add" [.obj "Heap" 1,.str r.1,.tup (nl r.2)] U (iv H.rs.length) τ/\Fr U τ/\HeapIs τ H'/\Good H' ps/\H'.rs=H.rs++[r]:=by
 have w:=G.w
 have hwb:∀ i,H.ws.getD i 0<2 ^ 39:=λi=>by
  by_cases q:i<H.ws.length
  ·have h3:=G.wb i
   have h4:2 ^ (i+1)<=2 ^ 39:=Nat.pow_le_pow_right (by decide) (by rw[G.wl]at q;exact Zw (Ze (Zd q n7) (Za rfl)));exact Zd h3 h4
  ·refine ZN (List.getD_eq_getElem?_getD) ?_;refine ZN (List.getElem?_eq_none (Zn q)) ?_
   decide
 refine eX2 (KO h hno hop hk h2 n7 G.wl G.dl hwb (m+1)) λd U1 zz=>aN3 zz λt1 t2 h1=>?_
 have c:=Ap (X:=XX (m+4)) (J:=[("n",iv H.rs.length),("numbers",.tup (nl r.2)),("op",.str r.1),("self",.obj "Heap" 1)]) (S_v (n:="n") rfl) (AW (k:="Unions") (n:="size") (AT (S_v (n:="self") rfl) h1.h1 (n:="unions") rfl) h1.h7 AI ((NK h1 (by show H.par.length<=8;refine ZN w.parlen ?_;exact Zc n7 (Za rfl)) (m+3)))) (CW _ _);rw[decide_eq_false (by refine ZN w.parlen ?_;exact Zp (Zg _))]at c;refine eX2 (PN h1 (by show H.lots.length=H.par.length;refine ZO w.lotslen ?_;rw[w.parlen]) (by show H.par.length<=8;refine ZN w.parlen ?_;exact Zc n7 (Za rfl)) (m+3)) λU2 rl zz=>aN3 zz λm1 m2 hh2=>?_
 refine eX1 (hh2.h14) λo zz=>aN2 zz λo1 o2=>?_
 have o2:IsD o (abV H.ab):=o2
 have noN:H.ab.lookup H.rs.length=none:=by
  cases h:H.ab.lookup H.rs.length with
  | none=>rfl
  | some p=>exact absurd ((G.abk _).mp ⟨p,h⟩).1 (Zp (Zg _))
 have abl:H.ab.length<=200:=by have:=G.cap;lia
 refine eX1 (o2.set H.rs.length (.ref U2.length) (by unfold abV;rw[ZF];simp only[big];exact Zb abl (Za rfl))) λo' zz=>aN4 zz λq1 q2 q3 q4=>?_
 have hput:putN (abV H.ab) H.rs.length (.ref U2.length)=H.ab.map (λp=>(p.1,MV.ref p.2.1))++[(H.rs.length,MV.ref U2.length)]:=by
  unfold putN;rw[Cq];refine ZN noN ?_;rfl
 rw[hput]at q2;have h3:=hh2.sAbNew (c:=H.rs.length) (m:=[]) q2
 let J:ME':=[("n",iv H.rs.length),("numbers",.tup (nl r.2)),("op",.str r.1),("self",.obj "Heap" 1)]
 have s3:Xs (XX (m+4)) (.assign (.idx (.attr (.v "self") "above") (.v "n")) (.lst [])) J U2 .next J ((U2++[MO.list (nl [])]).set 14 o') :=
  AS (C8 AI) (FQ (AT (S_v rfl) (B4 hh2.h1 _) rfl) (S_v rfl) (B4 o1 _) q3 q4 q1)
 generalize hσ3:(U2++[MO.list (nl [])]).set 14 o'=U3 at *;have w3:Wf { H with rs:=H.rs++[r],ws:=H.ws++[1+(r.2.map λk=>H.ws.getD k 0).sum],ds:=H.ds++[d],par:=H.par++[H.par.length],lots:=H.lots++[(rl,[H.par.length])],ab:=H.ab++[(H.rs.length,U2.length,[])] }:=NP w n7 h2 hk
 have fl:∀ {x},x<H.rs.length->x<H.par.length:=λhx=>by refine ZN w.parlen ?_;exact hx
 have cf:Ev (XX (m+4)) (.comp (.meth (.v "self") "find" [.v "kid"]) (.v "kid") .it (.v "numbers") []) J U3 (.fl (nl (r.2.map (fd H.par)))) U3 :=
  D0 (l:=r.2) (f:=fd H.par) (S_v rfl) BK (λk hk1=>by
   have:=DF h3 w3 (a:=k) (by show k<(H.rs++[r]).length;refine ZN ZG ?_;have:=hk k hk1;exact Zd this (Zt _ _)) (m+2)
   have this:run (m+2+2) "Heap" "find" [.obj "Heap" 1,iv k] U3 (iv (fd (H.par++[H.par.length]) k)) U3:=this;rw[Ex w.falls (fl (hk k hk1))]at this;exact AW (k:="Heap") (n:="find") (S_v rfl) h3.h1 (AF (S_v rfl) AI) this) (by show _<10000;exact Zb h2 (Za rfl)) (by simp only[big];exact Zc h2 (Za rfl))
 refine eX1 (JO (U:=U3) (l:=r.2.map (fd H.par)) (by rw[ZF];exact Zb h2 (Za rfl))) λK zz=>aN4 zz λK1 K2 K3 K4=>?_
 rw[ZF]at K3;have hKm:∀ c,c∈K↔∃ k∈r.2,fd H.par k=c:=λc=>by rw[K2];exact List.mem_map
 have noK:∀ c∈K,∃ p,(H.ab++[(H.rs.length,U2.length,([]:List Nat))]).lookup c=some p/\p.2.length<=100:=λc hc=>by
  refine eX1 ((hKm c).mp hc) λk zz=>aN2 zz λk1 q3=>?_;subst q3
  obtain⟨p,p1⟩:=(G.abk _).mpr (G.toBase.fdN (hk k k1));refine⟨p,by refine ZO lookup_snocG ?_;refine ZN p1 ?_;rfl,?_⟩;have h5:=FU (f:=λp:Nat×Nat×List Nat=>p.2.2.length) (mem_of_lookup p1)
  have h5:p.2.length<=tot H.ab:=h5
  have:=G.tt;exact Zc (Zc (Zc h5 this) (Nat.mul_le_mul (Zg _) n7)) (Za rfl)
 have keys1:((H.ab++[(H.rs.length,U2.length,([]:List Nat))]).map (·.1)).Nodup:=by
  refine ZN List.map_append ?_;refine List.nodup_append.mpr ?_;refine⟨G.keys,by simp,λx hx y hy e=>?_⟩;rw[ZJ,List.map_nil]at hy;replace hy:=Zx hy;subst hy;refine eX1 (ZB hx) λp zz=>aN2 zz λhp hx=>?_
  have:=B6 G.keys hp;rw[hx,e]at this;replace this:=ZO noN.symm this;cases this
 refine eX2 (PP h3 keys1 K4 (n:=H.rs.length) noK (Zc (Zc K3 h2) (Za rfl)) (X:=XX (m+4)) (by show 100<10000;decide) (J:=J) (iter:=.bi .sortedset [.comp (.meth (.v "self") "find" [.v "kid"]) (.v "kid") .it (.v "numbers") []]) (Bg (AF cf AI) K1) rfl rfl) λJ' U4 zz=>aN5 zz λs4 f4 h4 e1 e2=>?_
 refine aN4 (NQ (d:=d) (rl:=rl) (ra:=U2.length) G n7 hno h2 hk K4 hKm (Zc K3 h2)) λB slack hrow hpend=>?_
 have h4:HeapIs U4 (adU H r d rl U2.length K):=h4;refine eX2 (NM h4 B hpb slack hrow hpend m) λτ H' zz=>aN6 zz λu1 u2 u3 u4 u5 _=>?_
 refine (eI2 (τ) H' ⟨BC (J1:=J') rfl (show tx "Heap" "add"=some ir_Heap_add from rfl) rfl (AJ (AS (AW (k:="Bank") (n:="take") (AT (S_v rfl) h.h1 rfl) h.h2 (AF (S_v rfl) (AF (S_v rfl) AI)) t1) P_v) (AJ (B5 c AY) (AJ (BN (AW (k:="Unions") (n:="make") (AT (S_v rfl) h1.h1 rfl) h1.h7 AI m1)) (AJ s3 (AJ s4 (AJ (BN (AW (k:="Heap") (n:="look_at") (S_v e1) h4.h1 (AF (S_v e2) AI) u1)) (Ar (BB (S_v e2))))))))),?_,u3,u4,u5⟩);refine t2.trans (m2.trans (Fr.trans ?_ (f4.trans u2)));refine ZN (hσ3).symm ?_;exact Fr.more.trans (Fr.set (by decide))
theorem PQ {U:MH}{H:HV}(h:HeapIs U H){s:String}{m:Nat}{v:MV}{τ:MH}(t:run (m+5) "Heap" "add" [.obj "Heap" 1,.str s,.tup (nl [])] U v τ):run (m+6) "Heap" "put" [.obj "Heap" 1,.tup [.str s]] U v τ:=by
 have c:Ev (XX (m+5)) (.comp (.meth (.v "self") "put" [.v "part"]) (.v "part") .it (.from1 (.v "term")) []) [("term",.tup [.str s]),("self",.obj "Heap" 1)] U (.fl []) U:=by
  have:=Ca (X:=XX (m+5)) (J:=[("term",.tup [.str s]),("self",.obj "Heap" 1)]) (U:=U) (elt:=.meth (.v "self") "put" [.v "part"]) (n:="part") (k:=.it) (l:=[]) (out:=[]) (CL (o:=.v "term") (l:=[.str s]) (S_v rfl) (by simp[big])) BK rfl (λi y v hy hv=>by simp at hy) (by show 0<10000;decide) (by simp[big]);exact this
 exact BC rfl (show tx "Heap" "put"=some ir_Heap_put from rfl) rfl (Ar (BB (AW (k:="Heap") (n:="add") (S_v rfl) h.h1 (AF (An (S_v rfl) S_c Ga) (AF (ED c rfl (by simp[big])) AI)) t)))
structure GW (U:MH) (H:HV) (ps:List (Nat×Nat)) (place:Nat):Prop where
 l:LW U H ps place
 g:Good H ps
theorem Fr.lw {U τ:MH}{H H':HV}{ps:List (Nat×Nat)}{place:Nat}(f:Fr U τ)(L:LW U H ps place)(h:HeapIs τ H')(e:H'.rs=H.rs):LW τ H' ps place :=
 ⟨h,by rw[e];exact f.at' _ _ (.inr (.inl rfl)) L.h17,f.at' _ _ (.inr (.inr rfl)) L.h18,let ⟨c,a,b⟩:=L.sp;⟨c,a,f.at' _ _ (.inl rfl) b⟩⟩
theorem HeapIs.set17 {U:MH}{H:HV}(h:HeapIs U H){i:Nat}(hi:i=17\/i=18)(x:MO):HeapIs (U.set i x) H:=by
 have k:∀ {j:Nat} {o:MO},(j == 17 || j == 18)=false->U[j]? = some o->(U.set i x)[j]? = some o:=λhj q=>AU (λe=>by subst e;rcases hi with rfl | rfl <;> cases hj) q
 have lo:∀ {a:Nat},19<=a->(a == 17 || a == 18)=false:=λh=>by rw[As h rfl,As h rfl];rfl
 exact⟨by rw[List.length_set];exact h.len,k rfl h.h1,k rfl h.h2,k rfl h.h3,(let ⟨o,a,b⟩:=h.h4;⟨o,k rfl a,b⟩),k rfl h.h5,k rfl h.h6,k rfl h.h7,k rfl h.h8,k rfl h.h9,k rfl h.h10,k rfl h.h11,k rfl h.h12,(let ⟨o,a,b⟩:=h.h13;⟨o,k rfl a,b⟩),(let ⟨o,a,b⟩:=h.h14;⟨o,k rfl a,b⟩),k rfl h.h15,k rfl h.h16,
  (λp hp=>k (lo (h.low _ (Aw hp))) (h.lotsAt p hp)),(λp hp=>k (lo (h.low _ (BP hp))) (h.abAt p hp)),h.refs,h.low⟩
theorem OA {U:MH}{k:Nat}(h:k<1000):BiP U .str (iv k) (.str (toString k)):=by
 exact⟨_,rfl,⟨Int.natCast_nonneg _,Int.ofNat_lt.mpr h⟩,rfl⟩
theorem PR {U:MH}(a b:Nat):CmpR U (.gt ()) (iv a) (iv b) (decide (b<a)):=(CmpR.gti a b).to (decide_eq_decide.mpr Int.ofNat_lt)
theorem Km {U:MH}(r:Row):CmpR U .ne (rmv r) (rmv r) false:=(CmpR.net _ _ _ _ (IF r) (IF r)).to (by simp)
structure NR (J:ME'):Prop where
 e1:J.lookup "spool"=some (.ref 0)
 e2:J.lookup "heap"=some (.obj "Heap" 1)
 e3:J.lookup "rows"=some (.ref 17)
 e4:J.lookup "pairs"=some (.ref 18)
noncomputable def dOr:ME:=.or (.cmp .eq (.v "way") (.c (.int 3))) (.cmp (.gt ()) (.bi .len [.v "rows"]) (.c (.int 7)))
noncomputable def NS:List MS:=[
  .unpack [.v "way",.v "one",.v "other"] (.tup [.call (.g "" "_law_reel") [.v "spool",.c (.int 4)],.call (.g "" "_law_reel") [.v "spool",.bi .len [.v "rows"]],.call (.g "" "_law_reel") [.v "spool",.bi .len [.v "rows"]]]),
  .ite dOr [
   .expr (.meth (.v "pairs") "append" [.tup [.v "one",.v "other"]]),
   .expr (.meth (.v "heap") "merge" [.v "one",.v "other",.tup [.c (.str "told"),.bi .str [.bi .len [.v "pairs"]]]]),
   .cont] [],
  .assign (.v "last") (.bin .sub (.bi .len [.v "rows"]) (.c (.int 1))),
  .assign (.v "row") (.idx (.flst [.tup [.c (.str "f"),.v "one"],.tup [.c (.str "g"),.v "one",.v "other"],.tup [.c (.str "g"),.v "last",.v "last"]]) (.v "way")),
  .assign (.v "n") (.meth (.v "heap") "add" [.idx (.v "row") (.c (.int 0)),.from1 (.v "row")]),
  .ite (.cmp .eq (.v "n") (.bi .len [.v "rows"])) [
   .expr (.meth (.v "rows") "append" [.v "row"])] [],
  .ite (.cmp .ne (.idx (.v "rows") (.v "n")) (.v "row")) [
   .ret (.c (.bool false))] []]
theorem J7:ir_law_deeds=⟨["spool","heap","rows","pairs"],[.for (.v "lap") .range (.bin .add (.c (.int 1)) (.call (.g "" "_law_reel") [.v "spool",.c (.int 5)])) NS,.expr (.meth (.v "heap") "settle" []),.ret (.c (.bool true))]⟩:=rfl
theorem DR {τ:MH}{R:List Row}(q3:τ[17]? = some (.list (R.map rmv)))(q:R.length<=8):BiP τ .len (.ref 17) (iv R.length):=Gh q3 (ZF ..) (by simp only[big];exact Zc q (Za rfl))
theorem Li {τ:MH}{ps:List (Nat×Nat)}(q3:τ[18]? = some (.list (ps.map pmv)))(q:ps.length<=100):BiP τ .len (.ref 18) (iv ps.length):=Gh q3 (ZF ..) (by simp only[big];exact Zc q (Za rfl))
theorem PS {τ:MH}{H:HV}{ps:List (Nat×Nat)}{place:Nat}(g:GW τ H ps place)(hN:0<H.rs.length)(hp:place+3<2 ^ 20)(hpl:ps.length<=80){J:ME'}(E:NR J)(m:Nat) :
  ∃ fl J' τ' H' ps',Xl (XX (m+5)) NS J τ fl J' τ'/\(fl=.next\/fl=.cont)/\NR J'/\GW τ' H' ps' (place+3)/\ps'.length<=ps.length+1/\H.rs.length<=H'.rs.length:=by
 have n8:=g.g.w.n8;refine eX2 (g.l.reel (many:=4) (Ze (Nat.lt_add_of_pos_right (Za rfl)) hp) (by decide) (m+4)) λway τ1 zz=>aN4 zz λw1 w2 L1 _=>?_
 refine eX2 (L1.reel (Ze (Nat.add_lt_add_left (Za rfl) _) hp) hN (m+4)) λone τ2 zz=>aN4 zz λo1 o2 L2 _=>?_
 refine eX2 (L2.reel (by lia) hN (m+4)) λoth τ3 zz=>aN4 zz λb1 b2 L3 _=>?_
 let J1:ME':=("other",iv oth)::("one",iv one)::("way",iv way)::J
 have E1:NR J1:=⟨E.e1,E.e2,E.e3,E.e4⟩
 have s1:Xs (XX (m+5)) (.unpack [.v "way",.v "one",.v "other"] (.tup [.call (.g "" "_law_reel") [.v "spool",.c (.int 4)],.call (.g "" "_law_reel") [.v "spool",.bi .len [.v "rows"]],.call (.g "" "_law_reel") [.v "spool",.bi .len [.v "rows"]]])) J τ .next J1 τ3 :=
  BY (BR (AF (Bc (k:="") (n:="_law_reel") S_g (AF (S_v E.e1) (AF S_c AI)) w2) (AF (Bc (k:="") (n:="_law_reel") S_g (AF (S_v E.e1) (AF (Bg (AF (S_v E.e3) AI) (DR L1.h17 n8)) AI)) o2) (AF (Bc (k:="") (n:="_law_reel") S_g (AF (S_v E.e1) (AF (Bg (AF (S_v E.e3) AI) (DR L2.h17 n8)) AI)) b2) AI)))) rfl (Ao P_v (Ao P_v (Ao P_v Cn)))
 have c1:=Ap (X:=XX (m+5)) (J:=J1) (U:=τ3) (S_v (n:="way") rfl) S_c (Br way 3)
 have c2:=Ap (X:=XX (m+5)) (J:=J1) (U:=τ3) (Bg (AF (S_v (n:="rows") E1.e3) AI) (DR L3.h17 n8)) S_c (PR H.rs.length 7)
 by_cases hw:way=3\/7<H.rs.length
 ·have c0:Ev (XX (m+5)) dOr J1 τ3 (.bool true) τ3:=by
   by_cases z:way=3
   ·rw[decide_eq_true z]at c1
    exact OP c1
   ·rw[decide_eq_false z]at c1
    rw[decide_eq_true (by lia)]at c2;exact G7 c1 c2
  have ap:=Av (U:=τ3) (i:=18) (x:=.tup [iv one,iv oth]) L3.h18 (by rw[ZF];simp only[big];exact Zb hpl (Za rfl))
  have he:ps.map pmv++[.tup [iv one,iv oth]]=(ps++[(one,oth)]).map pmv:=by refine ZN List.map_append ?_;rfl
  rw[he]at ap;have h4:=L3.h.set17 (i:=18) (.inr rfl) (.list ((ps++[(one,oth)]).map pmv))
  have h418:(τ3.set 18 (.list ((ps++[(one,oth)]).map pmv)))[18]? = some (.list ((ps++[(one,oth)]).map pmv)):=Be L3.h18
  have h417:(τ3.set 18 (.list ((ps++[(one,oth)]).map pmv)))[17]? = some (.list (H.rs.map rmv)):=AU (by decide) L3.h17
  have sp4:JW (τ3.set 18 (.list ((ps++[(one,oth)]).map pmv))) (place+1+1+1):=let ⟨c,a,b⟩:=L3.sp;⟨c,a,AU (by decide) b⟩;generalize τ3.set 18 (.list ((ps++[(one,oth)]).map pmv))=τ4 at *;have L4:LW τ4 H (ps++[(one,oth)]) (place+3):=⟨h4,h417,h418,sp4⟩
  have lp:=Li h418 (by refine ZN ZG ?_;refine ZN ZM ?_;exact Zw (Zb hpl (Za rfl)))
  have st:=OA (U:=τ4) (k:=(ps++[(one,oth)]).length) (by refine ZN ZG ?_;refine ZN ZM ?_;exact Zb (Nat.add_le_add hpl (Zg _)) (Za rfl));refine eX3 (Nx (x:=.tup [.str "told",.str (toString (ps++[(one,oth)]).length)]) h4 g.g (Zc hpl (Za rfl)) o1 b1 (m+1)) λv τ5 H' zz=>aN5 zz λt1 t2 t3 t4 t5=>?_
  refine⟨.cont,J1,τ5,H',ps++[(one,oth)],?_,.inr rfl,E1,⟨t2.lw L4 t3 t5,t4⟩,by refine ZN ZG ?_;exact Zg _,by refine ZN t5 ?_;exact Zg _⟩;refine AJ s1 (Mg (CT c0 (AJ (BN (B0 (S_v E1.e4) L3.h18 (AF (BR (AF (S_v rfl) (AF (S_v rfl) AI))) AI) ap)) (AJ (BN (AW (k:="Heap") (n:="merge") (S_v E1.e2) h4.h1 (AF (S_v rfl) (AF (S_v rfl) (AF (BR (AF S_c (AF (Bg (AF (Bg (AF (S_v E1.e4) AI) lp) AI) st) AI))) AI))) t1)) (Mg Ot)))))
 ·replace hw:=not_or.mp hw
  have c0:Ev (XX (m+5)) dOr J1 τ3 (.bool false) τ3:=by
   rw[decide_eq_false hw.1]at c1;rw[decide_eq_false hw.2]at c2;exact G7 c1 c2
  let J2:ME':=("last",iv (H.rs.length - 1))::J1
  have s2:Xs (XX (m+5)) (.assign (.v "last") (.bin .sub (.bi .len [.v "rows"]) (.c (.int 1)))) J1 τ3 .next J2 τ3 :=
   AS (Bb (y:=iv 1) (Bg (AF (S_v E1.e3) AI) (DR L3.h17 n8)) S_c (FE hN)) P_v
  have hR:∃ r:Row,[(("f",[one]):Row),("g",[one,oth]),("g",[H.rs.length - 1,H.rs.length - 1])][way]? = some r:=⟨_,ZI (by show way<3;lia)⟩
  obtain⟨r,hr⟩:=hR;have hrm:IO r.1/\r.2.length<=2/\∀ k∈r.2,k<H.rs.length:=by
   have:=Zy hr;rcases Zz this with rfl | this
   ·exact⟨PJ,Nat.le_succ 1,λk hk=>by refine ZN (Zx hk) ?_;exact o1⟩
   rcases Zz this with rfl | this
   ·refine⟨NH,Zg 2,λk hk=>?_⟩
    rcases Zz hk with rfl | hk
    ·exact o1
    ·refine ZN (Zx hk) ?_;exact b1
   ·refine ZN (Zx this) ?_
    refine⟨NH,Zg 2,λk hk=>?_⟩;rcases Zz hk with rfl | hk
    ·exact Nat.sub_lt hN (Za rfl)
    ·refine ZN (Zx hk) ?_;exact Nat.sub_lt hN (Za rfl)
  refine aN3 (hrm) λhop h2 hk=>?_
  let J3:ME':=("row",rmv r)::J2
  have s3:Xs (XX (m+5)) (.assign (.v "row") (.idx (.flst [.tup [.c (.str "f"),.v "one"],.tup [.c (.str "g"),.v "one",.v "other"],.tup [.c (.str "g"),.v "last",.v "last"]]) (.v "way"))) J2 τ3 .next J3 τ3:=by
   have hm:([(("f",[one]):Row),("g",[one,oth]),("g",[H.rs.length - 1,H.rs.length - 1])].map rmv)[way]? = some (rmv r):=by refine ZO (ZH) ?_;refine ZN hr ?_;rfl
   exact AS (An (DZ (AF (BR (AF S_c (AF (S_v rfl) AI))) (AF (BR (AF S_c (AF (S_v rfl) (AF (S_v rfl) AI)))) (AF (BR (AF S_c (AF (S_v rfl) (AF (S_v rfl) AI)))) AI)))) (S_v rfl) (C4 hm (Ze w1 (Za rfl)))) P_v
  have E3:NR J3:=⟨E.e1,E.e2,E.e3,E.e4⟩
  have s4:∀ {i:Nat} {τ4:MH},run (m+5) "Heap" "add" [.obj "Heap" 1,.str r.1,.tup (nl r.2)] τ3 (iv i) τ4->Xs (XX (m+5)) (.assign (.v "n") (.meth (.v "heap") "add" [.idx (.v "row") (.c (.int 0)),.from1 (.v "row")])) J3 τ3 .next (("n",iv i)::J3) τ4:=λt =>
   AS (AW (k:="Heap") (n:="add") (S_v E3.e2) L3.h.h1 (AF (An (x:=rmv r) (y:=iv 0) (S_v rfl) S_c (EC (k:=0) (l:=.str r.1::nl r.2) rfl (by decide))) (AF (CL (l:=.str r.1::nl r.2) (S_v rfl) (by refine ZN List.length_cons ?_;rw[AP];simp only[big];exact⟨(Zs _ _),(Zw (Zb h2 (Za rfl)))⟩)) AI)) t) P_v
  by_cases hin:r∈H.rs
  ·obtain⟨i,hi⟩:=List.mem_iff_getElem?.mp hin
   have hil:=Al hi
   have t:=s4 (Lh L3.h g.g hi m)
   have c5:=Ap (X:=XX (m+5)) (J:=("n",iv i)::J3) (U:=τ3) (S_v (n:="n") rfl) (Bg (AF (S_v (n:="rows") E3.e3) AI) (DR L3.h17 n8)) (Br i H.rs.length);rw[decide_eq_false (Zk hil)]at c5;exact⟨.next,("n",iv i)::J3,τ3,H,ps,AJ s1 (AJ (B5 c0 AY) (AJ s2 (AJ s3 (AJ t (AJ (B5 c5 AY) (AJ (B5 (Ap (X:=XX (m+5)) (J:=("n",iv i)::J3) (U:=τ3) (An (S_v (n:="rows") E3.e3) (S_v (n:="n") rfl) (Bd L3.h17 (Gb hi) (Ze (Zd hil n8) (Za rfl)))) (S_v (n:="row") rfl) (Km r)) AY) AY)))))),.inl rfl,⟨E.e1,E.e2,E.e3,E.e4⟩,⟨L3,g.g⟩,Zj (Zg _),Zg _⟩
  ·refine eX2 (H9 L3.h g.g (Zc hpl (Za rfl)) (Zn hw.2) hin hop h2 hk m) λτ4 H' zz=>aN5 zz λt1 t2 t3 t4 t5=>?_
   have q17:τ4[17]? = some (.list (H.rs.map rmv)):=t2.at' _ _ (.inr (.inl rfl)) L3.h17
   have c5:=Ap (X:=XX (m+5)) (J:=("n",iv H.rs.length)::J3) (U:=τ4) (S_v (n:="n") rfl) (Bg (AF (S_v (n:="rows") E3.e3) AI) (DR q17 n8)) (Br H.rs.length H.rs.length);rw[decide_eq_true rfl]at c5;have ap:=Av (U:=τ4) (i:=17) (x:=rmv r) q17 (by rw[ZF];simp only[big];exact Zb n8 (Za rfl))
   have he:H.rs.map rmv++[rmv r]=H'.rs.map rmv:=by refine ZN t5 ?_;refine ZN List.map_append ?_;rfl
   rw[he]at ap;have h5:=t3.set17 (i:=17) (.inl rfl) (.list (H'.rs.map rmv))
   have h517:(τ4.set 17 (.list (H'.rs.map rmv)))[17]? = some (.list (H'.rs.map rmv)):=Be q17
   have h518:(τ4.set 17 (.list (H'.rs.map rmv)))[18]? = some (.list (ps.map pmv)):=AU (by decide) (t2.at' _ _ (.inr (.inr rfl)) L3.h18)
   have sp5:JW (τ4.set 17 (.list (H'.rs.map rmv))) (place+1+1+1):=let ⟨c,a,b⟩:=L3.sp;⟨c,a,AU (by decide) (t2.at' _ _ (.inl rfl) b)⟩;generalize τ4.set 17 (.list (H'.rs.map rmv))=τ5 at *;have hi:H'.rs[H.rs.length]? = some r:=by refine ZN t5 ?_;refine ZO (List.getElem?_append_right (Zg _)) ?_;rw[Nat.sub_self];rfl
   exact⟨.next,("n",iv H.rs.length)::J3,τ5,H',ps,AJ s1 (AJ (B5 c0 AY) (AJ s2 (AJ s3 (AJ (s4 t1) (AJ (CT c5 (AJ (BN (B0 (S_v E3.e3) q17 (AF (S_v rfl) AI) ap)) AY)) (AJ (B5 (Ap (X:=XX (m+5)) (J:=("n",iv H.rs.length)::J3) (U:=τ5) (An (S_v (n:="rows") E3.e3) (S_v (n:="n") rfl) (Bd h517 (Gb hi) (Zb n8 (Za rfl)))) (S_v (n:="row") rfl) (Km r)) AY) AY)))))),.inl rfl,⟨E.e1,E.e2,E.e3,E.e4⟩,⟨⟨h5,h517,h518,sp5⟩,t4⟩,Zj (Zg _),by refine ZN t5 ?_;refine ZN ZG ?_;exact Zt _ _⟩
theorem Ha {U:MH}{k:Nat}(h:k<=1000):iter2 U .range (iv k)=some (nl (List.range k)):=by
 have hc:(0:Int)<=(k:Int)/\(k:Int)<=1000:=⟨Int.natCast_nonneg _,Int.ofNat_le.mpr h⟩
 simp only[iter2];refine ZN (if_pos hc) ?_;rfl
theorem OB {U:MH}{H:HV}{ps:List (Nat×Nat)}{place:Nat}(g:GW U H ps place)(hN:0<H.rs.length)(hp:place+20<2 ^ 20)(hpl:ps.length<=60)(m:Nat) :
  ∃ τ H' ps' place',run (m+6) "" "_law_deeds" [.ref 0,.obj "Heap" 1,.ref 17,.ref 18] U (.bool true) τ/\GW τ H' ps' place'/\H'.wt=[]/\place'<=place+16/\ps'.length<=ps.length+5/\0<H'.rs.length:=by
 refine eX2 (g.l.reel (many:=5) (Ze (Nat.lt_add_of_pos_right (Za rfl)) hp) (by decide) (m+4)) λv U1 zz=>aN4 zz λv1 v2 L1 _=>?_
 let J:ME':=[("pairs",.ref 18),("rows",.ref 17),("heap",.obj "Heap" 1),("spool",.ref 0)]
 have e0:Ev (XX (m+5)) (.bin .add (.c (.int 1)) (.call (.g "" "_law_reel") [.v "spool",.c (.int 5)])) J U (iv (1+v)) U1 :=
  Bb (x:=iv 1) S_c (Bc (k:="") (n:="_law_reel") S_g (AF (S_v rfl) (AF S_c AI)) v2) (Cy 1 v)
 refine eX2 (Eu (X:=XX (m+5)) (J:=J) (U:=U) (t:=.v "lap") (k:=.range) (b:=NS) (l:=nl (List.range (1+v)))
  (λi J τ=>∃ H' ps' place',GW τ H' ps' place'/\NR J/\place'<=place+1+3 * i/\ps'.length<=ps.length+i/\0<H'.rs.length) e0 (λi J U _ _=>Ha (Zc (Nat.add_le_add (Zg _) (Zl v1)) (Za rfl))) (by
  intro i y J τ hy y5;refine eX3 (y5) λH' ps' p' zz=>aN5 zz λg' E' r1 r2 r3=>?_
  have hi:=(List.getElem?_eq_some_iff.mp hy).1;rw[AP,List.length_range]at hi;refine eX5 (PS g' r3 (by lia) (by lia) (J:=("lap",y)::J) ⟨E'.e1,E'.e2,E'.e3,E'.e4⟩ m) λfl J2 τ2 H2 ps2 zz=>aN6 zz λz1 z2 z3 z4 z5 z6=>?_
  exact⟨_,fl,J2,τ2,rfl,z1,z2,H2,ps2,p'+3,z4,z3,by lia,le_of_le_of_eq (Zc z5 (Nat.add_le_add_right r2 _)) (Nat.add_assoc _ _ _),Zd r3 z6⟩) ⟨H,ps,place+1,⟨L1,g.g⟩,⟨rfl,rfl,rfl,rfl⟩,Zo _,Zg _,hN⟩ (by rw[AP];refine ZN List.length_range ?_;show _<10000;exact Zb (Nat.add_le_add (Zg _) (Zl v1)) (Za rfl))) λJ' U2 zz=>aN2 zz λk1 zz=>eX3 zz λH2 ps2 p2 zz=>aN5 zz λg2 E2 q1 q2 q3=>?_
 rw[AP,List.length_range]at q1 q2;refine eX2 (NN g2.l.h g2.g (Zc (Zc q2 (Nat.add_le_add hpl (Nat.add_le_add (Zg _) (Zr v1)))) (Za rfl)) m) λτ H3 zz=>aN6 zz λt1 t2 t3 t4 t5 t6=>?_
 refine⟨τ,H3,ps2,p2,BC (J1:=J') rfl (show tx "" "_law_deeds"=some ir_law_deeds from rfl) rfl ?_,⟨t2.lw g2.l t3 t5,t4⟩,t6,by lia,by lia,by refine ZN t5 ?_;exact q3⟩;refine ZN J7 ?_;exact AJ k1 (AJ (BN (AW (k:="Heap") (n:="settle") (S_v E2.e2) g2.l.h.h1 AI t1)) (Ar (BB S_c)))
theorem J8 {l:List (String×MV)}{k:String}{v:MV}(h:l.lookup k=none):put l k v=l++[(k,v)]:=Kc h
theorem D7 {X:CK}{J:ME'}{U:MH}{k n:String}{i:Nat}{l:List (String×MV)}{e:ME}{o:MO}(h0:J.lookup "self"=some (.obj k i))(he:Ev X e J U (.ref U.length) (U++[o]))(h1:U[i]? = some (.attrs l))(h2:l.length<100)(h3:n∈attrNames)(h4:l.lookup n=none){τ:MH}(ht:(U++[o]).set i (.attrs (l++[(n,.ref U.length)]))=τ) :
  Xs X (.assign (.attr (.v "self") n) e) J U .next J τ:=by
 have:=Me (X:=X) (v:=.ref U.length) (S_v h0) (B4 h1 [o]) h2 h3;rw[J8 h4,ht]at this;exact AS he this
theorem Kn {X:CK}{J:ME'}{U U1:MH}{k n:String}{i:Nat}{l:List (String×MV)}{e:ME}{v:MV}(h0:J.lookup "self"=some (.obj k i))(he:Ev X e J U v U1)(h1:U1[i]? = some (.attrs l))(h2:l.length<100)(h3:n∈attrNames)(h4:l.lookup n=none){τ:MH}(ht:U1.set i (.attrs (l++[(n,v)]))=τ) :
  Xs X (.assign (.attr (.v "self") n) e) J U .next J τ:=by
 have:=Me (X:=X) (v:=v) (S_v h0) h1 h2 h3;rw[J8 h4,ht]at this;exact AS he this
theorem PT (x:MO)(n:Nat):run (n+1) "class" "Bank" [] [x,.attrs []] (.obj "Bank" 2) [x,.attrs [],.attrs DP,.list [],.ed,.list [],.list []]:=by
 refine Fo (show tx "Bank" "__init__"=some ir_Bank_init from rfl) rfl (J1:=[("self",.obj "Bank" 2)]) ?_;refine AJ (D7 (k:="Bank") (i:=2) (l:=[]) (τ:=[x,.attrs [],.attrs [("nodes",.ref 3)],.list []]) rfl (C8 AI) rfl (by decide) (by decide) rfl rfl) ?_;refine AJ (D7 (k:="Bank") (i:=2) (l:=[("nodes",.ref 3)]) (τ:=[x,.attrs [],.attrs [("nodes",.ref 3),("numbers",.ref 4)],.list [],.ed]) rfl EZ rfl (by decide) (by decide) rfl rfl) ?_;refine AJ (D7 (k:="Bank") (i:=2) (l:=[("nodes",.ref 3),("numbers",.ref 4)]) (τ:=[x,.attrs [],.attrs [("nodes",.ref 3),("numbers",.ref 4),("weights",.ref 5)],.list [],.ed,.list []]) rfl (C8 AI) rfl (by decide) (by decide) rfl rfl) ?_;exact AJ (D7 (k:="Bank") (i:=2) (l:=[("nodes",.ref 3),("numbers",.ref 4),("weights",.ref 5)]) rfl (C8 AI) rfl (by decide) (by decide) rfl rfl) AY
noncomputable def hA1:List (String×MV):=[("bank",.obj "Bank" 2)]
noncomputable def hA2:List (String×MV):=[("bank",.obj "Bank" 2),("unions",.obj "Unions" 7)]
theorem NT (x:MO)(n:Nat):run (n+1) "class" "Unions" [] [x,.attrs hA1,.attrs DP,.list [],.ed,.list [],.list []] (.obj "Unions" 7) [x,.attrs hA1,.attrs DP,.list [],.ed,.list [],.list [],.attrs Ov,.list [],.list [],.list []]:=by
 refine Fo (show tx "Unions" "__init__"=some ir_Unions_init from rfl) rfl (J1:=[("self",.obj "Unions" 7)]) ?_;refine AJ (D7 (k:="Unions") (i:=7) (l:=[]) (τ:=[x,.attrs hA1,.attrs DP,.list [],.ed,.list [],.list [],.attrs [("above",.ref 8)],.list []]) rfl (C8 AI) rfl (by decide) (by decide) rfl rfl) ?_;refine AJ (D7 (k:="Unions") (i:=7) (l:=[("above",.ref 8)]) (τ:=[x,.attrs hA1,.attrs DP,.list [],.ed,.list [],.list [],.attrs [("above",.ref 8),("lots",.ref 9)],.list [],.list []]) rfl (C8 AI) rfl (by decide) (by decide) rfl rfl) ?_;exact AJ (D7 (k:="Unions") (i:=7) (l:=[("above",.ref 8),("lots",.ref 9)]) rfl (C8 AI) rfl (by decide) (by decide) rfl rfl) AY
noncomputable def hA3:List (String×MV):=hA2++[("edges",.ref 11)]
noncomputable def hA4:List (String×MV):=hA2++[("edges",.ref 11),("forest",.ref 12)]
noncomputable def hA5:List (String×MV):=hA2++[("edges",.ref 11),("forest",.ref 12),("known",.ref 13)]
noncomputable def hA6:List (String×MV):=hA2++[("edges",.ref 11),("forest",.ref 12),("known",.ref 13),("above",.ref 14)]
noncomputable def hA7:List (String×MV):=hA2++[("edges",.ref 11),("forest",.ref 12),("known",.ref 13),("above",.ref 14),("waiting",.ref 15)]
noncomputable def hpS (x:MO) (l:List (String×MV)) (e:MH):MH:=[x,.attrs l,.attrs DP,.list [],.ed,.list [],.list [],.attrs Ov,.list [],.list [],.list []]++e
theorem PU (x:MO)(n:Nat):run (n+2) "class" "Heap" [] [x] (.obj "Heap" 1) (hpS x Ez [.list [],.list [],.ed,.ed,.list []]):=by
 refine Fo (show tx "Heap" "__init__"=some ir_Heap_init from rfl) rfl (J1:=[("self",.obj "Heap" 1)]) ?_;refine AJ (Kn (k:="Heap") (i:=1) (l:=[]) (τ:=[x,.attrs hA1,.attrs DP,.list [],.ed,.list [],.list []]) rfl (Bc (k:="class") (n:="Bank") S_g AI (PT x n)) rfl (by decide) (by decide) rfl rfl) ?_;refine AJ (Kn (k:="Heap") (i:=1) (l:=hA1) (τ:=hpS x hA2 []) rfl (Bc (k:="class") (n:="Unions") S_g AI (NT x n)) rfl (by decide) (by decide) rfl rfl) ?_;refine AJ (D7 (k:="Heap") (i:=1) (l:=hA2) (τ:=hpS x hA3 [.list []]) rfl (C8 AI) rfl (by decide) (by decide) rfl rfl) ?_;refine AJ (D7 (k:="Heap") (i:=1) (l:=hA3) (τ:=hpS x hA4 [.list [],.list []]) rfl (C8 AI) rfl (by decide) (by decide) rfl rfl) ?_;refine AJ (D7 (k:="Heap") (i:=1) (l:=hA4) (τ:=hpS x hA5 [.list [],.list [],.ed]) rfl EZ rfl (by decide) (by decide) rfl rfl) ?_;refine AJ (D7 (k:="Heap") (i:=1) (l:=hA5) (τ:=hpS x hA6 [.list [],.list [],.ed,.ed]) rfl EZ rfl (by decide) (by decide) rfl rfl) ?_;refine AJ (D7 (k:="Heap") (i:=1) (l:=hA6) (τ:=hpS x hA7 [.list [],.list [],.ed,.ed,.list []]) rfl (C8 AI) rfl (by decide) (by decide) rfl rfl) ?_;exact AJ (Kn (k:="Heap") (i:=1) (l:=hA7) (v:=.int 0) (U1:=hpS x hA7 [.list [],.list [],.ed,.ed,.list []]) rfl S_c rfl (by decide) (by decide) rfl rfl) AY
theorem Lj (x:MO)(n:Nat):run (n+1) "class" "Grammar" [.obj "Heap" 1] (hpS x Ez [.list [],.list [],.ed,.ed,.list []]) (.obj "Grammar" 16) (hpS x Ez [.list [],.list [],.ed,.ed,.list [],.attrs [("heap",.obj "Heap" 1)]]):=by
 refine Fo (show tx "Grammar" "__init__"=some ir_Grammar_init from rfl) rfl (J1:=[("heap",.obj "Heap" 1),("self",.obj "Grammar" 16)]) ?_;exact AJ (Kn (k:="Grammar") (i:=16) (l:=[]) (v:=.obj "Heap" 1) (U1:=hpS x Ez [.list [],.list [],.ed,.ed,.list [],.attrs []]) rfl (S_v rfl) rfl (by decide) (by decide) rfl rfl) AY
noncomputable def H0:HV:=⟨[],[],[],[],[],[],[],[],[],[],[]⟩
noncomputable def hp0 (x:MO):MH:=hpS x Ez [.list [],.list [],.ed,.ed,.list [],.attrs [("heap",.obj "Heap" 1)],.list [rmv ("a",[]),rmv ("b",[])],.list []]
theorem NU (x:MO):HeapIs (hp0 x) H0 :=
 ⟨Zg 19,rfl,rfl,rfl,⟨.ed,rfl,.inr ⟨rfl,rfl⟩⟩,rfl,rfl,rfl,rfl,rfl,rfl,rfl,rfl,⟨.ed,rfl,.inr ⟨rfl,rfl⟩⟩,⟨.ed,rfl,.inr ⟨rfl,rfl⟩⟩,rfl,rfl,(λ_ h=>nomatch h),(λ_ h=>nomatch h),List.nodup_nil,(λ_ h=>nomatch h)⟩
theorem Pt:Good H0 []:=by
 have e:∀ {α:Type} {i:Nat} {x:α},([]:List α)[i]? = some x->False:=λh=>by simp at h
 refine⟨⟨⟨by decide,rfl,(λa h=>(Nat.not_lt_zero a h).elim),(λi r h=>(e h).elim),rfl,(λc p h=>(e h).elim)⟩,rfl,rfl,(λi=>?_),List.nodup_nil,List.nodup_nil,(λc=>⟨(λ⟨p,h⟩=>nomatch h),(λh=>(Nat.not_lt_zero c h.1).elim)⟩),(λn r h=>(e h).elim),(λ_ h=>nomatch h),Zg 0,(λ_ h=>nomatch h),(λ_ h=>nomatch h),Zg 0,(λg _ x hx=>(Nat.not_lt_zero x hx).elim),(λ_ h=>nomatch h),Zg 0,Zg 0,Zg 0⟩,(λn r h=>(e h).elim)⟩;exact Nat.pow_pos (by decide)
structure Lk (J:ME'):Prop where
 e1:J.lookup "spool"=some (.ref 0)
 e2:J.lookup "heap"=some (.obj "Heap" 1)
 e3:J.lookup "rows"=some (.ref 17)
 e4:J.lookup "pairs"=some (.ref 18)
 e5:J.lookup "grammar"=some (.obj "Grammar" 16)
noncomputable def OC:List MS:=[.expr (.meth (.v "heap") "put" [.v "row"])]
noncomputable def PV:List MS:=[.ite (.or (.not (.call (.g "" "_law_deeds") [.v "spool",.v "heap",.v "rows",.v "pairs"])) (.not (.call (.g "" "_law_told_right") [.v "spool",.v "grammar",.v "rows",.v "pairs"]))) [.ret (.c (.bool false))] []]
theorem Ll:ir_law=⟨["script"],[
 .unpack [.v "spool",.v "heap"] (.tup [.lst [.comp (.bin .mod (.bi .int [.v "cell"]) (.c (.int 1000003))) (.v "cell") .it (.upto (.v "script") 48) [],.c (.int 0)],.call (.g "class" "Heap") []]),
 .unpack [.v "grammar",.v "rows",.v "pairs"] (.tup [.call (.g "class" "Grammar") [.v "heap"],.lst [.tup [.c (.str "a")],.tup [.c (.str "b")]],.lst []]),
 .for (.v "row") .it (.v "rows") OC,
 .for (.v "lap") .range (.c (.int 2)) PV,
 .ret (.c (.bool true))]⟩:=rfl
theorem PW (x:MO){J:ME'}(E:Lk J):∃ J' τ H,Xs (XX 59) (.for (.v "row") .it (.v "rows") OC) J (hp0 x) .next J' τ/\Lk J'/\Fr (hp0 x) τ/\HeapIs τ H/\Good H []/\H.rs=[("a",[]),("b",[])]:=by
 refine eX2 (Eu (X:=XX 59) (J:=J) (U:=hp0 x) (t:=.v "row") (k:=.it) (iter:=.v "rows") (b:=OC) (l:=[rmv ("a",[]),rmv ("b",[])])
  (λi J τ=>∃ H,Lk J/\Fr (hp0 x) τ/\HeapIs τ H/\Good H []/\H.rs=[(("a",[]):Row),("b",[])].take i) (S_v E.e3) (λi J τ _ ⟨H,_,f,_⟩=>by
   have:τ[17]? = some (.list [rmv ("a",[]),rmv ("b",[])]):=f.at' _ _ (.inr (.inl rfl)) rfl
   show items τ (.ref 17)=_;simp only[items,this]) (by
  intro i y J τ hy y5;refine eX1 (y5) λH zz=>aN5 zz λE' f h G er=>?_
  have key:∀ s:String,IO s->y=rmv (s,[])->((s,[]):Row)∉H.rs->H.rs.length<=7->H.rs++[(s,[])]=[(("a",[]):Row),("b",[])].take (i+1)->∃ Jb fl J' τ',CY (.v "row") y J=some Jb/\Xl (XX 59) OC Jb τ fl J' τ'/\(fl=.next\/fl=.cont)/\∃ H,Lk J'/\Fr (hp0 x) τ'/\HeapIs τ' H/\Good H []/\H.rs=[(("a",[]):Row),("b",[])].take (i+1):=by
   rintro s hs rfl hno h7 e
   refine eX2 (H9 h G (Zm _) h7 hno hs (Zm _) (λk hk=>nomatch hk) 53) λτ' H' zz=>aN5 zz λt1 t2 t3 t4 t5=>?_
   exact⟨_,.next,("row",rmv (s,[]))::J,τ',rfl,AJ (BN (AW (k:="Heap") (n:="put") (S_v (J:=("row",rmv (s,[]))::J) E'.e2) h.h1 (AF (S_v rfl) AI) (PQ (m:=53) h t1))) AY,.inl rfl,H',⟨E'.e1,E'.e2,E'.e3,E'.e4,E'.e5⟩,f.trans t2,t3,t4,t5.trans e⟩
  have hi:=(List.getElem?_eq_some_iff.mp hy).1
  have hi:i<2:=hi;rcases (by lia:i=0\/i=1)with rfl | rfl
  ·have er:H.rs=[]:=er
   exact key "a" PK (Option.some.inj hy).symm (by refine ZN er ?_;exact λh=>nomatch h) (by refine ZN er ?_;decide) (by refine ZN er ?_;rfl)
  ·have er:H.rs=[("a",[])]:=er
   exact key "b" PM (Option.some.inj hy).symm (by refine ZN er ?_;decide) (by refine ZN er ?_;decide) (by refine ZN er ?_;rfl)) ⟨H0,E,Fr.refl,NU x,Pt,rfl⟩ (by show 2<10000;decide)) λJ' τ zz=>aN2 zz λk1 zz=>eX1 zz λH zz=>aN5 zz λh1 h2 h3 h4 h5=>?_
 exact⟨J',τ,H,k1,h1,h2,h3,h4,h5⟩
theorem PX {U:MH}{H:HV}(g:GW U H [] 0)(hN:0<H.rs.length){J:ME'}(E:Lk J):∃ J' τ,Xs (XX 59) (.for (.v "lap") .range (.c (.int 2)) PV) J U .next J' τ:=by
 refine eX2 (Eu (X:=XX 59) (J:=J) (U:=U) (t:=.v "lap") (k:=.range) (iter:=.c (.int 2)) (b:=PV) (x:=iv 2) (l:=nl (List.range 2))
  (λi J τ=>∃ H ps place,Lk J/\GW τ H ps place/\0<H.rs.length/\place<=18 * i/\ps.length<=5 * i) S_c (λi J τ _ _=>Ha (by decide)) (by
  intro i y J τ hy y5;refine eX3 (y5) λH ps place zz=>aN5 zz λE' g hN hp hl=>?_
  have hi:=(List.getElem?_eq_some_iff.mp hy).1
  have hi:i<2:=hi;refine eX4 (OB g hN (by lia) (by lia) 53) λτ1 H1 ps1 p1 zz=>aN6 zz λd1 g1 d3 d4 d5 d6=>?_
  refine eX1 (PH g1.l g1.g.w (g1.g.set1 d3) d6 (g1.g.canon d3) (λp hp=>⟨(g1.g.prs p hp).1,(g1.g.prs p hp).2.1⟩) (by lia) (by lia) 39) λτ2 zz=>aN2 zz λt1 t2=>?_
  have c:Ev (XX 59) (.or (.not (.call (.g "" "_law_deeds") [.v "spool",.v "heap",.v "rows",.v "pairs"])) (.not (.call (.g "" "_law_told_right") [.v "spool",.v "grammar",.v "rows",.v "pairs"]))) (("lap",y)::J) τ (.bool false) τ2 :=
   G7 (Ka (r:=true) (Bc (k:="") (n:="_law_deeds") S_g (AF (S_v E'.e1) (AF (S_v E'.e2) (AF (S_v E'.e3) (AF (S_v E'.e4) AI)))) d1)) (Ka (r:=true) (Bc (k:="") (n:="_law_told_right") S_g (AF (S_v E'.e1) (AF (S_v E'.e5) (AF (S_v E'.e3) (AF (S_v E'.e4) AI)))) t1))
  exact⟨_,.next,("lap",y)::J,τ2,rfl,AJ (B5 c AY) AY,.inl rfl,H1,ps1,p1+2,⟨E'.e1,E'.e2,E'.e3,E'.e4,E'.e5⟩,⟨t2,g1.g⟩,d6,by lia,by lia⟩) ⟨H,[],0,E,g,hN,Zm _,Zm _⟩ (by show 2<10000;decide)) λJ' τ zz=>aN2 zz λk1 _=>?_
 exact (eI2 (J') (τ) (k1))
noncomputable def D2 (ns:List Int):List Nat:=(ns.take 48).map λi=>(i.fmod 1000003).toNat
noncomputable def NV:ME:=.comp (.bin .mod (.bi .int [.v "cell"]) (.c (.int 1000003))) (.v "cell") .it (.upto (.v "script") 48) []
theorem OD (X:CK)(hT:100<X.turns)(ns:List Int)(hl:ns.length<=63):Ev X NV [("script",.fl (ns.map .int))] [] (.fl (nl (D2 ns))) []:=by
 refine Ca (k:=.it) (l:=(ns.map MV.int).take 48) (Os (n:=48) (S_v rfl) (by rw[ZF];simp only[big];exact Zc hl (Za rfl))) Cx ?_ ?_ (by refine ZN List.length_take ?_;rw[ZF];exact Zb (Zc (Nat.min_le_left _ _) (Za rfl)) hT) (by refine ZN List.length_take ?_;rw[ZF];simp only[big];exact Zc (Nat.min_le_left _ _) (Za rfl))
 ·rw[AP];refine ZN List.length_take ?_;rw[ZF]
  unfold D2;rw[ZF];exact List.length_take
 ·intro i y v hy hv
  rw[<- List.map_take]at hy;replace hy:=ZO (ZH).symm hy;unfold nl D2 at hv;replace hv:=ZO (ZH).symm hv;rw[ZH]at hv;refine eX1 (ZD hy) λk zz=>aN2 zz λhk q3=>?_;subst q3
  rw[hk]at hv;cases hv;refine Bb (Bg (AF (S_v rfl) AI) (v:=.int k) ⟨k,rfl,rfl⟩) S_c ?_;exact (BinR.mod k 1000003 (by decide)).to (by rw[iv,Int.toNat_of_nonneg (Int.fmod_nonneg_of_pos _ (by decide))])
noncomputable def D3 (ns:List Int):MO:=.list [.fl (nl (D2 ns)),iv 0]
noncomputable def mρ1 (ns:List Int):ME':=[("heap",.obj "Heap" 1),("spool",.ref 0),("script",.fl (ns.map .int))]
noncomputable def mρ2 (ns:List Int):ME':=("pairs",.ref 18)::("rows",.ref 17)::("grammar",.obj "Grammar" 16)::mρ1 ns
theorem QE (ns:List Int)(hl:ns.length<=63):Ev (XX 59) (.lst [NV,.c (.int 0)]) [("script",.fl (ns.map .int))] [] (.ref 0) [D3 ns] :=
 C8 (AF (OD (XX 59) (show 100<10000 by decide) ns hl) (AF S_c AI))
theorem QF (ns:List Int)(n:Nat):Ev (XX (n+2)) (.call (.g "class" "Heap") []) [("script",.fl (ns.map .int))] [D3 ns] (.obj "Heap" 1) (hpS (D3 ns) Ez [.list [],.list [],.ed,.ed,.list []]) :=
 Bc (k:="class") (n:="Heap") S_g AI (PU (D3 ns) n)
theorem QG (ns:List Int)(hl:ns.length<=63):Xs (XX 59) (.unpack [.v "spool",.v "heap"] (.tup [.lst [NV,.c (.int 0)],.call (.g "class" "Heap") []])) [("script",.fl (ns.map .int))] [] .next (mρ1 ns) (hpS (D3 ns) Ez [.list [],.list [],.ed,.ed,.list []]):=by
 exact BY (BR (AF (QE ns hl) (AF (QF ns 57) AI))) LZ (Ao P_v (Ao P_v Cn))
theorem QH (ns:List Int)(n:Nat):Xs (XX (n+1)) (.unpack [.v "grammar",.v "rows",.v "pairs"] (.tup [.call (.g "class" "Grammar") [.v "heap"],.lst [.tup [.c (.str "a")],.tup [.c (.str "b")]],.lst []])) (mρ1 ns) (hpS (D3 ns) Ez [.list [],.list [],.ed,.ed,.list []]) .next (mρ2 ns) (hp0 (D3 ns)) :=
 BY (BR (AF (Bc (k:="class") (n:="Grammar") S_g (AF (S_v rfl) AI) (Lj (D3 ns) n)) (AF (C8 (AF (BR (AF S_c AI)) (AF (BR (AF S_c AI)) AI))) (AF (C8 AI) AI)))) rfl (Ao P_v (Ao P_v (Ao P_v Cn)))
theorem mini (ns:List Int)(hl:ns.length<=63):∃ U',run 60 "" "law" [.fl (ns.map .int)] [] (.bool true) U':=by
 refine eX3 (PW (D3 ns) (J:=mρ2 ns) ⟨rfl,rfl,rfl,rfl,rfl⟩) λJ3 τ H zz=>aN6 zz λk1 E3 f h G er=>?_
 have hcl:(D2 ns).length<=48:=by unfold D2;rw[ZF];exact List.length_take_le _ _
 refine eX2 (PX (⟨⟨h,by refine ZN er ?_;exact f.at' 17 _ (.inr (.inl rfl)) rfl,f.at' 18 _ (.inr (.inr rfl)) rfl,D2 ns,hcl,f.at' 0 _ (.inl rfl) rfl⟩,G⟩) (by refine ZN er ?_;decide) E3) λJ4 τ2 k2=>?_
 refine⟨τ2,BC (n:=59) (J1:=J4) rfl (show tx "" "law"=some ir_law from rfl) rfl ?_⟩;refine ZN Ll ?_;exact AJ (QG ns hl) (AJ (QH ns 58) (AJ k1 (AJ k2 (Ar (BB S_c)))))
end Mine.Internal
namespace Mine.Internal
open PySem PySem.W PyProof.Rows
theorem holdsIf (mini:∀ ns:List Int,ns.length<=63->∃ U',∀ K:MV->MH->Prop,K (.bool true) U'->Cg tx 10000 60 "" "law" [.fl (ns.map .int)] [] K):PySem.Challenge.rw_sa0033_01.Holds:=by
 refine holds_law P3 λsaid=>?_
 refine holds_open (q:=qv) (loose:=lo) (Xt:=OW) (XP:=XL qv []) (Yf:=Hook.obs G4) (Ya:=Hook.val G4) (YP:=Hook.says G4) (N:=7000) left (Hook.of G4) (Hook.keeps G4) (λs e=>xl_of s (Bool.and_eq_true_iff.mp e).1) XL.keeps
  (by rfl) (by rfl) (by rfl) (λs e=>recFacts_of (Bool.and_eq_true_iff.mp e).2) (by rfl) (by first | assumption | decide +kernel) (by decide +kernel) ⟨rfl,rfl,rfl,rfl,rfl,by decide +kernel⟩ ?hw ?hc
 case hw=>w_witness2
 case hc=>exact Pn mini rfl
end Mine.Internal
set_option maxHeartbeats 4000000 in
theorem PySem.Challenge.cw_sa0033_01_holds : PySem.Challenge.rw_sa0033_01.Holds := by
  exact Mine.Internal.holdsIf Mine.Internal.mini
