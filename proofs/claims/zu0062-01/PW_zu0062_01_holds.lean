import PyProof.Rows.All
import Wide.All
import OpenK.AllK
import Wide.FinOn
import Wide.BridgeG
import KE.KSuper
import PyProof.TupleIter
import PyProof.EnumMake
import PyProof.ZipIter
import KE.KDictOf
import KE.KSortTup
import KE.KStar
import PySem.Challenge.RW_zu0062_01
set_option Elab.async false
set_option tactic.hygienic false
set_option genInjectivity false
set_option genSizeOf false
set_option genCtorIdx false
section
set_option autoImplicit false
namespace Mini.Internal
open PySem
set_option genInjectivity true in
set_option genCtorIdx true in
inductive V where
 | none
 | bool (b:Bool)
 | int (i:Int)
 | str (s:Nat)
 | tup (l:List V)
 | lst (l:List V)
 | ref (n:Nat)
 deriving Inhabited
inductive O where
 | list (l:List V)
 | dI (l:List (Int×V))
 | dT (l:List (V×V))
 | inst (c:Nat) (l:List (Nat×V))
 | dead
 deriving Inhabited
noncomputable def V.int? (v:V):Option Int:=match v with | .int i=>some i | _=>Option.none
noncomputable def V.bool? (v:V):Option Bool:=match v with | .bool i=>some i | _=>Option.none
noncomputable def V.str? (v:V):Option Nat:=match v with | .str i=>some i | _=>Option.none
noncomputable def V.ref? (v:V):Option Nat:=match v with | .ref i=>some i | _=>Option.none
noncomputable def V.tup? (v:V):Option (List V):=match v with | .tup i=>some i | _=>Option.none
noncomputable def V.lst? (v:V):Option (List V):=match v with | .lst i=>some i | _=>Option.none
noncomputable def V.isNone (v:V):Bool:=match v with | .none=>true | _=>false
noncomputable def O.list? (o:O):Option (List V):=match o with | .list l=>some l | _=>Option.none
noncomputable def O.inst? (o:O):Option (Nat×List (Nat×V)):=match o with | .inst c l=>some (c,l) | _=>Option.none
noncomputable def one? (l:List V):Option V:=match l with | [v]=>some v | _=>Option.none
noncomputable def xJ (l:List V):Option (V×V):=match l with | [v,w]=>some (v,w) | _=>Option.none
noncomputable abbrev Hp:=List O
noncomputable abbrev Lo:=List (Nat×V)
noncomputable def rS:Nat→Nat→List Nat
 | 0,_=>[]
 | f + 1,n=>if n=0 then [] else (n % 256) :: rS f (n / 256)
noncomputable def nmL (n:Nat):List Nat:=rS n n
noncomputable def nm (n:Nat):Str:=⟨(nmL n).toArray⟩
set_option genCtorIdx true in
inductive Bop where
 | add | sub | mul | fdiv | mod | shl | shr | band | bor | bxor
 deriving DecidableEq,Inhabited
set_option genCtorIdx true in
inductive Cop where
 | eq | ne | lt | le | gt | ge | isin | notin | is | isnot
 deriving DecidableEq,Inhabited
set_option genCtorIdx true in
inductive DK where
 | i | t
 deriving DecidableEq,Inhabited
set_option genCtorIdx true in
inductive Bi where
 | len | sum | min | max | int | list | tuple | isTuple
 deriving DecidableEq,Inhabited
set_option genCtorIdx true in
mutual
inductive E where
 | none
 | bool (b:Bool)
 | num (i:Int)
 | str (s:Nat)
 | var (i:Nat)
 | cst (i:Nat)
 | and (l:List E)
 | or (l:List E)
 | not (a:E)
 | bin (op:Bop) (a b:E)
 | neg (a:E)
 | ite (c a b:E)
 | dict (k:DK)
 | list (m:Bool) (l:List E)
 | tup (l:List E)
 | comp (elt:E) (gens:List G)
 | cmp (a:E) (ops:List Cop) (l:List E)
 | call (f:Nat) (args:List E)
 | new (c:Nat) (args:List E)
 | meth (o:E) (m:Nat) (args:List E)
 | bi (b:Bi) (args:List E)
 | range (l:List E)
 | zip (l:List E)
 | zips (e:E)
 | enum (e:E)
 | sortz (a b:E)
 | dictOf (elt:E) (gens:List G)
 | attr (o:E) (a:Nat)
 | sub (o i:E)
 | slice (o:E) (lo hi:Option E)
 | fmt (pre:Nat) (e:E) (post:Nat)
 | sup (c:Nat) (m:Nat)
 | freeze (e:E)
inductive T where
 | var (i:Nat)
 | attr (o:E) (a:Nat)
 | sub (o i:E)
 | tup (l:List Nat)
inductive G where
 | mk (t:T) (it:E) (ifs:List E)
end
inductive S where
 | expr (e:E)
 | ret (e:E)
 | asg (t:T) (e:E)
 | ifs (c:E) (a b:List S)
 | whl (c:E) (b:List S)
 | fr (t:T) (e:E) (b:List S)
 | cont
 | rais
noncomputable instance:Inhabited E:=⟨.none⟩
noncomputable instance:Inhabited T:=⟨.var 0⟩
noncomputable instance:Inhabited G:=⟨.mk (.var 0) .none []⟩
noncomputable instance:Inhabited S:=⟨.cont⟩
structure FDef where
 params:List Nat
 body:List S
 deriving Inhabited
structure Prog where
 funs:List (Nat×FDef)
 classes:List (Nat×List (Nat×FDef))
 consts:List (Nat×V)
 attrs:List Nat
set_option genCtorIdx true in
inductive Fl where
 | nxt | cont | ret (v:V)
noncomputable def V.num? (v:V):Option Int:=match v with
 | .int i=>some i
 | .bool b=>some (if b then 1 else 0)
 | _=>Option.none
mutual
noncomputable def V.beq:V→V→Bool
 | .none,b=>b.isNone
 | .bool x,b=>b.num?.any ((if x then 1 else 0)==·)
 | .int x,b=>b.num?.any (x==·)
 | .str x,b=>b.str?.any (x==·)
 | .tup l,b=>(match b.tup? with | some m=>V.beqs l m | Option.none=>false)
 | .lst l,b=>(match b.lst? with | some m=>V.beqs l m | Option.none=>false)
 | .ref _,_=>false
noncomputable def V.beqs:List V→List V→Bool
 | [],[]=>true
 | a :: as,b :: bs=>V.beq a b&&V.beqs as bs
 | _,_=>false
end
mutual
noncomputable def V.dep:V→Option Nat
 | .none | .bool _ | .int _ | .str _=>some 0
 | .tup l | .lst l=>(V.deps l).map (· + 1)
 | .ref _=>Option.none
noncomputable def V.deps:List V→Option Nat
 | []=>some 0
 | a :: as=>(V.dep a).bind fun m=>(V.deps as).map (max m)
end
noncomputable def V.flat (v:V):Bool:=v.dep.any (Nat.ble · 60)
noncomputable def V.flats (l:List V):Bool:=l.all V.flat
mutual
noncomputable def V.key:Nat→V→Bool
 | _,.int _=>true
 | _,.str _=>true
 | n,.tup l=>(match n with | 0=>false | n + 1=>V.keys n l)
 | _,.none=>false
 | _,.bool _=>false
 | _,.lst _=>false
 | _,.ref _=>false
noncomputable def V.keys:Nat→List V→Bool
 | _,[]=>true
 | n,a :: as=>V.key n a&&V.keys n as
end
noncomputable def V.isKey:V→Bool
 | .tup l=>V.keys 3 l
 | _=>false
mutual
noncomputable def V.same:V→V→Bool
 | .none,b=>b.isNone
 | .bool x,b=>b.bool?.any (x==·)
 | .int x,b=>b.int?.any (x==·)
 | .str x,b=>b.str?.any (x==·)
 | .tup l,b=>(match b.tup? with | some m=>V.sames l m | Option.none=>false)
 | .lst l,b=>(match b.lst? with | some m=>V.sames l m | Option.none=>false)
 | .ref x,b=>b.ref?.any (x==·)
noncomputable def V.sames:List V→List V→Bool
 | [],[]=>true
 | a :: as,b :: bs=>V.same a b&&V.sames as bs
 | _,_=>false
end
noncomputable def lk {α:Type}:List (Nat×α)→Nat→Option α
 | [],_=>Option.none
 | (j,v) :: r,i=>bif Nat.beq i j then some v else lk r i
noncomputable def ak:Lo→Nat→V→Lo
 | [],i,v=>[(i,v)]
 | (j,w) :: r,i,v=>bif Nat.beq i j then (j,v) :: r else (j,w) :: ak r i v
noncomputable def getI:List (Int×V)→Int→Option V
 | [],_=>Option.none
 | (j,v) :: r,i=>bif i==j then some v else getI r i
noncomputable def setI:List (Int×V)→Int→V→List (Int×V)
 | [],i,v=>[(i,v)]
 | (j,w) :: r,i,v=>bif i==j then (j,v) :: r else (j,w) :: setI r i v
noncomputable def getT:List (V×V)→V→Option V
 | [],_=>Option.none
 | (j,v) :: r,i=>bif V.same j i then some v else getT r i
noncomputable def setT:List (V×V)→V→V→List (V×V)
 | [],i,v=>[(i,v)]
 | (j,w) :: r,i,v=>bif V.same j i then (j,v) :: r else (j,w) :: setT r i v
noncomputable def cap:Nat:=100000
noncomputable def ax (n:Nat):Bool:=Nat.ble n cap
noncomputable def aM (i:Int):Bool:=Nat.ble i.natAbs (2 ^ 61)
noncomputable def idx (i:Int) (n:Nat):Option Nat :=
 bif aM i then (if 0≤i then (if i.toNat < n then some i.toNat else Option.none)
 else if i + n < 0 then Option.none else some (i + n).toNat) else Option.none
noncomputable def nth (H:Hp) (i:Nat):Option O:=H[i]?
noncomputable def binI (op:Bop) (a b:Int):Option Int :=
 match op with
 | .add=>some (a + b)
 | .sub=>some (a - b)
 | .mul=>bif aM a then some (a * b) else Option.none
 | .fdiv=>if b=0 then Option.none else bif aM b then some (Int.fdiv a b) else Option.none
 | .mod=>if b=0 then Option.none else some (Int.fmod a b)
 | .shl=>if 0≤b∧b≤1000 then bif aM a then some (a * 2 ^ b.toNat) else Option.none else Option.none
 | .shr=>if 0≤b then some (Int.fdiv a (2 ^ b.toNat)) else Option.none
 | .band=>some (Builtin.bitAnd a b)
 | .bor=>some (Builtin.bitOr a b)
 | .bxor=>some (Builtin.bitXor a b)
noncomputable def dg (a b:Nat):Nat:=a + b * 256 ^ (nmL a).length
noncomputable def fV (op:Bop) (a b:V):Option V :=
 match a with
 | .int a=>b.int?.bind fun b=>(binI op a b).map V.int
 | .lst a=>b.int?.bind fun n=>if op=.mul∧0≤n∧ax (a.length * n.toNat)∧n < 100000 then some (.lst ((List.replicate n.toNat a).flatten)) else Option.none
 | _=>Option.none
noncomputable def d9 (x:V) (o:O):Option Bool:=match o with
 | .dI l=>x.int?.map fun i=>(getI l i).isSome
 | .dT l=>bif x.isKey then some (getT l x).isSome else Option.none
 | _=>Option.none
noncomputable def sT (H:Hp) (x:V) (d:Nat):Option Bool:=(nth H d).bind (d9 x)
noncomputable def ints2 (a b:V) (f:Int→Int→Bool):Option Bool:=a.int?.bind fun i=>b.int?.map fun j=>f i j
noncomputable def items (v:V):Option (List V):=match v with
 | .tup l=>some l
 | .lst l=>some l
 | _=>Option.none
noncomputable def wg (H:Hp) (a b:V):Option Bool:=match b with
 | .ref d=>sT H a d
 | b=>(items b).bind fun l=>bif a.flat&&V.flats l then some (l.any fun y=>V.beq y a) else Option.none
noncomputable def O.dT? (o:O):Option (List (V×V)):=match o with | .dT l=>some l | _=>Option.none
noncomputable def dm (m:List (V×V)) (l:List (V×V)):Bool:=l.all fun p=>(getT m p.1).any (V.beq p.2)
noncomputable def eqD (l m:List (V×V)):Option Bool:=bif V.flats (l.map (·.2))&&V.flats (m.map (·.2)) then some (l.length==m.length&&dm m l) else Option.none
noncomputable def eqV (H:Hp) (a b:V):Option Bool:=match a.ref? with
 | some i=>b.ref?.bind fun j=>(nth H i).bind fun o=>o.dT?.bind fun l=>(nth H j).bind fun q=>q.dT?.bind fun m=>eqD l m
 | Option.none=>bif a.flat&&b.flat then some (V.beq a b) else Option.none
noncomputable def cop (o:Cop) (H:Hp) (a b:V):Option Bool:=match o with
 | .eq=>eqV H a b
 | .ne=>(eqV H a b).map (!·)
 | .lt=>ints2 a b fun i j=>decide (i < j)
 | .le=>ints2 a b fun i j=>decide (i≤j)
 | .gt=>ints2 a b fun i j=>decide (j < i)
 | .ge=>ints2 a b fun i j=>decide (j≤i)
 | .isin=>wg H a b
 | .notin=>(wg H a b).map (!·)
 | .is=>bif b.isNone then some a.isNone else Option.none
 | .isnot=>bif b.isNone then some (!a.isNone) else Option.none
noncomputable def eY:List V→Option (List Int)
 | []=>some []
 | v :: r=>v.num?.bind fun i=>(eY r).map (i :: ·)
noncomputable def allInts:List V→Option (List Int)
 | []=>some []
 | v :: r=>v.int?.bind fun i=>(allInts r).map (i :: ·)
noncomputable def xB:List Int→Option Int
 | []=>Option.none
 | i :: r=>some (r.foldl (fun a b=>if b < a then b else a) i)
noncomputable def xC:List Int→Option Int
 | []=>Option.none
 | i :: r=>some (r.foldl (fun a b=>if a < b then b else a) i)
noncomputable def xZ (H:Hp) (v:V):Option Nat:=match v with
 | .ref i=>(nth H i).bind fun o=>o.list?.map (·.length)
 | v=>(items v).map (·.length)
noncomputable def fw (args:List V):Option (List Int):=match args with
 | [v]=>v.lst?.bind allInts
 | [a,b]=>allInts [a,b]
 | _=>Option.none
noncomputable def aP (b:Bi) (args:List V) (H:Hp):Option (V×Hp):=match b with
 | .len=>(one? args).bind fun v=>(xZ H v).bind fun n=>bif ax n then some (.int n,H) else Option.none
 | .sum=>(one? args).bind fun v=>v.lst?.bind fun l=>(eY l).bind fun is=>bif aM is.sum&&is.all aM then some (.int is.sum,H) else Option.none
 | .min=>(fw args).bind fun is=>(xB is).map fun i=>(.int i,H)
 | .max=>(fw args).bind fun is=>(xC is).map fun i=>(.int i,H)
 | .int=>(one? args).bind fun v=>v.num?.map fun a=>(.int a,H)
 | .list=>(one? args).bind fun v=>v.lst?.bind fun l=>bif ax l.length then some (.lst l,H) else Option.none
 | .tuple=>(one? args).bind fun v=>v.tup?.map fun l=>(.tup l,H)
 | .isTuple=>(one? args).bind fun v=>bif v.ref?.isSome then Option.none else some (.bool v.tup?.isSome,H)
noncomputable def xK (o:O) (i:V):Option V:=match o with
 | .list l=>i.int?.bind fun k=>(idx k l.length).bind fun j=>l[j]?
 | .dI l=>i.int?.bind (getI l)
 | .dT l=>bif i.isKey then getT l i else Option.none
 | _=>Option.none
noncomputable def dR (H:Hp) (o i:V):Option V:=match o with
 | .ref n=>(nth H n).bind fun ob=>xK ob i
 | o=>(items o).bind fun l=>i.int?.bind fun k=>(idx k l.length).bind fun j=>l[j]?
noncomputable def dE (o:O) (i v:V):Option O:=match o with
 | .dI l=>i.int?.bind fun k=>bif ax l.length then some (.dI (setI l k v)) else Option.none
 | .list l=>i.int?.bind fun k=>if 0≤k∧k.toNat < l.length∧k < 100001 then some (.list (l.set k.toNat v)) else Option.none
 | .dT l=>bif i.isKey&&ax l.length then some (.dT (setT l i v)) else Option.none
 | _=>Option.none
noncomputable def bR (H:Hp) (o i v:V):Option Hp:=o.ref?.bind fun n=>(nth H n).bind fun ob=>(dE ob i v).map fun ob=>H.set n ob
noncomputable def gg (v:V) (lo hi:Option Int):Option V:=match v with
 | .lst l=>hi.bind fun h=>bif lo.isNone&&decide (0≤h)&&ax l.length then some (.lst (l.take h.toNat)) else Option.none
 | .tup l=>lo.bind fun k=>bif hi.isNone&&k==1&&!l.isEmpty&&ax l.length then some (.tup (l.drop 1)) else Option.none
 | _=>Option.none
noncomputable def d7 (i:Int):Option Nat:=if 0≤i∧i < 10 then some (48 + i.toNat) else if 10≤i∧i < 100 then some ((48 + i.toNat / 10) + 256 * (48 + i.toNat % 10)) else Option.none
structure Sems where
 ev:E→Lo→Hp→Option (V×Hp)
 exs:List S→Lo→Hp→Option (Fl×Lo×Hp)
section
variable (P:Prog) (R:Sems)
noncomputable def evs:List E→Lo→Hp→Option (List V×Hp)
 | [],_,H=>some ([],H)
 | e :: es,ρ,H=>(R.ev e ρ H).bind fun (v,H)=>(evs es ρ H).bind fun (vs,H)=>some (v :: vs,H)
noncomputable def Fl.out (f:Fl):Option V:=match f with
 | .ret v=>some v
 | .nxt=>some .none
 | .cont=>Option.none
noncomputable def Fl.ret? (f:Fl):Option V:=match f with
 | .ret v=>some v
 | _=>Option.none
noncomputable def Fl.isNxt (f:Fl):Bool:=match f with
 | .nxt=>true
 | _=>false
noncomputable def cH (f:FDef) (args:List V) (H:Hp):Option (V×Hp) :=
 bif Nat.beq args.length f.params.length then (R.exs f.body (f.params.zip args) H).bind fun x=>x.1.out.map fun v=>(v,x.2.2) else Option.none
noncomputable def rL:List E→Lo→Hp→Option (V×Hp)
 | [],_,_=>Option.none
 | e :: es,ρ,H=>bif es.isEmpty then R.ev e ρ H else (R.ev e ρ H).bind fun (v,H)=>v.bool?.bind fun b=>bif b then rL es ρ H else some (.bool false,H)
noncomputable def xP:List E→Lo→Hp→Option (V×Hp)
 | [],_,_=>Option.none
 | e :: es,ρ,H=>bif es.isEmpty then R.ev e ρ H else (R.ev e ρ H).bind fun (v,H)=>v.bool?.bind fun b=>bif b then some (.bool true,H) else xP es ρ H
noncomputable def uN (left:V):List Cop→List E→Lo→Hp→Option (V×Hp)
 | o :: os,e :: es,ρ,H=>(R.ev e ρ H).bind fun (v,H)=>(cop o H left v).bind fun b =>
  bif b&&!es.isEmpty then uN v os es ρ H else some (.bool b,H)
 | _,_,_,_=>Option.none
noncomputable def vX (l:List Int):Option (List V):=match l with
 | [n]=>bif ax n.toNat&&aM n then some ((List.range n.toNat).map fun (i:Nat)=>V.int (i:Int)) else Option.none
 | [a,b]=>bif ax (b - a).toNat&&aM a&&aM b then some ((List.range (b - a).toNat).map fun (i:Nat)=>V.int (a + (i:Int))) else Option.none
 | _=>Option.none
noncomputable def E.range? (e:E):Option (List E):=match e with
 | .range l=>some l
 | _=>Option.none
noncomputable def tl:Nat→List (List V)→List V
 | 0,_=>[]
 | n + 1,ls=>.tup (ls.map fun l=>l.headD .none) :: tl n (ls.map List.tail)
noncomputable def tj (ls:List (List V)):Option (List V):=match ls with
 | []=>Option.none
 | l :: r=>bif r.all (fun m=>Nat.beq m.length l.length)&&(Nat.ble r.length 2&&ax l.length) then some (tl l.length ls) else Option.none
noncomputable def jz:Nat→List V→List V
 | _,[]=>[]
 | i,v :: l=>.tup [.int (i:Int),v] :: jz (i + 1) l
noncomputable def sG:List V→Option (List (List V))
 | []=>some []
 | v :: r=>v.lst?.bind fun l=>(sG r).map (l :: ·)
noncomputable def runK {α:Type} (cmp:Nat→Nat→Option Bool):PySem.W.KasT α→Option α
 | .ret a=>some a
 | .ask i j k=>(cmp i j).bind fun b=>runK cmp (k b)
noncomputable def ltP (p q:Int×Int):Bool:=bif p.1==q.1 then (bif p.2==q.2 then false else decide (p.2 < q.2)) else decide (p.1 < q.1)
noncomputable def picks {α:Type} (l:List α):List Nat→Option (List α)
 | []=>some []
 | i :: r=>l[i]?.bind fun x=>(picks l r).map (x :: ·)
noncomputable def vR (l:List (Int×Int)):Option (List (Int×Int)):=(runK (fun i j=>l[i]?.bind fun p=>l[j]?.map (ltP p)) (PySem.W.kas_sort l.length)).bind fun p=>picks l p.toList
noncomputable def qQ (p:Int×Int):V:=.tup [.int p.1,.int p.2]
noncomputable def tR (a b:V):Option V:=a.lst?.bind fun la=>allInts la |>.bind fun is=>b.lst?.bind fun lb=>allInts lb |>.bind fun js =>
 bif Nat.beq is.length js.length&&(Nat.ble 2 is.length&&Nat.ble is.length 63) then (vR (is.zip js)).map fun l=>.lst (l.map qQ) else Option.none
noncomputable def v5 (v:V):Option (V×V):=v.tup?.bind xJ
noncomputable def fU:List V→List (V×V)→Option (List (V×V))
 | [],d=>some d
 | v :: r,d=>(v5 v).bind fun p=>bif p.1.isKey then fU r (setT d p.1 p.2) else Option.none
inductive Iter where
 | zip (l:List E)
 | zips (e:E)
 | enum (e:E)
noncomputable def E.iter? (e:E):Option Iter:=match e with
 | .zip l=>some (.zip l)
 | .zips e=>some (.zips e)
 | .enum e=>some (.enum e)
 | _=>Option.none
noncomputable def rK (e:E) (ρ:Lo) (H:Hp):Option (List V×Hp):=match e.range? with
 | some l=>(evs R l ρ H).bind fun (vs,H)=>(allInts vs).bind fun is=>(vX is).map fun l=>(l,H)
 | Option.none=>(R.ev e ρ H).bind fun (v,H)=>(items v).map fun l=>(l,H)
noncomputable def lV (e:E) (ρ:Lo) (H:Hp):Option (List V×Hp):=match e.iter? with
 | some (.zip l)=>(evs R l ρ H).bind fun (vs,H)=>(sG vs).bind fun ls=>(tj ls).map fun l=>(l,H)
 | some (.zips e)=>(R.ev e ρ H).bind fun (v,H)=>v.lst?.bind fun vs=>(sG vs).bind fun ls=>(tj ls).map fun l=>(l,H)
 | some (.enum e)=>(R.ev e ρ H).bind fun (v,H)=>v.tup?.map fun l=>(jz 0 l,H)
 | Option.none=>rK R e ρ H
noncomputable def gF:List Nat→List V→Lo→Option Lo
 | [],[],ρ=>some ρ
 | i :: ts,v :: vs,ρ=>gF ts vs (ak ρ i v)
 | _,_,_=>Option.none
noncomputable def eh:T→V→Lo→Option Lo
 | .var i,v,ρ=>some (ak ρ i v)
 | .tup l,v,ρ=>(items v).bind fun vs=>gF l vs ρ
 | .attr _ _,_,_=>Option.none
 | .sub _ _,_,_=>Option.none
noncomputable def jy:List E→Lo→Hp→Option (Bool×Hp)
 | [],_,H=>some (true,H)
 | e :: es,ρ,H=>(R.ev e ρ H).bind fun (v,H)=>v.bool?.bind fun b=>bif b then jy es ρ H else some (false,H)
noncomputable def bY:List Nat→Bool
 | []=>true
 | i :: l=>!(l.any (Nat.beq i))&&bY l
noncomputable def mW:T→List Nat
 | .var i=>[i]
 | .tup l=>l
 | .attr _ _=>[]
 | .sub _ _=>[]
noncomputable def aN (gs:List G):List Nat:=gs.flatMap fun | .mk t _ _=>mW t
noncomputable def bK:Nat:=12334
noncomputable def gu (l:List Nat) (ρ:Lo):Lo:=ρ.filter fun p=>!(l.any (Nat.beq p.1))
noncomputable def bV (elt:E):List G→Lo→Hp→Option (List V×Hp)
 | [],ρ,H=>(R.ev elt ρ H).bind fun (v,H)=>some ([v],H)
 | .mk t it ifs :: gs,ρ,H=>(rK R it ρ H).bind fun (vs,H)=>loop t ifs (bV elt gs) vs ρ H
where loop (t:T) (ifs:List E) (inner:Lo→Hp→Option (List V×Hp)):List V→Lo→Hp→Option (List V×Hp)
 | [],_,H=>some ([],H)
 | v :: vs,ρ,H=>(eh t v ρ).bind fun ρ'=>(jy R ifs ρ' H).bind fun (b,H) =>
  (bif b then inner ρ' H else some ([],H)).bind fun (ws,H)=>(loop t ifs inner vs ρ H).bind fun (us,H)=>some (ws++us,H)
noncomputable def pf:Option E→Lo→Hp→Option (Option Int×Hp)
 | Option.none,_,H=>some (Option.none,H)
 | some e,ρ,H=>(R.ev e ρ H).bind fun (v,H)=>v.int?.bind fun i=>bif aM i then some (some i,H) else Option.none
noncomputable def ou (k:DK):O:=match k with
 | .i=>.dI []
 | .t=>.dT []
noncomputable def eN:Nat:=110425311047777
noncomputable def qT:Nat:=7368560
noncomputable def eM:Nat:=110425311311973
noncomputable def oj:Nat:=7628135
noncomputable def eo:Nat:=6872339552563453791
noncomputable def aJ:Nat:=1718379891
noncomputable def O.isList:O→Bool
 | .list _=>true
 | _=>false
noncomputable def O.isDict:O→Bool
 | .dI _ | .dT _=>true
 | _=>false
noncomputable def x7 (o:O) (k d:V):Option V:=match o with
 | .dT l=>bif k.isKey then some ((getT l k).getD d) else Option.none
 | _=>Option.none
noncomputable def qX (r:Nat) (o:O) (m:Nat) (args:List V) (H:Hp):Option (V×Hp):=match o.list? with
 | some l=>(match args with
  | []=>bif Nat.beq m qT&&Nat.ble l.length cap then l.getLast?.map fun v=>(v,H.set r (.list l.dropLast)) else Option.none
  | [v]=>bif Nat.beq m eN&&ax l.length then some (.none,H.set r (.list (l++[v])))
   else bif Nat.beq m eM then v.lst?.bind fun w=>bif ax (l.length + w.length) then some (.none,H.set r (.list (l++w))) else Option.none else Option.none
  | _=>Option.none)
 | Option.none=>(xJ args).bind fun x=>bif Nat.beq m oj then (x7 o x.1 x.2).map fun v=>(v,H) else Option.none
noncomputable def oT (m:Nat):Bool:=Nat.beq m eN||Nat.beq m qT||Nat.beq m eM
noncomputable def aO:E→Lo→Hp→Option (V×Hp)
 | .none,_,H=>some (.none,H)
 | .bool b,_,H=>some (.bool b,H)
 | .num i,_,H=>some (.int i,H)
 | .str s,_,H=>some (.str s,H)
 | .var i,ρ,H=>(lk ρ i).map fun v=>(v,H)
 | .cst i,_,H=>(lk P.consts i).map fun v=>(v,H)
 | .and l,ρ,H=>rL R l ρ H
 | .or l,ρ,H=>xP R l ρ H
 | .not a,ρ,H=>(R.ev a ρ H).bind fun (v,H)=>v.bool?.map fun b=>(.bool (!b),H)
 | .bin op a b,ρ,H=>(R.ev a ρ H).bind fun (x,H)=>(R.ev b ρ H).bind fun (y,H)=>(fV op x y).map fun v=>(v,H)
 | .neg a,ρ,H=>(R.ev a ρ H).bind fun (v,H)=>v.int?.map fun i=>(.int (-i),H)
 | .ite c a b,ρ,H=>(R.ev c ρ H).bind fun (v,H)=>v.bool?.bind fun t=>bif t then R.ev a ρ H else R.ev b ρ H
 | .dict k,_,H=>some (.ref H.length,H++[ou k])
 | .list m l,ρ,H=>(evs R l ρ H).bind fun (vs,H)=>bif ax vs.length then (bif m then some (.ref H.length,H++[.list vs]) else some (.lst vs,H)) else Option.none
 | .tup l,ρ,H=>(evs R l ρ H).bind fun (vs,H)=>bif ax vs.length then some (.tup vs,H) else Option.none
 | .comp elt gens,ρ,H=>(match gens with
  | []=>Option.none
  | .mk t it ifs :: gs=>(lV R it ρ H).bind fun (vs,H)=>(bV.loop R t ifs (bV R elt gs) vs (gu (bK :: aN (.mk t it ifs :: gs)) ρ) H).bind fun (ws,H) =>
   bif ax ws.length then some (.lst ws,H) else Option.none)
 | .cmp a ops l,ρ,H=>(R.ev a ρ H).bind fun (v,H)=>uN R v ops l ρ H
 | .call f args,ρ,H=>(lk P.funs f).bind fun fd=>(evs R args ρ H).bind fun (vs,H)=>cH R fd vs H
 | .new c args,ρ,H=>(lk P.classes c).bind fun ms=>(lk ms eo).bind fun fd=>(evs R args ρ H).bind fun (vs,H) =>
  (cH R fd (.ref H.length :: vs) (H++[.inst c []])).bind fun x=>bif x.1.isNone then some (.ref H.length,x.2) else Option.none
 | .meth o m args,ρ,H=>(R.ev o ρ H).bind fun (v,H)=>v.ref?.bind fun r=>(nth H r).bind fun ob=>(match ob.inst? with
  | some x=>bif (lk x.2 m).isSome then Option.none else (lk P.classes x.1).bind fun ms=>(lk ms m).bind fun f=>(evs R args ρ H).bind fun (vs,H)=>cH R f (.ref r :: vs) H
  | Option.none=>(evs R args ρ H).bind fun (vs,H)=>(nth H r).bind fun ob2 =>
    bif (oT m&&ob.isList&&ob2.isList)||(Nat.beq m oj&&ob.isDict&&ob2.isDict) then qX r ob2 m vs H else Option.none)
 | .bi b args,ρ,H=>(evs R args ρ H).bind fun (vs,H)=>aP b vs H
 | .sortz a b,ρ,H=>(R.ev a ρ H).bind fun (v,H)=>(R.ev b ρ H).bind fun (w,H)=>(tR v w).map fun x=>(x,H)
 | .dictOf elt gens,ρ,H=>(R.ev (.comp elt gens) ρ H).bind fun (v,H)=>v.lst?.bind fun l=>bif ax l.length then (fU l []).map fun d=>(.ref H.length,H++[.dT d]) else Option.none
 | .attr o a,ρ,H=>(R.ev o ρ H).bind fun (v,H)=>v.ref?.bind fun r=>(nth H r).bind fun ob=>ob.inst?.bind fun x =>
   bif P.attrs.any (Nat.beq a)&&(lk P.classes x.1).isSome then (lk x.2 a).map fun v=>(v,H) else Option.none
 | .sub o i,ρ,H=>(R.ev o ρ H).bind fun (x,H)=>(R.ev i ρ H).bind fun (y,H)=>(dR H x y).map fun v=>(v,H)
 | .slice o lo hi,ρ,H=>(R.ev o ρ H).bind fun (x,H)=>(pf R lo ρ H).bind fun (a,H)=>(pf R hi ρ H).bind fun (b,H)=>(gg x a b).map fun v=>(v,H)
 | .fmt pre e post,ρ,H=>(R.ev e ρ H).bind fun (v,H)=>v.int?.bind fun i=>(d7 i).map fun t=>(.str (dg pre (dg t post)),H)
 | .sup c m,ρ,H=>(lk ρ aJ).bind fun v=>(lk P.classes c).bind fun ms=>(lk ms m).bind fun f=>cH R f [v] H
 | .freeze e,ρ,H=>(R.ev e ρ H).bind fun (v,H)=>v.ref?.bind fun r=>(nth H r).bind fun ob=>ob.list?.map fun l=>(.lst l,H.set r .dead)
 | .range _,_,_=>Option.none
 | .zip _,_,_=>Option.none
 | .zips _,_,_=>Option.none
 | .enum _,_,_=>Option.none
noncomputable def xF:T→V→Lo→Hp→Option (Lo×Hp)
 | .var i,v,ρ,H=>some (ak ρ i v,H)
 | .attr o a,v,ρ,H=>(R.ev o ρ H).bind fun (ov,H)=>ov.ref?.bind fun r=>(nth H r).bind fun ob=>ob.inst?.bind fun x =>
   bif Nat.ble x.2.length 50&&P.attrs.any (Nat.beq a)&&(lk P.classes x.1).isSome then some (ρ,H.set r (.inst x.1 (ak x.2 a v))) else Option.none
 | .sub o i,v,ρ,H=>(R.ev o ρ H).bind fun (ov,H)=>(R.ev i ρ H).bind fun (iv,H)=>(bR H ov iv v).map fun H=>(ρ,H)
 | .tup l,v,ρ,H=>(eh (.tup l) v ρ).map fun ρ=>(ρ,H)
noncomputable def fT (t:T) (b:List S):List V→Lo→Hp→Option (Fl×Lo×Hp)
 | [],ρ,H=>some (.nxt,ρ,H)
 | v :: vs,ρ,H=>(eh t v ρ).bind fun ρ=>(R.exs b ρ H).bind fun (f,ρ,H)=>match f.ret? with
  | some v=>some (.ret v,ρ,H)
  | Option.none=>fT t b vs ρ H
noncomputable def cF (c:E) (b:List S):Nat→Lo→Hp→Option (Fl×Lo×Hp)
 | 0,_,_=>Option.none
 | n + 1,ρ,H=>(R.ev c ρ H).bind fun (v,H)=>v.bool?.bind fun t=>bif t then
   (R.exs b ρ H).bind fun (f,ρ,H)=>(match f.ret? with
   | some v=>some (.ret v,ρ,H)
   | Option.none=>cF c b n ρ H)
  else some (.nxt,ρ,H)
noncomputable def turns:Nat:=8 ^ 100000
noncomputable def kG:S→Lo→Hp→Option (Fl×Lo×Hp)
 | .expr e,ρ,H=>(R.ev e ρ H).map fun (_,H)=>(.nxt,ρ,H)
 | .ret e,ρ,H=>(R.ev e ρ H).map fun (v,H)=>(.ret v,ρ,H)
 | .asg t e,ρ,H=>(R.ev e ρ H).bind fun (v,H)=>(xF P R t v ρ H).map fun (ρ,H)=>(.nxt,ρ,H)
 | .ifs c a b,ρ,H=>(R.ev c ρ H).bind fun (v,H)=>v.bool?.bind fun t=>bif t then R.exs a ρ H else R.exs b ρ H
 | .whl c b,ρ,H=>cF R c b turns ρ H
 | .fr t e b,ρ,H=>(rK R e ρ H).bind fun (vs,H)=>fT R t b vs ρ H
 | .cont,ρ,H=>some (.cont,ρ,H)
 | .rais,_,_=>Option.none
noncomputable def fJ:List S→Lo→Hp→Option (Fl×Lo×Hp)
 | [],ρ,H=>some (.nxt,ρ,H)
 | s :: r,ρ,H=>(kG P R s ρ H).bind fun (f,ρ,H)=>bif f.isNxt then fJ r ρ H else some (f,ρ,H)
end
noncomputable def sem (P:Prog):Nat→Sems
 | 0=>⟨fun _ _ _=>Option.none,fun _ _ _=>Option.none⟩
 | n + 1=>⟨aO P (sem P n),fJ P (sem P n)⟩
theorem nn {α:Type} {a:α} {p:Prop} (h:Option.none=some a):p:=nomatch h
theorem ff {p:Prop} (h:false=true):p:=nomatch h
theorem az {v:V} {i:Int} (h:v.int?=some i):v=.int i:=by induction v using Mini.Internal.V.casesOn<;>(first | exact nn h | cases h);rfl
theorem aE {v:V} {i:Bool} (h:v.bool?=some i):v=.bool i:=by induction v using Mini.Internal.V.casesOn<;>(first | exact nn h | cases h);rfl
theorem iw {v:V} {i:Int} (h:v.num?=some i):v=.int i∨∃ b,v=.bool b∧i=if b then 1 else 0:=by
 induction v using Mini.Internal.V.casesOn<;>first | ((first | exact nn h | cases h);exact .inl rfl) | ((first | exact nn h | cases h);exact .inr ⟨_,rfl,rfl⟩) | exact nn h
theorem aY {v:V} {i:Nat} (h:v.ref?=some i):v=.ref i:=by induction v using Mini.Internal.V.casesOn<;>(first | exact nn h | cases h);rfl
theorem aZ {v:V} {i:List V} (h:v.lst?=some i):v=.lst i:=by induction v using Mini.Internal.V.casesOn<;>(first | exact nn h | cases h);rfl
theorem eX {v:V} {i:List V} (h:v.tup?=some i):v=.tup i:=by induction v using Mini.Internal.V.casesOn<;>(first | exact nn h | cases h);rfl
theorem c6 {v:V} {l:List V} (h:items v=some l):v=.tup l∨v=.lst l:=by induction v using Mini.Internal.V.casesOn<;>cases h<;>first | exact .inl rfl | exact .inr rfl
theorem none_of {v:V} (h:v.isNone=true):v=.none:=by induction v using Mini.Internal.V.casesOn<;>first | rfl | exact ff h
theorem gq {v:O} {i:List V} (h:v.list?=some i):v=.list i:=by induction v using Mini.Internal.O.casesOn<;>(first | exact nn h | cases h);rfl
theorem kM {v:O} {i:List (V×V)} (h:v.dT?=some i):v=.dT i:=by induction v using Mini.Internal.O.casesOn<;>(first | exact nn h | cases h);rfl
theorem d8 {v:O} {i:Nat×List (Nat×V)} (h:v.inst?=some i):v=.inst i.1 i.2:=by induction v using Mini.Internal.O.casesOn<;>(first | exact nn h | cases h);rfl
theorem nV {l:List V} {v:V} (h:one? l=some v):l=[v]:=by
 induction l using List.casesOn with
 | nil=>exact nn h
 | cons a l=>induction l using List.casesOn<;>(first | exact nn h | cases h);rfl
theorem ic {l:List V} {v:V×V} (h:xJ l=some v):l=[v.1,v.2]:=by
 induction l using List.casesOn with
 | nil=>exact nn h
 | cons a l=>induction l using List.casesOn with
  | nil=>exact nn h
  | cons b l=>induction l using List.casesOn<;>(first | exact nn h | cases h);rfl
theorem dN {α:Type} {b:Bool} {x:Option α} {y:α} (h:(bif b then x else Option.none)=some y):b=true∧x=some y:=by
 induction b using Bool.casesOn
 ·exact nn h
 ·exact ⟨rfl,h⟩
theorem yn {α β γ:Type} {x:Option (α×β)} {g:α×β→Option γ} {r:γ} (h:x.bind g=some r):∃ a b,x=some (a,b)∧g (a,b)=some r :=
 (Option.bind_eq_some_iff.mp h).elim fun a h=>⟨a.1,a.2,h.1,h.2⟩
theorem xq {α β γ δ:Type} {x:Option (α×β×δ)} {g:α×β×δ→Option γ} {r:γ} (h:x.bind g=some r):∃ a b c,x=some (a,b,c)∧g (a,b,c)=some r :=
 (Option.bind_eq_some_iff.mp h).elim fun a h=>⟨a.1,a.2.1,a.2.2,h.1,h.2⟩
theorem yM {α β γ:Type} {x:Option (α×β)} {g:α×β→γ} {r:γ} (h:x.map g=some r):∃ a b,x=some (a,b)∧g (a,b)=r :=
 (Option.map_eq_some_iff.mp h).elim fun a h=>⟨a.1,a.2,h.1,h.2⟩
theorem qO {α β:Type} {a c:α} {b d:β} (h:(a,b)=(c,d)):a=c∧b=d:=⟨congrArg Prod.fst h,congrArg Prod.snd h⟩
theorem dS {α β:Type} {a c:α} {b d:β} (h:some (a,b)=some (c,d)):a=c∧b=d:=qO (Option.some.inj h)
theorem nS {α β γ:Type} {a c:α} {b d:β} {e f:γ} (h:(a,b,e)=(c,d,f)):a=c∧b=d∧e=f:=⟨(qO h).1,qO (qO h).2⟩
theorem qK {α β γ:Type} {a c:α} {b d:β} {e f:γ} (h:some (a,b,e)=some (c,d,f)):a=c∧b=d∧e=f:=nS (Option.some.inj h)
theorem bind_some {α β:Type} {x:Option α} {g:α→Option β} {b:β} (h:x.bind g=some b):∃ a,x=some a∧g a=some b:=Option.bind_eq_some_iff.mp h
theorem map_some {α β:Type} {x:Option α} {g:α→β} {b:β} (h:x.map g=some b):∃ a,x=some a∧g a=b:=Option.map_eq_some_iff.mp h
theorem bsE {α β:Type} {x:Option α} {g:α→Option β} {b:β} {P:Prop} (h:x.bind g=some b) (k:∀ a,x=some a→g a=some b→P):P:=(bind_some h).elim fun a h=>k a h.1 h.2
theorem msE {α β:Type} {x:Option α} {g:α→β} {b:β} {P:Prop} (h:x.map g=some b) (k:∀ a,x=some a→g a=b→P):P:=(map_some h).elim fun a h=>k a h.1 h.2
theorem bpE {α β γ:Type} {x:Option (α×β)} {g:α×β→Option γ} {r:γ} {P:Prop} (h:x.bind g=some r) (k:∀ a b,x=some (a,b)→g (a,b)=some r→P):P:=(yn h).elim fun a h=>h.elim fun b h=>k a b h.1 h.2
theorem b3E {α β γ δ:Type} {x:Option (α×β×δ)} {g:α×β×δ→Option γ} {r:γ} {P:Prop} (h:x.bind g=some r) (k:∀ a b c,x=some (a,b,c)→g (a,b,c)=some r→P):P:=(xq h).elim fun a h=>h.elim fun b h=>h.elim fun c h=>k a b c h.1 h.2
theorem mpE {α β γ:Type} {x:Option (α×β)} {g:α×β→γ} {r:γ} {P:Prop} (h:x.map g=some r) (k:∀ a b,x=some (a,b)→g (a,b)=r→P):P:=(yM h).elim fun a h=>h.elim fun b h=>k a b h.1 h.2
theorem itE {α:Type} {b:Bool} {x:Option α} {y:α} {P:Prop} (h:(bif b then x else Option.none)=some y) (k:b=true→x=some y→P):P:=k (dN h).1 (dN h).2
theorem iyE {α:Type} {c:Prop} [Decidable c] {x:Option α} {y:α} {P:Prop} (h:(if c then x else Option.none)=some y) (k:c→x=some y→P):P:=by
 by_cases q:c
 ·rw [if_pos q] at h;exact k q h
 ·rw [if_neg q] at h;exact nn h
theorem inE {α:Type} {c:Prop} [Decidable c] {x:Option α} {y:α} {P:Prop} (h:(if c then Option.none else x)=some y) (k:¬c→x=some y→P):P:=by
 by_cases q:c
 ·rw [if_pos q] at h;exact nn h
 ·rw [if_neg q] at h;exact k q h
theorem aw {A0 A1 P:Prop} (h:A0∧A1) (k:A0→A1→P):P:=k h.1 h.2
theorem du {A0 A1 A2 P:Prop} (h:A0∧A1∧A2) (k:A0→A1→A2→P):P:=k h.1 h.2.1 h.2.2
theorem sm {A0 A1 A2 A3 P:Prop} (h:A0∧A1∧A2∧A3) (k:A0→A1→A2→A3→P):P:=k h.1 h.2.1 h.2.2.1 h.2.2.2
theorem aG {α0:Sort _} {A0:α0→Prop} {P:Prop} (h:∃ a0,A0 a0) (k:∀ a0,A0 a0→P):P:=h.elim fun a0 h=>k a0 h
theorem ae {α0:Sort _} {A0 A1:α0→Prop} {P:Prop} (h:∃ a0,A0 a0∧A1 a0) (k:∀ a0,A0 a0→A1 a0→P):P:=h.elim fun a0 h=>k a0 h.1 h.2
theorem ay {α0:Sort _} {A0 A1 A2:α0→Prop} {P:Prop} (h:∃ a0,A0 a0∧A1 a0∧A2 a0) (k:∀ a0,A0 a0→A1 a0→A2 a0→P):P:=h.elim fun a0 h=>k a0 h.1 h.2.1 h.2.2
theorem hZ {α0:Sort _} {α1:Sort _} {A0:α0→α1→Prop} {P:Prop} (h:∃ a0 a1,A0 a0 a1) (k:∀ a0 a1,A0 a0 a1→P):P:=h.elim fun a0 h=>h.elim fun a1 h=>k a0 a1 h
theorem aX {α0:Sort _} {α1:Sort _} {A0 A1:α0→α1→Prop} {P:Prop} (h:∃ a0 a1,A0 a0 a1∧A1 a0 a1) (k:∀ a0 a1,A0 a0 a1→A1 a0 a1→P):P:=h.elim fun a0 h=>h.elim fun a1 h=>k a0 a1 h.1 h.2
theorem aW {α0:Sort _} {α1:Sort _} {A0 A1 A2:α0→α1→Prop} {P:Prop} (h:∃ a0 a1,A0 a0 a1∧A1 a0 a1∧A2 a0 a1) (k:∀ a0 a1,A0 a0 a1→A1 a0 a1→A2 a0 a1→P):P:=h.elim fun a0 h=>h.elim fun a1 h=>k a0 a1 h.1 h.2.1 h.2.2
theorem iY {α0:Sort _} {α1:Sort _} {A0 A1 A2 A3:α0→α1→Prop} {P:Prop} (h:∃ a0 a1,A0 a0 a1∧A1 a0 a1∧A2 a0 a1∧A3 a0 a1) (k:∀ a0 a1,A0 a0 a1→A1 a0 a1→A2 a0 a1→A3 a0 a1→P):P:=h.elim fun a0 h=>h.elim fun a1 h=>k a0 a1 h.1 h.2.1 h.2.2.1 h.2.2.2
theorem yy {α0:Sort _} {α1:Sort _} {A0 A1 A2 A3 A4:α0→α1→Prop} {P:Prop} (h:∃ a0 a1,A0 a0 a1∧A1 a0 a1∧A2 a0 a1∧A3 a0 a1∧A4 a0 a1) (k:∀ a0 a1,A0 a0 a1→A1 a0 a1→A2 a0 a1→A3 a0 a1→A4 a0 a1→P):P:=h.elim fun a0 h=>h.elim fun a1 h=>k a0 a1 h.1 h.2.1 h.2.2.1 h.2.2.2.1 h.2.2.2.2
theorem vG {α0:Sort _} {α1:Sort _} {α2:Sort _} {A0:α0→α1→α2→Prop} {P:Prop} (h:∃ a0 a1 a2,A0 a0 a1 a2) (k:∀ a0 a1 a2,A0 a0 a1 a2→P):P:=h.elim fun a0 h=>h.elim fun a1 h=>h.elim fun a2 h=>k a0 a1 a2 h
theorem iX {α0:Sort _} {α1:Sort _} {α2:Sort _} {A0 A1:α0→α1→α2→Prop} {P:Prop} (h:∃ a0 a1 a2,A0 a0 a1 a2∧A1 a0 a1 a2) (k:∀ a0 a1 a2,A0 a0 a1 a2→A1 a0 a1 a2→P):P:=h.elim fun a0 h=>h.elim fun a1 h=>h.elim fun a2 h=>k a0 a1 a2 h.1 h.2
theorem aT {α0:Sort _} {α1:Sort _} {α2:Sort _} {A0 A1 A2:α0→α1→α2→Prop} {P:Prop} (h:∃ a0 a1 a2,A0 a0 a1 a2∧A1 a0 a1 a2∧A2 a0 a1 a2) (k:∀ a0 a1 a2,A0 a0 a1 a2→A1 a0 a1 a2→A2 a0 a1 a2→P):P:=h.elim fun a0 h=>h.elim fun a1 h=>h.elim fun a2 h=>k a0 a1 a2 h.1 h.2.1 h.2.2
theorem jL {α0:Sort _} {α1:Sort _} {α2:Sort _} {A0 A1 A2 A3:α0→α1→α2→Prop} {P:Prop} (h:∃ a0 a1 a2,A0 a0 a1 a2∧A1 a0 a1 a2∧A2 a0 a1 a2∧A3 a0 a1 a2) (k:∀ a0 a1 a2,A0 a0 a1 a2→A1 a0 a1 a2→A2 a0 a1 a2→A3 a0 a1 a2→P):P:=h.elim fun a0 h=>h.elim fun a1 h=>h.elim fun a2 h=>k a0 a1 a2 h.1 h.2.1 h.2.2.1 h.2.2.2
theorem yZ {α0:Sort _} {α1:Sort _} {α2:Sort _} {A0 A1 A2 A3 A4:α0→α1→α2→Prop} {P:Prop} (h:∃ a0 a1 a2,A0 a0 a1 a2∧A1 a0 a1 a2∧A2 a0 a1 a2∧A3 a0 a1 a2∧A4 a0 a1 a2) (k:∀ a0 a1 a2,A0 a0 a1 a2→A1 a0 a1 a2→A2 a0 a1 a2→A3 a0 a1 a2→A4 a0 a1 a2→P):P:=h.elim fun a0 h=>h.elim fun a1 h=>h.elim fun a2 h=>k a0 a1 a2 h.1 h.2.1 h.2.2.1 h.2.2.2.1 h.2.2.2.2
theorem vF {α0:Sort _} {α1:Sort _} {α2:Sort _} {α3:Sort _} {A0 A1:α0→α1→α2→α3→Prop} {P:Prop} (h:∃ a0 a1 a2 a3,A0 a0 a1 a2 a3∧A1 a0 a1 a2 a3) (k:∀ a0 a1 a2 a3,A0 a0 a1 a2 a3→A1 a0 a1 a2 a3→P):P:=h.elim fun a0 h=>h.elim fun a1 h=>h.elim fun a2 h=>h.elim fun a3 h=>k a0 a1 a2 a3 h.1 h.2
theorem vy {α0:Sort _} {α1:Sort _} {α2:Sort _} {α3:Sort _} {A0 A1 A2:α0→α1→α2→α3→Prop} {P:Prop} (h:∃ a0 a1 a2 a3,A0 a0 a1 a2 a3∧A1 a0 a1 a2 a3∧A2 a0 a1 a2 a3) (k:∀ a0 a1 a2 a3,A0 a0 a1 a2 a3→A1 a0 a1 a2 a3→A2 a0 a1 a2 a3→P):P:=h.elim fun a0 h=>h.elim fun a1 h=>h.elim fun a2 h=>h.elim fun a3 h=>k a0 a1 a2 a3 h.1 h.2.1 h.2.2
theorem y4 {A0 A1 A2 A3 A4 P:Prop} (h:A0∧A1∧A2∧A3∧A4) (k:A0→A1→A2→A3→A4→P):P:=k h.1 h.2.1 h.2.2.1 h.2.2.2.1 h.2.2.2.2
theorem y3 {A0 A1 A2 A3 A4 A5 P:Prop} (h:A0∧A1∧A2∧A3∧A4∧A5) (k:A0→A1→A2→A3→A4→A5→P):P:=k h.1 h.2.1 h.2.2.1 h.2.2.2.1 h.2.2.2.2.1 h.2.2.2.2.2
theorem vH {α0:Sort _} {A0 A1 A2 A3:α0→Prop} {P:Prop} (h:∃ a0,A0 a0∧A1 a0∧A2 a0∧A3 a0) (k:∀ a0,A0 a0→A1 a0→A2 a0→A3 a0→P):P:=h.elim fun a0 h=>k a0 h.1 h.2.1 h.2.2.1 h.2.2.2
theorem yJ {α0:Sort _} {A0 A1 A2 A3 A4:α0→Prop} {P:Prop} (h:∃ a0,A0 a0∧A1 a0∧A2 a0∧A3 a0∧A4 a0) (k:∀ a0,A0 a0→A1 a0→A2 a0→A3 a0→A4 a0→P):P:=h.elim fun a0 h=>k a0 h.1 h.2.1 h.2.2.1 h.2.2.2.1 h.2.2.2.2
theorem y0 {α0:Sort _} {A0 A1 A2 A3 A4 A5:α0→Prop} {P:Prop} (h:∃ a0,A0 a0∧A1 a0∧A2 a0∧A3 a0∧A4 a0∧A5 a0) (k:∀ a0,A0 a0→A1 a0→A2 a0→A3 a0→A4 a0→A5 a0→P):P:=h.elim fun a0 h=>k a0 h.1 h.2.1 h.2.2.1 h.2.2.2.1 h.2.2.2.2.1 h.2.2.2.2.2
theorem yx {α0:Sort _} {α1:Sort _} {A0 A1 A2 A3 A4 A5:α0→α1→Prop} {P:Prop} (h:∃ a0 a1,A0 a0 a1∧A1 a0 a1∧A2 a0 a1∧A3 a0 a1∧A4 a0 a1∧A5 a0 a1) (k:∀ a0 a1,A0 a0 a1→A1 a0 a1→A2 a0 a1→A3 a0 a1→A4 a0 a1→A5 a0 a1→P):P:=h.elim fun a0 h=>h.elim fun a1 h=>k a0 a1 h.1 h.2.1 h.2.2.1 h.2.2.2.1 h.2.2.2.2.1 h.2.2.2.2.2
theorem qo {α0:Sort _} {α1:Sort _} {α2:Sort _} {A0 A1 A2 A3 A4 A5:α0→α1→α2→Prop} {P:Prop} (h:∃ a0 a1 a2,A0 a0 a1 a2∧A1 a0 a1 a2∧A2 a0 a1 a2∧A3 a0 a1 a2∧A4 a0 a1 a2∧A5 a0 a1 a2) (k:∀ a0 a1 a2,A0 a0 a1 a2→A1 a0 a1 a2→A2 a0 a1 a2→A3 a0 a1 a2→A4 a0 a1 a2→A5 a0 a1 a2→P):P:=h.elim fun a0 h=>h.elim fun a1 h=>h.elim fun a2 h=>k a0 a1 a2 h.1 h.2.1 h.2.2.1 h.2.2.2.1 h.2.2.2.2.1 h.2.2.2.2.2
theorem yY {α0:Sort _} {α1:Sort _} {α2:Sort _} {α3:Sort _} {A0:α0→α1→α2→α3→Prop} {P:Prop} (h:∃ a0 a1 a2 a3,A0 a0 a1 a2 a3) (k:∀ a0 a1 a2 a3,A0 a0 a1 a2 a3→P):P:=h.elim fun a0 h=>h.elim fun a1 h=>h.elim fun a2 h=>h.elim fun a3 h=>k a0 a1 a2 a3 h
theorem yw {α0:Sort _} {α1:Sort _} {α2:Sort _} {α3:Sort _} {A0 A1 A2 A3:α0→α1→α2→α3→Prop} {P:Prop} (h:∃ a0 a1 a2 a3,A0 a0 a1 a2 a3∧A1 a0 a1 a2 a3∧A2 a0 a1 a2 a3∧A3 a0 a1 a2 a3) (k:∀ a0 a1 a2 a3,A0 a0 a1 a2 a3→A1 a0 a1 a2 a3→A2 a0 a1 a2 a3→A3 a0 a1 a2 a3→P):P:=h.elim fun a0 h=>h.elim fun a1 h=>h.elim fun a2 h=>h.elim fun a3 h=>k a0 a1 a2 a3 h.1 h.2.1 h.2.2.1 h.2.2.2
theorem vx {α0:Sort _} {α1:Sort _} {α2:Sort _} {α3:Sort _} {A0 A1 A2 A3 A4:α0→α1→α2→α3→Prop} {P:Prop} (h:∃ a0 a1 a2 a3,A0 a0 a1 a2 a3∧A1 a0 a1 a2 a3∧A2 a0 a1 a2 a3∧A3 a0 a1 a2 a3∧A4 a0 a1 a2 a3) (k:∀ a0 a1 a2 a3,A0 a0 a1 a2 a3→A1 a0 a1 a2 a3→A2 a0 a1 a2 a3→A3 a0 a1 a2 a3→A4 a0 a1 a2 a3→P):P:=h.elim fun a0 h=>h.elim fun a1 h=>h.elim fun a2 h=>h.elim fun a3 h=>k a0 a1 a2 a3 h.1 h.2.1 h.2.2.1 h.2.2.2.1 h.2.2.2.2
theorem yX {α0:Sort _} {α1:Sort _} {α2:Sort _} {α3:Sort _} {A0 A1 A2 A3 A4 A5:α0→α1→α2→α3→Prop} {P:Prop} (h:∃ a0 a1 a2 a3,A0 a0 a1 a2 a3∧A1 a0 a1 a2 a3∧A2 a0 a1 a2 a3∧A3 a0 a1 a2 a3∧A4 a0 a1 a2 a3∧A5 a0 a1 a2 a3) (k:∀ a0 a1 a2 a3,A0 a0 a1 a2 a3→A1 a0 a1 a2 a3→A2 a0 a1 a2 a3→A3 a0 a1 a2 a3→A4 a0 a1 a2 a3→A5 a0 a1 a2 a3→P):P:=h.elim fun a0 h=>h.elim fun a1 h=>h.elim fun a2 h=>h.elim fun a3 h=>k a0 a1 a2 a3 h.1 h.2.1 h.2.2.1 h.2.2.2.1 h.2.2.2.2.1 h.2.2.2.2.2
theorem yW {α0:Sort _} {α1:Sort _} {α2:Sort _} {α3:Sort _} {α4:Sort _} {A0:α0→α1→α2→α3→α4→Prop} {P:Prop} (h:∃ a0 a1 a2 a3 a4,A0 a0 a1 a2 a3 a4) (k:∀ a0 a1 a2 a3 a4,A0 a0 a1 a2 a3 a4→P):P:=h.elim fun a0 h=>h.elim fun a1 h=>h.elim fun a2 h=>h.elim fun a3 h=>h.elim fun a4 h=>k a0 a1 a2 a3 a4 h
theorem yI {α0:Sort _} {α1:Sort _} {α2:Sort _} {α3:Sort _} {α4:Sort _} {A0 A1:α0→α1→α2→α3→α4→Prop} {P:Prop} (h:∃ a0 a1 a2 a3 a4,A0 a0 a1 a2 a3 a4∧A1 a0 a1 a2 a3 a4) (k:∀ a0 a1 a2 a3 a4,A0 a0 a1 a2 a3 a4→A1 a0 a1 a2 a3 a4→P):P:=h.elim fun a0 h=>h.elim fun a1 h=>h.elim fun a2 h=>h.elim fun a3 h=>h.elim fun a4 h=>k a0 a1 a2 a3 a4 h.1 h.2
theorem yV {α0:Sort _} {α1:Sort _} {α2:Sort _} {α3:Sort _} {α4:Sort _} {A0 A1 A2:α0→α1→α2→α3→α4→Prop} {P:Prop} (h:∃ a0 a1 a2 a3 a4,A0 a0 a1 a2 a3 a4∧A1 a0 a1 a2 a3 a4∧A2 a0 a1 a2 a3 a4) (k:∀ a0 a1 a2 a3 a4,A0 a0 a1 a2 a3 a4→A1 a0 a1 a2 a3 a4→A2 a0 a1 a2 a3 a4→P):P:=h.elim fun a0 h=>h.elim fun a1 h=>h.elim fun a2 h=>h.elim fun a3 h=>h.elim fun a4 h=>k a0 a1 a2 a3 a4 h.1 h.2.1 h.2.2
theorem yU {α0:Sort _} {α1:Sort _} {α2:Sort _} {α3:Sort _} {α4:Sort _} {A0 A1 A2 A3:α0→α1→α2→α3→α4→Prop} {P:Prop} (h:∃ a0 a1 a2 a3 a4,A0 a0 a1 a2 a3 a4∧A1 a0 a1 a2 a3 a4∧A2 a0 a1 a2 a3 a4∧A3 a0 a1 a2 a3 a4) (k:∀ a0 a1 a2 a3 a4,A0 a0 a1 a2 a3 a4→A1 a0 a1 a2 a3 a4→A2 a0 a1 a2 a3 a4→A3 a0 a1 a2 a3 a4→P):P:=h.elim fun a0 h=>h.elim fun a1 h=>h.elim fun a2 h=>h.elim fun a3 h=>h.elim fun a4 h=>k a0 a1 a2 a3 a4 h.1 h.2.1 h.2.2.1 h.2.2.2
theorem yT {α0:Sort _} {α1:Sort _} {α2:Sort _} {α3:Sort _} {α4:Sort _} {A0 A1 A2 A3 A4:α0→α1→α2→α3→α4→Prop} {P:Prop} (h:∃ a0 a1 a2 a3 a4,A0 a0 a1 a2 a3 a4∧A1 a0 a1 a2 a3 a4∧A2 a0 a1 a2 a3 a4∧A3 a0 a1 a2 a3 a4∧A4 a0 a1 a2 a3 a4) (k:∀ a0 a1 a2 a3 a4,A0 a0 a1 a2 a3 a4→A1 a0 a1 a2 a3 a4→A2 a0 a1 a2 a3 a4→A3 a0 a1 a2 a3 a4→A4 a0 a1 a2 a3 a4→P):P:=h.elim fun a0 h=>h.elim fun a1 h=>h.elim fun a2 h=>h.elim fun a3 h=>h.elim fun a4 h=>k a0 a1 a2 a3 a4 h.1 h.2.1 h.2.2.1 h.2.2.2.1 h.2.2.2.2
theorem yS {α0:Sort _} {α1:Sort _} {α2:Sort _} {α3:Sort _} {α4:Sort _} {A0 A1 A2 A3 A4 A5:α0→α1→α2→α3→α4→Prop} {P:Prop} (h:∃ a0 a1 a2 a3 a4,A0 a0 a1 a2 a3 a4∧A1 a0 a1 a2 a3 a4∧A2 a0 a1 a2 a3 a4∧A3 a0 a1 a2 a3 a4∧A4 a0 a1 a2 a3 a4∧A5 a0 a1 a2 a3 a4) (k:∀ a0 a1 a2 a3 a4,A0 a0 a1 a2 a3 a4→A1 a0 a1 a2 a3 a4→A2 a0 a1 a2 a3 a4→A3 a0 a1 a2 a3 a4→A4 a0 a1 a2 a3 a4→A5 a0 a1 a2 a3 a4→P):P:=h.elim fun a0 h=>h.elim fun a1 h=>h.elim fun a2 h=>h.elim fun a3 h=>h.elim fun a4 h=>k a0 a1 a2 a3 a4 h.1 h.2.1 h.2.2.1 h.2.2.2.1 h.2.2.2.2.1 h.2.2.2.2.2
theorem yR {α0:Sort _} {α1:Sort _} {α2:Sort _} {α3:Sort _} {α4:Sort _} {A0 A1 A2 A3 A4 A5 A6:α0→α1→α2→α3→α4→Prop} {P:Prop} (h:∃ a0 a1 a2 a3 a4,A0 a0 a1 a2 a3 a4∧A1 a0 a1 a2 a3 a4∧A2 a0 a1 a2 a3 a4∧A3 a0 a1 a2 a3 a4∧A4 a0 a1 a2 a3 a4∧A5 a0 a1 a2 a3 a4∧A6 a0 a1 a2 a3 a4) (k:∀ a0 a1 a2 a3 a4,A0 a0 a1 a2 a3 a4→A1 a0 a1 a2 a3 a4→A2 a0 a1 a2 a3 a4→A3 a0 a1 a2 a3 a4→A4 a0 a1 a2 a3 a4→A5 a0 a1 a2 a3 a4→A6 a0 a1 a2 a3 a4→P):P:=h.elim fun a0 h=>h.elim fun a1 h=>h.elim fun a2 h=>h.elim fun a3 h=>h.elim fun a4 h=>k a0 a1 a2 a3 a4 h.1 h.2.1 h.2.2.1 h.2.2.2.1 h.2.2.2.2.1 h.2.2.2.2.2.1 h.2.2.2.2.2.2
theorem yQ {α0:Sort _} {α1:Sort _} {α2:Sort _} {α3:Sort _} {α4:Sort _} {A0 A1 A2 A3 A4 A5 A6 A7:α0→α1→α2→α3→α4→Prop} {P:Prop} (h:∃ a0 a1 a2 a3 a4,A0 a0 a1 a2 a3 a4∧A1 a0 a1 a2 a3 a4∧A2 a0 a1 a2 a3 a4∧A3 a0 a1 a2 a3 a4∧A4 a0 a1 a2 a3 a4∧A5 a0 a1 a2 a3 a4∧A6 a0 a1 a2 a3 a4∧A7 a0 a1 a2 a3 a4) (k:∀ a0 a1 a2 a3 a4,A0 a0 a1 a2 a3 a4→A1 a0 a1 a2 a3 a4→A2 a0 a1 a2 a3 a4→A3 a0 a1 a2 a3 a4→A4 a0 a1 a2 a3 a4→A5 a0 a1 a2 a3 a4→A6 a0 a1 a2 a3 a4→A7 a0 a1 a2 a3 a4→P):P:=h.elim fun a0 h=>h.elim fun a1 h=>h.elim fun a2 h=>h.elim fun a3 h=>h.elim fun a4 h=>k a0 a1 a2 a3 a4 h.1 h.2.1 h.2.2.1 h.2.2.2.1 h.2.2.2.2.1 h.2.2.2.2.2.1 h.2.2.2.2.2.2.1 h.2.2.2.2.2.2.2
theorem yH {α0:Sort _} {α1:Sort _} {α2:Sort _} {α3:Sort _} {α4:Sort _} {α5:Sort _} {A0 A1 A2:α0→α1→α2→α3→α4→α5→Prop} {P:Prop} (h:∃ a0 a1 a2 a3 a4 a5,A0 a0 a1 a2 a3 a4 a5∧A1 a0 a1 a2 a3 a4 a5∧A2 a0 a1 a2 a3 a4 a5) (k:∀ a0 a1 a2 a3 a4 a5,A0 a0 a1 a2 a3 a4 a5→A1 a0 a1 a2 a3 a4 a5→A2 a0 a1 a2 a3 a4 a5→P):P:=h.elim fun a0 h=>h.elim fun a1 h=>h.elim fun a2 h=>h.elim fun a3 h=>h.elim fun a4 h=>h.elim fun a5 h=>k a0 a1 a2 a3 a4 a5 h.1 h.2.1 h.2.2
theorem yP {α0:Sort _} {α1:Sort _} {α2:Sort _} {α3:Sort _} {α4:Sort _} {α5:Sort _} {A0 A1 A2 A3:α0→α1→α2→α3→α4→α5→Prop} {P:Prop} (h:∃ a0 a1 a2 a3 a4 a5,A0 a0 a1 a2 a3 a4 a5∧A1 a0 a1 a2 a3 a4 a5∧A2 a0 a1 a2 a3 a4 a5∧A3 a0 a1 a2 a3 a4 a5) (k:∀ a0 a1 a2 a3 a4 a5,A0 a0 a1 a2 a3 a4 a5→A1 a0 a1 a2 a3 a4 a5→A2 a0 a1 a2 a3 a4 a5→A3 a0 a1 a2 a3 a4 a5→P):P:=h.elim fun a0 h=>h.elim fun a1 h=>h.elim fun a2 h=>h.elim fun a3 h=>h.elim fun a4 h=>h.elim fun a5 h=>k a0 a1 a2 a3 a4 a5 h.1 h.2.1 h.2.2.1 h.2.2.2
theorem qn {α0:Sort _} {α1:Sort _} {α2:Sort _} {α3:Sort _} {α4:Sort _} {α5:Sort _} {A0 A1 A2 A3 A4:α0→α1→α2→α3→α4→α5→Prop} {P:Prop} (h:∃ a0 a1 a2 a3 a4 a5,A0 a0 a1 a2 a3 a4 a5∧A1 a0 a1 a2 a3 a4 a5∧A2 a0 a1 a2 a3 a4 a5∧A3 a0 a1 a2 a3 a4 a5∧A4 a0 a1 a2 a3 a4 a5) (k:∀ a0 a1 a2 a3 a4 a5,A0 a0 a1 a2 a3 a4 a5→A1 a0 a1 a2 a3 a4 a5→A2 a0 a1 a2 a3 a4 a5→A3 a0 a1 a2 a3 a4 a5→A4 a0 a1 a2 a3 a4 a5→P):P:=h.elim fun a0 h=>h.elim fun a1 h=>h.elim fun a2 h=>h.elim fun a3 h=>h.elim fun a4 h=>h.elim fun a5 h=>k a0 a1 a2 a3 a4 a5 h.1 h.2.1 h.2.2.1 h.2.2.2.1 h.2.2.2.2
theorem yO {α0:Sort _} {α1:Sort _} {α2:Sort _} {α3:Sort _} {α4:Sort _} {α5:Sort _} {A0 A1 A2 A3 A4 A5:α0→α1→α2→α3→α4→α5→Prop} {P:Prop} (h:∃ a0 a1 a2 a3 a4 a5,A0 a0 a1 a2 a3 a4 a5∧A1 a0 a1 a2 a3 a4 a5∧A2 a0 a1 a2 a3 a4 a5∧A3 a0 a1 a2 a3 a4 a5∧A4 a0 a1 a2 a3 a4 a5∧A5 a0 a1 a2 a3 a4 a5) (k:∀ a0 a1 a2 a3 a4 a5,A0 a0 a1 a2 a3 a4 a5→A1 a0 a1 a2 a3 a4 a5→A2 a0 a1 a2 a3 a4 a5→A3 a0 a1 a2 a3 a4 a5→A4 a0 a1 a2 a3 a4 a5→A5 a0 a1 a2 a3 a4 a5→P):P:=h.elim fun a0 h=>h.elim fun a1 h=>h.elim fun a2 h=>h.elim fun a3 h=>h.elim fun a4 h=>h.elim fun a5 h=>k a0 a1 a2 a3 a4 a5 h.1 h.2.1 h.2.2.1 h.2.2.2.1 h.2.2.2.2.1 h.2.2.2.2.2
theorem t5 {α β:Sort _} {A B:α→Prop} {D:α→β→Prop} {P:Prop} (h:∃ a,A a∧B a∧∃ b,D a b) (k:∀ a,A a→B a→∀ b,D a b→P):P:=h.elim fun a h=>h.2.2.elim fun b d=>k a h.1 h.2.1 b d
theorem c5 {α β:Sort _} {A:Prop} {B D:α→β→Prop} {P:Prop} (h:A∧∃ a b,B a b∧D a b) (k:A→∀ a b,B a b→D a b→P):P:=h.2.elim fun a q=>q.elim fun b q=>k h.1 a b q.1 q.2
theorem de {α β:Type} {a c:α} {b d:β} (h:some (a,b)=some (c,d)) {P:α→β→Prop} (k:P a b):P c d:=(dS h).1▸(dS h).2▸k
theorem someE {α:Type} {a c:α} (h:some a=some c) {P:α→Prop} (k:P a):P c:=Option.some.inj h▸k
theorem dw {α β:Type} {a c:α} {b d:β} (h:(a,b)=(c,d)) {P:α→β→Prop} (k:P a b):P c d:=(qO h).1▸(qO h).2▸k
theorem j2 {α β γ:Type} {a c:α} {b d:β} {e f:γ} (h:some (a,b,e)=some (c,d,f)) {P:α→β→γ→Prop} (k:P a b e):P c d f:=(qK h).1▸(qK h).2.1▸(qK h).2.2▸k
theorem vZ {α β γ:Type} {a c:α} {b d:β} {e f:γ} (h:(a,b,e)=(c,d,f)) {P:α→β→γ→Prop} (k:P a b e):P c d f:=(nS h).1▸(nS h).2.1▸(nS h).2.2▸k
def syn (c:Array Lean.Syntax) (s:String):Lean.Syntax :=
 let d:="a Lean.Parser.Tactic.tacticRfl b null c Lean.Parser.Tactic.tacticSeq1Indented d Lean.Parser.Tactic.tacticSeq e group f Lean.Parser.Tactic.assumption g Lean.Parser.Tactic.withReducible h Lean.Parser.Tactic.apply i Lean.Parser.Tactic.first j Lean.Parser.Tactic.paren k Lean.Parser.Tactic.optConfig l Lean.Parser.Tactic.lia m Lean.Parser.Tactic.exact n Lean.Parser.Tactic.focus o hygieneInfo p Lean.Parser.Term.hygienicLParen q Lean.Parser.Term.byTactic r Lean.Parser.Term.paren s Lean.Parser.Term.app t str u PyProof.Rows.tacticWalk_at_ v Lean.Parser.Term.hole w Lean.Parser.Term.prop x Lean.Parser.Term.typeAscription y Lean.Parser.Tactic.show z Lean.Parser.Command.declModifiers A Lean.Parser.Command.declId B Lean.Parser.Term.typeSpec C Lean.Parser.Command.declSig D Lean.Parser.Term.anonymousCtor E Lean.Parser.Termination.suffix F Lean.Parser.Command.declValSimple G Lean.Parser.Command.theorem H Lean.Parser.Command.declaration I term_∧_ J Lean.Parser.Term.basicFun K Lean.Parser.Term.fun L fieldIdx M Lean.Parser.Term.proj N Lean.Parser.Tactic.refine".splitOn " "
 let k (r:String):Lean.Name:=((d.dropWhile (·!=r)).getD 1 "").toName
 (((s.replace " !" " 1b 1c 1d").splitOn " ").foldl (fun (a:Array Lean.Syntax) t =>
  let r:=(t.drop 1).toString
  let x:=t.front.toNat
  if x=39 then a.push (Lean.mkIdent r.toName) else if x=34 then a.push (Lean.mkAtom r) else if x=35 then a.push (c.getD 0 .missing) else
  let n:=a.size - (x - 48)
  (a.extract 0 n).push (Lean.mkNode (k r) (a.extract n a.size))) #[]).back?.getD .missing
end Mini.Internal
end
section
set_option autoImplicit false
namespace Mini.Internal
open PySem PySem.Calls PyProof.Rows
open PySem.W (Frag dictOf)
noncomputable def v7:Bop→Operator
 | .add=>.Add | .sub=>.Sub | .mul=>.Mult | .fdiv=>.FloorDiv | .mod=>.Mod | .shl=>.LShift | .shr=>.RShift | .band=>.BitAnd | .bor=>.BitOr | .bxor=>.BitXor
noncomputable def hO:Cop→CmpOp
 | .eq=>.Eq | .ne=>.NotEq | .lt=>.Lt | .le=>.LtE | .gt=>.Gt | .ge=>.GtE | .isin=>.In | .notin=>.NotIn | .is=>.Is | .isnot=>.IsNot
noncomputable def kU:Bi→Str
 | .len=>"len" | .sum=>"sum" | .min=>"min" | .max=>"max" | .int=>"int" | .list=>"list" | .tuple=>"tuple" | .isTuple=>"isinstance"
noncomputable def sC (sc:Scope) (x:Str):Bool:=sc.names.lookup x==some .local||sc.names.lookup x==some .cell
noncomputable def sees (sc:Scope) (x:Str):Bool:=sc.names.lookup x==some .local||(sc.names.lookup x==some .cell||sc.names.lookup x==some .free)
noncomputable def kB (sc:Scope) (x:Str):Bool:=sc.names.lookup x==some .globalImplicit
noncomputable def ke (x:Str):Bool:=!(x==("__debug__" : Str))&&!(x==("__classdict__" : Str))
noncomputable def yq:Bi→Bool
 | .isTuple=>true
 | _=>false
structure Pt where
 k:Nat
 a:Expr:=default
 b:Expr:=default
 c:Expr:=default
 l:List Expr:=[]
 ol:List (Option Expr):=[]
 o1:Option Expr:=Option.none
 o2:Option Expr:=Option.none
 s:Str:=""
 op:Operator:=.Add
 os:List CmpOp:=[]
 gs:List Comprehension:=[]
 sc:Scope:=default
 n:Nat:=0
 i:Int:=0
 bl:Bool:=false
 p:Pos:=default
noncomputable def pt (x:Expr):Pt:=match x with
 | .UnaryOp .Not a p=>{ k:=0,a,p }
 | .BoolOp .And l p=>{ k:=1,l,p }
 | .BoolOp .Or l p=>{ k:=2,l,p }
 | .IfExp a b c p=>{ k:=3,a,b,c,p }
 | .Compare a os l p=>{ k:=4,a,os,l,p }
 | .UnaryOp .USub a p=>{ k:=5,a,p }
 | .BinOp a op b p=>{ k:=6,a,op,b,p }
 | .Dict ol l p=>{ k:=7,ol,l,p }
 | .List l p=>{ k:=8,l,p }
 | .Tuple l n p=>{ k:=9,l,n,p }
 | .ListComp a gs sc p=>{ k:=10,a,gs,sc,p }
 | .Call a l [] p=>{ k:=11,a,l,p }
 | .Attribute a s p=>{ k:=12,a,s,p }
 | .Subscript a b p=>{ k:=13,a,b,p }
 | .JoinedStr l p=>{ k:=14,l,p }
 | .Name s p=>{ k:=15,s,p }
 | .Constant .none n p=>{ k:=16,n,p }
 | .Constant (.bool bl) n p=>{ k:=17,bl,n,p }
 | .Constant (.int i) n p=>{ k:=18,i,n,p }
 | .Constant (.str s) n p=>{ k:=19,s,n,p }
 | .Slice o1 o2 Option.none p=>{ k:=30,o1,o2,p }
 | .FormattedValue a i Option.none p=>{ k:=31,a,i,p }
 | .SetComp _ _ _ _=>{ k:=41,a:=x }
 | .DictComp _ _ _ _ _=>{ k:=41,a:=x }
 | x=>{ k:=50,a:=x }
noncomputable def bks:List (Pt→Expr):=[fun q=>.UnaryOp .Not q.a q.p,fun q=>.BoolOp .And q.l q.p,fun q=>.BoolOp .Or q.l q.p,fun q=>.IfExp q.a q.b q.c q.p,fun q=>.Compare q.a q.os q.l q.p,fun q=>.UnaryOp .USub q.a q.p,fun q=>.BinOp q.a q.op q.b q.p,
 fun q=>.Dict q.ol q.l q.p,fun q=>.List q.l q.p,fun q=>.Tuple q.l q.n q.p,fun q=>.ListComp q.a q.gs q.sc q.p,fun q=>.Call q.a q.l [] q.p,fun q=>.Attribute q.a q.s q.p,fun q=>.Subscript q.a q.b q.p,fun q=>.JoinedStr q.l q.p,fun q=>.Name q.s q.p,
 fun q=>.Constant .none q.n q.p,fun q=>.Constant (.bool q.bl) q.n q.p,fun q=>.Constant (.int q.i) q.n q.p,fun q=>.Constant (.str q.s) q.n q.p,(·.a),(·.a),(·.a),(·.a),(·.a),(·.a),(·.a),(·.a),(·.a),(·.a),fun q=>.Slice q.o1 q.o2 Option.none q.p,fun q=>.FormattedValue q.a q.i Option.none q.p]
noncomputable def bk (k:Nat):Pt→Expr:=bks.getD k (·.a)
theorem ym (x:Expr):x=bk (pt x).k (pt x):=by
 cases x with
 | UnaryOp op a p=>cases op<;>rfl
 | BoolOp op l p=>cases op<;>rfl
 | Call a l ks p=>induction ks using List.casesOn<;>rfl
 | Constant c n p=>cases c<;>rfl
 | Slice o1 o2 o3 p=>induction o3 using Option.casesOn<;>rfl
 | FormattedValue a i o p=>induction o using Option.casesOn<;>rfl
 | _=>rfl
theorem bp {x:Expr} {k:Nat} (h:Nat.beq (pt x).k k=true):x=bk k (pt x):=Nat.eq_of_beq_eq_true h▸ym x
theorem aj {a b:Bool} (h:(a&&b)=true):a=true:=by induction a using Bool.casesOn;exact ff h;rfl
theorem aq {a b:Bool} (h:(a&&b)=true):b=true:=by induction a using Bool.casesOn;exact ff h;exact h
theorem cB {a b:Bool} (h:(a&&b)=true):a=true∧b=true:=⟨aj h,aq h⟩
theorem fY {a b c:Bool} (h:(a&&b&&c)=true):a=true∧b=true∧c=true:=⟨aj (aj h),aq (aj h),aq h⟩
theorem fX {a b c d:Bool} (h:(a&&b&&c&&d)=true):a=true∧b=true∧c=true∧d=true:=⟨aj (aj (aj h)),aq (aj (aj h)),aq (aj h),aq h⟩
noncomputable def bu (sc:Scope) (g:Str) (x:Expr):Bool:=Nat.beq (pt x).k 15&&((pt x).s==g&&kB sc (pt x).s&&ke (pt x).s)
noncomputable def gU (x:Expr):Bool:=!(Nat.beq (pt x).k 11)
noncomputable def isVar (sc:Scope) (i:Nat) (ok:Scope→Str→Bool) (x:Expr):Bool:=Nat.beq (pt x).k 15&&(nm i==(pt x).s&&ok sc (pt x).s&&ke (pt x).s)
section
variable (me:Scope→E→Expr→Bool)
noncomputable def b5 (sc:Scope):List E→List Expr→Bool
 | [],[]=>true
 | e :: es,x :: xs=>me sc e x&&b5 sc es xs
 | _,_=>false
noncomputable def uj (sc:Scope):Option E→Option Expr→Bool
 | Option.none,Option.none=>true
 | some e,some x=>me sc e x
 | _,_=>false
noncomputable def qj (sc:Scope) (e:E) (x:Expr):Bool:=match e.range? with
 | some l=>Nat.beq (pt x).k 11&&(bu sc "range" (pt x).a&&b5 me sc l (pt x).l)
 | Option.none=>me sc e x
noncomputable def qI (l:List Expr):Option Expr:=match l with | [.Starred z _]=>some z | _=>Option.none
noncomputable def oo (sc:Scope) (e:E) (x:Expr):Bool:=match e.iter? with
 | some (.zip l)=>Nat.beq (pt x).k 11&&(bu sc "zip" (pt x).a&&b5 me sc l (pt x).l)
 | some (.zips e)=>Nat.beq (pt x).k 11&&(bu sc "zip" (pt x).a&&(qI (pt x).l).any (me sc e))
 | some (.enum e)=>Nat.beq (pt x).k 11&&(bu sc "enumerate" (pt x).a&&b5 me sc [e] (pt x).l)
 | Option.none=>qj me sc e x
noncomputable def wc (sc:Scope):List Nat→List Expr→Bool
 | [],[]=>true
 | i :: ts,x :: xs=>isVar sc i sC x&&wc sc ts xs
 | _,_=>false
noncomputable def mtB (sc:Scope) (t:T) (x:Expr):Bool:=match t with
 | .var i=>isVar sc i sC x
 | .tup l=>Nat.beq (pt x).k 9&&wc sc l (pt x).l
 | .attr _ _=>false
 | .sub _ _=>false
noncomputable def vz (sc:Scope):List G→List Comprehension→Bool
 | [],[]=>true
 | .mk t it ifs :: gs,c :: cs=>mtB sc t c.target&&qj me sc it c.iter&&b5 me sc ifs c.ifs&&c.is_async==0&&vz sc gs cs
 | _,_=>false
noncomputable def wa (out sc:Scope):List G→List Comprehension→Bool
 | .mk t it ifs :: gs,c :: cs=>mtB sc t c.target&&oo me out it c.iter&&b5 me sc ifs c.ifs&&c.is_async==0&&vz me sc gs cs
 | _,_=>false
end
noncomputable def xM (out sc:Scope) (tg:List Nat):Bool:=sc.kind==.function&&sc.names.all fun p =>
 match p.2 with
 | .local=>sc.names.lookup p.1==some .local&&(p.1==nm bK||tg.any fun i=>nm i==p.1)
 | .cell=>false
 | .free=>sc.names.lookup p.1==some .free&&(match out.names.lookup p.1 with | some .cell | some .free=>true | _=>false)
 | .globalImplicit=>true
 | .globalExplicit=>false
noncomputable def ek:E→Nat
 | .not _=>0 | .and _=>1 | .or _=>2 | .ite _ _ _=>3 | .cmp _ _ _=>4
 | .neg _=>5 | .bin _ _ _=>6 | .dict _=>7 | .list _ _=>8 | .tup _=>9 | .comp _ _=>10
 | .call _ _=>11 | .new _ _=>11 | .meth _ _ _=>11 | .bi _ _=>11 | .sortz _ _=>11 | .dictOf _ _=>11
 | .attr _ _=>12 | .sub _ _=>13 | .slice _ _ _=>13 | .fmt _ _ _=>14
 | .var _=>15 | .cst _=>15 | .freeze _=>15
 | .none=>16 | .bool _=>17 | .num _=>18 | .str _=>19
 | .range _=>20 | .sup _ _=>20 | .zip _=>20 | .zips _=>20 | .enum _=>20
theorem xf (e:E):Nat.ble (ek e) 20=true:=by cases e<;>rfl
noncomputable def uno (l:List Expr):Option Expr:=match l with | [x]=>some x | _=>Option.none
theorem jQ {l:List Expr} {p:Expr→Bool} (h:(uno l).any p=true):∃ x,l=[x]∧p x=true:=by
 induction l using List.casesOn with
 | nil=>exact ff h
 | cons x l=>induction l using List.casesOn with
  | nil=>exact ⟨x,rfl,h⟩
  | cons _ _=>exact ff h
noncomputable def mtP (me:Scope→E→Expr→Bool) (sc:Scope) (e:E) (x:Expr) (q:Pt):Bool:=match e with
 | .none=>true
 | .bool b=>b==q.bl
 | .num i=>i==q.i
 | .str s=>nm s==q.s
 | .var i=>isVar sc i sees x
 | .cst i=>isVar sc i kB x
 | .and l=>b5 me sc l q.l
 | .or l=>b5 me sc l q.l
 | .not a=>me sc a q.a
 | .neg a=>me sc a q.a
 | .bin op a b=>q.op==v7 op&&me sc a q.a&&me sc b q.b
 | .ite c a b=>me sc c q.a&&me sc a q.b&&me sc b q.c
 | .dict _=>q.ol.isEmpty&&q.l.isEmpty
 | .list _ l=>b5 me sc l q.l
 | .tup l=>b5 me sc l q.l
 | .comp elt gs=>xM sc q.sc (aN gs)&&bY (aN gs)&&me q.sc elt q.a&&wa me sc q.sc gs q.gs
 | .cmp a ops l=>me sc a q.a&&q.os==ops.map hO&&b5 me sc l q.l&&Nat.beq ops.length l.length
 | .call g args=>bu sc (nm g) q.a&&b5 me sc args q.l&&Nat.ble args.length 20
 | .new c args=>bu sc (nm c) q.a&&b5 me sc args q.l&&Nat.ble args.length 20
 | .meth o m args=>Nat.beq (pt q.a).k 12&&(me sc o (pt q.a).a&&(pt q.a).s==nm m&&!(Nat.beq m eo)&&gU (pt q.a).a&&(pt q.a).p.endLine==q.p.line&&b5 me sc args q.l&&Nat.ble args.length 20)
 | .bi b args=>bu sc (kU b) q.a&&(bif yq b then (match args,q.l with | [a],[z,t]=>me sc a z&&bu sc "tuple" t | _,_=>false) else b5 me sc args q.l&&Nat.ble args.length 20)
 | .sortz a b=>bu sc "sorted" q.a&&(uno q.l).any fun c=>Nat.beq (pt c).k 11&&(bu sc "zip" (pt c).a&&b5 me sc [a,b] (pt c).l)
 | .dictOf elt gs=>bu sc "dict" q.a&&(uno q.l).any (me sc (.comp elt gs))
 | .attr o a=>me sc o q.a&&q.s==nm a&&gU q.a
 | .sub o i=>me sc o q.a&&me sc i q.b
 | .slice o lo hi=>Nat.beq (pt q.b).k 30&&(me sc o q.a&&uj me sc lo (pt q.b).o1&&uj me sc hi (pt q.b).o2)
 | .fmt pre e post=>(match q.l with | [u,v,w]=>Nat.beq (pt u).k 19&&(Nat.beq (pt v).k 31&&(Nat.beq (pt w).k 19&&((pt v).i==-1&&((pt u).s==nm pre&&(pt w).s==nm post&&Nat.ble (nmL pre).length 100&&Nat.ble (nmL post).length 100&&me sc e (pt v).a)))) | _=>false)
 | .sup _ _=>false
 | .freeze e=>me sc e x
 | .range _=>false
 | .zip _=>false
 | .zips _=>false
 | .enum _=>false
noncomputable def mtE:Nat→Scope→E→Expr→Bool
 | 0,_,_,_=>false
 | f + 1,sc,e,x=>Nat.beq (pt x).k (ek e)&&mtP (mtE f) sc e x (pt x)
section
variable {f:Nat} {sc:Scope} {e:E} {x:Expr}
theorem mt0 {P:Prop} (h:mtE 0 sc e x=true):P:=by exact ff h
theorem xW:∀ {f:Nat},mtE f sc e x=true→(pt x).k=ek e
 | 0,h=>mt0 h
 | _ + 1,h=>Nat.eq_of_beq_eq_true (aj h)
theorem v9 (h:mtE (f + 1) sc e x=true):mtP (mtE f) sc e x (pt x)=true:=aq h
theorem aQ (h:mtE (f + 1) sc e x=true):x=bk (ek e) (pt x)∧mtP (mtE f) sc e x (pt x)=true:=⟨bp (aj h),aq h⟩
end
noncomputable def mtT (f:Nat) (sc:Scope) (t:T) (x:Expr):Bool:=match t with
 | .var i=>isVar sc i sC x
 | .attr o a=>Nat.beq (pt x).k 12&&(mtE f sc o (pt x).a&&(pt x).s==nm a)
 | .sub o i=>Nat.beq (pt x).k 13&&(mtE f sc o (pt x).a&&mtE f sc i (pt x).b)
 | .tup l=>mtB sc (.tup l) x
noncomputable def x6:Expr→Bool
 | .List _ _=>true
 | _=>false
noncomputable def eK (t:Expr) (v:Expr):Bool:=bif Nat.beq (pt v).k 9 then (bif Nat.beq (pt t).k 9 then !((pt v).l.all (constantsAlone 8)) else !(x6 t)) else true
noncomputable def isCall (x:Expr):Bool:=Nat.beq (pt x).k 11
structure Sp where
 k:Nat
 a:Expr:=default
 b:Expr:=default
 o:Option Expr:=Option.none
 o2:Option Expr:=Option.none
 l:List Stmt:=[]
 l2:List Stmt:=[]
 x:Stmt:=default
 p:Pos:=default
noncomputable def sp (x:Stmt):Sp:=match x with
 | .Expr a p=>{ k:=0,a,p }
 | .Return o p=>{ k:=1,o,p }
 | .Assign [a] b p=>{ k:=2,a,b,p }
 | .If a l l2 p=>{ k:=3,a,l,l2,p }
 | .While a l [] p=>{ k:=4,a,l,p }
 | .For a b l [] p=>{ k:=5,a,b,l,p }
 | .Continue p=>{ k:=6,p }
 | .Raise o o2 p=>{ k:=7,o,o2,p }
 | x=>{ k:=50,x }
noncomputable def y5:List (Sp→Stmt):=[fun q=>.Expr q.a q.p,fun q=>.Return q.o q.p,fun q=>.Assign [q.a] q.b q.p,fun q=>.If q.a q.l q.l2 q.p,fun q=>.While q.a q.l [] q.p,fun q=>.For q.a q.b q.l [] q.p,fun q=>.Continue q.p,fun q=>.Raise q.o q.o2 q.p]
noncomputable def sbk (k:Nat):Sp→Stmt:=y5.getD k (·.x)
theorem sA (x:Stmt):x=sbk (sp x).k (sp x):=by
 cases x with
 | Assign l b p =>
  induction l using List.casesOn with
  | nil=>rfl
  | cons a l=>induction l using List.casesOn<;>rfl
 | While a l l2 p=>induction l2 using List.casesOn<;>rfl
 | For a b l l2 p=>induction l2 using List.casesOn<;>rfl
 | _=>rfl
noncomputable def sk:S→Nat
 | .expr _=>0 | .ret _=>1 | .asg _ _=>2 | .ifs _ _ _=>3 | .whl _ _=>4 | .fr _ _ _=>5 | .cont=>6 | .rais=>7
noncomputable def isNone:E→Bool
 | .none=>true
 | _=>false
noncomputable def yC (f:Nat) (go:List S→List Stmt→Bool) (sc:Scope) (s:S) (q:Sp):Bool:=match s with
 | .expr e=>isCall q.a&&mtE f sc e q.a
 | .ret e=>(match q.o with
  | some y=>mtE f sc e y
  | Option.none=>isNone e)
 | .asg t e=>mtT f sc t q.a&&mtE f sc e q.b&&eK q.a q.b&&bY (mW t)
 | .ifs c a b=>mtE f sc c q.a&&go a q.l&&go b q.l2
 | .whl c b=>mtE f sc c q.a&&go b q.l
 | .fr t e b=>mtB sc t q.a&&qj (mtE f) sc e q.b&&go b q.l
 | .cont=>true
 | .rais=>true
noncomputable def om (ms:S→Stmt→Bool):List S→List Stmt→Bool
 | [],[]=>true
 | s :: ss,x :: xs=>ms s x&&om ms ss xs
 | _,_=>false
noncomputable def mtS:Nat→Scope→S→Stmt→Bool
 | 0,_,_,_=>false
 | f + 1,sc,s,x=>Nat.beq (sp x).k (sk s)&&yC f (om (mtS f sc)) sc s (sp x)
theorem xX {f:Nat} {sc:Scope} {s:S} {x:Stmt} (h:mtS (f + 1) sc s x=true):x=sbk (sk s) (sp x)∧yC f (om (mtS f sc)) sc s (sp x)=true:=⟨by rw [← Nat.eq_of_beq_eq_true (aj h)];exact sA x,aq h⟩
end Mini.Internal
end
section
set_option autoImplicit false
namespace Mini.Internal
open PySem PySem.Calls PyProof.Rows
open PySem.W (Frag dictOf Looks findIn typeIn keepIn makesIn plainGet hasDictIn plainOver getL nsIn codeIn clsIn alongIn mroIn)
noncomputable def cg:List Str:=["len","sum","min","max","abs","int","list","tuple","dict","isinstance","range","zip","enumerate","sorted","super"]
noncomputable def i5 (v:Value):Option Addr:=match v with | .ref a=>some a | _=>Option.none
noncomputable def tv (v:Value):Option (Str×Tok):=match v with | .str a t=>some (a,t) | _=>Option.none
noncomputable def vJ (v:Value):Option (Int×Tok):=match v with | .int a t=>some (a,t) | _=>Option.none
noncomputable def sq (v:Value):Option Bool:=match v with | .bool a=>some a | _=>Option.none
noncomputable def g5 (v:Value):Bool:=match v with | .none=>true | _=>false
structure Dt where
 fn:Option FuncData:=Option.none
 seq:Option (Array Value×Nat):=Option.none
 flds:Option (Array Value):=Option.none
 cell:Option (Option Value):=Option.none
noncomputable def dt (d:Data):Dt:=match d with
 | .func d=>{ fn:=some d }
 | .seq xs n=>{ seq:=some (xs,n) }
 | .fields xs=>{ flds:=some xs }
 | .cell v=>{ cell:=some v }
 | _=>{}
noncomputable def at? (K:Frag) {α:Type} (a:Addr) (g:Dt→Option α):Option α:=(K.lookup a).bind fun o=>g (dt o.data)
mutual
noncomputable def kQ (K:Frag):Nat→V→Value→Bool
 | _,.none,x=>g5 x
 | _,.bool b,x=>(sq x).any fun c=>b==c
 | _,.int i,x=>(vJ x).any fun t=>i==t.1
 | _,.str s,x=>(tv x).any fun t=>nm s==t.1
 | 0,.tup _,_=>false
 | f + 1,.tup l,x=>(i5 x).any fun a=>(K.lookup a).any fun o=>o.cls==.type "tuple"&&(dt o.data).seq.any fun q=>jG K f l q.1.toList
 | _,.lst _,_=>false
 | _,.ref _,_=>false
noncomputable def jG (K:Frag):Nat→List V→List Value→Bool
 | _,[],xs=>xs.isEmpty
 | f,v :: vs,xs=>xs.head?.any (fun x=>kQ K f v x)&&jG K f vs xs.tail
end
noncomputable def jo (k:Option NameKind):Bool:=k==some .local||k==some .cell
noncomputable def gO (p:Arguments):Bool:=p.posonlyargs.isEmpty&&p.vararg.isNone&&p.kwonlyargs.isEmpty&&(p.kw_defaults.isEmpty&&p.kwarg.isNone&&p.defaults.isEmpty)
noncomputable def vk (b:FuncBody):Option (List Stmt):=match b with | .stmts l=>some l | .expr _=>Option.none
noncomputable def yi (K:Frag) (d:FuncData) (f:FDef):Bool :=
 (gO d.params&&d.params.args.map (·.arg)==f.params.map nm&&bY f.params&&g5 d.defaults)&&(d.globals==mainGlobals&&d.builtins==builtinsNs&&d.scope.kind==.function&&!d.scope.isGenerator) &&
 (!d.scope.isCoroutine&&codeIn K d.code d.qualname&&f.params.all (fun i=>jo (d.scope.names.lookup (nm i)))&&d.closure.isEmpty)&&(d.scope.names.all (fun p=>!(p.2==.free))&&(vk d.body).any fun st=>om (mtS 60 d.scope) f.body st)
noncomputable def pJ (K:Frag) (a:Addr) (f:FDef):Bool:=keepIn K (.ref a)&&(at? K a (·.fn)).any fun d=>yi K d f
noncomputable def xI {α:Type} (l:List α):Option α:=match l with | [x]=>some x | _=>Option.none
noncomputable def yh {α:Type} (l:List α):Option (α×List α):=match l with | x :: r=>some (x,r) | _=>Option.none
noncomputable def S.sup? (s:S):Option (Nat×Nat):=match s with | .expr (.sup c m)=>some (c,m) | _=>Option.none
noncomputable def m6 (m:Nat) (x:Stmt):Bool:=Nat.beq (sp x).k 0&&(Nat.beq (pt (sp x).a).k 11&&((pt (sp x).a).l.isEmpty&&(Nat.beq (pt (pt (sp x).a).a).k 12&&((pt (pt (sp x).a).a).s==nm m&&((pt (pt (sp x).a).a).p.endLine==(pt (sp x).a).p.line&&(Nat.beq (pt (pt (pt (sp x).a).a).a).k 11 &&
 ((pt (pt (pt (sp x).a).a).a).l.isEmpty&&(Nat.beq (pt (pt (pt (pt (sp x).a).a).a).a).k 15&&(pt (pt (pt (pt (sp x).a).a).a).a).s==("super" : Str)))))))))
noncomputable def pL (K:Frag) (cc clsA:Addr):Bool:=(at? K cc (·.cell)).any fun v=>v.any fun x=>(i5 x).any fun a=>a==clsA
noncomputable def pK (prog:Program) (K:Frag) (cd:Value):Bool:=(i5 cd).any fun cda=>(at? K cda (·.flds)).any fun vs=>(vs:Array Value)[2]?.any fun v=>(tv v).any fun f=>(prog.main.file:Str)==f.1
noncomputable def yj (K:Frag) (P:Prog) (c2 m2:Nat) (v:Value):Bool:=(i5 v).any fun f2=>typeIn K (.ref f2)==some (.type "function")&&keepIn K (.ref f2)&&(lk P.classes c2).any fun ms2=>(lk ms2 m2).any fun f2d=>pJ K f2 f2d
noncomputable def vg (prog:Program) (K:Frag) (P:Prog) (clsA:Addr) (c2 m2:Nat) (b2:List S) (d:FuncData):Bool :=
 (gO d.params&&g5 d.defaults&&d.globals==mainGlobals&&d.builtins==builtinsNs)&&(d.scope.kind==.function&&!d.scope.isGenerator&&!d.scope.isCoroutine&&codeIn K d.code d.qualname) &&
 (d.scope.names.lookup (nm aJ)==some .local&&d.scope.names.lookup ("super" : Str)==some .globalImplicit&&d.scope.names.lookup ("__class__" : Str)==some .free&&d.scope.names.all (fun p=>!(p.2==.cell)&&(!(p.2==.free)||p.1==("__class__" : Str)))) &&
 ((pK prog K d.code&&mroIn K clsA (.ref clsA)==some true&&!(prog.main.scope.names.lookup ("super" : Str)).isSome&&nsIn K cStatics "thirdparty.any"==some none)&&(!(nm m2==("__class__" : Str)) &&
  (xI d.params.args).any (fun ar=>ar.arg==nm aJ)&&(xI d.closure).any (fun x=>x.1==("__class__" : Str)&&pL K x.2 clsA)&&(vk d.body).any fun st=>(yh st).any fun x=>m6 m2 x.1&&om (mtS 60 d.scope) b2 x.2) &&
  (clsIn K clsA).any fun cd=>(alongIn K (nm m2) ((cd.mro.dropWhile (·!=.ref clsA)).drop 1)).any fun v=>v.any (yj K P c2 m2))
noncomputable def sY (prog:Program) (K:Frag) (P:Prog) (clsA a:Addr) (f:FDef):Bool:=(xI f.params).any (fun i=>Nat.beq i aJ)&&(yh f.body).any fun b=>b.1.sup?.any fun x=>(at? K a (·.fn)).any (vg prog K P clsA x.1 x.2 b.2)
noncomputable def qV (K:Frag) (i:Nat):Option Addr:=(nsIn K mainGlobals (nm i)).bind fun v=>v.bind i5
noncomputable def clsOf (K:Frag) (c:Nat):Addr:=(qV K c).getD 0
noncomputable def uz (K:Frag) (clsA:Addr) (x:Str):Option Addr:=(findIn K (.ref clsA) x).bind fun v=>v.bind i5
noncomputable def vh (K:Frag) (clsA:Addr) (m:Nat) (f:FDef):Bool:=(uz K clsA (nm m)).any fun a=>typeIn K (.ref a)==some (.type "function")&&(Nat.beq m eo||pJ K a f)
noncomputable def pI (prog:Program) (K:Frag) (P:Prog) (clsA:Addr) (f:FDef):Bool:=(uz K clsA "__init__").any fun a=>typeIn K (.ref a)==some (.type "function")&&(pJ K a f||sY prog K P clsA a f)
noncomputable def sZ (prog:Program) (K:Frag) (P:Prog) (c:Nat) (ms:List (Nat×FDef)):Bool :=
 ((qV K c).any (fun a=>a==clsOf K c)&&makesIn K (clsOf K c)&&keepIn K (.ref (clsOf K c))&&plainGet K (clsOf K c) Str.empty)&&(hasDictIn K (clsOf K c) &&
 findIn K (.ref (clsOf K c)) "__setattr__"==some (some (.builtin "object.__setattr__"))&&plainOver K (clsOf K c)&&P.attrs.all (fun a=>findIn K (.ref (clsOf K c)) (nm a)==some none))&&(ms.all (fun p=>vh K (clsOf K c) p.1 p.2) &&
 ms.all (fun p=>!(Nat.beq p.1 eo)||pI prog K P (clsOf K c) p.2))
noncomputable def vi (K:Frag) (i:Nat) (f:FDef):Bool:=(qV K i).any fun a=>pJ K a f
noncomputable def rX (K:Frag) (i:Nat) (v:V):Bool:=(nsIn K mainGlobals (nm i)).any fun x=>x.any (kQ K 5 v)
noncomputable def chkAll (prog:Program) (K:Frag) (P:Prog):Bool :=
 P.consts.all (fun p=>rX K p.1 p.2)&&P.funs.all (fun p=>vi K p.1 p.2)&&P.classes.all (fun p=>sZ prog K P p.1 p.2)&&cg.all (fun x=>nsIn K mainGlobals x==some none)
end Mini.Internal
end
section
namespace Mini.Internal.L1
open Mini.Internal
noncomputable def law:FDef:=⟨[128026154263411],
 [.asg (.tup [1818584434,1802396002]) (.tup [.list true [.bi .list [.slice (.var 128026154263411) Option.none (some (.num 50))],.num 0],.new 7741231747428410708 []]),
 .asg (.var 1701079415) (.bin .add (.num 1) (.call 2000059118351051484255 [.var 1818584434,.num 2])),
 .asg (.tup [120,121,117,28542696426730611]) (.comp (.meth (.var 1802396002) 140780504389038964637790822 [.var 1685221239,.meth (.var 1802396002) 32776920301008482 [.var 1701079415]]) [.mk (.var 1685221239) (.tup [.str 120,.str 121,.str 117,.str 122]) []]),
 .asg (.var 435526333802) (.new 7306919375355013442 [.var 1802396002]),
 .asg (.var 115) (.meth (.var 1802396002) 122558844204642 [.sub (.cst 2129407584890410593375) (.call 2000059118351051484255 [.var 1818584434,.num 10]),.var 120,.call 1870354334177990634591 [.var 1802396002,.var 1701079415,.call 479032069092962755243103 [.var 1818584434,.num 1],.tup [.var 120,.var 121]]]),
 .asg (.var 435677128819) (.call 479032069092962755243103 [.var 1818584434,.num 2]),
 .asg (.tup [111542069915237,474214394992]) (.tup [.call 1870354334177990634591 [.var 1802396002,.var 1701079415,.var 435677128819,.tup [.var 115,.var 121]],.call 1870354334177990634591 [.var 1802396002,.var 1701079415,.var 435677128819,.tup [.var 117,.var 121]]]),
 .asg (.tup [1935636834,7308338789785500002]) (.tup [.call 9146647377613555509834528418911 [.var 435526333802,.var 115,.var 120,.var 121,.tup [.var 120,.var 121]],.call 9146647377613555509834528418911 [.var 435526333802,.var 111542069915237,.var 120,.var 121,.tup [.var 120,.var 121]]]),
 .asg (.var 1969191266) (.call 9146647377613555509834528418911 [.var 435526333802,.var 474214394992,.var 117,.var 121,.tup [.var 117,.var 121]]),
 .asg (.var 495840747888) (.comp (.tup [.var 97,.var 98]) [.mk (.var 97) (.range [.bin .shl (.num 1) (.var 1701079415)]) [],.mk (.var 98) (.range [.bin .shl (.num 1) (.var 1701079415)]) []]),
 .ifs (.cmp (.sortz (.meth (.var 435526333802) 435610083700 [.var 120,.tup [.var 120,.var 121]]) (.meth (.var 435526333802) 435610083700 [.var 121,.tup [.var 120,.var 121]])) [.ne] [.var 495840747888])
  [.ret (.bool false)]
  [],
 .ifs (.cmp (.comp (.sub (.var 7308338789785500002) (.tup [.var 97,.var 98])) [.mk (.tup [97,98]) (.var 495840747888) []]) [.ne] [.comp (.sub (.var 1969191266) (.tup [.sub (.var 1935636834) (.tup [.var 97,.var 98]),.var 98])) [.mk (.tup [97,98]) (.var 495840747888) []]])
  [.ret (.bool false)]
  [],
 .ifs (.or [.cmp (.call 9146647377613555509834528418911 [.var 435526333802,.var 111542069915237,.var 120,.var 121,.tup [.var 121,.var 120]]) [.ne] [.var 7308338789785500002],.cmp (.call 9146647377613555509834528418911 [.var 435526333802,.var 111542069915237,.var 115,.var 121,.tup [.var 115,.var 121]]) [.ne] [.var 1969191266]])
  [.ret (.bool false)]
  [],
 .asg (.tup [97,98]) (.sub (.var 495840747888) (.call 2000059118351051484255 [.var 1818584434,.bi .len [.var 495840747888]])),
 .asg (.var 32495402090329454) (.tup [.meth (.var 1802396002) 120351130351202 [.sub (.var 1935636834) (.tup [.var 97,.var 98]),.var 1701079415],.meth (.var 1802396002) 120351130351202 [.var 98,.var 1701079415]]),
 .ifs (.cmp (.meth (.var 435526333802) 435610083700 [.call 1870354334177990634591 [.var 1802396002,.var 1701079415,.var 435677128819,.var 32495402090329454],.tup []]) [.ne] [.list false [.sub (.var 7308338789785500002) (.tup [.var 97,.var 98])]])
  [.ret (.bool false)]
  [],
 .asg (.var 431199119725) (.meth (.var 1802396002) 122558844204642 [.str 431180838498,.var 111542069915237,.var 28542696426730611]),
 .ifs (.or [.cmp (.meth (.var 435526333802) 435610083700 [.var 431199119725,.tup [.var 120,.var 121]]) [.isnot] [.none],.cmp (.meth (.var 435526333802) 435610083700 [.var 115,.tup [.var 121]]) [.isnot] [.none],.cmp (.meth (.var 435526333802) 435610083700 [.meth (.var 1802396002) 7629154 [.num 0,.var 431199119725],.tup [.var 120,.var 121]]) [.isnot] [.none]])
  [.ret (.bool false)]
  [],
 .ifs (.or [.and [.cmp (.var 1701079415) [.eq] [.num 1],.cmp (.meth (.var 435526333802) 435610083700 [.var 431199119725,.tup [.var 120,.var 121,.var 28542696426730611]]) [.is] [.none]],.cmp (.meth (.var 435526333802) 435610083700 [.var 111542069915237,.tup [.var 120,.var 121]]) [.ne] [.meth (.var 435526333802) 435610083700 [.var 111542069915237,.tup [.var 120,.var 121]]]])
  [.ret (.bool false)]
  [],
 .fr (.tup [1952867692,499967814002]) (.call 599171809053562104802513155321326687 [.var 1802396002,.var 1701079415,.var 115,.var 111542069915237,.var 121])
  [.ifs (.cmp (.meth (.var 435526333802) 435610083700 [.var 1952867692,.tup [.var 120,.var 121]]) [.ne] [.meth (.var 435526333802) 435610083700 [.var 499967814002,.tup [.var 120,.var 121]]])
   [.ret (.bool false)]
   []],
 .asg (.var 1937008994) (.comp (.meth (.var 435526333802) 435610083700 [.meth (.var 1802396002) 7629154 [.var 107,.var 111542069915237],.tup [.var 120,.var 121]]) [.mk (.var 107) (.range [.var 1701079415]) []]),
 .ret (.cmp (.comp (.bi .sum [.comp (.bin .shl (.var 6647407) (.var 107)) [.mk (.tup [107,6647407]) (.enum (.var 7630700)) []]]) [.mk (.var 7630700) (.zips (.var 1937008994)) []]) [.eq] [.meth (.var 435526333802) 435610083700 [.var 111542069915237,.tup [.var 120,.var 121]]])]⟩
noncomputable def bT:FDef:=⟨[1818584434,1701079415],
 [.asg (.var 435459026032) (.sub (.var 1818584434) (.num 1)),
 .asg (.sub (.var 1818584434) (.num 1)) (.bin .add (.var 435459026032) (.num 1)),
 .ret (.bin .mod (.bin .mod (.ite (.cmp (.var 435459026032) [.lt] [.bi .len [.sub (.var 1818584434) (.num 0)]]) (.sub (.sub (.var 1818584434) (.num 0)) (.var 435459026032)) (.bin .add (.bin .add (.bin .mul (.bin .mul (.num 5) (.var 435459026032)) (.var 435459026032)) (.bin .mul (.num 8) (.var 435459026032))) (.num 1))) (.num 103)) (.var 1701079415))]⟩
noncomputable def ko:FDef:=⟨[1802396002,1701079415,435677128819,126879614985580],
 [.asg (.var 1685221239) (.sub (.var 435677128819) (.num 0)),
 .ifs (.or [.cmp (.var 1685221239) [.eq] [.str 6647407],.cmp (.var 1685221239) [.eq] [.str 7305076]])
  [.ret (.sub (.var 126879614985580) (.bi .int [.cmp (.var 1685221239) [.eq] [.str 7305076]]))]
  [],
 .ifs (.cmp (.var 1685221239) [.eq] [.str 125779768604014])
  [.ret (.meth (.var 1802396002) 120351130351202 [.sub (.var 435677128819) (.num 1),.var 1701079415])]
  [],
 .asg (.var 1701670771) (.comp (.call 1870354334177990634591 [.var 1802396002,.var 1701079415,.var 6647407,.var 126879614985580]) [.mk (.var 6647407) (.slice (.var 435677128819) (some (.num 1)) Option.none) [.bi .isTuple [.var 6647407]]]),
 .ifs (.cmp (.var 1685221239) [.eq] [.str 7632227])
  [.asg (.var 7827308) (.bi .min [.sub (.var 435677128819) (.num 1),.var 1701079415]),
  .ret (.meth (.var 1802396002) 32760367481649253 [.bin .sub (.bin .add (.var 7827308) (.var 1701079415)) (.num 1),.var 7827308,.meth (.var 1802396002) 127961628831587 [.sub (.var 1701670771) (.num 0),.sub (.var 1701670771) (.num 1)]])]
  [],
 .ifs (.cmp (.var 1685221239) [.eq] [.str 495773510003])
  [.ret (.meth (.var 1802396002) 32760367481649253 [.bin .sub (.bin .mul (.num 2) (.var 1701079415)) (.num 1),.var 1701079415,.meth (.var 1802396002) 121413913788299389262326131 [.var 1701079415,.sub (.var 1701670771) (.num 0)]])]
  [],
 .ifs (.cmp (.var 1685221239) [.ne] [.str 111477645076579])
  [.ret (.ite (.cmp (.bi .len [.var 1701670771]) [.eq] [.num 1]) (.meth (.var 1802396002) 111524989335138 [.var 1685221239,.sub (.var 1701670771) (.num 0)]) (.meth (.var 1802396002) 122558844204642 [.var 1685221239,.sub (.var 1701670771) (.num 0),.sub (.var 1701670771) (.num 1)]))]
  [],
 .asg (.tup [7041889,435459026032]) (.tup [.sub (.var 435677128819) (.num 1),.bi .min [.sub (.var 435677128819) (.num 2),.var 1701079415]]),
 .ifs (.cmp (.var 7041889) [.eq] [.str 61])
  [.asg (.var 1684828020) (.meth (.var 1802396002) 112628528869230 [.meth (.var 1802396002) 29029 [.sub (.var 1701670771) (.num 0),.sub (.var 1701670771) (.num 1)]])]
  [.ifs (.cmp (.var 7041889) [.eq] [.str 521611141475])
   [.asg (.var 1684828020) (.meth (.var 1802396002) 521611141475 [.var 435459026032,.sub (.var 1701670771) (.num 0),.sub (.var 1701670771) (.num 1)])]
   [.ifs (.cmp (.var 7041889) [.eq] [.str 512970483042])
    [.asg (.var 1684828020) (.meth (.var 1802396002) 512970483042 [.var 435459026032,.sub (.var 1701670771) (.num 0),.sub (.var 1701670771) (.num 1)])]
    [.asg (.var 1684828020) (.ite (.cmp (.var 7041889) [.eq] [.str 7629154]) (.meth (.var 1802396002) 7629154 [.bi .min [.var 435459026032,.bin .sub (.var 1701079415) (.num 1)],.sub (.var 1701670771) (.num 1)]) (.meth (.var 1802396002) 122558844204642 [.var 7041889,.sub (.var 1701670771) (.num 0),.sub (.var 1701670771) (.num 1)]))]]],
 .ret (.meth (.var 1802396002) 6648937 [.var 1684828020,.sub (.var 1701670771) (.num 2),.sub (.var 1701670771) (.num 3)])]⟩
noncomputable def fC:FDef:=⟨[1818584434,1751607656],
 [.asg (.var 7954807) (.call 2000059118351051484255 [.var 1818584434,.ite (.cmp (.var 1751607656) [.gt] [.num 0]) (.num 9) (.num 3)]),
 .ifs (.cmp (.var 7954807) [.lt] [.num 2])
  [.ret (.ite (.cmp (.var 7954807) [.eq] [.num 0]) (.tup [.str 6647407]) (.tup [.str 7305076]))]
  [],
 .ifs (.cmp (.var 7954807) [.eq] [.num 2])
  [.ret (.tup [.str 125779768604014,.call 2000059118351051484255 [.var 1818584434,.num 4]])]
  [],
 .ifs (.cmp (.var 7954807) [.eq] [.num 3])
  [.ret (.tup [.sub (.tup [.str 500085716578,.str 444083369570]) (.call 2000059118351051484255 [.var 1818584434,.num 2]),.call 479032069092962755243103 [.var 1818584434,.bin .sub (.var 1751607656) (.num 1)]])]
  [],
 .ifs (.cmp (.var 7954807) [.lt] [.num 6])
  [.ret (.tup [.sub (.cst 2129407584890410593375) (.call 2000059118351051484255 [.var 1818584434,.num 10]),.call 479032069092962755243103 [.var 1818584434,.bin .sub (.var 1751607656) (.num 1)],.call 479032069092962755243103 [.var 1818584434,.num 0]])]
  [],
 .ifs (.cmp (.var 7954807) [.eq] [.num 6])
  [.asg (.var 7041889) (.sub (.cst 2129118207723631111263) (.call 2000059118351051484255 [.var 1818584434,.num 8])),
  .ret (.tup [.str 111477645076579,.var 7041889,.call 2000059118351051484255 [.var 1818584434,.num 3],.call 479032069092962755243103 [.var 1818584434,.num 0],.call 479032069092962755243103 [.var 1818584434,.bin .sub (.var 1751607656) (.num 1)],.call 479032069092962755243103 [.var 1818584434,.num 0],.call 479032069092962755243103 [.var 1818584434,.num 0]])]
  [],
 .ifs (.cmp (.var 7954807) [.eq] [.num 7])
  [.ret (.tup [.str 7632227,.call 2000059118351051484255 [.var 1818584434,.num 3],.call 479032069092962755243103 [.var 1818584434,.bin .sub (.var 1751607656) (.num 1)],.call 479032069092962755243103 [.var 1818584434,.num 0]])]
  [],
 .ret (.tup [.str 495773510003,.call 479032069092962755243103 [.var 1818584434,.bin .sub (.var 1751607656) (.num 1)]])]⟩
noncomputable def ez:FDef:=⟨[435526333802,1836213620,6647407,491327616111,1701147238],
 [.asg (.var 1937207154) (.comp (.meth (.var 435526333802) 435610083700 [.var 1953460082,.var 1701147238]) [.mk (.var 1953460082) (.tup [.var 6647407,.var 491327616111,.var 1836213620]) []]),
 .ret (.ite (.cmp (.none) [.isin] [.var 1937207154]) (.none) (.dictOf (.tup [.tup [.var 97,.var 98],.var 99]) [.mk (.tup [97,98,99]) (.zip [.sub (.var 1937207154) (.num 0),.sub (.var 1937207154) (.num 1),.sub (.var 1937207154) (.num 2)]) []]))]⟩
noncomputable def dj:FDef:=⟨[1802396002,1701079415,97,98,99],
 [.asg (.tup [127991761170286,1953066613,1751607656]) (.tup [.meth (.var 1802396002) 120351130351202 [.num 0,.var 1701079415],.meth (.var 1802396002) 120351130351202 [.num 1,.var 1701079415],.meth (.var 1802396002) 120351130351202 [.bin .shl (.num 1) (.bin .sub (.var 1701079415) (.num 1)),.var 1701079415]]),
 .asg (.tup [431197807713,32760453145784944]) (.tup [.meth (.var 1802396002) 122558844204642 [.str 431180838498,.var 97,.var 98],.meth (.var 1802396002) 122558844204642 [.str 465826575970,.var 97,.var 98]]),
 .asg (.var 495622318451) (.comp (.meth (.var 1802396002) 122558844204642 [.str 491496437346,.var 6647407,.var 1751607656]) [.mk (.var 6647407) (.tup [.var 97,.var 98]) []]),
 .asg (.var 110386908127600) (.meth (.var 1802396002) 122558844204642 [.str 431180838498,.meth (.var 1802396002) 122558844204642 [.str 465826575970,.meth (.var 1802396002) 122558844204642 [.str 130195029063266,.var 97,.var 98],.var 98],.meth (.var 1802396002) 122558844204642 [.str 120282479425122,.var 97,.var 98]]),
 .ret (.list false [.tup [.meth (.var 1802396002) 122558844204642 [.str 422877296226,.var 431197807713,.var 98],.var 97],.tup [.meth (.var 1802396002) 111524989335138 [.str 500085716578,.var 97],.meth (.var 1802396002) 122558844204642 [.str 422877296226,.meth (.var 1802396002) 111524989335138 [.str 444083369570,.var 97],.var 1953066613]],.tup [.meth (.var 1802396002) 122558844204642 [.str 491496437346,.var 97,.var 98],.meth (.var 1802396002) 122558844204642 [.str 422877296226,.meth (.var 1802396002) 122558844204642 [.str 1919907426,.var 97,.var 98],.meth (.var 1802396002) 122558844204642 [.str 431348610658,.var 97,.var 98]]],.tup [.meth (.var 1802396002) 111524989335138 [.str 500085716578,.meth (.var 1802396002) 122558844204642 [.str 431348610658,.var 97,.var 98]],.meth (.var 1802396002) 122558844204642 [.str 1919907426,.meth (.var 1802396002) 111524989335138 [.str 500085716578,.var 97],.meth (.var 1802396002) 111524989335138 [.str 500085716578,.var 98]]],.tup [.meth (.var 1802396002) 122558844204642 [.str 431180838498,.meth (.var 1802396002) 122558844204642 [.str 431348610658,.var 97,.var 98],.meth (.var 1802396002) 122558844204642 [.str 1919907426,.var 97,.var 98]],.var 431197807713],.tup [.meth (.var 1802396002) 122558844204642 [.str 422877296226,.var 97,.var 97],.var 127991761170286],.tup [.meth (.var 1802396002) 122558844204642 [.str 465826575970,.var 97,.meth (.var 1802396002) 122558844204642 [.str 431180838498,.var 98,.var 99]],.meth (.var 1802396002) 122558844204642 [.str 431180838498,.var 32760453145784944,.meth (.var 1802396002) 122558844204642 [.str 465826575970,.var 97,.var 99]]],.tup [.meth (.var 1802396002) 122558844204642 [.str 465608865378,.var 97,.var 1953066613],.meth (.var 1802396002) 122558844204642 [.str 431180838498,.var 97,.var 97]],.tup [.var 110386908127600,.var 97],.tup [.meth (.var 1802396002) 32760367481649253 [.bin .sub (.var 1701079415) (.num 1),.num 0,.meth (.var 1802396002) 127961628831587 [.var 98,.var 97]],.var 97],.tup [.meth (.var 1802396002) 32760367481649253 [.bin .sub (.bin .mul (.num 2) (.var 1701079415)) (.num 1),.var 1701079415,.meth (.var 1802396002) 127961628831587 [.var 97,.var 98]],.var 97],.tup [.meth (.var 1802396002) 32760367481649253 [.bin .sub (.var 1701079415) (.num 1),.num 0,.meth (.var 1802396002) 121413913788299389262326131 [.var 1701079415,.var 97]],.var 97],.tup [.meth (.var 1802396002) 122558844204642 [.str 500035843682,.var 97,.var 98],.meth (.var 1802396002) 512970483042 [.var 1701079415,.var 97,.var 98]],.tup [.meth (.var 1802396002) 122558844204642 [.str 435611334242,.var 97,.var 98],.meth (.var 1802396002) 112628528869230 [.meth (.var 1802396002) 122558844204642 [.str 500035843682,.var 98,.var 97]]],.tup [.meth (.var 1802396002) 521611141475 [.var 1701079415,.var 97,.var 98],.meth (.var 1802396002) 122558844204642 [.str 500035843682,.var 431197807713,.var 97]],.tup [.meth (.var 1802396002) 122558844204642 [.str 500035712610,.var 97,.var 98],.meth (.var 1802396002) 122558844204642 [.str 500035843682,.sub (.var 495622318451) (.num 0),.sub (.var 495622318451) (.num 1)]],.tup [.meth (.var 1802396002) 122558844204642 [.str 435611203170,.var 97,.var 98],.meth (.var 1802396002) 112628528869230 [.meth (.var 1802396002) 122558844204642 [.str 500035712610,.var 98,.var 97]]],.tup [.meth (.var 1802396002) 29029 [.var 97,.var 98],.meth (.var 1802396002) 112628527820385 [.tup [.meth (.var 1802396002) 122558844204642 [.str 435611334242,.var 97,.var 98],.meth (.var 1802396002) 122558844204642 [.str 435611334242,.var 98,.var 97]]]]])]⟩
noncomputable def dQ:FDef:=⟨[1718379891],
 [.expr (.sup 507329363804909999060302 6872339552563453791),
 .asg (.attr (.var 1718379891) 545182379876308767176290) (.dict .i)]⟩
noncomputable def cD:FDef:=⟨[1718379891,1701667182,115],
 [.ret (.meth (.var 1718379891) 1701536109 [.str 7368801,.tup [],.var 115,.meth (.var 1718379891) 133536245478026645088724324 [.var 1701667182,.tup [],.var 115]])]⟩
noncomputable def bz:FDef:=⟨[1718379891,448629336439],
 [.ifs (.cmp (.var 448629336439) [.lt] [.num 1])
  [.rais]
  [],
 .ifs (.cmp (.var 448629336439) [.gt] [.cst 92716621121879])
  [.rais]
  [],
 .ifs (.cmp (.var 448629336439) [.notin] [.attr (.var 1718379891) 545182379876308767176290])
  [.expr (.meth (.attr (.var 1718379891) 544943148383632993972083) 110425311047777 [.fmt 152949257266967150092072 (.var 448629336439) 41]),
  .expr (.meth (.attr (.var 1718379891) 139519742427658876708089715) 110425311047777 [.var 448629336439]),
  .asg (.sub (.attr (.var 1718379891) 545182379876308767176290) (.var 448629336439)) (.bin .sub (.bi .len [.attr (.var 1718379891) 544943148383632993972083]) (.num 1))]
  [],
 .ret (.sub (.attr (.var 1718379891) 545182379876308767176290) (.var 448629336439))]⟩
noncomputable def bM:FDef:=⟨[1718379891,28783,97,98],
 [.expr (.meth (.var 1718379891) 2129763912419667501431 [.var 97,.var 28783]),
 .expr (.meth (.var 1718379891) 1953390967 [.var 98,.sub (.attr (.var 1718379891) 545220213778855941530996) (.var 97),.var 28783]),
 .ifs (.cmp (.var 28783) [.isin] [.cst 19506716360005186])
  [.ret (.meth (.var 1718379891) 1701536109 [.var 28783,.tup [.var 97,.var 98],.sub (.attr (.var 1718379891) 545220213778855941530996) (.var 97),.num 0])]
  [],
 .ifs (.cmp (.var 28783) [.isin] [.cst 82820951135810])
  [.ret (.meth (.var 1718379891) 1701536109 [.var 28783,.tup [.var 97,.var 98],.cst 1280266050,.num 0])]
  [],
 .rais]⟩
noncomputable def bN:FDef:=⟨[1718379891,435761734006,448629336439],
 [.asg (.var 115) (.meth (.var 1718379891) 32776920301008482 [.var 448629336439]),
 .ret (.meth (.var 1718379891) 1701536109 [.str 470121608802,.tup [],.var 115,.bin .mod (.var 435761734006) (.bin .shl (.num 1) (.var 448629336439))])]⟩
noncomputable def bX:FDef:=⟨[1718379891,105,116],
 [.expr (.meth (.var 1718379891) 2129763912419667501431 [.var 116,.str 7629154]),
 .ifs (.not (.cmp (.num 0) [.le,.lt] [.var 105,.meth (.var 1718379891) 448629336439 [.var 116]]))
  [.rais]
  [],
 .ret (.meth (.var 1718379891) 1701536109 [.str 7629154,.tup [.var 116],.cst 1280266050,.var 105])]⟩
noncomputable def hV:FDef:=⟨[1718379891,1802396002],
 [.asg (.attr (.var 1718379891) 1802396002) (.var 1802396002),
 .asg (.attr (.var 1718379891) 126879447277940) (.dict .t)]⟩
noncomputable def bt:FDef:=⟨[1718379891,1953460082,1701147238],
 [.asg (.var 474450194027) (.meth (.var 1718379891) 139505427607887391419101798 [.var 1701147238]),
 .asg (.var 461228831859) (.list true [.var 1953460082]),
 .whl (.cmp (.bi .len [.var 461228831859]) [.gt] [.num 0])
  [.asg (.var 117) (.sub (.var 461228831859) (.neg (.num 1))),
  .ifs (.cmp (.tup [.var 117,.var 1701147238]) [.isin] [.var 474450194027])
   [.expr (.meth (.var 461228831859) 7368560 []),
   .cont]
   [],
  .asg (.var 29113321804882295) (.comp (.var 1953653104) [.mk (.var 1953653104) (.meth (.attr (.var 1718379891) 1802396002) 1936159329 [.var 117]) [.cmp (.tup [.var 1953653104,.var 1701147238]) [.notin] [.var 474450194027]]]),
  .ifs (.cmp (.bi .len [.var 29113321804882295]) [.gt] [.num 0])
   [.expr (.meth (.var 461228831859) 110425311311973 [.var 29113321804882295]),
   .cont]
   [],
  .asg (.var 1935961701) (.comp (.sub (.var 474450194027) (.tup [.var 1953653104,.var 1701147238])) [.mk (.var 1953653104) (.meth (.attr (.var 1718379891) 1802396002) 1936159329 [.var 117]) []]),
  .asg (.var 431349919590) (.none),
  .ifs (.cmp (.none) [.notin] [.var 1935961701])
   [.asg (.var 431349919590) (.meth (.var 1718379891) 121416400531299 [.var 117,.var 1935961701,.meth (.var 1718379891) 139500706398269974925697389 [.var 1701147238]])]
   [],
  .asg (.sub (.var 474450194027) (.tup [.var 117,.var 1701147238])) (.var 431349919590),
  .expr (.meth (.var 461228831859) 7368560 [])],
 .ret (.sub (.var 474450194027) (.tup [.var 1953460082,.var 1701147238]))]⟩
noncomputable def iW:FDef:=⟨[1718379891,105,116],
 [.ret (.tup [.str 1836020833,.meth (.var 1718379891) 34169984019360098 [.var 105,.var 116]])]⟩
noncomputable def cC:FDef:=⟨[1718379891,1751607656,7827308,116],
 [.expr (.meth (.var 1718379891) 2129763912419667501431 [.var 116,.str 32760367481649253]),
 .ifs (.not (.cmp (.num 0) [.le,.le,.lt] [.var 7827308,.var 1751607656,.meth (.var 1718379891) 448629336439 [.var 116]]))
  [.rais]
  [],
 .ret (.meth (.var 1718379891) 1701536109 [.str 32760367481649253,.tup [.var 116],.meth (.var 1718379891) 32776920301008482 [.bin .add (.bin .sub (.var 1751607656) (.var 7827308)) (.num 1)],.tup [.var 1751607656,.var 7827308]])]⟩
noncomputable def cV:FDef:=⟨[1718379891,97,98],
 [.expr (.meth (.var 1718379891) 2129763912419667501431 [.var 97,.str 127961628831587]),
 .expr (.meth (.var 1718379891) 2129763912419667501431 [.var 98,.str 127961628831587]),
 .ret (.meth (.var 1718379891) 1701536109 [.str 127961628831587,.tup [.var 97,.var 98],.meth (.var 1718379891) 32776920301008482 [.bin .add (.meth (.var 1718379891) 448629336439 [.var 97]) (.meth (.var 1718379891) 448629336439 [.var 98])],.num 0])]⟩
noncomputable def bA:FDef:=⟨[1718379891,2037277037,116],
 [.expr (.meth (.var 1718379891) 2129763912419667501431 [.var 116,.str 121413913788299389262326131]),
 .ifs (.cmp (.var 2037277037) [.lt] [.num 0])
  [.rais]
  [],
 .ret (.ite (.cmp (.var 2037277037) [.eq] [.num 0]) (.var 116) (.meth (.var 1718379891) 1701536109 [.str 121413913788299389262326131,.tup [.var 116],.meth (.var 1718379891) 32776920301008482 [.bin .add (.meth (.var 1718379891) 448629336439 [.var 116]) (.var 2037277037)],.var 2037277037]))]⟩
noncomputable def cW:FDef:=⟨[1718379891,28783,116],
 [.expr (.meth (.var 1718379891) 2129763912419667501431 [.var 116,.var 28783]),
 .ifs (.and [.cmp (.var 28783) [.ne] [.str 500085716578],.cmp (.var 28783) [.ne] [.str 444083369570]])
  [.rais]
  [],
 .ret (.meth (.var 1718379891) 1701536109 [.var 28783,.tup [.var 116],.sub (.attr (.var 1718379891) 545220213778855941530996) (.var 116),.num 0])]⟩
noncomputable def bf:FDef:=⟨[1718379891,116],
 [.expr (.meth (.var 1718379891) 1953390967 [.var 116,.cst 1280266050,.str 7630702]),
 .ifs (.cmp (.sub (.attr (.var 1718379891) 8318270967402095988) (.var 116)) [.eq] [.str 7630702])
  [.ret (.sub (.sub (.attr (.var 1718379891) 2128829695872336029044) (.var 116)) (.num 0))]
  [],
 .ifs (.cmp (.var 116) [.eq] [.attr (.var 1718379891) 138296318119088462031581812])
  [.ret (.attr (.var 1718379891) 35403857438486646280050991462)]
  [],
 .ifs (.cmp (.var 116) [.eq] [.attr (.var 1718379891) 35403857438486646280050991462])
  [.ret (.attr (.var 1718379891) 138296318119088462031581812)]
  [],
 .ret (.meth (.var 1718379891) 1701536109 [.str 7630702,.tup [.var 116],.cst 1280266050,.num 0])]⟩
noncomputable def cn:FDef:=⟨[1718379891,97,98],
 [.expr (.meth (.var 1718379891) 1953390967 [.var 98,.sub (.attr (.var 1718379891) 545220213778855941530996) (.var 97),.str 61]),
 .ifs (.cmp (.var 97) [.eq] [.var 98])
  [.ret (.attr (.var 1718379891) 138296318119088462031581812)]
  [],
 .ret (.meth (.var 1718379891) 1701536109 [.str 61,.tup [.bi .min [.var 97,.var 98],.bi .max [.var 97,.var 98]],.cst 1280266050,.num 0])]⟩
noncomputable def dn:FDef:=⟨[1718379891,105,97,98],
 [.expr (.meth (.var 1718379891) 2129763912419667501431 [.var 97,.str 521611141475]),
 .expr (.meth (.var 1718379891) 1953390967 [.var 98,.sub (.attr (.var 1718379891) 545220213778855941530996) (.var 97),.str 521611141475]),
 .expr (.meth (.var 1718379891) 478792262542605853548919 [.var 105,.var 97,.str 521611141475]),
 .ret (.meth (.var 1718379891) 1701536109 [.str 521611141475,.tup [.var 97,.var 98],.cst 1280266050,.var 105])]⟩
noncomputable def dp:FDef:=⟨[1718379891,105,97,98],
 [.expr (.meth (.var 1718379891) 2129763912419667501431 [.var 97,.str 512970483042]),
 .expr (.meth (.var 1718379891) 1953390967 [.var 98,.sub (.attr (.var 1718379891) 545220213778855941530996) (.var 97),.str 512970483042]),
 .expr (.meth (.var 1718379891) 478792262542605853548919 [.var 105,.var 97,.str 512970483042]),
 .ret (.meth (.var 1718379891) 1701536109 [.str 512970483042,.tup [.var 97,.var 98],.cst 1280266050,.var 105])]⟩
noncomputable def cX:FDef:=⟨[1718379891,99,97,98],
 [.expr (.meth (.var 1718379891) 1953390967 [.var 99,.cst 1280266050,.str 6648937]),
 .expr (.meth (.var 1718379891) 1953390967 [.var 98,.sub (.attr (.var 1718379891) 545220213778855941530996) (.var 97),.str 6648937]),
 .ret (.meth (.var 1718379891) 1701536109 [.str 6648937,.tup [.var 99,.var 97,.var 98],.sub (.attr (.var 1718379891) 545220213778855941530996) (.var 97),.num 0])]⟩
noncomputable def bO:FDef:=⟨[1718379891,1701670771],
 [.expr (.meth (.var 1718379891) 7812726516184146295 [.var 1701670771,.cst 1280266050,.str 6581857]),
 .ifs (.cmp (.bi .len [.var 1701670771]) [.eq] [.num 0])
  [.ret (.attr (.var 1718379891) 138296318119088462031581812)]
  [],
 .ret (.ite (.cmp (.bi .len [.var 1701670771]) [.eq] [.num 1]) (.sub (.var 1701670771) (.num 0)) (.meth (.var 1718379891) 1701536109 [.str 6581857,.bi .tuple [.var 1701670771],.cst 1280266050,.num 0]))]⟩
noncomputable def qi:FDef:=⟨[1718379891],
 [.asg (.attr (.var 1718379891) 544943148383632993972083) (.list true [.str 1819242306,.str 7630409,.str 1818322258]),
 .asg (.attr (.var 1718379891) 139519742427658876708089715) (.list true [.num 0,.num 0,.num 0]),
 .asg (.attr (.var 1718379891) 2128684173373565990246) (.list true []),
 .asg (.attr (.var 1718379891) 8315740999501378918) (.list true []),
 .asg (.attr (.var 1718379891) 139576264479274861228619110) (.list true []),
 .asg (.attr (.var 1718379891) 140757021683833132378583654) (.num 0),
 .asg (.attr (.var 1718379891) 8318270967402095988) (.list true [.str 0]),
 .asg (.attr (.var 1718379891) 2128829695872336029044) (.list true [.tup []]),
 .asg (.attr (.var 1718379891) 545220213778855941530996) (.list true [.cst 1280266050]),
 .asg (.attr (.var 1718379891) 544869865799501187540340) (.list true [.num 0]),
 .asg (.attr (.var 1718379891) 32495402090329454) (.dict .t),
 .asg (.attr (.var 1718379891) 138296318119088462031581812) (.meth (.var 1718379891) 1701536109 [.str 1702195828,.tup [],.cst 1280266050,.num 0]),
 .asg (.attr (.var 1718379891) 35403857438486646280050991462) (.meth (.var 1718379891) 1701536109 [.str 435728179558,.tup [],.cst 1280266050,.num 0])]⟩
noncomputable def fN:FDef:=⟨[1718379891,28783,1936159329,1953656691,1635017060],
 [.asg (.var 7955819) (.tup [.var 28783,.var 1936159329,.var 1953656691,.var 1635017060]),
 .asg (.var 431349919590) (.meth (.attr (.var 1718379891) 32495402090329454) 7628135 [.var 7955819,.num 0]),
 .ifs (.cmp (.var 431349919590) [.eq] [.num 0])
  [.asg (.var 431349919590) (.bi .len [.attr (.var 1718379891) 8318270967402095988]),
  .expr (.meth (.attr (.var 1718379891) 8318270967402095988) 110425311047777 [.var 28783]),
  .expr (.meth (.attr (.var 1718379891) 2128829695872336029044) 110425311047777 [.var 1936159329]),
  .expr (.meth (.attr (.var 1718379891) 545220213778855941530996) 110425311047777 [.var 1953656691]),
  .expr (.meth (.attr (.var 1718379891) 544869865799501187540340) 110425311047777 [.var 1635017060]),
  .asg (.sub (.attr (.var 1718379891) 32495402090329454) (.var 7955819)) (.var 431349919590)]
  [],
 .ret (.var 431349919590)]⟩
noncomputable def cE:FDef:=⟨[1718379891,1701667182,2129766460073655628385,128009175786866],
 [.expr (.meth (.attr (.var 1718379891) 2128684173373565990246) 110425311047777 [.var 1701667182]),
 .expr (.meth (.attr (.var 1718379891) 8315740999501378918) 110425311047777 [.bi .tuple [.var 2129766460073655628385]]),
 .expr (.meth (.attr (.var 1718379891) 139576264479274861228619110) 110425311047777 [.var 128009175786866]),
 .ret (.bin .sub (.bi .len [.attr (.var 1718379891) 2128684173373565990246]) (.num 1))]⟩
noncomputable def bW:FDef:=⟨[1718379891,116,435710945399],
 [.ifs (.cmp (.meth (.var 1718379891) 448629336439 [.var 116]) [.eq] [.num 0])
  [.rais]
  []]⟩
noncomputable def fM:FDef:=⟨[1718379891,116,115,435710945399],
 [.ifs (.cmp (.sub (.attr (.var 1718379891) 545220213778855941530996) (.var 116)) [.ne] [.var 115])
  [.rais]
  []]⟩
noncomputable def el:FDef:=⟨[1718379891,116],
 [.ret (.sub (.attr (.var 1718379891) 139519742427658876708089715) (.sub (.attr (.var 1718379891) 545220213778855941530996) (.var 116)))]⟩
noncomputable def fP:FDef:=⟨[1718379891,116],
 [.ret (.sub (.attr (.var 1718379891) 2128829695872336029044) (.var 116))]⟩
noncomputable def bC:FDef:=⟨[1718379891,1701147238],
 [.asg (.var 7827308) (.num 0),
 .fr (.var 1953653104) (.var 1701147238)
  [.ifs (.cmp (.tup [.var 1953653104,.var 1701147238]) [.notin] [.attr (.var 1718379891) 126879447277940])
   [.asg (.tup [448629336439,2037277037]) (.tup [.meth (.attr (.var 1718379891) 1802396002) 448629336439 [.var 1953653104],.meth (.var 1718379891) 139500706398269974925697389 [.var 1701147238]]),
   .asg (.sub (.attr (.var 1718379891) 126879447277940) (.tup [.var 1953653104,.var 1701147238])) (.comp (.bin .mod (.bin .shr (.var 431316168567) (.var 7827308)) (.bin .shl (.num 1) (.var 448629336439))) [.mk (.var 431316168567) (.range [.var 2037277037]) []])]
   [],
  .asg (.var 7827308) (.bin .add (.var 7827308) (.meth (.attr (.var 1718379891) 1802396002) 448629336439 [.var 1953653104]))],
 .ret (.attr (.var 1718379891) 126879447277940)]⟩
noncomputable def aF:FDef:=⟨[1718379891,117,1935961701,2037277037],
 [.asg (.tup [28783,1635017060,448629336439]) (.tup [.meth (.attr (.var 1718379891) 1802396002) 28783 [.var 117],.meth (.attr (.var 1718379891) 1802396002) 1635017060 [.var 117],.meth (.attr (.var 1718379891) 1802396002) 448629336439 [.var 117]]),
 .ifs (.cmp (.var 28783) [.eq] [.str 470121608802])
  [.ret (.bin .mul (.list false [.var 1635017060]) (.var 2037277037))]
  [],
 .ifs (.or [.cmp (.var 28783) [.eq] [.str 1702195828],.cmp (.var 28783) [.eq] [.str 435728179558]])
  [.ret (.bin .mul (.list false [.ite (.cmp (.var 28783) [.eq] [.str 1702195828]) (.num 1) (.num 0)]) (.var 2037277037))]
  [],
 .ifs (.or [.cmp (.var 28783) [.eq] [.str 7368801],.cmp (.bi .len [.var 1935961701]) [.eq] [.num 0]])
  [.ret (.none)]
  [],
 .asg (.var 491328007785) (.meth (.attr (.var 1718379891) 1802396002) 448629336439 [.sub (.meth (.attr (.var 1718379891) 1802396002) 1936159329 [.var 117]) (.neg (.num 1))]),
 .asg (.var 431349919590) (.list true []),
 .fr (.var 431316168567) (.range [.var 2037277037])
  [.asg (.var 435761734006) (.meth (.var 1718379891) 121424822101362 [.var 28783,.comp (.sub (.var 6581861) (.var 431316168567)) [.mk (.var 6581861) (.var 1935961701) []],.var 1635017060,.var 448629336439,.var 491328007785]),
  .ifs (.cmp (.var 435761734006) [.is] [.none])
   [.ret (.none)]
   [],
  .expr (.meth (.var 431349919590) 110425311047777 [.var 435761734006])],
 .ret (.freeze (.var 431349919590))]⟩
noncomputable def bB:FDef:=⟨[1718379891,1701147238],
 [.ret (.bin .shl (.num 1) (.bi .sum [.comp (.meth (.attr (.var 1718379891) 1802396002) 448629336439 [.var 1953653104]) [.mk (.var 1953653104) (.var 1701147238) []]]))]⟩
noncomputable def eG:FDef:=⟨[1718379891,105,116],
 [.asg (.var 431349919590) (.meth (.attr (.var 1718379891) 1802396002) 1870354334177672718694 [.str 7629154,.tup [.var 116],.cst 1280266050,.var 105]),
 .ret (.ite (.cmp (.var 431349919590) [.ne] [.num 0]) (.var 431349919590) (.tup [.str 7629154,.var 105,.var 116]))]⟩
noncomputable def bL:FDef:=⟨[1718379891,105,116,435710945399],
 [.ifs (.not (.cmp (.num 0) [.le,.le] [.var 105,.meth (.var 1718379891) 448629336439 [.var 116]]))
  [.rais]
  []]⟩
noncomputable def cq:FDef:=⟨[1718379891,1701670771,115,435710945399],
 [.fr (.var 116) (.var 1701670771)
  [.expr (.meth (.var 1718379891) 1953390967 [.var 116,.var 115,.var 435710945399])]]⟩
noncomputable def jK:FDef:=⟨[1718379891,116],
 [.ret (.sub (.attr (.var 1718379891) 8318270967402095988) (.var 116))]⟩
noncomputable def fO:FDef:=⟨[1718379891,116],
 [.ret (.sub (.attr (.var 1718379891) 544869865799501187540340) (.var 116))]⟩
noncomputable def bg:FDef:=⟨[1718379891,28783,1935961701,1635017060,448629336439,491328007785],
 [.asg (.tup [120,121]) (.tup [.sub (.var 1935961701) (.num 0),.sub (.var 1935961701) (.neg (.num 1))]),
 .ifs (.cmp (.var 448629336439) [.gt] [.num 0])
  [.ret (.meth (.var 1718379891) 139576207764328736765470066 [.var 28783,.var 1935961701,.var 120,.var 121,.var 1635017060,.var 448629336439,.var 491328007785])]
  [],
 .ifs (.cmp (.var 28783) [.eq] [.str 7629154])
  [.ret (.bin .mod (.bin .shr (.var 120) (.var 1635017060)) (.num 2))]
  [],
 .ifs (.cmp (.var 28783) [.eq] [.str 521611141475])
  [.ret (.bin .shr (.bin .add (.bin .mod (.var 120) (.bin .shl (.num 1) (.var 1635017060))) (.bin .mod (.var 121) (.bin .shl (.num 1) (.var 1635017060)))) (.var 1635017060))]
  [],
 .ifs (.cmp (.var 28783) [.eq] [.str 512970483042])
  [.ret (.ite (.cmp (.bin .mod (.var 120) (.bin .shl (.num 1) (.var 1635017060))) [.lt] [.bin .mod (.var 121) (.bin .shl (.num 1) (.var 1635017060))]) (.num 1) (.num 0))]
  [],
 .ifs (.cmp (.var 28783) [.eq] [.str 7630702])
  [.ret (.bin .sub (.num 1) (.var 120))]
  [],
 .ifs (.cmp (.var 28783) [.eq] [.str 6581857])
  [.ret (.bi .min [.var 1935961701])]
  [],
 .ifs (.cmp (.var 28783) [.eq] [.str 29295])
  [.ret (.bi .max [.var 1935961701])]
  [],
 .ifs (.cmp (.var 28783) [.eq] [.str 7499640])
  [.ret (.bin .mod (.bin .add (.var 120) (.var 121)) (.num 2))]
  [],
 .ifs (.cmp (.var 28783) [.eq] [.str 15933])
  [.ret (.bi .max [.bin .sub (.num 1) (.var 120),.var 121])]
  [],
 .ifs (.cmp (.var 28783) [.eq] [.str 61])
  [.ret (.ite (.cmp (.var 120) [.eq] [.var 121]) (.num 1) (.num 0))]
  [],
 .ifs (.cmp (.var 28783) [.eq] [.str 6648937])
  [.ret (.ite (.cmp (.var 120) [.eq] [.num 1]) (.sub (.var 1935961701) (.num 1)) (.sub (.var 1935961701) (.num 2)))]
  [],
 .ifs (.cmp (.var 28783) [.eq] [.str 500035843682])
  [.ret (.ite (.cmp (.var 120) [.lt] [.var 121]) (.num 1) (.num 0))]
  [],
 .ifs (.cmp (.var 28783) [.eq] [.str 435611334242])
  [.ret (.ite (.cmp (.var 120) [.le] [.var 121]) (.num 1) (.num 0))]
  [],
 .asg (.var 1718378856) (.ite (.cmp (.var 491328007785) [.gt] [.num 0]) (.bin .shl (.num 1) (.bin .sub (.var 491328007785) (.num 1))) (.num 0)),
 .ifs (.cmp (.var 28783) [.eq] [.str 500035712610])
  [.ret (.ite (.cmp (.bin .mod (.bin .add (.var 120) (.var 1718378856)) (.bin .mul (.num 2) (.var 1718378856))) [.lt] [.bin .mod (.bin .add (.var 121) (.var 1718378856)) (.bin .mul (.num 2) (.var 1718378856))]) (.num 1) (.num 0))]
  [],
 .ifs (.cmp (.var 28783) [.eq] [.str 435611203170])
  [.ret (.ite (.cmp (.bin .mod (.bin .add (.var 120) (.var 1718378856)) (.bin .mul (.num 2) (.var 1718378856))) [.le] [.bin .mod (.bin .add (.var 121) (.var 1718378856)) (.bin .mul (.num 2) (.var 1718378856))]) (.num 1) (.num 0))]
  [],
 .ret (.none)]⟩
noncomputable def dq:FDef:=⟨[1718379891,28783,1936159329,1953656691,1635017060],
 [.ret (.meth (.attr (.var 1718379891) 32495402090329454) 7628135 [.tup [.var 28783,.var 1936159329,.var 1953656691,.var 1635017060],.num 0])]⟩
noncomputable def df:FDef:=⟨[1718379891,28783,1935961701,120,121,1635017060,448629336439,491328007785],
 [.asg (.var 435610937463) (.bin .shl (.num 1) (.var 448629336439)),
 .ifs (.cmp (.var 28783) [.eq] [.str 6648937])
  [.ret (.ite (.cmp (.var 120) [.eq] [.num 1]) (.sub (.var 1935961701) (.num 1)) (.sub (.var 1935961701) (.num 2)))]
  [],
 .ifs (.cmp (.var 28783) [.eq] [.str 500085716578])
  [.ret (.bin .sub (.bin .sub (.var 435610937463) (.num 1)) (.var 120))]
  [],
 .ifs (.cmp (.var 28783) [.eq] [.str 444083369570])
  [.ret (.bin .mod (.neg (.var 120)) (.var 435610937463))]
  [],
 .ifs (.cmp (.var 28783) [.eq] [.str 431348610658])
  [.ret (.bin .band (.var 120) (.var 121))]
  [],
 .ifs (.cmp (.var 28783) [.eq] [.str 1919907426])
  [.ret (.bin .bor (.var 120) (.var 121))]
  [],
 .ifs (.cmp (.var 28783) [.eq] [.str 491496437346])
  [.ret (.bin .bxor (.var 120) (.var 121))]
  [],
 .ifs (.cmp (.var 28783) [.eq] [.str 431180838498])
  [.ret (.bin .mod (.bin .add (.var 120) (.var 121)) (.var 435610937463))]
  [],
 .ifs (.cmp (.var 28783) [.eq] [.str 422877296226])
  [.ret (.bin .mod (.bin .sub (.var 120) (.var 121)) (.var 435610937463))]
  [],
 .ifs (.cmp (.var 28783) [.eq] [.str 465826575970])
  [.ret (.bin .mod (.bin .mul (.var 120) (.var 121)) (.var 435610937463))]
  [],
 .ifs (.cmp (.var 28783) [.eq] [.str 465608865378])
  [.ret (.ite (.cmp (.var 121) [.lt] [.var 448629336439]) (.bin .mod (.bin .shl (.var 120) (.var 121)) (.var 435610937463)) (.num 0))]
  [],
 .ifs (.cmp (.var 28783) [.eq] [.str 125792938653282])
  [.ret (.ite (.cmp (.var 121) [.lt] [.var 448629336439]) (.bin .shr (.var 120) (.var 121)) (.num 0))]
  [],
 .ifs (.cmp (.var 28783) [.eq] [.str 130195029063266])
  [.ret (.ite (.cmp (.var 121) [.gt] [.num 0]) (.bin .fdiv (.var 120) (.var 121)) (.bin .sub (.var 435610937463) (.num 1)))]
  [],
 .ifs (.cmp (.var 28783) [.eq] [.str 120282479425122])
  [.ret (.ite (.cmp (.var 121) [.gt] [.num 0]) (.bin .mod (.var 120) (.var 121)) (.var 120))]
  [],
 .ifs (.cmp (.var 28783) [.eq] [.str 127961628831587])
  [.ret (.bin .add (.bin .shl (.var 120) (.var 491328007785)) (.var 121))]
  [],
 .ifs (.cmp (.var 28783) [.eq] [.str 32760367481649253])
  [.ret (.bin .mod (.bin .shr (.var 120) (.sub (.var 1635017060) (.num 1))) (.var 435610937463))]
  [],
 .ifs (.cmp (.var 28783) [.eq] [.str 121413913788299389279823226])
  [.ret (.var 120)]
  [],
 .ifs (.cmp (.var 28783) [.eq] [.str 121413913788299389262326131])
  [.ret (.ite (.cmp (.bin .shr (.var 120) (.bin .sub (.var 491328007785) (.num 1))) [.eq] [.num 1]) (.bin .add (.var 120) (.bin .sub (.var 435610937463) (.bin .shl (.num 1) (.var 491328007785)))) (.var 120))]
  [],
 .ret (.none)]⟩
noncomputable def funs:List (Nat×FDef):=[(7823724,law),(2000059118351051484255,bT),(1870354334177990634591,ko),(479032069092962755243103,fC),(9146647377613555509834528418911,ez),(599171809053562104802513155321326687,dj)]
noncomputable def classes:List (Nat×List (Nat×FDef)):=[
 (7741231747428410708,[(6872339552563453791,dQ),(140780504389038964637790822,cD),(32776920301008482,bz),(122558844204642,bM),(120351130351202,bN),(7629154,bX),(32760367481649253,cC),(127961628831587,cV),(121413913788299389262326131,bA),(111524989335138,cW),(112628528869230,bf),(29029,cn),(521611141475,dn),(512970483042,dp),(6648937,cX),(112628527820385,bO),(1701536109,fN),(133536245478026645088724324,cE),(2129763912419667501431,bW),(1953390967,fM),(448629336439,el),(1936159329,fP),(478792262542605853548919,bL),(7812726516184146295,cq),(28783,jK),(1635017060,fO),(1870354334177672718694,dq)]),
 (7306919375355013442,[(6872339552563453791,hV),(435610083700,bt),(7629154,iW),(139505427607887391419101798,bC),(121416400531299,aF),(139500706398269974925697389,bB),(34169984019360098,eG),(121424822101362,bg),(139576207764328736765470066,df)]),
 (507329363804909999060302,[(6872339552563453791,qi),(140780504389038964637790822,cD),(112628528869230,bf),(29029,cn),(6648937,cX),(112628527820385,bO),(1701536109,fN),(133536245478026645088724324,cE),(1953390967,fM),(448629336439,el),(1936159329,fP),(7812726516184146295,cq),(28783,jK),(1635017060,fO),(1870354334177672718694,dq)])]
noncomputable def consts:List (Nat×V):=[(1280266050,.int 0),(92716621121879,.int 4096),(19506716360005186,.tup [.str 431348610658,.str 1919907426,.str 491496437346,.str 431180838498,.str 422877296226,.str 465826575970,.str 465608865378,.str 125792938653282,.str 130195029063266,.str 120282479425122]),(82820951135810,.tup [.str 500035843682,.str 435611334242,.str 500035712610,.str 435611203170]),(2129407584890410593375,.tup [.str 431348610658,.str 422877296226,.str 431180838498,.str 491496437346,.str 1919907426,.str 465826575970,.str 465608865378,.str 125792938653282,.str 130195029063266,.str 120282479425122]),(2129118207723631111263,.tup [.str 500035843682,.str 435611334242,.str 500035712610,.str 435611203170,.str 61,.str 521611141475,.str 512970483042,.str 7629154])]
noncomputable def attrs:List Nat:=[1802396002,126879447277940,32495402090329454,8315740999501378918,8318270967402095988,2128684173373565990246,2128829695872336029044,544869865799501187540340,544943148383632993972083,545182379876308767176290,545220213778855941530996,138296318119088462031581812,139519742427658876708089715,139576264479274861228619110,140757021683833132378583654,35403857438486646280050991462]
noncomputable def P:Prog:=⟨funs,classes,consts,attrs⟩
end Mini.Internal.L1
end
section
open PySem PySem.W PyProof.Rows
set_option Elab.async true
set_option tactic.hygienic true
namespace PJ1.Internal
set_option maxRecDepth 100000
set_option maxHeartbeats 8000000
local macro_rules | `(command| #check $t)=>return Lean.mkNullNode (((t.raw.isStrLit?.getD "").splitOn " ").toArray.map fun n=>Mini.Internal.syn #[Lean.mkIdent (.mkSimple ("tw"++n))] "0b 0b 0b 0b 0b 0b 0b 7z \"theorem #0 0b 2A 0b \": 'True 2B 2C \":= \"⟨ 0b \"⟩ 3D 0b 0b 2E 0b 4F 4G 2H")
namespace law_holds
#check "10005300539051537708 10006364943570430514 10048714795969904537 10065292728299609807 10067685427307831617 10085533196237112566 10088849269153165068 10099413757035011862 1013175666705377118 10134014434351082891 10140953561278924617 10148208004956837488 10160389121120853842 10176017612591810866 10210134191403453858 10224799210616904145 10253652895071692324 10256034103319633628 10296379395203410420 10303196199520643539 10306673181236564060 1030793632892583962 10310868785128257487 10317200493486866249 10347598460686497002 10355201899108825121 10372305705109715310 10376257199530188900 10381554282200707959 10393150764044042303 10396788095722965079 10406072566714653130 10406968595914684696 10441014306508783904 10467536833783604536 10480240994573183306 10516647039625410985 10536610765659785954 10541919474793330952 10569340258133924038 10581856986681586426 10604799284453047183 10614978632209151501 10616256623057045520 10621421407656846787 10637174609757025916 10670794943890858674 10672091600978553987 10673425847211141876 10694046780102914285 10702970231321229450 10720550016074131030 10723953722910554980 10727001620993706942 10729658647540244350 10761702078011138932 10762623910127998594 10781758698161616399 10791445717627338409 10831492908230359233 10831797331714774646 10866529067157799844 10871119976816069116 10871776872590375147 10874516028539873179 10897087987942275050 10908958348992706717 10925737393583707632 10926756645167993970 1092691268083084902 1092712829803359676 10937890045983871788 10952802292633250856 10968569163016981509 10973987090884435463 10976840021260980593 11008589269813384527 1100966947262416027 11023477442458404265 11024203375837291289 11025294519693436957 11038896846946480293 11041927548231757568 11049917661888181347 11051298718054253422 11090624447689048639 1110915677904400903 11129603876713906745 11167051374375329886 11177788565882709289 11178552524495285361 11200141911180144536 11201574677873886403 11211763713871658216 11219965628151794368 11239946718600374811 11286159291688807424 11301650498047258591 11304192982945688042 11325272149209533203 11328429336942315377 11330620884267877987 11340857239027527507 11352706231874037562 11353574116278006448 11361219913736658477 1137070887508076001 11372061450413443372 11396303765029496465 11397132873701499283 11450471039354245984 11454198565047137557 1146247273048595514 11475570275143840164 11476754057170116184 11480986282361792748 11486829611921734470 11503576361144951659 11509617355411711063 11534376592495893930 11538332533953334398 11543362361798223223 1155076804983265900 11611077430324821914 11633051631584873941 11639333845458821218 11643070758013597270 11646224092277370429 1165127679163211509 11656309145011633010 11659042835180107234 11671601429527350004 11676208068801447217 11680828377759753637 11681262753875467960 11688595667677372102 11766095805107969937 11768232259165098742 11790788600110555277 11791866457116241727 11832601800645253746 11839386036603305533 11882478315535970956 11905571176542184379 11925521776510086186 11933933860520336507 11946775193098776654 11948342139358227797 11950727113701806389 11969360438466935277 11988069568784191057 11996924158451886263 120242369539498702 12025437572050371404 12027191689285572489 12032790295976170615 12034019467487751309 12044014586959506712 12059972656600602935 12064253860636443210 1208511538828443364 12101513743712170080 12104497628833343296 12155021132176821318 12158214168049884056 12166256726180321383 12175831941400318516 12222823886462015754 12230469484307376188 12247882869492046581 12273543267697887950 12288075704625220863 12295548907992929340 12310823151623626051 12323545915159221937 12348419875316006603 12353742970431284857 12356997443733843186 12366977544436400933 12373244771556954824 1238560818756334597 12391605491365176168 12400717076100142127 12404163539278589116 12444917121092536691 12473213727822286215 12509536728840133701 12519756987413701405 1256581765711182110 12571119328505863553 12576065751899408558 12587118702492164702 12590825261487270585 12592199678158174561 12593518460519358027 12623080606887102915 12637016143758664210 12662455602118718218 12678673545468429571 12684550821441279702 12728686974604975033 12732100629457466173 12765047364443595955 12774662984836469512 12808543514878979999 12849110997741174717 12875361651954098385 12887393529250500612 1289417381431482101 12899819504840810083 12904773560099290605 12922713040810478351 1293132999810012854 12939129042703116260 12942946923135000897 12946499048268041185 12955128498882827714 12956490167420010921 12965154174748445385 1296565347050295634 12979695628358662605 12998936221809810805 13006723167748902533 13006748835318475090 13010725745059942872 13017212577019401221 13017540209420631814 13021708069901817133 13028038057830088881 1302818010838968142 13028344184594752031 13028952412809121828 13034007463324390618 13037938888148429626 13040775819315093922 13041376486180744437 13045899207370973834 13047468668738769940 130528933781826585 13059880033759184417 13064426232530120135 13076179612878138461 13087459902874399011 13100820098790634661 13125466581382270712 1313591264928348367 13137030935726121981 13145425756886930505 13179142366910864176 13197094720468037712 13250144268512373978 13257731777480572057 13264720555136660622 13285212230012908088 13293278522216870357 13317510813358543726 13323250915318468581 13324863628147785931 13336792438980310741 13339421041787399152 13345000401816290301 13346967283515325981 13357960272748170402 13365059928913546291 13385270159788472748 13402852708388131628 13435091272583319140 13486943021702963257 13491472096552844809 13508855543064417976 13519038565780635715 13538461745895164082 1354360907486267025 13556226198960416937 13562364222116917212 13576472264945947260 13597047781087919511 1360635184774405475 13611496637772236303 13620040163536954242 13634266190600014065 1364700081938401382 13651001903959896736 13661994304730195722 13676339412707112082 13688552885558156408 13689090550659121678 1373489224513379233 13748159400615063395 13771593818642656276 13806397017491053139 13812840368697269998 13860996462507227654 13869559429796246568 13879052021777713169 13885459939859980170 13886411643645217736 13908407637118692525 13922710239614163659 139229996311836882 13938086093997822201 13968631385793754218 13984925442255506790 13989058246433693028 13991318713238748111 14004928932751053144 14020368203621630424 14021990604911411685 14025452257023767231 14025749560852139015 14026306711484780348 14034390977590628894 14037540054663733094 14045116600993959995 14048796252555921284 14052274008098725665 14055317632166879660 1407407416427294239 14078160224542711433 14094231379312221988 1409762886125530805 14100118706210337333 14118418072290727368 14123421751240595099 14139084885980221706 14159456925073309710 14175712173553858047 14181040433179734228 14187286735913707391 14207509947681407265 14208878511912374968 14209537574175468456 14222732959438470018 14278943907399586101 14292187967330861541 14303730079388853980 14326221599569317519 14330695437363589968 14341208312658128501 14344295837357563014 14344848229942242251 14352231292306933716 14357644968676576924 14367238128044181698 14367970088435459531 1437435109731755117 14386846644135166446 14396926926745168301 14421175656830609417 14423664171141384302 14461120733319266376 14465797521645732609 14498755782717424629 14501684233438257268 14503352041530479092 14514293763687092682 14520422249656839582 14525988407180133295 14532682987718967876 14553165979359043447 14558271687374050038 14562590592371512052 14566040591115400544 14574038004060956728 14589613700556196215 14594408779813515033 14619907914721987549 14621699482084230555 14681500943885198474 14690760904578911373 14691715735875725470 14715375836586320142 14727302321753863934 14733520717761196214 14735238947072918384 14754930218798152089 1475609658850546331 14757825805604826876 14758234480145991093 1476334000169463708 14776698524073123821 14778802017260749642 14787397546557929584 14787922711369062522 14813483844195567547 14814786306216358642 14837260786739039361 14859122029343369598 14878900710035283796 14883051263193240715 14899384139512093129 149025192992708590 14939353511540471046 14949689891709034529 14960570082518841785 14971295504716399489 1499870258581228568 15014946510003530966 15027631431586634419 15066887503731389693 15079964843909342607 15081694545203756920 15084793460177129991 15092956274488845490 15101906679289625688 15120328223171347904 15127812342876416166 15134043453926518249 15172885922535593721 15187354037156129328 15216283429677606171 15220508889398487690 15229025449299515456 15237669524487101135 15248470150810723914 15269649252321809084 15311965420255631779 15312981758616083683 15327430891364796876 15330035948000663773 1534232838627031257 15391874570153456678 15404842724439052339 15418550740861803810 15424315014303166381 1543436134050364981 15435627450088684827 1543590887899553430 15440852295757357727 15472384314285380652 15503111842360473545 15513656940195942363 15524393328644220467 15528559091363739856 15533359136354173330 15560247872556913507 15588330612867336775 15611137744126587483 15616280291674490772 15641888140040888468 15642832172567707638 15651625924984410054 15653976151854912923 15664268038740412968 15668992989364998488 15696901616622486103 15702381425233120548 15705056551898178092 15707369723165562387 15759242652409745145 15776667116330285612 15790145172377140024 15791513880918150524 15797988528330712031 15802991429826532843 15811756073369825763 15827713588734977933 15833864522927361444 15834094341053422019 15851816124310574496 15879560951196479819 15941114475185230568 15941282407279158857 15947325384392170954 15956961681893554087 15975742292868637039 15987658258029239946 15998930962809451477 16031143210491884263 16054305040069824445 16054813099853276261 1605756997165060256 16061790904668013917 1607298478365000215 16080959561848838729 16083696780244980717 16088765271991227070 16115601811328795923 16119377156709738978 16121292821377231063 16130013731111324895 16135845881563602939 16158392530844815533 16167510660636092310 16168104506118370829 16177701169273569547 16192550704094771035 1620443079972917243 16211219389537092270 16226924320831024832 1628573572239855333 16288772720176559826 16295067045624753199 16305100732999148149 16315453272285540009 16321034841197099722 16334895039087800265 16342865497913438482 16362978424532981079 16366460694588749436 16371197758135990461 16398055689787793203 16401048121668639618 16421985443649759253 16432046922257189856 16434624451033575939 16438031170187102566 16440053623128438409 16444442775392685955 16466737631046073957 16471279673341405565 16486649214549357747 16494456691807201141 16526261678186779604 16538782277712105740 16547915021522157269 1655705008447207900 16557859124294584276 16582184244915862160 16586280269712683921 1659337793100464359 16619816452881444758 16620669783610979104 16640006983914876792 16644504078160719021 16647460858651446208 16666897328175066534 16700299343955137856 1670062718485092502 16739018175965241380 16743512700221616654 16743531208721447484 16746152364764422231 16760106430417935695 16763055863184832947 16764570511233153205 16783041014255113004 16813036721609343191 16816538085054536418 1682211801545749600 16858577312284253181 16899594249536069213 16900177000457337102 16913396407455827725 16921917326506911512 16925797644299137970 16929397891856171895 16931150550930358892 16942317397112953182 1698086471925906767 16995721929705428282 17014934240520181659 17028009267633595957 17028038253094335778 17029935099810471239 17046083709118124554 17047747604386495948 17050260156788110227 17085499622100520677 17089677188948235856 17133328805806285612 17136834540953052547 17141185660300427685 17149370712245517509 17166964828829337088 17185864214601109517 17201436081761626928 17224931383988755689 17275703227213425834 17298164834259286057 17312120896783944837 1732062773528463552 17325197486916582126 17327128963742970199 17327897971521491832 17340124504832971417 17343418681501861162 1735302648878195592 17394479343671907850 1739608258054319029 1741346556129048050 17415087540485061498 17419352578576795234 17420038644787013327 17433190484368240517 17433331148913778059 17438462674944683136 17440041978512325148 17480002418000663176 1749316720478500134 17497352333771794752 17497887770023237638 17498375712819263901 17511550551083206214 1752271553497708987 17525743675316049449 1754307062874553789 17565477538923592291 17578705238759550855 17638070209178307687 17655681841204097771 17698918057503441316 17699496598577802011 17710368138751662864 17739695889261831754 17751201538866194426 17752197551602520904 17763475198122831166 17769403512422605437 17793357169752922128 17807249880344224220 17818582007127209806 17824328608708807927 17845867917837975337 17848871915563191264 17866618809410245783 17918215467093595080 17930926879786963727 17933221446978786477 1793733774359422638 17940108564509922798 1794360181115513653 17962359801676210765 17969885921233282061 17994474699528638062 18018996364760091305 18021510905780549562 18022449680064632844 18025273684600965039 18056667085511062649 18081073455277838945 18083424040614528501 18106037315190337493 18124914412284587637 18146961583079767199 18162735265489470641 18171197816025205519 18172241726489184624 18199519029308965358 18201292982300245558 18206079260481274434 18231683155544927878 18252330287076275698 18256768436675267661 18257777320900906451 1830671268529276992 18357273866285411712 1837182895622470640 18385837183950993755 18398104960745767187 18406065281139124171 1840856602067295751 18433167558023008636 1884609915095298059 19067844882028322 193072881592007647 1960795657183425593 1972542595167911436 1989277665711092966 2004524994852485883 202863425490804048 2042416497330040292 2056848221478334809 206176554345601658 2067816598497405153 2081825232194634117 2082797647584388595 2086589186589298948 2104848578260979344 2109775579317587449 2117654341172583145 2120360813935455686 2127079527163019695 2137905942602721629 2151013812736663432 2156976989321119248 2161187627655197585 2167404397118395302 2173892079285700921 2177867381220126153 2203183128800693234 2234142042137664506 2246144437918649138 224702438918032001 2253171596331777263 2262349269247885792 2290594649009594594 2298791850040047672 2317920812662655773 2331079867263214716 2333749115534505563 2364154622528611001 2379844428092588840 2385116770973952844 2420465374311014100 2435296813278709695 2455385521384715944 2491001635172480794 250344262265303403 2513271464507501552 2539110027177050305 2551833237273863444 2553689521081044065 2602708547080123029 261944660135090860 2642424826369532133 2663741977189308440 2665109465896755223 2675487506281420745 2678860613395801762 2679747633810387375 2689459299472182149 2689818382031072763 2701159188337512954 2705512912405782972 2707628813328488102 2710901537853630212 2728259209018237122 2733390435254453818 2740182001513579229 274864583237400404 276486966609231087 2819779400646009385 2830511687543620226 2833851546735542984 2835481580996191547 2855263582790012270 2865045235657151711 2876431943290774018 2882360936346361507 2896040395249669269 290495693657620299 2925623590790165770 2942969145776110016 2947497410206095064 2950041123861034322 2963515655759044513 2963540913498164816 2978463876585476138 2993564536899710346 2993590271497752912 3015055168184082569 3016302225591540677 3079763169948472727 3122232371991945388 3133069851571162404 3156991849967855045 3157296416844267274 3171367063165927747 318283579709362739 3182924712563021602 3183283873936911671 318399326911898343 3206977141324595655 3215734913568631882 3256413498898461898 3261996719750315008 3285601859104048875 3299034552558272204 3304450877379256688 3307942769257714737 3309323366366541469 3332144687544752660 3359875994518481861 3377282421012285829 3397017679343733224 3412029983010699334 3433212239745990277 3455007705665648166 3467935042951497465 3475516655254929086 3475861083479648500 3476975065450464517 3483214306447104246 3522648629986465095 3523933302193903797 3525770170410372287 3529993323684086539 3530964014915317376 3532164350905754014 3559544698907933357 3569121313041497523 360886462866949296 3610153690825536256 3618497774844714184 3634049397893658395 364069720612927200 3643189093965724766 3646446825793803367 3663116447481828644 367383747617504702 3678564105752852488 3688833843619292735 3727761364370125595 3731080062079711721 3762857391548623324 3773657597204147382 3786095767070879392 3807335005701982255 3822038530222622912 3837985627075646279 3854294369686074276 3859410662604057174 3879266531193013273 3893434253480744952 3913854466082447444 3916854798157402886 3934914866008439838 393789822915760882 3956783727784753520 3976967925985614552 3982295343929562059 3998127966359311839 4003819474857991351 4004600691169535367 4008541072045978264 4014903853004780678 4041458745838032520 4048466920959976295 405853828651534197 4075443904183635597 408639722616645166 4095846976117927155 4097859699780267869 4099486659294360497 4101916388403251538 4102121750868184353 4104172730931719985 4107864377746081420 4126095322138057150 4136984643137854976 4171613630988908002 4175521400092056258 4180356095412025283 4203857079481113478 4224663013152181418 4229951349587926948 4231176193821070197 4241298822816318358 4242716146900259011 4269933890716020366 4298708105229650058 4309701952370847250 4311642178477940165 4316085032789513355 4328914909614361974 4333337489668243819 4340538895545230788 4345065741298737832 4349666979135108827 4353897336520674934 4354849665905912341 438769341412485413 4408640410977656837 4410755345032846604 4427323552366408876 4450958645291695611 4462961396098312203 4469431672883374982 4472196465697201231 4490973462537410584 4497302114794399917 4498135851144468822 451313608475475808 4526880501560693454 4562823931177414887 4567438828261503750 4578618172106262743 4606248039999239370 4633351754155215486 4642447035569960998 4644785967485652174 4648714390147592122 4648748461049834811 4663105001584978486 4666887740338784840 4678217486470215099 4685550351710662371 4736238166387848415 4741115280403356976 475865143413437650 4794832108453259209 4797086784933072746 4814445042755046484 4826561368355108647 485504311388369715 4859594548406474750 4871756521123177374 4878795193855118627 4882067904866271981 4905054656150403363 4934709309693707913 4946510494952849780 4984515174049249821 5001558261478838928 5024378950311939757 5027156055828495821 503362359450229929 5035135504144412537 5039552753451654037 5043865745082972156 5045314174078711232 5052698289898459079 5054350955924698745 5061325528265981360 5070533030438429704 5076988525723998496 5083284621717279605 5105380144965188137 5185098527647843464 5193204939523510541 5195798331389331182 5196971440672591148 5210662805772807060 5214633110880648894 5217106837669861251 5243354333040894376 5245861564339991280 5246109253185484046 5261984251633196360 5266825798920524699 5272019194821936650 5290692824379882965 5296126352167418877 533587367002346393 5341942070585933945 5344265430210137812 5365631697693996805 5369510040831270252 5378561082585150435 5381973934570416909 5402426146533347617 5409677770294221720 5439978170521386388 5462113415029609651 5474554288232873822 5483110346216451158 5499304190142744273 5509279958451839687 5519644957523321884 5530981945961405664 5562672896049497191 5598149298476695386 5629079022381855141 5631349481026552431 5646114037124139349 5647138694725910425 5688951256906568837 5695938560509749022 5696006550399524300 5714675956354996194 5725997764183667042 5737109710702314301 5742934898694267952 5743211842539621388 57440672396009099 5745826582095896446 5765721363424065330 5766221467876534546 5775763263717036396 5788670272841874194 5830666932798552672 5848563387473071464 5856483921561983489 5857158993225147269 5877762243695513945 5911672554174616516 5992906289262913903 5997118230158808620 6001936610831685674 6016938842578775339 6017970767858294309 6020454983916368032 6020880414904807788 6027200024064412834 6033006685212602152 6041296720888858482 6042220509551659618 6046732036619936281 6057974716477510720 6084214980728036719 6094036291082806969 6097878851493451873 611058433633487134 6139048552977358903 61412777224887110 6143856282971897198 6147587945653040571 6154690433592958339 6161884952721025419 6167324155642124511 6169600091972064109 6174465802844840799 6182692146741411011 6270002005690392551 6281313459955922413 6282500266817981612 629031694973538157 6330810075272200056 6350200088096514036 6378248350762704914 6394787923807860552 6405484111728230984 6440516720136511929 6447234535294705294 6466843384844183952 6491011608482266113 6499593722521476165 6518410496306401278 6525280027532502394 6549738319431219952 6556656875544668359 6562886862950839170 6568153379422999111 6569773680165279200 656996252545091923 6571216659322144096 6579742660796764011 6589298878510923125 660288528245994655 6610087987430595191 6623950129940012337 662695910063898503 6629297140631314019 6656325332538657117 6661305742055335545 669476421598678631 6703166649146240100 6716462868000021962 6720322549802969939 6720706248440272337 6753250485161379245 6756234719858882590 6773512198998124817 6822437612677075589 6852536638967540099 6857879402059060887 6865805912481597230 6879218555927336162 688387232775458072 6909204433995017502 6918645272297189893 6923612552964581111 6936052512656954327 6956011032841915523 6958548824360396572 6969131039364724423 6977641103999458272 6978119088623066519 698098125779791047 7035607658023951812 703860818428918367 7061087604840384121 7076106576080291283 7076590885865337899 7083897378666890225 7090381731687694255 7096805528084801144 7098342484231259192 711518769144851377 713509212101576004 7154891949775283674 716699518334310544 7185705615803276907 7185767969165343742 7198758169887059916 7216750911322420551 7226728713437811070 7240985581443032718 7268531932552491723 7282554957079019057 7293918010620433171 7299183644919183975 7311188856904947533 7314210864994969716 7345806429857963964 7360717989631763665 7437591408168632766 7490504771628798416 7496755099315238989 7525865131571901863 7553726470320929674 7565380993451619309 7580134305442401188 759128362837317559 7591521009409660893 7632753168708172987 7638199424032957972 7667776513607254838 7676864797277994294 7693331274611089156 7719787245194182839 772209995042258955 7736944307171374648 7754865512022042867 7772004353376614909 7781646422941566398 7785391068581415767 7819013650207469627 7820191412811953689 7826705640794962541 7828666456920327229 7843805871644283917 7857070330985832008 7866180322686920121 7918443048904038730 7955876439594951362 7998146776504918719 800038524357863292 8038416621049470701 8074648359356450473 8075400025415438500 809551764120957695 8098179303373298293 8099378280568495225 8104077213420453159 8183185121583560067 8201038000426457563 8211693532785358731 8212742305851531779 8233322501034365259 8261954334493150538 8263033459323296257 8278986017425734162 8285758988902409157 8285797949057633767 8315323243184705818 8352846502673257237 8383278284435296087 8428601482176723603 8436724822079660606 8439158439181953339 8443283277005660708 8455217291075672707 8475811225684189147 8479362080758766246 848447092783622640 8487617874201913008 8489108564362225883 8500250481716667373 8507772238533891858 8582455952796496039 858471176182457986 8594599877477614943 8603762100909539802 863851099601181500 8645746241680836987 8670922656969203550 868153924925025628 8683203342136176703 870330590034603568 8713995682186744082 8714578247180813201 8729769682128046270 8730879016119453158 8754877521461481090 8781890180208237410 8785821085429740435 8791056302672623792 8804710244379895599 8841242540082190946 884514819877015536 8846634068079930265 8849468245644361905 8855042597784372859 8859348971734696731 8868000298924556859 887521574107535519 8880189188277171662 8894415372117756523 8895428341945621244 889805865009928905 8960430996418529702 8963998148558941032 9017979727590628755 903348470343222028 9038799521870598745 9044781107582494856 9054464448990002295 9058010303444497753 9059715254603846710 9090619113962473985 9093588285169294817 9109143199326487790 9129126745987883639 9144346897684041355 9157543141951588109 9215777710455293165 9218250987700809261 9227477482691884021 9284428069169770028 9292372299085106479 9293888811783018861 9296829687543741487 9302118817551230876 9382214373112971383 9386428971433129060 939614875097829403 9433859365154879337 9439485099131362275 9448358455585055104 9491720784737220468 9493079884515064237 9500116565288950866 9503643478791173149 9512047914848781448 9565457513047186065 9566075402079685109 9599515725749643663 9638358964422473783 9673711379089184567 9705502561138524217 9714412542239917199 9714725720225886560 971796985774593281 9723748562089616652 9756397985339081921 9757413297413169624 9759335553893257515 9786450809166381178 9788281646070743448 9803043205658786549 9824678700761046155 9825706177132119082 9830015163371814489 984770834411869012 986801654075169645 9869797074998641885 9886366579393336883 9889315670030055882 9911751398363431373 9953447848034504503 9954911008779732605 9991744757559926210"
end law_holds
noncomputable def yG:Prop:=∀ (hK:Params→Frag) (vw:Program),(∀ P,Mini.Internal.chkAll PySem.Challenge.rw_zu0062_01.row.prog (hK P) Mini.Internal.L1.P=true)→importsNone vw=true →
  ∀ {w:World} {s:Shared} {mg mb:Str→Option Value} {fa a:Addr} {vs:List Value} {ns:List Int} {mean':ExcName→Option Value} {cl:Str→Option Addr} {E:Value→Shared→Prop},(hK w.params).In s.heap →
  ∀ {loose:List Str} {mean:ExcName→Option Value},Top vw loose mean mg mb s.heap→s.gens = #[]→mg "law" = some (.ref fa)→s.heap.IsList a vs.toArray→IntsAre vs ns→¬ (63:Int) < ns.length →
  wpAny (model PySem.Challenge.rw_zu0062_01.row.prog w) callerA (call (.ref fa) [.ref a])
   (fun v s'=>GoodWG PySem.Challenge.rw_zu0062_01.row.claim cl mean' [ofPy (PyData.list (List.map PyData.int ns))] s (.ok (.ret v)) s') E s
set_option hygiene false
local macro_rules | `(tactic| refine $f:ident ($n1:ident:=$q) ($n2:ident:=$l) ($n3:ident:=$x) ($n4:ident:=$xp) ($n5:ident:=$yf) ($n6:ident:=$ya) ($n7:ident:=$yp) ($n8:ident:=$n) $hl $of $kp $rest*)=>`(tactic| refine ($f ($n1:ident:=$q) ($n2:ident:=$l) ($n3:ident:=$x) ($n4:ident:=$xp) ($n5:ident:=$yf) ($n6:ident:=$ya) ($n7:ident:=fun w h=>$yp w h∧yG) ($n8:ident:=$n) $hl (fun w s e=>⟨$of w s e,fin⟩) (fun w h h' s k=>⟨$kp w h h' s.1 k,s.2⟩) $rest*))
theorem law_holds (fin:yG):PySem.Challenge.rw_zu0062_01.Holds:=by
 w_on
 o_law
 k_head
 (case hw=>w_witness2)
 k_fill
 intro w s₀ s₁ mg mb G Y fa o pm cd doc dV kV ho hd hcd hD hmg hg args vals as hpre hlay hrd hwl hlo
 have KX:=kIn_of Y.1
 have fin:=Y.2
 have X:=(Ground.X G).1
 have V:=(Ground.X G).2
 refine Ground.open G ?_
 intro T B D TE TW
 try (refine guard_noD D (by decide +kernel) ?_;clear D)
 obtain ⟨_,_,M⟩:=bmod_of_top T
 have TA:=at_of_top T
 wrow_args hpre hlay hrd hwl hlo
 all_goals (apply fin _ _ ?chk ?imp KX T hg hmg;(case chk=>intro P;kernel_rfl);(case imp=>kernel_rfl);assumption;assumption;assumption)
end PJ1.Internal
end
section
set_option autoImplicit false
namespace Mini.Internal
open PySem PySem.Calls
open PySem.W (Frag)
structure Rh where
 l:List (Addr×Addr)
 z:List Addr
noncomputable instance:GetElem? Rh Nat (Addr×Addr) (fun ρ i=>i < ρ.l.length) where
 getElem ρ i h:=ρ.l[i]
 getElem? ρ i:=ρ.l[i]?
noncomputable instance:HAppend Rh (List (Addr×Addr)) Rh:=⟨fun ρ ps=>⟨ρ.l++ps,ρ.z⟩⟩
noncomputable def Rh.nil:Rh:=⟨[],[]⟩
theorem Rh.at_ (ρ:Rh) (i:Nat):ρ[i]?=ρ.l[i]?:=rfl
theorem Rh.app_l (ρ:Rh) (ps:List (Addr×Addr)):(ρ++ps).l=ρ.l++ps:=rfl
noncomputable def O.live:O→Bool
 | .dead=>false
 | _=>true
noncomputable def Own (ρ:Rh) (H:Hp) (a:Addr):Prop:=∃ (i:Nat) (p:Addr×Addr) (o:O),ρ[i]?=some p∧H[i]?=some o∧o.live=true∧(a=p.1∨a=p.2)
noncomputable def Shy (ρ:Rh) (H:Hp) (a:Addr):Prop:=Own ρ H a∨a∈ρ.z
mutual
inductive VR (ρ:Rh) (H:Hp) (h:Heap):V→Value→Prop
 | none:VR ρ H h .none .none
 | bool (b:Bool):VR ρ H h (.bool b) (.bool b)
 | int (i:Int) (t:Tok):VR ρ H h (.int i) (.int i t)
 | str (s:Nat) (t:Tok):VR ρ H h (.str s) (.str (nm s) t)
 | tup {a:Addr} {vs:List V} {items:Array Value}:h.IsTuple a items→a∉ρ.z→VRs ρ H h vs items.toList→VR ρ H h (.tup vs) (.ref a)
 | lst {a:Addr} {vs:List V} {items:Array Value}:h.IsList a items→¬ Shy ρ H a→VRs ρ H h vs items.toList→VR ρ H h (.lst vs) (.ref a)
 | ref {n:Nat} {p:Addr×Addr}:ρ[n]?=some p→VR ρ H h (.ref n) (.ref p.1)
inductive VRs (ρ:Rh) (H:Hp) (h:Heap):List V→List Value→Prop
 | nil:VRs ρ H h [] []
 | cons {v:V} {x:Value} {vs:List V} {xs:List Value}:VR ρ H h v x→VRs ρ H h vs xs→VRs ρ H h (v :: vs) (x :: xs)
end
theorem V.ind {p:V→Prop} {q:List V→Prop} (none:p .none) (bool:∀ b,p (.bool b)) (int:∀ i,p (.int i)) (str:∀ s,p (.str s)) (tup:∀ l,q l→p (.tup l)) (lst:∀ l,q l→p (.lst l)) (ref:∀ n,p (.ref n)) (nil:q []) (cons:∀ v l,p v→q l→q (v :: l)):(∀ v,p v)∧∀ l,q l :=
 ⟨V.rec none bool int str tup lst ref nil cons,V.rec_1 none bool int str tup lst ref nil cons⟩
theorem VR.ind {ρ:Rh} {H:Hp} {h:Heap} {p:V→Value→Prop} {q:List V→List Value→Prop} (none:p .none .none) (bool:∀ b,p (.bool b) (.bool b)) (int:∀ i t,p (.int i) (.int i t)) (str:∀ s t,p (.str s) (.str (nm s) t))
  (tup:∀ {a vs items},h.IsTuple a items→a∉ρ.z→q vs items.toList→p (.tup vs) (.ref a)) (lst:∀ {a vs items},h.IsList a items→¬ Shy ρ H a→q vs items.toList→p (.lst vs) (.ref a)) (ref:∀ {n r},ρ[n]?=some r→p (.ref n) (.ref r.1))
  (nil:q [] []) (cons:∀ {v x vs xs},p v x→q vs xs→q (v :: vs) (x :: xs)):(∀ {v x},VR ρ H h v x→p v x)∧∀ {vs xs},VRs ρ H h vs xs→q vs xs :=
 ⟨VR.rec (motive_1:=fun v x _=>p v x) (motive_2:=fun vs xs _=>q vs xs) none bool int str (fun a n _ i=>tup a n i) (fun a n _ i=>lst a n i) ref nil fun _ _ i j=>cons i j,
  VRs.rec (motive_1:=fun v x _=>p v x) (motive_2:=fun vs xs _=>q vs xs) none bool int str (fun a n _ i=>tup a n i) (fun a n _ i=>lst a n i) ref nil fun _ _ i j=>cons i j⟩
theorem VRs.ind {ρ:Rh} {H:Hp} {h:Heap} {q:List V→List Value→Prop} (nil:q [] []) (cons:∀ {v x vs xs},VR ρ H h v x→VRs ρ H h vs xs→q vs xs→q (v :: vs) (x :: xs)):∀ {vs xs},VRs ρ H h vs xs→q vs xs :=
 VRs.rec (motive_1:=fun _ _ _=>True) (motive_2:=fun vs xs _=>q vs xs) trivial (fun _=>trivial) (fun _ _=>trivial) (fun _ _=>trivial) (fun _ _ _ _=>trivial) (fun _ _ _ _=>trivial) (fun _=>trivial) nil fun a b _ j=>cons a b j
section
variable {ρ:Rh} {H:Hp} {h:Heap} {z:Value} {p:Value→Prop}
@[elab_as_elim] theorem VR.noneE (r:VR ρ H h .none z) (k:p .none):p z:=by cases r;exact k
@[elab_as_elim] theorem VR.boolE {b:Bool} (r:VR ρ H h (.bool b) z) (k:p (.bool b)):p z:=by cases r;exact k
@[elab_as_elim] theorem VRs.consE {ρ:Rh} {H:Hp} {h:Heap} {v:V} {vs:List V} {xs:List Value} {P:List Value→Prop} (r:VRs ρ H h (v :: vs) xs) (k:∀ {x xs},VR ρ H h v x→VRs ρ H h vs xs→P (x :: xs)):P xs:=by
 cases r with
 | cons a b=>exact k a b
@[elab_as_elim] theorem VR.intE {i:Int} (r:VR ρ H h (.int i) z) (k:∀ t,p (.int i t)):p z:=by cases r;exact k _
@[elab_as_elim] theorem VR.strE {i:Nat} (r:VR ρ H h (.str i) z) (k:∀ t,p (.str (nm i) t)):p z:=by cases r;exact k _
@[elab_as_elim] theorem VR.tupE {vs:List V} (r:VR ρ H h (.tup vs) z) (k:∀ {a items},h.IsTuple a items→a∉ρ.z→VRs ρ H h vs items.toList→p (.ref a)):p z:=by cases r with | tup a b c=>exact k a b c
@[elab_as_elim] theorem VR.lstE {vs:List V} (r:VR ρ H h (.lst vs) z) (k:∀ {a items},h.IsList a items→¬ Shy ρ H a→VRs ρ H h vs items.toList→p (.ref a)):p z:=by cases r with | lst a b c=>exact k a b c
@[elab_as_elim] theorem VR.refE {n:Nat} (r:VR ρ H h (.ref n) z) (k:∀ {q},ρ[n]?=some q→p (.ref q.1)):p z:=by cases r with | ref e=>exact k e
end
structure Lasts (ρ:Rh) (H:Hp) (h:Heap) (ρ':Rh) (H':Hp) (h':Heap):Prop where
 ext:ρ.l <+: ρ'.l
 tup:∀ a items,h.IsTuple a items→a∉ρ.z→h'.IsTuple a items∧a∉ρ'.z
 lst:∀ a items,h.IsList a items→¬ Shy ρ H a→h'.IsList a items∧¬ Shy ρ' H' a
theorem bU {α:Type} {l l':List α} (h:l <+: l') {i:Nat} {x:α} (e:l[i]?=some x):l'[i]?=some x:=by
 refine aG h fun t hh1_=>?_
 subst hh1_
 have hi:i < l.length:=by
  refine Or.elim (Nat.lt_or_ge i l.length) (fun q=>?_) fun q=>?_
  ·exact q
  ·rw [List.getElem?_eq_none q] at e;cases e
 rw [List.getElem?_append_left hi];exact e
theorem iD {ρ ρ':Rh} {H H':Hp} {h h':Heap} (L:Lasts ρ H h ρ' H' h'):(∀ {v:V} {x:Value},VR ρ H h v x→VR ρ' H' h' v x)∧∀ {v:List V} {x:List Value},VRs ρ H h v x→VRs ρ' H' h' v x :=
 VR.ind .none .bool .int .str (fun a n b=>.tup (L.tup _ _ a n).1 (L.tup _ _ a n).2 b) (fun a n b=>.lst (L.lst _ _ a n).1 (L.lst _ _ a n).2 b) (fun e=>.ref (bU L.ext e)) .nil fun a b=>.cons a b
section
variable {ρ ρ':Rh} {H H':Hp} {h h':Heap}
theorem VR.lasts (L:Lasts ρ H h ρ' H' h') {v:V} {x:Value} (r:VR ρ H h v x):VR ρ' H' h' v x:=(iD L).1 r
theorem VRs.lasts (L:Lasts ρ H h ρ' H' h') {v:List V} {x:List Value} (r:VRs ρ H h v x):VRs ρ' H' h' v x:=(iD L).2 r
theorem VRs.length {v:List V} {x:List Value} (r:VRs ρ H h v x):v.length=x.length:=VRs.ind (q:=fun v x=>v.length=x.length) rfl (fun _ _ b=>congrArg (· + 1) b) r
theorem VRs.append {v v':List V} {x x':List Value} (r:VRs ρ H h v x) (y:VRs ρ H h v' x'):VRs ρ H h (v++v') (x++x'):=VRs.ind (q:=fun v x=>VRs ρ H h (v++v') (x++x')) y (fun a _ b=>.cons a b) r
theorem VRs.get {vs:List V} {xs:List Value} (r:VRs ρ H h vs xs):∀ {i:Nat} {v:V},vs[i]?=some v→∃ x,xs[i]?=some x∧VR ρ H h v x :=
 VRs.ind (q:=fun vs xs=>∀ {i:Nat} {v:V},vs[i]?=some v→∃ x,xs[i]?=some x∧VR ρ H h v x) (fun e=>by cases e) (by
  intro _ _ _ _ a _ b i v e
  induction i using Nat.casesAuxOn with
  | zero=>cases e;exact ⟨_,rfl,a⟩
  | succ i=>exact b e) r
theorem VRs.set {vs:List V} {xs:List Value} (r:VRs ρ H h vs xs):∀ (i:Nat) {v:V} {x:Value},VR ρ H h v x→VRs ρ H h (vs.set i v) (xs.set i x) :=
 VRs.ind (q:=fun vs xs=>∀ (i:Nat) {v:V} {x:Value},VR ρ H h v x→VRs ρ H h (vs.set i v) (xs.set i x)) (fun _ _ _ _=>.nil) (by
  intro _ _ _ _ a y b i v x q
  induction i using Nat.casesAuxOn with
  | zero=>exact .cons q y
  | succ i=>exact .cons a (b i q)) r
theorem VRs.take {vs:List V} {xs:List Value} (n:Nat) (r:VRs ρ H h vs xs):VRs ρ H h (vs.take n) (xs.take n) :=
 VRs.ind (q:=fun vs xs=>∀ n,VRs ρ H h (vs.take n) (xs.take n)) (fun n=>by induction n using Nat.casesAuxOn<;>exact .nil) (by
  intro _ _ _ _ a y b n
  induction n using Nat.casesAuxOn with
  | zero=>exact .nil
  | succ n=>exact .cons a (b n)) r n
theorem VRs.drop {vs:List V} {xs:List Value} (n:Nat) (r:VRs ρ H h vs xs):VRs ρ H h (vs.drop n) (xs.drop n) :=
 VRs.ind (q:=fun vs xs=>∀ n,VRs ρ H h (vs.drop n) (xs.drop n)) (fun n=>by induction n using Nat.casesAuxOn<;>exact .nil) (by
  intro _ _ _ _ a y b n
  induction n using Nat.casesAuxOn with
  | zero=>exact .cons a y
  | succ n=>exact b n) r n
end
theorem VRs.dropLast {ρ:Rh} {H:Hp} {h:Heap} {vs:List V} {xs:List Value} (x:VRs ρ H h vs xs):VRs ρ H h vs.dropLast xs.dropLast:=by
 rw [List.dropLast_eq_take,List.dropLast_eq_take,x.length];exact x.take _
theorem kJ {n f:Nat} (h0:n≠0) (h:n≤f + 1):n / 256≤f:=Nat.le_of_lt_succ (Nat.lt_of_lt_of_le (Nat.div_lt_self (Nat.pos_of_ne_zero h0) (by decide)) h)
theorem dP (f:Nat) {n:Nat} (h:n≠0):rS (f + 1) n=n % 256 :: rS f (n / 256):=if_neg h
theorem pB:∀ (f n:Nat),n≤f→(rS f n).foldr (fun a r=>a + 256 * r) 0=n:=by
 intro f
 induction f with
 | zero=>exact fun n h=>(Nat.le_zero.mp h).symm
 | succ f ih =>
  intro n h
  by_cases h0:n=0
  ·rw [h0];rfl
  ·rw [dP f h0]
   exact (congrArg (n % 256 + 256 * ·) (ih (n / 256) (kJ h0 h))).trans (Nat.mod_add_div n 256)
theorem fp {m n:Nat} (e:nm m=nm n):m=n :=
 (pB m m (Nat.le_refl _)).symm.trans ((congrArg (fun x:Str=>x.1.toList.foldr (fun a r=>a + 256 * r) 0) e).trans (pB n n (Nat.le_refl _)))
theorem uY:∀ (f n:Nat),∀ c∈rS f n,c < 256:=by
 intro f
 induction f with
 | zero=>exact fun n c hc=>absurd hc List.not_mem_nil
 | succ f ih =>
  intro n c hc
  by_cases h0:n=0
  ·rw [h0] at hc;exact absurd hc List.not_mem_nil
  ·rw [dP f h0] at hc
   exact (List.mem_cons.mp hc).elim (fun e=>e▸Nat.mod_lt _ (by decide)) (ih _ c)
theorem iy (a b:Nat):Nat.beq a b=decide (a=b):=by
 cases h:Nat.beq a b with
 | true=>rw [Nat.eq_of_beq_eq_true h];simp
 | false=>exact (decide_eq_false (Nat.ne_of_beq_eq_false h)).symm
theorem pV {α:Type} {i j:Nat} {x y:α}:(bif Nat.beq i j then x else y)=if i=j then x else y:=(congrArg (cond · x y) (iy i j)).trans (Bool.cond_decide _ _ _)
theorem aA {α:Type} (j:Nat) (v:α) (r:List (Nat×α)) (i:Nat):lk ((j,v) :: r) i=if i=j then some v else lk r i:=pV
theorem qZ (i:Nat) (v:V):ak [] i v=[(i,v)]:=rfl
theorem iz (j:Nat) (w:V) (r:Lo) (i:Nat) (v:V):ak ((j,w) :: r) i v=if i=j then (j,v) :: r else (j,w) :: ak r i v:=pV
theorem cM (lo:Lo) (i j:Nat) (v:V):lk (ak lo i v) j=if j=i then some v else lk lo j:=by
 induction lo with
 | nil=>rw [qZ,aA]
 | cons p r ih =>
  obtain ⟨k,w⟩:=p
  rw [iz,aA]
  by_cases hik:i=k
  ·subst hik
   rw [if_pos rfl,aA]
   by_cases e:j=i<;>simp [e]
  ·rw [if_neg hik,aA,ih]
   by_cases e:j=k
   ·subst e;simp [Ne.symm hik]
   ·simp [e]
theorem kW (a b:Nat):(nm a==nm b)=Nat.beq a b:=by
 cases h:Nat.beq a b with
 | true=>rw [Nat.eq_of_beq_eq_true h];exact beq_self_eq_true _
 | false =>
  refine beq_eq_false_iff_ne.mpr fun e=>?_
  rw [fp e,Nat.beq_refl] at h;cases h
end Mini.Internal
end
section
set_option autoImplicit false
namespace Mini.Internal
open PySem PySem.Calls
mutual
noncomputable def V.py:V→PyData
 | .none=>.none
 | .bool b=>.bool b
 | .int i=>.int i
 | .str s=>.str (nm s)
 | .tup l=>.tuple (V.pys l)
 | .lst l=>.list (V.pys l)
 | .ref _=>.none
noncomputable def V.pys:List V→List PyData
 | []=>[]
 | v :: vs=>V.py v :: V.pys vs
end
theorem cA {a b:Bool} (h:(a&&b)=true):a=true:=by induction a using Bool.casesOn;exact ff h;rfl
theorem cz {a b:Bool} (h:(a&&b)=true):b=true:=by induction a using Bool.casesOn;exact ff h;exact h
theorem xN {a b:Bool} (h:(a||b)=true):a=true∨b=true:=by induction a using Bool.casesOn;exact .inr h;exact .inl rfl
theorem uf {b:Bool} (h:(!b)=true):b=false:=by induction b using Bool.casesOn;rfl;exact ff h
theorem mA {a b:Bool} (h:a=true) (g:b=true):(a&&b)=true:=by rw [h,g];rfl
theorem fK {v:V} {vs:List V} {n:Nat} (e:V.deps (v :: vs)=some n):∃ i j,V.dep v=some i∧V.deps vs=some j∧n=max i j :=
 bsE e fun i hi e=>msE e fun j hj e=>⟨i,j,hi,hj,e.symm⟩
theorem jE {v:V} {vs:List V} {i j:Nat} (h:V.dep v=some i) (g:V.deps vs=some j):V.deps (v :: vs)=some (max i j) :=
 Option.bind_eq_some_iff.mpr ⟨i,h,Option.map_eq_some_iff.mpr ⟨j,g,rfl⟩⟩
noncomputable def xG (h:Heap) (v:V) (x:Value):Prop:=∀ {n:Nat},V.dep v=some n→∃ as,Reads h x (V.py v) as∧(V.py v).canLay0=true∧(V.py v).depth≤n
noncomputable def vv (h:Heap) (vs:List V) (xs:List Value):Prop:=∀ {n:Nat},V.deps vs=some n→∃ as,ReadsAll h xs (V.pys vs) as∧PyData.canLayAll0 (V.pys vs)=true∧PyData.depthAll (V.pys vs)≤n
theorem iq {ρ:Rh} {H:Hp} {h:Heap}:(∀ {v:V} {x:Value},VR ρ H h v x→xG h v x)∧∀ {vs:List V} {xs:List Value},VRs ρ H h vs xs→vv h vs xs:=by
 refine VR.ind (fun _=>⟨_,.none,rfl,Nat.zero_le _⟩) (fun b _ _=>⟨_,.bool b,rfl,Nat.zero_le _⟩) (fun i t _ _=>⟨_,.int i t,rfl,Nat.zero_le _⟩) (fun s t _ _=>⟨_,.str _ t,?_,Nat.zero_le _⟩) (fun {a vs items} t _ b n e=>?_) (fun {a vs items} t _ b n e=>?_) (fun _ _ e=>by exact nn e) (fun _=>⟨_,.nil,rfl,Nat.zero_le _⟩) fun {v x vs xs} a b n e=>?_
 ·exact Array.all_eq_true_iff_forall_mem.mpr fun c hc=>decide_eq_true (Nat.lt_trans (uY _ _ c (List.mem_toArray.mp hc)) (by decide))
 ·refine t5 t fun o ho hc m hd=>?_
  refine msE e fun k hk e=>?_
  refine ay (b hk) fun as r l d=>?_
  exact ⟨as,.tuple ho hc hd r,l,e▸Nat.succ_le_succ d⟩
 ·refine t5 t fun o ho hc m hd=>?_
  refine msE e fun k hk e=>?_
  refine ay (b hk) fun as r l d=>?_
  exact ⟨_,.list ho hc hd r,l,e▸Nat.succ_le_succ d⟩
 ·refine aW (fK e) fun i j hi hj e=>?_
  refine ay (a hi) fun as r l d=>?_
  refine ay (b hj) fun bs r' l' d'=>?_
  refine ⟨_,.cons r r',mA l l',?_⟩
  rw [e]
  exact Nat.max_le.mpr ⟨Nat.le_trans d (Nat.le_max_left _ _),Nat.le_trans d' (Nat.le_max_right _ _)⟩
theorem VR.reads {ρ:Rh} {H:Hp} {h:Heap} {v:V} {x:Value} (r:VR ρ H h v x) {n:Nat} (e:V.dep v=some n):∃ as,Reads h x (V.py v) as∧(V.py v).canLay0=true∧(V.py v).depth≤n:=iq.1 r e
theorem VRs.reads {ρ:Rh} {H:Hp} {h:Heap} {vs:List V} {xs:List Value} (r:VRs ρ H h vs xs) {n:Nat} (e:V.deps vs=some n):∃ as,ReadsAll h xs (V.pys vs) as∧PyData.canLayAll0 (V.pys vs)=true∧PyData.depthAll (V.pys vs)≤n:=iq.2 r e
set_option tactic.hygienic true in
theorem vq:(∀ a b:V,(V.dep a).isSome=true→(V.dep b).isSome=true→PyData.eqv (V.py a) (V.py b)=V.beq a b)∧∀ a b:List V,(V.deps a).isSome=true→(V.deps b).isSome=true→PyData.eqvAll (V.pys a) (V.pys b)=V.beqs a b:=by
 refine V.ind (fun b _ hb=>?_) (fun x b _ hb=>?_) (fun x b _ hb=>?_) (fun x b _ hb=>?_) (fun l ih b ha hb=>?_) (fun l ih b ha hb=>?_) (fun n b ha _=>by exact ff ha) (fun b _ _=>by induction b using List.casesOn<;>rfl) fun x xs ih ihs b ha hb=>?_
 ·induction b using Mini.Internal.V.casesOn<;>first | rfl | exact ff hb
 ·induction b using Mini.Internal.V.casesOn<;>first | rfl | (rename_i y;induction x using Bool.casesOn<;>induction y using Bool.casesOn<;>rfl) | cases hb
 ·induction b using Mini.Internal.V.casesOn<;>first | rfl | cases hb
 ·induction b using Mini.Internal.V.casesOn<;>first | rfl | (cases hb;done) | skip
  rename_i y
  show (nm x==nm y)=(x==y)
  rw [kW]
  exact Bool.eq_iff_iff.mpr (by simp)
 ·induction b using Mini.Internal.V.casesOn<;>first | rfl | (cases hb;done) | exact ih _ ((Option.isSome_map ..).symm.trans ha) ((Option.isSome_map ..).symm.trans hb)
 ·induction b using Mini.Internal.V.casesOn<;>first | rfl | (cases hb;done) | exact ih _ ((Option.isSome_map ..).symm.trans ha) ((Option.isSome_map ..).symm.trans hb)
 ·induction b using List.casesOn with
  | nil=>rfl
  | cons y ys =>
   refine aG (Option.isSome_iff_exists.mp ha) fun n hn=>?_
   refine aG (Option.isSome_iff_exists.mp hb) fun m hm=>?_
   refine aW (fK hn) fun i j hi hj _=>?_
   refine aW (fK hm) fun i' j' hi' hj' _=>?_
   show (PyData.eqv (V.py x) (V.py y)&&PyData.eqvAll (V.pys xs) (V.pys ys))=_
   rw [ih y (by rw [hi];rfl) (by rw [hi'];rfl),ihs ys (by rw [hj];rfl) (by rw [hj'];rfl)];rfl
theorem pX (a b:V) (ha:(V.dep a).isSome=true) (hb:(V.dep b).isSome=true):PyData.eqv (V.py a) (V.py b)=V.beq a b:=vq.1 a b ha hb
theorem cf {v:V} (h:v.flat=true):∃ n,V.dep v=some n∧n≤60 :=
 ((Option.any_eq_true ..).mp h).elim fun n h=>⟨n,h.1,Nat.le_of_ble_eq_true h.2⟩
theorem o8 {v:V} {n:Nat} (h:V.dep v=some n) (g:n≤60):v.flat=true:=(Option.any_eq_true ..).mpr ⟨n,h,Nat.ble_eq_true_of_le g⟩
theorem o7 {l:List V}:V.flats l=true→∃ n,V.deps l=some n∧n≤60:=by
 induction l with
 | nil=>exact fun _=>⟨0,rfl,Nat.zero_le _⟩
 | cons v vs ih =>
  intro h
  refine ae (cf (cA h)) fun m hm h1=>?_
  refine ae (ih (cz h)) fun n hn h2=>?_
  exact ⟨max m n,jE hm hn,Nat.max_le.mpr ⟨h1,h2⟩⟩
theorem td {l:List V} {a:V} (hl:V.flats l=true) (ha:a.flat=true):((V.pys l).any fun y=>PyData.eqv y (V.py a))=l.any fun y=>V.beq y a:=by
 refine ae (cf ha) fun m hm _=>?_
 induction l with
 | nil=>rfl
 | cons v vs ih =>
  refine ae (cf (cA hl)) fun k hk _=>?_
  show (PyData.eqv (V.py v) (V.py a)||((V.pys vs).any fun y=>PyData.eqv y (V.py a)))=_
  rw [ih (cz hl),pX v a (by rw [hk];rfl) (by rw [hm];rfl)];rfl
theorem qL:(∀ a b:V,V.same a b=true→a=b)∧∀ a b:List V,V.sames a b=true→a=b:=by
 refine V.ind (fun b h=>?_) (fun x b h=>?_) (fun x b h=>?_) (fun x b h=>?_) (fun l ih b h=>?_) (fun l ih b h=>?_) (fun n b h=>?_) (fun b h=>by induction b using List.casesOn;rfl;exact ff h) fun x xs ih ihs b h=>?_
 ·induction b using Mini.Internal.V.casesOn<;>first | rfl | exact ff h
 ·induction b using Mini.Internal.V.casesOn<;>first | exact congrArg _ (beq_iff_eq.mp h) | exact ff h
 ·induction b using Mini.Internal.V.casesOn<;>first | exact congrArg _ (beq_iff_eq.mp h) | exact ff h
 ·induction b using Mini.Internal.V.casesOn<;>first | exact congrArg _ (beq_iff_eq.mp h) | exact ff h
 ·induction b using Mini.Internal.V.casesOn<;>first | exact congrArg _ (ih _ h) | exact ff h
 ·induction b using Mini.Internal.V.casesOn<;>first | exact congrArg _ (ih _ h) | exact ff h
 ·induction b using Mini.Internal.V.casesOn<;>first | exact congrArg _ (beq_iff_eq.mp h) | exact ff h
 ·induction b using List.casesOn with
  | nil=>exact ff h
  | cons y ys=>rw [ih y (cA h),ihs ys (cz h)]
theorem nM (a b:V) (h:V.same a b=true):a=b:=qL.1 a b h
theorem same_self (a:V):V.same a a=true :=
 (V.ind (p:=fun a=>V.same a a=true) (q:=fun l=>V.sames l l=true) rfl (fun x=>beq_self_eq_true x) (fun x=>beq_self_eq_true x) (fun x=>beq_self_eq_true x) (fun _ h=>h) (fun _ h=>h) (fun x=>beq_self_eq_true x) rfl fun v l h g=>show (V.same v v&&V.sames l l)=true by rw [h,g];rfl).1 a
noncomputable instance:DecidableEq V:=fun a b=>if h:V.same a b=true then .isTrue (nM a b h) else .isFalse fun e=>h (e▸same_self a)
theorem b8 (a b:V):V.same a b=decide (a=b):=by
 cases h:V.same a b with
 | true=>rw [nM a b h];simp
 | false =>
  symm
  refine decide_eq_false fun e=>?_
  rw [e,same_self] at h;cases h
theorem rt:(∀ a n (b:V),V.key n a=true→V.key n b=true→V.beq a b=V.same a b)∧∀ a n (b:List V),V.keys n a=true→V.keys n b=true→V.beqs a b=V.sames a b:=by
 refine V.ind (fun n b h=>by exact ff h) (fun _ n b h=>by exact ff h) (fun i n b _ h=>?_) (fun i n b _ h=>?_) (fun l ih n b ha hb=>?_) (fun _ _ n b h=>by exact ff h) (fun _ n b h=>by exact ff h) (fun n b _ _=>by induction b using List.casesOn<;>rfl) fun v l ih ihs n b ha hb=>?_
 ·induction b using Mini.Internal.V.casesOn<;>first | rfl | exact ff h
 ·induction b using Mini.Internal.V.casesOn<;>first | rfl | cases h
 ·induction n using Nat.casesAuxOn with
  | zero=>exact ff ha
  | succ n=>induction b using Mini.Internal.V.casesOn<;>first | rfl | (cases hb;done) | exact ih n _ ha hb
 ·induction b using List.casesOn with
  | nil=>rfl
  | cons y ys =>
   have ha:(V.key n v&&V.keys n l)=true:=ha
   have hb:(V.key n y&&V.keys n ys)=true:=hb
   show (V.beq v y&&V.beqs l ys)=(V.same v y&&V.sames l ys)
   rw [ih n y (cA ha) (cA hb),ihs n ys (cz ha) (cz hb)]
theorem oP (n:Nat) (a b:V) (ha:V.key n a=true) (hb:V.key n b=true):V.beq a b=V.same a b:=rt.1 a n b ha hb
theorem rq:(∀ a n,V.key n a=true→∃ k,V.dep a=some k∧k≤n)∧∀ a n,V.keys n a=true→∃ k,V.deps a=some k∧k≤n:=by
 refine V.ind (fun n h=>by exact ff h) (fun _ n h=>by exact ff h) (fun i n _=>⟨0,rfl,Nat.zero_le _⟩) (fun i n _=>⟨0,rfl,Nat.zero_le _⟩) (fun l ih n h=>?_) (fun _ _ n h=>by exact ff h) (fun _ n h=>by exact ff h) (fun n _=>⟨0,rfl,Nat.zero_le _⟩) fun v l ih ihs n h=>?_
 ·induction n using Nat.casesAuxOn with
  | zero=>exact ff h
  | succ n =>
   refine ae (ih n h) fun k hk g=>?_
   exact ⟨k + 1,by show (V.deps l).map _=_;rw [hk];rfl,Nat.succ_le_succ g⟩
 ·have h:(V.key n v&&V.keys n l)=true:=h
  refine ae (ih n (cA h)) fun i hi g=>?_
  refine ae (ihs n (cz h)) fun j hj g'=>?_
  exact ⟨max i j,jE hi hj,Nat.max_le.mpr ⟨g,g'⟩⟩
theorem oO (n:Nat) (a:V) (h:V.key n a=true):∃ k,V.dep a=some k∧k≤n:=rq.1 a n h
theorem rp:(∀ a n m,n≤m→V.key n a=true→V.key m a=true)∧∀ a n m,n≤m→V.keys n a=true→V.keys m a=true:=by
 refine V.ind (fun n m _ h=>by exact ff h) (fun _ n m _ h=>by exact ff h) (fun i n m _ _=>by induction m using Nat.casesAuxOn<;>rfl) (fun i n m _ _=>by induction m using Nat.casesAuxOn<;>rfl) (fun l ih n m q h=>?_) (fun _ _ n m _ h=>by exact ff h) (fun _ n m _ h=>by exact ff h) (fun n m _ _=>rfl) fun v l ih ihs n m q h=>?_
 ·induction n using Nat.casesAuxOn with
  | zero=>exact ff h
  | succ n =>
   induction m using Nat.casesAuxOn with
   | zero=>cases q
   | succ m=>exact ih n m (Nat.le_of_succ_le_succ q) h
 ·have h:(V.key n v&&V.keys n l)=true:=h
  show (V.key m v&&V.keys m l)=true
  rw [ih n m q (cA h),ihs n m q (cz h)];rfl
theorem gY (n m:Nat) (a:V) (q:n≤m) (h:V.key n a=true):V.key m a=true:=rp.1 a n m q h
mutual
inductive KR (h:Heap):V→Value→Prop
 | int (i:Int) (t:Tok):KR h (.int i) (.int i t)
 | str (s:Nat) (t:Tok):KR h (.str s) (.str (nm s) t)
 | tup {a:Addr} {vs:List V} {items:Array Value}:h.IsTuple a items→KRs h vs items.toList→KR h (.tup vs) (.ref a)
inductive KRs (h:Heap):List V→List Value→Prop
 | nil:KRs h [] []
 | cons {v:V} {x:Value} {vs:List V} {xs:List Value}:KR h v x→KRs h vs xs→KRs h (v :: vs) (x :: xs)
end
theorem wB {ρ:Rh} {H:Hp} {h:Heap}:(∀ {v x},VR ρ H h v x→∀ n,V.key n v=true→KR h v x)∧∀ {v x},VRs ρ H h v x→∀ n,V.keys n v=true→KRs h v x:=by
 refine VR.ind (fun n h=>by exact ff h) (fun _ n h=>by exact ff h) (fun i t n _=>.int i t) (fun s t n _=>.str s t) (fun {a vs items} t _ b n h=>?_) (fun _ _ _ n h=>by exact ff h) (fun _ n h=>by exact ff h) (fun n _=>.nil) fun {v x vs xs} a b n h=>?_
 ·induction n using Nat.casesAuxOn with
  | zero=>exact ff h
  | succ n=>exact .tup t (b n h)
 ·have h:(V.key n v&&V.keys n vs)=true:=h
  exact .cons (a n (cA h)) (b n (cz h))
theorem VR.kr {ρ:Rh} {H:Hp} {h:Heap} {n:Nat} {v:V} {x:Value} (r:VR ρ H h v x) (k:V.key n v=true):KR h v x:=wB.1 r n k
theorem KR.ind {h:Heap} {p:V→Value→Prop} {q:List V→List Value→Prop} (int:∀ i t,p (.int i) (.int i t)) (str:∀ s t,p (.str s) (.str (nm s) t)) (tup:∀ {a vs items},h.IsTuple a items→KRs h vs items.toList→q vs items.toList→p (.tup vs) (.ref a))
  (nil:q [] []) (cons:∀ {v x vs xs},p v x→q vs xs→q (v :: vs) (x :: xs)):(∀ {v x},KR h v x→p v x)∧∀ {vs xs},KRs h vs xs→q vs xs :=
 ⟨KR.rec (motive_1:=fun v x _=>p v x) (motive_2:=fun vs xs _=>q vs xs) int str (fun a b i=>tup a b i) nil fun _ _ i j=>cons i j,
  KRs.rec (motive_1:=fun v x _=>p v x) (motive_2:=fun vs xs _=>q vs xs) int str (fun a b i=>tup a b i) nil fun _ _ i j=>cons i j⟩
theorem KR.vr {h:Heap} {v:V} {x:Value} (r:KR h v x):VR .nil [] h v x:=(KR.ind (q:=VRs .nil [] h) .int .str (fun a _ b=>.tup a List.not_mem_nil b) .nil fun a b=>.cons a b).1 r
theorem KR.keeps {h h':Heap} (k:∀ a items,h.IsTuple a items→h'.IsTuple a items) {v:V} {x:Value} (r:KR h v x):KR h' v x:=(KR.ind (q:=KRs h') .int .str (fun a _ b=>.tup (k _ _ a) b) .nil fun a b=>.cons a b).1 r
theorem iF {h:Heap} {a:Addr} {x y:Array Value} (p:h.IsTuple a x) (q:h.IsTuple a y):x=y:=by
 refine t5 p fun o ho _ n hd=>?_
 refine t5 q fun o' ho' _ n' hd'=>?_
 rw [ho] at ho';cases ho'
 rw [hd] at hd';cases hd';rfl
theorem KR.inj {h:Heap} {v w:V} {x:Value} (r:KR h v x) (y:KR h w x):v=w:=by
 refine (KR.ind (h:=h) (p:=fun v x=>∀ w,KR h w x→v=w) (q:=fun v x=>∀ w,KRs h w x→v=w) (fun i t w y=>?_) (fun s t w y=>?_) (fun {a vs items} t _ b w y=>?_) (fun w y=>by cases y;rfl) fun {v x vs xs} a b w y=>?_).1 r w y
 ·cases y;rfl
 ·generalize hx:Value.str (nm s) t=x at y
  induction y using Mini.Internal.KR.casesOn with
  | int=>cases hx
  | str s' t'=>injection hx with e _;rw [fp e]
  | tup=>cases hx
 ·cases y with
  | tup a' b'=>cases iF t a';rw [b _ b']
 ·cases y with
  | cons a' b'=>rw [a _ a',b _ b']
mutual
noncomputable def keyHash (w:World):V→Int
 | .int i=>hashInt i
 | .str s=>hashStr w (nm s)
 | .tup l=>reduceHash (Builtin.Tuple.tupleHashOf (fF w l))
 | _=>0
noncomputable def fF (w:World):List V→List Int
 | []=>[]
 | v :: vs=>keyHash w v :: fF w vs
end
mutual
noncomputable def dM:V→Nat
 | .tup l=>cO l + 1
 | _=>1
noncomputable def cO:List V→Nat
 | []=>0
 | v :: vs=>dM v + cO vs
end
section
variable {prog:Program} {w:World}
theorem lG {A:Around} {E:Value→Shared→Prop} {s:Shared} {Q:Int→Shared→Prop} {i:Int} (h:Q (reduceHash i) s):wpAny (model prog w) A (pyHashByItsType.reduced i) Q E s:=by
 unfold reduceHash at h
 show wpAny _ _ (if (decide (-(2:Int) ^ 63≤i)&&decide (i < 2 ^ 63))=true then _ else _) Q E s
 by_cases hr:(decide (-(2:Int) ^ 63≤i)&&decide (i < 2 ^ 63))=true
 ·rw [if_pos hr]
  rw [if_pos hr] at h
  exact wpAny_pure h
 ·rw [if_neg hr]
  rw [if_neg hr] at h
  exact wpAny_bind (wpAny_rule (wpAny_pure h))
theorem rE {h₀:Heap}:(∀ {v x},KR h₀ v x→∀ (n:Nat) (A:Around) (E:Value→Shared→Prop) (s:Shared) (Q:Int→Shared→Prop),V.key n v=true→s.heap=h₀→A.units + n < cLine →
  Q (keyHash w v) { s with toks:=s.toks + dM v }→wpAny (model prog w) A (pyHash x) Q E s) ∧
  ∀ {vs xs},KRs h₀ vs xs→∀ (n:Nat) (A:Around) (E:Value→Shared→Prop) (s:Shared),V.keys n vs=true→s.heap=h₀→A.units + n < cLine→∀ (b:Array Int) (Q:Array Int→Shared→Prop),
  (∀ b':Array Int,b'.toList=b.toList++fF w vs→Q b' { s with toks:=s.toks + cO vs }) →
  wpAny (model prog w) A (forIn xs b fun x r=>do let y ← PySem.pyHash x;pure (ForInStep.yield (r.push y))) Q E s:=by
 refine KR.ind (fun i t n A E s Q _ _ _ h=>(intKind prog w).pyHash (k:=i) (beq_self_eq_true i) h) (fun i t n A E s Q _ _ _ h=>(strKind prog w).pyHash (k:=nm i) (beq_self_eq_true _) h)
  (fun {a ks items} ht _ ih n A E s Q hk hs hu h=>?_) (fun n A E s _ _ _ b Q h=>?_) fun {v x vs xs} ih ihs n A E s hk hs hu b Q h=>?_
 ·induction n using Nat.casesAuxOn with
  | zero=>exact ff hk
  | succ n =>
  subst hs
  have hT:s.TypeIs (.ref a) "tuple" := ay ht fun o ho hc _=>⟨o,ho,hc⟩
  refine ht.elim fun o ht=>ht.2.2.elim fun m hd=>?_
  have ho:=ht.1
  unfold PySem.pyHash pyHashByItsType
  refine wpAny_bind (wpAny_cRoomFor_or (.inr (by (clear hd ho hk ih h;lia))) (wpAny_bind (wpAny_specialOf hT F.slot_tuple_hash.lookup ?_)))
  show wpAny _ _ (if (some (Value.builtin "tuple.__hash__")==some Value.none)=true then _ else _) Q E s
  rw [if_neg (by rw [beq_builtin_none];exact Bool.false_ne_true)]
  refine wpAny_bind (wpAny_specialOf hT F.slot_tuple_hash.lookup ?_)
  show wpAny _ _ (callSpecialIfBoundUnlessNone? (.ref a) "__hash__" _>>=_) Q E s
  refine wpAny_bind (wpAny_callSpecialIfBoundUnlessNone?_slot hT F.slot_tuple_hash (wpAny_call_entry F.slot_tuple_hash hT F.entry_tuple_hash ?_ (F.args_tuple_hash_1 _)))
  show wpAny _ _ (Builtin.Tuple.tupleItemsOf (.ref a)>>=_) _ _ s
  refine wpAny_bind (wpAny_tupleItemsOf ho hd (wpAny_bind ?_))
  rw [← Array.forIn_toList]
  refine ih n _ _ _ hk rfl (by show A.units + 1 + n < cLine;(clear hd ho hk ih h;lia)) #[] _ fun b' hb'=>?_
  show wpAny _ _ (retInt (Builtin.Tuple.tupleHashOf b'.toList)) _ _ _
  rw [hb']
  refine wpAny_ret_mkInt ?_
  exact lG h
 ·rw [List.forIn_nil]
  exact wpAny_pure (h b (List.append_nil _).symm)
 ·have hk:(V.key n v&&V.keys n vs)=true:=hk
  rw [List.forIn_cons]
  refine wpAny_bind (wpAny_bind (ih n _ _ _ _ (cA hk) hs hu (wpAny_pure ?_)))
  refine ihs n _ _ { s with toks:=s.toks + dM v } (cz hk) hs hu (b.push (keyHash w v)) _ fun b' hb'=>?_
  have:=h b' (by rw [hb',Array.toList_push,List.append_assoc];rfl)
  rw [show cO (v :: vs)=dM v + cO vs from rfl,← Nat.add_assoc] at this
  exact this
theorem KR.eqBool {a b:V} {x y:Value} {n m:Nat} {A:Around} {E:Value→Shared→Prop} {s:Shared} {Q:Bool→Shared→Prop} (ha:KR s.heap a x) (hb:KR s.heap b y) (ka:V.key n a=true) (kb:V.key m b=true)
  (hn:n≤60) (hu:A.units + 60 < cLine) (h:Q (decide (a=b)) s):wpAny (model prog w) A (eqBool x y) Q E s:=by
 refine ae (oO n a ka) fun i hi hi'=>?_
 refine ae (oO m b kb) fun j hj hj'=>?_
 refine ay ((KR.vr ha).reads hi) fun as ra la da=>?_
 refine ay ((KR.vr hb).reads hj) fun bs rb lb db=>?_
 refine SeqAt.eqBoolOverData prog w A E s x y _ _ _ _ Q ra rb la lb ?_ ?_
 ·have:min (V.py a).depth (V.py b).depth≤(V.py a).depth:=Nat.min_le_left _ _
  (clear this db lb la hj' hj hi kb ka;lia)
 ·rw [pX a b (by rw [hi];rfl) (by rw [hj];rfl)]
  have:V.beq a b=decide (a=b):=by
   refine Or.elim (Nat.le_total n m) (fun q=>?_) fun q=>?_
   ·rw [oP m a b (gY n m a q ka) kb,b8]
   ·rw [oP n a b ka (gY m n b q kb),b8]
  rw [this];exact h
theorem nO {h₀:Heap}:(∀ {v x},KR h₀ v x→∀ (n:Nat) (A:Around) (E:Value→Shared→Prop) (s:Shared) (Q:Bool→Shared→Prop),V.key n v=true→s.heap=h₀→Q true s→wpAny (model prog w) A (eqIsQuiet n x) Q E s) ∧
  ∀ {vs xs},KRs h₀ vs xs→∀ (n:Nat) (A:Around) (E:Value→Shared→Prop) (s:Shared) (Q:Option Bool×Unit→Shared→Prop),V.keys n vs=true→s.heap=h₀→Q (none,()) s →
  wpAny (model prog w) A (forIn xs ((none,()):Option Bool×Unit) fun y r=>do
   let q ← eqIsQuiet n y
   if (!q)=true then pure (ForInStep.done (some false,())) else pure (ForInStep.yield (none,()))) Q E s:=by
 refine KR.ind (fun i t n A E s Q _ _ h=>?_) (fun i t n A E s Q _ _ h=>?_) (fun {a ks items} ht _ ih n A E s Q hk hs h=>?_) (fun n A E s Q _ _ h=>?_) fun {v x vs xs} ih ihs n A E s Q hk hs h=>?_
 ·rw [eqIsQuiet_byValue n rfl];exact wpAny_pure h
 ·rw [eqIsQuiet_byValue n rfl];exact wpAny_pure h
 ·induction n using Nat.casesAuxOn with
  | zero=>exact ff hk
  | succ n =>
  subst hs
  have hT:s.TypeIs (.ref a) "tuple" := ay ht fun o ho hc _=>⟨o,ho,hc⟩
  refine ht.elim fun o ht=>ht.2.2.elim fun m hd=>?_
  unfold eqIsQuiet
  refine wpAny_bind (wpAny_specialOf hT F.slot_tuple_eq.lookup ?_)
  show wpAny _ _ (isInstance (.ref a) (.type "tuple")>>=_) _ _ s
  refine wpAny_bind (wpAny_isInstance hT isSubtype_tuple_tuple ?_)
  refine wpAny_bind (wpAny_seqItems ht.1 hd (wpAny_bind ?_))
  show wpAny _ _ (forIn items _ _) _ _ s
  rw [← Array.forIn_toList]
  exact ih n _ _ _ _ hk rfl (wpAny_pure h)
 ·rw [List.forIn_nil];exact wpAny_pure h
 ·have hk:(V.key n v&&V.keys n vs)=true:=hk
  rw [List.forIn_cons]
  exact wpAny_bind (wpAny_bind (ih n _ _ _ _ (cA hk) hs (wpAny_pure (ihs n _ _ _ _ (cz hk) hs h))))
noncomputable def yu (h:Heap) (v:V) (a:Addr):Prop:=v.isKey=true∧KR h v (.ref a)
theorem ba {v:V} (h:v.isKey=true):V.key 4 v=true:=by
 induction v using Mini.Internal.V.casesOn<;>first | exact ff h | exact h
end
noncomputable def bP (prog:Program) (w:World):HeapKind prog w V where
 is:=yu
 hash:=keyHash w
 draws:=dM
 room:=fun A=>A.units + 60 < cLine
 inj:=fun hx hy=>hx.2.inj hy.2
 keeps:=fun x ho hd hs=>⟨x.1,x.2.keeps fun a items ⟨o,h1,h2,n,h3⟩=>⟨o,(hs.2 a (by rintro rfl;rw [ho] at h1;cases h1;rw [hd] at h3;cases h3)).trans h1,h2,n,h3⟩⟩
 pyHash:=fun hu hk h=>rE.1 hk.2 4 _ _ _ _ (ba hk.1) rfl (by (clear h;lia)) h
 eqBool:=fun hu hx hy h=>KR.eqBool hx.2 hy.2 (ba hx.1) (ba hy.1) (by (clear hu;lia)) hu h
 quiet:=fun hk h=>nO.1 hk.2 8 _ _ _ _ (gY 4 8 _ (by decide) (ba hk.1)) rfl h
end Mini.Internal
end
section
set_option autoImplicit false
namespace Mini.Internal
open PySem PySem.Calls PyProof.Rows
open PySem.W (Frag dictOf)
structure Cfg where
 prog:Program
 w:World
 base:Heap
 K:Frag
 P:Prog
 cls:Nat→Addr
 os:OsState
class inductive PR {α β:Type} (f:α→β) (ρ:Rh) (H:Hp) (h:Heap):List (α×V)→List (β×Value)→Prop
 | nil:PR f ρ H h [] []
 | cons {k:α} {v:V} {x:Value} {l:List (α×V)} {l':List (β×Value)}:VR ρ H h v x→PR f ρ H h l l'→PR f ρ H h ((k,v) :: l) ((f k,x) :: l')
class inductive TR (ρ:Rh) (H:Hp) (h:Heap):List (V×V)→List (V×Addr×Value)→Prop
 | nil:TR ρ H h [] []
 | cons {k v:V} {a:Addr} {x:Value} {l:List (V×V)} {l':List (V×Addr×Value)}:VR ρ H h k (.ref a)→VR ρ H h v x→TR ρ H h l l'→TR ρ H h ((k,v) :: l) ((k,a,x) :: l')
class inductive AR (ρ:Rh) (H:Hp) (h:Heap):List (Nat×V)→List DictEntry→Prop
 | nil:AR ρ H h [] []
 | cons {k:Nat} {v:V} {x:Value} {hs:Int} {t:Tok} {l:List (Nat×V)} {l':List DictEntry}:VR ρ H h v x→AR ρ H h l l'→AR ρ H h ((k,v) :: l) (⟨hs,.str (nm k) t,x⟩ :: l')
section
variable {ρ ρ':Rh} {H H':Hp} {h h':Heap}
theorem PR.lasts {α β:Type} {f:α→β} (L:Lasts ρ H h ρ' H' h') {l:List (α×V)} {l':List (β×Value)} (x:PR f ρ H h l l'):PR f ρ' H' h' l l':=by
 induction x with
 | nil=>exact .nil
 | cons a _ ih=>exact .cons (a.lasts L) ih
theorem TR.lasts (L:Lasts ρ H h ρ' H' h') {l:List (V×V)} {l':List (V×Addr×Value)} (x:TR ρ H h l l'):TR ρ' H' h' l l':=by
 induction x with
 | nil=>exact .nil
 | cons b a _ ih=>exact .cons (b.lasts L) (a.lasts L) ih
theorem TR.key {l:List (V×V)} {l':List (V×Addr×Value)} (x:TR ρ H h l l'):∀ y∈l',VR ρ H h y.1 (.ref y.2.1):=by
 induction x with
 | nil=>exact fun y hy=>by cases hy
 | cons b a _ ih =>
  intro y hy
  refine Or.elim (List.mem_cons.mp hy) (fun e=>?_) fun hy=>?_
  ·rw [e];exact b
  ·exact ih y hy
theorem AR.lasts (L:Lasts ρ H h ρ' H' h') {l:List (Nat×V)} {l':List DictEntry} (x:AR ρ H h l l'):AR ρ' H' h' l l':=by
 induction x with
 | nil=>exact .nil
 | cons a _ ih=>exact .cons (a.lasts L) ih
end
noncomputable def mD (C:Cfg) (ρ:Rh) (H:Hp) (h:Heap) (p:Addr×Addr):O→Prop
 | .list l=>p.2=p.1∧∃ items,h.PlainList p.1 items∧VRs ρ H h l items.toList
 | .dI l=>p.2=p.1∧∃ xs,h.DictOf (intKind C.prog C.w) p.1 xs∧PR id ρ H h l xs
 | .dT l=>p.2=p.1∧∃ xs,h.DictOfH (bP C.prog C.w) p.1 xs∧TR ρ H h l xs
 | .inst c l=>p.1≠p.2∧h.get? p.1=some ⟨.ref (C.cls c),some p.2,.plain,#[]⟩∧∃ es n,h.get? p.2=some (dictOf es n)∧AR ρ H h l es
 | .dead=>True
structure St (C:Cfg) (ρ:Rh) (H:Hp) (s:Shared):Prop where
 base:∀ a o,C.base.get? a=some o→s.heap.get? a=some o
 gens:s.gens = #[]
 os:s.os=C.os
 len:ρ.l.length=H.length
 objs:∀ (i:Nat) (o:O) (p:Addr×Addr),H[i]?=some o→ρ[i]?=some p→mD C ρ H s.heap p o
 apart:∀ (i j:Nat) (p q:Addr×Addr),ρ[i]?=some p→ρ[j]?=some q→i≠j→p.1≠q.1∧p.1≠q.2∧p.2≠q.1∧p.2≠q.2
 new:∀ (i:Nat) (p:Addr×Addr),ρ[i]?=some p→C.base.get? p.1=none∧C.base.get? p.2=none
 hid:∀ a∈ρ.z,(∃ o,s.heap.get? a=some o)∧C.base.get? a=none
 zap:∀ a∈ρ.z,∀ (i:Nat) (p:Addr×Addr),ρ[i]?=some p→p.1≠a∧p.2≠a
 here:∀ (i:Nat) (p:Addr×Addr),ρ[i]?=some p→(∃ o,s.heap.get? p.1=some o)∧∃ o,s.heap.get? p.2=some o
structure Nx (W:Addr→Prop) (ρ:Rh) (H:Hp) (s:Shared) (ρ':Rh) (H':Hp) (s':Shared):Prop where
 ext:ρ.l <+: ρ'.l
 z:ρ'.z=ρ.z
 keep:∀ a o,s.heap.get? a=some o→¬ Own ρ H a→¬ W a→s'.heap.get? a=some o
 fresh:∀ a,Own ρ' H' a→Own ρ H a∨s.heap.get? a=none
 pres:∀ a o,s.heap.get? a=some o→∃ o',s'.heap.get? a=some o'
 wdata:∀ a o,W a→s.heap.get? a=some o→(∀ xs n,o.data≠.seq xs n)∨a∈ρ.z
 news:∀ (i:Nat) (q:Addr×Addr),ρ'[i]?=some q→ρ[i]?=some q∨(s.heap.get? q.1=none∧s.heap.get? q.2=none)
noncomputable abbrev no:Addr→Prop:=fun _=>False
theorem Nx.refl (ρ:Rh) (H:Hp) (s:Shared):Nx no ρ H s ρ H s:=⟨List.prefix_refl _,rfl,fun _ _ e _ _=>e,fun _ x=>.inl x,fun _ o e=>⟨o,e⟩,fun _ _ x=>x.elim,fun _ _ e=>.inl e⟩
theorem Nx.none_of {W:Addr→Prop} {ρ ρ₁:Rh} {H H₁:Hp} {s s₁:Shared} (a:Nx W ρ H s ρ₁ H₁ s₁) {x:Addr} (e:s₁.heap.get? x=none):s.heap.get? x=none:=by
 cases h:s.heap.get? x with
 | none=>rfl
 | some o=>refine aG (a.pres x o h) fun o' h'=>?_;rw [e] at h';exact nn h'
theorem Nx.trans {W:Addr→Prop} {ρ ρ₁ ρ₂:Rh} {H H₁ H₂:Hp} {s s₁ s₂:Shared} (a:Nx W ρ H s ρ₁ H₁ s₁) (b:Nx W ρ₁ H₁ s₁ ρ₂ H₂ s₂):Nx W ρ H s ρ₂ H₂ s₂ where
 ext:=a.ext.trans b.ext
 z:=b.z.trans a.z
 keep:=fun x o e n w=>b.keep x o (a.keep x o e n w) (fun m=>(a.fresh x m).elim n fun q=>by rw [e] at q;cases q) w
 fresh:=fun x m=>(b.fresh x m).elim (a.fresh x) fun q=>.inr (a.none_of q)
 pres:=fun x o e=>aG (a.pres x o e) fun o' e'=>b.pres x o' e'
 wdata:=a.wdata
 news:=fun i q e=>(b.news i q e).elim (a.news i q) fun z=>.inr ⟨a.none_of z.1,a.none_of z.2⟩
theorem Nx.wide {W:Addr→Prop} {ρ ρ':Rh} {H H':Hp} {s s':Shared} (a:Nx no ρ H s ρ' H' s') (wd:∀ a o,W a→s.heap.get? a=some o→(∀ xs n,o.data≠.seq xs n)∨a∈ρ.z):Nx W ρ H s ρ' H' s' :=
 ⟨a.ext,a.z,fun x o e n _=>a.keep x o e n id,a.fresh,a.pres,wd,a.news⟩
section
variable {C:Cfg}  {ρ ρ':Rh} {H H':Hp} {s s':Shared} {W:Addr→Prop}
theorem mD.there {p:Addr×Addr} {o:O} {h:Heap} (x:mD C ρ H h p o) (hl:o.live=true) :
  (∃ x,h.get? p.1=some x∧x.cls≠.type "tuple")∧∃ x,h.get? p.2=some x∧x.cls≠.type "tuple" := by
 have nt:∀ {v:Value},v=.type "list"∨v=.type "dict"∨(∃ a,v=.ref a)→v≠.type "tuple" := by
  rintro v (rfl | rfl | ⟨a,rfl⟩)<;>intro e<;>first | (injection e with e;exact absurd e (by decide)) | cases e
 have two:p.2=p.1→(∃ x,h.get? p.1=some x∧x.cls≠.type "tuple")→(∃ x,h.get? p.1=some x∧x.cls≠.type "tuple")∧∃ x,h.get? p.2=some x∧x.cls≠.type "tuple" := fun e q=>⟨q,by rw [e];exact q⟩
 induction o using O.casesOn with
 | list l=>exact two x.1 (x.2.elim fun _ x=>x.1.elim fun _ ho=>⟨_,ho,nt (.inl rfl)⟩)
 | dI l=>exact two x.1 (x.2.elim fun _ x=>aT x.1 fun o _ _ ho hx _=>⟨o,ho,nt (.inr (.inl hx.1))⟩)
 | dT l=>exact two x.1 (x.2.elim fun _ x=>aT x.1 fun o _ _ ho hx _=>⟨o,ho,nt (.inr (.inl hx.1))⟩)
 | inst c l=>exact ⟨⟨_,x.2.1,nt (.inr (.inr ⟨_,rfl⟩))⟩,aX x.2.2 fun _ _ h2 _=>⟨_,h2,nt (.inr (.inl rfl))⟩⟩
 | dead=>exact ff hl
theorem St.own_there (S:St C ρ H s) {a:Addr} (m:Own ρ H a):∃ o,s.heap.get? a=some o∧o.cls≠.type "tuple" := by
 refine jL m fun i p o hp ho hl e=>?_
 refine aw ((S.objs i o p ho hp).there hl) fun h1 h2=>?_
 rcases e with rfl | rfl
 ·exact h1
 ·exact h2
theorem St.own_new (S:St C ρ H s) {a:Addr} (m:Own ρ H a):C.base.get? a=none:=by
 refine jL m fun i p o hp ho hl e=>?_
 rcases e with rfl | rfl
 ·exact (S.new i p hp).1
 ·exact (S.new i p hp).2
structure FreshAt (C:Cfg) (ρ:Rh) (H:Hp) (a:Addr):Prop where
 own:¬ Own ρ H a
 base:C.base.get? a=none
 ne:∀ (i:Nat) (p:Addr×Addr),ρ[i]?=some p→p.1≠a∧p.2≠a
 z:a∉ρ.z
theorem bw {h:Heap} {a b:Addr} {o:Obj} (n:h.get? a=none) (e:h.get? b=some o):b≠a:=fun q=>nn (n.symm.trans (q▸e))
theorem St.freshAt (S:St C ρ H s) {a:Addr} (h:s.heap.get? a=none):FreshAt C ρ H a where
 own:=fun m=>ae (S.own_there m) fun _ ho _=>bw h ho rfl
 base:=by
  cases e:C.base.get? a with
  | none=>rfl
  | some x=>exact absurd rfl (bw h (S.base _ _ e))
 ne:=fun i p hp=>⟨(S.here i p hp).1.elim fun _ e=>bw h e,(S.here i p hp).2.elim fun _ e=>bw h e⟩
 z:=fun m=>(S.hid _ m).1.elim fun _ ho=>bw h ho rfl
theorem St.tuple_free (S:St C ρ H s) {a:Addr} {items:Array Value} (t:s.heap.IsTuple a items):¬ Own ρ H a:=fun m=>by
 refine ae (S.own_there m) fun o ho hc=>?_
 refine ay t fun o' ho' hc' _=>?_
 rw [ho] at ho';cases ho';exact hc hc'
theorem Nx.lasts (S:St C ρ H s) (N:Nx W ρ H s ρ' H' s'):Lasts ρ H s.heap ρ' H' s'.heap where
 ext:=N.ext
 tup:=fun a items t z=>by
  have n:=S.tuple_free t
  refine t5 t fun o ho hc m hd=>?_
  exact ⟨⟨o,N.keep a o ho n (fun w=>(N.wdata a o w ho).elim (fun q=>q _ _ hd) z),hc,m,hd⟩,fun q=>z (N.z▸q)⟩
 lst:=fun a items t n=>by
  refine t5 t fun o ho hc m hd=>?_
  refine ⟨⟨o,N.keep a o ho (fun q=>n (.inl q)) (fun w=>(N.wdata a o w ho).elim (fun q=>q _ _ hd) fun q=>n (.inr q)),hc,m,hd⟩,fun q=>?_⟩
  refine Or.elim q (fun q=>?_) fun q=>?_
  ·exact (N.fresh a q).elim (fun z=>n (.inl z)) fun z=>by rw [ho] at z;cases z
  ·exact n (.inr (N.z▸q))
theorem mD.lasts {h h':Heap} (L:Lasts ρ H h ρ' H' h') {p:Addr×Addr} {o:O} (hk:∀ x,h.get? p.1=some x→h'.get? p.1=some x) (hk2:∀ x,h.get? p.2=some x→h'.get? p.2=some x) (x:mD C ρ H h p o):mD C ρ' H' h' p o:=by
 induction o using O.casesOn with
 | list l=>exact ⟨x.1,x.2.elim fun items x=>⟨items,x.1.elim fun o ho=>⟨o,hk _ ho⟩,x.2.lasts L⟩⟩
 | dI l=>exact ⟨x.1,x.2.elim fun xs x=>⟨xs,iX x.1 fun o es ep ho q=>⟨o,es,ep,hk _ ho,q⟩,x.2.lasts L⟩⟩
 | dT l=>exact ⟨x.1,x.2.elim fun xs x=>⟨xs,iX x.1 fun o es ep ho q=>⟨o,es,ep,hk _ ho,q.1,q.2.1,q.2.2.1,fun y hy=>⟨(q.2.2.2.1 y hy).1,((x.2.lasts L).key y hy).kr (ba (q.2.2.2.1 y hy).1)⟩,q.2.2.2.2⟩,x.2.lasts L⟩⟩
 | inst c l=>exact ⟨x.1,hk _ x.2.1,aX x.2.2 fun es n h2 r=>⟨es,n,hk2 _ h2,r.lasts L⟩⟩
 | dead=>trivial
theorem St.turn (S:St C ρ H s) (hb:∀ a o,C.base.get? a=some o→s'.heap.get? a=some o) (ho:∀ a o,Own ρ H a→s.heap.get? a=some o→s'.heap.get? a=some o)
  (L:Lasts ρ H s.heap ρ H s'.heap) (hz:∀ a o,s.heap.get? a=some o→∃ o',s'.heap.get? a=some o') (hg:s'.gens=s.gens) (hos:s'.os=s.os):St C ρ H s' where
 base:=hb
 gens:=hg.trans S.gens
 os:=hos.trans S.os
 len:=S.len
 objs:=fun i o p h1 h2=>by
  cases hl:o.live with
  | true=>exact (S.objs i o p h1 h2).lasts L (fun x e=>ho _ _ ⟨i,p,o,h2,h1,hl,.inl rfl⟩ e) (fun x e=>ho _ _ ⟨i,p,o,h2,h1,hl,.inr rfl⟩ e)
  | false=>induction o using Mini.Internal.O.casesOn<;>first | trivial | cases hl
 apart:=S.apart
 new:=S.new
 hid:=fun a h=>⟨(S.hid a h).1.elim fun o ho=>hz _ o ho,(S.hid a h).2⟩
 zap:=S.zap
 here:=fun i p h=>⟨(S.here i p h).1.elim fun a ha=>hz _ a ha,(S.here i p h).2.elim fun b hb=>hz _ b hb⟩
theorem St.grow (S:St C ρ H s) (k:∀ a o,s.heap.get? a=some o→s'.heap.get? a=some o) (hg:s'.gens=s.gens) (hos:s'.os=s.os) :
  St C ρ H s'∧Nx no ρ H s ρ H s' :=
 have N:Nx no ρ H s ρ H s':=⟨List.prefix_refl _,rfl,fun a o e _ _=>k a o e,fun _ m=>.inl m,fun a o e=>⟨o,k a o e⟩,fun _ _ x=>x.elim,fun _ _ e=>.inl e⟩
 ⟨S.turn (fun a o e=>k a o (S.base a o e)) (fun a o _ e=>k a o e) (N.lasts S) (fun a o e=>⟨o,k a o e⟩) hg hos,N⟩
theorem ud {i:Nat} {o':O} {a:Addr} (hi:∃ o,H[i]?=some o∧o.live=true) (m:Own ρ (H.set i o') a):Own ρ H a:=by
 refine jL m fun j p o hp ho hl e=>?_
 by_cases hj:i=j
 ·subst hj
  refine ae hi fun o₀ h0 hl0=>?_
  exact ⟨i,p,o₀,hp,h0,hl0,e⟩
 ·rw [List.getElem?_set_ne hj] at ho
  exact ⟨j,p,o,hp,ho,hl,e⟩
theorem St.set (S:St C ρ H s) {i:Nat} {o o':O} {p:Addr×Addr} (hi:H[i]?=some o) (hl:o.live=true) (hp:ρ[i]?=some p) (k:∀ a x,a≠p.1→a≠p.2→s.heap.get? a=some x→s'.heap.get? a=some x)
  (hz:(∃ o,s'.heap.get? p.1=some o)∧∃ o,s'.heap.get? p.2=some o) (hg:s'.gens=s.gens) (hos:s'.os=s.os) (hR:Lasts ρ H s.heap ρ (H.set i o') s'.heap→mD C ρ (H.set i o') s'.heap p o') :
  St C ρ (H.set i o') s'∧Nx no ρ H s ρ (H.set i o') s':=by
 have pr:∀ a x,s.heap.get? a=some x→∃ x',s'.heap.get? a=some x':=fun a x e=>by
  by_cases e1:a=p.1
  ·exact e1▸hz.1
  ·by_cases e2:a=p.2
   ·exact e2▸hz.2
   ·exact ⟨x,k a x e1 e2 e⟩
 have N:Nx no ρ H s ρ (H.set i o') s':=⟨List.prefix_refl _,rfl,fun a x e n _=>k a x (fun q=>n ⟨i,p,o,hp,hi,hl,.inl q⟩) (fun q=>n ⟨i,p,o,hp,hi,hl,.inr q⟩) e,
  fun a m=>.inl (ud ⟨o,hi,hl⟩ m),pr,fun _ _ x=>x.elim,fun _ _ e=>.inl e⟩
 have L:=N.lasts S
 refine ⟨⟨fun a x e=>k a x (fun q=>?_) (fun q=>?_) (S.base a x e),hg.trans S.gens,hos.trans S.os,by rw [List.length_set];exact S.len,fun j x q h1 h2=>?_,S.apart,S.new,fun a h=>⟨(S.hid a h).1.elim fun o ho=>pr _ o ho,(S.hid a h).2⟩,S.zap,fun i p h=>⟨(S.here i p h).1.elim fun a ha=>pr _ a ha,(S.here i p h).2.elim fun b hb=>pr _ b hb⟩⟩,N⟩
 ·rw [q,(S.new i p hp).1] at e;exact nn e
 ·rw [q,(S.new i p hp).2] at e;exact nn e
 ·by_cases hj:i=j
  ·subst hj
   rw [hp] at h2;cases h2
   have hlt:i < H.length:=(List.getElem?_eq_some_iff.mp hi).1
   rw [List.getElem?_set_self hlt] at h1;cases h1
   exact hR L
  ·rw [List.getElem?_set_ne hj] at h1
   refine sm (S.apart i j p q hp h2 hj) fun n1 n2 n3 n4=>?_
   exact (S.objs j x q h1 h2).lasts L (fun y e=>k _ _ (Ne.symm n1) (Ne.symm n3) e) (fun y e=>k _ _ (Ne.symm n2) (Ne.symm n4) e)
theorem nU {p:Addr×Addr} {o:O} (hlen:ρ.l.length=H.length) {a:Addr} (m:Own (ρ++[p]) (H++[o]) a):Own ρ H a∨a=p.1∨a=p.2:=by
 refine jL m fun j q x hq hx hl e=>?_
 rw [Rh.at_,Rh.app_l] at hq
 refine Or.elim (Nat.lt_or_ge j ρ.l.length) (fun hj=>?_) fun hj=>?_
 ·rw [List.getElem?_append_left hj] at hq
  rw [List.getElem?_append_left (hlen▸hj)] at hx
  exact .inl ⟨j,q,x,hq,hx,hl,e⟩
 ·rw [List.getElem?_append_right hj] at hq
  have:j - ρ.l.length=0:=by
   refine Or.elim (Nat.eq_zero_or_pos (j - ρ.l.length)) (fun z=>?_) fun z=>?_
   ·exact z
   ·rw [List.getElem?_eq_none (by simp only [List.length_cons,List.length_nil];(clear hj e hl hx hq hlen;lia))] at hq;exact nn hq
  rw [this] at hq
  have hq':p=q:=by simpa using hq
  subst hq'
  exact .inr e
theorem St.app (S:St C ρ H s) {o:O} {p:Addr×Addr} (hn:¬ Own ρ H p.1∧¬ Own ρ H p.2) (hnd:∀ (i:Nat) (q:Addr×Addr),ρ[i]?=some q→p.1≠q.1∧p.1≠q.2∧p.2≠q.1∧p.2≠q.2)
  (hb:C.base.get? p.1=none∧C.base.get? p.2=none)
  (hl:(∀ items,¬ s.heap.IsList p.1 items)∧∀ items,¬ s.heap.IsList p.2 items) (ht:(∀ items,¬ s.heap.IsTuple p.1 items)∧∀ items,¬ s.heap.IsTuple p.2 items)
  (k:∀ a x,a≠p.1→a≠p.2→s.heap.get? a=some x→s'.heap.get? a=some x) (hpz:(∃ o,s'.heap.get? p.1=some o)∧∃ o,s'.heap.get? p.2=some o)
  (hzz:p.1∉ρ.z∧p.2∉ρ.z) (hg:s'.gens=s.gens) (hos:s'.os=s.os) (hR:Lasts ρ H s.heap (ρ++[p]) (H++[o]) s'.heap→mD C (ρ++[p]) (H++[o]) s'.heap p o) :
  St C (ρ++[p]) (H++[o]) s'∧Lasts ρ H s.heap (ρ++[p]) (H++[o]) s'.heap:=by
 have L:Lasts ρ H s.heap (ρ++[p]) (H++[o]) s'.heap:=by
  refine ⟨by rw [Rh.app_l];exact List.prefix_append _ _,fun a items t z=>⟨?_,z⟩,fun a items t n=>?_⟩
  ·have n1:a≠p.1:=fun e=>ht.1 items (e▸t)
   have n2:a≠p.2:=fun e=>ht.2 items (e▸t)
   refine ae t fun x hx r=>?_
   exact ⟨x,k a x n1 n2 hx,r⟩
  ·have n1:a≠p.1:=fun e=>hl.1 items (e▸t)
   have n2:a≠p.2:=fun e=>hl.2 items (e▸t)
   refine ae t fun x hx r=>?_
   refine ⟨⟨x,k a x n1 n2 hx,r⟩,fun m=>?_⟩
   exact m.elim (fun m=>(nU S.len m).elim (fun m=>n (.inl m)) fun e=>e.elim n1 n2) fun m=>n (.inr m)
 have at_:∀ {i:Nat} {q:Addr×Addr},(ρ++[p])[i]?=some q→ρ[i]?=some q∨(i=ρ.l.length∧q=p):=fun {i q} e=>by
  rw [Rh.at_,Rh.app_l] at e
  refine Or.elim (Nat.lt_or_ge i ρ.l.length) (fun hj=>?_) fun hj=>?_
  ·rw [List.getElem?_append_left hj] at e;exact .inl e
  ·rw [List.getElem?_append_right hj] at e
   refine Or.elim (Nat.eq_zero_or_pos (i - ρ.l.length)) (fun z=>?_) fun z=>?_
   ·rw [z] at e;simp at e;exact .inr ⟨by (clear e hR hos hg hzz hpz ht hl hb hn;lia),e.symm⟩
   ·rw [List.getElem?_eq_none (by simp only [List.length_cons,List.length_nil];(clear hj e hR hos hg hzz hpz ht hl hb hn;lia))] at e;exact nn e
 refine ⟨⟨fun a x e=>k a x (fun q=>by rw [q,hb.1] at e;exact nn e) (fun q=>by rw [q,hb.2] at e;exact nn e) (S.base a x e),hg.trans S.gens,hos.trans S.os,by simp [Rh.app_l,S.len],fun j x q h1 h2=>?_,fun i j q r h1 h2 hij=>?_,fun i q h1=>?_,fun a h=>?_,fun a h i q h1=>?_,fun i q h1=>?_⟩,L⟩
 ·rcases at_ h2 with e | ⟨ei,eq⟩
  ·have hj:j < ρ.l.length:=(List.getElem?_eq_some_iff.mp (show ρ.l[j]?=some q from e)).1
   rw [List.getElem?_append_left (S.len▸hj)] at h1
   cases hlv:x.live with
   | true =>
    refine (S.objs j x q h1 e).lasts L (fun y z=>k _ _ (fun c=>hn.1 ⟨j,q,x,e,h1,hlv,.inl c.symm⟩) (fun c=>hn.2 ⟨j,q,x,e,h1,hlv,.inl c.symm⟩) z) (fun y z=>k _ _ (fun c=>hn.1 ⟨j,q,x,e,h1,hlv,.inr c.symm⟩) (fun c=>hn.2 ⟨j,q,x,e,h1,hlv,.inr c.symm⟩) z)
   | false=>induction x using Mini.Internal.O.casesOn<;>first | trivial | cases hlv
  ·rw [ei,S.len,List.getElem?_append_right (Nat.le_refl _),Nat.sub_self] at h1
   rw [eq,← Option.some.inj h1]
   exact hR L
 ·refine Or.elim (at_ h1) (fun e1=>?_) fun e1=>?_<;>refine Or.elim (at_ h2) (fun e2=>?_) fun e2=>?_
  ·exact S.apart i j q r e1 e2 hij
  ·rw [e2.2]
   have d:=hnd i q e1
   exact ⟨d.1.symm,d.2.2.1.symm,d.2.1.symm,d.2.2.2.symm⟩
  ·rw [e1.2];exact hnd j r e2
  ·exact absurd (e1.1.trans e2.1.symm) hij
 ·refine Or.elim (at_ h1) (fun e1=>?_) fun e1=>?_
  ·exact S.new i q e1
  ·rw [e1.2];exact hb
 ·exact ⟨(S.hid a h).1.elim fun o' ho=>⟨o',k a o' (fun e=>hzz.1 (e▸h)) (fun e=>hzz.2 (e▸h)) ho⟩,(S.hid a h).2⟩
 ·refine Or.elim (at_ h1) (fun e1=>?_) fun e1=>?_
  ·exact S.zap a h i q e1
  ·rw [e1.2];exact ⟨fun e=>hzz.1 (e▸h),fun e=>hzz.2 (e▸h)⟩
 ·refine Or.elim (at_ h1) (fun e1=>?_) fun e1=>?_
  ·have c:=S.here i q e1
   have d:=hnd i q e1
   exact ⟨c.1.elim fun a ha=>⟨a,k _ a d.1.symm d.2.2.1.symm ha⟩,c.2.elim fun b hb=>⟨b,k _ b d.2.1.symm d.2.2.2.symm hb⟩⟩
  ·rw [e1.2];exact hpz
end
end Mini.Internal
end
section
set_option autoImplicit false
namespace Mini.Internal
open PySem PySem.Calls PyProof.Rows
open PySem.W (Frag dictOf Looks)
theorem ee (names:List Str) (vals:List Value) (h:names.length=vals.length):names.filter (fun n=>((names.zip vals).lookup n).isNone)=[]:=by
 rw [List.filter_eq_nil_iff]
 intro x hx
 have:∀ (ns:List Str) (vs:List Value),ns.length=vs.length→x∈ns→((ns.zip vs).lookup x).isNone=false:=by
  intro ns
  induction ns with
  | nil=>intro vs _ hm;cases hm
  | cons n ns ih =>
   intro vs hl hm
   induction vs using List.casesOn with
   | nil=>cases hl
   | cons v vs =>
    simp only [List.zip_cons_cons,List.lookup_cons]
    cases hb:x==n with
    | true=>rfl
    | false =>
     rcases List.mem_cons.mp hm with rfl | hm
     ·simp at hb
     ·exact ih vs (Nat.succ.inj hl) hm
 simp [this names vals h hx]
theorem hF (names:List Str) (vals:List Value) (h:names.length=vals.length) (hn:names.Nodup):names.filterMap (fun n=>((names.zip vals).lookup n).map (n,·))=names.zip vals:=by
 have:∀ (ns:List Str) (vs:List Value) (pre:List (Str×Value)),ns.length=vs.length→ns.Nodup→(∀ n∈ns,pre.lookup n=none) →
   ns.filterMap (fun n=>((pre++ns.zip vs).lookup n).map (n,·))=ns.zip vs:=by
  intro ns
  induction ns with
  | nil=>intro vs pre hl _ _;rfl
  | cons n ns ih =>
   intro vs pre hl hnd hp
   induction vs using List.casesOn with
   | nil=>cases hl
   | cons v vs =>
    rw [List.nodup_cons] at hnd
    have h1:(pre++(n,v) :: ns.zip vs).lookup n=some v:=by
     rw [List.lookup_append,hp n List.mem_cons_self];simp
    simp only [List.zip_cons_cons,List.filterMap_cons,h1,Option.map_some]
    have:=ih vs (pre++[(n,v)]) (Nat.succ.inj hl) hnd.2 (fun m hm=>by
     rw [List.lookup_append,hp m (List.mem_cons_of_mem _ hm)]
     have:(m==n)=false:=beq_eq_false_iff_ne.mpr fun e=>hnd.1 (e▸hm)
     simp [List.lookup_cons,this])
    simp only [List.append_assoc,List.cons_append,List.nil_append] at this
    rw [this]
 simpa using this names vals [] h hn (fun _ _=>rfl)
theorem ky {α:Type _} {c:Prop} [Decidable c] {t e r:α} (h:¬ c) (k:e=r):(if c then t else e)=r:=(if_neg h).trans k
theorem lT {α β γ:Type} {l:List α} {init:β} {g:α→β→Sem (ForInStep β)} {f:β→Sem γ} {r:Sem γ} (e:l=[]) (k:f init=r):(forIn l init g>>=f)=r:=by subst e;exact k
theorem gB {fd:FuncData} {as:List Arg} {vals:List Value} (hp:fd.params=⟨[],as,none,[],[],none,[]⟩) (hd:fd.defaults=.none) (hl:as.length=vals.length) (hn:(as.map (·.arg)).Nodup) :
  bindArgs fd ⟨vals,[]⟩=pure ((as.map (·.arg)).zip vals):=by
 obtain ⟨a1,a2,par,a4,a5,a6,a7,dfl,a9,a10,a11,a12,a13,a14,a15⟩:=fd
 cases hp
 cases hd
 have hl':(as.map (·.arg)).length=vals.length:=by simpa using hl
 have e0:∀ k,List.drop k ([]:List Value)=[]:=fun k=>List.drop_nil
 have e1:((as.map Arg.arg).take ((as.map Arg.arg).length - (List.drop (0 - (as.map Arg.arg).length) ([]:List Value)).length)).filter (fun n=>(((as.map Arg.arg).zip vals).lookup n).isNone)=[]:=by
  rw [e0,List.length_nil,Nat.sub_zero,List.take_of_length_le (Nat.le_refl _)];exact ee _ vals hl'
 refine ky (c:=(decide (vals.length > (as.map Arg.arg).length)&&true)=true) (by rw [hl'];simp) ?_
 refine ky (c:=(!(List.filter (fun n=>(((as.map Arg.arg).zip vals).lookup n).isNone) ((as.map Arg.arg).take ((as.map Arg.arg).length - (List.drop (0 - (as.map Arg.arg).length) ([]:List Value)).length))).isEmpty)=true) (by rw [e1];exact Bool.false_ne_true) ?_
 refine lT (l:=((as.map Arg.arg).drop ((as.map Arg.arg).length - (List.drop (0 - (as.map Arg.arg).length) ([]:List Value)).length)).zip (List.drop (0 - (as.map Arg.arg).length) ([]:List Value))) (by rw [e0];exact List.zip_nil_right) ?_
 show (pure (((as.map Arg.arg)++[]).filterMap (fun n=>(((as.map Arg.arg).zip vals).lookup n).map (n,·))):Sem (List (Str×Value)))=(pure ((as.map Arg.arg).zip vals):Sem (List (Str×Value)))
 rw [List.append_nil,hF _ vals hl' hn]
noncomputable def aS (n:Nat) (A:Around):Prop:=A.handled=none∧A.depth + 2 * n < 900∧A.units + 8 * n + 200 < cLine
theorem aS.dec {n:Nat} {A:Around} (r:aS (n + 1) A):aS n A:=⟨r.1,by have:=r.2.1;lia,by have:=r.2.2;lia⟩
theorem aS.deep {n:Nat} {A:Around} {env:Env} (r:aS (n + 1) A):aS n (A.deeper env):=⟨r.1,by have:=r.2.1;show A.depth + 1 + 2 * n < 900;lia,by have:=r.2.2;show A.units + 3 + 8 * n + 200 < cLine;lia⟩
theorem aS.units {n:Nat} {A:Around} (r:aS n A):A.units + 200 < cLine:=by have:=r.2.2;lia
theorem aS.mark {n:Nat} {A:Around} (r:aS n A):aS n (A.mark none):=⟨by rw [Around.mark,r.1];rfl,r.2.1,r.2.2⟩
noncomputable def Wr (sc:Scope) (env:Env) (a:Addr):Prop:=a=env.locals∨∃ x,sc.names.lookup x=some .cell∧env.cells.lookup x=some a
structure EnvOK (C:Cfg) (sc:Scope) (env:Env) (ρ:Rh) (H:Hp) (h:Heap) (lo:Lo):Prop where
 kind:env.scope.kind=.function
 glob:env.globals=mainGlobals
 blt:env.builtins=builtinsNs
 loc:∀ x,sc.names.lookup x=some .local→env.kindOf x=some .local
 cel:∀ x,sc.names.lookup x=some .cell→env.kindOf x=some .cell∧∃ c v₀,env.cells.lookup x=some c∧h.IsCell c v₀
 fre:∀ x,sc.names.lookup x=some .free→(env.kindOf x=some .cell∨env.kindOf x=some .free)∧∃ c v₀,env.cells.lookup x=some c∧h.IsCell c v₀
 glo:∀ x,sc.names.lookup x=some .globalImplicit→env.kindOf x=some .globalImplicit
 ns:∃ m,h.Ns env.locals m∧∀ i v,lk lo i=some v→sc.names.lookup (nm i)=some .local→∃ x,m (nm i)=some x∧VR ρ H h v x
 cv:∀ i v,lk lo i=some v→(sc.names.lookup (nm i)=some .cell∨sc.names.lookup (nm i)=some .free)→∃ c x,env.cells.lookup (nm i)=some c∧h.IsCell c (some x)∧VR ρ H h v x
 free:¬ Own ρ H env.locals∧∀ x c,(sc.names.lookup x=some .cell∨sc.names.lookup x=some .free)→env.cells.lookup x=some c→¬ Own ρ H c
 new:C.base.get? env.locals=none∧∀ x c,sc.names.lookup x=some .cell→env.cells.lookup x=some c→C.base.get? c=none
 apart:∀ x y c,sc.names.lookup x=some .cell→env.cells.lookup x=some c→env.cells.lookup y=some c→x=y
 clr:(∀ (i:Nat) (p:Addr×Addr),ρ[i]?=some p→p.1≠env.locals∧p.2≠env.locals)∧env.locals∉ρ.z
section
variable {C:Cfg} {sc:Scope} {env:Env} {lo:Lo} {ρ ρ':Rh} {H H':Hp} {s s':Shared}
theorem au {h h':Heap} {c:Addr} {v:Option Value} (k:∀ o,h.get? c=some o→h'.get? c=some o) (x:h.IsCell c v):h'.IsCell c v:=ae x fun o a b=>⟨o,k o a,b⟩
theorem jj {h h':Heap} {a:Addr} {m:Str→Option Value} (k:∀ o,h.get? a=some o→h'.get? a=some o) (x:h.Ns a m):h'.Ns a m:=iX x fun o es ep e r=>⟨o,es,ep,k o e,r⟩
theorem EnvOK.cell_lt (X:EnvOK C sc env ρ H s.heap lo) {x:Str} {c:Addr} (hx:sc.names.lookup x=some .cell∨sc.names.lookup x=some .free) (e:env.cells.lookup x=some c):∃ v,s.heap.IsCell c v:=by
 refine Or.elim hx (fun hx=>?_) fun hx=>?_
 ·refine c5 (X.cel x hx) fun _ c' v e' q=>?_
  rw [e] at e';cases e';exact ⟨v,q⟩
 ·refine c5 (X.fre x hx) fun _ c' v e' q=>?_
  rw [e] at e';cases e';exact ⟨v,q⟩
theorem EnvOK.next (X:EnvOK C sc env ρ H s.heap lo) (S:St C ρ H s) (N:Nx no ρ H s ρ' H' s'):EnvOK C sc env ρ' H' s'.heap lo:=by
 have L:=N.lasts S
 have kc:∀ x c o,(sc.names.lookup x=some .cell∨sc.names.lookup x=some .free)→env.cells.lookup x=some c→s.heap.get? c=some o→s'.heap.get? c=some o:=fun x c o hx e g=>N.keep c o g (X.free.2 x c hx e) id
 have kl:∀ o,s.heap.get? env.locals=some o→s'.heap.get? env.locals=some o:=fun o g=>N.keep _ o g X.free.1 id
 refine ⟨X.kind,X.glob,X.blt,X.loc,fun x hx=>?_,fun x hx=>?_,X.glo,?_,fun i v hi hk=>?_,⟨fun m=>?_,fun x c hx e m=>?_⟩,X.new,X.apart,⟨fun i p hp=>?_,by rw [N.z];exact X.clr.2⟩⟩
 ·refine c5 (X.cel x hx) fun a c v₀ e q=>?_
  exact ⟨a,c,v₀,e,au (fun o=>kc x c o (.inl hx) e) q⟩
 ·refine c5 (X.fre x hx) fun a c v₀ e q=>?_
  exact ⟨a,c,v₀,e,au (fun o=>kc x c o (.inr hx) e) q⟩
 ·refine ae X.ns fun m hm q=>?_
  refine ⟨m,jj kl hm,fun i v hi hk=>?_⟩
  refine ae (q i v hi hk) fun x e r=>?_
  exact ⟨x,e,r.lasts L⟩
 ·refine aW (X.cv i v hi hk) fun c x e q r=>?_
  exact ⟨c,x,e,au (fun o=>kc _ c o hk e) q,r.lasts L⟩
 ·refine ae X.ns fun mm hh1_ _=>?_
  refine iX hh1_ fun o _ _ ho _=>?_
  exact (N.fresh _ m).elim X.free.1 fun z=>by rw [ho] at z;cases z
 ·refine aG (X.cell_lt hx e) fun v q=>?_
  refine ae q fun o ho _=>?_
  exact (N.fresh _ m).elim (X.free.2 x c hx e) fun z=>by rw [ho] at z;cases z
 ·refine ae X.ns fun mm hh2_ _=>?_
  refine iX hh2_ fun o _ _ ho _=>?_
  rcases N.news i p hp with e | ⟨e1,e2⟩
  ·exact X.clr.1 i p e
  ·exact ⟨fun q=>(by rw [q,ho] at e1;cases e1),fun q=>(by rw [q,ho] at e2;cases e2)⟩
theorem EnvOK.wdata (X:EnvOK C sc env ρ H s.heap lo):∀ a o,Wr sc env a→s.heap.get? a=some o→(∀ xs n,o.data≠.seq xs n)∨a∈ρ.z:=by
 rintro a o (rfl | ⟨x,hx,e⟩) ho<;>refine .inl fun xs n hd=>?_
 ·refine ae X.ns fun m hh3_ _=>?_
  refine aT hh3_ fun o' es ep ho' hd' _=>?_
  rw [ho] at ho';cases ho';rw [hd] at hd';cases hd'
 ·refine aX (X.cell_lt (.inl hx) e) fun v o' ho' hd'=>?_
  rw [ho] at ho';cases ho';rw [hd] at hd';cases hd'
theorem tW {x:Str} (h:sees sc x=true):sc.names.lookup x=some .local∨sc.names.lookup x=some .cell∨sc.names.lookup x=some .free :=
 (xN h).imp eq_of_beq fun h=>(xN h).imp eq_of_beq eq_of_beq
theorem b9 {ok:Scope→Str→Bool} {i:Nat} {x:Expr} (h:isVar sc i ok x=true):∃ p,x=.Name (nm i) p∧ok sc (nm i)=true∧((nm i)==("__debug__" : Str))=false∧((nm i)==("__classdict__" : Str))=false:=by
 have hx:=bp (aj h)
 have h2:=fY (aq h)
 have e:nm i=(pt x).s:=beq_iff_eq.mp h2.1
 have d:=cB h2.2.2
 rw [← e] at h2 d
 exact ⟨(pt x).p,e▸hx,h2.2.1,by simpa using d.1,by simpa using d.2⟩
theorem fy (X:EnvOK C sc env ρ H s.heap lo) {i:Nat} {v:V} (hs:sees sc (nm i)=true) (hd:(nm i==("__classdict__" : Str))=false) (hl:lk lo i=some v) {M:Model} {A:Around} {E:Value→Shared→Prop} {Q:Value→Shared→Prop}
  (h:∀ x,VR ρ H s.heap v x→Q x s):wpAny M A (loadName env (nm i)) Q E s:=by
 refine Or.elim (tW hs) (fun q=>?_) fun hh_=>Or.elim hh_ (fun q=>?_) fun q=>?_
 ·refine ae X.ns fun m hm r=>?_
  refine ae (r i v hl q) fun x e r=>?_
  exact wpAny_loadName_local X.kind (X.loc _ q) hm e (h x r)
 ·refine aW (X.cv i v hl (.inl q)) fun c x e hc r=>?_
  exact wpAny_loadName_cell X.kind (X.cel _ q).1 e hc (h x r)
 ·refine aW (X.cv i v hl (.inr q)) fun c x e hc r=>?_
  refine Or.elim ((X.fre _ q).1) (fun z=>?_) fun z=>?_
  ·exact wpAny_loadName_cell X.kind z e hc (h x r)
  ·exact wpAny_loadName_free X.kind z e hc (h x r) hd
theorem uc {x:Str} (h:sC sc x=true):sc.names.lookup x=some .local∨sc.names.lookup x=some .cell :=
 (xN h).imp eq_of_beq eq_of_beq
theorem gy (X:EnvOK C sc env ρ H s.heap lo) (S:St C ρ H s) {a:Addr} (ha:Wr sc env a) (hb:Heap.SameBut a s.heap s'.heap) (hp:∃ o,s'.heap.get? a=some o) (hg:s'.gens=s.gens) (hos:s'.os=s.os) :
  St C ρ H s'∧Nx (Wr sc env) ρ H s ρ H s'∧Lasts ρ H s.heap ρ H s'.heap:=by
 have hn:¬ Own ρ H a:=by
  rcases ha with rfl | ⟨x,hx,e⟩
  ·exact X.free.1
  ·exact X.free.2 x a (.inl hx) e
 have hnew:C.base.get? a=none:=by
  rcases ha with rfl | ⟨x,hx,e⟩
  ·exact X.new.1
  ·exact X.new.2 x a hx e
 have pr:∀ b x,s.heap.get? b=some x→∃ x',s'.heap.get? b=some x':=fun b x e=>by
  by_cases e1:b=a
  ·exact e1▸hp
  ·exact ⟨x,(hb.2 b e1).trans e⟩
 have N:Nx (Wr sc env) ρ H s ρ H s':=⟨List.prefix_refl _,rfl,fun b o e _ w=>(hb.2 b (fun q=>w (q▸ha))).trans e,fun _ m=>.inl m,pr,X.wdata,fun _ _ e=>.inl e⟩
 have L:=N.lasts S
 exact ⟨S.turn (fun b o e=>(hb.2 b (fun q=>by rw [q,hnew] at e;exact nn e)).trans (S.base b o e)) (fun b o m e=>(hb.2 b (fun q=>hn (q▸m))).trans e) L pr hg hos,N,L⟩
theorem jZ (X:EnvOK C sc env ρ H s.heap lo) (S:St C ρ H s) {i:Nat} {v:V} {x:Value} (hs:sC sc (nm i)=true) (r:VR ρ H s.heap v x) {M:Model} {A:Around} {E:Value→Shared→Prop} {Q:Unit→Shared→Prop}
  (h:∀ s',St C ρ H s'→Nx (Wr sc env) ρ H s ρ H s'→EnvOK C sc env ρ H s'.heap (ak lo i v)→Q () s'):wpAny M A (storeName env (nm i) x) Q E s:=by
 refine Or.elim (uc hs) (fun q=>?_) fun q=>?_
 ·refine ae X.ns fun m hm t=>?_
  refine wpAny_storeName_local (X.loc _ q) hm (fun h' hm' hb=>?_) (by rw [X.kind];rfl)
  refine du (gy (s':={ s with heap:=h',toks:=s.toks + 1 }) X S (.inl rfl) hb (iX hm' fun o _ _ e _=>⟨o,e⟩) rfl rfl) fun S' N L=>?_
  have nl:∀ {y:Str} {c:Addr},(sc.names.lookup y=some .cell∨sc.names.lookup y=some .free)→env.cells.lookup y=some c→c≠env.locals:=fun hy e z=>by
   refine aX (X.cell_lt hy e) fun v₀ o ho hd=>?_
   refine aT hm fun o' es ep ho' hd' _=>?_
   rw [z,ho'] at ho;cases ho;rw [hd'] at hd;cases hd
  refine h _ S' N ⟨X.kind,X.glob,X.blt,X.loc,fun y hy=>?_,fun y hy=>?_,X.glo,⟨_,hm',fun j u hj hk=>?_⟩,fun j u hj hk=>?_,X.free,X.new,X.apart,X.clr⟩
  ·refine c5 (X.cel y hy) fun a c v₀ e z=>?_
   exact ⟨a,c,v₀,e,au (fun o g=>(hb.2 c (nl (.inl hy) e)).trans g) z⟩
  ·refine c5 (X.fre y hy) fun a c v₀ e z=>?_
   exact ⟨a,c,v₀,e,au (fun o g=>(hb.2 c (nl (.inr hy) e)).trans g) z⟩
  ·rw [cM] at hj
   by_cases ej:j=i
   ·rw [if_pos ej] at hj;cases hj
    rw [ej]
    exact ⟨x,by simp,r.lasts L⟩
   ·rw [if_neg ej] at hj
    refine ae (t j u hj hk) fun y e z=>?_
    exact ⟨y,by rw [if_neg (fun q=>ej (fp q))];exact e,z.lasts L⟩
  ·rw [cM] at hj
   by_cases ej:j=i
   ·rw [ej,q] at hk;refine Or.elim hk (fun hk=>?_) fun hk=>?_<;>cases hk
   ·rw [if_neg ej] at hj
    refine aW (X.cv j u hj hk) fun c y e z t=>?_
    exact ⟨c,y,e,au (fun o g=>(hb.2 c (nl hk e)).trans g) z,t.lasts L⟩
 ·refine c5 (X.cel _ q) fun hk c v₀ ec hc=>?_
  refine wpAny_storeName_cell X.kind hk ec hc (fun h' hc' hb=>?_)
  refine du (gy (s':={ s with heap:=h' }) X S (.inr ⟨_,q,ec⟩) hb (ae hc' fun o e _=>⟨o,e⟩) rfl rfl) fun S' N L=>?_
  refine ae X.ns fun m hm t=>?_
  have nl:env.locals≠c:=fun z=>by
   refine ae hc fun o ho hd=>?_
   refine aT hm fun o' es ep ho' hd' _=>?_
   rw [z,ho] at ho';cases ho';rw [hd'] at hd;cases hd
  have other:∀ {y:Str} {c':Addr},y≠nm i→env.cells.lookup y=some c'→c'≠c:=fun hy e z=>hy (X.apart _ _ c q ec (z▸e)).symm
  refine h _ S' N ⟨X.kind,X.glob,X.blt,X.loc,fun y hy=>?_,fun y hy=>?_,X.glo,⟨m,jj (fun o g=>(hb.2 _ nl).trans g) hm,fun j u hj hk=>?_⟩,fun j u hj hk=>?_,X.free,X.new,X.apart,X.clr⟩
  ·refine c5 (X.cel y hy) fun a c' v₁ e z=>?_
   by_cases ey:y=nm i
   ·rw [ey] at e ⊢
    exact ⟨(X.cel _ q).1,c,_,ec,hc'⟩
   ·exact ⟨a,c',v₁,e,au (fun o g=>(hb.2 c' (other ey e)).trans g) z⟩
  ·refine c5 (X.fre y hy) fun a c' v₁ e z=>?_
   have ey:y≠nm i:=fun ey=>by rw [ey,q] at hy;cases hy
   exact ⟨a,c',v₁,e,au (fun o g=>(hb.2 c' (other ey e)).trans g) z⟩
  ·rw [cM] at hj
   by_cases ej:j=i
   ·rw [ej,q] at hk;cases hk
   ·rw [if_neg ej] at hj
    refine ae (t j u hj hk) fun y e z=>?_
    exact ⟨y,e,z.lasts L⟩
  ·rw [cM] at hj
   by_cases ej:j=i
   ·rw [if_pos ej] at hj;cases hj
    rw [ej]
    exact ⟨c,x,ec,hc',r.lasts L⟩
   ·rw [if_neg ej] at hj
    refine aW (X.cv j u hj hk) fun c' y e z t=>?_
    exact ⟨c',y,e,au (fun o g=>(hb.2 c' (other (fun q=>ej (fp q)) e)).trans g) z,t.lasts L⟩
end
end Mini.Internal
end
section
set_option autoImplicit false
namespace Mini.Internal
open PySem PySem.Calls PyProof.Rows
open PySem.W (Frag dictOf Looks findIn typeIn keepIn makesIn plainGet hasDictIn plainOver)
section
variable {M:Model} {A:Around} {E:Value→Shared→Prop} {s:Shared} {α β:Type}
theorem aU {c:Prop} [Decidable c] {t e:Sem α} {Q:α→Shared→Prop} (h:¬c) (k:wpAny M A e Q E s):wpAny M A (if c then t else e) Q E s:=by rw [if_neg h];exact k
theorem dU {c:Prop} [Decidable c] {t e:Sem α} {Q:α→Shared→Prop} (h:c) (k:wpAny M A t Q E s):wpAny M A (if c then t else e) Q E s:=by rw [if_pos h];exact k
theorem yK {t u:Sem α} {Q:α→Shared→Prop} (h:t=u) (k:wpAny M A u Q E s):wpAny M A t Q E s:=h▸k
theorem wb {x:Sem α} {f:α→Sem β} {Q:β→Shared→Prop} (h:∀ R:α→Shared→Prop,(∀ v s',wpAny M A (f v) Q E s'→R v s')→wpAny M A x R E s):wpAny M A (x>>=f) Q E s:=wpAny_bind (h _ fun _ _ k=>k)
theorem mK {f:α→β→Sem (ForInStep β)} {Q:β→Shared→Prop} (l:List α) (I:Nat→β→Shared→Prop)
  (turn:∀ i x b s R,l[i]?=some x→I i b s→(∀ b' s',I (i + 1) b' s'→R (.yield b') s')→(∀ b' s',Q b' s'→R (.done b') s')→wpAny M A (f x b) R E s) (fin:∀ b s,I l.length b s→Q b s) {b:β} (h:I 0 b s):wpAny M A (forIn l b f) Q E s:=by
 have go:∀ (r:List α) (i:Nat) (b:β) (s:Shared),l.drop i=r→i + r.length=l.length→I i b s→wpAny M A (forIn r b f) Q E s:=by
  intro r
  induction r with
  | nil=>exact fun i b s _ e h=>by rw [List.forIn_nil];exact wpAny_pure (fin _ _ (e▸h))
  | cons x r ih =>
   intro i b s hr e h
   rw [List.forIn_cons]
   refine wpAny_bind (turn i x b s _ ?_ h (fun b' s' k=>ih (i + 1) b' s' ?_ ((Nat.succ_add_eq_add_succ i r.length).trans e) k) fun b' s' k=>wpAny_pure k)
   ·rw [← List.head?_drop,hr];rfl
   ·rw [← List.tail_drop,hr];rfl
 exact go l 0 b s rfl (Nat.zero_add _) h
theorem qp {f:Nat→β→Sem (ForInStep β)} {Q:β→Shared→Prop} {n:Nat} {b:β} (I:Nat→Prop)
  (turn:∀ i R,i < n→I i→(I (i + 1)→R (.yield b) s)→(∀ b',Q b' s→R (.done b') s)→wpAny M A (f i b) R E s) (fin:I n→Q b s) (h:I 0):wpAny M A (forIn [:n] b f) Q E s:=by
 have go:∀ k i,i + k=n→I i→wpAny M A (forIn (List.range' i k) b f) Q E s:=by
  intro k
  induction k with
  | zero=>exact fun i e h=>by rw [List.range'_zero,List.forIn_nil];exact wpAny_pure (fin (e▸h))
  | succ k ih =>
   intro i e h
   rw [List.range'_succ,List.forIn_cons]
   exact wpAny_bind (turn i _ (e▸Nat.lt_add_of_pos_right (Nat.succ_pos k)) h (fun q=>ih (i + 1) ((Nat.succ_add_eq_add_succ i k).trans e) q) fun b' q=>wpAny_pure q)
 rw [Std.Legacy.Range.forIn_eq_forIn_range',show ([:n]:Std.Legacy.Range).size=n from Nat.div_one n]
 exact go n 0 (Nat.zero_add n) h
end
structure Glo where
 mg:Str→Option Value
 mb:Str→Option Value
structure FnOK (C:Cfg) (a:Addr) (f:FDef) (d:FuncData) (as:List Arg) (stmts:List Stmt) (n:Nat):Prop where
 obj:∃ oc od sl,C.K.lookup a=some ⟨oc,od,.func d,sl⟩
 keep:keepIn C.K (.ref a)=true
 params:d.params=⟨[],as,none,[],[],none,[]⟩
 names:as.map (·.arg)=f.params.map nm
 nodup:(f.params.map nm).Nodup
 dflt:d.defaults=.none
 body:d.body=.stmts stmts
 glob:d.globals=mainGlobals
 blt:d.builtins=builtinsNs
 kind:d.scope.kind=.function
 gen:d.scope.isGenerator=false
 co:d.scope.isCoroutine=false
 code:C.base.CodeRec d.code d.qualname
 loc:∀ x∈f.params.map nm,d.scope.names.lookup x=some .local∨d.scope.names.lookup x=some .cell
 mt:om (mtS n d.scope) f.body stmts=true
noncomputable def Fn (C:Cfg) (a:Addr) (f:FDef):Prop:=∃ d as stmts n,FnOK C a f d as stmts n∧d.closure=[]∧∀ x,d.scope.names.lookup x≠some .free
structure SupAt (C:Cfg) (c:Nat) (a:Addr) (m2:Nat) (b2:List S) (d:FuncData) (ar:Arg) (p0 p1 ap p p':Pos) (rest:List Stmt) (n:Nat) (cc cda f2:Addr):Prop where
 obj:∃ oc od sl,C.K.lookup a=some ⟨oc,od,.func d,sl⟩
 params:d.params=⟨[],[ar],none,[],[],none,[]⟩
 arg:ar.arg=nm aJ
 dflt:d.defaults=.none
 glob:d.globals=mainGlobals
 blt:d.builtins=builtinsNs
 kind:d.scope.kind=.function
 gen:d.scope.isGenerator=false
 co:d.scope.isCoroutine=false
 code:C.base.CodeRec d.code d.qualname
 clo:d.closure=[(("__class__" : Str),cc)]
 body:d.body=.stmts (.Expr (.Call (.Attribute (.Call (.Name "super" p0) [] [] p1) (nm m2) ap) [] [] p) p' :: rest)
 line:(ap.endLine==p.line)=true
 mt:om (mtS n d.scope) b2 rest=true
 self:d.scope.names.lookup (nm aJ)=some .local
 sup:d.scope.names.lookup ("super" : Str)=some .globalImplicit
 cls:d.scope.names.lookup ("__class__" : Str)=some .free
 cells:∀ x∈d.scope.names,x.2≠.cell
 free:∀ x,d.scope.names.lookup x=some .free→x=("__class__" : Str)
 cell:∃ cl cld csl,C.K.lookup cc=some ⟨cl,cld,.cell (some (.ref (C.cls c))),csl⟩
 cdr:d.code=.ref cda∧∃ ccl cdd vs ccs file tf,C.K.lookup cda=some ⟨ccl,cdd,.fields vs,ccs⟩∧vs[2]?=some (.str file tf)∧((C.prog.main.file:Str)==file)=true
 isc:∃ cd,W.clsIn C.K (C.cls c)=some cd∧W.alongIn C.K (nm m2) ((cd.mro.dropWhile (·!=.ref (C.cls c))).drop 1)=some (some (.ref f2))
 f2t:typeIn C.K (.ref f2)=some (.type "function")
 f2k:keepIn C.K (.ref f2)=true
 sub:W.mroIn C.K (C.cls c) (.ref (C.cls c))=some true
 top:(C.prog.main.scope.names.lookup ("super" : Str)).isSome=false
 any:W.nsIn C.K cStatics "thirdparty.any" = some none
 notc:(nm m2==("__class__" : Str))=false
class inductive Sup (C:Cfg) (c:Nat) (a:Addr) (f:FDef):Prop
 | mk (c2 m2:Nat) (b2:List S) (ms2:List (Nat×FDef)) (f2d:FDef) (d:FuncData) (ar:Arg) (p0 p1 ap p p':Pos) (rest:List Stmt) (n:Nat) (cc cda f2:Addr):f=⟨[aJ],.expr (.sup c2 m2) :: b2⟩→lk C.P.classes c2=some ms2→lk ms2 m2=some f2d→Fn C f2 f2d→SupAt C c a m2 b2 d ar p0 p1 ap p p' rest n cc cda f2→Sup C c a f
structure ClsOK (C:Cfg) (G:Glo) (c:Nat) (ms:List (Nat×FDef)):Prop where
 glob:G.mg (nm c)=some (.ref (C.cls c))
 makes:makesIn C.K (C.cls c)=true
 keep:keepIn C.K (.ref (C.cls c))=true
 get:∀ x,plainGet C.K (C.cls c) x=true
 dict:hasDictIn C.K (C.cls c)=true
 set:findIn C.K (.ref (C.cls c)) "__setattr__" = some (some (.builtin "object.__setattr__"))
 over:plainOver C.K (C.cls c)=true
 attr:∀ a∈C.P.attrs,findIn C.K (.ref (C.cls c)) (nm a)=some none
 meth:∀ m f,lk ms m=some f→∃ a,findIn C.K (.ref (C.cls c)) (nm m)=some (some (.ref a))∧typeIn C.K (.ref a)=some (.type "function")∧(Fn C a f∨m=eo)
 init:∀ f,lk ms eo=some f→∃ a,findIn C.K (.ref (C.cls c)) "__init__" = some (some (.ref a))∧typeIn C.K (.ref a)=some (.type "function")∧(Fn C a f∨Sup C c a f)
structure CfgOK (C:Cfg) (G:Glo):Prop where
 X:C.K.In C.base
 lim:C.base.NoLimit
 g:C.base.Ns mainGlobals G.mg
 b:C.base.Ns builtinsNs G.mb
 sys:(C.base.get? sysModules).isSome=true
 cst:∀ i v,lk C.P.consts i=some v→∃ x,G.mg (nm i)=some x∧VR .nil [] C.base v x
 fn:∀ i f,lk C.P.funs i=some f→∃ a,G.mg (nm i)=some (.ref a)∧Fn C a f
 cl:∀ c ms,lk C.P.classes c=some ms→ClsOK C G c ms
 bi:∀ x∈cg,G.mg x=none∧G.mb x=bootBuiltins x
noncomputable abbrev MM (C:Cfg):Model:=model C.prog C.w
noncomputable def Runs (C:Cfg) (A:Around) (t:Sem Value) (ρ:Rh) (H:Hp) (s:Shared) (v:V) (H':Hp):Prop :=
 ∀ (E:Value→Shared→Prop) (Q:Value→Shared→Prop),(∀ x s' ρ',St C ρ' H' s'→Nx no ρ H s ρ' H' s'→VR ρ' H' s'.heap v x→Q x s')→wpAny (MM C) A t Q E s
noncomputable def yr (C:Cfg) (A:Around) (t:Sem (List Value)) (ρ:Rh) (H:Hp) (s:Shared) (v:List V) (H':Hp):Prop :=
 ∀ (E:Value→Shared→Prop) (Q:List Value→Shared→Prop),(∀ x s' ρ',St C ρ' H' s'→Nx no ρ H s ρ' H' s'→VRs ρ' H' s'.heap v x→Q x s')→wpAny (MM C) A t Q E s
noncomputable def f6 (C:Cfg) (A:Around) (t:Sem Bool) (ρ:Rh) (H:Hp) (s:Shared) (b:Bool) (H':Hp):Prop :=
 ∀ (E:Value→Shared→Prop) (Q:Bool→Shared→Prop),(∀ s' ρ',St C ρ' H' s'→Nx no ρ H s ρ' H' s'→Q b s')→wpAny (MM C) A t Q E s
noncomputable def Snd (C:Cfg):Prop:=∀ (n:Nat) (fd:FDef) (fa:Addr),Fn C fa fd→∀ (vs:List V) (ys:List Value) (v:V) (H':Hp) (A:Around) (s:Shared),cH (sem C.P n) fd vs []=some (v,H')→aS (n + 1) A→St C .nil [] s→VRs .nil [] s.heap vs ys→Runs C A (call (.ref fa) ys) .nil [] s v H'
theorem rY:Nonempty (Cfg×Glo):=⟨⟨⟨default,⟨fun _ _=>0,{ strHash:=fun _=>0,shareClass:=fun _=>0,mergeTok:=fun t=>t,idOf:=fun _=>0,idOfShared:=fun _ _=>0,followText:=fun _=>false,idOfImm:=fun _=>0 }⟩,default,[],⟨[],[],[],[]⟩,fun _=>0,{}⟩,⟨fun _=>none,fun _=>none⟩⟩⟩
noncomputable def cG:Cfg×Glo:=@Classical.epsilon _ rY fun p=>CfgOK p.1 p.2∧¬ Snd p.1
noncomputable def C:Cfg:=cG.1
noncomputable def gG:Glo:=cG.2
theorem tS (h:CfgOK C gG→Snd C) {C':Cfg} {G:Glo} (K:CfgOK C' G):Snd C':=Classical.byContradiction fun n =>
 have q:CfgOK C gG∧¬ Snd C:=Classical.epsilon_spec (p:=fun p:Cfg×Glo=>CfgOK p.1 p.2∧¬ Snd p.1) ⟨(C',G),K,n⟩
 q.2 (h q.1)
theorem Runs.eq {A:Around} {t:Sem Value} {ρ:Rh} {H H1 H':Hp} {s:Shared} {v w:V} (h:(w,H1)=(v,H')) (k:Runs C A t ρ H s w H1):Runs C A t ρ H s v H':=by (refine dw h ?_;clear h);exact k
theorem Runs.eqs {A:Around} {t:Sem Value} {ρ:Rh} {H H1 H':Hp} {s:Shared} {v w:V} (h:some (w,H1)=some (v,H')) (k:Runs C A t ρ H s w H1):Runs C A t ρ H s v H':=.eq (Option.some.inj h) k
noncomputable def bJ (C:Cfg) (n:Nat) (R:Sems):Prop:=∀ (f:Nat) (sc:Scope) (env:Env) (e:E) (x:Expr) (lo:Lo) (H:Hp) (v:V) (H':Hp),
 mtE f sc e x=true→R.ev e lo H=some (v,H')→∀ (A:Around) (s:Shared) (ρ:Rh),aS n A→St C ρ H s→EnvOK C sc env ρ H s.heap lo→Runs C A (eval x env) ρ H s v H'
noncomputable def iU (C:Cfg) (n:Nat) (R:Sems):Prop:=∀ (f:Nat) (sc:Scope) (env:Env) (e:E) (x:Expr) (lo:Lo) (H:Hp) (b:Bool) (H':Hp),
 mtE f sc e x=true→R.ev e lo H=some (.bool b,H')→∀ (A:Around) (s:Shared) (ρ:Rh),aS n A→St C ρ H s→EnvOK C sc env ρ H s.heap lo→f6 C A (isTrue x env (eval x env)) ρ H s b H'
section
variable {sc:Scope} {env:Env} {lo:Lo} {A:Around} {R:Sems} {n:Nat} {ρ ρ':Rh} {H H':Hp} {s s':Shared}
theorem d1 (f:Nat) (e:E) (x:Expr) (h:mtE f sc e x=true):(∀ y p,x≠.Starred y p)∧(∀ l k p,x≠.Set l k p)∧(∀ l u t p,x≠.Slice l u t p):=by
 have hk:=Nat.le_of_ble_eq_true (xf e)
 rw [← xW h] at hk
 refine ⟨fun y p hx=>?_,fun l k p hx=>?_,fun l u t p hx=>?_⟩<;>subst hx
 ·exact absurd hk (show ¬ 50≤20 by decide)
 ·exact absurd hk (show ¬ 50≤20 by decide)
 ·induction t using Option.casesOn
  ·exact absurd hk (show ¬ 30≤20 by decide)
  ·exact absurd hk (show ¬ 50≤20 by decide)
theorem bQ {x:Expr} {xs:List Expr} (h:∀ y p,x≠.Starred y p):starEach (x :: xs) env=(false,eval x env) :: starEach xs env:=by
 induction x using PySem.Expr.casesOn<;>first | rfl | exact absurd rfl (h _ _)
noncomputable def bj (xs:List Expr) (env:Env):List (Bool×Sem Value):=xs.map fun x=>(false,eval x env)
theorem aV (pos:Pos) (xs:List Expr):backTo pos (bj xs env)=bj xs env:=by
 induction xs with
 | nil=>rfl
 | cons x xs ih =>
  show (false,_) :: backTo pos (bj xs env)=_
  rw [ih];rfl
theorem bD {me:Scope→E→Expr→Bool} {xs:List Expr} (h:b5 me sc [] xs=true):xs=[]:=by induction xs using List.casesOn with
 | nil=>rfl
 | cons _ _=>exact ff h
theorem eD {me:Scope→E→Expr→Bool} {e:E} {es:List E} {xs:List Expr} (h:b5 me sc (e :: es) xs=true) {P:List Expr→Prop} (k:∀ x ys,me sc e x=true→b5 me sc es ys=true→P (x :: ys)):P xs:=by
 induction xs using List.casesOn with
 | nil=>exact ff h
 | cons x ys=>exact k x ys (cB h).1 (cB h).2
theorem jn {f:Nat} {es:List E} {xs:List Expr} (h:b5 (mtE f) sc es xs=true):es.length=xs.length:=by
 induction es generalizing xs with
 | nil=>rw [bD h];rfl
 | cons e es ih =>
  (apply eD h;clear h;intro x ys _ m)
  exact congrArg (· + 1) (ih m)
theorem bq {f:Nat} {es:List E} {xs:List Expr} (h:b5 (mtE f) sc es xs=true):starEach xs env=bj xs env:=by
 induction es generalizing xs with
 | nil=>rw [bD h];rfl
 | cons e es ih =>
  (apply eD h;clear h;intro x ys m1 m2)
  rw [bQ (d1 f e x m1).1,ih m2];rfl
theorem dX (EV:bJ C n R) {f:Nat}:∀ {es:List E} {xs:List Expr} {H:Hp} {vs:List V} {H':Hp},b5 (mtE f) sc es xs=true→evs R es lo H=some (vs,H')→∀ {s:Shared} {ρ:Rh},aS n A→St C ρ H s→EnvOK C sc env ρ H s.heap lo →
  yr C A (spliced (bj xs env)) ρ H s vs H':=by
 intro es
 induction es with
 | nil =>
  intro xs H vs H' hm h s ρ r S X E Q k
  cases bD hm
  (revert k;apply de h;clear h;intro k)
  exact wpAny_pure (k _ _ _ S (.refl _ _ _) .nil)
 | cons e es ih =>
  intro xs H vs H' hm h s ρ r S X E Q k
  (apply eD hm;clear hm;intro x ys m1 m2)
  refine bpE h fun v H1 h1 h=>?_
  refine bpE h fun ws H2 h2 h=>?_
  (revert k;apply de h;clear h;intro k)
  refine wpAny_bind (EV f sc env e x lo H v H1 m1 h1 A s ρ r S X E _ fun y s₁ ρ₁ S₁ N₁ r₁=>?_)
  refine wpAny_bind (wpAny_pure (wpAny_bind (wpAny_holding ?_)))
  exact ih m2 h2 r S₁ (X.next S N₁) E _ fun ys s₂ ρ₂ S₂ N₂ r₂=>wpAny_pure (k _ _ _ S₂ (N₁.trans N₂) (.cons (r₁.lasts (N₂.lasts S₁)) r₂))
theorem aH {g:Str} {x:Expr} (h:bu sc g x=true):∃ p,x=.Name g p∧sc.names.lookup g=some .globalImplicit∧(g==("__debug__" : Str))=false:=by
 have hx:=bp (aj h)
 have h2:=fY (aq h)
 have e:(pt x).s=g:=beq_iff_eq.mp h2.1
 rw [e] at h2
 exact ⟨(pt x).p,e▸hx,beq_iff_eq.mp h2.2.1,by simpa using aj h2.2.2⟩
theorem dA (K:CfgOK C gG) (X:EnvOK C sc env ρ H s.heap lo) (S:St C ρ H s) {g:Str} {v:Value} (hl:sc.names.lookup g=some .globalImplicit) (hv:gG.mg g=some v) {E:Value→Shared→Prop} {Q:Value→Shared→Prop} (h:Q v s) :
  wpAny (MM C) A (loadName env g) Q E s :=
 W.ks_loadName_global X.kind (X.glo _ hl) (loadGlobal_global (by rw [X.glob];exact K.g.keeps S.base) hv h)
theorem aD (K:CfgOK C gG) (X:EnvOK C sc env ρ H s.heap lo) (S:St C ρ H s) {g:Str} {v:Value} (hl:sc.names.lookup g=some .globalImplicit) (hb:g∈cg) (hv:bootBuiltins g=some v) {E:Value→Shared→Prop} {Q:Value→Shared→Prop} (h:Q v s) :
  wpAny (MM C) A (loadName env g) Q E s :=
 W.ks_loadName_global X.kind (X.glo _ hl) (loadGlobal_builtin (by rw [X.glob];exact K.g.keeps S.base) (K.bi g hb).1 (by rw [X.blt];exact K.b.keeps S.base) ((K.bi g hb).2.trans hv) h)
theorem St.base_lasts (S:St C ρ H s):Lasts .nil [] C.base ρ H s.heap where
 ext:=List.nil_prefix
 tup:=fun a items ⟨o,ho,r⟩ _=>⟨⟨o,S.base a o ho,r⟩,fun m=>nn ((S.hid a m).2.symm.trans ho)⟩
 lst:=fun a items ⟨o,ho,r⟩ _=>⟨⟨o,S.base a o ho,r⟩,fun m=>by
  refine Or.elim m (fun m=>?_) fun m=>?_
  ·rw [S.own_new m] at ho;exact nn ho
  ·rw [(S.hid a m).2] at ho;exact nn ho⟩
theorem Runs.of {x x':Expr} {v:V} (hx:x=x') (h:Runs C A (eval x' env) ρ H s v H'):Runs C A (eval x env) ρ H s v H':=hx▸h
theorem uF {f:Nat} {x:Expr} {v:V} (hm:mtE (f + 1) sc .none x=true) (S:St C ρ H s):Runs C A (eval x env) ρ H s .none H:=by
 rw [(aQ hm).1]
 intro E Q k
 exact wpAny_Constant_none (k _ _ _ S (.refl _ _ _) .none)
theorem uL {f:Nat} {x:Expr} {b:Bool} (hm:mtE (f + 1) sc (.bool b) x=true) (S:St C ρ H s):Runs C A (eval x env) ρ H s (.bool b) H:=by
 refine aw (aQ hm) fun hx hm=>?_
 rw [hx]
 obtain rfl:b=(pt x).bl:=beq_iff_eq.mp hm
 intro E Q k
 exact wpAny_Constant_bool (k _ _ _ S (.refl _ _ _) (.bool _))
theorem wV {f:Nat} {x:Expr} {i:Int} (hm:mtE (f + 1) sc (.num i) x=true) (S:St C ρ H s):Runs C A (eval x env) ρ H s (.int i) H:=by
 refine aw (aQ hm) fun hx hm=>?_
 rw [hx]
 obtain rfl:i=(pt x).i:=beq_iff_eq.mp hm
 intro E Q k
 refine aw (S.grow (s':={ s with toks:=s.toks + 1 }) (fun _ _ e=>e) rfl rfl) fun S' N=>?_
 exact wpAny_Constant_int (k _ _ _ S' N (.int _ _))
theorem wU {f:Nat} {x:Expr} {i:Nat} (hm:mtE (f + 1) sc (.str i) x=true) (S:St C ρ H s):Runs C A (eval x env) ρ H s (.str i) H:=by
 refine aw (aQ hm) fun hx hm=>?_
 rw [hx]
 have hm:nm i=(pt x).s:=beq_iff_eq.mp hm
 intro E Q k
 refine aw (S.grow (s':={ s with toks:=s.toks + 1 }) (fun _ _ e=>e) rfl rfl) fun S' N=>?_
 exact wpAny_Constant_str (k _ _ _ S' N (hm▸.str _ _))
theorem wO {f:Nat} {x:Expr} {i:Nat} {v:V} (hm:mtE (f + 1) sc (.var i) x=true) (hl:lk lo i=some v) (S:St C ρ H s) (X:EnvOK C sc env ρ H s.heap lo):Runs C A (eval x env) ρ H s v H:=by
 refine vH (b9 (v9 hm)) fun p hh3_ a b c=>?_
 subst hh3_
 intro E Q k
 exact wpAny_Name (fy X a c hl fun y r=>k _ _ _ S (.refl _ _ _) r) b
theorem w9 (K:CfgOK C gG) {f:Nat} {x:Expr} {i:Nat} {v:V} (hm:mtE (f + 1) sc (.cst i) x=true) (hl:lk C.P.consts i=some v) (S:St C ρ H s) (X:EnvOK C sc env ρ H s.heap lo):Runs C A (eval x env) ρ H s v H:=by
 refine vH (b9 (v9 hm)) fun p hh4_ a b c=>?_
 subst hh4_
 refine ae (K.cst i v hl) fun y hy r=>?_
 intro E Q k
 exact wpAny_Name (dA K X S (beq_iff_eq.mp a) hy (k _ _ _ S (.refl _ _ _) (r.lasts S.base_lasts))) b
end
theorem af:sizeLine=16777216:=rfl
theorem aI {n:Nat} (h:ax n=true):n≤100000:=Nat.le_of_ble_eq_true h
theorem gP {i:Int} (h:aM i=true):i.natAbs < 2 ^ 62:=Nat.lt_of_le_of_lt (Nat.le_of_ble_eq_true h) (by decide)
theorem eL {i:Int} (h:aM i=true):i.natAbs≤2 ^ 62:=Nat.le_of_lt (gP h)
set_option tactic.hygienic true in
theorem intBits_le {i:Int} (h:aM i=true):Builtin.Int.intBits i≤64:=by
 have h:=eL h
 unfold Builtin.Int.intBits
 split
 ·lia
 ·rename_i hi
  have:i.natAbs≠0:=by
   intro e;apply hi;simp;lia
  have:=(Nat.log2_lt this (k:=63)).mpr (Nat.lt_of_le_of_lt h (by decide))
  lia
theorem noPylong {a b:Int} (h:aM b=true):Builtin.divisionGoesByPylong a b=false:=by
 have h:=eL h
 refine PyProof.noPylong_of_log2 ?_
 by_cases e:b.natAbs=0
 ·rw [e];decide
 ·have:=(Nat.log2_lt e (k:=63)).mpr (Nat.lt_of_le_of_lt h (by decide))
  lia
section
variable {A:Around} {n:Nat} {ρ ρ':Rh} {H H':Hp} {s s':Shared}
theorem Runs.here {v:V} {t:Sem Value} (S:St C ρ H s) (h:∀ E Q,(∀ x s',VR ρ H s.heap v x→s'.heap=s.heap→s'.gens=s.gens→s'.os=s.os→Q x s')→wpAny (MM C) A t Q E s):Runs C A t ρ H s v H:=fun E Q k =>
 h E Q fun x s' r e1 e2 e3 =>
  have G:=S.grow (s':=s') (fun a o e=>by rw [e1];exact e) e2 e3
  k x s' ρ G.1 G.2 (by rw [e1];exact r)
set_option tactic.hygienic true in
theorem vn (S:St C ρ H s) {op:Bop} {a b r:Int} {t u:Tok} (h:binI op a b=some r):Runs C A (binaryOp (v7 op) (.int a t) (.int b u)) ρ H s (.int r) H:=by
 refine Runs.here S fun E Q k=>?_
 have k':∀ {i:Int} {tk:Tok},some i=some r→Q (.int i tk) { s with toks:=s.toks + 1 }:=fun {i tk} e=>someE e.symm (P:=fun i=>Q (.int i tk) _) (k _ _ (.int _ _) rfl rfl rfl)
 induction op using Mini.Internal.Bop.casesOn
 ·exact add_int (k' h)
 ·exact sub_int (k' h)
 ·exact itE h fun hi h=>mul_int (k' h) (IntMulOk.of_left (intBits_le hi))
 ·exact inE h fun hb h=>itE h fun hi h=>floordiv_int hb (k' h) (.inl (noPylong hi))
 ·exact inE h fun hb h=>mod_int' hb (k' h)
 ·exact iyE h fun hb h=>itE h fun hi h=>lshift_int_small hb.1 (by (clear hi;lia)) (Nat.lt_of_le_of_lt (eL hi) (by decide)) (k' h)
 ·exact iyE h fun hb h=>rshift_int hb (k' h)
 ·exact and_int (k' h)
 ·exact or_int (k' h)
 ·exact xor_int (k' h)
theorem St.fresh (S:St C ρ H s):¬ Own ρ H s.heap.objs.size:=fun m=>by
 refine ae (S.own_there m) fun o ho _=>?_
 exact Nat.lt_irrefl _ (Heap.lt_size ho)
theorem St.shy (S:St C ρ H s):¬ Shy ρ H s.heap.objs.size:=fun m=>by
 refine Or.elim m (fun m=>?_) fun m=>?_
 ·exact S.fresh m
 ·refine aw (S.hid _ m) fun hh1_ _=>?_
  refine aG hh1_ fun o ho=>?_
  exact Nat.lt_irrefl _ (Heap.lt_size ho)
theorem j8 (S:St C ρ H s) {vs:List V} {xs:Array Value} (r:VRs ρ H s.heap vs xs.toList) {tk:Nat} :
  St C ρ H { s with heap:=s.heap.push { cls:=.type "tuple",data:=.seq xs },toks:=tk }∧Nx no ρ H s ρ H { s with heap:=s.heap.push { cls:=.type "tuple",data:=.seq xs },toks:=tk } ∧
   VR ρ H (s.heap.push { cls:=.type "tuple",data:=.seq xs }) (.tup vs) (.ref s.heap.objs.size):=by
 refine aw (S.grow (s':={ s with heap:=s.heap.push { cls:=.type "tuple",data:=.seq xs },toks:=tk }) (fun a o e=>Heap.get?_push_of_some _ e) rfl rfl) fun S' N=>?_
 exact ⟨S',N,.tup ⟨_,Heap.get?_push_size _ rfl,rfl,_,rfl⟩ (fun m=>S.shy (.inr m)) (r.lasts (N.lasts S))⟩
theorem gM (S:St C ρ H s) {vs:List V} {xs:Array Value} (r:VRs ρ H s.heap vs xs.toList) {tk:Nat} :
  St C ρ H { s with heap:=s.heap.push { cls:=.type "list",data:=.seq xs },toks:=tk }∧Nx no ρ H s ρ H { s with heap:=s.heap.push { cls:=.type "list",data:=.seq xs },toks:=tk } ∧
   VR ρ H (s.heap.push { cls:=.type "list",data:=.seq xs }) (.lst vs) (.ref s.heap.objs.size):=by
 refine aw (S.grow (s':={ s with heap:=s.heap.push { cls:=.type "list",data:=.seq xs },toks:=tk }) (fun a o e=>Heap.get?_push_of_some _ e) rfl rfl) fun S' N=>?_
 exact ⟨S',N,.lst ⟨_,Heap.get?_push_size _ rfl,rfl,_,rfl⟩ S.shy (r.lasts (N.lasts S))⟩
theorem iN (g:Nat):rS g 0=[]:=by induction g using Nat.casesAuxOn<;>rfl
theorem pC:∀ (f g n:Nat),n≤f→n≤g→rS f n=rS g n:=by
 intro f
 induction f with
 | zero=>exact fun g n hf _=>by rw [Nat.le_zero.mp hf];exact (iN g).symm
 | succ f ih =>
  intro g n hf hg
  by_cases h0:n=0
  ·rw [h0];exact (iN _).symm
  ·induction g using Nat.casesAuxOn with
   | zero=>exact absurd (Nat.le_zero.mp hg) h0
   | succ g=>rw [dP f h0,dP g h0,ih g _ (kJ h0 hf) (kJ h0 hg)]
theorem oh {n:Nat} (h:n≠0):nmL n=(n % 256) :: nmL (n / 256):=by
 induction n using Nat.casesAuxOn with
 | zero=>exact absurd rfl h
 | succ m=>exact (dP m h).trans (congrArg _ (pC m _ _ (kJ h (Nat.le_refl _)) (Nat.le_refl _)))
theorem dZ:∀ (a b:Nat),nmL (a + b * 256 ^ (nmL a).length)=nmL a++nmL b:=by
 intro a
 induction a using Nat.strongRecOn with
 | ind a ih =>
  intro b
  by_cases h0:a=0
  ·rw [h0];show nmL (0 + b * 1)=nmL b;rw [Nat.mul_one,Nat.zero_add]
  ·have e:=oh h0
   have hl:(nmL a).length=(nmL (a / 256)).length + 1:=by rw [e];rfl
   have hn:a + b * 256 ^ (nmL a).length≠0:=fun q=>h0 (Nat.eq_zero_of_add_eq_zero q).1
   have hd:(a + b * 256 ^ (nmL a).length) / 256=a / 256 + b * 256 ^ (nmL (a / 256)).length:=by
    rw [hl,Nat.pow_succ,← Nat.mul_assoc,Nat.add_mul_div_right _ _ (by decide)]
   have hm:(a + b * 256 ^ (nmL a).length) % 256=a % 256:=by
    rw [hl,Nat.pow_succ,← Nat.mul_assoc,Nat.add_mul_mod_self_right]
   rw [oh hn,hd,hm,ih (a / 256) (Nat.div_lt_self (Nat.pos_of_ne_zero h0) (by decide)) b,e]
   rfl
theorem fq (a b:Nat):nm a++nm b=nm (dg a b):=by
 exact .trans (congrArg Str.mk (List.append_toArray ..)) (congrArg (fun l:List Nat=>(⟨l.toArray⟩:Str)) (dZ a b)).symm
theorem dH (a:Nat):(nm a).length=(nmL a).length:=rfl
theorem oE (l:Addr) (items:Array Value) (n:Nat) (x:Int) (u:Tok) (dd:Option Addr) (sl:Array (Option Value)) (hc0:¬(!Builtin.List.listFitsIndex x)=true) (hc1:¬items.size * x.toNat > (2 ^ 63 - 1) / 8) (hc2:¬Builtin.List.listTooLong (items.size * x.toNat)=true) :
  Meets (Builtin.«list.__mul__» ⟨[.ref l,.int x u],[]⟩) (fun _ R s=>s.heap.get? l=some { cls:=.type "list",dict:=dd,data:=.seq items n,slots:=sl }∧R (.ok (.ret (Value.ref s.heap.objs.size))) { s with heap:=s.heap.push { cls:=Value.type "list",data:=Data.seq (List.foldl (fun x1 x2=>x1++x2) #[] (List.replicate (if items.isEmpty=true then 0 else x.toNat) items)) },toks:=s.toks }) :=
 .of_wp fun prog w A R s h=>by
  obtain ⟨hp,g,d,tk,os⟩:=s;refine aw h fun hl h=>?_
  have hsz:=AutoListH.joined_fits hc2
  wp_walk;refine wpAny_ite_false (decide_eq_false (Nat.not_lt.mpr hsz)) ?_;wp_walk;exact ⟨_,rfl,h⟩
theorem oV (a:Int) (t:Tok) (l:Addr) (items:Array Value) (n:Nat) (dd:Option Addr) (sl:Array (Option Value)) :
  Meets (Builtin.«int.__rmul__» ⟨[.int a t,.ref l],[]⟩) (fun _ R s=>s.heap.get? l=some { cls:=.type "list",dict:=dd,data:=.seq items n,slots:=sl }∧R (.ok (.ret Value.notImplemented)) s) :=
 .of_wp fun prog w A R s h=>by obtain ⟨hp,g,d,tk,os⟩:=s;refine aw h fun hl h=>?_;wp_walk;exact ⟨_,rfl,h⟩
theorem cP {α:Type} (xs:Array α):∀ (k:Nat) (acc:Array α),(List.foldl (fun x1 x2=>x1++x2) acc (List.replicate k xs)).toList=acc.toList++(List.replicate k xs.toList).flatten
 | 0,acc=>by simp
 | k + 1,acc=>by rw [List.replicate_succ,List.foldl_cons,cP xs k,List.replicate_succ,List.flatten_cons];simp
theorem VRs.flat {h:Heap} {vs:List V} {xs:List Value} (r:VRs ρ H h vs xs):∀ k:Nat,VRs ρ H h (List.replicate k vs).flatten (List.replicate k xs).flatten
 | 0=>.nil
 | k + 1=>by rw [List.replicate_succ,List.replicate_succ,List.flatten_cons,List.flatten_cons];exact r.append (r.flat k)
theorem jr (S:St C ρ H s) {l:List V} {j:Int} {x y:Value} (ha:VR ρ H s.heap (.lst l) x) (hb:VR ρ H s.heap (.int j) y) (q0:0≤j) (q:ax (l.length * j.toNat)=true) (q2:j < 100000) :
  Runs C A (binaryOp .Mult x y) ρ H s (.lst ((List.replicate j.toNat l).flatten)) H:=by
 cases ha with
 | @lst a1 _ i1 t1 n1 r1 =>
  refine VR.intE hb fun u=>?_
  ·
   have hz:=aI q
   have z1:=r1.length
   simp only [Array.length_toList] at z1
   refine ay t1 fun hh1_ ho hh2_ hh3_=>?_
   refine aG hh3_ fun n hh4_=>?_
   obtain ⟨cls,dd,data,sl⟩:=hh1_
   subst hh2_
   subst hh4_
   intro E Q k
   refine wpAny_binaryOp_repeat_ref (T:="list") (U:="int") (by decide) ⟨_,ho,rfl⟩ (fun s'=>typeIs_int s' j u) noFill_list_mul F.fills_int_mul F.slot_int_rmul repeat_list F.slot_int_index.lookup
    (call_meets F.slot_int_rmul (typeIs_int s j u) F.entry_int_rmul (F.args_int_rmul_2 _ _) (oV j u a1 i1 n dd sl)
     ⟨ho,rfl,⟨_,ho,rfl⟩,call_meets F.slot_list_mul ⟨_,ho,rfl⟩ F.entry_list_mul (F.args_list_mul_2 _ _)
      (oE a1 i1 n j u dd sl (by simp [Builtin.List.listFitsIndex];(clear ho z1 hz n1 q;lia)) (by rw [← z1];(clear ho z1 n1 q2 q q0;lia)) (by rw [← z1];simp [Builtin.List.listTooLong,sizeLine];(clear ho z1 n1 q2 q q0;lia)))
      ⟨ho,?_⟩⟩)
   refine du (gM S (vs:=(List.replicate j.toNat l).flatten) (xs:=List.foldl (fun x1 x2=>x1++x2) #[] (List.replicate (if i1.isEmpty=true then 0 else j.toNat) i1)) (by
    rw [cP]
    by_cases he:i1.isEmpty=true
    ·have:i1 = #[]:=by simpa using he
     subst this
     cases r1
     simp;exact .nil
    ·rw [if_neg he];simpa using r1.flat j.toNat) (tk:=s.toks)) fun S' N r=>?_
   exact k _ _ _ S' N r
theorem oS {α:Type} {p:Prop} [Decidable p] {x:Option α} {y:α} (h:(if p then x else Option.none)=some y):p∧x=some y:=by
 by_cases hp:p
 ·exact ⟨hp,by rwa [if_pos hp] at h⟩
 ·rw [if_neg hp] at h;exact nn h
theorem vm (S:St C ρ H s) {op:Bop} {a b r:V} {x y:Value} (ha:VR ρ H s.heap a x) (hb:VR ρ H s.heap b y) (h:fV op a b=some r):Runs C A (binaryOp (v7 op) x y) ρ H s r H:=by
 induction a using V.casesOn with
 | int i =>
  (refine bsE h fun j hj hh_=>?_;clear h;revert hh_;intro h)
  obtain rfl:=az hj
  refine ae (map_some h) fun k hk hh2_=>?_
  subst hh2_
  refine VR.intE ha fun _=>?_;refine VR.intE hb fun _=>?_
  exact vn S hk
 | lst l =>
  (refine bsE h fun n hj hh_=>?_;clear h;revert hh_;intro h)
  obtain rfl:=az hj
  refine aw (oS (p:=op=.mul∧0≤n∧ax (l.length * n.toNat)∧n < 100000) (x:=some (V.lst ((List.replicate n.toNat l).flatten))) h) fun hh3_ h9=>?_
  refine sm hh3_ fun hh1_ q0 q q2=>?_
  subst hh1_
  cases h9
  exact jr S ha hb q0 q q2
 | none=>exact nn h
 | bool _=>exact nn h
 | str _=>exact nn h
 | tup _=>exact nn h
 | ref _=>exact nn h
theorem rM {a b:V} {r:Bool} {H:Hp} (ha:a.ref?=Option.none) (h:eqV H a b=some r):a.flat=true∧b.flat=true∧r=V.beq a b:=by
 unfold eqV at h
 rw [ha] at h
 have q:=dN h
 exact ⟨aj q.1,aq q.1,(Option.some.inj q.2).symm⟩
end
section
variable {A:Around} {n:Nat} {ρ ρ':Rh} {H H':Hp} {s s':Shared}
theorem St.ref_obj (S:St C ρ H s) {i:Nat} {o:O} {x:Value} (r:VR ρ H s.heap (.ref i) x) (hi:nth H i=some o):∃ p,ρ[i]?=some p∧x=.ref p.1∧mD C ρ H s.heap p o:=by
 cases r with
 | ref e=>exact ⟨_,e,rfl,S.objs _ _ _ hi e⟩
theorem dF {A:Around} {k m:Nat} (hu:A.units + 100 < cLine) (h:k≤60):A.units + min k m < cLine:=Nat.lt_of_le_of_lt (Nat.add_le_add_left (Nat.le_trans (Nat.min_le_left k m) (Nat.le_trans h (by decide))) _) hu
theorem wK {A:Around} (hu:A.units + 200 < cLine):A.units + 100 < cLine:=Nat.lt_of_le_of_lt (Nat.add_le_add_left (by decide) _) hu
theorem kL {v:V} {n:Nat} (h:V.dep v=some n):(V.dep v).isSome=true:=by rw [h];rfl
theorem VR.two {a b:V} {x y:Value} {p:Prop} (ha:VR ρ H s.heap a x) (hb:VR ρ H s.heap b y) (fa:a.flat=true) (fb:b.flat=true)
  (k:∀ as bs,Reads s.heap x (V.py a) as→Reads s.heap y (V.py b) bs→(V.py a).canLay0=true→(V.py b).canLay0=true→(V.py a).depth≤60→PyData.eqv (V.py a) (V.py b)=V.beq a b→p):p :=
 ae (cf fa) fun _ hi hi'=>ae (cf fb) fun _ hj _=>ay (ha.reads hi) fun as ra la da=>ay (hb.reads hj) fun bs rb lb _ =>
  k as bs ra rb la lb (Nat.le_trans da hi') (pX a b (kL hi) (kL hj))
theorem uP (S:St C ρ H s) {a b:V} {x y:Value} (ha:VR ρ H s.heap a x) (hb:VR ρ H s.heap b y) (fa:a.flat=true) (fb:b.flat=true) (hu:A.units + 200 < cLine) :
  Runs C A (compareOp .Eq x y) ρ H s (.bool (V.beq a b)) H:=by
 exact ha.two hb fa fb fun as bs ra rb la lb d e=>Runs.here S fun E Q k=>SeqAt.compareEq_reads ra rb la lb (dF (wK hu) d) (by rw [e];exact k _ _ (.bool _) rfl rfl rfl)
theorem uh (S:St C ρ H s) {a b:V} {x y:Value} (ha:VR ρ H s.heap a x) (hb:VR ρ H s.heap b y) (fa:a.flat=true) (fb:b.flat=true) (hu:A.units + 200 < cLine) :
  Runs C A (compareOp .NotEq x y) ρ H s (.bool (!V.beq a b)) H:=by
 exact ha.two hb fa fb fun as bs ra rb la lb d e=>Runs.here S fun E Q k=>SeqAt.compareNe_reads ra rb la lb (dF (wK hu) d) (by rw [e];exact k _ _ (.bool _) rfl rfl rfl)
theorem find_key {K V:Type} [DecidableEq K] {j k:K} {y:V} {l:List (K×V)}:(((j,y) :: l).find? fun x=>decide (x.1=k)).map (·.2)=if j=k then some y else (l.find? fun x=>decide (x.1=k)).map (·.2):=by
 by_cases e:j=k
 ·rw [if_pos e];exact congrArg _ (List.find?_cons_of_pos (p:=fun x:K×V=>decide (x.1=k)) (decide_eq_true e))
 ·rw [if_neg e];exact congrArg _ (List.find?_cons_of_neg (p:=fun x:K×V=>decide (x.1=k)) (ne_true_of_eq_false (decide_eq_false e)))
theorem gI (j:V) (p:Addr×Value) (r:List (V×Addr×Value)) (k:V):atKey ((j,p) :: r) k=if j=k then some p else atKey r k:=find_key
theorem oZ (j:Int) (v:V) (l:List (Int×V)) (k:Int):Mini.Internal.getI ((j,v) :: l) k=if k=j then some v else Mini.Internal.getI l k:=Bool.cond_decide (k=j) _ _
theorem oY (j v:V) (l:List (V×V)) (k:V):Mini.Internal.getT ((j,v) :: l) k=if j=k then some v else Mini.Internal.getT l k:=(congrArg (cond · _ _) (b8 j k)).trans (Bool.cond_decide _ _ _)
theorem iK {K:Type} [DecidableEq K] {prog:Program} {w:World} {knd:PySem.KeyKind prog w K} {es:List DictEntry} {xs:List (K×Value)} (p:Pairs knd es xs) (k:K) :
  (es.find? fun e=>knd.is k e.key).map (·.val)=(xs.find? fun x=>decide (x.1=k)).map (·.2):=by
 induction p with
 | nil=>rfl
 | @cons e kv es kvs h1 h2 _ ih =>
  refine .trans ?_ (find_key (j:=kv.1) (y:=kv.2)).symm
  by_cases hk:kv.1=k
  ·rw [if_pos hk,List.find?_cons_of_pos (hk▸h1)];exact congrArg some h2
  ·rw [if_neg hk];exact (congrArg _ (List.find?_cons_of_neg (p:=fun e:DictEntry=>knd.is k e.key) fun q=>hk (knd.inj _ _ _ h1 q))).trans ih
theorem d3 {K:Type} [DecidableEq K] {prog:Program} {w:World} {knd:PySem.KeyKind prog w K} {h:Heap} {a:Addr} {xs:List (K×Value)} (x:h.DictOf knd a xs):h.MapOf knd a fun k=>(xs.find? fun x=>decide (x.1=k)).map (·.2) :=
 qo x fun o es ep ho hx hd hk hp _=>⟨o,es,ep,ho,hx,hd,hk,fun k=>(congrArg (Option.map _) Array.find?_toList.symm).trans (iK hp k)⟩
theorem PR.getI {h:Heap} {l:List (Int×V)} {xs:List (Int×Value)} (p:PR id ρ H h l xs) (k:Int) :
  (getI l k=Option.none∧(xs.find? fun x=>decide (x.1=k)).map (·.2)=Option.none)∨∃ v y,getI l k=some v∧(xs.find? fun x=>decide (x.1=k)).map (·.2)=some y∧VR ρ H h v y:=by
 induction p with
 | nil=>exact .inl ⟨rfl,rfl⟩
 | @cons j v y l l' r _ ih =>
  rw [oZ,show (((id j,y) :: l').find? fun x=>decide (x.1=k)).map (·.2)=_ from find_key]
  by_cases e:k=j
  ·exact .inr ⟨v,y,if_pos e,if_pos e.symm,r⟩
  ·rw [if_neg e,if_neg (fun q:id j=k=>e (Eq.symm q))];exact ih
theorem TR.getT {h:Heap} {l:List (V×V)} {xs:List (V×Addr×Value)} (p:TR ρ H h l xs) (k:V) :
  (getT l k=Option.none∧atKey xs k=Option.none)∨∃ v a y,getT l k=some v∧atKey xs k=some (a,y)∧VR ρ H h v y:=by
 induction p with
 | nil=>exact .inl ⟨rfl,rfl⟩
 | @cons j v a y l l' _ r _ ih =>
  rw [oY,gI]
  by_cases e:j=k
  ·exact .inr ⟨v,a,y,if_pos e,if_pos e,r⟩
  ·rw [if_neg e,if_neg e];exact ih
theorem TR.getE {h:Heap} {l:List (V×V)} {xs:List (V×Addr×Value)} (p:TR ρ H h l xs) (k:V) {P:Option V→Option (Addr×Value)→Prop} (h0:P Option.none Option.none) (h1:∀ v a y,VR ρ H h v y→P (some v) (some (a,y))):P (Mini.Internal.getT l k) (atKey xs k) :=
 (p.getT k).elim (fun h=>h.1▸h.2▸h0) fun h=>aT h fun v a y e1 e2 r=>e1▸e2▸h1 v a y r
theorem St.not_sys (K:CfgOK C gG) (S:St C ρ H s) {i:Nat} {p:Addr×Addr} (hp:ρ[i]?=some p):(p.1==sysModules)=false:=by
 refine beq_eq_false_iff_ne.mpr fun e=>?_
 have h1:=(S.new i p hp).1
 rw [e] at h1
 have:=K.sys
 rw [h1] at this;cases this
theorem g6 (prog:Program) (w:World) (i:Int) (t:Tok):(intKind prog w).is i (.int i t)=true:=by simp [intKind,Value.isInt]
theorem jl {M:Model} {x c:Value} {E:Value→Shared→Prop} {Q:Value→Shared→Prop} (h:wpAny M A (compareOp .In x c) (fun v s'=>∀ b,v=.bool b→Q (.bool (!b)) s') E s):wpAny M A (compareOp .NotIn x c) Q E s:=fun Γ p hΓ=>by
 have h1:=h Γ p hΓ
 have e1:compareOp .In x c=(contains c x>>=fun b=>pure (.bool b)):=rfl
 have e2:compareOp .NotIn x c=(contains c x>>=fun b=>pure (.bool (!b))):=rfl
 rw [e1,Sem.wp_bind'] at h1
 rw [e2,Sem.wp_bind']
 exact Sem.wp_mono M Γ _ (fun b p' s' q=>(show ∀ c,Value.bool b=.bool c→Q (.bool (!c)) s' from q) b rfl) (fun _ _ _ q=>q) p s h1
theorem Runs.notIn {x y:Value} {r:Bool} (h:Runs C A (compareOp .In x y) ρ H s (.bool r) H'):Runs C A (compareOp .NotIn x y) ρ H s (.bool (!r)) H':=fun E Q k =>
 jl (h E _ fun v s' ρ' S' N R b e=>by
  subst e
  cases R
  exact k _ _ _ S' N (.bool _))
theorem uw {a:V} (h:a.isKey=true):∃ l,a=.tup l:=by induction a using Mini.Internal.V.casesOn<;>first | exact ⟨_,rfl⟩ | cases h
theorem VR.is {a:V} {x:Value} (ha:VR ρ H s.heap a x) (hk:a.isKey=true):∃ q,x=.ref q∧(bP C.prog C.w).is s.heap a q:=by
 refine aG (uw hk) fun l hh1_=>?_
 subst hh1_
 cases ha with
 | tup t z r=>exact ⟨_,rfl,hk,(VR.tup t z r).kr (ba hk)⟩
theorem wL (K:CfgOK C gG) (S:St C ρ H s) {d:Nat} {a:V} {r:Bool} {x y:Value} (ha:VR ρ H s.heap a x) (hb:VR ρ H s.heap (.ref d) y) (h:sT H a d=some r) (hu:A.units + 200 < cLine) :
  Runs C A (compareOp .In x y) ρ H s (.bool r) H:=by
 refine bsE h fun o hd h=>?_
 refine ay (S.ref_obj hb hd) fun p hp e R=>?_
 rw [e]
 have hz:=S.not_sys K hp
 induction o using O.casesOn with
 | dI l =>
  refine msE h fun i hi h=>?_
  rw [← h]
  rw [az hi] at ha
  refine VR.intE ha fun t=>ae R.2 fun xs D R=>Runs.here S fun E Q k=>wpAny_in_of (g6 _ _ _ _) hz (d3 D) ?_
  exact (R.getI i).elim (fun q=>by rw [q.2];rw [q.1] at k;exact k _ _ (.bool _) rfl rfl rfl) fun q=>aW q fun v z e1 e2 _=>by rw [e2];rw [e1] at k;exact k _ _ (.bool _) rfl rfl rfl
 | dT l =>
  refine itE h fun hk h=>?_
  refine ae R.2 fun xs D R=>ae (ha.is hk) fun q e is=>?_
  rw [e]
  have rm:(bP C.prog C.w).room A.in1:=show A.units + 1 + 60 < cLine from Nat.lt_of_le_of_lt (Nat.add_le_add_left (by decide:61≤200) A.units) hu
  refine Runs.here S fun E Q k=>wpAny_in_heap rm is hz D ?_
  refine R.getE a (P:=fun g t=>some g.isSome=some r→Q (.bool t.isSome) _) (fun h=>?_) (fun _ _ _ _ h=>?_) h<;>exact someE h.symm (P:=fun r=>Q (.bool r) _) (k _ _ (.bool _) rfl rfl rfl)
 | list _=>exact nn h
 | inst _ _=>exact nn h
 | dead=>exact nn h
theorem ir {l:List V} (h:V.flats l=true) {ρ:Rh} {H:Hp} {h₀:Heap} {xs:List Value} (r:VRs ρ H h₀ l xs):∃ as,ReadsAll h₀ xs (V.pys l) as∧PyData.canLayAll0 (V.pys l)=true∧PyData.depthAll (V.pys l)≤60:=by
 refine ae (o7 h) fun n hn h1=>?_
 refine ay (r.reads hn) fun as a b c=>?_
 exact ⟨as,a,b,Nat.le_trans c h1⟩
theorem sF (K:CfgOK C gG) (S:St C ρ H s) {a b:V} {r:Bool} {x y:Value} (ha:VR ρ H s.heap a x) (hb:VR ρ H s.heap b y) (h:wg H a b=some r) (hu:A.units + 200 < cLine) :
  Runs C A (compareOp .In x y) ρ H s (.bool r) H:=by
 have hu':A.in1.units + 100 < cLine:=show A.units + 1 + 100 < cLine from Nat.lt_of_le_of_lt (Nat.add_le_add_left (by decide:101≤200) A.units) hu
 induction b using Mini.Internal.V.casesOn with
 | ref d=>exact wL K S ha hb h hu
 | tup l=>exact itE h fun hk h=>aw (cB hk) fun f1 f2=>ae (cf f1) fun i hi _=>ay (ha.reads hi) fun bs rb lb _=>VR.tupE hb fun t _ rr=>ay (ir f2 rr) fun as ra la da=>t5 t fun o ho hc m hd =>
   Runs.here S fun E Q k=>SeqAt.in_tuple_reads (.tuple ho hc hd ra) rb la lb (dF hu' da) (by rw [td f2 f1,Option.some.inj h];exact k _ _ (.bool _) rfl rfl rfl)
 | lst l=>exact itE h fun hk h=>aw (cB hk) fun f1 f2=>ae (cf f1) fun i hi _=>ay (ha.reads hi) fun bs rb lb _=>VR.lstE hb fun t _ rr=>ay (ir f2 rr) fun as ra la da=>t5 t fun o ho hc m hd =>
   Runs.here S fun E Q k=>SeqAt.in_list_reads (.list ho hc hd ra) rb la lb (dF hu' da) (by rw [td f2 f1,Option.some.inj h];exact k _ _ (.bool _) rfl rfl rfl)
 | _=>exact nn h
theorem rN {a b:V} {x y:Value} {E:Value→Shared→Prop} {Q:Bool→Shared→Prop} (ha:VR ρ H s.heap a x) (hb:VR ρ H s.heap b y) (fa:a.flat=true) (fb:b.flat=true) (hu:A.units + 100 < cLine) (h:Q (V.beq a b) s) :
  wpAny (MM C) A (eqBool x y) Q E s:=by
 exact ha.two hb fa fb fun as bs ra rb la lb d e=>SeqAt.eqBoolOverData C.prog C.w A E s x y _ _ _ _ Q ra rb la lb (dF hu d) (by rw [e];exact h)
theorem TR.at {h:Heap} {l:List (V×V)} {xs:List (V×Addr×Value)} (p:TR ρ H h l xs):∀ {i:Nat} {k v:V},l[i]?=some (k,v)→∃ a x,xs[i]?=some (k,a,x)∧VR ρ H h v x:=by
 induction p with
 | nil=>exact fun e=>by cases e
 | cons _ r _ ih =>
  intro i k v e
  induction i using Nat.casesAuxOn with
  | zero=>cases e;exact ⟨_,_,rfl,r⟩
  | succ i=>exact ih e
theorem TR.len {h:Heap} {l:List (V×V)} {xs:List (V×Addr×Value)} (p:TR ρ H h l xs):xs.length=l.length:=by
 induction p with
 | nil=>rfl
 | cons _ _ _ ih=>exact congrArg (· + 1) ih
theorem kE:∀ {l:List (V×V)} {i:Nat} {k v:V},V.flats (l.map (·.2))=true→l[i]?=some (k,v)→v.flat=true
 | [],i,k,v,_,e=>by cases e
 | p :: l,i,k,v,h,e=>by
  have h:(p.2.flat&&V.flats (l.map (·.2)))=true:=h
  induction i using Nat.casesAuxOn with
  | zero=>cases e;exact aj h
  | succ i=>exact kE (aq h) e
theorem iI:∀ {l:List (V×V)} {k v:V},V.flats (l.map (·.2))=true→getT l k=some v→v.flat=true
 | [],k,v,_,e=>by cases e
 | (j,u) :: l,k,v,h,e=>by
  have h:(u.flat&&V.flats (l.map (·.2)))=true:=h
  replace e:(bif V.same j k then some u else getT l k)=some v:=e
  cases q:V.same j k with
  | true=>rw [q] at e;cases e;exact aj h
  | false=>rw [q] at e;exact iI (aq h) e
theorem e9 {M:Model} {d:Addr} {E:Value→Shared→Prop} {Q:Unit→Shared→Prop} (hd:(d==sysModules)=false) (h:Q () s):wpAny M A (Builtin.Dict.showsAll d) Q E s :=
 aU (ne_true_of_eq_false hd) (wpAny_pure h)
theorem tZ {b:Addr} {m:List (V×V)} {ys:List (V×Addr×Value)} {E:Value→Shared→Prop} {Q:Bool→Shared→Prop} (db:s.heap.DictOfH (bP C.prog C.w) b ys) (tb:TR ρ H s.heap m ys) (fm:V.flats (m.map (·.2))=true) {k v:V} {ka:Addr} {xv:Value}
  (hk:(bP C.prog C.w).is s.heap k ka) (rv:VR ρ H s.heap v xv) (fv:v.flat=true) (hu:A.units + 100 < cLine) (h:Q ((getT m k).any (V.beq v)) s) :
  wpAny (MM C) A (do
   let some j ← dictFind b (.ref ka) ((bP C.prog C.w).hash k) | pure false
   let some f:=(← dictEntries b)[j]? | unsupported "internal:dict-equal"
   holding [f.val] (eqBool xv f.val)) Q E s:=by
 refine qo db fun ob es' ep' hob _ hdb heb hib hnb=>?_
 refine wpAny_bind (wpAny_dictFind_heap (Nat.lt_of_le_of_lt (Nat.add_le_add_left (by decide) _) hu) hk hob hdb heb hib hnb (fun hno=>wpAny_pure ?_) fun j p hj=>wpAny_bind (wpAny_dictEntries hob hdb ?_))
 ·exact (tb.getT k).elim (fun e=>by rw [e.1] at h;exact h) fun q=>aT q fun _ _ _ _ e2 _=>nn ((atKey_none_of_get hno).symm.trans e2)
 ·rw [(entry_at heb j).trans (congrArg _ hj)]
  refine (tb.getT k).elim (fun e=>nn (e.2.symm.trans (atKey_of_get hnb hj))) fun q=>aT q fun u b' y e1 e2 ru=>?_
  rw [e1] at h
  rw [Option.some.inj ((atKey_of_get hnb hj).symm.trans e2)]
  exact wpAny_holding (rN rv ru fv (iI fm e1) hu h)
theorem lE {nm:String} {a b:Addr} {l m:List (V×V)} {xs ys:List (V×Addr×Value)} {E:Value→Shared→Prop} {Q:Bool→Shared→Prop} (ha:(a==sysModules)=false) (hb:(b==sysModules)=false) (da:s.heap.DictOfH (bP C.prog C.w) a xs) (db:s.heap.DictOfH (bP C.prog C.w) b ys)
  (ta:TR ρ H s.heap l xs) (tb:TR ρ H s.heap m ys) (fl:V.flats (l.map (·.2))=true) (fm:V.flats (m.map (·.2))=true) (hu:A.units + 100 < cLine) (h:Q (l.length==m.length&&dm m l) s) :
  wpAny (MM C) A (Builtin.Dict.samePairs nm a b) Q E s:=by
 refine qo da fun oa es ep hoa _ hda hea hia hna=>qo db fun ob es' ep' hob _ hdb heb _ _=>?_
 have hla:es.size=l.length:=(size_of_entries hea).trans ta.len
 have hlb:es'.size=m.length:=(size_of_entries heb).trans tb.len
 refine wpAny_bind (e9 ha (wpAny_bind (e9 hb (wpAny_bind (wpAny_dictEntries hoa hda (wpAny_bind (wpAny_dictEntries hob hdb ?_)))))))
 by_cases hsz:l.length=m.length
 ·rw [beq_iff_eq.mpr hsz,Bool.true_and] at h
  refine aU (by rw [hla,hlb,hsz,bne_self_eq_false];decide) (wpAny_bind (wpAny_dictEpoch hoa hda (wb fun Q' hQ'=>?_)))
  refine qp (fun i=>dm m (l.drop i)=dm m l) (fun i R hlt hpre hy hd=>?_) (fun hpre=>hQ' _ _ (wpAny_pure ?_)) rfl
  ·have hlt:i < l.length:=hla▸hlt
   have hkv:l[i]?=some (l[i].1,l[i].2):=List.getElem?_eq_getElem hlt
   refine aX (ta.at hkv) fun ka xv hx rv=>?_
   have hpre':((getT m l[i].1).any (V.beq l[i].2)&&dm m (l.drop (i + 1)))=dm m l:=(congrArg (dm m) (List.drop_eq_getElem_cons hlt)).symm.trans hpre
   refine wpAny_bind (wpAny_dictEntries hoa hda ?_)
   rw [(entry_at hea i).trans (congrArg _ hx)]
   refine wpAny_bind (wpAny_holding (tZ db tb fm (hia _ (List.mem_of_getElem? hx)) rv (kE fl hkv) hu ?_))
   revert hpre'
   cases (getT m l[i].1).any (V.beq l[i].2) with
   | false=>exact fun e=>wpAny_pure (hd _ (hQ' _ _ (wpAny_pure (show Q false s from (show false=dm m l from e)▸h))))
   | true=>exact fun e=>aU Bool.false_ne_true (wpAny_bind (wpAny_dictEpoch hoa hda (aU (by rw [bne_self_eq_false];decide) (wpAny_pure (hy e)))))
  ·rw [hla,List.drop_length] at hpre
   rw [← hpre] at h
   exact h
 ·rw [beq_eq_false_iff_ne.mpr hsz,Bool.false_and] at h
  exact dU (bne_iff_ne.mpr fun e=>hsz (hla.symm.trans (e.trans hlb))) (wpAny_bind (wpAny_rule (wpAny_pure h)))
theorem rT (K:CfgOK C gG) (S:St C ρ H s) {i j:Nat} {l m:List (V×V)} {r:Bool} {x y:Value} (ha:VR ρ H s.heap (.ref i) x) (hb:VR ρ H s.heap (.ref j) y) (hl:nth H i=some (.dT l)) (hm:nth H j=some (.dT m)) (h:eqD l m=some r) (hu:A.units + 200 < cLine) :
  Runs C A (compareOp .Eq x y) ρ H s (.bool r) H∧Runs C A (compareOp .NotEq x y) ρ H s (.bool (!r)) H:=by
 refine ay (S.ref_obj ha hl) fun p hp e1 R=>ay (S.ref_obj hb hm) fun q hq e2 R'=>ae R.2 fun xs D T=>ae R'.2 fun ys D' T'=>itE h fun hf h=>?_
 rw [e1,e2]
 have body:∀ {nm:String} {E:Value→Shared→Prop} {Q:Bool→Shared→Prop},Q r s→wpAny (MM C) A.in1 (Builtin.Dict.samePairs nm p.1 q.1) Q E s:=fun k=>lE (S.not_sys K hp) (S.not_sys K hq) D D' T T' (aj hf) (aq hf) (show A.units + 1 + 100 < cLine from Nat.lt_of_le_of_lt (Nat.add_le_add_left (by decide:101≤200) A.units) hu) (by rw [Option.some.inj h];exact k)
 have pre:∀ {nm:String} {E:Value→Shared→Prop} {Q:Value×Value→Shared→Prop},Q (.ref p.1,.ref q.1) s→wpAny (MM C) A.in1 (Builtin.Dict.dictSlotArgs nm ⟨[.ref p.1,.ref q.1],[]⟩) Q E s:=fun k=>wpAny_bind (wpAny_notOrdered_dict D.typeIs (wpAny_pure k))
 have hu':A.units < cLine:=Nat.lt_of_le_of_lt (Nat.le_add_right _ _) hu
 refine ⟨Runs.here S fun E Q k=>?_,Runs.here S fun E Q k=>?_⟩
 ·refine wpAny_richCompare_same_room (op:=.Eq) D.typeIs D'.typeIs F.slot_dict_eq (wpAny_call_entry F.slot_dict_eq D.typeIs F.entry_dict_eq ?_ (F.args_dict_eq_2 _ _)) hu'
  refine wpAny_bind (pre (wpAny_bind (wpAny_isInstance (T:="dict") D'.typeIs F.sub_dict_dict (aU Bool.false_ne_true (wpAny_bind (wpAny_pure (wpAny_bind (wpAny_pure (wpAny_bind (body ?_))))))))))
  refine wpAny_pure ⟨_,rfl,nofun,?_⟩
  rw [show (r==true)=r by cases r<;>rfl]
  exact k _ _ (.bool _) rfl rfl rfl
 ·refine wpAny_richCompare_same_room (op:=.NotEq) D.typeIs D'.typeIs F.slot_dict_ne (wpAny_call_entry F.slot_dict_ne D.typeIs F.entry_dict_ne ?_ (F.args_dict_ne_2 _ _)) hu'
  refine wpAny_bind (pre (wpAny_bind (wpAny_isInstance (T:="dict") D'.typeIs F.sub_dict_dict (aU Bool.false_ne_true (wpAny_bind (wpAny_pure (wpAny_bind (wpAny_pure (wpAny_bind (body ?_))))))))))
  refine wpAny_pure ⟨_,rfl,nofun,?_⟩
  rw [show (r==false)=!r by cases r<;>rfl]
  exact k _ _ (.bool _) rfl rfl rfl
theorem xd (K:CfgOK C gG) (S:St C ρ H s) {a b:V} {r:Bool} {x y:Value} (ha:VR ρ H s.heap a x) (hb:VR ρ H s.heap b y) (h:eqV H a b=some r) (hu:A.units + 200 < cLine) :
  Runs C A (compareOp .Eq x y) ρ H s (.bool r) H∧Runs C A (compareOp .NotEq x y) ρ H s (.bool (!r)) H:=by
 cases ra:a.ref? with
 | none =>
  refine du (rM ra h) fun fa fb hh9_=>?_
  subst hh9_
  exact ⟨uP S ha hb fa fb hu,uh S ha hb fa fb hu⟩
 | some i =>
  unfold eqV at h
  rw [ra] at h
  (refine bsE h fun j hj hh_=>?_;clear h;revert hh_;intro h)
  (refine bsE h fun o ho hh_=>?_;clear h;revert hh_;intro h)
  (refine bsE h fun l hl hh_=>?_;clear h;revert hh_;intro h)
  (refine bsE h fun q hq hh_=>?_;clear h;revert hh_;intro h)
  (refine bsE h fun m hm hh_=>?_;clear h;revert hh_;intro h)
  rw [aY ra] at ha
  rw [aY hj] at hb
  exact rT K S ha hb (kM hl▸ho) (kM hm▸hq) h hu
theorem eO (S:St C ρ H s) {a b:V} {f:Int→Int→Bool} {r:Bool} {x y:Value} {o:CmpOp} (ha:VR ρ H s.heap a x) (hb:VR ρ H s.heap b y) (h:ints2 a b f=some r)
  (rule:∀ {i j:Int} {t u:Tok} {E Q:Value→Shared→Prop},Q (.bool (f i j)) s→wpAny (MM C) A (compareOp o (.int i t) (.int j u)) Q E s):Runs C A (compareOp o x y) ρ H s (.bool r) H:=by
 refine bsE h fun i hi h=>msE h fun j hj h=>?_
 rw [az hi] at ha
 rw [az hj] at hb
 rw [← h]
 exact VR.intE ha fun t=>VR.intE hb fun u=>Runs.here S fun E Q k=>rule (k _ _ (.bool _) rfl rfl rfl)
theorem VR.plain {a:V} {x:Value} (r:VR ρ H s.heap a x):plainIs x .none=true∧(x==Value.none)=a.isNone:=by
 induction r using VR.casesOn<;>exact ⟨rfl,rfl⟩
theorem xn (K:CfgOK C gG) (S:St C ρ H s) {o:Cop} {a b:V} {r:Bool} {x y:Value} (ha:VR ρ H s.heap a x) (hb:VR ρ H s.heap b y) (h:cop o H a b=some r) (hu:A.units + 200 < cLine) :
  Runs C A (compareOp (hO o) x y) ρ H s (.bool r) H:=by
 induction o using Mini.Internal.Cop.casesOn
 ·exact (xd K S ha hb h hu).1
 ·exact msE h fun r' h e=>e▸(xd K S ha hb h hu).2
 ·exact eO S ha hb h PyProof.Rows.lt_int
 ·exact eO S ha hb h P.le_int
 ·exact eO S ha hb h PyProof.Rows.gt_int
 ·exact eO S ha hb h P.ge_int
 ·exact sF K S ha hb h hu
 ·exact msE h fun r' h e=>e▸(sF K S ha hb h hu).notIn
 ·refine itE h fun hn h=>?_
  rw [none_of hn] at hb
  exact VR.noneE hb (Runs.here S fun E Q k=>wpAny_is_plain ha.plain.1 (by rw [ha.plain.2,Option.some.inj h];exact k _ _ (.bool _) rfl rfl rfl))
 ·refine itE h fun hn h=>?_
  rw [none_of hn] at hb
  exact VR.noneE hb (Runs.here S fun E Q k=>wpAny_isNot_plain ha.plain.1 (by rw [ha.plain.2,Option.some.inj h];exact k _ _ (.bool _) rfl rfl rfl))
end
section
variable {sc:Scope} {env:Env} {lo:Lo} {A:Around} {R:Sems} {n:Nat} {f:Nat} {ρ ρ':Rh} {H H':Hp} {s s':Shared}
theorem xc (EV:bJ C n R) (pos:Pos):∀ {l:List E} {xs:List Expr} {H:Hp} {v:V} {H':Hp},b5 (mtE f) sc l xs=true→rL R l lo H=some (v,H')→∀ {s:Shared} {ρ:Rh},aS n A→St C ρ H s→EnvOK C sc env ρ H s.heap lo →
  Runs C A (boolOp pos .And (evalEach xs env)) ρ H s v H':=by
 intro l
 induction l with
 | nil=>intro xs H v H' hm h;exact nn h
 | cons e es ih =>
  intro xs H v H' hm h s ρ r S X
  (apply eD hm;clear hm;intro x xs m1 m2)
  induction es using List.casesOn with
  | nil =>
   cases bD m2
   exact EV f sc env e x lo H v H' m1 h A s ρ r S X
  | cons e' es =>
   (have hm_:=m2;revert m2;apply eD hm_;clear hm_;intro x' xs _ _ m2)
   refine bpE (x:=R.ev e lo H) h fun w H1 h1 h=>?_
   (refine bsE h fun b hb hh_=>?_;clear h;revert hh_;intro h)
   obtain rfl:=aE hb
   intro E Q k
   refine wpAny_bind (EV f sc env e x lo H _ H1 m1 h1 A s ρ r S X E _ fun y s₁ ρ₁ S₁ N₁ r₁=>?_)
   refine wpAny_bind (wpAny_standAt (wpAny_bind (wpAny_holding ?_)))
   refine VR.boolE r₁ ?_
   refine wpAny_truthy_bool ?_
   induction b using Bool.casesOn with
   | true=>exact ih m2 h r S₁ (X.next S N₁) E Q fun z s₂ ρ₂ S₂ N₂ r₂=>k z s₂ ρ₂ S₂ (N₁.trans N₂) r₂
   | false =>
    (refine aw (dS h) fun e1_ e2_=>?_;clear h;subst e1_;subst e2_)
    exact wpAny_pure (k _ _ _ S₁ N₁ (.bool _))
theorem lg (TR:iU C n R):∀ {l:List E} {xs:List Expr} {H:Hp} {b:Bool} {H':Hp},b5 (mtE f) sc l xs=true→rL R l lo H=some (.bool b,H')→∀ {s:Shared} {ρ:Rh},aS n A→St C ρ H s→EnvOK C sc env ρ H s.heap lo →
  f6 C A (allTrue .And xs env) ρ H s b H':=by
 intro l
 induction l with
 | nil=>intro xs H v H' hm h;exact nn h
 | cons e es ih =>
  intro xs H b H' hm h s ρ r S X E Q k
  (apply eD hm;clear hm;intro x xs m1 m2)
  show wpAny (MM C) A (isTrue x env (eval x env)>>=_) Q E s
  induction es using List.casesOn with
  | nil =>
   cases bD m2
   refine wpAny_bind (TR f sc env e x lo H b H' m1 h A s ρ r S X E _ fun s₁ ρ₁ S₁ N₁=>?_)
   induction b using Bool.casesOn<;>exact wpAny_pure (k _ _ S₁ N₁)
  | cons e' es =>
   refine bpE (x:=R.ev e lo H) h fun w H1 h1 h=>?_
   (refine bsE h fun c hb hh_=>?_;clear h;revert hh_;intro h)
   obtain rfl:=aE hb
   refine wpAny_bind (TR f sc env e x lo H c H1 m1 h1 A s ρ r S X E _ fun s₁ ρ₁ S₁ N₁=>?_)
   induction c using Bool.casesOn with
   | true=>exact ih m2 h r S₁ (X.next S N₁) E Q fun s₂ ρ₂ S₂ N₂=>k s₂ ρ₂ S₂ (N₁.trans N₂)
   | false =>
    cases h
    exact wpAny_pure (k _ _ S₁ N₁)
theorem x9 (EV:bJ C n R) (pos:Pos):∀ {l:List E} {xs:List Expr} {H:Hp} {v:V} {H':Hp},b5 (mtE f) sc l xs=true→xP R l lo H=some (v,H')→∀ {s:Shared} {ρ:Rh},aS n A→St C ρ H s→EnvOK C sc env ρ H s.heap lo →
  Runs C A (boolOp pos .Or (evalEach xs env)) ρ H s v H':=by
 intro l
 induction l with
 | nil=>intro xs H v H' hm h;exact nn h
 | cons e es ih =>
  intro xs H v H' hm h s ρ r S X
  (apply eD hm;clear hm;intro x xs m1 m2)
  induction es using List.casesOn with
  | nil =>
   cases bD m2
   exact EV f sc env e x lo H v H' m1 h A s ρ r S X
  | cons e' es =>
   (have hm_:=m2;revert m2;apply eD hm_;clear hm_;intro x' xs _ _ m2)
   refine bpE (x:=R.ev e lo H) h fun w H1 h1 h=>?_
   (refine bsE h fun b hb hh_=>?_;clear h;revert hh_;intro h)
   obtain rfl:=aE hb
   intro E Q k
   refine wpAny_bind (EV f sc env e x lo H _ H1 m1 h1 A s ρ r S X E _ fun y s₁ ρ₁ S₁ N₁ r₁=>?_)
   refine wpAny_bind (wpAny_standAt (wpAny_bind (wpAny_holding ?_)))
   refine VR.boolE r₁ ?_
   refine wpAny_truthy_bool ?_
   induction b using Bool.casesOn with
   | false=>exact ih m2 h r S₁ (X.next S N₁) E Q fun z s₂ ρ₂ S₂ N₂ r₂=>k z s₂ ρ₂ S₂ (N₁.trans N₂) r₂
   | true =>
    (refine aw (dS h) fun e1_ e2_=>?_;clear h;subst e1_;subst e2_)
    exact wpAny_pure (k _ _ _ S₁ N₁ (.bool _))
theorem mU (TR:iU C n R):∀ {l:List E} {xs:List Expr} {H:Hp} {b:Bool} {H':Hp},b5 (mtE f) sc l xs=true→xP R l lo H=some (.bool b,H')→∀ {s:Shared} {ρ:Rh},aS n A→St C ρ H s→EnvOK C sc env ρ H s.heap lo →
  f6 C A (allTrue .Or xs env) ρ H s b H':=by
 intro l
 induction l with
 | nil=>intro xs H v H' hm h;exact nn h
 | cons e es ih =>
  intro xs H b H' hm h s ρ r S X E Q k
  (apply eD hm;clear hm;intro x xs m1 m2)
  show wpAny (MM C) A (isTrue x env (eval x env)>>=_) Q E s
  induction es using List.casesOn with
  | nil =>
   cases bD m2
   refine wpAny_bind (TR f sc env e x lo H b H' m1 h A s ρ r S X E _ fun s₁ ρ₁ S₁ N₁=>?_)
   induction b using Bool.casesOn<;>exact wpAny_pure (k _ _ S₁ N₁)
  | cons e' es =>
   refine bpE (x:=R.ev e lo H) h fun w H1 h1 h=>?_
   (refine bsE h fun c hb hh_=>?_;clear h;revert hh_;intro h)
   obtain rfl:=aE hb
   refine wpAny_bind (TR f sc env e x lo H c H1 m1 h1 A s ρ r S X E _ fun s₁ ρ₁ S₁ N₁=>?_)
   induction c using Bool.casesOn with
   | false=>exact ih m2 h r S₁ (X.next S N₁) E Q fun s₂ ρ₂ S₂ N₂=>k s₂ ρ₂ S₂ (N₁.trans N₂)
   | true =>
    cases h
    exact wpAny_pure (k _ _ S₁ N₁)
theorem lM {x:Expr} {e:E} (h:mtE f sc e x=true) (op:CmpOp):behindInMarks op x=false:=by
 have:=(d1 f e x h).2.1
 induction x using PySem.Expr.casesOn<;>first | rfl | exact absurd rfl (this _ _ _)
theorem eu {es:List E} {xs:List Expr} (h:b5 (mtE f) sc es xs=true):∀ {ops:List CmpOp},markedEach ops xs (evalEach xs env)=evalEach xs env:=by
 induction es generalizing xs with
 | nil=>intro ops;cases bD h;induction ops using List.casesOn with
  | nil=>rfl
  | cons _ ops=>induction ops using List.casesOn<;>rfl
 | cons e es ih =>
  intro ops
  (apply eD h;clear h;intro x ys m1 m2)
  induction ops using List.casesOn with
  | nil=>rfl
  | cons op ops =>
   have step:eval x env :: markedEach ops ys (evalEach ys env)=eval x env :: evalEach ys env:=congrArg _ (ih m2)
   induction ops using List.casesOn with
   | cons _ _=>exact step
   | nil=>induction ys using List.casesOn with
    | cons _ _=>exact step
    | nil =>
     show [markedBehindIn op x (eval x env)]=_
     unfold markedBehindIn
     rw [lM m1 op];rfl
theorem kH (K:CfgOK C gG) (EV:bJ C n R) (pos:Pos):∀ {os:List Cop} {l:List E} {xs:List Expr} {H:Hp} {a v:V} {H':Hp} {x:Value},os.length=l.length→b5 (mtE f) sc l xs=true→uN R a os l lo H=some (v,H') →
  ∀ {s:Shared} {ρ:Rh},aS n A→St C ρ H s→EnvOK C sc env ρ H s.heap lo→VR ρ H s.heap a x →
  Runs C A (compareChain pos x (os.map hO) (evalEach xs env)) ρ H s v H'∧∀ b,v=.bool b→f6 C A (testChain pos x (os.map hO) (evalEach xs env)) ρ H s b H':=by
 intro os
 induction os with
 | nil=>intro l xs H a v H' x hl hm h;induction l using List.casesOn<;>exact nn h
 | cons o os ih =>
  intro l xs H a v H' x hl hm h s ρ r S X ra
  induction l using List.casesOn with
  | nil=>cases hl
  | cons e es =>
   (apply eD hm;clear hm;intro y ys m1 m2)
   refine bpE h fun w H1 h1 h=>?_
   (refine bsE h fun b h2 hh_=>?_;clear h;revert hh_;intro h)
   have hl:=Nat.succ.inj hl
   have go:∀ {α:Type} {E:Value→Shared→Prop} {Q:α→Shared→Prop} {t:Value→Sem α} (_:∀ z s₁ ρ₁,St C ρ₁ H1 s₁→Nx no ρ H s ρ₁ H1 s₁→VR ρ₁ H1 s₁.heap w z→Runs C A (compareOp (hO o) x z) ρ₁ H1 s₁ (.bool b) H1→wpAny (MM C) A (t z) Q E s₁),
     wpAny (MM C) A (do let rv ← holding [x] (eval y env);standAt pos;t rv) Q E s:=fun k =>
    wpAny_bind (wpAny_holding (EV f sc env e y lo H w H1 m1 h1 A s ρ r S X _ _ fun z s₁ ρ₁ S₁ N₁ r₁=>wpAny_bind (wpAny_standAt (k z s₁ ρ₁ S₁ N₁ r₁ (xn K S₁ (ra.lasts (N₁.lasts S)) r₁ h2 r.units)))))
   induction es using List.casesOn with
   | nil =>
    cases bD m2
    cases List.eq_nil_of_length_eq_zero hl
    have h:some (V.bool b,H1)=some (v,H'):=by induction b using Bool.casesOn<;>exact h
    (refine aw (dS h) fun e1_ e2_=>?_;clear h;subst e1_;subst e2_)
    refine ⟨fun E Q k=>?_,fun b' eb E Q k=>?_⟩
    ·refine go fun z s₁ ρ₁ S₁ N₁ r₁ c=>wpAny_operateT ?_
     exact c E Q fun u s₂ ρ₂ S₂ N₂ r₂=>k u s₂ ρ₂ S₂ (N₁.trans N₂) r₂
    ·cases eb
     refine go fun z s₁ ρ₁ S₁ N₁ r₁ c=>wpAny_bind (wpAny_operateT ?_)
     refine c E _ fun u s₂ ρ₂ S₂ N₂ r₂=>?_
     refine VR.boolE r₂ ?_
     exact wpAny_holding (wpAny_truthy_bool (k s₂ ρ₂ S₂ (N₁.trans N₂)))
   | cons e' es =>
    (have hm_:=m2;revert m2;apply eD hm_;clear hm_;intro y' ys _ _ m2)
    induction os using List.casesOn with
    | nil=>cases hl
    | cons o' os =>
     refine ⟨fun E Q k=>?_,fun b' eb E Q k=>?_⟩
     ·refine go fun z s₁ ρ₁ S₁ N₁ r₁ c=>wpAny_bind (wpAny_holding ?_)
      refine c E _ fun u s₂ ρ₂ S₂ N₂ r₂=>?_
      refine VR.boolE r₂ ?_
      refine wpAny_bind (wpAny_release (wpAny_bind (wpAny_holding (wpAny_truthy_bool ?_))))
      induction b using Bool.casesOn with
      | true=>exact (ih hl m2 h r S₂ ((X.next S N₁).next S₁ N₂) (r₁.lasts (N₂.lasts S₁))).1 E Q fun q s₃ ρ₃ S₃ N₃ r₃=>k q s₃ ρ₃ S₃ ((N₁.trans N₂).trans N₃) r₃
      | false =>
       (refine aw (dS h) fun e1_ e2_=>?_;clear h;subst e1_;subst e2_)
       exact wpAny_pure (k _ s₂ ρ₂ S₂ (N₁.trans N₂) (.bool _))
     ·refine go fun z s₁ ρ₁ S₁ N₁ r₁ c=>wpAny_bind (wpAny_holding ?_)
      refine c E _ fun u s₂ ρ₂ S₂ N₂ r₂=>?_
      refine VR.boolE r₂ ?_
      refine wpAny_bind (wpAny_release (wpAny_bind (wpAny_holding (wpAny_truthy_bool ?_))))
      induction b using Bool.casesOn with
      | true=>exact (ih hl m2 h r S₂ ((X.next S N₁).next S₁ N₂) (r₁.lasts (N₂.lasts S₁))).2 b' eb E Q fun s₃ ρ₃ S₃ N₃=>k s₃ ρ₃ S₃ ((N₁.trans N₂).trans N₃)
      | false =>
       (refine aw (dS h) fun e1_ e2_=>?_;clear h;subst e1_;subst e2_)
       cases eb
       exact wpAny_pure (k s₂ ρ₂ S₂ (N₁.trans N₂))
end
section
variable {sc:Scope} {env:Env} {lo:Lo} {A:Around} {R:Sems} {n:Nat} {f:Nat} {ρ ρ':Rh} {H H':Hp} {s s':Shared}
theorem St.mk' (S:St C ρ H s) {o:O} {p:Addr×Addr} (h1:s.heap.get? p.1=none) (h2:s.heap.get? p.2=none) (k:∀ a x,s.heap.get? a=some x→s'.heap.get? a=some x)
  (hpz:(∃ o,s'.heap.get? p.1=some o)∧∃ o,s'.heap.get? p.2=some o) (hg:s'.gens=s.gens) (hos:s'.os=s.os) (hR:Lasts ρ H s.heap (ρ++[p]) (H++[o]) s'.heap→mD C (ρ++[p]) (H++[o]) s'.heap p o) :
  St C (ρ++[p]) (H++[o]) s'∧Nx no ρ H s (ρ++[p]) (H++[o]) s'∧(ρ++[p])[H.length]?=some p:=by
 have F1:=S.freshAt h1
 have F2:=S.freshAt h2
 refine aw (S.app (s':=s') (o:=o) (p:=p) ⟨F1.own,F2.own⟩ (fun i q e=>⟨(F1.ne i q e).1.symm,(F1.ne i q e).2.symm,(F2.ne i q e).1.symm,(F2.ne i q e).2.symm⟩) ⟨F1.base,F2.base⟩ ⟨fun _ t=>ae t fun _ ho _=>bw h1 ho rfl,fun _ t=>ae t fun _ ho _=>bw h2 ho rfl⟩
  ⟨fun _ t=>ae t fun _ ho _=>bw h1 ho rfl,fun _ t=>ae t fun _ ho _=>bw h2 ho rfl⟩ (fun a x _ _ e=>k a x e) hpz ⟨F1.z,F2.z⟩ hg hos hR) fun S' L=>?_
 refine ⟨S',⟨by rw [Rh.app_l];exact List.prefix_append _ _,rfl,fun a x e _ _=>k a x e,fun a m=>?_,fun a x e=>⟨x,k a x e⟩,fun _ _ x=>x.elim,fun i q e=>?_⟩,?_⟩
 ·refine Or.elim (nU S.len m) (fun m=>?_) fun hh_=>Or.elim hh_ (fun e=>?_) fun e=>?_
  ·exact .inl m
  ·exact .inr (e▸h1)
  ·exact .inr (e▸h2)
 ·rw [Rh.at_,Rh.app_l] at e
  refine Or.elim (Nat.lt_or_ge i ρ.l.length) (fun hj=>?_) fun hj=>?_
  ·rw [List.getElem?_append_left hj] at e;exact .inl e
  ·rw [List.getElem?_append_right hj] at e
   refine Or.elim (Nat.eq_zero_or_pos (i - ρ.l.length)) (fun z=>?_) fun z=>?_
   ·rw [z] at e;simp at e;subst e;exact .inr ⟨h1,h2⟩
   ·rw [List.getElem?_eq_none (by simp only [List.length_cons,List.length_nil];(clear hj e hR hos hg hpz h2 h1;lia))] at e;exact nn e
 ·rw [← S.len,Rh.at_,Rh.app_l];simp
theorem ai (h:Heap):h.get? h.objs.size=none:=by
 cases e:h.get? h.objs.size with
 | none=>rfl
 | some o=>exact absurd (Heap.lt_size e) (Nat.lt_irrefl _)
theorem wW (EV:bJ C n R) {a:E} {x:Expr} {v:V} (hm:mtE (f + 1) sc (.not a) x=true) (h:aO C.P R (.not a) lo H=some (v,H')) (r:aS n A) (S:St C ρ H s) (X:EnvOK C sc env ρ H s.heap lo):Runs C A (eval x env) ρ H s v H':=by
 have hx:=aQ hm
 refine bpE h fun w H1 h1 h2=>?_
 refine msE h2 fun b hb h3=>?_
 rw [aE hb] at h1
 exact .of (x':=.UnaryOp .Not (pt x).a (pt x).p) hx.1 (.eq h3 fun E Q k=>wpAny_UnaryOp (EV f sc env a (pt x).a lo H _ _ hx.2 h1 A s ρ r S X E _ fun z s₁ ρ₁ S₁ N₁ r₁=>VR.boolE r₁ (not_value (wpAny_truthy_bool (k _ _ _ S₁ N₁ (.bool _))))))
theorem wY (EV:bJ C n R) {a:E} {x:Expr} {v:V} (hm:mtE (f + 1) sc (.neg a) x=true) (h:aO C.P R (.neg a) lo H=some (v,H')) (r:aS n A) (S:St C ρ H s) (X:EnvOK C sc env ρ H s.heap lo):Runs C A (eval x env) ρ H s v H':=by
 have hx:=aQ hm
 refine bpE h fun w H1 h1 h2=>?_
 refine msE h2 fun b hb h3=>?_
 rw [az hb] at h1
 refine .of (x':=.UnaryOp .USub (pt x).a (pt x).p) hx.1 (.eq h3 fun E Q k=>wpAny_UnaryOp (EV f sc env a (pt x).a lo H _ _ hx.2 h1 A s ρ r S X E _ fun z s₁ ρ₁ S₁ N₁ r₁=>?_))
 refine VR.intE r₁ fun t=>?_
 have G:=S₁.grow (s':={ s₁ with toks:=s₁.toks + 1 }) (fun _ _ e=>e) rfl rfl
 exact neg_int (k _ _ _ G.1 (N₁.trans G.2) (.int _ _))
theorem xb (EV:bJ C n R) {op:Bop} {a b:E} {x:Expr} {v:V} (hm:mtE (f + 1) sc (.bin op a b) x=true)
  (h:aO C.P R (.bin op a b) lo H=some (v,H'))
  (r:aS n A) (S:St C ρ H s) (X:EnvOK C sc env ρ H s.heap lo):Runs C A (eval x env) ρ H s v H':=by
 have hx:=aQ hm
 have m:=fY hx.2
 refine bpE h fun u H1 h1 ha=>?_
 refine bpE ha fun w H2 h2 hb=>?_
 refine msE hb fun t h3 h4=>?_
 refine .of (x':=.BinOp (pt x).a (v7 op) (pt x).b (pt x).p) ((beq_iff_eq.mp m.1:(pt x).op=v7 op)▸hx.1) (.eq h4 fun E Q k=>?_)
 refine wpAny_BinOp (EV f sc env a (pt x).a lo H u H1 m.2.1 h1 A s ρ r S X E _ fun x1 s₁ ρ₁ S₁ N₁ r₁=>?_)
 refine EV f sc env b (pt x).b lo H1 w _ m.2.2 h2 A s₁ ρ₁ r S₁ (X.next S N₁) E _ fun x2 s₂ ρ₂ S₂ N₂ r₂=>?_
 exact vm S₂ (r₁.lasts (N₂.lasts S₁)) r₂ h3 E Q fun x3 s₃ ρ₃ S₃ N₃ r₃=>k x3 s₃ ρ₃ S₃ ((N₁.trans N₂).trans N₃) r₃
theorem wZ (EV:bJ C n R) (TR:iU C n R) {c a b:E} {x:Expr} {v:V} (hm:mtE (f + 1) sc (.ite c a b) x=true)
  (h:aO C.P R (.ite c a b) lo H=some (v,H'))
  (r:aS n A) (S:St C ρ H s) (X:EnvOK C sc env ρ H s.heap lo):Runs C A (eval x env) ρ H s v H':=by
 have hx:=aQ hm
 have m:=fY hx.2
 refine bpE h fun u H1 h1 ha=>?_
 refine bsE ha fun t ht h=>?_
 rw [aE ht] at h1
 refine .of (x':=.IfExp (pt x).a (pt x).b (pt x).c (pt x).p) hx.1 fun E Q k=>?_
 refine wpAny_IfExp (TR f sc env c (pt x).a lo H t H1 m.1 h1 A s ρ r S X E _ fun s₁ ρ₁ S₁ N₁=>?_)
 induction t using Bool.casesOn with
 | true=>exact EV f sc env a (pt x).b lo H1 v H' m.2.1 h A s₁ ρ₁ r S₁ (X.next S N₁) E Q fun x2 s₂ ρ₂ S₂ N₂ r₂=>k x2 s₂ ρ₂ S₂ (N₁.trans N₂) r₂
 | false=>exact EV f sc env b (pt x).c lo H1 v H' m.2.2 h A s₁ ρ₁ r S₁ (X.next S N₁) E Q fun x2 s₂ ρ₂ S₂ N₂ r₂=>k x2 s₂ ρ₂ S₂ (N₁.trans N₂) r₂
theorem wQ (EV:bJ C n R) {l:List E} {x:Expr} {v:V} (hm:mtE (f + 1) sc (.tup l) x=true)
  (h:aO C.P R (.tup l) lo H=some (v,H'))
  (r:aS n A) (S:St C ρ H s) (X:EnvOK C sc env ρ H s.heap lo):Runs C A (eval x env) ρ H s v H':=by
 have hx:=aQ hm
 refine bpE h fun vs H1 h1 ha=>?_
 refine itE ha fun hk hb=>?_
 refine .of (x':=.Tuple (pt x).l (pt x).n (pt x).p) hx.1 (.eqs hb fun E Q k=>?_)
 refine wpAny_Tuple ?_
 rw [bq hx.2,aV]
 refine dX EV hx.2 h1 r S X E _ fun ys s₁ ρ₁ S₁ N₁ r₁=>⟨?_,?_⟩
 ·rw [← r₁.length];exact Nat.le_trans (aI hk) (by decide)
 ·have G:=j8 S₁ (xs:=ys.toArray) (show VRs ρ₁ H1 s₁.heap vs ys.toArray.toList from r₁) (tk:=s₁.toks)
  exact k _ _ _ G.1 (N₁.trans G.2.1) G.2.2
theorem uH (EV:bJ C n R) {m:Bool} {l:List E} {x:Expr} {v:V} (hm:mtE (f + 1) sc (.list m l) x=true)
  (h:aO C.P R (.list m l) lo H=some (v,H'))
  (r:aS n A) (S:St C ρ H s) (X:EnvOK C sc env ρ H s.heap lo):Runs C A (eval x env) ρ H s v H':=by
 have hx:=aQ hm
 refine bpE h fun vs H1 h1 h=>?_
 (refine itE h fun hk hh_=>?_;clear h;revert hh_;intro h)
 refine .of (x':=.List (pt x).l (pt x).p) hx.1 fun E Q k=>?_
 refine wpAny_List ?_
 rw [bq hx.2,aV]
 refine dX EV hx.2 h1 r S X E _ fun ys s₁ ρ₁ S₁ N₁ r₁=>⟨?_,?_⟩
 ·rw [← r₁.length];exact Nat.le_trans (aI hk) (by decide)
 ·have r₁:VRs ρ₁ H1 s₁.heap vs ys.toArray.toList:=r₁
  induction m using Bool.casesOn with
  | false =>
   refine aw (dS h) fun e1 e2=>?_
   rw [← e1,← e2] at k
   have G:=gM S₁ (xs:=ys.toArray) r₁ (tk:=s₁.toks)
   exact k _ _ _ G.1 (N₁.trans G.2.1) G.2.2
  | true =>
   refine aw (dS h) fun e1 e2=>?_
   rw [← e1,← e2] at k
   refine du (S₁.mk' (o:=.list vs) (p:=(s₁.heap.objs.size,s₁.heap.objs.size)) (s':={ s₁ with heap:=s₁.heap.push { cls:=.type "list",data:=.seq ys.toArray } }) (ai _) (ai _) (fun a o e=>Heap.get?_push_of_some _ e) ⟨⟨_,Heap.get?_push_size _ rfl⟩,_,Heap.get?_push_size _ rfl⟩ rfl rfl
    (fun L=>⟨rfl,ys.toArray,⟨_,Heap.get?_push_size _ rfl⟩,r₁.lasts L⟩)) fun S' N e=>?_
   exact k _ _ _ S' (N₁.trans N) (.ref (p:=(s₁.heap.objs.size,s₁.heap.objs.size)) e)
theorem tF {A:Around} {E:Value→Shared→Prop} {s:Shared} {Q:Value→Shared→Prop} {prog:Program} {w:World} {value slice:Expr} {o i:Value} {T id:String} {p:Pos}
  (hns:∀ l u t p,slice≠.Slice l u t p) (hl:typeLookup (.type T) "__getitem__" = pure (some (.builtin id))) (hT:s.TypeIs o T) (hg:wpAny (model prog w) A (getItem o i) Q E s) :
  wpAny (model prog w) A (do standAt p;let r ← subscripted slice (← getitemInPython o) o i;letTemporaryGo value o r;pure r) Q E s:=by
 refine wpAny_bind (wpAny_standAt (wpAny_bind ?_))
 rw [getitemInPython_of_ne hT.not_modules]
 refine wpAny_bind (wpAny_specialOf hT hl ?_)
 have fin:wpAny (model prog w) A (operate [o,i] (getItem o i)) (fun r s₃=>wpAny (model prog w) A (letTemporaryGo value o r>>=fun _=>pure r) Q E s₃) E s :=
  wpAny_operating (wpAny_mono hg (fun r s₃ h₃=>wpAny_bind (wpAny_letTemporaryGo (wpAny_pure h₃))) fun _ _ x=>x)
 have es:subscripted slice false o i=operate [o,i] (getItem o i):=by
  unfold subscripted
  induction slice using PySem.Expr.casesOn<;>first | rfl | exact absurd rfl (hns _ _ _ _)
 refine wpAny_pure (wpAny_bind ?_)
 rw [es];exact fin
set_option tactic.hygienic true in
theorem g7 {i:Int} {n j:Nat} (h:idx i n=some j):i.natAbs≤2 ^ 62∧((0≤i∧j=i.toNat∧j < n)∨(i < 0∧-(n:Int)≤i∧j=(i + n).toNat)):=by
 unfold idx at h
 cases hi:aM i with
 | false=>rw [hi] at h;exact nn h
 | true =>
  rw [hi] at h
  simp only [cond_true] at h
  refine ⟨eL hi,?_⟩
  split at h
  ·rename_i h0
   split at h
   ·rename_i h1
    cases h;exact .inl ⟨h0,rfl,h1⟩
   ·exact nn h
  ·split at h
   ·exact nn h
   ·cases h;exact .inr ⟨by (clear hi;lia),by (clear hi;lia),rfl⟩
theorem uA {i:Int} {n j:Nat} (h:idx i n=some j):seqIndex? i n=some j∨n≤j:=by
 refine aw (g7 h) fun _ hh2_=>?_
 obtain h | h:=hh2_
 ·refine .inl ?_
  unfold seqIndex?
  refine du h fun a hh3_ c=>?_
  subst hh3_
  have e:¬ i < 0:=by (clear c h;lia)
  simp only [e,if_false]
  rw [if_pos (by simp only [Bool.and_eq_true,decide_eq_true_eq];(clear e h;lia))]
 ·exact .inl (by rw [PySem.seqIndex_neg h.1 h.2.1,h.2.2])
theorem q9 {l:Addr} {items:Array Value} {k:Int} {t:Tok} {j:Nat} {x:Value} {E:Value→Shared→Prop} {Q:Value→Shared→Prop} (hl:s.heap.IsList l items) (hi:idx k items.size=some j) (hx:items[j]?=some x) (h:Q x s) :
  wpAny (MM C) A (getItem (.ref l) (.int k t)) Q E s:=by
 refine aw (g7 hi) fun h0 hh4_=>?_
 obtain ⟨a,rfl,b⟩ | ⟨a,b,rfl⟩:=hh4_
 ·exact wpAny_getItem_list hl a (by (clear b hx hi a;lia)) hx h
 ·exact wpAny_getItem_list_neg hl a b (by (clear hx hi b a;lia)) hx h
theorem cN:typeLookup (.type "list") "__getitem__" = pure (some (.builtin "list.__getitem__")):=list_getitem_lookup
theorem dC:typeLookup (.type "tuple") "__getitem__" = pure (some (.builtin "tuple.__getitem__")):=PyProof.Rows.slot_tuple_getitem.lookup
theorem eA:typeLookup (.type "dict") "__getitem__" = pure (some (.builtin "dict.__getitem__")):=PySem.slot_dict_getitem.lookup
theorem kj (S:St C ρ H s) {l:Addr} {items:Array Value} {vs:List V} {k:Int} {tk:Tok} {j:Nat} {v:V} (t:s.heap.IsList l items) (r:VRs ρ H s.heap vs items.toList) (hj:idx k vs.length=some j) (h:vs[j]?=some v):Runs C A (getItem (.ref l) (.int k tk)) ρ H s v H:=by
 refine ae (r.get h) fun z hz rz=>?_
 rw [r.length] at hj
 exact Runs.here S fun E Q kk=>q9 t (by simpa using hj) (by simpa using hz) (kk _ _ rz rfl rfl rfl)
structure SubOK (C:Cfg) (A:Around) (ρ:Rh) (H:Hp) (s:Shared) (x y:Value) (v:V) (T id:String):Prop where
 l:typeLookup (.type T) "__getitem__" = pure (some (.builtin id))
 t:s.TypeIs x T
 r:Runs C A (getItem x y) ρ H s v H
theorem tE (S:St C ρ H s) {b v:V} {y:Value} {p:Addr×Addr} (hb:VR ρ H s.heap b y) (hu:A.units + 200 < cLine)  {ob:O} (O:mD C ρ H s.heap p ob) (h:xK ob b=some v):∃ T id,SubOK C A ρ H s (.ref p.1) y v T id:=by
 cases ob with
 | list l =>
  refine ae O.2 fun items t r=>?_
  (refine bsE h fun k hk hh_=>?_;clear h;revert hh_;intro h)
  (refine bsE h fun j hj hh_=>?_;clear h;revert hh_;intro h)
  rw [az hk] at hb
  exact VR.intE hb fun _=>⟨_,_,cN,t.isList.typeIs,kj S t.isList r hj h⟩
 | dI l =>
  refine ae O.2 fun xs D r=>?_
  (refine bsE h fun k hk hh_=>?_;clear h;revert hh_;intro h)
  rw [az hk] at hb
  refine VR.intE hb fun _=>?_
  rcases r.getI k with ⟨e1,_⟩ | ⟨v',z,e1,e2,rz⟩
  ·cases e1.symm.trans h
  ·rw [Option.some.inj (e1.symm.trans h)] at rz
   exact ⟨_,_,eA,(d3 D).typeIs,Runs.here S fun E Q k=>wpAny_getItem_of (g6 _ _ _ _) (d3 D) e2 (k _ _ rz rfl rfl rfl)⟩
 | dT l =>
  refine ae O.2 fun xs D r=>?_
  (refine itE h fun hk hh_=>?_;clear h;revert hh_;intro h)
  refine ae (hb.is hk) fun q e' is=>?_
  rw [e']
  have rm:(bP C.prog C.w).room A.in1:=by show A.units + 1 + 60 < cLine;clear h hk is;lia
  rcases r.getT b with ⟨e1,_⟩ | ⟨v',a,z,e1,e2,rz⟩
  ·cases e1.symm.trans h
  ·rw [Option.some.inj (e1.symm.trans h)] at rz
   exact ⟨_,_,eA,D.typeIs,Runs.here S fun E Q k=>wpAny_getItem_heap rm is D e2 (k _ _ rz rfl rfl rfl)⟩
 | inst _ _=>exact nn h
 | dead=>exact nn h
theorem nc {a b:V} (hr:a.ref?=Option.none) {v:V} (h:dR H a b=some v):((items a).bind fun l=>b.int?.bind fun k=>(idx k l.length).bind fun j=>l[j]?)=some v:=by induction a using Mini.Internal.V.casesOn<;>first | exact h | cases hr
theorem tG {a b v:V} {x y:Value} (ha:VR ρ H s.heap a x) (hb:VR ρ H s.heap b y) (S:St C ρ H s) (h:dR H a b=some v) (hu:A.units + 200 < cLine):∃ T id,SubOK C A ρ H s x y v T id:=by
 cases hr:a.ref? with
 | some d =>
  rw [aY hr] at ha h
  (refine bsE h fun ob hn hh_=>?_;clear h;revert hh_;intro h)
  refine ay (S.ref_obj ha hn) fun p hp e RR=>?_
  rw [e]
  exact tE S hb hu RR h
 | none =>
  refine bsE (nc hr h) fun l hl h1=>?_
  refine bsE h1 fun k hk h2=>?_
  refine bsE h2 fun j hj hf=>?_
  rw [az hk] at hb
  refine VR.intE hb fun tk=>?_
  refine Or.elim (c6 hl) (fun e=>?_) fun e=>?_
  ·rw [e] at ha
   refine VR.tupE ha fun {_ _} t _ r=>?_
   refine ae (r.get hf) fun z hz rz=>?_
   have ti:PyProof.Rows.IsTup s.heap _ _:=t
   refine ⟨_,_,dC,ti.typeIs,Runs.here S fun E Q k=>?_⟩
   rw [r.length] at hj
   have hs:=(uA hj).resolve_right (Nat.not_le.mpr (List.getElem?_eq_some_iff.mp hz).1)
   have hb:=(g7 hj).1
   exact PyProof.Rows.getItem_tuple ti (by clear hs hz hf hj hu h1 h2 h;lia) (by clear hs hz hf hj hu h1 h2 h;lia) hs (x:=z) (by simpa using hz) (k _ _ rz rfl rfl rfl)
  ·rw [e] at ha
   exact VR.lstE ha fun {_ _} t _ r=>⟨_,_,cN,t.typeIs,kj S t r hj hf⟩
theorem wR (EV:bJ C n R) {o i:E} {x:Expr} {v:V} (hm:mtE (f + 1) sc (.sub o i) x=true)
  (h:aO C.P R (.sub o i) lo H=some (v,H'))
  (r:aS n A) (S:St C ρ H s) (X:EnvOK C sc env ρ H s.heap lo):Runs C A (eval x env) ρ H s v H':=by
 have hx:=aQ hm
 have hm:=cB hx.2
 refine bpE h fun u H1 h1 ha=>?_
 refine bpE ha fun w H2 h2 hb=>?_
 refine msE hb fun t h3 h4=>?_
 refine .of (x':=.Subscript (pt x).a (pt x).b (pt x).p) hx.1 (.eq h4 fun E Q k=>?_)
 rw [eval_Subscript]
 refine wpAny_bind (EV f sc env o (pt x).a lo H u H1 hm.1 h1 A s ρ r S X E _ fun x1 s₁ ρ₁ S₁ N₁ r₁=>?_)
 refine wpAny_bind (wpAny_holding (EV f sc env i (pt x).b lo H1 w _ hm.2 h2 A s₁ ρ₁ r S₁ (X.next S N₁) E _ fun x2 s₂ ρ₂ S₂ N₂ r₂=>?_))
 refine hZ (tG (r₁.lasts (N₂.lasts S₁)) r₂ S₂ h3 r.units) fun T id G=>?_
 exact tF (d1 f i (pt x).b hm.2).2.2 G.l G.t (G.r E Q fun x3 s₃ ρ₃ S₃ N₃ r₃=>k x3 s₃ ρ₃ S₃ ((N₁.trans N₂).trans N₃) r₃)
end
end Mini.Internal
end
section
set_option autoImplicit false
namespace Mini.Internal
open PySem PySem.Calls PyProof.Rows
open PySem.W (Frag dictOf Looks findIn typeIn keepIn makesIn plainGet hasDictIn plainOver getL)
section
variable {sc:Scope} {env:Env} {lo:Lo} {A:Around} {R:Sems} {n:Nat} {f:Nat} {ρ ρ':Rh} {H H':Hp} {s s':Shared}
class inductive PartR:Option Int→Value→Prop
 | none:PartR Option.none .none
 | int (i:Int) (t:Tok):PartR (some i) (.int i t)
@[elab_as_elim] theorem PartR.intE {i:Int} {v:Value} {p:Value→Prop} (r:PartR (some i) v) (k:∀ t,p (.int i t)):p v:=by cases r;exact k _
@[elab_as_elim] theorem PartR.noneE {v:Value} {p:Value→Prop} (r:PartR Option.none v) (k:p .none):p v:=by cases r;exact k
theorem PartR.part {o:Option Int} {v:Value} (p:PartR o v):IsPart v o:=by cases p<;>constructor
theorem sD (EV:bJ C n R) {e:Option E} {x:Option Expr} {o:Option Int} (hm:uj (mtE f) sc e x=true) (h:pf R e lo H=some (o,H')) (r:aS n A) (S:St C ρ H s) (X:EnvOK C sc env ρ H s.heap lo)
  {E:Value→Shared→Prop} {Q:Value→Shared→Prop} (k:∀ y s' ρ',St C ρ' H' s'→Nx no ρ H s ρ' H' s'→PartR o y→Q y s'):wpAny (MM C) A (evalPart x env) Q E s:=by
 induction e using Option.casesOn with
 | none =>
  induction x using Option.casesOn with
  | none =>
   (revert k;apply de h;clear h;intro k)
   exact wpAny_pure (k _ _ _ S (.refl _ _ _) .none)
  | some x=>exact ff hm
 | some e =>
  induction x using Option.casesOn with
  | none=>exact ff hm
  | some x =>
   refine bpE h fun v H1 h1 h=>?_
   (refine bsE h fun i hi hh_=>?_;clear h;revert hh_;intro h)
   obtain rfl:=az hi
   (refine itE h fun _ hh_=>?_;clear h;revert hh_;intro h)
   (revert k;apply de h;clear h;intro k)
   refine EV f sc env e x lo H _ _ hm h1 A s ρ r S X E _ fun y s₁ ρ₁ S₁ N₁ r₁=>?_
   refine VR.intE r₁ fun _=>?_
   exact k _ _ _ S₁ N₁ (.int _ _)
theorem nr {m:Nat}:Builtin.Slice.sliceAdjust (some 1) Option.none 1 ((m + 1:Nat):Int)=(1,((m + 1:Nat):Int)) :=
 congrArg (fun i:Int=>(i,((m + 1:Nat):Int))) (Int.min_eq_left (Int.ofNat_le.mpr (Nat.succ_le_succ (Nat.zero_le m))))
theorem lH {m:Nat}:Builtin.Slice.slicePlaces 1 ((m + 1:Nat):Int) 1=m:=by
 show (if (1:Int) < ((m + 1:Nat):Int) then (((m + 1:Nat):Int) - 1 - 1) / 1 + 1 else 0).toNat=m
 rw [Int.ediv_one]
 split<;>lia
theorem i8 {sl:Addr} {m:Nat} {vl vu:Value} {E:Value→Shared→Prop} {Q:Int×Int×Nat→Shared→Prop} (hs:s.heap.IsSliceOf sl vl vu .none) (pl:PartR (some 1) vl) (pu:PartR Option.none vu) (h:Q (1,1,m) s) :
  wpAny (MM C) A (Builtin.Slice.sliceApplied (.ref sl) (pure ((m + 1:Nat):Int))) Q E s:=by
 revert hs
 refine PartR.intE pl fun t=>PartR.noneE pu fun hs=>?_
 refine ay hs fun os hos hcs hds=>?_
 refine wpAny_bind (wpAny_bind (wpAny_field hos hds (x:=.int 1 t) rfl (wpAny_bind (wpAny_field hos hds (x:=.none) rfl (wpAny_bind (wpAny_field hos hds (x:=.none) rfl (wpAny_pure ?_)))))))
 refine wpAny_bind (slicePart_none (aU (by decide) (wpAny_bind (slicePart_int (wpAny_bind (slicePart_none (wpAny_bind (wpAny_pure (wpAny_pure ?_)))))))))
 show Q ((Builtin.Slice.sliceAdjust (some 1) Option.none 1 ((m + 1:Nat):Int)).1,1,Builtin.Slice.slicePlaces (Builtin.Slice.sliceAdjust (some 1) Option.none 1 ((m + 1:Nat):Int)).1 (Builtin.Slice.sliceAdjust (some 1) Option.none 1 ((m + 1:Nat):Int)).2 1) s
 rw [nr,lH];exact h
theorem qP (xs:Array Value) {m:Nat} (h:xs.size=m + 1):((List.range m).filterMap fun (k:Nat)=>xs[((1:Int) + (k:Int) * 1).toNat]?).toArray=(xs.toList.drop 1).toArray:=by
 have e:(fun (k:Nat)=>xs[((1:Int) + (k:Int) * 1).toNat]?)=(fun x=>xs[x]?)∘fun x=>1 + x:=funext fun k=>by
  show xs[((1:Int) + (k:Int) * 1).toNat]?=xs[1 + k]?
  rw [show ((1:Int) + (k:Int) * 1).toNat=1 + k by lia]
 rw [e,← List.filterMap_map,pick_run xs 1 m,List.take_of_length_le]
 rw [List.length_drop,Array.length_toList,h];exact Nat.le_refl _
theorem i7 {t sl:Addr} {items:Array Value} {vl vu:Value} {E:Value→Shared→Prop} {Q:Value→Shared→Prop} {m:Nat} (ht:s.heap.IsTuple t items) (hs:s.heap.IsSliceOf sl vl vu .none) (pl:PartR (some 1) vl) (pu:PartR Option.none vu) (hm:items.size=m + 1) (hz:m≤100000)
  (h:Q (.ref s.heap.objs.size) { s with heap:=s.heap.push { cls:=.type "tuple",data:=.seq (items.toList.drop 1).toArray } }):wpAny (MM C) A (getItem (.ref t) (.ref sl)) Q E s:=by
 have ht':PyProof.Rows.IsTup s.heap t items:=ht
 refine ay hs fun os hos hcs hds=>?_
 unfold getItem
 try with_reducible refine wpAny_holding ?_
 first | refine wpAny_bind (wpAny_pure ?_) | skip
 refine wpAny_bind (wpAny_sequenceKey ht'.typeIs (by decide) ?_)
 refine wpAny_bind (wpAny_callSpecial?_slot (name:=Str.ofString "__getitem__") ht'.typeIs PyProof.Rows.slot_tuple_getitem
  (wpAny_call_entry PyProof.Rows.slot_tuple_getitem ht'.typeIs entry_tuple_getitem ?_ (args_tuple_getitem _ _)))
 show wpAny _ _ (Builtin.Tuple.tupleItemsOf (.ref t)>>=_) _ _ s
 refine wpAny_bind (tupleItemsOf_ ht' (wpAny_bind (wpAny_typeOf ⟨os,hos,hcs⟩ (dU (by decide) ?_))))
 rw [hm]
 refine wpAny_bind (i8 hs pl pu ?_)
 refine aU Bool.false_ne_true ?_
 have hsz:sizeOk (.seq (items.toList.drop 1).toArray):=by
  show (items.toList.drop 1).toArray.size≤sizeLine
  rw [List.size_toArray,List.length_drop,Array.length_toList,hm,af]
  exact Nat.le_trans hz (by decide)
 rw [← qP _ hm] at h hsz
 first
  | exact wpAny_bind (m:=Builtin.Tuple.tupleExact _) (wpAny_newObj_type (wpAny_pure ⟨_,rfl,wpAny_pure h⟩) hsz)
  | exact wpAny_bind (m:=Builtin.Tuple.tupleExact _) (wpAny_newObj_type (wpAny_bind (wpAny_pure (wpAny_pure ⟨_,rfl,wpAny_pure h⟩))) hsz)
  | exact wpAny_bind (wpAny_bind (m:=Builtin.Tuple.tupleExact _) (wpAny_newObj_type (wpAny_pure (wpAny_pure ⟨_,rfl,wpAny_pure h⟩)) hsz))
  | exact wpAny_bind (wpAny_bind (m:=Builtin.Tuple.tupleExact _) (wpAny_newObj_type (wpAny_pure ⟨_,rfl,wpAny_pure h⟩) hsz))
theorem il {A:Around} {E:Value→Shared→Prop} {s:Shared} {Q:Value→Shared→Prop} {prog:Program} {w:World} {value:Expr} {o i:Value} {T id:String} {p p':Pos} {lw up:Option Expr}
  (hl:typeLookup (.type T) "__getitem__" = pure (some (.builtin id))) (hT:s.TypeIs o T) (hg:wpAny (model prog w) A (getItem o i) Q E s) :
  wpAny (model prog w) A (do standAt p;let r ← subscripted (.Slice lw up Option.none p') (← getitemInPython o) o i;letTemporaryGo value o r;pure r) Q E s:=by
 refine wpAny_bind (wpAny_standAt (wpAny_bind ?_))
 rw [getitemInPython_of_ne hT.not_modules]
 refine wpAny_bind (wpAny_specialOf hT hl ?_)
 have fin:wpAny (model prog w) A (operate [i,o] (getItem o i)) (fun r s₃=>wpAny (model prog w) A (letTemporaryGo value o r>>=fun _=>pure r) Q E s₃) E s :=
  wpAny_operating (wpAny_mono hg (fun r s₃ h₃=>wpAny_bind (wpAny_letTemporaryGo (wpAny_pure h₃))) fun _ _ x=>x)
 exact wpAny_pure (wpAny_bind fin)
theorem nv (S:St C ρ H s) {sl:Addr} {vl vu x:Value} {c d:Option Int} {u w:V} (hs:s.heap.IsSliceOf sl vl vu .none) (pl:PartR c vl) (pu:PartR d vu) (r:VR ρ H s.heap u x) (h:gg u c d=some w) {value:Expr} {p p':Pos} {lw up:Option Expr} :
  Runs C A (do standAt p;let r ← subscripted (.Slice lw up Option.none p') (← getitemInPython x) x (.ref sl);letTemporaryGo value x r;pure r) ρ H s w H:=by
 induction u using Mini.Internal.V.casesOn with
 | tup l =>
   refine bsE h fun a ha h=>itE h fun h5 hw=>sm (fX h5) fun hn hk hne hz=>?_
   rw [ha,eq_of_beq hk] at pl
   induction d using Option.casesOn with
   | some _=>exact ff hn
   | none=>induction l using List.casesOn with
    | nil=>exact ff hne
    | cons v l =>
     rw [← Option.some.inj hw]
     refine VR.tupE r fun {ta items} t tz rr E Q k=>il dC (PyProof.Rows.IsTup.typeIs (show PyProof.Rows.IsTup _ _ _ from t)) (i7 t hs pl pu (m:=l.length) ?_ (Nat.le_of_succ_le (aI hz)) ?_)
     ·exact rr.length.symm
     ·exact du (j8 S (rr.drop 1) (tk:=s.toks)) fun S' N' r'=>k _ _ _ S' N' r'
 | lst l =>
   refine bsE h fun b hb h=>itE h fun h5 hw=>du (fY h5) fun hn hk hz=>?_
   rw [hb] at pu
   induction c using Option.casesOn with
   | some _=>exact ff hn
   | none =>
    rw [← Option.some.inj hw]
    refine aG (Int.eq_ofNat_of_zero_le (of_decide_eq_true hk)) fun j e=>?_
    rw [e] at pu ⊢
    refine VR.lstE r fun {ta items} t nn rr E Q k=>il cN t.typeIs (wpAny_getItem_list_slice t hs pl.part pu.part .none nofun ?_ ?_)
    ·rw [slicePick_upto']
     exact du (gM S (rr.take j) (tk:=s.toks)) fun S' N' r'=>k _ _ _ S' N' r'
    ·have e:l.length=items.size:=rr.length
     rw [← e,af];exact Nat.le_trans (aI hz) (by decide)
 | _=>exact nn h
theorem rJ (EV:bJ C n R) {o:E} {a b:Option E} {x:Expr} {v:V} (hm:mtE (f + 1) sc (.slice o a b) x=true)
  (h:aO C.P R (.slice o a b) lo H=some (v,H'))
  (r:aS n A) (S:St C ρ H s) (X:EnvOK C sc env ρ H s.heap lo):Runs C A (eval x env) ρ H s v H':=by
 have hx:=aQ hm
 refine aw (cB hx.2) fun hb hm=>?_
 refine du (fY hm) fun m0 m1 m2=>?_
 have hb:=bp hb
 refine bpE h fun u H1 h1 h=>?_
 refine bpE h fun c H2 h2 h=>?_
 refine bpE h fun d H3 h3 h=>?_
 refine msE h fun w h4 h=>?_
 (refine dw h ?_;clear h)
 refine .of (x':=.Subscript (pt x).a (.Slice (pt (pt x).b).o1 (pt (pt x).b).o2 Option.none (pt (pt x).b).p) (pt x).p) (hx.1.trans (congrArg (fun z=>Expr.Subscript (pt x).a z (pt x).p) hb)) fun E Q k=>?_
 rw [eval_Subscript]
 refine wpAny_bind (EV f sc env o (pt x).a lo H u H1 m0 h1 A s ρ r S X E _ fun x1 s₁ ρ₁ S₁ N₁ r₁=>?_)
 refine wpAny_bind (wpAny_holding (wpAny_Slice ?_))
 refine sD EV m1 h2 r S₁ (X.next S N₁) fun x2 s₂ ρ₂ S₂ N₂ p₂=>?_
 refine sD EV m2 h3 r S₂ ((X.next S N₁).next S₁ N₂) fun x3 s₃ ρ₃ S₃ N₃ p₃=>?_
 rw [evalPart_none]
 refine wpAny_pure ?_
 refine aw (S₃.grow (s':={ s₃ with heap:=s₃.heap.push { cls:=.type "slice",data:=.fields #[x2,x3,.none] } }) (fun a o e=>Heap.get?_push_of_some _ e) rfl rfl) fun S' N=>?_
 have r₁':=((r₁.lasts (N₂.lasts S₁)).lasts (N₃.lasts S₂)).lasts (N.lasts S₃)
 have NN:=((N₁.trans N₂).trans N₃).trans N
 have hsl:=Heap.IsSliceOf.new s₃.heap x2 x3 .none
 exact nv S' hsl p₂ p₃ r₁' h4 E Q fun y s₄ ρ₄ S₄ N₄ r₄=>k _ _ _ S₄ (NN.trans N₄) r₄
theorem AR.get {h:Heap}:∀ {l:List (Nat×V)} {es:List DictEntry},AR ρ H h l es→∀ {a:Nat} {v:V},lk l a=some v→∃ x,getL (nm a) es=some (some x)∧VR ρ H h v x:=by
 intro l es r
 induction r with
 | nil=>intro a v e;exact nn e
 | @cons j v x hs t l l' r _ ih =>
  intro a u e
  rw [aA] at e
  unfold getL
  simp only [List.find?_cons]
  have ek:(⟨hs,.str (nm j) t,x⟩:DictEntry).key.isStr (nm a)=Nat.beq j a:=kW j a
  rw [ek,iy]
  by_cases q:a=j
  ·subst q
   rw [if_pos rfl] at e;cases e
   exact ⟨x,by simp,r⟩
  ·rw [if_neg q] at e
   refine ae (ih e) fun y e1 r1=>?_
   refine ⟨y,?_,r1⟩
   have q':¬ j=a:=fun z=>q z.symm
   simp only [decide_eq_false q']
   unfold getL at e1
   revert e1
   cases hf:List.find? (fun x=>x.key.isStr (nm a)) l' with
   | some e=>exact id
   | none =>
    simp only
    intro e1
    split at e1<;>simp at e1
theorem AR.no {h:Heap}:∀ {l:List (Nat×V)} {es:List DictEntry},AR ρ H h l es→∀ {a:Nat},lk l a=Option.none→getL (nm a) es=some Option.none:=by
 intro l es r
 have noref:es.any (·.refKey)=false:=by
  induction r with
  | nil=>rfl
  | cons _ _ ih=>simp only [List.any_cons,ih,Bool.or_false];rfl
 intro a e
 have nf:es.find? (·.key.isStr (nm a))=Option.none:=by
  clear noref
  induction r with
  | nil=>rfl
  | @cons j v x hs t l l' r _ ih =>
   rw [aA] at e
   simp only [List.find?_cons]
   have ek:(⟨hs,.str (nm j) t,x⟩:DictEntry).key.isStr (nm a)=Nat.beq j a:=kW j a
   rw [ek,iy]
   by_cases q:a=j
   ·subst q;rw [if_pos rfl] at e;cases e
   ·rw [if_neg q] at e
    have q':¬ j=a:=fun z=>q z.symm
    simp only [decide_eq_false q']
    exact ih e
 unfold getL
 rw [nf]
 simp only [noref]
 rfl
theorem VR.handed {h:Heap} {v:V} {x:Value} (r:VR ρ H h v x):W.handedIn x=true:=by induction r using VR.casesOn<;>rfl
set_option tactic.hygienic true in
theorem gH {o:Expr} {name:Str} (h:gU o=true):attributeBase o name env (eval o env)=eval o env:=by
 induction o using PySem.Expr.casesOn<;>first | rfl | skip
 rename_i g as ks p
 induction ks using List.casesOn
 ·exact ff h
 ·induction g using PySem.Expr.casesOn<;>first | rfl | (induction as using List.casesOn<;>rfl)
theorem St.inst (S:St C ρ H s) {r:Nat} {c:Nat} {l:List (Nat×V)} (hn:nth H r=some (.inst c l)) {p:Addr×Addr} (hp:ρ[r]?=some p) :
  ∃ es nn,AR ρ H s.heap l es∧s.heap.get? p.2=some (dictOf es nn)∧p.1≠p.2∧PySem.W.InstAt s.heap p.1 ⟨.ref (C.cls c),some p.2,.plain,#[]⟩ (C.cls c) (some (dictOf es nn)):=by
 obtain ⟨e,h1,es,nn,h2,r⟩:=S.objs r _ p hn hp
 exact ⟨es,nn,r,h2,e,h1,rfl,rfl,h2⟩
theorem uM (K:CfgOK C gG) (EV:bJ C n R) {o:E} {a:Nat} {x:Expr} {v:V} (hm:mtE (f + 1) sc (.attr o a) x=true)
  (h:aO C.P R (.attr o a) lo H=some (v,H'))
  (r:aS n A) (S:St C ρ H s) (X:EnvOK C sc env ρ H s.heap lo):Runs C A (eval x env) ρ H s v H':=by
 have hx:=aQ hm
 refine du (fY hx.2) fun m0 mn m2=>?_
 have mn:(pt x).s=nm a:=beq_iff_eq.mp mn
 refine bpE h fun u H1 h1 h=>?_
 (refine bsE h fun rr hr hh_=>?_;clear h;revert hh_;intro h)
 (refine bsE h fun ob hn hh_=>?_;clear h;revert hh_;intro h)
 refine bpE h fun c l ho h=>?_
 (refine itE h fun ha hh_=>?_;clear h;revert hh_;intro h)
 (refine msE h fun w hw hh_=>?_;clear h;revert hh_;intro h)
 (refine dw h ?_;clear h)
 obtain rfl:=aY hr
 obtain rfl:=d8 ho
 refine aw (cB ha) fun ha hms=>?_
 refine aG (Option.isSome_iff_exists.mp hms) fun ms hms=>?_
 have hmem:a∈C.P.attrs:=by
  refine ae (List.any_eq_true.mp ha) fun b hb e=>?_
  rw [Nat.eq_of_beq_eq_true e];exact hb
 refine .of (x':=.Attribute (pt x).a (nm a) (pt x).p) (mn▸hx.1) fun E Q k=>?_
 rw [arm_eval_Attribute,gH m2]
 refine wpAny_bind (EV f sc env o (pt x).a lo H _ _ m0 h1 A s ρ r S X E _ fun x1 s₁ ρ₁ S₁ N₁ r₁=>?_)
 cases r₁ with
 | ref hp =>
  refine iY (S₁.inst hn hp) fun es nn ar hd hne I=>?_
  refine ae (ar.get hw) fun z hz rz=>?_
  have KC:=K.cl c ms hms
  refine wpAny_bind (wpAny_standAt (wpAny_bind (wpAny_holding ?_)))
  refine W.get_value (K.X.keeps S₁.base) I (W.plainGet_of (KC.get (nm a))).1 (W.findObj_own KC.dict (KC.attr a hmem) rfl (by rw [W.lookIn_dict];exact hz)) rz.handed ?_
  have G:=S₁.grow (s':={ s₁ with toks:=s₁.toks + 1 }) (fun _ _ e=>e) rfl rfl
  exact wpAny_bind (wpAny_letTemporaryGo (wpAny_pure (k _ _ _ G.1 (N₁.trans G.2) rz)))
end
theorem e8 (a b c:Str):a++b++c=a++(b++c):=by
 show Str.append (Str.append a b) c=Str.append a (Str.append b c)
 simp [Str.append]
theorem cI (a:Str):Str.empty++a=a:=by
 show Str.append Str.empty a=a
 cases a;simp [Str.append,Str.empty]
theorem lB:∀ k:Fin 100,(Str.ofString (toString (k.val:Int)))=nm ((d7 (k.val:Int)).getD 0):=by decide +kernel
theorem nq:∀ k:Fin 100,(nmL ((d7 (k.val:Int)).getD 0)).length≤2:=by decide +kernel
theorem lR {i:Int} {t:Nat} (h:d7 i=some t):(Str.ofString (toString i))=nm t∧(nmL t).length≤2∧i.natAbs < 100:=by
 have hi:0≤i∧i < 100:=by
  unfold d7 at h
  split at h
  ·(clear h;lia)
  ·split at h
   ·(clear h;lia)
   ·exact nn h
 refine aG (Int.eq_ofNat_of_zero_le hi.1) fun k hh1_=>?_
 subst hh1_
 have hk:k < 100:=by (clear h;lia)
 have h1:=lB ⟨k,hk⟩
 have h2:=nq ⟨k,hk⟩
 simp only at h1 h2
 rw [h] at h1 h2
 exact ⟨h1,h2,by (clear h2 h1 hk h;lia)⟩
section
variable {sc:Scope} {env:Env} {lo:Lo} {A:Around} {R:Sems} {n:Nat} {f:Nat} {ρ ρ':Rh} {H H':Hp} {s s':Shared}
theorem qz {l:List Expr} {p:Expr→Expr→Expr→Bool} (h:(match l with | [u,v,w]=>p u v w | _=>false)=true):∃ u v w,l=[u,v,w]∧p u v w=true:=by
 induction l using List.casesOn with
 | nil=>exact ff h
 | cons u l=>induction l using List.casesOn with
  | nil=>exact ff h
  | cons v l=>induction l using List.casesOn with
   | nil=>exact ff h
   | cons w l=>induction l using List.casesOn with
    | nil=>exact ⟨u,v,w,rfl,h⟩
    | cons _ _=>exact ff h
theorem w0 (EV:bJ C n R) {pre post:Nat} {e:E} {x:Expr} {v:V} (hm:mtE (f + 1) sc (.fmt pre e post) x=true)
  (h:aO C.P R (.fmt pre e post) lo H=some (v,H'))
  (r:aS n A) (S:St C ρ H s) (X:EnvOK C sc env ρ H s.heap lo):Runs C A (eval x env) ρ H s v H':=by
 refine aw (aQ hm) fun hx hm=>?_
 refine iX (qz hm) fun a1 a2 a3 hl hm=>?_
 refine aw (cB hm) fun k1 hm=>?_
 refine aw (cB hm) fun k2 hm=>?_
 refine aw (cB hm) fun k3 hm=>?_
 refine aw (cB hm) fun e2 hm=>?_
 have e2:=beq_iff_eq.mp e2
 refine aw (cB hm) fun hm m0=>?_
 refine sm (fX hm) fun e1 e3 b1 b2=>?_
 have e1:=beq_iff_eq.mp e1
 have e3:=beq_iff_eq.mp e3
 have b1:=Nat.le_of_ble_eq_true b1
 have b2:=Nat.le_of_ble_eq_true b2
 refine bpE h fun u H1 h1 h=>?_
 (refine bsE h fun i hi hh_=>?_;clear h;revert hh_;intro h)
 (refine msE h fun t ht hh_=>?_;clear h;revert hh_;intro h)
 (refine dw h ?_;clear h)
 obtain rfl:=az hi
 refine .of (x':=.JoinedStr [.Constant (.str (nm pre)) (pt a1).n (pt a1).p,.FormattedValue (pt a2).a (-1) Option.none (pt a2).p,.Constant (.str (nm post)) (pt a3).n (pt a3).p] (pt x).p) ?_ fun E Q k=>?_
 ·refine hx.trans (congrArg (fun z=>Expr.JoinedStr z (pt x).p) (hl.trans ?_))
  rw [← e1,← e3,← e2]
  exact congr (congrArg List.cons (bp k1)) (congr (congrArg List.cons (bp k2)) (congrArg (fun z=>[z]) (bp k3)))
 refine aw (S.grow (s':={ s with toks:=s.toks + 1 }) (fun _ _ e=>e) rfl rfl) fun S0 N0=>?_
 refine wpAny_JoinedStr ?_
 refine wpAny_Constant_str ⟨nm pre,_,rfl,by rw [cI,dH,af];lia,?_⟩
 refine wpAny_FormattedValue_plain ?_
 refine EV f sc env e (pt a2).a lo H _ _ m0 h1 A _ ρ r S0 (X.next S N0) E _ fun x1 s₁ ρ₁ S₁ N₁ r₁=>?_
 refine du (lR ht) fun e1 e2 e3=>?_
 refine VR.intE r₁ fun _=>?_
 refine wpAny_formatField_int (by
  refine Or.elim (Nat.eq_zero_or_pos i.natAbs) (fun z=>?_) fun z=>?_
  ·rw [z];decide
  ·exact Nat.lt_of_lt_of_le ((Nat.log2_lt (by lia) (k:=7)).mpr (by lia)) (by decide)) ?_
 rw [e1]
 refine ⟨nm t,_,rfl,?_,?_⟩
 ·rw [cI,fq,dH,af,dg,dZ,List.length_append];lia
 ·refine wpAny_Constant_str ⟨nm post,_,rfl,?_,?_⟩
  ·rw [cI,e8,fq,fq,dH,af,dg,dZ,dg,dZ,List.length_append,List.length_append];lia
  ·refine ⟨?_,?_⟩
   ·rw [cI,e8,fq,fq,dH,af,dg,dZ,dg,dZ,List.length_append,List.length_append];lia
   ·rw [cI,e8,fq,fq]
    refine aw (S₁.grow (s':={ s₁ with toks:=s₁.toks + 1 + 1 + 1 + 1 }) (fun _ _ e=>e) rfl rfl) fun S' N=>?_
    exact k _ _ _ S' ((N0.trans N₁).trans N) (.str _ _)
theorem pb (EV:bJ C n R) {e:E} {x:Expr} {v:V} (hm:mtE (f + 1) sc (.freeze e) x=true)
  (h:aO C.P R (.freeze e) lo H=some (v,H'))
  (r:aS n A) (S:St C ρ H s) (X:EnvOK C sc env ρ H s.heap lo):Runs C A (eval x env) ρ H s v H':=by
 have hm:mtE f sc e x=true:=v9 hm
 refine bpE h fun u H1 h1 h=>?_
 (refine bsE h fun rr hr hh_=>?_;clear h;revert hh_;intro h)
 (refine bsE h fun ob hn hh_=>?_;clear h;revert hh_;intro h)
 (refine msE h fun l ho hh_=>?_;clear h;revert hh_;intro h)
 (refine dw h ?_;clear h)
 obtain rfl:=aY hr
 obtain rfl:=gq ho
 intro E Q k
 refine EV f sc env e x lo H _ _ hm h1 A _ ρ r S X E _ fun x1 s₁ ρ₁ S₁ N₁ r₁=>?_
 refine vH (S₁.ref_obj r₁ hn) fun p hp hh1_ e hh2_=>?_
 refine ae hh2_ fun items t rl=>?_
 subst hh1_
 refine aw (S₁.set (s':=s₁) hn rfl hp (o':=.dead) (fun _ _ _ _ e=>e) (S₁.here _ _ hp) rfl rfl (fun _=>trivial)) fun S' N=>?_
 refine k _ _ _ S' (N₁.trans N) (.lst t.isList ?_ (rl.lasts (N.lasts S₁)))
 intro m
 have m:=m.resolve_right fun m=>(S₁.zap _ m _ _ hp).1 rfl
 refine jL m fun i q o hq ho hlv hc=>?_
 by_cases hi:rr=i
 ·subst hi
  have hlt:rr < H1.length:=(List.getElem?_eq_some_iff.mp hn).1
  rw [List.getElem?_set_self hlt] at ho;cases ho;exact ff hlv
 ·refine sm (S₁.apart rr i p q hp hq hi) fun n1 n2 n3 n4=>?_
  refine Or.elim hc (fun hc=>?_) fun hc=>?_
  ·exact n1 hc
  ·exact n2 hc
end
section
variable {sc:Scope} {env:Env} {lo:Lo} {A:Around} {R:Sems} {n:Nat} {f:Nat} {ρ ρ':Rh} {H H':Hp} {s s':Shared}
theorem ja {K:Type} [DecidableEq K] (j:K) (w:Value) (r:List (K×Value)) (k:K) (v:Value) (hn:j∉r.map (·.1)):stored ((j,w) :: r) k v=if j=k then (j,v) :: r else (j,w) :: stored r k v:=by
 unfold stored
 by_cases e:j=k
 ·subst e
  have:=map_store_of_not_mem r j v hn
  simp [this]
 ·simp only [List.any_cons,decide_eq_false e,Bool.false_or,if_neg e,List.map_cons]
  split<;>rfl
theorem PR.setI {h:Heap} {l:List (Int×V)} {xs:List (Int×Value)} (p:PR id ρ H h l xs):(xs.map (·.1)).Nodup→∀ {k:Int} {v:V} {y:Value},VR ρ H h v y→PR id ρ H h (Mini.Internal.setI l k v) (stored xs k y):=by
 induction p with
 | nil=>intro _ k v y r;exact .cons r .nil
 | @cons j v x l l' r q ih =>
  intro hn k u y ru
  rw [List.map_cons,List.nodup_cons] at hn
  rw [ja _ _ _ _ _ hn.1]
  simp only [Mini.Internal.setI,id]
  by_cases e:k=j
  ·subst e;simp;exact .cons ru q
  ·have e':¬ j=k:=fun z=>e z.symm
   rw [if_neg e',beq_eq_false_iff_ne.mpr e]
   exact .cons r (ih hn.2 ru)
theorem uI {dk:DK} {x:Expr} (hm:mtE (f + 1) sc (.dict dk) x=true) (S:St C ρ H s):Runs C A (eval x env) ρ H s (.ref H.length) (H++[ou dk]):=by
 have hx:=aQ hm
 have hm:=cB hx.2
 have e1:(pt x).ol=[]:=List.isEmpty_iff.mp hm.1
 have e2:(pt x).l=[]:=List.isEmpty_iff.mp hm.2
 refine .of (x':=.Dict [] [] (pt x).p) (hx.1.trans (show Expr.Dict (pt x).ol (pt x).l (pt x).p=_ by rw [e1,e2])) fun E Q k=>?_
 refine wpAny_Dict_empty ?_
 refine du (S.mk' (o:=ou dk) (p:=(s.heap.objs.size,s.heap.objs.size)) (s':={ s with heap:=s.heap.push { cls:=.type "dict",data:=.dict #[] } }) (ai _) (ai _) (fun a o e=>Heap.get?_push_of_some _ e) ⟨⟨_,Heap.get?_push_size _ rfl⟩,_,Heap.get?_push_size _ rfl⟩ rfl rfl
  (fun L=>by
   induction dk using Mini.Internal.DK.casesOn
   ·exact ⟨rfl,[],Heap.DictOf.new _,.nil⟩
   ·exact ⟨rfl,[],Heap.DictOfH.new _,.nil⟩)) fun S' N e=>?_
 exact k _ _ _ S' N (.ref (p:=(s.heap.objs.size,s.heap.objs.size)) e)
end
noncomputable def fj (x:Expr):Bool:=!(Nat.ble (pt x).k 4)
theorem isTrue_plain {x:Expr} {env:Env} {whole:Sem Value} (h:fj x=true):isTrue x env whole=(do let v ← whole;standAt x.pos;holding [v] (truthy v)):=by
 cases x with
 | UnaryOp op y p=>cases op<;>first | rfl | exact ff h
 | BoolOp op _ _=>cases op<;>exact ff h
 | IfExp _ _ _ _=>exact ff h
 | Compare _ _ _ _=>exact ff h
 | _=>rfl
noncomputable def vM (e:E):Bool:=Nat.ble (ek e) 4
section
variable {sc:Scope} {env:Env} {lo:Lo} {A:Around} {R:Sems} {n:Nat} {f:Nat} {ρ ρ':Rh} {H H':Hp} {s s':Shared}
theorem qU {e:E} {x:Expr} (hm:mtE f sc e x=true) (he:vM e=false):fj x=true:=by
 show (!(Nat.ble (pt x).k 4))=true
 rw [xW hm]
 exact congrArg (! ·) he
theorem qv {x:Expr} {b:Bool} (hp:fj x=true) (h:Runs C A (eval x env) ρ H s (.bool b) H'):f6 C A (isTrue x env (eval x env)) ρ H s b H':=fun E Q k=>by
 rw [isTrue_plain hp]
 refine wpAny_bind (h E _ fun y s₁ ρ₁ S₁ N₁ r₁=>?_)
 refine VR.boolE r₁ ?_
 exact wpAny_bind (wpAny_standAt (wpAny_holding (wpAny_truthy_bool (k _ _ S₁ N₁))))
theorem f6.eq {t:Sem Bool} {H1:Hp} {b c:Bool} (h:(V.bool c,H1)=(V.bool b,H')) (k:f6 C A t ρ H s c H1):f6 C A t ρ H s b H':=by cases h;exact k
theorem f6.of {x x':Expr} {b:Bool} (hx:x=x') (h:f6 C A (isTrue x' env (eval x' env)) ρ H s b H'):f6 C A (isTrue x env (eval x env)) ρ H s b H':=hx▸h
theorem tB (K:CfgOK C gG) (EV:bJ C n R) (TR:iU C n R) {R':Sems} (hR:R'.ev=aO C.P R) (EV1:bJ C (n + 1) R'):iU C (n + 1) R':=by
 intro f sc env e x lo H b H' hm h A s ρ r S X
 cases he:vM e with
 | false=>exact qv (qU hm he) (EV1 f sc env e x lo H _ H' hm h A s ρ r S X)
 | true =>
  have r0:=r.dec
  rw [hR] at h
  induction f using Nat.casesAuxOn with
  | zero=>exact mt0 hm
  | succ f =>
   cases e with
   | not a =>
    have hx:=aQ hm
    refine bpE h fun w H1 h1 h2=>?_
    refine msE h2 fun c hc h3=>?_
    rw [aE hc] at h1
    refine .of (x':=.UnaryOp .Not (pt x).a (pt x).p) hx.1 (.eq h3 fun E Q k=>?_)
    exact wpAny_isTrue_Not (TR f sc env a (pt x).a lo H c _ hx.2 h1 A s ρ r0 S X E _ k)
   | and l=>exact .of (x':=.BoolOp .And (pt x).l (pt x).p) (aQ hm).1 fun E Q k=>wpAny_isTrue_BoolOp (lg TR (v9 hm) h r0 S X E Q k)
   | or l=>exact .of (x':=.BoolOp .Or (pt x).l (pt x).p) (aQ hm).1 fun E Q k=>wpAny_isTrue_BoolOp (mU TR (v9 hm) h r0 S X E Q k)
   | ite c a d =>
    have hx:=aQ hm
    have m:=fY hx.2
    refine bpE h fun u H1 h1 h2=>?_
    refine bsE h2 fun t ht h3=>?_
    rw [aE ht] at h1
    refine .of (x':=.IfExp (pt x).a (pt x).b (pt x).c (pt x).p) hx.1 fun E Q k=>?_
    show wpAny (MM C) A (isTrue (pt x).a env (eval (pt x).a env)>>=_) Q E s
    refine wpAny_bind (TR f sc env c (pt x).a lo H t H1 m.1 h1 A s ρ r0 S X E _ fun s₁ ρ₁ S₁ N₁=>?_)
    induction t using Bool.casesOn with
    | true=>exact TR f sc env a (pt x).b lo H1 b H' m.2.1 h3 A s₁ ρ₁ r0 S₁ (X.next S N₁) E Q fun s₂ ρ₂ S₂ N₂=>k s₂ ρ₂ S₂ (N₁.trans N₂)
    | false=>exact TR f sc env d (pt x).c lo H1 b H' m.2.2 h3 A s₁ ρ₁ r0 S₁ (X.next S N₁) E Q fun s₂ ρ₂ S₂ N₂=>k s₂ ρ₂ S₂ (N₁.trans N₂)
   | cmp a os l =>
    have hx:=aQ hm
    refine sm (fX hx.2) fun m0 m3 m1 m2=>?_
    have m3:(pt x).os=os.map hO:=beq_iff_eq.mp m3
    refine bpE h fun u H1 h1 h=>?_
    refine .of (x':=.Compare (pt x).a (os.map hO) (pt x).l (pt x).p) (m3▸hx.1) fun E Q k=>?_
    show wpAny (MM C) A (eval (pt x).a env>>=_) Q E s
    refine wpAny_bind (EV f sc env a (pt x).a lo H u H1 m0 h1 A s ρ r0 S X E _ fun x1 s₁ ρ₁ S₁ N₁ r₁=>?_)
    rw [eu m1]
    exact (kH K EV (pt x).p (Nat.eq_of_beq_eq_true m2) m1 h r0 S₁ (X.next S N₁) r₁).2 b rfl E Q fun s₂ ρ₂ S₂ N₂=>k s₂ ρ₂ S₂ (N₁.trans N₂)
   | _=>exact ff he
theorem xa (K:CfgOK C gG) (EV:bJ C n R) {a:E} {os:List Cop} {l:List E} {x:Expr} {v:V} (hm:mtE (f + 1) sc (.cmp a os l) x=true)
  (h:aO C.P R (.cmp a os l) lo H=some (v,H'))
  (r:aS n A) (S:St C ρ H s) (X:EnvOK C sc env ρ H s.heap lo):Runs C A (eval x env) ρ H s v H':=by
 have hx:=aQ hm
 refine sm (fX hx.2) fun m0 m3 m1 m2=>?_
 have m3:(pt x).os=os.map hO:=beq_iff_eq.mp m3
 refine bpE h fun u H1 h1 h=>?_
 refine .of (x':=.Compare (pt x).a (os.map hO) (pt x).l (pt x).p) (m3▸hx.1) fun E Q k=>?_
 show wpAny (MM C) A (eval (pt x).a env>>=_) Q E s
 refine wpAny_bind (EV f sc env a (pt x).a lo H u H1 m0 h1 A s ρ r S X E _ fun x1 s₁ ρ₁ S₁ N₁ r₁=>?_)
 rw [eu m1]
 exact (kH K EV (pt x).p (Nat.eq_of_beq_eq_true m2) m1 h r S₁ (X.next S N₁) r₁).1 E Q fun x2 s₂ ρ₂ S₂ N₂ r₂=>k x2 s₂ ρ₂ S₂ (N₁.trans N₂) r₂
end
section
variable {sc:Scope} {env:Env} {lo:Lo} {A:Around} {R:Sems} {n:Nat} {f:Nat} {ρ ρ':Rh} {H H':Hp} {s s':Shared}
noncomputable def Keeps (C:Cfg) (fv:Value):Prop:=∀ h,C.K.In h→∃ k,(k=Keeper.frame∨k=Keeper.machine∨k=Keeper.boundFrame)∧Looks (MM C) h (keeperOf fv) k
theorem bE (id:String):Keeps C (.builtin id):=fun _ _=>⟨_,.inr (.inl rfl),Looks.now⟩
theorem bo (T:String):Keeps C (.type T):=fun _ _=>⟨_,.inr (.inl rfl),Looks.now⟩
theorem ku {a:Addr} (h:keepIn C.K (.ref a)=true):Keeps C (.ref a):=fun g X=>W.keeps_K h g X
theorem b7 (xs:List Expr):((bj xs env).any (·.1)||([]:List (Option Str×Sem Value)).any (·.1.isNone))=false:=by
 induction xs with
 | nil=>rfl
 | cons x xs ih=>simpa [bj] using ih
theorem ck (K:CfgOK C gG) (EV:bJ C n R) {pos:Pos} {fv:Value} {first:List Value} {es:List E} {xs:List Expr} {vs:List V} (hk:Keeps C fv) (hm:b5 (mtE f) sc es xs=true) (h:evs R es lo H=some (vs,H'))
  (r:aS n A) (S:St C ρ H s) (X:EnvOK C sc env ρ H s.heap lo) {E:Value→Shared→Prop} {Q:Value→Shared→Prop}
  (k:∀ ys s' ρ',St C ρ' H' s'→Nx no ρ H s ρ' H' s'→VRs ρ' H' s'.heap vs ys→wpAny (MM C) A (call fv (first++ys)) Q E s') :
  wpAny (MM C) A (callWith pos fv first (backTo pos (starEach xs env)) []) Q E s:=by
 rw [bq hm,aV]
 refine W.callWith_of (P:=C.K.In) (b7 xs) hk ?_
 induction xs using List.casesOn with
 | nil =>
  induction es using List.casesOn with
  | cons _ _=>simp [b5] at hm
  | nil =>
   simp only [evs,Option.some.injEq,Prod.mk.injEq] at h
   refine aw h fun hh1_ hh2_=>?_
   subst hh1_
   subst hh2_
   exact evalArgs_nil3 ⟨K.X.keeps S.base,k [] _ _ S (.refl _ _ _) .nil⟩
 | cons x xs =>
  refine evalArgs_plain ?_
  exact dX EV hm h r S X E _ fun ys s₁ ρ₁ S₁ N₁ r₁=>⟨K.X.keeps S₁.base,k ys s₁ ρ₁ S₁ N₁ r₁⟩
theorem c7 {h:Heap} {l:List V} {xs:List Value} {is:List Int} (r:VRs ρ H h l xs) (e:allInts l=some is):∃ ps:List (Int×Tok),xs=ps.map (fun p=>Value.int p.1 p.2)∧ps.map (·.1)=is:=by
 refine VRs.ind (q:=fun l xs=>∀ is,allInts l=some is→∃ ps:List (Int×Tok),xs=ps.map (fun p=>Value.int p.1 p.2)∧ps.map (·.1)=is) (fun is e=>⟨[],rfl,Option.some.inj e⟩) (fun {v x l xs} r _ ih is e=>?_) r is e
 refine bsE e fun i e0 e=>?_
 refine msE e fun js e1 e2=>?_
 refine ae (ih js e1) fun ps h1 h2=>?_
 rw [az e0] at r
 exact VR.intE r fun _=>⟨(i,_) :: ps,congrArg (_ :: ·) h1,(congrArg (i :: ·) h2).trans e2⟩
theorem pY:∀ {l:List Int} {m:Int},xB l=some m→m∈l∧∀ a∈l,m≤a:=by
 have key:∀ (l:List Int) (a:Int),l.foldl (fun a b=>if b < a then b else a) a∈a :: l∧∀ x∈a :: l,l.foldl (fun a b=>if b < a then b else a) a≤x:=by
  intro l
  induction l with
  | nil=>intro a;simp
  | cons b l ih =>
   intro a
   refine aw (ih (if b < a then b else a)) fun h1 h2=>?_
   simp only [List.foldl_cons]
   refine ⟨?_,fun x hx=>?_⟩
   ·refine Or.elim (List.mem_cons.mp h1) (fun e=>?_) fun e=>?_
    ·rw [e];split<;>simp
    ·simp [e]
   ·have h3:=h2 _ List.mem_cons_self
    rcases List.mem_cons.mp hx with rfl | hx
    ·by_cases hb:b < x
     ·rw [if_pos hb] at h3 ⊢;omega
     ·rw [if_neg hb] at h3 ⊢;exact h3
    ·rcases List.mem_cons.mp hx with rfl | hx
     ·by_cases hb:x < a
      ·rw [if_pos hb] at h3 ⊢;exact h3
      ·rw [if_neg hb] at h3 ⊢;omega
     ·exact h2 x (List.mem_cons_of_mem _ hx)
 intro l m e
 induction l using List.casesOn with
 | nil=>exact nn e
 | cons a l=>simp only [xB,Option.some.injEq] at e;subst e;exact key l a
theorem pZ:∀ {l:List Int} {m:Int},xC l=some m→m∈l∧∀ a∈l,a≤m:=by
 have key:∀ (l:List Int) (a:Int),l.foldl (fun a b=>if a < b then b else a) a∈a :: l∧∀ x∈a :: l,x≤l.foldl (fun a b=>if a < b then b else a) a:=by
  intro l
  induction l with
  | nil=>intro a;simp
  | cons b l ih =>
   intro a
   refine aw (ih (if a < b then b else a)) fun h1 h2=>?_
   simp only [List.foldl_cons]
   refine ⟨?_,fun x hx=>?_⟩
   ·refine Or.elim (List.mem_cons.mp h1) (fun e=>?_) fun e=>?_
    ·rw [e];split<;>simp
    ·simp [e]
   ·have h3:=h2 _ List.mem_cons_self
    rcases List.mem_cons.mp hx with rfl | hx
    ·by_cases hb:x < b
     ·rw [if_pos hb] at h3 ⊢;omega
     ·rw [if_neg hb] at h3 ⊢;exact h3
    ·rcases List.mem_cons.mp hx with rfl | hx
     ·by_cases hb:a < x
      ·rw [if_pos hb] at h3 ⊢;exact h3
      ·rw [if_neg hb] at h3 ⊢;omega
     ·exact h2 x (List.mem_cons_of_mem _ hx)
 intro l m e
 induction l using List.casesOn with
 | nil=>exact nn e
 | cons a l=>simp only [xC,Option.some.injEq] at e;subst e;exact key l a
theorem Runs.kept {v:V} {t:Sem Value} (S:St C ρ H s) (h:∀ E Q,(∀ x s',(∀ a o,s.heap.get? a=some o→s'.heap.get? a=some o)→s'.gens=s.gens→s'.os=s.os→(∀ ρ' H' h',VR ρ' H' h' v x)→Q x s')→wpAny (MM C) A t Q E s):Runs C A t ρ H s v H:=fun E Q k =>
 h E Q fun x s' hk e2 e3 r =>
  have G:=S.grow (s':=s') hk e2 e3
  k x s' ρ G.1 G.2 (r _ _ _)
theorem lK {h:Heap} {l:List V} {xs:List Value} {is:List Int} (r:VRs ρ H h l xs) (e:eY l=some is):is.length=xs.length∧∀ (i:Nat) (v:Value),xs[i]?=some v→NumOf (is[i]?.getD 0) v:=by
 refine VRs.ind (q:=fun l xs=>∀ is,eY l=some is→is.length=xs.length∧∀ (i:Nat) (v:Value),xs[i]?=some v→NumOf (is[i]?.getD 0) v) (fun is e=>by rw [← Option.some.inj e];exact ⟨rfl,fun i v e=>by exact nn e⟩) (fun {v x l xs} r _ ih is e=>?_) r is e
 refine bsE e fun i e0 e=>?_
 refine msE e fun js e1 e2=>?_
 replace ih:=ih js e1
 rw [← e2]
 refine ⟨congrArg (· + 1) ih.1,fun j w ev=>?_⟩
 induction j using Nat.casesAuxOn with
 | zero =>
  rw [← Option.some.inj ev]
  rcases iw e0 with e | ⟨b,e,e'⟩
  ·rw [e] at r;exact VR.intE r fun _=>.inl ⟨_,rfl⟩
  ·rw [e] at r;exact VR.boolE r (.inr ⟨b,rfl,e'⟩)
 | succ j=>exact ih.2 j w ev
theorem fh:∀ (is:List Int) (n:Nat),preSum (fun i=>is[i]?.getD 0) n=(is.take n).sum
 | is,0=>by simp [preSum]
 | is,n + 1=>by
  rw [preSum,fh is n]
  refine Or.elim (Nat.lt_or_ge n is.length) (fun h=>?_) fun h=>?_
  ·rw [List.take_add_one,List.sum_append,List.getElem?_eq_getElem h];simp
  ·rw [List.take_of_length_le h,List.take_of_length_le (Nat.le_succ_of_le h),List.getElem?_eq_none h];simp
theorem sub_int_tuple:isSubtype (.type "int") (.type "tuple")=pure false:=by rw [isSubtype_type];kernel_rfl
theorem sub_bool_tuple:isSubtype (.type "bool") (.type "tuple")=pure false:=by rw [isSubtype_type];kernel_rfl
theorem sub_str_tuple:isSubtype (.type "str") (.type "tuple")=pure false:=by rw [isSubtype_type];kernel_rfl
theorem sub_list_tuple:isSubtype (.type "list") (.type "tuple")=pure false:=by rw [isSubtype_type];kernel_rfl
theorem fQ:isSubtype (.type "NoneType") (.type "tuple")=pure false:=by rw [isSubtype_type];kernel_rfl
theorem sub_tuple_tuple:isSubtype (.type "tuple") (.type "tuple")=pure true:=by rw [isSubtype_type];kernel_rfl
theorem bG:typeOf (.type "tuple")=pure (.type "type"):=rfl
end
noncomputable def vp:Bi→Value
 | .len=>.builtin "len" | .sum=>.builtin "sum" | .min=>.builtin "min" | .max=>.builtin "max" | .int=>.type "int" | .list=>.type "list" | .tuple=>.type "tuple" | .isTuple=>.builtin "isinstance"
theorem pR:∀ b:Bi,bootBuiltins (kU b)=some (vp b):=by
 intro b;induction b using Mini.Internal.Bi.casesOn<;>decide +kernel
theorem yo (b:Bi):kU b∈cg:=by induction b using Mini.Internal.Bi.casesOn<;>decide +kernel
section
variable {sc:Scope} {env:Env} {lo:Lo} {A:Around} {R:Sems} {n:Nat} {f:Nat} {ρ ρ':Rh} {H H':Hp} {s s':Shared}
theorem rA (b:Bi):Keeps C (vp b):=by induction b using Mini.Internal.Bi.casesOn<;>first | exact bE _ | exact bo _
theorem VRs.one {h:Heap} {v:V} {xs:List Value} (r:VRs ρ H h [v] xs):∃ x,xs=[x]∧VR ρ H h v x:=by
 cases r with | cons a b=>cases b;exact ⟨_,rfl,a⟩
theorem VRs.two {h:Heap} {v w:V} {xs:List Value} (r:VRs ρ H h [v,w] xs):∃ x y,xs=[x,y]∧VR ρ H h v x∧VR ρ H h w y:=by
 cases r with | cons a b=>cases b with | cons c d=>cases d;exact ⟨_,_,rfl,a,c⟩
theorem fB (S:St C ρ H s) {a:Addr} {items:Array Value} {l:List V} (t:s.heap.IsList a items) (r:VRs ρ H s.heap l items.toList) (hl:ax l.length=true):Runs C A (call (.builtin "len") [.ref a]) ρ H s (.int l.length) H:=by
 have h1:=r.length
 simp only [Array.length_toList] at h1
 have h2:=aI hl
 refine Runs.here S fun E Q k=>Calls.call_len_list t (by (clear hl;omega)) ?_
 rw [← h1];exact k _ _ (.int _ _) rfl rfl rfl
theorem ft (S:St C ρ H s) {a:Addr} {items:Array Value} {l:List V} {is:List Int} {m:Int} (hh:A.handled=none) (t:s.heap.IsList a items) (r:VRs ρ H s.heap l items.toList) (hi:allInts l=some is) :
  (xB is=some m→Runs C A (call (.builtin "min") [.ref a]) ρ H s (.int m) H)∧(xC is=some m→Runs C A (call (.builtin "max") [.ref a]) ρ H s (.int m) H):=by
 refine ae (c7 r hi) fun ps e1 hh1_=>?_
 subst hh1_
 have e2:items=intItems ps.toArray:=by
  apply Array.toList_inj.mp
  rw [e1];simp [intItems]
 subst e2
 have at_:∀ i,i < ps.length→numAt ps.toArray i∈ps.map (·.1):=fun i hi=>by
  simp only [numAt,List.getElem?_toArray]
  rw [List.getElem?_eq_getElem hi]
  exact List.mem_map.mpr ⟨ps[i],List.getElem_mem hi,rfl⟩
 have of_:∀ b∈ps.map (·.1),∃ i,i < ps.length∧numAt ps.toArray i=b:=fun b hb=>by
  refine ae (List.mem_map.mp hb) fun p hp hh2_=>?_
  subst hh2_
  obtain ⟨i,hi,rfl⟩:=List.getElem_of_mem hp
  exact ⟨i,hi,by simp [numAt,List.getElem?_eq_getElem hi]⟩
 refine ⟨fun hm=>?_,fun hm=>?_⟩
 ·refine aw (pY hm) fun h1 h2=>?_
  refine ae (of_ m h1) fun j hj ej=>?_
  have hsz:0 < ps.toArray.size:=by simp;(clear ej hm e1 hi hh;omega)
  refine aw (argBest_lt (numAt ps.toArray) (ps.toArray.size - 1)) fun g1 g2=>?_
  refine Runs.kept S fun E Q k=>min_intList hh t hsz fun v h' tk hv hk=>?_
  refine aG (intItems_at hv) fun u hh4_=>?_
  subst hh4_
  have lt:argBest (fun i j=>decide (numAt ps.toArray i < numAt ps.toArray j)) (ps.toArray.size - 1) < ps.length:=by simp at hsz g1 ⊢;(clear hsz hv ej hm e1 hi hh;omega)
  have q1:=h2 _ (at_ _ lt)
  have q2:=g2 j (by simp;(clear q1 lt hv g1 hsz ej hm e1 hi hh;omega))
  have e:numAt ps.toArray (argBest (fun i j=>decide (numAt ps.toArray i < numAt ps.toArray j)) (ps.toArray.size - 1))=m:=by (clear lt hv g1 hsz hj hm e1 hi hh;omega)
  exact k _ _ hk rfl rfl fun _ _ _=>by rw [e];exact .int _ _
 ·refine aw (pZ hm) fun h1 h2=>?_
  refine ae (of_ m h1) fun j hj ej=>?_
  have hsz:0 < ps.toArray.size:=by simp;(clear ej hm e1 hi hh;omega)
  refine aw (argBest_gt (numAt ps.toArray) (ps.toArray.size - 1)) fun g1 g2=>?_
  refine Runs.kept S fun E Q k=>max_intList hh t hsz fun v h' tk hv hk=>?_
  refine aG (intItems_at hv) fun u hh5_=>?_
  subst hh5_
  have lt:argBest (fun i j=>decide (numAt ps.toArray i > numAt ps.toArray j)) (ps.toArray.size - 1) < ps.length:=by simp at hsz g1 ⊢;(clear hsz hv ej hm e1 hi hh;omega)
  have q1:=h2 _ (at_ _ lt)
  have q2:=g2 j (by simp;(clear q1 lt hv g1 hsz ej hm e1 hi hh;omega))
  have e:numAt ps.toArray (argBest (fun i j=>decide (numAt ps.toArray i > numAt ps.toArray j)) (ps.toArray.size - 1))=m:=by (clear lt hv g1 hsz hj hm e1 hi hh;omega)
  exact k _ _ hk rfl rfl fun _ _ _=>by rw [e];exact .int _ _
theorem vO (S:St C ρ H s) {a:Addr} {items:Array Value} {l:List V} {is:List Int} (hh:A.handled=none) (t:s.heap.IsList a items) (r:VRs ρ H s.heap l items.toList) (hi:eY l=some is) :
  Runs C A (call (.builtin "sum") [.ref a]) ρ H s (.int is.sum) H:=by
 refine aw (lK r hi) fun h1 h2=>?_
 have hlt:a < s.heap.objs.size:=by refine ae t fun _ e _=>?_;exact Heap.lt_size e
 intro E Q k
 refine call_sum_walkAnyB (wpAny_pyIter_list t ?_)
 refine ⟨_,_,_,_,_,_,_,fun i=>is[i]?.getD 0,rfl,(Walks.list (A:=A.in1) hh s.heap.objs.size a (Nat.ne_of_lt hlt) items).toS,⟨⟨_,Heap.get?_push_size _ rfl,rfl,rfl⟩,t.push _⟩,fun b hb=>?_,fun i v hv=>?_,fun s' t' hm=>?_⟩
 ·show b < (s.heap.push _).objs.size
  rw [Heap.size_push]
  rcases List.mem_cons.mp hb with rfl | hb
  ·exact Nat.lt_succ_self _
  ·rcases List.mem_cons.mp hb with rfl | hb
   ·exact Nat.lt_succ_of_lt hlt
   ·cases hb
 ·exact h2 i v (by simpa using hv)
 ·rw [fh,List.take_of_length_le (by rw [h1];simp)]
  refine aw (S.grow (s':=s') (fun b o e=>hm.heap b o (fun hb=>by
   refine Or.elim (List.mem_cons.mp hb) (fun e1=>?_) fun hb=>?_
   ·exact absurd (e1▸Heap.lt_size e) (Nat.lt_irrefl _)
   ·cases hb) (Heap.get?_push_of_some _ e)) hm.gens hm.os) fun S' N=>?_
  exact k _ _ _ S' N (.int _ _)
theorem et {vs:List V} {is:List Int} (h:fw vs=some is):(∃ l,vs=[.lst l]∧allInts l=some is)∨∃ a b,vs=[.int a,.int b]∧is=[a,b]:=by
 induction vs using List.casesOn with
 | nil=>exact nn h
 | cons v l=>induction l using List.casesOn with
  | nil =>
   (refine bsE h fun l e hh_=>?_;clear h;revert hh_;intro h)
   obtain rfl:=aZ e
   exact .inl ⟨l,rfl,h⟩
  | cons w l=>induction l using List.casesOn with
   | cons _ _=>exact nn h
   | nil =>
    (refine bsE h fun a ea hh_=>?_;clear h;revert hh_;intro h)
    refine msE h fun r h e=>?_
    (refine bsE h fun b eb hh_=>?_;clear h;revert hh_;intro h)
    obtain rfl:=az ea
    obtain rfl:=az eb
    cases h
    cases e
    exact .inr ⟨a,b,rfl,rfl⟩
theorem xy (S:St C ρ H s) {w:V} {x:Value} {m:Nat} (rx:VR ρ H s.heap w x) (hm:xZ H w=some m) (hl:ax m=true):Runs C A (call (.builtin "len") [x]) ρ H s (.int m) H:=by
 cases hr:w.ref? with
 | some i =>
  rw [aY hr] at rx hm
  refine bsE hm fun o hn ha=>?_
  refine msE ha fun l hl' hb=>?_
  rw [gq hl'] at hn
  refine vH (S.ref_obj rx hn) fun p hp e0 e hh2_=>?_
  refine ae hh2_ fun items t rr=>?_
  rw [e0,← hb]
  exact fB S t.isList rr (hb▸hl)
 | none =>
  have h0:(items w).map (·.length)=some m:=by induction w using Mini.Internal.V.casesOn<;>first | exact hm | cases hr
  refine msE h0 fun l hi hb=>?_
  rw [← hb] at hl ⊢
  refine Or.elim (c6 hi) (fun e=>?_) fun e=>?_
  ·rw [e] at rx
   refine VR.tupE rx fun {_ _} t _ rr=>?_
   have h1:=rr.length
   simp only [Array.length_toList] at h1
   have h2:=aI hl
   refine Runs.here S fun E Q k=>PyProof.Rows.len_tuple t (by clear e hi h0 hm hb;omega) ?_
   rw [← h1];exact k _ _ (.int _ _) rfl rfl rfl
  ·rw [e] at rx
   exact VR.lstE rx fun {_ _} t _ rr=>fB S t rr hl
theorem vo (S:St C ρ H s) {l:List V} {x:Value} (rx:VR ρ H s.heap (.lst l) x) (hl:ax l.length=true):Runs C A (call (.type "list") [x]) ρ H s (.lst l) H:=by
 refine VR.lstE rx fun {_ _} t nn rr=>?_
 have h1:=rr.length
 simp only [Array.length_toList] at h1
 have h2:=aI hl
 refine t5 t fun o ho hc m hd=>?_
 intro E Q k
 refine call_list_seq (T:="list") _ (.inl rfl) ho hc hd (fun h' c' hk hg=>?_) (by rw [af];(clear hd hc ho;omega))
 have G:=S.grow (s':={ s with heap:=h' }) hk rfl rfl
 exact k _ _ _ G.1 G.2 (.lst ⟨_,hg,rfl,_,rfl⟩ S.shy (rr.lasts (G.2.lasts S)))
theorem xt (S:St C ρ H s) (hh:A.handled=none) {vs:List V} {ys:List Value} {is:List Int} {m:Int} (r:VRs ρ H s.heap vs ys) (hi:fw vs=some is) (hm:xB is=some m):Runs C A (call (.builtin "min") ys) ρ H s (.int m) H:=by
 rcases et hi with ⟨l,e,hi⟩ | ⟨a,b,e,e2⟩
 ·rw [e] at r
  refine ae r.one fun x e3 rx=>?_
  rw [e3]
  exact VR.lstE rx fun {_ _} t _ rr=>(ft S hh t rr hi).1 hm
 ·rw [e] at r
  refine aW r.two fun x y e3 rx ry=>?_
  rw [e3]
  rw [e2] at hm
  refine VR.intE rx fun _=>VR.intE ry fun _=>Runs.kept S fun E Q k=>min_two_ints hh fun h' tk hk=>k _ _ hk rfl rfl fun _ _ _=>?_
  rw [← Option.some.inj hm]
  simp only [List.foldl]
  split<;>exact .int _ _
theorem xw (S:St C ρ H s) (hh:A.handled=none) {vs:List V} {ys:List Value} {is:List Int} {m:Int} (r:VRs ρ H s.heap vs ys) (hi:fw vs=some is) (hm:xC is=some m):Runs C A (call (.builtin "max") ys) ρ H s (.int m) H:=by
 rcases et hi with ⟨l,e,hi⟩ | ⟨a,b,e,e2⟩
 ·rw [e] at r
  refine ae r.one fun x e3 rx=>?_
  rw [e3]
  exact VR.lstE rx fun {_ _} t _ rr=>(ft S hh t rr hi).2 hm
 ·rw [e] at r
  refine aW r.two fun x y e3 rx ry=>?_
  rw [e3]
  rw [e2] at hm
  refine VR.intE rx fun _=>VR.intE ry fun _=>Runs.kept S fun E Q k=>max_two_ints hh fun h' tk hk=>k _ _ hk rfl rfl fun _ _ _=>?_
  rw [← Option.some.inj hm]
  show VR _ _ _ (.int (if a < b then b else a)) (if b > a then _ else _)
  by_cases q:a < b
  ·rw [if_pos q,if_pos (show b > a from q)];exact .int _ _
  ·rw [if_neg q,if_neg (show ¬ b > a from q)];exact .int _ _
theorem pP {b:Bi} {vs:List V} {ys:List Value} {v:V} (S:St C ρ H s) (hh:A.handled=none) (r:VRs ρ H s.heap vs ys) (h:aP b vs H=some (v,H')) (hb:b≠.isTuple) :
  Runs C A (call (vp b) ys) ρ H s v H':=by
 have one:∀ {w:V},one? vs=some w→∃ x,ys=[x]∧VR ρ H s.heap w x:=fun hw=>(show VRs ρ H s.heap [_] ys from nV hw▸r).one
 cases b with
 | isTuple=>exact absurd rfl hb
 | len =>
  refine bsE h fun w hw ha=>?_
  refine ae (one hw) fun x e rx=>?_
  refine bsE ha fun m hm hc=>?_
  refine itE hc fun hl hd=>?_
  rw [e]
  exact .eqs hd (xy S rx hm hl)
 | sum =>
  refine bsE h fun w hw ha=>?_
  refine ae (one hw) fun x e rx=>?_
  refine bsE ha fun l hl hc=>?_
  refine bsE hc fun is hi hd=>?_
  rw [e]
  rw [aZ hl] at rx
  exact .eqs (dN hd).2 (VR.lstE rx fun {_ _} t _ rr=>vO S hh t rr hi)
 | min =>
  refine bsE h fun is hi ha=>?_
  refine msE ha fun m hm hc=>?_
  exact .eq hc (xt S hh r hi hm)
 | max =>
  refine bsE h fun is hi ha=>?_
  refine msE ha fun m hm hc=>?_
  exact .eq hc (xw S hh r hi hm)
 | int =>
  refine bsE h fun w hw ha=>?_
  refine ae (one hw) fun x e rx=>?_
  refine msE ha fun a hi hc=>?_
  rw [e]
  refine .eq hc ?_
  rcases iw hi with e | ⟨b,e,e2⟩
  ·rw [e] at rx
   exact VR.intE rx fun _=>Runs.here S fun E Q k=>call_int_int (k _ _ (.int _ _) rfl rfl rfl)
  ·rw [e] at rx
   rw [e2]
   exact VR.boolE rx (Runs.here S fun E Q k=>call_int_bool (k _ _ (.int _ _) rfl rfl rfl))
 | list =>
  refine bsE h fun w hw ha=>?_
  refine ae (one hw) fun x e rx=>?_
  refine bsE ha fun l hl' hc=>?_
  refine itE hc fun hl hd=>?_
  rw [e]
  rw [aZ hl'] at rx
  exact .eqs hd (vo S rx hl)
 | tuple =>
  refine bsE h fun w hw ha=>?_
  refine ae (one hw) fun x e rx=>?_
  refine msE ha fun l hl' hc=>?_
  rw [e]
  rw [eX hl'] at rx
  exact .eq hc (VR.tupE rx fun {_ _} t z rr=>Runs.here S fun E Q k=>call_tuple_same t (k _ _ (.tup t z rr) rfl rfl rfl))
structure InstOK (C:Cfg) (A:Around) (ρ:Rh) (H:Hp) (s:Shared) (T:String) (x:Value) (b:Bool):Prop where
 r:Runs C A (call (.builtin "isinstance") [x,.type T]) ρ H s (.bool b) H
theorem wG {v:V} {x:Value} (S:St C ρ H s) (hr:v.ref?=Option.none):VR ρ H s.heap v x→InstOK C A ρ H s "tuple" x v.tup?.isSome
 | .tup t _ rr=>⟨Runs.here S fun E Q k=>call_isinstance (isinstance_true bG sub_tuple_tuple) ⟨t.typeIs,k _ _ (.bool _) rfl rfl rfl⟩⟩
 | .int i t=>⟨Runs.here S fun E Q k=>call_isinstance (isinstance_false_int (by decide) bG sub_int_tuple) (k _ _ (.bool _) rfl rfl rfl)⟩
 | .bool i=>⟨Runs.here S fun E Q k=>call_isinstance (isinstance_false_bool (by decide) bG sub_bool_tuple) (k _ _ (.bool _) rfl rfl rfl)⟩
 | .str i t=>⟨Runs.here S fun E Q k=>call_isinstance (isinstance_false_str (by decide) bG sub_str_tuple) (k _ _ (.bool _) rfl rfl rfl)⟩
 | .none=>⟨Runs.here S fun E Q k=>call_isinstance (isinstance_false_none (by decide) bG fQ) (k _ _ (.bool _) rfl rfl rfl)⟩
 | .lst t nn rr=>⟨Runs.here S fun E Q k=>call_isinstance (isinstance_false_list (by decide) bG sub_list_tuple) ⟨ay t fun o a b _=>⟨o,a,b⟩,k _ _ (.bool _) rfl rfl rfl⟩⟩
 | .ref _=>by cases hr
end
end Mini.Internal
end
section
set_option autoImplicit false
namespace Mini.Internal
open PySem PySem.Calls PyProof.Rows
noncomputable abbrev r9 (f0:Value) (b:Bool) (TI TO:Addr):Obj:={ cls:=.type "zip",dict:=none,data:=.fields #[f0,.bool b,.bool false,.ref TI,.ref TO],slots:=#[] }
noncomputable abbrev qh (f0:Value) (b:Bool) (it:Addr) (i:Int) (old:Value):Obj:={ cls:=.type "enumerate",dict:=none,data:=.fields #[f0,.bool b,.ref it,rawInt i,.none,old],slots:=#[] }
noncomputable abbrev eB (xs:Array Value):Obj:={ cls:=.type "tuple",data:=.seq xs }
noncomputable def F0 (h:Heap) (f:Value):Prop:=f=.none∨∃ T:Addr,f=rawInt T∧∃ o,h.get? T=some o
structure ZI where
 i:Addr
 l:Addr
 xs:Array Value
 c:Nat
structure ZAt (h:Heap) (t:ZI) (d:Nat):Prop where
 it:h.IsListIter t.i t.l (t.c + d)
 ls:h.IsList t.l t.xs
section
variable {prog:Program} {w:World} {A:Around} {E:Value→Shared→Prop} {s:Shared}
theorem eS:Value.type "zip"≠.type "list_iterator" := by decide
theorem k6:Value.type "zip"≠.type "list" := by decide
theorem gf:Value.type "tuple"≠.type "list_iterator" := by decide
theorem mT:Value.type "tuple"≠.type "list" := by decide
theorem eR:Value.type "zip"≠.type "tuple" := by decide
theorem r8 {M:Model} {a:Addr} {Q:Option Obj→Shared→Prop} (h:Q (s.heap.get? a) s):wpAny M A (loadIfAlive a) Q E s:=fun Γ p _=>by
 show Sem.wp M Γ (.loadIfAlive a .pure) _ _ p s
 rw [Sem.wp_loadIfAlive];exact h
theorem dY {z:Addr} {f0:Value} {b:Bool} {c:Value} {rest:List Value} {Q:Bool→Shared→Prop} (hz:s.heap.get? z=some { cls:=c,dict:=none,data:=.fields (f0 :: .bool b :: rest).toArray,slots:=#[] }) (hf:F0 s.heap f0)
  (h1:f0=.none→Q true s) (h2:∀ h' b',h'.get? z=some { cls:=c,dict:=none,data:=.fields (f0 :: .bool b' :: rest).toArray,slots:=#[] }→Heap.SameBut z s.heap h'→Q false { s with heap:=h' }) :
  wpAny (model prog w) A (Builtin.SmallTypes.ownedTupleIsFree (.ref z)) Q E s:=by
 unfold Builtin.SmallTypes.ownedTupleIsFree
 rcases hf with rfl | ⟨T,rfl,o,ho⟩
 ·exact wpAny_bind (wpAny_field hz rfl (x:=.none) (by simp) (wpAny_pure (h1 rfl)))
 ·refine wpAny_bind (wpAny_field hz rfl (x:=rawInt T) (by simp) ?_)
  show wpAny _ _ (loadIfAlive ((T:Int).toNat)>>=_) _ _ _
  refine wpAny_bind (r8 ?_)
  rw [Int.toNat_natCast,ho]
  simp only [Option.isNone_some,Bool.false_eq_true,if_false]
  refine wpAny_bind (wpAny_field hz rfl (x:=.bool b) (by simp) ?_)
  cases b with
  | true =>
   rw [if_neg (by decide)]
   exact wpAny_pure (h2 s.heap true hz (Heap.SameBut.refl _ _))
  | false =>
   rw [if_pos (by decide)]
   refine wpAny_bind (wpAny_setField_rec hz (by simp) fun h' hz' hs=>wpAny_pure (h2 h' true ?_ hs))
   simpa using hz'
theorem ZAt.at {h h':Heap} {t:ZI} {d:Nat} (x:ZAt h t d) (ki:∀ o,h.get? t.i=some o→h'.get? t.i=some o) (kl:∀ o,h.get? t.l=some o→h'.get? t.l=some o):ZAt h' t d:=⟨x.it.at ki,x.ls.at kl⟩
theorem ZAt.ne_l {h:Heap} {t:ZI} {d:Nat} (x:ZAt h t d) {a:Addr} {o:Obj} (ho:h.get? a=some o) (hc:o.cls≠.type "list"):t.l≠a:=fun e=>by
 refine ay x.ls fun o' h1 h2 _=>?_
 rw [e,ho] at h1;cases h1;exact hc h2
theorem ZAt.ne_i {h:Heap} {t:ZI} {d:Nat} (x:ZAt h t d) {a:Addr} {o:Obj} (ho:h.get? a=some o) (hc:o.cls≠.type "list_iterator"):t.i≠a:=fun e=>by
 refine ay x.it fun o' h1 h2 _=>?_
 rw [e,ho] at h1;cases h1;exact hc h2
theorem ZAt.ne_il {h:Heap} {t u:ZI} {d e:Nat} (x:ZAt h t d) (y:ZAt h u e):t.l≠u.i:=by
 refine ay y.it fun o h1 h2 _=>?_
 exact x.ne_l h1 (by rw [h2];decide)
theorem tn {its:List ZI} {h h₂:Heap} {j:Nat} {t:ZI} (nd:(its.map (·.i)).Nodup) (ht:its[j]?=some t) (Z:∀ k u,its[k]?=some u→ZAt h u (if k < j then 1 else 0)) (h2:h₂.IsListIter t.i t.l (t.c + 1)) (hs:Heap.SameBut t.i h h₂) :
  ∀ k u,its[k]?=some u→ZAt h₂ u (if k < j + 1 then 1 else 0):=by
 intro k u hu
 have Zt:=Z j t ht
 have Zu:=Z k u hu
 have kl:∀ o,h.get? u.l=some o→h₂.get? u.l=some o:=fun o e=>(hs.2 _ (Zu.ne_il Zt)).trans e
 by_cases hk:k=j
 ·rw [hk] at hu ⊢
  cases ht.symm.trans hu
  rw [if_pos (Nat.lt_succ_self j)]
  exact ⟨h2,Zu.ls.at kl⟩
 ·have hne:u.i≠t.i:=fun e=>hk (by
   have h1:(its.map (·.i))[k]?=some u.i:=by rw [List.getElem?_map,hu];rfl
   have h2:(its.map (·.i))[j]?=some u.i:=by rw [List.getElem?_map,ht,e];rfl
   exact (List.getElem?_inj (List.getElem?_eq_some_iff.mp h1).1 nd).mp (h1.trans h2.symm))
  have e:(if k < j + 1 then 1 else 0)=if k < j then 1 else 0:=by
   by_cases q:k < j
   ·rw [if_pos q,if_pos (Nat.lt_succ_of_lt q)]
   ·rw [if_neg q,if_neg (by lia)]
  rw [e]
  exact Zu.at (fun o e=>(hs.2 _ hne).trans e) kl
theorem vB {l:List ZI} {j:Nat} {x:Value×Nat} (h:(l.map fun t=>Value.ref t.i).zipIdx[j]?=some x):∃ t,l[j]?=some t∧x=(.ref t.i,j):=by
 rw [List.getElem?_zipIdx,List.getElem?_map] at h
 exact msE h fun v hv e=>msE hv fun t ht e'=>⟨t,ht,e▸e'▸congrArg (Prod.mk (Value.ref t.i)) (Nat.zero_add j)⟩
theorem qA {arr:Array Value} {vals:List Value} {j:Nat} {x:Value} (ha:arr.toList.take j=vals.take j) (hj:j < arr.size) (hv:vals[j]?=some x):(arr.setIfInBounds j x).toList.take (j + 1)=vals.take (j + 1):=by
 rw [Array.toList_setIfInBounds,List.take_add_one,List.take_set_of_le (Nat.le_refl j),ha,List.getElem?_set_self (by rw [Array.length_toList];exact hj),List.take_add_one,hv]
structure ZipAt (h:Heap) (z TI TO:Addr) (its:List ZI) (d:Nat):Prop where
 obj:∃ f0 b,h.get? z=some (r9 f0 b TI TO)∧F0 h f0
 ti:h.IsTuple TI (its.map fun t=>Value.ref t.i).toArray
 to:∃ arr:Array Value,arr.size=its.length∧h.get? TO=some (eB arr)
 its:∀ t∈its,ZAt h t d
structure ZK (h0 h':Heap) (z TI TO:Addr) (its:List ZI) (f0:Value) (b:Bool) (arr:Array Value) (j:Nat):Prop where
 obj:h'.get? z=some (r9 f0 b TI TO)
 to:h'.get? TO=some (eB arr)
 sz:arr.size=its.length
 ia:∀ k t,its[k]?=some t→ZAt h' t (if k < j then 1 else 0)
 ik:∀ c o,c≠z→c≠TO→(∀ t∈its,c≠t.i)→h0.get? c=some o→h'.get? c=some o
section
variable {h0 h' h₂:Heap} {z TI TO:Addr} {its:List ZI} {f0:Value} {b:Bool} {arr:Array Value} {j:Nat}
theorem ZipAt.tz (Z:ZipAt h0 z TI TO its 0) (hz:h0.get? z=some (r9 f0 b TI TO)):TI≠z∧TO≠z :=
 ⟨fun e=>t5 Z.ti fun o h1 h2 _ _=>eR ((congrArg Obj.cls (Option.some.inj (hz.symm.trans (e▸h1)))).trans h2),fun e=>ae Z.to fun o _ h1=>eR (congrArg Obj.cls (Option.some.inj (hz.symm.trans (e▸h1))))⟩
theorem ZK.start (Z:ZipAt h0 z TI TO its 0) {f1:Value} {b1:Bool} (hz:h0.get? z=some (r9 f1 b1 TI TO)) (hs:Heap.SameBut z h0 h') (h1:h'.get? z=some (r9 f0 b TI TO)) (ht:h0.get? TO=some (eB arr)) (hl:arr.size=its.length):ZK h0 h' z TI TO its f0 b arr 0 :=
 ⟨h1,(hs.2 _ (Z.tz hz).2).trans ht,hl,fun k t e=>(Z.its t (List.mem_of_getElem? e)).at (fun o q=>(hs.2 _ ((Z.its t (List.mem_of_getElem? e)).ne_i hz eS)).trans q) fun o q=>(hs.2 _ ((Z.its t (List.mem_of_getElem? e)).ne_l hz k6)).trans q,fun c o n1 _ _ q=>(hs.2 _ n1).trans q⟩
theorem ZK.step (L:ZK h0 h' z TI TO its f0 b arr j) (nd:(its.map (·.i)).Nodup) {t:ZI} (ht:its[j]?=some t) (h2:h₂.IsListIter t.i t.l (t.c + 1)) (hs:Heap.SameBut t.i h' h₂):ZK h0 h₂ z TI TO its f0 b arr (j + 1) :=
 ⟨(hs.2 _ ((L.ia j t ht).ne_i L.obj eS).symm).trans L.obj,(hs.2 _ ((L.ia j t ht).ne_i L.to gf).symm).trans L.to,L.sz,tn nd ht L.ia h2 hs,fun c o n1 n2 n3 q=>(hs.2 _ (n3 t (List.mem_of_getElem? ht))).trans (L.ik c o n1 n2 n3 q)⟩
theorem ZK.put (L:ZK h0 h' z TI TO its f0 b arr j) (nz:TO≠z) (k:Nat) (x:Value):ZK h0 (h'.update TO (Obj.mapSeq (·.setIfInBounds k x))) z TI TO its f0 b (arr.setIfInBounds k x) j :=
 have hs:=Heap.SameBut.update h' TO (Obj.mapSeq (·.setIfInBounds k x))
 ⟨(hs.2 _ nz.symm).trans L.obj,by rw [Heap.get?_update_self _ L.to rfl];simp [Obj.mapSeq],by rw [Array.size_setIfInBounds,L.sz],fun k u hu=>(L.ia k u hu).at (fun o q=>(hs.2 _ ((L.ia k u hu).ne_i L.to gf)).trans q) fun o q=>(hs.2 _ ((L.ia k u hu).ne_l L.to mT)).trans q,fun c o n1 n2 n3 q=>(hs.2 _ n2).trans (L.ik c o n1 n2 n3 q)⟩
theorem ZK.new (L:ZK h0 h' z TI TO its f0 b arr j):h0.get? h'.objs.size=none:=by
 have ne:∀ {a:Addr} {o:Obj},h'.get? a=some o→h'.objs.size≠a:=fun ho e=>nn ((ai h').symm.trans (e▸ho))
 cases e:h0.get? h'.objs.size with
 | none=>rfl
 | some o=>exact nn ((ai h').symm.trans (L.ik _ o (ne L.obj) (ne L.to) (fun t m=>(List.mem_iff_getElem?.mp m).elim fun k hk=>(L.ia k t hk).it.elim fun o h=>ne h.1) e))
theorem ZK.fin (L:ZK h0 h' z TI TO its f0 b arr its.length) (Z:ZipAt h0 z TI TO its 0) {f1:Value} {b1:Bool} (hz0:h0.get? z=some (r9 f1 b1 TI TO)) (hd:TI≠TO) (up:∀ c o,c≠z→h'.get? c=some o→h₂.get? c=some o) {f2:Value} {b2:Bool} (hz:h₂.get? z=some (r9 f2 b2 TI TO)) (hf:F0 h₂ f2):ZipAt h₂ z TI TO its 1 :=
 ⟨⟨_,_,hz,hf⟩,t5 Z.ti fun o h1 h2 n h3=>⟨o,up _ _ (Z.tz hz0).1 (L.ik _ _ (Z.tz hz0).1 hd (fun t m e=>(Z.its t m).ne_i h1 (h2▸gf) e.symm) h1),h2,n,h3⟩,⟨arr,L.sz,up _ _ (Z.tz hz0).2 L.to⟩,fun t m=>(List.mem_iff_getElem?.mp m).elim fun k hk=>by
  have:=L.ia k t hk
  rw [if_pos (List.getElem?_eq_some_iff.mp hk).1] at this
  exact this.at (fun o e=>up _ o (this.ne_i L.obj eS) e) (fun o e=>up _ o (this.ne_l L.obj k6) e)⟩
theorem F0.at {h h':Heap} {f:Value} (x:F0 h f) (k:∀ c o,h.get? c=some o→∃ o',h'.get? c=some o'):F0 h' f:=x.imp id fun x=>x.imp fun T x=>⟨x.1,x.2.elim fun o e=>k T o e⟩
theorem c4 {a:Addr} {h h':Heap} (hs:Heap.SameBut a h h') {o:Obj} (ha:h'.get? a=some o):∀ c o,h.get? c=some o→∃ o',h'.get? c=some o':=fun c o' e=>by
 by_cases q:c=a
 ·exact ⟨o,q▸ha⟩
 ·exact ⟨o',(hs.2 c q).trans e⟩
end
theorem qm {z TI TO:Addr} {its:List ZI} {vals:List Value} {Q:Value→Shared→Prop} (Z:ZipAt s.heap z TI TO its 0) (hd:TI≠TO) (hne:its≠[]) (hl:its.length≤20) (nd:(its.map (·.i)).Nodup) (hv:vals.length=its.length) (hx:∀ (k:Nat) (t:ZI),its[k]?=some t→t.xs[t.c]?=vals[k]?)
  (hQ:∀ h' T,s.heap.get? T=none→ZipAt h' z TI TO its 1→h'.get? T=some (eB vals.toArray)→(∀ c o,c≠z→c≠TO→(∀ t∈its,c≠t.i)→s.heap.get? c=some o→h'.get? c=some o)→Q (.ref T) { s with heap:=h' }) :
  wpAny (model prog w) A (Builtin.«zip.__next__» ⟨[.ref z],[]⟩) (fun fin s'=>∃ v,fin=.done (.ret v)∧Q v s') E s:=by
 refine aX Z.obj fun f0 b hz hf=>ae Z.to fun arr harr hTO=>t5 Z.ti fun oTI hTI hcTI nTI hdTI=>?_
 have zTO:=(Z.tz hz).2
 have hval:∀ {j:Nat} {t:ZI},its[j]?=some t→∃ x,t.xs[t.c]?=some x∧vals[j]?=some x:=fun {j t} e =>
  have hj:j < vals.length:=hv▸(List.getElem?_eq_some_iff.mp e).1
  ⟨_,(hx j t e).trans (List.getElem?_eq_getElem hj),List.getElem?_eq_getElem hj⟩
 have sz:its.length≤sizeLine:=by rw [af];exact Nat.le_trans hl (by decide)
 show wpAny _ _ (field (.ref z) 2>>=_) _ _ _
 refine wpAny_bind (wpAny_field hz rfl (x:=.bool false) rfl ?_)
 show wpAny _ _ (field (.ref z) 3>>=_) _ _ _
 refine wpAny_bind (wpAny_field hz rfl (x:=.ref TI) rfl (wpAny_bind (wpAny_seqItems hTI hdTI (aU (by induction its using List.casesOn with | nil=>exact absurd rfl hne | cons _ _=>exact Bool.false_ne_true) ?_))))
 refine wpAny_bind (dY hz hf (fun e=>dU rfl ?_) fun h₁ b' hz₁ hs₁=>aU Bool.false_ne_true ?_)
 ·rw [e] at hz
  refine wpAny_bind (wpAny_rule (wpAny_bind (wpAny_field hz rfl (x:=.ref TO) rfl (wpAny_bind (wpAny_setField_rec hz (by simp) fun h₁ hz₁ hs₁=>wb fun R hR=>?_)))))
  refine mK _ (fun j bb s'=>∃ h' arr',s'={ s with heap:=h' }∧bb=(none,())∧arr'.toList.take j=vals.take j∧ZK s.heap h' z TI TO its .ellipsis b arr' j) (fun j x bb s' R' hx hI hy _=>?_) (fun bb s' hI=>?_) ⟨h₁,arr,rfl,rfl,rfl,.start Z hz hs₁ hz₁ hTO harr⟩
  ·refine iY hI fun h' arr' e1 e2 ha L=>ae (vB hx) fun t ht ex=>ae (hval ht) fun v hv1 hv2=>?_
   rw [e1,ex]
   have Zt:=L.ia j t ht
   rw [if_neg (Nat.lt_irrefl j)] at Zt
   refine wpAny_bind (wpAny_onRaise ?_)
   show wpAny _ _ (Builtin.SmallTypes.nextOf (.ref t.i)>>=_) _ _ _
   refine wpAny_bind (wpAny_nextOf_list_item Zt.it Zt.ls hv1 fun h₂ h2 hs₂=>wpAny_pure ?_)
   have L2:=L.step nd ht h2 hs₂
   exact wpAny_bind (wpAny_seqItems L2.to rfl (wpAny_bind (wpAny_updateSeq L2.to rfl (wpAny_bind (wpAny_letGo (wpAny_pure (hy _ _ ⟨_,_,rfl,rfl,qA ha (L.sz▸(List.getElem?_eq_some_iff.mp ht).1) hv2,L2.put zTO j v⟩)))) (L.sz▸sz) (by rw [Array.size_setIfInBounds,L.sz];exact Nat.le_succ_of_le sz))))
  ·refine iY hI fun h' arr' e1 e2 ha L=>?_
   have hn:((its.map fun t=>Value.ref t.i).zipIdx).length=its.length:=by rw [List.length_zipIdx,List.length_map]
   rw [show (_:List _).length=its.length from hn] at ha L
   have hall:arr'.toList=vals:=by
    rw [List.take_of_length_le (by rw [Array.length_toList,L.sz];exact Nat.le_refl _),List.take_of_length_le (by rw [hv];exact Nat.le_refl _)] at ha
    exact ha
   rw [e1,e2]
   refine hR _ _ (wpAny_bind (wpAny_seqItems L.to rfl (wpAny_bind (wpAny_newTuple ?_ (by rw [Array.length_toList,L.sz];exact sz)))))
   have zT:h'.objs.size≠z:=fun e=>nn ((ai h').symm.trans (e▸L.obj))
   refine wpAny_bind (wpAny_bind (wpAny_setField_rec (Heap.get?_push_of_some _ L.obj) (by simp) fun h₇ hz₇ hs₇=>wpAny_setField_rec hz₇ (by simp) fun h₈ hz₈ hs₈=>?_))
   have up:∀ c o,c≠z→(h'.push (eB arr'.toList.toArray)).get? c=some o→h₈.get? c=some o:=fun c o c1 e=>(hs₈.2 _ c1).trans ((hs₇.2 _ c1).trans e)
   have gT:=up _ _ zT (Heap.get?_push_size _ rfl)
   exact wpAny_pure ⟨_,rfl,hQ h₈ h'.objs.size L.new (L.fin Z hz hd (fun c o c1 e=>up c o c1 (Heap.get?_push_of_some _ e)) hz₈ (.inr ⟨_,rfl,_,gT⟩)) (hall▸gT) fun c o n1 n2 n3 q=>up c o n1 (Heap.get?_push_of_some _ (L.ik c o n1 n2 n3 q))⟩
 ·refine wb fun R hR=>?_
  rw [← Array.forIn_toList]
  refine mK _ (fun j bb s'=>∃ h' vs,s'={ s with heap:=h' }∧bb=(none,vs)∧(vs:Array Value).toList=vals.take j∧F0 h' f0∧ZK s.heap h' z TI TO its f0 b' arr j) (fun j x bb s' R' hx hI hy _=>?_) (fun bb s' hI=>?_) ⟨h₁,#[],rfl,rfl,rfl,hf.at (c4 hs₁ hz₁),.start Z hz hs₁ hz₁ hTO harr⟩
  ·refine yy hI fun h' vs e1 e2 ha hf' L=>?_
   rw [show (_:List _)[j]?=(its[j]?).map _ from List.getElem?_map ..] at hx
   refine msE hx fun t ht ex=>ae (hval ht) fun v hv1 hv2=>?_
   rw [e1,e2,← ex]
   have Zt:=L.ia j t ht
   rw [if_neg (Nat.lt_irrefl j)] at Zt
   refine wpAny_bind (wpAny_holding ?_)
   show wpAny _ _ (Builtin.SmallTypes.nextOf (.ref t.i)>>=_) _ _ _
   refine wpAny_bind (wpAny_nextOf_list_item Zt.it Zt.ls hv1 fun h₂ h2 hs₂=>wpAny_pure (wpAny_pure (hy _ _ ⟨h₂,vs.push v,rfl,rfl,?_,?_,L.step nd ht h2 hs₂⟩)))
   ·rw [Array.toList_push,ha,List.take_add_one,hv2];rfl
   ·exact hf'.at (h2.elim fun o h=>c4 hs₂ h.1)
  ·refine yy hI fun h' vs e1 e2 ha hf' L=>?_
   have hn:(its.map fun t=>Value.ref t.i).length=its.length:=List.length_map ..
   rw [show (_:List _).length=its.length from hn] at ha L
   rw [List.take_of_length_le (by rw [hv];exact Nat.le_refl _)] at ha
   rw [e1,e2]
   refine hR _ _ (wpAny_bind (wpAny_newTuple ?_ (by rw [ha,hv];exact sz)))
   have up:∀ c o,c≠z→h'.get? c=some o→(h'.push (eB vs.toList.toArray)).get? c=some o:=fun c o _ e=>Heap.get?_push_of_some _ e
   exact wpAny_pure ⟨_,rfl,hQ _ h'.objs.size L.new (L.fin Z hz hd up (Heap.get?_push_of_some _ L.obj) (hf'.at fun c o e=>⟨o,Heap.get?_push_of_some _ e⟩)) (ha▸Heap.get?_push_size _ rfl) fun c o n1 n2 n3 q=>up c o n1 (L.ik c o n1 n2 n3 q)⟩
end
section
variable {prog:Program} {w:World} {A:Around} {E:Value→Shared→Prop} {s:Shared}
theorem ql:Value.type "zip"≠.type "StopIteration" := by decide
theorem jM {M:Model} {α β:Type} {x:α} {l:List α} {b:β} {f:α→β→Sem (ForInStep β)} {Q:β→Shared→Prop} (h:∀ R,wpAny M A (f x b) R E s):wpAny M A (forIn (x :: l) b f) Q E s:=by
 rw [List.forIn_cons];exact wpAny_bind (h _)
theorem mL {M:Model} {α β:Type} {x:α} {l:List α} {b:β} {f:α→β→Sem (ForInStep β)} {Q:β→Shared→Prop} (h:∀ R,wpAny M A (f x b) R E s):wpAny M A (forIn (x :: l).toArray b f) Q E s:=by
 rw [← Array.forIn_toList];exact jM h
theorem th {z TI TO:Addr} {its:List ZI} {Q:Fin→Shared→Prop} (hh:A.handled=none) (Z:ZipAt s.heap z TI TO its 0) (hne:its≠[]) (hx:∀ t∈its,t.xs[t.c]?=none)
  (hE:∀ h' e,(∀ c o,c≠z→(∀ t∈its,c≠t.i)→s.heap.get? c=some o→h'.get? c=some o)→(∃ o,h'.get? e=some o∧o.cls=.type "StopIteration")→E (.ref e) { s with heap:=h' }) :
  wpAny (model prog w) A (Builtin.«zip.__next__» ⟨[.ref z],[]⟩) Q E s:=by
 refine aX Z.obj fun f0 b hz hf=>t5 Z.ti fun oTI hTI hcTI nTI hdTI=>?_
 induction its using List.casesOn with
 | nil=>exact absurd rfl hne
 | cons t its =>
 have Zt:=Z.its t (.head _)
 have stop:∀ {h₁:Heap} {f:Value} {b':Bool},h₁.get? z=some (r9 f b' TI TO)→Heap.SameBut z s.heap h₁→h₁.IsListIter t.i t.l (t.c + 0)∧h₁.IsList t.l t.xs:=fun hz₁ hs₁ =>
  ⟨Zt.it.at fun o e=>(hs₁.2 _ (Zt.ne_i hz eS)).trans e,Zt.ls.at fun o e=>(hs₁.2 _ (Zt.ne_l hz k6)).trans e⟩
 show wpAny _ _ (field (.ref z) 2>>=_) _ _ _
 refine wpAny_bind (wpAny_field hz rfl (x:=.bool false) rfl ?_)
 show wpAny _ _ (field (.ref z) 3>>=_) _ _ _
 refine wpAny_bind (wpAny_field hz rfl (x:=.ref TI) rfl (wpAny_bind (wpAny_seqItems hTI hdTI (aU Bool.false_ne_true ?_))))
 refine wpAny_bind (dY hz hf (fun e=>dU rfl ?_) fun h₁ b' hz₁ hs₁=>aU Bool.false_ne_true ?_)
 ·rw [e] at hz
  refine wpAny_bind (wpAny_rule (wpAny_bind (wpAny_field hz rfl (x:=.ref TO) rfl (wpAny_bind (wpAny_setField_rec hz (by simp) fun h₁ hz₁ hs₁=>wpAny_bind (jM (x:=(Value.ref t.i,0)) fun R=>wpAny_bind (wpAny_onRaise ?_)))))))
  have X:=stop (f:=.ellipsis) (b':=b) hz₁ hs₁
  show wpAny _ _ (Builtin.SmallTypes.nextOf (.ref t.i)>>=_) _ _ _
  refine wpAny_bind (wpAny_nextOf_list_end hh X.1 X.2 (hx t (.head _)) fun h₂ e hs₂ he=>ae he fun oe hoe hce=>?_)
  have hz₂:=hs₂ _ _ (fun e=>Zt.ne_i hz eS e.symm) hz₁
  have hez:e≠z:=fun x=>ql ((congrArg Obj.cls (Option.some.inj (hz₂.symm.trans (x▸hoe)))).trans hce)
  exact wpAny_setField_rec hz₂ (by simp) fun h₃ _ hs₃=>hE h₃ e (fun c o c1 c3 x=>(hs₃.2 _ c1).trans (hs₂ _ _ (c3 t (.head _)) ((hs₁.2 _ c1).trans x))) ⟨oe,(hs₃.2 _ hez).trans hoe,hce⟩
 ·have X:=stop (f:=f0) (b':=b') hz₁ hs₁
  refine wpAny_bind (mL fun R=>wpAny_bind (wpAny_holding ?_))
  show wpAny _ _ (Builtin.SmallTypes.nextOf (.ref t.i)>>=_) _ _ _
  exact wpAny_bind (wpAny_nextOf_list_end hh X.1 X.2 (hx t (.head _)) fun h₂ e hs₂ he=>hE h₂ e (fun c o c1 c3 x=>hs₂ _ _ (c3 t (.head _)) ((hs₁.2 _ c1).trans x)) he)
theorem gh {z TI TO:Addr} {its:List ZI} {vals:List Value} {Q:Option Value→Shared→Prop} (Z:ZipAt s.heap z TI TO its 0) (hd:TI≠TO) (hne:its≠[]) (hl:its.length≤20) (nd:(its.map (·.i)).Nodup) (hv:vals.length=its.length) (hx:∀ (k:Nat) (t:ZI),its[k]?=some t→t.xs[t.c]?=vals[k]?)
  (hQ:∀ h' T,s.heap.get? T=none→ZipAt h' z TI TO its 1→h'.get? T=some (eB vals.toArray)→(∀ c o,c≠z→c≠TO→(∀ t∈its,c≠t.i)→s.heap.get? c=some o→h'.get? c=some o)→Q (some (.ref T)) { s with heap:=h' }) :
  wpAny (model prog w) A (pyNext (.ref z)) Q E s:=by
 have hT:s.TypeIs (.ref z) "zip" := Z.obj.elim fun _ h=>h.elim fun _ h=>⟨_,h.1,rfl⟩
 unfold pyNext
 exact wpAny_bind (wpAny_attempt (wpAny_callSpecial?_slot (name:=Str.ofString "__next__") hT F.slot_zip_next
  (wpAny_call_entry F.slot_zip_next hT F.entry_zip_next (qm Z hd hne hl nd hv hx fun h' T a1 a2 a3 a4=>wpAny_pure (hQ h' T a1 a2 a3 a4)) (F.args_zip_next_1 _))))
theorem di {z TI TO:Addr} {its:List ZI} {Q:Option Value→Shared→Prop} (hh:A.handled=none) (Z:ZipAt s.heap z TI TO its 0) (hne:its≠[]) (hx:∀ t∈its,t.xs[t.c]?=none)
  (hQ:∀ h',(∀ c o,c≠z→(∀ t∈its,c≠t.i)→s.heap.get? c=some o→h'.get? c=some o)→Q none { s with heap:=h' }):wpAny (model prog w) A (pyNext (.ref z)) Q E s:=by
 have hT:s.TypeIs (.ref z) "zip" := Z.obj.elim fun _ h=>h.elim fun _ h=>⟨_,h.1,rfl⟩
 unfold pyNext
 refine wpAny_bind (wpAny_attempt (wpAny_callSpecial?_slot (name:=Str.ofString "__next__") hT F.slot_zip_next
  (wpAny_call_entry F.slot_zip_next hT F.entry_zip_next (th hh Z hne hx fun h' e hk he=>?_) (F.args_zip_next_1 _))))
 refine ae he fun o ho hc=>?_
 refine wpAny_bind (wpAny_isInstance (T:="StopIteration") (b:=true) ⟨o,ho,hc⟩ isSubtype_stop ?_)
 exact wpAny_pure (hQ _ hk)
theorem gi {z TI TO:Addr} {its:List ZI} {d:Nat} {Q:Value→Shared→Prop} (Z:ZipAt s.heap z TI TO its d) (h:Q (.ref z) s):wpAny (model prog w) A (pyIter (.ref z)) Q E s :=
 Z.obj.elim fun _ x=>x.elim fun _ x=>by
  have hT:s.TypeIs (.ref z) "zip" := ⟨_,x.1,rfl⟩
  refine wpAny_pyIter_slot hT F.slot_zip_iter (wpAny_call_entry F.slot_zip_iter hT F.entry_zip_iter ?_ (F.args_zip_iter_1 _))
  show wpAny _ _ (ret (.ref z)) _ _ s
  exact wpAny_pure ⟨_,rfl,"zip",_,hT,F.slot_zip_next.lookup,h⟩
theorem sI {t:Expr} {v:Value} {z:Addr} {f0:Value} {b:Bool} {nn:String} {rest:List Value} {Q:Unit→Shared→Prop} (hz:s.heap.get? z=some { cls:=.type nn,dict:=none,data:=.fields (f0 :: .bool b :: rest).toArray,slots:=#[] })
  (h1:Q () s) (h2:∀ h',h'.get? z=some { cls:=.type nn,dict:=none,data:=.fields (.none :: .bool b :: rest).toArray,slots:=#[] }→Heap.SameBut z s.heap h'→Q () { s with heap:=h' }):wpAny (model prog w) A (letOwnedTupleGo t (.ref z) v) Q E s:=by
 have body:∀ y:Addr,wpAny (model prog w) A (do
   let o ← load z
   match o.cls,o.data with
   | .type n,.fields vs =>
    if ["enumerate","zip","dict_itemiterator","dict_reverseitemiterator","odict_iterator","itertools.zip_longest","itertools.pairwise"].contains n&&vs[0]?==some (rawInt y) then
     rule "for.unpacks-the-owned-tuple"
     updateField z 0 .none
   | _,_=>pure ()) Q E s:=fun y=>by
  refine wpAny_bind (wpAny_load hz ?_)
  dsimp only
  split
  ·refine wpAny_bind (wpAny_rule ?_)
   show wpAny _ _ (setField (.ref z) 0 .none) Q E s
   exact wpAny_setField_rec hz (by simp) fun h' hz' hs'=>h2 h' (by simpa using hz') hs'
  ·exact wpAny_pure h1
 unfold letOwnedTupleGo
 induction t using PySem.Expr.casesOn<;>first | exact wpAny_pure h1 | (induction v using PySem.Value.casesOn<;>first | exact wpAny_pure h1 | exact body _)
theorem rB {ls:List (Addr×Array Value)}:∀ {s:Shared} {acc:Array Value} {Q:Array Value→Shared→Prop} {f:Value→Array Value→Sem (ForInStep (Array Value))},
  (∀ x acc,f x acc=(do let y ← holding acc.toList (pyIter x);pure (.yield (acc.push y))))→(∀ p∈ls,s.heap.IsList p.1 p.2) →
  (∀ (h':Heap) (its:List ZI),its.map (fun t=>(t.l,t.xs,t.c))=ls.map (fun p=>(p.1,p.2,0))→(∀ t∈its,ZAt h' t 0)→(its.map (·.i)).Nodup→(∀ t∈its,s.heap.get? t.i=none)→(∀ c o,s.heap.get? c=some o→h'.get? c=some o) →
   Q (acc++(its.map fun t=>Value.ref t.i).toArray) { s with heap:=h' })→wpAny (model prog w) A (forIn (ls.map fun p=>Value.ref p.1) acc f) Q E s:=by
 induction ls with
 | nil =>
  intro s acc Q f hf _ hQ
  rw [List.map_nil,List.forIn_nil]
  have:=hQ s.heap [] rfl (by simp) (by simp) (by simp) (fun _ _ e=>e)
  exact wpAny_pure (by simpa using this)
 | cons p ls ih =>
  intro s acc Q f hf hl hQ
  rw [List.map_cons,List.forIn_cons,hf]
  have hp:=hl p (.head _)
  refine wpAny_bind (wpAny_bind (wpAny_holding (wpAny_pyIter_list hp (wpAny_pure ?_))))
  dsimp only
  have up:∀ c o,s.heap.get? c=some o→(s.heap.push { cls:=.type "list_iterator",data:=.fields #[.ref p.1,.int 0 0] }).get? c=some o:=fun c o e=>Heap.get?_push_of_some _ e
  refine ih (s:={ s with heap:=s.heap.push { cls:=.type "list_iterator",data:=.fields #[.ref p.1,.int 0 0] } }) hf (fun q hq=>(hl q (.tail _ hq)).at (up _)) fun h' its e1 e2 e3 e4 e5=>?_
  have hi:(s.heap.push { cls:=.type "list_iterator",data:=.fields #[.ref p.1,.int 0 0] }).get? s.heap.objs.size=some { cls:=.type "list_iterator",data:=.fields #[.ref p.1,.int 0 0] }:=Heap.get?_push_size _ rfl
  have key:=hQ h' (⟨s.heap.objs.size,p.1,p.2,0⟩ :: its) (by rw [List.map_cons,List.map_cons,e1]) (fun t m=>by
   rcases List.mem_cons.mp m with rfl | m
   ·exact ⟨⟨_,e5 _ _ hi,rfl,rfl⟩,(hp.at (up _)).at (e5 _)⟩
   ·exact e2 t m) (by
   rw [List.map_cons,List.nodup_cons]
   refine ⟨fun m=>?_,e3⟩
   refine ae (List.mem_map.mp m) fun t ht e=>?_
   have:=e4 t ht
   rw [e,hi] at this;cases this) (fun t m=>by
   rcases List.mem_cons.mp m with rfl | m
   ·exact ai _
   ·cases e:s.heap.get? t.i with
    | none=>rfl
    | some o=>have:=e4 t m;rw [up _ _ e] at this;cases this) (fun c o e=>e5 c o (up c o e))
  simpa using key
theorem k7 (vs:List Value) (h:vs.length≤3):checkTypeCall "zip" ⟨vs,[]⟩=pure ()∧checkBuiltinCall "zip.__new__" ⟨.type "zip" :: vs,[]⟩=pure ()∧∀ obj,argsOk "object.__init__" ⟨obj :: vs,[]⟩:=by
 induction vs using List.casesOn with
 | nil=>exact ⟨by kernel_rfl,by kernel_rfl,fun o=>F.args_object_init_1 o⟩
 | cons a vs=>induction vs using List.casesOn with
  | nil=>exact ⟨by kernel_rfl,by kernel_rfl,fun o=>F.args_object_init_2 o a⟩
  | cons b vs=>induction vs using List.casesOn with
   | nil=>exact ⟨by kernel_rfl,by kernel_rfl,fun o=>F.args_object_init_3 o a b⟩
   | cons c vs=>induction vs using List.casesOn with
    | nil=>exact ⟨by kernel_rfl,by kernel_rfl,fun o=>by
      unfold argsOk;rw [signature?_of (id:="object.__init__") (n:=['_','_','t','i','n','i','_','_']) (o:=['t','c','e','j','b','o']) (by kernel_rfl) F.owner_object];kernel_rfl⟩
    | cons d vs=>exact absurd (Nat.le_of_succ_le_succ (Nat.le_of_succ_le_succ (Nat.le_of_succ_le_succ h))) (Nat.not_succ_le_zero _)
end
structure ZMade (h h':Heap) (z TI TO:Addr) (its:List ZI) (ls:List (Addr×Array Value)):Prop where
 at_:ZipAt h' z TI TO its 0
 ls:its.map (fun t=>(t.l,t.xs,t.c))=ls.map (fun p=>(p.1,p.2,0))
 nd:(its.map (·.i)).Nodup
 ne:TI≠TO
 new:h.get? z=none∧h.get? TI=none∧h.get? TO=none∧∀ t∈its,h.get? t.i=none
 keep:∀ c o,h.get? c=some o→h'.get? c=some o
section
theorem aB {h h':Heap} (k:∀ c o,h.get? c=some o→h'.get? c=some o) {c:Addr} (e:h'.get? c=none):h.get? c=none:=by
 cases q:h.get? c with
 | none=>rfl
 | some o=>rw [k c o q] at e;cases e
theorem oA (ls:List (Addr×Array Value)) (h20:ls.length≤20) :
  Meets (Builtin.«zip.__new__» ⟨.type "zip" :: ls.map (fun p=>Value.ref p.1),[]⟩) (fun _ R s=>(∀ p∈ls,s.heap.IsList p.1 p.2)∧∀ h' z TI TO its,ZMade s.heap h' z TI TO its ls→R (.ok (.ret (.ref z))) { s with heap:=h' }) :=
 .of_wp fun prog w A R s h=>by
  refine aw h fun hl hR=>?_
  refine wpAny_bind (wpAny_bind (m:=isType _) (wpAny_pure (aU (by decide) (wpAny_bind ?_))))
  rw [sub_zip]
  refine wpAny_pure (aU Bool.false_ne_true (wpAny_pure (aU (Nat.not_lt_zero 1) (wpAny_bind ?_))))
  refine wpAny_bind (rB (fun x acc=>rfl) hl fun h' its e1 e2 e3 e4 e5=>wpAny_pure ?_)
  have hlen:its.length=ls.length:=by have:=congrArg List.length e1;simpa using this
  refine wpAny_bind (wpAny_newTuple ?_ (by simp [af];lia))
  refine wpAny_bind (wpAny_newTuple ?_ (by simp [af];lia))
  unfold Builtin.SmallTypes.newRecord
  dsimp only
  refine wpAny_bind (wpAny_newObj_type ?_ (by show (Array.size _)≤_;simp [Builtin.SmallTypes.ownedTupleFields,af]))
  refine wpAny_pure ⟨_,rfl,?_⟩
  generalize hh1:h'.push _=h1
  generalize hh2:h1.push _=h2
  generalize hh3:h2.push _=h3
  have k1:∀ c o,h'.get? c=some o→h1.get? c=some o:=fun c o e=>hh1▸Heap.get?_push_of_some _ e
  have k2:∀ c o,h1.get? c=some o→h2.get? c=some o:=fun c o e=>hh2▸Heap.get?_push_of_some _ e
  have k3:∀ c o,h2.get? c=some o→h3.get? c=some o:=fun c o e=>hh3▸Heap.get?_push_of_some _ e
  have g1:h1.get? h'.objs.size=some _:=hh1▸Heap.get?_push_size _ rfl
  have g2:h2.get? h1.objs.size=some _:=hh2▸Heap.get?_push_size _ rfl
  have g3:h3.get? h2.objs.size=some _:=hh3▸Heap.get?_push_size _ rfl
  have n0:=ai h'
  have n1:=ai h1
  have n2:=ai h2
  have a1:=aB e5 n0
  have a2:=aB e5 (aB k1 n1)
  have a3:=aB e5 (aB k1 (aB k2 n2))
  refine hR h3 h2.objs.size h'.objs.size h1.objs.size its ⟨⟨⟨.none,false,g3,.inl rfl⟩,?_,⟨_,?_,k3 _ _ g2⟩,fun t m=>(e2 t m).at (fun o e=>k3 _ _ (k2 _ _ (k1 _ _ e))) (fun o e=>k3 _ _ (k2 _ _ (k1 _ _ e)))⟩,e1,e3,fun e=>?_,⟨a3,a1,a2,e4⟩,fun c o e=>k3 _ _ (k2 _ _ (k1 _ _ (e5 _ _ e)))⟩
  ·exact ⟨_,k3 _ _ (k2 _ _ g1),rfl,0,by simp⟩
  ·simp
  ·rw [e,n1] at g1;cases g1
end
section
variable {prog:Program} {w:World} {A:Around} {E:Value→Shared→Prop} {s:Shared}
theorem kR {ls:List (Addr×Array Value)} {Q:Value→Shared→Prop} (h3:ls.length≤3) (hl:∀ p∈ls,s.heap.IsList p.1 p.2) (k:∀ h' z TI TO its,ZMade s.heap h' z TI TO its ls→Q (.ref z) { s with heap:=h' }) :
  wpAny (model prog w) A (call (.type "zip") (ls.map fun p=>Value.ref p.1)) Q E s:=by
 refine du (k7 (ls.map fun p=>Value.ref p.1) (by simpa using h3)) fun c1 c2 c3=>?_
 refine callType_new F.called_zip (by decide) c1 c2 c3 F.entry_zip_new (oA ls (by lia)) ⟨hl,fun h' z TI TO its M=>?_⟩
 exact ⟨M.at_.obj.elim fun _ x=>x.elim fun _ x=>⟨_,x.1,rfl⟩,k h' z TI TO its M⟩
theorem lN {it t:Addr} {i:Nat} {items:Array Value} {x:Value} {Q:Value→Shared→Prop} (hit:s.heap.IsTupleIter it t i) (ht:s.heap.IsTuple t items) (hx:items[i]?=some x)
  (hQ:∀ h',h'.IsTupleIter it t (i + 1)→Heap.SameBut it s.heap h'→Q x { s with heap:=h' }):wpAny (model prog w) A (Builtin.SmallTypes.nextOf (.ref it)) Q E s:=by
 refine ay (id hit) fun o ho hc hd=>?_
 refine ay ht fun ol hol _ hh1_=>?_
 refine aG hh1_ fun nl hdl=>?_
 unfold Builtin.SmallTypes.nextOf
 refine wpAny_bind (wpAny_callSpecial?_slot (name:=Str.ofString "__next__") hit.typeIs F.slot_tuple_iterator_next
  (wpAny_call_entry F.slot_tuple_iterator_next hit.typeIs F.entry_tuple_iterator_next ?_ (F.args_tuple_iterator_next_1 _)))
 show wpAny _ _ (field (.ref it) 0>>=_) _ _ s
 refine wpAny_bind (wpAny_field ho hd (x:=.ref t) rfl (aU (show ¬ ((Value.ref t==Value.none)=true) from Bool.false_ne_true) ?_))
 show wpAny _ _ (field (.ref it) 1>>=_) _ _ s
 refine wpAny_bind (wpAny_field ho hd (x:=.int i 0) rfl (wpAny_bind (wpAny_seqItems hol hdl ?_)))
 dsimp only
 rw [show items[(i:Int).toNat]?=_ from hx]
 refine wpAny_bind (wpAny_setField ho hd (by simp) (wpAny_pure ⟨x,rfl,wpAny_pure (hQ _ ?_ (Heap.SameBut.update ..))⟩))
 exact ⟨_,Heap.get?_update_self _ ho (Obj.isFreed_of_fields (Obj.data_mapFields hd _)),(Obj.cls_mapFields ..).trans hc,by
  rw [Obj.data_mapFields hd];simp [rawInt]⟩
theorem fR {it t:Addr} {i:Nat} {items:Array Value} {Q:Value→Shared→Prop} (hh:A.handled=none) (hit:s.heap.IsTupleIter it t i) (ht:s.heap.IsTuple t items) (hx:items[i]?=none)
  (hE:∀ h' e,Heap.ExtBut it s.heap h'→(∃ o,h'.get? e=some o∧o.cls=.type "StopIteration")→E (.ref e) { s with heap:=h' }):wpAny (model prog w) A (Builtin.SmallTypes.nextOf (.ref it)) Q E s:=by
 refine ay (id hit) fun o ho hc hd=>?_
 refine ay ht fun ol hol _ hh2_=>?_
 refine aG hh2_ fun nl hdl=>?_
 unfold Builtin.SmallTypes.nextOf
 refine wpAny_bind (wpAny_callSpecial?_slot (name:=Str.ofString "__next__") hit.typeIs F.slot_tuple_iterator_next
  (wpAny_call_entry F.slot_tuple_iterator_next hit.typeIs F.entry_tuple_iterator_next ?_ (F.args_tuple_iterator_next_1 _)))
 show wpAny _ _ (field (.ref it) 0>>=_) _ _ s
 refine wpAny_bind (wpAny_field ho hd (x:=.ref t) rfl (aU (show ¬ ((Value.ref t==Value.none)=true) from Bool.false_ne_true) ?_))
 show wpAny _ _ (field (.ref it) 1>>=_) _ _ s
 refine wpAny_bind (wpAny_field ho hd (x:=.int i 0) rfl (wpAny_bind (wpAny_seqItems hol hdl ?_)))
 dsimp only
 rw [show items[(i:Int).toNat]?=_ from hx]
 refine wpAny_bind (wpAny_rule (wpAny_bind (wpAny_setField ho hd (by simp) ?_)))
 show wpAny _ _ (newExc (.type "StopIteration") []>>=_) _ _ _
 refine wpAny_bind ?_
 simp only [newExc,newTuple]
 refine wpAny_bind (wpAny_newObj_type ?_ (by size_fits))
 refine wpAny_bind (m:=firstArgMember _ _) (wpAny_of_eq (a:=Value.none) (by first | rfl | (simp only [firstArgMember];rfl)) ?_)
 refine wpAny_newObj_type ?_ (by size_fits)
 exact wpAny_raiseNew_none hh (hE _ _ (((Heap.SameBut.update ..).extBut.push _).push _) ⟨_,Heap.get?_push_size _ rfl,rfl⟩)
structure EnumAt (h:Heap) (e it t:Addr) (items:Array Value) (i:Nat):Prop where
 obj:∃ f0 b old,h.get? e=some (qh f0 b it (i:Int) old)∧F0 h f0
 it:h.IsTupleIter it t i
 tup:h.IsTuple t items
theorem pg:Value.type "enumerate"≠.type "tuple_iterator" := by decide
theorem rO:Value.type "enumerate"≠.type "tuple" := by decide
theorem vL:Value.type "tuple"≠.type "tuple_iterator" := by decide
structure EK (h0 h:Heap) (e it t:Addr) (items:Array Value) (k:Nat) (f0:Value) (b:Bool) (i:Int) (old:Value):Prop where
 obj:h.get? e=some (qh f0 b it i old)
 ti:h.IsTupleIter it t k
 tup:h.IsTuple t items
 f:F0 h f0
 ik:∀ c o,c≠e→c≠it→h0.get? c=some o→h.get? c=some o
section
variable {h0 h h':Heap} {e it t:Addr} {items:Array Value} {k:Nat} {f0 f1 old old1:Value} {b b1:Bool} {i i1:Int}
theorem EK.ne (L:EK h0 h e it t items k f0 b i old):it≠e∧t≠e∧t≠it :=
 L.ti.elim fun o h=>L.tup.elim fun o' h' =>
  ⟨fun q=>pg ((congrArg Obj.cls (Option.some.inj (L.obj.symm.trans (q▸h.1)))).trans h.2.1),fun q=>rO ((congrArg Obj.cls (Option.some.inj (L.obj.symm.trans (q▸h'.1)))).trans h'.2.1),
   fun q=>vL (h'.2.1.symm.trans ((congrArg Obj.cls (Option.some.inj (h'.1.symm.trans (q▸h.1)))).trans h.2.1))⟩
theorem EK.set (L:EK h0 h e it t items k f0 b i old) (he:h'.get? e=some (qh f1 b1 it i1 old1)) (hs:Heap.SameBut e h h') (hf:F0 h' f1):EK h0 h' e it t items k f1 b1 i1 old1 :=
 ⟨he,L.ti.elim fun o h=>⟨o,(hs.2 _ L.ne.1).trans h.1,h.2⟩,L.tup.elim fun o h=>⟨o,(hs.2 _ L.ne.2.1).trans h.1,h.2⟩,hf,fun c o n1 n2 q=>(hs.2 _ n1).trans (L.ik c o n1 n2 q)⟩
theorem EK.keep (L:EK h0 h e it t items k f0 b i old) (he:h'.get? e=some (qh f0 b1 it i1 old1)) (hs:Heap.SameBut e h h'):EK h0 h' e it t items k f0 b1 i1 old1:=L.set he hs (L.f.at (c4 hs he))
theorem EK.push (L:EK h0 h e it t items k f0 b i old) (x:Obj):EK h0 (h.push x) e it t items k f0 b i old :=
 have up:∀ c o,h.get? c=some o→(h.push x).get? c=some o:=fun c o q=>Heap.get?_push_of_some _ q
 ⟨up _ _ L.obj,L.ti.elim fun o h=>⟨o,up _ _ h.1,h.2⟩,L.tup.elim fun o h=>⟨o,up _ _ h.1,h.2⟩,L.f.at fun c o q=>⟨o,up c o q⟩,fun c o n1 n2 q=>up c o (L.ik c o n1 n2 q)⟩
theorem EK.new (L:EK h0 h e it t items k f0 b i old):h.objs.size≠e∧h0.get? h.objs.size=none:=by
 have ne:∀ {a:Addr} {o:Obj},h.get? a=some o→h.objs.size≠a:=fun ho e=>nn ((ai h).symm.trans (e▸ho))
 refine ⟨ne L.obj,?_⟩
 cases q:h0.get? h.objs.size with
 | none=>rfl
 | some o=>exact nn ((ai h).symm.trans (L.ik _ o (ne L.obj) (L.ti.elim fun o h=>ne h.1) q))
end
theorem ph {e it t:Addr} {items:Array Value} {i:Nat} {x:Value} {Q:Value→Shared→Prop} (Z:EnumAt s.heap e it t items i) (hx:items[i]?=some x)
  (hQ:∀ h' T tk,s.heap.get? T=none→EnumAt h' e it t items (i + 1)→h'.get? T=some (eB #[.int (i:Int) tk,x])→(∀ c o,c≠e→c≠it→s.heap.get? c=some o→h'.get? c=some o)→Q (.ref T) { s with heap:=h',toks:=s.toks + 1 }) :
  wpAny (model prog w) A (Builtin.«enumerate.__next__» ⟨[.ref e],[]⟩) (fun fin s'=>∃ v,fin=.done (.ret v)∧Q v s') E s:=by
 refine Z.obj.elim fun f0 h=>aX h fun b old he hf=>?_
 have L0:EK s.heap s.heap e it t items i f0 b i old:=⟨he,Z.it,Z.tup,hf,fun _ _ _ _ q=>q⟩
 show wpAny _ _ (field (.ref e) 2>>=_) _ _ _
 refine wpAny_bind (wpAny_field he rfl (x:=.ref it) rfl (wpAny_bind (lN Z.it Z.tup hx fun h₁ hit₁ hs₁=>?_)))
 have L1:EK s.heap h₁ e it t items (i + 1) f0 b i old:=⟨(hs₁.2 e L0.ne.1.symm).trans he,hit₁,Z.tup.elim fun o h=>⟨o,(hs₁.2 _ L0.ne.2.2).trans h.1,h.2⟩,hit₁.elim fun o h=>hf.at (c4 hs₁ h.1),fun c o _ n2 q=>(hs₁.2 _ n2).trans q⟩
 show wpAny _ _ (field (.ref e) 3>>=_) _ _ _
 refine wpAny_bind (wpAny_field L1.obj rfl (x:=rawInt i) rfl ?_)
 show wpAny _ _ (field (.ref e) 4>>=_) _ _ _
 refine wpAny_bind (wpAny_field L1.obj rfl (x:=.none) rfl ?_)
 show wpAny _ _ (mkInt i>>=_) _ _ _
 refine wpAny_bind (wpAny_mkInt ?_)
 show wpAny _ _ (setField (.ref e) 3 (rawInt ((i:Int) + 1))>>=_) _ _ _
 refine wpAny_bind (wpAny_setField_rec (s:={ s with heap:=h₁,toks:=s.toks + 1 }) L1.obj (by simp) fun h₂ he₂ hs₂=>?_)
 have L2:=L1.keep (i1:=(i:Int) + 1) (b1:=b) (old1:=old) he₂ hs₂
 show wpAny _ _ (setField (.ref e) 4 .none>>=_) _ _ _
 refine wpAny_bind (wpAny_setField_rec (s:={ s with heap:=h₂,toks:=s.toks + 1 }) L2.obj (by simp) fun h₃ he₃ hs₃=>wpAny_bind (wpAny_newTuple (s:={ s with heap:=h₃,toks:=s.toks + 1 }) ?_))
 have L3:=L2.keep (i1:=(i:Int) + 1) (b1:=b) (old1:=old) he₃ hs₃
 have L4:=L3.push (eB #[.int i s.toks,x])
 have gT:(h₃.push (eB #[.int i s.toks,x])).get? h₃.objs.size=some (eB #[.int i s.toks,x]):=Heap.get?_push_size _ rfl
 refine wpAny_bind (dY (s:={ s with heap:=h₃.push (eB #[.int i s.toks,x]),toks:=s.toks + 1 }) (rest:=[.ref it,rawInt ((i:Int) + 1),.none,old]) L4.obj L4.f (fun q=>dU rfl ?_) fun h₅ b' he₅ hs₅=>aU Bool.false_ne_true ?_)
 ·rw [q] at L4
  refine wpAny_bind (wpAny_rule (wpAny_bind (wpAny_field (s:={ s with heap:=h₃.push (eB #[.int i s.toks,x]),toks:=s.toks + 1 }) L4.obj rfl (x:=old) rfl (wpAny_bind (wpAny_setField_rec (s:={ s with heap:=h₃.push (eB #[.int i s.toks,x]),toks:=s.toks + 1 }) L4.obj (by simp) fun h₅ he₅ hs₅=>?_)))))
  have L5:=L4.keep (i1:=(i:Int) + 1) (b1:=b) (old1:=x) he₅ hs₅
  refine wpAny_bind (wpAny_bind (wpAny_setField_rec (s:={ s with heap:=h₅,toks:=s.toks + 1 }) L5.obj (by simp) fun h₇ he₇ hs₇=>wpAny_setField_rec (s:={ s with heap:=h₇,toks:=s.toks + 1 }) (show h₇.get? e=some (qh (rawInt h₃.objs.size) b it ((i:Int) + 1) x) from he₇) (by simp) fun h₈ he₈ hs₈=>?_))
  have g8:∀ c o,c≠e→(h₃.push (eB #[.int i s.toks,x])).get? c=some o→h₈.get? c=some o:=fun c o n q=>(hs₈.2 _ n).trans ((hs₇.2 _ n).trans ((hs₅.2 _ n).trans q))
  have gT8:=g8 _ _ L3.new.1 gT
  have s8:Heap.SameBut e h₅ h₈:=⟨hs₈.1.trans hs₇.1,fun c n=>(hs₈.2 c n).trans (hs₇.2 c n)⟩
  have L8:=L5.set (f1:=rawInt h₃.objs.size) (i1:=(i:Int) + 1) (b1:=false) (old1:=x) he₈ s8 (.inr ⟨_,rfl,_,gT8⟩)
  exact wpAny_bind (wpAny_letGo (wpAny_pure (s:={ s with heap:=h₈,toks:=s.toks + 1 }) ⟨_,rfl,hQ h₈ h₃.objs.size s.toks L3.new.2 ⟨⟨_,_,_,L8.obj,L8.f⟩,L8.ti,L8.tup⟩ gT8 L8.ik⟩))
 ·have L5:=L4.keep (i1:=(i:Int) + 1) (b1:=b') (old1:=old) he₅ hs₅
  exact wpAny_pure (s:={ s with heap:=h₅,toks:=s.toks + 1 }) ⟨_,rfl,hQ h₅ h₃.objs.size s.toks L3.new.2 ⟨⟨_,_,_,L5.obj,L5.f⟩,L5.ti,L5.tup⟩ ((hs₅.2 _ L3.new.1).trans gT) L5.ik⟩
theorem jh {e it t:Addr} {items:Array Value} {i:Nat} {x:Value} {Q:Option Value→Shared→Prop} (Z:EnumAt s.heap e it t items i) (hx:items[i]?=some x)
  (hQ:∀ h' T tk,s.heap.get? T=none→EnumAt h' e it t items (i + 1)→h'.get? T=some (eB #[.int (i:Int) tk,x])→(∀ c o,c≠e→c≠it→s.heap.get? c=some o→h'.get? c=some o)→Q (some (.ref T)) { s with heap:=h',toks:=s.toks + 1 }) :
  wpAny (model prog w) A (pyNext (.ref e)) Q E s:=by
 have hT:s.TypeIs (.ref e) "enumerate" := Z.obj.elim fun _ h=>h.elim fun _ h=>h.elim fun _ h=>⟨_,h.1,rfl⟩
 unfold pyNext
 exact wpAny_bind (wpAny_attempt (wpAny_callSpecial?_slot (name:=Str.ofString "__next__") hT F.slot_enumerate_next
  (wpAny_call_entry F.slot_enumerate_next hT F.entry_enumerate_next (ph Z hx fun h' T tk a1 a2 a3 a4=>wpAny_pure (hQ h' T tk a1 a2 a3 a4)) (F.args_enumerate_next_1 _))))
theorem fg {e it t:Addr} {items:Array Value} {i:Nat} {Q:Option Value→Shared→Prop} (hh:A.handled=none) (Z:EnumAt s.heap e it t items i) (hx:items[i]?=none)
  (hQ:∀ h',Heap.ExtBut it s.heap h'→Q none { s with heap:=h' }):wpAny (model prog w) A (pyNext (.ref e)) Q E s:=by
 obtain ⟨⟨f0,b,old,he,hf⟩,hit,ht⟩:=Z
 have hT:s.TypeIs (.ref e) "enumerate" := ⟨_,he,rfl⟩
 unfold pyNext
 refine wpAny_bind (wpAny_attempt (wpAny_callSpecial?_slot (name:=Str.ofString "__next__") hT F.slot_enumerate_next
  (wpAny_call_entry F.slot_enumerate_next hT F.entry_enumerate_next ?_ (F.args_enumerate_next_1 _))))
 show wpAny _ _ (field (.ref e) 2>>=_) _ _ _
 refine wpAny_bind (wpAny_field he rfl (x:=.ref it) rfl ?_)
 refine wpAny_bind (fR hh hit ht hx fun h' ex hk hex=>?_)
 refine ae hex fun o ho hc=>?_
 refine wpAny_bind (wpAny_isInstance (T:="StopIteration") (b:=true) ⟨o,ho,hc⟩ isSubtype_stop ?_)
 exact wpAny_pure (hQ _ hk)
end
end Mini.Internal
end
section
set_option autoImplicit false
namespace Mini.Internal
open PySem PySem.Calls PyProof.Rows
open AutoSeq1 (wpAny_loadPart')
set_option maxRecDepth 100000
structure EMade (h h':Heap) (e it t:Addr) (items:Array Value):Prop where
 at_:EnumAt h' e it t items 0
 new:h.get? e=none∧h.get? it=none
 keep:∀ c o,h.get? c=some o→h'.get? c=some o
set_option tactic.hygienic true in
theorem lQ (t:Addr) (items:Array Value) :
  Meets (Builtin.«enumerate.__new__» ⟨[.type "enumerate",.ref t],[]⟩) (fun _ R s=>s.heap.IsTuple t items∧∀ h' e it,EMade s.heap h' e it t items→R (.ok (.ret (.ref e))) { s with heap:=h' }) :=
 .of_wp fun prog w A R s h=>by
  obtain ⟨hp,g,d,tk,os⟩:=s;refine aw h fun ht hR=>?_
  have hsub:=sub_enumerate
  have fin:∀ Q:Value→Shared→Prop,(∀ h' e it,EMade hp h' e it t items→Q (.ref e) ⟨h',g,d,tk,os⟩)→Q (.ref (hp.push { cls:=.type "tuple_iterator",data:=.fields #[.ref t,.int 0 0] }).objs.size) ⟨(hp.push { cls:=.type "tuple_iterator",data:=.fields #[.ref t,.int 0 0] }).push { cls:=.type "enumerate",data:=.fields #[.none,.bool false,.ref hp.objs.size,rawInt 0,.none,.none] },g,d,tk,os⟩:=fun Q k=>by
   generalize h1:hp.push { cls:=.type "tuple_iterator",data:=.fields #[.ref t,.int 0 0] }=hp1
   have k1:∀ c o,hp.get? c=some o→hp1.get? c=some o:=fun c o e=>h1▸Heap.get?_push_of_some _ e
   have g1:hp1.get? hp.objs.size=some { cls:=.type "tuple_iterator",data:=.fields #[.ref t,.int 0 0] }:=h1▸Heap.get?_push_size _ rfl
   have k2:∀ c o,hp1.get? c=some o→(hp1.push { cls:=.type "enumerate",data:=.fields #[.none,.bool false,.ref hp.objs.size,rawInt 0,.none,.none] }).get? c=some o:=fun c o e=>Heap.get?_push_of_some _ e
   exact k _ hp1.objs.size hp.objs.size ⟨⟨⟨.none,false,.none,Heap.get?_push_size _ rfl,.inl rfl⟩,⟨_,k2 _ _ g1,rfl,rfl⟩,by refine ae ht fun o h1 r=>?_;exact ⟨o,k2 _ _ (k1 _ _ h1),r⟩⟩,⟨aB k1 (ai _),ai _⟩,fun c o e=>k2 _ _ (k1 _ _ e)⟩
  have hL:Heap.IsTuple (Shared.heap ⟨hp,g,d,tk,os⟩) t items:=ht
  refine ay ht fun o ho hc hh1_=>?_
  refine aG hh1_ fun n hd=>?_
  wp_walk using wpAny_loadPart' ho
  refine wpAny_stack_any fun st=>wpAny_pure ?_
  split
  ·rename_i c _ _ _ _ _
   cases (c==Value.type "enumerate")
   ·wp_walk using wpAny_loadPart' ho,wpAny_pyIter_tuple hL
    exact ⟨_,rfl,fin (fun v s=>R (.ok (.ret v)) s) hR⟩
   ·wp_walk using wpAny_loadPart' ho,wpAny_pyIter_tuple hL
    exact ⟨_,rfl,fin (fun v s=>R (.ok (.ret v)) s) hR⟩
  ·wp_walk using wpAny_loadPart' ho,wpAny_pyIter_tuple hL
   exact ⟨_,rfl,fin (fun v s=>R (.ok (.ret v)) s) hR⟩
section
variable {prog:Program} {w:World} {A:Around} {E:Value→Shared→Prop} {s:Shared}
theorem pN {t:Addr} {items:Array Value} {Q:Value→Shared→Prop} (ht:s.heap.IsTuple t items) (k:∀ h' e it,EMade s.heap h' e it t items→Q (.ref e) { s with heap:=h' }) :
  wpAny (model prog w) A (call (.type "enumerate") [.ref t]) Q E s:=by
 refine callType_new F.called_enumerate (by decide) (F.typeCall_enumerate_1 _) (F.newCall_enumerate_1 _) (fun obj=>F.args_object_init_2 obj _) F.entry_enumerate_new (lQ t items) ⟨ht,fun h' e it M=>?_⟩
 exact ⟨M.at_.obj.elim fun _ x=>x.elim fun _ x=>x.elim fun _ x=>⟨_,x.1,rfl⟩,k h' e it M⟩
end
end Mini.Internal
end
section
set_option autoImplicit false
namespace Mini.Internal
open PySem PySem.Calls PyProof.Rows
open PySem.W (Frag dictOf Looks findIn typeIn keepIn makesIn plainGet hasDictIn plainOver getL)
noncomputable def sh (d:Data) (z:Prop):Prop:=((∀ xs n,d≠.seq xs n)∧¬ z)∨((∃ xs n,d=.seq xs n)∧z)
theorem sh.or {d:Data} {z:Prop} (h:sh d z):(∀ xs n,d≠.seq xs n)∨z:=h.imp (·.1) (·.2)
theorem av (vs:Array Value):∀ xs n,Data.fields vs≠.seq xs n:=fun _ _ e=>by cases e
structure Loose (C:Cfg) (ρ:Rh) (h:Heap) (J:Addr→Prop):Prop where
 here:∀ a,J a→∃ o,h.get? a=some o∧sh o.data (a∈ρ.z)
 new:∀ a,J a→C.base.get? a=none
 apart:∀ a,J a→∀ (i:Nat) (p:Addr×Addr),ρ[i]?=some p→p.1≠a∧p.2≠a
section
variable {sc:Scope} {env:Env} {lo:Lo} {A:Around} {R:Sems} {n:Nat} {f:Nat} {ρ ρ':Rh} {H H':Hp} {s s':Shared} {W J:Addr→Prop} {a:Addr}
theorem Loose.own (L:Loose C ρ s.heap J) (ha:J a):¬ Own ρ H a:=by
 rintro ⟨i,p,o,hp,_,_,e⟩
 refine aw (L.apart a ha i p hp) fun n1 n2=>?_
 refine Or.elim e (fun e=>?_) fun e=>?_
 ·exact n1 e.symm
 ·exact n2 e.symm
theorem Loose.next (L:Loose C ρ s.heap J) (N:Nx W ρ H s ρ' H' s') (w:∀ a,J a→¬ W a):Loose C ρ' s'.heap J:=by
 refine ⟨fun a ha=>?_,L.new,fun a ha i p hp=>?_⟩
 ·refine ae (L.here a ha) fun o ho hd=>?_
  exact ⟨o,N.keep a o ho (L.own ha) (w a ha),by rw [N.z];exact hd⟩
 ·rcases N.news i p hp with e | ⟨e1,e2⟩
  ·exact L.apart a ha i p e
  ·refine ae (L.here a ha) fun o ho hd=>?_
   exact ⟨fun q=>(by rw [q,ho] at e1;cases e1),fun q=>(by rw [q,ho] at e2;cases e2)⟩
theorem Loose.mk' (S:St C ρ H s) (h0:∀ a,J a→s.heap.get? a=none) {z:List Addr} {h':Heap} (h1:∀ a,J a→∃ o,h'.get? a=some o∧sh o.data (a∈z)):Loose C ⟨ρ.l,z⟩ h' J :=
 ⟨h1,fun a ha=>(S.freshAt (h0 a ha)).base,fun a ha=>(S.freshAt (h0 a ha)).ne⟩
theorem Loose.made (S:St C ρ H s) {o:Obj} (ho:s'.heap.get? a=some o) (hd:∀ xs n,o.data≠.seq xs n) (h0:s.heap.get? a=none):Loose C ρ s'.heap (· = a) :=
 Loose.mk' S (fun b (e:b=a)=>e▸h0) fun b (e:b=a)=>⟨o,e▸ho,.inl ⟨hd,e▸(S.freshAt h0).z⟩⟩
theorem St.turnL (S:St C ρ H s) (L:Loose C ρ s.heap J) (hk:∀ b o,¬ J b→s.heap.get? b=some o→s'.heap.get? b=some o) (hz:∀ b∈ρ.z,J b→∃ o,s'.heap.get? b=some o) (hg:s'.gens=s.gens) (hos:s'.os=s.os) :
  St C ρ H s'∧Lasts ρ H s.heap ρ H s'.heap:=by
 have La:Lasts ρ H s.heap ρ H s'.heap:=by
  refine ⟨List.prefix_refl _,fun b items t z=>⟨?_,z⟩,fun b items t m=>⟨?_,m⟩⟩
  ·refine t5 t fun x hx hc k hd'=>?_
   refine ⟨x,hk b x (fun e=>?_) hx,hc,k,hd'⟩
   refine ae (L.here b e) fun o ho hd=>?_
   rw [ho] at hx;cases hx;exact hd.or.elim (fun q=>q _ _ hd') z
  ·refine t5 t fun x hx hc k hd'=>?_
   refine ⟨x,hk b x (fun e=>?_) hx,hc,k,hd'⟩
   refine ae (L.here b e) fun o ho hd=>?_
   rw [ho] at hx;cases hx;exact hd.or.elim (fun q=>q _ _ hd') fun q=>m (.inr q)
 refine ⟨⟨fun b x e=>hk b x (fun q=>by rw [L.new b q] at e;exact nn e) (S.base b x e),hg.trans S.gens,hos.trans S.os,S.len,fun i x p h1 h2=>?_,S.apart,S.new,fun b hb=>?_,S.zap,fun i p hp=>?_⟩,La⟩
 ·exact (S.objs i x p h1 h2).lasts La (fun y e=>hk _ y (fun q=>(L.apart _ q i p h2).1 rfl) e) (fun y e=>hk _ y (fun q=>(L.apart _ q i p h2).2 rfl) e)
 ·refine aw (S.hid b hb) fun hh1_ nb=>?_
  refine aG hh1_ fun x hx=>?_
  refine ⟨?_,nb⟩
  by_cases q:J b
  ·exact hz b hb q
  ·exact ⟨x,hk b x q hx⟩
 ·refine aw (S.here i p hp) fun hh2_ hh3_=>?_
  refine aG hh3_ fun y hy=>?_
  refine aG hh2_ fun x hx=>?_
  exact ⟨⟨x,hk _ x (fun q=>(L.apart _ q i p hp).1 rfl) hx⟩,y,hk _ y (fun q=>(L.apart _ q i p hp).2 rfl) hy⟩
theorem gQ (L:Loose C ρ s.heap J) (hk:∀ b o,¬ J b→s.heap.get? b=some o→s'.heap.get? b=some o) (hp:∀ b,J b→∃ o,s'.heap.get? b=some o):Nx J ρ H s ρ H s':=by
 refine ⟨List.prefix_refl _,rfl,fun b x e _ w=>hk b x w e,fun _ m=>.inl m,fun b x e=>?_,fun b x w e=>?_,fun _ _ e=>.inl e⟩
 ·by_cases q:J b
  ·exact hp b q
  ·exact ⟨x,hk b x q e⟩
 ·refine ae (L.here b w) fun o ho hd=>?_
  rw [ho] at e;cases e;exact hd.or
structure Turned (C:Cfg) (ρ:Rh) (H:Hp) (J:Addr→Prop) (s s':Shared):Prop where
 st:St C ρ H s'
 la:Lasts ρ H s.heap ρ H s'.heap
 nx:Nx J ρ H s ρ H s'
 lo:Loose C ρ s'.heap J
 k:∀ b o,¬ J b→s.heap.get? b=some o→s'.heap.get? b=some o
theorem Loose.turn (L:Loose C ρ s.heap J) (S:St C ρ H s) (hk:∀ b o,¬ J b→s.heap.get? b=some o→s'.heap.get? b=some o) (hp:∀ b,J b→∃ o,s'.heap.get? b=some o∧sh o.data (b∈ρ.z)) (hg:s'.gens=s.gens) (hos:s'.os=s.os):Turned C ρ H J s s' :=
 have hp':∀ b,J b→∃ o,s'.heap.get? b=some o:=fun b q=>(hp b q).elim fun o h=>⟨o,h.1⟩
 have T:=S.turnL L hk (fun b _ q=>hp' b q) hg hos
 ⟨T.1,T.2,gQ L hk hp',⟨hp,L.new,L.apart⟩,hk⟩
theorem Loose.nz (L:Loose C ρ s.heap J) {b:Addr} (hb:J b) {o:Obj} (ho:s.heap.get? b=some o) {vs:Array Value} (hd:o.data=.fields vs):b∉ρ.z:=by
 refine ae (L.here b hb) fun o' ho' h=>?_
 rw [ho] at ho';cases ho'
 rcases h with h | ⟨⟨xs,n,h⟩,_⟩
 ·exact h.2
 ·rw [hd] at h;cases h
class inductive ZR (ρ:Rh) (H:Hp) (h:Heap):List ZI→List (List V)→Prop
 | nil:ZR ρ H h [] []
 | cons {t:ZI} {vs:List V} {ts:List ZI} {vss:List (List V)}:¬ Shy ρ H t.l→VRs ρ H h vs (t.xs.toList.drop t.c)→ZR ρ H h ts vss→ZR ρ H h (t :: ts) (vs :: vss)
class inductive ItR (ρ:Rh) (H:Hp) (h:Heap) (I:Addr) (J:Addr→Prop):List V→Prop
 | list {l:Addr} {items:Array Value} {i:Nat} {vs:List V}:h.IsListIter I l i→h.IsList l items→¬ Shy ρ H l→VRs ρ H h vs (items.toList.drop i)→(∀ a,J a↔a=I)→ItR ρ H h I J vs
 | tup {l:Addr} {items:Array Value} {i:Nat} {vs:List V}:h.IsTupleIter I l i→h.IsTuple l items→l∉ρ.z→VRs ρ H h vs (items.toList.drop i)→(∀ a,J a↔a=I)→ItR ρ H h I J vs
 | range {x:Int} {k:Nat}:IsRangeIter h I x (k:Int) 1→(∀ a,J a↔a=I)→ItR ρ H h I J ((List.range k).map fun (j:Nat)=>V.int (x + (j:Int)))
 | enum {it l:Addr} {items:Array Value} {i:Nat} {vs:List V}:EnumAt h I it l items i→l∉ρ.z→VRs ρ H h vs (items.toList.drop i)→(∀ a,J a↔a=I∨a=it)→ItR ρ H h I J (jz i vs)
 | zip {TI TO:Addr} {its:List ZI} {vss:List (List V)} {k:Nat}:ZipAt h I TI TO its 0→TI≠TO→TI∉ρ.z→TO∈ρ.z→its≠[]→its.length≤20→(its.map (·.i)).Nodup→ZR ρ H h its vss→(∀ l∈vss,l.length=k)→(∀ a,J a↔a=I∨a=TO∨∃ t∈its,a=t.i)→ItR ρ H h I J (tl k vss)
theorem ZR.lasts {h h':Heap} {its:List ZI} {vss:List (List V)} (x:ZR ρ H h its vss) (ls:∀ t∈its,h.IsList t.l t.xs) (L:Lasts ρ H h ρ' H' h'):ZR ρ' H' h' its vss:=by
 induction x with
 | nil=>exact .nil
 | cons a b _ ih=>exact .cons (L.lst _ _ (ls _ (.head _)) a).2 (b.lasts L) (ih fun t m=>ls t (.tail _ m))
theorem F0.pres {h h':Heap} {f:Value} (x:F0 h f) (p:∀ a o,h.get? a=some o→∃ o',h'.get? a=some o'):F0 h' f:=by
 rcases x with e | ⟨T,e,o,ho⟩
 ·exact .inl e
 ·exact .inr ⟨T,e,p T o ho⟩
theorem ItR.keep {h h':Heap} {I:Addr} {vs:List V} (x:ItR ρ H h I J vs) (L:Lasts ρ H h ρ' H' h') (z:ρ'.z=ρ.z∨∀ a∈ρ.z,a∈ρ'.z) (k:∀ a o,J a→h.get? a=some o→h'.get? a=some o) (p:∀ a o,h.get? a=some o→∃ o',h'.get? a=some o'):ItR ρ' H' h' I J vs:=by
 induction x using Mini.Internal.ItR.casesOn with
 | list a b c d j =>
  refine ae a fun o ho r=>?_
  exact .list ⟨o,k _ o ((j _).mpr rfl) ho,r⟩ (L.lst _ _ b c).1 (L.lst _ _ b c).2 (d.lasts L) j
 | tup a b c d j =>
  refine ae a fun o ho r=>?_
  exact .tup ⟨o,k _ o ((j _).mpr rfl) ho,r⟩ (L.tup _ _ b c).1 (L.tup _ _ b c).2 (d.lasts L) j
 | range a j=>exact .range (k _ _ ((j _).mpr rfl) a) j
 | enum Z c d j =>
  obtain ⟨⟨f0,b,old,ho,hf⟩,hi,ht⟩:=Z
  refine ae hi fun o h1 r=>?_
  exact .enum ⟨⟨f0,b,old,k _ _ ((j _).mpr (.inl rfl)) ho,hf.pres p⟩,⟨o,k _ _ ((j _).mpr (.inr rfl)) h1,r⟩,(L.tup _ _ ht c).1⟩ (L.tup _ _ ht c).2 (d.lasts L) j
 | zip Z a c d e l nd r q j =>
  obtain ⟨⟨f0,b,ho,hf⟩,hti,⟨arr,ha,hto⟩,hits⟩:=Z
  have nsh:∀ {ts:List ZI} {vs:List (List V)},ZR ρ H h ts vs→∀ t∈ts,¬ Shy ρ H t.l:=fun r=>by
   induction r with
   | nil=>exact fun _ m=>by cases m
   | cons a _ _ ih=>exact fun t m=>(List.mem_cons.mp m).elim (fun e=>e▸a) (ih t)
  refine .zip ⟨⟨f0,b,k _ _ ((j _).mpr (.inl rfl)) ho,hf.pres p⟩,(L.tup _ _ hti c).1,⟨arr,ha,k _ _ ((j _).mpr (.inr (.inl rfl))) hto⟩,fun t m=>?_⟩ a (L.tup _ _ hti c).2 (z.elim (fun z=>z▸d) fun z=>z _ d) e l nd (r.lasts (fun t m=>(hits t m).ls) L) q j
  ·refine ae (hits t m).it fun o h1 rr=>?_
   exact ⟨⟨o,k _ _ ((j _).mpr (.inr (.inr ⟨t,m,rfl⟩))) h1,rr⟩,(L.lst _ _ (hits t m).ls (nsh r t m)).1⟩
theorem VRs.dropCons {h:Heap} {v:V} {vs:List V} {xs:List Value} {i:Nat} (r:VRs ρ H h (v :: vs) (xs.drop i)):∃ x,xs[i]?=some x∧VR ρ H h v x∧VRs ρ H h vs (xs.drop (i + 1)):=by
 generalize hd:xs.drop i=ys at r
 cases r with
 | @cons _ x _ ys' a b =>
  have h1:xs[i]?=some x:=by
   have:(xs.drop i)[0]?=some x:=by rw [hd];rfl
   simpa using this
  have h2:xs.drop (i + 1)=ys':=by
   rw [← List.drop_drop,hd];rfl
  exact ⟨x,h1,a,h2▸b⟩
theorem VRs.dropNil {h:Heap} {xs:List Value} {i:Nat} (r:VRs ρ H h [] (xs.drop i)):xs[i]?=none:=by
 generalize hd:xs.drop i=ys at r
 cases r
 rw [List.drop_eq_nil_iff] at hd
 exact List.getElem?_eq_none hd
theorem ItR.obj {h:Heap} {I:Addr} {vs:List V} (x:ItR ρ H h I J vs):J I∧∀ a,J a→∃ o,h.get? a=some o∧o.cls≠.type "list"∧((∃ xs n,o.data=.seq xs n)∨∃ vs,o.data=.fields vs):=by
 induction x using Mini.Internal.ItR.casesOn with
 | list a b c d j=>exact ⟨(j _).mpr rfl,fun q e=>(j q).mp e▸ay a fun o ho hc hd=>⟨o,ho,by rw [hc];decide,.inr ⟨_,hd⟩⟩⟩
 | tup a b c d j=>exact ⟨(j _).mpr rfl,fun q e=>(j q).mp e▸ay a fun o ho hc hd=>⟨o,ho,by rw [hc];decide,.inr ⟨_,hd⟩⟩⟩
 | range a j=>exact ⟨(j _).mpr rfl,fun q e=>(j q).mp e▸⟨_,a,(show Value.type "range_iterator"≠.type "list" by decide),.inr ⟨_,rfl⟩⟩⟩
 | enum Z c d j =>
  obtain ⟨⟨f0,b,old,ho,hf⟩,hi,ht⟩:=Z
  refine ⟨(j _).mpr (.inl rfl),fun q e=>?_⟩
  refine Or.elim ((j q).mp e) (fun e=>?_) fun e=>?_
  ·rw [e];exact ⟨_,ho,(show Value.type "enumerate"≠.type "list" by decide),.inr ⟨_,rfl⟩⟩
  ·rw [e];exact ay hi fun o ho hc hd=>⟨o,ho,by rw [hc];decide,.inr ⟨_,hd⟩⟩
 | zip Z a c d e l nd r q j =>
  obtain ⟨⟨f0,b,ho,hf⟩,hti,⟨arr,ha,hto⟩,hits⟩:=Z
  refine ⟨(j _).mpr (.inl rfl),fun q e=>?_⟩
  rcases (j q).mp e with e | e | ⟨t,m,e⟩
  ·rw [e];exact ⟨_,ho,k6,.inr ⟨_,rfl⟩⟩
  ·rw [e];exact ⟨_,hto,mT,.inl ⟨_,_,rfl⟩⟩
  ·rw [e];exact ay (hits t m).it fun o ho hc hd=>⟨o,ho,by rw [hc];decide,.inr ⟨_,hd⟩⟩
theorem Loose.turn1 {I:Addr} (L:Loose C ρ s.heap J) (S:St C ρ H s) (j:∀ a,J a↔a=I) (hs:Heap.SameBut I s.heap s'.heap) {o o':Obj} {vs vs':Array Value} (ho':s.heap.get? I=some o') (hd':o'.data=.fields vs') (ho:s'.heap.get? I=some o) (hd:o.data=.fields vs) (hg:s'.gens=s.gens) (hos:s'.os=s.os):Turned C ρ H J s s' :=
 L.turn S (fun b o n e=>(hs.2 b fun q=>n ((j b).mpr q)).trans e) (fun b q=>⟨o,(j b).mp q▸ho,.inl ⟨hd▸av _,L.nz q ((j b).mp q▸ho') hd'⟩⟩) hg hos
structure Stepped (C:Cfg) (ρ:Rh) (H:Hp) (I:Addr) (J:Addr→Prop) (vs:List V) (v:V) (y:Value) (s s':Shared):Prop where
 t:Turned C ρ H J s s'
 it:ItR ρ H s'.heap I J vs
 v:VR ρ H s'.heap v y
theorem ZR.heads {h:Heap} {its:List ZI} {vss:List (List V)} (x:ZR ρ H h its vss) {k:Nat} (hk:∀ l∈vss,l.length=k + 1):∃ vals:List Value,vals.length=its.length∧(∀ (j:Nat) (t:ZI),its[j]?=some t→t.xs[t.c]?=vals[j]?)∧VRs ρ H h (vss.map fun l=>l.headD .none) vals ∧
  ZR ρ H h (its.map fun t=>{ t with c:=t.c + 1 }) (vss.map List.tail)∧∀ l∈vss.map List.tail,l.length=k:=by
 induction x with
 | nil=>exact ⟨[],rfl,(fun j t e=>by cases e),.nil,.nil,fun l m=>by cases m⟩
 | @cons t vs ts vss a b _ ih =>
  refine yJ (ih fun l m=>hk l (.tail _ m)) fun vals h1 h2 h3 h4 h5=>?_
  have hv:=hk vs (.head _)
  induction vs using List.casesOn with
  | nil=>cases hv
  | cons v vs =>
   refine ay b.dropCons fun x hx r1 r2=>?_
   refine ⟨x :: vals,congrArg (· + 1) h1,fun j u e=>?_,.cons r1 h3,.cons a r2 h4,fun l m=>?_⟩
   ·induction j using Nat.casesAuxOn with
    | zero=>cases e;simpa using hx
    | succ j=>exact h2 j u e
   ·rcases List.mem_cons.mp m with rfl | m
    ·exact Nat.succ.inj hv
    ·exact h5 l m
theorem ZR.ends {h:Heap} {its:List ZI} {vss:List (List V)} (x:ZR ρ H h its vss) (hk:∀ l∈vss,l.length=0):∀ t∈its,t.xs[t.c]?=none:=by
 induction x with
 | nil=>exact fun _ m=>by cases m
 | @cons t vs ts vss a b _ ih =>
  intro u m
  rcases List.mem_cons.mp m with rfl | m
  ·have e:=List.length_eq_zero_iff.mp (hk vs (.head _))
   rw [e] at b
   simpa using b.dropNil
  ·exact ih (fun l m=>hk l (.tail _ m)) u m
theorem ItR.step {I:Addr} {v:V} {vs:List V} (x:ItR ρ H s.heap I J (v :: vs)) (S:St C ρ H s) (L:Loose C ρ s.heap J) {E:Value→Shared→Prop} {Q:Option Value→Shared→Prop}
  (k:∀ y s',Stepped C ρ H I J vs v y s s'→Q (some y) s'):wpAny (MM C) A (pyNext (.ref I)) Q E s:=by
 generalize hw:v :: vs=ws at x
 induction x using Mini.Internal.ItR.casesOn with
 | @list l items i _ a b c d j =>
  subst hw
  refine ay d.dropCons fun y hy r1 r2=>?_
  refine wpAny_pyNext_list_item a b (by simpa using hy) fun h' hit hs=>?_
  refine ay (id hit) fun o' ho' hc' hd'=>?_
  refine ay (id a) fun o ho hc hd=>?_
  have T:=L.turn1 (s':={ s with heap:=h' }) S j hs ho hd ho' hd' rfl rfl
  exact k y _ ⟨T,.list hit (T.la.lst _ _ b c).1 c (r2.lasts T.la) j,r1.lasts T.la⟩
 | @tup l items i _ a b c d j =>
  subst hw
  refine ay d.dropCons fun y hy r1 r2=>?_
  refine wpAny_pyNext_tuple_item a b (by simpa using hy) fun h' hit hs=>?_
  refine ay (id hit) fun o' ho' hc' hd'=>?_
  refine ay (id a) fun o ho hc hd=>?_
  have T:=L.turn1 (s':={ s with heap:=h' }) S j hs ho hd ho' hd' rfl rfl
  exact k y _ ⟨T,.tup hit (T.la.tup _ _ b c).1 c (r2.lasts T.la) j,r1.lasts T.la⟩
 | @range x m a j =>
  induction m using Nat.casesAuxOn with
  | zero=>cases hw
  | succ m =>
   rw [List.range_succ_eq_map,List.map_cons,List.map_map] at hw
   simp only [List.cons.injEq] at hw
   refine aw hw fun hh4_ hh5_=>?_
   subst hh4_
   subst hh5_
   refine wpAny_pyNext_range_item a (by lia) fun h' hit hs=>?_
   have T:=L.turn1 (s':={ s with heap:=h',toks:=s.toks + 1 }) S j hs a rfl hit rfl rfl rfl
   refine k _ _ ⟨T,?_,?_⟩
   ·have e:((fun (j:Nat)=>V.int (x + (j:Int)))∘Nat.succ)=fun (j:Nat)=>V.int (x + 1 + (j:Int)):=by
     funext j;simp only [Function.comp];congr 1;lia
    rw [e]
    refine .range ?_ j
    have e2:(((m + 1:Nat):Int) - 1)=(m:Int):=by lia
    rw [e2] at hit;exact hit
   ·have e:x + ((0:Nat):Int)=x:=by lia
    rw [e];exact .int _ _
 | @enum it l items i vs₀ Z c d j =>
  induction vs₀ using List.casesOn with
  | nil=>cases hw
  | cons u us =>
   obtain ⟨rfl,rfl⟩:v=.tup [.int (i:Int),u]∧vs=jz (i + 1) us:=by injection hw with h1 h2;exact ⟨h1,h2⟩
   refine ay d.dropCons fun y hy r1 r2=>?_
   refine jh Z (by simpa using hy) fun h' T tk hT Z' gT hk=>?_
   have T':Turned C ρ H J s { s with heap:=h',toks:=s.toks + 1 }:=L.turn S (fun b o n e=>hk b o (fun q=>n ((j b).mpr (.inl q))) (fun q=>n ((j b).mpr (.inr q))) e) (fun b q=>by
    refine Or.elim ((j b).mp q) (fun q=>?_) fun q=>?_
    ·rw [q];exact Z'.obj.elim fun _ x=>x.elim fun _ x=>x.elim fun _ x=>⟨_,x.1,.inl ⟨av _,Z.obj.elim fun _ y=>y.elim fun _ y=>y.elim fun _ y=>L.nz ((j _).mpr (.inl rfl)) y.1 rfl⟩⟩
    ·rw [q];exact ay Z'.it fun o ho hc hd=>⟨o,ho,.inl ⟨hd▸av _,ay Z.it fun o ho hc hd=>L.nz ((j _).mpr (.inr rfl)) ho hd⟩⟩) rfl rfl
   exact k _ _ ⟨T',.enum Z' c (r2.lasts T'.la) j,.tup ⟨_,gT,rfl,_,rfl⟩ (S.freshAt hT).z (.cons (.int _ _) (.cons (r1.lasts T'.la) .nil))⟩
 | @zip TI TO its vss m Z a c d e l nd r q j =>
  induction m using Nat.casesAuxOn with
  | zero=>cases hw
  | succ m =>
   obtain ⟨rfl,rfl⟩:v=.tup (vss.map fun l=>l.headD .none)∧vs=tl m (vss.map List.tail):=by injection hw with h1 h2;exact ⟨h1,h2⟩
   obtain ⟨vals,h1,h2,h3,h4,h5⟩:=r.heads q
   refine gh Z a e l nd h1 h2 fun h' T hT Z' gT hk=>?_
   have T':Turned C ρ H J s { s with heap:=h' }:=L.turn S (fun b o n w=>hk b o (fun q=>n ((j b).mpr (.inl q))) (fun q=>n ((j b).mpr (.inr (.inl q)))) (fun t m q=>n ((j b).mpr (.inr (.inr ⟨t,m,q⟩)))) w) (fun b w=>by
    rcases (j b).mp w with w | w | ⟨t,mt,w⟩
    ·rw [w];exact Z'.obj.elim fun _ x=>x.elim fun _ x=>⟨_,x.1,.inl ⟨av _,Z.obj.elim fun _ y=>y.elim fun _ y=>L.nz ((j _).mpr (.inl rfl)) y.1 rfl⟩⟩
    ·rw [w];exact Z'.to.elim fun _ x=>⟨_,x.2,.inr ⟨⟨_,_,rfl⟩,d⟩⟩
    ·rw [w];exact ay (Z'.its t mt).it fun o ho hc hd=>⟨o,ho,.inl ⟨hd▸av _,ay (Z.its t mt).it fun o ho hc hd=>L.nz ((j _).mpr (.inr (.inr ⟨t,mt,rfl⟩))) ho hd⟩⟩) rfl rfl
   have hm:(its.map fun t=>{ t with c:=t.c + 1 }).map (fun t:ZI=>Value.ref t.i)=its.map fun t=>Value.ref t.i:=by rw [List.map_map];rfl
   have hm2:(its.map fun t=>{ t with c:=t.c + 1 }).map (fun t:ZI=>t.i)=its.map fun t=>t.i:=by rw [List.map_map];rfl
   refine k _ _ ⟨T',.zip ⟨Z'.obj,hm▸Z'.ti,by rw [List.length_map];exact Z'.to,fun t mt=>?_⟩ a c d (by simpa using e) (by rw [List.length_map];exact l) (hm2▸nd) (h4.lasts (fun t mt=>?_) T'.la) h5 (fun b=>(j b).trans ?_),.tup ⟨_,gT,rfl,_,rfl⟩ (S.freshAt hT).z (h3.lasts T'.la)⟩
   ·refine ae (List.mem_map.mp mt) fun u mu hh10_=>?_
    subst hh10_
    exact ⟨(Z'.its u mu).it,(Z'.its u mu).ls⟩
   ·refine ae (List.mem_map.mp mt) fun u mu hh11_=>?_
    subst hh11_
    exact (Z.its u mu).ls
   ·refine or_congr .rfl (or_congr .rfl ⟨fun ⟨t,mt,w⟩=>⟨_,List.mem_map.mpr ⟨t,mt,rfl⟩,w⟩,fun ⟨t,mt,w⟩=>?_⟩)
    refine ae (List.mem_map.mp mt) fun u mu hh12_=>?_
    subst hh12_
    exact ⟨u,mu,w⟩
theorem ItR.stop {I:Addr} (x:ItR ρ H s.heap I J []) (S:St C ρ H s) (L:Loose C ρ s.heap J) (hh:A.handled=none) {E:Value→Shared→Prop} {Q:Option Value→Shared→Prop}
  (k:∀ s',St C ρ H s'→Lasts ρ H s.heap ρ H s'.heap→(∀ q o,¬ J q→s.heap.get? q=some o→s'.heap.get? q=some o)→Q none s'):wpAny (MM C) A (pyNext (.ref I)) Q E s:=by
 have fin:∀ h',(∀ q o,¬ J q→s.heap.get? q=some o→h'.get? q=some o)→(∀ b∈ρ.z,J b→∃ o,h'.get? b=some o)→Q none { s with heap:=h' }:=fun h' hk hz =>
  have T:=S.turnL (s':={ s with heap:=h' }) L hk hz rfl rfl
  k _ T.1 T.2 hk
 have fin1:(∀ a,J a↔a=I)→(∃ o,s.heap.get? I=some o∧∃ vs,o.data=.fields vs)→∀ h',Heap.ExtBut I s.heap h'→Q none { s with heap:=h' }:=fun j ⟨o,ho,vs,hd⟩ h' hs =>
  fin h' (fun q o n e=>hs q o (fun w=>n ((j q).mpr w)) e) fun b m q=>(L.nz q ((j b).mp q▸ho) hd m).elim
 generalize hw:([]:List V)=ws at x
 induction x using Mini.Internal.ItR.casesOn with
 | list a b c d j =>
  subst hw
  exact wpAny_pyNext_list_end hh a b (by simpa using d.dropNil) (fin1 j (ay a fun o ho _ hd=>⟨o,ho,_,hd⟩))
 | tup a b c d j =>
  subst hw
  exact wpAny_pyNext_tuple_end hh a b (by simpa using d.dropNil) (fin1 j (ay a fun o ho _ hd=>⟨o,ho,_,hd⟩))
 | @range x m a j =>
  induction m using Nat.casesAuxOn with
  | zero=>exact wpAny_pyNext_range_end hh a (by lia) (fin1 j ⟨_,a,_,rfl⟩)
  | succ m=>rw [List.range_succ_eq_map] at hw;cases hw
 | @enum it l items i vs₀ Z c d j =>
  induction vs₀ using List.casesOn with
  | cons u us=>cases hw
  | nil =>
   refine fg hh Z (by simpa using d.dropNil) fun h' hs=>fin h' (fun q o n e=>hs q o (fun w=>n ((j q).mpr (.inr w))) e) fun b m q=>?_
   refine Or.elim ((j b).mp q) (fun w=>?_) fun w=>?_
   ·exact (Z.obj.elim fun _ y=>y.elim fun _ y=>y.elim fun _ y=>L.nz q (w▸y.1) rfl m).elim
   ·exact (ay Z.it fun o ho hc hd=>L.nz q (w▸ho) hd m).elim
 | @zip TI TO its vss m Z a c d e l nd r q j =>
  induction m using Nat.casesAuxOn with
  | succ m=>cases hw
  | zero =>
   refine di hh Z e (r.ends q) fun h' hs=>fin h' (fun q o n w=>hs q o (fun w=>n ((j q).mpr (.inl w))) (fun t m w=>n ((j q).mpr (.inr (.inr ⟨t,m,w⟩)))) w) fun b m w=>?_
   rcases (j b).mp w with q | q | ⟨t,mt,q⟩
   ·exact (Z.obj.elim fun _ y=>y.elim fun _ y=>L.nz w (q▸y.1) rfl m).elim
   ·refine Z.to.elim fun arr y=>⟨eB arr,q▸hs _ _ (fun z=>?_) (fun t mt z=>(Z.its t mt).ne_i y.2 gf z.symm) y.2⟩
    refine Z.obj.elim fun _ x=>x.elim fun _ x=>eR ?_
    exact congrArg Obj.cls (Option.some.inj (x.1.symm.trans (z▸y.2)))
   ·exact (ay (Z.its t mt).it fun o ho hc hd=>L.nz w (q▸ho) hd m).elim
theorem ItR.again {I:Addr} {vs:List V} (x:ItR ρ H s.heap I J vs) {E:Value→Shared→Prop} {Q:Value→Shared→Prop} (k:Q (.ref I) s):wpAny (MM C) A (pyIter (.ref I)) Q E s:=by
 induction x using Mini.Internal.ItR.casesOn with
 | list a b c d=>exact wpAny_pyIter_listiter a k
 | tup a b c d=>exact wpAny_pyIter_tupleiter a k
 | range a=>exact wpAny_pyIter_rangeiter a k
 | enum Z c d j =>
  refine Z.obj.elim fun _ y=>y.elim fun _ y=>y.elim fun _ y=>?_
  have hT:s.TypeIs (.ref I) "enumerate" := ⟨_,y.1,rfl⟩
  refine wpAny_pyIter_slot hT F.slot_enumerate_iter (wpAny_call_entry F.slot_enumerate_iter hT F.entry_enumerate_iter ?_ (F.args_enumerate_iter_1 _))
  show wpAny _ _ (ret (.ref I)) _ _ s
  exact wpAny_pure ⟨_,rfl,"enumerate",_,hT,F.slot_enumerate_next.lookup,k⟩
 | zip Z a c d e l nd r q j=>exact gi Z k
theorem ItR.letGo {I:Addr} {vs:List V} (x:ItR ρ H s.heap I J vs) (S:St C ρ H s) (L:Loose C ρ s.heap J) {t:Expr} {v:Value} {E:Value→Shared→Prop} {Q:Unit→Shared→Prop} (k:∀ s',Turned C ρ H J s s'→ItR ρ H s'.heap I J vs→Q () s'):wpAny (MM C) A (letOwnedTupleGo t (.ref I) v) Q E s:=by
 have same:Turned C ρ H J s s:=⟨S,⟨List.prefix_refl _,fun _ _ t z=>⟨t,z⟩,fun _ _ t z=>⟨t,z⟩⟩,gQ L (fun _ _ _ e=>e) (fun b q=>ae (L.here b q) fun o e _=>⟨o,e⟩),L,fun _ _ _ e=>e⟩
 have k0:=k s same x
 have plain:(∃ (o:Obj) (nn:String) (vs:Array Value),s.heap.get? I=some o∧o.cls=.type nn∧o.data=.fields vs∧(["enumerate","zip","dict_itemiterator","dict_reverseitemiterator","odict_iterator","itertools.zip_longest","itertools.pairwise"].contains nn)=false)→wpAny (MM C) A (letOwnedTupleGo t (.ref I) v) Q E s:=fun key=>by
  refine jL key fun o nn fs ho hc hd hn=>?_
  have body:∀ y:Addr,wpAny (MM C) A (do
    let o ← load I
    match o.cls,o.data with
    | .type n,.fields vs =>
     if ["enumerate","zip","dict_itemiterator","dict_reverseitemiterator","odict_iterator","itertools.zip_longest","itertools.pairwise"].contains n&&vs[0]?==some (rawInt y) then
      rule "for.unpacks-the-owned-tuple"
      updateField I 0 .none
    | _,_=>pure ()) Q E s:=fun y=>by
   refine wpAny_bind (wpAny_load ho ?_)
   rw [hc,hd]
   show wpAny _ _ (if _=true then _ else _) _ _ _
   rw [hn,Bool.false_and,if_neg Bool.false_ne_true]
   exact wpAny_pure k0
  unfold letOwnedTupleGo
  induction t using PySem.Expr.casesOn<;>first | exact wpAny_pure k0 | (induction v using PySem.Value.casesOn<;>first | exact wpAny_pure k0 | exact body _)
 induction x using Mini.Internal.ItR.casesOn with
 | list a b c d=>exact plain (ay a fun o ho hc hd=>⟨o,_,_,ho,hc,hd,by decide⟩)
 | tup a b c d=>exact plain (ay a fun o ho hc hd=>⟨o,_,_,ho,hc,hd,by decide⟩)
 | range a=>exact plain ⟨_,_,_,a,rfl,rfl,by decide⟩
 | @enum it l items i vs₀ Z c d j =>
  obtain ⟨⟨f0,b,old,ho,hf⟩,hi,ht⟩:=Z
  refine sI (rest:=[.ref it,rawInt i,.none,old]) ho k0 fun h' ho' hs=>?_
  have hie:it≠I:=fun q=>by refine ay hi fun o h1 h2 _=>?_;rw [q,ho] at h1;cases h1;exact pg h2
  have T:Turned C ρ H J s { s with heap:=h' }:=L.turn S (fun b o n e=>(hs.2 _ fun q=>n ((j b).mpr (.inl q))).trans e) (fun b q=>by
   refine Or.elim ((j b).mp q) (fun w=>?_) fun w=>?_
   ·rw [w];exact ⟨_,ho',.inl ⟨av _,L.nz ((j _).mpr (.inl rfl)) ho rfl⟩⟩
   ·rw [w];exact ay hi fun o h1 hc hd=>⟨o,(hs.2 _ hie).trans h1,.inl ⟨hd▸av _,L.nz ((j _).mpr (.inr rfl)) h1 hd⟩⟩) rfl rfl
  refine k _ T (.enum ⟨⟨.none,b,old,ho',.inl rfl⟩,?_,(T.la.tup _ _ ht c).1⟩ c (d.lasts T.la) j)
  refine ae hi fun o h1 r=>?_;exact ⟨o,(hs.2 _ hie).trans h1,r⟩
 | @zip TI TO its vss m Z a c d e l nd r q j =>
  obtain ⟨⟨f0,b,ho,hf⟩,hti,⟨arr,ha,hto⟩,hits⟩:=Z
  refine sI (rest:=[.bool false,.ref TI,.ref TO]) ho k0 fun h' ho' hs=>?_
  have nTO:TO≠I:=fun z=>eR (congrArg Obj.cls (Option.some.inj (ho.symm.trans (z▸hto))))
  have T:Turned C ρ H J s { s with heap:=h' }:=L.turn S (fun b o n e=>(hs.2 _ fun q=>n ((j b).mpr (.inl q))).trans e) (fun b w=>by
   rcases (j b).mp w with w | w | ⟨t,mt,w⟩
   ·rw [w];exact ⟨_,ho',.inl ⟨av _,L.nz ((j _).mpr (.inl rfl)) ho rfl⟩⟩
   ·rw [w];exact ⟨_,(hs.2 _ nTO).trans hto,.inr ⟨⟨_,_,rfl⟩,d⟩⟩
   ·rw [w];exact ay (hits t mt).it fun o h1 hc hd=>⟨o,(hs.2 _ ((hits t mt).ne_i ho eS)).trans h1,.inl ⟨hd▸av _,L.nz ((j _).mpr (.inr (.inr ⟨t,mt,rfl⟩))) h1 hd⟩⟩) rfl rfl
  refine k _ T (.zip ⟨⟨.none,b,ho',.inl rfl⟩,(T.la.tup _ _ hti c).1,⟨arr,ha,(hs.2 _ nTO).trans hto⟩,fun t mt=>(hits t mt).at (fun o e=>(hs.2 _ ((hits t mt).ne_i ho eS)).trans e) fun o e=>(hs.2 _ ((hits t mt).ne_l ho k6)).trans e⟩ a c d e l nd (r.lasts (fun t mt=>(hits t mt).ls) T.la) q j)
end
theorem boot_range:bootBuiltins "range" = some (.type "range"):=by decide +kernel
section
variable {sc:Scope} {env:Env} {lo:Lo} {A:Around} {R:Sems} {n:Nat} {f:Nat} {ρ ρ':Rh} {H H':Hp} {s s':Shared} {W J:Addr→Prop} {a D:Addr}
theorem iE (S:St C ρ H s) {v:V} {vs:List V} {xv:Value} (r:VR ρ H s.heap v xv) (h:items v=some vs) {E:Value→Shared→Prop} {Q:Value→Shared→Prop}
  (k:∀ I s',St C ρ H s'→Nx no ρ H s ρ H s'→ItR ρ H s'.heap I (· = I) vs→Loose C ρ s'.heap (· = I)→s.heap.get? I=none→Q (.ref I) s'):wpAny (MM C) A (pyIter xv) Q E s:=by
 rcases c6 h with rfl | rfl
 ·cases h
  cases r with
  | tup t z rr =>
   refine wpAny_pyIter_tuple t ?_
   obtain ⟨S',N⟩:=S.grow (s':={ s with heap:=s.heap.push { cls:=.type "tuple_iterator",data:=.fields #[.ref _,.int 0 0] } }) (fun a o e=>Heap.get?_push_of_some _ e) rfl rfl
   have La:=N.lasts S
   exact k _ _ S' N (.tup ⟨_,Heap.get?_push_size _ rfl,rfl,rfl⟩ (La.tup _ _ t z).1 z (by simpa using rr.lasts La) fun _=>.rfl) (Loose.made S (Heap.get?_push_size _ rfl) (av _) (ai _)) (ai _)
 ·cases h
  refine VR.lstE r fun {_ _} t nn rr=>?_
  ·
   refine wpAny_pyIter_list t ?_
   obtain ⟨S',N⟩:=S.grow (s':={ s with heap:=s.heap.push { cls:=.type "list_iterator",data:=.fields #[.ref _,.int 0 0] } }) (fun a o e=>Heap.get?_push_of_some _ e) rfl rfl
   have La:=N.lasts S
   exact k _ _ S' N (.list ⟨_,Heap.get?_push_size _ rfl,rfl,rfl⟩ (La.lst _ _ t nn).1 nn (by simpa using rr.lasts La) fun _=>.rfl) (Loose.made S (Heap.get?_push_size _ rfl) (av _) (ai _)) (ai _)
theorem gv (S:St C ρ H s) {r:Addr} {a b:Int} {t u w:Tok} (hr:IsRange s.heap r a b 1 t u w) (ha:aM a=true) (hb:aM b=true) {E:Value→Shared→Prop} {Q:Value→Shared→Prop}
  (k:∀ I s',St C ρ H s'→Nx no ρ H s ρ H s'→ItR ρ H s'.heap I (· = I) ((List.range (b - a).toNat).map fun (j:Nat)=>V.int (a + (j:Int)))→Loose C ρ s'.heap (· = I)→s.heap.get? I=none→Q (.ref I) s'):wpAny (MM C) A (pyIter (.ref r)) Q E s:=by
 have ha:=gP ha
 have hb:=gP hb
 refine wpAny_pyIter_range hr (small_one (by lia) (by lia) (by lia) (by lia)) ?_
 refine aw (S.grow (s':={ s with heap:=s.heap.push { cls:=.type "range_iterator",data:=.fields #[rawInt a,rawInt (Builtin.Range.rangeSize a b 1),rawInt 1] } }) (fun a o e=>Heap.get?_push_of_some _ e) rfl rfl) fun S' N=>?_
 refine k _ _ S' N (.range ?_ fun _=>.rfl) (Loose.made S (Heap.get?_push_size _ rfl) (av _) (ai _)) (ai _)
 have e:(((b - a).toNat:Nat):Int)=Builtin.Range.rangeSize a b 1:=by rw [rangeSize_one];split<;>lia
 rw [e]
 exact Heap.get?_push_size _ rfl
theorem ux (K:CfgOK C gG) (EV:bJ C n R) {e:E} {x:Expr} {vs:List V} (hm:qj (mtE f) sc e x=true) (h:rK R e lo H=some (vs,H'))
  (r:aS n A) (S:St C ρ H s) (X:EnvOK C sc env ρ H s.heap lo) {E:Value→Shared→Prop} {Q:Value→Shared→Prop}
  (k:∀ I s' ρ',St C ρ' H' s'→Nx no ρ H s ρ' H' s'→ItR ρ' H' s'.heap I (· = I) vs→Loose C ρ' s'.heap (· = I)→s.heap.get? I=none→Q (.ref I) s') :
  wpAny (MM C) A (eval x env) (fun xv s₁=>wpAny (MM C) A (pyIter xv) Q E s₁) E s:=by
 unfold qj at hm
 unfold rK at h
 cases hp:e.range? with
 | none =>
  rw [hp] at hm h
  refine bpE h fun v H1 h1 h=>?_
  (refine msE h fun l h2 hh_=>?_;clear h;revert hh_;intro h)
  (revert k;apply dw h;clear h;intro k)
  refine EV f sc env e x lo H v _ hm h1 A s ρ r S X E _ fun y s₁ ρ₁ S₁ N₁ r₁=>?_
  exact iE S₁ r₁ h2 fun I s₂ S₂ N₂ it L ab=>k I s₂ ρ₁ S₂ (N₁.trans N₂) it L (N₁.none_of ab)
 | some l =>
  rw [hp] at hm h
  have hx:=bp (aj hm)
  have hm':=cB (aq hm)
  refine ay (aH hm'.1) fun pp hy hl hd=>?_
  rw [hx,show bk 11 (pt x)=.Call (pt x).a (pt x).l [] (pt x).p from rfl,hy]
  refine bpE h fun ws H1 h1 h=>?_
  (refine bsE h fun is hi hh_=>?_;clear h;revert hh_;intro h)
  (refine msE h fun l h2 hh_=>?_;clear h;revert hh_;intro h)
  (revert k;apply dw h;clear h;intro k)
  refine Call_Name rfl ?_
  refine wpAny_Name (aD K X S hl (by decide +kernel) boot_range ?_) hd
  refine ck K EV (bo _) hm'.2 h1 r S X fun ys s₁ ρ₁ S₁ N₁ r₁=>?_
  refine ae (c7 r₁ hi) fun ps e1 e2=>?_
  induction ps using List.casesOn with
  | nil=>cases e2;exact nn h2
  | cons u ps=>induction ps using List.casesOn with
   | nil =>
    cases e1;cases e2
    (refine itE h2 fun hk hh_=>?_;clear h2;revert hh_;intro h2)
    cases h2
    refine call_range_1 ?_
    have G:=S₁.grow (s':={ s₁ with heap:=s₁.heap.push { cls:=.type "range",data:=.fields #[.int 0 s₁.toks,.int u.1 u.2,.int 1 (s₁.toks + 1)] },toks:=s₁.toks + 1 + 1 }) (fun a o e=>Heap.get?_push_of_some _ e) rfl rfl
    refine gv G.1 (IsRange.new _ _ _ _ _ _ _) (by decide) (aq hk) fun I s₃ S₃ N₃ it L ab=>?_
    have e:((List.range (u.1 - 0).toNat).map fun (j:Nat)=>V.int (0 + (j:Int)))=(List.range u.1.toNat).map fun (i:Nat)=>V.int (i:Int):=by simp
    rw [e] at it
    exact k I s₃ ρ₁ S₃ ((N₁.trans G.2).trans N₃) it L (N₁.none_of (G.2.none_of ab))
   | cons w ps=>induction ps using List.casesOn with
    | cons _ _=>cases e2;exact nn h2
    | nil =>
     cases e1;cases e2
     (refine itE h2 fun hk hh_=>?_;clear h2;revert hh_;intro h2)
     cases h2
     refine call_range_2 ?_
     have G:=S₁.grow (s':={ s₁ with heap:=s₁.heap.push { cls:=.type "range",data:=.fields #[.int u.1 u.2,.int w.1 w.2,.int 1 s₁.toks] },toks:=s₁.toks + 1 }) (fun a o e=>Heap.get?_push_of_some _ e) rfl rfl
     refine gv G.1 (IsRange.new _ _ _ _ _ _ _) (aq (aj hk)) (aq hk) fun I s₃ S₃ N₃ it L ab=>?_
     exact k I s₃ ρ₁ S₃ ((N₁.trans G.2).trans N₃) it L (N₁.none_of (G.2.none_of ab))
theorem St.hide (S:St C ρ H s) {o:Obj} (hD0:s.heap.get? D=none) (hk:∀ b o,s.heap.get? b=some o→s'.heap.get? b=some o) (hD:s'.heap.get? D=some o) (hg:s'.gens=s.gens) (hos:s'.os=s.os):St C ⟨ρ.l,D :: ρ.z⟩ H s'∧Lasts ρ H s.heap ⟨ρ.l,D :: ρ.z⟩ H s'.heap:=by
 have F:=S.freshAt hD0
 have Lat:Lasts ρ H s.heap ⟨ρ.l,D :: ρ.z⟩ H s'.heap:=by
  refine ⟨List.prefix_refl _,fun a items t z=>⟨?_,fun q=>?_⟩,fun a items t m=>⟨?_,fun q=>?_⟩⟩
  ·refine ae t fun o ho q=>?_;exact ⟨o,hk a o ho,q⟩
  ·refine Or.elim (List.mem_cons.mp q) (fun e=>?_) fun q=>?_
   ·refine ae t fun o ho _=>?_;exact bw hD0 ho e
   ·exact z q
  ·refine ae t fun o ho q=>?_;exact ⟨o,hk a o ho,q⟩
  ·refine Or.elim q (fun q=>?_) fun q=>?_
   ·exact m (.inl q)
   ·refine Or.elim (List.mem_cons.mp q) (fun e=>?_) fun q=>?_
    ·refine ae t fun o ho _=>?_;exact bw hD0 ho e
    ·exact m (.inr q)
 refine ⟨⟨fun a o e=>hk a o (S.base a o e),hg.trans S.gens,hos.trans S.os,S.len,fun i o p h1 h2=>(S.objs i o p h1 h2).lasts Lat (fun y e=>hk _ y e) (fun y e=>hk _ y e),S.apart,S.new,fun a ha=>?_,fun a ha i p hp=>?_,fun i p hp=>?_⟩,Lat⟩
 ·refine Or.elim (List.mem_cons.mp ha) (fun e=>?_) fun ha=>?_
  ·rw [e];exact ⟨⟨_,hD⟩,F.base⟩
  ·refine aw (S.hid a ha) fun hh3_ b=>?_
   refine aG hh3_ fun o ho=>?_
   exact ⟨⟨o,hk a o ho⟩,b⟩
 ·refine Or.elim (List.mem_cons.mp ha) (fun e=>?_) fun ha=>?_
  ·rw [e];exact F.ne i p hp
  ·exact S.zap a ha i p hp
 ·refine aw (S.here i p hp) fun hh4_ hh5_=>?_
  refine aG hh5_ fun x2 hx2=>?_
  refine aG hh4_ fun x1 hx1=>?_
  exact ⟨⟨x1,hk _ _ hx1⟩,x2,hk _ _ hx2⟩
structure Begun (C:Cfg) (sc:Scope) (env:Env) (ρ:Rh) (H:Hp) (s:Shared) (lo:Lo) (vs:List V) (I:Addr) (J:Addr→Prop) (T:List Addr) (l:List (Addr×Addr)) (H':Hp) (s':Shared):Prop where
 st:St C ⟨l,T++ρ.z⟩ H' s'
 nx:Nx no ρ H s ⟨l,ρ.z⟩ H' s'
 env:EnvOK C sc env ⟨l,T++ρ.z⟩ H' s'.heap lo
 it:ItR ⟨l,T++ρ.z⟩ H' s'.heap I J vs
 lo:Loose C ⟨l,T++ρ.z⟩ s'.heap J
 new:∀ a,J a→s.heap.get? a=none
 newT:∀ a∈T,s.heap.get? a=none
class inductive ZL (ρ:Rh) (H:Hp) (h:Heap):List (Addr×Array Value)→List (List V)→Prop
 | nil:ZL ρ H h [] []
 | cons {p:Addr×Array Value} {vs:List V} {ps:List (Addr×Array Value)} {vss:List (List V)}:h.IsList p.1 p.2→¬ Shy ρ H p.1→VRs ρ H h vs p.2.toList→ZL ρ H h ps vss→ZL ρ H h (p :: ps) (vs :: vss)
theorem fA {h:Heap} {vs:List V}:∀ {ys:List Value} {vss:List (List V)},VRs ρ H h vs ys→sG vs=some vss→∃ ls:List (Addr×Array Value),ys=ls.map (fun p=>Value.ref p.1)∧ZL ρ H h ls vss:=by
 induction vs with
 | nil=>intro ys vss r e;cases r;cases e;exact ⟨[],rfl,.nil⟩
 | cons v vs ih =>
  intro ys vss r e
  refine bsE e fun l hl e=>?_
  refine msE e fun us hu e=>?_
  cases r with
  | cons r rs =>
   rw [aZ hl] at r
   refine ae (ih rs hu) fun ls e1 z=>?_
   rw [← e,e1]
   exact VR.lstE r fun {a its} t nn rr=>⟨(a,its) :: ls,rfl,.cons t nn rr z⟩
theorem ZL.lists {h:Heap} {ls:List (Addr×Array Value)} {vss:List (List V)} (x:ZL ρ H h ls vss):(∀ p∈ls,h.IsList p.1 p.2)∧ls.length=vss.length:=by
 induction x with
 | nil=>exact ⟨(fun _ m=>by cases m),rfl⟩
 | cons a _ _ _ ih =>
  refine ⟨fun p m=>?_,congrArg (· + 1) ih.2⟩
  refine Or.elim (List.mem_cons.mp m) (fun e=>?_) fun m=>?_
  ·rw [e];exact a
  ·exact ih.1 p m
theorem ZL.zr {h h':Heap} {ls:List (Addr×Array Value)} {vss:List (List V)} (x:ZL ρ H h ls vss) (L:Lasts ρ H h ρ' H' h'):∀ {its:List ZI},its.map (fun t=>(t.l,t.xs,t.c))=ls.map (fun p=>(p.1,p.2,0))→ZR ρ' H' h' its vss:=by
 induction x with
 | nil =>
  intro its e
  induction its using List.casesOn with
  | nil=>exact .nil
  | cons _ _=>cases e
 | @cons p vs ps vss a b c _ ih =>
  intro its e
  induction its using List.casesOn with
  | nil=>cases e
  | cons t ts =>
   injection e with e1 e2
   have e3:t.l=p.1:=congrArg Prod.fst e1
   have e4:t.xs=p.2:=congrArg (fun q=>q.2.1) e1
   have e5:t.c=0:=congrArg (fun q=>q.2.2) e1
   exact .cons (e3▸(L.lst _ _ a b).2) (by rw [e4,e5];exact c.lasts L) (ih e2)
theorem EnvOK.keepL {h h':Heap} (X:EnvOK C sc env ρ H h lo) (L:Lasts ρ H h ρ' H' h') (kl:∀ o,h.get? env.locals=some o→h'.get? env.locals=some o)
  (kc:∀ x c,(sc.names.lookup x=some .cell∨sc.names.lookup x=some .free)→env.cells.lookup x=some c→∀ o,h.get? c=some o→h'.get? c=some o)
  (cl:(∀ (i:Nat) (p:Addr×Addr),ρ'[i]?=some p→p.1≠env.locals∧p.2≠env.locals)∧env.locals∉ρ'.z) (ow:¬ Own ρ' H' env.locals∧∀ x c,(sc.names.lookup x=some .cell∨sc.names.lookup x=some .free)→env.cells.lookup x=some c→¬ Own ρ' H' c):EnvOK C sc env ρ' H' h' lo:=by
 refine ⟨X.kind,X.glob,X.blt,X.loc,fun x hx=>?_,fun x hx=>?_,X.glo,?_,fun i v hi hk=>?_,ow,X.new,X.apart,cl⟩
 ·refine c5 (X.cel x hx) fun a c v₀ e q=>?_
  exact ⟨a,c,v₀,e,au (kc x c (.inl hx) e) q⟩
 ·refine c5 (X.fre x hx) fun a c v₀ e q=>?_
  exact ⟨a,c,v₀,e,au (kc x c (.inr hx) e) q⟩
 ·refine ae X.ns fun m hm q=>?_
  exact ⟨m,jj kl hm,fun i v hi hk=>ae (q i v hi hk) fun x e r=>⟨x,e,r.lasts L⟩⟩
 ·refine aW (X.cv i v hi hk) fun c x e q r=>?_
  exact ⟨c,x,e,au (kc _ c hk e) q,r.lasts L⟩
theorem EnvOK.hidden (X:EnvOK C sc env ρ H s.heap lo) (S:St C ρ H s) {o:Obj} (hD0:s.heap.get? D=none) (hk:∀ b o,s.heap.get? b=some o→s'.heap.get? b=some o) (hD:s'.heap.get? D=some o) (hg:s'.gens=s.gens) (hos:s'.os=s.os):EnvOK C sc env ⟨ρ.l,D :: ρ.z⟩ H s'.heap lo:=by
 have T:=S.hide hD0 hk hD hg hos
 refine X.keepL T.2 (fun o e=>hk _ o e) (fun x c _ _ o e=>hk _ o e) ⟨X.clr.1,fun m=>?_⟩ X.free
 refine Or.elim (List.mem_cons.mp m) (fun e=>?_) fun m=>?_
 ·refine ae X.ns fun m hm _=>?_
  refine iX hm fun o' _ _ ho' _=>?_
  exact bw hD0 ho' e
 ·exact X.clr.2 m
theorem hY (S:St C ρ H s) (X:EnvOK C sc env ρ H s.heap lo) {vs:List V} {ys:List Value} {vss:List (List V)} {l:List V} (r:VRs ρ H s.heap vs ys) (h1:sG vs=some vss) (h2:tj vss=some l) {E:Value→Shared→Prop} {Q:Value→Shared→Prop}
  (k:∀ I J T s',Begun C sc env ρ H s lo l I J T ρ.l H s'→(∃ f0 b TI TO,s'.heap.get? I=some (r9 f0 b TI TO))→Q (.ref I) s'):wpAny (MM C) A (call (.type "zip") ys) Q E s:=by
 refine ae (fA r h1) fun ls hh6_ z=>?_
 subst hh6_
 induction vss using List.casesOn with
 | nil=>exact nn h2
 | cons l0 vss =>
  (refine itE h2 fun hc hh_=>?_;clear h2;revert hh_;intro h2)
  have hc1:=aj hc
  have hc2:=aj (aq hc)
  have hl:=z.lists
  have hlen:ls.length≤3:=by rw [hl.2];exact Nat.succ_le_succ (Nat.le_of_ble_eq_true hc2)
  refine kR hlen hl.1 fun h' zz TI TO its M=>?_
  refine Exists.elim M.at_.to fun arr hto=>?_
  have T:=S.hide (s':={ s with heap:=h' }) M.new.2.2.1 M.keep hto.2 rfl rfl
  have ni:its.length=ls.length:=by have:=congrArg List.length M.ls;simpa using this
  have nTO:∀ {b:Addr} {o:Obj},h'.get? b=some o→o.cls≠.type "tuple"→b≠TO:=fun e n q=>n (congrArg Obj.cls (Option.some.inj (e.symm.trans (q▸hto.2))))
  have nz:∀ {b:Addr} {o:Obj},s.heap.get? b=none→h'.get? b=some o→o.cls≠.type "tuple"→b∉TO :: ρ.z:=fun e0 e n m=>by
   refine Or.elim (List.mem_cons.mp m) (fun q=>?_) fun q=>?_
   ·exact nTO e n q
   ·exact (S.freshAt e0).z q
  refine k zz (fun a=>a=zz∨a=TO∨∃ t∈its,a=t.i) [TO] _ ⟨T.1,(S.grow (s':={ s with heap:=h' }) M.keep rfl rfl).2,X.hidden S (s':={ s with heap:=h' }) M.new.2.2.1 M.keep hto.2 rfl rfl,?_,Loose.mk' S (fun b q=>?_) (fun b q=>?_),fun b q=>?_,fun b m=>?_⟩ (M.at_.obj.elim fun f0 x=>x.elim fun b x=>⟨f0,b,TI,TO,x.1⟩)
  ·rw [← Option.some.inj h2]
   refine .zip M.at_ M.ne (fun m=>?_) List.mem_cons_self (fun e=>?_) (by rw [ni];lia) M.nd (z.zr T.2 M.ls) (fun l m=>?_) fun _=>.rfl
   ·refine Or.elim (List.mem_cons.mp m) (fun q=>?_) fun q=>?_
    ·exact M.ne q
    ·exact (S.freshAt M.new.2.1).z q
   ·rw [e] at ni
    have:=hl.2
    rw [← ni] at this
    cases this
   ·refine Or.elim (List.mem_cons.mp m) (fun q=>?_) fun q=>?_
    ·rw [q]
    ·exact Nat.eq_of_beq_eq_true (List.all_eq_true.mp hc1 l q)
  ·rcases q with q | q | ⟨t,m,q⟩
   ·rw [q];exact M.new.1
   ·rw [q];exact M.new.2.2.1
   ·rw [q];exact M.new.2.2.2 t m
  ·rcases q with q | q | ⟨t,m,q⟩
   ·rw [q];exact M.at_.obj.elim fun _ y=>y.elim fun _ y=>⟨_,y.1,.inl ⟨av _,nz M.new.1 y.1 eR⟩⟩
   ·rw [q];exact ⟨_,hto.2,.inr ⟨⟨_,_,rfl⟩,List.mem_cons_self⟩⟩
   ·rw [q];exact ay (M.at_.its t m).it fun o ho hc hd=>⟨o,ho,.inl ⟨hd▸av _,nz (M.new.2.2.2 t m) ho (by rw [hc];decide)⟩⟩
  ·rcases q with q | q | ⟨t,m,q⟩
   ·rw [q];exact M.new.1
   ·rw [q];exact M.new.2.2.1
   ·rw [q];exact M.new.2.2.2 t m
  ·rw [List.mem_singleton.mp m];exact M.new.2.2.1
end
theorem boot_zip:bootBuiltins "zip" = some (.type "zip"):=by decide +kernel
theorem pQ:bootBuiltins "enumerate" = some (.type "enumerate"):=by decide +kernel
theorem mE:("zip" : Str)∈cg:=by decide +kernel
theorem uQ:("enumerate" : Str)∈cg:=by decide +kernel
theorem nh {l:List Expr} {z:Expr} (h:qI l=some z):∃ p,l=[.Starred z p]:=by
 induction l using List.casesOn with
 | nil=>exact nn h
 | cons x l =>
  induction l using List.casesOn with
  | cons _ _=>induction x using PySem.Expr.casesOn<;>exact nn h
  | nil=>induction x using PySem.Expr.casesOn<;>first | exact nn h | (cases h;exact ⟨_,rfl⟩)
section
variable {sc:Scope} {env:Env} {lo:Lo} {A:Around} {R:Sems} {n:Nat} {f:Nat} {ρ ρ':Rh} {H H':Hp} {s s':Shared}
theorem Begun.after {ρ₁:Rh} {H₁:Hp} {s₁:Shared} {vs:List V} {I:Addr} {J:Addr→Prop} {T:List Addr} {l:List (Addr×Addr)} (N:Nx no ρ H s ρ₁ H₁ s₁) (B:Begun C sc env ρ₁ H₁ s₁ lo vs I J T l H' s'):Begun C sc env ρ H s lo vs I J T l H' s':=by
 have z:=N.z
 obtain ⟨l1,z1⟩:=ρ₁
 replace z:z1=ρ.z:=z
 subst z
 exact ⟨B.st,N.trans B.nx,B.env,B.it,B.lo,fun a q=>N.none_of (B.new a q),fun a m=>N.none_of (B.newT a m)⟩
theorem ji {vs:List V} {I:Addr} {ρ':Rh} (S:St C ρ H s) (X:EnvOK C sc env ρ H s.heap lo) (S':St C ρ' H' s') (N:Nx no ρ H s ρ' H' s') (it:ItR ρ' H' s'.heap I (· = I) vs) (L:Loose C ρ' s'.heap (· = I)) (ab:s.heap.get? I=none):Begun C sc env ρ H s lo vs I (· = I) [] ρ'.l H' s':=by
 have X':=X.next S N
 have z:=N.z
 obtain ⟨l1,z1⟩:=ρ'
 replace z:z1=ρ.z:=z
 subst z
 exact ⟨S',N,X',it,L,fun a q=>q▸ab,fun a m=>by cases m⟩
theorem wF (K:CfgOK C gG) (EV:bJ C n R) {e:E} {x:Expr} {vs:List V} (hm:oo (mtE f) sc e x=true) (h:lV R e lo H=some (vs,H'))
  (r:aS n A) (S:St C ρ H s) (X:EnvOK C sc env ρ H s.heap lo) {E:Value→Shared→Prop} {Q:Value→Shared→Prop}
  (k:∀ I J T l s',Begun C sc env ρ H s lo vs I J T l H' s'→Q (.ref I) s') :
  wpAny (MM C) A (eval x env) (fun xv s₁=>wpAny (MM C) A (pyIter xv) Q E s₁) E s:=by
 unfold oo at hm
 unfold lV at h
 generalize e.iter?=it? at hm h
 induction it? using Option.casesOn with
 | none=>exact ux K EV hm h r S X fun I s' ρ' S' N it L ab=>k I _ [] ρ'.l s' (ji S X S' N it L ab)
 | some i =>
 induction i using Iter.casesOn with
 | zip l =>
  have hx:=bp (aj hm)
  have hm':=cB (aq hm)
  refine ay (aH hm'.1) fun pp hy hl hd=>?_
  rw [hx,show bk 11 (pt x)=.Call (pt x).a (pt x).l [] (pt x).p from rfl,hy]
  refine bpE h fun ws H1 h1 h=>?_
  refine bsE h fun ls hi h=>?_
  refine msE h fun l' h2 h=>?_
  (revert k;apply dw h;clear h;intro k)
  refine Call_Name rfl ?_
  refine wpAny_Name (aD K X S hl mE boot_zip ?_) hd
  refine ck K EV (bo _) hm'.2 h1 r S X fun ys s₁ ρ₁ S₁ N₁ r₁=>?_
  exact hY S₁ (X.next S N₁) r₁ hi h2 fun I J T s' B _=>B.it.again (k I J T _ s' (B.after N₁))
 | zips e =>
  have hx:=bp (aj hm)
  have hm':=cB (aq hm)
  refine ay (aH hm'.1) fun pp hy hl hd=>?_
  refine ae ((show ∃ y,qI (pt x).l=some y∧mtE f sc e y=true from by
   have:=hm'.2
   cases q:qI (pt x).l with
   | none=>rw [q] at this;cases this
   | some y=>rw [q] at this;exact ⟨y,rfl,this⟩)) fun y hy1 hy2=>?_
  refine aG (nh hy1) fun p hl1=>?_
  rw [hx,show bk 11 (pt x)=.Call (pt x).a (pt x).l [] (pt x).p from rfl,hy,hl1]
  refine bpE h fun w H1 h1 h=>?_
  refine bsE h fun ws hw h=>?_
  refine bsE h fun ls hi h=>?_
  refine msE h fun l' h2 h=>?_
  (revert k;apply dw h;clear h;intro k)
  refine Call_Name rfl ?_
  refine wpAny_Name (aD K X S hl mE boot_zip ?_) hd
  rw [show starEach [.Starred y p] env=[(true,eval y env)] from rfl]
  refine W.ks_call (P:=C.K.In) rfl (bo _) (W.ks_lone ?_)
  refine EV f sc env e y lo H w H1 hy2 h1 A s ρ r S X E _ fun y₁ s₁ ρ₁ S₁ N₁ r₁=>?_
  rw [aZ hw] at r₁
  refine VR.lstE r₁ fun {a its} t nn rr=>?_
  refine t5 t fun o ho hc m hd'=>?_
  have hT:s₁.TypeIs (.ref a) "list" := ⟨o,ho,hc⟩
  have hz:its.size≤sizeLine:=by
   refine ae (fA rr hi) fun us e1 z=>?_
   have e2:=congrArg List.length e1
   rw [List.length_map,z.lists.2,Array.length_toList] at e2
   rw [e2,af]
   induction ls using List.casesOn with
   | nil=>exact Nat.zero_le _
   | cons l0 ls =>
    have:=Nat.le_of_ble_eq_true (aj (aq (dN h2).1))
    rw [List.length_cons];lia
  refine wpAny_bind (wpAny_specialOf hT PySem.F.slot_list_iter.lookup (wpAny_pure ⟨rfl,?_⟩))
  refine wpAny_collect_seq a (.inl rfl) ho hc hd' (fun h' hk=>?_) hz
  have G:=S₁.grow (s':={ s₁ with heap:=h' }) hk rfl rfl
  refine ⟨K.X.keeps G.1.base,?_⟩
  exact hY G.1 ((X.next S N₁).next S₁ G.2) (rr.lasts (G.2.lasts S₁)) hi h2 fun I J T s' B _=>B.it.again (k I J T _ s' (B.after (N₁.trans G.2)))
 | enum e =>
  have hx:=bp (aj hm)
  have hm':=cB (aq hm)
  refine ay (aH hm'.1) fun pp hy hl hd=>?_
  rw [hx,show bk 11 (pt x)=.Call (pt x).a (pt x).l [] (pt x).p from rfl,hy]
  refine bpE h fun w H1 h1 h=>?_
  refine msE h fun l' h2 h=>?_
  (revert k;apply dw h;clear h;intro k)
  refine Call_Name rfl ?_
  refine wpAny_Name (aD K X S hl uQ pQ ?_) hd
  refine ck K EV (bo _) (es:=[e]) (vs:=[w]) hm'.2 (show (R.ev e lo H).bind _=some ([w],H1) by rw [h1];rfl) r S X fun ys s₁ ρ₁ S₁ N₁ r₁=>?_
  refine ae r₁.one fun y e3 rx=>?_
  rw [e3]
  rw [eX h2] at rx
  refine VR.tupE rx fun {a its} t z rr=>?_
  refine pN t fun h' e it M=>?_
  have G:=S₁.grow (s':={ s₁ with heap:=h' }) M.keep rfl rfl
  have La:=G.2.lasts S₁
  have itR:ItR ρ₁ H1 h' e (fun a=>a=e∨a=it) (jz 0 l'):=.enum M.at_ z (by simpa using rr.lasts La) fun _=>.rfl
  refine ItR.again (s:={ s₁ with heap:=h' }) itR ?_
  have X₁:=X.next S N₁
  have B:Begun C sc env ρ₁ H1 s₁ lo (jz 0 l') e (fun a=>a=e∨a=it) [] ρ₁.l H1 { s₁ with heap:=h' }:=by
   refine ⟨G.1,G.2,X₁.next S₁ G.2,itR,Loose.mk' S₁ (fun b q=>?_) (fun b q=>?_),fun b q=>?_,fun b m=>by cases m⟩
   ·refine Or.elim q (fun q=>?_) fun q=>?_
    ·rw [q];exact M.new.1
    ·rw [q];exact M.new.2
   ·refine Or.elim q (fun q=>?_) fun q=>?_
    ·rw [q];exact M.at_.obj.elim fun _ y=>y.elim fun _ y=>y.elim fun _ y=>⟨_,y.1,.inl ⟨av _,(S₁.freshAt M.new.1).z⟩⟩
    ·rw [q];exact ay M.at_.it fun o ho hc hd=>⟨o,ho,.inl ⟨hd▸av _,(S₁.freshAt M.new.2).z⟩⟩
   ·refine Or.elim q (fun q=>?_) fun q=>?_
    ·rw [q];exact M.new.1
    ·rw [q];exact M.new.2
  exact k e _ [] _ _ (B.after N₁)
end
section
variable {sc:Scope} {env:Env} {lo:Lo} {A:Around} {R:Sems} {n:Nat} {f:Nat} {ρ ρ':Rh} {H H':Hp} {s s':Shared} {W:Addr→Prop} {a:Addr}
theorem Nx.close {s₀ s₁ s₂:Shared} {ρ₀ ρ₁:Rh} {H₀ H₁:Hp} (N:Nx no ρ H s ρ₀ H₀ s₀) (N1:Nx W ρ₀ H₀ s₀ ρ₁ H₁ s₁) (hw:∀ q,W q→s.heap.get? q=none) (hk:∀ q o,¬ W q→s₁.heap.get? q=some o→s₂.heap.get? q=some o):Nx no ρ H s ρ₁ H₁ s₂ where
 ext:=N.ext.trans N1.ext
 z:=N1.z.trans N.z
 keep:=fun q o e nn _=>by
  have e0:=N.keep q o e nn id
  have w:¬ W q:=fun w=>by rw [hw q w] at e;cases e
  have n0:¬ Own ρ₀ H₀ q:=fun m=>(N.fresh q m).elim nn fun z=>by rw [e] at z;cases z
  exact hk q o w (N1.keep q o e0 n0 w)
 fresh:=fun q m=>(N1.fresh q m).elim (N.fresh q) fun z=>.inr (N.none_of z)
 pres:=fun q o e=>by
  refine aG (N.pres q o e) fun o0 e0=>?_
  refine aG (N1.pres q o0 e0) fun o1 e1=>?_
  exact ⟨o1,hk q o1 (fun w=>by rw [hw q w] at e;exact nn e) e1⟩
 wdata:=fun _ _ w=>w.elim
 news:=fun i q e=>(N1.news i q e).elim (N.news i q) fun z=>.inr ⟨N.none_of z.1,N.none_of z.2⟩
theorem Nx.mono {W':Addr→Prop} (N:Nx W ρ H s ρ' H' s') (h:∀ q,W q→W' q) (wd:∀ a o,W' a→s.heap.get? a=some o→(∀ xs n,o.data≠.seq xs n)∨a∈ρ.z):Nx W' ρ H s ρ' H' s' :=
 ⟨N.ext,N.z,fun q o e nn w=>N.keep q o e nn fun x=>w (h q x),N.fresh,N.pres,wd,N.news⟩
theorem uX {vs:List V} {s:Shared} {I:Addr} {J:Addr→Prop} (it:ItR ρ H s.heap I J vs) (S:St C ρ H s) (L:Loose C ρ s.heap J) {E:Value→Shared→Prop} {Q:List Value→Shared→Prop}
  (k:∀ ys s',St C ρ H s'→Nx J ρ H s ρ H s'→ItR ρ H s'.heap I J []→Loose C ρ s'.heap J→VRs ρ H s'.heap vs ys→Q ys s'):wpAny (MM C) A (draw (.ref I) vs.length) Q E s:=by
 induction vs generalizing s Q with
 | nil=>exact wpAny_pure (k [] s S (gQ L (fun _ _ _ e=>e) (fun b q=>ae (L.here b q) fun o e _=>⟨o,e⟩)) it L .nil)
 | cons v vs ih =>
  show wpAny _ _ (pyNext (.ref I)>>=_) _ _ _
  refine wpAny_bind (it.step S L fun y s₁ Y=>wpAny_bind (wpAny_holding (ih Y.it Y.t.st Y.t.lo fun ys s₂ S₂ N₂ it₂ L₂ r₂=>wpAny_pure ?_)))
  exact k _ s₂ S₂ (Y.t.nx.trans N₂) it₂ L₂ (.cons (Y.v.lasts (N₂.lasts Y.t.st)) r₂)
theorem oR {v:V} {vs:List V} {xv:Value} (r:VR ρ H s.heap v xv) (h:items v=some vs):∃ T id,s.TypeIs xv T∧Slot T "__iter__" id:=by
 rcases c6 h with rfl | rfl
 ·cases r with
  | tup t _ rr=>exact ⟨_,_,t.typeIs,F.slot_tuple_iter⟩
 ·cases r with
  | lst t nn rr=>exact ⟨_,_,t.typeIs,slot_list_iter⟩
theorem ib (S:St C ρ H s) {v:V} {vs:List V} {xv:Value} (hh:A.handled=none) (r:VR ρ H s.heap v xv) (h:items v=some vs) {E:Value→Shared→Prop} {Q:List Value→Shared→Prop}
  (k:∀ ys s',St C ρ H s'→Nx no ρ H s ρ H s'→VRs ρ H s'.heap vs ys→Q ys s'):wpAny (MM C) A (unpackItems xv vs.length none) Q E s:=by
 refine aX (oR r h) fun T id hT slot=>?_
 unfold unpackItems
 refine wpAny_bind ?_
 unfold notIterableAtAll
 refine wpAny_bind (wpAny_specialOf hT slot.lookup ?_)
 refine wpAny_pure ?_
 simp only [Bool.false_eq_true,if_false]
 refine wpAny_bind (wpAny_holding (iE S r h fun I s₁ S₁ N₁ it₁ L₁ ab=>?_))
 refine wpAny_bind (wpAny_holding (uX it₁ S₁ L₁ fun ys s₂ S₂ N₂ it₂ L₂ r₂=>?_))
 have hl:¬ ys.length < vs.length:=by rw [r₂.length];exact Nat.lt_irrefl _
 rw [if_neg hl]
 refine wpAny_bind (wpAny_holding (it₂.stop S₂ L₂ hh fun s₃ S₃ La hk=>?_))
 simp only [Option.isSome_none,Bool.false_eq_true,if_false]
 exact wpAny_pure (k ys s₃ S₃ (Nx.close N₁ N₂ (fun q e=>e▸ab) (fun q o w e=>hk q o w e)) (r₂.lasts La))
theorem eE {ts:List Nat} {xs:List Expr} (h:wc sc ts xs=true):assignEach xs env=xs.map (fun x=>(false,assign x env))∧xs.length=ts.length:=by
 induction ts generalizing xs with
 | nil=>induction xs using List.casesOn with
  | nil=>exact ⟨rfl,rfl⟩
  | cons _ _=>exact ff h
 | cons i ts ih=>induction xs using List.casesOn with
  | nil=>exact ff h
  | cons x xs =>
   have h:=cB h
   refine ae (b9 h.1) fun p e1 _=>?_
   have e:=ih h.2
   refine ⟨?_,congrArg (· + 1) e.2⟩
   rw [e1]
   show (false,assign (.Name (nm i) p) env) :: assignEach xs env=_
   rw [e.1];rfl
theorem cj (X:EnvOK C sc env ρ H s.heap lo) (S:St C ρ H s) {i:Nat} {x:Expr} {v:V} {y:Value} (hv:isVar sc i sC x=true) (r:VR ρ H s.heap v y) {E:Value→Shared→Prop} {Q:Unit→Shared→Prop}
  (k:∀ s',St C ρ H s'→Nx (Wr sc env) ρ H s ρ H s'→EnvOK C sc env ρ H s'.heap (ak lo i v)→Q () s'):wpAny (MM C) A (assign x env y) Q E s:=by
 refine vH (b9 hv) fun p hh1_ ho _ _=>?_
 subst hh1_
 show wpAny _ _ (standAt p>>=fun _=>bindName env (nm i) y) _ _ _
 exact wpAny_bind (wpAny_standAt (wpAny_bindName (jZ X S ho r k)))
theorem Nx.refl' (h:∀ a o,W a→s.heap.get? a=some o→(∀ xs n,o.data≠.seq xs n)∨a∈ρ.z):Nx W ρ H s ρ H s:=(Nx.refl ρ H s).wide h
theorem iT:∀ {ts:List Nat} {xs:List Expr} {vs:List V} {ys:List Value} {lo lo':Lo} {s:Shared},wc sc ts xs=true→gF ts vs lo=some lo'→VRs ρ H s.heap vs ys→EnvOK C sc env ρ H s.heap lo→St C ρ H s →
  ∀ {E:Value→Shared→Prop} {Q:Unit→Shared→Prop},(∀ s',St C ρ H s'→Nx (Wr sc env) ρ H s ρ H s'→EnvOK C sc env ρ H s'.heap lo'→Q () s')→wpAny (MM C) A (assignInOrder (xs.map fun x=>assign x env) ys) Q E s:=by
 intro ts
 induction ts with
 | nil =>
  intro xs vs ys lo lo' s hm h r X S E Q k
  induction xs using List.casesOn with
  | cons _ _=>exact ff hm
  | nil=>induction r using Mini.Internal.VRs.casesOn with
   | cons _ _=>exact nn h
   | nil=>cases h;exact wpAny_pure (k s S (Nx.refl' X.wdata) X)
 | cons i ts ih =>
  intro xs vs ys lo lo' s hm h r X S E Q k
  induction xs using List.casesOn with
  | nil=>exact ff hm
  | cons x xs=>induction r using Mini.Internal.VRs.casesOn with
   | nil=>exact nn h
   | cons r rs =>
    have hm:=cB hm
    show wpAny _ _ (holding _ (assign x env _)>>=fun _=>assignInOrder _ _) _ _ _
    refine wpAny_bind (wpAny_holding (cj X S hm.1 r fun s₁ S₁ N₁ X₁=>?_))
    exact ih hm.2 h (rs.lasts (N₁.lasts S)) X₁ S₁ fun s₂ S₂ N₂ X₂=>k s₂ S₂ (N₁.trans N₂) X₂
theorem hC (xs:List Expr):(xs.map fun x=>(false,assign x env)).findIdx? (·.1)=none:=by
 induction xs with
 | nil=>rfl
 | cons x xs ih=>rw [List.map_cons,List.findIdx?_cons];simp [ih]
theorem gC {ts:List Nat} {vs:List V} {lo lo':Lo} (h:gF ts vs lo=some lo'):vs.length=ts.length:=by
 induction ts generalizing vs lo with
 | nil=>induction vs using List.casesOn with
  | nil=>rfl
  | cons _ _=>exact nn h
 | cons t ts ih=>induction vs using List.casesOn with
  | nil=>exact nn h
  | cons v vs=>exact congrArg (· + 1) (ih h)
theorem fL (X:EnvOK C sc env ρ H s.heap lo) (S:St C ρ H s) (hh:A.handled=none) {t:T} {x:Expr} {v:V} {y:Value} {lo':Lo} (hm:mtB sc t x=true) (h:eh t v lo=some lo') (r:VR ρ H s.heap v y) {E:Value→Shared→Prop} {Q:Unit→Shared→Prop}
  (k:∀ s',St C ρ H s'→Nx (Wr sc env) ρ H s ρ H s'→EnvOK C sc env ρ H s'.heap lo'→Q () s'):wpAny (MM C) A (assign x env y) Q E s:=by
 induction t using T.casesOn with
 | var i=>cases h;exact cj X S hm r k
 | tup ts =>
  have hx:=bp (aj hm)
  have hm:=aq hm
  refine bsE h fun vs h1 h2=>?_
  have e:=eE (env:=env) hm
  rw [hx]
  show wpAny _ _ (standAt (pt x).p>>=fun _=>unpack y (assignEach (pt x).l env)) _ _ _
  refine wpAny_bind (wpAny_standAt ?_)
  unfold unpack
  rw [e.1,hC,List.length_map,e.2,← gC h2]
  refine wpAny_bind (wpAny_holding (ib S hh r h1 fun ys s₁ S₁ N₁ r₁=>?_))
  rw [List.map_map]
  exact iT hm h2 r₁ (X.next S N₁) S₁ fun s₂ S₂ N₂ X₂=>k s₂ S₂ ((N₁.wide X.wdata).trans N₂) X₂
 | attr _ _=>exact ff hm
 | sub _ _=>exact ff hm
end
section
variable {sc:Scope} {env:Env} {lo lo':Lo} {A:Around} {R:Sems} {n:Nat} {f:Nat} {ρ ρ':Rh} {H H':Hp} {s s':Shared} {W:Addr→Prop} {a:Addr}
theorem EnvOK.sub {h:Heap} (X:EnvOK C sc env ρ H h lo') (hs:∀ i v,lk lo i=some v→lk lo' i=some v):EnvOK C sc env ρ H h lo :=
 ⟨X.kind,X.glob,X.blt,X.loc,X.cel,X.fre,X.glo,ae X.ns fun m a b=>⟨m,a,fun i v e=>b i v (hs i v e)⟩,fun i v e=>X.cv i v (hs i v e),X.free,X.new,X.apart,X.clr⟩
theorem EnvOK.turnAt {J:Addr→Prop} (X:EnvOK C sc env ρ H s.heap lo) (L:Lasts ρ H s.heap ρ H s'.heap) (ho:∀ a,J a→∃ o,s.heap.get? a=some o∧((∃ xs n,o.data=.seq xs n)∨∃ vs,o.data=.fields vs))
  (hk:∀ q o,¬ J q→s.heap.get? q=some o→s'.heap.get? q=some o):EnvOK C sc env ρ H s'.heap lo:=by
 have n1:¬ J env.locals:=fun e=>by
  refine ae X.ns fun m hh1_ _=>?_
  refine aT hh1_ fun o' es ep ho' hd' _=>?_
  refine ae (ho _ e) fun o ho hd=>?_
  rw [ho] at ho';cases ho'
  rcases hd with ⟨xs,n,hd⟩ | ⟨vs,hd⟩<;>rw [hd] at hd'<;>cases hd'
 have n2:∀ x c,(sc.names.lookup x=some .cell∨sc.names.lookup x=some .free)→env.cells.lookup x=some c→¬ J c:=fun x c hx e q=>by
  refine aX (X.cell_lt hx e) fun v o' ho' hd'=>?_
  refine ae (ho _ q) fun o ho hd=>?_
  rw [ho] at ho';cases ho'
  rcases hd with ⟨xs,n,hd⟩ | ⟨vs,hd⟩<;>rw [hd] at hd'<;>cases hd'
 exact X.keepL L (fun o e=>hk _ o n1 e) (fun x c hx e o g=>hk c o (n2 x c hx e) g) X.clr X.free
theorem EnvOK.not_wr (X:EnvOK C sc env ρ H s.heap lo) {o:Obj} (ho:s.heap.get? a=some o) (hd:(∃ xs n,o.data=.seq xs n)∨∃ vs,o.data=.fields vs):¬ Wr sc env a:=by
 rintro (e | ⟨x,hx,e⟩)
 ·refine ae X.ns fun m hh2_ _=>?_
  refine aT hh2_ fun o' es ep ho' hd' _=>?_
  rw [← e,ho] at ho';cases ho'
  rcases hd with ⟨xs,n,hd⟩ | ⟨vs,hd⟩<;>rw [hd] at hd'<;>cases hd'
 ·refine aX (X.cell_lt (.inl hx) e) fun v o' ho' hd'=>?_
  rw [ho] at ho';cases ho'
  rcases hd with ⟨xs,n,hd⟩ | ⟨vs,hd⟩<;>rw [hd] at hd'<;>cases hd'
theorem St.turnZ (S:St C ρ H s) (hz:a∈ρ.z) {items items':Array Value} (hl:s.heap.IsList a items) (hl':s'.heap.IsList a items') (hk:∀ q o,q≠a→s.heap.get? q=some o→s'.heap.get? q=some o)
  (hg:s'.gens=s.gens) (hos:s'.os=s.os):St C ρ H s'∧Lasts ρ H s.heap ρ H s'.heap:=by
 refine t5 hl fun o ho hc n hd=>?_
 refine ae hl' fun o' ho' _=>?_
 have La:Lasts ρ H s.heap ρ H s'.heap:=by
  refine ⟨List.prefix_refl _,fun b items t z=>⟨?_,z⟩,fun b items t m=>⟨?_,m⟩⟩
  ·refine t5 t fun x hx hc' k hd'=>?_
   exact ⟨x,hk b x (fun e=>z (e▸hz)) hx,hc',k,hd'⟩
  ·refine t5 t fun x hx hc' k hd'=>?_
   exact ⟨x,hk b x (fun e=>m (.inr (e▸hz))) hx,hc',k,hd'⟩
 refine ⟨⟨fun b x e=>hk b x (fun q=>by rw [q,(S.hid a hz).2] at e;exact nn e) (S.base b x e),hg.trans S.gens,hos.trans S.os,S.len,fun i x p h1 h2=>?_,S.apart,S.new,fun b hb=>?_,S.zap,fun i p hp=>?_⟩,La⟩
 ·refine aw (S.zap a hz i p h2) fun n1 n2=>?_
  exact (S.objs i x p h1 h2).lasts La (fun y e=>hk _ y n1 e) (fun y e=>hk _ y n2 e)
 ·refine aw (S.hid b hb) fun hh3_ nb=>?_
  refine aG hh3_ fun x hx=>?_
  refine ⟨?_,nb⟩
  by_cases e:b=a
  ·exact ⟨o',e▸ho'⟩
  ·exact ⟨x,hk b x e hx⟩
 ·refine aw (S.here i p hp) fun hh4_ hh5_=>?_
  refine aG hh5_ fun y hy=>?_
  refine aG hh4_ fun x hx=>?_
  refine aw (S.zap a hz i p hp) fun n1 n2=>?_
  exact ⟨⟨x,hk _ x n1 hx⟩,y,hk _ y n2 hy⟩
theorem St.z_own (S:St C ρ H s) (hz:a∈ρ.z):¬ Own ρ H a:=by
 rintro ⟨i,p,o,hp,_,_,e⟩
 refine aw (S.zap a hz i p hp) fun n1 n2=>?_
 refine Or.elim e (fun e=>?_) fun e=>?_
 ·exact n1 e.symm
 ·exact n2 e.symm
theorem Nx.freely {s₁ s₂:Shared} {ρ₁:Rh} {H₁:Hp} {J:Addr→Prop} (N:Nx W ρ H s ρ₁ H₁ s₁) (hI:∀ a,J a→s.heap.get? a=none) (hk:∀ q o,¬ J q→s₁.heap.get? q=some o→s₂.heap.get? q=some o):Nx W ρ H s ρ₁ H₁ s₂ :=
 ⟨N.ext,N.z,fun q o e nn w=>hk q o (fun z=>by rw [hI _ z] at e;cases e) (N.keep q o e nn w),N.fresh,fun q o e=>aG (N.pres q o e) fun o' e'=>⟨o',hk q o' (fun z=>by rw [hI _ z] at e;exact nn e) e'⟩,N.wdata,N.news⟩
theorem Nx.turnW {s₁ s₂:Shared} {ρ₁:Rh} {H₁:Hp} {I:Addr} (N:Nx W ρ H s ρ₁ H₁ s₁) (hI:W I) (hp:∃ o,s₂.heap.get? I=some o) (hk:∀ q o,q≠I→s₁.heap.get? q=some o→s₂.heap.get? q=some o):Nx W ρ H s ρ₁ H₁ s₂ :=
 ⟨N.ext,N.z,fun q o e nn w=>hk q o (fun z=>w (z▸hI)) (N.keep q o e nn w),N.fresh,fun q o e=>by
  refine aG (N.pres q o e) fun o' e'=>?_
  by_cases z:q=I
  ·exact z▸hp
  ·exact ⟨o',hk q o' z e'⟩,N.wdata,N.news⟩
theorem dJ {i j:Nat} {v:V} (h:j≠i):lk (ak lo i v) j=lk lo j:=by rw [cM,if_neg h]
theorem iB:∀ {ts:List Nat} {vs:List V} {lo lo':Lo},gF ts vs lo=some lo'→∀ {j:Nat},j∉ts→lk lo' j=lk lo j
 | [],[],_,_,h,j,_=>by cases h;rfl
 | i :: ts,v :: vs,lo,lo',h,j,hj=>by
  rw [iB (ts:=ts) (vs:=vs) h (fun m=>hj (.tail _ m)),dJ (fun e=>hj (by rw [e];exact .head _))]
theorem gV {t:T} {v:V} (h:eh t v lo=some lo') {j:Nat} (hj:j∉mW t):lk lo' j=lk lo j:=by
 induction t using T.casesOn with
 | var i=>cases h;exact dJ fun e=>hj (by rw [e];exact .head _)
 | tup ts =>
  refine bsE h fun vs h1 h2=>?_
  exact iB h2 hj
 | attr _ _=>exact nn h
 | sub _ _=>exact nn h
noncomputable def jw (ifs:List Expr) (env:Env):Sem Bool:=forIn ifs true fun c r=>if r=true then do let ok ← isTrue c env (eval c env);pure (ForInStep.yield ok) else pure (ForInStep.yield r)
theorem iH {E:Value→Shared→Prop} {Q:Bool→Shared→Prop} (k:Q false s):∀ ifs:List Expr,wpAny (MM C) A (forIn ifs false fun c r=>if r=true then do let ok ← isTrue c env (eval c env);pure (ForInStep.yield ok) else pure (ForInStep.yield r):Sem Bool) Q E s
 | []=>wpAny_pure k
 | x :: xs=>by
  rw [List.forIn_cons]
  refine wpAny_bind ?_
  rw [if_neg Bool.false_ne_true]
  exact wpAny_pure (iH k xs)
theorem wJ (TR:iU C n R):∀ {l:List E} {xs:List Expr} {H:Hp} {b:Bool} {H':Hp},b5 (mtE f) sc l xs=true→jy R l lo H=some (b,H')→∀ {s:Shared} {ρ:Rh},aS n A→St C ρ H s→EnvOK C sc env ρ H s.heap lo →
  f6 C A (jw xs env) ρ H s b H':=by
 intro l
 induction l with
 | nil =>
  intro xs H b H' hm h s ρ r S X
  induction xs using List.casesOn with
  | cons _ _=>exact ff hm
  | nil=>(refine de h ?_;clear h);exact fun E Q k=>wpAny_pure (k s ρ S (.refl _ _ _))
 | cons e es ih =>
  intro xs H b H' hm h s ρ r S X
  induction xs using List.casesOn with
  | nil=>exact ff hm
  | cons x xs =>
   have hm:=cB hm
   refine bpE h fun w H1 h1 h=>?_
   (refine bsE h fun c hc hh_=>?_;clear h;revert hh_;intro h)
   obtain rfl:=aE hc
   intro E Q k
   unfold jw
   rw [List.forIn_cons]
   refine wpAny_bind ?_
   rw [if_pos rfl]
   refine wpAny_bind (TR f sc env e x lo H c H1 hm.1 h1 A s ρ r S X E _ fun s₁ ρ₁ S₁ N₁=>wpAny_pure ?_)
   induction c using Bool.casesOn with
   | true=>exact ih hm.2 h r S₁ (X.next S N₁) E Q fun s₂ ρ₂ S₂ N₂=>k s₂ ρ₂ S₂ (N₁.trans N₂)
   | false=>(revert k;apply de h;clear h;intro k);exact iH (k s₁ ρ₁ S₁ N₁) xs
end
structure Acc (C:Cfg) (sc:Scope) (env:Env) (ρ:Rh) (H:Hp) (s:Shared) (lo:Lo) (D:Addr) (acc:List V):Prop where
 st:St C ρ H s
 env:EnvOK C sc env ρ H s.heap lo
 z:D∈ρ.z
 lst:∃ items,s.heap.PlainList D items∧VRs ρ H s.heap acc items.toList
noncomputable abbrev Wc (sc:Scope) (env:Env) (D:Addr) (q:Addr):Prop:=q=D∨Wr sc env q
section
variable {sc:Scope} {env:Env} {lo lo':Lo} {A:Around} {R:Sems} {n:Nat} {f:Nat} {ρ ρ':Rh} {H H':Hp} {s s':Shared} {W:Addr→Prop} {a D:Addr} {acc:List V}
theorem bI {h:Heap} {items:Array Value} (t:h.PlainList D items):∃ o,h.get? D=some o∧o.cls=.type "list"∧∃ xs n,o.data=.seq xs n:=aG t fun _ a=>⟨_,a,rfl,_,_,rfl⟩
theorem Acc.wd (a:Acc C sc env ρ H s lo D acc):∀ q o,Wc sc env D q→s.heap.get? q=some o→(∀ xs n,o.data≠.seq xs n)∨q∈ρ.z:=by
 rintro q o (rfl | w) e
 ·refine ae a.lst fun items t _=>?_
  refine ay (bI t) fun o' h1 h2 _=>?_
  rw [e] at h1;cases h1
  exact .inr a.z
 ·exact a.env.wdata q o w e
theorem Acc.next (a:Acc C sc env ρ H s lo D acc) (N:Nx no ρ H s ρ' H' s') (S':St C ρ' H' s'):Acc C sc env ρ' H' s' lo D acc:=by
 refine ae a.lst fun items t r=>?_
 exact ⟨S',a.env.next a.st N,by rw [N.z];exact a.z,items,t.at fun o h1=>N.keep D o h1 (a.st.z_own a.z) id,r.lasts (N.lasts a.st)⟩
theorem Acc.sub (a:Acc C sc env ρ H s lo' D acc) (hs:∀ i v,lk lo i=some v→lk lo' i=some v):Acc C sc env ρ H s lo D acc:=⟨a.st,a.env.sub hs,a.z,a.lst⟩
theorem Acc.turn {J:Addr→Prop} (a:Acc C sc env ρ H s lo D acc) (S':St C ρ H s') (La:Lasts ρ H s.heap ρ H s'.heap) (hJ:∀ q,J q→∃ o,s.heap.get? q=some o∧o.cls≠.type "list"∧((∃ xs n,o.data=.seq xs n)∨∃ vs,o.data=.fields vs))
  (hk:∀ q o,¬ J q→s.heap.get? q=some o→s'.heap.get? q=some o):Acc C sc env ρ H s' lo D acc:=by
 refine ae a.lst fun items t r=>?_
 refine ay (bI t) fun o' h1 h2 h3=>?_
 have hne:¬ J D:=fun e=>by
  refine ay (hJ D e) fun o ho hc _=>?_
  rw [ho] at h1;cases h1;exact hc h2
 exact ⟨S',a.env.turnAt La (fun q e=>ay (hJ q e) fun o ho _ hd=>⟨o,ho,hd⟩) hk,a.z,items,t.at fun o e=>hk D o hne e,r.lasts La⟩
theorem Acc.push (a:Acc C sc env ρ H s lo D acc) {v:V} {x:Value} {items:Array Value} (t:s.heap.PlainList D items) (r:VRs ρ H s.heap acc items.toList) (rx:VR ρ H s.heap v x) {h':Heap} (t':h'.PlainList D (items.push x)) (hb:Heap.SameBut D s.heap h') :
  Acc C sc env ρ H { s with heap:=h' } lo D (acc++[v])∧Lasts ρ H s.heap ρ H h':=by
 have hk:∀ q o,q≠D→s.heap.get? q=some o→h'.get? q=some o:=fun q o e g=>(hb.2 q e).trans g
 refine aw (a.st.turnZ (s':={ s with heap:=h' }) a.z t.isList t'.isList hk rfl rfl) fun S' La=>?_
 refine ay (bI t) fun o h1 h2 h3=>?_
 refine ⟨⟨S',a.env.turnAt (J:=(· = D)) La (fun q e=>⟨o,e▸h1,.inl h3⟩) hk,a.z,_,t',?_⟩,La⟩
 rw [Array.toList_push]
 exact (r.lasts La).append (.cons (rx.lasts La) .nil)
theorem gj:∀ {a b:List Nat},bY (a++b)=true→(∀ i∈a,i∉b)∧bY b=true
 | [],_,h=>⟨fun _ m=>absurd m List.not_mem_nil,h⟩
 | i :: a,b,h=>aw (gj (cz h)) fun h1 h2=>⟨fun j hj hm=>(List.mem_cons.mp hj).elim (fun e=>List.any_eq_false.mp (uf (cA h)) i (List.mem_append.mpr (.inr (e▸hm))) (Nat.beq_refl _)) fun hj=>h1 j hj hm,h2⟩
theorem oq {t:T} {it:E} {ifs:List E} {gs:List G} {cs:List Comprehension} (h:vz (mtE f) sc (.mk t it ifs :: gs) cs=true):∃ tx ix fx cs',cs=⟨tx,ix,fx,0⟩ :: cs'∧mtB sc t tx=true∧qj (mtE f) sc it ix=true∧b5 (mtE f) sc ifs fx=true∧vz (mtE f) sc gs cs'=true:=by
 induction cs using List.casesOn with
 | nil=>exact ff h
 | cons c cs =>
  obtain ⟨tx,ix,fx,a⟩:=c
  have h:(mtB sc t tx&&qj (mtE f) sc it ix&&b5 (mtE f) sc ifs fx&&a==0&&vz (mtE f) sc gs cs)=true:=h
  have q:=fX (aj h)
  have e:a=0:=beq_iff_eq.mp q.2.2.2
  subst e
  exact ⟨tx,ix,fx,cs,rfl,q.1,q.2.1,q.2.2.1,aq h⟩
theorem cQ {e:E} {x:Expr} (h:qj (mtE f) sc e x=true) (v:Value):foldedSetIterable x env v=pure v:=by
 have:∀ l k p,x≠.Set l k p:=by
  unfold qj at h
  cases hp:e.range? with
  | none=>rw [hp] at h;exact (d1 f e x h).2.1
  | some l=>rw [hp] at h;rw [bp (aj h)];intro _ _ _ e;cases e
 induction x using PySem.Expr.casesOn<;>first | rfl | exact absurd rfl (this _ _ _)
theorem j1 {y:Expr} {gens:List Comprehension} {scA:Scope} {pA:Pos} {d:Nat} {I:Addr} {acc:Value} {vs:List V} {tx ix:Expr} {fx:List Expr} (hg:gens[d]?=some ⟨tx,ix,fx,0⟩) {J:Addr→Prop} (it:ItR ρ H s.heap I J vs) {RR:Result→Shared→Prop}
  (h:codeAny (MM C) A (.compLoop (.ListComp y gens scA pA) d (.ref I) acc env) RR s):codeAny (MM C) A (.compStart (.ListComp y gens scA pA) d (.ref I) acc env) RR s:=by
 refine codeAny_of_tree ?_
 show wpAny _ A (Sem.onRaise (compStart _ _ _ _ _) _) _ _ s
 refine wpAny_onRaise ?_
 have hc:(clausesOf (.ListComp y gens scA pA))[d]?=some ⟨tx,ix,fx,0⟩:=hg
 unfold compStart
 simp only [hc,Option.elim]
 rw [if_neg (by decide)]
 refine wpAny_bind (wpAny_askSetting (wpAny_ite ?_))
 split
 ·first
   | exact wpAny_bind (wpAny_pure (wpAny_pure (And.intro rfl h)))
   | exact wpAny_pure (And.intro rfl h)
 ·first
   | exact wpAny_bind (wpAny_rule (wpAny_bind (wpAny_standAt (wpAny_bind (it.again (wpAny_pure (And.intro rfl h)))))))
   | exact wpAny_bind (wpAny_rule (wpAny_bind (it.again (wpAny_pure (And.intro rfl h)))))
noncomputable def qu (ix tx:Expr) (fx:List Expr) (env:Env) (it:Value) (T:Bool→Sem Fin):Sem Fin:=standAt ix.pos>>=fun _=>pyNext it>>=fun o=>match o with
 | none=>pure (.done .next)
 | some v=>letOwnedTupleGo tx it v>>=fun _=>assign tx env v>>=fun _=>jw fx env>>=T
noncomputable def mR (y:Expr) (acc:Value) (env:Env) (nx:Sem Fin) (ok:Bool):Sem Fin:=if ok=true then ((eval y env>>=fun v=>call (.builtin "list.append") [acc,v]>>=fun _=>pure ())>>=fun _=>nx) else nx
noncomputable def mQ (g:Comprehension) (e:Expr) (d:Nat) (acc:Value) (env:Env) (nx:Sem Fin) (ok:Bool):Sem Fin:=if ok=true then (eval g.iter env>>=fun x=>standAt g.iter.pos>>=fun _=>foldedSetIterable g.iter env x>>=fun x=>holding [x] (pyIter x)>>=fun it=>runOwn (.compStart e d it acc env) env>>=fun _=>nx) else nx
theorem jU {y:Expr} {gens:List Comprehension} {scA:Scope} {pA:Pos} {d:Nat} {it acc:Value} {tx ix:Expr} {fx:List Expr} (hg:gens[d]?=some ⟨tx,ix,fx,0⟩) (hg2:gens[d + 1]?=none) :
  compTurn (.ListComp y gens scA pA) d it acc env=qu ix tx fx env it (mR y acc env (again (.compLoop (.ListComp y gens scA pA) d it acc env))):=by
 unfold compTurn
 simp only [hg,hg2]
 rfl
theorem jS {y:Expr} {gens:List Comprehension} {scA:Scope} {pA:Pos} {d:Nat} {it acc:Value} {tx ix tx2 ix2:Expr} {fx fx2:List Expr} (hg:gens[d]?=some ⟨tx,ix,fx,0⟩) (hg2:gens[d + 1]?=some ⟨tx2,ix2,fx2,0⟩) :
  compTurn (.ListComp y gens scA pA) d it acc env=qu ix tx fx env it (mQ ⟨tx2,ix2,fx2,0⟩ (.ListComp y gens scA pA) (d + 1) acc env (again (.compLoop (.ListComp y gens scA pA) d it acc env))):=by
 unfold compTurn
 simp only [hg,hg2]
 rfl
theorem eH {M:Model} {α:Type} {t t':Sem α} {Q:α→Shared→Prop} {E:Value→Shared→Prop} (h:t=t') (k:wpAny M A t' Q E s):wpAny M A t Q E s:=h▸k
section
variable {I:Addr} {J:Addr→Prop} {ρa:Rh} {Ha:Hp} {sa:Shared} {tx ix:Expr} {fx:List Expr} {TT:Bool→Sem Fin} {E₀:Value→Shared→Prop} {Q:Fin→Shared→Prop}
theorem jT (a:Acc C sc env ρ H s lo D acc) (it:ItR ρ H s.heap I J []) (L:Loose C ρ s.heap J) (hh:A.handled=none) (hI0:∀ q,J q→sa.heap.get? q=none) (N:Nx (Wc sc env D) ρa Ha sa ρ H s)
  (k:∀ s₁,Acc C sc env ρ H s₁ lo D acc→Nx (Wc sc env D) ρa Ha sa ρ H s₁→Q (.done .next) s₁):wpAny (MM C) A (qu ix tx fx env (.ref I) TT) Q E₀ s:=by
 refine wpAny_bind (wpAny_standAt ?_)
 exact wpAny_bind (it.stop a.st L hh fun s₁ S₁ La hk=>wpAny_pure (k s₁ (a.turn S₁ La it.obj.2 hk) (N.freely hI0 hk)))
theorem Acc.wr (a:Acc C sc env ρ H s lo D acc) (S':St C ρ H s') (X:EnvOK C sc env ρ H s'.heap lo') (N:Nx (Wr sc env) ρ H s ρ H s'):Acc C sc env ρ H s' lo' D acc:=by
 refine ae a.lst fun items tD rD=>?_
 refine ay (bI tD) fun oD hD1 hD2 hD3=>?_
 exact ⟨S',X,a.z,items,tD.at fun o' hD1'=>N.keep D o' hD1' (a.st.z_own a.z) (a.env.not_wr hD1 (.inl hD3)),rD.lasts (N.lasts a.st)⟩
theorem Acc.not_wc (a:Acc C sc env ρ H s lo D acc) {vs:List V} (it:ItR ρ H s.heap I J vs) {q:Addr} (hq:J q):¬ Wc sc env D q:=by
 refine ay (it.obj.2 q hq) fun o ho hc hd=>?_
 rintro (e | w)
 ·refine ae a.lst fun its tD _=>?_
  refine ay (bI tD) fun o2 ho2 h2 _=>?_
  rw [e,ho2] at ho;cases ho;exact hc h2
 ·exact a.env.not_wr ho hd w
theorem mP (TR:iU C n R) {t:T} {ifs:List E} (hB:mtB sc t tx=true) (hI:b5 (mtE f) sc ifs fx=true) {v:V} {vs:List V} {lo1:Lo} {b:Bool} {H1:Hp} (h1:eh t v lo=some lo1) (h2:jy R ifs lo1 H=some (b,H1))
  (r:aS n A) (a:Acc C sc env ρ H s lo D acc) (it:ItR ρ H s.heap I J (v :: vs)) (L:Loose C ρ s.heap J) (hI0:∀ q,J q→sa.heap.get? q=none) (N:Nx (Wc sc env D) ρa Ha sa ρ H s)
  (k:∀ s₃ ρ₃,Acc C sc env ρ₃ H1 s₃ lo1 D acc→ItR ρ₃ H1 s₃.heap I J vs→Loose C ρ₃ s₃.heap J→Nx (Wc sc env D) ρa Ha sa ρ₃ H1 s₃→wpAny (MM C) A (TT b) Q E₀ s₃):wpAny (MM C) A (qu ix tx fx env (.ref I) TT) Q E₀ s:=by
 refine wpAny_bind (wpAny_standAt ?_)
 refine wpAny_bind (it.step a.st L fun z s₁ Y=>?_)
 have a₁:=a.turn Y.t.st Y.t.la it.obj.2 Y.t.k
 refine wpAny_bind (Y.it.letGo Y.t.st Y.t.lo fun s₂ Y₂ it₂=>?_)
 have a₂:=a₁.turn Y₂.st Y₂.la Y.it.obj.2 Y₂.k
 refine wpAny_bind (fL a₂.env Y₂.st r.1 hB h1 (Y.v.lasts Y₂.la) fun s₃ S₃ N₃ X₃=>?_)
 have nJ:∀ q,J q→¬ Wr sc env q:=fun q hq w=>a₂.not_wc it₂ hq (.inr w)
 have L₃:=Y₂.lo.next N₃ nJ
 have it₃:=it₂.keep (N₃.lasts Y₂.st) (.inl N₃.z) (fun q o hq e=>N₃.keep q o e (Y₂.lo.own hq) (nJ q hq)) N₃.pres
 have a₃:=a₂.wr S₃ X₃ N₃
 have Na₃:=((N.freely hI0 Y.t.k).freely hI0 Y₂.k).trans (N₃.mono (fun q w=>.inr w) a₂.wd)
 exact wpAny_bind (wJ TR hI h2 r S₃ X₃ _ _ fun s₄ ρ₄ S₄ N₄=>k s₄ ρ₄ (a₃.next N₄ S₄) (it₃.keep (N₄.lasts S₃) (.inl N₄.z) (fun q o hq e=>N₄.keep q o e (L₃.own hq) id) N₄.pres) (L₃.next N₄ fun _ _=>id) (Na₃.trans (N₄.wide a₃.wd)))
theorem qt (EV:bJ C n R) {elt:E} {y:Expr} (hy:mtE f sc elt y=true) {ev:V} {vs:List V} {nx:Sem Fin} (h5:R.ev elt lo H=some (ev,H')) (r:aS n A) (a:Acc C sc env ρ H s lo D acc) (it:ItR ρ H s.heap I J vs) (L:Loose C ρ s.heap J) (N:Nx (Wc sc env D) ρa Ha sa ρ H s) (hlen:acc.length < 100000)
  (k:∀ s' ρ',Acc C sc env ρ' H' s' lo D (acc++[ev])→ItR ρ' H' s'.heap I J vs→Loose C ρ' s'.heap J→Nx (Wc sc env D) ρa Ha sa ρ' H' s'→wpAny (MM C) A nx Q E₀ s'):wpAny (MM C) A (mR y (.ref D) env nx true) Q E₀ s:=by
 show wpAny (MM C) A ((eval y env>>=fun v=>call (.builtin "list.append") [.ref D,v]>>=fun _=>pure ())>>=fun _=>nx) Q E₀ s
 refine wpAny_bind (wpAny_bind (EV f sc env elt y lo H ev H' hy h5 A s ρ r a.st a.env _ _ fun x s₄ ρ₄ S₄ N₄ r₄=>?_))
 have a₄:=a.next N₄ S₄
 have it₄:=it.keep (N₄.lasts a.st) (.inl N₄.z) (fun q o hq e=>N₄.keep q o e (L.own hq) id) N₄.pres
 have L₄:=L.next N₄ fun _ _=>id
 refine ae a₄.lst fun its tD4 rD4=>?_
 have hl4:=rD4.length
 replace hl4:acc.length=its.size:=hl4
 refine wpAny_bind (wpAny_list_append_plain tD4 (fun h' t' hb=>wpAny_pure ?_) (by rw [af];clear h5 hy;lia))
 have P:=a₄.push tD4 rD4 r₄ t' hb
 have hk5:∀ q o,q≠D→s₄.heap.get? q=some o→h'.get? q=some o:=fun q o e g=>(hb.2 q e).trans g
 have hne:∀ q,J q→q≠D:=fun q hq e=>a₄.not_wc it₄ hq (.inl e)
 refine ae (bI t') fun oD hoD _=>?_
 have pr:∀ q o,s₄.heap.get? q=some o→∃ o',h'.get? q=some o':=fun q o e=>by
  by_cases w:q=D
  ·exact ⟨oD,w▸hoD⟩
  ·exact ⟨o,hk5 q o w e⟩
 exact k _ ρ₄ P.1 (it₄.keep P.2 (.inl rfl) (fun q o hq e=>hk5 q o (hne q hq) e) pr) ⟨fun q hq=>ae (L₄.here q hq) fun o1 ho1 hd1=>⟨o1,hk5 q o1 (hne q hq) ho1,hd1⟩,L₄.new,L₄.apart⟩ ((N.trans (N₄.wide a.wd)).turnW (.inl rfl) ⟨oD,hoD⟩ hk5)
theorem tA (K:CfgOK C gG) (EV:bJ C n R) {y:Expr} {gens:List Comprehension} {scA:Scope} {pA:Pos} {d:Nat} {g2:T} {it2:E} {tx2 ix2:Expr} {fx2:List Expr} (hg:gens[d]?=some ⟨tx2,ix2,fx2,0⟩) (mI:qj (mtE f) sc it2 ix2=true) {vs2:List V} {nx:Sem Fin}
  (h5:rK R it2 lo H=some (vs2,H')) (r:aS n A) (S:St C ρ H s) (X:EnvOK C sc env ρ H s.heap lo)
  (k:∀ I2 s₄ ρ₄,St C ρ₄ H' s₄→Nx no ρ H s ρ₄ H' s₄→ItR ρ₄ H' s₄.heap I2 (· = I2) vs2→Loose C ρ₄ s₄.heap (· = I2)→s.heap.get? I2=none→codeAny (MM C) (A.mark none) (.compLoop (.ListComp y gens scA pA) d (.ref I2) (.ref D) env) (fun r s'=>match r with | .ok fl=>wpAny (MM C) A nx Q E₀ s' | .error _=>False) s₄) :
  wpAny (MM C) A (mQ ⟨tx2,ix2,fx2,0⟩ (.ListComp y gens scA pA) d (.ref D) env nx true) Q E₀ s:=by
 show wpAny (MM C) A (eval ix2 env>>=fun x=>standAt ix2.pos>>=fun _=>foldedSetIterable ix2 env x>>=fun x=>holding [x] (pyIter x)>>=fun it=>runOwn (.compStart (.ListComp y gens scA pA) d it (.ref D) env) env>>=fun _=>nx) Q E₀ s
 refine wpAny_bind ?_
 refine wpAny_mono (ux (Q:=fun (xv:Value) (s₄:Shared)=>∃ I2 ρ₄,xv=.ref I2∧St C ρ₄ H' s₄∧Nx no ρ H s ρ₄ H' s₄∧ItR ρ₄ H' s₄.heap I2 (· = I2) vs2∧Loose C ρ₄ s₄.heap (· = I2)∧s.heap.get? I2=none) K EV mI h5 r S X fun I2 s₄ ρ₄ S₄ N₄ it₄ L₄ ab=>⟨I2,ρ₄,rfl,S₄,N₄,it₄,L₄,ab⟩) (fun xv s₄ hp=>?_) fun _ _ e=>e
 refine wpAny_bind (wpAny_standAt ?_)
 rw [cQ mI]
 refine wpAny_bind (wpAny_pure (wpAny_bind (wpAny_holding (wpAny_mono hp (fun itv s₅ hq=>?_) fun _ _ e=>e))))
 refine yx hq fun I2 ρ₅ e S₅ N₅ it₅ L₅ ab=>?_
 rw [e]
 refine wpAny_bind (wpAny_runOwn (j1 hg it₅ ?_))
 refine codeAny_mono (k I2 s₅ ρ₅ S₅ N₅ it₅ L₅ ab) fun r' s' hr=>?_
 cases r' with
 | ok fl=>exact hr
 | error e=>exact hr.elim
end
theorem pz {α:Type} {l:List α} {d:Nat} {x:α} {r:List α} (h:l.drop d=x :: r):l[d]?=some x∧l[d + 1]?=r.head?∧l.drop (d + 1)=r:=by
 refine ⟨?_,?_,by rw [← List.drop_drop,h];rfl⟩
 ·have:(l.drop d)[0]?=some x:=by rw [h];rfl
  rw [List.getElem?_drop] at this;exact this
 ·have:(l.drop d)[1]?=r.head?:=by rw [h];induction r using List.casesOn<;>rfl
  rw [List.getElem?_drop] at this;exact this
theorem um (K:CfgOK C gG) (EV:bJ C n R) (TR:iU C n R) {elt:E} {y:Expr} (hy:mtE f sc elt y=true) {gensA:List Comprehension} {scA:Scope} {pA:Pos}:∀ (gs:List Mini.Internal.G) {t:T} {ifs:List E} {tx ix:Expr} {fx:List Expr} {cs:List Comprehension} {d:Nat},
  gensA.drop d=⟨tx,ix,fx,0⟩ :: cs→mtB sc t tx=true→b5 (mtE f) sc ifs fx=true→vz (mtE f) sc gs cs=true→bY (mW t++aN gs)=true →
  ∀ (vs:List V) {lo:Lo} {ws:List V} {H H':Hp},bV.loop R t ifs (bV R elt gs) vs lo H=some (ws,H')→(∀ i∈mW t++aN gs,lk lo i=none) →
  ∀ {A:Around} {s:Shared} {ρ:Rh} {I:Addr} {J:Addr→Prop} {acc:List V},aS n A→Acc C sc env ρ H s lo D acc→ItR ρ H s.heap I J vs→Loose C ρ s.heap J→acc.length + ws.length≤100000 →
  ∀ {ρa:Rh} {Ha:Hp} {sa:Shared},(∀ q,J q→sa.heap.get? q=none)→Nx (Wc sc env D) ρa Ha sa ρ H s→∀ {RR:Result→Shared→Prop},
  (∀ s' ρ',Acc C sc env ρ' H' s' lo D (acc++ws)→Nx (Wc sc env D) ρa Ha sa ρ' H' s'→RR (.ok .next) s') →
  codeAny (MM C) A (.compLoop (.ListComp y gensA scA pA) d (.ref I) (.ref D) env) RR s:=by
 intro gs
 induction gs with
 | nil =>
  intro t ifs tx ix fx cs d hd hB hI hG hN vs
  induction cs using List.casesOn with
  | cons _ _=>cases hG
  | nil =>
   have q:=pz hd
   induction vs with
   | nil =>
    intro lo ws H H' h _ A s ρ I J acc r a it L _ ρa Ha sa hI0 N RR k
    refine aw (dS (show some (([]:List V),H)=some (ws,H') from h)) fun e1 e2=>?_
    subst e1;subst e2
    refine codeAny_of_tree (wpAny_onRaise (eH (jU q.1 q.2.1) (jT a it L r.1 hI0 N fun s₁ a₁ N₁=>k s₁ ρ ?_ N₁)))
    rw [List.append_nil];exact a₁
   | cons v vs ih =>
    intro lo ws H H' h hun A s ρ I J acc r a it L hlen ρa Ha sa hI0 N RR k
    refine bsE h fun lo1 h1 ha=>?_
    refine bpE ha fun b H1 h2 hb=>?_
    refine bpE hb fun w1 H2 h3 hc=>?_
    refine bpE hc fun us H3 h4 hd'=>?_
    refine aw (dS (show some (w1++us,H3)=some (ws,H') from hd')) fun e1 e2=>?_
    subst e1;subst e2
    clear h ha hb hc hd'
    have hback:∀ i v,lk lo i=some v→lk lo1 i=some v:=fun i v e=>(gV h1 fun hm=>by rw [hun i (List.mem_append_left _ hm)] at e;exact nn e).trans e
    rw [List.length_append] at hlen
    refine codeAny_of_tree (wpAny_onRaise (eH (jU q.1 q.2.1) (mP TR hB hI h1 h2 r a it L hI0 N fun s₃ ρ₃ a₃ it₃ L₃ N₃=>?_)))
    induction b using Bool.casesOn with
    | false =>
     refine aw (dS (show some (([]:List V),H1)=some (w1,H2) from h3)) fun e1 e2=>?_
     subst e1;subst e2
     exact wpAny_pure ⟨rfl,ih h4 hun r (a₃.sub hback) it₃ L₃ (by clear h3 h4 h2 hI0 h1 hG hd hN hI hB hy;lia) hI0 N₃ k⟩
    | true =>
     refine bpE (show (R.ev elt lo1 H1).bind (fun (v,H)=>some ([v],H))=some (w1,H2) from h3) fun ev H4 h5 h6=>?_
     refine aw (dS (show some ([ev],H4)=some (w1,H2) from h6)) fun e1 e2=>?_
     subst e1;subst e2
     clear h3 h6
     refine qt EV hy h5 r a₃ it₃ L₃ N₃ (by rw [List.length_singleton] at hlen;clear h5 h4 h2 hI0 h1 hG hd hN hI hB hy;lia) fun s' ρ' a' it' L' N'=>wpAny_pure ⟨rfl,ih h4 hun r (a'.sub hback) it' L' (by rw [List.length_append];clear h5 h4 h2 hI0 h1 hG hd hN hI hB hy;lia) hI0 N' fun s'' ρ'' a'' n''=>k s'' ρ'' ?_ n''⟩
     rw [List.append_assoc] at a'';exact a''
 | cons g gs ihg =>
  obtain ⟨t2,it2,ifs2⟩:=g
  intro t ifs tx ix fx cs d hd hB hI hG hN vs
  obtain ⟨tx2,ix2,fx2,cs2,e,mB2,mI2,mF2,mG2⟩:=oq hG
  rw [e] at hd
  have q:=pz hd
  have hN:=gj (show bY (mW t++(mW t2++aN gs))=true from hN)
  induction vs with
  | nil =>
   intro lo ws H H' h _ A s ρ I J acc r a it L _ ρa Ha sa hI0 N RR k
   obtain ⟨e1,e2⟩:=dS (show some (([]:List V),H)=some (ws,H') from h)
   subst e1;subst e2
   refine codeAny_of_tree (wpAny_onRaise (eH (jS q.1 q.2.1) (jT a it L r.1 hI0 N fun s₁ a₁ N₁=>k s₁ ρ ?_ N₁)))
   rw [List.append_nil];exact a₁
  | cons v vs ih =>
   intro lo ws H H' h hun A s ρ I J acc r a it L hlen ρa Ha sa hI0 N RR k
   refine bsE h fun lo1 h1 ha=>?_
   refine bpE ha fun b H1 h2 hb=>?_
   refine bpE hb fun w1 H2 h3 hc=>?_
   refine bpE hc fun us H3 h4 hd'=>?_
   refine aw (dS (show some (w1++us,H3)=some (ws,H') from hd')) fun e1 e2=>?_
   subst e1;subst e2
   clear h ha hb hc hd'
   have hback:∀ i v,lk lo i=some v→lk lo1 i=some v:=fun i v e=>(gV h1 fun hm=>by rw [hun i (List.mem_append_left _ hm)] at e;exact nn e).trans e
   rw [List.length_append] at hlen
   refine codeAny_of_tree (wpAny_onRaise (eH (jS q.1 q.2.1) (mP TR hB hI h1 h2 r a it L hI0 N fun s₃ ρ₃ a₃ it₃ L₃ N₃=>?_)))
   induction b using Bool.casesOn with
   | false =>
    refine aw (dS (show some (([]:List V),H1)=some (w1,H2) from h3)) fun e1 e2=>?_
    subst e1;subst e2
    exact wpAny_pure ⟨rfl,ih h4 hun r (a₃.sub hback) it₃ L₃ (by clear h3 h4 h2 hI0 h1 hG hd hI hB hy;lia) hI0 N₃ k⟩
   | true =>
    refine bpE (show (rK R it2 lo1 H1).bind (fun (vs,H)=>bV.loop R t2 ifs2 (bV R elt gs) vs lo1 H)=some (w1,H2) from h3) fun vs2 H4 h5 h6=>?_
    have hun2:∀ i∈mW t2++aN gs,lk lo1 i=none:=fun i hi=>(gV h1 fun hm=>hN.1 i hm hi).trans (hun i (List.mem_append_right _ hi))
    refine tA K EV (g2:=t2) q.2.1 mI2 h5 r a₃.st a₃.env fun I2 s₄ ρ₄ S₄ N₄ it₄ L₄ ab=>?_
    have a₄:=a₃.next N₄ S₄
    refine ihg q.2.2 mB2 mF2 mG2 hN.2 vs2 h6 hun2 r.mark a₄ it₄ L₄ (by clear h3 h6 h5 h4 h2 hI0 h1 hG hd hI hB hy;lia) (fun q hq=>hq▸ab) (N₄.wide a₃.wd) fun s₅ ρ₅ a₅ N₅=>?_
    have nW:∀ q,J q→¬ Wc sc env D q:=fun q hq=>a₃.not_wc it₃ hq
    refine wpAny_pure ⟨rfl,ih h4 hun r (a₅.sub hback) (it₃.keep (N₅.lasts a₃.st) (.inl N₅.z) (fun q o hq e=>N₅.keep q o e (L₃.own hq) (nW q hq)) N₅.pres) (L₃.next N₅ nW) (by rw [List.length_append];clear h3 h6 h5 h4 h2 hI0 h1 hG hd hI hB hy;lia) hI0 (N₃.trans N₅) fun s' ρ' a' n'=>k s' ρ' ?_ n'⟩
    rw [List.append_assoc] at a';exact a'
end
section
variable {sc sc':Scope} {env:Env} {lo lo':Lo} {A:Around} {R:Sems} {n:Nat} {f:Nat} {ρ ρ':Rh} {H H':Hp} {s s':Shared} {W:Addr→Prop} {a D:Addr} {acc:List V}
theorem lookup_mem {α:Type} {l:List (Str×α)} {x:Str} {k:α} (h:l.lookup x=some k):(x,k)∈l:=by
 induction l with
 | nil=>exact nn h
 | cons p l ih =>
  replace h:(match x==p.1 with | true=>some p.2 | false=>l.lookup x)=some k:=h
  cases hb:x==p.1 with
  | true=>rw [hb] at h;rw [eq_of_beq hb,← Option.some.inj h];exact .head _
  | false=>rw [hb] at h;exact .tail _ (ih h)
structure ScOk (out sc:Scope) (tg:List Nat):Prop where
 kind:sc.kind=.function
 loc:∀ x,(x,NameKind.local)∈sc.names→sc.names.lookup x=some .local∧(x=nm bK∨∃ i∈tg,nm i=x)
 cel:∀ x,(x,NameKind.cell)∉sc.names
 fre:∀ x,(x,NameKind.free)∈sc.names→sc.names.lookup x=some .free∧(out.names.lookup x=some .cell∨out.names.lookup x=some .free)
theorem tX {tg:List Nat} (h:xM sc sc' tg=true):ScOk sc sc' tg:=by
 unfold xM at h
 rw [Bool.and_eq_true,beq_iff_eq,List.all_eq_true] at h
 refine aw h fun hk h=>?_
 refine ⟨hk,fun x hx=>?_,fun x hx=>?_,fun x hx=>?_⟩
 ·have:=h _ hx
  simp only [Bool.and_eq_true,beq_iff_eq,Bool.or_eq_true,List.any_eq_true] at this
  exact ⟨this.1,this.2⟩
 ·have:=h _ hx
  simp at this
 ·have:=h _ hx
  simp only [Bool.and_eq_true,beq_iff_eq] at this
  refine ⟨this.1,?_⟩
  have h2:=this.2
  split at h2<;>simp_all
theorem ew {α β:Type} {g:Str×α→Str×β} (hg:∀ p,(g p).1=p.1) {x:Str} {k:α} {l:List (Str×α)} (h:l.lookup x=some k):(l.map g).lookup x=some (g (x,k)).2:=by
 induction l with
 | nil=>exact nn h
 | cons p l ih =>
  replace h:(match x==p.1 with | true=>some p.2 | false=>l.lookup x)=some k:=h
  show (match x==(g p).1 with | true=>some (g p).2 | false=>(l.map g).lookup x)=_
  rw [hg]
  cases hb:x==p.1 with
  | true=>rw [hb] at h;rw [eq_of_beq hb,← Option.some.inj h]
  | false=>rw [hb] at h;exact ih h
theorem dz {env:Env} {names:List (Str×NameKind)} {x:Str} (h:names.lookup x=some .free) :
  (names.map fun (n,k)=>if (k==NameKind.free&&env.scope.kind==.function&&env.kindOf n==some .cell) then (n,NameKind.cell) else (n,k)).lookup x=some .cell ∨
  (names.map fun (n,k)=>if (k==NameKind.free&&env.scope.kind==.function&&env.kindOf n==some .cell) then (n,NameKind.cell) else (n,k)).lookup x=some .free:=by
 rw [ew (fun p=>by dsimp only;split<;>rfl) h]
 dsimp only
 split
 ·exact .inl rfl
 ·exact .inr rfl
theorem dy {env:Env} {names:List (Str×NameKind)} {x:Str} (h:names.lookup x=some .globalImplicit) :
  (names.map fun (n,k)=>if (k==NameKind.free&&env.scope.kind==.function&&env.kindOf n==some .cell) then (n,NameKind.cell) else (n,k)).lookup x=some .globalImplicit :=
 ew (fun p=>by dsimp only;split<;>rfl) h
theorem mf (X:EnvOK C sc env ρ H s.heap lo) {names:List (Str×NameKind)} (hf:∀ x,(x,NameKind.free)∈names→sc.names.lookup x=some .cell∨sc.names.lookup x=some .free) :
  ∀ cs:List (Str×Addr),(∀ x c,cs.lookup x=some c→env.cells.lookup x=some c)→∃ cl:List (Str×Addr),
   (forIn names cs fun (x:Str×NameKind) (r:List (Str×Addr))=>(match x with
    | (name,kind)=>if (kind==NameKind.free)=true then do let a ← cellOf env name;pure (ForInStep.yield ((name,a) :: r)) else pure (ForInStep.yield r):Sem (ForInStep (List (Str×Addr)))))=pure cl ∧
   (∀ x c,cl.lookup x=some c→env.cells.lookup x=some c)∧∀ x,((x,NameKind.free)∈names∨(cs.lookup x).isSome)→(cl.lookup x).isSome:=by
 induction names with
 | nil=>exact fun cs h=>⟨cs,rfl,h,fun x hx=>by simpa using hx⟩
 | cons p names ih =>
  obtain ⟨y,k⟩:=p
  intro cs h
  rw [List.forIn_cons]
  by_cases hk:(k==NameKind.free)=true
  ·have ek:k=.free:=eq_of_beq hk
   subst ek
   have hy:=hf y List.mem_cons_self
   obtain ⟨c,hc⟩:∃ c,env.cells.lookup y=some c:=by
    refine Or.elim hy (fun hy=>?_) fun hy=>?_
    ·refine c5 (X.cel y hy) fun _ c v e _=>?_;exact ⟨c,e⟩
    ·refine c5 (X.fre y hy) fun _ c v e _=>?_;exact ⟨c,e⟩
   have e1:cellOf env y=pure c:=by unfold cellOf;rw [hc]
   refine ay (ih (fun x hx=>hf x (List.mem_cons_of_mem _ hx)) ((y,c) :: cs) (fun x c' e=>by
    rw [List.lookup_cons] at e
    cases hb:x==y with
    | true=>rw [hb] at e;cases e;rw [eq_of_beq hb];exact hc
    | false=>rw [hb] at e;exact h x c' e)) fun cl h1 h2 h3=>?_
   refine ⟨cl,?_,h2,fun x hx=>h3 x ?_⟩
   ·dsimp only
    rw [if_pos hk,e1]
    simpa using h1
   ·refine Or.elim hx (fun hx=>?_) fun hx=>?_
    ·refine Or.elim (List.mem_cons.mp hx) (fun e=>?_) fun hx=>?_
     ·cases e;exact .inr (by simp)
     ·exact .inl hx
    ·refine .inr ?_
     rw [List.lookup_cons]
     cases x==y<;>simp [hx]
  ·refine ay (ih (fun x hx=>hf x (List.mem_cons_of_mem _ hx)) cs h) fun cl h1 h2 h3=>?_
   refine ⟨cl,?_,h2,fun x hx=>h3 x ?_⟩
   ·dsimp only
    rw [if_neg hk]
    simpa using h1
   ·refine Or.elim hx (fun hx=>?_) fun hx=>?_
    ·refine Or.elim (List.mem_cons.mp hx) (fun e=>?_) fun hx=>?_
     ·(refine aw (qO e) fun e1_ e2_=>?_;clear e;subst e1_;subst e2_);exact absurd rfl hk
     ·exact .inl hx
    ·exact .inr hx
theorem jq {l:List Nat} {lo:Lo} {i:Nat}:lk (gu l lo) i=if l.any (Nat.beq i) then Option.none else lk lo i:=by
 induction lo with
 | nil=>exact (ite_self _).symm
 | cons p lo ih =>
  by_cases hj:l.any (Nat.beq p.1)=true
  ·rw [show gu l (p :: lo)=gu l lo from List.filter_cons_of_neg (by rw [hj];decide),ih,aA p.1 p.2]
   by_cases q:i=p.1
   ·rw [q,if_pos hj,if_pos hj]
   ·rw [if_neg q]
  ·rw [show gu l (p :: lo)=p :: gu l lo from List.filter_cons_of_pos (by rw [Bool.not_eq_true] at hj;rw [hj];rfl),aA p.1 p.2,aA p.1 p.2,ih]
   by_cases q:i=p.1
   ·rw [if_pos q,if_pos q,q,if_neg hj]
   ·rw [if_neg q,if_neg q]
noncomputable def u6 (R:Sems) (elt:E) (gens:List Mini.Internal.G) (lo:Lo) (H:Hp):Option (V×Hp):=match gens with
 | []=>Option.none
 | .mk t it ifs :: gs=>(lV R it lo H).bind fun (vs,H)=>(bV.loop R t ifs (bV R elt gs) vs (gu (bK :: aN (.mk t it ifs :: gs)) lo) H).bind fun (ws,H) =>
  bif ax ws.length then some (V.lst ws,H) else Option.none
theorem kN {P:Prog} {R:Sems} {elt:E} {gens:List Mini.Internal.G} {lo:Lo} {H:Hp}:aO P R (.comp elt gens) lo H=u6 R elt gens lo H:=by induction gens using List.casesOn<;>rfl
theorem rU {tg:List Nat} (O:ScOk sc sc' tg) (X:EnvOK C sc env ρ H s.heap lo) (S:St C ρ H s) {Lc:Addr} (hL:s.heap.get? Lc=none) (hDL:D≠Lc) {h':Heap} (hk:∀ b o,s.heap.get? b=some o→h'.get? b=some o) (Lat:Lasts ρ H s.heap ⟨ρ.l,D :: ρ.z⟩ H h')
  {cl:List (Str×Addr)} (hc2:∀ x c,cl.lookup x=some c→env.cells.lookup x=some c) (hc3:∀ x,(x,NameKind.free)∈sc'.names→(cl.lookup x).isSome=true) {m:Str→Option Value} (hns:h'.Ns Lc m) :
  EnvOK C sc' (compEnvC sc' cl Lc env) ⟨ρ.l,D :: ρ.z⟩ H h' (gu (bK :: tg) lo):=by
 have F:=S.freshAt hL
 refine ⟨O.kind,X.glob,X.blt,fun x hx=>lookup_relabel_local hx,fun x hx=>absurd (lookup_mem hx) (O.cel x),fun x hx=>⟨dz hx,?_⟩,fun x hx=>dy hx,⟨_,hns,fun i v hi hk'=>?_⟩,fun i v hi hk'=>?_,
  ⟨F.own,fun x c hx e m=>?_⟩,⟨F.base,fun x c hx=>absurd (lookup_mem hx) (O.cel x)⟩,fun x y c hx=>absurd (lookup_mem hx) (O.cel x),⟨F.ne,fun m=>?_⟩⟩
 ·refine aG (Option.isSome_iff_exists.mp (hc3 x (lookup_mem hx))) fun c hc=>?_
  refine aG (X.cell_lt (O.fre x (lookup_mem hx)).2 (hc2 x c hc)) fun v q=>?_
  exact ⟨c,v,hc,au (fun o e=>hk c o e) q⟩
 ·have hany:∀ j,j∈bK :: tg→nm j=nm i→False:=fun j hj e=>by
   rw [jq,if_pos (List.any_eq_true.mpr ⟨j,hj,by rw [fp e];exact Nat.beq_refl i⟩)] at hi
   exact nn hi
  rcases (O.loc _ (lookup_mem hk')).2 with e | ⟨j,hj,e⟩
  ·exact (hany _ List.mem_cons_self e.symm).elim
  ·exact (hany j (List.mem_cons_of_mem _ hj) e).elim
 ·refine Or.elim hk' (fun hk'=>?_) fun hk'=>?_
  ·exact absurd (lookup_mem hk') (O.cel _)
  ·have hi':lk lo i=some v:=by
    rw [jq] at hi
    split at hi
    ·exact nn hi
    ·exact hi
   refine aW (X.cv i v hi' (O.fre _ (lookup_mem hk')).2) fun c x e q rr=>?_
   refine aG (Option.isSome_iff_exists.mp (hc3 (nm i) (lookup_mem hk'))) fun c' hc'=>?_
   rw [Option.some.inj (e.symm.trans (hc2 _ _ hc'))] at q
   exact ⟨c',x,hc',au (fun o e=>hk c' o e) q,rr.lasts Lat⟩
 ·refine Or.elim hx (fun hx=>?_) fun hx=>?_
  ·exact absurd (lookup_mem hx) (O.cel _)
  ·exact X.free.2 x c (O.fre _ (lookup_mem hx)).2 (hc2 x c e) m
 ·refine Or.elim (List.mem_cons.mp m) (fun e=>?_) fun m=>?_
  ·exact hDL e.symm
  ·exact F.z m
theorem uC {e:E} {x:Expr} (h:oo (mtE f) sc e x=true) (v:Value):foldedSetIterable x env v=pure v:=by
 unfold oo at h
 generalize e.iter?=it? at h
 induction it? using Option.casesOn with
 | none=>exact cQ h v
 | some i =>
  have hx:x=bk 11 (pt x):=by induction i using Iter.casesOn<;>exact bp (aj h)
  rw [hx];rfl
theorem pE {Lc:Addr} {cl:List (Str×Addr)} {ws:List V} {ρ₀:Rh} {H₀:Hp} {s₀:Shared} (cel:∀ x,(x,NameKind.cell)∉sc'.names) (a:Acc C sc' (compEnvC sc' cl Lc env) ρ H s lo D ws) {T:List Addr} (N:Nx (Wc sc' (compEnvC sc' cl Lc env) D) ⟨ρ₀.l,D :: (T++ρ₀.z)⟩ H₀ s₀ ρ H s) (S0:St C ρ₀ H₀ s₀) (hD:s₀.heap.get? D=none) (hL:s₀.heap.get? Lc=none) :
  St C ⟨ρ.l,ρ₀.z⟩ H s∧Nx no ρ₀ H₀ s₀ ⟨ρ.l,ρ₀.z⟩ H s∧(VR ⟨ρ.l,ρ₀.z⟩ H s.heap (.lst ws) (.ref D)∧∃ items,s.heap.PlainList D items)∧Loose C ⟨ρ.l,ρ₀.z⟩ s.heap (· = Lc)∧∃ m,s.heap.Ns Lc m:=by
 refine ae a.env.ns fun m hm _=>?_
 refine aT (id hm) fun o es ep ho hd _=>?_
 have hz':ρ.z=D :: (T++ρ₀.z):=N.z
 have hin:∀ a∈ρ₀.z,a∈ρ.z:=fun a ha=>by rw [hz'];exact List.mem_cons_of_mem _ (List.mem_append_right _ ha)
 have Lf:Lasts ρ H s.heap ⟨ρ.l,ρ₀.z⟩ H s.heap:=⟨List.prefix_refl _,fun a _ t z=>⟨t,fun m=>z (hin a m)⟩,fun a items t m=>⟨t,fun q=>m (q.imp id fun q=>hin a q)⟩⟩
 have S₅:=a.st
 refine ae a.lst fun items tD rD=>?_
 have hW:∀ q,Wc sc' (compEnvC sc' cl Lc env) D q→s₀.heap.get? q=none:=fun q w=>by
  rcases w with e | e | ⟨x,hx,_⟩
  ·rw [e];exact hD
  ·rw [e];exact hL
  ·exact absurd (lookup_mem hx) (cel _)
 refine ⟨⟨S₅.base,S₅.gens,S₅.os,S₅.len,fun i o p h1 h2=>(S₅.objs i o p h1 h2).lasts Lf (fun y e=>e) (fun y e=>e),S₅.apart,S₅.new,fun a ha=>S₅.hid a (hin a ha),fun a ha=>S₅.zap a (hin a ha),S₅.here⟩,
  ⟨N.ext,rfl,fun q o e nn' _=>N.keep q o e nn' fun w=>nn ((hW q w).symm.trans e),N.fresh,N.pres,fun _ _ w=>w.elim,N.news⟩,⟨.lst tD.isList ?_ (rD.lasts Lf),items,tD⟩,⟨fun q (e:q=Lc)=>⟨o,e▸ho,.inl ⟨(by rw [hd];intro _ _ z;cases z),fun w=>a.env.clr.2 (hin _ (e▸w))⟩⟩,fun q (e:q=Lc)=>e▸a.env.new.1,fun q (e:q=Lc)=>e▸a.env.clr.1⟩,m,hm⟩
 rintro (q | q)
 ·exact S₅.z_own a.z q
 ·exact (S0.freshAt hD).z q
theorem iR (K:CfgOK C gG) (EV:bJ C n R) (TR:iU C n R) {elt:E} {gens:List Mini.Internal.G} {x:Expr} {v:V} (hm:mtE (f + 1) sc (.comp elt gens) x=true)
  (h:u6 R elt gens lo H=some (v,H'))
  (r:aS n A) (S:St C ρ H s) (X:EnvOK C sc env ρ H s.heap lo):∃ (y:Expr) (cs:List Comprehension) (sc':Scope) (p:Pos),x=.ListComp y cs sc' p∧firstAsync cs=false∧∀ (use:Option (Value→Sem Unit)) (E Q:Value→Shared→Prop),
  (∀ D Lc s' ρ',St C ρ' H' s'→Nx no ρ H s ρ' H' s'→VR ρ' H' s'.heap v (.ref D)∧(∃ items,s'.heap.PlainList D items)→Loose C ρ' s'.heap (· = Lc)→(∃ m,s'.heap.Ns Lc m)→s.heap.get? Lc=none→compPost (MM C) A E use Q (.ref D) Lc (.ok .next) s') →
  wpAny (MM C) A (comprehension x sc' env (firstIterPos cs p) (newList []) false (firstIter cs env) use) Q E s:=by
 refine vx (show ∃ y cs sc' p,x=.ListComp y cs sc' p∧xM sc sc' (aN gens)=true∧bY (aN gens)=true∧mtE f sc' elt y=true∧wa (mtE f) sc sc' gens cs=true from ⟨_,_,_,_,(aQ hm).1,fX (aQ hm).2⟩) fun y cs sc' p hh1_ m0 mN m1 m2=>?_
 subst hh1_
 ·clear hm
  induction gens using List.casesOn with
  | nil=>exact nn h
  | cons g gs =>
   obtain ⟨t,it,ifs⟩:=g
   induction cs using List.casesOn with
   | nil=>exact ff m2
   | cons c cs =>
    obtain ⟨tx,ix,fx,aa⟩:=c
    have mG:=aq m2
    refine sm (fX (aj m2)) fun mB mI mF ma=>?_
    cases (beq_iff_eq.mp ma:aa=0)
    refine bpE h fun vs H1 h1 h=>?_
    refine bpE h fun ws H2 h2 h=>?_
    (refine itE h fun hk hh_=>?_;clear h;revert hh_;intro h)
    (apply de h;clear h)
    ·have O:=tX m0
     have hT:aN (.mk t it ifs :: gs)=mW t++aN gs:=by simp [aN]
     refine ⟨_,_,_,_,rfl,rfl,fun use E Q k=>?_⟩
     refine ay (mf X (names:=sc'.names) (fun x hx=>(O.fre x hx).2) [] (fun x c e=>by simp at e)) fun cl hc1 hc2 hc3=>?_
     have hclos:closureFor sc' env=pure cl:=by
      unfold closureFor
      have:=congrArg (fun t:Sem (List (Str×Addr))=>t>>=fun cs=>pure cs) hc1
      simp only [bind_pure] at this ⊢
      exact this
     refine wpAny_comprehension_free (use:=use) (g:=⟨tx,ix,fx,0⟩) (gs:=cs) rfl (uC mI) hclos O.kind (fun z hz hl=>(O.loc z.1 (by rw [← hl];exact hz)).1) ?_
     show wpAny (MM C) A (eval ix env) _ E s
     refine wpAny_mono (wF (Q:=fun (xv:Value) (s₄:Shared)=>∃ I J T l,xv=.ref I∧Begun C sc env ρ H s lo vs I J T l H1 s₄) K EV mI h1 r S X fun I J T l s₄ B=>⟨I,J,T,l,rfl,B⟩) (fun xv s₁ hp=>?_) fun _ _ e=>e
     refine wpAny_mono hp (fun itv s₂ hq=>?_) fun _ _ e=>e
     refine vF hq fun I J T l hh4_ B=>?_
     subst hh4_
     have S₂:=B.st
     have N₂:=B.nx
     refine wpAny_newObj_type ?_
     refine wpAny_newFunctionEnv (fun z hz hl=>O.cel z.1 (by rw [← hl];exact hz)) (by intro y hy;simp at hy) (fun h' hns hsb=>?_) O.kind
     dsimp only at hns hsb ⊢
     generalize hH3:s₂.heap.push { cls:=.type "list",dict:=none,data:=.seq ([]:List Value).toArray }=h3 at hns hsb ⊢
     have hD0:=ai s₂.heap
     have hD3:h3.get? s₂.heap.objs.size=some { cls:=.type "list",dict:=none,data:=.seq ([]:List Value).toArray }:=by rw [← hH3];exact Heap.get?_push_size _ rfl
     have hk3:∀ b o,s₂.heap.get? b=some o→h3.get? b=some o:=fun b o e=>by rw [← hH3];exact Heap.get?_push_of_some _ e
     have hL3:=ai h3
     have hk4:∀ b o,h3.get? b=some o→h'.get? b=some o:=fun b o e=>(hsb.2 b (fun z=>by rw [z,hL3] at e;exact nn e)).trans (Heap.get?_push_of_some _ e)
     generalize hDD:s₂.heap.objs.size=D at hD0 hD3 ⊢
     generalize hLL:h3.objs.size=Lc at hns hL3 ⊢
     have hDL:D≠Lc:=fun z=>by rw [z,hL3] at hD3;exact nn hD3
     have hk24:∀ b o,s₂.heap.get? b=some o→h'.get? b=some o:=fun b o e=>hk4 b o (hk3 b o e)
     have hD4:h'.get? D=some { cls:=.type "list",dict:=none,data:=.seq ([]:List Value).toArray }:=hk4 _ _ hD3
     have HD:=S₂.hide (s':={ s₂ with heap:=h',toks:=s₂.toks + ([]:List (Str×Value)).length }) hD0 hk24 hD4 rfl rfl
     have Lat:Lasts ⟨l,T++ρ.z⟩ H1 s₂.heap ⟨l,D :: (T++ρ.z)⟩ H1 h':=HD.2
     have hLs2:s₂.heap.get? Lc=none:=by
      cases e:s₂.heap.get? Lc with
      | none=>rfl
      | some o=>rw [hk3 _ _ e] at hL3;exact nn hL3.symm
     have X₄:=rU O B.env S₂ hLs2 hDL hk24 Lat hc2 (fun x hx=>hc3 x (.inl hx)) hns
     have hW:∀ q,Wc sc' (compEnvC sc' cl Lc env) D q→s.heap.get? q=none:=fun q w=>by
      rcases w with e | e | ⟨x,hx,_⟩
      ·rw [e];exact N₂.none_of hD0
      ·rw [e];exact N₂.none_of hLs2
      ·exact absurd (lookup_mem hx) (O.cel _)
     have Na:Nx (Wc sc' (compEnvC sc' cl Lc env) D) ⟨ρ.l,D :: (T++ρ.z)⟩ H s ⟨l,D :: (T++ρ.z)⟩ H1 { s₂ with heap:=h',toks:=s₂.toks + ([]:List (Str×Value)).length } :=
      ⟨N₂.ext,rfl,fun q o e nn _=>hk24 q o (N₂.keep q o e nn id),N₂.fresh,fun q o e=>aG (N₂.pres q o e) fun o' e'=>⟨o',hk24 q o' e'⟩,fun q o w e=>nn ((hW q w).symm.trans e),N₂.news⟩
     have A₄:Acc C sc' (compEnvC sc' cl Lc env) ⟨l,D :: (T++ρ.z)⟩ H1 { s₂ with heap:=h',toks:=s₂.toks + ([]:List (Str×Value)).length } (gu (bK :: aN (.mk t it ifs :: gs)) lo) D [] :=
      ⟨HD.1,X₄,List.mem_cons_self,#[],⟨_,hD4⟩,.nil⟩
     have it₄:ItR ⟨l,D :: (T++ρ.z)⟩ H1 h' I J vs:=B.it.keep Lat (.inr fun a m=>List.mem_cons_of_mem _ m) (fun q o _ e=>hk24 q o e) (fun q o e=>⟨o,hk24 q o e⟩)
     have L₄:Loose C ⟨l,D :: (T++ρ.z)⟩ h' J:=by
      refine ⟨fun q hq=>ae (B.lo.here q hq) fun o ho hd=>⟨o,hk24 q o ho,hd.imp (fun w=>⟨w.1,fun m=>?_⟩) fun w=>⟨w.1,List.mem_cons_of_mem _ w.2⟩⟩,B.lo.new,B.lo.apart⟩
      refine Or.elim (List.mem_cons.mp m) (fun e=>?_) fun m=>?_
      ·rw [e,hD0] at ho;exact nn ho
      ·exact w.2 m
     rw [hT] at mN
     refine j1 (env:=compEnvC sc' cl Lc env) (d:=0) (tx:=tx) (ix:=ix) (fx:=fx) rfl it₄ ?_
     refine um (env:=compEnvC sc' cl Lc env) K EV TR m1 gs (d:=0) rfl mB mF mG mN vs h2 (fun i hi=>?_) r A₄ it₄ L₄ (by simpa using aI hk) B.new Na fun s' ρ' a' n'=>?_
     ·rw [jq,if_pos]
      rw [hT]
      exact List.any_eq_true.mpr ⟨i,List.mem_cons_of_mem _ hi,Nat.beq_refl i⟩
     ·have Z:=pE O.cel a' n' S (N₂.none_of hD0) (N₂.none_of hLs2)
      exact k D Lc s' _ Z.1 Z.2.1 Z.2.2.1 Z.2.2.2.1 Z.2.2.2.2 (N₂.none_of hLs2)
theorem ef (S:St C ρ H s) {Lc:Addr} (L:Loose C ρ s.heap (· = Lc)) {m:Str→Option Value} (hm:s.heap.Ns Lc m) {h':Heap} (hs:Heap.SameBut Lc s.heap h') {s₀:Shared} {ρ₀:Rh} {H₀:Hp} (N:Nx W ρ₀ H₀ s₀ ρ H s) (h0:s₀.heap.get? Lc=none) :
  St C ρ H { s with heap:=h' }∧Nx W ρ₀ H₀ s₀ ρ H { s with heap:=h' }∧Lasts ρ H s.heap ρ H h':=by
 have hk:∀ q o,q≠Lc→s.heap.get? q=some o→h'.get? q=some o:=fun q o e g=>(hs.2 q e).trans g
 have nz:Lc∉ρ.z:=fun w=>by
  refine ae (L.here Lc rfl) fun o ho hd=>?_
  refine aT hm fun o' es ep ho' hd' _=>?_
  rw [ho] at ho';cases ho'
  rcases hd with hd | ⟨⟨xs,k,hd⟩,_⟩
  ·exact hd.2 w
  ·rw [hd] at hd';cases hd'
 refine aw (S.turnL (s':={ s with heap:=h' }) L hk (fun b hb e=>(nz (e▸hb)).elim) rfl rfl) fun S' La=>?_
 exact ⟨S',N.freely (J:=(· = Lc)) (fun q e=>e▸h0) hk,La⟩
theorem uJ (K:CfgOK C gG) (EV:bJ C n R) (TR:iU C n R) {elt:E} {gens:List Mini.Internal.G} {x:Expr} {v:V} (hm:mtE (f + 1) sc (.comp elt gens) x=true)
  (h:u6 R elt gens lo H=some (v,H'))
  (r:aS n A) (S:St C ρ H s) (X:EnvOK C sc env ρ H s.heap lo):Runs C A (eval x env) ρ H s v H':=by
 refine vy (iR K EV TR hm h r S X) fun y cs sc' p hh5_ hasy core=>?_
 subst hh5_
 intro E Q k
 rw [eval_ListComp,hasy]
 refine core none E Q fun D Lc s' ρ' S' N' rv L hm h0=>?_
 refine aG hm fun m hm=>?_
 refine ⟨m,hm,fun h'' hs=>?_⟩
 refine du (ef S' L hm hs N' h0) fun S₅ N₅ La=>?_
 exact k _ _ _ S₅ N₅ (rv.1.lasts La)
end
class inductive FlR (ρ:Rh) (H:Hp) (h:Heap):Fl→Flow→Prop
 | nxt:FlR ρ H h .nxt .next
 | cont:FlR ρ H h .cont .cont
 | ret {v:V} {x:Value}:VR ρ H h v x→FlR ρ H h (.ret v) (.ret x)
noncomputable def mC (C:Cfg) (A:Around) (sc:Scope) (env:Env) (t:Sem Flow) (ρ:Rh) (H:Hp) (s:Shared) (fl:Fl) (lo':Lo) (H':Hp):Prop:=∀ (E:Value→Shared→Prop) (Q:Flow→Shared→Prop),
 (∀ fl' s' ρ',St C ρ' H' s'→Nx (Wr sc env) ρ H s ρ' H' s'→EnvOK C sc env ρ' H' s'.heap lo'→FlR ρ' H' s'.heap fl fl'→Q fl' s')→wpAny (MM C) A t Q E s
theorem mC.eq {A:Around} {sc:Scope} {env:Env} {t:Sem Flow} {ρ:Rh} {H H1 H':Hp} {s:Shared} {f1 fl:Fl} {l1 lo':Lo} (h:(f1,l1,H1)=(fl,lo',H')) (k:mC C A sc env t ρ H s f1 l1 H1):mC C A sc env t ρ H s fl lo' H':=by
 (refine vZ h ?_;clear h);exact k
noncomputable def iV (C:Cfg) (n:Nat) (R:Sems):Prop:=∀ (f:Nat) (sc:Scope) (env:Env) (b:List S) (xs:List Stmt) (lo:Lo) (H:Hp) (fl:Fl) (lo':Lo) (H':Hp),
 om (mtS f sc) b xs=true→R.exs b lo H=some (fl,lo',H')→∀ (A:Around) (s:Shared) (ρ:Rh),aS n A→St C ρ H s→EnvOK C sc env ρ H s.heap lo→mC C A sc env (execs xs env) ρ H s fl lo' H'
section
variable {sc sc':Scope} {env:Env} {lo lo':Lo} {A:Around} {R:Sems} {n:Nat} {f:Nat} {ρ ρ':Rh} {H H':Hp} {s s':Shared} {W:Addr→Prop} {a D:Addr} {acc:List V}
set_option tactic.hygienic true in
theorem cellsFrom_some:∀ (names:List (Str×NameKind)) (k:Nat) (acc:List (Str×Addr)) (x:Str),((x,NameKind.cell)∈names∨(acc.lookup x).isSome=true)→((cellsFrom k names acc).lookup x).isSome=true
 | [],k,acc,x,h=>by simpa [cellsFrom] using h
 | (y,kd) :: r,k,acc,x,h=>by
  unfold cellsFrom
  split
  ·rename_i hk
   refine cellsFrom_some r (k + 1) _ x ?_
   refine Or.elim h (fun h=>?_) fun h=>?_
   ·refine Or.elim (List.mem_cons.mp h) (fun e=>?_) fun h=>?_
    ·(refine aw (qO e) fun e1_ e2_=>?_;clear e;subst e1_;subst e2_);exact .inr (by simp)
    ·exact .inl h
   ·refine .inr ?_
    rw [List.lookup_cons]
    cases x==y<;>simp [h]
  ·rename_i hk
   refine cellsFrom_some r k acc x ?_
   refine Or.elim h (fun h=>?_) fun h=>?_
   ·refine Or.elim (List.mem_cons.mp h) (fun e=>?_) fun h=>?_
    ·(refine aw (qO e) fun e1_ e2_=>?_;clear e;subst e1_;subst e2_);exact absurd rfl hk
    ·exact .inl h
   ·exact .inr h
theorem bindG {F:List (Str×Value)→(Str→Option Value)→Str→Option Value} {g:Str→Value→(Str→Option Value)→Str→Option Value} (h1:∀ n v r m,F ((n,v) :: r) m=F r (g n v m)) {i:Nat} (h0:∀ m,F [] m (nm i)=m (nm i)) (hg:∀ n v m,g n v m (nm i)=if nm i=n then some v else m (nm i)) {h:Heap} {v:V} {vs:List V} {ys:List Value} (rv:VRs ρ H h vs ys) :
  ∀ (ns:List Nat) (m:Str→Option Value),(ns.map nm).Nodup→(lk (ns.zip vs) i=some v→∃ x,F ((ns.map nm).zip ys) m (nm i)=some x∧VR ρ H h v x)∧(i∉ns→F ((ns.map nm).zip ys) m (nm i)=m (nm i)):=by
 refine VRs.ind (q:=fun vs ys=>∀ (ns:List Nat) (m:Str→Option Value),(ns.map nm).Nodup→(lk (ns.zip vs) i=some v→∃ x,F ((ns.map nm).zip ys) m (nm i)=some x∧VR ρ H h v x)∧(i∉ns→F ((ns.map nm).zip ys) m (nm i)=m (nm i)))
  (fun ns m _=>?_) (fun {u y vs ys} r _ ih ns m hn=>?_) rv
 ·rw [List.zip_nil_right,List.zip_nil_right];exact ⟨fun e=>nn e,fun _=>h0 m⟩
 induction ns using List.casesOn with
 | nil=>exact ⟨fun e=>nn e,fun _=>h0 m⟩
 | cons j ns =>
  replace hn:=List.nodup_cons.mp hn
  replace ih:=ih ns (g (nm j) y m) hn.2
  rw [show F (((j :: ns).map nm).zip (y :: ys)) m=F ((ns.map nm).zip ys) (g (nm j) y m) from h1 _ _ _ _]
  refine ⟨fun e=>?_,fun hni=>?_⟩
  ·replace e:=(aA j u (ns.zip vs) i).symm.trans e
   by_cases q:i=j
   ·rw [if_pos q] at e
    exact ⟨y,(ih.2 fun hm=>hn.1 (List.mem_map.mpr ⟨i,hm,congrArg nm q⟩)).trans ((hg _ _ _).trans (if_pos (congrArg nm q))),Option.some.inj e▸r⟩
   ·rw [if_neg q] at e
    exact ih.1 e
  ·rw [ih.2 (fun m=>hni (.tail _ m)),hg,if_neg fun e:nm i=nm j=>hni (fp e▸.head _)]
theorem pT {kindOf:Str→Option NameKind} {ns:List Nat} {vs:List V} {ys:List Value} {h:Heap} (rv:VRs ρ H h vs ys) (hn:(ns.map nm).Nodup) {m:Str→Option Value} {i:Nat} {v:V} (hk:kindOf (nm i)=some .local) (e:lk (ns.zip vs) i=some v) :
  ∃ x,bindL kindOf ((ns.map nm).zip ys) m (nm i)=some x∧VR ρ H h v x :=
 (bindG (F:=bindL kindOf) (g:=fun n v m=>if kindOf n=some .local then fun y=>if y=n then some v else m y else m) (fun _ _ _ _=>rfl) (fun _=>rfl) (fun n v m=>by
  by_cases q:kindOf n=some .local
  ·rw [if_pos q]
  ·rw [if_neg q,if_neg fun e:nm i=n=>q (e▸hk)]) rv ns m hn).1 e
theorem pU {kindOf:Str→Option NameKind} {ns:List Nat} {vs:List V} {ys:List Value} {h:Heap} (rv:VRs ρ H h vs ys) (hn:(ns.map nm).Nodup) {m:Str→Option Value} {i:Nat} {v:V} (hk:kindOf (nm i)≠some .local) (e:lk (ns.zip vs) i=some v) :
  ∃ x,bindC kindOf ((ns.map nm).zip ys) m (nm i)=some x∧VR ρ H h v x :=
 (bindG (F:=bindC kindOf) (g:=fun n v m=>if kindOf n=some .local then m else fun y=>if y=n then some v else m y) (fun _ _ _ _=>rfl) (fun _=>rfl) (fun n v m=>by
  by_cases q:kindOf n=some .local
  ·rw [if_pos q,if_neg fun e:nm i=n=>hk (e▸q)]
  ·rw [if_neg q]) rv ns m hn).1 e
theorem jF (K:CfgOK C gG) (EX:iV C n R) {fd:FDef} {fa:Addr} (F:Fn C fa fd) {vs:List V} {ys:List Value} {v:V} (h:cH R fd vs H=some (v,H')) (hdep:A.depth < 1000) (hroom:∀ env,aS n (A.deeper env)) (S:St C ρ H s) (rv:VRs ρ H s.heap vs ys) {RR:Result→Shared→Prop}
  (k:∀ x s' ρ',St C ρ' H' s'→Nx no ρ H s ρ' H' s'→VR ρ' H' s'.heap v x→RR (.ok (.ret x)) s'):codeAny (MM C) A (.call (.ref fa) ⟨ys,[]⟩) RR s:=by
 refine vy F fun d as stmts m F hclo hfre=>?_
 unfold cH at h
 cases hl:Nat.beq vs.length fd.params.length with
 | false=>rw [hl] at h;exact nn h
 | true =>
  rw [hl] at h
  simp only [cond_true] at h
  have hlen:=Nat.eq_of_beq_eq_true hl
  refine vG F.obj fun oc od sl hobj=>?_
  have hg:=K.X.keeps S.base _ _ hobj
  have hal:as.length=ys.length:=by
   rw [← rv.length,hlen]
   have:=congrArg List.length F.names
   simpa using this
  refine codeAny_call_cells (binds:=(as.map (·.arg)).zip ys) hdep hg rfl (K.lim.keeps S.base) (F.code.keeps S.base) F.body (gB F.params F.dflt hal (by rw [F.names];exact F.nodup)) hclo ?_ ?_ F.co F.gen F.kind
  ·intro x hx
   have hx1:x.1∈fd.params.map nm:=by
    rw [← F.names]
    exact (List.of_mem_zip (show (x.1,x.2)∈_ from hx)).1
   refine Or.elim (F.loc x.1 hx1) (fun q=>?_) fun q=>?_
   ·exact .inl q
   ·exact .inr ⟨q,cellsFrom_some _ _ _ _ (.inl (lookup_mem q))⟩
  ·intro s₁ I
   rw [F.names] at I
   obtain ⟨⟨h',tk,rfl⟩,hns,hkeep,hfresh⟩:=I.toInCall
   have hL0:s.heap.get? (callEnvC d s.heap.objs.size fa).locals=none:=by
    cases e:s.heap.get? (callEnvC d s.heap.objs.size fa).locals with
    | none=>rfl
    | some o=>exact absurd (Heap.lt_size e) (Nat.not_lt.mpr hfresh)
   have hc0:∀ x c,(callEnvC d s.heap.objs.size fa).cells.lookup x=some c→s.heap.get? c=none:=fun x c e=>by
    have:=I.above x c (lookup_mem e)
    cases e:s.heap.get? c with
    | none=>rfl
    | some o=>exact absurd (Heap.lt_size e) (Nat.not_lt.mpr (Nat.le_of_lt (Nat.lt_of_le_of_lt hfresh this)))
   have FL:=S.freshAt hL0
   refine aw (S.grow (s':={ s with heap:=h',toks:=tk }) hkeep rfl rfl) fun S₁ N₁=>?_
   have rv₁:=rv.lasts (N₁.lasts S)
   have X₁:EnvOK C d.scope (callEnvC d s.heap.objs.size fa) ρ H h' (fd.params.zip vs):=by
    refine ⟨F.kind,F.glob,F.blt,fun x hx=>hx,fun x hx=>⟨hx,?_⟩,fun x hx=>absurd hx (hfre x),fun x hx=>hx,⟨_,hns,fun i v hi hk=>?_⟩,fun i v hi hk=>?_,⟨FL.own,fun x c _ e=>(S.freshAt (hc0 x c e)).own⟩,⟨FL.base,fun x c _ e=>(S.freshAt (hc0 x c e)).base⟩,
     fun x y c _ e1 e2=>name_of_addr I.apart (lookup_mem e1) (lookup_mem e2),⟨FL.ne,FL.z⟩⟩
    ·refine aG (Option.isSome_iff_exists.mp (cellsFrom_some d.scope.names (s.heap.objs.size + 1) [] x (.inl (lookup_mem hx)))) fun c hc=>?_
     exact ⟨c,_,hc,I.cell x c hc⟩
    ·exact pT (kindOf:=(callEnvC d s.heap.objs.size fa).kindOf) rv₁ F.nodup hk hi
    ·refine Or.elim hk (fun hk=>?_) fun hk=>?_
     ·refine aG (Option.isSome_iff_exists.mp (cellsFrom_some d.scope.names (s.heap.objs.size + 1) [] (nm i) (.inl (lookup_mem hk)))) fun c hc=>?_
      refine ae (pU (kindOf:=(callEnvC d s.heap.objs.size fa).kindOf) (m:=fun _=>none) (i:=i) (v:=v) rv₁ F.nodup (by show d.scope.names.lookup (nm i)≠_;rw [hk];intro z;cases z) hi) fun x e1 r1=>?_
      have hq:=I.cell (nm i) c hc
      rw [e1] at hq
      exact ⟨c,x,hc,hq,r1⟩
     ·exact absurd hk (hfre _)
   have hW:∀ q,Wr d.scope (callEnvC d s.heap.objs.size fa) q→s.heap.get? q=none:=fun q w=>by
    rcases w with rfl | ⟨x,_,e⟩
    ·exact hL0
    ·exact hc0 x q e
   cases hb:R.exs fd.body (fd.params.zip vs) H with
   | none=>rw [hb] at h;exact nn h
   | some z =>
    obtain ⟨fl,lo',H2⟩:=z
    rw [hb] at h
    refine EX m d.scope _ fd.body stmts _ H fl lo' H2 F.mt hb (A.deeper (callEnvC d s.heap.objs.size fa)) _ ρ (hroom _) S₁ X₁ _ _ fun fl' s₂ ρ₂ S₂ N₂ X₂ q=>?_
    have NN:=Nx.close N₁ N₂ hW (fun _ _ _ e=>e)
    induction q using Mini.Internal.FlR.casesOn with
    | nxt =>
     (refine aw (dS h) fun e1_ e2_=>?_;clear h;subst e1_;subst e2_)
     exact k _ _ _ S₂ NN .none
    | cont=>exact nn h
    | ret rr =>
     (refine aw (dS h) fun e1_ e2_=>?_;clear h;subst e1_;subst e2_)
     exact k _ _ _ S₂ NN rr
theorem jH (K:CfgOK C gG) (EX:iV C n R) {fd:FDef} {fa:Addr} (F:Fn C fa fd) {vs:List V} {ys:List Value} {v:V} (h:cH R fd vs H=some (v,H')) (r:aS (n + 1) A) (S:St C ρ H s) (rv:VRs ρ H s.heap vs ys) :
  Runs C A (call (.ref fa) ys) ρ H s v H':=fun E Q k =>
 wpAny_call (jF K EX F h (by have:=r.2.1;(clear h;lia)) (fun env=>r.deep) S rv k)
end
theorem v8:nm qT=("pop" : Str):=by decide +kernel
theorem n9:nm eM=("extend" : Str):=by decide +kernel
theorem og:nm eN=("append" : Str):=by decide +kernel
theorem yB:nm oj=("get" : Str):=by decide +kernel
section
variable {prog:Program} {w:World} {A:Around} {E:Value→Shared→Prop} {s:Shared} {l:Addr} {items:Array Value}
theorem gK {k:Int} {t:Tok} {v:Value} {Q:Unit→Shared→Prop} (hl:s.heap.PlainList l items) (h0:0≤k) (hf:k < 2 ^ 63) (hk:k < items.size)
  (hQ:∀ h',h'.PlainList l (items.setIfInBounds k.toNat v)→Heap.SameBut l s.heap h'→Q () { s with heap:=h' }):wpAny (model prog w) A (setItem (.ref l) (.int k t) v) Q E s:=by
 refine hl.elim fun n ho=>?_
 have T:s.TypeIs (.ref l) "list" := ⟨_,ho,rfl⟩
 unfold setItem
 try with_reducible refine wpAny_holding ?_
 first | refine wpAny_bind (wpAny_pure ?_) | skip
 refine wpAny_bind (wpAny_sequenceKey T (by decide) ?_)
 refine wpAny_bind (wpAny_callSpecial?_slot (name:=Str.ofString "__setitem__") T slot_list_setitem (wpAny_call_entry slot_list_setitem T entry_list_setitem ?_ (args_list_setitem _ _ _)))
 show wpAny _ _ (Builtin.List.listSubscript? (.int k t)>>=_) _ _ s
 refine wpAny_bind (wpAny_listSubscript_int (fitsIndex_of h0 hf) ?_)
 clear hf
 refine aG (Int.eq_ofNat_of_zero_le h0) fun j hh1_=>?_
 subst hh1_
 have hj:j < items.size:=by omega
 show wpAny _ _ ((seqItemAt l j>>=fun r=>pure (r.map (j,·)))>>=_) _ _ s
 refine wpAny_bind (wpAny_bind (wpAny_seqItemAt ho rfl (wpAny_pure ?_)))
 rw [Array.getElem?_eq_getElem hj]
 show wpAny _ _ (setSeqItemAt l j v>>=_) _ _ s
 have fin:(s.heap.update l (Obj.mapSeq (·.setIfInBounds j v))).PlainList l (items.setIfInBounds j v):=⟨if (items.setIfInBounds j v).size==items.size then n else n + 1,Heap.get?_update_self (Obj.mapSeq (·.setIfInBounds j v)) ho rfl⟩
 refine wpAny_bind (wpAny_setSeqItemAt ho rfl ?_)
 first
  | exact wpAny_bind (wpAny_pure (wpAny_pure ⟨.none,rfl,wpAny_pure (hQ _ fin (Heap.SameBut.update ..))⟩))
  | exact wpAny_pure ⟨.none,rfl,wpAny_pure (hQ _ fin (Heap.SameBut.update ..))⟩
theorem nR {xs:List Value} {x:Value} {Q:Value→Shared→Prop} (hl:s.heap.PlainList l (xs++[x]).toArray) (hz:xs.length < sizeLine) (hQ:∀ h',h'.PlainList l xs.toArray→Heap.SameBut l s.heap h'→Q x { s with heap:=h' }) :
  wpAny (model prog w) A (call (.builtin "list.pop") [.ref l]) Q E s:=by
 refine hl.elim fun n ho=>?_
 have T:s.TypeIs (.ref l) "list" := ⟨_,ho,rfl⟩
 refine wpAny_call_entry F.slot_list_pop T F.entry_list_pop ?_ (F.args_list_pop_1 _)
 show wpAny _ _ (Builtin.List.listItems (.ref l)>>=_) _ _ s
 refine wpAny_bind (wpAny_bind (wpAny_seqItems ho rfl (wpAny_pure ?_)))
 have e0:¬ (xs++[x]).toArray.isEmpty=true:=by simp
 have e1:(seqIndex? (-1) (xs++[x]).toArray.size).bind (fun k=>((xs++[x]).toArray[k]?).map fun x=>(k,x))=some (xs.length,x):=by
  have:seqIndex? (-1) (xs++[x]).toArray.size=some xs.length:=by
   unfold seqIndex?
   simp
   omega
  rw [this]
  simp
 dsimp only
 rw [if_neg e0,e1]
 show wpAny _ _ (updateSeq l (·.eraseIdxIfInBounds xs.length)>>=fun _=>ret x) _ _ s
 have e2:(xs++[x]).toArray.eraseIdxIfInBounds xs.length=xs.toArray:=by
  apply Array.ext'
  simp [Array.eraseIdxIfInBounds]
  rw [List.eraseIdx_append_of_length_le (Nat.le_refl _)];simp
 refine wpAny_bind (wpAny_updateSeq ho rfl (wpAny_pure ⟨x,rfl,hQ _ ⟨n + 1,?_⟩ (Heap.SameBut.update ..)⟩) (by simp;omega) (by rw [e2];simp;omega))
 refine (Heap.get?_update_self (Obj.mapSeq (·.eraseIdxIfInBounds xs.length)) ho ?_).trans (congrArg some ?_)
 ·rfl
 ·show ({ cls:=Value.type "list",data:=Data.seq ((xs++[x]).toArray.eraseIdxIfInBounds xs.length) (if ((xs++[x]).toArray.eraseIdxIfInBounds xs.length).size==(xs++[x]).toArray.size then n else n + 1) }:Obj)=_
  rw [e2,if_neg (by simp)]
theorem iL {b:Addr} {items2:Array Value} {Q:Value→Shared→Prop} (hl:s.heap.PlainList l items) (hb:s.heap.IsList b items2) (hz:items.size + items2.size≤200000) (hQ:∀ h',h'.PlainList l (items++items2)→Heap.SameBut l s.heap h'→Q .none { s with heap:=h' }) :
  wpAny (model prog w) A (call (.builtin "list.extend") [.ref l,.ref b]) Q E s:=by
 refine hl.elim fun n ho=>?_
 refine t5 hb fun o hob hc n2 hd=>?_
 have T:s.TypeIs (.ref l) "list" := ⟨_,ho,rfl⟩
 refine wpAny_call_entry F.slot_list_extend T F.entry_list_extend ?_ (F.args_list_extend_2 _ _)
 show wpAny _ _ (Builtin.List.listExtendWith (.ref l) (.ref b) .none) _ _ s
 unfold Builtin.List.listExtendWith
 refine wpAny_bind (wpAny_typeOf ⟨o,hob,hc⟩ ?_)
 have h1:(Builtin.List.listSameRef (.ref l) (.ref b)||Value.type "list"==Value.type "list"||Value.type "list"==Value.type "tuple")=true:=by simp
 simp only [h1,if_true]
 refine wpAny_bind ?_
 unfold Builtin.List.listItems
 refine wpAny_bind (wpAny_seqItems hob hd (wpAny_pure ?_))
 refine wpAny_bind ?_
 refine wpAny_bind (wpAny_seqItems ho rfl (wpAny_pure ?_))
 have e0:¬ ((!items.isEmpty&&Builtin.List.listTooLong (items.size + items2.size))=true):=by
  have:Builtin.List.listTooLong (items.size + items2.size)=false:=by
   unfold Builtin.List.listTooLong;rw [af];exact decide_eq_false (by omega)
  rw [this];simp
 rw [if_neg e0]
 show wpAny _ _ (updateSeq l (·++items2)>>=fun _=>ret .none) _ _ s
 have fin:(s.heap.update l (Obj.mapSeq (·++items2))).PlainList l (items++items2):=⟨if (items++items2).size==items.size then n else n + 1,Heap.get?_update_self (Obj.mapSeq (·++items2)) ho rfl⟩
 exact wpAny_bind (wpAny_updateSeq ho rfl (wpAny_pure ⟨_,rfl,hQ _ fin (Heap.SameBut.update ..)⟩) (by rw [af];omega) (by rw [Array.size_append,af];omega))
end
section
variable {sc sc':Scope} {env:Env} {lo lo':Lo} {A:Around} {R:Sems} {n:Nat} {f:Nat} {ρ ρ':Rh} {H H':Hp} {s s':Shared} {W:Addr→Prop} {a D:Addr} {acc:List V}
theorem Fn.keeps {a:Addr} {fd:FDef} (F:Fn C a fd):Keeps C (.ref a):=by
 refine vy F fun d as stmts m F _ _=>?_
 exact ku F.keep
theorem uK (K:CfgOK C gG) (EV:bJ C n R) (EX:iV C n R) {g:Nat} {args:List E} {x:Expr} {v:V} (hm:mtE (f + 1) sc (.call g args) x=true)
  (h:(lk C.P.funs g).bind (fun fd=>(evs R args lo H).bind fun (vs,H)=>cH R fd vs H)=some (v,H'))
  (r:aS (n + 1) A) (S:St C ρ H s) (X:EnvOK C sc env ρ H s.heap lo):Runs C A (eval x env) ρ H s v H':=by
 have hx:=aQ hm
 have m:=fY hx.2
 refine ay (aH m.1) fun pp hy hl hd=>?_
 refine bsE h fun fd h1 ha=>?_
 refine bpE ha fun vs H1 h2 hb=>?_
 refine ae (K.fn g fd h1) fun a ha F=>?_
 refine .of (x':=.Call (.Name (nm g) pp) (pt x).l [] (pt x).p) (hx.1.trans (congrArg (fun z=>Expr.Call z (pt x).l [] (pt x).p) hy)) fun E Q k=>?_
 exact Call_Name rfl (wpAny_Name (dA K X S hl ha (ck K EV F.keeps m.2.1 h2 r.dec S X fun ys s₁ ρ₁ S₁ N₁ r₁=>jH K EX F hb r S₁ r₁ E Q fun x s₂ ρ₂ S₂ N₂ r₂=>k x s₂ ρ₂ S₂ (N₁.trans N₂) r₂)) hd)
theorem xA (K:CfgOK C gG) (EV:bJ C n R) {b:Bi} {args:List E} {y:Expr} {xs:List Expr} {p:Pos} {v:V} (hg:bu sc (kU b) y=true) (hm:b5 (mtE f) sc args xs=true) (hb:b≠.isTuple)
  (h:(evs R args lo H).bind (fun (vs,H)=>aP b vs H)=some (v,H'))
  (r:aS n A) (S:St C ρ H s) (X:EnvOK C sc env ρ H s.heap lo):Runs C A (eval (.Call y xs [] p) env) ρ H s v H':=by
 refine bpE h fun vs H1 h2 hfin=>?_
 refine ay (aH hg) fun pp hh3_ hl hd=>?_
 subst hh3_
 intro E Q k
 refine Call_Name rfl ?_
 refine wpAny_Name (aD K X S hl (yo b) (pR b) ?_) hd
 refine ck K EV (rA b) hm h2 r S X fun ys s₁ ρ₁ S₁ N₁ r₁=>?_
 exact pP S₁ r.1 r₁ hfin hb E Q fun x s₂ ρ₂ S₂ N₂ r₂=>k x s₂ ρ₂ S₂ (N₁.trans N₂) r₂
theorem mM {args:List E} {xs:List Expr} {T:Str} (hm:(match args,xs with | [a],[z,t]=>mtE f sc a z&&bu sc T t | _,_=>false)=true):∃ a z t,args=[a]∧xs=[z,t]∧mtE f sc a z=true∧bu sc T t=true:=by
 induction args using List.casesOn with
 | nil=>exact ff hm
 | cons a l=>induction l using List.casesOn with
  | cons _ _=>exact ff hm
  | nil=>induction xs using List.casesOn with
   | nil=>exact ff hm
   | cons z xs=>induction xs using List.casesOn with
    | nil=>exact ff hm
    | cons t xs=>induction xs using List.casesOn with
     | cons _ _=>exact ff hm
     | nil=>exact ⟨a,z,t,rfl,rfl,cB hm⟩
theorem xr (K:CfgOK C gG) (EV:bJ C n R) {a:E} {y z t:Expr} {p:Pos} {u:V} {b:Bool} {T:String} (hg:bu sc "isinstance" y=true) (mz:mtE f sc a z=true) (ht:bu sc (T:Str) t=true)
  (hin:(T:Str)∈cg) (hT:bootBuiltins T=some (.type T)) (h3:R.ev a lo H=some (u,H')) (hr:∀ {s₁:Shared} {ρ₁:Rh} {xu:Value},St C ρ₁ H' s₁→VR ρ₁ H' s₁.heap u xu→InstOK C A ρ₁ H' s₁ T xu b)
  (r:aS n A) (S:St C ρ H s) (X:EnvOK C sc env ρ H s.heap lo):Runs C A (eval (.Call y [z,t] [] p) env) ρ H s (.bool b) H':=by
 refine ay (aH hg) fun pp e1 hl hd=>?_
 refine ay (aH ht) fun pt e2 hlt hdt=>?_
 rw [e1,e2]
 intro E Q k
 refine Call_Name rfl ?_
 refine wpAny_Name (aD K X S hl (by decide +kernel) (pR .isTuple) ?_) hd
 rw [show backTo p (starEach [z,.Name (T:Str) pt] env)=bj [z,.Name (T:Str) pt] env by rw [bQ (d1 f a z mz).1];rfl]
 refine W.callWith_of (P:=C.K.In) (b7 _) (bE _) (evalArgs_plain ?_)
 show wpAny (MM C) A (spliced ((false,eval z env) :: bj [.Name (T:Str) pt] env)) _ E s
 refine wpAny_bind (EV f sc env a z lo H u _ mz h3 A s ρ r S X E _ fun x1 s₁ ρ₁ S₁ N₁ r₁=>?_)
 refine wpAny_bind (wpAny_pure (wpAny_bind (wpAny_holding ?_)))
 refine wpAny_bind (wpAny_Name (aD K (X.next S N₁) S₁ hlt hin hT ?_) hdt)
 refine wpAny_bind (wpAny_pure (wpAny_bind (wpAny_holding (wpAny_pure (wpAny_pure (wpAny_pure ⟨K.X.keeps S₁.base,?_⟩))))))
 exact (hr S₁ r₁).r E Q fun x s₂ ρ₂ S₂ N₂ r₂=>k x s₂ ρ₂ S₂ (N₁.trans N₂) r₂
theorem lS {R:Sems} {a:E} {b:Bi} {v:V} {g:V→Bool} (hc:∀ u H,aP b [u] H=bif u.ref?.isSome then Option.none else some (.bool (g u),H)) (h:(evs R [a] lo H).bind (fun (vs,H)=>aP b vs H)=some (v,H')):∃ u,R.ev a lo H=some (u,H')∧u.ref?=Option.none∧v=.bool (g u):=by
 refine bpE h fun vs H1 h2 hb=>?_
 refine bpE h2 fun u H2 h3 h4=>?_
 refine aw (dS (show some ([u],H2)=some (vs,H1) from h4)) fun e1 e2=>?_
 rw [← e1,← e2] at hb
 replace hb:=(hc u H2).symm.trans hb
 cases hr:u.ref? with
 | some _=>rw [hr] at hb;exact nn hb
 | none =>
  rw [hr] at hb
  refine aw (dS hb) fun e3 e4=>?_
  rw [e4] at h3
  exact ⟨u,h3,hr,e3.symm⟩
theorem yb (K:CfgOK C gG) (EV:bJ C n R) {b:Bi} {args:List E} {x:Expr} {v:V} (hm:mtE (f + 1) sc (.bi b args) x=true)
  (h:aO C.P R (.bi b args) lo H=some (v,H'))
  (r:aS n A) (S:St C ρ H s) (X:EnvOK C sc env ρ H s.heap lo):Runs C A (eval x env) ρ H s v H':=by
 have hx:=aQ hm
 have hg:=aj hx.2
 have hm:=aq hx.2
 cases b with
 | isTuple =>
  refine jL (mM (T:="tuple") hm) fun a z t e1 e2 mz ht=>?_
  rw [e1] at h
  refine ay (lS (b:=.isTuple) (g:=fun u=>u.tup?.isSome) (fun _ _=>rfl) h) fun u h1 hr e3=>?_
  rw [e3]
  exact .of (x':=.Call (pt x).a [z,t] [] (pt x).p) (hx.1.trans (congrArg (fun l=>Expr.Call (pt x).a l [] (pt x).p) e2)) (xr (T:="tuple") K EV hg mz ht (by decide +kernel) (by decide +kernel) h1 (fun S₁ ru=>wG S₁ hr ru) r S X)
 | _=>exact .of (x':=.Call (pt x).a (pt x).l [] (pt x).p) hx.1 (xA K EV hg (aj hm) (by decide) h r S X)
theorem oy {o:Expr} {name:Str} {apos pos:Pos} {ov:Value} {es:List E} {xs:List Expr} (hxs:b5 (mtE f) sc es xs=true) (hl:(apos.endLine==pos.line)=true) (hn:Nat.ble es.length 20=true) {E:Value→Shared→Prop} {Q:Value→Shared→Prop}
  (h:∀ pl,wpAny (MM C) A (getMethod ov name pl) (fun p s'=>wpAny (MM C) A (callWith pos p.1 p.2 (backTo pos (starEach xs env)) []) Q E s') E s) :
  wpAny (MM C) A (methodCall o name apos pos env ov (xs.length + ([]:List Keyword).length) (backTo pos (starEach xs env)) (backToKw pos (keywordEach [] env))) Q E s:=by
 have hn:=Nat.le_of_ble_eq_true hn
 rw [jn hxs] at hn
 have hform:methodCallForm (xs.length + ([]:List Keyword).length) (backTo pos (starEach xs env)) (backToKw pos (keywordEach [] env))=true:=by
  unfold methodCallForm
  rw [bq hxs,aV]
  have h1:(bj xs env).all (fun x=>!x.1)=true:=by
   clear hxs hn h
   induction xs with
   | nil=>rfl
   | cons x xs ih=>simpa [bj] using ih
  rw [h1]
  show (true&&true&&decide (xs.length + 0 + 0 < 30))=true
  simp;(clear h1 hl hxs;lia)
 have hpos:methodCallPos true o env apos pos=pure pos:=by unfold methodCallPos;simp [hl]
 unfold methodCall
 rw [hform]
 refine wpAny_bind (wpAny_holding (wpAny_mono (h _) (fun p s' hp=>?_) fun _ _ e=>e))
 exact wpAny_bind (wpAny_of_eq hpos hp)
theorem eF {items:Array Value} (t:s.heap.PlainList a items):s.TypeIs (.ref a) "list" := aG t fun _ e=>⟨_,e,rfl⟩
theorem u4 (S:St C ρ H s) {i:Nat} {o:O} {p:Addr×Addr} (hn:nth H i=some o) (hp:ρ[i]?=some p) (hd:o.isDict=true):s.TypeIs (.ref p.1) "dict"∧∃ ob,s.heap.get? p.1=some ob∧ob.dict=none:=by
 have:=S.objs i o p hn hp
 cases o with
 | dI l=>refine aw this fun _ hh1_=>?_;refine ae hh1_ fun xs hh2_ _=>?_;obtain ⟨o,es,ep,ho,hx,_⟩:=hh2_;exact ⟨⟨o,ho,hx.1⟩,o,ho,hx.2.1⟩
 | dT l=>refine aw this fun _ hh3_=>?_;refine ae hh3_ fun xs hh4_ _=>?_;obtain ⟨o,es,ep,ho,hx,_⟩:=hh4_;exact ⟨⟨o,ho,hx.1⟩,o,ho,hx.2.1⟩
 | _=>exact ff hd
theorem qa (S:St C ρ H s) {r:Nat} {l:List V} {p:Addr×Addr} {v:V} {y:Value} (hn:nth H r=some (.list l)) (hp:ρ[r]?=some p) (rv:VR ρ H s.heap v y) (hl:ax l.length=true) :
  Runs C A (call (.builtin "list.append") [.ref p.1,y]) ρ H s .none (H.set r (.list (l++[v]))):=by
 refine aw (S.objs r _ p hn hp) fun e hh5_=>?_
 refine ae hh5_ fun items t rl=>?_
 have h1:=rl.length
 simp only [Array.length_toList] at h1
 have h2:=aI hl
 intro E Q k
 refine wpAny_list_append_plain t (fun h' t' hb=>?_) (by rw [af];(clear e hl hp hn;lia))
 have hz:∃ o,h'.get? p.1=some o:=aG t' fun _ e=>⟨_,e⟩
 refine aw (S.set (s':={ s with heap:=h' }) hn rfl hp (o':=.list (l++[v])) (fun q x n1 _ g=>(hb.2 q n1).trans g) ⟨hz,by rw [e];exact hz⟩ rfl rfl
  (fun L=>⟨e,_,t',by rw [Array.toList_push];exact (rl.lasts L).append (.cons (rv.lasts L) .nil)⟩)) fun S' N=>?_
 exact k _ _ _ S' N .none
theorem list_set (S:St C ρ H s) {r:Nat} {l l':List V} {p:Addr×Addr} {h':Heap} {items':Array Value} (hn:nth H r=some (.list l)) (hp:ρ[r]?=some p) (e:p.2=p.1) (t':h'.PlainList p.1 items') (hb:Heap.SameBut p.1 s.heap h')
  (rr:Lasts ρ H s.heap ρ (H.set r (.list l')) h'→VRs ρ (H.set r (.list l')) h' l' items'.toList):St C ρ (H.set r (.list l')) { s with heap:=h' }∧Nx no ρ H s ρ (H.set r (.list l')) { s with heap:=h' }:=by
 have hz:∃ o,h'.get? p.1=some o:=aG t' fun _ e=>⟨_,e⟩
 exact S.set (s':={ s with heap:=h' }) hn rfl hp (o':=.list l') (fun q x n1 _ g=>(hb.2 q n1).trans g) ⟨hz,by rw [e];exact hz⟩ rfl rfl (fun L=>⟨e,_,t',rr L⟩)
theorem vY (S:St C ρ H s) {r:Nat} {l:List V} {p:Addr×Addr} {v:V} (hn:nth H r=some (.list l)) (hp:ρ[r]?=some p) (hv:l.getLast?=some v) (hc:Nat.ble l.length cap=true):Runs C A (call (.builtin "list.pop") [.ref p.1]) ρ H s v (H.set r (.list l.dropLast)):=by
 refine aw (S.objs r _ p hn hp) fun e hh6_=>?_
 refine ae hh6_ fun items t rl=>?_
 have h1:=rl.length
 obtain ⟨i,hi⟩:∃ i,l[i]?=some v∧i + 1=l.length:=by
  refine ⟨l.length - 1,by rw [List.getLast?_eq_getElem?] at hv;exact hv,?_⟩
  have:l≠[]:=by rintro rfl;cases hv
  have:=List.length_pos_iff.mpr this
  omega
 refine ae (rl.get hi.1) fun x hx rx=>?_
 have hx2:items=(items.toList.dropLast++[x]).toArray:=by
  apply Array.ext'
  have hne:items.toList≠[]:=by intro q;rw [q] at hx;cases hx
  have:items.toList.getLast?=some x:=by rw [List.getLast?_eq_getElem?,← h1,← hi.2];simpa using hx
  refine aG (List.getLast?_eq_some_iff.mp this) fun zs hz=>?_
  rw [hz];simp
 have hcap:=Nat.le_of_ble_eq_true hc
 intro E Q k
 refine nR (xs:=items.toList.dropLast) (x:=x) (hx2▸t) (by rw [List.length_dropLast,← h1,af];unfold cap at hcap;omega) fun h' t' hb=>?_
 have G:=list_set S (l':=l.dropLast) hn hp e t' hb (fun L=>(rl.lasts L).dropLast)
 exact k _ _ _ G.1 G.2 (rx.lasts (G.2.lasts S))
theorem o9 (S:St C ρ H s) {r:Nat} {l w:List V} {p:Addr×Addr} {y:Value} (hn:nth H r=some (.list l)) (hp:ρ[r]?=some p) (rv:VR ρ H s.heap (.lst w) y) (hc:ax (l.length + w.length)=true):Runs C A (call (.builtin "list.extend") [.ref p.1,y]) ρ H s .none (H.set r (.list (l++w))):=by
 refine aw (S.objs r _ p hn hp) fun e hh7_=>?_
 refine ae hh7_ fun items t rl=>?_
 have h1:=rl.length
 simp only [Array.length_toList] at h1
 have h2:=aI hc
 intro E Q k
 refine VR.lstE rv fun {b items2} tb nb rb=>?_
 have h3:=rb.length
 simp only [Array.length_toList] at h3
 refine iL t tb (by omega) fun h' t' hb=>?_
 have G:=list_set S (l':=l++w) hn hp e t' hb (fun L=>by rw [Array.toList_append];exact (rl.lasts L).append (rb.lasts L))
 exact k _ _ _ G.1 G.2 .none
theorem oF {m:Nat} (hm:oT m=true):∃ id,Slot "list" (nm m) id∧typeOf (.builtin id)=pure (.type "method_descriptor")∧∀ {A:Around} {ρ:Rh} {H H':Hp} {s:Shared} {r:Nat} {l:List V} {p:Addr×Addr} {vs:List V} {ys:List Value} {v:V},St C ρ H s→nth H r=some (.list l)→ρ[r]?=some p→VRs ρ H s.heap vs ys →
  qX r (.list l) m vs H=some (v,H')→Runs C A (call (.builtin id) (.ref p.1 :: ys)) ρ H s v H':=by
 have em:m=eN∨m=qT∨m=eM:=by
  refine Or.elim ((Bool.or_eq_true _ _).mp hm) (fun q=>?_) fun q=>?_
  ·refine Or.elim ((Bool.or_eq_true _ _).mp q) (fun q=>?_) fun q=>?_
   ·exact .inl (Nat.eq_of_beq_eq_true q)
   ·exact .inr (.inl (Nat.eq_of_beq_eq_true q))
  ·exact .inr (.inr (Nat.eq_of_beq_eq_true q))
 rcases em with rfl | rfl | rfl
 ·refine ⟨_,og▸slot_list_append,type_list_append,fun {A ρ H H' s r l p vs ys v} S hn hp rv h=>?_⟩
  induction rv using Mini.Internal.VRs.casesOn with
  | nil=>exact nn h
  | @cons v0 x0 vs0 xs0 a b=>induction b using Mini.Internal.VRs.casesOn with
   | cons _ _=>exact nn h
   | nil =>
    replace h:(bif ax l.length then some (V.none,H.set r (.list (l++[v0]))) else Option.none)=some (v,H'):=h
    (refine itE h fun hl hh_=>?_;clear h;revert hh_;intro h)
    exact .eqs h (qa S hn hp a hl)
 ·refine ⟨_,v8▸F.slot_list_pop,F.type_list_pop,fun {A ρ H H' s r l p vs ys v} S hn hp rv h=>?_⟩
  induction rv using Mini.Internal.VRs.casesOn with
  | nil =>
   (refine itE h fun hc hh_=>?_;clear h;revert hh_;intro h)
   (refine msE h fun w hw hh_=>?_;clear h;revert hh_;intro h)
   exact .eq h (vY S hn hp hw (aq hc))
  | cons a b=>induction b using Mini.Internal.VRs.casesOn<;>exact nn h
 ·refine ⟨_,n9▸F.slot_list_extend,F.type_list_extend,fun {A ρ H H' s r l p vs ys v} S hn hp rv h=>?_⟩
  induction rv using Mini.Internal.VRs.casesOn with
  | nil=>exact nn h
  | @cons v0 x0 vs0 xs0 a b=>induction b using Mini.Internal.VRs.casesOn with
   | cons _ _=>exact nn h
   | nil =>
    replace h:((v0.lst?).bind fun w=>bif ax (l.length + w.length) then some (V.none,H.set r (.list (l++w))) else Option.none)=some (v,H'):=h
    (refine bsE h fun w hw hh_=>?_;clear h;revert hh_;intro h)
    (refine itE h fun hl hh_=>?_;clear h;revert hh_;intro h)
    exact .eqs h (o9 S hn hp (aZ hw▸a) hl)
theorem oU {kv:V} (h:kv.isKey=true):∃ ts,kv=.tup ts:=by induction kv using Mini.Internal.V.casesOn<;>first | exact ⟨_,rfl⟩ | exact ff h
theorem uB (K:CfgOK C gG) (S:St C ρ H s) {r:Nat} {p:Addr×Addr} {kv d v:V} {x y:Value} (hp:ρ[r]?=some p) (rx:VR ρ H s.heap kv x) (ry:VR ρ H s.heap d y) (hu:A.units + 200 < cLine):∀ {o:O},mD C ρ H s.heap p o→x7 o kv d=some v →
  Runs C A (call (.builtin "dict.get") (.ref p.1 :: [x,y])) ρ H s v H
 | .dT l,ob,h=>by
  have hz:=S.not_sys K hp
  (refine itE h fun hk hh_=>?_;clear h;revert hh_;intro h)
  refine aG (oU hk) fun ts e=>?_
  rw [e] at hk rx
  rw [← Option.some.inj h,e]
  refine aw ob fun _ hh8_=>?_
  refine ae hh8_ fun xs D rl=>?_
  refine VR.tupE rx fun {_ _} t z rr=>?_
  have is:(bP C.prog C.w).is s.heap (.tup ts) _:=⟨hk,(VR.tup t z rr).kr (ba hk)⟩
  have rm:(bP C.prog C.w).room A.in1:=by show A.units + 1 + 60 < cLine;clear is h D;lia
  refine Runs.here S fun E Q k=>call_meetsIn F.slot_dict_get D.typeIs F.entry_dict_get (F.args_dict_get_3 _ _ _) (meetsH_dict_get_default (bP C.prog C.w) p.1 _ hz y) ⟨rm,_,_,is,D,?_⟩
  rcases rl.getT (.tup ts) with ⟨e1,e2⟩ | ⟨u,b,z,e1,e2,rz⟩
  ·simp only [e2];rw [e1] at k;exact k _ _ ry rfl rfl rfl
  ·simp only [e2];rw [e1] at k;exact k _ _ rz rfl rfl rfl
 | .dI _,_,h=>by exact nn h
 | .list _,_,h=>by exact nn h
 | .inst _ _,_,h=>by exact nn h
 | .dead,_,h=>by exact nn h
theorem wM (K:CfgOK C gG) (S:St C ρ H s) {r:Nat} {o:O} {p:Addr×Addr} {vs:List V} {ys:List Value} {v:V} (hn:nth H r=some o) (hp:ρ[r]?=some p) (hd:o.isDict=true) (rv:VRs ρ H s.heap vs ys) (h:qX r o oj vs H=some (v,H')) (hu:A.units + 200 < cLine) :
  Runs C A (call (.builtin "dict.get") (.ref p.1 :: ys)) ρ H s v H':=by
 have h0:(xJ vs).bind (fun x=>(x7 o x.1 x.2).map fun v=>(v,H))=some (v,H'):=by induction o using Mini.Internal.O.casesOn<;>first | exact h | exact ff hd
 refine bsE h0 fun w hv h2=>?_
 rw [ic hv] at rv
 refine msE h2 fun u h3 e=>?_
 refine aW rv.two fun x y e2 rx ry=>?_
 rw [e2]
 exact .eq e (uB K S hp rx ry hu (S.objs r _ p hn hp) h3)
end
section
variable {sc sc':Scope} {env:Env} {lo lo':Lo} {A:Around} {R:Sems} {n:Nat} {f:Nat} {ρ ρ':Rh} {H H':Hp} {s s':Shared} {W:Addr→Prop} {a D:Addr} {acc:List V}
theorem kX {ρ ρ':Rh} (h:ρ.l <+: ρ'.l) {i:Nat} {p:Addr×Addr} (e:ρ[i]?=some p):ρ'[i]?=some p:=bU h e
section
variable {m rr:Nat} {args:List E} {xs:List Expr} {p:Pos} {v:V} {p1:Addr×Addr} {vs:List V} {H2:Hp} {E:Value→Shared→Prop} {Q:Value→Shared→Prop} {pl:Sem Bool}
noncomputable abbrev MGo (env:Env) (A:Around) (m:Nat) (xs:List Expr) (p:Pos) (x:Value) (pl:Sem Bool) (Q E:Value→Shared→Prop) (s:Shared):Prop:=wpAny (MM C) A (getMethod x (nm m) pl) (fun p_1 s'=>wpAny (MM C) A (callWith p p_1.1 p_1.2 (backTo p (starEach xs env)) []) Q E s') E s
theorem oz (K:CfgOK C gG) (EV:bJ C n R) (r:aS (n + 1) A) (S:St C ρ H s) (X:EnvOK C sc env ρ H s.heap lo) (m4:b5 (mtE f) sc args xs=true) (hz:evs R args lo H=some (vs,H2)) {T id:String} (pa:PlainAttrs T) (slot:Slot T (nm m) id) (hty:typeOf (.builtin id)=pure (.type "method_descriptor")) (hT:s.TypeIs (.ref p1.1) T) (hd:∃ ob,s.heap.get? p1.1=some ob∧ob.dict=none)
  (hfin:∀ {ys:List Value} {s₂:Shared} {ρ₂:Rh},St C ρ₂ H2 s₂→Nx no ρ H s ρ₂ H2 s₂→VRs ρ₂ H2 s₂.heap vs ys→Runs C A (call (.builtin id) (.ref p1.1 :: ys)) ρ₂ H2 s₂ v H')
  (k:∀ x s' ρ',St C ρ' H' s'→Nx no ρ H s ρ' H' s'→VR ρ' H' s'.heap v x→Q x s'):MGo env A m xs p (.ref p1.1) pl Q E s :=
 getMethod_builtin hT pa slot hty (fun a e=>by cases e;exact hd) (ck K EV (bE _) m4 hz r.dec S X fun ys s₂ ρ₂ S₂ N₂ r₂=>hfin S₂ N₂ r₂ E Q fun x s₃ ρ₃ S₃ N₃ r₃=>k x s₃ ρ₃ S₃ (N₂.trans N₃) r₃)
theorem qW (K:CfgOK C gG) (EV:bJ C n R) (r:aS (n + 1) A) (S:St C ρ H s) (X:EnvOK C sc env ρ H s.heap lo) (m4:b5 (mtE f) sc args xs=true) (hz:evs R args lo H=some (vs,H2)) {ob ob2:O} (hn:nth H rr=some ob) (hp:ρ[rr]?=some p1) (hn2:nth H2 rr=some ob2)
  (hc:((oT m&&ob.isList&&ob2.isList)||(Nat.beq m oj&&ob.isDict&&ob2.isDict))=true) (h:qX rr ob2 m vs H2=some (v,H'))
  (k:∀ x s' ρ',St C ρ' H' s'→Nx no ρ H s ρ' H' s'→VR ρ' H' s'.heap v x→Q x s'):MGo env A m xs p (.ref p1.1) pl Q E s:=by
 refine Or.elim (xN hc) (fun q=>?_) fun q=>?_
 ·have q:=fY q
  induction ob using Mini.Internal.O.casesOn with
  | list l=>induction ob2 using Mini.Internal.O.casesOn with
   | list l2 =>
    refine ae (S.objs rr _ p1 hn hp).2 fun items t _=>ay (oF q.1) fun id m1 m2 m3=>?_
    exact oz K EV r S X m4 hz F.plainAttrs_list m1 m2 (eF t) (aG t fun _ e=>⟨_,e,rfl⟩) (fun {ys s₂ ρ₂} S₂ N₂ rv=>m3 S₂ hn2 (kX N₂.ext hp) rv h) k
   | _=>exact ff q.2.2
  | _=>exact ff q.2.1
 ·have q:=fY q
  have em:=Nat.eq_of_beq_eq_true q.1
  rw [em] at h ⊢
  exact aw (u4 S hn hp q.2.1) fun hT hd=>oz K EV r S X m4 hz F.plainAttrs_dict (yB.symm▸F.slot_dict_get) F.type_dict_get hT hd (fun {ys s₂ ρ₂} S₂ N₂ rv=>wM K S₂ hn2 (kX N₂.ext hp) q.2.2 rv h r.dec.units) k
theorem ox (K:CfgOK C gG) (EV:bJ C n R) (EX:iV C n R) (r:aS (n + 1) A) (S:St C ρ H s) (X:EnvOK C sc env ρ H s.heap lo) (m4:b5 (mtE f) sc args xs=true) (mi:Nat.beq m eo=false) {c:Nat} {l:List (Nat×V)} (hn:nth H rr=some (.inst c l)) (hp:ρ[rr]?=some p1)
  (h2:(bif (lk l m).isSome then Option.none else (lk C.P.classes c).bind fun ms=>(lk ms m).bind fun f=>(evs R args lo H).bind fun (vs,H)=>cH R f (.ref rr :: vs) H)=some (v,H'))
  (k:∀ x s' ρ',St C ρ' H' s'→Nx no ρ H s ρ' H' s'→VR ρ' H' s'.heap v x→Q x s'):MGo env A m xs p (.ref p1.1) pl Q E s:=by
 cases hs:(lk l m).isSome with
 | true=>rw [hs] at h2;exact nn h2
 | false =>
  rw [hs] at h2
  refine bsE h2 fun ms hms h=>bsE h fun fd hfd h=>bpE h fun vs H2 h3 h=>?_
  have KC:=K.cl c ms hms
  refine ay (KC.meth m fd hfd) fun fa e1 e2 e3=>iY (S.inst hn hp) fun es nn ar hd hne I=>?_
  have F:Fn C fa fd:=e3.resolve_right fun e=>ff (mi.symm.trans (e▸Nat.beq_refl m))
  refine W.method_fn (K.X.keeps S.base) I (W.plainGet_of (KC.get (nm m))).1 (W.plainGet_of (KC.get (nm m))).2 e1 e2 (by show (W.lookIn (nm m) (dictOf es nn)).map _=_;rw [W.lookIn_dict,ar.no (Option.isSome_eq_false_iff.mp hs |> Option.isNone_iff_eq_none.mp)];rfl) ?_
  exact ck K EV F.keeps m4 h3 r.dec S X fun ys s₂ ρ₂ S₂ N₂ r₂=>jH K EX F h r S₂ (.cons (.ref (kX N₂.ext hp)) r₂) E Q fun x s₃ ρ₃ S₃ N₃ r₃=>k x s₃ ρ₃ S₃ (N₂.trans N₃) r₃
end
theorem uG (K:CfgOK C gG) (EV:bJ C n R) (EX:iV C n R) {o:E} {m:Nat} {args:List E} {x:Expr} {v:V} (hm:mtE (f + 1) sc (.meth o m args) x=true)
  (h:aO C.P R (.meth o m args) lo H=some (v,H'))
  (r:aS (n + 1) A) (S:St C ρ H s) (X:EnvOK C sc env ρ H s.heap lo):Runs C A (eval x env) ρ H s v H':=by
 have hx:=aQ hm
 have hy:=bp (aj hx.2)
 have q7:=cB (aq hx.2)
 have q6:=cB q7.1
 have q5:=cB q6.1
 have q4:=cB q5.1
 have q3:=fY q4.1
 have e:(pt (pt x).a).s=nm m:=beq_iff_eq.mp q3.2.1
 have hxx:x=.Call (.Attribute (pt (pt x).a).a (nm m) (pt (pt x).a).p) (pt x).l [] (pt x).p:=by rw [← e];exact (hx.1.trans (congrArg (fun z=>Expr.Call z (pt x).l [] (pt x).p) hy))
 refine .of hxx fun E Q k=>?_
 rw [arm_eval_Call,gH q4.2]
 refine bpE h fun u H1 h1 h=>bsE h fun rr hr h=>bsE h fun ob hn h=>?_
 rw [aY hr] at h1
 refine wpAny_bind (EV f sc env o _ lo H _ H1 q3.1 h1 A s ρ r.dec S X E _ fun x1 s₁ ρ₁ S₁ N₁ r₁=>VR.refE r₁ fun {p1} hp=>wpAny_bind (wpAny_standAt (oy q6.2 q5.2 q7.2 fun pl=>?_)))
 have X₁:=X.next S N₁
 have k₁:∀ x s' ρ',St C ρ' H' s'→Nx no ρ₁ H1 s₁ ρ' H' s'→VR ρ' H' s'.heap v x→Q x s':=fun x s' ρ' S' N' r'=>k x s' ρ' S' (N₁.trans N') r'
 cases hi:ob.inst? with
 | none =>
  rw [hi] at h
  exact bpE h fun vs H2 h3 h=>bsE h fun ob2 hn2 h=>itE h fun hc h=>qW K EV r S₁ X₁ q6.2 h3 hn hp hn2 hc h k₁
 | some w =>
  rw [hi] at h
  rw [d8 hi] at hn
  exact ox K EV EX r S₁ X₁ q6.2 (by simpa using q3.2.2) hn hp h k₁
end
noncomputable def qg (C:Cfg) (n:Nat) (R:Sems):Prop:=∀ (c:Nat) (a:Addr) (f:FDef) (r:Nat) (H:Hp) (v:V) (H':Hp),Sup C c a f→nth H r=some (.inst c [])→cH R f [.ref r] H=some (v,H') →
 ∀ (A:Around) (s:Shared) (ρ:Rh) (p:Addr×Addr),A.depth < 1000→(∀ env,aS n (A.deeper env))→St C ρ H s→ρ[r]?=some p→∀ (RR:Result→Shared→Prop),
 (∀ x s' ρ',St C ρ' H' s'→Nx no ρ H s ρ' H' s'→VR ρ' H' s'.heap v x→RR (.ok (.ret x)) s')→codeAny (MM C) A (.call (.ref a) ⟨[.ref p.1],[]⟩) RR s
section
variable {sc sc':Scope} {env:Env} {lo lo':Lo} {A:Around} {R:Sems} {n:Nat} {f:Nat} {ρ ρ':Rh} {H H':Hp} {s s':Shared} {W:Addr→Prop} {a D:Addr} {acc:List V}
theorem ie (c:Addr) (l:List Value):(Code.builtin "type.__call__" ⟨.ref c :: l,[]⟩).weight=1:=by kernel_rfl
theorem wX (K:CfgOK C gG) (EV:bJ C n R) (EX:iV C n R) (SO:qg C n R) {c:Nat} {args:List E} {x:Expr} {v:V} (hm:mtE (f + 1) sc (.new c args) x=true)
  (h:aO C.P R (.new c args) lo H=some (v,H'))
  (r:aS (n + 1) A) (S:St C ρ H s) (X:EnvOK C sc env ρ H s.heap lo):Runs C A (eval x env) ρ H s v H':=by
 have hx:=aQ hm
 have m:=fY hx.2
 have hm:=m.2.1
 refine ay (aH m.1) fun pp hy hl hd=>?_
 rw [hx.1,show bk (ek (.new c args)) (pt x)=.Call (pt x).a (pt x).l [] (pt x).p from rfl,hy]
 clear hx hy m
 refine bsE h fun ms h1 ha=>?_
 clear h
 refine bsE ha fun fd h2 h=>?_
 clear ha
 refine bpE h fun vs H1 h3 ha=>?_
 clear h
 refine bpE ha fun w H2 h4 hb=>?_
 clear ha
 have KC:=K.cl c ms h1
 refine ay (KC.init fd h2) fun fa e1 e2 e3=>?_
 refine itE hb fun hw h=>?_
 clear hb
 obtain rfl:=none_of hw
 (refine de h ?_;clear h)
 intro E Q k
 refine Call_Name rfl ?_
 refine wpAny_Name (dA K X S hl KC.glob ?_) hd
 refine ck K EV (ku KC.keep) hm h3 r.dec S X fun ys s₁ ρ₁ S₁ N₁ r₁=>?_
 have Xk:C.K.In s₁.heap:=K.X.keeps S₁.base
 have key:∀ hh,hh=s₁.heap→codeAny (MM C) A (.call (.ref (C.cls c)) ⟨ys,[]⟩) (fun r s'=>match r with | .ok (.ret v)=>Q v s' | .ok _=>False | .error e=>E e s') ⟨hh,s₁.gens,s₁.drawn,s₁.toks,s₁.os⟩:=by
  rintro hh rfl
  refine W.make_core (W.makes_of Xk KC.makes) (W.looks_findIn Xk e1) (fun self=>W.bind_fn Xk self e2) (.inl rfl) ?_
  have hk1:∀ b o,s₁.heap.get? b=some o→((s₁.heap.push W.emptyDict).push (W.instObj (C.cls c) s₁.heap.objs.size)).get? b=some o:=fun b o e=>Heap.get?_push_of_some _ (Heap.get?_push_of_some _ e)
  have hsz:(s₁.heap.push W.emptyDict).objs.size=s₁.heap.objs.size + 1:=by simp
  have hx:((s₁.heap.push W.emptyDict).push (W.instObj (C.cls c) s₁.heap.objs.size)).get? (s₁.heap.objs.size + 1)=some (W.instObj (C.cls c) s₁.heap.objs.size):=by
   rw [← hsz];exact Heap.get?_push_size _ rfl
  have hdx:((s₁.heap.push W.emptyDict).push (W.instObj (C.cls c) s₁.heap.objs.size)).get? s₁.heap.objs.size=some W.emptyDict:=Heap.get?_push_of_some _ (Heap.get?_push_size _ rfl)
  refine du (S₁.mk' (o:=.inst c []) (p:=(s₁.heap.objs.size + 1,s₁.heap.objs.size)) (s':=⟨(s₁.heap.push W.emptyDict).push (W.instObj (C.cls c) s₁.heap.objs.size),s₁.gens,s₁.drawn,s₁.toks,s₁.os⟩)
   (by
    cases e:s₁.heap.get? (s₁.heap.objs.size + 1) with
    | none=>rfl
    | some o=>exact absurd (Heap.lt_size e) (Nat.not_lt.mpr (Nat.le_succ _))) (ai _) hk1 ⟨⟨_,hx⟩,_,hdx⟩ rfl rfl
   (fun L=>⟨by simp,hx,[],0,hdx,.nil⟩)) fun S₂ N₂ e=>?_
  have r₂:=r₁.lasts (N₂.lasts S₁)
  have hdep:(A.under (.builtin "type.__call__" ⟨.ref (C.cls c) :: ys,[]⟩)).depth < 1000:=by
   have:=r.2.1
   show A.depth + (Code.builtin "type.__call__" ⟨.ref (C.cls c) :: ys,[]⟩).weight < 1000
   rw [ie];lia
  have hroom:∀ env,aS n ((A.under (.builtin "type.__call__" ⟨.ref (C.cls c) :: ys,[]⟩)).deeper env):=fun env=>⟨r.1,by
   have:=r.2.1
   show A.depth + (Code.builtin "type.__call__" ⟨.ref (C.cls c) :: ys,[]⟩).weight + 1 + 2 * n < 900
   rw [ie];lia,by have:=r.2.2;show A.units + 1 + 3 + 8 * n + 200 < cLine;lia⟩
  have back:∀ x s' ρ',St C ρ' H2 s'→Nx no (ρ₁++[(s₁.heap.objs.size + 1,s₁.heap.objs.size)]) (H1++[.inst c []]) ⟨(s₁.heap.push W.emptyDict).push (W.instObj (C.cls c) s₁.heap.objs.size),s₁.gens,s₁.drawn,s₁.toks,s₁.os⟩ ρ' H2 s'→VR ρ' H2 s'.heap .none x →
    W.InitBack (s₁.heap.objs.size + 1) (fun r s'=>match r with | .ok (.ret v)=>Q v s' | .ok _=>False | .error e=>E e s') (.ok (.ret x)) s':=by
   intro x s' ρ' S' N' rx
   refine VR.noneE rx ?_
   refine ⟨rfl,k _ s' ρ' S' ((N₁.trans N₂).trans N') (.ref (p:=(s₁.heap.objs.size + 1,s₁.heap.objs.size)) (kX N'.ext e))⟩
  refine Or.elim e3 (fun F=>?_) fun F=>?_
  ·exact jF K EX F h4 hdep hroom S₂ (.cons (.ref (p:=(s₁.heap.objs.size + 1,s₁.heap.objs.size)) e) r₂) back
  ·induction vs using List.casesOn with
   | cons _ _ =>
    exfalso
    obtain ⟨c2,m2,b2,ms2,f2d,d,ar,p0,p1,ap,pq,p',rest,nn,cc,cda,f2,rfl,_⟩:=F
    cases h4
   | nil =>
    cases r₁
    exact SO c fa fd H1.length _ .none H2 F (by simp [nth]) h4 _ _ _ (s₁.heap.objs.size + 1,s₁.heap.objs.size) hdep hroom S₂ e _ back
 exact wpAny_call (key _ rfl)
end
section
variable {sc sc':Scope} {env:Env} {lo lo':Lo} {A:Around} {R:Sems} {n:Nat} {f:Nat} {ρ ρ':Rh} {H H':Hp} {s s':Shared} {a D:Addr} {acc:List V}
theorem AR.isStr {h:Heap} {l:List (Nat×V)} {es:List DictEntry} (r:AR ρ H h l es):(es.any (·.refKey))=false:=by
 induction r with
 | nil=>rfl
 | cons _ _ ih=>simp only [List.any_cons,ih,Bool.or_false];rfl
theorem AR.len {h:Heap} {l:List (Nat×V)} {es:List DictEntry} (r:AR ρ H h l es):es.length=l.length:=by
 induction r with
 | nil=>rfl
 | cons _ _ ih=>simp [ih]
theorem AR.put {h:Heap} {l:List (Nat×V)} {es:List DictEntry} (r:AR ρ H h l es) {a:Nat} {v:V} {x:Value} {hs:Int} {t:Tok} (rx:VR ρ H h v x):AR ρ H h (ak l a v) (W.putL (nm a) hs (.str (nm a) t) x es):=by
 induction r with
 | nil=>exact .cons rx .nil
 | @cons j u y hs' t' l l' q r ih =>
  rw [iz]
  unfold W.putL
  have ek:(⟨hs',.str (nm j) t',y⟩:DictEntry).key.isStr (nm a)=Nat.beq j a:=kW j a
  rw [ek,iy]
  by_cases e:a=j
  ·subst e
   simp only [decide_true,if_true]
   exact .cons rx r
  ·have e':¬ j=a:=fun z=>e z.symm
   rw [if_neg e,if_neg (by simp [e'])]
   exact .cons q ih
theorem j7 (name:Str) (hs:Int) (k v:Value):∀ es:List DictEntry,(W.putL name hs k v es).length≤es.length + 1
 | []=>by simp [W.putL]
 | e :: r=>by
  unfold W.putL
  split
  ·simp
  ·have:=j7 name hs k v r
   simp only [List.length_cons];lia
theorem lD (K:CfgOK C gG) (S:St C ρ H s) {r c:Nat} {l:List (Nat×V)} {p:Addr×Addr} {b:Nat} {v:V} {x:Value} {ms:List (Nat×FDef)} (hn:nth H r=some (.inst c l)) (hp:ρ[r]?=some p) (hc:lk C.P.classes c=some ms)
  (hb:b∈C.P.attrs) (hl:l.length≤50) (rx:VR ρ H s.heap v x) {E:Value→Shared→Prop} {Q:Unit→Shared→Prop}
  (k:∀ s',St C ρ (H.set r (.inst c (ak l b v))) s'→Nx no ρ H s ρ (H.set r (.inst c (ak l b v))) s'→Q () s'):wpAny (MM C) A (setAttr (.ref p.1) (nm b) x) Q E s:=by
 obtain ⟨hh,g,dr,tk,os⟩:=s
 have KC:=K.cl c ms hc
 have X:C.K.In hh:=K.X.keeps S.base
 refine du (S.objs r _ p hn hp) fun hne h1 hh1_=>?_
 refine aX hh1_ fun es nn h2 ar=>?_
 have I:PySem.W.InstAt hh p.1 ⟨.ref (C.cls c),some p.2,.plain,#[]⟩ (C.cls c) (some (dictOf es nn)):=⟨h1,rfl,rfl,h2⟩
 have ht:W.takerIn C.K (C.cls c) (nm b)=some none:=by unfold W.takerIn;rw [KC.attr b hb];rfl
 refine W.set_plain X I KC.set ?_
 refine W.osa_open (s:=⟨hh,g,dr,tk + 1,os⟩) X I KC.over ht fun onT=>?_
 refine ae (W.any_some KC.dict) fun cd hcd hdd=>?_
 refine wpAny_bind (wpAny_pure (wpAny_bind (wpAny_bind (wpAny_loadPart h1 (wpAny_bind ((W.looks_clsIn X hcd).at ?_))))))
 rw [hdd]
 refine wpAny_pure (a:=some p.2) (wpAny_bind (wpAny_pure (wpAny_bind ?_)))
 unfold nsSet
 refine wpAny_bind (wpAny_bind (wpAny_askSetting (wpAny_pure (wpAny_bind (wpAny_mkText (wpAny_bind (wpAny_loadPart h2 ?_)))))))
 have hc0:(!es.toArray.any (·.key.isStr (nm b))&&es.toArray.any (·.refKey))=false:=by
  have:=ar.isStr
  simp [this]
 dsimp only
 rw [aRefKeyMayBeTheName_at,hc0]
 refine wpAny_updatePart h2 ?_
 generalize (if (nm b).cps.isEmpty=true then 0 else reduceHash ((model C.prog C.w).w.params.strHash (nm b).cps))=hs
 have hput:=W.putName_dict (nm b) hs (.str (nm b) (tk + 1)) x es nn
 have D':(hh.update p.2 (Obj.putName (nm b) hs (.str (nm b) (tk + 1)) x)).get? p.2=some (dictOf (W.putL (nm b) hs (.str (nm b) (tk + 1)) x es) (W.putN (nm b) es nn)):=by
  rw [Heap.get?_update_self _ h2 (by rw [hput];rfl),hput]
 have hlen:(W.putL (nm b) hs (.str (nm b) (tk + 1)) x es).length≤51:=by
  have:=j7 (nm b) hs (.str (nm b) (tk + 1)) x es
  rw [ar.len] at this;(clear D' hput hc0 hdd hcd ht h2 h1 hne hc hp hn;lia)
 refine wpAny_bind (wpAny_lookBehind D' (pastItsLine_dict (by rw [List.size_toArray,sizeLine_eq];(clear D' hput hc0 hdd hcd ht h2 h1 hne hl hc hp hn;lia))) ?_)
 have hk:∀ q o,q≠p.1→q≠p.2→hh.get? q=some o→(hh.update p.2 (Obj.putName (nm b) hs (.str (nm b) (tk + 1)) x)).get? q=some o:=fun q o _ n2 e=>(Heap.get?_update_other _ _ (Ne.symm n2)).trans e
 have h1':(hh.update p.2 (Obj.putName (nm b) hs (.str (nm b) (tk + 1)) x)).get? p.1=some ⟨.ref (C.cls c),some p.2,.plain,#[]⟩:=(Heap.get?_update_other _ _ (Ne.symm hne)).trans h1
 refine aw (S.set (s':=⟨hh.update p.2 (Obj.putName (nm b) hs (.str (nm b) (tk + 1)) x),g,dr,tk + 1 + 1,os⟩) hn rfl hp (o':=.inst c (ak l b v)) hk ⟨⟨_,h1'⟩,_,D'⟩ rfl rfl
  (fun L=>⟨hne,h1',_,_,D',(ar.lasts L).put (rx.lasts L)⟩)) fun S' N=>?_
 exact wpAny_pure (k _ S' N)
end
section
variable {sc sc':Scope} {env:Env} {lo lo':Lo} {A:Around} {R:Sems} {n:Nat} {f:Nat} {ρ ρ':Rh} {H H':Hp} {s s':Shared} {a D:Addr} {acc:List V}
theorem ij (j:V) (b:Addr) (w:Value) (r:List (V×Addr×Value)) (k:V) (a:Addr) (v:Value) (hn:j∉r.map (·.1)):storedH ((j,b,w) :: r) k a v=if j=k then (j,b,v) :: r else (j,b,w) :: storedH r k a v:=by
 unfold storedH
 rw [gI]
 by_cases e:j=k
 ·subst e
  simp only [if_true,Option.isSome_some,List.map_cons,putAt]
  rw [map_putAt_of_not_mem r j v hn]
 ·rw [if_neg e,if_neg e]
  split
  ·simp only [List.map_cons,putAt,if_neg e]
  ·rfl
theorem TR.setT {h:Heap} {l:List (V×V)} {xs:List (V×Addr×Value)} (p:TR ρ H h l xs):(xs.map (·.1)).Nodup→∀ {k v:V} {a:Addr} {y:Value},VR ρ H h k (.ref a)→VR ρ H h v y→TR ρ H h (Mini.Internal.setT l k v) (storedH xs k a y):=by
 induction p with
 | nil=>intro _ k v a y rk r;exact .cons rk r .nil
 | @cons j v b x l l' rj r q ih =>
  intro hn k u a y rk ru
  rw [List.map_cons,List.nodup_cons] at hn
  rw [ij _ _ _ _ _ _ _ hn.1]
  rw [show Mini.Internal.setT ((j,v) :: l) k u=if j=k then (j,u) :: l else (j,v) :: Mini.Internal.setT l k u from (congrArg (cond · _ _) (b8 j k)).trans (Bool.cond_decide _ _ _)]
  by_cases e:j=k
  ·rw [if_pos e,if_pos e];exact .cons rj ru q
  ·rw [if_neg e,if_neg e];exact .cons rj r (ih hn.2 rk ru)
theorem PR.lenI {h:Heap} {l:List (Int×V)} {xs:List (Int×Value)} (p:PR id ρ H h l xs):xs.length=l.length:=by
 induction p with
 | nil=>rfl
 | cons _ _ ih=>exact congrArg (· + 1) ih
section
variable {nn:Nat} {p:Addr×Addr} {i v:V} {y z:Value} {o':O} {E:Value→Shared→Prop} {Q:Unit→Shared→Prop}
theorem set_list (S:St C ρ H s) {l:List V} (hn:nth H nn=some (.list l)) (hp:ρ[nn]?=some p) (hob:mD C ρ H s.heap p (.list l)) (ri:VR ρ H s.heap i y) (rv:VR ρ H s.heap v z) (h:dE (.list l) i v=some o')
  (k:∀ s',St C ρ (H.set nn o') s'→Nx no ρ H s ρ (H.set nn o') s'→Q () s'):wpAny (MM C) A (setItem (.ref p.1) y z) Q E s:=by
 refine bsE h fun j hj h=>iyE h fun hc h=>ae hob.2 fun items t rl=>?_
 rw [az hj] at ri
 rw [← Option.some.inj h] at k
 have hlen:l.length=items.size:=rl.length
 refine VR.intE ri fun _=>gK t hc.1 (Int.lt_of_lt_of_le hc.2.2 (by decide)) (by rw [← hlen];exact (Int.toNat_lt hc.1).mp hc.2.1) fun h' t' hb=>?_
 have G:=list_set S (l':=l.set j.toNat v) hn hp hob.1 t' hb (fun L=>by rw [Array.toList_setIfInBounds];exact (rl.lasts L).set _ (rv.lasts L))
 exact k _ G.1 G.2
theorem vU (S:St C ρ H s) {l:List (Int×V)} (hn:nth H nn=some (.dI l)) (hp:ρ[nn]?=some p) (hob:mD C ρ H s.heap p (.dI l)) (ri:VR ρ H s.heap i y) (rv:VR ρ H s.heap v z) (h:dE (.dI l) i v=some o')
  (k:∀ s',St C ρ (H.set nn o') s'→Nx no ρ H s ρ (H.set nn o') s'→Q () s'):wpAny (MM C) A (setItem (.ref p.1) y z) Q E s:=by
 refine bsE h fun j hj h=>itE h fun hl h=>ae hob.2 fun xs D R=>?_
 rw [az hj] at ri
 rw [← Option.some.inj h] at k
 refine VR.intE ri fun _=>wpAny_setItem_pairs (g6 _ _ _ _) D (fun h' D' hb=>?_) (by rw [sizeLine_eq,R.lenI];exact Nat.le_trans (aI hl) (by decide))
 have hz:∃ o,h'.get? p.1=some o:=iX D' fun o _ _ e _=>⟨o,e⟩
 have G:=S.set (s':={ s with heap:=h',toks:=s.toks + 1 }) hn rfl hp (o':=.dI (setI l j v)) (fun q o n1 _ g=>(hb.2 q n1).trans g) ⟨hz,by rw [hob.1];exact hz⟩ rfl rfl (fun L=>⟨hob.1,_,D',(PR.lasts L R).setI (qo D fun _ _ _ _ _ _ _ _ q=>q) (rv.lasts L)⟩)
 exact k _ G.1 G.2
theorem vT (S:St C ρ H s) {l:List (V×V)} (hn:nth H nn=some (.dT l)) (hp:ρ[nn]?=some p) (hob:mD C ρ H s.heap p (.dT l)) (ri:VR ρ H s.heap i y) (rv:VR ρ H s.heap v z) (h:dE (.dT l) i v=some o') (hu:A.units + 200 < cLine)
  (k:∀ s',St C ρ (H.set nn o') s'→Nx no ρ H s ρ (H.set nn o') s'→Q () s'):wpAny (MM C) A (setItem (.ref p.1) y z) Q E s:=by
 refine itE h fun hl h=>ae hob.2 fun xs D R=>ae (ri.is (aj hl)) fun q e is=>?_
 rw [← Option.some.inj h] at k
 rw [e] at ri ⊢
 have rm:(bP C.prog C.w).room A.in1:=show A.units + 1 + 60 < cLine from Nat.lt_of_le_of_lt (Nat.add_le_add_left (by decide:61≤200) A.units) hu
 refine wpAny_setItem_heap rm is D (fun h' D' hb=>?_) (by rw [sizeLine_eq,R.len];exact Nat.le_trans (aI (aq hl)) (by decide))
 have hz:∃ o,h'.get? p.1=some o:=iX D' fun o _ _ e _=>⟨o,e⟩
 have G:=S.set (s':={ s with heap:=h',toks:=s.toks + (bP C.prog C.w).draws i }) hn rfl hp (o':=.dT (setT l i v)) (fun q o n1 _ g=>(hb.2 q n1).trans g) ⟨hz,by rw [hob.1];exact hz⟩ rfl rfl (fun L=>⟨hob.1,_,D',(TR.lasts L R).setT (qo D fun _ _ _ _ _ _ _ _ q=>q) (ri.lasts L) (rv.lasts L)⟩)
 exact k _ G.1 G.2
end
theorem lC (S:St C ρ H s) {o i v:V} {x y z:Value} (ro:VR ρ H s.heap o x) (ri:VR ρ H s.heap i y) (rv:VR ρ H s.heap v z) (h:bR H o i v=some H') (hu:A.units + 200 < cLine)
  {E:Value→Shared→Prop} {Q:Unit→Shared→Prop} (k:∀ s',St C ρ H' s'→Nx no ρ H s ρ H' s'→Q () s'):wpAny (MM C) A (setItem x y z) Q E s:=by
 refine bsE h fun r hr h=>bsE h fun ob hn h=>msE h fun o' h e'=>?_
 rw [aY hr] at ro
 rw [← e'] at k
 refine ay (S.ref_obj ro hn) fun p hp e hob=>?_
 rw [e]
 induction ob using O.casesOn with
 | list l=>exact set_list S hn hp hob ri rv h k
 | dI l=>exact vU S hn hp hob ri rv h k
 | dT l=>exact vT S hn hp hob ri rv h hu k
 | _=>exact Mini.Internal.nn h
end
noncomputable def si (C:Cfg) (n:Nat) (R:Sems):Prop:=∀ (f:Nat) (sc:Scope) (env:Env) (elt:E) (gens:List G) (x:Expr) (lo:Lo) (H:Hp) (v:V) (H':Hp),mtE f sc (.comp elt gens) x=true→R.ev (.comp elt gens) lo H=some (v,H') →
 ∀ (A:Around) (s:Shared) (ρ:Rh),aS n A→St C ρ H s→EnvOK C sc env ρ H s.heap lo→∃ (y:Expr) (cs:List Comprehension) (sc':Scope) (p:Pos),x=.ListComp y cs sc' p∧firstAsync cs=false∧∀ (use:Option (Value→Sem Unit)) (E Q:Value→Shared→Prop),
  (∀ D Lc s' ρ',St C ρ' H' s'→Nx no ρ H s ρ' H' s'→VR ρ' H' s'.heap v (.ref D)∧(∃ items,s'.heap.PlainList D items)→Loose C ρ' s'.heap (· = Lc)→(∃ m,s'.heap.Ns Lc m)→s.heap.get? Lc=none→compPost (MM C) A E use Q (.ref D) Lc (.ok .next) s') →
  wpAny (MM C) A (comprehension x sc' env (firstIterPos cs p) (newList []) false (firstIter cs env) use) Q E s
section
variable {sc sc':Scope} {env:Env} {lo lo':Lo} {A:Around} {R:Sems} {n:Nat} {f:Nat} {ρ ρ':Rh} {H H':Hp} {s s':Shared} {a D:Addr} {acc:List V}
theorem jN (TR:iU C n R) (EX:iV C n R) {c:E} {b:List S} {tx:Expr} {xs:List Stmt} (hc:mtE f sc c tx=true) (hb:om (mtS f sc) b xs=true):∀ (k:Nat) {lo:Lo} {H:Hp} {fl:Fl} {lo':Lo} {H':Hp},cF R c b k lo H=some (fl,lo',H') →
  ∀ {A:Around} {s:Shared} {ρ:Rh},aS n A→St C ρ H s→EnvOK C sc env ρ H s.heap lo→∀ {RR:Result→Shared→Prop},
  (∀ fl' s' ρ',St C ρ' H' s'→Nx (Wr sc env) ρ H s ρ' H' s'→EnvOK C sc env ρ' H' s'.heap lo'→FlR ρ' H' s'.heap fl fl'→RR (.ok fl') s')→codeAny (MM C) A (.whileLoop tx xs [] env) RR s
 | 0,_,_,_,_,_,h,_,_,_,_,_,_,_,_=>by exact nn h
 | k + 1,lo,H,fl,lo',H',h,A,s,ρ,r,S,X,RR,kk=>by
  refine bpE h fun w H1 h1 ha=>?_
  clear h
  refine bsE ha fun t ht h=>?_
  clear ha
  obtain rfl:=aE ht
  refine codeAny_of_tree ?_
  show wpAny _ A (Sem.onRaise (whileTurn tx xs [] env) _) _ _ s
  refine wpAny_onRaise ?_
  unfold whileTurn
  refine wpAny_bind (TR f sc env c tx lo H t H1 hc h1 A s ρ r S X _ _ fun s₁ ρ₁ S₁ N₁=>?_)
  induction t using Bool.casesOn with
  | false =>
   (revert kk;apply j2 h;clear h;intro kk)
   rw [if_neg Bool.false_ne_true]
   refine wpAny_bind (wpAny_execs_nil ?_)
   exact wpAny_pure (kk .next s₁ ρ₁ S₁ (N₁.wide X.wdata) (X.next S N₁) .nxt)
  | true =>
   rw [if_pos rfl]
   refine b3E h fun f1 lo1 H2 h2 ha=>?_
   clear h
   have X₁:=X.next S N₁
   refine wpAny_bind (EX f sc env b xs lo H1 f1 lo1 H2 hb h2 A s₁ ρ₁ r S₁ X₁ _ _ fun fl' s₂ ρ₂ S₂ N₂ X₂ q=>?_)
   have NN:=(N₁.wide X.wdata).trans N₂
   have again:cF R c b k lo1 H2=some (fl,lo',H')→codeAny (MM C) A (.whileLoop tx xs [] env) RR s₂:=fun h=>jN TR EX hc hb k h r S₂ X₂ fun fl' s₃ ρ₃ S₃ N₃ X₃ q=>kk fl' s₃ ρ₃ S₃ (NN.trans N₃) X₃ q
   induction q using Mini.Internal.FlR.casesOn with
   | nxt=>exact wpAny_pure ⟨rfl,again ha⟩
   | cont=>exact wpAny_pure ⟨rfl,again ha⟩
   | ret rr=>(revert kk;apply j2 ha;clear ha;intro kk);exact wpAny_pure (kk _ s₂ ρ₂ S₂ NN X₂ (.ret rr))
theorem sU (EX:iV C n R) {t:T} {b:List S} {tx:Expr} {xs:List Stmt} (ht:mtB sc t tx=true) (hb:om (mtS f sc) b xs=true):∀ (vs:List V) {lo:Lo} {H:Hp} {fl:Fl} {lo':Lo} {H':Hp},fT R t b vs lo H=some (fl,lo',H') →
  ∀ {A:Around} {s:Shared} {ρ:Rh} {I:Addr} {J:Addr→Prop},aS n A→St C ρ H s→EnvOK C sc env ρ H s.heap lo→ItR ρ H s.heap I J vs→Loose C ρ s.heap J→∀ {ρa:Rh} {Ha:Hp} {sa:Shared},(∀ q,J q→sa.heap.get? q=none)→Nx (Wr sc env) ρa Ha sa ρ H s→∀ {RR:Result→Shared→Prop},
  (∀ fl' s' ρ',St C ρ' H' s'→Nx (Wr sc env) ρa Ha sa ρ' H' s'→EnvOK C sc env ρ' H' s'.heap lo'→FlR ρ' H' s'.heap fl fl'→RR (.ok fl') s')→codeAny (MM C) A (.forLoop tx (.ref I) xs [] env) RR s
 | [],lo,H,fl,lo',H',h,A,s,ρ,I,J,r,S,X,it,L,ρa,Ha,sa,hI,N,RR,kk=>by
  (revert kk;apply j2 h;clear h;intro kk)
  refine codeAny_of_tree ?_
  show wpAny _ A (Sem.onRaise (forTurn tx (.ref I) xs [] env) _) _ _ s
  refine wpAny_onRaise ?_
  unfold forTurn
  refine wpAny_bind (wpAny_standAt (wpAny_bind (wpAny_onRaise (it.stop S L r.1 fun s₁ S₁ La hk=>?_))))
  refine wpAny_pure (And.intro rfl (codeAny_block (wpAny_execs_nil ?_)))
  exact kk .next s₁ ρ S₁ (N.freely hI hk) (X.turnAt La (fun q e=>ay (it.obj.2 q e) fun o ho _ hd=>⟨o,ho,hd⟩) hk) .nxt
 | v :: vs,lo,H,fl,lo',H',h,A,s,ρ,I,J,r,S,X,it,L,ρa,Ha,sa,hI,N,RR,kk=>by
  refine bsE h fun lo1 h1 ha=>?_
  clear h
  refine b3E ha fun f1 lo2 H2 h2 h=>?_
  clear ha
  refine codeAny_of_tree ?_
  show wpAny _ A (Sem.onRaise (forTurn tx (.ref I) xs [] env) _) _ _ s
  refine wpAny_onRaise ?_
  unfold forTurn
  refine wpAny_bind (wpAny_standAt (wpAny_bind (wpAny_onRaise (it.step S L fun y s₁ Y=>?_))))
  have X₁:=X.turnAt Y.t.la (fun q e=>ay (it.obj.2 q e) fun o ho _ hd=>⟨o,ho,hd⟩) Y.t.k
  refine wpAny_bind (Y.it.letGo Y.t.st Y.t.lo fun s₂ Y₂ it₂=>?_)
  have X₂:=X₁.turnAt Y₂.la (fun q e=>ay (Y.it.obj.2 q e) fun o ho _ hd=>⟨o,ho,hd⟩) Y₂.k
  have nJ:∀ q,J q→¬ Wr sc env q:=fun q hq=>ay (it₂.obj.2 q hq) fun o ho _ hd=>X₂.not_wr ho hd
  refine wpAny_bind (fL X₂ Y₂.st r.1 ht h1 (Y.v.lasts Y₂.la) fun s₃ S₃ N₃ X₃=>?_)
  have L₃:=Y₂.lo.next N₃ nJ
  have it₃:=it₂.keep (N₃.lasts Y₂.st) (.inl N₃.z) (fun q o hq e=>N₃.keep q o e (Y₂.lo.own hq) (nJ q hq)) N₃.pres
  have Na₃:=((N.freely hI Y.t.k).freely hI Y₂.k).trans N₃
  refine wpAny_bind (EX f sc env b xs lo1 H f1 lo2 H2 hb h2 A s₃ ρ r S₃ X₃ _ _ fun fl' s₄ ρ₄ S₄ N₄ X₄ q=>?_)
  have it₄:=it₃.keep (N₄.lasts S₃) (.inl N₄.z) (fun q o hq e=>N₄.keep q o e (L₃.own hq) (nJ q hq)) N₄.pres
  have L₄:=L₃.next N₄ nJ
  have again:fT R t b vs lo2 H2=some (fl,lo',H')→codeAny (MM C) A (.forLoop tx (.ref I) xs [] env) RR s₄:=fun h=>sU EX ht hb vs h r S₄ X₄ it₄ L₄ hI (Na₃.trans N₄) kk
  induction q using Mini.Internal.FlR.casesOn with
  | nxt=>exact wpAny_pure ⟨rfl,again h⟩
  | cont=>exact wpAny_pure ⟨rfl,again h⟩
  | ret rr =>
   (revert kk;apply j2 h;clear h;intro kk)
   exact wpAny_pure (kk _ s₄ ρ₄ S₄ (Na₃.trans N₄) X₄ (.ret rr))
end
section
variable {sc sc':Scope} {env:Env} {lo lo':Lo} {A:Around} {R:Sems} {n:Nat} {f:Nat} {ρ ρ':Rh} {H H':Hp} {s s':Shared} {a D:Addr} {acc:List V}
noncomputable def putAll (ps:List (Nat×V)) (lo:Lo):Lo:=ps.foldl (fun lo p=>ak lo p.1 p.2) lo
theorem oC {ps:List (Nat×V)} {j:Nat} (h:j∉ps.map (·.1)):lk ps j=Option.none:=by
 induction ps with
 | nil=>rfl
 | cons p r ih=>rw [aA p.1 p.2,if_neg fun e:j=p.1=>h (e▸.head _),ih fun m=>h (.tail _ m)]
theorem iA {ps:List (Nat×V)} {lo:Lo} {j:Nat} (hn:(ps.map (·.1)).Nodup):lk (putAll ps lo) j=(match lk ps j with | some v=>some v | Option.none=>lk lo j):=by
 induction ps generalizing lo with
 | nil=>rfl
 | cons p r ih =>
  replace hn:=List.nodup_cons.mp hn
  show lk (putAll r (ak lo p.1 p.2)) j=_
  rw [ih hn.2,aA p.1 p.2,cM]
  by_cases e:j=p.1
  ·rw [e,oC hn.1,if_pos rfl,if_pos rfl]
  ·rw [if_neg e,if_neg e]
theorem wk {ps qs:List (Nat×V)} {j:Nat}:lk (ps++qs) j=(match lk ps j with | some v=>some v | Option.none=>lk qs j):=by
 induction ps with
 | nil=>rfl
 | cons p r ih =>
  rw [List.cons_append,aA p.1 p.2,aA p.1 p.2]
  by_cases e:j=p.1
  ·rw [if_pos e,if_pos e]
  ·rw [if_neg e,if_neg e,ih]
theorem wj {ps:List (Nat×V)} {j:Nat} (hn:(ps.map (·.1)).Nodup):lk ps.reverse j=lk ps j:=by
 induction ps with
 | nil=>rfl
 | cons p r ih =>
  replace hn:=List.nodup_cons.mp hn
  rw [List.reverse_cons,wk,ih hn.2,aA p.1 p.2,aA p.1 p.2]
  by_cases e:j=p.1
  ·rw [e,oC hn.1];exact (if_pos rfl).trans (if_pos rfl).symm
  ·rw [if_neg e,if_neg e];cases lk r j<;>rfl
theorem mq {ts:List Nat} {vs:List V} {lo lo':Lo} (h:gF ts vs lo=some lo'):lo'=putAll (ts.zip vs) lo:=by
 induction ts generalizing vs lo with
 | nil=>induction vs using List.casesOn with
  | nil=>exact (Option.some.inj h).symm
  | cons _ _=>exact nn h
 | cons t ts ih=>induction vs using List.casesOn with
  | nil=>exact nn h
  | cons v vs=>exact ih h
theorem cJ:∀ {l:List Nat},bY l=true→l.Nodup
 | [],_=>List.nodup_nil
 | i :: l,h=>List.nodup_cons.mpr ⟨fun hm=>List.any_eq_false.mp (uf (cA h)) i hm (Nat.beq_refl _),cJ (cz h)⟩
theorem rZ {ns:List Nat} {vs:List V} {ys:List Value} {lo:Lo} {s:Shared} (ho:∀ i∈ns,sC sc (nm i)=true) (hl:ns.length=vs.length) (rv:VRs ρ H s.heap vs ys) (X:EnvOK C sc env ρ H s.heap lo) (S:St C ρ H s)
  {E:Value→Shared→Prop} {Q:Unit→Shared→Prop} (k:∀ s',St C ρ H s'→Nx (Wr sc env) ρ H s ρ H s'→EnvOK C sc env ρ H s'.heap (putAll (ns.zip vs) lo)→Q () s'):wpAny (MM C) A (assignInOrder (ns.map fun i=>bindName env (nm i)) ys) Q E s:=by
 induction ns generalizing vs ys lo s with
 | nil =>
  induction vs using List.casesOn with
  | nil=>cases rv;exact wpAny_pure (k s S (Nx.refl' X.wdata) X)
  | cons _ _=>cases hl
 | cons i ns ih =>
  induction vs using List.casesOn with
  | nil=>cases hl
  | cons v vs =>
   refine VRs.consE rv fun {_ _} r rs=>?_
   show wpAny _ _ (holding _ (bindName env (nm i) _)>>=fun _=>assignInOrder _ _) _ _ _
   refine wpAny_bind (wpAny_holding (wpAny_bindName (jZ X S (ho i List.mem_cons_self) r fun s₁ S₁ N₁ X₁=>?_)))
   exact ih (fun j hj=>ho j (List.mem_cons_of_mem _ hj)) (Nat.succ.inj hl) (rs.lasts (N₁.lasts S)) X₁ S₁ fun s₂ S₂ N₂ X₂=>k s₂ S₂ (N₁.trans N₂) X₂
theorem VRs.rev {h:Heap} {vs:List V} {ys:List Value} (r:VRs ρ H h vs ys):VRs ρ H h vs.reverse ys.reverse :=
 VRs.ind (q:=fun vs ys=>VRs ρ H h vs.reverse ys.reverse) .nil (fun a _ b=>by rw [List.reverse_cons,List.reverse_cons];exact b.append (.cons a .nil)) r
theorem rF {ts:List Nat} {xs:List Expr} (h:wc sc ts xs=true):(∀ i∈ts,sC sc (nm i)=true)∧∃ ps:List Pos,ps.length=ts.length∧xs=(ts.zip ps).map (fun q=>Expr.Name (nm q.1) q.2):=by
 induction ts generalizing xs with
 | nil=>induction xs using List.casesOn with
  | nil=>exact ⟨(fun _ h=>by cases h),[],rfl,rfl⟩
  | cons _ _=>exact ff h
 | cons i ts ih=>induction xs using List.casesOn with
  | nil=>exact ff h
  | cons x xs =>
   have h:=cB h
   refine ay (b9 h.1) fun p e1 ho _=>?_
   have q:=ih h.2
   refine ae q.2 fun ps b c=>?_
   rw [e1,c]
   exact ⟨fun j hj=>(List.mem_cons.mp hj).elim (fun e=>e▸ho) (q.1 j),p :: ps,congrArg (· + 1) b,rfl⟩
theorem hH {α β:Type} {g:α→Option β} {g':α→β} (hg:∀ x b,g x=some b→b=g' x) {l:List α} (h:(l.filterMap g).length=l.length):l.filterMap g=l.map g':=by
 induction l with
 | nil=>rfl
 | cons x l ih =>
  rw [List.filterMap_cons] at h ⊢
  cases e:g x with
  | none =>
   rw [e] at h
   exact absurd (h▸List.length_filterMap_le g l) (Nat.not_succ_le_self _)
  | some b =>
   rw [e] at h
   rw [List.map_cons,← hg x b e,← ih (Nat.succ.inj h)]
noncomputable def nameOf:Expr→Str
 | .Name id _=>id
 | _=>Str.empty
theorem kz {α:Type} {c:Prop} [Decidable c] {t e:Sem α} {P:α→Prop} (h1:∃ r,t=pure r∧P r) (h2:¬c→∃ r,e=pure r∧P r):∃ r,(if c then t else e)=pure r∧P r:=by
 by_cases h:c
 ·rw [if_pos h];exact h1
 ·rw [if_neg h];exact h2 h
theorem ly {xs:List Expr} {k:Nat} {p:Pos} {y:Expr} (hp:eK (.Tuple xs k p) y=true):∃ r,swappedStores [.Tuple xs k p] y env=pure r∧(r=none∨r=some (xs.map nameOf)):=by
 have n0:∃ r,(pure none:Sem (Option (List Str)))=pure r∧(r=none∨r=some (xs.map nameOf)):=⟨_,rfl,.inl rfl⟩
 induction y using PySem.Expr.casesOn<;>first | exact n0 | skip
 refine kz n0 fun _=>kz n0 fun _=>kz n0 fun hlen=>kz n0 fun _=>⟨_,if_neg (ne_true_of_eq_false (uf hp)),.inr (congrArg some (hH (g':=nameOf) (fun x b e=>?_) ?_))⟩
 ·induction x using PySem.Expr.casesOn<;>first | exact nn e | exact iyE e fun _ e=>(Option.some.inj e).symm
 ·rw [Bool.not_eq_true,Bool.or_eq_false_iff] at hlen
  exact bne_eq_false_iff_eq.mp hlen.1
noncomputable def iG (x:Expr):Bool:=Nat.beq (pt x).k 10||Nat.beq (pt x).k 41
theorem lr {y:Expr} {t:Option Expr} {line:Nat} (h:iG y=false):swapsWith y t line env=pure false:=by
 induction y using PySem.Expr.casesOn<;>first | rfl | cases h
theorem lx {y a:Expr} {t:Str} {p:Pos} {line:Nat}:swapsWith y (some (.Attribute a t p)) line env=pure false:=by induction y using PySem.Expr.casesOn<;>rfl
theorem mZ {y a b:Expr} {p:Pos} {line:Nat}:swapsWith y (some (.Subscript a b p)) line env=pure false:=by induction y using PySem.Expr.casesOn<;>rfl
theorem mY {y:Expr} {l:List Expr} {n:Nat} {p:Pos} {line:Nat}:swapsWith y (some (.Tuple l n p)) line env=pure false:=by induction y using PySem.Expr.casesOn<;>rfl
theorem lu {y:Expr} {t:Str} {p:Pos} {line:Nat}:∃ b,swapsWith y (some (.Name t p)) line env=pure b:=by induction y using PySem.Expr.casesOn<;>exact ⟨_,rfl⟩
theorem qC {y tx:Expr} {line:Nat} {t:T} (mt:mtT f sc t tx=true):∃ b,swapsWith y (some tx) line env=pure b∧(b=true→(∃ t p,tx=.Name t p)∧iG y=true):=by
 induction t using T.casesOn with
 | var i =>
  refine ae (b9 mt) fun p e _=>?_
  cases hc:iG y with
  | false=>exact ⟨false,lr hc,fun h=>by exact ff h⟩
  | true =>
   refine aG (lu (env:=env) (y:=y) (t:=nm i) (p:=p) (line:=line)) fun b hb=>?_
   exact ⟨b,(congrArg (fun z=>swapsWith y (some z) line env) e).trans hb,fun _=>⟨⟨_,_,e⟩,rfl⟩⟩
 | attr _ _=>exact ⟨false,(congrArg (fun z=>swapsWith y (some z) line env) (bp (aj mt))).trans lx,fun h=>by exact ff h⟩
 | sub _ _=>exact ⟨false,(congrArg (fun z=>swapsWith y (some z) line env) (bp (aj mt))).trans mZ,fun h=>by exact ff h⟩
 | tup _=>exact ⟨false,(congrArg (fun z=>swapsWith y (some z) line env) (bp (aj mt))).trans mY,fun h=>by exact ff h⟩
noncomputable def E.comp? (e:E):Option (E×List G):=match e with | .comp a b=>some (a,b) | _=>Option.none
theorem rV:∀ e:E,(!(Nat.beq (ek e) 10)||e.comp?.isSome)=true:=by intro e;cases e<;>rfl
theorem lZ {e:E} {x:E×List G} (h:e.comp?=some x):e=.comp x.1 x.2:=by cases e<;>first | ((first | exact nn h | (refine aw (dS h) fun e1_ e2_=>?_;clear h;subst e1_;subst e2_));rfl) | exact nn h
theorem lq {y:Expr} (h:iG y=true) {e:E} (hm:mtE f sc e y=true):∃ elt gens,e=.comp elt gens:=by
 have l:=xf e
 unfold iG at h
 rw [xW hm] at h
 have h10:Nat.beq (ek e) 10=true:=by
  refine Or.elim ((Bool.or_eq_true _ _).mp h) (fun h=>?_) fun h=>?_
  ·exact h
  ·rw [Nat.eq_of_beq_eq_true h] at l;exact ff l
 have:=rV e
 rw [h10] at this
 refine aG (Option.isSome_iff_exists.mp this) fun x hx=>?_
 exact ⟨x.1,x.2,lZ hx⟩
end
section
variable {sc sc':Scope} {env:Env} {lo lo':Lo} {A:Around} {R:Sems} {n:Nat} {f:Nat} {ρ ρ':Rh} {H H':Hp} {s s':Shared} {a D:Addr} {acc:List V}
theorem EnvOK.wr_here (X:EnvOK C sc env ρ H s.heap lo) {q:Addr} (w:Wr sc env q):∃ o,s.heap.get? q=some o:=by
 rcases w with rfl | ⟨x,hx,e⟩
 ·refine ae X.ns fun m hh1_ _=>?_;refine iX hh1_ fun o _ _ ho _=>?_;exact ⟨o,ho⟩
 ·refine aX (X.cell_lt (.inl hx) e) fun v o ho _=>?_;exact ⟨o,ho⟩
theorem te {α β:Type} {a:List α} {b:List β} (h:a.length=b.length):a.reverse.zip b.reverse=(a.zip b).reverse:=by
 induction a generalizing b with
 | nil=>rfl
 | cons x a ih=>induction b using List.casesOn with
  | nil=>cases h
  | cons y b =>
   have h:a.length=b.length:=Nat.succ.inj h
   rw [List.reverse_cons,List.reverse_cons,List.zip_append (by rw [List.length_reverse,List.length_reverse,h]),ih h];exact (List.reverse_cons ..).symm
theorem mX (K:CfgOK C gG) (EV:bJ C n R) {t:T} {tx:Expr} {v:V} {x:Value} {H1:Hp} (mt:mtT f sc t tx=true) (h:xF C.P R t v lo H1=some (lo',H')) (r:aS n A) (S:St C ρ H1 s) (X:EnvOK C sc env ρ H1 s.heap lo) (rv:VR ρ H1 s.heap v x)
  {E:Value→Shared→Prop} {Q:Unit→Shared→Prop} (k:∀ s' ρ',St C ρ' H' s'→Nx (Wr sc env) ρ H1 s ρ' H' s'→EnvOK C sc env ρ' H' s'.heap lo'→Q () s'):wpAny (MM C) A (assign tx env x) Q E s:=by
 induction t using T.casesOn with
 | var i=>(revert k;apply de h;clear h;intro k);exact cj X S mt rv fun s' S' N' X'=>k s' ρ S' N' X'
 | tup ts =>
  refine msE h fun lo1 h1 h2=>?_
  clear h
  (revert k;apply dw h2;clear h2;intro k)
  exact fL X S r.1 (show mtB sc (.tup ts) tx=true from mt) h1 rv fun s' S' N' X'=>k s' ρ S' N' X'
 | attr o b =>
  have hx:=bp (aj mt)
  have m:=cB (aq mt)
  have e:(pt tx).s=nm b:=beq_iff_eq.mp m.2
  rw [hx,show bk 12 (pt tx)=.Attribute (pt tx).a (pt tx).s (pt tx).p from rfl,e]
  refine bpE h fun ov H2 h1 ha=>?_
  clear h
  refine bsE ha fun rr hr hb=>?_
  clear ha
  obtain rfl:=aY hr
  refine bsE hb fun ob hn ha=>?_
  clear hb
  refine bsE ha fun w hw hb=>?_
  clear ha
  obtain rfl:=d8 hw
  refine itE hb fun hc h=>?_
  clear hb
  (revert k;apply de h;clear h;intro k)
  have hc:=fY hc
  refine aG (Option.isSome_iff_exists.mp hc.2.2) fun ms hms=>?_
  have hmem:b∈C.P.attrs:=by
   refine ae (List.any_eq_true.mp hc.2.1) fun b' hb e=>?_
   rw [Nat.eq_of_beq_eq_true e];exact hb
  show wpAny _ _ (holding [x] (eval (pt tx).a env)>>=_) _ _ _
  refine wpAny_bind (wpAny_holding (EV f sc env o (pt tx).a lo H1 _ H2 m.1 h1 A s ρ r S X _ _ fun x1 s₁ ρ₁ S₁ N₁ r₁=>?_))
  cases r₁ with
  | ref hp =>
   refine wpAny_bind (wpAny_standAt (wpAny_bind (wpAny_holding ?_)))
   refine lD K S₁ hn hp hms hmem (Nat.le_of_ble_eq_true hc.1) (rv.lasts (N₁.lasts S)) fun s₂ S₂ N₂=>?_
   exact wpAny_release (k s₂ ρ₁ S₂ ((N₁.trans N₂).wide X.wdata) (X.next S (N₁.trans N₂)))
 | sub o i =>
  have hx:=bp (aj mt)
  have m:=cB (aq mt)
  rw [hx]
  refine bpE h fun ov H2 h1 ha=>?_
  clear h
  refine bpE ha fun iv H3 h2 hb=>?_
  clear ha
  refine msE hb fun H4 h3 h=>?_
  clear hb
  (revert k;apply dw h;clear h;intro k)
  show wpAny _ _ (holding [x] (eval (pt tx).a env)>>=_) _ _ _
  refine wpAny_bind (wpAny_holding (EV f sc env o (pt tx).a lo H1 _ H2 m.1 h1 A s ρ r S X _ _ fun x1 s₁ ρ₁ S₁ N₁ r₁=>?_))
  refine wpAny_bind (wpAny_holding (EV f sc env i (pt tx).b lo H2 _ H3 m.2 h2 A s₁ ρ₁ r S₁ (X.next S N₁) _ _ fun x2 s₂ ρ₂ S₂ N₂ r₂=>?_))
  refine wpAny_bind (wpAny_standAt (wpAny_bind (wpAny_holding ?_)))
  refine lC S₂ (r₁.lasts (N₂.lasts S₁)) r₂ (rv.lasts ((N₁.trans N₂).lasts S)) h3 r.units fun s₃ S₃ N₃=>?_
  exact wpAny_release (k s₃ ρ₂ S₃ (((N₁.trans N₂).trans N₃).wide X.wdata) (X.next S ((N₁.trans N₂).trans N₃)))
theorem cY {tx y:Expr} (h:(Nat.beq (pt tx).k 12||Nat.beq (pt tx).k 13)=true):swappedStores [tx] y env=pure none∧(assignEach [tx] env).map (·.2)=[assign tx env]:=by
 refine Or.elim ((Bool.or_eq_true _ _).mp h) (fun h=>?_) fun h=>?_<;>rw [bp h]<;>exact ⟨by induction y using Expr.casesOn<;>rfl,rfl⟩
theorem ig {x:Str} {p:Pos} {y:Expr}:swappedStores [.Name x p] y env=pure none:=by induction y using Expr.casesOn<;>rfl
theorem lO {ts:List Nat}:∀ {ps:List Pos},ts.length=ps.length→(ts.zip ps).map (nameOf∘fun q=>Expr.Name (nm q.1) q.2)=ts.map nm:=by
 induction ts with
 | nil=>intro ps _;rfl
 | cons i l ih =>
  intro ps hlen
  induction ps using List.casesOn with
  | nil=>cases hlen
  | cons p ps=>exact congrArg (nm i :: ·) (ih (Nat.succ.inj hlen))
theorem jb (K:CfgOK C gG) (EV:bJ C n R) {t:T} {tx y:Expr} {v:V} {x:Value} {H1:Hp} (mt:mtT f sc t tx=true) (pv:eK tx y=true) (nd:bY (mW t)=true) (h:xF C.P R t v lo H1=some (lo',H')) (r:aS n A) (S:St C ρ H1 s) (X:EnvOK C sc env ρ H1 s.heap lo) (rv:VR ρ H1 s.heap v x)
  {E:Value→Shared→Prop} {Q:Flow→Shared→Prop} (k:∀ s' ρ',St C ρ' H' s'→Nx (Wr sc env) ρ H1 s ρ' H' s'→EnvOK C sc env ρ' H' s'.heap lo'→Q .next s') :
  wpAny (MM C) A (swappedStores [tx] y env>>=fun r=>assignStores env x r ((assignEach [tx] env).map (·.2))) Q E s:=by
 have plain:∀ (hs:swappedStores [tx] y env=pure none) (ha:(assignEach [tx] env).map (·.2)=[assign tx env]),wpAny (MM C) A (swappedStores [tx] y env>>=fun r=>assignStores env x r ((assignEach [tx] env).map (·.2))) Q E s:=by
  intro hs ha
  rw [hs,ha]
  refine wpAny_bind (wpAny_pure ?_)
  show wpAny _ _ (assign tx env x>>=fun _=>(pure Flow.next:Sem Flow)) _ _ _
  exact wpAny_bind (mX K EV mt h r S X rv fun s' ρ' S' N' X'=>wpAny_pure (k s' ρ' S' N' X'))
 induction t using T.casesOn with
 | var i =>
  refine ae (b9 mt) fun p e _=>?_
  subst e
  exact plain ig rfl
 | attr o b=>exact plain (cY (by rw [aj mt];rfl)).1 (cY (y:=y) (by rw [aj mt];rfl)).2
 | sub o i=>exact plain (cY (by rw [aj mt,Bool.or_true])).1 (cY (y:=y) (by rw [aj mt,Bool.or_true])).2
 | tup ts =>
  have hx:tx=.Tuple (pt tx).l (pt tx).n (pt tx).p:=bp (aj mt)
  have mt':=aq mt
  generalize (pt tx).l=xs at hx mt'
  generalize (pt tx).n=j at hx
  generalize (pt tx).p=p at hx
  subst hx
  ·refine ae (ly (env:=env) pv) fun rs hs hr=>?_
   rcases hr with rfl | rfl
   ·exact plain hs rfl
   ·rw [hs]
    refine wpAny_bind (wpAny_pure ?_)
    refine msE h fun lo1 h1 ha=>?_
    clear h
    refine bsE h1 fun vs h2 h3=>?_
    clear h1
    (revert k;apply dw ha;clear ha;intro k)
    have e1:=mq h3
    refine aw (rF mt') fun ho hh5_=>?_
    refine ae hh5_ fun ps hl hx=>?_
    have e2:=gC h3
    have hnd:=cJ (show bY ts=true from nd)
    have hnames:xs.map nameOf=ts.map nm:=by
     rw [hx,List.map_map]
     exact lO (by rw [hl])
    rw [hnames]
    show wpAny _ _ (rule "assign.swapped-stores">>=fun _=>unpackItems x (ts.map nm).length none>>=fun items=>assignInOrder ((ts.map nm).reverse.map fun n=>bindName env n) items.reverse>>=fun _=>(pure Flow.next:Sem Flow)) _ _ _
    refine wpAny_bind (wpAny_rule ?_)
    rw [List.length_map,← e2]
    refine wpAny_bind (ib S r.1 rv h2 fun ys s₁ S₁ N₁ r₁=>?_)
    have X₁:=X.next S N₁
    have er:(ts.map nm).reverse.map (fun n=>bindName env n)=ts.reverse.map fun i=>bindName env (nm i):=by
     rw [← List.map_reverse,List.map_map];rfl
    rw [er]
    refine wpAny_bind (rZ (fun i hi=>ho i (List.mem_reverse.mp hi)) (by simp [e2]) r₁.rev X₁ S₁ fun s₂ S₂ N₂ X₂=>?_)
    refine wpAny_pure (k s₂ ρ S₂ ((N₁.wide X.wdata).trans N₂) (X₂.sub fun i u e=>?_))
    have hz:(ts.zip vs).map (·.1)=ts:=by rw [List.map_fst_zip];rw [e2];exact Nat.le_refl _
    have hzr:ts.reverse.zip vs.reverse=(ts.zip vs).reverse:=by
     exact te (by rw [e2])
    rw [hzr,iA (by rw [List.map_reverse,hz];exact (List.reverse_perm _).nodup_iff.mpr hnd),wj (by rw [hz];exact hnd)]
    rw [e1,iA (by rw [hz];exact hnd)] at e
    exact e
theorem xE (K:CfgOK C gG) (EV:bJ C n R) (CP:si C n R) {t:T} {e:E} {tx y:Expr} {pos:Pos} {v:V} {H1:Hp} (mt:mtT f sc t tx=true) (me:mtE f sc e y=true) (pv:eK tx y=true) (nd:bY (mW t)=true) (h1:R.ev e lo H=some (v,H1)) (h2:xF C.P R t v lo H1=some (lo',H'))
  (r:aS n A) (S:St C ρ H s) (X:EnvOK C sc env ρ H s.heap lo) {E:Value→Shared→Prop} {Q:Flow→Shared→Prop} (k:∀ s' ρ',St C ρ' H' s'→Nx (Wr sc env) ρ H s ρ' H' s'→EnvOK C sc env ρ' H' s'.heap lo'→Q .next s') :
  wpAny (MM C) A (exec (.Assign [tx] y pos) env) Q E s:=by
 rw [arm_exec_Assign]
 refine wpAny_bind (wpAny_standAt ?_)
 refine ae (qC (env:=env) (y:=y) (line:=pos.line) mt) fun b hb hbt=>?_
 show wpAny _ _ (swapsWith y (some tx) pos.line env>>=_) _ _ _
 rw [hb]
 refine wpAny_bind (wpAny_pure ?_)
 induction b using Bool.casesOn with
 | false =>
  rw [if_neg Bool.false_ne_true]
  refine wpAny_bind (EV f sc env e y lo H v H1 me h1 A s ρ r S X _ _ fun x1 s₁ ρ₁ S₁ N₁ r₁=>?_)
  exact jb K EV mt pv nd h2 r S₁ (X.next S N₁) r₁ fun s' ρ' S' N' X'=>k s' ρ' S' ((N₁.wide X.wdata).trans N') X'
 | true =>
  rw [if_pos rfl]
  refine aw (hbt rfl) fun hh6_ hc=>?_
  refine hZ hh6_ fun t' p' hh1_=>?_
  subst hh1_
  refine hZ (lq hc me) fun elt gens hh7_=>?_
  subst hh7_
  induction t using T.casesOn with
  | var i =>
   (revert k;apply de h2;clear h2;intro k)
   refine vy (CP f sc env elt gens y lo H v _ me h1 A s ρ r S X) fun y' cs sc' p hh8_ hasy core=>?_
   subst hh8_
   refine wpAny_bind ?_
   show wpAny _ _ (comprehension (.ListComp y' cs sc' p) sc' env (firstIterPos cs p) (newList []) (firstAsync cs) (firstIter cs env) (some _)>>=fun _=>pure ()) _ _ _
   rw [hasy]
   refine wpAny_bind (core (some _) _ _ fun D Lc s₁ ρ₁ S₁ N₁ rv L hm h0=>?_)
   have X₁:=X.next S N₁
   have nW:¬ Wr sc env Lc:=fun w=>by
    refine aG (X.wr_here w) fun o ho=>?_
    rw [h0] at ho;exact nn ho
   show wpAny _ _ (assign (.Name t' p') env (.ref D)) _ _ _
   refine cj X₁ S₁ mt rv.1 fun s₂ S₂ N₂ X₂=>?_
   refine vF hm fun m o es ep ho hrest=>?_
   refine ⟨m,⟨o,es,ep,N₂.keep Lc o ho (L.own rfl) nW,hrest⟩,fun h'' hs=>?_⟩
   have L₂:=L.next N₂ (fun q e=>e▸nW)
   have NN:=(N₁.wide X.wdata).trans N₂
   refine du (ef S₂ L₂ (m:=m) ⟨o,es,ep,N₂.keep Lc o ho (L.own rfl) nW,hrest⟩ hs NN h0) fun S₃ N₃ La₃=>?_
   refine wpAny_pure (wpAny_pure (k _ ρ₁ S₃ N₃ (X₂.keepL La₃ (fun o e=>(hs.2 _ (fun q=>?_)).trans e) (fun x c hx e o g=>(hs.2 _ (fun q=>?_)).trans g) X₂.clr X₂.free)))
   ·exact nW (.inl q.symm)
   ·refine aX (X.cell_lt hx e) fun v0 o0 ho0 _=>?_
    rw [q,h0] at ho0;exact nn ho0
  | attr _ _=>exact ff mt
  | sub _ _=>exact ff mt
  | tup _=>exact ff mt
end
section
variable {sc sc':Scope} {env:Env} {lo lo':Lo} {A:Around} {R:Sems} {n:Nat} {f:Nat} {ρ ρ':Rh} {H H':Hp} {s s':Shared} {a D:Addr} {acc:List V}
theorem xU (K:CfgOK C gG) (EV:bJ C n R) (TR:iU C n R) (EX:iV C n R) (CP:si C n R) {st:S} {x:Stmt} {fl:Fl} (hm:mtS f sc st x=true) (h:kG C.P R st lo H=some (fl,lo',H'))
  (r:aS n A) (S:St C ρ H s) (X:EnvOK C sc env ρ H s.heap lo):mC C A sc env (exec x env) ρ H s fl lo' H':=by
 induction f using Nat.casesAuxOn with
 | zero=>exact ff hm
 | succ f =>
  have hx:=xX hm
  clear hm
  rw [hx.1]
  have hm:=hx.2
  clear hx
  cases st with
  | expr e =>
   refine mpE h fun v H1 h1 h2=>?_
   have hc:(sp x).a=.Call (pt (sp x).a).a (pt (sp x).a).l [] (pt (sp x).a).p:=bp (aj hm)
   refine .eq h2 fun E Q k=>wpAny_Expr_any (EV f sc env e _ lo H v _ (aq hm) h1 A s ρ r S X _ _ fun x1 s₁ ρ₁ S₁ N₁ r₁=>?_) (by unfold interactive;rw [X.kind];rfl) (by rw [hc];rfl)
   exact k .next s₁ ρ₁ S₁ (N₁.wide X.wdata) (X.next S N₁) .nxt
  | ret e =>
   refine mpE h fun v H1 h1 h2=>?_
   refine .eq h2 ?_
   show mC C A sc env (exec (.Return (sp x).o (sp x).p) env) _ _ _ _ _ _
   replace hm:(match (sp x).o with | some y=>mtE f sc e y | Option.none=>isNone e)=true:=hm
   generalize (sp x).o=o at hm
   induction o using Option.casesOn with
   | some y=>exact fun E Q k=>wpAny_Return_some (EV f sc env e y lo H v _ hm h1 A s ρ r S X _ _ fun x1 s₁ ρ₁ S₁ N₁ r₁=>k _ s₁ ρ₁ S₁ (N₁.wide X.wdata) (X.next S N₁) (.ret r₁))
   | none =>
    have he:e=.none:=by cases e<;>first | rfl | exact ff hm
    rw [he] at h1
    have:=EV 1 sc env .none (.Constant .none 0 default) lo H v _ rfl h1 A s ρ r S X
    exact fun E Q k Γ p hΓ=>(this E (fun x s'=>Q (.ret x) s') fun x s' ρ' S' N' r'=>k _ s' ρ' S' (N'.wide X.wdata) (X.next S N') (.ret r')) Γ p hΓ
  | asg t e =>
   have m:=fX hm
   refine bpE h fun v H1 h1 h2=>?_
   refine mpE h2 fun lo1 H2 h3 h4=>?_
   exact .eq h4 fun E Q k=>xE K EV CP m.1 m.2.1 m.2.2.1 m.2.2.2 h1 h3 r S X fun s' ρ' S' N' X'=>k .next s' ρ' S' N' X' .nxt
  | ifs c b e =>
   have m:=fY hm
   refine bpE h fun v H1 h1 h2=>?_
   refine bsE h2 fun t ht h3=>?_
   rw [aE ht] at h1
   refine fun E Q k=>wpAny_If (TR f sc env c _ lo H t H1 m.1 h1 A s ρ r S X _ _ fun s₁ ρ₁ S₁ N₁=>?_)
   have kk:∀ fl' s' ρ',St C ρ' H' s'→Nx (Wr sc env) ρ₁ H1 s₁ ρ' H' s'→EnvOK C sc env ρ' H' s'.heap lo'→FlR ρ' H' s'.heap fl fl'→Q fl' s':=fun fl' s₂ ρ₂ S₂ N₂ X₂ q=>k fl' s₂ ρ₂ S₂ ((N₁.wide X.wdata).trans N₂) X₂ q
   induction t using Bool.casesOn with
   | true=>exact EX f sc env b _ lo H1 fl lo' H' m.2.1 h3 A s₁ ρ₁ r S₁ (X.next S N₁) E Q kk
   | false=>exact EX f sc env e _ lo H1 fl lo' H' m.2.2 h3 A s₁ ρ₁ r S₁ (X.next S N₁) E Q kk
  | whl c b=>exact fun E Q k=>wpAny_While (jN TR EX (aj hm) (aq hm) _ h r S X k)
  | fr t e b =>
   have m:=fY hm
   refine bpE h fun vs H1 h1 h2=>?_
   intro E Q k
   show wpAny _ _ (standAt (sp x).p>>=fun _=>eval (sp x).b env>>=fun z=>foldedSetIterable (sp x).b env z>>=fun z=>standAt (sp x).b.pos>>=fun _=>holding [z] (pyIter z)>>=fun it=>runOwn (.forLoop (sp x).a it (sp x).l [] env) env) _ _ _
   refine wpAny_bind (wpAny_standAt (wpAny_bind ?_))
   refine wpAny_mono (ux (Q:=fun (xv:Value) (s₄:Shared)=>∃ I ρ₂,xv=.ref I∧St C ρ₂ H1 s₄∧Nx no ρ H s ρ₂ H1 s₄∧ItR ρ₂ H1 s₄.heap I (· = I) vs∧Loose C ρ₂ s₄.heap (· = I)∧s.heap.get? I=none) K EV m.2.1 h1 r S X fun I s₄ ρ₄ S₄ N₄ it₄ L₄ ab=>⟨I,ρ₄,rfl,S₄,N₄,it₄,L₄,ab⟩) (fun xv s₁ hp=>?_) fun _ _ e=>e
   rw [cQ m.2.1]
   refine wpAny_bind (wpAny_pure (wpAny_bind (wpAny_standAt (wpAny_bind (wpAny_holding (wpAny_mono hp (fun itv s₂ hq=>?_) fun _ _ e=>e))))))
   refine yx hq fun I ρ₂ e S₂ N₂ it₂ L₂ ab=>?_
   rw [e]
   exact wpAny_runOwn (sU EX m.1 m.2.2 vs h2 r.mark S₂ (X.next S N₂) it₂ L₂ (fun q e=>e▸ab) (N₂.wide X.wdata) k)
  | cont=>exact .eq (Option.some.inj h) fun E Q k=>wpAny_Continue (k .cont s ρ S (Nx.refl' X.wdata) X .cont)
  | rais=>exact nn h
theorem wN (K:CfgOK C gG) (EV:bJ C n R) (TR:iU C n R) (EX:iV C n R) (CP:si C n R):∀ {b:List S} {xs:List Stmt} {lo:Lo} {H:Hp} {fl:Fl} {lo':Lo} {H':Hp},om (mtS f sc) b xs=true→fJ C.P R b lo H=some (fl,lo',H') →
  ∀ {s:Shared} {ρ:Rh},aS n A→St C ρ H s→EnvOK C sc env ρ H s.heap lo→mC C A sc env (execs xs env) ρ H s fl lo' H':=by
 intro b
 induction b with
 | nil =>
  intro xs lo H fl lo' H' hm h s ρ r S X
  induction xs using List.casesOn with
  | nil=>exact .eq (Option.some.inj h) fun E Q k=>wpAny_execs_nil (k .next s ρ S (Nx.refl' X.wdata) X .nxt)
  | cons _ _=>exact ff hm
 | cons st b ih =>
  intro xs lo H fl lo' H' hm h s ρ r S X
  induction xs using List.casesOn with
  | nil=>exact ff hm
  | cons x xs =>
   have hm:=cB hm
   refine b3E h fun f1 lo1 H1 h1 h2=>?_
   refine fun E Q k=>wpAny_execs_cons (xU K EV TR EX CP hm.1 h1 r S X E _ fun fl' s₁ ρ₁ S₁ N₁ X₁ q=>?_)
   have done:∀ {w:Fl} {w':Flow},FlR ρ₁ H1 s₁.heap w w'→some (w,lo1,H1)=some (fl,lo',H')→Q w' s₁:=fun {w w'} q e=>by
    refine du (qK e) fun e1 e2 e3=>?_
    subst e1;subst e2;subst e3
    exact k _ s₁ ρ₁ S₁ N₁ X₁ q
   induction q using Mini.Internal.FlR.casesOn with
   | nxt=>exact ih hm.2 h2 r S₁ X₁ E Q fun fl' s₂ ρ₂ S₂ N₂ X₂ q=>k fl' s₂ ρ₂ S₂ (N₁.trans N₂) X₂ q
   | cont=>exact done .cont h2
   | ret rr=>exact done (.ret rr) h2
end
end Mini.Internal
end
section
set_option autoImplicit false
namespace Mini.Internal
open PySem PySem.Calls PyProof.Rows
open PySem.W (Frag dictOf Looks findIn typeIn keepIn makesIn plainGet hasDictIn plainOver getL)
set_option maxRecDepth 8000
theorem oL:typeLookup (.type "list") "keys" = pure none:=by rw [typeLookup_type,builtinLookup_eq_fast];kernel_rfl
theorem oM {prog:Program} {w:World} {A:Around} {E:Value→Shared→Prop} {s:Shared} {a:Addr} {xs:Array Value} {k:Nat} {Q:Option Value→Shared→Prop}
  (hx:s.heap.get? a=some { cls:=.type "list",dict:=none,data:=.seq xs k,slots:=#[] }) (hA:A.handled=none)
  (hQ:∀ h' tk,(∀ c o,s.heap.get? c=some o→h'.get? c=some o)→Q none { s with heap:=h',toks:=tk }):wpAny (model prog w) A (getAttr? (.ref a) "keys") Q E s:=by
 obtain ⟨hp,g,d,tk,os⟩:=s
 have hT:∀ tk',(⟨hp,g,d,tk',os⟩:Shared).TypeIs (.ref a) "list" := fun _=>⟨_,hx,rfl⟩
 have f1:=sub_AttributeError
 have f3:=F.slot_list_getattribute.lookup
 have f4:=F.slot_list_getattribute.bind (.ref a)
 have f5:=am_list_getattr_none
 unfold getAttr? getAttrBy? getAttrBy
 repeat (any_goals (first | assumption | exact hT _ | ((with_reducible show wpAny _ _ (call (Value.builtin "list.__getattribute__") _ _) _ _ _);refine call_meets F.slot_list_getattribute (hT _) am_entry_list_getattribute (F.args_list_getattribute_2 _ _) (meets_getattribute_miss_list a xs k #[] "keys" _ oL (by decide +kernel) (by decide +kernel)) ⟨hx,hA,fun h' tk' e hx'=>?_⟩) | wp_step))
 refine hZ hx'.there fun t' u' he=>?_
 show wpAny _ _ (getattributeRaised _ _ _ _ _ _ _) _ _ _
 unfold getattributeRaised
 repeat (any_goals (first | assumption | wp_step))
 exact hQ _ _ hx'.keeps
theorem iM:entryFor table "dict.update.loop" = some Builtin.«dict.update.loop» := entryFor_of_fast (by kernel_rfl)
theorem dG:plainId "dict.update.loop" = true:=by decide +kernel
theorem iO:(Value.type "list"!=Value.type "dict")=true:=by decide
theorem boot_dict:bootBuiltins "dict" = some (.type "dict"):=by decide +kernel
theorem u0:("dict" : Str)∈cg:=by decide +kernel
section
variable {sc sc':Scope} {env:Env} {lo lo':Lo} {A:Around} {R:Sems} {n:Nat} {f:Nat} {ρ ρ':Rh} {H H':Hp} {s s':Shared} {a D:Addr}
theorem j4:∀ (l:List (V×V)) (k v:V),(setT l k v).length≤l.length + 1
 | [],_,_=>Nat.le_refl _
 | (j,w) :: r,k,v=>by
  show (bif V.same j k then (j,v) :: r else (j,w) :: setT r k v).length≤_
  cases V.same j k with
  | true=>simp
  | false=>simpa using j4 r k v
theorem lJ {v k x:V} (h:v5 v=some (k,x)):v=.tup [k,x]:=by
 refine bsE h fun l h1 h2=>?_
 rw [eX h1,ic h2]
theorem uZ {s₀ s':Shared} {h:Heap} {d:Addr} {dl:List (V×V)} {xs:List (V×Addr×Value)} (S₀:St C ρ H s₀) (hd:h.DictOfH (bP C.prog C.w) d xs) (t:TR ρ H s₀.heap dl xs) (kd:∀ o,h.get? d=some o→s'.heap.get? d=some o) (N:Nx no ρ H s₀ ρ H s'):s'.heap.DictOfH (bP C.prog C.w) d xs :=
 qo hd fun o es ep ho h1 h2 h3 h4 h5=>⟨o,es,ep,kd o ho,h1,h2,h3,fun y hy=>⟨(h4 y hy).1,((t.key y hy).lasts (N.lasts S₀)).kr (ba (h4 y hy).1)⟩,h5⟩
structure UL (s₀:Shared) (ρ:Rh) (H:Hp) (D d I:Addr) (i:Nat) (dl:List (V×V)) (xs:List (V×Addr×Value)) (s:Shared):Prop where
 t:TR ρ H s₀.heap dl xs
 dict:s.heap.DictOfH (bP C.prog C.w) d xs
 it:s.heap.IsListIter I D i
 keep:∀ c o,s₀.heap.get? c=some o→s.heap.get? c=some o
 gens:s.gens=s₀.gens
 os:s.os=s₀.os
section
variable {s₀:Shared} {d I:Addr} {items:Array Value} {i:Nat} {dl:List (V×V)} {xs:List (V×Addr×Value)}
theorem UL.ne (U:UL s₀ ρ H D d I i dl xs s):d≠I:=fun e=>aT U.dict fun o _ _ ho _ q=>U.it.elim fun o' h=>by
 rw [Option.some.inj (h.1.symm.trans (e▸ho))] at h
 cases h.2.2.symm.trans q.1
theorem UL.turn (S₀:St C ρ H s₀) (hI0:s₀.heap.get? I=none) (U:UL s₀ ρ H D d I i dl xs s) {h':Heap} (hs:∀ c o,c≠I→s.heap.get? c=some o→h'.get? c=some o) :
  (∀ c o,s₀.heap.get? c=some o→h'.get? c=some o)∧h'.DictOfH (bP C.prog C.w) d xs∧Nx no ρ H s₀ ρ H { s with heap:=h' } :=
 have kp:∀ c o,s₀.heap.get? c=some o→h'.get? c=some o:=fun c o e=>hs c o (fun q=>nn (hI0.symm.trans (q▸e))) (U.keep c o e)
 have G:=S₀.grow (s':={ s with heap:=h' }) kp U.gens U.os
 ⟨kp,uZ (s':={ s with heap:=h' }) S₀ U.dict U.t (fun o=>hs d o U.ne) G.2,G.2⟩
theorem qq (S₀:St C ρ H s₀) (hd0:s₀.heap.get? d=none) (hI0:s₀.heap.get? I=none) (tD:s₀.heap.IsList D items) (l:List V):∀ {dl dl':List (V×V)},fU l dl=some dl' →
  ∀ {A:Around} {i:Nat} {q:Int} {s:Shared} {xs:List (V×Addr×Value)},A.handled=none→A.units + 100 < cLine→VRs ρ H s₀.heap l (items.toList.drop i)→UL s₀ ρ H D d I i dl xs s→dl.length + l.length≤100000 →
  ∀ {RR:Result→Shared→Prop},(∀ s' xs',s'.heap.DictOfH (bP C.prog C.w) d xs'→TR ρ H s₀.heap dl' xs'→(∀ c o,s₀.heap.get? c=some o→s'.heap.get? c=some o)→s'.gens=s₀.gens→s'.os=s₀.os→RR (.ok (.ret .none)) s') →
  codeAny (MM C) A (.builtin "dict.update.loop" ⟨[.ref d,.ref I,rawInt q,.none],[]⟩) RR s:=by
 induction l with
 | nil =>
  intro dl dl' h A i q s xs hh hu r U hlen RR k
  refine codeAny_builtin iM ?_
  rw [Around.under_plainId dG _]
  show wpAny _ A.in1 (pyNext (.ref I)>>=_) _ _ s
  refine wpAny_bind (wpAny_pyNext_list_end hh U.it (tD.at (U.keep D)) (by simpa using r.dropNil) fun h' hs=>wpAny_bind (wpAny_pure (wpAny_pure ?_)))
  exact du (U.turn S₀ hI0 (h':=h') hs) fun kp hd _=>k _ xs hd (Option.some.inj h▸U.t) kp U.gens U.os
 | cons v l ih =>
  intro dl dl' h A i q s xs hh hu r U hlen RR k
  refine codeAny_builtin iM ?_
  rw [Around.under_plainId dG _]
  refine bpE h fun kv x h1 h2=>itE h2 fun hkey h3=>?_
  rw [lJ h1] at r
  refine ay r.dropCons fun y hy r1 r2=>?_
  show wpAny _ A.in1 (pyNext (.ref I)>>=_) _ _ s
  refine wpAny_bind (wpAny_pyNext_list_item U.it (tD.at (U.keep D)) (by simpa using hy) fun h₁ hi₁ hs₁=>?_)
  refine du (U.turn S₀ hI0 (h':=h₁) fun c o n e=>(hs₁.2 c n).trans e) fun hk₁ hd₁ N=>VR.tupE r1 fun {ta its} tt tz rr=>aW rr.two fun kx xx e2 rk rx=>?_
  refine wpAny_bind (wpAny_holding (wpAny_bind (wpAny_tryCatch (t5 tt fun o ho hc m hdat=>?_))))
  refine wpAny_bind (wpAny_typeOf (T:="tuple") ⟨o,hk₁ _ _ ho,hc⟩ (dU (by decide) (wpAny_bind (wpAny_seqItems (hk₁ _ _ ho) hdat (wpAny_pure ?_)))))
  rw [show ((some its).getD #[]).toList=[kx,xx] from e2]
  dsimp only
  refine ae (rk.is hkey) fun ka ek is₀=>?_
  rw [ek] at rk ⊢
  have is:(bP C.prog C.w).is h₁ kv ka:=⟨hkey,(rk.lasts (N.lasts S₀)).kr (ba hkey)⟩
  have hl2:dl.length + 1 + l.length≤100000:=Nat.le_trans (Nat.le_of_eq (Nat.succ_add_eq_add_succ ..)) hlen
  refine wpAny_holding (wpAny_dictSet_heap (show A.units + 1 + 60 < cLine from Nat.lt_of_le_of_lt (Nat.add_le_add_left (by decide:61≤100) A.units) hu) is hd₁ (fun h₂ hd₂ hs₂=>wpAny_pure ⟨plainId_quiet dG _,?_⟩) (by rw [U.t.len,af];exact Nat.le_trans (Nat.le_trans (Nat.le_add_right _ _) hlen) (by decide)))
  exact ih (s:={ s with heap:=h₂,toks:=s.toks + (bP C.prog C.w).draws kv }) h3 hh hu r2 ⟨U.t.setT (qo U.dict fun _ _ _ _ _ _ _ _ z=>z) rk rx,hd₂,hi₁.elim fun o h=>⟨o,(hs₂.2 _ U.ne.symm).trans h.1,h.2⟩,fun c o e=>(hs₂.2 c (fun q=>nn (hd0.symm.trans (q▸e)))).trans (hk₁ c o e),U.gens,U.os⟩ (Nat.le_trans (Nat.add_le_add_right (j4 dl kv x) _) hl2) k
end
theorem pO {s:Shared} {items:Array Value} (S:St C ρ H s) (hh:A.handled=none) (hu:A.units + 200 < cLine) (tD:s.heap.PlainList D items) {l:List V} {d:List (V×V)} (r:VRs ρ H s.heap l items.toList) (hl:ax l.length=true) (h:fU l []=some d) :
  Runs C A (call (.type "dict") [.ref D]) ρ H s (.ref H.length) (H++[.dT d]):=by
 intro E Q k
 refine callType_codes (Q₁:=fun obj s₁=>obj=.ref s.heap.objs.size∧s₁={ s with heap:=s.heap.push { cls:=.type "dict",data:=.dict #[] } }) F.kt_called_dict (F.kt_typeCall_dict_1 _) F.entry_dict_init (kt_code_dict_new _ ⟨rfl,rfl⟩) ?_
 rintro obj s₁ ⟨rfl,rfl⟩
 have hnew:(s.heap.push { cls:=.type "dict",data:=.dict #[] }).DictOfH (bP C.prog C.w) s.heap.objs.size []:=Heap.DictOfH.new _
 have up:∀ c o,s.heap.get? c=some o→(s.heap.push { cls:=.type "dict",data:=.dict #[] }).get? c=some o:=fun c o e=>Heap.get?_push_of_some _ e
 have hd0:=ai s.heap
 refine ⟨hnew.typeIs,F.args_dict_init_2 _ _,?_⟩
 unfold Builtin.«dict.__init__»
 refine wpAny_bind ?_
 unfold Builtin.Dict.selfAndRest
 refine wpAny_bind (wpAny_notOrdered_dict hnew.typeIs ?_)
 show wpAny _ _ (pure (s.heap.objs.size,[Value.ref D])) _ _ _
 refine wpAny_pure ?_
 show wpAny _ _ (Builtin.Dict.updateFrom "dict.__init__" s.heap.objs.size (.ref D) [] .none) _ _ _
 unfold Builtin.Dict.updateFrom
 refine aG tD fun nD oD=>?_
 refine wpAny_bind (wpAny_typeOf (T:="list") ⟨_,up _ _ oD,rfl⟩ ?_)
 rw [if_pos iO]
 refine wpAny_bind (oM (up _ _ oD) hh fun h₁ tk hk=>?_)
 rw [if_pos (by rfl)]
 refine wpAny_bind (wpAny_rule ?_)
 have tD₁:Heap.IsList (Shared.heap { s with heap:=h₁,toks:=tk }) D items:=⟨_,hk _ _ (up _ _ oD),rfl,_,rfl⟩
 refine wpAny_bind (wpAny_pyIter_list tD₁ ?_)
 have k2:∀ c o,h₁.get? c=some o→(h₁.push { cls:=.type "list_iterator",data:=.fields #[.ref D,.int 0 0] }).get? c=some o:=fun c o e=>Heap.get?_push_of_some _ e
 have kk:∀ c o,s.heap.get? c=some o→(h₁.push { cls:=.type "list_iterator",data:=.fields #[.ref D,.int 0 0] }).get? c=some o:=fun c o e=>k2 _ _ (hk _ _ (up _ _ e))
 have hI0:s.heap.get? h₁.objs.size=none:=aB (fun c o e=>hk _ _ (up c o e)) (ai h₁)
 refine wpAny_bind (wpAny_pure (wpAny_pure ⟨plainId_quiet dG _,?_⟩))
 refine qq (s:={ s with heap:=h₁.push { cls:=.type "list_iterator",data:=.fields #[.ref D,.int 0 0] },toks:=tk }) (dl:=[]) (dl':=d) (i:=0) (q:=0) (xs:=[]) S hd0 hI0 ⟨_,oD,rfl,_,rfl⟩ l h (A:=A.in1) hh (by show A.units + 1 + 100 < cLine;lia) (by simpa using r) ⟨.nil,?_,⟨_,Heap.get?_push_size _ rfl,rfl,rfl⟩,kk,rfl,rfl⟩ (by have:=aI hl;simpa using this) fun s' xs' hd' ht' hk' hg' hos'=>?_
 ·refine qo hnew fun o es ep ho r1 r2 r3 r4 r5=>?_
  exact ⟨o,es,ep,k2 _ _ (hk _ _ ho),r1,r2,r3,fun y hy=>by rw [List.mem_nil_iff] at hy;exact hy.elim,r5⟩
 ·have hpz:∃ o,s'.heap.get? s.heap.objs.size=some o:=by refine iX hd' fun o _ _ ho _=>?_;exact ⟨o,ho⟩
  refine du (S.mk' (o:=.dT d) (p:=(s.heap.objs.size,s.heap.objs.size)) (s':=s') hd0 hd0 hk' ⟨hpz,hpz⟩ hg' hos' (fun L=>⟨rfl,xs',hd',ht'.lasts L⟩)) fun S' N e=>?_
  exact ⟨rfl,k _ _ _ S' N (.ref (p:=(s.heap.objs.size,s.heap.objs.size)) e)⟩
theorem lY (CP:si C n R) {elt:E} {gens:List G} {x:Expr} {v:V} (hm:mtE f sc (.comp elt gens) x=true) (h:R.ev (.comp elt gens) lo H=some (v,H')) (r:aS n A) (S:St C ρ H s) (X:EnvOK C sc env ρ H s.heap lo) {E Q:Value→Shared→Prop}
  (k:∀ D s' ρ',St C ρ' H' s'→Nx no ρ H s ρ' H' s'→VR ρ' H' s'.heap v (.ref D)→(∃ items,s'.heap.PlainList D items)→Q (.ref D) s'):wpAny (MM C) A (eval x env) Q E s:=by
 refine vy (CP f sc env elt gens x lo H v H' hm h A s ρ r S X) fun y cs sc' p hh3_ hasy core=>?_
 subst hh3_
 rw [eval_ListComp,hasy]
 refine core none E Q fun D Lc s' ρ' S' N' rv L hm h0=>?_
 refine aG hm fun m hm=>?_
 refine ⟨m,hm,fun h'' hs=>?_⟩
 refine du (ef S' L hm hs N' h0) fun S₅ N₅ La=>?_
 refine k _ _ _ S₅ N₅ (rv.1.lasts La) (rv.2.elim fun items t=>⟨items,t.at fun o e=>(hs.2 _ fun q=>?_).trans e⟩)
 refine aG t fun n e'=>?_
 refine aT hm fun o' es ep ho' hd' _=>?_
 rw [q,ho'] at e';cases e';cases hd'
theorem pd (K:CfgOK C gG) (CP:si C n R) {elt:E} {gens:List Mini.Internal.G} {x:Expr} {v:V} (hm:mtE (f + 1) sc (.dictOf elt gens) x=true) (h:aO C.P R (.dictOf elt gens) lo H=some (v,H'))
  (r:aS n A) (S:St C ρ H s) (X:EnvOK C sc env ρ H s.heap lo):Runs C A (eval x env) ρ H s v H':=by
 have hx:=aQ hm
 have m:=cB hx.2
 refine ay (aH m.1) fun pp hy hl hd=>?_
 refine ae (jQ m.2) fun c hc mc=>?_
 refine bpE h fun w H1 h1 h=>?_
 refine bsE h fun l hw h=>?_
 refine itE h fun hlen h=>?_
 refine msE h fun d hdl h=>?_
 refine .of (x':=.Call (.Name ("dict" : Str) pp) [c] [] (pt x).p) (hx.1.trans (show Expr.Call (pt x).a (pt x).l [] (pt x).p=_ by rw [hy,hc])) (.eq h fun E Q k=>?_)
 refine Call_Name rfl ?_
 refine wpAny_Name (aD K X S hl u0 boot_dict ?_) hd
 rw [show starEach [c] env=bj [c] env by rw [bQ (d1 f _ c mc).1];rfl,aV]
 refine W.callWith_of (P:=C.K.In) (b7 [c]) (bo _) (evalArgs_plain ?_)
 show wpAny (MM C) A (spliced ((false,eval c env) :: [])) _ E s
 refine wpAny_bind (lY CP mc h1 r S X fun D s₁ ρ₁ S₁ N₁ r₁ t=>?_)
 refine wpAny_bind (wpAny_pure (wpAny_bind (wpAny_holding (wpAny_pure (wpAny_pure ⟨K.X.keeps S₁.base,?_⟩)))))
 rw [aZ hw] at r₁
 refine t.elim fun items t=>?_
 cases r₁ with
 | @lst _ _ its t' nn rr =>
 have e:its=items:=by
  refine aG t fun n1 e1=>?_
  refine ay t' fun o2 e2 _ hh1_=>?_
  refine aG hh1_ fun n2 d2=>?_
  rw [e1] at e2;cases e2;cases d2;rfl
 rw [e] at rr
 exact pO S₁ r.1 r.units t rr hlen hdl E Q fun x2 s₂ ρ₂ S₂ N₂ r₂=>k x2 s₂ ρ₂ S₂ (N₁.trans N₂) r₂
end
theorem k5:typeLookup (.type "zip") "__len__" = pure none:=by rw [typeLookup_type,builtinLookup_eq_fast];kernel_rfl
theorem i3:typeLookup (.type "zip") "__length_hint__" = pure none:=by rw [typeLookup_type,builtinLookup_eq_fast];kernel_rfl
theorem boot_sorted:bootBuiltins "sorted" = some (.builtin "sorted"):=by decide +kernel
theorem nj:("sorted" : Str)∈cg:=by decide +kernel
section
variable {prog:Program} {w:World} {A:Around} {E:Value→Shared→Prop} {s:Shared} {z TI TO D:Addr} {h0:Heap}
noncomputable abbrev i0 (xs:Array Value) (n:Nat):Obj:=seqObj "list" xs n
theorem wi:Value.type "list"≠.type "zip" := by decide
theorem sH:Value.type "list"≠.type "list_iterator" := by decide
theorem vK:Value.type "tuple"≠.type "zip" := by decide
theorem ug {h:Heap} {a:Addr} {xs ys:Array Value} {n:Nat} (e1:h.get? a=some (i0 xs n)) (e2:h.get? a=some (eB ys)):False:=mT (congrArg Obj.cls (Option.some.inj (e2.symm.trans e1)))
theorem ZipAt.upd {h h':Heap} {its:List ZI} {d:Nat} (Z:ZipAt h z TI TO its d) (k:∀ c o,c≠D→h.get? c=some o→h'.get? c=some o) (pr:∀ a o,h.get? a=some o→∃ o',h'.get? a=some o') (hD:∀ o,h.get? D=some o→o.cls=.type "list") (hl:∀ t∈its,t.l≠D):ZipAt h' z TI TO its d:=by
 obtain ⟨⟨f0,b,ho,hf⟩,⟨o2,h2,c2,r2⟩,⟨arr,ha,hto⟩,hits⟩:=Z
 have ne:∀ {c:Addr} {o:Obj},h.get? c=some o→o.cls≠.type "list"→c≠D:=fun e n q=>n (hD _ (q▸e))
 refine ⟨⟨f0,b,k _ _ (ne ho k6) ho,hf.pres pr⟩,⟨o2,k _ _ (ne h2 (by rw [c2];exact mT)) h2,c2,r2⟩,⟨arr,ha,k _ _ (ne hto mT) hto⟩,fun t m=>(hits t m).at (fun o e=>k _ _ ?_ e) fun o e=>k _ _ (hl t m) e⟩
 refine ay ((hits t m).it) fun o' h1 h3 _=>?_
 rw [e] at h1;cases h1
 exact ne e (by rw [h3];decide)
structure Pulled (h0 h:Heap) (z TI TO D:Addr) (t u:ZI) (ts:List (Addr×Value×Value)):Prop where
 at_:ZipAt h z TI TO [t,u] 0
 tu:∀ p∈ts,h0.get? p.1=none∧p.1≠TO∧h.get? p.1=some (eB #[p.2.1,p.2.2])
 keep:∀ c o,h0.get? c=some o→h.get? c=some o
 new:h0.get? z=none∧h0.get? TO=none∧h0.get? t.i=none∧h0.get? u.i=none∧h0.get? D=none
 ne:TI≠TO∧t.i≠u.i∧t.l≠D∧u.l≠D
 lst:∃ n,h.get? D=some (i0 (ts.map fun p=>Value.ref p.1).toArray n)
theorem eW {α:Type} {t u v:α} {P:α→Prop} (m:v∈[t,u]) (a:P t) (b:P u):P v:=(List.mem_cons.mp m).elim (fun e=>e▸a) fun m=>List.mem_singleton.mp m▸b
theorem fresh_ne {h:Heap} {a c:Addr} {o:Obj} (n:h.get? a=none) (e:h.get? c=some o):c≠a:=fun q=>nn (n.symm.trans (q▸e))
theorem ZipAt.apart {h:Heap} {its:List ZI} {d:Nat} (Z:ZipAt h z TI TO its d) {c:Addr} {o:Obj} (ho:h.get? c=some o) (n1:o.cls≠.type "zip") (n2:o.cls≠.type "list_iterator"):c≠z∧∀ t∈its,c≠t.i :=
 ⟨fun q=>Z.obj.elim fun _ x=>x.elim fun _ x=>n1 (congrArg Obj.cls (Option.some.inj ((q▸ho:h.get? z=some o).symm.trans x.1))),fun v m q=>(Z.its v m).ne_i ho n2 q.symm⟩
theorem at2 {t u:ZI} {x y:Value} (h1:t.xs[t.c]?=some x) (h2:u.xs[u.c]?=some y) (j:Nat) (v:ZI) (e:[t,u][j]?=some v):v.xs[v.c]?=[x,y][j]?:=by
 induction j using Nat.casesAuxOn with
 | zero=>exact Option.some.inj e▸h1
 | succ j=>induction j using Nat.casesAuxOn with
  | zero=>exact Option.some.inj e▸h2
  | succ j=>exact nn e
theorem xl {xs:Array Value} {c:Nat} {x:Value} {r:List Value} (e:xs.toList.drop c=x :: r):xs[c]?=some x∧xs.toList.drop (c + 1)=r :=
 ⟨Array.getElem?_toList.symm.trans ((congrArg (xs.toList[·]?) (Nat.add_zero c).symm).trans (List.getElem?_drop.symm.trans (congrArg (·[0]?) e))),(List.drop_drop (i:=1)).symm.trans (congrArg (List.drop 1) e)⟩
theorem kI {xs:Array Value} {c:Nat} (e:xs.toList.drop c=[]):xs[c]?=none:=Array.getElem?_eq_none (List.drop_eq_nil_iff.mp e)
theorem Pulled.next {h h':Heap} {t u:ZI} {ts:List (Addr×Value×Value)} {T:Addr} {x y:Value} (P:Pulled h0 h z TI TO D t u ts) (hT:h.get? T=none) (Z':ZipAt h' z TI TO [t,u] 1) (gT:h'.get? T=some (eB #[x,y]))
  (hk:∀ c o,c≠z→c≠TO→(∀ v∈[t,u],c≠v.i)→h.get? c=some o→h'.get? c=some o) :
  ∃ n,h'.get? D=some (i0 (ts.map fun p=>Value.ref p.1).toArray n)∧Pulled h0 (h'.update D (Obj.mapSeq (·.push (.ref T)))) z TI TO D { t with c:=t.c + 1 } { u with c:=u.c + 1 } (ts++[(T,x,y)]):=by
 have ne:∀ {c:Addr} {o:Obj},h.get? c=some o→o.cls≠.type "zip"→o.cls≠.type "list_iterator"→c≠TO→h'.get? c=some o:=fun e n1 n2 n3=>have a:=P.at_.apart e n1 n2;hk _ _ a.1 n3 a.2 e
 refine P.lst.elim fun n hD=>ae P.at_.to fun arr ha hto=>?_
 have hD':=ne hD wi sH fun q=>ug (q▸hD) hto
 have hs:=Heap.SameBut.update h' D (Obj.mapSeq (·.push (Value.ref T)))
 have hD₂:∃ n',(h'.update D (Obj.mapSeq (·.push (Value.ref T)))).get? D=some (i0 ((ts++[(T,x,y)]).map fun p=>Value.ref p.1).toArray n'):=⟨_,(get?_update_seq hD' _).trans (by simp;rfl)⟩
 have Z₁:ZipAt h' z TI TO [{ t with c:=t.c + 1 },{ u with c:=u.c + 1 }] 0:=⟨Z'.obj,Z'.ti,Z'.to,fun v m=>eW (P:=fun v=>ZAt h' v 0) m ⟨(Z'.its t (.head _)).it,(Z'.its t (.head _)).ls⟩ ⟨(Z'.its u (.tail _ (.head _))).it,(Z'.its u (.tail _ (.head _))).ls⟩⟩
 refine ⟨n,hD',⟨Z₁.upd (fun c o n e=>(hs.2 c n).trans e) (fun a o e=>?_) (fun o e=>(Option.some.inj (hD'.symm.trans e))▸rfl) (fun v m=>eW (P:=fun v=>v.l≠D) m P.ne.2.2.1 P.ne.2.2.2),fun p m=>?_,fun c o e=>(hs.2 c (fresh_ne P.new.2.2.2.2 e)).trans (hk c o (fresh_ne P.new.1 e) (fresh_ne P.new.2.1 e) (fun v m=>eW (P:=fun v=>c≠v.i) m (fresh_ne P.new.2.2.1 e) (fresh_ne P.new.2.2.2.1 e)) (P.keep c o e)),P.new,P.ne,hD₂⟩⟩
 ·by_cases q:a=D
  ·exact hD₂.elim fun n' e=>⟨_,by rw [q];exact e⟩
  ·exact ⟨o,(hs.2 a q).trans e⟩
 ·refine Or.elim (List.mem_append.mp m) (fun m=>du (P.tu p m) fun a1 a2 a3=>⟨a1,a2,(hs.2 _ fun q=>ug hD (q▸a3)).trans (ne a3 vK gf a2)⟩) fun m=>?_
  rw [List.mem_singleton.mp m]
  exact ⟨aB P.keep hT,(fresh_ne hT hto).symm,(hs.2 _ fun q:T=D=>ug hD' (q▸gT)).trans gT⟩
theorem nP {res:Value}:∀ (rs:List (Value×Value)) {t u:ZI} {ts:List (Addr×Value×Value)} {s:Shared} {A:Around},A.handled=none→Pulled h0 s.heap z TI TO D t u ts→t.xs.toList.drop t.c=rs.map (·.1)→u.xs.toList.drop u.c=rs.map (·.2)→ts.length + rs.length≤1000 →
  ∀ {RR:Result→Shared→Prop},(∀ h' (ts':List (Addr×Value×Value)),ts'.map (·.2)=ts.map (·.2)++rs→(∃ n,h'.get? D=some (i0 (ts'.map fun p=>Value.ref p.1).toArray n))→(∀ p∈ts',h0.get? p.1=none∧h'.get? p.1=some (eB #[p.2.1,p.2.2]))→(∀ c o,h0.get? c=some o→h'.get? c=some o)→RR (.ok (.ret res)) { s with heap:=h' }) →
  codeAny (model prog w) A (.builtin "list.extend.loop" ⟨[.ref D,.ref z,res],[]⟩) RR s:=by
 intro rs
 induction rs with
 | nil =>
  intro t u ts s A hh P ht hu hl RR k
  refine codeAny_builtin PySem.F.entry_extend_loop ?_
  rw [Around.under_plainId PySem.F.plain_extend_loop _]
  refine wpAny_bind (di hh P.at_ nofun (fun v m=>eW (P:=fun v:ZI=>v.xs[v.c]?=none) m (kI ht) (kI hu)) fun h' hk=>wpAny_pure ?_)
  have up:∀ {c:Addr} {o:Obj},s.heap.get? c=some o→o.cls≠.type "zip"→o.cls≠.type "list_iterator"→h'.get? c=some o:=fun e n1 n2=>have a:=P.at_.apart e n1 n2;hk _ _ a.1 a.2 e
  exact k h' ts (List.append_nil _).symm (P.lst.elim fun n e=>⟨n,up e wi sH⟩) (fun p m=>⟨(P.tu p m).1,up (P.tu p m).2.2 vK gf⟩) fun c o e=>hk c o (fresh_ne P.new.1 e) (fun v m=>eW (P:=fun v=>c≠v.i) m (fresh_ne P.new.2.2.1 e) (fresh_ne P.new.2.2.2.1 e)) (P.keep c o e)
 | cons p rs ih =>
  intro t u ts s A hh P ht hu hl RR k
  have nt:=xl ht
  have nu:=xl hu
  have hl:ts.length + 1 + rs.length≤1000:=Nat.le_trans (Nat.le_of_eq (Nat.succ_add_eq_add_succ ..)) hl
  have sz:ts.length + 1≤sizeLine:=by rw [af];exact Nat.le_trans (Nat.le_trans (Nat.le_add_right _ _) hl) (by decide)
  refine codeAny_builtin PySem.F.entry_extend_loop ?_
  rw [Around.under_plainId PySem.F.plain_extend_loop _]
  refine wpAny_bind (gh (vals:=[p.1,p.2]) P.at_ P.ne.1 nofun (show 2≤20 by decide) (by simpa using P.ne.2.1) rfl (at2 nt.1 nu.1) fun h' T hT Z' gT hk=>?_)
  refine ae (P.next hT Z' gT hk) fun n hD P'=>?_
  show wpAny _ A.in1 (updateSeq D (·.push (.ref T))>>=_) _ _ _
  refine wpAny_bind (wpAny_updateSeq hD rfl (wpAny_pure ⟨plainId_quiet PySem.F.plain_extend_loop _,?_⟩) (by rw [List.size_toArray,List.length_map];exact Nat.le_of_succ_le sz) (by rw [Array.size_push,List.size_toArray,List.length_map];exact Nat.le_succ_of_le sz))
  exact ih (s:={ s with heap:=h'.update D (Obj.mapSeq (·.push (.ref T))) }) hh P' nt.2 nu.2 (by rw [List.length_append];exact hl) fun h'' ts' e1 e2 e3 e4=>k h'' ts' (by rw [e1,List.map_append,List.append_assoc];rfl) e2 e3 e4
end
section
variable {prog:Program} {w:World} {A:Around} {E:Value→Shared→Prop} {s:Shared} {z TI TO:Addr} {h0:Heap}
theorem i4 {t u:ZI} {rs:List (Value×Value)} (hh:A.handled=none) (Z:ZipAt s.heap z TI TO [t,u] 0) (keep:∀ c o,h0.get? c=some o→s.heap.get? c=some o) (new:h0.get? z=none∧h0.get? TO=none∧h0.get? t.i=none∧h0.get? u.i=none) (ne:TI≠TO∧t.i≠u.i)
  (ht:t.xs.toList.drop t.c=rs.map (·.1)) (hu:u.xs.toList.drop u.c=rs.map (·.2)) (hl:rs.length≤1000) {Q:List Value→Shared→Prop}
  (k:∀ h' (ts:List (Addr×Value×Value)),ts.map (·.2)=rs→(∀ p∈ts,h0.get? p.1=none∧h'.get? p.1=some (eB #[p.2.1,p.2.2]))→(∀ c o,h0.get? c=some o→h'.get? c=some o)→Q (ts.map fun p=>Value.ref p.1) { s with heap:=h' }):wpAny (model prog w) A (collect (.ref z)) Q E s:=by
 refine aX Z.obj fun f0 b hz hf=>?_
 have hTz:s.TypeIs (.ref z) "zip" := ⟨_,hz,rfl⟩
 unfold collect
 refine wpAny_bind (wpAny_runValue (codeAny_builtin PySem.F.entry_proto_collect ?_))
 rw [Around.under_plainId PySem.F.plain_proto_collect _]
 show wpAny _ A.in1 (newList []>>=fun l=>again (.builtin "list.__iadd__" ⟨[l,.ref z],[]⟩)) _ _ s
 refine wpAny_bind (wpAny_newObj_type ?_)
 refine wpAny_pure ⟨plainId_quiet PySem.F.plain_list_iadd _,codeAny_builtin PySem.F.entry_list_iadd ?_⟩
 rw [Around.under_plainId PySem.F.plain_list_iadd _]
 generalize hh1:s.heap.push { cls:=.type "list",data:=.seq ([]:List Value).toArray }=h1
 have k1:∀ c o,s.heap.get? c=some o→h1.get? c=some o:=fun c o e=>hh1▸Heap.get?_push_of_some _ e
 have gD:h1.get? s.heap.objs.size=some (i0 #[] 0):=hh1▸Heap.get?_push_size _ rfl
 have nD:=ai s.heap
 generalize s.heap.objs.size=D at gD nD ⊢
 have zD:D≠z:=fun e=>by rw [e,hz] at nD;cases nD
 have hT₁:Shared.TypeIs { s with heap:=h1 } (.ref z) "zip" := ⟨_,k1 _ _ hz,rfl⟩
 have Z₁:ZipAt h1 z TI TO [t,u] 0:=Z.upd (D:=D) (fun c o _ e=>k1 c o e) (fun a o e=>⟨o,k1 a o e⟩) (fun o e=>by rw [nD] at e;cases e) (fun v m q=>by
  refine ae ((Z.its v m).ls) fun o ho _=>?_
  rw [q,nD] at ho;cases ho)
 show wpAny _ A.in1 (Builtin.List.listExtendWith (.ref D) (.ref z) (.ref D)) _ _ _
 unfold Builtin.List.listExtendWith
 refine wpAny_bind (wpAny_typeOf hT₁ ?_)
 have e1:Builtin.List.listSameRef (.ref D) (.ref z)=false:=by simp [Builtin.List.listSameRef,zD]
 have e2:(Value.type "zip"==Value.type "list")=false:=by decide
 have e3:(Value.type "zip"==Value.type "tuple")=false:=by decide
 refine aU (by rw [e1,e2,e3];decide) ?_
 refine wpAny_bind (gi (s:={ s with heap:=h1 }) Z₁ ?_)
 refine wpAny_bind (wpAny_holding ?_)
 unfold Builtin.List.listLengthHint
 refine wpAny_bind (wpAny_specialOf hT₁ k5 ?_)
 show wpAny _ A.in1 (specialOf (Value.ref z) (Str.ofString "__length_hint__")>>=_) _ _ _
 refine wpAny_bind (wpAny_specialOf hT₁ i3 ?_)
 refine wpAny_pure ?_
 show wpAny _ A.in1 (rule "list.extend.makes-room">>=fun _=>Builtin.List.listTouch (.ref D)>>=fun _ =>
  again (.builtin "list.extend.loop" ⟨[.ref D,.ref z,.ref D],[]⟩)) _ _ _
 refine wpAny_bind (wpAny_rule (wpAny_bind ?_))
 show wpAny _ A.in1 (updateSeq D (·.push .none)>>=fun _=>updateSeq D (·.pop)) _ _ _
 refine wpAny_bind (wpAny_updateSeq gD rfl ?_)
 have g2:=get?_update_seq gD (·.push Value.none)
 refine wpAny_updateSeq g2 rfl ?_
 have g3:=get?_update_seq g2 (·.pop)
 have s2:=Heap.SameBut.update h1 D (Obj.mapSeq (·.push Value.none))
 have s3:=Heap.SameBut.update (h1.update D (Obj.mapSeq (·.push Value.none))) D (Obj.mapSeq (·.pop))
 generalize hh3:(h1.update D (Obj.mapSeq (·.push Value.none))).update D (Obj.mapSeq (·.pop))=h3 at g3 s3 ⊢
 have k3:∀ c o,c≠D→h1.get? c=some o→h3.get? c=some o:=fun c o n e=>(s3.2 c n).trans ((s2.2 c n).trans e)
 have nD0:=aB keep nD
 have vD:∀ v∈[t,u],v.l≠D:=fun v m q=>by
  refine ae ((Z.its v m).ls) fun o ho _=>?_
  rw [q,nD] at ho;cases ho
 refine wpAny_pure ⟨plainId_quiet PySem.F.plain_extend_loop _,nP (h0:=h0) rs (t:=t) (u:=u) (ts:=[]) (s:={ s with heap:=h3 }) hh ⟨Z₁.upd k3 (fun a o e=>?_) (fun o e=>(Option.some.inj (gD.symm.trans e))▸rfl) vD,fun p m=>(by cases m),fun c o e=>k3 c o (fun q=>by rw [q,nD0] at e;cases e) (k1 c o (keep c o e)),⟨new.1,new.2.1,new.2.2.1,new.2.2.2,nD0⟩,⟨ne.1,ne.2,vD t (.head _),vD u (.tail _ (.head _))⟩,⟨_,g3⟩⟩ ht hu (by simpa using hl) fun h' ts e e2 e3 e4=>?_⟩
 ·by_cases q:a=D
  ·exact ⟨_,by rw [q];exact g3⟩
  ·exact ⟨o,k3 a o q e⟩
 ·refine aG e2 fun n e2=>?_
  show wpAny _ A (load D>>=_) _ _ _
  refine wpAny_bind (wpAny_load e2 (wpAny_pure ?_))
  exact k h' ts (by simpa using e) e3 e4
end
section
variable {prog:Program} {w:World} {A:Around} {E:Value→Shared→Prop} {s:Shared} {h0:Heap}
theorem gW {a:Addr} {vs:List Value} {n:Nat} {P:PySem.Fin→Shared→Prop} (ho:s.heap.get? a=some (i0 vs.toArray n)) (h2:2≤vs.length) (h64:vs.length < 64)
  (h:∀ h' e1,h'.get? a=some (i0 #[] e1)→(∀ c o,c≠a→s.heap.get? c=some o→h'.get? c=some o) →
   wpAny (model prog w) A (keyKind' vs.toArray) (fun κ s'=>(W.kas_sort vs.length).kasWp (W.kas_ask prog w A κ vs) (fun p s''=>s''.heap.get? a=some (i0 #[] e1)∧∀ h3 c,h3.get? a=some (i0 (p.toList.map fun i=>vs.getD i Value.none).toArray c)→(∀ c o,c≠a→s''.heap.get? c=some o→h3.get? c=some o)→P (.done (.ret .none)) { s'' with heap:=h3 }) s') (fun _ _=>False) { s with heap:=h' }) :
  wpAny (model prog w) A (Builtin.«list.sort» ⟨[.ref a],[]⟩) P E s:=by
 have ha:a < s.heap.objs.size:=Heap.lt_size ho
 have s1:=Heap.SameBut.update s.heap a (Obj.mapSeq fun _=>(#[]:Array Value))
 refine aG (show ∃ e1,(s.heap.update a (Obj.mapSeq fun _=>(#[]:Array Value))).get? a=some (i0 #[] e1) from ⟨_,get?_update_seq ho fun _=>#[]⟩) fun e1 ho1=>?_
 have ask:=h (((s.heap.update a (Obj.mapSeq fun _=>(#[]:Array Value))).push (seqObj "tuple" vs.toArray 0)).push (i0 #[] 0)) e1 (Heap.get?_push_of_some _ (Heap.get?_push_of_some _ ho1)) fun c o n e=>Heap.get?_push_of_some _ (Heap.get?_push_of_some _ ((s1.2 c n).trans e))
 rw [list_sort_plain]
 refine wpAny_bind (listItems_at ho rfl ?_)
 refine wpAny_bind (listUpdate_at ho rfl ?_ (by rw [List.size_toArray,sizeLine_eq];lia) (Nat.zero_le _))
 refine wpAny_bind (seqEpoch_at ho1 rfl ?_)
 refine wpAny_bind (wpAny_newTuple ?_ (by show vs.length≤_;rw [sizeLine_eq];lia))
 refine wpAny_bind (wpAny_newList ?_ (Nat.zero_le _))
 refine wpAny_holding ?_
 show wpAny (model prog w) A _ P E { s with heap:=((s.heap.update a (Obj.mapSeq fun _=>(#[]:Array Value))).push (seqObj "tuple" vs.toArray 0)).push (i0 #[] 0) }
 dsimp only
 have hn2:¬ vs.toArray.size < 2:=by rw [List.size_toArray];lia
 rw [if_neg hn2,if_neg hn2]
 refine wpAny_bind (wpAny_mono ask (fun κ s0 hk=>?_) fun _ _ x=>x.elim)
 refine wpAny_bind (wpAny_mono (W.kat_run (Q:=fun st' s'=>∃ p:Array Nat,p.size=vs.length∧arrOf st'=p.map (W.kas_item (vs.toArray.zip vs.toArray))∧failedOf st'=none∧s'.heap.get? a=some (i0 #[] e1)∧∀ h3 c,h3.get? a=some (i0 (p.toList.map fun i=>vs.getD i Value.none).toArray c)→(∀ c o,c≠a→s'.heap.get? c=some o→h3.get? c=some o)→P (.done (.ret .none)) { s' with heap:=h3 })
  rfl h2 h64 (fun p' st' s' a1 a2 a3 a4=>⟨p',a1,a2,a3,a4⟩) hk) ?_ fun _ _ e=>e)
 rintro ⟨⟨⟩,st'⟩ s' ⟨p,hp,har,hf,g,k⟩
 dsimp only
 have hout:=W.kat_snds rfl har
 have hsz:(List.toArray (p.toList.map fun i=>vs.getD i Value.none)).size=vs.length:=by rw [List.size_toArray,List.length_map,Array.length_toList,hp]
 rw [hout]
 have s2:=Heap.SameBut.update s'.heap a (Obj.mapSeq fun _=>List.toArray (p.toList.map fun i=>vs.getD i Value.none))
 refine wpAny_bind (seqEpoch_at g rfl ?_)
 refine wpAny_bind (listUpdate_at g rfl ?_ (Nat.zero_le _) (Nat.le_trans (Nat.le_of_eq hsz) (by rw [sizeLine_eq];lia)))
 rw [hf]
 refine aU (by rw [bne_self_eq_false];decide) ?_
 exact wpAny_pure (k _ _ (get?_update_seq g fun _=>List.toArray (p.toList.map fun i=>vs.getD i Value.none)) fun c o n e=>(s2.2 c n).trans e)
noncomputable def IsP (h:Heap) (p:Int×Int) (v:Value):Prop:=∃ T t u,v=.ref T∧h.get? T=some (eB #[.int p.1 t,.int p.2 u])
theorem r7 {vs:List Value} {i j:Nat} {p q:Int×Int} {Cc:Bool→Shared→Prop} (h1:IsP s.heap p (vs.getD i .none)) (h2:IsP s.heap q (vs.getD j .none)) (k:Cc (ltP p q) s):W.kas_ask prog w A (tuples' true) vs i j Cc s:=by
 refine iX h1 fun T t u e1 g1=>?_
 refine iX h2 fun T' t' u' e2 g2=>?_
 unfold W.kas_ask
 rw [e1,e2]
 refine W.kat_lt g1 rfl g2 rfl ?_
 show W.KatLex prog w A true (decide (2 < 2)) Cc [(.int p.1 t,.int q.1 t'),(.int p.2 u,.int q.2 u')] 0 s
 refine W.kat_cons (wpAny_eqBool_int ?_)
 unfold ltP at k
 cases e:p.1==q.1 with
 | false =>
  rw [e] at k
  exact W.kat_no (show wpAny _ _ (oneLt' true _ _) _ _ _ from oneLt_int k)
 | true =>
  rw [e] at k
  refine W.kat_yes (W.kat_cons (wpAny_eqBool_int ?_))
  cases e':p.2==q.2 with
  | false =>
   rw [e'] at k
   exact W.kat_no (show wpAny _ _ (oneLt' false _ _) _ _ _ from W.kat_one _ _ (PyProof.Rows.lt_int k))
  | true =>
   rw [e'] at k
   exact W.kat_yes (W.kat_nil k)
theorem p9 {α:Type} {l:List (Int×Int)} {vs:List Value} (hv:∀ i p,l[i]?=some p→IsP s.heap p (vs.getD i .none)) {a:α} {Q:α→Shared→Prop} (hq:Q a s) (t:W.KasT α) (h:runK (fun i j=>l[i]?.bind fun p=>l[j]?.map (ltP p)) t=some a):t.kasWp (W.kas_ask prog w A (tuples' true) vs) Q s:=by
 induction t with
 | ret b=>cases h;exact hq
 | ask i j k ih =>
  refine bsE h fun b h1 h2=>?_
  refine bsE h1 fun p hp h1=>?_
  refine msE h1 fun q hq' h1=>?_
  refine r7 (hv i p hp) (hv j q hq') ?_
  rw [h1]
  exact ih b h2
end
section
variable {prog:Program} {w:World} {A:Around} {E:Value→Shared→Prop} {s:Shared} {z TI TO:Addr} {h0:Heap} {ρ:Rh} {H:Hp}
noncomputable abbrev rowsOf (l:List ((Int×Tok)×(Int×Tok))):List (Value×Value):=l.map fun r=>(.int r.1.1 r.1.2,.int r.2.1 r.2.2)
theorem nN {l:List ((Int×Tok)×(Int×Tok))} {ts:List (Addr×Value×Value)} (e:ts.map (·.2)=rowsOf l) {h:Heap} (ht:∀ p∈ts,h.get? p.1=some (eB #[p.2.1,p.2.2])) (i:Nat) (p:Int×Int) (hp:(l.map fun r=>(r.1.1,r.2.1))[i]?=some p) :
  ∃ T∈ts,IsP h p (.ref T.1)∧(ts.map fun p=>Value.ref p.1).getD i .none=.ref T.1:=by
 rw [List.getElem?_map] at hp
 refine msE hp fun r h1 h2=>?_
 have h3:(ts.map (·.2))[i]?=some (.int r.1.1 r.1.2,.int r.2.1 r.2.2):=by rw [e,List.getElem?_map,h1];rfl
 rw [List.getElem?_map] at h3
 refine msE h3 fun T h4 h5=>?_
 refine ⟨T,List.mem_of_getElem? h4,⟨T.1,r.1.2,r.2.2,rfl,?_⟩,?_⟩
 ·rw [ht T (List.mem_of_getElem? h4),h5,← h2]
 ·rw [List.getD_eq_getElem?_getD,List.getElem?_map,h4];rfl
theorem mS {h:Heap}:∀ {ts:List (Addr×Value×Value)},(∀ p∈ts,h.get? p.1=some (eB #[p.2.1,p.2.2]))→W.KatTups h (ts.map fun p=>Value.ref p.1) (ts.map fun p=>p.2.1)
 | [],_=>.nil
 | p :: _,k=>.cons (k p (.head _)) rfl rfl rfl (mS fun q m=>k q (.tail _ m))
theorem j9 {l:List (Int×Int)} {vs:List Value} {h:Heap} (hv:∀ i p,l[i]?=some p→∃ T,IsP h p (.ref T)∧T∉ρ.z∧vs.getD i .none=.ref T):∀ (is:List Nat) {out:List (Int×Int)},picks l is=some out→VRs ρ H h (out.map qQ) (is.map fun i=>vs.getD i .none)
 | [],_,e=>by cases e;exact .nil
 | i :: is,out,e=>by
  refine bsE e fun p h1 e=>?_
  refine msE e fun r h2 e=>?_
  rw [← e]
  refine ay (hv i p h1) fun T hh1_ zz e2=>?_
  refine iX hh1_ fun T' t u e1 g=>?_
  cases e1
  refine .cons ?_ (j9 hv is h2)
  show VR ρ H h (qQ p) (vs.getD i .none)
  rw [e2]
  exact .tup ⟨_,g,rfl,_,rfl⟩ zz (.cons (.int _ _) (.cons (.int _ _) .nil))
theorem lA {t u:ZI} {l:List ((Int×Tok)×(Int×Tok))} {out:List (Int×Int)} (hh:A.handled=none) (Z:ZipAt s.heap z TI TO [t,u] 0) (keep:∀ c o,h0.get? c=some o→s.heap.get? c=some o) (new:h0.get? z=none∧h0.get? TO=none∧h0.get? t.i=none∧h0.get? u.i=none) (ne:TI≠TO∧t.i≠u.i)
  (ht:t.xs.toList.drop t.c=(rowsOf l).map (·.1)) (hu:u.xs.toList.drop u.c=(rowsOf l).map (·.2)) (h2:2≤l.length) (h64:l.length < 64) (hz:∀ a,h0.get? a=none→a∉ρ.z) (ho:vR (l.map fun r=>(r.1.1,r.2.1))=some out) {Q:Value→Shared→Prop}
  (k:∀ h' L xs,h0.get? L=none→h'.IsList L xs→VRs ρ H h' (out.map qQ) xs.toList→(∀ c o,h0.get? c=some o→h'.get? c=some o)→Q (.ref L) { s with heap:=h' }):wpAny (model prog w) A (call (.builtin "sorted") [.ref z]) Q E s:=by
 refine bsE ho fun p hp ho=>?_
 rw [List.length_map] at hp
 refine call_function_entry kind_sorted plain_sorted entry_sorted (args_sorted1 _) ?_
 unfold Builtin.«sorted»
 refine wpAny_bind (m:=checkCount "sorted" 1 1 _) (wpAny_pure ?_)
 refine wpAny_bind (i4 (A:=A.in1) (rs:=rowsOf l) hh Z keep new ne ht hu (by rw [List.length_map];lia) fun h₁ ts e1 e2 e3=>?_)
 have hlen:(ts.map fun p=>Value.ref p.1).length=l.length:=by
  have:=congrArg List.length e1
  simpa using this
 refine wpAny_bind (wpAny_newList ?_ (by rw [hlen,sizeLine_eq];lia))
 dsimp only
 generalize hh2:h₁.push _=h₂
 have k2:∀ c o,h₁.get? c=some o→h₂.get? c=some o:=fun c o e=>hh2▸Heap.get?_push_of_some _ e
 have gL:h₂.get? h₁.objs.size=some (i0 (ts.map fun p=>Value.ref p.1).toArray 0):=hh2▸Heap.get?_push_size _ rfl
 have nL:=ai h₁
 generalize h₁.objs.size=L at gL nL ⊢
 have nL0:=aB e3 nL
 have tL:∀ q∈ts,q.1≠L:=fun q m w=>by have:=(e2 q m).2;rw [w,nL] at this;cases this
 have cL:∀ {c:Addr} {o:Obj},h0.get? c=some o→c≠L:=fun e w=>by rw [w,nL0] at e;cases e
 refine wpAny_bind (wpAny_holding (wpAny_call_entry PyProof.Rows.slot_list_sort ⟨_,gL,rfl⟩ PyProof.Rows.entry_list_sort ?body (args_list_sort _)))
 case body =>
  refine gW (s:={ s with heap:=h₂ }) gL (by rw [hlen];exact h2) (by rw [hlen];exact h64) fun h₃ e1' g3 k3=>?_
  have hT:∀ q∈ts,h₃.get? q.1=some (eB #[q.2.1,q.2.2]):=fun q m=>k3 _ _ (tL q m) (k2 _ _ (e2 q m).2)
  refine W.kat_kind (T:=.type "int") (mS (h:=h₃) hT) ?_ (fun v m=>?_) rfl ?_
  ·have:=hlen;rw [List.length_map] at this ⊢;lia
  ·have m':v∈(ts.map (·.2)).map (·.1):=by rw [List.map_map];exact m
   rw [e1,List.map_map] at m'
   refine ae (List.mem_map.mp m') fun r _ hh2_=>?_
   subst hh2_
   exact Looks.now
  ·show W.KasT.kasWp (W.kas_ask prog w _ (tuples' true) _) _ _ _
   rw [hlen]
   refine p9 (s:={ s with heap:=h₃ }) (l:=l.map fun r=>(r.1.1,r.2.1)) (fun i q e=>?_) ⟨g3,fun h4 c g4 k4=>⟨_,rfl,wpAny_pure ⟨_,rfl,?_⟩⟩⟩ _ hp
   ·refine ay (nN e1 hT i q e) fun T _ h e=>?_
    rw [e];exact h
   ·refine k h4 L _ nL0 ⟨_,g4,rfl,_,rfl⟩ ?_ fun c o e=>k4 _ _ (cL e) (k3 _ _ (cL e) (k2 _ _ (e3 _ _ e)))
    refine j9 (fun i q e=>?_) _ ho
    refine ay (nN e1 (h:=h4) (fun q m=>k4 _ _ (tL q m) (hT q m)) i q e) fun T m h e=>?_
    exact ⟨T.1,h,hz _ (e2 T m).1,e⟩
end
section
variable {sc:Scope} {env:Env} {lo:Lo} {A:Around} {R:Sems} {n:Nat} {f:Nat} {ρ ρ':Rh} {H H':Hp} {s s':Shared}
theorem zip_rows {as bs:List (Int×Tok)}:(as.zip bs).map (fun r=>(r.1.1,r.2.1))=(as.map (·.1)).zip (bs.map (·.1)):=by rw [List.zip_map];rfl
theorem j6 {as bs:List (Int×Tok)} (e:as.length=bs.length):(rowsOf (as.zip bs)).map (·.1)=as.map (fun p=>Value.int p.1 p.2)∧(rowsOf (as.zip bs)).map (·.2)=bs.map (fun p=>Value.int p.1 p.2):=by
 constructor
 ·rw [List.map_map,show ((fun r:Value×Value=>r.1)∘fun r:(Int×Tok)×(Int×Tok)=>(Value.int r.1.1 r.1.2,Value.int r.2.1 r.2.2))=(fun p:Int×Tok=>Value.int p.1 p.2)∘Prod.fst from rfl,← List.map_map,List.map_fst_zip (by lia)]
 ·rw [List.map_map,show ((fun r:Value×Value=>r.2)∘fun r:(Int×Tok)×(Int×Tok)=>(Value.int r.1.1 r.1.2,Value.int r.2.1 r.2.2))=(fun p:Int×Tok=>Value.int p.1 p.2)∘Prod.snd from rfl,← List.map_map,List.map_snd_zip (by lia)]
theorem rI (K:CfgOK C gG) (EV:bJ C n R) {a b:E} {x:Expr} {v:V} (hm:mtE (f + 1) sc (.sortz a b) x=true) (h:aO C.P R (.sortz a b) lo H=some (v,H'))
  (r:aS n A) (S:St C ρ H s) (X:EnvOK C sc env ρ H s.heap lo):Runs C A (eval x env) ρ H s v H':=by
 have hx:=aQ hm
 have m:=cB hx.2
 refine ay (aH m.1) fun pp hy hl hd=>?_
 refine ae (jQ m.2) fun c hc mc=>?_
 have hcx:=bp (aj mc)
 have mc':=cB (aq mc)
 refine ay (aH mc'.1) fun pp2 hy2 hl2 hd2=>?_
 refine bpE h fun v1 H1 h1 h=>?_
 refine bpE h fun v2 H2 h2 h=>?_
 refine msE h fun w hw h=>?_
 refine bsE hw fun la ha hw=>?_
 refine bsE hw fun is hi hw=>?_
 refine bsE hw fun lb hb hw=>?_
 refine bsE hw fun js hj hw=>?_
 refine itE hw fun hc0 hw=>?_
 refine msE hw fun out ho hw=>?_
 have hes:evs R [a,b] lo H=some ([v1,v2],H2):=by
  show (R.ev a lo H).bind _=_
  rw [h1]
  show ((R.ev b lo H1).bind _).bind _=_
  rw [h2];rfl
 refine .of (x':=.Call (.Name ("sorted" : Str) pp) [c] [] (pt x).p) (hx.1.trans (show Expr.Call (pt x).a (pt x).l [] (pt x).p=_ by rw [hy,hc])) ?_
 refine .eq h fun E Q k=>?_
 rw [← hw] at k
 refine Call_Name rfl ?_
 refine wpAny_Name (aD K X S hl nj boot_sorted ?_) hd
 rw [show starEach [c] env=bj [c] env by rw [bQ (fun y p e=>by rw [hcx] at e;cases e)];rfl,aV]
 refine W.callWith_of (P:=C.K.In) (b7 [c]) (bE _) (evalArgs_plain ?_)
 show wpAny (MM C) A (spliced ((false,eval c env) :: [])) _ E s
 refine wpAny_bind ?_
 rw [hcx,show bk 11 (pt c)=.Call (pt c).a (pt c).l [] (pt c).p from rfl,hy2]
 refine Call_Name rfl ?_
 refine wpAny_Name (aD K X S hl2 mE boot_zip ?_) hd2
 refine ck K EV (bo _) mc'.2 hes r S X fun ys s₁ ρ₁ S₁ N₁ r₁=>?_
 refine aW r₁.two fun y1 y2 ey ra rb=>?_
 rw [ey]
 rw [aZ ha] at ra
 rw [aZ hb] at rb
 refine VR.lstE ra fun {aa xs} ta na rra=>?_
 refine VR.lstE rb fun {ab ys} tb nb rrb=>?_
 refine ae (c7 rra hi) fun ps p1 p2=>?_
 refine ae (c7 rrb hj) fun qs q1 q2=>?_
 have hlen:ps.length=qs.length:=by
  have:=Nat.eq_of_beq_eq_true (aj hc0)
  rw [← p2,← q2,List.length_map,List.length_map] at this
  exact this
 have hle:2≤ps.length∧ps.length≤63:=by
  have a1:=Nat.le_of_ble_eq_true (aj (aq hc0))
  have a2:=Nat.le_of_ble_eq_true (aq (aq hc0))
  rw [← p2,List.length_map] at a1 a2
  exact ⟨a1,a2⟩
 refine kR (ls:=[(aa,xs),(ab,ys)]) (by simp) (fun p m=>?_) fun h' z TI TO its M=>?_
 ·refine Or.elim (List.mem_cons.mp m) (fun e=>?_) fun m=>?_
  ·rw [e];exact ta
  ·rw [List.mem_singleton.mp m];exact tb
 obtain ⟨t,u,rfl⟩:∃ t u,its=[t,u]:=by
  have:=congrArg List.length M.ls
  rw [List.length_map] at this
  induction its using List.casesOn with
  | nil=>cases this
  | cons t its=>induction its using List.casesOn with
   | nil=>cases this
   | cons u its=>induction its using List.casesOn with
    | nil=>exact ⟨t,u,rfl⟩
    | cons _ _=>cases this
 have els:=M.ls
 injection els with e1 e2
 injection e2 with e2 _
 have t2:t.xs=xs:=congrArg (fun q=>q.2.1) e1
 have t3:t.c=0:=congrArg (fun q=>q.2.2) e1
 have u2:u.xs=ys:=congrArg (fun q=>q.2.1) e2
 have u3:u.c=0:=congrArg (fun q=>q.2.2) e2
 have G1:=S₁.grow (s':={ s₁ with heap:=h' }) M.keep rfl rfl
 refine wpAny_bind (wpAny_pure (wpAny_bind (wpAny_holding (wpAny_pure (wpAny_pure ⟨K.X.keeps G1.1.base,?_⟩)))))
 have hl0:(ps.zip qs).length=ps.length:=by rw [List.length_zip];lia
 refine lA (ρ:=ρ₁) (H:=H2) (h0:=s₁.heap) (l:=ps.zip qs) (s:={ s₁ with heap:=h' }) r.1 M.at_ M.keep ⟨M.new.1,M.new.2.2.1,M.new.2.2.2 t (.head _),M.new.2.2.2 u (.tail _ (.head _))⟩ ⟨M.ne,by simpa using M.nd⟩ ?_ ?_ (by rw [hl0];exact hle.1) (by rw [hl0];lia) (fun a e=>(S₁.freshAt e).z) (by rw [zip_rows,p2,q2];exact ho) fun h3 L its nL tL rr kk=>?_
 ·rw [t2,t3,(j6 hlen).1];exact p1
 ·rw [u2,u3,(j6 hlen).2];exact q1
 ·have G2:=S₁.grow (s':={ s₁ with heap:=h3 }) kk rfl rfl
  exact k _ _ _ G2.1 (N₁.trans G2.2) (.lst tL (fun q=>q.elim (S₁.freshAt nL).own (S₁.freshAt nL).z) rr)
end
end Mini.Internal
end
section
set_option autoImplicit false
namespace Mini.Internal
open PySem PySem.Calls PyProof.Rows
open PySem.W (Frag dictOf Looks findIn typeIn keepIn makesIn plainGet hasDictIn plainOver getL)
theorem ml:bootBuiltins "super" = some (.type "super"):=by decide +kernel
section
variable {sc sc':Scope} {env:Env} {lo lo':Lo} {A:Around} {R:Sems} {n:Nat} {f:Nat} {ρ ρ':Rh} {H H':Hp} {s s':Shared} {a D:Addr} {acc:List V}
theorem uE (K:CfgOK C gG) (EV:bJ C n R) (TR:iU C n R) (EX:iV C n R) (SO:qg C n R) (CP:si C n R) {R':Sems} (hR:R'.ev=aO C.P R):bJ C (n + 1) R':=by
 intro f sc env e x lo H v H' hm h A s ρ r S X
 rw [hR] at h
 have r0:=r.dec
 induction f using Nat.casesAuxOn with
 | zero=>exact ff hm
 | succ f =>
  cases e with
  | none=>(refine de h ?_;clear h);exact uF (v:=.none) hm S
  | bool b=>(refine de h ?_;clear h);exact uL hm S
  | num i=>(refine de h ?_;clear h);exact wV hm S
  | str i=>(refine de h ?_;clear h);exact wU hm S
  | var i =>
   refine msE h fun u h1 h2=>?_
   (refine dw h2 ?_;clear h2)
   exact wO hm h1 S X
  | cst i =>
   refine msE h fun u h1 h2=>?_
   (refine dw h2 ?_;clear h2)
   exact w9 K hm h1 S X
  | and l=>exact (aQ hm).1▸xc EV _ (aQ hm).2 h r0 S X
  | or l=>exact (aQ hm).1▸x9 EV _ (aQ hm).2 h r0 S X
  | not a=>exact wW EV hm h r0 S X
  | neg a=>exact wY EV hm h r0 S X
  | bin op a b=>exact xb EV hm h r0 S X
  | ite c a b=>exact wZ EV TR hm h r0 S X
  | dict k=>(refine de h ?_;clear h);exact uI hm S
  | list m l=>exact uH EV hm h r0 S X
  | tup l=>exact wQ EV hm h r0 S X
  | comp elt gens=>exact uJ K EV TR hm (kN▸h) r0 S X
  | cmp a ops l=>exact xa K EV hm h r0 S X
  | call g args=>exact uK K EV EX hm h r S X
  | new c args=>exact wX K EV EX SO hm h r S X
  | meth o m args=>exact uG K EV EX hm h r S X
  | bi b args=>exact yb K EV hm h r0 S X
  | attr o a=>exact uM K EV hm h r0 S X
  | sub o i=>exact wR EV hm h r0 S X
  | slice o lw up=>exact rJ EV hm h r0 S X
  | fmt pre e post=>exact w0 EV hm h r0 S X
  | freeze e=>exact pb EV hm h r0 S X
  | range l=>cases aq hm
  | zip l=>cases aq hm
  | zips e=>cases aq hm
  | enum e=>cases aq hm
  | sortz a b=>exact rI K EV hm h r0 S X
  | dictOf elt gens=>exact pd K CP hm h r0 S X
  | sup c m=>cases aq hm
theorem u5 (K:CfgOK C gG) (EV:bJ C n R) (TR:iU C n R) {R':Sems} (hR:R'.ev=aO C.P R):si C (n + 1) R':=by
 intro f sc env elt gens x lo H v H' hm h A s ρ r S X
 rw [hR] at h
 induction f using Nat.casesAuxOn with
 | zero=>exact ff hm
 | succ f=>exact iR K EV TR hm (kN▸h) r.dec S X
theorem uD (K:CfgOK C gG) (EV:bJ C n R) (TR:iU C n R) (EX:iV C n R) (CP:si C n R) {R':Sems} (hR:R'.exs=fJ C.P R):iV C (n + 1) R':=by
 intro f sc env b xs lo H fl lo' H' hm h A s ρ r S X E Q k
 rw [hR] at h
 exact wN K EV TR EX CP hm h r.dec S X E Q k
end
section
variable {sc sc':Scope} {env:Env} {lo lo':Lo} {A:Around} {R:Sems} {n:Nat} {f:Nat} {ρ ρ':Rh} {H H':Hp} {s s':Shared} {a D:Addr} {acc:List V}
theorem qD:("super" : Str)∈cg:=by decide +kernel
theorem qN {h:Heap} {r:Nat} {y:Value} {p:Addr×Addr} (ry:VR ρ H h (.ref r) y) (hp:ρ[r]?=some p):y=.ref p.1:=by
 refine VR.refE ry fun {q} e=>?_
 rw [Option.some.inj (e.symm.trans hp)]
set_option tactic.hygienic true in
theorem u7 {h:Heap} (X0:C.K.In h) {c:Addr} {cd:ClassData} (hcd:W.clsIn C.K c=some cd):∃ oD,h.get? c=some oD∧oD.data=.cls cd∧C.K.lookup c=some oD:=by
 unfold W.clsIn at hcd
 split at hcd
 ·rename_i c0 d0 cd0 sl0 hl0
  obtain rfl:=Option.some.inj hcd
  exact ⟨_,X0 _ _ hl0,rfl,hl0⟩
 ·exact nn hcd
theorem qr {f2:Addr} {T:Value} (ht:(C.K.lookup f2).map (·.cls)=some T):∃ of,C.K.lookup f2=some of∧of.cls=T:=by
 refine msE ht fun o h1 h2=>?_
 exact ⟨o,h1,h2⟩
theorem Fn.fnIn {a:Addr} {fd:FDef} (F:Fn C a fd):W.fnIn C.K a=true:=by
 refine vF F fun d2 as2 st2 m2' F2' _=>?_
 refine vG F2'.obj fun oc2 od2 sl2 h2=>?_
 unfold W.fnIn
 rw [h2]
theorem oB {i:Nat} {v u:V} (e:lk [(aJ,u)] i=some v):i=aJ∧v=u:=by
 rw [aA] at e
 by_cases q:i=aJ
 ·rw [if_pos q] at e;exact ⟨q,(Option.some.inj e).symm⟩
 ·rw [if_neg q] at e;exact nn e
theorem m5 {c a m2:Nat} {b2:List S} {d:FuncData} {ar:Arg} {p0 p1 ap pq p':Pos} {rest:List Stmt} {nn':Nat} {cc cda f2:Addr} (U:SupAt C c a m2 b2 d ar p0 p1 ap pq p' rest nn' cc cda f2) (K:C.K.In C.base) (S:St C ρ H s) {r:Nat} {p:Addr×Addr} (hp:ρ[r]?=some p) {h₀:Heap} {L:Addr} (hL0:s.heap.get? L=none)
  (hk₀:∀ b o,s.heap.get? b=some o→h₀.get? b=some o) (hns:h₀.Ns L fun x=>([(nm aJ,Value.ref p.1)]:List (Str×Value)).lookup x):EnvOK C d.scope (callEnv d L a) ρ H h₀ [(aJ,.ref r)]∧∀ q,Wr d.scope (callEnv d L a) q→s.heap.get? q=none:=by
 refine vG U.cell fun cl cld csl hcell=>?_
 have FL:=S.freshAt hL0
 have hccb:=K _ _ hcell
 have clsc:(callEnv d L a).cells.lookup ("__class__" : Str)=some cc:=by
  show d.closure.lookup _=_
  rw [U.clo];simp
 refine ⟨⟨U.kind,U.glob,U.blt,fun x hx=>hx,fun x hx=>absurd rfl (U.cells _ (lookup_mem hx)),fun x hx=>⟨.inr hx,?_⟩,fun x hx=>hx,⟨_,hns,fun i v hi hk=>?_⟩,fun i v hi hk=>?_,
  ⟨FL.own,fun x c0 hx e=>?_⟩,⟨FL.base,fun x c0 hx=>absurd rfl (U.cells _ (lookup_mem hx))⟩,fun x y c0 hx=>absurd rfl (U.cells _ (lookup_mem hx)),⟨FL.ne,FL.z⟩⟩,fun q w=>?_⟩
 ·rw [U.free x hx]
  exact ⟨cc,_,clsc,_,hk₀ _ _ (S.base _ _ hccb),rfl⟩
 ·have e:=oB hi
  rw [e.1,e.2]
  exact ⟨.ref p.1,by simp,.ref hp⟩
 ·rw [(oB hi).1,U.self] at hk
  refine Or.elim hk (fun hk=>?_) fun hk=>?_<;>cases hk
 ·refine Or.elim hx (fun hx=>?_) fun hx=>?_
  ·exact absurd rfl (U.cells _ (lookup_mem hx))
  ·intro q
   have:c0=cc:=by
    have e:d.closure.lookup x=some c0:=e
    rw [U.free x hx,U.clo] at e
    simpa using e.symm
   rw [this,] at q
   rw [S.own_new q] at hccb;exact nn hccb
 ·rcases w with e | ⟨x,hx,_⟩
  ·rw [e];exact hL0
  ·exact absurd rfl (U.cells _ (lookup_mem hx))
theorem vN (K:CfgOK C gG) {m:Nat} (EXm:iV C m (sem C.P m)) (EXt:iV C (m + 2) (sem C.P (m + 2))):qg C (m + 2) (sem C.P (m + 2)):=by
 intro c a f r H v H' hS hn h A s ρ p hdep hroom S hp RR k
 obtain ⟨c2,m2,b2,ms2,f2d,d,ar,p0,p1,ap,pq,p',rest,nn,cc,cda,f2,rfl,hms2,hf2d,F2,U⟩:=hS
 have hev:(sem C.P (m + 1)).ev (.sup c2 m2) [(aJ,.ref r)] H=cH (sem C.P m) f2d [.ref r] H:=by
  show ((lk [(aJ,V.ref r)] aJ).bind fun v=>(lk C.P.classes c2).bind fun ms=>(lk ms m2).bind fun f=>cH (sem C.P m) f [v] H)=_
  rw [aA,if_pos rfl,hms2]
  simp only [Option.bind_some,hf2d]
 refine bsE (show ((fJ C.P (sem C.P (m + 1)) (.expr (.sup c2 m2) :: b2) [(aJ,.ref r)] H).bind fun x=>x.1.out.map fun v=>(v,x.2.2))=some (v,H') from h) fun z hz hrun=>?_
 clear h
 refine b3E hz fun f1 lo1 H1 h1 h3=>?_
 clear hz
 refine mpE h1 fun w H1' hc h4=>?_
 clear h1
 rw [hev] at hc
 (refine du (nS h4) fun e1_ e2_ e3_=>?_;clear h4;subst e1_;subst e2_;subst e3_)
 have hb:(sem C.P (m + 2)).exs b2 [(aJ,.ref r)] H1'=some z:=h3
 clear h3
 ·obtain ⟨fl,lo',H2⟩:=z
  refine vG U.obj fun oc od sl hobj=>?_
  have X0:C.K.In s.heap:=K.X.keeps S.base
  have hg:=X0 _ _ hobj
  refine aw U.cdr fun hcode hh3_=>?_
  refine yH hh3_ fun ccl cdd vs ccs file tf hcda hvs hfile=>?_
  refine vG U.cell fun cl cld csl hcell=>?_
  refine ae U.isc fun cd hcd halong=>?_
  have hbind:bindArgs d ⟨[.ref p.1],[]⟩=pure [(nm aJ,.ref p.1)]:=by
   have:=gB (fd:=d) (as:=[ar]) (vals:=[.ref p.1]) U.params U.dflt rfl (by simp)
   simpa [U.arg] using this
  refine ks_codeAny_call_defAt (fd:=d) (binds:=[(nm aJ,.ref p.1)]) hdep hg rfl (K.lim.keeps S.base) (U.code.keeps S.base) U.body (BindsTo.of_eq hbind) U.cells (by
   intro x hx
   simp only [List.mem_singleton] at hx
   rw [hx];exact U.self) (fun h₀ hns hk₀=>?_) U.co U.gen U.kind
  refine aw (S.grow (s':={ s with heap:=h₀,toks:=s.toks + ([(nm aJ,Value.ref p.1)]:List (Str×Value)).length }) hk₀ rfl rfl) fun S₁ N₁=>?_
  have FR:=m5 U K.X S hp (ai s.heap) hk₀ hns
  have X₁:=FR.1
  have hW:=FR.2
  have clsc:(callEnv d s.heap.objs.size a).cells.lookup ("__class__" : Str)=some cc:=by
   show d.closure.lookup _=_
   rw [U.clo];simp
  have r2:=hroom (callEnv d s.heap.objs.size a)
  refine ks_wpAt_execs_cons (ks_wpAt_Expr_any ?_ (by unfold interactive;rw [X₁.kind];rfl) rfl)
  rw [arm_eval_Call]
  refine ay (u7 X0 hcd) fun oD hD1 hD2 hD3=>?_
  refine du (S.objs r _ p hn hp) fun hne hx1 hh1_=>?_
  refine aX hh1_ fun es n0 hx2 _=>?_
  have hpc:p.1≠C.cls c:=fun e=>Mini.Internal.nn ((S.new r p hp).1.symm.trans (e▸K.X _ _ hD3))
  refine ae (qr U.f2t) fun of hof1 hof2=>?_
  have hfn:=F2.fnIn
  refine PySem.wpAt_bind (ks_wpAt_super_base (f:=a) (cc:=cda) U.sup U.cls U.notc rfl (hk₀ _ _ hg) rfl (by rw [U.params];rfl) hcode (hk₀ _ _ (X0 _ _ hcda)) rfl hvs hfile U.top ?_)
  refine aD K X₁ S₁ U.sup qD ml ⟨rfl,?_⟩
  refine wpAny_loadName_free X₁.kind U.cls clsc ⟨_,hk₀ _ _ (X0 _ _ hcell),rfl⟩ ?_
  rw [U.arg]
  refine fy X₁ (i:=aJ) (v:=.ref r) (by show (_==_||_)=true;rw [U.self];rfl) (by decide +kernel) (by rw [aA,if_pos rfl]) fun y ry=>?_
  rw [show y=.ref p.1 from qN ry hp]
  refine ks_wpAny_isType_cls (hk₀ _ _ hD1) hD2 ⟨rfl,?_⟩
  refine ks_wpAny_call_super (hk₀ _ _ hD1) hD2 (hk₀ _ _ hx1) rfl (fun c0 e=>by cases e) (W.looks_mroIn (X0.keeps hk₀) U.sub) fun h1 hso hk1=>?_
  refine wpAt_of_wpAny (wpAny_bind (wpAny_standAt ?_))
  refine aw (S₁.grow (s':=⟨h1,s.gens,s.drawn,s.toks + ([(nm aJ,Value.ref p.1)]:List (Str×Value)).length,s.os⟩) hk1 rfl rfl) fun S₂ N₂=>?_
  have X2:C.K.In h1:=K.X.keeps S₂.base
  refine oy (f:=0) (sc:=d.scope) (es:=[]) (xs:=[]) rfl U.line rfl fun pl=>?_
  refine ks_wpAny_getMethod_super hso (W.looks_opaque X2 U.any) (l₀:=cd.mro) (fun A Q E s k q=>wpAny_bind ((W.looks_clsIn X2 hcd) A _ E s k (wpAny_pure q))) rfl X2 halong (X2 _ _ hof1) hof2 hpc U.notc ?_
  refine aw (S₂.grow (s':=⟨h1.push { cls:=.type "method",data:=.fields #[.ref f2,.ref p.1] },s.gens,s.drawn,s.toks + ([(nm aJ,Value.ref p.1)]:List (Str×Value)).length + 1,s.os⟩) (fun a o e=>Heap.get?_push_of_some _ e) rfl rfl) fun S₃ N₃=>?_
  refine W.callWith_M0 (K:=C.K) (g:=f2) (self:=.ref p.1) ⟨Heap.get?_push_size _ rfl,K.X.keeps S₃.base⟩ hfn ?_
  refine wpAny_call (ks_codeAny_call_bound (f:=f2) (x:=.ref p.1) (Heap.get?_push_size _ rfl) ?_)
  refine jF K EXm F2 hc (by have:=r2.2.1;(clear hso hfn hof2 hof1 hpc hx2 hx1 hne hD3 hD2 hD1 clsc hbind halong hcd hcell hfile hvs hcda hcode hg hobj hb hrun hc hev hf2d hms2 hp hdep hn;lia)) (fun env=>r2.dec.deep) S₃ (.cons (.ref hp) .nil) fun x s5 ρ5 S5 N5 rx=>?_
  have Nt:=(N₂.trans N₃).trans N5
  have X5:=X₁.next S₁ Nt
  refine wpAt_of_wpAny (EXt nn d.scope _ b2 rest _ H1' fl lo' H2 U.mt hb _ s5 ρ5 r2 S5 X5 _ _ fun fl' s6 ρ6 S6 N6 X6 q=>?_)
  have NN:=Nx.close (N₁.trans Nt) N6 hW (fun _ _ _ e=>e)
  induction q using Mini.Internal.FlR.casesOn with
  | nxt=>(refine aw (dS hrun) fun e1_ e2_=>?_;clear hrun;subst e1_;subst e2_);exact k _ _ _ S6 NN .none
  | cont=>cases hrun
  | ret rr=>(refine aw (dS hrun) fun e1_ e2_=>?_;clear hrun;subst e1_;subst e2_);exact k _ _ _ S6 NN rr
end
structure AllOK (C:Cfg) (n:Nat):Prop where
 ev:bJ C n (sem C.P n)
 tr:iU C n (sem C.P n)
 ex:iV C n (sem C.P n)
 cp:si C n (sem C.P n)
 so:qg C n (sem C.P n)
theorem jW {n:Nat} {R:Sems} (h:∀ c m b lo H,R.exs (.expr (.sup c m) :: b) lo H=Option.none):qg C n R:=by
 intro c a f r H v H' hS hn hc
 exfalso
 obtain ⟨c2,m2,b2,ms2,f2d,d,ar,p0,p1,ap,pq,p',rest,nn,cc,cda,f2,rfl,_⟩:=hS
 unfold cH at hc
 rw [h] at hc
 revert hc
 cases (Nat.beq [V.ref r].length [aJ].length)<;>intro hc<;>cases hc
theorem sound (K:CfgOK C gG):∀ n,AllOK C n:=by
 intro n
 induction n using Nat.strongRecOn with
 | ind n ih =>
  induction n using Nat.casesAuxOn with
  | zero =>
   refine ⟨?_,?_,?_,?_,jW fun _ _ _ _ _=>rfl⟩
   ·intro f sc env e x lo H v H' hm h;exact nn h
   ·intro f sc env e x lo H v H' hm h;exact nn h
   ·intro f sc env b xs lo H fl lo' H' hm h;exact nn h
   ·intro f sc env elt gens x lo H v H' hm h;exact nn h
  | succ n =>
   have I:=ih n (Nat.lt_succ_self n)
   have ev:bJ C (n + 1) (sem C.P (n + 1)):=uE K I.ev I.tr I.ex I.so I.cp rfl
   have ex:iV C (n + 1) (sem C.P (n + 1)):=uD K I.ev I.tr I.ex I.cp rfl
   refine ⟨ev,tB K I.ev I.tr rfl ev,ex,u5 K I.ev I.tr rfl,?_⟩
   induction n using Nat.casesAuxOn with
   | zero=>exact jW fun _ _ _ _ _=>rfl
   | succ m=>exact vN K (ih m (by lia)).ex ex
theorem vW (K:CfgOK C gG):Snd C:=fun _ _ _ F _ _ _ _ _ _ h r S rv=>jH K (sound K _).ex F h r S rv
end Mini.Internal
end
section
set_option autoImplicit false
namespace Mini.Internal
open PySem PySem.Calls PyProof.Rows
open PySem.W (Frag dictOf Looks findIn typeIn keepIn makesIn plainGet hasDictIn plainOver getL nsIn codeIn)
theorem bF {v:Value} {a:Addr} (h:i5 v=some a):v=.ref a:=by induction v using PySem.Value.casesOn<;>first | ((first | exact nn h | cases h);rfl) | exact nn h
theorem f9 {v:Value} {a:Str×Tok} (h:tv v=some a):v=.str a.1 a.2:=by induction v using PySem.Value.casesOn<;>first | ((first | exact nn h | (refine aw (dS h) fun e1_ e2_=>?_;clear h;subst e1_;subst e2_));rfl) | exact nn h
theorem k9 {v:Value} {a:Int×Tok} (h:vJ v=some a):v=.int a.1 a.2:=by induction v using PySem.Value.casesOn<;>first | ((first | exact nn h | (refine aw (dS h) fun e1_ e2_=>?_;clear h;subst e1_;subst e2_));rfl) | exact nn h
theorem i6 {v:Value} {a:Bool} (h:sq v=some a):v=.bool a:=by induction v using PySem.Value.casesOn<;>first | ((first | exact nn h | cases h);rfl) | exact nn h
theorem d6 {v:Value} (h:g5 v=true):v=.none:=by induction v using PySem.Value.casesOn<;>first | rfl | exact ff h
theorem ye {d:Data} {x:FuncData} (h:(dt d).fn=some x):d=.func x:=by induction d using PySem.Data.casesOn<;>first | ((first | exact nn h | cases h);rfl) | exact nn h
theorem xk {d:Data} {x:Array Value×Nat} (h:(dt d).seq=some x):d=.seq x.1 x.2:=by induction d using PySem.Data.casesOn<;>first | ((first | exact nn h | (refine aw (dS h) fun e1_ e2_=>?_;clear h;subst e1_;subst e2_));rfl) | exact nn h
theorem uV {d:Data} {x:Array Value} (h:(dt d).flds=some x):d=.fields x:=by induction d using PySem.Data.casesOn<;>first | ((first | exact nn h | cases h);rfl) | exact nn h
theorem uW {d:Data} {x:Option Value} (h:(dt d).cell=some x):d=.cell x:=by induction d using PySem.Data.casesOn<;>first | ((first | exact nn h | cases h);rfl) | exact nn h
theorem cU {α:Type} {o:Option α} {p:α→Bool} (h:o.any p=true):∃ x,o=some x∧p x=true:=by
 induction o using Option.casesOn with
 | none=>exact ff h
 | some x=>exact ⟨x,rfl,h⟩
theorem xD {K:Frag} {a:Addr} {d:FuncData} (h:at? K a (·.fn)=some d):∃ oc od sl,K.lookup a=some ⟨oc,od,.func d,sl⟩:=by
 refine bsE h fun o h1 h2=>?_
 exact ⟨o.cls,o.dict,o.slots,h1.trans (by rw [← ye h2])⟩
theorem vf {K:Frag} {h:Heap} (X:K.In h):(∀ (v:V) (f:Nat) (x:Value),kQ K f v x=true→VR .nil [] h v x)∧∀ (vs:List V) (f:Nat) (xs:List Value),jG K f vs xs=true→VRs .nil [] h vs xs:=by
 refine V.ind (fun f x e=>d6 e▸.none) (fun b f x e=>?_) (fun i f x e=>?_) (fun s f x e=>?_) (fun l ih f x e=>?_) (fun _ _ f x e=>ff e) (fun _ f x e=>ff e) (fun f xs e=>List.isEmpty_iff.mp e▸.nil) fun v vs a b f xs e=>?_
 ·refine ae (cU e) fun c h1 h2=>?_
  rw [i6 h1,← (beq_iff_eq.mp h2:b=c)]
  exact .bool _
 ·refine ae (cU e) fun t h1 h2=>?_
  rw [k9 h1,← (beq_iff_eq.mp h2:i=t.1)]
  exact .int _ _
 ·refine ae (cU e) fun t h1 h2=>?_
  rw [f9 h1,← (beq_iff_eq.mp h2:nm s=t.1)]
  exact .str _ _
 ·induction f using Nat.casesAuxOn with
  | zero=>exact ff e
  | succ f =>
   refine ae (cU e) fun a h1 h2=>ae (cU h2) fun o h3 h4=>ae (cU (aq h4)) fun q h5 h6=>?_
   rw [bF h1]
   exact .tup ⟨o,X _ _ h3,beq_iff_eq.mp (aj h4),q.2,xk h5⟩ List.not_mem_nil (ih f q.1.toList h6)
 ·induction xs using List.casesOn with
  | nil=>exact ff (aj e)
  | cons y xs=>exact .cons (a f y (aj e)) (b f xs (aq e))
theorem pG {K:Frag} {h:Heap} (X:K.In h) (f:Nat) (v:V) (x:Value) (e:kQ K f v x=true):VR .nil [] h v x:=(vf X).1 v f x e
theorem fk {p:Arguments} (h:gO p=true):p=⟨[],p.args,Option.none,[],[],Option.none,[]⟩:=by
 have a:=fY (aj h)
 have b:=fY (aq h)
 obtain ⟨p1,p2,p3,p4,p5,p6,p7⟩:=p
 obtain rfl:p1=[]:=List.isEmpty_iff.mp a.1
 obtain rfl:p3=Option.none:=Option.isNone_iff_eq_none.mp a.2.1
 obtain rfl:p4=[]:=List.isEmpty_iff.mp a.2.2
 obtain rfl:p5=[]:=List.isEmpty_iff.mp b.1
 obtain rfl:p6=Option.none:=Option.isNone_iff_eq_none.mp b.2.1
 obtain rfl:p7=[]:=List.isEmpty_iff.mp b.2.2
 rfl
theorem gz {b:FuncBody} {l:List Stmt} (h:vk b=some l):b=.stmts l:=by cases b<;>(first | exact nn h | cases h);rfl
theorem qR {l:List Nat} (h:l.Nodup):(l.map nm).Nodup:=by
 induction l with
 | nil=>exact List.nodup_nil
 | cons i l ih =>
  rw [List.nodup_cons] at h
  rw [List.map_cons,List.nodup_cons]
  refine ⟨fun hm=>?_,ih h.2⟩
  refine ae (List.mem_map.mp hm) fun j hj e=>?_
  exact h.1 (fp e▸hj)
theorem gA {b:Bool} (h:(!b)=true):b=false:=by induction b using Bool.casesOn;rfl;exact ff h
theorem eQ {C:Cfg} (X:C.K.In C.base) {a:Addr} {f:FDef} (h:pJ C.K a f=true):Fn C a f:=by
 refine ae (cU (aq h)) fun d hd h2=>?_
 have q:=fX h2
 have a1:=fX q.1
 have a2:=fX q.2.1
 have a3:=fX q.2.2.1
 have a4:=cB q.2.2.2
 refine ae (cU a4.2) fun st hb hm=>?_
 refine ⟨d,d.params.args,st,60,⟨xD hd,aj h,fk a1.1,beq_iff_eq.mp a1.2.1,qR (cJ a1.2.2.1),d6 a1.2.2.2,gz hb,beq_iff_eq.mp a2.1,beq_iff_eq.mp a2.2.1,beq_iff_eq.mp a2.2.2.1,gA a2.2.2.2,gA a3.1,W.codeRec_of X a3.2.1,fun x hx=>?_,hm⟩,List.isEmpty_iff.mp a3.2.2.2,fun x hx=>?_⟩
 ·refine ae (List.mem_map.mp hx) fun i hi hh1_=>?_
  subst hh1_
  exact ((Bool.or_eq_true _ _).mp (List.all_eq_true.mp a3.2.2.1 i hi)).imp beq_iff_eq.mp beq_iff_eq.mp
 ·cases List.all_eq_true.mp a4.1 _ (lookup_mem hx)
end Mini.Internal
end
section
set_option autoImplicit false
namespace Mini.Internal
open PySem PySem.Calls PyProof.Rows
open PySem.W (Frag dictOf Looks findIn typeIn keepIn makesIn plainGet hasDictIn plainOver getL nsIn codeIn clsIn alongIn mroIn)
theorem eV {α:Type} {l:List α} {x:α} (h:xI l=some x):l=[x]:=by
 induction l using List.casesOn with
 | nil=>exact nn h
 | cons a l=>induction l using List.casesOn<;>(first | exact nn h | cases h);rfl
theorem iP {α:Type} {l:List α} {x:α×List α} (h:yh l=some x):l=x.1 :: x.2:=by induction l using List.casesOn<;>(first | exact nn h | (refine aw (dS h) fun e1_ e2_=>?_;clear h;subst e1_;subst e2_));rfl
theorem m7 {s:S} {x:Nat×Nat} (h:s.sup?=some x):s=.expr (.sup x.1 x.2):=by
 cases s with
 | expr e=>cases e<;>first | ((first | exact nn h | (refine aw (dS h) fun e1_ e2_=>?_;clear h;subst e1_;subst e2_));rfl) | exact nn h
 | _=>exact nn h
theorem pM {e:Expr} (h:Nat.beq (pt e).k 11=true) (g:(pt e).l.isEmpty=true):e=.Call (pt e).a [] [] (pt e).p:=(bp h).trans (by show Expr.Call _ (pt e).l [] _=_;rw [List.isEmpty_iff.mp g])
theorem lz {m:Nat} {x:Stmt} (h:m6 m x=true):∃ p0 p1 ap p p',x=.Expr (.Call (.Attribute (.Call (.Name "super" p0) [] [] p1) (nm m) ap) [] [] p) p'∧(ap.endLine==p.line)=true:=by
 have h0:=sA x
 rw [Nat.eq_of_beq_eq_true (aj h)] at h0
 replace h0:x=.Expr (sp x).a (sp x).p:=h0
 have h:=aq h
 have h1:=pM (aj h) (aj (aq h))
 have h:=aq (aq h)
 have h2:_=Expr.Attribute (pt (pt (sp x).a).a).a (pt (pt (sp x).a).a).s (pt (pt (sp x).a).a).p:=bp (aj h)
 have h:=aq h
 have e1:(pt (pt (sp x).a).a).s=nm m:=beq_iff_eq.mp (aj h)
 have h:=aq h
 have hl:=aj h
 have h:=aq h
 have h3:=pM (aj h) (aj (aq h))
 have h:=aq (aq h)
 have h4:_=Expr.Name (pt (pt (pt (pt (sp x).a).a).a).a).s (pt (pt (pt (pt (sp x).a).a).a).a).p:=bp (aj h)
 rw [(beq_iff_eq.mp (aq h):(pt (pt (pt (pt (sp x).a).a).a).a).s = "super")] at h4
 rw [e1] at h2
 exact ⟨_,_,_,_,_,h0.trans (congrArg (fun e=>Stmt.Expr e (sp x).p) (h1.trans (congrArg (fun e=>Expr.Call e [] [] (pt (sp x).a).p) (h2.trans (congrArg (fun e=>Expr.Attribute e (nm m) (pt (pt (sp x).a).a).p) (h3.trans (congrArg (fun e=>Expr.Call e [] [] (pt (pt (pt (sp x).a).a).a).p) h4))))))),hl⟩
theorem mj {K:Frag} {cc a:Addr} (h:pL K cc a=true):∃ cl cld csl,K.lookup cc=some ⟨cl,cld,.cell (some (.ref a)),csl⟩:=by
 refine ae (cU h) fun v h1 ha=>?_
 refine ae (cU ha) fun x e hb=>?_
 refine ae (cU hb) fun b h2 hc=>?_
 refine bsE h1 fun o h3 h4=>?_
 rw [e,bF h2,(beq_iff_eq.mp hc:b=a)] at h4
 exact ⟨o.cls,o.dict,o.slots,h3.trans (by rw [← uW h4])⟩
theorem mh {prog:Program} {K:Frag} {v:Value} (h:pK prog K v=true):∃ cda,v=.ref cda∧∃ ccl cdd vs ccs file tf,K.lookup cda=some ⟨ccl,cdd,.fields vs,ccs⟩∧vs[2]?=some (.str file tf)∧((prog.main.file:Str)==file)=true:=by
 refine ae (cU h) fun a h1 h=>?_
 refine ae (cU h) fun vs h2 h=>?_
 refine ae (cU h) fun w h3 h=>?_
 refine ae (cU h) fun f h4 h=>?_
 refine bsE h2 fun o h5 h6=>?_
 exact ⟨a,bF h1,o.cls,o.dict,vs,o.slots,f.1,f.2,h5.trans (by rw [← uV h6]),h3.trans (congrArg some (f9 h4)),h⟩
theorem pH {C:Cfg} (X:C.K.In C.base) {c:Nat} {a:Addr} {f:FDef} (h:sY C.prog C.K C.P (C.cls c) a f=true):Sup C c a f:=by
 refine ae (cU (aj h)) fun i hi h1=>?_
 refine ae (cU (aq h)) fun b hb h=>?_
 refine ae (cU h) fun x hx h=>?_
 refine ae (cU h) fun d hd h=>?_
 have q:=fX h
 have a1:=fX q.1
 have a2:=fX q.2.1
 have a3:=fX q.2.2.1
 have a4:=fY q.2.2.2
 have a5:=fX a4.1
 have a6:=fX a4.2.1
 refine ae (cU a6.2.1) fun ar har h3=>?_
 refine ae (cU a6.2.2.1) fun cl hcl h4=>?_
 refine ae (cU a6.2.2.2) fun st hst h5=>?_
 refine ae (cU h5) fun y hy h6=>?_
 refine yI (lz (aj h6)) fun p0 p1 ap p p' e hl=>?_
 refine ae (cU a4.2.2) fun cd hcd h7=>?_
 refine ae (cU h7) fun v hv h8=>?_
 refine ae (cU h8) fun w hw h9=>?_
 refine ae (cU h9) fun f2 hf2 h10=>?_
 have g:=fY h10
 refine ae (cU g.2.2) fun ms2 hms h11=>?_
 refine ae (cU h11) fun f2d hfd h12=>?_
 refine aG (mh a5.1) fun cda hc=>?_
 refine ⟨x.1,x.2,b.2,ms2,f2d,d,ar,p0,p1,ap,p,p',y.2,60,cl.2,cda,f2,?_,hms,hfd,eQ X h12,⟨xD hd,?_,beq_iff_eq.mp h3,d6 a1.2.1,beq_iff_eq.mp a1.2.2.1,beq_iff_eq.mp a1.2.2.2,beq_iff_eq.mp a2.1,gA a2.2.1,gA a2.2.2.1,W.codeRec_of X a2.2.2.2,?_,?_,hl,aq h6,
  beq_iff_eq.mp a3.1,beq_iff_eq.mp a3.2.1,beq_iff_eq.mp a3.2.2.1,fun z hz e=>?_,fun z hz=>?_,mj (aq h4),hc,⟨cd,hcd,?_⟩,beq_iff_eq.mp g.1,g.2.1,beq_iff_eq.mp a5.2.1,gA a5.2.2.1,beq_iff_eq.mp a5.2.2.2,gA a6.1⟩⟩
 ·have e1:=eV hi
  rw [Nat.eq_of_beq_eq_true h1] at e1
  have e2:=iP hb
  rw [m7 hx] at e2
  show FDef.mk f.params f.body=_
  rw [e1,e2]
 ·exact (fk a1.1).trans (by rw [eV har])
 ·exact (eV hcl).trans (by rw [← (beq_iff_eq.mp (aj h4):cl.1=("__class__" : Str))])
 ·rw [gz hst,iP hy,e]
 ·have:=aj (List.all_eq_true.mp a3.2.2.2 z hz)
  rw [e] at this;exact ff this
 ·exact beq_iff_eq.mp (aq (List.all_eq_true.mp a3.2.2.2 _ (lookup_mem hz)))
 ·rw [hv,hw,bF hf2]
theorem gm {K:Frag} {i:Nat} {a:Addr} (h:qV K i=some a):nsIn K mainGlobals (nm i)=some (some (.ref a)):=by
 (refine bsE h fun v h1 hh_=>?_;clear h;revert hh_;intro h)
 (refine bsE h fun w h2 hh_=>?_;clear h;revert hh_;intro h)
 rw [h1,h2,bF h]
theorem gw {K:Frag} {c a:Addr} {x:Str} (h:uz K c x=some a):findIn K (.ref c) x=some (some (.ref a)):=by
 (refine bsE h fun v h1 hh_=>?_;clear h;revert hh_;intro h)
 (refine bsE h fun w h2 hh_=>?_;clear h;revert hh_;intro h)
 rw [h1,h2,bF h]
theorem gp {α:Type}:∀ {l:List (Nat×α)} {i:Nat} {v:α},lk l i=some v→(i,v)∈l
 | [],_,_,h=>by simp [lk] at h
 | (j,w) :: r,i,v,h=>by
  rw [aA] at h
  by_cases e:i=j
  ·rw [if_pos e] at h;cases h;rw [e];exact List.mem_cons_self
  ·rw [if_neg e] at h;exact List.mem_cons_of_mem _ (gp h)
theorem cfg_ok {C:Cfg} {G:Glo} (hcls:C.cls=clsOf C.K) (X:C.K.In C.base) (hs:(C.base.get? sysModules).isSome=true) (lim:C.base.NoLimit) (g:C.base.Ns mainGlobals G.mg) (b:C.base.Ns builtinsNs G.mb) (hb:∀ x:Str,x≠"__name__"→G.mb x=bootBuiltins x)
  (h:chkAll C.prog C.K C.P=true):CfgOK C G:=by
 have h:=fX h
 refine ⟨X,lim,g,b,hs,fun i v e=>?_,fun i f e=>?_,fun c ms e=>?_,fun x hx=>?_⟩
 ·refine ae (cU (List.all_eq_true.mp h.1 _ (gp e))) fun x h1 h2=>?_
  refine ae (cU h2) fun y e2 h3=>?_
  exact ⟨y,W.mg_of X g (h1.trans (congrArg some e2)),pG X _ _ _ h3⟩
 ·refine ae (cU (List.all_eq_true.mp h.2.1 _ (gp e))) fun a h1 h2=>?_
  exact ⟨a,W.mg_of X g (gm h1),eQ X h2⟩
 ·have ec:clsOf C.K c=C.cls c:=by rw [hcls]
  have h1:=List.all_eq_true.mp h.2.2.1 _ (gp e)
  unfold sZ at h1
  rw [show clsOf C.K (c,ms).1=C.cls c from ec] at h1
  have q:=fY h1
  have a1:=fX q.1
  have a2:=fX q.2.1
  have a3:=cB q.2.2
  refine ae (cU a1.1) fun a h2 h3=>?_
  have h4:=gm h2
  rw [(beq_iff_eq.mp h3:a=C.cls c)] at h4
  refine ⟨W.mg_of X g h4,a1.2.1,a1.2.2.1,fun _=>a1.2.2.2,a2.1,beq_iff_eq.mp a2.2.1,a2.2.2.1,fun a ha=>beq_iff_eq.mp (List.all_eq_true.mp a2.2.2.2 a ha),fun m f e=>?_,fun f e=>?_⟩
  ·refine ae (cU (List.all_eq_true.mp a3.1 _ (gp e))) fun a h5 h6=>?_
   exact ⟨a,gw h5,beq_iff_eq.mp (aj h6),((Bool.or_eq_true _ _).mp (aq h6)).elim (fun z=>.inr (Nat.eq_of_beq_eq_true z)) fun z=>.inl (eQ X z)⟩
  ·refine ae (cU (show pI C.prog C.K C.P (C.cls c) f=true from List.all_eq_true.mp a3.2 _ (gp e))) fun a h5 h6=>?_
   exact ⟨a,gw h5,beq_iff_eq.mp (aj h6),((Bool.or_eq_true _ _).mp (aq h6)).imp (eQ X) (pH X)⟩
 ·refine ⟨W.mg_none_of X g (beq_iff_eq.mp (List.all_eq_true.mp h.2.2.2 x hx)),hb x ?_⟩
  rintro rfl
  exact absurd hx (by decide +kernel)
end Mini.Internal
end
section
namespace Mini.Internal
open PySem PySem.W PyProof.Rows
set_option autoImplicit false
theorem St.start {C:Cfg} {s:Shared} (hb:C.base=s.heap) (ho:C.os=s.os) (hg:s.gens = #[]):St C .nil [] s :=
 {base:=fun a o e=>by rw [← hb];exact e
  gens:=hg
  os:=ho.symm
  len:=rfl
  objs:=fun i o p h=>by simp at h
  apart:=fun i j p q h=>by cases (show (none:Option (Addr×Addr))=some p from h)
  new:=fun i p h=>by cases (show (none:Option (Addr×Addr))=some p from h)
  hid:=fun a h=>by cases h
  zap:=fun a h=>by cases h
  here:=fun i p h=>by cases (show (none:Option (Addr×Addr))=some p from h) }
theorem join {C:Cfg} {G:Glo} (K:CfgOK C G) {n:Nat} {fd:FDef} {fa:Addr} (F:Fn C fa fd) {vs:List V} {ys:List Value} {H':Hp} {s:Shared} {E:Value→Shared→Prop} (hb:C.base=s.heap) (ho:C.os=s.os) (hg:s.gens = #[])
  (h:cH (sem C.P n) fd vs []=some (.bool true,H')) (r:aS (n + 1) callerA) (rv:VRs .nil [] s.heap vs ys) {c:ClaimW} {cl:Str→Option Addr} {mean:ExcName→Option Value} {args:List WData}
  (hr:∀ k,c.raises args k=false) (hp:c.post args (ofPy (.bool true)) args=true) :
  wpAny (model C.prog C.w) callerA (call (.ref fa) ys) (fun v s'=>GoodWG c cl mean args s (.ok (.ret v)) s') E s :=
 tS vW K _ _ _ F _ _ _ _ _ _ h r (.start hb ho hg) rv _ _ fun v s' ρ' S' N R=>by
  refine VR.boolE R ?_
  refine ⟨.inl ⟨_,ofPy (.bool true),[],rfl,hr,?_,hp,fun _=>⟨List.nodup_nil,fun a h=>by cases h⟩⟩,.of_keep fun b o e=>S'.base b o (by rw [hb];exact e),S'.os.trans ho,.of_eq ?_⟩
  ·exact .bool _
  ·exact S'.gens
end Mini.Internal
end
section
set_option autoImplicit false
namespace Mini.Internal
section
variable {α β:Type}
theorem bnd {x:Option α} {a:α} {f:α→Option β} {r:Option β} (h:x=some a) (k:f a=r):x.bind f=r:=by subst h;exact k
theorem mpd {x:Option α} {a:α} {f:α→β} {b:β} (h:x=some a) (k:f a=b):x.map f=some b:=by subst h;exact congrArg some k
theorem btt {b:Bool} {x y r:α} (h:b=true) (k:x=r):(bif b then x else y)=r:=by subst h;exact k
theorem bff {b:Bool} {x y r:α} (h:b=false) (k:y=r):(bif b then x else y)=r:=by subst h;exact k
end
structure Ev (P:Prog) (n:Nat) (l:E) (ρ:Lo) (H:Hp) (v:V) (H':Hp):Prop where
 h:(sem P n).ev l ρ H=some (v,H')
structure Es (P:Prog) (n:Nat) (l:List E) (ρ:Lo) (H:Hp) (v:List V) (H':Hp):Prop where
 h:evs (sem P n) l ρ H=some (v,H')
structure Xs (P:Prog) (n:Nat) (l:List S) (ρ:Lo) (H:Hp) (f:Fl) (ρ':Lo) (H':Hp):Prop where
 h:(sem P n).exs l ρ H=some (f,ρ',H')
structure Ca (P:Prog) (n:Nat) (f:FDef) (a:List V) (H:Hp) (v:V) (H':Hp):Prop where
 h:cH (sem P n) f a H=some (v,H')
structure It (P:Prog) (n:Nat) (l:E) (ρ:Lo) (H:Hp) (v:List V) (H':Hp):Prop where
 h:rK (sem P n) l ρ H=some (v,H')
structure It1 (P:Prog) (n:Nat) (l:E) (ρ:Lo) (H:Hp) (v:List V) (H':Hp):Prop where
 h:lV (sem P n) l ρ H=some (v,H')
structure Lk (ρ:Lo) (i:Nat) (v:V):Prop where
 h:lk ρ i=some v
theorem kh (l:List Nat):∀ (ρ:Lo) (j:Nat),l.any (Nat.beq j)=false→lk (gu l ρ) j=lk ρ j
 | [],j,h=>rfl
 | (k,w) :: r,j,h=>by
  have ih:=kh l r j h
  unfold gu at *
  by_cases e:j=k
  ·subst e
   rw [List.filter_cons_of_pos (p:=fun p:Nat×V=>!(l.any (Nat.beq p.1))) (by simp only [h,Bool.not_false]),aA,aA,if_pos rfl,if_pos rfl]
  ·rw [aA,if_neg e,← ih]
   by_cases q:(!(l.any (Nat.beq k)))=true
   ·rw [List.filter_cons_of_pos (p:=fun p:Nat×V=>!(l.any (Nat.beq p.1))) q,aA,if_neg e]
   ·rw [List.filter_cons_of_neg (p:=fun p:Nat×V=>!(l.any (Nat.beq p.1))) q]
theorem lke_same {ρ:Lo} {i:Nat} {v:V}:Lk (ak ρ i v) i v:=⟨by rw [cM,if_pos rfl]⟩
theorem lke_skip {ρ:Lo} {i j:Nat} {v w:V} (h:Nat.beq j i=false) (g:Lk ρ j v):Lk (ak ρ i w) j v:=⟨by rw [cM,if_neg (Nat.ne_of_beq_eq_false h)];exact g.h⟩
theorem lke_del {ρ:Lo} {l:List Nat} {j:Nat} {v:V} (h:l.any (Nat.beq j)=false) (g:Lk ρ j v):Lk (gu l ρ) j v:=⟨by rw [kh l ρ j h];exact g.h⟩
theorem lke_base {ρ:Lo} {j:Nat} {v:V} (h:lk ρ j=some v):Lk ρ j v:=⟨h⟩
section
variable {P:Prog} {n:Nat} {ρ ρ1 ρ':Lo} {H H1 H2 H3 H':Hp}
theorem es_nil:Es P n [] ρ H [] H:=⟨rfl⟩
theorem es_cons {e:E} {es:List E} {v:V} {vs:List V} (a:Ev P n e ρ H v H1) (b:Es P n es ρ H1 vs H2):Es P n (e :: es) ρ H (v :: vs) H2:=⟨bnd a.h (bnd b.h rfl)⟩
theorem es1 {R:Sems} {e:E} {v:V} (h:R.ev e ρ H=some (v,H1)):evs R [e] ρ H=some ([v],H1):=bnd h rfl
theorem es2 {R:Sems} {e f:E} {v w:V} (h:R.ev e ρ H=some (v,H1)) (g:R.ev f ρ H1=some (w,H2)):evs R [e,f] ρ H=some ([v,w],H2):=bnd h (bnd (es1 g) rfl)
theorem e_none:Ev P (n+1) .none ρ H .none H:=⟨rfl⟩
theorem e_num {i:Int}:Ev P (n+1) (.num i) ρ H (.int i) H:=⟨rfl⟩
theorem e_str {s:Nat}:Ev P (n+1) (.str s) ρ H (.str s) H:=⟨rfl⟩
theorem ag {i:Nat} {v:V} (h:lk ρ i=some v):Ev P (n+1) (.var i) ρ H v H:=⟨mpd h rfl⟩
theorem e_var' {i:Nat} {v:V} (h:Lk ρ i v):Ev P (n+1) (.var i) ρ H v H:=ag h.h
theorem e_cst {i:Nat} {v:V} (h:lk P.consts i=some v):Ev P (n+1) (.cst i) ρ H v H:=⟨mpd h rfl⟩
theorem e_not {a:E} {b c:Bool} (h:Ev P n a ρ H (.bool b) H1) (q:(!b)=c):Ev P (n+1) (.not a) ρ H (.bool c) H1:=⟨bnd h.h (congrArg (fun c=>some (V.bool c,H1)) q)⟩
theorem e_neg {a:E} {i:Int} (h:Ev P n a ρ H (.int i) H1):Ev P (n+1) (.neg a) ρ H (.int (-i)) H1:=⟨bnd h.h rfl⟩
theorem e_bin {op:Bop} {a b:E} {x y v:V} (h:Ev P n a ρ H x H1) (g:Ev P n b ρ H1 y H2) (q:fV op x y=some v):Ev P (n+1) (.bin op a b) ρ H v H2:=⟨bnd h.h (bnd g.h (mpd q rfl))⟩
theorem uS {c a b:E} {d:Bool} {v:V} (h:Ev P n c ρ H (.bool d) H1) (q:d=true) (g:Ev P n a ρ H1 v H2):Ev P (n+1) (.ite c a b) ρ H v H2:=⟨bnd h.h (btt q g.h)⟩
theorem uT {c a b:E} {d:Bool} {v:V} (h:Ev P n c ρ H (.bool d) H1) (q:d=false) (g:Ev P n b ρ H1 v H2):Ev P (n+1) (.ite c a b) ρ H v H2:=⟨bnd h.h (bff q g.h)⟩
theorem e_tup {l:List E} {vs:List V} (h:Es P n l ρ H vs H1) (q:ax vs.length=true):Ev P (n+1) (.tup l) ρ H (.tup vs) H1:=⟨bnd h.h (btt q rfl)⟩
theorem e_list {l:List E} {vs:List V} (h:Es P n l ρ H vs H1) (q:ax vs.length=true):Ev P (n+1) (.list false l) ρ H (.lst vs) H1:=⟨bnd h.h (btt q rfl)⟩
theorem jB {l:List E} {vs:List V} (h:Es P n l ρ H vs H1) (q:ax vs.length=true):Ev P (n+1) (.list true l) ρ H (.ref H1.length) (H1++[.list vs]):=⟨bnd h.h (btt q rfl)⟩
theorem e_cmp {a e:E} {o:Cop} {x y:V} {b:Bool} (h:Ev P n a ρ H x H1) (g:Ev P n e ρ H1 y H2) (q:cop o H2 x y=some b):Ev P (n+1) (.cmp a [o] [e]) ρ H (.bool b) H2:=⟨bnd h.h (bnd g.h (bnd q (by cases b<;>rfl)))⟩
theorem e_cmp2 {a e g:E} {o o2:Cop} {x y z:V} {b c:Bool} (h:Ev P n a ρ H x H1) (k:Ev P n e ρ H1 y H2) (q:cop o H2 x y=some b) (t:b=true) (m:Ev P n g ρ H2 z H3) (q2:cop o2 H3 y z=some c):Ev P (n+1) (.cmp a [o,o2] [e,g]) ρ H (.bool c) H3:=⟨bnd h.h (bnd k.h (bnd q (btt (by rw [t];rfl) (bnd m.h (bnd q2 (by cases c<;>rfl))))))⟩
theorem xi {a e g d:E} {o o2 o3:Cop} {x y z u:V} {b c r:Bool} {H4:Hp} (h:Ev P n a ρ H x H1) (k:Ev P n e ρ H1 y H2) (q:cop o H2 x y=some b) (t:b=true) (m:Ev P n g ρ H2 z H3) (q2:cop o2 H3 y z=some c) (t2:c=true) (m2:Ev P n d ρ H3 u H4) (q3:cop o3 H4 z u=some r):Ev P (n+1) (.cmp a [o,o2,o3] [e,g,d]) ρ H (.bool r) H4:=⟨bnd h.h (bnd k.h (bnd q (btt (by rw [t];rfl) (bnd m.h (bnd q2 (btt (by rw [t2];rfl) (bnd m2.h (bnd q3 (by cases r<;>rfl)))))))))⟩
theorem xg {e f:E} {es:List E} {b:Bool} (h:Ev P n e ρ H (.bool b) H1) (q:b=true):Ev P (n+1) (.or (e :: f :: es)) ρ H (.bool true) H1:=⟨bnd h.h (btt q rfl)⟩
theorem xh {e f:E} {es:List E} {b:Bool} {v:V} (h:Ev P n e ρ H (.bool b) H1) (q:b=false) (g:Ev P (n+1) (.or (f :: es)) ρ H1 v H2):Ev P (n+1) (.or (e :: f :: es)) ρ H v H2:=⟨bnd h.h (bff q g.h)⟩
theorem e_or_1 {e:E} {v:V} (h:Ev P n e ρ H v H1):Ev P (n+1) (.or [e]) ρ H v H1:=⟨h.1⟩
theorem e_call {f:Nat} {fd:FDef} {args:List E} {vs:List V} {v:V} (l:lk P.funs f=some fd) (h:Es P n args ρ H vs H1) (c:Ca P n fd vs H1 v H2):Ev P (n+1) (.call f args) ρ H v H2:=⟨bnd l (bnd h.h c.h)⟩
theorem e_meth {o:E} {m r c:Nat} {l:List (Nat×V)} {ms:List (Nat×FDef)} {fd:FDef} {args:List E} {vs:List V} {v:V} (ho:Ev P n o ρ H (.ref r) H1) (ob:nth H1 r=some (.inst c l)) (nl:(lk l m).isSome=false) (hc:lk P.classes c=some ms) (hm:lk ms m=some fd)
  (h:Es P n args ρ H1 vs H2) (k:Ca P n fd (.ref r :: vs) H2 v H3):Ev P (n+1) (.meth o m args) ρ H v H3:=⟨bnd ho.h (bnd rfl (bnd ob (bff nl (bnd hc (bnd hm (bnd h.h k.h))))))⟩
theorem e_append {o:E} {r:Nat} {a:E} {l l2:List V} {v:V} (ho:Ev P n o ρ H (.ref r) H1) (ob:nth H1 r=some (.list l)) (h:Ev P n a ρ H1 v H2) (ob2:nth H2 r=some (.list l2)) (k:ax l2.length=true) :
  Ev P (n+1) (.meth o 110425311047777 [a]) ρ H .none (H2.set r (.list (l2++[v]))):=⟨bnd ho.h (bnd rfl (bnd ob (bnd (es1 h.h) (bnd ob2 (btt rfl (bnd rfl (btt k rfl)))))))⟩
theorem e_getT {o k d:E} {r:Nat} {l:List (V×V)} {kv dv v:V} (ho:Ev P n o ρ H (.ref r) H1) (ob:nth H1 r=some (.dT l)) (hk:Ev P n k ρ H1 kv H2) (hd:Ev P n d ρ H2 dv H3) (ob2:nth H3 r=some (.dT l)) (q:kv.isKey=true) (g:(getT l kv).getD dv=v) :
  Ev P (n+1) (.meth o 7628135 [k,d]) ρ H v H3:=⟨bnd ho.h (bnd rfl (bnd ob (bnd (es2 hk.h hd.h) (bnd ob2 (btt rfl (bnd rfl (mpd (btt q (congrArg some g)) rfl)))))))⟩
theorem e_attr {o:E} {a r c:Nat} {l:List (Nat×V)} {v:V} (ho:Ev P n o ρ H (.ref r) H1) (ob:nth H1 r=some (.inst c l)) (q:(P.attrs.any (Nat.beq a)&&(lk P.classes c).isSome)=true) (g:lk l a=some v):Ev P (n+1) (.attr o a) ρ H v H1:=⟨bnd ho.h (bnd rfl (bnd ob (bnd rfl (btt q (mpd g rfl)))))⟩
theorem e_sub {o i:E} {x y v:V} (h:Ev P n o ρ H x H1) (g:Ev P n i ρ H1 y H2) (q:dR H2 x y=some v):Ev P (n+1) (.sub o i) ρ H v H2:=⟨bnd h.h (bnd g.h (mpd q rfl))⟩
theorem e_bi {b:Bi} {l:List E} {vs:List V} {v:V} (h:Es P n l ρ H vs H1) (q:aP b vs H1=some (v,H2)):Ev P (n+1) (.bi b l) ρ H v H2:=⟨bnd h.h q⟩
theorem hP {f:FDef} {a:List V} {v:V} (l:Nat.beq a.length f.params.length=true) (h:Xs P n f.body (f.params.zip a) H (.ret v) ρ' H'):Ca P n f a H v H':=⟨btt l (bnd h.h rfl)⟩
theorem yl {f:FDef} {a:List V} (l:Nat.beq a.length f.params.length=true) (h:Xs P n f.body (f.params.zip a) H .nxt ρ' H'):Ca P n f a H .none H':=⟨btt l (bnd h.h rfl)⟩
theorem x_nil:Xs P (n+1) [] ρ H .nxt ρ H:=⟨rfl⟩
theorem x_expr {e:E} {r:List S} {v:V} {f:Fl} (h:Ev P n e ρ H v H1) (g:Xs P (n+1) r ρ H1 f ρ' H'):Xs P (n+1) (.expr e :: r) ρ H f ρ' H':=⟨bnd (mpd h.h rfl) g.h⟩
theorem x_ret {e:E} {r:List S} {v:V} (h:Ev P n e ρ H v H1):Xs P (n+1) (.ret e :: r) ρ H (.ret v) ρ H1:=⟨bnd (mpd h.h rfl) rfl⟩
theorem tq {t:T} {e:E} {r:List S} {v:V} {f:Fl} (h:Ev P n e ρ H v H1) (a:xF P (sem P n) t v ρ H1=some (ρ1,H2)) (g:Xs P (n+1) r ρ1 H2 f ρ' H'):Xs P (n+1) (.asg t e :: r) ρ H f ρ' H':=⟨bnd (bnd h.h (mpd a rfl)) g.h⟩
theorem x_asgv {i:Nat} {e:E} {r:List S} {v:V} {f:Fl} (h:Ev P n e ρ H v H1) (g:Xs P (n+1) r (ak ρ i v) H1 f ρ' H'):Xs P (n+1) (.asg (.var i) e :: r) ρ H f ρ' H':=tq h rfl g
theorem x_asgt {l:List Nat} {e:E} {r:List S} {v:V} {f:Fl} (h:Ev P n e ρ H v H1) (a:eh (.tup l) v ρ=some ρ1) (g:Xs P (n+1) r ρ1 H1 f ρ' H'):Xs P (n+1) (.asg (.tup l) e :: r) ρ H f ρ' H':=tq h (mpd a rfl) g
theorem x_asgs {o i e:E} {r:List S} {v ov iv:V} {f:Fl} {H4:Hp} (h:Ev P n e ρ H v H1) (a:Ev P n o ρ H1 ov H2) (b:Ev P n i ρ H2 iv H3) (s:bR H3 ov iv v=some H4) (g:Xs P (n+1) r ρ H4 f ρ' H') :
  Xs P (n+1) (.asg (.sub o i) e :: r) ρ H f ρ' H':=tq h (bnd a.h (bnd b.h (mpd s rfl))) g
theorem mH {c:E} {a b r:List S} {d:Bool} {v:V} (h:Ev P n c ρ H (.bool d) H1) (q:d=true) (g:Xs P n a ρ H1 (.ret v) ρ' H'):Xs P (n+1) (.ifs c a b :: r) ρ H (.ret v) ρ' H':=⟨bnd (bnd h.h (btt q g.h)) rfl⟩
theorem eT {c:E} {a b r:List S} {d:Bool} {f:Fl} (h:Ev P n c ρ H (.bool d) H1) (q:d=true) (g:Xs P n a ρ H1 .nxt ρ1 H2) (k:Xs P (n+1) r ρ1 H2 f ρ' H'):Xs P (n+1) (.ifs c a b :: r) ρ H f ρ' H':=⟨bnd (bnd h.h (btt q g.h)) k.h⟩
theorem eU {c:E} {a r:List S} {d:Bool} {f:Fl} (h:Ev P (n+1) c ρ H (.bool d) H1) (q:d=false) (k:Xs P (n+2) r ρ H1 f ρ' H'):Xs P (n+2) (.ifs c a [] :: r) ρ H f ρ' H':=⟨bnd (bnd h.h (bff q rfl)) k.h⟩
theorem b6 {c:E} {a b r:List S} {d:Bool} {f:Fl} (h:Ev P n c ρ H (.bool d) H1) (q:d=false) (g:Xs P n b ρ H1 .nxt ρ1 H2) (k:Xs P (n+1) r ρ1 H2 f ρ' H'):Xs P (n+1) (.ifs c a b :: r) ρ H f ρ' H':=⟨bnd (bnd h.h (bff q g.h)) k.h⟩
theorem xH {t:T} {e:E} {b r:List S} {vs:List V} {f:Fl} (i:It P n e ρ H vs H1) (l:fT (sem P n) t b vs ρ H1=some (.nxt,ρ1,H2)) (k:Xs P (n+1) r ρ1 H2 f ρ' H'):Xs P (n+1) (.fr t e b :: r) ρ H f ρ' H':=⟨bnd (bnd i.h l) k.h⟩
theorem yA {R:Sems} {c:E} {b:List S}:kG P R (.whl c b) ρ H=cF R c b turns ρ H:=rfl
theorem kF {s:S} {r:List S}:(sem P (n+1)).exs (s :: r) ρ H=(kG P (sem P n) s ρ H).bind fun (f,ρ,H)=>bif f.isNxt then (sem P (n+1)).exs r ρ H else some (f,ρ,H):=rfl
theorem xS {c:E} {b r:List S} {f:Fl} (l:cF (sem P n) c b turns ρ H=some (.nxt,ρ1,H2)) (k:Xs P (n+1) r ρ1 H2 f ρ' H'):Xs P (n+1) (.whl c b :: r) ρ H f ρ' H':=⟨kF.trans (bnd (yA.trans l) k.h)⟩
structure Xi (P:Prog) (n:Nat) (d:Bool) (a b r:List S) (ρ:Lo) (H:Hp) (f:Fl) (ρ':Lo) (H':Hp):Prop where
 h:∀ c ρ0 H0,Ev P n c ρ0 H0 (.bool d) H→ρ0=ρ→Xs P (n+1) (.ifs c a b :: r) ρ0 H0 f ρ' H'
theorem x_ifs {c:E} {a b r:List S} {d:Bool} {f:Fl} (h:Ev P n c ρ H (.bool d) H1) (g:Xi P n d a b r ρ H1 f ρ' H'):Xs P (n+1) (.ifs c a b :: r) ρ H f ρ' H':=g.h c ρ H h rfl
theorem xi_f {a r:List S} {d:Bool} {f:Fl} (q:d=false) (g:Xs P (n+2) r ρ H f ρ' H'):Xi P (n+1) d a [] r ρ H f ρ' H':=⟨fun c ρ0 H0 h e=>by subst e;exact eU h q g⟩
theorem k8 {e:E} {b r:List S} {d:Bool} {v:V} (q:d=true) (g:Ev P n e ρ H v H'):Xi P (n+1) d [.ret e] b r ρ H (.ret v) ρ H':=⟨fun c ρ0 H0 h e=>by subst e;exact mH h q (x_ret g)⟩
theorem xR {a b r:List S} {d:Bool} {f:Fl} (q:d=true) (g:Xs P n a ρ H .nxt ρ1 H1) (k:Xs P (n+1) r ρ1 H1 f ρ' H'):Xi P n d a b r ρ H f ρ' H':=⟨fun c ρ0 H0 h e=>by subst e;exact eT h q g k⟩
theorem vE {a b r:List S} {d:Bool} {v:V} (q:d=true) (g:Xs P n a ρ H (.ret v) ρ' H'):Xi P n d a b r ρ H (.ret v) ρ' H':=⟨fun c ρ0 H0 h e=>by subst e;exact mH h q g⟩
noncomputable def jA:List S→Bool
 | []=>false
 | [.ret _]=>true
 | _ :: r=>jA r
theorem xi_tr' {a b r:List S} {d:Bool} {v:V} (q:d=true) (_e:jA a=true) (g:Xs P n a ρ H (.ret v) ρ' H'):Xi P n d a b r ρ H (.ret v) ρ' H':=vE q g
theorem xi_tn' {a b r:List S} {d:Bool} {f:Fl} (q:d=true) (_e:jA a=false) (g:Xs P n a ρ H .nxt ρ1 H1) (k:Xs P (n+1) r ρ1 H1 f ρ' H'):Xi P n d a b r ρ H f ρ' H':=xR q g k
structure Ei (P:Prog) (n:Nat) (d:Bool) (a b:E) (ρ:Lo) (H:Hp) (v:V) (H':Hp):Prop where
 h:Ev P n (bif d then a else b) ρ H v H'
theorem e_ite {c a b:E} {d:Bool} {v:V} (h:Ev P n c ρ H (.bool d) H1) (g:Ei P n d a b ρ H1 v H2):Ev P (n+1) (.ite c a b) ρ H v H2:=by
 induction d using Bool.casesOn with
 | true=>exact uS h rfl g.h
 | false=>exact uT h rfl g.h
theorem ei_t {a b:E} {d:Bool} {v:V} (q:d=true) (g:Ev P n a ρ H v H'):Ei P n d a b ρ H v H':=⟨by rw [q];exact g⟩
theorem ei_f {a b:E} {d:Bool} {v:V} (q:d=false) (g:Ev P n b ρ H v H'):Ei P n d a b ρ H v H':=⟨by rw [q];exact g⟩
structure Oi (P:Prog) (n:Nat) (d:Bool) (l:List E) (ρ:Lo) (H:Hp) (v:V) (H':Hp):Prop where
 h:if d=true then v=.bool true∧H'=H else Ev P (n+1) (.or l) ρ H v H'
theorem e_or {e f:E} {es:List E} {b:Bool} {v:V} (h:Ev P n e ρ H (.bool b) H1) (g:Oi P n b (f :: es) ρ H1 v H2):Ev P (n+1) (.or (e :: f :: es)) ρ H v H2:=by
 have g:=g.h
 by_cases q:b=true
 ·rw [if_pos q] at g;refine aw g fun hh1_ hh2_=>?_;subst hh1_;subst hh2_;exact xg h q
 ·rw [if_neg q] at g;exact xh h (by simpa using q) g
theorem oi_t {l:List E} {d:Bool} (q:d=true):Oi P n d l ρ H (.bool true) H:=⟨by rw [if_pos q];exact ⟨rfl,rfl⟩⟩
theorem oi_f {l:List E} {d:Bool} {v:V} (q:d=false) (g:Ev P (n+1) (.or l) ρ H v H'):Oi P n d l ρ H v H':=⟨by rw [if_neg (by rw [q];decide)];exact g⟩
theorem ao {f:FDef} {a:List V} {v0 v:V} (l:Nat.beq a.length f.params.length=true) (h:Xs P n f.body (f.params.zip a) H (.ret v0) ρ' H1) (e:v0=v) (k:H1=H'):Ca P n f a H v H':=by subst e k;exact hP l h
theorem kS {f:FDef} {a:List V} (l:Nat.beq a.length f.params.length=true) (h:Xs P n f.body (f.params.zip a) H .nxt ρ' H1) (k:H1=H'):Ca P n f a H .none H':=by subst k;exact yl l h
theorem cop_eq_int {H:Hp} {a b:Int}:cop .eq H (.int a) (.int b)=some (decide (a=b)):=rfl
theorem cop_ne_int {H:Hp} {a b:Int}:cop .ne H (.int a) (.int b)=some (!decide (a=b)):=rfl
theorem cop_lt_int {H:Hp} {a b:Int}:cop .lt H (.int a) (.int b)=some (decide (a < b)):=rfl
theorem cop_le_int {H:Hp} {a b:Int}:cop .le H (.int a) (.int b)=some (decide (a≤b)):=rfl
theorem cop_gt_int {H:Hp} {a b:Int}:cop .gt H (.int a) (.int b)=some (decide (b < a)):=rfl
theorem i_range1 {e:E} {i:Int} (h:Ev P n e ρ H (.int i) H1) (q:(ax i.toNat&&aM i)=true):It P n (.range [e]) ρ H ((List.range i.toNat).map fun (k:Nat)=>V.int (k:Int)) H1:=⟨bnd (es1 h.h) (bnd rfl (mpd (btt q rfl) rfl))⟩
theorem i_val {e:E} {l:List V} {v:V} (hn:e.range?=Option.none) (h:Ev P n e ρ H v H1) (q:items v=some l):It P n e ρ H l H1:=⟨by unfold rK;rw [hn];exact bnd h.h (mpd q rfl)⟩
theorem d5 {e:E} {l:List V} (hn:e.iter?=Option.none) (h:It P n e ρ H l H1):It1 P n e ρ H l H1:=⟨by unfold lV;rw [hn];exact h.h⟩
theorem x5 {es:List E} {l vs:List V} {ls:List (List V)} (h:Es P n es ρ H vs H1) (a:sG vs=some ls) (b:tj ls=some l):It1 P n (.zip es) ρ H l H1:=⟨bnd h.h (bnd a (mpd b rfl))⟩
theorem wD {e:E} {l vs:List V} {ls:List (List V)} (h:Ev P n e ρ H (.lst vs) H1) (a:sG vs=some ls) (b:tj ls=some l):It1 P n (.zips e) ρ H l H1:=⟨bnd h.h (bnd rfl (bnd a (mpd b rfl)))⟩
theorem sP {e:E} {l:List V} (h:Ev P n e ρ H (.tup l) H1):It1 P n (.enum e) ρ H (jz 0 l) H1:=⟨bnd h.h (mpd rfl rfl)⟩
theorem rP {e:E} {r:Nat} {l:List V} (h:Ev P n e ρ H (.ref r) H1) (q:nth H1 r=some (.list l)):Ev P (n+1) (.freeze e) ρ H (.lst l) (H1.set r .dead):=⟨bnd h.h (bnd rfl (bnd q rfl))⟩
theorem uR {a b:E} {x y z:V} (h:Ev P n a ρ H x H1) (k:Ev P n b ρ H1 y H2) (q:tR x y=some z):Ev P (n+1) (.sortz a b) ρ H z H2:=⟨bnd h.h (bnd k.h (mpd q rfl))⟩
theorem rR {elt:E} {gs:List G} {l:List V} {d:List (V×V)} (h:Ev P n (.comp elt gs) ρ H (.lst l) H1) (o:ax l.length=true) (q:fU l []=some d):Ev P (n+1) (.dictOf elt gs) ρ H (.ref H1.length) (H1++[.dT d]):=⟨bnd h.h (bnd rfl (btt o (mpd q rfl)))⟩
theorem yd {c:Nat} {ms:List (Nat×FDef)} {fd:FDef} {args:List E} {vs:List V} (hc:lk P.classes c=some ms) (hm:lk ms eo=some fd) (h:Es P n args ρ H vs H1) (k:Ca P n fd (.ref H1.length :: vs) (H1++[.inst c []]) .none H2):Ev P (n+1) (.new c args) ρ H (.ref H1.length) H2:=⟨bnd hc (bnd hm (bnd h.h (bnd k.h rfl)))⟩
theorem pj {o hi:E} {l:List V} {m:V} {b:Int} (h:Ev P n o ρ H (.lst l) H1) (g:Ev P n hi ρ H1 (.int b) H2) (k:aM b=true) (q:gg (.lst l) Option.none (some b)=some m):Ev P (n+1) (.slice o Option.none (some hi)) ρ H m H2:=⟨bnd h.h (bnd rfl (bnd (bnd g.h (bnd rfl (btt k rfl)):pf (sem P n) (some hi) ρ H1=some (some b,H2)) (mpd q rfl)))⟩
theorem lW {o lo:E} {l:List V} {m:V} {b:Int} (h:Ev P n o ρ H (.tup l) H1) (g:Ev P n lo ρ H1 (.int b) H2) (k:aM b=true) (q:gg (.tup l) (some b) Option.none=some m):Ev P (n+1) (.slice o (some lo) Option.none) ρ H m H2:=⟨bnd h.h (bnd (bnd g.h (bnd rfl (btt k rfl)):pf (sem P n) (some lo) ρ H1=some (some b,H2)) (bnd rfl (mpd q rfl)))⟩
theorem px {e f:E} {es:List E} {b:Bool} (h:Ev P n e ρ H (.bool b) H1) (q:b=false):Ev P (n+1) (.and (e :: f :: es)) ρ H (.bool false) H1:=⟨bnd h.h (bff q rfl)⟩
theorem pn {e f:E} {es:List E} {b:Bool} {v:V} (h:Ev P n e ρ H (.bool b) H1) (q:b=true) (g:Ev P (n+1) (.and (f :: es)) ρ H1 v H2):Ev P (n+1) (.and (e :: f :: es)) ρ H v H2:=⟨bnd h.h (btt q g.h)⟩
theorem jC {e:E} {v:V} (h:Ev P n e ρ H v H1):Ev P (n+1) (.and [e]) ρ H v H1:=⟨h.1⟩
structure Ai (P:Prog) (n:Nat) (d:Bool) (l:List E) (ρ:Lo) (H:Hp) (v:V) (H':Hp):Prop where
 h:if d=false then v=.bool false∧H'=H else Ev P (n+1) (.and l) ρ H v H'
theorem xj {e f:E} {es:List E} {b:Bool} {v:V} (h:Ev P n e ρ H (.bool b) H1) (g:Ai P n b (f :: es) ρ H1 v H2):Ev P (n+1) (.and (e :: f :: es)) ρ H v H2:=by
 have g:=g.h
 by_cases q:b=false
 ·rw [if_pos q] at g;refine aw g fun hh3_ hh4_=>?_;subst hh3_;subst hh4_;exact px h q
 ·rw [if_neg q] at g;exact pn h (by simpa using q) g
theorem yF {l:List E} {d:Bool} (q:d=false):Ai P n d l ρ H (.bool false) H:=⟨by rw [if_pos q];exact ⟨rfl,rfl⟩⟩
theorem yE {l:List E} {d:Bool} {v:V} (q:d=true) (g:Ev P (n+1) (.and l) ρ H v H'):Ai P n d l ρ H v H':=⟨by rw [if_neg (by rw [q];decide)];exact g⟩
theorem yc {o:E} {r:Nat} {l:List V} {v:V} (ho:Ev P n o ρ H (.ref r) H1) (ob:nth H1 r=some (.list l)) (k:Nat.ble l.length cap=true) (g:l.getLast?=some v):Ev P (n+1) (.meth o 7368560 []) ρ H v (H1.set r (.list l.dropLast)):=⟨bnd ho.h (bnd rfl (bnd ob (bnd rfl (bnd ob (btt rfl (bnd rfl (btt (by rw [k];rfl) (mpd g rfl))))))))⟩
theorem rQ {o:E} {r:Nat} {a:E} {l l2 w:List V} (ho:Ev P n o ρ H (.ref r) H1) (ob:nth H1 r=some (.list l)) (h:Ev P n a ρ H1 (.lst w) H2) (ob2:nth H2 r=some (.list l2)) (k:ax (l2.length + w.length)=true) :
  Ev P (n+1) (.meth o 110425311311973 [a]) ρ H .none (H2.set r (.list (l2++w))):=⟨bnd ho.h (bnd rfl (bnd ob (bnd (es1 h.h) (bnd ob2 (btt rfl (bnd rfl (bff rfl (btt rfl (bnd rfl (btt k rfl))))))))))⟩
theorem jt {H:Hp} {r m:Nat} {l:List V} (h:nth H r=some (.list l)) (e:l.length=m) (k:ax m=true):aP .len [.ref r] H=some (.int m,H):=by
 subst e;show (xZ H (.ref r)).bind (fun n=>bif ax n then some (V.int n,H) else Option.none)=_;exact bnd (bnd h rfl) (btt k rfl)
theorem d4 {H:Hp} {l:List V} {m:Nat} (e:l.length=m) (k:ax m=true):aP .len [.lst l] H=some (.int m,H):=by
 subst e;show (bif ax l.length then some (V.int l.length,H) else Option.none)=_;exact btt k rfl
theorem nH {H:Hp} {r:Nat} {l:List (V×V)} {k v:V} (h:nth H r=some (.dT l)) (q:k.isKey=true) (o:ax l.length=true):bR H (.ref r) k v=some (H.set r (.dT (setT l k v))) :=
 show ((nth H r).bind fun ob=>(dE ob k v).map fun ob=>H.set r ob)=_ from bnd h (mpd (btt (by rw [q,o];rfl) rfl) rfl)
theorem br {i:Int} (h:i.natAbs≤10000000):aM i=true:=by
 unfold aM;apply Nat.ble_eq_true_of_le
 exact Nat.le_trans h (by decide)
theorem my {op:Bop} {a b c:Int} (h:binI op a b=some c):fV op (.int a) (.int b)=some (.int c):=show (binI op a b).map V.int=_ from mpd h rfl
theorem mv {a b:Int} (h:b≠0):fV .mod (.int a) (.int b)=some (.int (Int.fmod a b)):=my (if_neg h)
theorem mr {a b:Int} (h:a.natAbs≤10000000):fV .mul (.int a) (.int b)=some (.int (a * b)):=my (btt (br h) rfl)
theorem s7 {b:Int} (h0:0≤b) (h1:b≤1000):fV .shl (.int 1) (.int b)=some (.int (2 ^ b.toNat)):=my ((if_pos ⟨h0,h1⟩).trans (btt rfl (by rw [Int.one_mul])))
theorem nX {i:Int} (h0:0≤i) {n:Nat} (h:i.toNat < n) (hn:n≤100001):aM i=true:=by
 unfold aM;apply Nat.ble_eq_true_of_le
 have:i.natAbs≤100001:=by lia
 exact Nat.le_trans this (by decide)
theorem e7 {l:List V} {i:Int} {v:V} (h0:0≤i) (g:l[i.toNat]?=some v) (hn:i.toNat < 100001):((idx i l.length).bind fun j=>l[j]?)=some v:=by
 have hl:i.toNat < l.length:=(List.getElem?_eq_some_iff.mp g).1
 have hi:idx i l.length=some i.toNat:=by
  unfold idx
  rw [nX h0 hn (Nat.le_refl _),cond_true,if_pos h0,if_pos hl]
 exact bnd hi g
theorem gJ {H:Hp} {r:Nat} {l:List V} {i:Int} {v:V} (q:nth H r=some (.list l)) (h0:0≤i) (g:l[i.toNat]?=some v) (hn:i.toNat < 100001):dR H (.ref r) (.int i)=some v:=bnd q (e7 h0 g hn)
theorem dW {H:Hp} {l:List V} {i:Int} {v:V} (h0:0≤i) (g:l[i.toNat]?=some v) (hn:i.toNat < 100001):dR H (.lst l) (.int i)=some v:=e7 h0 g hn
theorem i9 {H:Hp} {l:List V} {i:Int} {v:V} (h0:0≤i) (g:l[i.toNat]?=some v) (hn:i.toNat < 100001):dR H (.tup l) (.int i)=some v:=e7 h0 g hn
structure Cl (P:Prog) (n:Nat) (t:T) (elt:E) (vs:List V) (ρ:Lo) (H:Hp) (ws:List V) (H':Hp):Prop where
 h:bV.loop (sem P n) t [] (bV (sem P n) elt []) vs ρ H=some (ws,H')
theorem cl_nil {t:T} {elt:E}:Cl P n t elt [] ρ H [] H:=⟨rfl⟩
theorem cl_cons {t:T} {elt:E} {v w:V} {vs ws:List V} (b:eh t v ρ=some ρ1) (h:Ev P n elt ρ1 H w H1) (k:Cl P n t elt vs ρ H1 ws H2):Cl P n t elt (v :: vs) ρ H (w :: ws) H2:=⟨bnd b (bnd rfl (bnd (bnd h.h rfl:bV (sem P n) elt [] ρ1 H=some ([w],H1)) (bnd k.h rfl)))⟩
theorem dB {elt it:E} {t:T} {vs ws:List V} (i:It1 P n it ρ H vs H1) (l:Cl P n t elt vs (gu (bK :: aN [.mk t it []]) ρ) H1 ws H2) (q:ax ws.length=true):Ev P (n+1) (.comp elt [.mk t it []]) ρ H (.lst ws) H2:=⟨bnd i.h (bnd l.h (btt q rfl))⟩
structure Cg (P:Prog) (n:Nat) (elt:E) (gs:List G) (ρ:Lo) (H:Hp) (ws:List V):Prop where
 h:bV (sem P n) elt gs ρ H=some (ws,H)
structure Cp (P:Prog) (n:Nat) (elt:E) (t:T) (ifs:List E) (gs:List G) (vs:List V) (ρ:Lo) (H:Hp) (ws:List V):Prop where
 h:bV.loop (sem P n) t ifs (bV (sem P n) elt gs) vs ρ H=some (ws,H)
theorem xo {elt:E} {v:V} (h:Ev P n elt ρ H v H):Cg P n elt [] ρ H [v]:=⟨bnd h.h rfl⟩
theorem vj {elt it:E} {t:T} {ifs:List E} {gs:List G} {vs ws:List V} (i:It P n it ρ H vs H) (l:Cp P n elt t ifs gs vs ρ H ws):Cg P n elt (.mk t it ifs :: gs) ρ H ws:=⟨bnd i.h l.h⟩
theorem uU {elt it:E} {t:T} {ifs:List E} {gs:List G} {vs ws:List V} (i:It1 P n it ρ H vs H) (l:Cp P n elt t ifs gs vs (gu (bK :: aN (.mk t it ifs :: gs)) ρ) H ws) (q:ax ws.length=true):Ev P (n+1) (.comp elt (.mk t it ifs :: gs)) ρ H (.lst ws) H:=⟨bnd i.h (bnd l.h (btt q rfl))⟩
theorem c9 {R:Sems} {t:T} {b:List S} {v:V} {vs:List V} {ρ ρ1 ρ2:Lo} {H H1:Hp} {r:Option (Fl×Lo×Hp)} (h:eh t v ρ=some ρ1) (g:R.exs b ρ1 H=some (.nxt,ρ2,H1)) (k:fT R t b vs ρ2 H1=r):fT R t b (v :: vs) ρ H=r:=bnd h (bnd g k)
end
def mst (t:String):Option Lean.Syntax:=(("d \"first \"| \"rfl 1a ! 2e \"| \"with_reducible \"assumption 1f ! 2g ! 2e \"| \"( \"( \"first \"| \"apply 'decide_eq_true 2h ! 2e \"| \"apply 'decide_eq_false 2h ! 2e 2b 2i ! \") 3j \"; \"first \"| \"with_reducible \"assumption 1f ! 2g ! 2e \"| \"lia 0b 1k 2l ! 2e 2b 2i 3b 1c 1d \") 3j ! 2e 3b 2i#e \"first \"| \"exact 'es_nil 2m ! 2e \"| \"exact 'e_num 2m ! 2e \"| \"exact 'e_str 2m ! 2e \"| \"exact 'e_bool 2m ! 2e \"| \"exact 'e_none 2m ! 2e \"| \"with_reducible \"exact 'lke_same 2m ! 2g ! 2e \"| \"( \"( \"with_reducible \"apply 'lke_skip 2h ! 2g ! \") 3j \"; \"focus \"rfl 1a ! 2n 3b 1c 1d \") 3j ! 2e \"| \"( \"( \"with_reducible \"apply 'lke_del 2h ! 2g ! \") 3j \"; \"focus \"rfl 1a ! 2n 3b 1c 1d \") 3j ! 2e \"| \"apply 'lke_base \"( ' 1o 2p \"by \"rfl 1a ! 2q \") 3r 1b 2s 2h ! 2e \"| \"apply 'e_cst \"( ' 1o 2p \"by \"rfl 1a ! 2q \") 3r 1b 2s 2h ! 2e \"| \"exact 'x_nil 2m ! 2e \"| \"exact 'cl_nil 2m ! 2e \"| \"apply 'oi_t \"( ' 1o 2p \"by \"walk_at \"\"d\" 1t 2u ! 2q \") 3r 1b 2s 2h ! 2e \"| \"( \"show \"( ' 1o 2p \"_ 1v \": \"Prop 1w 1b \") 5x 2y \"; \"with_reducible \"assumption 1f ! 2g 3b 1c 1d \") 3j ! 2e >b 2i#a \"first \"| \"apply 'e_var' 2h ! 2e \"| \"apply 'es_cons 2h ! 2e \"| \"apply 'e_tup 2h ! 2e \"| \"apply 'e_list 2h ! 2e \"| \"apply 'e_cmp 2h ! 2e \"| \"apply 'e_cmp2 2h ! 2e \"| \"apply 'cl_cons 2h ! 2e \"| \"apply 'e_not 2h ! 2e \"| \"apply 'e_neg 2h ! 2e \"| \"apply 'e_bin 2h ! 2e \"| \"apply 'e_sub 2h ! 2e \"| \"apply 'e_bi 2h ! 2e \"| \"apply 'e_or_1 2h ! 2e \"| \"apply 'e_or 2h ! 2e \"| \"apply 'oi_f \"( ' 1o 2p \"by \"walk_at \"\"d\" 1t 2u ! 2q \") 3r 1b 2s 2h ! 2e \"| \"apply 'e_ite 2h ! 2e \"| \"apply 'ei_t \"( ' 1o 2p \"by \"walk_at \"\"d\" 1t 2u ! 2q \") 3r 1b 2s 2h ! 2e \"| \"apply 'ei_f \"( ' 1o 2p \"by \"walk_at \"\"d\" 1t 2u ! 2q \") 3r 1b 2s 2h ! 2e \"| \"apply 'e_attr 2h ! 2e \"| \"apply 'e_append 2h ! 2e \"| \"apply 'e_getT 2h ! 2e \"| \"apply 'e_getI 2h ! 2e \"| \"apply 'e_call 2h ! 2e \"| \"apply 'e_meth 2h ! 2e \"| \"apply 'e_fmt 2h ! 2e \"| \"apply 'x_asgv 2h ! 2e \"| \"apply 'x_asgt 2h ! 2e \"| \"apply 'x_asgs 2h ! 2e \"| \"apply 'x_asga 2h ! 2e \"| \"apply 'x_expr 2h ! 2e \"| \"apply 'x_ret 2h ! 2e \"| \"apply 'x_ifs 2h ! 2e \"| \"apply 'xi_f \"( ' 1o 2p \"by \"walk_at \"\"d\" 1t 2u ! 2q \") 3r 1b 2s 2h ! 2e \"| \"apply 'xi_tr' \"( ' 1o 2p \"by \"walk_at \"\"d\" 1t 2u ! 2q \") 3r \"( ' 1o 2p \"by \"rfl 1a ! 2q \") 3r 2b 2s 2h ! 2e \"| \"apply 'xi_tn' \"( ' 1o 2p \"by \"walk_at \"\"d\" 1t 2u ! 2q \") 3r \"( ' 1o 2p \"by \"rfl 1a ! 2q \") 3r 2b 2s 2h ! 2e \"| \"apply 'i_range1 2h ! 2e \"| \"apply 'i_range2 2h ! 2e \"| \"apply 'i_val \"( ' 1o 2p \"by \"rfl 1a ! 2q \") 3r 1b 2s 2h ! 2e \"| \"with_reducible \"exact 'cop_eq_int 2m ! 2g ! 2e \"| \"with_reducible \"exact 'cop_ne_int 2m ! 2g ! 2e \"| \"with_reducible \"exact 'cop_lt_int 2m ! 2g ! 2e \"| \"with_reducible \"exact 'cop_le_int 2m ! 2g ! 2e \"| \"with_reducible \"exact 'cop_gt_int 2m ! 2g ! 2e \"| \"with_reducible \"exact 'cop_ge_int 2m ! 2g ! 2e \"| \"rfl 1a ! 2e \"| \"( \"apply 'decide_eq_true 2h \"; \"lia 0b 1k 2l 3b 1c 1d \") 3j ! 2e \"| \"( \"apply 'decide_eq_false 2h \"; \"lia 0b 1k 2l 3b 1c 1d \") 3j ! 2e _b 2i".splitOn "#").find? (·.startsWith t)).map fun s=>syn #[] (s.drop 2).toString
end Mini.Internal
end
section
open Mini.Internal
local macro_rules | `(tactic| walk_at $s)=>match mst s.getString with
 | some x=>pure x
 | none=>Lean.Macro.throwUnsupported
section
set_option autoImplicit false
set_option maxRecDepth 10000
set_option maxHeartbeats 2000000
namespace Mini.Internal.L1
open Mini.Internal
theorem ah {n:Nat} (h:n≤100000):ax n=true:=Nat.ble_eq_true_of_le h
structure Tm where
 op:Nat
 args:List Int
 sort:Int
 data:List Int
noncomputable def intsV (l:List Int):List V:=l.map V.int
noncomputable def dv (l:List Int):V:=match l with
 | [k]=>.int k
 | l=>.tup (intsV l)
noncomputable def Tm.eqb (a b:Tm):Bool:=Nat.beq a.op b.op&&(a.args==b.args&&(a.sort==b.sort&&a.data==b.data))
theorem Tm.eqb_iff {a b:Tm}:a.eqb b=true↔a=b:=by
 induction a using Tm.casesOn with | mk a1 a2 a3 a4 =>
 induction b using Tm.casesOn with | mk b1 b2 b3 b4 =>
 constructor
 ·intro h
  simp only [Tm.eqb,Bool.and_eq_true,Nat.beq_eq,beq_iff_eq] at h
  rw [h.1,h.2.1,h.2.2.1,h.2.2.2]
 ·intro h
  injection h with e1 e2 e3 e4
  simp only [Tm.eqb,e1,e2,e3,e4,Nat.beq_refl,BEq.rfl,Bool.and_self]
noncomputable def key (t:Tm):V:=.tup [.str t.op,.tup (intsV t.args),.int t.sort,dv t.data]
noncomputable def find:Nat→List Tm→Tm→Nat
 | _,[],_=>0
 | k,u :: r,t=>bif u.eqb t then k else find (k+1) r t
noncomputable def put (ts:List Tm) (t:Tm):List Tm:=if find 1 ts t=0 then ts++[t] else ts
noncomputable def nums:Nat→List Tm→List (V×V)
 | _,[]=>[]
 | k,t :: r=>(key t,.int (k:Int)) :: nums (k+1) r
theorem cZ:∀ l m:List Int,V.sames (intsV l) (intsV m)=(l==m)
 | [],[]=>rfl
 | [],_ :: _=>rfl
 | _ :: _,[]=>rfl
 | a :: l,b :: m=>by
  show (V.same (.int a) (.int b)&&V.sames (intsV l) (intsV m))=_
  rw [cZ l m];rfl
theorem tY:∀ l m:List Int,V.same (dv l) (dv m)=(l==m)
 | [],[]=>rfl
 | [],[_]=>rfl
 | [],_ :: _ :: _=>rfl
 | [_],[]=>rfl
 | [a],[b]=>(List.cons_beq_cons.trans (Bool.and_true _)).symm
 | [_],_ :: _ :: _=>(Bool.and_false _).symm
 | _ :: _ :: _,[]=>rfl
 | _ :: _ :: _,[_]=>(Bool.and_false _).symm
 | a :: b :: l,c :: d :: m=>cZ (a :: b :: l) (c :: d :: m)
theorem j5 (u t:Tm):V.same (key u) (key t)=u.eqb t:=by
 show ((u.op==t.op)&&(V.sames (intsV u.args) (intsV t.args)&&((u.sort==t.sort)&&(V.same (dv u.data) (dv t.data)&&true))))=_
 rw [cZ,Bool.and_true,tY,show (u.op==t.op)=Nat.beq u.op t.op from (iy u.op t.op).symm]
 rfl
theorem fE (n:Nat) (l:List Int):V.keys n (intsV l)=true:=by
 induction l with
 | nil=>rfl
 | cons a l ih=>exact mA (by cases n<;>rfl) ih
theorem wC:∀ (n:Nat) (l:List Int),V.key (n+1) (dv l)=true
 | _,[]=>rfl
 | _,[_]=>rfl
 | _,_ :: _ :: _=>fE _ _
theorem oN (t:Tm):(key t).isKey=true:=by
 show (V.keys 2 (intsV t.args)&&(V.key 3 (dv t.data)&&true))=true
 exact mA (fE 2 _) (mA (wC 2 _) rfl)
theorem pW {α:Type} {c:Bool} {x y:α}:(bif c then x else y)=if c=true then x else y:=by cases c<;>rfl
theorem cR {k:Nat} {u t:Tm} {r:List Tm}:find k (u :: r) t=if u.eqb t=true then k else find (k+1) r t:=pW
theorem oX (k:Nat) (ts:List Tm) (t:Tm):getT (nums (k+1) ts) (key t)=if find (k+1) ts t=0 then none else some (.int (find (k+1) ts t)):=by
 induction ts generalizing k with
 | nil=>rfl
 | cons u r ih =>
  show (bif V.same (key u) (key t) then some (.int ((k + 1:Nat):Int)) else getT (nums (k+1+1) r) (key t))=_
  rw [j5,pW,cR,ih]
  by_cases e:u.eqb t=true
  ·rw [if_pos e,if_pos e,if_neg (Nat.succ_ne_zero k)]
  ·rw [if_neg e,if_neg e]
theorem o6 (ts:List Tm) (t:Tm):(getT (nums 1 ts) (key t)).getD (.int 0)=.int (find 1 ts t:Int):=by
 rw [oX 0 ts t];by_cases h:find (0+1) ts t=0
 ·rw [if_pos h];show V.int 0=V.int ((find (0+1) ts t:Nat):Int);rw [h];rfl
 ·rw [if_neg h];rfl
theorem nG (k:Nat) (ts:List Tm) (t:Tm) (h:find (k+1) ts t=0):setT (nums (k+1) ts) (key t) (.int ((k + 1 + ts.length:Nat):Int))=nums (k+1) (ts++[t]):=by
 induction ts generalizing k with
 | nil=>rfl
 | cons u r ih =>
  rw [cR] at h
  by_cases e:u.eqb t=true
  ·rw [if_pos e] at h;exact absurd h (Nat.succ_ne_zero k)
  ·rw [if_neg e] at h
   show (bif V.same (key u) (key t) then _ else (key u,.int ((k + 1:Nat):Int)) :: setT (nums (k+1+1) r) (key t) _)=(key u,.int ((k + 1:Nat):Int)) :: nums (k+1+1) (r++[t])
   rw [j5,pW,if_neg e,← ih (k+1) h,List.length_cons,Nat.succ_add_eq_add_succ (k+1) r.length]
theorem fo:∀ (k:Nat) (ts:List Tm),(nums k ts).length=ts.length
 | _,[]=>rfl
 | k,t :: ts=>congrArg (· + 1) (fo (k+1) ts)
structure Ext where
 w:Int
 b:Bool
noncomputable def yz (w:Int):Nat:=dg 152949257266967150092072 (dg ((d7 w).getD 0) 41)
noncomputable def Ext.names (X:Ext):List V:=[.str 1819242306,.str 7630409,.str 1818322258,.str (yz X.w)]++(bif X.b then [.str (yz (2 * X.w))] else [])
noncomputable def Ext.widths (X:Ext):List V:=[.int 0,.int 0,.int 0,.int X.w]++(bif X.b then [.int (2 * X.w)] else [])
noncomputable def Ext.bvn (X:Ext):List (Int×V):=(X.w,.int 3) :: (bif X.b then [(2 * X.w,.int 4)] else [])
noncomputable def iS:List (Nat×V):=[(544943148383632993972083,.ref 2),(139519742427658876708089715,.ref 3),(2128684173373565990246,.ref 4),(8315740999501378918,.ref 5),(139576264479274861228619110,.ref 6),(140757021683833132378583654,.int 0),(8318270967402095988,.ref 7),(2128829695872336029044,.ref 8),(545220213778855941530996,.ref 9),(544869865799501187540340,.ref 10),(32495402090329454,.ref 11),(138296318119088462031581812,.int 1),(35403857438486646280050991462,.int 2),(545182379876308767176290,.ref 12)]
noncomputable def lists (ts:List Tm) (rest:Hp) (bvn:List (Int×V)):Hp:=.list (.str 0 :: ts.map fun t=>.str t.op) :: .list (.tup [] :: ts.map fun t=>.tup (intsV t.args)) ::
 .list (.int 0 :: ts.map fun t=>.int t.sort) :: .list (.int 0 :: ts.map fun t=>dv t.data) :: .dT (nums 1 ts) :: .dI bvn :: rest
noncomputable def hp (st:O) (X:Ext) (ts:List Tm) (rest:Hp):Hp :=
 st :: .inst 7741231747428410708 iS :: .list X.names :: .list X.widths :: .list [.str 120,.str 121,.str 117,.str 122] :: .list [.tup [],.tup [],.tup [],.tup []] :: .list [.int 3,.int 3,.int 3,.int 3] :: lists ts rest X.bvn
noncomputable def At (ts:List Tm) (i:Int) (t:Tm):Prop:=1≤i∧i≤1000∧ts[i.toNat - 1]?=some t
theorem At.get {α:Type} {f:Tm→α} {a:α} {ts:List Tm} {i:Int} {t:Tm} (h:At ts i t):(a :: ts.map f)[i.toNat]?=some (f t):=by
 refine du h fun h1 h2 h3=>?_
 refine aG (⟨i.toNat - 1,by (clear h3 h2;lia)⟩:∃ j:Nat,i=((j + 1:Nat):Int)) fun j e=>?_
 subst e
 simp only [Int.toNat_natCast,Nat.add_sub_cancel] at h3
 rw [Int.toNat_natCast,List.getElem?_cons_succ,List.getElem?_map,h3];rfl
theorem At.sub {f:Tm→V} {a:V} {ts:List Tm} {i:Int} {t:Tm} {H:Hp} {r:Nat} (h:At ts i t) (q:nth H r=some (.list (a :: ts.map f))):dR H (.ref r) (.int i)=some (f t) :=
 gJ q (by have:=h.1;(clear q;lia)) h.get (by have:=h.2.1;(clear q;lia))
theorem At.uniq {ts:List Tm} {i:Int} {t u:Tm} (h:At ts i t) (k:At ts i u):t=u:=Option.some.inj (h.2.2.symm.trans k.2.2)
theorem At.up {ts ts':List Tm} {i:Int} {t:Tm} (h:At ts i t) (p:ts <+: ts'):At ts' i t:=by
 refine p.elim fun us e=>?_
 rw [← e]
 refine ⟨h.1,h.2.1,?_⟩
 rw [List.getElem?_append_left (List.getElem?_eq_some_iff.mp h.2.2).1];exact h.2.2
theorem cS (k:Nat) (ts:List Tm) (t:Tm) (h:find (k+1) ts t=0):find (k+1) (ts++[t]) t=k + 1 + ts.length:=by
 induction ts generalizing k with
 | nil=>exact cR.trans (if_pos (Tm.eqb_iff.2 rfl))
 | cons u r ih =>
  rw [cR] at h
  by_cases e:u.eqb t=true
  ·rw [if_pos e] at h;exact absurd h (Nat.succ_ne_zero k)
  ·rw [if_neg e] at h
   rw [List.cons_append,cR,if_neg e,ih (k+1) h];exact Nat.succ_add_eq_add_succ (k+1) r.length
theorem lU (k:Nat) (ts:List Tm) (t:Tm) (h:find (k+1) ts t≠0):k + 1≤find (k+1) ts t∧find (k+1) ts t≤k + ts.length∧ts[find (k+1) ts t - (k+1)]?=some t:=by
 induction ts generalizing k with
 | nil=>exact absurd rfl h
 | cons u r ih =>
  rw [cR] at h ⊢
  by_cases e:u.eqb t=true
  ·rw [if_pos e];exact ⟨Nat.le_refl _,Nat.add_le_add_left (Nat.succ_le_succ (Nat.zero_le _)) k,by rw [Nat.sub_self,Tm.eqb_iff.1 e];rfl⟩
  ·rw [if_neg e] at h ⊢
   refine du (ih (k+1) h) fun a b c=>⟨Nat.le_of_succ_le a,Nat.le_trans b (Nat.le_of_eq (Nat.succ_add_eq_add_succ k r.length)),?_⟩
   rw [← Nat.succ_pred_eq_of_pos (Nat.sub_pos_of_lt a)];exact c
noncomputable abbrev tt:Tm:=⟨1702195828,[],0,[0]⟩
noncomputable abbrev tf:Tm:=⟨435728179558,[],0,[0]⟩
noncomputable def Sok (X:Ext) (s:Int):Prop:=s=0∨s=3∨(s=4∧X.b=true)
noncomputable def wd (w s:Int):Int:=if s=3 then w else if s=4 then 2 * w else 0
theorem Sok.get {X:Ext} {s:Int} (h:Sok X s) {H:Hp} (q:nth H 3=some (.list X.widths)):dR H (.ref 3) (.int s)=some (.int (wd X.w s)):=by
 rcases h with e | e | ⟨e,e'⟩
 ·rw [e];exact gJ q (by decide) rfl (by decide)
 ·rw [e];exact gJ q (by decide) rfl (by decide)
 ·rw [e];exact gJ q (by decide) (by unfold Ext.widths;rw [e'];rfl) (by decide)
structure Bk (X:Ext) (ts:List Tm):Prop where
 s:∀ t∈ts,Sok X t.sort
 t:ts[0]?=some tt
 f:ts[1]?=some tf
 w:X.w=1∨X.w=2
theorem At.mem {ts:List Tm} {i:Int} {t:Tm} (h:At ts i t):t∈ts:=List.mem_of_getElem? h.2.2
structure New (X:Ext) (ts ts':List Tm) (i:Int) (t:Tm):Prop where
 pre:ts <+: ts'
 bk:Bk X ts'
 len:ts'.length≤ts.length + 1
 at_:At ts' i t
theorem nQ {ts ts':List Tm} (p:ts <+: ts') {i:Nat} {t:Tm} (h:ts[i]?=some t):ts'[i]?=some t:=by
 refine p.elim fun us e=>?_
 rw [← e,List.getElem?_append_left (List.getElem?_eq_some_iff.mp h).1,h]
section
variable {st:O} {X:Ext} {ts:List Tm} {rest:Hp}
theorem ua (B:Bk X ts) {tm:Tm} (hs:Sok X tm.sort) (hl:ts.length < 1000):New X ts (put ts tm) (find 1 (put ts tm) tm:Nat) tm:=by
 have F:=lU 0 (put ts tm) tm
 have p:ts <+: put ts tm:=by
  unfold put;split
  ·exact ⟨[tm],rfl⟩
  ·exact List.prefix_refl _
 have hl':(put ts tm).length≤ts.length + 1:=by
  unfold put;split
  ·rw [List.length_append];exact Nat.le_refl _
  ·exact Nat.le_succ _
 have nz:find 1 (put ts tm) tm≠0:=by
  by_cases h:find 1 ts tm=0
  ·have e:put ts tm=ts++[tm]:=if_pos h
   rw [e,cS 0 ts tm h];(clear F hl' p;lia)
  ·have e:put ts tm=ts:=if_neg h
   rw [e];exact h
 refine du (F nz) fun a b c=>?_
 refine ⟨p,⟨fun t m=>?_,nQ p B.t,nQ p B.f,B.w⟩,hl',by (clear F c b;lia),by (clear F c;lia),?_⟩
 ·unfold put at m;split at m
  ·refine Or.elim (List.mem_append.mp m) (fun m=>?_) fun m=>?_
   ·exact B.s t m
   ·rw [List.mem_singleton.mp m];exact hs
  ·exact B.s t m
 ·rw [Int.toNat_natCast];exact c
theorem bZ (B:Bk X ts) {op:Nat} {args:List Int} {s:Int} {d:List Int} (hs:Sok X s) (hl:ts.length < 1000):∃ i ts',(∀ n,Ca P (n+12) fN [.ref 1,.str op,.tup (intsV args),.int s,dv d] (hp st X ts rest) (.int i) (hp st X ts' rest))∧New X ts ts' i ⟨op,args,s,d⟩:=by
 refine ⟨_,_,fun n=>?_,ua B (tm:=⟨op,args,s,d⟩) hs hl⟩
 have gd:(getT (nums 1 ts) (.tup [.str op,.tup (intsV args),.int s,dv d])).getD (.int 0)=.int (find 1 ts ⟨op,args,s,d⟩:Nat):=o6 ts ⟨op,args,s,d⟩
 have kk:(V.tup [.str op,.tup (intsV args),.int s,dv d]).isKey=true:=oN ⟨op,args,s,d⟩
 have o1:ax (V.str 0 :: ts.map fun t=>V.str t.op).length=true:=ah (by simp;(clear kk gd;lia))
 have o2:ax (V.tup [] :: ts.map fun t=>V.tup (intsV t.args)).length=true:=ah (by simp;(clear o1 kk gd;lia))
 have o3:ax (V.int 0 :: ts.map fun t=>V.int t.sort).length=true:=ah (by simp;(clear o2 o1 kk gd;lia))
 have o4:ax (V.int 0 :: ts.map fun t=>dv t.data).length=true:=ah (by simp;(clear o3 o2 o1 kk gd;lia))
 have o5:ax (nums 1 ts).length=true:=ah (by rw [fo];(clear o4 o3 o2 o1 kk gd;lia))
 by_cases h:find 1 ts ⟨op,args,s,d⟩=0
 ·apply ao
  ·rfl
  ·have h':((find 1 ts ⟨op,args,s,d⟩:Nat):Int)=0:=by rw [h];rfl
   have q:aP .len [.ref 7] (hp st X ts rest)=some (.int ((ts.length:Int) + 1),hp st X ts rest):=jt rfl (by rw [List.length_cons,List.length_map]) (ah (show ts.length + 1≤100000 by (clear h' h o5 o4 o3 o2 o1 kk gd;lia)))
   have q2:bR ((((hp st X ts rest).set 7 (.list ((V.str 0 :: ts.map fun t=>V.str t.op)++[.str op]))).set 8 (.list ((V.tup [] :: ts.map fun t=>V.tup (intsV t.args))++[.tup (intsV args)]))).set 9 (.list ((V.int 0 :: ts.map fun t=>V.int t.sort)++[.int s])) |>.set 10 (.list ((V.int 0 :: ts.map fun t=>dv t.data)++[dv d])))
     (.ref 11) (.tup [.str op,.tup (intsV args),.int s,dv d]) (.int ((ts.length:Int) + 1))=some (hp st X (ts++[⟨op,args,s,d⟩]) rest):=by
    have:=nG 0 ts ⟨op,args,s,d⟩ h
    simp only [key] at this
    rw [show ((0 + 1 + ts.length:Nat):Int)=(ts.length:Int) + 1 by (clear this q h' h o5 o4 o3 o2 o1 kk gd hl;lia)] at this
    refine (nH (l:=nums 1 ts) rfl kk o5).trans (congrArg some ?_)
    rw [this]
    simp only [hp,lists,List.set_cons_succ,List.set_cons_zero,List.map_append,List.map_cons,List.map_nil,List.cons_append]
   (repeat' (first | walk_at "e" | walk_at "a"))
  ·unfold put
   rw [if_pos h,cS 0 ts _ h,V.int.injEq];(clear o5 o4 o3 o2 o1 kk gd hl;lia)
  ·unfold put;rw [if_pos h]
 ·have h':((find 1 ts ⟨op,args,s,d⟩:Nat):Int)≠0:=fun e=>h (by (clear o5 o4 o3 o2 o1 kk gd hl;lia))
  apply ao
  ·rfl
  ·(repeat' (first | walk_at "e" | walk_at "a"))
  ·unfold put;rw [if_neg h]
  ·unfold put;rw [if_neg h]
theorem yD {i:Int} {t:Tm} (h:At ts i t) (n:Nat):Ca P (n+12) jK [.ref 1,.int i] (hp st X ts rest) (.str t.op) (hp st X ts rest):=by
 have q:dR (hp st X ts rest) (.ref 7) (.int i)=some (.str t.op):=h.sub (f:=fun t=>.str t.op) rfl
 apply ao
 ·rfl
 ·(repeat' (first | walk_at "e" | walk_at "a"))
 ·rfl
 ·rfl
theorem oK {i:Int} {t:Tm} (h:At ts i t) (n:Nat):Ca P (n+12) fP [.ref 1,.int i] (hp st X ts rest) (.tup (intsV t.args)) (hp st X ts rest):=by
 have q:dR (hp st X ts rest) (.ref 8) (.int i)=some (.tup (intsV t.args)):=h.sub (f:=fun t=>.tup (intsV t.args)) rfl
 apply ao
 ·rfl
 ·(repeat' (first | walk_at "e" | walk_at "a"))
 ·rfl
 ·rfl
theorem sN {i:Int} {t:Tm} (h:At ts i t) (n:Nat):Ca P (n+12) fO [.ref 1,.int i] (hp st X ts rest) (dv t.data) (hp st X ts rest):=by
 have q:dR (hp st X ts rest) (.ref 10) (.int i)=some (dv t.data):=h.sub (f:=fun t=>dv t.data) rfl
 apply ao
 ·rfl
 ·(repeat' (first | walk_at "e" | walk_at "a"))
 ·rfl
 ·rfl
theorem dD {i:Int} {t:Tm} (h:At ts i t):dR (hp st X ts rest) (.ref 9) (.int i)=some (.int t.sort):=h.sub (f:=fun t=>.int t.sort) rfl
theorem a8 (B:Bk X ts) {i:Int} {t:Tm} (h:At ts i t) (n:Nat):Ca P (n+12) el [.ref 1,.int i] (hp st X ts rest) (.int (wd X.w t.sort)) (hp st X ts rest):=by
 have q1:=dD (st:=st) (X:=X) (rest:=rest) h
 have q2:dR (hp st X ts rest) (.ref 3) (.int t.sort)=_:=(B.s t h.mem).get rfl
 apply ao
 ·rfl
 ·(repeat' (first | walk_at "e" | walk_at "a"))
 ·rfl
 ·rfl
theorem xT {w s:Int} (hw:w=1∨w=2) (h:s=3∨s=4):wd w s≠0:=by
 unfold wd
 refine Or.elim h (fun e=>?_) fun e=>?_<;>refine Or.elim hw (fun q=>?_) fun q=>?_<;>rw [e,q]<;>decide
theorem aC (B:Bk X ts) {i:Int} {t:Tm} {x:Nat} (h:At ts i t) (hs:t.sort=3∨t.sort=4) (n:Nat):Ca P (n+16) bW [.ref 1,.int i,.str x] (hp st X ts rest) .none (hp st X ts rest):=by
 have hw:=xT B.w hs
 apply kS
 ·rfl
 ·(repeat' (first | walk_at "e" | exact a8 B h _ | walk_at "a"))
 ·rfl
theorem cx {i s:Int} {t:Tm} {x:Nat} (h:At ts i t) (hs:t.sort=s) (n:Nat):Ca P (n+12) fM [.ref 1,.int i,.int s,.str x] (hp st X ts rest) .none (hp st X ts rest):=by
 have q1:=dD (st:=st) (X:=X) (rest:=rest) h
 have e:(!decide (t.sort=s))=false:=by rw [hs];simp
 apply kS
 ·rfl
 ·(repeat' (first | walk_at "e" | walk_at "a"))
 ·rfl
end
section
variable {st:O} {X:Ext} {ts:List Tm} {rest:Hp}
theorem oH (B:Bk X ts) (n:Nat):Ca P (n+16) bz [.ref 1,.int X.w] (hp st X ts rest) (.int 3) (hp st X ts rest):=by
 have hw:=B.w
 have g:getI X.bvn X.w=some (.int 3):=by show (bif X.w==X.w then _ else _)=_;rw [beq_self_eq_true];rfl
 have q:(!(getI X.bvn X.w).isSome)=false:=by rw [g];rfl
 have q2:dR (hp st X ts rest) (.ref 12) (.int X.w)=some (.int 3):=g
 apply ao
 ·rfl
 ·(repeat' (first | walk_at "e" | walk_at "a"))
 ·rfl
 ·rfl
noncomputable def Ext.full (X:Ext):Ext:={ X with b:=true }
theorem Bk.full (B:Bk X ts):Bk X.full ts:=⟨fun t m=>(B.s t m).imp_right fun h=>h.imp_right fun h=>⟨h.1,rfl⟩,B.t,B.f,B.w⟩
theorem oG (B:Bk X ts) {w:Int} (hw:w=2 * X.w) (n:Nat):Ca P (n+16) bz [.ref 1,.int w] (hp st X ts rest) (.int 4) (hp st X.full ts rest):=by
 obtain ⟨w,b⟩:=X
 have h:=B.w
 clear B
 dsimp only at h hw
 rcases h with rfl | rfl<;>subst hw<;>cases b<;>exact ⟨by kernel_rfl⟩
theorem uq (B:Bk X ts) (hl:ts.length < 1000) {v:Int}:∃ i ts',(∀ n,Ca P (n+24) bN [.ref 1,.int v,.int X.w] (hp st X ts rest) (.int i) (hp st X ts' rest))∧New X ts ts' i ⟨470121608802,[],3,[Int.fmod v (2 ^ X.w.toNat)]⟩:=by
 refine aX (bZ (st:=st) (rest:=rest) B (op:=470121608802) (args:=[]) (s:=3) (d:=[Int.fmod v (2 ^ X.w.toNat)]) (.inr (.inl rfl)) hl) fun i ts' C N=>⟨i,ts',fun n=>?_,N⟩
 have hw:=B.w
 have q:fV .shl (.int 1) (.int X.w)=some (.int (2 ^ X.w.toNat)):=s7 (by lia) (by lia)
 have q2:fV .mod (.int v) (.int (2 ^ X.w.toNat))=some (.int (Int.fmod v (2 ^ X.w.toNat))):=mv (by refine Or.elim hw (fun e=>?_) fun e=>?_<;>rw [e]<;>decide)
 apply ao
 ·rfl
 ·(repeat' (first | walk_at "e" | exact oH B _ | exact q | exact q2 | exact C _ | walk_at "a"))
 ·rfl
 ·rfl
theorem wm (B:Bk X ts) (hl:ts.length < 1000) {op:Nat} (ho:op=500085716578∨op=444083369570) {a:Int} {ta:Tm} (ha:At ts a ta) (hs:ta.sort=3):∃ i ts',(∀ n,Ca P (n+24) cW [.ref 1,.str op,.int a] (hp st X ts rest) (.int i) (hp st X ts' rest))∧New X ts ts' i ⟨op,[a],3,[0]⟩:=by
 refine aX (bZ (st:=st) (rest:=rest) B (op:=op) (args:=[a]) (s:=3) (d:=[0]) (.inr (.inl rfl)) hl) fun i ts' C N=>⟨i,ts',fun n=>?_,N⟩
 have q1:=dD (st:=st) (X:=X) (rest:=rest) ha
 rw [hs] at q1
 refine Or.elim ho (fun e=>?_) fun e=>?_<;>subst e
 ·apply ao
  ·rfl
  ·(repeat' (first | walk_at "e" | exact aC B ha (.inl hs) _ | exact C _ | apply xj | exact yF (by walk_at "d") | apply yE (by walk_at "d") | apply jC | walk_at "a"))
  ·rfl
  ·rfl
 ·apply ao
  ·rfl
  ·(repeat' (first | walk_at "e" | exact aC B ha (.inl hs) _ | exact C _ | apply xj | exact yF (by walk_at "d") | apply yE (by walk_at "d") | apply jC | walk_at "a"))
  ·rfl
  ·rfl
noncomputable def lF:V:=.tup [.str 431348610658,.str 1919907426,.str 491496437346,.str 431180838498,.str 422877296226,.str 465826575970,.str 465608865378,.str 125792938653282,.str 130195029063266,.str 120282479425122]
theorem rd (B:Bk X ts) (hl:ts.length < 1000) {op:Nat} (ho:∀ H,cop .isin H (.str op) lF=some true) {a b:Int} {ta tb:Tm} (ha:At ts a ta) (hs:ta.sort=3) (hb:At ts b tb) (hs':tb.sort=3):∃ i ts',(∀ n,Ca P (n+24) bM [.ref 1,.str op,.int a,.int b] (hp st X ts rest) (.int i) (hp st X ts' rest))∧New X ts ts' i ⟨op,[a,b],3,[0]⟩:=by
 refine aX (bZ (st:=st) (rest:=rest) B (op:=op) (args:=[a,b]) (s:=3) (d:=[0]) (.inr (.inl rfl)) hl) fun i ts' C N=>⟨i,ts',fun n=>?_,N⟩
 have q1:=dD (st:=st) (X:=X) (rest:=rest) ha
 rw [hs] at q1
 apply ao
 ·rfl
 ·(repeat' (first | walk_at "e" | exact aC B ha (.inl hs) _ | exact cx hb hs' _ | exact C _ | exact ho _ | walk_at "a"))
 ·rfl
 ·rfl
theorem wz (B:Bk X ts) (hl:ts.length < 1000) {op:Nat} (ho:∀ H,cop .isin H (.str op) lF=some false) (ho':∀ H,cop .isin H (.str op) (.tup [.str 500035843682,.str 435611334242,.str 500035712610,.str 435611203170])=some true) {a b:Int} {ta tb:Tm} (ha:At ts a ta) (hs:ta.sort=3) (hb:At ts b tb) (hs':tb.sort=3):∃ i ts',(∀ n,Ca P (n+24) bM [.ref 1,.str op,.int a,.int b] (hp st X ts rest) (.int i) (hp st X ts' rest))∧New X ts ts' i ⟨op,[a,b],0,[0]⟩:=by
 refine aX (bZ (st:=st) (rest:=rest) B (op:=op) (args:=[a,b]) (s:=0) (d:=[0]) (.inl rfl) hl) fun i ts' C N=>⟨i,ts',fun n=>?_,N⟩
 have q1:=dD (st:=st) (X:=X) (rest:=rest) ha
 rw [hs] at q1
 apply ao
 ·rfl
 ·(repeat' (first | walk_at "e" | exact aC B ha (.inl hs) _ | exact cx hb hs' _ | exact C _ | exact ho _ | exact ho' _ | walk_at "a"))
 ·rfl
 ·rfl
end
section
variable {st:O} {X:Ext} {ts:List Tm} {rest:Hp}
theorem wd3 {w:Int}:wd w 3=w:=rfl
theorem rh (B:Bk X ts) (hl:ts.length < 1000) {a b:Int} {ta tb:Tm} (ha:At ts a ta) (hs:ta.sort=3) (hb:At ts b tb) (hs':tb.sort=3):∃ i ts',(∀ n,Ca P (n+24) cV [.ref 1,.int a,.int b] (hp st X ts rest) (.int i) (hp st X.full ts' rest))∧New X.full ts ts' i ⟨127961628831587,[a,b],4,[0]⟩:=by
 refine aX (bZ (st:=st) (rest:=rest) B.full (op:=127961628831587) (args:=[a,b]) (s:=4) (d:=[0]) (.inr (.inr ⟨rfl,rfl⟩)) hl) fun i ts' C N=>⟨i,ts',fun n=>?_,N⟩
 have w1:=fun n=>a8 (st:=st) (rest:=rest) B ha n
 have w2:=fun n=>a8 (st:=st) (rest:=rest) B hb n
 rw [hs] at w1
 rw [hs'] at w2
 have q:=fun n=>oG (st:=st) (rest:=rest) B (w:=wd X.w 3 + wd X.w 3) (by rw [wd3];lia) n
 apply ao
 ·rfl
 ·(repeat' (first | walk_at "e" | exact aC B ha (.inl hs) _ | exact aC B hb (.inl hs') _ | exact w1 _ | exact w2 _ | exact q _ | exact C _ | walk_at "a"))
 ·rfl
 ·rfl
theorem uo (B:Bk X ts) (hl:ts.length < 1000) {a:Int} {ta:Tm} (ha:At ts a ta) (hs:ta.sort=3):∃ i ts',(∀ n,Ca P (n+24) bA [.ref 1,.int X.w,.int a] (hp st X ts rest) (.int i) (hp st X.full ts' rest))∧New X.full ts ts' i ⟨121413913788299389262326131,[a],4,[X.w]⟩:=by
 refine aX (bZ (st:=st) (rest:=rest) B.full (op:=121413913788299389262326131) (args:=[a]) (s:=4) (d:=[X.w]) (.inr (.inr ⟨rfl,rfl⟩)) hl) fun i ts' C N=>⟨i,ts',fun n=>?_,N⟩
 have hw:=B.w
 have w1:=fun n=>a8 (st:=st) (rest:=rest) B ha n
 rw [hs] at w1
 have q:=fun n=>oG (st:=st) (rest:=rest) B (w:=wd X.w 3 + X.w) (by rw [wd3];lia) n
 apply ao
 ·rfl
 ·(repeat' (first | walk_at "e" | exact aC B ha (.inl hs) _ | exact w1 _ | exact q _ | exact C _ | walk_at "a"))
 ·rfl
 ·rfl
theorem oJ (B:Bk X ts) (hl:ts.length < 1000) {a hi lo:Int} {ta:Tm} (ha:At ts a ta) (hs:ta.sort=4) (h0:0≤lo) (h1:lo≤X.w) (h2:hi=lo + X.w - 1):∃ i ts',(∀ n,Ca P (n+24) cC [.ref 1,.int hi,.int lo,.int a] (hp st X ts rest) (.int i) (hp st X ts' rest))∧New X ts ts' i ⟨32760367481649253,[a],3,[hi,lo]⟩:=by
 refine aX (bZ (st:=st) (rest:=rest) B (op:=32760367481649253) (args:=[a]) (s:=3) (d:=[hi,lo]) (.inr (.inl rfl)) hl) fun i ts' C N=>⟨i,ts',fun n=>?_,N⟩
 have hw:=B.w
 have w1:=fun n=>a8 (st:=st) (rest:=rest) B ha n
 rw [hs] at w1
 have q:=fun n=>oH (st:=st) (rest:=rest) B n
 rw [show X.w=hi - lo + 1 by lia] at q
 have e1:decide (0≤lo)=true:=decide_eq_true h0
 have e2:decide (lo≤hi)=true:=decide_eq_true (by lia)
 have e3:(!decide (hi < wd X.w 4))=false:=by rw [decide_eq_true (show hi < wd X.w 4 from (by show hi < 2 * X.w;lia))];rfl
 apply ao
 ·rfl
 ·(repeat' (first | walk_at "e" | exact aC B ha (.inr hs) _ | exact w1 _ | exact q _ | exact C _ | apply xi | walk_at "a"))
 ·rfl
 ·rfl
theorem oI (B:Bk X ts) {a p:Int} {x:Nat} {ta:Tm} (ha:At ts a ta) (hs:ta.sort=3) (h0:0≤p) (h1:p≤X.w) (n:Nat):Ca P (n+20) bL [.ref 1,.int p,.int a,.str x] (hp st X ts rest) .none (hp st X ts rest):=by
 have w1:=fun n=>a8 (st:=st) (rest:=rest) B ha n
 rw [hs,wd3] at w1
 have e1:decide (0≤p)=true:=decide_eq_true h0
 have e3:(!decide (p≤X.w))=false:=by rw [decide_eq_true h1];rfl
 apply kS
 ·rfl
 ·(repeat' (first | walk_at "e" | exact w1 _ | walk_at "a"))
 ·rfl
theorem sJ (B:Bk X ts) (hl:ts.length < 1000) {a b p:Int} {ta tb:Tm} (ha:At ts a ta) (hs:ta.sort=3) (hb:At ts b tb) (hs':tb.sort=3) (h0:0≤p) (h1:p≤X.w) {op:Nat} {f:FDef} (ho:(op=521611141475∧f=dn)∨(op=512970483042∧f=dp)) :
  ∃ i ts',(∀ n,Ca P (n+24) f [.ref 1,.int p,.int a,.int b] (hp st X ts rest) (.int i) (hp st X ts' rest))∧New X ts ts' i ⟨op,[a,b],0,[p]⟩:=by
 refine aX (bZ (st:=st) (rest:=rest) B (op:=op) (args:=[a,b]) (s:=0) (d:=[p]) (.inl rfl) hl) fun i ts' C N=>⟨i,ts',fun n=>?_,N⟩
 have q1:=dD (st:=st) (X:=X) (rest:=rest) ha
 rw [hs] at q1
 refine Or.elim ho (fun e=>?_) fun e=>?_<;>cases e.1<;>cases e.2
 ·apply ao
  ·rfl
  ·(repeat' (first | walk_at "e" | exact aC B ha (.inl hs) _ | exact cx hb hs' _ | exact oI B ha hs h0 h1 _ | exact C _ | walk_at "a"))
  ·rfl
  ·rfl
 ·apply ao
  ·rfl
  ·(repeat' (first | walk_at "e" | exact aC B ha (.inl hs) _ | exact cx hb hs' _ | exact oI B ha hs h0 h1 _ | exact C _ | walk_at "a"))
  ·rfl
  ·rfl
theorem uv (B:Bk X ts) (hl:ts.length < 1000) {a p:Int} {ta:Tm} (ha:At ts a ta) (hs:ta.sort=3) (h0:0≤p) (h1:p < X.w):∃ i ts',(∀ n,Ca P (n+24) bX [.ref 1,.int p,.int a] (hp st X ts rest) (.int i) (hp st X ts' rest))∧New X ts ts' i ⟨7629154,[a],0,[p]⟩:=by
 refine aX (bZ (st:=st) (rest:=rest) B (op:=7629154) (args:=[a]) (s:=0) (d:=[p]) (.inl rfl) hl) fun i ts' C N=>⟨i,ts',fun n=>?_,N⟩
 have w1:=fun n=>a8 (st:=st) (rest:=rest) B ha n
 rw [hs,wd3] at w1
 have e1:decide (0≤p)=true:=decide_eq_true h0
 have e3:(!decide (p < X.w))=false:=by rw [decide_eq_true h1];rfl
 apply ao
 ·rfl
 ·(repeat' (first | walk_at "e" | exact aC B ha (.inl hs) _ | exact w1 _ | exact C _ | walk_at "a"))
 ·rfl
 ·rfl
theorem wt (B:Bk X ts) (hl:ts.length < 1000) {a:Int} {ta:Tm} (ha:At ts a ta) (hs:ta.sort=0) (h3:(∀ H,cop .eq H (.str ta.op) (.str 7630702)=some false)) (h1:a≠1) (h2:a≠2):∃ i ts',(∀ n,Ca P (n+24) bf [.ref 1,.int a] (hp st X ts rest) (.int i) (hp st X ts' rest))∧New X ts ts' i ⟨7630702,[a],0,[0]⟩:=by
 refine aX (bZ (st:=st) (rest:=rest) B (op:=7630702) (args:=[a]) (s:=0) (d:=[0]) (.inl rfl) hl) fun i ts' C N=>⟨i,ts',fun n=>?_,N⟩
 have q:dR (hp st X ts rest) (.ref 7) (.int a)=some (.str ta.op):=ha.sub (f:=fun t=>.str t.op) rfl
 apply ao
 ·rfl
 ·(repeat' (first | walk_at "e" | exact cx ha hs _ | exact C _ | exact h3 _ | walk_at "a"))
 ·rfl
 ·rfl
theorem wq (B:Bk X ts) (n:Nat):Ca P (n+24) bf [.ref 1,.int 1] (hp st X ts rest) (.int 2) (hp st X ts rest):=by
 have ha:At ts 1 tt:=⟨by decide,by decide,B.t⟩
 have q:dR (hp st X ts rest) (.ref 7) (.int 1)=some (.str tt.op):=ha.sub (f:=fun t=>.str t.op) rfl
 apply ao
 ·rfl
 ·(repeat' (first | walk_at "e" | exact cx ha rfl _ | walk_at "a"))
 ·rfl
 ·rfl
theorem ur (B:Bk X ts) (hl:ts.length < 1000) {a b:Int} {ta tb:Tm} (ha:At ts a ta) (hs:ta.sort=3) (hb:At ts b tb) (hs':tb.sort=3) (h:a≠b):∃ i ts',(∀ n,Ca P (n+24) cn [.ref 1,.int a,.int b] (hp st X ts rest) (.int i) (hp st X ts' rest))∧New X ts ts' i ⟨61,[if b < a then b else a,if a < b then b else a],0,[0]⟩:=by
 refine aX (bZ (st:=st) (rest:=rest) B (op:=61) (args:=[if b < a then b else a,if a < b then b else a]) (s:=0) (d:=[0]) (.inl rfl) hl) fun i ts' C N=>⟨i,ts',fun n=>?_,N⟩
 have q1:=dD (st:=st) (X:=X) (rest:=rest) ha
 rw [hs] at q1
 apply ao
 ·rfl
 ·(repeat' (first | walk_at "e" | exact cx hb hs' _ | exact C _ | walk_at "a"))
 ·rfl
 ·rfl
theorem uu (B:Bk X ts) {a:Int} {ta:Tm} (ha:At ts a ta) (hs:ta.sort=3) (n:Nat):Ca P (n+24) cn [.ref 1,.int a,.int a] (hp st X ts rest) (.int 1) (hp st X ts rest):=by
 have q1:=dD (st:=st) (X:=X) (rest:=rest) ha
 rw [hs] at q1
 apply ao
 ·rfl
 ·(repeat' (first | walk_at "e" | exact cx ha hs _ | walk_at "a"))
 ·rfl
 ·rfl
theorem x4 (B:Bk X ts) (hl:ts.length < 1000) {c a b:Int} {tc ta tb:Tm} (hc:At ts c tc) (hs0:tc.sort=0) (ha:At ts a ta) (hs:ta.sort=3) (hb:At ts b tb) (hs':tb.sort=3):∃ i ts',(∀ n,Ca P (n+24) cX [.ref 1,.int c,.int a,.int b] (hp st X ts rest) (.int i) (hp st X ts' rest))∧New X ts ts' i ⟨6648937,[c,a,b],3,[0]⟩:=by
 refine aX (bZ (st:=st) (rest:=rest) B (op:=6648937) (args:=[c,a,b]) (s:=3) (d:=[0]) (.inr (.inl rfl)) hl) fun i ts' C N=>⟨i,ts',fun n=>?_,N⟩
 have q1:=dD (st:=st) (X:=X) (rest:=rest) ha
 rw [hs] at q1
 apply ao
 ·rfl
 ·(repeat' (first | walk_at "e" | exact cx hc hs0 _ | exact cx hb hs' _ | exact C _ | walk_at "a"))
 ·rfl
 ·rfl
theorem wA (B:Bk X ts) (hl:ts.length < 1000) {a b:Int} {ta tb:Tm} (ha:At ts a ta) (hs:ta.sort=0) (hb:At ts b tb) (hs':tb.sort=0):∃ i ts',(∀ n,Ca P (n+28) bO [.ref 1,.tup [.int a,.int b]] (hp st X ts rest) (.int i) (hp st X ts' rest))∧New X ts ts' i ⟨6581857,[a,b],0,[0]⟩:=by
 refine aX (bZ (st:=st) (rest:=rest) B (op:=6581857) (args:=[a,b]) (s:=0) (d:=[0]) (.inl rfl) hl) fun i ts' C N=>⟨i,ts',fun n=>?_,N⟩
 have W:∀ n,Ca P (n+18) cq [.ref 1,.tup [.int a,.int b],.int 0,.str 6581857] (hp st X ts rest) .none (hp st X ts rest):=fun n=>by
  apply kS
  ·rfl
  ·apply xH
   ·(repeat' (first | walk_at "e" | walk_at "a"))
   ·apply c9
    ·rfl
    ·apply Xs.h
     (repeat' (first | walk_at "e" | exact cx ha hs _ | walk_at "a"))
    ·apply c9
     ·rfl
     ·apply Xs.h
      (repeat' (first | walk_at "e" | exact cx hb hs' _ | walk_at "a"))
     ·rfl
   ·exact x_nil
  ·rfl
 apply ao
 ·rfl
 ·(repeat' (first | walk_at "e" | exact W _ | exact C _ | walk_at "a"))
 ·rfl
 ·rfl
end
structure Sg where
 op:Nat
 data:List Int
 s:Int
 ss:List Int
noncomputable def iZ:List Nat:=[431348610658,422877296226,431180838498,491496437346,1919907426,465826575970,465608865378,125792938653282,130195029063266,120282479425122]
noncomputable def asks:List Nat:=[500035843682,435611334242,500035712610,435611203170]
noncomputable def eC (w:Nat):List Sg :=
 iZ.map (fun o=>⟨o,[0],3,[3,3]⟩)++asks.map (fun o=>⟨o,[0],0,[3,3]⟩) ++
 (List.range (w + 1)).flatMap (fun p=>[⟨521611141475,[(p:Int)],0,[3,3]⟩,⟨512970483042,[(p:Int)],0,[3,3]⟩,⟨32760367481649253,[(p:Int) + w - 1,p],3,[4]⟩]) ++
 (List.range w).map (fun p=>⟨7629154,[(p:Int)],0,[3]⟩) ++
 [⟨500085716578,[0],3,[3]⟩,⟨444083369570,[0],3,[3]⟩,⟨61,[0],0,[3,3]⟩,⟨6648937,[0],3,[0,3,3]⟩,⟨7630702,[0],0,[0]⟩,⟨6581857,[0],0,[0,0]⟩,⟨127961628831587,[0],4,[3,3]⟩,⟨121413913788299389262326131,[(w:Int)],4,[3]⟩]
noncomputable def bd (w:Nat) (s:Int):Nat:=if s=3 then 2 ^ w else if s=4 then 4 ^ w else 2
noncomputable def rk (w:Nat) (σ:Sg) (e:List Nat):Nat :=
 let x:=e.headD 0
 let y:=e.getLastD 0
 let p:=(σ.data.getLastD 0).toNat
 let m:=2 ^ w
 let sg:=fun z=>(z + 2 ^ (w - 1)) % m
 let is:=fun c=>Nat.beq σ.op c
 bif is 431348610658 then x &&& y else
 bif is 422877296226 then (x + m - y) % m else
 bif is 431180838498 then (x + y) % m else
 bif is 491496437346 then x ^^^ y else
 bif is 1919907426 then x ||| y else
 bif is 465826575970 then x * y % m else
 bif is 465608865378 then (bif Nat.ble w y then 0 else x * 2 ^ y % m) else
 bif is 125792938653282 then (bif Nat.ble w y then 0 else x / 2 ^ y) else
 bif is 130195029063266 then (bif Nat.beq y 0 then m - 1 else x / y) else
 bif is 120282479425122 then (bif Nat.beq y 0 then x else x % y) else
 bif is 500035843682 then (Nat.blt x y).toNat else
 bif is 435611334242 then (Nat.ble x y).toNat else
 bif is 500035712610 then (Nat.blt (sg x) (sg y)).toNat else
 bif is 435611203170 then (Nat.ble (sg x) (sg y)).toNat else
 bif is 521611141475 then (x % 2 ^ p + y % 2 ^ p) / 2 ^ p else
 bif is 512970483042 then (Nat.blt (x % 2 ^ p) (y % 2 ^ p)).toNat else
 bif is 32760367481649253 then x / 2 ^ p % m else
 bif is 7629154 then x / 2 ^ p % 2 else
 bif is 500085716578 then m - 1 - x else
 bif is 444083369570 then (m - x) % m else
 bif is 61 then (Nat.beq x y).toNat else
 bif is 6648937 then (bif Nat.beq x 1 then e.getD 1 0 else e.getD 2 0) else
 bif is 7630702 then 1 - x else
 bif is 6581857 then min x y else
 bif is 127961628831587 then x * m + y else
 (bif Nat.ble (2 ^ (w - 1)) x then x + (4 ^ w - m) else x)
noncomputable def bx (l:List Nat):List V:=l.map fun (k:Nat)=>V.int (k:Int)
noncomputable def t9 (w:Nat) (σ:Sg) (e:List Nat):List V:=[.ref 13,.str σ.op,.lst (bx e),dv σ.data,.int (wd w σ.s),.int (wd w (σ.ss.getLastD 0))]
noncomputable def allOf (w:Nat):List Int→List (List Nat)
 | []=>[[]]
 | s :: ss=>(List.range (bd w s)).flatMap fun x=>(allOf w ss).map (x :: ·)
noncomputable def jd:O:=.inst 7306919375355013442 [(1802396002,.ref 1),(126879447277940,.ref 14)]
noncomputable def dom (w:Nat):List (Sg×List Nat):=(eC w).flatMap fun σ=>(allOf w σ.ss).map fun e=>(σ,e)
noncomputable def mp {α β:Type} (f:α→β):List α→List β
 | []=>[]
 | a :: l=>f a :: mp f l
theorem ot {α β:Type} {f g:α→β}:∀ {l:List α},l.map f=mp g l→∀ a∈l,f a=g a
 | _ :: _,h,a,m=>by
  injection h with h1 h2
  refine Or.elim (List.mem_cons.mp m) (fun e=>?_) fun m=>?_
  ·rw [e];exact h1
  ·exact ot h2 a m
section
variable {st:O} {X:Ext} {ts:List Tm} {rest:Hp} {n:Nat}
theorem rk1:(dom 1).map (fun q=>cH (sem P (n+40)) bg (t9 1 q.1 q.2) (hp st X ts (jd :: rest)))=mp (fun q=>some (V.int (rk 1 q.1 q.2:Nat),hp st X ts (jd :: rest))) (dom 1):=by kernel_rfl
theorem rk2:(dom 2).map (fun q=>cH (sem P (n+40)) bg (t9 2 q.1 q.2) (hp st X ts (jd :: rest)))=mp (fun q=>some (V.int (rk 2 q.1 q.2:Nat),hp st X ts (jd :: rest))) (dom 2):=by kernel_rfl
end
theorem jD {w:Nat} {σ:Sg} {e:List Nat} (hσ:σ∈eC w) (he:e∈allOf w σ.ss):(σ,e)∈dom w:=List.mem_flatMap.mpr ⟨σ,hσ,List.mem_map.mpr ⟨e,he,rfl⟩⟩
theorem rf {w:Nat} (hw:w=1∨w=2) {σ:Sg} {e:List Nat} (hσ:σ∈eC w) (he:e∈allOf w σ.ss) {st:O} {X:Ext} {ts:List Tm} {rest:Hp} (n:Nat):Ca P (n+40) bg (t9 w σ e) (hp st X ts (jd :: rest)) (.int (rk w σ e:Nat)) (hp st X ts (jd :: rest)):=by
 refine Or.elim hw (fun q=>?_) fun q=>?_<;>subst q
 ·have h:=ot (rk1 (st:=st) (X:=X) (ts:=ts) (rest:=rest) (n:=n)) (σ,e) (jD hσ he)
  dsimp only at h
  exact ⟨h⟩
 ·have h:=ot (rk2 (st:=st) (X:=X) (ts:=ts) (rest:=rest) (n:=n)) (σ,e) (jD hσ he)
  dsimp only at h
  exact ⟨h⟩
theorem qM {w:Nat} (hw:w=1∨w=2) {σ:Sg} {e:List Nat} (hσ:σ∈eC w) (he:e∈allOf w σ.ss):rk w σ e < bd w σ.s:=by
 have key:∀ w∈[1,2],(dom w).all (fun q=>Nat.blt (rk w q.1 q.2) (bd w q.1.s))=true:=by decide +kernel
 have h:=List.all_eq_true.mp (key w (by refine Or.elim hw (fun q=>?_) fun q=>?_<;>rw [q]<;>decide)) _ (jD hσ he)
 exact Nat.le_of_ble_eq_true h
theorem dx {w:Nat} {s:Int} {ss:List Int} {x:Nat} {e:List Nat} (h:x < bd w s) (k:e∈allOf w ss):(x :: e)∈allOf w (s :: ss):=List.mem_flatMap.mpr ⟨x,List.mem_range.mpr h,List.mem_map.mpr ⟨e,k,rfl⟩⟩
theorem iu {w:Nat}:[]∈allOf w []:=List.mem_singleton.mpr rfl
noncomputable def fZ (ts:List Tm):List Int→List Int→Prop
 | [],ss=>ss=[]
 | a :: as,ss=>∃ tm r,At ts a tm∧ss=tm.sort :: r∧fZ ts as r
theorem fZ.uniq {ts:List Tm}:∀ {as ss rr:List Int},fZ ts as ss→fZ ts as rr→ss=rr
 | [],_,_,h,k=>h.trans k.symm
 | a :: as,_,_,h,k=>by
  refine aW h fun t r h1 h2 h3=>?_
  refine aW k fun t' r' k1 k2 k3=>?_
  rw [h2,k2,h1.uniq k1,fZ.uniq h3 k3]
theorem fZ.up {ts ts':List Tm} (p:ts <+: ts'):∀ {as ss:List Int},fZ ts as ss→fZ ts' as ss
 | [],_,h=>h
 | a :: as,_,h=>by
  refine aW h fun t r h1 h2 h3=>?_
  exact ⟨t,r,h1.up p,h2,h3.up p⟩
noncomputable def ju (tm:Tm):Option (Option (Nat→Nat)) :=
 bif Nat.beq tm.op 470121608802 then (match tm.data with | [k]=>if 0≤k then some (some fun _=>k.toNat) else none | _=>none)
 else bif Nat.beq tm.op 1702195828 then some (some fun _=>1)
 else bif Nat.beq tm.op 435728179558 then some (some fun _=>0)
 else bif Nat.beq tm.op 7368801 then some none else none
noncomputable abbrev Cn:=Option (Nat→Nat)
noncomputable def qk (R:Int→(Nat→Nat)→Prop):List Int→List (Nat→Nat)→Prop
 | [],gs=>gs=[]
 | a :: as,gs=>∃ g r,R a g∧gs=g :: r∧qk R as r
theorem qk.mono {R R':Int→(Nat→Nat)→Prop} (h:∀ a c,R a c→R' a c):∀ {as:List Int} {gs:List (Nat→Nat)},qk R as gs→qk R' as gs
 | [],_,k=>k
 | _ :: _,_,k=>by
  refine aW k fun g r h1 h2 h3=>?_
  exact ⟨g,r,h _ _ h1,h2,h3.mono h⟩
theorem qk.uniq {R R':Int→(Nat→Nat)→Prop} (h:∀ a c c',R a c→R' a c'→c=c'):∀ {as:List Int} {gs gs':List (Nat→Nat)},qk R as gs→qk R' as gs'→gs=gs'
 | [],_,_,k,l=>k.trans l.symm
 | _ :: _,_,_,k,l=>by
  refine aW k fun g r h1 h2 h3=>?_
  refine aW l fun g' r' k1 k2 k3=>?_
  rw [h2,k2,h _ _ _ h1 k1,h3.uniq h k3]
theorem qk.each {R:Int→(Nat→Nat)→Prop}:∀ {as:List Int} {gs:List (Nat→Nat)},qk R as gs→∀ a∈as,∃ g,R a g
 | _ :: _,_,k,a,m=>by
  refine aW k fun g r h1 h2 h3=>?_
  refine Or.elim (List.mem_cons.mp m) (fun e=>?_) fun m=>?_
  ·exact ⟨g,e▸h1⟩
  ·exact h3.each a m
structure Nd (w:Nat) (ts:List Tm) (R:Int→Cn→Prop) (tm:Tm) (gs:List (Nat→Nat)) (σ:Sg):Prop where
 a:qk (fun a g=>R a (some g)) tm.args gs
 s:σ∈eC w
 e:tm.op=σ.op∧tm.data=σ.data∧tm.sort=σ.s
 ss:fZ ts tm.args σ.ss
 ok:∀ j,gs.map (· j)∈allOf w σ.ss
structure Dd (R:Int→Cn→Prop) (tm:Tm) (cs:Int→Cn):Prop where
 a:∀ a∈tm.args,R a (cs a)
 n:∃ a∈tm.args,cs a=none
 l:tm.args.length≤4
noncomputable def One (w:Nat) (ts:List Tm) (R:Int→Cn→Prop) (tm:Tm) (c:Cn):Prop :=
 (tm.args=[]∧ju tm=some c)∨(∃ cs,Dd R tm cs∧c=none)∨∃ gs σ,Nd w ts R tm gs σ∧c=some fun j=>rk w σ (gs.map (· j))
noncomputable def fr (w i:Nat) (j:Nat):Nat:=j / 2 ^ (i * w) % 2 ^ w
noncomputable def Col (w:Nat) (ts:List Tm) (f:List Int):Nat→Int→Cn→Prop
 | 0,_,_=>False
 | d + 1,t,c=>(∃ i,f[i]?=some t∧c=some (fr w i))∨(t∉f∧∃ tm,At ts t tm∧One w ts (Col w ts f d) tm c)
theorem One.mono {w:Nat} {ts ts':List Tm} (p:ts <+: ts') {R R':Int→Cn→Prop} (h:∀ a c,R a c→R' a c) {tm:Tm} {c:Cn} (o:One w ts R tm c):One w ts' R' tm c:=by
 rcases o with o | ⟨cs,o,e⟩ | ⟨g,σ,o,e⟩
 ·exact .inl o
 ·exact .inr (.inl ⟨cs,⟨fun a m=>h a _ (o.a a m),o.n,o.l⟩,e⟩)
 ·exact .inr (.inr ⟨g,σ,⟨o.a.mono fun a c=>h a _,o.s,o.e,o.ss.up p,o.ok⟩,e⟩)
theorem Col.up {w:Nat} {ts ts':List Tm} (p:ts <+: ts') {f:List Int}:∀ {d d':Nat},d≤d'→∀ {t:Int} {c:Cn},Col w ts f d t c→Col w ts' f d' t c
 | 0,_,_,_,_,h=>h.elim
 | d + 1,0,q,_,_,_=>(Nat.not_succ_le_zero d q).elim
 | d + 1,d' + 1,q,t,c,h=>by
  rcases h with h | ⟨h1,tm,h2,h3⟩
  ·exact .inl h
  ·exact .inr ⟨h1,tm,h2.up p,h3.mono p fun a c k=>Col.up p (Nat.le_of_succ_le_succ q) k⟩
theorem tU {w:Nat} {σ:Sg} (h:σ∈eC w) (hw:w=1∨w=2):σ.ss≠[]:=by
 have key:∀ w∈[1,2],(eC w).all (fun σ=>!σ.ss.isEmpty)=true:=by decide +kernel
 have:=List.all_eq_true.mp (key w (by refine Or.elim hw (fun q=>?_) fun q=>?_<;>rw [q]<;>decide)) _ h
 intro e;rw [e] at this;cases this
theorem Nd.args {w:Nat} (hw:w=1∨w=2) {ts:List Tm} {R:Int→Cn→Prop} {tm:Tm} {g:List (Nat→Nat)} {σ:Sg} (N:Nd w ts R tm g σ):tm.args≠[]:=fun e=>by
 have:=N.ss
 rw [e] at this
 exact tU N.s hw this
theorem Sg.ext' {σ τ:Sg} (h1:σ.op=τ.op) (h2:σ.data=τ.data) (h3:σ.s=τ.s) (h4:σ.ss=τ.ss):σ=τ:=by
 cases σ;cases τ;cases h1;cases h2;cases h3;cases h4;rfl
theorem Col.det {w:Nat} (hw:w=1∨w=2) {ts:List Tm} {f:List Int} (hf:f.Nodup):∀ {d d':Nat} {t:Int} {c c':Cn},Col w ts f d t c→Col w ts f d' t c'→c=c'
 | 0,_,_,_,_,h,_=>h.elim
 | _ + 1,0,_,_,_,_,h=>h.elim
 | d + 1,d' + 1,t,c,c',h,k=>by
  rcases h with ⟨i,h1,h2⟩ | ⟨h1,tm,h2,h3⟩<;>rcases k with ⟨i',k1,k2⟩ | ⟨k1,tm',k2,k3⟩
  ·have hi:=(List.getElem?_eq_some_iff.mp h1)
   have hk:=(List.getElem?_eq_some_iff.mp k1)
   rw [h2,k2,(List.getElem?_inj hi.1 hf).mp (h1.trans k1.symm)]
  ·exact (k1 (List.mem_of_getElem? h1)).elim
  ·exact (h1 (List.mem_of_getElem? k1)).elim
  ·cases h2.uniq k2
   rcases h3 with h3 | ⟨cs,h3,e⟩ | ⟨g,σ,h3,e⟩<;>rcases k3 with k3 | ⟨cs',k3,e'⟩ | ⟨g',σ',k3,e'⟩
   ·exact Option.some.inj (h3.2.symm.trans k3.2)
   ·refine ae k3.n fun a m _=>?_;rw [h3.1] at m;cases m
   ·exact (k3.args hw h3.1).elim
   ·refine ae h3.n fun a m _=>?_;rw [k3.1] at m;cases m
   ·rw [e,e']
   ·refine ae h3.n fun a m q=>?_
    refine aG (k3.a.each a m) fun g k=>?_
    have:=Col.det hw hf (h3.a a m) k
    rw [q] at this;cases this
   ·exact (h3.args hw k3.1).elim
   ·refine ae k3.n fun a m q=>?_
    refine aG (h3.a.each a m) fun g k=>?_
    have:=Col.det hw hf k (k3.a a m)
    rw [q] at this;cases this
   ·have es:σ=σ':=Sg.ext' (h3.e.1.symm.trans k3.e.1) (h3.e.2.1.symm.trans k3.e.2.1) (h3.e.2.2.symm.trans k3.e.2.2) (h3.ss.uniq k3.ss)
    have eg:g=g':=qk.uniq (R:=fun a g=>Col w ts f d a (some g)) (R':=fun a g=>Col w ts f d' a (some g)) (fun a c c' h k=>Option.some.inj (Col.det hw hf h k)) h3.a k3.a
    rw [e,e',es,eg]
noncomputable def Fre (ts:List Tm) (lv f:List Int):Prop:=∀ t∈f,∃ tm,At ts t tm∧(tm.op=7368801∨∃ x r tx,tm.args=x :: r∧At ts x tx∧tx.op=7368801∧x∉lv)
noncomputable def Nl (ts:List Tm) (lv:List Int) (t:Int):Prop:=t∈lv∨∃ tm,At ts t tm∧tm.op≠7368801
theorem Nl.up {ts ts':List Tm} (p:ts <+: ts') {lv:List Int} {t:Int} (h:Nl ts lv t):Nl ts' lv t:=h.imp_right fun ⟨tm,a,b⟩=>⟨tm,a.up p,b⟩
theorem Fre.not {ts:List Tm} {lv f:List Int} (F:Fre ts lv f) {t:Int} {tm:Tm} (a:At ts t tm) (ho:tm.op≠7368801) (hx:∀ x r,tm.args=x :: r→Nl ts lv x):t∉f:=fun m=>by
 refine ae (F t m) fun tm' a' h=>?_
 cases a.uniq a'
 rcases h with h | ⟨x,r,tx,h1,h2,h3,h4⟩
 ·exact ho h
 ·rcases hx x r h1 with q | ⟨ty,q1,q2⟩
  ·exact h4 q
  ·cases h2.uniq q1;exact q2 h3
noncomputable def InR (w:Nat) (lv:List Int) (v:List Nat):Prop:=v.length=lv.length∧∀ x∈v,x < 2 ^ w
structure Ctx (w:Nat) (ts:List Tm) (lv f:List Int) (d:Nat) (cs:Nat→List Nat):Prop where
 nd:f.Nodup
 fr:Fre ts lv f
 col:∀ (i:Nat) (l:Int),lv[i]?=some l→Col w ts f d l (some fun j=>(cs j).getD i 0)
 r:∀ j,InR w lv (cs j)
noncomputable def Rg (w:Nat) (s:Int) (c:Cn):Prop:=∀ g,c=some g→∀ j,g j < bd w s
noncomputable def Has (w:Nat) (ts:List Tm) (f:List Int) (d:Nat) (s t:Int):Prop:=∃ c,Col w ts f d t c∧Rg w s c
structure Sem (w:Nat) (ts:List Tm) (lv:List Int) (t s:Int) (k:Nat) (g:List Nat→Nat):Prop where
 at_:∃ tm,At ts t tm∧tm.sort=s
 nl:Nl ts lv t
 lt:∀ v,InR w lv v→g v < bd w s
 col:∀ ts' f d cs,ts <+: ts'→Ctx w ts' lv f d cs→Col w ts' f (d + k) t (some fun j=>g (cs j))
 any:∀ ts' f d,ts <+: ts'→Fre ts' lv f→(∀ l∈lv,Has w ts' f d 3 l)→Has w ts' f (d + k) s t
theorem Has.up {w:Nat} {ts:List Tm} {f:List Int} {d d':Nat} {s t:Int} (h:Has w ts f d s t) (q:d≤d'):Has w ts f d' s t:=h.imp fun c a=>⟨a.1.up (List.prefix_refl _) q,a.2⟩
section
variable {w:Nat} {ts ts':List Tm} {lv:List Int} {t s:Int} {k:Nat} {g:List Nat→Nat}
theorem Sem.up (h:Sem w ts lv t s k g) (p:ts <+: ts'):Sem w ts' lv t s k g :=
 ⟨h.at_.imp fun tm a=>⟨a.1.up p,a.2⟩,h.nl.up p,h.lt,fun ts₁ f d cs q c=>h.col ts₁ f d cs (p.trans q) c,fun ts₁ f d q F H=>h.any ts₁ f d (p.trans q) F H⟩
theorem Sem.more (h:Sem w ts lv t s k g) {k':Nat} (q:k≤k'):Sem w ts lv t s k' g :=
 ⟨h.at_,h.nl,h.lt,fun ts₁ f d cs p c=>(h.col ts₁ f d cs p c).up (List.prefix_refl _) (Nat.add_le_add_left q d),fun ts₁ f d p F H=>(h.any ts₁ f d p F H).up (Nat.add_le_add_left q d)⟩
theorem Sem.leaf {i:Nat} (h:lv[i]?=some t) {tm:Tm} (a:At ts t tm) (e:tm.sort=3):Sem w ts lv t 3 0 (fun v=>v.getD i 0):=by
 refine ⟨⟨tm,a,e⟩,.inl (List.mem_of_getElem? h),fun v r=>?_,fun ts' f d cs p c=>c.col i t h,fun ts' f d p F H=>H t (List.mem_of_getElem? h)⟩
 have hl:=(List.getElem?_eq_some_iff.mp h).1
 rw [← r.1] at hl
 show v.getD i 0 < 2 ^ w
 rw [List.getD_eq_getElem?_getD,List.getElem?_eq_getElem hl]
 exact r.2 _ (List.getElem_mem hl)
theorem Sem.cst {op:Nat} {d:List Int} {x:Nat} (a:At ts t ⟨op,[],s,d⟩) (ho:op≠7368801) (l:ju ⟨op,[],s,d⟩=some (some fun _=>x)) (hx:x < bd w s):Sem w ts lv t s 1 (fun _=>x) :=
 ⟨⟨_,a,rfl⟩,.inr ⟨_,a,ho⟩,fun v r=>hx,fun ts' f d cs p c=>.inr ⟨c.fr.not (a.up p) ho (fun x r e=>by cases e),_,a.up p,.inl ⟨rfl,l⟩⟩,fun ts' f d p F H=>⟨_,.inr ⟨F.not (a.up p) ho (fun x r e=>by cases e),_,a.up p,.inl ⟨rfl,l⟩⟩,fun g e j=>by cases e;exact hx⟩⟩
theorem j3 (hw:w=1∨w=2) {σ:Sg} (h:σ∈eC w):σ.op≠7368801:=by
 have key:∀ w∈[1,2],(eC w).all (fun σ=>!(Nat.beq σ.op 7368801))=true:=by decide +kernel
 have:=List.all_eq_true.mp (key w (by refine Or.elim hw (fun q=>?_) fun q=>?_<;>rw [q]<;>decide)) _ h
 intro e;rw [e] at this;cases this
noncomputable def Sms (w:Nat) (ts:List Tm) (lv:List Int) (k:Nat):List Int→List Int→List (List Nat→Nat)→Prop
 | [],ss,gs=>ss=[]∧gs=[]
 | a :: as,ss,gs=>∃ s g ss' gs',Sem w ts lv a s k g∧ss=s :: ss'∧gs=g :: gs'∧Sms w ts lv k as ss' gs'
theorem Sms.ok:∀ {as ss:List Int} {gs:List (List Nat→Nat)},Sms w ts lv k as ss gs→fZ ts as ss∧(∀ v,InR w lv v→gs.map (· v)∈allOf w ss)∧∀ ts' f d cs,ts <+: ts'→Ctx w ts' lv f d cs→qk (fun a g=>Col w ts' f (d + k) a (some g)) as (gs.map fun g j=>g (cs j))
 | [],_,_,⟨e1,e2⟩=>by rw [e1,e2];exact ⟨rfl,fun _ _=>iu,fun _ _ _ _ _ _=>rfl⟩
 | a :: as,_,_,⟨s,g,ss',gs',h,e1,e2,r⟩=>by
  refine du (Sms.ok r) fun h1 h2 h3=>?_
  refine ae h.at_ fun tm a1 a2=>?_
  rw [e1,e2]
  exact ⟨⟨tm,ss',a1,by rw [a2],h1⟩,fun v q=>dx (h.lt v q) (h2 v q),fun ts' f d cs p c=>⟨_,_,h.col ts' f d cs p c,rfl,h3 ts' f d cs p c⟩⟩
theorem Sms.any {ts':List Tm} {f:List Int} {d:Nat} (p:ts <+: ts') (F:Fre ts' lv f) (H:∀ l∈lv,Has w ts' f d 3 l):∀ {as ss:List Int} {gs:List (List Nat→Nat)},Sms w ts lv k as ss gs→(∃ hs,qk (fun a g=>Col w ts' f (d + k) a (some g)) as hs∧∀ j,hs.map (· j)∈allOf w ss)∨∃ cs:Int→Cn,(∀ a∈as,Col w ts' f (d + k) a (cs a))∧∃ a∈as,cs a=none
 | [],_,_,⟨e1,e2⟩=>.inl ⟨[],rfl,fun _=>by rw [e1];exact iu⟩
 | a :: as,_,_,⟨s,g,ss',gs',h,e1,e2,r⟩=>by
  have each:∀ {as ss:List Int} {gs:List (List Nat→Nat)},Sms w ts lv k as ss gs→∀ b∈as,∃ c,Col w ts' f (d + k) b c:=fun {as}=>by
   induction as with
   | nil=>intro _ _ _ b m;cases m
   | cons a as ih =>
    intro ss gs h b m
    refine yw h fun s g ss' gs' h e1 e2 r=>?_
    refine Or.elim (List.mem_cons.mp m) (fun e=>?_) fun m=>?_
    ·rw [e];exact (h.any ts' f d p F H).imp fun c q=>q.1
    ·exact ih r b m
  refine ae (h.any ts' f d p F H) fun c h1 h2=>?_
  by_cases q:∃ b∈a :: as,Col w ts' f (d + k) b none
  ·refine ae q fun b mb hb=>?_
   classical
   refine .inr ⟨fun x=>if Col w ts' f (d + k) x none then none else if hx:∃ c,Col w ts' f (d + k) x c then hx.choose else none,fun x mx=>?_,b,mb,if_pos hb⟩
   dsimp only
   by_cases z:Col w ts' f (d + k) x none
   ·rw [if_pos z];exact z
   ·have hx:=each (as:=a :: as) (ss:=s :: ss') (gs:=g :: gs') ⟨s,g,ss',gs',h,rfl,rfl,r⟩ x mx
    rw [if_neg z,dif_pos hx];exact hx.choose_spec
  ·rcases Sms.any p F H r with ⟨hs,a1,a2⟩ | ⟨cs,a1,b,mb,hb⟩
   ·cases c with
    | none=>exact (q ⟨a,.head _,h1⟩).elim
    | some g0=>exact .inl ⟨g0 :: hs,⟨g0,hs,h1,rfl,a1⟩,fun j=>by rw [e1];exact dx (h2 g0 rfl j) (a2 j)⟩
   ·exact (q ⟨b,.tail _ mb,hb▸a1 b mb⟩).elim
theorem Sem.node (hw:w=1∨w=2) {σ:Sg} (hσ:σ∈eC w) {args:List Int} {gs:List (List Nat→Nat)} (S:Sms w ts lv k args σ.ss gs) (a:At ts t ⟨σ.op,args,σ.s,σ.data⟩):Sem w ts lv t σ.s (k + 1) (fun v=>rk w σ (gs.map (· v))):=by
 refine du S.ok fun h1 h2 h3=>?_
 refine ⟨⟨_,a,rfl⟩,.inr ⟨_,a,j3 hw hσ⟩,fun v r=>qM hw hσ (h2 v r),fun ts' f d cs p c=>.inr ⟨c.fr.not (a.up p) (j3 hw hσ) (fun x r e=>?_),_,a.up p,.inr (.inr ⟨_,σ,⟨h3 ts' f d cs p c,hσ,⟨rfl,rfl,rfl⟩,h1.up p,fun j=>?_⟩,congrArg some (funext fun j=>?_)⟩)⟩,fun ts' f d p F H=>?_⟩
 ·replace e:args=x :: r:=e
  rw [e] at S
  refine vF S fun _ _ _ _ h _=>?_
  exact h.nl.up p
 ·have:=h2 (cs j) (c.r j)
  rw [List.map_map];exact this
 ·rw [List.map_map];rfl
 ·have nf:t∉f:=F.not (a.up p) (j3 hw hσ) fun x r e=>by
   replace e:args=x :: r:=e
   rw [e] at S
   refine vF S fun _ _ _ _ h _=>?_
   exact h.nl.up p
  have al:args.length≤4:=by
   have key:∀ w∈[1,2],(eC w).all (fun σ=>Nat.ble σ.ss.length 4)=true:=by decide +kernel
   have:=Nat.le_of_ble_eq_true (List.all_eq_true.mp (key w (by refine Or.elim hw (fun q=>?_) fun q=>?_<;>rw [q]<;>decide)) _ hσ)
   have e:∀ {as ss:List Int},fZ ts as ss→as.length=ss.length:=fun {as}=>by
    induction as with
    | nil=>intro ss h;rw [show ss=[] from h]
    | cons b as ih=>intro ss h;refine aW h fun t r _ e h=>?_;rw [e,List.length_cons,List.length_cons,ih h]
   rw [e h1];exact this
  rcases S.any p F H with ⟨hs,a1,a2⟩ | ⟨cs,a1,a2⟩
  ·exact ⟨_,.inr ⟨nf,_,a.up p,.inr (.inr ⟨hs,σ,⟨a1,hσ,⟨rfl,rfl,rfl⟩,h1.up p,a2⟩,rfl⟩)⟩,fun g e j=>by cases e;exact qM hw hσ (a2 j)⟩
  ·exact ⟨none,.inr ⟨nf,_,a.up p,.inr (.inl ⟨cs,⟨a1,a2,al⟩,rfl⟩)⟩,fun g e=>by cases e⟩
end
structure Gr (X X':Ext) (ts ts':List Tm) (m:Nat):Prop where
 pre:ts <+: ts'
 bk:Bk X' ts'
 w:X'.w=X.w
 len:ts'.length≤ts.length + m
theorem Gr.trans {X X' X2:Ext} {ts ts' ts2:List Tm} {m m':Nat} (a:Gr X X' ts ts' m) (b:Gr X' X2 ts' ts2 m'):Gr X X2 ts ts2 (m + m'):=⟨a.pre.trans b.pre,b.bk,b.w.trans a.w,by have:=a.len;have:=b.len;(clear a;lia)⟩
theorem New.gr {X:Ext} {ts ts':List Tm} {i:Int} {t:Tm} (N:New X ts ts' i t):Gr X X ts ts' 1:=⟨N.pre,N.bk,rfl,N.len⟩
theorem New.grF {X:Ext} {ts ts':List Tm} {i:Int} {t:Tm} (N:New X.full ts ts' i t):Gr X X.full ts ts' 1:=⟨N.pre,N.bk,rfl,N.len⟩
noncomputable def Bj (w:Nat) (ρ:Lo) (lv:List Int) (t0:List Tm) (q:Nat) (e:E) (s:Int) (m k:Nat) (g:List Nat→Nat):Prop :=
 ∀ (st:O) (rest:Hp) (X:Ext) (ts:List Tm),t0 <+: ts→Bk X ts→X.w=w→ts.length + m < 1000→∃ t X' ts',(∀ n,Ev P (n+q) e ρ (hp st X ts rest) (.int t) (hp st X' ts' rest))∧Gr X X' ts ts' m∧Sem w ts' lv t s k g
noncomputable def Pe (ρ:Lo) (q:Nat) (e:E) (v:V):Prop:=∀ n H,Ev P (n+q) e ρ H v H
theorem ip {w op:Nat} (h:op∈iZ):(⟨op,[0],3,[3,3]⟩:Sg)∈eC w:=List.mem_append_left _ (List.mem_append_left _ (List.mem_append_left _ (List.mem_append_left _ (List.mem_map.mpr ⟨op,h,rfl⟩))))
theorem sy {w op:Nat} (h:op∈asks):(⟨op,[0],0,[3,3]⟩:Sg)∈eC w:=List.mem_append_left _ (List.mem_append_left _ (List.mem_append_left _ (List.mem_append_right _ (List.mem_map.mpr ⟨op,h,rfl⟩))))
theorem je {w p:Nat} (h:p≤w) {σ:Sg} (m:σ∈[(⟨521611141475,[(p:Int)],0,[3,3]⟩:Sg),⟨512970483042,[(p:Int)],0,[3,3]⟩,⟨32760367481649253,[(p:Int) + w - 1,p],3,[4]⟩]):σ∈eC w:=List.mem_append_left _ (List.mem_append_left _ (List.mem_append_right _ (List.mem_flatMap.mpr ⟨p,List.mem_range.mpr (Nat.lt_succ_of_le h),m⟩)))
theorem sv {w p:Nat} (h:p < w):(⟨7629154,[(p:Int)],0,[3]⟩:Sg)∈eC w:=List.mem_append_left _ (List.mem_append_right _ (List.mem_map.mpr ⟨p,List.mem_range.mpr h,rfl⟩))
theorem jR {op:Nat} (h:op∈iZ):∀ H,cop .isin H (.str op) lF=some true:=fun H=>by
 have:(iZ.all fun op=>(cop .isin [] (.str op) lF==some true))=true:=by decide +kernel
 exact beq_iff_eq.mp (List.all_eq_true.mp this op h)
theorem kY {op:Nat} (h:op∈asks):(∀ H,cop .isin H (.str op) lF=some false)∧∀ H,cop .isin H (.str op) (.tup [.str 500035843682,.str 435611334242,.str 500035712610,.str 435611203170])=some true:=by
 have:(asks.all fun op=>(cop .isin [] (.str op) lF==some false)&&(cop .isin [] (.str op) (.tup [.str 500035843682,.str 435611334242,.str 500035712610,.str 435611203170])==some true))=true:=by decide +kernel
 have:=cB (List.all_eq_true.mp this op h)
 exact ⟨fun H=>beq_iff_eq.mp this.1,fun H=>beq_iff_eq.mp this.2⟩
section
variable {w:Nat} {ρ:Lo} {lv:List Int} {t0:List Tm} {q m m1 m2 m3 k k1 k2 k3:Nat} {a b c:E} {ga gb gc:List Nat→Nat} {s s' s3:Int}
theorem Sms.one {ts:List Tm} {k:Nat} {a:Int} (A:Sem w ts lv a s k ga):Sms w ts lv k [a] [s] [ga]:=⟨_,_,_,_,A,rfl,rfl,rfl,rfl⟩
theorem Sms.cons {ts:List Tm} {k:Nat} {a:Int} {as ss:List Int} {gs:List (List Nat→Nat)} (A:Sem w ts lv a s k ga) (r:Sms w ts lv k as ss gs):Sms w ts lv k (a :: as) (s :: ss) (ga :: gs):=⟨_,_,_,_,A,rfl,rfl,r⟩
theorem Bj.and {q':Nat} (A:Bj w ρ lv t0 q a s m1 k1 ga) (B:Bj w ρ lv t0 q' b s' m2 k2 gb) (st:O) (rest:Hp) {X:Ext} {ts:List Tm} (p:t0 <+: ts) (K:Bk X ts) (hw:X.w=w) (hl:ts.length + (m1 + m2) < 1000) :
  ∃ ta tb X1 ts1 X' ts',(∀ n,Ev P (n+q) a ρ (hp st X ts rest) (.int ta) (hp st X1 ts1 rest))∧(∀ n,Ev P (n+q') b ρ (hp st X1 ts1 rest) (.int tb) (hp st X' ts' rest))∧Gr X X' ts ts' (m1 + m2)∧Sem w ts' lv ta s (k1 + k2) ga∧Sem w ts' lv tb s' (k1 + k2) gb:=by
 refine aT (A st rest X ts p K hw (by lia)) fun ta X1 ts1 E1 G1 S1=>?_
 refine aT (B st rest X1 ts1 (p.trans G1.pre) G1.bk (G1.w.trans hw) (by have:=G1.len;lia)) fun tb X' ts' E2 G2 S2=>?_
 exact ⟨ta,tb,X1,ts1,X',ts',E1,E2,G1.trans G2,(S1.up G2.pre).more (by lia),S2.more (by lia)⟩
theorem Bj.at_ {t:Int} (h:Pe ρ q a (.int t)) (S:Sem w t0 lv t s k ga):Bj w ρ lv t0 q a s 0 k ga:=fun st rest X ts p K hw hl =>
 ⟨t,X,ts,fun n=>h n _,⟨List.prefix_refl _,K,rfl,by lia⟩,S.up p⟩
theorem hwn {X:Ext} {ts:List Tm} (K:Bk X ts) (hw:X.w=w):w=1∨w=2:=by have:=K.w;lia
theorem Bj.two {oe:E} {op:Nat} (hb:Lk ρ 1802396002 (.ref 1)) (ho:Pe ρ (q+24) oe (.str op)) (hop:op∈iZ) (A:Bj w ρ lv t0 (q+24) a 3 m1 k1 ga) (B:Bj w ρ lv t0 (q+24) b 3 m2 k2 gb):Bj w ρ lv t0 (q+25) (.meth (.var 1802396002) 122558844204642 [oe,a,b]) 3 (m1 + m2 + 1) (k1 + k2 + 1) (fun v=>rk w ⟨op,[0],3,[3,3]⟩ [ga v,gb v]):=by
 intro st rest X ts p K hw hl
 refine qn (Bj.and A B st rest p K hw (by lia)) fun ta tb X1 ts1 X' ts' E1 E2 G Sa Sb=>?_
 refine ae Sa.at_ fun tma a1 a2=>?_
 refine ae Sb.at_ fun tmb b1 b2=>?_
 refine aX (rd (st:=st) (rest:=rest) G.bk (by have:=G.len;lia) (jR hop) a1 a2 b1 b2) fun i ts2 C N=>?_
 refine ⟨i,X',ts2,fun n=>?_,G.trans N.gr,Sem.node (hwn K hw) (ip hop) (.cons (Sa.up N.pre) (.one (Sb.up N.pre))) N.at_⟩
 (repeat' (first | walk_at "e" | exact ho _ _ | exact E1 _ | exact E2 _ | exact C _ | walk_at "a"))
theorem Bj.ask {oe:E} {op:Nat} (hb:Lk ρ 1802396002 (.ref 1)) (ho:Pe ρ (q+24) oe (.str op)) (hop:op∈asks) (A:Bj w ρ lv t0 (q+24) a 3 m1 k1 ga) (B:Bj w ρ lv t0 (q+24) b 3 m2 k2 gb):Bj w ρ lv t0 (q+25) (.meth (.var 1802396002) 122558844204642 [oe,a,b]) 0 (m1 + m2 + 1) (k1 + k2 + 1) (fun v=>rk w ⟨op,[0],0,[3,3]⟩ [ga v,gb v]):=by
 intro st rest X ts p K hw hl
 refine qn (Bj.and A B st rest p K hw (by lia)) fun ta tb X1 ts1 X' ts' E1 E2 G Sa Sb=>?_
 refine ae Sa.at_ fun tma a1 a2=>?_
 refine ae Sb.at_ fun tmb b1 b2=>?_
 refine aX (wz (st:=st) (rest:=rest) G.bk (by have:=G.len;lia) (kY hop).1 (kY hop).2 a1 a2 b1 b2) fun i ts2 C N=>?_
 refine ⟨i,X',ts2,fun n=>?_,G.trans N.gr,Sem.node (hwn K hw) (sy hop) (.cons (Sa.up N.pre) (.one (Sb.up N.pre))) N.at_⟩
 (repeat' (first | walk_at "e" | exact ho _ _ | exact E1 _ | exact E2 _ | exact C _ | walk_at "a"))
end
theorem dh {w:Nat} {σ:Sg} (m:σ∈[(⟨500085716578,[0],3,[3]⟩:Sg),⟨444083369570,[0],3,[3]⟩,⟨61,[0],0,[3,3]⟩,⟨6648937,[0],3,[0,3,3]⟩,⟨7630702,[0],0,[0]⟩,⟨6581857,[0],0,[0,0]⟩,⟨127961628831587,[0],4,[3,3]⟩,⟨121413913788299389262326131,[(w:Int)],4,[3]⟩]):σ∈eC w:=List.mem_append_right _ m
section
variable {w:Nat} {ρ:Lo} {lv:List Int} {t0:List Tm} {q m m1 m2 m3 k k1 k2 k3:Nat} {a b c:E} {ga gb gc:List Nat→Nat} {s s' s3:Int}
theorem Bj.one {oe:E} {op:Nat} (hb:Lk ρ 1802396002 (.ref 1)) (ho:Pe ρ (q+24) oe (.str op)) (hop:op=500085716578∨op=444083369570) (A:Bj w ρ lv t0 (q+24) a 3 m k ga):Bj w ρ lv t0 (q+25) (.meth (.var 1802396002) 111524989335138 [oe,a]) 3 (m + 1) (k + 1) (fun v=>rk w ⟨op,[0],3,[3]⟩ [ga v]):=by
 intro st rest X ts p K hw hl
 refine aT (A st rest X ts p K hw (by lia)) fun ta X' ts' E1 G Sa=>?_
 refine ae Sa.at_ fun tma a1 a2=>?_
 refine aX (wm (st:=st) (rest:=rest) G.bk (by have:=G.len;lia) hop a1 a2) fun i ts2 C N=>?_
 have hs:(⟨op,[0],3,[3]⟩:Sg)∈eC w:=by
  refine Or.elim hop (fun e=>?_) fun e=>?_<;>rw [e]
  ·exact dh (.head _)
  ·exact dh (.tail _ (.head _))
 refine ⟨i,X',ts2,fun n=>?_,G.trans N.gr,Sem.node (hwn K hw) hs (.one (Sa.up N.pre)) N.at_⟩
 (repeat' (first | walk_at "e" | exact ho _ _ | exact E1 _ | exact C _ | walk_at "a"))
theorem Bj.num {ve:E} {v:Nat} (hb:Lk ρ 1802396002 (.ref 1)) (hwd:Lk ρ 1701079415 (.int w)) (hv:Pe ρ (q+24) ve (.int v)) (hlt:v < 2 ^ w):Bj w ρ lv t0 (q+25) (.meth (.var 1802396002) 120351130351202 [ve,.var 1701079415]) 3 1 1 (fun _=>v):=by
 intro st rest X ts p K hw hl
 refine aX (uq (st:=st) (rest:=rest) K (by lia) (v:=v)) fun i ts2 C N=>?_
 have e:Int.fmod (v:Int) (2 ^ X.w.toNat)=(v:Int):=by
  rw [hw,Int.toNat_natCast]
  have h:((2:Int) ^ w)=((2 ^ w:Nat):Int):=by rw [Int.natCast_pow];rfl
  rw [h,Int.fmod_eq_emod_of_nonneg _ (Int.natCast_nonneg _)]
  exact Int.emod_eq_of_lt (Int.natCast_nonneg _) (by exact_mod_cast hlt)
 rw [hw] at C
 have at2:=N.at_
 rw [e] at at2
 refine ⟨i,X,ts2,fun n=>?_,N.gr,Sem.cst at2 (by decide) (by simp [ju]) (by show v < 2 ^ w;exact hlt)⟩
 (repeat' (first | walk_at "e" | exact hv _ _ | exact C _ | walk_at "a"))
theorem Bj.concat (hb:Lk ρ 1802396002 (.ref 1)) (A:Bj w ρ lv t0 (q+24) a 3 m1 k1 ga) (B:Bj w ρ lv t0 (q+24) b 3 m2 k2 gb):Bj w ρ lv t0 (q+25) (.meth (.var 1802396002) 127961628831587 [a,b]) 4 (m1 + m2 + 1) (k1 + k2 + 1) (fun v=>rk w ⟨127961628831587,[0],4,[3,3]⟩ [ga v,gb v]):=by
 intro st rest X ts p K hw hl
 refine qn (Bj.and A B st rest p K hw (by lia)) fun ta tb X1 ts1 X' ts' E1 E2 G Sa Sb=>?_
 refine ae Sa.at_ fun tma a1 a2=>?_
 refine ae Sb.at_ fun tmb b1 b2=>?_
 refine aX (rh (st:=st) (rest:=rest) G.bk (by have:=G.len;lia) a1 a2 b1 b2) fun i ts2 C N=>?_
 refine ⟨i,X'.full,ts2,fun n=>?_,G.trans N.grF,Sem.node (hwn K hw) (σ:=⟨127961628831587,[0],4,[3,3]⟩) (dh (.tail _ (.tail _ (.tail _ (.tail _ (.tail _ (.tail _ (.head _)))))))) (.cons (Sa.up N.pre) (.one (Sb.up N.pre))) N.at_⟩
 (repeat' (first | walk_at "e" | exact E1 _ | exact E2 _ | exact C _ | walk_at "a"))
theorem Bj.signx (hb:Lk ρ 1802396002 (.ref 1)) (hwd:Lk ρ 1701079415 (.int w)) (A:Bj w ρ lv t0 (q+24) a 3 m k ga):Bj w ρ lv t0 (q+25) (.meth (.var 1802396002) 121413913788299389262326131 [.var 1701079415,a]) 4 (m + 1) (k + 1) (fun v=>rk w ⟨121413913788299389262326131,[(w:Int)],4,[3]⟩ [ga v]):=by
 intro st rest X ts p K hw hl
 refine aT (A st rest X ts p K hw (by lia)) fun ta X' ts' E1 G Sa=>?_
 refine ae Sa.at_ fun tma a1 a2=>?_
 refine aX (uo (st:=st) (rest:=rest) G.bk (by have:=G.len;lia) a1 a2) fun i ts2 C N=>?_
 have hw':=G.w.trans hw
 have at2:=N.at_
 rw [hw'] at C at2
 refine ⟨i,X'.full,ts2,fun n=>?_,G.trans N.grF,Sem.node (hwn K hw) (σ:=⟨121413913788299389262326131,[(w:Int)],4,[3]⟩) (dh (.tail _ (.tail _ (.tail _ (.tail _ (.tail _ (.tail _ (.tail _ (.head _))))))))) (.one (Sa.up N.pre)) at2⟩
 (repeat' (first | walk_at "e" | exact E1 _ | exact C _ | walk_at "a"))
theorem Bj.ext {he le:E} {p:Nat} {hi:Int} (hb:Lk ρ 1802396002 (.ref 1)) (h1:Pe ρ (q+24) he (.int hi)) (h2:Pe ρ (q+24) le (.int p)) (hp':p≤w) (hh:hi=p + w - 1) (A:Bj w ρ lv t0 (q+24) a 4 m k ga):Bj w ρ lv t0 (q+25) (.meth (.var 1802396002) 32760367481649253 [he,le,a]) 3 (m + 1) (k + 1) (fun v=>rk w ⟨32760367481649253,[(p:Int) + w - 1,p],3,[4]⟩ [ga v]):=by
 intro st rest X ts pp K hw hl
 refine aT (A st rest X ts pp K hw (by lia)) fun ta X' ts' E1 G Sa=>?_
 refine ae Sa.at_ fun tma a1 a2=>?_
 have hw':=G.w.trans hw
 refine aX (oJ (st:=st) (rest:=rest) G.bk (by have:=G.len;lia) (hi:=hi) (lo:=p) a1 a2 (by lia) (by lia) (by lia)) fun i ts2 C N=>?_
 have at2:=N.at_
 rw [hh] at at2
 refine ⟨i,X',ts2,fun n=>?_,G.trans N.gr,Sem.node (hwn K hw) (σ:=⟨32760367481649253,[(p:Int) + w - 1,p],3,[4]⟩) (je hp' (.tail _ (.tail _ (.head _)))) (.one (Sa.up N.pre)) at2⟩
 (repeat' (first | walk_at "e" | exact h1 _ _ | exact h2 _ _ | exact E1 _ | exact C _ | walk_at "a"))
theorem Bj.carry {pe:E} {p:Nat} (hb:Lk ρ 1802396002 (.ref 1)) (hp':Pe ρ (q+24) pe (.int p)) (hlt:p≤w) (A:Bj w ρ lv t0 (q+24) a 3 m1 k1 ga) (B:Bj w ρ lv t0 (q+24) b 3 m2 k2 gb):Bj w ρ lv t0 (q+25) (.meth (.var 1802396002) 521611141475 [pe,a,b]) 0 (m1 + m2 + 1) (k1 + k2 + 1) (fun v=>rk w ⟨521611141475,[(p:Int)],0,[3,3]⟩ [ga v,gb v]):=by
 intro st rest X ts pp K hw hl
 refine qn (Bj.and A B st rest pp K hw (by lia)) fun ta tb X1 ts1 X' ts' E1 E2 G Sa Sb=>?_
 refine ae Sa.at_ fun tma a1 a2=>?_
 refine ae Sb.at_ fun tmb b1 b2=>?_
 have hw':=G.w.trans hw
 refine aX (sJ (st:=st) (rest:=rest) G.bk (by have:=G.len;lia) (p:=p) a1 a2 b1 b2 (by lia) (by lia) (.inl ⟨rfl,rfl⟩)) fun i ts2 C N=>?_
 refine ⟨i,X',ts2,fun n=>?_,G.trans N.gr,Sem.node (hwn K hw) (je hlt (.head _)) (.cons (Sa.up N.pre) (.one (Sb.up N.pre))) N.at_⟩
 (repeat' (first | walk_at "e" | exact hp' _ _ | exact E1 _ | exact E2 _ | exact C _ | walk_at "a"))
theorem Bj.below {pe:E} {p:Nat} (hb:Lk ρ 1802396002 (.ref 1)) (hp':Pe ρ (q+24) pe (.int p)) (hlt:p≤w) (A:Bj w ρ lv t0 (q+24) a 3 m1 k1 ga) (B:Bj w ρ lv t0 (q+24) b 3 m2 k2 gb):Bj w ρ lv t0 (q+25) (.meth (.var 1802396002) 512970483042 [pe,a,b]) 0 (m1 + m2 + 1) (k1 + k2 + 1) (fun v=>rk w ⟨512970483042,[(p:Int)],0,[3,3]⟩ [ga v,gb v]):=by
 intro st rest X ts pp K hw hl
 refine qn (Bj.and A B st rest pp K hw (by lia)) fun ta tb X1 ts1 X' ts' E1 E2 G Sa Sb=>?_
 refine ae Sa.at_ fun tma a1 a2=>?_
 refine ae Sb.at_ fun tmb b1 b2=>?_
 have hw':=G.w.trans hw
 refine aX (sJ (st:=st) (rest:=rest) G.bk (by have:=G.len;lia) (p:=p) a1 a2 b1 b2 (by lia) (by lia) (.inr ⟨rfl,rfl⟩)) fun i ts2 C N=>?_
 refine ⟨i,X',ts2,fun n=>?_,G.trans N.gr,Sem.node (hwn K hw) (je hlt (.tail _ (.head _))) (.cons (Sa.up N.pre) (.one (Sb.up N.pre))) N.at_⟩
 (repeat' (first | walk_at "e" | exact hp' _ _ | exact E1 _ | exact E2 _ | exact C _ | walk_at "a"))
theorem Bj.bit {pe:E} {p:Nat} (hb:Lk ρ 1802396002 (.ref 1)) (hp':Pe ρ (q+24) pe (.int p)) (hlt:p < w) (A:Bj w ρ lv t0 (q+24) a 3 m k ga):Bj w ρ lv t0 (q+25) (.meth (.var 1802396002) 7629154 [pe,a]) 0 (m + 1) (k + 1) (fun v=>rk w ⟨7629154,[(p:Int)],0,[3]⟩ [ga v]):=by
 intro st rest X ts pp K hw hl
 refine aT (A st rest X ts pp K hw (by lia)) fun ta X' ts' E1 G Sa=>?_
 refine ae Sa.at_ fun tma a1 a2=>?_
 have hw':=G.w.trans hw
 refine aX (uv (st:=st) (rest:=rest) G.bk (by have:=G.len;lia) (p:=p) a1 a2 (by lia) (by lia)) fun i ts2 C N=>?_
 refine ⟨i,X',ts2,fun n=>?_,G.trans N.gr,Sem.node (hwn K hw) (sv hlt) (.one (Sa.up N.pre)) N.at_⟩
 (repeat' (first | walk_at "e" | exact hp' _ _ | exact E1 _ | exact C _ | walk_at "a"))
theorem Bj.conj (hb:Lk ρ 1802396002 (.ref 1)) (A:Bj w ρ lv t0 (q+28) a 0 m1 k1 ga) (B:Bj w ρ lv t0 (q+28) b 0 m2 k2 gb):Bj w ρ lv t0 (q+30) (.meth (.var 1802396002) 112628527820385 [.tup [a,b]]) 0 (m1 + m2 + 1) (k1 + k2 + 1) (fun v=>rk w ⟨6581857,[0],0,[0,0]⟩ [ga v,gb v]):=by
 intro st rest X ts p K hw hl
 refine qn (Bj.and A B st rest p K hw (by lia)) fun ta tb X1 ts1 X' ts' E1 E2 G Sa Sb=>?_
 refine ae Sa.at_ fun tma a1 a2=>?_
 refine ae Sb.at_ fun tmb b1 b2=>?_
 refine aX (wA (st:=st) (rest:=rest) G.bk (by have:=G.len;lia) a1 a2 b1 b2) fun i ts2 C N=>?_
 refine ⟨i,X',ts2,fun n=>?_,G.trans N.gr,Sem.node (hwn K hw) (σ:=⟨6581857,[0],0,[0,0]⟩) (dh (.tail _ (.tail _ (.tail _ (.tail _ (.tail _ (.head _))))))) (.cons (Sa.up N.pre) (.one (Sb.up N.pre))) N.at_⟩
 (repeat' (first | walk_at "e" | exact E1 _ | exact E2 _ | exact C _ | walk_at "a"))
theorem Bj.ite (hb:Lk ρ 1802396002 (.ref 1)) (Cj:Bj w ρ lv t0 (q+24) c 0 m3 k3 gc) (A:Bj w ρ lv t0 (q+24) a 3 m1 k1 ga) (B:Bj w ρ lv t0 (q+24) b 3 m2 k2 gb):Bj w ρ lv t0 (q+25) (.meth (.var 1802396002) 6648937 [c,a,b]) 3 (m3 + (m1 + m2) + 1) (k3 + (k1 + k2) + 1) (fun v=>rk w ⟨6648937,[0],3,[0,3,3]⟩ [gc v,ga v,gb v]):=by
 intro st rest X ts p K hw hl
 refine aT (Cj st rest X ts p K hw (by lia)) fun tc X0 ts0 E0 G0 Sc=>?_
 refine qn (Bj.and A B st rest (p.trans G0.pre) G0.bk (G0.w.trans hw) (by have:=G0.len;lia)) fun ta tb X1 ts1 X' ts' E1 E2 G Sa Sb=>?_
 refine ae ((Sc.up G.pre).at_) fun tmc c1 c2=>?_
 refine ae Sa.at_ fun tma a1 a2=>?_
 refine ae Sb.at_ fun tmb b1 b2=>?_
 have GG:=G0.trans G
 refine aX (x4 (st:=st) (rest:=rest) G.bk (by have:=GG.len;lia) c1 c2 a1 a2 b1 b2) fun i ts2 C N=>?_
 refine ⟨i,X',ts2,fun n=>?_,GG.trans N.gr,Sem.node (hwn K hw) (σ:=⟨6648937,[0],3,[0,3,3]⟩) (dh (.tail _ (.tail _ (.tail _ (.head _))))) (.cons ((Sc.up (G.pre.trans N.pre)).more (by lia)) (.cons ((Sa.up N.pre).more (by lia)) (.one ((Sb.up N.pre).more (by lia))))) N.at_⟩
 (repeat' (first | walk_at "e" | exact E0 _ | exact E1 _ | exact E2 _ | exact C _ | walk_at "a"))
theorem At.no {X:Ext} {ts:List Tm} (K:Bk X ts) {a:Int} {tm:Tm} (h:At ts a tm) (h1:tm.op≠1702195828) (h2:tm.op≠435728179558):a≠1∧a≠2 :=
 ⟨fun e=>h1 (by rw [h.uniq (e▸⟨by decide,by decide,K.t⟩:At ts a tt)]),fun e=>h2 (by rw [h.uniq (e▸⟨by decide,by decide,K.f⟩:At ts a tf)])⟩
theorem Bj.eq (hb:Lk ρ 1802396002 (.ref 1)) (A:Bj w ρ lv t0 (q+24) a 3 m1 k1 ga) (B:Bj w ρ lv t0 (q+24) b 3 m2 k2 gb) (st:O) (rest:Hp) {X:Ext} {ts:List Tm} (p:t0 <+: ts) (K:Bk X ts) (hw:X.w=w) (hl:ts.length + (m1 + m2 + 1) < 1000) :
  ∃ t X' ts',(∀ n,Ev P (n+(q+25)) (.meth (.var 1802396002) 29029 [a,b]) ρ (hp st X ts rest) (.int t) (hp st X' ts' rest))∧Gr X X' ts ts' (m1 + m2 + 1)∧Sem w ts' lv t 0 (k1 + k2 + 1) (fun v=>rk w ⟨61,[0],0,[3,3]⟩ [ga v,gb v]) ∧
   ((t=1∧∀ ts1 f d cs,ts' <+: ts1→Ctx w ts1 lv f d cs→∀ j,rk w ⟨61,[0],0,[3,3]⟩ [ga (cs j),gb (cs j)]=1)∨∃ ar,At ts' t ⟨61,ar,0,[0]⟩):=by
 refine qn (Bj.and A B st rest p K hw (by lia)) fun ta tb X1 ts1 X' ts' E1 E2 G Sa Sb=>?_
 refine ae Sa.at_ fun tma a1 a2=>?_
 refine ae Sb.at_ fun tmb b1 b2=>?_
 have hw2:=hwn K hw
 have sg:(⟨61,[0],0,[3,3]⟩:Sg)∈eC w:=dh (.tail _ (.tail _ (.head _)))
 by_cases h:ta=tb
 ·subst h
  have one:∀ ts1 f d cs,ts' <+: ts1→Ctx w ts1 lv f d cs→∀ j,rk w ⟨61,[0],0,[3,3]⟩ [ga (cs j),gb (cs j)]=1:=fun ts1 f d cs q c j=>by
   have e:=congrFun (Option.some.inj (Col.det hw2 c.nd (Sa.col ts1 f d cs q c) (Sb.col ts1 f d cs q c))) j
   rw [e]
   show (Nat.beq (gb (cs j)) (gb (cs j))).toNat=1
   rw [Nat.beq_refl];rfl
  have at1:At ts' 1 tt:=⟨by decide,by decide,G.bk.t⟩
  refine ⟨1,X',ts',fun n=>?_,⟨G.pre,G.bk,G.w,by have:=G.len;lia⟩,⟨⟨tt,at1,rfl⟩,.inr ⟨tt,at1,by decide⟩,fun v r=>qM hw2 sg (dx (Sa.lt v r) (dx (Sb.lt v r) iu)),fun ts1 f d cs q c=>?_,fun ts1 f d q F H=>((Sem.cst at1 (by decide) (x:=1) (lv:=lv) (w:=w) rfl (by show 1 < 2;decide)).any ts1 f d q F H).up (by lia)⟩,.inl ⟨rfl,one⟩⟩
  ·have C:=uu (st:=st) (rest:=rest) G.bk a1 a2
   (repeat' (first | walk_at "e" | exact E1 _ | exact E2 _ | exact C _ | walk_at "a"))
  ·have:=(Sem.cst at1 (by decide) (x:=1) (lv:=lv) (w:=w) rfl (by show 1 < 2;decide)).col ts1 f d cs q c
   rw [show (fun j=>rk w ⟨61,[0],0,[3,3]⟩ [ga (cs j),gb (cs j)])=fun _=>1 from funext (one ts1 f d cs q c)]
   exact this.up (List.prefix_refl _) (by lia)
 ·refine aX (ur (st:=st) (rest:=rest) G.bk (by have:=G.len;lia) a1 a2 b1 b2 h) fun i ts2 C N=>?_
  have fin:Sem w ts2 lv i 0 (k1 + k2 + 1) (fun v=>rk w ⟨61,[0],0,[3,3]⟩ [ga v,gb v]):=by
   have at2:=N.at_
   by_cases q:tb < ta
   ·rw [if_pos q,if_neg (by lia)] at at2
    have:=Sem.node hw2 sg (.cons (Sb.up N.pre) (.one (Sa.up N.pre))) at2
    rw [show (fun v=>rk w ⟨61,[0],0,[3,3]⟩ [ga v,gb v])=fun v=>rk w ⟨61,[0],0,[3,3]⟩ [gb v,ga v] from funext fun v=>?_]
    ·exact this
    ·show (Nat.beq (ga v) (gb v)).toNat=(Nat.beq (gb v) (ga v)).toNat
     rw [show Nat.beq (ga v) (gb v)=Nat.beq (gb v) (ga v) from Bool.eq_iff_iff.mpr (by rw [Nat.beq_eq,Nat.beq_eq];exact eq_comm)]
   ·rw [if_neg q,if_pos (by lia)] at at2
    exact Sem.node hw2 sg (.cons (Sa.up N.pre) (.one (Sb.up N.pre))) at2
  refine ⟨i,X',ts2,fun n=>?_,G.trans N.gr,fin,.inr ⟨_,N.at_⟩⟩
  (repeat' (first | walk_at "e" | exact E1 _ | exact E2 _ | exact C _ | walk_at "a"))
theorem Bj.eq' (hb:Lk ρ 1802396002 (.ref 1)) (A:Bj w ρ lv t0 (q+24) a 3 m1 k1 ga) (B:Bj w ρ lv t0 (q+24) b 3 m2 k2 gb):Bj w ρ lv t0 (q+25) (.meth (.var 1802396002) 29029 [a,b]) 0 (m1 + m2 + 1) (k1 + k2 + 1) (fun v=>rk w ⟨61,[0],0,[3,3]⟩ [ga v,gb v]):=by
 intro st rest X ts p K hw hl
 refine jL (Bj.eq hb A B st rest p K hw hl) fun t X' ts' h1 h2 h3 _=>?_
 exact ⟨t,X',ts',h1,h2,h3⟩
theorem nB:(⟨7630702,[0],0,[0]⟩:Sg)∈eC w:=dh (.tail _ (.tail _ (.tail _ (.tail _ (.head _)))))
theorem Bj.neq (hb:Lk ρ 1802396002 (.ref 1)) (A:Bj w ρ lv t0 (q+24) a 3 m1 k1 ga) (B:Bj w ρ lv t0 (q+24) b 3 m2 k2 gb):Bj w ρ lv t0 (q+26) (.meth (.var 1802396002) 112628528869230 [.meth (.var 1802396002) 29029 [a,b]]) 0 (m1 + m2 + 2) (k1 + k2 + 2) (fun v=>rk w ⟨7630702,[0],0,[0]⟩ [rk w ⟨61,[0],0,[3,3]⟩ [ga v,gb v]]):=by
 intro st rest X ts p K hw hl
 refine jL (Bj.eq hb A B st rest p K hw (by lia)) fun t X' ts' E1 G S h=>?_
 have hw2:=hwn K hw
 rcases h with ⟨e,one⟩ | ⟨ar,h⟩
 ·subst e
  have at2:At ts' 2 tf:=⟨by decide,by decide,G.bk.f⟩
  refine ⟨2,X',ts',fun n=>?_,⟨G.pre,G.bk,G.w,by have:=G.len;lia⟩,⟨⟨tf,at2,rfl⟩,.inr ⟨tf,at2,by decide⟩,fun v r=>qM hw2 nB (dx (S.lt v r) iu),fun ts1 f d cs q c=>?_,fun ts1 f d q F H=>((Sem.cst at2 (by decide) (x:=0) (lv:=lv) (w:=w) rfl (by show 0 < 2;decide)).any ts1 f d q F H).up (by lia)⟩⟩
  ·have C:=wq (st:=st) (rest:=rest) G.bk
   (repeat' (first | walk_at "e" | exact E1 _ | exact C _ | walk_at "a"))
  ·have:=(Sem.cst at2 (by decide) (x:=0) (lv:=lv) (w:=w) rfl (by show 0 < 2;decide)).col ts1 f d cs q c
   rw [show (fun j=>rk w ⟨7630702,[0],0,[0]⟩ [rk w ⟨61,[0],0,[3,3]⟩ [ga (cs j),gb (cs j)]])=fun _=>0 from funext fun j=>by rw [one ts1 f d cs q c j];rfl]
   exact this.up (List.prefix_refl _) (by lia)
 ·have no:=h.no G.bk (show 61≠1702195828 by decide) (show 61≠435728179558 by decide)
  refine aX (wt (st:=st) (rest:=rest) G.bk (by have:=G.len;lia) h rfl (fun H=>rfl) no.1 no.2) fun i ts2 C N=>?_
  refine ⟨i,X',ts2,fun n=>?_,⟨G.pre.trans N.pre,N.bk,G.w,by have:=G.len;have:=N.len;lia⟩,Sem.node hw2 nB (.one (S.up N.pre)) N.at_⟩
  (repeat' (first | walk_at "e" | exact E1 _ | exact C _ | walk_at "a"))
theorem Bj.nask {oe:E} {op:Nat} (hb:Lk ρ 1802396002 (.ref 1)) (ho:Pe ρ (q+24) oe (.str op)) (hop:op∈asks) (A:Bj w ρ lv t0 (q+24) a 3 m1 k1 ga) (B:Bj w ρ lv t0 (q+24) b 3 m2 k2 gb):Bj w ρ lv t0 (q+26) (.meth (.var 1802396002) 112628528869230 [.meth (.var 1802396002) 122558844204642 [oe,a,b]]) 0 (m1 + m2 + 2) (k1 + k2 + 2) (fun v=>rk w ⟨7630702,[0],0,[0]⟩ [rk w ⟨op,[0],0,[3,3]⟩ [ga v,gb v]]):=by
 intro st rest X ts p K hw hl
 refine qn (Bj.and A B st rest p K hw (by lia)) fun ta tb X1 ts1 X' ts' E1 E2 G Sa Sb=>?_
 refine ae Sa.at_ fun tma a1 a2=>?_
 refine ae Sb.at_ fun tmb b1 b2=>?_
 refine aX (wz (st:=st) (rest:=rest) G.bk (by have:=G.len;lia) (kY hop).1 (kY hop).2 a1 a2 b1 b2) fun i ts2 C N=>?_
 have key:(asks.all fun op=>!(Nat.beq op 1702195828)&&!(Nat.beq op 435728179558)&&(cop .eq [] (.str op) (.str 7630702)==some false))=true:=by decide +kernel
 have key:=List.all_eq_true.mp key op hop
 have key2:=aq key
 have key:=cB (aj key)
 have no:=N.at_.no N.bk (fun e=>by rw [show op=1702195828 from e] at key;exact absurd key.1 (by decide)) (fun e=>by rw [show op=435728179558 from e] at key;exact absurd key.2 (by decide))
 refine aX (wt (st:=st) (rest:=rest) N.bk (by have:=G.len;have:=N.len;lia) N.at_ rfl (fun H=>beq_iff_eq.mp key2) no.1 no.2) fun i2 ts3 C2 N2=>?_
 have hw2:=hwn K hw
 refine ⟨i2,X',ts3,fun n=>?_,(G.trans N.gr).trans N2.gr,Sem.node hw2 nB (.one ((Sem.node hw2 (sy hop) (.cons (Sa.up N.pre) (.one (Sb.up N.pre))) N.at_).up N2.pre)) N2.at_⟩
 (repeat' (first | walk_at "e" | exact ho _ _ | exact E1 _ | exact E2 _ | exact C _ | exact C2 _ | walk_at "a"))
end
noncomputable def Shp (w q:Nat) (v:V) (m k:Nat) (g:List Nat→Nat):Prop:=∀ (st:O) (rest:Hp) (X:Ext) (ts:List Tm) (l1 l2:Int),Bk X ts→X.w=w→ts.length + m < 1000→Sem w ts [l1,l2] l1 3 0 (fun v=>v.getD 0 0)→Sem w ts [l1,l2] l2 3 0 (fun v=>v.getD 1 0) →
 ∃ t X' ts',(∀ n,Ca P (n+q) ko [.ref 1,.int w,v,.tup [.int l1,.int l2]] (hp st X ts rest) (.int t) (hp st X' ts' rest))∧Gr X X' ts ts' m∧Sem w ts' [l1,l2] t 3 k g
class inductive Prt (w q:Nat):List V→Nat→Nat→List (List Nat→Nat)→Prop
 | nil:Prt w q [] 0 0 []
 | skip {v:V} {vs:List V} {m k:Nat} {gs:List (List Nat→Nat)}:v.tup?=none→v.ref?=none→Prt w q vs m k gs→Prt w q (v :: vs) m k gs
 | take {l vs:List V} {m k m' k':Nat} {g:List Nat→Nat} {gs:List (List Nat→Nat)}:Shp w q (.tup l) m' k' g→Prt w q vs m k gs→Prt w q (.tup l :: vs) (m' + m) (k' + k) (g :: gs)
noncomputable def qY:E:=.call 1870354334177990634591 [.var 1802396002,.var 1701079415,.var 6647407,.var 126879614985580]
section
variable {w q:Nat} {st:O} {rest:Hp} {l1 l2:Int}
noncomputable def mV (gs:List (List Nat→Nat)):List Int:=gs.map fun _=>3
theorem Sms.up {ts ts':List Tm} (p:ts <+: ts') {lv:List Int} {k k':Nat} (hk:k≤k'):∀ {as ss:List Int} {gs:List (List Nat→Nat)},Sms w ts lv k as ss gs→Sms w ts' lv k' as ss gs
 | [],_,_,h=>h
 | _ :: _,_,_,⟨s,g,ss',gs',h,e1,e2,r⟩=>⟨s,g,ss',gs',(h.up p).more hk,e1,e2,Sms.up p hk r⟩
theorem lI {ρ:Lo} (h1:Lk ρ 1802396002 (.ref 1)) (h2:Lk ρ 1701079415 (.int w)) (h3:Lk ρ 126879614985580 (.tup [.int l1,.int l2])) {vs:List V} {m k:Nat} {gs:List (List Nat→Nat)} (R:Prt w (q+24) vs m k gs) :
  ∀ {X:Ext} {ts:List Tm},Bk X ts→X.w=w→ts.length + m < 1000→Sem w ts [l1,l2] l1 3 0 (fun v=>v.getD 0 0)→Sem w ts [l1,l2] l2 3 0 (fun v=>v.getD 1 0) →
  ∃ args X' ts',(∀ n,bV.loop (sem P (n+q+26)) (.var 6647407) [.bi .isTuple [.var 6647407]] (bV (sem P (n+q+26)) qY []) vs ρ (hp st X ts rest)=some (intsV args,hp st X' ts' rest))∧Gr X X' ts ts' m∧Sms w ts' [l1,l2] k args (mV gs) gs:=by
 induction R with
 | nil=>exact fun {X ts} K hw hl s1 s2=>⟨[],X,ts,fun n=>rfl,⟨List.prefix_refl _,K,rfl,Nat.le_refl _⟩,rfl,rfl⟩
 | @skip v vs m k gs e1 e2 R ih =>
  intro X ts K hw hl s1 s2
  refine aT (ih K hw hl s1 s2) fun args X' ts' L G S=>?_
  refine ⟨args,X',ts',fun n=>?_,G,S⟩
  have hc:Ev P (n+q+26) (.bi .isTuple [.var 6647407]) (ak ρ 6647407 v) (hp st X ts rest) (.bool false) (hp st X ts rest) :=
   e_bi (es_cons (e_var' lke_same) es_nil) (by show (bif v.ref?.isSome then _ else _)=_;rw [e1,e2];rfl)
  exact bnd rfl (bnd (bnd hc.h (bnd rfl rfl):jy (sem P (n+q+26)) [.bi .isTuple [.var 6647407]] (ak ρ 6647407 v) (hp st X ts rest)=some (false,hp st X ts rest)) (bnd rfl (bnd (L n) rfl)))
 | @take l vs m k m' k' g gs h R ih =>
  intro X ts K hw hl s1 s2
  refine aT (h st rest X ts l1 l2 K hw (by lia) s1 s2) fun t X1 ts1 C G1 S1=>?_
  refine aT (ih G1.bk (G1.w.trans hw) (by have:=G1.len;lia) (s1.up G1.pre) (s2.up G1.pre)) fun args X' ts' L G S=>?_
  refine ⟨t :: args,X',ts',fun n=>?_,G1.trans G,3,g,mV gs,gs,(S1.up G.pre).more (by lia),rfl,rfl,S.up (List.prefix_refl _) (by lia)⟩
  have hc:Ev P (n+q+26) (.bi .isTuple [.var 6647407]) (ak ρ 6647407 (.tup l)) (hp st X ts rest) (.bool true) (hp st X ts rest) :=
   e_bi (es_cons (e_var' lke_same) es_nil) rfl
  have hm:Ev P (n+q+26) qY (ak ρ 6647407 (.tup l)) (hp st X ts rest) (.int t) (hp st X1 ts1 rest):=by
   have g1:=lke_skip (w:=.tup l) (i:=6647407) rfl h1
   have g2:=lke_skip (w:=.tup l) (i:=6647407) rfl h2
   have g3:=lke_skip (w:=.tup l) (i:=6647407) rfl h3
   exact e_call rfl (es_cons (e_var' g1) (es_cons (e_var' g2) (es_cons (e_var' lke_same) (es_cons (e_var' g3) es_nil)))) (by have:=C (n+1);rwa [show n + 1 + (q + 24)=n + q + 25 by lia] at this)
  exact bnd rfl (bnd (bnd hc.h (bnd rfl rfl):jy (sem P (n+q+26)) [.bi .isTuple [.var 6647407]] (ak ρ 6647407 (.tup l)) (hp st X ts rest)=some (true,hp st X ts rest)) (bnd (bnd hm.h rfl:bV (sem P (n+q+26)) qY [] (ak ρ 6647407 (.tup l)) (hp st X ts rest)=some ([.int t],hp st X1 ts1 rest)) (bnd (L n) rfl)))
end
theorem pk {P:Prog} {n:Nat} {ρ:Lo} {H H1 H2:Hp} {elt it:E} {t:T} {ifs:List E} {gs:List G} {vs ws:List V} (i:It1 P n it ρ H vs H1) (l:bV.loop (sem P n) t ifs (bV (sem P n) elt gs) vs (gu (bK :: aN (.mk t it ifs :: gs)) ρ) H1=some (ws,H2)) (q:ax ws.length=true):Ev P (n+1) (.comp elt (.mk t it ifs :: gs)) ρ H (.lst ws) H2:=⟨bnd i.h (bnd l (btt q rfl))⟩
theorem Shp.mono {w q q' m d:Nat} {v:V} {g:List Nat→Nat} (h:Shp w q v m d g) (k:q≤q'):Shp w q' v m d g:=fun st rest X ts l1 l2 K hw hl s1 s2=>by
 refine iX (h st rest X ts l1 l2 K hw hl s1 s2) fun t X' ts' C r=>?_
 exact ⟨t,X',ts',fun n=>by have:=C (n + (q' - q));rwa [show n + (q' - q) + q=n + q' by lia] at this,r⟩
theorem Shp.more {w q m m' d d':Nat} {v:V} {g:List Nat→Nat} (h:Shp w q v m d g) (k:m≤m') (k':d≤d'):Shp w q v m' d' g:=fun st rest X ts l1 l2 K hw hl s1 s2=>by
 refine aT (h st rest X ts l1 l2 K hw (by lia) s1 s2) fun t X' ts' C G S=>?_
 exact ⟨t,X',ts',C,⟨G.pre,G.bk,G.w,Nat.le_trans G.len (by lia)⟩,S.more k'⟩
theorem Sms.len {w:Nat} {ts:List Tm} {lv:List Int} {k:Nat}:∀ {as ss:List Int} {gs:List (List Nat→Nat)},Sms w ts lv k as ss gs→as.length=gs.length
 | [],_,_,⟨_,e⟩=>by rw [e];rfl
 | _ :: _,_,_,⟨s,g,ss',gs',h,e1,e2,r⟩=>by rw [e2];exact congrArg (· + 1) r.len
noncomputable abbrev ρ0 (w:Nat) (v:V) (l1 l2:Int):Lo:=ko.params.zip [.ref 1,.int w,v,.tup [.int l1,.int l2]]
noncomputable abbrev ρm (w wo:Nat) (vs:List V) (l1 l2:Int) (args:List Int):Lo:=ak (ak (ρ0 w (.tup (.str wo :: vs)) l1 l2) 1685221239 (.str wo)) 1701670771 (.lst (intsV args))
section
variable {w q:Nat}
noncomputable def After (w q wo:Nat) (vs:List V) (d m k:Nat) (gs:List (List Nat→Nat)) (g:List Nat→Nat):Prop:=∀ (st:O) (rest:Hp) (X:Ext) (ts:List Tm) (l1 l2:Int) (args:List Int),Bk X ts→X.w=w→ts.length + m < 1000→Sms w ts [l1,l2] d args (mV gs) gs →
 ∃ t X' ts',(∀ n,∃ ρ',Xs P (n+q+28) (ko.body.drop 4) (ρm w wo vs l1 l2 args) (hp st X ts rest) (.ret (.int t)) ρ' (hp st X' ts' rest))∧Gr X X' ts ts' m∧Sem w ts' [l1,l2] t 3 k g
theorem cK {wo:Nat} {vs:List V} {m d m' k:Nat} {gs:List (List Nat→Nat)} {g:List Nat→Nat} (R:Prt w (q+24) vs m d gs) (hv:vs.length≤10) (hg:gs.length≤10) (h1:∀ H,cop .eq H (.str wo) (.str 6647407)=some false) (h2:∀ H,cop .eq H (.str wo) (.str 7305076)=some false) (h3:∀ H,cop .eq H (.str wo) (.str 125779768604014)=some false)
  (K:After w q wo vs d m' k gs g):Shp w (q+28) (.tup (.str wo :: vs)) (m + m') k g:=by
 intro st rest X ts l1 l2 B hw hl s1 s2
 refine aT (lI (st:=st) (rest:=rest) (ρ:=gu (bK :: aN [.mk (.var 6647407) (.slice (.var 435677128819) (some (.num 1)) Option.none) [.bi .isTuple [.var 6647407]]]) (ak (ρ0 w (.tup (.str wo :: vs)) l1 l2) 1685221239 (.str wo))) ⟨rfl⟩ ⟨rfl⟩ ⟨rfl⟩ R B hw (by lia) s1 s2) fun args X1 ts1 L G1 S1=>?_
 refine aT (K st rest X1 ts1 l1 l2 args G1.bk (G1.w.trans hw) (by have:=G1.len;lia) S1) fun t X' ts' C G2 S2=>?_
 refine ⟨t,X',ts',fun n=>?_,G1.trans G2,S2⟩
 refine aG (C n) fun ρ' C=>?_
 have sl:gg (.tup (.str wo :: vs)) (some 1) Option.none=some (.tup vs):=btt (ah (by rw [List.length_cons];lia)) rfl
 have s0:((idx 0 (V.str wo :: vs).length).bind fun j=>(V.str wo :: vs)[j]?)=some (.str wo):=e7 (by decide) rfl (by decide)
 have L:=L n
 rw [show n + q + 26=n + (q + 26) by lia] at L
 have e:Ev P (n + (q + 27)) (.comp qY [.mk (.var 6647407) (.slice (.var 435677128819) (some (.num 1)) Option.none) [.bi .isTuple [.var 6647407]]]) (ak (ρ0 w (.tup (.str wo :: vs)) l1 l2) 1685221239 (.str wo)) (hp st X ts rest) (.lst (intsV args)) (hp st X1 ts1 rest) :=
  pk (d5 rfl (i_val rfl (lW (ag rfl) e_num rfl sl) rfl)) L (ah (by rw [intsV,List.length_map,S1.len];lia))
 apply ao
 ·rfl
 ·rw [show n + (q + 28)=n + q + 28 by lia]
  show Xs P (n + q + 28) (ko.body.take 4++ko.body.drop 4) _ _ _ _ _
  apply x_asgv
  ·exact e_sub (ag rfl) e_num s0
  ·apply x_ifs
   ·exact e_or (e_cmp (ag rfl) e_str (h1 _)) (oi_f rfl (e_or_1 (e_cmp (ag rfl) e_str (h2 _))))
   ·apply xi_f rfl
    apply x_ifs
    ·exact e_cmp (ag rfl) e_str (h3 _)
    ·apply xi_f rfl
     apply x_asgv
     ·exact e
     ·exact C
 ·rfl
 ·rfl
end
section
variable {w q m:Nat} {ga gb gc gd:List Nat→Nat}
theorem Sms.inv {ts:List Tm} {lv:List Int} {k:Nat} {as ss:List Int} {s:Int} {g:List Nat→Nat} {gs:List (List Nat→Nat)} (h:Sms w ts lv k as (s :: ss) (g :: gs)):∃ a r,as=a :: r∧Sem w ts lv a s k g∧Sms w ts lv k r ss gs:=by
 induction as using List.casesOn with
 | nil=>cases h.1
 | cons a r =>
  refine yw h fun s' g' ss' gs' h1 e1 e2 h2=>?_
  cases e1;cases e2
  exact ⟨a,r,rfl,h1,h2⟩
theorem Sms.inv0 {ts:List Tm} {lv:List Int} {k:Nat} {as:List Int} (h:Sms w ts lv k as [] []):as=[]:=by
 induction as using List.casesOn with
 | nil=>rfl
 | cons a r=>refine vy h fun s' g' ss' gs' h1 e1 _=>?_;cases e1
noncomputable abbrev qJ (i:Nat):E:=.sub (.var 1701670771) (.num (i:Int))
theorem aL {ρ:Lo} {args:List Int} (h:Lk ρ 1701670771 (.lst (intsV args))) {i:Nat} {a:Int} (e:args[i]?=some a) (hi:i < 100):Pe ρ (q+2) (qJ i) (.int a):=fun n H =>
 e_sub (ag h.h) e_num (dW (Int.natCast_nonneg i) (by rw [Int.toNat_natCast,intsV,List.getElem?_map,e];rfl) (by rw [Int.toNat_natCast];lia))
theorem km {args:List Int} {H:Hp} (h:args.length≤10):aP .len [.lst (intsV args)] H=some (.int args.length,H):=d4 (by rw [intsV,List.length_map]) (ah (by lia))
structure Wo (wo:Nat):Prop where
 a:∀ H,cop .eq H (.str wo) (.str 7632227)=some false
 b:∀ H,cop .eq H (.str wo) (.str 495773510003)=some false
 c:∀ H,cop .ne H (.str wo) (.str 111477645076579)=some true
theorem qd {op:Nat} (W:Wo op) (ho:op=500085716578∨op=444083369570) {vs:List V}:After w q op vs m 1 (m + 1) [ga] (fun v=>rk w ⟨op,[0],3,[3]⟩ [ga v]):=by
 intro st rest X ts l1 l2 args K hw hl S
 refine aW S.inv fun a r e Sa S=>?_
 rw [S.inv0] at e
 subst e
 refine ae Sa.at_ fun tm at_ hs=>?_
 refine aX (wm (st:=st) (rest:=rest) K (by lia) ho at_ hs) fun i ts2 C N=>?_
 have hσ:(⟨op,[0],3,[3]⟩:Sg)∈eC w:=by
  refine Or.elim ho (fun e=>?_) fun e=>?_<;>rw [e]
  ·exact dh (.head _)
  ·exact dh (.tail _ (.head _))
 refine ⟨i,X,ts2,fun n=>?_,⟨N.pre,N.bk,rfl,Nat.le_trans N.len (by lia)⟩,Sem.node (hwn K hw) hσ (.one (Sa.up N.pre)) N.at_⟩
 have p0:=aL (q:=0) (ρ:=ρm w op vs l1 l2 [a]) (i:=0) ⟨rfl⟩ rfl (by decide)
 have ll:=km (args:=[a]) (H:=hp st X ts rest) (by simp)
 apply Exists.intro
 show Xs P (n+q+28) (ko.body.drop 4) _ _ _ _ _
 apply x_ifs
 ·exact e_cmp (ag rfl) e_str (W.a _)
 ·apply xi_f rfl
  apply x_ifs
  ·exact e_cmp (ag rfl) e_str (W.b _)
  ·apply xi_f rfl
   apply x_ifs
   ·exact e_cmp (ag rfl) e_str (W.c _)
   ·apply k8 rfl
    (repeat' (first | walk_at "e" | exact ll | exact p0 _ _ | exact C _ | walk_at "a"))
theorem qb {op:Nat} (W:Wo op) (ho:op∈iZ) {vs:List V}:After w q op vs m 1 (m + 1) [ga,gb] (fun v=>rk w ⟨op,[0],3,[3,3]⟩ [ga v,gb v]):=by
 intro st rest X ts l1 l2 args K hw hl S
 refine aW S.inv fun a r e Sa S=>?_
 refine aW S.inv fun b r' e' Sb S=>?_
 rw [S.inv0] at e'
 subst e'
 subst e
 refine ae Sa.at_ fun tm at_ hs=>?_
 refine ae Sb.at_ fun tm' at' hs'=>?_
 refine aX (rd (st:=st) (rest:=rest) K (by lia) (jR ho) at_ hs at' hs') fun i ts2 C N=>?_
 refine ⟨i,X,ts2,fun n=>?_,⟨N.pre,N.bk,rfl,Nat.le_trans N.len (by lia)⟩,Sem.node (hwn K hw) (ip ho) (.cons (Sa.up N.pre) (.one (Sb.up N.pre))) N.at_⟩
 have p0:=aL (q:=0) (ρ:=ρm w op vs l1 l2 [a,b]) (i:=0) ⟨rfl⟩ rfl (by decide)
 have p1:=aL (q:=0) (ρ:=ρm w op vs l1 l2 [a,b]) (i:=1) ⟨rfl⟩ rfl (by decide)
 have ll:=km (args:=[a,b]) (H:=hp st X ts rest) (by simp)
 apply Exists.intro
 show Xs P (n+q+28) (ko.body.drop 4) _ _ _ _ _
 apply x_ifs
 ·exact e_cmp (ag rfl) e_str (W.a _)
 ·apply xi_f rfl
  apply x_ifs
  ·exact e_cmp (ag rfl) e_str (W.b _)
  ·apply xi_f rfl
   apply x_ifs
   ·exact e_cmp (ag rfl) e_str (W.c _)
   ·apply k8 rfl
    (repeat' (first | walk_at "e" | exact ll | exact p0 _ _ | exact p1 _ _ | exact C _ | walk_at "a"))
theorem qc {vs:List V} (hw2:w=1∨w=2):After w q 495773510003 vs m 2 (m + 1 + 1) [ga] (fun v=>rk w ⟨32760367481649253,[(w:Int) + w - 1,w],3,[4]⟩ [rk w ⟨121413913788299389262326131,[(w:Int)],4,[3]⟩ [ga v]]):=by
 intro st rest X ts l1 l2 args K hw hl S
 refine aW S.inv fun a r e Sa S=>?_
 rw [S.inv0] at e
 subst e
 have hb:Lk (ρm w 495773510003 vs l1 l2 [a]) 1802396002 (.ref 1):=⟨rfl⟩
 have hd:Lk (ρm w 495773510003 vs l1 l2 [a]) 1701079415 (.int w):=⟨rfl⟩
 have A:Bj w (ρm w 495773510003 vs l1 l2 [a]) [l1,l2] ts (q+24) (qJ 0) 3 0 m ga:=Bj.at_ (aL (q:=q+22) ⟨rfl⟩ rfl (by decide)) Sa
 have J:=Bj.ext (q:=q + 1) (he:=.bin .sub (.bin .mul (.num 2) (.var 1701079415)) (.num 1)) (le:=.var 1701079415) hb (fun n H=>e_bin (e_bin e_num (ag rfl) (mr (by decide))) e_num rfl) (fun n H=>ag rfl) (Nat.le_refl _) (by lia) (Bj.signx (q:=q) hb hd A)
 refine aT (J st rest X ts (List.prefix_refl _) K hw hl) fun t X' ts' E G S'=>?_
 refine ⟨t,X',ts',fun n=>?_,G,S'⟩
 apply Exists.intro
 show Xs P (n+q+28) (ko.body.drop 4) _ _ _ _ _
 apply x_ifs
 ·exact e_cmp (ag rfl) e_str rfl
 ·apply xi_f rfl
  apply x_ifs
  ·exact e_cmp (ag rfl) e_str rfl
  ·apply k8 rfl
   exact E n
end
theorem vC {P:Prog} {n:Nat} {ρ ρ1 ρ':Lo} {H H1 H':Hp} {s:S} {r:List S} {f:Fl} (h:Xs P (n+1) [s] ρ H .nxt ρ1 H1) (k:Xs P (n+1) r ρ1 H1 f ρ' H'):Xs P (n+1) (s :: r) ρ H f ρ' H':=by
 have h:=h.h
 rw [kF] at h
 refine b3E h fun f0 ρ0 H0 h1 h2=>?_
 refine ⟨?_⟩
 rw [kF]
 refine bnd h1 ?_
 cases f0 with
 | nxt=>cases h2;exact k.h
 | cont=>cases h2
 | ret v=>cases h2
section
variable {w q m:Nat} {ga gb gc gd gt:List Nat→Nat}
theorem min2 {a b:Nat} {H:Hp}:aP .min [.int a,.int b] H=some (.int (min a b:Nat),H):=by
 show some (V.int (if (b:Int) < (a:Int) then (b:Int) else (a:Int)),H)=_
 by_cases h:(b:Int) < a
 ·rw [if_pos h,Nat.min_eq_right (by lia)]
 ·rw [if_neg h,Nat.min_eq_left (by lia)]
theorem qe {p:Nat} (hp3:p < 100) {va vb:V}:After w q 7632227 [.int p,va,vb] m 2 (m + m + 1 + 1) [ga,gb] (fun v=>rk w ⟨32760367481649253,[((min p w:Nat):Int) + w - 1,(min p w:Nat)],3,[4]⟩ [rk w ⟨127961628831587,[0],4,[3,3]⟩ [ga v,gb v]]):=by
 intro st rest X ts l1 l2 args K hw hl S
 refine aW S.inv fun a r e Sa S=>?_
 refine aW S.inv fun b r' e' Sb S=>?_
 rw [S.inv0] at e'
 subst e'
 subst e
 have ha:Lk (ak (ρm w 7632227 [.int p,va,vb] l1 l2 [a,b]) 7827308 (.int (min p w:Nat))) 1701670771 (.lst (intsV [a,b])):=lke_skip rfl ⟨rfl⟩
 have hb:Lk (ak (ρm w 7632227 [.int p,va,vb] l1 l2 [a,b]) 7827308 (.int (min p w:Nat))) 1802396002 (.ref 1):=lke_skip rfl ⟨rfl⟩
 have hd:Lk (ak (ρm w 7632227 [.int p,va,vb] l1 l2 [a,b]) 7827308 (.int (min p w:Nat))) 1701079415 (.int w):=lke_skip rfl ⟨rfl⟩
 have J:=Bj.ext (q:=q + 1) (he:=.bin .sub (.bin .add (.var 7827308) (.var 1701079415)) (.num 1)) (le:=.var 7827308) hb (fun n H=>e_bin (e_bin (e_var' lke_same) (e_var' hd) rfl) e_num rfl) (fun n H=>e_var' lke_same) (Nat.min_le_right p w) rfl
  (Bj.concat (q:=q) hb (Bj.at_ (aL (q:=q+22) ha (i:=0) rfl (by decide)) Sa) (Bj.at_ (aL (q:=q+22) ha (i:=1) rfl (by decide)) Sb))
 refine aT (J st rest X ts (List.prefix_refl _) K hw (by lia)) fun t X' ts' E G S'=>?_
 refine ⟨t,X',ts',fun n=>?_,⟨G.pre,G.bk,G.w,Nat.le_trans G.len (by lia)⟩,S'⟩
 apply Exists.intro
 show Xs P (n+q+28) (ko.body.drop 4) _ _ _ _ _
 have s1:((idx 1 [V.str 7632227,.int p,va,vb].length).bind fun j=>[V.str 7632227,.int p,va,vb][j]?)=some (.int p):=e7 (by decide) rfl (by decide)
 apply x_ifs
 ·exact e_cmp (ag rfl) e_str rfl
 ·apply vE rfl
  apply x_asgv
  ·exact e_bi (es_cons (e_sub (ag rfl) e_num s1) (es_cons (ag rfl) es_nil)) min2
  ·apply x_ret
   exact E n
theorem u9 {ρ:Lo} {lv:List Int} {ts:List Tm} {a b c d t:Int} {k:Nat} (hb:Lk ρ 1802396002 (.ref 1)) (hs:Lk ρ 1701670771 (.lst (intsV [a,b,c,d]))) (T:Sem w ts lv t 0 k gt) (C:Sem w ts lv c 3 k gc) (D:Sem w ts lv d 3 k gd) :
  Bj w (ak ρ 1684828020 (.int t)) lv ts (q+25) (.meth (.var 1802396002) 6648937 [.var 1684828020,qJ 2,qJ 3]) 3 1 (k + (k + k) + 1) (fun v=>rk w ⟨6648937,[0],3,[0,3,3]⟩ [gt v,gc v,gd v]) :=
 Bj.ite (q:=q) (lke_skip rfl hb) (Bj.at_ (fun n H=>e_var' lke_same) T) (Bj.at_ (aL (q:=q+22) (lke_skip rfl hs) rfl (by decide)) C) (Bj.at_ (aL (q:=q+22) (lke_skip rfl hs) rfl (by decide)) D)
noncomputable abbrev ρc (ρ:Lo) (ask pl:Nat):Lo:=ak (ak ρ 7041889 (.str ask)) 435459026032 (.int (pl:Int))
noncomputable def Told (w q ask pl:Nat) (m:Nat) (ga gb gt:List Nat→Nat):Prop:=∀ (ρ:Lo) (lv:List Int) (st:O) (rest:Hp) (X:Ext) (ts:List Tm) (a b c d:Int) (k:Nat),Lk ρ 1802396002 (.ref 1)→Lk ρ 1701670771 (.lst (intsV [a,b,c,d]))→Lk ρ 1701079415 (.int w)→Bk X ts→X.w=w→ts.length + m < 1000→Sem w ts lv a 3 k ga→Sem w ts lv b 3 k gb →
 ∃ t X' ts',(∀ n,Xs P (n+q+38) [(ko.body.drop 8).headD .cont] (ρc ρ ask pl) (hp st X ts rest) .nxt (ak (ρc ρ ask pl) 1684828020 (.int t)) (hp st X' ts' rest))∧Gr X X' ts ts' m∧Sem w ts' lv t 0 (k + k + m) gt
theorem tC {pl:Nat}:Told w q 61 pl 2 ga gb (fun v=>rk w ⟨7630702,[0],0,[0]⟩ [rk w ⟨61,[0],0,[3,3]⟩ [ga v,gb v]]):=by
 intro ρ lv st rest X ts a b c d k h1 h2 h3 K hw hl Sa Sb
 have hb:Lk (ρc ρ 61 pl) 1802396002 (.ref 1):=lke_skip rfl (lke_skip rfl h1)
 have hs:Lk (ρc ρ 61 pl) 1701670771 (.lst (intsV [a,b,c,d])):=lke_skip rfl (lke_skip rfl h2)
 refine aT (Bj.neq (q:=q + 10) hb (Bj.at_ (aL (q:=q+32) hs (i:=0) rfl (by decide)) Sa) (Bj.at_ (aL (q:=q+32) hs (i:=1) rfl (by decide)) Sb) st rest X ts (List.prefix_refl _) K hw hl) fun t X' ts' E G S=>?_
 refine ⟨t,X',ts',fun n=>?_,G,S⟩
 exact eT (e_cmp (e_var' (lke_skip rfl lke_same)) e_str rfl) rfl (x_asgv (E n) x_nil) x_nil
theorem lh {pl:Nat} (hp':pl≤w):Told w q 521611141475 pl 1 ga gb (fun v=>rk w ⟨521611141475,[(pl:Int)],0,[3,3]⟩ [ga v,gb v]):=by
 intro ρ lv st rest X ts a b c d k h1 h2 h3 K hw hl Sa Sb
 have hb:Lk (ρc ρ 521611141475 pl) 1802396002 (.ref 1):=lke_skip rfl (lke_skip rfl h1)
 have hs:Lk (ρc ρ 521611141475 pl) 1701670771 (.lst (intsV [a,b,c,d])):=lke_skip rfl (lke_skip rfl h2)
 refine aT (Bj.carry (q:=q + 10) (pe:=.var 435459026032) hb (fun n H=>e_var' lke_same) hp' (Bj.at_ (aL (q:=q+32) hs (i:=0) rfl (by decide)) Sa) (Bj.at_ (aL (q:=q+32) hs (i:=1) rfl (by decide)) Sb) st rest X ts (List.prefix_refl _) K hw hl) fun t X' ts' E G S=>?_
 refine ⟨t,X',ts',fun n=>?_,G,S⟩
 exact b6 (e_cmp (e_var' (lke_skip rfl lke_same)) e_str rfl) rfl (eT (e_cmp (e_var' (lke_skip rfl lke_same)) e_str rfl) rfl (x_asgv (E n) x_nil) x_nil) x_nil
theorem lj {pl:Nat} (hp':pl≤w):Told w q 512970483042 pl 1 ga gb (fun v=>rk w ⟨512970483042,[(pl:Int)],0,[3,3]⟩ [ga v,gb v]):=by
 intro ρ lv st rest X ts a b c d k h1 h2 h3 K hw hl Sa Sb
 have hb:Lk (ρc ρ 512970483042 pl) 1802396002 (.ref 1):=lke_skip rfl (lke_skip rfl h1)
 have hs:Lk (ρc ρ 512970483042 pl) 1701670771 (.lst (intsV [a,b,c,d])):=lke_skip rfl (lke_skip rfl h2)
 refine aT (Bj.below (q:=q + 9) (pe:=.var 435459026032) hb (fun n H=>e_var' lke_same) hp' (Bj.at_ (aL (q:=q+31) hs (i:=0) rfl (by decide)) Sa) (Bj.at_ (aL (q:=q+31) hs (i:=1) rfl (by decide)) Sb) st rest X ts (List.prefix_refl _) K hw hl) fun t X' ts' E G S=>?_
 refine ⟨t,X',ts',fun n=>?_,G,S⟩
 exact b6 (e_cmp (e_var' (lke_skip rfl lke_same)) e_str rfl) rfl (b6 (e_cmp (e_var' (lke_skip rfl lke_same)) e_str rfl) rfl (eT (e_cmp (e_var' (lke_skip rfl lke_same)) e_str rfl) rfl (x_asgv (E n) x_nil) x_nil) x_nil) x_nil
theorem qw {pl:Nat} (hw2:w=1∨w=2):Told w q 7629154 pl 1 ga gb (fun v=>rk w ⟨7629154,[((min pl (w - 1):Nat):Int)],0,[3]⟩ [gb v]):=by
 intro ρ lv st rest X ts a b c d k h1 h2 h3 K hw hl Sa Sb
 have hb:Lk (ρc ρ 7629154 pl) 1802396002 (.ref 1):=lke_skip rfl (lke_skip rfl h1)
 have hs:Lk (ρc ρ 7629154 pl) 1701670771 (.lst (intsV [a,b,c,d])):=lke_skip rfl (lke_skip rfl h2)
 have hd:Lk (ρc ρ 7629154 pl) 1701079415 (.int w):=lke_skip rfl (lke_skip rfl h3)
 have pe:Pe (ρc ρ 7629154 pl) (q+32) (.bi .min [.var 435459026032,.bin .sub (.var 1701079415) (.num 1)]) (.int (min pl (w - 1):Nat)):=fun n H =>
  e_bi (es_cons (e_var' lke_same) (es_cons (e_bin (e_var' hd) e_num (by show some (V.int ((w:Int) - 1))=some (V.int ((w - 1:Nat):Int));rw [show ((w:Int) - 1)=((w - 1:Nat):Int) by lia])) es_nil)) min2
 refine aT (Bj.bit (q:=q + 8) hb pe (Nat.lt_of_le_of_lt (Nat.min_le_right ..) (Nat.sub_lt (hw2.elim (fun e=>by rw [e];decide) fun e=>by rw [e];decide) (by decide))) (Bj.at_ (aL (q:=q+30) hs (i:=1) rfl (by decide)) Sb) st rest X ts (List.prefix_refl _) K hw (by lia)) fun t X' ts' E G S=>?_
 refine ⟨t,X',ts',fun n=>?_,⟨G.pre,G.bk,G.w,Nat.le_trans G.len (by lia)⟩,S.more (by lia)⟩
 exact b6 (e_cmp (e_var' (lke_skip rfl lke_same)) e_str rfl) rfl (b6 (e_cmp (e_var' (lke_skip rfl lke_same)) e_str rfl) rfl (b6 (e_cmp (e_var' (lke_skip rfl lke_same)) e_str rfl) rfl (x_asgv (e_ite (e_cmp (e_var' (lke_skip rfl lke_same)) e_str rfl) (ei_t rfl (E n))) x_nil) x_nil) x_nil) x_nil
theorem qx {op pl:Nat} (ho:op∈asks):Told w q op pl 1 ga gb (fun v=>rk w ⟨op,[0],0,[3,3]⟩ [ga v,gb v]):=by
 intro ρ lv st rest X ts a b c d k h1 h2 h3 K hw hl Sa Sb
 have hb:Lk (ρc ρ op pl) 1802396002 (.ref 1):=lke_skip rfl (lke_skip rfl h1)
 have hs:Lk (ρc ρ op pl) 1701670771 (.lst (intsV [a,b,c,d])):=lke_skip rfl (lke_skip rfl h2)
 refine aT (Bj.ask (q:=q + 8) (oe:=.var 7041889) hb (fun n H=>e_var' (lke_skip rfl lke_same)) ho (Bj.at_ (aL (q:=q+30) hs (i:=0) rfl (by decide)) Sa) (Bj.at_ (aL (q:=q+30) hs (i:=1) rfl (by decide)) Sb) st rest X ts (List.prefix_refl _) K hw hl) fun t X' ts' E G S=>?_
 refine ⟨t,X',ts',fun n=>?_,G,S⟩
 have key:∀ c∈[61,521611141475,512970483042,7629154],(asks.all fun op=>cop .eq [] (.str op) (.str c)==some false)=true:=by decide +kernel
 have no:∀ c∈[61,521611141475,512970483042,7629154],∀ H,cop .eq H (.str op) (.str c)=some false:=fun c m H=>beq_iff_eq.mp (List.all_eq_true.mp (key c m) op ho)
 exact b6 (e_cmp (e_var' (lke_skip rfl lke_same)) e_str (no _ (by decide) _)) rfl (b6 (e_cmp (e_var' (lke_skip rfl lke_same)) e_str (no _ (by decide) _)) rfl (b6 (e_cmp (e_var' (lke_skip rfl lke_same)) e_str (no _ (by decide) _)) rfl (x_asgv (e_ite (e_cmp (e_var' (lke_skip rfl lke_same)) e_str (no _ (by decide) _)) (ei_f rfl (E n))) x_nil) x_nil) x_nil) x_nil
end
section
variable {w q m:Nat} {ga gb gc gd gt:List Nat→Nat}
theorem qf {ask p mt:Nat} {va vb vc vd:V} (T:Told w q ask (min p w) mt ga gb gt):After w (q+10) 111477645076579 [.str ask,.int p,va,vb,vc,vd] m (mt + 1) ((m + m + mt) + ((m + m + mt) + (m + m + mt)) + 1) [ga,gb,gc,gd] (fun v=>rk w ⟨6648937,[0],3,[0,3,3]⟩ [gt v,gc v,gd v]):=by
 intro st rest X ts l1 l2 args K hw hl S
 refine aW S.inv fun a r e Sa S=>?_
 refine aW S.inv fun b r' e' Sb S=>?_
 refine aW S.inv fun c r2 e2 Sc S=>?_
 refine aW S.inv fun d r3 e3 Sd S=>?_
 rw [S.inv0] at e3
 subst e3;subst e2;subst e';subst e
 refine aT (T (ρm w 111477645076579 [.str ask,.int p,va,vb,vc,vd] l1 l2 [a,b,c,d]) [l1,l2] st rest X ts a b c d m ⟨rfl⟩ ⟨rfl⟩ ⟨rfl⟩ K hw (by lia) Sa Sb) fun t X1 ts1 E1 G1 S1=>?_
 have hb:Lk (ρc (ρm w 111477645076579 [.str ask,.int p,va,vb,vc,vd] l1 l2 [a,b,c,d]) ask (min p w)) 1802396002 (.ref 1):=lke_skip rfl (lke_skip rfl ⟨rfl⟩)
 have hs:Lk (ρc (ρm w 111477645076579 [.str ask,.int p,va,vb,vc,vd] l1 l2 [a,b,c,d]) ask (min p w)) 1701670771 (.lst (intsV [a,b,c,d])):=lke_skip rfl (lke_skip rfl ⟨rfl⟩)
 refine aT (u9 (q:=q + 12) hb hs S1 ((Sc.up G1.pre).more (k':=m + m + mt) (by lia)) ((Sd.up G1.pre).more (k':=m + m + mt) (by lia)) st rest X1 ts1 (List.prefix_refl _) G1.bk (G1.w.trans hw) (by have:=G1.len;lia)) fun t2 X2 ts2 E2 G2 S2=>?_
 refine ⟨t2,X2,ts2,fun n=>?_,G1.trans G2,S2⟩
 have s1:((idx 1 [V.str 111477645076579,.str ask,.int p,va,vb,vc,vd].length).bind fun j=>[V.str 111477645076579,.str ask,.int p,va,vb,vc,vd][j]?)=some (.str ask):=e7 (by decide) rfl (by decide)
 have s2:((idx 2 [V.str 111477645076579,.str ask,.int p,va,vb,vc,vd].length).bind fun j=>[V.str 111477645076579,.str ask,.int p,va,vb,vc,vd][j]?)=some (.int p):=e7 (by decide) rfl (by decide)
 apply Exists.intro
 rw [show n + (q + 10) + 28=n + q + 38 by lia]
 show Xs P (n+q+38) (ko.body.drop 4) _ _ _ _ _
 apply x_ifs
 ·exact e_cmp (ag rfl) e_str rfl
 ·apply xi_f rfl
  apply x_ifs
  ·exact e_cmp (ag rfl) e_str rfl
  ·apply xi_f rfl
   apply x_ifs
   ·exact e_cmp (ag rfl) e_str rfl
   ·apply xi_f rfl
    apply x_asgt
    ·exact e_tup (es_cons (e_sub (ag rfl) e_num s1) (es_cons (e_bi (es_cons (e_sub (ag rfl) e_num s2) (es_cons (ag rfl) es_nil)) min2) es_nil)) rfl
    ·rfl
    ·apply vC (E1 n)
     apply x_ret
     exact E2 n
theorem eJ {wo:Nat} (h:wo=6647407∨wo=7305076):∃ g,Shp w (q+40) (.tup [.str wo]) 0 0 g:=by
 refine Or.elim h (fun e=>?_) fun e=>?_<;>subst e
 ·refine ⟨_,fun st rest X ts l1 l2 K hw hl s1 s2=>⟨l1,X,ts,fun n=>?_,⟨List.prefix_refl _,K,rfl,Nat.le_refl _⟩,s1⟩⟩
  have a1:((idx 0 [V.str 6647407].length).bind fun j=>[V.str 6647407][j]?)=some (.str 6647407):=rfl
  have a2:dR (hp st X ts rest) (.tup [.int l1,.int l2]) (.int 0)=some (.int l1):=i9 (by decide) rfl (by decide)
  apply hP (by rfl)
  apply x_asgv
  ·exact e_sub (ag rfl) e_num a1
  ·apply x_ifs
   ·exact e_or (e_cmp (ag rfl) e_str rfl) (oi_t rfl)
   ·apply k8 rfl
    exact e_sub (ag rfl) (e_bi (es_cons (e_cmp (ag rfl) e_str rfl) es_nil) rfl) a2
 ·refine ⟨_,fun st rest X ts l1 l2 K hw hl s1 s2=>⟨l2,X,ts,fun n=>?_,⟨List.prefix_refl _,K,rfl,Nat.le_refl _⟩,s2⟩⟩
  have a1:((idx 0 [V.str 7305076].length).bind fun j=>[V.str 7305076][j]?)=some (.str 7305076):=rfl
  have a2:dR (hp st X ts rest) (.tup [.int l1,.int l2]) (.int 1)=some (.int l2):=i9 (by decide) rfl (by decide)
  apply hP (by rfl)
  apply x_asgv
  ·exact e_sub (ag rfl) e_num a1
  ·apply x_ifs
   ·exact e_or (e_cmp (ag rfl) e_str rfl) (oi_f rfl (e_or_1 (e_cmp (ag rfl) e_str rfl)))
   ·apply k8 rfl
    exact e_sub (ag rfl) (e_bi (es_cons (e_cmp (ag rfl) e_str rfl) es_nil) rfl) a2
theorem kD (v w:Nat):Int.fmod (v:Int) (2 ^ w)=((v % 2 ^ w:Nat):Int):=by
 have h:((2:Int) ^ w)=((2 ^ w:Nat):Int):=by rw [Int.natCast_pow];rfl
 rw [h,Int.fmod_eq_emod_of_nonneg _ (Int.natCast_nonneg _)];rfl
theorem ny {v:Nat}:Shp w (q+40) (.tup [.str 125779768604014,.int v]) 1 1 (fun _=>v % 2 ^ w):=by
 intro st rest X ts l1 l2 K hw hl s1 s2
 refine aX (uq (st:=st) (rest:=rest) K (by lia) (v:=v)) fun i ts2 C N=>?_
 have at2:=N.at_
 rw [hw] at C
 rw [hw,Int.toNat_natCast,kD] at at2
 have a1:((idx 0 [V.str 125779768604014,.int v].length).bind fun j=>[V.str 125779768604014,.int v][j]?)=some (.str 125779768604014):=rfl
 have a2:((idx 1 [V.str 125779768604014,.int v].length).bind fun j=>[V.str 125779768604014,.int v][j]?)=some (.int v):=rfl
 refine ⟨i,X,ts2,fun n=>?_,N.gr,Sem.cst at2 (by decide) (by simp [ju,-Int.natCast_emod]) (show v % 2 ^ w < 2 ^ w from Nat.mod_lt _ (Nat.two_pow_pos w))⟩
 apply hP (by rfl)
 apply x_asgv
 ·exact e_sub (ag rfl) e_num a1
 ·apply x_ifs
  ·exact e_or (e_cmp (ag rfl) e_str rfl) (oi_f rfl (e_or_1 (e_cmp (ag rfl) e_str rfl)))
  ·apply xi_f rfl
   apply x_ifs
   ·exact e_cmp (ag rfl) e_str rfl
   ·apply k8 rfl
    have p1:Ev P (n + (q + 36)) (.sub (.var 435677128819) (.num 1)) (ak (ρ0 w (.tup [.str 125779768604014,.int v]) l1 l2) 1685221239 (.str 125779768604014)) (hp st X ts rest) (.int v) (hp st X ts rest):=e_sub (ag rfl) e_num a2
    (repeat' (first | walk_at "e" | exact p1 | exact C _ | walk_at "a"))
end
noncomputable def reel (l:List Int) (p:Nat):O:=.list [.lst (intsV l),.int (p:Int)]
section
variable {l:List Int} {p:Nat} {R:Hp}
theorem we (x:Int) {k:Nat} (hk:0 < k):∃ c < k,Int.fmod (Int.fmod x 103) (k:Int)=((c:Nat):Int):=by
 have h0:=Int.fmod_nonneg_of_pos (Int.fmod x 103) (Int.natCast_pos.mpr hk)
 exact ⟨(Int.fmod (Int.fmod x 103) (k:Int)).toNat,(Int.toNat_lt h0).mpr (Int.fmod_lt_of_pos (Int.fmod x 103) (Int.natCast_pos.mpr hk)),(Int.toNat_of_nonneg h0).symm⟩
theorem cy (hl:l.length≤50) (hp:p≤1000) {k:Nat} (hk:0 < k):∃ c < k,∀ n,Ca P (n+20) bT [.ref 0,.int k] (reel l p :: R) (.int (c:Nat)) (reel l (p + 1) :: R):=by
 have len:aP .len [.lst (intsV l)] (reel l (p + 1) :: R)=some (.int l.length,reel l (p + 1) :: R):=d4 (by rw [intsV,List.length_map]) (ah (by lia))
 have set:bR (reel l p :: R) (.ref 0) (.int 1) (.int ((p:Int) + 1))=some (reel l (p + 1) :: R):=rfl
 have s0:dR (reel l (p + 1) :: R) (.ref 0) (.int 0)=some (.lst (intsV l)):=rfl
 have s1:dR (reel l p :: R) (.ref 0) (.int 1)=some (.int (p:Int)):=rfl
 have md:fV .mod (.int 0) (.int k)=fV .mod (.int 0) (.int k):=rfl
 by_cases h:p < l.length
 ·refine ae (we l[p] hk) fun c hc e=>?_
  refine ⟨c,hc,fun n=>?_⟩
  have s2:dR (reel l (p + 1) :: R) (.lst (intsV l)) (.int (p:Int))=some (.int l[p]):=dW (Int.natCast_nonneg p) (by rw [Int.toNat_natCast,intsV,List.getElem?_map,List.getElem?_eq_getElem h];rfl) (by lia)
  have lt:decide ((p:Int) < (l.length:Int))=true:=decide_eq_true (by lia)
  apply ao
  ·rfl
  ·(repeat' (first | walk_at "e" | exact len | exact set | exact s0 | exact s1 | exact s2 | exact mv (by decide) | exact mv (by lia) | walk_at "a"))
  ·rw [e]
  ·rfl
 ·refine ae (we (5 * p * p + 8 * p + 1) hk) fun c hc e=>?_
  refine ⟨c,hc,fun n=>?_⟩
  have lt:decide ((p:Int) < (l.length:Int))=false:=decide_eq_false (by lia)
  have m1:fV .mul (.int 5) (.int (p:Int))=some (.int (5 * p)):=mr (by decide)
  have m2:fV .mul (.int (5 * p)) (.int (p:Int))=some (.int (5 * p * p)):=mr (by lia)
  have m3:fV .mul (.int 8) (.int (p:Int))=some (.int (8 * p)):=mr (by decide)
  apply ao
  ·rfl
  ·(repeat' (first | walk_at "e" | exact len | exact set | exact s0 | exact s1 | exact m1 | exact m2 | exact m3 | exact mv (by decide) | exact mv (by lia) | walk_at "a"))
  ·rw [e]
  ·rfl
noncomputable def Drawn (w:Nat) (l:List Int) (p:Nat) (R:Hp) (h f q m k:Nat):Prop:=∃ vs g p',p'≤p + 2 + 9 * h∧(∀ n,Ca P (n+f) fC [.ref 0,.int h] (reel l p :: R) (.tup vs) (reel l p' :: R))∧Shp w q (.tup vs) m k g
theorem nA {w:Nat} (hl:l.length≤50) (hp:p≤900):Drawn w l p R 0 40 40 1 1:=by
 refine ae (cy (R:=R) hl (p:=p) (by lia) (k:=3) (by decide)) fun c hc C=>?_
 refine ae (cy (R:=R) hl (p:=p + 1) (by lia) (k:=4) (by decide)) fun c2 hc2 C2=>?_
 have:c=0∨c=1∨c=2:=by lia
 refine Or.elim this (fun e=>?_) fun hh_=>Or.elim hh_ (fun e=>?_) fun e=>?_<;>subst e
 ·refine aG (eJ (w:=w) (q:=0) (.inl rfl)) fun g S=>?_
  refine ⟨_,g,p + 1,by lia,fun n=>?_,S.more (by decide) (by decide)⟩
  apply ao
  ·rfl
  ·(repeat' (first | walk_at "e" | exact C _ | walk_at "a"))
  ·rfl
  ·rfl
 ·refine aG (eJ (w:=w) (q:=0) (.inr rfl)) fun g S=>?_
  refine ⟨_,g,p + 1,by lia,fun n=>?_,S.more (by decide) (by decide)⟩
  apply ao
  ·rfl
  ·(repeat' (first | walk_at "e" | exact C _ | walk_at "a"))
  ·rfl
  ·rfl
 ·refine ⟨_,_,p + 2,by lia,fun n=>?_,ny (w:=w) (q:=0) (v:=c2)⟩
  apply ao
  ·rfl
  ·(repeat' (first | walk_at "e" | exact C _ | exact C2 _ | walk_at "a"))
  ·rfl
  ·rfl
end
section
variable {l:List Int} {p:Nat} {R:Hp} {w f q m k h:Nat}
theorem vI {op:Nat} (ho:op∈iZ):Wo op∧∀ c∈[6647407,7305076,125779768604014],∀ H,cop .eq H (.str op) (.str c)=some false:=by
 have key:∀ c∈[6647407,7305076,125779768604014,7632227,495773510003,111477645076579],(iZ.all fun op=>cop .eq [] (.str op) (.str c)==some false)=true:=by decide +kernel
 have no:∀ c∈[6647407,7305076,125779768604014,7632227,495773510003,111477645076579],∀ H,cop .eq H (.str op) (.str c)=some false:=fun c m H=>beq_iff_eq.mp (List.all_eq_true.mp (key c m) op ho)
 exact ⟨⟨no _ (by decide),no _ (by decide),fun H=>by have e:=no 111477645076579 (by decide) H;show (eqV H (.str op) (.str 111477645076579)).map (!·)=some true;rw [show eqV H (.str op) (.str 111477645076579)=some false from e];rfl⟩,fun c m=>no c (List.mem_append_left _ m:c∈[6647407,7305076,125779768604014]++[7632227,495773510003,111477645076579])⟩
theorem jY {os:List Nat} {c:Nat} (hc:c < os.length) (hl:os.length < 100):∃ op∈os,∀ H,dR H (.tup (os.map V.str)) (.int (c:Int))=some (.str op) :=
 ⟨os[c],List.getElem_mem hc,fun H=>i9 (Int.natCast_nonneg c) (by rw [Int.toNat_natCast,List.getElem?_map,List.getElem?_eq_getElem hc];rfl) (by rw [Int.toNat_natCast];lia)⟩
structure Step (l:List Int) (R:Hp) (w f q m k h:Nat):Prop where
 hl:l.length≤50
 w2:w=1∨w=2
 k1:1≤k
 hh:h≤2
 ih:∀ p,p + 100 * h≤600→Drawn w l p R h (f+40) (q+40) m k
theorem dO:fV .sub (.int ((h + 1:Nat):Int)) (.int 1)=some (.int (h:Int)):=by
 show some (V.int (((h + 1:Nat):Int) - 1))=_
 rw [show (((h + 1:Nat):Int) - 1)=(h:Int) by lia]
theorem c8:decide ((0:Int) < ((h + 1:Nat):Int))=true:=decide_eq_true (by lia)
theorem yk {fd:FDef} {a:List V} {H H':Hp} {v:V} {f f':Nat} (D:∀ n,Ca P (n+f) fd a H v H') (k:f≤f') (n:Nat):Ca P (n+f') fd a H v H':=by have:=D (n + (f' - f));rwa [show n + (f' - f) + f=n + f' by lia] at this
noncomputable abbrev Goal (l:List Int) (R:Hp) (w f q m k h p:Nat):Prop:=Drawn w l p R (h + 1) (f+44) (q+44) (m + 6) (24 * k + 30)
theorem tH (S:Step l R w f q m k h) (hp:p + 100 * h≤500) (C:∀ n,Ca P (n+20) bT [.ref 0,.int 9] (reel l p :: R) (.int 3) (reel l (p + 1) :: R)):Goal l R w f q m k h p:=by
 refine ae (cy (R:=R) S.hl (p:=p + 1) (by lia) (k:=2) (by decide)) fun c2 hc2 C2=>?_
 refine aT (S.ih (p + 2) (by have:=S.hh;lia)) fun vs g p' hp' D Sh=>?_
 refine ae (jY (os:=[500085716578,444083369570]) hc2 (by decide)) fun op hop q1=>?_
 have hop':op=500085716578∨op=444083369570:=by simpa using hop
 have hW:Wo op∧∀ c∈[6647407,7305076,125779768604014],∀ H,cop .eq H (.str op) (.str c)=some false:=by
  refine Or.elim hop' (fun e=>?_) fun e=>?_<;>rw [e]<;>exact ⟨⟨fun H=>rfl,fun H=>rfl,fun H=>rfl⟩,fun c m=>by refine Or.elim (List.mem_cons.mp m) (fun e=>?_) fun m=>?_;(rw [e];exact fun H=>rfl);refine Or.elim (List.mem_cons.mp m) (fun e=>?_) fun m=>?_;(rw [e];exact fun H=>rfl);(rw [List.mem_singleton.mp m];exact fun H=>rfl)⟩
 have s9:=dO (h:=h)
 have g9:=c8 (h:=h)
 refine ⟨_,_,p',by lia,fun n=>?_,(cK (q:=q + 16) (.take Sh .nil) (by simp) (by simp) (hW.2 _ (by simp)) (hW.2 _ (by simp)) (hW.2 _ (by simp)) (qd hW.1 hop')).more (by lia) (by lia)⟩
 apply ao
 ·rfl
 ·(repeat' (first | walk_at "e" | exact C _ | exact C2 _ | exact D n | exact q1 _ | exact s9 | walk_at "a"))
 ·rfl
 ·rfl
theorem Step.zero (S:Step l R w f q m k h) {p:Nat} (hp:p≤800):∃ vs g p',p'≤p + 2∧(∀ n,Ca P (n+(f+40)) fC [.ref 0,.int 0] (reel l p :: R) (.tup vs) (reel l p' :: R))∧Shp w (q+40) (.tup vs) 1 k g:=by
 refine aT (nA (w:=w) (R:=R) S.hl (p:=p) (by lia)) fun vs g p' hp' D Sh=>?_
 exact ⟨vs,g,p',by lia,fun n=>by have:=D (n + f);rwa [show n + f + 40=n + (f + 40) by lia] at this,(Sh.mono (by lia)).more (Nat.le_refl _) S.k1⟩
theorem qH (S:Step l R w f q m k h) (hp:p + 100 * h≤500) {c:Nat} (hc:c=4∨c=5) (C:∀ n,Ca P (n+20) bT [.ref 0,.int 9] (reel l p :: R) (.int c) (reel l (p + 1) :: R)):Goal l R w f q m k h p:=by
 refine ae (cy (R:=R) S.hl (p:=p + 1) (by lia) (k:=10) (by decide)) fun c2 hc2 C2=>?_
 refine aT (S.ih (p + 2) (by have:=S.hh;lia)) fun vs g p' hp' D Sh=>?_
 refine aT (S.zero (p:=p') (by have:=S.hh;lia)) fun vs2 g2 p2 hp2 D2 Sh2=>?_
 refine ae (jY (os:=iZ) hc2 (by decide)) fun op hop q1=>?_
 have hW:=vI hop
 have s9:=dO (h:=h)
 have g9:=c8 (h:=h)
 refine ⟨_,_,p2,by lia,fun n=>?_,(cK (q:=q + 16) (.take Sh (.take Sh2 .nil)) (by simp) (by simp) (hW.2 _ (by simp)) (hW.2 _ (by simp)) (hW.2 _ (by simp)) (qb hW.1 hop)).more (by lia) (by lia)⟩
 refine Or.elim hc (fun e=>?_) fun e=>?_<;>subst e
 ·apply ao
  ·rfl
  ·(repeat' (first | walk_at "e" | exact C _ | exact C2 _ | exact D n | exact D2 n | exact q1 _ | exact s9 | walk_at "a"))
  ·rfl
  ·rfl
 ·apply ao
  ·rfl
  ·(repeat' (first | walk_at "e" | exact C _ | exact C2 _ | exact D n | exact D2 n | exact q1 _ | exact s9 | walk_at "a"))
  ·rfl
  ·rfl
end
section
variable {l:List Int} {p:Nat} {R:Hp} {w f q m k h:Nat}
theorem ng (S:Step l R w f q m k h) (hp:p + 100 * h≤500) {c:Nat} (hc:c=0∨c=1∨c=2) (C:∀ n,Ca P (n+20) bT [.ref 0,.int 9] (reel l p :: R) (.int c) (reel l (p + 1) :: R)):Goal l R w f q m k h p:=by
 have g9:=c8 (h:=h)
 refine Or.elim hc (fun e=>?_) fun hh_=>Or.elim hh_ (fun e=>?_) fun e=>?_<;>subst e
 ·refine aG (eJ (w:=w) (q:=q + 4) (.inl rfl)) fun g Sh=>?_
  refine ⟨_,g,p + 1,by lia,fun n=>?_,Sh.more (by lia) (by lia)⟩
  apply ao
  ·rfl
  ·(repeat' (first | walk_at "e" | exact C _ | walk_at "a"))
  ·rfl
  ·rfl
 ·refine aG (eJ (w:=w) (q:=q + 4) (.inr rfl)) fun g Sh=>?_
  refine ⟨_,g,p + 1,by lia,fun n=>?_,Sh.more (by lia) (by lia)⟩
  apply ao
  ·rfl
  ·(repeat' (first | walk_at "e" | exact C _ | walk_at "a"))
  ·rfl
  ·rfl
 ·refine ae (cy (R:=R) S.hl (p:=p + 1) (by lia) (k:=4) (by decide)) fun c2 hc2 C2=>?_
  refine ⟨_,_,p + 2,by lia,fun n=>?_,(ny (w:=w) (q:=q + 4) (v:=c2)).more (by lia) (by lia)⟩
  apply ao
  ·rfl
  ·(repeat' (first | walk_at "e" | exact C _ | exact C2 _ | walk_at "a"))
  ·rfl
  ·rfl
theorem qE (S:Step l R w f q m k h) (hp:p + 100 * h≤500) (C:∀ n,Ca P (n+20) bT [.ref 0,.int 9] (reel l p :: R) (.int 8) (reel l (p + 1) :: R)):Goal l R w f q m k h p:=by
 refine aT (S.ih (p + 1) (by have:=S.hh;lia)) fun vs g p' hp' D Sh=>?_
 have s9:=dO (h:=h)
 have g9:=c8 (h:=h)
 have D:=yk D (f':=f + 41) (by lia)
 refine ⟨_,_,p',by lia,fun n=>?_,(cK (q:=q + 16) (.take Sh .nil) (by simp) (by simp) (fun H=>rfl) (fun H=>rfl) (fun H=>rfl) (qc S.w2)).more (by lia) (by lia)⟩
 apply ao
 ·rfl
 ·(repeat' (first | walk_at "e" | exact C _ | exact D n | exact s9 | walk_at "a"))
 ·rfl
 ·rfl
theorem qF (S:Step l R w f q m k h) (hp:p + 100 * h≤500) (C:∀ n,Ca P (n+20) bT [.ref 0,.int 9] (reel l p :: R) (.int 7) (reel l (p + 1) :: R)):Goal l R w f q m k h p:=by
 refine ae (cy (R:=R) S.hl (p:=p + 1) (by lia) (k:=3) (by decide)) fun c2 hc2 C2=>?_
 refine aT (S.ih (p + 2) (by have:=S.hh;lia)) fun vs g p' hp' D Sh=>?_
 refine aT (S.zero (p:=p') (by have:=S.hh;lia)) fun vs2 g2 p2 hp2 D2 Sh2=>?_
 have s9:=dO (h:=h)
 have g9:=c8 (h:=h)
 refine ⟨_,_,p2,by lia,fun n=>?_,(cK (q:=q + 16) (.skip rfl rfl (.take Sh (.take Sh2 .nil))) (by simp) (by simp) (fun H=>rfl) (fun H=>rfl) (fun H=>rfl) (qe (p:=c2) (by lia))).more (by lia) (by lia)⟩
 apply ao
 ·rfl
 ·(repeat' (first | walk_at "e" | exact C _ | exact C2 _ | exact D n | exact D2 n | exact s9 | walk_at "a"))
 ·rfl
 ·rfl
theorem qy {ask pl:Nat} {ga gb:List Nat→Nat} (hw:w=1∨w=2) (h:ask∈asks++[61,521611141475,512970483042,7629154]) (hp:pl≤w):∃ mt gt,mt≤2∧Told w q ask pl mt ga gb gt:=by
 refine Or.elim (List.mem_append.mp h) (fun h=>?_) fun h=>?_
 ·exact ⟨1,_,by decide,qx h⟩
 ·refine Or.elim (List.mem_cons.mp h) (fun e=>?_) fun h=>?_
  ·rw [e];exact ⟨2,_,by decide,tC⟩
  refine Or.elim (List.mem_cons.mp h) (fun e=>?_) fun h=>?_
  ·rw [e];exact ⟨1,_,by decide,lh hp⟩
  refine Or.elim (List.mem_cons.mp h) (fun e=>?_) fun h=>?_
  ·rw [e];exact ⟨1,_,by decide,lj hp⟩
  rw [List.mem_singleton.mp h];exact ⟨1,_,by decide,qw hw⟩
theorem qG (S:Step l R w f q m k h) (hp:p + 100 * h≤500) (C:∀ n,Ca P (n+20) bT [.ref 0,.int 9] (reel l p :: R) (.int 6) (reel l (p + 1) :: R)):Goal l R w f q m k h p:=by
 refine ae (cy (R:=R) S.hl (p:=p + 1) (by lia) (k:=8) (by decide)) fun c1 hc1 C1=>?_
 refine ae (cy (R:=R) S.hl (p:=p + 2) (by lia) (k:=3) (by decide)) fun c2 hc2 C2=>?_
 refine aT (S.zero (p:=p + 3) (by have:=S.hh;lia)) fun v1 g1 p1 hp1 D1 Sh1=>?_
 refine aT (S.ih p1 (by have:=S.hh;lia)) fun vs g p' hp' D Sh=>?_
 refine aT (S.zero (p:=p') (by have:=S.hh;lia)) fun v2 g2 p2 hp2 D2 Sh2=>?_
 refine aT (S.zero (p:=p2) (by have:=S.hh;lia)) fun v3 g3 p3 hp3 D3 Sh3=>?_
 refine ae (jY (os:=asks++[61,521611141475,512970483042,7629154]) hc1 (by decide)) fun op hop q1=>?_
 refine aX (qy (w:=w) (q:=q + 6) (ga:=g1) (gb:=g) (pl:=min c2 w) S.w2 hop (Nat.min_le_right _ _)) fun mt gt hm T=>?_
 have s9:=dO (h:=h)
 have g9:=c8 (h:=h)
 refine ⟨_,_,p3,by lia,fun n=>?_,(cK (q:=q + 16) (.skip rfl rfl (.skip rfl rfl (.take Sh1 (.take Sh (.take Sh2 (.take Sh3 .nil)))))) (by simp) (by simp) (fun H=>rfl) (fun H=>rfl) (fun H=>rfl) (qf (q:=q + 6) T)).more (by lia) (by lia)⟩
 apply ao
 ·rfl
 ·(repeat' (first | walk_at "e" | exact C _ | exact C1 _ | exact C2 _ | exact D1 n | exact D n | exact D2 n | exact D3 n | exact q1 _ | exact s9 | walk_at "a"))
 ·rfl
 ·rfl
theorem j0 (S:Step l R w f q m k h) (hp:p + 100 * h≤500):Goal l R w f q m k h p:=by
 refine ae (cy (R:=R) S.hl (p:=p) (by lia) (k:=9) (by decide)) fun c hc C=>?_
 have:(c=0∨c=1∨c=2)∨c=3∨(c=4∨c=5)∨c=6∨c=7∨c=8:=(by decide:∀ c < 9,(c=0∨c=1∨c=2)∨c=3∨(c=4∨c=5)∨c=6∨c=7∨c=8) c hc
 rcases this with e | e | e | e | e | e
 ·exact ng S hp e C
 ·subst e;exact tH S hp C
 ·exact qH S hp e C
 ·subst e;exact qG S hp C
 ·subst e;exact qF S hp C
 ·subst e;exact qE S hp C
theorem xm (hl:l.length≤50) (hw:w=1∨w=2) (hp:p≤500):Drawn w l p R 1 44 44 7 54 :=
 j0 (f:=0) (q:=0) (m:=1) (k:=1) (h:=0) ⟨hl,hw,by decide,by decide,fun p hp=>nA hl (by lia)⟩ hp
theorem yg (hl:l.length≤50) (hw:w=1∨w=2) (hp:p≤400):Drawn w l p R 2 48 48 13 1326 :=
 j0 (f:=4) (q:=4) (m:=7) (k:=54) (h:=1) ⟨hl,hw,by decide,by decide,fun p hp=>xm hl hw (Nat.le_of_add_le_add_right (b:=100) hp)⟩ (Nat.add_le_add_right hp 100)
end
noncomputable abbrev En:=List ((Int×List Int)×V)
noncomputable def kf (k:Int×List Int):V:=.tup [.int k.1,.tup (intsV k.2)]
noncomputable def bH (E:En):List (V×V):=E.map fun e=>(kf e.1,e.2)
noncomputable def lkE:En→Int×List Int→Option V
 | [],_=>none
 | (j,v) :: r,k=>if j=k then some v else lkE r k
noncomputable def fe:En→Int×List Int→V→En
 | [],k,v=>[(k,v)]
 | (j,u) :: r,k,v=>if j=k then (j,v) :: r else (j,u) :: fe r k v
theorem nK (j k:Int×List Int):V.same (kf j) (kf k)=decide (j=k):=by
 show ((j.1==k.1)&&(V.sames (intsV j.2) (intsV k.2)&&true))=_
 rw [cZ,Bool.and_true,Bool.eq_iff_iff]
 simp [Prod.ext_iff]
theorem kq (k:Int×List Int):(kf k).isKey=true:=by
 show (V.keys 2 (intsV k.2)&&true)=true
 exact mA (fE 2 _) rfl
theorem fH:∀ (E:En) (k:Int×List Int),getT (bH E) (kf k)=lkE E k
 | [],_=>rfl
 | (j,v) :: r,k=>(congrArg (cond · (some v) (getT (bH r) (kf k))) (nK j k)).trans ((Bool.cond_decide _ _ _).trans (congrArg (fun x=>if j=k then some v else x) (fH r k)))
theorem jf:∀ (E:En) (k:Int×List Int) (v:V),setT (bH E) (kf k) v=bH (fe E k v)
 | [],_,_=>rfl
 | (j,u) :: r,k,v=>(congrArg (cond · ((kf j,v) :: bH r) ((kf j,u) :: setT (bH r) (kf k) v)) (nK j k)).trans ((Bool.cond_decide _ _ _).trans ((congrArg (fun x=>if j=k then (kf j,v) :: bH r else (kf j,u) :: x) (jf r k v)).trans (apply_ite bH (j=k) ((j,v) :: r) ((j,u) :: fe r k v)).symm))
theorem gn (E:En) (k k':Int×List Int) (v:V):lkE (fe E k v) k'=if k=k' then some v else lkE E k':=by
 induction E with
 | nil=>rfl
 | cons p r ih =>
  show lkE (if p.1=k then (p.1,v) :: r else p :: fe r k v) k'=if k=k' then some v else (if p.1=k' then some p.2 else lkE r k')
  by_cases h:p.1=k
  ·rw [if_pos h,h]
   show (if k=k' then some v else lkE r k')=_
   by_cases q:k=k'
   ·rw [if_pos q,if_pos q]
   ·rw [if_neg q,if_neg q,if_neg q]
  ·rw [if_neg h]
   show (if p.1=k' then some p.2 else lkE (fe r k v) k')=_
   rw [ih]
   by_cases q:p.1=k'
   ·rw [if_pos q,if_pos q,if_neg fun e=>h (q.trans e.symm)]
   ·rw [if_neg q,if_neg q]
theorem nC (E:En) (k:Int×List Int) (v:V):(fe E k v).length≤E.length + 1:=by
 induction E with
 | nil=>exact Nat.le_refl _
 | cons p r ih =>
  show (if p.1=k then (p.1,v) :: r else p :: fe r k v).length≤_
  by_cases h:p.1=k
  ·rw [if_pos h];exact Nat.le_succ _
  ·rw [if_neg h];exact Nat.succ_le_succ ih
noncomputable def cnt (p:Nat→Bool):Nat→Nat
 | 0=>0
 | n + 1=>cnt p n + (p n).toNat
theorem pF (p:Nat→Bool):∀ n,cnt p n≤n
 | 0=>Nat.le_refl _
 | n + 1=>Nat.add_le_add (pF p n) (Bool.toNat_le (p n))
theorem kg {a b:Bool} (h:a=true→b=true):a.toNat≤b.toNat:=by
 cases a
 ·exact Nat.zero_le _
 ·rw [h rfl];exact Nat.le_refl _
theorem kP {p p':Nat→Bool} (h:∀ i,p i=true→p' i=true):∀ n,cnt p n≤cnt p' n
 | 0=>Nat.le_refl _
 | n + 1=>Nat.add_le_add (kP h n) (kg (h n))
theorem rW {p p':Nat→Bool} (h:∀ i,p i=true→p' i=true) {u:Nat} (h1:p u=false) (h2:p' u=true) (n:Nat) (k:u < n):cnt p n + 1≤cnt p' n:=by
 induction n with
 | zero=>exact (Nat.not_lt_zero _ k).elim
 | succ n ih =>
  show cnt p n + (p n).toNat + 1≤cnt p' n + (p' n).toNat
  by_cases e:u=n
  ·rw [← e,h1,h2];exact Nat.succ_le_succ (kP h u)
  ·rw [Nat.add_right_comm];exact Nat.add_le_add (ih (Nat.lt_of_le_of_ne (Nat.le_of_lt_succ k) e)) (kg (h n))
noncomputable def known (E:En) (f:List Int) (i:Nat):Bool:=(lkE E ((i:Int),f)).isSome
noncomputable def aK (m:Nat) (c:Cn):V:=match c with
 | none=>.none
 | some g=>.lst ((List.range m).map fun j=>V.int (g j:Nat))
noncomputable def mw (w:Nat) (f:List Int):Nat:=2 ^ (w * f.length)
structure Tab (w:Nat) (ts:List Tm) (E:En):Prop where
 r:∀ t f v,lkE E (t,f)=some v→∃ d c,Col w ts f d t c∧v=aK (mw w f) c
theorem Tab.up {w:Nat} {ts ts':List Tm} {E:En} (h:Tab w ts E) (p:ts <+: ts'):Tab w ts' E:=⟨fun t f v e=>by
 refine aX (h.r t f v e) fun d c h1 h2=>?_
 exact ⟨d,c,h1.up p (Nat.le_refl _),h2⟩⟩
theorem Tab.get {w:Nat} (hw:w=1∨w=2) {ts:List Tm} {E:En} (h:Tab w ts E) {f:List Int} (hf:f.Nodup) {t:Int} {v:V} (e:lkE E (t,f)=some v) {d:Nat} {c:Cn} (k:Col w ts f d t c):v=aK (mw w f) c:=by
 refine aX (h.r t f v e) fun d' c' h1 h2=>?_
 rw [h2,Col.det hw hf h1 k]
theorem Tab.set {w:Nat} {ts:List Tm} {E:En} (h:Tab w ts E) {f:List Int} {t:Int} {d:Nat} {c:Cn} (k:Col w ts f d t c):Tab w ts (fe E (t,f) (aK (mw w f) c)):=⟨fun t' f' v e=>by
 rw [gn] at e
 by_cases q:(t,f)=(t',f')
 ·rw [if_pos q] at e
  cases q;cases e
  exact ⟨d,c,k,rfl⟩
 ·rw [if_neg q] at e
  exact h.r t' f' v e⟩
theorem gN (k:Nat):((2:Int) ^ k)=((2 ^ k:Nat):Int):=by rw [Int.natCast_pow];rfl
theorem tT {j k:Nat}:fV .shr (.int (j:Int)) (.int (k:Int))=some (.int (j / 2 ^ k:Nat)):=by
 refine my (show (if 0≤(k:Int) then some (Int.fdiv (j:Int) (2 ^ (k:Int).toNat)) else Option.none)=_ from ?_)
 rw [if_pos (Int.natCast_nonneg k),Int.toNat_natCast,gN,Int.fdiv_eq_ediv_of_nonneg _ (Int.natCast_nonneg _)];rfl
theorem uk {a b:Nat} (h:b≠0):fV .mod (.int (a:Int)) (.int (b:Int))=some (.int (a % b:Nat)):=by
 refine (mv (by lia)).trans (congrArg some (congrArg V.int ?_))
 rw [Int.fmod_eq_emod_of_nonneg _ (Int.natCast_nonneg _)];rfl
theorem fc {k:Nat} (h:k≤1000):fV .shl (.int 1) (.int (k:Int))=some (.int (2 ^ k:Nat)):=by
 refine (s7 (Int.natCast_nonneg k) (by lia)).trans ?_
 rw [Int.toNat_natCast,gN]
section
variable {P:Prog} {n:Nat} {ρ:Lo} {H H1:Hp}
theorem sX {α:Type} {elt:E} {t:T} {g f:α→V}:∀ {l:List α},(∀ a∈l,∃ ρ',eh t (g a) ρ=some ρ'∧Ev P n elt ρ' H (f a) H)→Cl P n t elt (l.map g) ρ H (l.map f) H
 | [],_=>cl_nil
 | a :: l,h=>by
  refine ae (h a (List.mem_cons_self ..)) fun ρ' h1 h2=>?_
  exact cl_cons h1 h2 (sX fun b hb=>h b (List.mem_cons_of_mem _ hb))
theorem cT {α:Type} {elt it:E} {t:T} {g f:α→V} {l:List α} (i:It1 P n it ρ H (l.map g) H1) (h:∀ a∈l,∃ ρ',eh t (g a) (gu (bK :: aN [.mk t it []]) ρ)=some ρ'∧Ev P n elt ρ' H1 (f a) H1) (q:l.length≤100000):Ev P (n+1) (.comp elt [.mk t it []]) ρ H (.lst (l.map f)) H1 :=
 dB i (sX h) (ah (by rw [List.length_map];exact q))
end
noncomputable abbrev hj (st:O) (X:Ext) (ts:List Tm) (E:En) (g:Hp):Hp:=hp st X ts (jd :: .dT (bH E) :: g)
structure Fs (ts:List Tm) (f:List Int):Prop where
 nd:f.Nodup
 len:f.length≤3
 s:∀ t∈f,∃ tm,At ts t tm∧tm.sort=3
section
variable {st:O} {X:Ext} {ts:List Tm} {E:En} {g:Hp} {w:Nat} {f:List Int}
theorem m8 {w:Nat} (hw:w=1∨w=2) (l:List Int):eY (l.map fun _=>V.int (w:Int))=some (l.map fun _=>(w:Int))∧(l.map fun _=>(w:Int)).sum=((w * l.length:Nat):Int)∧(l.map fun _=>(w:Int)).all aM=true:=by
 induction l with
 | nil=>exact ⟨rfl,rfl,rfl⟩
 | cons a l ih =>
  refine ⟨bnd rfl (mpd ih.1 rfl),?_,?_⟩
  ·rw [List.map_cons,List.sum_cons,ih.2.1,List.length_cons,Nat.mul_add];lia
  ·rw [List.map_cons,List.all_cons,ih.2.2]
   refine Or.elim hw (fun e=>?_) fun e=>?_<;>rw [e]<;>rfl
theorem sM (K:Bk X ts) (hw:X.w=w) (F:Fs ts f) (n:Nat):Ca P (n+30) bB [.ref 13,.tup (intsV f)] (hj st X ts E g) (.int (mw w f:Nat)) (hj st X ts E g):=by
 have hw2:=hwn K hw
 have hl:=F.len
 have c:Ev P (n+27) (.comp (.meth (.attr (.var 1718379891) 1802396002) 448629336439 [.var 1953653104]) [.mk (.var 1953653104) (.var 1701147238) []]) (bB.params.zip [.ref 13,.tup (intsV f)]) (hj st X ts E g) (.lst (f.map fun _=>V.int w)) (hj st X ts E g):=by
  refine cT (g:=V.int) (d5 rfl (i_val rfl (ag rfl) rfl)) (fun a m=>⟨_,rfl,?_⟩) (by lia)
  refine ae (F.s a m) fun tm a1 a2=>?_
  have W:=a8 (st:=st) (rest:=jd :: .dT (bH E) :: g) K a1
  rw [a2,wd3,hw] at W
  (repeat' (first | walk_at "e" | exact W _ | walk_at "a"))
 have s:=m8 hw2 f
 have wl:w * f.length≤6:=by refine Or.elim hw2 (fun e=>?_) fun e=>?_<;>rw [e]<;>lia
 have e:aP .sum [.lst (f.map fun _=>V.int w)] (hj st X ts E g)=some (.int (w * f.length:Nat),hj st X ts E g):=by
  show (eY (f.map fun _=>V.int w)).bind (fun is=>bif aM is.sum&&is.all aM then some (V.int is.sum,hj st X ts E g) else Option.none)=_
  rw [s.1]
  show (bif aM (f.map fun _=>(w:Int)).sum&&(f.map fun _=>(w:Int)).all aM then some (V.int (f.map fun _=>(w:Int)).sum,hj st X ts E g) else Option.none)=_
  rw [s.2.1,s.2.2,br (by lia)];rfl
 apply ao
 ·rfl
 ·(repeat' (first | walk_at "e" | exact c | exact e | exact fc (by lia) | walk_at "a"))
 ·rfl
 ·rfl
structure Grown (w:Nat) (ts:List Tm) (E E':En) (k:Nat):Prop where
 t:Tab w ts E'
 m:∀ q v,lkE E q=some v→lkE E' q=some v
 l:E'.length≤E.length + k
theorem rG {i:Nat} {j:Nat}:∀ {ρ:Lo} {H:Hp} {n:Nat},(w=1∨w=2)→i≤3→Lk ρ 431316168567 (.int (j:Nat))→Lk ρ 7827308 (.int (i * w:Nat))→Lk ρ 448629336439 (.int (w:Nat)) →
  Ev P (n+10) (.bin .mod (.bin .shr (.var 431316168567) (.var 7827308)) (.bin .shl (.num 1) (.var 448629336439))) ρ H (.int (fr w i j:Nat)) H:=by
 intro ρ H n hw hi h1 h2 h3
 exact e_bin (e_bin (e_var' h1) (e_var' h2) tT) (e_bin e_num (e_var' h3) (fc (by lia))) (uk (Nat.ne_of_gt (Nat.two_pow_pos w)))
theorem fI (K:Bk X ts) (hw:X.w=w) (F:Fs ts f):∀ (r:List Int) {i:Nat} {E:En} {ρ:Lo},f.drop i=r→Tab w ts E→E.length + r.length≤100000→Lk ρ 1718379891 (.ref 13)→Lk ρ 1701147238 (.tup (intsV f))→Lk ρ 7827308 (.int (i * w:Nat)) →
  ∃ E' ρ',(∀ n,fT (sem P (n+40)) (.var 1953653104) [.ifs (.cmp (.tup [.var 1953653104,.var 1701147238]) [.notin] [.attr (.var 1718379891) 126879447277940])
   [.asg (.tup [448629336439,2037277037]) (.tup [.meth (.attr (.var 1718379891) 1802396002) 448629336439 [.var 1953653104],.meth (.var 1718379891) 139500706398269974925697389 [.var 1701147238]]),
   .asg (.sub (.attr (.var 1718379891) 126879447277940) (.tup [.var 1953653104,.var 1701147238])) (.comp (.bin .mod (.bin .shr (.var 431316168567) (.var 7827308)) (.bin .shl (.num 1) (.var 448629336439))) [.mk (.var 431316168567) (.range [.var 2037277037]) []])]
   [],
  .asg (.var 7827308) (.bin .add (.var 7827308) (.meth (.attr (.var 1718379891) 1802396002) 448629336439 [.var 1953653104]))] (intsV r) ρ (hj st X ts E g)=some (.nxt,ρ',hj st X ts E' g))∧Grown w ts E E' r.length∧(∀ t∈r,(lkE E' (t,f)).isSome=true)∧Lk ρ' 1718379891 (.ref 13)
 | [],i,E,ρ,e,T,hl,h1,h2,h3=>⟨E,ρ,fun n=>rfl,⟨T,fun _ _ h=>h,Nat.le_refl _⟩,fun _ m=>by (cases m),h1⟩
 | t :: r,i,E,ρ,e,T,hl,h1,h2,h3=>by
  have hw2:=hwn K hw
  have fi:f[i]?=some t:=by
   have:(f.drop i)[0]?=some t:=by rw [e];rfl
   simpa using this
  have fr':f.drop (i + 1)=r:=by
   rw [← List.drop_drop,e];rfl
  have mt:=List.mem_of_getElem? fi
  have hi:i < f.length:=(List.getElem?_eq_some_iff.mp fi).1
  have hlen:=F.len
  refine ae (F.s t mt) fun tm a1 a2=>?_
  have k1:=lke_skip (w:=.int t) (i:=1953653104) rfl h1
  have k2:=lke_skip (w:=.int t) (i:=1953653104) rfl h2
  have k3:=lke_skip (w:=.int t) (i:=1953653104) rfl h3
  have kk:(V.tup [.int t,.tup (intsV f)]).isKey=true:=kq (t,f)
  have col:Col w ts f 1 t (some (fr w i)):=.inl ⟨i,fi,rfl⟩
  have add:fV .add (.int ((i * w:Nat):Int)) (.int (w:Int))=some (.int ((i + 1) * w:Nat)):=by
   show some (V.int (((i * w:Nat):Int) + (w:Int)))=_
   rw [show (((i * w:Nat):Int) + (w:Int))=(((i + 1) * w:Nat):Int) by rw [Nat.add_mul];lia]
  cases hk:lkE E (t,f) with
  | some v =>
   have q:cop .notin (hj st X ts E g) (.tup [.int t,.tup (intsV f)]) (.ref 14)=some false:=by
    show ((nth (hj st X ts E g) 14).bind (d9 _)).map (!·)=_
    refine (mpd (bnd rfl (btt kk rfl)) ?_:_=some false)
    rw [show getT (bH E) (V.tup [.int t,.tup (intsV f)])=lkE E (t,f) from fH E (t,f),hk];rfl
   have W:=a8 (st:=st) (rest:=jd :: .dT (bH E) :: g) K a1
   rw [a2,wd3,hw] at W
   refine iY (fI K hw F r (E:=E) (ρ:=ak (ak ρ 1953653104 (.int t)) 7827308 (.int ((i + 1) * w:Nat))) fr' T (by rw [List.length_cons] at hl;lia) (lke_skip rfl k1) (lke_skip rfl k2) lke_same) fun E' ρ' L G kn l1=>?_
   refine ⟨E',ρ',fun n=>?_,⟨G.t,G.m,by have:=G.l;rw [List.length_cons];lia⟩,fun u m=>?_,l1⟩
   ·refine c9 (ρ1:=ak ρ 1953653104 (.int t)) rfl (Xs.h (ρ':=ak (ak ρ 1953653104 (.int t)) 7827308 (.int ((i + 1) * w:Nat))) (H':=hj st X ts E g) ?_) (L n)
    (repeat' (first | walk_at "e" | exact q | exact W _ | exact add | walk_at "a"))
   ·refine Or.elim (List.mem_cons.mp m) (fun e=>?_) fun m=>?_
    ·rw [e,G.m _ _ hk];rfl
    ·exact kn u m
  | none =>
   have q:cop .notin (hj st X ts E g) (.tup [.int t,.tup (intsV f)]) (.ref 14)=some true:=by
    show ((nth (hj st X ts E g) 14).bind (d9 _)).map (!·)=_
    refine (mpd (bnd rfl (btt kk rfl)) ?_:_=some true)
    rw [show getT (bH E) (V.tup [.int t,.tup (intsV f)])=lkE E (t,f) from fH E (t,f),hk];rfl
   have W:=a8 (st:=st) (rest:=jd :: .dT (bH E) :: g) K a1
   rw [a2,wd3,hw] at W
   have M:=sM (st:=st) (E:=E) (g:=g) K hw F
   have mwl:mw w f≤64:=by
    unfold mw
    exact Nat.le_trans (Nat.pow_le_pow_right (by decide) (show w * f.length≤6 by refine Or.elim hw2 (fun e=>?_) fun e=>?_<;>rw [e]<;>lia)) (by decide)
   have C:∀ n,Ev P (n+30) (.comp (.bin .mod (.bin .shr (.var 431316168567) (.var 7827308)) (.bin .shl (.num 1) (.var 448629336439))) [.mk (.var 431316168567) (.range [.var 2037277037]) []]) (ak (ak (ak ρ 1953653104 (.int t)) 448629336439 (.int w)) 2037277037 (.int (mw w f:Nat))) (hj st X ts E g) (aK (mw w f) (some (fr w i))) (hj st X ts E g):=fun n=>by
    refine cT (l:=List.range (mw w f)) (g:=fun (j:Nat)=>V.int (j:Int)) (d5 rfl ?_) (fun j m=>⟨_,rfl,rG hw2 (by lia) lke_same (lke_skip rfl (lke_del rfl (lke_skip rfl (lke_skip rfl k3)))) (lke_skip rfl (lke_del rfl (lke_skip rfl lke_same)))⟩) (by rw [List.length_range];lia)
    have:=i_range1 (e:=.var 2037277037) (n:=n + 29) (ρ:=ak (ak (ak ρ 1953653104 (.int t)) 448629336439 (.int w)) 2037277037 (.int (mw w f:Nat))) (P:=P) (H:=hj st X ts E g) (e_var' lke_same) (by rw [Int.toNat_natCast,ah (by lia),br (by lia)];rfl)
    rw [Int.toNat_natCast] at this
    exact this
   have se:bR (hj st X ts E g) (.ref 14) (.tup [.int t,.tup (intsV f)]) (aK (mw w f) (some (fr w i)))=some (hj st X ts (fe E (t,f) (aK (mw w f) (some (fr w i)))) g):=by
    refine (nH (l:=bH E) rfl kk (ah (by rw [bH,List.length_map];lia))).trans (congrArg some ?_)
    rw [show setT (bH E) (V.tup [.int t,.tup (intsV f)]) (aK (mw w f) (some (fr w i)))=bH (fe E (t,f) (aK (mw w f) (some (fr w i)))) from jf E (t,f) _];rfl
   have W':=a8 (st:=st) (rest:=jd :: .dT (bH (fe E (t,f) (aK (mw w f) (some (fr w i))))) :: g) K a1
   rw [a2,wd3,hw] at W'
   have ln:=nC E (t,f) (aK (mw w f) (some (fr w i)))
   refine iY (fI K hw F r (E:=fe E (t,f) (aK (mw w f) (some (fr w i)))) (ρ:=ak (ak (ak (ak ρ 1953653104 (.int t)) 448629336439 (.int w)) 2037277037 (.int (mw w f:Nat))) 7827308 (.int ((i + 1) * w:Nat))) fr' (T.set col) (by rw [List.length_cons] at hl;lia) (lke_skip rfl (lke_skip rfl (lke_skip rfl k1))) (lke_skip rfl (lke_skip rfl (lke_skip rfl k2))) lke_same) fun E' ρ' L G kn l1=>?_
   have up:∀ q v,lkE E q=some v→lkE (fe E (t,f) (aK (mw w f) (some (fr w i)))) q=some v:=fun q v e=>by
    rw [gn]
    by_cases z:(t,f)=q
    ·rw [← z,hk] at e;cases e
    ·rw [if_neg z];exact e
   refine ⟨E',ρ',fun n=>?_,⟨G.t,fun q v e=>G.m _ _ (up q v e),by have:=G.l;rw [List.length_cons];lia⟩,fun u m=>?_,l1⟩
   ·refine c9 (ρ1:=ak ρ 1953653104 (.int t)) rfl (Xs.h (ρ':=ak (ak (ak (ak ρ 1953653104 (.int t)) 448629336439 (.int w)) 2037277037 (.int (mw w f:Nat))) 7827308 (.int ((i + 1) * w:Nat))) (H':=hj st X ts (fe E (t,f) (aK (mw w f) (some (fr w i)))) g) ?_) (L n)
    (repeat' (first | walk_at "e" | exact q | exact W _ | exact M _ | exact C _ | exact se | exact W' _ | exact add | walk_at "a"))
   ·refine Or.elim (List.mem_cons.mp m) (fun e=>?_) fun m=>?_
    ·rw [e,G.m (t,f) _ (by rw [gn,if_pos rfl])];rfl
    ·exact kn u m
theorem wy (K:Bk X ts) (hw:X.w=w) (F:Fs ts f) (T:Tab w ts E) (hl:E.length + 3≤100000):∃ E',(∀ n,Ca P (n+44) bC [.ref 13,.tup (intsV f)] (hj st X ts E g) (.ref 14) (hj st X ts E' g))∧Grown w ts E E' 3∧∀ t∈f,(lkE E' (t,f)).isSome=true:=by
 have:=F.len
 refine iY (fI (st:=st) (g:=g) K hw F f (i:=0) (E:=E) (ρ:=ak (bC.params.zip [.ref 13,.tup (intsV f)]) 7827308 (.int 0)) rfl T (by lia) ⟨rfl⟩ ⟨rfl⟩ (by rw [Nat.zero_mul];exact lke_same)) fun E' ρ' L G kn l1=>?_
 refine ⟨E',fun n=>?_,⟨G.t,G.m,by have:=G.l;lia⟩,kn⟩
 apply hP (by rfl)
 apply x_asgv
 ·exact e_num
 ·apply xH
  ·exact i_val rfl (ag rfl) rfl
  ·exact L (n+3)
  ·apply x_ret
   (repeat' (first | walk_at "e" | walk_at "a"))
end
theorem xO {a b:Nat} (h:a≠b):Nat.beq a b=false:=by
 cases e:Nat.beq a b with
 | false=>rfl
 | true=>exact absurd (Nat.eq_of_beq_eq_true e) h
theorem nZ {H:Hp} {a:O}:nth (H++[a]) H.length=some a:=by unfold nth;rw [List.getElem?_append_right (Nat.le_refl _),Nat.sub_self];rfl
theorem nE {H:Hp} {a b:O}:(H++[a]).set H.length b=H++[b]:=by rw [List.set_append_right _ _ (Nat.le_refl _),Nat.sub_self];rfl
theorem jX {l:List V} {v:V} {H:Hp} (h:l.getLast?=some v) (hl:l.length≤100000):dR H (.tup l) (.int (-1))=some v:=by
 have hp:0 < l.length:=by
  induction l using List.casesOn with
  | nil=>exact nn h
  | cons a l=>exact Nat.succ_pos _
 rw [List.getLast?_eq_getElem?] at h
 show ((idx (-1) l.length).bind fun j=>l[j]?)=_
 have:idx (-1) l.length=some (l.length - 1):=by
  unfold idx
  rw [show aM (-1)=true from rfl,cond_true,if_neg (by decide),if_neg (by lia)]
  exact congrArg some ((congrArg Int.toNat (Int.add_comm (-1) (l.length:Int))).trans (Int.pred_toNat (l.length:Int)))
 exact bnd this h
theorem fZ.last {ts:List Tm}:∀ {as ss:List Int},fZ ts as ss→as≠[]→∃ a tm,as.getLast?=some a∧At ts a tm∧tm.sort=ss.getLastD 0
 | [a],_,h,_=>by
  refine aW h fun tm r h1 h2 h3=>?_
  rw [h2,show r=[] from h3]
  exact ⟨a,tm,rfl,h1,rfl⟩
 | a :: b :: as,_,h,_=>by
  refine aW h fun tm r h1 h2 h3=>?_
  refine aW (fZ.last h3 (by simp)) fun c tm' k1 k2 k3=>?_
  refine ⟨c,tm',by rw [List.getLast?_cons_cons];exact k1,k2,?_⟩
  refine aW h3 fun _ r' _ e _=>?_
  rw [h2,k3,e];rfl
section
variable {st:O} {X:Ext} {ts:List Tm} {E:En} {g:Hp} {w:Nat} {f:List Int} {m:Nat}
theorem jg {d:V} (hm:m≤64):fV .mul (.lst [d]) (.int (m:Nat))=some (.lst ((List.range m).map fun _=>d)):=by
 show (if Bop.mul=.mul∧(0:Int)≤m∧ax ([d].length * (m:Int).toNat)=true∧(m:Int) < 100000 then some (V.lst ((List.replicate (m:Int).toNat [d]).flatten)) else Option.none)=_
 rw [if_pos ⟨rfl,Int.natCast_nonneg m,ah (by rw [Int.toNat_natCast];show 1 * m≤_;lia),by lia⟩,Int.toNat_natCast]
 refine congrArg (fun l=>some (V.lst l)) ?_
 induction m with
 | zero=>rfl
 | succ m ih=>rw [List.replicate_succ,List.flatten_cons,ih (by lia),List.range_succ_eq_map,List.map_cons,List.map_map];rfl
theorem wx (K:Bk X ts) (hm:m≤64) {u:Int} {tm:Tm} (a:At ts u tm) {c:Cn} (l:ju tm=some c) (n:Nat):Ca P (n+40) aF [.ref 13,.int u,.lst [],.int m] (hj st X ts E g) (aK m c) (hj st X ts E g):=by
 have W:=a8 (st:=st) (rest:=jd :: .dT (bH E) :: g) K a
 have D:=sN (st:=st) (X:=X) (rest:=jd :: .dT (bH E) :: g) a
 have O:=yD (st:=st) (X:=X) (rest:=jd :: .dT (bH E) :: g) a
 unfold ju at l
 obtain ⟨op,args,s,d⟩:=tm
 dsimp only at l W D O
 by_cases h1:op=470121608802
 ·subst h1
  rw [show Nat.beq 470121608802 470121608802=true from rfl,cond_true] at l
  obtain ⟨k,rfl,hk,rfl⟩:∃ k,d=[k]∧0≤k∧c=some fun _=>k.toNat:=by
   cases d with
   | nil=>cases l
   | cons k d=>cases d with
    | cons _ _=>cases l
    | nil =>
     by_cases hk:0≤k
     ·simp only [if_pos hk] at l;exact ⟨k,rfl,hk,(Option.some.inj l).symm⟩
     ·simp only [if_neg hk] at l;cases l
  have r:=jg (d:=.int k) hm
  apply ao
  ·rfl
  ·(repeat' (first | walk_at "e" | exact W _ | exact D _ | exact O _ | exact r | walk_at "a"))
  ·show V.lst _=V.lst ((List.range m).map fun j=>V.int ((k.toNat:Nat):Int))
   rw [Int.toNat_of_nonneg hk]
  ·rfl
 ·rw [show Nat.beq op 470121608802=false from xO h1,cond_false] at l
  by_cases h2:op=1702195828
  ·subst h2;cases l
   have r:=jg (d:=.int 1) hm
   apply ao
   ·rfl
   ·(repeat' (first | walk_at "e" | exact W _ | exact D _ | exact O _ | exact r | walk_at "a"))
   ·rfl
   ·rfl
  ·rw [show Nat.beq op 1702195828=false from xO h2,cond_false] at l
   by_cases h3:op=435728179558
   ·subst h3;cases l
    have r:=jg (d:=.int 0) hm
    apply ao
    ·rfl
    ·(repeat' (first | walk_at "e" | exact W _ | exact D _ | exact O _ | exact r | walk_at "a"))
    ·rfl
    ·rfl
   ·rw [show Nat.beq op 435728179558=false from xO h3,cond_false] at l
    by_cases h4:op=7368801
    ·subst h4;cases l
     apply ao
     ·rfl
     ·(repeat' (first | walk_at "e" | exact W _ | exact D _ | exact O _ | walk_at "a"))
     ·rfl
     ·rfl
    ·rw [show Nat.beq op 7368801=false from xO h4,cond_false] at l;cases l
theorem vS {σ:Sg} (hw:w=1∨w=2) (h:σ∈eC w):∀ c∈[470121608802,1702195828,435728179558,7368801],∀ H,cop .eq H (.str σ.op) (.str c)=some false:=fun c m H=>by
 have key:∀ w∈[1,2],([470121608802,1702195828,435728179558,7368801].all fun c=>(eC w).all fun σ=>cop .eq [] (.str σ.op) (.str c)==some false)=true:=by decide +kernel
 exact beq_iff_eq.mp (List.all_eq_true.mp (List.all_eq_true.mp (key w (by refine Or.elim hw (fun q=>?_) fun q=>?_<;>rw [q]<;>decide)) c m) _ h)
structure Wl (w:Nat) (σ:Sg) (gs:List (Nat→Nat)) (m r:Nat) (ρ:Lo):Prop where
 self:Lk ρ 1718379891 (.ref 13)
 op:Lk ρ 28783 (.str σ.op)
 ends:Lk ρ 1935961701 (.lst (gs.map fun g=>aK m (some g)))
 data:Lk ρ 1635017060 (dv σ.data)
 width:Lk ρ 448629336439 (.int (wd w σ.s))
 inner:Lk ρ 491328007785 (.int (wd w (σ.ss.getLastD 0)))
 found:Lk ρ 431349919590 (.ref r)
theorem Wl.set {σ:Sg} {gs:List (Nat→Nat)} {r:Nat} {ρ:Lo} (W:Wl w σ gs m r ρ) {i:Nat} (h:([1718379891,28783,1935961701,1635017060,448629336439,491328007785,431349919590].all fun j=>!(Nat.beq j i))=true) (v:V):Wl w σ gs m r (ak ρ i v):=by
 have h:=fun j (hj:j∈[1718379891,28783,1935961701,1635017060,448629336439,491328007785,431349919590])=>(show Nat.beq j i=false from by have:=List.all_eq_true.mp h j hj;revert this;cases Nat.beq j i<;>simp)
 exact ⟨lke_skip (h _ (by decide)) W.self,lke_skip (h _ (by decide)) W.op,lke_skip (h _ (by decide)) W.ends,lke_skip (h _ (by decide)) W.data,lke_skip (h _ (by decide)) W.width,lke_skip (h _ (by decide)) W.inner,lke_skip (h _ (by decide)) W.found⟩
theorem f7 (hw:w=1∨w=2) {σ:Sg} (hσ:σ∈eC w) {gs:List (Nat→Nat)} (ok:∀ j,gs.map (· j)∈allOf w σ.ss) (hg:gs.length≤1000) (hm:m≤64):∀ (l:List Nat) {vs:List V} {ρ:Lo},(∀ j∈l,j < m)→vs.length + l.length≤1000→Wl w σ gs m (hj st X ts E g).length ρ →
  ∃ ρ',(∀ n,fT (sem P (n+48)) (.var 431316168567) [.asg (.var 435761734006) (.meth (.var 1718379891) 121424822101362 [.var 28783,.comp (.sub (.var 6581861) (.var 431316168567)) [.mk (.var 6581861) (.var 1935961701) []],.var 1635017060,.var 448629336439,.var 491328007785]),
  .ifs (.cmp (.var 435761734006) [.is] [.none])
   [.ret (.none)]
   [],
  .expr (.meth (.var 431349919590) 110425311047777 [.var 435761734006])] (l.map fun (j:Nat)=>V.int (j:Int)) ρ (hj st X ts E (g++[.list vs]))=some (.nxt,ρ',hj st X ts E (g++[.list (vs++l.map fun j=>.int (rk w σ (gs.map (· j)):Nat))])))∧Wl w σ gs m (hj st X ts E g).length ρ'
 | [],vs,ρ,hl,hv,W=>⟨ρ,fun n=>by simp only [List.map_nil,List.append_nil];rfl,W⟩
 | j :: l,vs,ρ,hl,hv,W=>by
  rw [List.length_cons] at hv
  have W1:=W.set (i:=431316168567) (by decide) (.int (j:Int))
  have W2:=W1.set (i:=435761734006) (by decide) (.int (rk w σ (gs.map (· j)):Nat))
  refine ae (f7 hw hσ ok hg hm l (vs:=vs++[.int (rk w σ (gs.map (· j)):Nat)]) (fun i m=>hl i (.tail _ m)) (by rw [List.length_append];show vs.length + 1 + _≤_;lia) W2) fun ρ' L W'=>?_
  refine ⟨ρ',fun n=>?_,W'⟩
  have L:=L n
  rw [List.append_assoc] at L
  have C:Ev P (n+46) (.comp (.sub (.var 6581861) (.var 431316168567)) [.mk (.var 6581861) (.var 1935961701) []]) (ak ρ 431316168567 (.int (j:Int))) (hj st X ts E (g++[.list vs])) (.lst (bx (gs.map (· j)))) (hj st X ts E (g++[.list vs])):=by
   rw [bx,List.map_map]
   refine cT (g:=fun g=>aK m (some g)) (d5 rfl (i_val rfl (e_var' W1.ends) rfl)) (fun g' mg=>⟨_,rfl,?_⟩) (by lia)
   refine e_sub (e_var' lke_same) (e_var' (lke_skip rfl (lke_del rfl lke_same))) (dW (Int.natCast_nonneg j) ?_ (by have:=hl j (.head _);lia))
   rw [Int.toNat_natCast,List.getElem?_map,List.getElem?_range (hl j (.head _))];rfl
  have R:=rf hw hσ (ok j) (st:=st) (X:=X) (ts:=ts) (rest:=.dT (bH E) :: (g++[.list vs]))
  have n1:nth (hj st X ts E (g++[.list vs])) (hj st X ts E g).length=some (.list vs):=nZ (H:=hj st X ts E g)
  have n2:(hj st X ts E (g++[.list vs])).set (hj st X ts E g).length (.list (vs++[.int (rk w σ (gs.map (· j)):Nat)]))=hj st X ts E (g++[.list (vs++[.int (rk w σ (gs.map (· j)):Nat)])]):=nE (H:=hj st X ts E g)
  refine c9 (ρ1:=ak ρ 431316168567 (.int (j:Int))) rfl (Xs.h (ρ':=ak (ak ρ 431316168567 (.int (j:Int))) 435761734006 (.int (rk w σ (gs.map (· j)):Nat))) (H':=hj st X ts E (g++[.list (vs++[.int (rk w σ (gs.map (· j)):Nat)])])) ?_) L
  apply x_asgv
  ·exact e_meth (e_var' W1.self) rfl rfl rfl rfl (es_cons (e_var' W1.op) (es_cons C (es_cons (e_var' W1.data) (es_cons (e_var' W1.width) (es_cons (e_var' W1.inner) es_nil))))) (R (n + 6))
  ·apply x_ifs
   ·exact e_cmp (e_var' lke_same) e_none rfl
   ·apply xi_f rfl
    rw [← n2]
    exact x_expr (e_append (e_var' W2.found) n1 (e_var' lke_same) n1 (ah (by lia))) x_nil
end
theorem jJ {w:Nat}:∀ {ss:List Int} {e:List Nat},e∈allOf w ss→e.length=ss.length
 | [],e,h=>by rw [List.mem_singleton.mp h];rfl
 | s :: ss,e,h=>by
  refine ae (List.mem_flatMap.mp h) fun x _ h=>?_
  refine ae (List.mem_map.mp h) fun r h1 h2=>?_
  rw [← h2,List.length_cons,List.length_cons,jJ h1]
theorem su {w:Nat} (hw:w=1∨w=2) {σ:Sg} (h:σ∈eC w):σ.ss.length≤3∧1≤σ.ss.length:=by
 have key:∀ w∈[1,2],(eC w).all (fun σ=>Nat.ble σ.ss.length 3&&Nat.ble 1 σ.ss.length)=true:=by decide +kernel
 have:=cB (List.all_eq_true.mp (key w (by refine Or.elim hw (fun q=>?_) fun q=>?_<;>rw [q]<;>decide)) _ h)
 exact ⟨Nat.le_of_ble_eq_true this.1,Nat.le_of_ble_eq_true this.2⟩
section
variable {st:O} {X:Ext} {ts:List Tm} {E:En} {g:Hp} {w:Nat} {f:List Int} {m:Nat}
theorem rn (K:Bk X ts) (hw:X.w=w) {u:Int} {tm:Tm} (a:At ts u tm) {R:Int→Cn→Prop} {gs:List (Nat→Nat)} {σ:Sg} (N:Nd w ts R tm gs σ) (hm:m≤64) (n:Nat) :
  Ca P (n+54) aF [.ref 13,.int u,.lst (gs.map fun g=>aK m (some g)),.int m] (hj st X ts E g) (aK m (some fun j=>rk w σ (gs.map (· j)))) (hj st X ts E (g++[.dead])):=by
 have hw2:=hwn K hw
 have gl:gs.length=σ.ss.length:=by have:=jJ (N.ok 0);rw [List.length_map] at this;exact this
 have sl:=su hw2 N.s
 have W:=a8 (st:=st) (rest:=jd :: .dT (bH E) :: g) K a
 have D:=sN (st:=st) (X:=X) (rest:=jd :: .dT (bH E) :: g) a
 have O:=yD (st:=st) (X:=X) (rest:=jd :: .dT (bH E) :: g) a
 have Ar:=oK (st:=st) (X:=X) (rest:=jd :: .dT (bH E) :: g) a
 rw [N.e.2.2,hw] at W
 rw [N.e.2.1] at D
 rw [N.e.1] at O
 refine aW (N.ss.last (N.args hw2)) fun la lt l1 l2 l3=>?_
 have W2:=a8 (st:=st) (rest:=jd :: .dT (bH E) :: g) K l2
 rw [l3,hw] at W2
 have al:tm.args.length≤3:=by
  have:∀ {as ss:List Int},fZ ts as ss→as.length=ss.length:=fun {as}=>by
   induction as with
   | nil=>intro ss h;rw [show ss=[] from h]
   | cons b as ih=>intro ss h;refine aW h fun t r _ e h=>?_;rw [e,List.length_cons,List.length_cons,ih h]
  rw [this N.ss];exact sl.1
 have la':∀ H,dR H (.tup (intsV tm.args)) (.int (-1))=some (.int la):=fun H=>jX (by rw [intsV,List.getLast?_map,l1];rfl) (by rw [intsV,List.length_map];lia)
 have ss:=vS hw2 N.s
 have ne:decide (((gs.map fun g=>aK m (some g)).length:Int)=0)=false:=decide_eq_false (by rw [List.length_map];lia)
 have ln:∀ H,aP .len [.lst (gs.map fun g=>aK m (some g))] H=some (.int (gs.map fun g=>aK m (some g)).length,H):=fun H=>d4 rfl (ah (by rw [List.length_map];lia))
 have Wl0:Wl w σ gs m (hj st X ts E g).length (ak (ak (ak (ak (ak (aF.params.zip [.ref 13,.int u,.lst (gs.map fun g=>aK m (some g)),.int m]) 28783 (.str σ.op)) 1635017060 (dv σ.data)) 448629336439 (.int (wd w σ.s))) 491328007785 (.int (wd w (σ.ss.getLastD 0)))) 431349919590 (.ref (hj st X ts E g).length)) :=
  ⟨⟨rfl⟩,⟨rfl⟩,⟨rfl⟩,⟨rfl⟩,⟨rfl⟩,⟨rfl⟩,⟨rfl⟩⟩
 refine ae (f7 (st:=st) (X:=X) (ts:=ts) (E:=E) (g:=g) hw2 N.s N.ok (by lia) hm (List.range m) (vs:=[]) (fun j h=>List.mem_range.mp h) (by rw [List.length_range];show 0 + m≤1000;lia) Wl0) fun ρ' L W'=>?_
 have rg:It P (n+53) (.range [.var 2037277037]) (ak (ak (ak (ak (ak (aF.params.zip [.ref 13,.int u,.lst (gs.map fun g=>aK m (some g)),.int m]) 28783 (.str σ.op)) 1635017060 (dv σ.data)) 448629336439 (.int (wd w σ.s))) 491328007785 (.int (wd w (σ.ss.getLastD 0)))) 431349919590 (.ref (hj st X ts E g).length)) (hj st X ts E (g++[.list []])) ((List.range m).map fun (j:Nat)=>V.int (j:Int)) (hj st X ts E (g++[.list []])):=by
  have:=i_range1 (P:=P) (n:=n + 53) (e:=.var 2037277037) (i:=(m:Int)) (ρ:=ak (ak (ak (ak (ak (aF.params.zip [.ref 13,.int u,.lst (gs.map fun g=>aK m (some g)),.int m]) 28783 (.str σ.op)) 1635017060 (dv σ.data)) 448629336439 (.int (wd w σ.s))) 491328007785 (.int (wd w (σ.ss.getLastD 0)))) 431349919590 (.ref (hj st X ts E g).length)) (H:=hj st X ts E (g++[.list []])) (ag rfl) (by rw [Int.toNat_natCast,ah (by lia),br (by lia)];rfl)
  rw [Int.toNat_natCast] at this
  exact this
 have fz:=rP (P:=P) (n:=n + 52) (ρ:=ρ') (e_var' W'.found) (nZ (H:=hj st X ts E g) (a:=.list ([]++(List.range m).map fun j=>.int (rk w σ (gs.map (· j)):Nat))))
 rw [nE] at fz
 apply ao
 ·rfl
 ·apply x_asgt
  ·(repeat' (first | walk_at "e" | exact W _ | exact D _ | exact O _ | walk_at "a"))
  ·rfl
  ·apply x_ifs
   ·exact e_cmp (ag rfl) e_str (ss _ (by decide) _)
   ·apply xi_f rfl
    apply x_ifs
    ·exact e_or (e_cmp (ag rfl) e_str (ss _ (by decide) _)) (oi_f rfl (e_or_1 (e_cmp (ag rfl) e_str (ss _ (by decide) _))))
    ·apply xi_f rfl
     apply x_ifs
     ·exact e_or (e_cmp (ag rfl) e_str (ss _ (by decide) _)) (oi_f rfl (e_or_1 (e_cmp (e_bi (es_cons (ag rfl) es_nil) (ln _)) e_num cop_eq_int)))
     ·apply xi_f ne
      apply x_asgv
      ·(repeat' (first | walk_at "e" | exact Ar _ | exact la' _ | exact W2 _ | walk_at "a"))
      ·apply x_asgv
       ·exact jB es_nil rfl
       ·apply xH
        ·exact rg
        ·exact L (n + 5)
        ·exact x_ret fz
 ·rfl
 ·rfl
end
section
variable {P:Prog} {n:Nat} {ρ ρ1 ρ':Lo} {H H1 H':Hp}
theorem sj {r:List S}:Xs P (n+1) (.cont :: r) ρ H .cont ρ H:=⟨rfl⟩
theorem mJ {c:E} {a b r:List S} {d:Bool} (h:Ev P n c ρ H (.bool d) H1) (q:d=true) (g:Xs P n a ρ H1 .cont ρ' H'):Xs P (n+1) (.ifs c a b :: r) ρ H .cont ρ' H':=⟨bnd (bnd h.h (btt q g.h)) rfl⟩
theorem eI {c:E} {b:List S} {j:Nat} {f:Fl} (hf:f.ret?=none) (h:Ev P n c ρ H (.bool true) H1) (g:Xs P n b ρ H1 f ρ' H'):cF (sem P n) c b (j+1) ρ H=cF (sem P n) c b j ρ' H':=by
 refine bnd h.h ?_
 show ((sem P n).exs b ρ H1).bind _=_
 refine bnd g.h ?_
 dsimp only
 rw [hf]
end
noncomputable def tc:E:=.cmp (.bi .len [.var 461228831859]) [.gt] [.num 0]
noncomputable def tb:List S:=match (bt.body.drop 2).headD .cont with
 | .whl _ b=>b
 | _=>[]
structure Tl (r:Nat) (f:List Int) (root:Int) (ρ:Lo):Prop where
 self:Lk ρ 1718379891 (.ref 13)
 root:Lk ρ 1953460082 (.int root)
 free:Lk ρ 1701147238 (.tup (intsV f))
 known:Lk ρ 474450194027 (.ref 14)
 stack:Lk ρ 461228831859 (.ref r)
theorem Tl.set {r:Nat} {f:List Int} {root:Int} {ρ:Lo} (T:Tl r f root ρ) {i:Nat} (h:([1718379891,1953460082,1701147238,474450194027,461228831859].all fun j=>!(Nat.beq j i))=true) (v:V):Tl r f root (ak ρ i v):=by
 have h:=fun j (hj:j∈[1718379891,1953460082,1701147238,474450194027,461228831859])=>(show Nat.beq j i=false from by have:=List.all_eq_true.mp h j hj;revert this;cases Nat.beq j i<;>simp)
 exact ⟨lke_skip (h _ (by decide)) T.self,lke_skip (h _ (by decide)) T.root,lke_skip (h _ (by decide)) T.free,lke_skip (h _ (by decide)) T.known,lke_skip (h _ (by decide)) T.stack⟩
section
variable {st:O} {X:Ext} {ts:List Tm} {E:En} {g g2:Hp} {w:Nat} {f:List Int} {root:Int} {ρ:Lo} {stk:List Int} {t:Int}
noncomputable abbrev hs (st:O) (X:Ext) (ts:List Tm) (E:En) (g:Hp) (stk:List Int) (g2:Hp):Hp:=hj st X ts E (g++.list (intsV stk) :: g2)
theorem ue {H g2:Hp} {a:O}:nth (H++a :: g2) H.length=some a:=by unfold nth;rw [List.getElem?_append_right (Nat.le_refl _),Nat.sub_self];rfl
theorem tV {H g2:Hp} {a b:O}:(H++a :: g2).set H.length b=H++b :: g2:=by rw [List.set_append_right _ _ (Nat.le_refl _),Nat.sub_self];rfl
theorem gx:nth (hs st X ts E g stk g2) (g.length + 15)=some (.list (intsV stk)):=ue (H:=hj st X ts E g)
theorem sS {s':List Int}:(hs st X ts E g stk g2).set (g.length + 15) (.list (intsV s'))=hs st X ts E g s' g2:=tV (H:=hj st X ts E g)
theorem fG {l:List Int} {t:Int}:(intsV (l++[t])).getLast?=some (.int t)∧(intsV (l++[t])).dropLast=intsV l:=by
 rw [intsV,List.map_append]
 exact ⟨by simp,by simp [intsV]⟩
theorem in_tab (k:Int×List Int) {H:Hp} (h:nth H 14=some (.dT (bH E))):cop .isin H (kf k) (.ref 14)=some (lkE E k).isSome:=by
 show (nth H 14).bind (d9 (kf k))=_
 refine bnd h ?_
 show (bif (kf k).isKey then some (getT (bH E) (kf k)).isSome else Option.none)=_
 rw [kq,fH];rfl
theorem notin_tab (k:Int×List Int) {H:Hp} (h:nth H 14=some (.dT (bH E))):cop .notin H (kf k) (.ref 14)=some (!(lkE E k).isSome):=by
 show ((nth H 14).bind (d9 (kf k))).map (!·)=_
 rw [show (nth H 14).bind (d9 (kf k))=_ from in_tab k h];rfl
theorem m9 (k:Int×List Int) {H:Hp} (h:nth H 14=some (.dT (bH E))):dR H (.ref 14) (kf k)=lkE E k:=by
 show (nth H 14).bind (fun ob=>xK ob (kf k))=_
 refine bnd h ?_
 show (bif (kf k).isKey then getT (bH E) (kf k) else Option.none)=_
 rw [kq,fH];rfl
theorem gZ (T:Tl (g.length + 15) f root ρ) {s':List Int} {n:Nat} (hl:stk.length + 1≤100000):Ev P (n+10) tc ρ (hs st X ts E g (stk++[t]) g2) (.bool true) (hs st X ts E g (stk++[t]) g2):=by
 have e:aP .len [.ref (g.length + 15)] (hs st X ts E g (stk++[t]) g2)=some (.int (stk.length + 1:Nat),hs st X ts E g (stk++[t]) g2):=jt gx (by rw [intsV,List.length_map,List.length_append];rfl) (ah hl)
 exact e_cmp (e_bi (es_cons (e_var' T.stack) es_nil) e) e_num (by rw [cop_gt_int,decide_eq_true (show (0:Int) < ((stk.length + 1:Nat):Int) by lia)])
theorem kA (T:Tl (g.length + 15) f root ρ) {n:Nat} (hl:stk.length + 1≤100000):Ev P (n+10) (.sub (.var 461228831859) (.neg (.num 1))) ρ (hs st X ts E g (stk++[t]) g2) (.int t) (hs st X ts E g (stk++[t]) g2):=by
 refine e_sub (e_var' T.stack) (e_neg e_num) (bnd gx ?_)
 exact jX (H:=[]) fG.1 (by rw [intsV,List.length_map,List.length_append];exact hl)
theorem sR (T:Tl (g.length + 15) f root ρ) {n:Nat} (hl:stk.length + 1≤100000):Ev P (n+10) (.meth (.var 461228831859) 7368560 []) ρ (hs st X ts E g (stk++[t]) g2) (.int t) (hs st X ts E g stk g2):=by
 have h:=yc (P:=P) (n:=n + 9) (e_var' T.stack) (gx (st:=st) (X:=X) (ts:=ts) (E:=E) (g:=g) (stk:=stk++[t]) (g2:=g2)) (Nat.ble_eq_true_of_le (by rw [intsV,List.length_map,List.length_append];exact hl)) fG.1
 rw [fG.2,sS] at h
 exact h
theorem rC (T:Tl (g.length + 15) f root ρ) (hl:stk.length + 1≤100000) (h:(lkE E (t,f)).isSome=true):∃ ρ',Tl (g.length + 15) f root ρ'∧∀ n j,cF (sem P (n+80)) tc tb (j+1) ρ (hs st X ts E g (stk++[t]) g2)=cF (sem P (n+80)) tc tb j ρ' (hs st X ts E g stk g2):=by
 have T1:=T.set (i:=117) (by decide) (.int t)
 refine ⟨_,T1,fun n j=>eI (f:=.cont) rfl (gZ (s':=[]) T hl) ?_⟩
 show Xs P (n+80) tb _ _ _ _ _
 have q:=in_tab (t,f) (E:=E) (H:=hs st X ts E g (stk++[t]) g2) rfl
 rw [h] at q
 apply x_asgv
 ·exact kA T hl
 ·apply mJ
  ·exact e_cmp (e_tup (es_cons (e_var' lke_same) (es_cons (e_var' T1.free) es_nil)) rfl) (e_var' T1.known) q
  ·rfl
  ·exact x_expr (sR (t:=t) T1 hl) sj
end
theorem sW {α:Type} {P:Prog} {n:Nat} {ρ:Lo} {H:Hp} {elt c:E} {t:T} {g fv:α→V} {p:α→Bool}:∀ {l:List α},(∀ a∈l,∃ ρ',eh t (g a) ρ=some ρ'∧Ev P n c ρ' H (.bool (p a)) H∧Ev P n elt ρ' H (fv a) H)→bV.loop (sem P n) t [c] (bV (sem P n) elt []) (l.map g) ρ H=some ((l.filter p).map fv,H)
 | [],_=>rfl
 | a :: l,h=>by
  refine ay (h a (.head _)) fun ρ' h1 h2 h3=>?_
  have ih:=sW (l:=l) fun b m=>h b (.tail _ m)
  have e:jy (sem P n) [c] ρ' H=some (p a,H):=by
   refine bnd h2.h ?_
   cases p a<;>rfl
  cases hp:p a with
  | true =>
   rw [hp] at e
   rw [List.filter_cons_of_pos hp]
   exact bnd h1 (bnd e (bnd (bnd h3.h rfl:bV (sem P n) elt [] ρ' H=some ([fv a],H)) (bnd ih rfl)))
  | false =>
   rw [hp] at e
   rw [List.filter_cons_of_neg (by rw [hp];decide)]
   exact bnd h1 (bnd e (bnd rfl (bnd ih rfl)))
section
variable {st:O} {X:Ext} {ts:List Tm} {E:En} {g g2 g2':Hp} {w:Nat} {f:List Int} {root:Int} {ρ:Lo} {stk:List Int} {t:Int} {tm:Tm}
noncomputable def wait (E:En) (f args:List Int):List Int:=args.filter fun a=>!(lkE E (a,f)).isSome
theorem iQ {α:Type} (h:α→Int) (l:List α):V.deps (l.map fun j=>V.int (h j))=some 0:=by
 induction l with
 | nil=>rfl
 | cons a l ih=>exact jE (v:=V.int (h a)) (i:=0) (j:=0) rfl ih
theorem rH (m:Nat) (c:Cn):V.flat (aK m c)=true:=by
 cases c with
 | none=>rfl
 | some h=>exact o8 (n:=1) (congrArg (Option.map (· + 1)) (iQ (fun j=>((h j:Nat):Int)) _)) (by decide)
theorem oW {H:Hp} {m:Nat} (l:List Cn):wg H .none (.lst (l.map (aK m)))=some (l.any (·.isNone)):=by
 have e:((l.map (aK m)).any fun y=>V.beq y .none)=l.any (·.isNone):=by
  rw [List.any_map]
  exact congrArg (fun p=>l.any p) (funext fun c=>by cases c<;>rfl)
 have fl:V.flats (l.map (aK m))=true:=List.all_eq_true.mpr fun v hv=>by
  refine ae (List.mem_map.mp hv) fun c _ hh1_=>?_
  subst hh1_
  exact rH m c
 show (bif V.flat .none&&V.flats (l.map (aK m)) then some ((l.map (aK m)).any fun y=>V.beq y .none) else Option.none)=_
 rw [fl,e];rfl
theorem lL {H:Hp} {m:Nat} (l:List Cn):cop .notin H .none (.lst (l.map (aK m)))=some (!(l.any (·.isNone))):=by
 show (wg H .none (.lst (l.map (aK m)))).map (!·)=_
 rw [oW];rfl
theorem jv (K:Bk X ts) (T:Tl (g.length + 15) f root ρ) (a:At ts t tm) (al:tm.args.length≤1000) {n:Nat}:Ev P (n+30) (.comp (.var 1953653104) [.mk (.var 1953653104) (.meth (.attr (.var 1718379891) 1802396002) 1936159329 [.var 117]) [.cmp (.tup [.var 1953653104,.var 1701147238]) [.notin] [.var 474450194027]]]) (ak ρ 117 (.int t)) (hs st X ts E g (stk++[t]) g2) (.lst (intsV (wait E f tm.args))) (hs st X ts E g (stk++[t]) g2):=by
 have T1:=T.set (i:=117) (by decide) (.int t)
 have Ar:=oK (st:=st) (X:=X) (rest:=jd :: .dT (bH E) :: (g++.list (intsV (stk++[t])) :: g2)) a
 have e1:Ev P (n + 29) (.meth (.attr (.var 1718379891) 1802396002) 1936159329 [.var 117]) (ak ρ 117 (.int t)) (hs st X ts E g (stk++[t]) g2) (.tup (intsV tm.args)) (hs st X ts E g (stk++[t]) g2):=e_meth (e_attr (e_var' T1.self) rfl rfl rfl) rfl rfl rfl rfl (es_cons (e_var' lke_same) es_nil) (Ar (n + 16))
 refine pk (d5 rfl (i_val rfl e1 rfl)) (sW (g:=V.int) (fv:=V.int) (p:=fun a=>!(lkE E (a,f)).isSome) fun b m=>⟨_,rfl,?_,e_var' lke_same⟩) (ah (by rw [intsV,List.length_map];exact Nat.le_trans (List.length_filter_le ..) (by lia)))
 exact e_cmp (e_tup (es_cons (e_var' lke_same) (es_cons (e_var' (lke_skip rfl (lke_del rfl T1.free))) es_nil)) rfl) (e_var' (lke_skip rfl (lke_del rfl T1.known))) (notin_tab (b,f) (E:=E) rfl)
theorem uy (K:Bk X ts) (T:Tl (g.length + 15) f root ρ) (hl:stk.length + 1 + tm.args.length≤100000) (h:(lkE E (t,f)).isSome=false) (a:At ts t tm) (al:tm.args.length≤1000) (hw:wait E f tm.args≠[]) :
  ∃ ρ',Tl (g.length + 15) f root ρ'∧∀ n j,cF (sem P (n+80)) tc tb (j+1) ρ (hs st X ts E g (stk++[t]) g2)=cF (sem P (n+80)) tc tb j ρ' (hs st X ts E g (stk++[t]++wait E f tm.args) g2):=by
 have T1:=T.set (i:=117) (by decide) (.int t)
 have T2:=T1.set (i:=29113321804882295) (by decide) (.lst (intsV (wait E f tm.args)))
 refine ⟨_,T2,fun n j=>eI (f:=.cont) rfl (gZ (s':=[]) T (by lia)) ?_⟩
 show Xs P (n+80) tb _ _ _ _ _
 have q:=in_tab (t,f) (E:=E) (H:=hs st X ts E g (stk++[t]) g2) rfl
 rw [h] at q
 have wl:(wait E f tm.args).length≤tm.args.length:=List.length_filter_le ..
 have ln:aP .len [.lst (intsV (wait E f tm.args))] (hs st X ts E g (stk++[t]) g2)=some (.int (wait E f tm.args).length,hs st X ts E g (stk++[t]) g2):=d4 (by rw [intsV,List.length_map]) (ah (by lia))
 have pos:decide ((0:Int) < (wait E f tm.args).length)=true:=decide_eq_true (by have:=List.length_pos_iff.mpr hw;lia)
 have ex:=rQ (P:=P) (n:=n + 77) (e_var' T2.stack) (gx (st:=st) (X:=X) (ts:=ts) (E:=E) (g:=g) (stk:=stk++[t]) (g2:=g2)) (e_var' lke_same) gx (ah (by rw [intsV,intsV,List.length_map,List.length_map,List.length_append];show stk.length + 1 + _≤_;lia))
 rw [show intsV (stk++[t])++intsV (wait E f tm.args)=intsV (stk++[t]++wait E f tm.args) from (List.map_append ..).symm,sS] at ex
 apply x_asgv
 ·exact kA T (by lia)
 ·apply eU
  ·exact e_cmp (e_tup (es_cons (e_var' lke_same) (es_cons (e_var' T1.free) es_nil)) rfl) (e_var' T1.known) q
  ·rfl
  ·apply x_asgv
   ·exact jv K T a al
   ·apply mJ
    ·exact e_cmp (e_bi (es_cons (e_var' lke_same) es_nil) ln) e_num cop_gt_int
    ·exact pos
    ·exact x_expr ex sj
end
section
variable {st:O} {X:Ext} {ts:List Tm} {E:En} {g g2 g2':Hp} {w:Nat} {f:List Int} {root:Int} {ρ:Lo} {stk:List Int} {t:Int} {tm:Tm}
theorem sQ (K:Bk X ts) (hX:X.w=w) (F:Fs ts f) (T:Tl (g.length + 15) f root ρ) (hl:stk.length + 1≤100000) (hE:E.length≤99999) (h:(lkE E (t,f)).isSome=false) (a:At ts t tm) (al:tm.args.length≤1000) (hw:wait E f tm.args=[]) {cv:Int→Cn} (hv:∀ b∈tm.args,lkE E (b,f)=some (aK (mw w f) (cv b))) {v:V}
  (C:(((tm.args.map cv).any (·.isNone))=true∧v=.none∧g2'=g2)∨(((tm.args.map cv).any (·.isNone))=false∧∀ n,Ca P (n+54) aF [.ref 13,.int t,.lst ((tm.args.map cv).map (aK (mw w f))),.int (mw w f:Nat)] (hs st X ts E g (stk++[t]) g2) v (hs st X ts E g (stk++[t]) g2'))) :
  ∃ ρ',Tl (g.length + 15) f root ρ'∧∀ n j,cF (sem P (n+80)) tc tb (j+1) ρ (hs st X ts E g (stk++[t]) g2)=cF (sem P (n+80)) tc tb j ρ' (hs st X ts (fe E (t,f) v) g stk g2'):=by
 have T1:=T.set (i:=117) (by decide) (.int t)
 have T2:=T1.set (i:=29113321804882295) (by decide) (.lst (intsV (wait E f tm.args)))
 have T3:=T2.set (i:=1935961701) (by decide) (.lst ((tm.args.map cv).map (aK (mw w f))))
 have T4:=T3.set (i:=431349919590) (by decide) .none
 have q:=in_tab (t,f) (E:=E) (H:=hs st X ts E g (stk++[t]) g2) rfl
 rw [h] at q
 have ln:aP .len [.lst (intsV (wait E f tm.args))] (hs st X ts E g (stk++[t]) g2)=some (.int (0:Nat),hs st X ts E g (stk++[t]) g2):=d4 (by rw [hw];rfl) rfl
 have Ar:=oK (st:=st) (X:=X) (rest:=jd :: .dT (bH E) :: (g++.list (intsV (stk++[t])) :: g2)) a
 have en:∀ n,Ev P (n+40) (.comp (.sub (.var 474450194027) (.tup [.var 1953653104,.var 1701147238])) [.mk (.var 1953653104) (.meth (.attr (.var 1718379891) 1802396002) 1936159329 [.var 117]) []]) (ak (ak ρ 117 (.int t)) 29113321804882295 (.lst (intsV (wait E f tm.args)))) (hs st X ts E g (stk++[t]) g2) (.lst ((tm.args.map cv).map (aK (mw w f)))) (hs st X ts E g (stk++[t]) g2):=fun n=>by
  rw [List.map_map]
  have e1:Ev P (n + 39) (.meth (.attr (.var 1718379891) 1802396002) 1936159329 [.var 117]) (ak (ak ρ 117 (.int t)) 29113321804882295 (.lst (intsV (wait E f tm.args)))) (hs st X ts E g (stk++[t]) g2) (.tup (intsV tm.args)) (hs st X ts E g (stk++[t]) g2):=e_meth (e_attr (e_var' T2.self) rfl rfl rfl) rfl rfl rfl rfl (es_cons (e_var' (lke_skip rfl lke_same)) es_nil) (Ar (n + 26))
  refine cT (g:=V.int) (d5 rfl (i_val rfl e1 rfl)) (fun b m=>⟨_,rfl,?_⟩) (by lia)
  exact e_sub (e_var' (lke_skip rfl (lke_del rfl T2.known))) (e_tup (es_cons (e_var' lke_same) (es_cons (e_var' (lke_skip rfl (lke_del rfl T2.free))) es_nil)) rfl) ((m9 (b,f) (E:=E) rfl).trans (hv b m))
 have nn:=fun H=>lL (H:=H) (m:=mw w f) (tm.args.map cv)
 have fin:∀ {ρ5:Lo} {g3:Hp},Tl (g.length + 15) f root ρ5→Lk ρ5 431349919590 v→Lk ρ5 117 (.int t)→∀ n,Xs P (n+80) [.asg (.sub (.var 474450194027) (.tup [.var 117,.var 1701147238])) (.var 431349919590),.expr (.meth (.var 461228831859) 7368560 [])] ρ5 (hs st X ts E g (stk++[t]) g3) .nxt ρ5 (hs st X ts (fe E (t,f) v) g stk g3):=fun {ρ5 g3} T5 h1 h2 n=>by
  have se:bR (hs st X ts E g (stk++[t]) g3) (.ref 14) (kf (t,f)) v=some (hs st X ts (fe E (t,f) v) g (stk++[t]) g3):=by
   refine (nH (l:=bH E) rfl (kq (t,f)) (ah (by rw [bH,List.length_map];lia))).trans (congrArg some ?_)
   rw [jf];rfl
  apply x_asgs
  ·exact e_var' h1
  ·exact e_var' T5.known
  ·exact e_tup (es_cons (e_var' h2) (es_cons (e_var' T5.free) es_nil)) rfl
  ·exact se
  ·exact x_expr (sR (t:=t) T5 hl) x_nil
 rcases C with ⟨c1,c2,c3⟩ | ⟨c1,C⟩
 ·subst c2;subst c3
  refine ⟨_,T4,fun n j=>eI (f:=.nxt) rfl (gZ (s':=[]) T hl) ?_⟩
  show Xs P (n+80) tb _ _ _ _ _
  apply x_asgv
  ·exact kA T hl
  ·apply eU
   ·exact e_cmp (e_tup (es_cons (e_var' lke_same) (es_cons (e_var' T1.free) es_nil)) rfl) (e_var' T1.known) q
   ·rfl
   ·apply x_asgv
    ·exact jv K T a al
    ·apply eU
     ·exact e_cmp (e_bi (es_cons (e_var' lke_same) es_nil) ln) e_num cop_gt_int
     ·rfl
     ·apply x_asgv
      ·exact en (n + 39)
      ·apply x_asgv
       ·exact e_none
       ·apply eU
        ·exact e_cmp e_none (e_var' (lke_skip rfl lke_same)) (nn _)
        ·rw [c1];rfl
        ·exact fin T4 lke_same (lke_skip rfl (lke_skip rfl (lke_skip rfl lke_same))) n
 ·have T5:=T4.set (i:=431349919590) (by decide) v
  refine ⟨_,T5,fun n j=>eI (f:=.nxt) rfl (gZ (s':=[]) T hl) ?_⟩
  have M:=sM (st:=st) (E:=E) (g:=g++.list (intsV (stk++[t])) :: g2) K hX F
  show Xs P (n+80) tb _ _ _ _ _
  apply x_asgv
  ·exact kA T hl
  ·apply eU
   ·exact e_cmp (e_tup (es_cons (e_var' lke_same) (es_cons (e_var' T1.free) es_nil)) rfl) (e_var' T1.known) q
   ·rfl
   ·apply x_asgv
    ·exact jv K T a al
    ·apply eU
     ·exact e_cmp (e_bi (es_cons (e_var' lke_same) es_nil) ln) e_num cop_gt_int
     ·rfl
     ·apply x_asgv
      ·exact en (n + 39)
      ·apply x_asgv
       ·exact e_none
       ·apply eT
        ·exact e_cmp e_none (e_var' (lke_skip rfl lke_same)) (nn _)
        ·rw [c1];rfl
        ·apply x_asgv
         ·exact e_meth (e_var' T4.self) rfl rfl rfl rfl (es_cons (e_var' (lke_skip rfl (lke_skip rfl (lke_skip rfl lke_same)))) (es_cons (e_var' (lke_skip rfl lke_same)) (es_cons (e_meth (e_var' T4.self) rfl rfl rfl rfl (es_cons (e_var' T4.free) es_nil) (M (n + 46))) es_nil))) (C (n + 23))
         ·exact x_nil
        ·exact fin T5 lke_same (lke_skip rfl (lke_skip rfl (lke_skip rfl (lke_skip rfl lke_same)))) n
end
noncomputable def Go (k:Nat) (ρ:Lo) (H:Hp) (ρ':Lo) (H':Hp):Prop:=∀ n j,cF (sem P (n+80)) tc tb (j + k) ρ H=cF (sem P (n+80)) tc tb j ρ' H'
theorem Go.trans {k k':Nat} {ρ ρ1 ρ':Lo} {H H1 H':Hp} (a:Go k ρ H ρ1 H1) (b:Go k' ρ1 H1 ρ' H'):Go (k + k') ρ H ρ' H':=fun n j=>by rw [← Nat.add_assoc,Nat.add_right_comm,a,b]
theorem qk.fn {R:Int→(Nat→Nat)→Prop} (det:∀ a g g',R a g→R a g'→g=g'):∀ {as:List Int} {gs:List (Nat→Nat)},qk R as gs→∃ cv:Int→Cn,(∀ b∈as,∃ g,cv b=some g∧R b g)∧as.map cv=gs.map some:=fun {as gs} A=>by
 classical
 refine ⟨fun b=>if h:∃ g,R b g then some h.choose else none,fun b m=>?_,?_⟩
 ·have h:=A.each b m
  exact ⟨h.choose,dif_pos h,h.choose_spec⟩
 ·induction as generalizing gs with
  | nil=>rw [show gs=[] from A];rfl
  | cons a as ih =>
   refine aW A fun g r h1 h2 h3=>?_
   have h:∃ g,R a g:=⟨g,h1⟩
   rw [h2,List.map_cons,List.map_cons,ih h3,dif_pos h,det a _ _ h.choose_spec h1]
section
variable {st:O} {X:Ext} {ts:List Tm} {g:Hp} {w B:Nat} {f:List Int} {root:Int}
structure Iv (w:Nat) (ts:List Tm) (f:List Int) (B:Nat) (E:En):Prop where
 t:Tab w ts E
 fr:∀ t∈f,(lkE E (t,f)).isSome=true
 l:E.length≤B + cnt (known E f) 1001
structure Aft (w:Nat) (ts:List Tm) (f:List Int) (B:Nat) (E E':En):Prop where
 i:Iv w ts f B E'
 m:∀ q v,lkE E q=some v→lkE E' q=some v
theorem Aft.refl {E:En} (i:Iv w ts f B E):Aft w ts f B E E:=⟨i,fun _ _ h=>h⟩
theorem Aft.trans {E E1 E2:En} (a:Aft w ts f B E E1) (b:Aft w ts f B E1 E2):Aft w ts f B E E2:=⟨b.i,fun q v h=>b.m q v (a.m q v h)⟩
theorem Aft.some {E E':En} (a:Aft w ts f B E E') {q:Int×List Int} (h:(lkE E q).isSome=true):(lkE E' q).isSome=true:=by
 refine aG (Option.isSome_iff_exists.mp h) fun v e=>?_
 rw [a.m q v e];rfl
theorem Iv.set {E:En} (i:Iv w ts f B E) {t:Int} {tm:Tm} (a:At ts t tm) (h:(lkE E (t,f)).isSome=false) {d:Nat} {c:Cn} (k:Col w ts f d t c):Aft w ts f B E (fe E (t,f) (aK (mw w f) c)):=by
 have m:∀ q v,lkE E q=some v→lkE (fe E (t,f) (aK (mw w f) c)) q=some v:=fun q v e=>by
  rw [gn]
  by_cases z:(t,f)=q
  ·rw [← z] at e;rw [e] at h;cases h
  ·rw [if_neg z];exact e
 have ms:∀ q,(lkE E q).isSome=true→(lkE (fe E (t,f) (aK (mw w f) c)) q).isSome=true:=fun q h=>by
  refine aG (Option.isSome_iff_exists.mp h) fun v e=>?_
  rw [m q v e];rfl
 refine ⟨⟨i.t.set k,fun u hu=>ms _ (i.fr u hu),?_⟩,m⟩
 have e:((t.toNat:Nat):Int)=t:=Int.toNat_of_nonneg (by have:=a.1;lia)
 have:=rW (p:=known E f) (p':=known (fe E (t,f) (aK (mw w f) c)) f) (fun j hj=>ms _ hj) (u:=t.toNat) (by rw [known,e];exact h) (by rw [known,e,gn,if_pos rfl];rfl) 1001 (by have:=a.2.1;lia)
 have:=nC E (t,f) (aK (mw w f) c)
 have:=i.l
 lia
noncomputable def xQ (st:O) (X:Ext) (ts:List Tm) (g:Hp) (w B:Nat) (f:List Int) (root:Int) (k:Nat) (t:List Int) (E:En) (ρ:Lo) (stk:List Int) (g2:Hp) (Q:En→Prop):Prop :=
 ∃ k' E' g2' ρ',k'≤k∧Go k' ρ (hs st X ts E g (stk++t) g2) ρ' (hs st X ts E' g stk g2')∧Tl (g.length + 15) f root ρ'∧Aft w ts f B E E'∧Q E'
theorem jV {d:Nat} {sl:Nat} (IH:∀ {t:Int} {c:Cn},Col w ts f d t c→∀ {E:En} {g2:Hp} {stk:List Int} {ρ:Lo},Tl (g.length + 15) f root ρ→Iv w ts f B E→stk.length≤sl→xQ st X ts g w B f root (8 ^ d) [t] E ρ stk g2 fun E'=>(lkE E' (t,f)).isSome=true) :
  ∀ (l:List Int) {E:En} {g2:Hp} {stk:List Int} {ρ:Lo},(∀ a∈l,∃ c,Col w ts f d a c)→Tl (g.length + 15) f root ρ→Iv w ts f B E→stk.length + l.length≤sl→xQ st X ts g w B f root (l.length * 8 ^ d) l.reverse E ρ stk g2 fun E'=>∀ a∈l,(lkE E' (a,f)).isSome=true
 | [],E,g2,stk,ρ,h,T,I,hl=>⟨0,E,g2,ρ,Nat.zero_le _,fun n j=>by rw [List.reverse_nil,List.append_nil];rfl,T,.refl I,fun _ m=>by (cases m)⟩
 | a :: l,E,g2,stk,ρ,h,T,I,hl=>by
  rw [List.length_cons] at hl
  refine aG (h a (.head _)) fun c hc=>?_
  refine vx (IH hc (E:=E) (g2:=g2) (stk:=stk++l.reverse) T I (by rw [List.length_append,List.length_reverse];lia)) fun k1 E1 g1 ρ1 h1 G1 T1 A1 q1=>?_
  refine vx (jV IH l (E:=E1) (g2:=g1) (stk:=stk) (fun b m=>h b (.tail _ m)) T1 A1.i (by lia)) fun k2 E2 g3 ρ2 h2 G2 T2 A2 q2=>?_
  refine ⟨k1 + k2,E2,g3,ρ2,by rw [List.length_cons,Nat.add_mul];lia,?_,T2,A1.trans A2,fun b m=>?_⟩
  ·rw [List.reverse_cons,← List.append_assoc];exact G1.trans G2
  ·refine Or.elim (List.mem_cons.mp m) (fun e=>?_) fun m=>?_
   ·rw [e];exact A2.some q1
   ·exact q2 b m
end
section
variable {st:O} {X:Ext} {ts:List Tm} {g:Hp} {w B:Nat} {f:List Int} {root:Int}
theorem ui (hw:w=1∨w=2) (F:Fs ts f):mw w f≤64:=by
 have:=F.len
 unfold mw
 exact Nat.le_trans (Nat.pow_le_pow_right (by decide) (show w * f.length≤6 by refine Or.elim hw (fun e=>?_) fun e=>?_<;>rw [e]<;>lia)) (by decide)
structure Todo (w:Nat) (ts:List Tm) (f:List Int) (d:Nat) (tm:Tm) (c:Cn) (cv:Int→Cn):Prop where
 len:tm.args.length≤4
 cl:∀ b∈tm.args,Col w ts f d b (cv b)
 run:(((tm.args.map cv).any (·.isNone))=true∧c=none)∨(((tm.args.map cv).any (·.isNone))=false∧∀ (st:O) (X:Ext) (E:En) (g:Hp) (t:Int),Bk X ts→X.w=w→At ts t tm→mw w f≤64→∃ g',(g'=[]∨g'=[.dead])∧∀ n,Ca P (n+54) aF [.ref 13,.int t,.lst ((tm.args.map cv).map (aK (mw w f))),.int (mw w f:Nat)] (hj st X ts E g) (aK (mw w f) c) (hj st X ts E (g++g')))
theorem todo (hw:w=1∨w=2) (nd:f.Nodup) {d:Nat} {tm:Tm} {c:Cn} (o:One w ts (Col w ts f d) tm c):∃ cv,Todo w ts f d tm c cv:=by
 rcases o with ⟨e,l⟩ | ⟨cs,D,e⟩ | ⟨gs,σ,N,e⟩
 ·refine ⟨fun _=>none,by rw [e];decide,fun b m=>(by rw [e] at m;cases m),.inr ⟨by rw [e];rfl,fun st X E g t K hX a hm=>⟨[],.inl rfl,fun n=>?_⟩⟩⟩
  rw [e,List.append_nil]
  exact wx K hm a l (n + 14)
 ·refine ⟨cs,D.l,D.a,.inl ⟨?_,e⟩⟩
  refine ae D.n fun b m h=>?_
  exact List.any_eq_true.mpr ⟨_,List.mem_map.mpr ⟨b,m,rfl⟩,by rw [h];rfl⟩
 ·refine ae (qk.fn (R:=fun a g=>Col w ts f d a (some g)) (fun a g g' h k=>Option.some.inj (Col.det hw nd h k)) N.a) fun cv h1 h2=>?_
  have sl:=su hw N.s
  have al:tm.args.length≤4:=by
   have e1:=congrArg List.length h2
   rw [List.length_map,List.length_map] at e1
   have e2:=jJ (N.ok 0)
   rw [List.length_map] at e2
   lia
  refine ⟨cv,al,fun b m=>?_,.inr ⟨?_,fun st X E g t K hX a hm=>⟨[.dead],.inr rfl,fun n=>?_⟩⟩⟩
  ·refine ae (h1 b m) fun g e k=>?_
   rw [e];exact k
  ·rw [h2,List.any_map]
   exact List.any_eq_false.mpr fun x _=>by simp
  ·rw [h2,List.map_map,e]
   exact rn K hX a N hm n
theorem jO {E:En} {args:List Int} (h:∀ a∈args,(lkE E (a,f)).isSome=true):wait E f args=[] :=
 List.filter_eq_nil_iff.mpr fun a m=>by rw [h a m];decide
theorem qB (K:Bk X ts) (hX:X.w=w) (F:Fs ts f) (hB:B≤98000):∀ (d:Nat) {t:Int} {c:Cn},Col w ts f d t c→∀ {E:En} {g2:Hp} {stk:List Int} {ρ:Lo},Tl (g.length + 15) f root ρ→Iv w ts f B E→stk.length + 8 * d≤90000 →
  xQ st X ts g w B f root (8 ^ d) [t] E ρ stk g2 fun E'=>(lkE E' (t,f)).isSome=true:=by
 intro d
 induction d with
 | zero=>intro t c h;exact h.elim
 | succ d ih =>
  intro t c h E g2 stk ρ T I hl
  have hw:=hwn K hX
  have fu:∀ {k},k≤1 + 4 * 8 ^ d→k + 1≤8 ^ (d + 1):=fun {k} h=>by
   have p8:1≤8 ^ d:=Nat.pos_of_ne_zero (by simp)
   rw [Nat.pow_succ];lia
  have h5:stk.length + 5≤90000∧stk.length + 5 + 8 * d≤90000:=by lia
  have h1s:stk.length + 1≤100000:=by lia
  have kn:∀ {E1:En} {g3:Hp} {ρ1:Lo} {k0:Nat},Tl (g.length + 15) f root ρ1→Aft w ts f B E E1→Go k0 ρ (hs st X ts E g (stk++[t]) g2) ρ1 (hs st X ts E1 g (stk++[t]) g3)→k0≤1 + 4 * 8 ^ d→(lkE E1 (t,f)).isSome=true→xQ st X ts g w B f root (8 ^ (d + 1)) [t] E ρ stk g2 fun E'=>(lkE E' (t,f)).isSome=true:=fun {E1 g3 ρ1 k0} T1 A1 G1 h0 hk=>by
   refine ae (rC (st:=st) (X:=X) (ts:=ts) (g2:=g3) (stk:=stk) T1 h1s hk) fun ρ' T' G'=>?_
   exact ⟨k0 + 1,E1,g3,ρ',fu h0,G1.trans fun n j=>G' n j,T',A1,hk⟩
  cases hk:(lkE E (t,f)).isSome with
  | true=>exact kn (k0:=0) T (.refl I) (fun n j=>rfl) (Nat.zero_le _) hk
  | false =>
   rcases h with ⟨i,h1,h2⟩ | ⟨ht,tm,a,o⟩
   ·rw [I.fr t (List.mem_of_getElem? h1)] at hk;cases hk
   ·refine aG (todo hw F.nd o) fun cv D=>?_
    have al:=D.len
    have al':tm.args.length≤1000:=Nat.le_trans al (by decide)
    have st1:∃ k0 E1 g3 ρ1,k0≤1 + 4 * 8 ^ d∧Go k0 ρ (hs st X ts E g (stk++[t]) g2) ρ1 (hs st X ts E1 g (stk++[t]) g3)∧Tl (g.length + 15) f root ρ1∧Aft w ts f B E E1∧∀ b∈tm.args,(lkE E1 (b,f)).isSome=true:=by
     by_cases hW:wait E f tm.args=[]
     ·refine ⟨0,E,g2,ρ,Nat.zero_le _,fun n j=>rfl,T,.refl I,fun b m=>?_⟩
      have:=List.filter_eq_nil_iff.mp hW b m
      revert this
      cases (lkE E (b,f)).isSome<;>simp
     ·refine ae (uy (st:=st) (g2:=g2) (stk:=stk) K T (Nat.le_trans (Nat.add_le_add_left al (stk.length + 1)) (Nat.le_trans h5.1 (by decide))) hk a al' hW) fun ρ1 T1 G1=>?_
      have wl:(wait E f tm.args).length≤tm.args.length:=List.length_filter_le ..
      refine vx (jV (st:=st) (X:=X) (sl:=stk.length + 5) (fun {t c} hc {E g2 stk ρ} T I hl=>ih hc T I (Nat.le_trans (Nat.add_le_add_right hl _) h5.2)) (wait E f tm.args).reverse (stk:=stk++[t]) (g2:=g2) (fun b m=>⟨_,D.cl b ((List.mem_filter.mp (List.mem_reverse.mp m)).1)⟩) T1 I (by rw [List.length_append,List.length_reverse];exact Nat.add_le_add_left (Nat.le_trans wl al) (stk.length + 1))) fun k2 E2 g3 ρ2 h2 G2 T2 A2 q2=>?_
      rw [List.reverse_reverse] at G2
      rw [List.length_reverse] at h2
      refine ⟨1 + k2,E2,g3,ρ2,?_,Go.trans (fun n j=>G1 n j) G2,T2,A2,fun b m=>?_⟩
      ·exact Nat.add_le_add_left (Nat.le_trans h2 (Nat.mul_le_mul_right _ (Nat.le_trans wl al))) 1
      ·cases hb:(lkE E (b,f)).isSome with
       | true=>exact A2.some hb
       | false=>exact q2 b (List.mem_reverse.mpr (List.mem_filter.mpr ⟨m,by rw [hb];rfl⟩))
    refine vx st1 fun k0 E1 g3 ρ1 h0 G1 T1 A1 q1=>?_
    cases hk1:(lkE E1 (t,f)).isSome with
    | true=>exact kn T1 A1 G1 h0 hk1
    | false =>
     have hv:∀ b∈tm.args,lkE E1 (b,f)=some (aK (mw w f) (cv b)):=fun b m=>by
      refine aG (Option.isSome_iff_exists.mp (q1 b m)) fun v e=>?_
      rw [e,A1.i.t.get hw F.nd e (D.cl b m)]
     have El:E1.length≤99999:=by have:=A1.i.l;have:=pF (known E1 f) 1001;lia
     have S:=A1.i.set a hk1 (d:=d + 1) (c:=c) (.inr ⟨ht,tm,a,o⟩)
     have hq:(lkE (fe E1 (t,f) (aK (mw w f) c)) (t,f)).isSome=true:=by rw [gn,if_pos rfl];rfl
     rcases D.run with ⟨n1,n2⟩ | ⟨n1,R⟩
     ·refine ae (sQ (st:=st) (g2:=g3) (g2':=g3) (stk:=stk) K hX F T1 h1s El hk1 a al' (jO q1) hv (v:=aK (mw w f) c) (.inl ⟨n1,by rw [n2];rfl,rfl⟩)) fun ρ' T' G'=>?_
      exact ⟨k0 + 1,_,g3,ρ',fu h0,G1.trans fun n j=>G' n j,T',A1.trans S,hq⟩
     ·refine ae (R st X E1 (g++.list (intsV (stk++[t])) :: g3) t K hX a (ui hw F)) fun g' hg C=>?_
      have C:∀ n,Ca P (n+54) aF [.ref 13,.int t,.lst ((tm.args.map cv).map (aK (mw w f))),.int (mw w f:Nat)] (hs st X ts E1 g (stk++[t]) g3) (aK (mw w f) c) (hs st X ts E1 g (stk++[t]) (g3++g')):=fun n=>by
       have:=C n
       rw [List.append_assoc] at this
       exact this
      refine ae (sQ (st:=st) (stk:=stk) K hX F T1 h1s El hk1 a al' (jO q1) hv (.inr ⟨n1,C⟩)) fun ρ' T' G'=>?_
      exact ⟨k0 + 1,_,_,ρ',fu h0,G1.trans fun n j=>G' n j,T',A1.trans S,hq⟩
end
theorem mO {k d:Nat} (hd:d≤10000) (h:k≤8 ^ d):∃ j,turns=j + 1 + k:=by
 have h1:8 ^ d < turns:=Nat.pow_lt_pow_right (by decide) (show d < 100000 by lia)
 generalize turns=N at h1
 exact ⟨N - 1 - k,by lia⟩
section
variable {st:O} {X:Ext} {ts:List Tm} {E:En} {g:Hp} {w:Nat} {f:List Int}
theorem aR (K:Bk X ts) (hX:X.w=w) (F:Fs ts f) {d:Nat} {t:Int} {c:Cn} (h:Col w ts f d t c) (hd:d≤10000) (T:Tab w ts E) (hE:E.length≤97000) :
  ∃ E' g',(∀ n,Ca P (n+90) bt [.ref 13,.int t,.tup (intsV f)] (hj st X ts E g) (aK (mw w f) c) (hj st X ts E' (g++g')))∧Tab w ts E'∧E'.length≤E.length + 1004:=by
 have hw:=hwn K hX
 refine ay (wy (st:=st) (g:=g) K hX F T (by lia)) fun E1 C1 G1 k1=>?_
 have T0:Tl (g.length + 15) f t (ak (ak (bt.params.zip [.ref 13,.int t,.tup (intsV f)]) 474450194027 (.ref 14)) 461228831859 (.ref (g.length + 15))):=⟨⟨rfl⟩,⟨rfl⟩,⟨rfl⟩,⟨rfl⟩,⟨rfl⟩⟩
 refine vx (qB (st:=st) (g:=g) (B:=E1.length) (g2:=[]) (stk:=[]) K hX F (by have:=G1.l;lia) d h T0 ⟨G1.t,k1,Nat.le_add_right _ _⟩ (show 0 + 8 * d≤90000 by rw [Nat.zero_add];exact Nat.le_trans (Nat.mul_le_mul_left 8 hd) (by decide))) fun k E2 g2 ρ2 hk Gk T2 A2 q2=>?_
 refine aG (Option.isSome_iff_exists.mp q2) fun v hv=>?_
 have ev:=A2.i.t.get hw F.nd hv h
 refine aG (mO hd hk) fun j ej=>?_
 refine ⟨E2,.list [] :: g2,fun n=>?_,A2.i.t,by have:=A2.i.l;have:=pF (known E2 f) 1001;have:=G1.l;lia⟩
 have stop:cF (sem P (n+9+80)) tc tb (j + 1) ρ2 (hs st X ts E2 g [] g2)=some (.nxt,ρ2,hs st X ts E2 g [] g2):=by
  have ln:aP .len [.ref (g.length + 15)] (hs st X ts E2 g [] g2)=some (.int (0:Nat),hs st X ts E2 g [] g2):=jt gx rfl rfl
  have e:Ev P (n+9+80) tc ρ2 (hs st X ts E2 g [] g2) (.bool false) (hs st X ts E2 g [] g2):=e_cmp (e_bi (es_cons (e_var' T2.stack) es_nil) ln) e_num rfl
  exact bnd e.h rfl
 have lp:cF (sem P (n+89)) tc tb turns (ak (ak (bt.params.zip [.ref 13,.int t,.tup (intsV f)]) 474450194027 (.ref 14)) 461228831859 (.ref (g.length + 15))) (hj st X ts E1 (g++[.list [.int t]]))=some (.nxt,ρ2,hs st X ts E2 g [] g2):=by
  rw [ej]
  exact (Gk (n + 9) (j + 1)).trans stop
 apply hP (by rfl)
 apply x_asgv
 ·exact e_meth (ag rfl) rfl rfl rfl rfl (es_cons (ag rfl) es_nil) (C1 (n + 44))
 ·apply x_asgv
  ·exact jB (es_cons (ag rfl) es_nil) rfl
  ·apply xS
   ·exact lp
   ·apply x_ret
    exact e_sub (e_var' T2.known) (e_tup (es_cons (e_var' T2.root) (es_cons (e_var' T2.free) es_nil)) rfl) ((m9 (t,f) (E:=E2) rfl).trans (by rw [hv,ev]))
end
noncomputable def kp (k:Nat×Nat):V:=.tup [.int (k.1:Int),.int (k.2:Int)]
noncomputable def dct (ks:List (Nat×Nat)) (φ:Nat×Nat→Nat):List (V×V):=ks.map fun k=>(kp k,.int (φ k:Nat))
theorem nI (j k:Nat×Nat):V.same (kp j) (kp k)=decide (j=k):=by
 show (((j.1:Int)==(k.1:Int))&&(((j.2:Int)==(k.2:Int))&&true))=_
 rw [Bool.and_true,Bool.eq_iff_iff]
 simp [Prod.ext_iff,Int.natCast_inj]
theorem sO (k:Nat×Nat):(kp k).isKey=true:=rfl
theorem jx {φ:Nat×Nat→Nat} {k:Nat×Nat}:∀ {ks:List (Nat×Nat)},k∈ks→getT (dct ks φ) (kp k)=some (.int (φ k:Nat))
 | j :: ks,h=>by
  show (bif V.same (kp j) (kp k) then some _ else getT (dct ks φ) (kp k))=_
  rw [nI]
  by_cases e:j=k
  ·rw [decide_eq_true e,e];rfl
  ·rw [decide_eq_false e,cond_false]
   exact jx ((List.mem_cons.mp h).resolve_left fun q=>e q.symm)
theorem nF {φ:Nat×Nat→Nat} {k:Nat×Nat}:∀ {ks:List (Nat×Nat)},k∉ks→setT (dct ks φ) (kp k) (.int (φ k:Nat))=dct (ks++[k]) φ
 | [],_=>rfl
 | j :: ks,h=>by
  show (bif V.same (kp j) (kp k) then _ else _ :: setT (dct ks φ) (kp k) _)=_
  rw [nI,decide_eq_false (show ¬ j=k from fun e=>h (by rw [e];exact .head _)),cond_false,nF fun m=>h (.tail _ m)];rfl
theorem kK {φ:Nat×Nat→Nat}:∀ {l ks:List (Nat×Nat)},(ks++l).Nodup→fU (l.map fun k=>.tup [kp k,.int (φ k:Nat)]) (dct ks φ)=some (dct (ks++l) φ)
 | [],ks,_=>by rw [List.append_nil];rfl
 | k :: l,ks,h=>by
  have nk:k∉ks:=fun m=>(List.nodup_append.mp h).2.2 k m k (.head _) rfl
  have e:fU ((k :: l).map fun k=>.tup [kp k,.int (φ k:Nat)]) (dct ks φ)=fU (l.map fun k=>.tup [kp k,.int (φ k:Nat)]) (setT (dct ks φ) (kp k) (.int (φ k:Nat))):=by
   show (some (kp k,V.int (φ k:Nat))).bind (fun p=>bif p.1.isKey then fU _ (setT _ p.1 p.2) else Option.none)=_
   show (bif (kp k).isKey then _ else Option.none)=_
   rw [sO];rfl
  rw [e,nF nk,kK (by rw [List.append_assoc];exact h),List.append_assoc];rfl
theorem sV {φ:Nat×Nat→Nat} {ks kt:List (Nat×Nat)} (hl:ks.length=kt.length) (h:∀ k∈ks,k∈kt):eqD (dct ks φ) (dct kt φ)=some true:=by
 have fl:∀ l:List (Nat×Nat),V.flats ((dct l φ).map (·.2))=true:=fun l=>List.all_eq_true.mpr fun v hv=>by
  refine ae (List.mem_map.mp hv) fun p hp hh1_=>?_
  subst hh1_
  refine ae (List.mem_map.mp hp) fun k _ hh2_=>?_
  subst hh2_
  rfl
 have rows:dm (dct kt φ) (dct ks φ)=true:=List.all_eq_true.mpr fun p hp=>by
  refine ae (List.mem_map.mp hp) fun k hk hh3_=>?_
  subst hh3_
  dsimp only
  rw [jx (h k hk)]
  exact beq_self_eq_true (φ k:Int)
 show (bif V.flats ((dct ks φ).map (·.2))&&V.flats ((dct kt φ).map (·.2)) then some ((dct ks φ).length==(dct kt φ).length&&dm (dct kt φ) (dct ks φ)) else Option.none)=_
 rw [fl,fl,rows,show (dct ks φ).length=(dct kt φ).length from (List.length_map ..).trans (hl.trans (List.length_map ..).symm),BEq.rfl];rfl
theorem zip_map {a b c:Nat→V}:∀ l:List Nat,tl l.length [l.map a,l.map b,l.map c]=l.map fun j=>.tup [a j,b j,c j]
 | []=>rfl
 | j :: l=>congrArg (V.tup [a j,b j,c j] :: ·) (zip_map l)
section
variable {st:O} {X:Ext} {ts:List Tm} {E:En} {g:Hp} {w:Nat} {f:List Int}
theorem fD (K:Bk X ts) (hX:X.w=w) (F:Fs ts f) {d:Nat} {t a b:Int} {c1 c2:Nat→Nat} {φ:Nat×Nat→Nat} (h1:Col w ts f d a (some c1)) (h2:Col w ts f d b (some c2)) (h3:Col w ts f d t (some fun j=>φ (c1 j,c2 j))) (hd:d≤10000) (nd:((List.range (mw w f)).map fun j=>(c1 j,c2 j)).Nodup) (T:Tab w ts E) (hE:E.length≤94000) :
  ∃ E' g',(∀ n,Ca P (n+100) ez [.ref 13,.int t,.int a,.int b,.tup (intsV f)] (hj st X ts E g) (.ref (g'.length + 15)) (hj st X ts E' (g'++[.dT (dct ((List.range (mw w f)).map fun j=>(c1 j,c2 j)) φ)])))∧Tab w ts E'∧E'.length≤E.length + 3012∧g <+: g':=by
 refine aW (aR (st:=st) (g:=g) K hX F h1 hd T (by lia)) fun E1 g1 C1 T1 l1=>?_
 refine aW (aR (st:=st) (g:=g++g1) K hX F h2 hd T1 (by lia)) fun E2 g2 C2 T2 l2=>?_
 refine aW (aR (st:=st) (g:=g++g1++g2) K hX F h3 hd T2 (by lia)) fun E3 g3 C3 T3 l3=>?_
 refine ⟨E3,g++g1++g2++g3,fun n=>?_,T3,by lia,⟨g1++g2++g3,by simp only [List.append_assoc]⟩⟩
 have hm:=ui (hwn K hX) F
 have nn:cop .isin (hj st X ts E3 (g++g1++g2++g3)) .none (.lst [aK (mw w f) (some c1),aK (mw w f) (some c2),aK (mw w f) (some fun j=>φ (c1 j,c2 j))])=some false:=oW (H:=hj st X ts E3 (g++g1++g2++g3)) [some c1,some c2,some fun j=>φ (c1 j,c2 j)]
 have zv:tj [(List.range (mw w f)).map (fun j=>V.int (c1 j:Nat)),(List.range (mw w f)).map (fun j=>V.int (c2 j:Nat)),(List.range (mw w f)).map (fun j=>V.int (φ (c1 j,c2 j):Nat))]=some ((List.range (mw w f)).map fun j=>.tup [V.int (c1 j:Nat),V.int (c2 j:Nat),V.int (φ (c1 j,c2 j):Nat)]):=by
  refine (btt ?_ (congrArg some ?_):_=_)
  ·simp only [List.all_cons,List.all_nil,List.length_map,Nat.beq_refl,List.length_range,List.length_cons,List.length_nil,ah (show mw w f≤100000 by lia)];rfl
  ·rw [List.length_map,zip_map]
 have cm:∀ n,Ev P (n+20) (.comp (.tup [.tup [.var 97,.var 98],.var 99]) [.mk (.tup [97,98,99]) (.zip [.sub (.var 1937207154) (.num 0),.sub (.var 1937207154) (.num 1),.sub (.var 1937207154) (.num 2)]) []]) (ak (ez.params.zip [.ref 13,.int t,.int a,.int b,.tup (intsV f)]) 1937207154 (.lst [aK (mw w f) (some c1),aK (mw w f) (some c2),aK (mw w f) (some fun j=>φ (c1 j,c2 j))])) (hj st X ts E3 (g++g1++g2++g3))
   (.lst ((List.range (mw w f)).map fun j=>.tup [kp (c1 j,c2 j),.int (φ (c1 j,c2 j):Nat)])) (hj st X ts E3 (g++g1++g2++g3)):=fun n=>by
  have sb:∀ (i:Nat) {v:V},[aK (mw w f) (some c1),aK (mw w f) (some c2),aK (mw w f) (some fun j=>φ (c1 j,c2 j))][i]?=some v→i < 3→∀ n H,Ev P (n+10) (.sub (.var 1937207154) (.num (i:Int))) (ak (ez.params.zip [.ref 13,.int t,.int a,.int b,.tup (intsV f)]) 1937207154 (.lst [aK (mw w f) (some c1),aK (mw w f) (some c2),aK (mw w f) (some fun j=>φ (c1 j,c2 j))])) H v H:=fun i v e h n H=>e_sub (ag rfl) e_num (dW (Int.natCast_nonneg i) (by rw [Int.toNat_natCast];exact e) (by rw [Int.toNat_natCast];lia))
  refine cT (l:=List.range (mw w f)) (g:=fun j=>.tup [V.int (c1 j:Nat),V.int (c2 j:Nat),V.int (φ (c1 j,c2 j):Nat)]) (x5 (es_cons (sb 0 rfl (by decide) _ _) (es_cons (sb 1 rfl (by decide) _ _) (es_cons (sb 2 rfl (by decide) _ _) es_nil))) rfl zv) (fun j m=>⟨_,rfl,?_⟩) (by rw [List.length_range];lia)
  exact e_tup (es_cons (e_tup (es_cons (e_var' (lke_skip rfl (lke_skip rfl lke_same))) (es_cons (e_var' (lke_skip rfl lke_same)) es_nil)) rfl) (es_cons (e_var' lke_same) es_nil)) rfl
 have dd:fU ((List.range (mw w f)).map fun j=>.tup [kp (c1 j,c2 j),.int (φ (c1 j,c2 j):Nat)]) []=some (dct ((List.range (mw w f)).map fun j=>(c1 j,c2 j)) φ):=by
  have:=kK (φ:=φ) (l:=(List.range (mw w f)).map fun j=>(c1 j,c2 j)) (ks:=[]) (by rw [List.nil_append];exact nd)
  rw [List.map_map,List.nil_append] at this
  exact this
 apply hP (by rfl)
 apply x_asgv
 ·exact dB (d5 rfl (i_val rfl (e_tup (es_cons (ag rfl) (es_cons (ag rfl) (es_cons (ag rfl) es_nil))) rfl) rfl)) (cl_cons rfl (e_meth (e_var' (lke_skip rfl (lke_del rfl ⟨rfl⟩))) rfl rfl rfl rfl (es_cons (e_var' lke_same) (es_cons (e_var' (lke_skip rfl (lke_del rfl ⟨rfl⟩))) es_nil)) (C1 (n + 7))) (cl_cons rfl (e_meth (e_var' (lke_skip rfl (lke_del rfl ⟨rfl⟩))) rfl rfl rfl rfl (es_cons (e_var' lke_same) (es_cons (e_var' (lke_skip rfl (lke_del rfl ⟨rfl⟩))) es_nil)) (C2 (n + 7))) (cl_cons rfl (e_meth (e_var' (lke_skip rfl (lke_del rfl ⟨rfl⟩))) rfl rfl rfl rfl (es_cons (e_var' lke_same) (es_cons (e_var' (lke_skip rfl (lke_del rfl ⟨rfl⟩))) es_nil)) (C3 (n + 7))) cl_nil))) rfl
 ·apply x_ret
  refine e_ite (e_cmp e_none (e_var' lke_same) nn) (ei_f rfl ?_)
  exact rR (cm (n + 77)) (ah (by rw [List.length_map,List.length_range];lia)) dd
end
noncomputable abbrev app (i:Int):Tm:=⟨7368801,[],3,[i]⟩
noncomputable def ts0:List Tm:=[tt,tf,app 0,app 1,app 2,app 3]
noncomputable def Fin (k:Nat) (ρ:Lo) (H:Hp):Prop:=∃ ρ' H',∀ n,Xs P (n+200) (law.body.drop k) ρ H (.ret (.bool true)) ρ' H'
noncomputable def vt (st:O):Hp:=st :: .inst 7741231747428410708 iS :: .list [.str 1819242306,.str 7630409,.str 1818322258] :: .list [.int 0,.int 0,.int 0] :: .list [] :: .list [] :: .list [] :: lists [tt,tf] [] []
theorem r6 (st:O) (n:Nat):Ca P (n+100) dQ [.ref 1] [st,.inst 7741231747428410708 []] .none (vt st):=⟨by kernel_rfl⟩
noncomputable abbrev lo0 (sc:V):Lo:=[(128026154263411,sc)]
noncomputable abbrev lo1 (sc:V) (w:Nat):Lo:=ak (ak (ak (lo0 sc) 1818584434 (.ref 0)) 1802396002 (.ref 1)) 1701079415 (.int (w:Int))
noncomputable abbrev lo2 (sc:V) (w:Nat):Lo:=ak (ak (ak (ak (ak (lo1 sc w) 120 (.int 3)) 121 (.int 4)) 117 (.int 5)) 28542696426730611 (.int 6)) 435526333802 (.ref 13)
theorem lX (st:O) (sc:V) {w:Nat} (hw:w=1∨w=2) (n:Nat):Ev P (n+150) (.comp (.meth (.var 1802396002) 140780504389038964637790822 [.var 1685221239,.meth (.var 1802396002) 32776920301008482 [.var 1701079415]]) [.mk (.var 1685221239) (.tup [.str 120,.str 121,.str 117,.str 122]) []]) (lo1 sc w) (vt st) (.lst [.int 3,.int 4,.int 5,.int 6]) (hp st ⟨w,false⟩ ts0 []):=by
 refine Or.elim hw (fun e=>?_) fun e=>?_<;>subst e<;>exact ⟨by kernel_rfl⟩
theorem oQ (st:O) (sc:V) (w:Nat) (n:Nat):Ev P (n+150) (.new 7306919375355013442 [.var 1802396002]) (ak (ak (ak (ak (lo1 sc w) 120 (.int 3)) 121 (.int 4)) 117 (.int 5)) 28542696426730611 (.int 6)) (hp st ⟨w,false⟩ ts0 []) (.ref 13) (hj st ⟨w,false⟩ ts0 [] []):=⟨by kernel_rfl⟩
theorem start {ns:List Int} (hl:ns.length≤63) (k:∀ w,w=1∨w=2→Fin 4 (lo2 (.lst (intsV ns)) w) (hj (reel (ns.take 50) 1) ⟨w,false⟩ ts0 [] [])):Fin 0 (lo0 (.lst (intsV ns))) []:=by
 have h50:(ns.take 50).length≤50:=by rw [List.length_take];lia
 refine ae (cy (R:=(vt (reel (ns.take 50) 0)).tail) h50 (p:=0) (by lia) (k:=2) (by decide)) fun c hc C=>?_
 refine hZ (k (1 + c) (by lia)) fun ρ' H' X=>?_
 refine ⟨ρ',H',fun n=>?_⟩
 have sl:gg (.lst (intsV ns)) Option.none (some 50)=some (.lst (intsV (ns.take 50))) :=
  btt (ah (by rw [intsV,List.length_map];lia)) (congrArg (fun l=>some (V.lst l)) (List.map_take ..).symm)
 have ok:ax (intsV (ns.take 50)).length=true:=ah (by rw [intsV,List.length_map];lia)
 have ls:aP .list [.lst (intsV (ns.take 50))] []=some (.lst (intsV (ns.take 50)),[]):=btt ok rfl
 show Xs P (n+200) law.body _ _ _ _ _
 apply x_asgt
 ·exact e_tup (es_cons (jB (es_cons (e_bi (es_cons (pj (ag rfl) e_num rfl sl) es_nil) ls) (es_cons e_num es_nil)) rfl) (es_cons (yd rfl rfl es_nil (r6 (reel (ns.take 50) 0) (n + 97))) es_nil)) rfl
 ·rfl
 ·apply x_asgv
  ·exact e_bin e_num (e_call rfl (es_cons (ag rfl) (es_cons e_num es_nil)) (C (n + 177))) (my rfl)
  ·rw [show ((1:Int) + (c:Int))=((1 + c:Nat):Int) by lia]
   apply x_asgt
   ·exact lX (reel (ns.take 50) 1) (.lst (intsV ns)) (w:=1 + c) (by lia) (n + 49)
   ·rfl
   ·apply x_asgv
    ·exact oQ (reel (ns.take 50) 1) (.lst (intsV ns)) (1 + c) (n + 49)
    ·exact X n
structure Tf (w:Nat) (ts:List Tm) (s e pl:Int) (gS gE:List Nat→Nat):Prop where
 x:At ts 3 (app 0)∧At ts 4 (app 1)∧At ts 5 (app 2)∧At ts 6 (app 3)
 ss:Sem w ts [3,4] s 3 100 gS
 sx:∃ tm r,At ts s tm∧tm.args=3 :: r∧tm.sort=3∧tm.op≠7368801
 se:Sem w ts [s,4] e 3 1500 gE
 sp:Sem w ts [5,4] pl 3 1500 gE
theorem Tf.up {w:Nat} {ts ts':List Tm} {s e pl:Int} {gS gE:List Nat→Nat} (h:Tf w ts s e pl gS gE) (p:ts <+: ts'):Tf w ts' s e pl gS gE:=by
 refine aX h.sx fun tm r a b=>?_
 exact ⟨⟨h.x.1.up p,h.x.2.1.up p,h.x.2.2.1.up p,h.x.2.2.2.up p⟩,h.ss.up p,⟨tm,r,a.up p,b⟩,h.se.up p,h.sp.up p⟩
structure Nm (w:Nat) (vs:List V) (s e:Int) (ρ:Lo):Prop where
 reel:Lk ρ 1818584434 (.ref 0)
 bank:Lk ρ 1802396002 (.ref 1)
 wide:Lk ρ 1701079415 (.int (w:Int))
 x:Lk ρ 120 (.int 3)
 y:Lk ρ 121 (.int 4)
 u:Lk ρ 117 (.int 5)
 z:Lk ρ 28542696426730611 (.int 6)
 judge:Lk ρ 435526333802 (.ref 13)
 s:Lk ρ 115 (.int s)
 shape:Lk ρ 435677128819 (.tup vs)
 e:Lk ρ 111542069915237 (.int e)
theorem Nm.set {w:Nat} {vs:List V} {s e:Int} {ρ:Lo} (N:Nm w vs s e ρ) {i:Nat} (h:([1818584434,1802396002,1701079415,120,121,117,28542696426730611,435526333802,115,435677128819,111542069915237].all fun j=>!(Nat.beq j i))=true) (v:V):Nm w vs s e (ak ρ i v):=by
 have h:=fun j (hj:j∈[1818584434,1802396002,1701079415,120,121,117,28542696426730611,435526333802,115,435677128819,111542069915237])=>(show Nat.beq j i=false from by have:=List.all_eq_true.mp h j hj;revert this;cases Nat.beq j i<;>simp)
 exact ⟨lke_skip (h _ (by decide)) N.reel,lke_skip (h _ (by decide)) N.bank,lke_skip (h _ (by decide)) N.wide,lke_skip (h _ (by decide)) N.x,lke_skip (h _ (by decide)) N.y,lke_skip (h _ (by decide)) N.u,lke_skip (h _ (by decide)) N.z,lke_skip (h _ (by decide)) N.judge,lke_skip (h _ (by decide)) N.s,lke_skip (h _ (by decide)) N.shape,lke_skip (h _ (by decide)) N.e⟩
theorem vQ {ns:List Int} (hl:ns.length≤50) {sc:V} {w:Nat} (hw:w=1∨w=2)
  (k:∀ ρ X ts p vs s e pl gS gE,Bk X ts→X.w=w→ts.length≤50→p≤100→Tf w ts s e pl gS gE→Shp w 48 (.tup vs) 13 1326 gE→Nm w vs s e ρ→Lk ρ 474214394992 (.int pl)→Fin 7 ρ (hj (reel ns p) X ts [] [])):Fin 4 (lo2 sc w) (hj (reel ns 1) ⟨w,false⟩ ts0 [] []):=by
 have K0:Bk ⟨w,false⟩ ts0:=⟨fun t m=>by
  refine Or.elim (List.mem_cons.mp m) (fun e=>?_) fun m=>?_;(rw [e];exact .inl rfl)
  refine Or.elim (List.mem_cons.mp m) (fun e=>?_) fun m=>?_;(rw [e];exact .inl rfl)
  refine Or.elim (List.mem_cons.mp m) (fun e=>?_) fun m=>?_;(rw [e];exact .inr (.inl rfl))
  refine Or.elim (List.mem_cons.mp m) (fun e=>?_) fun m=>?_;(rw [e];exact .inr (.inl rfl))
  refine Or.elim (List.mem_cons.mp m) (fun e=>?_) fun m=>?_;(rw [e];exact .inr (.inl rfl))
  rw [List.mem_singleton.mp m];exact .inr (.inl rfl),rfl,rfl,by show (w:Int)=1∨(w:Int)=2;lia⟩
 have a3:At ts0 3 (app 0):=⟨by decide,by decide,rfl⟩
 have a4:At ts0 4 (app 1):=⟨by decide,by decide,rfl⟩
 have a5:At ts0 5 (app 2):=⟨by decide,by decide,rfl⟩
 have a6:At ts0 6 (app 3):=⟨by decide,by decide,rfl⟩
 refine ae (cy (R:=(hj (reel ns 1) ⟨w,false⟩ ts0 [] []).tail) hl (p:=1) (by lia) (k:=10) (by decide)) fun c hc C=>?_
 refine ae (jY (os:=iZ) hc (by decide)) fun op hop q1=>?_
 refine aT (xm (R:=(hj (reel ns 1) ⟨w,false⟩ ts0 [] []).tail) hl hw (p:=2) (by lia)) fun v1 g1 p1 hp1 D1 Sh1=>?_
 refine aT (Sh1 (reel ns p1) (jd :: .dT (bH []) :: []) ⟨w,false⟩ ts0 3 4 K0 rfl (by decide) (.leaf (i:=0) rfl a3 rfl) (.leaf (i:=1) rfl a4 rfl)) fun t1 X1 ts1 M1 G1 S1=>?_
 refine ae S1.at_ fun tm1 b1 b2=>?_
 have l0:ts0.length=6:=rfl
 refine aX (rd (st:=reel ns p1) (rest:=jd :: .dT (bH []) :: []) G1.bk (by have:=G1.len;lia) (jR hop) (a3.up G1.pre) rfl b1 b2) fun s ts2 C2 N2=>?_
 have Ss:=Sem.node hw (ip hop) (.cons (((Sem.leaf (w:=w) (lv:=[3,4]) (i:=0) rfl a3 rfl).up (G1.pre.trans N2.pre)).more (Nat.zero_le 54)) (.one (S1.up N2.pre))) N2.at_
 have P2:=G1.pre.trans N2.pre
 have w2:X1.w=w:=G1.w
 refine aT (yg (R:=(hj (reel ns 1) X1 ts2 [] []).tail) hl hw (p:=p1) (by lia)) fun v3 g3 p3 hp3 D3 Sh3=>?_
 have n2:=N2.len
 have n1:=G1.len
 refine aT (Sh3 (reel ns p3) (jd :: .dT (bH []) :: []) X1 ts2 s 4 N2.bk w2 (by lia) (.leaf (i:=0) rfl N2.at_ rfl) (.leaf (i:=1) rfl (a4.up P2) rfl)) fun e X4 ts4 M4 G4 S4=>?_
 have P4:=P2.trans G4.pre
 have n4:=G4.len
 refine aT (Sh3 (reel ns p3) (jd :: .dT (bH []) :: []) X4 ts4 5 4 G4.bk (G4.w.trans w2) (by lia) (.leaf (i:=0) rfl (a5.up P4) rfl) (.leaf (i:=1) rfl (a4.up P4) rfl)) fun pl X5 ts5 M5 G5 S5=>?_
 have P5:=P4.trans G5.pre
 have n5:=G5.len
 refine hZ (k (ak (ak (ak (ak (lo2 sc w) 115 (.int s)) 435677128819 (.tup v3)) 111542069915237 (.int e)) 474214394992 (.int pl)) X5 ts5 p3 v3 s e pl _ g3 G5.bk (G5.w.trans (G4.w.trans w2)) (by lia) (by lia)
  ⟨⟨a3.up P5,a4.up P5,a5.up P5,a6.up P5⟩,(Ss.up (G4.pre.trans G5.pre)).more (by decide),⟨_,_,N2.at_.up (G4.pre.trans G5.pre),rfl,rfl,j3 hw (ip hop)⟩,(S4.up G5.pre).more (by decide),S5.more (by decide)⟩ Sh3 ⟨⟨rfl⟩,⟨rfl⟩,⟨rfl⟩,⟨rfl⟩,⟨rfl⟩,⟨rfl⟩,⟨rfl⟩,⟨rfl⟩,⟨rfl⟩,⟨rfl⟩,⟨rfl⟩⟩ ⟨rfl⟩) fun ρ' H' Y=>?_
 refine ⟨ρ',H',fun n=>?_⟩
 show Xs P (n+200) (law.body.drop 4) _ _ _ _ _
 apply x_asgv
 ·exact e_meth (ag rfl) rfl rfl rfl rfl (es_cons (e_sub (e_cst rfl) (e_call rfl (es_cons (ag rfl) (es_cons e_num es_nil)) (C (n + 176))) (q1 _)) (es_cons (ag rfl) (es_cons (e_call rfl (es_cons (ag rfl) (es_cons (ag rfl) (es_cons (e_call rfl (es_cons (ag rfl) (es_cons e_num es_nil)) (D1 (n + 152))) (es_cons (e_tup (es_cons (ag rfl) (es_cons (ag rfl) es_nil)) rfl) es_nil)))) (M1 (n + 153))) es_nil))) (C2 (n + 174))
 ·apply x_asgv
  ·exact e_call rfl (es_cons (ag rfl) (es_cons e_num es_nil)) (D3 (n + 150))
  ·apply x_asgt
   ·exact e_tup (es_cons (e_call rfl (es_cons (ag rfl) (es_cons (ag rfl) (es_cons (ag rfl) (es_cons (e_tup (es_cons (ag rfl) (es_cons (ag rfl) es_nil)) rfl) es_nil)))) (M4 (n + 149))) (es_cons (e_call rfl (es_cons (ag rfl) (es_cons (ag rfl) (es_cons (ag rfl) (es_cons (e_tup (es_cons (ag rfl) (es_cons (ag rfl) es_nil)) rfl) es_nil)))) (M5 (n + 149))) es_nil)) rfl
   ·rfl
   ·exact Y n
theorem pD {α:Type} {P:Prog} {n:Nat} {ρ:Lo} {H:Hp} {elt:E} {t:T} {gs:List G} {g:α→V} {f:α→List V} {l:List α} (h:∀ a∈l,∃ ρ',eh t (g a) ρ=some ρ'∧Cg P n elt gs ρ' H (f a)):Cp P n elt t [] gs (l.map g) ρ H (l.flatMap f):=by
 induction l with
 | nil=>exact ⟨rfl⟩
 | cons a l ih =>
  refine ae (h a (List.mem_cons_self ..)) fun ρ' h1 h2=>?_
  have h3:=(ih fun b hb=>h b (List.mem_cons_of_mem _ hb)).h
  exact ⟨bnd h1 (bnd rfl (bnd h2.h (bnd h3 rfl)))⟩
theorem eP {P:Prog} {n:Nat} {ρ:Lo} {H H1:Hp} {e:E} {k:Nat} (h:Ev P n e ρ H (.int (k:Int)) H1) (q:k≤1000):It P n (.range [e]) ρ H ((List.range k).map fun (j:Nat)=>V.int (j:Int)) H1:=by
 have:=i_range1 h (by rw [Int.toNat_natCast,ah (by lia),br (by lia)];rfl)
 rw [Int.toNat_natCast] at this;exact this
theorem bc {w i j:Nat}:fr w i j < 2 ^ w:=Nat.mod_lt _ (Nat.two_pow_pos w)
theorem ed {ts:List Tm} {lv f:List Int} (h:∀ t∈f,∃ i,At ts t (app i)):Fre ts lv f:=fun t m=>(h t m).elim fun i a=>⟨_,a,.inl rfl⟩
theorem vA {w:Nat} {ts:List Tm} {a b:Int} {f:List Int} {d:Nat} {c1 c2:Nat→Nat} (nd:f.Nodup) (F:Fre ts [a,b] f) (h1:Col w ts f d a (some c1)) (h2:Col w ts f d b (some c2)) (r1:∀ j,c1 j < 2 ^ w) (r2:∀ j,c2 j < 2 ^ w):Ctx w ts [a,b] f d (fun j=>[c1 j,c2 j]):=by
 refine ⟨nd,F,fun i l e=>?_,fun j=>⟨rfl,fun x m=>?_⟩⟩
 ·cases i with
  | zero=>cases e;exact h1
  | succ i=>cases i with
   | zero=>cases e;exact h2
   | succ i=>cases e
 ·refine Or.elim (List.mem_cons.mp m) (fun e=>?_) fun m=>?_
  ·rw [e];exact r1 j
  ·rw [List.mem_singleton.mp m];exact r2 j
section
variable {w:Nat} {ts:List Tm} {s e pl:Int} {gS gE:List Nat→Nat} {f:List Int} {d:Nat} {c1 c2:Nat→Nat}
theorem in2 {a b x y:Nat} {l m:Int} (h1:x < 2 ^ w) (h2:y < 2 ^ w):InR w [l,m] [x,y]:=⟨rfl,fun z hz=>by
 refine Or.elim (List.mem_cons.mp hz) (fun e=>?_) fun hz=>?_
 ·rw [e];exact h1
 ·rw [List.mem_singleton.mp hz];exact h2⟩
theorem Tf.cols (T:Tf w ts s e pl gS gE) (nd:f.Nodup) (F:∀ t∈f,∃ i,At ts t (app i)) (h1:Col w ts f d 3 (some c1)) (h2:Col w ts f d 4 (some c2)) (r1:∀ j,c1 j < 2 ^ w) (r2:∀ j,c2 j < 2 ^ w) :
  Col w ts f (d + 100) s (some fun j=>gS [c1 j,c2 j])∧(∀ j,gS [c1 j,c2 j] < 2 ^ w)∧Col w ts f (d + 100 + 1500) e (some fun j=>gE [gS [c1 j,c2 j],c2 j]):=by
 have a:=T.ss.col ts f d _ (List.prefix_refl _) (vA nd (ed F) h1 h2 r1 r2)
 have r:∀ j,gS [c1 j,c2 j] < 2 ^ w:=fun j=>T.ss.lt _ (in2 (a:=0) (b:=0) (r1 j) (r2 j))
 exact ⟨a,r,T.se.col ts f (d + 100) _ (List.prefix_refl _) (vA nd (ed F) a (h2.up (List.prefix_refl _) (Nat.le_add_right _ _)) r r2)⟩
theorem dc {i:Nat} {t:Int} (h:f[i]?=some t):Col w ts f 1 t (some (fr w i)):=.inl ⟨i,h,rfl⟩
noncomputable abbrev keys (w:Nat):List (Nat×Nat):=(List.range (2 ^ (w * 2))).map fun j=>(fr w 0 j,fr w 1 j)
theorem gX (hw:w=1∨w=2):(keys w).Nodup:=by refine Or.elim hw (fun e=>?_) fun e=>?_<;>rw [e]<;>decide
noncomputable def fS (gS:List Nat→Nat) (k:Nat×Nat):Nat:=gS [k.1,k.2]
noncomputable def fW (gS gE:List Nat→Nat) (k:Nat×Nat):Nat:=gE [gS [k.1,k.2],k.2]
noncomputable def bh (w:Nat):List (Nat×Nat):=(List.range (2 ^ w)).flatMap fun a=>(List.range (2 ^ w)).flatMap fun b=>[(a,b)]
theorem nT (hw:w=1∨w=2):((List.range (2 ^ w)).flatMap fun a=>(List.range (2 ^ w)).flatMap fun b=>[kp (a,b)])=(bh w).map kp:=by refine Or.elim hw (fun e=>?_) fun e=>?_<;>rw [e]<;>rfl
theorem Tf.fs (T:Tf w ts s e pl gS gE) (nd:f.Nodup) (hl:f.length≤3) (F:∀ t∈f,∃ i,At ts t (app i)):Fs ts f:=⟨nd,hl,fun t m=>(F t m).elim fun i a=>⟨_,a,rfl⟩⟩
theorem Tf.app34 (T:Tf w ts s e pl gS gE):∀ t∈[(3:Int),4],∃ i,At ts t (app i):=fun t m=>by
 refine Or.elim (List.mem_cons.mp m) (fun e=>?_) fun m=>?_
 ·rw [e];exact ⟨_,T.x.1⟩
 ·rw [List.mem_singleton.mp m];exact ⟨_,T.x.2.1⟩
theorem Tf.app54 (T:Tf w ts s e pl gS gE):∀ t∈[(5:Int),4],∃ i,At ts t (app i):=fun t m=>by
 refine Or.elim (List.mem_cons.mp m) (fun e=>?_) fun m=>?_
 ·rw [e];exact ⟨_,T.x.2.2.1⟩
 ·rw [List.mem_singleton.mp m];exact ⟨_,T.x.2.1⟩
structure Dc (w:Nat) (gS gE:List Nat→Nat) (g:Hp) (ρ:Lo):Prop where
 s:∃ r:Nat,Lk ρ 1935636834 (.ref (r + 15))∧g[r]?=some (.dT (dct (keys w) (fS gS)))
 wh:∃ r:Nat,Lk ρ 7308338789785500002 (.ref (r + 15))∧g[r]?=some (.dT (dct (keys w) (fW gS gE)))
 u:∃ r:Nat,Lk ρ 1969191266 (.ref (r + 15))∧g[r]?=some (.dT (dct (keys w) (fS gE)))
 p:Lk ρ 495840747888 (.lst ((bh w).map kp))
theorem vP {ns:List Int} {ρ:Lo} {X:Ext} {p:Nat} {vs:List V} (K:Bk X ts) (hX:X.w=w) (T:Tf w ts s e pl gS gE) (N:Nm w vs s e ρ) (hpl:Lk ρ 474214394992 (.int pl))
  (k:∀ ρ E g,Tab w ts E→E.length≤9100→Nm w vs s e ρ→Dc w gS gE g ρ→Fin 10 ρ (hj (reel ns p) X ts E g)):Fin 7 ρ (hj (reel ns p) X ts [] []):=by
 have hw:=hwn K hX
 have T0:Tab w ts []:=⟨fun _ _ _ h=>by cases h⟩
 have cs:=T.cols (f:=[3,4]) (by decide) T.app34 (dc (w:=w) (ts:=ts) (i:=0) rfl) (dc (i:=1) rfl) (fun j=>bc) fun j=>bc
 have F34:=T.fs (by decide) (by decide) T.app34
 have F54:=T.fs (by decide) (by decide) T.app54
 refine iY (fD (st:=reel ns p) (g:=[]) (φ:=fS gS) K hX F34 ((dc (i:=0) rfl).up (List.prefix_refl _) (Nat.le_add_right 1 100)) ((dc (i:=1) rfl).up (List.prefix_refl _) (Nat.le_add_right 1 100)) cs.1 (by decide) (gX hw) T0 (by decide)) fun E1 g1 C1 T1 l1 q1=>?_
 have l1:E1.length≤3012:=by simpa using l1
 refine iY (fD (st:=reel ns p) (g:=g1++[.dT (dct (keys w) (fS gS))]) (φ:=fW gS gE) K hX F34 ((dc (i:=0) rfl).up (List.prefix_refl _) (by decide:1≤1 + 100 + 1500)) ((dc (i:=1) rfl).up (List.prefix_refl _) (by decide)) cs.2.2 (by decide) (gX hw) T1 (by lia)) fun E2 g2 C2 T2 l2 q2=>?_
 have cu:=T.sp.col ts [5,4] 1 _ (List.prefix_refl _) (vA (by decide) (ed T.app54) (dc (i:=0) rfl) (dc (i:=1) rfl) (fun j=>bc) fun j=>bc)
 refine iY (fD (st:=reel ns p) (g:=g2++[.dT (dct (keys w) (fW gS gE))]) (φ:=fS gE) K hX F54 ((dc (i:=0) rfl).up (List.prefix_refl _) (by decide:1≤1 + 1500)) ((dc (i:=1) rfl).up (List.prefix_refl _) (by decide)) cu (by decide) (gX hw) T2 (by lia)) fun E3 g3 C3 T3 l3 q3=>?_
 have at1:(g1++[O.dT (dct (keys w) (fS gS))])[g1.length]?=some (.dT (dct (keys w) (fS gS))):=by rw [List.getElem?_append_right (Nat.le_refl _),Nat.sub_self];rfl
 have at2:(g2++[O.dT (dct (keys w) (fW gS gE))])[g2.length]?=some (.dT (dct (keys w) (fW gS gE))):=by rw [List.getElem?_append_right (Nat.le_refl _),Nat.sub_self];rfl
 have at3:(g3++[O.dT (dct (keys w) (fS gE))])[g3.length]?=some (.dT (dct (keys w) (fS gE))):=by rw [List.getElem?_append_right (Nat.le_refl _),Nat.sub_self];rfl
 have up:∀ {a b:Hp} {i:Nat} {o:O},a <+: b→a[i]?=some o→b[i]?=some o:=fun {a b i o} q h=>by
  refine aG q fun r e=>?_
  rw [← e,List.getElem?_append_left (List.getElem?_eq_some_iff.mp h).1];exact h
 have N1:=N.set (i:=1935636834) (by decide) (.ref (g1.length + 15))
 have N2:=N1.set (i:=7308338789785500002) (by decide) (.ref (g2.length + 15))
 have N3:=N2.set (i:=1969191266) (by decide) (.ref (g3.length + 15))
 have N4:=N3.set (i:=495840747888) (by decide) (.lst ((bh w).map kp))
 refine hZ (k _ E3 (g3++[.dT (dct (keys w) (fS gE))]) T3 (by lia) N4 ⟨⟨g1.length,lke_skip rfl (lke_skip rfl (lke_skip rfl lke_same)),up (q2.trans ((List.prefix_append _ _).trans (q3.trans (List.prefix_append _ _)))) at1⟩,⟨g2.length,lke_skip rfl (lke_skip rfl lke_same),up (q3.trans (List.prefix_append _ _)) at2⟩,⟨g3.length,lke_skip rfl lke_same,at3⟩,lke_same⟩) fun ρ' H' Y=>?_
 refine ⟨ρ',H',fun n=>?_⟩
 have pw:2 ^ w≤4:=by refine Or.elim hw (fun e=>?_) fun e=>?_<;>rw [e]<;>decide
 have cp:Ev P (n+199) (.comp (.tup [.var 97,.var 98]) [.mk (.var 97) (.range [.bin .shl (.num 1) (.var 1701079415)]) [],.mk (.var 98) (.range [.bin .shl (.num 1) (.var 1701079415)]) []]) (ak (ak (ak ρ 1935636834 (.ref (g1.length + 15))) 7308338789785500002 (.ref (g2.length + 15))) 1969191266 (.ref (g3.length + 15))) (hj (reel ns p) X ts E3 (g3++[.dT (dct (keys w) (fS gE))])) (.lst ((bh w).map kp)) (hj (reel ns p) X ts E3 (g3++[.dT (dct (keys w) (fS gE))])):=by
  rw [← nT hw]
  refine uU (d5 rfl (eP (e_bin e_num (e_var' N3.wide) (fc (by lia))) (by lia))) (pD (f:=fun a=>(List.range (2 ^ w)).flatMap fun b=>[kp (a,b)]) fun a ma=>⟨_,rfl,vj (eP (e_bin e_num (e_var' (lke_skip rfl (lke_del rfl N3.wide))) (fc (by lia))) (by lia)) (pD (f:=fun b=>[kp (a,b)]) fun b mb=>⟨_,rfl,xo (e_tup (es_cons (e_var' (lke_skip rfl lke_same)) (es_cons (e_var' lke_same) es_nil)) rfl)⟩)⟩) ?_
  rw [nT hw]
  refine Or.elim hw (fun e=>?_) fun e=>?_<;>rw [e]<;>rfl
 have tp:∀ {ρ:Lo} {H:Hp} {a b:Nat} {x y:Int} {n:Nat},Lk ρ a (.int x)→Lk ρ b (.int y)→Ev P (n+20) (.tup [.var a,.var b]) ρ H (.tup (intsV [x,y])) H:=fun h1 h2=>e_tup (es_cons (e_var' h1) (es_cons (e_var' h2) es_nil)) rfl
 show Xs P (n+200) (law.body.drop 7) _ _ _ _ _
 apply x_asgt
 ·exact e_tup (es_cons (e_call rfl (es_cons (e_var' N.judge) (es_cons (e_var' N.s) (es_cons (e_var' N.x) (es_cons (e_var' N.y) (es_cons (tp N.x N.y) es_nil))))) (C1 (n + 97))) (es_cons (e_call rfl (es_cons (e_var' N.judge) (es_cons (e_var' N.e) (es_cons (e_var' N.x) (es_cons (e_var' N.y) (es_cons (tp N.x N.y) es_nil))))) (C2 (n + 97))) es_nil)) rfl
 ·rfl
 ·apply x_asgv
  ·exact e_call rfl (es_cons (e_var' N2.judge) (es_cons (e_var' (lke_skip rfl (lke_skip rfl hpl))) (es_cons (e_var' N2.u) (es_cons (e_var' N2.y) (es_cons (tp N2.u N2.y) es_nil))))) (C3 (n + 98))
  ·apply x_asgv
   ·exact cp
   ·exact Y n
end
theorem hU:∀ l:List Nat,V.beqs (bx l) (bx l)=true
 | []=>rfl
 | a :: l=>mA (beq_self_eq_true (a:Int)) (hU l)
theorem iJ (l:List Nat):V.flat (.lst (bx l))=true:=o8 (n:=1) (congrArg (Option.map (· + 1)) (iQ (fun j:Nat=>(j:Int)) l)) (by decide)
theorem jm {H:Hp} (l:List Nat):cop .ne H (.lst (bx l)) (.lst (bx l))=some false:=by
 show (bif V.flat (.lst (bx l))&&V.flat (.lst (bx l)) then some (V.beqs (bx l) (bx l)) else Option.none).map (!·)=_
 rw [iJ,hU];rfl
theorem kO (m:Nat) (h:Nat→Nat):aK m (some h)=.lst (bx ((List.range m).map h)):=congrArg V.lst (show ((List.range m).map fun j=>V.int (h j:Nat))=((List.range m).map h).map (fun n:Nat=>V.int (n:Int)) from (List.map_map (f:=h) (g:=fun n:Nat=>V.int (n:Int))).symm)
theorem sE {H:Hp} (m:Nat) (c:Nat→Nat):cop .ne H (aK m (some c)) (aK m (some c))=some false:=by rw [kO];exact jm _
theorem tQ {w:Nat} (hw:w=1∨w=2):tR (aK (mw w [3,4]) (some (fr w 0))) (aK (mw w [3,4]) (some (fr w 1)))=some (.lst ((bh w).map kp)):=by
 refine Or.elim hw (fun e=>?_) fun e=>?_<;>subst e<;>kernel_rfl
theorem qS {w:Nat} (hw:w=1∨w=2) {H:Hp}:cop .ne H (.lst ((bh w).map kp)) (.lst ((bh w).map kp))=some false:=by
 refine Or.elim hw (fun e=>?_) fun e=>?_<;>subst e<;>kernel_rfl
theorem dK {w:Nat} (hw:w=1∨w=2) {a b:Nat} (ha:a < 2 ^ w) (hb:b < 2 ^ w):(a,b)∈keys w:=by
 have key:∀ w∈[1,2],((List.range (2 ^ w)).all fun a=>(List.range (2 ^ w)).all fun b=>(keys w).contains (a,b))=true:=by decide +kernel
 have:=List.all_eq_true.mp (List.all_eq_true.mp (key w (by refine Or.elim hw (fun q=>?_) fun q=>?_<;>rw [q]<;>decide)) a (List.mem_range.mpr ha)) b (List.mem_range.mpr hb)
 exact List.contains_iff_mem.mp this
theorem bS {w:Nat} {k:Nat×Nat} (h:k∈bh w):k.1 < 2 ^ w∧k.2 < 2 ^ w:=by
 refine ae (List.mem_flatMap.mp h) fun a h1 h=>?_
 refine ae (List.mem_flatMap.mp h) fun b h2 h=>?_
 rw [List.mem_singleton.mp h]
 exact ⟨List.mem_range.mp h1,List.mem_range.mp h2⟩
theorem eZ {w:Nat} {H:Hp} {r:Nat} {φ:Nat×Nat→Nat} {k:Nat×Nat} (h:nth H r=some (.dT (dct (keys w) φ))) (hk:k∈keys w):dR H (.ref r) (kp k)=some (.int (φ k:Nat)):=by
 show (nth H r).bind (fun ob=>xK ob (kp k))=_
 refine bnd h ?_
 show (bif (kp k).isKey then getT (dct (keys w) φ) (kp k) else Option.none)=_
 rw [sO,jx hk];rfl
section
variable {w:Nat} {ts:List Tm} {s e pl:Int} {gS gE:List Nat→Nat} {st:O} {X:Ext} {E:En} {g:Hp} {vs:List V} {ρ:Lo}
theorem gR {r:Nat} {o:O} (h:g[r]?=some o):nth (hj st X ts E g) (r + 15)=some o:=h
theorem kC {a b:Hp} {i:Nat} {o:O} (q:a <+: b) (h:a[i]?=some o):b[i]?=some o:=by
 refine aG q fun r e=>?_
 rw [← e,List.getElem?_append_left (List.getElem?_eq_some_iff.mp h).1];exact h
theorem Dc.up {g':Hp} (D:Dc w gS gE g ρ) (q:g <+: g'):Dc w gS gE g' ρ:=⟨D.s.imp fun r a=>⟨a.1,kC q a.2⟩,D.wh.imp fun r a=>⟨a.1,kC q a.2⟩,D.u.imp fun r a=>⟨a.1,kC q a.2⟩,D.p⟩
theorem tp2 {ρ:Lo} {H:Hp} {a b:Nat} {x y:Int} {n:Nat} (h1:Lk ρ a (.int x)) (h2:Lk ρ b (.int y)):Ev P (n+20) (.tup [.var a,.var b]) ρ H (.tup (intsV [x,y])) H:=e_tup (es_cons (e_var' h1) (es_cons (e_var' h2) es_nil)) rfl
theorem tP (K:Bk X ts) (hX:X.w=w) (T:Tf w ts s e pl gS gE) (N:Nm w vs s e ρ) (D:Dc w gS gE g ρ) (I:Tab w ts E) (hE:E.length≤9100)
  (k:∀ E g,Tab w ts E→E.length≤12000→Dc w gS gE g ρ→Fin 12 ρ (hj st X ts E g)):Fin 10 ρ (hj st X ts E g):=by
 have hw:=hwn K hX
 have F34:=T.fs (f:=[3,4]) (by decide) (by decide) T.app34
 refine aW (aR (st:=st) (g:=g) K hX F34 (dc (i:=0) rfl) (by decide) I (by lia)) fun E1 g1 C1 T1 l1=>?_
 refine aW (aR (st:=st) (g:=g++g1) K hX F34 (dc (i:=1) rfl) (by decide) T1 (by lia)) fun E2 g2 C2 T2 l2=>?_
 have D2:Dc w gS gE (g++g1++g2) ρ:=D.up (by rw [List.append_assoc];exact List.prefix_append _ _)
 refine hZ (k E2 (g++g1++g2) T2 (by lia) D2) fun ρ' H' Y=>?_
 refine ⟨ρ',H',fun n=>?_⟩
 refine ae D2.s fun rs s1 s2=>?_
 refine ae D2.wh fun rw_ w1 w2=>?_
 refine ae D2.u fun ru u1 u2=>?_
 have pl16:(bh w).length≤1000:=by refine Or.elim hw (fun e=>?_) fun e=>?_<;>rw [e]<;>decide
 have cw:Ev P (n+198) (.comp (.sub (.var 7308338789785500002) (.tup [.var 97,.var 98])) [.mk (.tup [97,98]) (.var 495840747888) []]) ρ (hj st X ts E2 (g++g1++g2)) (.lst (bx ((bh w).map (fW gS gE)))) (hj st X ts E2 (g++g1++g2)):=by
  rw [bx,List.map_map]
  refine cT (g:=kp) (d5 rfl (i_val rfl (e_var' D2.p) rfl)) (fun k hk=>⟨_,rfl,?_⟩) (by lia)
  exact e_sub (e_var' (lke_skip rfl (lke_skip rfl (lke_del rfl w1)))) (e_tup (es_cons (e_var' (lke_skip rfl lke_same)) (es_cons (e_var' lke_same) es_nil)) rfl) (eZ (gR w2) (dK hw (bS hk).1 (bS hk).2))
 have cu:Ev P (n+198) (.comp (.sub (.var 1969191266) (.tup [.sub (.var 1935636834) (.tup [.var 97,.var 98]),.var 98])) [.mk (.tup [97,98]) (.var 495840747888) []]) ρ (hj st X ts E2 (g++g1++g2)) (.lst (bx ((bh w).map (fW gS gE)))) (hj st X ts E2 (g++g1++g2)):=by
  rw [bx,List.map_map]
  refine cT (g:=kp) (d5 rfl (i_val rfl (e_var' D2.p) rfl)) (fun k hk=>⟨_,rfl,?_⟩) (by lia)
  have e1:Ev P (n+195) (.sub (.var 1935636834) (.tup [.var 97,.var 98])) (ak (ak (gu (bK :: aN [.mk (.tup [97,98]) (.var 495840747888) []]) ρ) 97 (.int (k.1:Int))) 98 (.int (k.2:Int))) (hj st X ts E2 (g++g1++g2)) (.int (fS gS k:Nat)) (hj st X ts E2 (g++g1++g2)) :=
   e_sub (e_var' (lke_skip rfl (lke_skip rfl (lke_del rfl s1)))) (e_tup (es_cons (e_var' (lke_skip rfl lke_same)) (es_cons (e_var' lke_same) es_nil)) rfl) (eZ (gR s2) (dK hw (bS hk).1 (bS hk).2))
  exact e_sub (e_var' (lke_skip rfl (lke_skip rfl (lke_del rfl u1)))) (e_tup (es_cons e1 (es_cons (e_var' lke_same) es_nil)) rfl) (eZ (k:=(fS gS k,k.2)) (gR u2) (dK hw (T.ss.lt _ (in2 (a:=0) (b:=0) (bS hk).1 (bS hk).2)) (bS hk).2))
 show Xs P (n+200) (law.body.drop 10) _ _ _ _ _
 apply x_ifs
 ·exact e_cmp (uR (e_meth (e_var' N.judge) rfl rfl rfl rfl (es_cons (e_var' N.x) (es_cons (tp2 N.x N.y) es_nil)) (C1 (n + 106))) (e_meth (e_var' N.judge) rfl rfl rfl rfl (es_cons (e_var' N.y) (es_cons (tp2 N.x N.y) es_nil)) (C2 (n + 106))) (tQ hw)) (e_var' D2.p) (qS hw)
 ·apply xi_f rfl
  apply x_ifs
  ·exact e_cmp cw cu (jm _)
  ·apply xi_f rfl
   exact Y n
end
theorem oi {H:Hp} {i j:Nat} {l m:List (V×V)} (h1:nth H i=some (.dT l)) (h2:nth H j=some (.dT m)) (e:eqD l m=some true):cop .ne H (.ref i) (.ref j)=some false:=by
 show ((nth H i).bind fun o=>o.dT?.bind fun l=>(nth H j).bind fun q=>q.dT?.bind fun m=>eqD l m).map (!·)=_
 rw [h1]
 show (((nth H j).bind fun q=>q.dT?.bind fun m=>eqD l m)).map (!·)=_
 rw [h2]
 show (eqD l m).map (!·)=_
 rw [e];rfl
section
variable {w:Nat} {ts:List Tm} {s e pl:Int} {gS gE:List Nat→Nat} {st:O} {X:Ext} {E:En} {g:Hp} {vs:List V} {ρ:Lo}
theorem xe {o:O}:(g++[o])[g.length]?=some o:=by rw [List.getElem?_append_right (Nat.le_refl _),Nat.sub_self];rfl
theorem Tf.self (T:Tf w ts s e pl gS gE):([s,4]:List Int).Nodup∧Fre ts [s,4] [s,4]∧Fs ts [s,4]:=by
 refine iY T.sx fun tm r a b c o=>?_
 have n4:s≠4:=fun q=>o (by rw [a.uniq (q▸T.x.2.1)])
 have n3:(3:Int)≠s:=fun q=>o (by rw [a.uniq (q▸T.x.1)])
 have nd:([s,4]:List Int).Nodup:=List.nodup_cons.mpr ⟨fun m=>n4 (List.mem_singleton.mp m),by decide⟩
 refine ⟨nd,fun t m=>?_,nd,Nat.le_of_ble_eq_true rfl,fun t m=>?_⟩
 ·refine Or.elim (List.mem_cons.mp m) (fun q=>?_) fun m=>?_
  ·rw [q];exact ⟨tm,a,.inr ⟨3,r,app 0,b,T.x.1,rfl,fun m=>(List.mem_cons.mp m).elim n3 fun m=>absurd (List.mem_singleton.mp m) (by decide)⟩⟩
  ·rw [List.mem_singleton.mp m];exact ⟨_,T.x.2.1,.inl rfl⟩
 ·refine Or.elim (List.mem_cons.mp m) (fun q=>?_) fun m=>?_
  ·rw [q];exact ⟨tm,a,c⟩
  ·rw [List.mem_singleton.mp m];exact ⟨_,T.x.2.1,rfl⟩
theorem Tf.app43 (T:Tf w ts s e pl gS gE):∀ t∈[(4:Int),3],∃ i,At ts t (app i):=fun t m=>T.app34 t (by refine Or.elim (List.mem_cons.mp m) (fun e=>?_) fun m=>?_;(rw [e];decide);(rw [List.mem_singleton.mp m];decide))
theorem tO (K:Bk X ts) (hX:X.w=w) (T:Tf w ts s e pl gS gE) (N:Nm w vs s e ρ) (D:Dc w gS gE g ρ) (I:Tab w ts E) (hE:E.length≤12000)
  (k:∀ E g,Tab w ts E→E.length≤19000→Dc w gS gE g ρ→Fin 13 ρ (hj st X ts E g)):Fin 12 ρ (hj st X ts E g):=by
 have hw:=hwn K hX
 have cs:=T.cols (f:=[4,3]) (by decide) T.app43 (dc (w:=w) (ts:=ts) (i:=1) rfl) (dc (i:=0) rfl) (fun j=>bc) fun j=>bc
 have nd2:((List.range (mw w [(4:Int),3])).map fun j=>(fr w 1 j,fr w 0 j)).Nodup:=by refine Or.elim hw (fun e=>?_) fun e=>?_<;>rw [e]<;>decide
 refine iY (fD (st:=st) (g:=g) (φ:=fW gS gE) K hX (T.fs (by decide) (by decide) T.app43) ((dc (i:=1) rfl).up (List.prefix_refl _) (by decide:1≤1 + 100 + 1500)) ((dc (i:=0) rfl).up (List.prefix_refl _) (by decide)) cs.2.2 (by decide) nd2 I (by lia)) fun E1 g1 C1 T1 l1 q1=>?_
 have sf:=T.self
 have cu:=T.se.col ts [s,4] 1 _ (List.prefix_refl _) (vA sf.1 sf.2.1 (dc (i:=0) rfl) (dc (i:=1) rfl) (fun j=>bc) fun j=>bc)
 refine iY (fD (st:=st) (g:=g1++[.dT (dct ((List.range (mw w [(4:Int),3])).map fun j=>(fr w 1 j,fr w 0 j)) (fW gS gE))]) (φ:=fS gE) K hX sf.2.2 ((dc (i:=0) rfl).up (List.prefix_refl _) (by decide:1≤1 + 1500)) ((dc (i:=1) rfl).up (List.prefix_refl _) (by decide)) cu (by decide) (gX hw) T1 (by lia)) fun E2 g2 C2 T2 l2 q2=>?_
 have up1:=q1.trans (List.prefix_append g1 [.dT (dct ((List.range (mw w [(4:Int),3])).map fun j=>(fr w 1 j,fr w 0 j)) (fW gS gE))])
 have up2:=up1.trans (q2.trans (List.prefix_append g2 [.dT (dct (keys w) (fS gE))]))
 refine hZ (k E2 _ T2 (by lia) (D.up up2)) fun ρ' H' Y=>?_
 refine ⟨ρ',H',fun n=>?_⟩
 refine ae ((D.up up1).wh) fun rw_ w1 w2=>?_
 refine ae ((D.up up2).u) fun ru u1 u2=>?_
 have e1:cop .ne (hj st X ts E1 (g1++[.dT (dct ((List.range (mw w [(4:Int),3])).map fun j=>(fr w 1 j,fr w 0 j)) (fW gS gE))])) (.ref (g1.length + 15)) (.ref (rw_ + 15))=some false :=
  oi (gR xe) (gR w2) (sV (by rw [List.length_map,List.length_map];rfl) fun k hk=>by
   refine ae (List.mem_map.mp hk) fun j _ hh1_=>?_
   subst hh1_
   exact dK hw bc bc)
 have e2:cop .ne (hj st X ts E2 (g2++[.dT (dct (keys w) (fS gE))])) (.ref (g2.length + 15)) (.ref (ru + 15))=some false:=oi (gR xe) (gR u2) (sV rfl fun k hk=>hk)
 show Xs P (n+200) (law.body.drop 12) _ _ _ _ _
 apply x_ifs
 ·exact e_or (e_cmp (e_call rfl (es_cons (e_var' N.judge) (es_cons (e_var' N.e) (es_cons (e_var' N.x) (es_cons (e_var' N.y) (es_cons (tp2 N.y N.x) es_nil))))) (C1 (n + 96))) (e_var' w1) e1) (oi_f rfl (e_or_1 (e_cmp (e_call rfl (es_cons (e_var' N.judge) (es_cons (e_var' N.e) (es_cons (e_var' N.s) (es_cons (e_var' N.y) (es_cons (tp2 N.s N.y) es_nil))))) (C2 (n + 96))) (e_var' u1) e2)))
 ·apply xi_f rfl
  exact Y n
end
section
variable {w:Nat} {ts:List Tm} {s e pl:Int} {gS gE:List Nat→Nat} {X:Ext} {E:En} {g:Hp} {vs:List V} {ρ:Lo}
theorem nY {ts:List Tm} {t:Int} {v:Nat} (a:At ts t ⟨470121608802,[],3,[(v:Int)]⟩):Col w ts [] 1 t (some fun _=>v):=.inr ⟨List.not_mem_nil,_,a,.inl ⟨rfl,by simp [ju]⟩⟩
theorem sL {st:O} {rest:Hp} {ts:List Tm} (K:Bk X ts) (hX:X.w=w) (hl:ts.length < 1000) {v:Nat} (hv:v < 2 ^ w):∃ i ts',(∀ n,Ca P (n+24) bN [.ref 1,.int v,.int w] (hp st X ts rest) (.int i) (hp st X ts' rest))∧New X ts ts' i ⟨470121608802,[],3,[(v:Int)]⟩:=by
 refine aX (uq (st:=st) (rest:=rest) K hl (v:=v)) fun i ts' C N=>?_
 rw [hX,Int.toNat_natCast,kD,Nat.mod_eq_of_lt hv] at N
 rw [hX] at C
 exact ⟨i,ts',C,N⟩
theorem tN {ns:List Int} {p:Nat} (hn:ns.length≤50) (hp':p≤100) (K:Bk X ts) (hX:X.w=w) (hts:ts.length≤50) (T:Tf w ts s e pl gS gE) (Sh:Shp w 48 (.tup vs) 13 1326 gE) (N:Nm w vs s e ρ) (D:Dc w gS gE g ρ) (I:Tab w ts E) (hE:E.length≤19000)
  (k:∀ ρ X ts E g,Bk X ts→X.w=w→ts.length≤70→Tf w ts s e pl gS gE→Nm w vs s e ρ→Tab w ts E→E.length≤21000→Fin 16 ρ (hj (reel ns (p + 1)) X ts E g)):Fin 13 ρ (hj (reel ns p) X ts E g):=by
 have hw:=hwn K hX
 have pl16:0 < (bh w).length∧(bh w).length≤1000:=by refine Or.elim hw (fun e=>?_) fun e=>?_<;>rw [e]<;>decide
 refine ae (cy (R:=(hj (reel ns p) X ts E g).tail) hn (p:=p) (by lia) (k:=(bh w).length) pl16.1) fun c hc C=>?_
 have hkl:=bS (w:=w) (List.getElem_mem hc)
 have hkm:=dK hw hkl.1 hkl.2
 generalize hk:(bh w)[c]=kk at hkl hkm
 have gb:gS [kk.1,kk.2] < 2 ^ w:=T.ss.lt _ (in2 (a:=0) (b:=0) hkl.1 hkl.2)
 refine ae D.s fun rs s1 s2=>?_
 refine ae D.wh fun rw_ w1 w2=>?_
 refine aX (sL (st:=reel ns (p + 1)) (rest:=jd :: .dT (bH E) :: g) K hX (by lia) gb) fun i1 ts1 C1 N1=>?_
 have m1:=N1.len
 refine aX (sL (st:=reel ns (p + 1)) (rest:=jd :: .dT (bH E) :: g) N1.bk hX (by lia) hkl.2) fun i2 ts2 C2 N2=>?_
 have m2:=N2.len
 have a1:=N1.at_.up N2.pre
 refine aT (Sh (reel ns (p + 1)) (jd :: .dT (bH E) :: g) X ts2 i1 i2 N2.bk hX (by lia) (.leaf (i:=0) rfl a1 rfl) (.leaf (i:=1) rfl N2.at_ rfl)) fun t X3 ts3 M G S=>?_
 have m3:=G.len
 have P3:=N1.pre.trans (N2.pre.trans G.pre)
 have ct:=S.col ts3 [] 1 _ (List.prefix_refl _) (vA (c1:=fun _=>gS [kk.1,kk.2]) (c2:=fun _=>kk.2) List.nodup_nil (fun _ m=>by cases m) (nY (a1.up G.pre)) (nY (N2.at_.up G.pre)) (fun _=>gb) fun _=>hkl.2)
 refine aW (aR (st:=reel ns (p + 1)) (g:=g) G.bk (G.w.trans hX) (f:=[]) ⟨List.nodup_nil,by decide,fun _ m=>by cases m⟩ ct (by decide) (I.up P3) (by lia)) fun E4 g4 C4 T4 l4=>?_
 have N4:=((N.set (i:=97) (by decide) (.int (kk.1:Int))).set (i:=98) (by decide) (.int (kk.2:Int)))
 have N5:=N4.set (i:=32495402090329454) (by decide) (.tup [.int i1,.int i2])
 refine hZ (k _ X3 ts3 E4 (g++g4) G.bk (G.w.trans hX) (by lia) (T.up P3) N5 T4 (by lia)) fun ρ' H' Y=>?_
 refine ⟨ρ',H',fun n=>?_⟩
 have ln:aP .len [.lst ((bh w).map kp)] (hj (reel ns p) X ts E g)=some (.int (bh w).length,hj (reel ns p) X ts E g):=d4 (by rw [List.length_map]) (ah (by lia))
 have sp:dR (hj (reel ns (p + 1)) X ts E g) (.lst ((bh w).map kp)) (.int (c:Int))=some (kp kk):=dW (Int.natCast_nonneg c) (by rw [Int.toNat_natCast,List.getElem?_map,List.getElem?_eq_getElem hc,hk];rfl) (by lia)
 have lka:∀ {r:Nat} {i:Nat},Nat.beq i 97=false→Nat.beq i 98=false→Lk ρ i (.ref r)→Lk (ak (ak ρ 97 (.int (kk.1:Int))) 98 (.int (kk.2:Int))) i (.ref r):=fun h1 h2 h=>lke_skip h2 (lke_skip h1 h)
 have ab:∀ {n:Nat} {H:Hp},Ev P (n+10) (.tup [.var 97,.var 98]) (ak (ak ρ 97 (.int (kk.1:Int))) 98 (.int (kk.2:Int))) H (kp kk) H:=e_tup (es_cons (e_var' (lke_skip rfl lke_same)) (es_cons (e_var' lke_same) es_nil)) rfl
 have ab2:∀ {n:Nat} {H:Hp},Ev P (n+10) (.tup [.var 97,.var 98]) (ak (ak (ak ρ 97 (.int (kk.1:Int))) 98 (.int (kk.2:Int))) 32495402090329454 (.tup [.int i1,.int i2])) H (kp kk) H:=e_tup (es_cons (e_var' (lke_skip rfl (lke_skip rfl lke_same))) (es_cons (e_var' (lke_skip rfl lke_same)) es_nil)) rfl
 have ne:cop .ne (hj (reel ns (p + 1)) X3 ts3 E4 (g++g4)) (aK (mw w []) (some fun j=>gE [gS [kk.1,kk.2],kk.2])) (.lst [.int (fW gS gE kk:Nat)])=some false:=jm [fW gS gE kk]
 show Xs P (n+200) (law.body.drop 13) _ _ _ _ _
 apply x_asgt
 ·exact e_sub (e_var' D.p) (e_call rfl (es_cons (e_var' N.reel) (es_cons (e_bi (es_cons (e_var' D.p) es_nil) ln) es_nil)) (C (n + 177))) sp
 ·rfl
 ·apply x_asgv
  ·exact e_tup (es_cons (e_meth (e_var' N4.bank) rfl rfl rfl rfl (es_cons (e_sub (e_var' (lka rfl rfl s1)) ab (eZ (gR s2) hkm)) (es_cons (e_var' N4.wide) es_nil)) (C1 (n + 173))) (es_cons (e_meth (e_var' N4.bank) rfl rfl rfl rfl (es_cons (e_var' lke_same) (es_cons (e_var' N4.wide) es_nil)) (C2 (n + 173))) es_nil)) rfl
  ·apply x_ifs
   ·exact e_cmp (e_meth (e_var' N5.judge) rfl rfl rfl rfl (es_cons (e_call rfl (es_cons (e_var' N5.bank) (es_cons (e_var' N5.wide) (es_cons (e_var' N5.shape) (es_cons (e_var' lke_same) es_nil)))) (M (n + 148))) (es_cons (e_tup es_nil rfl) es_nil)) (C4 (n + 107))) (e_list (es_cons (e_sub (e_var' (lke_skip rfl (lka rfl rfl w1))) ab2 (eZ (gR (kC (List.prefix_append g g4) w2)) hkm)) es_nil) rfl) ne
   ·apply xi_f rfl
    exact Y n
end
section
variable {w:Nat} {ts:List Tm} {s e pl mx:Int} {gS gE:List Nat→Nat} {X:Ext} {E:En} {g:Hp} {vs:List V} {ρ:Lo} {st:O}
theorem jk {f:List Int} {t:Int} {tm:Tm} (F:∀ t∈f,∃ i,At ts t (app i)) (a:At ts t tm) (ho:tm.op≠7368801):t∉f:=fun m=>by
 refine aG (F t m) fun i b=>?_
 exact ho (by rw [a.uniq b])
theorem kZ {f:List Int} {t i:Int} (a:At ts t (app i)) (h:t∉f):Col w ts f 1 t none:=.inr ⟨h,_,a,.inl ⟨rfl,rfl⟩⟩
theorem Tf.e6 (T:Tf w ts s e pl gS gE):e≠6:=fun q=>by
 have h6:=T.x.2.2.2
 rw [← q] at h6
 rcases T.se.nl with m | ⟨tm,a,o⟩
 ·refine Or.elim (List.mem_cons.mp m) (fun m=>?_) fun m=>?_
  ·refine iY T.sx fun tm r a _ _ o=>?_
   rw [← m] at a
   exact o (by rw [a.uniq h6])
  ·rw [List.mem_singleton.mp m] at q;exact absurd q (by decide)
 ·exact o (by rw [a.uniq h6])
theorem gk (T:Tf w ts s e pl gS gE) (a:At ts mx ⟨431180838498,[e,6],3,[0]⟩):Col w ts [3,4] 1602 mx none:=by
 have cs:=T.cols (f:=[3,4]) (by decide) T.app34 (dc (w:=w) (ts:=ts) (i:=0) rfl) (dc (i:=1) rfl) (fun j=>bc) fun j=>bc
 refine .inr ⟨jk T.app34 a (show 431180838498≠7368801 by decide),_,a,.inr (.inl ⟨fun b=>if b=6 then none else some fun j=>gE [gS [fr w 0 j,fr w 1 j],fr w 1 j],⟨fun b m=>?_,⟨6,.tail _ (.head _),rfl⟩,Nat.le_of_ble_eq_true rfl⟩,rfl⟩)⟩
 refine Or.elim (List.mem_cons.mp m) (fun q=>?_) fun m=>?_
 ·rw [q];dsimp only;rw [if_neg T.e6];exact cs.2.2
 ·rw [List.mem_singleton.mp m];exact (kZ T.x.2.2.2 (by decide)).up (List.prefix_refl _) (by decide)
theorem vV (hw:w=1∨w=2) (T:Tf w ts s e pl gS gE):Col w ts [4] 101 s none:=by
 have c3:Col w ts [4] 1 3 none:=kZ T.x.1 (by decide)
 refine ae (T.ss.any ts [4] 1 (List.prefix_refl _) (ed fun t m=>T.app34 t (by rw [List.mem_singleton.mp m];decide)) (fun l m=>by
  rcases List.mem_cons.mp m with q | m
  ·rw [q];exact ⟨none,c3,fun g e=>by cases e⟩
  ·rw [List.mem_singleton.mp m];exact ⟨_,dc (i:=0) rfl,fun g e j=>by cases e;exact bc⟩)) fun c h _=>?_
 refine iY T.sx fun tm r a b _ o=>?_
 suffices q:c=none by rw [← q];exact h
 rcases (show (∃ i,([4]:List Int)[i]?=some s∧c=some (fr w i))∨_ from h) with ⟨i,h1,_⟩ | ⟨_,tm',a',h⟩
 ·have m:=List.mem_of_getElem? h1
  rw [List.mem_singleton.mp m] at a
  exact (o (by rw [a.uniq T.x.2.1])).elim
 ·cases a.uniq a'
  rcases h with h | ⟨cs,_,e⟩ | ⟨gs,σ,N,_⟩
  ·rw [b] at h;cases h.1
  ·exact e
  ·refine aG (N.a.each 3 (by rw [b];exact .head _)) fun g k=>?_
   have:=Col.det hw (by decide) c3 k
   cases this
theorem tM (K:Bk X ts) (hX:X.w=w) (hts:ts.length≤70) (T:Tf w ts s e pl gS gE) (N:Nm w vs s e ρ) (I:Tab w ts E) (hE:E.length≤21000)
  (k:∀ ρ ts E g mx,Bk X ts→ts.length≤72→Tf w ts s e pl gS gE→Nm w vs s e ρ→Tab w ts E→E.length≤24100→At ts mx ⟨431180838498,[e,6],3,[0]⟩→Lk ρ 431199119725 (.int mx)→Fin 18 ρ (hj st X ts E g)):Fin 16 ρ (hj st X ts E g):=by
 have hw:=hwn K hX
 refine ae T.se.at_ fun tme e1 e2=>?_
 refine aX (rd (st:=st) (rest:=jd :: .dT (bH E) :: g) K (by lia) (jR (show 431180838498∈iZ by decide)) e1 e2 T.x.2.2.2 rfl) fun mx ts1 C M=>?_
 have m1:=M.len
 have T1:=T.up M.pre
 refine aW (aR (st:=st) (g:=g) M.bk hX (T1.fs (f:=[3,4]) (by decide) (by decide) T1.app34) (gk T1 M.at_) (by decide) (I.up M.pre) (by lia)) fun E1 g1 C1 I1 l1=>?_
 refine aW (aR (st:=st) (g:=g++g1) M.bk hX (T1.fs (f:=[4]) (by decide) (by decide) fun t m=>T1.app34 t (by rw [List.mem_singleton.mp m];decide)) (vV hw T1) (by decide) I1 (by lia)) fun E2 g2 C2 I2 l2=>?_
 refine aX (uv (st:=st) (rest:=jd :: .dT (bH E2) :: (g++g1++g2)) M.bk (by lia) (p:=0) M.at_ rfl (by decide) (by lia)) fun b ts2 C3 B=>?_
 have m2:=B.len
 have T2:=T1.up B.pre
 have cb:Col w ts2 [3,4] 1603 b none:=.inr ⟨jk T2.app34 B.at_ (show 7629154≠7368801 by decide),_,B.at_,.inr (.inl ⟨fun _=>none,⟨fun x m=>by rw [List.mem_singleton.mp m];exact gk T2 (M.at_.up B.pre),⟨mx,.head _,rfl⟩,Nat.le_of_ble_eq_true rfl⟩,rfl⟩)⟩
 refine aW (aR (st:=st) (g:=g++g1++g2) B.bk hX (T2.fs (f:=[3,4]) (by decide) (by decide) T2.app34) cb (by decide) (I2.up B.pre) (by lia)) fun E3 g3 C4 I3 l3=>?_
 have N1:=N.set (i:=431199119725) (by decide) (.int mx)
 refine hZ (k _ ts2 E3 (g++g1++g2++g3) mx B.bk (by lia) T2 N1 I3 (by lia) (M.at_.up B.pre) lke_same) fun ρ' H' Y=>?_
 refine ⟨ρ',H',fun n=>?_⟩
 show Xs P (n+200) (law.body.drop 16) _ _ _ _ _
 apply x_asgv
 ·exact e_meth (e_var' N.bank) rfl rfl rfl rfl (es_cons e_str (es_cons (e_var' N.e) (es_cons (e_var' N.z) es_nil))) (C (n + 174))
 ·apply x_ifs
  ·exact e_or (e_cmp (e_meth (e_var' N1.judge) rfl rfl rfl rfl (es_cons (e_var' lke_same) (es_cons (tp2 N1.x N1.y) es_nil)) (C1 (n + 106))) e_none rfl) (oi_f rfl (e_or (e_cmp (e_meth (e_var' N1.judge) rfl rfl rfl rfl (es_cons (e_var' N1.s) (es_cons (e_tup (es_cons (e_var' N1.y) es_nil) rfl) es_nil)) (C2 (n + 106))) e_none rfl) (oi_f rfl (e_or_1 (e_cmp (e_meth (e_var' N1.judge) rfl rfl rfl rfl (es_cons (e_meth (e_var' N1.bank) rfl rfl rfl rfl (es_cons e_num (es_cons (e_var' lke_same) es_nil)) (C3 (n + 171))) (es_cons (tp2 N1.x N1.y) es_nil)) (C4 (n + 106))) e_none rfl)))))
  ·apply xi_f rfl
   exact Y n
end
section
variable {w:Nat} {ts:List Tm} {s e pl mx:Int} {gS gE:List Nat→Nat} {X:Ext} {E:En} {g:Hp} {vs:List V} {ρ:Lo} {st:O}
theorem Tf.e34 (T:Tf w ts s e pl gS gE):Col w ts [3,4] 1601 e (some fun j=>fW gS gE (fr w 0 j,fr w 1 j)) :=
 (T.cols (f:=[3,4]) (by decide) T.app34 (dc (w:=w) (ts:=ts) (i:=0) rfl) (dc (i:=1) rfl) (fun j=>bc) fun j=>bc).2.2
theorem lP (hw:w=1∨w=2) (T:Tf w ts s e pl gS gE) (a:At ts mx ⟨431180838498,[e,6],3,[0]⟩):(∀ t∈[(3:Int),4,6],∃ i,At ts t (app i))∧∃ c,Col w ts [3,4,6] 1602 mx (some c):=by
 have F:∀ t∈[(3:Int),4,6],∃ i,At ts t (app i):=fun t m=>by
  refine Or.elim (List.mem_cons.mp m) (fun q=>?_) fun m=>?_
  ·rw [q];exact ⟨_,T.x.1⟩
  refine Or.elim (List.mem_cons.mp m) (fun q=>?_) fun m=>?_
  ·rw [q];exact ⟨_,T.x.2.1⟩
  ·rw [List.mem_singleton.mp m];exact ⟨_,T.x.2.2.2⟩
 have cs:=T.cols (f:=[3,4,6]) (by decide) F (dc (w:=w) (ts:=ts) (i:=0) rfl) (dc (i:=1) rfl) (fun j=>bc) fun j=>bc
 refine ae T.se.at_ fun tm e1 e2=>?_
 refine ⟨F,_,.inr ⟨jk F a (show 431180838498≠7368801 by decide),_,a,.inr (.inr ⟨[_,fr w 2],⟨431180838498,[0],3,[3,3]⟩,⟨⟨_,_,cs.2.2,rfl,_,_,(dc (i:=2) rfl).up (List.prefix_refl _) (by decide),rfl,rfl⟩,ip (by decide),⟨rfl,rfl,rfl⟩,⟨tm,[3],e1,by rw [e2],_,[],T.x.2.2.2,rfl,rfl⟩,fun j=>dx (T.se.lt _ (in2 (a:=0) (b:=0) (cs.2.1 j) bc)) (dx bc iu)⟩,rfl⟩)⟩⟩
theorem tK (K:Bk X ts) (hX:X.w=w) (T:Tf w ts s e pl gS gE) (N:Nm w vs s e ρ) (I:Tab w ts E) (hE:E.length≤24100) (a:At ts mx ⟨431180838498,[e,6],3,[0]⟩) (hm:Lk ρ 431199119725 (.int mx))
  (k:∀ E g,Tab w ts E→E.length≤27200→Fin 19 ρ (hj st X ts E g)):Fin 18 ρ (hj st X ts E g):=by
 have hw:=hwn K hX
 have F34:=T.fs (f:=[3,4]) (by decide) (by decide) T.app34
 have two:∀ E g,Tab w ts E→E.length≤25110→∃ E' g',(∀ n,Ev P (n+190) (.cmp (.meth (.var 435526333802) 435610083700 [.var 111542069915237,.tup [.var 120,.var 121]]) [.ne] [.meth (.var 435526333802) 435610083700 [.var 111542069915237,.tup [.var 120,.var 121]]]) ρ (hj st X ts E g) (.bool false) (hj st X ts E' g'))∧Tab w ts E'∧E'.length≤27200:=fun E g I hE=>by
  refine aW (aR (st:=st) (g:=g) K hX F34 T.e34 (by decide) I (by lia)) fun E1 g1 C1 I1 l1=>?_
  refine aW (aR (st:=st) (g:=g++g1) K hX F34 T.e34 (by decide) I1 (by lia)) fun E2 g2 C2 I2 l2=>?_
  exact ⟨E2,_,fun n=>e_cmp (e_meth (e_var' N.judge) rfl rfl rfl rfl (es_cons (e_var' N.e) (es_cons (tp2 N.x N.y) es_nil)) (C1 (n + 98))) (e_meth (e_var' N.judge) rfl rfl rfl rfl (es_cons (e_var' N.e) (es_cons (tp2 N.x N.y) es_nil)) (C2 (n + 98))) (sE _ _),I2,by lia⟩
 refine Or.elim hw (fun q=>?_) fun q=>?_
 ·subst q
  refine aw (lP (.inl rfl) T a) fun F hh1_=>?_
  refine aG hh1_ fun c cm=>?_
  refine aW (aR (st:=st) (g:=g) K hX (T.fs (f:=[3,4,6]) (by decide) (by decide) F) cm (by decide) I (by lia)) fun E1 g1 C1 I1 l1=>?_
  refine aW (two E1 (g++g1) I1 (by lia)) fun E2 g2 C2 I2 l2=>?_
  refine hZ (k E2 g2 I2 l2) fun ρ' H' Y=>?_
  refine ⟨ρ',H',fun n=>?_⟩
  show Xs P (n+200) (law.body.drop 18) _ _ _ _ _
  apply x_ifs
  ·exact e_or (pn (e_cmp (e_var' N.wide) e_num cop_eq_int) rfl (jC (e_cmp (e_meth (e_var' N.judge) rfl rfl rfl rfl (es_cons (e_var' hm) (es_cons (e_tup (es_cons (e_var' N.x) (es_cons (e_var' N.y) (es_cons (e_var' N.z) es_nil))) rfl) es_nil)) (C1 (n + 105))) e_none rfl))) (oi_f rfl (e_or_1 (C2 (n + 8))))
  ·apply xi_f rfl
   exact Y n
 ·subst q
  refine aW (two E g I (by lia)) fun E2 g2 C2 I2 l2=>?_
  refine hZ (k E2 g2 I2 l2) fun ρ' H' Y=>?_
  refine ⟨ρ',H',fun n=>?_⟩
  show Xs P (n+200) (law.body.drop 18) _ _ _ _ _
  apply x_ifs
  ·exact e_or (px (e_cmp (e_var' N.wide) e_num cop_eq_int) rfl) (oi_f rfl (e_or_1 (C2 (n + 8))))
  ·apply xi_f rfl
   exact Y n
end
noncomputable def yt (w:Nat) (ts:List Tm) (lv:List Int) (v:V):Prop:=∃ l r s s' k k' g g',v=.tup [.int l,.int r]∧Sem w ts lv l s k g∧Sem w ts lv r s' k' g'∧k≤5000∧k'≤5000∧∀ v,InR w lv v→g v=g' v
class inductive Prs (w:Nat) (ρ:Lo) (lv:List Int) (t0:List Tm) (q:Nat):List E→Nat→Prop
 | nil:Prs w ρ lv t0 q [] 0
 | cons {a b:E} {s s':Int} {m m' k k' M:Nat} {ga gb:List Nat→Nat} {es:List E}:Bj w ρ lv t0 q a s m k ga→Bj w ρ lv t0 q b s' m' k' gb→k≤5000→k'≤5000→(∀ v,InR w lv v→ga v=gb v)→Prs w ρ lv t0 q es M→Prs w ρ lv t0 q (.tup [a,b] :: es) (m + m' + M)
theorem Prs.es {w:Nat} {ρ:Lo} {lv:List Int} {t0:List Tm} {q:Nat} {es:List E} {M:Nat} (R:Prs w ρ lv t0 q es M):∀ (st:O) (rest:Hp) (X:Ext) (ts:List Tm),t0 <+: ts→Bk X ts→X.w=w→ts.length + M < 1000 →
  ∃ vals X' ts',(∀ n,Es P (n+(q+1)) es ρ (hp st X ts rest) vals (hp st X' ts' rest))∧Gr X X' ts ts' M∧vals.length=es.length∧∀ v∈vals,yt w ts' lv v:=by
 induction R with
 | nil=>exact fun st rest X ts p K hw hl=>⟨[],X,ts,fun n=>es_nil,⟨List.prefix_refl _,K,rfl,Nat.le_refl _⟩,rfl,fun _ m=>by cases m⟩
 | @cons a b s s' m m' k k' M ga gb es A B h1 h2 h3 R ih =>
  intro st rest X ts p K hw hl
  refine aT (A st rest X ts p K hw (by lia)) fun l X1 ts1 E1 G1 S1=>?_
  refine aT (B st rest X1 ts1 (p.trans G1.pre) G1.bk (G1.w.trans hw) (by have:=G1.len;lia)) fun r X2 ts2 E2 G2 S2=>?_
  have G12:=G1.trans G2
  refine jL (ih st rest X2 ts2 (p.trans G12.pre) G2.bk (G12.w.trans hw) (by have:=G12.len;lia)) fun vals X3 ts3 E3 G3 hl3 L=>?_
  refine ⟨.tup [.int l,.int r] :: vals,X3,ts3,fun n=>es_cons (e_tup (es_cons (E1 n) (es_cons (E2 n) es_nil)) rfl) (E3 n),G12.trans G3,congrArg (· + 1) hl3,fun v m=>?_⟩
  refine Or.elim (List.mem_cons.mp m) (fun e=>?_) fun m=>?_
  ·exact ⟨l,r,s,s',k,k',ga,gb,e,S1.up (G2.pre.trans G3.pre),S2.up G3.pre,h1,h2,h3⟩
  ·exact L v m
section
variable {w:Nat} {ts:List Tm} {s e pl:Int} {gS gE:List Nat→Nat} {X:Ext} {vs:List V} {st:O}
theorem Tf.ctx3 (T:Tf w ts s e pl gS gE):Ctx w ts [s,e,4] [3,4] 1601 (fun j=>[gS [fr w 0 j,fr w 1 j],fW gS gE (fr w 0 j,fr w 1 j),fr w 1 j]):=by
 have cs:=T.cols (f:=[3,4]) (by decide) T.app34 (dc (w:=w) (ts:=ts) (i:=0) rfl) (dc (i:=1) rfl) (fun j=>bc) fun j=>bc
 refine ⟨by decide,ed T.app34,fun i l e=>?_,fun j=>⟨rfl,fun x m=>?_⟩⟩
 ·cases i with
  | zero=>cases e;exact cs.1.up (List.prefix_refl _) (by decide)
  | succ i=>cases i with
   | zero=>cases e;exact cs.2.2
   | succ i=>cases i with
    | zero=>cases e;exact (dc (i:=1) rfl).up (List.prefix_refl _) (by decide)
    | succ i=>cases e
 ·refine Or.elim (List.mem_cons.mp m) (fun q=>?_) fun m=>?_
  ·rw [q];exact cs.2.1 j
  refine Or.elim (List.mem_cons.mp m) (fun q=>?_) fun m=>?_
  ·rw [q];exact T.se.lt _ (in2 (a:=0) (b:=0) (cs.2.1 j) bc)
  ·rw [List.mem_singleton.mp m];exact bc
theorem iC (K:Bk X ts) (hX:X.w=w) (T:Tf w ts s e pl gS gE):∀ (vals:List V) {E:En} {g:Hp} {ρ:Lo},(∀ v∈vals,yt w ts [s,e,4] v)→Nm w vs s e ρ→Tab w ts E→E.length + 2008 * vals.length≤96000 →
  ∃ E' g' ρ',(∀ n,fT (sem P (n+199)) (.tup [1952867692,499967814002]) [.ifs (.cmp (.meth (.var 435526333802) 435610083700 [.var 1952867692,.tup [.var 120,.var 121]]) [.ne] [.meth (.var 435526333802) 435610083700 [.var 499967814002,.tup [.var 120,.var 121]]]) [.ret (.bool false)] []] vals ρ (hj st X ts E g)=some (.nxt,ρ',hj st X ts E' g'))∧Nm w vs s e ρ'∧Tab w ts E'∧E'.length≤E.length + 2008 * vals.length
 | [],E,g,ρ,h,N,I,hE=>⟨E,g,ρ,fun n=>rfl,N,I,Nat.le_refl _⟩
 | v :: vals,E,g,ρ,h,N,I,hE=>by
  rw [List.length_cons] at hE
  obtain ⟨l,r,sl,sr,k,k',gl,gr,rfl,S1,S2,h1,h2,h3⟩:=h v (.head _)
  have c1:=S1.col ts [3,4] 1601 _ (List.prefix_refl _) T.ctx3
  have c2:=S2.col ts [3,4] 1601 _ (List.prefix_refl _) T.ctx3
  have eq:(fun j=>gr [gS [fr w 0 j,fr w 1 j],fW gS gE (fr w 0 j,fr w 1 j),fr w 1 j])=fun j=>gl [gS [fr w 0 j,fr w 1 j],fW gS gE (fr w 0 j,fr w 1 j),fr w 1 j]:=funext fun j=>(h3 _ (T.ctx3.r j)).symm
  rw [eq] at c2
  have F34:=T.fs (f:=[3,4]) (by decide) (by decide) T.app34
  refine aW (aR (st:=st) (g:=g) K hX F34 c1 (by lia) I (by lia)) fun E1 g1 C1 I1 l1=>?_
  refine aW (aR (st:=st) (g:=g++g1) K hX F34 c2 (by lia) I1 (by lia)) fun E2 g2 C2 I2 l2=>?_
  have N2:=(N.set (i:=1952867692) (by decide) (.int l)).set (i:=499967814002) (by decide) (.int r)
  refine jL (iC K hX T vals (E:=E2) (g:=g++g1++g2) (fun v m=>h v (.tail _ m)) N2 I2 (by lia)) fun E3 g3 ρ3 L N3 I3 l3=>?_
  refine ⟨E3,g3,ρ3,fun n=>?_,N3,I3,by rw [List.length_cons];lia⟩
  refine c9 (ρ1:=ak (ak ρ 1952867692 (.int l)) 499967814002 (.int r)) rfl (Xs.h (ρ':=ak (ak ρ 1952867692 (.int l)) 499967814002 (.int r)) (H':=hj st X ts E2 (g++g1++g2)) ?_) (L n)
  apply x_ifs
  ·exact e_cmp (e_meth (e_var' N2.judge) rfl rfl rfl rfl (es_cons (e_var' (lke_skip rfl lke_same)) (es_cons (tp2 N2.x N2.y) es_nil)) (C1 (n + 106))) (e_meth (e_var' N2.judge) rfl rfl rfl rfl (es_cons (e_var' lke_same) (es_cons (tp2 N2.x N2.y) es_nil)) (C2 (n + 106))) (sE _ _)
  ·exact xi_f rfl x_nil
end
theorem yN {f g:Nat→List Nat→Nat} {w:Nat} (hw:w=1∨w=2) {a b c:Int} (h:∀ w∈[1,2],((List.range (2 ^ w)).all fun x=>(List.range (2 ^ w)).all fun y=>(List.range (2 ^ w)).all fun z=>Nat.beq (f w [x,y,z]) (g w [x,y,z]))=true):∀ v,InR w [a,b,c] v→f w v=g w v:=fun v r=>by
 obtain ⟨x,y,z,rfl⟩:∃ x y z,v=[x,y,z]:=by
  have:=r.1
  cases v with
  | nil=>cases this
  | cons x v=>cases v with
   | nil=>cases this
   | cons y v=>cases v with
    | nil=>cases this
    | cons z v=>cases v with
     | nil=>exact ⟨x,y,z,rfl⟩
     | cons _ _=>cases this
 have h:=h w (by refine Or.elim hw (fun q=>?_) fun q=>?_<;>rw [q]<;>decide)
 have h:=List.all_eq_true.mp h x (List.mem_range.mpr (r.2 x (.head _)))
 have h:=List.all_eq_true.mp h y (List.mem_range.mpr (r.2 y (.tail _ (.head _))))
 exact Nat.eq_of_beq_eq_true (List.all_eq_true.mp h z (List.mem_range.mpr (r.2 z (.tail _ (.tail _ (.head _))))))
noncomputable def xY:List E:=match (dj.body.drop 4).headD .cont with
 | .ret (.list _ l)=>l
 | _=>[]
section
variable {w:Nat} {ρ:Lo} {t0:List Tm} {a b c nou uni hig add pro par s0 s1:Int}
theorem ub (hw:w=1∨w=2) (hb:Lk ρ 1802396002 (.ref 1)) (hd:Lk ρ 1701079415 (.int (w:Int)))
  (A:∀ q,Bj w ρ [a,b,c] t0 (q+6) (.var 97) 3 0 10 (fun v=>v.getD 0 0)) (B:∀ q,Bj w ρ [a,b,c] t0 (q+6) (.var 98) 3 0 10 (fun v=>v.getD 1 0)) (Cc:∀ q,Bj w ρ [a,b,c] t0 (q+6) (.var 99) 3 0 10 (fun v=>v.getD 2 0))
  (N:∀ q,Bj w ρ [a,b,c] t0 (q+6) (.var 127991761170286) 3 0 10 (fun _=>0)) (U:∀ q,Bj w ρ [a,b,c] t0 (q+6) (.var 1953066613) 3 0 10 (fun _=>1))
  (Ad:∀ q,Bj w ρ [a,b,c] t0 (q+6) (.var 431197807713) 3 0 10 (fun v=>rk w ⟨431180838498,[0],3,[3,3]⟩ [v.getD 0 0,v.getD 1 0])) (Pr:∀ q,Bj w ρ [a,b,c] t0 (q+6) (.var 32760453145784944) 3 0 10 (fun v=>rk w ⟨465826575970,[0],3,[3,3]⟩ [v.getD 0 0,v.getD 1 0]))
  (S0:∀ q,Bj w ρ [a,b,c] t0 (q+6) (.sub (.var 495622318451) (.num 0)) 3 0 10 (fun v=>rk w ⟨491496437346,[0],3,[3,3]⟩ [v.getD 0 0,2 ^ (w - 1)])) (S1:∀ q,Bj w ρ [a,b,c] t0 (q+6) (.sub (.var 495622318451) (.num 1)) 3 0 10 (fun v=>rk w ⟨491496437346,[0],3,[3,3]⟩ [v.getD 1 0,2 ^ (w - 1)]))
  (Pa:∀ q,Bj w ρ [a,b,c] t0 (q+6) (.var 110386908127600) 3 0 10 (fun v=>rk w ⟨431180838498,[0],3,[3,3]⟩ [rk w ⟨465826575970,[0],3,[3,3]⟩ [rk w ⟨130195029063266,[0],3,[3,3]⟩ [v.getD 0 0,v.getD 1 0],v.getD 1 0],rk w ⟨120282479425122,[0],3,[3,3]⟩ [v.getD 0 0,v.getD 1 0]])) :
  ∃ M,M≤200∧Prs w ρ [a,b,c] t0 60 xY M:=by
 apply Exists.intro
 apply And.intro
 rotate_left
 ·show Prs w ρ [a,b,c] t0 60 (_ :: _) _
  iterate 18
   apply Prs.cons
   ·repeat' (first | exact A _ | exact B _ | exact Cc _ | exact N _ | exact U _ | exact Ad _ | exact Pr _ | exact S0 _ | exact S1 _ | exact Pa _ | exact hb | exact hd | exact Nat.le_refl _ | exact Nat.zero_le _ | exact fun n H=>e_str | exact fun n H=>e_num | exact fun n H=>e_var' hd | exact fun n H=>e_bin (e_var' hd) e_num rfl | exact fun n H=>e_bin (e_bin e_num (e_var' hd) (mr (by decide))) e_num rfl | (apply Bj.two hb (fun n H=>e_str);focus decide) | (apply Bj.ask hb (fun n H=>e_str);focus decide) | (apply Bj.one hb (fun n H=>e_str);focus decide) | (apply Bj.nask hb (fun n H=>e_str);focus decide) | apply Bj.ext | apply Bj.concat | apply Bj.signx | apply Bj.below | apply Bj.carry | apply Bj.conj | apply Bj.eq' | (clear A B Cc N U Ad Pr S0 S1 Pa;lia))
   ·repeat' (first | exact A _ | exact B _ | exact Cc _ | exact N _ | exact U _ | exact Ad _ | exact Pr _ | exact S0 _ | exact S1 _ | exact Pa _ | exact hb | exact hd | exact Nat.le_refl _ | exact Nat.zero_le _ | exact fun n H=>e_str | exact fun n H=>e_num | exact fun n H=>e_var' hd | exact fun n H=>e_bin (e_var' hd) e_num rfl | exact fun n H=>e_bin (e_bin e_num (e_var' hd) (mr (by decide))) e_num rfl | (apply Bj.two hb (fun n H=>e_str);focus decide) | (apply Bj.ask hb (fun n H=>e_str);focus decide) | (apply Bj.one hb (fun n H=>e_str);focus decide) | (apply Bj.nask hb (fun n H=>e_str);focus decide) | apply Bj.ext | apply Bj.concat | apply Bj.signx | apply Bj.below | apply Bj.carry | apply Bj.conj | apply Bj.eq' | (clear A B Cc N U Ad Pr S0 S1 Pa;lia))
   ·decide
   ·decide
   ·apply yN hw
    decide +kernel
  exact Prs.nil
 decide
end
section
variable {w:Nat} {ts:List Tm} {s e pl:Int} {gS gE:List Nat→Nat} {X:Ext} {st:O} {rest:Hp}
theorem bv {ρ:Lo} {lv:List Int} {t0:List Tm} {i:Nat} {t:Int} {k:Nat} {g:List Nat→Nat} (h:Lk ρ i (.int t)) (S:Sem w t0 lv t 3 k g) (hk:k≤10) (q:Nat):Bj w ρ lv t0 (q+6) (.var i) 3 0 10 g:=Bj.at_ (fun n H=>e_var' h) (S.more hk)
theorem bv0 {ρ:Lo} {lv:List Int} {t0:List Tm} {i:Nat} {t:Int} {k:Nat} {g:List Nat→Nat} (h:Lk ρ i (.int t)) (S:Sem w t0 lv t 3 k g) (q:Nat):Bj w ρ lv t0 (q+6) (.var i) 3 0 k g:=Bj.at_ (fun n H=>e_var' h) S
theorem wu (K:Bk X ts) (hX:X.w=w) (T:Tf w ts s e pl gS gE) (hl:ts.length≤100):∃ vals X' ts',(∀ n,Ca P (n+80) dj [.ref 1,.int w,.int s,.int e,.int 4] (hp st X ts rest) (.lst vals) (hp st X' ts' rest))∧Gr X X' ts ts' 240∧vals.length=18∧∀ v∈vals,yt w ts' [s,e,4] v:=by
 have hw:=hwn K hX
 refine iY T.sx fun tms _ sa _ sb _=>?_
 refine ae T.se.at_ fun tme ea eb=>?_
 have A0:Sem w ts [s,e,4] s 3 0 (fun v=>v.getD 0 0):=.leaf (i:=0) rfl sa sb
 have B0:Sem w ts [s,e,4] e 3 0 (fun v=>v.getD 1 0):=.leaf (i:=1) rfl ea eb
 have C0:Sem w ts [s,e,4] 4 3 0 (fun v=>v.getD 2 0):=.leaf (i:=2) rfl T.x.2.1 rfl
 have pw:1 < 2 ^ w∧2 ^ (w - 1) < 2 ^ w∧w - 1≤1000:=by refine Or.elim hw (fun q=>?_) fun q=>?_<;>rw [q]<;>decide
 let ρ:=dj.params.zip [V.ref 1,.int w,.int s,.int e,.int 4]
 have b0:Lk ρ 1802396002 (.ref 1):=⟨rfl⟩
 have d0:Lk ρ 1701079415 (.int (w:Int)):=⟨rfl⟩
 refine aT (Bj.num (q:=50) (lv:=[s,e,4]) (ve:=.num 0) (v:=0) b0 d0 (fun n H=>e_num) (by lia) st rest X ts (List.prefix_refl _) K hX (by lia)) fun t1 X1 ts1 E1 G1 S1=>?_
 have l1:=G1.len
 refine aT (Bj.num (q:=50) (lv:=[s,e,4]) (ve:=.num 1) (v:=1) b0 d0 (fun n H=>e_num) pw.1 st rest X1 ts1 (List.prefix_refl _) G1.bk (G1.w.trans hX) (by lia)) fun t2 X2 ts2 E2 G2 S2=>?_
 have l2:=G2.len
 refine aT (Bj.num (q:=50) (lv:=[s,e,4]) (ve:=.bin .shl (.num 1) (.bin .sub (.var 1701079415) (.num 1))) (v:=2 ^ (w - 1)) b0 d0 (fun n H=>e_bin e_num (e_bin (e_var' d0) e_num (by show some (V.int ((w:Int) - 1))=some (V.int ((w - 1:Nat):Int));rw [show ((w:Int) - 1)=((w - 1:Nat):Int) by lia])) (fc pw.2.2)) pw.2.1 st rest X2 ts2 (List.prefix_refl _) G2.bk (G2.w.trans (G1.w.trans hX)) (by lia)) fun t3 X3 ts3 E3 G3 S3=>?_
 have l3:=G3.len
 have w3:X3.w=w:=G3.w.trans (G2.w.trans (G1.w.trans hX))
 have p3:=G1.pre.trans (G2.pre.trans G3.pre)
 let ρ1:=ak (ak (ak ρ 127991761170286 (.int t1)) 1953066613 (.int t2)) 1751607656 (.int t3)
 have b1:Lk ρ1 1802396002 (.ref 1):=⟨rfl⟩
 refine aT (Bj.two (q:=50) b1 (fun n H=>e_str) (by decide:431180838498∈iZ) (bv0 (i:=97) (ρ:=ρ1) ⟨rfl⟩ (A0.up p3) _) (bv0 (i:=98) ⟨rfl⟩ (B0.up p3) _) st rest X3 ts3 (List.prefix_refl _) G3.bk w3 (by lia)) fun t4 X4 ts4 E4 G4 S4=>?_
 have l4:=G4.len
 have w4:=G4.w.trans w3
 have p4:=p3.trans G4.pre
 refine aT (Bj.two (q:=50) b1 (fun n H=>e_str) (by decide:465826575970∈iZ) (bv0 (i:=97) (ρ:=ρ1) ⟨rfl⟩ (A0.up p4) _) (bv0 (i:=98) ⟨rfl⟩ (B0.up p4) _) st rest X4 ts4 (List.prefix_refl _) G4.bk w4 (by lia)) fun t5 X5 ts5 E5 G5 S5=>?_
 have l5:=G5.len
 have w5:=G5.w.trans w4
 have p5:=p4.trans G5.pre
 let ρ2:=ak (ak ρ1 431197807713 (.int t4)) 32760453145784944 (.int t5)
 let ρs:=fun x:Int=>ak (gu (bK :: aN [.mk (.var 6647407) (.tup [.var 97,.var 98]) []]) ρ2) 6647407 (.int x)
 have S3':=S3.up (G4.pre.trans G5.pre)
 refine aT (Bj.two (q:=50) (ρ:=ρs s) (lke_skip rfl (lke_del rfl ⟨rfl⟩)) (fun n H=>e_str) (by decide:491496437346∈iZ) (bv0 (i:=6647407) lke_same (A0.up p5) _) (bv0 (i:=1751607656) (lke_skip rfl (lke_del rfl ⟨rfl⟩)) S3' _) st rest X5 ts5 (List.prefix_refl _) G5.bk w5 (by lia)) fun t6 X6 ts6 E6 G6 S6=>?_
 have l6:=G6.len
 have w6:=G6.w.trans w5
 have p6:=p5.trans G6.pre
 refine aT (Bj.two (q:=50) (ρ:=ρs e) (lke_skip rfl (lke_del rfl ⟨rfl⟩)) (fun n H=>e_str) (by decide:491496437346∈iZ) (bv0 (i:=6647407) lke_same (B0.up p6) _) (bv0 (i:=1751607656) (lke_skip rfl (lke_del rfl ⟨rfl⟩)) (S3'.up G6.pre) _) st rest X6 ts6 (List.prefix_refl _) G6.bk w6 (by lia)) fun t7 X7 ts7 E7 G7 S7=>?_
 have l7:=G7.len
 have w7:=G7.w.trans w6
 have p7:=p6.trans G7.pre
 let ρ3:=ak ρ2 495622318451 (.lst [.int t6,.int t7])
 have A3:∀ q,Bj w ρ3 [s,e,4] ts7 (q+6) (.var 97) 3 0 0 _:=bv0 ⟨rfl⟩ (A0.up p7)
 have B3:∀ q,Bj w ρ3 [s,e,4] ts7 (q+6) (.var 98) 3 0 0 _:=bv0 ⟨rfl⟩ (B0.up p7)
 have b3:Lk ρ3 1802396002 (.ref 1):=⟨rfl⟩
 refine aT (Bj.two (q:=50) b3 (fun n H=>e_str) (by decide:431180838498∈iZ) (Bj.two (q:=49) b3 (fun n H=>e_str) (by decide:465826575970∈iZ) (Bj.two (q:=48) b3 (fun n H=>e_str) (by decide:130195029063266∈iZ) (A3 66) (B3 66)) (B3 67)) (Bj.two (q:=49) b3 (fun n H=>e_str) (by decide:120282479425122∈iZ) (A3 67) (B3 67)) st rest X7 ts7 (List.prefix_refl _) G7.bk w7 (by lia)) fun t8 X8 ts8 E8 G8 S8=>?_
 have l8:=G8.len
 have w8:=G8.w.trans w7
 have p8:=p7.trans G8.pre
 let ρ4:=ak ρ3 110386908127600 (.int t8)
 have q8:=G8.pre
 have q7:=G7.pre.trans q8
 have q6:=G6.pre.trans q7
 have q5:=G5.pre.trans q6
 have q4:=G4.pre.trans q5
 have q3:=G3.pre.trans q4
 have q2:=G2.pre.trans q3
 have sd:∀ {i:Nat} {t:Int} {g:List Nat→Nat} {k:Nat},[V.int t6,V.int t7][i]?=some (.int t)→i < 2→Sem w ts8 [s,e,4] t 3 k g→k≤10→∀ q,Bj w ρ4 [s,e,4] ts8 (q+6) (.sub (.var 495622318451) (.num (i:Int))) 3 0 10 g:=fun {i t g k} e1 hi S hk q=>Bj.at_ (fun n H=>e_sub (ag rfl) e_num (dW (Int.natCast_nonneg i) (by rw [Int.toNat_natCast];exact e1) (by rw [Int.toNat_natCast];lia))) (S.more hk)
 refine ae (ub (w:=w) (ρ:=ρ4) (t0:=ts8) (a:=s) (b:=e) (c:=4) hw ⟨rfl⟩ ⟨rfl⟩ (bv ⟨rfl⟩ (A0.up p8) (by decide)) (bv ⟨rfl⟩ (B0.up p8) (by decide)) (bv ⟨rfl⟩ (C0.up p8) (by decide)) (bv ⟨rfl⟩ (S1.up q2) (by decide)) (bv ⟨rfl⟩ (S2.up q3) (by decide)) (bv ⟨rfl⟩ (S4.up q5) (by decide)) (bv ⟨rfl⟩ (S5.up q6) (by decide)) (sd (i:=0) rfl (by decide) (S6.up q7) (by decide)) (sd (i:=1) rfl (by decide) (S7.up q8) (by decide)) (bv ⟨rfl⟩ S8 (by decide))) fun M hM R=>?_
 refine jL (R.es st rest X8 ts8 (List.prefix_refl _) G8.bk w8 (by lia)) fun vals X9 ts9 E9 G9 l9 L=>?_
 have l9':=G9.len
 refine ⟨vals,X9,ts9,fun n=>?_,⟨p8.trans G9.pre,G9.bk,(G9.w.trans w8).trans hX.symm,by lia⟩,l9,L⟩
 apply hP (by rfl)
 apply x_asgt
 ·exact e_tup (es_cons (E1 (n + 3)) (es_cons (E2 (n + 3)) (es_cons (E3 (n + 3)) es_nil))) rfl
 ·rfl
 ·apply x_asgt
  ·exact e_tup (es_cons (E4 (n + 3)) (es_cons (E5 (n + 3)) es_nil)) rfl
  ·rfl
  ·apply x_asgv
   ·exact dB (d5 rfl (i_val rfl (e_tup (es_cons (ag rfl) (es_cons (ag rfl) es_nil)) rfl) rfl)) (cl_cons rfl (E6 (n + 3)) (cl_cons rfl (E7 (n + 3)) cl_nil)) rfl
   ·apply x_asgv
    ·exact E8 (n + 4)
    ·apply x_ret
     exact e_list (E9 (n + 17)) (ah (by rw [l9];exact (by decide:xY.length≤100000)))
end
section
variable {w:Nat} {ts:List Tm} {s e pl:Int} {gS gE:List Nat→Nat} {X:Ext} {E:En} {g:Hp} {vs:List V} {ρ:Lo} {st:O}
theorem tJ (K:Bk X ts) (hX:X.w=w) (hts:ts.length≤72) (T:Tf w ts s e pl gS gE) (N:Nm w vs s e ρ) (I:Tab w ts E) (hE:E.length≤27200)
  (k:∀ ρ X ts E g,Bk X ts→X.w=w→ts.length≤400→Tf w ts s e pl gS gE→Nm w vs s e ρ→Tab w ts E→E.length≤70000→Fin 20 ρ (hj st X ts E g)):Fin 19 ρ (hj st X ts E g):=by
 refine jL (wu (st:=st) (rest:=jd :: .dT (bH E) :: g) K hX T (by lia)) fun vals X1 ts1 C G hl L=>?_
 have l1:=G.len
 have T1:=T.up G.pre
 refine jL (iC (st:=st) (g:=g) G.bk (G.w.trans hX) T1 vals L N (I.up G.pre) (by rw [hl];lia)) fun E2 g2 ρ2 L2 N2 I2 l2=>?_
 rw [hl] at l2
 refine hZ (k ρ2 X1 ts1 E2 g2 G.bk (G.w.trans hX) (by lia) T1 N2 I2 (by lia)) fun ρ' H' Y=>?_
 refine ⟨ρ',H',fun n=>?_⟩
 show Xs P (n+200) (law.body.drop 19) _ _ _ _ _
 apply xH
 ·exact i_val rfl (e_call rfl (es_cons (e_var' N.bank) (es_cons (e_var' N.wide) (es_cons (e_var' N.s) (es_cons (e_var' N.e) (es_cons (e_var' N.y) es_nil))))) (C (n + 118))) rfl
 ·exact L2 n
 ·exact Y n
end
theorem uO {H:Hp} (l:List Nat):cop .eq H (.lst (bx l)) (.lst (bx l))=some true:=by
 show (bif V.flat (.lst (bx l))&&V.flat (.lst (bx l)) then some (V.beq (.lst (bx l)) (.lst (bx l))) else Option.none)=_
 rw [iJ,V.beq,show (V.lst (bx l)).lst?=some (bx l) from rfl]
 dsimp only
 rw [hU];rfl
theorem yv {a:Nat→V}:∀ l:List Nat,tl l.length [l.map a]=l.map fun j=>.tup [a j]
 | []=>rfl
 | j :: l=>congrArg (V.tup [a j] :: ·) (yv l)
theorem zip2 {a b:Nat→V}:∀ l:List Nat,tl l.length [l.map a,l.map b]=l.map fun j=>.tup [a j,b j]
 | []=>rfl
 | j :: l=>congrArg (V.tup [a j,b j] :: ·) (zip2 l)
theorem jc {a k:Nat} (ha:a≤1000) (hk:k≤1000):fV .shl (.int (a:Int)) (.int (k:Int))=some (.int (a * 2 ^ k:Nat)):=by
 refine my ((if_pos ⟨Int.natCast_nonneg k,by lia⟩).trans ((btt (br (by lia)) (congrArg some ?_):_=some ((a * 2 ^ k:Nat):Int))))
 rw [Int.toNat_natCast,gN];rfl
section
variable {w:Nat} {ts:List Tm} {s e pl:Int} {gS gE:List Nat→Nat} {X:Ext} {E:En} {g:Hp} {vs:List V} {ρ:Lo} {st:O}
theorem jI (K:Bk X ts) (hX:X.w=w) (hl:ts.length≤900) (T:Tf w ts s e pl gS gE) (I:Tab w ts E) (hE:E.length≤90000) {k:Nat} (hk:k < w) :
  ∃ ts' E' g' b,(∀ n,Ca P (n+24) bX [.ref 1,.int k,.int e] (hj st X ts E g) (.int b) (hj st X ts' E g))∧(∀ n,Ca P (n+90) bt [.ref 13,.int b,.tup (intsV [3,4])] (hj st X ts' E g) (aK (mw w [3,4]) (some fun j=>fW gS gE (fr w 0 j,fr w 1 j) / 2 ^ k % 2)) (hj st X ts' E' (g++g')))∧ts <+: ts'∧Bk X ts'∧ts'.length≤ts.length + 1∧Tab w ts' E'∧E'.length≤E.length + 1004:=by
 have hw:=hwn K hX
 refine ae T.se.at_ fun tme ea eb=>?_
 refine aX (uv (st:=st) (rest:=jd :: .dT (bH E) :: g) K (by lia) (p:=(k:Int)) ea eb (by lia) (by lia)) fun b ts1 C B=>?_
 have T1:=T.up B.pre
 have S:=Sem.node hw (sv hk) (.one T1.se) B.at_
 have cs:=T1.cols (f:=[3,4]) (by decide) T1.app34 (dc (w:=w) (ts:=ts1) (i:=0) rfl) (dc (i:=1) rfl) (fun j=>bc) fun j=>bc
 have c:=S.col ts1 [3,4] 101 _ (List.prefix_refl _) (vA (by decide) (ed T1.app34) cs.1 ((dc (i:=1) rfl).up (List.prefix_refl _) (by decide)) cs.2.1 fun j=>bc)
 refine aW (aR (st:=st) (g:=g) B.bk hX (T1.fs (f:=[3,4]) (by decide) (by decide) T1.app34) c (by decide) (I.up B.pre) (by lia)) fun E1 g1 C1 I1 l1=>?_
 exact ⟨ts1,E1,g1,b,C,C1,B.pre,B.bk,B.len,I1,l1⟩
end
theorem yL {a:Nat} {H:Hp} (h:a≤1000):aP .sum [.lst [.int (a:Int)]] H=some (.int (a:Int),H):=by
 show (bif aM (a + 0:Int)&&([(a:Int)].all aM) then some (V.int (a + 0:Int),H) else Option.none)=_
 rw [Int.add_zero,List.all_cons,br (by lia)];rfl
theorem sum2 {a b:Nat} {H:Hp} (h:a≤1000) (h':b≤1000):aP .sum [.lst [.int (a:Int),.int (b:Int)]] H=some (.int (a + b:Nat),H):=by
 show (bif aM (a + (b + 0):Int)&&([(a:Int),(b:Int)].all aM) then some (V.int (a + (b + 0):Int),H) else Option.none)=_
 rw [Int.add_zero,List.all_cons,List.all_cons,br (by lia),br (by lia),br (by lia)];rfl
section
variable {w:Nat} {ts:List Tm} {s e pl:Int} {gS gE:List Nat→Nat} {X:Ext} {E:En} {g:Hp} {vs:List V} {ρ:Lo} {st:O}
noncomputable abbrev ρk (ρ:Lo) (k:Nat):Lo:=ak (gu (bK :: aN [.mk (.var 107) (.range [.var 1701079415]) []]) ρ) 107 (.int (k:Int))
theorem pS {ts':List Tm} {E':En} {g':Hp} {b:Int} {c:V} {k:Nat} (N:Nm w vs s e ρ) (C:∀ n,Ca P (n+24) bX [.ref 1,.int k,.int e] (hj st X ts E g) (.int b) (hj st X ts' E g)) (D:∀ n,Ca P (n+90) bt [.ref 13,.int b,.tup (intsV [3,4])] (hj st X ts' E g) c (hj st X ts' E' g')) (n:Nat) :
  Ev P (n+198) (.meth (.var 435526333802) 435610083700 [.meth (.var 1802396002) 7629154 [.var 107,.var 111542069915237],.tup [.var 120,.var 121]]) (ρk ρ k) (hj st X ts E g) c (hj st X ts' E' g') :=
 e_meth (e_var' (lke_skip rfl (lke_del rfl N.judge))) rfl rfl rfl rfl (es_cons (e_meth (e_var' (lke_skip rfl (lke_del rfl N.bank))) rfl rfl rfl rfl (es_cons (e_var' lke_same) (es_cons (e_var' (lke_skip rfl (lke_del rfl N.e))) es_nil)) (C (n + 172))) (es_cons (tp2 (lke_skip rfl (lke_del rfl N.x)) (lke_skip rfl (lke_del rfl N.y))) es_nil)) (D (n + 107))
theorem kT (K:Bk X ts) (hX:X.w=w) (hts:ts.length≤410) (T:Tf w ts s e pl gS gE) (N:Nm w vs s e ρ) (I:Tab w ts E) (hE:E.length≤80000) {zs:List V} {tf:Nat→List V} (hb:Lk ρ 1937008994 (.lst zs)) (hz:∃ ls,sG zs=some ls∧tj ls=some ((List.range (mw w [3,4])).map fun j=>V.tup (tf j)))
  (he:∀ j n H ρ,Lk ρ 7630700 (.tup (tf j))→Ev P (n+150) (.bi .sum [.comp (.bin .shl (.var 6647407) (.var 107)) [.mk (.tup [107,6647407]) (.enum (.var 7630700)) []]]) ρ H (.int (fW gS gE (fr w 0 j,fr w 1 j):Nat)) H):Fin 21 ρ (hj st X ts E g):=by
 refine ae hz fun ls z1 z2=>?_
 have F34:=T.fs (f:=[3,4]) (by decide) (by decide) T.app34
 have hm:=ui (hwn K hX) F34
 refine aW (aR (st:=st) (g:=g) K hX F34 T.e34 (by decide) I (by lia)) fun E1 g1 C1 I1 l1=>?_
 refine ⟨ρ,hj st X ts E1 (g++g1),fun n=>?_⟩
 have cm:Ev P (n+198) (.comp (.bi .sum [.comp (.bin .shl (.var 6647407) (.var 107)) [.mk (.tup [107,6647407]) (.enum (.var 7630700)) []]]) [.mk (.var 7630700) (.zips (.var 1937008994)) []]) ρ (hj st X ts E g) (aK (mw w [3,4]) (some fun j=>fW gS gE (fr w 0 j,fr w 1 j))) (hj st X ts E g) :=
  cT (l:=List.range (mw w [3,4])) (g:=fun j=>.tup (tf j)) (wD (e_var' hb) z1 z2) (fun j m=>⟨_,rfl,he j (n + 47) _ _ lke_same⟩) (by rw [List.length_range];lia)
 have eq:cop .eq (hj st X ts E1 (g++g1)) (aK (mw w [3,4]) (some fun j=>fW gS gE (fr w 0 j,fr w 1 j))) (aK (mw w [3,4]) (some fun j=>fW gS gE (fr w 0 j,fr w 1 j)))=some true:=by rw [kO];exact uO _
 show Xs P (n+200) (law.body.drop 21) _ _ _ _ _
 exact x_ret (e_cmp cm (e_meth (e_var' N.judge) rfl rfl rfl rfl (es_cons (e_var' N.e) (es_cons (tp2 N.x N.y) es_nil)) (C1 (n + 107))) eq)
theorem wI {a:Nat} (ha:a≤1000) (n:Nat) (H:Hp) (ρ:Lo) (h:Lk ρ 7630700 (.tup [.int (a:Int)])):Ev P (n+150) (.bi .sum [.comp (.bin .shl (.var 6647407) (.var 107)) [.mk (.tup [107,6647407]) (.enum (.var 7630700)) []]]) ρ H (.int (a * 2 ^ 0:Nat)) H :=
 e_bi (es_cons (dB (sP (e_var' h)) (cl_cons rfl (e_bin (e_var' lke_same) (e_var' (lke_skip rfl lke_same)) (jc (k:=0) ha (by decide))) cl_nil) rfl) es_nil) (yL (by lia))
theorem wH {a b:Nat} (ha:a≤1000) (hb:b≤400) (n:Nat) (H:Hp) (ρ:Lo) (h:Lk ρ 7630700 (.tup [.int (a:Int),.int (b:Int)])):Ev P (n+150) (.bi .sum [.comp (.bin .shl (.var 6647407) (.var 107)) [.mk (.tup [107,6647407]) (.enum (.var 7630700)) []]]) ρ H (.int (a * 2 ^ 0 + b * 2 ^ 1:Nat)) H :=
 e_bi (es_cons (dB (sP (e_var' h)) (cl_cons rfl (e_bin (e_var' lke_same) (e_var' (lke_skip rfl lke_same)) (jc (k:=0) ha (by decide))) (cl_cons rfl (e_bin (e_var' lke_same) (e_var' (lke_skip rfl lke_same)) (jc (k:=1) (a:=b) (by lia) (by decide))) cl_nil)) rfl) es_nil) (sum2 (by lia) (by lia))
end
section
variable {w:Nat} {ts:List Tm} {s e pl:Int} {gS gE:List Nat→Nat} {X:Ext} {E:En} {g:Hp} {vs:List V} {ρ:Lo} {st:O}
theorem x8 (T:Tf w ts s e pl gS gE) (j:Nat):fW gS gE (fr w 0 j,fr w 1 j) < 2 ^ w:=T.se.lt _ (in2 (a:=0) (b:=0) (T.ss.lt _ (in2 (a:=0) (b:=0) bc bc)) bc)
theorem tI (K:Bk X ts) (hX:X.w=w) (hts:ts.length≤400) (T:Tf w ts s e pl gS gE) (N:Nm w vs s e ρ) (I:Tab w ts E) (hE:E.length≤70000):Fin 20 ρ (hj st X ts E g):=by
 have hw:=hwn K hX
 have lt:=x8 T
 refine Or.elim hw (fun q=>?_) fun q=>?_
 ·subst q
  obtain ⟨ts1,E1,g1,b1,C1,D1,p1,K1,l1,I1,e1⟩:=jI (st:=st) (g:=g) K hX (by lia) T I (by lia) (k:=0) (by decide)
  have T1:=T.up p1
  have m4:mw 1 [3,4]=4:=rfl
  refine hZ (kT (st:=st) (g:=g++g1) (ρ:=ak ρ 1937008994 (.lst [aK (mw 1 [3,4]) (some fun j=>fW gS gE (fr 1 0 j,fr 1 1 j) / 2 ^ 0 % 2)])) (tf:=fun j=>[.int (fW gS gE (fr 1 0 j,fr 1 1 j) / 2 ^ 0 % 2:Nat)]) K1 hX (by lia) T1 (N.set (by decide) _) I1 (by lia) lke_same ⟨_,rfl,congrArg some (yv (List.range (mw 1 [3,4])))⟩ (fun j n H ρ h=>by
   have x:=lt j
   have:=wI (a:=fW gS gE (fr 1 0 j,fr 1 1 j) / 2 ^ 0 % 2) (by lia) n H ρ h
   rw [show fW gS gE (fr 1 0 j,fr 1 1 j) / 2 ^ 0 % 2 * 2 ^ 0=fW gS gE (fr 1 0 j,fr 1 1 j) by
    generalize fW gS gE (fr 1 0 j,fr 1 1 j)=y at x
    have:y=0∨y=1:=by lia
    rcases this with q | q<;>rw [q]] at this
   exact this)) fun ρ' H' Y=>?_
  refine ⟨ρ',H',fun n=>?_⟩
  show Xs P (n+200) (law.body.drop 20) _ _ _ _ _
  apply x_asgv
  ·exact dB (d5 rfl (eP (k:=1) (e_var' N.wide) (by decide))) (cl_cons rfl (pS N C1 D1 n) cl_nil) rfl
  ·exact Y n
 ·subst q
  obtain ⟨ts1,E1,g1,b1,C1,D1,p1,K1,l1,I1,e1⟩:=jI (st:=st) (g:=g) K hX (by lia) T I (by lia) (k:=0) (by decide)
  have T1:=T.up p1
  obtain ⟨ts2,E2,g2,b2,C2,D2,p2,K2,l2,I2,e2⟩:=jI (st:=st) (g:=g++g1) K1 hX (by lia) T1 I1 (by lia) (k:=1) (by decide)
  have T2:=T1.up p2
  refine hZ (kT (st:=st) (g:=g++g1++g2) (ρ:=ak ρ 1937008994 (.lst [aK (mw 2 [3,4]) (some fun j=>fW gS gE (fr 2 0 j,fr 2 1 j) / 2 ^ 0 % 2),aK (mw 2 [3,4]) (some fun j=>fW gS gE (fr 2 0 j,fr 2 1 j) / 2 ^ 1 % 2)])) (tf:=fun j=>[.int (fW gS gE (fr 2 0 j,fr 2 1 j) / 2 ^ 0 % 2:Nat),.int (fW gS gE (fr 2 0 j,fr 2 1 j) / 2 ^ 1 % 2:Nat)]) K2 hX (by lia) T2 (N.set (by decide) _) I2 (by lia) lke_same ⟨_,rfl,congrArg some (zip2 (List.range (mw 2 [3,4])))⟩ (fun j n H ρ h=>by
   have x:=lt j
   have:=wH (a:=fW gS gE (fr 2 0 j,fr 2 1 j) / 2 ^ 0 % 2) (b:=fW gS gE (fr 2 0 j,fr 2 1 j) / 2 ^ 1 % 2) (by lia) (by lia) n H ρ h
   rw [show fW gS gE (fr 2 0 j,fr 2 1 j) / 2 ^ 0 % 2 * 2 ^ 0 + fW gS gE (fr 2 0 j,fr 2 1 j) / 2 ^ 1 % 2 * 2 ^ 1=fW gS gE (fr 2 0 j,fr 2 1 j) by
    generalize fW gS gE (fr 2 0 j,fr 2 1 j)=y at x
    have:y=0∨y=1∨y=2∨y=3:=by lia
    rcases this with q | q | q | q<;>rw [q]] at this
   exact this)) fun ρ' H' Y=>?_
  refine ⟨ρ',H',fun n=>?_⟩
  show Xs P (n+200) (law.body.drop 20) _ _ _ _ _
  apply x_asgv
  ·exact dB (d5 rfl (eP (k:=2) (e_var' N.wide) (by decide))) (cl_cons rfl (pS N C1 D1 n) (cl_cons rfl (pS N C2 D2 n) cl_nil)) rfl
  ·exact Y n
end
theorem law_runs (ns:List Int) (hl:ns.length≤63):∃ H',Ca P 200 law [.lst (intsV ns)] [] (.bool true) H':=by
 have h50:(ns.take 50).length≤50:=by rw [List.length_take];lia
 refine hZ (start hl fun w hw=>vQ h50 hw fun ρ X ts p vs s e pl gS gE K hX hts hp T Sh N hpl=>vP K hX T N hpl fun ρ E g I hE N D=>tP K hX T N D I hE fun E g I hE D=>tO K hX T N D I hE fun E g I hE D =>
  tN h50 hp K hX hts T Sh N D I hE fun ρ X ts E g K hX hts T N I hE=>tM K hX hts T N I hE fun ρ ts E g mx K hts T N I hE a hm=>tK K hX T N I hE a hm fun E g I hE=>tJ K hX hts T N I hE fun ρ X ts E g K hX hts T N I hE=>tI K hX hts T N I hE) fun ρ' H' Y=>?_
 exact ⟨H',hP rfl (Y 0)⟩
end Mini.Internal.L1
end
end
section
open PySem PySem.W PyProof.Rows
set_option tactic.hygienic true
namespace PJ1.Internal
set_option maxRecDepth 100000
set_option maxHeartbeats 8000000
theorem jP {h:Heap}:∀ {vs:List Value} {ns:List Int},IntsAre vs ns→Mini.Internal.VRs .nil [] h (Mini.Internal.L1.intsV ns) vs
 | _,_,.nil=>.nil
 | _,_,.cons n t r=>.cons (.int n t) (jP r)
theorem xV (ns:List Int):PySem.Challenge.rw_zu0062_01.row.claim.post [ofPy (PyData.list (List.map PyData.int ns))] (ofPy (PyData.bool true)) [ofPy (PyData.list (List.map PyData.int ns))]=true:=by kernel_rfl
theorem fin1 {hK:Params→Frag} {vw:Program} (chk:∀ P,Mini.Internal.chkAll PySem.Challenge.rw_zu0062_01.row.prog (hK P) Mini.Internal.L1.P=true) (imp:importsNone vw=true) {w:World} {s:Shared} {mg mb:Str→Option Value} {fa a:Addr} {vs:List Value} {ns:List Int} {mean':ExcName→Option Value} {cl:Str→Option Addr} {E:Value→Shared→Prop}
  (KX:(hK w.params).In s.heap) {loose:List Str} {mean:ExcName→Option Value} (T:Top vw loose mean mg mb s.heap) (hg:s.gens = #[]) (hmg:mg "law" = some (.ref fa)) (hl:s.heap.IsList a vs.toArray) (hI:IntsAre vs ns) (hc:¬ (63:Int) < ns.length) :
  wpAny (model PySem.Challenge.rw_zu0062_01.row.prog w) callerA (call (.ref fa) [.ref a])
   (fun v s'=>GoodWG PySem.Challenge.rw_zu0062_01.row.claim cl mean' [ofPy (PyData.list (List.map PyData.int ns))] s (.ok (.ret v)) s') E s:=by
 let C:Mini.Internal.Cfg:={ prog:=PySem.Challenge.rw_zu0062_01.row.prog,w:=w,base:=s.heap,K:=hK w.params,P:=Mini.Internal.L1.P,cls:=Mini.Internal.clsOf (hK w.params),os:=s.os }
 have hs:(s.heap.get? sysModules).isSome=true:=by
  obtain ⟨mm,⟨o,es,ep,ho,_⟩,_⟩:=(T.seer imp).mods
  rw [ho];rfl
 have K:Mini.Internal.CfgOK C ⟨mg,mb⟩:=Mini.Internal.cfg_ok (C:=C) (G:=⟨mg,mb⟩) rfl KX hs T.nolimit T.g T.b T.builtins (chk w.params)
 have F:Mini.Internal.Fn C fa Mini.Internal.L1.law:=by
  obtain ⟨a',e,f⟩:=K.fn 7823724 Mini.Internal.L1.law rfl
  have e2:mg "law" = some (.ref a'):=e
  rw [hmg] at e2
  cases e2
  exact f
 obtain ⟨H',R⟩:=Mini.Internal.L1.law_runs ns (by omega)
 exact Mini.Internal.join (C:=C) K F rfl rfl hg R.h ⟨rfl,by decide,by decide⟩ (.cons (.lst hl (fun h=>by
  rcases h with ⟨i,p,o,h,_⟩ | h
  ·cases (show (none:Option (Addr×Addr))=some p from h)
  ·cases h) (jP hI)) .nil) (fun k=>rfl) (xV ns)
end PJ1.Internal
end
theorem PySem.Challenge.cw_zu0062_01_holds : PySem.Challenge.rw_zu0062_01.Holds := by
 exact PJ1.Internal.law_holds fun _ _ chk imp=>PJ1.Internal.fin1 chk imp
