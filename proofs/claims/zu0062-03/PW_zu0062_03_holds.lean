import PyProof.Rows.All
import Wide.All
import OpenK.AllK
import Wide.FinOn
import Wide.BridgeG
import KE.KSuper
import PySem.Challenge.RW_zu0062_03
set_option Elab.async false
set_option tactic.hygienic false
section
set_option autoImplicit false
namespace Mini
open PySem

/-- values; a text is a number: its signs, base 256, the first sign lowest -/
inductive V where
  | none
  | bool (b : Bool)
  | int (i : Int)
  | str (s : Nat)
  | tup (l : List V)
  | lst (l : List V)
  | ref (n : Nat)
  deriving Inhabited

/-- objects that change -/
inductive O where
  | list (l : List V)
  | dI (l : List (Int × V))
  | dS (l : List (Nat × V))
  | dT (l : List (V × V))
  | inst (c : Nat) (l : List (Nat × V))
  | dead
  deriving Inhabited

noncomputable def V.int? (v : V) : Option Int := match v with | .int i => some i | _ => Option.none
noncomputable def V.bool? (v : V) : Option Bool := match v with | .bool i => some i | _ => Option.none
noncomputable def V.str? (v : V) : Option Nat := match v with | .str i => some i | _ => Option.none
noncomputable def V.ref? (v : V) : Option Nat := match v with | .ref i => some i | _ => Option.none
noncomputable def V.tup? (v : V) : Option (List V) := match v with | .tup i => some i | _ => Option.none
noncomputable def V.lst? (v : V) : Option (List V) := match v with | .lst i => some i | _ => Option.none
noncomputable def V.isNone (v : V) : Bool := match v with | .none => true | _ => false
noncomputable def V.like (v : V) (l : List V) : V := match v with | .tup _ => .tup l | _ => .lst l
noncomputable def O.list? (o : O) : Option (List V) := match o with | .list l => some l | _ => Option.none
noncomputable def O.inst? (o : O) : Option (Nat × List (Nat × V)) := match o with | .inst c l => some (c, l) | _ => Option.none
noncomputable def one? (l : List V) : Option V := match l with | [v] => some v | _ => Option.none
noncomputable def two? (l : List V) : Option (V × V) := match l with | [v, w] => some (v, w) | _ => Option.none

noncomputable abbrev Hp := List O
noncomputable abbrev Lo := List (Nat × V)

noncomputable def digs : Nat → Nat → List Nat
  | 0, _ => []
  | f + 1, n => if n = 0 then [] else (n % 256) :: digs f (n / 256)
noncomputable def nmL (n : Nat) : List Nat := digs n n
noncomputable def nm (n : Nat) : Str := ⟨(nmL n).toArray⟩

inductive Bop where
  | add | sub | mul | fdiv | mod | pow | shl | shr | band | bor | bxor
  deriving DecidableEq, Inhabited
inductive Cop where
  | eq | ne | lt | le | gt | ge | isin | notin | is | isnot
  deriving DecidableEq, Inhabited
inductive DK where
  | i | s | t
  deriving DecidableEq, Inhabited
inductive Bi where
  | len | sum | min | max | abs | int | list | tuple | dict | isTuple | isInt
  deriving DecidableEq, Inhabited

set_option genInjectivity false in
mutual
inductive E where
  | none
  | bool (b : Bool)
  | num (i : Int)
  | str (s : Nat)
  | var (i : Nat)
  | cst (i : Nat)
  | and (l : List E)
  | or (l : List E)
  | not (a : E)
  | bin (op : Bop) (a b : E)
  | neg (a : E)
  | ite (c a b : E)
  | dict (k : DK) (ks vs : List E)
  | list (m : Bool) (l : List E)
  | tup (l : List E)
  | comp (elt : E) (gens : List G)
  | cmp (a : E) (ops : List Cop) (l : List E)
  | call (f : Nat) (args : List E)
  | new (c : Nat) (args : List E)
  | meth (o : E) (m : Nat) (args : List E)
  | bi (b : Bi) (args : List E)
  | range (l : List E)
  | inVals (x d : E)
  | attr (o : E) (a : Nat)
  | sub (o i : E)
  | slice (o : E) (lo hi : Option E)
  | fmt (pre : Nat) (e : E) (post : Nat)
  | sup (c : Nat) (m : Nat)
  | freeze (e : E)
inductive T where
  | var (i : Nat)
  | attr (o : E) (a : Nat)
  | sub (o i : E)
  | tup (l : List Nat)
inductive G where
  | mk (t : T) (it : E) (ifs : List E)
end

inductive S where
  | expr (e : E)
  | ret (e : E)
  | asg (t : T) (e : E)
  | ifs (c : E) (a b : List S)
  | whl (c : E) (b : List S)
  | fr (t : T) (e : E) (b : List S)
  | cont
  | rais

noncomputable instance : Inhabited E := ⟨.none⟩
noncomputable instance : Inhabited T := ⟨.var 0⟩
noncomputable instance : Inhabited G := ⟨.mk (.var 0) .none []⟩
noncomputable instance : Inhabited S := ⟨.cont⟩

set_option genInjectivity false in
structure FDef where
  params : List Nat
  body : List S
  deriving Inhabited

set_option genInjectivity false in
structure Prog where
  funs : List (Nat × FDef)
  /-- a class's methods, those of its bases too: the first that is found -/
  classes : List (Nat × List (Nat × FDef))
  consts : List (Nat × V)
  /-- the names of attributes: no class bears one -/
  attrs : List Nat

inductive Fl where
  | nxt | cont | ret (v : V)

/-! equality -/
noncomputable def V.num? (v : V) : Option Int := match v with
  | .int i => some i
  | .bool b => some (if b then 1 else 0)
  | _ => Option.none
mutual
noncomputable def V.beq : V → V → Bool
  | .none, b => b.isNone
  | .bool x, b => b.num?.any ((if x then 1 else 0) == ·)
  | .int x, b => b.num?.any (x == ·)
  | .str x, b => b.str?.any (x == ·)
  | .tup l, b => (match b.tup? with | some m => V.beqs l m | Option.none => false)
  | .lst l, b => (match b.lst? with | some m => V.beqs l m | Option.none => false)
  | .ref _, _ => false
noncomputable def V.beqs : List V → List V → Bool
  | [], [] => true
  | a :: as, b :: bs => V.beq a b && V.beqs as bs
  | _, _ => false
end
mutual
/-- the depth, if no object that changes is within -/
noncomputable def V.dep : V → Option Nat
  | .none | .bool _ | .int _ | .str _ => some 0
  | .tup l | .lst l => (V.deps l).map (· + 1)
  | .ref _ => Option.none
noncomputable def V.deps : List V → Option Nat
  | [] => some 0
  | a :: as => match V.dep a, V.deps as with
    | some m, some n => some (max m n)
    | _, _ => Option.none
end
noncomputable def V.flat (v : V) : Bool := match v.dep with
  | some n => Nat.ble n 60
  | Option.none => false
noncomputable def V.flats (l : List V) : Bool := l.all V.flat
mutual
/-- may stand as a key: ints, texts, tuples of such, three deep -/
noncomputable def V.key : Nat → V → Bool
  | _, .int _ => true
  | _, .str _ => true
  | n, .tup l => (match n with | 0 => false | n + 1 => V.keys n l)
  | _, .none => false
  | _, .bool _ => false
  | _, .lst _ => false
  | _, .ref _ => false
noncomputable def V.keys : Nat → List V → Bool
  | _, [] => true
  | n, a :: as => V.key n a && V.keys n as
end
noncomputable def V.isKey : V → Bool
  | .tup l => V.keys 3 l
  | _ => false
-- the very same value
mutual
noncomputable def V.same : V → V → Bool
  | .none, b => b.isNone
  | .bool x, b => b.bool?.any (x == ·)
  | .int x, b => b.int?.any (x == ·)
  | .str x, b => b.str?.any (x == ·)
  | .tup l, b => (match b.tup? with | some m => V.sames l m | Option.none => false)
  | .lst l, b => (match b.lst? with | some m => V.sames l m | Option.none => false)
  | .ref x, b => b.ref?.any (x == ·)
noncomputable def V.sames : List V → List V → Bool
  | [], [] => true
  | a :: as, b :: bs => V.same a b && V.sames as bs
  | _, _ => false
end

/-! small pieces -/
noncomputable def lk {α : Type} : List (Nat × α) → Nat → Option α
  | [], _ => Option.none
  | (j, v) :: r, i => bif Nat.beq i j then some v else lk r i
noncomputable def lset : Lo → Nat → V → Lo
  | [], i, v => [(i, v)]
  | (j, w) :: r, i, v => bif Nat.beq i j then (j, v) :: r else (j, w) :: lset r i v
noncomputable def getI : List (Int × V) → Int → Option V
  | [], _ => Option.none
  | (j, v) :: r, i => bif i == j then some v else getI r i
noncomputable def setI : List (Int × V) → Int → V → List (Int × V)
  | [], i, v => [(i, v)]
  | (j, w) :: r, i, v => bif i == j then (j, v) :: r else (j, w) :: setI r i v
noncomputable def getT : List (V × V) → V → Option V
  | [], _ => Option.none
  | (j, v) :: r, i => bif V.same j i then some v else getT r i
noncomputable def setT : List (V × V) → V → V → List (V × V)
  | [], i, v => [(i, v)]
  | (j, w) :: r, i, v => bif V.same j i then (j, v) :: r else (j, w) :: setT r i v

/-- the longest a list may get -/
noncomputable def cap : Nat := 100000
noncomputable def okLen (n : Nat) : Bool := Nat.ble n cap
noncomputable def okInt (i : Int) : Bool := Nat.ble i.natAbs (2 ^ 61)

noncomputable def idx (i : Int) (n : Nat) : Option Nat :=
  bif okInt i then (if 0 ≤ i then (if i.toNat < n then some i.toNat else Option.none)
  else if i + n < 0 then Option.none else some (i + n).toNat) else Option.none

noncomputable def nth (H : Hp) (i : Nat) : Option O := H[i]?

noncomputable def binI (op : Bop) (a b : Int) : Option Int :=
  match op with
  | .add => some (a + b)
  | .sub => some (a - b)
  | .mul => bif okInt a then some (a * b) else Option.none
  | .fdiv => if b = 0 then Option.none else bif okInt b then some (Int.fdiv a b) else Option.none
  | .mod => if b = 0 then Option.none else some (Int.fmod a b)
  | .pow => if 0 ≤ b ∧ b ≤ 1000 then bif okInt a then some (a ^ b.toNat) else Option.none else Option.none
  | .shl => if 0 ≤ b ∧ b ≤ 1000 then bif okInt a then some (a * 2 ^ b.toNat) else Option.none else Option.none
  | .shr => if 0 ≤ b then some (Int.fdiv a (2 ^ b.toNat)) else Option.none
  | .band => some (Builtin.bitAnd a b)
  | .bor => some (Builtin.bitOr a b)
  | .bxor => some (Builtin.bitXor a b)

noncomputable def strCat (a b : Nat) : Nat := a + b * 256 ^ (nmL a).length

noncomputable def binV (op : Bop) (a b : V) : Option V :=
  match a with
  | .int a => b.int?.bind fun b => (binI op a b).map V.int
  | .str a => b.str?.bind fun b => if op = .add ∧ (nmL a).length < 100 ∧ (nmL b).length < 100 then some (.str (strCat a b)) else Option.none
  | .lst a => if op = .add then b.lst?.bind fun b => (bif okLen (a.length + b.length) then some (.lst (a ++ b)) else Option.none)
    else b.int?.bind fun n => if op = .mul ∧ 0 ≤ n ∧ okLen (a.length * n.toNat) ∧ n < 100000 then some (.lst ((List.replicate n.toNat a).flatten)) else Option.none
  | _ => Option.none

noncomputable def hasKeyO (x : V) (o : O) : Option Bool := match o with
  | .dI l => x.int?.map fun i => (getI l i).isSome
  | .dS l => x.str?.map fun s => (lk l s).isSome
  | .dT l => bif x.isKey then some (getT l x).isSome else Option.none
  | _ => Option.none
noncomputable def hasKey (H : Hp) (x : V) (d : Nat) : Option Bool := (nth H d).bind (hasKeyO x)

noncomputable def ints2 (a b : V) (f : Int → Int → Bool) : Option Bool := a.int?.bind fun i => b.int?.map fun j => f i j

noncomputable def items (v : V) : Option (List V) := match v with
  | .tup l => some l
  | .lst l => some l
  | _ => Option.none

noncomputable def memV (H : Hp) (a b : V) : Option Bool := match b with
  | .ref d => hasKey H a d
  | b => (items b).bind fun l => bif a.flat && V.flats l then some (l.any fun y => V.beq y a) else Option.none

/-- (two dicts are not compared yet) -/
noncomputable def eqV (_H : Hp) (a b : V) : Option Bool := bif a.flat && b.flat then some (V.beq a b) else Option.none

noncomputable def cop (o : Cop) (H : Hp) (a b : V) : Option Bool := match o with
  | .eq => eqV H a b
  | .ne => (eqV H a b).map (!·)
  | .lt => ints2 a b fun i j => decide (i < j)
  | .le => ints2 a b fun i j => decide (i ≤ j)
  | .gt => ints2 a b fun i j => decide (j < i)
  | .ge => ints2 a b fun i j => decide (j ≤ i)
  | .isin => memV H a b
  | .notin => (memV H a b).map (!·)
  | .is => bif b.isNone then some a.isNone else Option.none
  | .isnot => bif b.isNone then some (!a.isNone) else Option.none

noncomputable def toInts : List V → Option (List Int)
  | [] => some []
  | v :: r => v.num?.bind fun i => (toInts r).map (i :: ·)
noncomputable def allInts : List V → Option (List Int)
  | [] => some []
  | v :: r => v.int?.bind fun i => (allInts r).map (i :: ·)
noncomputable def allStrs : List V → Option (List Nat)
  | [] => some []
  | v :: r => v.str?.bind fun i => (allStrs r).map (i :: ·)

noncomputable def bMin : List Int → Option Int
  | [] => Option.none
  | i :: r => some (r.foldl (fun a b => if b < a then b else a) i)
noncomputable def bMax : List Int → Option Int
  | [] => Option.none
  | i :: r => some (r.foldl (fun a b => if a < b then b else a) i)

noncomputable def lenV (H : Hp) (v : V) : Option Nat := match v with
  | .ref i => (nth H i).bind fun o => o.list?.map (·.length)
  | v => (items v).map (·.length)
/-- what min and max are taken of -/
noncomputable def minArgs (args : List V) : Option (List Int) := match args with
  | [v] => v.lst?.bind allInts
  | [a, b] => allInts [a, b]
  | _ => Option.none
noncomputable def callBi (b : Bi) (args : List V) (H : Hp) : Option (V × Hp) := match b with
  | .len => (one? args).bind fun v => (lenV H v).bind fun n => bif okLen n then some (.int n, H) else Option.none
  | .sum => (one? args).bind fun v => v.lst?.bind fun l => (toInts l).bind fun is => bif okInt is.sum && is.all okInt then some (.int is.sum, H) else Option.none
  | .min => (minArgs args).bind fun is => (bMin is).map fun i => (.int i, H)
  | .max => (minArgs args).bind fun is => (bMax is).map fun i => (.int i, H)
  | .abs => (one? args).bind fun v => v.int?.map fun a => (.int a.natAbs, H)
  | .int => (one? args).bind fun v => v.num?.map fun a => (.int a, H)
  | .list => (one? args).bind fun v => v.lst?.bind fun l => bif okLen l.length then some (.lst l, H) else Option.none
  | .tuple => (one? args).bind fun v => (items v).bind fun l => bif okLen l.length then some (.tup l, H) else Option.none
  | .dict => Option.none
  | .isTuple => (one? args).bind fun v => bif v.ref?.isSome then Option.none else some (.bool v.tup?.isSome, H)
  | .isInt => (one? args).bind fun v => bif v.ref?.isSome then Option.none else some (.bool v.num?.isSome, H)

noncomputable def subO (o : O) (i : V) : Option V := match o with
  | .list l => i.int?.bind fun k => (idx k l.length).bind fun j => l[j]?
  | .dI l => i.int?.bind (getI l)
  | .dS l => i.str?.bind (lk l)
  | .dT l => bif i.isKey then getT l i else Option.none
  | _ => Option.none
noncomputable def subV (H : Hp) (o i : V) : Option V := match o with
  | .ref n => (nth H n).bind fun ob => subO ob i
  | o => (items o).bind fun l => i.int?.bind fun k => (idx k l.length).bind fun j => l[j]?

noncomputable def setItemO (o : O) (i v : V) : Option O := match o with
  | .dI l => i.int?.bind fun k => bif okLen l.length then some (.dI (setI l k v)) else Option.none
  | .dS l => i.str?.bind fun k => bif okLen l.length then some (.dS (lset l k v)) else Option.none
  | .dT l => bif i.isKey && okLen l.length then some (.dT (setT l i v)) else Option.none
  | _ => Option.none
noncomputable def setItemV (H : Hp) (o i v : V) : Option Hp := o.ref?.bind fun n => (nth H n).bind fun ob => (setItemO ob i v).map fun ob => H.set n ob

noncomputable def sliceL (l : List V) (lo hi : Option Int) : Option (List V) :=
  match lo, hi with
  | Option.none, some h => if 0 ≤ h ∧ okLen l.length then some (l.take h.toNat) else Option.none
  | some k, Option.none => if 0 ≤ k ∧ okLen l.length then some (l.drop k.toNat) else Option.none
  | _, _ => Option.none

noncomputable def intText (i : Int) : Option Nat := if 0 ≤ i ∧ i < 10 then some (48 + i.toNat) else if 10 ≤ i ∧ i < 100 then some ((48 + i.toNat / 10) + 256 * (48 + i.toNat % 10)) else Option.none

set_option genInjectivity false in
set_option genSizeOf false in
/-- what a level of the semantics is built on -/
structure Sems where
  ev : E → Lo → Hp → Option (V × Hp)
  exs : List S → Lo → Hp → Option (Fl × Lo × Hp)

section
variable (P : Prog) (R : Sems)

noncomputable def evs : List E → Lo → Hp → Option (List V × Hp)
  | [], _, H => some ([], H)
  | e :: es, ρ, H => (R.ev e ρ H).bind fun (v, H) => (evs es ρ H).bind fun (vs, H) => some (v :: vs, H)

noncomputable def Fl.out (f : Fl) : Option V := match f with
  | .ret v => some v
  | .nxt => some .none
  | .cont => Option.none
noncomputable def Fl.ret? (f : Fl) : Option V := match f with
  | .ret v => some v
  | _ => Option.none
noncomputable def Fl.isNxt (f : Fl) : Bool := match f with
  | .nxt => true
  | _ => false
noncomputable def callF (f : FDef) (args : List V) (H : Hp) : Option (V × Hp) :=
  bif Nat.beq args.length f.params.length then (R.exs f.body (f.params.zip args) H).bind fun x => x.1.out.map fun v => (v, x.2.2) else Option.none

noncomputable def evAnd : List E → Lo → Hp → Option (V × Hp)
  | [], _, _ => Option.none
  | e :: es, ρ, H => bif es.isEmpty then R.ev e ρ H else (R.ev e ρ H).bind fun (v, H) => v.bool?.bind fun b => bif b then evAnd es ρ H else some (.bool false, H)
noncomputable def evOr : List E → Lo → Hp → Option (V × Hp)
  | [], _, _ => Option.none
  | e :: es, ρ, H => bif es.isEmpty then R.ev e ρ H else (R.ev e ρ H).bind fun (v, H) => v.bool?.bind fun b => bif b then some (.bool true, H) else evOr es ρ H

noncomputable def evCmp (left : V) : List Cop → List E → Lo → Hp → Option (V × Hp)
  | o :: os, e :: es, ρ, H => (R.ev e ρ H).bind fun (v, H) => (cop o H left v).bind fun b =>
    bif b && !es.isEmpty then evCmp v os es ρ H else some (.bool b, H)
  | _, _, _, _ => Option.none

/-- what a loop walks over -/
noncomputable def rangeI (l : List Int) : Option (List V) := match l with
  | [n] => bif okLen n.toNat && okInt n then some ((List.range n.toNat).map fun (i : Nat) => V.int (i : Int)) else Option.none
  | [a, b] => bif okLen (b - a).toNat && okInt a && okInt b then some ((List.range (b - a).toNat).map fun (i : Nat) => V.int (a + (i : Int))) else Option.none
  | _ => Option.none
noncomputable def E.range? (e : E) : Option (List E) := match e with
  | .range l => some l
  | _ => Option.none
noncomputable def evIt (e : E) (ρ : Lo) (H : Hp) : Option (List V × Hp) := match e.range? with
  | some l => (evs R l ρ H).bind fun (vs, H) => (allInts vs).bind fun is => (rangeI is).map fun l => (l, H)
  | Option.none => (R.ev e ρ H).bind fun (v, H) => (items v).map fun l => (l, H)

/-- targets that are names alone -/
noncomputable def bindTs : List Nat → List V → Lo → Option Lo
  | [], [], ρ => some ρ
  | i :: ts, v :: vs, ρ => bindTs ts vs (lset ρ i v)
  | _, _, _ => Option.none
noncomputable def bindT : T → V → Lo → Option Lo
  | .var i, v, ρ => some (lset ρ i v)
  | .tup l, v, ρ => (items v).bind fun vs => bindTs l vs ρ
  | .attr _ _, _, _ => Option.none
  | .sub _ _, _, _ => Option.none

noncomputable def evIfs : List E → Lo → Hp → Option (Bool × Hp)
  | [], _, H => some (true, H)
  | e :: es, ρ, H => (R.ev e ρ H).bind fun (v, H) => v.bool?.bind fun b => bif b then evIfs es ρ H else some (false, H)

noncomputable def nodupB : List Nat → Bool
  | [] => true
  | i :: l => !(l.any (Nat.beq i)) && nodupB l
noncomputable def tgtB : T → List Nat
  | .var i => [i]
  | .tup l => l
  | .attr _ _ => []
  | .sub _ _ => []
noncomputable def tgtsOf (gs : List G) : List Nat := gs.flatMap fun | .mk t _ _ => tgtB t
noncomputable def n_dot0 : Nat := 12334
noncomputable def ldel (l : List Nat) (ρ : Lo) : Lo := ρ.filter fun p => !(l.any (Nat.beq p.1))

/-- a comprehension: its clauses from outside in -/
noncomputable def evComp (elt : E) : List G → Lo → Hp → Option (List V × Hp)
  | [], ρ, H => (R.ev elt ρ H).bind fun (v, H) => some ([v], H)
  | .mk t it ifs :: gs, ρ, H => (evIt R it ρ H).bind fun (vs, H) => loop t ifs (evComp elt gs) vs ρ H
where loop (t : T) (ifs : List E) (inner : Lo → Hp → Option (List V × Hp)) : List V → Lo → Hp → Option (List V × Hp)
  | [], _, H => some ([], H)
  | v :: vs, ρ, H => (bindT t v ρ).bind fun ρ' => (evIfs R ifs ρ' H).bind fun (b, H) =>
    (bif b then inner ρ' H else some ([], H)).bind fun (ws, H) => (loop t ifs inner vs ρ H).bind fun (us, H) => some (ws ++ us, H)

noncomputable def evOpt : Option E → Lo → Hp → Option (Option Int × Hp)
  | Option.none, _, H => some (Option.none, H)
  | some e, ρ, H => (R.ev e ρ H).bind fun (v, H) => v.int?.bind fun i => bif okInt i then some (some i, H) else Option.none

noncomputable def mkDict (k : DK) (ks vs : List V) : Option O := match k with
  | .i => (allInts ks).map fun is => .dI ((is.zip vs).foldl (fun d p => setI d p.1 p.2) [])
  | .s => (allStrs ks).map fun ss => .dS ((ss.zip vs).foldl (fun d p => lset d p.1 p.2) [])
  | .t => bif ks.isEmpty then some (.dT []) else Option.none

noncomputable def evPairs : List E → List E → Lo → Hp → Option ((List V × List V) × Hp)
  | k :: ks, e :: es, ρ, H => (R.ev k ρ H).bind fun (kv, H) => (R.ev e ρ H).bind fun (v, H) => (evPairs ks es ρ H).bind fun (x, H) => some ((kv :: x.1, v :: x.2), H)
  | _, _, _, H => some (([], []), H)

noncomputable def n_append : Nat := 110425311047777
noncomputable def n_pop : Nat := 7368560
noncomputable def n_extend : Nat := 110425311311973
noncomputable def n_get : Nat := 7628135
noncomputable def n_init : Nat := 6872339552563453791
noncomputable def n_self : Nat := 1718379891

noncomputable def O.isList : O → Bool
  | .list _ => true
  | _ => false
noncomputable def O.isDict : O → Bool
  | .dI _ | .dS _ | .dT _ => true
  | _ => false
/-- methods of lists and dicts -/
noncomputable def getV (o : O) (k d : V) : Option V := match o with
  | .dI l => k.int?.map fun i => (getI l i).getD d
  | .dS l => k.str?.map fun i => (lk l i).getD d
  | .dT l => bif k.isKey then some ((getT l k).getD d) else Option.none
  | _ => Option.none
noncomputable def methB (r : Nat) (o : O) (m : Nat) (args : List V) (H : Hp) : Option (V × Hp) := match o.list? with
  | some l => (one? args).bind fun v => bif Nat.beq m n_append && okLen l.length then some (.none, H.set r (.list (l ++ [v]))) else Option.none
  | Option.none => (two? args).bind fun x => bif Nat.beq m n_get then (getV o x.1 x.2).map fun v => (v, H) else Option.none

noncomputable def O.dI? (o : O) : Option (List (Int × V)) := match o with | .dI l => some l | _ => Option.none
noncomputable def dictVals (H : Hp) (d : V) : Option (List V) := d.ref?.bind fun i => (nth H i).bind fun o => o.dI?.map fun l => l.map (·.2)

noncomputable def evStep : E → Lo → Hp → Option (V × Hp)
  | .none, _, H => some (.none, H)
  | .bool b, _, H => some (.bool b, H)
  | .num i, _, H => some (.int i, H)
  | .str s, _, H => some (.str s, H)
  | .var i, ρ, H => (lk ρ i).map fun v => (v, H)
  | .cst i, _, H => (lk P.consts i).map fun v => (v, H)
  | .and l, ρ, H => evAnd R l ρ H
  | .or l, ρ, H => evOr R l ρ H
  | .not a, ρ, H => (R.ev a ρ H).bind fun (v, H) => v.bool?.map fun b => (.bool (!b), H)
  | .bin op a b, ρ, H => (R.ev a ρ H).bind fun (x, H) => (R.ev b ρ H).bind fun (y, H) => (binV op x y).map fun v => (v, H)
  | .neg a, ρ, H => (R.ev a ρ H).bind fun (v, H) => v.int?.map fun i => (.int (-i), H)
  | .ite c a b, ρ, H => (R.ev c ρ H).bind fun (v, H) => v.bool?.bind fun t => bif t then R.ev a ρ H else R.ev b ρ H
  | .dict k ks es, ρ, H => (evPairs R ks es ρ H).bind fun (x, H) => (mkDict k x.1 x.2).map fun o => (.ref H.length, H ++ [o])
  | .list m l, ρ, H => (evs R l ρ H).bind fun (vs, H) => bif okLen vs.length then (bif m then some (.ref H.length, H ++ [.list vs]) else some (.lst vs, H)) else Option.none
  | .tup l, ρ, H => (evs R l ρ H).bind fun (vs, H) => bif okLen vs.length then some (.tup vs, H) else Option.none
  | .comp elt gens, ρ, H => (match gens with
    | [] => Option.none
    | .mk t it ifs :: gs => (evIt R it ρ H).bind fun (vs, H) => (evComp.loop R t ifs (evComp R elt gs) vs (ldel (n_dot0 :: tgtsOf (.mk t it ifs :: gs)) ρ) H).bind fun (ws, H) =>
      bif okLen ws.length then some (.lst ws, H) else Option.none)
  | .cmp a ops l, ρ, H => (R.ev a ρ H).bind fun (v, H) => evCmp R v ops l ρ H
  | .call f args, ρ, H => (lk P.funs f).bind fun fd => (evs R args ρ H).bind fun (vs, H) => callF R fd vs H
  | .new c args, ρ, H => (lk P.classes c).bind fun ms => (lk ms n_init).bind fun fd => (evs R args ρ H).bind fun (vs, H) =>
    (callF R fd (.ref H.length :: vs) (H ++ [.inst c []])).bind fun x => bif x.1.isNone then some (.ref H.length, x.2) else Option.none
  | .meth o m args, ρ, H => (R.ev o ρ H).bind fun (v, H) => v.ref?.bind fun r => (nth H r).bind fun ob => (match ob.inst? with
    | some x => bif (lk x.2 m).isSome then Option.none else (lk P.classes x.1).bind fun ms => (lk ms m).bind fun f => (evs R args ρ H).bind fun (vs, H) => callF R f (.ref r :: vs) H
    | Option.none => (evs R args ρ H).bind fun (vs, H) => (nth H r).bind fun ob2 =>
        bif (Nat.beq m n_append && ob.isList && ob2.isList) || (Nat.beq m n_get && ob.isDict && ob2.isDict) then methB r ob2 m vs H else Option.none)
  | .bi b args, ρ, H => (evs R args ρ H).bind fun (vs, H) => callBi b vs H
  | .inVals x d, ρ, H => (R.ev x ρ H).bind fun (v, H) => (R.ev d ρ H).bind fun (dv, H) => (dictVals H dv).bind fun l => bif v.flat && V.flats l then some (.bool (l.any fun y => V.beq y v), H) else Option.none
  | .attr o a, ρ, H => (R.ev o ρ H).bind fun (v, H) => v.ref?.bind fun r => (nth H r).bind fun ob => ob.inst?.bind fun x =>
      bif P.attrs.any (Nat.beq a) && (lk P.classes x.1).isSome then (lk x.2 a).map fun v => (v, H) else Option.none
  | .sub o i, ρ, H => (R.ev o ρ H).bind fun (x, H) => (R.ev i ρ H).bind fun (y, H) => (subV H x y).map fun v => (v, H)
  | .slice o lo hi, ρ, H => (R.ev o ρ H).bind fun (x, H) => (evOpt R lo ρ H).bind fun (a, H) => (evOpt R hi ρ H).bind fun (b, H) => (items x).bind fun l => (sliceL l a b).map fun l => (x.like l, H)
  | .fmt pre e post, ρ, H => (R.ev e ρ H).bind fun (v, H) => v.int?.bind fun i => (intText i).map fun t => (.str (strCat pre (strCat t post)), H)
  | .sup c m, ρ, H => (lk ρ n_self).bind fun v => (lk P.classes c).bind fun ms => (lk ms m).bind fun f => callF R f [v] H
  | .freeze e, ρ, H => (R.ev e ρ H).bind fun (v, H) => v.ref?.bind fun r => (nth H r).bind fun ob => ob.list?.map fun l => (.lst l, H.set r .dead)
  | .range _, _, _ => Option.none

noncomputable def asgT : T → V → Lo → Hp → Option (Lo × Hp)
  | .var i, v, ρ, H => some (lset ρ i v, H)
  | .attr o a, v, ρ, H => (R.ev o ρ H).bind fun (ov, H) => ov.ref?.bind fun r => (nth H r).bind fun ob => ob.inst?.bind fun x =>
      bif Nat.ble x.2.length 50 && P.attrs.any (Nat.beq a) && (lk P.classes x.1).isSome then some (ρ, H.set r (.inst x.1 (lset x.2 a v))) else Option.none
  | .sub o i, v, ρ, H => (R.ev o ρ H).bind fun (ov, H) => (R.ev i ρ H).bind fun (iv, H) => (setItemV H ov iv v).map fun H => (ρ, H)
  | .tup l, v, ρ, H => (bindT (.tup l) v ρ).map fun ρ => (ρ, H)

noncomputable def exFor (t : T) (b : List S) : List V → Lo → Hp → Option (Fl × Lo × Hp)
  | [], ρ, H => some (.nxt, ρ, H)
  | v :: vs, ρ, H => (bindT t v ρ).bind fun ρ => (R.exs b ρ H).bind fun (f, ρ, H) => match f.ret? with
    | some v => some (.ret v, ρ, H)
    | Option.none => exFor t b vs ρ H

noncomputable def exWhl (c : E) (b : List S) : Nat → Lo → Hp → Option (Fl × Lo × Hp)
  | 0, _, _ => Option.none
  | n + 1, ρ, H => (R.ev c ρ H).bind fun (v, H) => v.bool?.bind fun t => bif t then
      (R.exs b ρ H).bind fun (f, ρ, H) => (match f.ret? with
      | some v => some (.ret v, ρ, H)
      | Option.none => exWhl c b n ρ H)
    else some (.nxt, ρ, H)

noncomputable def turns : Nat := 100000

noncomputable def exStep : S → Lo → Hp → Option (Fl × Lo × Hp)
  | .expr e, ρ, H => (R.ev e ρ H).map fun (_, H) => (.nxt, ρ, H)
  | .ret e, ρ, H => (R.ev e ρ H).map fun (v, H) => (.ret v, ρ, H)
  | .asg t e, ρ, H => (R.ev e ρ H).bind fun (v, H) => (asgT P R t v ρ H).map fun (ρ, H) => (.nxt, ρ, H)
  | .ifs c a b, ρ, H => (R.ev c ρ H).bind fun (v, H) => v.bool?.bind fun t => bif t then R.exs a ρ H else R.exs b ρ H
  | .whl c b, ρ, H => exWhl R c b turns ρ H
  | .fr t e b, ρ, H => (evIt R e ρ H).bind fun (vs, H) => exFor R t b vs ρ H
  | .cont, ρ, H => some (.cont, ρ, H)
  | .rais, _, _ => Option.none

noncomputable def exsStep : List S → Lo → Hp → Option (Fl × Lo × Hp)
  | [], ρ, H => some (.nxt, ρ, H)
  | s :: r, ρ, H => (exStep P R s ρ H).bind fun (f, ρ, H) => bif f.isNxt then exsStep r ρ H else some (f, ρ, H)
end

noncomputable def sem (P : Prog) : Nat → Sems
  | 0 => ⟨fun _ _ _ => Option.none, fun _ _ _ => Option.none⟩
  | n + 1 => ⟨evStep P (sem P n), exsStep P (sem P n)⟩

/-! what the parts tell -/
theorem nn {α : Type} {a : α} {p : Prop} (h : Option.none = some a) : p := nomatch h
theorem ff {p : Prop} (h : false = true) : p := nomatch h
theorem int?_some {v : V} {i : Int} (h : v.int? = some i) : v = .int i := by induction v using Mini.V.casesOn <;> (first | exact nn h | cases h); rfl
theorem bool?_some {v : V} {i : Bool} (h : v.bool? = some i) : v = .bool i := by induction v using Mini.V.casesOn <;> (first | exact nn h | cases h); rfl
theorem str?_some {v : V} {i : Nat} (h : v.str? = some i) : v = .str i := by induction v using Mini.V.casesOn <;> (first | exact nn h | cases h); rfl
theorem num?_some {v : V} {i : Int} (h : v.num? = some i) : v = .int i ∨ ∃ b, v = .bool b ∧ i = if b then 1 else 0 := by
  induction v using Mini.V.casesOn <;> first | ((first | exact nn h | cases h); exact .inl rfl) | ((first | exact nn h | cases h); exact .inr ⟨_, rfl, rfl⟩) | exact nn h
theorem ref?_some {v : V} {i : Nat} (h : v.ref? = some i) : v = .ref i := by induction v using Mini.V.casesOn <;> (first | exact nn h | cases h); rfl
theorem lst?_some {v : V} {i : List V} (h : v.lst? = some i) : v = .lst i := by induction v using Mini.V.casesOn <;> (first | exact nn h | cases h); rfl
theorem items_some {v : V} {l : List V} (h : items v = some l) : v = .tup l ∨ v = .lst l := by induction v using Mini.V.casesOn <;> cases h <;> first | exact .inl rfl | exact .inr rfl
theorem none_of {v : V} (h : v.isNone = true) : v = .none := by induction v using Mini.V.casesOn <;> first | rfl | exact ff h
theorem list?_some {v : O} {i : List V} (h : v.list? = some i) : v = .list i := by induction v using Mini.O.casesOn <;> (first | exact nn h | cases h); rfl
theorem dI?_some {v : O} {i : List (Int × V)} (h : v.dI? = some i) : v = .dI i := by induction v using Mini.O.casesOn <;> (first | exact nn h | cases h); rfl
theorem inst?_some {v : O} {i : Nat × List (Nat × V)} (h : v.inst? = some i) : v = .inst i.1 i.2 := by induction v using Mini.O.casesOn <;> (first | exact nn h | cases h); rfl
theorem one?_some {l : List V} {v : V} (h : one? l = some v) : l = [v] := by
  induction l using List.casesOn with
  | nil => exact nn h
  | cons a l => induction l using List.casesOn <;> (first | exact nn h | cases h); rfl
theorem two?_some {l : List V} {v : V × V} (h : two? l = some v) : l = [v.1, v.2] := by
  induction l using List.casesOn with
  | nil => exact nn h
  | cons a l => induction l using List.casesOn with
    | nil => exact nn h
    | cons b l => induction l using List.casesOn <;> (first | exact nn h | cases h); rfl
theorem ite_some {α : Type} {b : Bool} {x : Option α} {y : α} (h : (bif b then x else Option.none) = some y) : b = true ∧ x = some y := by
  induction b using Bool.casesOn
  · exact nn h
  · exact ⟨rfl, h⟩
theorem bindP {α β γ : Type} {x : Option (α × β)} {g : α × β → Option γ} {r : γ} (h : x.bind g = some r) : ∃ a b, x = some (a, b) ∧ g (a, b) = some r :=
  (Option.bind_eq_some_iff.mp h).elim fun a h => ⟨a.1, a.2, h.1, h.2⟩
theorem bindP3 {α β γ δ : Type} {x : Option (α × β × δ)} {g : α × β × δ → Option γ} {r : γ} (h : x.bind g = some r) : ∃ a b c, x = some (a, b, c) ∧ g (a, b, c) = some r :=
  (Option.bind_eq_some_iff.mp h).elim fun a h => ⟨a.1, a.2.1, a.2.2, h.1, h.2⟩
theorem mapP {α β γ : Type} {x : Option (α × β)} {g : α × β → γ} {r : γ} (h : x.map g = some r) : ∃ a b, x = some (a, b) ∧ g (a, b) = r :=
  (Option.map_eq_some_iff.mp h).elim fun a h => ⟨a.1, a.2, h.1, h.2⟩
theorem pinj {α β : Type} {a c : α} {b d : β} (h : (a, b) = (c, d)) : a = c ∧ b = d := ⟨congrArg Prod.fst h, congrArg Prod.snd h⟩
theorem sinj {α β : Type} {a c : α} {b d : β} (h : some (a, b) = some (c, d)) : a = c ∧ b = d := pinj (Option.some.inj h)
theorem pinj3 {α β γ : Type} {a c : α} {b d : β} {e f : γ} (h : (a, b, e) = (c, d, f)) : a = c ∧ b = d ∧ e = f := ⟨(pinj h).1, pinj (pinj h).2⟩
theorem sinj3 {α β γ : Type} {a c : α} {b d : β} {e f : γ} (h : some (a, b, e) = some (c, d, f)) : a = c ∧ b = d ∧ e = f := pinj3 (Option.some.inj h)
theorem bind_some {α β : Type} {x : Option α} {g : α → Option β} {b : β} (h : x.bind g = some b) : ∃ a, x = some a ∧ g a = some b := Option.bind_eq_some_iff.mp h
theorem map_some {α β : Type} {x : Option α} {g : α → β} {b : β} (h : x.map g = some b) : ∃ a, x = some a ∧ g a = b := Option.map_eq_some_iff.mp h
/-! the same, as steps -/
theorem bsE {α β : Type} {x : Option α} {g : α → Option β} {b : β} {P : Prop} (h : x.bind g = some b) (k : ∀ a, x = some a → g a = some b → P) : P := (bind_some h).elim fun a h => k a h.1 h.2
theorem msE {α β : Type} {x : Option α} {g : α → β} {b : β} {P : Prop} (h : x.map g = some b) (k : ∀ a, x = some a → g a = b → P) : P := (map_some h).elim fun a h => k a h.1 h.2
theorem bpE {α β γ : Type} {x : Option (α × β)} {g : α × β → Option γ} {r : γ} {P : Prop} (h : x.bind g = some r) (k : ∀ a b, x = some (a, b) → g (a, b) = some r → P) : P := (bindP h).elim fun a h => h.elim fun b h => k a b h.1 h.2
theorem b3E {α β γ δ : Type} {x : Option (α × β × δ)} {g : α × β × δ → Option γ} {r : γ} {P : Prop} (h : x.bind g = some r) (k : ∀ a b c, x = some (a, b, c) → g (a, b, c) = some r → P) : P := (bindP3 h).elim fun a h => h.elim fun b h => h.elim fun c h => k a b c h.1 h.2
theorem mpE {α β γ : Type} {x : Option (α × β)} {g : α × β → γ} {r : γ} {P : Prop} (h : x.map g = some r) (k : ∀ a b, x = some (a, b) → g (a, b) = r → P) : P := (mapP h).elim fun a h => h.elim fun b h => k a b h.1 h.2
theorem itE {α : Type} {b : Bool} {x : Option α} {y : α} {P : Prop} (h : (bif b then x else Option.none) = some y) (k : b = true → x = some y → P) : P := k (ite_some h).1 (ite_some h).2
theorem x0a2 {A0 A1 P : Prop} (h : A0 ∧ A1) (k : A0 → A1 → P) : P := k h.1 h.2
theorem x0a3 {A0 A1 A2 P : Prop} (h : A0 ∧ A1 ∧ A2) (k : A0 → A1 → A2 → P) : P := k h.1 h.2.1 h.2.2
theorem x0a4 {A0 A1 A2 A3 P : Prop} (h : A0 ∧ A1 ∧ A2 ∧ A3) (k : A0 → A1 → A2 → A3 → P) : P := k h.1 h.2.1 h.2.2.1 h.2.2.2
theorem x1a1 {α0 : Sort _} {A0 : α0 → Prop} {P : Prop} (h : ∃ a0, A0 a0) (k : ∀ a0, A0 a0 → P) : P := h.elim fun a0 h => k a0 h
theorem x1a2 {α0 : Sort _} {A0 A1 : α0 → Prop} {P : Prop} (h : ∃ a0, A0 a0 ∧ A1 a0) (k : ∀ a0, A0 a0 → A1 a0 → P) : P := h.elim fun a0 h => k a0 h.1 h.2
theorem x1a3 {α0 : Sort _} {A0 A1 A2 : α0 → Prop} {P : Prop} (h : ∃ a0, A0 a0 ∧ A1 a0 ∧ A2 a0) (k : ∀ a0, A0 a0 → A1 a0 → A2 a0 → P) : P := h.elim fun a0 h => k a0 h.1 h.2.1 h.2.2
theorem x2a1 {α0 : Sort _} {α1 : Sort _} {A0 : α0 → α1 → Prop} {P : Prop} (h : ∃ a0 a1, A0 a0 a1) (k : ∀ a0 a1, A0 a0 a1 → P) : P := h.elim fun a0 h => h.elim fun a1 h => k a0 a1 h
theorem x2a2 {α0 : Sort _} {α1 : Sort _} {A0 A1 : α0 → α1 → Prop} {P : Prop} (h : ∃ a0 a1, A0 a0 a1 ∧ A1 a0 a1) (k : ∀ a0 a1, A0 a0 a1 → A1 a0 a1 → P) : P := h.elim fun a0 h => h.elim fun a1 h => k a0 a1 h.1 h.2
theorem x2a3 {α0 : Sort _} {α1 : Sort _} {A0 A1 A2 : α0 → α1 → Prop} {P : Prop} (h : ∃ a0 a1, A0 a0 a1 ∧ A1 a0 a1 ∧ A2 a0 a1) (k : ∀ a0 a1, A0 a0 a1 → A1 a0 a1 → A2 a0 a1 → P) : P := h.elim fun a0 h => h.elim fun a1 h => k a0 a1 h.1 h.2.1 h.2.2
theorem x2a4 {α0 : Sort _} {α1 : Sort _} {A0 A1 A2 A3 : α0 → α1 → Prop} {P : Prop} (h : ∃ a0 a1, A0 a0 a1 ∧ A1 a0 a1 ∧ A2 a0 a1 ∧ A3 a0 a1) (k : ∀ a0 a1, A0 a0 a1 → A1 a0 a1 → A2 a0 a1 → A3 a0 a1 → P) : P := h.elim fun a0 h => h.elim fun a1 h => k a0 a1 h.1 h.2.1 h.2.2.1 h.2.2.2
theorem x2a5 {α0 : Sort _} {α1 : Sort _} {A0 A1 A2 A3 A4 : α0 → α1 → Prop} {P : Prop} (h : ∃ a0 a1, A0 a0 a1 ∧ A1 a0 a1 ∧ A2 a0 a1 ∧ A3 a0 a1 ∧ A4 a0 a1) (k : ∀ a0 a1, A0 a0 a1 → A1 a0 a1 → A2 a0 a1 → A3 a0 a1 → A4 a0 a1 → P) : P := h.elim fun a0 h => h.elim fun a1 h => k a0 a1 h.1 h.2.1 h.2.2.1 h.2.2.2.1 h.2.2.2.2
theorem x3a1 {α0 : Sort _} {α1 : Sort _} {α2 : Sort _} {A0 : α0 → α1 → α2 → Prop} {P : Prop} (h : ∃ a0 a1 a2, A0 a0 a1 a2) (k : ∀ a0 a1 a2, A0 a0 a1 a2 → P) : P := h.elim fun a0 h => h.elim fun a1 h => h.elim fun a2 h => k a0 a1 a2 h
theorem x3a2 {α0 : Sort _} {α1 : Sort _} {α2 : Sort _} {A0 A1 : α0 → α1 → α2 → Prop} {P : Prop} (h : ∃ a0 a1 a2, A0 a0 a1 a2 ∧ A1 a0 a1 a2) (k : ∀ a0 a1 a2, A0 a0 a1 a2 → A1 a0 a1 a2 → P) : P := h.elim fun a0 h => h.elim fun a1 h => h.elim fun a2 h => k a0 a1 a2 h.1 h.2
theorem x3a3 {α0 : Sort _} {α1 : Sort _} {α2 : Sort _} {A0 A1 A2 : α0 → α1 → α2 → Prop} {P : Prop} (h : ∃ a0 a1 a2, A0 a0 a1 a2 ∧ A1 a0 a1 a2 ∧ A2 a0 a1 a2) (k : ∀ a0 a1 a2, A0 a0 a1 a2 → A1 a0 a1 a2 → A2 a0 a1 a2 → P) : P := h.elim fun a0 h => h.elim fun a1 h => h.elim fun a2 h => k a0 a1 a2 h.1 h.2.1 h.2.2
theorem x3a4 {α0 : Sort _} {α1 : Sort _} {α2 : Sort _} {A0 A1 A2 A3 : α0 → α1 → α2 → Prop} {P : Prop} (h : ∃ a0 a1 a2, A0 a0 a1 a2 ∧ A1 a0 a1 a2 ∧ A2 a0 a1 a2 ∧ A3 a0 a1 a2) (k : ∀ a0 a1 a2, A0 a0 a1 a2 → A1 a0 a1 a2 → A2 a0 a1 a2 → A3 a0 a1 a2 → P) : P := h.elim fun a0 h => h.elim fun a1 h => h.elim fun a2 h => k a0 a1 a2 h.1 h.2.1 h.2.2.1 h.2.2.2
theorem x3a5 {α0 : Sort _} {α1 : Sort _} {α2 : Sort _} {A0 A1 A2 A3 A4 : α0 → α1 → α2 → Prop} {P : Prop} (h : ∃ a0 a1 a2, A0 a0 a1 a2 ∧ A1 a0 a1 a2 ∧ A2 a0 a1 a2 ∧ A3 a0 a1 a2 ∧ A4 a0 a1 a2) (k : ∀ a0 a1 a2, A0 a0 a1 a2 → A1 a0 a1 a2 → A2 a0 a1 a2 → A3 a0 a1 a2 → A4 a0 a1 a2 → P) : P := h.elim fun a0 h => h.elim fun a1 h => h.elim fun a2 h => k a0 a1 a2 h.1 h.2.1 h.2.2.1 h.2.2.2.1 h.2.2.2.2
theorem x4a2 {α0 : Sort _} {α1 : Sort _} {α2 : Sort _} {α3 : Sort _} {A0 A1 : α0 → α1 → α2 → α3 → Prop} {P : Prop} (h : ∃ a0 a1 a2 a3, A0 a0 a1 a2 a3 ∧ A1 a0 a1 a2 a3) (k : ∀ a0 a1 a2 a3, A0 a0 a1 a2 a3 → A1 a0 a1 a2 a3 → P) : P := h.elim fun a0 h => h.elim fun a1 h => h.elim fun a2 h => h.elim fun a3 h => k a0 a1 a2 a3 h.1 h.2
theorem x4a3 {α0 : Sort _} {α1 : Sort _} {α2 : Sort _} {α3 : Sort _} {A0 A1 A2 : α0 → α1 → α2 → α3 → Prop} {P : Prop} (h : ∃ a0 a1 a2 a3, A0 a0 a1 a2 a3 ∧ A1 a0 a1 a2 a3 ∧ A2 a0 a1 a2 a3) (k : ∀ a0 a1 a2 a3, A0 a0 a1 a2 a3 → A1 a0 a1 a2 a3 → A2 a0 a1 a2 a3 → P) : P := h.elim fun a0 h => h.elim fun a1 h => h.elim fun a2 h => h.elim fun a3 h => k a0 a1 a2 a3 h.1 h.2.1 h.2.2
theorem t5 {α β : Sort _} {A B : α → Prop} {D : α → β → Prop} {P : Prop} (h : ∃ a, A a ∧ B a ∧ ∃ b, D a b) (k : ∀ a, A a → B a → ∀ b, D a b → P) : P := h.elim fun a h => h.2.2.elim fun b d => k a h.1 h.2.1 b d
theorem c5 {α β : Sort _} {A : Prop} {B D : α → β → Prop} {P : Prop} (h : A ∧ ∃ a b, B a b ∧ D a b) (k : A → ∀ a b, B a b → D a b → P) : P := h.2.elim fun a q => q.elim fun b q => k h.1 a b q.1 q.2
theorem sinjE {α β : Type} {a c : α} {b d : β} (h : some (a, b) = some (c, d)) {P : α → β → Prop} (k : P a b) : P c d := (sinj h).1 ▸ (sinj h).2 ▸ k
theorem someE {α : Type} {a c : α} (h : some a = some c) {P : α → Prop} (k : P a) : P c := Option.some.inj h ▸ k
theorem pinjE {α β : Type} {a c : α} {b d : β} (h : (a, b) = (c, d)) {P : α → β → Prop} (k : P a b) : P c d := (pinj h).1 ▸ (pinj h).2 ▸ k
theorem sinj3E {α β γ : Type} {a c : α} {b d : β} {e f : γ} (h : some (a, b, e) = some (c, d, f)) {P : α → β → γ → Prop} (k : P a b e) : P c d f := (sinj3 h).1 ▸ (sinj3 h).2.1 ▸ (sinj3 h).2.2 ▸ k
theorem pinj3E {α β γ : Type} {a c : α} {b d : β} {e f : γ} (h : (a, b, e) = (c, d, f)) {P : α → β → γ → Prop} (k : P a b e) : P c d f := (pinj3 h).1 ▸ (pinj3 h).2.1 ▸ (pinj3 h).2.2 ▸ k

end Mini
end
section
set_option autoImplicit false
namespace Mini
open PySem PySem.Calls PyProof.Rows
open PySem.W (Frag dictOf)

/-! the mini program is the row's own text -/
noncomputable def opOf : Bop → Operator
  | .add => .Add | .sub => .Sub | .mul => .Mult | .fdiv => .FloorDiv | .mod => .Mod | .pow => .Pow | .shl => .LShift | .shr => .RShift | .band => .BitAnd | .bor => .BitOr | .bxor => .BitXor
noncomputable def copOf : Cop → CmpOp
  | .eq => .Eq | .ne => .NotEq | .lt => .Lt | .le => .LtE | .gt => .Gt | .ge => .GtE | .isin => .In | .notin => .NotIn | .is => .Is | .isnot => .IsNot
noncomputable def biName : Bi → Str
  | .len => "len" | .sum => "sum" | .min => "min" | .max => "max" | .abs => "abs" | .int => "int" | .list => "list" | .tuple => "tuple" | .dict => "dict" | .isTuple => "isinstance" | .isInt => "isinstance"

noncomputable def sees (sc : Scope) (x : Str) : Bool := match sc.names.lookup x with
  | some .local | some .cell | some .free => true
  | _ => false
noncomputable def owns (sc : Scope) (x : Str) : Bool := match sc.names.lookup x with
  | some .local | some .cell => true
  | _ => false
noncomputable def globalIn (sc : Scope) (x : Str) : Bool := sc.names.lookup x == some .globalImplicit
noncomputable def notDebug (x : Str) : Bool := !(x == ("__debug__" : Str)) && !(x == ("__classdict__" : Str))
noncomputable def biTwo : Bi → Bool
  | .isTuple => true
  | .isInt => true
  | _ => false
noncomputable def biPlain : Bi → Bool
  | .isTuple => false
  | .isInt => false
  | .dict => false
  | _ => true
noncomputable def biOf : Bi → Str
  | .isTuple => "tuple"
  | _ => "int"

/-! what an expression is made of; a number for its kind -/
set_option genInjectivity false in
set_option genSizeOf false in
structure Pt where
  k : Nat
  a : Expr := default
  b : Expr := default
  c : Expr := default
  l : List Expr := []
  ol : List (Option Expr) := []
  o1 : Option Expr := Option.none
  o2 : Option Expr := Option.none
  s : Str := ""
  op : Operator := .Add
  os : List CmpOp := []
  gs : List Comprehension := []
  sc : Scope := default
  n : Nat := 0
  i : Int := 0
  bl : Bool := false
  p : Pos := default
noncomputable def pt (x : Expr) : Pt := match x with
  | .UnaryOp .Not a p => { k := 0, a, p }
  | .BoolOp .And l p => { k := 1, l, p }
  | .BoolOp .Or l p => { k := 2, l, p }
  | .IfExp a b c p => { k := 3, a, b, c, p }
  | .Compare a os l p => { k := 4, a, os, l, p }
  | .UnaryOp .USub a p => { k := 5, a, p }
  | .BinOp a op b p => { k := 6, a, op, b, p }
  | .Dict ol l p => { k := 7, ol, l, p }
  | .List l p => { k := 8, l, p }
  | .Tuple l n p => { k := 9, l, n, p }
  | .ListComp a gs sc p => { k := 10, a, gs, sc, p }
  | .Call a l [] p => { k := 11, a, l, p }
  | .Attribute a s p => { k := 12, a, s, p }
  | .Subscript a b p => { k := 13, a, b, p }
  | .JoinedStr l p => { k := 14, l, p }
  | .Name s p => { k := 15, s, p }
  | .Constant .none n p => { k := 16, n, p }
  | .Constant (.bool bl) n p => { k := 17, bl, n, p }
  | .Constant (.int i) n p => { k := 18, i, n, p }
  | .Constant (.str s) n p => { k := 19, s, n, p }
  | .Slice o1 o2 Option.none p => { k := 30, o1, o2, p }
  | .FormattedValue a i Option.none p => { k := 31, a, i, p }
  | .SetComp _ _ _ _ => { k := 41, a := x }
  | .DictComp _ _ _ _ _ => { k := 41, a := x }
  | x => { k := 50, a := x }
noncomputable def bks : List (Pt → Expr) := [fun q => .UnaryOp .Not q.a q.p, fun q => .BoolOp .And q.l q.p, fun q => .BoolOp .Or q.l q.p, fun q => .IfExp q.a q.b q.c q.p, fun q => .Compare q.a q.os q.l q.p, fun q => .UnaryOp .USub q.a q.p, fun q => .BinOp q.a q.op q.b q.p,
  fun q => .Dict q.ol q.l q.p, fun q => .List q.l q.p, fun q => .Tuple q.l q.n q.p, fun q => .ListComp q.a q.gs q.sc q.p, fun q => .Call q.a q.l [] q.p, fun q => .Attribute q.a q.s q.p, fun q => .Subscript q.a q.b q.p, fun q => .JoinedStr q.l q.p, fun q => .Name q.s q.p,
  fun q => .Constant .none q.n q.p, fun q => .Constant (.bool q.bl) q.n q.p, fun q => .Constant (.int q.i) q.n q.p, fun q => .Constant (.str q.s) q.n q.p, (·.a), (·.a), (·.a), (·.a), (·.a), (·.a), (·.a), (·.a), (·.a), (·.a), fun q => .Slice q.o1 q.o2 Option.none q.p, fun q => .FormattedValue q.a q.i Option.none q.p]
noncomputable def bk (k : Nat) : Pt → Expr := bks.getD k (·.a)
theorem bk_pt (x : Expr) : x = bk (pt x).k (pt x) := by
  cases x with
  | UnaryOp op a p => cases op <;> rfl
  | BoolOp op l p => cases op <;> rfl
  | Call a l ks p => induction ks using List.casesOn <;> rfl
  | Constant c n p => cases c <;> rfl
  | Slice o1 o2 o3 p => induction o3 using Option.casesOn <;> rfl
  | FormattedValue a i o p => induction o using Option.casesOn <;> rfl
  | _ => rfl
theorem bk_of {x : Expr} {k : Nat} (h : Nat.beq (pt x).k k = true) : x = bk k (pt x) := Nat.eq_of_beq_eq_true h ▸ bk_pt x
theorem and_l {a b : Bool} (h : (a && b) = true) : a = true := by induction a using Bool.casesOn; exact ff h; rfl
theorem and_r {a b : Bool} (h : (a && b) = true) : b = true := by induction a using Bool.casesOn; exact ff h; exact h
theorem and2 {a b : Bool} (h : (a && b) = true) : a = true ∧ b = true := ⟨and_l h, and_r h⟩
theorem and3 {a b c : Bool} (h : (a && b && c) = true) : a = true ∧ b = true ∧ c = true := ⟨and_l (and_l h), and_r (and_l h), and_r h⟩
theorem and4 {a b c d : Bool} (h : (a && b && c && d) = true) : a = true ∧ b = true ∧ c = true ∧ d = true := ⟨and_l (and_l (and_l h)), and_r (and_l (and_l h)), and_r (and_l h), and_r h⟩

noncomputable def isGlob (sc : Scope) (g : Str) (x : Expr) : Bool := Nat.beq (pt x).k 15 && ((pt x).s == g && globalIn sc (pt x).s && notDebug (pt x).s)
noncomputable def notSuper (x : Expr) : Bool := !(Nat.beq (pt x).k 11 && (Nat.beq (pt (pt x).a).k 15 && (pt x).l.isEmpty))
noncomputable def isVar (sc : Scope) (i : Nat) (ok : Scope → Str → Bool) (x : Expr) : Bool := Nat.beq (pt x).k 15 && (nm i == (pt x).s && ok sc (pt x).s && notDebug (pt x).s)

section
variable (me : Scope → E → Expr → Bool)
noncomputable def mtEs (sc : Scope) : List E → List Expr → Bool
  | [], [] => true
  | e :: es, x :: xs => me sc e x && mtEs sc es xs
  | _, _ => false
noncomputable def mtOpts (sc : Scope) : List E → List (Option Expr) → Bool
  | [], [] => true
  | e :: es, some x :: xs => me sc e x && mtOpts sc es xs
  | _, _ => false
noncomputable def mtOpt (sc : Scope) : Option E → Option Expr → Bool
  | Option.none, Option.none => true
  | some e, some x => me sc e x
  | _, _ => false
/-- what a loop walks over -/
noncomputable def mtIt (sc : Scope) (e : E) (x : Expr) : Bool := match e.range? with
  | some l => Nat.beq (pt x).k 11 && (isGlob sc "range" (pt x).a && mtEs me sc l (pt x).l)
  | Option.none => me sc e x
/-- targets that are names -/
noncomputable def mtBs (sc : Scope) : List Nat → List Expr → Bool
  | [], [] => true
  | i :: ts, x :: xs => isVar sc i owns x && mtBs sc ts xs
  | _, _ => false
noncomputable def mtB (sc : Scope) (t : T) (x : Expr) : Bool := match t with
  | .var i => isVar sc i owns x
  | .tup l => Nat.beq (pt x).k 9 && mtBs sc l (pt x).l
  | .attr _ _ => false
  | .sub _ _ => false
noncomputable def mtGs (sc : Scope) : List G → List Comprehension → Bool
  | [], [] => true
  | .mk t it ifs :: gs, c :: cs => mtB sc t c.target && mtIt me sc it c.iter && mtEs me sc ifs c.ifs && c.is_async == 0 && mtGs sc gs cs
  | _, _ => false
/-- the first clause's source stands in the scope around -/
noncomputable def mtGs1 (out sc : Scope) : List G → List Comprehension → Bool
  | .mk t it ifs :: gs, c :: cs => mtB sc t c.target && mtIt me out it c.iter && mtEs me sc ifs c.ifs && c.is_async == 0 && mtGs me sc gs cs
  | _, _ => false
end
/-- a comprehension's scope -/
noncomputable def scOk (out sc : Scope) (tg : List Nat) : Bool := sc.kind == .function && sc.names.all fun p =>
  match p.2 with
  | .local => sc.names.lookup p.1 == some .local && (p.1 == nm n_dot0 || tg.any fun i => nm i == p.1)
  | .cell => false
  | .free => sc.names.lookup p.1 == some .free && (match out.names.lookup p.1 with | some .cell | some .free => true | _ => false)
  | .globalImplicit => true
  | .globalExplicit => false

/-- the kind that an expression of the mini language has -/
noncomputable def ek : E → Nat
  | .not _ => 0 | .and _ => 1 | .or _ => 2 | .ite _ _ _ => 3 | .cmp _ _ _ => 4 | .inVals _ _ => 4
  | .neg _ => 5 | .bin _ _ _ => 6 | .dict _ _ _ => 7 | .list _ _ => 8 | .tup _ => 9 | .comp _ _ => 10
  | .call _ _ => 11 | .new _ _ => 11 | .meth _ _ _ => 11 | .bi _ _ => 11
  | .attr _ _ => 12 | .sub _ _ => 13 | .slice _ _ _ => 13 | .fmt _ _ _ => 14
  | .var _ => 15 | .cst _ => 15 | .freeze _ => 15
  | .none => 16 | .bool _ => 17 | .num _ => 18 | .str _ => 19
  | .range _ => 20 | .sup _ _ => 20
theorem ek_le (e : E) : Nat.ble (ek e) 20 = true := by cases e <;> rfl

noncomputable def one (l : List Expr) : Option Expr := match l with | [x] => some x | _ => Option.none
noncomputable def mtP (me : Scope → E → Expr → Bool) (sc : Scope) (e : E) (x : Expr) (q : Pt) : Bool := match e with
  | .none => true
  | .bool b => b == q.bl
  | .num i => i == q.i
  | .str s => nm s == q.s
  | .var i => isVar sc i sees x
  | .cst i => isVar sc i globalIn x
  | .and _ => false
  | .or l => mtEs me sc l q.l
  | .not a => me sc a q.a
  | .neg a => me sc a q.a
  | .bin op a b => q.op == opOf op && me sc a q.a && me sc b q.b
  | .ite c a b => me sc c q.a && me sc a q.b && me sc b q.c
  | .dict _ ks vs => mtOpts me sc ks q.ol && mtEs me sc vs q.l && Nat.ble ks.length 15 && Nat.beq ks.length vs.length
  | .list _ l => mtEs me sc l q.l
  | .tup l => mtEs me sc l q.l
  | .comp elt gs => scOk sc q.sc (tgtsOf gs) && nodupB (tgtsOf gs) && me q.sc elt q.a && mtGs1 me sc q.sc gs q.gs
  | .cmp a ops l => me sc a q.a && q.os == ops.map copOf && mtEs me sc l q.l && Nat.beq ops.length l.length
  | .call g args => isGlob sc (nm g) q.a && mtEs me sc args q.l && Nat.ble args.length 20
  | .new c args => isGlob sc (nm c) q.a && mtEs me sc args q.l && Nat.ble args.length 20
  | .meth o m args => Nat.beq (pt q.a).k 12 && (me sc o (pt q.a).a && (pt q.a).s == nm m && !(Nat.beq m n_init) && notSuper (pt q.a).a && (pt q.a).p.endLine == q.p.line && mtEs me sc args q.l && Nat.ble args.length 20)
  | .bi b args => isGlob sc (biName b) q.a && (biPlain b && mtEs me sc args q.l && Nat.ble args.length 20)
  | .inVals _ _ => false
  | .attr o a => me sc o q.a && q.s == nm a && notSuper q.a
  | .sub o i => me sc o q.a && me sc i q.b
  | .slice o lo hi => Nat.beq (pt q.b).k 30 && (me sc o q.a && mtOpt me sc lo (pt q.b).o1 && mtOpt me sc hi (pt q.b).o2)
  | .fmt pre e post => (match q.l with | [u, v, w] => Nat.beq (pt u).k 19 && (Nat.beq (pt v).k 31 && (Nat.beq (pt w).k 19 && ((pt v).i == -1 && ((pt u).s == nm pre && (pt w).s == nm post && Nat.ble (nmL pre).length 100 && Nat.ble (nmL post).length 100 && me sc e (pt v).a)))) | _ => false)
  | .sup _ _ => false
  | .freeze e => me sc e x
  | .range _ => false
noncomputable def mtE : Nat → Scope → E → Expr → Bool
  | 0, _, _, _ => false
  | f + 1, sc, e, x => Nat.beq (pt x).k (ek e) && mtP (mtE f) sc e x (pt x)

section
variable {f : Nat} {sc : Scope} {e : E} {x : Expr}
theorem mt0 {P : Prop} (h : mtE 0 sc e x = true) : P := by exact ff h
theorem mt_k : ∀ {f : Nat}, mtE f sc e x = true → (pt x).k = ek e
  | 0, h => mt0 h
  | _ + 1, h => Nat.eq_of_beq_eq_true (and_l h)
theorem mt_p (h : mtE (f + 1) sc e x = true) : mtP (mtE f) sc e x (pt x) = true := and_r h
/-- an expression is put together out of its parts -/
theorem mt_bk (h : mtE (f + 1) sc e x = true) : x = bk (ek e) (pt x) ∧ mtP (mtE f) sc e x (pt x) = true := ⟨bk_of (and_l h), and_r h⟩
end

noncomputable def mtT (f : Nat) (sc : Scope) (t : T) (x : Expr) : Bool := match t with
  | .var i => isVar sc i owns x
  | .attr o a => Nat.beq (pt x).k 12 && (mtE f sc o (pt x).a && (pt x).s == nm a)
  | .sub o i => Nat.beq (pt x).k 13 && (mtE f sc o (pt x).a && mtE f sc i (pt x).b)
  | .tup l => mtB sc (.tup l) x

/-- a statement's value: what is said of the order of its stores -/
noncomputable def isLst : Expr → Bool
  | .List _ _ => true
  | _ => false
noncomputable def plainVal (t : Expr) (v : Expr) : Bool := bif Nat.beq (pt v).k 9 then (bif Nat.beq (pt t).k 9 then !((pt v).l.all (constantsAlone 8)) else !(isLst t)) else true
noncomputable def isCall (x : Expr) : Bool := Nat.beq (pt x).k 11

/-! and statements -/
set_option genInjectivity false in
set_option genSizeOf false in
structure Sp where
  k : Nat
  a : Expr := default
  b : Expr := default
  o : Option Expr := Option.none
  o2 : Option Expr := Option.none
  l : List Stmt := []
  l2 : List Stmt := []
  x : Stmt := default
  p : Pos := default
noncomputable def sp (x : Stmt) : Sp := match x with
  | .Expr a p => { k := 0, a, p }
  | .Return o p => { k := 1, o, p }
  | .Assign [a] b p => { k := 2, a, b, p }
  | .If a l l2 p => { k := 3, a, l, l2, p }
  | .While a l [] p => { k := 4, a, l, p }
  | .For a b l [] p => { k := 5, a, b, l, p }
  | .Continue p => { k := 6, p }
  | .Raise o o2 p => { k := 7, o, o2, p }
  | x => { k := 50, x }
noncomputable def sbks : List (Sp → Stmt) := [fun q => .Expr q.a q.p, fun q => .Return q.o q.p, fun q => .Assign [q.a] q.b q.p, fun q => .If q.a q.l q.l2 q.p, fun q => .While q.a q.l [] q.p, fun q => .For q.a q.b q.l [] q.p, fun q => .Continue q.p, fun q => .Raise q.o q.o2 q.p]
noncomputable def sbk (k : Nat) : Sp → Stmt := sbks.getD k (·.x)
theorem sbk_sp (x : Stmt) : x = sbk (sp x).k (sp x) := by
  cases x with
  | Assign l b p =>
    induction l using List.casesOn with
    | nil => rfl
    | cons a l => induction l using List.casesOn <;> rfl
  | While a l l2 p => induction l2 using List.casesOn <;> rfl
  | For a b l l2 p => induction l2 using List.casesOn <;> rfl
  | _ => rfl
noncomputable def sk : S → Nat
  | .expr _ => 0 | .ret _ => 1 | .asg _ _ => 2 | .ifs _ _ _ => 3 | .whl _ _ => 4 | .fr _ _ _ => 5 | .cont => 6 | .rais => 7
noncomputable def isNone : E → Bool
  | .none => true
  | _ => false

noncomputable def mtSP (f : Nat) (go : List S → List Stmt → Bool) (sc : Scope) (s : S) (q : Sp) : Bool := match s with
  | .expr e => isCall q.a && mtE f sc e q.a
  | .ret e => (match q.o with
    | some y => mtE f sc e y
    | Option.none => isNone e)
  | .asg t e => mtT f sc t q.a && mtE f sc e q.b && plainVal q.a q.b && nodupB (tgtB t)
  | .ifs c a b => mtE f sc c q.a && go a q.l && go b q.l2
  | .whl c b => mtE f sc c q.a && go b q.l
  | .fr t e b => mtB sc t q.a && mtIt (mtE f) sc e q.b && go b q.l
  | .cont => true
  | .rais => true
noncomputable def mtSs (ms : S → Stmt → Bool) : List S → List Stmt → Bool
  | [], [] => true
  | s :: ss, x :: xs => ms s x && mtSs ms ss xs
  | _, _ => false
noncomputable def mtS : Nat → Scope → S → Stmt → Bool
  | 0, _, _, _ => false
  | f + 1, sc, s, x => Nat.beq (sp x).k (sk s) && mtSP f (mtSs (mtS f sc)) sc s (sp x)
theorem ms_bk {f : Nat} {sc : Scope} {s : S} {x : Stmt} (h : mtS (f + 1) sc s x = true) : x = sbk (sk s) (sp x) ∧ mtSP f (mtSs (mtS f sc)) sc s (sp x) = true := ⟨by rw [← Nat.eq_of_beq_eq_true (and_l h)]; exact sbk_sp x, and_r h⟩

end Mini
end
section
set_option autoImplicit false
namespace Mini
open PySem PySem.Calls PyProof.Rows
open PySem.W (Frag dictOf Looks findIn typeIn keepIn makesIn plainGet hasDictIn plainOver getL nsIn codeIn clsIn alongIn mroIn)

/-! the facts of the head, to be checked by evaluation -/
noncomputable def biNames : List Str := ["len", "sum", "min", "max", "abs", "int", "list", "tuple", "dict", "isinstance", "range", "zip", "enumerate", "sorted", "super"]
noncomputable def vref? (v : Value) : Option Addr := match v with | .ref a => some a | _ => Option.none
noncomputable def vstr? (v : Value) : Option (Str × Tok) := match v with | .str a t => some (a, t) | _ => Option.none
noncomputable def vint? (v : Value) : Option (Int × Tok) := match v with | .int a t => some (a, t) | _ => Option.none
noncomputable def vbool? (v : Value) : Option Bool := match v with | .bool a => some a | _ => Option.none
noncomputable def isNoneV (v : Value) : Bool := match v with | .none => true | _ => false
set_option genInjectivity false in
set_option genSizeOf false in
/-- what is in an object, as far as it is asked -/
structure Dt where
  fn : Option FuncData := Option.none
  seq : Option (Array Value × Nat) := Option.none
  flds : Option (Array Value) := Option.none
  cell : Option (Option Value) := Option.none
noncomputable def dt (d : Data) : Dt := match d with
  | .func d => { fn := some d }
  | .seq xs n => { seq := some (xs, n) }
  | .fields xs => { flds := some xs }
  | .cell v => { cell := some v }
  | _ => {}
noncomputable def at? (K : Frag) {α : Type} (a : Addr) (g : Dt → Option α) : Option α := (K.lookup a).bind fun o => g (dt o.data)
mutual
noncomputable def chkVal (K : Frag) : Nat → V → Value → Bool
  | _, .none, x => isNoneV x
  | _, .bool b, x => (vbool? x).any fun c => b == c
  | _, .int i, x => (vint? x).any fun t => i == t.1
  | _, .str s, x => (vstr? x).any fun t => nm s == t.1
  | 0, .tup _, _ => false
  | f + 1, .tup l, x => (vref? x).any fun a => (K.lookup a).any fun o => o.cls == .type "tuple" && (dt o.data).seq.any fun q => chkVals K f l q.1.toList
  | _, .lst _, _ => false
  | _, .ref _, _ => false
noncomputable def chkVals (K : Frag) : Nat → List V → List Value → Bool
  | _, [], xs => xs.isEmpty
  | f, v :: vs, xs => xs.head?.any (fun x => chkVal K f v x) && chkVals K f vs xs.tail
end
noncomputable def localOrCell (k : Option NameKind) : Bool := k == some .local || k == some .cell
noncomputable def plainPar (p : Arguments) : Bool := p.posonlyargs.isEmpty && p.vararg.isNone && p.kwonlyargs.isEmpty && (p.kw_defaults.isEmpty && p.kwarg.isNone && p.defaults.isEmpty)
noncomputable def body? (b : FuncBody) : Option (List Stmt) := match b with | .stmts l => some l | .expr _ => Option.none
noncomputable def chkFd (K : Frag) (d : FuncData) (f : FDef) : Bool :=
  (plainPar d.params && d.params.args.map (·.arg) == f.params.map nm && nodupB f.params && isNoneV d.defaults) && (d.globals == mainGlobals && d.builtins == builtinsNs && d.scope.kind == .function && !d.scope.isGenerator) &&
  (!d.scope.isCoroutine && codeIn K d.code d.qualname && f.params.all (fun i => localOrCell (d.scope.names.lookup (nm i))) && d.closure.isEmpty) && (d.scope.names.all (fun p => !(p.2 == .free)) && (body? d.body).any fun st => mtSs (mtS 60 d.scope) f.body st)
noncomputable def chkFn (K : Frag) (a : Addr) (f : FDef) : Bool := keepIn K (.ref a) && (at? K a (·.fn)).any fun d => chkFd K d f
noncomputable def uno? {α : Type} (l : List α) : Option α := match l with | [x] => some x | _ => Option.none
noncomputable def des? {α : Type} (l : List α) : Option (α × List α) := match l with | x :: r => some (x, r) | _ => Option.none
noncomputable def S.sup? (s : S) : Option (Nat × Nat) := match s with | .expr (.sup c m) => some (c, m) | _ => Option.none
noncomputable def supCall (m : Nat) (x : Stmt) : Bool := Nat.beq (sp x).k 0 && (Nat.beq (pt (sp x).a).k 11 && ((pt (sp x).a).l.isEmpty && (Nat.beq (pt (pt (sp x).a).a).k 12 && ((pt (pt (sp x).a).a).s == nm m && ((pt (pt (sp x).a).a).p.endLine == (pt (sp x).a).p.line && (Nat.beq (pt (pt (pt (sp x).a).a).a).k 11 &&
  ((pt (pt (pt (sp x).a).a).a).l.isEmpty && (Nat.beq (pt (pt (pt (pt (sp x).a).a).a).a).k 15 && (pt (pt (pt (pt (sp x).a).a).a).a).s == ("super" : Str)))))))))
noncomputable def chkCell (K : Frag) (cc clsA : Addr) : Bool := (at? K cc (·.cell)).any fun v => v.any fun x => (vref? x).any fun a => a == clsA
noncomputable def chkCode (prog : Program) (K : Frag) (cd : Value) : Bool := (vref? cd).any fun cda => (at? K cda (·.flds)).any fun vs => (vs : Array Value)[2]?.any fun v => (vstr? v).any fun f => (prog.main.file : Str) == f.1
noncomputable def chkF2 (K : Frag) (P : Prog) (c2 m2 : Nat) (v : Value) : Bool := (vref? v).any fun f2 => typeIn K (.ref f2) == some (.type "function") && keepIn K (.ref f2) && (lk P.classes c2).any fun ms2 => (lk ms2 m2).any fun f2d => chkFn K f2 f2d
noncomputable def chkSupD (prog : Program) (K : Frag) (P : Prog) (clsA : Addr) (c2 m2 : Nat) (b2 : List S) (d : FuncData) : Bool :=
  (plainPar d.params && isNoneV d.defaults && d.globals == mainGlobals && d.builtins == builtinsNs) && (d.scope.kind == .function && !d.scope.isGenerator && !d.scope.isCoroutine && codeIn K d.code d.qualname) &&
  (d.scope.names.lookup (nm n_self) == some .local && d.scope.names.lookup ("super" : Str) == some .globalImplicit && d.scope.names.lookup ("__class__" : Str) == some .free && d.scope.names.all (fun p => !(p.2 == .cell) && (!(p.2 == .free) || p.1 == ("__class__" : Str)))) &&
  ((chkCode prog K d.code && mroIn K clsA (.ref clsA) == some true && !(prog.main.scope.names.lookup ("super" : Str)).isSome && nsIn K cStatics "thirdparty.any" == some none) && (!(nm m2 == ("__class__" : Str)) &&
    (uno? d.params.args).any (fun ar => ar.arg == nm n_self) && (uno? d.closure).any (fun x => x.1 == ("__class__" : Str) && chkCell K x.2 clsA) && (body? d.body).any fun st => (des? st).any fun x => supCall m2 x.1 && mtSs (mtS 60 d.scope) b2 x.2) &&
    (clsIn K clsA).any fun cd => (alongIn K (nm m2) ((cd.mro.dropWhile (· != .ref clsA)).drop 1)).any fun v => v.any (chkF2 K P c2 m2))
noncomputable def chkSup (prog : Program) (K : Frag) (P : Prog) (clsA a : Addr) (f : FDef) : Bool := (uno? f.params).any (fun i => Nat.beq i n_self) && (des? f.body).any fun b => b.1.sup?.any fun x => (at? K a (·.fn)).any (chkSupD prog K P clsA x.1 x.2 b.2)
noncomputable def mgRef (K : Frag) (i : Nat) : Option Addr := (nsIn K mainGlobals (nm i)).bind fun v => v.bind vref?
noncomputable def clsOf (K : Frag) (c : Nat) : Addr := (mgRef K c).getD 0
noncomputable def inRef (K : Frag) (clsA : Addr) (x : Str) : Option Addr := (findIn K (.ref clsA) x).bind fun v => v.bind vref?
noncomputable def chkMeth (K : Frag) (clsA : Addr) (m : Nat) (f : FDef) : Bool := (inRef K clsA (nm m)).any fun a => typeIn K (.ref a) == some (.type "function") && (Nat.beq m n_init || chkFn K a f)
noncomputable def chkInit (prog : Program) (K : Frag) (P : Prog) (clsA : Addr) (f : FDef) : Bool := (inRef K clsA "__init__").any fun a => typeIn K (.ref a) == some (.type "function") && (chkFn K a f || chkSup prog K P clsA a f)
noncomputable def chkCls (prog : Program) (K : Frag) (P : Prog) (c : Nat) (ms : List (Nat × FDef)) : Bool :=
  ((mgRef K c).any (fun a => a == clsOf K c) && makesIn K (clsOf K c) && keepIn K (.ref (clsOf K c)) && plainGet K (clsOf K c) Str.empty) && (hasDictIn K (clsOf K c) &&
  findIn K (.ref (clsOf K c)) "__setattr__" == some (some (.builtin "object.__setattr__")) && plainOver K (clsOf K c) && P.attrs.all (fun a => findIn K (.ref (clsOf K c)) (nm a) == some none)) && (ms.all (fun p => chkMeth K (clsOf K c) p.1 p.2) &&
  ms.all (fun p => !(Nat.beq p.1 n_init) || chkInit prog K P (clsOf K c) p.2))
noncomputable def chkGlob (K : Frag) (i : Nat) (f : FDef) : Bool := (mgRef K i).any fun a => chkFn K a f
noncomputable def chkConst (K : Frag) (i : Nat) (v : V) : Bool := (nsIn K mainGlobals (nm i)).any fun x => x.any (chkVal K 5 v)
noncomputable def chkAll (prog : Program) (K : Frag) (P : Prog) : Bool :=
  P.consts.all (fun p => chkConst K p.1 p.2) && P.funs.all (fun p => chkGlob K p.1 p.2) && P.classes.all (fun p => chkCls prog K P p.1 p.2) && biNames.all (fun x => nsIn K mainGlobals x == some none)
end Mini
end
section
-- printed by gen.py out of the text of law 3
namespace Mini.L3
open Mini
/-- law(script) -/
noncomputable def law : FDef := ⟨[128026154263411],
  [.asg (.tup [461229749363, 1802396002]) (.tup [.dict .s [.str 495740282211, .str 1852994932] [.comp (.bin .mod (.bi .int [.var 1819043171]) (.num 1000003)) [.mk (.var 1819043171) (.slice (.var 128026154263411) Option.none (some (.num 30))) []], .num 0], .new 7741231747428410708 []]),
  .asg (.tup [119, 7954807]) (.tup [.bin .add (.num 1) (.call 2202184329901648211039 [.var 461229749363, .num 3]), .call 2202184329901648211039 [.var 461229749363, .num 4]]),
  .asg (.tup [1953656691, 125779768604014]) (.tup [.meth (.var 1802396002) 32776920301008482 [.var 119], .call 2202184329901648211039 [.var 461229749363, .bin .pow (.num 2) (.var 119)]]),
  .asg (.tup [120, 491327616111]) (.tup [.meth (.var 1802396002) 140780504389038964637790822 [.str 120, .var 1953656691], .meth (.var 1802396002) 140780504389038964637790822 [.str 121, .var 1953656691]]),
  .asg (.var 121) (.sub (.tup [.var 491327616111, .meth (.var 1802396002) 120351130351202 [.var 125779768604014, .var 119], .meth (.var 1802396002) 120351130351202 [.num 0, .var 119], .var 120]) (.var 7954807)),
  .asg (.tup [435526333802, 1852994932, 2037277037]) (.tup [.new 7306919375355013442 [.var 1802396002], .call 2202184329901648211039 [.var 461229749363, .bin .mul (.num 7) (.var 119)], .bin .add (.num 7) (.bin .mul (.num 7) (.var 119))]),
  .asg (.var 128017496895341) (.bin .add (.num 1) (.call 2202184329901648211039 [.var 461229749363, .var 2037277037])),
  .fr (.var 1885697139) (.range [.var 128017496895341])
    [.expr (.call 478792549928557124611167 [.var 1802396002, .var 120, .var 121, .var 1885697139, .var 1852994932])],
  .asg (.tup [1702521203, 113, 114]) (.tup [.meth (.var 1802396002) 1702521203 [], .meth (.var 1802396002) 122558844204642 [.str 130195029063266, .var 120, .var 121], .meth (.var 1802396002) 122558844204642 [.str 120282479425122, .var 120, .var 121]]),
  .asg (.var 521510478181) (.comp (.meth (.var 435526333802) 2340513319633950182876439995902308 [.var 113, .var 105]) [.mk (.var 105) (.range [.bin .add (.bin .mul (.num 3) (.var 119)) (.num 1)]) []]),
  .fr (.var 1885697139) (.range [.var 128017496895341, .var 2037277037])
    [.expr (.call 478792549928557124611167 [.var 1802396002, .var 120, .var 121, .var 1885697139, .var 1852994932])],
  .asg (.var 1702125932) (.comp (.meth (.var 435526333802) 2340513319633950182876439995902308 [.var 113, .var 105]) [.mk (.var 105) (.range [.bin .add (.bin .mul (.num 3) (.var 119)) (.num 1)]) []]),
  .ifs (.cmp (.var 521510478181) [.ne] [.comp (.comp (.comp (.ite (.cmp (.bi .abs [.var 6647407]) [.le] [.var 1702521203]) (.var 6647407) (.num 0)) [.mk (.var 6647407) (.var 1701734764) []]) [.mk (.var 1701734764) (.var 495622973804) []]) [.mk (.var 495622973804) (.var 1702125932) []]])
    [.ret (.bool false)]
    [],
  .ifs (.or [.cmp (.var 1702125932) [.ne] [.comp (.meth (.var 435526333802) 2340513319633950182876439995902308 [.var 114, .var 105]) [.mk (.var 105) (.range [.bin .add (.bin .mul (.num 3) (.var 119)) (.num 1)]) []]], .cmp (.num 0) [.isin] [.comp (.var 6647407) [.mk (.var 495622973804) (.var 1702125932) [], .mk (.var 1701734764) (.var 495622973804) [], .mk (.var 6647407) (.var 1701734764) []]]])
    [.ret (.bool false)]
    [],
  .ifs (.cmp (.comp (.var 1701734764) [.mk (.var 1701734764) (.meth (.var 435526333802) 2340513319633950182876439995902308 [.var 113, .bin .add (.bin .mul (.num 3) (.var 119)) (.num 1)]) [.cmp (.num 0) [.notin] [.var 1701734764]]]) [.ne] [.list false []])
    [.ret (.bool false)]
    [],
  .asg (.var 521610294885) (.comp (.var 1701734764) [.mk (.var 495622973804) (.var 1702125932) [], .mk (.var 1701734764) (.var 495622973804) []]),
  .fr (.tup [97, 98]) (.call 545182667828414138903647 [.var 461229749363, .var 119, .var 7954807, .var 125779768604014])
    [.asg (.var 431349919590) (.list true []),
    .fr (.var 107) (.range [.bin .pow (.num 4) (.var 119)])
      [.asg (.var 474450194027) (.dict .i [.var 120, .var 491327616111, .var 113, .var 114] [.var 97, .var 98, .bin .fdiv (.var 107) (.bin .pow (.num 2) (.var 119)), .bin .mod (.var 107) (.bin .pow (.num 2) (.var 119))]),
      .ifs (.call 7956375316139483882576807029855 [.var 1802396002, .var 521610294885, .var 474450194027])
        [.expr (.meth (.var 431349919590) 110425311047777 [.tup [.sub (.var 474450194027) (.var 113), .sub (.var 474450194027) (.var 114)]])]
        []],
    .ifs (.cmp (.freeze (.var 431349919590)) [.ne] [.list false [.call 7310859931293412447 [.var 97, .var 98, .var 119]]])
      [.ret (.bool false)]
      []],
  .ret (.bool true)]⟩
/-- _law_draw(stock, wide) -/
noncomputable def law_draw : FDef := ⟨[461229749363, 1701079415],
  [.asg (.var 1852994932) (.sub (.var 461229749363) (.str 1852994932)),
  .asg (.sub (.var 461229749363) (.str 1852994932)) (.bin .add (.var 1852994932) (.num 1)),
  .ifs (.cmp (.var 1852994932) [.lt] [.bi .len [.sub (.var 461229749363) (.str 495740282211)]])
    [.ret (.bin .mod (.sub (.sub (.var 461229749363) (.str 495740282211)) (.var 1852994932)) (.var 1701079415))]
    [],
  .ret (.bin .mod (.bin .mod (.bin .add (.bin .add (.bin .mul (.bin .mul (.num 3) (.var 1852994932)) (.var 1852994932)) (.bin .mul (.num 5) (.var 1852994932))) (.num 1)) (.num 71)) (.var 1701079415))]⟩
/-- _law_piece(bank, x, y, step, turn) -/
noncomputable def law_piece : FDef := ⟨[1802396002, 120, 121, 1885697139, 1852994932],
  [.asg (.var 119) (.meth (.var 1802396002) 448629336439 [.var 120]),
  .asg (.tup [113, 114]) (.tup [.meth (.var 1802396002) 122558844204642 [.str 130195029063266, .var 120, .var 121], .meth (.var 1802396002) 122558844204642 [.str 120282479425122, .var 120, .var 121]]),
  .ifs (.cmp (.var 1885697139) [.eq] [.num 0])
    [.ret .none]
    [],
  .asg (.var 1869768058) (.meth (.var 1802396002) 120351130351202 [.num 0, .var 119]),
  .ifs (.cmp (.var 1885697139) [.eq] [.num 1])
    [.expr (.meth (.var 1802396002) 29029 [.var 121, .var 1869768058])]
    [],
  .asg (.var 1701079415) (.comp (.meth (.var 1802396002) 121413913788299389279823226 [.var 119, .var 1953653104]) [.mk (.var 1953653104) (.slice (.tup [.var 113, .var 121, .var 114, .var 120]) Option.none (some (.bin .sub (.var 1885697139) (.num 1)))) []]),
  .ifs (.cmp (.var 1885697139) [.eq] [.num 6])
    [.expr (.meth (.var 1802396002) 122558844204642 [.str 500035843682, .var 114, .var 121])]
    [],
  .ifs (.cmp (.var 1885697139) [.gt] [.num 6])
    [.asg (.var 465491488628) (.meth (.var 1802396002) 122558844204642 [.str 431180838498, .meth (.var 1802396002) 122558844204642 [.str 465826575970, .sub (.var 1701079415) (.num 0), .sub (.var 1701079415) (.num 1)], .sub (.var 1701079415) (.num 2)]),
    .asg (.var 1937207154) (.bin .add (.comp (.tup [.var 1953653104, .var 105]) [.mk (.var 1953653104) (.tup [.var 465491488628, .sub (.var 1701079415) (.num 3)]) [], .mk (.var 105) (.range [.bin .mul (.num 2) (.var 119)]) []]) (.comp (.tup [.var 1953653104, .var 105]) [.mk (.var 1953653104) (.tup [.var 113, .var 114, .var 120]) [], .mk (.var 105) (.range [.var 119]) []])),
    .asg (.tup [1953653104, 105]) (.sub (.var 1937207154) (.bin .mod (.bin .add (.bin .sub (.var 1885697139) (.num 7)) (.var 1852994932)) (.bi .len [.var 1937207154]))),
    .expr (.meth (.var 1802396002) 7629154 [.var 105, .var 1953653104])]
    []]⟩
/-- _law_pairs(stock, w, way, number) -/
noncomputable def law_pairs : FDef := ⟨[461229749363, 119, 7954807, 125779768604014],
  [.asg (.var 1701670771) (.comp (.tup [.var 97, .var 98]) [.mk (.var 97) (.range [.bin .pow (.num 2) (.var 119)]) [], .mk (.var 98) (.range [.bin .pow (.num 2) (.var 119)]) []]),
  .ifs (.cmp (.var 119) [.gt] [.num 1])
    [.asg (.var 1701670771) (.comp (.sub (.var 1701670771) (.call 2202184329901648211039 [.var 461229749363, .bi .len [.var 1701670771]])) [.mk (.var 7364972) (.range [.bin .sub (.num 5) (.bin .mul (.num 2) (.bin .sub (.var 119) (.num 1)))]) []])]
    [],
  .ret (.comp (.tup [.var 97, .sub (.tup [.var 98, .var 125779768604014, .num 0, .var 97]) (.var 7954807)]) [.mk (.tup [97, 98]) (.var 1701670771) []])]⟩
/-- _law_all_hold(bank, lines, known) -/
noncomputable def law_all_hold : FDef := ⟨[1802396002, 495622973804, 474450194027],
  [.fr (.var 1701734764) (.var 495622973804)
    [.ifs (.cmp (.comp (.var 6647407) [.mk (.var 6647407) (.var 1701734764) [.cmp (.call 493274399485596566383711 [.var 1802396002, .bi .abs [.var 6647407], .var 474450194027]) [.eq] [.cmp (.var 6647407) [.gt] [.num 0]]]]) [.eq] [.list false []])
      [.ret (.bool false)]
      []],
  .ret (.bool true)]⟩
/-- _law_due(a, b, w) -/
noncomputable def law_due : FDef := ⟨[97, 98, 119],
  [.ifs (.cmp (.var 98) [.eq] [.num 0])
    [.ret (.tup [.bin .sub (.bin .pow (.num 2) (.var 119)) (.num 1), .var 97])]
    [],
  .asg (.var 2037277037) (.num 0),
  .whl (.cmp (.var 97) [.ge] [.var 98])
    [.asg (.tup [97, 2037277037]) (.tup [.bin .sub (.var 97) (.var 98), .bin .add (.var 2037277037) (.num 1)])],
  .ret (.tup [.var 2037277037, .var 97])]⟩
/-- TermBank.__init__(self) -/
noncomputable def TermBank_init : FDef := ⟨[1718379891],
  [.expr (.sup 507329363804909999060302 6872339552563453791),
  .asg (.attr (.var 1718379891) 545182379876308767176290) (.dict .i [] [])]⟩
/-- TermBank.bv_sort(self, width) -/
noncomputable def TermBank_bv_sort : FDef := ⟨[1718379891, 448629336439],
  [.ifs (.cmp (.var 448629336439) [.lt] [.num 1])
    [.rais]
    [],
  .ifs (.cmp (.var 448629336439) [.gt] [.cst 92716621121879])
    [.rais]
    [],
  .ifs (.cmp (.var 448629336439) [.notin] [.attr (.var 1718379891) 545182379876308767176290])
    [.expr (.meth (.attr (.var 1718379891) 544943148383632993972083) 110425311047777 [.fmt 152949257266967150092072 (.var 448629336439) 41]),
    .expr (.meth (.attr (.var 1718379891) 139519742427658876708089715) 110425311047777 [.var 448629336439]),
    .asg (.sub (.attr (.var 1718379891) 545182379876308767176290) (.var 448629336439)) (.bin .sub (.bi .len [.attr (.var 1718379891) 544943148383632993972083]) (.num 1))]
    [],
  .ret (.sub (.attr (.var 1718379891) 545182379876308767176290) (.var 448629336439))]⟩
/-- Bank.fresh_const(self, name, s) -/
noncomputable def Bank_fresh_const : FDef := ⟨[1718379891, 1701667182, 115],
  [.ret (.meth (.var 1718379891) 1701536109 [.str 7368801, .tup [], .var 115, .meth (.var 1718379891) 133536245478026645088724324 [.var 1701667182, .tup [], .var 115]])]⟩
/-- TermBank.bv_num(self, value, width) -/
noncomputable def TermBank_bv_num : FDef := ⟨[1718379891, 435761734006, 448629336439],
  [.asg (.var 115) (.meth (.var 1718379891) 32776920301008482 [.var 448629336439]),
  .ret (.meth (.var 1718379891) 1701536109 [.str 470121608802, .tup [], .var 115, .bin .mod (.var 435761734006) (.bin .shl (.num 1) (.var 448629336439))])]⟩
/-- Bank.size(self) -/
noncomputable def Bank_size : FDef := ⟨[1718379891],
  [.ret (.bin .sub (.bi .len [.attr (.var 1718379891) 8318270967402095988]) (.num 1))]⟩
/-- TermBank.bv_two(self, op, a, b) -/
noncomputable def TermBank_bv_two : FDef := ⟨[1718379891, 28783, 97, 98],
  [.expr (.meth (.var 1718379891) 2129763912419667501431 [.var 97, .var 28783]),
  .expr (.meth (.var 1718379891) 1953390967 [.var 98, .sub (.attr (.var 1718379891) 545220213778855941530996) (.var 97), .var 28783]),
  .ifs (.cmp (.var 28783) [.isin] [.cst 19506716360005186])
    [.ret (.meth (.var 1718379891) 1701536109 [.var 28783, .tup [.var 97, .var 98], .sub (.attr (.var 1718379891) 545220213778855941530996) (.var 97), .num 0])]
    [],
  .ifs (.cmp (.var 28783) [.isin] [.cst 82820951135810])
    [.ret (.meth (.var 1718379891) 1701536109 [.var 28783, .tup [.var 97, .var 98], .cst 1280266050, .num 0])]
    [],
  .rais]⟩
/-- BitJudge.__init__(self, bank) -/
noncomputable def BitJudge_init : FDef := ⟨[1718379891, 1802396002],
  [.asg (.attr (.var 1718379891) 1802396002) (.var 1802396002),
  .asg (.attr (.var 1718379891) 126879447277940) (.dict .t [] [])]⟩
/-- BitJudge.division_lines(self, t, i) -/
noncomputable def BitJudge_division_lines : FDef := ⟨[1718379891, 116, 105],
  [.asg (.tup [120, 121]) (.meth (.attr (.var 1718379891) 1802396002) 1936159329 [.var 116]),
  .asg (.var 119) (.meth (.attr (.var 1718379891) 1802396002) 448629336439 [.var 116]),
  .asg (.var 1869768058) (.meth (.var 1718379891) 1701077357 [.str 470121608802, .tup [], .var 119, .num 0]),
  .asg (.var 122) (.ite (.cmp (.var 121) [.eq] [.var 1869768058]) (.meth (.attr (.var 1718379891) 1802396002) 2018938226680385598068 []) (.meth (.attr (.var 1718379891) 1802396002) 1870354334177672718694 [.str 61, .tup [.bi .min [.var 121, .var 1869768058], .bi .max [.var 121, .var 1869768058]], .cst 1280266050, .num 0])),
  .asg (.tup [113, 114]) (.tup [.meth (.var 1718379891) 1701077357 [.str 130195029063266, .tup [.var 120, .var 121], .var 119, .num 0], .meth (.var 1718379891) 1701077357 [.str 120282479425122, .tup [.var 120, .var 121], .var 119, .num 0]]),
  .ifs (.cmp (.var 105) [.eq] [.bin .mul (.num 2) (.var 119)])
    [.ret (.list false [.list false [.var 122, .meth (.attr (.var 1718379891) 1802396002) 1870354334177672718694 [.str 500035843682, .tup [.var 114, .var 121], .cst 1280266050, .num 0]]])]
    [],
  .ifs (.cmp (.var 105) [.gt] [.bin .mul (.num 2) (.var 119)])
    [.asg (.tup [97, 98, 99]) (.comp (.meth (.var 1718379891) 112628528867682 [.bin .sub (.bin .sub (.var 105) (.bin .mul (.num 2) (.var 119))) (.num 1), .var 1953653104]) [.mk (.var 1953653104) (.tup [.var 113, .var 114, .var 120]) []]),
    .ret (.list false [.list false [.neg (.var 122), .var 97], .list false [.neg (.var 122), .neg (.var 98), .var 99], .list false [.neg (.var 122), .var 98, .neg (.var 99)]])]
    [],
  .asg (.var 1701079415) (.comp (.meth (.var 1718379891) 1701077357 [.str 121413913788299389279823226, .tup [.var 1953653104], .bin .mul (.num 2) (.var 119), .var 119]) [.mk (.var 1953653104) (.tup [.var 113, .var 121, .var 114, .var 120]) []]),
  .asg (.var 32760453145784944) (.meth (.var 1718379891) 1701077357 [.str 465826575970, .tup [.sub (.var 1701079415) (.num 0), .sub (.var 1701079415) (.num 1)], .bin .mul (.num 2) (.var 119), .num 0]),
  .asg (.var 6647407) (.meth (.var 1718379891) 112628528867682 [.var 105, .meth (.var 1718379891) 1701077357 [.str 431180838498, .tup [.var 32760453145784944, .sub (.var 1701079415) (.num 2)], .bin .mul (.num 2) (.var 119), .num 0]]),
  .asg (.var 491327616111) (.meth (.var 1718379891) 112628528867682 [.var 105, .sub (.var 1701079415) (.num 3)]),
  .ret (.list false [.list false [.var 122, .neg (.var 6647407), .var 491327616111], .list false [.var 122, .var 6647407, .neg (.var 491327616111)]])]⟩
/-- Bank.width(self, t) -/
noncomputable def Bank_width : FDef := ⟨[1718379891, 116],
  [.ret (.sub (.attr (.var 1718379891) 139519742427658876708089715) (.sub (.attr (.var 1718379891) 545220213778855941530996) (.var 116)))]⟩
/-- BoolBank.eq(self, a, b) -/
noncomputable def BoolBank_eq : FDef := ⟨[1718379891, 97, 98],
  [.expr (.meth (.var 1718379891) 1953390967 [.var 98, .sub (.attr (.var 1718379891) 545220213778855941530996) (.var 97), .str 61]),
  .ifs (.cmp (.var 97) [.eq] [.var 98])
    [.ret (.attr (.var 1718379891) 138296318119088462031581812)]
    [],
  .ret (.meth (.var 1718379891) 1701536109 [.str 61, .tup [.bi .min [.var 97, .var 98], .bi .max [.var 97, .var 98]], .cst 1280266050, .num 0])]⟩
/-- TermBank.zero_extend(self, many, t) -/
noncomputable def TermBank_zero_extend : FDef := ⟨[1718379891, 2037277037, 116],
  [.expr (.meth (.var 1718379891) 2129763912419667501431 [.var 116, .str 121413913788299389279823226]),
  .ifs (.cmp (.var 2037277037) [.lt] [.num 0])
    [.rais]
    [],
  .ret (.ite (.cmp (.var 2037277037) [.eq] [.num 0]) (.var 116) (.meth (.var 1718379891) 1701536109 [.str 121413913788299389279823226, .tup [.var 116], .meth (.var 1718379891) 32776920301008482 [.bin .add (.meth (.var 1718379891) 448629336439 [.var 116]) (.var 2037277037)], .var 2037277037]))]⟩
/-- TermBank.bit(self, i, t) -/
noncomputable def TermBank_bit : FDef := ⟨[1718379891, 105, 116],
  [.expr (.meth (.var 1718379891) 2129763912419667501431 [.var 116, .str 7629154]),
  .ifs (.not (.cmp (.num 0) [.le, .lt] [.var 105, .meth (.var 1718379891) 448629336439 [.var 116]]))
    [.rais]
    [],
  .ret (.meth (.var 1718379891) 1701536109 [.str 7629154, .tup [.var 116], .cst 1280266050, .var 105])]⟩
/-- BitJudge.bit(self, i, t) -/
noncomputable def BitJudge_bit : FDef := ⟨[1718379891, 105, 116],
  [.ret (.tup [.str 1836020833, .meth (.var 1718379891) 34169984019360098 [.var 105, .var 116]])]⟩
/-- _law_truth(bank, t, known) -/
noncomputable def law_truth : FDef := ⟨[1802396002, 116, 474450194027],
  [.asg (.var 1701670771) (.comp (.call 138296318119088462332259423 [.var 1802396002, .var 1953653104, .var 474450194027]) [.mk (.var 1953653104) (.meth (.var 1802396002) 1936159329 [.var 116]) []]),
  .ifs (.cmp (.meth (.var 1802396002) 28783 [.var 116]) [.eq] [.str 7629154])
    [.ret (.cmp (.bin .mod (.bin .fdiv (.sub (.var 1701670771) (.num 0)) (.bin .pow (.num 2) (.meth (.var 1802396002) 1635017060 [.var 116]))) (.num 2)) [.eq] [.num 1])]
    [],
  .ret (.or [.cmp (.var 1701670771) [.eq] [.list false []], .ite (.cmp (.meth (.var 1802396002) 28783 [.var 116]) [.eq] [.str 61]) (.cmp (.sub (.var 1701670771) (.num 0)) [.eq] [.sub (.var 1701670771) (.num 1)]) (.cmp (.sub (.var 1701670771) (.num 0)) [.lt] [.sub (.var 1701670771) (.num 1)])])]⟩
/-- Bank.__init__(self) -/
noncomputable def Bank_init : FDef := ⟨[1718379891],
  [.asg (.attr (.var 1718379891) 544943148383632993972083) (.list true [.str 1819242306, .str 7630409, .str 1818322258]),
  .asg (.attr (.var 1718379891) 139519742427658876708089715) (.list true [.num 0, .num 0, .num 0]),
  .asg (.attr (.var 1718379891) 2128684173373565990246) (.list true []),
  .asg (.attr (.var 1718379891) 8315740999501378918) (.list true []),
  .asg (.attr (.var 1718379891) 139576264479274861228619110) (.list true []),
  .asg (.attr (.var 1718379891) 140757021683833132378583654) (.num 0),
  .asg (.attr (.var 1718379891) 8318270967402095988) (.list true [.str 0]),
  .asg (.attr (.var 1718379891) 2128829695872336029044) (.list true [.tup []]),
  .asg (.attr (.var 1718379891) 545220213778855941530996) (.list true [.cst 1280266050]),
  .asg (.attr (.var 1718379891) 544869865799501187540340) (.list true [.num 0]),
  .asg (.attr (.var 1718379891) 32495402090329454) (.dict .t [] []),
  .asg (.attr (.var 1718379891) 138296318119088462031581812) (.meth (.var 1718379891) 1701536109 [.str 1702195828, .tup [], .cst 1280266050, .num 0]),
  .asg (.attr (.var 1718379891) 35403857438486646280050991462) (.meth (.var 1718379891) 1701536109 [.str 435728179558, .tup [], .cst 1280266050, .num 0])]⟩
/-- Bank.make(self, op, args, sort, data) -/
noncomputable def Bank_make : FDef := ⟨[1718379891, 28783, 1936159329, 1953656691, 1635017060],
  [.asg (.var 7955819) (.tup [.var 28783, .var 1936159329, .var 1953656691, .var 1635017060]),
  .asg (.var 431349919590) (.meth (.attr (.var 1718379891) 32495402090329454) 7628135 [.var 7955819, .num 0]),
  .ifs (.cmp (.var 431349919590) [.eq] [.num 0])
    [.asg (.var 431349919590) (.bi .len [.attr (.var 1718379891) 8318270967402095988]),
    .expr (.meth (.attr (.var 1718379891) 8318270967402095988) 110425311047777 [.var 28783]),
    .expr (.meth (.attr (.var 1718379891) 2128829695872336029044) 110425311047777 [.var 1936159329]),
    .expr (.meth (.attr (.var 1718379891) 545220213778855941530996) 110425311047777 [.var 1953656691]),
    .expr (.meth (.attr (.var 1718379891) 544869865799501187540340) 110425311047777 [.var 1635017060]),
    .asg (.sub (.attr (.var 1718379891) 32495402090329454) (.var 7955819)) (.var 431349919590)]
    [],
  .ret (.var 431349919590)]⟩
/-- Bank.declare_fun(self, name, arg_sorts, result) -/
noncomputable def Bank_declare_fun : FDef := ⟨[1718379891, 1701667182, 2129766460073655628385, 128009175786866],
  [.expr (.meth (.attr (.var 1718379891) 2128684173373565990246) 110425311047777 [.var 1701667182]),
  .expr (.meth (.attr (.var 1718379891) 8315740999501378918) 110425311047777 [.bi .tuple [.var 2129766460073655628385]]),
  .expr (.meth (.attr (.var 1718379891) 139576264479274861228619110) 110425311047777 [.var 128009175786866]),
  .ret (.bin .sub (.bi .len [.attr (.var 1718379891) 2128684173373565990246]) (.num 1))]⟩
/-- TermBank.want_bits(self, t, where) -/
noncomputable def TermBank_want_bits : FDef := ⟨[1718379891, 116, 435710945399],
  [.ifs (.cmp (.meth (.var 1718379891) 448629336439 [.var 116]) [.eq] [.num 0])
    [.rais]
    []]⟩
/-- Bank.want(self, t, s, where) -/
noncomputable def Bank_want : FDef := ⟨[1718379891, 116, 115, 435710945399],
  [.ifs (.cmp (.sub (.attr (.var 1718379891) 545220213778855941530996) (.var 116)) [.ne] [.var 115])
    [.rais]
    []]⟩
/-- Bank.args(self, t) -/
noncomputable def Bank_args : FDef := ⟨[1718379891, 116],
  [.ret (.sub (.attr (.var 1718379891) 2128829695872336029044) (.var 116))]⟩
/-- Bank.true_term(self) -/
noncomputable def Bank_true_term : FDef := ⟨[1718379891],
  [.ret (.attr (.var 1718379891) 138296318119088462031581812)]⟩
/-- Bank.find_made(self, op, args, sort, data) -/
noncomputable def Bank_find_made : FDef := ⟨[1718379891, 28783, 1936159329, 1953656691, 1635017060],
  [.ret (.meth (.attr (.var 1718379891) 32495402090329454) 7628135 [.tup [.var 28783, .var 1936159329, .var 1953656691, .var 1635017060], .num 0])]⟩
/-- BitJudge.made(self, op, some, width, data) -/
noncomputable def BitJudge_made : FDef := ⟨[1718379891, 28783, 1701670771, 448629336439, 1635017060],
  [.asg (.var 1953656691) (.meth (.attr (.var 1718379891) 1802396002) 36038604993646056347909646694 [.var 448629336439]),
  .ret (.ite (.or [.cmp (.var 1953656691) [.lt] [.num 0], .cmp (.num 0) [.isin] [.var 1701670771]]) (.num 0) (.meth (.attr (.var 1718379891) 1802396002) 1870354334177672718694 [.var 28783, .var 1701670771, .var 1953656691, .var 1635017060]))]⟩
/-- BitJudge.bit_of(self, i, t) -/
noncomputable def BitJudge_bit_of : FDef := ⟨[1718379891, 105, 116],
  [.ret (.ite (.cmp (.var 116) [.ne] [.num 0]) (.meth (.attr (.var 1718379891) 1802396002) 1870354334177672718694 [.str 7629154, .tup [.var 116], .cst 1280266050, .var 105]) (.num 0))]⟩
/-- BitJudge.bit_key(self, i, t) -/
noncomputable def BitJudge_bit_key : FDef := ⟨[1718379891, 105, 116],
  [.asg (.var 431349919590) (.meth (.attr (.var 1718379891) 1802396002) 1870354334177672718694 [.str 7629154, .tup [.var 116], .cst 1280266050, .var 105]),
  .ret (.ite (.cmp (.var 431349919590) [.ne] [.num 0]) (.var 431349919590) (.tup [.str 7629154, .var 105, .var 116]))]⟩
/-- _law_number(bank, t, known) -/
noncomputable def law_number : FDef := ⟨[1802396002, 116, 474450194027],
  [.ifs (.cmp (.var 116) [.isin] [.var 474450194027])
    [.ret (.sub (.var 474450194027) (.var 116))]
    [],
  .asg (.tup [28783, 1936159329]) (.tup [.meth (.var 1802396002) 28783 [.var 116], .meth (.var 1802396002) 1936159329 [.var 116]]),
  .ifs (.cmp (.var 28783) [.eq] [.str 470121608802])
    [.ret (.meth (.var 1802396002) 1635017060 [.var 116])]
    [],
  .asg (.var 1701670771) (.comp (.call 138296318119088462332259423 [.var 1802396002, .var 1953653104, .var 474450194027]) [.mk (.var 1953653104) (.var 1936159329) []]),
  .ifs (.cmp (.var 28783) [.eq] [.str 121413913788299389279823226])
    [.ret (.sub (.var 1701670771) (.num 0))]
    [],
  .ret (.bin .mod (.ite (.cmp (.var 28783) [.eq] [.str 465826575970]) (.bin .mul (.sub (.var 1701670771) (.num 0)) (.sub (.var 1701670771) (.num 1))) (.bin .add (.sub (.var 1701670771) (.num 0)) (.sub (.var 1701670771) (.num 1)))) (.bin .pow (.num 2) (.meth (.var 1802396002) 448629336439 [.var 116])))]⟩
/-- Bank.op(self, t) -/
noncomputable def Bank_op : FDef := ⟨[1718379891, 116],
  [.ret (.sub (.attr (.var 1718379891) 8318270967402095988) (.var 116))]⟩
/-- Bank.data(self, t) -/
noncomputable def Bank_data : FDef := ⟨[1718379891, 116],
  [.ret (.sub (.attr (.var 1718379891) 544869865799501187540340) (.var 116))]⟩
/-- TermBank.find_bv_sort(self, width) -/
noncomputable def TermBank_find_bv_sort : FDef := ⟨[1718379891, 448629336439],
  [.ret (.meth (.attr (.var 1718379891) 545182379876308767176290) 7628135 [.var 448629336439, .neg (.num 1)])]⟩
noncomputable def funs : List (Nat × FDef) := [(7823724, law), (2202184329901648211039, law_draw), (478792549928557124611167, law_piece), (545182667828414138903647, law_pairs), (7956375316139483882576807029855, law_all_hold), (7310859931293412447, law_due), (493274399485596566383711, law_truth), (138296318119088462332259423, law_number)]
noncomputable def classes : List (Nat × List (Nat × FDef)) := [
  (7741231747428410708, [(6872339552563453791, TermBank_init), (32776920301008482, TermBank_bv_sort), (140780504389038964637790822, Bank_fresh_const), (120351130351202, TermBank_bv_num), (1702521203, Bank_size), (122558844204642, TermBank_bv_two), (448629336439, Bank_width), (29029, BoolBank_eq), (121413913788299389279823226, TermBank_zero_extend), (7629154, TermBank_bit), (1701536109, Bank_make), (133536245478026645088724324, Bank_declare_fun), (2129763912419667501431, TermBank_want_bits), (1953390967, Bank_want), (1936159329, Bank_args), (2018938226680385598068, Bank_true_term), (1870354334177672718694, Bank_find_made), (28783, Bank_op), (1635017060, Bank_data), (36038604993646056347909646694, TermBank_find_bv_sort)]),
  (7306919375355013442, [(6872339552563453791, BitJudge_init), (2340513319633950182876439995902308, BitJudge_division_lines), (7629154, BitJudge_bit), (1701077357, BitJudge_made), (112628528867682, BitJudge_bit_of), (34169984019360098, BitJudge_bit_key)]),
  (507329363804909999060302, [(6872339552563453791, Bank_init), (140780504389038964637790822, Bank_fresh_const), (1702521203, Bank_size), (448629336439, Bank_width), (29029, BoolBank_eq), (1701536109, Bank_make), (133536245478026645088724324, Bank_declare_fun), (1953390967, Bank_want), (1936159329, Bank_args), (2018938226680385598068, Bank_true_term), (1870354334177672718694, Bank_find_made), (28783, Bank_op), (1635017060, Bank_data)])]
noncomputable def consts : List (Nat × V) := [(1280266050, .int 0), (92716621121879, .int 4096), (19506716360005186, .tup [.str 431348610658, .str 1919907426, .str 491496437346, .str 431180838498, .str 422877296226, .str 465826575970, .str 465608865378, .str 125792938653282, .str 130195029063266, .str 120282479425122]), (82820951135810, .tup [.str 500035843682, .str 435611334242, .str 500035712610, .str 435611203170])]
noncomputable def attrs : List Nat := [1802396002, 126879447277940, 32495402090329454, 8315740999501378918, 8318270967402095988, 2128684173373565990246, 2128829695872336029044, 544869865799501187540340, 544943148383632993972083, 545182379876308767176290, 545220213778855941530996, 138296318119088462031581812, 139519742427658876708089715, 139576264479274861228619110, 140757021683833132378583654, 35403857438486646280050991462]
noncomputable def P : Prog := ⟨funs, classes, consts, attrs⟩
end Mini.L3
end
section
open PySem PySem.W PyProof.Rows
set_option Elab.async true
set_option tactic.hygienic true
namespace PJ3
set_option maxRecDepth 100000
set_option maxHeartbeats 8000000
theorem law_holds.tw10055525068654871763 : True := ⟨⟩
theorem law_holds.tw10062407711084811166 : True := ⟨⟩
theorem law_holds.tw10066695825028256693 : True := ⟨⟩
theorem law_holds.tw10090948882452946998 : True := ⟨⟩
theorem law_holds.tw10114674065577470334 : True := ⟨⟩
theorem law_holds.tw10118171463862390511 : True := ⟨⟩
theorem law_holds.tw10122545177454158687 : True := ⟨⟩
theorem law_holds.tw10125193357045123323 : True := ⟨⟩
theorem law_holds.tw10130684144602280313 : True := ⟨⟩
theorem law_holds.tw1015727609476178782 : True := ⟨⟩
theorem law_holds.tw10165200745815714713 : True := ⟨⟩
theorem law_holds.tw10186287701791619776 : True := ⟨⟩
theorem law_holds.tw10193924117800640682 : True := ⟨⟩
theorem law_holds.tw10199566190632077752 : True := ⟨⟩
theorem law_holds.tw10210305467783472086 : True := ⟨⟩
theorem law_holds.tw10218480632221062592 : True := ⟨⟩
theorem law_holds.tw1021993794608563458 : True := ⟨⟩
theorem law_holds.tw10225358760269872995 : True := ⟨⟩
theorem law_holds.tw10231566119705972022 : True := ⟨⟩
theorem law_holds.tw10233149959548466399 : True := ⟨⟩
theorem law_holds.tw10248949259596907485 : True := ⟨⟩
theorem law_holds.tw10263032218938210683 : True := ⟨⟩
theorem law_holds.tw10267003377538194568 : True := ⟨⟩
theorem law_holds.tw10268202777054194449 : True := ⟨⟩
theorem law_holds.tw1027194718334371797 : True := ⟨⟩
theorem law_holds.tw10292004313527716090 : True := ⟨⟩
theorem law_holds.tw10292860423322849404 : True := ⟨⟩
theorem law_holds.tw10295584820668885999 : True := ⟨⟩
theorem law_holds.tw10298964968169144442 : True := ⟨⟩
theorem law_holds.tw10299015434835172814 : True := ⟨⟩
theorem law_holds.tw10310324398761569840 : True := ⟨⟩
theorem law_holds.tw10325979076999090715 : True := ⟨⟩
theorem law_holds.tw10441349914889439498 : True := ⟨⟩
theorem law_holds.tw10450481066484824270 : True := ⟨⟩
theorem law_holds.tw10486120530060887601 : True := ⟨⟩
theorem law_holds.tw10494289789745190775 : True := ⟨⟩
theorem law_holds.tw10527497738810014252 : True := ⟨⟩
theorem law_holds.tw10537955398954735053 : True := ⟨⟩
theorem law_holds.tw10549774281169542626 : True := ⟨⟩
theorem law_holds.tw105573460834727338 : True := ⟨⟩
theorem law_holds.tw10621217218821478748 : True := ⟨⟩
theorem law_holds.tw10624288051771749028 : True := ⟨⟩
theorem law_holds.tw10699717002309961390 : True := ⟨⟩
theorem law_holds.tw10740573279813834372 : True := ⟨⟩
theorem law_holds.tw10742384457381146793 : True := ⟨⟩
theorem law_holds.tw10746988514682562724 : True := ⟨⟩
theorem law_holds.tw10755298010753441971 : True := ⟨⟩
theorem law_holds.tw10769185646510300417 : True := ⟨⟩
theorem law_holds.tw10770615167358848632 : True := ⟨⟩
theorem law_holds.tw1078357723354313273 : True := ⟨⟩
theorem law_holds.tw10795294647537825664 : True := ⟨⟩
theorem law_holds.tw10843082513887622563 : True := ⟨⟩
theorem law_holds.tw1086728316344100627 : True := ⟨⟩
theorem law_holds.tw10875359485549138956 : True := ⟨⟩
theorem law_holds.tw10878444912995719435 : True := ⟨⟩
theorem law_holds.tw10895121346301690471 : True := ⟨⟩
theorem law_holds.tw10931451588019673676 : True := ⟨⟩
theorem law_holds.tw10948831387801699949 : True := ⟨⟩
theorem law_holds.tw10963062435448387763 : True := ⟨⟩
theorem law_holds.tw10969362442215031061 : True := ⟨⟩
theorem law_holds.tw10969870040616121709 : True := ⟨⟩
theorem law_holds.tw10969920995150530133 : True := ⟨⟩
theorem law_holds.tw10979178127753872111 : True := ⟨⟩
theorem law_holds.tw10991300664076479291 : True := ⟨⟩
theorem law_holds.tw11006665213612947589 : True := ⟨⟩
theorem law_holds.tw11010416762283631409 : True := ⟨⟩
theorem law_holds.tw11015560700858075401 : True := ⟨⟩
theorem law_holds.tw11020691348527871265 : True := ⟨⟩
theorem law_holds.tw11033254674589372152 : True := ⟨⟩
theorem law_holds.tw11034798458819713792 : True := ⟨⟩
theorem law_holds.tw11035545762337643723 : True := ⟨⟩
theorem law_holds.tw11062059822838587426 : True := ⟨⟩
theorem law_holds.tw11081304597513514363 : True := ⟨⟩
theorem law_holds.tw11106317655235690891 : True := ⟨⟩
theorem law_holds.tw11118080704803953006 : True := ⟨⟩
theorem law_holds.tw1111850009131814815 : True := ⟨⟩
theorem law_holds.tw11126425636881351414 : True := ⟨⟩
theorem law_holds.tw11133947959131558703 : True := ⟨⟩
theorem law_holds.tw1113479920445003211 : True := ⟨⟩
theorem law_holds.tw11140823103007320543 : True := ⟨⟩
theorem law_holds.tw11162562270708280293 : True := ⟨⟩
theorem law_holds.tw11194556566970913927 : True := ⟨⟩
theorem law_holds.tw11217631758600669752 : True := ⟨⟩
theorem law_holds.tw11232277903774487051 : True := ⟨⟩
theorem law_holds.tw11237932596763965877 : True := ⟨⟩
theorem law_holds.tw11248466057919120289 : True := ⟨⟩
theorem law_holds.tw11265151498478111302 : True := ⟨⟩
theorem law_holds.tw11267237972256006128 : True := ⟨⟩
theorem law_holds.tw11268496962462721387 : True := ⟨⟩
theorem law_holds.tw11272045171766295901 : True := ⟨⟩
theorem law_holds.tw11303095882114548440 : True := ⟨⟩
theorem law_holds.tw11327181901974691790 : True := ⟨⟩
theorem law_holds.tw11358002216306131359 : True := ⟨⟩
theorem law_holds.tw11364407130713456966 : True := ⟨⟩
theorem law_holds.tw11369152275919361524 : True := ⟨⟩
theorem law_holds.tw11385491609502477968 : True := ⟨⟩
theorem law_holds.tw11387246316239653785 : True := ⟨⟩
theorem law_holds.tw11393644775543339165 : True := ⟨⟩
theorem law_holds.tw11403662597097003052 : True := ⟨⟩
theorem law_holds.tw11430209827594279721 : True := ⟨⟩
theorem law_holds.tw114342814311988332 : True := ⟨⟩
theorem law_holds.tw11449559597863428683 : True := ⟨⟩
theorem law_holds.tw11449604572179671626 : True := ⟨⟩
theorem law_holds.tw11460977262248177518 : True := ⟨⟩
theorem law_holds.tw11463871732352765659 : True := ⟨⟩
theorem law_holds.tw11470972031649548857 : True := ⟨⟩
theorem law_holds.tw11476935019443775576 : True := ⟨⟩
theorem law_holds.tw11478975717903618518 : True := ⟨⟩
theorem law_holds.tw11520480135158601377 : True := ⟨⟩
theorem law_holds.tw11542961721664633634 : True := ⟨⟩
theorem law_holds.tw11551115468424661071 : True := ⟨⟩
theorem law_holds.tw11569021728131941030 : True := ⟨⟩
theorem law_holds.tw11575984399294139302 : True := ⟨⟩
theorem law_holds.tw1162459061841734963 : True := ⟨⟩
theorem law_holds.tw11630009935075124767 : True := ⟨⟩
theorem law_holds.tw11656243764387311342 : True := ⟨⟩
theorem law_holds.tw11657611039889064927 : True := ⟨⟩
theorem law_holds.tw11667309381032144406 : True := ⟨⟩
theorem law_holds.tw116778121938753888 : True := ⟨⟩
theorem law_holds.tw11697173821608693750 : True := ⟨⟩
theorem law_holds.tw11699720251342419795 : True := ⟨⟩
theorem law_holds.tw11705291941742948338 : True := ⟨⟩
theorem law_holds.tw11718892231487345793 : True := ⟨⟩
theorem law_holds.tw11721999113877122858 : True := ⟨⟩
theorem law_holds.tw1172317515760188702 : True := ⟨⟩
theorem law_holds.tw11739494071191328820 : True := ⟨⟩
theorem law_holds.tw11770723764004639809 : True := ⟨⟩
theorem law_holds.tw11797971644496910678 : True := ⟨⟩
theorem law_holds.tw11822576422898406237 : True := ⟨⟩
theorem law_holds.tw11835692715628882037 : True := ⟨⟩
theorem law_holds.tw11839981080573481278 : True := ⟨⟩
theorem law_holds.tw11860702267018142853 : True := ⟨⟩
theorem law_holds.tw11874929933740149446 : True := ⟨⟩
theorem law_holds.tw1188428174054332301 : True := ⟨⟩
theorem law_holds.tw11890520353716624648 : True := ⟨⟩
theorem law_holds.tw11915721270425266214 : True := ⟨⟩
theorem law_holds.tw1193126407322853467 : True := ⟨⟩
theorem law_holds.tw11939270544189589569 : True := ⟨⟩
theorem law_holds.tw11952412927680047232 : True := ⟨⟩
theorem law_holds.tw11966900319370426379 : True := ⟨⟩
theorem law_holds.tw11967494931437406200 : True := ⟨⟩
theorem law_holds.tw11968720939434725703 : True := ⟨⟩
theorem law_holds.tw11987525076579952280 : True := ⟨⟩
theorem law_holds.tw11991949248531354235 : True := ⟨⟩
theorem law_holds.tw12004738232520681520 : True := ⟨⟩
theorem law_holds.tw12025769621184282518 : True := ⟨⟩
theorem law_holds.tw12030118362288121663 : True := ⟨⟩
theorem law_holds.tw12050439077740467033 : True := ⟨⟩
theorem law_holds.tw12050768678551634031 : True := ⟨⟩
theorem law_holds.tw12073383497204465250 : True := ⟨⟩
theorem law_holds.tw12076501429495407184 : True := ⟨⟩
theorem law_holds.tw12112521766209525745 : True := ⟨⟩
theorem law_holds.tw12114383301331315013 : True := ⟨⟩
theorem law_holds.tw12122887742043525308 : True := ⟨⟩
theorem law_holds.tw12125556557545019058 : True := ⟨⟩
theorem law_holds.tw1213720879158757831 : True := ⟨⟩
theorem law_holds.tw12138601075215259197 : True := ⟨⟩
theorem law_holds.tw12148591357811166088 : True := ⟨⟩
theorem law_holds.tw12158003733849732760 : True := ⟨⟩
theorem law_holds.tw12172657033942357404 : True := ⟨⟩
theorem law_holds.tw12174470147898291385 : True := ⟨⟩
theorem law_holds.tw12178537127097550632 : True := ⟨⟩
theorem law_holds.tw1218834721374742544 : True := ⟨⟩
theorem law_holds.tw1220620341669847001 : True := ⟨⟩
theorem law_holds.tw12222237755905685037 : True := ⟨⟩
theorem law_holds.tw12229605531294527738 : True := ⟨⟩
theorem law_holds.tw12285183492888101525 : True := ⟨⟩
theorem law_holds.tw12289839934133525442 : True := ⟨⟩
theorem law_holds.tw12290997019111888139 : True := ⟨⟩
theorem law_holds.tw12292966355345306516 : True := ⟨⟩
theorem law_holds.tw12314111526784272453 : True := ⟨⟩
theorem law_holds.tw1231987169467027937 : True := ⟨⟩
theorem law_holds.tw12331518337570647422 : True := ⟨⟩
theorem law_holds.tw12346133448355516532 : True := ⟨⟩
theorem law_holds.tw12346375362277633561 : True := ⟨⟩
theorem law_holds.tw12361863955501114499 : True := ⟨⟩
theorem law_holds.tw12369986181173042578 : True := ⟨⟩
theorem law_holds.tw1237389987607626100 : True := ⟨⟩
theorem law_holds.tw12387177412209814054 : True := ⟨⟩
theorem law_holds.tw12395309892428773409 : True := ⟨⟩
theorem law_holds.tw12451691673815749723 : True := ⟨⟩
theorem law_holds.tw12461050351072205222 : True := ⟨⟩
theorem law_holds.tw1246822903785683064 : True := ⟨⟩
theorem law_holds.tw12468417390081033159 : True := ⟨⟩
theorem law_holds.tw12477583668065386727 : True := ⟨⟩
theorem law_holds.tw12479735564290291157 : True := ⟨⟩
theorem law_holds.tw12497150355585664611 : True := ⟨⟩
theorem law_holds.tw12499204486215922899 : True := ⟨⟩
theorem law_holds.tw12501708869612636537 : True := ⟨⟩
theorem law_holds.tw12531688000674000010 : True := ⟨⟩
theorem law_holds.tw12532789698744221400 : True := ⟨⟩
theorem law_holds.tw12557679541949998310 : True := ⟨⟩
theorem law_holds.tw12593047268134183379 : True := ⟨⟩
theorem law_holds.tw12595752045066056429 : True := ⟨⟩
theorem law_holds.tw12607122772124681774 : True := ⟨⟩
theorem law_holds.tw12616370514668331473 : True := ⟨⟩
theorem law_holds.tw12622577180188164800 : True := ⟨⟩
theorem law_holds.tw1262538804372573386 : True := ⟨⟩
theorem law_holds.tw12628309043858112234 : True := ⟨⟩
theorem law_holds.tw12632215061189593660 : True := ⟨⟩
theorem law_holds.tw1265305054824677314 : True := ⟨⟩
theorem law_holds.tw12673573222908877144 : True := ⟨⟩
theorem law_holds.tw12686780593189764823 : True := ⟨⟩
theorem law_holds.tw12687888694866766385 : True := ⟨⟩
theorem law_holds.tw12707624177314443134 : True := ⟨⟩
theorem law_holds.tw12734165305700562224 : True := ⟨⟩
theorem law_holds.tw12740917066413936875 : True := ⟨⟩
theorem law_holds.tw12741672706819590687 : True := ⟨⟩
theorem law_holds.tw12786448297021836205 : True := ⟨⟩
theorem law_holds.tw12807203153271915937 : True := ⟨⟩
theorem law_holds.tw1281963959247988914 : True := ⟨⟩
theorem law_holds.tw12820082238558542868 : True := ⟨⟩
theorem law_holds.tw1282908579184738008 : True := ⟨⟩
theorem law_holds.tw12847151638679008770 : True := ⟨⟩
theorem law_holds.tw12848425706077459124 : True := ⟨⟩
theorem law_holds.tw12876981035712595503 : True := ⟨⟩
theorem law_holds.tw1289186542767984671 : True := ⟨⟩
theorem law_holds.tw12900373192456768777 : True := ⟨⟩
theorem law_holds.tw12905620691222574053 : True := ⟨⟩
theorem law_holds.tw12920510910042731575 : True := ⟨⟩
theorem law_holds.tw12923152947442988878 : True := ⟨⟩
theorem law_holds.tw12943294692056253038 : True := ⟨⟩
theorem law_holds.tw12945109240491041563 : True := ⟨⟩
theorem law_holds.tw12949065330096960980 : True := ⟨⟩
theorem law_holds.tw12949198997888337102 : True := ⟨⟩
theorem law_holds.tw12954929689760279875 : True := ⟨⟩
theorem law_holds.tw12963972778598193042 : True := ⟨⟩
theorem law_holds.tw12970675054617646694 : True := ⟨⟩
theorem law_holds.tw12978887195274949425 : True := ⟨⟩
theorem law_holds.tw12986821876088204710 : True := ⟨⟩
theorem law_holds.tw13033448362757935221 : True := ⟨⟩
theorem law_holds.tw13044551125785144889 : True := ⟨⟩
theorem law_holds.tw13046891515197769500 : True := ⟨⟩
theorem law_holds.tw13060901660624286402 : True := ⟨⟩
theorem law_holds.tw13086018830494140667 : True := ⟨⟩
theorem law_holds.tw13087338846727840788 : True := ⟨⟩
theorem law_holds.tw13096811247297907178 : True := ⟨⟩
theorem law_holds.tw13107722545712919182 : True := ⟨⟩
theorem law_holds.tw13132108260681117170 : True := ⟨⟩
theorem law_holds.tw13175992642171245574 : True := ⟨⟩
theorem law_holds.tw13187532048919078073 : True := ⟨⟩
theorem law_holds.tw13192947555910723411 : True := ⟨⟩
theorem law_holds.tw13202366344233959109 : True := ⟨⟩
theorem law_holds.tw1321164822108111258 : True := ⟨⟩
theorem law_holds.tw13224480255404266616 : True := ⟨⟩
theorem law_holds.tw13228995251796203861 : True := ⟨⟩
theorem law_holds.tw1323834495288498698 : True := ⟨⟩
theorem law_holds.tw13241111242228888042 : True := ⟨⟩
theorem law_holds.tw13263417853354603790 : True := ⟨⟩
theorem law_holds.tw13265486793841503865 : True := ⟨⟩
theorem law_holds.tw13320521137157476128 : True := ⟨⟩
theorem law_holds.tw13343630870503794711 : True := ⟨⟩
theorem law_holds.tw13370012122366366187 : True := ⟨⟩
theorem law_holds.tw13383610860374485432 : True := ⟨⟩
theorem law_holds.tw13403976458842653569 : True := ⟨⟩
theorem law_holds.tw13426234092010119672 : True := ⟨⟩
theorem law_holds.tw13440057513623655268 : True := ⟨⟩
theorem law_holds.tw13452483868040184742 : True := ⟨⟩
theorem law_holds.tw13474609328978471232 : True := ⟨⟩
theorem law_holds.tw13479405925044815762 : True := ⟨⟩
theorem law_holds.tw13483465298873760055 : True := ⟨⟩
theorem law_holds.tw13498792728417515930 : True := ⟨⟩
theorem law_holds.tw13509318135464225761 : True := ⟨⟩
theorem law_holds.tw13509986175100173568 : True := ⟨⟩
theorem law_holds.tw13516246203850148243 : True := ⟨⟩
theorem law_holds.tw13519911439817388238 : True := ⟨⟩
theorem law_holds.tw1352551301701227846 : True := ⟨⟩
theorem law_holds.tw13564443859213624269 : True := ⟨⟩
theorem law_holds.tw13564702984229930297 : True := ⟨⟩
theorem law_holds.tw13569674398206889830 : True := ⟨⟩
theorem law_holds.tw13570449889448739511 : True := ⟨⟩
theorem law_holds.tw13573125765755390179 : True := ⟨⟩
theorem law_holds.tw13617249280887904576 : True := ⟨⟩
theorem law_holds.tw13617258568047259490 : True := ⟨⟩
theorem law_holds.tw13632779960792589320 : True := ⟨⟩
theorem law_holds.tw13634028128012729530 : True := ⟨⟩
theorem law_holds.tw13660310184472973267 : True := ⟨⟩
theorem law_holds.tw13665244649995961337 : True := ⟨⟩
theorem law_holds.tw13687828014890457422 : True := ⟨⟩
theorem law_holds.tw13694400802415457337 : True := ⟨⟩
theorem law_holds.tw13723507654929552684 : True := ⟨⟩
theorem law_holds.tw13726081695589535968 : True := ⟨⟩
theorem law_holds.tw13740235640651571817 : True := ⟨⟩
theorem law_holds.tw1374817074933587936 : True := ⟨⟩
theorem law_holds.tw13794734230575954987 : True := ⟨⟩
theorem law_holds.tw138063238141793376 : True := ⟨⟩
theorem law_holds.tw13810137671441546006 : True := ⟨⟩
theorem law_holds.tw1381313342057215131 : True := ⟨⟩
theorem law_holds.tw13845948088063791630 : True := ⟨⟩
theorem law_holds.tw13846629886588275174 : True := ⟨⟩
theorem law_holds.tw13855542615052474182 : True := ⟨⟩
theorem law_holds.tw13856637298504189738 : True := ⟨⟩
theorem law_holds.tw138724425943061827 : True := ⟨⟩
theorem law_holds.tw13887435641118002245 : True := ⟨⟩
theorem law_holds.tw13891165708167971346 : True := ⟨⟩
theorem law_holds.tw1389209721942964867 : True := ⟨⟩
theorem law_holds.tw13907593772028277566 : True := ⟨⟩
theorem law_holds.tw13928698957458807775 : True := ⟨⟩
theorem law_holds.tw1393698031048997254 : True := ⟨⟩
theorem law_holds.tw1396090755756678103 : True := ⟨⟩
theorem law_holds.tw13975523095887567544 : True := ⟨⟩
theorem law_holds.tw13975544732594878201 : True := ⟨⟩
theorem law_holds.tw13986926451959055049 : True := ⟨⟩
theorem law_holds.tw14020268637170434102 : True := ⟨⟩
theorem law_holds.tw14032667982891678892 : True := ⟨⟩
theorem law_holds.tw14037277040822138506 : True := ⟨⟩
theorem law_holds.tw14039333408847293144 : True := ⟨⟩
theorem law_holds.tw14047344378715934152 : True := ⟨⟩
theorem law_holds.tw14050283985491403868 : True := ⟨⟩
theorem law_holds.tw14054268127753124248 : True := ⟨⟩
theorem law_holds.tw14083137167335331937 : True := ⟨⟩
theorem law_holds.tw1411708259907835779 : True := ⟨⟩
theorem law_holds.tw14142297580830634480 : True := ⟨⟩
theorem law_holds.tw14152218917590410969 : True := ⟨⟩
theorem law_holds.tw14169955866315605704 : True := ⟨⟩
theorem law_holds.tw14194128134835832215 : True := ⟨⟩
theorem law_holds.tw1421057032089703374 : True := ⟨⟩
theorem law_holds.tw14213113297561759527 : True := ⟨⟩
theorem law_holds.tw14217862993914062126 : True := ⟨⟩
theorem law_holds.tw14226100368401851574 : True := ⟨⟩
theorem law_holds.tw14232303554033566063 : True := ⟨⟩
theorem law_holds.tw14240741543777843544 : True := ⟨⟩
theorem law_holds.tw14248894712528819923 : True := ⟨⟩
theorem law_holds.tw14263046471235297263 : True := ⟨⟩
theorem law_holds.tw14267141217386692340 : True := ⟨⟩
theorem law_holds.tw1429621538010975673 : True := ⟨⟩
theorem law_holds.tw14311889980924320044 : True := ⟨⟩
theorem law_holds.tw14316198791515877767 : True := ⟨⟩
theorem law_holds.tw14333464052745711804 : True := ⟨⟩
theorem law_holds.tw14333691898677356642 : True := ⟨⟩
theorem law_holds.tw14354515743945517028 : True := ⟨⟩
theorem law_holds.tw14375703795006843345 : True := ⟨⟩
theorem law_holds.tw14378734860505009854 : True := ⟨⟩
theorem law_holds.tw14401108131612615724 : True := ⟨⟩
theorem law_holds.tw14430471154514481349 : True := ⟨⟩
theorem law_holds.tw14486860961796534243 : True := ⟨⟩
theorem law_holds.tw14487139702374446480 : True := ⟨⟩
theorem law_holds.tw14505267234213483295 : True := ⟨⟩
theorem law_holds.tw1451536363316977894 : True := ⟨⟩
theorem law_holds.tw14516779515415002427 : True := ⟨⟩
theorem law_holds.tw14523415391099936485 : True := ⟨⟩
theorem law_holds.tw14546870298583475164 : True := ⟨⟩
theorem law_holds.tw14558361979803647255 : True := ⟨⟩
theorem law_holds.tw1456323304608707150 : True := ⟨⟩
theorem law_holds.tw14574836200558135590 : True := ⟨⟩
theorem law_holds.tw14581894614343245090 : True := ⟨⟩
theorem law_holds.tw14583584932031318523 : True := ⟨⟩
theorem law_holds.tw14613669813884901279 : True := ⟨⟩
theorem law_holds.tw14638504251292989716 : True := ⟨⟩
theorem law_holds.tw14664781724773329445 : True := ⟨⟩
theorem law_holds.tw14683822327144275453 : True := ⟨⟩
theorem law_holds.tw14688398134125405432 : True := ⟨⟩
theorem law_holds.tw14716144785318354518 : True := ⟨⟩
theorem law_holds.tw14720295184703594662 : True := ⟨⟩
theorem law_holds.tw14733535427219938027 : True := ⟨⟩
theorem law_holds.tw14739022497425248335 : True := ⟨⟩
theorem law_holds.tw14757587129750263108 : True := ⟨⟩
theorem law_holds.tw14787647185880129500 : True := ⟨⟩
theorem law_holds.tw14809110935063545596 : True := ⟨⟩
theorem law_holds.tw14816223697058092345 : True := ⟨⟩
theorem law_holds.tw14827645303871705039 : True := ⟨⟩
theorem law_holds.tw14861094303211251493 : True := ⟨⟩
theorem law_holds.tw14865335966427280884 : True := ⟨⟩
theorem law_holds.tw14873098827937745429 : True := ⟨⟩
theorem law_holds.tw1488228882829181302 : True := ⟨⟩
theorem law_holds.tw14899033793971444713 : True := ⟨⟩
theorem law_holds.tw14912252204876275884 : True := ⟨⟩
theorem law_holds.tw14918676688462721853 : True := ⟨⟩
theorem law_holds.tw14951864285801494765 : True := ⟨⟩
theorem law_holds.tw14955646264708784172 : True := ⟨⟩
theorem law_holds.tw15007744881996716304 : True := ⟨⟩
theorem law_holds.tw15040838758858680907 : True := ⟨⟩
theorem law_holds.tw15069719352832636245 : True := ⟨⟩
theorem law_holds.tw15070503113529912710 : True := ⟨⟩
theorem law_holds.tw15075699022641333862 : True := ⟨⟩
theorem law_holds.tw15097282568409528714 : True := ⟨⟩
theorem law_holds.tw15124520840690831042 : True := ⟨⟩
theorem law_holds.tw15131185916621119574 : True := ⟨⟩
theorem law_holds.tw15139068696153107985 : True := ⟨⟩
theorem law_holds.tw151406771151306187 : True := ⟨⟩
theorem law_holds.tw15146866088960058247 : True := ⟨⟩
theorem law_holds.tw15148413800382196092 : True := ⟨⟩
theorem law_holds.tw15164465959975340556 : True := ⟨⟩
theorem law_holds.tw15174162345021206532 : True := ⟨⟩
theorem law_holds.tw15180885173736225968 : True := ⟨⟩
theorem law_holds.tw15181911140341104646 : True := ⟨⟩
theorem law_holds.tw15183661444600899004 : True := ⟨⟩
theorem law_holds.tw15228905502603804314 : True := ⟨⟩
theorem law_holds.tw15253842197042071956 : True := ⟨⟩
theorem law_holds.tw15254785601797900178 : True := ⟨⟩
theorem law_holds.tw15281398578918861159 : True := ⟨⟩
theorem law_holds.tw15293629178040120776 : True := ⟨⟩
theorem law_holds.tw15295140555765729984 : True := ⟨⟩
theorem law_holds.tw15307537163044101193 : True := ⟨⟩
theorem law_holds.tw15339151218203577347 : True := ⟨⟩
theorem law_holds.tw1533973581701270628 : True := ⟨⟩
theorem law_holds.tw15381065618539556790 : True := ⟨⟩
theorem law_holds.tw15392816956836371465 : True := ⟨⟩
theorem law_holds.tw15395090587589457818 : True := ⟨⟩
theorem law_holds.tw1539898941212207770 : True := ⟨⟩
theorem law_holds.tw1541866541712004473 : True := ⟨⟩
theorem law_holds.tw15422273201220531181 : True := ⟨⟩
theorem law_holds.tw15426514545583789540 : True := ⟨⟩
theorem law_holds.tw15433917027636889173 : True := ⟨⟩
theorem law_holds.tw15446930615902091468 : True := ⟨⟩
theorem law_holds.tw15469233807470290053 : True := ⟨⟩
theorem law_holds.tw15469959400190093953 : True := ⟨⟩
theorem law_holds.tw15478564301217606989 : True := ⟨⟩
theorem law_holds.tw1548039714338852798 : True := ⟨⟩
theorem law_holds.tw15497845881915552715 : True := ⟨⟩
theorem law_holds.tw15546105952121088878 : True := ⟨⟩
theorem law_holds.tw15590390167818253439 : True := ⟨⟩
theorem law_holds.tw15601627489423965574 : True := ⟨⟩
theorem law_holds.tw15623152570794863888 : True := ⟨⟩
theorem law_holds.tw1563034233986232405 : True := ⟨⟩
theorem law_holds.tw15631279316462851043 : True := ⟨⟩
theorem law_holds.tw15668476181160506850 : True := ⟨⟩
theorem law_holds.tw15674872092163346392 : True := ⟨⟩
theorem law_holds.tw15678698541417599492 : True := ⟨⟩
theorem law_holds.tw15686458944839365429 : True := ⟨⟩
theorem law_holds.tw15701406511832014028 : True := ⟨⟩
theorem law_holds.tw15717177552076200928 : True := ⟨⟩
theorem law_holds.tw1571766346684848996 : True := ⟨⟩
theorem law_holds.tw15738135406760092075 : True := ⟨⟩
theorem law_holds.tw15762243799022432142 : True := ⟨⟩
theorem law_holds.tw1576460892001257491 : True := ⟨⟩
theorem law_holds.tw1576978577291861795 : True := ⟨⟩
theorem law_holds.tw15785942909736622804 : True := ⟨⟩
theorem law_holds.tw1578907582190395015 : True := ⟨⟩
theorem law_holds.tw15803489952343879881 : True := ⟨⟩
theorem law_holds.tw15808487787185334009 : True := ⟨⟩
theorem law_holds.tw15811830252537550353 : True := ⟨⟩
theorem law_holds.tw15820296697617861694 : True := ⟨⟩
theorem law_holds.tw15840168322508878077 : True := ⟨⟩
theorem law_holds.tw1584553052617343659 : True := ⟨⟩
theorem law_holds.tw15858052805055628005 : True := ⟨⟩
theorem law_holds.tw15874521861690009574 : True := ⟨⟩
theorem law_holds.tw15890753736639957016 : True := ⟨⟩
theorem law_holds.tw15895838456975352158 : True := ⟨⟩
theorem law_holds.tw15899437326253820409 : True := ⟨⟩
theorem law_holds.tw15914339013300903008 : True := ⟨⟩
theorem law_holds.tw15925527950231022987 : True := ⟨⟩
theorem law_holds.tw15930381167080210677 : True := ⟨⟩
theorem law_holds.tw15943490738690741517 : True := ⟨⟩
theorem law_holds.tw15956427386976513430 : True := ⟨⟩
theorem law_holds.tw15964239192962627630 : True := ⟨⟩
theorem law_holds.tw15979145815601593288 : True := ⟨⟩
theorem law_holds.tw15994041502102826617 : True := ⟨⟩
theorem law_holds.tw16077763434780193972 : True := ⟨⟩
theorem law_holds.tw1608921273839437191 : True := ⟨⟩
theorem law_holds.tw16099648273142978958 : True := ⟨⟩
theorem law_holds.tw16104039047158602168 : True := ⟨⟩
theorem law_holds.tw16112538977034858770 : True := ⟨⟩
theorem law_holds.tw1612003572444197963 : True := ⟨⟩
theorem law_holds.tw16120832580796848415 : True := ⟨⟩
theorem law_holds.tw16129678633186946657 : True := ⟨⟩
theorem law_holds.tw16131054919161165415 : True := ⟨⟩
theorem law_holds.tw16143179804423368547 : True := ⟨⟩
theorem law_holds.tw16164633578059409615 : True := ⟨⟩
theorem law_holds.tw16186218103789142741 : True := ⟨⟩
theorem law_holds.tw16189630802652523582 : True := ⟨⟩
theorem law_holds.tw16199025106189902729 : True := ⟨⟩
theorem law_holds.tw16236038382211637689 : True := ⟨⟩
theorem law_holds.tw16258201561065952796 : True := ⟨⟩
theorem law_holds.tw16289964671064819261 : True := ⟨⟩
theorem law_holds.tw16291302742413559756 : True := ⟨⟩
theorem law_holds.tw16306909682468454846 : True := ⟨⟩
theorem law_holds.tw16335884455642050048 : True := ⟨⟩
theorem law_holds.tw16347101971905265195 : True := ⟨⟩
theorem law_holds.tw163491060887710120 : True := ⟨⟩
theorem law_holds.tw16373439462864598959 : True := ⟨⟩
theorem law_holds.tw16379195510296269933 : True := ⟨⟩
theorem law_holds.tw16421089481505415621 : True := ⟨⟩
theorem law_holds.tw1642190814545411248 : True := ⟨⟩
theorem law_holds.tw16431191073607109605 : True := ⟨⟩
theorem law_holds.tw16444871981520397952 : True := ⟨⟩
theorem law_holds.tw16447545327794819508 : True := ⟨⟩
theorem law_holds.tw16467583243478950512 : True := ⟨⟩
theorem law_holds.tw16488027948235658634 : True := ⟨⟩
theorem law_holds.tw16503703462130739060 : True := ⟨⟩
theorem law_holds.tw16505678867528259363 : True := ⟨⟩
theorem law_holds.tw1650807166868294798 : True := ⟨⟩
theorem law_holds.tw16519511334777294734 : True := ⟨⟩
theorem law_holds.tw16526944876861319078 : True := ⟨⟩
theorem law_holds.tw16528380315169729772 : True := ⟨⟩
theorem law_holds.tw16535838017484207052 : True := ⟨⟩
theorem law_holds.tw16540261057854444947 : True := ⟨⟩
theorem law_holds.tw16547394769319423532 : True := ⟨⟩
theorem law_holds.tw16551268153976565099 : True := ⟨⟩
theorem law_holds.tw16551552216682390106 : True := ⟨⟩
theorem law_holds.tw1657094072902531480 : True := ⟨⟩
theorem law_holds.tw16601544999147658279 : True := ⟨⟩
theorem law_holds.tw16607079625820479997 : True := ⟨⟩
theorem law_holds.tw16615272652212908124 : True := ⟨⟩
theorem law_holds.tw16618502595295202829 : True := ⟨⟩
theorem law_holds.tw16635184454679909607 : True := ⟨⟩
theorem law_holds.tw1663637836446084017 : True := ⟨⟩
theorem law_holds.tw16639451103008113339 : True := ⟨⟩
theorem law_holds.tw16642890410190979612 : True := ⟨⟩
theorem law_holds.tw16663614192633295846 : True := ⟨⟩
theorem law_holds.tw16715504787030468543 : True := ⟨⟩
theorem law_holds.tw16743549293040020021 : True := ⟨⟩
theorem law_holds.tw16794886123792422112 : True := ⟨⟩
theorem law_holds.tw16822223912730254009 : True := ⟨⟩
theorem law_holds.tw16835459500237842172 : True := ⟨⟩
theorem law_holds.tw16850648751395931897 : True := ⟨⟩
theorem law_holds.tw16853134392594741866 : True := ⟨⟩
theorem law_holds.tw16860585678537361362 : True := ⟨⟩
theorem law_holds.tw16868964003154676039 : True := ⟨⟩
theorem law_holds.tw16872646439563525333 : True := ⟨⟩
theorem law_holds.tw16872792341397916766 : True := ⟨⟩
theorem law_holds.tw16874042940462120358 : True := ⟨⟩
theorem law_holds.tw16875339971970825326 : True := ⟨⟩
theorem law_holds.tw16878283175070295260 : True := ⟨⟩
theorem law_holds.tw16881247337813693647 : True := ⟨⟩
theorem law_holds.tw16884972608861437457 : True := ⟨⟩
theorem law_holds.tw16893332828159108257 : True := ⟨⟩
theorem law_holds.tw16908601136950264495 : True := ⟨⟩
theorem law_holds.tw16926079064347490436 : True := ⟨⟩
theorem law_holds.tw16931059643811949239 : True := ⟨⟩
theorem law_holds.tw16941524811972797004 : True := ⟨⟩
theorem law_holds.tw16983098863864896739 : True := ⟨⟩
theorem law_holds.tw16991265534572681191 : True := ⟨⟩
theorem law_holds.tw17011216069662922242 : True := ⟨⟩
theorem law_holds.tw17020753001733749701 : True := ⟨⟩
theorem law_holds.tw17026394642620081821 : True := ⟨⟩
theorem law_holds.tw170310470367110017 : True := ⟨⟩
theorem law_holds.tw17041423728863530353 : True := ⟨⟩
theorem law_holds.tw17084928515917635452 : True := ⟨⟩
theorem law_holds.tw17111405160123861552 : True := ⟨⟩
theorem law_holds.tw17137238187033090736 : True := ⟨⟩
theorem law_holds.tw17155272776231209373 : True := ⟨⟩
theorem law_holds.tw17163518287441906871 : True := ⟨⟩
theorem law_holds.tw17177879474233254528 : True := ⟨⟩
theorem law_holds.tw17182696800807716200 : True := ⟨⟩
theorem law_holds.tw17185506285090725236 : True := ⟨⟩
theorem law_holds.tw17193672129778424232 : True := ⟨⟩
theorem law_holds.tw1721191110413651366 : True := ⟨⟩
theorem law_holds.tw17222145222764474540 : True := ⟨⟩
theorem law_holds.tw172248600264156875 : True := ⟨⟩
theorem law_holds.tw1724576905959092736 : True := ⟨⟩
theorem law_holds.tw17247378994835444796 : True := ⟨⟩
theorem law_holds.tw17257462376644454078 : True := ⟨⟩
theorem law_holds.tw17265562311727445990 : True := ⟨⟩
theorem law_holds.tw17269123365367195334 : True := ⟨⟩
theorem law_holds.tw17279308848762518355 : True := ⟨⟩
theorem law_holds.tw17290754375459655925 : True := ⟨⟩
theorem law_holds.tw17313601299461202951 : True := ⟨⟩
theorem law_holds.tw17337088596246696405 : True := ⟨⟩
theorem law_holds.tw17340172275546920576 : True := ⟨⟩
theorem law_holds.tw17342348698317337019 : True := ⟨⟩
theorem law_holds.tw17353152097680888586 : True := ⟨⟩
theorem law_holds.tw17359223769781343151 : True := ⟨⟩
theorem law_holds.tw17364421934180156102 : True := ⟨⟩
theorem law_holds.tw17364969235912724300 : True := ⟨⟩
theorem law_holds.tw17426805940485849435 : True := ⟨⟩
theorem law_holds.tw17427397559020610926 : True := ⟨⟩
theorem law_holds.tw17449739170378486607 : True := ⟨⟩
theorem law_holds.tw17456821012937919735 : True := ⟨⟩
theorem law_holds.tw17457463689655022542 : True := ⟨⟩
theorem law_holds.tw17463423512102570498 : True := ⟨⟩
theorem law_holds.tw17499134561958866795 : True := ⟨⟩
theorem law_holds.tw17508507550262974794 : True := ⟨⟩
theorem law_holds.tw17515898573888962403 : True := ⟨⟩
theorem law_holds.tw17532819349955620915 : True := ⟨⟩
theorem law_holds.tw17540394919217151692 : True := ⟨⟩
theorem law_holds.tw1754433484773627246 : True := ⟨⟩
theorem law_holds.tw1755073123063143213 : True := ⟨⟩
theorem law_holds.tw17552530049617106836 : True := ⟨⟩
theorem law_holds.tw17560131991929753280 : True := ⟨⟩
theorem law_holds.tw17565542308260816427 : True := ⟨⟩
theorem law_holds.tw1764665481269556313 : True := ⟨⟩
theorem law_holds.tw1766993132061482911 : True := ⟨⟩
theorem law_holds.tw17671838811948817343 : True := ⟨⟩
theorem law_holds.tw17684524242707217330 : True := ⟨⟩
theorem law_holds.tw17718241986420462005 : True := ⟨⟩
theorem law_holds.tw17719170899710576982 : True := ⟨⟩
theorem law_holds.tw17719707425508125207 : True := ⟨⟩
theorem law_holds.tw17744752764056260261 : True := ⟨⟩
theorem law_holds.tw17757384829314424077 : True := ⟨⟩
theorem law_holds.tw17765441815694422125 : True := ⟨⟩
theorem law_holds.tw1778001900578921780 : True := ⟨⟩
theorem law_holds.tw17786438659570274908 : True := ⟨⟩
theorem law_holds.tw1780415908248779356 : True := ⟨⟩
theorem law_holds.tw17829868877933483292 : True := ⟨⟩
theorem law_holds.tw17870489071483028696 : True := ⟨⟩
theorem law_holds.tw17892796248766399473 : True := ⟨⟩
theorem law_holds.tw17929863857559200653 : True := ⟨⟩
theorem law_holds.tw17940859689116868092 : True := ⟨⟩
theorem law_holds.tw17940973940887960781 : True := ⟨⟩
theorem law_holds.tw17945486582971457588 : True := ⟨⟩
theorem law_holds.tw17950375140417702181 : True := ⟨⟩
theorem law_holds.tw17960312614916200500 : True := ⟨⟩
theorem law_holds.tw17967370829666939358 : True := ⟨⟩
theorem law_holds.tw17969828615254663416 : True := ⟨⟩
theorem law_holds.tw17971788921805493018 : True := ⟨⟩
theorem law_holds.tw17975244117005980187 : True := ⟨⟩
theorem law_holds.tw1797915873530876235 : True := ⟨⟩
theorem law_holds.tw18011265127525754071 : True := ⟨⟩
theorem law_holds.tw18030952560762940515 : True := ⟨⟩
theorem law_holds.tw1803527819812258126 : True := ⟨⟩
theorem law_holds.tw18039124179238810378 : True := ⟨⟩
theorem law_holds.tw18041599440945424335 : True := ⟨⟩
theorem law_holds.tw18056385662252854790 : True := ⟨⟩
theorem law_holds.tw18087676871364271277 : True := ⟨⟩
theorem law_holds.tw18093046175168833604 : True := ⟨⟩
theorem law_holds.tw1809742045178366690 : True := ⟨⟩
theorem law_holds.tw18119692065253670538 : True := ⟨⟩
theorem law_holds.tw18124487479445668065 : True := ⟨⟩
theorem law_holds.tw18133054247641716776 : True := ⟨⟩
theorem law_holds.tw1813363774860934346 : True := ⟨⟩
theorem law_holds.tw18166462747381811103 : True := ⟨⟩
theorem law_holds.tw1817118727205977830 : True := ⟨⟩
theorem law_holds.tw18199231195154264904 : True := ⟨⟩
theorem law_holds.tw18208880726496192735 : True := ⟨⟩
theorem law_holds.tw18213264012003059277 : True := ⟨⟩
theorem law_holds.tw18220647966850149242 : True := ⟨⟩
theorem law_holds.tw1823335306324799628 : True := ⟨⟩
theorem law_holds.tw18250586960875282120 : True := ⟨⟩
theorem law_holds.tw18260662270836361605 : True := ⟨⟩
theorem law_holds.tw18269663593312373383 : True := ⟨⟩
theorem law_holds.tw18294154711239932188 : True := ⟨⟩
theorem law_holds.tw18319115385504683610 : True := ⟨⟩
theorem law_holds.tw18324017193793644414 : True := ⟨⟩
theorem law_holds.tw18324289759506607239 : True := ⟨⟩
theorem law_holds.tw18325095171730427946 : True := ⟨⟩
theorem law_holds.tw1833928449311267413 : True := ⟨⟩
theorem law_holds.tw18340510471185645006 : True := ⟨⟩
theorem law_holds.tw18352709151351790484 : True := ⟨⟩
theorem law_holds.tw18358470650510804814 : True := ⟨⟩
theorem law_holds.tw18375339711943834173 : True := ⟨⟩
theorem law_holds.tw18380602497780344891 : True := ⟨⟩
theorem law_holds.tw18382477957231219522 : True := ⟨⟩
theorem law_holds.tw18388514553011642662 : True := ⟨⟩
theorem law_holds.tw18397096024223455610 : True := ⟨⟩
theorem law_holds.tw18400693227845817750 : True := ⟨⟩
theorem law_holds.tw18407263858768530578 : True := ⟨⟩
theorem law_holds.tw18407594041268412366 : True := ⟨⟩
theorem law_holds.tw18412736099329476273 : True := ⟨⟩
theorem law_holds.tw1879116809516273882 : True := ⟨⟩
theorem law_holds.tw1900141250097862380 : True := ⟨⟩
theorem law_holds.tw190415203886396939 : True := ⟨⟩
theorem law_holds.tw1918761692572688734 : True := ⟨⟩
theorem law_holds.tw1921077876551569542 : True := ⟨⟩
theorem law_holds.tw1934260743339202225 : True := ⟨⟩
theorem law_holds.tw1934911134434004307 : True := ⟨⟩
theorem law_holds.tw1971238543712467720 : True := ⟨⟩
theorem law_holds.tw1979114251822926333 : True := ⟨⟩
theorem law_holds.tw1989712013717304993 : True := ⟨⟩
theorem law_holds.tw1994548709253209834 : True := ⟨⟩
theorem law_holds.tw1995289423158999493 : True := ⟨⟩
theorem law_holds.tw1999201470446512249 : True := ⟨⟩
theorem law_holds.tw2004387873461192557 : True := ⟨⟩
theorem law_holds.tw2010746389820059048 : True := ⟨⟩
theorem law_holds.tw2054418175043472495 : True := ⟨⟩
theorem law_holds.tw2068508451969932889 : True := ⟨⟩
theorem law_holds.tw2071661274239401603 : True := ⟨⟩
theorem law_holds.tw210345803491745258 : True := ⟨⟩
theorem law_holds.tw2110400892832121369 : True := ⟨⟩
theorem law_holds.tw2119193763081843976 : True := ⟨⟩
theorem law_holds.tw2121505299932807218 : True := ⟨⟩
theorem law_holds.tw2145411566839434838 : True := ⟨⟩
theorem law_holds.tw216872892313035941 : True := ⟨⟩
theorem law_holds.tw2173268077419958971 : True := ⟨⟩
theorem law_holds.tw2175972387553852707 : True := ⟨⟩
theorem law_holds.tw2198995728255242982 : True := ⟨⟩
theorem law_holds.tw2221703699025241179 : True := ⟨⟩
theorem law_holds.tw2232370652890005362 : True := ⟨⟩
theorem law_holds.tw2240890963018986232 : True := ⟨⟩
theorem law_holds.tw224958086833582229 : True := ⟨⟩
theorem law_holds.tw2258023372854700135 : True := ⟨⟩
theorem law_holds.tw2261296886325138546 : True := ⟨⟩
theorem law_holds.tw2280138162058741175 : True := ⟨⟩
theorem law_holds.tw2280387505706195026 : True := ⟨⟩
theorem law_holds.tw2280528637032136211 : True := ⟨⟩
theorem law_holds.tw2287348176983452955 : True := ⟨⟩
theorem law_holds.tw2289119481581753496 : True := ⟨⟩
theorem law_holds.tw2294873632941400603 : True := ⟨⟩
theorem law_holds.tw2300170429806474260 : True := ⟨⟩
theorem law_holds.tw230127012907217928 : True := ⟨⟩
theorem law_holds.tw230353498318513803 : True := ⟨⟩
theorem law_holds.tw2321244458867365296 : True := ⟨⟩
theorem law_holds.tw2340240939172103319 : True := ⟨⟩
theorem law_holds.tw2354133875848071241 : True := ⟨⟩
theorem law_holds.tw2364155836959893194 : True := ⟨⟩
theorem law_holds.tw2378938792325444154 : True := ⟨⟩
theorem law_holds.tw2383102818989321265 : True := ⟨⟩
theorem law_holds.tw2383178688808523806 : True := ⟨⟩
theorem law_holds.tw2405307710035411790 : True := ⟨⟩
theorem law_holds.tw2406575613318644540 : True := ⟨⟩
theorem law_holds.tw2407417321728809334 : True := ⟨⟩
theorem law_holds.tw2440739869012462961 : True := ⟨⟩
theorem law_holds.tw2455581638940236342 : True := ⟨⟩
theorem law_holds.tw24562687991223799 : True := ⟨⟩
theorem law_holds.tw2481512095834605393 : True := ⟨⟩
theorem law_holds.tw249726210902902339 : True := ⟨⟩
theorem law_holds.tw2501094295817894756 : True := ⟨⟩
theorem law_holds.tw2508628935380440441 : True := ⟨⟩
theorem law_holds.tw2509106671305553703 : True := ⟨⟩
theorem law_holds.tw2513362572156859429 : True := ⟨⟩
theorem law_holds.tw2537739388955973817 : True := ⟨⟩
theorem law_holds.tw2563199415726869734 : True := ⟨⟩
theorem law_holds.tw2565797797215800414 : True := ⟨⟩
theorem law_holds.tw2575825987627150577 : True := ⟨⟩
theorem law_holds.tw2591493437541770963 : True := ⟨⟩
theorem law_holds.tw2596484668278404478 : True := ⟨⟩
theorem law_holds.tw2597676751532968333 : True := ⟨⟩
theorem law_holds.tw2606866927535571414 : True := ⟨⟩
theorem law_holds.tw2624383774885019415 : True := ⟨⟩
theorem law_holds.tw2628581491716718808 : True := ⟨⟩
theorem law_holds.tw2684601693379098728 : True := ⟨⟩
theorem law_holds.tw2719618100906700007 : True := ⟨⟩
theorem law_holds.tw274712312956815400 : True := ⟨⟩
theorem law_holds.tw2781254343720359756 : True := ⟨⟩
theorem law_holds.tw2784469837804483079 : True := ⟨⟩
theorem law_holds.tw2804220006469669390 : True := ⟨⟩
theorem law_holds.tw2816563958050126477 : True := ⟨⟩
theorem law_holds.tw2869522196983063704 : True := ⟨⟩
theorem law_holds.tw2880698859840742893 : True := ⟨⟩
theorem law_holds.tw2886261938655650577 : True := ⟨⟩
theorem law_holds.tw2890963556017516146 : True := ⟨⟩
theorem law_holds.tw2908294432503729584 : True := ⟨⟩
theorem law_holds.tw2916379388144592376 : True := ⟨⟩
theorem law_holds.tw2916919786534515419 : True := ⟨⟩
theorem law_holds.tw2930489639885606960 : True := ⟨⟩
theorem law_holds.tw2934215125790736467 : True := ⟨⟩
theorem law_holds.tw2944566396120175716 : True := ⟨⟩
theorem law_holds.tw29687860898858865 : True := ⟨⟩
theorem law_holds.tw296957782883140349 : True := ⟨⟩
theorem law_holds.tw2987320866079887959 : True := ⟨⟩
theorem law_holds.tw2989877060625518559 : True := ⟨⟩
theorem law_holds.tw303087851388603080 : True := ⟨⟩
theorem law_holds.tw303720806528106010 : True := ⟨⟩
theorem law_holds.tw3043064417042169247 : True := ⟨⟩
theorem law_holds.tw3046762306739619022 : True := ⟨⟩
theorem law_holds.tw305872431077747064 : True := ⟨⟩
theorem law_holds.tw307472920433049447 : True := ⟨⟩
theorem law_holds.tw3126545772911697421 : True := ⟨⟩
theorem law_holds.tw3127007218862811596 : True := ⟨⟩
theorem law_holds.tw313050627674564253 : True := ⟨⟩
theorem law_holds.tw3132527391539067495 : True := ⟨⟩
theorem law_holds.tw3145723461267398826 : True := ⟨⟩
theorem law_holds.tw3147026919794755360 : True := ⟨⟩
theorem law_holds.tw315611589982201915 : True := ⟨⟩
theorem law_holds.tw3175524847691841393 : True := ⟨⟩
theorem law_holds.tw3180178694058427883 : True := ⟨⟩
theorem law_holds.tw3185723204459994065 : True := ⟨⟩
theorem law_holds.tw3186151273407940173 : True := ⟨⟩
theorem law_holds.tw3197695079145644914 : True := ⟨⟩
theorem law_holds.tw3256143799028691486 : True := ⟨⟩
theorem law_holds.tw3259401277271413489 : True := ⟨⟩
theorem law_holds.tw3261137001845788991 : True := ⟨⟩
theorem law_holds.tw3297051309044014704 : True := ⟨⟩
theorem law_holds.tw3301899598972544230 : True := ⟨⟩
theorem law_holds.tw3303049997129651000 : True := ⟨⟩
theorem law_holds.tw3346692089014233377 : True := ⟨⟩
theorem law_holds.tw3363728136144298212 : True := ⟨⟩
theorem law_holds.tw3392324484034666232 : True := ⟨⟩
theorem law_holds.tw342085057261008676 : True := ⟨⟩
theorem law_holds.tw3424474840251219492 : True := ⟨⟩
theorem law_holds.tw342562147088451521 : True := ⟨⟩
theorem law_holds.tw3429748951539324533 : True := ⟨⟩
theorem law_holds.tw3436654379800114243 : True := ⟨⟩
theorem law_holds.tw34475449190819257 : True := ⟨⟩
theorem law_holds.tw3458999687622739170 : True := ⟨⟩
theorem law_holds.tw3459175610106748550 : True := ⟨⟩
theorem law_holds.tw3469779294575491202 : True := ⟨⟩
theorem law_holds.tw3481150830274800881 : True := ⟨⟩
theorem law_holds.tw3485859034476125065 : True := ⟨⟩
theorem law_holds.tw3494273574669949994 : True := ⟨⟩
theorem law_holds.tw3495046901902478105 : True := ⟨⟩
theorem law_holds.tw3511899881363700526 : True := ⟨⟩
theorem law_holds.tw3520209637511945330 : True := ⟨⟩
theorem law_holds.tw3538955380827361680 : True := ⟨⟩
theorem law_holds.tw3550732726330173436 : True := ⟨⟩
theorem law_holds.tw3562177962288207939 : True := ⟨⟩
theorem law_holds.tw3570741910224997433 : True := ⟨⟩
theorem law_holds.tw3588547637117416269 : True := ⟨⟩
theorem law_holds.tw3599688260913029433 : True := ⟨⟩
theorem law_holds.tw3606255139315905921 : True := ⟨⟩
theorem law_holds.tw3610511199324951731 : True := ⟨⟩
theorem law_holds.tw3647832153744741192 : True := ⟨⟩
theorem law_holds.tw3656700939142233824 : True := ⟨⟩
theorem law_holds.tw3660854969477561896 : True := ⟨⟩
theorem law_holds.tw3666180521594493574 : True := ⟨⟩
theorem law_holds.tw3671556539087477910 : True := ⟨⟩
theorem law_holds.tw3673425284935735214 : True := ⟨⟩
theorem law_holds.tw3687792736894502399 : True := ⟨⟩
theorem law_holds.tw3690140997765388427 : True := ⟨⟩
theorem law_holds.tw3691777349596868419 : True := ⟨⟩
theorem law_holds.tw3725825254140261223 : True := ⟨⟩
theorem law_holds.tw3730775801508149681 : True := ⟨⟩
theorem law_holds.tw3738638012455556174 : True := ⟨⟩
theorem law_holds.tw3738958506369538306 : True := ⟨⟩
theorem law_holds.tw3749870466492813679 : True := ⟨⟩
theorem law_holds.tw3754900707546471012 : True := ⟨⟩
theorem law_holds.tw3757609535713531123 : True := ⟨⟩
theorem law_holds.tw3757959633472020324 : True := ⟨⟩
theorem law_holds.tw3772122237592588351 : True := ⟨⟩
theorem law_holds.tw3809012403069909753 : True := ⟨⟩
theorem law_holds.tw3818359690555092981 : True := ⟨⟩
theorem law_holds.tw3824439969187595167 : True := ⟨⟩
theorem law_holds.tw386613493372076922 : True := ⟨⟩
theorem law_holds.tw3879723555843137762 : True := ⟨⟩
theorem law_holds.tw3894770951300617145 : True := ⟨⟩
theorem law_holds.tw3900684494676451090 : True := ⟨⟩
theorem law_holds.tw3906170618083689784 : True := ⟨⟩
theorem law_holds.tw3926613144993733093 : True := ⟨⟩
theorem law_holds.tw3936454250214063734 : True := ⟨⟩
theorem law_holds.tw3957372396899741221 : True := ⟨⟩
theorem law_holds.tw3968253314734285778 : True := ⟨⟩
theorem law_holds.tw3970251278056831355 : True := ⟨⟩
theorem law_holds.tw39896239262348964 : True := ⟨⟩
theorem law_holds.tw3992006854021635756 : True := ⟨⟩
theorem law_holds.tw4000770489204811162 : True := ⟨⟩
theorem law_holds.tw4031319134664046238 : True := ⟨⟩
theorem law_holds.tw4053635962367853063 : True := ⟨⟩
theorem law_holds.tw4069717130219709613 : True := ⟨⟩
theorem law_holds.tw4074547182675976384 : True := ⟨⟩
theorem law_holds.tw4080839521461991435 : True := ⟨⟩
theorem law_holds.tw4080894666277962519 : True := ⟨⟩
theorem law_holds.tw410288431921734639 : True := ⟨⟩
theorem law_holds.tw4109670190093541187 : True := ⟨⟩
theorem law_holds.tw4114628422825617353 : True := ⟨⟩
theorem law_holds.tw4116045172940560987 : True := ⟨⟩
theorem law_holds.tw4125784512790697534 : True := ⟨⟩
theorem law_holds.tw4137715139163768427 : True := ⟨⟩
theorem law_holds.tw4145257383280472585 : True := ⟨⟩
theorem law_holds.tw4171055429039108846 : True := ⟨⟩
theorem law_holds.tw4174597654172042007 : True := ⟨⟩
theorem law_holds.tw4176542879124813781 : True := ⟨⟩
theorem law_holds.tw4179102383452758024 : True := ⟨⟩
theorem law_holds.tw4212844230925846136 : True := ⟨⟩
theorem law_holds.tw4253797921800562053 : True := ⟨⟩
theorem law_holds.tw4256774558347342401 : True := ⟨⟩
theorem law_holds.tw4259240371310275094 : True := ⟨⟩
theorem law_holds.tw4304182665803898712 : True := ⟨⟩
theorem law_holds.tw4327381371628920425 : True := ⟨⟩
theorem law_holds.tw4329261612904357809 : True := ⟨⟩
theorem law_holds.tw4330029053611893726 : True := ⟨⟩
theorem law_holds.tw4336896034949944568 : True := ⟨⟩
theorem law_holds.tw4340009173558267000 : True := ⟨⟩
theorem law_holds.tw4366295246220378202 : True := ⟨⟩
theorem law_holds.tw4380009329703266518 : True := ⟨⟩
theorem law_holds.tw4401526288519805477 : True := ⟨⟩
theorem law_holds.tw4409981028363207097 : True := ⟨⟩
theorem law_holds.tw4415339896841485646 : True := ⟨⟩
theorem law_holds.tw4425735543892225405 : True := ⟨⟩
theorem law_holds.tw4449772679761371936 : True := ⟨⟩
theorem law_holds.tw4460296685878380244 : True := ⟨⟩
theorem law_holds.tw4460834530878843012 : True := ⟨⟩
theorem law_holds.tw4470371847269873090 : True := ⟨⟩
theorem law_holds.tw4482239634926515631 : True := ⟨⟩
theorem law_holds.tw4494406769095814796 : True := ⟨⟩
theorem law_holds.tw4534889694740165748 : True := ⟨⟩
theorem law_holds.tw4540641273707964385 : True := ⟨⟩
theorem law_holds.tw4544504618698731564 : True := ⟨⟩
theorem law_holds.tw4550054737984641106 : True := ⟨⟩
theorem law_holds.tw4581239250517553603 : True := ⟨⟩
theorem law_holds.tw4583798988411571370 : True := ⟨⟩
theorem law_holds.tw4584614214628935986 : True := ⟨⟩
theorem law_holds.tw4591775416307877530 : True := ⟨⟩
theorem law_holds.tw4591841484085889552 : True := ⟨⟩
theorem law_holds.tw4599872261816183754 : True := ⟨⟩
theorem law_holds.tw4604165248312307256 : True := ⟨⟩
theorem law_holds.tw4604626161909285872 : True := ⟨⟩
theorem law_holds.tw4610746833551055480 : True := ⟨⟩
theorem law_holds.tw4616895681100821585 : True := ⟨⟩
theorem law_holds.tw4625722672041967316 : True := ⟨⟩
theorem law_holds.tw4633319753465321080 : True := ⟨⟩
theorem law_holds.tw4635177224034132223 : True := ⟨⟩
theorem law_holds.tw4665630680640889625 : True := ⟨⟩
theorem law_holds.tw4678034005734523624 : True := ⟨⟩
theorem law_holds.tw4685228822469007693 : True := ⟨⟩
theorem law_holds.tw4730396808015959413 : True := ⟨⟩
theorem law_holds.tw4741687128019999079 : True := ⟨⟩
theorem law_holds.tw4755081683769788271 : True := ⟨⟩
theorem law_holds.tw4777614448717224545 : True := ⟨⟩
theorem law_holds.tw4793208263138849087 : True := ⟨⟩
theorem law_holds.tw4800185739755696250 : True := ⟨⟩
theorem law_holds.tw4802341397628773763 : True := ⟨⟩
theorem law_holds.tw483183503106238780 : True := ⟨⟩
theorem law_holds.tw4836945201701548990 : True := ⟨⟩
theorem law_holds.tw48810476800535850 : True := ⟨⟩
theorem law_holds.tw4891820376065646818 : True := ⟨⟩
theorem law_holds.tw4899338567347592252 : True := ⟨⟩
theorem law_holds.tw4902116694016216028 : True := ⟨⟩
theorem law_holds.tw4910961763154587607 : True := ⟨⟩
theorem law_holds.tw4922016918071682074 : True := ⟨⟩
theorem law_holds.tw4934713322168854457 : True := ⟨⟩
theorem law_holds.tw4936732725444461473 : True := ⟨⟩
theorem law_holds.tw4953191994829887746 : True := ⟨⟩
theorem law_holds.tw496167663351667636 : True := ⟨⟩
theorem law_holds.tw4970714434118449676 : True := ⟨⟩
theorem law_holds.tw5001875175329636113 : True := ⟨⟩
theorem law_holds.tw5004833940932801942 : True := ⟨⟩
theorem law_holds.tw5016102700482156240 : True := ⟨⟩
theorem law_holds.tw5018949062144449590 : True := ⟨⟩
theorem law_holds.tw504378784782129598 : True := ⟨⟩
theorem law_holds.tw5062020425886563421 : True := ⟨⟩
theorem law_holds.tw5086233463206814459 : True := ⟨⟩
theorem law_holds.tw5092794514538266002 : True := ⟨⟩
theorem law_holds.tw5094629788905099624 : True := ⟨⟩
theorem law_holds.tw5105636469281603125 : True := ⟨⟩
theorem law_holds.tw5120955241556184348 : True := ⟨⟩
theorem law_holds.tw5135741150635073891 : True := ⟨⟩
theorem law_holds.tw5139188619027403912 : True := ⟨⟩
theorem law_holds.tw5152284296260459411 : True := ⟨⟩
theorem law_holds.tw5153028524849514338 : True := ⟨⟩
theorem law_holds.tw5162006074118520949 : True := ⟨⟩
theorem law_holds.tw5172560817156665507 : True := ⟨⟩
theorem law_holds.tw5173500799838982679 : True := ⟨⟩
theorem law_holds.tw5201415046250804488 : True := ⟨⟩
theorem law_holds.tw5205431490406056113 : True := ⟨⟩
theorem law_holds.tw5218039843556498485 : True := ⟨⟩
theorem law_holds.tw5235605746628119970 : True := ⟨⟩
theorem law_holds.tw5254327111207851879 : True := ⟨⟩
theorem law_holds.tw5254441242223137704 : True := ⟨⟩
theorem law_holds.tw5260775697993614706 : True := ⟨⟩
theorem law_holds.tw5285772257705348711 : True := ⟨⟩
theorem law_holds.tw5288958501552324708 : True := ⟨⟩
theorem law_holds.tw5317453028078956316 : True := ⟨⟩
theorem law_holds.tw5327397848908674913 : True := ⟨⟩
theorem law_holds.tw5364249521098135726 : True := ⟨⟩
theorem law_holds.tw5393348036593622735 : True := ⟨⟩
theorem law_holds.tw5399550294362827149 : True := ⟨⟩
theorem law_holds.tw5417312284463934372 : True := ⟨⟩
theorem law_holds.tw5434542300110812765 : True := ⟨⟩
theorem law_holds.tw5454784831693760577 : True := ⟨⟩
theorem law_holds.tw5474198724693061351 : True := ⟨⟩
theorem law_holds.tw5476594253017092998 : True := ⟨⟩
theorem law_holds.tw5482124966698369665 : True := ⟨⟩
theorem law_holds.tw5488420776483878224 : True := ⟨⟩
theorem law_holds.tw5509367528391726877 : True := ⟨⟩
theorem law_holds.tw5515668530242105004 : True := ⟨⟩
theorem law_holds.tw5541492678423708311 : True := ⟨⟩
theorem law_holds.tw5551042337550201137 : True := ⟨⟩
theorem law_holds.tw5558385386999529331 : True := ⟨⟩
theorem law_holds.tw5562608211636819897 : True := ⟨⟩
theorem law_holds.tw55657173040724303 : True := ⟨⟩
theorem law_holds.tw557197359063523293 : True := ⟨⟩
theorem law_holds.tw5579264234754903540 : True := ⟨⟩
theorem law_holds.tw5606994476150189445 : True := ⟨⟩
theorem law_holds.tw5609655860468483373 : True := ⟨⟩
theorem law_holds.tw5634199380220972749 : True := ⟨⟩
theorem law_holds.tw5637438814629655334 : True := ⟨⟩
theorem law_holds.tw5662154645854165010 : True := ⟨⟩
theorem law_holds.tw5705521688639115546 : True := ⟨⟩
theorem law_holds.tw571588801343077387 : True := ⟨⟩
theorem law_holds.tw5720857567399438682 : True := ⟨⟩
theorem law_holds.tw5723603907304244302 : True := ⟨⟩
theorem law_holds.tw576134501787306146 : True := ⟨⟩
theorem law_holds.tw5766891820121325152 : True := ⟨⟩
theorem law_holds.tw5787967195170081658 : True := ⟨⟩
theorem law_holds.tw5791922868556419420 : True := ⟨⟩
theorem law_holds.tw5794674118844486567 : True := ⟨⟩
theorem law_holds.tw5799802765459790352 : True := ⟨⟩
theorem law_holds.tw5802621341092380790 : True := ⟨⟩
theorem law_holds.tw5811295894658700699 : True := ⟨⟩
theorem law_holds.tw5819474281330330826 : True := ⟨⟩
theorem law_holds.tw5819736999542415925 : True := ⟨⟩
theorem law_holds.tw5852667069977655926 : True := ⟨⟩
theorem law_holds.tw5874668137207507550 : True := ⟨⟩
theorem law_holds.tw5897487379717823109 : True := ⟨⟩
theorem law_holds.tw5900044384466250426 : True := ⟨⟩
theorem law_holds.tw5918962008542485728 : True := ⟨⟩
theorem law_holds.tw5920368865785294545 : True := ⟨⟩
theorem law_holds.tw5924848056579047003 : True := ⟨⟩
theorem law_holds.tw5928199127697195394 : True := ⟨⟩
theorem law_holds.tw5947112013378273175 : True := ⟨⟩
theorem law_holds.tw5964955761917117068 : True := ⟨⟩
theorem law_holds.tw5973380429520954311 : True := ⟨⟩
theorem law_holds.tw5990349139059957811 : True := ⟨⟩
theorem law_holds.tw5992519195626364298 : True := ⟨⟩
theorem law_holds.tw5997288092216580835 : True := ⟨⟩
theorem law_holds.tw6014879937324136886 : True := ⟨⟩
theorem law_holds.tw6049029497269744235 : True := ⟨⟩
theorem law_holds.tw6051493527027577167 : True := ⟨⟩
theorem law_holds.tw6074924821121349249 : True := ⟨⟩
theorem law_holds.tw6079390711709146301 : True := ⟨⟩
theorem law_holds.tw6100359329737460489 : True := ⟨⟩
theorem law_holds.tw6110993454989379842 : True := ⟨⟩
theorem law_holds.tw6115931476383406861 : True := ⟨⟩
theorem law_holds.tw6117674117713561254 : True := ⟨⟩
theorem law_holds.tw6143708738526400573 : True := ⟨⟩
theorem law_holds.tw6155148943435244505 : True := ⟨⟩
theorem law_holds.tw6173059751636699280 : True := ⟨⟩
theorem law_holds.tw6180575134756334344 : True := ⟨⟩
theorem law_holds.tw6224671914748080901 : True := ⟨⟩
theorem law_holds.tw6239321410554339237 : True := ⟨⟩
theorem law_holds.tw6272376800678597719 : True := ⟨⟩
theorem law_holds.tw6323614486402398878 : True := ⟨⟩
theorem law_holds.tw6353055661471514080 : True := ⟨⟩
theorem law_holds.tw6360323136668353075 : True := ⟨⟩
theorem law_holds.tw6368503295891299679 : True := ⟨⟩
theorem law_holds.tw6370630346026406290 : True := ⟨⟩
theorem law_holds.tw6429890755464385071 : True := ⟨⟩
theorem law_holds.tw6438941647522444049 : True := ⟨⟩
theorem law_holds.tw6459800180564727870 : True := ⟨⟩
theorem law_holds.tw6476776861433124814 : True := ⟨⟩
theorem law_holds.tw6485106301605879998 : True := ⟨⟩
theorem law_holds.tw6499530777847250110 : True := ⟨⟩
theorem law_holds.tw6504548107494032889 : True := ⟨⟩
theorem law_holds.tw6511491647036999876 : True := ⟨⟩
theorem law_holds.tw653522021050696200 : True := ⟨⟩
theorem law_holds.tw6537852273631806380 : True := ⟨⟩
theorem law_holds.tw6547551587386667317 : True := ⟨⟩
theorem law_holds.tw6561760434553192112 : True := ⟨⟩
theorem law_holds.tw6564162417736511308 : True := ⟨⟩
theorem law_holds.tw6587748151094191784 : True := ⟨⟩
theorem law_holds.tw6591613004183336102 : True := ⟨⟩
theorem law_holds.tw65947026249536698 : True := ⟨⟩
theorem law_holds.tw6621019630587691779 : True := ⟨⟩
theorem law_holds.tw6628051934108827280 : True := ⟨⟩
theorem law_holds.tw6662843709293791642 : True := ⟨⟩
theorem law_holds.tw6675509237695336651 : True := ⟨⟩
theorem law_holds.tw6695011343535547264 : True := ⟨⟩
theorem law_holds.tw6698099709331376841 : True := ⟨⟩
theorem law_holds.tw6706973716754787491 : True := ⟨⟩
theorem law_holds.tw6723270807678410074 : True := ⟨⟩
theorem law_holds.tw6730046160849283155 : True := ⟨⟩
theorem law_holds.tw6750134865293303027 : True := ⟨⟩
theorem law_holds.tw6804162179539827080 : True := ⟨⟩
theorem law_holds.tw6817565763991782445 : True := ⟨⟩
theorem law_holds.tw6842550512341916652 : True := ⟨⟩
theorem law_holds.tw686330107304596640 : True := ⟨⟩
theorem law_holds.tw6880437451722523370 : True := ⟨⟩
theorem law_holds.tw6882455827231660274 : True := ⟨⟩
theorem law_holds.tw688927644696000126 : True := ⟨⟩
theorem law_holds.tw6904470197471382458 : True := ⟨⟩
theorem law_holds.tw6906089951811619507 : True := ⟨⟩
theorem law_holds.tw6909678712784235898 : True := ⟨⟩
theorem law_holds.tw694352794882526691 : True := ⟨⟩
theorem law_holds.tw6947036296512220659 : True := ⟨⟩
theorem law_holds.tw6960322286946674492 : True := ⟨⟩
theorem law_holds.tw6961023219135619587 : True := ⟨⟩
theorem law_holds.tw696429238302535026 : True := ⟨⟩
theorem law_holds.tw6972600265463863971 : True := ⟨⟩
theorem law_holds.tw6992671894511957389 : True := ⟨⟩
theorem law_holds.tw699299873358123047 : True := ⟨⟩
theorem law_holds.tw7026909405468963698 : True := ⟨⟩
theorem law_holds.tw7035356284700536522 : True := ⟨⟩
theorem law_holds.tw7044192977289095331 : True := ⟨⟩
theorem law_holds.tw7047406330862776818 : True := ⟨⟩
theorem law_holds.tw7073468719860314826 : True := ⟨⟩
theorem law_holds.tw708162072390459576 : True := ⟨⟩
theorem law_holds.tw709598639306445942 : True := ⟨⟩
theorem law_holds.tw7113151545364184393 : True := ⟨⟩
theorem law_holds.tw7125872386322188107 : True := ⟨⟩
theorem law_holds.tw7137168626199781116 : True := ⟨⟩
theorem law_holds.tw7146303505121405007 : True := ⟨⟩
theorem law_holds.tw7150370501933766531 : True := ⟨⟩
theorem law_holds.tw7159702618261245118 : True := ⟨⟩
theorem law_holds.tw7169856752926146430 : True := ⟨⟩
theorem law_holds.tw720598331489395493 : True := ⟨⟩
theorem law_holds.tw7208030080058173759 : True := ⟨⟩
theorem law_holds.tw7255934170012064160 : True := ⟨⟩
theorem law_holds.tw7270873979967811571 : True := ⟨⟩
theorem law_holds.tw7286591527275345738 : True := ⟨⟩
theorem law_holds.tw7288835618360219073 : True := ⟨⟩
theorem law_holds.tw7309275009484742725 : True := ⟨⟩
theorem law_holds.tw7321065781637162666 : True := ⟨⟩
theorem law_holds.tw7333916058305130124 : True := ⟨⟩
theorem law_holds.tw734994663133130044 : True := ⟨⟩
theorem law_holds.tw7365065130178217500 : True := ⟨⟩
theorem law_holds.tw7378456267392247380 : True := ⟨⟩
theorem law_holds.tw7395783938224102107 : True := ⟨⟩
theorem law_holds.tw7433021404530414967 : True := ⟨⟩
theorem law_holds.tw7433470043136809625 : True := ⟨⟩
theorem law_holds.tw7477035880282978533 : True := ⟨⟩
theorem law_holds.tw7478448803672479804 : True := ⟨⟩
theorem law_holds.tw748195397437415733 : True := ⟨⟩
theorem law_holds.tw7504235951143712683 : True := ⟨⟩
theorem law_holds.tw7508132601803087903 : True := ⟨⟩
theorem law_holds.tw7509014459181613493 : True := ⟨⟩
theorem law_holds.tw7520056285785265180 : True := ⟨⟩
theorem law_holds.tw753851459141465443 : True := ⟨⟩
theorem law_holds.tw7554454759576623148 : True := ⟨⟩
theorem law_holds.tw7602153892368502531 : True := ⟨⟩
theorem law_holds.tw7616228748898427219 : True := ⟨⟩
theorem law_holds.tw7622417570411657722 : True := ⟨⟩
theorem law_holds.tw7630516612723321384 : True := ⟨⟩
theorem law_holds.tw7654318278696820823 : True := ⟨⟩
theorem law_holds.tw7668175454493636125 : True := ⟨⟩
theorem law_holds.tw7681388532915102346 : True := ⟨⟩
theorem law_holds.tw7682752720195760030 : True := ⟨⟩
theorem law_holds.tw7711713872286236761 : True := ⟨⟩
theorem law_holds.tw7731313980037218645 : True := ⟨⟩
theorem law_holds.tw77360591049746714 : True := ⟨⟩
theorem law_holds.tw7781404634251678353 : True := ⟨⟩
theorem law_holds.tw7825045771964271263 : True := ⟨⟩
theorem law_holds.tw7865938522785429889 : True := ⟨⟩
theorem law_holds.tw7871897844420246095 : True := ⟨⟩
theorem law_holds.tw7899658907711817786 : True := ⟨⟩
theorem law_holds.tw7901165566357719412 : True := ⟨⟩
theorem law_holds.tw7913123651191499674 : True := ⟨⟩
theorem law_holds.tw7913207167296016449 : True := ⟨⟩
theorem law_holds.tw7934116452511656364 : True := ⟨⟩
theorem law_holds.tw7946045760295342719 : True := ⟨⟩
theorem law_holds.tw7947393385427425841 : True := ⟨⟩
theorem law_holds.tw7951747571982098433 : True := ⟨⟩
theorem law_holds.tw7968386435724240722 : True := ⟨⟩
theorem law_holds.tw7973242756556276447 : True := ⟨⟩
theorem law_holds.tw8012613678485047639 : True := ⟨⟩
theorem law_holds.tw8033010895794479803 : True := ⟨⟩
theorem law_holds.tw8055684887711127812 : True := ⟨⟩
theorem law_holds.tw805767576385354026 : True := ⟨⟩
theorem law_holds.tw8081865132611904600 : True := ⟨⟩
theorem law_holds.tw8082914793320700086 : True := ⟨⟩
theorem law_holds.tw8089997304780404240 : True := ⟨⟩
theorem law_holds.tw8111676694582780457 : True := ⟨⟩
theorem law_holds.tw81164237806711722 : True := ⟨⟩
theorem law_holds.tw8132087589380393290 : True := ⟨⟩
theorem law_holds.tw8143894888996177053 : True := ⟨⟩
theorem law_holds.tw8156259903887263312 : True := ⟨⟩
theorem law_holds.tw8156519659089309348 : True := ⟨⟩
theorem law_holds.tw8187349150080336007 : True := ⟨⟩
theorem law_holds.tw8193532824773604181 : True := ⟨⟩
theorem law_holds.tw8203661437282387067 : True := ⟨⟩
theorem law_holds.tw8248844630646307148 : True := ⟨⟩
theorem law_holds.tw8253063004169731589 : True := ⟨⟩
theorem law_holds.tw826453026670632270 : True := ⟨⟩
theorem law_holds.tw8279697591861880404 : True := ⟨⟩
theorem law_holds.tw8290415029886342368 : True := ⟨⟩
theorem law_holds.tw8310009029516745979 : True := ⟨⟩
theorem law_holds.tw8325483703637889926 : True := ⟨⟩
theorem law_holds.tw8340610905935278515 : True := ⟨⟩
theorem law_holds.tw8361338195456914951 : True := ⟨⟩
theorem law_holds.tw8374737544143821424 : True := ⟨⟩
theorem law_holds.tw837729697082799040 : True := ⟨⟩
theorem law_holds.tw8384459176629780951 : True := ⟨⟩
theorem law_holds.tw8399190584120863508 : True := ⟨⟩
theorem law_holds.tw8406456491250274800 : True := ⟨⟩
theorem law_holds.tw8407965811186603662 : True := ⟨⟩
theorem law_holds.tw8462653651349142469 : True := ⟨⟩
theorem law_holds.tw8466951338577285095 : True := ⟨⟩
theorem law_holds.tw8472278952821834799 : True := ⟨⟩
theorem law_holds.tw8491726617924630547 : True := ⟨⟩
theorem law_holds.tw8500419045807981591 : True := ⟨⟩
theorem law_holds.tw8516268144060344003 : True := ⟨⟩
theorem law_holds.tw8520890821955745619 : True := ⟨⟩
theorem law_holds.tw8524900398178842638 : True := ⟨⟩
theorem law_holds.tw8526198943415923459 : True := ⟨⟩
theorem law_holds.tw8551341276154652187 : True := ⟨⟩
theorem law_holds.tw8562186586092381641 : True := ⟨⟩
theorem law_holds.tw8563591701065359690 : True := ⟨⟩
theorem law_holds.tw8572785765775028631 : True := ⟨⟩
theorem law_holds.tw8588205080401615205 : True := ⟨⟩
theorem law_holds.tw8637182178076796682 : True := ⟨⟩
theorem law_holds.tw864101520204061464 : True := ⟨⟩
theorem law_holds.tw8669356908383824515 : True := ⟨⟩
theorem law_holds.tw8684163413420977460 : True := ⟨⟩
theorem law_holds.tw8690181671821884093 : True := ⟨⟩
theorem law_holds.tw8690898694297038868 : True := ⟨⟩
theorem law_holds.tw8703659047479574639 : True := ⟨⟩
theorem law_holds.tw8708425594575243192 : True := ⟨⟩
theorem law_holds.tw872249794484361456 : True := ⟨⟩
theorem law_holds.tw8732869067178102275 : True := ⟨⟩
theorem law_holds.tw8751414281541496871 : True := ⟨⟩
theorem law_holds.tw8762862629569283742 : True := ⟨⟩
theorem law_holds.tw8785281189859530998 : True := ⟨⟩
theorem law_holds.tw8816335296736398963 : True := ⟨⟩
theorem law_holds.tw8834082337258142371 : True := ⟨⟩
theorem law_holds.tw8834361097376725623 : True := ⟨⟩
theorem law_holds.tw8841112227852557698 : True := ⟨⟩
theorem law_holds.tw8863135779802847260 : True := ⟨⟩
theorem law_holds.tw8863340305974805457 : True := ⟨⟩
theorem law_holds.tw8871758455734642622 : True := ⟨⟩
theorem law_holds.tw8871855045602779635 : True := ⟨⟩
theorem law_holds.tw8878010488295365254 : True := ⟨⟩
theorem law_holds.tw8896083478011502361 : True := ⟨⟩
theorem law_holds.tw8901721677882008686 : True := ⟨⟩
theorem law_holds.tw8921337604919534518 : True := ⟨⟩
theorem law_holds.tw8932055126936294175 : True := ⟨⟩
theorem law_holds.tw89637804425741594 : True := ⟨⟩
theorem law_holds.tw8972115769227354116 : True := ⟨⟩
theorem law_holds.tw8981258045308273944 : True := ⟨⟩
theorem law_holds.tw9009707909721042844 : True := ⟨⟩
theorem law_holds.tw9020338905629883686 : True := ⟨⟩
theorem law_holds.tw9029400513001958272 : True := ⟨⟩
theorem law_holds.tw9034107256062801224 : True := ⟨⟩
theorem law_holds.tw907820587043198542 : True := ⟨⟩
theorem law_holds.tw9093409620874363269 : True := ⟨⟩
theorem law_holds.tw9137433503264313138 : True := ⟨⟩
theorem law_holds.tw9139901691995397707 : True := ⟨⟩
theorem law_holds.tw9152309593666151486 : True := ⟨⟩
theorem law_holds.tw9160188745413748181 : True := ⟨⟩
theorem law_holds.tw9167613239916579928 : True := ⟨⟩
theorem law_holds.tw9173603887256036368 : True := ⟨⟩
theorem law_holds.tw9192696477610819373 : True := ⟨⟩
theorem law_holds.tw9195882462063152482 : True := ⟨⟩
theorem law_holds.tw9234340669121106043 : True := ⟨⟩
theorem law_holds.tw9239773519987724179 : True := ⟨⟩
theorem law_holds.tw9263972558774079187 : True := ⟨⟩
theorem law_holds.tw9271807960739470120 : True := ⟨⟩
theorem law_holds.tw927581666708808391 : True := ⟨⟩
theorem law_holds.tw930745708142225678 : True := ⟨⟩
theorem law_holds.tw9329259519456502907 : True := ⟨⟩
theorem law_holds.tw9363068114498997030 : True := ⟨⟩
theorem law_holds.tw9381908011039995572 : True := ⟨⟩
theorem law_holds.tw9415029245647605142 : True := ⟨⟩
theorem law_holds.tw94325488675629795 : True := ⟨⟩
theorem law_holds.tw9435941260280073546 : True := ⟨⟩
theorem law_holds.tw9440605468423063267 : True := ⟨⟩
theorem law_holds.tw944143977441443897 : True := ⟨⟩
theorem law_holds.tw9443197924441955103 : True := ⟨⟩
theorem law_holds.tw9460605521727737275 : True := ⟨⟩
theorem law_holds.tw9475588587990334337 : True := ⟨⟩
theorem law_holds.tw9478627954262007368 : True := ⟨⟩
theorem law_holds.tw9483781781490770572 : True := ⟨⟩
theorem law_holds.tw950961560480477891 : True := ⟨⟩
theorem law_holds.tw9515330038361068236 : True := ⟨⟩
theorem law_holds.tw951698451140328489 : True := ⟨⟩
theorem law_holds.tw951759079598597367 : True := ⟨⟩
theorem law_holds.tw9528451587153599427 : True := ⟨⟩
theorem law_holds.tw953870093286483845 : True := ⟨⟩
theorem law_holds.tw9542393573346083571 : True := ⟨⟩
theorem law_holds.tw9579703018102657401 : True := ⟨⟩
theorem law_holds.tw9604651804105666052 : True := ⟨⟩
theorem law_holds.tw9605601422513207756 : True := ⟨⟩
theorem law_holds.tw9626973041863038283 : True := ⟨⟩
theorem law_holds.tw9630834470164370103 : True := ⟨⟩
theorem law_holds.tw9637516840279225873 : True := ⟨⟩
theorem law_holds.tw9647770208073827603 : True := ⟨⟩
theorem law_holds.tw965587962098399999 : True := ⟨⟩
theorem law_holds.tw9676964219454022751 : True := ⟨⟩
theorem law_holds.tw9700040075570720250 : True := ⟨⟩
theorem law_holds.tw9701369512448153435 : True := ⟨⟩
theorem law_holds.tw9729572892161812839 : True := ⟨⟩
theorem law_holds.tw9730216609033272663 : True := ⟨⟩
theorem law_holds.tw9741384130208005790 : True := ⟨⟩
theorem law_holds.tw9747710511580924092 : True := ⟨⟩
theorem law_holds.tw9784045433822902911 : True := ⟨⟩
theorem law_holds.tw9813464422704410605 : True := ⟨⟩
theorem law_holds.tw9815268222404128285 : True := ⟨⟩
theorem law_holds.tw9821174503532949447 : True := ⟨⟩
theorem law_holds.tw9851270549671545992 : True := ⟨⟩
theorem law_holds.tw9855248110773508500 : True := ⟨⟩
theorem law_holds.tw9875205074995169472 : True := ⟨⟩
theorem law_holds.tw992392861647674021 : True := ⟨⟩
theorem law_holds.tw9939138607938107083 : True := ⟨⟩
theorem law_holds.tw9942885456422483093 : True := ⟨⟩
theorem law_holds.tw9967451538194410698 : True := ⟨⟩
theorem law_holds.tw9968065614331392545 : True := ⟨⟩
theorem law_holds.tw9968153105029362865 : True := ⟨⟩
/-- what is left of the law behind the head: the call of `law` (proved at the end: fin3) -/
noncomputable def FinT : Prop := ∀ (hK : Params → Frag) (vw : Program), (∀ P, Mini.chkAll PySem.Challenge.rw_zu0062_03.row.prog (hK P) Mini.L3.P = true) → importsNone vw = true →
    ∀ {w : World} {s : Shared} {mg mb : Str → Option Value} {fa a : Addr} {vs : List Value} {ns : List Int} {mean' : ExcName → Option Value} {cl : Str → Option Addr} {E : Value → Shared → Prop}, (hK w.params).In s.heap →
    ∀ {loose : List Str} {mean : ExcName → Option Value}, Top vw loose mean mg mb s.heap → s.gens = #[] → mg "law" = some (.ref fa) → s.heap.IsList a vs.toArray → IntsAre vs ns → ¬ (63 : Int) < ns.length →
    wpAny (model PySem.Challenge.rw_zu0062_03.row.prog w) callerA (call (.ref fa) [.ref a])
      (fun v s' => GoodWG PySem.Challenge.rw_zu0062_03.row.claim cl mean' [ofPy (PyData.list (List.map PyData.int ns))] s (.ok (.ret v)) s') E s
set_option hygiene false
-- the head clears what stands beside its goal: so the fact that is left to prove goes through it with what is said of the heap
local macro_rules | `(tactic| refine $f:ident ($n1:ident := $q) ($n2:ident := $l) ($n3:ident := $x) ($n4:ident := $xp) ($n5:ident := $yf) ($n6:ident := $ya) ($n7:ident := $yp) ($n8:ident := $n) $hl $of $kp $rest*) => `(tactic| refine ($f ($n1:ident := $q) ($n2:ident := $l) ($n3:ident := $x) ($n4:ident := $xp) ($n5:ident := $yf) ($n6:ident := $ya) ($n7:ident := fun w h => $yp w h ∧ FinT) ($n8:ident := $n) $hl (fun w s e => ⟨$of w s e, fin⟩) (fun w h h' s k => ⟨$kp w h h' s.1 k, s.2⟩) $rest*))
/-- the head -/
theorem law_holds (fin : FinT) : PySem.Challenge.rw_zu0062_03.Holds := by
  w_on
  o_law
  k_head
  (case hw => w_witness2)
  k_fill
  intro w s₀ s₁ mg mb G Y fa o pm cd doc dV kV ho hd hcd hD hmg hg args vals as hpre hlay hrd hwl hlo
  have KX := kIn_of Y.1
  have fin := Y.2
  have X := (Ground.X G).1
  have V := (Ground.X G).2
  refine Ground.open G ?_
  intro T B D TE TW
  try (refine guard_noD D (by decide +kernel) ?_; clear D)
  obtain ⟨_, _, M⟩ := bmod_of_top T
  have TA := at_of_top T
  wrow_args hpre hlay hrd hwl hlo
  all_goals (apply fin _ _ ?chk ?imp KX T hg hmg; (case chk => intro P; kernel_rfl); (case imp => kernel_rfl); assumption; assumption; assumption)

end PJ3
end
section
set_option autoImplicit false
namespace Mini
open PySem PySem.Calls
open PySem.W (Frag)

set_option genInjectivity false in
set_option genSizeOf false in
/-- where the objects that change lie; and lists that are being built and that no value may show -/
structure Rh where
  l : List (Addr × Addr)
  z : List Addr
noncomputable instance : GetElem? Rh Nat (Addr × Addr) (fun ρ i => i < ρ.l.length) where
  getElem ρ i h := ρ.l[i]
  getElem? ρ i := ρ.l[i]?
noncomputable instance : HAppend Rh (List (Addr × Addr)) Rh := ⟨fun ρ ps => ⟨ρ.l ++ ps, ρ.z⟩⟩
noncomputable def Rh.nil : Rh := ⟨[], []⟩
theorem Rh.at_ (ρ : Rh) (i : Nat) : ρ[i]? = ρ.l[i]? := rfl
theorem Rh.app_l (ρ : Rh) (ps : List (Addr × Addr)) : (ρ ++ ps).l = ρ.l ++ ps := rfl
theorem Rh.app_z (ρ : Rh) (ps : List (Addr × Addr)) : (ρ ++ ps).z = ρ.z := rfl

noncomputable def O.live : O → Bool
  | .dead => false
  | _ => true

/-- the addresses of the objects that may still change -/
noncomputable def Own (ρ : Rh) (H : Hp) (a : Addr) : Prop := ∃ (i : Nat) (p : Addr × Addr) (o : O), ρ[i]? = some p ∧ H[i]? = some o ∧ o.live = true ∧ (a = p.1 ∨ a = p.2)

/-- no value may show it -/
noncomputable def Shy (ρ : Rh) (H : Hp) (a : Addr) : Prop := Own ρ H a ∨ a ∈ ρ.z

mutual
inductive VR (ρ : Rh) (H : Hp) (h : Heap) : V → Value → Prop
  | none : VR ρ H h .none .none
  | bool (b : Bool) : VR ρ H h (.bool b) (.bool b)
  | int (i : Int) (t : Tok) : VR ρ H h (.int i) (.int i t)
  | str (s : Nat) (t : Tok) : VR ρ H h (.str s) (.str (nm s) t)
  | tup {a : Addr} {vs : List V} {items : Array Value} : h.IsTuple a items → VRs ρ H h vs items.toList → VR ρ H h (.tup vs) (.ref a)
  | lst {a : Addr} {vs : List V} {items : Array Value} : h.IsList a items → ¬ Shy ρ H a → VRs ρ H h vs items.toList → VR ρ H h (.lst vs) (.ref a)
  | ref {n : Nat} {p : Addr × Addr} : ρ[n]? = some p → VR ρ H h (.ref n) (.ref p.1)
inductive VRs (ρ : Rh) (H : Hp) (h : Heap) : List V → List Value → Prop
  | nil : VRs ρ H h [] []
  | cons {v : V} {x : Value} {vs : List V} {xs : List Value} : VR ρ H h v x → VRs ρ H h vs xs → VRs ρ H h (v :: vs) (x :: xs)
end

theorem V.ind {p : V → Prop} {q : List V → Prop} (none : p .none) (bool : ∀ b, p (.bool b)) (int : ∀ i, p (.int i)) (str : ∀ s, p (.str s)) (tup : ∀ l, q l → p (.tup l)) (lst : ∀ l, q l → p (.lst l)) (ref : ∀ n, p (.ref n)) (nil : q []) (cons : ∀ v l, p v → q l → q (v :: l)) : (∀ v, p v) ∧ ∀ l, q l :=
  ⟨V.rec none bool int str tup lst ref nil cons, V.rec_1 none bool int str tup lst ref nil cons⟩
theorem VR.ind {ρ : Rh} {H : Hp} {h : Heap} {p : V → Value → Prop} {q : List V → List Value → Prop} (none : p .none .none) (bool : ∀ b, p (.bool b) (.bool b)) (int : ∀ i t, p (.int i) (.int i t)) (str : ∀ s t, p (.str s) (.str (nm s) t))
    (tup : ∀ {a vs items}, h.IsTuple a items → q vs items.toList → p (.tup vs) (.ref a)) (lst : ∀ {a vs items}, h.IsList a items → ¬ Shy ρ H a → q vs items.toList → p (.lst vs) (.ref a)) (ref : ∀ {n r}, ρ[n]? = some r → p (.ref n) (.ref r.1))
    (nil : q [] []) (cons : ∀ {v x vs xs}, p v x → q vs xs → q (v :: vs) (x :: xs)) : (∀ {v x}, VR ρ H h v x → p v x) ∧ ∀ {vs xs}, VRs ρ H h vs xs → q vs xs :=
  ⟨VR.rec (motive_1 := fun v x _ => p v x) (motive_2 := fun vs xs _ => q vs xs) none bool int str (fun a _ i => tup a i) (fun a n _ i => lst a n i) ref nil fun _ _ i j => cons i j,
    VRs.rec (motive_1 := fun v x _ => p v x) (motive_2 := fun vs xs _ => q vs xs) none bool int str (fun a _ i => tup a i) (fun a n _ i => lst a n i) ref nil fun _ _ i j => cons i j⟩
theorem VRs.ind {ρ : Rh} {H : Hp} {h : Heap} {q : List V → List Value → Prop} (nil : q [] []) (cons : ∀ {v x vs xs}, VR ρ H h v x → VRs ρ H h vs xs → q vs xs → q (v :: vs) (x :: xs)) : ∀ {vs xs}, VRs ρ H h vs xs → q vs xs :=
  VRs.rec (motive_1 := fun _ _ _ => True) (motive_2 := fun vs xs _ => q vs xs) trivial (fun _ => trivial) (fun _ _ => trivial) (fun _ _ => trivial) (fun _ _ _ => trivial) (fun _ _ _ _ => trivial) (fun _ => trivial) nil fun a b _ j => cons a b j

section
variable {ρ : Rh} {H : Hp} {h : Heap} {z : Value} {p : Value → Prop}
@[elab_as_elim] theorem VR.noneE (r : VR ρ H h .none z) (k : p .none) : p z := by cases r; exact k
@[elab_as_elim] theorem VR.boolE {b : Bool} (r : VR ρ H h (.bool b) z) (k : p (.bool b)) : p z := by cases r; exact k
@[elab_as_elim] theorem VRs.consE {ρ : Rh} {H : Hp} {h : Heap} {v : V} {vs : List V} {xs : List Value} {P : List Value → Prop} (r : VRs ρ H h (v :: vs) xs) (k : ∀ {x xs}, VR ρ H h v x → VRs ρ H h vs xs → P (x :: xs)) : P xs := by
  cases r with
  | cons a b => exact k a b
@[elab_as_elim] theorem VR.intE {i : Int} (r : VR ρ H h (.int i) z) (k : ∀ t, p (.int i t)) : p z := by cases r; exact k _
@[elab_as_elim] theorem VR.strE {i : Nat} (r : VR ρ H h (.str i) z) (k : ∀ t, p (.str (nm i) t)) : p z := by cases r; exact k _
@[elab_as_elim] theorem VR.tupE {vs : List V} (r : VR ρ H h (.tup vs) z) (k : ∀ {a items}, h.IsTuple a items → VRs ρ H h vs items.toList → p (.ref a)) : p z := by cases r with | tup a b => exact k a b
@[elab_as_elim] theorem VR.lstE {vs : List V} (r : VR ρ H h (.lst vs) z) (k : ∀ {a items}, h.IsList a items → ¬ Shy ρ H a → VRs ρ H h vs items.toList → p (.ref a)) : p z := by cases r with | lst a b c => exact k a b c
@[elab_as_elim] theorem VR.refE {n : Nat} (r : VR ρ H h (.ref n) z) (k : ∀ {q}, ρ[n]? = some q → p (.ref q.1)) : p z := by cases r with | ref e => exact k e
end

/-- what of the heap lasts: tuples all, lists that nobody owns -/
structure Lasts (ρ : Rh) (H : Hp) (h : Heap) (ρ' : Rh) (H' : Hp) (h' : Heap) : Prop where
  ext : ρ.l <+: ρ'.l
  tup : ∀ a items, h.IsTuple a items → h'.IsTuple a items
  lst : ∀ a items, h.IsList a items → ¬ Shy ρ H a → h'.IsList a items ∧ ¬ Shy ρ' H' a

theorem getElem?_of_prefix {α : Type} {l l' : List α} (h : l <+: l') {i : Nat} {x : α} (e : l[i]? = some x) : l'[i]? = some x := by
  obtain ⟨t, rfl⟩ := h
  have hi : i < l.length := by
    rcases Nat.lt_or_ge i l.length with q | q
    · exact q
    · rw [List.getElem?_eq_none q] at e; cases e
  rw [List.getElem?_append_left hi]; exact e

theorem lasts_ind {ρ ρ' : Rh} {H H' : Hp} {h h' : Heap} (L : Lasts ρ H h ρ' H' h') : (∀ {v : V} {x : Value}, VR ρ H h v x → VR ρ' H' h' v x) ∧ ∀ {v : List V} {x : List Value}, VRs ρ H h v x → VRs ρ' H' h' v x :=
  VR.ind .none .bool .int .str (fun a b => .tup (L.tup _ _ a) b) (fun a n b => .lst (L.lst _ _ a n).1 (L.lst _ _ a n).2 b) (fun e => .ref (getElem?_of_prefix L.ext e)) .nil fun a b => .cons a b
section
variable {ρ ρ' : Rh} {H H' : Hp} {h h' : Heap}
theorem VR.lasts (L : Lasts ρ H h ρ' H' h') {v : V} {x : Value} (r : VR ρ H h v x) : VR ρ' H' h' v x := (lasts_ind L).1 r
theorem VRs.lasts (L : Lasts ρ H h ρ' H' h') {v : List V} {x : List Value} (r : VRs ρ H h v x) : VRs ρ' H' h' v x := (lasts_ind L).2 r
theorem VRs.length {v : List V} {x : List Value} (r : VRs ρ H h v x) : v.length = x.length := VRs.ind (q := fun v x => v.length = x.length) rfl (fun _ _ b => congrArg (· + 1) b) r
theorem VRs.append {v v' : List V} {x x' : List Value} (r : VRs ρ H h v x) (y : VRs ρ H h v' x') : VRs ρ H h (v ++ v') (x ++ x') := VRs.ind (q := fun v x => VRs ρ H h (v ++ v') (x ++ x')) y (fun a _ b => .cons a b) r
theorem VRs.get {vs : List V} {xs : List Value} (r : VRs ρ H h vs xs) : ∀ {i : Nat} {v : V}, vs[i]? = some v → ∃ x, xs[i]? = some x ∧ VR ρ H h v x :=
  VRs.ind (q := fun vs xs => ∀ {i : Nat} {v : V}, vs[i]? = some v → ∃ x, xs[i]? = some x ∧ VR ρ H h v x) (fun e => by cases e) (by
    intro _ _ _ _ a _ b i v e
    induction i using Nat.casesAuxOn with
    | zero => cases e; exact ⟨_, rfl, a⟩
    | succ i => exact b e) r
theorem VRs.set {vs : List V} {xs : List Value} (r : VRs ρ H h vs xs) : ∀ (i : Nat) {v : V} {x : Value}, VR ρ H h v x → VRs ρ H h (vs.set i v) (xs.set i x) :=
  VRs.ind (q := fun vs xs => ∀ (i : Nat) {v : V} {x : Value}, VR ρ H h v x → VRs ρ H h (vs.set i v) (xs.set i x)) (fun _ _ _ _ => .nil) (by
    intro _ _ _ _ a y b i v x q
    induction i using Nat.casesAuxOn with
    | zero => exact .cons q y
    | succ i => exact .cons a (b i q)) r
theorem VRs.take {vs : List V} {xs : List Value} (n : Nat) (r : VRs ρ H h vs xs) : VRs ρ H h (vs.take n) (xs.take n) :=
  VRs.ind (q := fun vs xs => ∀ n, VRs ρ H h (vs.take n) (xs.take n)) (fun n => by induction n using Nat.casesAuxOn <;> exact .nil) (by
    intro _ _ _ _ a y b n
    induction n using Nat.casesAuxOn with
    | zero => exact .nil
    | succ n => exact .cons a (b n)) r n
theorem VRs.drop {vs : List V} {xs : List Value} (n : Nat) (r : VRs ρ H h vs xs) : VRs ρ H h (vs.drop n) (xs.drop n) :=
  VRs.ind (q := fun vs xs => ∀ n, VRs ρ H h (vs.drop n) (xs.drop n)) (fun n => by induction n using Nat.casesAuxOn <;> exact .nil) (by
    intro _ _ _ _ a y b n
    induction n using Nat.casesAuxOn with
    | zero => exact .cons a y
    | succ n => exact b n) r n
end
theorem VRs.dropLast {ρ : Rh} {H : Hp} {h : Heap} {vs : List V} {xs : List Value} (x : VRs ρ H h vs xs) : VRs ρ H h vs.dropLast xs.dropLast := by
  rw [List.dropLast_eq_take, List.dropLast_eq_take, x.length]; exact x.take _

/-! the names' numbers -/
theorem digs_inj : ∀ (f g m n : Nat), m ≤ f → n ≤ g → digs f m = digs g n → m = n := by
  intro f
  induction f with
  | zero =>
    intro g m n hm hn e
    have : m = 0 := Nat.le_zero.mp hm
    subst this
    induction g using Nat.casesAuxOn with
    | zero => exact (Nat.le_zero.mp hn).symm
    | succ g =>
      by_cases h0 : n = 0
      · exact h0.symm
      · simp [digs, h0] at e
  | succ f ih =>
    intro g m n hm hn e
    by_cases h0 : m = 0
    · subst h0
      induction g using Nat.casesAuxOn with
      | zero => exact (Nat.le_zero.mp hn).symm
      | succ g =>
        by_cases h1 : n = 0
        · exact h1.symm
        · simp [digs, h1] at e
    · induction g using Nat.casesAuxOn with
      | zero =>
        simp [digs, h0] at e
      | succ g =>
        by_cases h1 : n = 0
        · subst h1; simp [digs, h0] at e
        · simp only [digs, h0, h1, if_false, List.cons.injEq] at e
          have := ih g (m / 256) (n / 256) (by (clear e h1 hn h0; lia)) (by (clear e h1 h0 hm; lia)) e.2
          (clear h1 hn h0 hm; lia)
theorem nm_inj {m n : Nat} (e : nm m = nm n) : m = n := by
  unfold nm nmL at e
  injection e with e
  exact digs_inj m n m n (Nat.le_refl _) (Nat.le_refl _) (by simpa using e)
theorem digs_lt : ∀ (f n : Nat), ∀ c ∈ digs f n, c < 256 := by
  intro f
  induction f with
  | zero => intro n c hc; simp [digs] at hc
  | succ f ih =>
    intro n c hc
    by_cases h0 : n = 0
    · simp [digs, h0] at hc
    · simp only [digs, h0, if_false, List.mem_cons] at hc
      rcases hc with rfl | hc
      · exact Nat.mod_lt _ (by decide)
      · exact ih _ c hc

theorem natBeq (a b : Nat) : Nat.beq a b = decide (a = b) := by
  cases h : Nat.beq a b with
  | true => rw [Nat.eq_of_beq_eq_true h]; simp
  | false => exact (decide_eq_false (Nat.ne_of_beq_eq_false h)).symm
theorem lk_nil {α : Type} (i : Nat) : lk ([] : List (Nat × α)) i = Option.none := rfl
theorem lk_cons {α : Type} (j : Nat) (v : α) (r : List (Nat × α)) (i : Nat) : lk ((j, v) :: r) i = if i = j then some v else lk r i := by
  simp only [lk, natBeq]
  by_cases h : i = j <;> simp [h]
theorem lset_nil (i : Nat) (v : V) : lset [] i v = [(i, v)] := rfl
theorem lset_cons (j : Nat) (w : V) (r : Lo) (i : Nat) (v : V) : lset ((j, w) :: r) i v = if i = j then (j, v) :: r else (j, w) :: lset r i v := by
  simp only [lset, natBeq]
  by_cases h : i = j <;> simp [h]
theorem lk_lset (lo : Lo) (i j : Nat) (v : V) : lk (lset lo i v) j = if j = i then some v else lk lo j := by
  induction lo with
  | nil => rw [lset_nil, lk_cons]
  | cons p r ih =>
    obtain ⟨k, w⟩ := p
    rw [lset_cons, lk_cons]
    by_cases hik : i = k
    · subst hik
      rw [if_pos rfl, lk_cons]
      by_cases e : j = i <;> simp [e]
    · rw [if_neg hik, lk_cons, ih]
      by_cases e : j = k
      · subst e; simp [Ne.symm hik]
      · simp [e]

theorem beq_nm (a b : Nat) : (nm a == nm b) = Nat.beq a b := by
  cases h : Nat.beq a b with
  | true => rw [Nat.eq_of_beq_eq_true h]; exact beq_self_eq_true _
  | false =>
    refine beq_eq_false_iff_ne.mpr fun e => ?_
    rw [nm_inj e, Nat.beq_refl] at h; cases h

end Mini
end
section
set_option autoImplicit false
namespace Mini
open PySem PySem.Calls

/-! values as the library's data -/
mutual
noncomputable def V.py : V → PyData
  | .none => .none
  | .bool b => .bool b
  | .int i => .int i
  | .str s => .str (nm s)
  | .tup l => .tuple (V.pys l)
  | .lst l => .list (V.pys l)
  | .ref _ => .none
noncomputable def V.pys : List V → List PyData
  | [] => []
  | v :: vs => V.py v :: V.pys vs
end

theorem and_l0 {a b : Bool} (h : (a && b) = true) : a = true := by induction a using Bool.casesOn; exact ff h; rfl
theorem and_r0 {a b : Bool} (h : (a && b) = true) : b = true := by induction a using Bool.casesOn; exact ff h; exact h
theorem deps_cons {v : V} {vs : List V} {n : Nat} (e : V.deps (v :: vs) = some n) : ∃ i j, V.dep v = some i ∧ V.deps vs = some j ∧ n = max i j := by
  rw [V.deps] at e
  cases hv : V.dep v with
  | none => rw [hv] at e; exact nn e
  | some i =>
    cases hvs : V.deps vs with
    | none => rw [hv, hvs] at e; exact nn e
    | some j =>
      rw [hv, hvs] at e
      exact ⟨i, j, rfl, rfl, (Option.some.inj e).symm⟩
theorem deps_of {v : V} {vs : List V} {i j : Nat} (h : V.dep v = some i) (g : V.deps vs = some j) : V.deps (v :: vs) = some (max i j) := by rw [V.deps, h, g]
noncomputable def ReadsV (h : Heap) (v : V) (x : Value) : Prop := ∀ {n : Nat}, V.dep v = some n → ∃ as, Reads h x (V.py v) as ∧ (V.py v).canLay0 = true ∧ (V.py v).depth ≤ n
noncomputable def ReadsVs (h : Heap) (vs : List V) (xs : List Value) : Prop := ∀ {n : Nat}, V.deps vs = some n → ∃ as, ReadsAll h xs (V.pys vs) as ∧ PyData.canLayAll0 (V.pys vs) = true ∧ PyData.depthAll (V.pys vs) ≤ n
theorem reads_ind {ρ : Rh} {H : Hp} {h : Heap} : (∀ {v : V} {x : Value}, VR ρ H h v x → ReadsV h v x) ∧ ∀ {vs : List V} {xs : List Value}, VRs ρ H h vs xs → ReadsVs h vs xs := by
  refine VR.ind (fun _ => ⟨_, .none, rfl, Nat.zero_le _⟩) (fun b _ _ => ⟨_, .bool b, rfl, Nat.zero_le _⟩) (fun i t _ _ => ⟨_, .int i t, rfl, Nat.zero_le _⟩) (fun s t _ _ => ⟨_, .str _ t, ?_, Nat.zero_le _⟩) (fun {a vs items} t b n e => ?_) (fun {a vs items} t _ b n e => ?_) (fun _ _ e => by exact nn e) (fun _ => ⟨_, .nil, rfl, Nat.zero_le _⟩) fun {v x vs xs} a b n e => ?_
  · simp only [V.py, PyData.canLay0, PyData.strOk, nm, Array.all_eq_true_iff_forall_mem, List.mem_toArray, decide_eq_true_eq]
    intro c hc
    exact Nat.lt_trans (digs_lt _ _ c hc) (by decide)
  · refine t5 t fun o ho hc m hd => ?_
    refine msE e fun k hk e => ?_
    refine x1a3 (b hk) fun as r l d => ?_
    exact ⟨as, .tuple ho hc hd r, l, e ▸ Nat.succ_le_succ d⟩
  · refine t5 t fun o ho hc m hd => ?_
    refine msE e fun k hk e => ?_
    refine x1a3 (b hk) fun as r l d => ?_
    exact ⟨_, .list ho hc hd r, l, e ▸ Nat.succ_le_succ d⟩
  · refine x2a3 (deps_cons e) fun i j hi hj e => ?_
    refine x1a3 (a hi) fun as r l d => ?_
    refine x1a3 (b hj) fun bs r' l' d' => ?_
    refine ⟨_, .cons r r', by simp [V.pys, PyData.canLayAll0, l, l'], ?_⟩
    rw [e]
    exact Nat.max_le.mpr ⟨Nat.le_trans d (Nat.le_max_left _ _), Nat.le_trans d' (Nat.le_max_right _ _)⟩
theorem VR.reads {ρ : Rh} {H : Hp} {h : Heap} {v : V} {x : Value} (r : VR ρ H h v x) {n : Nat} (e : V.dep v = some n) : ∃ as, Reads h x (V.py v) as ∧ (V.py v).canLay0 = true ∧ (V.py v).depth ≤ n := reads_ind.1 r e
theorem VRs.reads {ρ : Rh} {H : Hp} {h : Heap} {vs : List V} {xs : List Value} (r : VRs ρ H h vs xs) {n : Nat} (e : V.deps vs = some n) : ∃ as, ReadsAll h xs (V.pys vs) as ∧ PyData.canLayAll0 (V.pys vs) = true ∧ PyData.depthAll (V.pys vs) ≤ n := reads_ind.2 r e

set_option tactic.hygienic true in
theorem beq_ind : (∀ a b : V, (V.dep a).isSome = true → (V.dep b).isSome = true → PyData.eqv (V.py a) (V.py b) = V.beq a b) ∧ ∀ a b : List V, (V.deps a).isSome = true → (V.deps b).isSome = true → PyData.eqvAll (V.pys a) (V.pys b) = V.beqs a b := by
  refine V.ind (fun b _ hb => ?_) (fun x b _ hb => ?_) (fun x b _ hb => ?_) (fun x b _ hb => ?_) (fun l ih b ha hb => ?_) (fun l ih b ha hb => ?_) (fun n b ha _ => by exact ff ha) (fun b _ _ => by induction b using List.casesOn <;> rfl) fun x xs ih ihs b ha hb => ?_
  · induction b using Mini.V.casesOn <;> first | rfl | exact ff hb
  · induction b using Mini.V.casesOn <;> first | rfl | (rename_i y; induction x using Bool.casesOn <;> induction y using Bool.casesOn <;> rfl) | cases hb
  · induction b using Mini.V.casesOn <;> first | rfl | cases hb
  · induction b using Mini.V.casesOn <;> first | rfl | (cases hb; done) | skip
    rename_i y
    show (nm x == nm y) = (x == y)
    rw [beq_nm]
    exact Bool.eq_iff_iff.mpr (by simp)
  · induction b using Mini.V.casesOn <;> first | rfl | (cases hb; done) | exact ih _ ((Option.isSome_map ..).symm.trans ha) ((Option.isSome_map ..).symm.trans hb)
  · induction b using Mini.V.casesOn <;> first | rfl | (cases hb; done) | exact ih _ ((Option.isSome_map ..).symm.trans ha) ((Option.isSome_map ..).symm.trans hb)
  · induction b using List.casesOn with
    | nil => rfl
    | cons y ys =>
      refine x1a1 (Option.isSome_iff_exists.mp ha) fun n hn => ?_
      refine x1a1 (Option.isSome_iff_exists.mp hb) fun m hm => ?_
      refine x2a3 (deps_cons hn) fun i j hi hj _ => ?_
      refine x2a3 (deps_cons hm) fun i' j' hi' hj' _ => ?_
      show (PyData.eqv (V.py x) (V.py y) && PyData.eqvAll (V.pys xs) (V.pys ys)) = _
      rw [ih y (by rw [hi]; rfl) (by rw [hi']; rfl), ihs ys (by rw [hj]; rfl) (by rw [hj']; rfl)]; rfl
theorem beq_py (a b : V) (ha : (V.dep a).isSome = true) (hb : (V.dep b).isSome = true) : PyData.eqv (V.py a) (V.py b) = V.beq a b := beq_ind.1 a b ha hb
theorem beq_pys (a b : List V) (ha : (V.deps a).isSome = true) (hb : (V.deps b).isSome = true) : PyData.eqvAll (V.pys a) (V.pys b) = V.beqs a b := beq_ind.2 a b ha hb

theorem flat_dep {v : V} (h : v.flat = true) : ∃ n, V.dep v = some n ∧ n ≤ 60 := by
  unfold V.flat at h
  split at h
  · exact ⟨_, by assumption, Nat.le_of_ble_eq_true h⟩
  · exact ff h
theorem flats_dep {l : List V} : V.flats l = true → ∃ n, V.deps l = some n ∧ n ≤ 60 := by
  induction l with
  | nil => exact fun _ => ⟨0, rfl, Nat.zero_le _⟩
  | cons v vs ih =>
    intro h
    refine x1a2 (flat_dep (and_l0 h)) fun m hm h1 => ?_
    refine x1a2 (ih (and_r0 h)) fun n hn h2 => ?_
    exact ⟨max m n, deps_of hm hn, Nat.max_le.mpr ⟨h1, h2⟩⟩

theorem any_py {l : List V} {a : V} (hl : V.flats l = true) (ha : a.flat = true) : ((V.pys l).any fun y => PyData.eqv y (V.py a)) = l.any fun y => V.beq y a := by
  refine x1a2 (flat_dep ha) fun m hm _ => ?_
  induction l with
  | nil => rfl
  | cons v vs ih =>
    have h' : v.flat = true ∧ V.flats vs = true := by simpa [V.flats] using hl
    refine x1a2 (flat_dep h'.1) fun k hk _ => ?_
    simp only [V.pys, List.any_cons, ih h'.2]
    rw [beq_py v a (by rw [hk]; rfl) (by rw [hm]; rfl)]

/-! the very same value -/
theorem same_ind : (∀ a b : V, V.same a b = true → a = b) ∧ ∀ a b : List V, V.sames a b = true → a = b := by
  refine V.ind (fun b h => ?_) (fun x b h => ?_) (fun x b h => ?_) (fun x b h => ?_) (fun l ih b h => ?_) (fun l ih b h => ?_) (fun n b h => ?_) (fun b h => by induction b using List.casesOn; rfl; exact ff h) fun x xs ih ihs b h => ?_
  · induction b using Mini.V.casesOn <;> first | rfl | exact ff h
  · induction b using Mini.V.casesOn <;> first | exact congrArg _ (beq_iff_eq.mp h) | exact ff h
  · induction b using Mini.V.casesOn <;> first | exact congrArg _ (beq_iff_eq.mp h) | exact ff h
  · induction b using Mini.V.casesOn <;> first | exact congrArg _ (beq_iff_eq.mp h) | exact ff h
  · induction b using Mini.V.casesOn <;> first | exact congrArg _ (ih _ h) | exact ff h
  · induction b using Mini.V.casesOn <;> first | exact congrArg _ (ih _ h) | exact ff h
  · induction b using Mini.V.casesOn <;> first | exact congrArg _ (beq_iff_eq.mp h) | exact ff h
  · induction b using List.casesOn with
    | nil => exact ff h
    | cons y ys => rw [ih y (and_l0 h), ihs ys (and_r0 h)]
theorem same_eq (a b : V) (h : V.same a b = true) : a = b := same_ind.1 a b h
theorem sames_eq (a b : List V) (h : V.sames a b = true) : a = b := same_ind.2 a b h
theorem same_self (a : V) : V.same a a = true :=
  (V.ind (p := fun a => V.same a a = true) (q := fun l => V.sames l l = true) rfl (fun x => beq_self_eq_true x) (fun x => beq_self_eq_true x) (fun x => beq_self_eq_true x) (fun _ h => h) (fun _ h => h) (fun x => beq_self_eq_true x) rfl fun v l h g => show (V.same v v && V.sames l l) = true by rw [h, g]; rfl).1 a
noncomputable instance : DecidableEq V := fun a b => if h : V.same a b = true then .isTrue (same_eq a b h) else .isFalse fun e => h (e ▸ same_self a)
theorem same_iff {a b : V} : V.same a b = true ↔ a = b := ⟨same_eq a b, fun e => e ▸ same_self a⟩
theorem same_decide (a b : V) : V.same a b = decide (a = b) := by
  cases h : V.same a b with
  | true => rw [same_eq a b h]; simp
  | false =>
    symm
    refine decide_eq_false fun e => ?_
    rw [e, same_self] at h; cases h

/-! keys -/
theorem keyb_ind : (∀ a n (b : V), V.key n a = true → V.key n b = true → V.beq a b = V.same a b) ∧ ∀ a n (b : List V), V.keys n a = true → V.keys n b = true → V.beqs a b = V.sames a b := by
  refine V.ind (fun n b h => by exact ff h) (fun _ n b h => by exact ff h) (fun i n b _ h => ?_) (fun i n b _ h => ?_) (fun l ih n b ha hb => ?_) (fun _ _ n b h => by exact ff h) (fun _ n b h => by exact ff h) (fun n b _ _ => by induction b using List.casesOn <;> rfl) fun v l ih ihs n b ha hb => ?_
  · induction b using Mini.V.casesOn <;> first | rfl | exact ff h
  · induction b using Mini.V.casesOn <;> first | rfl | cases h
  · induction n using Nat.casesAuxOn with
    | zero => exact ff ha
    | succ n => induction b using Mini.V.casesOn <;> first | rfl | (cases hb; done) | exact ih n _ ha hb
  · induction b using List.casesOn with
    | nil => rfl
    | cons y ys =>
      have ha : (V.key n v && V.keys n l) = true := ha
      have hb : (V.key n y && V.keys n ys) = true := hb
      show (V.beq v y && V.beqs l ys) = (V.same v y && V.sames l ys)
      rw [ih n y (and_l0 ha) (and_l0 hb), ihs n ys (and_r0 ha) (and_r0 hb)]
theorem key_beq (n : Nat) (a b : V) (ha : V.key n a = true) (hb : V.key n b = true) : V.beq a b = V.same a b := keyb_ind.1 a n b ha hb
theorem keyd_ind : (∀ a n, V.key n a = true → ∃ k, V.dep a = some k ∧ k ≤ n) ∧ ∀ a n, V.keys n a = true → ∃ k, V.deps a = some k ∧ k ≤ n := by
  refine V.ind (fun n h => by exact ff h) (fun _ n h => by exact ff h) (fun i n _ => ⟨0, rfl, Nat.zero_le _⟩) (fun i n _ => ⟨0, rfl, Nat.zero_le _⟩) (fun l ih n h => ?_) (fun _ _ n h => by exact ff h) (fun _ n h => by exact ff h) (fun n _ => ⟨0, rfl, Nat.zero_le _⟩) fun v l ih ihs n h => ?_
  · induction n using Nat.casesAuxOn with
    | zero => exact ff h
    | succ n =>
      refine x1a2 (ih n h) fun k hk g => ?_
      exact ⟨k + 1, by show (V.deps l).map _ = _; rw [hk]; rfl, Nat.succ_le_succ g⟩
  · have h : (V.key n v && V.keys n l) = true := h
    refine x1a2 (ih n (and_l0 h)) fun i hi g => ?_
    refine x1a2 (ihs n (and_r0 h)) fun j hj g' => ?_
    exact ⟨max i j, deps_of hi hj, Nat.max_le.mpr ⟨g, g'⟩⟩
theorem key_dep (n : Nat) (a : V) (h : V.key n a = true) : ∃ k, V.dep a = some k ∧ k ≤ n := keyd_ind.1 a n h
theorem keym_ind : (∀ a n m, n ≤ m → V.key n a = true → V.key m a = true) ∧ ∀ a n m, n ≤ m → V.keys n a = true → V.keys m a = true := by
  refine V.ind (fun n m _ h => by exact ff h) (fun _ n m _ h => by exact ff h) (fun i n m _ _ => by induction m using Nat.casesAuxOn <;> rfl) (fun i n m _ _ => by induction m using Nat.casesAuxOn <;> rfl) (fun l ih n m q h => ?_) (fun _ _ n m _ h => by exact ff h) (fun _ n m _ h => by exact ff h) (fun n m _ _ => rfl) fun v l ih ihs n m q h => ?_
  · induction n using Nat.casesAuxOn with
    | zero => exact ff h
    | succ n =>
      induction m using Nat.casesAuxOn with
      | zero => cases q
      | succ m => exact ih n m (Nat.le_of_succ_le_succ q) h
  · have h : (V.key n v && V.keys n l) = true := h
    show (V.key m v && V.keys m l) = true
    rw [ih n m q (and_l0 h), ihs n m q (and_r0 h)]; rfl
theorem key_mono (n m : Nat) (a : V) (q : n ≤ m) (h : V.key n a = true) : V.key m a = true := keym_ind.1 a n m q h
-- a key as it lies in the heap
mutual
inductive KR (h : Heap) : V → Value → Prop
  | int (i : Int) (t : Tok) : KR h (.int i) (.int i t)
  | str (s : Nat) (t : Tok) : KR h (.str s) (.str (nm s) t)
  | tup {a : Addr} {vs : List V} {items : Array Value} : h.IsTuple a items → KRs h vs items.toList → KR h (.tup vs) (.ref a)
inductive KRs (h : Heap) : List V → List Value → Prop
  | nil : KRs h [] []
  | cons {v : V} {x : Value} {vs : List V} {xs : List Value} : KR h v x → KRs h vs xs → KRs h (v :: vs) (x :: xs)
end

theorem kr_ind {ρ : Rh} {H : Hp} {h : Heap} : (∀ {v x}, VR ρ H h v x → ∀ n, V.key n v = true → KR h v x) ∧ ∀ {v x}, VRs ρ H h v x → ∀ n, V.keys n v = true → KRs h v x := by
  refine VR.ind (fun n h => by exact ff h) (fun _ n h => by exact ff h) (fun i t n _ => .int i t) (fun s t n _ => .str s t) (fun {a vs items} t b n h => ?_) (fun _ _ _ n h => by exact ff h) (fun _ n h => by exact ff h) (fun n _ => .nil) fun {v x vs xs} a b n h => ?_
  · induction n using Nat.casesAuxOn with
    | zero => exact ff h
    | succ n => exact .tup t (b n h)
  · have h : (V.key n v && V.keys n vs) = true := h
    exact .cons (a n (and_l0 h)) (b n (and_r0 h))
theorem VR.kr {ρ : Rh} {H : Hp} {h : Heap} {n : Nat} {v : V} {x : Value} (r : VR ρ H h v x) (k : V.key n v = true) : KR h v x := kr_ind.1 r n k
theorem KR.ind {h : Heap} {p : V → Value → Prop} {q : List V → List Value → Prop} (int : ∀ i t, p (.int i) (.int i t)) (str : ∀ s t, p (.str s) (.str (nm s) t)) (tup : ∀ {a vs items}, h.IsTuple a items → KRs h vs items.toList → q vs items.toList → p (.tup vs) (.ref a))
    (nil : q [] []) (cons : ∀ {v x vs xs}, p v x → q vs xs → q (v :: vs) (x :: xs)) : (∀ {v x}, KR h v x → p v x) ∧ ∀ {vs xs}, KRs h vs xs → q vs xs :=
  ⟨KR.rec (motive_1 := fun v x _ => p v x) (motive_2 := fun vs xs _ => q vs xs) int str (fun a b i => tup a b i) nil fun _ _ i j => cons i j,
    KRs.rec (motive_1 := fun v x _ => p v x) (motive_2 := fun vs xs _ => q vs xs) int str (fun a b i => tup a b i) nil fun _ _ i j => cons i j⟩
theorem KR.vr {h : Heap} (ρ : Rh) (H : Hp) {v : V} {x : Value} (r : KR h v x) : VR ρ H h v x := (KR.ind (q := VRs ρ H h) .int .str (fun a _ b => .tup a b) .nil fun a b => .cons a b).1 r
theorem KR.keeps {h h' : Heap} (k : ∀ a items, h.IsTuple a items → h'.IsTuple a items) {v : V} {x : Value} (r : KR h v x) : KR h' v x := (KR.ind (q := KRs h') .int .str (fun a _ b => .tup (k _ _ a) b) .nil fun a b => .cons a b).1 r
theorem isTuple_uniq {h : Heap} {a : Addr} {x y : Array Value} (p : h.IsTuple a x) (q : h.IsTuple a y) : x = y := by
  refine t5 p fun o ho _ n hd => ?_
  refine t5 q fun o' ho' _ n' hd' => ?_
  rw [ho] at ho'; cases ho'
  rw [hd] at hd'; cases hd'; rfl
theorem KR.inj {h : Heap} {v w : V} {x : Value} (r : KR h v x) (y : KR h w x) : v = w := by
  refine (KR.ind (h := h) (p := fun v x => ∀ w, KR h w x → v = w) (q := fun v x => ∀ w, KRs h w x → v = w) (fun i t w y => ?_) (fun s t w y => ?_) (fun {a vs items} t _ b w y => ?_) (fun w y => by cases y; rfl) fun {v x vs xs} a b w y => ?_).1 r w y
  · cases y; rfl
  · generalize hx : Value.str (nm s) t = x at y
    induction y using Mini.KR.casesOn with
    | int => cases hx
    | str s' t' => injection hx with e _; rw [nm_inj e]
    | tup => cases hx
  · cases y with
    | tup a' b' => cases isTuple_uniq t a'; rw [b _ b']
  · cases y with
    | cons a' b' => rw [a _ a', b _ b']

mutual
noncomputable def keyHash (w : World) : V → Int
  | .int i => hashInt i
  | .str s => hashStr w (nm s)
  | .tup l => reduceHash (Builtin.Tuple.tupleHashOf (keyHashes w l))
  | _ => 0
noncomputable def keyHashes (w : World) : List V → List Int
  | [] => []
  | v :: vs => keyHash w v :: keyHashes w vs
end
mutual
noncomputable def keyDraws : V → Nat
  | .tup l => keysDraws l + 1
  | _ => 1
noncomputable def keysDraws : List V → Nat
  | [] => 0
  | v :: vs => keyDraws v + keysDraws vs
end

section
variable {prog : Program} {w : World}

theorem reduced_ok {A : Around} {E : Value → Shared → Prop} {s : Shared} {Q : Int → Shared → Prop} {i : Int} (h : Q (reduceHash i) s) : wpAny (model prog w) A (pyHashByItsType.reduced i) Q E s := by
  unfold reduceHash at h
  show wpAny _ _ (if (decide (-(2 : Int) ^ 63 ≤ i) && decide (i < 2 ^ 63)) = true then _ else _) Q E s
  by_cases hr : (decide (-(2 : Int) ^ 63 ≤ i) && decide (i < 2 ^ 63)) = true
  · rw [if_pos hr]
    rw [if_pos hr] at h
    exact wpAny_pure h
  · rw [if_neg hr]
    rw [if_neg hr] at h
    exact wpAny_bind (wpAny_rule (wpAny_pure h))
theorem hash_ind {h₀ : Heap} : (∀ {v x}, KR h₀ v x → ∀ (n : Nat) (A : Around) (E : Value → Shared → Prop) (s : Shared) (Q : Int → Shared → Prop), V.key n v = true → s.heap = h₀ → A.units + n < cLine →
    Q (keyHash w v) { s with toks := s.toks + keyDraws v } → wpAny (model prog w) A (pyHash x) Q E s) ∧
    ∀ {vs xs}, KRs h₀ vs xs → ∀ (n : Nat) (A : Around) (E : Value → Shared → Prop) (s : Shared), V.keys n vs = true → s.heap = h₀ → A.units + n < cLine → ∀ (b : Array Int) (Q : Array Int → Shared → Prop),
    (∀ b' : Array Int, b'.toList = b.toList ++ keyHashes w vs → Q b' { s with toks := s.toks + keysDraws vs }) →
    wpAny (model prog w) A (forIn xs b fun x r => do let y ← PySem.pyHash x; pure (ForInStep.yield (r.push y))) Q E s := by
  refine KR.ind (fun i t n A E s Q _ _ _ h => (intKind prog w).pyHash (k := i) (by simp [intKind, Value.isInt]) h) (fun i t n A E s Q _ _ _ h => (strKind prog w).pyHash (k := nm i) (by simp [strKind, Value.isStrOf]) h)
    (fun {a ks items} ht _ ih n A E s Q hk hs hu h => ?_) (fun n A E s _ _ _ b Q h => ?_) fun {v x vs xs} ih ihs n A E s hk hs hu b Q h => ?_
  · induction n using Nat.casesAuxOn with
    | zero => exact ff hk
    | succ n =>
    subst hs
    have hT : s.TypeIs (.ref a) "tuple" := x1a3 ht fun o ho hc _ => ⟨o, ho, hc⟩
    refine ht.elim fun o ht => ht.2.2.elim fun m hd => ?_
    have ho := ht.1
    unfold PySem.pyHash pyHashByItsType
    refine wpAny_bind (wpAny_cRoomFor_or (.inr (by (clear hd ho hk ih h; lia))) (wpAny_bind (wpAny_specialOf hT F.slot_tuple_hash.lookup ?_)))
    show wpAny _ _ (if (some (Value.builtin "tuple.__hash__") == some Value.none) = true then _ else _) Q E s
    rw [if_neg (by rw [beq_builtin_none]; exact Bool.false_ne_true)]
    refine wpAny_bind (wpAny_specialOf hT F.slot_tuple_hash.lookup ?_)
    show wpAny _ _ (callSpecialIfBoundUnlessNone? (.ref a) "__hash__" _ >>= _) Q E s
    refine wpAny_bind (wpAny_callSpecialIfBoundUnlessNone?_slot hT F.slot_tuple_hash (wpAny_call_entry F.slot_tuple_hash hT F.entry_tuple_hash ?_ (F.args_tuple_hash_1 _)))
    show wpAny _ _ (Builtin.Tuple.tupleItemsOf (.ref a) >>= _) _ _ s
    refine wpAny_bind (wpAny_tupleItemsOf ho hd (wpAny_bind ?_))
    rw [← Array.forIn_toList]
    refine ih n _ _ _ hk rfl (by show A.units + 1 + n < cLine; (clear hd ho hk ih h; lia)) #[] _ fun b' hb' => ?_
    show wpAny _ _ (retInt (Builtin.Tuple.tupleHashOf b'.toList)) _ _ _
    rw [hb']
    refine wpAny_ret_mkInt ?_
    exact reduced_ok h
  · rw [List.forIn_nil]
    exact wpAny_pure (h b (List.append_nil _).symm)
  · have hk : (V.key n v && V.keys n vs) = true := hk
    rw [List.forIn_cons]
    refine wpAny_bind (wpAny_bind (ih n _ _ _ _ (and_l0 hk) hs hu (wpAny_pure ?_)))
    refine ihs n _ _ { s with toks := s.toks + keyDraws v } (and_r0 hk) hs hu (b.push (keyHash w v)) _ fun b' hb' => ?_
    have := h b' (by rw [hb', Array.toList_push, List.append_assoc]; rfl)
    rw [show keysDraws (v :: vs) = keyDraws v + keysDraws vs from rfl, ← Nat.add_assoc] at this
    exact this

theorem KR.eqBool {a b : V} {x y : Value} {n m : Nat} {A : Around} {E : Value → Shared → Prop} {s : Shared} {Q : Bool → Shared → Prop} (ha : KR s.heap a x) (hb : KR s.heap b y) (ka : V.key n a = true) (kb : V.key m b = true)
    (hn : n ≤ 60) (hu : A.units + 60 < cLine) (h : Q (decide (a = b)) s) : wpAny (model prog w) A (eqBool x y) Q E s := by
  refine x1a2 (key_dep n a ka) fun i hi hi' => ?_
  refine x1a2 (key_dep m b kb) fun j hj hj' => ?_
  refine x1a3 ((KR.vr .nil [] ha).reads hi) fun as ra la da => ?_
  refine x1a3 ((KR.vr .nil [] hb).reads hj) fun bs rb lb db => ?_
  refine SeqAt.eqBoolOverData prog w A E s x y _ _ _ _ Q ra rb la lb ?_ ?_
  · have : min (V.py a).depth (V.py b).depth ≤ (V.py a).depth := Nat.min_le_left _ _
    (clear this db lb la hj' hj hi kb ka; lia)
  · rw [beq_py a b (by rw [hi]; rfl) (by rw [hj]; rfl)]
    have : V.beq a b = decide (a = b) := by
      rcases Nat.le_total n m with q | q
      · rw [key_beq m a b (key_mono n m a q ka) kb, same_decide]
      · rw [key_beq n a b ka (key_mono m n b q kb), same_decide]
    rw [this]; exact h

theorem quiet_ind {h₀ : Heap} : (∀ {v x}, KR h₀ v x → ∀ (n : Nat) (A : Around) (E : Value → Shared → Prop) (s : Shared) (Q : Bool → Shared → Prop), V.key n v = true → s.heap = h₀ → Q true s → wpAny (model prog w) A (eqIsQuiet n x) Q E s) ∧
    ∀ {vs xs}, KRs h₀ vs xs → ∀ (n : Nat) (A : Around) (E : Value → Shared → Prop) (s : Shared) (Q : Option Bool × Unit → Shared → Prop), V.keys n vs = true → s.heap = h₀ → Q (none, ()) s →
    wpAny (model prog w) A (forIn xs ((none, ()) : Option Bool × Unit) fun y r => do
      let q ← eqIsQuiet n y
      if (!q) = true then pure (ForInStep.done (some false, ())) else pure (ForInStep.yield (none, ()))) Q E s := by
  refine KR.ind (fun i t n A E s Q _ _ h => ?_) (fun i t n A E s Q _ _ h => ?_) (fun {a ks items} ht _ ih n A E s Q hk hs h => ?_) (fun n A E s Q _ _ h => ?_) fun {v x vs xs} ih ihs n A E s Q hk hs h => ?_
  · rw [eqIsQuiet_byValue n rfl]; exact wpAny_pure h
  · rw [eqIsQuiet_byValue n rfl]; exact wpAny_pure h
  · induction n using Nat.casesAuxOn with
    | zero => exact ff hk
    | succ n =>
    subst hs
    have hT : s.TypeIs (.ref a) "tuple" := x1a3 ht fun o ho hc _ => ⟨o, ho, hc⟩
    refine ht.elim fun o ht => ht.2.2.elim fun m hd => ?_
    unfold eqIsQuiet
    refine wpAny_bind (wpAny_specialOf hT F.slot_tuple_eq.lookup ?_)
    show wpAny _ _ (isInstance (.ref a) (.type "tuple") >>= _) _ _ s
    refine wpAny_bind (wpAny_isInstance hT isSubtype_tuple_tuple ?_)
    refine wpAny_bind (wpAny_seqItems ht.1 hd (wpAny_bind ?_))
    show wpAny _ _ (forIn items _ _) _ _ s
    rw [← Array.forIn_toList]
    exact ih n _ _ _ _ hk rfl (wpAny_pure h)
  · rw [List.forIn_nil]; exact wpAny_pure h
  · have hk : (V.key n v && V.keys n vs) = true := hk
    rw [List.forIn_cons]
    exact wpAny_bind (wpAny_bind (ih n _ _ _ _ (and_l0 hk) hs (wpAny_pure (ihs n _ _ _ _ (and_r0 hk) hs h))))

noncomputable def IsKey (h : Heap) (v : V) (a : Addr) : Prop := v.isKey = true ∧ KR h v (.ref a)
theorem isKey_key {v : V} (h : v.isKey = true) : V.key 4 v = true := by
  induction v using Mini.V.casesOn <;> first | (simp [V.isKey] at h; done) | skip
  simpa [V.isKey, V.key] using h

end

/-- tuples as keys -/
noncomputable def vKind (prog : Program) (w : World) : HeapKind prog w V where
  is := IsKey
  hash := keyHash w
  draws := keyDraws
  room := fun A => A.units + 60 < cLine
  inj := fun hx hy => hx.2.inj hy.2
  keeps := fun x ho hd hs => ⟨x.1, x.2.keeps fun a items ⟨o, h1, h2, n, h3⟩ => ⟨o, (hs.2 a (by rintro rfl; rw [ho] at h1; cases h1; rw [hd] at h3; cases h3)).trans h1, h2, n, h3⟩⟩
  pyHash := fun hu hk h => hash_ind.1 hk.2 4 _ _ _ _ (isKey_key hk.1) rfl (by (clear h; lia)) h
  eqBool := fun hu hx hy h => KR.eqBool hx.2 hy.2 (isKey_key hx.1) (isKey_key hy.1) (by (clear hu; lia)) hu h
  quiet := fun hk h => quiet_ind.1 hk.2 8 _ _ _ _ (key_mono 4 8 _ (by decide) (isKey_key hk.1)) rfl h
end Mini
end
section
set_option autoImplicit false
namespace Mini
open PySem PySem.Calls PyProof.Rows
open PySem.W (Frag dictOf)

set_option genInjectivity false in
set_option genSizeOf false in
/-- the surroundings of a run -/
structure Cfg where
  prog : Program
  w : World
  base : Heap
  K : Frag
  P : Prog
  cls : Nat → Addr
  os : OsState

inductive PR {α β : Type} (f : α → β) (ρ : Rh) (H : Hp) (h : Heap) : List (α × V) → List (β × Value) → Prop
  | nil : PR f ρ H h [] []
  | cons {k : α} {v : V} {x : Value} {l : List (α × V)} {l' : List (β × Value)} : VR ρ H h v x → PR f ρ H h l l' → PR f ρ H h ((k, v) :: l) ((f k, x) :: l')
inductive TR (ρ : Rh) (H : Hp) (h : Heap) : List (V × V) → List (V × Addr × Value) → Prop
  | nil : TR ρ H h [] []
  | cons {k v : V} {a : Addr} {x : Value} {l : List (V × V)} {l' : List (V × Addr × Value)} : VR ρ H h v x → TR ρ H h l l' → TR ρ H h ((k, v) :: l) ((k, a, x) :: l')
inductive AR (ρ : Rh) (H : Hp) (h : Heap) : List (Nat × V) → List DictEntry → Prop
  | nil : AR ρ H h [] []
  | cons {k : Nat} {v : V} {x : Value} {hs : Int} {t : Tok} {l : List (Nat × V)} {l' : List DictEntry} : VR ρ H h v x → AR ρ H h l l' → AR ρ H h ((k, v) :: l) (⟨hs, .str (nm k) t, x⟩ :: l')

section
variable {ρ ρ' : Rh} {H H' : Hp} {h h' : Heap}
theorem PR.lasts {α β : Type} {f : α → β} (L : Lasts ρ H h ρ' H' h') {l : List (α × V)} {l' : List (β × Value)} (x : PR f ρ H h l l') : PR f ρ' H' h' l l' := by
  induction x with
  | nil => exact .nil
  | cons a _ ih => exact .cons (a.lasts L) ih
theorem TR.lasts (L : Lasts ρ H h ρ' H' h') {l : List (V × V)} {l' : List (V × Addr × Value)} (x : TR ρ H h l l') : TR ρ' H' h' l l' := by
  induction x with
  | nil => exact .nil
  | cons a _ ih => exact .cons (a.lasts L) ih
theorem AR.lasts (L : Lasts ρ H h ρ' H' h') {l : List (Nat × V)} {l' : List DictEntry} (x : AR ρ H h l l') : AR ρ' H' h' l l' := by
  induction x with
  | nil => exact .nil
  | cons a _ ih => exact .cons (a.lasts L) ih
end

noncomputable def ObjR (C : Cfg) (ρ : Rh) (H : Hp) (h : Heap) (p : Addr × Addr) : O → Prop
  | .list l => p.2 = p.1 ∧ ∃ items, h.PlainList p.1 items ∧ VRs ρ H h l items.toList
  | .dI l => p.2 = p.1 ∧ ∃ xs, h.DictOf (intKind C.prog C.w) p.1 xs ∧ PR id ρ H h l xs
  | .dS l => p.2 = p.1 ∧ ∃ xs, h.DictOf (PySem.strKind C.prog C.w) p.1 xs ∧ PR nm ρ H h l xs
  | .dT l => p.2 = p.1 ∧ ∃ xs, h.DictOfH (vKind C.prog C.w) p.1 xs ∧ TR ρ H h l xs
  | .inst c l => p.1 ≠ p.2 ∧ h.get? p.1 = some ⟨.ref (C.cls c), some p.2, .plain, #[]⟩ ∧ ∃ es n, h.get? p.2 = some (dictOf es n) ∧ AR ρ H h l es
  | .dead => True

structure St (C : Cfg) (ρ : Rh) (H : Hp) (s : Shared) : Prop where
  base : ∀ a o, C.base.get? a = some o → s.heap.get? a = some o
  gens : s.gens = #[]
  os : s.os = C.os
  len : ρ.l.length = H.length
  objs : ∀ (i : Nat) (o : O) (p : Addr × Addr), H[i]? = some o → ρ[i]? = some p → ObjR C ρ H s.heap p o
  apart : ∀ (i j : Nat) (p q : Addr × Addr), ρ[i]? = some p → ρ[j]? = some q → i ≠ j → p.1 ≠ q.1 ∧ p.1 ≠ q.2 ∧ p.2 ≠ q.1 ∧ p.2 ≠ q.2
  new : ∀ (i : Nat) (p : Addr × Addr), ρ[i]? = some p → C.base.get? p.1 = none ∧ C.base.get? p.2 = none
  hid : ∀ a ∈ ρ.z, (∃ o, s.heap.get? a = some o) ∧ C.base.get? a = none
  zap : ∀ a ∈ ρ.z, ∀ (i : Nat) (p : Addr × Addr), ρ[i]? = some p → p.1 ≠ a ∧ p.2 ≠ a
  here : ∀ (i : Nat) (p : Addr × Addr), ρ[i]? = some p → (∃ o, s.heap.get? p.1 = some o) ∧ ∃ o, s.heap.get? p.2 = some o

structure Nx (W : Addr → Prop) (ρ : Rh) (H : Hp) (s : Shared) (ρ' : Rh) (H' : Hp) (s' : Shared) : Prop where
  ext : ρ.l <+: ρ'.l
  z : ρ'.z = ρ.z
  keep : ∀ a o, s.heap.get? a = some o → ¬ Own ρ H a → ¬ W a → s'.heap.get? a = some o
  fresh : ∀ a, Own ρ' H' a → Own ρ H a ∨ s.heap.get? a = none
  pres : ∀ a o, s.heap.get? a = some o → ∃ o', s'.heap.get? a = some o'
  wdata : ∀ a o, W a → s.heap.get? a = some o → (∀ xs n, o.data ≠ .seq xs n) ∨ (a ∈ ρ.z ∧ o.cls ≠ .type "tuple")
  news : ∀ (i : Nat) (q : Addr × Addr), ρ'[i]? = some q → ρ[i]? = some q ∨ (s.heap.get? q.1 = none ∧ s.heap.get? q.2 = none)

noncomputable abbrev no : Addr → Prop := fun _ => False

theorem Nx.refl (ρ : Rh) (H : Hp) (s : Shared) : Nx no ρ H s ρ H s := ⟨List.prefix_refl _, rfl, fun _ _ e _ _ => e, fun _ x => .inl x, fun _ o e => ⟨o, e⟩, fun _ _ x => x.elim, fun _ _ e => .inl e⟩
theorem Nx.none_of {W : Addr → Prop} {ρ ρ₁ : Rh} {H H₁ : Hp} {s s₁ : Shared} (a : Nx W ρ H s ρ₁ H₁ s₁) {x : Addr} (e : s₁.heap.get? x = none) : s.heap.get? x = none := by
  cases h : s.heap.get? x with
  | none => rfl
  | some o => refine x1a1 (a.pres x o h) fun o' h' => ?_; rw [e] at h'; exact nn h'
theorem Nx.trans {W : Addr → Prop} {ρ ρ₁ ρ₂ : Rh} {H H₁ H₂ : Hp} {s s₁ s₂ : Shared} (a : Nx W ρ H s ρ₁ H₁ s₁) (b : Nx W ρ₁ H₁ s₁ ρ₂ H₂ s₂) : Nx W ρ H s ρ₂ H₂ s₂ where
  ext := a.ext.trans b.ext
  z := b.z.trans a.z
  keep := fun x o e n w => b.keep x o (a.keep x o e n w) (fun m => (a.fresh x m).elim n fun q => by rw [e] at q; cases q) w
  fresh := fun x m => (b.fresh x m).elim (a.fresh x) fun q => .inr (a.none_of q)
  pres := fun x o e => x1a1 (a.pres x o e) fun o' e' => b.pres x o' e'
  wdata := a.wdata
  news := fun i q e => (b.news i q e).elim (a.news i q) fun z => .inr ⟨a.none_of z.1, a.none_of z.2⟩
theorem Nx.wide {W : Addr → Prop} {ρ ρ' : Rh} {H H' : Hp} {s s' : Shared} (a : Nx no ρ H s ρ' H' s') (wd : ∀ a o, W a → s.heap.get? a = some o → (∀ xs n, o.data ≠ .seq xs n) ∨ (a ∈ ρ.z ∧ o.cls ≠ .type "tuple")) : Nx W ρ H s ρ' H' s' :=
  ⟨a.ext, a.z, fun x o e n _ => a.keep x o e n id, a.fresh, a.pres, wd, a.news⟩

section
variable {C : Cfg}  {ρ ρ' : Rh} {H H' : Hp} {s s' : Shared} {W : Addr → Prop}

theorem ObjR.there {p : Addr × Addr} {o : O} {h : Heap} (x : ObjR C ρ H h p o) (hl : o.live = true) :
    (∃ x, h.get? p.1 = some x ∧ x.cls ≠ .type "tuple") ∧ ∃ x, h.get? p.2 = some x ∧ x.cls ≠ .type "tuple" := by
  have nt : ∀ {v : Value}, v = .type "list" ∨ v = .type "dict" ∨ (∃ a, v = .ref a) → v ≠ .type "tuple" := by
    rintro v (rfl | rfl | ⟨a, rfl⟩) <;> intro e <;> first | (injection e with e; exact absurd e (by decide)) | cases e
  have two : p.2 = p.1 → (∃ x, h.get? p.1 = some x ∧ x.cls ≠ .type "tuple") → (∃ x, h.get? p.1 = some x ∧ x.cls ≠ .type "tuple") ∧ ∃ x, h.get? p.2 = some x ∧ x.cls ≠ .type "tuple" := fun e q => ⟨q, by rw [e]; exact q⟩
  induction o using O.casesOn with
  | list l => exact two x.1 (x.2.elim fun _ x => x.1.elim fun _ ho => ⟨_, ho, nt (.inl rfl)⟩)
  | dI l => exact two x.1 (x.2.elim fun _ x => x3a3 x.1 fun o _ _ ho hx _ => ⟨o, ho, nt (.inr (.inl hx.1))⟩)
  | dS l => exact two x.1 (x.2.elim fun _ x => x3a3 x.1 fun o _ _ ho hx _ => ⟨o, ho, nt (.inr (.inl hx.1))⟩)
  | dT l => exact two x.1 (x.2.elim fun _ x => x3a3 x.1 fun o _ _ ho hx _ => ⟨o, ho, nt (.inr (.inl hx.1))⟩)
  | inst c l => exact ⟨⟨_, x.2.1, nt (.inr (.inr ⟨_, rfl⟩))⟩, x2a2 x.2.2 fun _ _ h2 _ => ⟨_, h2, nt (.inr (.inl rfl))⟩⟩
  | dead => exact ff hl

theorem St.own_there (S : St C ρ H s) {a : Addr} (m : Own ρ H a) : ∃ o, s.heap.get? a = some o ∧ o.cls ≠ .type "tuple" := by
  refine x3a4 m fun i p o hp ho hl e => ?_
  refine x0a2 ((S.objs i o p ho hp).there hl) fun h1 h2 => ?_
  rcases e with rfl | rfl
  · exact h1
  · exact h2
theorem St.own_new (S : St C ρ H s) {a : Addr} (m : Own ρ H a) : C.base.get? a = none := by
  refine x3a4 m fun i p o hp ho hl e => ?_
  rcases e with rfl | rfl
  · exact (S.new i p hp).1
  · exact (S.new i p hp).2
/-- where nothing is yet -/
structure FreshAt (C : Cfg) (ρ : Rh) (H : Hp) (a : Addr) : Prop where
  own : ¬ Own ρ H a
  base : C.base.get? a = none
  ne : ∀ (i : Nat) (p : Addr × Addr), ρ[i]? = some p → p.1 ≠ a ∧ p.2 ≠ a
  z : a ∉ ρ.z
theorem none_ne {h : Heap} {a b : Addr} {o : Obj} (n : h.get? a = none) (e : h.get? b = some o) : b ≠ a := fun q => nn (n.symm.trans (q ▸ e))
theorem St.freshAt (S : St C ρ H s) {a : Addr} (h : s.heap.get? a = none) : FreshAt C ρ H a where
  own := fun m => x1a2 (S.own_there m) fun _ ho _ => none_ne h ho rfl
  base := by
    cases e : C.base.get? a with
    | none => rfl
    | some x => exact absurd rfl (none_ne h (S.base _ _ e))
  ne := fun i p hp => ⟨(S.here i p hp).1.elim fun _ e => none_ne h e, (S.here i p hp).2.elim fun _ e => none_ne h e⟩
  z := fun m => (S.hid _ m).1.elim fun _ ho => none_ne h ho rfl
theorem St.tuple_free (S : St C ρ H s) {a : Addr} {items : Array Value} (t : s.heap.IsTuple a items) : ¬ Own ρ H a := fun m => by
  refine x1a2 (S.own_there m) fun o ho hc => ?_
  refine x1a3 t fun o' ho' hc' _ => ?_
  rw [ho] at ho'; cases ho'; exact hc hc'

theorem Nx.lasts (S : St C ρ H s) (N : Nx W ρ H s ρ' H' s') : Lasts ρ H s.heap ρ' H' s'.heap where
  ext := N.ext
  tup := fun a items t => by
    have n := S.tuple_free t
    refine t5 t fun o ho hc m hd => ?_
    exact ⟨o, N.keep a o ho n (fun w => (N.wdata a o w ho).elim (fun q => q _ _ hd) fun q => q.2 hc), hc, m, hd⟩
  lst := fun a items t n => by
    refine t5 t fun o ho hc m hd => ?_
    refine ⟨⟨o, N.keep a o ho (fun q => n (.inl q)) (fun w => (N.wdata a o w ho).elim (fun q => q _ _ hd) fun q => n (.inr q.1)), hc, m, hd⟩, fun q => ?_⟩
    rcases q with q | q
    · exact (N.fresh a q).elim (fun z => n (.inl z)) fun z => by rw [ho] at z; cases z
    · exact n (.inr (N.z ▸ q))

theorem ObjR.lasts {h h' : Heap} (L : Lasts ρ H h ρ' H' h') {p : Addr × Addr} {o : O} (hk : ∀ x, h.get? p.1 = some x → h'.get? p.1 = some x) (hk2 : ∀ x, h.get? p.2 = some x → h'.get? p.2 = some x) (x : ObjR C ρ H h p o) : ObjR C ρ' H' h' p o := by
  induction o using O.casesOn with
  | list l => exact ⟨x.1, x.2.elim fun items x => ⟨items, x.1.elim fun o ho => ⟨o, hk _ ho⟩, x.2.lasts L⟩⟩
  | dI l => exact ⟨x.1, x.2.elim fun xs x => ⟨xs, x3a2 x.1 fun o es ep ho q => ⟨o, es, ep, hk _ ho, q⟩, x.2.lasts L⟩⟩
  | dS l => exact ⟨x.1, x.2.elim fun xs x => ⟨xs, x3a2 x.1 fun o es ep ho q => ⟨o, es, ep, hk _ ho, q⟩, x.2.lasts L⟩⟩
  | dT l => exact ⟨x.1, x.2.elim fun xs x => ⟨xs, x3a2 x.1 fun o es ep ho q => ⟨o, es, ep, hk _ ho, q.1, q.2.1, q.2.2.1, fun y hy => ⟨(q.2.2.2.1 y hy).1, (q.2.2.2.1 y hy).2.keeps L.tup⟩, q.2.2.2.2⟩, x.2.lasts L⟩⟩
  | inst c l => exact ⟨x.1, hk _ x.2.1, x2a2 x.2.2 fun es n h2 r => ⟨es, n, hk2 _ h2, r.lasts L⟩⟩
  | dead => trivial

/-- the heap has turned, but no object of the run's own -/
theorem St.turn (S : St C ρ H s) (hb : ∀ a o, C.base.get? a = some o → s'.heap.get? a = some o) (ho : ∀ a o, Own ρ H a → s.heap.get? a = some o → s'.heap.get? a = some o)
    (L : Lasts ρ H s.heap ρ H s'.heap) (hz : ∀ a o, s.heap.get? a = some o → ∃ o', s'.heap.get? a = some o') (hg : s'.gens = s.gens) (hos : s'.os = s.os) : St C ρ H s' where
  base := hb
  gens := hg.trans S.gens
  os := hos.trans S.os
  len := S.len
  objs := fun i o p h1 h2 => by
    cases hl : o.live with
    | true => exact (S.objs i o p h1 h2).lasts L (fun x e => ho _ _ ⟨i, p, o, h2, h1, hl, .inl rfl⟩ e) (fun x e => ho _ _ ⟨i, p, o, h2, h1, hl, .inr rfl⟩ e)
    | false => induction o using Mini.O.casesOn <;> first | trivial | cases hl
  apart := S.apart
  new := S.new
  hid := fun a h => ⟨(S.hid a h).1.elim fun o ho => hz _ o ho, (S.hid a h).2⟩
  zap := S.zap
  here := fun i p h => ⟨(S.here i p h).1.elim fun a ha => hz _ a ha, (S.here i p h).2.elim fun b hb => hz _ b hb⟩

/-- what is not the run's own stays: all of the heap stays -/
theorem St.grow (S : St C ρ H s) (k : ∀ a o, s.heap.get? a = some o → s'.heap.get? a = some o) (hg : s'.gens = s.gens) (hos : s'.os = s.os) :
    St C ρ H s' ∧ Nx no ρ H s ρ H s' :=
  have N : Nx no ρ H s ρ H s' := ⟨List.prefix_refl _, rfl, fun a o e _ _ => k a o e, fun _ m => .inl m, fun a o e => ⟨o, k a o e⟩, fun _ _ x => x.elim, fun _ _ e => .inl e⟩
  ⟨S.turn (fun a o e => k a o (S.base a o e)) (fun a o _ e => k a o e) (N.lasts S) (fun a o e => ⟨o, k a o e⟩) hg hos, N⟩

theorem own_set {i : Nat} {o' : O} {a : Addr} (hi : ∃ o, H[i]? = some o ∧ o.live = true) (m : Own ρ (H.set i o') a) : Own ρ H a := by
  refine x3a4 m fun j p o hp ho hl e => ?_
  by_cases hj : i = j
  · subst hj
    refine x1a2 hi fun o₀ h0 hl0 => ?_
    exact ⟨i, p, o₀, hp, h0, hl0, e⟩
  · rw [List.getElem?_set_ne hj] at ho
    exact ⟨j, p, o, hp, ho, hl, e⟩

/-- one object of the run's own turns -/
theorem St.set (S : St C ρ H s) {i : Nat} {o o' : O} {p : Addr × Addr} (hi : H[i]? = some o) (hl : o.live = true) (hp : ρ[i]? = some p) (k : ∀ a x, a ≠ p.1 → a ≠ p.2 → s.heap.get? a = some x → s'.heap.get? a = some x)
    (hz : (∃ o, s'.heap.get? p.1 = some o) ∧ ∃ o, s'.heap.get? p.2 = some o) (hg : s'.gens = s.gens) (hos : s'.os = s.os) (hR : Lasts ρ H s.heap ρ (H.set i o') s'.heap → ObjR C ρ (H.set i o') s'.heap p o') :
    St C ρ (H.set i o') s' ∧ Nx no ρ H s ρ (H.set i o') s' := by
  have pr : ∀ a x, s.heap.get? a = some x → ∃ x', s'.heap.get? a = some x' := fun a x e => by
    by_cases e1 : a = p.1
    · exact e1 ▸ hz.1
    · by_cases e2 : a = p.2
      · exact e2 ▸ hz.2
      · exact ⟨x, k a x e1 e2 e⟩
  have N : Nx no ρ H s ρ (H.set i o') s' := ⟨List.prefix_refl _, rfl, fun a x e n _ => k a x (fun q => n ⟨i, p, o, hp, hi, hl, .inl q⟩) (fun q => n ⟨i, p, o, hp, hi, hl, .inr q⟩) e,
    fun a m => .inl (own_set ⟨o, hi, hl⟩ m), pr, fun _ _ x => x.elim, fun _ _ e => .inl e⟩
  have L := N.lasts S
  refine ⟨⟨fun a x e => k a x (fun q => ?_) (fun q => ?_) (S.base a x e), hg.trans S.gens, hos.trans S.os, by rw [List.length_set]; exact S.len, fun j x q h1 h2 => ?_, S.apart, S.new, fun a h => ⟨(S.hid a h).1.elim fun o ho => pr _ o ho, (S.hid a h).2⟩, S.zap, fun i p h => ⟨(S.here i p h).1.elim fun a ha => pr _ a ha, (S.here i p h).2.elim fun b hb => pr _ b hb⟩⟩, N⟩
  · rw [q, (S.new i p hp).1] at e; exact nn e
  · rw [q, (S.new i p hp).2] at e; exact nn e
  · by_cases hj : i = j
    · subst hj
      rw [hp] at h2; cases h2
      have hlt : i < H.length := (List.getElem?_eq_some_iff.mp hi).1
      rw [List.getElem?_set_self hlt] at h1; cases h1
      exact hR L
    · rw [List.getElem?_set_ne hj] at h1
      refine x0a4 (S.apart i j p q hp h2 hj) fun n1 n2 n3 n4 => ?_
      exact (S.objs j x q h1 h2).lasts L (fun y e => k _ _ (Ne.symm n1) (Ne.symm n3) e) (fun y e => k _ _ (Ne.symm n2) (Ne.symm n4) e)

theorem own_app {p : Addr × Addr} {o : O} (hlen : ρ.l.length = H.length) {a : Addr} (m : Own (ρ ++ [p]) (H ++ [o]) a) : Own ρ H a ∨ a = p.1 ∨ a = p.2 := by
  refine x3a4 m fun j q x hq hx hl e => ?_
  rw [Rh.at_, Rh.app_l] at hq
  rcases Nat.lt_or_ge j ρ.l.length with hj | hj
  · rw [List.getElem?_append_left hj] at hq
    rw [List.getElem?_append_left (hlen ▸ hj)] at hx
    exact .inl ⟨j, q, x, hq, hx, hl, e⟩
  · rw [List.getElem?_append_right hj] at hq
    have : j - ρ.l.length = 0 := by
      rcases Nat.eq_zero_or_pos (j - ρ.l.length) with z | z
      · exact z
      · rw [List.getElem?_eq_none (by simp only [List.length_cons, List.length_nil]; (clear hj e hl hx hq hlen; lia))] at hq; exact nn hq
    rw [this] at hq
    have hq' : p = q := by simpa using hq
    subst hq'
    exact .inr e

/-- a new object of the run's own -/
theorem St.app (S : St C ρ H s) {o : O} {p : Addr × Addr} (hn : ¬ Own ρ H p.1 ∧ ¬ Own ρ H p.2) (hnd : ∀ (i : Nat) (q : Addr × Addr), ρ[i]? = some q → p.1 ≠ q.1 ∧ p.1 ≠ q.2 ∧ p.2 ≠ q.1 ∧ p.2 ≠ q.2)
    (hb : C.base.get? p.1 = none ∧ C.base.get? p.2 = none)
    (hl : (∀ items, ¬ s.heap.IsList p.1 items) ∧ ∀ items, ¬ s.heap.IsList p.2 items) (ht : (∀ items, ¬ s.heap.IsTuple p.1 items) ∧ ∀ items, ¬ s.heap.IsTuple p.2 items)
    (k : ∀ a x, a ≠ p.1 → a ≠ p.2 → s.heap.get? a = some x → s'.heap.get? a = some x) (hpz : (∃ o, s'.heap.get? p.1 = some o) ∧ ∃ o, s'.heap.get? p.2 = some o)
    (hzz : p.1 ∉ ρ.z ∧ p.2 ∉ ρ.z) (hg : s'.gens = s.gens) (hos : s'.os = s.os) (hR : Lasts ρ H s.heap (ρ ++ [p]) (H ++ [o]) s'.heap → ObjR C (ρ ++ [p]) (H ++ [o]) s'.heap p o) :
    St C (ρ ++ [p]) (H ++ [o]) s' ∧ Lasts ρ H s.heap (ρ ++ [p]) (H ++ [o]) s'.heap := by
  have L : Lasts ρ H s.heap (ρ ++ [p]) (H ++ [o]) s'.heap := by
    refine ⟨by rw [Rh.app_l]; exact List.prefix_append _ _, fun a items t => ?_, fun a items t n => ?_⟩
    · have n1 : a ≠ p.1 := fun e => ht.1 items (e ▸ t)
      have n2 : a ≠ p.2 := fun e => ht.2 items (e ▸ t)
      refine x1a2 t fun x hx r => ?_
      exact ⟨x, k a x n1 n2 hx, r⟩
    · have n1 : a ≠ p.1 := fun e => hl.1 items (e ▸ t)
      have n2 : a ≠ p.2 := fun e => hl.2 items (e ▸ t)
      refine x1a2 t fun x hx r => ?_
      refine ⟨⟨x, k a x n1 n2 hx, r⟩, fun m => ?_⟩
      exact m.elim (fun m => (own_app S.len m).elim (fun m => n (.inl m)) fun e => e.elim n1 n2) fun m => n (.inr m)
  have at_ : ∀ {i : Nat} {q : Addr × Addr}, (ρ ++ [p])[i]? = some q → ρ[i]? = some q ∨ (i = ρ.l.length ∧ q = p) := fun {i q} e => by
    rw [Rh.at_, Rh.app_l] at e
    rcases Nat.lt_or_ge i ρ.l.length with hj | hj
    · rw [List.getElem?_append_left hj] at e; exact .inl e
    · rw [List.getElem?_append_right hj] at e
      rcases Nat.eq_zero_or_pos (i - ρ.l.length) with z | z
      · rw [z] at e; simp at e; exact .inr ⟨by (clear e hR hos hg hzz hpz ht hl hb hn; lia), e.symm⟩
      · rw [List.getElem?_eq_none (by simp only [List.length_cons, List.length_nil]; (clear hj e hR hos hg hzz hpz ht hl hb hn; lia))] at e; exact nn e
  refine ⟨⟨fun a x e => k a x (fun q => by rw [q, hb.1] at e; exact nn e) (fun q => by rw [q, hb.2] at e; exact nn e) (S.base a x e), hg.trans S.gens, hos.trans S.os, by simp [Rh.app_l, S.len], fun j x q h1 h2 => ?_, fun i j q r h1 h2 hij => ?_, fun i q h1 => ?_, fun a h => ?_, fun a h i q h1 => ?_, fun i q h1 => ?_⟩, L⟩
  · rcases at_ h2 with e | ⟨ei, eq⟩
    · have hj : j < ρ.l.length := (List.getElem?_eq_some_iff.mp (show ρ.l[j]? = some q from e)).1
      rw [List.getElem?_append_left (S.len ▸ hj)] at h1
      cases hlv : x.live with
      | true =>
        refine (S.objs j x q h1 e).lasts L (fun y z => k _ _ (fun c => hn.1 ⟨j, q, x, e, h1, hlv, .inl c.symm⟩) (fun c => hn.2 ⟨j, q, x, e, h1, hlv, .inl c.symm⟩) z) (fun y z => k _ _ (fun c => hn.1 ⟨j, q, x, e, h1, hlv, .inr c.symm⟩) (fun c => hn.2 ⟨j, q, x, e, h1, hlv, .inr c.symm⟩) z)
      | false => induction x using Mini.O.casesOn <;> first | trivial | cases hlv
    · rw [ei, S.len, List.getElem?_append_right (Nat.le_refl _), Nat.sub_self] at h1
      rw [eq, ← Option.some.inj h1]
      exact hR L
  · rcases at_ h1 with e1 | e1 <;> rcases at_ h2 with e2 | e2
    · exact S.apart i j q r e1 e2 hij
    · rw [e2.2]
      have d := hnd i q e1
      exact ⟨d.1.symm, d.2.2.1.symm, d.2.1.symm, d.2.2.2.symm⟩
    · rw [e1.2]; exact hnd j r e2
    · exact absurd (e1.1.trans e2.1.symm) hij
  · rcases at_ h1 with e1 | e1
    · exact S.new i q e1
    · rw [e1.2]; exact hb
  · exact ⟨(S.hid a h).1.elim fun o' ho => ⟨o', k a o' (fun e => hzz.1 (e ▸ h)) (fun e => hzz.2 (e ▸ h)) ho⟩, (S.hid a h).2⟩
  · rcases at_ h1 with e1 | e1
    · exact S.zap a h i q e1
    · rw [e1.2]; exact ⟨fun e => hzz.1 (e ▸ h), fun e => hzz.2 (e ▸ h)⟩
  · rcases at_ h1 with e1 | e1
    · have c := S.here i q e1
      have d := hnd i q e1
      exact ⟨c.1.elim fun a ha => ⟨a, k _ a d.1.symm d.2.2.1.symm ha⟩, c.2.elim fun b hb => ⟨b, k _ b d.2.1.symm d.2.2.2.symm hb⟩⟩
    · rw [e1.2]; exact hpz

end
end Mini
end
section
set_option autoImplicit false
namespace Mini
open PySem PySem.Calls PyProof.Rows
open PySem.W (Frag dictOf Looks)

theorem filter_lookup_nil (names : List Str) (vals : List Value) (h : names.length = vals.length) : names.filter (fun n => ((names.zip vals).lookup n).isNone) = [] := by
  rw [List.filter_eq_nil_iff]
  intro x hx
  have : ∀ (ns : List Str) (vs : List Value), ns.length = vs.length → x ∈ ns → ((ns.zip vs).lookup x).isNone = false := by
    intro ns
    induction ns with
    | nil => intro vs _ hm; cases hm
    | cons n ns ih =>
      intro vs hl hm
      induction vs using List.casesOn with
      | nil => cases hl
      | cons v vs =>
        simp only [List.zip_cons_cons, List.lookup_cons]
        cases hb : x == n with
        | true => rfl
        | false =>
          rcases List.mem_cons.mp hm with rfl | hm
          · simp at hb
          · exact ih vs (Nat.succ.inj hl) hm
  simp [this names vals h hx]

theorem filterMap_zip (names : List Str) (vals : List Value) (h : names.length = vals.length) (hn : names.Nodup) : names.filterMap (fun n => ((names.zip vals).lookup n).map (n, ·)) = names.zip vals := by
  have : ∀ (ns : List Str) (vs : List Value) (pre : List (Str × Value)), ns.length = vs.length → ns.Nodup → (∀ n ∈ ns, pre.lookup n = none) →
      ns.filterMap (fun n => ((pre ++ ns.zip vs).lookup n).map (n, ·)) = ns.zip vs := by
    intro ns
    induction ns with
    | nil => intro vs pre hl _ _; rfl
    | cons n ns ih =>
      intro vs pre hl hnd hp
      induction vs using List.casesOn with
      | nil => cases hl
      | cons v vs =>
        rw [List.nodup_cons] at hnd
        have h1 : (pre ++ (n, v) :: ns.zip vs).lookup n = some v := by
          rw [List.lookup_append, hp n List.mem_cons_self]; simp
        simp only [List.zip_cons_cons, List.filterMap_cons, h1, Option.map_some]
        have := ih vs (pre ++ [(n, v)]) (Nat.succ.inj hl) hnd.2 (fun m hm => by
          rw [List.lookup_append, hp m (List.mem_cons_of_mem _ hm)]
          have : (m == n) = false := beq_eq_false_iff_ne.mpr fun e => hnd.1 (e ▸ hm)
          simp [List.lookup_cons, this])
        simp only [List.append_assoc, List.cons_append, List.nil_append] at this
        rw [this]
  simpa using this names vals [] h hn (fun _ _ => rfl)

theorem ite_neg' {α : Type _} {c : Prop} [Decidable c] {t e r : α} (h : ¬ c) (k : e = r) : (if c then t else e) = r := (if_neg h).trans k
theorem forIn_nil' {α β γ : Type} {l : List α} {init : β} {g : α → β → Sem (ForInStep β)} {f : β → Sem γ} {r : Sem γ} (e : l = []) (k : f init = r) : (forIn l init g >>= f) = r := by subst e; exact k
theorem bind_plain {fd : FuncData} {as : List Arg} {vals : List Value} (hp : fd.params = ⟨[], as, none, [], [], none, []⟩) (hd : fd.defaults = .none) (hl : as.length = vals.length) (hn : (as.map (·.arg)).Nodup) :
    bindArgs fd ⟨vals, []⟩ = pure ((as.map (·.arg)).zip vals) := by
  obtain ⟨a1, a2, par, a4, a5, a6, a7, dfl, a9, a10, a11, a12, a13, a14, a15⟩ := fd
  cases hp
  cases hd
  have hl' : (as.map (·.arg)).length = vals.length := by simpa using hl
  have e0 : ∀ k, List.drop k ([] : List Value) = [] := fun k => List.drop_nil
  have e1 : ((as.map Arg.arg).take ((as.map Arg.arg).length - (List.drop (0 - (as.map Arg.arg).length) ([] : List Value)).length)).filter (fun n => (((as.map Arg.arg).zip vals).lookup n).isNone) = [] := by
    rw [e0, List.length_nil, Nat.sub_zero, List.take_of_length_le (Nat.le_refl _)]; exact filter_lookup_nil _ vals hl'
  refine ite_neg' (c := (decide (vals.length > (as.map Arg.arg).length) && true) = true) (by rw [hl']; simp) ?_
  refine ite_neg' (c := (!(List.filter (fun n => (((as.map Arg.arg).zip vals).lookup n).isNone) ((as.map Arg.arg).take ((as.map Arg.arg).length - (List.drop (0 - (as.map Arg.arg).length) ([] : List Value)).length))).isEmpty) = true) (by rw [e1]; exact Bool.false_ne_true) ?_
  refine forIn_nil' (l := ((as.map Arg.arg).drop ((as.map Arg.arg).length - (List.drop (0 - (as.map Arg.arg).length) ([] : List Value)).length)).zip (List.drop (0 - (as.map Arg.arg).length) ([] : List Value))) (by rw [e0]; exact List.zip_nil_right) ?_
  show (pure (((as.map Arg.arg) ++ []).filterMap (fun n => (((as.map Arg.arg).zip vals).lookup n).map (n, ·))) : Sem (List (Str × Value))) = (pure ((as.map Arg.arg).zip vals) : Sem (List (Str × Value)))
  rw [List.append_nil, filterMap_zip _ vals hl' hn]

noncomputable def Room (n : Nat) (A : Around) : Prop := A.handled = none ∧ A.depth + 2 * n < 900 ∧ A.units + 8 * n + 200 < cLine
theorem Room.dec {n : Nat} {A : Around} (r : Room (n + 1) A) : Room n A := ⟨r.1, by have := r.2.1; lia, by have := r.2.2; lia⟩
theorem Room.deep {n : Nat} {A : Around} {env : Env} (r : Room (n + 1) A) : Room n (A.deeper env) := ⟨r.1, by have := r.2.1; show A.depth + 1 + 2 * n < 900; lia, by have := r.2.2; show A.units + 3 + 8 * n + 200 < cLine; lia⟩
theorem Room.in1 {n : Nat} {A : Around} (r : Room (n + 1) A) : Room n A.in1 := ⟨r.1, by have := r.2.1; show A.depth + 2 * n < 900; lia, by have := r.2.2; show A.units + 1 + 8 * n + 200 < cLine; lia⟩
theorem Room.units {n : Nat} {A : Around} (r : Room n A) : A.units + 200 < cLine := by have := r.2.2; lia
theorem Room.mark {n : Nat} {A : Around} (r : Room n A) : Room n (A.mark none) := ⟨by rw [Around.mark, r.1]; rfl, r.2.1, r.2.2⟩

noncomputable def Wr (sc : Scope) (env : Env) (a : Addr) : Prop := a = env.locals ∨ ∃ x, sc.names.lookup x = some .cell ∧ env.cells.lookup x = some a

structure EnvOK (C : Cfg) (sc : Scope) (env : Env) (ρ : Rh) (H : Hp) (h : Heap) (lo : Lo) : Prop where
  kind : env.scope.kind = .function
  glob : env.globals = mainGlobals
  blt : env.builtins = builtinsNs
  loc : ∀ x, sc.names.lookup x = some .local → env.kindOf x = some .local
  cel : ∀ x, sc.names.lookup x = some .cell → env.kindOf x = some .cell ∧ ∃ c v₀, env.cells.lookup x = some c ∧ h.IsCell c v₀
  fre : ∀ x, sc.names.lookup x = some .free → (env.kindOf x = some .cell ∨ env.kindOf x = some .free) ∧ ∃ c v₀, env.cells.lookup x = some c ∧ h.IsCell c v₀
  glo : ∀ x, sc.names.lookup x = some .globalImplicit → env.kindOf x = some .globalImplicit
  ns : ∃ m, h.Ns env.locals m ∧ ∀ i v, lk lo i = some v → sc.names.lookup (nm i) = some .local → ∃ x, m (nm i) = some x ∧ VR ρ H h v x
  cv : ∀ i v, lk lo i = some v → (sc.names.lookup (nm i) = some .cell ∨ sc.names.lookup (nm i) = some .free) → ∃ c x, env.cells.lookup (nm i) = some c ∧ h.IsCell c (some x) ∧ VR ρ H h v x
  free : ¬ Own ρ H env.locals ∧ ∀ x c, (sc.names.lookup x = some .cell ∨ sc.names.lookup x = some .free) → env.cells.lookup x = some c → ¬ Own ρ H c
  new : C.base.get? env.locals = none ∧ ∀ x c, sc.names.lookup x = some .cell → env.cells.lookup x = some c → C.base.get? c = none
  apart : ∀ x y c, sc.names.lookup x = some .cell → env.cells.lookup x = some c → env.cells.lookup y = some c → x = y
  clr : (∀ (i : Nat) (p : Addr × Addr), ρ[i]? = some p → p.1 ≠ env.locals ∧ p.2 ≠ env.locals) ∧ env.locals ∉ ρ.z

section
variable {C : Cfg} {sc : Scope} {env : Env} {lo : Lo} {ρ ρ' : Rh} {H H' : Hp} {s s' : Shared}

theorem isCell_keep {h h' : Heap} {c : Addr} {v : Option Value} (k : ∀ o, h.get? c = some o → h'.get? c = some o) (x : h.IsCell c v) : h'.IsCell c v := x1a2 x fun o a b => ⟨o, k o a, b⟩
theorem ns_keep {h h' : Heap} {a : Addr} {m : Str → Option Value} (k : ∀ o, h.get? a = some o → h'.get? a = some o) (x : h.Ns a m) : h'.Ns a m := x3a2 x fun o es ep e r => ⟨o, es, ep, k o e, r⟩

theorem EnvOK.cell_lt (X : EnvOK C sc env ρ H s.heap lo) {x : Str} {c : Addr} (hx : sc.names.lookup x = some .cell ∨ sc.names.lookup x = some .free) (e : env.cells.lookup x = some c) : ∃ v, s.heap.IsCell c v := by
  rcases hx with hx | hx
  · refine c5 (X.cel x hx) fun _ c' v e' q => ?_
    rw [e] at e'; cases e'; exact ⟨v, q⟩
  · refine c5 (X.fre x hx) fun _ c' v e' q => ?_
    rw [e] at e'; cases e'; exact ⟨v, q⟩
theorem isCell_lt {h : Heap} {c : Addr} {v : Option Value} (x : h.IsCell c v) : c < h.objs.size := x1a2 x fun _ a _ => Heap.lt_size a

theorem EnvOK.next (X : EnvOK C sc env ρ H s.heap lo) (S : St C ρ H s) (N : Nx no ρ H s ρ' H' s') : EnvOK C sc env ρ' H' s'.heap lo := by
  have L := N.lasts S
  have kc : ∀ x c o, (sc.names.lookup x = some .cell ∨ sc.names.lookup x = some .free) → env.cells.lookup x = some c → s.heap.get? c = some o → s'.heap.get? c = some o := fun x c o hx e g => N.keep c o g (X.free.2 x c hx e) id
  have kl : ∀ o, s.heap.get? env.locals = some o → s'.heap.get? env.locals = some o := fun o g => N.keep _ o g X.free.1 id
  refine ⟨X.kind, X.glob, X.blt, X.loc, fun x hx => ?_, fun x hx => ?_, X.glo, ?_, fun i v hi hk => ?_, ⟨fun m => ?_, fun x c hx e m => ?_⟩, X.new, X.apart, ⟨fun i p hp => ?_, by rw [N.z]; exact X.clr.2⟩⟩
  · refine c5 (X.cel x hx) fun a c v₀ e q => ?_
    exact ⟨a, c, v₀, e, isCell_keep (fun o => kc x c o (.inl hx) e) q⟩
  · refine c5 (X.fre x hx) fun a c v₀ e q => ?_
    exact ⟨a, c, v₀, e, isCell_keep (fun o => kc x c o (.inr hx) e) q⟩
  · refine x1a2 X.ns fun m hm q => ?_
    refine ⟨m, ns_keep kl hm, fun i v hi hk => ?_⟩
    refine x1a2 (q i v hi hk) fun x e r => ?_
    exact ⟨x, e, r.lasts L⟩
  · refine x2a3 (X.cv i v hi hk) fun c x e q r => ?_
    exact ⟨c, x, e, isCell_keep (fun o => kc _ c o hk e) q, r.lasts L⟩
  · obtain ⟨mm, ⟨o, _, _, ho, _⟩, _⟩ := X.ns
    exact (N.fresh _ m).elim X.free.1 fun z => by rw [ho] at z; cases z
  · refine x1a1 (X.cell_lt hx e) fun v q => ?_
    refine x1a2 q fun o ho _ => ?_
    exact (N.fresh _ m).elim (X.free.2 x c hx e) fun z => by rw [ho] at z; cases z
  · obtain ⟨mm, ⟨o, _, _, ho, _⟩, _⟩ := X.ns
    rcases N.news i p hp with e | ⟨e1, e2⟩
    · exact X.clr.1 i p e
    · exact ⟨fun q => (by rw [q, ho] at e1; cases e1), fun q => (by rw [q, ho] at e2; cases e2)⟩

theorem EnvOK.wdata (X : EnvOK C sc env ρ H s.heap lo) : ∀ a o, Wr sc env a → s.heap.get? a = some o → (∀ xs n, o.data ≠ .seq xs n) ∨ (a ∈ ρ.z ∧ o.cls ≠ .type "tuple") := by
  rintro a o (rfl | ⟨x, hx, e⟩) ho <;> refine .inl fun xs n hd => ?_
  · obtain ⟨m, ⟨o', es, ep, ho', hd', _⟩, _⟩ := X.ns
    rw [ho] at ho'; cases ho'; rw [hd] at hd'; cases hd'
  · refine x2a2 (X.cell_lt (.inl hx) e) fun v o' ho' hd' => ?_
    rw [ho] at ho'; cases ho'; rw [hd] at hd'; cases hd'

/-! reading a name -/
theorem sees_of {x : Str} (h : sees sc x = true) : sc.names.lookup x = some .local ∨ sc.names.lookup x = some .cell ∨ sc.names.lookup x = some .free := by
  unfold sees at h
  split at h <;> simp_all
theorem isVar_of {ok : Scope → Str → Bool} {i : Nat} {x : Expr} (h : isVar sc i ok x = true) : ∃ p, x = .Name (nm i) p ∧ ok sc (nm i) = true ∧ ((nm i) == ("__debug__" : Str)) = false ∧ ((nm i) == ("__classdict__" : Str)) = false := by
  have hx := bk_of (and_l h)
  have h2 := and3 (and_r h)
  have e : nm i = (pt x).s := beq_iff_eq.mp h2.1
  have d := and2 h2.2.2
  rw [← e] at h2 d
  exact ⟨(pt x).p, e ▸ hx, h2.2.1, by simpa using d.1, by simpa using d.2⟩

theorem loadName_ok (X : EnvOK C sc env ρ H s.heap lo) {i : Nat} {v : V} (hs : sees sc (nm i) = true) (hd : (nm i == ("__classdict__" : Str)) = false) (hl : lk lo i = some v) {M : Model} {A : Around} {E : Value → Shared → Prop} {Q : Value → Shared → Prop}
    (h : ∀ x, VR ρ H s.heap v x → Q x s) : wpAny M A (loadName env (nm i)) Q E s := by
  rcases sees_of hs with q | q | q
  · refine x1a2 X.ns fun m hm r => ?_
    refine x1a2 (r i v hl q) fun x e r => ?_
    exact wpAny_loadName_local X.kind (X.loc _ q) hm e (h x r)
  · refine x2a3 (X.cv i v hl (.inl q)) fun c x e hc r => ?_
    exact wpAny_loadName_cell X.kind (X.cel _ q).1 e hc (h x r)
  · refine x2a3 (X.cv i v hl (.inr q)) fun c x e hc r => ?_
    rcases (X.fre _ q).1 with z | z
    · exact wpAny_loadName_cell X.kind z e hc (h x r)
    · exact wpAny_loadName_free X.kind z e hc (h x r) hd

theorem owns_of {x : Str} (h : owns sc x = true) : sc.names.lookup x = some .local ∨ sc.names.lookup x = some .cell := by
  unfold owns at h
  split at h <;> simp_all

/-- one of the frame's own places turns -/
theorem frame_turn (X : EnvOK C sc env ρ H s.heap lo) (S : St C ρ H s) {a : Addr} (ha : Wr sc env a) (hb : Heap.SameBut a s.heap s'.heap) (hp : ∃ o, s'.heap.get? a = some o) (hg : s'.gens = s.gens) (hos : s'.os = s.os) :
    St C ρ H s' ∧ Nx (Wr sc env) ρ H s ρ H s' ∧ Lasts ρ H s.heap ρ H s'.heap := by
  have hn : ¬ Own ρ H a := by
    rcases ha with rfl | ⟨x, hx, e⟩
    · exact X.free.1
    · exact X.free.2 x a (.inl hx) e
  have hnew : C.base.get? a = none := by
    rcases ha with rfl | ⟨x, hx, e⟩
    · exact X.new.1
    · exact X.new.2 x a hx e
  have pr : ∀ b x, s.heap.get? b = some x → ∃ x', s'.heap.get? b = some x' := fun b x e => by
    by_cases e1 : b = a
    · exact e1 ▸ hp
    · exact ⟨x, (hb.2 b e1).trans e⟩
  have N : Nx (Wr sc env) ρ H s ρ H s' := ⟨List.prefix_refl _, rfl, fun b o e _ w => (hb.2 b (fun q => w (q ▸ ha))).trans e, fun _ m => .inl m, pr, X.wdata, fun _ _ e => .inl e⟩
  have L := N.lasts S
  exact ⟨S.turn (fun b o e => (hb.2 b (fun q => by rw [q, hnew] at e; exact nn e)).trans (S.base b o e)) (fun b o m e => (hb.2 b (fun q => hn (q ▸ m))).trans e) L pr hg hos, N, L⟩

theorem store_ok (X : EnvOK C sc env ρ H s.heap lo) (S : St C ρ H s) {i : Nat} {v : V} {x : Value} (hs : owns sc (nm i) = true) (r : VR ρ H s.heap v x) {M : Model} {A : Around} {E : Value → Shared → Prop} {Q : Unit → Shared → Prop}
    (h : ∀ s', St C ρ H s' → Nx (Wr sc env) ρ H s ρ H s' → EnvOK C sc env ρ H s'.heap (lset lo i v) → Q () s') : wpAny M A (storeName env (nm i) x) Q E s := by
  rcases owns_of hs with q | q
  · refine x1a2 X.ns fun m hm t => ?_
    refine wpAny_storeName_local (X.loc _ q) hm (fun h' hm' hb => ?_) (by rw [X.kind]; rfl)
    refine x0a3 (frame_turn (s' := { s with heap := h', toks := s.toks + 1 }) X S (.inl rfl) hb (x3a2 hm' fun o _ _ e _ => ⟨o, e⟩) rfl rfl) fun S' N L => ?_
    have nl : ∀ {y : Str} {c : Addr}, (sc.names.lookup y = some .cell ∨ sc.names.lookup y = some .free) → env.cells.lookup y = some c → c ≠ env.locals := fun hy e z => by
      refine x2a2 (X.cell_lt hy e) fun v₀ o ho hd => ?_
      refine x3a3 hm fun o' es ep ho' hd' _ => ?_
      rw [z, ho'] at ho; cases ho; rw [hd'] at hd; cases hd
    refine h _ S' N ⟨X.kind, X.glob, X.blt, X.loc, fun y hy => ?_, fun y hy => ?_, X.glo, ⟨_, hm', fun j u hj hk => ?_⟩, fun j u hj hk => ?_, X.free, X.new, X.apart, X.clr⟩
    · refine c5 (X.cel y hy) fun a c v₀ e z => ?_
      exact ⟨a, c, v₀, e, isCell_keep (fun o g => (hb.2 c (nl (.inl hy) e)).trans g) z⟩
    · refine c5 (X.fre y hy) fun a c v₀ e z => ?_
      exact ⟨a, c, v₀, e, isCell_keep (fun o g => (hb.2 c (nl (.inr hy) e)).trans g) z⟩
    · rw [lk_lset] at hj
      by_cases ej : j = i
      · rw [if_pos ej] at hj; cases hj
        rw [ej]
        exact ⟨x, by simp, r.lasts L⟩
      · rw [if_neg ej] at hj
        refine x1a2 (t j u hj hk) fun y e z => ?_
        exact ⟨y, by rw [if_neg (fun q => ej (nm_inj q))]; exact e, z.lasts L⟩
    · rw [lk_lset] at hj
      by_cases ej : j = i
      · rw [ej, q] at hk; rcases hk with hk | hk <;> cases hk
      · rw [if_neg ej] at hj
        refine x2a3 (X.cv j u hj hk) fun c y e z t => ?_
        exact ⟨c, y, e, isCell_keep (fun o g => (hb.2 c (nl hk e)).trans g) z, t.lasts L⟩
  · refine c5 (X.cel _ q) fun hk c v₀ ec hc => ?_
    refine wpAny_storeName_cell X.kind hk ec hc (fun h' hc' hb => ?_)
    refine x0a3 (frame_turn (s' := { s with heap := h' }) X S (.inr ⟨_, q, ec⟩) hb (x1a2 hc' fun o e _ => ⟨o, e⟩) rfl rfl) fun S' N L => ?_
    refine x1a2 X.ns fun m hm t => ?_
    have nl : env.locals ≠ c := fun z => by
      refine x1a2 hc fun o ho hd => ?_
      refine x3a3 hm fun o' es ep ho' hd' _ => ?_
      rw [z, ho] at ho'; cases ho'; rw [hd'] at hd; cases hd
    have other : ∀ {y : Str} {c' : Addr}, y ≠ nm i → env.cells.lookup y = some c' → c' ≠ c := fun hy e z => hy (X.apart _ _ c q ec (z ▸ e)).symm
    refine h _ S' N ⟨X.kind, X.glob, X.blt, X.loc, fun y hy => ?_, fun y hy => ?_, X.glo, ⟨m, ns_keep (fun o g => (hb.2 _ nl).trans g) hm, fun j u hj hk => ?_⟩, fun j u hj hk => ?_, X.free, X.new, X.apart, X.clr⟩
    · refine c5 (X.cel y hy) fun a c' v₁ e z => ?_
      by_cases ey : y = nm i
      · rw [ey] at e ⊢
        exact ⟨(X.cel _ q).1, c, _, ec, hc'⟩
      · exact ⟨a, c', v₁, e, isCell_keep (fun o g => (hb.2 c' (other ey e)).trans g) z⟩
    · refine c5 (X.fre y hy) fun a c' v₁ e z => ?_
      have ey : y ≠ nm i := fun ey => by rw [ey, q] at hy; cases hy
      exact ⟨a, c', v₁, e, isCell_keep (fun o g => (hb.2 c' (other ey e)).trans g) z⟩
    · rw [lk_lset] at hj
      by_cases ej : j = i
      · rw [ej, q] at hk; cases hk
      · rw [if_neg ej] at hj
        refine x1a2 (t j u hj hk) fun y e z => ?_
        exact ⟨y, e, z.lasts L⟩
    · rw [lk_lset] at hj
      by_cases ej : j = i
      · rw [if_pos ej] at hj; cases hj
        rw [ej]
        exact ⟨c, x, ec, hc', r.lasts L⟩
      · rw [if_neg ej] at hj
        refine x2a3 (X.cv j u hj hk) fun c' y e z t => ?_
        exact ⟨c', y, e, isCell_keep (fun o g => (hb.2 c' (other (fun q => ej (nm_inj q)) e)).trans g) z, t.lasts L⟩
end
end Mini
end
section
set_option autoImplicit false
namespace Mini
open PySem PySem.Calls PyProof.Rows
open PySem.W (Frag dictOf Looks findIn typeIn keepIn makesIn plainGet hasDictIn plainOver)

set_option genInjectivity false in
set_option genSizeOf false in
structure Glo where
  mg : Str → Option Value
  mb : Str → Option Value

/-- a def's object -/
structure FnOK (C : Cfg) (a : Addr) (f : FDef) (d : FuncData) (as : List Arg) (stmts : List Stmt) (n : Nat) : Prop where
  obj : ∃ oc od sl, C.K.lookup a = some ⟨oc, od, .func d, sl⟩
  keep : keepIn C.K (.ref a) = true
  params : d.params = ⟨[], as, none, [], [], none, []⟩
  names : as.map (·.arg) = f.params.map nm
  nodup : (f.params.map nm).Nodup
  dflt : d.defaults = .none
  body : d.body = .stmts stmts
  glob : d.globals = mainGlobals
  blt : d.builtins = builtinsNs
  kind : d.scope.kind = .function
  gen : d.scope.isGenerator = false
  co : d.scope.isCoroutine = false
  code : C.base.CodeRec d.code d.qualname
  loc : ∀ x ∈ f.params.map nm, d.scope.names.lookup x = some .local ∨ d.scope.names.lookup x = some .cell
  mt : mtSs (mtS n d.scope) f.body stmts = true
noncomputable def Fn (C : Cfg) (a : Addr) (f : FDef) : Prop := ∃ d as stmts n, FnOK C a f d as stmts n ∧ d.closure = [] ∧ ∀ x, d.scope.names.lookup x ≠ some .free


/-- a class's __init__ that begins with super().m2() -/
structure SupAt (C : Cfg) (c : Nat) (a : Addr) (m2 : Nat) (b2 : List S) (d : FuncData) (ar : Arg) (p0 p1 ap p p' : Pos) (rest : List Stmt) (n : Nat) (cc cda f2 : Addr) : Prop where
  obj : ∃ oc od sl, C.K.lookup a = some ⟨oc, od, .func d, sl⟩
  params : d.params = ⟨[], [ar], none, [], [], none, []⟩
  arg : ar.arg = nm n_self
  dflt : d.defaults = .none
  glob : d.globals = mainGlobals
  blt : d.builtins = builtinsNs
  kind : d.scope.kind = .function
  gen : d.scope.isGenerator = false
  co : d.scope.isCoroutine = false
  code : C.base.CodeRec d.code d.qualname
  clo : d.closure = [(("__class__" : Str), cc)]
  body : d.body = .stmts (.Expr (.Call (.Attribute (.Call (.Name "super" p0) [] [] p1) (nm m2) ap) [] [] p) p' :: rest)
  line : (ap.endLine == p.line) = true
  mt : mtSs (mtS n d.scope) b2 rest = true
  self : d.scope.names.lookup (nm n_self) = some .local
  sup : d.scope.names.lookup ("super" : Str) = some .globalImplicit
  cls : d.scope.names.lookup ("__class__" : Str) = some .free
  cells : ∀ x ∈ d.scope.names, x.2 ≠ .cell
  free : ∀ x, d.scope.names.lookup x = some .free → x = ("__class__" : Str)
  cell : ∃ cl cld csl, C.K.lookup cc = some ⟨cl, cld, .cell (some (.ref (C.cls c))), csl⟩
  cdr : d.code = .ref cda ∧ ∃ ccl cdd vs ccs file tf, C.K.lookup cda = some ⟨ccl, cdd, .fields vs, ccs⟩ ∧ vs[2]? = some (.str file tf) ∧ ((C.prog.main.file : Str) == file) = true
  isc : ∃ cd, W.clsIn C.K (C.cls c) = some cd ∧ W.alongIn C.K (nm m2) ((cd.mro.dropWhile (· != .ref (C.cls c))).drop 1) = some (some (.ref f2))
  f2t : typeIn C.K (.ref f2) = some (.type "function")
  f2k : keepIn C.K (.ref f2) = true
  sub : W.mroIn C.K (C.cls c) (.ref (C.cls c)) = some true
  top : (C.prog.main.scope.names.lookup ("super" : Str)).isSome = false
  any : W.nsIn C.K cStatics "thirdparty.any" = some none
  notc : (nm m2 == ("__class__" : Str)) = false
set_option genInjectivity false in
set_option genSizeOf false in
inductive Sup (C : Cfg) (c : Nat) (a : Addr) (f : FDef) : Prop
  | mk (c2 m2 : Nat) (b2 : List S) (ms2 : List (Nat × FDef)) (f2d : FDef) (d : FuncData) (ar : Arg) (p0 p1 ap p p' : Pos) (rest : List Stmt) (n : Nat) (cc cda f2 : Addr) : f = ⟨[n_self], .expr (.sup c2 m2) :: b2⟩ → lk C.P.classes c2 = some ms2 → lk ms2 m2 = some f2d → Fn C f2 f2d → SupAt C c a m2 b2 d ar p0 p1 ap p p' rest n cc cda f2 → Sup C c a f

structure ClsOK (C : Cfg) (G : Glo) (c : Nat) (ms : List (Nat × FDef)) : Prop where
  glob : G.mg (nm c) = some (.ref (C.cls c))
  makes : makesIn C.K (C.cls c) = true
  keep : keepIn C.K (.ref (C.cls c)) = true
  get : ∀ x, plainGet C.K (C.cls c) x = true
  dict : hasDictIn C.K (C.cls c) = true
  set : findIn C.K (.ref (C.cls c)) "__setattr__" = some (some (.builtin "object.__setattr__"))
  over : plainOver C.K (C.cls c) = true
  attr : ∀ a ∈ C.P.attrs, findIn C.K (.ref (C.cls c)) (nm a) = some none
  meth : ∀ m f, lk ms m = some f → ∃ a, findIn C.K (.ref (C.cls c)) (nm m) = some (some (.ref a)) ∧ typeIn C.K (.ref a) = some (.type "function") ∧ (Fn C a f ∨ m = n_init)
  init : ∀ f, lk ms n_init = some f → ∃ a, findIn C.K (.ref (C.cls c)) "__init__" = some (some (.ref a)) ∧ typeIn C.K (.ref a) = some (.type "function") ∧ (Fn C a f ∨ Sup C c a f)

structure CfgOK (C : Cfg) (G : Glo) : Prop where
  X : C.K.In C.base
  lim : C.base.NoLimit
  g : C.base.Ns mainGlobals G.mg
  b : C.base.Ns builtinsNs G.mb
  sys : (C.base.get? sysModules).isSome = true
  cst : ∀ i v, lk C.P.consts i = some v → ∃ x, G.mg (nm i) = some x ∧ VR .nil [] C.base v x
  fn : ∀ i f, lk C.P.funs i = some f → ∃ a, G.mg (nm i) = some (.ref a) ∧ Fn C a f
  cl : ∀ c ms, lk C.P.classes c = some ms → ClsOK C G c ms
  bi : ∀ x ∈ biNames, G.mg x = none ∧ G.mb x = bootBuiltins x

noncomputable abbrev MM (C : Cfg) : Model := model C.prog C.w

/-- a tree comes back with a value that stands for v -/
noncomputable def Runs (C : Cfg) (A : Around) (t : Sem Value) (ρ : Rh) (H : Hp) (s : Shared) (v : V) (H' : Hp) : Prop :=
  ∀ (E : Value → Shared → Prop) (Q : Value → Shared → Prop), (∀ x s' ρ', St C ρ' H' s' → Nx no ρ H s ρ' H' s' → VR ρ' H' s'.heap v x → Q x s') → wpAny (MM C) A t Q E s
noncomputable def RunsL (C : Cfg) (A : Around) (t : Sem (List Value)) (ρ : Rh) (H : Hp) (s : Shared) (v : List V) (H' : Hp) : Prop :=
  ∀ (E : Value → Shared → Prop) (Q : List Value → Shared → Prop), (∀ x s' ρ', St C ρ' H' s' → Nx no ρ H s ρ' H' s' → VRs ρ' H' s'.heap v x → Q x s') → wpAny (MM C) A t Q E s
noncomputable def RunsB (C : Cfg) (A : Around) (t : Sem Bool) (ρ : Rh) (H : Hp) (s : Shared) (b : Bool) (H' : Hp) : Prop :=
  ∀ (E : Value → Shared → Prop) (Q : Bool → Shared → Prop), (∀ s' ρ', St C ρ' H' s' → Nx no ρ H s ρ' H' s' → Q b s') → wpAny (MM C) A t Q E s

theorem Runs.eq {C : Cfg} {A : Around} {t : Sem Value} {ρ : Rh} {H H1 H' : Hp} {s : Shared} {v w : V} (h : (w, H1) = (v, H')) (k : Runs C A t ρ H s w H1) : Runs C A t ρ H s v H' := by (refine pinjE h ?_; clear h); exact k
theorem Runs.eqs {C : Cfg} {A : Around} {t : Sem Value} {ρ : Rh} {H H1 H' : Hp} {s : Shared} {v w : V} (h : some (w, H1) = some (v, H')) (k : Runs C A t ρ H s w H1) : Runs C A t ρ H s v H' := .eq (Option.some.inj h) k

/-- a level's expressions are right -/
noncomputable def EvOK (C : Cfg) (n : Nat) (R : Sems) : Prop := ∀ (f : Nat) (sc : Scope) (env : Env) (e : E) (x : Expr) (lo : Lo) (H : Hp) (v : V) (H' : Hp),
  mtE f sc e x = true → R.ev e lo H = some (v, H') → ∀ (A : Around) (s : Shared) (ρ : Rh), Room n A → St C ρ H s → EnvOK C sc env ρ H s.heap lo → Runs C A (eval x env) ρ H s v H'
/-- a level's tests are right -/
noncomputable def TrOK (C : Cfg) (n : Nat) (R : Sems) : Prop := ∀ (f : Nat) (sc : Scope) (env : Env) (e : E) (x : Expr) (lo : Lo) (H : Hp) (b : Bool) (H' : Hp),
  mtE f sc e x = true → R.ev e lo H = some (.bool b, H') → ∀ (A : Around) (s : Shared) (ρ : Rh), Room n A → St C ρ H s → EnvOK C sc env ρ H s.heap lo → RunsB C A (isTrue x env (eval x env)) ρ H s b H'


section
variable {C : Cfg} {sc : Scope} {env : Env} {lo : Lo} {A : Around} {R : Sems} {n : Nat} {ρ ρ' : Rh} {H H' : Hp} {s s' : Shared}

/-- no starred, no set display is matched -/
theorem mtE_not (f : Nat) (e : E) (x : Expr) (h : mtE f sc e x = true) : (∀ y p, x ≠ .Starred y p) ∧ (∀ l k p, x ≠ .Set l k p) ∧ (∀ l u t p, x ≠ .Slice l u t p) := by
  have hk := Nat.le_of_ble_eq_true (ek_le e)
  rw [← mt_k h] at hk
  refine ⟨fun y p hx => ?_, fun l k p hx => ?_, fun l u t p hx => ?_⟩ <;> subst hx
  · exact absurd hk (show ¬ 50 ≤ 20 by decide)
  · exact absurd hk (show ¬ 50 ≤ 20 by decide)
  · induction t using Option.casesOn
    · exact absurd hk (show ¬ 30 ≤ 20 by decide)
    · exact absurd hk (show ¬ 50 ≤ 20 by decide)

theorem starEach_one {x : Expr} {xs : List Expr} (h : ∀ y p, x ≠ .Starred y p) : starEach (x :: xs) env = (false, eval x env) :: starEach xs env := by
  induction x using PySem.Expr.casesOn <;> first | rfl | exact absurd rfl (h _ _)

noncomputable def treesOf (xs : List Expr) (env : Env) : List (Bool × Sem Value) := xs.map fun x => (false, eval x env)
theorem backTo_plain (pos : Pos) (xs : List Expr) : backTo pos (treesOf xs env) = treesOf xs env := by
  induction xs with
  | nil => rfl
  | cons x xs ih =>
    show (false, _) :: backTo pos (treesOf xs env) = _
    rw [ih]; rfl

theorem mtEs_nil {me : Scope → E → Expr → Bool} {xs : List Expr} (h : mtEs me sc [] xs = true) : xs = [] := by induction xs using List.casesOn with
  | nil => rfl
  | cons _ _ => exact ff h
theorem mtEsE {me : Scope → E → Expr → Bool} {e : E} {es : List E} {xs : List Expr} (h : mtEs me sc (e :: es) xs = true) {P : List Expr → Prop} (k : ∀ x ys, me sc e x = true → mtEs me sc es ys = true → P (x :: ys)) : P xs := by
  induction xs using List.casesOn with
  | nil => exact ff h
  | cons x ys => exact k x ys (and2 h).1 (and2 h).2
theorem mtEs_length {f : Nat} {es : List E} {xs : List Expr} (h : mtEs (mtE f) sc es xs = true) : es.length = xs.length := by
  induction es generalizing xs with
  | nil => rw [mtEs_nil h]; rfl
  | cons e es ih =>
    (apply mtEsE h; clear h; intro x ys _ m)
    exact congrArg (· + 1) (ih m)

theorem starEach_plain {f : Nat} {es : List E} {xs : List Expr} (h : mtEs (mtE f) sc es xs = true) : starEach xs env = treesOf xs env := by
  induction es generalizing xs with
  | nil => rw [mtEs_nil h]; rfl
  | cons e es ih =>
    (apply mtEsE h; clear h; intro x ys m1 m2)
    rw [starEach_one (mtE_not f e x m1).1, ih m2]; rfl
theorem spliced_ok (EV : EvOK C n R) {f : Nat} : ∀ {es : List E} {xs : List Expr} {H : Hp} {vs : List V} {H' : Hp}, mtEs (mtE f) sc es xs = true → evs R es lo H = some (vs, H') → ∀ {s : Shared} {ρ : Rh}, Room n A → St C ρ H s → EnvOK C sc env ρ H s.heap lo →
    RunsL C A (spliced (treesOf xs env)) ρ H s vs H' := by
  intro es
  induction es with
  | nil =>
    intro xs H vs H' hm h s ρ r S X E Q k
    cases mtEs_nil hm
    (revert k; apply sinjE h; clear h; intro k)
    exact wpAny_pure (k _ _ _ S (.refl _ _ _) .nil)
  | cons e es ih =>
    intro xs H vs H' hm h s ρ r S X E Q k
    (apply mtEsE hm; clear hm; intro x ys m1 m2)
    (refine bpE h fun v H1 h1 hh_ => ?_; clear h; revert hh_; intro h)
    (refine bpE h fun ws H2 h2 hh_ => ?_; clear h; revert hh_; intro h)
    (revert k; apply sinjE h; clear h; intro k)
    refine wpAny_bind (EV f sc env e x lo H v H1 m1 h1 A s ρ r S X E _ fun y s₁ ρ₁ S₁ N₁ r₁ => ?_)
    refine wpAny_bind (wpAny_pure (wpAny_bind (wpAny_holding ?_)))
    exact ih m2 h2 r S₁ (X.next S N₁) E _ fun ys s₂ ρ₂ S₂ N₂ r₂ => wpAny_pure (k _ _ _ S₂ (N₁.trans N₂) (.cons (r₁.lasts (N₂.lasts S₁)) r₂))

theorem isGlob_of {g : Str} {x : Expr} (h : isGlob sc g x = true) : ∃ p, x = .Name g p ∧ sc.names.lookup g = some .globalImplicit ∧ (g == ("__debug__" : Str)) = false := by
  have hx := bk_of (and_l h)
  have h2 := and3 (and_r h)
  have e : (pt x).s = g := beq_iff_eq.mp h2.1
  rw [e] at h2
  exact ⟨(pt x).p, e ▸ hx, beq_iff_eq.mp h2.2.1, by simpa using and_l h2.2.2⟩

theorem loadGlob_ok {G : Glo} (K : CfgOK C G) (X : EnvOK C sc env ρ H s.heap lo) (S : St C ρ H s) {g : Str} {v : Value} (hl : sc.names.lookup g = some .globalImplicit) (hv : G.mg g = some v) {E : Value → Shared → Prop} {Q : Value → Shared → Prop} (h : Q v s) :
    wpAny (MM C) A (loadName env g) Q E s :=
  W.ks_loadName_global X.kind (X.glo _ hl) (loadGlobal_global (by rw [X.glob]; exact K.g.keeps S.base) hv h)
theorem loadBlt_ok {G : Glo} (K : CfgOK C G) (X : EnvOK C sc env ρ H s.heap lo) (S : St C ρ H s) {g : Str} {v : Value} (hl : sc.names.lookup g = some .globalImplicit) (hb : g ∈ biNames) (hv : bootBuiltins g = some v) {E : Value → Shared → Prop} {Q : Value → Shared → Prop} (h : Q v s) :
    wpAny (MM C) A (loadName env g) Q E s :=
  W.ks_loadName_global X.kind (X.glo _ hl) (loadGlobal_builtin (by rw [X.glob]; exact K.g.keeps S.base) (K.bi g hb).1 (by rw [X.blt]; exact K.b.keeps S.base) ((K.bi g hb).2.trans hv) h)

theorem St.base_lasts (S : St C ρ H s) : Lasts .nil [] C.base ρ H s.heap where
  ext := List.nil_prefix
  tup := fun a items ⟨o, ho, r⟩ => ⟨o, S.base a o ho, r⟩
  lst := fun a items ⟨o, ho, r⟩ _ => ⟨⟨o, S.base a o ho, r⟩, fun m => by
    rcases m with m | m
    · rw [S.own_new m] at ho; exact nn ho
    · rw [(S.hid a m).2] at ho; exact nn ho⟩

/-! expressions without parts -/
theorem Runs.of {x x' : Expr} {v : V} (hx : x = x') (h : Runs C A (eval x' env) ρ H s v H') : Runs C A (eval x env) ρ H s v H' := hx ▸ h
theorem ev_none {f : Nat} {x : Expr} {v : V} (hm : mtE (f + 1) sc .none x = true) (S : St C ρ H s) : Runs C A (eval x env) ρ H s .none H := by
  rw [(mt_bk hm).1]
  intro E Q k
  exact wpAny_Constant_none (k _ _ _ S (.refl _ _ _) .none)
theorem ev_bool {f : Nat} {x : Expr} {b : Bool} (hm : mtE (f + 1) sc (.bool b) x = true) (S : St C ρ H s) : Runs C A (eval x env) ρ H s (.bool b) H := by
  refine x0a2 (mt_bk hm) fun hx hm => ?_
  rw [hx]
  obtain rfl : b = (pt x).bl := beq_iff_eq.mp hm
  intro E Q k
  exact wpAny_Constant_bool (k _ _ _ S (.refl _ _ _) (.bool _))
theorem ev_num {f : Nat} {x : Expr} {i : Int} (hm : mtE (f + 1) sc (.num i) x = true) (S : St C ρ H s) : Runs C A (eval x env) ρ H s (.int i) H := by
  refine x0a2 (mt_bk hm) fun hx hm => ?_
  rw [hx]
  obtain rfl : i = (pt x).i := beq_iff_eq.mp hm
  intro E Q k
  refine x0a2 (S.grow (s' := { s with toks := s.toks + 1 }) (fun _ _ e => e) rfl rfl) fun S' N => ?_
  exact wpAny_Constant_int (k _ _ _ S' N (.int _ _))
theorem ev_str {f : Nat} {x : Expr} {i : Nat} (hm : mtE (f + 1) sc (.str i) x = true) (S : St C ρ H s) : Runs C A (eval x env) ρ H s (.str i) H := by
  refine x0a2 (mt_bk hm) fun hx hm => ?_
  rw [hx]
  have hm : nm i = (pt x).s := beq_iff_eq.mp hm
  intro E Q k
  refine x0a2 (S.grow (s' := { s with toks := s.toks + 1 }) (fun _ _ e => e) rfl rfl) fun S' N => ?_
  exact wpAny_Constant_str (k _ _ _ S' N (hm ▸ .str _ _))
theorem ev_var {f : Nat} {x : Expr} {i : Nat} {v : V} (hm : mtE (f + 1) sc (.var i) x = true) (hl : lk lo i = some v) (S : St C ρ H s) (X : EnvOK C sc env ρ H s.heap lo) : Runs C A (eval x env) ρ H s v H := by
  obtain ⟨p, rfl, a, b, c⟩ := isVar_of (mt_p hm)
  intro E Q k
  exact wpAny_Name (loadName_ok X a c hl fun y r => k _ _ _ S (.refl _ _ _) r) b
theorem ev_cst {G : Glo} (K : CfgOK C G) {f : Nat} {x : Expr} {i : Nat} {v : V} (hm : mtE (f + 1) sc (.cst i) x = true) (hl : lk C.P.consts i = some v) (S : St C ρ H s) (X : EnvOK C sc env ρ H s.heap lo) : Runs C A (eval x env) ρ H s v H := by
  obtain ⟨p, rfl, a, b, c⟩ := isVar_of (mt_p hm)
  refine x1a2 (K.cst i v hl) fun y hy r => ?_
  intro E Q k
  exact wpAny_Name (loadGlob_ok K X S (beq_iff_eq.mp a) hy (k _ _ _ S (.refl _ _ _) (r.lasts S.base_lasts))) b
end
end Mini
end
section
set_option autoImplicit false
namespace Mini
open PySem PySem.Calls PyProof.Rows
open PySem.W (Frag dictOf Looks findIn typeIn keepIn makesIn plainGet hasDictIn plainOver)

theorem sizeLine_big : sizeLine = 16777216 := rfl
theorem okLen_le {n : Nat} (h : okLen n = true) : n ≤ 100000 := Nat.le_of_ble_eq_true h
theorem okInt_lt {i : Int} (h : okInt i = true) : i.natAbs < 2 ^ 62 := Nat.lt_of_le_of_lt (Nat.le_of_ble_eq_true h) (by decide)
theorem okInt_le {i : Int} (h : okInt i = true) : i.natAbs ≤ 2 ^ 62 := Nat.le_of_lt (okInt_lt h)
set_option tactic.hygienic true in
theorem intBits_le {i : Int} (h : okInt i = true) : Builtin.Int.intBits i ≤ 64 := by
  have h := okInt_le h
  unfold Builtin.Int.intBits
  split
  · lia
  · rename_i hi
    have : i.natAbs ≠ 0 := by
      intro e; apply hi; simp; lia
    have := (Nat.log2_lt this (k := 63)).mpr (Nat.lt_of_le_of_lt h (by decide))
    lia
theorem noPylong {a b : Int} (h : okInt b = true) : Builtin.divisionGoesByPylong a b = false := by
  have h := okInt_le h
  refine PyProof.noPylong_of_log2 ?_
  by_cases e : b.natAbs = 0
  · rw [e]; decide
  · have := (Nat.log2_lt e (k := 63)).mpr (Nat.lt_of_le_of_lt h (by decide))
    lia

section
variable {C : Cfg} {A : Around} {n : Nat} {ρ ρ' : Rh} {H H' : Hp} {s s' : Shared}

theorem Runs.here {v : V} {t : Sem Value} (S : St C ρ H s) (h : ∀ E Q, (∀ x s', VR ρ H s.heap v x → s'.heap = s.heap → s'.gens = s.gens → s'.os = s.os → Q x s') → wpAny (MM C) A t Q E s) : Runs C A t ρ H s v H := fun E Q k =>
  h E Q fun x s' r e1 e2 e3 =>
    have G := S.grow (s' := s') (fun a o e => by rw [e1]; exact e) e2 e3
    k x s' ρ G.1 G.2 (by rw [e1]; exact r)

set_option tactic.hygienic true in
theorem binI_ok (S : St C ρ H s) {op : Bop} {a b r : Int} {t u : Tok} (h : binI op a b = some r) : Runs C A (binaryOp (opOf op) (.int a t) (.int b u)) ρ H s (.int r) H := by
  refine Runs.here S fun E Q k => ?_
  have k' : ∀ tk, Q (.int r tk) { s with toks := s.toks + 1 } := fun tk => k _ _ (.int _ _) rfl rfl rfl
  induction op using Mini.Bop.casesOn <;> simp only [binI] at h
  · cases h; exact add_int (k' _)
  · cases h; exact sub_int (k' _)
  · cases hi : okInt a <;> rw [hi] at h <;> simp at h
    subst h
    exact mul_int (k' _) (IntMulOk.of_left (intBits_le hi))
  · split at h
    · exact nn h
    · rename_i hb
      cases hi : okInt b <;> rw [hi] at h <;> simp at h
      subst h
      exact floordiv_int hb (k' _) (.inl (noPylong hi))
  · split at h
    · exact nn h
    · rename_i hb
      cases h
      exact mod_int' hb (k' _)
  · split at h
    · rename_i hb
      cases hi : okInt a <;> rw [hi] at h <;> simp at h
      subst h
      exact pow_int_small hb.1 (by (clear hi; lia)) (Nat.lt_of_le_of_lt (okInt_le hi) (by decide)) (k' _)
    · exact nn h
  · split at h
    · rename_i hb
      cases hi : okInt a <;> rw [hi] at h <;> simp at h
      subst h
      exact lshift_int_small hb.1 (by (clear hi; lia)) (Nat.lt_of_le_of_lt (okInt_le hi) (by decide)) (k' _)
    · exact nn h
  · split at h
    · rename_i hb
      cases h
      exact rshift_int hb (k' _)
    · exact nn h
  · cases h; exact and_int (k' _)
  · cases h; exact or_int (k' _)
  · cases h; exact xor_int (k' _)

/-- a new tuple, a new list that stays as it is -/
theorem push_tup (S : St C ρ H s) {vs : List V} {xs : Array Value} (r : VRs ρ H s.heap vs xs.toList) {tk : Nat} :
    St C ρ H { s with heap := s.heap.push { cls := .type "tuple", data := .seq xs }, toks := tk } ∧ Nx no ρ H s ρ H { s with heap := s.heap.push { cls := .type "tuple", data := .seq xs }, toks := tk } ∧
      VR ρ H (s.heap.push { cls := .type "tuple", data := .seq xs }) (.tup vs) (.ref s.heap.objs.size) := by
  refine x0a2 (S.grow (s' := { s with heap := s.heap.push { cls := .type "tuple", data := .seq xs }, toks := tk }) (fun a o e => Heap.get?_push_of_some _ e) rfl rfl) fun S' N => ?_
  exact ⟨S', N, .tup ⟨_, Heap.get?_push_size _ rfl, rfl, _, rfl⟩ (r.lasts (N.lasts S))⟩
theorem St.fresh (S : St C ρ H s) : ¬ Own ρ H s.heap.objs.size := fun m => by
  refine x1a2 (S.own_there m) fun o ho _ => ?_
  exact Nat.lt_irrefl _ (Heap.lt_size ho)
theorem St.shy (S : St C ρ H s) : ¬ Shy ρ H s.heap.objs.size := fun m => by
  rcases m with m | m
  · exact S.fresh m
  · obtain ⟨⟨o, ho⟩, _⟩ := S.hid _ m
    exact Nat.lt_irrefl _ (Heap.lt_size ho)
theorem push_lst (S : St C ρ H s) {vs : List V} {xs : Array Value} (r : VRs ρ H s.heap vs xs.toList) {tk : Nat} :
    St C ρ H { s with heap := s.heap.push { cls := .type "list", data := .seq xs }, toks := tk } ∧ Nx no ρ H s ρ H { s with heap := s.heap.push { cls := .type "list", data := .seq xs }, toks := tk } ∧
      VR ρ H (s.heap.push { cls := .type "list", data := .seq xs }) (.lst vs) (.ref s.heap.objs.size) := by
  refine x0a2 (S.grow (s' := { s with heap := s.heap.push { cls := .type "list", data := .seq xs }, toks := tk }) (fun a o e => Heap.get?_push_of_some _ e) rfl rfl) fun S' N => ?_
  exact ⟨S', N, .lst ⟨_, Heap.get?_push_size _ rfl, rfl, _, rfl⟩ S.shy (r.lasts (N.lasts S))⟩

theorem digs_fuel : ∀ (f g n : Nat), n ≤ f → n ≤ g → digs f n = digs g n := by
  intro f
  induction f with
  | zero =>
    intro g n hf hg
    have : n = 0 := Nat.le_zero.mp hf
    subst this
    induction g using Nat.casesAuxOn <;> simp [digs]
  | succ f ih =>
    intro g n hf hg
    by_cases h0 : n = 0
    · subst h0; induction g using Nat.casesAuxOn <;> simp [digs]
    · induction g using Nat.casesAuxOn with
      | zero => (clear hf; lia)
      | succ g =>
        simp only [digs, h0, if_false]
        rw [ih g (n / 256) (by (clear hg h0; lia)) (by (clear h0 hf; lia))]
theorem nmL_zero : nmL 0 = [] := rfl
theorem nmL_pos {n : Nat} (h : n ≠ 0) : nmL n = (n % 256) :: nmL (n / 256) := by
  unfold nmL
  induction n using Nat.casesAuxOn with
  | zero => exact absurd rfl h
  | succ m =>
    simp only [digs, h, if_false]
    rw [digs_fuel m ((m + 1) / 256) ((m + 1) / 256) (by (clear h; lia)) (Nat.le_refl _)]
theorem nmL_cat : ∀ (a b : Nat), nmL (a + b * 256 ^ (nmL a).length) = nmL a ++ nmL b := by
  intro a
  induction a using Nat.strongRecOn with
  | ind a ih =>
    intro b
    by_cases h0 : a = 0
    · subst h0; simp [nmL_zero]
    · have e := nmL_pos h0
      have hl : (nmL a).length = (nmL (a / 256)).length + 1 := by rw [e]; rfl
      have hn : a + b * 256 ^ (nmL a).length ≠ 0 := by (clear hl e; lia)
      have hd : (a + b * 256 ^ (nmL a).length) / 256 = a / 256 + b * 256 ^ (nmL (a / 256)).length := by
        rw [hl, Nat.pow_succ, ← Nat.mul_assoc, Nat.add_mul_div_right _ _ (by decide)]
      have hm : (a + b * 256 ^ (nmL a).length) % 256 = a % 256 := by
        rw [hl, Nat.pow_succ, ← Nat.mul_assoc, Nat.add_mul_mod_self_right]
      rw [nmL_pos hn, hd, hm, ih (a / 256) (by (clear hm hd hn hl e; lia)) b, e]
      rfl
theorem nm_cat (a b : Nat) : nm a ++ nm b = nm (strCat a b) := by
  unfold nm strCat
  rw [nmL_cat]
  show Str.append _ _ = _
  simp [Str.append]
theorem nm_length (a : Nat) : (nm a).length = (nmL a).length := by simp [nm, Str.length]

theorem list_mulW (l : Addr) (items : Array Value) (n : Nat) (x : Int) (u : Tok) (dd : Option Addr) (sl : Array (Option Value)) (hc0 : ¬(!Builtin.List.listFitsIndex x) = true) (hc1 : ¬items.size * x.toNat > (2 ^ 63 - 1) / 8) (hc2 : ¬Builtin.List.listTooLong (items.size * x.toNat) = true) :
    Meets (Builtin.«list.__mul__» ⟨[.ref l, .int x u], []⟩) (fun _ R s => s.heap.get? l = some { cls := .type "list", dict := dd, data := .seq items n, slots := sl } ∧ R (.ok (.ret (Value.ref s.heap.objs.size))) { s with heap := s.heap.push { cls := Value.type "list", data := Data.seq (List.foldl (fun x1 x2 => x1 ++ x2) #[] (List.replicate (if items.isEmpty = true then 0 else x.toNat) items)) }, toks := s.toks }) :=
  .of_wp fun prog w A R s h => by
    obtain ⟨hp, g, d, tk, os⟩ := s; refine x0a2 h fun hl h => ?_
    have hsz := AutoListH.joined_fits hc2
    wp_walk; refine wpAny_ite_false (decide_eq_false (Nat.not_lt.mpr hsz)) ?_; wp_walk; exact ⟨_, rfl, h⟩
theorem int_rmulW (a : Int) (t : Tok) (l : Addr) (items : Array Value) (n : Nat) (dd : Option Addr) (sl : Array (Option Value)) :
    Meets (Builtin.«int.__rmul__» ⟨[.int a t, .ref l], []⟩) (fun _ R s => s.heap.get? l = some { cls := .type "list", dict := dd, data := .seq items n, slots := sl } ∧ R (.ok (.ret Value.notImplemented)) s) :=
  .of_wp fun prog w A R s h => by obtain ⟨hp, g, d, tk, os⟩ := s; refine x0a2 h fun hl h => ?_; wp_walk; exact ⟨_, rfl, h⟩

theorem foldl_replicate {α : Type} (xs : Array α) : ∀ (k : Nat) (acc : Array α), (List.foldl (fun x1 x2 => x1 ++ x2) acc (List.replicate k xs)).toList = acc.toList ++ (List.replicate k xs.toList).flatten
  | 0, acc => by simp
  | k + 1, acc => by rw [List.replicate_succ, List.foldl_cons, foldl_replicate xs k, List.replicate_succ, List.flatten_cons]; simp
theorem VRs.flat {h : Heap} {vs : List V} {xs : List Value} (r : VRs ρ H h vs xs) : ∀ k : Nat, VRs ρ H h (List.replicate k vs).flatten (List.replicate k xs).flatten
  | 0 => .nil
  | k + 1 => by rw [List.replicate_succ, List.replicate_succ, List.flatten_cons, List.flatten_cons]; exact r.append (r.flat k)

theorem list_add_ok (S : St C ρ H s) {l m : List V} {x y : Value} (ha : VR ρ H s.heap (.lst l) x) (hb : VR ρ H s.heap (.lst m) y) (q : okLen (l.length + m.length) = true) : Runs C A (binaryOp .Add x y) ρ H s (.lst (l ++ m)) H := by
  cases ha with
  | @lst a1 _ i1 t1 n1 r1 =>
    cases hb with
    | @lst a2 _ i2 t2 n2 r2 =>
      have hz := okLen_le q
      have z1 := r1.length
      have z2 := r2.length
      obtain ⟨⟨cls, dd, data, sl⟩, ho, rfl, n, rfl⟩ := t1
      obtain ⟨⟨cls2, dd2, data2, sl2⟩, ho2, rfl, n2, rfl⟩ := t2
      intro E Q k
      refine concat_meets ⟨_, ho, rfl⟩ ⟨_, ho2, rfl⟩ noFill_list_add seq_list_add PySem.F.slot_list_add PySem.F.entry_list_add (PySem.F.args_list_add_2 _ _) (list_addW a1 a2 i1 i2 n n2 dd dd2 sl sl2 ?_) ⟨ho, ho2, ?_⟩
      · simp only [Array.length_toList] at z1 z2; rw [sizeLine_big]; (clear ho2 ho n1 q; lia)
      · refine x0a3 (push_lst S (vs := l ++ m) (xs := i1 ++ i2) (by rw [Array.toList_append]; exact r1.append r2) (tk := s.toks)) fun S' N r => ?_
        exact k _ _ _ S' N r
theorem list_mul_ok (S : St C ρ H s) {l : List V} {j : Int} {x y : Value} (ha : VR ρ H s.heap (.lst l) x) (hb : VR ρ H s.heap (.int j) y) (q0 : 0 ≤ j) (q : okLen (l.length * j.toNat) = true) (q2 : j < 100000) :
    Runs C A (binaryOp .Mult x y) ρ H s (.lst ((List.replicate j.toNat l).flatten)) H := by
  cases ha with
  | @lst a1 _ i1 t1 n1 r1 =>
    refine VR.intE hb fun u => ?_
    ·
      have hz := okLen_le q
      have z1 := r1.length
      simp only [Array.length_toList] at z1
      obtain ⟨⟨cls, dd, data, sl⟩, ho, rfl, n, rfl⟩ := t1
      intro E Q k
      refine wpAny_binaryOp_repeat_ref (T := "list") (U := "int") (by decide) ⟨_, ho, rfl⟩ (fun s' => typeIs_int s' j u) noFill_list_mul F.fills_int_mul F.slot_int_rmul repeat_list F.slot_int_index.lookup
        (call_meets F.slot_int_rmul (typeIs_int s j u) F.entry_int_rmul (F.args_int_rmul_2 _ _) (int_rmulW j u a1 i1 n dd sl)
          ⟨ho, rfl, ⟨_, ho, rfl⟩, call_meets F.slot_list_mul ⟨_, ho, rfl⟩ F.entry_list_mul (F.args_list_mul_2 _ _)
            (list_mulW a1 i1 n j u dd sl (by simp [Builtin.List.listFitsIndex]; (clear ho z1 hz n1 q; lia)) (by rw [← z1]; (clear ho z1 n1 q2 q q0; lia)) (by rw [← z1]; simp [Builtin.List.listTooLong, sizeLine]; (clear ho z1 n1 q2 q q0; lia)))
            ⟨ho, ?_⟩⟩)
      refine x0a3 (push_lst S (vs := (List.replicate j.toNat l).flatten) (xs := List.foldl (fun x1 x2 => x1 ++ x2) #[] (List.replicate (if i1.isEmpty = true then 0 else j.toNat) i1)) (by
        rw [foldl_replicate]
        by_cases he : i1.isEmpty = true
        · have : i1 = #[] := by simpa using he
          subst this
          cases r1
          simp; exact .nil
        · rw [if_neg he]; simpa using r1.flat j.toNat) (tk := s.toks)) fun S' N r => ?_
      exact k _ _ _ S' N r
theorem ite_some' {α : Type} {p : Prop} [Decidable p] {x : Option α} {y : α} (h : (if p then x else Option.none) = some y) : p ∧ x = some y := by
  by_cases hp : p
  · exact ⟨hp, by rwa [if_pos hp] at h⟩
  · rw [if_neg hp] at h; exact nn h

theorem binV_ok (S : St C ρ H s) {op : Bop} {a b r : V} {x y : Value} (ha : VR ρ H s.heap a x) (hb : VR ρ H s.heap b y) (h : binV op a b = some r) : Runs C A (binaryOp (opOf op) x y) ρ H s r H := by
  induction a using V.casesOn with
  | int i =>
    (refine bsE h fun j hj hh_ => ?_; clear h; revert hh_; intro h)
    obtain rfl := int?_some hj
    obtain ⟨k, hk, rfl⟩ := map_some h
    refine VR.intE ha fun _ => ?_; refine VR.intE hb fun _ => ?_
    exact binI_ok S hk
  | str i =>
    (refine bsE h fun j hj hh_ => ?_; clear h; revert hh_; intro h)
    obtain rfl := str?_some hj
    obtain ⟨⟨rfl, q1, q2⟩, h9⟩ := ite_some' (p := op = .add ∧ (nmL i).length < 100 ∧ (nmL j).length < 100) (x := some (V.str (strCat i j))) h
    cases h9
    refine VR.strE ha fun _ => ?_; refine VR.strE hb fun _ => ?_
    refine Runs.here S fun E Q k => add_str (fun t' tk => ?_) ?_
    · rw [nm_cat]; exact k _ _ (.str _ _) rfl rfl rfl
    · rw [nm_length, nm_length, sizeLine_big]; (clear h hj; lia)
  | lst l =>
    by_cases ho : op = .add
    · subst ho
      refine bsE (x := V.lst? b) h fun m hj h => ?_
      obtain rfl := lst?_some hj
      (refine itE h fun q hh_ => ?_; clear h; revert hh_; intro h)
      cases h
      exact list_add_ok S ha hb q
    · replace h : (b.int?.bind fun n => if op = .mul ∧ 0 ≤ n ∧ okLen (l.length * n.toNat) ∧ n < 100000 then some (V.lst ((List.replicate n.toNat l).flatten)) else Option.none) = some r := (if_neg ho).symm.trans h
      (refine bsE h fun n hj hh_ => ?_; clear h; revert hh_; intro h)
      obtain rfl := int?_some hj
      obtain ⟨⟨rfl, q0, q, q2⟩, h9⟩ := ite_some' (p := op = .mul ∧ 0 ≤ n ∧ okLen (l.length * n.toNat) ∧ n < 100000) (x := some (V.lst ((List.replicate n.toNat l).flatten))) h
      cases h9
      exact list_mul_ok S ha hb q0 q q2
  | none => exact nn h
  | bool _ => exact nn h
  | tup _ => exact nn h
  | ref _ => exact nn h

/-! comparisons -/
theorem eqV_flat {a b : V} {r : Bool} {H : Hp} (h : eqV H a b = some r) : a.flat = true ∧ b.flat = true ∧ r = V.beq a b := by
  unfold eqV at h
  cases ha : (V.flat a && V.flat b) with
  | false => rw [ha] at h; exact nn h
  | true =>
    rw [ha] at h
    simp only [cond_true, Option.some.injEq] at h
    rw [Bool.and_eq_true] at ha
    exact ⟨ha.1, ha.2, h.symm⟩
end
end Mini
end
section
set_option autoImplicit false
namespace Mini
open PySem PySem.Calls PyProof.Rows
open PySem.W (Frag dictOf Looks findIn typeIn keepIn makesIn plainGet hasDictIn plainOver)

section
variable {C : Cfg} {A : Around} {n : Nat} {ρ ρ' : Rh} {H H' : Hp} {s s' : Shared}

theorem St.ref_obj (S : St C ρ H s) {i : Nat} {o : O} {x : Value} (r : VR ρ H s.heap (.ref i) x) (hi : nth H i = some o) : ∃ p, ρ[i]? = some p ∧ x = .ref p.1 ∧ ObjR C ρ H s.heap p o := by
  cases r with
  | ref e => exact ⟨_, e, rfl, S.objs _ _ _ hi e⟩

theorem eq_flat (S : St C ρ H s) {a b : V} {x y : Value} (ha : VR ρ H s.heap a x) (hb : VR ρ H s.heap b y) (fa : a.flat = true) (fb : b.flat = true) (hu : A.units + 200 < cLine) :
    Runs C A (compareOp .Eq x y) ρ H s (.bool (V.beq a b)) H := by
  refine x1a2 (flat_dep fa) fun i hi hi' => ?_
  refine x1a2 (flat_dep fb) fun j hj hj' => ?_
  refine x1a3 (ha.reads hi) fun as ra la da => ?_
  refine x1a3 (hb.reads hj) fun bs rb lb db => ?_
  refine Runs.here S fun E Q k => SeqAt.compareEq_reads ra rb la lb ?_ ?_
  · have : min (V.py a).depth (V.py b).depth ≤ (V.py a).depth := Nat.min_le_left _ _
    (clear this db lb la hj' hj hi fb fa; lia)
  · rw [beq_py a b (by rw [hi]; rfl) (by rw [hj]; rfl)]
    exact k _ _ (.bool _) rfl rfl rfl
theorem ne_flat (S : St C ρ H s) {a b : V} {x y : Value} (ha : VR ρ H s.heap a x) (hb : VR ρ H s.heap b y) (fa : a.flat = true) (fb : b.flat = true) (hu : A.units + 200 < cLine) :
    Runs C A (compareOp .NotEq x y) ρ H s (.bool (!V.beq a b)) H := by
  refine x1a2 (flat_dep fa) fun i hi hi' => ?_
  refine x1a2 (flat_dep fb) fun j hj hj' => ?_
  refine x1a3 (ha.reads hi) fun as ra la da => ?_
  refine x1a3 (hb.reads hj) fun bs rb lb db => ?_
  refine Runs.here S fun E Q k => SeqAt.compareNe_reads ra rb la lb ?_ ?_
  · have : min (V.py a).depth (V.py b).depth ≤ (V.py a).depth := Nat.min_le_left _ _
    (clear this db lb la hj' hj hi fb fa; lia)
  · rw [beq_py a b (by rw [hi]; rfl) (by rw [hj]; rfl)]
    exact k _ _ (.bool _) rfl rfl rfl

/-! dicts as the library has them -/
theorem findBy_pairs {K : Type} [DecidableEq K] {prog : Program} {w : World} {knd : PySem.KeyKind prog w K} {es : List DictEntry} {xs : List (K × Value)} (p : Pairs knd es xs) (k : K) :
    findBy knd.is es.toArray k = (xs.find? fun x => decide (x.1 = k)).map (·.2) := by
  unfold findBy
  rw [List.find?_toArray]
  induction p with
  | nil => rfl
  | @cons e kv es kvs h1 h2 _ ih =>
    rw [List.find?_cons, List.find?_cons]
    by_cases hk : kv.1 = k
    · subst hk
      rw [h1]; simp [h2]
    · have : knd.is k e.key = false := by
        cases q : knd.is k e.key with
        | false => rfl
        | true => exact absurd (knd.inj _ _ _ h1 q) hk
      rw [this]; simp only [decide_eq_false hk]
      exact ih
theorem mapOf_dict {K : Type} [DecidableEq K] {prog : Program} {w : World} {knd : PySem.KeyKind prog w K} {h : Heap} {a : Addr} {xs : List (K × Value)} (x : h.DictOf knd a xs) : h.MapOf knd a fun k => (xs.find? fun x => decide (x.1 = k)).map (·.2) := by
  obtain ⟨o, es, ep, ho, hx, hd, hk, hp, _⟩ := x
  refine ⟨o, es, ep, ho, hx, hd, hk, fun k => ?_⟩
  have := findBy_pairs hp k
  simpa using this
theorem PR.getI {h : Heap} : ∀ {l : List (Int × V)} {xs : List (Int × Value)}, PR id ρ H h l xs → ∀ k : Int,
    (getI l k = Option.none ∧ (xs.find? fun x => decide (x.1 = k)).map (·.2) = Option.none) ∨ ∃ v y, getI l k = some v ∧ (xs.find? fun x => decide (x.1 = k)).map (·.2) = some y ∧ VR ρ H h v y := by
  intro l xs p
  induction p with
  | nil => intro k; exact .inl ⟨rfl, rfl⟩
  | @cons j v y l l' r _ ih =>
    intro k
    simp only [Mini.getI, List.find?_cons, id]
    by_cases e : k = j
    · subst e; simp; exact r
    · have e' : ¬ j = k := fun q => e q.symm
      simp only [beq_eq_false_iff_ne.mpr e, decide_eq_false e', cond_false]
      exact ih k
theorem PR.getS {h : Heap} : ∀ {l : List (Nat × V)} {xs : List (Str × Value)}, PR nm ρ H h l xs → ∀ k : Nat,
    (lk l k = Option.none ∧ (xs.find? fun x => decide (x.1 = nm k)).map (·.2) = Option.none) ∨ ∃ v y, lk l k = some v ∧ (xs.find? fun x => decide (x.1 = nm k)).map (·.2) = some y ∧ VR ρ H h v y := by
  intro l xs p
  induction p with
  | nil => intro k; exact .inl ⟨rfl, rfl⟩
  | @cons j v y l l' r _ ih =>
    intro k
    rw [lk_cons]
    simp only [List.find?_cons]
    by_cases e : k = j
    · subst e; simp; exact r
    · have e' : ¬ nm j = nm k := fun q => e (nm_inj q).symm
      simp only [if_neg e, decide_eq_false e']
      exact ih k
theorem TR.getT {h : Heap} : ∀ {l : List (V × V)} {xs : List (V × Addr × Value)}, TR ρ H h l xs → ∀ k : V,
    (getT l k = Option.none ∧ atKey xs k = Option.none) ∨ ∃ v a y, getT l k = some v ∧ atKey xs k = some (a, y) ∧ VR ρ H h v y := by
  intro l xs p
  induction p with
  | nil => intro k; exact .inl ⟨rfl, rfl⟩
  | @cons j v a y l l' r _ ih =>
    intro k
    simp only [Mini.getT, same_decide, atKey, List.find?_cons]
    by_cases e : j = k
    · subst e
      refine .inr ⟨v, a, y, by simp, by simp, r⟩
    · simp only [decide_eq_false e, cond_false]
      exact ih k

theorem St.not_sys {G : Glo} (K : CfgOK C G) (S : St C ρ H s) {i : Nat} {p : Addr × Addr} (hp : ρ[i]? = some p) : (p.1 == sysModules) = false := by
  refine beq_eq_false_iff_ne.mpr fun e => ?_
  have h1 := (S.new i p hp).1
  rw [e] at h1
  have := K.sys
  rw [h1] at this; cases this

theorem isInt_is (prog : Program) (w : World) (i : Int) (t : Tok) : (intKind prog w).is i (.int i t) = true := by simp [intKind, Value.isInt]
theorem isStr_is (prog : Program) (w : World) (i : Str) (t : Tok) : (PySem.strKind prog w).is i (.str i t) = true := by simp [PySem.strKind, Value.isStrOf]

theorem notIn_of_in {M : Model} {x c : Value} {E : Value → Shared → Prop} {Q : Value → Shared → Prop} (h : wpAny M A (compareOp .In x c) (fun v s' => ∀ b, v = .bool b → Q (.bool (!b)) s') E s) : wpAny M A (compareOp .NotIn x c) Q E s := fun Γ p hΓ => by
  have h1 := h Γ p hΓ
  have e1 : compareOp .In x c = (contains c x >>= fun b => pure (.bool b)) := rfl
  have e2 : compareOp .NotIn x c = (contains c x >>= fun b => pure (.bool (!b))) := rfl
  rw [e1, Sem.wp_bind'] at h1
  rw [e2, Sem.wp_bind']
  exact Sem.wp_mono M Γ _ (fun b p' s' q => (show ∀ c, Value.bool b = .bool c → Q (.bool (!c)) s' from q) b rfl) (fun _ _ _ q => q) p s h1
theorem Runs.notIn {x y : Value} {r : Bool} (h : Runs C A (compareOp .In x y) ρ H s (.bool r) H') : Runs C A (compareOp .NotIn x y) ρ H s (.bool (!r)) H' := fun E Q k =>
  notIn_of_in (h E _ fun v s' ρ' S' N R b e => by
    subst e
    cases R
    exact k _ _ _ S' N (.bool _))

theorem key_tup {a : V} (h : a.isKey = true) : ∃ l, a = .tup l := by induction a using Mini.V.casesOn <;> first | exact ⟨_, rfl⟩ | cases h
theorem VR.is {a : V} {x : Value} (ha : VR ρ H s.heap a x) (hk : a.isKey = true) : ∃ q, x = .ref q ∧ (vKind C.prog C.w).is s.heap a q := by
  obtain ⟨l, rfl⟩ := key_tup hk
  cases ha with
  | tup t r => exact ⟨_, rfl, hk, (VR.tup t r).kr (isKey_key hk)⟩
theorem has_ok {G : Glo} (K : CfgOK C G) (S : St C ρ H s) {d : Nat} {a : V} {r : Bool} {x y : Value} (ha : VR ρ H s.heap a x) (hb : VR ρ H s.heap (.ref d) y) (h : hasKey H a d = some r) (hu : A.units + 200 < cLine) :
    Runs C A (compareOp .In x y) ρ H s (.bool r) H := by
  (refine bsE h fun o hd hh_ => ?_; clear h; revert hh_; intro h)
  obtain ⟨p, hp, rfl, R⟩ := S.ref_obj hb hd
  have hz := S.not_sys K hp
  induction o using O.casesOn with
  | dI l =>
    obtain ⟨i, hi, rfl⟩ := map_some h
    cases int?_some hi
    obtain ⟨_, xs, D, R⟩ := R
    refine VR.intE ha fun t => ?_
    ·
      refine Runs.here S fun E Q k => wpAny_in_of (isInt_is _ _ _ _) hz (mapOf_dict D) ?_
      rcases R.getI i with ⟨e1, e2⟩ | ⟨v, z, e1, e2, _⟩ <;> (rw [e2]; rw [e1] at k; exact k _ _ (.bool _) rfl rfl rfl)
  | dS l =>
    obtain ⟨i, hi, rfl⟩ := map_some h
    cases str?_some hi
    obtain ⟨_, xs, D, R⟩ := R
    cases ha with
    | str i t =>
      refine Runs.here S fun E Q k => wpAny_in_of (isStr_is _ _ _ _) hz (mapOf_dict D) ?_
      rcases R.getS i with ⟨e1, e2⟩ | ⟨v, z, e1, e2, _⟩ <;> (rw [e2]; rw [e1] at k; exact k _ _ (.bool _) rfl rfl rfl)
  | dT l =>
    (refine itE h fun hk hh_ => ?_; clear h; revert hh_; intro h)
    cases h
    obtain ⟨_, xs, D, R⟩ := R
    obtain ⟨q, rfl, is⟩ := ha.is (C := C) hk
    have rm : (vKind C.prog C.w).room A.in1 := by show A.units + 1 + 60 < cLine; (clear hk hd hz hp; lia)
    refine Runs.here S fun E Q k => wpAny_in_heap rm is hz D ?_
    rcases R.getT a with ⟨e1, e2⟩ | ⟨v, a, z, e1, e2, _⟩ <;> (rw [e2]; rw [e1] at k; exact k _ _ (.bool _) rfl rfl rfl)
  | list _ => cases h
  | inst _ _ => cases h
  | dead => cases h

theorem pys_depth {l : List V} (h : V.flats l = true) {ρ : Rh} {H : Hp} {h₀ : Heap} {xs : List Value} (r : VRs ρ H h₀ l xs) : ∃ as, ReadsAll h₀ xs (V.pys l) as ∧ PyData.canLayAll0 (V.pys l) = true ∧ PyData.depthAll (V.pys l) ≤ 60 := by
  refine x1a2 (flats_dep h) fun n hn h1 => ?_
  refine x1a3 (r.reads hn) fun as a b c => ?_
  exact ⟨as, a, b, Nat.le_trans c h1⟩

theorem mem_ok {G : Glo} (K : CfgOK C G) (S : St C ρ H s) {a b : V} {r : Bool} {x y : Value} (ha : VR ρ H s.heap a x) (hb : VR ρ H s.heap b y) (h : memV H a b = some r) (hu : A.units + 200 < cLine) :
    Runs C A (compareOp .In x y) ρ H s (.bool r) H := by
  by_cases hr : ∃ d, b = .ref d
  · obtain ⟨d, rfl⟩ := hr
    exact has_ok K S ha hb h hu
  · have h : ((items b).bind fun l => bif a.flat && V.flats l then some (l.any fun y => V.beq y a) else Option.none) = some r := by
      induction b using Mini.V.casesOn <;> first | exact h | exact absurd ⟨_, rfl⟩ hr
    (refine bsE h fun l hl hh_ => ?_; clear h; revert hh_; intro h)
    (refine itE h fun hk hh_ => ?_; clear h; revert hh_; intro h)
    cases h
    refine x0a2 (and2 hk) fun f1 f2 => ?_
    refine x1a2 (flat_dep f1) fun i hi hi' => ?_
    refine x1a3 (ha.reads hi) fun bs rb lb db => ?_
    have hdep : ∀ {as : List V}, PyData.depthAll (V.pys as) ≤ 60 → A.units + min (PyData.depthAll (V.pys as)) (V.py a).depth + 100 < cLine := fun {as} q => by
      have := Nat.min_le_left (PyData.depthAll (V.pys as)) (V.py a).depth
      (clear this q lb hi f2 f1 h hk hl hr; lia)
    rcases items_some hl with rfl | rfl
    · cases hb with
      | tup t rr =>
        refine x1a3 (pys_depth f2 rr) fun as ra la da => ?_
        refine t5 t fun o ho hc m hd => ?_
        refine Runs.here S fun E Q k => SeqAt.in_tuple_reads (.tuple ho hc hd ra) rb la lb (by have := hdep da; (clear this hd hc ho da la h hl hr lb hi f2 f1 hk; lia)) ?_
        rw [any_py f2 f1]; exact k _ _ (.bool _) rfl rfl rfl
    · cases hb with
      | lst t _ rr =>
        refine x1a3 (pys_depth f2 rr) fun as ra la da => ?_
        refine t5 t fun o ho hc m hd => ?_
        refine Runs.here S fun E Q k => SeqAt.in_list_reads (.list ho hc hd ra) rb la lb (by have := hdep da; (clear this hd hc ho da la h hl hr lb hi f2 f1 hk; lia)) ?_
        rw [any_py f2 f1]; exact k _ _ (.bool _) rfl rfl rfl

theorem eq_ok (S : St C ρ H s) {a b : V} {r : Bool} {x y : Value} (ha : VR ρ H s.heap a x) (hb : VR ρ H s.heap b y) (h : eqV H a b = some r) (hu : A.units + 200 < cLine) :
    Runs C A (compareOp .Eq x y) ρ H s (.bool r) H ∧ Runs C A (compareOp .NotEq x y) ρ H s (.bool (!r)) H := by
  obtain ⟨fa, fb, rfl⟩ := eqV_flat h
  exact ⟨eq_flat S ha hb fa fb hu, ne_flat S ha hb fa fb hu⟩

theorem ints2_ok {a b : V} {f : Int → Int → Bool} {r : Bool} (h : ints2 a b f = some r) : ∃ i j, a = .int i ∧ b = .int j ∧ r = f i j := by
  (refine bsE h fun i hi hh_ => ?_; clear h; revert hh_; intro h)
  (refine msE h fun j hj hh_ => ?_; clear h; revert hh_; intro h)
  exact ⟨i, j, int?_some hi, int?_some hj, h.symm⟩

theorem cop_ok {G : Glo} (K : CfgOK C G) (S : St C ρ H s) {o : Cop} {a b : V} {r : Bool} {x y : Value} (ha : VR ρ H s.heap a x) (hb : VR ρ H s.heap b y) (h : cop o H a b = some r) (hu : A.units + 200 < cLine) :
    Runs C A (compareOp (copOf o) x y) ρ H s (.bool r) H := by
  induction o using Mini.Cop.casesOn
  · exact (eq_ok S ha hb h hu).1
  · obtain ⟨r', h', rfl⟩ := map_some h
    exact (eq_ok S ha hb h' hu).2
  · obtain ⟨i, j, rfl, rfl, rfl⟩ := ints2_ok h
    cases ha; cases hb
    exact Runs.here S fun E Q k => PyProof.Rows.lt_int (k _ _ (.bool _) rfl rfl rfl)
  · obtain ⟨i, j, rfl, rfl, rfl⟩ := ints2_ok h
    cases ha; cases hb
    exact Runs.here S fun E Q k => P.le_int (k _ _ (.bool _) rfl rfl rfl)
  · obtain ⟨i, j, rfl, rfl, rfl⟩ := ints2_ok h
    cases ha; cases hb
    exact Runs.here S fun E Q k => PyProof.Rows.gt_int (k _ _ (.bool _) rfl rfl rfl)
  · obtain ⟨i, j, rfl, rfl, rfl⟩ := ints2_ok h
    cases ha; cases hb
    exact Runs.here S fun E Q k => P.ge_int (k _ _ (.bool _) rfl rfl rfl)
  · exact mem_ok K S ha hb h hu
  · obtain ⟨r', h', rfl⟩ := map_some h
    exact (mem_ok K S ha hb h' hu).notIn
  · (refine itE h fun hn hh_ => ?_; clear h; revert hh_; intro h)
    cases none_of hn
    cases h
    cases hb
    refine Runs.here S fun E Q k => ?_
    cases ha with
    | none => exact wpAny_is_self rfl (k _ _ (.bool _) rfl rfl rfl)
    | _ => exact wpAny_is_other rfl (by intro e; cases e) (k _ _ (.bool _) rfl rfl rfl)
  · (refine itE h fun hn hh_ => ?_; clear h; revert hh_; intro h)
    cases none_of hn
    cases h
    cases hb
    refine Runs.here S fun E Q k => ?_
    cases ha with
    | none => exact wpAny_isNot_self rfl (k _ _ (.bool _) rfl rfl rfl)
    | _ => exact wpAny_isNot_other rfl (by intro e; cases e) (k _ _ (.bool _) rfl rfl rfl)
end
end Mini
end
section
set_option autoImplicit false
namespace Mini
open PySem PySem.Calls PyProof.Rows
open PySem.W (Frag dictOf Looks findIn typeIn keepIn makesIn plainGet hasDictIn plainOver)

section
variable {C : Cfg} {sc : Scope} {env : Env} {lo : Lo} {A : Around} {R : Sems} {n : Nat} {f : Nat} {ρ ρ' : Rh} {H H' : Hp} {s s' : Shared}

theorem evalEach_cons (x : Expr) (xs : List Expr) : evalEach (x :: xs) env = eval x env :: evalEach xs env := rfl

theorem ev_or (EV : EvOK C n R) (pos : Pos) : ∀ {l : List E} {xs : List Expr} {H : Hp} {v : V} {H' : Hp}, mtEs (mtE f) sc l xs = true → evOr R l lo H = some (v, H') → ∀ {s : Shared} {ρ : Rh}, Room n A → St C ρ H s → EnvOK C sc env ρ H s.heap lo →
    Runs C A (boolOp pos .Or (evalEach xs env)) ρ H s v H' := by
  intro l
  induction l with
  | nil => intro xs H v H' hm h; exact nn h
  | cons e es ih =>
    intro xs H v H' hm h s ρ r S X
    (apply mtEsE hm; clear hm; intro x xs m1 m2)
    induction es using List.casesOn with
    | nil =>
      cases mtEs_nil m2
      exact EV f sc env e x lo H v H' m1 h A s ρ r S X
    | cons e' es =>
      (have hm_ := m2; revert m2; apply mtEsE hm_; clear hm_; intro x' xs _ _ m2)
      obtain ⟨⟨w, H1⟩, h1, h⟩ := bind_some (x := R.ev e lo H) h
      (refine bsE h fun b hb hh_ => ?_; clear h; revert hh_; intro h)
      obtain rfl := bool?_some hb
      intro E Q k
      refine wpAny_bind (EV f sc env e x lo H _ H1 m1 h1 A s ρ r S X E _ fun y s₁ ρ₁ S₁ N₁ r₁ => ?_)
      refine wpAny_bind (wpAny_standAt (wpAny_bind (wpAny_holding ?_)))
      refine VR.boolE r₁ ?_
      refine wpAny_truthy_bool ?_
      induction b using Bool.casesOn with
      | false => exact ih m2 h r S₁ (X.next S N₁) E Q fun z s₂ ρ₂ S₂ N₂ r₂ => k z s₂ ρ₂ S₂ (N₁.trans N₂) r₂
      | true =>
        (refine x0a2 (sinj h) fun e1_ e2_ => ?_; clear h; subst e1_; subst e2_)
        exact wpAny_pure (k _ _ _ S₁ N₁ (.bool _))
theorem tr_all_or (TR : TrOK C n R) : ∀ {l : List E} {xs : List Expr} {H : Hp} {b : Bool} {H' : Hp}, mtEs (mtE f) sc l xs = true → evOr R l lo H = some (.bool b, H') → ∀ {s : Shared} {ρ : Rh}, Room n A → St C ρ H s → EnvOK C sc env ρ H s.heap lo →
    RunsB C A (allTrue .Or xs env) ρ H s b H' := by
  intro l
  induction l with
  | nil => intro xs H v H' hm h; exact nn h
  | cons e es ih =>
    intro xs H b H' hm h s ρ r S X E Q k
    (apply mtEsE hm; clear hm; intro x xs m1 m2)
    show wpAny (MM C) A (isTrue x env (eval x env) >>= _) Q E s
    induction es using List.casesOn with
    | nil =>
      cases mtEs_nil m2
      refine wpAny_bind (TR f sc env e x lo H b H' m1 h A s ρ r S X E _ fun s₁ ρ₁ S₁ N₁ => ?_)
      induction b using Bool.casesOn <;> exact wpAny_pure (k _ _ S₁ N₁)
    | cons e' es =>
      obtain ⟨⟨w, H1⟩, h1, h⟩ := bind_some (x := R.ev e lo H) h
      (refine bsE h fun c hb hh_ => ?_; clear h; revert hh_; intro h)
      obtain rfl := bool?_some hb
      refine wpAny_bind (TR f sc env e x lo H c H1 m1 h1 A s ρ r S X E _ fun s₁ ρ₁ S₁ N₁ => ?_)
      induction c using Bool.casesOn with
      | false => exact ih m2 h r S₁ (X.next S N₁) E Q fun s₂ ρ₂ S₂ N₂ => k s₂ ρ₂ S₂ (N₁.trans N₂)
      | true =>
        cases h
        exact wpAny_pure (k _ _ S₁ N₁)

/-! chains of comparisons -/
theorem not_marked {x : Expr} {e : E} (h : mtE f sc e x = true) (op : CmpOp) : behindInMarks op x = false := by
  have := (mtE_not f e x h).2.1
  induction x using PySem.Expr.casesOn <;> first | rfl | exact absurd rfl (this _ _ _)
theorem marked_plain {es : List E} {xs : List Expr} (h : mtEs (mtE f) sc es xs = true) : ∀ {ops : List CmpOp}, markedEach ops xs (evalEach xs env) = evalEach xs env := by
  induction es generalizing xs with
  | nil => intro ops; cases mtEs_nil h; induction ops using List.casesOn with
    | nil => rfl
    | cons _ ops => induction ops using List.casesOn <;> rfl
  | cons e es ih =>
    intro ops
    (apply mtEsE h; clear h; intro x ys m1 m2)
    induction ops using List.casesOn with
    | nil => rfl
    | cons op ops =>
      have step : eval x env :: markedEach ops ys (evalEach ys env) = eval x env :: evalEach ys env := congrArg _ (ih m2)
      induction ops using List.casesOn with
      | cons _ _ => exact step
      | nil => induction ys using List.casesOn with
        | cons _ _ => exact step
        | nil =>
          show [markedBehindIn op x (eval x env)] = _
          unfold markedBehindIn
          rw [not_marked m1 op]; rfl

theorem evCmp_bool : ∀ {os : List Cop} {l : List E} {H : Hp} {a v : V} {H' : Hp}, evCmp R a os l lo H = some (v, H') → ∃ b, v = .bool b := by
  intro os
  induction os with
  | nil => intro l H a v H' h; induction l using List.casesOn <;> exact nn h
  | cons o os ih =>
    intro l H a v H' h
    induction l using List.casesOn with
    | nil => exact nn h
    | cons e es =>
      (refine bpE h fun w H1 h1 hh_ => ?_; clear h; revert hh_; intro h)
      (refine bsE h fun b h2 hh_ => ?_; clear h; revert hh_; intro h)
      revert h
      cases b && !es.isEmpty with
      | true => exact fun h => ih h
      | false => intro h; (refine x0a2 (sinj h) fun e1_ e2_ => ?_; clear h; subst e1_; subst e2_); exact ⟨b, rfl⟩

theorem ev_chain {G : Glo} (K : CfgOK C G) (EV : EvOK C n R) (pos : Pos) : ∀ {os : List Cop} {l : List E} {xs : List Expr} {H : Hp} {a v : V} {H' : Hp} {x : Value}, os.length = l.length → mtEs (mtE f) sc l xs = true → evCmp R a os l lo H = some (v, H') →
    ∀ {s : Shared} {ρ : Rh}, Room n A → St C ρ H s → EnvOK C sc env ρ H s.heap lo → VR ρ H s.heap a x →
    Runs C A (compareChain pos x (os.map copOf) (evalEach xs env)) ρ H s v H' ∧ ∀ b, v = .bool b → RunsB C A (testChain pos x (os.map copOf) (evalEach xs env)) ρ H s b H' := by
  intro os
  induction os with
  | nil => intro l xs H a v H' x hl hm h; induction l using List.casesOn <;> exact nn h
  | cons o os ih =>
    intro l xs H a v H' x hl hm h s ρ r S X ra
    induction l using List.casesOn with
    | nil => cases hl
    | cons e es =>
      (apply mtEsE hm; clear hm; intro y ys m1 m2)
      (refine bpE h fun w H1 h1 hh_ => ?_; clear h; revert hh_; intro h)
      (refine bsE h fun b h2 hh_ => ?_; clear h; revert hh_; intro h)
      have hl := Nat.succ.inj hl
      have go : ∀ {α : Type} {E : Value → Shared → Prop} {Q : α → Shared → Prop} {t : Value → Sem α} (_ : ∀ z s₁ ρ₁, St C ρ₁ H1 s₁ → Nx no ρ H s ρ₁ H1 s₁ → VR ρ₁ H1 s₁.heap w z → Runs C A (compareOp (copOf o) x z) ρ₁ H1 s₁ (.bool b) H1 → wpAny (MM C) A (t z) Q E s₁),
          wpAny (MM C) A (do let rv ← holding [x] (eval y env); standAt pos; t rv) Q E s := fun k =>
        wpAny_bind (wpAny_holding (EV f sc env e y lo H w H1 m1 h1 A s ρ r S X _ _ fun z s₁ ρ₁ S₁ N₁ r₁ => wpAny_bind (wpAny_standAt (k z s₁ ρ₁ S₁ N₁ r₁ (cop_ok K S₁ (ra.lasts (N₁.lasts S)) r₁ h2 r.units)))))
      induction es using List.casesOn with
      | nil =>
        cases mtEs_nil m2
        cases List.eq_nil_of_length_eq_zero hl
        have h : some (V.bool b, H1) = some (v, H') := by induction b using Bool.casesOn <;> exact h
        (refine x0a2 (sinj h) fun e1_ e2_ => ?_; clear h; subst e1_; subst e2_)
        refine ⟨fun E Q k => ?_, fun b' eb E Q k => ?_⟩
        · refine go fun z s₁ ρ₁ S₁ N₁ r₁ c => wpAny_operateT ?_
          exact c E Q fun u s₂ ρ₂ S₂ N₂ r₂ => k u s₂ ρ₂ S₂ (N₁.trans N₂) r₂
        · cases eb
          refine go fun z s₁ ρ₁ S₁ N₁ r₁ c => wpAny_bind (wpAny_operateT ?_)
          refine c E _ fun u s₂ ρ₂ S₂ N₂ r₂ => ?_
          refine VR.boolE r₂ ?_
          exact wpAny_holding (wpAny_truthy_bool (k s₂ ρ₂ S₂ (N₁.trans N₂)))
      | cons e' es =>
        (have hm_ := m2; revert m2; apply mtEsE hm_; clear hm_; intro y' ys _ _ m2)
        induction os using List.casesOn with
        | nil => cases hl
        | cons o' os =>
          refine ⟨fun E Q k => ?_, fun b' eb E Q k => ?_⟩
          · refine go fun z s₁ ρ₁ S₁ N₁ r₁ c => wpAny_bind (wpAny_holding ?_)
            refine c E _ fun u s₂ ρ₂ S₂ N₂ r₂ => ?_
            refine VR.boolE r₂ ?_
            refine wpAny_bind (wpAny_release (wpAny_bind (wpAny_holding (wpAny_truthy_bool ?_))))
            induction b using Bool.casesOn with
            | true => exact (ih hl m2 h r S₂ ((X.next S N₁).next S₁ N₂) (r₁.lasts (N₂.lasts S₁))).1 E Q fun q s₃ ρ₃ S₃ N₃ r₃ => k q s₃ ρ₃ S₃ ((N₁.trans N₂).trans N₃) r₃
            | false =>
              (refine x0a2 (sinj h) fun e1_ e2_ => ?_; clear h; subst e1_; subst e2_)
              exact wpAny_pure (k _ s₂ ρ₂ S₂ (N₁.trans N₂) (.bool _))
          · refine go fun z s₁ ρ₁ S₁ N₁ r₁ c => wpAny_bind (wpAny_holding ?_)
            refine c E _ fun u s₂ ρ₂ S₂ N₂ r₂ => ?_
            refine VR.boolE r₂ ?_
            refine wpAny_bind (wpAny_release (wpAny_bind (wpAny_holding (wpAny_truthy_bool ?_))))
            induction b using Bool.casesOn with
            | true => exact (ih hl m2 h r S₂ ((X.next S N₁).next S₁ N₂) (r₁.lasts (N₂.lasts S₁))).2 b' eb E Q fun s₃ ρ₃ S₃ N₃ => k s₃ ρ₃ S₃ ((N₁.trans N₂).trans N₃)
            | false =>
              (refine x0a2 (sinj h) fun e1_ e2_ => ?_; clear h; subst e1_; subst e2_)
              cases eb
              exact wpAny_pure (k s₂ ρ₂ S₂ (N₁.trans N₂))
end
end Mini
end
section
set_option autoImplicit false
namespace Mini
open PySem PySem.Calls PyProof.Rows
open PySem.W (Frag dictOf Looks findIn typeIn keepIn makesIn plainGet hasDictIn plainOver)

section
variable {C : Cfg} {sc : Scope} {env : Env} {lo : Lo} {A : Around} {R : Sems} {n : Nat} {f : Nat} {ρ ρ' : Rh} {H H' : Hp} {s s' : Shared}

/-- a new object of the run's own, at places where nothing was -/
theorem St.mk' (S : St C ρ H s) {o : O} {p : Addr × Addr} (h1 : s.heap.get? p.1 = none) (h2 : s.heap.get? p.2 = none) (k : ∀ a x, s.heap.get? a = some x → s'.heap.get? a = some x)
    (hpz : (∃ o, s'.heap.get? p.1 = some o) ∧ ∃ o, s'.heap.get? p.2 = some o) (hg : s'.gens = s.gens) (hos : s'.os = s.os) (hR : Lasts ρ H s.heap (ρ ++ [p]) (H ++ [o]) s'.heap → ObjR C (ρ ++ [p]) (H ++ [o]) s'.heap p o) :
    St C (ρ ++ [p]) (H ++ [o]) s' ∧ Nx no ρ H s (ρ ++ [p]) (H ++ [o]) s' ∧ (ρ ++ [p])[H.length]? = some p := by
  have F1 := S.freshAt h1
  have F2 := S.freshAt h2
  obtain ⟨S', L⟩ := S.app (s' := s') (o := o) (p := p) ⟨F1.own, F2.own⟩ (fun i q e => ⟨(F1.ne i q e).1.symm, (F1.ne i q e).2.symm, (F2.ne i q e).1.symm, (F2.ne i q e).2.symm⟩) ⟨F1.base, F2.base⟩ ⟨fun _ t => x1a2 t fun _ ho _ => none_ne h1 ho rfl, fun _ t => x1a2 t fun _ ho _ => none_ne h2 ho rfl⟩
    ⟨fun _ t => x1a2 t fun _ ho _ => none_ne h1 ho rfl, fun _ t => x1a2 t fun _ ho _ => none_ne h2 ho rfl⟩ (fun a x _ _ e => k a x e) hpz ⟨F1.z, F2.z⟩ hg hos hR
  refine ⟨S', ⟨by rw [Rh.app_l]; exact List.prefix_append _ _, rfl, fun a x e _ _ => k a x e, fun a m => ?_, fun a x e => ⟨x, k a x e⟩, fun _ _ x => x.elim, fun i q e => ?_⟩, ?_⟩
  · rcases own_app S.len m with m | e | e
    · exact .inl m
    · exact .inr (e ▸ h1)
    · exact .inr (e ▸ h2)
  · rw [Rh.at_, Rh.app_l] at e
    rcases Nat.lt_or_ge i ρ.l.length with hj | hj
    · rw [List.getElem?_append_left hj] at e; exact .inl e
    · rw [List.getElem?_append_right hj] at e
      rcases Nat.eq_zero_or_pos (i - ρ.l.length) with z | z
      · rw [z] at e; simp at e; subst e; exact .inr ⟨h1, h2⟩
      · rw [List.getElem?_eq_none (by simp only [List.length_cons, List.length_nil]; (clear hj e hR hos hg hpz h2 h1; lia))] at e; exact nn e
  · rw [← S.len, Rh.at_, Rh.app_l]; simp
theorem get?_end (h : Heap) : h.get? h.objs.size = none := by
  cases e : h.get? h.objs.size with
  | none => rfl
  | some o => exact absurd (Heap.lt_size e) (Nat.lt_irrefl _)
theorem ev_not (EV : EvOK C n R) {a : E} {x : Expr} {v : V} (hm : mtE (f + 1) sc (.not a) x = true) (h : evStep C.P R (.not a) lo H = some (v, H')) (r : Room n A) (S : St C ρ H s) (X : EnvOK C sc env ρ H s.heap lo) : Runs C A (eval x env) ρ H s v H' := by
  have hx := mt_bk hm
  refine bpE h fun w H1 h1 h2 => ?_
  refine msE h2 fun b hb h3 => ?_
  rw [bool?_some hb] at h1
  exact .of (x' := .UnaryOp .Not (pt x).a (pt x).p) hx.1 (.eq h3 fun E Q k => wpAny_UnaryOp (EV f sc env a (pt x).a lo H _ _ hx.2 h1 A s ρ r S X E _ fun z s₁ ρ₁ S₁ N₁ r₁ => VR.boolE r₁ (not_value (wpAny_truthy_bool (k _ _ _ S₁ N₁ (.bool _))))))

theorem ev_neg (EV : EvOK C n R) {a : E} {x : Expr} {v : V} (hm : mtE (f + 1) sc (.neg a) x = true) (h : evStep C.P R (.neg a) lo H = some (v, H')) (r : Room n A) (S : St C ρ H s) (X : EnvOK C sc env ρ H s.heap lo) : Runs C A (eval x env) ρ H s v H' := by
  have hx := mt_bk hm
  refine bpE h fun w H1 h1 h2 => ?_
  refine msE h2 fun b hb h3 => ?_
  rw [int?_some hb] at h1
  refine .of (x' := .UnaryOp .USub (pt x).a (pt x).p) hx.1 (.eq h3 fun E Q k => wpAny_UnaryOp (EV f sc env a (pt x).a lo H _ _ hx.2 h1 A s ρ r S X E _ fun z s₁ ρ₁ S₁ N₁ r₁ => ?_))
  refine VR.intE r₁ fun t => ?_
  have G := S₁.grow (s' := { s₁ with toks := s₁.toks + 1 }) (fun _ _ e => e) rfl rfl
  exact neg_int (k _ _ _ G.1 (N₁.trans G.2) (.int _ _))

theorem ev_bin (EV : EvOK C n R) {op : Bop} {a b : E} {x : Expr} {v : V} (hm : mtE (f + 1) sc (.bin op a b) x = true)
    (h : evStep C.P R (.bin op a b) lo H = some (v, H'))
    (r : Room n A) (S : St C ρ H s) (X : EnvOK C sc env ρ H s.heap lo) : Runs C A (eval x env) ρ H s v H' := by
  have hx := mt_bk hm
  have m := and3 hx.2
  refine bpE h fun u H1 h1 ha => ?_
  refine bpE ha fun w H2 h2 hb => ?_
  refine msE hb fun t h3 h4 => ?_
  refine .of (x' := .BinOp (pt x).a (opOf op) (pt x).b (pt x).p) ((beq_iff_eq.mp m.1 : (pt x).op = opOf op) ▸ hx.1) (.eq h4 fun E Q k => ?_)
  refine wpAny_BinOp (EV f sc env a (pt x).a lo H u H1 m.2.1 h1 A s ρ r S X E _ fun x1 s₁ ρ₁ S₁ N₁ r₁ => ?_)
  refine EV f sc env b (pt x).b lo H1 w _ m.2.2 h2 A s₁ ρ₁ r S₁ (X.next S N₁) E _ fun x2 s₂ ρ₂ S₂ N₂ r₂ => ?_
  exact binV_ok S₂ (r₁.lasts (N₂.lasts S₁)) r₂ h3 E Q fun x3 s₃ ρ₃ S₃ N₃ r₃ => k x3 s₃ ρ₃ S₃ ((N₁.trans N₂).trans N₃) r₃

theorem ev_ite (EV : EvOK C n R) (TR : TrOK C n R) {c a b : E} {x : Expr} {v : V} (hm : mtE (f + 1) sc (.ite c a b) x = true)
    (h : evStep C.P R (.ite c a b) lo H = some (v, H'))
    (r : Room n A) (S : St C ρ H s) (X : EnvOK C sc env ρ H s.heap lo) : Runs C A (eval x env) ρ H s v H' := by
  have hx := mt_bk hm
  have m := and3 hx.2
  refine bpE h fun u H1 h1 ha => ?_
  refine bsE ha fun t ht h => ?_
  rw [bool?_some ht] at h1
  refine .of (x' := .IfExp (pt x).a (pt x).b (pt x).c (pt x).p) hx.1 fun E Q k => ?_
  refine wpAny_IfExp (TR f sc env c (pt x).a lo H t H1 m.1 h1 A s ρ r S X E _ fun s₁ ρ₁ S₁ N₁ => ?_)
  induction t using Bool.casesOn with
  | true => exact EV f sc env a (pt x).b lo H1 v H' m.2.1 h A s₁ ρ₁ r S₁ (X.next S N₁) E Q fun x2 s₂ ρ₂ S₂ N₂ r₂ => k x2 s₂ ρ₂ S₂ (N₁.trans N₂) r₂
  | false => exact EV f sc env b (pt x).c lo H1 v H' m.2.2 h A s₁ ρ₁ r S₁ (X.next S N₁) E Q fun x2 s₂ ρ₂ S₂ N₂ r₂ => k x2 s₂ ρ₂ S₂ (N₁.trans N₂) r₂

theorem ev_tup (EV : EvOK C n R) {l : List E} {x : Expr} {v : V} (hm : mtE (f + 1) sc (.tup l) x = true)
    (h : evStep C.P R (.tup l) lo H = some (v, H'))
    (r : Room n A) (S : St C ρ H s) (X : EnvOK C sc env ρ H s.heap lo) : Runs C A (eval x env) ρ H s v H' := by
  have hx := mt_bk hm
  refine bpE h fun vs H1 h1 ha => ?_
  refine itE ha fun hk hb => ?_
  refine .of (x' := .Tuple (pt x).l (pt x).n (pt x).p) hx.1 (.eqs hb fun E Q k => ?_)
  refine wpAny_Tuple ?_
  rw [starEach_plain hx.2, backTo_plain]
  refine spliced_ok EV hx.2 h1 r S X E _ fun ys s₁ ρ₁ S₁ N₁ r₁ => ⟨?_, ?_⟩
  · rw [← r₁.length]; exact Nat.le_trans (okLen_le hk) (by decide)
  · have G := push_tup S₁ (xs := ys.toArray) (show VRs ρ₁ H1 s₁.heap vs ys.toArray.toList from r₁) (tk := s₁.toks)
    exact k _ _ _ G.1 (N₁.trans G.2.1) G.2.2

theorem ev_list (EV : EvOK C n R) {m : Bool} {l : List E} {x : Expr} {v : V} (hm : mtE (f + 1) sc (.list m l) x = true)
    (h : evStep C.P R (.list m l) lo H = some (v, H'))
    (r : Room n A) (S : St C ρ H s) (X : EnvOK C sc env ρ H s.heap lo) : Runs C A (eval x env) ρ H s v H' := by
  have hx := mt_bk hm
  (refine bpE h fun vs H1 h1 hh_ => ?_; clear h; revert hh_; intro h)
  (refine itE h fun hk hh_ => ?_; clear h; revert hh_; intro h)
  refine .of (x' := .List (pt x).l (pt x).p) hx.1 fun E Q k => ?_
  refine wpAny_List ?_
  rw [starEach_plain hx.2, backTo_plain]
  refine spliced_ok EV hx.2 h1 r S X E _ fun ys s₁ ρ₁ S₁ N₁ r₁ => ⟨?_, ?_⟩
  · rw [← r₁.length]; exact Nat.le_trans (okLen_le hk) (by decide)
  · have r₁ : VRs ρ₁ H1 s₁.heap vs ys.toArray.toList := r₁
    induction m using Bool.casesOn with
    | false =>
      refine x0a2 (sinj h) fun e1 e2 => ?_
      rw [← e1, ← e2] at k
      have G := push_lst S₁ (xs := ys.toArray) r₁ (tk := s₁.toks)
      exact k _ _ _ G.1 (N₁.trans G.2.1) G.2.2
    | true =>
      refine x0a2 (sinj h) fun e1 e2 => ?_
      rw [← e1, ← e2] at k
      obtain ⟨S', N, e⟩ := S₁.mk' (o := .list vs) (p := (s₁.heap.objs.size, s₁.heap.objs.size)) (s' := { s₁ with heap := s₁.heap.push { cls := .type "list", data := .seq ys.toArray } }) (get?_end _) (get?_end _) (fun a o e => Heap.get?_push_of_some _ e) ⟨⟨_, Heap.get?_push_size _ rfl⟩, _, Heap.get?_push_size _ rfl⟩ rfl rfl
        (fun L => ⟨rfl, ys.toArray, ⟨_, Heap.get?_push_size _ rfl⟩, r₁.lasts L⟩)
      exact k _ _ _ S' (N₁.trans N) (.ref (p := (s₁.heap.objs.size, s₁.heap.objs.size)) e)

/-! parts of things -/
theorem sub_any {A : Around} {E : Value → Shared → Prop} {s : Shared} {Q : Value → Shared → Prop} {prog : Program} {w : World} {value slice : Expr} {o i : Value} {T id : String} {p : Pos}
    (hns : ∀ l u t p, slice ≠ .Slice l u t p) (hl : typeLookup (.type T) "__getitem__" = pure (some (.builtin id))) (hT : s.TypeIs o T) (hg : wpAny (model prog w) A (getItem o i) Q E s) :
    wpAny (model prog w) A (do standAt p; let r ← subscripted slice (← getitemInPython o) o i; letTemporaryGo value o r; pure r) Q E s := by
  refine wpAny_bind (wpAny_standAt (wpAny_bind ?_))
  rw [getitemInPython_of_ne hT.not_modules]
  refine wpAny_bind (wpAny_specialOf hT hl ?_)
  have fin : wpAny (model prog w) A (operate [o, i] (getItem o i)) (fun r s₃ => wpAny (model prog w) A (letTemporaryGo value o r >>= fun _ => pure r) Q E s₃) E s :=
    wpAny_operating (wpAny_mono hg (fun r s₃ h₃ => wpAny_bind (wpAny_letTemporaryGo (wpAny_pure h₃))) fun _ _ x => x)
  have es : subscripted slice false o i = operate [o, i] (getItem o i) := by
    unfold subscripted
    induction slice using PySem.Expr.casesOn <;> first | rfl | exact absurd rfl (hns _ _ _ _)
  refine wpAny_pure (wpAny_bind ?_)
  rw [es]; exact fin

set_option tactic.hygienic true in
theorem idx_some {i : Int} {n j : Nat} (h : idx i n = some j) : i.natAbs ≤ 2 ^ 62 ∧ ((0 ≤ i ∧ j = i.toNat ∧ j < n) ∨ (i < 0 ∧ -(n : Int) ≤ i ∧ j = (i + n).toNat)) := by
  unfold idx at h
  cases hi : okInt i with
  | false => rw [hi] at h; exact nn h
  | true =>
    rw [hi] at h
    simp only [cond_true] at h
    refine ⟨okInt_le hi, ?_⟩
    split at h
    · rename_i h0
      split at h
      · rename_i h1
        cases h; exact .inl ⟨h0, rfl, h1⟩
      · exact nn h
    · split at h
      · exact nn h
      · cases h; exact .inr ⟨by (clear hi; lia), by (clear hi; lia), rfl⟩
theorem idx_seq {i : Int} {n j : Nat} (h : idx i n = some j) : seqIndex? i n = some j ∨ n ≤ j := by
  obtain ⟨_, h | h⟩ := idx_some h
  · refine .inl ?_
    unfold seqIndex?
    obtain ⟨a, rfl, c⟩ := h
    have e : ¬ i < 0 := by (clear c h; lia)
    simp only [e, if_false]
    rw [if_pos (by simp only [Bool.and_eq_true, decide_eq_true_eq]; (clear e h; lia))]
  · exact .inl (by rw [PySem.seqIndex_neg h.1 h.2.1, h.2.2])

theorem list_idx {l : Addr} {items : Array Value} {k : Int} {t : Tok} {j : Nat} {x : Value} {E : Value → Shared → Prop} {Q : Value → Shared → Prop} (hl : s.heap.IsList l items) (hi : idx k items.size = some j) (hx : items[j]? = some x) (h : Q x s) :
    wpAny (MM C) A (getItem (.ref l) (.int k t)) Q E s := by
  obtain ⟨h0, ⟨a, rfl, b⟩ | ⟨a, b, rfl⟩⟩ := idx_some hi
  · exact wpAny_getItem_list hl a (by (clear b hx hi a; lia)) hx h
  · exact wpAny_getItem_list_neg hl a b (by (clear hx hi b a; lia)) hx h

theorem list_getitem : typeLookup (.type "list") "__getitem__" = pure (some (.builtin "list.__getitem__")) := list_getitem_lookup
theorem tuple_getitem : typeLookup (.type "tuple") "__getitem__" = pure (some (.builtin "tuple.__getitem__")) := PyProof.Rows.slot_tuple_getitem.lookup
theorem dict_getitem : typeLookup (.type "dict") "__getitem__" = pure (some (.builtin "dict.__getitem__")) := PySem.slot_dict_getitem.lookup

theorem list_sub (S : St C ρ H s) {l : Addr} {items : Array Value} {vs : List V} {k : Int} {tk : Tok} {j : Nat} {v : V} (t : s.heap.IsList l items) (r : VRs ρ H s.heap vs items.toList) (hj : idx k vs.length = some j) (h : vs[j]? = some v) : Runs C A (getItem (.ref l) (.int k tk)) ρ H s v H := by
  refine x1a2 (r.get h) fun z hz rz => ?_
  rw [r.length] at hj
  exact Runs.here S fun E Q kk => list_idx t (by simpa using hj) (by simpa using hz) (kk _ _ rz rfl rfl rfl)
/-- a subscript whose slot is known -/
structure SubOK (C : Cfg) (A : Around) (ρ : Rh) (H : Hp) (s : Shared) (x y : Value) (v : V) (T id : String) : Prop where
  l : typeLookup (.type T) "__getitem__" = pure (some (.builtin id))
  t : s.TypeIs x T
  r : Runs C A (getItem x y) ρ H s v H
theorem sub_obj (S : St C ρ H s) {b v : V} {y : Value} {p : Addr × Addr} (hb : VR ρ H s.heap b y) (hu : A.units + 200 < cLine)  {ob : O} (O : ObjR C ρ H s.heap p ob) (h : subO ob b = some v) : ∃ T id, SubOK C A ρ H s (.ref p.1) y v T id := by
  cases ob with
  | list l =>
    refine x1a2 O.2 fun items t r => ?_
    (refine bsE h fun k hk hh_ => ?_; clear h; revert hh_; intro h)
    (refine bsE h fun j hj hh_ => ?_; clear h; revert hh_; intro h)
    rw [int?_some hk] at hb
    exact VR.intE hb fun _ => ⟨_, _, list_getitem, t.isList.typeIs, list_sub S t.isList r hj h⟩
  | dI l =>
    refine x1a2 O.2 fun xs D r => ?_
    (refine bsE h fun k hk hh_ => ?_; clear h; revert hh_; intro h)
    rw [int?_some hk] at hb
    refine VR.intE hb fun _ => ?_
    rcases r.getI k with ⟨e1, _⟩ | ⟨v', z, e1, e2, rz⟩
    · cases e1.symm.trans h
    · rw [Option.some.inj (e1.symm.trans h)] at rz
      exact ⟨_, _, dict_getitem, (mapOf_dict D).typeIs, Runs.here S fun E Q k => wpAny_getItem_of (isInt_is _ _ _ _) (mapOf_dict D) e2 (k _ _ rz rfl rfl rfl)⟩
  | dS l =>
    refine x1a2 O.2 fun xs D r => ?_
    (refine bsE h fun k hk hh_ => ?_; clear h; revert hh_; intro h)
    rw [str?_some hk] at hb
    refine VR.strE hb fun _ => ?_
    rcases r.getS k with ⟨e1, _⟩ | ⟨v', z, e1, e2, rz⟩
    · cases e1.symm.trans h
    · rw [Option.some.inj (e1.symm.trans h)] at rz
      exact ⟨_, _, dict_getitem, (mapOf_dict D).typeIs, Runs.here S fun E Q k => wpAny_getItem_of (isStr_is _ _ _ _) (mapOf_dict D) e2 (k _ _ rz rfl rfl rfl)⟩
  | dT l =>
    refine x1a2 O.2 fun xs D r => ?_
    (refine itE h fun hk hh_ => ?_; clear h; revert hh_; intro h)
    refine x1a2 (hb.is (C := C) hk) fun q e' is => ?_
    rw [e']
    have rm : (vKind C.prog C.w).room A.in1 := by show A.units + 1 + 60 < cLine; clear h hk is; lia
    rcases r.getT b with ⟨e1, _⟩ | ⟨v', a, z, e1, e2, rz⟩
    · cases e1.symm.trans h
    · rw [Option.some.inj (e1.symm.trans h)] at rz
      exact ⟨_, _, dict_getitem, D.typeIs, Runs.here S fun E Q k => wpAny_getItem_heap rm is D e2 (k _ _ rz rfl rfl rfl)⟩
  | inst _ _ => exact nn h
  | dead => exact nn h
theorem sub_items {a b : V} (hr : a.ref? = Option.none) {v : V} (h : subV H a b = some v) : ((items a).bind fun l => b.int?.bind fun k => (idx k l.length).bind fun j => l[j]?) = some v := by induction a using Mini.V.casesOn <;> first | exact h | cases hr
theorem subV_ok {a b v : V} {x y : Value} (ha : VR ρ H s.heap a x) (hb : VR ρ H s.heap b y) (S : St C ρ H s) (h : subV H a b = some v) (hu : A.units + 200 < cLine) : ∃ T id, SubOK C A ρ H s x y v T id := by
  cases hr : a.ref? with
  | some d =>
    rw [ref?_some hr] at ha h
    (refine bsE h fun ob hn hh_ => ?_; clear h; revert hh_; intro h)
    refine x1a3 (S.ref_obj ha hn) fun p hp e RR => ?_
    rw [e]
    exact sub_obj S hb hu RR h
  | none =>
    refine bsE (sub_items hr h) fun l hl h1 => ?_
    refine bsE h1 fun k hk h2 => ?_
    refine bsE h2 fun j hj hf => ?_
    rw [int?_some hk] at hb
    refine VR.intE hb fun tk => ?_
    rcases items_some hl with e | e
    · rw [e] at ha
      refine VR.tupE ha fun {_ _} t r => ?_
      refine x1a2 (r.get hf) fun z hz rz => ?_
      have ti : PyProof.Rows.IsTup s.heap _ _ := t
      refine ⟨_, _, tuple_getitem, ti.typeIs, Runs.here S fun E Q k => ?_⟩
      rw [r.length] at hj
      have hs := (idx_seq hj).resolve_right (Nat.not_le.mpr (List.getElem?_eq_some_iff.mp hz).1)
      have hb := (idx_some hj).1
      exact PyProof.Rows.getItem_tuple ti (by clear hs hz hf hj hu h1 h2 h; lia) (by clear hs hz hf hj hu h1 h2 h; lia) hs (x := z) (by simpa using hz) (k _ _ rz rfl rfl rfl)
    · rw [e] at ha
      exact VR.lstE ha fun {_ _} t _ r => ⟨_, _, list_getitem, t.typeIs, list_sub S t r hj hf⟩

theorem ev_sub (EV : EvOK C n R) {o i : E} {x : Expr} {v : V} (hm : mtE (f + 1) sc (.sub o i) x = true)
    (h : evStep C.P R (.sub o i) lo H = some (v, H'))
    (r : Room n A) (S : St C ρ H s) (X : EnvOK C sc env ρ H s.heap lo) : Runs C A (eval x env) ρ H s v H' := by
  have hx := mt_bk hm
  have hm := and2 hx.2
  refine bpE h fun u H1 h1 ha => ?_
  refine bpE ha fun w H2 h2 hb => ?_
  refine msE hb fun t h3 h4 => ?_
  refine .of (x' := .Subscript (pt x).a (pt x).b (pt x).p) hx.1 (.eq h4 fun E Q k => ?_)
  rw [eval_Subscript]
  refine wpAny_bind (EV f sc env o (pt x).a lo H u H1 hm.1 h1 A s ρ r S X E _ fun x1 s₁ ρ₁ S₁ N₁ r₁ => ?_)
  refine wpAny_bind (wpAny_holding (EV f sc env i (pt x).b lo H1 w _ hm.2 h2 A s₁ ρ₁ r S₁ (X.next S N₁) E _ fun x2 s₂ ρ₂ S₂ N₂ r₂ => ?_))
  refine x2a1 (subV_ok (r₁.lasts (N₂.lasts S₁)) r₂ S₂ h3 r.units) fun T id G => ?_
  exact sub_any (mtE_not f i (pt x).b hm.2).2.2 G.l G.t (G.r E Q fun x3 s₃ ρ₃ S₃ N₃ r₃ => k x3 s₃ ρ₃ S₃ ((N₁.trans N₂).trans N₃) r₃)
end
end Mini
end
section
set_option autoImplicit false
namespace Mini
open PySem PySem.Calls PyProof.Rows
open PySem.W (Frag dictOf Looks findIn typeIn keepIn makesIn plainGet hasDictIn plainOver getL)

section
variable {C : Cfg} {sc : Scope} {env : Env} {lo : Lo} {A : Around} {R : Sems} {n : Nat} {f : Nat} {ρ ρ' : Rh} {H H' : Hp} {s s' : Shared}

/-! slices -/
inductive PartR : Option Int → Value → Prop
  | none : PartR Option.none .none
  | int (i : Int) (t : Tok) : PartR (some i) (.int i t)
theorem PartR.part {o : Option Int} {v : Value} (p : PartR o v) : IsPart v o := by cases p <;> constructor

theorem opt_ok (EV : EvOK C n R) {e : Option E} {x : Option Expr} {o : Option Int} (hm : mtOpt (mtE f) sc e x = true) (h : evOpt R e lo H = some (o, H')) (r : Room n A) (S : St C ρ H s) (X : EnvOK C sc env ρ H s.heap lo)
    {E : Value → Shared → Prop} {Q : Value → Shared → Prop} (k : ∀ y s' ρ', St C ρ' H' s' → Nx no ρ H s ρ' H' s' → PartR o y → Q y s') : wpAny (MM C) A (evalPart x env) Q E s := by
  induction e using Option.casesOn with
  | none =>
    induction x using Option.casesOn with
    | none =>
      (revert k; apply sinjE h; clear h; intro k)
      exact wpAny_pure (k _ _ _ S (.refl _ _ _) .none)
    | some x => exact ff hm
  | some e =>
    induction x using Option.casesOn with
    | none => exact ff hm
    | some x =>
      (refine bpE h fun v H1 h1 hh_ => ?_; clear h; revert hh_; intro h)
      (refine bsE h fun i hi hh_ => ?_; clear h; revert hh_; intro h)
      obtain rfl := int?_some hi
      (refine itE h fun _ hh_ => ?_; clear h; revert hh_; intro h)
      (revert k; apply sinjE h; clear h; intro k)
      refine EV f sc env e x lo H _ _ hm h1 A s ρ r S X E _ fun y s₁ ρ₁ S₁ N₁ r₁ => ?_
      refine VR.intE r₁ fun _ => ?_
      exact k _ _ _ S₁ N₁ (.int _ _)

theorem tup_applied {sl : Addr} {m : Nat} {vl vu : Value} {lo hi : Option Int} {E : Value → Shared → Prop} {Q : Int × Int × Nat → Shared → Prop} (hs : s.heap.IsSliceOf sl vl vu .none)
    (pl : PartR lo vl) (pu : PartR hi vu) (h : Q ((Builtin.Slice.sliceAdjust lo hi 1 m).1, 1, Builtin.Slice.slicePlaces (Builtin.Slice.sliceAdjust lo hi 1 m).1 (Builtin.Slice.sliceAdjust lo hi 1 m).2 1) s) :
    wpAny (MM C) A (Builtin.Slice.sliceApplied (.ref sl) (pure (m : Int))) Q E s := by
  refine x1a3 (id hs) fun os hos hcs hds => ?_
  unfold Builtin.Slice.sliceApplied Builtin.Slice.sliceFields
  refine wpAny_bind (wpAny_bind (wpAny_field hos hds (x := vl) rfl (wpAny_bind (wpAny_field hos hds (x := vu) rfl (wpAny_bind (wpAny_field hos hds (x := .none) rfl (wpAny_pure ?_)))))))
  refine wpAny_bind (slicePart_none ?_)
  show wpAny _ _ (if ((1 : Int) == 0) = true then _ else _) _ _ s
  rw [if_neg (by decide)]
  have part : ∀ {o : Option Int} {v : Value} {Q : Option Int → Shared → Prop}, PartR o v → Q o s → wpAny (MM C) A (Builtin.Slice.slicePartIndex v) Q E s := fun p h => by
    cases p with
    | none => exact slicePart_none h
    | int i t => exact slicePart_int h
  exact wpAny_bind (part pl (wpAny_bind (part pu (wpAny_bind (wpAny_pure (wpAny_pure h))))))

set_option tactic.hygienic true in
/-- where a slice begins and how much it takes -/
theorem adjusted {l l' : List V} {lo hi : Option Int} (hl : sliceL l lo hi = some l') : ∃ a c : Nat, l.length ≤ 100000 ∧ a + c ≤ l.length ∧ l' = (l.drop a).take c ∧
    (Builtin.Slice.sliceAdjust lo hi 1 l.length).1 = (a : Int) ∧ Builtin.Slice.slicePlaces (Builtin.Slice.sliceAdjust lo hi 1 l.length).1 (Builtin.Slice.sliceAdjust lo hi 1 l.length).2 1 = c := by
  unfold sliceL at hl
  split at hl
  · rename_i b
    split at hl
    · rename_i hb
      cases hl
      obtain ⟨b, rfl⟩ := Int.eq_ofNat_of_zero_le hb.1
      have e : Builtin.Slice.sliceAdjust Option.none (some (b : Int)) 1 l.length = (0, ((min b l.length : Nat) : Int)) := by
        unfold Builtin.Slice.sliceAdjust
        have h1 : ¬ ((1 : Int) < 0) := by (clear hb; lia)
        have h2 : ¬ ((b : Int) < 0) := by (clear h1 hb; lia)
        simp only [h1, h2, if_false]
        congr 1
        (clear h2 h1 hb; lia)
      refine ⟨0, min b l.length, okLen_le hb.2, by (clear e hb; lia), ?_, by rw [e]; rfl, ?_⟩
      · simp
      · rw [e]
        unfold Builtin.Slice.slicePlaces
        have h1 : (1 : Int) > 0 := by (clear e hb; lia)
        simp only [h1, if_true, Int.ediv_one]
        split <;> lia
    · exact nn hl
  · rename_i a
    split at hl
    · rename_i hb
      cases hl
      obtain ⟨a, rfl⟩ := Int.eq_ofNat_of_zero_le hb.1
      have e : Builtin.Slice.sliceAdjust (some (a : Int)) Option.none 1 l.length = (((min a l.length : Nat) : Int), (l.length : Int)) := by
        unfold Builtin.Slice.sliceAdjust
        have h1 : ¬ ((1 : Int) < 0) := by (clear hb; lia)
        have h2 : ¬ ((a : Int) < 0) := by (clear h1 hb; lia)
        simp only [h1, h2, if_false]
        congr 1
        (clear h2 h1 hb; lia)
      refine ⟨min a l.length, l.length - min a l.length, okLen_le hb.2, by (clear e hb; lia), ?_, by rw [e], ?_⟩
      · rw [List.take_of_length_le (by simp)]
        rcases Nat.le_total a l.length with q | q
        · rw [Nat.min_eq_left q]; rfl
        · rw [Nat.min_eq_right q, List.drop_of_length_le (Nat.le_refl _), List.drop_of_length_le (by simpa using q)]
      · rw [e]
        unfold Builtin.Slice.slicePlaces
        have h1 : (1 : Int) > 0 := by (clear e hb; lia)
        simp only [h1, if_true, Int.ediv_one]
        split <;> lia
    · exact nn hl
  · exact nn hl

set_option tactic.hygienic true in
theorem slice_pick {h : Heap} {l l' : List V} {items : Array Value} {lo hi : Option Int} (r : VRs ρ H h l items.toList) (hl : sliceL l lo hi = some l') : VRs ρ H h l' (slicePick items lo hi Option.none).toList := by
  unfold sliceL at hl
  split at hl
  · rename_i b
    split at hl
    · rename_i hb
      cases hl
      obtain ⟨b, rfl⟩ := Int.eq_ofNat_of_zero_le hb.1
      rw [slicePick_upto']; simpa using r.take b
    · exact nn hl
  · rename_i b
    split at hl
    · rename_i hb
      cases hl
      obtain ⟨b, rfl⟩ := Int.eq_ofNat_of_zero_le hb.1
      rw [slicePick_from']; simpa using r.drop b
    · exact nn hl
  · exact nn hl

theorem pick_part (xs : Array Value) (a c : Nat) : ((List.range c).filterMap fun (k : Nat) => xs[((a : Int) + (k : Int) * 1).toNat]?).toArray = ((xs.toList.drop a).take c).toArray := by
  have e : (fun (k : Nat) => xs[((a : Int) + (k : Int) * 1).toNat]?) = fun k => xs[a + k]? := by
    funext k
    have : ((a : Int) + (k : Int) * 1).toNat = a + k := by lia
    rw [this]
  rw [e]
  have := pick_run xs a c
  rw [List.filterMap_map] at this
  have e2 : ((fun x => xs[x]?) ∘ fun x => a + x) = fun k => xs[a + k]? := rfl
  rw [e2] at this
  rw [this]

set_option tactic.hygienic true in
theorem tuple_slice {t sl : Addr} {items : Array Value} {vl vu : Value} {lo hi : Option Int} {E : Value → Shared → Prop} {Q : Value → Shared → Prop} (ht : s.heap.IsTuple t items) (hs : s.heap.IsSliceOf sl vl vu .none)
    (pl : PartR lo vl) (pu : PartR hi vu) {l' : List V} {l : List V} (r : VRs ρ H s.heap l items.toList) (hl : sliceL l lo hi = some l')
    (h1 : VR ρ H s.heap (.tup l') (.ref t) → Q (.ref t) s)
    (h : ∀ xs : Array Value, VRs ρ H s.heap l' xs.toList → Q (.ref s.heap.objs.size) { s with heap := s.heap.push { cls := .type "tuple", data := .seq xs } }) : wpAny (MM C) A (getItem (.ref t) (.ref sl)) Q E s := by
  obtain ⟨a, c, hz, hac, rfl, e1, e2⟩ := adjusted hl
  have hlen := r.length
  simp only [Array.length_toList] at hlen
  have ht' : PyProof.Rows.IsTup s.heap t items := ht
  refine x1a3 (id hs) fun os hos hcs hds => ?_
  have hTs : s.TypeIs (.ref sl) "slice" := ⟨os, hos, hcs⟩
  unfold getItem
  try with_reducible refine wpAny_holding ?_
  first | refine wpAny_bind (wpAny_pure ?_) | skip
  refine wpAny_bind (wpAny_sequenceKey ht'.typeIs (by decide) ?_)
  refine wpAny_bind (wpAny_callSpecial?_slot (name := Str.ofString "__getitem__") ht'.typeIs PyProof.Rows.slot_tuple_getitem
    (wpAny_call_entry PyProof.Rows.slot_tuple_getitem ht'.typeIs entry_tuple_getitem ?_ (args_tuple_getitem _ _)))
  show wpAny _ _ (Builtin.Tuple.tupleItemsOf (.ref t) >>= _) _ _ s
  refine wpAny_bind (tupleItemsOf_ ht' ?_)
  refine wpAny_bind (wpAny_typeOf hTs ?_)
  rw [if_pos (by decide)]
  rw [hlen] at e1 e2
  refine wpAny_bind (tup_applied (m := items.size) hs pl pu ?_)
  rw [e2, e1]
  show wpAny _ _ (if ((a : Int) == 0 && (1 : Int) == 1 && c == items.size) = true then _ else _) _ _ s
  have hsz : sizeOk (.seq ((items.toList.drop a).take c).toArray) := by
    show ((items.toList.drop a).take c).toArray.size ≤ sizeLine
    rw [List.size_toArray, List.length_take, List.length_drop, Array.length_toList, sizeLine_big]
    (clear hds hcs hos hlen e2 e1 h1 hl; lia)
  split
  · rename_i hw
    simp only [Bool.and_eq_true, beq_iff_eq] at hw
    obtain ⟨⟨ha, _⟩, rfl⟩ := hw
    have ha : a = 0 := by (clear e2 h1 hl hac hds hcs hos hlen e1 hz; lia)
    subst ha
    have hwhole : (List.drop 0 l).take items.size = l := by rw [List.drop_zero, List.take_of_length_le (by (clear h1 hl hac ha e1 e2 hds hcs hos hz; lia))]
    rw [hwhole] at h1
    have q := h1 (.tup ht r)
    refine wpAny_bind (wpAny_bind (wpAny_typeOf ht'.typeIs (wpAny_pure ?_)))
    rw [if_pos (by decide)]
    exact wpAny_bind (wpAny_rule (wpAny_pure ⟨_, rfl, wpAny_pure q⟩))
  · rw [pick_part]
    have hq : ∀ (tk : Nat), _ := fun _ : Nat => h ((items.toList.drop a).take c).toArray (by simpa using (r.drop a).take c)
    first
      | exact wpAny_bind (m := Builtin.Tuple.tupleExact _) (wpAny_newObj_type (wpAny_pure ⟨_, rfl, wpAny_pure (hq 0)⟩) hsz)
      | exact wpAny_bind (m := Builtin.Tuple.tupleExact _) (wpAny_newObj_type (wpAny_bind (wpAny_pure (wpAny_pure ⟨_, rfl, wpAny_pure (hq 0)⟩))) hsz)
      | exact wpAny_bind (wpAny_bind (m := Builtin.Tuple.tupleExact _) (wpAny_newObj_type (wpAny_pure (wpAny_pure ⟨_, rfl, wpAny_pure (hq 0)⟩)) hsz))
      | exact wpAny_bind (wpAny_bind (m := Builtin.Tuple.tupleExact _) (wpAny_newObj_type (wpAny_pure ⟨_, rfl, wpAny_pure (hq 0)⟩) hsz))

theorem slice_any {A : Around} {E : Value → Shared → Prop} {s : Shared} {Q : Value → Shared → Prop} {prog : Program} {w : World} {value : Expr} {o i : Value} {T id : String} {p p' : Pos} {lw up : Option Expr}
    (hl : typeLookup (.type T) "__getitem__" = pure (some (.builtin id))) (hT : s.TypeIs o T) (hg : wpAny (model prog w) A (getItem o i) Q E s) :
    wpAny (model prog w) A (do standAt p; let r ← subscripted (.Slice lw up Option.none p') (← getitemInPython o) o i; letTemporaryGo value o r; pure r) Q E s := by
  refine wpAny_bind (wpAny_standAt (wpAny_bind ?_))
  rw [getitemInPython_of_ne hT.not_modules]
  refine wpAny_bind (wpAny_specialOf hT hl ?_)
  have fin : wpAny (model prog w) A (operate [i, o] (getItem o i)) (fun r s₃ => wpAny (model prog w) A (letTemporaryGo value o r >>= fun _ => pure r) Q E s₃) E s :=
    wpAny_operating (wpAny_mono hg (fun r s₃ h₃ => wpAny_bind (wpAny_letTemporaryGo (wpAny_pure h₃))) fun _ _ x => x)
  exact wpAny_pure (wpAny_bind fin)

theorem sliceL_len {l l' : List V} {lo hi : Option Int} (hl : sliceL l lo hi = some l') : l.length ≤ 100000 := (adjusted hl).elim fun _ h => h.elim fun _ h => h.1
theorem ev_slice (EV : EvOK C n R) {o : E} {a b : Option E} {x : Expr} {v : V} (hm : mtE (f + 1) sc (.slice o a b) x = true)
    (h : evStep C.P R (.slice o a b) lo H = some (v, H'))
    (r : Room n A) (S : St C ρ H s) (X : EnvOK C sc env ρ H s.heap lo) : Runs C A (eval x env) ρ H s v H' := by
  have hx := mt_bk hm
  refine x0a2 (and2 hx.2) fun hb hm => ?_
  refine x0a3 (and3 hm) fun m0 m1 m2 => ?_
  have hb := bk_of hb
  (refine bpE h fun u H1 h1 hh_ => ?_; clear h; revert hh_; intro h)
  (refine bpE h fun c H2 h2 hh_ => ?_; clear h; revert hh_; intro h)
  (refine bpE h fun d H3 h3 hh_ => ?_; clear h; revert hh_; intro h)
  (refine bsE h fun l h4 hh_ => ?_; clear h; revert hh_; intro h)
  (refine msE h fun l' h5 hh_ => ?_; clear h; revert hh_; intro h)
  (refine pinjE h ?_; clear h)
  refine .of (x' := .Subscript (pt x).a (.Slice (pt (pt x).b).o1 (pt (pt x).b).o2 Option.none (pt (pt x).b).p) (pt x).p) (hx.1.trans (congrArg (fun z => Expr.Subscript (pt x).a z (pt x).p) hb)) fun E Q k => ?_
  rw [eval_Subscript]
  refine wpAny_bind (EV f sc env o (pt x).a lo H u H1 m0 h1 A s ρ r S X E _ fun x1 s₁ ρ₁ S₁ N₁ r₁ => ?_)
  refine wpAny_bind (wpAny_holding (wpAny_Slice ?_))
  refine opt_ok EV m1 h2 r S₁ (X.next S N₁) fun x2 s₂ ρ₂ S₂ N₂ p₂ => ?_
  refine opt_ok EV m2 h3 r S₂ ((X.next S N₁).next S₁ N₂) fun x3 s₃ ρ₃ S₃ N₃ p₃ => ?_
  rw [evalPart_none]
  refine wpAny_pure ?_
  refine x0a2 (S₃.grow (s' := { s₃ with heap := s₃.heap.push { cls := .type "slice", data := .fields #[x2, x3, .none] } }) (fun a o e => Heap.get?_push_of_some _ e) rfl rfl) fun S' N => ?_
  have r₁' := ((r₁.lasts (N₂.lasts S₁)).lasts (N₃.lasts S₂)).lasts (N.lasts S₃)
  have NN := ((N₁.trans N₂).trans N₃).trans N
  have hsl := Heap.IsSliceOf.new s₃.heap x2 x3 .none
  rcases items_some h4 with rfl | rfl
  · cases r₁' with
    | tup t rr =>
      refine slice_any tuple_getitem (PyProof.Rows.IsTup.typeIs (show PyProof.Rows.IsTup _ _ _ from t)) ?_
      refine tuple_slice t hsl p₂ p₃ rr h5 (fun rv => k _ _ _ S' NN rv) fun xs rx => ?_
      refine x0a3 (push_tup S' rx (tk := s₃.toks)) fun S'' N' r' => ?_
      exact k _ _ _ S'' (NN.trans N') r'
  · cases r₁' with
    | lst t nn rr =>
      refine slice_any list_getitem t.typeIs ?_
      have hlen := rr.length
      simp only [Array.length_toList] at hlen
      have hl3 := sliceL_len h5
      refine wpAny_getItem_list_slice t hsl p₂.part p₃.part .none (by simp) ?_ (by rw [sizeLine_big]; lia)
      refine x0a3 (push_lst S' (slice_pick rr h5) (tk := s₃.toks)) fun S'' N' r' => ?_
      exact k _ _ _ S'' (NN.trans N') r'
/-! attributes -/
theorem AR.get {h : Heap} : ∀ {l : List (Nat × V)} {es : List DictEntry}, AR ρ H h l es → ∀ {a : Nat} {v : V}, lk l a = some v → ∃ x, getL (nm a) es = some (some x) ∧ VR ρ H h v x := by
  intro l es r
  induction r with
  | nil => intro a v e; exact nn e
  | @cons j v x hs t l l' r _ ih =>
    intro a u e
    rw [lk_cons] at e
    unfold getL
    simp only [List.find?_cons]
    have ek : (⟨hs, .str (nm j) t, x⟩ : DictEntry).key.isStr (nm a) = Nat.beq j a := beq_nm j a
    rw [ek, natBeq]
    by_cases q : a = j
    · subst q
      rw [if_pos rfl] at e; cases e
      exact ⟨x, by simp, r⟩
    · rw [if_neg q] at e
      refine x1a2 (ih e) fun y e1 r1 => ?_
      refine ⟨y, ?_, r1⟩
      have q' : ¬ j = a := fun z => q z.symm
      simp only [decide_eq_false q']
      unfold getL at e1
      revert e1
      cases hf : List.find? (fun x => x.key.isStr (nm a)) l' with
      | some e => exact id
      | none =>
        simp only
        intro e1
        split at e1 <;> simp at e1

theorem AR.no {h : Heap} : ∀ {l : List (Nat × V)} {es : List DictEntry}, AR ρ H h l es → ∀ {a : Nat}, lk l a = Option.none → getL (nm a) es = some Option.none := by
  intro l es r
  have noref : es.any (·.refKey) = false := by
    induction r with
    | nil => rfl
    | cons _ _ ih => simp only [List.any_cons, ih, Bool.or_false]; rfl
  intro a e
  have nf : es.find? (·.key.isStr (nm a)) = Option.none := by
    clear noref
    induction r with
    | nil => rfl
    | @cons j v x hs t l l' r _ ih =>
      rw [lk_cons] at e
      simp only [List.find?_cons]
      have ek : (⟨hs, .str (nm j) t, x⟩ : DictEntry).key.isStr (nm a) = Nat.beq j a := beq_nm j a
      rw [ek, natBeq]
      by_cases q : a = j
      · subst q; rw [if_pos rfl] at e; cases e
      · rw [if_neg q] at e
        have q' : ¬ j = a := fun z => q z.symm
        simp only [decide_eq_false q']
        exact ih e
  unfold getL
  rw [nf]
  simp only [noref]
  rfl

theorem VR.handed {h : Heap} {v : V} {x : Value} (r : VR ρ H h v x) : W.handedIn x = true := by cases r <;> rfl

theorem base_plain {o : Expr} {name : Str} (h : notSuper o = true) : attributeBase o name env (eval o env) = eval o env := by
  cases o with
  | Call g as ks p =>
    cases g with
    | Name id q =>
      induction as using List.casesOn with
      | nil => induction ks using List.casesOn with
        | nil => exact ff h
        | cons _ _ => rfl
      | cons _ _ => rfl
    | _ => rfl
  | _ => rfl

theorem St.inst (S : St C ρ H s) {r : Nat} {c : Nat} {l : List (Nat × V)} (hn : nth H r = some (.inst c l)) {p : Addr × Addr} (hp : ρ[r]? = some p) :
    ∃ es nn, AR ρ H s.heap l es ∧ s.heap.get? p.2 = some (dictOf es nn) ∧ p.1 ≠ p.2 ∧ PySem.W.InstAt s.heap p.1 ⟨.ref (C.cls c), some p.2, .plain, #[]⟩ (C.cls c) (some (dictOf es nn)) := by
  obtain ⟨e, h1, es, nn, h2, r⟩ := S.objs r _ p hn hp
  exact ⟨es, nn, r, h2, e, h1, rfl, rfl, h2⟩

theorem ev_attr {G : Glo} (K : CfgOK C G) (EV : EvOK C n R) {o : E} {a : Nat} {x : Expr} {v : V} (hm : mtE (f + 1) sc (.attr o a) x = true)
    (h : evStep C.P R (.attr o a) lo H = some (v, H'))
    (r : Room n A) (S : St C ρ H s) (X : EnvOK C sc env ρ H s.heap lo) : Runs C A (eval x env) ρ H s v H' := by
  have hx := mt_bk hm
  refine x0a3 (and3 hx.2) fun m0 mn m2 => ?_
  have mn : (pt x).s = nm a := beq_iff_eq.mp mn
  (refine bpE h fun u H1 h1 hh_ => ?_; clear h; revert hh_; intro h)
  (refine bsE h fun rr hr hh_ => ?_; clear h; revert hh_; intro h)
  (refine bsE h fun ob hn hh_ => ?_; clear h; revert hh_; intro h)
  (refine bpE h fun c l ho hh_ => ?_; clear h; revert hh_; intro h)
  (refine itE h fun ha hh_ => ?_; clear h; revert hh_; intro h)
  (refine msE h fun w hw hh_ => ?_; clear h; revert hh_; intro h)
  (refine pinjE h ?_; clear h)
  obtain rfl := ref?_some hr
  obtain rfl := inst?_some ho
  refine x0a2 (and2 ha) fun ha hms => ?_
  refine x1a1 (Option.isSome_iff_exists.mp hms) fun ms hms => ?_
  have hmem : a ∈ C.P.attrs := by
    refine x1a2 (List.any_eq_true.mp ha) fun b hb e => ?_
    rw [Nat.eq_of_beq_eq_true e]; exact hb
  refine .of (x' := .Attribute (pt x).a (nm a) (pt x).p) (mn ▸ hx.1) fun E Q k => ?_
  rw [arm_eval_Attribute, base_plain m2]
  refine wpAny_bind (EV f sc env o (pt x).a lo H _ _ m0 h1 A s ρ r S X E _ fun x1 s₁ ρ₁ S₁ N₁ r₁ => ?_)
  cases r₁ with
  | ref hp =>
    refine x2a4 (S₁.inst hn hp) fun es nn ar hd hne I => ?_
    refine x1a2 (ar.get hw) fun z hz rz => ?_
    have KC := K.cl c ms hms
    refine wpAny_bind (wpAny_standAt (wpAny_bind (wpAny_holding ?_)))
    refine W.get_value (K.X.keeps S₁.base) I (W.plainGet_of (KC.get (nm a))).1 (W.findObj_own KC.dict (KC.attr a hmem) rfl (by rw [W.lookIn_dict]; exact hz)) rz.handed ?_
    have G := S₁.grow (s' := { s₁ with toks := s₁.toks + 1 }) (fun _ _ e => e) rfl rfl
    exact wpAny_bind (wpAny_letTemporaryGo (wpAny_pure (k _ _ _ G.1 (N₁.trans G.2) rz)))
end
end Mini
end
section
set_option autoImplicit false
namespace Mini
open PySem PySem.Calls PyProof.Rows
open PySem.W (Frag dictOf Looks findIn typeIn keepIn makesIn plainGet hasDictIn plainOver getL)

theorem str_assoc (a b c : Str) : a ++ b ++ c = a ++ (b ++ c) := by
  show Str.append (Str.append a b) c = Str.append a (Str.append b c)
  simp [Str.append]
theorem str_empty (a : Str) : Str.empty ++ a = a := by
  show Str.append Str.empty a = a
  cases a; simp [Str.append, Str.empty]

theorem small_text : ∀ k : Fin 100, (Str.ofString (toString (k.val : Int))) = nm ((intText (k.val : Int)).getD 0) := by decide +kernel
theorem small_some : ∀ k : Fin 100, (intText (k.val : Int)).isSome = true := by decide +kernel
theorem small_len : ∀ k : Fin 100, (nmL ((intText (k.val : Int)).getD 0)).length ≤ 2 := by decide +kernel
theorem intText_ok {i : Int} {t : Nat} (h : intText i = some t) : (Str.ofString (toString i)) = nm t ∧ (nmL t).length ≤ 2 ∧ i.natAbs < 100 := by
  have hi : 0 ≤ i ∧ i < 100 := by
    unfold intText at h
    split at h
    · (clear h; lia)
    · split at h
      · (clear h; lia)
      · exact nn h
  obtain ⟨k, rfl⟩ := Int.eq_ofNat_of_zero_le hi.1
  have hk : k < 100 := by (clear h; lia)
  have h1 := small_text ⟨k, hk⟩
  have h2 := small_len ⟨k, hk⟩
  simp only at h1 h2
  rw [h] at h1 h2
  exact ⟨h1, h2, by (clear h2 h1 hk h; lia)⟩

section
variable {C : Cfg} {sc : Scope} {env : Env} {lo : Lo} {A : Around} {R : Sems} {n : Nat} {f : Nat} {ρ ρ' : Rh} {H H' : Hp} {s s' : Shared}

theorem three_of {l : List Expr} {p : Expr → Expr → Expr → Bool} (h : (match l with | [u, v, w] => p u v w | _ => false) = true) : ∃ u v w, l = [u, v, w] ∧ p u v w = true := by
  induction l using List.casesOn with
  | nil => exact ff h
  | cons u l => induction l using List.casesOn with
    | nil => exact ff h
    | cons v l => induction l using List.casesOn with
      | nil => exact ff h
      | cons w l => induction l using List.casesOn with
        | nil => exact ⟨u, v, w, rfl, h⟩
        | cons _ _ => exact ff h
theorem ev_fmt (EV : EvOK C n R) {pre post : Nat} {e : E} {x : Expr} {v : V} (hm : mtE (f + 1) sc (.fmt pre e post) x = true)
    (h : evStep C.P R (.fmt pre e post) lo H = some (v, H'))
    (r : Room n A) (S : St C ρ H s) (X : EnvOK C sc env ρ H s.heap lo) : Runs C A (eval x env) ρ H s v H' := by
  refine x0a2 (mt_bk hm) fun hx hm => ?_
  refine x3a2 (three_of hm) fun a1 a2 a3 hl hm => ?_
  refine x0a2 (and2 hm) fun k1 hm => ?_
  refine x0a2 (and2 hm) fun k2 hm => ?_
  refine x0a2 (and2 hm) fun k3 hm => ?_
  refine x0a2 (and2 hm) fun e2 hm => ?_
  have e2 := beq_iff_eq.mp e2
  refine x0a2 (and2 hm) fun hm m0 => ?_
  refine x0a4 (and4 hm) fun e1 e3 b1 b2 => ?_
  have e1 := beq_iff_eq.mp e1
  have e3 := beq_iff_eq.mp e3
  have b1 := Nat.le_of_ble_eq_true b1
  have b2 := Nat.le_of_ble_eq_true b2
  (refine bpE h fun u H1 h1 hh_ => ?_; clear h; revert hh_; intro h)
  (refine bsE h fun i hi hh_ => ?_; clear h; revert hh_; intro h)
  (refine msE h fun t ht hh_ => ?_; clear h; revert hh_; intro h)
  (refine pinjE h ?_; clear h)
  obtain rfl := int?_some hi
  refine .of (x' := .JoinedStr [.Constant (.str (nm pre)) (pt a1).n (pt a1).p, .FormattedValue (pt a2).a (-1) Option.none (pt a2).p, .Constant (.str (nm post)) (pt a3).n (pt a3).p] (pt x).p) ?_ fun E Q k => ?_
  · refine hx.trans (congrArg (fun z => Expr.JoinedStr z (pt x).p) (hl.trans ?_))
    rw [← e1, ← e3, ← e2]
    exact congr (congrArg List.cons (bk_of k1)) (congr (congrArg List.cons (bk_of k2)) (congrArg (fun z => [z]) (bk_of k3)))
  refine x0a2 (S.grow (s' := { s with toks := s.toks + 1 }) (fun _ _ e => e) rfl rfl) fun S0 N0 => ?_
  refine wpAny_JoinedStr ?_
  refine wpAny_Constant_str ⟨nm pre, _, rfl, by rw [str_empty, nm_length, sizeLine_big]; lia, ?_⟩
  refine wpAny_FormattedValue_plain ?_
  refine EV f sc env e (pt a2).a lo H _ _ m0 h1 A _ ρ r S0 (X.next S N0) E _ fun x1 s₁ ρ₁ S₁ N₁ r₁ => ?_
  refine x0a3 (intText_ok ht) fun e1 e2 e3 => ?_
  refine VR.intE r₁ fun _ => ?_
  refine wpAny_formatField_int (by
    rcases Nat.eq_zero_or_pos i.natAbs with z | z
    · rw [z]; decide
    · exact Nat.lt_of_lt_of_le ((Nat.log2_lt (by lia) (k := 7)).mpr (by lia)) (by decide)) ?_
  rw [e1]
  refine ⟨nm t, _, rfl, ?_, ?_⟩
  · rw [str_empty, nm_cat, nm_length, sizeLine_big, strCat, nmL_cat, List.length_append]; lia
  · refine wpAny_Constant_str ⟨nm post, _, rfl, ?_, ?_⟩
    · rw [str_empty, str_assoc, nm_cat, nm_cat, nm_length, sizeLine_big, strCat, nmL_cat, strCat, nmL_cat, List.length_append, List.length_append]; lia
    · refine ⟨?_, ?_⟩
      · rw [str_empty, str_assoc, nm_cat, nm_cat, nm_length, sizeLine_big, strCat, nmL_cat, strCat, nmL_cat, List.length_append, List.length_append]; lia
      · rw [str_empty, str_assoc, nm_cat, nm_cat]
        refine x0a2 (S₁.grow (s' := { s₁ with toks := s₁.toks + 1 + 1 + 1 + 1 }) (fun _ _ e => e) rfl rfl) fun S' N => ?_
        exact k _ _ _ S' ((N0.trans N₁).trans N) (.str _ _)

theorem ev_freeze (EV : EvOK C n R) {e : E} {x : Expr} {v : V} (hm : mtE (f + 1) sc (.freeze e) x = true)
    (h : evStep C.P R (.freeze e) lo H = some (v, H'))
    (r : Room n A) (S : St C ρ H s) (X : EnvOK C sc env ρ H s.heap lo) : Runs C A (eval x env) ρ H s v H' := by
  have hm : mtE f sc e x = true := mt_p hm
  (refine bpE h fun u H1 h1 hh_ => ?_; clear h; revert hh_; intro h)
  (refine bsE h fun rr hr hh_ => ?_; clear h; revert hh_; intro h)
  (refine bsE h fun ob hn hh_ => ?_; clear h; revert hh_; intro h)
  (refine msE h fun l ho hh_ => ?_; clear h; revert hh_; intro h)
  (refine pinjE h ?_; clear h)
  obtain rfl := ref?_some hr
  obtain rfl := list?_some ho
  intro E Q k
  refine EV f sc env e x lo H _ _ hm h1 A _ ρ r S X E _ fun x1 s₁ ρ₁ S₁ N₁ r₁ => ?_
  obtain ⟨p, hp, rfl, e, items, t, rl⟩ := S₁.ref_obj r₁ hn
  refine x0a2 (S₁.set (s' := s₁) hn rfl hp (o' := .dead) (fun _ _ _ _ e => e) (S₁.here _ _ hp) rfl rfl (fun _ => trivial)) fun S' N => ?_
  refine k _ _ _ S' (N₁.trans N) (.lst t.isList ?_ (rl.lasts (N.lasts S₁)))
  intro m
  have m := m.resolve_right fun m => (S₁.zap _ m _ _ hp).1 rfl
  refine x3a4 m fun i q o hq ho hlv hc => ?_
  by_cases hi : rr = i
  · subst hi
    have hlt : rr < H1.length := (List.getElem?_eq_some_iff.mp hn).1
    rw [List.getElem?_set_self hlt] at ho; cases ho; exact ff hlv
  · refine x0a4 (S₁.apart rr i p q hp hq hi) fun n1 n2 n3 n4 => ?_
    rcases hc with hc | hc
    · exact n1 hc
    · exact n2 hc
end
end Mini
end
section
set_option autoImplicit false
namespace Mini
open PySem PySem.Calls PyProof.Rows
open PySem.W (Frag dictOf Looks findIn typeIn keepIn makesIn plainGet hasDictIn plainOver getL)

section
variable {C : Cfg} {sc : Scope} {env : Env} {lo : Lo} {A : Around} {R : Sems} {n : Nat} {f : Nat} {ρ ρ' : Rh} {H H' : Hp} {s s' : Shared}

theorem stored_nil {K : Type} [DecidableEq K] (k : K) (v : Value) : stored ([] : List (K × Value)) k v = [(k, v)] := rfl
theorem stored_cons {K : Type} [DecidableEq K] (j : K) (w : Value) (r : List (K × Value)) (k : K) (v : Value) (hn : j ∉ r.map (·.1)) : stored ((j, w) :: r) k v = if j = k then (j, v) :: r else (j, w) :: stored r k v := by
  unfold stored
  by_cases e : j = k
  · subst e
    have := map_store_of_not_mem r j v hn
    simp [this]
  · simp only [List.any_cons, decide_eq_false e, Bool.false_or, if_neg e, List.map_cons]
    split <;> rfl

theorem PR.keysI {h : Heap} {l : List (Int × V)} {xs : List (Int × Value)} (p : PR id ρ H h l xs) : xs.map (·.1) = l.map (·.1) := by
  induction p with
  | nil => rfl
  | cons _ _ ih => simp [ih]
theorem PR.setI {h : Heap} {l : List (Int × V)} {xs : List (Int × Value)} (p : PR id ρ H h l xs) : (xs.map (·.1)).Nodup → ∀ {k : Int} {v : V} {y : Value}, VR ρ H h v y → PR id ρ H h (Mini.setI l k v) (stored xs k y) := by
  induction p with
  | nil => intro _ k v y r; exact .cons r .nil
  | @cons j v x l l' r q ih =>
    intro hn k u y ru
    rw [List.map_cons, List.nodup_cons] at hn
    rw [stored_cons _ _ _ _ _ hn.1]
    simp only [Mini.setI, id]
    by_cases e : k = j
    · subst e; simp; exact .cons ru q
    · have e' : ¬ j = k := fun z => e z.symm
      rw [if_neg e', beq_eq_false_iff_ne.mpr e]
      exact .cons r (ih hn.2 ru)
theorem PR.setS {h : Heap} {l : List (Nat × V)} {xs : List (Str × Value)} (p : PR nm ρ H h l xs) : (xs.map (·.1)).Nodup → ∀ {k : Nat} {v : V} {y : Value}, VR ρ H h v y → PR nm ρ H h (lset l k v) (stored xs (nm k) y) := by
  induction p with
  | nil => intro _ k v y r; exact .cons r .nil
  | @cons j v x l l' r q ih =>
    intro hn k u y ru
    rw [List.map_cons, List.nodup_cons] at hn
    rw [stored_cons _ _ _ _ _ hn.1, lset_cons]
    by_cases e : k = j
    · subst e; simp; exact .cons ru q
    · have e' : ¬ nm j = nm k := fun z => e (nm_inj z.symm)
      rw [if_neg e', if_neg e]
      exact .cons r (ih hn.2 ru)
theorem stored_nodup {K : Type} [DecidableEq K] {xs : List (K × Value)} (hn : (xs.map (·.1)).Nodup) (k : K) (v : Value) : ((stored xs k v).map (·.1)).Nodup := by
  induction xs with
  | nil => simp [stored_nil]
  | cons p r ih =>
    obtain ⟨j, w⟩ := p
    rw [List.map_cons, List.nodup_cons] at hn
    rw [stored_cons _ _ _ _ _ hn.1]
    by_cases e : j = k
    · rw [if_pos e]; simpa using hn
    · rw [if_neg e, List.map_cons, List.nodup_cons]
      refine ⟨fun hm => ?_, ih hn.2⟩
      have : ∀ (xs : List (K × Value)), j ∈ (stored xs k v).map (·.1) → j ∈ xs.map (·.1) ∨ j = k := by
        intro xs hm
        unfold stored at hm
        split at hm
        · obtain ⟨q, hq, rfl⟩ := List.mem_map.mp hm
          obtain ⟨z, hz, rfl⟩ := List.mem_map.mp hq
          refine .inl (List.mem_map.mpr ⟨z, hz, ?_⟩)
          split <;> rfl
        · rw [List.map_append, List.mem_append] at hm
          rcases hm with hm | hm
          · exact .inl hm
          · simp at hm; exact .inr hm
      rcases this r hm with q | q
      · exact hn.1 q
      · exact e q
theorem PR.mergeI {h : Heap} {vs : List V} {ys : List Value} (rs : VRs ρ H h vs ys) : ∀ (is : List Int) {l : List (Int × V)} {xs : List (Int × Value)}, PR id ρ H h l xs → (xs.map (·.1)).Nodup →
    PR id ρ H h ((is.zip vs).foldl (fun d p => Mini.setI d p.1 p.2) l) (merged xs (is.zip ys)) := by
  refine VRs.ind (q := fun vs ys => ∀ (is : List Int) {l : List (Int × V)} {xs : List (Int × Value)}, PR id ρ H h l xs → (xs.map (·.1)).Nodup → PR id ρ H h ((is.zip vs).foldl (fun d p => Mini.setI d p.1 p.2) l) (merged xs (is.zip ys)))
    (fun is _ _ p _ => by induction is using List.casesOn <;> exact p) (fun {v x vs xs} r _ ih is _ _ p hn => ?_) rs
  induction is using List.casesOn with
  | nil => exact p
  | cons i is => exact ih is (p.setI hn r) (stored_nodup hn _ _)
theorem PR.mergeS {h : Heap} {vs : List V} {ys : List Value} (rs : VRs ρ H h vs ys) : ∀ (is : List Nat) {l : List (Nat × V)} {xs : List (Str × Value)}, PR nm ρ H h l xs → (xs.map (·.1)).Nodup →
    PR nm ρ H h ((is.zip vs).foldl (fun d p => lset d p.1 p.2) l) (merged xs ((is.map nm).zip ys)) := by
  refine VRs.ind (q := fun vs ys => ∀ (is : List Nat) {l : List (Nat × V)} {xs : List (Str × Value)}, PR nm ρ H h l xs → (xs.map (·.1)).Nodup → PR nm ρ H h ((is.zip vs).foldl (fun d p => lset d p.1 p.2) l) (merged xs ((is.map nm).zip ys)))
    (fun is _ _ p _ => by induction is using List.casesOn <;> exact p) (fun {v x vs xs} r _ ih is _ _ p hn => ?_) rs
  induction is using List.casesOn with
  | nil => exact p
  | cons i is => exact ih is (p.setS hn r) (stored_nodup hn _ _)

theorem carriesI {h : Heap} {ks : List V} : ∀ {is : List Int} {kx : List Value}, VRs ρ H h ks kx → allInts ks = some is → ∀ {ys : List Value}, kx.length = ys.length → Carries (intKind C.prog C.w) (kx.zip ys) (is.zip ys) := by
  induction ks with
  | nil => intro is kx r e ys hl; cases r; cases e; trivial
  | cons v ks ih =>
    intro is kx r e ys hl
    refine bsE e fun i hi e => ?_
    refine msE e fun js e1 e => ?_
    cases e
    obtain rfl := int?_some hi
    cases r with
    | cons r rs => refine VR.intE r fun _ => ?_; induction ys using List.casesOn with
      | nil => cases hl
      | cons y ys => exact ⟨isInt_is _ _ _ _, rfl, ih rs e1 (Nat.succ.inj hl)⟩
theorem carriesS {h : Heap} {ks : List V} : ∀ {is : List Nat} {kx : List Value}, VRs ρ H h ks kx → allStrs ks = some is → ∀ {ys : List Value}, kx.length = ys.length → Carries (PySem.strKind C.prog C.w) (kx.zip ys) ((is.map nm).zip ys) := by
  induction ks with
  | nil => intro is kx r e ys hl; cases r; cases e; trivial
  | cons v ks ih =>
    intro is kx r e ys hl
    refine bsE e fun i hi e => ?_
    refine msE e fun js e1 e => ?_
    cases e
    obtain rfl := str?_some hi
    cases r with
    | cons r rs => refine VR.strE r fun _ => ?_; induction ys using List.casesOn with
      | nil => cases hl
      | cons y ys => exact ⟨isStr_is _ _ _ _, rfl, ih rs e1 (Nat.succ.inj hl)⟩

theorem mtOpts_nil {me : Scope → E → Expr → Bool} {xs : List (Option Expr)} (h : mtOpts me sc [] xs = true) : xs = [] := by induction xs using List.casesOn with
  | nil => rfl
  | cons _ _ => exact ff h
theorem mtOptsE {me : Scope → E → Expr → Bool} {e : E} {es : List E} {xs : List (Option Expr)} (h : mtOpts me sc (e :: es) xs = true) {P : List (Option Expr) → Prop} (k : ∀ x ys, me sc e x = true → mtOpts me sc es ys = true → P (some x :: ys)) : P xs := by
  induction xs using List.casesOn with
  | nil => exact ff h
  | cons x ys => induction x using Option.casesOn with
    | none => exact ff h
    | some x => exact k x ys (and2 h).1 (and2 h).2
theorem pairs_ok (EV : EvOK C n R) {pos : Pos} {ks : List E} : ∀ {vs : List E} {xs : List (Option Expr)} {ys : List Expr} {H : Hp} {ab : List V × List V} {H' : Hp}, ks.length = vs.length → mtOpts (mtE f) sc ks xs = true → mtEs (mtE f) sc vs ys = true → evPairs R ks vs lo H = some (ab, H') →
    ∀ {s : Shared} {ρ : Rh}, Room n A → St C ρ H s → EnvOK C sc env ρ H s.heap lo → ∀ {E : Value → Shared → Prop} {Q : List (Value × Value) → Shared → Prop},
    (∀ p q s' ρ', St C ρ' H' s' → Nx no ρ H s ρ' H' s' → VRs ρ' H' s'.heap ab.1 p → VRs ρ' H' s'.heap ab.2 q → p.length = q.length → Q (p.zip q) s') → wpAny (MM C) A (evalPairs (pairTrees xs ys env pos)) Q E s := by
  induction ks with
  | nil =>
    intro vs xs ys H ab H' hl h1 h2 h s ρ r S X E Q k
    induction vs using List.casesOn with
    | cons _ _ => cases hl
    | nil =>
      cases mtOpts_nil h1
      cases mtEs_nil h2
      (revert k; apply sinjE h; clear h; intro k)
      exact wpAny_pure (k [] [] _ _ S (.refl _ _ _) .nil .nil rfl)
  | cons e es ih =>
    intro vs xs ys H ab H' hl h1 h2 h s ρ r S X E Q k
    induction vs using List.casesOn with
    | nil => cases hl
    | cons u us =>
      (apply mtOptsE h1; clear h1; intro x xs m1 m2)
      (apply mtEsE h2; clear h2; intro y ys m3 m4)
      (refine bpE h fun kv H1 g1 hh_ => ?_; clear h; revert hh_; intro h)
      (refine bpE h fun vv H2 g2 hh_ => ?_; clear h; revert hh_; intro h)
      (refine bpE h fun as H3 g3 hh_ => ?_; clear h; revert hh_; intro h)
      (revert k; apply sinjE h; clear h; intro k)
      refine pairTrees_cons_walk ?_
      refine EV f sc env e x lo H kv H1 m1 g1 A s ρ r S X E _ fun x1 s₁ ρ₁ S₁ N₁ r₁ => ?_
      refine EV f sc env u y lo H1 vv H2 m3 g2 A s₁ ρ₁ r S₁ (X.next S N₁) E _ fun x2 s₂ ρ₂ S₂ N₂ r₂ => ?_
      refine ih (Nat.succ.inj hl) m2 m4 g3 r S₂ ((X.next S N₁).next S₁ N₂) fun p q s₃ ρ₃ S₃ N₃ rp rq hl => ?_
      exact k (x1 :: p) (x2 :: q) s₃ ρ₃ S₃ ((N₁.trans N₂).trans N₃) (.cons ((r₁.lasts (N₂.lasts S₁)).lasts (N₃.lasts S₂)) rp) (.cons (r₂.lasts (N₃.lasts S₂)) rq) (congrArg (· + 1) hl)

theorem mtOpts_all {ks : List E} : ∀ {xs : List (Option Expr)}, mtOpts (mtE f) sc ks xs = true → xs.all (·.isSome) = true ∧ xs.length = ks.length := by
  induction ks with
  | nil => intro xs h; cases mtOpts_nil h; exact ⟨rfl, rfl⟩
  | cons e es ih =>
    intro xs h
    (apply mtOptsE h; clear h; intro x ys _ m)
    exact ⟨(ih m).1, congrArg (· + 1) (ih m).2⟩

/-- an object that was made before its parts -/
theorem St.late {s₀ s₁ s₂ s₃ : Shared} {ρ₂ : Rh} {H₂ : Hp} {o : O} {x : Obj} (S₀ : St C ρ H s₀) (S₁ : St C ρ H s₁) (e1 : s₁.heap = s₀.heap.push x) (N : Nx no ρ H s₁ ρ₂ H₂ s₂) (S₂ : St C ρ₂ H₂ s₂) (hx : ∀ xs n, x.data ≠ .seq xs n) (hfr : x.isFreed = false) (h3 : ∃ o, s₃.heap.get? s₀.heap.objs.size = some o)
    (hb : Heap.SameBut s₀.heap.objs.size s₂.heap s₃.heap) (hg : s₃.gens = s₂.gens) (hos : s₃.os = s₂.os)
    (hR : Lasts ρ₂ H₂ s₂.heap (ρ₂ ++ [(s₀.heap.objs.size, s₀.heap.objs.size)]) (H₂ ++ [o]) s₃.heap → ObjR C (ρ₂ ++ [(s₀.heap.objs.size, s₀.heap.objs.size)]) (H₂ ++ [o]) s₃.heap (s₀.heap.objs.size, s₀.heap.objs.size) o) :
    St C (ρ₂ ++ [(s₀.heap.objs.size, s₀.heap.objs.size)]) (H₂ ++ [o]) s₃ ∧ Nx no ρ H s₀ (ρ₂ ++ [(s₀.heap.objs.size, s₀.heap.objs.size)]) (H₂ ++ [o]) s₃ ∧ (ρ₂ ++ [(s₀.heap.objs.size, s₀.heap.objs.size)])[H₂.length]? = some (s₀.heap.objs.size, s₀.heap.objs.size) := by
  have ha0 := get?_end s₀.heap
  have ha1 : s₁.heap.get? s₀.heap.objs.size = some x := by rw [e1]; exact Heap.get?_push_size _ hfr
  have own1 : ¬ Own ρ H s₀.heap.objs.size := S₀.fresh
  have ha2 : s₂.heap.get? s₀.heap.objs.size = some x := N.keep _ _ ha1 own1 id
  have own2 : ¬ Own ρ₂ H₂ s₀.heap.objs.size := fun m => (N.fresh _ m).elim own1 fun z => by rw [ha1] at z; cases z
  have bn : C.base.get? s₀.heap.objs.size = none := by
    cases e : C.base.get? s₀.heap.objs.size with
    | none => rfl
    | some x => exact absurd (Heap.lt_size (S₀.base _ _ e)) (Nat.lt_irrefl _)
  have none0 : ∀ {a : Addr}, s₁.heap.get? a = none → s₀.heap.get? a = none := fun {a} h => by
    cases e : s₀.heap.get? a with
    | none => rfl
    | some o => rw [e1, Heap.get?_push_of_some _ e] at h; cases h
  have hnd : ∀ (i : Nat) (q : Addr × Addr), ρ₂[i]? = some q → s₀.heap.objs.size ≠ q.1 ∧ s₀.heap.objs.size ≠ q.2 := fun i q e => by
    rcases N.news i q e with e | ⟨a, b⟩
    · obtain ⟨⟨y, hy⟩, z, hz⟩ := S₀.here i q e
      exact ⟨fun w => (by rw [← w, ha0] at hy; exact nn hy), fun w => (by rw [← w, ha0] at hz; exact nn hz)⟩
    · exact ⟨fun w => (by rw [← w, ha1] at a; cases a), fun w => (by rw [← w, ha1] at b; cases b)⟩
  have nz : s₀.heap.objs.size ∉ ρ₂.z := fun m => by
    rw [N.z] at m
    obtain ⟨⟨o, ho⟩, _⟩ := S₀.hid _ m
    rw [ha0] at ho; exact nn ho
  have kk : ∀ a y, a ≠ s₀.heap.objs.size → s₂.heap.get? a = some y → s₃.heap.get? a = some y := fun a y h e => (hb.2 a h).trans e
  have nl : ∀ items, ¬ s₂.heap.IsList s₀.heap.objs.size items := fun items t => by
    refine t5 t fun y hy _ m hd => ?_
    rw [ha2] at hy; cases hy; exact hx _ _ hd
  have nt : ∀ items, ¬ s₂.heap.IsTuple s₀.heap.objs.size items := fun items t => by
    refine t5 t fun y hy _ m hd => ?_
    rw [ha2] at hy; cases hy; exact hx _ _ hd
  obtain ⟨S', L⟩ := S₂.app (s' := s₃) (o := o) (p := (s₀.heap.objs.size, s₀.heap.objs.size)) ⟨own2, own2⟩ (fun i q e => ⟨(hnd i q e).1, (hnd i q e).2, (hnd i q e).1, (hnd i q e).2⟩) ⟨bn, bn⟩ ⟨nl, nl⟩ ⟨nt, nt⟩
    (fun a y h _ e => kk a y h e) ⟨h3, h3⟩ ⟨nz, nz⟩ hg hos hR
  refine ⟨S', ⟨N.ext.trans (by rw [Rh.app_l]; exact List.prefix_append _ _), N.z, fun a y e nn _ => ?_, fun a m => ?_, fun a y e => ?_, fun _ _ w => w.elim, fun i q e => ?_⟩, ?_⟩
  · have : a ≠ s₀.heap.objs.size := fun z => absurd (Heap.lt_size e) (z ▸ Nat.lt_irrefl _)
    exact kk a y this (N.keep a y (by rw [e1]; exact Heap.get?_push_of_some _ e) nn id)
  · rcases own_app S₂.len m with m | m | m
    · exact (N.fresh a m).imp id fun z => none0 z
    · exact .inr (m ▸ ha0)
    · exact .inr (m ▸ ha0)
  · have hne : a ≠ s₀.heap.objs.size := fun z => absurd (Heap.lt_size e) (z ▸ Nat.lt_irrefl _)
    obtain ⟨y', hy'⟩ := N.pres a y (by rw [e1]; exact Heap.get?_push_of_some _ e)
    exact ⟨y', kk a y' hne hy'⟩
  · rw [Rh.at_, Rh.app_l] at e
    rcases Nat.lt_or_ge i ρ₂.l.length with hj | hj
    · rw [List.getElem?_append_left hj] at e
      exact (N.news i q e).imp id fun z => ⟨none0 z.1, none0 z.2⟩
    · rw [List.getElem?_append_right hj] at e
      rcases Nat.eq_zero_or_pos (i - ρ₂.l.length) with z | z
      · rw [z] at e; simp at e; subst e; exact .inr ⟨ha0, ha0⟩
      · rw [List.getElem?_eq_none (by simp only [List.length_cons, List.length_nil]; (clear hj e nz bn own2 ha2 own1 ha1 ha0 hR hos hg hfr e1; lia))] at e; exact nn e
  · rw [← S₂.len, Rh.at_, Rh.app_l]; simp

theorem inv_dict {dk : DK} {ks vs : List E} {x : Expr} (hm : mtE (f + 1) sc (.dict dk ks vs) x = true) : ∃ xs ys p, x = .Dict xs ys p ∧ mtOpts (mtE f) sc ks xs = true ∧ mtEs (mtE f) sc vs ys = true ∧ ks.length ≤ 15 ∧ ks.length = vs.length :=
  have h := and4 (mt_bk hm).2
  ⟨_, _, _, (mt_bk hm).1, h.1, h.2.1, Nat.le_of_ble_eq_true h.2.2.1, Nat.eq_of_beq_eq_true h.2.2.2⟩
theorem ev_dict (EV : EvOK C n R) {dk : DK} {ks vs : List E} {x : Expr} {v : V} (hm : mtE (f + 1) sc (.dict dk ks vs) x = true)
    (h : evStep C.P R (.dict dk ks vs) lo H = some (v, H'))
    (r : Room n A) (S : St C ρ H s) (X : EnvOK C sc env ρ H s.heap lo) : Runs C A (eval x env) ρ H s v H' := by
  refine x3a5 (inv_dict hm) fun xs ys p hx m1 m2 m3 m4 => ?_
  (refine bpE h fun ab H1 h1 hh_ => ?_; clear h; revert hh_; intro h)
  (refine msE h fun o h2 hh_ => ?_; clear h; revert hh_; intro h)
  (refine pinjE h ?_; clear h)
  refine x0a2 (mtOpts_all m1) fun hall hlen => ?_
  refine .of hx fun E Q k => ?_
  induction ks using List.casesOn with
  | nil =>
    induction vs using List.casesOn with
    | cons _ _ => cases m4
    | nil =>
      cases mtOpts_nil m1
      cases mtEs_nil m2
      (obtain ⟨e1_, e2_⟩ := sinj h1; clear h1; subst e1_; subst e2_)
      refine wpAny_Dict_empty ?_
      obtain ⟨S', N, e⟩ := S.mk' (o := o) (p := (s.heap.objs.size, s.heap.objs.size)) (s' := { s with heap := s.heap.push { cls := .type "dict", data := .dict #[] } }) (get?_end _) (get?_end _) (fun a o e => Heap.get?_push_of_some _ e) ⟨⟨_, Heap.get?_push_size _ rfl⟩, _, Heap.get?_push_size _ rfl⟩ rfl rfl
        (fun L => by
          induction dk using Mini.DK.casesOn <;> cases h2
          · exact ⟨rfl, [], Heap.DictOf.new _, .nil⟩
          · exact ⟨rfl, [], Heap.DictOf.new _, .nil⟩
          · exact ⟨rfl, [], Heap.DictOfH.new _, .nil⟩)
      exact k _ _ _ S' N (.ref (p := (s.heap.objs.size, s.heap.objs.size)) e)
  | cons k1 ks =>
    have hne : xs ≠ [] := by rintro rfl; exact ff m1
    have hl2 : xs.length = ys.length := by rw [hlen, m4, mtEs_length m2]
    obtain ⟨S0, N0⟩ := S.grow (s' := { s with heap := s.heap.push { cls := .type "dict", data := .dict #[] } }) (fun a o e => Heap.get?_push_of_some _ e) rfl rfl
    have hsz : s.heap.objs.size < (s.heap.push { cls := .type "dict", data := .dict #[] }).objs.size := by simp
    have fin : ∀ {s₁ : Shared} {ρ₁ : Rh} {h' : Heap} {m : Nat}, St C ρ₁ H1 s₁ → Nx no ρ H { s with heap := s.heap.push { cls := .type "dict", data := .dict #[] } } ρ₁ H1 s₁ → Heap.SameBut s.heap.objs.size s₁.heap h' → (∃ o, h'.get? s.heap.objs.size = some o) →
        (Lasts ρ₁ H1 s₁.heap (ρ₁ ++ [(s.heap.objs.size, s.heap.objs.size)]) (H1 ++ [o]) h' → ObjR C (ρ₁ ++ [(s.heap.objs.size, s.heap.objs.size)]) (H1 ++ [o]) h' (s.heap.objs.size, s.heap.objs.size) o) →
        Q (.ref s.heap.objs.size) { s₁ with heap := h', toks := s₁.toks + m } := fun {s₁ ρ₁ h' m} S₁ N₁ hb h3 hR => by
      obtain ⟨S', N', e⟩ := St.late (s₃ := { s₁ with heap := h', toks := s₁.toks + m }) S S0 rfl N₁ S₁ (fun _ _ z => by cases z) rfl h3 hb rfl rfl hR
      exact k _ _ _ S' N' (.ref (p := (s.heap.objs.size, s.heap.objs.size)) e)
    induction dk using DK.casesOn with
    | i =>
      (refine msE h2 fun is h3 hh_ => ?_; clear h2; revert hh_; intro h2)
      cases h2
      refine wpAny_Dict_walk (knd := intKind C.prog C.w) hall hl2 hne (by rw [hlen]; exact m3) ?_
      refine pairs_ok EV m4 m1 m2 h1 r S0 (X.next S N0) fun p q s₁ ρ₁ S₁ N₁ rp rq hl => ⟨is.zip q, carriesI rp h3 hl, ?_, fun h' D hb => ?_⟩
      · obtain ⟨o', es, ep, ho, r⟩ := Heap.DictOf.new (knd := intKind C.prog C.w) s.heap
        exact ⟨o', es, ep, N₁.keep _ _ ho S.fresh id, r⟩
      · exact fin S₁ N₁ hb (x3a2 D fun o _ _ e _ => ⟨o, e⟩) fun L => ⟨rfl, _, D, PR.mergeI (rq.lasts L) _ .nil List.nodup_nil⟩
    | s =>
      (refine msE h2 fun is h3 hh_ => ?_; clear h2; revert hh_; intro h2)
      cases h2
      refine wpAny_Dict_walk (knd := PySem.strKind C.prog C.w) hall hl2 hne (by rw [hlen]; exact m3) ?_
      refine pairs_ok EV m4 m1 m2 h1 r S0 (X.next S N0) fun p q s₁ ρ₁ S₁ N₁ rp rq hl => ⟨(is.map nm).zip q, carriesS rp h3 hl, ?_, fun h' D hb => ?_⟩
      · obtain ⟨o', es, ep, ho, r⟩ := Heap.DictOf.new (knd := PySem.strKind C.prog C.w) s.heap
        exact ⟨o', es, ep, N₁.keep _ _ ho S.fresh id, r⟩
      · exact fin S₁ N₁ hb (x3a2 D fun o _ _ e _ => ⟨o, e⟩) fun L => ⟨rfl, _, D, PR.mergeS (rq.lasts L) _ .nil List.nodup_nil⟩
    | t =>
      induction vs using List.casesOn with
      | nil => cases m4
      | cons w ws =>
        (refine bpE h1 fun kv H1 g1 hh_ => ?_; clear h1; revert hh_; intro h1)
        (refine bpE h1 fun vv H2 g2 hh_ => ?_; clear h1; revert hh_; intro h1)
        (refine bpE h1 fun as H3 g3 hh_ => ?_; clear h1; revert hh_; intro h1)
        (obtain ⟨e1_, e2_⟩ := sinj h1; clear h1; subst e1_; subst e2_)
        exact nn h2
end
end Mini
end
section
set_option autoImplicit false
namespace Mini
open PySem PySem.Calls PyProof.Rows
open PySem.W (Frag dictOf Looks findIn typeIn keepIn makesIn plainGet hasDictIn plainOver getL)

noncomputable def plainTest (x : Expr) : Bool := !(Nat.ble (pt x).k 4)
theorem isTrue_plain {x : Expr} {env : Env} {whole : Sem Value} (h : plainTest x = true) : isTrue x env whole = (do let v ← whole; standAt x.pos; holding [v] (truthy v)) := by
  cases x with
  | UnaryOp op y p => cases op <;> first | rfl | exact ff h
  | BoolOp op _ _ => cases op <;> exact ff h
  | IfExp _ _ _ _ => exact ff h
  | Compare _ _ _ _ => exact ff h
  | _ => rfl
noncomputable def testy (e : E) : Bool := Nat.ble (ek e) 4

section
variable {C : Cfg} {sc : Scope} {env : Env} {lo : Lo} {A : Around} {R : Sems} {n : Nat} {f : Nat} {ρ ρ' : Rh} {H H' : Hp} {s s' : Shared}

theorem mt_plain {e : E} {x : Expr} (hm : mtE f sc e x = true) (he : testy e = false) : plainTest x = true := by
  show (!(Nat.ble (pt x).k 4)) = true
  rw [mt_k hm]
  exact congrArg (! ·) he

theorem tr_of_ev {x : Expr} {b : Bool} (hp : plainTest x = true) (h : Runs C A (eval x env) ρ H s (.bool b) H') : RunsB C A (isTrue x env (eval x env)) ρ H s b H' := fun E Q k => by
  rw [isTrue_plain hp]
  refine wpAny_bind (h E _ fun y s₁ ρ₁ S₁ N₁ r₁ => ?_)
  refine VR.boolE r₁ ?_
  exact wpAny_bind (wpAny_standAt (wpAny_holding (wpAny_truthy_bool (k _ _ S₁ N₁))))

theorem RunsB.eq {t : Sem Bool} {H1 : Hp} {b c : Bool} (h : (V.bool c, H1) = (V.bool b, H')) (k : RunsB C A t ρ H s c H1) : RunsB C A t ρ H s b H' := by cases h; exact k
theorem RunsB.of {x x' : Expr} {b : Bool} (hx : x = x') (h : RunsB C A (isTrue x' env (eval x' env)) ρ H s b H') : RunsB C A (isTrue x env (eval x env)) ρ H s b H' := hx ▸ h
theorem tr_step {G : Glo} (K : CfgOK C G) (EV : EvOK C n R) (TR : TrOK C n R) {R' : Sems} (hR : R'.ev = evStep C.P R) (EV1 : EvOK C (n + 1) R') : TrOK C (n + 1) R' := by
  intro f sc env e x lo H b H' hm h A s ρ r S X
  cases he : testy e with
  | false => exact tr_of_ev (mt_plain hm he) (EV1 f sc env e x lo H _ H' hm h A s ρ r S X)
  | true =>
    have r0 := r.dec
    rw [hR] at h
    induction f using Nat.casesAuxOn with
    | zero => exact mt0 hm
    | succ f =>
      cases e with
      | not a =>
        have hx := mt_bk hm
        refine bpE h fun w H1 h1 h2 => ?_
        refine msE h2 fun c hc h3 => ?_
        rw [bool?_some hc] at h1
        refine .of (x' := .UnaryOp .Not (pt x).a (pt x).p) hx.1 (.eq h3 fun E Q k => ?_)
        exact wpAny_isTrue_Not (TR f sc env a (pt x).a lo H c _ hx.2 h1 A s ρ r0 S X E _ k)
      | and l => cases and_r hm
      | or l => exact .of (x' := .BoolOp .Or (pt x).l (pt x).p) (mt_bk hm).1 fun E Q k => wpAny_isTrue_BoolOp (tr_all_or TR (mt_p hm) h r0 S X E Q k)
      | ite c a d =>
        have hx := mt_bk hm
        have m := and3 hx.2
        refine bpE h fun u H1 h1 h2 => ?_
        refine bsE h2 fun t ht h3 => ?_
        rw [bool?_some ht] at h1
        refine .of (x' := .IfExp (pt x).a (pt x).b (pt x).c (pt x).p) hx.1 fun E Q k => ?_
        show wpAny (MM C) A (isTrue (pt x).a env (eval (pt x).a env) >>= _) Q E s
        refine wpAny_bind (TR f sc env c (pt x).a lo H t H1 m.1 h1 A s ρ r0 S X E _ fun s₁ ρ₁ S₁ N₁ => ?_)
        induction t using Bool.casesOn with
        | true => exact TR f sc env a (pt x).b lo H1 b H' m.2.1 h3 A s₁ ρ₁ r0 S₁ (X.next S N₁) E Q fun s₂ ρ₂ S₂ N₂ => k s₂ ρ₂ S₂ (N₁.trans N₂)
        | false => exact TR f sc env d (pt x).c lo H1 b H' m.2.2 h3 A s₁ ρ₁ r0 S₁ (X.next S N₁) E Q fun s₂ ρ₂ S₂ N₂ => k s₂ ρ₂ S₂ (N₁.trans N₂)
      | cmp a os l =>
        have hx := mt_bk hm
        refine x0a4 (and4 hx.2) fun m0 m3 m1 m2 => ?_
        have m3 : (pt x).os = os.map copOf := beq_iff_eq.mp m3
        (refine bpE h fun u H1 h1 hh_ => ?_; clear h; revert hh_; intro h)
        refine .of (x' := .Compare (pt x).a (os.map copOf) (pt x).l (pt x).p) (m3 ▸ hx.1) fun E Q k => ?_
        show wpAny (MM C) A (eval (pt x).a env >>= _) Q E s
        refine wpAny_bind (EV f sc env a (pt x).a lo H u H1 m0 h1 A s ρ r0 S X E _ fun x1 s₁ ρ₁ S₁ N₁ r₁ => ?_)
        rw [marked_plain m1]
        exact (ev_chain K EV (pt x).p (Nat.eq_of_beq_eq_true m2) m1 h r0 S₁ (X.next S N₁) r₁).2 b rfl E Q fun s₂ ρ₂ S₂ N₂ => k s₂ ρ₂ S₂ (N₁.trans N₂)
      | inVals _ _ => cases and_r hm
      | _ => exact ff he

theorem ev_cmp {G : Glo} (K : CfgOK C G) (EV : EvOK C n R) {a : E} {os : List Cop} {l : List E} {x : Expr} {v : V} (hm : mtE (f + 1) sc (.cmp a os l) x = true)
    (h : evStep C.P R (.cmp a os l) lo H = some (v, H'))
    (r : Room n A) (S : St C ρ H s) (X : EnvOK C sc env ρ H s.heap lo) : Runs C A (eval x env) ρ H s v H' := by
  have hx := mt_bk hm
  refine x0a4 (and4 hx.2) fun m0 m3 m1 m2 => ?_
  have m3 : (pt x).os = os.map copOf := beq_iff_eq.mp m3
  (refine bpE h fun u H1 h1 hh_ => ?_; clear h; revert hh_; intro h)
  refine .of (x' := .Compare (pt x).a (os.map copOf) (pt x).l (pt x).p) (m3 ▸ hx.1) fun E Q k => ?_
  show wpAny (MM C) A (eval (pt x).a env >>= _) Q E s
  refine wpAny_bind (EV f sc env a (pt x).a lo H u H1 m0 h1 A s ρ r S X E _ fun x1 s₁ ρ₁ S₁ N₁ r₁ => ?_)
  rw [marked_plain m1]
  exact (ev_chain K EV (pt x).p (Nat.eq_of_beq_eq_true m2) m1 h r S₁ (X.next S N₁) r₁).1 E Q fun x2 s₂ ρ₂ S₂ N₂ r₂ => k x2 s₂ ρ₂ S₂ (N₁.trans N₂) r₂
end
end Mini
end
section
set_option autoImplicit false
namespace Mini
open PySem PySem.Calls PyProof.Rows
open PySem.W (Frag dictOf Looks findIn typeIn keepIn makesIn plainGet hasDictIn plainOver getL)

section
variable {C : Cfg} {sc : Scope} {env : Env} {lo : Lo} {A : Around} {R : Sems} {n : Nat} {f : Nat} {ρ ρ' : Rh} {H H' : Hp} {s s' : Shared}

/-- who keeps the frame of a call is known -/
noncomputable def Keeps (C : Cfg) (fv : Value) : Prop := ∀ h, C.K.In h → ∃ k, (k = Keeper.frame ∨ k = Keeper.machine ∨ k = Keeper.boundFrame) ∧ Looks (MM C) h (keeperOf fv) k
theorem keeps_builtin (id : String) : Keeps C (.builtin id) := fun _ _ => ⟨_, .inr (.inl rfl), Looks.now⟩
theorem keeps_type (T : String) : Keeps C (.type T) := fun _ _ => ⟨_, .inr (.inl rfl), Looks.now⟩
theorem keeps_in {a : Addr} (h : keepIn C.K (.ref a) = true) : Keeps C (.ref a) := fun g X => W.keeps_K h g X

theorem trees_plain (xs : List Expr) : ((treesOf xs env).any (·.1) || ([] : List (Option Str × Sem Value)).any (·.1.isNone)) = false := by
  induction xs with
  | nil => rfl
  | cons x xs ih => simpa [treesOf] using ih

/-- a call whose arguments are worked out from left to right -/
theorem args_ok {G : Glo} (K : CfgOK C G) (EV : EvOK C n R) {pos : Pos} {fv : Value} {first : List Value} {es : List E} {xs : List Expr} {vs : List V} (hk : Keeps C fv) (hm : mtEs (mtE f) sc es xs = true) (h : evs R es lo H = some (vs, H'))
    (r : Room n A) (S : St C ρ H s) (X : EnvOK C sc env ρ H s.heap lo) {E : Value → Shared → Prop} {Q : Value → Shared → Prop}
    (k : ∀ ys s' ρ', St C ρ' H' s' → Nx no ρ H s ρ' H' s' → VRs ρ' H' s'.heap vs ys → wpAny (MM C) A (call fv (first ++ ys)) Q E s') :
    wpAny (MM C) A (callWith pos fv first (backTo pos (starEach xs env)) []) Q E s := by
  rw [starEach_plain hm, backTo_plain]
  refine W.callWith_of (P := C.K.In) (trees_plain xs) hk ?_
  induction xs using List.casesOn with
  | nil =>
    induction es using List.casesOn with
    | cons _ _ => simp [mtEs] at hm
    | nil =>
      simp only [evs, Option.some.injEq, Prod.mk.injEq] at h
      obtain ⟨rfl, rfl⟩ := h
      exact evalArgs_nil3 ⟨K.X.keeps S.base, k [] _ _ S (.refl _ _ _) .nil⟩
  | cons x xs =>
    refine evalArgs_plain ?_
    exact spliced_ok EV hm h r S X E _ fun ys s₁ ρ₁ S₁ N₁ r₁ => ⟨K.X.keeps S₁.base, k ys s₁ ρ₁ S₁ N₁ r₁⟩

/-! built-in functions -/
theorem ints_items {h : Heap} {l : List V} {xs : List Value} {is : List Int} (r : VRs ρ H h l xs) (e : allInts l = some is) : ∃ ps : List (Int × Tok), xs = ps.map (fun p => Value.int p.1 p.2) ∧ ps.map (·.1) = is := by
  refine VRs.ind (q := fun l xs => ∀ is, allInts l = some is → ∃ ps : List (Int × Tok), xs = ps.map (fun p => Value.int p.1 p.2) ∧ ps.map (·.1) = is) (fun is e => ⟨[], rfl, Option.some.inj e⟩) (fun {v x l xs} r _ ih is e => ?_) r is e
  refine bsE e fun i e0 e => ?_
  refine msE e fun js e1 e2 => ?_
  refine x1a2 (ih js e1) fun ps h1 h2 => ?_
  rw [int?_some e0] at r
  exact VR.intE r fun _ => ⟨(i, _) :: ps, congrArg (_ :: ·) h1, (congrArg (i :: ·) h2).trans e2⟩

theorem bMin_spec : ∀ {l : List Int} {m : Int}, bMin l = some m → m ∈ l ∧ ∀ a ∈ l, m ≤ a := by
  have key : ∀ (l : List Int) (a : Int), l.foldl (fun a b => if b < a then b else a) a ∈ a :: l ∧ ∀ x ∈ a :: l, l.foldl (fun a b => if b < a then b else a) a ≤ x := by
    intro l
    induction l with
    | nil => intro a; simp
    | cons b l ih =>
      intro a
      refine x0a2 (ih (if b < a then b else a)) fun h1 h2 => ?_
      simp only [List.foldl_cons]
      refine ⟨?_, fun x hx => ?_⟩
      · rcases List.mem_cons.mp h1 with e | e
        · rw [e]; split <;> simp
        · simp [e]
      · have h3 := h2 _ List.mem_cons_self
        rcases List.mem_cons.mp hx with rfl | hx
        · by_cases hb : b < x
          · rw [if_pos hb] at h3 ⊢; omega
          · rw [if_neg hb] at h3 ⊢; exact h3
        · rcases List.mem_cons.mp hx with rfl | hx
          · by_cases hb : x < a
            · rw [if_pos hb] at h3 ⊢; exact h3
            · rw [if_neg hb] at h3 ⊢; omega
          · exact h2 x (List.mem_cons_of_mem _ hx)
  intro l m e
  induction l using List.casesOn with
  | nil => exact nn e
  | cons a l => simp only [bMin, Option.some.injEq] at e; subst e; exact key l a
theorem bMax_spec : ∀ {l : List Int} {m : Int}, bMax l = some m → m ∈ l ∧ ∀ a ∈ l, a ≤ m := by
  have key : ∀ (l : List Int) (a : Int), l.foldl (fun a b => if a < b then b else a) a ∈ a :: l ∧ ∀ x ∈ a :: l, x ≤ l.foldl (fun a b => if a < b then b else a) a := by
    intro l
    induction l with
    | nil => intro a; simp
    | cons b l ih =>
      intro a
      refine x0a2 (ih (if a < b then b else a)) fun h1 h2 => ?_
      simp only [List.foldl_cons]
      refine ⟨?_, fun x hx => ?_⟩
      · rcases List.mem_cons.mp h1 with e | e
        · rw [e]; split <;> simp
        · simp [e]
      · have h3 := h2 _ List.mem_cons_self
        rcases List.mem_cons.mp hx with rfl | hx
        · by_cases hb : x < b
          · rw [if_pos hb] at h3 ⊢; omega
          · rw [if_neg hb] at h3 ⊢; exact h3
        · rcases List.mem_cons.mp hx with rfl | hx
          · by_cases hb : a < x
            · rw [if_pos hb] at h3 ⊢; exact h3
            · rw [if_neg hb] at h3 ⊢; omega
          · exact h2 x (List.mem_cons_of_mem _ hx)
  intro l m e
  induction l using List.casesOn with
  | nil => exact nn e
  | cons a l => simp only [bMax, Option.some.injEq] at e; subst e; exact key l a

/-- a tree that only makes new things and hands back a plain value -/
theorem Runs.kept {v : V} {t : Sem Value} (S : St C ρ H s) (h : ∀ E Q, (∀ x s', (∀ a o, s.heap.get? a = some o → s'.heap.get? a = some o) → s'.gens = s.gens → s'.os = s.os → (∀ ρ' H' h', VR ρ' H' h' v x) → Q x s') → wpAny (MM C) A t Q E s) : Runs C A t ρ H s v H := fun E Q k =>
  h E Q fun x s' hk e2 e3 r =>
    have G := S.grow (s' := s') hk e2 e3
    k x s' ρ G.1 G.2 (r _ _ _)

noncomputable def numV : V → Int
  | .int i => i
  | .bool b => if b then 1 else 0
  | _ => 0
theorem nums_items {h : Heap} {l : List V} {xs : List Value} {is : List Int} (r : VRs ρ H h l xs) (e : toInts l = some is) : is.length = xs.length ∧ ∀ (i : Nat) (v : Value), xs[i]? = some v → NumOf (is[i]?.getD 0) v := by
  refine VRs.ind (q := fun l xs => ∀ is, toInts l = some is → is.length = xs.length ∧ ∀ (i : Nat) (v : Value), xs[i]? = some v → NumOf (is[i]?.getD 0) v) (fun is e => by rw [← Option.some.inj e]; exact ⟨rfl, fun i v e => by exact nn e⟩) (fun {v x l xs} r _ ih is e => ?_) r is e
  refine bsE e fun i e0 e => ?_
  refine msE e fun js e1 e2 => ?_
  replace ih := ih js e1
  rw [← e2]
  refine ⟨congrArg (· + 1) ih.1, fun j w ev => ?_⟩
  induction j using Nat.casesAuxOn with
  | zero =>
    rw [← Option.some.inj ev]
    rcases num?_some e0 with e | ⟨b, e, e'⟩
    · rw [e] at r; exact VR.intE r fun _ => .inl ⟨_, rfl⟩
    · rw [e] at r; exact VR.boolE r (.inr ⟨b, rfl, e'⟩)
  | succ j => exact ih.2 j w ev
theorem preSum_list : ∀ (is : List Int) (n : Nat), preSum (fun i => is[i]?.getD 0) n = (is.take n).sum
  | is, 0 => by simp [preSum]
  | is, n + 1 => by
    rw [preSum, preSum_list is n]
    rcases Nat.lt_or_ge n is.length with h | h
    · rw [List.take_add_one, List.sum_append, List.getElem?_eq_getElem h]; simp
    · rw [List.take_of_length_le h, List.take_of_length_le (Nat.le_succ_of_le h), List.getElem?_eq_none h]; simp

end
end Mini
end
section
set_option autoImplicit false
namespace Mini
open PySem PySem.Calls PyProof.Rows
open PySem.W (Frag dictOf Looks findIn typeIn keepIn makesIn plainGet hasDictIn plainOver getL)

noncomputable def biVal : Bi → Value
  | .len => .builtin "len" | .sum => .builtin "sum" | .min => .builtin "min" | .max => .builtin "max" | .abs => .builtin "abs" | .int => .type "int" | .list => .type "list" | .tuple => .type "tuple" | .dict => .type "dict"
  | .isTuple => .builtin "isinstance" | .isInt => .builtin "isinstance"
theorem boot_bi : ∀ b : Bi, bootBuiltins (biName b) = some (biVal b) := by
  intro b; induction b using Mini.Bi.casesOn <;> decide +kernel
theorem bi_in (b : Bi) : biName b ∈ biNames := by induction b using Mini.Bi.casesOn <;> decide +kernel

section
variable {C : Cfg} {sc : Scope} {env : Env} {lo : Lo} {A : Around} {R : Sems} {n : Nat} {f : Nat} {ρ ρ' : Rh} {H H' : Hp} {s s' : Shared}

theorem keeps_bi (b : Bi) : Keeps C (biVal b) := by induction b using Mini.Bi.casesOn <;> first | exact keeps_builtin _ | exact keeps_type _

theorem VRs.one {h : Heap} {v : V} {xs : List Value} (r : VRs ρ H h [v] xs) : ∃ x, xs = [x] ∧ VR ρ H h v x := by
  cases r with | cons a b => cases b; exact ⟨_, rfl, a⟩
theorem VRs.two {h : Heap} {v w : V} {xs : List Value} (r : VRs ρ H h [v, w] xs) : ∃ x y, xs = [x, y] ∧ VR ρ H h v x ∧ VR ρ H h w y := by
  cases r with | cons a b => cases b with | cons c d => cases d; exact ⟨_, _, rfl, a, c⟩

theorem len_list_ok (S : St C ρ H s) {a : Addr} {items : Array Value} {l : List V} (t : s.heap.IsList a items) (r : VRs ρ H s.heap l items.toList) (hl : okLen l.length = true) : Runs C A (call (.builtin "len") [.ref a]) ρ H s (.int l.length) H := by
  have h1 := r.length
  simp only [Array.length_toList] at h1
  have h2 := okLen_le hl
  refine Runs.here S fun E Q k => Calls.call_len_list t (by (clear hl; omega)) ?_
  rw [← h1]; exact k _ _ (.int _ _) rfl rfl rfl

theorem minmax_list (S : St C ρ H s) {a : Addr} {items : Array Value} {l : List V} {is : List Int} {m : Int} (hh : A.handled = none) (t : s.heap.IsList a items) (r : VRs ρ H s.heap l items.toList) (hi : allInts l = some is) :
    (bMin is = some m → Runs C A (call (.builtin "min") [.ref a]) ρ H s (.int m) H) ∧ (bMax is = some m → Runs C A (call (.builtin "max") [.ref a]) ρ H s (.int m) H) := by
  obtain ⟨ps, e1, rfl⟩ := ints_items r hi
  have e2 : items = intItems ps.toArray := by
    apply Array.toList_inj.mp
    rw [e1]; simp [intItems]
  subst e2
  have at_ : ∀ i, i < ps.length → numAt ps.toArray i ∈ ps.map (·.1) := fun i hi => by
    simp only [numAt, List.getElem?_toArray]
    rw [List.getElem?_eq_getElem hi]
    exact List.mem_map.mpr ⟨ps[i], List.getElem_mem hi, rfl⟩
  have of_ : ∀ b ∈ ps.map (·.1), ∃ i, i < ps.length ∧ numAt ps.toArray i = b := fun b hb => by
    obtain ⟨p, hp, rfl⟩ := List.mem_map.mp hb
    obtain ⟨i, hi, rfl⟩ := List.getElem_of_mem hp
    exact ⟨i, hi, by simp [numAt, List.getElem?_eq_getElem hi]⟩
  refine ⟨fun hm => ?_, fun hm => ?_⟩
  · refine x0a2 (bMin_spec hm) fun h1 h2 => ?_
    refine x1a2 (of_ m h1) fun j hj ej => ?_
    have hsz : 0 < ps.toArray.size := by simp; (clear ej hm e1 hi hh; omega)
    refine x0a2 (argBest_lt (numAt ps.toArray) (ps.toArray.size - 1)) fun g1 g2 => ?_
    refine Runs.kept S fun E Q k => min_intList hh t hsz fun v h' tk hv hk => ?_
    obtain ⟨u, rfl⟩ := intItems_at hv
    have lt : argBest (fun i j => decide (numAt ps.toArray i < numAt ps.toArray j)) (ps.toArray.size - 1) < ps.length := by simp at hsz g1 ⊢; (clear hsz hv ej hm e1 hi hh; omega)
    have q1 := h2 _ (at_ _ lt)
    have q2 := g2 j (by simp; (clear q1 lt hv g1 hsz ej hm e1 hi hh; omega))
    have e : numAt ps.toArray (argBest (fun i j => decide (numAt ps.toArray i < numAt ps.toArray j)) (ps.toArray.size - 1)) = m := by (clear lt hv g1 hsz hj hm e1 hi hh; omega)
    exact k _ _ hk rfl rfl fun _ _ _ => by rw [e]; exact .int _ _
  · refine x0a2 (bMax_spec hm) fun h1 h2 => ?_
    refine x1a2 (of_ m h1) fun j hj ej => ?_
    have hsz : 0 < ps.toArray.size := by simp; (clear ej hm e1 hi hh; omega)
    refine x0a2 (argBest_gt (numAt ps.toArray) (ps.toArray.size - 1)) fun g1 g2 => ?_
    refine Runs.kept S fun E Q k => max_intList hh t hsz fun v h' tk hv hk => ?_
    obtain ⟨u, rfl⟩ := intItems_at hv
    have lt : argBest (fun i j => decide (numAt ps.toArray i > numAt ps.toArray j)) (ps.toArray.size - 1) < ps.length := by simp at hsz g1 ⊢; (clear hsz hv ej hm e1 hi hh; omega)
    have q1 := h2 _ (at_ _ lt)
    have q2 := g2 j (by simp; (clear q1 lt hv g1 hsz ej hm e1 hi hh; omega))
    have e : numAt ps.toArray (argBest (fun i j => decide (numAt ps.toArray i > numAt ps.toArray j)) (ps.toArray.size - 1)) = m := by (clear lt hv g1 hsz hj hm e1 hi hh; omega)
    exact k _ _ hk rfl rfl fun _ _ _ => by rw [e]; exact .int _ _

theorem sum_ok (S : St C ρ H s) {a : Addr} {items : Array Value} {l : List V} {is : List Int} (hh : A.handled = none) (t : s.heap.IsList a items) (r : VRs ρ H s.heap l items.toList) (hi : toInts l = some is) :
    Runs C A (call (.builtin "sum") [.ref a]) ρ H s (.int is.sum) H := by
  refine x0a2 (nums_items r hi) fun h1 h2 => ?_
  have hlt : a < s.heap.objs.size := by refine x1a2 t fun _ e _ => ?_; exact Heap.lt_size e
  intro E Q k
  refine call_sum_walkAnyB (wpAny_pyIter_list t ?_)
  refine ⟨_, _, _, _, _, _, _, fun i => is[i]?.getD 0, rfl, (Walks.list (A := A.in1) hh s.heap.objs.size a (Nat.ne_of_lt hlt) items).toS, ⟨⟨_, Heap.get?_push_size _ rfl, rfl, rfl⟩, t.push _⟩, fun b hb => ?_, fun i v hv => ?_, fun s' t' hm => ?_⟩
  · show b < (s.heap.push _).objs.size
    rw [Heap.size_push]
    rcases List.mem_cons.mp hb with rfl | hb
    · exact Nat.lt_succ_self _
    · rcases List.mem_cons.mp hb with rfl | hb
      · exact Nat.lt_succ_of_lt hlt
      · cases hb
  · exact h2 i v (by simpa using hv)
  · rw [preSum_list, List.take_of_length_le (by rw [h1]; simp)]
    refine x0a2 (S.grow (s' := s') (fun b o e => hm.heap b o (fun hb => by
      rcases List.mem_cons.mp hb with e1 | hb
      · exact absurd (e1 ▸ Heap.lt_size e) (Nat.lt_irrefl _)
      · cases hb) (Heap.get?_push_of_some _ e)) hm.gens hm.os) fun S' N => ?_
    exact k _ _ _ S' N (.int _ _)

theorem minArgs_some {vs : List V} {is : List Int} (h : minArgs vs = some is) : (∃ l, vs = [.lst l] ∧ allInts l = some is) ∨ ∃ a b, vs = [.int a, .int b] ∧ is = [a, b] := by
  induction vs using List.casesOn with
  | nil => exact nn h
  | cons v l => induction l using List.casesOn with
    | nil =>
      (refine bsE h fun l e hh_ => ?_; clear h; revert hh_; intro h)
      obtain rfl := lst?_some e
      exact .inl ⟨l, rfl, h⟩
    | cons w l => induction l using List.casesOn with
      | cons _ _ => exact nn h
      | nil =>
        (refine bsE h fun a ea hh_ => ?_; clear h; revert hh_; intro h)
        refine msE h fun r h e => ?_
        (refine bsE h fun b eb hh_ => ?_; clear h; revert hh_; intro h)
        obtain rfl := int?_some ea
        obtain rfl := int?_some eb
        cases h
        cases e
        exact .inr ⟨a, b, rfl, rfl⟩

theorem bi_len (S : St C ρ H s) {w : V} {x : Value} {m : Nat} (rx : VR ρ H s.heap w x) (hm : lenV H w = some m) (hl : okLen m = true) : Runs C A (call (.builtin "len") [x]) ρ H s (.int m) H := by
  cases hr : w.ref? with
  | some i =>
    rw [ref?_some hr] at rx hm
    refine bsE hm fun o hn ha => ?_
    refine msE ha fun l hl' hb => ?_
    rw [list?_some hl'] at hn
    obtain ⟨p, hp, e0, e, items, t, rr⟩ := S.ref_obj rx hn
    rw [e0, ← hb]
    exact len_list_ok S t.isList rr (hb ▸ hl)
  | none =>
    have h0 : (items w).map (·.length) = some m := by induction w using Mini.V.casesOn <;> first | exact hm | cases hr
    refine msE h0 fun l hi hb => ?_
    rw [← hb] at hl ⊢
    rcases items_some hi with e | e
    · rw [e] at rx
      refine VR.tupE rx fun {_ _} t rr => ?_
      have h1 := rr.length
      simp only [Array.length_toList] at h1
      have h2 := okLen_le hl
      refine Runs.here S fun E Q k => PyProof.Rows.len_tuple t (by clear e hi h0 hm hb; omega) ?_
      rw [← h1]; exact k _ _ (.int _ _) rfl rfl rfl
    · rw [e] at rx
      exact VR.lstE rx fun {_ _} t _ rr => len_list_ok S t rr hl
theorem bi_list (S : St C ρ H s) {l : List V} {x : Value} (rx : VR ρ H s.heap (.lst l) x) (hl : okLen l.length = true) : Runs C A (call (.type "list") [x]) ρ H s (.lst l) H := by
  refine VR.lstE rx fun {_ _} t nn rr => ?_
  have h1 := rr.length
  simp only [Array.length_toList] at h1
  have h2 := okLen_le hl
  refine t5 t fun o ho hc m hd => ?_
  intro E Q k
  refine call_list_seq (T := "list") _ (.inl rfl) ho hc hd (fun h' c' hk hg => ?_) (by rw [sizeLine_big]; (clear hd hc ho; omega))
  have G := S.grow (s' := { s with heap := h' }) hk rfl rfl
  exact k _ _ _ G.1 G.2 (.lst ⟨_, hg, rfl, _, rfl⟩ S.shy (rr.lasts (G.2.lasts S)))
theorem bi_tup (S : St C ρ H s) {l : List V} {x : Value} (rx : VR ρ H s.heap (.lst l) x) (hl : okLen l.length = true) : Runs C A (call (.type "tuple") [x]) ρ H s (.tup l) H := by
  refine VR.lstE rx fun {_ _} t nn rr => ?_
  have h1 := rr.length
  simp only [Array.length_toList] at h1
  have h2 := okLen_le hl
  intro E Q k
  refine call_tuple_list t (fun h' hk => ?_) (by rw [sizeLine_big]; omega)
  have G := S.grow (s' := { s with heap := h' }) hk rfl rfl
  have G2 := push_tup G.1 (rr.lasts (G.2.lasts S)) (tk := s.toks)
  exact k _ _ _ G2.1 (G.2.trans G2.2.1) G2.2.2
theorem bi_min (S : St C ρ H s) (hh : A.handled = none) {vs : List V} {ys : List Value} {is : List Int} {m : Int} (r : VRs ρ H s.heap vs ys) (hi : minArgs vs = some is) (hm : bMin is = some m) : Runs C A (call (.builtin "min") ys) ρ H s (.int m) H := by
  rcases minArgs_some hi with ⟨l, e, hi⟩ | ⟨a, b, e, e2⟩
  · rw [e] at r
    refine x1a2 r.one fun x e3 rx => ?_
    rw [e3]
    exact VR.lstE rx fun {_ _} t _ rr => (minmax_list S hh t rr hi).1 hm
  · rw [e] at r
    refine x2a3 r.two fun x y e3 rx ry => ?_
    rw [e3]
    rw [e2] at hm
    refine VR.intE rx fun _ => VR.intE ry fun _ => Runs.kept S fun E Q k => min_two_ints hh fun h' tk hk => k _ _ hk rfl rfl fun _ _ _ => ?_
    rw [← Option.some.inj hm]
    simp only [List.foldl]
    split <;> exact .int _ _
theorem bi_max (S : St C ρ H s) (hh : A.handled = none) {vs : List V} {ys : List Value} {is : List Int} {m : Int} (r : VRs ρ H s.heap vs ys) (hi : minArgs vs = some is) (hm : bMax is = some m) : Runs C A (call (.builtin "max") ys) ρ H s (.int m) H := by
  rcases minArgs_some hi with ⟨l, e, hi⟩ | ⟨a, b, e, e2⟩
  · rw [e] at r
    refine x1a2 r.one fun x e3 rx => ?_
    rw [e3]
    exact VR.lstE rx fun {_ _} t _ rr => (minmax_list S hh t rr hi).2 hm
  · rw [e] at r
    refine x2a3 r.two fun x y e3 rx ry => ?_
    rw [e3]
    rw [e2] at hm
    refine VR.intE rx fun _ => VR.intE ry fun _ => Runs.kept S fun E Q k => max_two_ints hh fun h' tk hk => k _ _ hk rfl rfl fun _ _ _ => ?_
    rw [← Option.some.inj hm]
    show VR _ _ _ (.int (if a < b then b else a)) (if b > a then _ else _)
    by_cases q : a < b
    · rw [if_pos q, if_pos (show b > a from q)]; exact .int _ _
    · rw [if_neg q, if_neg (show ¬ b > a from q)]; exact .int _ _
theorem callBi_ok {b : Bi} {vs : List V} {ys : List Value} {v : V} (S : St C ρ H s) (hh : A.handled = none) (r : VRs ρ H s.heap vs ys) (h : callBi b vs H = some (v, H')) (hb : b ≠ .isTuple ∧ b ≠ .isInt ∧ b ≠ .dict) :
    Runs C A (call (biVal b) ys) ρ H s v H' := by
  have one : ∀ {w : V}, one? vs = some w → ∃ x, ys = [x] ∧ VR ρ H s.heap w x := fun hw => (show VRs ρ H s.heap [_] ys from one?_some hw ▸ r).one
  cases b with
  | isTuple => exact absurd rfl hb.1
  | isInt => exact absurd rfl hb.2.1
  | dict => exact absurd rfl hb.2.2
  | len =>
    refine bsE h fun w hw ha => ?_
    refine x1a2 (one hw) fun x e rx => ?_
    refine bsE ha fun m hm hc => ?_
    refine itE hc fun hl hd => ?_
    rw [e]
    exact .eqs hd (bi_len S rx hm hl)
  | sum =>
    refine bsE h fun w hw ha => ?_
    refine x1a2 (one hw) fun x e rx => ?_
    refine bsE ha fun l hl hc => ?_
    refine bsE hc fun is hi hd => ?_
    rw [e]
    rw [lst?_some hl] at rx
    exact .eqs (ite_some hd).2 (VR.lstE rx fun {_ _} t _ rr => sum_ok S hh t rr hi)
  | min =>
    refine bsE h fun is hi ha => ?_
    refine msE ha fun m hm hc => ?_
    exact .eq hc (bi_min S hh r hi hm)
  | max =>
    refine bsE h fun is hi ha => ?_
    refine msE ha fun m hm hc => ?_
    exact .eq hc (bi_max S hh r hi hm)
  | abs =>
    refine bsE h fun w hw ha => ?_
    refine x1a2 (one hw) fun x e rx => ?_
    refine msE ha fun a hi hc => ?_
    rw [e]
    rw [int?_some hi] at rx
    refine .eq hc (VR.intE rx fun _ => Runs.here S fun E Q k => PyProof.Rows.call_abs_int fun u tk => ?_)
    have e : (if a < 0 then -a else a) = (a.natAbs : Int) := by clear hc ha h; split <;> omega
    rw [e]; exact k _ _ (.int _ _) rfl rfl rfl
  | int =>
    refine bsE h fun w hw ha => ?_
    refine x1a2 (one hw) fun x e rx => ?_
    refine msE ha fun a hi hc => ?_
    rw [e]
    refine .eq hc ?_
    rcases num?_some hi with e | ⟨b, e, e2⟩
    · rw [e] at rx
      exact VR.intE rx fun _ => Runs.here S fun E Q k => call_int_int (k _ _ (.int _ _) rfl rfl rfl)
    · rw [e] at rx
      rw [e2]
      exact VR.boolE rx (Runs.here S fun E Q k => call_int_bool (k _ _ (.int _ _) rfl rfl rfl))
  | list =>
    refine bsE h fun w hw ha => ?_
    refine x1a2 (one hw) fun x e rx => ?_
    refine bsE ha fun l hl' hc => ?_
    refine itE hc fun hl hd => ?_
    rw [e]
    rw [lst?_some hl'] at rx
    exact .eqs hd (bi_list S rx hl)
  | tuple =>
    refine bsE h fun w hw ha => ?_
    refine x1a2 (one hw) fun x e rx => ?_
    refine bsE ha fun l hl' hc => ?_
    refine itE hc fun hl hd => ?_
    rw [e]
    refine .eqs hd ?_
    rcases items_some hl' with e | e
    · rw [e] at rx
      exact VR.tupE rx fun {_ _} t rr => Runs.here S fun E Q k => call_tuple_same t (k _ _ (.tup t rr) rfl rfl rfl)
    · rw [e] at rx
      exact bi_tup S rx hl

end
end Mini
end
section
set_option autoImplicit false
namespace Mini
open PySem PySem.Calls PyProof.Rows
open PySem.W (Frag dictOf Looks findIn typeIn keepIn makesIn plainGet hasDictIn plainOver getL)

/-- an object of the machine's own, that no value shows and that is no list and no tuple -/
structure Loose (C : Cfg) (ρ : Rh) (h : Heap) (a : Addr) : Prop where
  here : ∃ o, h.get? a = some o ∧ ∀ xs n, o.data ≠ .seq xs n
  new : C.base.get? a = none
  apart : ∀ (i : Nat) (p : Addr × Addr), ρ[i]? = some p → p.1 ≠ a ∧ p.2 ≠ a
  z : a ∉ ρ.z

section
variable {C : Cfg} {sc : Scope} {env : Env} {lo : Lo} {A : Around} {R : Sems} {n : Nat} {f : Nat} {ρ ρ' : Rh} {H H' : Hp} {s s' : Shared} {W : Addr → Prop} {a : Addr}

theorem Loose.own (L : Loose C ρ s.heap a) : ¬ Own ρ H a := by
  rintro ⟨i, p, o, hp, _, _, e⟩
  refine x0a2 (L.apart i p hp) fun n1 n2 => ?_
  rcases e with e | e
  · exact n1 e.symm
  · exact n2 e.symm
theorem Loose.next (L : Loose C ρ s.heap a) (N : Nx W ρ H s ρ' H' s') (w : ¬ W a) : Loose C ρ' s'.heap a := by
  refine x1a2 L.here fun o ho hd => ?_
  refine ⟨⟨o, N.keep a o ho L.own w, hd⟩, L.new, fun i p hp => ?_, by rw [N.z]; exact L.z⟩
  rcases N.news i p hp with e | ⟨e1, e2⟩
  · exact L.apart i p e
  · exact ⟨fun q => (by rw [q, ho] at e1; cases e1), fun q => (by rw [q, ho] at e2; cases e2)⟩
theorem Loose.made (S : St C ρ H s) {o : Obj} (ho : s'.heap.get? a = some o) (hd : ∀ xs n, o.data ≠ .seq xs n) (h0 : s.heap.get? a = none) : Loose C ρ s'.heap a := by
  refine ⟨⟨o, ho, hd⟩, ?_, fun i p hp => ?_, fun m => ?_⟩
  · cases e : C.base.get? a with
    | none => rfl
    | some x => rw [S.base _ _ e] at h0; cases h0
  · obtain ⟨⟨x, hx⟩, y, hy⟩ := S.here i p hp
    exact ⟨fun q => (by rw [q, h0] at hx; exact nn hx), fun q => (by rw [q, h0] at hy; exact nn hy)⟩
  · obtain ⟨⟨x, hx⟩, _⟩ := S.hid _ m
    rw [h0] at hx; exact nn hx

/-- a loose object turns, or goes -/
theorem St.turnL (S : St C ρ H s) (L : Loose C ρ s.heap a) (hk : ∀ b o, b ≠ a → s.heap.get? b = some o → s'.heap.get? b = some o) (hg : s'.gens = s.gens) (hos : s'.os = s.os) :
    St C ρ H s' ∧ Lasts ρ H s.heap ρ H s'.heap := by
  refine x1a2 L.here fun o ho hd => ?_
  have La : Lasts ρ H s.heap ρ H s'.heap := by
    refine ⟨List.prefix_refl _, fun b items t => ?_, fun b items t m => ⟨?_, m⟩⟩
    · refine t5 t fun x hx hc k hd' => ?_
      refine ⟨x, hk b x (fun e => ?_) hx, hc, k, hd'⟩
      rw [e, ho] at hx; cases hx; exact hd _ _ hd'
    · refine t5 t fun x hx hc k hd' => ?_
      refine ⟨x, hk b x (fun e => ?_) hx, hc, k, hd'⟩
      rw [e, ho] at hx; cases hx; exact hd _ _ hd'
  refine ⟨⟨fun b x e => hk b x (fun q => by rw [q, L.new] at e; exact nn e) (S.base b x e), hg.trans S.gens, hos.trans S.os, S.len, fun i x p h1 h2 => ?_, S.apart, S.new, fun b hb => ?_, S.zap, fun i p hp => ?_⟩, La⟩
  · refine x0a2 (L.apart i p h2) fun n1 n2 => ?_
    exact (S.objs i x p h1 h2).lasts La (fun y e => hk _ y n1 e) (fun y e => hk _ y n2 e)
  · obtain ⟨⟨x, hx⟩, nb⟩ := S.hid b hb
    exact ⟨⟨x, hk b x (fun e => L.z (e ▸ hb)) hx⟩, nb⟩
  · obtain ⟨⟨x, hx⟩, y, hy⟩ := S.here i p hp
    refine x0a2 (L.apart i p hp) fun n1 n2 => ?_
    exact ⟨⟨x, hk _ x n1 hx⟩, y, hk _ y n2 hy⟩
theorem nx_turnL (L : Loose C ρ s.heap a) (hk : ∀ b o, b ≠ a → s.heap.get? b = some o → s'.heap.get? b = some o) (hp : ∃ o, s'.heap.get? a = some o) : Nx (· = a) ρ H s ρ H s' := by
  refine x1a2 L.here fun o ho hd => ?_
  refine ⟨List.prefix_refl _, rfl, fun b x e _ w => hk b x w e, fun _ m => .inl m, fun b x e => ?_, fun b x w e => .inl ?_, fun _ _ e => .inl e⟩
  · by_cases q : b = a
    · exact q ▸ hp
    · exact ⟨x, hk b x q e⟩
  · intro xs m hx
    have w : b = a := w
    rw [w, ho] at e; cases e; exact hd _ _ hx

/-! what is walked over -/
inductive ItR (ρ : Rh) (H : Hp) (h : Heap) (I : Addr) : List V → Prop
  | list {l : Addr} {items : Array Value} {i : Nat} {vs : List V} : h.IsListIter I l i → h.IsList l items → ¬ Shy ρ H l → VRs ρ H h vs (items.toList.drop i) → ItR ρ H h I vs
  | tup {l : Addr} {items : Array Value} {i : Nat} {vs : List V} : h.IsTupleIter I l i → h.IsTuple l items → VRs ρ H h vs (items.toList.drop i) → ItR ρ H h I vs
  | range {x : Int} {k : Nat} : IsRangeIter h I x (k : Int) 1 → ItR ρ H h I ((List.range k).map fun (j : Nat) => V.int (x + (j : Int)))

theorem ItR.keep {h h' : Heap} {I : Addr} {vs : List V} (x : ItR ρ H h I vs) (L : Lasts ρ H h ρ' H' h') (k : ∀ o, h.get? I = some o → h'.get? I = some o) : ItR ρ' H' h' I vs := by
  induction x using Mini.ItR.casesOn with
  | list a b c d =>
    refine x1a2 a fun o ho r => ?_
    exact .list ⟨o, k o ho, r⟩ (L.lst _ _ b c).1 (L.lst _ _ b c).2 (d.lasts L)
  | tup a b d =>
    refine x1a2 a fun o ho r => ?_
    exact .tup ⟨o, k o ho, r⟩ (L.tup _ _ b) (d.lasts L)
  | range a => exact .range (k _ a)

theorem VRs.dropCons {h : Heap} {v : V} {vs : List V} {xs : List Value} {i : Nat} (r : VRs ρ H h (v :: vs) (xs.drop i)) : ∃ x, xs[i]? = some x ∧ VR ρ H h v x ∧ VRs ρ H h vs (xs.drop (i + 1)) := by
  generalize hd : xs.drop i = ys at r
  cases r with
  | @cons _ x _ ys' a b =>
    have h1 : xs[i]? = some x := by
      have : (xs.drop i)[0]? = some x := by rw [hd]; rfl
      simpa using this
    have h2 : xs.drop (i + 1) = ys' := by
      rw [← List.drop_drop, hd]; rfl
    exact ⟨x, h1, a, h2 ▸ b⟩
theorem VRs.dropNil {h : Heap} {xs : List Value} {i : Nat} (r : VRs ρ H h [] (xs.drop i)) : xs[i]? = none := by
  generalize hd : xs.drop i = ys at r
  cases r
  rw [List.drop_eq_nil_iff] at hd
  exact List.getElem?_eq_none hd

theorem ItR.step {I : Addr} {v : V} {vs : List V} (x : ItR ρ H s.heap I (v :: vs)) (S : St C ρ H s) (L : Loose C ρ s.heap I) {E : Value → Shared → Prop} {Q : Option Value → Shared → Prop}
    (k : ∀ y s', St C ρ H s' → Nx (· = I) ρ H s ρ H s' → (∀ q o, q ≠ I → s.heap.get? q = some o → s'.heap.get? q = some o) → ItR ρ H s'.heap I vs → Loose C ρ s'.heap I → VR ρ H s'.heap v y → Q (some y) s') : wpAny (MM C) A (pyNext (.ref I)) Q E s := by
  have L0 := L
  refine x1a2 L.here fun o ho hd => ?_
  have loose : ∀ {h' : Heap} {o' : Obj}, h'.get? I = some o' → (∀ xs n, o'.data ≠ .seq xs n) → Loose C ρ h' I := fun e d => ⟨⟨_, e, d⟩, L.new, L.apart, L.z⟩
  generalize hw : v :: vs = ws at x
  induction x using Mini.ItR.casesOn with
  | @list l items i _ a b c d =>
    subst hw
    refine x1a3 d.dropCons fun y hy r1 r2 => ?_
    refine wpAny_pyNext_list_item a b (by simpa using hy) fun h' hit hs => ?_
    have hne : l ≠ I := fun e => by
      refine x1a3 a fun o1 h1 c1 _ => ?_
      refine x1a3 b fun o2 h2 c2 _ => ?_
      rw [e, h1] at h2; cases h2; rw [c1] at c2; exact absurd c2 (by decide)
    have hk : ∀ q o, q ≠ I → s.heap.get? q = some o → h'.get? q = some o := fun q o e g => (hs.2 q e).trans g
    refine x1a3 (id hit) fun o' ho' hc' hd' => ?_
    refine x0a2 (S.turnL (s' := { s with heap := h' }) L hk rfl rfl) fun S' La => ?_
    exact k y _ S' (nx_turnL L hk ⟨o', ho'⟩) hk (.list hit (La.lst _ _ b c).1 c (r2.lasts La)) (loose ho' (by rw [hd']; intro _ _ z; cases z)) (r1.lasts La)
  | @tup l items i _ a b d =>
    subst hw
    refine x1a3 d.dropCons fun y hy r1 r2 => ?_
    refine wpAny_pyNext_tuple_item a b (by simpa using hy) fun h' hit hs => ?_
    have hk : ∀ q o, q ≠ I → s.heap.get? q = some o → h'.get? q = some o := fun q o e g => (hs.2 q e).trans g
    refine x1a3 (id hit) fun o' ho' hc' hd' => ?_
    refine x0a2 (S.turnL (s' := { s with heap := h' }) L hk rfl rfl) fun S' La => ?_
    exact k y _ S' (nx_turnL L hk ⟨o', ho'⟩) hk (.tup hit (La.tup _ _ b) (r2.lasts La)) (loose ho' (by rw [hd']; intro _ _ z; cases z)) (r1.lasts La)
  | @range x m a =>
    induction m using Nat.casesAuxOn with
    | zero => cases hw
    | succ m =>
      rw [List.range_succ_eq_map, List.map_cons, List.map_map] at hw
      simp only [List.cons.injEq] at hw
      obtain ⟨rfl, rfl⟩ := hw
      refine wpAny_pyNext_range_item a (by (clear ho; lia)) fun h' hit hs => ?_
      have hk : ∀ q o, q ≠ I → s.heap.get? q = some o → h'.get? q = some o := fun q o e g => (hs.2 q e).trans g
      refine x0a2 (S.turnL (s' := { s with heap := h', toks := s.toks + 1 }) L hk rfl rfl) fun S' La => ?_
      refine k _ _ S' (nx_turnL L hk ⟨_, hit⟩) hk ?_ (loose hit (by intro _ _ z; cases z)) ?_
      · have e : ((fun (j : Nat) => V.int (x + (j : Int))) ∘ Nat.succ) = fun (j : Nat) => V.int (x + 1 + (j : Int)) := by
          funext j; simp only [Function.comp]; congr 1; (clear ho; lia)
        rw [e]
        refine .range ?_
        have e2 : (((m + 1 : Nat) : Int) - 1) = (m : Int) := by (clear e ho; lia)
        rw [e2] at hit; exact hit
      · have e : x + ((0 : Nat) : Int) = x := by (clear ho; lia)
        rw [e]; exact .int _ _

theorem ItR.stop {I : Addr} (x : ItR ρ H s.heap I []) (S : St C ρ H s) (L : Loose C ρ s.heap I) (hh : A.handled = none) {E : Value → Shared → Prop} {Q : Option Value → Shared → Prop}
    (k : ∀ s', St C ρ H s' → Lasts ρ H s.heap ρ H s'.heap → (∀ q o, q ≠ I → s.heap.get? q = some o → s'.heap.get? q = some o) → Q none s') : wpAny (MM C) A (pyNext (.ref I)) Q E s := by
  have fin : ∀ h', Heap.ExtBut I s.heap h' → Q none { s with heap := h' } := fun h' hs => by
    have hk : ∀ q o, q ≠ I → s.heap.get? q = some o → h'.get? q = some o := fun q o e g => hs q o e g
    refine x0a2 (S.turnL (s' := { s with heap := h' }) L hk rfl rfl) fun S' La => ?_
    exact k _ S' La hk
  generalize hw : ([] : List V) = ws at x
  induction x using Mini.ItR.casesOn with
  | list a b c d =>
    subst hw
    exact wpAny_pyNext_list_end hh a b (by simpa using d.dropNil) fin
  | tup a b d =>
    subst hw
    exact wpAny_pyNext_tuple_end hh a b (by simpa using d.dropNil) fin
  | @range x m a =>
    induction m using Nat.casesAuxOn with
    | zero => exact wpAny_pyNext_range_end hh a (by (clear hw hh; lia)) fin
    | succ m => rw [List.range_succ_eq_map] at hw; cases hw

theorem ItR.again {I : Addr} {vs : List V} (x : ItR ρ H s.heap I vs) {E : Value → Shared → Prop} {Q : Value → Shared → Prop} (k : Q (.ref I) s) : wpAny (MM C) A (pyIter (.ref I)) Q E s := by
  induction x using Mini.ItR.casesOn with
  | list a b c d => exact wpAny_pyIter_listiter a k
  | tup a b d => exact wpAny_pyIter_tupleiter a k
  | range a => exact wpAny_pyIter_rangeiter a k

theorem ItR.letGo {I : Addr} {vs : List V} (x : ItR ρ H s.heap I vs) {t : Expr} {v : Value} {E : Value → Shared → Prop} {Q : Unit → Shared → Prop} (k : Q () s) : wpAny (MM C) A (letOwnedTupleGo t (.ref I) v) Q E s := by
  have key : ∃ (o : Obj) (nn : String) (vs : Array Value), s.heap.get? I = some o ∧ o.cls = .type nn ∧ o.data = .fields vs ∧ (["enumerate", "zip", "dict_itemiterator", "dict_reverseitemiterator", "odict_iterator", "itertools.zip_longest", "itertools.pairwise"].contains nn) = false := by
    induction x using Mini.ItR.casesOn with
    | list a b c d =>
      refine x1a3 a fun o ho hc hd => ?_
      exact ⟨o, _, _, ho, hc, hd, by decide⟩
    | tup a b d =>
      refine x1a3 a fun o ho hc hd => ?_
      exact ⟨o, _, _, ho, hc, hd, by decide⟩
    | range a => exact ⟨_, _, _, a, rfl, rfl, by decide⟩
  refine x3a4 key fun o nn fs ho hc hd hn => ?_
  have body : ∀ y : Addr, wpAny (MM C) A (do
      let o ← load I
      match o.cls, o.data with
      | .type n, .fields vs =>
        if ["enumerate", "zip", "dict_itemiterator", "dict_reverseitemiterator", "odict_iterator", "itertools.zip_longest", "itertools.pairwise"].contains n && vs[0]? == some (rawInt y) then
          rule "for.unpacks-the-owned-tuple"
          updateField I 0 .none
      | _, _ => pure ()) Q E s := fun y => by
    refine wpAny_bind (wpAny_load ho ?_)
    rw [hc, hd]
    show wpAny _ _ (if _ = true then _ else _) _ _ _
    rw [hn, Bool.false_and, if_neg Bool.false_ne_true]
    exact wpAny_pure k
  unfold letOwnedTupleGo
  induction t using PySem.Expr.casesOn <;> first | exact wpAny_pure k | (induction v using PySem.Value.casesOn <;> first | exact wpAny_pure k | exact body _)
end
end Mini
end
section
set_option autoImplicit false
namespace Mini
open PySem PySem.Calls PyProof.Rows
open PySem.W (Frag dictOf Looks findIn typeIn keepIn makesIn plainGet hasDictIn plainOver getL)

theorem boot_range : bootBuiltins "range" = some (.type "range") := by decide +kernel

section
variable {C : Cfg} {sc : Scope} {env : Env} {lo : Lo} {A : Around} {R : Sems} {n : Nat} {f : Nat} {ρ ρ' : Rh} {H H' : Hp} {s s' : Shared} {W : Addr → Prop} {a : Addr}

theorem Nx.absent (N : Nx no ρ H s ρ' H' s') {x : Addr} (e : s'.heap.get? x = none) : s.heap.get? x = none := N.none_of e

theorem iter_vals (S : St C ρ H s) {v : V} {vs : List V} {xv : Value} (r : VR ρ H s.heap v xv) (h : items v = some vs) {E : Value → Shared → Prop} {Q : Value → Shared → Prop}
    (k : ∀ I s', St C ρ H s' → Nx no ρ H s ρ H s' → ItR ρ H s'.heap I vs → Loose C ρ s'.heap I → s.heap.get? I = none → Q (.ref I) s') : wpAny (MM C) A (pyIter xv) Q E s := by
  rcases items_some h with rfl | rfl
  · cases h
    refine VR.tupE r fun {_ _} t rr => ?_
    ·
      refine wpAny_pyIter_tuple t ?_
      obtain ⟨S', N⟩ := S.grow (s' := { s with heap := s.heap.push { cls := .type "tuple_iterator", data := .fields #[.ref _, .int 0 0] } }) (fun a o e => Heap.get?_push_of_some _ e) rfl rfl
      have La := N.lasts S
      exact k _ _ S' N (.tup ⟨_, Heap.get?_push_size _ rfl, rfl, rfl⟩ (La.tup _ _ t) (by simpa using rr.lasts La)) (Loose.made S (Heap.get?_push_size _ rfl) (by intro _ _ z; cases z) (get?_end _)) (get?_end _)
  · cases h
    refine VR.lstE r fun {_ _} t nn rr => ?_
    ·
      refine wpAny_pyIter_list t ?_
      obtain ⟨S', N⟩ := S.grow (s' := { s with heap := s.heap.push { cls := .type "list_iterator", data := .fields #[.ref _, .int 0 0] } }) (fun a o e => Heap.get?_push_of_some _ e) rfl rfl
      have La := N.lasts S
      exact k _ _ S' N (.list ⟨_, Heap.get?_push_size _ rfl, rfl, rfl⟩ (La.lst _ _ t nn).1 nn (by simpa using rr.lasts La)) (Loose.made S (Heap.get?_push_size _ rfl) (by intro _ _ z; cases z) (get?_end _)) (get?_end _)

theorem iter_range (S : St C ρ H s) {r : Addr} {a b : Int} {t u w : Tok} (hr : IsRange s.heap r a b 1 t u w) (ha : okInt a = true) (hb : okInt b = true) {E : Value → Shared → Prop} {Q : Value → Shared → Prop}
    (k : ∀ I s', St C ρ H s' → Nx no ρ H s ρ H s' → ItR ρ H s'.heap I ((List.range (b - a).toNat).map fun (j : Nat) => V.int (a + (j : Int))) → Loose C ρ s'.heap I → s.heap.get? I = none → Q (.ref I) s') : wpAny (MM C) A (pyIter (.ref r)) Q E s := by
  have ha := okInt_lt ha
  have hb := okInt_lt hb
  refine wpAny_pyIter_range hr (small_one (by lia) (by lia) (by lia) (by lia)) ?_
  refine x0a2 (S.grow (s' := { s with heap := s.heap.push { cls := .type "range_iterator", data := .fields #[rawInt a, rawInt (Builtin.Range.rangeSize a b 1), rawInt 1] } }) (fun a o e => Heap.get?_push_of_some _ e) rfl rfl) fun S' N => ?_
  refine k _ _ S' N (.range ?_) (Loose.made S (Heap.get?_push_size _ rfl) (by intro _ _ z; cases z) (get?_end _)) (get?_end _)
  have e : (((b - a).toNat : Nat) : Int) = Builtin.Range.rangeSize a b 1 := by rw [rangeSize_one]; split <;> lia
  rw [e]
  exact Heap.get?_push_size _ rfl

theorem it_ok {G : Glo} (K : CfgOK C G) (EV : EvOK C n R) {e : E} {x : Expr} {vs : List V} (hm : mtIt (mtE f) sc e x = true) (h : evIt R e lo H = some (vs, H'))
    (r : Room n A) (S : St C ρ H s) (X : EnvOK C sc env ρ H s.heap lo) {E : Value → Shared → Prop} {Q : Value → Shared → Prop}
    (k : ∀ I s' ρ', St C ρ' H' s' → Nx no ρ H s ρ' H' s' → ItR ρ' H' s'.heap I vs → Loose C ρ' s'.heap I → s.heap.get? I = none → Q (.ref I) s') :
    wpAny (MM C) A (eval x env) (fun xv s₁ => wpAny (MM C) A (pyIter xv) Q E s₁) E s := by
  unfold mtIt at hm
  unfold evIt at h
  cases hp : e.range? with
  | none =>
    rw [hp] at hm h
    (refine bpE h fun v H1 h1 hh_ => ?_; clear h; revert hh_; intro h)
    (refine msE h fun l h2 hh_ => ?_; clear h; revert hh_; intro h)
    (revert k; apply pinjE h; clear h; intro k)
    refine EV f sc env e x lo H v _ hm h1 A s ρ r S X E _ fun y s₁ ρ₁ S₁ N₁ r₁ => ?_
    exact iter_vals S₁ r₁ h2 fun I s₂ S₂ N₂ it L ab => k I s₂ ρ₁ S₂ (N₁.trans N₂) it L (N₁.none_of ab)
  | some l =>
    rw [hp] at hm h
    have hx := bk_of (and_l hm)
    have hm' := and2 (and_r hm)
    refine x1a3 (isGlob_of hm'.1) fun pp hy hl hd => ?_
    rw [hx, show bk 11 (pt x) = .Call (pt x).a (pt x).l [] (pt x).p from rfl, hy]
    (refine bpE h fun ws H1 h1 hh_ => ?_; clear h; revert hh_; intro h)
    (refine bsE h fun is hi hh_ => ?_; clear h; revert hh_; intro h)
    (refine msE h fun l h2 hh_ => ?_; clear h; revert hh_; intro h)
    (revert k; apply pinjE h; clear h; intro k)
    refine Call_Name rfl ?_
    refine wpAny_Name (loadBlt_ok K X S hl (by decide +kernel) boot_range ?_) hd
    refine args_ok K EV (keeps_type _) hm'.2 h1 r S X fun ys s₁ ρ₁ S₁ N₁ r₁ => ?_
    refine x1a2 (ints_items r₁ hi) fun ps e1 e2 => ?_
    induction ps using List.casesOn with
    | nil => cases e2; exact nn h2
    | cons u ps => induction ps using List.casesOn with
      | nil =>
        cases e1; cases e2
        (refine itE h2 fun hk hh_ => ?_; clear h2; revert hh_; intro h2)
        cases h2
        refine call_range_1 ?_
        have G := S₁.grow (s' := { s₁ with heap := s₁.heap.push { cls := .type "range", data := .fields #[.int 0 s₁.toks, .int u.1 u.2, .int 1 (s₁.toks + 1)] }, toks := s₁.toks + 1 + 1 }) (fun a o e => Heap.get?_push_of_some _ e) rfl rfl
        refine iter_range G.1 (IsRange.new _ _ _ _ _ _ _) (by decide) (and_r hk) fun I s₃ S₃ N₃ it L ab => ?_
        have e : ((List.range (u.1 - 0).toNat).map fun (j : Nat) => V.int (0 + (j : Int))) = (List.range u.1.toNat).map fun (i : Nat) => V.int (i : Int) := by simp
        rw [e] at it
        exact k I s₃ ρ₁ S₃ ((N₁.trans G.2).trans N₃) it L (N₁.none_of (G.2.none_of ab))
      | cons w ps => induction ps using List.casesOn with
        | cons _ _ => cases e2; exact nn h2
        | nil =>
          cases e1; cases e2
          (refine itE h2 fun hk hh_ => ?_; clear h2; revert hh_; intro h2)
          cases h2
          refine call_range_2 ?_
          have G := S₁.grow (s' := { s₁ with heap := s₁.heap.push { cls := .type "range", data := .fields #[.int u.1 u.2, .int w.1 w.2, .int 1 s₁.toks] }, toks := s₁.toks + 1 }) (fun a o e => Heap.get?_push_of_some _ e) rfl rfl
          refine iter_range G.1 (IsRange.new _ _ _ _ _ _ _) (and_r (and_l hk)) (and_r hk) fun I s₃ S₃ N₃ it L ab => ?_
          exact k I s₃ ρ₁ S₃ ((N₁.trans G.2).trans N₃) it L (N₁.none_of (G.2.none_of ab))
end
end Mini
end
section
set_option autoImplicit false
namespace Mini
open PySem PySem.Calls PyProof.Rows
open PySem.W (Frag dictOf Looks findIn typeIn keepIn makesIn plainGet hasDictIn plainOver getL)

section
variable {C : Cfg} {sc : Scope} {env : Env} {lo : Lo} {A : Around} {R : Sems} {n : Nat} {f : Nat} {ρ ρ' : Rh} {H H' : Hp} {s s' : Shared} {W : Addr → Prop} {a : Addr}

/-- what was turned on the way was not there before -/
theorem Nx.close {s₀ s₁ s₂ : Shared} {ρ₀ ρ₁ : Rh} {H₀ H₁ : Hp} (N : Nx no ρ H s ρ₀ H₀ s₀) (N1 : Nx W ρ₀ H₀ s₀ ρ₁ H₁ s₁) (hw : ∀ q, W q → s.heap.get? q = none) (hk : ∀ q o, ¬ W q → s₁.heap.get? q = some o → s₂.heap.get? q = some o) : Nx no ρ H s ρ₁ H₁ s₂ where
  ext := N.ext.trans N1.ext
  z := N1.z.trans N.z
  keep := fun q o e nn _ => by
    have e0 := N.keep q o e nn id
    have w : ¬ W q := fun w => by rw [hw q w] at e; cases e
    have n0 : ¬ Own ρ₀ H₀ q := fun m => (N.fresh q m).elim nn fun z => by rw [e] at z; cases z
    exact hk q o w (N1.keep q o e0 n0 w)
  fresh := fun q m => (N1.fresh q m).elim (N.fresh q) fun z => .inr (N.none_of z)
  pres := fun q o e => by
    refine x1a1 (N.pres q o e) fun o0 e0 => ?_
    refine x1a1 (N1.pres q o0 e0) fun o1 e1 => ?_
    exact ⟨o1, hk q o1 (fun w => by rw [hw q w] at e; exact nn e) e1⟩
  wdata := fun _ _ w => w.elim
  news := fun i q e => (N1.news i q e).elim (N.news i q) fun z => .inr ⟨N.none_of z.1, N.none_of z.2⟩

theorem Nx.mono {W' : Addr → Prop} (N : Nx W ρ H s ρ' H' s') (h : ∀ q, W q → W' q) (wd : ∀ a o, W' a → s.heap.get? a = some o → (∀ xs n, o.data ≠ .seq xs n) ∨ (a ∈ ρ.z ∧ o.cls ≠ .type "tuple")) : Nx W' ρ H s ρ' H' s' :=
  ⟨N.ext, N.z, fun q o e nn w => N.keep q o e nn fun x => w (h q x), N.fresh, N.pres, wd, N.news⟩

theorem draw_ok {vs : List V} {s : Shared} {I : Addr} (it : ItR ρ H s.heap I vs) (S : St C ρ H s) (L : Loose C ρ s.heap I) {E : Value → Shared → Prop} {Q : List Value → Shared → Prop}
    (k : ∀ ys s', St C ρ H s' → Nx (· = I) ρ H s ρ H s' → ItR ρ H s'.heap I [] → Loose C ρ s'.heap I → VRs ρ H s'.heap vs ys → Q ys s') : wpAny (MM C) A (draw (.ref I) vs.length) Q E s := by
  induction vs generalizing s Q with
  | nil => exact wpAny_pure (k [] s S (nx_turnL L (fun _ _ _ e => e) (x1a2 L.here fun o e _ => ⟨o, e⟩)) it L .nil)
  | cons v vs ih =>
    show wpAny _ _ (pyNext (.ref I) >>= _) _ _ _
    refine wpAny_bind (it.step S L fun y s₁ S₁ N₁ _ it₁ L₁ r₁ => wpAny_bind (wpAny_holding (ih it₁ S₁ L₁ fun ys s₂ S₂ N₂ it₂ L₂ r₂ => wpAny_pure ?_)))
    exact k _ s₂ S₂ (N₁.trans N₂) it₂ L₂ (.cons (r₁.lasts (N₂.lasts S₁)) r₂)

theorem iter_slot {v : V} {vs : List V} {xv : Value} (r : VR ρ H s.heap v xv) (h : items v = some vs) : ∃ T id, s.TypeIs xv T ∧ Slot T "__iter__" id := by
  rcases items_some h with rfl | rfl
  · cases r with
    | tup t rr => exact ⟨_, _, t.typeIs, F.slot_tuple_iter⟩
  · cases r with
    | lst t nn rr => exact ⟨_, _, t.typeIs, slot_list_iter⟩

theorem unpack_ok (S : St C ρ H s) {v : V} {vs : List V} {xv : Value} (hh : A.handled = none) (r : VR ρ H s.heap v xv) (h : items v = some vs) {E : Value → Shared → Prop} {Q : List Value → Shared → Prop}
    (k : ∀ ys s', St C ρ H s' → Nx no ρ H s ρ H s' → VRs ρ H s'.heap vs ys → Q ys s') : wpAny (MM C) A (unpackItems xv vs.length none) Q E s := by
  refine x2a2 (iter_slot r h) fun T id hT slot => ?_
  unfold unpackItems
  refine wpAny_bind ?_
  unfold notIterableAtAll
  refine wpAny_bind (wpAny_specialOf hT slot.lookup ?_)
  refine wpAny_pure ?_
  simp only [Bool.false_eq_true, if_false]
  refine wpAny_bind (wpAny_holding (iter_vals S r h fun I s₁ S₁ N₁ it₁ L₁ ab => ?_))
  refine wpAny_bind (wpAny_holding (draw_ok it₁ S₁ L₁ fun ys s₂ S₂ N₂ it₂ L₂ r₂ => ?_))
  have hl : ¬ ys.length < vs.length := by rw [r₂.length]; exact Nat.lt_irrefl _
  rw [if_neg hl]
  refine wpAny_bind (wpAny_holding (it₂.stop S₂ L₂ hh fun s₃ S₃ La hk => ?_))
  simp only [Option.isSome_none, Bool.false_eq_true, if_false]
  exact wpAny_pure (k ys s₃ S₃ (Nx.close N₁ N₂ (fun q e => e ▸ ab) (fun q o w e => hk q o w e)) (r₂.lasts La))

/-! targets -/
theorem assignEach_names {ts : List Nat} {xs : List Expr} (h : mtBs sc ts xs = true) : assignEach xs env = xs.map (fun x => (false, assign x env)) ∧ xs.length = ts.length := by
  induction ts generalizing xs with
  | nil => induction xs using List.casesOn with
    | nil => exact ⟨rfl, rfl⟩
    | cons _ _ => exact ff h
  | cons i ts ih => induction xs using List.casesOn with
    | nil => exact ff h
    | cons x xs =>
      have h := and2 h
      refine x1a2 (isVar_of h.1) fun p e1 _ => ?_
      have e := ih h.2
      refine ⟨?_, congrArg (· + 1) e.2⟩
      rw [e1]
      show (false, assign (.Name (nm i) p) env) :: assignEach xs env = _
      rw [e.1]; rfl

theorem assign_name (X : EnvOK C sc env ρ H s.heap lo) (S : St C ρ H s) {i : Nat} {x : Expr} {v : V} {y : Value} (hv : isVar sc i owns x = true) (r : VR ρ H s.heap v y) {E : Value → Shared → Prop} {Q : Unit → Shared → Prop}
    (k : ∀ s', St C ρ H s' → Nx (Wr sc env) ρ H s ρ H s' → EnvOK C sc env ρ H s'.heap (lset lo i v) → Q () s') : wpAny (MM C) A (assign x env y) Q E s := by
  obtain ⟨p, rfl, ho, _, _⟩ := isVar_of hv
  show wpAny _ _ (standAt p >>= fun _ => bindName env (nm i) y) _ _ _
  exact wpAny_bind (wpAny_standAt (wpAny_bindName (store_ok X S ho r k)))

theorem Nx.refl' (h : ∀ a o, W a → s.heap.get? a = some o → (∀ xs n, o.data ≠ .seq xs n) ∨ (a ∈ ρ.z ∧ o.cls ≠ .type "tuple")) : Nx W ρ H s ρ H s := (Nx.refl ρ H s).wide h

theorem assign_names : ∀ {ts : List Nat} {xs : List Expr} {vs : List V} {ys : List Value} {lo lo' : Lo} {s : Shared}, mtBs sc ts xs = true → bindTs ts vs lo = some lo' → VRs ρ H s.heap vs ys → EnvOK C sc env ρ H s.heap lo → St C ρ H s →
    ∀ {E : Value → Shared → Prop} {Q : Unit → Shared → Prop}, (∀ s', St C ρ H s' → Nx (Wr sc env) ρ H s ρ H s' → EnvOK C sc env ρ H s'.heap lo' → Q () s') → wpAny (MM C) A (assignInOrder (xs.map fun x => assign x env) ys) Q E s := by
  intro ts
  induction ts with
  | nil =>
    intro xs vs ys lo lo' s hm h r X S E Q k
    induction xs using List.casesOn with
    | cons _ _ => exact ff hm
    | nil => induction r using Mini.VRs.casesOn with
      | cons _ _ => exact nn h
      | nil => cases h; exact wpAny_pure (k s S (Nx.refl' X.wdata) X)
  | cons i ts ih =>
    intro xs vs ys lo lo' s hm h r X S E Q k
    induction xs using List.casesOn with
    | nil => exact ff hm
    | cons x xs => induction r using Mini.VRs.casesOn with
      | nil => exact nn h
      | cons r rs =>
        have hm := and2 hm
        show wpAny _ _ (holding _ (assign x env _) >>= fun _ => assignInOrder _ _) _ _ _
        refine wpAny_bind (wpAny_holding (assign_name X S hm.1 r fun s₁ S₁ N₁ X₁ => ?_))
        exact ih hm.2 h (rs.lasts (N₁.lasts S)) X₁ S₁ fun s₂ S₂ N₂ X₂ => k s₂ S₂ (N₁.trans N₂) X₂

theorem findIdx_false (xs : List Expr) : (xs.map fun x => (false, assign x env)).findIdx? (·.1) = none := by
  induction xs with
  | nil => rfl
  | cons x xs ih => rw [List.map_cons, List.findIdx?_cons]; simp [ih]

theorem bindTs_len {ts : List Nat} {vs : List V} {lo lo' : Lo} (h : bindTs ts vs lo = some lo') : vs.length = ts.length := by
  induction ts generalizing vs lo with
  | nil => induction vs using List.casesOn with
    | nil => rfl
    | cons _ _ => exact nn h
  | cons t ts ih => induction vs using List.casesOn with
    | nil => exact nn h
    | cons v vs => exact congrArg (· + 1) (ih h)

theorem assign_ok (X : EnvOK C sc env ρ H s.heap lo) (S : St C ρ H s) (hh : A.handled = none) {t : T} {x : Expr} {v : V} {y : Value} {lo' : Lo} (hm : mtB sc t x = true) (h : bindT t v lo = some lo') (r : VR ρ H s.heap v y) {E : Value → Shared → Prop} {Q : Unit → Shared → Prop}
    (k : ∀ s', St C ρ H s' → Nx (Wr sc env) ρ H s ρ H s' → EnvOK C sc env ρ H s'.heap lo' → Q () s') : wpAny (MM C) A (assign x env y) Q E s := by
  induction t using T.casesOn with
  | var i => cases h; exact assign_name X S hm r k
  | tup ts =>
    have hx := bk_of (and_l hm)
    have hm := and_r hm
    refine bsE h fun vs h1 h2 => ?_
    have e := assignEach_names (env := env) hm
    rw [hx]
    show wpAny _ _ (standAt (pt x).p >>= fun _ => unpack y (assignEach (pt x).l env)) _ _ _
    refine wpAny_bind (wpAny_standAt ?_)
    unfold unpack
    rw [e.1, findIdx_false, List.length_map, e.2, ← bindTs_len h2]
    refine wpAny_bind (wpAny_holding (unpack_ok S hh r h1 fun ys s₁ S₁ N₁ r₁ => ?_))
    rw [List.map_map]
    exact assign_names hm h2 r₁ (X.next S N₁) S₁ fun s₂ S₂ N₂ X₂ => k s₂ S₂ ((N₁.wide X.wdata).trans N₂) X₂
  | attr _ _ => exact ff hm
  | sub _ _ => exact ff hm
end
end Mini
end
section
set_option autoImplicit false
namespace Mini
open PySem PySem.Calls PyProof.Rows
open PySem.W (Frag dictOf Looks findIn typeIn keepIn makesIn plainGet hasDictIn plainOver getL)

section
variable {C : Cfg} {sc : Scope} {env : Env} {lo lo' : Lo} {A : Around} {R : Sems} {n : Nat} {f : Nat} {ρ ρ' : Rh} {H H' : Hp} {s s' : Shared} {W : Addr → Prop} {a : Addr}

theorem EnvOK.sub {h : Heap} (X : EnvOK C sc env ρ H h lo') (hs : ∀ i v, lk lo i = some v → lk lo' i = some v) : EnvOK C sc env ρ H h lo :=
  ⟨X.kind, X.glob, X.blt, X.loc, X.cel, X.fre, X.glo, x1a2 X.ns fun m a b => ⟨m, a, fun i v e => b i v (hs i v e)⟩, fun i v e => X.cv i v (hs i v e), X.free, X.new, X.apart, X.clr⟩

theorem EnvOK.keepL {h h' : Heap} (X : EnvOK C sc env ρ H h lo) (L : Lasts ρ H h ρ' H' h') (kl : ∀ o, h.get? env.locals = some o → h'.get? env.locals = some o)
    (kc : ∀ x c, (sc.names.lookup x = some .cell ∨ sc.names.lookup x = some .free) → env.cells.lookup x = some c → ∀ o, h.get? c = some o → h'.get? c = some o)
    (cl : (∀ (i : Nat) (p : Addr × Addr), ρ'[i]? = some p → p.1 ≠ env.locals ∧ p.2 ≠ env.locals) ∧ env.locals ∉ ρ'.z) (ow : ¬ Own ρ' H' env.locals ∧ ∀ x c, (sc.names.lookup x = some .cell ∨ sc.names.lookup x = some .free) → env.cells.lookup x = some c → ¬ Own ρ' H' c) : EnvOK C sc env ρ' H' h' lo := by
  refine ⟨X.kind, X.glob, X.blt, X.loc, fun x hx => ?_, fun x hx => ?_, X.glo, ?_, fun i v hi hk => ?_, ow, X.new, X.apart, cl⟩
  · refine c5 (X.cel x hx) fun a c v₀ e q => ?_
    exact ⟨a, c, v₀, e, isCell_keep (kc x c (.inl hx) e) q⟩
  · refine c5 (X.fre x hx) fun a c v₀ e q => ?_
    exact ⟨a, c, v₀, e, isCell_keep (kc x c (.inr hx) e) q⟩
  · refine x1a2 X.ns fun m hm q => ?_
    exact ⟨m, ns_keep kl hm, fun i v hi hk => x1a2 (q i v hi hk) fun x e r => ⟨x, e, r.lasts L⟩⟩
  · refine x2a3 (X.cv i v hi hk) fun c x e q r => ?_
    exact ⟨c, x, e, isCell_keep (kc _ c hk e) q, r.lasts L⟩

/-- one object turns that is no part of the frame -/
theorem EnvOK.turnAt (X : EnvOK C sc env ρ H s.heap lo) (L : Lasts ρ H s.heap ρ H s'.heap) {o : Obj} (ho : s.heap.get? a = some o) (hd : (∃ xs n, o.data = .seq xs n) ∨ ∃ vs, o.data = .fields vs)
    (hk : ∀ q o, q ≠ a → s.heap.get? q = some o → s'.heap.get? q = some o) : EnvOK C sc env ρ H s'.heap lo := by
  have n1 : env.locals ≠ a := fun e => by
    obtain ⟨m, ⟨o', es, ep, ho', hd', _⟩, _⟩ := X.ns
    rw [e, ho] at ho'; cases ho'
    rcases hd with ⟨xs, n, hd⟩ | ⟨vs, hd⟩ <;> rw [hd] at hd' <;> cases hd'
  have n2 : ∀ x c, (sc.names.lookup x = some .cell ∨ sc.names.lookup x = some .free) → env.cells.lookup x = some c → c ≠ a := fun x c hx e q => by
    refine x2a2 (X.cell_lt hx e) fun v o' ho' hd' => ?_
    rw [q, ho] at ho'; cases ho'
    rcases hd with ⟨xs, n, hd⟩ | ⟨vs, hd⟩ <;> rw [hd] at hd' <;> cases hd'
  exact X.keepL L (fun o e => hk _ o n1 e) (fun x c hx e o g => hk c o (n2 x c hx e) g) X.clr X.free

theorem EnvOK.not_wr (X : EnvOK C sc env ρ H s.heap lo) {o : Obj} (ho : s.heap.get? a = some o) (hd : (∃ xs n, o.data = .seq xs n) ∨ ∃ vs, o.data = .fields vs) : ¬ Wr sc env a := by
  rintro (e | ⟨x, hx, e⟩)
  · obtain ⟨m, ⟨o', es, ep, ho', hd', _⟩, _⟩ := X.ns
    rw [← e, ho] at ho'; cases ho'
    rcases hd with ⟨xs, n, hd⟩ | ⟨vs, hd⟩ <;> rw [hd] at hd' <;> cases hd'
  · refine x2a2 (X.cell_lt (.inl hx) e) fun v o' ho' hd' => ?_
    rw [ho] at ho'; cases ho'
    rcases hd with ⟨xs, n, hd⟩ | ⟨vs, hd⟩ <;> rw [hd] at hd' <;> cases hd'

/-- a hidden list turns -/
theorem St.turnZ (S : St C ρ H s) (hz : a ∈ ρ.z) {items items' : Array Value} (hl : s.heap.IsList a items) (hl' : s'.heap.IsList a items') (hk : ∀ q o, q ≠ a → s.heap.get? q = some o → s'.heap.get? q = some o)
    (hg : s'.gens = s.gens) (hos : s'.os = s.os) : St C ρ H s' ∧ Lasts ρ H s.heap ρ H s'.heap := by
  refine t5 hl fun o ho hc n hd => ?_
  refine x1a2 hl' fun o' ho' _ => ?_
  have La : Lasts ρ H s.heap ρ H s'.heap := by
    refine ⟨List.prefix_refl _, fun b items t => ?_, fun b items t m => ⟨?_, m⟩⟩
    · refine t5 t fun x hx hc' k hd' => ?_
      refine ⟨x, hk b x (fun e => ?_) hx, hc', k, hd'⟩
      rw [e, ho] at hx; cases hx; rw [hc] at hc'; exact absurd hc' (by decide)
    · refine t5 t fun x hx hc' k hd' => ?_
      exact ⟨x, hk b x (fun e => m (.inr (e ▸ hz))) hx, hc', k, hd'⟩
  refine ⟨⟨fun b x e => hk b x (fun q => by rw [q, (S.hid a hz).2] at e; exact nn e) (S.base b x e), hg.trans S.gens, hos.trans S.os, S.len, fun i x p h1 h2 => ?_, S.apart, S.new, fun b hb => ?_, S.zap, fun i p hp => ?_⟩, La⟩
  · refine x0a2 (S.zap a hz i p h2) fun n1 n2 => ?_
    exact (S.objs i x p h1 h2).lasts La (fun y e => hk _ y n1 e) (fun y e => hk _ y n2 e)
  · obtain ⟨⟨x, hx⟩, nb⟩ := S.hid b hb
    refine ⟨?_, nb⟩
    by_cases e : b = a
    · exact ⟨o', e ▸ ho'⟩
    · exact ⟨x, hk b x e hx⟩
  · obtain ⟨⟨x, hx⟩, y, hy⟩ := S.here i p hp
    refine x0a2 (S.zap a hz i p hp) fun n1 n2 => ?_
    exact ⟨⟨x, hk _ x n1 hx⟩, y, hk _ y n2 hy⟩

theorem St.z_own (S : St C ρ H s) (hz : a ∈ ρ.z) : ¬ Own ρ H a := by
  rintro ⟨i, p, o, hp, _, _, e⟩
  refine x0a2 (S.zap a hz i p hp) fun n1 n2 => ?_
  rcases e with e | e
  · exact n1 e.symm
  · exact n2 e.symm

/-- what was not there at the start may turn -/
theorem Nx.freely {s₁ s₂ : Shared} {ρ₁ : Rh} {H₁ : Hp} {I : Addr} (N : Nx W ρ H s ρ₁ H₁ s₁) (hI : s.heap.get? I = none) (hk : ∀ q o, q ≠ I → s₁.heap.get? q = some o → s₂.heap.get? q = some o) : Nx W ρ H s ρ₁ H₁ s₂ :=
  ⟨N.ext, N.z, fun q o e nn w => hk q o (fun z => by rw [z, hI] at e; cases e) (N.keep q o e nn w), N.fresh, fun q o e => x1a1 (N.pres q o e) fun o' e' => ⟨o', hk q o' (fun z => by rw [z, hI] at e; exact nn e) e'⟩, N.wdata, N.news⟩
theorem Nx.turnW {s₁ s₂ : Shared} {ρ₁ : Rh} {H₁ : Hp} {I : Addr} (N : Nx W ρ H s ρ₁ H₁ s₁) (hI : W I) (hp : ∃ o, s₂.heap.get? I = some o) (hk : ∀ q o, q ≠ I → s₁.heap.get? q = some o → s₂.heap.get? q = some o) : Nx W ρ H s ρ₁ H₁ s₂ :=
  ⟨N.ext, N.z, fun q o e nn w => hk q o (fun z => w (z ▸ hI)) (N.keep q o e nn w), N.fresh, fun q o e => by
    refine x1a1 (N.pres q o e) fun o' e' => ?_
    by_cases z : q = I
    · exact z ▸ hp
    · exact ⟨o', hk q o' z e'⟩, N.wdata, N.news⟩

theorem lk_lset_other {i j : Nat} {v : V} (h : j ≠ i) : lk (lset lo i v) j = lk lo j := by rw [lk_lset, if_neg h]
theorem lk_bindTs : ∀ {ts : List Nat} {vs : List V} {lo lo' : Lo}, bindTs ts vs lo = some lo' → ∀ {j : Nat}, j ∉ ts → lk lo' j = lk lo j
  | [], [], _, _, h, j, _ => by cases h; rfl
  | i :: ts, v :: vs, lo, lo', h, j, hj => by
    rw [lk_bindTs (ts := ts) (vs := vs) h (fun m => hj (.tail _ m)), lk_lset_other (fun e => hj (by rw [e]; exact .head _))]
theorem lk_bindT {t : T} {v : V} (h : bindT t v lo = some lo') {j : Nat} (hj : j ∉ tgtB t) : lk lo' j = lk lo j := by
  induction t using T.casesOn with
  | var i => cases h; exact lk_lset_other fun e => hj (by rw [e]; exact .head _)
  | tup ts =>
    refine bsE h fun vs h1 h2 => ?_
    exact lk_bindTs h2 hj
  | attr _ _ => exact nn h
  | sub _ _ => exact nn h

noncomputable def ifsTree (ifs : List Expr) (env : Env) : Sem Bool := forIn ifs true fun c r => if r = true then do let ok ← isTrue c env (eval c env); pure (ForInStep.yield ok) else pure (ForInStep.yield r)

theorem ifs_false {E : Value → Shared → Prop} {Q : Bool → Shared → Prop} (k : Q false s) : ∀ ifs : List Expr, wpAny (MM C) A (forIn ifs false fun c r => if r = true then do let ok ← isTrue c env (eval c env); pure (ForInStep.yield ok) else pure (ForInStep.yield r) : Sem Bool) Q E s
  | [] => wpAny_pure k
  | x :: xs => by
    rw [List.forIn_cons]
    refine wpAny_bind ?_
    rw [if_neg Bool.false_ne_true]
    exact wpAny_pure (ifs_false k xs)
theorem ifs_ok (TR : TrOK C n R) : ∀ {l : List E} {xs : List Expr} {H : Hp} {b : Bool} {H' : Hp}, mtEs (mtE f) sc l xs = true → evIfs R l lo H = some (b, H') → ∀ {s : Shared} {ρ : Rh}, Room n A → St C ρ H s → EnvOK C sc env ρ H s.heap lo →
    RunsB C A (ifsTree xs env) ρ H s b H' := by
  intro l
  induction l with
  | nil =>
    intro xs H b H' hm h s ρ r S X
    induction xs using List.casesOn with
    | cons _ _ => exact ff hm
    | nil => (refine sinjE h ?_; clear h); exact fun E Q k => wpAny_pure (k s ρ S (.refl _ _ _))
  | cons e es ih =>
    intro xs H b H' hm h s ρ r S X
    induction xs using List.casesOn with
    | nil => exact ff hm
    | cons x xs =>
      have hm := and2 hm
      (refine bpE h fun w H1 h1 hh_ => ?_; clear h; revert hh_; intro h)
      (refine bsE h fun c hc hh_ => ?_; clear h; revert hh_; intro h)
      obtain rfl := bool?_some hc
      intro E Q k
      unfold ifsTree
      rw [List.forIn_cons]
      refine wpAny_bind ?_
      rw [if_pos rfl]
      refine wpAny_bind (TR f sc env e x lo H c H1 hm.1 h1 A s ρ r S X E _ fun s₁ ρ₁ S₁ N₁ => wpAny_pure ?_)
      induction c using Bool.casesOn with
      | true => exact ih hm.2 h r S₁ (X.next S N₁) E Q fun s₂ ρ₂ S₂ N₂ => k s₂ ρ₂ S₂ (N₁.trans N₂)
      | false => (revert k; apply sinjE h; clear h; intro k); exact ifs_false (k s₁ ρ₁ S₁ N₁) xs
end
end Mini
end
section
set_option autoImplicit false
namespace Mini
open PySem PySem.Calls PyProof.Rows
open PySem.W (Frag dictOf Looks findIn typeIn keepIn makesIn plainGet hasDictIn plainOver getL)

structure Acc (C : Cfg) (sc : Scope) (env : Env) (ρ : Rh) (H : Hp) (s : Shared) (lo : Lo) (D : Addr) (acc : List V) : Prop where
  st : St C ρ H s
  env : EnvOK C sc env ρ H s.heap lo
  z : D ∈ ρ.z
  lst : ∃ items, s.heap.IsList D items ∧ VRs ρ H s.heap acc items.toList

noncomputable abbrev Wc (sc : Scope) (env : Env) (D : Addr) (q : Addr) : Prop := q = D ∨ Wr sc env q

section
variable {C : Cfg} {sc : Scope} {env : Env} {lo lo' : Lo} {A : Around} {R : Sems} {n : Nat} {f : Nat} {ρ ρ' : Rh} {H H' : Hp} {s s' : Shared} {W : Addr → Prop} {a D : Addr} {acc : List V}

theorem isList_obj {h : Heap} {items : Array Value} (t : h.IsList D items) : ∃ o, h.get? D = some o ∧ o.cls = .type "list" ∧ ∃ xs n, o.data = .seq xs n := x1a3 t fun o a b d => ⟨o, a, b, _, d⟩

theorem Acc.wd (a : Acc C sc env ρ H s lo D acc) : ∀ q o, Wc sc env D q → s.heap.get? q = some o → (∀ xs n, o.data ≠ .seq xs n) ∨ (q ∈ ρ.z ∧ o.cls ≠ .type "tuple") := by
  rintro q o (rfl | w) e
  · refine x1a2 a.lst fun items t _ => ?_
    refine x1a3 (isList_obj t) fun o' h1 h2 _ => ?_
    rw [e] at h1; cases h1
    exact .inr ⟨a.z, by rw [h2]; decide⟩
  · exact a.env.wdata q o w e
theorem Acc.next (a : Acc C sc env ρ H s lo D acc) (N : Nx no ρ H s ρ' H' s') (S' : St C ρ' H' s') : Acc C sc env ρ' H' s' lo D acc := by
  refine x1a2 a.lst fun items t r => ?_
  refine x1a3 t fun o h1 h2 h3 => ?_
  exact ⟨S', a.env.next a.st N, by rw [N.z]; exact a.z, items, ⟨o, N.keep D o h1 (a.st.z_own a.z) id, h2, h3⟩, r.lasts (N.lasts a.st)⟩
theorem Acc.sub (a : Acc C sc env ρ H s lo' D acc) (hs : ∀ i v, lk lo i = some v → lk lo' i = some v) : Acc C sc env ρ H s lo D acc := ⟨a.st, a.env.sub hs, a.z, a.lst⟩
/-- a loose object turns -/
theorem Acc.turn {I : Addr} (a : Acc C sc env ρ H s lo D acc) (S' : St C ρ H s') (La : Lasts ρ H s.heap ρ H s'.heap) {o : Obj} (ho : s.heap.get? I = some o) (hd : ∃ vs, o.data = .fields vs)
    (hk : ∀ q o, q ≠ I → s.heap.get? q = some o → s'.heap.get? q = some o) : Acc C sc env ρ H s' lo D acc := by
  refine x1a2 a.lst fun items t r => ?_
  refine x1a3 (id t) fun o' h1 h2 h3 => ?_
  have hne : D ≠ I := fun e => by
    rw [e, ho] at h1; cases h1
    refine x1a1 h3 fun m h3 => ?_
    refine x1a1 hd fun vs hd => ?_
    rw [hd] at h3; cases h3
  exact ⟨S', a.env.turnAt La ho (.inr hd) hk, a.z, items, ⟨o', hk D o' hne h1, h2, h3⟩, r.lasts La⟩
theorem Acc.push (a : Acc C sc env ρ H s lo D acc) {v : V} {x : Value} {items : Array Value} (t : s.heap.IsList D items) (r : VRs ρ H s.heap acc items.toList) (rx : VR ρ H s.heap v x) {h' : Heap} (t' : h'.IsList D (items.push x)) (hb : Heap.SameBut D s.heap h') :
    Acc C sc env ρ H { s with heap := h' } lo D (acc ++ [v]) ∧ Lasts ρ H s.heap ρ H h' := by
  have hk : ∀ q o, q ≠ D → s.heap.get? q = some o → h'.get? q = some o := fun q o e g => (hb.2 q e).trans g
  refine x0a2 (a.st.turnZ (s' := { s with heap := h' }) a.z t t' hk rfl rfl) fun S' La => ?_
  refine x1a3 (isList_obj t) fun o h1 h2 h3 => ?_
  refine ⟨⟨S', a.env.turnAt La h1 (.inl h3) hk, a.z, _, t', ?_⟩, La⟩
  rw [Array.toList_push]
  exact (r.lasts La).append (.cons (rx.lasts La) .nil)

theorem ItR.obj {h : Heap} {I : Addr} {vs : List V} (x : ItR ρ H h I vs) : ∃ o, h.get? I = some o ∧ ∃ fs, o.data = .fields fs := by
  induction x using Mini.ItR.casesOn with
  | list a b c d => refine x1a3 a fun o ho _ hd => ?_; exact ⟨o, ho, _, hd⟩
  | tup a b d => refine x1a3 a fun o ho _ hd => ?_; exact ⟨o, ho, _, hd⟩
  | range a => exact ⟨_, a, _, rfl⟩

theorem nodupB_app : ∀ {a b : List Nat}, nodupB (a ++ b) = true → (∀ i ∈ a, i ∉ b) ∧ nodupB b = true
  | [], _, h => ⟨by simp, h⟩
  | i :: a, b, h => by
    simp only [List.cons_append, nodupB, Bool.and_eq_true, Bool.not_eq_true', List.any_append, Bool.or_eq_false_iff] at h
    refine x0a2 (nodupB_app h.2) fun h1 h2 => ?_
    refine ⟨fun j hj => ?_, h2⟩
    rcases List.mem_cons.mp hj with rfl | hj
    · intro hm
      have := h.1.2
      rw [List.any_eq_false] at this
      exact this _ hm (Nat.beq_refl _)
    · exact h1 j hj

theorem mtGs_cons {t : T} {it : E} {ifs : List E} {gs : List G} {cs : List Comprehension} (h : mtGs (mtE f) sc (.mk t it ifs :: gs) cs = true) : ∃ tx ix fx cs', cs = ⟨tx, ix, fx, 0⟩ :: cs' ∧ mtB sc t tx = true ∧ mtIt (mtE f) sc it ix = true ∧ mtEs (mtE f) sc ifs fx = true ∧ mtGs (mtE f) sc gs cs' = true := by
  induction cs using List.casesOn with
  | nil => exact ff h
  | cons c cs =>
    obtain ⟨tx, ix, fx, a⟩ := c
    have h : (mtB sc t tx && mtIt (mtE f) sc it ix && mtEs (mtE f) sc ifs fx && a == 0 && mtGs (mtE f) sc gs cs) = true := h
    have q := and4 (and_l h)
    have e : a = 0 := beq_iff_eq.mp q.2.2.2
    subst e
    exact ⟨tx, ix, fx, cs, rfl, q.1, q.2.1, q.2.2.1, and_r h⟩

theorem folded_plain {e : E} {x : Expr} (h : mtIt (mtE f) sc e x = true) (v : Value) : foldedSetIterable x env v = pure v := by
  have : ∀ l k p, x ≠ .Set l k p := by
    unfold mtIt at h
    cases hp : e.range? with
    | none => rw [hp] at h; exact (mtE_not f e x h).2.1
    | some l => rw [hp] at h; rw [bk_of (and_l h)]; intro _ _ _ e; cases e
  induction x using PySem.Expr.casesOn <;> first | rfl | exact absurd rfl (this _ _ _)

theorem start_ok {y : Expr} {gens : List Comprehension} {scA : Scope} {pA : Pos} {d : Nat} {I : Addr} {acc : Value} {vs : List V} {tx ix : Expr} {fx : List Expr} (hg : gens[d]? = some ⟨tx, ix, fx, 0⟩) (it : ItR ρ H s.heap I vs) {RR : Result → Shared → Prop}
    (h : codeAny (MM C) A (.compLoop (.ListComp y gens scA pA) d (.ref I) acc env) RR s) : codeAny (MM C) A (.compStart (.ListComp y gens scA pA) d (.ref I) acc env) RR s := by
  refine codeAny_of_tree ?_
  show wpAny _ A (Sem.onRaise (compStart _ _ _ _ _) _) _ _ s
  refine wpAny_onRaise ?_
  have hc : (clausesOf (.ListComp y gens scA pA))[d]? = some ⟨tx, ix, fx, 0⟩ := hg
  unfold compStart
  simp only [hc, Option.elim]
  rw [if_neg (by decide)]
  refine wpAny_bind (wpAny_askSetting (wpAny_ite ?_))
  split
  · first
      | exact wpAny_bind (wpAny_pure (wpAny_pure (And.intro rfl h)))
      | exact wpAny_pure (And.intro rfl h)
  · first
      | exact wpAny_bind (wpAny_rule (wpAny_bind (wpAny_standAt (wpAny_bind (it.again (wpAny_pure (And.intro rfl h)))))))
      | exact wpAny_bind (wpAny_rule (wpAny_bind (it.again (wpAny_pure (And.intro rfl h)))))

/-- a turn, what follows its tests left open -/
noncomputable def turnT (ix tx : Expr) (fx : List Expr) (env : Env) (it : Value) (T : Bool → Sem Fin) : Sem Fin := standAt ix.pos >>= fun _ => pyNext it >>= fun o => match o with
  | none => pure (.done .next)
  | some v => letOwnedTupleGo tx it v >>= fun _ => assign tx env v >>= fun _ => ifsTree fx env >>= T
noncomputable def turnElt (y : Expr) (acc : Value) (env : Env) (nx : Sem Fin) (ok : Bool) : Sem Fin := if ok = true then ((eval y env >>= fun v => call (.builtin "list.append") [acc, v] >>= fun _ => pure ()) >>= fun _ => nx) else nx
noncomputable def turnSub (g : Comprehension) (e : Expr) (d : Nat) (acc : Value) (env : Env) (nx : Sem Fin) (ok : Bool) : Sem Fin := if ok = true then (eval g.iter env >>= fun x => standAt g.iter.pos >>= fun _ => foldedSetIterable g.iter env x >>= fun x => holding [x] (pyIter x) >>= fun it => runOwn (.compStart e d it acc env) env >>= fun _ => nx) else nx
theorem turn_elt {y : Expr} {gens : List Comprehension} {scA : Scope} {pA : Pos} {d : Nat} {it acc : Value} {tx ix : Expr} {fx : List Expr} (hg : gens[d]? = some ⟨tx, ix, fx, 0⟩) (hg2 : gens[d + 1]? = none) :
    compTurn (.ListComp y gens scA pA) d it acc env = turnT ix tx fx env it (turnElt y acc env (again (.compLoop (.ListComp y gens scA pA) d it acc env))) := by
  unfold compTurn
  simp only [hg, hg2]
  rfl
theorem turn_sub {y : Expr} {gens : List Comprehension} {scA : Scope} {pA : Pos} {d : Nat} {it acc : Value} {tx ix tx2 ix2 : Expr} {fx fx2 : List Expr} (hg : gens[d]? = some ⟨tx, ix, fx, 0⟩) (hg2 : gens[d + 1]? = some ⟨tx2, ix2, fx2, 0⟩) :
    compTurn (.ListComp y gens scA pA) d it acc env = turnT ix tx fx env it (turnSub ⟨tx2, ix2, fx2, 0⟩ (.ListComp y gens scA pA) (d + 1) acc env (again (.compLoop (.ListComp y gens scA pA) d it acc env))) := by
  unfold compTurn
  simp only [hg, hg2]
  rfl
theorem wpAny_eq {M : Model} {α : Type} {t t' : Sem α} {Q : α → Shared → Prop} {E : Value → Shared → Prop} (h : t = t') (k : wpAny M A t' Q E s) : wpAny M A t Q E s := h ▸ k
section
variable {I : Addr} {ρa : Rh} {Ha : Hp} {sa : Shared} {tx ix : Expr} {fx : List Expr} {TT : Bool → Sem Fin} {E₀ : Value → Shared → Prop} {Q : Fin → Shared → Prop}
theorem turn_end (a : Acc C sc env ρ H s lo D acc) (it : ItR ρ H s.heap I []) (L : Loose C ρ s.heap I) (hh : A.handled = none) (hI0 : sa.heap.get? I = none) (N : Nx (Wc sc env D) ρa Ha sa ρ H s)
    (k : ∀ s₁, Acc C sc env ρ H s₁ lo D acc → Nx (Wc sc env D) ρa Ha sa ρ H s₁ → Q (.done .next) s₁) : wpAny (MM C) A (turnT ix tx fx env (.ref I) TT) Q E₀ s := by
  refine wpAny_bind (wpAny_standAt ?_)
  refine x1a2 it.obj fun o ho hfs => ?_
  exact wpAny_bind (it.stop a.st L hh fun s₁ S₁ La hk => wpAny_pure (k s₁ (a.turn S₁ La ho hfs hk) (N.freely hI0 hk)))
theorem Acc.wr (a : Acc C sc env ρ H s lo D acc) (S' : St C ρ H s') (X : EnvOK C sc env ρ H s'.heap lo') (N : Nx (Wr sc env) ρ H s ρ H s') : Acc C sc env ρ H s' lo' D acc := by
  refine x1a2 a.lst fun items tD rD => ?_
  refine x1a3 (isList_obj tD) fun oD hD1 hD2 hD3 => ?_
  refine t5 tD fun o' hD1' hD2' m hD3' => ?_
  exact ⟨S', X, a.z, items, ⟨o', N.keep D o' hD1' (a.st.z_own a.z) (a.env.not_wr hD1 (.inl hD3)), hD2', m, hD3'⟩, rD.lasts (N.lasts a.st)⟩
theorem turn_go (TR : TrOK C n R) {t : T} {ifs : List E} (hB : mtB sc t tx = true) (hI : mtEs (mtE f) sc ifs fx = true) {v : V} {vs : List V} {lo1 : Lo} {b : Bool} {H1 : Hp} (h1 : bindT t v lo = some lo1) (h2 : evIfs R ifs lo1 H = some (b, H1))
    (r : Room n A) (a : Acc C sc env ρ H s lo D acc) (it : ItR ρ H s.heap I (v :: vs)) (L : Loose C ρ s.heap I) (hI0 : sa.heap.get? I = none) (N : Nx (Wc sc env D) ρa Ha sa ρ H s)
    (k : ∀ s₃ ρ₃, Acc C sc env ρ₃ H1 s₃ lo1 D acc → ItR ρ₃ H1 s₃.heap I vs → Loose C ρ₃ s₃.heap I → Nx (Wc sc env D) ρa Ha sa ρ₃ H1 s₃ → wpAny (MM C) A (TT b) Q E₀ s₃) : wpAny (MM C) A (turnT ix tx fx env (.ref I) TT) Q E₀ s := by
  refine wpAny_bind (wpAny_standAt ?_)
  refine x1a2 it.obj fun o ho hfs => ?_
  refine wpAny_bind (it.step a.st L fun z s₁ S₁ N₁ hk₁ it₁ L₁ r₁ => ?_)
  have a₁ := a.turn S₁ (N₁.lasts a.st) ho hfs hk₁
  refine wpAny_bind (it₁.letGo (wpAny_bind (assign_ok a₁.env S₁ r.1 hB h1 r₁ fun s₂ S₂ N₂ X₂ => ?_)))
  have nI₁ : ¬ Wr sc env I := by
    refine x1a2 it₁.obj fun o1 ho1 hf1 => ?_
    exact a₁.env.not_wr ho1 (.inr hf1)
  have L₂ := L₁.next N₂ nI₁
  have it₂ := it₁.keep (N₂.lasts S₁) (fun o e => N₂.keep I o e L₁.own nI₁)
  have a₂ := a₁.wr S₂ X₂ N₂
  have Na₂ := (N.freely hI0 hk₁).trans (N₂.mono (fun q w => .inr w) a₁.wd)
  exact wpAny_bind (ifs_ok TR hI h2 r S₂ X₂ _ _ fun s₃ ρ₃ S₃ N₃ => k s₃ ρ₃ (a₂.next N₃ S₃) (it₂.keep (N₃.lasts S₂) (fun o e => N₃.keep I o e L₂.own id)) (L₂.next N₃ id) (Na₂.trans (N₃.wide a₂.wd)))
/-- an element is put in -/
theorem turn_put (EV : EvOK C n R) {elt : E} {y : Expr} (hy : mtE f sc elt y = true) {ev : V} {vs : List V} {nx : Sem Fin} (h5 : R.ev elt lo H = some (ev, H')) (r : Room n A) (a : Acc C sc env ρ H s lo D acc) (it : ItR ρ H s.heap I vs) (L : Loose C ρ s.heap I) (N : Nx (Wc sc env D) ρa Ha sa ρ H s) (hlen : acc.length < 100000)
    (k : ∀ s' ρ', Acc C sc env ρ' H' s' lo D (acc ++ [ev]) → ItR ρ' H' s'.heap I vs → Loose C ρ' s'.heap I → Nx (Wc sc env D) ρa Ha sa ρ' H' s' → wpAny (MM C) A nx Q E₀ s') : wpAny (MM C) A (turnElt y (.ref D) env nx true) Q E₀ s := by
  show wpAny (MM C) A ((eval y env >>= fun v => call (.builtin "list.append") [.ref D, v] >>= fun _ => pure ()) >>= fun _ => nx) Q E₀ s
  refine wpAny_bind (wpAny_bind (EV f sc env elt y lo H ev H' hy h5 A s ρ r a.st a.env _ _ fun x s₄ ρ₄ S₄ N₄ r₄ => ?_))
  have a₄ := a.next N₄ S₄
  have it₄ := it.keep (N₄.lasts a.st) (fun o e => N₄.keep I o e L.own id)
  have L₄ := L.next N₄ id
  refine x1a2 a₄.lst fun its tD4 rD4 => ?_
  have hl4 := rD4.length
  replace hl4 : acc.length = its.size := hl4
  refine wpAny_bind (wpAny_list_append tD4 (fun h' t' hb => wpAny_pure ?_) (by rw [sizeLine_big]; clear h5 hy; lia))
  have P := a₄.push tD4 rD4 r₄ t' hb
  have hk5 : ∀ q o, q ≠ D → s₄.heap.get? q = some o → h'.get? q = some o := fun q o e g => (hb.2 q e).trans g
  have hne : I ≠ D := fun e => by
    obtain ⟨o1, ho1, fs, hf1⟩ := it₄.obj
    obtain ⟨o2, ho2, _, xs, m, hs2⟩ := isList_obj tD4
    rw [e, ho2] at ho1
    rw [Option.some.inj ho1, hf1] at hs2
    cases hs2
  obtain ⟨⟨o1, ho1, hd1⟩, b1, c1, d1⟩ := L₄
  refine x1a2 (isList_obj t') fun oD hoD _ => ?_
  exact k _ ρ₄ P.1 (it₄.keep P.2 (fun o e => hk5 I o hne e)) ⟨⟨o1, hk5 I o1 hne ho1, hd1⟩, b1, c1, d1⟩ ((N.trans (N₄.wide a.wd)).turnW (.inl rfl) ⟨oD, hoD⟩ hk5)
/-- an inner source begins -/
theorem turn_in {G : Glo} (K : CfgOK C G) (EV : EvOK C n R) {y : Expr} {gens : List Comprehension} {scA : Scope} {pA : Pos} {d : Nat} {g2 : T} {it2 : E} {tx2 ix2 : Expr} {fx2 : List Expr} (hg : gens[d]? = some ⟨tx2, ix2, fx2, 0⟩) (mI : mtIt (mtE f) sc it2 ix2 = true) {vs2 : List V} {nx : Sem Fin}
    (h5 : evIt R it2 lo H = some (vs2, H')) (r : Room n A) (S : St C ρ H s) (X : EnvOK C sc env ρ H s.heap lo)
    (k : ∀ I2 s₄ ρ₄, St C ρ₄ H' s₄ → Nx no ρ H s ρ₄ H' s₄ → ItR ρ₄ H' s₄.heap I2 vs2 → Loose C ρ₄ s₄.heap I2 → s.heap.get? I2 = none → codeAny (MM C) (A.mark none) (.compLoop (.ListComp y gens scA pA) d (.ref I2) (.ref D) env) (fun r s' => match r with | .ok fl => wpAny (MM C) A nx Q E₀ s' | .error _ => False) s₄) :
    wpAny (MM C) A (turnSub ⟨tx2, ix2, fx2, 0⟩ (.ListComp y gens scA pA) d (.ref D) env nx true) Q E₀ s := by
  show wpAny (MM C) A (eval ix2 env >>= fun x => standAt ix2.pos >>= fun _ => foldedSetIterable ix2 env x >>= fun x => holding [x] (pyIter x) >>= fun it => runOwn (.compStart (.ListComp y gens scA pA) d it (.ref D) env) env >>= fun _ => nx) Q E₀ s
  refine wpAny_bind ?_
  refine wpAny_mono (it_ok (Q := fun (xv : Value) (s₄ : Shared) => ∃ I2 ρ₄, xv = .ref I2 ∧ St C ρ₄ H' s₄ ∧ Nx no ρ H s ρ₄ H' s₄ ∧ ItR ρ₄ H' s₄.heap I2 vs2 ∧ Loose C ρ₄ s₄.heap I2 ∧ s.heap.get? I2 = none) K EV mI h5 r S X fun I2 s₄ ρ₄ S₄ N₄ it₄ L₄ ab => ⟨I2, ρ₄, rfl, S₄, N₄, it₄, L₄, ab⟩) (fun xv s₄ hp => ?_) fun _ _ e => e
  refine wpAny_bind (wpAny_standAt ?_)
  rw [folded_plain mI]
  refine wpAny_bind (wpAny_pure (wpAny_bind (wpAny_holding (wpAny_mono hp (fun itv s₅ hq => ?_) fun _ _ e => e))))
  obtain ⟨I2, ρ₅, e, S₅, N₅, it₅, L₅, ab⟩ := hq
  rw [e]
  refine wpAny_bind (wpAny_runOwn (start_ok hg it₅ ?_))
  refine codeAny_mono (k I2 s₅ ρ₅ S₅ N₅ it₅ L₅ ab) fun r' s' hr => ?_
  cases r' with
  | ok fl => exact hr
  | error e => exact hr.elim
end

theorem drop_at {α : Type} {l : List α} {d : Nat} {x : α} {r : List α} (h : l.drop d = x :: r) : l[d]? = some x ∧ l[d + 1]? = r.head? ∧ l.drop (d + 1) = r := by
  refine ⟨?_, ?_, by rw [← List.drop_drop, h]; rfl⟩
  · have : (l.drop d)[0]? = some x := by rw [h]; rfl
    rw [List.getElem?_drop] at this; exact this
  · have : (l.drop d)[1]? = r.head? := by rw [h]; induction r using List.casesOn <;> rfl
    rw [List.getElem?_drop] at this; exact this
/-- a comprehension's turns -/
theorem loop_ok {G : Glo} (K : CfgOK C G) (EV : EvOK C n R) (TR : TrOK C n R) {elt : E} {y : Expr} (hy : mtE f sc elt y = true) {gensA : List Comprehension} {scA : Scope} {pA : Pos} : ∀ (gs : List Mini.G) {t : T} {ifs : List E} {tx ix : Expr} {fx : List Expr} {cs : List Comprehension} {d : Nat},
    gensA.drop d = ⟨tx, ix, fx, 0⟩ :: cs → mtB sc t tx = true → mtEs (mtE f) sc ifs fx = true → mtGs (mtE f) sc gs cs = true → nodupB (tgtB t ++ tgtsOf gs) = true →
    ∀ (vs : List V) {lo : Lo} {ws : List V} {H H' : Hp}, evComp.loop R t ifs (evComp R elt gs) vs lo H = some (ws, H') → (∀ i ∈ tgtB t ++ tgtsOf gs, lk lo i = none) →
    ∀ {A : Around} {s : Shared} {ρ : Rh} {I : Addr} {acc : List V}, Room n A → Acc C sc env ρ H s lo D acc → ItR ρ H s.heap I vs → Loose C ρ s.heap I → acc.length + ws.length ≤ 100000 →
    ∀ {ρa : Rh} {Ha : Hp} {sa : Shared}, sa.heap.get? I = none → Nx (Wc sc env D) ρa Ha sa ρ H s → ∀ {RR : Result → Shared → Prop},
    (∀ s' ρ', Acc C sc env ρ' H' s' lo D (acc ++ ws) → Nx (Wc sc env D) ρa Ha sa ρ' H' s' → RR (.ok .next) s') →
    codeAny (MM C) A (.compLoop (.ListComp y gensA scA pA) d (.ref I) (.ref D) env) RR s := by
  intro gs
  induction gs with
  | nil =>
    intro t ifs tx ix fx cs d hd hB hI hG hN vs
    induction cs using List.casesOn with
    | cons _ _ => cases hG
    | nil =>
      have q := drop_at hd
      induction vs with
      | nil =>
        intro lo ws H H' h _ A s ρ I acc r a it L _ ρa Ha sa hI0 N RR k
        obtain ⟨e1, e2⟩ := sinj (show some (([] : List V), H) = some (ws, H') from h)
        subst e1; subst e2
        refine codeAny_of_tree (wpAny_onRaise (wpAny_eq (turn_elt q.1 q.2.1) (turn_end a it L r.1 hI0 N fun s₁ a₁ N₁ => k s₁ ρ ?_ N₁)))
        rw [List.append_nil]; exact a₁
      | cons v vs ih =>
        intro lo ws H H' h hun A s ρ I acc r a it L hlen ρa Ha sa hI0 N RR k
        refine bsE h fun lo1 h1 ha => ?_
        refine bpE ha fun b H1 h2 hb => ?_
        refine bpE hb fun w1 H2 h3 hc => ?_
        refine bpE hc fun us H3 h4 hd' => ?_
        obtain ⟨e1, e2⟩ := sinj (show some (w1 ++ us, H3) = some (ws, H') from hd')
        subst e1; subst e2
        clear h ha hb hc hd'
        have hback : ∀ i v, lk lo i = some v → lk lo1 i = some v := fun i v e => (lk_bindT h1 fun hm => by rw [hun i (List.mem_append_left _ hm)] at e; exact nn e).trans e
        rw [List.length_append] at hlen
        refine codeAny_of_tree (wpAny_onRaise (wpAny_eq (turn_elt q.1 q.2.1) (turn_go TR hB hI h1 h2 r a it L hI0 N fun s₃ ρ₃ a₃ it₃ L₃ N₃ => ?_)))
        induction b using Bool.casesOn with
        | false =>
          obtain ⟨e1, e2⟩ := sinj (show some (([] : List V), H1) = some (w1, H2) from h3)
          subst e1; subst e2
          exact wpAny_pure ⟨rfl, ih h4 hun r (a₃.sub hback) it₃ L₃ (by clear h3 h4 h2 hI0 h1 hG hd hN hI hB hy; lia) hI0 N₃ k⟩
        | true =>
          refine bpE (show (R.ev elt lo1 H1).bind (fun (v, H) => some ([v], H)) = some (w1, H2) from h3) fun ev H4 h5 h6 => ?_
          refine x0a2 (sinj (show some ([ev], H4) = some (w1, H2) from h6)) fun e1 e2 => ?_
          subst e1; subst e2
          clear h3 h6
          refine turn_put EV hy h5 r a₃ it₃ L₃ N₃ (by rw [List.length_singleton] at hlen; clear h5 h4 h2 hI0 h1 hG hd hN hI hB hy; lia) fun s' ρ' a' it' L' N' => wpAny_pure ⟨rfl, ih h4 hun r (a'.sub hback) it' L' (by rw [List.length_append]; clear h5 h4 h2 hI0 h1 hG hd hN hI hB hy; lia) hI0 N' fun s'' ρ'' a'' n'' => k s'' ρ'' ?_ n''⟩
          rw [List.append_assoc] at a''; exact a''
  | cons g gs ihg =>
    obtain ⟨t2, it2, ifs2⟩ := g
    intro t ifs tx ix fx cs d hd hB hI hG hN vs
    obtain ⟨tx2, ix2, fx2, cs2, e, mB2, mI2, mF2, mG2⟩ := mtGs_cons hG
    rw [e] at hd
    have q := drop_at hd
    have hN := nodupB_app (show nodupB (tgtB t ++ (tgtB t2 ++ tgtsOf gs)) = true from hN)
    induction vs with
    | nil =>
      intro lo ws H H' h _ A s ρ I acc r a it L _ ρa Ha sa hI0 N RR k
      obtain ⟨e1, e2⟩ := sinj (show some (([] : List V), H) = some (ws, H') from h)
      subst e1; subst e2
      refine codeAny_of_tree (wpAny_onRaise (wpAny_eq (turn_sub q.1 q.2.1) (turn_end a it L r.1 hI0 N fun s₁ a₁ N₁ => k s₁ ρ ?_ N₁)))
      rw [List.append_nil]; exact a₁
    | cons v vs ih =>
      intro lo ws H H' h hun A s ρ I acc r a it L hlen ρa Ha sa hI0 N RR k
      refine bsE h fun lo1 h1 ha => ?_
      refine bpE ha fun b H1 h2 hb => ?_
      refine bpE hb fun w1 H2 h3 hc => ?_
      refine bpE hc fun us H3 h4 hd' => ?_
      obtain ⟨e1, e2⟩ := sinj (show some (w1 ++ us, H3) = some (ws, H') from hd')
      subst e1; subst e2
      clear h ha hb hc hd'
      have hback : ∀ i v, lk lo i = some v → lk lo1 i = some v := fun i v e => (lk_bindT h1 fun hm => by rw [hun i (List.mem_append_left _ hm)] at e; exact nn e).trans e
      rw [List.length_append] at hlen
      refine codeAny_of_tree (wpAny_onRaise (wpAny_eq (turn_sub q.1 q.2.1) (turn_go TR hB hI h1 h2 r a it L hI0 N fun s₃ ρ₃ a₃ it₃ L₃ N₃ => ?_)))
      induction b using Bool.casesOn with
      | false =>
        obtain ⟨e1, e2⟩ := sinj (show some (([] : List V), H1) = some (w1, H2) from h3)
        subst e1; subst e2
        exact wpAny_pure ⟨rfl, ih h4 hun r (a₃.sub hback) it₃ L₃ (by clear h3 h4 h2 hI0 h1 hG hd hI hB hy; lia) hI0 N₃ k⟩
      | true =>
        refine bpE (show (evIt R it2 lo1 H1).bind (fun (vs, H) => evComp.loop R t2 ifs2 (evComp R elt gs) vs lo1 H) = some (w1, H2) from h3) fun vs2 H4 h5 h6 => ?_
        have hun2 : ∀ i ∈ tgtB t2 ++ tgtsOf gs, lk lo1 i = none := fun i hi => (lk_bindT h1 fun hm => hN.1 i hm hi).trans (hun i (List.mem_append_right _ hi))
        refine turn_in K EV (g2 := t2) q.2.1 mI2 h5 r a₃.st a₃.env fun I2 s₄ ρ₄ S₄ N₄ it₄ L₄ ab => ?_
        have a₄ := a₃.next N₄ S₄
        refine ihg q.2.2 mB2 mF2 mG2 hN.2 vs2 h6 hun2 r.mark a₄ it₄ L₄ (by clear h3 h6 h5 h4 h2 hI0 h1 hG hd hI hB hy; lia) ab (N₄.wide a₃.wd) fun s₅ ρ₅ a₅ N₅ => ?_
        have nW : ¬ Wc sc env D I := by
          rintro (e | w)
          · obtain ⟨o1, ho1, fs, hf1⟩ := it₃.obj
            obtain ⟨its, tD3, _⟩ := a₃.lst
            obtain ⟨o2, ho2, _, xs, m, hs2⟩ := isList_obj tD3
            rw [e, ho2] at ho1
            rw [Option.some.inj ho1, hf1] at hs2
            cases hs2
          · obtain ⟨o1, ho1, hf1⟩ := it₃.obj
            exact a₃.env.not_wr ho1 (.inr hf1) w
        refine wpAny_pure ⟨rfl, ih h4 hun r (a₅.sub hback) (it₃.keep (N₅.lasts a₃.st) (fun o e => N₅.keep I o e L₃.own nW)) (L₃.next N₅ nW) (by rw [List.length_append]; clear h3 h6 h5 h4 h2 hI0 h1 hG hd hI hB hy; lia) hI0 (N₃.trans N₅) fun s' ρ' a' n' => k s' ρ' ?_ n'⟩
        rw [List.append_assoc] at a'; exact a'
end
end Mini
end
section
set_option autoImplicit false
namespace Mini
open PySem PySem.Calls PyProof.Rows
open PySem.W (Frag dictOf Looks findIn typeIn keepIn makesIn plainGet hasDictIn plainOver getL)

section
variable {C : Cfg} {sc sc' : Scope} {env : Env} {lo lo' : Lo} {A : Around} {R : Sems} {n : Nat} {f : Nat} {ρ ρ' : Rh} {H H' : Hp} {s s' : Shared} {W : Addr → Prop} {a D : Addr} {acc : List V}

theorem lookup_mem {α : Type} {l : List (Str × α)} {x : Str} {k : α} (h : l.lookup x = some k) : (x, k) ∈ l := by
  induction l with
  | nil => exact nn h
  | cons p l ih =>
    replace h : (match x == p.1 with | true => some p.2 | false => l.lookup x) = some k := h
    cases hb : x == p.1 with
    | true => rw [hb] at h; rw [eq_of_beq hb, ← Option.some.inj h]; exact .head _
    | false => rw [hb] at h; exact .tail _ (ih h)

structure ScOk (out sc : Scope) (tg : List Nat) : Prop where
  kind : sc.kind = .function
  loc : ∀ x, (x, NameKind.local) ∈ sc.names → sc.names.lookup x = some .local ∧ (x = nm n_dot0 ∨ ∃ i ∈ tg, nm i = x)
  cel : ∀ x, (x, NameKind.cell) ∉ sc.names
  fre : ∀ x, (x, NameKind.free) ∈ sc.names → sc.names.lookup x = some .free ∧ (out.names.lookup x = some .cell ∨ out.names.lookup x = some .free)
theorem scOk_of {tg : List Nat} (h : scOk sc sc' tg = true) : ScOk sc sc' tg := by
  unfold scOk at h
  rw [Bool.and_eq_true, beq_iff_eq, List.all_eq_true] at h
  refine x0a2 h fun hk h => ?_
  refine ⟨hk, fun x hx => ?_, fun x hx => ?_, fun x hx => ?_⟩
  · have := h _ hx
    simp only [Bool.and_eq_true, beq_iff_eq, Bool.or_eq_true, List.any_eq_true] at this
    exact ⟨this.1, this.2⟩
  · have := h _ hx
    simp at this
  · have := h _ hx
    simp only [Bool.and_eq_true, beq_iff_eq] at this
    refine ⟨this.1, ?_⟩
    have h2 := this.2
    split at h2 <;> simp_all

theorem lookup_relab {α β : Type} {g : Str × α → Str × β} (hg : ∀ p, (g p).1 = p.1) {x : Str} {k : α} {l : List (Str × α)} (h : l.lookup x = some k) : (l.map g).lookup x = some (g (x, k)).2 := by
  induction l with
  | nil => exact nn h
  | cons p l ih =>
    replace h : (match x == p.1 with | true => some p.2 | false => l.lookup x) = some k := h
    show (match x == (g p).1 with | true => some (g p).2 | false => (l.map g).lookup x) = _
    rw [hg]
    cases hb : x == p.1 with
    | true => rw [hb] at h; rw [eq_of_beq hb, ← Option.some.inj h]
    | false => rw [hb] at h; exact ih h
theorem lookup_relabel_free {env : Env} {names : List (Str × NameKind)} {x : Str} (h : names.lookup x = some .free) :
    (names.map fun (n, k) => if (k == NameKind.free && env.scope.kind == .function && env.kindOf n == some .cell) then (n, NameKind.cell) else (n, k)).lookup x = some .cell ∨
    (names.map fun (n, k) => if (k == NameKind.free && env.scope.kind == .function && env.kindOf n == some .cell) then (n, NameKind.cell) else (n, k)).lookup x = some .free := by
  rw [lookup_relab (fun p => by dsimp only; split <;> rfl) h]
  dsimp only
  split
  · exact .inl rfl
  · exact .inr rfl
theorem lookup_relabel_glob {env : Env} {names : List (Str × NameKind)} {x : Str} (h : names.lookup x = some .globalImplicit) :
    (names.map fun (n, k) => if (k == NameKind.free && env.scope.kind == .function && env.kindOf n == some .cell) then (n, NameKind.cell) else (n, k)).lookup x = some .globalImplicit :=
  lookup_relab (fun p => by dsimp only; split <;> rfl) h

theorem closure_ok (X : EnvOK C sc env ρ H s.heap lo) {names : List (Str × NameKind)} (hf : ∀ x, (x, NameKind.free) ∈ names → sc.names.lookup x = some .cell ∨ sc.names.lookup x = some .free) :
    ∀ cs : List (Str × Addr), (∀ x c, cs.lookup x = some c → env.cells.lookup x = some c) → ∃ cl : List (Str × Addr),
      (forIn names cs fun (x : Str × NameKind) (r : List (Str × Addr)) => (match x with
        | (name, kind) => if (kind == NameKind.free) = true then do let a ← cellOf env name; pure (ForInStep.yield ((name, a) :: r)) else pure (ForInStep.yield r) : Sem (ForInStep (List (Str × Addr))))) = pure cl ∧
      (∀ x c, cl.lookup x = some c → env.cells.lookup x = some c) ∧ ∀ x, ((x, NameKind.free) ∈ names ∨ (cs.lookup x).isSome) → (cl.lookup x).isSome := by
  induction names with
  | nil => exact fun cs h => ⟨cs, rfl, h, fun x hx => by simpa using hx⟩
  | cons p names ih =>
    obtain ⟨y, k⟩ := p
    intro cs h
    rw [List.forIn_cons]
    by_cases hk : (k == NameKind.free) = true
    · have ek : k = .free := eq_of_beq hk
      subst ek
      have hy := hf y List.mem_cons_self
      obtain ⟨c, hc⟩ : ∃ c, env.cells.lookup y = some c := by
        rcases hy with hy | hy
        · refine c5 (X.cel y hy) fun _ c v e _ => ?_; exact ⟨c, e⟩
        · refine c5 (X.fre y hy) fun _ c v e _ => ?_; exact ⟨c, e⟩
      have e1 : cellOf env y = pure c := by unfold cellOf; rw [hc]
      obtain ⟨cl, h1, h2, h3⟩ := ih (fun x hx => hf x (List.mem_cons_of_mem _ hx)) ((y, c) :: cs) (fun x c' e => by
        rw [List.lookup_cons] at e
        cases hb : x == y with
        | true => rw [hb] at e; cases e; rw [eq_of_beq hb]; exact hc
        | false => rw [hb] at e; exact h x c' e)
      refine ⟨cl, ?_, h2, fun x hx => h3 x ?_⟩
      · dsimp only
        rw [if_pos hk, e1]
        simpa using h1
      · rcases hx with hx | hx
        · rcases List.mem_cons.mp hx with e | hx
          · cases e; exact .inr (by simp)
          · exact .inl hx
        · refine .inr ?_
          rw [List.lookup_cons]
          cases x == y <;> simp [hx]
    · obtain ⟨cl, h1, h2, h3⟩ := ih (fun x hx => hf x (List.mem_cons_of_mem _ hx)) cs h
      refine ⟨cl, ?_, h2, fun x hx => h3 x ?_⟩
      · dsimp only
        rw [if_neg hk]
        simpa using h1
      · rcases hx with hx | hx
        · rcases List.mem_cons.mp hx with e | hx
          · (obtain ⟨e1_, e2_⟩ := pinj e; clear e; subst e1_; subst e2_); exact absurd rfl hk
          · exact .inl hx
        · exact .inr hx

theorem lk_ldel {l : List Nat} {lo : Lo} {i : Nat} : lk (ldel l lo) i = if l.any (Nat.beq i) then Option.none else lk lo i := by
  induction lo with
  | nil => exact (ite_self _).symm
  | cons p lo ih =>
    by_cases hj : l.any (Nat.beq p.1) = true
    · rw [show ldel l (p :: lo) = ldel l lo from List.filter_cons_of_neg (by rw [hj]; decide), ih, lk_cons p.1 p.2]
      by_cases q : i = p.1
      · rw [q, if_pos hj, if_pos hj]
      · rw [if_neg q]
    · rw [show ldel l (p :: lo) = p :: ldel l lo from List.filter_cons_of_pos (by rw [Bool.not_eq_true] at hj; rw [hj]; rfl), lk_cons p.1 p.2, lk_cons p.1 p.2, ih]
      by_cases q : i = p.1
      · rw [if_pos q, if_pos q, q, if_neg hj]
      · rw [if_neg q, if_neg q]

noncomputable def compV (R : Sems) (elt : E) (gens : List Mini.G) (lo : Lo) (H : Hp) : Option (V × Hp) := match gens with
  | [] => Option.none
  | .mk t it ifs :: gs => (evIt R it lo H).bind fun (vs, H) => (evComp.loop R t ifs (evComp R elt gs) vs (ldel (n_dot0 :: tgtsOf (.mk t it ifs :: gs)) lo) H).bind fun (ws, H) =>
    bif okLen ws.length then some (V.lst ws, H) else Option.none
theorem compV_eq {P : Prog} {R : Sems} {elt : E} {gens : List Mini.G} {lo : Lo} {H : Hp} : evStep P R (.comp elt gens) lo H = compV R elt gens lo H := by induction gens using List.casesOn <;> rfl

/-- a new list that no value may show -/
theorem St.hide (S : St C ρ H s) {o : Obj} (hD0 : s.heap.get? D = none) (hk : ∀ b o, s.heap.get? b = some o → s'.heap.get? b = some o) (hD : s'.heap.get? D = some o) (hg : s'.gens = s.gens) (hos : s'.os = s.os) : St C ⟨ρ.l, D :: ρ.z⟩ H s' ∧ Lasts ρ H s.heap ⟨ρ.l, D :: ρ.z⟩ H s'.heap := by
  have F := S.freshAt hD0
  have Lat : Lasts ρ H s.heap ⟨ρ.l, D :: ρ.z⟩ H s'.heap := by
    refine ⟨List.prefix_refl _, fun a items t => ?_, fun a items t m => ⟨?_, fun q => ?_⟩⟩
    · refine x1a2 t fun o ho q => ?_; exact ⟨o, hk a o ho, q⟩
    · refine x1a2 t fun o ho q => ?_; exact ⟨o, hk a o ho, q⟩
    · rcases q with q | q
      · exact m (.inl q)
      · rcases List.mem_cons.mp q with e | q
        · refine x1a2 t fun o ho _ => ?_; exact none_ne hD0 ho e
        · exact m (.inr q)
  refine ⟨⟨fun a o e => hk a o (S.base a o e), hg.trans S.gens, hos.trans S.os, S.len, fun i o p h1 h2 => (S.objs i o p h1 h2).lasts Lat (fun y e => hk _ y e) (fun y e => hk _ y e), S.apart, S.new, fun a ha => ?_, fun a ha i p hp => ?_, fun i p hp => ?_⟩, Lat⟩
  · rcases List.mem_cons.mp ha with e | ha
    · rw [e]; exact ⟨⟨_, hD⟩, F.base⟩
    · obtain ⟨⟨o, ho⟩, b⟩ := S.hid a ha
      exact ⟨⟨o, hk a o ho⟩, b⟩
  · rcases List.mem_cons.mp ha with e | ha
    · rw [e]; exact F.ne i p hp
    · exact S.zap a ha i p hp
  · obtain ⟨⟨x1, hx1⟩, x2, hx2⟩ := S.here i p hp
    exact ⟨⟨x1, hk _ _ hx1⟩, x2, hk _ _ hx2⟩
/-- the frame of a comprehension -/
theorem comp_env {tg : List Nat} (O : ScOk sc sc' tg) (X : EnvOK C sc env ρ H s.heap lo) (S : St C ρ H s) {Lc : Addr} (hL : s.heap.get? Lc = none) (hDL : D ≠ Lc) {h' : Heap} (hk : ∀ b o, s.heap.get? b = some o → h'.get? b = some o) (Lat : Lasts ρ H s.heap ⟨ρ.l, D :: ρ.z⟩ H h')
    {cl : List (Str × Addr)} (hc2 : ∀ x c, cl.lookup x = some c → env.cells.lookup x = some c) (hc3 : ∀ x, (x, NameKind.free) ∈ sc'.names → (cl.lookup x).isSome = true) {m : Str → Option Value} (hns : h'.Ns Lc m) :
    EnvOK C sc' (compEnvC sc' cl Lc env) ⟨ρ.l, D :: ρ.z⟩ H h' (ldel (n_dot0 :: tg) lo) := by
  have F := S.freshAt hL
  refine ⟨O.kind, X.glob, X.blt, fun x hx => lookup_relabel_local hx, fun x hx => absurd (lookup_mem hx) (O.cel x), fun x hx => ⟨lookup_relabel_free hx, ?_⟩, fun x hx => lookup_relabel_glob hx, ⟨_, hns, fun i v hi hk' => ?_⟩, fun i v hi hk' => ?_,
    ⟨F.own, fun x c hx e m => ?_⟩, ⟨F.base, fun x c hx => absurd (lookup_mem hx) (O.cel x)⟩, fun x y c hx => absurd (lookup_mem hx) (O.cel x), ⟨F.ne, fun m => ?_⟩⟩
  · refine x1a1 (Option.isSome_iff_exists.mp (hc3 x (lookup_mem hx))) fun c hc => ?_
    refine x1a1 (X.cell_lt (O.fre x (lookup_mem hx)).2 (hc2 x c hc)) fun v q => ?_
    exact ⟨c, v, hc, isCell_keep (fun o e => hk c o e) q⟩
  · have hany : ∀ j, j ∈ n_dot0 :: tg → nm j = nm i → False := fun j hj e => by
      rw [lk_ldel, if_pos (List.any_eq_true.mpr ⟨j, hj, by rw [nm_inj e]; exact Nat.beq_refl i⟩)] at hi
      exact nn hi
    rcases (O.loc _ (lookup_mem hk')).2 with e | ⟨j, hj, e⟩
    · exact (hany _ List.mem_cons_self e.symm).elim
    · exact (hany j (List.mem_cons_of_mem _ hj) e).elim
  · rcases hk' with hk' | hk'
    · exact absurd (lookup_mem hk') (O.cel _)
    · have hi' : lk lo i = some v := by
        rw [lk_ldel] at hi
        split at hi
        · exact nn hi
        · exact hi
      refine x2a3 (X.cv i v hi' (O.fre _ (lookup_mem hk')).2) fun c x e q rr => ?_
      refine x1a1 (Option.isSome_iff_exists.mp (hc3 (nm i) (lookup_mem hk'))) fun c' hc' => ?_
      rw [Option.some.inj (e.symm.trans (hc2 _ _ hc'))] at q
      exact ⟨c', x, hc', isCell_keep (fun o e => hk c' o e) q, rr.lasts Lat⟩
  · rcases hx with hx | hx
    · exact absurd (lookup_mem hx) (O.cel _)
    · exact X.free.2 x c (O.fre _ (lookup_mem hx)).2 (hc2 x c e) m
  · rcases List.mem_cons.mp m with e | m
    · exact hDL e.symm
    · exact F.z m
/-- the list is shown -/
theorem comp_show {Lc : Addr} {cl : List (Str × Addr)} {ws : List V} {ρ₀ : Rh} {H₀ : Hp} {s₀ : Shared} (cel : ∀ x, (x, NameKind.cell) ∉ sc'.names) (a : Acc C sc' (compEnvC sc' cl Lc env) ρ H s lo D ws) (N : Nx (Wc sc' (compEnvC sc' cl Lc env) D) ⟨ρ₀.l, D :: ρ₀.z⟩ H₀ s₀ ρ H s) (S0 : St C ρ₀ H₀ s₀) (hD : s₀.heap.get? D = none) (hL : s₀.heap.get? Lc = none) :
    St C ⟨ρ.l, ρ₀.z⟩ H s ∧ Nx no ρ₀ H₀ s₀ ⟨ρ.l, ρ₀.z⟩ H s ∧ VR ⟨ρ.l, ρ₀.z⟩ H s.heap (.lst ws) (.ref D) ∧ Loose C ⟨ρ.l, ρ₀.z⟩ s.heap Lc ∧ ∃ m, s.heap.Ns Lc m := by
  refine x1a2 a.env.ns fun m hm _ => ?_
  refine x3a3 (id hm) fun o es ep ho hd _ => ?_
  have hz' : ρ.z = D :: ρ₀.z := N.z
  have hin : ∀ a ∈ ρ₀.z, a ∈ ρ.z := fun a ha => by rw [hz']; exact List.mem_cons_of_mem _ ha
  have Lf : Lasts ρ H s.heap ⟨ρ.l, ρ₀.z⟩ H s.heap := ⟨List.prefix_refl _, fun _ _ t => t, fun a items t m => ⟨t, fun q => m (q.imp id fun q => hin a q)⟩⟩
  have S₅ := a.st
  refine x1a2 a.lst fun items tD rD => ?_
  have hW : ∀ q, Wc sc' (compEnvC sc' cl Lc env) D q → s₀.heap.get? q = none := fun q w => by
    rcases w with e | e | ⟨x, hx, _⟩
    · rw [e]; exact hD
    · rw [e]; exact hL
    · exact absurd (lookup_mem hx) (cel _)
  refine ⟨⟨S₅.base, S₅.gens, S₅.os, S₅.len, fun i o p h1 h2 => (S₅.objs i o p h1 h2).lasts Lf (fun y e => e) (fun y e => e), S₅.apart, S₅.new, fun a ha => S₅.hid a (hin a ha), fun a ha => S₅.zap a (hin a ha), S₅.here⟩,
    ⟨N.ext, rfl, fun q o e nn' _ => N.keep q o e nn' fun w => nn ((hW q w).symm.trans e), N.fresh, N.pres, fun _ _ w => w.elim, N.news⟩, .lst tD ?_ (rD.lasts Lf), ⟨⟨o, ho, by rw [hd]; intro _ _ z; cases z⟩, a.env.new.1, a.env.clr.1, fun q => a.env.clr.2 (hin _ q)⟩, m, hm⟩
  rintro (q | q)
  · exact S₅.z_own a.z q
  · exact (S0.freshAt hD).z q

/-- a comprehension: its list is made; what is done with it follows -/
theorem comp_core {G : Glo} (K : CfgOK C G) (EV : EvOK C n R) (TR : TrOK C n R) {elt : E} {gens : List Mini.G} {x : Expr} {v : V} (hm : mtE (f + 1) sc (.comp elt gens) x = true)
    (h : compV R elt gens lo H = some (v, H'))
    (r : Room n A) (S : St C ρ H s) (X : EnvOK C sc env ρ H s.heap lo) : ∃ (y : Expr) (cs : List Comprehension) (sc' : Scope) (p : Pos), x = .ListComp y cs sc' p ∧ firstAsync cs = false ∧ ∀ (use : Option (Value → Sem Unit)) (E Q : Value → Shared → Prop),
    (∀ D Lc s' ρ', St C ρ' H' s' → Nx no ρ H s ρ' H' s' → VR ρ' H' s'.heap v (.ref D) → Loose C ρ' s'.heap Lc → (∃ m, s'.heap.Ns Lc m) → s.heap.get? Lc = none → compPost (MM C) A E use Q (.ref D) Lc (.ok .next) s') →
    wpAny (MM C) A (comprehension x sc' env (firstIterPos cs p) (newList []) false (firstIter cs env) use) Q E s := by
  obtain ⟨y, cs, sc', p, rfl, m0, mN, m1, m2⟩ : ∃ y cs sc' p, x = .ListComp y cs sc' p ∧ scOk sc sc' (tgtsOf gens) = true ∧ nodupB (tgtsOf gens) = true ∧ mtE f sc' elt y = true ∧ mtGs1 (mtE f) sc sc' gens cs = true := ⟨_, _, _, _, (mt_bk hm).1, and4 (mt_bk hm).2⟩
  · clear hm
    induction gens using List.casesOn with
    | nil => exact nn h
    | cons g gs =>
      obtain ⟨t, it, ifs⟩ := g
      induction cs using List.casesOn with
      | nil => exact ff m2
      | cons c cs =>
        obtain ⟨tx, ix, fx, aa⟩ := c
        have mG := and_r m2
        refine x0a4 (and4 (and_l m2)) fun mB mI mF ma => ?_
        cases (beq_iff_eq.mp ma : aa = 0)
        (refine bpE h fun vs H1 h1 hh_ => ?_; clear h; revert hh_; intro h)
        (refine bpE h fun ws H2 h2 hh_ => ?_; clear h; revert hh_; intro h)
        (refine itE h fun hk hh_ => ?_; clear h; revert hh_; intro h)
        (apply sinjE h; clear h)
        · have O := scOk_of m0
          have hT : tgtsOf (.mk t it ifs :: gs) = tgtB t ++ tgtsOf gs := by simp [tgtsOf]
          refine ⟨_, _, _, _, rfl, rfl, fun use E Q k => ?_⟩
          refine x1a3 (closure_ok X (names := sc'.names) (fun x hx => (O.fre x hx).2) [] (fun x c e => by simp at e)) fun cl hc1 hc2 hc3 => ?_
          have hclos : closureFor sc' env = pure cl := by
            unfold closureFor
            have := congrArg (fun t : Sem (List (Str × Addr)) => t >>= fun cs => pure cs) hc1
            simp only [bind_pure] at this ⊢
            exact this
          refine wpAny_comprehension_free (use := use) (g := ⟨tx, ix, fx, 0⟩) (gs := cs) rfl (folded_plain mI) hclos O.kind (fun z hz hl => (O.loc z.1 (by rw [← hl]; exact hz)).1) ?_
          show wpAny (MM C) A (eval ix env) _ E s
          refine wpAny_mono (it_ok (Q := fun (xv : Value) (s₄ : Shared) => ∃ I ρ₂, xv = .ref I ∧ St C ρ₂ H1 s₄ ∧ Nx no ρ H s ρ₂ H1 s₄ ∧ ItR ρ₂ H1 s₄.heap I vs ∧ Loose C ρ₂ s₄.heap I ∧ s.heap.get? I = none) K EV mI h1 r S X fun I s₄ ρ₄ S₄ N₄ it₄ L₄ ab => ⟨I, ρ₄, rfl, S₄, N₄, it₄, L₄, ab⟩) (fun xv s₁ hp => ?_) fun _ _ e => e
          refine wpAny_mono hp (fun itv s₂ hq => ?_) fun _ _ e => e
          obtain ⟨I, ρ₂, rfl, S₂, N₂, it₂, L₂, ab⟩ := hq
          -- the list and the frame
          refine wpAny_newObj_type ?_
          refine wpAny_newFunctionEnv (fun z hz hl => O.cel z.1 (by rw [← hl]; exact hz)) (by intro y hy; simp at hy) (fun h' hns hsb => ?_) O.kind
          dsimp only at hns hsb ⊢
          generalize hH3 : s₂.heap.push { cls := .type "list", dict := none, data := .seq ([] : List Value).toArray } = h3 at hns hsb ⊢
          have hD0 := get?_end s₂.heap
          have hD3 : h3.get? s₂.heap.objs.size = some { cls := .type "list", dict := none, data := .seq ([] : List Value).toArray } := by rw [← hH3]; exact Heap.get?_push_size _ rfl
          have hk3 : ∀ b o, s₂.heap.get? b = some o → h3.get? b = some o := fun b o e => by rw [← hH3]; exact Heap.get?_push_of_some _ e
          have hL3 := get?_end h3
          have hk4 : ∀ b o, h3.get? b = some o → h'.get? b = some o := fun b o e => (hsb.2 b (fun z => by rw [z, hL3] at e; exact nn e)).trans (Heap.get?_push_of_some _ e)
          generalize hDD : s₂.heap.objs.size = D at hD0 hD3 ⊢
          generalize hLL : h3.objs.size = Lc at hns hL3 ⊢
          have hDL : D ≠ Lc := fun z => by rw [z, hL3] at hD3; exact nn hD3
          -- the state with the list hidden
          have hk24 : ∀ b o, s₂.heap.get? b = some o → h'.get? b = some o := fun b o e => hk4 b o (hk3 b o e)
          have hD4 : h'.get? D = some { cls := .type "list", dict := none, data := .seq ([] : List Value).toArray } := hk4 _ _ hD3
          have HD := S₂.hide (s' := { s₂ with heap := h', toks := s₂.toks + ([] : List (Str × Value)).length }) hD0 hk24 hD4 rfl rfl
          have Lat : Lasts ρ₂ H1 s₂.heap ⟨ρ₂.l, D :: ρ₂.z⟩ H1 h' := HD.2
          have hLs2 : s₂.heap.get? Lc = none := by
            cases e : s₂.heap.get? Lc with
            | none => rfl
            | some o => rw [hk3 _ _ e] at hL3; exact nn hL3.symm
          have X₄ := comp_env O (X.next S N₂) S₂ hLs2 hDL hk24 Lat hc2 (fun x hx => hc3 x (.inl hx)) hns
          have hW : ∀ q, Wc sc' (compEnvC sc' cl Lc env) D q → s.heap.get? q = none := fun q w => by
            rcases w with e | e | ⟨x, hx, _⟩
            · rw [e]; exact N₂.none_of hD0
            · rw [e]; exact N₂.none_of hLs2
            · exact absurd (lookup_mem hx) (O.cel _)
          have Na : Nx (Wc sc' (compEnvC sc' cl Lc env) D) ⟨ρ.l, D :: ρ.z⟩ H s ⟨ρ₂.l, D :: ρ₂.z⟩ H1 { s₂ with heap := h', toks := s₂.toks + ([] : List (Str × Value)).length } :=
            ⟨N₂.ext, by rw [N₂.z], fun q o e nn _ => hk24 q o (N₂.keep q o e nn id), N₂.fresh, fun q o e => x1a1 (N₂.pres q o e) fun o' e' => ⟨o', hk24 q o' e'⟩, fun q o w e => nn ((hW q w).symm.trans e), N₂.news⟩
          have A₄ : Acc C sc' (compEnvC sc' cl Lc env) ⟨ρ₂.l, D :: ρ₂.z⟩ H1 { s₂ with heap := h', toks := s₂.toks + ([] : List (Str × Value)).length } (ldel (n_dot0 :: tgtsOf (.mk t it ifs :: gs)) lo) D [] :=
            ⟨HD.1, X₄, List.mem_cons_self, #[], ⟨_, hD4, rfl, _, rfl⟩, .nil⟩
          have it₄ : ItR ⟨ρ₂.l, D :: ρ₂.z⟩ H1 h' I vs := it₂.keep Lat (fun o e => hk24 I o e)
          have L₄ : Loose C ⟨ρ₂.l, D :: ρ₂.z⟩ h' I := by
            obtain ⟨⟨o, ho, hd⟩, b, c, d⟩ := L₂
            refine ⟨⟨o, hk24 I o ho, hd⟩, b, c, fun m => ?_⟩
            rcases List.mem_cons.mp m with rfl | m
            · rw [hD0] at ho; exact nn ho
            · exact d m
          rw [hT] at mN
          refine start_ok (env := compEnvC sc' cl Lc env) (d := 0) (tx := tx) (ix := ix) (fx := fx) rfl it₄ ?_
          refine loop_ok (env := compEnvC sc' cl Lc env) K EV TR m1 gs (d := 0) rfl mB mF mG mN vs h2 (fun i hi => ?_) r A₄ it₄ L₄ (by simpa using okLen_le hk) ab Na fun s' ρ' a' n' => ?_
          · rw [lk_ldel, if_pos]
            rw [hT]
            exact List.any_eq_true.mpr ⟨i, List.mem_cons_of_mem _ hi, Nat.beq_refl i⟩
          · have Z := comp_show O.cel a' n' S (N₂.none_of hD0) (N₂.none_of hLs2)
            exact k D Lc s' _ Z.1 Z.2.1 Z.2.2.1 Z.2.2.2.1 Z.2.2.2.2 (N₂.none_of hLs2)

/-- what the frame of a comprehension does at its end -/
theorem comp_leave (S : St C ρ H s) {Lc : Addr} (L : Loose C ρ s.heap Lc) {h' : Heap} (hs : Heap.SameBut Lc s.heap h') {s₀ : Shared} {ρ₀ : Rh} {H₀ : Hp} (N : Nx W ρ₀ H₀ s₀ ρ H s) (h0 : s₀.heap.get? Lc = none) :
    St C ρ H { s with heap := h' } ∧ Nx W ρ₀ H₀ s₀ ρ H { s with heap := h' } ∧ Lasts ρ H s.heap ρ H h' := by
  have hk : ∀ q o, q ≠ Lc → s.heap.get? q = some o → h'.get? q = some o := fun q o e g => (hs.2 q e).trans g
  refine x0a2 (S.turnL (s' := { s with heap := h' }) L hk rfl rfl) fun S' La => ?_
  exact ⟨S', N.freely h0 hk, La⟩

theorem ev_comp {G : Glo} (K : CfgOK C G) (EV : EvOK C n R) (TR : TrOK C n R) {elt : E} {gens : List Mini.G} {x : Expr} {v : V} (hm : mtE (f + 1) sc (.comp elt gens) x = true)
    (h : compV R elt gens lo H = some (v, H'))
    (r : Room n A) (S : St C ρ H s) (X : EnvOK C sc env ρ H s.heap lo) : Runs C A (eval x env) ρ H s v H' := by
  obtain ⟨y, cs, sc', p, rfl, hasy, core⟩ := comp_core K EV TR hm h r S X
  intro E Q k
  rw [eval_ListComp, hasy]
  refine core none E Q fun D Lc s' ρ' S' N' rv L hm h0 => ?_
  refine x1a1 hm fun m hm => ?_
  refine ⟨m, hm, fun h'' hs => ?_⟩
  refine x0a3 (comp_leave S' L hs N' h0) fun S₅ N₅ La => ?_
  exact k _ _ _ S₅ N₅ (rv.lasts La)
end
end Mini
end
section
set_option autoImplicit false
namespace Mini
open PySem PySem.Calls PyProof.Rows
open PySem.W (Frag dictOf Looks findIn typeIn keepIn makesIn plainGet hasDictIn plainOver getL)

inductive FlR (ρ : Rh) (H : Hp) (h : Heap) : Fl → Flow → Prop
  | nxt : FlR ρ H h .nxt .next
  | cont : FlR ρ H h .cont .cont
  | ret {v : V} {x : Value} : VR ρ H h v x → FlR ρ H h (.ret v) (.ret x)

/-- what a statement does -/
noncomputable def RunsS (C : Cfg) (A : Around) (sc : Scope) (env : Env) (t : Sem Flow) (ρ : Rh) (H : Hp) (s : Shared) (fl : Fl) (lo' : Lo) (H' : Hp) : Prop := ∀ (E : Value → Shared → Prop) (Q : Flow → Shared → Prop),
  (∀ fl' s' ρ', St C ρ' H' s' → Nx (Wr sc env) ρ H s ρ' H' s' → EnvOK C sc env ρ' H' s'.heap lo' → FlR ρ' H' s'.heap fl fl' → Q fl' s') → wpAny (MM C) A t Q E s
theorem RunsS.eq {C : Cfg} {A : Around} {sc : Scope} {env : Env} {t : Sem Flow} {ρ : Rh} {H H1 H' : Hp} {s : Shared} {f1 fl : Fl} {l1 lo' : Lo} (h : (f1, l1, H1) = (fl, lo', H')) (k : RunsS C A sc env t ρ H s f1 l1 H1) : RunsS C A sc env t ρ H s fl lo' H' := by
  (refine pinj3E h ?_; clear h); exact k

/-- a level's statements are right -/
noncomputable def ExOK (C : Cfg) (n : Nat) (R : Sems) : Prop := ∀ (f : Nat) (sc : Scope) (env : Env) (b : List S) (xs : List Stmt) (lo : Lo) (H : Hp) (fl : Fl) (lo' : Lo) (H' : Hp),
  mtSs (mtS f sc) b xs = true → R.exs b lo H = some (fl, lo', H') → ∀ (A : Around) (s : Shared) (ρ : Rh), Room n A → St C ρ H s → EnvOK C sc env ρ H s.heap lo → RunsS C A sc env (execs xs env) ρ H s fl lo' H'

section
variable {C : Cfg} {sc sc' : Scope} {env : Env} {lo lo' : Lo} {A : Around} {R : Sems} {n : Nat} {f : Nat} {ρ ρ' : Rh} {H H' : Hp} {s s' : Shared} {W : Addr → Prop} {a D : Addr} {acc : List V}

set_option tactic.hygienic true in
theorem cellsFrom_some : ∀ (names : List (Str × NameKind)) (k : Nat) (acc : List (Str × Addr)) (x : Str), ((x, NameKind.cell) ∈ names ∨ (acc.lookup x).isSome = true) → ((cellsFrom k names acc).lookup x).isSome = true
  | [], k, acc, x, h => by simpa [cellsFrom] using h
  | (y, kd) :: r, k, acc, x, h => by
    unfold cellsFrom
    split
    · rename_i hk
      refine cellsFrom_some r (k + 1) _ x ?_
      rcases h with h | h
      · rcases List.mem_cons.mp h with e | h
        · (refine x0a2 (pinj e) fun e1_ e2_ => ?_; clear e; subst e1_; subst e2_); exact .inr (by simp)
        · exact .inl h
      · refine .inr ?_
        rw [List.lookup_cons]
        cases x == y <;> simp [h]
    · rename_i hk
      refine cellsFrom_some r k acc x ?_
      rcases h with h | h
      · rcases List.mem_cons.mp h with e | h
        · (refine x0a2 (pinj e) fun e1_ e2_ => ?_; clear e; subst e1_; subst e2_); exact absurd rfl hk
        · exact .inl h
      · exact .inr h

theorem bindG {F : List (Str × Value) → (Str → Option Value) → Str → Option Value} {g : Str → Value → (Str → Option Value) → Str → Option Value} (h1 : ∀ n v r m, F ((n, v) :: r) m = F r (g n v m)) {i : Nat} (h0 : ∀ m, F [] m (nm i) = m (nm i)) (hg : ∀ n v m, g n v m (nm i) = if nm i = n then some v else m (nm i)) {h : Heap} {v : V} {vs : List V} {ys : List Value} (rv : VRs ρ H h vs ys) :
    ∀ (ns : List Nat) (m : Str → Option Value), (ns.map nm).Nodup → (lk (ns.zip vs) i = some v → ∃ x, F ((ns.map nm).zip ys) m (nm i) = some x ∧ VR ρ H h v x) ∧ (i ∉ ns → F ((ns.map nm).zip ys) m (nm i) = m (nm i)) := by
  refine VRs.ind (q := fun vs ys => ∀ (ns : List Nat) (m : Str → Option Value), (ns.map nm).Nodup → (lk (ns.zip vs) i = some v → ∃ x, F ((ns.map nm).zip ys) m (nm i) = some x ∧ VR ρ H h v x) ∧ (i ∉ ns → F ((ns.map nm).zip ys) m (nm i) = m (nm i)))
    (fun ns m _ => ?_) (fun {u y vs ys} r _ ih ns m hn => ?_) rv
  · rw [List.zip_nil_right, List.zip_nil_right]; exact ⟨fun e => nn e, fun _ => h0 m⟩
  induction ns using List.casesOn with
  | nil => exact ⟨fun e => nn e, fun _ => h0 m⟩
  | cons j ns =>
    replace hn := List.nodup_cons.mp hn
    replace ih := ih ns (g (nm j) y m) hn.2
    rw [show F (((j :: ns).map nm).zip (y :: ys)) m = F ((ns.map nm).zip ys) (g (nm j) y m) from h1 _ _ _ _]
    refine ⟨fun e => ?_, fun hni => ?_⟩
    · replace e := (lk_cons j u (ns.zip vs) i).symm.trans e
      by_cases q : i = j
      · rw [if_pos q] at e
        exact ⟨y, (ih.2 fun hm => hn.1 (List.mem_map.mpr ⟨i, hm, congrArg nm q⟩)).trans ((hg _ _ _).trans (if_pos (congrArg nm q))), Option.some.inj e ▸ r⟩
      · rw [if_neg q] at e
        exact ih.1 e
    · rw [ih.2 (fun m => hni (.tail _ m)), hg, if_neg fun e : nm i = nm j => hni (nm_inj e ▸ .head _)]
theorem bindL_get {kindOf : Str → Option NameKind} {ns : List Nat} {vs : List V} {ys : List Value} {h : Heap} (rv : VRs ρ H h vs ys) (hn : (ns.map nm).Nodup) {m : Str → Option Value} {i : Nat} {v : V} (hk : kindOf (nm i) = some .local) (e : lk (ns.zip vs) i = some v) :
    ∃ x, bindL kindOf ((ns.map nm).zip ys) m (nm i) = some x ∧ VR ρ H h v x :=
  (bindG (F := bindL kindOf) (g := fun n v m => if kindOf n = some .local then fun y => if y = n then some v else m y else m) (fun _ _ _ _ => rfl) (fun _ => rfl) (fun n v m => by
    by_cases q : kindOf n = some .local
    · rw [if_pos q]
    · rw [if_neg q, if_neg fun e : nm i = n => q (e ▸ hk)]) rv ns m hn).1 e
theorem bindC_get {kindOf : Str → Option NameKind} {ns : List Nat} {vs : List V} {ys : List Value} {h : Heap} (rv : VRs ρ H h vs ys) (hn : (ns.map nm).Nodup) {m : Str → Option Value} {i : Nat} {v : V} (hk : kindOf (nm i) ≠ some .local) (e : lk (ns.zip vs) i = some v) :
    ∃ x, bindC kindOf ((ns.map nm).zip ys) m (nm i) = some x ∧ VR ρ H h v x :=
  (bindG (F := bindC kindOf) (g := fun n v m => if kindOf n = some .local then m else fun y => if y = n then some v else m y) (fun _ _ _ _ => rfl) (fun _ => rfl) (fun n v m => by
    by_cases q : kindOf n = some .local
    · rw [if_pos q, if_neg fun e : nm i = n => hk (e ▸ q)]
    · rw [if_neg q]) rv ns m hn).1 e

/-- a function of the program's own is called -/
theorem code_fn {G : Glo} (K : CfgOK C G) (EX : ExOK C n R) {fd : FDef} {fa : Addr} (F : Fn C fa fd) {vs : List V} {ys : List Value} {v : V} (h : callF R fd vs H = some (v, H')) (hdep : A.depth < 1000) (hroom : ∀ env, Room n (A.deeper env)) (S : St C ρ H s) (rv : VRs ρ H s.heap vs ys) {RR : Result → Shared → Prop}
    (k : ∀ x s' ρ', St C ρ' H' s' → Nx no ρ H s ρ' H' s' → VR ρ' H' s'.heap v x → RR (.ok (.ret x)) s') : codeAny (MM C) A (.call (.ref fa) ⟨ys, []⟩) RR s := by
  refine x4a3 F fun d as stmts m F hclo hfre => ?_
  unfold callF at h
  cases hl : Nat.beq vs.length fd.params.length with
  | false => rw [hl] at h; exact nn h
  | true =>
    rw [hl] at h
    simp only [cond_true] at h
    have hlen := Nat.eq_of_beq_eq_true hl
    refine x3a1 F.obj fun oc od sl hobj => ?_
    have hg := K.X.keeps S.base _ _ hobj
    have hal : as.length = ys.length := by
      rw [← rv.length, hlen]
      have := congrArg List.length F.names
      simpa using this
    refine codeAny_call_cells (binds := (as.map (·.arg)).zip ys) hdep hg rfl (K.lim.keeps S.base) (F.code.keeps S.base) F.body (bind_plain F.params F.dflt hal (by rw [F.names]; exact F.nodup)) hclo ?_ ?_ F.co F.gen F.kind
    · intro x hx
      have hx1 : x.1 ∈ fd.params.map nm := by
        rw [← F.names]
        exact (List.of_mem_zip (show (x.1, x.2) ∈ _ from hx)).1
      rcases F.loc x.1 hx1 with q | q
      · exact .inl q
      · exact .inr ⟨q, cellsFrom_some _ _ _ _ (.inl (lookup_mem q))⟩
    · intro s₁ I
      rw [F.names] at I
      obtain ⟨⟨h', tk, rfl⟩, hns, hkeep, hfresh⟩ := I.toInCall
      have hL0 : s.heap.get? (callEnvC d s.heap.objs.size fa).locals = none := by
        cases e : s.heap.get? (callEnvC d s.heap.objs.size fa).locals with
        | none => rfl
        | some o => exact absurd (Heap.lt_size e) (Nat.not_lt.mpr hfresh)
      have hc0 : ∀ x c, (callEnvC d s.heap.objs.size fa).cells.lookup x = some c → s.heap.get? c = none := fun x c e => by
        have := I.above x c (lookup_mem e)
        cases e : s.heap.get? c with
        | none => rfl
        | some o => exact absurd (Heap.lt_size e) (Nat.not_lt.mpr (Nat.le_of_lt (Nat.lt_of_le_of_lt hfresh this)))
      have FL := S.freshAt hL0
      refine x0a2 (S.grow (s' := { s with heap := h', toks := tk }) hkeep rfl rfl) fun S₁ N₁ => ?_
      have rv₁ := rv.lasts (N₁.lasts S)
      have X₁ : EnvOK C d.scope (callEnvC d s.heap.objs.size fa) ρ H h' (fd.params.zip vs) := by
        refine ⟨F.kind, F.glob, F.blt, fun x hx => hx, fun x hx => ⟨hx, ?_⟩, fun x hx => absurd hx (hfre x), fun x hx => hx, ⟨_, hns, fun i v hi hk => ?_⟩, fun i v hi hk => ?_, ⟨FL.own, fun x c _ e => (S.freshAt (hc0 x c e)).own⟩, ⟨FL.base, fun x c _ e => (S.freshAt (hc0 x c e)).base⟩,
          fun x y c _ e1 e2 => name_of_addr I.apart (lookup_mem e1) (lookup_mem e2), ⟨FL.ne, FL.z⟩⟩
        · refine x1a1 (Option.isSome_iff_exists.mp (cellsFrom_some d.scope.names (s.heap.objs.size + 1) [] x (.inl (lookup_mem hx)))) fun c hc => ?_
          exact ⟨c, _, hc, I.cell x c hc⟩
        · exact bindL_get (kindOf := (callEnvC d s.heap.objs.size fa).kindOf) rv₁ F.nodup hk hi
        · rcases hk with hk | hk
          · refine x1a1 (Option.isSome_iff_exists.mp (cellsFrom_some d.scope.names (s.heap.objs.size + 1) [] (nm i) (.inl (lookup_mem hk)))) fun c hc => ?_
            refine x1a2 (bindC_get (kindOf := (callEnvC d s.heap.objs.size fa).kindOf) (m := fun _ => none) (i := i) (v := v) rv₁ F.nodup (by show d.scope.names.lookup (nm i) ≠ _; rw [hk]; intro z; cases z) hi) fun x e1 r1 => ?_
            have hq := I.cell (nm i) c hc
            rw [e1] at hq
            exact ⟨c, x, hc, hq, r1⟩
          · exact absurd hk (hfre _)
      have hW : ∀ q, Wr d.scope (callEnvC d s.heap.objs.size fa) q → s.heap.get? q = none := fun q w => by
        rcases w with rfl | ⟨x, _, e⟩
        · exact hL0
        · exact hc0 x q e
      cases hb : R.exs fd.body (fd.params.zip vs) H with
      | none => rw [hb] at h; exact nn h
      | some z =>
        obtain ⟨fl, lo', H2⟩ := z
        rw [hb] at h
        refine EX m d.scope _ fd.body stmts _ H fl lo' H2 F.mt hb (A.deeper (callEnvC d s.heap.objs.size fa)) _ ρ (hroom _) S₁ X₁ _ _ fun fl' s₂ ρ₂ S₂ N₂ X₂ q => ?_
        have NN := Nx.close N₁ N₂ hW (fun _ _ _ e => e)
        induction q using Mini.FlR.casesOn with
        | nxt =>
          (refine x0a2 (sinj h) fun e1_ e2_ => ?_; clear h; subst e1_; subst e2_)
          exact k _ _ _ S₂ NN .none
        | cont => exact nn h
        | ret rr =>
          (refine x0a2 (sinj h) fun e1_ e2_ => ?_; clear h; subst e1_; subst e2_)
          exact k _ _ _ S₂ NN rr

theorem call_fn {G : Glo} (K : CfgOK C G) (EX : ExOK C n R) {fd : FDef} {fa : Addr} (F : Fn C fa fd) {vs : List V} {ys : List Value} {v : V} (h : callF R fd vs H = some (v, H')) (r : Room (n + 1) A) (S : St C ρ H s) (rv : VRs ρ H s.heap vs ys) :
    Runs C A (call (.ref fa) ys) ρ H s v H' := fun E Q k =>
  wpAny_call (code_fn K EX F h (by have := r.2.1; (clear h; lia)) (fun env => r.deep) S rv k)
end
end Mini
end
section
set_option autoImplicit false
namespace Mini
open PySem PySem.Calls PyProof.Rows
open PySem.W (Frag dictOf Looks findIn typeIn keepIn makesIn plainGet hasDictIn plainOver getL)

theorem nm_append : nm n_append = ("append" : Str) := by decide +kernel
theorem nm_get : nm n_get = ("get" : Str) := by decide +kernel

section
variable {C : Cfg} {sc sc' : Scope} {env : Env} {lo lo' : Lo} {A : Around} {R : Sems} {n : Nat} {f : Nat} {ρ ρ' : Rh} {H H' : Hp} {s s' : Shared} {W : Addr → Prop} {a D : Addr} {acc : List V}

theorem Fn.keeps {a : Addr} {fd : FDef} (F : Fn C a fd) : Keeps C (.ref a) := by
  refine x4a3 F fun d as stmts m F _ _ => ?_
  exact keeps_in F.keep

theorem ev_call {G : Glo} (K : CfgOK C G) (EV : EvOK C n R) (EX : ExOK C n R) {g : Nat} {args : List E} {x : Expr} {v : V} (hm : mtE (f + 1) sc (.call g args) x = true)
    (h : (lk C.P.funs g).bind (fun fd => (evs R args lo H).bind fun (vs, H) => callF R fd vs H) = some (v, H'))
    (r : Room (n + 1) A) (S : St C ρ H s) (X : EnvOK C sc env ρ H s.heap lo) : Runs C A (eval x env) ρ H s v H' := by
  have hx := mt_bk hm
  have m := and3 hx.2
  refine x1a3 (isGlob_of m.1) fun pp hy hl hd => ?_
  refine bsE h fun fd h1 ha => ?_
  refine bpE ha fun vs H1 h2 hb => ?_
  refine x1a2 (K.fn g fd h1) fun a ha F => ?_
  refine .of (x' := .Call (.Name (nm g) pp) (pt x).l [] (pt x).p) (hx.1.trans (congrArg (fun z => Expr.Call z (pt x).l [] (pt x).p) hy)) fun E Q k => ?_
  exact Call_Name rfl (wpAny_Name (loadGlob_ok K X S hl ha (args_ok K EV F.keeps m.2.1 h2 r.dec S X fun ys s₁ ρ₁ S₁ N₁ r₁ => call_fn K EX F hb r S₁ r₁ E Q fun x s₂ ρ₂ S₂ N₂ r₂ => k x s₂ ρ₂ S₂ (N₁.trans N₂) r₂)) hd)

theorem bi_gen {G : Glo} (K : CfgOK C G) (EV : EvOK C n R) {b : Bi} {args : List E} {y : Expr} {xs : List Expr} {p : Pos} {v : V} (hg : isGlob sc (biName b) y = true) (hm : mtEs (mtE f) sc args xs = true) (hb : b ≠ .isTuple ∧ b ≠ .isInt ∧ b ≠ .dict)
    (h : (evs R args lo H).bind (fun (vs, H) => callBi b vs H) = some (v, H'))
    (r : Room n A) (S : St C ρ H s) (X : EnvOK C sc env ρ H s.heap lo) : Runs C A (eval (.Call y xs [] p) env) ρ H s v H' := by
  refine bpE h fun vs H1 h2 hfin => ?_
  obtain ⟨pp, rfl, hl, hd⟩ := isGlob_of hg
  intro E Q k
  refine Call_Name rfl ?_
  refine wpAny_Name (loadBlt_ok K X S hl (bi_in b) (boot_bi b) ?_) hd
  refine args_ok K EV (keeps_bi b) hm h2 r S X fun ys s₁ ρ₁ S₁ N₁ r₁ => ?_
  exact callBi_ok S₁ r.1 r₁ hfin hb E Q fun x s₂ ρ₂ S₂ N₂ r₂ => k x s₂ ρ₂ S₂ (N₁.trans N₂) r₂
theorem ev_bi {G : Glo} (K : CfgOK C G) (EV : EvOK C n R) {b : Bi} {args : List E} {x : Expr} {v : V} (hm : mtE (f + 1) sc (.bi b args) x = true)
    (h : evStep C.P R (.bi b args) lo H = some (v, H'))
    (r : Room n A) (S : St C ρ H s) (X : EnvOK C sc env ρ H s.heap lo) : Runs C A (eval x env) ρ H s v H' := by
  have hx := mt_bk hm
  have hg := and_l hx.2
  have hm := and_r hx.2
  cases b with
  | isTuple => cases hm
  | isInt => cases hm
  | dict => exact ff hm
  | _ => exact .of (x' := .Call (pt x).a (pt x).l [] (pt x).p) hx.1 (bi_gen K EV hg (and_r (and_l hm)) ⟨by decide, by decide, by decide⟩ h r S X)

/-! methods -/
theorem meth_go {o : Expr} {name : Str} {apos pos : Pos} {ov : Value} {es : List E} {xs : List Expr} (hxs : mtEs (mtE f) sc es xs = true) (hl : (apos.endLine == pos.line) = true) (hn : Nat.ble es.length 20 = true) {E : Value → Shared → Prop} {Q : Value → Shared → Prop}
    (h : ∀ pl, wpAny (MM C) A (getMethod ov name pl) (fun p s' => wpAny (MM C) A (callWith pos p.1 p.2 (backTo pos (starEach xs env)) []) Q E s') E s) :
    wpAny (MM C) A (methodCall o name apos pos env ov (xs.length + ([] : List Keyword).length) (backTo pos (starEach xs env)) (backToKw pos (keywordEach [] env))) Q E s := by
  have hn := Nat.le_of_ble_eq_true hn
  rw [mtEs_length hxs] at hn
  have hform : methodCallForm (xs.length + ([] : List Keyword).length) (backTo pos (starEach xs env)) (backToKw pos (keywordEach [] env)) = true := by
    unfold methodCallForm
    rw [starEach_plain hxs, backTo_plain]
    have h1 : (treesOf xs env).all (fun x => !x.1) = true := by
      clear hxs hn h
      induction xs with
      | nil => rfl
      | cons x xs ih => simpa [treesOf] using ih
    rw [h1]
    show (true && true && decide (xs.length + 0 + 0 < 30)) = true
    simp; (clear h1 hl hxs; lia)
  have hpos : methodCallPos true o env apos pos = pure pos := by unfold methodCallPos; simp [hl]
  unfold methodCall
  rw [hform]
  refine wpAny_bind (wpAny_holding (wpAny_mono (h _) (fun p s' hp => ?_) fun _ _ e => e))
  exact wpAny_bind (wpAny_of_eq hpos hp)

theorem PlainList_typeIs {items : Array Value} (t : s.heap.PlainList a items) : s.TypeIs (.ref a) "list" := x1a1 t fun _ e => ⟨_, e, rfl⟩

theorem getD_map {α β : Type} (o : Option (α × β)) (d : β) : ((o.map (·.2)).getD d) = match o with | some p => p.2 | none => d := by induction o using Option.casesOn <;> rfl

theorem dictObj (S : St C ρ H s) {i : Nat} {o : O} {p : Addr × Addr} (hn : nth H i = some o) (hp : ρ[i]? = some p) (hd : o.isDict = true) : s.TypeIs (.ref p.1) "dict" ∧ ∃ ob, s.heap.get? p.1 = some ob ∧ ob.dict = none := by
  have := S.objs i o p hn hp
  cases o with
  | dI l => obtain ⟨_, xs, ⟨o, es, ep, ho, hx, _⟩, _⟩ := this; exact ⟨⟨o, ho, hx.1⟩, o, ho, hx.2.1⟩
  | dS l => obtain ⟨_, xs, ⟨o, es, ep, ho, hx, _⟩, _⟩ := this; exact ⟨⟨o, ho, hx.1⟩, o, ho, hx.2.1⟩
  | dT l => obtain ⟨_, xs, ⟨o, es, ep, ho, hx, _⟩, _⟩ := this; exact ⟨⟨o, ho, hx.1⟩, o, ho, hx.2.1⟩
  | _ => exact ff hd

theorem append_ok (S : St C ρ H s) {r : Nat} {l : List V} {p : Addr × Addr} {v : V} {y : Value} (hn : nth H r = some (.list l)) (hp : ρ[r]? = some p) (rv : VR ρ H s.heap v y) (hl : okLen l.length = true) :
    Runs C A (call (.builtin "list.append") [.ref p.1, y]) ρ H s .none (H.set r (.list (l ++ [v]))) := by
  obtain ⟨e, items, t, rl⟩ := S.objs r _ p hn hp
  have h1 := rl.length
  simp only [Array.length_toList] at h1
  have h2 := okLen_le hl
  intro E Q k
  refine wpAny_list_append_plain t (fun h' t' hb => ?_) (by rw [sizeLine_big]; (clear e hl hp hn; lia))
  have hz : ∃ o, h'.get? p.1 = some o := x1a1 t' fun _ e => ⟨_, e⟩
  obtain ⟨S', N⟩ := S.set (s' := { s with heap := h' }) hn rfl hp (o' := .list (l ++ [v])) (fun q x n1 _ g => (hb.2 q n1).trans g) ⟨hz, by rw [e]; exact hz⟩ rfl rfl
    (fun L => ⟨e, _, t', by rw [Array.toList_push]; exact (rl.lasts L).append (.cons (rv.lasts L) .nil)⟩)
  exact k _ _ _ S' N .none

theorem isKey_tup {kv : V} (h : kv.isKey = true) : ∃ ts, kv = .tup ts := by induction kv using Mini.V.casesOn <;> first | exact ⟨_, rfl⟩ | exact ff h
theorem get_obj {G : Glo} (K : CfgOK C G) (S : St C ρ H s) {r : Nat} {p : Addr × Addr} {kv d v : V} {x y : Value} (hp : ρ[r]? = some p) (rx : VR ρ H s.heap kv x) (ry : VR ρ H s.heap d y) (hu : A.units + 200 < cLine) : ∀ {o : O}, ObjR C ρ H s.heap p o → getV o kv d = some v →
    Runs C A (call (.builtin "dict.get") (.ref p.1 :: [x, y])) ρ H s v H
  | .dI l, ob, h => by
    have hz := S.not_sys K hp
    obtain ⟨_, xs, D, rl⟩ := ob
    refine msE h fun i hi e => ?_
    rw [int?_some hi] at rx
    rw [← e]
    have M := mapOf_dict D
    refine VR.intE rx fun _ => Runs.here S fun E Q k => call_meetsIn F.slot_dict_get M.typeIs F.entry_dict_get (F.args_dict_get_3 _ _ _) (meets_dict_get_default (intKind C.prog C.w) p.1 (isInt_is _ _ i _) hz y) ⟨_, M, ?_⟩
    rcases rl.getI i with ⟨e1, e2⟩ | ⟨u, z, e1, e2, rz⟩
    · simp only [e2]; rw [e1] at k; exact k _ _ ry rfl rfl rfl
    · simp only [e2]; rw [e1] at k; exact k _ _ rz rfl rfl rfl
  | .dS l, ob, h => by
    have hz := S.not_sys K hp
    refine msE h fun i hi e => ?_
    obtain ⟨_, xs, D, rl⟩ := ob
    rw [str?_some hi] at rx
    rw [← e]
    have M := mapOf_dict D
    refine VR.strE rx fun _ => Runs.here S fun E Q k => call_meetsIn F.slot_dict_get M.typeIs F.entry_dict_get (F.args_dict_get_3 _ _ _) (meets_dict_get_default (PySem.strKind C.prog C.w) p.1 (isStr_is _ _ (nm i) _) hz y) ⟨_, M, ?_⟩
    rcases rl.getS i with ⟨e1, e2⟩ | ⟨u, z, e1, e2, rz⟩
    · simp only [e2]; rw [e1] at k; exact k _ _ ry rfl rfl rfl
    · simp only [e2]; rw [e1] at k; exact k _ _ rz rfl rfl rfl
  | .dT l, ob, h => by
    have hz := S.not_sys K hp
    (refine itE h fun hk hh_ => ?_; clear h; revert hh_; intro h)
    refine x1a1 (isKey_tup hk) fun ts e => ?_
    rw [e] at hk rx
    rw [← Option.some.inj h, e]
    obtain ⟨_, xs, D, rl⟩ := ob
    refine VR.tupE rx fun {_ _} t rr => ?_
    have is : (vKind C.prog C.w).is s.heap (.tup ts) _ := ⟨hk, (VR.tup t rr).kr (isKey_key hk)⟩
    have rm : (vKind C.prog C.w).room A.in1 := by show A.units + 1 + 60 < cLine; clear is h D; lia
    refine Runs.here S fun E Q k => call_meetsIn F.slot_dict_get D.typeIs F.entry_dict_get (F.args_dict_get_3 _ _ _) (meetsH_dict_get_default (vKind C.prog C.w) p.1 _ hz y) ⟨rm, _, _, is, D, ?_⟩
    rcases rl.getT (.tup ts) with ⟨e1, e2⟩ | ⟨u, b, z, e1, e2, rz⟩
    · simp only [e2]; rw [e1] at k; exact k _ _ ry rfl rfl rfl
    · simp only [e2]; rw [e1] at k; exact k _ _ rz rfl rfl rfl
  | .list _, _, h => by exact nn h
  | .inst _ _, _, h => by exact nn h
  | .dead, _, h => by exact nn h
theorem get_ok {G : Glo} (K : CfgOK C G) (S : St C ρ H s) {r : Nat} {o : O} {p : Addr × Addr} {vs : List V} {ys : List Value} {v : V} (hn : nth H r = some o) (hp : ρ[r]? = some p) (hd : o.isDict = true) (rv : VRs ρ H s.heap vs ys) (h : methB r o n_get vs H = some (v, H')) (hu : A.units + 200 < cLine) :
    Runs C A (call (.builtin "dict.get") (.ref p.1 :: ys)) ρ H s v H' := by
  have h0 : (two? vs).bind (fun x => (getV o x.1 x.2).map fun v => (v, H)) = some (v, H') := by induction o using Mini.O.casesOn <;> first | exact h | exact ff hd
  refine bsE h0 fun w hv h2 => ?_
  rw [two?_some hv] at rv
  refine msE h2 fun u h3 e => ?_
  refine x2a3 rv.two fun x y e2 rx ry => ?_
  rw [e2]
  exact .eq e (get_obj K S hp rx ry hu (S.objs r _ p hn hp) h3)
end
end Mini
end
section
set_option autoImplicit false
namespace Mini
open PySem PySem.Calls PyProof.Rows
open PySem.W (Frag dictOf Looks findIn typeIn keepIn makesIn plainGet hasDictIn plainOver getL)

section
variable {C : Cfg} {sc sc' : Scope} {env : Env} {lo lo' : Lo} {A : Around} {R : Sems} {n : Nat} {f : Nat} {ρ ρ' : Rh} {H H' : Hp} {s s' : Shared} {W : Addr → Prop} {a D : Addr} {acc : List V}

theorem at_ext {ρ ρ' : Rh} (h : ρ.l <+: ρ'.l) {i : Nat} {p : Addr × Addr} (e : ρ[i]? = some p) : ρ'[i]? = some p := getElem?_of_prefix h e

theorem ev_meth {G : Glo} (K : CfgOK C G) (EV : EvOK C n R) (EX : ExOK C n R) {o : E} {m : Nat} {args : List E} {x : Expr} {v : V} (hm : mtE (f + 1) sc (.meth o m args) x = true)
    (h : evStep C.P R (.meth o m args) lo H = some (v, H'))
    (r : Room (n + 1) A) (S : St C ρ H s) (X : EnvOK C sc env ρ H s.heap lo) : Runs C A (eval x env) ρ H s v H' := by
  have hx := mt_bk hm
  obtain ⟨y, ap, xs, p, hxx, m0, m3, mi, m2, mA, m4, m5⟩ : ∃ y ap xs p, x = .Call (.Attribute y (nm m) ap) xs [] p ∧ mtE f sc o y = true ∧ (ap.endLine == p.line) = true ∧ Nat.beq m n_init = false ∧ notSuper y = true ∧ True ∧ mtEs (mtE f) sc args xs = true ∧ Nat.ble args.length 20 = true := by
    have hy := bk_of (and_l hx.2)
    have q := and_r hx.2
    have q7 := and2 q
    have q6 := and2 q7.1
    have q5 := and2 q6.1
    have q4 := and2 q5.1
    have q3 := and3 q4.1
    have e : (pt (pt x).a).s = nm m := beq_iff_eq.mp q3.2.1
    refine ⟨(pt (pt x).a).a, (pt (pt x).a).p, (pt x).l, (pt x).p, ?_, q3.1, q5.2, by simpa using q3.2.2, q4.2, trivial, q6.2, q7.2⟩
    rw [← e]
    exact (hx.1.trans (congrArg (fun z => Expr.Call z (pt x).l [] (pt x).p) hy))
  subst hxx
  clear hx hm
  refine bpE h fun u H1 h1 h2 => ?_
  clear h
  refine bsE h2 fun rr hr h => ?_
  clear h2
  obtain rfl := ref?_some hr
  refine bsE h fun ob hn h2 => ?_
  clear h hr
  intro E Q k
  rw [arm_eval_Call, base_plain m2]
  refine wpAny_bind (EV f sc env o y lo H _ H1 m0 h1 A s ρ r.dec S X E _ fun x1 s₁ ρ₁ S₁ N₁ r₁ => ?_)
  cases r₁ with
  | @ref _ p1 hp =>
    refine wpAny_bind (wpAny_standAt ?_)
    refine meth_go m4 m3 m5 fun pl => ?_
    have X₁ := X.next S N₁
    have builtin : ∀ {T : String} {id : String}, PlainAttrs T → Slot T (nm m) id → typeOf (.builtin id) = pure (.type "method_descriptor") → s₁.TypeIs (.ref p1.1) T → (∃ ob, s₁.heap.get? p1.1 = some ob ∧ ob.dict = none) →
        ∀ {vs : List V} {H2 : Hp}, evs R args lo H1 = some (vs, H2) → (∀ {ys : List Value} {s₂ : Shared} {ρ₂ : Rh}, St C ρ₂ H2 s₂ → Nx no ρ₁ H1 s₁ ρ₂ H2 s₂ → VRs ρ₂ H2 s₂.heap vs ys → Runs C A (call (.builtin id) (.ref p1.1 :: ys)) ρ₂ H2 s₂ v H') →
        wpAny (MM C) A (getMethod (.ref p1.1) (nm m) pl) (fun p_1 s' => wpAny (MM C) A (callWith p p_1.1 p_1.2 (backTo p (starEach xs env)) []) Q E s') E s₁ := by
      intro T id pa slot hty hT hd vs H2 hz hfin
      refine getMethod_builtin hT pa slot hty (fun a e => by cases e; exact hd) ?_
      refine args_ok K EV (keeps_builtin _) m4 hz r.dec S₁ X₁ fun ys s₂ ρ₂ S₂ N₂ r₂ => ?_
      exact hfin S₂ N₂ r₂ E Q fun x s₃ ρ₃ S₃ N₃ r₃ => k x s₃ ρ₃ S₃ ((N₁.trans N₂).trans N₃) r₃
    cases hi : ob.inst? with
    | none =>
      rw [hi] at h2
      refine bpE h2 fun vs H2 h3 h => ?_
      clear h2
      refine bsE h fun ob2 hn2 h2 => ?_
      clear h
      refine itE h2 fun hc h => ?_
      clear h2
      rcases (Bool.or_eq_true _ _).mp hc with q | q
      · have q := and3 q
        have em := Nat.eq_of_beq_eq_true q.1
        subst em
        obtain ⟨l, rfl⟩ : ∃ l, ob = .list l := by induction ob using Mini.O.casesOn <;> first | exact ⟨_, rfl⟩ | cases q.2.1
        obtain ⟨l2, rfl⟩ : ∃ l, ob2 = .list l := by induction ob2 using Mini.O.casesOn <;> first | exact ⟨_, rfl⟩ | cases q.2.2
        obtain ⟨_, items, t, _⟩ := S₁.objs rr _ p1 hn hp
        rw [nm_append] at *
        refine builtin F.plainAttrs_list slot_list_append type_list_append (PlainList_typeIs t) (x1a1 t fun _ e => ⟨_, e, rfl⟩) h3 fun {ys s₂ ρ₂} S₂ N₂ rv => ?_
        refine bsE h fun w hw h2 => ?_
        clear h
        obtain rfl := one?_some hw
        refine itE h2 fun hl h => ?_
        clear h2
        (refine sinjE h ?_; clear h)
        obtain ⟨z, rfl, rz⟩ := rv.one
        exact append_ok S₂ hn2 (at_ext N₂.ext hp) rz (and_r hl)
      · have q := and3 q
        have em := Nat.eq_of_beq_eq_true q.1
        subst em
        refine x0a2 (dictObj S₁ hn hp q.2.1) fun hT hd => ?_
        rw [nm_get] at *
        exact builtin F.plainAttrs_dict F.slot_dict_get F.type_dict_get hT hd h3 fun {ys s₂ ρ₂} S₂ N₂ rv => get_ok K S₂ hn2 (at_ext N₂.ext hp) q.2.2 rv h r.dec.units
    | some w =>
      rw [hi] at h2
      obtain rfl := inst?_some hi
      replace h2 : (bif (lk w.2 m).isSome then Option.none else (lk C.P.classes w.1).bind fun ms => (lk ms m).bind fun f => (evs R args lo H1).bind fun (vs, H) => callF R f (.ref rr :: vs) H) = _ := h2
      cases hs : (lk w.2 m).isSome with
      | true => rw [hs] at h2; exact nn h2
      | false =>
        rw [hs] at h2
        refine bsE h2 fun ms hms h => ?_
        clear h2
        refine bsE h fun fd hfd h2 => ?_
        clear h
        refine bpE h2 fun vs H2 h3 h => ?_
        clear h2
        have KC := K.cl w.1 ms hms
        refine x1a3 (KC.meth m fd hfd) fun fa e1 e2 e3 => ?_
        have F : Fn C fa fd := e3.resolve_right fun e => by rw [e, Nat.beq_refl] at mi; cases mi
        refine x2a4 (S₁.inst hn hp) fun es nn ar hd hne I => ?_
        have hl : getL (nm m) es = some Option.none := ar.no (by simpa using hs)
        refine W.method_fn (K.X.keeps S₁.base) I (W.plainGet_of (KC.get (nm m))).1 (W.plainGet_of (KC.get (nm m))).2 e1 e2 (by show (W.lookIn (nm m) (dictOf es nn)).map _ = _; rw [W.lookIn_dict, hl]; rfl) ?_
        refine args_ok K EV F.keeps m4 h3 r.dec S₁ X₁ fun ys s₂ ρ₂ S₂ N₂ r₂ => ?_
        exact call_fn K EX F h r S₂ (.cons (.ref (at_ext N₂.ext hp)) r₂) E Q fun x s₃ ρ₃ S₃ N₃ r₃ => k x s₃ ρ₃ S₃ ((N₁.trans N₂).trans N₃) r₃
end
end Mini
end
section
set_option autoImplicit false
namespace Mini
open PySem PySem.Calls PyProof.Rows
open PySem.W (Frag dictOf Looks findIn typeIn keepIn makesIn plainGet hasDictIn plainOver getL)

/-- the first words of a class's __init__ may be super().. -/
noncomputable def SupOK (C : Cfg) (n : Nat) (R : Sems) : Prop := ∀ (c : Nat) (a : Addr) (f : FDef) (r : Nat) (H : Hp) (v : V) (H' : Hp), Sup C c a f → nth H r = some (.inst c []) → callF R f [.ref r] H = some (v, H') →
  ∀ (A : Around) (s : Shared) (ρ : Rh) (p : Addr × Addr), A.depth < 1000 → (∀ env, Room n (A.deeper env)) → St C ρ H s → ρ[r]? = some p → ∀ (RR : Result → Shared → Prop),
  (∀ x s' ρ', St C ρ' H' s' → Nx no ρ H s ρ' H' s' → VR ρ' H' s'.heap v x → RR (.ok (.ret x)) s') → codeAny (MM C) A (.call (.ref a) ⟨[.ref p.1], []⟩) RR s

section
variable {C : Cfg} {sc sc' : Scope} {env : Env} {lo lo' : Lo} {A : Around} {R : Sems} {n : Nat} {f : Nat} {ρ ρ' : Rh} {H H' : Hp} {s s' : Shared} {W : Addr → Prop} {a D : Addr} {acc : List V}

theorem tc_weight (c : Addr) (l : List Value) : (Code.builtin "type.__call__" ⟨.ref c :: l, []⟩).weight = 1 := by kernel_rfl
theorem cut_init : Str.ofString "__init__" = nm n_init := by decide +kernel

theorem ev_new {G : Glo} (K : CfgOK C G) (EV : EvOK C n R) (EX : ExOK C n R) (SO : SupOK C n R) {c : Nat} {args : List E} {x : Expr} {v : V} (hm : mtE (f + 1) sc (.new c args) x = true)
    (h : evStep C.P R (.new c args) lo H = some (v, H'))
    (r : Room (n + 1) A) (S : St C ρ H s) (X : EnvOK C sc env ρ H s.heap lo) : Runs C A (eval x env) ρ H s v H' := by
  have hx := mt_bk hm
  have m := and3 hx.2
  have hm := m.2.1
  refine x1a3 (isGlob_of m.1) fun pp hy hl hd => ?_
  rw [hx.1, show bk (ek (.new c args)) (pt x) = .Call (pt x).a (pt x).l [] (pt x).p from rfl, hy]
  clear hx hy m
  refine bsE h fun ms h1 ha => ?_
  clear h
  refine bsE ha fun fd h2 h => ?_
  clear ha
  refine bpE h fun vs H1 h3 ha => ?_
  clear h
  refine bpE ha fun w H2 h4 hb => ?_
  clear ha
  have KC := K.cl c ms h1
  refine x1a3 (KC.init fd h2) fun fa e1 e2 e3 => ?_
  refine itE hb fun hw h => ?_
  clear hb
  obtain rfl := none_of hw
  (refine sinjE h ?_; clear h)
  intro E Q k
  refine Call_Name rfl ?_
  refine wpAny_Name (loadGlob_ok K X S hl KC.glob ?_) hd
  refine args_ok K EV (keeps_in KC.keep) hm h3 r.dec S X fun ys s₁ ρ₁ S₁ N₁ r₁ => ?_
  have Xk : C.K.In s₁.heap := K.X.keeps S₁.base
  have key : ∀ hh, hh = s₁.heap → codeAny (MM C) A (.call (.ref (C.cls c)) ⟨ys, []⟩) (fun r s' => match r with | .ok (.ret v) => Q v s' | .ok _ => False | .error e => E e s') ⟨hh, s₁.gens, s₁.drawn, s₁.toks, s₁.os⟩ := by
    rintro hh rfl
    refine W.make_core (W.makes_of Xk KC.makes) (W.looks_findIn Xk e1) (fun self => W.bind_fn Xk self e2) (.inl rfl) ?_
    have hk1 : ∀ b o, s₁.heap.get? b = some o → ((s₁.heap.push W.emptyDict).push (W.instObj (C.cls c) s₁.heap.objs.size)).get? b = some o := fun b o e => Heap.get?_push_of_some _ (Heap.get?_push_of_some _ e)
    have hsz : (s₁.heap.push W.emptyDict).objs.size = s₁.heap.objs.size + 1 := by simp
    have hx : ((s₁.heap.push W.emptyDict).push (W.instObj (C.cls c) s₁.heap.objs.size)).get? (s₁.heap.objs.size + 1) = some (W.instObj (C.cls c) s₁.heap.objs.size) := by
      rw [← hsz]; exact Heap.get?_push_size _ rfl
    have hdx : ((s₁.heap.push W.emptyDict).push (W.instObj (C.cls c) s₁.heap.objs.size)).get? s₁.heap.objs.size = some W.emptyDict := Heap.get?_push_of_some _ (Heap.get?_push_size _ rfl)
    obtain ⟨S₂, N₂, e⟩ := S₁.mk' (o := .inst c []) (p := (s₁.heap.objs.size + 1, s₁.heap.objs.size)) (s' := ⟨(s₁.heap.push W.emptyDict).push (W.instObj (C.cls c) s₁.heap.objs.size), s₁.gens, s₁.drawn, s₁.toks, s₁.os⟩)
      (by
        cases e : s₁.heap.get? (s₁.heap.objs.size + 1) with
        | none => rfl
        | some o => exact absurd (Heap.lt_size e) (Nat.not_lt.mpr (Nat.le_succ _))) (get?_end _) hk1 ⟨⟨_, hx⟩, _, hdx⟩ rfl rfl
      (fun L => ⟨by simp, hx, [], 0, hdx, .nil⟩)
    have r₂ := r₁.lasts (N₂.lasts S₁)
    have hdep : (A.under (.builtin "type.__call__" ⟨.ref (C.cls c) :: ys, []⟩)).depth < 1000 := by
      have := r.2.1
      show A.depth + (Code.builtin "type.__call__" ⟨.ref (C.cls c) :: ys, []⟩).weight < 1000
      rw [tc_weight]; lia
    have hroom : ∀ env, Room n ((A.under (.builtin "type.__call__" ⟨.ref (C.cls c) :: ys, []⟩)).deeper env) := fun env => ⟨r.1, by
      have := r.2.1
      show A.depth + (Code.builtin "type.__call__" ⟨.ref (C.cls c) :: ys, []⟩).weight + 1 + 2 * n < 900
      rw [tc_weight]; lia, by have := r.2.2; show A.units + 1 + 3 + 8 * n + 200 < cLine; lia⟩
    have back : ∀ x s' ρ', St C ρ' H2 s' → Nx no (ρ₁ ++ [(s₁.heap.objs.size + 1, s₁.heap.objs.size)]) (H1 ++ [.inst c []]) ⟨(s₁.heap.push W.emptyDict).push (W.instObj (C.cls c) s₁.heap.objs.size), s₁.gens, s₁.drawn, s₁.toks, s₁.os⟩ ρ' H2 s' → VR ρ' H2 s'.heap .none x →
        W.InitBack (s₁.heap.objs.size + 1) (fun r s' => match r with | .ok (.ret v) => Q v s' | .ok _ => False | .error e => E e s') (.ok (.ret x)) s' := by
      intro x s' ρ' S' N' rx
      refine VR.noneE rx ?_
      refine ⟨rfl, k _ s' ρ' S' ((N₁.trans N₂).trans N') (.ref (p := (s₁.heap.objs.size + 1, s₁.heap.objs.size)) (at_ext N'.ext e))⟩
    rcases e3 with F | F
    · exact code_fn K EX F h4 hdep hroom S₂ (.cons (.ref (p := (s₁.heap.objs.size + 1, s₁.heap.objs.size)) e) r₂) back
    · induction vs using List.casesOn with
      | cons _ _ =>
        exfalso
        obtain ⟨c2, m2, b2, ms2, f2d, d, ar, p0, p1, ap, pq, p', rest, nn, cc, cda, f2, rfl, _⟩ := F
        cases h4
      | nil =>
        cases r₁
        exact SO c fa fd H1.length _ .none H2 F (by simp [nth]) h4 _ _ _ (s₁.heap.objs.size + 1, s₁.heap.objs.size) hdep hroom S₂ e _ back
  exact wpAny_call (key _ rfl)
end
end Mini
end
section
set_option autoImplicit false
namespace Mini
open PySem PySem.Calls PyProof.Rows
open PySem.W (Frag dictOf Looks findIn typeIn keepIn makesIn plainGet hasDictIn plainOver getL)

section
variable {C : Cfg} {sc sc' : Scope} {env : Env} {lo lo' : Lo} {A : Around} {R : Sems} {n : Nat} {f : Nat} {ρ ρ' : Rh} {H H' : Hp} {s s' : Shared} {a D : Addr} {acc : List V}

theorem AR.isStr {h : Heap} {l : List (Nat × V)} {es : List DictEntry} (r : AR ρ H h l es) : (es.any (·.refKey)) = false := by
  induction r with
  | nil => rfl
  | cons _ _ ih => simp only [List.any_cons, ih, Bool.or_false]; rfl

theorem AR.len {h : Heap} {l : List (Nat × V)} {es : List DictEntry} (r : AR ρ H h l es) : es.length = l.length := by
  induction r with
  | nil => rfl
  | cons _ _ ih => simp [ih]

theorem AR.put {h : Heap} {l : List (Nat × V)} {es : List DictEntry} (r : AR ρ H h l es) {a : Nat} {v : V} {x : Value} {hs : Int} {t : Tok} (rx : VR ρ H h v x) : AR ρ H h (lset l a v) (W.putL (nm a) hs (.str (nm a) t) x es) := by
  induction r with
  | nil => exact .cons rx .nil
  | @cons j u y hs' t' l l' q r ih =>
    rw [lset_cons]
    unfold W.putL
    have ek : (⟨hs', .str (nm j) t', y⟩ : DictEntry).key.isStr (nm a) = Nat.beq j a := beq_nm j a
    rw [ek, natBeq]
    by_cases e : a = j
    · subst e
      simp only [decide_true, if_true]
      exact .cons rx r
    · have e' : ¬ j = a := fun z => e z.symm
      rw [if_neg e, if_neg (by simp [e'])]
      exact .cons q ih

theorem putL_len (name : Str) (hs : Int) (k v : Value) : ∀ es : List DictEntry, (W.putL name hs k v es).length ≤ es.length + 1
  | [] => by simp [W.putL]
  | e :: r => by
    unfold W.putL
    split
    · simp
    · have := putL_len name hs k v r
      simp only [List.length_cons]; lia

/-- an attribute of an object of the run's own is set -/
theorem setattr_ok {G : Glo} (K : CfgOK C G) (S : St C ρ H s) {r c : Nat} {l : List (Nat × V)} {p : Addr × Addr} {b : Nat} {v : V} {x : Value} {ms : List (Nat × FDef)} (hn : nth H r = some (.inst c l)) (hp : ρ[r]? = some p) (hc : lk C.P.classes c = some ms)
    (hb : b ∈ C.P.attrs) (hl : l.length ≤ 50) (rx : VR ρ H s.heap v x) {E : Value → Shared → Prop} {Q : Unit → Shared → Prop}
    (k : ∀ s', St C ρ (H.set r (.inst c (lset l b v))) s' → Nx no ρ H s ρ (H.set r (.inst c (lset l b v))) s' → Q () s') : wpAny (MM C) A (setAttr (.ref p.1) (nm b) x) Q E s := by
  obtain ⟨hh, g, dr, tk, os⟩ := s
  have KC := K.cl c ms hc
  have X : C.K.In hh := K.X.keeps S.base
  obtain ⟨hne, h1, es, nn, h2, ar⟩ := S.objs r _ p hn hp
  have I : PySem.W.InstAt hh p.1 ⟨.ref (C.cls c), some p.2, .plain, #[]⟩ (C.cls c) (some (dictOf es nn)) := ⟨h1, rfl, rfl, h2⟩
  have ht : W.takerIn C.K (C.cls c) (nm b) = some none := by unfold W.takerIn; rw [KC.attr b hb]; rfl
  refine W.set_plain X I KC.set ?_
  refine W.osa_open (s := ⟨hh, g, dr, tk + 1, os⟩) X I KC.over ht fun onT => ?_
  refine x1a2 (W.any_some KC.dict) fun cd hcd hdd => ?_
  refine wpAny_bind (wpAny_pure (wpAny_bind (wpAny_bind (wpAny_loadPart h1 (wpAny_bind ((W.looks_clsIn X hcd).at ?_))))))
  rw [hdd]
  refine wpAny_pure (a := some p.2) (wpAny_bind (wpAny_pure (wpAny_bind ?_)))
  unfold nsSet
  refine wpAny_bind (wpAny_bind (wpAny_askSetting (wpAny_pure (wpAny_bind (wpAny_mkText (wpAny_bind (wpAny_loadPart h2 ?_)))))))
  have hc0 : (!es.toArray.any (·.key.isStr (nm b)) && es.toArray.any (·.refKey)) = false := by
    have := ar.isStr
    simp [this]
  dsimp only
  rw [aRefKeyMayBeTheName_at, hc0]
  refine wpAny_updatePart h2 ?_
  generalize (if (nm b).cps.isEmpty = true then 0 else reduceHash ((model C.prog C.w).w.params.strHash (nm b).cps)) = hs
  have hput := W.putName_dict (nm b) hs (.str (nm b) (tk + 1)) x es nn
  have D' : (hh.update p.2 (Obj.putName (nm b) hs (.str (nm b) (tk + 1)) x)).get? p.2 = some (dictOf (W.putL (nm b) hs (.str (nm b) (tk + 1)) x es) (W.putN (nm b) es nn)) := by
    rw [Heap.get?_update_self _ h2 (by rw [hput]; rfl), hput]
  have hlen : (W.putL (nm b) hs (.str (nm b) (tk + 1)) x es).length ≤ 51 := by
    have := putL_len (nm b) hs (.str (nm b) (tk + 1)) x es
    rw [ar.len] at this; (clear D' hput hc0 hdd hcd ht h2 h1 hne hc hp hn; lia)
  refine wpAny_bind (wpAny_lookBehind D' (pastItsLine_dict (by rw [List.size_toArray, sizeLine_eq]; (clear D' hput hc0 hdd hcd ht h2 h1 hne hl hc hp hn; lia))) ?_)
  have hk : ∀ q o, q ≠ p.1 → q ≠ p.2 → hh.get? q = some o → (hh.update p.2 (Obj.putName (nm b) hs (.str (nm b) (tk + 1)) x)).get? q = some o := fun q o _ n2 e => (Heap.get?_update_other _ _ (Ne.symm n2)).trans e
  have h1' : (hh.update p.2 (Obj.putName (nm b) hs (.str (nm b) (tk + 1)) x)).get? p.1 = some ⟨.ref (C.cls c), some p.2, .plain, #[]⟩ := (Heap.get?_update_other _ _ (Ne.symm hne)).trans h1
  obtain ⟨S', N⟩ := S.set (s' := ⟨hh.update p.2 (Obj.putName (nm b) hs (.str (nm b) (tk + 1)) x), g, dr, tk + 1 + 1, os⟩) hn rfl hp (o' := .inst c (lset l b v)) hk ⟨⟨_, h1'⟩, _, D'⟩ rfl rfl
    (fun L => ⟨hne, h1', _, _, D', (ar.lasts L).put (rx.lasts L)⟩)
  exact wpAny_pure (k _ S' N)
end
end Mini
end
section
set_option autoImplicit false
namespace Mini
open PySem PySem.Calls PyProof.Rows
open PySem.W (Frag dictOf Looks findIn typeIn keepIn makesIn plainGet hasDictIn plainOver getL)

section
variable {C : Cfg} {sc sc' : Scope} {env : Env} {lo lo' : Lo} {A : Around} {R : Sems} {n : Nat} {f : Nat} {ρ ρ' : Rh} {H H' : Hp} {s s' : Shared} {a D : Addr} {acc : List V}

theorem atKey_nil (k : V) : atKey ([] : List (V × Addr × Value)) k = none := rfl
theorem atKey_cons (j : V) (p : Addr × Value) (r : List (V × Addr × Value)) (k : V) : atKey ((j, p) :: r) k = if j = k then some p else atKey r k := by
  unfold atKey
  rw [List.find?_cons]
  by_cases e : j = k <;> simp [e]
theorem atKey_none {r : List (V × Addr × Value)} {k : V} (h : k ∉ r.map (·.1)) : atKey r k = none := by
  induction r with
  | nil => rfl
  | cons p r ih =>
    obtain ⟨j, q⟩ := p
    simp only [List.map_cons, List.mem_cons, not_or] at h
    rw [atKey_cons, if_neg (fun e => h.1 e.symm), ih h.2]
theorem storedH_nil (k : V) (a : Addr) (v : Value) : storedH ([] : List (V × Addr × Value)) k a v = [(k, a, v)] := rfl
theorem storedH_cons (j : V) (b : Addr) (w : Value) (r : List (V × Addr × Value)) (k : V) (a : Addr) (v : Value) (hn : j ∉ r.map (·.1)) : storedH ((j, b, w) :: r) k a v = if j = k then (j, b, v) :: r else (j, b, w) :: storedH r k a v := by
  unfold storedH
  rw [atKey_cons]
  by_cases e : j = k
  · subst e
    simp only [if_true, Option.isSome_some, List.map_cons, putAt]
    rw [map_putAt_of_not_mem r j v hn]
  · rw [if_neg e, if_neg e]
    split
    · simp only [List.map_cons, putAt, if_neg e]
    · rfl

theorem TR.setT {h : Heap} {l : List (V × V)} {xs : List (V × Addr × Value)} (p : TR ρ H h l xs) : (xs.map (·.1)).Nodup → ∀ {k v : V} {a : Addr} {y : Value}, VR ρ H h v y → TR ρ H h (Mini.setT l k v) (storedH xs k a y) := by
  induction p with
  | nil => intro _ k v a y r; exact .cons r .nil
  | @cons j v b x l l' r q ih =>
    intro hn k u a y ru
    rw [List.map_cons, List.nodup_cons] at hn
    rw [storedH_cons _ _ _ _ _ _ _ hn.1]
    simp only [Mini.setT, same_decide]
    by_cases e : j = k
    · subst e; simp; exact .cons ru q
    · rw [if_neg e]
      simp only [decide_eq_false e, cond_false]
      exact .cons r (ih hn.2 ru)
theorem PR.lenI {h : Heap} {l : List (Int × V)} {xs : List (Int × Value)} (p : PR id ρ H h l xs) : xs.length = l.length := by
  induction p with
  | nil => rfl
  | cons _ _ ih => simp [ih]
theorem PR.lenS {h : Heap} {l : List (Nat × V)} {xs : List (Str × Value)} (p : PR nm ρ H h l xs) : xs.length = l.length := by
  induction p with
  | nil => rfl
  | cons _ _ ih => simp [ih]
theorem TR.len {h : Heap} {l : List (V × V)} {xs : List (V × Addr × Value)} (p : TR ρ H h l xs) : xs.length = l.length := by
  induction p with
  | nil => rfl
  | cons _ _ ih => simp [ih]

theorem setitem_ok (S : St C ρ H s) {o i v : V} {x y z : Value} (ro : VR ρ H s.heap o x) (ri : VR ρ H s.heap i y) (rv : VR ρ H s.heap v z) (h : setItemV H o i v = some H') (hu : A.units + 200 < cLine)
    {E : Value → Shared → Prop} {Q : Unit → Shared → Prop} (k : ∀ s', St C ρ H' s' → Nx no ρ H s ρ H' s' → Q () s') : wpAny (MM C) A (setItem x y z) Q E s := by
  refine bsE h fun nn hr ha => ?_
  clear h
  obtain rfl := ref?_some hr
  refine bsE ha fun ob hn hb => ?_
  clear ha
  refine msE hb fun o' h e' => ?_
  clear hb
  cases e'
  obtain ⟨p, hp, rfl, hob⟩ := S.ref_obj ro hn
  induction ob using O.casesOn with
  | list _ => cases h
  | inst _ _ => cases h
  | dead => cases h
  | dI l =>
    refine bsE h fun j hj ha => ?_
    clear h
    obtain rfl := int?_some hj
    refine itE ha fun hl h => ?_
    cases h
    obtain ⟨e, xs, D, R⟩ := hob
    refine VR.intE ri fun _ => ?_
    have hlen := R.lenI
    have h2 := okLen_le hl
    have hnd : (xs.map (·.1)).Nodup := by obtain ⟨_, _, _, _, _, _, _, _, q⟩ := D; exact q
    refine wpAny_setItem_pairs (isInt_is _ _ _ _) D (fun h' D' hb => ?_) (by rw [sizeLine_eq]; (clear e ha hl hj hn hp hr hu; lia))
    have hz : ∃ o, h'.get? p.1 = some o := x3a2 D' fun o _ _ e _ => ⟨o, e⟩
    have G := S.set (s' := { s with heap := h', toks := s.toks + 1 }) hn rfl hp (o' := .dI (setI l j v)) (fun q o n1 _ g => (hb.2 q n1).trans g) ⟨hz, by rw [e]; exact hz⟩ rfl rfl (fun L => ⟨e, _, D', (PR.lasts L R).setI hnd (rv.lasts L)⟩)
    exact k _ G.1 G.2
  | dS l =>
    refine bsE h fun j hj ha => ?_
    clear h
    obtain rfl := str?_some hj
    refine itE ha fun hl h => ?_
    cases h
    obtain ⟨e, xs, D, R⟩ := hob
    refine VR.strE ri fun _ => ?_
    have hlen := R.lenS
    have h2 := okLen_le hl
    have hnd : (xs.map (·.1)).Nodup := by obtain ⟨_, _, _, _, _, _, _, _, q⟩ := D; exact q
    refine wpAny_setItem_pairs (isStr_is _ _ _ _) D (fun h' D' hb => ?_) (by rw [sizeLine_eq]; (clear e ha hl hj hn hp hr hu; lia))
    have hz : ∃ o, h'.get? p.1 = some o := x3a2 D' fun o _ _ e _ => ⟨o, e⟩
    have G := S.set (s' := { s with heap := h', toks := s.toks + 1 }) hn rfl hp (o' := .dS (lset l j v)) (fun q o n1 _ g => (hb.2 q n1).trans g) ⟨hz, by rw [e]; exact hz⟩ rfl rfl (fun L => ⟨e, _, D', (PR.lasts L R).setS hnd (rv.lasts L)⟩)
    exact k _ G.1 G.2
  | dT l =>
    (refine itE h fun hl hh_ => ?_; clear h; revert hh_; intro h)
    cases h
    have hl := and2 hl
    obtain ⟨e, xs, D, R⟩ := hob
    have hlen := R.len
    have h2 := okLen_le hl.2
    have hnd : (xs.map (·.1)).Nodup := by obtain ⟨_, _, _, _, _, _, _, _, q⟩ := D; exact q
    obtain ⟨ts, rfl⟩ : ∃ ts, i = .tup ts := by induction i using Mini.V.casesOn <;> first | exact ⟨_, rfl⟩ | cases hl.1
    refine VR.tupE ri fun {_ _} t rr => ?_
    ·
      have is : (vKind C.prog C.w).is s.heap (.tup ts) _ := ⟨hl.1, (VR.tup t rr).kr (isKey_key hl.1)⟩
      have rm : (vKind C.prog C.w).room A.in1 := by show A.units + 1 + 60 < cLine; lia
      refine wpAny_setItem_heap rm is D (fun h' D' hb => ?_) (by rw [sizeLine_eq]; lia)
      have hz : ∃ o, h'.get? p.1 = some o := x3a2 D' fun o _ _ e _ => ⟨o, e⟩
      have G := S.set (s' := { s with heap := h', toks := s.toks + (vKind C.prog C.w).draws (.tup ts) }) hn rfl hp (o' := .dT (setT l (.tup ts) v)) (fun q o n1 _ g => (hb.2 q n1).trans g) ⟨hz, by rw [e]; exact hz⟩ rfl rfl (fun L => ⟨e, _, D', (TR.lasts L R).setT hnd (rv.lasts L)⟩)
      exact k _ G.1 G.2
end
end Mini
end
section
set_option autoImplicit false
namespace Mini
open PySem PySem.Calls PyProof.Rows
open PySem.W (Frag dictOf Looks findIn typeIn keepIn makesIn plainGet hasDictIn plainOver getL)

/-- a level's comprehensions -/
noncomputable def CpOK (C : Cfg) (n : Nat) (R : Sems) : Prop := ∀ (f : Nat) (sc : Scope) (env : Env) (elt : E) (gens : List G) (x : Expr) (lo : Lo) (H : Hp) (v : V) (H' : Hp), mtE f sc (.comp elt gens) x = true → R.ev (.comp elt gens) lo H = some (v, H') →
  ∀ (A : Around) (s : Shared) (ρ : Rh), Room n A → St C ρ H s → EnvOK C sc env ρ H s.heap lo → ∃ (y : Expr) (cs : List Comprehension) (sc' : Scope) (p : Pos), x = .ListComp y cs sc' p ∧ firstAsync cs = false ∧ ∀ (use : Option (Value → Sem Unit)) (E Q : Value → Shared → Prop),
    (∀ D Lc s' ρ', St C ρ' H' s' → Nx no ρ H s ρ' H' s' → VR ρ' H' s'.heap v (.ref D) → Loose C ρ' s'.heap Lc → (∃ m, s'.heap.Ns Lc m) → s.heap.get? Lc = none → compPost (MM C) A E use Q (.ref D) Lc (.ok .next) s') →
    wpAny (MM C) A (comprehension x sc' env (firstIterPos cs p) (newList []) false (firstIter cs env) use) Q E s

section
variable {C : Cfg} {sc sc' : Scope} {env : Env} {lo lo' : Lo} {A : Around} {R : Sems} {n : Nat} {f : Nat} {ρ ρ' : Rh} {H H' : Hp} {s s' : Shared} {a D : Addr} {acc : List V}

theorem while_ok (TR : TrOK C n R) (EX : ExOK C n R) {c : E} {b : List S} {tx : Expr} {xs : List Stmt} (hc : mtE f sc c tx = true) (hb : mtSs (mtS f sc) b xs = true) : ∀ (k : Nat) {lo : Lo} {H : Hp} {fl : Fl} {lo' : Lo} {H' : Hp}, exWhl R c b k lo H = some (fl, lo', H') →
    ∀ {A : Around} {s : Shared} {ρ : Rh}, Room n A → St C ρ H s → EnvOK C sc env ρ H s.heap lo → ∀ {RR : Result → Shared → Prop},
    (∀ fl' s' ρ', St C ρ' H' s' → Nx (Wr sc env) ρ H s ρ' H' s' → EnvOK C sc env ρ' H' s'.heap lo' → FlR ρ' H' s'.heap fl fl' → RR (.ok fl') s') → codeAny (MM C) A (.whileLoop tx xs [] env) RR s
  | 0, _, _, _, _, _, h, _, _, _, _, _, _, _, _ => by exact nn h
  | k + 1, lo, H, fl, lo', H', h, A, s, ρ, r, S, X, RR, kk => by
    refine bpE h fun w H1 h1 ha => ?_
    clear h
    refine bsE ha fun t ht h => ?_
    clear ha
    obtain rfl := bool?_some ht
    refine codeAny_of_tree ?_
    show wpAny _ A (Sem.onRaise (whileTurn tx xs [] env) _) _ _ s
    refine wpAny_onRaise ?_
    unfold whileTurn
    refine wpAny_bind (TR f sc env c tx lo H t H1 hc h1 A s ρ r S X _ _ fun s₁ ρ₁ S₁ N₁ => ?_)
    induction t using Bool.casesOn with
    | false =>
      (revert kk; apply sinj3E h; clear h; intro kk)
      rw [if_neg Bool.false_ne_true]
      refine wpAny_bind (wpAny_execs_nil ?_)
      exact wpAny_pure (kk .next s₁ ρ₁ S₁ (N₁.wide X.wdata) (X.next S N₁) .nxt)
    | true =>
      rw [if_pos rfl]
      refine b3E h fun f1 lo1 H2 h2 ha => ?_
      clear h
      have X₁ := X.next S N₁
      refine wpAny_bind (EX f sc env b xs lo H1 f1 lo1 H2 hb h2 A s₁ ρ₁ r S₁ X₁ _ _ fun fl' s₂ ρ₂ S₂ N₂ X₂ q => ?_)
      have NN := (N₁.wide X.wdata).trans N₂
      have again : exWhl R c b k lo1 H2 = some (fl, lo', H') → codeAny (MM C) A (.whileLoop tx xs [] env) RR s₂ := fun h => while_ok TR EX hc hb k h r S₂ X₂ fun fl' s₃ ρ₃ S₃ N₃ X₃ q => kk fl' s₃ ρ₃ S₃ (NN.trans N₃) X₃ q
      induction q using Mini.FlR.casesOn with
      | nxt => exact wpAny_pure ⟨rfl, again ha⟩
      | cont => exact wpAny_pure ⟨rfl, again ha⟩
      | ret rr => (revert kk; apply sinj3E ha; clear ha; intro kk); exact wpAny_pure (kk _ s₂ ρ₂ S₂ NN X₂ (.ret rr))

theorem for_ok (EX : ExOK C n R) {t : T} {b : List S} {tx : Expr} {xs : List Stmt} (ht : mtB sc t tx = true) (hb : mtSs (mtS f sc) b xs = true) : ∀ (vs : List V) {lo : Lo} {H : Hp} {fl : Fl} {lo' : Lo} {H' : Hp}, exFor R t b vs lo H = some (fl, lo', H') →
    ∀ {A : Around} {s : Shared} {ρ : Rh} {I : Addr}, Room n A → St C ρ H s → EnvOK C sc env ρ H s.heap lo → ItR ρ H s.heap I vs → Loose C ρ s.heap I → ∀ {ρa : Rh} {Ha : Hp} {sa : Shared}, sa.heap.get? I = none → Nx (Wr sc env) ρa Ha sa ρ H s → ∀ {RR : Result → Shared → Prop},
    (∀ fl' s' ρ', St C ρ' H' s' → Nx (Wr sc env) ρa Ha sa ρ' H' s' → EnvOK C sc env ρ' H' s'.heap lo' → FlR ρ' H' s'.heap fl fl' → RR (.ok fl') s') → codeAny (MM C) A (.forLoop tx (.ref I) xs [] env) RR s
  | [], lo, H, fl, lo', H', h, A, s, ρ, I, r, S, X, it, L, ρa, Ha, sa, hI, N, RR, kk => by
    (revert kk; apply sinj3E h; clear h; intro kk)
    refine codeAny_of_tree ?_
    show wpAny _ A (Sem.onRaise (forTurn tx (.ref I) xs [] env) _) _ _ s
    refine wpAny_onRaise ?_
    unfold forTurn
    refine x1a2 it.obj fun o ho hfs => ?_
    refine wpAny_bind (wpAny_standAt (wpAny_bind (wpAny_onRaise (it.stop S L r.1 fun s₁ S₁ La hk => ?_))))
    refine wpAny_pure (And.intro rfl (codeAny_block (wpAny_execs_nil ?_)))
    exact kk .next s₁ ρ S₁ (N.freely hI hk) (X.turnAt La ho (.inr hfs) hk) .nxt
  | v :: vs, lo, H, fl, lo', H', h, A, s, ρ, I, r, S, X, it, L, ρa, Ha, sa, hI, N, RR, kk => by
    refine bsE h fun lo1 h1 ha => ?_
    clear h
    refine b3E ha fun f1 lo2 H2 h2 h => ?_
    clear ha
    refine codeAny_of_tree ?_
    show wpAny _ A (Sem.onRaise (forTurn tx (.ref I) xs [] env) _) _ _ s
    refine wpAny_onRaise ?_
    unfold forTurn
    refine x1a2 it.obj fun o ho hfs => ?_
    refine wpAny_bind (wpAny_standAt (wpAny_bind (wpAny_onRaise (it.step S L fun y s₁ S₁ N₁ hk₁ it₁ L₁ r₁ => ?_))))
    have X₁ := X.turnAt (N₁.lasts S) ho (.inr hfs) hk₁
    refine wpAny_bind (it₁.letGo ?_)
    refine wpAny_bind (assign_ok X₁ S₁ r.1 ht h1 r₁ fun s₂ S₂ N₂ X₂ => ?_)
    have nI₁ : ¬ Wr sc env I := by
      refine x1a2 it₁.obj fun o1 ho1 hf1 => ?_
      exact X₁.not_wr ho1 (.inr hf1)
    have L₂ := L₁.next N₂ nI₁
    have it₂ := it₁.keep (N₂.lasts S₁) (fun o e => N₂.keep I o e L₁.own nI₁)
    have Na₂ := (N.freely hI hk₁).trans N₂
    refine wpAny_bind (EX f sc env b xs lo1 H f1 lo2 H2 hb h2 A s₂ ρ r S₂ X₂ _ _ fun fl' s₃ ρ₃ S₃ N₃ X₃ q => ?_)
    have nI₂ : ¬ Wr sc env I := nI₁
    have it₃ := it₂.keep (N₃.lasts S₂) (fun o e => N₃.keep I o e L₂.own nI₂)
    have L₃ := L₂.next N₃ nI₂
    have again : exFor R t b vs lo2 H2 = some (fl, lo', H') → codeAny (MM C) A (.forLoop tx (.ref I) xs [] env) RR s₃ := fun h => for_ok EX ht hb vs h r S₃ X₃ it₃ L₃ hI (Na₂.trans N₃) kk
    induction q using Mini.FlR.casesOn with
    | nxt => exact wpAny_pure ⟨rfl, again h⟩
    | cont => exact wpAny_pure ⟨rfl, again h⟩
    | ret rr =>
      (revert kk; apply sinj3E h; clear h; intro kk)
      exact wpAny_pure (kk _ s₃ ρ₃ S₃ (Na₂.trans N₃) X₃ (.ret rr))
end
end Mini
end
section
set_option autoImplicit false
namespace Mini
open PySem PySem.Calls PyProof.Rows
open PySem.W (Frag dictOf Looks findIn typeIn keepIn makesIn plainGet hasDictIn plainOver getL)

section
variable {C : Cfg} {sc sc' : Scope} {env : Env} {lo lo' : Lo} {A : Around} {R : Sems} {n : Nat} {f : Nat} {ρ ρ' : Rh} {H H' : Hp} {s s' : Shared} {a D : Addr} {acc : List V}

noncomputable def putAll (ps : List (Nat × V)) (lo : Lo) : Lo := ps.foldl (fun lo p => lset lo p.1 p.2) lo
theorem lk_none {ps : List (Nat × V)} {j : Nat} (h : j ∉ ps.map (·.1)) : lk ps j = Option.none := by
  induction ps with
  | nil => rfl
  | cons p r ih => rw [lk_cons p.1 p.2, if_neg fun e : j = p.1 => h (e ▸ .head _), ih fun m => h (.tail _ m)]
theorem lk_putAll {ps : List (Nat × V)} {lo : Lo} {j : Nat} (hn : (ps.map (·.1)).Nodup) : lk (putAll ps lo) j = (match lk ps j with | some v => some v | Option.none => lk lo j) := by
  induction ps generalizing lo with
  | nil => rfl
  | cons p r ih =>
    replace hn := List.nodup_cons.mp hn
    show lk (putAll r (lset lo p.1 p.2)) j = _
    rw [ih hn.2, lk_cons p.1 p.2, lk_lset]
    by_cases e : j = p.1
    · rw [e, lk_none hn.1, if_pos rfl, if_pos rfl]
    · rw [if_neg e, if_neg e]
theorem lk_app {ps qs : List (Nat × V)} {j : Nat} : lk (ps ++ qs) j = (match lk ps j with | some v => some v | Option.none => lk qs j) := by
  induction ps with
  | nil => rfl
  | cons p r ih =>
    rw [List.cons_append, lk_cons p.1 p.2, lk_cons p.1 p.2]
    by_cases e : j = p.1
    · rw [if_pos e, if_pos e]
    · rw [if_neg e, if_neg e, ih]
theorem lk_rev {ps : List (Nat × V)} {j : Nat} (hn : (ps.map (·.1)).Nodup) : lk ps.reverse j = lk ps j := by
  induction ps with
  | nil => rfl
  | cons p r ih =>
    replace hn := List.nodup_cons.mp hn
    rw [List.reverse_cons, lk_app, ih hn.2, lk_cons p.1 p.2, lk_cons p.1 p.2]
    by_cases e : j = p.1
    · rw [e, lk_none hn.1]; exact (if_pos rfl).trans (if_pos rfl).symm
    · rw [if_neg e, if_neg e]; cases lk r j <;> rfl

theorem bindTs_put {ts : List Nat} {vs : List V} {lo lo' : Lo} (h : bindTs ts vs lo = some lo') : lo' = putAll (ts.zip vs) lo := by
  induction ts generalizing vs lo with
  | nil => induction vs using List.casesOn with
    | nil => exact (Option.some.inj h).symm
    | cons _ _ => exact nn h
  | cons t ts ih => induction vs using List.casesOn with
    | nil => exact nn h
    | cons v vs => exact ih h
theorem nodupB_nodup : ∀ {l : List Nat}, nodupB l = true → l.Nodup
  | [], _ => List.nodup_nil
  | i :: l, h => by
    simp only [nodupB, Bool.and_eq_true, Bool.not_eq_true'] at h
    rw [List.nodup_cons]
    refine ⟨fun hm => ?_, nodupB_nodup h.2⟩
    rw [List.any_eq_false] at h
    exact h.1 i hm (Nat.beq_refl _)

/-- names are bound one behind the other -/
theorem bind_all {ns : List Nat} {vs : List V} {ys : List Value} {lo : Lo} {s : Shared} (ho : ∀ i ∈ ns, owns sc (nm i) = true) (hl : ns.length = vs.length) (rv : VRs ρ H s.heap vs ys) (X : EnvOK C sc env ρ H s.heap lo) (S : St C ρ H s)
    {E : Value → Shared → Prop} {Q : Unit → Shared → Prop} (k : ∀ s', St C ρ H s' → Nx (Wr sc env) ρ H s ρ H s' → EnvOK C sc env ρ H s'.heap (putAll (ns.zip vs) lo) → Q () s') : wpAny (MM C) A (assignInOrder (ns.map fun i => bindName env (nm i)) ys) Q E s := by
  induction ns generalizing vs ys lo s with
  | nil =>
    induction vs using List.casesOn with
    | nil => cases rv; exact wpAny_pure (k s S (Nx.refl' X.wdata) X)
    | cons _ _ => cases hl
  | cons i ns ih =>
    induction vs using List.casesOn with
    | nil => cases hl
    | cons v vs =>
      refine VRs.consE rv fun {_ _} r rs => ?_
      show wpAny _ _ (holding _ (bindName env (nm i) _) >>= fun _ => assignInOrder _ _) _ _ _
      refine wpAny_bind (wpAny_holding (wpAny_bindName (store_ok X S (ho i List.mem_cons_self) r fun s₁ S₁ N₁ X₁ => ?_)))
      exact ih (fun j hj => ho j (List.mem_cons_of_mem _ hj)) (Nat.succ.inj hl) (rs.lasts (N₁.lasts S)) X₁ S₁ fun s₂ S₂ N₂ X₂ => k s₂ S₂ (N₁.trans N₂) X₂

theorem VRs.rev {h : Heap} {vs : List V} {ys : List Value} (r : VRs ρ H h vs ys) : VRs ρ H h vs.reverse ys.reverse :=
  VRs.ind (q := fun vs ys => VRs ρ H h vs.reverse ys.reverse) .nil (fun a _ b => by rw [List.reverse_cons, List.reverse_cons]; exact b.append (.cons a .nil)) r

theorem go_names {ts : List Nat} {xs : List Expr} (h : mtBs sc ts xs = true) : (∀ i ∈ ts, owns sc (nm i) = true) ∧ ∃ ps : List Pos, ps.length = ts.length ∧ xs = (ts.zip ps).map (fun q => Expr.Name (nm q.1) q.2) := by
  induction ts generalizing xs with
  | nil => induction xs using List.casesOn with
    | nil => exact ⟨(fun _ h => by cases h), [], rfl, rfl⟩
    | cons _ _ => exact ff h
  | cons i ts ih => induction xs using List.casesOn with
    | nil => exact ff h
    | cons x xs =>
      have h := and2 h
      refine x1a3 (isVar_of h.1) fun p e1 ho _ => ?_
      have q := ih h.2
      refine x1a2 q.2 fun ps b c => ?_
      rw [e1, c]
      exact ⟨fun j hj => (List.mem_cons.mp hj).elim (fun e => e ▸ ho) (q.1 j), p :: ps, congrArg (· + 1) b, rfl⟩

theorem filterMap_all {α β : Type} {g : α → Option β} {g' : α → β} (hg : ∀ x b, g x = some b → b = g' x) {l : List α} (h : (l.filterMap g).length = l.length) : l.filterMap g = l.map g' := by
  induction l with
  | nil => rfl
  | cons x l ih =>
    rw [List.filterMap_cons] at h ⊢
    cases e : g x with
    | none =>
      rw [e] at h
      exact absurd (h ▸ List.length_filterMap_le g l) (Nat.not_succ_le_self _)
    | some b =>
      rw [e] at h
      rw [List.map_cons, ← hg x b e, ← ih (Nat.succ.inj h)]

noncomputable def nameOf : Expr → Str
  | .Name id _ => id
  | _ => Str.empty
set_option tactic.hygienic true in
/-- how the stores of a tuple are ordered -/
theorem swapped_ok {xs : List Expr} {k : Nat} {p : Pos} {y : Expr} (hp : plainVal (.Tuple xs k p) y = true) : ∃ r, swappedStores [.Tuple xs k p] y env = pure r ∧ (r = none ∨ r = some (xs.map nameOf)) := by
  unfold swappedStores
  cases y with
  | Tuple vs k2 p2 =>
    replace hp : vs.all (constantsAlone 8) = false := by simpa using (show (!(vs.all (constantsAlone 8))) = true from hp)
    dsimp only
    split
    · exact ⟨_, rfl, .inl rfl⟩
    · split
      · exact ⟨_, rfl, .inl rfl⟩
      · split
        · exact ⟨_, rfl, .inl rfl⟩
        · rename_i hlen
          split
          · exact ⟨_, rfl, .inl rfl⟩
          · rw [hp]
            refine ⟨_, rfl, .inr ?_⟩
            congr 1
            refine filterMap_all (g' := nameOf) (fun x b e => ?_) ?_
            · induction x using PySem.Expr.casesOn <;> simp only at e <;> first | exact nn e | skip
              split at e
              · cases e; rfl
              · exact nn e
            · simp only [Bool.or_eq_true, bne_iff_ne, ne_eq, not_or, Decidable.not_not] at hlen
              exact hlen.1
  | _ => exact ⟨_, rfl, .inl rfl⟩

noncomputable def isComp (x : Expr) : Bool := Nat.beq (pt x).k 10 || Nat.beq (pt x).k 41
theorem swaps_none {y : Expr} {t : Option Expr} {line : Nat} (h : isComp y = false) : swapsWith y t line env = pure false := by
  induction y using PySem.Expr.casesOn <;> first | rfl | cases h
theorem swaps_attr {y a : Expr} {t : Str} {p : Pos} {line : Nat} : swapsWith y (some (.Attribute a t p)) line env = pure false := by induction y using PySem.Expr.casesOn <;> rfl
theorem swaps_sub {y a b : Expr} {p : Pos} {line : Nat} : swapsWith y (some (.Subscript a b p)) line env = pure false := by induction y using PySem.Expr.casesOn <;> rfl
theorem swaps_tup {y : Expr} {l : List Expr} {n : Nat} {p : Pos} {line : Nat} : swapsWith y (some (.Tuple l n p)) line env = pure false := by induction y using PySem.Expr.casesOn <;> rfl
theorem swaps_name {y : Expr} {t : Str} {p : Pos} {line : Nat} : ∃ b, swapsWith y (some (.Name t p)) line env = pure b := by induction y using PySem.Expr.casesOn <;> exact ⟨_, rfl⟩
theorem swaps_ok {y tx : Expr} {line : Nat} {t : T} (mt : mtT f sc t tx = true) : ∃ b, swapsWith y (some tx) line env = pure b ∧ (b = true → (∃ t p, tx = .Name t p) ∧ isComp y = true) := by
  induction t using T.casesOn with
  | var i =>
    refine x1a2 (isVar_of mt) fun p e _ => ?_
    cases hc : isComp y with
    | false => exact ⟨false, swaps_none hc, fun h => by exact ff h⟩
    | true =>
      refine x1a1 (swaps_name (env := env) (y := y) (t := nm i) (p := p) (line := line)) fun b hb => ?_
      exact ⟨b, (congrArg (fun z => swapsWith y (some z) line env) e).trans hb, fun _ => ⟨⟨_, _, e⟩, rfl⟩⟩
  | attr _ _ => exact ⟨false, (congrArg (fun z => swapsWith y (some z) line env) (bk_of (and_l mt))).trans swaps_attr, fun h => by exact ff h⟩
  | sub _ _ => exact ⟨false, (congrArg (fun z => swapsWith y (some z) line env) (bk_of (and_l mt))).trans swaps_sub, fun h => by exact ff h⟩
  | tup _ => exact ⟨false, (congrArg (fun z => swapsWith y (some z) line env) (bk_of (and_l mt))).trans swaps_tup, fun h => by exact ff h⟩
noncomputable def E.comp? (e : E) : Option (E × List G) := match e with | .comp a b => some (a, b) | _ => Option.none
theorem comp?_of : ∀ e : E, (!(Nat.beq (ek e) 10) || e.comp?.isSome) = true := by intro e; cases e <;> rfl
theorem comp?_some {e : E} {x : E × List G} (h : e.comp? = some x) : e = .comp x.1 x.2 := by cases e <;> first | ((first | exact nn h | (refine x0a2 (sinj h) fun e1_ e2_ => ?_; clear h; subst e1_; subst e2_)); rfl) | exact nn h
theorem swaps_only {y : Expr} (h : isComp y = true) {e : E} (hm : mtE f sc e y = true) : ∃ elt gens, e = .comp elt gens := by
  have l := ek_le e
  unfold isComp at h
  rw [mt_k hm] at h
  have h10 : Nat.beq (ek e) 10 = true := by
    rcases (Bool.or_eq_true _ _).mp h with h | h
    · exact h
    · rw [Nat.eq_of_beq_eq_true h] at l; exact ff l
  have := comp?_of e
  rw [h10] at this
  refine x1a1 (Option.isSome_iff_exists.mp this) fun x hx => ?_
  exact ⟨x.1, x.2, comp?_some hx⟩
end
end Mini
end
section
set_option autoImplicit false
namespace Mini
open PySem PySem.Calls PyProof.Rows
open PySem.W (Frag dictOf Looks findIn typeIn keepIn makesIn plainGet hasDictIn plainOver getL)

section
variable {C : Cfg} {sc sc' : Scope} {env : Env} {lo lo' : Lo} {A : Around} {R : Sems} {n : Nat} {f : Nat} {ρ ρ' : Rh} {H H' : Hp} {s s' : Shared} {a D : Addr} {acc : List V}

theorem EnvOK.wr_here (X : EnvOK C sc env ρ H s.heap lo) {q : Addr} (w : Wr sc env q) : ∃ o, s.heap.get? q = some o := by
  rcases w with rfl | ⟨x, hx, e⟩
  · obtain ⟨m, ⟨o, _, _, ho, _⟩, _⟩ := X.ns; exact ⟨o, ho⟩
  · refine x2a2 (X.cell_lt (.inl hx) e) fun v o ho _ => ?_; exact ⟨o, ho⟩

theorem zip_rev {α β : Type} {a : List α} {b : List β} (h : a.length = b.length) : a.reverse.zip b.reverse = (a.zip b).reverse := by
  induction a generalizing b with
  | nil => rfl
  | cons x a ih => induction b using List.casesOn with
    | nil => cases h
    | cons y b =>
      have h : a.length = b.length := Nat.succ.inj h
      rw [List.reverse_cons, List.reverse_cons, List.zip_append (by rw [List.length_reverse, List.length_reverse, h]), ih h]; exact (List.reverse_cons ..).symm

/-- what stands on the left of an assignment gets its value -/
theorem target_ok {G : Glo} (K : CfgOK C G) (EV : EvOK C n R) {t : T} {tx : Expr} {v : V} {x : Value} {H1 : Hp} (mt : mtT f sc t tx = true) (h : asgT C.P R t v lo H1 = some (lo', H')) (r : Room n A) (S : St C ρ H1 s) (X : EnvOK C sc env ρ H1 s.heap lo) (rv : VR ρ H1 s.heap v x)
    {E : Value → Shared → Prop} {Q : Unit → Shared → Prop} (k : ∀ s' ρ', St C ρ' H' s' → Nx (Wr sc env) ρ H1 s ρ' H' s' → EnvOK C sc env ρ' H' s'.heap lo' → Q () s') : wpAny (MM C) A (assign tx env x) Q E s := by
  induction t using T.casesOn with
  | var i => (revert k; apply sinjE h; clear h; intro k); exact assign_name X S mt rv fun s' S' N' X' => k s' ρ S' N' X'
  | tup ts =>
    refine msE h fun lo1 h1 h2 => ?_
    clear h
    (revert k; apply pinjE h2; clear h2; intro k)
    exact assign_ok X S r.1 (show mtB sc (.tup ts) tx = true from mt) h1 rv fun s' S' N' X' => k s' ρ S' N' X'
  | attr o b =>
    have hx := bk_of (and_l mt)
    have m := and2 (and_r mt)
    have e : (pt tx).s = nm b := beq_iff_eq.mp m.2
    rw [hx, show bk 12 (pt tx) = .Attribute (pt tx).a (pt tx).s (pt tx).p from rfl, e]
    refine bpE h fun ov H2 h1 ha => ?_
    clear h
    refine bsE ha fun rr hr hb => ?_
    clear ha
    obtain rfl := ref?_some hr
    refine bsE hb fun ob hn ha => ?_
    clear hb
    refine bsE ha fun w hw hb => ?_
    clear ha
    obtain rfl := inst?_some hw
    refine itE hb fun hc h => ?_
    clear hb
    (revert k; apply sinjE h; clear h; intro k)
    have hc := and3 hc
    refine x1a1 (Option.isSome_iff_exists.mp hc.2.2) fun ms hms => ?_
    have hmem : b ∈ C.P.attrs := by
      refine x1a2 (List.any_eq_true.mp hc.2.1) fun b' hb e => ?_
      rw [Nat.eq_of_beq_eq_true e]; exact hb
    show wpAny _ _ (holding [x] (eval (pt tx).a env) >>= _) _ _ _
    refine wpAny_bind (wpAny_holding (EV f sc env o (pt tx).a lo H1 _ H2 m.1 h1 A s ρ r S X _ _ fun x1 s₁ ρ₁ S₁ N₁ r₁ => ?_))
    cases r₁ with
    | ref hp =>
      refine wpAny_bind (wpAny_standAt (wpAny_bind (wpAny_holding ?_)))
      refine setattr_ok K S₁ hn hp hms hmem (Nat.le_of_ble_eq_true hc.1) (rv.lasts (N₁.lasts S)) fun s₂ S₂ N₂ => ?_
      exact wpAny_release (k s₂ ρ₁ S₂ ((N₁.trans N₂).wide X.wdata) (X.next S (N₁.trans N₂)))
  | sub o i =>
    have hx := bk_of (and_l mt)
    have m := and2 (and_r mt)
    rw [hx]
    refine bpE h fun ov H2 h1 ha => ?_
    clear h
    refine bpE ha fun iv H3 h2 hb => ?_
    clear ha
    refine msE hb fun H4 h3 h => ?_
    clear hb
    (revert k; apply pinjE h; clear h; intro k)
    show wpAny _ _ (holding [x] (eval (pt tx).a env) >>= _) _ _ _
    refine wpAny_bind (wpAny_holding (EV f sc env o (pt tx).a lo H1 _ H2 m.1 h1 A s ρ r S X _ _ fun x1 s₁ ρ₁ S₁ N₁ r₁ => ?_))
    refine wpAny_bind (wpAny_holding (EV f sc env i (pt tx).b lo H2 _ H3 m.2 h2 A s₁ ρ₁ r S₁ (X.next S N₁) _ _ fun x2 s₂ ρ₂ S₂ N₂ r₂ => ?_))
    refine wpAny_bind (wpAny_standAt (wpAny_bind (wpAny_holding ?_)))
    refine setitem_ok S₂ (r₁.lasts (N₂.lasts S₁)) r₂ (rv.lasts ((N₁.trans N₂).lasts S)) h3 r.units fun s₃ S₃ N₃ => ?_
    exact wpAny_release (k s₃ ρ₂ S₃ (((N₁.trans N₂).trans N₃).wide X.wdata) (X.next S ((N₁.trans N₂).trans N₃)))

/-- where no tuple is stored into, nothing is swapped -/
theorem swapped_no {tx y : Expr} (h : (Nat.beq (pt tx).k 12 || Nat.beq (pt tx).k 13) = true) : swappedStores [tx] y env = pure none ∧ (assignEach [tx] env).map (·.2) = [assign tx env] := by
  rcases (Bool.or_eq_true _ _).mp h with h | h <;> rw [bk_of h] <;> exact ⟨by induction y using Expr.casesOn <;> rfl, rfl⟩
theorem swapped_name {x : Str} {p : Pos} {y : Expr} : swappedStores [.Name x p] y env = pure none := by induction y using Expr.casesOn <;> rfl
theorem names_back {ts : List Nat} : ∀ {ps : List Pos}, ts.length = ps.length → (ts.zip ps).map (nameOf ∘ fun q => Expr.Name (nm q.1) q.2) = ts.map nm := by
  induction ts with
  | nil => intro ps _; rfl
  | cons i l ih =>
    intro ps hlen
    induction ps using List.casesOn with
    | nil => cases hlen
    | cons p ps => exact congrArg (nm i :: ·) (ih (Nat.succ.inj hlen))
theorem store_plain {G : Glo} (K : CfgOK C G) (EV : EvOK C n R) {t : T} {tx y : Expr} {v : V} {x : Value} {H1 : Hp} (mt : mtT f sc t tx = true) (pv : plainVal tx y = true) (nd : nodupB (tgtB t) = true) (h : asgT C.P R t v lo H1 = some (lo', H')) (r : Room n A) (S : St C ρ H1 s) (X : EnvOK C sc env ρ H1 s.heap lo) (rv : VR ρ H1 s.heap v x)
    {E : Value → Shared → Prop} {Q : Flow → Shared → Prop} (k : ∀ s' ρ', St C ρ' H' s' → Nx (Wr sc env) ρ H1 s ρ' H' s' → EnvOK C sc env ρ' H' s'.heap lo' → Q .next s') :
    wpAny (MM C) A (swappedStores [tx] y env >>= fun r => assignStores env x r ((assignEach [tx] env).map (·.2))) Q E s := by
  have plain : ∀ (hs : swappedStores [tx] y env = pure none) (ha : (assignEach [tx] env).map (·.2) = [assign tx env]), wpAny (MM C) A (swappedStores [tx] y env >>= fun r => assignStores env x r ((assignEach [tx] env).map (·.2))) Q E s := by
    intro hs ha
    rw [hs, ha]
    refine wpAny_bind (wpAny_pure ?_)
    show wpAny _ _ (assign tx env x >>= fun _ => (pure Flow.next : Sem Flow)) _ _ _
    exact wpAny_bind (target_ok K EV mt h r S X rv fun s' ρ' S' N' X' => wpAny_pure (k s' ρ' S' N' X'))
  induction t using T.casesOn with
  | var i =>
    refine x1a2 (isVar_of mt) fun p e _ => ?_
    subst e
    exact plain swapped_name rfl
  | attr o b => exact plain (swapped_no (by rw [and_l mt]; rfl)).1 (swapped_no (y := y) (by rw [and_l mt]; rfl)).2
  | sub o i => exact plain (swapped_no (by rw [and_l mt, Bool.or_true])).1 (swapped_no (y := y) (by rw [and_l mt, Bool.or_true])).2
  | tup ts =>
    have hx : tx = .Tuple (pt tx).l (pt tx).n (pt tx).p := bk_of (and_l mt)
    have mt' := and_r mt
    generalize (pt tx).l = xs at hx mt'
    generalize (pt tx).n = j at hx
    generalize (pt tx).p = p at hx
    subst hx
    · refine x1a2 (swapped_ok (env := env) pv) fun rs hs hr => ?_
      rcases hr with rfl | rfl
      · exact plain hs rfl
      · rw [hs]
        refine wpAny_bind (wpAny_pure ?_)
        refine msE h fun lo1 h1 ha => ?_
        clear h
        refine bsE h1 fun vs h2 h3 => ?_
        clear h1
        (revert k; apply pinjE ha; clear ha; intro k)
        have e1 := bindTs_put h3
        obtain ⟨ho, ps, hl, hx⟩ := go_names mt'
        have e2 := bindTs_len h3
        have hnd := nodupB_nodup (show nodupB ts = true from nd)
        have hnames : xs.map nameOf = ts.map nm := by
          rw [hx, List.map_map]
          exact names_back (by rw [hl])
        rw [hnames]
        show wpAny _ _ (rule "assign.swapped-stores" >>= fun _ => unpackItems x (ts.map nm).length none >>= fun items => assignInOrder ((ts.map nm).reverse.map fun n => bindName env n) items.reverse >>= fun _ => (pure Flow.next : Sem Flow)) _ _ _
        refine wpAny_bind (wpAny_rule ?_)
        rw [List.length_map, ← e2]
        refine wpAny_bind (unpack_ok S r.1 rv h2 fun ys s₁ S₁ N₁ r₁ => ?_)
        have X₁ := X.next S N₁
        have er : (ts.map nm).reverse.map (fun n => bindName env n) = ts.reverse.map fun i => bindName env (nm i) := by
          rw [← List.map_reverse, List.map_map]; rfl
        rw [er]
        refine wpAny_bind (bind_all (fun i hi => ho i (List.mem_reverse.mp hi)) (by simp [e2]) r₁.rev X₁ S₁ fun s₂ S₂ N₂ X₂ => ?_)
        refine wpAny_pure (k s₂ ρ S₂ ((N₁.wide X.wdata).trans N₂) (X₂.sub fun i u e => ?_))
        have hz : (ts.zip vs).map (·.1) = ts := by rw [List.map_fst_zip]; rw [e2]; exact Nat.le_refl _
        have hzr : ts.reverse.zip vs.reverse = (ts.zip vs).reverse := by
          exact zip_rev (by rw [e2])
        rw [hzr, lk_putAll (by rw [List.map_reverse, hz]; exact (List.reverse_perm _).nodup_iff.mpr hnd), lk_rev (by rw [hz]; exact hnd)]
        rw [e1, lk_putAll (by rw [hz]; exact hnd)] at e
        exact e

theorem asg_ok {G : Glo} (K : CfgOK C G) (EV : EvOK C n R) (CP : CpOK C n R) {t : T} {e : E} {tx y : Expr} {pos : Pos} {v : V} {H1 : Hp} (mt : mtT f sc t tx = true) (me : mtE f sc e y = true) (pv : plainVal tx y = true) (nd : nodupB (tgtB t) = true) (h1 : R.ev e lo H = some (v, H1)) (h2 : asgT C.P R t v lo H1 = some (lo', H'))
    (r : Room n A) (S : St C ρ H s) (X : EnvOK C sc env ρ H s.heap lo) {E : Value → Shared → Prop} {Q : Flow → Shared → Prop} (k : ∀ s' ρ', St C ρ' H' s' → Nx (Wr sc env) ρ H s ρ' H' s' → EnvOK C sc env ρ' H' s'.heap lo' → Q .next s') :
    wpAny (MM C) A (exec (.Assign [tx] y pos) env) Q E s := by
  rw [arm_exec_Assign]
  refine wpAny_bind (wpAny_standAt ?_)
  refine x1a2 (swaps_ok (env := env) (y := y) (line := pos.line) mt) fun b hb hbt => ?_
  show wpAny _ _ (swapsWith y (some tx) pos.line env >>= _) _ _ _
  rw [hb]
  refine wpAny_bind (wpAny_pure ?_)
  induction b using Bool.casesOn with
  | false =>
    rw [if_neg Bool.false_ne_true]
    refine wpAny_bind (EV f sc env e y lo H v H1 me h1 A s ρ r S X _ _ fun x1 s₁ ρ₁ S₁ N₁ r₁ => ?_)
    exact store_plain K EV mt pv nd h2 r S₁ (X.next S N₁) r₁ fun s' ρ' S' N' X' => k s' ρ' S' ((N₁.wide X.wdata).trans N') X'
  | true =>
    rw [if_pos rfl]
    obtain ⟨⟨t', p', rfl⟩, hc⟩ := hbt rfl
    obtain ⟨elt, gens, rfl⟩ := swaps_only hc me
    induction t using T.casesOn with
    | var i =>
      (revert k; apply sinjE h2; clear h2; intro k)
      obtain ⟨y', cs, sc', p, rfl, hasy, core⟩ := CP f sc env elt gens y lo H v _ me h1 A s ρ r S X
      refine wpAny_bind ?_
      show wpAny _ _ (comprehension (.ListComp y' cs sc' p) sc' env (firstIterPos cs p) (newList []) (firstAsync cs) (firstIter cs env) (some _) >>= fun _ => pure ()) _ _ _
      rw [hasy]
      refine wpAny_bind (core (some _) _ _ fun D Lc s₁ ρ₁ S₁ N₁ rv L hm h0 => ?_)
      have X₁ := X.next S N₁
      have nW : ¬ Wr sc env Lc := fun w => by
        refine x1a1 (X.wr_here w) fun o ho => ?_
        rw [h0] at ho; exact nn ho
      show wpAny _ _ (assign (.Name t' p') env (.ref D)) _ _ _
      refine assign_name X₁ S₁ mt rv fun s₂ S₂ N₂ X₂ => ?_
      refine x4a2 hm fun m o es ep ho hrest => ?_
      refine ⟨m, ⟨o, es, ep, N₂.keep Lc o ho L.own nW, hrest⟩, fun h'' hs => ?_⟩
      have L₂ := L.next N₂ nW
      have NN := (N₁.wide X.wdata).trans N₂
      refine x0a3 (comp_leave S₂ L₂ hs NN h0) fun S₃ N₃ La₃ => ?_
      refine wpAny_pure (wpAny_pure (k _ ρ₁ S₃ N₃ (X₂.keepL La₃ (fun o e => (hs.2 _ (fun q => ?_)).trans e) (fun x c hx e o g => (hs.2 _ (fun q => ?_)).trans g) X₂.clr X₂.free)))
      · exact nW (.inl q.symm)
      · refine x2a2 (X.cell_lt hx e) fun v0 o0 ho0 _ => ?_
        rw [q, h0] at ho0; exact nn ho0
    | attr _ _ => exact ff mt
    | sub _ _ => exact ff mt
    | tup _ => exact ff mt
end
end Mini
end
section
set_option autoImplicit false
namespace Mini
open PySem PySem.Calls PyProof.Rows
open PySem.W (Frag dictOf Looks findIn typeIn keepIn makesIn plainGet hasDictIn plainOver getL)

section
variable {C : Cfg} {sc sc' : Scope} {env : Env} {lo lo' : Lo} {A : Around} {R : Sems} {n : Nat} {f : Nat} {ρ ρ' : Rh} {H H' : Hp} {s s' : Shared} {a D : Addr} {acc : List V}

theorem st_ok {G : Glo} (K : CfgOK C G) (EV : EvOK C n R) (TR : TrOK C n R) (EX : ExOK C n R) (CP : CpOK C n R) {st : S} {x : Stmt} {fl : Fl} (hm : mtS f sc st x = true) (h : exStep C.P R st lo H = some (fl, lo', H'))
    (r : Room n A) (S : St C ρ H s) (X : EnvOK C sc env ρ H s.heap lo) : RunsS C A sc env (exec x env) ρ H s fl lo' H' := by
  induction f using Nat.casesAuxOn with
  | zero => exact ff hm
  | succ f =>
    have hx := ms_bk hm
    clear hm
    rw [hx.1]
    have hm := hx.2
    clear hx
    cases st with
    | expr e =>
      refine mpE h fun v H1 h1 h2 => ?_
      have hc : (sp x).a = .Call (pt (sp x).a).a (pt (sp x).a).l [] (pt (sp x).a).p := bk_of (and_l hm)
      refine .eq h2 fun E Q k => wpAny_Expr_any (EV f sc env e _ lo H v _ (and_r hm) h1 A s ρ r S X _ _ fun x1 s₁ ρ₁ S₁ N₁ r₁ => ?_) (by unfold interactive; rw [X.kind]; rfl) (by rw [hc]; rfl)
      exact k .next s₁ ρ₁ S₁ (N₁.wide X.wdata) (X.next S N₁) .nxt
    | ret e =>
      refine mpE h fun v H1 h1 h2 => ?_
      refine .eq h2 ?_
      show RunsS C A sc env (exec (.Return (sp x).o (sp x).p) env) _ _ _ _ _ _
      replace hm : (match (sp x).o with | some y => mtE f sc e y | Option.none => isNone e) = true := hm
      generalize (sp x).o = o at hm
      induction o using Option.casesOn with
      | some y => exact fun E Q k => wpAny_Return_some (EV f sc env e y lo H v _ hm h1 A s ρ r S X _ _ fun x1 s₁ ρ₁ S₁ N₁ r₁ => k _ s₁ ρ₁ S₁ (N₁.wide X.wdata) (X.next S N₁) (.ret r₁))
      | none =>
        have he : e = .none := by cases e <;> first | rfl | exact ff hm
        rw [he] at h1
        have := EV 1 sc env .none (.Constant .none 0 default) lo H v _ rfl h1 A s ρ r S X
        exact fun E Q k Γ p hΓ => (this E (fun x s' => Q (.ret x) s') fun x s' ρ' S' N' r' => k _ s' ρ' S' (N'.wide X.wdata) (X.next S N') (.ret r')) Γ p hΓ
    | asg t e =>
      have m := and4 hm
      refine bpE h fun v H1 h1 h2 => ?_
      refine mpE h2 fun lo1 H2 h3 h4 => ?_
      exact .eq h4 fun E Q k => asg_ok K EV CP m.1 m.2.1 m.2.2.1 m.2.2.2 h1 h3 r S X fun s' ρ' S' N' X' => k .next s' ρ' S' N' X' .nxt
    | ifs c b e =>
      have m := and3 hm
      refine bpE h fun v H1 h1 h2 => ?_
      refine bsE h2 fun t ht h3 => ?_
      rw [bool?_some ht] at h1
      refine fun E Q k => wpAny_If (TR f sc env c _ lo H t H1 m.1 h1 A s ρ r S X _ _ fun s₁ ρ₁ S₁ N₁ => ?_)
      have kk : ∀ fl' s' ρ', St C ρ' H' s' → Nx (Wr sc env) ρ₁ H1 s₁ ρ' H' s' → EnvOK C sc env ρ' H' s'.heap lo' → FlR ρ' H' s'.heap fl fl' → Q fl' s' := fun fl' s₂ ρ₂ S₂ N₂ X₂ q => k fl' s₂ ρ₂ S₂ ((N₁.wide X.wdata).trans N₂) X₂ q
      induction t using Bool.casesOn with
      | true => exact EX f sc env b _ lo H1 fl lo' H' m.2.1 h3 A s₁ ρ₁ r S₁ (X.next S N₁) E Q kk
      | false => exact EX f sc env e _ lo H1 fl lo' H' m.2.2 h3 A s₁ ρ₁ r S₁ (X.next S N₁) E Q kk
    | whl c b => exact fun E Q k => wpAny_While (while_ok TR EX (and_l hm) (and_r hm) _ h r S X k)
    | fr t e b =>
      have m := and3 hm
      refine bpE h fun vs H1 h1 h2 => ?_
      intro E Q k
      show wpAny _ _ (standAt (sp x).p >>= fun _ => eval (sp x).b env >>= fun z => foldedSetIterable (sp x).b env z >>= fun z => standAt (sp x).b.pos >>= fun _ => holding [z] (pyIter z) >>= fun it => runOwn (.forLoop (sp x).a it (sp x).l [] env) env) _ _ _
      refine wpAny_bind (wpAny_standAt (wpAny_bind ?_))
      refine wpAny_mono (it_ok (Q := fun (xv : Value) (s₄ : Shared) => ∃ I ρ₂, xv = .ref I ∧ St C ρ₂ H1 s₄ ∧ Nx no ρ H s ρ₂ H1 s₄ ∧ ItR ρ₂ H1 s₄.heap I vs ∧ Loose C ρ₂ s₄.heap I ∧ s.heap.get? I = none) K EV m.2.1 h1 r S X fun I s₄ ρ₄ S₄ N₄ it₄ L₄ ab => ⟨I, ρ₄, rfl, S₄, N₄, it₄, L₄, ab⟩) (fun xv s₁ hp => ?_) fun _ _ e => e
      rw [folded_plain m.2.1]
      refine wpAny_bind (wpAny_pure (wpAny_bind (wpAny_standAt (wpAny_bind (wpAny_holding (wpAny_mono hp (fun itv s₂ hq => ?_) fun _ _ e => e))))))
      obtain ⟨I, ρ₂, e, S₂, N₂, it₂, L₂, ab⟩ := hq
      rw [e]
      exact wpAny_runOwn (for_ok EX m.1 m.2.2 vs h2 r.mark S₂ (X.next S N₂) it₂ L₂ ab (N₂.wide X.wdata) k)
    | cont => exact .eq (Option.some.inj h) fun E Q k => wpAny_Continue (k .cont s ρ S (Nx.refl' X.wdata) X .cont)
    | rais => exact nn h

theorem exs_ok {G : Glo} (K : CfgOK C G) (EV : EvOK C n R) (TR : TrOK C n R) (EX : ExOK C n R) (CP : CpOK C n R) : ∀ {b : List S} {xs : List Stmt} {lo : Lo} {H : Hp} {fl : Fl} {lo' : Lo} {H' : Hp}, mtSs (mtS f sc) b xs = true → exsStep C.P R b lo H = some (fl, lo', H') →
    ∀ {s : Shared} {ρ : Rh}, Room n A → St C ρ H s → EnvOK C sc env ρ H s.heap lo → RunsS C A sc env (execs xs env) ρ H s fl lo' H' := by
  intro b
  induction b with
  | nil =>
    intro xs lo H fl lo' H' hm h s ρ r S X
    induction xs using List.casesOn with
    | nil => exact .eq (Option.some.inj h) fun E Q k => wpAny_execs_nil (k .next s ρ S (Nx.refl' X.wdata) X .nxt)
    | cons _ _ => exact ff hm
  | cons st b ih =>
    intro xs lo H fl lo' H' hm h s ρ r S X
    induction xs using List.casesOn with
    | nil => exact ff hm
    | cons x xs =>
      have hm := and2 hm
      refine b3E h fun f1 lo1 H1 h1 h2 => ?_
      refine fun E Q k => wpAny_execs_cons (st_ok K EV TR EX CP hm.1 h1 r S X E _ fun fl' s₁ ρ₁ S₁ N₁ X₁ q => ?_)
      have done : ∀ {w : Fl} {w' : Flow}, FlR ρ₁ H1 s₁.heap w w' → some (w, lo1, H1) = some (fl, lo', H') → Q w' s₁ := fun {w w'} q e => by
        refine x0a3 (sinj3 e) fun e1 e2 e3 => ?_
        subst e1; subst e2; subst e3
        exact k _ s₁ ρ₁ S₁ N₁ X₁ q
      induction q using Mini.FlR.casesOn with
      | nxt => exact ih hm.2 h2 r S₁ X₁ E Q fun fl' s₂ ρ₂ S₂ N₂ X₂ q => k fl' s₂ ρ₂ S₂ (N₁.trans N₂) X₂ q
      | cont => exact done .cont h2
      | ret rr => exact done (.ret rr) h2
end
end Mini
end
section
set_option autoImplicit false
namespace Mini
open PySem PySem.Calls PyProof.Rows
open PySem.W (Frag dictOf Looks findIn typeIn keepIn makesIn plainGet hasDictIn plainOver getL)

theorem boot_super : bootBuiltins "super" = some (.type "super") := by decide +kernel

section
variable {C : Cfg} {sc sc' : Scope} {env : Env} {lo lo' : Lo} {A : Around} {R : Sems} {n : Nat} {f : Nat} {ρ ρ' : Rh} {H H' : Hp} {s s' : Shared} {a D : Addr} {acc : List V}

theorem ev_step {G : Glo} (K : CfgOK C G) (EV : EvOK C n R) (TR : TrOK C n R) (EX : ExOK C n R) (SO : SupOK C n R) {R' : Sems} (hR : R'.ev = evStep C.P R) : EvOK C (n + 1) R' := by
  intro f sc env e x lo H v H' hm h A s ρ r S X
  rw [hR] at h
  have r0 := r.dec
  induction f using Nat.casesAuxOn with
  | zero => exact ff hm
  | succ f =>
    cases e with
    | none => (refine sinjE h ?_; clear h); exact ev_none (v := .none) hm S
    | bool b => (refine sinjE h ?_; clear h); exact ev_bool hm S
    | num i => (refine sinjE h ?_; clear h); exact ev_num hm S
    | str i => (refine sinjE h ?_; clear h); exact ev_str hm S
    | var i =>
      refine msE h fun u h1 h2 => ?_
      (refine pinjE h2 ?_; clear h2)
      exact ev_var hm h1 S X
    | cst i =>
      refine msE h fun u h1 h2 => ?_
      (refine pinjE h2 ?_; clear h2)
      exact ev_cst K hm h1 S X
    | and l => cases and_r hm
    | or l => exact (mt_bk hm).1 ▸ ev_or EV _ (mt_bk hm).2 h r0 S X
    | not a => exact ev_not EV hm h r0 S X
    | neg a => exact ev_neg EV hm h r0 S X
    | bin op a b => exact ev_bin EV hm h r0 S X
    | ite c a b => exact ev_ite EV TR hm h r0 S X
    | dict k ks vs => exact ev_dict EV hm h r0 S X
    | list m l => exact ev_list EV hm h r0 S X
    | tup l => exact ev_tup EV hm h r0 S X
    | comp elt gens => exact ev_comp K EV TR hm (compV_eq ▸ h) r0 S X
    | cmp a ops l => exact ev_cmp K EV hm h r0 S X
    | call g args => exact ev_call K EV EX hm h r S X
    | new c args => exact ev_new K EV EX SO hm h r S X
    | meth o m args => exact ev_meth K EV EX hm h r S X
    | bi b args => exact ev_bi K EV hm h r0 S X
    | attr o a => exact ev_attr K EV hm h r0 S X
    | sub o i => exact ev_sub EV hm h r0 S X
    | slice o lw up => exact ev_slice EV hm h r0 S X
    | fmt pre e post => exact ev_fmt EV hm h r0 S X
    | freeze e => exact ev_freeze EV hm h r0 S X
    | range l => cases and_r hm
    | inVals a d => cases and_r hm
    | sup c m => cases and_r hm

theorem cp_step {G : Glo} (K : CfgOK C G) (EV : EvOK C n R) (TR : TrOK C n R) {R' : Sems} (hR : R'.ev = evStep C.P R) : CpOK C (n + 1) R' := by
  intro f sc env elt gens x lo H v H' hm h A s ρ r S X
  rw [hR] at h
  induction f using Nat.casesAuxOn with
  | zero => exact ff hm
  | succ f => exact comp_core K EV TR hm (compV_eq ▸ h) r.dec S X

theorem ex_step {G : Glo} (K : CfgOK C G) (EV : EvOK C n R) (TR : TrOK C n R) (EX : ExOK C n R) (CP : CpOK C n R) {R' : Sems} (hR : R'.exs = exsStep C.P R) : ExOK C (n + 1) R' := by
  intro f sc env b xs lo H fl lo' H' hm h A s ρ r S X E Q k
  rw [hR] at h
  exact exs_ok K EV TR EX CP hm h r.dec S X E Q k
end
end Mini
end
section
set_option autoImplicit false
namespace Mini
open PySem PySem.Calls PyProof.Rows
open PySem.W (Frag dictOf Looks findIn typeIn keepIn makesIn plainGet hasDictIn plainOver getL)

section
variable {C : Cfg} {sc sc' : Scope} {env : Env} {lo lo' : Lo} {A : Around} {R : Sems} {n : Nat} {f : Nat} {ρ ρ' : Rh} {H H' : Hp} {s s' : Shared} {a D : Addr} {acc : List V}

theorem super_in : ("super" : Str) ∈ biNames := by decide +kernel

theorem ref_uniq {h : Heap} {r : Nat} {y : Value} {p : Addr × Addr} (ry : VR ρ H h (.ref r) y) (hp : ρ[r]? = some p) : y = .ref p.1 := by
  refine VR.refE ry fun {q} e => ?_
  rw [Option.some.inj (e.symm.trans hp)]
set_option tactic.hygienic true in
theorem cls_obj {h : Heap} (X0 : C.K.In h) {c : Addr} {cd : ClassData} (hcd : W.clsIn C.K c = some cd) : ∃ oD, h.get? c = some oD ∧ oD.data = .cls cd ∧ C.K.lookup c = some oD := by
  unfold W.clsIn at hcd
  split at hcd
  · rename_i c0 d0 cd0 sl0 hl0
    obtain rfl := Option.some.inj hcd
    exact ⟨_, X0 _ _ hl0, rfl, hl0⟩
  · exact nn hcd
theorem type_obj {f2 : Addr} {T : Value} (ht : (C.K.lookup f2).map (·.cls) = some T) : ∃ of, C.K.lookup f2 = some of ∧ of.cls = T := by
  refine msE ht fun o h1 h2 => ?_
  exact ⟨o, h1, h2⟩
theorem Fn.fnIn {a : Addr} {fd : FDef} (F : Fn C a fd) : W.fnIn C.K a = true := by
  refine x4a2 F fun d2 as2 st2 m2' F2' _ => ?_
  refine x3a1 F2'.obj fun oc2 od2 sl2 h2 => ?_
  unfold W.fnIn
  rw [h2]
theorem lk_self {i : Nat} {v u : V} (e : lk [(n_self, u)] i = some v) : i = n_self ∧ v = u := by
  rw [lk_cons] at e
  by_cases q : i = n_self
  · rw [if_pos q] at e; exact ⟨q, (Option.some.inj e).symm⟩
  · rw [if_neg q] at e; exact nn e
/-- the frame of such an __init__ -/
theorem sup_frame {c a m2 : Nat} {b2 : List S} {d : FuncData} {ar : Arg} {p0 p1 ap pq p' : Pos} {rest : List Stmt} {nn' : Nat} {cc cda f2 : Addr} (U : SupAt C c a m2 b2 d ar p0 p1 ap pq p' rest nn' cc cda f2) (K : C.K.In C.base) (S : St C ρ H s) {r : Nat} {p : Addr × Addr} (hp : ρ[r]? = some p) {h₀ : Heap} {L : Addr} (hL0 : s.heap.get? L = none)
    (hk₀ : ∀ b o, s.heap.get? b = some o → h₀.get? b = some o) (hns : h₀.Ns L fun x => ([(nm n_self, Value.ref p.1)] : List (Str × Value)).lookup x) : EnvOK C d.scope (callEnv d L a) ρ H h₀ [(n_self, .ref r)] ∧ ∀ q, Wr d.scope (callEnv d L a) q → s.heap.get? q = none := by
  refine x3a1 U.cell fun cl cld csl hcell => ?_
  have FL := S.freshAt hL0
  have hccb := K _ _ hcell
  have clsc : (callEnv d L a).cells.lookup ("__class__" : Str) = some cc := by
    show d.closure.lookup _ = _
    rw [U.clo]; simp
  refine ⟨⟨U.kind, U.glob, U.blt, fun x hx => hx, fun x hx => absurd rfl (U.cells _ (lookup_mem hx)), fun x hx => ⟨.inr hx, ?_⟩, fun x hx => hx, ⟨_, hns, fun i v hi hk => ?_⟩, fun i v hi hk => ?_,
    ⟨FL.own, fun x c0 hx e => ?_⟩, ⟨FL.base, fun x c0 hx => absurd rfl (U.cells _ (lookup_mem hx))⟩, fun x y c0 hx => absurd rfl (U.cells _ (lookup_mem hx)), ⟨FL.ne, FL.z⟩⟩, fun q w => ?_⟩
  · rw [U.free x hx]
    exact ⟨cc, _, clsc, _, hk₀ _ _ (S.base _ _ hccb), rfl⟩
  · have e := lk_self hi
    rw [e.1, e.2]
    exact ⟨.ref p.1, by simp, .ref hp⟩
  · rw [(lk_self hi).1, U.self] at hk
    rcases hk with hk | hk <;> cases hk
  · rcases hx with hx | hx
    · exact absurd rfl (U.cells _ (lookup_mem hx))
    · intro q
      have : c0 = cc := by
        have e : d.closure.lookup x = some c0 := e
        rw [U.free x hx, U.clo] at e
        simpa using e.symm
      rw [this, ] at q
      rw [S.own_new q] at hccb; exact nn hccb
  · rcases w with e | ⟨x, hx, _⟩
    · rw [e]; exact hL0
    · exact absurd rfl (U.cells _ (lookup_mem hx))

theorem sup_ok {G : Glo} (K : CfgOK C G) {m : Nat} (EXm : ExOK C m (sem C.P m)) (EXt : ExOK C (m + 2) (sem C.P (m + 2))) : SupOK C (m + 2) (sem C.P (m + 2)) := by
  intro c a f r H v H' hS hn h A s ρ p hdep hroom S hp RR k
  obtain ⟨c2, m2, b2, ms2, f2d, d, ar, p0, p1, ap, pq, p', rest, nn, cc, cda, f2, rfl, hms2, hf2d, F2, U⟩ := hS
  have hev : (sem C.P (m + 1)).ev (.sup c2 m2) [(n_self, .ref r)] H = callF (sem C.P m) f2d [.ref r] H := by
    show ((lk [(n_self, V.ref r)] n_self).bind fun v => (lk C.P.classes c2).bind fun ms => (lk ms m2).bind fun f => callF (sem C.P m) f [v] H) = _
    rw [lk_cons, if_pos rfl, hms2]
    simp only [Option.bind_some, hf2d]
  refine bsE (show ((exsStep C.P (sem C.P (m + 1)) (.expr (.sup c2 m2) :: b2) [(n_self, .ref r)] H).bind fun x => x.1.out.map fun v => (v, x.2.2)) = some (v, H') from h) fun z hz hrun => ?_
  clear h
  refine b3E hz fun f1 lo1 H1 h1 h3 => ?_
  clear hz
  obtain ⟨⟨w, H1'⟩, hc, h4⟩ := map_some h1
  clear h1
  rw [hev] at hc
  (refine x0a3 (pinj3 h4) fun e1_ e2_ e3_ => ?_; clear h4; subst e1_; subst e2_; subst e3_)
  have hb : (sem C.P (m + 2)).exs b2 [(n_self, .ref r)] H1' = some z := h3
  clear h3
  · obtain ⟨fl, lo', H2⟩ := z
    refine x3a1 U.obj fun oc od sl hobj => ?_
    have X0 : C.K.In s.heap := K.X.keeps S.base
    have hg := X0 _ _ hobj
    obtain ⟨hcode, ccl, cdd, vs, ccs, file, tf, hcda, hvs, hfile⟩ := U.cdr
    refine x3a1 U.cell fun cl cld csl hcell => ?_
    refine x1a2 U.isc fun cd hcd halong => ?_
    have hbind : bindArgs d ⟨[.ref p.1], []⟩ = pure [(nm n_self, .ref p.1)] := by
      have := bind_plain (fd := d) (as := [ar]) (vals := [.ref p.1]) U.params U.dflt rfl (by simp)
      simpa [U.arg] using this
    refine ks_codeAny_call_defAt (fd := d) (binds := [(nm n_self, .ref p.1)]) hdep hg rfl (K.lim.keeps S.base) (U.code.keeps S.base) U.body (BindsTo.of_eq hbind) U.cells (by
      intro x hx
      simp only [List.mem_singleton] at hx
      rw [hx]; exact U.self) (fun h₀ hns hk₀ => ?_) U.co U.gen U.kind
    refine x0a2 (S.grow (s' := { s with heap := h₀, toks := s.toks + ([(nm n_self, Value.ref p.1)] : List (Str × Value)).length }) hk₀ rfl rfl) fun S₁ N₁ => ?_
    have FR := sup_frame U K.X S hp (get?_end s.heap) hk₀ hns
    have X₁ := FR.1
    have hW := FR.2
    have clsc : (callEnv d s.heap.objs.size a).cells.lookup ("__class__" : Str) = some cc := by
      show d.closure.lookup _ = _
      rw [U.clo]; simp
    have r2 := hroom (callEnv d s.heap.objs.size a)
    -- the first statement
    refine ks_wpAt_execs_cons (ks_wpAt_Expr_any ?_ (by unfold interactive; rw [X₁.kind]; rfl) rfl)
    rw [arm_eval_Call]
    refine x1a3 (cls_obj X0 hcd) fun oD hD1 hD2 hD3 => ?_
    obtain ⟨hne, hx1, es, n0, hx2, _⟩ := S.objs r _ p hn hp
    have hpc : p.1 ≠ C.cls c := fun e => Mini.nn ((S.new r p hp).1.symm.trans (e ▸ K.X _ _ hD3))
    refine x1a2 (type_obj U.f2t) fun of hof1 hof2 => ?_
    have hfn := F2.fnIn
    refine PySem.wpAt_bind (ks_wpAt_super_base (f := a) (cc := cda) U.sup U.cls U.notc rfl (hk₀ _ _ hg) rfl (by rw [U.params]; rfl) hcode (hk₀ _ _ (X0 _ _ hcda)) rfl hvs hfile U.top ?_)
    refine loadBlt_ok K X₁ S₁ U.sup super_in boot_super ⟨rfl, ?_⟩
    refine wpAny_loadName_free X₁.kind U.cls clsc ⟨_, hk₀ _ _ (X0 _ _ hcell), rfl⟩ ?_
    rw [U.arg]
    refine loadName_ok X₁ (i := n_self) (v := .ref r) (by unfold sees; rw [U.self]) (by decide +kernel) (by rw [lk_cons, if_pos rfl]) fun y ry => ?_
    rw [show y = .ref p.1 from ref_uniq ry hp]
    refine ks_wpAny_isType_cls (hk₀ _ _ hD1) hD2 ⟨rfl, ?_⟩
    refine ks_wpAny_call_super (hk₀ _ _ hD1) hD2 (hk₀ _ _ hx1) rfl (fun c0 e => by cases e) (W.looks_mroIn (X0.keeps hk₀) U.sub) fun h1 hso hk1 => ?_
    refine wpAt_of_wpAny (wpAny_bind (wpAny_standAt ?_))
    refine x0a2 (S₁.grow (s' := ⟨h1, s.gens, s.drawn, s.toks + ([(nm n_self, Value.ref p.1)] : List (Str × Value)).length, s.os⟩) hk1 rfl rfl) fun S₂ N₂ => ?_
    have X2 : C.K.In h1 := K.X.keeps S₂.base
    refine meth_go (f := 0) (sc := d.scope) (es := []) (xs := []) rfl U.line rfl fun pl => ?_
    refine ks_wpAny_getMethod_super hso (W.looks_opaque X2 U.any) (l₀ := cd.mro) (fun A Q E s k q => wpAny_bind ((W.looks_clsIn X2 hcd) A _ E s k (wpAny_pure q))) rfl X2 halong (X2 _ _ hof1) hof2 hpc U.notc ?_
    refine x0a2 (S₂.grow (s' := ⟨h1.push { cls := .type "method", data := .fields #[.ref f2, .ref p.1] }, s.gens, s.drawn, s.toks + ([(nm n_self, Value.ref p.1)] : List (Str × Value)).length + 1, s.os⟩) (fun a o e => Heap.get?_push_of_some _ e) rfl rfl) fun S₃ N₃ => ?_
    refine W.callWith_M0 (K := C.K) (g := f2) (self := .ref p.1) ⟨Heap.get?_push_size _ rfl, K.X.keeps S₃.base⟩ hfn ?_
    refine wpAny_call (ks_codeAny_call_bound (f := f2) (x := .ref p.1) (Heap.get?_push_size _ rfl) ?_)
    refine code_fn K EXm F2 hc (by have := r2.2.1; (clear hso hfn hof2 hof1 hpc hx2 hx1 hne hD3 hD2 hD1 clsc hbind halong hcd hcell hfile hvs hcda hcode hg hobj hb hrun hc hev hf2d hms2 hp hdep hn; lia)) (fun env => r2.dec.deep) S₃ (.cons (.ref hp) .nil) fun x s5 ρ5 S5 N5 rx => ?_
    have Nt := (N₂.trans N₃).trans N5
    have X5 := X₁.next S₁ Nt
    refine wpAt_of_wpAny (EXt nn d.scope _ b2 rest _ H1' fl lo' H2 U.mt hb _ s5 ρ5 r2 S5 X5 _ _ fun fl' s6 ρ6 S6 N6 X6 q => ?_)
    have NN := Nx.close (N₁.trans Nt) N6 hW (fun _ _ _ e => e)
    induction q using Mini.FlR.casesOn with
    | nxt => (refine x0a2 (sinj hrun) fun e1_ e2_ => ?_; clear hrun; subst e1_; subst e2_); exact k _ _ _ S6 NN .none
    | cont => cases hrun
    | ret rr => (refine x0a2 (sinj hrun) fun e1_ e2_ => ?_; clear hrun; subst e1_; subst e2_); exact k _ _ _ S6 NN rr
end
end Mini
end
section
set_option autoImplicit false
namespace Mini
open PySem PySem.Calls PyProof.Rows
open PySem.W (Frag dictOf Looks findIn typeIn keepIn makesIn plainGet hasDictIn plainOver getL)

structure AllOK (C : Cfg) (n : Nat) : Prop where
  ev : EvOK C n (sem C.P n)
  tr : TrOK C n (sem C.P n)
  ex : ExOK C n (sem C.P n)
  cp : CpOK C n (sem C.P n)
  so : SupOK C n (sem C.P n)

theorem sup_none {C : Cfg} {n : Nat} {R : Sems} (h : ∀ c m b lo H, R.exs (.expr (.sup c m) :: b) lo H = Option.none) : SupOK C n R := by
  intro c a f r H v H' hS hn hc
  exfalso
  obtain ⟨c2, m2, b2, ms2, f2d, d, ar, p0, p1, ap, pq, p', rest, nn, cc, cda, f2, rfl, _⟩ := hS
  unfold callF at hc
  rw [h] at hc
  revert hc
  cases (Nat.beq [V.ref r].length [n_self].length) <;> intro hc <;> cases hc

theorem sound {C : Cfg} {G : Glo} (K : CfgOK C G) : ∀ n, AllOK C n := by
  intro n
  induction n using Nat.strongRecOn with
  | ind n ih =>
    induction n using Nat.casesAuxOn with
    | zero =>
      refine ⟨?_, ?_, ?_, ?_, sup_none fun _ _ _ _ _ => rfl⟩
      · intro f sc env e x lo H v H' hm h; exact nn h
      · intro f sc env e x lo H v H' hm h; exact nn h
      · intro f sc env b xs lo H fl lo' H' hm h; exact nn h
      · intro f sc env elt gens x lo H v H' hm h; exact nn h
    | succ n =>
      have I := ih n (Nat.lt_succ_self n)
      have ev : EvOK C (n + 1) (sem C.P (n + 1)) := ev_step K I.ev I.tr I.ex I.so rfl
      have ex : ExOK C (n + 1) (sem C.P (n + 1)) := ex_step K I.ev I.tr I.ex I.cp rfl
      refine ⟨ev, tr_step K I.ev I.tr rfl ev, ex, cp_step K I.ev I.tr rfl, ?_⟩
      induction n using Nat.casesAuxOn with
      | zero => exact sup_none fun _ _ _ _ _ => rfl
      | succ m => exact sup_ok K (ih m (by lia)).ex ex

/-- a function of the program is called with values: what the mini program says is so -/
theorem run_fn {C : Cfg} {G : Glo} (K : CfgOK C G) {n : Nat} {fd : FDef} {fa : Addr} (F : Fn C fa fd) {vs : List V} {ys : List Value} {v : V} {H' : Hp} {A : Around} {s : Shared} (h : callF (sem C.P n) fd vs [] = some (v, H')) (r : Room (n + 1) A) (S : St C .nil [] s) (rv : VRs .nil [] s.heap vs ys) :
    Runs C A (call (.ref fa) ys) .nil [] s v H' := call_fn K (sound K n).ex F h r S rv
end Mini
end
section
set_option autoImplicit false
namespace Mini
open PySem PySem.Calls PyProof.Rows
open PySem.W (Frag dictOf Looks findIn typeIn keepIn makesIn plainGet hasDictIn plainOver getL nsIn codeIn)

/-! the facts of the head, checked by evaluation -/
theorem vref?_some {v : Value} {a : Addr} (h : vref? v = some a) : v = .ref a := by induction v using PySem.Value.casesOn <;> first | ((first | exact nn h | cases h); rfl) | exact nn h
theorem vstr?_some {v : Value} {a : Str × Tok} (h : vstr? v = some a) : v = .str a.1 a.2 := by induction v using PySem.Value.casesOn <;> first | ((first | exact nn h | (refine x0a2 (sinj h) fun e1_ e2_ => ?_; clear h; subst e1_; subst e2_)); rfl) | exact nn h
theorem vint?_some {v : Value} {a : Int × Tok} (h : vint? v = some a) : v = .int a.1 a.2 := by induction v using PySem.Value.casesOn <;> first | ((first | exact nn h | (refine x0a2 (sinj h) fun e1_ e2_ => ?_; clear h; subst e1_; subst e2_)); rfl) | exact nn h
theorem vbool?_some {v : Value} {a : Bool} (h : vbool? v = some a) : v = .bool a := by induction v using PySem.Value.casesOn <;> first | ((first | exact nn h | cases h); rfl) | exact nn h
theorem isNoneV_eq {v : Value} (h : isNoneV v = true) : v = .none := by induction v using PySem.Value.casesOn <;> first | rfl | exact ff h
theorem dt_fn {d : Data} {x : FuncData} (h : (dt d).fn = some x) : d = .func x := by induction d using PySem.Data.casesOn <;> first | ((first | exact nn h | cases h); rfl) | exact nn h
theorem dt_seq {d : Data} {x : Array Value × Nat} (h : (dt d).seq = some x) : d = .seq x.1 x.2 := by induction d using PySem.Data.casesOn <;> first | ((first | exact nn h | (refine x0a2 (sinj h) fun e1_ e2_ => ?_; clear h; subst e1_; subst e2_)); rfl) | exact nn h
theorem dt_flds {d : Data} {x : Array Value} (h : (dt d).flds = some x) : d = .fields x := by induction d using PySem.Data.casesOn <;> first | ((first | exact nn h | cases h); rfl) | exact nn h
theorem dt_cell {d : Data} {x : Option Value} (h : (dt d).cell = some x) : d = .cell x := by induction d using PySem.Data.casesOn <;> first | ((first | exact nn h | cases h); rfl) | exact nn h
theorem anyE {α : Type} {o : Option α} {p : α → Bool} (h : o.any p = true) : ∃ x, o = some x ∧ p x = true := by
  induction o using Option.casesOn with
  | none => exact ff h
  | some x => exact ⟨x, rfl, h⟩
theorem at_fn {K : Frag} {a : Addr} {d : FuncData} (h : at? K a (·.fn) = some d) : ∃ oc od sl, K.lookup a = some ⟨oc, od, .func d, sl⟩ := by
  refine bsE h fun o h1 h2 => ?_
  exact ⟨o.cls, o.dict, o.slots, h1.trans (by rw [← dt_fn h2])⟩

mutual
theorem chkVal_ok {K : Frag} {h : Heap} (X : K.In h) : ∀ (f : Nat) (v : V) (x : Value), chkVal K f v x = true → VR .nil [] h v x
  | f, .none, x, e => by rw [chkVal] at e; rw [isNoneV_eq e]; exact .none
  | f, .bool b, x, e => by
    rw [chkVal] at e
    refine x1a2 (anyE e) fun c h1 h2 => ?_
    rw [vbool?_some h1, ← (beq_iff_eq.mp h2 : b = c)]
    exact .bool _
  | f, .int i, x, e => by
    rw [chkVal] at e
    refine x1a2 (anyE e) fun t h1 h2 => ?_
    rw [vint?_some h1, ← (beq_iff_eq.mp h2 : i = t.1)]
    exact .int _ _
  | f, .str s, x, e => by
    rw [chkVal] at e
    refine x1a2 (anyE e) fun t h1 h2 => ?_
    rw [vstr?_some h1, ← (beq_iff_eq.mp h2 : nm s = t.1)]
    exact .str _ _
  | 0, .tup l, x, e => by rw [chkVal] at e; exact ff e
  | f + 1, .tup l, x, e => by
    rw [chkVal] at e
    refine x1a2 (anyE e) fun a h1 h2 => ?_
    refine x1a2 (anyE h2) fun o h3 h4 => ?_
    refine x1a2 (anyE (and_r h4)) fun q h5 h6 => ?_
    rw [vref?_some h1]
    exact .tup ⟨o, X _ _ h3, beq_iff_eq.mp (and_l h4), q.2, dt_seq h5⟩ (chkVals_ok X f l q.1.toList h6)
  | f, .lst l, x, e => by rw [chkVal] at e; exact ff e
  | f, .ref r, x, e => by rw [chkVal] at e; exact ff e
theorem chkVals_ok {K : Frag} {h : Heap} (X : K.In h) : ∀ (f : Nat) (v : List V) (x : List Value), chkVals K f v x = true → VRs .nil [] h v x
  | f, [], xs, e => by rw [chkVals] at e; rw [List.isEmpty_iff.mp e]; exact .nil
  | f, v :: vs, xs, e => by
    rw [chkVals] at e
    refine x1a2 (anyE (and_l e)) fun x h1 h2 => ?_
    induction xs using List.casesOn with
    | nil => exact nn h1
    | cons y xs => cases h1; exact .cons (chkVal_ok X f v _ h2) (chkVals_ok X f vs xs (and_r e))
end

theorem plainPar_eq {p : Arguments} (h : plainPar p = true) : p = ⟨[], p.args, Option.none, [], [], Option.none, []⟩ := by
  have a := and3 (and_l h)
  have b := and3 (and_r h)
  obtain ⟨p1, p2, p3, p4, p5, p6, p7⟩ := p
  obtain rfl : p1 = [] := List.isEmpty_iff.mp a.1
  obtain rfl : p3 = Option.none := Option.isNone_iff_eq_none.mp a.2.1
  obtain rfl : p4 = [] := List.isEmpty_iff.mp a.2.2
  obtain rfl : p5 = [] := List.isEmpty_iff.mp b.1
  obtain rfl : p6 = Option.none := Option.isNone_iff_eq_none.mp b.2.1
  obtain rfl : p7 = [] := List.isEmpty_iff.mp b.2.2
  rfl
theorem body?_some {b : FuncBody} {l : List Stmt} (h : body? b = some l) : b = .stmts l := by cases b <;> (first | exact nn h | cases h); rfl
theorem nodup_nm {l : List Nat} (h : l.Nodup) : (l.map nm).Nodup := by
  induction l with
  | nil => exact List.nodup_nil
  | cons i l ih =>
    rw [List.nodup_cons] at h
    rw [List.map_cons, List.nodup_cons]
    refine ⟨fun hm => ?_, ih h.2⟩
    refine x1a2 (List.mem_map.mp hm) fun j hj e => ?_
    exact h.1 (nm_inj e ▸ hj)
theorem bnot_t {b : Bool} (h : (!b) = true) : b = false := by induction b using Bool.casesOn; rfl; exact ff h
theorem chkFn_ok {C : Cfg} (X : C.K.In C.base) {a : Addr} {f : FDef} (h : chkFn C.K a f = true) : Fn C a f := by
  refine x1a2 (anyE (and_r h)) fun d hd h2 => ?_
  have q := and4 h2
  have a1 := and4 q.1
  have a2 := and4 q.2.1
  have a3 := and4 q.2.2.1
  have a4 := and2 q.2.2.2
  refine x1a2 (anyE a4.2) fun st hb hm => ?_
  refine ⟨d, d.params.args, st, 60, ⟨at_fn hd, and_l h, plainPar_eq a1.1, beq_iff_eq.mp a1.2.1, nodup_nm (nodupB_nodup a1.2.2.1), isNoneV_eq a1.2.2.2, body?_some hb, beq_iff_eq.mp a2.1, beq_iff_eq.mp a2.2.1, beq_iff_eq.mp a2.2.2.1, bnot_t a2.2.2.2, bnot_t a3.1, W.codeRec_of X a3.2.1, fun x hx => ?_, hm⟩, List.isEmpty_iff.mp a3.2.2.2, fun x hx => ?_⟩
  · obtain ⟨i, hi, rfl⟩ := List.mem_map.mp hx
    exact ((Bool.or_eq_true _ _).mp (List.all_eq_true.mp a3.2.2.1 i hi)).imp beq_iff_eq.mp beq_iff_eq.mp
  · cases List.all_eq_true.mp a4.1 _ (lookup_mem hx)
end Mini
end
section
set_option autoImplicit false
namespace Mini
open PySem PySem.Calls PyProof.Rows
open PySem.W (Frag dictOf Looks findIn typeIn keepIn makesIn plainGet hasDictIn plainOver getL nsIn codeIn clsIn alongIn mroIn)

theorem uno?_some {α : Type} {l : List α} {x : α} (h : uno? l = some x) : l = [x] := by
  induction l using List.casesOn with
  | nil => exact nn h
  | cons a l => induction l using List.casesOn <;> (first | exact nn h | cases h); rfl
theorem des?_some {α : Type} {l : List α} {x : α × List α} (h : des? l = some x) : l = x.1 :: x.2 := by induction l using List.casesOn <;> (first | exact nn h | (refine x0a2 (sinj h) fun e1_ e2_ => ?_; clear h; subst e1_; subst e2_)); rfl
theorem sup?_some {s : S} {x : Nat × Nat} (h : s.sup? = some x) : s = .expr (.sup x.1 x.2) := by
  cases s with
  | expr e => cases e <;> first | ((first | exact nn h | (refine x0a2 (sinj h) fun e1_ e2_ => ?_; clear h; subst e1_; subst e2_)); rfl) | exact nn h
  | _ => exact nn h
/-- super().m() as a statement -/
theorem call_eq {e : Expr} (h : Nat.beq (pt e).k 11 = true) (g : (pt e).l.isEmpty = true) : e = .Call (pt e).a [] [] (pt e).p := (bk_of h).trans (by show Expr.Call _ (pt e).l [] _ = _; rw [List.isEmpty_iff.mp g])
theorem supCall_eq {m : Nat} {x : Stmt} (h : supCall m x = true) : ∃ p0 p1 ap p p', x = .Expr (.Call (.Attribute (.Call (.Name "super" p0) [] [] p1) (nm m) ap) [] [] p) p' ∧ (ap.endLine == p.line) = true := by
  have h0 := sbk_sp x
  rw [Nat.eq_of_beq_eq_true (and_l h)] at h0
  replace h0 : x = .Expr (sp x).a (sp x).p := h0
  have h := and_r h
  have h1 := call_eq (and_l h) (and_l (and_r h))
  have h := and_r (and_r h)
  have h2 : _ = Expr.Attribute (pt (pt (sp x).a).a).a (pt (pt (sp x).a).a).s (pt (pt (sp x).a).a).p := bk_of (and_l h)
  have h := and_r h
  have e1 : (pt (pt (sp x).a).a).s = nm m := beq_iff_eq.mp (and_l h)
  have h := and_r h
  have hl := and_l h
  have h := and_r h
  have h3 := call_eq (and_l h) (and_l (and_r h))
  have h := and_r (and_r h)
  have h4 : _ = Expr.Name (pt (pt (pt (pt (sp x).a).a).a).a).s (pt (pt (pt (pt (sp x).a).a).a).a).p := bk_of (and_l h)
  rw [(beq_iff_eq.mp (and_r h) : (pt (pt (pt (pt (sp x).a).a).a).a).s = "super")] at h4
  rw [e1] at h2
  exact ⟨_, _, _, _, _, h0.trans (congrArg (fun e => Stmt.Expr e (sp x).p) (h1.trans (congrArg (fun e => Expr.Call e [] [] (pt (sp x).a).p) (h2.trans (congrArg (fun e => Expr.Attribute e (nm m) (pt (pt (sp x).a).a).p) (h3.trans (congrArg (fun e => Expr.Call e [] [] (pt (pt (pt (sp x).a).a).a).p) h4))))))), hl⟩

theorem chkCell_ok {K : Frag} {cc a : Addr} (h : chkCell K cc a = true) : ∃ cl cld csl, K.lookup cc = some ⟨cl, cld, .cell (some (.ref a)), csl⟩ := by
  refine x1a2 (anyE h) fun v h1 ha => ?_
  refine x1a2 (anyE ha) fun x e hb => ?_
  refine x1a2 (anyE hb) fun b h2 hc => ?_
  refine bsE h1 fun o h3 h4 => ?_
  rw [e, vref?_some h2, (beq_iff_eq.mp hc : b = a)] at h4
  exact ⟨o.cls, o.dict, o.slots, h3.trans (by rw [← dt_cell h4])⟩
theorem chkCode_ok {prog : Program} {K : Frag} {v : Value} (h : chkCode prog K v = true) : ∃ cda, v = .ref cda ∧ ∃ ccl cdd vs ccs file tf, K.lookup cda = some ⟨ccl, cdd, .fields vs, ccs⟩ ∧ vs[2]? = some (.str file tf) ∧ ((prog.main.file : Str) == file) = true := by
  refine x1a2 (anyE h) fun a h1 h => ?_
  refine x1a2 (anyE h) fun vs h2 h => ?_
  refine x1a2 (anyE h) fun w h3 h => ?_
  refine x1a2 (anyE h) fun f h4 h => ?_
  refine bsE h2 fun o h5 h6 => ?_
  exact ⟨a, vref?_some h1, o.cls, o.dict, vs, o.slots, f.1, f.2, h5.trans (by rw [← dt_flds h6]), h3.trans (congrArg some (vstr?_some h4)), h⟩
theorem chkSup_ok {C : Cfg} (X : C.K.In C.base) {c : Nat} {a : Addr} {f : FDef} (h : chkSup C.prog C.K C.P (C.cls c) a f = true) : Sup C c a f := by
  refine x1a2 (anyE (and_l h)) fun i hi h1 => ?_
  refine x1a2 (anyE (and_r h)) fun b hb h => ?_
  refine x1a2 (anyE h) fun x hx h => ?_
  refine x1a2 (anyE h) fun d hd h => ?_
  have q := and4 h
  have a1 := and4 q.1
  have a2 := and4 q.2.1
  have a3 := and4 q.2.2.1
  have a4 := and3 q.2.2.2
  have a5 := and4 a4.1
  have a6 := and4 a4.2.1
  refine x1a2 (anyE a6.2.1) fun ar har h3 => ?_
  refine x1a2 (anyE a6.2.2.1) fun cl hcl h4 => ?_
  refine x1a2 (anyE a6.2.2.2) fun st hst h5 => ?_
  refine x1a2 (anyE h5) fun y hy h6 => ?_
  obtain ⟨p0, p1, ap, p, p', e, hl⟩ := supCall_eq (and_l h6)
  refine x1a2 (anyE a4.2.2) fun cd hcd h7 => ?_
  refine x1a2 (anyE h7) fun v hv h8 => ?_
  refine x1a2 (anyE h8) fun w hw h9 => ?_
  refine x1a2 (anyE h9) fun f2 hf2 h10 => ?_
  have g := and3 h10
  refine x1a2 (anyE g.2.2) fun ms2 hms h11 => ?_
  refine x1a2 (anyE h11) fun f2d hfd h12 => ?_
  refine x1a1 (chkCode_ok a5.1) fun cda hc => ?_
  refine ⟨x.1, x.2, b.2, ms2, f2d, d, ar, p0, p1, ap, p, p', y.2, 60, cl.2, cda, f2, ?_, hms, hfd, chkFn_ok X h12, ⟨at_fn hd, ?_, beq_iff_eq.mp h3, isNoneV_eq a1.2.1, beq_iff_eq.mp a1.2.2.1, beq_iff_eq.mp a1.2.2.2, beq_iff_eq.mp a2.1, bnot_t a2.2.1, bnot_t a2.2.2.1, W.codeRec_of X a2.2.2.2, ?_, ?_, hl, and_r h6,
    beq_iff_eq.mp a3.1, beq_iff_eq.mp a3.2.1, beq_iff_eq.mp a3.2.2.1, fun z hz e => ?_, fun z hz => ?_, chkCell_ok (and_r h4), hc, ⟨cd, hcd, ?_⟩, beq_iff_eq.mp g.1, g.2.1, beq_iff_eq.mp a5.2.1, bnot_t a5.2.2.1, beq_iff_eq.mp a5.2.2.2, bnot_t a6.1⟩⟩
  · have e1 := uno?_some hi
    rw [Nat.eq_of_beq_eq_true h1] at e1
    have e2 := des?_some hb
    rw [sup?_some hx] at e2
    show FDef.mk f.params f.body = _
    rw [e1, e2]
  · exact (plainPar_eq a1.1).trans (by rw [uno?_some har])
  · exact (uno?_some hcl).trans (by rw [← (beq_iff_eq.mp (and_l h4) : cl.1 = ("__class__" : Str))])
  · rw [body?_some hst, des?_some hy, e]
  · have := and_l (List.all_eq_true.mp a3.2.2.2 z hz)
    rw [e] at this; exact ff this
  · exact beq_iff_eq.mp (and_r (List.all_eq_true.mp a3.2.2.2 _ (lookup_mem hz)))
  · rw [hv, hw, vref?_some hf2]

theorem mgRef_some {K : Frag} {i : Nat} {a : Addr} (h : mgRef K i = some a) : nsIn K mainGlobals (nm i) = some (some (.ref a)) := by
  (refine bsE h fun v h1 hh_ => ?_; clear h; revert hh_; intro h)
  (refine bsE h fun w h2 hh_ => ?_; clear h; revert hh_; intro h)
  rw [h1, h2, vref?_some h]
theorem inRef_some {K : Frag} {c a : Addr} {x : Str} (h : inRef K c x = some a) : findIn K (.ref c) x = some (some (.ref a)) := by
  (refine bsE h fun v h1 hh_ => ?_; clear h; revert hh_; intro h)
  (refine bsE h fun w h2 hh_ => ?_; clear h; revert hh_; intro h)
  rw [h1, h2, vref?_some h]
theorem lk_mem {α : Type} : ∀ {l : List (Nat × α)} {i : Nat} {v : α}, lk l i = some v → (i, v) ∈ l
  | [], _, _, h => by simp [lk] at h
  | (j, w) :: r, i, v, h => by
    rw [lk_cons] at h
    by_cases e : i = j
    · rw [if_pos e] at h; cases h; rw [e]; exact List.mem_cons_self
    · rw [if_neg e] at h; exact List.mem_cons_of_mem _ (lk_mem h)

theorem cfg_ok {C : Cfg} {G : Glo} (hcls : C.cls = clsOf C.K) (X : C.K.In C.base) (hs : (C.base.get? sysModules).isSome = true) (lim : C.base.NoLimit) (g : C.base.Ns mainGlobals G.mg) (b : C.base.Ns builtinsNs G.mb) (hb : ∀ x : Str, x ≠ "__name__" → G.mb x = bootBuiltins x)
    (h : chkAll C.prog C.K C.P = true) : CfgOK C G := by
  have h := and4 h
  refine ⟨X, lim, g, b, hs, fun i v e => ?_, fun i f e => ?_, fun c ms e => ?_, fun x hx => ?_⟩
  · refine x1a2 (anyE (List.all_eq_true.mp h.1 _ (lk_mem e))) fun x h1 h2 => ?_
    refine x1a2 (anyE h2) fun y e2 h3 => ?_
    exact ⟨y, W.mg_of X g (h1.trans (congrArg some e2)), chkVal_ok X _ _ _ h3⟩
  · refine x1a2 (anyE (List.all_eq_true.mp h.2.1 _ (lk_mem e))) fun a h1 h2 => ?_
    exact ⟨a, W.mg_of X g (mgRef_some h1), chkFn_ok X h2⟩
  · have ec : clsOf C.K c = C.cls c := by rw [hcls]
    have h1 := List.all_eq_true.mp h.2.2.1 _ (lk_mem e)
    unfold chkCls at h1
    rw [show clsOf C.K (c, ms).1 = C.cls c from ec] at h1
    have q := and3 h1
    have a1 := and4 q.1
    have a2 := and4 q.2.1
    have a3 := and2 q.2.2
    refine x1a2 (anyE a1.1) fun a h2 h3 => ?_
    have h4 := mgRef_some h2
    rw [(beq_iff_eq.mp h3 : a = C.cls c)] at h4
    refine ⟨W.mg_of X g h4, a1.2.1, a1.2.2.1, fun _ => a1.2.2.2, a2.1, beq_iff_eq.mp a2.2.1, a2.2.2.1, fun a ha => beq_iff_eq.mp (List.all_eq_true.mp a2.2.2.2 a ha), fun m f e => ?_, fun f e => ?_⟩
    · refine x1a2 (anyE (List.all_eq_true.mp a3.1 _ (lk_mem e))) fun a h5 h6 => ?_
      exact ⟨a, inRef_some h5, beq_iff_eq.mp (and_l h6), ((Bool.or_eq_true _ _).mp (and_r h6)).elim (fun z => .inr (Nat.eq_of_beq_eq_true z)) fun z => .inl (chkFn_ok X z)⟩
    · refine x1a2 (anyE (show chkInit C.prog C.K C.P (C.cls c) f = true from List.all_eq_true.mp a3.2 _ (lk_mem e))) fun a h5 h6 => ?_
      exact ⟨a, inRef_some h5, beq_iff_eq.mp (and_l h6), ((Bool.or_eq_true _ _).mp (and_r h6)).imp (chkFn_ok X) (chkSup_ok X)⟩
  · refine ⟨W.mg_none_of X g (beq_iff_eq.mp (List.all_eq_true.mp h.2.2.2 x hx)), hb x ?_⟩
    rintro rfl
    exact absurd hx (by decide +kernel)
end Mini
end
section
namespace Mini
open PySem PySem.W PyProof.Rows
set_option autoImplicit false

theorem St.start {C : Cfg} {s : Shared} (hb : C.base = s.heap) (ho : C.os = s.os) (hg : s.gens = #[]) : St C .nil [] s :=
  { base := fun a o e => by rw [← hb]; exact e
    gens := hg
    os := ho.symm
    len := rfl
    objs := fun i o p h => by simp at h
    apart := fun i j p q h => by cases (show (none : Option (Addr × Addr)) = some p from h)
    new := fun i p h => by cases (show (none : Option (Addr × Addr)) = some p from h)
    hid := fun a h => by cases h
    zap := fun a h => by cases h
    here := fun i p h => by cases (show (none : Option (Addr × Addr)) = some p from h) }

theorem join {C : Cfg} {G : Glo} (K : CfgOK C G) {n : Nat} {fd : FDef} {fa : Addr} (F : Fn C fa fd) {vs : List V} {ys : List Value} {H' : Hp} {s : Shared} {E : Value → Shared → Prop} (hb : C.base = s.heap) (ho : C.os = s.os) (hg : s.gens = #[])
    (h : callF (sem C.P n) fd vs [] = some (.bool true, H')) (r : Room (n + 1) callerA) (rv : VRs .nil [] s.heap vs ys) {c : ClaimW} {cl : Str → Option Addr} {mean : ExcName → Option Value} {args : List WData}
    (hr : ∀ k, c.raises args k = false) (hp : c.post args (ofPy (.bool true)) args = true) :
    wpAny (model C.prog C.w) callerA (call (.ref fa) ys) (fun v s' => GoodWG c cl mean args s (.ok (.ret v)) s') E s :=
  run_fn K F h r (.start hb ho hg) rv _ _ fun v s' ρ' S' N R => by
    refine VR.boolE R ?_
    refine ⟨.inl ⟨_, ofPy (.bool true), [], rfl, hr, ?_, hp, fun _ => ⟨List.nodup_nil, fun a h => by cases h⟩⟩, .of_keep fun b o e => S'.base b o (by rw [hb]; exact e), S'.os.trans ho, .of_eq ?_⟩
    · exact .bool _
    · exact S'.gens
end Mini
end
section
set_option autoImplicit false
namespace Mini

/-! big steps, as rules -/
section
variable {α β : Type}
theorem bnd {x : Option α} {a : α} {f : α → Option β} {r : Option β} (h : x = some a) (k : f a = r) : x.bind f = r := by subst h; exact k
theorem mpd {x : Option α} {a : α} {f : α → β} {b : β} (h : x = some a) (k : f a = b) : x.map f = some b := by subst h; exact congrArg some k
theorem btt {b : Bool} {x y r : α} (h : b = true) (k : x = r) : (bif b then x else y) = r := by subst h; exact k
theorem bff {b : Bool} {x y r : α} (h : b = false) (k : y = r) : (bif b then x else y) = r := by subst h; exact k
end
structure Ev (P : Prog) (n : Nat) (l : E) (ρ : Lo) (H : Hp) (v : V) (H' : Hp) : Prop where
  h : (sem P n).ev l ρ H = some (v, H')
theorem Ev.iff {P : Prog} {n : Nat} {l : E} {ρ : Lo} {H : Hp} {v : V} {H' : Hp} : Ev P n l ρ H v H' ↔ (sem P n).ev l ρ H = some (v, H') := ⟨fun h => h.1, fun h => ⟨h⟩⟩
structure Es (P : Prog) (n : Nat) (l : List E) (ρ : Lo) (H : Hp) (v : List V) (H' : Hp) : Prop where
  h : evs (sem P n) l ρ H = some (v, H')
theorem Es.iff {P : Prog} {n : Nat} {l : List E} {ρ : Lo} {H : Hp} {v : List V} {H' : Hp} : Es P n l ρ H v H' ↔ evs (sem P n) l ρ H = some (v, H') := ⟨fun h => h.1, fun h => ⟨h⟩⟩
structure Xs (P : Prog) (n : Nat) (l : List S) (ρ : Lo) (H : Hp) (f : Fl) (ρ' : Lo) (H' : Hp) : Prop where
  h : (sem P n).exs l ρ H = some (f, ρ', H')
theorem Xs.iff {P : Prog} {n : Nat} {l : List S} {ρ : Lo} {H : Hp} {f : Fl} {ρ' : Lo} {H' : Hp} : Xs P n l ρ H f ρ' H' ↔ (sem P n).exs l ρ H = some (f, ρ', H') := ⟨fun h => h.1, fun h => ⟨h⟩⟩
structure Ca (P : Prog) (n : Nat) (f : FDef) (a : List V) (H : Hp) (v : V) (H' : Hp) : Prop where
  h : callF (sem P n) f a H = some (v, H')
theorem Ca.iff {P : Prog} {n : Nat} {f : FDef} {a : List V} {H : Hp} {v : V} {H' : Hp} : Ca P n f a H v H' ↔ callF (sem P n) f a H = some (v, H') := ⟨fun h => h.1, fun h => ⟨h⟩⟩
structure It (P : Prog) (n : Nat) (l : E) (ρ : Lo) (H : Hp) (v : List V) (H' : Hp) : Prop where
  h : evIt (sem P n) l ρ H = some (v, H')
theorem It.iff {P : Prog} {n : Nat} {l : E} {ρ : Lo} {H : Hp} {v : List V} {H' : Hp} : It P n l ρ H v H' ↔ evIt (sem P n) l ρ H = some (v, H') := ⟨fun h => h.1, fun h => ⟨h⟩⟩

theorem all_c {α : Type} {f : α → Bool} {a : α} {l : List α} (h : (a :: l).all f = true) : f a = true ∧ l.all f = true := (Bool.and_eq_true _ _).mp h
theorem nbt {b : Bool} (h : (!b) = true) : b = false := by cases b; rfl; exact h.symm
/-- a name's value, found step by step -/
structure Lk (ρ : Lo) (i : Nat) (v : V) : Prop where
  h : lk ρ i = some v
theorem lke_ldel (l : List Nat) : ∀ (ρ : Lo) (j : Nat), l.any (Nat.beq j) = false → lk (ldel l ρ) j = lk ρ j
  | [], j, h => rfl
  | (k, w) :: r, j, h => by
    have ih := lke_ldel l r j h
    unfold ldel at *
    by_cases e : j = k
    · subst e
      rw [List.filter_cons_of_pos (p := fun p : Nat × V => !(l.any (Nat.beq p.1))) (by simp only [h, Bool.not_false]), lk_cons, lk_cons, if_pos rfl, if_pos rfl]
    · rw [lk_cons, if_neg e, ← ih]
      by_cases q : (!(l.any (Nat.beq k))) = true
      · rw [List.filter_cons_of_pos (p := fun p : Nat × V => !(l.any (Nat.beq p.1))) q, lk_cons, if_neg e]
      · rw [List.filter_cons_of_neg (p := fun p : Nat × V => !(l.any (Nat.beq p.1))) q]
theorem lke_same {ρ : Lo} {i : Nat} {v : V} : Lk (lset ρ i v) i v := ⟨by rw [lk_lset, if_pos rfl]⟩
theorem lke_skip {ρ : Lo} {i j : Nat} {v w : V} (h : Nat.beq j i = false) (g : Lk ρ j v) : Lk (lset ρ i w) j v := ⟨by rw [lk_lset, if_neg (Nat.ne_of_beq_eq_false h)]; exact g.h⟩
theorem lke_del {ρ : Lo} {l : List Nat} {j : Nat} {v : V} (h : l.any (Nat.beq j) = false) (g : Lk ρ j v) : Lk (ldel l ρ) j v := ⟨by rw [lke_ldel l ρ j h]; exact g.h⟩
theorem lke_base {ρ : Lo} {j : Nat} {v : V} (h : lk ρ j = some v) : Lk ρ j v := ⟨h⟩

section
variable {P : Prog} {n : Nat} {ρ ρ1 ρ' : Lo} {H H1 H2 H3 H' : Hp}

theorem es_nil : Es P n [] ρ H [] H := ⟨rfl⟩
theorem es_cons {e : E} {es : List E} {v : V} {vs : List V} (a : Ev P n e ρ H v H1) (b : Es P n es ρ H1 vs H2) : Es P n (e :: es) ρ H (v :: vs) H2 := ⟨bnd a.h (bnd b.h rfl)⟩

theorem es1 {R : Sems} {e : E} {v : V} (h : R.ev e ρ H = some (v, H1)) : evs R [e] ρ H = some ([v], H1) := bnd h rfl
theorem es2 {R : Sems} {e f : E} {v w : V} (h : R.ev e ρ H = some (v, H1)) (g : R.ev f ρ H1 = some (w, H2)) : evs R [e, f] ρ H = some ([v, w], H2) := bnd h (bnd (es1 g) rfl)
theorem e_none : Ev P (n+1) .none ρ H .none H := ⟨rfl⟩
theorem e_bool {b : Bool} : Ev P (n+1) (.bool b) ρ H (.bool b) H := ⟨rfl⟩
theorem e_num {i : Int} : Ev P (n+1) (.num i) ρ H (.int i) H := ⟨rfl⟩
theorem e_str {s : Nat} : Ev P (n+1) (.str s) ρ H (.str s) H := ⟨rfl⟩
theorem e_var {i : Nat} {v : V} (h : lk ρ i = some v) : Ev P (n+1) (.var i) ρ H v H := ⟨mpd h rfl⟩
theorem e_var' {i : Nat} {v : V} (h : Lk ρ i v) : Ev P (n+1) (.var i) ρ H v H := e_var h.h
theorem e_cst {i : Nat} {v : V} (h : lk P.consts i = some v) : Ev P (n+1) (.cst i) ρ H v H := ⟨mpd h rfl⟩
theorem e_not {a : E} {b c : Bool} (h : Ev P n a ρ H (.bool b) H1) (q : (!b) = c) : Ev P (n+1) (.not a) ρ H (.bool c) H1 := ⟨bnd h.h (congrArg (fun c => some (V.bool c, H1)) q)⟩
theorem e_neg {a : E} {i : Int} (h : Ev P n a ρ H (.int i) H1) : Ev P (n+1) (.neg a) ρ H (.int (-i)) H1 := ⟨bnd h.h rfl⟩
theorem e_bin {op : Bop} {a b : E} {x y v : V} (h : Ev P n a ρ H x H1) (g : Ev P n b ρ H1 y H2) (q : binV op x y = some v) : Ev P (n+1) (.bin op a b) ρ H v H2 := ⟨bnd h.h (bnd g.h (mpd q rfl))⟩
theorem e_ite_t {c a b : E} {d : Bool} {v : V} (h : Ev P n c ρ H (.bool d) H1) (q : d = true) (g : Ev P n a ρ H1 v H2) : Ev P (n+1) (.ite c a b) ρ H v H2 := ⟨bnd h.h (btt q g.h)⟩
theorem e_ite_f {c a b : E} {d : Bool} {v : V} (h : Ev P n c ρ H (.bool d) H1) (q : d = false) (g : Ev P n b ρ H1 v H2) : Ev P (n+1) (.ite c a b) ρ H v H2 := ⟨bnd h.h (bff q g.h)⟩
theorem e_tup {l : List E} {vs : List V} (h : Es P n l ρ H vs H1) (q : okLen vs.length = true) : Ev P (n+1) (.tup l) ρ H (.tup vs) H1 := ⟨bnd h.h (btt q rfl)⟩
theorem e_list {l : List E} {vs : List V} (h : Es P n l ρ H vs H1) (q : okLen vs.length = true) : Ev P (n+1) (.list false l) ρ H (.lst vs) H1 := ⟨bnd h.h (btt q rfl)⟩
theorem e_listm {l : List E} {vs : List V} (h : Es P n l ρ H vs H1) (q : okLen vs.length = true) : Ev P (n+1) (.list true l) ρ H (.ref H1.length) (H1 ++ [.list vs]) := ⟨bnd h.h (btt q rfl)⟩
theorem e_cmp {a e : E} {o : Cop} {x y : V} {b : Bool} (h : Ev P n a ρ H x H1) (g : Ev P n e ρ H1 y H2) (q : cop o H2 x y = some b) : Ev P (n+1) (.cmp a [o] [e]) ρ H (.bool b) H2 := ⟨bnd h.h (bnd g.h (bnd q (by cases b <;> rfl)))⟩
theorem e_cmp2 {a e g : E} {o o2 : Cop} {x y z : V} {b c : Bool} (h : Ev P n a ρ H x H1) (k : Ev P n e ρ H1 y H2) (q : cop o H2 x y = some b) (t : b = true) (m : Ev P n g ρ H2 z H3) (q2 : cop o2 H3 y z = some c) : Ev P (n+1) (.cmp a [o, o2] [e, g]) ρ H (.bool c) H3 := ⟨bnd h.h (bnd k.h (bnd q (btt (by rw [t]; rfl) (bnd m.h (bnd q2 (by cases c <;> rfl))))))⟩
theorem e_or_t {e f : E} {es : List E} {b : Bool} (h : Ev P n e ρ H (.bool b) H1) (q : b = true) : Ev P (n+1) (.or (e :: f :: es)) ρ H (.bool true) H1 := ⟨bnd h.h (btt q rfl)⟩
theorem e_or_f {e f : E} {es : List E} {b : Bool} {v : V} (h : Ev P n e ρ H (.bool b) H1) (q : b = false) (g : Ev P (n+1) (.or (f :: es)) ρ H1 v H2) : Ev P (n+1) (.or (e :: f :: es)) ρ H v H2 := ⟨bnd h.h (bff q g.h)⟩
theorem e_or_1 {e : E} {v : V} (h : Ev P n e ρ H v H1) : Ev P (n+1) (.or [e]) ρ H v H1 := ⟨h.1⟩
theorem e_call {f : Nat} {fd : FDef} {args : List E} {vs : List V} {v : V} (l : lk P.funs f = some fd) (h : Es P n args ρ H vs H1) (c : Ca P n fd vs H1 v H2) : Ev P (n+1) (.call f args) ρ H v H2 := ⟨bnd l (bnd h.h c.h)⟩
theorem e_meth {o : E} {m r c : Nat} {l : List (Nat × V)} {ms : List (Nat × FDef)} {fd : FDef} {args : List E} {vs : List V} {v : V} (ho : Ev P n o ρ H (.ref r) H1) (ob : nth H1 r = some (.inst c l)) (nl : (lk l m).isSome = false) (hc : lk P.classes c = some ms) (hm : lk ms m = some fd)
    (h : Es P n args ρ H1 vs H2) (k : Ca P n fd (.ref r :: vs) H2 v H3) : Ev P (n+1) (.meth o m args) ρ H v H3 := ⟨bnd ho.h (bnd rfl (bnd ob (bff nl (bnd hc (bnd hm (bnd h.h k.h))))))⟩
theorem e_append {o : E} {r : Nat} {a : E} {l l2 : List V} {v : V} (ho : Ev P n o ρ H (.ref r) H1) (ob : nth H1 r = some (.list l)) (h : Ev P n a ρ H1 v H2) (ob2 : nth H2 r = some (.list l2)) (k : okLen l2.length = true) :
    Ev P (n+1) (.meth o 110425311047777 [a]) ρ H .none (H2.set r (.list (l2 ++ [v]))) := ⟨bnd ho.h (bnd rfl (bnd ob (bnd (es1 h.h) (bnd ob2 (btt rfl (bnd rfl (btt k rfl)))))))⟩
theorem e_getT {o k d : E} {r : Nat} {l : List (V × V)} {kv dv v : V} (ho : Ev P n o ρ H (.ref r) H1) (ob : nth H1 r = some (.dT l)) (hk : Ev P n k ρ H1 kv H2) (hd : Ev P n d ρ H2 dv H3) (ob2 : nth H3 r = some (.dT l)) (q : kv.isKey = true) (g : (getT l kv).getD dv = v) :
    Ev P (n+1) (.meth o 7628135 [k, d]) ρ H v H3 := ⟨bnd ho.h (bnd rfl (bnd ob (bnd (es2 hk.h hd.h) (bnd ob2 (btt rfl (bnd rfl (mpd (btt q (congrArg some g)) rfl)))))))⟩
theorem e_getI {o k d : E} {r : Nat} {l : List (Int × V)} {i : Int} {dv v : V} (ho : Ev P n o ρ H (.ref r) H1) (ob : nth H1 r = some (.dI l)) (hk : Ev P n k ρ H1 (.int i) H2) (hd : Ev P n d ρ H2 dv H3) (ob2 : nth H3 r = some (.dI l)) (g : (getI l i).getD dv = v) :
    Ev P (n+1) (.meth o 7628135 [k, d]) ρ H v H3 := ⟨bnd ho.h (bnd rfl (bnd ob (bnd (es2 hk.h hd.h) (bnd ob2 (show (getV (.dI l) (.int i) dv).map (fun v => (v, H3)) = _ from mpd (congrArg some g) rfl)))))⟩
theorem e_attr {o : E} {a r c : Nat} {l : List (Nat × V)} {v : V} (ho : Ev P n o ρ H (.ref r) H1) (ob : nth H1 r = some (.inst c l)) (q : (P.attrs.any (Nat.beq a) && (lk P.classes c).isSome) = true) (g : lk l a = some v) : Ev P (n+1) (.attr o a) ρ H v H1 := ⟨bnd ho.h (bnd rfl (bnd ob (bnd rfl (btt q (mpd g rfl)))))⟩
theorem e_sub {o i : E} {x y v : V} (h : Ev P n o ρ H x H1) (g : Ev P n i ρ H1 y H2) (q : subV H2 x y = some v) : Ev P (n+1) (.sub o i) ρ H v H2 := ⟨bnd h.h (bnd g.h (mpd q rfl))⟩
theorem e_bi {b : Bi} {l : List E} {vs : List V} {v : V} (h : Es P n l ρ H vs H1) (q : callBi b vs H1 = some (v, H2)) : Ev P (n+1) (.bi b l) ρ H v H2 := ⟨bnd h.h q⟩

theorem e_fmt {pre post t : Nat} {e : E} {i : Int} (h : Ev P n e ρ H (.int i) H1) (q : intText i = some t) : Ev P (n+1) (.fmt pre e post) ρ H (.str (strCat pre (strCat t post))) H1 := ⟨bnd h.h (mpd q rfl)⟩
theorem e_slice_t {o hi : E} {l m : List V} {b : Int} (h : Ev P n o ρ H (.tup l) H1) (g : Ev P n hi ρ H1 (.int b) H2) (k : okInt b = true) (q : sliceL l Option.none (some b) = some m) : Ev P (n+1) (.slice o Option.none (some hi)) ρ H (.tup m) H2 := ⟨bnd h.h (bnd rfl (bnd (bnd g.h (bnd rfl (btt k rfl)) : evOpt (sem P n) (some hi) ρ H1 = some (some b, H2)) (mpd q rfl)))⟩
theorem c_ret {f : FDef} {a : List V} {v : V} (l : Nat.beq a.length f.params.length = true) (h : Xs P n f.body (f.params.zip a) H (.ret v) ρ' H') : Ca P n f a H v H' := ⟨btt l (bnd h.h rfl)⟩
theorem c_nxt {f : FDef} {a : List V} (l : Nat.beq a.length f.params.length = true) (h : Xs P n f.body (f.params.zip a) H .nxt ρ' H') : Ca P n f a H .none H' := ⟨btt l (bnd h.h rfl)⟩

theorem x_nil : Xs P (n+1) [] ρ H .nxt ρ H := ⟨rfl⟩
theorem x_expr {e : E} {r : List S} {v : V} {f : Fl} (h : Ev P n e ρ H v H1) (g : Xs P (n+1) r ρ H1 f ρ' H') : Xs P (n+1) (.expr e :: r) ρ H f ρ' H' := ⟨bnd (mpd h.h rfl) g.h⟩
theorem x_ret {e : E} {r : List S} {v : V} (h : Ev P n e ρ H v H1) : Xs P (n+1) (.ret e :: r) ρ H (.ret v) ρ H1 := ⟨bnd (mpd h.h rfl) rfl⟩
theorem x_asg {t : T} {e : E} {r : List S} {v : V} {f : Fl} (h : Ev P n e ρ H v H1) (a : asgT P (sem P n) t v ρ H1 = some (ρ1, H2)) (g : Xs P (n+1) r ρ1 H2 f ρ' H') : Xs P (n+1) (.asg t e :: r) ρ H f ρ' H' := ⟨bnd (bnd h.h (mpd a rfl)) g.h⟩
theorem x_asgv {i : Nat} {e : E} {r : List S} {v : V} {f : Fl} (h : Ev P n e ρ H v H1) (g : Xs P (n+1) r (lset ρ i v) H1 f ρ' H') : Xs P (n+1) (.asg (.var i) e :: r) ρ H f ρ' H' := x_asg h rfl g
theorem x_asgt {l : List Nat} {e : E} {r : List S} {v : V} {f : Fl} (h : Ev P n e ρ H v H1) (a : bindT (.tup l) v ρ = some ρ1) (g : Xs P (n+1) r ρ1 H1 f ρ' H') : Xs P (n+1) (.asg (.tup l) e :: r) ρ H f ρ' H' := x_asg h (mpd a rfl) g
theorem x_asgs {o i e : E} {r : List S} {v ov iv : V} {f : Fl} {H4 : Hp} (h : Ev P n e ρ H v H1) (a : Ev P n o ρ H1 ov H2) (b : Ev P n i ρ H2 iv H3) (s : setItemV H3 ov iv v = some H4) (g : Xs P (n+1) r ρ H4 f ρ' H') :
    Xs P (n+1) (.asg (.sub o i) e :: r) ρ H f ρ' H' := x_asg h (bnd a.h (bnd b.h (mpd s rfl))) g
theorem x_asga {o e : E} {a c k : Nat} {r : List S} {v : V} {l : List (Nat × V)} {f : Fl} {H4 : Hp} (h : Ev P n e ρ H v H1) (ho : Ev P n o ρ H1 (.ref k) H2) (ob : nth H2 k = some (.inst c l)) (q : (Nat.ble l.length 50 && P.attrs.any (Nat.beq a) && (lk P.classes c).isSome) = true) (g : Xs P (n+1) r ρ (H2.set k (.inst c (lset l a v))) f ρ' H4) :
    Xs P (n+1) (.asg (.attr o a) e :: r) ρ H f ρ' H4 := x_asg h (bnd ho.h (bnd rfl (bnd ob (bnd rfl (btt q rfl))))) g
theorem x_if_tr {c : E} {a b r : List S} {d : Bool} {v : V} (h : Ev P n c ρ H (.bool d) H1) (q : d = true) (g : Xs P n a ρ H1 (.ret v) ρ' H') : Xs P (n+1) (.ifs c a b :: r) ρ H (.ret v) ρ' H' := ⟨bnd (bnd h.h (btt q g.h)) rfl⟩
theorem x_if_tn {c : E} {a b r : List S} {d : Bool} {f : Fl} (h : Ev P n c ρ H (.bool d) H1) (q : d = true) (g : Xs P n a ρ H1 .nxt ρ1 H2) (k : Xs P (n+1) r ρ1 H2 f ρ' H') : Xs P (n+1) (.ifs c a b :: r) ρ H f ρ' H' := ⟨bnd (bnd h.h (btt q g.h)) k.h⟩
theorem x_if_f {c : E} {a r : List S} {d : Bool} {f : Fl} (h : Ev P (n+1) c ρ H (.bool d) H1) (q : d = false) (k : Xs P (n+2) r ρ H1 f ρ' H') : Xs P (n+2) (.ifs c a [] :: r) ρ H f ρ' H' := ⟨bnd (bnd h.h (bff q rfl)) k.h⟩
theorem x_if_fr {c : E} {a b r : List S} {d : Bool} {v : V} (h : Ev P n c ρ H (.bool d) H1) (q : d = false) (g : Xs P n b ρ H1 (.ret v) ρ' H') : Xs P (n+1) (.ifs c a b :: r) ρ H (.ret v) ρ' H' := ⟨bnd (bnd h.h (bff q g.h)) rfl⟩
theorem x_if_fn {c : E} {a b r : List S} {d : Bool} {f : Fl} (h : Ev P n c ρ H (.bool d) H1) (q : d = false) (g : Xs P n b ρ H1 .nxt ρ1 H2) (k : Xs P (n+1) r ρ1 H2 f ρ' H') : Xs P (n+1) (.ifs c a b :: r) ρ H f ρ' H' := ⟨bnd (bnd h.h (bff q g.h)) k.h⟩
theorem x_fr {t : T} {e : E} {b r : List S} {vs : List V} {f : Fl} (i : It P n e ρ H vs H1) (l : exFor (sem P n) t b vs ρ H1 = some (.nxt, ρ1, H2)) (k : Xs P (n+1) r ρ1 H2 f ρ' H') : Xs P (n+1) (.fr t e b :: r) ρ H f ρ' H' := ⟨bnd (bnd i.h l) k.h⟩
theorem x_fr_r {t : T} {e : E} {b r : List S} {vs : List V} {v : V} (i : It P n e ρ H vs H1) (l : exFor (sem P n) t b vs ρ H1 = some (.ret v, ρ1, H2)) : Xs P (n+1) (.fr t e b :: r) ρ H (.ret v) ρ1 H2 := ⟨bnd (bnd i.h l) rfl⟩
theorem x_whl {c : E} {b r : List S} {f : Fl} (l : exWhl (sem P n) c b turns ρ H = some (.nxt, ρ1, H2)) (k : Xs P (n+1) r ρ1 H2 f ρ' H') : Xs P (n+1) (.whl c b :: r) ρ H f ρ' H' := ⟨bnd l k.h⟩

/-! a branch, its test known -/
structure Xi (P : Prog) (n : Nat) (d : Bool) (a b r : List S) (ρ : Lo) (H : Hp) (f : Fl) (ρ' : Lo) (H' : Hp) : Prop where
  h : ∀ c ρ0 H0, Ev P n c ρ0 H0 (.bool d) H → ρ0 = ρ → Xs P (n+1) (.ifs c a b :: r) ρ0 H0 f ρ' H'
theorem x_ifs {c : E} {a b r : List S} {d : Bool} {f : Fl} (h : Ev P n c ρ H (.bool d) H1) (g : Xi P n d a b r ρ H1 f ρ' H') : Xs P (n+1) (.ifs c a b :: r) ρ H f ρ' H' := g.h c ρ H h rfl
theorem xi_f {a r : List S} {d : Bool} {f : Fl} (q : d = false) (g : Xs P (n+2) r ρ H f ρ' H') : Xi P (n+1) d a [] r ρ H f ρ' H' := ⟨fun c ρ0 H0 h e => by subst e; exact x_if_f h q g⟩
theorem xi_t1 {e : E} {b r : List S} {d : Bool} {v : V} (q : d = true) (g : Ev P n e ρ H v H') : Xi P (n+1) d [.ret e] b r ρ H (.ret v) ρ H' := ⟨fun c ρ0 H0 h e => by subst e; exact x_if_tr h q (x_ret g)⟩
theorem xi_tn {a b r : List S} {d : Bool} {f : Fl} (q : d = true) (g : Xs P n a ρ H .nxt ρ1 H1) (k : Xs P (n+1) r ρ1 H1 f ρ' H') : Xi P n d a b r ρ H f ρ' H' := ⟨fun c ρ0 H0 h e => by subst e; exact x_if_tn h q g k⟩
theorem xi_tr {a b r : List S} {d : Bool} {v : V} (q : d = true) (g : Xs P n a ρ H (.ret v) ρ' H') : Xi P n d a b r ρ H (.ret v) ρ' H' := ⟨fun c ρ0 H0 h e => by subst e; exact x_if_tr h q g⟩
noncomputable def endsRet : List S → Bool
  | [] => false
  | [.ret _] => true
  | _ :: r => endsRet r
theorem xi_tr' {a b r : List S} {d : Bool} {v : V} (q : d = true) (_e : endsRet a = true) (g : Xs P n a ρ H (.ret v) ρ' H') : Xi P n d a b r ρ H (.ret v) ρ' H' := xi_tr q g
theorem xi_tn' {a b r : List S} {d : Bool} {f : Fl} (q : d = true) (_e : endsRet a = false) (g : Xs P n a ρ H .nxt ρ1 H1) (k : Xs P (n+1) r ρ1 H1 f ρ' H') : Xi P n d a b r ρ H f ρ' H' := xi_tn q g k
/-- the same for a choice -/
structure Ei (P : Prog) (n : Nat) (d : Bool) (a b : E) (ρ : Lo) (H : Hp) (v : V) (H' : Hp) : Prop where
  h : Ev P n (bif d then a else b) ρ H v H'
theorem e_ite {c a b : E} {d : Bool} {v : V} (h : Ev P n c ρ H (.bool d) H1) (g : Ei P n d a b ρ H1 v H2) : Ev P (n+1) (.ite c a b) ρ H v H2 := by
  induction d using Bool.casesOn with
  | true => exact e_ite_t h rfl g.h
  | false => exact e_ite_f h rfl g.h
theorem ei_t {a b : E} {d : Bool} {v : V} (q : d = true) (g : Ev P n a ρ H v H') : Ei P n d a b ρ H v H' := ⟨by rw [q]; exact g⟩
theorem ei_f {a b : E} {d : Bool} {v : V} (q : d = false) (g : Ev P n b ρ H v H') : Ei P n d a b ρ H v H' := ⟨by rw [q]; exact g⟩
/-- and for an `or` -/
structure Oi (P : Prog) (n : Nat) (d : Bool) (l : List E) (ρ : Lo) (H : Hp) (v : V) (H' : Hp) : Prop where
  h : if d = true then v = .bool true ∧ H' = H else Ev P (n+1) (.or l) ρ H v H'
theorem e_or {e f : E} {es : List E} {b : Bool} {v : V} (h : Ev P n e ρ H (.bool b) H1) (g : Oi P n b (f :: es) ρ H1 v H2) : Ev P (n+1) (.or (e :: f :: es)) ρ H v H2 := by
  have g := g.h
  by_cases q : b = true
  · rw [if_pos q] at g; obtain ⟨rfl, rfl⟩ := g; exact e_or_t h q
  · rw [if_neg q] at g; exact e_or_f h (by simpa using q) g
theorem oi_t {l : List E} {d : Bool} (q : d = true) : Oi P n d l ρ H (.bool true) H := ⟨by rw [if_pos q]; exact ⟨rfl, rfl⟩⟩
theorem oi_f {l : List E} {d : Bool} {v : V} (q : d = false) (g : Ev P (n+1) (.or l) ρ H v H') : Oi P n d l ρ H v H' := ⟨by rw [if_neg (by rw [q]; decide)]; exact g⟩

/-! a call, what it gives to be told after -/
theorem c_ret' {f : FDef} {a : List V} {v0 v : V} (l : Nat.beq a.length f.params.length = true) (h : Xs P n f.body (f.params.zip a) H (.ret v0) ρ' H1) (e : v0 = v) (k : H1 = H') : Ca P n f a H v H' := by subst e k; exact c_ret l h
theorem c_nxt' {f : FDef} {a : List V} (l : Nat.beq a.length f.params.length = true) (h : Xs P n f.body (f.params.zip a) H .nxt ρ' H1) (k : H1 = H') : Ca P n f a H .none H' := by subst k; exact c_nxt l h

theorem cop_eq_int {H : Hp} {a b : Int} : cop .eq H (.int a) (.int b) = some (decide (a = b)) := by
  simp only [cop, eqV, V.flat, V.dep, V.beq]; rfl
theorem cop_ne_int {H : Hp} {a b : Int} : cop .ne H (.int a) (.int b) = some (!decide (a = b)) := by
  simp only [cop, eqV, V.flat, V.dep, V.beq]; rfl
theorem cop_lt_int {H : Hp} {a b : Int} : cop .lt H (.int a) (.int b) = some (decide (a < b)) := rfl
theorem cop_le_int {H : Hp} {a b : Int} : cop .le H (.int a) (.int b) = some (decide (a ≤ b)) := rfl
theorem cop_gt_int {H : Hp} {a b : Int} : cop .gt H (.int a) (.int b) = some (decide (b < a)) := rfl
theorem cop_ge_int {H : Hp} {a b : Int} : cop .ge H (.int a) (.int b) = some (decide (b ≤ a)) := rfl

/-! what a loop walks over -/
theorem i_range1 {e : E} {i : Int} (h : Ev P n e ρ H (.int i) H1) (q : (okLen i.toNat && okInt i) = true) : It P n (.range [e]) ρ H ((List.range i.toNat).map fun (k : Nat) => V.int (k : Int)) H1 := ⟨bnd (es1 h.h) (bnd rfl (mpd (btt q rfl) rfl))⟩
theorem i_range2 {e g : E} {i j : Int} (h : Ev P n e ρ H (.int i) H1) (k : Ev P n g ρ H1 (.int j) H2) (q : (okLen (j - i).toNat && okInt i && okInt j) = true) : It P n (.range [e, g]) ρ H ((List.range (j - i).toNat).map fun (k : Nat) => V.int (i + (k : Int))) H2 := ⟨bnd (es2 h.h k.h) (bnd rfl (mpd (btt q rfl) rfl))⟩
theorem i_val {e : E} {l : List V} {v : V} (hn : e.range? = Option.none) (h : Ev P n e ρ H v H1) (q : items v = some l) : It P n e ρ H l H1 := ⟨by unfold evIt; rw [hn]; exact bnd h.h (mpd q rfl)⟩

/-! built-in functions, stores -/
theorem len_ref {H : Hp} {r m : Nat} {l : List V} (h : nth H r = some (.list l)) (e : l.length = m) (k : okLen m = true) : callBi .len [.ref r] H = some (.int m, H) := by
  subst e; show (lenV H (.ref r)).bind (fun n => bif okLen n then some (V.int n, H) else Option.none) = _; exact bnd (bnd h rfl) (btt k rfl)
theorem len_lst {H : Hp} {l : List V} {m : Nat} (e : l.length = m) (k : okLen m = true) : callBi .len [.lst l] H = some (.int m, H) := by
  subst e; show (bif okLen l.length then some (V.int l.length, H) else Option.none) = _; exact btt k rfl
theorem setI_T {H : Hp} {r : Nat} {l : List (V × V)} {k v : V} (h : nth H r = some (.dT l)) (q : k.isKey = true) (o : okLen l.length = true) : setItemV H (.ref r) k v = some (H.set r (.dT (setT l k v))) :=
  show ((nth H r).bind fun ob => (setItemO ob k v).map fun ob => H.set r ob) = _ from bnd h (mpd (btt (by rw [q, o]; rfl) rfl) rfl)
theorem setI_I {H : Hp} {r : Nat} {l : List (Int × V)} {k : Int} {v : V} (h : nth H r = some (.dI l)) (o : okLen l.length = true) : setItemV H (.ref r) (.int k) v = some (H.set r (.dI (setI l k v))) :=
  show ((nth H r).bind fun ob => (setItemO ob (.int k) v).map fun ob => H.set r ob) = _ from bnd h (mpd (show (bif okLen l.length then some (O.dI (setI l k v)) else Option.none) = _ from btt o rfl) rfl)

theorem okInt_of {i : Int} (h : i.natAbs ≤ 10000000) : okInt i = true := by
  unfold okInt; apply Nat.ble_eq_true_of_le
  exact Nat.le_trans h (by decide)
theorem b_int {op : Bop} {a b c : Int} (h : binI op a b = some c) : binV op (.int a) (.int b) = some (.int c) := show (binI op a b).map V.int = _ from mpd h rfl
theorem b_mod {a b : Int} (h : b ≠ 0) : binV .mod (.int a) (.int b) = some (.int (Int.fmod a b)) := b_int (if_neg h)
theorem b_mul {a b : Int} (h : a.natAbs ≤ 10000000) : binV .mul (.int a) (.int b) = some (.int (a * b)) := b_int (btt (okInt_of h) rfl)
theorem b_fdiv {a b : Int} (h : b ≠ 0) (k : b.natAbs ≤ 10000000) : binV .fdiv (.int a) (.int b) = some (.int (Int.fdiv a b)) := b_int ((if_neg h).trans (btt (okInt_of k) rfl))
theorem b_pow {a b : Int} (h : a.natAbs ≤ 10000000) (h0 : 0 ≤ b) (h1 : b ≤ 1000) : binV .pow (.int a) (.int b) = some (.int (a ^ b.toNat)) := b_int ((if_pos ⟨h0, h1⟩).trans (btt (okInt_of h) rfl))
theorem b_shl1 {b : Int} (h0 : 0 ≤ b) (h1 : b ≤ 1000) : binV .shl (.int 1) (.int b) = some (.int (2 ^ b.toNat)) := b_int ((if_pos ⟨h0, h1⟩).trans (btt rfl (by rw [Int.one_mul])))
theorem b_addl {a b : List V} (h : okLen (a.length + b.length) = true) : binV .add (.lst a) (.lst b) = some (.lst (a ++ b)) :=
  show (bif okLen (a.length + b.length) then some (V.lst (a ++ b)) else Option.none) = _ from btt h rfl
theorem okInt_lt2 {i : Int} (h0 : 0 ≤ i) {n : Nat} (h : i.toNat < n) (hn : n ≤ 100001) : okInt i = true := by
  unfold okInt; apply Nat.ble_eq_true_of_le
  have : i.natAbs ≤ 100001 := by lia
  exact Nat.le_trans this (by decide)
theorem idx_of {i : Int} {n : Nat} (h0 : 0 ≤ i) (h : i.toNat < n) (hn : n ≤ 100001) : idx i n = some i.toNat := by
  unfold idx
  rw [okInt_lt2 h0 h hn, cond_true, if_pos h0, if_pos h]
theorem sub_at {l : List V} {i : Int} {v : V} (h0 : 0 ≤ i) (g : l[i.toNat]? = some v) (hn : i.toNat < 100001) : ((idx i l.length).bind fun j => l[j]?) = some v := by
  have hl : i.toNat < l.length := (List.getElem?_eq_some_iff.mp g).1
  have hi : idx i l.length = some i.toNat := by
    unfold idx
    rw [okInt_lt2 h0 hn (Nat.le_refl _), cond_true, if_pos h0, if_pos hl]
  exact bnd hi g
theorem sub_ref {H : Hp} {r : Nat} {l : List V} {i : Int} {v : V} (q : nth H r = some (.list l)) (h0 : 0 ≤ i) (g : l[i.toNat]? = some v) (hn : i.toNat < 100001) : subV H (.ref r) (.int i) = some v := bnd q (sub_at h0 g hn)
theorem sub_lst {H : Hp} {l : List V} {i : Int} {v : V} (h0 : 0 ≤ i) (g : l[i.toNat]? = some v) (hn : i.toNat < 100001) : subV H (.lst l) (.int i) = some v := sub_at h0 g hn
theorem sub_tup {H : Hp} {l : List V} {i : Int} {v : V} (h0 : 0 ≤ i) (g : l[i.toNat]? = some v) (hn : i.toNat < 100001) : subV H (.tup l) (.int i) = some v := sub_at h0 g hn
theorem sub_I {H : Hp} {r : Nat} {l : List (Int × V)} {i : Int} (q : nth H r = some (.dI l)) : subV H (.ref r) (.int i) = getI l i := bnd q rfl

/-! comprehensions -/
theorem comp_loop_map {R : Sems} {t : T} {inner : Lo → Hp → Option (List V × Hp)} {ρ : Lo} {H : Hp} {f : V → List V} : ∀ {vs : List V}, (∀ v ∈ vs, ∃ ρ', bindT t v ρ = some ρ' ∧ inner ρ' H = some (f v, H)) → evComp.loop R t [] inner vs ρ H = some (vs.flatMap f, H)
  | [], _ => rfl
  | v :: vs, h => by
    obtain ⟨ρ', h1, h2⟩ := h v (List.mem_cons_self ..)
    have h3 := comp_loop_map (R := R) (vs := vs) fun v hv => h v (List.mem_cons_of_mem _ hv)
    simp only [evComp.loop, h1, h2, h3, evIfs, Option.bind_some, cond_true, List.flatMap_cons]

theorem flatMap_one {α β : Type} {f : α → β} : ∀ {l : List α}, l.flatMap (fun v => [f v]) = l.map f
  | [] => rfl
  | a :: l => by rw [List.flatMap_cons, flatMap_one]; rfl
/-- one clause, no condition, the heap as it is -/
theorem e_comp {elt it : E} {t : T} {vs : List V} {f : V → V} (i : It P n it ρ H vs H1) (h : ∀ v ∈ vs, ∃ ρ', bindT t v (ldel (n_dot0 :: tgtsOf [.mk t it []]) ρ) = some ρ' ∧ Ev P n elt ρ' H1 (f v) H1) (q : okLen vs.length = true) :
    Ev P (n+1) (.comp elt [.mk t it []]) ρ H (.lst (vs.map f)) H1 := by
  have L := comp_loop_map (R := sem P n) (t := t) (inner := evComp (sem P n) elt []) (ρ := ldel (n_dot0 :: tgtsOf [.mk t it []]) ρ) (H := H1) (f := fun v => [f v]) (vs := vs) fun v hv => by
    obtain ⟨ρ', a, b⟩ := h v hv
    exact ⟨ρ', a, by rw [Ev.iff] at b; simp only [evComp, b, Option.bind_some]⟩
  rw [It.iff] at i
  rw [Ev.iff]
  show (evIt (sem P n) it ρ H).bind _ = _
  rw [i]
  simp only [Option.bind_some]
  rw [L]
  have e : vs.flatMap (fun v => [f v]) = vs.map f := flatMap_one
  rw [e]
  simp only [Option.bind_some, List.length_map, q, cond_true]

/-- a loop of a comprehension, step by step -/
structure Cl (P : Prog) (n : Nat) (t : T) (elt : E) (vs : List V) (ρ : Lo) (H : Hp) (ws : List V) (H' : Hp) : Prop where
  h : evComp.loop (sem P n) t [] (evComp (sem P n) elt []) vs ρ H = some (ws, H')
theorem cl_nil {t : T} {elt : E} : Cl P n t elt [] ρ H [] H := ⟨rfl⟩
theorem cl_cons {t : T} {elt : E} {v w : V} {vs ws : List V} (b : bindT t v ρ = some ρ1) (h : Ev P n elt ρ1 H w H1) (k : Cl P n t elt vs ρ H1 ws H2) : Cl P n t elt (v :: vs) ρ H (w :: ws) H2 := ⟨bnd b (bnd rfl (bnd (bnd h.h rfl : evComp (sem P n) elt [] ρ1 H = some ([w], H1)) (bnd k.h rfl)))⟩
theorem e_comp1 {elt it : E} {t : T} {vs ws : List V} (i : It P n it ρ H vs H1) (l : Cl P n t elt vs (ldel (n_dot0 :: tgtsOf [.mk t it []]) ρ) H1 ws H2) (q : okLen ws.length = true) : Ev P (n+1) (.comp elt [.mk t it []]) ρ H (.lst ws) H2 := ⟨bnd i.h (bnd l.h (btt q rfl))⟩

/-- comprehensions that leave the heap as it is -/
structure Cg (P : Prog) (n : Nat) (elt : E) (gs : List G) (ρ : Lo) (H : Hp) (ws : List V) : Prop where
  h : evComp (sem P n) elt gs ρ H = some (ws, H)
structure Cp (P : Prog) (n : Nat) (elt : E) (t : T) (ifs : List E) (gs : List G) (vs : List V) (ρ : Lo) (H : Hp) (ws : List V) : Prop where
  h : evComp.loop (sem P n) t ifs (evComp (sem P n) elt gs) vs ρ H = some (ws, H)
theorem cg_nil {elt : E} {v : V} (h : Ev P n elt ρ H v H) : Cg P n elt [] ρ H [v] := ⟨bnd h.h rfl⟩
theorem cg_cons {elt it : E} {t : T} {ifs : List E} {gs : List G} {vs ws : List V} (i : It P n it ρ H vs H) (l : Cp P n elt t ifs gs vs ρ H ws) : Cg P n elt (.mk t it ifs :: gs) ρ H ws := ⟨bnd i.h l.h⟩
theorem e_compg {elt it : E} {t : T} {ifs : List E} {gs : List G} {vs ws : List V} (i : It P n it ρ H vs H) (l : Cp P n elt t ifs gs vs (ldel (n_dot0 :: tgtsOf (.mk t it ifs :: gs)) ρ) H ws) (q : okLen ws.length = true) : Ev P (n+1) (.comp elt (.mk t it ifs :: gs)) ρ H (.lst ws) H := ⟨bnd i.h (bnd l.h (btt q rfl))⟩
theorem cp_map {elt : E} {t : T} {gs : List G} {f : V → List V} {vs : List V} (h : ∀ v ∈ vs, ∃ ρ', bindT t v ρ = some ρ' ∧ Cg P n elt gs ρ' H (f v)) : Cp P n elt t [] gs vs ρ H (vs.flatMap f) :=
  ⟨comp_loop_map fun v hv => by obtain ⟨ρ', a, b⟩ := h v hv; exact ⟨ρ', a, b.h⟩⟩
theorem cp_if {elt c : E} {t : T} {gs : List G} {f : V → List V} : ∀ {vs : List V}, (∀ v ∈ vs, ∃ ρ' b, bindT t v ρ = some ρ' ∧ Ev P n c ρ' H (.bool b) H ∧ (b = true → Cg P n elt gs ρ' H (f v)) ∧ (b = false → f v = [])) → Cp P n elt t [c] gs vs ρ H (vs.flatMap f)
  | [], _ => ⟨rfl⟩
  | v :: vs, h => by
    obtain ⟨ρ', b, h1, h2, h3, h4⟩ := h v (List.mem_cons_self ..)
    have ih := (cp_if (vs := vs) fun v hv => h v (List.mem_cons_of_mem _ hv)).h
    constructor
    induction b using Bool.casesOn with
    | true => exact bnd h1 (bnd (bnd h2.h rfl : evIfs (sem P n) [c] ρ' H = some (true, H)) (bnd (h3 rfl).h (bnd ih rfl)))
    | false => rw [List.flatMap_cons, h4 rfl]; exact bnd h1 (bnd (bnd h2.h rfl : evIfs (sem P n) [c] ρ' H = some (false, H)) (bnd rfl (bnd ih rfl)))

/-! loops -/
theorem for_cons {R : Sems} {t : T} {b : List S} {v : V} {vs : List V} {ρ ρ1 ρ2 : Lo} {H H1 : Hp} {r : Option (Fl × Lo × Hp)} (h : bindT t v ρ = some ρ1) (g : R.exs b ρ1 H = some (.nxt, ρ2, H1)) (k : exFor R t b vs ρ2 H1 = r) : exFor R t b (v :: vs) ρ H = r := bnd h (bnd g k)
theorem for_ret {R : Sems} {t : T} {b : List S} {v w : V} {vs : List V} {ρ ρ1 ρ2 : Lo} {H H1 : Hp} (h : bindT t v ρ = some ρ1) (g : R.exs b ρ1 H = some (.ret w, ρ2, H1)) : exFor R t b (v :: vs) ρ H = some (.ret w, ρ2, H1) := bnd h (bnd g rfl)
end
end Mini
end
section
open Mini
local macro_rules | `(tactic| walk_at "mini d") => `(tactic| (first | rfl | with_reducible assumption | (apply decide_eq_true; first | with_reducible assumption | lia) | (apply decide_eq_false; first | with_reducible assumption | lia)))
local macro_rules | `(tactic| walk_at "mini e") => `(tactic| first | exact es_nil | exact e_num | exact e_str | exact e_bool | exact e_none | with_reducible exact lke_same | ((with_reducible apply lke_skip); focus rfl) | ((with_reducible apply lke_del); focus rfl) | exact lke_base rfl | exact e_cst rfl | exact x_nil | exact cl_nil | exact oi_t (by walk_at "mini d") | (show (_ : Prop); with_reducible assumption))
local macro_rules | `(tactic| walk_at "mini a") => `(tactic| first | apply e_var' | apply es_cons | apply e_tup | apply e_list | apply e_cmp | apply e_cmp2 | apply cl_cons | apply e_not | apply e_neg | apply e_bin | apply e_sub | apply e_bi | apply e_or_1 | apply e_or | apply oi_f (by walk_at "mini d") | apply e_ite | apply ei_t (by walk_at "mini d") | apply ei_f (by walk_at "mini d") | apply e_attr | apply e_append | apply e_getT | apply e_getI | apply e_call | apply e_meth | apply e_fmt | apply x_asgv | apply x_asgt | apply x_asgs | apply x_asga | apply x_expr | apply x_ret | apply x_ifs | apply xi_f (by walk_at "mini d") | apply xi_tr' (by walk_at "mini d") (by rfl) | apply xi_tn' (by walk_at "mini d") (by rfl) | apply i_range1 | apply i_range2 | apply i_val (by rfl) | with_reducible exact cop_eq_int | with_reducible exact cop_ne_int | with_reducible exact cop_lt_int | with_reducible exact cop_le_int | with_reducible exact cop_gt_int | with_reducible exact cop_ge_int | rfl | (apply decide_eq_true; lia) | (apply decide_eq_false; lia))

section
set_option autoImplicit false
namespace Mini.L3
open Mini

/-! terms of a bank -/
structure Tm where
  op : Nat
  args : List Int
  sort : Int
  data : Int
noncomputable def Tm.eqb (a b : Tm) : Bool := Nat.beq a.op b.op && (a.args == b.args && (a.sort == b.sort && a.data == b.data))
theorem Tm.eqb_iff {a b : Tm} : a.eqb b = true ↔ a = b := by
  obtain ⟨a1, a2, a3, a4⟩ := a
  obtain ⟨b1, b2, b3, b4⟩ := b
  simp [Tm.eqb, Nat.beq_eq, Tm.mk.injEq]
noncomputable def intsV (l : List Int) : List V := l.map V.int
noncomputable def key (t : Tm) : V := .tup [.str t.op, .tup (intsV t.args), .int t.sort, .int t.data]
noncomputable def find : Nat → List Tm → Tm → Nat
  | _, [], _ => 0
  | k, u :: r, t => bif u.eqb t then k else find (k+1) r t
noncomputable abbrev fd (ts : List Tm) (t : Tm) : Int := (find 1 ts t : Int)
noncomputable def put (ts : List Tm) (t : Tm) : List Tm := if find 1 ts t = 0 then ts ++ [t] else ts
noncomputable def nums : Nat → List Tm → List (V × V)
  | _, [] => []
  | k, t :: r => (key t, .int (k : Int)) :: nums (k+1) r

theorem sames_ints : ∀ l m : List Int, V.sames (intsV l) (intsV m) = (l == m)
  | [], [] => rfl
  | [], _ :: _ => rfl
  | _ :: _, [] => rfl
  | a :: l, b :: m => by
    show (V.same (.int a) (.int b) && V.sames (intsV l) (intsV m)) = _
    rw [sames_ints l m, V.same, List.cons_beq_cons]; rfl
theorem same_key (u t : Tm) : V.same (key u) (key t) = u.eqb t := by
  show ((u.op == t.op) && (V.sames (intsV u.args) (intsV t.args) && ((u.sort == t.sort) && ((u.data == t.data) && true)))) = _
  rw [sames_ints, Bool.and_true]
  rw [show (u.op == t.op) = Nat.beq u.op t.op by rw [Bool.eq_iff_iff]; simp [Nat.beq_eq]]
  rfl
theorem keys_ints : ∀ (n : Nat) (l : List Int), V.keys n (intsV l) = true
  | _, [] => by simp [intsV, V.keys]
  | n, a :: l => by
    have := keys_ints n l
    simp only [intsV, List.map_cons, V.keys, V.key, Bool.true_and] at *
    exact this
theorem key_isKey (t : Tm) : (key t).isKey = true := by
  simp only [key, V.isKey, V.keys, V.key, keys_ints, Bool.and_true, Bool.true_and]
theorem getT_nums : ∀ (k : Nat) (ts : List Tm) (t : Tm), getT (nums (k+1) ts) (key t) = if find (k+1) ts t = 0 then none else some (.int (find (k+1) ts t))
  | k, [], t => rfl
  | k, u :: r, t => by
    show (bif V.same (key u) (key t) then _ else _) = _
    rw [same_key, getT_nums (k+1) r t]
    rcases Bool.eq_false_or_eq_true (u.eqb t) with e | e
    · rw [show find (k+1) (u :: r) t = k + 1 by simp only [find, e, cond_true], e]; simp
    · rw [show find (k+1) (u :: r) t = find (k+1+1) r t by simp only [find, e, cond_false], e]; rfl
theorem getD_nums (ts : List Tm) (t : Tm) : (getT (nums 1 ts) (key t)).getD (.int 0) = .int (fd ts t) := by
  rw [getT_nums 0 ts t]; by_cases h : find (0+1) ts t = 0
  · rw [if_pos h]; show V.int 0 = V.int ((find (0+1) ts t : Nat) : Int); rw [h]; rfl
  · rw [if_neg h]; rfl
theorem setT_nums : ∀ (k : Nat) (ts : List Tm) (t : Tm), find (k+1) ts t = 0 → setT (nums (k+1) ts) (key t) (.int ((k + 1 + ts.length : Nat) : Int)) = nums (k+1) (ts ++ [t])
  | k, [], t, _ => rfl
  | k, u :: r, t, h => by
    simp only [find] at h
    cases e : u.eqb t with
    | true => rw [e] at h; simp at h
    | false =>
      rw [e] at h
      have := setT_nums (k+1) r t h
      show (bif V.same (key u) (key t) then _ else _) = _
      rw [same_key, e]
      simp only [cond_false, List.cons_append, nums]
      rw [← this, List.length_cons]
      congr 4; (clear this e h; lia)

set_option genInjectivity false in
set_option genSizeOf false in
/-- the rest of a bank -/
structure Ext where
  names : List V
  widths : List V
  fnames : List V
  fargs : List V
  fres : List V
  bvn : List (Int × V)
noncomputable def bankAttrs : List (Nat × V) := [(544943148383632993972083, .ref 2), (139519742427658876708089715, .ref 3), (2128684173373565990246, .ref 4), (8315740999501378918, .ref 5), (139576264479274861228619110, .ref 6), (140757021683833132378583654, .int 0), (8318270967402095988, .ref 7), (2128829695872336029044, .ref 8), (545220213778855941530996, .ref 9), (544869865799501187540340, .ref 10), (32495402090329454, .ref 11), (138296318119088462031581812, .int 1), (35403857438486646280050991462, .int 2), (545182379876308767176290, .ref 12)]
noncomputable def hp (st : O) (X : Ext) (ts : List Tm) (rest : Hp) : Hp :=
  st :: .inst 7741231747428410708 bankAttrs :: .list X.names :: .list X.widths :: .list X.fnames :: .list X.fargs :: .list X.fres :: .list (.str 0 :: ts.map fun t => .str t.op) :: .list (.tup [] :: ts.map fun t => .tup (intsV t.args)) ::
  .list (.int 0 :: ts.map fun t => .int t.sort) :: .list (.int 0 :: ts.map fun t => .int t.data) :: .dT (nums 1 ts) :: .dI X.bvn :: rest

/-- the term of a number -/
noncomputable def At (ts : List Tm) (i : Int) (t : Tm) : Prop := 1 ≤ i ∧ i ≤ 1000 ∧ ts[i.toNat - 1]? = some t
theorem At.get {α : Type} {f : Tm → α} {a : α} {ts : List Tm} {i : Int} {t : Tm} (h : At ts i t) : (a :: ts.map f)[i.toNat]? = some (f t) := by
  refine x0a3 h fun h1 h2 h3 => ?_
  obtain ⟨j, rfl⟩ : ∃ j : Nat, i = ((j + 1 : Nat) : Int) := ⟨i.toNat - 1, by (clear h3 h2; lia)⟩
  simp only [Int.toNat_natCast, Nat.add_sub_cancel] at h3
  rw [Int.toNat_natCast, List.getElem?_cons_succ, List.getElem?_map, h3]; rfl
theorem At.sub {f : Tm → V} {a : V} {ts : List Tm} {i : Int} {t : Tm} {H : Hp} {r : Nat} (h : At ts i t) (q : nth H r = some (.list (a :: ts.map f))) : subV H (.ref r) (.int i) = some (f t) :=
  sub_ref q (by have := h.1; (clear q; lia)) h.get (by have := h.2.1; (clear q; lia))
theorem At.append {ts us : List Tm} {i : Int} {t : Tm} (h : At ts i t) : At (ts ++ us) i t := by
  refine x0a3 h fun h1 h2 h3 => ?_
  refine ⟨h1, h2, ?_⟩
  rw [List.getElem?_append_left (by
    rcases Nat.lt_or_ge (i.toNat - 1) ts.length with q | q
    · exact q
    · rw [List.getElem?_eq_none q] at h3; cases h3), h3]
theorem At.put {ts : List Tm} {i : Int} {t u : Tm} (h : At ts i t) : At (put ts u) i t := by
  unfold L3.put; split
  · exact h.append
  · exact h
end Mini.L3
end
section
set_option autoImplicit false
set_option maxRecDepth 10000
namespace Mini.L3
open Mini

theorem find_append_new : ∀ (k : Nat) (ts : List Tm) (t : Tm), find (k+1) ts t = 0 → find (k+1) (ts ++ [t]) t = k + 1 + ts.length
  | k, [], t, _ => by
    have : t.eqb t = true := Tm.eqb_iff.2 rfl
    simp only [find, List.nil_append, this, cond_true, List.length_nil]; try lia
  | k, u :: r, t, h => by
    rcases Bool.eq_false_or_eq_true (u.eqb t) with e | e
    · simp only [find, e, cond_true] at h; (clear e; lia)
    · simp only [find, e, cond_false, List.cons_append] at *
      rw [find_append_new (k+1) r t h, List.length_cons]; (clear h; lia)
theorem fd_put (ts : List Tm) (t : Tm) (h : find 1 ts t = 0) : fd (put ts t) t = (ts.length : Int) + 1 := by
  unfold fd put; rw [if_pos h, find_append_new 0 ts t h]; (clear h; lia)
theorem okLen_of {n : Nat} (h : n ≤ 1001) : okLen n = true := by
  unfold okLen cap; exact Nat.ble_eq_true_of_le (by lia)
theorem nums_length : ∀ (k : Nat) (ts : List Tm), (nums k ts).length = ts.length
  | _, [] => rfl
  | k, t :: ts => by rw [nums, List.length_cons, nums_length, List.length_cons]

section
variable {n : Nat} {st : O} {X : Ext} {ts : List Tm} {rest : Hp}

theorem l_make {op : Nat} {args : List Int} {s d : Int} (hl : ts.length < 1000) : Ca P (n+12) Bank_make [.ref 1, .str op, .tup (intsV args), .int s, .int d] (hp st X ts rest) (.int (fd (put ts ⟨op, args, s, d⟩) ⟨op, args, s, d⟩)) (hp st X (put ts ⟨op, args, s, d⟩) rest) := by
  have gd : (getT (nums 1 ts) (.tup [.str op, .tup (intsV args), .int s, .int d])).getD (.int 0) = .int (fd ts ⟨op, args, s, d⟩) := getD_nums ts ⟨op, args, s, d⟩
  have kk : (V.tup [.str op, .tup (intsV args), .int s, .int d]).isKey = true := key_isKey ⟨op, args, s, d⟩
  have o1 : okLen (V.str 0 :: ts.map fun t => V.str t.op).length = true := okLen_of (by simp; (clear kk gd; lia))
  have o2 : okLen (V.tup [] :: ts.map fun t => V.tup (intsV t.args)).length = true := okLen_of (by simp; (clear o1 kk gd; lia))
  have o3 : okLen (V.int 0 :: ts.map fun t => V.int t.sort).length = true := okLen_of (by simp; (clear o2 o1 kk gd; lia))
  have o4 : okLen (V.int 0 :: ts.map fun t => V.int t.data).length = true := okLen_of (by simp; (clear o3 o2 o1 kk gd; lia))
  have o5 : okLen (nums 1 ts).length = true := okLen_of (by rw [nums_length]; (clear o4 o3 o2 o1 kk gd; lia))
  by_cases h : find 1 ts ⟨op, args, s, d⟩ = 0
  · apply c_ret'
    · rfl
    · have h' : (fd ts ⟨op, args, s, d⟩) = 0 := by unfold fd; (clear o5 o4 o3 o2 o1 kk gd hl; lia)
      have q : callBi .len [.ref 7] (hp st X ts rest) = some (.int ((ts.length : Int) + 1), hp st X ts rest) := len_ref rfl (by rw [List.length_cons, List.length_map]) (okLen_of (show ts.length + 1 ≤ 1001 by (clear h' h o5 o4 o3 o2 o1 kk gd; lia)))
      have q2 : setItemV ((((hp st X ts rest).set 7 (.list ((V.str 0 :: ts.map fun t => V.str t.op) ++ [.str op]))).set 8 (.list ((V.tup [] :: ts.map fun t => V.tup (intsV t.args)) ++ [.tup (intsV args)]))).set 9 (.list ((V.int 0 :: ts.map fun t => V.int t.sort) ++ [.int s])) |>.set 10 (.list ((V.int 0 :: ts.map fun t => V.int t.data) ++ [.int d])))
          (.ref 11) (.tup [.str op, .tup (intsV args), .int s, .int d]) (.int ((ts.length : Int) + 1)) = some (hp st X (ts ++ [⟨op, args, s, d⟩]) rest) := by
        have := setT_nums 0 ts ⟨op, args, s, d⟩ h
        simp only [key] at this
        rw [show ((0 + 1 + ts.length : Nat) : Int) = (ts.length : Int) + 1 by (clear this q h' h o5 o4 o3 o2 o1 kk gd hl; lia)] at this
        refine (setI_T (l := nums 1 ts) rfl kk o5).trans (congrArg some ?_)
        rw [this]
        simp only [hp, List.set_cons_succ, List.set_cons_zero, List.map_append, List.map_cons, List.map_nil, List.cons_append]
      (repeat' (first | walk_at "mini e" | walk_at "mini a"))
    · rw [fd_put ts _ h]
    · unfold put; rw [if_pos h]
  · have h' : (fd ts ⟨op, args, s, d⟩) ≠ 0 := by unfold fd; (clear o5 o4 o3 o2 o1 kk gd hl; lia)
    apply c_ret'
    · rfl
    · (repeat' (first | walk_at "mini e" | walk_at "mini a"))
    · unfold put; rw [if_neg h]
    · unfold put; rw [if_neg h]
end
end Mini.L3
end
section
set_option autoImplicit false
set_option maxRecDepth 10000
namespace Mini.L3
open Mini

/-- the width of a sort -/
noncomputable def Wd (X : Ext) (s w : Int) : Prop := 0 ≤ s ∧ s ≤ 1000 ∧ X.widths[s.toNat]? = some (.int w)
theorem Wd.sub {X : Ext} {s w : Int} {H : Hp} {r : Nat} (h : Wd X s w) (q : nth H r = some (.list X.widths)) : subV H (.ref r) (.int s) = some (.int w) :=
  sub_ref q h.1 h.2.2 (by have := h.2.1; (clear q; lia))

section
variable {n : Nat} {st : O} {X : Ext} {ts : List Tm} {rest : Hp}

theorem l_find {op : Nat} {args : List Int} {s d : Int} : Ca P (n+12) Bank_find_made [.ref 1, .str op, .tup (intsV args), .int s, .int d] (hp st X ts rest) (.int (fd ts ⟨op, args, s, d⟩)) (hp st X ts rest) := by
  have gd : (getT (nums 1 ts) (.tup [.str op, .tup (intsV args), .int s, .int d])).getD (.int 0) = .int (fd ts ⟨op, args, s, d⟩) := getD_nums ts ⟨op, args, s, d⟩
  have kk : (V.tup [.str op, .tup (intsV args), .int s, .int d]).isKey = true := key_isKey ⟨op, args, s, d⟩
  apply c_ret'
  · rfl
  · (repeat' (first | walk_at "mini e" | walk_at "mini a"))
  · rfl
  · rfl
theorem l_op {i : Int} {t : Tm} (h : At ts i t) : Ca P (n+12) Bank_op [.ref 1, .int i] (hp st X ts rest) (.str t.op) (hp st X ts rest) := by
  have q : subV (hp st X ts rest) (.ref 7) (.int i) = some (.str t.op) := h.sub (f := fun t => .str t.op) rfl
  apply c_ret'
  · rfl
  · (repeat' (first | walk_at "mini e" | walk_at "mini a"))
  · rfl
  · rfl
theorem l_args {i : Int} {t : Tm} (h : At ts i t) : Ca P (n+12) Bank_args [.ref 1, .int i] (hp st X ts rest) (.tup (intsV t.args)) (hp st X ts rest) := by
  have q : subV (hp st X ts rest) (.ref 8) (.int i) = some (.tup (intsV t.args)) := h.sub (f := fun t => .tup (intsV t.args)) rfl
  apply c_ret'
  · rfl
  · (repeat' (first | walk_at "mini e" | walk_at "mini a"))
  · rfl
  · rfl
theorem l_data {i : Int} {t : Tm} (h : At ts i t) : Ca P (n+12) Bank_data [.ref 1, .int i] (hp st X ts rest) (.int t.data) (hp st X ts rest) := by
  have q : subV (hp st X ts rest) (.ref 10) (.int i) = some (.int t.data) := h.sub (f := fun t => .int t.data) rfl
  apply c_ret'
  · rfl
  · (repeat' (first | walk_at "mini e" | walk_at "mini a"))
  · rfl
  · rfl
theorem sortAt {i : Int} {t : Tm} (h : At ts i t) : subV (hp st X ts rest) (.ref 9) (.int i) = some (.int t.sort) := h.sub (f := fun t => .int t.sort) rfl
theorem widthAt {s w : Int} (h : Wd X s w) : subV (hp st X ts rest) (.ref 3) (.int s) = some (.int w) := h.sub rfl
theorem l_width {i w : Int} {t : Tm} (h : At ts i t) (k : Wd X t.sort w) : Ca P (n+12) Bank_width [.ref 1, .int i] (hp st X ts rest) (.int w) (hp st X ts rest) := by
  have q1 := sortAt (st := st) (X := X) (rest := rest) h
  have q2 := widthAt (st := st) (ts := ts) (rest := rest) k
  apply c_ret'
  · rfl
  · (repeat' (first | walk_at "mini e" | walk_at "mini a"))
  · rfl
  · rfl
theorem l_size (hl : ts.length < 1000) : Ca P (n+12) Bank_size [.ref 1] (hp st X ts rest) (.int ts.length) (hp st X ts rest) := by
  have q : callBi .len [.ref 7] (hp st X ts rest) = some (.int ((ts.length : Int) + 1), hp st X ts rest) := len_ref rfl (by rw [List.length_cons, List.length_map]) (okLen_of (show ts.length + 1 ≤ 1001 by lia))
  apply c_ret'
  · rfl
  · (repeat' (first | walk_at "mini e" | walk_at "mini a"))
  · simp only [V.int.injEq]; (clear q hl; lia)
  · rfl
theorem l_want_bits {i w : Int} {t : Tm} {x : Nat} (h : At ts i t) (k : Wd X t.sort w) (hw : w ≠ 0) : Ca P (n+16) TermBank_want_bits [.ref 1, .int i, .str x] (hp st X ts rest) .none (hp st X ts rest) := by
  apply c_nxt'
  · rfl
  · (repeat' (first | walk_at "mini e" | exact l_width h k | walk_at "mini a"))
  · rfl
theorem l_want {i : Int} {t : Tm} {x : Nat} (h : At ts i t) : Ca P (n+16) Bank_want [.ref 1, .int i, .int t.sort, .str x] (hp st X ts rest) .none (hp st X ts rest) := by
  have q : (!decide (t.sort = t.sort)) = false := by simp
  apply c_nxt'
  · rfl
  · have q1 := sortAt (st := st) (X := X) (rest := rest) h
    (repeat' (first | walk_at "mini e" | walk_at "mini a"))
  · rfl
theorem l_true : Ca P (n+12) Bank_true_term [.ref 1] (hp st X ts rest) (.int 1) (hp st X ts rest) := by
  apply c_ret'
  · rfl
  · (repeat' (first | walk_at "mini e" | walk_at "mini a"))
  · rfl
  · rfl
theorem l_find_bv_sort {w : Int} : Ca P (n+12) TermBank_find_bv_sort [.ref 1, .int w] (hp st X ts rest) ((getI X.bvn w).getD (.int (-1))) (hp st X ts rest) := by
  apply c_ret'
  · rfl
  · (repeat' (first | walk_at "mini e" | apply e_getI | walk_at "mini a"))
  · rfl
  · rfl
end
end Mini.L3
end
section
set_option autoImplicit false
set_option maxRecDepth 10000
namespace Mini.L3
open Mini
/-- one more sort of bit vectors -/
noncomputable def Ext.more (X : Ext) (w : Int) (t : Nat) : Ext := { X with names := X.names ++ [.str (strCat 152949257266967150092072 (strCat t 41))], widths := X.widths ++ [.int w], bvn := setI X.bvn w (.int X.names.length) }
section
variable {n : Nat} {st : O} {X : Ext} {ts : List Tm} {rest : Hp}

theorem l_bv_sort {w s : Int} (h : getI X.bvn w = some (.int s)) (h1 : 1 ≤ w) (h2 : w ≤ 4096) : Ca P (n+16) TermBank_bv_sort [.ref 1, .int w] (hp st X ts rest) (.int s) (hp st X ts rest) := by
  have q : (!(getI X.bvn w).isSome) = false := by rw [h]; rfl
  have q2 : subV (hp st X ts rest) (.ref 12) (.int w) = some (.int s) := h
  apply c_ret'
  · rfl
  · (repeat' (first | walk_at "mini e" | walk_at "mini a"))
  · rfl
  · rfl
theorem getI_setI : ∀ (l : List (Int × V)) (i : Int) (v : V), getI (setI l i v) i = some v
  | [], i, v => by simp [setI, getI]
  | (j, u) :: r, i, v => by
    by_cases h : i = j
    · subst h; simp [setI, getI]
    · have e : (i == j) = false := by simpa using h
      simp only [setI, e, cond_false, getI, getI_setI r i v]
theorem l_bv_sort_new {w : Int} {t : Nat} (h : getI X.bvn w = none) (h1 : 1 ≤ w) (h2 : w ≤ 4096) (ht : intText w = some t) (l1 : X.names.length ≤ 100) (l2 : X.widths.length ≤ 100) (l3 : X.bvn.length ≤ 100) :
    Ca P (n+16) TermBank_bv_sort [.ref 1, .int w] (hp st X ts rest) (.int X.names.length) (hp st (X.more w t) ts rest) := by
  have q : (!(getI X.bvn w).isSome) = true := by rw [h]; rfl
  have o1 : okLen X.names.length = true := okLen_of (by (clear q l3 l2 ht h2 h1 h; lia))
  have o2 : okLen X.widths.length = true := okLen_of (by (clear o1 q l3 l1 ht h2 h1 h; lia))
  have c1 : ∀ H : Hp, nth H 2 = some (.list (X.names ++ [.str (strCat 152949257266967150092072 (strCat t 41))])) → callBi .len [.ref 2] H = some (.int (X.names.length + 1), H) := by
    exact fun H hh => len_ref hh (by rw [List.length_append]; rfl) (okLen_of (show X.names.length + 1 ≤ 1001 by (clear hh o2 o1 q l3 l2 ht h2 h1 h; lia)))
  have c2 : ∀ H : Hp, nth H 12 = some (.dI X.bvn) → setItemV H (.ref 12) (.int w) (.int (X.names.length + 1 - 1)) = some (H.set 12 (.dI (setI X.bvn w (.int X.names.length)))) := by
    intro H hh
    rw [show ((X.names.length : Int) + 1 - 1) = (X.names.length : Int) by (clear hh o2 o1 q l3 l2 l1 ht h2 h1 h; lia)]
    exact setI_I hh (okLen_of (show X.bvn.length ≤ 1001 by (clear hh o2 o1 q l2 l1 ht h2 h1 h; lia)))
  have c3 : ∀ H : Hp, nth H 12 = some (.dI (setI X.bvn w (.int X.names.length))) → subV H (.ref 12) (.int w) = some (.int X.names.length) := by
    exact fun H hh => (sub_I hh).trans (getI_setI _ _ _)
  apply c_ret'
  · rfl
  · (repeat' (first | walk_at "mini e" | exact c1 _ rfl | exact c2 _ rfl | exact c3 _ rfl | walk_at "mini a"))
  · rfl
  · rfl
theorem l_bv_num {v w s : Int} (hl : ts.length < 1000) (h : getI X.bvn w = some (.int s)) (h1 : 1 ≤ w) (h2 : w ≤ 1000) : Ca P (n+22) TermBank_bv_num [.ref 1, .int v, .int w] (hp st X ts rest)
    (.int (fd (put ts ⟨470121608802, [], s, Int.fmod v (2 ^ w.toNat)⟩) ⟨470121608802, [], s, Int.fmod v (2 ^ w.toNat)⟩)) (hp st X (put ts ⟨470121608802, [], s, Int.fmod v (2 ^ w.toNat)⟩) rest) := by
  have b1 : binV .shl (.int 1) (.int w) = some (.int (2 ^ w.toNat)) := b_shl1 (by (clear h2 h hl; lia)) h2
  have b2 : binV .mod (.int v) (.int (2 ^ w.toNat)) = some (.int (Int.fmod v (2 ^ w.toNat))) := by
    have : (2 : Int) ^ w.toNat ≠ 0 := Int.ne_of_gt (Int.pow_pos (by decide))
    exact b_mod this
  have S := l_bv_sort (n := n+4) (st := st) (ts := ts) (rest := rest) h h1 (by (clear b2 b1 h1 h hl; lia))
  have M := l_make (n := n+8) (op := 470121608802) (args := []) (s := s) (d := Int.fmod v (2 ^ w.toNat)) (st := st) (X := X) (rest := rest) hl
  apply c_ret'
  · rfl
  · (repeat' (first | walk_at "mini e" | exact S | exact M | with_reducible exact b1 | with_reducible exact b2 | walk_at "mini a"))
  · rfl
  · rfl
theorem l_bv_two {op : Nat} {a b w : Int} {ta tb : Tm} (hl : ts.length < 1000) (ha : At ts a ta) (hb : At ts b tb) (hs : tb.sort = ta.sort) (hw : Wd X ta.sort w) (w0 : w ≠ 0) (hop : cop .isin (hp st X ts rest) (.str op) (.tup [.str 431348610658, .str 1919907426, .str 491496437346, .str 431180838498, .str 422877296226, .str 465826575970, .str 465608865378, .str 125792938653282, .str 130195029063266, .str 120282479425122]) = some true) :
    Ca P (n+22) TermBank_bv_two [.ref 1, .str op, .int a, .int b] (hp st X ts rest) (.int (fd (put ts ⟨op, [a, b], ta.sort, 0⟩) ⟨op, [a, b], ta.sort, 0⟩)) (hp st X (put ts ⟨op, [a, b], ta.sort, 0⟩) rest) := by
  have qs := sortAt (st := st) (X := X) (rest := rest) ha
  have W := l_want (n := n+4) (x := op) (st := st) (X := X) (rest := rest) hb
  rw [hs] at W
  apply c_ret'
  · rfl
  · (repeat' (first | walk_at "mini e" | exact l_want_bits ha hw w0 | exact W | exact l_make (args := [a, b]) hl | walk_at "mini a"))
  · rfl
  · rfl
theorem l_bv_ask {op : Nat} {a b w : Int} {ta tb : Tm} (hl : ts.length < 1000) (ha : At ts a ta) (hb : At ts b tb) (hs : tb.sort = ta.sort) (hw : Wd X ta.sort w) (w0 : w ≠ 0) (hop : cop .isin (hp st X ts rest) (.str op) (.tup [.str 431348610658, .str 1919907426, .str 491496437346, .str 431180838498, .str 422877296226, .str 465826575970, .str 465608865378, .str 125792938653282, .str 130195029063266, .str 120282479425122]) = some false)
    (hop2 : cop .isin (hp st X ts rest) (.str op) (.tup [.str 500035843682, .str 435611334242, .str 500035712610, .str 435611203170]) = some true) :
    Ca P (n+22) TermBank_bv_two [.ref 1, .str op, .int a, .int b] (hp st X ts rest) (.int (fd (put ts ⟨op, [a, b], 0, 0⟩) ⟨op, [a, b], 0, 0⟩)) (hp st X (put ts ⟨op, [a, b], 0, 0⟩) rest) := by
  have qs := sortAt (st := st) (X := X) (rest := rest) ha
  have W := l_want (n := n+4) (x := op) (st := st) (X := X) (rest := rest) hb
  rw [hs] at W
  apply c_ret'
  · rfl
  · (repeat' (first | walk_at "mini e" | exact l_want_bits ha hw w0 | exact W | exact l_make (args := [a, b]) hl | walk_at "mini a"))
  · rfl
  · rfl
theorem l_zero_extend {many t w s : Int} {tt : Tm} (hl : ts.length < 1000) (ha : At ts t tt) (hw : Wd X tt.sort w) (w0 : 1 ≤ w) (m0 : 1 ≤ many) (hm : w + many ≤ 4096) (h : getI X.bvn (w + many) = some (.int s)) :
    Ca P (n+24) TermBank_zero_extend [.ref 1, .int many, .int t] (hp st X ts rest) (.int (fd (put ts ⟨121413913788299389279823226, [t], s, many⟩) ⟨121413913788299389279823226, [t], s, many⟩)) (hp st X (put ts ⟨121413913788299389279823226, [t], s, many⟩) rest) := by
  apply c_ret'
  · rfl
  · (repeat' (first | walk_at "mini e" | exact l_want_bits ha hw (by (clear h hm m0 hl; lia)) | exact l_width ha hw | exact l_bv_sort h (by (clear h hm hl; lia)) hm | exact l_make (args := [t]) hl | walk_at "mini a"))
  · rfl
  · rfl
theorem l_zero_extend_new {many t w : Int} {x : Nat} {tt : Tm} (hl : ts.length < 1000) (ha : At ts t tt) (hw : Wd X tt.sort w) (w0 : 1 ≤ w) (m0 : 1 ≤ many) (hm : w + many ≤ 4096) (h : getI X.bvn (w + many) = none) (ht : intText (w + many) = some x) (l1 : X.names.length ≤ 100) (l2 : X.widths.length ≤ 100) (l3 : X.bvn.length ≤ 100) :
    Ca P (n+24) TermBank_zero_extend [.ref 1, .int many, .int t] (hp st X ts rest) (.int (fd (put ts ⟨121413913788299389279823226, [t], X.names.length, many⟩) ⟨121413913788299389279823226, [t], X.names.length, many⟩))
      (hp st (X.more (w + many) x) (put ts ⟨121413913788299389279823226, [t], X.names.length, many⟩) rest) := by
  apply c_ret'
  · rfl
  · (repeat' (first | walk_at "mini e" | exact l_want_bits ha hw (by (clear l3 l2 l1 ht h hm m0 hl; lia)) | exact l_width ha hw | exact l_bv_sort_new h (by (clear l3 l2 l1 ht h hm hl; lia)) hm ht l1 l2 l3 | exact l_make (args := [t]) hl | walk_at "mini a"))
  · rfl
  · rfl
theorem l_eq {a b : Int} {ta tb : Tm} (hl : ts.length < 1000) (ha : At ts a ta) (hb : At ts b tb) (hs : tb.sort = ta.sort) (ne : a ≠ b) :
    Ca P (n+22) BoolBank_eq [.ref 1, .int a, .int b] (hp st X ts rest) (.int (fd (put ts ⟨61, [if b < a then b else a, if a < b then b else a], 0, 0⟩) ⟨61, [if b < a then b else a, if a < b then b else a], 0, 0⟩)) (hp st X (put ts ⟨61, [if b < a then b else a, if a < b then b else a], 0, 0⟩) rest) := by
  have qs := sortAt (st := st) (X := X) (rest := rest) ha
  have W := l_want (n := n+4) (x := 61) (st := st) (X := X) (rest := rest) hb
  rw [hs] at W
  apply c_ret'
  · rfl
  · (repeat' (first | walk_at "mini e" | exact W | exact l_make (args := [if b < a then b else a, if a < b then b else a]) hl | walk_at "mini a"))
  · rfl
  · rfl
theorem l_eq_same {a : Int} {ta : Tm} (ha : At ts a ta) : Ca P (n+22) BoolBank_eq [.ref 1, .int a, .int a] (hp st X ts rest) (.int 1) (hp st X ts rest) := by
  have qs := sortAt (st := st) (X := X) (rest := rest) ha
  have W := l_want (n := n+4) (x := 61) (st := st) (X := X) (rest := rest) ha
  apply c_ret'
  · rfl
  · (repeat' (first | walk_at "mini e" | exact W | walk_at "mini a"))
  · rfl
  · rfl
end
end Mini.L3
end
section
set_option autoImplicit false
set_option maxRecDepth 10000
namespace Mini.L3
open Mini

theorem dep_ints : ∀ (l : List Int), V.deps (intsV l) = some 0
  | [] => by simp [intsV, V.deps]
  | a :: l => by
    have := dep_ints l
    simp only [intsV, List.map_cons, V.deps, V.dep] at *
    rw [this]; rfl
theorem flats_ints : ∀ (l : List Int), V.flats (intsV l) = true
  | [] => rfl
  | a :: l => by
    show (V.flat (.int a) && V.flats (intsV l)) = true
    rw [flats_ints l]; simp [V.flat, V.dep]
theorem flat_int {a : Int} : V.flat (.int a) = true := by simp [V.flat, V.dep]
theorem any_ints (a : Int) : ∀ (l : List Int), (intsV l).any (fun y => V.beq y (.int a)) = decide (a ∈ l)
  | [] => rfl
  | b :: l => by
    show ((b == a) || (intsV l).any fun y => V.beq y (.int a)) = _
    rw [any_ints a l, Bool.eq_iff_iff]
    simp only [Bool.or_eq_true, beq_iff_eq, decide_eq_true_eq, List.mem_cons]
    constructor
    · rintro (h | h); exact .inl h.symm; exact .inr h
    · rintro (h | h); exact .inl h.symm; exact .inr h
theorem cop_in_ints {H : Hp} {a : Int} {l : List Int} : cop .isin H (.int a) (.tup (intsV l)) = some (decide (a ∈ l)) := by
  show (bif V.flats (intsV l) then some ((intsV l).any fun y => V.beq y (.int a)) else none) = _
  rw [flats_ints, any_ints]; rfl

section
variable {n : Nat} {st : O} {X : Ext} {ts : List Tm} {rest : Hp}

theorem l_bit {i t w : Int} {tt : Tm} (hl : ts.length < 1000) (ha : At ts t tt) (hw : Wd X tt.sort w) (i0 : 0 ≤ i) (i1 : i < w) :
    Ca P (n+22) TermBank_bit [.ref 1, .int i, .int t] (hp st X ts rest) (.int (fd (put ts ⟨7629154, [t], 0, i⟩) ⟨7629154, [t], 0, i⟩)) (hp st X (put ts ⟨7629154, [t], 0, i⟩) rest) := by
  have c : (!decide (i < w)) = false := by simp only [i1, decide_true, Bool.not_true]
  apply c_ret'
  · rfl
  · (repeat' (first | walk_at "mini e" | exact l_want_bits ha hw (by (clear c hl; lia)) | exact l_width ha hw | exact l_make (args := [t]) hl | walk_at "mini a"))
  · rfl
  · rfl

/-- a judge -/
noncomputable def jd (rest : Hp) : Hp := .inst 7306919375355013442 [(1802396002, .ref 1), (126879447277940, .ref 14)] :: .dT [] :: rest
noncomputable def bo (ts : List Tm) (i t : Int) : Int := if t = 0 then 0 else fd ts ⟨7629154, [t], 0, i⟩
noncomputable def mk (ts : List Tm) (s : Option Int) (op : Nat) (some : List Int) (d : Int) : Int := match s with
  | none => 0
  | Option.some s => if 0 ∈ some then 0 else fd ts ⟨op, some, s, d⟩
theorem l_bit_of {i t : Int} : Ca P (n+16) BitJudge_bit_of [.ref 13, .int i, .int t] (hp st X ts (jd rest)) (.int (bo ts i t)) (hp st X ts (jd rest)) := by
  by_cases h : t = 0
  · have c : (!decide (t = 0)) = false := by rw [h]; rfl
    apply c_ret'
    · rfl
    · (repeat' (first | walk_at "mini e" | walk_at "mini a"))
    · unfold bo; rw [if_pos h]
    · rfl
  · have c : (!decide (t = 0)) = true := by rw [decide_eq_false h]; rfl
    apply c_ret'
    · rfl
    · (repeat' (first | walk_at "mini e" | exact l_find (args := [t]) | walk_at "mini a"))
    · unfold bo; rw [if_neg h]
    · rfl
theorem l_made {s : Option Int} {w d : Int} {op : Nat} {some : List Int} (h : getI X.bvn w = s.map V.int) (hs : ∀ k, s = Option.some k → 0 ≤ k) : Ca P (n+18) BitJudge_made [.ref 13, .str op, .tup (intsV some), .int w, .int d] (hp st X ts (jd rest)) (.int (mk ts s op some d)) (hp st X ts (jd rest)) := by
  have F := l_find_bv_sort (n := n+4) (w := w) (st := st) (X := X) (ts := ts) (rest := jd rest)
  induction s using Option.casesOn with
  | none =>
    rw [show (getI X.bvn w).getD (.int (-1)) = .int (-1) by rw [h]; rfl] at F
    apply c_ret'
    · rfl
    · (repeat' (first | walk_at "mini e" | walk_at "mini a"))
    · rfl
    · rfl
  | some k =>
    have hk := hs k rfl
    rw [show (getI X.bvn w).getD (.int (-1)) = .int k by rw [h]; rfl] at F
    by_cases z : (0 : Int) ∈ some
    · apply c_ret'
      · rfl
      · (repeat' (first | walk_at "mini e" | with_reducible exact cop_in_ints | walk_at "mini a"))
      · show _ = V.int (if _ then _ else _); rw [if_pos z]
      · rfl
    · apply c_ret'
      · rfl
      · (repeat' (first | walk_at "mini e" | with_reducible exact cop_in_ints | exact l_find | walk_at "mini a"))
      · show _ = V.int (if _ then _ else _); rw [if_neg z]
      · rfl
end
end Mini.L3
end
section
set_option autoImplicit false
set_option maxRecDepth 10000
set_option maxHeartbeats 4000000
namespace Mini.L3
open Mini

noncomputable def linesV (l : List (List Int)) : V := .lst (l.map fun line => .lst (intsV line))
noncomputable def zeroOf (ts : List Tm) (s : Int) : Int := mk ts (some s) 470121608802 [] 0
noncomputable def zOf (ts : List Tm) (s y : Int) : Int := if y = zeroOf ts s then 1 else fd ts ⟨61, [if zeroOf ts s < y then zeroOf ts s else y, if y < zeroOf ts s then zeroOf ts s else y], 0, 0⟩
noncomputable def wOf (ts : List Tm) (s2 : Option Int) (w t : Int) : Int := mk ts s2 121413913788299389279823226 [t] w
noncomputable def dl1 (z one other : Int) : List (List Int) := [[z, -one, other], [z, one, -other]]
noncomputable def dl3 (z a b c : Int) : List (List Int) := [[-z, a], [-z, -b, c], [-z, b, -c]]
/-- the lines of a place -/
noncomputable def dl (ts : List Tm) (s : Int) (s2 : Option Int) (x y w i : Int) : List (List Int) :=
  if i = 2 * w then [[zOf ts s y, fd ts ⟨500035843682, [mk ts (some s) 120282479425122 [x, y] 0, y], 0, 0⟩]]
  else if 2 * w < i then dl3 (zOf ts s y) (bo ts (i - 2 * w - 1) (mk ts (some s) 130195029063266 [x, y] 0)) (bo ts (i - 2 * w - 1) (mk ts (some s) 120282479425122 [x, y] 0)) (bo ts (i - 2 * w - 1) x)
  else dl1 (zOf ts s y)
    (bo ts i (mk ts s2 431180838498 [mk ts s2 465826575970 [wOf ts s2 w (mk ts (some s) 130195029063266 [x, y] 0), wOf ts s2 w y] 0, wOf ts s2 w (mk ts (some s) 120282479425122 [x, y] 0)] 0))
    (bo ts i (wOf ts s2 w x))

section
variable {n : Nat} {st : O} {X : Ext} {ts : List Tm} {rest : Hp}

theorem l_division_lines {t x y w s d i : Int} {op : Nat} {s2 : Option Int} (ha : At ts t ⟨op, [x, y], s, d⟩) (hw : Wd X s w) (h1 : getI X.bvn w = some (.int s)) (hs : 0 ≤ s) (h2 : getI X.bvn (2 * w) = s2.map V.int) (hs2 : ∀ k, s2 = some k → 0 ≤ k) (w1 : 1 ≤ w) (w2 : w ≤ 100) :
    Ca P (n+34) BitJudge_division_lines [.ref 13, .int t, .int i] (hp st X ts (jd rest)) (linesV (dl ts s s2 x y w i)) (hp st X ts (jd rest)) := by
  have hs1 : ∀ k, some s = some k → 0 ≤ k := fun k e => by cases e; exact hs
  have b1 : binV .mul (.int 2) (.int w) = some (.int (2 * w)) := rfl
  have A : ∀ m, Ca P (m+12) Bank_args [.ref 1, .int t] (hp st X ts (jd rest)) (.tup [.int x, .int y]) (hp st X ts (jd rest)) := fun m => l_args ha
  have W : ∀ m, Ca P (m+12) Bank_width [.ref 1, .int t] (hp st X ts (jd rest)) (.int w) (hp st X ts (jd rest)) := fun m => l_width ha hw
  have M1 : ∀ m op l d, Ca P (m+18) BitJudge_made [.ref 13, .str op, .tup (intsV l), .int w, .int d] (hp st X ts (jd rest)) (.int (mk ts (some s) op l d)) (hp st X ts (jd rest)) := fun m op l d => l_made (s := some s) h1 hs1
  have M2 : ∀ m op l d, Ca P (m+18) BitJudge_made [.ref 13, .str op, .tup (intsV l), .int (2 * w), .int d] (hp st X ts (jd rest)) (.int (mk ts s2 op l d)) (hp st X ts (jd rest)) := fun m op l d => l_made h2 hs2
  by_cases z : y = zeroOf ts s
  · have z1 : y = mk ts (some s) 470121608802 [] 0 := z
    by_cases i1 : i = 2 * w
    · apply c_ret'
      · rfl
      · (repeat' (first | walk_at "mini e" | exact A _ | exact W _ | exact M1 _ _ [] _ | exact M1 _ _ [_, _] _ | exact l_find (args := [_, _]) | exact l_true | walk_at "mini a"))
      · unfold dl; rw [if_pos i1]; unfold zOf; rw [if_pos z]; rfl
      · rfl
    · by_cases i2 : 2 * w < i
      · apply c_ret'
        · rfl
        · (repeat' (first | walk_at "mini e" | exact A _ | exact W _ | exact M1 _ _ [] _ | exact M1 _ _ [_, _] _ | exact l_find (args := [_, _]) | exact l_true | exact l_bit_of | apply e_comp1 | walk_at "mini a"))
        · unfold dl; rw [if_neg i1, if_pos i2]; unfold zOf; rw [if_pos z]; rfl
        · rfl
      · apply c_ret'
        · rfl
        · (repeat' (first | walk_at "mini e" | exact A _ | exact W _ | exact M1 _ _ [] _ | exact M2 _ _ [_] _ | exact M1 _ _ [_, _] _ | exact M2 _ _ [_, _] _ | exact l_find (args := [_, _]) | exact l_true | exact l_bit_of | apply e_comp1 | walk_at "mini a"))
        · unfold dl; rw [if_neg i1, if_neg i2]; unfold zOf; rw [if_pos z]; rfl
        · rfl
  · have z1 : ¬ y = mk ts (some s) 470121608802 [] 0 := z
    by_cases i1 : i = 2 * w
    · apply c_ret'
      · rfl
      · (repeat' (first | walk_at "mini e" | exact A _ | exact W _ | exact M1 _ _ [] _ | exact M1 _ _ [_, _] _ | exact l_find (args := [_, _]) | exact l_true | walk_at "mini a"))
      · unfold dl; rw [if_pos i1]; unfold zOf; rw [if_neg z]; rfl
      · rfl
    · by_cases i2 : 2 * w < i
      · apply c_ret'
        · rfl
        · (repeat' (first | walk_at "mini e" | exact A _ | exact W _ | exact M1 _ _ [] _ | exact M1 _ _ [_, _] _ | exact l_find (args := [_, _]) | exact l_true | exact l_bit_of | apply e_comp1 | walk_at "mini a"))
        · unfold dl; rw [if_neg i1, if_pos i2]; unfold zOf; rw [if_neg z]; rfl
        · rfl
      · apply c_ret'
        · rfl
        · (repeat' (first | walk_at "mini e" | exact A _ | exact W _ | exact M1 _ _ [] _ | exact M2 _ _ [_] _ | exact M1 _ _ [_, _] _ | exact M2 _ _ [_, _] _ | exact l_find (args := [_, _]) | exact l_true | exact l_bit_of | apply e_comp1 | walk_at "mini a"))
        · unfold dl; rw [if_neg i1, if_neg i2]; unfold zOf; rw [if_neg z]; rfl
        · rfl
end
end Mini.L3
end
section
set_option autoImplicit false
set_option maxRecDepth 10000
set_option maxHeartbeats 1000000
namespace Mini.L3
open Mini

/-! draws -/
noncomputable def stk (cells : List Int) (t : Int) : O := .dS [(495740282211, .lst (intsV cells)), (1852994932, .int t)]

section
variable {X : Ext} {ts : List Tm} {rest : Hp}
theorem l_draw {cells : List Int} {t wide : Int} (hc : cells.length ≤ 30) (t0 : 0 ≤ t) (t1 : t ≤ 1000) (hw : 0 < wide) :
    ∃ v : Int, 0 ≤ v ∧ v < wide ∧ ∀ n X ts rest, Ca P (n+16) law_draw [.ref 0, .int wide] (hp (stk cells t) X ts rest) (.int v) (hp (stk cells (t+1)) X ts rest) := by
  have hl' : ∀ H, callBi .len [.lst (intsV cells)] H = some (.int cells.length, H) := fun H => len_lst (by rw [intsV, List.length_map]) (okLen_of (show cells.length ≤ 1001 by (clear hw t1 t0; lia)))
  have w0 : wide ≠ 0 := by (clear t1 t0 hc; lia)
  by_cases h : t < cells.length
  · obtain ⟨j, rfl⟩ : ∃ j : Nat, t = (j : Int) := ⟨t.toNat, by (clear h w0 hw t1 hc; lia)⟩
    have hj : j < cells.length := by (clear t1 t0 w0 hw hc; lia)
    have g : ∀ H, subV H (.lst (intsV cells)) (.int j) = some (.int cells[j]) := fun H => Mini.sub_lst t0 (by rw [Int.toNat_natCast, intsV, List.getElem?_map, List.getElem?_eq_getElem hj]; rfl) (by (clear hj h t0 w0 hw hc; lia))
    refine ⟨Int.fmod cells[j] wide, Int.fmod_nonneg_of_pos _ hw, Int.fmod_lt_of_pos _ hw, fun n X ts rest => ?_⟩
    apply c_ret'
    · rfl
    · (repeat' (first | walk_at "mini e" | with_reducible exact hl' _ | with_reducible exact g _ | with_reducible exact b_mod w0 | walk_at "mini a"))
    · rfl
    · rfl
  · refine ⟨Int.fmod (Int.fmod (3 * t * t + 5 * t + 1) 71) wide, Int.fmod_nonneg_of_pos _ hw, Int.fmod_lt_of_pos _ hw, fun n X ts rest => ?_⟩
    apply c_ret'
    · rfl
    · (repeat' (first | walk_at "mini e" | with_reducible exact hl' _ | with_reducible exact b_mod w0 | with_reducible exact b_mod (by decide) | with_reducible exact b_mul (by (clear h w0 hw hc; lia)) | walk_at "mini a"))
    · rfl
    · rfl
end
end Mini.L3
end
section
set_option autoImplicit false
set_option maxRecDepth 10000
set_option maxHeartbeats 1000000
namespace Mini.L3
open Mini

theorem whl_t {R : Sems} {c : E} {b : List S} {d : Bool} {n : Nat} {ρ ρ1 : Lo} {H H1 H2 : Hp} {r : Option (Fl × Lo × Hp)} (h : R.ev c ρ H = some (.bool d, H1)) (q : d = true) (g : R.exs b ρ H1 = some (.nxt, ρ1, H2)) (k : exWhl R c b n ρ1 H2 = r) : exWhl R c b (n+1) ρ H = r := by
  exact bnd h (btt q (bnd g k))
theorem whl_f {R : Sems} {c : E} {b : List S} {d : Bool} {n : Nat} {ρ : Lo} {H H1 : Hp} (h : R.ev c ρ H = some (.bool d, H1)) (q : d = false) : exWhl R c b (n+1) ρ H = some (.nxt, ρ, H1) := by
  exact bnd h (bff q rfl)

noncomputable def dueS (a b w : Int) : Int × Int := if b = 0 then (2 ^ w.toNat - 1, a) else (a / b, a % b)
noncomputable def pairV (p : Int × Int) : V := .tup [.int p.1, .int p.2]
theorem due_loop {n : Nat} {H : Hp} {b w : Int} (hb : 0 < b) : ∀ (q : Nat) (a m : Int) (f : Nat), 0 ≤ a → a < (q + 1) * b → q < f →
    exWhl (sem P (n+8)) (.cmp (.var 97) [.ge] [.var 98]) [.asg (.tup [97, 2037277037]) (.tup [.bin .sub (.var 97) (.var 98), .bin .add (.var 2037277037) (.num 1)])] f [(97, .int a), (98, .int b), (119, .int w), (2037277037, .int m)] H
      = some (.nxt, [(97, .int (a % b)), (98, .int b), (119, .int w), (2037277037, .int (m + a / b))], H)
  | q, a, m, f+1, h0, h1, h2 => by
    by_cases h : b ≤ a
    · have T : Ev P (n+8) (.cmp (.var 97) [.ge] [.var 98]) [(97, .int a), (98, .int b), (119, .int w), (2037277037, .int m)] H (.bool (decide (b ≤ a))) H := by (repeat' (first | walk_at "mini e" | walk_at "mini a"))
      have B : Xs P (n+8) [.asg (.tup [97, 2037277037]) (.tup [.bin .sub (.var 97) (.var 98), .bin .add (.var 2037277037) (.num 1)])] [(97, .int a), (98, .int b), (119, .int w), (2037277037, .int m)] H .nxt [(97, .int (a - b)), (98, .int b), (119, .int w), (2037277037, .int (m + 1))] H := by (repeat' (first | walk_at "mini e" | walk_at "mini a"))
      refine whl_t T.h (decide_eq_true h) B.h ?_
      induction q using Nat.casesAuxOn with
      | zero => exfalso; rw [show ((0 : Nat) : Int) + 1 = 1 from rfl, Int.one_mul] at h1; (clear h2 h0 hb; lia)
      | succ q =>
        have e := due_loop (n := n) (H := H) (w := w) hb q (a - b) (m + 1) f (by (clear h2 h1 h0 hb; lia)) (by
          have : ((q + 1 : Nat) : Int) + 1 = ((q : Int) + 1) + 1 := by (clear h2 h1 h h0 hb; lia)
          rw [this, Int.add_mul, Int.one_mul] at h1; (clear this h2 h h0 hb; lia)) (by (clear h1 h h0 hb; lia))
        rw [e]
        have d1 : a / b = (a - b) / b + 1 := by
          have := Int.add_mul_ediv_right (a - b) 1 (show b ≠ 0 by (clear e h2 h1 h h0; lia))
          rw [Int.one_mul, show a - b + b = a by (clear this e h2 h1 h h0 hb; lia)] at this; exact this
        have d2 : a % b = (a - b) % b := by rw [Int.sub_emod, Int.emod_self, Int.sub_zero, Int.emod_emod]
        rw [d1, d2, show m + 1 + (a - b) / b = m + ((a - b) / b + 1) by (clear d2 d1 e h2 h1 h h0 hb; lia)]
    · have T : Ev P (n+8) (.cmp (.var 97) [.ge] [.var 98]) [(97, .int a), (98, .int b), (119, .int w), (2037277037, .int m)] H (.bool (decide (b ≤ a))) H := by (repeat' (first | walk_at "mini e" | walk_at "mini a"))
      rw [whl_f T.h (decide_eq_false h), Int.emod_eq_of_lt h0 (by (clear h2 h1 h0 hb; lia)), Int.ediv_eq_zero_of_lt h0 (by (clear h2 h1 h0 hb; lia)), Int.add_zero]
theorem l_due {n : Nat} {H : Hp} {a b w : Int} (h0 : 0 ≤ a) (h1 : a ≤ 1000) (h2 : 0 ≤ b) (w0 : 0 ≤ w) (w1 : w ≤ 10) : Ca P (n+16) law_due [.int a, .int b, .int w] H (pairV (dueS a b w)) H := by
  by_cases h : b = 0
  · apply c_ret'
    · rfl
    · (repeat' (first | walk_at "mini e" | with_reducible exact b_pow (by decide) w0 (by (clear h w0 h2 h1 h0; lia)) | walk_at "mini a"))
    · unfold dueS; rw [if_pos h]; rfl
    · rfl
  · have L := due_loop (n := n+7) (H := H) (w := w) (show 0 < b by (clear w1 w0 h1 h0; lia)) a.toNat a 0 turns h0 (by
      have e : ((a.toNat : Int) + 1) * b = (a.toNat : Int) * b + b := by rw [Int.add_mul, Int.one_mul]
      have : (a.toNat : Int) * 1 ≤ (a.toNat : Int) * b := Int.mul_le_mul_of_nonneg_left (by (clear e w1 w0 h1 h0; lia)) (by (clear e h w1 w0 h2 h1 h0; lia))
      (clear w1 w0 h1 h0; lia)) (by show a.toNat < 100000; (clear h w1 w0 h2 h0; lia))
    apply c_ret'
    · rfl
    · (repeat' (first | walk_at "mini e" | apply x_whl L | walk_at "mini a"))
    · unfold dueS; rw [if_neg h, Int.zero_add]; rfl
    · rfl
end Mini.L3
end
section
set_option autoImplicit false
set_option maxRecDepth 10000
set_option maxHeartbeats 1000000
namespace Mini.L3
open Mini

noncomputable def Nm (H : Hp) (r : Nat) (t v : Int) (m : Nat) : Prop := ∀ n, Ca P (n+m) law_number [.ref 1, .int t, .ref r] H (.int v) H
theorem Nm.le {H : Hp} {r : Nat} {t v : Int} {m k : Nat} (h : Nm H r t v m) (l : m ≤ k) : Nm H r t v k := fun n => by
  have := h (n + (k - m))
  rwa [show n + (k - m) + m = n + k by lia] at this
theorem c_in {H : Hp} {r : Nat} {kn : List (Int × V)} {t : Int} (h : nth H r = some (.dI kn)) : cop .isin H (.int t) (.ref r) = some (getI kn t).isSome := bnd h rfl
theorem s_in {H : Hp} {r : Nat} {kn : List (Int × V)} {t : Int} (h : nth H r = some (.dI kn)) : subV H (.ref r) (.int t) = getI kn t := sub_I h
section
variable {st : O} {X : Ext} {ts : List Tm} {rest : Hp} {r : Nat} {kn : List (Int × V)}
theorem nm_known {t v : Int} (hk : nth (hp st X ts rest) r = some (.dI kn)) (g : getI kn t = some (.int v)) : Nm (hp st X ts rest) r t v 20 := fun n => by
  have c : cop .isin (hp st X ts rest) (.int t) (.ref r) = some true := by rw [c_in hk, g]; rfl
  have s : subV (hp st X ts rest) (.ref r) (.int t) = some (.int v) := by rw [s_in hk, g]
  apply c_ret'
  · rfl
  · (repeat' (first | walk_at "mini e" | walk_at "mini a"))
  · rfl
  · rfl
theorem nm_num {t s d : Int} (hk : nth (hp st X ts rest) r = some (.dI kn)) (g : getI kn t = none) (ha : At ts t ⟨470121608802, [], s, d⟩) : Nm (hp st X ts rest) r t d 20 := fun n => by
  have c : cop .isin (hp st X ts rest) (.int t) (.ref r) = some false := by rw [c_in hk, g]; rfl
  apply c_ret'
  · rfl
  · (repeat' (first | walk_at "mini e" | exact l_op ha | exact l_args ha | exact l_data ha | walk_at "mini a"))
  · rfl
  · rfl
theorem nm_zext {t a v s d : Int} (hk : nth (hp st X ts rest) r = some (.dI kn)) (g : getI kn t = none) (ha : At ts t ⟨121413913788299389279823226, [a], s, d⟩) (h : Nm (hp st X ts rest) r a v 20) : Nm (hp st X ts rest) r t v 32 := fun n => by
  have c : cop .isin (hp st X ts rest) (.int t) (.ref r) = some false := by rw [c_in hk, g]; rfl
  apply c_ret'
  · rfl
  · (repeat' (first | walk_at "mini e" | exact l_op ha | exact l_args ha | exact h _ | apply e_comp1 | walk_at "mini a"))
  · rfl
  · rfl
theorem nm_mul {t a b va vb s d w : Int} (hk : nth (hp st X ts rest) r = some (.dI kn)) (g : getI kn t = none) (ha : At ts t ⟨465826575970, [a, b], s, d⟩) (hw : Wd X s w) (w0 : 0 ≤ w) (w1 : w ≤ 1000)
    (h1 : Nm (hp st X ts rest) r a va 32) (h2 : Nm (hp st X ts rest) r b vb 32) (hb : va.natAbs ≤ 10000000) : Nm (hp st X ts rest) r t (Int.fmod (va * vb) (2 ^ w.toNat)) 46 := fun n => by
  have c : cop .isin (hp st X ts rest) (.int t) (.ref r) = some false := by rw [c_in hk, g]; rfl
  have p0 : (2 : Int) ^ w.toNat ≠ 0 := Int.ne_of_gt (Int.pow_pos (by decide))
  apply c_ret'
  · rfl
  · (repeat' (first | walk_at "mini e" | exact l_op ha | exact l_args ha | exact h1 _ | exact h2 _ | apply e_comp1 | exact l_width ha hw | with_reducible exact b_pow (by decide) w0 w1 | with_reducible exact b_mod p0 | with_reducible exact b_mul hb | walk_at "mini a"))
  · rfl
  · rfl
theorem nm_add {t a b va vb s d w : Int} (hk : nth (hp st X ts rest) r = some (.dI kn)) (g : getI kn t = none) (ha : At ts t ⟨431180838498, [a, b], s, d⟩) (hw : Wd X s w) (w0 : 0 ≤ w) (w1 : w ≤ 1000)
    (h1 : Nm (hp st X ts rest) r a va 46) (h2 : Nm (hp st X ts rest) r b vb 46) : Nm (hp st X ts rest) r t (Int.fmod (va + vb) (2 ^ w.toNat)) 60 := fun n => by
  have c : cop .isin (hp st X ts rest) (.int t) (.ref r) = some false := by rw [c_in hk, g]; rfl
  have p0 : (2 : Int) ^ w.toNat ≠ 0 := Int.ne_of_gt (Int.pow_pos (by decide))
  apply c_ret'
  · rfl
  · (repeat' (first | walk_at "mini e" | exact l_op ha | exact l_args ha | exact h1 _ | exact h2 _ | apply e_comp1 | exact l_width ha hw | with_reducible exact b_pow (by decide) w0 w1 | with_reducible exact b_mod p0 | walk_at "mini a"))
  · rfl
  · rfl

noncomputable def Tr (H : Hp) (r : Nat) (t : Int) (b : Bool) : Prop := ∀ n, Ca P (n+74) law_truth [.ref 1, .int t, .ref r] H (.bool b) H
theorem cop_nil {H : Hp} {l : List Int} : cop .eq H (.lst (intsV l)) (.lst []) = some l.isEmpty := by
  induction l using List.casesOn with
  | nil => rfl
  | cons a l =>
    have : V.flat (.lst (intsV (a :: l))) = true := by
      simp only [V.flat, V.dep, dep_ints]; rfl
    simp only [cop, eqV, this, show V.flat (.lst []) = true from rfl, Bool.and_self, cond_true]
    rfl
theorem tr_bit {t a v i : Int} {s : Int} (ha : At ts t ⟨7629154, [a], s, i⟩) (h : Nm (hp st X ts rest) r a v 60) (i0 : 0 ≤ i) (i1 : i ≤ 20) :
    Tr (hp st X ts rest) r t (decide (Int.fmod (Int.fdiv v (2 ^ i.toNat)) 2 = 1)) := fun n => by
  have p0 : (2 : Int) ^ i.toNat ≠ 0 := Int.ne_of_gt (Int.pow_pos (by decide))
  have p1 : ((2 : Int) ^ i.toNat).natAbs ≤ 10000000 := by
    rw [Int.natAbs_pow]
    exact Nat.le_trans (Nat.pow_le_pow_right (by decide) (show i.toNat ≤ 20 by (clear p0 i0; lia))) (by decide)
  have D : ∀ m, Ca P (m+12) Bank_data [.ref 1, .int t] (hp st X ts rest) (.int i) (hp st X ts rest) := fun m => l_data ha
  apply c_ret'
  · rfl
  · (repeat' (first | walk_at "mini e" | exact l_op ha | exact l_args ha | exact D _ | exact h _ | apply e_comp1 | with_reducible exact b_pow (by decide) i0 (by (clear p1 p0 i0; lia)) | with_reducible exact b_fdiv p0 p1 | with_reducible exact b_mod (by decide) | walk_at "mini a"))
  · rfl
  · rfl
theorem tr_true {t s d : Int} {op : Nat} (ha : At ts t ⟨op, [], s, d⟩) (ho : cop .eq (hp st X ts rest) (.str op) (.str 7629154) = some false) : Tr (hp st X ts rest) r t true := fun n => by
  apply c_ret'
  · rfl
  · (repeat' (first | walk_at "mini e" | exact l_op ha | exact l_args ha | apply e_comp1 | exact cop_nil (l := []) | walk_at "mini a"))
  · rfl
  · rfl
theorem tr_eq {t a b va vb s d : Int} (ha : At ts t ⟨61, [a, b], s, d⟩) (h1 : Nm (hp st X ts rest) r a va 20) (h2 : Nm (hp st X ts rest) r b vb 20) : Tr (hp st X ts rest) r t (decide (va = vb)) := fun n => by
  apply c_ret'
  · rfl
  · (repeat' (first | walk_at "mini e" | exact l_op ha | exact l_args ha | exact h1 _ | exact h2 _ | apply e_comp1 | exact cop_nil (l := [va, vb]) | walk_at "mini a"))
  · rfl
  · rfl
theorem tr_ult {t a b va vb s d : Int} (ha : At ts t ⟨500035843682, [a, b], s, d⟩) (h1 : Nm (hp st X ts rest) r a va 20) (h2 : Nm (hp st X ts rest) r b vb 20) : Tr (hp st X ts rest) r t (decide (va < vb)) := fun n => by
  apply c_ret'
  · rfl
  · (repeat' (first | walk_at "mini e" | exact l_op ha | exact l_args ha | exact h1 _ | exact h2 _ | apply e_comp1 | exact cop_nil (l := [va, vb]) | walk_at "mini a"))
  · rfl
  · rfl
end
end Mini.L3
end
section
set_option autoImplicit false
set_option maxRecDepth 10000
set_option maxHeartbeats 1000000
namespace Mini.L3
open Mini

theorem cop_eq_bool {H : Hp} {a b : Bool} : cop .eq H (.bool a) (.bool b) = some (a == b) := by
  cases a <;> cases b <;> rfl
theorem ints_filter (p : Int → Bool) : ∀ l : List Int, (intsV l).flatMap (fun v => match v with | .int o => if p o then [V.int o] else [] | _ => []) = intsV (l.filter p)
  | [] => rfl
  | a :: l => by
    have ih := ints_filter p l
    simp only [intsV, List.map_cons, List.flatMap_cons] at *
    rw [ih]
    by_cases h : p a = true
    · rw [if_pos h, List.filter_cons_of_pos h]; rfl
    · rw [if_neg h, List.filter_cons_of_neg h]; rfl
noncomputable def lineOk (tr : Int → Bool) (line : List Int) : Bool := line.any fun one => tr one.natAbs == decide (0 < one)
noncomputable def holds (tr : Int → Bool) (lines : List (List Int)) : Bool := lines.all (lineOk tr)
theorem filter_empty (p : Int → Bool) : ∀ l : List Int, (l.filter p).isEmpty = !(l.any p)
  | [] => rfl
  | a :: l => by
    by_cases h : p a = true
    · rw [List.filter_cons_of_pos h, List.any_cons, h]; rfl
    · rw [List.filter_cons_of_neg h, filter_empty p l, List.any_cons, (by simpa using h : p a = false)]; rfl
theorem call_abs {H : Hp} {a : Int} : callBi .abs [.int a] H = some (.int a.natAbs, H) := rfl
section
variable {H : Hp} {r : Nat} {tr : Int → Bool}
theorem line_ev {n : Nat} {ρ : Lo} {line : List Int} (h1 : Lk ρ 1802396002 (.ref 1)) (h2 : Lk ρ 474450194027 (.ref r)) (hl : line.length ≤ 1000) (h : ∀ one ∈ line, Tr H r one.natAbs (tr one.natAbs)) :
    Ev P (n+80) (.cmp (.comp (.var 6647407) [.mk (.var 6647407) (.var 1701734764) [.cmp (.call 493274399485596566383711 [.var 1802396002, .bi .abs [.var 6647407], .var 474450194027]) [.eq] [.cmp (.var 6647407) [.gt] [.num 0]]]]) [.eq] [.list false []])
      (lset ρ 1701734764 (.lst (intsV line))) H (.bool (!(lineOk tr line))) H := by
  have L : It P (n+78) (.var 1701734764) (lset ρ 1701734764 (.lst (intsV line))) H (intsV line) H := i_val (by rfl) (e_var' lke_same) rfl
  have Q := cp_if (P := P) (n := n+78) (H := H) (elt := .var 6647407) (t := .var 6647407) (c := .cmp (.call 493274399485596566383711 [.var 1802396002, .bi .abs [.var 6647407], .var 474450194027]) [.eq] [.cmp (.var 6647407) [.gt] [.num 0]]) (gs := [])
    (ρ := ldel (n_dot0 :: tgtsOf [.mk (.var 6647407) (.var 1701734764) [.cmp (.call 493274399485596566383711 [.var 1802396002, .bi .abs [.var 6647407], .var 474450194027]) [.eq] [.cmp (.var 6647407) [.gt] [.num 0]]]]) (lset ρ 1701734764 (.lst (intsV line))))
    (f := fun v => match v with | .int o => if (fun one : Int => tr one.natAbs == decide (0 < one)) o then [V.int o] else [] | _ => []) (vs := intsV line) (by
      intro v hv
      obtain ⟨one, ho, rfl⟩ := List.mem_map.1 hv
      have T := h one ho
      refine ⟨_, tr one.natAbs == decide (0 < one), rfl, ?_, ?_, ?_⟩
      · (repeat' (first | walk_at "mini e" | exact T _ | with_reducible exact call_abs | with_reducible exact cop_eq_bool | walk_at "mini a"))
      · intro e
        simp only [e, if_true]
        exact cg_nil (e_var' lke_same)
      · intro e
        simp only [e]; rfl)
  rw [ints_filter] at Q
  have C := e_compg L Q (okLen_of (by
    simp only [intsV, List.length_map]
    have := List.length_filter_le (fun one : Int => tr one.natAbs == decide (0 < one)) line
    omega))
  refine e_cmp C ?_ ?_ (y := .lst []) (H2 := H)
  · (repeat' (first | walk_at "mini e" | walk_at "mini a"))
  · rw [cop_nil, filter_empty]; rfl
theorem lines_for {n : Nat} : ∀ (lines : List (List Int)) (ρ : Lo), Lk ρ 1802396002 (.ref 1) → Lk ρ 474450194027 (.ref r) → (∀ line ∈ lines, line.length ≤ 1000 ∧ ∀ one ∈ line, Tr H r one.natAbs (tr one.natAbs)) →
    ∃ ρ', exFor (sem P (n+82)) (.var 1701734764) [.ifs (.cmp (.comp (.var 6647407) [.mk (.var 6647407) (.var 1701734764) [.cmp (.call 493274399485596566383711 [.var 1802396002, .bi .abs [.var 6647407], .var 474450194027]) [.eq] [.cmp (.var 6647407) [.gt] [.num 0]]]]) [.eq] [.list false []]) [.ret (.bool false)] []]
      (lines.map fun line => .lst (intsV line)) ρ H = some (if holds tr lines then .nxt else .ret (.bool false), ρ', H)
  | [], ρ, _, _, _ => ⟨ρ, rfl⟩
  | line :: lines, ρ, h1, h2, h => by
    refine x0a2 (h line (List.mem_cons_self ..)) fun hl ht => ?_
    have E := line_ev (n := n+1) (ρ := ρ) (r := r) (tr := tr) h1 h2 hl ht
    by_cases q : lineOk tr line = true
    · rw [q] at E
      have B : Xs P (n+82) [.ifs (.cmp (.comp (.var 6647407) [.mk (.var 6647407) (.var 1701734764) [.cmp (.call 493274399485596566383711 [.var 1802396002, .bi .abs [.var 6647407], .var 474450194027]) [.eq] [.cmp (.var 6647407) [.gt] [.num 0]]]]) [.eq] [.list false []]) [.ret (.bool false)] []] (lset ρ 1701734764 (.lst (intsV line))) H .nxt (lset ρ 1701734764 (.lst (intsV line))) H :=
        x_ifs E (xi_f rfl x_nil)
      refine x1a1 (lines_for (n := n) lines (lset ρ 1701734764 (.lst (intsV line))) (lke_skip rfl h1) (lke_skip rfl h2) fun l hl => h l (List.mem_cons_of_mem _ hl)) fun ρ' e => ?_
      refine ⟨ρ', for_cons (ρ1 := lset ρ 1701734764 (.lst (intsV line))) rfl B.h ?_⟩
      rw [e]; unfold holds; rw [List.all_cons, q, Bool.true_and]
    · have q : lineOk tr line = false := by simpa using q
      rw [q] at E
      have B : Xs P (n+82) [.ifs (.cmp (.comp (.var 6647407) [.mk (.var 6647407) (.var 1701734764) [.cmp (.call 493274399485596566383711 [.var 1802396002, .bi .abs [.var 6647407], .var 474450194027]) [.eq] [.cmp (.var 6647407) [.gt] [.num 0]]]]) [.eq] [.list false []]) [.ret (.bool false)] []] (lset ρ 1701734764 (.lst (intsV line))) H (.ret (.bool false)) (lset ρ 1701734764 (.lst (intsV line))) H :=
        x_ifs E (xi_tr rfl (x_ret e_bool))
      refine ⟨lset ρ 1701734764 (.lst (intsV line)), ?_⟩
      unfold holds; rw [List.all_cons, q, Bool.false_and, if_neg (by decide)]
      exact for_ret rfl B.h
theorem l_all_hold {n : Nat} {lines : List (List Int)} (h : ∀ line ∈ lines, line.length ≤ 1000 ∧ ∀ one ∈ line, Tr H r one.natAbs (tr one.natAbs)) :
    Ca P (n+90) law_all_hold [.ref 1, .lst (lines.map fun line => .lst (intsV line)), .ref r] H (.bool (holds tr lines)) H := by
  have I : It P (n+89) (.var 495622973804) (law_all_hold.params.zip [.ref 1, .lst (lines.map fun line => .lst (intsV line)), .ref r]) H (lines.map fun line => .lst (intsV line)) H := i_val (by rfl) (e_var' (lke_base rfl)) rfl
  refine x1a1 (lines_for (n := n+7) lines (law_all_hold.params.zip [.ref 1, .lst (lines.map fun line => .lst (intsV line)), .ref r]) (lke_base rfl) (lke_base rfl) h) fun ρ' e => ?_
  by_cases q : holds tr lines = true
  · rw [if_pos q] at e
    rw [q]
    exact c_ret rfl (x_fr I e (x_ret e_bool))
  · rw [if_neg q] at e
    rw [(by simpa using q : holds tr lines = false)]
    exact c_ret rfl (x_fr_r I e)
end
end Mini.L3
end
section
set_option autoImplicit false
set_option maxRecDepth 10000
set_option maxHeartbeats 2000000
namespace Mini.L3
open Mini

/-- the place of a term -/
noncomputable def Fd (ts : List Tm) (t : Tm) (k : Int) : Prop := (find 1 ts t : Int) = k ∧ 1 ≤ k
theorem find_range : ∀ (k : Nat) (ts : List Tm) (t : Tm), find (k+1) ts t ≠ 0 → k + 1 ≤ find (k+1) ts t ∧ find (k+1) ts t ≤ k + ts.length ∧ ts[find (k+1) ts t - (k+1)]? = some t
  | k, [], t, h => absurd rfl h
  | k, u :: r, t, h => by
    rcases Bool.eq_false_or_eq_true (u.eqb t) with e | e
    · have e' := Tm.eqb_iff.1 e
      have : find (k+1) (u :: r) t = k + 1 := by simp only [find, e, cond_true]
      rw [this, List.length_cons]
      refine ⟨Nat.le_refl _, by (clear this e' e h; lia), ?_⟩
      rw [Nat.sub_self, List.getElem?_cons_zero, e']
    · have f : find (k+1) (u :: r) t = find (k+1+1) r t := by simp only [find, e, cond_false]
      rw [f] at h ⊢
      refine x0a3 (find_range (k+1) r t h) fun a b c => ?_
      refine ⟨by (clear c b f e h; lia), by rw [List.length_cons]; (clear c a f e h; lia), ?_⟩
      rw [show find (k+1+1) r t - (k+1) = (find (k+1+1) r t - (k+1+1)) + 1 by (clear c b f e h; lia), List.getElem?_cons_succ, c]
theorem Fd.at {ts : List Tm} {t : Tm} {k : Int} (h : Fd ts t k) (l : ts.length ≤ 1000) : At ts k t := by
  refine x0a2 h fun h1 h2 => ?_
  have F := find_range 0 ts t
  simp only [Nat.zero_add] at F
  refine x0a3 (F (by (clear F l; lia))) fun a b c => ?_
  refine ⟨h2, by (clear c b a h2; lia), ?_⟩
  rw [← c]; congr 1; (clear c b a F h2 l; lia)
theorem Fd.lt {ts : List Tm} {t : Tm} {k : Int} (h : Fd ts t k) : k ≤ ts.length := by
  refine x0a2 h fun h1 h2 => ?_
  have F := find_range 0 ts t
  simp only [Nat.zero_add] at F
  refine x0a3 (F (by (clear F; lia))) fun a b c => ?_
  (clear c b a h2; lia)
theorem find_append_old : ∀ (k : Nat) (ts us : List Tm) (t : Tm), find (k+1) ts t ≠ 0 → find (k+1) (ts ++ us) t = find (k+1) ts t
  | k, [], us, t, h => absurd rfl h
  | k, u :: r, us, t, h => by
    rcases Bool.eq_false_or_eq_true (u.eqb t) with e | e
    · simp only [List.cons_append, find, e, cond_true]
    · have f : find (k+1) (u :: r) t = find (k+1+1) r t := by simp only [find, e, cond_false]
      rw [f] at h ⊢
      have := find_append_old (k+1) r us t h
      simp only [List.cons_append, find, e, cond_false, this]
theorem Fd.append {ts us : List Tm} {t : Tm} {k : Int} (h : Fd ts t k) : Fd (ts ++ us) t k := by
  refine x0a2 h fun h1 h2 => ?_
  have F := find_append_old 0 ts us t
  simp only [Nat.zero_add] at F
  exact ⟨by rw [F (by (clear F; lia))]; exact h1, h2⟩
theorem Fd.put {ts : List Tm} {t u : Tm} {k : Int} (h : Fd ts t k) : Fd (L3.put ts u) t k := by
  unfold L3.put; split
  · exact h.append
  · exact h
theorem Fd.same {ts : List Tm} {t : Tm} {k : Int} (h : Fd ts t k) : L3.put ts t = ts := by
  refine x0a2 h fun h1 h2 => ?_
  unfold L3.put; rw [if_neg (by lia)]
theorem Fd.fd {ts : List Tm} {t : Tm} {k : Int} (h : Fd ts t k) : L3.fd ts t = k := h.1
theorem fd_put_self (ts : List Tm) (t : Tm) : Fd (put ts t) t (fd (put ts t) t) := by
  refine ⟨rfl, ?_⟩
  unfold put
  by_cases h : find 1 ts t = 0
  · rw [if_pos h]; show 1 ≤ ((find 1 (ts ++ [t]) t : Nat) : Int); rw [find_append_new 0 ts t h]; (clear h; lia)
  · rw [if_neg h]; show 1 ≤ ((find 1 ts t : Nat) : Int); lia
theorem put_len (ts : List Tm) (t : Tm) : (put ts t).length ≤ ts.length + 1 := by
  unfold put; split
  · rw [List.length_append]; exact Nat.le_refl _
  · lia

noncomputable abbrev tq (y : Int) : Tm := ⟨130195029063266, [3, y], 3, 0⟩
noncomputable abbrev tr (y : Int) : Tm := ⟨120282479425122, [3, y], 3, 0⟩
noncomputable abbrev tz : Tm := ⟨470121608802, [], 3, 0⟩
noncomputable abbrev tw (w a : Int) : Tm := ⟨121413913788299389279823226, [a], 4, w⟩
noncomputable abbrev te (y zero : Int) : Tm := ⟨61, [if zero < y then zero else y, if y < zero then zero else y], 0, 0⟩
noncomputable abbrev tu (r y : Int) : Tm := ⟨500035843682, [r, y], 0, 0⟩
noncomputable abbrev tm (a b : Int) : Tm := ⟨465826575970, [a, b], 4, 0⟩
noncomputable abbrev ta (a b : Int) : Tm := ⟨431180838498, [a, b], 4, 0⟩
noncomputable abbrev tb (a i : Int) : Tm := ⟨7629154, [a], 0, i⟩

/-- what the pieces stand on -/
structure Gd (X : Ext) (ts : List Tm) (w y : Int) : Prop where
  len : ts.length ≤ 100
  gx : ∃ t, At ts 3 t ∧ t.sort = 3
  gy : ∃ t, At ts y t ∧ t.sort = 3
  wd : Wd X 3 w
  w0 : 1 ≤ w
  w1 : w ≤ 3
  bv : getI X.bvn w = some (.int 3)
theorem Gd.put {X : Ext} {ts : List Tm} {w y : Int} (g : Gd X ts w y) (t : Tm) (l : ts.length ≤ 99) : Gd X (L3.put ts t) w y where
  len := by have := put_len ts t; lia
  gx := by refine x1a2 g.gx fun t a b => ?_; exact ⟨t, a.put, b⟩
  gy := by refine x1a2 g.gy fun t a b => ?_; exact ⟨t, a.put, b⟩
  wd := g.wd
  w0 := g.w0
  w1 := g.w1
  bv := g.bv

section
variable {n : Nat} {st : O} {X : Ext} {ts : List Tm} {rest : Hp} {w y q r zero : Int}
theorem cu {H : Hp} : cop .isin H (.str 130195029063266) (.tup [.str 431348610658, .str 1919907426, .str 491496437346, .str 431180838498, .str 422877296226, .str 465826575970, .str 465608865378, .str 125792938653282, .str 130195029063266, .str 120282479425122]) = some true := rfl
theorem cr {H : Hp} : cop .isin H (.str 120282479425122) (.tup [.str 431348610658, .str 1919907426, .str 491496437346, .str 431180838498, .str 422877296226, .str 465826575970, .str 465608865378, .str 125792938653282, .str 130195029063266, .str 120282479425122]) = some true := rfl
theorem cm {H : Hp} : cop .isin H (.str 465826575970) (.tup [.str 431348610658, .str 1919907426, .str 491496437346, .str 431180838498, .str 422877296226, .str 465826575970, .str 465608865378, .str 125792938653282, .str 130195029063266, .str 120282479425122]) = some true := rfl
theorem ca {H : Hp} : cop .isin H (.str 431180838498) (.tup [.str 431348610658, .str 1919907426, .str 491496437346, .str 431180838498, .str 422877296226, .str 465826575970, .str 465608865378, .str 125792938653282, .str 130195029063266, .str 120282479425122]) = some true := rfl
theorem cl1 {H : Hp} : cop .isin H (.str 500035843682) (.tup [.str 431348610658, .str 1919907426, .str 491496437346, .str 431180838498, .str 422877296226, .str 465826575970, .str 465608865378, .str 125792938653282, .str 130195029063266, .str 120282479425122]) = some false := rfl
theorem cl2 {H : Hp} : cop .isin H (.str 500035843682) (.tup [.str 500035843682, .str 435611334242, .str 500035712610, .str 435611203170]) = some true := rfl

theorem p_q (g : Gd X ts w y) : Ca P (n+22) TermBank_bv_two [.ref 1, .str 130195029063266, .int 3, .int y] (hp st X ts rest) (.int (fd (put ts (tq y)) (tq y))) (hp st X (put ts (tq y)) rest) := by
  refine x1a2 g.gx fun t1 a1 b1 => ?_
  refine x1a2 g.gy fun t2 a2 b2 => ?_
  have L := g.len; have := g.w0
  have h := l_bv_two (n := n) (op := 130195029063266) (st := st) (rest := rest) (X := X) (w := w) (by (clear this b2 b1; lia)) a1 a2 (by rw [b1, b2]) (by rw [b1]; exact g.wd) (by (clear L b2 b1; lia)) cu
  rw [b1] at h; exact h
theorem p_r (g : Gd X ts w y) : Ca P (n+22) TermBank_bv_two [.ref 1, .str 120282479425122, .int 3, .int y] (hp st X ts rest) (.int (fd (put ts (tr y)) (tr y))) (hp st X (put ts (tr y)) rest) := by
  refine x1a2 g.gx fun t1 a1 b1 => ?_
  refine x1a2 g.gy fun t2 a2 b2 => ?_
  have L := g.len; have := g.w0
  have h := l_bv_two (n := n) (op := 120282479425122) (st := st) (rest := rest) (X := X) (w := w) (by (clear this b2 b1; lia)) a1 a2 (by rw [b1, b2]) (by rw [b1]; exact g.wd) (by (clear L b2 b1; lia)) cr
  rw [b1] at h; exact h
theorem f_q (g : Gd X ts w y) (h : Fd ts (tq y) q) : Ca P (n+22) TermBank_bv_two [.ref 1, .str 130195029063266, .int 3, .int y] (hp st X ts rest) (.int q) (hp st X ts rest) := by
  have k := p_q (n := n) (st := st) (rest := rest) g; rw [h.same, h.fd] at k; exact k
theorem f_r (g : Gd X ts w y) (h : Fd ts (tr y) r) : Ca P (n+22) TermBank_bv_two [.ref 1, .str 120282479425122, .int 3, .int y] (hp st X ts rest) (.int r) (hp st X ts rest) := by
  have k := p_r (n := n) (st := st) (rest := rest) g; rw [h.same, h.fd] at k; exact k
theorem f_z (g : Gd X ts w y) (h : Fd ts tz zero) : Ca P (n+22) TermBank_bv_num [.ref 1, .int 0, .int w] (hp st X ts rest) (.int zero) (hp st X ts rest) := by
  have L := g.len; have := g.w0; have := g.w1
  have k := l_bv_num (n := n) (v := 0) (st := st) (rest := rest) (X := X) (ts := ts) (by lia) g.bv g.w0 (by lia)
  rw [Int.zero_fmod, h.same, h.fd] at k; exact k
theorem f_w (g : Gd X ts w y) : Ca P (n+12) Bank_width [.ref 1, .int 3] (hp st X ts rest) (.int w) (hp st X ts rest) := by
  refine x1a2 g.gx fun t1 a1 b1 => ?_
  exact l_width a1 (by rw [b1]; exact g.wd)
theorem f_ext {a : Int} {t : Tm} {k : Int} (g : Gd X ts w y) (h4 : getI X.bvn (w + w) = some (.int 4)) (ha : At ts a t) (hs : t.sort = 3) (h : Fd ts (tw w a) k) : Ca P (n+24) TermBank_zero_extend [.ref 1, .int w, .int a] (hp st X ts rest) (.int k) (hp st X ts rest) := by
  have L := g.len; have := g.w0; have := g.w1
  have e := l_zero_extend (n := n) (many := w) (st := st) (rest := rest) (w := w) (by lia) ha (by rw [hs]; exact g.wd) g.w0 g.w0 (by lia) h4
  rw [h.same, h.fd] at e; exact e
theorem p_ext {a : Int} {t : Tm} (g : Gd X ts w y) (h4 : getI X.bvn (w + w) = some (.int 4)) (ha : At ts a t) (hs : t.sort = 3) : Ca P (n+24) TermBank_zero_extend [.ref 1, .int w, .int a] (hp st X ts rest) (.int (fd (put ts (tw w a)) (tw w a))) (hp st X (put ts (tw w a)) rest) := by
  have L := g.len; have := g.w0; have := g.w1
  exact l_zero_extend (n := n) (many := w) (st := st) (rest := rest) (w := w) (by lia) ha (by rw [hs]; exact g.wd) g.w0 g.w0 (by lia) h4

theorem piece0 {turn : Int} (g : Gd X ts w y) (l : ts.length ≤ 98) : Ca P (n+40) law_piece [.ref 1, .int 3, .int y, .int 0, .int turn] (hp st X ts rest) .none (hp st X (put (put ts (tq y)) (tr y)) rest) := by
  have g1 := g.put (tq y) (by lia)
  apply c_ret'
  · rfl
  · (repeat' (first | walk_at "mini e" | exact f_w g | exact p_q g | exact p_r g1 | walk_at "mini a"))
  · rfl
  · rfl
theorem piece1 {turn : Int} (g : Gd X ts w y) (hq : Fd ts (tq y) q) (hr : Fd ts (tr y) r) (hz : Fd ts tz zero) (ne : y ≠ zero) : Ca P (n+40) law_piece [.ref 1, .int 3, .int y, .int 1, .int turn] (hp st X ts rest) .none (hp st X (put ts (te y zero)) rest) := by
  refine x1a2 g.gy fun t2 a2 b2 => ?_
  have L := g.len
  apply c_nxt'
  · rfl
  · (repeat' (first | walk_at "mini e" | exact f_w g | exact f_q g hq | exact f_r g hr | exact f_z g hz | exact l_eq (by (clear b2 ne; lia)) a2 (hz.at (by (clear b2 ne; lia))) (by rw [b2]) ne | apply e_slice_t | apply e_comp1 | walk_at "mini a"))
  · rfl
end
end Mini.L3
end
section
set_option autoImplicit false
set_option maxRecDepth 10000
set_option maxHeartbeats 2000000
namespace Mini.L3
open Mini
section
variable {n : Nat} {st : O} {X : Ext} {ts : List Tm} {rest : Hp} {w y q r zero : Int}
/-- what is there from the second piece on -/
structure Ge (X : Ext) (ts : List Tm) (w y q r zero : Int) : Prop extends Gd X ts w y where
  fq : Fd ts (tq y) q
  fr : Fd ts (tr y) r
  fz : Fd ts tz zero
theorem Ge.put {X : Ext} {ts : List Tm} {w y q r zero : Int} (g : Ge X ts w y q r zero) (t : Tm) (l : ts.length ≤ 99) : Ge X (L3.put ts t) w y q r zero := ⟨g.toGd.put t l, g.fq.put, g.fr.put, g.fz.put⟩
theorem piece1s {turn : Int} (g : Ge X ts w y q r zero) (e : y = zero) : Ca P (n+40) law_piece [.ref 1, .int 3, .int y, .int 1, .int turn] (hp st X ts rest) .none (hp st X ts rest) := by
  refine x1a2 g.gy fun t2 a2 b2 => ?_
  have L := g.len
  have S : ∀ n, Ca P (n+22) BoolBank_eq [.ref 1, .int y, .int zero] (hp st X ts rest) (.int 1) (hp st X ts rest) := fun n => by rw [← e]; exact l_eq_same a2
  apply c_nxt'
  · rfl
  · (repeat' (first | walk_at "mini e" | exact f_w g.toGd | exact f_q g.toGd g.fq | exact f_r g.toGd g.fr | exact f_z g.toGd g.fz | exact S _ | apply e_slice_t | apply e_comp1 | walk_at "mini a"))
  · rfl
theorem piece2 {turn : Int} {x : Nat} (g : Ge X ts w y q r zero) (h : getI X.bvn (w + w) = none) (ht : intText (w + w) = some x) (l1 : X.names.length = 4) (l2 : X.widths.length ≤ 100) (l3 : X.bvn.length ≤ 100) :
    Ca P (n+40) law_piece [.ref 1, .int 3, .int y, .int 2, .int turn] (hp st X ts rest) .none (hp st (X.more (w + w) x) (put ts (tw w q)) rest) := by
  have L := g.len; have := g.w0; have := g.w1
  have S : ∀ n, Ca P (n+24) TermBank_zero_extend [.ref 1, .int w, .int q] (hp st X ts rest) (.int (fd (put ts (tw w q)) (tw w q))) (hp st (X.more (w + w) x) (put ts (tw w q)) rest) := fun n => by
    have e := l_zero_extend_new (n := n) (many := w) (st := st) (rest := rest) (by lia) (g.fq.at (by lia)) g.wd g.w0 g.w0 (by lia) h ht (by lia) l2 l3
    rw [l1] at e; exact e
  apply c_nxt'
  · rfl
  · (repeat' (first | walk_at "mini e" | exact f_w g.toGd | exact f_q g.toGd g.fq | exact f_r g.toGd g.fr | exact f_z g.toGd g.fz | exact S _ | apply e_slice_t | apply e_comp1 | walk_at "mini a"))
  · rfl
theorem piece3 {turn zq : Int} (g : Ge X ts w y q r zero) (h4 : getI X.bvn (w + w) = some (.int 4)) (hq : Fd ts (tw w q) zq) :
    Ca P (n+40) law_piece [.ref 1, .int 3, .int y, .int 3, .int turn] (hp st X ts rest) .none (hp st X (put ts (tw w y)) rest) := by
  refine x1a2 g.gy fun t2 a2 b2 => ?_
  have L := g.len
  apply c_nxt'
  · rfl
  · (repeat' (first | walk_at "mini e" | exact f_w g.toGd | exact f_q g.toGd g.fq | exact f_r g.toGd g.fr | exact f_z g.toGd g.fz | exact f_ext g.toGd h4 (g.fq.at (by (clear b2 h4; lia))) rfl hq | exact p_ext g.toGd h4 a2 b2 | apply e_slice_t | apply e_comp1 | walk_at "mini a"))
  · rfl
theorem piece4 {turn zq zy : Int} (g : Ge X ts w y q r zero) (h4 : getI X.bvn (w + w) = some (.int 4)) (hq : Fd ts (tw w q) zq) (hy : Fd ts (tw w y) zy) :
    Ca P (n+40) law_piece [.ref 1, .int 3, .int y, .int 4, .int turn] (hp st X ts rest) .none (hp st X (put ts (tw w r)) rest) := by
  refine x1a2 g.gy fun t2 a2 b2 => ?_
  have L := g.len
  apply c_nxt'
  · rfl
  · (repeat' (first | walk_at "mini e" | exact f_w g.toGd | exact f_q g.toGd g.fq | exact f_r g.toGd g.fr | exact f_z g.toGd g.fz | exact f_ext g.toGd h4 (g.fq.at (by (clear b2 h4; lia))) rfl hq | exact f_ext g.toGd h4 a2 b2 hy | exact p_ext g.toGd h4 (g.fr.at (by (clear b2 h4; lia))) rfl | apply e_slice_t | apply e_comp1 | walk_at "mini a"))
  · rfl
theorem piece5 {turn zq zy zr : Int} (g : Ge X ts w y q r zero) (h4 : getI X.bvn (w + w) = some (.int 4)) (hq : Fd ts (tw w q) zq) (hy : Fd ts (tw w y) zy) (hr : Fd ts (tw w r) zr) :
    Ca P (n+40) law_piece [.ref 1, .int 3, .int y, .int 5, .int turn] (hp st X ts rest) .none (hp st X (put ts (tw w 3)) rest) := by
  refine x1a2 g.gy fun t2 a2 b2 => ?_
  refine x1a2 g.gx fun t3 a3 b3 => ?_
  have L := g.len
  apply c_nxt'
  · rfl
  · (repeat' (first | walk_at "mini e" | exact f_w g.toGd | exact f_q g.toGd g.fq | exact f_r g.toGd g.fr | exact f_z g.toGd g.fz | exact f_ext g.toGd h4 (g.fq.at (by (clear b3 b2 h4; lia))) rfl hq | exact f_ext g.toGd h4 a2 b2 hy | exact f_ext g.toGd h4 (g.fr.at (by (clear b3 b2 h4; lia))) rfl hr | exact p_ext g.toGd h4 a3 b3 | apply e_slice_t | apply e_comp1 | walk_at "mini a"))
  · rfl
theorem p_ult (g : Ge X ts w y q r zero) : Ca P (n+22) TermBank_bv_two [.ref 1, .str 500035843682, .int r, .int y] (hp st X ts rest) (.int (fd (put ts (tu r y)) (tu r y))) (hp st X (put ts (tu r y)) rest) := by
  refine x1a2 g.gy fun t2 a2 b2 => ?_
  have L := g.len; have := g.w0
  exact l_bv_ask (n := n) (op := 500035843682) (st := st) (rest := rest) (X := X) (w := w) (by (clear this b2; lia)) (g.fr.at (by (clear this b2; lia))) a2 (by rw [b2]) g.wd (by (clear L b2; lia)) cl1 cl2
theorem piece6 {turn zq zy zr zx : Int} (g : Ge X ts w y q r zero) (h4 : getI X.bvn (w + w) = some (.int 4)) (hq : Fd ts (tw w q) zq) (hy : Fd ts (tw w y) zy) (hr : Fd ts (tw w r) zr) (hx : Fd ts (tw w 3) zx) :
    Ca P (n+40) law_piece [.ref 1, .int 3, .int y, .int 6, .int turn] (hp st X ts rest) .none (hp st X (put ts (tu r y)) rest) := by
  refine x1a2 g.gy fun t2 a2 b2 => ?_
  refine x1a2 g.gx fun t3 a3 b3 => ?_
  have L := g.len
  apply c_nxt'
  · rfl
  · (repeat' (first | walk_at "mini e" | exact f_w g.toGd | exact f_q g.toGd g.fq | exact f_r g.toGd g.fr | exact f_z g.toGd g.fz | exact f_ext g.toGd h4 (g.fq.at (by (clear b3 b2 h4; lia))) rfl hq | exact f_ext g.toGd h4 a2 b2 hy | exact f_ext g.toGd h4 (g.fr.at (by (clear b3 b2 h4; lia))) rfl hr | exact f_ext g.toGd h4 a3 b3 hx | exact p_ult g | apply e_slice_t | apply e_comp1 | walk_at "mini a"))
  · rfl
end
end Mini.L3
end
section
set_option autoImplicit false
set_option maxRecDepth 10000
set_option maxHeartbeats 2000000
namespace Mini.L3
open Mini

noncomputable def rowsOf (parts : List Int) (k : Nat) : List (Int × Int) := parts.flatMap fun p => (List.range k).map fun (i : Nat) => (p, (i : Int))
theorem flatMap_map' {α β γ : Type} (f : α → β) (g : β → List γ) : ∀ l : List α, (l.map f).flatMap g = l.flatMap fun a => g (f a)
  | [] => rfl
  | a :: l => by rw [List.map_cons, List.flatMap_cons, List.flatMap_cons, flatMap_map' f g l]
theorem flatMap_single {α β : Type} (f : α → β) : ∀ l : List α, l.flatMap (fun a => [f a]) = l.map f
  | [] => rfl
  | a :: l => by rw [List.flatMap_cons, flatMap_single f l]; rfl
theorem rowsOf_map (parts : List Int) (k : Nat) : (rowsOf parts k).map pairV = (intsV parts).flatMap fun v => match v with | .int p => ((List.range k).map fun (i : Nat) => V.int (i : Int)).flatMap (fun u => [V.tup [.int p, u]]) | _ => [] := by
  unfold rowsOf intsV
  rw [flatMap_map', List.map_flatMap]
  congr 1
  funext p
  show _ = List.flatMap (fun u => [V.tup [.int p, u]]) _
  rw [flatMap_single, List.map_map, List.map_map]
  rfl
theorem rowsOf_len (parts : List Int) (k : Nat) : (rowsOf parts k).length = parts.length * k := by
  unfold rowsOf
  induction parts with
  | nil => simp
  | cons p l ih => rw [List.flatMap_cons, List.length_append, ih, List.length_map, List.length_range, List.length_cons, Nat.add_mul]; (clear ih; lia)
section
variable {n : Nat} {st : O} {X : Ext} {ts : List Tm} {rest : Hp} {w y q r zero : Int}
theorem rows_ev {H : Hp} {ρ : Lo} {it e2 : E} {parts : List Int} {k : Nat} (l1 : parts.length ≤ 10) (l2 : k ≤ 10) (I : It P (n+20) it ρ H (intsV parts) H)
    (hk : ∀ v, Ev P (n+20) e2 (lset (ldel (n_dot0 :: tgtsOf [.mk (.var 1953653104) it [], .mk (.var 105) (.range [e2]) []]) ρ) 1953653104 v) H (.int (k : Int)) H) :
    Ev P (n+21) (.comp (.tup [.var 1953653104, .var 105]) [.mk (.var 1953653104) it [], .mk (.var 105) (.range [e2]) []]) ρ H (.lst ((rowsOf parts k).map pairV)) H := by
  have L : Cp P (n+20) (.tup [.var 1953653104, .var 105]) (.var 1953653104) [] [.mk (.var 105) (.range [e2]) []] (intsV parts) (ldel (n_dot0 :: tgtsOf [.mk (.var 1953653104) it [], .mk (.var 105) (.range [e2]) []]) ρ) H
      ((intsV parts).flatMap fun v => match v with | .int p => ((List.range k).map fun (i : Nat) => V.int (i : Int)).flatMap (fun u => [V.tup [.int p, u]]) | _ => []) := by
    refine cp_map fun v hv => ⟨_, rfl, ?_⟩
    obtain ⟨p, _, rfl⟩ := List.mem_map.1 hv
    refine cg_cons (i_range1 (hk (.int p)) (by rw [okLen_of (by (clear l1; lia)), okInt_of (by (clear l1; lia))]; rfl)) ?_
    refine cp_map fun u hu => ⟨_, rfl, ?_⟩
    exact cg_nil (by (repeat' (first | walk_at "mini e" | walk_at "mini a")))
  rw [← rowsOf_map] at L
  refine e_compg I L (okLen_of ?_)
  rw [List.length_map, rowsOf_len]
  exact Nat.le_trans (Nat.mul_le_mul l1 l2) (by decide)

/-- the seventh piece and those after -/
structure Gf (X : Ext) (ts : List Tm) (w y q r zero zq zy zr zx : Int) : Prop extends Ge X ts w y q r zero where
  b4 : getI X.bvn (w + w) = some (.int 4)
  w4 : Wd X 4 (2 * w)
  eq : Fd ts (tw w q) zq
  ey : Fd ts (tw w y) zy
  er : Fd ts (tw w r) zr
  ex : Fd ts (tw w 3) zx
theorem Gf.put {X : Ext} {ts : List Tm} {w y q r zero zq zy zr zx : Int} (g : Gf X ts w y q r zero zq zy zr zx) (t : Tm) (l : ts.length ≤ 99) : Gf X (L3.put ts t) w y q r zero zq zy zr zx := ⟨g.toGe.put t l, g.b4, g.w4, g.eq.put, g.ey.put, g.er.put, g.ex.put⟩
variable {zq zy zr zx : Int}
theorem p_mul (g : Gf X ts w y q r zero zq zy zr zx) : Ca P (n+22) TermBank_bv_two [.ref 1, .str 465826575970, .int zq, .int zy] (hp st X ts rest) (.int (fd (put ts (tm zq zy)) (tm zq zy))) (hp st X (put ts (tm zq zy)) rest) := by
  have L := g.len; have := g.w0
  exact l_bv_two (n := n) (op := 465826575970) (st := st) (rest := rest) (X := X) (w := 2 * w) (by (clear this; lia)) (g.eq.at (by (clear this; lia))) (g.ey.at (by (clear this; lia))) rfl g.w4 (by (clear L; lia)) cm
theorem p_add {m : Int} (g : Gf X ts w y q r zero zq zy zr zx) (hm : Fd ts (tm zq zy) m) : Ca P (n+22) TermBank_bv_two [.ref 1, .str 431180838498, .int m, .int zr] (hp st X ts rest) (.int (fd (put ts (ta m zr)) (ta m zr))) (hp st X (put ts (ta m zr)) rest) := by
  have L := g.len; have := g.w0
  exact l_bv_two (n := n) (op := 431180838498) (st := st) (rest := rest) (X := X) (w := 2 * w) (by (clear this; lia)) (hm.at (by (clear this; lia))) (g.er.at (by (clear this; lia))) rfl g.w4 (by (clear L; lia)) ca
noncomputable def rowsP (w : Nat) (total zx q r : Int) : List (Int × Int) := rowsOf [total, zx] (2 * w) ++ rowsOf [q, r, 3] w
theorem rowsP_len (w : Nat) (total zx q r : Int) : (rowsP w total zx q r).length = 7 * w := by
  unfold rowsP; rw [List.length_append, rowsOf_len, rowsOf_len]; simp only [List.length_cons, List.length_nil]; lia
theorem call_len {H : Hp} {l : List V} (h : l.length ≤ 1000) : callBi .len [.lst l] H = some (.int l.length, H) := len_lst rfl (okLen_of (by lia))
theorem slice_all {a b c d : V} {s : Int} (h : 7 ≤ s) : sliceL [a, b, c, d] none (some (s - 1)) = some [a, b, c, d] := by
  have e : [a, b, c, d].take (s - 1).toNat = [a, b, c, d] := List.take_of_length_le (by simp only [List.length_cons, List.length_nil]; lia)
  simp only [sliceL, e]
  rw [if_pos ⟨by (clear e; lia), rfl⟩]
theorem piece7 {wn j : Nat} {s turn p i wp : Int} {tt : Tm} (ew : w = (wn : Int)) (g : Gf X ts w y q r zero zq zy zr zx) (l : ts.length ≤ 90) (s0 : 7 ≤ s) (s1 : s ≤ 100)
    {m tot : Int} (em : m = fd (put ts (tm zq zy)) (tm zq zy)) (et : tot = fd (put (put ts (tm zq zy)) (ta m zr)) (ta m zr))
    (ej : Int.fmod (s - 7 + turn) ((7 * wn : Nat) : Int) = (j : Int)) (hj : (rowsP wn tot zx q r)[j]? = some (p, i)) (hp' : At (put (put ts (tm zq zy)) (ta m zr)) p tt) (hw : Wd X tt.sort wp) (i0 : 0 ≤ i) (i1 : i < wp) (j1 : j ≤ 1000) :
    Ca P (n+60) law_piece [.ref 1, .int 3, .int y, .int s, .int turn] (hp st X ts rest) .none (hp st X (put (put (put ts (tm zq zy)) (ta m zr)) (tb p i)) rest) := by
  refine x1a2 g.gy fun t2 a2 b2 => ?_
  refine x1a2 g.gx fun t3 a3 b3 => ?_
  have L := g.len; have W0 := g.w0; have W1 := g.w1
  have g1 := g.put (tm zq zy) (by (clear W1 W0 L b3 b2 j1 i1 i0 hj ej et em s1 s0 ew; lia))
  have L1 := put_len ts (tm zq zy)
  have L2 := put_len (put ts (tm zq zy)) (ta m zr)
  have hm : Fd (put ts (tm zq zy)) (tm zq zy) m := by rw [em]; exact fd_put_self _ _
  have M : ∀ n, Ca P (n+22) TermBank_bv_two [.ref 1, .str 465826575970, .int zq, .int zy] (hp st X ts rest) (.int m) (hp st X (put ts (tm zq zy)) rest) := fun n => by rw [em]; exact p_mul g
  have A : ∀ n, Ca P (n+22) TermBank_bv_two [.ref 1, .str 431180838498, .int m, .int zr] (hp st X (put ts (tm zq zy)) rest) (.int tot) (hp st X (put (put ts (tm zq zy)) (ta m zr)) rest) := fun n => by rw [et]; exact p_add g1 hm
  have B : ∀ n, Ca P (n+22) TermBank_bit [.ref 1, .int i, .int p] (hp st X (put (put ts (tm zq zy)) (ta m zr)) rest) (.int (fd (put (put (put ts (tm zq zy)) (ta m zr)) (tb p i)) (tb p i))) (hp st X (put (put (put ts (tm zq zy)) (ta m zr)) (tb p i)) rest) := fun n =>
    l_bit (by (clear W1 W0 L b3 b2 j1 i1 i0 hj ej et em s1 s0 ew; lia)) hp' hw i0 i1
  have o7 : okInt (s - 1) = true := okInt_of (by (clear L2 L1 W1 W0 L b3 b2 j1 i1 i0 hj ej et em l ew; lia))
  have RL : ((rowsOf [tot, zx] (2 * wn)).map pairV ++ (rowsOf [q, r, 3] wn).map pairV).length = 7 * wn := by
    rw [← List.map_append, List.length_map]; exact rowsP_len wn tot zx q r
  have hadd : binV .add (.lst ((rowsOf [tot, zx] (2 * wn)).map pairV)) (.lst ((rowsOf [q, r, 3] wn).map pairV)) = some (.lst ((rowsOf [tot, zx] (2 * wn)).map pairV ++ (rowsOf [q, r, 3] wn).map pairV)) :=
    b_addl (okLen_of (by rw [← List.length_append, RL]; (clear RL o7 L2 L1 W0 L b3 b2 j1 i1 i0 hj ej et em s1 s0 l; lia)))
  have hlen : ∀ H, callBi .len [.lst ((rowsOf [tot, zx] (2 * wn)).map pairV ++ (rowsOf [q, r, 3] wn).map pairV)] H = some (.int ((7 * wn : Nat) : Int), H) := fun H => by
    rw [call_len (by rw [RL]; (clear hadd RL o7 L2 L1 W0 L b3 b2 j1 i1 i0 hj ej et em s1 s0 l; lia)), RL]
  have hsub : ∀ H, subV H (.lst ((rowsOf [tot, zx] (2 * wn)).map pairV ++ (rowsOf [q, r, 3] wn).map pairV)) (.int (Int.fmod (s - 7 + turn) ((7 * wn : Nat) : Int))) = some (.tup [.int p, .int i]) := fun H => by
    rw [ej]
    refine sub_lst (by (clear hadd RL o7 L2 L1 W1 W0 L b3 b2 j1 i1 i0 hj ej et em s1 s0 l ew; lia)) ?_ (by (clear hadd RL o7 L2 L1 W1 W0 L b3 b2 i1 i0 hj ej et em s1 s0 l ew; lia))
    rw [← List.map_append, Int.toNat_natCast, List.getElem?_map, show rowsOf [tot, zx] (2 * wn) ++ rowsOf [q, r, 3] wn = rowsP wn tot zx q r from rfl, hj]; rfl
  have hmod : binV .mod (.int (s - 7 + turn)) (.int ((7 * wn : Nat) : Int)) = some (.int (Int.fmod (s - 7 + turn) ((7 * wn : Nat) : Int))) := b_mod (by (clear hadd RL o7 L2 L1 W1 L b3 b2 j1 i1 i0 hj ej et em s1 s0 l; lia))
  have h2w : binV .mul (.int 2) (.int w) = some (.int ((2 * wn : Nat) : Int)) := by rw [b_mul (by decide), ew]; rfl
  subst ew
  apply c_nxt'
  · rfl
  · (repeat' (first | walk_at "mini e" | exact f_w g.toGd | exact f_q g.toGd g.fq | exact f_r g.toGd g.fr | exact f_z g.toGd g.fz | exact f_ext g.toGd g.b4 (g.fq.at (by (clear h2w W1 W0 hmod hadd RL o7 L2 L1 L b3 b2 j1 i1 i0 hj ej et em s1 s0; lia))) rfl g.eq | exact f_ext g.toGd g.b4 a2 b2 g.ey | exact f_ext g.toGd g.b4 (g.fr.at (by (clear h2w W1 W0 hmod hadd RL o7 L2 L1 L b3 b2 j1 i1 i0 hj ej et em s1 s0; lia))) rfl g.er | exact f_ext g.toGd g.b4 a3 b3 g.ex | exact M _ | exact A _ | exact B _ | with_reducible exact hlen _ | with_reducible exact hsub _ | with_reducible exact slice_all s0 | apply e_slice_t | apply rows_ev (e2 := .bin .mul (.num 2) (.var 119)) (parts := [tot, zx]) (k := 2 * wn) (by simp) (by (clear h2w W0 hmod hadd RL o7 L2 L1 L b3 b2 j1 i1 i0 hj ej et em s1 s0 l; lia)) | apply rows_ev (e2 := .var 119) (parts := [q, r, 3]) (k := wn) (by simp) (by (clear h2w W0 hmod hadd RL o7 L2 L1 L b3 b2 j1 i1 i0 hj ej et em s1 s0 l; lia)) | intro _ | apply e_comp1 | walk_at "mini a"))
  · rfl
end
end Mini.L3
end
section
set_option autoImplicit false
set_option maxRecDepth 10000
set_option maxHeartbeats 2000000
namespace Mini.L3
open Mini

/-! the bank of the law, written out -/
noncomputable def nz (k : Nat) : Int := if k = 0 then 5 else 6
noncomputable def yy (k way : Nat) : Int := match way with | 0 => 4 | 1 => 5 | 2 => nz k | _ => 3
noncomputable def qi (k : Nat) : Int := nz k + 1
noncomputable def ri (k : Nat) : Int := nz k + 2
noncomputable def ci (k way : Nat) : Int := nz k + 2 + (if yy k way = nz k then 0 else 1)
noncomputable def zqi (k way : Nat) : Int := ci k way + 1
noncomputable def zyi (k way : Nat) : Int := ci k way + 2
noncomputable def zri (k way : Nat) : Int := ci k way + 3
noncomputable def zxi (k way : Nat) : Int := if way = 3 then ci k way + 2 else ci k way + 4
noncomputable def di (k way : Nat) : Int := ci k way + 3 + (if way = 3 then 0 else 1)
noncomputable def ui (k way : Nat) : Int := di k way + 1
noncomputable def mi (k way : Nat) : Int := di k way + 2
noncomputable def ti (k way : Nat) : Int := di k way + 3
noncomputable abbrev tt : Tm := ⟨1702195828, [], 0, 0⟩
noncomputable abbrev tf : Tm := ⟨435728179558, [], 0, 0⟩
noncomputable def b0 (k : Nat) : List Tm := [tt, tf, ⟨7368801, [], 3, 0⟩, ⟨7368801, [], 3, 1⟩, ⟨470121608802, [], 3, (k : Int)⟩] ++ (if k = 0 then [] else [tz])
noncomputable def FL (w : Int) (k way : Nat) : List Tm :=
  b0 k ++ ([tq (yy k way), tr (yy k way)] ++ ((if yy k way = nz k then [] else [te (yy k way) (nz k)]) ++ ([tw w (qi k), tw w (yy k way), tw w (ri k)] ++ ((if way = 3 then [] else [tw w 3]) ++ [tu (ri k) (yy k way), tm (zqi k way) (zyi k way), ta (mi k way) (zri k way)]))))
noncomputable def eqL : List Tm → List Tm → Bool
  | [], [] => true
  | a :: l, b :: m => a.eqb b && eqL l m
  | _, _ => false
theorem eqL_iff : ∀ {l m : List Tm}, eqL l m = true → l = m
  | [], [], _ => rfl
  | [], _ :: _, h => by cases h
  | _ :: _, [], h => by cases h
  | a :: l, b :: m, h => by
    simp only [eqL, Bool.and_eq_true] at h
    rw [Tm.eqb_iff.1 h.1, eqL_iff h.2]
noncomputable def fdB (ts : List Tm) (t : Tm) (k : Int) : Bool := ((find 1 ts t : Int) == k) && decide (1 ≤ k)
theorem fdB_iff {ts : List Tm} {t : Tm} {k : Int} (h : fdB ts t k = true) : Fd ts t k := by
  simp only [fdB, Bool.and_eq_true, beq_iff_eq, decide_eq_true_eq] at h; exact h
/-- how long the bank is after so many pieces -/
noncomputable def ln (k way : Nat) : Nat → Nat
  | 0 => (nz k).toNat
  | 1 => (ri k).toNat
  | 2 => (ci k way).toNat
  | 3 => (zqi k way).toNat
  | 4 => (zyi k way).toNat
  | 5 => (zri k way).toNat
  | 6 => (di k way).toNat
  | _ => (ui k way).toNat
noncomputable def St7 (w : Int) (k way m : Nat) : List Tm := (FL w k way).take (ln k way m)
noncomputable def noBit (ts : List Tm) : Bool := ts.all fun t => !(Nat.beq t.op 7629154)
noncomputable def nodupP : List (Int × Int) → Bool
  | [] => true
  | a :: l => !(l.any fun b => a.1 == b.1 && a.2 == b.2) && nodupP l
noncomputable def chkF (w k way : Nat) : Bool :=
  eqL (St7 w k way 0) (b0 k) &&
  eqL (put (put (St7 w k way 0) (tq (yy k way))) (tr (yy k way))) (St7 w k way 1) &&
  eqL (if yy k way = nz k then St7 w k way 1 else put (St7 w k way 1) (te (yy k way) (nz k))) (St7 w k way 2) &&
  eqL (put (St7 w k way 2) (tw w (qi k))) (St7 w k way 3) &&
  eqL (put (St7 w k way 3) (tw w (yy k way))) (St7 w k way 4) &&
  eqL (put (St7 w k way 4) (tw w (ri k))) (St7 w k way 5) &&
  eqL (put (St7 w k way 5) (tw w 3)) (St7 w k way 6) &&
  eqL (put (St7 w k way 6) (tu (ri k) (yy k way))) (St7 w k way 7) &&
  eqL (put (put (St7 w k way 7) (tm (zqi k way) (zyi k way))) (ta (mi k way) (zri k way))) (FL w k way) &&
  fdB (put (St7 w k way 7) (tm (zqi k way) (zyi k way))) (tm (zqi k way) (zyi k way)) (mi k way) &&
  fdB (St7 w k way 1) (tq (yy k way)) (qi k) && fdB (St7 w k way 1) (tr (yy k way)) (ri k) && fdB (St7 w k way 0) tz (nz k) &&
  fdB (St7 w k way 3) (tw w (qi k)) (zqi k way) && fdB (St7 w k way 4) (tw w (yy k way)) (zyi k way) && fdB (St7 w k way 5) (tw w (ri k)) (zri k way) && fdB (St7 w k way 6) (tw w 3) (zxi k way) &&
  (decide (yy k way = nz k) || fdB (FL w k way) (te (yy k way) (nz k)) (ci k way)) &&
  fdB (FL w k way) (tu (ri k) (yy k way)) (ui k way) && fdB (FL w k way) (tm (zqi k way) (zyi k way)) (mi k way) && fdB (FL w k way) (ta (mi k way) (zri k way)) (ti k way) &&
  noBit (FL w k way) && nodupP (rowsP w (ti k way) (zxi k way) (qi k) (ri k)) && Nat.beq (FL w k way).length (ti k way).toNat &&
  fdB (FL w k way) tt 1 && fdB (b0 k) ⟨7368801, [], 3, 0⟩ 3 && fdB (b0 k) ⟨7368801, [], 3, 1⟩ 4 && fdB (b0 k) ⟨470121608802, [], 3, (k : Int)⟩ 5
theorem chk_all : (([1, 2, 3] : List Nat).all fun w => (List.range 8).all fun k => (List.range 4).all fun way => chkF w k way) = true := by decide +kernel
theorem chk_of {w k way : Nat} (w0 : 1 ≤ w) (w1 : w ≤ 3) (hk : k < 8) (hw : way < 4) : chkF w k way = true := by
  have h := chk_all
  rw [List.all_eq_true] at h
  have h := h w (by have : w = 1 ∨ w = 2 ∨ w = 3 := by (clear hw hk; lia)
                    rcases this with rfl | rfl | rfl <;> simp)
  rw [List.all_eq_true] at h
  have h := h k (List.mem_range.2 hk)
  rw [List.all_eq_true] at h
  exact h way (List.mem_range.2 hw)
end Mini.L3
end
section
set_option autoImplicit false
set_option maxRecDepth 10000
set_option maxHeartbeats 2000000
namespace Mini.L3
open Mini

noncomputable def wtext (w : Nat) : Nat := 48 + w
noncomputable def X1 (w : Nat) : Ext := { names := [.str 1819242306, .str 7630409, .str 1818322258, .str (strCat 152949257266967150092072 (strCat (wtext w) 41))], widths := [.int 0, .int 0, .int 0, .int (w : Int)], fnames := [.str 120, .str 121], fargs := [.tup [], .tup []], fres := [.int 3, .int 3], bvn := [((w : Int), .int 3)] }
noncomputable def X2 (w : Nat) : Ext := (X1 w).more ((w : Int) + (w : Int)) (wtext (w + w))
noncomputable def Xm (w m : Nat) : Ext := if m ≤ 2 then X1 w else X2 w
noncomputable def rowL (w k way : Nat) : List (Int × Int) := rowsP w (ti k way) (zxi k way) (qi k) (ri k)
noncomputable def bitN (w k way turn i : Nat) : Tm := match (rowL w k way)[(i + turn) % (7 * w)]? with | some p => tb p.1 p.2 | none => tt
noncomputable def bitsN (w k way turn j : Nat) : List Tm := (List.range j).map (bitN w k way turn)
noncomputable def Sm (w k way turn m : Nat) : List Tm := if m ≤ 7 then St7 w k way m else FL w k way ++ bitsN w k way turn (m - 7)

theorem w3 {w : Nat} (w0 : 1 ≤ w) (w1 : w ≤ 3) : w = 1 ∨ w = 2 ∨ w = 3 := by lia
theorem wd1 {w : Nat} : Wd (X1 w) 3 w := ⟨by decide, by decide, rfl⟩
theorem wd2 {w : Nat} : Wd (X2 w) 3 w := ⟨by decide, by decide, rfl⟩
theorem wd4 {w : Nat} : Wd (X2 w) 4 (2 * (w : Int)) := ⟨by decide, by decide, by rw [Int.two_mul]; rfl⟩
theorem bv1 {w : Nat} : getI (X1 w).bvn w = some (.int 3) := by simp [X1, getI]
theorem bv1n {w : Nat} (w0 : 1 ≤ w) : getI (X1 w).bvn ((w : Int) + w) = none := by
  have : ((w : Int) + w == (w : Int)) = false := by
    rw [beq_eq_false_iff_ne]; lia
  simp only [X1, getI, this, cond_false]
theorem bv2e {w : Nat} (w0 : 1 ≤ w) : (X2 w).bvn = [((w : Int), .int 3), ((w : Int) + w, .int 4)] := by
  have : ((w : Int) + w == (w : Int)) = false := by
    rw [beq_eq_false_iff_ne]; lia
  show setI [((w : Int), .int 3)] ((w : Int) + w) (.int 4) = _
  simp only [setI, this, cond_false]
theorem bv2 {w : Nat} (w0 : 1 ≤ w) : getI (X2 w).bvn w = some (.int 3) := by rw [bv2e w0]; simp [getI]
theorem bv4 {w : Nat} (w0 : 1 ≤ w) : getI (X2 w).bvn ((w : Int) + w) = some (.int 4) := by
  have : ((w : Int) + w == (w : Int)) = false := by
    rw [beq_eq_false_iff_ne]; lia
  rw [bv2e w0]; simp [getI, this]
theorem txt {w : Nat} (w0 : 1 ≤ w) (w1 : w ≤ 3) : intText ((w : Int) + w) = some (wtext (w + w)) := by
  rcases w3 w0 w1 with rfl | rfl | rfl <;> rfl

/-- the facts of the check, one by one -/
structure Facts (w k way : Nat) : Prop where
  s0 : St7 w k way 0 = b0 k
  s1 : put (put (St7 w k way 0) (tq (yy k way))) (tr (yy k way)) = St7 w k way 1
  s2 : (if yy k way = nz k then St7 w k way 1 else put (St7 w k way 1) (te (yy k way) (nz k))) = St7 w k way 2
  s3 : put (St7 w k way 2) (tw w (qi k)) = St7 w k way 3
  s4 : put (St7 w k way 3) (tw w (yy k way)) = St7 w k way 4
  s5 : put (St7 w k way 4) (tw w (ri k)) = St7 w k way 5
  s6 : put (St7 w k way 5) (tw w 3) = St7 w k way 6
  s7 : put (St7 w k way 6) (tu (ri k) (yy k way)) = St7 w k way 7
  s8 : put (put (St7 w k way 7) (tm (zqi k way) (zyi k way))) (ta (mi k way) (zri k way)) = FL w k way
  fm : Fd (put (St7 w k way 7) (tm (zqi k way) (zyi k way))) (tm (zqi k way) (zyi k way)) (mi k way)
  fq : Fd (St7 w k way 1) (tq (yy k way)) (qi k)
  fr : Fd (St7 w k way 1) (tr (yy k way)) (ri k)
  fz : Fd (St7 w k way 0) tz (nz k)
  fzq : Fd (St7 w k way 3) (tw w (qi k)) (zqi k way)
  fzy : Fd (St7 w k way 4) (tw w (yy k way)) (zyi k way)
  fzr : Fd (St7 w k way 5) (tw w (ri k)) (zri k way)
  fzx : Fd (St7 w k way 6) (tw w 3) (zxi k way)
  fe : yy k way = nz k ∨ Fd (FL w k way) (te (yy k way) (nz k)) (ci k way)
  fu : Fd (FL w k way) (tu (ri k) (yy k way)) (ui k way)
  fm' : Fd (FL w k way) (tm (zqi k way) (zyi k way)) (mi k way)
  fa : Fd (FL w k way) (ta (mi k way) (zri k way)) (ti k way)
  nb : noBit (FL w k way) = true
  nd : nodupP (rowsP w (ti k way) (zxi k way) (qi k) (ri k)) = true
  len : (FL w k way).length = (ti k way).toNat
  ft : Fd (FL w k way) tt 1
  fx : Fd (b0 k) ⟨7368801, [], 3, 0⟩ 3
  fo : Fd (b0 k) ⟨7368801, [], 3, 1⟩ 4
  fn : Fd (b0 k) ⟨470121608802, [], 3, (k : Int)⟩ 5
theorem facts {w k way : Nat} (w0 : 1 ≤ w) (w1 : w ≤ 3) (hk : k < 8) (hw : way < 4) : Facts w k way := by
  have h := chk_of w0 w1 hk hw
  simp only [chkF, Bool.and_eq_true, Bool.or_eq_true, decide_eq_true_eq] at h
  obtain ⟨⟨⟨⟨⟨⟨⟨⟨⟨⟨⟨⟨⟨⟨⟨⟨⟨⟨⟨⟨⟨⟨⟨⟨⟨⟨⟨h1, h2⟩, h3⟩, h4⟩, h5⟩, h6⟩, h7⟩, h8⟩, h9⟩, h10⟩, h11⟩, h12⟩, h13⟩, h14⟩, h15⟩, h16⟩, h17⟩, h18⟩, h19⟩, h20⟩, h21⟩, h22⟩, h23⟩, h24⟩, h25⟩, h26⟩, h27⟩, h28⟩ := h
  exact ⟨eqL_iff h1, eqL_iff h2, eqL_iff h3, eqL_iff h4, eqL_iff h5, eqL_iff h6, eqL_iff h7, eqL_iff h8, eqL_iff h9, fdB_iff h10, fdB_iff h11, fdB_iff h12, fdB_iff h13, fdB_iff h14, fdB_iff h15, fdB_iff h16, fdB_iff h17, h18.imp id fdB_iff, fdB_iff h19, fdB_iff h20, fdB_iff h21, h22, h23, Nat.eq_of_beq_eq_true h24, fdB_iff h25, fdB_iff h26, fdB_iff h27, fdB_iff h28⟩

section
variable {w k way turn m : Nat}
set_option genInjectivity false in
set_option genSizeOf false in
/-- how the numbers of the marks lie -/
structure Lens (k way : Nat) : Prop where
  a1 : 5 ≤ nz k
  a2 : nz k ≤ 6
  a3 : ri k = nz k + 2
  a4 : ri k ≤ ci k way
  a5 : ci k way ≤ ri k + 1
  a6 : zqi k way = ci k way + 1
  a7 : zyi k way = ci k way + 2
  a8 : zri k way = ci k way + 3
  a9 : ci k way + 3 ≤ di k way
  a10 : di k way ≤ ci k way + 4
  a11 : ui k way = di k way + 1
  a12 : mi k way = di k way + 2
  a13 : ti k way = di k way + 3
  a14 : ci k way + 2 ≤ zxi k way
  a15 : zxi k way ≤ di k way
  a16 : qi k = nz k + 1
theorem lens (k way : Nat) : Lens k way := by
  refine ⟨?_, ?_, rfl, ?_, ?_, rfl, rfl, rfl, ?_, ?_, rfl, rfl, rfl, ?_, ?_, rfl⟩ <;> (repeat' first | unfold zxi | unfold di | unfold ci | unfold ri | unfold nz) <;> (repeat' split) <;> lia
theorem ln7 {i : Nat} (h : 7 ≤ i) : ln k way i = (ui k way).toNat := by
  match i, h with
  | n + 7, _ => rfl
theorem le_toNat {a b : Int} (h : a ≤ b) : a.toNat ≤ b.toNat := by lia
theorem ln_succ (i : Nat) : ln k way i ≤ ln k way (i+1) := by
  obtain ⟨a1, a2, a3, a4, a5, a6, a7, a8, a9, a10, a11, a12, a13, a14, a15, a16⟩ := lens k way
  match i with
  | 0 => exact le_toNat (by clear a1 a2 a4 a5 a6 a7 a8 a9 a10 a11 a12 a13 a14 a15 a16; lia)
  | 1 => exact le_toNat a4
  | 2 => exact le_toNat (by clear a1 a2 a3 a4 a5 a7 a8 a9 a10 a11 a12 a13 a14 a15 a16; lia)
  | 3 => exact le_toNat (by clear a1 a2 a3 a4 a5 a8 a9 a10 a11 a12 a13 a14 a15 a16; lia)
  | 4 => exact le_toNat (by clear a1 a2 a3 a4 a5 a6 a9 a10 a11 a12 a13 a14 a15 a16; lia)
  | 5 => exact le_toNat (by clear a1 a2 a3 a4 a5 a6 a7 a10 a11 a12 a13 a14 a15 a16; lia)
  | 6 => exact le_toNat (by clear a1 a2 a3 a4 a5 a6 a7 a8 a9 a10 a12 a13 a14 a15 a16; lia)
  | n + 7 => exact Nat.le_refl _
theorem ln_mono {i j : Nat} (h : i ≤ j) : ln k way i ≤ ln k way j := by
  induction h with
  | refl => exact Nat.le_refl _
  | step _ ih => exact Nat.le_trans ih (ln_succ _)
theorem ln_le {i : Nat} : (ln k way i : Int) ≤ ui k way := by
  obtain ⟨a1, a2, a3, a4, a5, a6, a7, a8, a9, a10, a11, a12, a13, a14, a15, a16⟩ := lens k way
  have h1 := ln_mono (k := k) (way := way) (show i ≤ i + 7 by (clear a16 a15 a14 a13 a12 a11 a10 a9 a8 a7 a6 a5 a4 a3 a2 a1; lia))
  have h2 := ln7 (k := k) (way := way) (show 7 ≤ i + 7 by (clear h1 a16 a15 a14 a13 a12 a11 a10 a9 a8 a7 a6 a5 a4 a3 a2 a1; lia))
  have h3 : 0 ≤ ui k way := by (clear h2 h1 a16 a15 a14 a13 a12 a10 a8 a7 a6 a5 a2; lia)
  clear a1 a2 a3 a4 a5 a6 a7 a8 a9 a10 a11 a12 a13 a14 a15 a16
  lia
theorem pre {i : Nat} (h : i ≤ m) (h7 : i ≤ 7) : ∃ us, Sm w k way turn m = St7 w k way i ++ us := by
  unfold Sm
  split
  · have := ln_mono (k := k) (way := way) h
    refine ⟨((FL w k way).take (ln k way m)).drop (ln k way i), ?_⟩
    have e := List.take_append_drop (ln k way i) ((FL w k way).take (ln k way m))
    rw [List.take_take, Nat.min_eq_left this] at e
    exact e.symm
  · refine ⟨(FL w k way).drop (ln k way i) ++ bitsN w k way turn (m - 7), ?_⟩
    rw [← List.append_assoc]
    unfold St7; rw [List.take_append_drop]
theorem fdS {i : Nat} {t : Tm} {x : Int} (h : i ≤ m) (h7 : i ≤ 7) (f : Fd (St7 w k way i) t x) : Fd (Sm w k way turn m) t x := by
  refine x1a1 (pre (w := w) (k := k) (way := way) (turn := turn) h h7) fun us e => ?_
  rw [e]; exact f.append
theorem SmF (h : 7 < m) : Sm w k way turn m = FL w k way ++ bitsN w k way turn (m - 7) := by unfold Sm; rw [if_neg (by lia)]
theorem Sm_len (F : Facts w k way) (w1 : w ≤ 3) (h : m ≤ 7 + 7 * w) : (Sm w k way turn m).length ≤ 50 := by
  obtain ⟨a1, a2, a3, a4, a5, a6, a7, a8, a9, a10, a11, a12, a13, a14, a15, a16⟩ := lens k way
  have L := F.len
  unfold Sm
  split
  · unfold St7; rw [List.length_take, L]; (clear L a16 a15 a14 a12 a11 a9 a8 a7 a6 a4 a1 h w1; lia)
  · rw [List.length_append, L]; unfold bitsN; rw [List.length_map, List.length_range]; (clear L a16 a15 a14 a12 a11 a9 a8 a7 a6 a4 a1; lia)
theorem Sx (F : Facts w k way) : Fd (Sm w k way turn m) ⟨7368801, [], 3, 0⟩ 3 := fdS (i := 0) (by lia) (by lia) (by rw [F.s0]; exact F.fx)
theorem Sy (F : Facts w k way) (hw : way < 4) : ∃ t, Fd (Sm w k way turn m) t (yy k way) ∧ t.sort = 3 := by
  have : way = 0 ∨ way = 1 ∨ way = 2 ∨ way = 3 := by lia
  rcases this with rfl | rfl | rfl | rfl
  · exact ⟨_, fdS (i := 0) (by (clear hw; lia)) (by (clear hw; lia)) (by rw [F.s0]; exact F.fo), rfl⟩
  · exact ⟨_, fdS (i := 0) (by (clear hw; lia)) (by (clear hw; lia)) (by rw [F.s0]; exact F.fn), rfl⟩
  · exact ⟨_, fdS (i := 0) (by (clear hw; lia)) (by (clear hw; lia)) F.fz, rfl⟩
  · exact ⟨_, Sx F, rfl⟩
theorem gd (F : Facts w k way) (w0 : 1 ≤ w) (w1 : w ≤ 3) (hw : way < 4) (h : m ≤ 7 + 7 * w) : Gd (Xm w m) (Sm w k way turn m) w (yy k way) := by
  have L := Sm_len (turn := turn) F w1 h
  refine ⟨by (clear h hw w1 w0; lia), ⟨_, (Sx F).at (by (clear h hw w1 w0; lia)), rfl⟩, ?_, ?_, by (clear L h hw w1; lia), by (clear L h hw w0; lia), ?_⟩
  · refine x1a2 (Sy (turn := turn) (m := m) F hw) fun t a b => ?_; exact ⟨t, a.at (by (clear b h hw w1 w0; lia)), b⟩
  · unfold Xm; split
    · exact wd1
    · exact wd2
  · unfold Xm; split
    · exact bv1
    · exact bv2 w0
theorem ge (F : Facts w k way) (w0 : 1 ≤ w) (w1 : w ≤ 3) (hw : way < 4) (h : m ≤ 7 + 7 * w) (h1 : 1 ≤ m) : Ge (Xm w m) (Sm w k way turn m) w (yy k way) (qi k) (ri k) (nz k) :=
  ⟨gd F w0 w1 hw h, fdS h1 (by (clear h1 h hw w1 w0; lia)) F.fq, fdS h1 (by (clear h1 h hw w1 w0; lia)) F.fr, fdS (i := 0) (by (clear h1 h hw w1 w0; lia)) (by (clear h1 h hw w1 w0; lia)) F.fz⟩
theorem gf (F : Facts w k way) (w0 : 1 ≤ w) (w1 : w ≤ 3) (hw : way < 4) (h : m ≤ 7 + 7 * w) (h1 : 6 ≤ m) : Gf (X2 w) (Sm w k way turn m) w (yy k way) (qi k) (ri k) (nz k) (zqi k way) (zyi k way) (zri k way) (zxi k way) := by
  have g := ge (turn := turn) F w0 w1 hw h (by (clear h hw w1 w0; lia))
  rw [show Xm w m = X2 w by unfold Xm; rw [if_neg (by (clear h hw w1 w0; lia))]] at g
  exact ⟨g, bv4 w0, wd4, fdS (by (clear h hw w1 w0; lia)) (by (clear h1 h hw w1 w0; lia)) F.fzq, fdS (by (clear h hw w1 w0; lia)) (by (clear h1 h hw w1 w0; lia)) F.fzy, fdS (by (clear h hw w1 w0; lia)) (by (clear h1 h hw w1 w0; lia)) F.fzr, fdS h1 (by (clear h1 h hw w1 w0; lia)) F.fzx⟩
end
end Mini.L3
end
section
set_option autoImplicit false
set_option maxRecDepth 10000
set_option maxHeartbeats 2000000
namespace Mini.L3
open Mini

theorem nodupP_mem : ∀ {l : List (Int × Int)} {x : Int × Int} {b : Nat}, (l.any fun c => x.1 == c.1 && x.2 == c.2) = false → l[b]? = some x → False
  | [], x, b, _, h => by simp at h
  | c :: l, x, 0, h, g => by
    simp only [List.getElem?_cons_zero, Option.some.injEq] at g
    subst g
    simp at h
  | c :: l, x, b+1, h, g => by
    simp only [List.any_cons, Bool.or_eq_false_iff] at h
    rw [List.getElem?_cons_succ] at g
    exact nodupP_mem h.2 g
theorem nodupP_inj : ∀ {l : List (Int × Int)} {a b : Nat} {x : Int × Int}, nodupP l = true → l[a]? = some x → l[b]? = some x → a = b
  | [], a, b, x, _, h, _ => by simp at h
  | c :: l, 0, 0, x, _, _, _ => rfl
  | c :: l, 0, b+1, x, h, g, k => by
    simp only [nodupP, Bool.and_eq_true, Bool.not_eq_true'] at h
    simp only [List.getElem?_cons_zero, Option.some.injEq] at g
    subst g
    rw [List.getElem?_cons_succ] at k
    exact (nodupP_mem h.1 k).elim
  | c :: l, a+1, 0, x, h, g, k => by
    simp only [nodupP, Bool.and_eq_true, Bool.not_eq_true'] at h
    simp only [List.getElem?_cons_zero, Option.some.injEq] at k
    subst k
    rw [List.getElem?_cons_succ] at g
    exact (nodupP_mem h.1 g).elim
  | c :: l, a+1, b+1, x, h, g, k => by
    simp only [nodupP, Bool.and_eq_true, Bool.not_eq_true'] at h
    rw [List.getElem?_cons_succ] at g k
    rw [nodupP_inj h.2 g k]
theorem find_none : ∀ (k : Nat) (ts : List Tm) (t : Tm), (∀ u ∈ ts, u ≠ t) → find (k+1) ts t = 0
  | k, [], t, _ => rfl
  | k, u :: r, t, h => by
    have e : u.eqb t = false := by
      rcases Bool.eq_false_or_eq_true (u.eqb t) with e | e
      · exact absurd (Tm.eqb_iff.1 e) (h u (List.mem_cons_self ..))
      · exact e
    simp only [find, e, cond_false]
    exact find_none (k+1) r t fun v hv => h v (List.mem_cons_of_mem _ hv)
theorem rowsOf_mem {parts : List Int} {kk : Nat} {p i : Int} (h : (p, i) ∈ rowsOf parts kk) : p ∈ parts ∧ 0 ≤ i ∧ i < kk := by
  unfold rowsOf at h
  refine x1a2 (List.mem_flatMap.1 h) fun p' hp h => ?_
  refine x1a2 (List.mem_map.1 h) fun i' hi e => ?_
  cases e
  exact ⟨hp, by lia, by have := List.mem_range.1 hi; lia⟩
section
variable {w k way turn m : Nat}
theorem rowL_len : (rowL w k way).length = 7 * w := rowsP_len ..
theorem rowL_get (j : Nat) (h : j < 7 * w) : ∃ p, (rowL w k way)[j]? = some p := ⟨_, List.getElem?_eq_getElem (by rw [rowL_len]; exact h)⟩
theorem bitN_eq {i j : Nat} {p : Int × Int} (e : (i + turn) % (7 * w) = j) (h : (rowL w k way)[j]? = some p) : bitN w k way turn i = tb p.1 p.2 := by
  unfold bitN; rw [e, h]
theorem noBit_mem {ts : List Tm} (h : noBit ts = true) {t : Tm} (ht : t ∈ ts) : t.op ≠ 7629154 := by
  unfold noBit at h
  rw [List.all_eq_true] at h
  have := h t ht
  intro e; rw [e] at this; simp at this
theorem bits_new (F : Facts w k way) (w0 : 1 ≤ w) {i0 : Nat} (hi : i0 < 7 * w) : put (FL w k way ++ bitsN w k way turn i0) (bitN w k way turn i0) = FL w k way ++ bitsN w k way turn (i0 + 1) := by
  have j0 : (i0 + turn) % (7 * w) < 7 * w := Nat.mod_lt _ (by (clear hi; lia))
  refine x1a1 (rowL_get (w := w) (k := k) (way := way) _ j0) fun p hp => ?_
  have e := bitN_eq rfl hp
  have : find 1 (FL w k way ++ bitsN w k way turn i0) (bitN w k way turn i0) = 0 := by
    refine find_none 0 _ _ fun u hu => ?_
    rcases List.mem_append.1 hu with hu | hu
    · intro q; exact noBit_mem F.nb hu (by rw [q, e])
    · obtain ⟨i, hi', rfl⟩ := List.mem_map.1 hu
      have hi' := List.mem_range.1 hi'
      refine x1a1 (rowL_get (w := w) (k := k) (way := way) _ (Nat.mod_lt (i + turn) (by (clear hi' e hp j0 hi; lia) : 0 < 7 * w))) fun p' hp' => ?_
      rw [e, bitN_eq rfl hp']
      intro q
      have q1 : p'.1 = p.1 := by injection q with _ q1 _ _; injection q1
      have q2 : p'.2 = p.2 := by injection q
      have q3 : p' = p := Prod.ext q1 q2
      rw [q3] at hp'
      have q4 := nodupP_inj F.nd hp' hp
      have q5 := Nat.div_add_mod (i + turn) (7 * w)
      have q6 := Nat.div_add_mod (i0 + turn) (7 * w)
      rw [q4] at q5
      have q7 : i + turn + 7 * w * ((i0 + turn) / (7 * w)) = i0 + turn + 7 * w * ((i + turn) / (7 * w)) := by (clear q4 q3 q2 q1 q hp' hi' e hp j0 hi w0; lia)
      rcases Nat.lt_or_ge ((i + turn) / (7 * w)) ((i0 + turn) / (7 * w)) with l | l
      · have := Nat.mul_le_mul_left (7 * w) (Nat.succ_le_of_lt l)
        rw [Nat.mul_succ] at this; (clear l q7 q4 q3 q2 q1 q hp' hi' e hp j0 w0; lia)
      · have := Nat.mul_le_mul_left (7 * w) l; (clear l q7 q4 q3 q2 q1 q hp' e hp j0 hi w0; lia)
  unfold put; rw [if_pos this, List.append_assoc]
  congr 1
  unfold bitsN
  rw [List.range_succ, List.map_append]; rfl
theorem Sm_late (F : Facts w k way) (h : 7 ≤ m) : put (put (Sm w k way turn m) (tm (zqi k way) (zyi k way))) (ta (mi k way) (zri k way)) = FL w k way ++ bitsN w k way turn (m - 7) := by
  by_cases e : m = 7
  · subst e
    show put (put (St7 w k way 7) _) _ = _
    rw [F.s8]; simp [bitsN]
  · rw [SmF (by lia), (F.fm'.append).same, (F.fa.append).same]
theorem Sm_tm (F : Facts w k way) (h : 7 ≤ m) : Fd (put (Sm w k way turn m) (tm (zqi k way) (zyi k way))) (tm (zqi k way) (zyi k way)) (mi k way) := by
  by_cases e : m = 7
  · subst e; exact F.fm
  · rw [SmF (by lia), (F.fm'.append).same]; exact F.fm'.append
theorem row_at (F : Facts w k way) (w0 : 1 ≤ w) (w1 : w ≤ 3) {us : List Tm} (hu : us.length ≤ 30) (pr : ∃ vs, FL w k way ++ us = b0 k ++ vs) {p i : Int} (h : (p, i) ∈ rowL w k way) (fq : Fd (FL w k way ++ us) (tq (yy k way)) (qi k)) (fr : Fd (FL w k way ++ us) (tr (yy k way)) (ri k)) (fx : Fd (FL w k way ++ us) (tw w 3) (zxi k way)) :
    ∃ t wp, At (FL w k way ++ us) p t ∧ Wd (X2 w) t.sort wp ∧ 0 ≤ i ∧ i < wp := by
  obtain ⟨a1, a2, a3, a4, a5, a6, a7, a8, a9, a10, a11, a12, a13, a14, a15, a16⟩ := lens k way
  have L : (FL w k way ++ us).length ≤ 1000 := by rw [List.length_append, F.len]; (clear a16 a15 a14 a12 a11 a9 a8 a7 a6 a4 a1 w1 w0; lia)
  rcases List.mem_append.1 h with h | h
  · refine x0a3 (rowsOf_mem h) fun hp i0 i1 => ?_
    simp only [List.mem_cons, List.not_mem_nil, or_false] at hp
    rcases hp with rfl | rfl
    · exact ⟨_, 2 * (w : Int), (F.fa.append).at L, wd4, i0, by (clear i0 L a16 a15 a14 a13 a12 a11 a10 a9 a8 a7 a6 a5 a4 a3 a2 a1 hu w1 w0; lia)⟩
    · exact ⟨_, 2 * (w : Int), fx.at L, wd4, i0, by (clear i0 L a16 a15 a14 a13 a12 a11 a10 a9 a8 a7 a6 a5 a4 a3 a2 a1 hu w1 w0; lia)⟩
  · refine x0a3 (rowsOf_mem h) fun hp i0 i1 => ?_
    simp only [List.mem_cons, List.not_mem_nil, or_false] at hp
    refine x1a1 pr fun vs e => ?_
    rcases hp with rfl | rfl | rfl
    · exact ⟨_, (w : Int), fq.at L, wd2, i0, by (clear e i0 L a16 a15 a14 a13 a12 a11 a10 a9 a8 a7 a6 a5 a4 a3 a2 a1 hu w1 w0; lia)⟩
    · exact ⟨_, (w : Int), fr.at L, wd2, i0, by (clear e i0 L a16 a15 a14 a13 a12 a11 a10 a9 a8 a7 a6 a5 a4 a3 a2 a1 hu w1 w0; lia)⟩
    · refine ⟨_, (w : Int), Fd.at (t := ⟨7368801, [], 3, 0⟩) ?_ L, wd2, i0, by (clear e i0 L a16 a15 a14 a13 a12 a11 a10 a9 a8 a7 a6 a5 a4 a3 a2 a1 hu w1 w0; lia)⟩
      rw [e]; exact F.fx.append
theorem piece_all (F : Facts w k way) (w0 : 1 ≤ w) (w1 : w ≤ 3) (hw : way < 4) (ht : turn < 7 * w) (h : m < 7 + 7 * w) (n : Nat) (st : O) (rest : Hp) :
    Ca P (n+60) law_piece [.ref 1, .int 3, .int (yy k way), .int (m : Int), .int (turn : Int)] (hp st (Xm w m) (Sm w k way turn m) rest) .none (hp st (Xm w (m+1)) (Sm w k way turn (m+1)) rest) := by
  have L := Sm_len (turn := turn) (m := m) F w1 (by (clear ht hw w1 w0; lia))
  by_cases h7 : 7 ≤ m
  · have j0 : (m - 7 + turn) % (7 * w) < 7 * w := Nat.mod_lt _ (by (clear h7 L h ht hw w1; lia))
    obtain ⟨⟨p, i⟩, hp⟩ := rowL_get (w := w) (k := k) (way := way) _ j0
    have G := gf (turn := turn) F w0 w1 hw (m := m) (by (clear hp j0 h7 L ht hw w1 w0; lia)) (by (clear hp j0 L h ht hw w1 w0; lia))
    have M := Sm_tm (turn := turn) F h7
    have T := Sm_late (turn := turn) F h7
    have mem : (p, i) ∈ rowL w k way := List.mem_of_getElem? hp
    have A := (F.fa.append (us := bitsN w k way turn (m - 7)))
    refine x1a1 (pre (w := w) (k := k) (way := way) (turn := turn) (m := m + 1) (i := 0) (by (clear T hp j0 h7 L h ht hw w1 w0; lia)) (by (clear T hp j0 h7 L h ht hw w1 w0; lia))) fun vs pe => ?_
    obtain ⟨t, wp, r1, r2, r3, r4⟩ := row_at (us := bitsN w k way turn (m - 7)) F w0 w1 (by unfold bitsN; rw [List.length_map, List.length_range]; (clear pe T hp j0 h7 L ht hw w0; lia))
      ⟨(FL w k way).drop (ln k way 0) ++ bitsN w k way turn (m - 7), by
        have e := List.take_append_drop (ln k way 0) (FL w k way)
        rw [show (FL w k way).take (ln k way 0) = b0 k from F.s0] at e
        rw [← List.append_assoc, e]⟩ mem (by rw [← T]; exact (G.fq.put).put) (by rw [← T]; exact (G.fr.put).put) (by rw [← T]; exact (G.ex.put).put)
    rw [← T] at r1 A
    have e := piece7 (n := n) (st := st) (rest := rest) (turn := (turn : Int)) (s := (m : Int)) (wn := w) (j := (m - 7 + turn) % (7 * w)) (m := mi k way) (tot := ti k way) rfl G (by (clear r4 r3 pe T hp j0 h7 h ht hw w1 w0; lia)) (by (clear r4 r3 pe T hp j0 L h ht hw w1 w0; lia)) (by (clear r4 r3 pe T hp j0 h7 L ht hw w0; lia)) (by rw [M.fd]) (by rw [A.fd])
      (by rw [show ((m : Int) - 7 + turn) = ((m - 7 + turn : Nat) : Int) by (clear r4 r3 pe T hp j0 L h ht hw w1 w0; lia), Int.fmod_eq_emod_of_nonneg _ (by (clear r4 r3 pe T hp j0 h7 L h ht hw w1 w0; lia))]; rfl) hp r1 r2 r3 r4 (by (clear r4 r3 pe T hp h7 L h ht hw w0; lia))
    rw [T, show tb p i = bitN w k way turn (m - 7) from (bitN_eq rfl hp).symm, bits_new F w0 (by (clear r4 r3 pe T hp j0 h7 L ht hw w1; lia))] at e
    rw [show Xm w m = X2 w by unfold Xm; rw [if_neg (by (clear r4 r3 pe T hp j0 L h ht hw w1 w0; lia))], show Xm w (m+1) = X2 w by unfold Xm; rw [if_neg (by (clear r4 r3 pe T hp j0 L h ht hw w1 w0; lia))], SmF (by (clear r4 r3 pe T hp j0 L h ht hw w1 w0; lia) : 7 < m + 1), show m + 1 - 7 = m - 7 + 1 by (clear r4 r3 pe T hp j0 L h ht hw w1 w0; lia)]
    exact e
  · have hm : m = 0 ∨ m = 1 ∨ m = 2 ∨ m = 3 ∨ m = 4 ∨ m = 5 ∨ m = 6 := by (clear L h ht hw w1 w0; lia)
    rcases hm with rfl | rfl | rfl | rfl | rfl | rfl | rfl
    · have e := piece0 (n := n+20) (st := st) (rest := rest) (turn := (turn : Int)) (gd (turn := turn) (m := 0) F w0 w1 hw (by (clear h7 L h ht hw w1 w0; lia))) (by (clear h7 h ht hw w1 w0; lia))
      rw [show Sm w k way turn 0 = St7 w k way 0 from rfl, F.s1] at e
      exact e
    · have G := ge (turn := turn) (m := 1) F w0 w1 hw (by (clear h7 L h ht hw w1 w0; lia)) (by (clear h7 L h ht hw w1 w0; lia))
      have s2 := F.s2
      by_cases q : yy k way = nz k
      · rw [if_pos q] at s2
        have e := piece1s (n := n+20) (st := st) (rest := rest) (turn := (turn : Int)) G q
        show Ca P (n+60) law_piece _ (hp st (X1 w) (St7 w k way 1) rest) _ (hp st (X1 w) (St7 w k way 2) rest)
        rw [← s2]; exact e
      · rw [if_neg q] at s2
        have e := piece1 (n := n+20) (st := st) (rest := rest) (turn := (turn : Int)) G.toGd G.fq G.fr G.fz q
        show Ca P (n+60) law_piece _ (hp st (X1 w) (St7 w k way 1) rest) _ (hp st (X1 w) (St7 w k way 2) rest)
        rw [← s2]; exact e
    · have G := ge (turn := turn) (m := 2) F w0 w1 hw (by (clear h7 L h ht hw w1 w0; lia)) (by (clear h7 L h ht hw w1 w0; lia))
      have e := piece2 (n := n+20) (st := st) (rest := rest) (turn := (turn : Int)) G (bv1n w0) (txt w0 w1) rfl (show (4:Nat) ≤ 100 by decide) (show (1:Nat) ≤ 100 by decide)
      show Ca P (n+60) law_piece _ (hp st (X1 w) (St7 w k way 2) rest) _ (hp st (X2 w) (St7 w k way 3) rest)
      rw [← F.s3]; exact e
    · have G := ge (turn := turn) (m := 3) F w0 w1 hw (by (clear h7 L h ht hw w1 w0; lia)) (by (clear h7 L h ht hw w1 w0; lia))
      have e := piece3 (n := n+20) (st := st) (rest := rest) (turn := (turn : Int)) G (bv4 w0) F.fzq
      show Ca P (n+60) law_piece _ (hp st (X2 w) (St7 w k way 3) rest) _ (hp st (X2 w) (St7 w k way 4) rest)
      rw [← F.s4]; exact e
    · have G := ge (turn := turn) (m := 4) F w0 w1 hw (by (clear h7 L h ht hw w1 w0; lia)) (by (clear h7 L h ht hw w1 w0; lia))
      have e := piece4 (n := n+20) (st := st) (rest := rest) (turn := (turn : Int)) G (bv4 w0) (fdS (i := 3) (by (clear h7 L h ht hw w1 w0; lia)) (by (clear h7 L h ht hw w1 w0; lia)) F.fzq) F.fzy
      show Ca P (n+60) law_piece _ (hp st (X2 w) (St7 w k way 4) rest) _ (hp st (X2 w) (St7 w k way 5) rest)
      rw [← F.s5]; exact e
    · have G := ge (turn := turn) (m := 5) F w0 w1 hw (by (clear h7 L h ht hw w1 w0; lia)) (by (clear h7 L h ht hw w1 w0; lia))
      have e := piece5 (n := n+20) (st := st) (rest := rest) (turn := (turn : Int)) G (bv4 w0) (fdS (i := 3) (by (clear h7 L h ht hw w1 w0; lia)) (by (clear h7 L h ht hw w1 w0; lia)) F.fzq) (fdS (i := 4) (by (clear h7 L h ht hw w1 w0; lia)) (by (clear h7 L h ht hw w1 w0; lia)) F.fzy) F.fzr
      show Ca P (n+60) law_piece _ (hp st (X2 w) (St7 w k way 5) rest) _ (hp st (X2 w) (St7 w k way 6) rest)
      rw [← F.s6]; exact e
    · have G := ge (turn := turn) (m := 6) F w0 w1 hw (by (clear h7 L h ht hw w1 w0; lia)) (by (clear h7 L h ht hw w1 w0; lia))
      have e := piece6 (n := n+20) (st := st) (rest := rest) (turn := (turn : Int)) G (bv4 w0) (fdS (i := 3) (by (clear h7 L h ht hw w1 w0; lia)) (by (clear h7 L h ht hw w1 w0; lia)) F.fzq) (fdS (i := 4) (by (clear h7 L h ht hw w1 w0; lia)) (by (clear h7 L h ht hw w1 w0; lia)) F.fzy) (fdS (i := 5) (by (clear h7 L h ht hw w1 w0; lia)) (by (clear h7 L h ht hw w1 w0; lia)) F.fzr) F.fzx
      show Ca P (n+60) law_piece _ (hp st (X2 w) (St7 w k way 6) rest) _ (hp st (X2 w) (St7 w k way 7) rest)
      rw [← F.s7]; exact e
end
end Mini.L3
end
section
set_option autoImplicit false
set_option maxRecDepth 10000
set_option maxHeartbeats 2000000
namespace Mini.L3
open Mini

noncomputable def cut (n : Nat) (one : Int) : Int := if one.natAbs ≤ n then one else 0
theorem cut_neg {n : Nat} {k : Int} : cut n (-k) = -(cut n k) := by
  unfold cut; rw [Int.natAbs_neg]; split <;> simp
theorem cut_le {n : Nat} {k : Int} (h0 : 0 ≤ k) (h : k ≤ n) : cut n k = k := by unfold cut; rw [if_pos (by lia)]
theorem cut_gt {n : Nat} {k : Int} (h0 : 0 ≤ k) (h : (n : Int) < k) : cut n k = 0 := by unfold cut; rw [if_neg (by (clear h0; lia))]
theorem find_pre : ∀ (k : Nat) (ts us : List Tm) (t : Tm), find (k+1) ts t = if find (k+1) (ts ++ us) t ≤ k + ts.length then find (k+1) (ts ++ us) t else 0
  | k, [], us, t => by
    by_cases h : find (k+1) us t = 0
    · rw [List.nil_append, h]; simp [find]
    · have := (find_range k us t h).1
      rw [List.nil_append, if_neg (by simp only [List.length_nil]; (clear h; lia))]; rfl
  | k, u :: r, us, t => by
    rcases Bool.eq_false_or_eq_true (u.eqb t) with e | e
    · simp only [List.cons_append, find, e, cond_true, List.length_cons]
      rw [if_pos (by (clear e; lia))]
    · have := find_pre (k+1) r us t
      simp only [List.cons_append, find, e, cond_false, List.length_cons]
      rw [this, show k + 1 + r.length = k + (r.length + 1) by (clear this e; lia)]
theorem fd_pre {ts us : List Tm} {t : Tm} : fd ts t = cut ts.length (fd (ts ++ us) t) := by
  have h := find_pre 0 ts us t
  simp only [Nat.zero_add] at h
  show ((find 1 ts t : Nat) : Int) = cut _ ((find 1 (ts ++ us) t : Nat) : Int)
  rw [h]; unfold cut
  rw [Int.natAbs_natCast]; split <;> rfl
theorem find_mem : ∀ (k : Nat) (ts : List Tm) (t : Tm), t ∈ ts → find (k+1) ts t ≠ 0
  | k, [], t, h => by cases h
  | k, u :: r, t, h => by
    rcases Bool.eq_false_or_eq_true (u.eqb t) with e | e
    · simp only [find, e, cond_true]; (clear e; lia)
    · simp only [find, e, cond_false]
      rcases List.mem_cons.1 h with q | q
      · rw [q] at e; rw [Tm.eqb_iff.2 rfl] at e; cases e
      · exact find_mem (k+1) r t q
theorem mk0 {ts : List Tm} {s d : Int} {op : Nat} : mk ts (some s) op [] d = fd ts ⟨op, [], s, d⟩ := by
  unfold mk; simp only []; rw [if_neg (by simp)]
theorem mk1 {ts : List Tm} {s d a : Int} {op : Nat} (h : a ≠ 0) : mk ts (some s) op [a] d = fd ts ⟨op, [a], s, d⟩ := by
  unfold mk; simp only []; rw [if_neg (by simp only [List.mem_cons, List.not_mem_nil, or_false]; lia)]
theorem mk2 {ts : List Tm} {s d a b : Int} {op : Nat} (h : a ≠ 0) (g : b ≠ 0) : mk ts (some s) op [a, b] d = fd ts ⟨op, [a, b], s, d⟩ := by
  unfold mk; simp only []; rw [if_neg (by simp only [List.mem_cons, List.not_mem_nil, or_false]; lia)]
theorem mk2l {ts : List Tm} {s : Option Int} {d b : Int} {op : Nat} : mk ts s op [0, b] d = 0 := by
  unfold mk; split
  · rfl
  · rw [if_pos (by simp)]
theorem mk2r {ts : List Tm} {s : Option Int} {d b : Int} {op : Nat} : mk ts s op [b, 0] d = 0 := by
  unfold mk; split
  · rfl
  · rw [if_pos (by simp)]
theorem mkn {ts : List Tm} {l : List Int} {d : Int} {op : Nat} : mk ts none op l d = 0 := rfl
theorem bo1 {ts : List Tm} {i t : Int} (h : t ≠ 0) : bo ts i t = fd ts (tb t i) := by unfold bo; rw [if_neg h]

section
variable {w k way turn m : Nat}
noncomputable abbrev lateL (w k way turn : Nat) : List Tm := Sm w k way turn (7 + 7 * w)
theorem late_eq (w0 : 1 ≤ w) : lateL w k way turn = FL w k way ++ bitsN w k way turn (7 * w) := by
  unfold lateL; rw [SmF (by lia), show 7 + 7 * w - 7 = 7 * w by (clear w0; lia)]
theorem early_pre (h : m ≤ 7 + 7 * w) (w0 : 1 ≤ w) : ∃ us, lateL w k way turn = Sm w k way turn m ++ us := by
  by_cases e : m ≤ 7
  · refine x1a1 (pre (w := w) (k := k) (way := way) (turn := turn) (m := 7 + 7 * w) (i := m) (by (clear e w0; lia)) e) fun us q => ?_
    exact ⟨us, by unfold lateL; rw [q]; unfold Sm; rw [if_pos e]⟩
  · rw [SmF (by (clear w0 h; lia)), late_eq w0]
    refine ⟨((List.range (7 * w)).map (bitN w k way turn)).drop (m - 7), ?_⟩
    rw [List.append_assoc]; congr 1
    unfold bitsN
    have e := List.take_append_drop (m - 7) ((List.range (7 * w)).map (bitN w k way turn))
    rw [← List.map_take, List.take_range, Nat.min_eq_left (by lia)] at e
    exact e.symm
theorem bit_late (F : Facts w k way) (w0 : 1 ≤ w) (ht : turn < 7 * w) {p i : Int} (h : (p, i) ∈ rowL w k way) : Fd (lateL w k way turn) (tb p i) (fd (lateL w k way turn) (tb p i)) ∧ ti k way < fd (lateL w k way turn) (tb p i) := by
  refine x1a1 (List.mem_iff_getElem?.1 h) fun j hj => ?_
  have jl : j < 7 * w := by
    rcases Nat.lt_or_ge j (rowL w k way).length with q | q
    · rwa [rowL_len] at q
    · rw [List.getElem?_eq_none q] at hj; cases hj
  have e : ((j + 7 * w - turn) % (7 * w) + turn) % (7 * w) = j := by
    rw [Nat.mod_add_mod, show j + 7 * w - turn + turn = j + 7 * w by (clear jl hj w0; lia), Nat.add_mod_right, Nat.mod_eq_of_lt jl]
  have b := bitN_eq (turn := turn) e hj
  have mem : tb p i ∈ bitsN w k way turn (7 * w) := by
    rw [show tb p i = bitN w k way turn ((j + 7 * w - turn) % (7 * w)) from b.symm]
    exact List.mem_map.2 ⟨_, List.mem_range.2 (Nat.mod_lt _ (by (clear b e jl hj ht; lia))), rfl⟩
  have n0 := find_mem 0 (FL w k way ++ bitsN w k way turn (7 * w)) (tb p i) (List.mem_append_right _ mem)
  have fl : find (0+1) (FL w k way) (tb p i) = 0 := find_none 0 _ _ fun u hu q => noBit_mem F.nb hu (by rw [q])
  have pr := find_pre 0 (FL w k way) (bitsN w k way turn (7 * w)) (tb p i)
  simp only [Nat.zero_add] at *
  rw [late_eq w0]
  have L := F.len
  refine ⟨⟨rfl, by show 1 ≤ ((find 1 (FL w k way ++ bitsN w k way turn (7 * w)) (tb p i) : Nat) : Int); (clear L pr fl b e jl hj ht w0; lia)⟩, ?_⟩
  rw [fl] at pr
  by_cases q : find 1 (FL w k way ++ bitsN w k way turn (7 * w)) (tb p i) ≤ (FL w k way).length
  · rw [if_pos q] at pr; (clear q L fl b e jl hj ht w0; lia)
  · show ti k way < ((find 1 (FL w k way ++ bitsN w k way turn (7 * w)) (tb p i) : Nat) : Int)
    (clear pr fl n0 b e jl hj ht w0; lia)
theorem rowA {i : Int} (h0 : 0 ≤ i) (h1 : i < 2 * w) : (ti k way, i) ∈ rowL w k way ∧ (zxi k way, i) ∈ rowL w k way := by
  constructor
  · refine List.mem_append_left _ (List.mem_flatMap.2 ⟨ti k way, by simp, List.mem_map.2 ⟨i.toNat, List.mem_range.2 (by lia), ?_⟩⟩)
    rw [Int.toNat_of_nonneg h0]
  · refine List.mem_append_left _ (List.mem_flatMap.2 ⟨zxi k way, by simp, List.mem_map.2 ⟨i.toNat, List.mem_range.2 (by lia), ?_⟩⟩)
    rw [Int.toNat_of_nonneg h0]
theorem rowB {i : Int} (h0 : 0 ≤ i) (h1 : i < w) : (qi k, i) ∈ rowL w k way ∧ (ri k, i) ∈ rowL w k way ∧ ((3 : Int), i) ∈ rowL w k way := by
  refine ⟨?_, ?_, ?_⟩
  · refine List.mem_append_right _ (List.mem_flatMap.2 ⟨qi k, by simp, List.mem_map.2 ⟨i.toNat, List.mem_range.2 (by lia), ?_⟩⟩)
    rw [Int.toNat_of_nonneg h0]
  · refine List.mem_append_right _ (List.mem_flatMap.2 ⟨ri k, by simp, List.mem_map.2 ⟨i.toNat, List.mem_range.2 (by lia), ?_⟩⟩)
    rw [Int.toNat_of_nonneg h0]
  · refine List.mem_append_right _ (List.mem_flatMap.2 ⟨3, by simp, List.mem_map.2 ⟨i.toNat, List.mem_range.2 (by lia), ?_⟩⟩)
    rw [Int.toNat_of_nonneg h0]
/-- the lines of the whole bank -/
noncomputable def zL (k way : Nat) : Int := if yy k way = nz k then 1 else ci k way
noncomputable def lineS (w k way turn : Nat) (i : Int) : List (List Int) :=
  if i = 2 * w then [[zL k way, ui k way]]
  else if 2 * (w : Int) < i then dl3 (zL k way) (fd (lateL w k way turn) (tb (qi k) (i - 2 * w - 1))) (fd (lateL w k way turn) (tb (ri k) (i - 2 * w - 1))) (fd (lateL w k way turn) (tb 3 (i - 2 * w - 1)))
  else dl1 (zL k way) (fd (lateL w k way turn) (tb (ti k way) i)) (fd (lateL w k way turn) (tb (zxi k way) i))
theorem yy_ne : yy k way ≠ 0 := by unfold yy nz; split <;> (try split) <;> lia
theorem dl_cut (F : Facts w k way) (w0 : 1 ≤ w) (w1 : w ≤ 3) (hm : m ≤ 7 + 7 * w) (h1 : 1 ≤ m) (ht : turn < 7 * w) {i : Int} (i0 : 0 ≤ i) :
    dl (Sm w k way turn m) 3 (if m ≤ 2 then none else some 4) 3 (yy k way) w i = (lineS w k way turn i).map fun l => l.map (cut (Sm w k way turn m).length) := by
  obtain ⟨a1, a2, a3, a4, a5, a6, a7, a8, a9, a10, a11, a12, a13, a14, a15, a16⟩ := lens k way
  refine x1a1 (early_pre (w := w) (k := k) (way := way) (turn := turn) hm w0) fun us ep => ?_
  have y0 := yy_ne (k := k) (way := way)
  have C : ∀ t, fd (Sm w k way turn m) t = cut (Sm w k way turn m).length (fd (lateL w k way turn) t) := fun t => by rw [ep]; exact fd_pre
  have eFL : ∀ {t x}, Fd (FL w k way) t x → Fd (lateL w k way turn) t x := fun f => by rw [late_eq w0]; exact f.append
  have nq : fd (Sm w k way turn m) (tq (yy k way)) = qi k := (fdS (i := 1) h1 (by (clear y0 ep a16 a15 a14 a13 a12 a11 a10 a9 a8 a7 a6 a5 a4 a3 a2 a1 i0 ht h1 hm w1 w0; lia)) F.fq).fd
  have nr : fd (Sm w k way turn m) (tr (yy k way)) = ri k := (fdS (i := 1) h1 (by (clear nq y0 ep a16 a15 a14 a13 a12 a11 a10 a9 a8 a7 a6 a5 a4 a3 a2 a1 i0 ht h1 hm w1 w0; lia)) F.fr).fd
  have nzz : fd (Sm w k way turn m) tz = nz k := (fdS (i := 0) (by (clear nr nq y0 ep a16 a15 a14 a13 a12 a11 a10 a9 a8 a7 a6 a5 a4 a3 a2 a1 i0 ht h1 hm w1 w0; lia)) (by (clear nr nq y0 ep a16 a15 a14 a13 a12 a11 a10 a9 a8 a7 a6 a5 a4 a3 a2 a1 i0 ht h1 hm w1 w0; lia)) F.fz).fd
  have n1 : 1 ≤ (Sm w k way turn m).length := by have := (fdS (turn := turn) (i := 0) (m := m) (by (clear nzz nr nq y0 ep a16 a15 a14 a13 a12 a11 a10 a9 a8 a7 a6 a5 a4 a3 a2 a1 i0 ht h1 hm w1 w0; lia)) (by (clear nzz nr nq y0 ep a16 a15 a14 a13 a12 a11 a10 a9 a8 a7 a6 a5 a4 a3 a2 a1 i0 ht h1 hm w1 w0; lia)) F.fz).lt; (clear nzz nr nq y0 ep a16 a15 a14 a13 a12 a11 a10 a9 a8 a7 a6 a5 a4 a3 a2 i0 ht h1 hm w1 w0; lia)
  have zz : zOf (Sm w k way turn m) 3 (yy k way) = cut (Sm w k way turn m).length (zL k way) := by
    unfold zOf zeroOf zL
    rw [mk0, nzz]
    by_cases e : yy k way = nz k
    · rw [if_pos e, if_pos e, cut_le (by (clear e n1 nzz nr nq y0 ep a16 a15 a14 a13 a12 a11 a10 a9 a8 a7 a6 a5 a4 a3 a2 a1 i0 ht h1 hm w1 w0; lia)) (by (clear e nzz nr nq y0 ep a16 a15 a14 a13 a12 a11 a10 a9 a8 a7 a6 a5 a4 a3 a2 a1 i0 ht h1 hm w1 w0; lia))]
    · rw [if_neg e, if_neg e, C]
      rw [(eFL (F.fe.resolve_left e)).fd]
  have Q : mk (Sm w k way turn m) (some 3) 130195029063266 [3, yy k way] 0 = qi k := by rw [mk2 (by (clear zz n1 nzz nr nq y0 ep a16 a15 a14 a13 a12 a11 a10 a9 a8 a7 a6 a5 a4 a3 a2 a1 i0 ht h1 hm w1 w0; lia)) y0]; exact nq
  have R : mk (Sm w k way turn m) (some 3) 120282479425122 [3, yy k way] 0 = ri k := by rw [mk2 (by (clear Q zz n1 nzz nr nq y0 ep a16 a15 a14 a13 a12 a11 a10 a9 a8 a7 a6 a5 a4 a3 a2 a1 i0 ht h1 hm w1 w0; lia)) y0]; exact nr
  unfold dl lineS
  rw [Q, R, zz]
  by_cases i1 : i = 2 * w
  · rw [if_pos i1, if_pos i1, C, (eFL F.fu).fd]; rfl
  · rw [if_neg i1, if_neg i1]
    by_cases i2 : 2 * (w : Int) < i
    · rw [if_pos i2, if_pos i2, bo1 (by (clear i2 i1 R Q zz n1 nzz nr nq y0 ep a15 a14 a13 a12 a11 a10 a9 a8 a7 a6 a5 a4 a3 a2 i0 ht h1 hm w1 w0; lia)), bo1 (by (clear i2 i1 R Q zz n1 nzz nr nq y0 ep a16 a15 a14 a13 a12 a11 a10 a9 a8 a7 a6 a5 a4 a2 i0 ht h1 hm w1 w0; lia)), bo1 (by (clear i2 i1 R Q zz n1 nzz nr nq y0 ep a16 a15 a14 a13 a12 a11 a10 a9 a8 a7 a6 a5 a4 a3 a2 a1 i0 ht h1 hm w1 w0; lia)), C, C, C]
      unfold dl3
      simp only [List.map_cons, List.map_nil, cut_neg]
    · rw [if_neg i2, if_neg i2]
      have ra := rowA (k := k) (way := way) i0 (by (clear R Q zz n1 nzz nr nq y0 ep a16 a15 a14 a13 a12 a11 a10 a9 a8 a7 a6 a5 a4 a3 a2 a1 i0 ht h1 hm w1 w0; lia) : i < 2 * w)
      have bt := (bit_late F w0 ht ra.1).2
      have bx := (bit_late F w0 ht ra.2).2
      -- the wide ones
      have W : ∀ a x, a ≠ 0 → ci k way < x → Fd (lateL w k way turn) (tw w a) x → wOf (Sm w k way turn m) (if m ≤ 2 then none else some 4) w a = cut (Sm w k way turn m).length x := by
        intro a x ha hx f
        unfold wOf
        by_cases m2 : m ≤ 2
        · rw [if_pos m2, mkn]
          refine (cut_gt (by (clear m2 ha bx bt ra i2 i1 R Q zz n1 nzz nr nq y0 ep a16 a15 a14 a13 a12 a11 a10 a9 a8 a7 a6 a5 a2 i0 ht h1 hm w1 w0; lia)) ?_).symm
          have : (Sm w k way turn m).length ≤ ln k way 2 := by
            unfold Sm; rw [if_pos (by (clear hx ha bx bt ra i2 i1 R Q zz n1 nzz nr nq y0 ep a16 a15 a14 a13 a12 a11 a10 a9 a8 a7 a6 a5 a4 a3 a2 a1 i0 ht h1 hm w1 w0; lia))]; unfold St7; rw [List.length_take]
            have := ln_mono (k := k) (way := way) m2
            (clear m2 hx ha bx bt ra i2 i1 R Q zz n1 nzz nr nq y0 ep a16 a15 a14 a13 a12 a11 a10 a9 a8 a7 a6 a5 a4 a3 a2 a1 i0 ht h1 hm w1 w0; lia)
          have e2 : ln k way 2 = (ci k way).toNat := rfl
          (clear m2 ha bx bt ra i2 i1 R Q zz n1 nzz nr nq y0 ep a16 a15 a14 a13 a12 a11 a10 a9 a8 a7 a6 a5 a2 i0 ht h1 hm w1 w0; lia)
        · rw [if_neg m2, mk1 ha, C, f.fd]
      have fzq := fdS (w := w) (turn := turn) (m := 7 + 7 * w) (i := 3) (by (clear bx bt ra i2 i1 R Q zz n1 nzz nr nq y0 ep a16 a15 a14 a13 a12 a11 a10 a9 a8 a7 a6 a5 a4 a3 a2 a1 i0 ht h1 hm w1 w0; lia)) (by (clear bx bt ra i2 i1 R Q zz n1 nzz nr nq y0 ep a16 a15 a14 a13 a12 a11 a10 a9 a8 a7 a6 a5 a4 a3 a2 a1 i0 ht h1 hm w1 w0; lia)) F.fzq
      have fzy := fdS (w := w) (turn := turn) (m := 7 + 7 * w) (i := 4) (by (clear bx bt ra i2 i1 R Q zz n1 nzz nr nq y0 ep a16 a15 a14 a13 a12 a11 a10 a9 a8 a7 a6 a5 a4 a3 a2 a1 i0 ht h1 hm w1 w0; lia)) (by (clear bx bt ra i2 i1 R Q zz n1 nzz nr nq y0 ep a16 a15 a14 a13 a12 a11 a10 a9 a8 a7 a6 a5 a4 a3 a2 a1 i0 ht h1 hm w1 w0; lia)) F.fzy
      have fzr := fdS (w := w) (turn := turn) (m := 7 + 7 * w) (i := 5) (by (clear bx bt ra i2 i1 R Q zz n1 nzz nr nq y0 ep a16 a15 a14 a13 a12 a11 a10 a9 a8 a7 a6 a5 a4 a3 a2 a1 i0 ht h1 hm w1 w0; lia)) (by (clear bx bt ra i2 i1 R Q zz n1 nzz nr nq y0 ep a16 a15 a14 a13 a12 a11 a10 a9 a8 a7 a6 a5 a4 a3 a2 a1 i0 ht h1 hm w1 w0; lia)) F.fzr
      have fzx := fdS (w := w) (turn := turn) (m := 7 + 7 * w) (i := 6) (by (clear bx bt ra i2 i1 R Q zz n1 nzz nr nq y0 ep a16 a15 a14 a13 a12 a11 a10 a9 a8 a7 a6 a5 a4 a3 a2 a1 i0 ht h1 hm w1 w0; lia)) (by (clear bx bt ra i2 i1 R Q zz n1 nzz nr nq y0 ep a16 a15 a14 a13 a12 a11 a10 a9 a8 a7 a6 a5 a4 a3 a2 a1 i0 ht h1 hm w1 w0; lia)) F.fzx
      rw [W _ _ (by (clear bx bt ra i2 i1 R Q zz n1 nzz nr nq y0 ep a15 a14 a13 a12 a11 a10 a9 a8 a7 a6 a5 a4 a3 a2 i0 ht h1 hm w1 w0; lia)) (by (clear bx bt ra i2 i1 R Q zz n1 nzz nr nq y0 ep a16 a15 a14 a13 a12 a11 a10 a9 a8 a7 a5 a4 a3 a2 a1 i0 ht h1 hm w1 w0; lia)) fzq, W _ _ y0 (by (clear bx bt ra i2 i1 R Q zz n1 nzz nr nq y0 ep a16 a15 a14 a13 a12 a11 a10 a9 a8 a6 a5 a4 a3 a2 a1 i0 ht h1 hm w1 w0; lia)) fzy, W _ _ (by (clear bx bt ra i2 i1 R Q zz n1 nzz nr nq y0 ep a16 a15 a14 a13 a12 a11 a10 a9 a8 a7 a6 a5 a4 a2 i0 ht h1 hm w1 w0; lia)) (by (clear bx bt ra i2 i1 R Q zz n1 nzz nr nq y0 ep a16 a15 a14 a13 a12 a11 a10 a9 a7 a6 a5 a4 a3 a2 a1 i0 ht h1 hm w1 w0; lia)) fzr, W _ _ (by (clear bx bt ra i2 i1 R Q zz n1 nzz nr nq y0 ep a16 a15 a14 a13 a12 a11 a10 a9 a8 a7 a6 a5 a4 a3 a2 a1 i0 ht h1 hm w1 w0; lia)) (by (clear bx bt ra i2 i1 R Q zz n1 nzz nr nq y0 ep a16 a15 a13 a12 a11 a10 a9 a8 a7 a6 a5 a4 a3 a2 a1 i0 ht h1 hm w1 w0; lia)) fzx]
      have M : mk (Sm w k way turn m) (if m ≤ 2 then none else some 4) 465826575970 [cut (Sm w k way turn m).length (zqi k way), cut (Sm w k way turn m).length (zyi k way)] 0 = cut (Sm w k way turn m).length (mi k way) := by
        by_cases g1 : zqi k way ≤ (Sm w k way turn m).length
        · by_cases g2 : zyi k way ≤ (Sm w k way turn m).length
          · rw [cut_le (by (clear g2 g1 bx bt ra i2 i1 R Q zz n1 nzz nr nq y0 ep a16 a15 a14 a13 a12 a11 a10 a9 a8 a7 a5 a2 i0 ht h1 hm w1 w0; lia)) g1, cut_le (by (clear g2 g1 bx bt ra i2 i1 R Q zz n1 nzz nr nq y0 ep a16 a15 a14 a13 a12 a11 a10 a9 a8 a6 a5 a2 i0 ht h1 hm w1 w0; lia)) g2]
            by_cases m2 : m ≤ 2
            · exfalso
              have : (Sm w k way turn m).length ≤ ln k way 2 := by
                unfold Sm; rw [if_pos (by (clear g2 g1 bx bt ra i2 i1 R Q zz n1 nzz nr nq y0 ep a16 a15 a14 a13 a12 a11 a10 a9 a8 a7 a6 a5 a4 a3 a2 a1 i0 ht h1 hm w1 w0; lia))]; unfold St7; rw [List.length_take]
                have := ln_mono (k := k) (way := way) m2
                (clear m2 g2 g1 bx bt ra i2 i1 R Q zz n1 nzz nr nq y0 ep a16 a15 a14 a13 a12 a11 a10 a9 a8 a7 a6 a5 a4 a3 a2 a1 i0 ht h1 hm w1 w0; lia)
              have e2 : ln k way 2 = (ci k way).toNat := rfl
              (clear m2 g2 bx bt ra i2 i1 R Q zz n1 nzz nr nq y0 ep a16 a15 a14 a13 a12 a11 a10 a9 a8 a7 a5 a2 i0 ht h1 hm w1 w0; lia)
            · rw [if_neg m2, mk2 (by (clear m2 g2 g1 bx bt ra i2 i1 R Q zz n1 nzz nr nq y0 ep a16 a15 a14 a13 a12 a11 a10 a9 a8 a7 a5 a2 i0 ht h1 hm w1 w0; lia)) (by (clear m2 g2 g1 bx bt ra i2 i1 R Q zz n1 nzz nr nq y0 ep a16 a15 a14 a13 a12 a11 a10 a9 a8 a6 a5 a2 i0 ht h1 hm w1 w0; lia)), C, (eFL F.fm').fd]
          · rw [cut_gt (by (clear g2 g1 bx bt ra i2 i1 R Q zz n1 nzz nr nq y0 ep a16 a15 a14 a13 a12 a11 a10 a9 a8 a6 a5 a2 i0 ht h1 hm w1 w0; lia)) (by (clear g1 bx bt ra i2 i1 R Q zz n1 nzz nr nq y0 ep a16 a15 a14 a13 a12 a11 a10 a9 a8 a7 a6 a5 a4 a3 a2 a1 i0 ht h1 hm w1 w0; lia) : ((Sm w k way turn m).length : Int) < zyi k way), mk2r, cut_gt (by (clear g2 g1 bx bt ra i2 i1 R Q zz n1 nzz nr nq y0 ep a16 a15 a14 a13 a11 a10 a8 a7 a6 a5 a2 i0 ht h1 hm w1 w0; lia)) (by (clear g1 bx bt ra i2 i1 R Q zz n1 nzz nr nq y0 ep a16 a15 a14 a13 a11 a10 a8 a6 a5 a4 a3 a2 a1 i0 ht h1 hm w1 w0; lia))]
        · rw [cut_gt (by (clear g1 bx bt ra i2 i1 R Q zz n1 nzz nr nq y0 ep a16 a15 a14 a13 a12 a11 a10 a9 a8 a7 a5 a2 i0 ht h1 hm w1 w0; lia)) (by (clear bx bt ra i2 i1 R Q zz n1 nzz nr nq y0 ep a16 a15 a14 a13 a12 a11 a10 a9 a8 a7 a6 a5 a4 a3 a2 a1 i0 ht h1 hm w1 w0; lia) : ((Sm w k way turn m).length : Int) < zqi k way), mk2l, cut_gt (by (clear g1 bx bt ra i2 i1 R Q zz n1 nzz nr nq y0 ep a16 a15 a14 a13 a11 a10 a8 a7 a6 a5 a2 i0 ht h1 hm w1 w0; lia)) (by (clear bx bt ra i2 i1 R Q zz n1 nzz nr nq y0 ep a16 a15 a14 a13 a11 a10 a8 a7 a5 a4 a3 a2 a1 i0 ht h1 hm w1 w0; lia))]
      rw [M]
      have A : mk (Sm w k way turn m) (if m ≤ 2 then none else some 4) 431180838498 [cut (Sm w k way turn m).length (mi k way), cut (Sm w k way turn m).length (zri k way)] 0 = cut (Sm w k way turn m).length (ti k way) := by
        by_cases g1 : mi k way ≤ (Sm w k way turn m).length
        · rw [cut_le (by (clear g1 M bx bt ra i2 i1 R Q zz n1 nzz nr nq y0 ep a16 a15 a14 a13 a11 a10 a8 a7 a6 a5 a2 i0 ht h1 hm w1 w0; lia)) g1, cut_le (by (clear g1 M bx bt ra i2 i1 R Q zz n1 nzz nr nq y0 ep a16 a15 a14 a13 a12 a11 a10 a9 a7 a6 a5 a2 i0 ht h1 hm w1 w0; lia)) (by (clear M bx bt ra i2 i1 R Q zz n1 nzz nr nq y0 ep a16 a15 a14 a13 a11 a10 a7 a6 a5 a4 a3 a2 a1 i0 ht h1 hm w1 w0; lia) : zri k way ≤ (Sm w k way turn m).length)]
          by_cases m2 : m ≤ 2
          · exfalso
            have : (Sm w k way turn m).length ≤ ln k way 2 := by
              unfold Sm; rw [if_pos (by (clear g1 M bx bt ra i2 i1 R Q zz n1 nzz nr nq y0 ep a16 a15 a14 a13 a12 a11 a10 a9 a8 a7 a6 a5 a4 a3 a2 a1 i0 ht h1 hm w1 w0; lia))]; unfold St7; rw [List.length_take]
              have := ln_mono (k := k) (way := way) m2
              (clear m2 g1 M bx bt ra i2 i1 R Q zz n1 nzz nr nq y0 ep a16 a15 a14 a13 a12 a11 a10 a9 a8 a7 a6 a5 a4 a3 a2 a1 i0 ht h1 hm w1 w0; lia)
            have e2 : ln k way 2 = (ci k way).toNat := rfl
            (clear m2 M bx bt ra i2 i1 R Q zz n1 nzz nr nq y0 ep a16 a15 a14 a13 a11 a10 a8 a7 a6 a5 a2 i0 ht h1 hm w1 w0; lia)
          · rw [if_neg m2, mk2 (by (clear m2 g1 M bx bt ra i2 i1 R Q zz n1 nzz nr nq y0 ep a16 a15 a14 a13 a11 a10 a8 a7 a6 a5 a2 i0 ht h1 hm w1 w0; lia)) (by (clear m2 g1 M bx bt ra i2 i1 R Q zz n1 nzz nr nq y0 ep a16 a15 a14 a13 a12 a11 a10 a9 a7 a6 a5 a2 i0 ht h1 hm w1 w0; lia)), C, (eFL F.fa).fd]
        · rw [cut_gt (by (clear g1 M bx bt ra i2 i1 R Q zz n1 nzz nr nq y0 ep a16 a15 a14 a13 a11 a10 a8 a7 a6 a5 a2 i0 ht h1 hm w1 w0; lia)) (by (clear M bx bt ra i2 i1 R Q zz n1 nzz nr nq y0 ep a16 a15 a14 a13 a12 a11 a10 a9 a8 a7 a6 a5 a4 a3 a2 a1 i0 ht h1 hm w1 w0; lia) : ((Sm w k way turn m).length : Int) < mi k way), mk2l, cut_gt (by (clear g1 M bx bt ra i2 i1 R Q zz n1 nzz nr nq y0 ep a16 a15 a14 a12 a11 a10 a8 a7 a6 a5 a2 i0 ht h1 hm w1 w0; lia)) (by (clear M bx bt ra i2 i1 R Q zz n1 nzz nr nq y0 ep a16 a15 a14 a11 a10 a9 a8 a7 a6 a5 a4 a3 a2 a1 i0 ht h1 hm w1 w0; lia))]
      rw [A]
      have B1 : bo (Sm w k way turn m) i (cut (Sm w k way turn m).length (ti k way)) = cut (Sm w k way turn m).length (fd (lateL w k way turn) (tb (ti k way) i)) := by
        by_cases g1 : ti k way ≤ (Sm w k way turn m).length
        · rw [cut_le (by (clear g1 A M bx bt ra i2 i1 R Q zz n1 nzz nr nq y0 ep a16 a15 a14 a12 a11 a10 a8 a7 a6 a5 a2 i0 ht h1 hm w1 w0; lia)) g1, bo1 (by (clear g1 A M bx bt ra i2 i1 R Q zz n1 nzz nr nq y0 ep a16 a15 a14 a12 a11 a10 a8 a7 a6 a5 a2 i0 ht h1 hm w1 w0; lia)), C]
        · rw [cut_gt (by (clear g1 A M bx bt ra i2 i1 R Q zz n1 nzz nr nq y0 ep a16 a15 a14 a12 a11 a10 a8 a7 a6 a5 a2 i0 ht h1 hm w1 w0; lia)) (by (clear A M bx bt ra i2 i1 R Q zz n1 nzz nr nq y0 ep a16 a15 a14 a13 a12 a11 a10 a9 a8 a7 a6 a5 a4 a3 a2 a1 i0 ht h1 hm w1 w0; lia) : ((Sm w k way turn m).length : Int) < ti k way), cut_gt (by (clear g1 A M bx ra i2 i1 R Q zz n1 nzz nr nq y0 ep a16 a15 a14 a12 a11 a10 a8 a7 a6 a5 a2 i0 ht h1 hm w1 w0; lia)) (by (clear A M bx ra i2 i1 R Q zz n1 nzz nr nq y0 ep a16 a15 a14 a13 a12 a11 a10 a9 a8 a7 a6 a5 a4 a3 a2 a1 i0 ht h1 hm w1 w0; lia))]; rfl
      have B2 : bo (Sm w k way turn m) i (cut (Sm w k way turn m).length (zxi k way)) = cut (Sm w k way turn m).length (fd (lateL w k way turn) (tb (zxi k way) i)) := by
        by_cases g1 : zxi k way ≤ (Sm w k way turn m).length
        · rw [cut_le (by (clear g1 B1 A M bx bt ra i2 i1 R Q zz n1 nzz nr nq y0 ep a16 a15 a13 a12 a11 a10 a9 a8 a7 a6 a5 a2 i0 ht h1 hm w1 w0; lia)) g1, bo1 (by (clear g1 B1 A M bx bt ra i2 i1 R Q zz n1 nzz nr nq y0 ep a16 a15 a13 a12 a11 a10 a9 a8 a7 a6 a5 a2 i0 ht h1 hm w1 w0; lia)), C]
        · rw [cut_gt (by (clear g1 B1 A M bx bt ra i2 i1 R Q zz n1 nzz nr nq y0 ep a16 a15 a13 a12 a11 a10 a9 a8 a7 a6 a5 a2 i0 ht h1 hm w1 w0; lia)) (by (clear B1 A M bx bt ra i2 i1 R Q zz n1 nzz nr nq y0 ep a16 a15 a14 a13 a12 a11 a10 a9 a8 a7 a6 a5 a4 a3 a2 a1 i0 ht h1 hm w1 w0; lia) : ((Sm w k way turn m).length : Int) < zxi k way), cut_gt (by (clear g1 B1 A M bt ra i2 i1 R Q zz n1 nzz nr nq y0 ep a16 a15 a14 a12 a11 a10 a8 a7 a6 a5 a2 i0 ht h1 hm w1 w0; lia)) (by (clear B1 A M bt ra i2 i1 R Q zz n1 nzz nr nq y0 ep a16 a14 a12 a11 a10 a9 a8 a7 a6 a5 a4 a3 a2 a1 i0 ht h1 hm w1 w0; lia))]; rfl
      rw [B1, B2]
      unfold dl1
      simp only [List.map_cons, List.map_nil, cut_neg]
end
end Mini.L3
end
section
set_option autoImplicit false
set_option maxRecDepth 10000
set_option maxHeartbeats 2000000
namespace Mini.L3
open Mini

noncomputable def bitv (v i : Int) : Bool := decide (Int.fmod (Int.fdiv v (2 ^ i.toNat)) 2 = 1)
noncomputable def total (w : Nat) (b Q R : Int) : Int := Int.fmod (Int.fmod (Q * b) (2 ^ (2 * (w : Int)).toNat) + R) (2 ^ (2 * (w : Int)).toNat)
noncomputable def trT (w k way : Nat) (a b Q R : Int) (t : Tm) : Bool :=
  if t.op = 7629154 then bitv (if t.args = [ti k way] then total w b Q R else if t.args = [zxi k way] then a else if t.args = [qi k] then Q else if t.args = [ri k] then R else a) t.data
  else if t.op = 61 then decide (b = 0) else if t.op = 500035843682 then decide (R < b) else true
noncomputable def trI (w k way turn : Nat) (a b Q R : Int) (x : Int) : Bool := match (lateL w k way turn)[x.toNat - 1]? with
  | some t => trT w k way a b Q R t
  | none => true
/-- what all the lines of a place say -/
noncomputable def GI (w : Nat) (a b Q R : Int) (i : Int) : Bool :=
  if i = 2 * w then (decide (b = 0) || decide (R < b))
  else if 2 * (w : Int) < i then (!decide (b = 0) || bitv Q (i - 2 * w - 1)) && ((!decide (b = 0) || (!bitv R (i - 2 * w - 1) || bitv a (i - 2 * w - 1))) && (!decide (b = 0) || (bitv R (i - 2 * w - 1) || !bitv a (i - 2 * w - 1))))
  else (decide (b = 0) || (!bitv (total w b Q R) i || bitv a i)) && (decide (b = 0) || (bitv (total w b Q R) i || !bitv a i))
noncomputable def wayOk (k way : Nat) (a b : Int) : Prop := (way = 1 → b = k) ∧ (way = 2 → b = 0) ∧ (way = 3 → b = a)
noncomputable def kn (k : Nat) (a o Q R : Int) : List (Int × V) := [(3, .int a), (4, .int o), (qi k, .int Q), (ri k, .int R)]
theorem getI_cons {j : Int} {v : V} {r : List (Int × V)} {i : Int} : getI ((j, v) :: r) i = if i = j then some v else getI r i := by
  simp only [getI]
  by_cases h : i = j
  · rw [if_pos h]; simp [h]
  · rw [if_neg h, (by simpa using h : (i == j) = false)]; rfl
theorem kn_none {k : Nat} {a o Q R t : Int} (h3 : t ≠ 3) (h4 : t ≠ 4) (hq : t ≠ qi k) (hr : t ≠ ri k) : getI (kn k a o Q R) t = none := by
  unfold kn; rw [getI_cons, if_neg h3, getI_cons, if_neg h4, getI_cons, if_neg hq, getI_cons, if_neg hr]; rfl

theorem ord (k way : Nat) : 5 ≤ nz k ∧ qi k = nz k + 1 ∧ ri k = nz k + 2 ∧ ri k < zqi k way ∧ ri k < zyi k way ∧ ri k < zri k way ∧ ri k < zxi k way ∧ ri k < mi k way ∧ ri k < ti k way ∧ zxi k way < ti k way := by
  obtain ⟨a1, a2, a3, a4, a5, a6, a7, a8, a9, a10, a11, a12, a13, a14, a15, a16⟩ := lens k way
  refine ⟨a1, a16, a3, ?_, ?_, ?_, ?_, ?_, ?_, ?_⟩ <;> lia
theorem kn_far {k : Nat} {a o Q R t : Int} (h0 : 5 ≤ nz k) (hq : qi k = nz k + 1) (hr : ri k = nz k + 2) (h : ri k < t) : getI (kn k a o Q R) t = none :=
  kn_none (by (clear hq; lia)) (by (clear hq; lia)) (by (clear h0; lia)) (by (clear hr hq h0; lia))
theorem kn_nz {k : Nat} {a o Q R : Int} (h0 : 5 ≤ nz k) (hq : qi k = nz k + 1) (hr : ri k = nz k + 2) : getI (kn k a o Q R) (nz k) = none :=
  kn_none (by (clear hr hq; lia)) (by (clear hr hq; lia)) (by (clear hr h0; lia)) (by (clear hq h0; lia))
theorem kn_q {k : Nat} {a o Q R : Int} (h0 : 5 ≤ nz k) (hq : qi k = nz k + 1) : getI (kn k a o Q R) (qi k) = some (.int Q) := by
  unfold kn; rw [getI_cons, if_neg (by lia), getI_cons, if_neg (by lia), getI_cons, if_pos rfl]
theorem kn_r {k : Nat} {a o Q R : Int} (h0 : 5 ≤ nz k) (hq : qi k = nz k + 1) (hr : ri k = nz k + 2) : getI (kn k a o Q R) (ri k) = some (.int R) := by
  unfold kn; rw [getI_cons, if_neg (by (clear hq; lia)), getI_cons, if_neg (by (clear hq; lia)), getI_cons, if_neg (by (clear h0; lia)), getI_cons, if_pos rfl]
theorem one_ne {a b : Int} (h : a ≠ b) : ¬ [a] = [b] := fun e => h (List.cons.inj e).1
section
variable {w k way turn : Nat} {st : O} {rest : Hp} {r : Nat} {a b Q R : Int}
theorem trI_of {x : Int} {t : Tm} (h : Fd (lateL w k way turn) t x) (L : (lateL w k way turn).length ≤ 1000) : trI w k way turn a b Q R x = trT w k way a b Q R t := by
  unfold trI; rw [(h.at L).2.2]
/-- all the truths the lines ask for -/
structure Trs (w k way turn : Nat) (H : Hp) (r : Nat) (a b Q R : Int) : Prop where
  z : Tr H r (zL k way) (decide (b = 0)) ∧ trI w k way turn a b Q R (zL k way) = decide (b = 0)
  u : Tr H r (ui k way) (decide (R < b)) ∧ trI w k way turn a b Q R (ui k way) = decide (R < b)
  bt : ∀ i : Int, 0 ≤ i → i < 2 * w → Tr H r (fd (lateL w k way turn) (tb (ti k way) i)) (bitv (total w b Q R) i) ∧ trI w k way turn a b Q R (fd (lateL w k way turn) (tb (ti k way) i)) = bitv (total w b Q R) i ∧ 0 < fd (lateL w k way turn) (tb (ti k way) i)
  bx : ∀ i : Int, 0 ≤ i → i < 2 * w → Tr H r (fd (lateL w k way turn) (tb (zxi k way) i)) (bitv a i) ∧ trI w k way turn a b Q R (fd (lateL w k way turn) (tb (zxi k way) i)) = bitv a i ∧ 0 < fd (lateL w k way turn) (tb (zxi k way) i)
  bq : ∀ i : Int, 0 ≤ i → i < w → Tr H r (fd (lateL w k way turn) (tb (qi k) i)) (bitv Q i) ∧ trI w k way turn a b Q R (fd (lateL w k way turn) (tb (qi k) i)) = bitv Q i ∧ 0 < fd (lateL w k way turn) (tb (qi k) i)
  br : ∀ i : Int, 0 ≤ i → i < w → Tr H r (fd (lateL w k way turn) (tb (ri k) i)) (bitv R i) ∧ trI w k way turn a b Q R (fd (lateL w k way turn) (tb (ri k) i)) = bitv R i ∧ 0 < fd (lateL w k way turn) (tb (ri k) i)
  ba : ∀ i : Int, 0 ≤ i → i < w → Tr H r (fd (lateL w k way turn) (tb 3 i)) (bitv a i) ∧ trI w k way turn a b Q R (fd (lateL w k way turn) (tb 3 i)) = bitv a i ∧ 0 < fd (lateL w k way turn) (tb 3 i)

theorem trs {o : Int} (F : Facts w k way) (w0 : 1 ≤ w) (w1 : w ≤ 3) (hw : way < 4) (ht : turn < 7 * w) (hk : nth (hp st (X2 w) (lateL w k way turn) rest) r = some (.dI (kn k a o Q R))) (ho : way = 0 → o = b) (ok : wayOk k way a b) (hQ : Q.natAbs ≤ 1000) :
    Trs w k way turn (hp st (X2 w) (lateL w k way turn) rest) r a b Q R := by
  obtain ⟨z5, zq1, zr1, rq, ry, rr, rx, rm, rt, xt⟩ := ord k way
  have L : (lateL w k way turn).length ≤ 1000 := by have := Sm_len (turn := turn) (m := 7 + 7 * w) F w1 (by (clear xt rt rm rx rr ry rq zr1 zq1 z5 hQ ho hk ht hw w1 w0; lia)); show (Sm w k way turn (7 + 7 * w)).length ≤ 1000; (clear xt rt rm rx rr ry rq zr1 zq1 z5 hQ ho hk ht hw w1 w0; lia)
  have eFL : ∀ {t x}, Fd (FL w k way) t x → Fd (lateL w k way turn) t x := fun f => by rw [late_eq w0]; exact f.append
  have G : Gf (X2 w) (lateL w k way turn) w (yy k way) (qi k) (ri k) (nz k) (zqi k way) (zyi k way) (zri k way) (zxi k way) := gf (turn := turn) (m := 7 + 7 * w) F w0 w1 hw (by (clear L xt rt rm rx rr ry rq zr1 zq1 z5 hQ ho hk ht hw w1 w0; lia)) (by (clear L xt rt rm rx rr ry rq zr1 zq1 z5 hQ ho hk ht hw w1 w0; lia))
  have N3 : Nm (hp st (X2 w) (lateL w k way turn) rest) r 3 a 20 := nm_known hk (by unfold kn; rw [getI_cons, if_pos rfl])
  have Nq : Nm (hp st (X2 w) (lateL w k way turn) rest) r (qi k) Q 20 := nm_known hk (kn_q z5 zq1)
  have Nr : Nm (hp st (X2 w) (lateL w k way turn) rest) r (ri k) R 20 := nm_known hk (kn_r z5 zq1 zr1)
  have Nz : Nm (hp st (X2 w) (lateL w k way turn) rest) r (nz k) 0 20 := nm_num hk (kn_nz z5 zq1 zr1) (G.fz.at L)
  have Ny : Nm (hp st (X2 w) (lateL w k way turn) rest) r (yy k way) b 20 := by
    have : way = 0 ∨ way = 1 ∨ way = 2 ∨ way = 3 := by (clear L xt rt rm rx rr ry rq zr1 zq1 z5 hQ ho hk ht w1 w0; lia)
    rcases this with rfl | rfl | rfl | rfl
    · refine nm_known hk ?_
      show getI _ 4 = _
      unfold kn; rw [getI_cons, if_neg (by decide), getI_cons, if_pos rfl, ho rfl]
    · have f5 : Fd (lateL w k 1 turn) ⟨470121608802, [], 3, (k : Int)⟩ 5 := fdS (i := 0) (by (clear L xt rt rm rx rr ry rq ho hk hw zr1 zq1 z5 hQ ht w1 w0; lia)) (by (clear L xt rt rm rx rr ry rq ho hk hw zr1 zq1 z5 hQ ht w1 w0; lia)) (by rw [F.s0]; exact F.fn)
      have := nm_num (st := st) (X := X2 w) (rest := rest) hk (kn_none (t := 5) (by decide) (by decide) (by (clear L xt rt rm rx rr ry rq ho hk hw zr1 hQ ht w1 w0; lia)) (by (clear L xt rt rm rx rr ry rq ho hk hw zq1 hQ ht w1 w0; lia))) (f5.at L)
      rw [ok.1 rfl]; exact this
    · rw [ok.2.1 rfl]; exact Nz
    · rw [ok.2.2 rfl]; exact N3
  have Eq := nm_zext hk (kn_far z5 zq1 zr1 rq) (G.eq.at L) Nq
  have Ey := nm_zext hk (kn_far z5 zq1 zr1 ry) (G.ey.at L) Ny
  have Er := nm_zext hk (kn_far z5 zq1 zr1 rr) (G.er.at L) Nr
  have Ex := nm_zext hk (kn_far z5 zq1 zr1 rx) (G.ex.at L) N3
  have Em := nm_mul hk (kn_far z5 zq1 zr1 rm) ((eFL F.fm').at L) wd4 (by (clear L xt rt rm rx rr ry rq zr1 zq1 z5 hQ ho hk ht hw w1 w0; lia)) (by (clear L xt rt rm rx rr ry rq zr1 zq1 z5 hQ ho hk ht hw w0; lia)) Eq Ey (by (clear L xt rt rm rx rr ry rq zr1 zq1 z5 ho hk ht hw w1 w0; lia))
  have Ea := nm_add hk (kn_far z5 zq1 zr1 rt) ((eFL F.fa).at L) wd4 (by (clear L xt rt rm rx rr ry rq zr1 zq1 z5 hQ ho hk ht hw w1 w0; lia)) (by (clear L xt rt rm rx rr ry rq zr1 zq1 z5 hQ ho hk ht hw w0; lia)) Em (Er.le (by (clear L xt rt rm rx rr ry rq zr1 zq1 z5 hQ ho hk ht hw w1 w0; lia)))
  have y3 : yy k way = nz k → b = 0 := by
    intro e
    have : way = 0 ∨ way = 1 ∨ way = 2 ∨ way = 3 := by (clear e L xt rt rm rx rr ry rq zr1 zq1 z5 hQ ho hk ht w1 w0; lia)
    rcases this with rfl | rfl | rfl | rfl
    · have : (4 : Int) = nz k := e; (clear e L xt rt rm rx rr ry rq ho hk hw zr1 zq1 hQ ht w1 w0; lia)
    · have e : (5 : Int) = nz k := e
      rw [ok.1 rfl]
      unfold nz at e
      by_cases q : k = 0
      · rw [q]; rfl
      · rw [if_neg q] at e; (clear q L xt rt rm rx rr ry rq ho hk hw zr1 zq1 z5 hQ ht w1 w0; lia)
    · exact ok.2.1 rfl
    · have : (3 : Int) = nz k := e; (clear e L xt rt rm rx rr ry rq ho hk hw zr1 zq1 hQ ht w1 w0; lia)
  refine ⟨?_, ?_, fun i i0 i1 => ?_, fun i i0 i1 => ?_, fun i i0 i1 => ?_, fun i i0 i1 => ?_, fun i i0 i1 => ?_⟩
  · by_cases e : yy k way = nz k
    · have b0 := y3 e
      rw [b0]
      unfold zL; rw [if_pos e]
      have T := tr_true (st := st) (X := X2 w) (rest := rest) (r := r) ((eFL F.ft).at L) rfl
      exact ⟨T, by rw [trI_of (eFL F.ft) L]; rfl⟩
    · have fe := eFL (F.fe.resolve_left e)
      unfold zL; rw [if_neg e]
      refine ⟨?_, by rw [trI_of fe L]; rfl⟩
      have A := fe.at L
      by_cases c : nz k < yy k way
      · rw [show te (yy k way) (nz k) = ⟨61, [nz k, yy k way], 0, 0⟩ by unfold te; rw [if_pos c, if_neg (by (clear e y3 L xt rt rm rx rr ry rq zr1 zq1 z5 hQ ho hk ht hw w1 w0; lia))]] at A
        have T := tr_eq (st := st) (X := X2 w) (rest := rest) A Nz Ny
        rwa [show decide ((0 : Int) = b) = decide (b = 0) by rw [Bool.eq_iff_iff]; simp only [decide_eq_true_eq]; (clear c e y3 L xt rt rm rx rr ry rq zr1 zq1 z5 hQ ho hk ht hw w1 w0; lia)] at T
      · rw [show te (yy k way) (nz k) = ⟨61, [yy k way, nz k], 0, 0⟩ by unfold te; rw [if_neg c, if_pos (by (clear y3 L xt rt rm rx rr ry rq zr1 zq1 z5 hQ ho hk ht hw w1 w0; lia))]] at A
        exact tr_eq (st := st) (X := X2 w) (rest := rest) A Ny Nz
  · exact ⟨tr_ult ((eFL F.fu).at L) Nr Ny, by rw [trI_of (eFL F.fu) L]; rfl⟩
  · refine x0a2 (bit_late F w0 ht (rowA (k := k) (way := way) i0 i1).1) fun f g => ?_
    exact ⟨tr_bit (f.at L) Ea i0 (by (clear g i0 y3 L xt rt rm rx rr ry rq zr1 zq1 z5 hQ ho hk ht hw w0; lia)), by rw [trI_of f L]; unfold trT; rw [if_pos rfl, if_pos rfl], by (clear i1 i0 y3 L xt rm rx rr ry rq zq1 hQ ho hk ht hw w1 w0; lia)⟩
  · refine x0a2 (bit_late F w0 ht (rowA (k := k) (way := way) i0 i1).2) fun f g => ?_
    exact ⟨tr_bit (f.at L) (Ex.le (by (clear g i1 i0 y3 L xt rt rm rx rr ry rq zr1 zq1 z5 hQ ho hk ht hw w1 w0; lia))) i0 (by (clear g i0 y3 L xt rt rm rx rr ry rq zr1 zq1 z5 hQ ho hk ht hw w0; lia)), by rw [trI_of f L]; unfold trT; rw [if_pos rfl, if_neg (by simp only [List.cons.injEq, and_true]; (clear g i1 i0 y3 L rt rm rx rr ry rq zr1 zq1 z5 hQ ho hk ht hw w1 w0; lia)), if_pos rfl], by (clear i1 i0 y3 L xt rm rx rr ry rq zq1 hQ ho hk ht hw w1 w0; lia)⟩
  · refine x0a2 (bit_late F w0 ht (rowB (k := k) (way := way) i0 i1).1) fun f g => ?_
    exact ⟨tr_bit (f.at L) (Nq.le (by (clear g i1 i0 y3 L xt rt rm rx rr ry rq zr1 zq1 z5 hQ ho hk ht hw w1 w0; lia))) i0 (by (clear g i0 y3 L xt rt rm rx rr ry rq zr1 zq1 z5 hQ ho hk ht hw w0; lia)), by rw [trI_of f L]; unfold trT; rw [if_pos rfl, if_neg (by simp only [List.cons.injEq, and_true]; (clear g i1 i0 y3 L xt rm rx rr ry rq z5 hQ ho hk ht hw w1 w0; lia)), if_neg (by simp only [List.cons.injEq, and_true]; (clear g i1 i0 y3 L xt rt rm rr ry rq z5 hQ ho hk ht hw w1 w0; lia)), if_pos rfl], by (clear i1 i0 y3 L xt rm rx rr ry rq zq1 hQ ho hk ht hw w1 w0; lia)⟩
  · refine x0a2 (bit_late F w0 ht (rowB (k := k) (way := way) i0 i1).2.1) fun f g => ?_
    exact ⟨tr_bit (f.at L) (Nr.le (by (clear g i1 i0 y3 L xt rt rm rx rr ry rq zr1 zq1 z5 hQ ho hk ht hw w1 w0; lia))) i0 (by (clear g i0 y3 L xt rt rm rx rr ry rq zr1 zq1 z5 hQ ho hk ht hw w0; lia)), by rw [trI_of f L]; unfold trT; rw [if_pos rfl, if_neg (by simp only [List.cons.injEq, and_true]; (clear g i1 i0 y3 L xt rm rx rr ry rq zr1 zq1 z5 hQ ho hk ht hw w1 w0; lia)), if_neg (by simp only [List.cons.injEq, and_true]; (clear g i1 i0 y3 L xt rt rm rr ry rq zr1 zq1 z5 hQ ho hk ht hw w1 w0; lia)), if_neg (by simp only [List.cons.injEq, and_true]; (clear g i1 i0 y3 L xt rt rm rx rr ry rq z5 hQ ho hk ht hw w1 w0; lia)), if_pos rfl], by (clear i1 i0 y3 L xt rm rx rr ry rq zq1 hQ ho hk ht hw w1 w0; lia)⟩
  · refine x0a2 (bit_late F w0 ht (rowB (k := k) (way := way) i0 i1).2.2) fun f g => ?_
    exact ⟨tr_bit (f.at L) (N3.le (by (clear g i1 i0 y3 L xt rt rm rx rr ry rq zr1 zq1 z5 hQ ho hk ht hw w1 w0; lia))) i0 (by (clear g i0 y3 L xt rt rm rx rr ry rq zr1 zq1 z5 hQ ho hk ht hw w0; lia)), by rw [trI_of f L]; unfold trT; rw [if_pos rfl, if_neg (by simp only [List.cons.injEq, and_true]; (clear g i1 i0 y3 L xt rm rx rr ry rq zq1 hQ ho hk ht hw w1 w0; lia)), if_neg (by simp only [List.cons.injEq, and_true]; (clear g i1 i0 y3 L xt rt rm rr ry rq zq1 hQ ho hk ht hw w1 w0; lia)), if_neg (by simp only [List.cons.injEq, and_true]; (clear g i1 i0 y3 L xt rt rm rx rr ry rq zr1 hQ ho hk ht hw w1 w0; lia)), if_neg (by simp only [List.cons.injEq, and_true]; (clear g i1 i0 y3 L xt rt rm rx rr ry rq zq1 hQ ho hk ht hw w1 w0; lia))], by (clear i1 i0 y3 L xt rm rx rr ry rq zq1 hQ ho hk ht hw w1 w0; lia)⟩

theorem lo_pos {tr : Int → Bool} {x : Int} (h : 0 < x) : (tr x.natAbs == decide (0 < x)) = tr x := by
  rw [Int.natAbs_of_nonneg (by lia), decide_eq_true h]; cases tr x <;> rfl
theorem lo_neg {tr : Int → Bool} {x : Int} (h : 0 < x) : (tr (-x).natAbs == decide (0 < -x)) = !tr x := by
  rw [Int.natAbs_neg, Int.natAbs_of_nonneg (by lia), decide_eq_false (by lia)]; cases tr x <;> rfl
theorem zL_pos : 0 < zL k way := by
  obtain ⟨a1, a2, a3, a4, a5, a6, a7, a8, a9, a10, a11, a12, a13, a14, a15, a16⟩ := lens k way
  unfold zL; split <;> lia
theorem line_GI {H : Hp} (T : Trs w k way turn H r a b Q R) {i : Int} (i0 : 0 ≤ i) (i3 : i ≤ 3 * w) :
    (lineS w k way turn i).all (lineOk (trI w k way turn a b Q R)) = GI w a b Q R i ∧ ∀ line ∈ lineS w k way turn i, line.length ≤ 1000 ∧ ∀ one ∈ line, one ≠ 0 ∧ Tr H r one.natAbs (trI w k way turn a b Q R one.natAbs) := by
  obtain ⟨a1, a2, a3, a4, a5, a6, a7, a8, a9, a10, a11, a12, a13, a14, a15, a16⟩ := lens k way
  have zp := zL_pos (k := k) (way := way)
  refine x0a2 T.z fun z1 z2 => ?_
  refine x0a2 T.u fun u1 u2 => ?_
  have P : ∀ {x : Int} {v : Bool}, 0 < x → Tr H r x v → trI w k way turn a b Q R x = v → x ≠ 0 ∧ Tr H r x.natAbs (trI w k way turn a b Q R x.natAbs) := fun h t e => ⟨by (clear e u2 z2 zp a16 a15 a14 a13 a12 a11 a10 a9 a8 a7 a6 a5 a4 a3 a2 a1 i3 i0; lia), by rw [Int.natAbs_of_nonneg (by (clear e u2 z2 zp a16 a15 a14 a13 a12 a11 a10 a9 a8 a7 a6 a5 a4 a3 a2 a1 i3 i0; lia)), e]; exact t⟩
  have M : ∀ {x : Int} {v : Bool}, 0 < x → Tr H r x v → trI w k way turn a b Q R x = v → -x ≠ 0 ∧ Tr H r (-x).natAbs (trI w k way turn a b Q R (-x).natAbs) := fun h t e => ⟨by (clear e u2 z2 zp a16 a15 a14 a13 a12 a11 a10 a9 a8 a7 a6 a5 a4 a3 a2 a1 i3 i0; lia), by rw [Int.natAbs_neg, Int.natAbs_of_nonneg (by (clear e u2 z2 zp a16 a15 a14 a13 a12 a11 a10 a9 a8 a7 a6 a5 a4 a3 a2 a1 i3 i0; lia)), e]; exact t⟩
  unfold lineS GI
  by_cases i1 : i = 2 * w
  · rw [if_pos i1, if_pos i1]
    refine ⟨?_, ?_⟩
    · simp only [List.all_cons, List.all_nil, lineOk, List.any_cons, List.any_nil, lo_pos zp, lo_pos (show 0 < ui k way by (clear i1 u2 z2 zp a16 a15 a14 a13 a12 a10 a8 a7 a6 a5 a2 i3 i0; lia)), z2, u2, Bool.or_false, Bool.and_true]
    · intro line hl
      simp only [List.mem_cons, List.not_mem_nil, or_false] at hl
      subst hl
      refine ⟨by simp, fun one ho => ?_⟩
      simp only [List.mem_cons, List.not_mem_nil, or_false] at ho
      rcases ho with rfl | rfl
      · exact P zp z1 z2
      · exact P (by (clear i1 u2 z2 zp a16 a15 a14 a13 a12 a10 a8 a7 a6 a5 a2 i3 i0; lia)) u1 u2
  · rw [if_neg i1, if_neg i1]
    by_cases i2 : 2 * (w : Int) < i
    · rw [if_pos i2, if_pos i2]
      refine x0a3 (T.bq (i - 2 * w - 1) (by (clear i1 u2 z2 zp a16 a15 a14 a13 a12 a11 a10 a9 a8 a7 a6 a5 a4 a3 a2 a1 i3 i0; lia)) (by (clear i2 i1 u2 z2 zp a16 a15 a14 a13 a12 a11 a10 a9 a8 a7 a6 a5 a4 a3 a2 a1 i0; lia))) fun q1 q2 q3 => ?_
      refine x0a3 (T.br (i - 2 * w - 1) (by (clear q3 q2 i1 u2 z2 zp a16 a15 a14 a13 a12 a11 a10 a9 a8 a7 a6 a5 a4 a3 a2 a1 i3 i0; lia)) (by (clear q3 q2 i2 i1 u2 z2 zp a16 a15 a14 a13 a12 a11 a10 a9 a8 a7 a6 a5 a4 a3 a2 a1 i0; lia))) fun r1 r2 r3 => ?_
      refine x0a3 (T.ba (i - 2 * w - 1) (by (clear r3 r2 q3 q2 i1 u2 z2 zp a16 a15 a14 a13 a12 a11 a10 a9 a8 a7 a6 a5 a4 a3 a2 a1 i3 i0; lia)) (by (clear r3 r2 q3 q2 i2 i1 u2 z2 zp a16 a15 a14 a13 a12 a11 a10 a9 a8 a7 a6 a5 a4 a3 a2 a1 i0; lia))) fun x1 x2 x3 => ?_
      unfold dl3
      refine ⟨?_, ?_⟩
      · simp only [List.all_cons, List.all_nil, lineOk, List.any_cons, List.any_nil, lo_neg zp, lo_pos q3, lo_pos r3, lo_neg r3, lo_pos x3, lo_neg x3, z2, q2, r2, x2, Bool.or_false, Bool.and_true]
      · intro line hl
        simp only [List.mem_cons, List.not_mem_nil, or_false] at hl
        rcases hl with rfl | rfl | rfl
        · refine ⟨by simp, fun one ho => ?_⟩
          simp only [List.mem_cons, List.not_mem_nil, or_false] at ho
          rcases ho with rfl | rfl
          · exact M zp z1 z2
          · exact P q3 q1 q2
        · refine ⟨by simp, fun one ho => ?_⟩
          simp only [List.mem_cons, List.not_mem_nil, or_false] at ho
          rcases ho with rfl | rfl | rfl
          · exact M zp z1 z2
          · exact M r3 r1 r2
          · exact P x3 x1 x2
        · refine ⟨by simp, fun one ho => ?_⟩
          simp only [List.mem_cons, List.not_mem_nil, or_false] at ho
          rcases ho with rfl | rfl | rfl
          · exact M zp z1 z2
          · exact P r3 r1 r2
          · exact M x3 x1 x2
    · rw [if_neg i2, if_neg i2]
      refine x0a3 (T.bt i (by (clear i2 i1 u2 z2 zp a16 a15 a14 a13 a12 a11 a10 a9 a8 a7 a6 a5 a4 a3 a2 a1 i3; lia)) (by (clear u2 z2 zp a16 a15 a14 a13 a12 a11 a10 a9 a8 a7 a6 a5 a4 a3 a2 a1 i3 i0; lia))) fun t1 t2 t3 => ?_
      refine x0a3 (T.bx i (by (clear t3 t2 i2 i1 u2 z2 zp a16 a15 a14 a13 a12 a11 a10 a9 a8 a7 a6 a5 a4 a3 a2 a1 i3; lia)) (by (clear t3 t2 u2 z2 zp a16 a15 a14 a13 a12 a11 a10 a9 a8 a7 a6 a5 a4 a3 a2 a1 i3 i0; lia))) fun x1 x2 x3 => ?_
      unfold dl1
      refine ⟨?_, ?_⟩
      · simp only [List.all_cons, List.all_nil, lineOk, List.any_cons, List.any_nil, lo_pos zp, lo_pos t3, lo_neg t3, lo_pos x3, lo_neg x3, z2, t2, x2, Bool.or_false, Bool.and_true]
      · intro line hl
        simp only [List.mem_cons, List.not_mem_nil, or_false] at hl
        rcases hl with rfl | rfl
        · refine ⟨by simp, fun one ho => ?_⟩
          simp only [List.mem_cons, List.not_mem_nil, or_false] at ho
          rcases ho with rfl | rfl | rfl
          · exact P zp z1 z2
          · exact M t3 t1 t2
          · exact P x3 x1 x2
        · refine ⟨by simp, fun one ho => ?_⟩
          simp only [List.mem_cons, List.not_mem_nil, or_false] at ho
          rcases ho with rfl | rfl | rfl
          · exact P zp z1 z2
          · exact P t3 t1 t2
          · exact M x3 x1 x2
end

/-! the plain law -/
noncomputable def Gall (w : Nat) (a b Q R : Int) : Bool := (List.range (3 * w + 1)).all fun (i : Nat) => GI w a b Q R i
noncomputable def foundS (w : Nat) (a b : Int) : List (Int × Int) := ((List.range (4 ^ w)).filter fun (k : Nat) => Gall w a b (Int.fdiv (k : Int) (2 ^ w)) (Int.fmod (k : Int) (2 ^ w))).map fun (k : Nat) => (Int.fdiv (k : Int) (2 ^ w), Int.fmod (k : Int) (2 ^ w))
noncomputable def eqP : List (Int × Int) → (Int × Int) → Bool
  | [p], q => p.1 == q.1 && p.2 == q.2
  | _, _ => false
theorem eqP_iff {l : List (Int × Int)} {q : Int × Int} (h : eqP l q = true) : l = [q] := by
  unfold eqP at h
  split at h
  · simp only [Bool.and_eq_true, beq_iff_eq] at h
    rw [Prod.ext h.1 h.2]
  · cases h
theorem plain1 : ((List.range 2).all fun (a : Nat) => (List.range 2).all fun (b : Nat) => eqP (foundS 1 a b) (dueS a b (1 : Nat))) = true := by decide +kernel
theorem plain2 : ((List.range 4).all fun (a : Nat) => (List.range 4).all fun (b : Nat) => eqP (foundS 2 a b) (dueS a b (2 : Nat))) = true := by decide +kernel
theorem plain3 : ((List.range 8).all fun (a : Nat) => (List.range 8).all fun (b : Nat) => eqP (foundS 3 a b) (dueS a b (3 : Nat))) = true := by decide +kernel
theorem plain {w : Nat} (w0 : 1 ≤ w) (w1 : w ≤ 3) {a b : Nat} (ha : a < 2 ^ w) (hb : b < 2 ^ w) : foundS w a b = [dueS a b w] := by
  rcases w3 w0 w1 with rfl | rfl | rfl
  · have h := plain1
    rw [List.all_eq_true] at h
    have h := h a (List.mem_range.2 ha)
    rw [List.all_eq_true] at h
    exact eqP_iff (h b (List.mem_range.2 hb))
  · have h := plain2
    rw [List.all_eq_true] at h
    have h := h a (List.mem_range.2 ha)
    rw [List.all_eq_true] at h
    exact eqP_iff (h b (List.mem_range.2 hb))
  · have h := plain3
    rw [List.all_eq_true] at h
    have h := h a (List.mem_range.2 ha)
    rw [List.all_eq_true] at h
    exact eqP_iff (h b (List.mem_range.2 hb))
end Mini.L3
end
section
set_option autoImplicit false
set_option maxRecDepth 10000
set_option maxHeartbeats 2000000
namespace Mini.L3
open Mini

noncomputable def pv (p : Nat × Nat) : V := .tup [.int (p.1 : Int), .int (p.2 : Int)]
noncomputable def allP (N : Nat) : List (Nat × Nat) := (List.range N).flatMap fun a => (List.range N).map fun b => (a, b)
theorem allP_mem {N : Nat} {p : Nat × Nat} (h : p ∈ allP N) : p.1 < N ∧ p.2 < N := by
  refine x1a2 (List.mem_flatMap.1 h) fun a ha h => ?_
  obtain ⟨b, hb, rfl⟩ := List.mem_map.1 h
  exact ⟨List.mem_range.1 ha, List.mem_range.1 hb⟩
theorem allP_len {N : Nat} : (allP N).length = N * N := by
  unfold allP
  rw [List.length_flatMap]
  simp [List.length_map, List.length_range, List.map_const']
theorem allP_map {N : Nat} : (allP N).map pv = ((List.range N).map fun (i : Nat) => V.int (i : Int)).flatMap fun u => ((List.range N).map fun (i : Nat) => V.int (i : Int)).flatMap (fun v => [V.tup [u, v]]) := by
  unfold allP
  rw [flatMap_map', List.map_flatMap]
  congr 1
  funext a
  rw [flatMap_single, List.map_map, List.map_map]; rfl
noncomputable def sel (k way : Nat) (p : Nat × Nat) : Nat × Nat := (p.1, match way with | 0 => p.2 | 1 => k | 2 => 0 | _ => p.1)
theorem sel_ok {k way : Nat} {p : Nat × Nat} (hw : way < 4) : wayOk k way ((sel k way p).1 : Int) ((sel k way p).2 : Int) := by
  have : way = 0 ∨ way = 1 ∨ way = 2 ∨ way = 3 := by lia
  rcases this with rfl | rfl | rfl | rfl
  all_goals (unfold wayOk; refine ⟨fun e => ?_, fun e => ?_, fun e => ?_⟩ <;> first | rfl | (exfalso; (clear hw; lia)))
theorem sel_sub {H : Hp} {k way : Nat} {p : Nat × Nat} (hw : way < 4) : subV H (.tup [.int (p.2 : Int), .int (k : Int), .int 0, .int (p.1 : Int)]) (.int (way : Int)) = some (.int ((sel k way p).2 : Int)) := by
  have : way = 0 ∨ way = 1 ∨ way = 2 ∨ way = 3 := by lia
  rcases this with rfl | rfl | rfl | rfl <;> rfl

section
variable {cells : List Int}
/-- laps: pairs are drawn -/
theorem laps {N : Nat} (N0 : 1 ≤ N) (N1 : N ≤ 8) (hc : cells.length ≤ 30) : ∀ (vs : List V) (t : Nat), t + vs.length ≤ 500 → ∃ l : List (Nat × Nat), (∀ p ∈ l, p ∈ allP N) ∧ l.length = vs.length ∧ ∀ n X ts rest ρ, Lk ρ 461229749363 (.ref 0) → Lk ρ 1701670771 (.lst ((allP N).map pv)) →
    Cl P (n+30) (.var 7364972) (.sub (.var 1701670771) (.call 2202184329901648211039 [.var 461229749363, .bi .len [.var 1701670771]])) vs ρ (hp (stk cells (t : Int)) X ts rest) (l.map pv) (hp (stk cells ((t + vs.length : Nat) : Int)) X ts rest)
  | [], t, _ => ⟨[], by simp, rfl, fun n X ts rest ρ _ _ => cl_nil⟩
  | v :: vs, t, h => by
    have NN : (allP N).length ≤ 64 := by rw [allP_len]; exact Nat.le_trans (Nat.mul_le_mul N1 N1) (by decide)
    have NN1 : 1 ≤ (allP N).length := by rw [allP_len]; exact Nat.le_trans (by decide : 1 ≤ 1 * 1) (Nat.mul_le_mul N0 N0)
    simp only [List.length_cons] at h
    refine x1a3 (l_draw (cells := cells) (t := (t : Int)) (wide := ((allP N).length : Int)) hc (by (clear NN1 NN h hc N1 N0; lia)) (by (clear NN1 NN hc N1 N0; lia)) (by (clear NN h hc N1 N0; lia))) fun d d0 d1 D => ?_
    refine x1a3 (laps N0 N1 hc vs (t + 1) (by (clear d1 d0 NN1 NN hc N1 N0; lia))) fun l h1 h2 h3 => ?_
    have dl : d.toNat < (allP N).length := by (clear h2 d0 NN h hc N1 N0; lia)
    refine ⟨(allP N)[d.toNat] :: l, ?_, by simp [h2], fun n X ts rest ρ k1 k2 => ?_⟩
    · intro p hp
      rcases List.mem_cons.1 hp with rfl | hp
      · exact List.getElem_mem dl
      · exact h1 p hp
    · have cl : ∀ H, callBi .len [.lst ((allP N).map pv)] H = some (.int ((allP N).length : Int), H) := fun H => by rw [call_len (by rw [List.length_map]; (clear dl h2 d1 d0 NN1 h hc N1 N0; lia)), List.length_map]
      have sb : ∀ H, subV H (.lst ((allP N).map pv)) (.int d) = some (pv (allP N)[d.toNat]) := fun H => sub_lst d0 (by rw [List.getElem?_map, List.getElem?_eq_getElem dl]; rfl) (by (clear dl h2 d0 NN1 h hc N1 N0; lia))
      refine cl_cons (ρ1 := lset ρ 7364972 v) rfl (w := pv (allP N)[d.toNat]) (H1 := hp (stk cells ((t + 1 : Nat) : Int)) X ts rest) ?_ ?_
      · (repeat' (first | walk_at "mini e" | exact D _ X ts rest | with_reducible exact cl _ | with_reducible exact sb _ | walk_at "mini a"))
      · have := h3 n X ts rest ρ k1 k2
        rw [show t + 1 + vs.length = t + (v :: vs).length by rw [List.length_cons]; (clear h2 d1 d0 NN1 NN h hc N1 N0; lia)] at this
        exact this
theorem l_pairs {w k way t : Nat} (w0 : 1 ≤ w) (w1 : w ≤ 3) (hk : k < 2 ^ w) (hw : way < 4) (hc : cells.length ≤ 30) (ht : t ≤ 400) :
    ∃ l : List (Nat × Nat), (∀ p ∈ l, p.1 < 2 ^ w ∧ p.2 < 2 ^ w ∧ wayOk k way (p.1 : Int) (p.2 : Int)) ∧ ∃ t' : Nat, ∀ n X ts rest, Ca P (n+60) law_pairs [.ref 0, .int (w : Int), .int (way : Int), .int (k : Int)] (hp (stk cells (t : Int)) X ts rest) (.lst (l.map pv)) (hp (stk cells (t' : Int)) X ts rest) := by
  have N1 : 2 ^ w ≤ 8 := Nat.pow_le_pow_right (n := 2) (by decide) w1
  have N0 : 1 ≤ 2 ^ w := Nat.one_le_two_pow
  have NN : (allP (2 ^ w)).length ≤ 64 := by rw [allP_len]; exact Nat.le_trans (Nat.mul_le_mul N1 N1) (by decide)
  have pw : binV .pow (.int 2) (.int (w : Int)) = some (.int ((2 ^ w : Nat) : Int)) := by
    rw [b_pow (by decide) (by (clear NN N0 N1 ht hc hw hk w1 w0; lia)) (by (clear NN N0 N1 ht hc hw hk w0; lia)), Int.toNat_natCast]; rfl
  -- all pairs
  have A : ∀ n ρ H, Lk ρ 119 (.int (w : Int)) → Ev P (n+30) (.comp (.tup [.var 97, .var 98]) [.mk (.var 97) (.range [.bin .pow (.num 2) (.var 119)]) [], .mk (.var 98) (.range [.bin .pow (.num 2) (.var 119)]) []]) ρ H (.lst ((allP (2 ^ w)).map pv)) H := by
    intro n ρ H hρ
    have okr : (okLen ((2 ^ w : Nat) : Int).toNat && okInt ((2 ^ w : Nat) : Int)) = true := by rw [okLen_of (by (clear pw NN N0 ht hc hw hk w1 w0; lia)), okInt_of (by (clear pw NN N0 ht hc hw w1 w0; lia))]; rfl
    have I : It P (n+29) (.range [.bin .pow (.num 2) (.var 119)]) ρ H ((List.range (2 ^ w)).map fun (i : Nat) => V.int (i : Int)) H := i_range1 (i := ((2 ^ w : Nat) : Int)) (by (repeat' (first | walk_at "mini e" | walk_at "mini a"))) okr
    have L : Cp P (n+29) (.tup [.var 97, .var 98]) (.var 97) [] [.mk (.var 98) (.range [.bin .pow (.num 2) (.var 119)]) []] ((List.range (2 ^ w)).map fun (i : Nat) => V.int (i : Int)) (ldel (n_dot0 :: tgtsOf [.mk (.var 97) (.range [.bin .pow (.num 2) (.var 119)]) [], .mk (.var 98) (.range [.bin .pow (.num 2) (.var 119)]) []]) ρ) H
        (((List.range (2 ^ w)).map fun (i : Nat) => V.int (i : Int)).flatMap fun u => ((List.range (2 ^ w)).map fun (i : Nat) => V.int (i : Int)).flatMap (fun v => [V.tup [u, v]])) := by
      refine cp_map fun v hv => ⟨_, rfl, ?_⟩
      refine cg_cons (i_range1 (i := ((2 ^ w : Nat) : Int)) (by (repeat' (first | walk_at "mini e" | walk_at "mini a"))) okr) ?_
      refine cp_map fun u hu => ⟨_, rfl, ?_⟩
      exact cg_nil (by (repeat' (first | walk_at "mini e" | walk_at "mini a")))
    rw [← allP_map] at L
    exact e_compg I L (okLen_of (by rw [List.length_map]; (clear okr pw N0 N1 ht hc hw hk w1 w0; lia)))
  -- the answer
  have B : ∀ (l : List (Nat × Nat)), l.length ≤ 64 → ∀ n ρ H, Lk ρ 1701670771 (.lst (l.map pv)) → Lk ρ 7954807 (.int (way : Int)) → Lk ρ 125779768604014 (.int (k : Int)) →
      Ev P (n+30) (.comp (.tup [.var 97, .sub (.tup [.var 98, .var 125779768604014, .num 0, .var 97]) (.var 7954807)]) [.mk (.tup [97, 98]) (.var 1701670771) []]) ρ H (.lst ((l.map (sel k way)).map pv)) H := by
    intro l hl n ρ H k1 k2 k3
    have C := e_comp (P := P) (n := n+29) (ρ := ρ) (H := H) (H1 := H) (elt := .tup [.var 97, .sub (.tup [.var 98, .var 125779768604014, .num 0, .var 97]) (.var 7954807)]) (t := .tup [97, 98]) (it := .var 1701670771) (vs := l.map pv)
      (f := fun v => match v with | .tup [.int a, .int b] => pv (sel k way (a.toNat, b.toNat)) | _ => .none) (i_val (by rfl) (e_var' k1) rfl) (by
        intro v hv
        obtain ⟨p, hp, rfl⟩ := List.mem_map.1 hv
        refine ⟨_, rfl, ?_⟩
        show Ev P (n+29) _ _ H (pv (sel k way (((p.1 : Int)).toNat, ((p.2 : Int)).toNat))) H
        rw [Int.toNat_natCast, Int.toNat_natCast]
        have S : ∀ H, subV H (.tup [.int (p.2 : Int), .int (k : Int), .int 0, .int (p.1 : Int)]) (.int (way : Int)) = some (.int ((sel k way p).2 : Int)) := fun H => sel_sub hw
        show Ev P (n+29) _ _ H (.tup [.int (p.1 : Int), .int ((sel k way p).2 : Int)]) H
        (repeat' (first | walk_at "mini e" | with_reducible exact S _ | walk_at "mini a"))) (okLen_of (by rw [List.length_map]; (clear pw NN N0 N1 ht hc hw hk w1 w0; lia)))
    have e : (l.map pv).map (fun v => match v with | .tup [.int a, .int b] => pv (sel k way (a.toNat, b.toNat)) | _ => .none) = (l.map (sel k way)).map pv := by
      rw [List.map_map, List.map_map]; rfl
    rw [e] at C
    exact C
  have Q : ∀ (l : List (Nat × Nat)), (∀ p ∈ l, p ∈ allP (2 ^ w)) → ∀ p ∈ l.map (sel k way), p.1 < 2 ^ w ∧ p.2 < 2 ^ w ∧ wayOk k way (p.1 : Int) (p.2 : Int) := by
    intro l hl p hp
    obtain ⟨q, hq, rfl⟩ := List.mem_map.1 hp
    have := allP_mem (hl q hq)
    refine ⟨this.1, ?_, sel_ok hw⟩
    unfold sel; simp only []; split <;> lia
  by_cases h1 : w = 1
  · have f : decide ((1 : Int) < (w : Int)) = false := decide_eq_false (by (clear pw NN N0 N1 ht hc hw hk w1 w0; lia))
    refine ⟨(allP (2 ^ w)).map (sel k way), Q _ fun p hp => hp, t, fun n X ts rest => ?_⟩
    apply c_ret'
    · rfl
    · (repeat' (first | walk_at "mini e" | exact A _ _ _ (lke_base rfl) | exact B _ (by lia) _ _ _ lke_same (lke_skip rfl (lke_base rfl)) (lke_skip rfl (lke_base rfl)) | walk_at "mini a"))
    · rfl
    · rfl
  · have f : decide ((1 : Int) < (w : Int)) = true := decide_eq_true (by (clear pw NN N0 N1 ht hc hw hk w1; lia))
    refine x1a3 (laps (cells := cells) N0 N1 hc ((List.range ((5 : Int) - 2 * ((w : Int) - 1)).toNat).map fun (i : Nat) => V.int (i : Int)) t (by rw [List.length_map, List.length_range]; (clear f h1 pw NN N0 N1 hc hw hk w1 w0; lia))) fun l l1 l2 l3 => ?_
    have ll : l.length ≤ 5 := by rw [l2, List.length_map, List.length_range]; (clear l2 f h1 pw NN N0 N1 ht hc hw hk w1; lia)
    have okr : (okLen ((5 : Int) - 2 * ((w : Int) - 1)).toNat && okInt ((5 : Int) - 2 * ((w : Int) - 1))) = true := by rw [okLen_of (by (clear ll l2 f h1 pw NN N0 N1 ht hc hw hk w1 w0; lia)), okInt_of (by (clear ll l2 f h1 pw NN N0 N1 ht hc hw hk w0; lia))]; rfl
    refine ⟨l.map (sel k way), Q l l1, t + ((List.range ((5 : Int) - 2 * ((w : Int) - 1)).toNat).map fun (i : Nat) => V.int (i : Int)).length, fun n X ts rest => ?_⟩
    have okl : okLen (l.map pv).length = true := okLen_of (by rw [List.length_map]; (clear okr l2 f h1 pw NN N0 N1 ht hc hw hk w1 w0; lia))
    apply c_ret'
    · rfl
    · (repeat' (first | walk_at "mini e" | exact A _ _ _ (lke_base rfl) | exact B l (by (clear okl okr l2 f h1 pw NN N0 N1 ht hc hw hk w1 w0; lia)) _ _ _ lke_same (lke_skip rfl (lke_skip rfl (lke_base rfl))) (lke_skip rfl (lke_skip rfl (lke_base rfl))) | with_reducible exact b_mul (by decide) | exact l3 _ _ _ _ _ (lke_del rfl (lke_skip rfl (lke_base rfl))) (lke_del rfl lke_same) | apply e_comp1 | walk_at "mini a"))
    · rfl
    · rfl
end
end Mini.L3
end
section
set_option autoImplicit false
set_option maxRecDepth 10000
set_option maxHeartbeats 2000000
namespace Mini
section
variable {P : Prog} {n : Nat} {ρ ρ1 ρ' : Lo} {H H1 H2 H3 H' : Hp}
structure Ep (P : Prog) (n : Nat) (ks es : List E) (ρ : Lo) (H : Hp) (a b : List V) (H' : Hp) : Prop where
  h : evPairs (sem P n) ks es ρ H = some ((a, b), H')
theorem ep_nil : Ep P n [] [] ρ H [] [] H := ⟨rfl⟩
theorem ep_cons {k e : E} {ks es : List E} {kv v : V} {a b : List V} (hk : Ev P n k ρ H kv H1) (he : Ev P n e ρ H1 v H2) (r : Ep P n ks es ρ H2 a b H3) : Ep P n (k :: ks) (e :: es) ρ H (kv :: a) (v :: b) H3 := ⟨bnd hk.h (bnd he.h (bnd r.h rfl))⟩
theorem e_dict {k : DK} {ks es : List E} {a b : List V} {o : O} (r : Ep P n ks es ρ H a b H1) (q : mkDict k a b = some o) : Ev P (n+1) (.dict k ks es) ρ H (.ref H1.length) (H1 ++ [o]) := ⟨bnd r.h (mpd q rfl)⟩
theorem e_freeze {e : E} {r : Nat} {l : List V} (h : Ev P n e ρ H (.ref r) H1) (q : nth H1 r = some (.list l)) : Ev P (n+1) (.freeze e) ρ H (.lst l) (H1.set r .dead) := ⟨bnd h.h (bnd rfl (bnd q rfl))⟩
theorem e_slice_l {o hi : E} {l m : List V} {b : Int} (h : Ev P n o ρ H (.lst l) H1) (g : Ev P n hi ρ H1 (.int b) H2) (k : okInt b = true) (q : sliceL l Option.none (some b) = some m) : Ev P (n+1) (.slice o Option.none (some hi)) ρ H (.lst m) H2 := ⟨bnd h.h (bnd rfl (bnd (bnd g.h (bnd rfl (btt k rfl)) : evOpt (sem P n) (some hi) ρ H1 = some (some b, H2)) (mpd q rfl)))⟩
theorem e_new {c : Nat} {ms : List (Nat × FDef)} {fd : FDef} {args : List E} {vs : List V} (hc : lk P.classes c = some ms) (hm : lk ms n_init = some fd) (h : Es P n args ρ H vs H1) (k : Ca P n fd (.ref H1.length :: vs) (H1 ++ [.inst c []]) .none H2) : Ev P (n+1) (.new c args) ρ H (.ref H1.length) H2 := ⟨bnd hc (bnd hm (bnd h.h (bnd k.h rfl)))⟩
end
end Mini
namespace Mini.L3
open Mini

noncomputable abbrev hj (st : O) (X : Ext) (ts : List Tm) (L : Hp) : Hp := hp st X ts (jd L)
/-- the names that the last loops read -/
structure Lks (ρ : Lo) (w k way : Nat) (lines : List (List Int)) : Prop where
  stock : Lk ρ 461229749363 (.ref 0)
  bank : Lk ρ 1802396002 (.ref 1)
  w : Lk ρ 119 (.int (w : Int))
  way : Lk ρ 7954807 (.int (way : Int))
  number : Lk ρ 125779768604014 (.int (k : Int))
  x : Lk ρ 120 (.int 3)
  other : Lk ρ 491327616111 (.int 4)
  q : Lk ρ 113 (.int (qi k))
  r : Lk ρ 114 (.int (ri k))
  every : Lk ρ 521610294885 (.lst (lines.map fun line => .lst (intsV line)))
noncomputable def hot : List Nat := [461229749363, 1802396002, 119, 7954807, 125779768604014, 120, 491327616111, 113, 114, 521610294885]
theorem Lks.set {ρ : Lo} {w k way : Nat} {lines : List (List Int)} (h : Lks ρ w k way lines) (i : Nat) (v : V) (hi : (hot.all fun j => !(Nat.beq j i)) = true) : Lks (lset ρ i v) w k way lines := by
  have q1 := all_c hi
  have q2 := all_c q1.2
  have q3 := all_c q2.2
  have q4 := all_c q3.2
  have q5 := all_c q4.2
  have q6 := all_c q5.2
  have q7 := all_c q6.2
  have q8 := all_c q7.2
  have q9 := all_c q8.2
  have q10 := all_c q9.2
  exact ⟨lke_skip (nbt q1.1) h.stock, lke_skip (nbt q2.1) h.bank, lke_skip (nbt q3.1) h.w, lke_skip (nbt q4.1) h.way, lke_skip (nbt q5.1) h.number, lke_skip (nbt q6.1) h.x, lke_skip (nbt q7.1) h.other, lke_skip (nbt q8.1) h.q, lke_skip (nbt q9.1) h.r, lke_skip (nbt q10.1) h.every⟩
theorem mk_kn {k : Nat} {a o Q R : Int} : mkDict .i [.int 3, .int 4, .int (qi k), .int (ri k)] [.int a, .int o, .int Q, .int R] = some (.dI (kn k a o Q R)) := by
  obtain ⟨a1, a2, a3, a4, a5, a6, a7, a8, a9, a10, a11, a12, a13, a14, a15, a16⟩ := lens k 0
  have e1 : ((4 : Int) == 3) = false := rfl
  have e2 : (qi k == 3) = false := by rw [beq_eq_false_iff_ne]; (clear e1 a15 a14 a13 a12 a11 a10 a9 a8 a7 a6 a5 a4 a3 a2; lia)
  have e3 : (qi k == 4) = false := by rw [beq_eq_false_iff_ne]; (clear e2 e1 a15 a14 a13 a12 a11 a10 a9 a8 a7 a6 a5 a4 a3 a2; lia)
  have e4 : (ri k == 3) = false := by rw [beq_eq_false_iff_ne]; (clear e3 e2 e1 a16 a15 a14 a13 a12 a11 a10 a9 a8 a7 a6 a5 a4 a2; lia)
  have e5 : (ri k == 4) = false := by rw [beq_eq_false_iff_ne]; (clear e4 e3 e2 e1 a16 a15 a14 a13 a12 a11 a10 a9 a8 a7 a6 a5 a4 a2; lia)
  have e6 : (ri k == qi k) = false := by rw [beq_eq_false_iff_ne]; (clear e5 e4 e3 e2 e1 a15 a14 a13 a12 a11 a10 a9 a8 a7 a6 a5 a4 a2 a1; lia)
  show some (O.dI (setI (setI (setI (setI [] 3 (.int a)) 4 (.int o)) (qi k) (.int Q)) (ri k) (.int R))) = _
  simp only [setI, e1, e2, e3, e4, e5, e6, cond_false, kn]
section
variable {w k way turn : Nat} {lines : List (List Int)}
noncomputable def evS (w k way turn : Nat) : List (List Int) := (List.range (3 * w + 1)).flatMap fun (i : Nat) => lineS w k way turn i
noncomputable def innerB : List S := [.asg (.var 474450194027) (.dict .i [.var 120, .var 491327616111, .var 113, .var 114] [.var 97, .var 98, .bin .fdiv (.var 107) (.bin .pow (.num 2) (.var 119)), .bin .mod (.var 107) (.bin .pow (.num 2) (.var 119))]),
      .ifs (.call 7956375316139483882576807029855 [.var 1802396002, .var 521610294885, .var 474450194027])
        [.expr (.meth (.var 431349919590) 110425311047777 [.tup [.sub (.var 474450194027) (.var 113), .sub (.var 474450194027) (.var 114)]])]
        []]
theorem holds_all {st : O} {rest : Hp} {r : Nat} {a b Q R o : Int} (F : Facts w k way) (w0 : 1 ≤ w) (w1 : w ≤ 3) (hw : way < 4) (ht : turn < 7 * w) (hk : nth (hp st (X2 w) (lateL w k way turn) rest) r = some (.dI (kn k a o Q R))) (ho : way = 0 → o = b) (ok : wayOk k way a b) (hQ : Q.natAbs ≤ 1000) :
    (∀ line ∈ evS w k way turn, line.length ≤ 1000 ∧ ∀ one ∈ line, Tr (hp st (X2 w) (lateL w k way turn) rest) r one.natAbs (trI w k way turn a b Q R one.natAbs)) ∧ holds (trI w k way turn a b Q R) (evS w k way turn) = Gall w a b Q R := by
  have T := trs F w0 w1 hw ht hk ho ok hQ
  constructor
  · intro line hl
    refine x1a2 (List.mem_flatMap.1 hl) fun i hi hl => ?_
    have := List.mem_range.1 hi
    have q := (line_GI T (i := (i : Int)) (by (clear this hQ ho hk ht hw w1 w0; lia)) (by (clear hQ ho hk ht hw w1 w0; lia))).2 line hl
    exact ⟨q.1, fun one ho => (q.2 one ho).2⟩
  · unfold holds evS Gall
    rw [List.all_flatMap]
    rw [Bool.eq_iff_iff, List.all_eq_true, List.all_eq_true]
    constructor
    · intro h i hi
      have := List.mem_range.1 hi
      rw [← (line_GI T (i := (i : Int)) (by (clear this hQ ho hk ht hw w1 w0; lia)) (by (clear hQ ho hk ht hw w1 w0; lia))).1]; exact h i hi
    · intro h i hi
      have := List.mem_range.1 hi
      rw [(line_GI T (i := (i : Int)) (by (clear this hQ ho hk ht hw w1 w0; lia)) (by (clear hQ ho hk ht hw w1 w0; lia))).1]; exact h i hi
theorem inner {n : Nat} {st : O} {a b : Nat} (F : Facts w k way) (w0 : 1 ≤ w) (w1 : w ≤ 3) (hw : way < 4) (ht : turn < 7 * w) (ok : wayOk k way (a : Int) (b : Int)) (J1 : Hp) : ∀ (ks : List Nat) (acc : List V) (J2 : Hp) (ρ : Lo), (∀ i ∈ ks, i < 64) → acc.length + ks.length ≤ 1000 → Lks ρ w k way (evS w k way turn) → Lk ρ 97 (.int (a : Int)) → Lk ρ 98 (.int (b : Int)) → Lk ρ 431349919590 (.ref (J1.length + 15)) →
    ∃ ρ' J2', Lks ρ' w k way (evS w k way turn) ∧ Lk ρ' 97 (.int (a : Int)) ∧ Lk ρ' 98 (.int (b : Int)) ∧ Lk ρ' 431349919590 (.ref (J1.length + 15)) ∧
      exFor (sem P (n+110)) (.var 107) innerB (ks.map fun (i : Nat) => V.int (i : Int)) ρ (hj st (X2 w) (lateL w k way turn) (J1 ++ .list acc :: J2)) =
        some (.nxt, ρ', hj st (X2 w) (lateL w k way turn) (J1 ++ .list (acc ++ (((ks.filter fun (i : Nat) => Gall w a b (Int.fdiv (i : Int) (2 ^ w)) (Int.fmod (i : Int) (2 ^ w))).map fun (i : Nat) => (Int.fdiv (i : Int) (2 ^ w), Int.fmod (i : Int) (2 ^ w))).map pairV)) :: J2'))
  | [], acc, J2, ρ, _, _, L, ka, kb, kf => ⟨ρ, J2, L, ka, kb, kf, by simp only [List.map_nil, List.filter_nil, List.append_nil]; rfl⟩
  | i :: ks, acc, J2, ρ, hi, hl, L, ka, kb, kf => by
    obtain ⟨a1, a2, a3, a4, a5, a6, a7, a8, a9, a10, a11, a12, a13, a14, a15, a16⟩ := lens k way
    have i64 := hi i (List.mem_cons_self ..)
    have p0 : (2 : Int) ^ w ≠ 0 := Int.ne_of_gt (Int.pow_pos (by decide))
    have p1 : (2 : Int) ^ w ≤ 8 ∧ 0 < (2 : Int) ^ w := by rcases w3 w0 w1 with rfl | rfl | rfl <;> exact ⟨by decide, by decide⟩
    have pw : binV .pow (.int 2) (.int (w : Int)) = some (.int (2 ^ w)) := by rw [b_pow (by decide) (by (clear p1 p0 i64 a16 a15 a14 a13 a12 a11 a10 a9 a8 a7 a6 a5 a4 a3 a2 a1 hl ht hw w1 w0; lia)) (by (clear p1 p0 i64 a16 a15 a14 a13 a12 a11 a10 a9 a8 a7 a6 a5 a4 a3 a2 a1 hl ht hw w0; lia)), Int.toNat_natCast]
    have bd : binV .fdiv (.int (i : Int)) (.int (2 ^ w)) = some (.int (Int.fdiv (i : Int) (2 ^ w))) := b_fdiv p0 (by (clear pw p0 i64 a16 a15 a14 a13 a12 a11 a10 a9 a8 a7 a6 a5 a4 a3 a2 a1 hl ht hw w1 w0; lia))
    have bm : binV .mod (.int (i : Int)) (.int (2 ^ w)) = some (.int (Int.fmod (i : Int) (2 ^ w))) := b_mod p0
    have hQ : (Int.fdiv (i : Int) (2 ^ w)).natAbs ≤ 1000 := by
      rw [Int.fdiv_eq_ediv_of_nonneg _ (by (clear bm bd pw p0 i64 a16 a15 a14 a13 a12 a11 a10 a9 a8 a7 a6 a5 a4 a3 a2 a1 hl ht hw w1 w0; lia))]
      have q1 : 0 ≤ (i : Int) / 2 ^ w := Int.ediv_nonneg (by (clear bm bd pw p1 p0 i64 a16 a15 a14 a13 a12 a11 a10 a9 a8 a7 a6 a5 a4 a3 a2 a1 hl ht hw w1 w0; lia)) (by (clear bm bd pw p0 i64 a16 a15 a14 a13 a12 a11 a10 a9 a8 a7 a6 a5 a4 a3 a2 a1 hl ht hw w1 w0; lia))
      have q2 : (i : Int) / 2 ^ w ≤ i := Int.ediv_le_self _ (by (clear q1 bm bd pw p1 p0 i64 a16 a15 a14 a13 a12 a11 a10 a9 a8 a7 a6 a5 a4 a3 a2 a1 hl ht hw w1 w0; lia))
      (clear bm bd pw p1 p0 a16 a15 a14 a13 a12 a11 a10 a9 a8 a7 a6 a5 a4 a3 a2 a1 hl ht hw w1 w0; lia)
    -- the dict
    have D : Ev P (n+109) (.dict .i [.var 120, .var 491327616111, .var 113, .var 114] [.var 97, .var 98, .bin .fdiv (.var 107) (.bin .pow (.num 2) (.var 119)), .bin .mod (.var 107) (.bin .pow (.num 2) (.var 119))]) (lset ρ 107 (.int (i : Int))) (hj st (X2 w) (lateL w k way turn) (J1 ++ .list acc :: J2)) (.ref ((J1 ++ .list acc :: J2).length + 15))
        (hj st (X2 w) (lateL w k way turn) (J1 ++ .list acc :: (J2 ++ [.dI (kn k a b (Int.fdiv (i : Int) (2 ^ w)) (Int.fmod (i : Int) (2 ^ w)))]))) := by
      have e := e_dict (P := P) (n := n+108) (k := .i) (ρ := lset ρ 107 (.int (i : Int))) (H := hj st (X2 w) (lateL w k way turn) (J1 ++ .list acc :: J2)) (H1 := hj st (X2 w) (lateL w k way turn) (J1 ++ .list acc :: J2)) (ks := [.var 120, .var 491327616111, .var 113, .var 114]) (es := [.var 97, .var 98, .bin .fdiv (.var 107) (.bin .pow (.num 2) (.var 119)), .bin .mod (.var 107) (.bin .pow (.num 2) (.var 119))])
        (ep_cons (e_var' (lke_skip rfl L.x)) (e_var' (lke_skip rfl ka)) (ep_cons (e_var' (lke_skip rfl L.other)) (e_var' (lke_skip rfl kb)) (ep_cons (e_var' (lke_skip rfl L.q)) (e_bin (e_var' lke_same) (e_bin e_num (e_var' (lke_skip rfl L.w)) pw) bd) (ep_cons (e_var' (lke_skip rfl L.r)) (e_bin (e_var' lke_same) (e_bin e_num (e_var' (lke_skip rfl L.w)) pw) bm) ep_nil)))) mk_kn
      rw [show hj st (X2 w) (lateL w k way turn) (J1 ++ .list acc :: J2) ++ [O.dI (kn k a b (Int.fdiv (i : Int) (2 ^ w)) (Int.fmod (i : Int) (2 ^ w)))] = hj st (X2 w) (lateL w k way turn) ((J1 ++ .list acc :: J2) ++ [O.dI (kn k a b (Int.fdiv (i : Int) (2 ^ w)) (Int.fmod (i : Int) (2 ^ w)))]) from rfl, List.append_assoc] at e
      exact e
    have nd : nth (hj st (X2 w) (lateL w k way turn) (J1 ++ .list acc :: (J2 ++ [.dI (kn k a b (Int.fdiv (i : Int) (2 ^ w)) (Int.fmod (i : Int) (2 ^ w)))]))) ((J1 ++ .list acc :: J2).length + 15) = some (.dI (kn k a b (Int.fdiv (i : Int) (2 ^ w)) (Int.fmod (i : Int) (2 ^ w)))) := by
      show (J1 ++ .list acc :: (J2 ++ [.dI (kn k a b (Int.fdiv (i : Int) (2 ^ w)) (Int.fmod (i : Int) (2 ^ w)))]))[(J1 ++ .list acc :: J2).length]? = _
      rw [show J1 ++ .list acc :: (J2 ++ [O.dI (kn k a b (Int.fdiv (i : Int) (2 ^ w)) (Int.fmod (i : Int) (2 ^ w)))]) = (J1 ++ .list acc :: J2) ++ [O.dI (kn k a b (Int.fdiv (i : Int) (2 ^ w)) (Int.fmod (i : Int) (2 ^ w)))] by rw [List.append_assoc]; rfl]
      rw [List.getElem?_append_right (Nat.le_refl _), Nat.sub_self]; rfl
    refine x0a2 (holds_all F w0 w1 hw ht nd (fun _ => rfl) ok hQ) fun hl1 hl2 => ?_
    have AH := l_all_hold (n := n+18) hl1
    rw [hl2] at AH
    have C : Ev P (n+109) (.call 7956375316139483882576807029855 [.var 1802396002, .var 521610294885, .var 474450194027]) (lset (lset ρ 107 (.int (i : Int))) 474450194027 (.ref ((J1 ++ .list acc :: J2).length + 15))) _ _ _ :=
      e_call rfl (es_cons (e_var' (lke_skip rfl (lke_skip rfl L.bank))) (es_cons (e_var' (lke_skip rfl (lke_skip rfl L.every))) (es_cons (e_var' lke_same) es_nil))) AH
    have L' : Lks (lset (lset ρ 107 (.int (i : Int))) 474450194027 (.ref ((J1 ++ .list acc :: J2).length + 15))) w k way (evS w k way turn) := (L.set 107 _ rfl).set 474450194027 _ rfl
    by_cases g : Gall w a b (Int.fdiv (i : Int) (2 ^ w)) (Int.fmod (i : Int) (2 ^ w)) = true
    · -- found
      have nf : nth (hj st (X2 w) (lateL w k way turn) (J1 ++ .list acc :: (J2 ++ [.dI (kn k a b (Int.fdiv (i : Int) (2 ^ w)) (Int.fmod (i : Int) (2 ^ w)))]))) (J1.length + 15) = some (.list acc) := by
        show (J1 ++ .list acc :: (J2 ++ [.dI (kn k a b (Int.fdiv (i : Int) (2 ^ w)) (Int.fmod (i : Int) (2 ^ w)))]))[J1.length]? = _
        rw [List.getElem?_append_right (Nat.le_refl _), Nat.sub_self]; rfl
      have sq : subV (hj st (X2 w) (lateL w k way turn) (J1 ++ .list acc :: (J2 ++ [.dI (kn k a b (Int.fdiv (i : Int) (2 ^ w)) (Int.fmod (i : Int) (2 ^ w)))]))) (.ref ((J1 ++ .list acc :: J2).length + 15)) (.int (qi k)) = some (.int (Int.fdiv (i : Int) (2 ^ w))) := by
        rw [s_in nd]; unfold kn; rw [getI_cons, if_neg (by (clear nf g hl2 nd hQ bm bd pw p1 p0 i64 a15 a14 a13 a12 a11 a10 a9 a8 a7 a6 a5 a4 a3 a2 hl ht hw w1 w0; lia)), getI_cons, if_neg (by (clear nf g hl2 nd hQ bm bd pw p1 p0 i64 a15 a14 a13 a12 a11 a10 a9 a8 a7 a6 a5 a4 a3 a2 hl ht hw w1 w0; lia)), getI_cons, if_pos rfl]
      have sr : subV (hj st (X2 w) (lateL w k way turn) (J1 ++ .list acc :: (J2 ++ [.dI (kn k a b (Int.fdiv (i : Int) (2 ^ w)) (Int.fmod (i : Int) (2 ^ w)))]))) (.ref ((J1 ++ .list acc :: J2).length + 15)) (.int (ri k)) = some (.int (Int.fmod (i : Int) (2 ^ w))) := by
        rw [s_in nd]; unfold kn; rw [getI_cons, if_neg (by (clear sq nf g hl2 nd hQ bm bd pw p1 p0 i64 a16 a15 a14 a13 a12 a11 a10 a9 a8 a7 a6 a5 a4 a2 hl ht hw w1 w0; lia)), getI_cons, if_neg (by (clear sq nf g hl2 nd hQ bm bd pw p1 p0 i64 a16 a15 a14 a13 a12 a11 a10 a9 a8 a7 a6 a5 a4 a2 hl ht hw w1 w0; lia)), getI_cons, if_neg (by (clear sq nf g hl2 nd hQ bm bd pw p1 p0 i64 a15 a14 a13 a12 a11 a10 a9 a8 a7 a6 a5 a4 a2 a1 hl ht hw w1 w0; lia)), getI_cons, if_pos rfl]
      have A := e_append (P := P) (n := n+107) (ρ := lset (lset ρ 107 (.int (i : Int))) 474450194027 (.ref ((J1 ++ .list acc :: J2).length + 15))) (o := .var 431349919590) (a := .tup [.sub (.var 474450194027) (.var 113), .sub (.var 474450194027) (.var 114)]) (e_var' (lke_skip rfl (lke_skip rfl kf))) nf
        (e_tup (es_cons (e_sub (e_var' lke_same) (e_var' (lke_skip rfl (lke_skip rfl L.q))) sq) (es_cons (e_sub (e_var' lke_same) (e_var' (lke_skip rfl (lke_skip rfl L.r))) sr) es_nil)) rfl) nf (okLen_of (by simp only [List.length_cons] at hl; (clear sr sq nf g hl2 nd hQ bm bd pw p1 p0 i64 a16 a15 a14 a13 a12 a11 a10 a9 a8 a7 a6 a5 a4 a3 a2 a1 ht hw w1 w0; lia)))
      have B : Xs P (n+110) innerB (lset ρ 107 (.int (i : Int))) (hj st (X2 w) (lateL w k way turn) (J1 ++ .list acc :: J2)) .nxt (lset (lset ρ 107 (.int (i : Int))) 474450194027 (.ref ((J1 ++ .list acc :: J2).length + 15))) _ := x_asgv D (x_ifs C (xi_tn g (x_expr A x_nil) x_nil))
      refine x2a5 (inner (n := n) (st := st) (a := a) (b := b) F w0 w1 hw ht ok J1 ks (acc ++ [pairV (Int.fdiv (i : Int) (2 ^ w), Int.fmod (i : Int) (2 ^ w))]) (J2 ++ [.dI (kn k a b (Int.fdiv (i : Int) (2 ^ w)) (Int.fmod (i : Int) (2 ^ w)))]) _ (fun j hj => hi j (List.mem_cons_of_mem _ hj)) (by simp only [List.length_append, List.length_cons, List.length_nil] at *; (clear sr sq nd nf g hl2 hQ bm bd pw p1 p0 i64 a16 a15 a14 a13 a12 a11 a10 a9 a8 a7 a6 a5 a4 a3 a2 a1 ht hw w1 w0; lia)) L' (lke_skip rfl (lke_skip rfl ka)) (lke_skip rfl (lke_skip rfl kb)) (lke_skip rfl (lke_skip rfl kf))) fun ρ' J2' r1 r2 r3 r4 r5 => ?_
      refine ⟨ρ', J2', r1, r2, r3, r4, ?_⟩
      refine for_cons rfl B.h ?_
      rw [show (hj st (X2 w) (lateL w k way turn) (J1 ++ O.list acc :: (J2 ++ [O.dI (kn k a b (Int.fdiv (i : Int) (2 ^ w)) (Int.fmod (i : Int) (2 ^ w)))]))).set (J1.length + 15) (O.list (acc ++ [V.tup [.int (Int.fdiv (i : Int) (2 ^ w)), .int (Int.fmod (i : Int) (2 ^ w))]])) = hj st (X2 w) (lateL w k way turn) (J1 ++ O.list (acc ++ [pairV (Int.fdiv (i : Int) (2 ^ w), Int.fmod (i : Int) (2 ^ w))]) :: (J2 ++ [O.dI (kn k a b (Int.fdiv (i : Int) (2 ^ w)) (Int.fmod (i : Int) (2 ^ w)))])) by
        show hj st (X2 w) (lateL w k way turn) ((J1 ++ O.list acc :: (J2 ++ [O.dI (kn k a b (Int.fdiv (i : Int) (2 ^ w)) (Int.fmod (i : Int) (2 ^ w)))])).set J1.length _) = _
        rw [List.set_append_right _ _ (Nat.le_refl _), Nat.sub_self]; rfl]
      rw [r5, List.filter_cons_of_pos (p := fun (i : Nat) => Gall w a b (Int.fdiv (i : Int) (2 ^ w)) (Int.fmod (i : Int) (2 ^ w))) g, List.map_cons, List.map_cons, List.append_assoc]; rfl
    · have g : Gall w a b (Int.fdiv (i : Int) (2 ^ w)) (Int.fmod (i : Int) (2 ^ w)) = false := by simpa using g
      have B : Xs P (n+110) innerB (lset ρ 107 (.int (i : Int))) (hj st (X2 w) (lateL w k way turn) (J1 ++ .list acc :: J2)) .nxt (lset (lset ρ 107 (.int (i : Int))) 474450194027 (.ref ((J1 ++ .list acc :: J2).length + 15))) _ := x_asgv D (x_ifs C (xi_f g x_nil))
      refine x2a5 (inner (n := n) (st := st) (a := a) (b := b) F w0 w1 hw ht ok J1 ks acc (J2 ++ [.dI (kn k a b (Int.fdiv (i : Int) (2 ^ w)) (Int.fmod (i : Int) (2 ^ w)))]) _ (fun j hj => hi j (List.mem_cons_of_mem _ hj)) (by simp only [List.length_cons] at hl; lia) L' (lke_skip rfl (lke_skip rfl ka)) (lke_skip rfl (lke_skip rfl kb)) (lke_skip rfl (lke_skip rfl kf))) fun ρ' J2' r1 r2 r3 r4 r5 => ?_
      refine ⟨ρ', J2', r1, r2, r3, r4, ?_⟩
      refine for_cons rfl B.h ?_
      rw [r5, List.filter_cons_of_neg (p := fun (i : Nat) => Gall w a b (Int.fdiv (i : Int) (2 ^ w)) (Int.fmod (i : Int) (2 ^ w))) (by rw [g]; decide)]
end
end Mini.L3
end
section
set_option autoImplicit false
set_option maxRecDepth 10000
set_option maxHeartbeats 2000000
namespace Mini.L3
open Mini

/-! values that are the same -/
theorem deps_le {N : Nat} : ∀ {l : List V}, (∀ v ∈ l, ∃ d, V.dep v = some d ∧ d ≤ N) → ∃ d, V.deps l = some d ∧ d ≤ N
  | [], _ => ⟨0, by simp [V.deps], by lia⟩
  | v :: l, h => by
    refine x1a2 (h v (List.mem_cons_self ..)) fun d e h1 => ?_
    refine x1a2 (deps_le (l := l) fun v hv => h v (List.mem_cons_of_mem _ hv)) fun d2 e2 h2 => ?_
    exact ⟨max d d2, by simp only [V.deps, e, e2], by (clear e2 e; lia)⟩
theorem dep_lst {N : Nat} {l : List V} (h : ∀ v ∈ l, ∃ d, V.dep v = some d ∧ d ≤ N) : ∃ d, V.dep (.lst l) = some d ∧ d ≤ N + 1 := by
  refine x1a2 (deps_le h) fun d e h1 => ?_
  exact ⟨d + 1, by simp only [V.dep, e, Option.map_some], by (clear e; lia)⟩
theorem dep_tup {N : Nat} {l : List V} (h : ∀ v ∈ l, ∃ d, V.dep v = some d ∧ d ≤ N) : ∃ d, V.dep (.tup l) = some d ∧ d ≤ N + 1 := by
  refine x1a2 (deps_le h) fun d e h1 => ?_
  exact ⟨d + 1, by simp only [V.dep, e, Option.map_some], by (clear e; lia)⟩
theorem flat_of {v : V} {N : Nat} (h : ∃ d, V.dep v = some d ∧ d ≤ N) (hN : N ≤ 60) : v.flat = true := by
  refine x1a2 h fun d e h1 => ?_
  simp only [V.flat, e]; exact Nat.ble_eq_true_of_le (by (clear e; lia))
theorem beqs_self : ∀ {l : List V}, (∀ v ∈ l, V.beq v v = true) → V.beqs l l = true
  | [], _ => by simp [V.beqs]
  | v :: l, h => by
    have h1 := h v (List.mem_cons_self ..)
    have h2 := beqs_self (l := l) fun v hv => h v (List.mem_cons_of_mem _ hv)
    simp only [V.beqs, h1, h2, Bool.and_self]
theorem beq_lst {l : List V} (h : ∀ v ∈ l, V.beq v v = true) : V.beq (.lst l) (.lst l) = true := beqs_self h
theorem beq_tup {l : List V} (h : ∀ v ∈ l, V.beq v v = true) : V.beq (.tup l) (.tup l) = true := beqs_self h
theorem beq_int {i : Int} : V.beq (.int i) (.int i) = true := beq_self_eq_true i
theorem dep_int {i : Int} : ∃ d, V.dep (.int i) = some d ∧ d ≤ 0 := ⟨0, by simp [V.dep], Nat.le_refl _⟩
theorem ne_self {H : Hp} {v : V} (h : v.flat = true) (g : V.beq v v = true) : cop .ne H v v = some false := by
  simp only [cop, eqV, h, g, Bool.and_self, cond_true, Option.map_some, Bool.not_true]
theorem intsV_ok (l : List Int) : (∃ d, V.dep (.lst (intsV l)) = some d ∧ d ≤ 1) ∧ V.beq (.lst (intsV l)) (.lst (intsV l)) = true := by
  constructor
  · refine dep_lst fun v hv => ?_
    obtain ⟨i, _, rfl⟩ := List.mem_map.1 hv; exact dep_int
  · refine beq_lst fun v hv => ?_
    obtain ⟨i, _, rfl⟩ := List.mem_map.1 hv; exact beq_int
theorem linesV_ok (l : List (List Int)) : (∃ d, V.dep (linesV l) = some d ∧ d ≤ 2) ∧ V.beq (linesV l) (linesV l) = true := by
  constructor
  · refine dep_lst fun v hv => ?_
    obtain ⟨i, _, rfl⟩ := List.mem_map.1 hv; exact (intsV_ok i).1
  · refine beq_lst fun v hv => ?_
    obtain ⟨i, _, rfl⟩ := List.mem_map.1 hv; exact (intsV_ok i).2
theorem allV_ne {H : Hp} (L : List (List (List Int))) : cop .ne H (.lst (L.map linesV)) (.lst (L.map linesV)) = some false := by
  refine ne_self (flat_of (N := 3) (dep_lst fun v hv => ?_) (by decide)) (beq_lst fun v hv => ?_)
  · obtain ⟨i, _, rfl⟩ := List.mem_map.1 hv; exact (linesV_ok i).1
  · obtain ⟨i, _, rfl⟩ := List.mem_map.1 hv; exact (linesV_ok i).2
theorem pair_ne {H : Hp} (p : Int × Int) : cop .ne H (.lst [pairV p]) (.lst [pairV p]) = some false := by
  refine ne_self (flat_of (N := 2) (dep_lst fun v hv => ?_) (by decide)) (beq_lst fun v hv => ?_)
  · rcases List.mem_singleton.1 hv with rfl
    refine dep_tup fun v hv => ?_
    simp only [List.mem_cons, List.not_mem_nil, or_false] at hv
    rcases hv with rfl | rfl <;> exact dep_int
  · rcases List.mem_singleton.1 hv with rfl
    refine beq_tup fun v hv => ?_
    simp only [List.mem_cons, List.not_mem_nil, or_false] at hv
    rcases hv with rfl | rfl <;> exact beq_int

section
variable {w k way turn : Nat} {cells : List Int}
noncomputable def outerB : List S := [.asg (.var 431349919590) (.list true []),
    .fr (.var 107) (.range [.bin .pow (.num 4) (.var 119)]) innerB,
    .ifs (.cmp (.freeze (.var 431349919590)) [.ne] [.list false [.call 7310859931293412447 [.var 97, .var 98, .var 119]]])
      [.ret (.bool false)]
      []]
theorem outer {n : Nat} {st : O} (F : Facts w k way) (w0 : 1 ≤ w) (w1 : w ≤ 3) (hw : way < 4) (ht : turn < 7 * w) : ∀ (l : List (Nat × Nat)) (J : Hp) (ρ : Lo), (∀ p ∈ l, p.1 < 2 ^ w ∧ p.2 < 2 ^ w ∧ wayOk k way (p.1 : Int) (p.2 : Int)) → Lks ρ w k way (evS w k way turn) →
    ∃ ρ' J', exFor (sem P (n+112)) (.tup [97, 98]) outerB (l.map pv) ρ (hj st (X2 w) (lateL w k way turn) J) = some (.nxt, ρ', hj st (X2 w) (lateL w k way turn) J')
  | [], J, ρ, _, _ => ⟨ρ, J, rfl⟩
  | (a, b) :: l, J, ρ, h, L => by
    refine x0a3 (h (a, b) (List.mem_cons_self ..)) fun ha hb ok => ?_
    have p8 : 2 ^ w ≤ 8 := Nat.pow_le_pow_right (n := 2) (by decide) w1
    have p64 : 4 ^ w ≤ 64 := Nat.pow_le_pow_right (n := 4) (by decide) w1
    have pw : binV .pow (.int 4) (.int (w : Int)) = some (.int ((4 ^ w : Nat) : Int)) := by rw [b_pow (by decide) (by (clear p64 p8 hb ha ht hw w1 w0; lia)) (by (clear p64 p8 hb ha ht hw w0; lia)), Int.toNat_natCast]; rfl
    have L1 : Lks (lset (lset (lset ρ 97 (.int (a : Int))) 98 (.int (b : Int))) 431349919590 (.ref (J.length + 15))) w k way (evS w k way turn) := ((L.set 97 _ rfl).set 98 _ rfl).set 431349919590 _ rfl
    refine x2a5 (inner (n := n+1) (st := st) (a := a) (b := b) F w0 w1 hw ht ok J (List.range (4 ^ w)) [] [] _ (fun i hi => by have := List.mem_range.1 hi; (clear pw p8 hb ha ht hw w1 w0; lia)) (by rw [List.length_range, List.length_nil]; (clear pw p8 hb ha ht hw w1 w0; lia)) L1 (lke_skip rfl (lke_skip rfl lke_same)) (lke_skip rfl lke_same) lke_same) fun ρ2 J2 r1 r2 r3 r4 r5 => ?_
    have fs : (((List.range (4 ^ w)).filter fun (i : Nat) => Gall w a b (Int.fdiv (i : Int) (2 ^ w)) (Int.fmod (i : Int) (2 ^ w))).map fun (i : Nat) => (Int.fdiv (i : Int) (2 ^ w), Int.fmod (i : Int) (2 ^ w))) = [dueS a b w] := plain w0 w1 ha hb
    rw [fs] at r5
    have I : It P (n+111) (.range [.bin .pow (.num 4) (.var 119)]) (lset (lset (lset ρ 97 (.int (a : Int))) 98 (.int (b : Int))) 431349919590 (.ref (J.length + 15))) (hj st (X2 w) (lateL w k way turn) (J ++ [.list []])) ((List.range (4 ^ w)).map fun (i : Nat) => V.int (i : Int)) (hj st (X2 w) (lateL w k way turn) (J ++ [.list []])) :=
      i_range1 (i := ((4 ^ w : Nat) : Int)) (e_bin e_num (e_var' L1.w) pw) (by rw [okLen_of (by rw [Int.toNat_natCast]; (clear fs r5 pw p8 hb ha ht hw w1 w0; lia)), okInt_of (by rw [Int.natAbs_natCast]; (clear fs r5 pw p8 hb ha ht hw w1 w0; lia))]; rfl)
    have nf : nth (hj st (X2 w) (lateL w k way turn) (J ++ .list [pairV (dueS a b w)] :: J2)) (J.length + 15) = some (.list [pairV (dueS a b w)]) := by
      show (J ++ O.list [pairV (dueS a b w)] :: J2)[J.length]? = _
      rw [List.getElem?_append_right (Nat.le_refl _), Nat.sub_self]; rfl
    have DU := l_due (n := n+92) (a := (a : Int)) (b := (b : Int)) (w := (w : Int)) (H := (hj st (X2 w) (lateL w k way turn) (J ++ .list [pairV (dueS a b w)] :: J2)).set (J.length + 15) .dead) (by (clear nf fs r5 pw p64 p8 hb ha ht hw w1 w0; lia)) (by (clear nf fs r5 pw p64 hb ht hw w1 w0; lia)) (by (clear nf fs r5 pw p64 p8 hb ha ht hw w1 w0; lia)) (by (clear nf fs r5 pw p64 p8 hb ha ht hw w1 w0; lia)) (by (clear nf fs r5 pw p64 p8 hb ha ht hw w0; lia))
    have C : Ev P (n+111) (.cmp (.freeze (.var 431349919590)) [.ne] [.list false [.call 7310859931293412447 [.var 97, .var 98, .var 119]]]) ρ2 (hj st (X2 w) (lateL w k way turn) (J ++ .list [pairV (dueS a b w)] :: J2)) (.bool false) _ :=
      e_cmp (e_freeze (e_var' r4) nf) (e_list (es_cons (e_call rfl (es_cons (e_var' r2) (es_cons (e_var' r3) (es_cons (e_var' r1.w) es_nil))) DU) es_nil) rfl) (pair_ne _)
    have B : Xs P (n+112) outerB (lset (lset ρ 97 (.int (a : Int))) 98 (.int (b : Int))) (hj st (X2 w) (lateL w k way turn) J) .nxt ρ2 ((hj st (X2 w) (lateL w k way turn) (J ++ .list [pairV (dueS a b w)] :: J2)).set (J.length + 15) .dead) :=
      x_asgv (e_listm es_nil rfl) (x_fr I r5 (x_ifs C (xi_f rfl x_nil)))
    refine x2a1 (outer (n := n) (st := st) F w0 w1 hw ht l ((J ++ .list [pairV (dueS a b w)] :: J2).set J.length .dead) ρ2 (fun p hp => h p (List.mem_cons_of_mem _ hp)) r1) fun ρ' J' e => ?_
    exact ⟨ρ', J', for_cons rfl B.h e⟩
noncomputable def tailA : List S := [.fr (.tup [97, 98]) (.call 545182667828414138903647 [.var 461229749363, .var 119, .var 7954807, .var 125779768604014]) outerB, .ret (.bool true)]
theorem t_A {n t : Nat} {J : Hp} {ρ : Lo} (F : Facts w k way) (w0 : 1 ≤ w) (w1 : w ≤ 3) (hk : k < 2 ^ w) (hw : way < 4) (ht : turn < 7 * w) (hc : cells.length ≤ 30) (t4 : t ≤ 400) (L : Lks ρ w k way (evS w k way turn)) :
    ∃ ρ' H', Xs P (n+113) tailA ρ (hj (stk cells (t : Int)) (X2 w) (lateL w k way turn) J) (.ret (.bool true)) ρ' H' := by
  obtain ⟨l, hl, t', PR⟩ := l_pairs (cells := cells) w0 w1 hk hw hc t4
  refine x2a1 (outer (n := n) (st := stk cells (t' : Int)) F w0 w1 hw ht l J ρ hl L) fun ρ' J' e => ?_
  refine ⟨ρ', _, x_fr (i_val (by rfl) (e_call rfl (es_cons (e_var' L.stock) (es_cons (e_var' L.w) (es_cons (e_var' L.way) (es_cons (e_var' L.number) es_nil)))) (PR (n+51) (X2 w) (lateL w k way turn) (jd J))) rfl) e (x_ret e_bool)⟩
end
end Mini.L3
end
section
set_option autoImplicit false
set_option maxRecDepth 10000
set_option maxHeartbeats 2000000
namespace Mini
section
variable {P : Prog} {n : Nat} {ρ ρ1 ρ' : Lo} {H H1 H2 H3 H' : Hp}
theorem cl_map {α : Type} {elt : E} {t : T} {g f : α → V} : ∀ {l : List α}, (∀ a ∈ l, ∃ ρ', bindT t (g a) ρ = some ρ' ∧ Ev P n elt ρ' H (f a) H) → Cl P n t elt (l.map g) ρ H (l.map f) H
  | [], _ => cl_nil
  | a :: l, h => by
    refine x1a2 (h a (List.mem_cons_self ..)) fun ρ' h1 h2 => ?_
    exact cl_cons h1 h2 (cl_map fun b hb => h b (List.mem_cons_of_mem _ hb))
theorem e_compm {α : Type} {elt it : E} {t : T} {g f : α → V} {l : List α} (i : It P n it ρ H (l.map g) H1) (h : ∀ a ∈ l, ∃ ρ', bindT t (g a) (ldel (n_dot0 :: tgtsOf [.mk t it []]) ρ) = some ρ' ∧ Ev P n elt ρ' H1 (f a) H1) (q : l.length ≤ 1000) : Ev P (n+1) (.comp elt [.mk t it []]) ρ H (.lst (l.map f)) H1 :=
  e_comp1 i (cl_map h) (L3.okLen_of (by rw [List.length_map]; lia))
theorem cp_mapm {α : Type} {elt : E} {t : T} {gs : List G} {g : α → V} {f : α → List V} {l : List α} (h : ∀ a ∈ l, ∃ ρ', bindT t (g a) ρ = some ρ' ∧ Cg P n elt gs ρ' H (f a)) : Cp P n elt t [] gs (l.map g) ρ H (l.flatMap f) := by
  induction l with
  | nil => exact ⟨rfl⟩
  | cons a l ih =>
    refine x1a2 (h a (List.mem_cons_self ..)) fun ρ' h1 h2 => ?_
    have h3 := (ih fun b hb => h b (List.mem_cons_of_mem _ hb)).h
    have h2 := h2.h
    constructor
    simp only [List.map_cons, evComp.loop, h1, evIfs, h2, h3, Option.bind_some, cond_true, List.flatMap_cons]
end
end Mini
namespace Mini.L3
open Mini
theorem find_le (ts : List Tm) (t : Tm) : find 1 ts t ≤ ts.length := by
  by_cases h : find 1 ts t = 0
  · lia
  · have F := find_range 0 ts t
    simp only [Nat.zero_add] at F
    exact (F h).2.1
section
variable {w k way turn : Nat} {cells : List Int}
theorem cut_id {n : Nat} {x : Int} (h : x.natAbs ≤ n) : cut n x = x := by unfold cut; rw [if_pos h]
theorem late_len (F : Facts w k way) (w0 : 1 ≤ w) : (ti k way : Int) ≤ (lateL w k way turn).length := by
  rw [late_eq w0, List.length_append, F.len]
  obtain ⟨a1, a2, a3, a4, a5, a6, a7, a8, a9, a10, a11, a12, a13, a14, a15, a16⟩ := lens k way
  (clear a16 a15 a14 a13 a12 a11 a10 a9 a8 a7 a6 a5 a4 a3 a2 a1 w0; lia)
theorem lineS_le (F : Facts w k way) (w0 : 1 ≤ w) {i : Int} : ∀ line ∈ lineS w k way turn i, ∀ one ∈ line, one.natAbs ≤ (lateL w k way turn).length := by
  have L := late_len (turn := turn) F w0
  obtain ⟨a1, a2, a3, a4, a5, a6, a7, a8, a9, a10, a11, a12, a13, a14, a15, a16⟩ := lens k way
  have Z : (zL k way).natAbs ≤ (lateL w k way turn).length := by unfold zL; split <;> lia
  have U : (ui k way).natAbs ≤ (lateL w k way turn).length := by (clear Z a16 a15 a14 a12 a10 a8 a7 a6 a5 a2 w0; lia)
  have D : ∀ t, (fd (lateL w k way turn) t).natAbs ≤ (lateL w k way turn).length := fun t => by
    have := find_le (lateL w k way turn) t
    show (((find 1 (lateL w k way turn) t : Nat) : Int)).natAbs ≤ _
    rw [Int.natAbs_natCast]; exact this
  intro line hl one ho
  unfold lineS at hl
  split at hl
  · simp only [List.mem_cons, List.not_mem_nil, or_false] at hl
    subst hl
    simp only [List.mem_cons, List.not_mem_nil, or_false] at ho
    rcases ho with rfl | rfl
    · exact Z
    · exact U
  · split at hl
    · simp only [dl3, List.mem_cons, List.not_mem_nil, or_false] at hl
      rcases hl with rfl | rfl | rfl <;> simp only [List.mem_cons, List.not_mem_nil, or_false] at ho
      · rcases ho with rfl | rfl
        · rw [Int.natAbs_neg]; exact Z
        · exact D _
      · rcases ho with rfl | rfl | rfl
        · rw [Int.natAbs_neg]; exact Z
        · rw [Int.natAbs_neg]; exact D _
        · exact D _
      · rcases ho with rfl | rfl | rfl
        · rw [Int.natAbs_neg]; exact Z
        · exact D _
        · rw [Int.natAbs_neg]; exact D _
    · simp only [dl1, List.mem_cons, List.not_mem_nil, or_false] at hl
      rcases hl with rfl | rfl <;> simp only [List.mem_cons, List.not_mem_nil, or_false] at ho
      · rcases ho with rfl | rfl | rfl
        · exact Z
        · rw [Int.natAbs_neg]; exact D _
        · exact D _
      · rcases ho with rfl | rfl | rfl
        · exact Z
        · exact D _
        · rw [Int.natAbs_neg]; exact D _
theorem dl_full (F : Facts w k way) (w0 : 1 ≤ w) (w1 : w ≤ 3) (ht : turn < 7 * w) {i : Int} (i0 : 0 ≤ i) : dl (lateL w k way turn) 3 (some 4) 3 (yy k way) w i = lineS w k way turn i := by
  have h := dl_cut (m := 7 + 7 * w) F w0 w1 (Nat.le_refl _) (by (clear i0 ht w1 w0; lia)) ht i0
  rw [if_neg (by (clear h i0 ht w1 w0; lia))] at h
  rw [show lateL w k way turn = Sm w k way turn (7 + 7 * w) from rfl, h]
  have S := lineS_le (turn := turn) F w0 (i := i)
  have e : ∀ L : List (List Int), (∀ line ∈ L, ∀ one ∈ line, one.natAbs ≤ (lateL w k way turn).length) → (L.map fun l => l.map (cut (Sm w k way turn (7 + 7 * w)).length)) = L := by
    intro L hL
    induction L with
    | nil => rfl
    | cons l L ih =>
      rw [List.map_cons, ih fun x hx => hL x (List.mem_cons_of_mem _ hx)]
      congr 1
      have hl := hL l (List.mem_cons_self ..)
      clear ih hL
      induction l with
      | nil => rfl
      | cons a l ih => rw [List.map_cons, ih fun x hx => hl x (List.mem_cons_of_mem _ hx), cut_id (hl a (List.mem_cons_self ..))]
  exact e _ S
/-- behind the last place no line is whole -/
theorem late_no {p : Int} (F : Facts w k way) (w0 : 1 ≤ w) (hp : p = qi k ∨ p = ri k ∨ p = 3) : fd (lateL w k way turn) (tb p w) = 0 := by
  obtain ⟨a1, a2, a3, a4, a5, a6, a7, a8, a9, a10, a11, a12, a13, a14, a15, a16⟩ := lens k way
  rw [late_eq w0]
  have : find (0+1) (FL w k way ++ bitsN w k way turn (7 * w)) (tb p w) = 0 := by
    refine find_none 0 _ _ fun u hu e => ?_
    rcases List.mem_append.1 hu with hu | hu
    · exact noBit_mem F.nb hu (by rw [e])
    · obtain ⟨i, hi', rfl⟩ := List.mem_map.1 hu
      obtain ⟨⟨p', i'⟩, hp'⟩ := rowL_get (w := w) (k := k) (way := way) _ (Nat.mod_lt (i + turn) (by (clear e a16 a15 a14 a13 a12 a11 a10 a9 a8 a7 a6 a5 a4 a3 a2 a1 hp; lia) : 0 < 7 * w))
      rw [bitN_eq rfl hp'] at e
      have q1 : p' = p := by injection e with _ q1 _ _; injection q1
      have q2 : i' = w := by injection e
      subst q1 q2
      rcases List.mem_append.1 (List.mem_of_getElem? hp') with h | h
      · refine x0a3 (rowsOf_mem h) fun hp2 _ _ => ?_
        simp only [List.mem_cons, List.not_mem_nil, or_false] at hp2
        (clear e hp' a15 a12 a11 a10 a8 a7 a6 a5 a2 w0; lia)
      · refine x0a3 (rowsOf_mem h) fun _ _ h3 => ?_
        (clear e hp' hp a16 a15 a14 a13 a12 a11 a10 a9 a8 a7 a6 a5 a4 a3 a2 a1 w0; lia)
  show ((find 1 _ _ : Nat) : Int) = 0
  simp only [Nat.zero_add] at this
  rw [this]; rfl
theorem dl_end (F : Facts w k way) (w0 : 1 ≤ w) (w1 : w ≤ 3) (ht : turn < 7 * w) : dl (lateL w k way turn) 3 (some 4) 3 (yy k way) w (3 * w + 1) = dl3 (zL k way) 0 0 0 := by
  rw [dl_full F w0 w1 ht (by (clear ht w1 w0; lia))]
  unfold lineS
  rw [if_neg (by (clear ht w1 w0; lia)), if_pos (by (clear ht w1 w0; lia)), show (3 * (w : Int) + 1) - 2 * w - 1 = w by (clear ht w1 w0; lia), late_no F w0 (.inl rfl), late_no F w0 (.inr (.inl rfl)), late_no F w0 (.inr (.inr rfl))]
theorem DL {st : O} {J : Hp} (F : Facts w k way) (w0 : 1 ≤ w) (w1 : w ≤ 3) {m : Nat} (hm : m ≤ 7 + 7 * w) (h1 : 1 ≤ m) (hw : way < 4) : ∀ n i, Ca P (n+34) BitJudge_division_lines [.ref 13, .int (qi k), .int i] (hj st (Xm w m) (Sm w k way turn m) J) (linesV (dl (Sm w k way turn m) 3 (if m ≤ 2 then none else some 4) 3 (yy k way) w i)) (hj st (Xm w m) (Sm w k way turn m) J) ∧ Ca P (n+34) BitJudge_division_lines [.ref 13, .int (ri k), .int i] (hj st (Xm w m) (Sm w k way turn m) J) (linesV (dl (Sm w k way turn m) 3 (if m ≤ 2 then none else some 4) 3 (yy k way) w i)) (hj st (Xm w m) (Sm w k way turn m) J) := by
  intro n i
  have L := Sm_len (turn := turn) (m := m) F w1 hm
  have G := ge (turn := turn) F w0 w1 hw hm h1
  have h2 : getI (Xm w m).bvn (2 * (w : Int)) = (if m ≤ 2 then none else some (4 : Int)).map V.int := by
    rw [Int.two_mul]
    unfold Xm
    by_cases m2 : m ≤ 2
    · rw [if_pos m2, if_pos m2]; exact bv1n w0
    · rw [if_neg m2, if_neg m2]; exact bv4 w0
  have h3 : ∀ x, (if m ≤ 2 then none else some (4 : Int)) = some x → 0 ≤ x := by
    intro x e
    by_cases m2 : m ≤ 2
    · rw [if_pos m2] at e; cases e
    · rw [if_neg m2] at e; cases e; decide
  exact ⟨l_division_lines (G.fq.at (by (clear h2 hw h1 hm w1 w0; lia))) G.wd G.bv (by decide) h2 h3 (by (clear h2 L hw h1 hm w1; lia)) (by (clear h2 L hw h1 hm w0; lia)), l_division_lines (G.fr.at (by (clear h2 hw h1 hm w1 w0; lia))) G.wd G.bv (by decide) h2 h3 (by (clear h2 L hw h1 hm w1; lia)) (by (clear h2 L hw h1 hm w0; lia))⟩
theorem DLl {st : O} {J : Hp} (F : Facts w k way) (w0 : 1 ≤ w) (w1 : w ≤ 3) (hw : way < 4) (ht : turn < 7 * w) {i : Int} (i0 : 0 ≤ i) : ∀ n, Ca P (n+34) BitJudge_division_lines [.ref 13, .int (qi k), .int i] (hj st (X2 w) (lateL w k way turn) J) (linesV (lineS w k way turn i)) (hj st (X2 w) (lateL w k way turn) J) ∧ Ca P (n+34) BitJudge_division_lines [.ref 13, .int (ri k), .int i] (hj st (X2 w) (lateL w k way turn) J) (linesV (lineS w k way turn i)) (hj st (X2 w) (lateL w k way turn) J) := by
  intro n
  have h := DL (st := st) (J := J) (turn := turn) (m := 7 + 7 * w) F w0 w1 (Nat.le_refl _) (by (clear i0 ht hw w1 w0; lia)) hw n i
  rw [if_neg (by (clear h i0 ht hw w1 w0; lia)), show Xm w (7 + 7 * w) = X2 w by unfold Xm; rw [if_neg (by (clear h i0 ht hw w1 w0; lia))]] at h
  rw [show Sm w k way turn (7 + 7 * w) = lateL w k way turn from rfl, dl_full F w0 w1 ht i0] at h
  exact h
end
end Mini.L3
end
section
set_option autoImplicit false
set_option maxRecDepth 10000
set_option maxHeartbeats 2000000
namespace Mini.L3
open Mini
/-- the names that the law reads after the pieces, without the lines -/
structure Lkb (ρ : Lo) (w k way : Nat) : Prop where
  stock : Lk ρ 461229749363 (.ref 0)
  bank : Lk ρ 1802396002 (.ref 1)
  w : Lk ρ 119 (.int (w : Int))
  way : Lk ρ 7954807 (.int (way : Int))
  number : Lk ρ 125779768604014 (.int (k : Int))
  x : Lk ρ 120 (.int 3)
  other : Lk ρ 491327616111 (.int 4)
  q : Lk ρ 113 (.int (qi k))
  r : Lk ρ 114 (.int (ri k))
  judge : Lk ρ 435526333802 (.ref 13)
noncomputable def hotb : List Nat := [461229749363, 1802396002, 119, 7954807, 125779768604014, 120, 491327616111, 113, 114, 435526333802]
theorem Lkb.set {ρ : Lo} {w k way : Nat} (h : Lkb ρ w k way) (i : Nat) (v : V) (hi : (hotb.all fun j => !(Nat.beq j i)) = true) : Lkb (lset ρ i v) w k way := by
  have q1 := all_c hi
  have q2 := all_c q1.2
  have q3 := all_c q2.2
  have q4 := all_c q3.2
  have q5 := all_c q4.2
  have q6 := all_c q5.2
  have q7 := all_c q6.2
  have q8 := all_c q7.2
  have q9 := all_c q8.2
  have q10 := all_c q9.2
  exact ⟨lke_skip (nbt q1.1) h.stock, lke_skip (nbt q2.1) h.bank, lke_skip (nbt q3.1) h.w, lke_skip (nbt q4.1) h.way, lke_skip (nbt q5.1) h.number, lke_skip (nbt q6.1) h.x, lke_skip (nbt q7.1) h.other, lke_skip (nbt q8.1) h.q, lke_skip (nbt q9.1) h.r, lke_skip (nbt q10.1) h.judge⟩
theorem Lkb.del {ρ : Lo} {w k way : Nat} (h : Lkb ρ w k way) (l : List Nat) (hi : (hotb.all fun j => !(l.any (Nat.beq j))) = true) : Lkb (ldel l ρ) w k way := by
  have q1 := all_c hi
  have q2 := all_c q1.2
  have q3 := all_c q2.2
  have q4 := all_c q3.2
  have q5 := all_c q4.2
  have q6 := all_c q5.2
  have q7 := all_c q6.2
  have q8 := all_c q7.2
  have q9 := all_c q8.2
  have q10 := all_c q9.2
  exact ⟨lke_del (nbt q1.1) h.stock, lke_del (nbt q2.1) h.bank, lke_del (nbt q3.1) h.w, lke_del (nbt q4.1) h.way, lke_del (nbt q5.1) h.number, lke_del (nbt q6.1) h.x, lke_del (nbt q7.1) h.other, lke_del (nbt q8.1) h.q, lke_del (nbt q9.1) h.r, lke_del (nbt q10.1) h.judge⟩
section
variable {w k way turn : Nat} {cells : List Int}
noncomputable def allL (w k way turn : Nat) : List (List (List Int)) := (List.range (3 * w + 1)).map fun (i : Nat) => lineS w k way turn i
theorem allL_len : (allL w k way turn).length = 3 * w + 1 := by unfold allL; rw [List.length_map, List.length_range]
theorem lineS_len {i : Int} : (lineS w k way turn i).length ≤ 3 ∧ ∀ line ∈ lineS w k way turn i, line.length ≤ 3 := by
  unfold lineS dl1 dl3
  split
  · simp
  · split
    · simp
    · simp
theorem allL_sz : ∀ ls ∈ allL w k way turn, ls.length ≤ 3 ∧ ∀ line ∈ ls, line.length ≤ 3 := by
  intro ls h
  obtain ⟨i, _, rfl⟩ := List.mem_map.1 h
  exact lineS_len
theorem flatMap_le {α β : Type} {f : α → List β} {N : Nat} : ∀ {l : List α}, (∀ a ∈ l, (f a).length ≤ N) → (l.flatMap f).length ≤ l.length * N
  | [], _ => by simp
  | a :: l, h => by
    have h1 := h a (List.mem_cons_self ..)
    have h2 := flatMap_le (l := l) fun b hb => h b (List.mem_cons_of_mem _ hb)
    rw [List.flatMap_cons, List.length_append, List.length_cons, Nat.add_mul]; lia
noncomputable def lateV (w k way turn : Nat) : V := .lst ((allL w k way turn).map linesV)
theorem evS_eq : evS w k way turn = (allL w k way turn).flatMap id := by
  unfold evS allL; rw [flatMap_map']; rfl
noncomputable def t15 : List S := .asg (.var 521610294885) (.comp (.var 1701734764) [.mk (.var 495622973804) (.var 1702125932) [], .mk (.var 1701734764) (.var 495622973804) []]) :: tailA
theorem t_15 {n t : Nat} {J : Hp} {ρ : Lo} (F : Facts w k way) (w0 : 1 ≤ w) (w1 : w ≤ 3) (hk : k < 2 ^ w) (hw : way < 4) (ht : turn < 7 * w) (hc : cells.length ≤ 30) (t4 : t ≤ 400) (L : Lkb ρ w k way) (Ll : Lk ρ 1702125932 (lateV w k way turn)) :
    ∃ ρ' H', Xs P (n+113) t15 ρ (hj (stk cells (t : Int)) (X2 w) (lateL w k way turn) J) (.ret (.bool true)) ρ' H' := by
  have C : Ev P (n+112) (.comp (.var 1701734764) [.mk (.var 495622973804) (.var 1702125932) [], .mk (.var 1701734764) (.var 495622973804) []]) ρ (hj (stk cells (t : Int)) (X2 w) (lateL w k way turn) J) (.lst ((evS w k way turn).map fun line => .lst (intsV line))) (hj (stk cells (t : Int)) (X2 w) (lateL w k way turn) J) := by
    have Q := cp_mapm (P := P) (n := n+111) (elt := .var 1701734764) (t := .var 495622973804) (gs := [.mk (.var 1701734764) (.var 495622973804) []]) (g := linesV) (f := fun ls => ls.flatMap fun line => [V.lst (intsV line)]) (l := allL w k way turn) (H := hj (stk cells (t : Int)) (X2 w) (lateL w k way turn) J) (ρ := ldel (n_dot0 :: tgtsOf [.mk (.var 495622973804) (.var 1702125932) [], .mk (.var 1701734764) (.var 495622973804) []]) ρ) (by
      intro ls hls
      refine ⟨_, rfl, cg_cons (i_val (by rfl) (e_var' lke_same) rfl) (cp_mapm fun line hl => ⟨_, rfl, cg_nil (e_var' lke_same)⟩)⟩)
    have e : (allL w k way turn).flatMap (fun ls => ls.flatMap fun line => [V.lst (intsV line)]) = (evS w k way turn).map fun line => .lst (intsV line) := by
      rw [evS_eq, List.map_flatMap]; congr 1; funext ls; rw [flatMap_single]; rfl
    rw [e] at Q
    refine e_compg (i_val (by rfl) (e_var' Ll) rfl) Q (okLen_of ?_)
    rw [List.length_map, evS_eq]
    have := flatMap_le (f := id) (N := 3) (l := allL w k way turn) fun ls h => (allL_sz ls h).1
    rw [allL_len] at this; (clear e t4 hc ht hw hk w0; lia)
  have L1 : Lks (lset ρ 521610294885 (.lst ((evS w k way turn).map fun line => .lst (intsV line)))) w k way (evS w k way turn) :=
    have M := L.set 521610294885 (.lst ((evS w k way turn).map fun line => .lst (intsV line))) rfl
    ⟨M.stock, M.bank, M.w, M.way, M.number, M.x, M.other, M.q, M.r, lke_same⟩
  refine x2a1 (t_A (n := n) (t := t) (J := J) F w0 w1 hk hw ht hc t4 L1) fun ρ' H' e => ?_
  exact ⟨ρ', H', x_asgv C e⟩
noncomputable def t14 : List S := .ifs (.cmp (.comp (.var 1701734764) [.mk (.var 1701734764) (.meth (.var 435526333802) 2340513319633950182876439995902308 [.var 113, .bin .add (.bin .mul (.num 3) (.var 119)) (.num 1)]) [.cmp (.num 0) [.notin] [.var 1701734764]]]) [.ne] [.list false []]) [.ret (.bool false)] [] :: t15
theorem cop_notin_ints {H : Hp} {a : Int} {l : List Int} : cop .notin H (.int a) (.lst (intsV l)) = some (!decide (a ∈ l)) := by
  show (bif V.flats (intsV l) then some ((intsV l).any fun y => V.beq y (.int a)) else none).map (!·) = _
  rw [flats_ints, any_ints]; rfl
theorem cop_in_lst {H : Hp} {a : Int} {l : List Int} : cop .isin H (.int a) (.lst (intsV l)) = some (decide (a ∈ l)) := by
  show (bif V.flats (intsV l) then some ((intsV l).any fun y => V.beq y (.int a)) else none) = _
  rw [flats_ints, any_ints]; rfl
theorem t_14 {n t : Nat} {J : Hp} {ρ : Lo} (F : Facts w k way) (w0 : 1 ≤ w) (w1 : w ≤ 3) (hk : k < 2 ^ w) (hw : way < 4) (ht : turn < 7 * w) (hc : cells.length ≤ 30) (t4 : t ≤ 400) (L : Lkb ρ w k way) (Ll : Lk ρ 1702125932 (lateV w k way turn)) :
    ∃ ρ' H', Xs P (n+113) t14 ρ (hj (stk cells (t : Int)) (X2 w) (lateL w k way turn) J) (.ret (.bool true)) ρ' H' := by
  refine x2a1 (t_15 (n := n) (J := J) F w0 w1 hk hw ht hc t4 L Ll) fun ρ' H' e => ?_
  refine ⟨ρ', H', x_ifs (d := false) ?_ (xi_f rfl e)⟩
  have D := (DL (st := stk cells (t : Int)) (J := J) (turn := turn) (m := 7 + 7 * w) F w0 w1 (Nat.le_refl _) (by (clear t4 hc ht hw hk w1 w0; lia)) hw (n+75) (3 * w + 1)).1
  rw [if_neg (by (clear t4 hc ht hw hk w1 w0; lia)), show Xm w (7 + 7 * w) = X2 w by unfold Xm; rw [if_neg (by (clear t4 hc ht hw hk w1 w0; lia))], show Sm w k way turn (7 + 7 * w) = lateL w k way turn from rfl, dl_end F w0 w1 ht] at D
  have bm : binV .mul (.int 3) (.int (w : Int)) = some (.int (3 * w)) := b_mul (by decide)
  have C : Ev P (n+111) (.comp (.var 1701734764) [.mk (.var 1701734764) (.meth (.var 435526333802) 2340513319633950182876439995902308 [.var 113, .bin .add (.bin .mul (.num 3) (.var 119)) (.num 1)]) [.cmp (.num 0) [.notin] [.var 1701734764]]]) ρ (hj (stk cells (t : Int)) (X2 w) (lateL w k way turn) J) (.lst []) (hj (stk cells (t : Int)) (X2 w) (lateL w k way turn) J) := by
    have Q := cp_if (P := P) (n := n+110) (elt := .var 1701734764) (t := .var 1701734764) (c := .cmp (.num 0) [.notin] [.var 1701734764]) (gs := []) (f := fun _ => []) (vs := (dl3 (zL k way) 0 0 0).map fun line => .lst (intsV line)) (H := hj (stk cells (t : Int)) (X2 w) (lateL w k way turn) J)
      (ρ := ldel (n_dot0 :: tgtsOf [.mk (.var 1701734764) (.meth (.var 435526333802) 2340513319633950182876439995902308 [.var 113, .bin .add (.bin .mul (.num 3) (.var 119)) (.num 1)]) [.cmp (.num 0) [.notin] [.var 1701734764]]]) ρ) (by
      intro v hv
      obtain ⟨line, hl, rfl⟩ := List.mem_map.1 hv
      refine ⟨_, false, rfl, e_cmp e_num (e_var' lke_same) ?_, fun h => (by cases h), fun _ => rfl⟩
      rw [cop_notin_ints]
      have : (0 : Int) ∈ line := by
        simp only [dl3, List.mem_cons, List.not_mem_nil, or_false] at hl
        rcases hl with rfl | rfl | rfl <;> simp
      rw [decide_eq_true this]; rfl)
    have e0 : ((dl3 (zL k way) 0 0 0).map fun line => V.lst (intsV line)).flatMap (fun _ => ([] : List V)) = [] := rfl
    rw [e0] at Q
    refine e_compg (i_val (by rfl) (e_meth (e_var' L.judge) rfl rfl rfl rfl (es_cons (e_var' L.q) (es_cons (e_bin (e_bin e_num (e_var' L.w) bm) e_num rfl) es_nil)) D) rfl) Q rfl
  exact e_cmp C (e_list es_nil rfl) rfl
noncomputable def t13 : List S := .ifs (.or [.cmp (.var 1702125932) [.ne] [.comp (.meth (.var 435526333802) 2340513319633950182876439995902308 [.var 114, .var 105]) [.mk (.var 105) (.range [.bin .add (.bin .mul (.num 3) (.var 119)) (.num 1)]) []]], .cmp (.num 0) [.isin] [.comp (.var 6647407) [.mk (.var 495622973804) (.var 1702125932) [], .mk (.var 1701734764) (.var 495622973804) [], .mk (.var 6647407) (.var 1701734764) []]]]) [.ret (.bool false)] [] :: t14
theorem lines_nz (F : Facts w k way) (w0 : 1 ≤ w) (ht : turn < 7 * w) {i : Int} (i0 : 0 ≤ i) (i3 : i ≤ 3 * w) : ∀ line ∈ lineS w k way turn i, (0 : Int) ∉ line := by
  obtain ⟨a1, a2, a3, a4, a5, a6, a7, a8, a9, a10, a11, a12, a13, a14, a15, a16⟩ := lens k way
  have zp := zL_pos (k := k) (way := way)
  intro line hl h
  unfold lineS at hl
  split at hl
  · simp only [List.mem_cons, List.not_mem_nil, or_false] at hl
    subst hl
    simp only [List.mem_cons, List.not_mem_nil, or_false] at h
    (clear a16 a15 a14 a13 a12 a10 a8 a7 a6 a5 a2 i3 i0 ht w0; lia)
  · split at hl
    · have b1 := (bit_late F w0 ht (rowB (k := k) (way := way) (i := i - 2 * w - 1) (by (clear zp a16 a15 a14 a13 a12 a11 a10 a9 a8 a7 a6 a5 a4 a3 a2 a1 i3 i0 ht w0; lia)) (by (clear zp a16 a15 a14 a13 a12 a11 a10 a9 a8 a7 a6 a5 a4 a3 a2 a1 i0 ht w0; lia))).1).2
      have b2 := (bit_late F w0 ht (rowB (k := k) (way := way) (i := i - 2 * w - 1) (by (clear b1 zp a16 a15 a14 a13 a12 a11 a10 a9 a8 a7 a6 a5 a4 a3 a2 a1 i3 i0 ht w0; lia)) (by (clear b1 zp a16 a15 a14 a13 a12 a11 a10 a9 a8 a7 a6 a5 a4 a3 a2 a1 i0 ht w0; lia))).2.1).2
      have b3 := (bit_late F w0 ht (rowB (k := k) (way := way) (i := i - 2 * w - 1) (by (clear b2 b1 zp a16 a15 a14 a13 a12 a11 a10 a9 a8 a7 a6 a5 a4 a3 a2 a1 i3 i0 ht w0; lia)) (by (clear b2 b1 zp a16 a15 a14 a13 a12 a11 a10 a9 a8 a7 a6 a5 a4 a3 a2 a1 i0 ht w0; lia))).2.2).2
      simp only [dl3, List.mem_cons, List.not_mem_nil, or_false] at hl
      rcases hl with rfl | rfl | rfl <;> simp only [List.mem_cons, List.not_mem_nil, or_false] at h <;> lia
    · have b1 := (bit_late F w0 ht (rowA (k := k) (way := way) (i := i) (by (clear zp a16 a15 a14 a13 a12 a11 a10 a9 a8 a7 a6 a5 a4 a3 a2 a1 i3 ht w0; lia)) (by (clear zp a16 a15 a14 a13 a12 a11 a10 a9 a8 a7 a6 a5 a4 a3 a2 a1 i3 i0 ht w0; lia))).1).2
      have b2 := (bit_late F w0 ht (rowA (k := k) (way := way) (i := i) (by (clear b1 zp a16 a15 a14 a13 a12 a11 a10 a9 a8 a7 a6 a5 a4 a3 a2 a1 i3 ht w0; lia)) (by (clear b1 zp a16 a15 a14 a13 a12 a11 a10 a9 a8 a7 a6 a5 a4 a3 a2 a1 i3 i0 ht w0; lia))).2).2
      simp only [dl1, List.mem_cons, List.not_mem_nil, or_false] at hl
      rcases hl with rfl | rfl <;> simp only [List.mem_cons, List.not_mem_nil, or_false] at h <;> lia
theorem it_range {n : Nat} {ρ : Lo} {H : Hp} (w1 : w ≤ 3) (L : Lk ρ 119 (.int (w : Int))) : It P (n+20) (.range [.bin .add (.bin .mul (.num 3) (.var 119)) (.num 1)]) ρ H ((List.range (3 * w + 1)).map fun (i : Nat) => V.int (i : Int)) H := by
  have bm : binV .mul (.int 3) (.int (w : Int)) = some (.int (3 * w)) := b_mul (by decide)
  have ba : binV .add (.int (3 * (w : Int))) (.int 1) = some (.int ((3 * w + 1 : Nat) : Int)) := rfl
  exact i_range1 (i := ((3 * w + 1 : Nat) : Int)) (e_bin (e_bin e_num (e_var' L) bm) e_num ba) (by rw [okLen_of (by rw [Int.toNat_natCast]; (clear ba bm; lia)), okInt_of (by rw [Int.natAbs_natCast]; (clear ba bm; lia))]; rfl)
theorem ev_lines {n : Nat} {st : O} {J : Hp} {ρ : Lo} {v : Nat} (F : Facts w k way) (w0 : 1 ≤ w) (w1 : w ≤ 3) (hw : way < 4) (ht : turn < 7 * w) (L : Lkb ρ w k way) (hv : v = 113 ∨ v = 114) :
    Ev P (n+112) (.comp (.meth (.var 435526333802) 2340513319633950182876439995902308 [.var v, .var 105]) [.mk (.var 105) (.range [.bin .add (.bin .mul (.num 3) (.var 119)) (.num 1)]) []]) ρ (hj st (X2 w) (lateL w k way turn) J) (lateV w k way turn) (hj st (X2 w) (lateL w k way turn) J) := by
  have C := e_compm (P := P) (n := n+111) (ρ := ρ) (elt := .meth (.var 435526333802) 2340513319633950182876439995902308 [.var v, .var 105]) (t := .var 105) (g := fun (i : Nat) => V.int (i : Int)) (f := fun (i : Nat) => linesV (lineS w k way turn i)) (l := List.range (3 * w + 1)) (it_range (n := n+91) (H := hj st (X2 w) (lateL w k way turn) J) w1 L.w) (by
    intro i hi
    have D := DLl (st := st) (J := J) F w0 w1 hw ht (i := (i : Int)) (by (clear hv ht hw w1 w0; lia)) (n+76)
    have L1 := (L.del (n_dot0 :: tgtsOf [.mk (.var 105) (.range [.bin .add (.bin .mul (.num 3) (.var 119)) (.num 1)]) []]) rfl).set 105 (.int (i : Int)) rfl
    refine ⟨_, rfl, ?_⟩
    rcases hv with rfl | rfl
    · exact e_meth (e_var' L1.judge) rfl rfl rfl rfl (es_cons (e_var' L1.q) (es_cons (e_var' lke_same) es_nil)) D.1
    · exact e_meth (e_var' L1.judge) rfl rfl rfl rfl (es_cons (e_var' L1.r) (es_cons (e_var' lke_same) es_nil)) D.2) (by rw [List.length_range]; (clear hv ht hw w0; lia))
  have e : (List.range (3 * w + 1)).map (fun (i : Nat) => linesV (lineS w k way turn i)) = (allL w k way turn).map linesV := by unfold allL; rw [List.map_map]; rfl
  rw [e] at C
  exact C
theorem t_13 {n t : Nat} {J : Hp} {ρ : Lo} (F : Facts w k way) (w0 : 1 ≤ w) (w1 : w ≤ 3) (hk : k < 2 ^ w) (hw : way < 4) (ht : turn < 7 * w) (hc : cells.length ≤ 30) (t4 : t ≤ 400) (L : Lkb ρ w k way) (Ll : Lk ρ 1702125932 (lateV w k way turn)) :
    ∃ ρ' H', Xs P (n+115) t13 ρ (hj (stk cells (t : Int)) (X2 w) (lateL w k way turn) J) (.ret (.bool true)) ρ' H' := by
  refine x2a1 (t_14 (n := n+2) (J := J) F w0 w1 hk hw ht hc t4 L Ll) fun ρ' H' e => ?_
  have A := ev_lines (n := n) (st := stk cells (t : Int)) (J := J) (v := 114) F w0 w1 hw ht L (.inr rfl)
  have B : Ev P (n+112) (.comp (.var 6647407) [.mk (.var 495622973804) (.var 1702125932) [], .mk (.var 1701734764) (.var 495622973804) [], .mk (.var 6647407) (.var 1701734764) []]) ρ (hj (stk cells (t : Int)) (X2 w) (lateL w k way turn) J) (.lst (intsV ((allL w k way turn).flatMap fun ls => ls.flatMap id))) (hj (stk cells (t : Int)) (X2 w) (lateL w k way turn) J) := by
    have Q := cp_mapm (P := P) (n := n+111) (elt := .var 6647407) (t := .var 495622973804) (gs := [.mk (.var 1701734764) (.var 495622973804) [], .mk (.var 6647407) (.var 1701734764) []]) (g := linesV) (f := fun ls => ls.flatMap fun line => line.flatMap fun o => [V.int o]) (l := allL w k way turn) (H := hj (stk cells (t : Int)) (X2 w) (lateL w k way turn) J)
      (ρ := ldel (n_dot0 :: tgtsOf [.mk (.var 495622973804) (.var 1702125932) [], .mk (.var 1701734764) (.var 495622973804) [], .mk (.var 6647407) (.var 1701734764) []]) ρ) (by
      intro ls hls
      refine ⟨_, rfl, cg_cons (i_val (by rfl) (e_var' lke_same) rfl) (cp_mapm fun line hl => ⟨_, rfl, cg_cons (i_val (by rfl) (e_var' lke_same) rfl) (cp_mapm fun o ho => ⟨_, rfl, cg_nil (e_var' lke_same)⟩)⟩)⟩)
    have e : (allL w k way turn).flatMap (fun ls => ls.flatMap fun line => line.flatMap fun o => [V.int o]) = intsV ((allL w k way turn).flatMap fun ls => ls.flatMap id) := by
      unfold intsV; rw [List.map_flatMap]; congr 1; funext ls; rw [List.map_flatMap]; congr 1; funext line; rw [flatMap_single]; rfl
    rw [e] at Q
    refine e_compg (i_val (by rfl) (e_var' Ll) rfl) Q (okLen_of ?_)
    unfold intsV
    rw [List.length_map]
    have h1 := flatMap_le (f := fun ls : List (List Int) => ls.flatMap id) (N := 9) (l := allL w k way turn) (by
      intro ls h
      have h2 := flatMap_le (f := id) (N := 3) (l := ls) fun line hl => (allL_sz ls h).2 line hl
      have := (allL_sz ls h).1; (clear e t4 hc ht hw hk w1 w0; lia))
    rw [allL_len] at h1; (clear e t4 hc ht hw hk w0; lia)
  have nz : decide ((0 : Int) ∈ (allL w k way turn).flatMap fun ls => ls.flatMap id) = false := by
    apply decide_eq_false
    intro h
    refine x1a2 (List.mem_flatMap.1 h) fun ls hls h2 => ?_
    refine x1a2 (List.mem_flatMap.1 h2) fun line hl h3 => ?_
    obtain ⟨i, hi, rfl⟩ := List.mem_map.1 hls
    have := List.mem_range.1 hi
    exact lines_nz F w0 ht (i := (i : Int)) (by (clear this t4 hc ht hw hk w1 w0; lia)) (by (clear t4 hc ht hw hk w1 w0; lia)) line hl h3
  have C1 : Ev P (n+113) (.cmp (.var 1702125932) [.ne] [.comp (.meth (.var 435526333802) 2340513319633950182876439995902308 [.var 114, .var 105]) [.mk (.var 105) (.range [.bin .add (.bin .mul (.num 3) (.var 119)) (.num 1)]) []]]) ρ (hj (stk cells (t : Int)) (X2 w) (lateL w k way turn) J) (.bool false) (hj (stk cells (t : Int)) (X2 w) (lateL w k way turn) J) := e_cmp (e_var' Ll) A (allV_ne _)
  have C2 : Ev P (n+113) (.cmp (.num 0) [.isin] [.comp (.var 6647407) [.mk (.var 495622973804) (.var 1702125932) [], .mk (.var 1701734764) (.var 495622973804) [], .mk (.var 6647407) (.var 1701734764) []]]) ρ (hj (stk cells (t : Int)) (X2 w) (lateL w k way turn) J) (.bool false) (hj (stk cells (t : Int)) (X2 w) (lateL w k way turn) J) := e_cmp e_num B (by rw [cop_in_lst, nz])
  exact ⟨ρ', H', x_ifs (e_or C1 (oi_f rfl (e_or_1 C2))) (xi_f rfl e)⟩
noncomputable def t12 : List S := .ifs (.cmp (.var 521510478181) [.ne] [.comp (.comp (.comp (.ite (.cmp (.bi .abs [.var 6647407]) [.le] [.var 1702521203]) (.var 6647407) (.num 0)) [.mk (.var 6647407) (.var 1701734764) []]) [.mk (.var 1701734764) (.var 495622973804) []]) [.mk (.var 495622973804) (.var 1702125932) []]]) [.ret (.bool false)] [] :: t13
theorem t_12 {n t sz : Nat} {J : Hp} {ρ : Lo} (F : Facts w k way) (w0 : 1 ≤ w) (w1 : w ≤ 3) (hk : k < 2 ^ w) (hw : way < 4) (ht : turn < 7 * w) (hc : cells.length ≤ 30) (t4 : t ≤ 400) (L : Lkb ρ w k way) (Ll : Lk ρ 1702125932 (lateV w k way turn))
    (Ls : Lk ρ 1702521203 (.int (sz : Int))) (Le : Lk ρ 521510478181 (.lst ((allL w k way turn).map fun ls => linesV (ls.map fun l => l.map (cut sz))))) :
    ∃ ρ' H', Xs P (n+115) t12 ρ (hj (stk cells (t : Int)) (X2 w) (lateL w k way turn) J) (.ret (.bool true)) ρ' H' := by
  refine x2a1 (t_13 (n := n) (J := J) F w0 w1 hk hw ht hc t4 L Ll) fun ρ' H' e => ?_
  refine ⟨ρ', H', x_ifs (d := false) ?_ (xi_f rfl e)⟩
  have C := e_compm (P := P) (n := n+112) (ρ := ρ) (H := hj (stk cells (t : Int)) (X2 w) (lateL w k way turn) J) (H1 := hj (stk cells (t : Int)) (X2 w) (lateL w k way turn) J) (it := .var 1702125932) (elt := .comp (.comp (.ite (.cmp (.bi .abs [.var 6647407]) [.le] [.var 1702521203]) (.var 6647407) (.num 0)) [.mk (.var 6647407) (.var 1701734764) []]) [.mk (.var 1701734764) (.var 495622973804) []]) (t := .var 495622973804)
    (g := linesV) (f := fun ls => linesV (ls.map fun l => l.map (cut sz))) (l := allL w k way turn) (i_val (by rfl) (e_var' Ll) rfl) (by
      intro ls hls
      refine ⟨_, rfl, ?_⟩
      have C2 := e_compm (P := P) (n := n+111) (ρ := lset (ldel (n_dot0 :: tgtsOf [.mk (.var 495622973804) (.var 1702125932) []]) ρ) 495622973804 (linesV ls)) (H := hj (stk cells (t : Int)) (X2 w) (lateL w k way turn) J) (H1 := hj (stk cells (t : Int)) (X2 w) (lateL w k way turn) J) (it := .var 495622973804) (elt := .comp (.ite (.cmp (.bi .abs [.var 6647407]) [.le] [.var 1702521203]) (.var 6647407) (.num 0)) [.mk (.var 6647407) (.var 1701734764) []]) (t := .var 1701734764)
        (g := fun line => V.lst (intsV line)) (f := fun line => V.lst (intsV (line.map (cut sz)))) (l := ls) (i_val (by rfl) (e_var' lke_same) rfl) (by
          intro line hl
          refine ⟨_, rfl, ?_⟩
          have C3 := e_compm (P := P) (n := n+110) (ρ := lset (ldel (n_dot0 :: tgtsOf [.mk (.var 1701734764) (.var 495622973804) []]) (lset (ldel (n_dot0 :: tgtsOf [.mk (.var 495622973804) (.var 1702125932) []]) ρ) 495622973804 (linesV ls))) 1701734764 (.lst (intsV line))) (H := hj (stk cells (t : Int)) (X2 w) (lateL w k way turn) J) (H1 := hj (stk cells (t : Int)) (X2 w) (lateL w k way turn) J) (it := .var 1701734764) (elt := .ite (.cmp (.bi .abs [.var 6647407]) [.le] [.var 1702521203]) (.var 6647407) (.num 0)) (t := .var 6647407)
            (g := V.int) (f := fun o => V.int (cut sz o)) (l := line) (i_val (by rfl) (e_var' lke_same) rfl) (by
              intro o ho
              refine ⟨_, rfl, ?_⟩
              have K : Ev P (n+109) (.cmp (.bi .abs [.var 6647407]) [.le] [.var 1702521203]) (lset (ldel (n_dot0 :: tgtsOf [.mk (.var 6647407) (.var 1701734764) []]) (lset (ldel (n_dot0 :: tgtsOf [.mk (.var 1701734764) (.var 495622973804) []]) (lset (ldel (n_dot0 :: tgtsOf [.mk (.var 495622973804) (.var 1702125932) []]) ρ) 495622973804 (linesV ls))) 1701734764 (.lst (intsV line)))) 6647407 (.int o)) (hj (stk cells (t : Int)) (X2 w) (lateL w k way turn) J) (.bool (decide ((o.natAbs : Int) ≤ (sz : Int)))) (hj (stk cells (t : Int)) (X2 w) (lateL w k way turn) J) :=
                e_cmp (e_bi (es_cons (e_var' lke_same) es_nil) call_abs) (e_var' (lke_skip rfl (lke_del rfl (lke_skip rfl (lke_del rfl (lke_skip rfl (lke_del rfl Ls))))))) cop_le_int
              by_cases q : o.natAbs ≤ sz
              · have : cut sz o = o := by unfold cut; rw [if_pos q]
                rw [this]
                exact e_ite K (ei_t (decide_eq_true (by (clear this t4 hc ht hw hk w1 w0; lia))) (e_var' lke_same))
              · have : cut sz o = 0 := by unfold cut; rw [if_neg q]
                rw [this]
                exact e_ite K (ei_f (decide_eq_false (by (clear this t4 hc ht hw hk w1 w0; lia))) e_num)) (by have := (allL_sz ls hls).2 line hl; (clear t4 hc ht hw hk w1 w0; lia))
          have e3 : line.map (fun o => V.int (cut sz o)) = intsV (line.map (cut sz)) := by unfold intsV; rw [List.map_map]; rfl
          rw [e3] at C3; exact C3) (by have := (allL_sz ls hls).1; (clear t4 hc ht hw hk w1 w0; lia))
      have e2 : V.lst (ls.map fun line => V.lst (intsV (line.map (cut sz)))) = linesV (ls.map fun l => l.map (cut sz)) := by unfold linesV; rw [List.map_map]; rfl
      rw [e2] at C2; exact C2) (by rw [allL_len]; (clear t4 hc ht hw hk w0; lia))
  refine e_cmp (e_var' Le) C ?_
  have := allV_ne (H := hj (stk cells (t : Int)) (X2 w) (lateL w k way turn) J) ((allL w k way turn).map fun ls => ls.map fun l => l.map (cut sz))
  rw [List.map_map] at this
  exact this
end
end Mini.L3
end
section
set_option autoImplicit false
set_option maxRecDepth 10000
set_option maxHeartbeats 2000000
namespace Mini.L3
open Mini
/-- the names when the pieces begin -/
structure Lkc (ρ : Lo) (w k way turn m : Nat) : Prop where
  stock : Lk ρ 461229749363 (.ref 0)
  bank : Lk ρ 1802396002 (.ref 1)
  wd : Lk ρ 119 (.int (w : Int))
  wy : Lk ρ 7954807 (.int (way : Int))
  number : Lk ρ 125779768604014 (.int (k : Int))
  x : Lk ρ 120 (.int 3)
  other : Lk ρ 491327616111 (.int 4)
  y : Lk ρ 121 (.int (yy k way))
  judge : Lk ρ 435526333802 (.ref 13)
  tn : Lk ρ 1852994932 (.int (turn : Int))
  many : Lk ρ 2037277037 (.int ((7 + 7 * w : Nat) : Int))
  moment : Lk ρ 128017496895341 (.int (m : Int))
noncomputable def keep (ρ ρ' : Lo) (l : List Nat) : Prop := ∀ i v, (l.any (Nat.beq i)) = false → Lk ρ i v → Lk ρ' i v
theorem keep.trans {a b c : Lo} {l : List Nat} (h : keep a b l) (g : keep b c l) : keep a c l := fun i v e q => g i v e (h i v e q)
theorem keep.set {a : Lo} {i : Nat} {v : V} {l : List Nat} (h : i ∈ l) : keep a (lset a i v) l := fun j u e q => lke_skip (by
  rw [List.any_eq_false] at e
  have := e i h
  rcases Bool.eq_false_or_eq_true (Nat.beq j i) with q | q
  · exact absurd q this
  · exact q) q
theorem Lkc.keep {ρ ρ' : Lo} {w k way turn m : Nat} {l : List Nat} (h : Lkc ρ w k way turn m) (g : L3.keep ρ ρ' l) (hl : ([461229749363, 1802396002, 119, 7954807, 125779768604014, 120, 491327616111, 121, 435526333802, 1852994932, 2037277037, 128017496895341].all fun i => !(l.any (Nat.beq i))) = true) : Lkc ρ' w k way turn m := by
  have q1 := all_c hl
  have q2 := all_c q1.2
  have q3 := all_c q2.2
  have q4 := all_c q3.2
  have q5 := all_c q4.2
  have q6 := all_c q5.2
  have q7 := all_c q6.2
  have q8 := all_c q7.2
  have q9 := all_c q8.2
  have q10 := all_c q9.2
  have q11 := all_c q10.2
  have q12 := all_c q11.2
  exact ⟨g _ _ (nbt q1.1) h.stock, g _ _ (nbt q2.1) h.bank, g _ _ (nbt q3.1) h.wd, g _ _ (nbt q4.1) h.wy, g _ _ (nbt q5.1) h.number, g _ _ (nbt q6.1) h.x, g _ _ (nbt q7.1) h.other, g _ _ (nbt q8.1) h.y, g _ _ (nbt q9.1) h.judge, g _ _ (nbt q10.1) h.tn, g _ _ (nbt q11.1) h.many, g _ _ (nbt q12.1) h.moment⟩
section
variable {w k way turn : Nat} {cells : List Int}
noncomputable def pieceB : List S := [.expr (.call 478792549928557124611167 [.var 1802396002, .var 120, .var 121, .var 1885697139, .var 1852994932])]
theorem pieces {n m : Nat} {st : O} {rest : Hp} (F : Facts w k way) (w0 : 1 ≤ w) (w1 : w ≤ 3) (hw : way < 4) (ht : turn < 7 * w) : ∀ (cnt start : Nat) (ρ : Lo), start + cnt ≤ 7 + 7 * w → Lkc ρ w k way turn m →
    ∃ ρ', keep ρ ρ' [1885697139] ∧ exFor (sem P (n+70)) (.var 1885697139) pieceB ((List.range cnt).map fun (j : Nat) => V.int ((start : Int) + (j : Int))) ρ (hp st (Xm w start) (Sm w k way turn start) rest) = some (.nxt, ρ', hp st (Xm w (start + cnt)) (Sm w k way turn (start + cnt)) rest)
  | 0, start, ρ, _, _ => ⟨ρ, fun _ _ _ h => h, rfl⟩
  | cnt + 1, start, ρ, h, L => by
    have Q := piece_all F w0 w1 hw ht (show start < 7 + 7 * w by (clear ht hw w1 w0; lia)) (n+8) st rest
    have K : keep ρ (lset ρ 1885697139 (.int (start : Int))) [1885697139] := keep.set (by simp)
    have L1 := L.keep K rfl
    have B : Xs P (n+70) pieceB (lset ρ 1885697139 (.int (start : Int))) (hp st (Xm w start) (Sm w k way turn start) rest) .nxt (lset ρ 1885697139 (.int (start : Int))) (hp st (Xm w (start+1)) (Sm w k way turn (start+1)) rest) :=
      x_expr (e_call rfl (es_cons (e_var' L1.bank) (es_cons (e_var' L1.x) (es_cons (e_var' L1.y) (es_cons (e_var' lke_same) (es_cons (e_var' L1.tn) es_nil))))) Q) x_nil
    refine x1a2 (pieces (n := n) (st := st) (rest := rest) F w0 w1 hw ht cnt (start + 1) _ (by (clear ht hw w1 w0; lia)) L1) fun ρ' k1 e => ?_
    refine ⟨ρ', K.trans k1, ?_⟩
    rw [List.range_succ_eq_map, List.map_cons, List.map_map, show ((start : Int) + ((0 : Nat) : Int)) = start by (clear e h ht hw w1 w0; lia)]
    refine for_cons rfl B.h ?_
    rw [show start + (cnt + 1) = start + 1 + cnt by (clear e h ht hw w1 w0; lia), ← e]
    congr 1
    apply List.map_congr_left
    intro j _
    show V.int _ = V.int _
    congr 1; (clear e h ht hw w1 w0; lia)
noncomputable def t11 : List S := .asg (.var 1702125932) (.comp (.meth (.var 435526333802) 2340513319633950182876439995902308 [.var 113, .var 105]) [.mk (.var 105) (.range [.bin .add (.bin .mul (.num 3) (.var 119)) (.num 1)]) []]) :: t12
noncomputable def t10 : List S := .fr (.var 1885697139) (.range [.var 128017496895341, .var 2037277037]) pieceB :: t11
noncomputable def t9 : List S := .asg (.var 521510478181) (.comp (.meth (.var 435526333802) 2340513319633950182876439995902308 [.var 113, .var 105]) [.mk (.var 105) (.range [.bin .add (.bin .mul (.num 3) (.var 119)) (.num 1)]) []]) :: t10
noncomputable def t8 : List S := .asg (.tup [1702521203, 113, 114]) (.tup [.meth (.var 1802396002) 1702521203 [], .meth (.var 1802396002) 122558844204642 [.str 130195029063266, .var 120, .var 121], .meth (.var 1802396002) 122558844204642 [.str 120282479425122, .var 120, .var 121]]) :: t9
noncomputable def t7 : List S := .fr (.var 1885697139) (.range [.var 128017496895341]) pieceB :: t8
theorem Lkc.toB {ρ : Lo} {w k way turn m : Nat} (L : Lkc ρ w k way turn m) (q : Lk ρ 113 (.int (qi k))) (r : Lk ρ 114 (.int (ri k))) : Lkb ρ w k way := ⟨L.stock, L.bank, L.wd, L.wy, L.number, L.x, L.other, q, r, L.judge⟩
theorem t_7 {n t m : Nat} {ρ : Lo} (F : Facts w k way) (w0 : 1 ≤ w) (w1 : w ≤ 3) (hk : k < 2 ^ w) (hw : way < 4) (ht : turn < 7 * w) (hc : cells.length ≤ 30) (t4 : t ≤ 400) (L : Lkc ρ w k way turn m) (m1 : 1 ≤ m) (m2 : m ≤ 7 + 7 * w) :
    ∃ ρ' H', Xs P (n+115) t7 ρ (hj (stk cells (t : Int)) (X1 w) (b0 k) []) (.ret (.bool true)) ρ' H' := by
  -- the first pieces
  refine x1a2 (pieces (n := n+44) (st := stk cells (t : Int)) (rest := jd []) F w0 w1 hw ht m 0 ρ (by (clear m1 t4 hc ht hw hk w1 w0; lia)) L) fun ρ1 k1 e1 => ?_
  have L1 := L.keep k1 rfl
  have e1' : exFor (sem P (n+114)) (.var 1885697139) pieceB ((List.range m).map fun (j : Nat) => V.int (j : Int)) ρ (hj (stk cells (t : Int)) (X1 w) (b0 k) []) = some (.nxt, ρ1, hj (stk cells (t : Int)) (Xm w m) (Sm w k way turn m) []) := by
    rw [show b0 k = Sm w k way turn 0 from F.s0.symm, show X1 w = Xm w 0 from rfl]
    rw [show 0 + m = m by (clear e1 m2 m1 t4 hc ht hw hk w1 w0; lia)] at e1
    rw [← e1]
    congr 1
    apply List.map_congr_left
    intro j _; show V.int _ = V.int _; congr 1; (clear e1 m2 m1 t4 hc ht hw hk w1 w0; lia)
  have I1 : It P (n+114) (.range [.var 128017496895341]) ρ (hj (stk cells (t : Int)) (X1 w) (b0 k) []) ((List.range m).map fun (j : Nat) => V.int (j : Int)) (hj (stk cells (t : Int)) (X1 w) (b0 k) []) := by
    have := i_range1 (P := P) (n := n+114) (H := hj (stk cells (t : Int)) (X1 w) (b0 k) []) (H1 := hj (stk cells (t : Int)) (X1 w) (b0 k) []) (ρ := ρ) (i := (m : Int)) (e_var' L.moment) (by rw [okLen_of (by rw [Int.toNat_natCast]; (clear e1' e1 m1 t4 hc ht hw hk w0; lia)), okInt_of (by rw [Int.natAbs_natCast]; (clear e1' e1 m1 t4 hc ht hw hk w0; lia))]; rfl)
    rw [Int.toNat_natCast] at this; exact this
  -- size, q, r
  have SL := Sm_len (turn := turn) (m := m) F w1 m2
  have G := ge (turn := turn) F w0 w1 hw m2 m1
  have E8 : Ev P (n+114) (.tup [.meth (.var 1802396002) 1702521203 [], .meth (.var 1802396002) 122558844204642 [.str 130195029063266, .var 120, .var 121], .meth (.var 1802396002) 122558844204642 [.str 120282479425122, .var 120, .var 121]]) ρ1 (hj (stk cells (t : Int)) (Xm w m) (Sm w k way turn m) []) (.tup [.int ((Sm w k way turn m).length : Int), .int (qi k), .int (ri k)]) (hj (stk cells (t : Int)) (Xm w m) (Sm w k way turn m) []) :=
    e_tup (es_cons (e_meth (e_var' L1.bank) rfl rfl rfl rfl es_nil (l_size (n := n+100) (by (clear e1' e1 m2 m1 t4 hc ht hw hk w1 w0; lia)))) (es_cons (e_meth (e_var' L1.bank) rfl rfl rfl rfl (es_cons e_str (es_cons (e_var' L1.x) (es_cons (e_var' L1.y) es_nil))) (f_q (n := n+90) G.toGd G.fq)) (es_cons (e_meth (e_var' L1.bank) rfl rfl rfl rfl (es_cons e_str (es_cons (e_var' L1.x) (es_cons (e_var' L1.y) es_nil))) (f_r (n := n+90) G.toGd G.fr)) es_nil))) rfl
  generalize hρ2 : lset (lset (lset ρ1 1702521203 (.int ((Sm w k way turn m).length : Int))) 113 (.int (qi k))) 114 (.int (ri k)) = ρ2
  have k2 : keep ρ1 ρ2 [1702521203, 113, 114] := by
    rw [← hρ2]; exact ((keep.set (by simp)).trans (keep.set (by simp))).trans (keep.set (by simp))
  have L2 := L1.keep k2 rfl
  have Ls2 : Lk ρ2 1702521203 (.int ((Sm w k way turn m).length : Int)) := by rw [← hρ2]; exact lke_skip rfl (lke_skip rfl lke_same)
  have q2 : Lk ρ2 113 (.int (qi k)) := by rw [← hρ2]; exact lke_skip rfl lke_same
  have r2 : Lk ρ2 114 (.int (ri k)) := by rw [← hρ2]; exact lke_same
  -- early
  have C := e_compm (P := P) (n := n+113) (ρ := ρ2) (elt := .meth (.var 435526333802) 2340513319633950182876439995902308 [.var 113, .var 105]) (t := .var 105) (g := fun (i : Nat) => V.int (i : Int)) (f := fun (i : Nat) => linesV ((lineS w k way turn i).map fun l => l.map (cut (Sm w k way turn m).length))) (l := List.range (3 * w + 1)) (it_range (n := n+93) (H := hj (stk cells (t : Int)) (Xm w m) (Sm w k way turn m) []) w1 L2.wd) (by
    intro i hi
    have D := (DL (st := stk cells (t : Int)) (J := []) (turn := turn) F w0 w1 m2 m1 hw (n+78) (i : Int)).1
    rw [dl_cut F w0 w1 m2 m1 ht (by (clear hρ2 SL e1' e1 m2 m1 t4 hc ht hw hk w1 w0; lia))] at D
    have L3 := (L2.toB q2 r2).del (n_dot0 :: tgtsOf [.mk (.var 105) (.range [.bin .add (.bin .mul (.num 3) (.var 119)) (.num 1)]) []]) rfl
    have L4 := L3.set 105 (.int (i : Int)) rfl
    exact ⟨_, rfl, e_meth (e_var' L4.judge) rfl rfl rfl rfl (es_cons (e_var' L4.q) (es_cons (e_var' lke_same) es_nil)) D⟩) (by rw [List.length_range]; (clear hρ2 SL e1' e1 m2 m1 t4 hc ht hw hk w0; lia))
  have eC : (List.range (3 * w + 1)).map (fun (i : Nat) => linesV ((lineS w k way turn i).map fun l => l.map (cut (Sm w k way turn m).length))) = (allL w k way turn).map fun ls => linesV (ls.map fun l => l.map (cut (Sm w k way turn m).length)) := by unfold allL; rw [List.map_map]; rfl
  rw [eC] at C
  generalize hEV : V.lst ((allL w k way turn).map fun ls => linesV (ls.map fun l => l.map (cut (Sm w k way turn m).length))) = EV at C
  have k3 : keep ρ2 (lset ρ2 521510478181 EV) [521510478181] := keep.set (by simp)
  have L3 := L2.keep k3 rfl
  -- the other pieces
  refine x1a2 (pieces (n := n+44) (st := stk cells (t : Int)) (rest := jd []) F w0 w1 hw ht (7 + 7 * w - m) m (lset ρ2 521510478181 EV) (by (clear hEV eC hρ2 SL e1' e1 m1 t4 hc ht hw hk w1 w0; lia)) L3) fun ρ4 k4 e4 => ?_
  rw [show m + (7 + 7 * w - m) = 7 + 7 * w by (clear e4 hEV eC hρ2 SL e1' e1 m1 t4 hc ht hw hk w1 w0; lia), show Xm w (7 + 7 * w) = X2 w by unfold Xm; rw [if_neg (by (clear e4 hEV eC hρ2 SL e1' e1 m2 m1 t4 hc ht hw hk w1 w0; lia))]] at e4
  have L4 := L3.keep k4 rfl
  have I4 : It P (n+114) (.range [.var 128017496895341, .var 2037277037]) (lset ρ2 521510478181 EV) (hj (stk cells (t : Int)) (Xm w m) (Sm w k way turn m) []) ((List.range (7 + 7 * w - m)).map fun (j : Nat) => V.int ((m : Int) + (j : Int))) (hj (stk cells (t : Int)) (Xm w m) (Sm w k way turn m) []) := by
    have := i_range2 (P := P) (n := n+114) (H := hj (stk cells (t : Int)) (Xm w m) (Sm w k way turn m) []) (H1 := hj (stk cells (t : Int)) (Xm w m) (Sm w k way turn m) []) (H2 := hj (stk cells (t : Int)) (Xm w m) (Sm w k way turn m) []) (ρ := lset ρ2 521510478181 EV) (i := (m : Int)) (j := ((7 + 7 * w : Nat) : Int)) (e_var' L3.moment) (e_var' L3.many) (by rw [okLen_of (by (clear e4 hEV eC hρ2 SL e1' e1 m2 m1 t4 hc ht hw hk w0; lia)), okInt_of (by (clear e4 hEV eC hρ2 SL e1' e1 m1 t4 hc ht hw hk w0; lia)), okInt_of (by (clear e4 hEV eC hρ2 SL e1' e1 m2 m1 t4 hc ht hw hk w0; lia))]; rfl)
    rw [show (((7 + 7 * w : Nat) : Int) - (m : Int)).toNat = 7 + 7 * w - m by (clear e4 hEV eC hρ2 SL e1' e1 m2 m1 t4 hc ht hw hk w1 w0; lia)] at this; exact this
  have q4 : Lk ρ4 113 (.int (qi k)) := k4 _ _ rfl (lke_skip rfl q2)
  have r4 : Lk ρ4 114 (.int (ri k)) := k4 _ _ rfl (lke_skip rfl r2)
  have s4 : Lk ρ4 1702521203 (.int ((Sm w k way turn m).length : Int)) := k4 _ _ rfl (lke_skip rfl Ls2)
  have E4 : Lk ρ4 521510478181 EV := k4 _ _ rfl lke_same
  have B4 := L4.toB q4 r4
  have A := ev_lines (n := n+2) (st := stk cells (t : Int)) (J := []) (v := 113) F w0 w1 hw ht B4 (.inl rfl)
  refine x2a1 (t_12 (n := n) (t := t) (sz := (Sm w k way turn m).length) (J := []) (ρ := lset ρ4 1702125932 (lateV w k way turn)) F w0 w1 hk hw ht hc t4 (B4.set 1702125932 _ rfl) lke_same (lke_skip rfl s4) (lke_skip rfl (by rw [hEV]; exact E4))) fun ρ' H' e => ?_
  refine ⟨ρ', H', x_fr I1 e1' (x_asgt E8 (ρ1 := ρ2) ?_ (x_asgv C (x_fr I4 e4 (x_asgv A e))))⟩
  rw [← hρ2]; rfl
end
end Mini.L3
end
section
set_option autoImplicit false
set_option maxRecDepth 10000
set_option maxHeartbeats 2000000
namespace Mini.L3
open Mini
noncomputable def X0 : Ext := { names := [.str 1819242306, .str 7630409, .str 1818322258], widths := [.int 0, .int 0, .int 0], fnames := [], fargs := [], fres := [], bvn := [] }
theorem bank_new (n : Nat) (st : O) : Ca P (n+40) TermBank_init [.ref 1] [st, .inst 7741231747428410708 []] .none (hp st X0 [tt, tf] []) := ⟨by kernel_rfl⟩
section
variable {n : Nat} {st : O} {X : Ext} {ts : List Tm} {rest : Hp}
theorem judge_new : Ca P (n+20) BitJudge_init [.ref 13, .ref 1] (hp st X ts [.inst 7306919375355013442 []]) .none (hp st X ts (jd [])) := ⟨by kernel_rfl⟩
theorem l_declare {nm : Nat} {s : Int} (h1 : X.fnames.length ≤ 100) (h2 : X.fargs.length ≤ 100) (h3 : X.fres.length ≤ 100) : Ca P (n+20) Bank_declare_fun [.ref 1, .str nm, .tup [], .int s] (hp st X ts rest) (.int X.fnames.length) (hp st { X with fnames := X.fnames ++ [.str nm], fargs := X.fargs ++ [.tup []], fres := X.fres ++ [.int s] } ts rest) := by
  have o1 : okLen X.fnames.length = true := okLen_of (by (clear h3 h2; lia))
  have o2 : okLen X.fargs.length = true := okLen_of (by (clear o1 h3 h1; lia))
  have o3 : okLen X.fres.length = true := okLen_of (by (clear o2 o1 h2 h1; lia))
  have c1 : ∀ H : Hp, nth H 4 = some (.list (X.fnames ++ [.str nm])) → callBi .len [.ref 4] H = some (.int (X.fnames.length + 1), H) := by
    exact fun H hh => len_ref hh (by rw [List.length_append]; rfl) (okLen_of (show X.fnames.length + 1 ≤ 1001 by (clear hh o3 o2 o1 h3 h2; lia)))
  apply c_ret'
  · rfl
  · (repeat' (first | walk_at "mini e" | exact c1 _ rfl | walk_at "mini a"))
  · simp only [V.int.injEq]; (clear o3 o2 o1 h3 h2 h1; lia)
  · rfl
theorem l_fresh {nm : Nat} {s : Int} (hl : ts.length < 1000) (h1 : X.fnames.length ≤ 100) (h2 : X.fargs.length ≤ 100) (h3 : X.fres.length ≤ 100) : Ca P (n+30) Bank_fresh_const [.ref 1, .str nm, .int s] (hp st X ts rest) (.int (fd (put ts ⟨7368801, [], s, X.fnames.length⟩) ⟨7368801, [], s, X.fnames.length⟩))
    (hp st { X with fnames := X.fnames ++ [.str nm], fargs := X.fargs ++ [.tup []], fres := X.fres ++ [.int s] } (put ts ⟨7368801, [], s, X.fnames.length⟩) rest) := by
  apply c_ret'
  · rfl
  · (repeat' (first | walk_at "mini e" | exact l_declare h1 h2 h3 | exact l_make (args := []) hl | walk_at "mini a"))
  · rfl
  · rfl
end
/-- the first terms -/
theorem first {k : Nat} : put (put [tt, tf] ⟨7368801, [], 3, 0⟩) ⟨7368801, [], 3, 1⟩ = [tt, tf, ⟨7368801, [], 3, 0⟩, ⟨7368801, [], 3, 1⟩] ∧
    put [tt, tf, ⟨7368801, [], 3, 0⟩, ⟨7368801, [], 3, 1⟩] ⟨470121608802, [], 3, (k : Int)⟩ = [tt, tf, ⟨7368801, [], 3, 0⟩, ⟨7368801, [], 3, 1⟩, ⟨470121608802, [], 3, (k : Int)⟩] ∧
    put [tt, tf, ⟨7368801, [], 3, 0⟩, ⟨7368801, [], 3, 1⟩, ⟨470121608802, [], 3, (k : Int)⟩] tz = b0 k ∧ fd (b0 k) tz = nz k := by
  refine ⟨rfl, rfl, ?_, ?_⟩
  · by_cases h : k = 0
    · subst h; rfl
    · have e : (((k : Int) == 0) : Bool) = false := by rw [beq_eq_false_iff_ne]; lia
      have f : find 1 [tt, tf, ⟨7368801, [], 3, 0⟩, ⟨7368801, [], 3, 1⟩, ⟨470121608802, [], 3, (k : Int)⟩] tz = 0 := by
        show (bif Tm.eqb ⟨470121608802, [], 3, (k : Int)⟩ tz then 5 else 0) = 0
        have : Tm.eqb ⟨470121608802, [], 3, (k : Int)⟩ tz = false := by
          show (Nat.beq 470121608802 470121608802 && (([] : List Int) == [] && (((3 : Int) == 3) && ((k : Int) == 0)))) = false
          rw [e]; rfl
        rw [this]; rfl
      unfold put b0; rw [if_pos f, if_neg h]
  · by_cases h : k = 0
    · subst h; rfl
    · have e : (((k : Int) == 0) : Bool) = false := by rw [beq_eq_false_iff_ne]; lia
      unfold b0 nz; rw [if_neg h, if_neg h]
      show (((bif Tm.eqb ⟨470121608802, [], 3, (k : Int)⟩ tz then 5 else 6) : Nat) : Int) = 6
      have : Tm.eqb ⟨470121608802, [], 3, (k : Int)⟩ tz = false := by
        show (Nat.beq 470121608802 470121608802 && (([] : List Int) == [] && (((3 : Int) == 3) && ((k : Int) == 0)))) = false
        rw [e]; rfl
      rw [this]; rfl
theorem first5 {k : Nat} : fd [tt, tf, ⟨7368801, [], 3, 0⟩, ⟨7368801, [], 3, 1⟩, ⟨470121608802, [], 3, (k : Int)⟩] ⟨470121608802, [], 3, (k : Int)⟩ = 5 := by
  show (((bif Tm.eqb ⟨470121608802, [], 3, (k : Int)⟩ ⟨470121608802, [], 3, (k : Int)⟩ then 5 else 0) : Nat) : Int) = 5
  rw [Tm.eqb_iff.2 rfl]; rfl
section
variable {w k way turn : Nat} {cells : List Int}
theorem yy_sub {H : Hp} (hw : way < 4) : subV H (.tup [.int 4, .int 5, .int (nz k), .int 3]) (.int (way : Int)) = some (.int (yy k way)) := by
  have : way = 0 ∨ way = 1 ∨ way = 2 ∨ way = 3 := by lia
  rcases this with rfl | rfl | rfl | rfl <;> rfl
theorem law_body : law.body = (law.body.take 7) ++ t7 := rfl
theorem law_runs (script : List Int) (hs : script.length ≤ 63) : ∃ H', Ca P 150 law [.lst (intsV script)] [] (.bool true) H' := by
  -- the cells
  generalize hcl : (script.take 30).map (fun c => Int.fmod c 1000003) = cells
  have hc : cells.length ≤ 30 := by rw [← hcl, List.length_map, List.length_take]; (clear hcl hs; lia)
  have okS : okLen (intsV script).length = true := okLen_of (by unfold intsV; rw [List.length_map]; (clear hc hcl; lia))
  have sl : sliceL (intsV script) none (some 30) = some ((script.take 30).map V.int) := by
    simp only [sliceL, okS]
    rw [if_pos ⟨by decide, trivial⟩, show ((30 : Int).toNat) = 30 from rfl]; unfold intsV; rw [List.map_take]
  have CE : Ev P 147 (.comp (.bin .mod (.bi .int [.var 1819043171]) (.num 1000003)) [.mk (.var 1819043171) (.slice (.var 128026154263411) Option.none (some (.num 30))) []]) (law.params.zip [.lst (intsV script)]) [] (.lst (intsV cells)) [] := by
    have C := e_compm (P := P) (n := 146) (ρ := law.params.zip [.lst (intsV script)]) (H := []) (H1 := []) (it := .slice (.var 128026154263411) Option.none (some (.num 30))) (elt := .bin .mod (.bi .int [.var 1819043171]) (.num 1000003)) (t := .var 1819043171) (g := V.int) (f := fun c => V.int (Int.fmod c 1000003)) (l := script.take 30)
      (i_val (by rfl) (e_slice_l (e_var' (lke_base rfl)) e_num rfl sl) rfl) (by
        intro c hc
        exact ⟨_, rfl, e_bin (e_bi (es_cons (e_var' lke_same) es_nil) rfl) e_num (b_mod (by decide))⟩) (by rw [List.length_take]; (clear sl okS hc hcl hs; lia))
    have e : (script.take 30).map (fun c => V.int (Int.fmod c 1000003)) = intsV cells := by rw [← hcl]; unfold intsV; rw [List.map_map]; rfl
    rw [e] at C; exact C
  have S0 : Ev P 149 (.tup [.dict .s [.str 495740282211, .str 1852994932] [.comp (.bin .mod (.bi .int [.var 1819043171]) (.num 1000003)) [.mk (.var 1819043171) (.slice (.var 128026154263411) Option.none (some (.num 30))) []], .num 0], .new 7741231747428410708 []]) (law.params.zip [.lst (intsV script)]) [] (.tup [.ref 0, .ref 1]) (hp (stk cells 0) X0 [tt, tf] []) :=
    e_tup (es_cons (e_dict (ep_cons e_str CE (ep_cons e_str e_num ep_nil)) (o := stk cells 0) rfl) (es_cons (e_new rfl rfl es_nil (bank_new 107 (stk cells 0))) es_nil)) rfl
  -- draws
  refine x1a3 (l_draw (cells := cells) (t := 0) (wide := 3) hc (by decide) (by decide) (by decide)) fun d1 d10 d11 D1 => ?_
  refine x1a3 (l_draw (cells := cells) (t := 1) (wide := 4) hc (by decide) (by decide) (by decide)) fun d2 d20 d21 D2 => ?_
  obtain ⟨w, ew⟩ : ∃ w : Nat, 1 + d1 = (w : Int) := ⟨(1 + d1).toNat, by (clear d21 d20 d11 sl okS hc hcl hs; lia)⟩
  obtain ⟨way, ey⟩ : ∃ y : Nat, d2 = (y : Int) := ⟨d2.toNat, by (clear ew d21 d11 d10 sl okS hc hcl hs; lia)⟩
  subst ey
  have w0 : 1 ≤ w := by (clear d21 d20 d11 sl okS hc hcl hs; lia)
  have w1 : w ≤ 3 := by (clear w0 d21 d20 d10 sl okS hc hcl hs; lia)
  have hw : way < 4 := by (clear w1 w0 d20 ew d11 d10 sl okS hc hcl hs; lia)
  have p1 : 2 ^ w ≤ 8 := Nat.pow_le_pow_right (n := 2) (by decide) w1
  have p0 : 1 ≤ 2 ^ w := Nat.one_le_two_pow
  refine x1a3 (l_draw (cells := cells) (t := 2) (wide := ((2 ^ w : Nat) : Int)) hc (by decide) (by decide) (by (clear p1 hw w1 w0 d21 d20 ew d11 d10 sl okS hc hcl hs; lia))) fun d3 d30 d31 D3 => ?_
  obtain ⟨k, ek⟩ : ∃ k : Nat, d3 = (k : Int) := ⟨d3.toNat, by (clear d31 p0 p1 hw w1 w0 d21 d20 ew d11 d10 sl okS hc hcl hs; lia)⟩
  subst ek
  have hk : k < 2 ^ w := by (clear d30 p0 p1 hw w1 w0 d21 d20 ew d11 d10 sl okS hc hcl hs; lia)
  refine x1a3 (l_draw (cells := cells) (t := 3) (wide := ((7 * w : Nat) : Int)) hc (by decide) (by decide) (by (clear hk d31 d30 p0 p1 hw w1 w0 d21 d20 d11 sl okS hc hcl hs; lia))) fun d4 d40 d41 D4 => ?_
  obtain ⟨turn, et⟩ : ∃ k : Nat, d4 = (k : Int) := ⟨d4.toNat, by (clear d41 hk d31 d30 p0 p1 hw w1 w0 d21 d20 ew d11 d10 sl okS hc hcl hs; lia)⟩
  subst et
  have ht : turn < 7 * w := by (clear d40 hk d31 d30 p0 p1 hw w1 w0 d21 d20 ew d11 d10 sl okS hc hcl hs; lia)
  refine x1a3 (l_draw (cells := cells) (t := 4) (wide := ((7 + 7 * w : Nat) : Int)) hc (by decide) (by decide) (by (clear ht d41 d40 hk d31 d30 p0 p1 hw w1 w0 d21 d20 ew d11 d10 sl okS hc hcl hs; lia))) fun d5 d50 d51 D5 => ?_
  obtain ⟨m, em⟩ : ∃ m : Nat, 1 + d5 = (m : Int) := ⟨(1 + d5).toNat, by (clear d51 ht d41 d40 hk d31 d30 p0 p1 hw w1 w0 d21 d20 ew d11 d10 sl okS hc hcl hs; lia)⟩
  have F := facts w0 w1 (show k < 8 by (clear em d51 d50 ht d41 d40 hk d30 p0 hw w1 w0 d21 d20 ew d11 d10 sl okS hc hcl hs; lia)) hw
  refine x0a4 (first (k := k)) fun f1 f2 f3 f4 => ?_
  have pw : binV .pow (.int 2) (.int (w : Int)) = some (.int ((2 ^ w : Nat) : Int)) := by rw [b_pow (by decide) (by (clear f4 f3 f2 f1 em d51 d50 ht d41 d40 hk d31 d30 p0 p1 hw w1 w0 d21 d20 ew d11 d10 sl okS hc hcl hs; lia)) (by (clear f4 f3 f2 f1 em d51 d50 ht d41 d40 hk d31 d30 p0 p1 hw w1 w0 d21 d20 d10 sl okS hc hcl hs; lia)), Int.toNat_natCast]; rfl
  generalize hρ0 : lset (lset (law.params.zip [V.lst (intsV script)]) 461229749363 (.ref 0)) 1802396002 (.ref 1) = ρ0
  have a1 : Lk ρ0 461229749363 (.ref 0) := by rw [← hρ0]; exact lke_skip rfl lke_same
  have a2 : Lk ρ0 1802396002 (.ref 1) := by rw [← hρ0]; exact lke_same
  have S1 : Ev P 149 (.tup [.bin .add (.num 1) (.call 2202184329901648211039 [.var 461229749363, .num 3]), .call 2202184329901648211039 [.var 461229749363, .num 4]]) ρ0 (hp (stk cells 0) X0 [tt, tf] []) (.tup [.int (w : Int), .int (way : Int)]) (hp (stk cells (0+1+1)) X0 [tt, tf] []) :=
    e_tup (es_cons (e_bin e_num (e_call rfl (es_cons (e_var' a1) (es_cons e_num es_nil)) (D1 _ X0 [tt, tf] [])) (by rw [← ew]; rfl)) (es_cons (e_call rfl (es_cons (e_var' a1) (es_cons e_num es_nil)) (D2 _ X0 [tt, tf] [])) es_nil)) rfl
  generalize hρ1 : lset (lset ρ0 119 (.int (w : Int))) 7954807 (.int (way : Int)) = ρ1
  have b1 : Lk ρ1 461229749363 (.ref 0) := by rw [← hρ1]; exact lke_skip rfl (lke_skip rfl a1)
  have b2 : Lk ρ1 1802396002 (.ref 1) := by rw [← hρ1]; exact lke_skip rfl (lke_skip rfl a2)
  have b3 : Lk ρ1 119 (.int (w : Int)) := by rw [← hρ1]; exact lke_skip rfl lke_same
  have b4 : Lk ρ1 7954807 (.int (way : Int)) := by rw [← hρ1]; exact lke_same
  have itx : intText (w : Int) = some (wtext w) := by rcases w3 w0 w1 with rfl | rfl | rfl <;> rfl
  have BS := l_bv_sort_new (n := 131) (st := stk cells 2) (X := X0) (ts := [tt, tf]) (rest := []) (w := (w : Int)) (t := wtext w) rfl (by (clear itx hρ1 hρ0 pw f4 f3 f2 f1 em d51 d50 ht d41 d40 hk d31 d30 p0 p1 hw w1 w0 d21 d20 d11 sl okS hc hcl hs; lia)) (by (clear itx hρ1 hρ0 pw f4 f3 f2 f1 em d51 d50 ht d41 d40 hk d31 d30 p0 p1 hw w1 w0 d21 d20 d10 sl okS hc hcl hs; lia)) itx (by decide) (by decide) (by decide)
  have S2 : Ev P 149 (.tup [.meth (.var 1802396002) 32776920301008482 [.var 119], .call 2202184329901648211039 [.var 461229749363, .bin .pow (.num 2) (.var 119)]]) ρ1 (hp (stk cells (0+1+1)) X0 [tt, tf] []) (.tup [.int 3, .int (k : Int)]) (hp (stk cells (2+1)) (X0.more w (wtext w)) [tt, tf] []) :=
    e_tup (es_cons (e_meth (e_var' b2) rfl rfl rfl rfl (es_cons (e_var' b3) es_nil) BS) (es_cons (e_call rfl (es_cons (e_var' b1) (es_cons (e_bin e_num (e_var' b3) pw) es_nil)) (D3 _ _ [tt, tf] [])) es_nil)) rfl
  generalize hρ2 : lset (lset ρ1 1953656691 (.int 3)) 125779768604014 (.int (k : Int)) = ρ2
  have c1 : Lk ρ2 461229749363 (.ref 0) := by rw [← hρ2]; exact lke_skip rfl (lke_skip rfl b1)
  have c2 : Lk ρ2 1802396002 (.ref 1) := by rw [← hρ2]; exact lke_skip rfl (lke_skip rfl b2)
  have c3 : Lk ρ2 119 (.int (w : Int)) := by rw [← hρ2]; exact lke_skip rfl (lke_skip rfl b3)
  have c4 : Lk ρ2 7954807 (.int (way : Int)) := by rw [← hρ2]; exact lke_skip rfl (lke_skip rfl b4)
  have c5 : Lk ρ2 1953656691 (.int 3) := by rw [← hρ2]; exact lke_skip rfl lke_same
  have c6 : Lk ρ2 125779768604014 (.int (k : Int)) := by rw [← hρ2]; exact lke_same
  have FX := l_fresh (n := 117) (nm := 120) (s := 3) (st := stk cells 3) (X := X0.more w (wtext w)) (ts := [tt, tf]) (rest := []) (by decide) (Nat.le_of_ble_eq_true rfl) (Nat.le_of_ble_eq_true rfl) (Nat.le_of_ble_eq_true rfl)
  have FO := l_fresh (n := 117) (nm := 121) (s := 3) (st := stk cells 3) (X := { X0.more w (wtext w) with fnames := [.str 120], fargs := [.tup []], fres := [.int 3] }) (ts := put [tt, tf] ⟨7368801, [], 3, 0⟩) (rest := []) (by decide) (Nat.le_of_ble_eq_true rfl) (Nat.le_of_ble_eq_true rfl) (Nat.le_of_ble_eq_true rfl)
  have S3 : Ev P 149 (.tup [.meth (.var 1802396002) 140780504389038964637790822 [.str 120, .var 1953656691], .meth (.var 1802396002) 140780504389038964637790822 [.str 121, .var 1953656691]]) ρ2 (hp (stk cells (2+1)) (X0.more w (wtext w)) [tt, tf] []) (.tup [.int 3, .int 4]) (hp (stk cells 3) (X1 w) [tt, tf, ⟨7368801, [], 3, 0⟩, ⟨7368801, [], 3, 1⟩] []) :=
    e_tup (es_cons (e_meth (e_var' c2) rfl rfl rfl rfl (es_cons e_str (es_cons (e_var' c5) es_nil)) FX) (es_cons (e_meth (e_var' c2) rfl rfl rfl rfl (es_cons e_str (es_cons (e_var' c5) es_nil)) FO) es_nil)) rfl
  generalize hρ3 : lset (lset ρ2 120 (.int 3)) 491327616111 (.int 4) = ρ3
  have g1 : Lk ρ3 461229749363 (.ref 0) := by rw [← hρ3]; exact lke_skip rfl (lke_skip rfl c1)
  have g2 : Lk ρ3 1802396002 (.ref 1) := by rw [← hρ3]; exact lke_skip rfl (lke_skip rfl c2)
  have g3 : Lk ρ3 119 (.int (w : Int)) := by rw [← hρ3]; exact lke_skip rfl (lke_skip rfl c3)
  have g4 : Lk ρ3 7954807 (.int (way : Int)) := by rw [← hρ3]; exact lke_skip rfl (lke_skip rfl c4)
  have g6 : Lk ρ3 125779768604014 (.int (k : Int)) := by rw [← hρ3]; exact lke_skip rfl (lke_skip rfl c6)
  have g7 : Lk ρ3 120 (.int 3) := by rw [← hρ3]; exact lke_skip rfl lke_same
  have g8 : Lk ρ3 491327616111 (.int 4) := by rw [← hρ3]; exact lke_same
  have N1 := l_bv_num (n := 124) (v := (k : Int)) (w := (w : Int)) (s := 3) (st := stk cells 3) (X := X1 w) (ts := [tt, tf, ⟨7368801, [], 3, 0⟩, ⟨7368801, [], 3, 1⟩]) (rest := []) (by decide) bv1 (by (clear hρ3 hρ2 itx hρ1 hρ0 pw f4 f3 f2 f1 em d51 d50 ht d41 d40 hk d31 d30 p0 p1 hw w1 w0 d21 d20 d11 sl okS hc hcl hs; lia)) (by (clear hρ3 hρ2 itx hρ1 hρ0 pw f4 f3 f2 f1 em d51 d50 ht d41 d40 hk d31 d30 p0 p1 hw w1 w0 d21 d20 d10 sl okS hc hcl hs; lia))
  have fk : Int.fmod (k : Int) (2 ^ ((w : Int)).toNat) = k := by
    rw [Int.toNat_natCast]
    have e2 : ((2 : Int) ^ w) = ((2 ^ w : Nat) : Int) := rfl
    rw [e2, Int.fmod_eq_emod_of_nonneg _ (by (clear e2 hρ3 hρ2 itx hρ1 hρ0 pw f4 f3 f2 f1 em d51 d50 ht d41 d40 hk d31 d30 p1 hw w1 w0 d21 d20 ew d11 d10 sl okS hc hcl hs; lia))]
    exact Int.emod_eq_of_lt (by (clear e2 hρ3 hρ2 itx hρ1 hρ0 pw f4 f3 f2 f1 em d51 d50 ht d41 d40 hk d31 d30 p0 p1 hw w1 w0 d21 d20 ew d11 d10 sl okS hc hcl hs; lia)) (by (clear e2 hρ3 hρ2 itx hρ1 hρ0 pw f4 f3 f2 f1 em d51 d50 ht d41 d40 hk d30 p0 p1 hw w1 w0 d21 d20 ew d11 d10 sl okS hc hcl hs; lia))
  rw [fk, f2, first5] at N1
  have N2 := l_bv_num (n := 124) (v := 0) (w := (w : Int)) (s := 3) (st := stk cells 3) (X := X1 w) (ts := [tt, tf, ⟨7368801, [], 3, 0⟩, ⟨7368801, [], 3, 1⟩, ⟨470121608802, [], 3, (k : Int)⟩]) (rest := []) (show (5 : Nat) < 1000 by decide) bv1 (by (clear fk hρ3 hρ2 itx hρ1 hρ0 pw f4 f3 f2 f1 em d51 d50 ht d41 d40 hk d31 d30 p0 p1 hw w1 w0 d21 d20 d11 sl okS hc hcl hs; lia)) (by (clear fk hρ3 hρ2 itx hρ1 hρ0 pw f4 f3 f2 f1 em d51 d50 ht d41 d40 hk d31 d30 p0 p1 hw w1 w0 d21 d20 d10 sl okS hc hcl hs; lia))
  rw [Int.zero_fmod, f3, f4] at N2
  have S4 : Ev P 149 (.sub (.tup [.var 491327616111, .meth (.var 1802396002) 120351130351202 [.var 125779768604014, .var 119], .meth (.var 1802396002) 120351130351202 [.num 0, .var 119], .var 120]) (.var 7954807)) ρ3 (hp (stk cells 3) (X1 w) [tt, tf, ⟨7368801, [], 3, 0⟩, ⟨7368801, [], 3, 1⟩] []) (.int (yy k way)) (hp (stk cells 3) (X1 w) (b0 k) []) :=
    e_sub (e_tup (es_cons (e_var' g8) (es_cons (e_meth (e_var' g2) rfl rfl rfl rfl (es_cons (e_var' g6) (es_cons (e_var' g3) es_nil)) N1) (es_cons (e_meth (e_var' g2) rfl rfl rfl rfl (es_cons e_num (es_cons (e_var' g3) es_nil)) N2) (es_cons (e_var' g7) es_nil)))) rfl) (e_var' g4) (yy_sub hw)
  generalize hρ4 : lset ρ3 121 (.int (yy k way)) = ρ4
  have h1 : Lk ρ4 461229749363 (.ref 0) := by rw [← hρ4]; exact lke_skip rfl g1
  have h2 : Lk ρ4 1802396002 (.ref 1) := by rw [← hρ4]; exact lke_skip rfl g2
  have h3 : Lk ρ4 119 (.int (w : Int)) := by rw [← hρ4]; exact lke_skip rfl g3
  have h4 : Lk ρ4 7954807 (.int (way : Int)) := by rw [← hρ4]; exact lke_skip rfl g4
  have h6 : Lk ρ4 125779768604014 (.int (k : Int)) := by rw [← hρ4]; exact lke_skip rfl g6
  have h7 : Lk ρ4 120 (.int 3) := by rw [← hρ4]; exact lke_skip rfl g7
  have h8 : Lk ρ4 491327616111 (.int 4) := by rw [← hρ4]; exact lke_skip rfl g8
  have h9 : Lk ρ4 121 (.int (yy k way)) := by rw [← hρ4]; exact lke_same
  have m7 : binV .mul (.int 7) (.int (w : Int)) = some (.int ((7 * w : Nat) : Int)) := by rw [b_mul (by decide)]; rfl
  have a7 : binV .add (.int 7) (.int ((7 * w : Nat) : Int)) = some (.int ((7 + 7 * w : Nat) : Int)) := rfl
  have JN := judge_new (n := 127) (st := stk cells 3) (X := X1 w) (ts := b0 k)
  have S5 : Ev P 149 (.tup [.new 7306919375355013442 [.var 1802396002], .call 2202184329901648211039 [.var 461229749363, .bin .mul (.num 7) (.var 119)], .bin .add (.num 7) (.bin .mul (.num 7) (.var 119))]) ρ4 (hp (stk cells 3) (X1 w) (b0 k) []) (.tup [.ref 13, .int (turn : Int), .int ((7 + 7 * w : Nat) : Int)]) (hj (stk cells (3+1)) (X1 w) (b0 k) []) :=
    e_tup (es_cons (e_new rfl rfl (es_cons (e_var' h2) es_nil) JN) (es_cons (e_call rfl (es_cons (e_var' h1) (es_cons (e_bin e_num (e_var' h3) m7) es_nil)) (D4 _ _ _ _)) (es_cons (e_bin e_num (e_bin e_num (e_var' h3) m7) a7) es_nil))) rfl
  generalize hρ5 : lset (lset (lset ρ4 435526333802 (.ref 13)) 1852994932 (.int (turn : Int))) 2037277037 (.int ((7 + 7 * w : Nat) : Int)) = ρ5
  have j1 : ∀ {i v}, Nat.beq i 435526333802 = false → Nat.beq i 1852994932 = false → Nat.beq i 2037277037 = false → Lk ρ4 i v → Lk ρ5 i v := fun e1 e2 e3 h => by rw [← hρ5]; exact lke_skip e3 (lke_skip e2 (lke_skip e1 h))
  have j2 : Lk ρ5 435526333802 (.ref 13) := by rw [← hρ5]; exact lke_skip rfl (lke_skip rfl lke_same)
  have j3 : Lk ρ5 1852994932 (.int (turn : Int)) := by rw [← hρ5]; exact lke_skip rfl lke_same
  have j4 : Lk ρ5 2037277037 (.int ((7 + 7 * w : Nat) : Int)) := by rw [← hρ5]; exact lke_same
  have S6 : Ev P 149 (.bin .add (.num 1) (.call 2202184329901648211039 [.var 461229749363, .var 2037277037])) ρ5 (hj (stk cells (3+1)) (X1 w) (b0 k) []) (.int (m : Int)) (hj (stk cells (4+1)) (X1 w) (b0 k) []) :=
    e_bin e_num (e_call rfl (es_cons (e_var' (j1 rfl rfl rfl h1)) (es_cons (e_var' j4) es_nil)) (D5 _ _ _ _)) (by rw [← em]; rfl)
  have L : Lkc (lset ρ5 128017496895341 (.int (m : Int))) w k way turn m :=
    ⟨lke_skip rfl (j1 rfl rfl rfl h1), lke_skip rfl (j1 rfl rfl rfl h2), lke_skip rfl (j1 rfl rfl rfl h3), lke_skip rfl (j1 rfl rfl rfl h4), lke_skip rfl (j1 rfl rfl rfl h6), lke_skip rfl (j1 rfl rfl rfl h7), lke_skip rfl (j1 rfl rfl rfl h8), lke_skip rfl (j1 rfl rfl rfl h9), lke_skip rfl j2, lke_skip rfl j3, lke_skip rfl j4, lke_same⟩
  refine x2a1 (t_7 (n := 35) (t := 5) (cells := cells) F w0 w1 hk hw ht hc (by decide) L (by (clear hρ5 a7 m7 hρ4 fk hρ3 hρ2 itx hρ1 hρ0 pw f4 f3 f2 f1 d51 ht d41 d40 hk d31 d30 p0 p1 hw w1 w0 d21 d20 ew d11 d10 sl okS hc hcl hs; lia)) (by (clear hρ5 a7 m7 hρ4 fk hρ3 hρ2 itx hρ1 hρ0 pw f4 f3 f2 f1 d50 ht d41 d40 hk d31 d30 p0 p1 hw w1 w0 d21 d20 ew d11 d10 sl okS hc hcl hs; lia))) fun ρ' H' e => ?_
  refine ⟨H', c_ret rfl (ρ' := ρ') (x_asgt S0 (ρ1 := ρ0) (by rw [← hρ0]; rfl) (x_asgt S1 (ρ1 := ρ1) (by rw [← hρ1]; rfl) (x_asgt S2 (ρ1 := ρ2) (by rw [← hρ2]; rfl) (x_asgt S3 (ρ1 := ρ3) (by rw [← hρ3]; rfl) (x_asgv S4 ?_)))))⟩
  rw [hρ4]
  exact x_asgt S5 (ρ1 := ρ5) (by rw [← hρ5]; rfl) (x_asgv S6 e)
end
end Mini.L3
end
end
section
open PySem PySem.W PyProof.Rows
set_option tactic.hygienic true
namespace PJ3
set_option maxRecDepth 100000
set_option maxHeartbeats 8000000
theorem vrs_ints {h : Heap} : ∀ {vs : List Value} {ns : List Int}, IntsAre vs ns → Mini.VRs .nil [] h (Mini.L3.intsV ns) vs
  | _, _, .nil => .nil
  | _, _, .cons n t r => .cons (.int n t) (vrs_ints r)
theorem post3 (ns : List Int) : PySem.Challenge.rw_zu0062_03.row.claim.post [ofPy (PyData.list (List.map PyData.int ns))] (ofPy (PyData.bool true)) [ofPy (PyData.list (List.map PyData.int ns))] = true := by kernel_rfl
theorem fin3 {hK : Params → Frag} {vw : Program} (chk : ∀ P, Mini.chkAll PySem.Challenge.rw_zu0062_03.row.prog (hK P) Mini.L3.P = true) (imp : importsNone vw = true) {w : World} {s : Shared} {mg mb : Str → Option Value} {fa a : Addr} {vs : List Value} {ns : List Int} {mean' : ExcName → Option Value} {cl : Str → Option Addr} {E : Value → Shared → Prop}
    (KX : (hK w.params).In s.heap) {loose : List Str} {mean : ExcName → Option Value} (T : Top vw loose mean mg mb s.heap) (hg : s.gens = #[]) (hmg : mg "law" = some (.ref fa)) (hl : s.heap.IsList a vs.toArray) (hI : IntsAre vs ns) (hc : ¬ (63 : Int) < ns.length) :
    wpAny (model PySem.Challenge.rw_zu0062_03.row.prog w) callerA (call (.ref fa) [.ref a])
      (fun v s' => GoodWG PySem.Challenge.rw_zu0062_03.row.claim cl mean' [ofPy (PyData.list (List.map PyData.int ns))] s (.ok (.ret v)) s') E s := by
  let C : Mini.Cfg := { prog := PySem.Challenge.rw_zu0062_03.row.prog, w := w, base := s.heap, K := hK w.params, P := Mini.L3.P, cls := Mini.clsOf (hK w.params), os := s.os }
  have hs : (s.heap.get? sysModules).isSome = true := by
    obtain ⟨mm, ⟨o, es, ep, ho, _⟩, _⟩ := (T.seer imp).mods
    rw [ho]; rfl
  have K : Mini.CfgOK C ⟨mg, mb⟩ := Mini.cfg_ok (C := C) (G := ⟨mg, mb⟩) rfl KX hs T.nolimit T.g T.b T.builtins (chk w.params)
  have F : Mini.Fn C fa Mini.L3.law := by
    obtain ⟨a', e, f⟩ := K.fn 7823724 Mini.L3.law rfl
    have e2 : mg "law" = some (.ref a') := e
    rw [hmg] at e2
    cases e2
    exact f
  obtain ⟨H', R⟩ := Mini.L3.law_runs ns (by omega)
  exact Mini.join (C := C) K F rfl rfl hg R.h ⟨rfl, by decide, by decide⟩ (.cons (.lst hl (fun h => by
    rcases h with ⟨i, p, o, h, _⟩ | h
    · cases (show (none : Option (Addr × Addr)) = some p from h)
    · cases h) (vrs_ints hI)) .nil) (fun k => rfl) (post3 ns)

end PJ3
end
theorem PySem.Challenge.cw_zu0062_03_holds : PySem.Challenge.rw_zu0062_03.Holds := by
  exact PJ3.law_holds fun _ _ chk imp => PJ3.fin3 chk imp
