import PyProof.Rows.All
import Wide.All
import OpenK.AllK
import Wide.FinOn
import Wide.BridgeG
import KE.KSuper
import PySem.Challenge.RW_zu0062_02
set_option Elab.async false
set_option tactic.hygienic false
section
set_option autoImplicit false
namespace Mini
open PySem

/-- values; a text is a number: its signs, base 256, the first sign lowest -/
inductive V where
  | none
  | bool (b : Bool)
  | int (i : Int)
  | str (s : Nat)
  | tup (l : List V)
  | lst (l : List V)
  | ref (n : Nat)
  deriving Inhabited

/-- objects that change -/
inductive O where
  | list (l : List V)
  | dI (l : List (Int × V))
  | dS (l : List (Nat × V))
  | dT (l : List (V × V))
  | inst (c : Nat) (l : List (Nat × V))
  | dead
  deriving Inhabited

noncomputable def V.int? (v : V) : Option Int := match v with | .int i => some i | _ => Option.none
noncomputable def V.bool? (v : V) : Option Bool := match v with | .bool i => some i | _ => Option.none
noncomputable def V.str? (v : V) : Option Nat := match v with | .str i => some i | _ => Option.none
noncomputable def V.ref? (v : V) : Option Nat := match v with | .ref i => some i | _ => Option.none
noncomputable def V.tup? (v : V) : Option (List V) := match v with | .tup i => some i | _ => Option.none
noncomputable def V.lst? (v : V) : Option (List V) := match v with | .lst i => some i | _ => Option.none
noncomputable def V.isNone (v : V) : Bool := match v with | .none => true | _ => false
noncomputable def V.like (v : V) (l : List V) : V := match v with | .tup _ => .tup l | _ => .lst l
noncomputable def O.list? (o : O) : Option (List V) := match o with | .list l => some l | _ => Option.none
noncomputable def O.inst? (o : O) : Option (Nat × List (Nat × V)) := match o with | .inst c l => some (c, l) | _ => Option.none
noncomputable def one? (l : List V) : Option V := match l with | [v] => some v | _ => Option.none
noncomputable def two? (l : List V) : Option (V × V) := match l with | [v, w] => some (v, w) | _ => Option.none

noncomputable abbrev Hp := List O
noncomputable abbrev Lo := List (Nat × V)

noncomputable def digs : Nat → Nat → List Nat
  | 0, _ => []
  | f + 1, n => if n = 0 then [] else (n % 256) :: digs f (n / 256)
noncomputable def nmL (n : Nat) : List Nat := digs n n
noncomputable def nm (n : Nat) : Str := ⟨(nmL n).toArray⟩

inductive Bop where
  | add | sub | mul | fdiv | mod | pow | shl | shr | band | bor | bxor
  deriving DecidableEq, Inhabited
inductive Cop where
  | eq | ne | lt | le | gt | ge | isin | notin | is | isnot
  deriving DecidableEq, Inhabited
inductive DK where
  | i | s | t
  deriving DecidableEq, Inhabited
inductive Bi where
  | len | sum | min | max | abs | int | list | tuple | dict | isTuple | isInt
  deriving DecidableEq, Inhabited

set_option genInjectivity false in
mutual
inductive E where
  | none
  | bool (b : Bool)
  | num (i : Int)
  | str (s : Nat)
  | var (i : Nat)
  | cst (i : Nat)
  | and (l : List E)
  | or (l : List E)
  | not (a : E)
  | bin (op : Bop) (a b : E)
  | neg (a : E)
  | ite (c a b : E)
  | dict (k : DK) (ks vs : List E)
  | list (m : Bool) (l : List E)
  | tup (l : List E)
  | comp (elt : E) (gens : List G)
  | cmp (a : E) (ops : List Cop) (l : List E)
  | call (f : Nat) (args : List E)
  | new (c : Nat) (args : List E)
  | meth (o : E) (m : Nat) (args : List E)
  | bi (b : Bi) (args : List E)
  | range (l : List E)
  | inVals (x d : E)
  | attr (o : E) (a : Nat)
  | sub (o i : E)
  | slice (o : E) (lo hi : Option E)
  | fmt (pre : Nat) (e : E) (post : Nat)
  | sup (c : Nat) (m : Nat)
  | freeze (e : E)
inductive T where
  | var (i : Nat)
  | attr (o : E) (a : Nat)
  | sub (o i : E)
  | tup (l : List Nat)
inductive G where
  | mk (t : T) (it : E) (ifs : List E)
end

inductive S where
  | expr (e : E)
  | ret (e : E)
  | asg (t : T) (e : E)
  | ifs (c : E) (a b : List S)
  | whl (c : E) (b : List S)
  | fr (t : T) (e : E) (b : List S)
  | cont
  | rais

noncomputable instance : Inhabited E := ⟨.none⟩
noncomputable instance : Inhabited T := ⟨.var 0⟩
noncomputable instance : Inhabited G := ⟨.mk (.var 0) .none []⟩
noncomputable instance : Inhabited S := ⟨.cont⟩

set_option genInjectivity false in
structure FDef where
  params : List Nat
  body : List S
  deriving Inhabited

set_option genInjectivity false in
structure Prog where
  funs : List (Nat × FDef)
  /-- a class's methods, those of its bases too: the first that is found -/
  classes : List (Nat × List (Nat × FDef))
  consts : List (Nat × V)
  /-- the names of attributes: no class bears one -/
  attrs : List Nat

inductive Fl where
  | nxt | cont | ret (v : V)

/-! equality -/
noncomputable def V.num? (v : V) : Option Int := match v with
  | .int i => some i
  | .bool b => some (if b then 1 else 0)
  | _ => Option.none
mutual
noncomputable def V.beq : V → V → Bool
  | .none, b => b.isNone
  | .bool x, b => b.num?.any ((if x then 1 else 0) == ·)
  | .int x, b => b.num?.any (x == ·)
  | .str x, b => b.str?.any (x == ·)
  | .tup l, b => (match b.tup? with | some m => V.beqs l m | Option.none => false)
  | .lst l, b => (match b.lst? with | some m => V.beqs l m | Option.none => false)
  | .ref _, _ => false
noncomputable def V.beqs : List V → List V → Bool
  | [], [] => true
  | a :: as, b :: bs => V.beq a b && V.beqs as bs
  | _, _ => false
end
mutual
/-- the depth, if no object that changes is within -/
noncomputable def V.dep : V → Option Nat
  | .none | .bool _ | .int _ | .str _ => some 0
  | .tup l | .lst l => (V.deps l).map (· + 1)
  | .ref _ => Option.none
noncomputable def V.deps : List V → Option Nat
  | [] => some 0
  | a :: as => match V.dep a, V.deps as with
    | some m, some n => some (max m n)
    | _, _ => Option.none
end
noncomputable def V.flat (v : V) : Bool := match v.dep with
  | some n => Nat.ble n 60
  | Option.none => false
noncomputable def V.flats (l : List V) : Bool := l.all V.flat
mutual
/-- may stand as a key: ints, texts, tuples of such, three deep -/
noncomputable def V.key : Nat → V → Bool
  | _, .int _ => true
  | _, .str _ => true
  | n, .tup l => (match n with | 0 => false | n + 1 => V.keys n l)
  | _, .none => false
  | _, .bool _ => false
  | _, .lst _ => false
  | _, .ref _ => false
noncomputable def V.keys : Nat → List V → Bool
  | _, [] => true
  | n, a :: as => V.key n a && V.keys n as
end
noncomputable def V.isKey : V → Bool
  | .tup l => V.keys 3 l
  | _ => false
-- the very same value
mutual
noncomputable def V.same : V → V → Bool
  | .none, b => b.isNone
  | .bool x, b => b.bool?.any (x == ·)
  | .int x, b => b.int?.any (x == ·)
  | .str x, b => b.str?.any (x == ·)
  | .tup l, b => (match b.tup? with | some m => V.sames l m | Option.none => false)
  | .lst l, b => (match b.lst? with | some m => V.sames l m | Option.none => false)
  | .ref x, b => b.ref?.any (x == ·)
noncomputable def V.sames : List V → List V → Bool
  | [], [] => true
  | a :: as, b :: bs => V.same a b && V.sames as bs
  | _, _ => false
end

/-! small pieces -/
noncomputable def lk {α : Type} : List (Nat × α) → Nat → Option α
  | [], _ => Option.none
  | (j, v) :: r, i => bif Nat.beq i j then some v else lk r i
noncomputable def lset : Lo → Nat → V → Lo
  | [], i, v => [(i, v)]
  | (j, w) :: r, i, v => bif Nat.beq i j then (j, v) :: r else (j, w) :: lset r i v
noncomputable def getI : List (Int × V) → Int → Option V
  | [], _ => Option.none
  | (j, v) :: r, i => bif i == j then some v else getI r i
noncomputable def setI : List (Int × V) → Int → V → List (Int × V)
  | [], i, v => [(i, v)]
  | (j, w) :: r, i, v => bif i == j then (j, v) :: r else (j, w) :: setI r i v
noncomputable def getT : List (V × V) → V → Option V
  | [], _ => Option.none
  | (j, v) :: r, i => bif V.same j i then some v else getT r i
noncomputable def setT : List (V × V) → V → V → List (V × V)
  | [], i, v => [(i, v)]
  | (j, w) :: r, i, v => bif V.same j i then (j, v) :: r else (j, w) :: setT r i v

/-- the longest a list may get -/
noncomputable def cap : Nat := 100000
noncomputable def okLen (n : Nat) : Bool := Nat.ble n cap
noncomputable def okInt (i : Int) : Bool := Nat.ble i.natAbs (2 ^ 61)

noncomputable def idx (i : Int) (n : Nat) : Option Nat :=
  bif okInt i then (if 0 ≤ i then (if i.toNat < n then some i.toNat else Option.none)
  else if i + n < 0 then Option.none else some (i + n).toNat) else Option.none

noncomputable def nth (H : Hp) (i : Nat) : Option O := H[i]?

noncomputable def binI (op : Bop) (a b : Int) : Option Int :=
  match op with
  | .add => some (a + b)
  | .sub => some (a - b)
  | .mul => bif okInt a then some (a * b) else Option.none
  | .fdiv => if b = 0 then Option.none else bif okInt b then some (Int.fdiv a b) else Option.none
  | .mod => if b = 0 then Option.none else some (Int.fmod a b)
  | .pow => if 0 ≤ b ∧ b ≤ 1000 then bif okInt a then some (a ^ b.toNat) else Option.none else Option.none
  | .shl => if 0 ≤ b ∧ b ≤ 1000 then bif okInt a then some (a * 2 ^ b.toNat) else Option.none else Option.none
  | .shr => if 0 ≤ b then some (Int.fdiv a (2 ^ b.toNat)) else Option.none
  | .band => some (Builtin.bitAnd a b)
  | .bor => some (Builtin.bitOr a b)
  | .bxor => some (Builtin.bitXor a b)

noncomputable def strCat (a b : Nat) : Nat := a + b * 256 ^ (nmL a).length

noncomputable def binV (op : Bop) (a b : V) : Option V :=
  match a with
  | .int a => b.int?.bind fun b => (binI op a b).map V.int
  | .str a => b.str?.bind fun b => if op = .add ∧ (nmL a).length < 100 ∧ (nmL b).length < 100 then some (.str (strCat a b)) else Option.none
  | .lst a => if op = .add then b.lst?.bind fun b => (bif okLen (a.length + b.length) then some (.lst (a ++ b)) else Option.none)
    else b.int?.bind fun n => if op = .mul ∧ 0 ≤ n ∧ okLen (a.length * n.toNat) ∧ n < 100000 then some (.lst ((List.replicate n.toNat a).flatten)) else Option.none
  | _ => Option.none

noncomputable def hasKeyO (x : V) (o : O) : Option Bool := match o with
  | .dI l => x.int?.map fun i => (getI l i).isSome
  | .dS l => x.str?.map fun s => (lk l s).isSome
  | .dT l => bif x.isKey then some (getT l x).isSome else Option.none
  | _ => Option.none
noncomputable def hasKey (H : Hp) (x : V) (d : Nat) : Option Bool := (nth H d).bind (hasKeyO x)

noncomputable def ints2 (a b : V) (f : Int → Int → Bool) : Option Bool := a.int?.bind fun i => b.int?.map fun j => f i j

noncomputable def items (v : V) : Option (List V) := match v with
  | .tup l => some l
  | .lst l => some l
  | _ => Option.none

noncomputable def memV (H : Hp) (a b : V) : Option Bool := match b with
  | .ref d => hasKey H a d
  | b => (items b).bind fun l => bif a.flat && V.flats l then some (l.any fun y => V.beq y a) else Option.none

/-- (two dicts are not compared yet) -/
noncomputable def eqV (_H : Hp) (a b : V) : Option Bool := bif a.flat && b.flat then some (V.beq a b) else Option.none

noncomputable def cop (o : Cop) (H : Hp) (a b : V) : Option Bool := match o with
  | .eq => eqV H a b
  | .ne => (eqV H a b).map (!·)
  | .lt => ints2 a b fun i j => decide (i < j)
  | .le => ints2 a b fun i j => decide (i ≤ j)
  | .gt => ints2 a b fun i j => decide (j < i)
  | .ge => ints2 a b fun i j => decide (j ≤ i)
  | .isin => memV H a b
  | .notin => (memV H a b).map (!·)
  | .is => bif b.isNone then some a.isNone else Option.none
  | .isnot => bif b.isNone then some (!a.isNone) else Option.none

noncomputable def toInts : List V → Option (List Int)
  | [] => some []
  | v :: r => v.num?.bind fun i => (toInts r).map (i :: ·)
noncomputable def allInts : List V → Option (List Int)
  | [] => some []
  | v :: r => v.int?.bind fun i => (allInts r).map (i :: ·)
noncomputable def allStrs : List V → Option (List Nat)
  | [] => some []
  | v :: r => v.str?.bind fun i => (allStrs r).map (i :: ·)

noncomputable def bMin : List Int → Option Int
  | [] => Option.none
  | i :: r => some (r.foldl (fun a b => if b < a then b else a) i)
noncomputable def bMax : List Int → Option Int
  | [] => Option.none
  | i :: r => some (r.foldl (fun a b => if a < b then b else a) i)

noncomputable def lenV (H : Hp) (v : V) : Option Nat := match v with
  | .ref i => (nth H i).bind fun o => o.list?.map (·.length)
  | v => (items v).map (·.length)
/-- what min and max are taken of -/
noncomputable def minArgs (args : List V) : Option (List Int) := match args with
  | [v] => v.lst?.bind allInts
  | [a, b] => allInts [a, b]
  | _ => Option.none
noncomputable def callBi (b : Bi) (args : List V) (H : Hp) : Option (V × Hp) := match b with
  | .len => (one? args).bind fun v => (lenV H v).bind fun n => bif okLen n then some (.int n, H) else Option.none
  | .sum => (one? args).bind fun v => v.lst?.bind fun l => (toInts l).bind fun is => bif okInt is.sum && is.all okInt then some (.int is.sum, H) else Option.none
  | .min => (minArgs args).bind fun is => (bMin is).map fun i => (.int i, H)
  | .max => (minArgs args).bind fun is => (bMax is).map fun i => (.int i, H)
  | .abs => (one? args).bind fun v => v.int?.map fun a => (.int a.natAbs, H)
  | .int => (one? args).bind fun v => v.num?.map fun a => (.int a, H)
  | .list => (one? args).bind fun v => v.lst?.bind fun l => bif okLen l.length then some (.lst l, H) else Option.none
  | .tuple => (one? args).bind fun v => (items v).bind fun l => bif okLen l.length then some (.tup l, H) else Option.none
  | .dict => Option.none
  | .isTuple => (one? args).bind fun v => bif v.ref?.isSome then Option.none else some (.bool v.tup?.isSome, H)
  | .isInt => (one? args).bind fun v => bif v.ref?.isSome then Option.none else some (.bool v.num?.isSome, H)

noncomputable def subO (o : O) (i : V) : Option V := match o with
  | .list l => i.int?.bind fun k => (idx k l.length).bind fun j => l[j]?
  | .dI l => i.int?.bind (getI l)
  | .dS l => i.str?.bind (lk l)
  | .dT l => bif i.isKey then getT l i else Option.none
  | _ => Option.none
noncomputable def subV (H : Hp) (o i : V) : Option V := match o with
  | .ref n => (nth H n).bind fun ob => subO ob i
  | o => (items o).bind fun l => i.int?.bind fun k => (idx k l.length).bind fun j => l[j]?

noncomputable def setItemO (o : O) (i v : V) : Option O := match o with
  | .dI l => i.int?.bind fun k => bif okLen l.length then some (.dI (setI l k v)) else Option.none
  | .dS l => i.str?.bind fun k => bif okLen l.length then some (.dS (lset l k v)) else Option.none
  | .dT l => bif i.isKey && okLen l.length then some (.dT (setT l i v)) else Option.none
  | _ => Option.none
noncomputable def setItemV (H : Hp) (o i v : V) : Option Hp := o.ref?.bind fun n => (nth H n).bind fun ob => (setItemO ob i v).map fun ob => H.set n ob

noncomputable def sliceL (l : List V) (lo hi : Option Int) : Option (List V) :=
  match lo, hi with
  | Option.none, some h => if 0 ≤ h ∧ okLen l.length then some (l.take h.toNat) else Option.none
  | some k, Option.none => if 0 ≤ k ∧ okLen l.length then some (l.drop k.toNat) else Option.none
  | _, _ => Option.none

noncomputable def intText (i : Int) : Option Nat := if 0 ≤ i ∧ i < 10 then some (48 + i.toNat) else if 10 ≤ i ∧ i < 100 then some ((48 + i.toNat / 10) + 256 * (48 + i.toNat % 10)) else Option.none

set_option genInjectivity false in
set_option genSizeOf false in
/-- what a level of the semantics is built on -/
structure Sems where
  ev : E → Lo → Hp → Option (V × Hp)
  exs : List S → Lo → Hp → Option (Fl × Lo × Hp)

section
variable (P : Prog) (R : Sems)

noncomputable def evs : List E → Lo → Hp → Option (List V × Hp)
  | [], _, H => some ([], H)
  | e :: es, ρ, H => (R.ev e ρ H).bind fun (v, H) => (evs es ρ H).bind fun (vs, H) => some (v :: vs, H)

noncomputable def Fl.out (f : Fl) : Option V := match f with
  | .ret v => some v
  | .nxt => some .none
  | .cont => Option.none
noncomputable def Fl.ret? (f : Fl) : Option V := match f with
  | .ret v => some v
  | _ => Option.none
noncomputable def Fl.isNxt (f : Fl) : Bool := match f with
  | .nxt => true
  | _ => false
noncomputable def callF (f : FDef) (args : List V) (H : Hp) : Option (V × Hp) :=
  bif Nat.beq args.length f.params.length then (R.exs f.body (f.params.zip args) H).bind fun x => x.1.out.map fun v => (v, x.2.2) else Option.none

noncomputable def evAnd : List E → Lo → Hp → Option (V × Hp)
  | [], _, _ => Option.none
  | e :: es, ρ, H => bif es.isEmpty then R.ev e ρ H else (R.ev e ρ H).bind fun (v, H) => v.bool?.bind fun b => bif b then evAnd es ρ H else some (.bool false, H)
noncomputable def evOr : List E → Lo → Hp → Option (V × Hp)
  | [], _, _ => Option.none
  | e :: es, ρ, H => bif es.isEmpty then R.ev e ρ H else (R.ev e ρ H).bind fun (v, H) => v.bool?.bind fun b => bif b then some (.bool true, H) else evOr es ρ H

noncomputable def evCmp (left : V) : List Cop → List E → Lo → Hp → Option (V × Hp)
  | o :: os, e :: es, ρ, H => (R.ev e ρ H).bind fun (v, H) => (cop o H left v).bind fun b =>
    bif b && !es.isEmpty then evCmp v os es ρ H else some (.bool b, H)
  | _, _, _, _ => Option.none

/-- what a loop walks over -/
noncomputable def rangeI (l : List Int) : Option (List V) := match l with
  | [n] => bif okLen n.toNat && okInt n then some ((List.range n.toNat).map fun (i : Nat) => V.int (i : Int)) else Option.none
  | [a, b] => bif okLen (b - a).toNat && okInt a && okInt b then some ((List.range (b - a).toNat).map fun (i : Nat) => V.int (a + (i : Int))) else Option.none
  | _ => Option.none
noncomputable def E.range? (e : E) : Option (List E) := match e with
  | .range l => some l
  | _ => Option.none
noncomputable def evIt (e : E) (ρ : Lo) (H : Hp) : Option (List V × Hp) := match e.range? with
  | some l => (evs R l ρ H).bind fun (vs, H) => (allInts vs).bind fun is => (rangeI is).map fun l => (l, H)
  | Option.none => (R.ev e ρ H).bind fun (v, H) => (items v).map fun l => (l, H)

/-- targets that are names alone -/
noncomputable def bindTs : List Nat → List V → Lo → Option Lo
  | [], [], ρ => some ρ
  | i :: ts, v :: vs, ρ => bindTs ts vs (lset ρ i v)
  | _, _, _ => Option.none
noncomputable def bindT : T → V → Lo → Option Lo
  | .var i, v, ρ => some (lset ρ i v)
  | .tup l, v, ρ => (items v).bind fun vs => bindTs l vs ρ
  | .attr _ _, _, _ => Option.none
  | .sub _ _, _, _ => Option.none

noncomputable def evIfs : List E → Lo → Hp → Option (Bool × Hp)
  | [], _, H => some (true, H)
  | e :: es, ρ, H => (R.ev e ρ H).bind fun (v, H) => v.bool?.bind fun b => bif b then evIfs es ρ H else some (false, H)

noncomputable def nodupB : List Nat → Bool
  | [] => true
  | i :: l => !(l.any (Nat.beq i)) && nodupB l
noncomputable def tgtB : T → List Nat
  | .var i => [i]
  | .tup l => l
  | .attr _ _ => []
  | .sub _ _ => []
noncomputable def tgtsOf (gs : List G) : List Nat := gs.flatMap fun | .mk t _ _ => tgtB t
noncomputable def n_dot0 : Nat := 12334
noncomputable def ldel (l : List Nat) (ρ : Lo) : Lo := ρ.filter fun p => !(l.any (Nat.beq p.1))

/-- a comprehension: its clauses from outside in -/
noncomputable def evComp (elt : E) : List G → Lo → Hp → Option (List V × Hp)
  | [], ρ, H => (R.ev elt ρ H).bind fun (v, H) => some ([v], H)
  | .mk t it ifs :: gs, ρ, H => (evIt R it ρ H).bind fun (vs, H) => loop t ifs (evComp elt gs) vs ρ H
where loop (t : T) (ifs : List E) (inner : Lo → Hp → Option (List V × Hp)) : List V → Lo → Hp → Option (List V × Hp)
  | [], _, H => some ([], H)
  | v :: vs, ρ, H => (bindT t v ρ).bind fun ρ' => (evIfs R ifs ρ' H).bind fun (b, H) =>
    (bif b then inner ρ' H else some ([], H)).bind fun (ws, H) => (loop t ifs inner vs ρ H).bind fun (us, H) => some (ws ++ us, H)

noncomputable def evOpt : Option E → Lo → Hp → Option (Option Int × Hp)
  | Option.none, _, H => some (Option.none, H)
  | some e, ρ, H => (R.ev e ρ H).bind fun (v, H) => v.int?.bind fun i => bif okInt i then some (some i, H) else Option.none

noncomputable def mkDict (k : DK) (ks vs : List V) : Option O := match k with
  | .i => (allInts ks).map fun is => .dI ((is.zip vs).foldl (fun d p => setI d p.1 p.2) [])
  | .s => (allStrs ks).map fun ss => .dS ((ss.zip vs).foldl (fun d p => lset d p.1 p.2) [])
  | .t => bif ks.isEmpty then some (.dT []) else Option.none

noncomputable def evPairs : List E → List E → Lo → Hp → Option ((List V × List V) × Hp)
  | k :: ks, e :: es, ρ, H => (R.ev k ρ H).bind fun (kv, H) => (R.ev e ρ H).bind fun (v, H) => (evPairs ks es ρ H).bind fun (x, H) => some ((kv :: x.1, v :: x.2), H)
  | _, _, _, H => some (([], []), H)

noncomputable def n_append : Nat := 110425311047777
noncomputable def n_pop : Nat := 7368560
noncomputable def n_extend : Nat := 110425311311973
noncomputable def n_get : Nat := 7628135
noncomputable def n_init : Nat := 6872339552563453791
noncomputable def n_self : Nat := 1718379891

noncomputable def O.isList : O → Bool
  | .list _ => true
  | _ => false
noncomputable def O.isDict : O → Bool
  | .dI _ | .dS _ | .dT _ => true
  | _ => false
/-- methods of lists and dicts -/
noncomputable def getV (o : O) (k d : V) : Option V := match o with
  | .dI l => bif k.isKey then some d else k.int?.map fun i => (getI l i).getD d
  | .dS l => k.str?.map fun i => (lk l i).getD d
  | .dT l => bif k.isKey then some ((getT l k).getD d) else Option.none
  | _ => Option.none
noncomputable def methB (r : Nat) (o : O) (m : Nat) (args : List V) (H : Hp) : Option (V × Hp) := match o.list? with
  | some l => (one? args).bind fun v => bif Nat.beq m n_append && okLen l.length then some (.none, H.set r (.list (l ++ [v]))) else Option.none
  | Option.none => (two? args).bind fun x => bif Nat.beq m n_get then (getV o x.1 x.2).map fun v => (v, H) else Option.none

noncomputable def O.dI? (o : O) : Option (List (Int × V)) := match o with | .dI l => some l | _ => Option.none
noncomputable def dictVals (H : Hp) (d : V) : Option (List V) := d.ref?.bind fun i => (nth H i).bind fun o => o.dI?.map fun l => l.map (·.2)

noncomputable def evStep : E → Lo → Hp → Option (V × Hp)
  | .none, _, H => some (.none, H)
  | .bool b, _, H => some (.bool b, H)
  | .num i, _, H => some (.int i, H)
  | .str s, _, H => some (.str s, H)
  | .var i, ρ, H => (lk ρ i).map fun v => (v, H)
  | .cst i, _, H => (lk P.consts i).map fun v => (v, H)
  | .and l, ρ, H => evAnd R l ρ H
  | .or l, ρ, H => evOr R l ρ H
  | .not a, ρ, H => (R.ev a ρ H).bind fun (v, H) => v.bool?.map fun b => (.bool (!b), H)
  | .bin op a b, ρ, H => (R.ev a ρ H).bind fun (x, H) => (R.ev b ρ H).bind fun (y, H) => (binV op x y).map fun v => (v, H)
  | .neg a, ρ, H => (R.ev a ρ H).bind fun (v, H) => v.int?.map fun i => (.int (-i), H)
  | .ite c a b, ρ, H => (R.ev c ρ H).bind fun (v, H) => v.bool?.bind fun t => bif t then R.ev a ρ H else R.ev b ρ H
  | .dict k ks es, ρ, H => (evPairs R ks es ρ H).bind fun (x, H) => (mkDict k x.1 x.2).map fun o => (.ref H.length, H ++ [o])
  | .list m l, ρ, H => (evs R l ρ H).bind fun (vs, H) => bif okLen vs.length then (bif m then some (.ref H.length, H ++ [.list vs]) else some (.lst vs, H)) else Option.none
  | .tup l, ρ, H => (evs R l ρ H).bind fun (vs, H) => bif okLen vs.length then some (.tup vs, H) else Option.none
  | .comp elt gens, ρ, H => (match gens with
    | [] => Option.none
    | .mk t it ifs :: gs => (evIt R it ρ H).bind fun (vs, H) => (evComp.loop R t ifs (evComp R elt gs) vs (ldel (n_dot0 :: tgtsOf (.mk t it ifs :: gs)) ρ) H).bind fun (ws, H) =>
      bif okLen ws.length then some (.lst ws, H) else Option.none)
  | .cmp a ops l, ρ, H => (R.ev a ρ H).bind fun (v, H) => evCmp R v ops l ρ H
  | .call f args, ρ, H => (lk P.funs f).bind fun fd => (evs R args ρ H).bind fun (vs, H) => callF R fd vs H
  | .new c args, ρ, H => (lk P.classes c).bind fun ms => (lk ms n_init).bind fun fd => (evs R args ρ H).bind fun (vs, H) =>
    (callF R fd (.ref H.length :: vs) (H ++ [.inst c []])).bind fun x => bif x.1.isNone then some (.ref H.length, x.2) else Option.none
  | .meth o m args, ρ, H => (R.ev o ρ H).bind fun (v, H) => v.ref?.bind fun r => (nth H r).bind fun ob => (match ob.inst? with
    | some x => bif (lk x.2 m).isSome then Option.none else (lk P.classes x.1).bind fun ms => (lk ms m).bind fun f => (evs R args ρ H).bind fun (vs, H) => callF R f (.ref r :: vs) H
    | Option.none => (evs R args ρ H).bind fun (vs, H) => (nth H r).bind fun ob2 =>
        bif (Nat.beq m n_append && ob.isList && ob2.isList) || (Nat.beq m n_get && ob.isDict && ob2.isDict) then methB r ob2 m vs H else Option.none)
  | .bi b args, ρ, H => (evs R args ρ H).bind fun (vs, H) => callBi b vs H
  | .inVals x d, ρ, H => (R.ev x ρ H).bind fun (v, H) => (R.ev d ρ H).bind fun (dv, H) => (dictVals H dv).bind fun l => bif v.flat && V.flats l then some (.bool (l.any fun y => V.beq y v), H) else Option.none
  | .attr o a, ρ, H => (R.ev o ρ H).bind fun (v, H) => v.ref?.bind fun r => (nth H r).bind fun ob => ob.inst?.bind fun x =>
      bif P.attrs.any (Nat.beq a) && (lk P.classes x.1).isSome then (lk x.2 a).map fun v => (v, H) else Option.none
  | .sub o i, ρ, H => (R.ev o ρ H).bind fun (x, H) => (R.ev i ρ H).bind fun (y, H) => (subV H x y).map fun v => (v, H)
  | .slice o lo hi, ρ, H => (R.ev o ρ H).bind fun (x, H) => (evOpt R lo ρ H).bind fun (a, H) => (evOpt R hi ρ H).bind fun (b, H) => (items x).bind fun l => (sliceL l a b).map fun l => (x.like l, H)
  | .fmt pre e post, ρ, H => (R.ev e ρ H).bind fun (v, H) => v.int?.bind fun i => (intText i).map fun t => (.str (strCat pre (strCat t post)), H)
  | .sup c m, ρ, H => (lk ρ n_self).bind fun v => (lk P.classes c).bind fun ms => (lk ms m).bind fun f => callF R f [v] H
  | .freeze e, ρ, H => (R.ev e ρ H).bind fun (v, H) => v.ref?.bind fun r => (nth H r).bind fun ob => ob.list?.map fun l => (.lst l, H.set r .dead)
  | .range _, _, _ => Option.none

noncomputable def asgT : T → V → Lo → Hp → Option (Lo × Hp)
  | .var i, v, ρ, H => some (lset ρ i v, H)
  | .attr o a, v, ρ, H => (R.ev o ρ H).bind fun (ov, H) => ov.ref?.bind fun r => (nth H r).bind fun ob => ob.inst?.bind fun x =>
      bif Nat.ble x.2.length 50 && P.attrs.any (Nat.beq a) && (lk P.classes x.1).isSome then some (ρ, H.set r (.inst x.1 (lset x.2 a v))) else Option.none
  | .sub o i, v, ρ, H => (R.ev o ρ H).bind fun (ov, H) => (R.ev i ρ H).bind fun (iv, H) => (setItemV H ov iv v).map fun H => (ρ, H)
  | .tup l, v, ρ, H => (bindT (.tup l) v ρ).map fun ρ => (ρ, H)

noncomputable def exFor (t : T) (b : List S) : List V → Lo → Hp → Option (Fl × Lo × Hp)
  | [], ρ, H => some (.nxt, ρ, H)
  | v :: vs, ρ, H => (bindT t v ρ).bind fun ρ => (R.exs b ρ H).bind fun (f, ρ, H) => match f.ret? with
    | some v => some (.ret v, ρ, H)
    | Option.none => exFor t b vs ρ H

noncomputable def exWhl (c : E) (b : List S) : Nat → Lo → Hp → Option (Fl × Lo × Hp)
  | 0, _, _ => Option.none
  | n + 1, ρ, H => (R.ev c ρ H).bind fun (v, H) => v.bool?.bind fun t => bif t then
      (R.exs b ρ H).bind fun (f, ρ, H) => (match f.ret? with
      | some v => some (.ret v, ρ, H)
      | Option.none => exWhl c b n ρ H)
    else some (.nxt, ρ, H)

noncomputable def turns : Nat := 100000

noncomputable def exStep : S → Lo → Hp → Option (Fl × Lo × Hp)
  | .expr e, ρ, H => (R.ev e ρ H).map fun (_, H) => (.nxt, ρ, H)
  | .ret e, ρ, H => (R.ev e ρ H).map fun (v, H) => (.ret v, ρ, H)
  | .asg t e, ρ, H => (R.ev e ρ H).bind fun (v, H) => (asgT P R t v ρ H).map fun (ρ, H) => (.nxt, ρ, H)
  | .ifs c a b, ρ, H => (R.ev c ρ H).bind fun (v, H) => v.bool?.bind fun t => bif t then R.exs a ρ H else R.exs b ρ H
  | .whl c b, ρ, H => exWhl R c b turns ρ H
  | .fr t e b, ρ, H => (evIt R e ρ H).bind fun (vs, H) => exFor R t b vs ρ H
  | .cont, ρ, H => some (.cont, ρ, H)
  | .rais, _, _ => Option.none

noncomputable def exsStep : List S → Lo → Hp → Option (Fl × Lo × Hp)
  | [], ρ, H => some (.nxt, ρ, H)
  | s :: r, ρ, H => (exStep P R s ρ H).bind fun (f, ρ, H) => bif f.isNxt then exsStep r ρ H else some (f, ρ, H)
end

noncomputable def sem (P : Prog) : Nat → Sems
  | 0 => ⟨fun _ _ _ => Option.none, fun _ _ _ => Option.none⟩
  | n + 1 => ⟨evStep P (sem P n), exsStep P (sem P n)⟩

/-! what the parts tell -/
theorem nn {α : Type} {a : α} {p : Prop} (h : Option.none = some a) : p := nomatch h
theorem ff {p : Prop} (h : false = true) : p := nomatch h
theorem int?_some {v : V} {i : Int} (h : v.int? = some i) : v = .int i := by induction v using Mini.V.casesOn <;> (first | exact nn h | cases h); rfl
theorem bool?_some {v : V} {i : Bool} (h : v.bool? = some i) : v = .bool i := by induction v using Mini.V.casesOn <;> (first | exact nn h | cases h); rfl
theorem str?_some {v : V} {i : Nat} (h : v.str? = some i) : v = .str i := by induction v using Mini.V.casesOn <;> (first | exact nn h | cases h); rfl
theorem num?_some {v : V} {i : Int} (h : v.num? = some i) : v = .int i ∨ ∃ b, v = .bool b ∧ i = if b then 1 else 0 := by
  induction v using Mini.V.casesOn <;> first | ((first | exact nn h | cases h); exact .inl rfl) | ((first | exact nn h | cases h); exact .inr ⟨_, rfl, rfl⟩) | exact nn h
theorem ref?_some {v : V} {i : Nat} (h : v.ref? = some i) : v = .ref i := by induction v using Mini.V.casesOn <;> (first | exact nn h | cases h); rfl
theorem lst?_some {v : V} {i : List V} (h : v.lst? = some i) : v = .lst i := by induction v using Mini.V.casesOn <;> (first | exact nn h | cases h); rfl
theorem items_some {v : V} {l : List V} (h : items v = some l) : v = .tup l ∨ v = .lst l := by induction v using Mini.V.casesOn <;> cases h <;> first | exact .inl rfl | exact .inr rfl
theorem none_of {v : V} (h : v.isNone = true) : v = .none := by induction v using Mini.V.casesOn <;> first | rfl | exact ff h
theorem list?_some {v : O} {i : List V} (h : v.list? = some i) : v = .list i := by induction v using Mini.O.casesOn <;> (first | exact nn h | cases h); rfl
theorem dI?_some {v : O} {i : List (Int × V)} (h : v.dI? = some i) : v = .dI i := by induction v using Mini.O.casesOn <;> (first | exact nn h | cases h); rfl
theorem inst?_some {v : O} {i : Nat × List (Nat × V)} (h : v.inst? = some i) : v = .inst i.1 i.2 := by induction v using Mini.O.casesOn <;> (first | exact nn h | cases h); rfl
theorem one?_some {l : List V} {v : V} (h : one? l = some v) : l = [v] := by
  induction l using List.casesOn with
  | nil => exact nn h
  | cons a l => induction l using List.casesOn <;> (first | exact nn h | cases h); rfl
theorem two?_some {l : List V} {v : V × V} (h : two? l = some v) : l = [v.1, v.2] := by
  induction l using List.casesOn with
  | nil => exact nn h
  | cons a l => induction l using List.casesOn with
    | nil => exact nn h
    | cons b l => induction l using List.casesOn <;> (first | exact nn h | cases h); rfl
theorem ite_some {α : Type} {b : Bool} {x : Option α} {y : α} (h : (bif b then x else Option.none) = some y) : b = true ∧ x = some y := by
  induction b using Bool.casesOn
  · exact nn h
  · exact ⟨rfl, h⟩
theorem bindP {α β γ : Type} {x : Option (α × β)} {g : α × β → Option γ} {r : γ} (h : x.bind g = some r) : ∃ a b, x = some (a, b) ∧ g (a, b) = some r :=
  (Option.bind_eq_some_iff.mp h).elim fun a h => ⟨a.1, a.2, h.1, h.2⟩
theorem bindP3 {α β γ δ : Type} {x : Option (α × β × δ)} {g : α × β × δ → Option γ} {r : γ} (h : x.bind g = some r) : ∃ a b c, x = some (a, b, c) ∧ g (a, b, c) = some r :=
  (Option.bind_eq_some_iff.mp h).elim fun a h => ⟨a.1, a.2.1, a.2.2, h.1, h.2⟩
theorem mapP {α β γ : Type} {x : Option (α × β)} {g : α × β → γ} {r : γ} (h : x.map g = some r) : ∃ a b, x = some (a, b) ∧ g (a, b) = r :=
  (Option.map_eq_some_iff.mp h).elim fun a h => ⟨a.1, a.2, h.1, h.2⟩
theorem pinj {α β : Type} {a c : α} {b d : β} (h : (a, b) = (c, d)) : a = c ∧ b = d := ⟨congrArg Prod.fst h, congrArg Prod.snd h⟩
theorem sinj {α β : Type} {a c : α} {b d : β} (h : some (a, b) = some (c, d)) : a = c ∧ b = d := pinj (Option.some.inj h)
theorem pinj3 {α β γ : Type} {a c : α} {b d : β} {e f : γ} (h : (a, b, e) = (c, d, f)) : a = c ∧ b = d ∧ e = f := ⟨(pinj h).1, pinj (pinj h).2⟩
theorem sinj3 {α β γ : Type} {a c : α} {b d : β} {e f : γ} (h : some (a, b, e) = some (c, d, f)) : a = c ∧ b = d ∧ e = f := pinj3 (Option.some.inj h)
theorem bind_some {α β : Type} {x : Option α} {g : α → Option β} {b : β} (h : x.bind g = some b) : ∃ a, x = some a ∧ g a = some b := Option.bind_eq_some_iff.mp h
theorem map_some {α β : Type} {x : Option α} {g : α → β} {b : β} (h : x.map g = some b) : ∃ a, x = some a ∧ g a = b := Option.map_eq_some_iff.mp h
/-! the same, as steps -/
theorem bsE {α β : Type} {x : Option α} {g : α → Option β} {b : β} {P : Prop} (h : x.bind g = some b) (k : ∀ a, x = some a → g a = some b → P) : P := (bind_some h).elim fun a h => k a h.1 h.2
theorem msE {α β : Type} {x : Option α} {g : α → β} {b : β} {P : Prop} (h : x.map g = some b) (k : ∀ a, x = some a → g a = b → P) : P := (map_some h).elim fun a h => k a h.1 h.2
theorem bpE {α β γ : Type} {x : Option (α × β)} {g : α × β → Option γ} {r : γ} {P : Prop} (h : x.bind g = some r) (k : ∀ a b, x = some (a, b) → g (a, b) = some r → P) : P := (bindP h).elim fun a h => h.elim fun b h => k a b h.1 h.2
theorem b3E {α β γ δ : Type} {x : Option (α × β × δ)} {g : α × β × δ → Option γ} {r : γ} {P : Prop} (h : x.bind g = some r) (k : ∀ a b c, x = some (a, b, c) → g (a, b, c) = some r → P) : P := (bindP3 h).elim fun a h => h.elim fun b h => h.elim fun c h => k a b c h.1 h.2
theorem mpE {α β γ : Type} {x : Option (α × β)} {g : α × β → γ} {r : γ} {P : Prop} (h : x.map g = some r) (k : ∀ a b, x = some (a, b) → g (a, b) = r → P) : P := (mapP h).elim fun a h => h.elim fun b h => k a b h.1 h.2
theorem itE {α : Type} {b : Bool} {x : Option α} {y : α} {P : Prop} (h : (bif b then x else Option.none) = some y) (k : b = true → x = some y → P) : P := k (ite_some h).1 (ite_some h).2
theorem x0a2 {A0 A1 P : Prop} (h : A0 ∧ A1) (k : A0 → A1 → P) : P := k h.1 h.2
theorem x0a3 {A0 A1 A2 P : Prop} (h : A0 ∧ A1 ∧ A2) (k : A0 → A1 → A2 → P) : P := k h.1 h.2.1 h.2.2
theorem x0a4 {A0 A1 A2 A3 P : Prop} (h : A0 ∧ A1 ∧ A2 ∧ A3) (k : A0 → A1 → A2 → A3 → P) : P := k h.1 h.2.1 h.2.2.1 h.2.2.2
theorem x1a1 {α0 : Sort _} {A0 : α0 → Prop} {P : Prop} (h : ∃ a0, A0 a0) (k : ∀ a0, A0 a0 → P) : P := h.elim fun a0 h => k a0 h
theorem x1a2 {α0 : Sort _} {A0 A1 : α0 → Prop} {P : Prop} (h : ∃ a0, A0 a0 ∧ A1 a0) (k : ∀ a0, A0 a0 → A1 a0 → P) : P := h.elim fun a0 h => k a0 h.1 h.2
theorem x1a3 {α0 : Sort _} {A0 A1 A2 : α0 → Prop} {P : Prop} (h : ∃ a0, A0 a0 ∧ A1 a0 ∧ A2 a0) (k : ∀ a0, A0 a0 → A1 a0 → A2 a0 → P) : P := h.elim fun a0 h => k a0 h.1 h.2.1 h.2.2
theorem x2a1 {α0 : Sort _} {α1 : Sort _} {A0 : α0 → α1 → Prop} {P : Prop} (h : ∃ a0 a1, A0 a0 a1) (k : ∀ a0 a1, A0 a0 a1 → P) : P := h.elim fun a0 h => h.elim fun a1 h => k a0 a1 h
theorem x2a2 {α0 : Sort _} {α1 : Sort _} {A0 A1 : α0 → α1 → Prop} {P : Prop} (h : ∃ a0 a1, A0 a0 a1 ∧ A1 a0 a1) (k : ∀ a0 a1, A0 a0 a1 → A1 a0 a1 → P) : P := h.elim fun a0 h => h.elim fun a1 h => k a0 a1 h.1 h.2
theorem x2a3 {α0 : Sort _} {α1 : Sort _} {A0 A1 A2 : α0 → α1 → Prop} {P : Prop} (h : ∃ a0 a1, A0 a0 a1 ∧ A1 a0 a1 ∧ A2 a0 a1) (k : ∀ a0 a1, A0 a0 a1 → A1 a0 a1 → A2 a0 a1 → P) : P := h.elim fun a0 h => h.elim fun a1 h => k a0 a1 h.1 h.2.1 h.2.2
theorem x2a4 {α0 : Sort _} {α1 : Sort _} {A0 A1 A2 A3 : α0 → α1 → Prop} {P : Prop} (h : ∃ a0 a1, A0 a0 a1 ∧ A1 a0 a1 ∧ A2 a0 a1 ∧ A3 a0 a1) (k : ∀ a0 a1, A0 a0 a1 → A1 a0 a1 → A2 a0 a1 → A3 a0 a1 → P) : P := h.elim fun a0 h => h.elim fun a1 h => k a0 a1 h.1 h.2.1 h.2.2.1 h.2.2.2
theorem x2a5 {α0 : Sort _} {α1 : Sort _} {A0 A1 A2 A3 A4 : α0 → α1 → Prop} {P : Prop} (h : ∃ a0 a1, A0 a0 a1 ∧ A1 a0 a1 ∧ A2 a0 a1 ∧ A3 a0 a1 ∧ A4 a0 a1) (k : ∀ a0 a1, A0 a0 a1 → A1 a0 a1 → A2 a0 a1 → A3 a0 a1 → A4 a0 a1 → P) : P := h.elim fun a0 h => h.elim fun a1 h => k a0 a1 h.1 h.2.1 h.2.2.1 h.2.2.2.1 h.2.2.2.2
theorem x3a1 {α0 : Sort _} {α1 : Sort _} {α2 : Sort _} {A0 : α0 → α1 → α2 → Prop} {P : Prop} (h : ∃ a0 a1 a2, A0 a0 a1 a2) (k : ∀ a0 a1 a2, A0 a0 a1 a2 → P) : P := h.elim fun a0 h => h.elim fun a1 h => h.elim fun a2 h => k a0 a1 a2 h
theorem x3a2 {α0 : Sort _} {α1 : Sort _} {α2 : Sort _} {A0 A1 : α0 → α1 → α2 → Prop} {P : Prop} (h : ∃ a0 a1 a2, A0 a0 a1 a2 ∧ A1 a0 a1 a2) (k : ∀ a0 a1 a2, A0 a0 a1 a2 → A1 a0 a1 a2 → P) : P := h.elim fun a0 h => h.elim fun a1 h => h.elim fun a2 h => k a0 a1 a2 h.1 h.2
theorem x3a3 {α0 : Sort _} {α1 : Sort _} {α2 : Sort _} {A0 A1 A2 : α0 → α1 → α2 → Prop} {P : Prop} (h : ∃ a0 a1 a2, A0 a0 a1 a2 ∧ A1 a0 a1 a2 ∧ A2 a0 a1 a2) (k : ∀ a0 a1 a2, A0 a0 a1 a2 → A1 a0 a1 a2 → A2 a0 a1 a2 → P) : P := h.elim fun a0 h => h.elim fun a1 h => h.elim fun a2 h => k a0 a1 a2 h.1 h.2.1 h.2.2
theorem x3a4 {α0 : Sort _} {α1 : Sort _} {α2 : Sort _} {A0 A1 A2 A3 : α0 → α1 → α2 → Prop} {P : Prop} (h : ∃ a0 a1 a2, A0 a0 a1 a2 ∧ A1 a0 a1 a2 ∧ A2 a0 a1 a2 ∧ A3 a0 a1 a2) (k : ∀ a0 a1 a2, A0 a0 a1 a2 → A1 a0 a1 a2 → A2 a0 a1 a2 → A3 a0 a1 a2 → P) : P := h.elim fun a0 h => h.elim fun a1 h => h.elim fun a2 h => k a0 a1 a2 h.1 h.2.1 h.2.2.1 h.2.2.2
theorem x3a5 {α0 : Sort _} {α1 : Sort _} {α2 : Sort _} {A0 A1 A2 A3 A4 : α0 → α1 → α2 → Prop} {P : Prop} (h : ∃ a0 a1 a2, A0 a0 a1 a2 ∧ A1 a0 a1 a2 ∧ A2 a0 a1 a2 ∧ A3 a0 a1 a2 ∧ A4 a0 a1 a2) (k : ∀ a0 a1 a2, A0 a0 a1 a2 → A1 a0 a1 a2 → A2 a0 a1 a2 → A3 a0 a1 a2 → A4 a0 a1 a2 → P) : P := h.elim fun a0 h => h.elim fun a1 h => h.elim fun a2 h => k a0 a1 a2 h.1 h.2.1 h.2.2.1 h.2.2.2.1 h.2.2.2.2
theorem x4a2 {α0 : Sort _} {α1 : Sort _} {α2 : Sort _} {α3 : Sort _} {A0 A1 : α0 → α1 → α2 → α3 → Prop} {P : Prop} (h : ∃ a0 a1 a2 a3, A0 a0 a1 a2 a3 ∧ A1 a0 a1 a2 a3) (k : ∀ a0 a1 a2 a3, A0 a0 a1 a2 a3 → A1 a0 a1 a2 a3 → P) : P := h.elim fun a0 h => h.elim fun a1 h => h.elim fun a2 h => h.elim fun a3 h => k a0 a1 a2 a3 h.1 h.2
theorem x4a3 {α0 : Sort _} {α1 : Sort _} {α2 : Sort _} {α3 : Sort _} {A0 A1 A2 : α0 → α1 → α2 → α3 → Prop} {P : Prop} (h : ∃ a0 a1 a2 a3, A0 a0 a1 a2 a3 ∧ A1 a0 a1 a2 a3 ∧ A2 a0 a1 a2 a3) (k : ∀ a0 a1 a2 a3, A0 a0 a1 a2 a3 → A1 a0 a1 a2 a3 → A2 a0 a1 a2 a3 → P) : P := h.elim fun a0 h => h.elim fun a1 h => h.elim fun a2 h => h.elim fun a3 h => k a0 a1 a2 a3 h.1 h.2.1 h.2.2
theorem t5 {α β : Sort _} {A B : α → Prop} {D : α → β → Prop} {P : Prop} (h : ∃ a, A a ∧ B a ∧ ∃ b, D a b) (k : ∀ a, A a → B a → ∀ b, D a b → P) : P := h.elim fun a h => h.2.2.elim fun b d => k a h.1 h.2.1 b d
theorem c5 {α β : Sort _} {A : Prop} {B D : α → β → Prop} {P : Prop} (h : A ∧ ∃ a b, B a b ∧ D a b) (k : A → ∀ a b, B a b → D a b → P) : P := h.2.elim fun a q => q.elim fun b q => k h.1 a b q.1 q.2
theorem sinjE {α β : Type} {a c : α} {b d : β} (h : some (a, b) = some (c, d)) {P : α → β → Prop} (k : P a b) : P c d := (sinj h).1 ▸ (sinj h).2 ▸ k
theorem someE {α : Type} {a c : α} (h : some a = some c) {P : α → Prop} (k : P a) : P c := Option.some.inj h ▸ k
theorem pinjE {α β : Type} {a c : α} {b d : β} (h : (a, b) = (c, d)) {P : α → β → Prop} (k : P a b) : P c d := (pinj h).1 ▸ (pinj h).2 ▸ k
theorem sinj3E {α β γ : Type} {a c : α} {b d : β} {e f : γ} (h : some (a, b, e) = some (c, d, f)) {P : α → β → γ → Prop} (k : P a b e) : P c d f := (sinj3 h).1 ▸ (sinj3 h).2.1 ▸ (sinj3 h).2.2 ▸ k
theorem pinj3E {α β γ : Type} {a c : α} {b d : β} {e f : γ} (h : (a, b, e) = (c, d, f)) {P : α → β → γ → Prop} (k : P a b e) : P c d f := (pinj3 h).1 ▸ (pinj3 h).2.1 ▸ (pinj3 h).2.2 ▸ k

end Mini
end
section
set_option autoImplicit false
namespace Mini
open PySem PySem.Calls PyProof.Rows
open PySem.W (Frag dictOf)

/-! the mini program is the row's own text -/
noncomputable def opOf : Bop → Operator
  | .add => .Add | .sub => .Sub | .mul => .Mult | .fdiv => .FloorDiv | .mod => .Mod | .pow => .Pow | .shl => .LShift | .shr => .RShift | .band => .BitAnd | .bor => .BitOr | .bxor => .BitXor
noncomputable def copOf : Cop → CmpOp
  | .eq => .Eq | .ne => .NotEq | .lt => .Lt | .le => .LtE | .gt => .Gt | .ge => .GtE | .isin => .In | .notin => .NotIn | .is => .Is | .isnot => .IsNot
noncomputable def biName : Bi → Str
  | .len => "len" | .sum => "sum" | .min => "min" | .max => "max" | .abs => "abs" | .int => "int" | .list => "list" | .tuple => "tuple" | .dict => "dict" | .isTuple => "isinstance" | .isInt => "isinstance"

noncomputable def sees (sc : Scope) (x : Str) : Bool := match sc.names.lookup x with
  | some .local | some .cell | some .free => true
  | _ => false
noncomputable def owns (sc : Scope) (x : Str) : Bool := match sc.names.lookup x with
  | some .local | some .cell => true
  | _ => false
noncomputable def globalIn (sc : Scope) (x : Str) : Bool := sc.names.lookup x == some .globalImplicit
noncomputable def notDebug (x : Str) : Bool := !(x == ("__debug__" : Str)) && !(x == ("__classdict__" : Str))
noncomputable def biTwo : Bi → Bool
  | .isTuple => true
  | .isInt => true
  | _ => false
noncomputable def biPlain : Bi → Bool
  | .isTuple => false
  | .isInt => false
  | .dict => false
  | _ => true
noncomputable def biOf : Bi → Str
  | .isTuple => "tuple"
  | _ => "int"

/-! what an expression is made of; a number for its kind -/
set_option genInjectivity false in
set_option genSizeOf false in
structure Pt where
  k : Nat
  a : Expr := default
  b : Expr := default
  c : Expr := default
  l : List Expr := []
  ol : List (Option Expr) := []
  o1 : Option Expr := Option.none
  o2 : Option Expr := Option.none
  s : Str := ""
  op : Operator := .Add
  os : List CmpOp := []
  gs : List Comprehension := []
  sc : Scope := default
  n : Nat := 0
  i : Int := 0
  bl : Bool := false
  p : Pos := default
noncomputable def pt (x : Expr) : Pt := match x with
  | .UnaryOp .Not a p => { k := 0, a, p }
  | .BoolOp .And l p => { k := 1, l, p }
  | .BoolOp .Or l p => { k := 2, l, p }
  | .IfExp a b c p => { k := 3, a, b, c, p }
  | .Compare a os l p => { k := 4, a, os, l, p }
  | .UnaryOp .USub a p => { k := 5, a, p }
  | .BinOp a op b p => { k := 6, a, op, b, p }
  | .Dict ol l p => { k := 7, ol, l, p }
  | .List l p => { k := 8, l, p }
  | .Tuple l n p => { k := 9, l, n, p }
  | .ListComp a gs sc p => { k := 10, a, gs, sc, p }
  | .Call a l [] p => { k := 11, a, l, p }
  | .Attribute a s p => { k := 12, a, s, p }
  | .Subscript a b p => { k := 13, a, b, p }
  | .JoinedStr l p => { k := 14, l, p }
  | .Name s p => { k := 15, s, p }
  | .Constant .none n p => { k := 16, n, p }
  | .Constant (.bool bl) n p => { k := 17, bl, n, p }
  | .Constant (.int i) n p => { k := 18, i, n, p }
  | .Constant (.str s) n p => { k := 19, s, n, p }
  | .Slice o1 o2 Option.none p => { k := 30, o1, o2, p }
  | .FormattedValue a i Option.none p => { k := 31, a, i, p }
  | .SetComp _ _ _ _ => { k := 41, a := x }
  | .DictComp _ _ _ _ _ => { k := 41, a := x }
  | x => { k := 50, a := x }
noncomputable def bks : List (Pt → Expr) := [fun q => .UnaryOp .Not q.a q.p, fun q => .BoolOp .And q.l q.p, fun q => .BoolOp .Or q.l q.p, fun q => .IfExp q.a q.b q.c q.p, fun q => .Compare q.a q.os q.l q.p, fun q => .UnaryOp .USub q.a q.p, fun q => .BinOp q.a q.op q.b q.p,
  fun q => .Dict q.ol q.l q.p, fun q => .List q.l q.p, fun q => .Tuple q.l q.n q.p, fun q => .ListComp q.a q.gs q.sc q.p, fun q => .Call q.a q.l [] q.p, fun q => .Attribute q.a q.s q.p, fun q => .Subscript q.a q.b q.p, fun q => .JoinedStr q.l q.p, fun q => .Name q.s q.p,
  fun q => .Constant .none q.n q.p, fun q => .Constant (.bool q.bl) q.n q.p, fun q => .Constant (.int q.i) q.n q.p, fun q => .Constant (.str q.s) q.n q.p, (·.a), (·.a), (·.a), (·.a), (·.a), (·.a), (·.a), (·.a), (·.a), (·.a), fun q => .Slice q.o1 q.o2 Option.none q.p, fun q => .FormattedValue q.a q.i Option.none q.p]
noncomputable def bk (k : Nat) : Pt → Expr := bks.getD k (·.a)
theorem bk_pt (x : Expr) : x = bk (pt x).k (pt x) := by
  cases x with
  | UnaryOp op a p => cases op <;> rfl
  | BoolOp op l p => cases op <;> rfl
  | Call a l ks p => induction ks using List.casesOn <;> rfl
  | Constant c n p => cases c <;> rfl
  | Slice o1 o2 o3 p => induction o3 using Option.casesOn <;> rfl
  | FormattedValue a i o p => induction o using Option.casesOn <;> rfl
  | _ => rfl
theorem bk_of {x : Expr} {k : Nat} (h : Nat.beq (pt x).k k = true) : x = bk k (pt x) := Nat.eq_of_beq_eq_true h ▸ bk_pt x
theorem and_l {a b : Bool} (h : (a && b) = true) : a = true := by induction a using Bool.casesOn; exact ff h; rfl
theorem and_r {a b : Bool} (h : (a && b) = true) : b = true := by induction a using Bool.casesOn; exact ff h; exact h
theorem and2 {a b : Bool} (h : (a && b) = true) : a = true ∧ b = true := ⟨and_l h, and_r h⟩
theorem and3 {a b c : Bool} (h : (a && b && c) = true) : a = true ∧ b = true ∧ c = true := ⟨and_l (and_l h), and_r (and_l h), and_r h⟩
theorem and4 {a b c d : Bool} (h : (a && b && c && d) = true) : a = true ∧ b = true ∧ c = true ∧ d = true := ⟨and_l (and_l (and_l h)), and_r (and_l (and_l h)), and_r (and_l h), and_r h⟩

noncomputable def isGlob (sc : Scope) (g : Str) (x : Expr) : Bool := Nat.beq (pt x).k 15 && ((pt x).s == g && globalIn sc (pt x).s && notDebug (pt x).s)
noncomputable def notSuper (x : Expr) : Bool := !(Nat.beq (pt x).k 11 && (Nat.beq (pt (pt x).a).k 15 && (pt x).l.isEmpty))
noncomputable def isVar (sc : Scope) (i : Nat) (ok : Scope → Str → Bool) (x : Expr) : Bool := Nat.beq (pt x).k 15 && (nm i == (pt x).s && ok sc (pt x).s && notDebug (pt x).s)

section
variable (me : Scope → E → Expr → Bool)
noncomputable def mtEs (sc : Scope) : List E → List Expr → Bool
  | [], [] => true
  | e :: es, x :: xs => me sc e x && mtEs sc es xs
  | _, _ => false
noncomputable def mtOpts (sc : Scope) : List E → List (Option Expr) → Bool
  | [], [] => true
  | e :: es, some x :: xs => me sc e x && mtOpts sc es xs
  | _, _ => false
noncomputable def mtOpt (sc : Scope) : Option E → Option Expr → Bool
  | Option.none, Option.none => true
  | some e, some x => me sc e x
  | _, _ => false
/-- what a loop walks over -/
noncomputable def mtIt (sc : Scope) (e : E) (x : Expr) : Bool := match e.range? with
  | some l => Nat.beq (pt x).k 11 && (isGlob sc "range" (pt x).a && mtEs me sc l (pt x).l)
  | Option.none => me sc e x
/-- targets that are names -/
noncomputable def mtBs (sc : Scope) : List Nat → List Expr → Bool
  | [], [] => true
  | i :: ts, x :: xs => isVar sc i owns x && mtBs sc ts xs
  | _, _ => false
noncomputable def mtB (sc : Scope) (t : T) (x : Expr) : Bool := match t with
  | .var i => isVar sc i owns x
  | .tup l => Nat.beq (pt x).k 9 && mtBs sc l (pt x).l
  | .attr _ _ => false
  | .sub _ _ => false
noncomputable def mtGs (sc : Scope) : List G → List Comprehension → Bool
  | [], [] => true
  | .mk t it ifs :: gs, c :: cs => mtB sc t c.target && mtIt me sc it c.iter && mtEs me sc ifs c.ifs && c.is_async == 0 && mtGs sc gs cs
  | _, _ => false
/-- the first clause's source stands in the scope around -/
noncomputable def mtGs1 (out sc : Scope) : List G → List Comprehension → Bool
  | .mk t it ifs :: gs, c :: cs => mtB sc t c.target && mtIt me out it c.iter && mtEs me sc ifs c.ifs && c.is_async == 0 && mtGs me sc gs cs
  | _, _ => false
end
/-- a comprehension's scope -/
noncomputable def scOk (out sc : Scope) (tg : List Nat) : Bool := sc.kind == .function && sc.names.all fun p =>
  match p.2 with
  | .local => sc.names.lookup p.1 == some .local && (p.1 == nm n_dot0 || tg.any fun i => nm i == p.1)
  | .cell => false
  | .free => sc.names.lookup p.1 == some .free && (match out.names.lookup p.1 with | some .cell | some .free => true | _ => false)
  | .globalImplicit => true
  | .globalExplicit => false

/-- the kind that an expression of the mini language has -/
noncomputable def ek : E → Nat
  | .not _ => 0 | .and _ => 1 | .or _ => 2 | .ite _ _ _ => 3 | .cmp _ _ _ => 4 | .inVals _ _ => 4
  | .neg _ => 5 | .bin _ _ _ => 6 | .dict _ _ _ => 7 | .list _ _ => 8 | .tup _ => 9 | .comp _ _ => 10
  | .call _ _ => 11 | .new _ _ => 11 | .meth _ _ _ => 11 | .bi _ _ => 11
  | .attr _ _ => 12 | .sub _ _ => 13 | .slice _ _ _ => 13 | .fmt _ _ _ => 14
  | .var _ => 15 | .cst _ => 15 | .freeze _ => 15
  | .none => 16 | .bool _ => 17 | .num _ => 18 | .str _ => 19
  | .range _ => 20 | .sup _ _ => 20
theorem ek_le (e : E) : Nat.ble (ek e) 20 = true := by cases e <;> rfl

noncomputable def one (l : List Expr) : Option Expr := match l with | [x] => some x | _ => Option.none
noncomputable def mtP (me : Scope → E → Expr → Bool) (sc : Scope) (e : E) (x : Expr) (q : Pt) : Bool := match e with
  | .none => true
  | .bool b => b == q.bl
  | .num i => i == q.i
  | .str s => nm s == q.s
  | .var i => isVar sc i sees x
  | .cst i => isVar sc i globalIn x
  | .and l => mtEs me sc l q.l
  | .or l => mtEs me sc l q.l
  | .not a => me sc a q.a
  | .neg a => me sc a q.a
  | .bin op a b => q.op == opOf op && me sc a q.a && me sc b q.b
  | .ite c a b => me sc c q.a && me sc a q.b && me sc b q.c
  | .dict _ ks vs => mtOpts me sc ks q.ol && mtEs me sc vs q.l && Nat.ble ks.length 15 && Nat.beq ks.length vs.length
  | .list _ l => mtEs me sc l q.l
  | .tup l => mtEs me sc l q.l
  | .comp elt gs => scOk sc q.sc (tgtsOf gs) && nodupB (tgtsOf gs) && me q.sc elt q.a && mtGs1 me sc q.sc gs q.gs
  | .cmp a ops l => me sc a q.a && q.os == ops.map copOf && mtEs me sc l q.l && Nat.beq ops.length l.length
  | .call g args => isGlob sc (nm g) q.a && mtEs me sc args q.l && Nat.ble args.length 20
  | .new c args => isGlob sc (nm c) q.a && mtEs me sc args q.l && Nat.ble args.length 20
  | .meth o m args => Nat.beq (pt q.a).k 12 && (me sc o (pt q.a).a && (pt q.a).s == nm m && !(Nat.beq m n_init) && notSuper (pt q.a).a && (pt q.a).p.endLine == q.p.line && mtEs me sc args q.l && Nat.ble args.length 20)
  | .bi b args => isGlob sc (biName b) q.a && (bif biTwo b then (match args, q.l with | [a], [z, t] => me sc a z && isGlob sc (biOf b) t | _, _ => false) else biPlain b && mtEs me sc args q.l && Nat.ble args.length 20)
  | .inVals a d => (match q.os, q.l with | [.In], [c] => Nat.beq (pt c).k 11 && (Nat.beq (pt (pt c).a).k 12 && ((pt c).l.isEmpty && (me sc a q.a && me sc d (pt (pt c).a).a && (pt (pt c).a).s == ("values" : Str) && notSuper (pt (pt c).a).a && (pt (pt c).a).p.endLine == (pt c).p.line))) | _, _ => false)
  | .attr o a => me sc o q.a && q.s == nm a && notSuper q.a
  | .sub o i => me sc o q.a && me sc i q.b
  | .slice o lo hi => Nat.beq (pt q.b).k 30 && (me sc o q.a && mtOpt me sc lo (pt q.b).o1 && mtOpt me sc hi (pt q.b).o2)
  | .fmt pre e post => (match q.l with | [u, v, w] => Nat.beq (pt u).k 19 && (Nat.beq (pt v).k 31 && (Nat.beq (pt w).k 19 && ((pt v).i == -1 && ((pt u).s == nm pre && (pt w).s == nm post && Nat.ble (nmL pre).length 100 && Nat.ble (nmL post).length 100 && me sc e (pt v).a)))) | _ => false)
  | .sup _ _ => false
  | .freeze e => me sc e x
  | .range _ => false
noncomputable def mtE : Nat → Scope → E → Expr → Bool
  | 0, _, _, _ => false
  | f + 1, sc, e, x => Nat.beq (pt x).k (ek e) && mtP (mtE f) sc e x (pt x)

section
variable {f : Nat} {sc : Scope} {e : E} {x : Expr}
theorem mt0 {P : Prop} (h : mtE 0 sc e x = true) : P := by exact ff h
theorem mt_k : ∀ {f : Nat}, mtE f sc e x = true → (pt x).k = ek e
  | 0, h => mt0 h
  | _ + 1, h => Nat.eq_of_beq_eq_true (and_l h)
theorem mt_p (h : mtE (f + 1) sc e x = true) : mtP (mtE f) sc e x (pt x) = true := and_r h
/-- an expression is put together out of its parts -/
theorem mt_bk (h : mtE (f + 1) sc e x = true) : x = bk (ek e) (pt x) ∧ mtP (mtE f) sc e x (pt x) = true := ⟨bk_of (and_l h), and_r h⟩
end

noncomputable def mtT (f : Nat) (sc : Scope) (t : T) (x : Expr) : Bool := match t with
  | .var i => isVar sc i owns x
  | .attr o a => Nat.beq (pt x).k 12 && (mtE f sc o (pt x).a && (pt x).s == nm a)
  | .sub o i => Nat.beq (pt x).k 13 && (mtE f sc o (pt x).a && mtE f sc i (pt x).b)
  | .tup l => mtB sc (.tup l) x

/-- a statement's value: what is said of the order of its stores -/
noncomputable def isLst : Expr → Bool
  | .List _ _ => true
  | _ => false
noncomputable def plainVal (t : Expr) (v : Expr) : Bool := bif Nat.beq (pt v).k 9 then (bif Nat.beq (pt t).k 9 then !((pt v).l.all (constantsAlone 8)) else !(isLst t)) else true
noncomputable def isCall (x : Expr) : Bool := Nat.beq (pt x).k 11

/-! and statements -/
set_option genInjectivity false in
set_option genSizeOf false in
structure Sp where
  k : Nat
  a : Expr := default
  b : Expr := default
  o : Option Expr := Option.none
  o2 : Option Expr := Option.none
  l : List Stmt := []
  l2 : List Stmt := []
  x : Stmt := default
  p : Pos := default
noncomputable def sp (x : Stmt) : Sp := match x with
  | .Expr a p => { k := 0, a, p }
  | .Return o p => { k := 1, o, p }
  | .Assign [a] b p => { k := 2, a, b, p }
  | .If a l l2 p => { k := 3, a, l, l2, p }
  | .While a l [] p => { k := 4, a, l, p }
  | .For a b l [] p => { k := 5, a, b, l, p }
  | .Continue p => { k := 6, p }
  | .Raise o o2 p => { k := 7, o, o2, p }
  | x => { k := 50, x }
noncomputable def sbks : List (Sp → Stmt) := [fun q => .Expr q.a q.p, fun q => .Return q.o q.p, fun q => .Assign [q.a] q.b q.p, fun q => .If q.a q.l q.l2 q.p, fun q => .While q.a q.l [] q.p, fun q => .For q.a q.b q.l [] q.p, fun q => .Continue q.p, fun q => .Raise q.o q.o2 q.p]
noncomputable def sbk (k : Nat) : Sp → Stmt := sbks.getD k (·.x)
theorem sbk_sp (x : Stmt) : x = sbk (sp x).k (sp x) := by
  cases x with
  | Assign l b p =>
    induction l using List.casesOn with
    | nil => rfl
    | cons a l => induction l using List.casesOn <;> rfl
  | While a l l2 p => induction l2 using List.casesOn <;> rfl
  | For a b l l2 p => induction l2 using List.casesOn <;> rfl
  | _ => rfl
noncomputable def sk : S → Nat
  | .expr _ => 0 | .ret _ => 1 | .asg _ _ => 2 | .ifs _ _ _ => 3 | .whl _ _ => 4 | .fr _ _ _ => 5 | .cont => 6 | .rais => 7
noncomputable def isNone : E → Bool
  | .none => true
  | _ => false

noncomputable def mtSP (f : Nat) (go : List S → List Stmt → Bool) (sc : Scope) (s : S) (q : Sp) : Bool := match s with
  | .expr e => isCall q.a && mtE f sc e q.a
  | .ret e => (match q.o with
    | some y => mtE f sc e y
    | Option.none => isNone e)
  | .asg t e => mtT f sc t q.a && mtE f sc e q.b && plainVal q.a q.b && nodupB (tgtB t)
  | .ifs c a b => mtE f sc c q.a && go a q.l && go b q.l2
  | .whl c b => mtE f sc c q.a && go b q.l
  | .fr t e b => mtB sc t q.a && mtIt (mtE f) sc e q.b && go b q.l
  | .cont => true
  | .rais => true
noncomputable def mtSs (ms : S → Stmt → Bool) : List S → List Stmt → Bool
  | [], [] => true
  | s :: ss, x :: xs => ms s x && mtSs ms ss xs
  | _, _ => false
noncomputable def mtS : Nat → Scope → S → Stmt → Bool
  | 0, _, _, _ => false
  | f + 1, sc, s, x => Nat.beq (sp x).k (sk s) && mtSP f (mtSs (mtS f sc)) sc s (sp x)
theorem ms_bk {f : Nat} {sc : Scope} {s : S} {x : Stmt} (h : mtS (f + 1) sc s x = true) : x = sbk (sk s) (sp x) ∧ mtSP f (mtSs (mtS f sc)) sc s (sp x) = true := ⟨by rw [← Nat.eq_of_beq_eq_true (and_l h)]; exact sbk_sp x, and_r h⟩

end Mini
end
section
set_option autoImplicit false
namespace Mini
open PySem PySem.Calls PyProof.Rows
open PySem.W (Frag dictOf Looks findIn typeIn keepIn makesIn plainGet hasDictIn plainOver getL nsIn codeIn clsIn alongIn mroIn)

/-! the facts of the head, to be checked by evaluation -/
noncomputable def biNames : List Str := ["len", "sum", "min", "max", "abs", "int", "list", "tuple", "dict", "isinstance", "range", "zip", "enumerate", "sorted", "super"]
noncomputable def vref? (v : Value) : Option Addr := match v with | .ref a => some a | _ => Option.none
noncomputable def vstr? (v : Value) : Option (Str × Tok) := match v with | .str a t => some (a, t) | _ => Option.none
noncomputable def vint? (v : Value) : Option (Int × Tok) := match v with | .int a t => some (a, t) | _ => Option.none
noncomputable def vbool? (v : Value) : Option Bool := match v with | .bool a => some a | _ => Option.none
noncomputable def isNoneV (v : Value) : Bool := match v with | .none => true | _ => false
set_option genInjectivity false in
set_option genSizeOf false in
/-- what is in an object, as far as it is asked -/
structure Dt where
  fn : Option FuncData := Option.none
  seq : Option (Array Value × Nat) := Option.none
  flds : Option (Array Value) := Option.none
  cell : Option (Option Value) := Option.none
noncomputable def dt (d : Data) : Dt := match d with
  | .func d => { fn := some d }
  | .seq xs n => { seq := some (xs, n) }
  | .fields xs => { flds := some xs }
  | .cell v => { cell := some v }
  | _ => {}
noncomputable def at? (K : Frag) {α : Type} (a : Addr) (g : Dt → Option α) : Option α := (K.lookup a).bind fun o => g (dt o.data)
mutual
noncomputable def chkVal (K : Frag) : Nat → V → Value → Bool
  | _, .none, x => isNoneV x
  | _, .bool b, x => (vbool? x).any fun c => b == c
  | _, .int i, x => (vint? x).any fun t => i == t.1
  | _, .str s, x => (vstr? x).any fun t => nm s == t.1
  | 0, .tup _, _ => false
  | f + 1, .tup l, x => (vref? x).any fun a => (K.lookup a).any fun o => o.cls == .type "tuple" && (dt o.data).seq.any fun q => chkVals K f l q.1.toList
  | _, .lst _, _ => false
  | _, .ref _, _ => false
noncomputable def chkVals (K : Frag) : Nat → List V → List Value → Bool
  | _, [], xs => xs.isEmpty
  | f, v :: vs, xs => xs.head?.any (fun x => chkVal K f v x) && chkVals K f vs xs.tail
end
noncomputable def localOrCell (k : Option NameKind) : Bool := k == some .local || k == some .cell
noncomputable def plainPar (p : Arguments) : Bool := p.posonlyargs.isEmpty && p.vararg.isNone && p.kwonlyargs.isEmpty && (p.kw_defaults.isEmpty && p.kwarg.isNone && p.defaults.isEmpty)
noncomputable def body? (b : FuncBody) : Option (List Stmt) := match b with | .stmts l => some l | .expr _ => Option.none
noncomputable def chkFd (K : Frag) (d : FuncData) (f : FDef) : Bool :=
  (plainPar d.params && d.params.args.map (·.arg) == f.params.map nm && nodupB f.params && isNoneV d.defaults) && (d.globals == mainGlobals && d.builtins == builtinsNs && d.scope.kind == .function && !d.scope.isGenerator) &&
  (!d.scope.isCoroutine && codeIn K d.code d.qualname && f.params.all (fun i => localOrCell (d.scope.names.lookup (nm i))) && d.closure.isEmpty) && (d.scope.names.all (fun p => !(p.2 == .free)) && (body? d.body).any fun st => mtSs (mtS 60 d.scope) f.body st)
noncomputable def chkFn (K : Frag) (a : Addr) (f : FDef) : Bool := keepIn K (.ref a) && (at? K a (·.fn)).any fun d => chkFd K d f
noncomputable def uno? {α : Type} (l : List α) : Option α := match l with | [x] => some x | _ => Option.none
noncomputable def des? {α : Type} (l : List α) : Option (α × List α) := match l with | x :: r => some (x, r) | _ => Option.none
noncomputable def S.sup? (s : S) : Option (Nat × Nat) := match s with | .expr (.sup c m) => some (c, m) | _ => Option.none
noncomputable def supCall (m : Nat) (x : Stmt) : Bool := Nat.beq (sp x).k 0 && (Nat.beq (pt (sp x).a).k 11 && ((pt (sp x).a).l.isEmpty && (Nat.beq (pt (pt (sp x).a).a).k 12 && ((pt (pt (sp x).a).a).s == nm m && ((pt (pt (sp x).a).a).p.endLine == (pt (sp x).a).p.line && (Nat.beq (pt (pt (pt (sp x).a).a).a).k 11 &&
  ((pt (pt (pt (sp x).a).a).a).l.isEmpty && (Nat.beq (pt (pt (pt (pt (sp x).a).a).a).a).k 15 && (pt (pt (pt (pt (sp x).a).a).a).a).s == ("super" : Str)))))))))
noncomputable def chkCell (K : Frag) (cc clsA : Addr) : Bool := (at? K cc (·.cell)).any fun v => v.any fun x => (vref? x).any fun a => a == clsA
noncomputable def chkCode (prog : Program) (K : Frag) (cd : Value) : Bool := (vref? cd).any fun cda => (at? K cda (·.flds)).any fun vs => (vs : Array Value)[2]?.any fun v => (vstr? v).any fun f => (prog.main.file : Str) == f.1
noncomputable def chkF2 (K : Frag) (P : Prog) (c2 m2 : Nat) (v : Value) : Bool := (vref? v).any fun f2 => typeIn K (.ref f2) == some (.type "function") && keepIn K (.ref f2) && (lk P.classes c2).any fun ms2 => (lk ms2 m2).any fun f2d => chkFn K f2 f2d
noncomputable def chkSupD (prog : Program) (K : Frag) (P : Prog) (clsA : Addr) (c2 m2 : Nat) (b2 : List S) (d : FuncData) : Bool :=
  (plainPar d.params && isNoneV d.defaults && d.globals == mainGlobals && d.builtins == builtinsNs) && (d.scope.kind == .function && !d.scope.isGenerator && !d.scope.isCoroutine && codeIn K d.code d.qualname) &&
  (d.scope.names.lookup (nm n_self) == some .local && d.scope.names.lookup ("super" : Str) == some .globalImplicit && d.scope.names.lookup ("__class__" : Str) == some .free && d.scope.names.all (fun p => !(p.2 == .cell) && (!(p.2 == .free) || p.1 == ("__class__" : Str)))) &&
  ((chkCode prog K d.code && mroIn K clsA (.ref clsA) == some true && !(prog.main.scope.names.lookup ("super" : Str)).isSome && nsIn K cStatics "thirdparty.any" == some none) && (!(nm m2 == ("__class__" : Str)) &&
    (uno? d.params.args).any (fun ar => ar.arg == nm n_self) && (uno? d.closure).any (fun x => x.1 == ("__class__" : Str) && chkCell K x.2 clsA) && (body? d.body).any fun st => (des? st).any fun x => supCall m2 x.1 && mtSs (mtS 60 d.scope) b2 x.2) &&
    (clsIn K clsA).any fun cd => (alongIn K (nm m2) ((cd.mro.dropWhile (· != .ref clsA)).drop 1)).any fun v => v.any (chkF2 K P c2 m2))
noncomputable def chkSup (prog : Program) (K : Frag) (P : Prog) (clsA a : Addr) (f : FDef) : Bool := (uno? f.params).any (fun i => Nat.beq i n_self) && (des? f.body).any fun b => b.1.sup?.any fun x => (at? K a (·.fn)).any (chkSupD prog K P clsA x.1 x.2 b.2)
noncomputable def mgRef (K : Frag) (i : Nat) : Option Addr := (nsIn K mainGlobals (nm i)).bind fun v => v.bind vref?
noncomputable def clsOf (K : Frag) (c : Nat) : Addr := (mgRef K c).getD 0
noncomputable def inRef (K : Frag) (clsA : Addr) (x : Str) : Option Addr := (findIn K (.ref clsA) x).bind fun v => v.bind vref?
noncomputable def chkMeth (K : Frag) (clsA : Addr) (m : Nat) (f : FDef) : Bool := (inRef K clsA (nm m)).any fun a => typeIn K (.ref a) == some (.type "function") && (Nat.beq m n_init || chkFn K a f)
noncomputable def chkInit (prog : Program) (K : Frag) (P : Prog) (clsA : Addr) (f : FDef) : Bool := (inRef K clsA "__init__").any fun a => typeIn K (.ref a) == some (.type "function") && (chkFn K a f || chkSup prog K P clsA a f)
noncomputable def chkCls (prog : Program) (K : Frag) (P : Prog) (c : Nat) (ms : List (Nat × FDef)) : Bool :=
  ((mgRef K c).any (fun a => a == clsOf K c) && makesIn K (clsOf K c) && keepIn K (.ref (clsOf K c)) && plainGet K (clsOf K c) Str.empty) && (hasDictIn K (clsOf K c) &&
  findIn K (.ref (clsOf K c)) "__setattr__" == some (some (.builtin "object.__setattr__")) && plainOver K (clsOf K c) && P.attrs.all (fun a => findIn K (.ref (clsOf K c)) (nm a) == some none)) && (ms.all (fun p => chkMeth K (clsOf K c) p.1 p.2) &&
  ms.all (fun p => !(Nat.beq p.1 n_init) || chkInit prog K P (clsOf K c) p.2))
noncomputable def chkGlob (K : Frag) (i : Nat) (f : FDef) : Bool := (mgRef K i).any fun a => chkFn K a f
noncomputable def chkConst (K : Frag) (i : Nat) (v : V) : Bool := (nsIn K mainGlobals (nm i)).any fun x => x.any (chkVal K 5 v)
noncomputable def chkAll (prog : Program) (K : Frag) (P : Prog) : Bool :=
  P.consts.all (fun p => chkConst K p.1 p.2) && P.funs.all (fun p => chkGlob K p.1 p.2) && P.classes.all (fun p => chkCls prog K P p.1 p.2) && biNames.all (fun x => nsIn K mainGlobals x == some none)
end Mini
end
section
-- printed by gen.py out of the text of law 2
namespace Mini.L2
open Mini
/-- law(script) -/
noncomputable def law : FDef := ⟨[128026154263411],
  [.asg (.var 1801675123) (.dict .s [.str 495740282211, .str 1650553447] [.comp (.bin .mod (.bi .abs [.var 1819043171]) (.num 1000003)) [.mk (.var 1819043171) (.slice (.var 128026154263411) Option.none (some (.num 30))) []], .num 0]),
  .asg (.var 435643835251) (.call 478995462427816604298335 [.var 1801675123]),
  .asg (.sub (.var 435643835251) (.str 495774233972)) (.bi .int [.cmp (.bin .mod (.bin .sub (.sub (.var 435643835251) (.str 448630452852)) (.sub (.var 435643835251) (.str 99))) (.num 2)) [.eq] [.num 1]]),
  .ret (.and [.call 2036279038482358763468896052800607 [.var 1801675123, .var 435643835251], .call 2036279038482358763468896052800607 [.var 1801675123, .var 435643835251]])]⟩
/-- _law_scene(sack) -/
noncomputable def law_scene : FDef := ⟨[1801675123],
  [.asg (.tup [1802396002, 1701079415]) (.tup [.new 7741231747428410708 [], .bin .add (.num 1) (.call 1814802707652282510431 [.var 1801675123, .num 3])]),
  .asg (.var 1701998445) (.bin .add (.num 1) (.call 1814802707652282510431 [.var 1801675123, .num 3])),
  .asg (.tup [120, 121]) (.tup [.meth (.var 1802396002) 140780504389038964637790822 [.str 120, .meth (.var 1802396002) 32776920301008482 [.var 1701079415]], .meth (.var 1802396002) 140780504389038964637790822 [.str 121, .meth (.var 1802396002) 32776920301008482 [.var 1701079415]]]),
  .asg (.tup [122, 99]) (.tup [.meth (.var 1802396002) 140780504389038964637790822 [.str 122, .meth (.var 1802396002) 32776920301008482 [.var 1701998445]], .meth (.var 1802396002) 140780504389038964637790822 [.str 99, .cst 1280266050]]),
  .asg (.tup [1701077357, 448630452852]) (.tup [.dict .i [.var 99] [.tup [.str 448630452852, .num 0, .var 99]], .var 99]),
  .fr (.var 7364972) (.range [.call 1814802707652282510431 [.var 1801675123, .num 3]])
    [.asg (.var 448630452852) (.meth (.var 1802396002) 1701536109 [.str 7630702, .tup [.var 448630452852], .cst 1280266050, .num 0])],
  .asg (.var 7824742) (.call 1814802707652282510431 [.var 1801675123, .num 4]),
  .fr (.var 105) (.range [.var 1701079415])
    [.ifs (.cmp (.bin .mod (.bin .add (.var 7824742) (.var 105)) (.num 2)) [.eq] [.num 1])
      [.asg (.sub (.var 1701077357) (.meth (.var 1802396002) 1701536109 [.str 7629154, .tup [.var 120], .cst 1280266050, .var 105])) (.tup [.str 7629154, .var 105, .var 120]),
      .asg (.sub (.var 1701077357) (.meth (.var 1802396002) 1701536109 [.str 521611141475, .tup [.var 120, .var 121], .cst 1280266050, .var 105])) (.tup [.str 521611141475, .var 105, .var 120, .var 121])]
      [],
    .ifs (.cmp (.var 7824742) [.gt] [.num 1])
      [.asg (.sub (.var 1701077357) (.meth (.var 1802396002) 1701536109 [.str 512970483042, .tup [.var 120, .var 121], .cst 1280266050, .var 105])) (.tup [.str 512970483042, .var 105, .var 120, .var 121]),
      .asg (.sub (.var 1701077357) (.meth (.var 1802396002) 1701536109 [.str 7629154, .tup [.var 121], .cst 1280266050, .var 105])) (.tup [.str 7629154, .var 105, .var 121])]
      []],
  .ret (.dict .s [.str 1802396002, .str 120, .str 121, .str 122, .str 99, .str 448630452852, .str 1701077357, .str 1701079415, .str 1701998445] [.var 1802396002, .var 120, .var 121, .var 122, .var 99, .var 448630452852, .var 1701077357, .var 1701079415, .var 1701998445])]⟩
/-- _law_is_wanted(sack, scene) -/
noncomputable def law_is_wanted : FDef := ⟨[1801675123, 435643835251],
  [.asg (.tup [1802396002, 1701077357, 435526333802]) (.tup [.sub (.var 435643835251) (.str 1802396002), .sub (.var 435643835251) (.str 1701077357), .new 7306919375355013442 [.sub (.var 435643835251) (.str 1802396002)]]),
  .asg (.tup [28783, 1684957547, 1701670771, 1635017060, 105]) (.call 474107512077656218758239 [.var 1801675123, .var 435643835251]),
  .asg (.var 2037277037) (.meth (.var 1802396002) 1702521203 []),
  .fr (.var 491327616111) (.cst 544924775945654650367071)
    [.ifs (.and [.cmp (.var 491327616111) [.ne] [.var 1684957547], .cmp (.meth (.var 435526333802) 549738508635343760023927 [.var 28783, .var 1701670771, .var 1635017060, .var 105, .var 491327616111]) [.isnot] [.none]])
      [.ret (.bool false)]
      []],
  .ifs (.cmp (.var 1684957547) [.eq] [.str 1701736302])
    [.ret (.bool true)]
    [],
  .asg (.var 1818324839) (.meth (.var 435526333802) 549738508635343760023927 [.var 28783, .var 1701670771, .var 1635017060, .var 105, .var 1684957547]),
  .fr (.var 1836020833) (.call 545090871785141701799007 [.var 1818324839])
    [.ifs (.or [.and [.not (.bi .isInt [.var 1836020833]), .inVals (.var 1836020833) (.var 1701077357)], .and [.bi .isInt [.var 1836020833], .cmp (.var 1836020833) [.notin] [.var 1701077357]]])
      [.ret (.bool false)]
      [],
    .asg (.var 1684828020) (.meth (.var 1701077357) 7628135 [.var 1836020833, .var 1836020833]),
    .ifs (.or [.and [.cmp (.sub (.var 1684828020) (.num 0)) [.isin] [.tup [.str 521611141475, .str 512970483042]], .cmp (.tup [.sub (.var 1684828020) (.num 0), .sub (.var 1684828020) (.num 1)]) [.ne] [.tup [.ite (.cmp (.var 28783) [.eq] [.str 431180838498]) (.str 521611141475) (.str 512970483042), .var 105]]], .and [.cmp (.sub (.var 1684828020) (.num 1)) [.eq] [.num 0], .cmp (.sub (.var 1684828020) (.num 0)) [.isin] [.tup [.str 521611141475, .str 512970483042]]]])
      [.ret (.bool false)]
      []],
  .asg (.var 7368564) (.bin .pow (.num 2) (.sub (.var 435643835251) (.str 1701079415))),
  .fr (.var 120) (.range [.var 7368564])
    [.fr (.var 121) (.range [.ite (.and [.cmp (.bi .len [.var 1701670771]) [.gt] [.num 1], .cmp (.var 28783) [.ne] [.str 127961628831587]]) (.var 7368564) (.num 1)])
      [.fr (.var 122) (.range [.ite (.cmp (.var 28783) [.eq] [.str 127961628831587]) (.bin .pow (.num 2) (.sub (.var 435643835251) (.str 1701998445))) (.num 1)])
        [.fr (.var 99) (.ite (.cmp (.var 28783) [.eq] [.str 6648937]) (.tup [.num 0, .num 1]) (.tup [.num 0]))
          [.asg (.var 126879598928246) (.dict .i [.sub (.var 435643835251) (.str 120), .sub (.var 435643835251) (.str 121), .sub (.var 435643835251) (.str 122), .sub (.var 435643835251) (.str 99)] [.var 120, .var 121, .var 122, .var 99]),
          .ifs (.cmp (.call 30151164477008373402952625247 [.var 1818324839, .var 1701077357, .var 126879598928246]) [.ne] [.cmp (.bin .mod (.bin .fdiv (.call 138296318119088462332259423 [.var 28783, .var 435643835251, .var 126879598928246, .var 1635017060]) (.bin .pow (.num 2) (.var 105))) (.num 2)) [.eq] [.num 1]])
            [.ret (.bool false)]
            []]]]],
  .ret (.cmp (.meth (.var 1802396002) 1702521203 []) [.eq] [.var 2037277037])]⟩
/-- _law_grab(sack, many) -/
noncomputable def law_grab : FDef := ⟨[1801675123, 2037277037],
  [.asg (.var 1650553447) (.sub (.var 1801675123) (.str 1650553447)),
  .asg (.sub (.var 1801675123) (.str 1650553447)) (.bin .add (.var 1650553447) (.num 1)),
  .ifs (.cmp (.var 1650553447) [.lt] [.bi .len [.sub (.var 1801675123) (.str 495740282211)]])
    [.ret (.bin .mod (.sub (.sub (.var 1801675123) (.str 495740282211)) (.var 1650553447)) (.var 2037277037))]
    [],
  .ret (.bin .mod (.bin .add (.bin .add (.bin .mul (.num 3) (.var 1650553447)) (.bin .fdiv (.bin .mul (.var 1650553447) (.var 1650553447)) (.num 4))) (.num 2)) (.var 2037277037))]⟩
/-- TermBank.__init__(self) -/
noncomputable def TermBank_init : FDef := ⟨[1718379891],
  [.expr (.sup 507329363804909999060302 6872339552563453791),
  .asg (.attr (.var 1718379891) 545182379876308767176290) (.dict .i [] [])]⟩
/-- Bank.fresh_const(self, name, s) -/
noncomputable def Bank_fresh_const : FDef := ⟨[1718379891, 1701667182, 115],
  [.ret (.meth (.var 1718379891) 1701536109 [.str 7368801, .tup [], .var 115, .meth (.var 1718379891) 133536245478026645088724324 [.var 1701667182, .tup [], .var 115]])]⟩
/-- TermBank.bv_sort(self, width) -/
noncomputable def TermBank_bv_sort : FDef := ⟨[1718379891, 448629336439],
  [.ifs (.cmp (.var 448629336439) [.lt] [.num 1])
    [.rais]
    [],
  .ifs (.cmp (.var 448629336439) [.gt] [.cst 92716621121879])
    [.rais]
    [],
  .ifs (.cmp (.var 448629336439) [.notin] [.attr (.var 1718379891) 545182379876308767176290])
    [.expr (.meth (.attr (.var 1718379891) 544943148383632993972083) 110425311047777 [.fmt 152949257266967150092072 (.var 448629336439) 41]),
    .expr (.meth (.attr (.var 1718379891) 139519742427658876708089715) 110425311047777 [.var 448629336439]),
    .asg (.sub (.attr (.var 1718379891) 545182379876308767176290) (.var 448629336439)) (.bin .sub (.bi .len [.attr (.var 1718379891) 544943148383632993972083]) (.num 1))]
    [],
  .ret (.sub (.attr (.var 1718379891) 545182379876308767176290) (.var 448629336439))]⟩
/-- Bank.make(self, op, args, sort, data) -/
noncomputable def Bank_make : FDef := ⟨[1718379891, 28783, 1936159329, 1953656691, 1635017060],
  [.asg (.var 7955819) (.tup [.var 28783, .var 1936159329, .var 1953656691, .var 1635017060]),
  .asg (.var 431349919590) (.meth (.attr (.var 1718379891) 32495402090329454) 7628135 [.var 7955819, .num 0]),
  .ifs (.cmp (.var 431349919590) [.eq] [.num 0])
    [.asg (.var 431349919590) (.bi .len [.attr (.var 1718379891) 8318270967402095988]),
    .expr (.meth (.attr (.var 1718379891) 8318270967402095988) 110425311047777 [.var 28783]),
    .expr (.meth (.attr (.var 1718379891) 2128829695872336029044) 110425311047777 [.var 1936159329]),
    .expr (.meth (.attr (.var 1718379891) 545220213778855941530996) 110425311047777 [.var 1953656691]),
    .expr (.meth (.attr (.var 1718379891) 544869865799501187540340) 110425311047777 [.var 1635017060]),
    .asg (.sub (.attr (.var 1718379891) 32495402090329454) (.var 7955819)) (.var 431349919590)]
    [],
  .ret (.var 431349919590)]⟩
/-- _law_asked(sack, scene) -/
noncomputable def law_asked : FDef := ⟨[1801675123, 435643835251],
  [.asg (.tup [28783, 1684957547]) (.sub (.cst 2129981791643877076063) (.call 1814802707652282510431 [.var 1801675123, .num 13])),
  .asg (.tup [1701079415, 120, 121]) (.tup [.sub (.var 435643835251) (.str 1701079415), .sub (.var 435643835251) (.str 120), .sub (.var 435643835251) (.str 121)]),
  .asg (.tup [1701670771, 1635017060, 2037277037]) (.tup [.tup [.var 120, .var 121], .num 0, .var 1701079415]),
  .ifs (.cmp (.var 28783) [.eq] [.str 470121608802])
    [.asg (.tup [1701670771, 1635017060]) (.tup [.tup [], .call 1814802707652282510431 [.var 1801675123, .bin .pow (.num 2) (.var 1701079415)]])]
    [.ifs (.cmp (.var 28783) [.eq] [.str 6648937])
      [.asg (.var 1701670771) (.tup [.sub (.var 435643835251) (.str 448630452852), .var 120, .var 121])]
      [.ifs (.cmp (.var 28783) [.eq] [.str 127961628831587])
        [.asg (.tup [1701670771, 2037277037]) (.tup [.tup [.var 120, .sub (.var 435643835251) (.str 122)], .bin .add (.var 1701079415) (.sub (.var 435643835251) (.str 1701998445))])]
        [.ifs (.cmp (.var 28783) [.eq] [.str 32760367481649253])
          [.asg (.var 7827308) (.call 1814802707652282510431 [.var 1801675123, .var 1701079415]),
          .asg (.tup [1701670771, 1635017060, 2037277037]) (.tup [.tup [.var 120], .tup [.bin .sub (.var 1701079415) (.num 1), .var 7827308], .bin .sub (.var 1701079415) (.var 7827308)])]
          [.ifs (.cmp (.var 28783) [.isin] [.tup [.str 500085716578, .str 121413913788299389279823226, .str 121413913788299389262326131]])
            [.asg (.tup [1701670771, 2037277037]) (.tup [.tup [.var 120], .bin .add (.var 1701079415) (.ite (.cmp (.var 28783) [.eq] [.str 500085716578]) (.num 0) (.num 2))])]
            []]]]],
  .ret (.tup [.var 28783, .var 1684957547, .var 1701670771, .var 1635017060, .call 1814802707652282510431 [.var 1801675123, .var 2037277037]])]⟩
/-- _law_atoms(formula) -/
noncomputable def law_atoms : FDef := ⟨[27422324344123238],
  [.ifs (.cmp (.sub (.var 27422324344123238) (.num 0)) [.eq] [.str 1836020833])
    [.ret (.list false [.sub (.var 27422324344123238) (.num 1)])]
    [],
  .ret (.comp (.var 1836020833) [.mk (.var 1953653104) (.slice (.var 27422324344123238) (some (.num 1)) Option.none) [], .mk (.var 1836020833) (.call 545090871785141701799007 [.var 1953653104]) []])]⟩
/-- _law_formula(formula, made, values) -/
noncomputable def law_formula : FDef := ⟨[27422324344123238, 1701077357, 126879598928246],
  [.ifs (.cmp (.sub (.var 27422324344123238) (.num 0)) [.eq] [.str 1836020833])
    [.ret (.call 122613431331884131000872031 [.meth (.var 1701077357) 7628135 [.sub (.var 27422324344123238) (.num 1), .sub (.var 27422324344123238) (.num 1)], .var 126879598928246])]
    [],
  .ifs (.cmp (.bi .len [.var 27422324344123238]) [.eq] [.num 1])
    [.ret (.cmp (.sub (.var 27422324344123238) (.num 0)) [.eq] [.str 1702195828])]
    [],
  .asg (.var 1701670771) (.comp (.call 30151164477008373402952625247 [.var 1953653104, .var 1701077357, .var 126879598928246]) [.mk (.var 1953653104) (.slice (.var 27422324344123238) (some (.num 1)) Option.none) []]),
  .ifs (.cmp (.sub (.var 27422324344123238) (.num 0)) [.eq] [.str 7630702])
    [.ret (.cmp (.var 1701670771) [.eq] [.list false [.bool false]])]
    [],
  .ret (.sub (.dict .s [.str 6581857, .str 29295, .str 7499640, .str 6710889] [.cmp (.bi .sum [.var 1701670771]) [.eq] [.num 2], .cmp (.bi .sum [.var 1701670771]) [.gt] [.num 0], .cmp (.bi .sum [.var 1701670771]) [.eq] [.num 1], .cmp (.bi .sum [.var 1701670771]) [.ne] [.num 1]]) (.sub (.var 27422324344123238) (.num 0)))]⟩
/-- _law_number(op, scene, values, data) -/
noncomputable def law_number : FDef := ⟨[28783, 435643835251, 126879598928246, 1635017060],
  [.asg (.tup [120, 121, 122]) (.tup [.sub (.var 126879598928246) (.sub (.var 435643835251) (.str 120)), .sub (.var 126879598928246) (.sub (.var 435643835251) (.str 121)), .sub (.var 126879598928246) (.sub (.var 435643835251) (.str 122))]),
  .ifs (.cmp (.var 28783) [.eq] [.str 6648937])
    [.ret (.ite (.cmp (.sub (.var 126879598928246) (.sub (.var 435643835251) (.str 99))) [.ne] [.sub (.var 435643835251) (.str 495774233972)]) (.var 120) (.var 121))]
    [],
  .ifs (.cmp (.var 28783) [.eq] [.str 121413913788299389262326131])
    [.ret (.bin .sub (.var 120) (.bin .mul (.bin .pow (.num 2) (.sub (.var 435643835251) (.str 1701079415))) (.bi .int [.cmp (.var 120) [.ge] [.bin .pow (.num 2) (.bin .sub (.sub (.var 435643835251) (.str 1701079415)) (.num 1))]])))]
    [],
  .asg (.var 1937008994) (.bi .sum [.comp (.bin .mul (.bin .pow (.num 2) (.var 107)) (.bi .int [.cmp (.tup [.var 28783, .bin .add (.bin .mod (.bin .fdiv (.var 120) (.bin .pow (.num 2) (.var 107))) (.num 2)) (.bin .mod (.bin .fdiv (.var 121) (.bin .pow (.num 2) (.var 107))) (.num 2))]) [.isin] [.tup [.tup [.str 431348610658, .num 2], .tup [.str 1919907426, .num 1], .tup [.str 1919907426, .num 2], .tup [.str 491496437346, .num 1]]]])) [.mk (.var 107) (.range [.num 3]) []]]),
  .ret (.meth (.dict .s [.str 470121608802, .str 500085716578, .str 431180838498, .str 422877296226, .str 127961628831587, .str 32760367481649253, .str 121413913788299389279823226] [.var 1635017060, .bin .sub (.neg (.num 1)) (.var 120), .bin .add (.var 120) (.var 121), .bin .sub (.var 120) (.var 121), .bin .add (.bin .mul (.var 120) (.bin .pow (.num 2) (.sub (.var 435643835251) (.str 1701998445)))) (.var 122), .bin .fdiv (.var 120) (.bin .pow (.num 2) (.ite (.cmp (.var 28783) [.eq] [.str 32760367481649253]) (.sub (.var 1635017060) (.num 1)) (.num 0))), .var 120]) 7628135 [.var 28783, .var 1937008994])]⟩
/-- Bank.size(self) -/
noncomputable def Bank_size : FDef := ⟨[1718379891],
  [.ret (.bin .sub (.bi .len [.attr (.var 1718379891) 8318270967402095988]) (.num 1))]⟩
/-- BitJudge.__init__(self, bank) -/
noncomputable def BitJudge_init : FDef := ⟨[1718379891, 1802396002],
  [.asg (.attr (.var 1718379891) 1802396002) (.var 1802396002),
  .asg (.attr (.var 1718379891) 126879447277940) (.dict .t [] [])]⟩
/-- BitJudge.wanted_bit(self, op, some, data, i, kind) -/
noncomputable def BitJudge_wanted_bit : FDef := ⟨[1718379891, 28783, 1701670771, 1635017060, 105, 1684957547],
  [.ifs (.and [.cmp (.var 1684957547) [.eq] [.str 125779768604014], .cmp (.var 28783) [.eq] [.str 470121608802]])
    [.ret (.ite (.cmp (.bin .mod (.bin .shr (.var 1635017060) (.var 105)) (.num 2)) [.eq] [.num 1]) (.tup [.str 1702195828]) (.tup [.str 435728179558]))]
    [],
  .ifs (.and [.cmp (.var 1684957547) [.eq] [.str 7630702], .cmp (.var 28783) [.eq] [.str 500085716578]])
    [.ret (.tup [.str 7630702, .meth (.var 1718379891) 7629154 [.var 105, .sub (.var 1701670771) (.num 0)]])]
    [],
  .ifs (.and [.cmp (.var 1684957547) [.isin] [.tup [.str 6581857, .str 29295, .str 7499640]], .cmp (.var 28783) [.eq] [.bin .add (.str 30306) (.var 1684957547)]])
    [.ret (.tup [.var 1684957547, .meth (.var 1718379891) 7629154 [.var 105, .sub (.var 1701670771) (.num 0)], .meth (.var 1718379891) 7629154 [.var 105, .sub (.var 1701670771) (.num 1)]])]
    [],
  .ifs (.and [.cmp (.var 1684957547) [.eq] [.str 7173491], .cmp (.var 28783) [.eq] [.str 431180838498]])
    [.asg (.tup [120, 121]) (.var 1701670771),
    .ret (.tup [.str 7499640, .tup [.str 7499640, .meth (.var 1718379891) 7629154 [.var 105, .var 120], .meth (.var 1718379891) 7629154 [.var 105, .var 121]], .meth (.var 1718379891) 1701079411 [.str 521611141475, .var 105, .var 120, .var 121]])]
    [],
  .ifs (.and [.cmp (.var 1684957547) [.eq] [.str 478793197323228067293540], .cmp (.var 28783) [.eq] [.str 422877296226]])
    [.asg (.tup [120, 121]) (.var 1701670771),
    .ret (.tup [.str 7499640, .tup [.str 7499640, .meth (.var 1718379891) 7629154 [.var 105, .var 120], .meth (.var 1718379891) 7629154 [.var 105, .var 121]], .meth (.var 1718379891) 1701079411 [.str 512970483042, .var 105, .var 120, .var 121]])]
    [],
  .ifs (.and [.cmp (.var 1684957547) [.eq] [.str 6648937], .cmp (.var 28783) [.eq] [.str 6648937]])
    [.asg (.var 99) (.meth (.var 1718379891) 110386806745459 [.sub (.var 1701670771) (.num 0)]),
    .asg (.var 111477645076579) (.ite (.cmp (.var 99) [.gt] [.num 0]) (.tup [.str 1836020833, .bi .abs [.var 99]]) (.tup [.str 7630702, .tup [.str 1836020833, .bi .abs [.var 99]]])),
    .asg (.tup [120, 121]) (.tup [.meth (.var 1718379891) 7629154 [.var 105, .sub (.var 1701670771) (.num 1)], .meth (.var 1718379891) 7629154 [.var 105, .sub (.var 1701670771) (.num 2)]]),
    .ret (.tup [.str 29295, .tup [.str 6581857, .var 111477645076579, .var 120], .tup [.str 6581857, .tup [.str 7630702, .var 111477645076579], .var 121]])]
    [],
  .ret (.ite (.cmp (.var 1684957547) [.eq] [.str 1701996919]) (.meth (.var 1718379891) 2147416049356811430263 [.var 28783, .var 1701670771, .var 1635017060, .var 105]) (.none))]⟩
/-- Bank.__init__(self) -/
noncomputable def Bank_init : FDef := ⟨[1718379891],
  [.asg (.attr (.var 1718379891) 544943148383632993972083) (.list true [.str 1819242306, .str 7630409, .str 1818322258]),
  .asg (.attr (.var 1718379891) 139519742427658876708089715) (.list true [.num 0, .num 0, .num 0]),
  .asg (.attr (.var 1718379891) 2128684173373565990246) (.list true []),
  .asg (.attr (.var 1718379891) 8315740999501378918) (.list true []),
  .asg (.attr (.var 1718379891) 139576264479274861228619110) (.list true []),
  .asg (.attr (.var 1718379891) 140757021683833132378583654) (.num 0),
  .asg (.attr (.var 1718379891) 8318270967402095988) (.list true [.str 0]),
  .asg (.attr (.var 1718379891) 2128829695872336029044) (.list true [.tup []]),
  .asg (.attr (.var 1718379891) 545220213778855941530996) (.list true [.cst 1280266050]),
  .asg (.attr (.var 1718379891) 544869865799501187540340) (.list true [.num 0]),
  .asg (.attr (.var 1718379891) 32495402090329454) (.dict .t [] []),
  .asg (.attr (.var 1718379891) 138296318119088462031581812) (.meth (.var 1718379891) 1701536109 [.str 1702195828, .tup [], .cst 1280266050, .num 0]),
  .asg (.attr (.var 1718379891) 35403857438486646280050991462) (.meth (.var 1718379891) 1701536109 [.str 435728179558, .tup [], .cst 1280266050, .num 0])]⟩
/-- Bank.declare_fun(self, name, arg_sorts, result) -/
noncomputable def Bank_declare_fun : FDef := ⟨[1718379891, 1701667182, 2129766460073655628385, 128009175786866],
  [.expr (.meth (.attr (.var 1718379891) 2128684173373565990246) 110425311047777 [.var 1701667182]),
  .expr (.meth (.attr (.var 1718379891) 8315740999501378918) 110425311047777 [.bi .tuple [.var 2129766460073655628385]]),
  .expr (.meth (.attr (.var 1718379891) 139576264479274861228619110) 110425311047777 [.var 128009175786866]),
  .ret (.bin .sub (.bi .len [.attr (.var 1718379891) 2128684173373565990246]) (.num 1))]⟩
/-- _law_single(atom, values) -/
noncomputable def law_single : FDef := ⟨[1836020833, 126879598928246],
  [.ifs (.cmp (.sub (.var 1836020833) (.num 0)) [.eq] [.str 448630452852])
    [.ret (.cmp (.sub (.var 126879598928246) (.sub (.var 1836020833) (.num 2))) [.eq] [.num 1])]
    [],
  .asg (.var 7827308) (.bin .pow (.num 2) (.sub (.var 1836020833) (.num 1))),
  .ifs (.cmp (.sub (.var 1836020833) (.num 0)) [.eq] [.str 7629154])
    [.ret (.cmp (.bin .mod (.bin .fdiv (.sub (.var 126879598928246) (.sub (.var 1836020833) (.num 2))) (.var 7827308)) (.num 2)) [.eq] [.num 1])]
    [],
  .asg (.tup [6647407, 491327616111]) (.tup [.bin .mod (.sub (.var 126879598928246) (.sub (.var 1836020833) (.num 2))) (.var 7827308), .bin .mod (.sub (.var 126879598928246) (.sub (.var 1836020833) (.num 3))) (.var 7827308)]),
  .ret (.ite (.cmp (.sub (.var 1836020833) (.num 0)) [.eq] [.str 521611141475]) (.cmp (.bin .add (.var 6647407) (.var 491327616111)) [.ge] [.var 7827308]) (.cmp (.var 6647407) [.lt] [.var 491327616111]))]⟩
/-- TermBank.bit(self, i, t) -/
noncomputable def TermBank_bit : FDef := ⟨[1718379891, 105, 116],
  [.expr (.meth (.var 1718379891) 2129763912419667501431 [.var 116, .str 7629154]),
  .ifs (.not (.cmp (.num 0) [.le, .lt] [.var 105, .meth (.var 1718379891) 448629336439 [.var 116]]))
    [.rais]
    [],
  .ret (.meth (.var 1718379891) 1701536109 [.str 7629154, .tup [.var 116], .cst 1280266050, .var 105])]⟩
/-- BitJudge.bit(self, i, t) -/
noncomputable def BitJudge_bit : FDef := ⟨[1718379891, 105, 116],
  [.ret (.tup [.str 1836020833, .meth (.var 1718379891) 34169984019360098 [.var 105, .var 116]])]⟩
/-- BitJudge.side(self, op, i, a, b) -/
noncomputable def BitJudge_side : FDef := ⟨[1718379891, 28783, 105, 97, 98],
  [.ifs (.cmp (.var 105) [.eq] [.num 0])
    [.ret (.tup [.str 435728179558])]
    [],
  .asg (.var 431349919590) (.meth (.attr (.var 1718379891) 1802396002) 1870354334177672718694 [.var 28783, .tup [.var 97, .var 98], .cst 1280266050, .var 105]),
  .ret (.tup [.str 1836020833, .ite (.cmp (.var 431349919590) [.ne] [.num 0]) (.var 431349919590) (.tup [.var 28783, .var 105, .var 97, .var 98])])]⟩
/-- BitJudge.signed(self, t) -/
noncomputable def BitJudge_signed : FDef := ⟨[1718379891, 116],
  [.asg (.var 1852270963) (.num 1),
  .whl (.cmp (.meth (.attr (.var 1718379891) 1802396002) 28783 [.var 116]) [.eq] [.str 7630702])
    [.asg (.var 116) (.sub (.meth (.attr (.var 1718379891) 1802396002) 1936159329 [.var 116]) (.num 0)),
    .asg (.var 1852270963) (.neg (.var 1852270963))],
  .ret (.bin .mul (.var 1852270963) (.var 116))]⟩
/-- BitJudge.wired_bit(self, op, some, data, i) -/
noncomputable def BitJudge_wired_bit : FDef := ⟨[1718379891, 28783, 1701670771, 1635017060, 105],
  [.ifs (.cmp (.var 28783) [.eq] [.str 127961628831587])
    [.asg (.var 7827308) (.meth (.attr (.var 1718379891) 1802396002) 448629336439 [.sub (.var 1701670771) (.num 1)]),
    .ret (.ite (.cmp (.var 105) [.lt] [.var 7827308]) (.meth (.var 1718379891) 7629154 [.var 105, .sub (.var 1701670771) (.num 1)]) (.meth (.var 1718379891) 7629154 [.bin .sub (.var 105) (.var 7827308), .sub (.var 1701670771) (.num 0)]))]
    [],
  .ifs (.cmp (.var 28783) [.eq] [.str 32760367481649253])
    [.ret (.meth (.var 1718379891) 7629154 [.bin .add (.var 105) (.sub (.var 1635017060) (.num 1)), .sub (.var 1701670771) (.num 0)])]
    [],
  .ifs (.cmp (.var 28783) [.notin] [.tup [.str 121413913788299389279823226, .str 121413913788299389262326131]])
    [.ret (.none)]
    [],
  .asg (.var 448629336439) (.meth (.attr (.var 1718379891) 1802396002) 448629336439 [.sub (.var 1701670771) (.num 0)]),
  .ifs (.cmp (.var 105) [.lt] [.var 448629336439])
    [.ret (.meth (.var 1718379891) 7629154 [.var 105, .sub (.var 1701670771) (.num 0)])]
    [],
  .ret (.ite (.cmp (.var 28783) [.eq] [.str 121413913788299389279823226]) (.tup [.str 435728179558]) (.meth (.var 1718379891) 7629154 [.bin .sub (.var 448629336439) (.num 1), .sub (.var 1701670771) (.num 0)]))]⟩
/-- TermBank.want_bits(self, t, where) -/
noncomputable def TermBank_want_bits : FDef := ⟨[1718379891, 116, 435710945399],
  [.ifs (.cmp (.meth (.var 1718379891) 448629336439 [.var 116]) [.eq] [.num 0])
    [.rais]
    []]⟩
/-- Bank.width(self, t) -/
noncomputable def Bank_width : FDef := ⟨[1718379891, 116],
  [.ret (.sub (.attr (.var 1718379891) 139519742427658876708089715) (.sub (.attr (.var 1718379891) 545220213778855941530996) (.var 116)))]⟩
/-- BitJudge.bit_key(self, i, t) -/
noncomputable def BitJudge_bit_key : FDef := ⟨[1718379891, 105, 116],
  [.asg (.var 431349919590) (.meth (.attr (.var 1718379891) 1802396002) 1870354334177672718694 [.str 7629154, .tup [.var 116], .cst 1280266050, .var 105]),
  .ret (.ite (.cmp (.var 431349919590) [.ne] [.num 0]) (.var 431349919590) (.tup [.str 7629154, .var 105, .var 116]))]⟩
/-- Bank.find_made(self, op, args, sort, data) -/
noncomputable def Bank_find_made : FDef := ⟨[1718379891, 28783, 1936159329, 1953656691, 1635017060],
  [.ret (.meth (.attr (.var 1718379891) 32495402090329454) 7628135 [.tup [.var 28783, .var 1936159329, .var 1953656691, .var 1635017060], .num 0])]⟩
/-- Bank.op(self, t) -/
noncomputable def Bank_op : FDef := ⟨[1718379891, 116],
  [.ret (.sub (.attr (.var 1718379891) 8318270967402095988) (.var 116))]⟩
/-- Bank.args(self, t) -/
noncomputable def Bank_args : FDef := ⟨[1718379891, 116],
  [.ret (.sub (.attr (.var 1718379891) 2128829695872336029044) (.var 116))]⟩
noncomputable def funs : List (Nat × FDef) := [(7823724, law), (478995462427816604298335, law_scene), (2036279038482358763468896052800607, law_is_wanted), (1814802707652282510431, law_grab), (474107512077656218758239, law_asked), (545090871785141701799007, law_atoms), (30151164477008373402952625247, law_formula), (138296318119088462332259423, law_number), (122613431331884131000872031, law_single)]
noncomputable def classes : List (Nat × List (Nat × FDef)) := [
  (7741231747428410708, [(6872339552563453791, TermBank_init), (140780504389038964637790822, Bank_fresh_const), (32776920301008482, TermBank_bv_sort), (1701536109, Bank_make), (1702521203, Bank_size), (133536245478026645088724324, Bank_declare_fun), (7629154, TermBank_bit), (2129763912419667501431, TermBank_want_bits), (448629336439, Bank_width), (1870354334177672718694, Bank_find_made), (28783, Bank_op), (1936159329, Bank_args)]),
  (7306919375355013442, [(6872339552563453791, BitJudge_init), (549738508635343760023927, BitJudge_wanted_bit), (7629154, BitJudge_bit), (1701079411, BitJudge_side), (110386806745459, BitJudge_signed), (2147416049356811430263, BitJudge_wired_bit), (34169984019360098, BitJudge_bit_key)]),
  (507329363804909999060302, [(6872339552563453791, Bank_init), (140780504389038964637790822, Bank_fresh_const), (1701536109, Bank_make), (1702521203, Bank_size), (133536245478026645088724324, Bank_declare_fun), (448629336439, Bank_width), (1870354334177672718694, Bank_find_made), (28783, Bank_op), (1936159329, Bank_args)])]
noncomputable def consts : List (Nat × V) := [(1280266050, .int 0), (92716621121879, .int 4096), (544924775945654650367071, .tup [.str 125779768604014, .str 7630702, .str 6581857, .str 29295, .str 7499640, .str 7173491, .str 478793197323228067293540, .str 6648937, .str 1701996919, .str 465491554661, .str 521611141475]), (2129981791643877076063, .tup [.tup [.str 470121608802, .str 125779768604014], .tup [.str 500085716578, .str 7630702], .tup [.str 431348610658, .str 6581857], .tup [.str 1919907426, .str 29295], .tup [.str 491496437346, .str 7499640], .tup [.str 431180838498, .str 7173491], .tup [.str 422877296226, .str 478793197323228067293540], .tup [.str 6648937, .str 6648937], .tup [.str 127961628831587, .str 1701996919], .tup [.str 32760367481649253, .str 1701996919], .tup [.str 121413913788299389279823226, .str 1701996919], .tup [.str 121413913788299389262326131, .str 1701996919], .tup [.str 465826575970, .str 1701736302]])]
noncomputable def attrs : List Nat := [1802396002, 126879447277940, 32495402090329454, 8315740999501378918, 8318270967402095988, 2128684173373565990246, 2128829695872336029044, 544869865799501187540340, 544943148383632993972083, 545182379876308767176290, 545220213778855941530996, 138296318119088462031581812, 139519742427658876708089715, 139576264479274861228619110, 140757021683833132378583654, 35403857438486646280050991462]
noncomputable def P : Prog := ⟨funs, classes, consts, attrs⟩
end Mini.L2
end
section
open PySem PySem.W PyProof.Rows
set_option Elab.async true
set_option tactic.hygienic true
namespace PJ2
set_option maxRecDepth 100000
set_option maxHeartbeats 8000000
theorem law_holds.tw1000115304472493894 : True := ⟨⟩
theorem law_holds.tw10086225126851744555 : True := ⟨⟩
theorem law_holds.tw10089600601786759427 : True := ⟨⟩
theorem law_holds.tw10103860462500311118 : True := ⟨⟩
theorem law_holds.tw10105943321767109637 : True := ⟨⟩
theorem law_holds.tw10109398951465309236 : True := ⟨⟩
theorem law_holds.tw10137543016212656342 : True := ⟨⟩
theorem law_holds.tw1016350414029318190 : True := ⟨⟩
theorem law_holds.tw10165656715399632062 : True := ⟨⟩
theorem law_holds.tw10168310490933403609 : True := ⟨⟩
theorem law_holds.tw10174161971091483766 : True := ⟨⟩
theorem law_holds.tw10176850625405857045 : True := ⟨⟩
theorem law_holds.tw10182345113490111665 : True := ⟨⟩
theorem law_holds.tw1018491447526647594 : True := ⟨⟩
theorem law_holds.tw10199845427301436148 : True := ⟨⟩
theorem law_holds.tw10221427345180326061 : True := ⟨⟩
theorem law_holds.tw10260108110681700059 : True := ⟨⟩
theorem law_holds.tw10277643535218158538 : True := ⟨⟩
theorem law_holds.tw10297390268262295304 : True := ⟨⟩
theorem law_holds.tw10308213096581611606 : True := ⟨⟩
theorem law_holds.tw10345830497042881301 : True := ⟨⟩
theorem law_holds.tw10353070451800821821 : True := ⟨⟩
theorem law_holds.tw10357056723382028853 : True := ⟨⟩
theorem law_holds.tw10361948571016042104 : True := ⟨⟩
theorem law_holds.tw10362897698297714129 : True := ⟨⟩
theorem law_holds.tw1037297507613004345 : True := ⟨⟩
theorem law_holds.tw10388435678922467469 : True := ⟨⟩
theorem law_holds.tw10399759533116950005 : True := ⟨⟩
theorem law_holds.tw10401398377445181004 : True := ⟨⟩
theorem law_holds.tw10438753486695420284 : True := ⟨⟩
theorem law_holds.tw10443218017696571655 : True := ⟨⟩
theorem law_holds.tw10456518243457702150 : True := ⟨⟩
theorem law_holds.tw10503537225675757892 : True := ⟨⟩
theorem law_holds.tw10537410920024818001 : True := ⟨⟩
theorem law_holds.tw10544629739763385316 : True := ⟨⟩
theorem law_holds.tw10548140426227585116 : True := ⟨⟩
theorem law_holds.tw10558311441219105500 : True := ⟨⟩
theorem law_holds.tw10567589210870467671 : True := ⟨⟩
theorem law_holds.tw10581827427394638178 : True := ⟨⟩
theorem law_holds.tw10586999168257785672 : True := ⟨⟩
theorem law_holds.tw10594939124425180139 : True := ⟨⟩
theorem law_holds.tw10604794442131015825 : True := ⟨⟩
theorem law_holds.tw1060898560108420991 : True := ⟨⟩
theorem law_holds.tw10627782112693116643 : True := ⟨⟩
theorem law_holds.tw10642232681917308386 : True := ⟨⟩
theorem law_holds.tw10645976865055538376 : True := ⟨⟩
theorem law_holds.tw10652774157664745108 : True := ⟨⟩
theorem law_holds.tw1066354480618443546 : True := ⟨⟩
theorem law_holds.tw1068582454515139121 : True := ⟨⟩
theorem law_holds.tw10694580841487202616 : True := ⟨⟩
theorem law_holds.tw10708276918538097646 : True := ⟨⟩
theorem law_holds.tw10722640308823461638 : True := ⟨⟩
theorem law_holds.tw10723486144660111051 : True := ⟨⟩
theorem law_holds.tw1072531813078294675 : True := ⟨⟩
theorem law_holds.tw10732517384320513664 : True := ⟨⟩
theorem law_holds.tw10741326138239465241 : True := ⟨⟩
theorem law_holds.tw10742636461317646705 : True := ⟨⟩
theorem law_holds.tw10764941696157457708 : True := ⟨⟩
theorem law_holds.tw10776521224573497161 : True := ⟨⟩
theorem law_holds.tw10783621921698811873 : True := ⟨⟩
theorem law_holds.tw10790284039204956035 : True := ⟨⟩
theorem law_holds.tw1079857011471298737 : True := ⟨⟩
theorem law_holds.tw10805880590522132205 : True := ⟨⟩
theorem law_holds.tw10823583523339784009 : True := ⟨⟩
theorem law_holds.tw10825309628566513473 : True := ⟨⟩
theorem law_holds.tw10838388709021646920 : True := ⟨⟩
theorem law_holds.tw10858145185555673718 : True := ⟨⟩
theorem law_holds.tw10858497320923688941 : True := ⟨⟩
theorem law_holds.tw10861342465015618862 : True := ⟨⟩
theorem law_holds.tw10867219104206241737 : True := ⟨⟩
theorem law_holds.tw10873949029622395372 : True := ⟨⟩
theorem law_holds.tw10882977339032432619 : True := ⟨⟩
theorem law_holds.tw10894902825103284947 : True := ⟨⟩
theorem law_holds.tw10895863956503743469 : True := ⟨⟩
theorem law_holds.tw10900883857049810956 : True := ⟨⟩
theorem law_holds.tw10910729321223039271 : True := ⟨⟩
theorem law_holds.tw10915106213100313522 : True := ⟨⟩
theorem law_holds.tw10927884573211949999 : True := ⟨⟩
theorem law_holds.tw10951388782324405570 : True := ⟨⟩
theorem law_holds.tw1095524110119212075 : True := ⟨⟩
theorem law_holds.tw10958403278950858441 : True := ⟨⟩
theorem law_holds.tw10970852410786602224 : True := ⟨⟩
theorem law_holds.tw11010349990457293924 : True := ⟨⟩
theorem law_holds.tw11017639985046014225 : True := ⟨⟩
theorem law_holds.tw11060958353040176295 : True := ⟨⟩
theorem law_holds.tw11066189849378601086 : True := ⟨⟩
theorem law_holds.tw11076065117112087376 : True := ⟨⟩
theorem law_holds.tw11077865613917207807 : True := ⟨⟩
theorem law_holds.tw11091389312420661897 : True := ⟨⟩
theorem law_holds.tw11109336067606587511 : True := ⟨⟩
theorem law_holds.tw11109364599316968443 : True := ⟨⟩
theorem law_holds.tw11158642753395997431 : True := ⟨⟩
theorem law_holds.tw11165802516727247245 : True := ⟨⟩
theorem law_holds.tw11169170890454456327 : True := ⟨⟩
theorem law_holds.tw11177718201273864159 : True := ⟨⟩
theorem law_holds.tw11179775769002602041 : True := ⟨⟩
theorem law_holds.tw1118130679232250327 : True := ⟨⟩
theorem law_holds.tw11192779143964832898 : True := ⟨⟩
theorem law_holds.tw11211111227100069614 : True := ⟨⟩
theorem law_holds.tw11229168260678877288 : True := ⟨⟩
theorem law_holds.tw1123979283425485060 : True := ⟨⟩
theorem law_holds.tw11241862689352540623 : True := ⟨⟩
theorem law_holds.tw1130584848515890881 : True := ⟨⟩
theorem law_holds.tw1132244173629412351 : True := ⟨⟩
theorem law_holds.tw11335590003064009549 : True := ⟨⟩
theorem law_holds.tw11340336331998597997 : True := ⟨⟩
theorem law_holds.tw11369966121831715779 : True := ⟨⟩
theorem law_holds.tw11384303420657362504 : True := ⟨⟩
theorem law_holds.tw11385113384733679926 : True := ⟨⟩
theorem law_holds.tw1140848272798046779 : True := ⟨⟩
theorem law_holds.tw11409570835432020518 : True := ⟨⟩
theorem law_holds.tw11430126073061005626 : True := ⟨⟩
theorem law_holds.tw11449465354196558199 : True := ⟨⟩
theorem law_holds.tw11453036268881085419 : True := ⟨⟩
theorem law_holds.tw11461246212981384393 : True := ⟨⟩
theorem law_holds.tw11472162306304102586 : True := ⟨⟩
theorem law_holds.tw11487118103259380815 : True := ⟨⟩
theorem law_holds.tw11523128886898651741 : True := ⟨⟩
theorem law_holds.tw11543204637873225900 : True := ⟨⟩
theorem law_holds.tw11552296024868791974 : True := ⟨⟩
theorem law_holds.tw11552695449763038525 : True := ⟨⟩
theorem law_holds.tw11622872787099672418 : True := ⟨⟩
theorem law_holds.tw11635427155586339033 : True := ⟨⟩
theorem law_holds.tw11657589212900343149 : True := ⟨⟩
theorem law_holds.tw11665075023701011926 : True := ⟨⟩
theorem law_holds.tw11675929177389175841 : True := ⟨⟩
theorem law_holds.tw11689499402925306886 : True := ⟨⟩
theorem law_holds.tw11703383054793070270 : True := ⟨⟩
theorem law_holds.tw11712667196892748989 : True := ⟨⟩
theorem law_holds.tw11723293440232107231 : True := ⟨⟩
theorem law_holds.tw11745970981467576302 : True := ⟨⟩
theorem law_holds.tw11775372678503093236 : True := ⟨⟩
theorem law_holds.tw11776116141490674752 : True := ⟨⟩
theorem law_holds.tw11776729514251020736 : True := ⟨⟩
theorem law_holds.tw11779050549028493500 : True := ⟨⟩
theorem law_holds.tw11831743350664580912 : True := ⟨⟩
theorem law_holds.tw11849699608543342170 : True := ⟨⟩
theorem law_holds.tw11849971246220235246 : True := ⟨⟩
theorem law_holds.tw11859062120445122792 : True := ⟨⟩
theorem law_holds.tw11866833569877870910 : True := ⟨⟩
theorem law_holds.tw11871117615588593497 : True := ⟨⟩
theorem law_holds.tw11891099463667135803 : True := ⟨⟩
theorem law_holds.tw11896554906204792739 : True := ⟨⟩
theorem law_holds.tw11906596964427247596 : True := ⟨⟩
theorem law_holds.tw11921392434897050837 : True := ⟨⟩
theorem law_holds.tw11923978513547306792 : True := ⟨⟩
theorem law_holds.tw11953638165565291750 : True := ⟨⟩
theorem law_holds.tw12003287951165223580 : True := ⟨⟩
theorem law_holds.tw12017567379980574196 : True := ⟨⟩
theorem law_holds.tw12036848794758062229 : True := ⟨⟩
theorem law_holds.tw12043147467261866107 : True := ⟨⟩
theorem law_holds.tw1204465954895975391 : True := ⟨⟩
theorem law_holds.tw12045032019620232437 : True := ⟨⟩
theorem law_holds.tw12056890961330437485 : True := ⟨⟩
theorem law_holds.tw12057467185502660925 : True := ⟨⟩
theorem law_holds.tw12093780882547297725 : True := ⟨⟩
theorem law_holds.tw12098695018214982086 : True := ⟨⟩
theorem law_holds.tw12111320864636101750 : True := ⟨⟩
theorem law_holds.tw12111662738032848555 : True := ⟨⟩
theorem law_holds.tw12118590552329312081 : True := ⟨⟩
theorem law_holds.tw12122453457214998558 : True := ⟨⟩
theorem law_holds.tw12134892658541041625 : True := ⟨⟩
theorem law_holds.tw12139228861521670215 : True := ⟨⟩
theorem law_holds.tw12140621182576270707 : True := ⟨⟩
theorem law_holds.tw12145464562913776819 : True := ⟨⟩
theorem law_holds.tw12153764047181751624 : True := ⟨⟩
theorem law_holds.tw12160839518340828865 : True := ⟨⟩
theorem law_holds.tw12175532721484407775 : True := ⟨⟩
theorem law_holds.tw12196805878776933697 : True := ⟨⟩
theorem law_holds.tw1221144507684545194 : True := ⟨⟩
theorem law_holds.tw12213214144204930459 : True := ⟨⟩
theorem law_holds.tw12218239863076370567 : True := ⟨⟩
theorem law_holds.tw12221847271662440827 : True := ⟨⟩
theorem law_holds.tw12230549319025907670 : True := ⟨⟩
theorem law_holds.tw12240924100495611968 : True := ⟨⟩
theorem law_holds.tw12250235061424044557 : True := ⟨⟩
theorem law_holds.tw12256853527516230495 : True := ⟨⟩
theorem law_holds.tw122618845664085783 : True := ⟨⟩
theorem law_holds.tw12281709736459405600 : True := ⟨⟩
theorem law_holds.tw12286129746305675136 : True := ⟨⟩
theorem law_holds.tw12295190071484782747 : True := ⟨⟩
theorem law_holds.tw12319899116185721771 : True := ⟨⟩
theorem law_holds.tw12322212873509805960 : True := ⟨⟩
theorem law_holds.tw12354890899766285228 : True := ⟨⟩
theorem law_holds.tw12365088732114306285 : True := ⟨⟩
theorem law_holds.tw12368455979260301994 : True := ⟨⟩
theorem law_holds.tw12375225706518101081 : True := ⟨⟩
theorem law_holds.tw12376048684938270564 : True := ⟨⟩
theorem law_holds.tw12386295630618273540 : True := ⟨⟩
theorem law_holds.tw12398059323807055760 : True := ⟨⟩
theorem law_holds.tw12444621762413414710 : True := ⟨⟩
theorem law_holds.tw12454775955256158100 : True := ⟨⟩
theorem law_holds.tw12456573576144340176 : True := ⟨⟩
theorem law_holds.tw12464884818989532270 : True := ⟨⟩
theorem law_holds.tw12479737907989030865 : True := ⟨⟩
theorem law_holds.tw12505834768947203292 : True := ⟨⟩
theorem law_holds.tw12513141571793130511 : True := ⟨⟩
theorem law_holds.tw125399062735993237 : True := ⟨⟩
theorem law_holds.tw12551318200261738791 : True := ⟨⟩
theorem law_holds.tw12579825770510423720 : True := ⟨⟩
theorem law_holds.tw12589438043928163804 : True := ⟨⟩
theorem law_holds.tw12594797258036337041 : True := ⟨⟩
theorem law_holds.tw12607803838004451017 : True := ⟨⟩
theorem law_holds.tw12634706222913125400 : True := ⟨⟩
theorem law_holds.tw12642673518839936557 : True := ⟨⟩
theorem law_holds.tw12686159582430991066 : True := ⟨⟩
theorem law_holds.tw12687938925481766019 : True := ⟨⟩
theorem law_holds.tw12689670366592559097 : True := ⟨⟩
theorem law_holds.tw12706130601615261912 : True := ⟨⟩
theorem law_holds.tw12713376815660410176 : True := ⟨⟩
theorem law_holds.tw12730736441923801008 : True := ⟨⟩
theorem law_holds.tw12732634928703914606 : True := ⟨⟩
theorem law_holds.tw12750345768118409207 : True := ⟨⟩
theorem law_holds.tw12761958690359378496 : True := ⟨⟩
theorem law_holds.tw12781271861775966558 : True := ⟨⟩
theorem law_holds.tw12787151974867972223 : True := ⟨⟩
theorem law_holds.tw12789180484846691535 : True := ⟨⟩
theorem law_holds.tw12793120876471446579 : True := ⟨⟩
theorem law_holds.tw12802995811717857929 : True := ⟨⟩
theorem law_holds.tw12808196545925266269 : True := ⟨⟩
theorem law_holds.tw12811070854793342323 : True := ⟨⟩
theorem law_holds.tw12816038118268191787 : True := ⟨⟩
theorem law_holds.tw12843138339382408724 : True := ⟨⟩
theorem law_holds.tw1285031980337395860 : True := ⟨⟩
theorem law_holds.tw12852464920538289644 : True := ⟨⟩
theorem law_holds.tw12872083198205780702 : True := ⟨⟩
theorem law_holds.tw12875351080019083873 : True := ⟨⟩
theorem law_holds.tw12914588733795626055 : True := ⟨⟩
theorem law_holds.tw12933058796719431906 : True := ⟨⟩
theorem law_holds.tw12939284664423784331 : True := ⟨⟩
theorem law_holds.tw12973941135489717868 : True := ⟨⟩
theorem law_holds.tw1297600123112985636 : True := ⟨⟩
theorem law_holds.tw1298600957486035392 : True := ⟨⟩
theorem law_holds.tw12987040146147874397 : True := ⟨⟩
theorem law_holds.tw13021108978172089358 : True := ⟨⟩
theorem law_holds.tw13021534444081792530 : True := ⟨⟩
theorem law_holds.tw13022610565910833310 : True := ⟨⟩
theorem law_holds.tw13046033944936352046 : True := ⟨⟩
theorem law_holds.tw13062392249306801443 : True := ⟨⟩
theorem law_holds.tw13063488368510588356 : True := ⟨⟩
theorem law_holds.tw13074461575235307766 : True := ⟨⟩
theorem law_holds.tw13084082275191114657 : True := ⟨⟩
theorem law_holds.tw1309149673091066425 : True := ⟨⟩
theorem law_holds.tw13101095285832806475 : True := ⟨⟩
theorem law_holds.tw13102734628854115531 : True := ⟨⟩
theorem law_holds.tw13128407068565464620 : True := ⟨⟩
theorem law_holds.tw13135124823370390473 : True := ⟨⟩
theorem law_holds.tw13141275008304168625 : True := ⟨⟩
theorem law_holds.tw13143104030696616068 : True := ⟨⟩
theorem law_holds.tw13144454916349309681 : True := ⟨⟩
theorem law_holds.tw13149175498523675547 : True := ⟨⟩
theorem law_holds.tw13178623676534510113 : True := ⟨⟩
theorem law_holds.tw1318268276604492749 : True := ⟨⟩
theorem law_holds.tw1321137585418821404 : True := ⟨⟩
theorem law_holds.tw13212449916121939381 : True := ⟨⟩
theorem law_holds.tw13219146408429575293 : True := ⟨⟩
theorem law_holds.tw13238970912473326420 : True := ⟨⟩
theorem law_holds.tw13254930018612704855 : True := ⟨⟩
theorem law_holds.tw13273536951158448238 : True := ⟨⟩
theorem law_holds.tw13280729184201584836 : True := ⟨⟩
theorem law_holds.tw13301304523349452855 : True := ⟨⟩
theorem law_holds.tw13302536552160625301 : True := ⟨⟩
theorem law_holds.tw13303437245812858692 : True := ⟨⟩
theorem law_holds.tw13318846883983911650 : True := ⟨⟩
theorem law_holds.tw13322018064686016712 : True := ⟨⟩
theorem law_holds.tw13325342845915808888 : True := ⟨⟩
theorem law_holds.tw13396678387363917180 : True := ⟨⟩
theorem law_holds.tw13404952454002016407 : True := ⟨⟩
theorem law_holds.tw1341032064071550679 : True := ⟨⟩
theorem law_holds.tw13415892699649487970 : True := ⟨⟩
theorem law_holds.tw13416283713298085870 : True := ⟨⟩
theorem law_holds.tw1342162869597539110 : True := ⟨⟩
theorem law_holds.tw13423391409236956900 : True := ⟨⟩
theorem law_holds.tw13433842325079734502 : True := ⟨⟩
theorem law_holds.tw134434795030983171 : True := ⟨⟩
theorem law_holds.tw13451125632696228667 : True := ⟨⟩
theorem law_holds.tw13470717961806096940 : True := ⟨⟩
theorem law_holds.tw13479024253403807761 : True := ⟨⟩
theorem law_holds.tw13482844997195030559 : True := ⟨⟩
theorem law_holds.tw13489022169200173356 : True := ⟨⟩
theorem law_holds.tw13494203968522729878 : True := ⟨⟩
theorem law_holds.tw13509213785515401667 : True := ⟨⟩
theorem law_holds.tw13528773464083207372 : True := ⟨⟩
theorem law_holds.tw1353719424756524872 : True := ⟨⟩
theorem law_holds.tw13560017309858602688 : True := ⟨⟩
theorem law_holds.tw135758344181749540 : True := ⟨⟩
theorem law_holds.tw13580132808084363333 : True := ⟨⟩
theorem law_holds.tw13595539231233405983 : True := ⟨⟩
theorem law_holds.tw13595765963699275913 : True := ⟨⟩
theorem law_holds.tw1360458433459304108 : True := ⟨⟩
theorem law_holds.tw13610525247604137171 : True := ⟨⟩
theorem law_holds.tw13630088596713029989 : True := ⟨⟩
theorem law_holds.tw13638449435903726928 : True := ⟨⟩
theorem law_holds.tw13652999913754715496 : True := ⟨⟩
theorem law_holds.tw13669267170631045198 : True := ⟨⟩
theorem law_holds.tw13698779151252966577 : True := ⟨⟩
theorem law_holds.tw13720590671149138869 : True := ⟨⟩
theorem law_holds.tw13725968598184563488 : True := ⟨⟩
theorem law_holds.tw13731275656085944743 : True := ⟨⟩
theorem law_holds.tw13758047709002527507 : True := ⟨⟩
theorem law_holds.tw13764194047770946142 : True := ⟨⟩
theorem law_holds.tw13764464451516688672 : True := ⟨⟩
theorem law_holds.tw13767593723421520521 : True := ⟨⟩
theorem law_holds.tw1377131715256886351 : True := ⟨⟩
theorem law_holds.tw13774705134713488596 : True := ⟨⟩
theorem law_holds.tw1378428805368303883 : True := ⟨⟩
theorem law_holds.tw13803956123628644770 : True := ⟨⟩
theorem law_holds.tw13805112757116126833 : True := ⟨⟩
theorem law_holds.tw13807369424142678915 : True := ⟨⟩
theorem law_holds.tw13810208058568074476 : True := ⟨⟩
theorem law_holds.tw13818606882091528597 : True := ⟨⟩
theorem law_holds.tw13824157079055672171 : True := ⟨⟩
theorem law_holds.tw13852507607233575663 : True := ⟨⟩
theorem law_holds.tw13855547508893118556 : True := ⟨⟩
theorem law_holds.tw13878118461344759588 : True := ⟨⟩
theorem law_holds.tw138926652780575230 : True := ⟨⟩
theorem law_holds.tw13897510077717523907 : True := ⟨⟩
theorem law_holds.tw13912553500582076186 : True := ⟨⟩
theorem law_holds.tw13918405348811844709 : True := ⟨⟩
theorem law_holds.tw13929373096486925428 : True := ⟨⟩
theorem law_holds.tw13935719316855642607 : True := ⟨⟩
theorem law_holds.tw1394294341224053577 : True := ⟨⟩
theorem law_holds.tw13965244652424070281 : True := ⟨⟩
theorem law_holds.tw1400406097093401131 : True := ⟨⟩
theorem law_holds.tw14023415893535310682 : True := ⟨⟩
theorem law_holds.tw14031645716308625467 : True := ⟨⟩
theorem law_holds.tw14036689271031659885 : True := ⟨⟩
theorem law_holds.tw14064757632751612189 : True := ⟨⟩
theorem law_holds.tw1406871037596181959 : True := ⟨⟩
theorem law_holds.tw14075269109051453763 : True := ⟨⟩
theorem law_holds.tw14079229930994233185 : True := ⟨⟩
theorem law_holds.tw14116268101202831447 : True := ⟨⟩
theorem law_holds.tw14119705633670835342 : True := ⟨⟩
theorem law_holds.tw14127564814519700093 : True := ⟨⟩
theorem law_holds.tw14129112099631768421 : True := ⟨⟩
theorem law_holds.tw14133509903303344964 : True := ⟨⟩
theorem law_holds.tw14139175476492073779 : True := ⟨⟩
theorem law_holds.tw14162245620201129085 : True := ⟨⟩
theorem law_holds.tw14173092431481141761 : True := ⟨⟩
theorem law_holds.tw14189504181962668134 : True := ⟨⟩
theorem law_holds.tw14195037045455110326 : True := ⟨⟩
theorem law_holds.tw14202326236336539474 : True := ⟨⟩
theorem law_holds.tw14220932652930770003 : True := ⟨⟩
theorem law_holds.tw1423105721536932895 : True := ⟨⟩
theorem law_holds.tw14238111691325186621 : True := ⟨⟩
theorem law_holds.tw14280313452775354327 : True := ⟨⟩
theorem law_holds.tw1428398232366803976 : True := ⟨⟩
theorem law_holds.tw14305800290195856166 : True := ⟨⟩
theorem law_holds.tw14311603380398048975 : True := ⟨⟩
theorem law_holds.tw14312900074168088343 : True := ⟨⟩
theorem law_holds.tw14313105452330287249 : True := ⟨⟩
theorem law_holds.tw14313514642150866578 : True := ⟨⟩
theorem law_holds.tw14314815705539954303 : True := ⟨⟩
theorem law_holds.tw14315491260364780233 : True := ⟨⟩
theorem law_holds.tw14317218137407646656 : True := ⟨⟩
theorem law_holds.tw14324448766051627020 : True := ⟨⟩
theorem law_holds.tw14326805179104887299 : True := ⟨⟩
theorem law_holds.tw14333050712394889305 : True := ⟨⟩
theorem law_holds.tw14335231952243247089 : True := ⟨⟩
theorem law_holds.tw14336196907035617153 : True := ⟨⟩
theorem law_holds.tw14337238342524128189 : True := ⟨⟩
theorem law_holds.tw14344047603598814984 : True := ⟨⟩
theorem law_holds.tw14353612913969928906 : True := ⟨⟩
theorem law_holds.tw14373041321058183943 : True := ⟨⟩
theorem law_holds.tw14394672523963698566 : True := ⟨⟩
theorem law_holds.tw14420863748496796517 : True := ⟨⟩
theorem law_holds.tw14425981271258528557 : True := ⟨⟩
theorem law_holds.tw14429937168613743062 : True := ⟨⟩
theorem law_holds.tw14434342714074669358 : True := ⟨⟩
theorem law_holds.tw1443465629617575684 : True := ⟨⟩
theorem law_holds.tw1447001561981914884 : True := ⟨⟩
theorem law_holds.tw14484023869012328605 : True := ⟨⟩
theorem law_holds.tw14495946155333180505 : True := ⟨⟩
theorem law_holds.tw1450699382739630738 : True := ⟨⟩
theorem law_holds.tw14510855318446429070 : True := ⟨⟩
theorem law_holds.tw14566102948765644684 : True := ⟨⟩
theorem law_holds.tw14569371395344780049 : True := ⟨⟩
theorem law_holds.tw14572693233321973487 : True := ⟨⟩
theorem law_holds.tw14591987906231429754 : True := ⟨⟩
theorem law_holds.tw14593130086831673449 : True := ⟨⟩
theorem law_holds.tw14594925761901342533 : True := ⟨⟩
theorem law_holds.tw1459651742469088289 : True := ⟨⟩
theorem law_holds.tw14607075462543581903 : True := ⟨⟩
theorem law_holds.tw14617379903310942650 : True := ⟨⟩
theorem law_holds.tw14627761380042129997 : True := ⟨⟩
theorem law_holds.tw14628404117737552647 : True := ⟨⟩
theorem law_holds.tw14664928420828011176 : True := ⟨⟩
theorem law_holds.tw14666890280908726475 : True := ⟨⟩
theorem law_holds.tw14670380217305151843 : True := ⟨⟩
theorem law_holds.tw14670900462202751457 : True := ⟨⟩
theorem law_holds.tw14708549454671332879 : True := ⟨⟩
theorem law_holds.tw14710640456581234772 : True := ⟨⟩
theorem law_holds.tw14714918562784010131 : True := ⟨⟩
theorem law_holds.tw14717955172638451034 : True := ⟨⟩
theorem law_holds.tw1472489148362729238 : True := ⟨⟩
theorem law_holds.tw147673079718251151 : True := ⟨⟩
theorem law_holds.tw14783433190654154148 : True := ⟨⟩
theorem law_holds.tw14786886229240022881 : True := ⟨⟩
theorem law_holds.tw14818905049589306825 : True := ⟨⟩
theorem law_holds.tw14860363856437812442 : True := ⟨⟩
theorem law_holds.tw14865609858847118618 : True := ⟨⟩
theorem law_holds.tw14884268287294114091 : True := ⟨⟩
theorem law_holds.tw14884934216477185669 : True := ⟨⟩
theorem law_holds.tw14903512801417529153 : True := ⟨⟩
theorem law_holds.tw14915719398447251493 : True := ⟨⟩
theorem law_holds.tw14947617790208599336 : True := ⟨⟩
theorem law_holds.tw14969824231379886806 : True := ⟨⟩
theorem law_holds.tw14971250620588824818 : True := ⟨⟩
theorem law_holds.tw14976718906734723410 : True := ⟨⟩
theorem law_holds.tw14992759142440309456 : True := ⟨⟩
theorem law_holds.tw1499345538291568824 : True := ⟨⟩
theorem law_holds.tw14995295813966059528 : True := ⟨⟩
theorem law_holds.tw15045327832459052718 : True := ⟨⟩
theorem law_holds.tw1506940639823474625 : True := ⟨⟩
theorem law_holds.tw1507123500327097978 : True := ⟨⟩
theorem law_holds.tw15081446677510831003 : True := ⟨⟩
theorem law_holds.tw15084845359287944074 : True := ⟨⟩
theorem law_holds.tw1509743753534038821 : True := ⟨⟩
theorem law_holds.tw15132907897579107423 : True := ⟨⟩
theorem law_holds.tw15132942324158357334 : True := ⟨⟩
theorem law_holds.tw15142019102366459824 : True := ⟨⟩
theorem law_holds.tw15142217132095977487 : True := ⟨⟩
theorem law_holds.tw15151862279599674902 : True := ⟨⟩
theorem law_holds.tw15169391857662580250 : True := ⟨⟩
theorem law_holds.tw15191641641927520052 : True := ⟨⟩
theorem law_holds.tw15202879393157630096 : True := ⟨⟩
theorem law_holds.tw15219099869051394601 : True := ⟨⟩
theorem law_holds.tw15237991393222665217 : True := ⟨⟩
theorem law_holds.tw15245238933642713013 : True := ⟨⟩
theorem law_holds.tw15251213974928352049 : True := ⟨⟩
theorem law_holds.tw15256195139092445924 : True := ⟨⟩
theorem law_holds.tw15259512861446130793 : True := ⟨⟩
theorem law_holds.tw15305465792503978448 : True := ⟨⟩
theorem law_holds.tw15308419471952648625 : True := ⟨⟩
theorem law_holds.tw15309683793835691078 : True := ⟨⟩
theorem law_holds.tw15310999161740518915 : True := ⟨⟩
theorem law_holds.tw15338553497421296163 : True := ⟨⟩
theorem law_holds.tw15408726153489713580 : True := ⟨⟩
theorem law_holds.tw15410465885900199701 : True := ⟨⟩
theorem law_holds.tw15415625418287331418 : True := ⟨⟩
theorem law_holds.tw15415884683764128771 : True := ⟨⟩
theorem law_holds.tw15420652500618142828 : True := ⟨⟩
theorem law_holds.tw15426579140700061075 : True := ⟨⟩
theorem law_holds.tw15443994535631870168 : True := ⟨⟩
theorem law_holds.tw15447082571452617183 : True := ⟨⟩
theorem law_holds.tw15457686938103959493 : True := ⟨⟩
theorem law_holds.tw15471439153723018297 : True := ⟨⟩
theorem law_holds.tw15486955089549555405 : True := ⟨⟩
theorem law_holds.tw1550107308526680287 : True := ⟨⟩
theorem law_holds.tw1551028514193531298 : True := ⟨⟩
theorem law_holds.tw15517656746969316350 : True := ⟨⟩
theorem law_holds.tw15526398766430104436 : True := ⟨⟩
theorem law_holds.tw15571892551002454977 : True := ⟨⟩
theorem law_holds.tw155803326419628843 : True := ⟨⟩
theorem law_holds.tw15607742837114570034 : True := ⟨⟩
theorem law_holds.tw15622682822013532920 : True := ⟨⟩
theorem law_holds.tw15625433193479578786 : True := ⟨⟩
theorem law_holds.tw15629293596746291301 : True := ⟨⟩
theorem law_holds.tw15629440266849436483 : True := ⟨⟩
theorem law_holds.tw15648198670653903904 : True := ⟨⟩
theorem law_holds.tw1565561858317024308 : True := ⟨⟩
theorem law_holds.tw15659749330433987120 : True := ⟨⟩
theorem law_holds.tw15666162507938817815 : True := ⟨⟩
theorem law_holds.tw15679033458344001947 : True := ⟨⟩
theorem law_holds.tw15679547983688415848 : True := ⟨⟩
theorem law_holds.tw15680817400851429335 : True := ⟨⟩
theorem law_holds.tw1570489218591848932 : True := ⟨⟩
theorem law_holds.tw1572503671654575866 : True := ⟨⟩
theorem law_holds.tw15726661917995980322 : True := ⟨⟩
theorem law_holds.tw15768093026876583916 : True := ⟨⟩
theorem law_holds.tw15791350862957275620 : True := ⟨⟩
theorem law_holds.tw1579815157416374101 : True := ⟨⟩
theorem law_holds.tw15806884676554313829 : True := ⟨⟩
theorem law_holds.tw1580873552511875670 : True := ⟨⟩
theorem law_holds.tw15820807429953230703 : True := ⟨⟩
theorem law_holds.tw15834247113983761193 : True := ⟨⟩
theorem law_holds.tw15838848012484620949 : True := ⟨⟩
theorem law_holds.tw15868949269099240727 : True := ⟨⟩
theorem law_holds.tw1587316634516409175 : True := ⟨⟩
theorem law_holds.tw15879908987519872324 : True := ⟨⟩
theorem law_holds.tw15921697929756654107 : True := ⟨⟩
theorem law_holds.tw15929983973051436043 : True := ⟨⟩
theorem law_holds.tw15950436124025061550 : True := ⟨⟩
theorem law_holds.tw15963135394757214619 : True := ⟨⟩
theorem law_holds.tw15976040188149636581 : True := ⟨⟩
theorem law_holds.tw15989860905592434940 : True := ⟨⟩
theorem law_holds.tw16005218258088379573 : True := ⟨⟩
theorem law_holds.tw16029323586871331071 : True := ⟨⟩
theorem law_holds.tw1603867511927003985 : True := ⟨⟩
theorem law_holds.tw16043385207297762499 : True := ⟨⟩
theorem law_holds.tw16050940442026179205 : True := ⟨⟩
theorem law_holds.tw16051522695373650985 : True := ⟨⟩
theorem law_holds.tw16056028907439476548 : True := ⟨⟩
theorem law_holds.tw16071129903292732059 : True := ⟨⟩
theorem law_holds.tw160957924062173441 : True := ⟨⟩
theorem law_holds.tw16096109799418761050 : True := ⟨⟩
theorem law_holds.tw16140731450448198043 : True := ⟨⟩
theorem law_holds.tw16144011258600764733 : True := ⟨⟩
theorem law_holds.tw1614814122978821349 : True := ⟨⟩
theorem law_holds.tw16173062671338239246 : True := ⟨⟩
theorem law_holds.tw16177435952995435638 : True := ⟨⟩
theorem law_holds.tw16201676386234423054 : True := ⟨⟩
theorem law_holds.tw16210305280951151284 : True := ⟨⟩
theorem law_holds.tw16223495562821061815 : True := ⟨⟩
theorem law_holds.tw16226523847921035448 : True := ⟨⟩
theorem law_holds.tw16269645554402528924 : True := ⟨⟩
theorem law_holds.tw16284090837717334877 : True := ⟨⟩
theorem law_holds.tw16296562474949699461 : True := ⟨⟩
theorem law_holds.tw16300839321863727218 : True := ⟨⟩
theorem law_holds.tw1630389271328545497 : True := ⟨⟩
theorem law_holds.tw16338167043958705695 : True := ⟨⟩
theorem law_holds.tw16341954415054729664 : True := ⟨⟩
theorem law_holds.tw16349885110452599 : True := ⟨⟩
theorem law_holds.tw1635300785324119709 : True := ⟨⟩
theorem law_holds.tw16375897937803028391 : True := ⟨⟩
theorem law_holds.tw16380552236601887415 : True := ⟨⟩
theorem law_holds.tw16388002507450341290 : True := ⟨⟩
theorem law_holds.tw16394124669558940455 : True := ⟨⟩
theorem law_holds.tw16398271699673485922 : True := ⟨⟩
theorem law_holds.tw16404324026257055393 : True := ⟨⟩
theorem law_holds.tw16441309846887514185 : True := ⟨⟩
theorem law_holds.tw16451394604429574897 : True := ⟨⟩
theorem law_holds.tw16482876573267952405 : True := ⟨⟩
theorem law_holds.tw16482898835842284804 : True := ⟨⟩
theorem law_holds.tw16497567082647821549 : True := ⟨⟩
theorem law_holds.tw16508713761595387681 : True := ⟨⟩
theorem law_holds.tw16519859207859829075 : True := ⟨⟩
theorem law_holds.tw16546973662019248006 : True := ⟨⟩
theorem law_holds.tw16565262515438014144 : True := ⟨⟩
theorem law_holds.tw16573463412909248058 : True := ⟨⟩
theorem law_holds.tw16582815608910170408 : True := ⟨⟩
theorem law_holds.tw1660862023277684686 : True := ⟨⟩
theorem law_holds.tw16610780277863023221 : True := ⟨⟩
theorem law_holds.tw16632282999621307193 : True := ⟨⟩
theorem law_holds.tw16638552077920246172 : True := ⟨⟩
theorem law_holds.tw16642023948554805265 : True := ⟨⟩
theorem law_holds.tw16661293268612869600 : True := ⟨⟩
theorem law_holds.tw16680997575765489717 : True := ⟨⟩
theorem law_holds.tw16683224812644484021 : True := ⟨⟩
theorem law_holds.tw16694510266606492241 : True := ⟨⟩
theorem law_holds.tw16706366093733343287 : True := ⟨⟩
theorem law_holds.tw16744215384563069358 : True := ⟨⟩
theorem law_holds.tw1676678457860926204 : True := ⟨⟩
theorem law_holds.tw16774864523597537296 : True := ⟨⟩
theorem law_holds.tw16778850948203251091 : True := ⟨⟩
theorem law_holds.tw16795854843087016811 : True := ⟨⟩
theorem law_holds.tw16799729779564119273 : True := ⟨⟩
theorem law_holds.tw16810043058914136066 : True := ⟨⟩
theorem law_holds.tw16824782821190324055 : True := ⟨⟩
theorem law_holds.tw16841490039779457826 : True := ⟨⟩
theorem law_holds.tw1685263486080525441 : True := ⟨⟩
theorem law_holds.tw16874585041738122646 : True := ⟨⟩
theorem law_holds.tw16899615196088951043 : True := ⟨⟩
theorem law_holds.tw16905818006979947069 : True := ⟨⟩
theorem law_holds.tw16931505206364555119 : True := ⟨⟩
theorem law_holds.tw16938824950460623925 : True := ⟨⟩
theorem law_holds.tw16941419748928531417 : True := ⟨⟩
theorem law_holds.tw1694604587035208689 : True := ⟨⟩
theorem law_holds.tw16949971410493705357 : True := ⟨⟩
theorem law_holds.tw16971084560170468500 : True := ⟨⟩
theorem law_holds.tw16986283589475955116 : True := ⟨⟩
theorem law_holds.tw16993672903455615847 : True := ⟨⟩
theorem law_holds.tw16999510928923335829 : True := ⟨⟩
theorem law_holds.tw17000226672394982298 : True := ⟨⟩
theorem law_holds.tw1700117537549074534 : True := ⟨⟩
theorem law_holds.tw17025337969480605457 : True := ⟨⟩
theorem law_holds.tw17036188914445746109 : True := ⟨⟩
theorem law_holds.tw17040061532478312804 : True := ⟨⟩
theorem law_holds.tw17048295465211714089 : True := ⟨⟩
theorem law_holds.tw17062225950664393360 : True := ⟨⟩
theorem law_holds.tw17067899708632688678 : True := ⟨⟩
theorem law_holds.tw17070985611911162470 : True := ⟨⟩
theorem law_holds.tw17104522224372625659 : True := ⟨⟩
theorem law_holds.tw17120385136713273028 : True := ⟨⟩
theorem law_holds.tw17144612916459646476 : True := ⟨⟩
theorem law_holds.tw17159358060632505854 : True := ⟨⟩
theorem law_holds.tw17169701385822025692 : True := ⟨⟩
theorem law_holds.tw17202898096669466336 : True := ⟨⟩
theorem law_holds.tw17217190459697505823 : True := ⟨⟩
theorem law_holds.tw17244470024884069039 : True := ⟨⟩
theorem law_holds.tw17252743102098389901 : True := ⟨⟩
theorem law_holds.tw17253324304029522687 : True := ⟨⟩
theorem law_holds.tw17253351638766851774 : True := ⟨⟩
theorem law_holds.tw17258256967380570052 : True := ⟨⟩
theorem law_holds.tw17266781280181966138 : True := ⟨⟩
theorem law_holds.tw17293793511987531223 : True := ⟨⟩
theorem law_holds.tw17294478633166874542 : True := ⟨⟩
theorem law_holds.tw17296229778862342893 : True := ⟨⟩
theorem law_holds.tw17321062044141998367 : True := ⟨⟩
theorem law_holds.tw17332501177981637306 : True := ⟨⟩
theorem law_holds.tw17341245574295845789 : True := ⟨⟩
theorem law_holds.tw17342676111262238757 : True := ⟨⟩
theorem law_holds.tw17369031647760913699 : True := ⟨⟩
theorem law_holds.tw17374810691041246510 : True := ⟨⟩
theorem law_holds.tw17393886194309822532 : True := ⟨⟩
theorem law_holds.tw17431664018468536459 : True := ⟨⟩
theorem law_holds.tw17460071051777600838 : True := ⟨⟩
theorem law_holds.tw17479822650636003466 : True := ⟨⟩
theorem law_holds.tw17488831878346349924 : True := ⟨⟩
theorem law_holds.tw17504025485976535541 : True := ⟨⟩
theorem law_holds.tw17530447160022786987 : True := ⟨⟩
theorem law_holds.tw1754191041174066881 : True := ⟨⟩
theorem law_holds.tw17550084031534635895 : True := ⟨⟩
theorem law_holds.tw17575492747756193023 : True := ⟨⟩
theorem law_holds.tw17594176776707670826 : True := ⟨⟩
theorem law_holds.tw17594784463406997751 : True := ⟨⟩
theorem law_holds.tw17604091399290980590 : True := ⟨⟩
theorem law_holds.tw17606738587630047650 : True := ⟨⟩
theorem law_holds.tw17617942748390160234 : True := ⟨⟩
theorem law_holds.tw17622147426685931960 : True := ⟨⟩
theorem law_holds.tw17653726985289047289 : True := ⟨⟩
theorem law_holds.tw17655811679965601787 : True := ⟨⟩
theorem law_holds.tw17665101184678872916 : True := ⟨⟩
theorem law_holds.tw17672152748979058166 : True := ⟨⟩
theorem law_holds.tw17758133840129366813 : True := ⟨⟩
theorem law_holds.tw17759817844067518656 : True := ⟨⟩
theorem law_holds.tw17811752059134499923 : True := ⟨⟩
theorem law_holds.tw17823711224535738629 : True := ⟨⟩
theorem law_holds.tw17824381739245518974 : True := ⟨⟩
theorem law_holds.tw17833399576921202003 : True := ⟨⟩
theorem law_holds.tw17855060659902664653 : True := ⟨⟩
theorem law_holds.tw17858582068237526741 : True := ⟨⟩
theorem law_holds.tw17875598915149220711 : True := ⟨⟩
theorem law_holds.tw17879578228801054460 : True := ⟨⟩
theorem law_holds.tw17897851116032309501 : True := ⟨⟩
theorem law_holds.tw17906001737163096833 : True := ⟨⟩
theorem law_holds.tw17944428744936973705 : True := ⟨⟩
theorem law_holds.tw17944900378928949466 : True := ⟨⟩
theorem law_holds.tw17952727643624751193 : True := ⟨⟩
theorem law_holds.tw17974741706545784302 : True := ⟨⟩
theorem law_holds.tw18016412824535073710 : True := ⟨⟩
theorem law_holds.tw18020768102580204870 : True := ⟨⟩
theorem law_holds.tw1802511734466779752 : True := ⟨⟩
theorem law_holds.tw18045397581065502977 : True := ⟨⟩
theorem law_holds.tw18048622823356644290 : True := ⟨⟩
theorem law_holds.tw18050668761108337918 : True := ⟨⟩
theorem law_holds.tw18088987937521412388 : True := ⟨⟩
theorem law_holds.tw18090702810322949273 : True := ⟨⟩
theorem law_holds.tw18139876188823858572 : True := ⟨⟩
theorem law_holds.tw18145488308814036136 : True := ⟨⟩
theorem law_holds.tw18157668599892277949 : True := ⟨⟩
theorem law_holds.tw18190100315697459801 : True := ⟨⟩
theorem law_holds.tw18200618531809223715 : True := ⟨⟩
theorem law_holds.tw18206933103047293645 : True := ⟨⟩
theorem law_holds.tw18236708571168525727 : True := ⟨⟩
theorem law_holds.tw18246856778826049080 : True := ⟨⟩
theorem law_holds.tw18247138750185718421 : True := ⟨⟩
theorem law_holds.tw18258714637278100683 : True := ⟨⟩
theorem law_holds.tw18261609556697273182 : True := ⟨⟩
theorem law_holds.tw18281370693336029222 : True := ⟨⟩
theorem law_holds.tw18323878544737415204 : True := ⟨⟩
theorem law_holds.tw18344618102503647061 : True := ⟨⟩
theorem law_holds.tw18353364291340141977 : True := ⟨⟩
theorem law_holds.tw18357466510374567486 : True := ⟨⟩
theorem law_holds.tw18365077494745798798 : True := ⟨⟩
theorem law_holds.tw18377935559252614709 : True := ⟨⟩
theorem law_holds.tw18383537000226268206 : True := ⟨⟩
theorem law_holds.tw1838861806361233227 : True := ⟨⟩
theorem law_holds.tw18423324807193327213 : True := ⟨⟩
theorem law_holds.tw18425398409633572524 : True := ⟨⟩
theorem law_holds.tw18426452314912670135 : True := ⟨⟩
theorem law_holds.tw18428943384142611412 : True := ⟨⟩
theorem law_holds.tw18432052151106628866 : True := ⟨⟩
theorem law_holds.tw18432073805035606216 : True := ⟨⟩
theorem law_holds.tw1866465947948134585 : True := ⟨⟩
theorem law_holds.tw191287878323005306 : True := ⟨⟩
theorem law_holds.tw1926424871236574695 : True := ⟨⟩
theorem law_holds.tw1935256331406415517 : True := ⟨⟩
theorem law_holds.tw1952779263275399392 : True := ⟨⟩
theorem law_holds.tw1970023290501225257 : True := ⟨⟩
theorem law_holds.tw1974053273469876252 : True := ⟨⟩
theorem law_holds.tw2005817804569829829 : True := ⟨⟩
theorem law_holds.tw2008900275457086889 : True := ⟨⟩
theorem law_holds.tw2011940806658186350 : True := ⟨⟩
theorem law_holds.tw2018603250584352117 : True := ⟨⟩
theorem law_holds.tw2028534951262455394 : True := ⟨⟩
theorem law_holds.tw2044012981091398052 : True := ⟨⟩
theorem law_holds.tw204971094808444271 : True := ⟨⟩
theorem law_holds.tw2063564619896992499 : True := ⟨⟩
theorem law_holds.tw206389472903355202 : True := ⟨⟩
theorem law_holds.tw2067938789684495028 : True := ⟨⟩
theorem law_holds.tw2097244321912870559 : True := ⟨⟩
theorem law_holds.tw2101967523402353493 : True := ⟨⟩
theorem law_holds.tw2119901394630629960 : True := ⟨⟩
theorem law_holds.tw2131073371514681429 : True := ⟨⟩
theorem law_holds.tw214134055790193201 : True := ⟨⟩
theorem law_holds.tw2143271814358901939 : True := ⟨⟩
theorem law_holds.tw2150748609879988101 : True := ⟨⟩
theorem law_holds.tw2154822075624062675 : True := ⟨⟩
theorem law_holds.tw2172274059096041547 : True := ⟨⟩
theorem law_holds.tw2173549349379254405 : True := ⟨⟩
theorem law_holds.tw222190089360380973 : True := ⟨⟩
theorem law_holds.tw2241184700968721739 : True := ⟨⟩
theorem law_holds.tw22779701180556379 : True := ⟨⟩
theorem law_holds.tw2292683267844221395 : True := ⟨⟩
theorem law_holds.tw2315461723569800429 : True := ⟨⟩
theorem law_holds.tw2368662584969386512 : True := ⟨⟩
theorem law_holds.tw2380755396246890321 : True := ⟨⟩
theorem law_holds.tw2419187175143704151 : True := ⟨⟩
theorem law_holds.tw2420191136379417991 : True := ⟨⟩
theorem law_holds.tw2426429405190539214 : True := ⟨⟩
theorem law_holds.tw2457578544879965606 : True := ⟨⟩
theorem law_holds.tw2458464439893117662 : True := ⟨⟩
theorem law_holds.tw2474065694083955159 : True := ⟨⟩
theorem law_holds.tw2480505380496291714 : True := ⟨⟩
theorem law_holds.tw2490307318215314491 : True := ⟨⟩
theorem law_holds.tw2511799228252013249 : True := ⟨⟩
theorem law_holds.tw2512643763515852327 : True := ⟨⟩
theorem law_holds.tw2518368452713512839 : True := ⟨⟩
theorem law_holds.tw2533809100610328104 : True := ⟨⟩
theorem law_holds.tw2539214166474801371 : True := ⟨⟩
theorem law_holds.tw2544317682171848009 : True := ⟨⟩
theorem law_holds.tw2581709991330660864 : True := ⟨⟩
theorem law_holds.tw2614632069955834597 : True := ⟨⟩
theorem law_holds.tw2617058184144712562 : True := ⟨⟩
theorem law_holds.tw2618987520547360938 : True := ⟨⟩
theorem law_holds.tw2625566897510949358 : True := ⟨⟩
theorem law_holds.tw2637699058637149057 : True := ⟨⟩
theorem law_holds.tw2639985146300895596 : True := ⟨⟩
theorem law_holds.tw2650358937497074835 : True := ⟨⟩
theorem law_holds.tw2654859336116850701 : True := ⟨⟩
theorem law_holds.tw2671279934858276225 : True := ⟨⟩
theorem law_holds.tw2703512984996569472 : True := ⟨⟩
theorem law_holds.tw2709593021095409145 : True := ⟨⟩
theorem law_holds.tw272819026546003228 : True := ⟨⟩
theorem law_holds.tw2749237997433579361 : True := ⟨⟩
theorem law_holds.tw2782704592696509104 : True := ⟨⟩
theorem law_holds.tw2789304500097711476 : True := ⟨⟩
theorem law_holds.tw2798483401406309156 : True := ⟨⟩
theorem law_holds.tw2816178063792170796 : True := ⟨⟩
theorem law_holds.tw28227495676706704 : True := ⟨⟩
theorem law_holds.tw2824894259714757893 : True := ⟨⟩
theorem law_holds.tw2825893899276491083 : True := ⟨⟩
theorem law_holds.tw2829192161805788658 : True := ⟨⟩
theorem law_holds.tw283253097560146234 : True := ⟨⟩
theorem law_holds.tw2844849559099516994 : True := ⟨⟩
theorem law_holds.tw2851085782669874439 : True := ⟨⟩
theorem law_holds.tw2861145865445028144 : True := ⟨⟩
theorem law_holds.tw2905416211501393228 : True := ⟨⟩
theorem law_holds.tw2938055953352357160 : True := ⟨⟩
theorem law_holds.tw2938821345390727954 : True := ⟨⟩
theorem law_holds.tw2944747503705388597 : True := ⟨⟩
theorem law_holds.tw295056905113131305 : True := ⟨⟩
theorem law_holds.tw2973096935638203479 : True := ⟨⟩
theorem law_holds.tw2978955111573796569 : True := ⟨⟩
theorem law_holds.tw3017478728462802181 : True := ⟨⟩
theorem law_holds.tw3030238640687364145 : True := ⟨⟩
theorem law_holds.tw3047177351895473530 : True := ⟨⟩
theorem law_holds.tw3047614327711679406 : True := ⟨⟩
theorem law_holds.tw3061326721956522122 : True := ⟨⟩
theorem law_holds.tw306385549859913649 : True := ⟨⟩
theorem law_holds.tw3067004822898625883 : True := ⟨⟩
theorem law_holds.tw3072394610823484278 : True := ⟨⟩
theorem law_holds.tw3074197999623706194 : True := ⟨⟩
theorem law_holds.tw308180586463541108 : True := ⟨⟩
theorem law_holds.tw3092855170791208102 : True := ⟨⟩
theorem law_holds.tw3113391250515446119 : True := ⟨⟩
theorem law_holds.tw314512721676871435 : True := ⟨⟩
theorem law_holds.tw3146225312925723447 : True := ⟨⟩
theorem law_holds.tw3155934244261053403 : True := ⟨⟩
theorem law_holds.tw3244714480989868644 : True := ⟨⟩
theorem law_holds.tw32851045073703446 : True := ⟨⟩
theorem law_holds.tw3302351448847038798 : True := ⟨⟩
theorem law_holds.tw3304884240707112974 : True := ⟨⟩
theorem law_holds.tw3308262125478453770 : True := ⟨⟩
theorem law_holds.tw3336134834381579138 : True := ⟨⟩
theorem law_holds.tw3348280854797780025 : True := ⟨⟩
theorem law_holds.tw3369541362397538934 : True := ⟨⟩
theorem law_holds.tw3392240409561908027 : True := ⟨⟩
theorem law_holds.tw3409235132331038537 : True := ⟨⟩
theorem law_holds.tw3427327079000745719 : True := ⟨⟩
theorem law_holds.tw3430436183752270372 : True := ⟨⟩
theorem law_holds.tw3433214813043892465 : True := ⟨⟩
theorem law_holds.tw3436078579076926387 : True := ⟨⟩
theorem law_holds.tw3456989938992134457 : True := ⟨⟩
theorem law_holds.tw3484677012452536928 : True := ⟨⟩
theorem law_holds.tw3508554826026110817 : True := ⟨⟩
theorem law_holds.tw3528576480106445979 : True := ⟨⟩
theorem law_holds.tw3534769483117570816 : True := ⟨⟩
theorem law_holds.tw3549528445137698980 : True := ⟨⟩
theorem law_holds.tw3552209308201761597 : True := ⟨⟩
theorem law_holds.tw356160929362586710 : True := ⟨⟩
theorem law_holds.tw3572100968615334584 : True := ⟨⟩
theorem law_holds.tw3576610837089347735 : True := ⟨⟩
theorem law_holds.tw3597233283825083864 : True := ⟨⟩
theorem law_holds.tw3602063563897317779 : True := ⟨⟩
theorem law_holds.tw3610842014972098345 : True := ⟨⟩
theorem law_holds.tw3626884551561192456 : True := ⟨⟩
theorem law_holds.tw3633009314661038484 : True := ⟨⟩
theorem law_holds.tw3660913524704745117 : True := ⟨⟩
theorem law_holds.tw3686255879590429787 : True := ⟨⟩
theorem law_holds.tw3687431371250942553 : True := ⟨⟩
theorem law_holds.tw3724021341949655558 : True := ⟨⟩
theorem law_holds.tw3744046536767323622 : True := ⟨⟩
theorem law_holds.tw3778806038146009510 : True := ⟨⟩
theorem law_holds.tw3785449581993627449 : True := ⟨⟩
theorem law_holds.tw380388762932521306 : True := ⟨⟩
theorem law_holds.tw3804642395597844086 : True := ⟨⟩
theorem law_holds.tw3809602202098608513 : True := ⟨⟩
theorem law_holds.tw3814421175636811933 : True := ⟨⟩
theorem law_holds.tw3835919262916725359 : True := ⟨⟩
theorem law_holds.tw3844087190642282094 : True := ⟨⟩
theorem law_holds.tw3846802918105822286 : True := ⟨⟩
theorem law_holds.tw3847548029683682883 : True := ⟨⟩
theorem law_holds.tw3859413899582936731 : True := ⟨⟩
theorem law_holds.tw3859679701639059250 : True := ⟨⟩
theorem law_holds.tw3867563461604532357 : True := ⟨⟩
theorem law_holds.tw3876860152819462361 : True := ⟨⟩
theorem law_holds.tw3893979365188136202 : True := ⟨⟩
theorem law_holds.tw3908665145262874059 : True := ⟨⟩
theorem law_holds.tw3926117757432788267 : True := ⟨⟩
theorem law_holds.tw3928781752446043 : True := ⟨⟩
theorem law_holds.tw3932897258488569322 : True := ⟨⟩
theorem law_holds.tw3943490507338550514 : True := ⟨⟩
theorem law_holds.tw3951811181162281158 : True := ⟨⟩
theorem law_holds.tw3963775844539927754 : True := ⟨⟩
theorem law_holds.tw3969746924192890023 : True := ⟨⟩
theorem law_holds.tw4012916540098304191 : True := ⟨⟩
theorem law_holds.tw4028983276611988770 : True := ⟨⟩
theorem law_holds.tw4035528317280197230 : True := ⟨⟩
theorem law_holds.tw403688999711564019 : True := ⟨⟩
theorem law_holds.tw4048449954142007013 : True := ⟨⟩
theorem law_holds.tw4060860062092802465 : True := ⟨⟩
theorem law_holds.tw4081105797178004613 : True := ⟨⟩
theorem law_holds.tw4083753458409199645 : True := ⟨⟩
theorem law_holds.tw4084222432864785805 : True := ⟨⟩
theorem law_holds.tw4092736944483984189 : True := ⟨⟩
theorem law_holds.tw4110174783158186356 : True := ⟨⟩
theorem law_holds.tw4127458636321611113 : True := ⟨⟩
theorem law_holds.tw4136825655418170994 : True := ⟨⟩
theorem law_holds.tw4149565841514046478 : True := ⟨⟩
theorem law_holds.tw4152159249573220884 : True := ⟨⟩
theorem law_holds.tw4180139480520247464 : True := ⟨⟩
theorem law_holds.tw4189976544349451873 : True := ⟨⟩
theorem law_holds.tw4201958676732091003 : True := ⟨⟩
theorem law_holds.tw4203419462914944022 : True := ⟨⟩
theorem law_holds.tw4220295249240372280 : True := ⟨⟩
theorem law_holds.tw4247329910502417248 : True := ⟨⟩
theorem law_holds.tw4269856207513381967 : True := ⟨⟩
theorem law_holds.tw4303546969712309210 : True := ⟨⟩
theorem law_holds.tw4332161809942032180 : True := ⟨⟩
theorem law_holds.tw4340588604779863360 : True := ⟨⟩
theorem law_holds.tw4343500412549995031 : True := ⟨⟩
theorem law_holds.tw4345808505395848435 : True := ⟨⟩
theorem law_holds.tw4357732659310324961 : True := ⟨⟩
theorem law_holds.tw4361077866465577254 : True := ⟨⟩
theorem law_holds.tw4397030966992440760 : True := ⟨⟩
theorem law_holds.tw4406639318656450517 : True := ⟨⟩
theorem law_holds.tw4477382242976681403 : True := ⟨⟩
theorem law_holds.tw4480375332068284818 : True := ⟨⟩
theorem law_holds.tw4483106852559109890 : True := ⟨⟩
theorem law_holds.tw4501163760179829665 : True := ⟨⟩
theorem law_holds.tw4506359129745219305 : True := ⟨⟩
theorem law_holds.tw4509396705502050880 : True := ⟨⟩
theorem law_holds.tw4512639057337572286 : True := ⟨⟩
theorem law_holds.tw4521668954704383286 : True := ⟨⟩
theorem law_holds.tw4534332949822047557 : True := ⟨⟩
theorem law_holds.tw4547884331255715199 : True := ⟨⟩
theorem law_holds.tw4567224093349646997 : True := ⟨⟩
theorem law_holds.tw4568014340303256988 : True := ⟨⟩
theorem law_holds.tw4571890113749528952 : True := ⟨⟩
theorem law_holds.tw4607515812558035132 : True := ⟨⟩
theorem law_holds.tw4611123474112152426 : True := ⟨⟩
theorem law_holds.tw4624683920469757148 : True := ⟨⟩
theorem law_holds.tw4637936931961454218 : True := ⟨⟩
theorem law_holds.tw4651760422671353406 : True := ⟨⟩
theorem law_holds.tw4705273999092102928 : True := ⟨⟩
theorem law_holds.tw4739692019833714397 : True := ⟨⟩
theorem law_holds.tw4745657097553642147 : True := ⟨⟩
theorem law_holds.tw4759314260906057336 : True := ⟨⟩
theorem law_holds.tw4765507542708757148 : True := ⟨⟩
theorem law_holds.tw4792893578931457555 : True := ⟨⟩
theorem law_holds.tw479336623958735447 : True := ⟨⟩
theorem law_holds.tw481104962845480259 : True := ⟨⟩
theorem law_holds.tw4816589490837132921 : True := ⟨⟩
theorem law_holds.tw4819651505656005419 : True := ⟨⟩
theorem law_holds.tw4821763195371883600 : True := ⟨⟩
theorem law_holds.tw4846153284592222242 : True := ⟨⟩
theorem law_holds.tw484640039798874252 : True := ⟨⟩
theorem law_holds.tw4849860309854900963 : True := ⟨⟩
theorem law_holds.tw4876030859914829391 : True := ⟨⟩
theorem law_holds.tw4901970850758211423 : True := ⟨⟩
theorem law_holds.tw4950163335756803191 : True := ⟨⟩
theorem law_holds.tw4979972625017091057 : True := ⟨⟩
theorem law_holds.tw4985795470993213491 : True := ⟨⟩
theorem law_holds.tw5008340288919297066 : True := ⟨⟩
theorem law_holds.tw5017332210750042726 : True := ⟨⟩
theorem law_holds.tw5052108655393440379 : True := ⟨⟩
theorem law_holds.tw506743240298087027 : True := ⟨⟩
theorem law_holds.tw5087525705666416661 : True := ⟨⟩
theorem law_holds.tw5089915087149146025 : True := ⟨⟩
theorem law_holds.tw5110782814596882122 : True := ⟨⟩
theorem law_holds.tw5133135820625276846 : True := ⟨⟩
theorem law_holds.tw5147096534534389983 : True := ⟨⟩
theorem law_holds.tw5151668508148962354 : True := ⟨⟩
theorem law_holds.tw5153776292520278984 : True := ⟨⟩
theorem law_holds.tw5204185632374725059 : True := ⟨⟩
theorem law_holds.tw5207933546004898340 : True := ⟨⟩
theorem law_holds.tw5234763537199472124 : True := ⟨⟩
theorem law_holds.tw52511332291770263 : True := ⟨⟩
theorem law_holds.tw5251778907238186554 : True := ⟨⟩
theorem law_holds.tw5252273577531491801 : True := ⟨⟩
theorem law_holds.tw5254653316807382424 : True := ⟨⟩
theorem law_holds.tw5259682433390885156 : True := ⟨⟩
theorem law_holds.tw5292481862841160903 : True := ⟨⟩
theorem law_holds.tw529919286605571474 : True := ⟨⟩
theorem law_holds.tw5323585352134873991 : True := ⟨⟩
theorem law_holds.tw5343956344451399457 : True := ⟨⟩
theorem law_holds.tw5351502252023869465 : True := ⟨⟩
theorem law_holds.tw5371478940459011324 : True := ⟨⟩
theorem law_holds.tw5377581552835455204 : True := ⟨⟩
theorem law_holds.tw539429642189191666 : True := ⟨⟩
theorem law_holds.tw5395015511446173118 : True := ⟨⟩
theorem law_holds.tw5398196035897892226 : True := ⟨⟩
theorem law_holds.tw5399014912539568940 : True := ⟨⟩
theorem law_holds.tw5406465180726372726 : True := ⟨⟩
theorem law_holds.tw5415726488274696200 : True := ⟨⟩
theorem law_holds.tw5421595778150577797 : True := ⟨⟩
theorem law_holds.tw5426549257784594560 : True := ⟨⟩
theorem law_holds.tw5434685445120116984 : True := ⟨⟩
theorem law_holds.tw5437495826831860471 : True := ⟨⟩
theorem law_holds.tw5443034096637047132 : True := ⟨⟩
theorem law_holds.tw5474448338290808517 : True := ⟨⟩
theorem law_holds.tw5479237226237886085 : True := ⟨⟩
theorem law_holds.tw5493551366427953980 : True := ⟨⟩
theorem law_holds.tw5494928178859417319 : True := ⟨⟩
theorem law_holds.tw5506365463273849476 : True := ⟨⟩
theorem law_holds.tw551031943176131036 : True := ⟨⟩
theorem law_holds.tw5524115401390070262 : True := ⟨⟩
theorem law_holds.tw5534763038050652368 : True := ⟨⟩
theorem law_holds.tw5537700233284470068 : True := ⟨⟩
theorem law_holds.tw5563594369341019860 : True := ⟨⟩
theorem law_holds.tw5566629302922229106 : True := ⟨⟩
theorem law_holds.tw5571331784030245386 : True := ⟨⟩
theorem law_holds.tw5583461003221923527 : True := ⟨⟩
theorem law_holds.tw5584584849882868591 : True := ⟨⟩
theorem law_holds.tw5598119136107251381 : True := ⟨⟩
theorem law_holds.tw5629535012779863784 : True := ⟨⟩
theorem law_holds.tw5693074339782467503 : True := ⟨⟩
theorem law_holds.tw5699884325488862353 : True := ⟨⟩
theorem law_holds.tw5706592873699523252 : True := ⟨⟩
theorem law_holds.tw5715644558667628750 : True := ⟨⟩
theorem law_holds.tw5729494871981742667 : True := ⟨⟩
theorem law_holds.tw5732514420114073871 : True := ⟨⟩
theorem law_holds.tw5736210942420022268 : True := ⟨⟩
theorem law_holds.tw5740101773578122934 : True := ⟨⟩
theorem law_holds.tw5818251920268019377 : True := ⟨⟩
theorem law_holds.tw5819292216240235727 : True := ⟨⟩
theorem law_holds.tw5819395259313083441 : True := ⟨⟩
theorem law_holds.tw5842442280746134516 : True := ⟨⟩
theorem law_holds.tw5851916782012811623 : True := ⟨⟩
theorem law_holds.tw5903352873528678952 : True := ⟨⟩
theorem law_holds.tw5918364481960050308 : True := ⟨⟩
theorem law_holds.tw5932317096686338098 : True := ⟨⟩
theorem law_holds.tw5938560685925602538 : True := ⟨⟩
theorem law_holds.tw5951685003192960048 : True := ⟨⟩
theorem law_holds.tw5998829540053360125 : True := ⟨⟩
theorem law_holds.tw6010379739275336881 : True := ⟨⟩
theorem law_holds.tw601578710813583703 : True := ⟨⟩
theorem law_holds.tw6016976343876686038 : True := ⟨⟩
theorem law_holds.tw6022852814287937133 : True := ⟨⟩
theorem law_holds.tw6034732412076144413 : True := ⟨⟩
theorem law_holds.tw6036482054944521981 : True := ⟨⟩
theorem law_holds.tw6051651527816196607 : True := ⟨⟩
theorem law_holds.tw6077059754725117013 : True := ⟨⟩
theorem law_holds.tw6127791514973522163 : True := ⟨⟩
theorem law_holds.tw6133554852087260691 : True := ⟨⟩
theorem law_holds.tw6140565629680380977 : True := ⟨⟩
theorem law_holds.tw6144133458237070331 : True := ⟨⟩
theorem law_holds.tw6176655863731346194 : True := ⟨⟩
theorem law_holds.tw6177396298529605930 : True := ⟨⟩
theorem law_holds.tw6184928296728329002 : True := ⟨⟩
theorem law_holds.tw6186672954247917894 : True := ⟨⟩
theorem law_holds.tw6212830139617025578 : True := ⟨⟩
theorem law_holds.tw6221411948354797945 : True := ⟨⟩
theorem law_holds.tw6223995652454535887 : True := ⟨⟩
theorem law_holds.tw6248976444578398005 : True := ⟨⟩
theorem law_holds.tw6261706596461817443 : True := ⟨⟩
theorem law_holds.tw6263539696778851418 : True := ⟨⟩
theorem law_holds.tw6283718152115230795 : True := ⟨⟩
theorem law_holds.tw6295040559773790228 : True := ⟨⟩
theorem law_holds.tw6316117559184610088 : True := ⟨⟩
theorem law_holds.tw6321999332247513237 : True := ⟨⟩
theorem law_holds.tw6324971497153211190 : True := ⟨⟩
theorem law_holds.tw6359611341199342297 : True := ⟨⟩
theorem law_holds.tw6377231108899490172 : True := ⟨⟩
theorem law_holds.tw6390893942047581908 : True := ⟨⟩
theorem law_holds.tw6396018772750514117 : True := ⟨⟩
theorem law_holds.tw639856022091608013 : True := ⟨⟩
theorem law_holds.tw641069890051535669 : True := ⟨⟩
theorem law_holds.tw6421311923502155086 : True := ⟨⟩
theorem law_holds.tw6445251132690535007 : True := ⟨⟩
theorem law_holds.tw6487131204830412759 : True := ⟨⟩
theorem law_holds.tw6538842013300302665 : True := ⟨⟩
theorem law_holds.tw6563813654050196681 : True := ⟨⟩
theorem law_holds.tw6580754395117271216 : True := ⟨⟩
theorem law_holds.tw6602955541193331264 : True := ⟨⟩
theorem law_holds.tw662520818818938856 : True := ⟨⟩
theorem law_holds.tw6628250070850608324 : True := ⟨⟩
theorem law_holds.tw6643719680787777536 : True := ⟨⟩
theorem law_holds.tw6649393370552202310 : True := ⟨⟩
theorem law_holds.tw667962079771305719 : True := ⟨⟩
theorem law_holds.tw6688853492475608759 : True := ⟨⟩
theorem law_holds.tw6706275042166694327 : True := ⟨⟩
theorem law_holds.tw6709601744731687290 : True := ⟨⟩
theorem law_holds.tw6755760779139687155 : True := ⟨⟩
theorem law_holds.tw6781539773177850689 : True := ⟨⟩
theorem law_holds.tw6794253747731740053 : True := ⟨⟩
theorem law_holds.tw6813486931433335416 : True := ⟨⟩
theorem law_holds.tw6837652979531677480 : True := ⟨⟩
theorem law_holds.tw6843420574586489447 : True := ⟨⟩
theorem law_holds.tw6850840018543530838 : True := ⟨⟩
theorem law_holds.tw6856747224953307501 : True := ⟨⟩
theorem law_holds.tw6870650073982948662 : True := ⟨⟩
theorem law_holds.tw6872779065146406336 : True := ⟨⟩
theorem law_holds.tw6897256638291161033 : True := ⟨⟩
theorem law_holds.tw6903045149959170528 : True := ⟨⟩
theorem law_holds.tw6905140359005604432 : True := ⟨⟩
theorem law_holds.tw6927199922263660062 : True := ⟨⟩
theorem law_holds.tw6944131416009549816 : True := ⟨⟩
theorem law_holds.tw699192441252260624 : True := ⟨⟩
theorem law_holds.tw6999260081441663980 : True := ⟨⟩
theorem law_holds.tw7024728042715960364 : True := ⟨⟩
theorem law_holds.tw7024844901155955530 : True := ⟨⟩
theorem law_holds.tw7030507843311391532 : True := ⟨⟩
theorem law_holds.tw7037840567583918293 : True := ⟨⟩
theorem law_holds.tw7061554762735017939 : True := ⟨⟩
theorem law_holds.tw7061811974526621000 : True := ⟨⟩
theorem law_holds.tw7069974363141443978 : True := ⟨⟩
theorem law_holds.tw7087718201724702785 : True := ⟨⟩
theorem law_holds.tw7157260338207693755 : True := ⟨⟩
theorem law_holds.tw7162183143851896978 : True := ⟨⟩
theorem law_holds.tw7167067955147353079 : True := ⟨⟩
theorem law_holds.tw7169138208424716122 : True := ⟨⟩
theorem law_holds.tw7169702083138439530 : True := ⟨⟩
theorem law_holds.tw7171587898173889817 : True := ⟨⟩
theorem law_holds.tw7175514020577337764 : True := ⟨⟩
theorem law_holds.tw7184368546822179155 : True := ⟨⟩
theorem law_holds.tw7196880309991325438 : True := ⟨⟩
theorem law_holds.tw7225887024180972581 : True := ⟨⟩
theorem law_holds.tw7233210510568292887 : True := ⟨⟩
theorem law_holds.tw7248439185785422306 : True := ⟨⟩
theorem law_holds.tw7256784262048207505 : True := ⟨⟩
theorem law_holds.tw730492368305203504 : True := ⟨⟩
theorem law_holds.tw7315759468603354569 : True := ⟨⟩
theorem law_holds.tw731897986773541871 : True := ⟨⟩
theorem law_holds.tw7336291615009333687 : True := ⟨⟩
theorem law_holds.tw7344768234173956687 : True := ⟨⟩
theorem law_holds.tw7369197431544117615 : True := ⟨⟩
theorem law_holds.tw7372883884821884913 : True := ⟨⟩
theorem law_holds.tw7383772283646570943 : True := ⟨⟩
theorem law_holds.tw7392001688485097112 : True := ⟨⟩
theorem law_holds.tw7394628528939476120 : True := ⟨⟩
theorem law_holds.tw7400313747584299755 : True := ⟨⟩
theorem law_holds.tw7434023939599359409 : True := ⟨⟩
theorem law_holds.tw7437797899400249404 : True := ⟨⟩
theorem law_holds.tw7465285853582405033 : True := ⟨⟩
theorem law_holds.tw7465946594951893332 : True := ⟨⟩
theorem law_holds.tw7503560309257533079 : True := ⟨⟩
theorem law_holds.tw752526100618188950 : True := ⟨⟩
theorem law_holds.tw7541660855294436597 : True := ⟨⟩
theorem law_holds.tw7543917035587753951 : True := ⟨⟩
theorem law_holds.tw7551728410397866126 : True := ⟨⟩
theorem law_holds.tw7563517962219538281 : True := ⟨⟩
theorem law_holds.tw7566316145059767344 : True := ⟨⟩
theorem law_holds.tw7597761171536547773 : True := ⟨⟩
theorem law_holds.tw7607293292133714491 : True := ⟨⟩
theorem law_holds.tw7627454936127201829 : True := ⟨⟩
theorem law_holds.tw7633921477753117108 : True := ⟨⟩
theorem law_holds.tw7635814884133047336 : True := ⟨⟩
theorem law_holds.tw7642654819043241766 : True := ⟨⟩
theorem law_holds.tw765735855877469840 : True := ⟨⟩
theorem law_holds.tw7684756499535975752 : True := ⟨⟩
theorem law_holds.tw7691290055495609548 : True := ⟨⟩
theorem law_holds.tw7695469811002637227 : True := ⟨⟩
theorem law_holds.tw7697903565773172328 : True := ⟨⟩
theorem law_holds.tw7715484707741255598 : True := ⟨⟩
theorem law_holds.tw7716275977170095280 : True := ⟨⟩
theorem law_holds.tw7718345581638295084 : True := ⟨⟩
theorem law_holds.tw7749500435485652506 : True := ⟨⟩
theorem law_holds.tw7759184881987842275 : True := ⟨⟩
theorem law_holds.tw7763557743030449905 : True := ⟨⟩
theorem law_holds.tw7772873224705659071 : True := ⟨⟩
theorem law_holds.tw7780690812501865382 : True := ⟨⟩
theorem law_holds.tw779040832085105847 : True := ⟨⟩
theorem law_holds.tw7796497442302858508 : True := ⟨⟩
theorem law_holds.tw78107186244348036 : True := ⟨⟩
theorem law_holds.tw7810968484671583242 : True := ⟨⟩
theorem law_holds.tw7828608217760402600 : True := ⟨⟩
theorem law_holds.tw7829643694357266700 : True := ⟨⟩
theorem law_holds.tw7847578368169656071 : True := ⟨⟩
theorem law_holds.tw7859593337515105314 : True := ⟨⟩
theorem law_holds.tw7868253006190103933 : True := ⟨⟩
theorem law_holds.tw7868683902225705658 : True := ⟨⟩
theorem law_holds.tw788213055921105727 : True := ⟨⟩
theorem law_holds.tw7884859445800082450 : True := ⟨⟩
theorem law_holds.tw7887719364632991320 : True := ⟨⟩
theorem law_holds.tw7909160657932239991 : True := ⟨⟩
theorem law_holds.tw7911452818888771984 : True := ⟨⟩
theorem law_holds.tw7924467266806860935 : True := ⟨⟩
theorem law_holds.tw7941816697816387665 : True := ⟨⟩
theorem law_holds.tw7957866122855027747 : True := ⟨⟩
theorem law_holds.tw7974119267519773825 : True := ⟨⟩
theorem law_holds.tw7987087052124640753 : True := ⟨⟩
theorem law_holds.tw7995890100285004695 : True := ⟨⟩
theorem law_holds.tw8014668508954076283 : True := ⟨⟩
theorem law_holds.tw8018709568446234420 : True := ⟨⟩
theorem law_holds.tw8025318189084422489 : True := ⟨⟩
theorem law_holds.tw8032975875600646658 : True := ⟨⟩
theorem law_holds.tw8038560479497934242 : True := ⟨⟩
theorem law_holds.tw804924779090048940 : True := ⟨⟩
theorem law_holds.tw8065708261421597550 : True := ⟨⟩
theorem law_holds.tw8070870276264628078 : True := ⟨⟩
theorem law_holds.tw8074699170489171063 : True := ⟨⟩
theorem law_holds.tw8077294017926081194 : True := ⟨⟩
theorem law_holds.tw8093037037605047061 : True := ⟨⟩
theorem law_holds.tw8099118471888960505 : True := ⟨⟩
theorem law_holds.tw8103685721936751374 : True := ⟨⟩
theorem law_holds.tw8103863355109255106 : True := ⟨⟩
theorem law_holds.tw8109204369831507355 : True := ⟨⟩
theorem law_holds.tw8125511377155599366 : True := ⟨⟩
theorem law_holds.tw8139555031819708711 : True := ⟨⟩
theorem law_holds.tw8144471843988157758 : True := ⟨⟩
theorem law_holds.tw8149104446053456362 : True := ⟨⟩
theorem law_holds.tw8156335967652280080 : True := ⟨⟩
theorem law_holds.tw8163398234834210987 : True := ⟨⟩
theorem law_holds.tw8166493798756166538 : True := ⟨⟩
theorem law_holds.tw8186092114708655833 : True := ⟨⟩
theorem law_holds.tw8199813393846757917 : True := ⟨⟩
theorem law_holds.tw8200853363815597587 : True := ⟨⟩
theorem law_holds.tw8201729747808908889 : True := ⟨⟩
theorem law_holds.tw8203703669665040572 : True := ⟨⟩
theorem law_holds.tw8206802535798301633 : True := ⟨⟩
theorem law_holds.tw8208840891363283353 : True := ⟨⟩
theorem law_holds.tw8239381948408066243 : True := ⟨⟩
theorem law_holds.tw825265882958197517 : True := ⟨⟩
theorem law_holds.tw8256855089124271314 : True := ⟨⟩
theorem law_holds.tw8266362666033387899 : True := ⟨⟩
theorem law_holds.tw8322237034199595223 : True := ⟨⟩
theorem law_holds.tw8358759442645766812 : True := ⟨⟩
theorem law_holds.tw8367079180091429766 : True := ⟨⟩
theorem law_holds.tw8381104069914272843 : True := ⟨⟩
theorem law_holds.tw8395258674327285328 : True := ⟨⟩
theorem law_holds.tw8396589694125044584 : True := ⟨⟩
theorem law_holds.tw8418265676924973670 : True := ⟨⟩
theorem law_holds.tw8423900849904634105 : True := ⟨⟩
theorem law_holds.tw8442287029142007789 : True := ⟨⟩
theorem law_holds.tw845530119197073048 : True := ⟨⟩
theorem law_holds.tw8468936669523417091 : True := ⟨⟩
theorem law_holds.tw8471777533457572852 : True := ⟨⟩
theorem law_holds.tw847228135895388815 : True := ⟨⟩
theorem law_holds.tw8483097743654936196 : True := ⟨⟩
theorem law_holds.tw8515416724681217883 : True := ⟨⟩
theorem law_holds.tw8555481549436495192 : True := ⟨⟩
theorem law_holds.tw8573866224696443046 : True := ⟨⟩
theorem law_holds.tw8586856768272215845 : True := ⟨⟩
theorem law_holds.tw8591622151335721110 : True := ⟨⟩
theorem law_holds.tw8620283192408784220 : True := ⟨⟩
theorem law_holds.tw8631666224113478747 : True := ⟨⟩
theorem law_holds.tw8635280829074476666 : True := ⟨⟩
theorem law_holds.tw8637776418051416067 : True := ⟨⟩
theorem law_holds.tw8639255974458019096 : True := ⟨⟩
theorem law_holds.tw8645660998246413497 : True := ⟨⟩
theorem law_holds.tw8679561505657196356 : True := ⟨⟩
theorem law_holds.tw8682973217009864966 : True := ⟨⟩
theorem law_holds.tw8694592327239139306 : True := ⟨⟩
theorem law_holds.tw8704171657636110707 : True := ⟨⟩
theorem law_holds.tw8727196657049974503 : True := ⟨⟩
theorem law_holds.tw872744315506602791 : True := ⟨⟩
theorem law_holds.tw8730056209988255791 : True := ⟨⟩
theorem law_holds.tw8745376169424833554 : True := ⟨⟩
theorem law_holds.tw8751086266197463039 : True := ⟨⟩
theorem law_holds.tw8757508109560861665 : True := ⟨⟩
theorem law_holds.tw8773684679659565527 : True := ⟨⟩
theorem law_holds.tw8784615498310149159 : True := ⟨⟩
theorem law_holds.tw8788173960243886273 : True := ⟨⟩
theorem law_holds.tw8795117101730493811 : True := ⟨⟩
theorem law_holds.tw8798074145341486527 : True := ⟨⟩
theorem law_holds.tw881485354220949422 : True := ⟨⟩
theorem law_holds.tw8828185795117742976 : True := ⟨⟩
theorem law_holds.tw8830844624916864226 : True := ⟨⟩
theorem law_holds.tw8840619573213389982 : True := ⟨⟩
theorem law_holds.tw8847927919486677861 : True := ⟨⟩
theorem law_holds.tw8865357965324255836 : True := ⟨⟩
theorem law_holds.tw8870245463276582443 : True := ⟨⟩
theorem law_holds.tw888860983598771518 : True := ⟨⟩
theorem law_holds.tw8910519523940292583 : True := ⟨⟩
theorem law_holds.tw8921856957120368955 : True := ⟨⟩
theorem law_holds.tw8933063201368737439 : True := ⟨⟩
theorem law_holds.tw89776554899398712 : True := ⟨⟩
theorem law_holds.tw8983786695497184357 : True := ⟨⟩
theorem law_holds.tw9000564089578342679 : True := ⟨⟩
theorem law_holds.tw9014988946636121238 : True := ⟨⟩
theorem law_holds.tw9033918729896555874 : True := ⟨⟩
theorem law_holds.tw9043832060137614503 : True := ⟨⟩
theorem law_holds.tw9047853068694276106 : True := ⟨⟩
theorem law_holds.tw9052006383513732284 : True := ⟨⟩
theorem law_holds.tw9065688235729800081 : True := ⟨⟩
theorem law_holds.tw9083378405223148526 : True := ⟨⟩
theorem law_holds.tw9098059541469341823 : True := ⟨⟩
theorem law_holds.tw9103351929552661644 : True := ⟨⟩
theorem law_holds.tw9114557954810945152 : True := ⟨⟩
theorem law_holds.tw9115980463277819874 : True := ⟨⟩
theorem law_holds.tw9145377748468573476 : True := ⟨⟩
theorem law_holds.tw9153627707589507100 : True := ⟨⟩
theorem law_holds.tw9160356579194910760 : True := ⟨⟩
theorem law_holds.tw916048733897660866 : True := ⟨⟩
theorem law_holds.tw9171446728739544333 : True := ⟨⟩
theorem law_holds.tw917296547406721109 : True := ⟨⟩
theorem law_holds.tw9182053601086510119 : True := ⟨⟩
theorem law_holds.tw9186596914465334266 : True := ⟨⟩
theorem law_holds.tw9197985578514851744 : True := ⟨⟩
theorem law_holds.tw9202174022908483616 : True := ⟨⟩
theorem law_holds.tw9218185353104826222 : True := ⟨⟩
theorem law_holds.tw9223192230247981079 : True := ⟨⟩
theorem law_holds.tw9235745265203489004 : True := ⟨⟩
theorem law_holds.tw9238023934291015350 : True := ⟨⟩
theorem law_holds.tw9250942757114895413 : True := ⟨⟩
theorem law_holds.tw9282595258154428456 : True := ⟨⟩
theorem law_holds.tw9296647074526443410 : True := ⟨⟩
theorem law_holds.tw9339144860237004601 : True := ⟨⟩
theorem law_holds.tw9352799006674824113 : True := ⟨⟩
theorem law_holds.tw9355049704947024209 : True := ⟨⟩
theorem law_holds.tw9357996681111318972 : True := ⟨⟩
theorem law_holds.tw9366196355081699305 : True := ⟨⟩
theorem law_holds.tw938875446291994632 : True := ⟨⟩
theorem law_holds.tw9391962420928798319 : True := ⟨⟩
theorem law_holds.tw9393035162425637084 : True := ⟨⟩
theorem law_holds.tw9423563272980761902 : True := ⟨⟩
theorem law_holds.tw9498451855169893069 : True := ⟨⟩
theorem law_holds.tw9516635918346777160 : True := ⟨⟩
theorem law_holds.tw9517940830949106622 : True := ⟨⟩
theorem law_holds.tw9521952519146563043 : True := ⟨⟩
theorem law_holds.tw9533955959483089070 : True := ⟨⟩
theorem law_holds.tw9548659149749368722 : True := ⟨⟩
theorem law_holds.tw9551464435721023563 : True := ⟨⟩
theorem law_holds.tw9558397749051876499 : True := ⟨⟩
theorem law_holds.tw9587146755827534187 : True := ⟨⟩
theorem law_holds.tw959224218611506761 : True := ⟨⟩
theorem law_holds.tw9630761377655522510 : True := ⟨⟩
theorem law_holds.tw9634423288516120725 : True := ⟨⟩
theorem law_holds.tw9637868992724495313 : True := ⟨⟩
theorem law_holds.tw9657181182220474060 : True := ⟨⟩
theorem law_holds.tw9671075076107538373 : True := ⟨⟩
theorem law_holds.tw9694394888857221972 : True := ⟨⟩
theorem law_holds.tw9694808114699475414 : True := ⟨⟩
theorem law_holds.tw9696522232826986840 : True := ⟨⟩
theorem law_holds.tw9712068381268323460 : True := ⟨⟩
theorem law_holds.tw9713480048238537112 : True := ⟨⟩
theorem law_holds.tw9722791815806625547 : True := ⟨⟩
theorem law_holds.tw9725065213104046677 : True := ⟨⟩
theorem law_holds.tw9744547886822531957 : True := ⟨⟩
theorem law_holds.tw9767058633984401571 : True := ⟨⟩
theorem law_holds.tw9850498717926082200 : True := ⟨⟩
theorem law_holds.tw9853267866803610317 : True := ⟨⟩
theorem law_holds.tw9861862832580343430 : True := ⟨⟩
theorem law_holds.tw9866614257718322368 : True := ⟨⟩
theorem law_holds.tw9869317357967629387 : True := ⟨⟩
theorem law_holds.tw9879769987719826016 : True := ⟨⟩
theorem law_holds.tw9880308331015021578 : True := ⟨⟩
theorem law_holds.tw9881658726804894681 : True := ⟨⟩
theorem law_holds.tw9899436004599513650 : True := ⟨⟩
theorem law_holds.tw9909649244267995113 : True := ⟨⟩
theorem law_holds.tw9932613054396427188 : True := ⟨⟩
theorem law_holds.tw9938135366764887139 : True := ⟨⟩
theorem law_holds.tw996808951207199039 : True := ⟨⟩
theorem law_holds.tw9970070517468002034 : True := ⟨⟩
theorem law_holds.tw997167136698901050 : True := ⟨⟩
theorem law_holds.tw997407968666022522 : True := ⟨⟩
theorem law_holds.tw998594909086684707 : True := ⟨⟩
/-- what is left of the law behind the head: the call of `law` (proved at the end: fin2) -/
noncomputable def FinT : Prop := ∀ (hK : Params → Frag) (vw : Program), (∀ P, Mini.chkAll PySem.Challenge.rw_zu0062_02.row.prog (hK P) Mini.L2.P = true) → importsNone vw = true →
    ∀ {w : World} {s : Shared} {mg mb : Str → Option Value} {fa a : Addr} {vs : List Value} {ns : List Int} {mean' : ExcName → Option Value} {cl : Str → Option Addr} {E : Value → Shared → Prop}, (hK w.params).In s.heap →
    ∀ {loose : List Str} {mean : ExcName → Option Value}, Top vw loose mean mg mb s.heap → s.gens = #[] → mg "law" = some (.ref fa) → s.heap.IsList a vs.toArray → IntsAre vs ns → ¬ (63 : Int) < ns.length →
    wpAny (model PySem.Challenge.rw_zu0062_02.row.prog w) callerA (call (.ref fa) [.ref a])
      (fun v s' => GoodWG PySem.Challenge.rw_zu0062_02.row.claim cl mean' [ofPy (PyData.list (List.map PyData.int ns))] s (.ok (.ret v)) s') E s
set_option hygiene false
-- the head clears what stands beside its goal: so the fact that is left to prove goes through it with what is said of the heap
local macro_rules | `(tactic| refine $f:ident ($n1:ident := $q) ($n2:ident := $l) ($n3:ident := $x) ($n4:ident := $xp) ($n5:ident := $yf) ($n6:ident := $ya) ($n7:ident := $yp) ($n8:ident := $n) $hl $of $kp $rest*) => `(tactic| refine ($f ($n1:ident := $q) ($n2:ident := $l) ($n3:ident := $x) ($n4:ident := $xp) ($n5:ident := $yf) ($n6:ident := $ya) ($n7:ident := fun w h => $yp w h ∧ FinT) ($n8:ident := $n) $hl (fun w s e => ⟨$of w s e, fin⟩) (fun w h h' s k => ⟨$kp w h h' s.1 k, s.2⟩) $rest*))
/-- the head -/
theorem law_holds (fin : FinT) : PySem.Challenge.rw_zu0062_02.Holds := by
  w_on
  o_law
  k_head
  (case hw => w_witness2)
  k_fill
  intro w s₀ s₁ mg mb G Y fa o pm cd doc dV kV ho hd hcd hD hmg hg args vals as hpre hlay hrd hwl hlo
  have KX := kIn_of Y.1
  have fin := Y.2
  have X := (Ground.X G).1
  have V := (Ground.X G).2
  refine Ground.open G ?_
  intro T B D TE TW
  try (refine guard_noD D (by decide +kernel) ?_; clear D)
  obtain ⟨_, _, M⟩ := bmod_of_top T
  have TA := at_of_top T
  wrow_args hpre hlay hrd hwl hlo
  all_goals (apply fin _ _ ?chk ?imp KX T hg hmg; (case chk => intro P; kernel_rfl); (case imp => kernel_rfl); assumption; assumption; assumption)

end PJ2
end
section
set_option autoImplicit false
namespace Mini
open PySem PySem.Calls
open PySem.W (Frag)

set_option genInjectivity false in
set_option genSizeOf false in
/-- where the objects that change lie; and lists that are being built and that no value may show -/
structure Rh where
  l : List (Addr × Addr)
  z : List Addr
noncomputable instance : GetElem? Rh Nat (Addr × Addr) (fun ρ i => i < ρ.l.length) where
  getElem ρ i h := ρ.l[i]
  getElem? ρ i := ρ.l[i]?
noncomputable instance : HAppend Rh (List (Addr × Addr)) Rh := ⟨fun ρ ps => ⟨ρ.l ++ ps, ρ.z⟩⟩
noncomputable def Rh.nil : Rh := ⟨[], []⟩
theorem Rh.at_ (ρ : Rh) (i : Nat) : ρ[i]? = ρ.l[i]? := rfl
theorem Rh.app_l (ρ : Rh) (ps : List (Addr × Addr)) : (ρ ++ ps).l = ρ.l ++ ps := rfl
theorem Rh.app_z (ρ : Rh) (ps : List (Addr × Addr)) : (ρ ++ ps).z = ρ.z := rfl

noncomputable def O.live : O → Bool
  | .dead => false
  | _ => true

/-- the addresses of the objects that may still change -/
noncomputable def Own (ρ : Rh) (H : Hp) (a : Addr) : Prop := ∃ (i : Nat) (p : Addr × Addr) (o : O), ρ[i]? = some p ∧ H[i]? = some o ∧ o.live = true ∧ (a = p.1 ∨ a = p.2)

/-- no value may show it -/
noncomputable def Shy (ρ : Rh) (H : Hp) (a : Addr) : Prop := Own ρ H a ∨ a ∈ ρ.z

mutual
inductive VR (ρ : Rh) (H : Hp) (h : Heap) : V → Value → Prop
  | none : VR ρ H h .none .none
  | bool (b : Bool) : VR ρ H h (.bool b) (.bool b)
  | int (i : Int) (t : Tok) : VR ρ H h (.int i) (.int i t)
  | str (s : Nat) (t : Tok) : VR ρ H h (.str s) (.str (nm s) t)
  | tup {a : Addr} {vs : List V} {items : Array Value} : h.IsTuple a items → VRs ρ H h vs items.toList → VR ρ H h (.tup vs) (.ref a)
  | lst {a : Addr} {vs : List V} {items : Array Value} : h.IsList a items → ¬ Shy ρ H a → VRs ρ H h vs items.toList → VR ρ H h (.lst vs) (.ref a)
  | ref {n : Nat} {p : Addr × Addr} : ρ[n]? = some p → VR ρ H h (.ref n) (.ref p.1)
inductive VRs (ρ : Rh) (H : Hp) (h : Heap) : List V → List Value → Prop
  | nil : VRs ρ H h [] []
  | cons {v : V} {x : Value} {vs : List V} {xs : List Value} : VR ρ H h v x → VRs ρ H h vs xs → VRs ρ H h (v :: vs) (x :: xs)
end

theorem V.ind {p : V → Prop} {q : List V → Prop} (none : p .none) (bool : ∀ b, p (.bool b)) (int : ∀ i, p (.int i)) (str : ∀ s, p (.str s)) (tup : ∀ l, q l → p (.tup l)) (lst : ∀ l, q l → p (.lst l)) (ref : ∀ n, p (.ref n)) (nil : q []) (cons : ∀ v l, p v → q l → q (v :: l)) : (∀ v, p v) ∧ ∀ l, q l :=
  ⟨V.rec none bool int str tup lst ref nil cons, V.rec_1 none bool int str tup lst ref nil cons⟩
theorem VR.ind {ρ : Rh} {H : Hp} {h : Heap} {p : V → Value → Prop} {q : List V → List Value → Prop} (none : p .none .none) (bool : ∀ b, p (.bool b) (.bool b)) (int : ∀ i t, p (.int i) (.int i t)) (str : ∀ s t, p (.str s) (.str (nm s) t))
    (tup : ∀ {a vs items}, h.IsTuple a items → q vs items.toList → p (.tup vs) (.ref a)) (lst : ∀ {a vs items}, h.IsList a items → ¬ Shy ρ H a → q vs items.toList → p (.lst vs) (.ref a)) (ref : ∀ {n r}, ρ[n]? = some r → p (.ref n) (.ref r.1))
    (nil : q [] []) (cons : ∀ {v x vs xs}, p v x → q vs xs → q (v :: vs) (x :: xs)) : (∀ {v x}, VR ρ H h v x → p v x) ∧ ∀ {vs xs}, VRs ρ H h vs xs → q vs xs :=
  ⟨VR.rec (motive_1 := fun v x _ => p v x) (motive_2 := fun vs xs _ => q vs xs) none bool int str (fun a _ i => tup a i) (fun a n _ i => lst a n i) ref nil fun _ _ i j => cons i j,
    VRs.rec (motive_1 := fun v x _ => p v x) (motive_2 := fun vs xs _ => q vs xs) none bool int str (fun a _ i => tup a i) (fun a n _ i => lst a n i) ref nil fun _ _ i j => cons i j⟩
theorem VRs.ind {ρ : Rh} {H : Hp} {h : Heap} {q : List V → List Value → Prop} (nil : q [] []) (cons : ∀ {v x vs xs}, VR ρ H h v x → VRs ρ H h vs xs → q vs xs → q (v :: vs) (x :: xs)) : ∀ {vs xs}, VRs ρ H h vs xs → q vs xs :=
  VRs.rec (motive_1 := fun _ _ _ => True) (motive_2 := fun vs xs _ => q vs xs) trivial (fun _ => trivial) (fun _ _ => trivial) (fun _ _ => trivial) (fun _ _ _ => trivial) (fun _ _ _ _ => trivial) (fun _ => trivial) nil fun a b _ j => cons a b j

section
variable {ρ : Rh} {H : Hp} {h : Heap} {z : Value} {p : Value → Prop}
@[elab_as_elim] theorem VR.noneE (r : VR ρ H h .none z) (k : p .none) : p z := by cases r; exact k
@[elab_as_elim] theorem VR.boolE {b : Bool} (r : VR ρ H h (.bool b) z) (k : p (.bool b)) : p z := by cases r; exact k
@[elab_as_elim] theorem VRs.consE {ρ : Rh} {H : Hp} {h : Heap} {v : V} {vs : List V} {xs : List Value} {P : List Value → Prop} (r : VRs ρ H h (v :: vs) xs) (k : ∀ {x xs}, VR ρ H h v x → VRs ρ H h vs xs → P (x :: xs)) : P xs := by
  cases r with
  | cons a b => exact k a b
@[elab_as_elim] theorem VR.intE {i : Int} (r : VR ρ H h (.int i) z) (k : ∀ t, p (.int i t)) : p z := by cases r; exact k _
@[elab_as_elim] theorem VR.strE {i : Nat} (r : VR ρ H h (.str i) z) (k : ∀ t, p (.str (nm i) t)) : p z := by cases r; exact k _
@[elab_as_elim] theorem VR.tupE {vs : List V} (r : VR ρ H h (.tup vs) z) (k : ∀ {a items}, h.IsTuple a items → VRs ρ H h vs items.toList → p (.ref a)) : p z := by cases r with | tup a b => exact k a b
@[elab_as_elim] theorem VR.lstE {vs : List V} (r : VR ρ H h (.lst vs) z) (k : ∀ {a items}, h.IsList a items → ¬ Shy ρ H a → VRs ρ H h vs items.toList → p (.ref a)) : p z := by cases r with | lst a b c => exact k a b c
@[elab_as_elim] theorem VR.refE {n : Nat} (r : VR ρ H h (.ref n) z) (k : ∀ {q}, ρ[n]? = some q → p (.ref q.1)) : p z := by cases r with | ref e => exact k e
end

/-- what of the heap lasts: tuples all, lists that nobody owns -/
structure Lasts (ρ : Rh) (H : Hp) (h : Heap) (ρ' : Rh) (H' : Hp) (h' : Heap) : Prop where
  ext : ρ.l <+: ρ'.l
  tup : ∀ a items, h.IsTuple a items → h'.IsTuple a items
  lst : ∀ a items, h.IsList a items → ¬ Shy ρ H a → h'.IsList a items ∧ ¬ Shy ρ' H' a

theorem getElem?_of_prefix {α : Type} {l l' : List α} (h : l <+: l') {i : Nat} {x : α} (e : l[i]? = some x) : l'[i]? = some x := by
  obtain ⟨t, rfl⟩ := h
  have hi : i < l.length := by
    rcases Nat.lt_or_ge i l.length with q | q
    · exact q
    · rw [List.getElem?_eq_none q] at e; cases e
  rw [List.getElem?_append_left hi]; exact e

theorem lasts_ind {ρ ρ' : Rh} {H H' : Hp} {h h' : Heap} (L : Lasts ρ H h ρ' H' h') : (∀ {v : V} {x : Value}, VR ρ H h v x → VR ρ' H' h' v x) ∧ ∀ {v : List V} {x : List Value}, VRs ρ H h v x → VRs ρ' H' h' v x :=
  VR.ind .none .bool .int .str (fun a b => .tup (L.tup _ _ a) b) (fun a n b => .lst (L.lst _ _ a n).1 (L.lst _ _ a n).2 b) (fun e => .ref (getElem?_of_prefix L.ext e)) .nil fun a b => .cons a b
section
variable {ρ ρ' : Rh} {H H' : Hp} {h h' : Heap}
theorem VR.lasts (L : Lasts ρ H h ρ' H' h') {v : V} {x : Value} (r : VR ρ H h v x) : VR ρ' H' h' v x := (lasts_ind L).1 r
theorem VRs.lasts (L : Lasts ρ H h ρ' H' h') {v : List V} {x : List Value} (r : VRs ρ H h v x) : VRs ρ' H' h' v x := (lasts_ind L).2 r
theorem VRs.length {v : List V} {x : List Value} (r : VRs ρ H h v x) : v.length = x.length := VRs.ind (q := fun v x => v.length = x.length) rfl (fun _ _ b => congrArg (· + 1) b) r
theorem VRs.append {v v' : List V} {x x' : List Value} (r : VRs ρ H h v x) (y : VRs ρ H h v' x') : VRs ρ H h (v ++ v') (x ++ x') := VRs.ind (q := fun v x => VRs ρ H h (v ++ v') (x ++ x')) y (fun a _ b => .cons a b) r
theorem VRs.get {vs : List V} {xs : List Value} (r : VRs ρ H h vs xs) : ∀ {i : Nat} {v : V}, vs[i]? = some v → ∃ x, xs[i]? = some x ∧ VR ρ H h v x :=
  VRs.ind (q := fun vs xs => ∀ {i : Nat} {v : V}, vs[i]? = some v → ∃ x, xs[i]? = some x ∧ VR ρ H h v x) (fun e => by cases e) (by
    intro _ _ _ _ a _ b i v e
    induction i using Nat.casesAuxOn with
    | zero => cases e; exact ⟨_, rfl, a⟩
    | succ i => exact b e) r
theorem VRs.set {vs : List V} {xs : List Value} (r : VRs ρ H h vs xs) : ∀ (i : Nat) {v : V} {x : Value}, VR ρ H h v x → VRs ρ H h (vs.set i v) (xs.set i x) :=
  VRs.ind (q := fun vs xs => ∀ (i : Nat) {v : V} {x : Value}, VR ρ H h v x → VRs ρ H h (vs.set i v) (xs.set i x)) (fun _ _ _ _ => .nil) (by
    intro _ _ _ _ a y b i v x q
    induction i using Nat.casesAuxOn with
    | zero => exact .cons q y
    | succ i => exact .cons a (b i q)) r
theorem VRs.take {vs : List V} {xs : List Value} (n : Nat) (r : VRs ρ H h vs xs) : VRs ρ H h (vs.take n) (xs.take n) :=
  VRs.ind (q := fun vs xs => ∀ n, VRs ρ H h (vs.take n) (xs.take n)) (fun n => by induction n using Nat.casesAuxOn <;> exact .nil) (by
    intro _ _ _ _ a y b n
    induction n using Nat.casesAuxOn with
    | zero => exact .nil
    | succ n => exact .cons a (b n)) r n
theorem VRs.drop {vs : List V} {xs : List Value} (n : Nat) (r : VRs ρ H h vs xs) : VRs ρ H h (vs.drop n) (xs.drop n) :=
  VRs.ind (q := fun vs xs => ∀ n, VRs ρ H h (vs.drop n) (xs.drop n)) (fun n => by induction n using Nat.casesAuxOn <;> exact .nil) (by
    intro _ _ _ _ a y b n
    induction n using Nat.casesAuxOn with
    | zero => exact .cons a y
    | succ n => exact b n) r n
end
theorem VRs.dropLast {ρ : Rh} {H : Hp} {h : Heap} {vs : List V} {xs : List Value} (x : VRs ρ H h vs xs) : VRs ρ H h vs.dropLast xs.dropLast := by
  rw [List.dropLast_eq_take, List.dropLast_eq_take, x.length]; exact x.take _

/-! the names' numbers -/
theorem digs_inj : ∀ (f g m n : Nat), m ≤ f → n ≤ g → digs f m = digs g n → m = n := by
  intro f
  induction f with
  | zero =>
    intro g m n hm hn e
    have : m = 0 := Nat.le_zero.mp hm
    subst this
    induction g using Nat.casesAuxOn with
    | zero => exact (Nat.le_zero.mp hn).symm
    | succ g =>
      by_cases h0 : n = 0
      · exact h0.symm
      · simp [digs, h0] at e
  | succ f ih =>
    intro g m n hm hn e
    by_cases h0 : m = 0
    · subst h0
      induction g using Nat.casesAuxOn with
      | zero => exact (Nat.le_zero.mp hn).symm
      | succ g =>
        by_cases h1 : n = 0
        · exact h1.symm
        · simp [digs, h1] at e
    · induction g using Nat.casesAuxOn with
      | zero =>
        simp [digs, h0] at e
      | succ g =>
        by_cases h1 : n = 0
        · subst h1; simp [digs, h0] at e
        · simp only [digs, h0, h1, if_false, List.cons.injEq] at e
          have := ih g (m / 256) (n / 256) (by (clear e h1 hn h0; lia)) (by (clear e h1 h0 hm; lia)) e.2
          (clear h1 hn h0 hm; lia)
theorem nm_inj {m n : Nat} (e : nm m = nm n) : m = n := by
  unfold nm nmL at e
  injection e with e
  exact digs_inj m n m n (Nat.le_refl _) (Nat.le_refl _) (by simpa using e)
theorem digs_lt : ∀ (f n : Nat), ∀ c ∈ digs f n, c < 256 := by
  intro f
  induction f with
  | zero => intro n c hc; simp [digs] at hc
  | succ f ih =>
    intro n c hc
    by_cases h0 : n = 0
    · simp [digs, h0] at hc
    · simp only [digs, h0, if_false, List.mem_cons] at hc
      rcases hc with rfl | hc
      · exact Nat.mod_lt _ (by decide)
      · exact ih _ c hc

theorem natBeq (a b : Nat) : Nat.beq a b = decide (a = b) := by
  cases h : Nat.beq a b with
  | true => rw [Nat.eq_of_beq_eq_true h]; simp
  | false => exact (decide_eq_false (Nat.ne_of_beq_eq_false h)).symm
theorem lk_nil {α : Type} (i : Nat) : lk ([] : List (Nat × α)) i = Option.none := rfl
theorem lk_cons {α : Type} (j : Nat) (v : α) (r : List (Nat × α)) (i : Nat) : lk ((j, v) :: r) i = if i = j then some v else lk r i := by
  simp only [lk, natBeq]
  by_cases h : i = j <;> simp [h]
theorem lset_nil (i : Nat) (v : V) : lset [] i v = [(i, v)] := rfl
theorem lset_cons (j : Nat) (w : V) (r : Lo) (i : Nat) (v : V) : lset ((j, w) :: r) i v = if i = j then (j, v) :: r else (j, w) :: lset r i v := by
  simp only [lset, natBeq]
  by_cases h : i = j <;> simp [h]
theorem lk_lset (lo : Lo) (i j : Nat) (v : V) : lk (lset lo i v) j = if j = i then some v else lk lo j := by
  induction lo with
  | nil => rw [lset_nil, lk_cons]
  | cons p r ih =>
    obtain ⟨k, w⟩ := p
    rw [lset_cons, lk_cons]
    by_cases hik : i = k
    · subst hik
      rw [if_pos rfl, lk_cons]
      by_cases e : j = i <;> simp [e]
    · rw [if_neg hik, lk_cons, ih]
      by_cases e : j = k
      · subst e; simp [Ne.symm hik]
      · simp [e]

theorem beq_nm (a b : Nat) : (nm a == nm b) = Nat.beq a b := by
  cases h : Nat.beq a b with
  | true => rw [Nat.eq_of_beq_eq_true h]; exact beq_self_eq_true _
  | false =>
    refine beq_eq_false_iff_ne.mpr fun e => ?_
    rw [nm_inj e, Nat.beq_refl] at h; cases h

end Mini
end
section
set_option autoImplicit false
namespace Mini
open PySem PySem.Calls

/-! values as the library's data -/
mutual
noncomputable def V.py : V → PyData
  | .none => .none
  | .bool b => .bool b
  | .int i => .int i
  | .str s => .str (nm s)
  | .tup l => .tuple (V.pys l)
  | .lst l => .list (V.pys l)
  | .ref _ => .none
noncomputable def V.pys : List V → List PyData
  | [] => []
  | v :: vs => V.py v :: V.pys vs
end

theorem and_l0 {a b : Bool} (h : (a && b) = true) : a = true := by induction a using Bool.casesOn; exact ff h; rfl
theorem and_r0 {a b : Bool} (h : (a && b) = true) : b = true := by induction a using Bool.casesOn; exact ff h; exact h
theorem deps_cons {v : V} {vs : List V} {n : Nat} (e : V.deps (v :: vs) = some n) : ∃ i j, V.dep v = some i ∧ V.deps vs = some j ∧ n = max i j := by
  rw [V.deps] at e
  cases hv : V.dep v with
  | none => rw [hv] at e; exact nn e
  | some i =>
    cases hvs : V.deps vs with
    | none => rw [hv, hvs] at e; exact nn e
    | some j =>
      rw [hv, hvs] at e
      exact ⟨i, j, rfl, rfl, (Option.some.inj e).symm⟩
theorem deps_of {v : V} {vs : List V} {i j : Nat} (h : V.dep v = some i) (g : V.deps vs = some j) : V.deps (v :: vs) = some (max i j) := by rw [V.deps, h, g]
noncomputable def ReadsV (h : Heap) (v : V) (x : Value) : Prop := ∀ {n : Nat}, V.dep v = some n → ∃ as, Reads h x (V.py v) as ∧ (V.py v).canLay0 = true ∧ (V.py v).depth ≤ n
noncomputable def ReadsVs (h : Heap) (vs : List V) (xs : List Value) : Prop := ∀ {n : Nat}, V.deps vs = some n → ∃ as, ReadsAll h xs (V.pys vs) as ∧ PyData.canLayAll0 (V.pys vs) = true ∧ PyData.depthAll (V.pys vs) ≤ n
theorem reads_ind {ρ : Rh} {H : Hp} {h : Heap} : (∀ {v : V} {x : Value}, VR ρ H h v x → ReadsV h v x) ∧ ∀ {vs : List V} {xs : List Value}, VRs ρ H h vs xs → ReadsVs h vs xs := by
  refine VR.ind (fun _ => ⟨_, .none, rfl, Nat.zero_le _⟩) (fun b _ _ => ⟨_, .bool b, rfl, Nat.zero_le _⟩) (fun i t _ _ => ⟨_, .int i t, rfl, Nat.zero_le _⟩) (fun s t _ _ => ⟨_, .str _ t, ?_, Nat.zero_le _⟩) (fun {a vs items} t b n e => ?_) (fun {a vs items} t _ b n e => ?_) (fun _ _ e => by exact nn e) (fun _ => ⟨_, .nil, rfl, Nat.zero_le _⟩) fun {v x vs xs} a b n e => ?_
  · simp only [V.py, PyData.canLay0, PyData.strOk, nm, Array.all_eq_true_iff_forall_mem, List.mem_toArray, decide_eq_true_eq]
    intro c hc
    exact Nat.lt_trans (digs_lt _ _ c hc) (by decide)
  · refine t5 t fun o ho hc m hd => ?_
    refine msE e fun k hk e => ?_
    refine x1a3 (b hk) fun as r l d => ?_
    exact ⟨as, .tuple ho hc hd r, l, e ▸ Nat.succ_le_succ d⟩
  · refine t5 t fun o ho hc m hd => ?_
    refine msE e fun k hk e => ?_
    refine x1a3 (b hk) fun as r l d => ?_
    exact ⟨_, .list ho hc hd r, l, e ▸ Nat.succ_le_succ d⟩
  · refine x2a3 (deps_cons e) fun i j hi hj e => ?_
    refine x1a3 (a hi) fun as r l d => ?_
    refine x1a3 (b hj) fun bs r' l' d' => ?_
    refine ⟨_, .cons r r', by simp [V.pys, PyData.canLayAll0, l, l'], ?_⟩
    rw [e]
    exact Nat.max_le.mpr ⟨Nat.le_trans d (Nat.le_max_left _ _), Nat.le_trans d' (Nat.le_max_right _ _)⟩
theorem VR.reads {ρ : Rh} {H : Hp} {h : Heap} {v : V} {x : Value} (r : VR ρ H h v x) {n : Nat} (e : V.dep v = some n) : ∃ as, Reads h x (V.py v) as ∧ (V.py v).canLay0 = true ∧ (V.py v).depth ≤ n := reads_ind.1 r e
theorem VRs.reads {ρ : Rh} {H : Hp} {h : Heap} {vs : List V} {xs : List Value} (r : VRs ρ H h vs xs) {n : Nat} (e : V.deps vs = some n) : ∃ as, ReadsAll h xs (V.pys vs) as ∧ PyData.canLayAll0 (V.pys vs) = true ∧ PyData.depthAll (V.pys vs) ≤ n := reads_ind.2 r e

set_option tactic.hygienic true in
theorem beq_ind : (∀ a b : V, (V.dep a).isSome = true → (V.dep b).isSome = true → PyData.eqv (V.py a) (V.py b) = V.beq a b) ∧ ∀ a b : List V, (V.deps a).isSome = true → (V.deps b).isSome = true → PyData.eqvAll (V.pys a) (V.pys b) = V.beqs a b := by
  refine V.ind (fun b _ hb => ?_) (fun x b _ hb => ?_) (fun x b _ hb => ?_) (fun x b _ hb => ?_) (fun l ih b ha hb => ?_) (fun l ih b ha hb => ?_) (fun n b ha _ => by exact ff ha) (fun b _ _ => by induction b using List.casesOn <;> rfl) fun x xs ih ihs b ha hb => ?_
  · induction b using Mini.V.casesOn <;> first | rfl | exact ff hb
  · induction b using Mini.V.casesOn <;> first | rfl | (rename_i y; induction x using Bool.casesOn <;> induction y using Bool.casesOn <;> rfl) | cases hb
  · induction b using Mini.V.casesOn <;> first | rfl | cases hb
  · induction b using Mini.V.casesOn <;> first | rfl | (cases hb; done) | skip
    rename_i y
    show (nm x == nm y) = (x == y)
    rw [beq_nm]
    exact Bool.eq_iff_iff.mpr (by simp)
  · induction b using Mini.V.casesOn <;> first | rfl | (cases hb; done) | exact ih _ ((Option.isSome_map ..).symm.trans ha) ((Option.isSome_map ..).symm.trans hb)
  · induction b using Mini.V.casesOn <;> first | rfl | (cases hb; done) | exact ih _ ((Option.isSome_map ..).symm.trans ha) ((Option.isSome_map ..).symm.trans hb)
  · induction b using List.casesOn with
    | nil => rfl
    | cons y ys =>
      refine x1a1 (Option.isSome_iff_exists.mp ha) fun n hn => ?_
      refine x1a1 (Option.isSome_iff_exists.mp hb) fun m hm => ?_
      refine x2a3 (deps_cons hn) fun i j hi hj _ => ?_
      refine x2a3 (deps_cons hm) fun i' j' hi' hj' _ => ?_
      show (PyData.eqv (V.py x) (V.py y) && PyData.eqvAll (V.pys xs) (V.pys ys)) = _
      rw [ih y (by rw [hi]; rfl) (by rw [hi']; rfl), ihs ys (by rw [hj]; rfl) (by rw [hj']; rfl)]; rfl
theorem beq_py (a b : V) (ha : (V.dep a).isSome = true) (hb : (V.dep b).isSome = true) : PyData.eqv (V.py a) (V.py b) = V.beq a b := beq_ind.1 a b ha hb
theorem beq_pys (a b : List V) (ha : (V.deps a).isSome = true) (hb : (V.deps b).isSome = true) : PyData.eqvAll (V.pys a) (V.pys b) = V.beqs a b := beq_ind.2 a b ha hb

theorem flat_dep {v : V} (h : v.flat = true) : ∃ n, V.dep v = some n ∧ n ≤ 60 := by
  unfold V.flat at h
  split at h
  · exact ⟨_, by assumption, Nat.le_of_ble_eq_true h⟩
  · exact ff h
theorem flats_dep {l : List V} : V.flats l = true → ∃ n, V.deps l = some n ∧ n ≤ 60 := by
  induction l with
  | nil => exact fun _ => ⟨0, rfl, Nat.zero_le _⟩
  | cons v vs ih =>
    intro h
    refine x1a2 (flat_dep (and_l0 h)) fun m hm h1 => ?_
    refine x1a2 (ih (and_r0 h)) fun n hn h2 => ?_
    exact ⟨max m n, deps_of hm hn, Nat.max_le.mpr ⟨h1, h2⟩⟩

theorem any_py {l : List V} {a : V} (hl : V.flats l = true) (ha : a.flat = true) : ((V.pys l).any fun y => PyData.eqv y (V.py a)) = l.any fun y => V.beq y a := by
  refine x1a2 (flat_dep ha) fun m hm _ => ?_
  induction l with
  | nil => rfl
  | cons v vs ih =>
    have h' : v.flat = true ∧ V.flats vs = true := by simpa [V.flats] using hl
    refine x1a2 (flat_dep h'.1) fun k hk _ => ?_
    simp only [V.pys, List.any_cons, ih h'.2]
    rw [beq_py v a (by rw [hk]; rfl) (by rw [hm]; rfl)]

/-! the very same value -/
theorem same_ind : (∀ a b : V, V.same a b = true → a = b) ∧ ∀ a b : List V, V.sames a b = true → a = b := by
  refine V.ind (fun b h => ?_) (fun x b h => ?_) (fun x b h => ?_) (fun x b h => ?_) (fun l ih b h => ?_) (fun l ih b h => ?_) (fun n b h => ?_) (fun b h => by induction b using List.casesOn; rfl; exact ff h) fun x xs ih ihs b h => ?_
  · induction b using Mini.V.casesOn <;> first | rfl | exact ff h
  · induction b using Mini.V.casesOn <;> first | exact congrArg _ (beq_iff_eq.mp h) | exact ff h
  · induction b using Mini.V.casesOn <;> first | exact congrArg _ (beq_iff_eq.mp h) | exact ff h
  · induction b using Mini.V.casesOn <;> first | exact congrArg _ (beq_iff_eq.mp h) | exact ff h
  · induction b using Mini.V.casesOn <;> first | exact congrArg _ (ih _ h) | exact ff h
  · induction b using Mini.V.casesOn <;> first | exact congrArg _ (ih _ h) | exact ff h
  · induction b using Mini.V.casesOn <;> first | exact congrArg _ (beq_iff_eq.mp h) | exact ff h
  · induction b using List.casesOn with
    | nil => exact ff h
    | cons y ys => rw [ih y (and_l0 h), ihs ys (and_r0 h)]
theorem same_eq (a b : V) (h : V.same a b = true) : a = b := same_ind.1 a b h
theorem sames_eq (a b : List V) (h : V.sames a b = true) : a = b := same_ind.2 a b h
theorem same_self (a : V) : V.same a a = true :=
  (V.ind (p := fun a => V.same a a = true) (q := fun l => V.sames l l = true) rfl (fun x => beq_self_eq_true x) (fun x => beq_self_eq_true x) (fun x => beq_self_eq_true x) (fun _ h => h) (fun _ h => h) (fun x => beq_self_eq_true x) rfl fun v l h g => show (V.same v v && V.sames l l) = true by rw [h, g]; rfl).1 a
noncomputable instance : DecidableEq V := fun a b => if h : V.same a b = true then .isTrue (same_eq a b h) else .isFalse fun e => h (e ▸ same_self a)
theorem same_iff {a b : V} : V.same a b = true ↔ a = b := ⟨same_eq a b, fun e => e ▸ same_self a⟩
theorem same_decide (a b : V) : V.same a b = decide (a = b) := by
  cases h : V.same a b with
  | true => rw [same_eq a b h]; simp
  | false =>
    symm
    refine decide_eq_false fun e => ?_
    rw [e, same_self] at h; cases h

/-! keys -/
theorem keyb_ind : (∀ a n (b : V), V.key n a = true → V.key n b = true → V.beq a b = V.same a b) ∧ ∀ a n (b : List V), V.keys n a = true → V.keys n b = true → V.beqs a b = V.sames a b := by
  refine V.ind (fun n b h => by exact ff h) (fun _ n b h => by exact ff h) (fun i n b _ h => ?_) (fun i n b _ h => ?_) (fun l ih n b ha hb => ?_) (fun _ _ n b h => by exact ff h) (fun _ n b h => by exact ff h) (fun n b _ _ => by induction b using List.casesOn <;> rfl) fun v l ih ihs n b ha hb => ?_
  · induction b using Mini.V.casesOn <;> first | rfl | exact ff h
  · induction b using Mini.V.casesOn <;> first | rfl | cases h
  · induction n using Nat.casesAuxOn with
    | zero => exact ff ha
    | succ n => induction b using Mini.V.casesOn <;> first | rfl | (cases hb; done) | exact ih n _ ha hb
  · induction b using List.casesOn with
    | nil => rfl
    | cons y ys =>
      have ha : (V.key n v && V.keys n l) = true := ha
      have hb : (V.key n y && V.keys n ys) = true := hb
      show (V.beq v y && V.beqs l ys) = (V.same v y && V.sames l ys)
      rw [ih n y (and_l0 ha) (and_l0 hb), ihs n ys (and_r0 ha) (and_r0 hb)]
theorem key_beq (n : Nat) (a b : V) (ha : V.key n a = true) (hb : V.key n b = true) : V.beq a b = V.same a b := keyb_ind.1 a n b ha hb
theorem keyd_ind : (∀ a n, V.key n a = true → ∃ k, V.dep a = some k ∧ k ≤ n) ∧ ∀ a n, V.keys n a = true → ∃ k, V.deps a = some k ∧ k ≤ n := by
  refine V.ind (fun n h => by exact ff h) (fun _ n h => by exact ff h) (fun i n _ => ⟨0, rfl, Nat.zero_le _⟩) (fun i n _ => ⟨0, rfl, Nat.zero_le _⟩) (fun l ih n h => ?_) (fun _ _ n h => by exact ff h) (fun _ n h => by exact ff h) (fun n _ => ⟨0, rfl, Nat.zero_le _⟩) fun v l ih ihs n h => ?_
  · induction n using Nat.casesAuxOn with
    | zero => exact ff h
    | succ n =>
      refine x1a2 (ih n h) fun k hk g => ?_
      exact ⟨k + 1, by show (V.deps l).map _ = _; rw [hk]; rfl, Nat.succ_le_succ g⟩
  · have h : (V.key n v && V.keys n l) = true := h
    refine x1a2 (ih n (and_l0 h)) fun i hi g => ?_
    refine x1a2 (ihs n (and_r0 h)) fun j hj g' => ?_
    exact ⟨max i j, deps_of hi hj, Nat.max_le.mpr ⟨g, g'⟩⟩
theorem key_dep (n : Nat) (a : V) (h : V.key n a = true) : ∃ k, V.dep a = some k ∧ k ≤ n := keyd_ind.1 a n h
theorem keym_ind : (∀ a n m, n ≤ m → V.key n a = true → V.key m a = true) ∧ ∀ a n m, n ≤ m → V.keys n a = true → V.keys m a = true := by
  refine V.ind (fun n m _ h => by exact ff h) (fun _ n m _ h => by exact ff h) (fun i n m _ _ => by induction m using Nat.casesAuxOn <;> rfl) (fun i n m _ _ => by induction m using Nat.casesAuxOn <;> rfl) (fun l ih n m q h => ?_) (fun _ _ n m _ h => by exact ff h) (fun _ n m _ h => by exact ff h) (fun n m _ _ => rfl) fun v l ih ihs n m q h => ?_
  · induction n using Nat.casesAuxOn with
    | zero => exact ff h
    | succ n =>
      induction m using Nat.casesAuxOn with
      | zero => cases q
      | succ m => exact ih n m (Nat.le_of_succ_le_succ q) h
  · have h : (V.key n v && V.keys n l) = true := h
    show (V.key m v && V.keys m l) = true
    rw [ih n m q (and_l0 h), ihs n m q (and_r0 h)]; rfl
theorem key_mono (n m : Nat) (a : V) (q : n ≤ m) (h : V.key n a = true) : V.key m a = true := keym_ind.1 a n m q h
-- a key as it lies in the heap
mutual
inductive KR (h : Heap) : V → Value → Prop
  | int (i : Int) (t : Tok) : KR h (.int i) (.int i t)
  | str (s : Nat) (t : Tok) : KR h (.str s) (.str (nm s) t)
  | tup {a : Addr} {vs : List V} {items : Array Value} : h.IsTuple a items → KRs h vs items.toList → KR h (.tup vs) (.ref a)
inductive KRs (h : Heap) : List V → List Value → Prop
  | nil : KRs h [] []
  | cons {v : V} {x : Value} {vs : List V} {xs : List Value} : KR h v x → KRs h vs xs → KRs h (v :: vs) (x :: xs)
end

theorem kr_ind {ρ : Rh} {H : Hp} {h : Heap} : (∀ {v x}, VR ρ H h v x → ∀ n, V.key n v = true → KR h v x) ∧ ∀ {v x}, VRs ρ H h v x → ∀ n, V.keys n v = true → KRs h v x := by
  refine VR.ind (fun n h => by exact ff h) (fun _ n h => by exact ff h) (fun i t n _ => .int i t) (fun s t n _ => .str s t) (fun {a vs items} t b n h => ?_) (fun _ _ _ n h => by exact ff h) (fun _ n h => by exact ff h) (fun n _ => .nil) fun {v x vs xs} a b n h => ?_
  · induction n using Nat.casesAuxOn with
    | zero => exact ff h
    | succ n => exact .tup t (b n h)
  · have h : (V.key n v && V.keys n vs) = true := h
    exact .cons (a n (and_l0 h)) (b n (and_r0 h))
theorem VR.kr {ρ : Rh} {H : Hp} {h : Heap} {n : Nat} {v : V} {x : Value} (r : VR ρ H h v x) (k : V.key n v = true) : KR h v x := kr_ind.1 r n k
theorem KR.ind {h : Heap} {p : V → Value → Prop} {q : List V → List Value → Prop} (int : ∀ i t, p (.int i) (.int i t)) (str : ∀ s t, p (.str s) (.str (nm s) t)) (tup : ∀ {a vs items}, h.IsTuple a items → KRs h vs items.toList → q vs items.toList → p (.tup vs) (.ref a))
    (nil : q [] []) (cons : ∀ {v x vs xs}, p v x → q vs xs → q (v :: vs) (x :: xs)) : (∀ {v x}, KR h v x → p v x) ∧ ∀ {vs xs}, KRs h vs xs → q vs xs :=
  ⟨KR.rec (motive_1 := fun v x _ => p v x) (motive_2 := fun vs xs _ => q vs xs) int str (fun a b i => tup a b i) nil fun _ _ i j => cons i j,
    KRs.rec (motive_1 := fun v x _ => p v x) (motive_2 := fun vs xs _ => q vs xs) int str (fun a b i => tup a b i) nil fun _ _ i j => cons i j⟩
theorem KR.vr {h : Heap} (ρ : Rh) (H : Hp) {v : V} {x : Value} (r : KR h v x) : VR ρ H h v x := (KR.ind (q := VRs ρ H h) .int .str (fun a _ b => .tup a b) .nil fun a b => .cons a b).1 r
theorem KR.keeps {h h' : Heap} (k : ∀ a items, h.IsTuple a items → h'.IsTuple a items) {v : V} {x : Value} (r : KR h v x) : KR h' v x := (KR.ind (q := KRs h') .int .str (fun a _ b => .tup (k _ _ a) b) .nil fun a b => .cons a b).1 r
theorem isTuple_uniq {h : Heap} {a : Addr} {x y : Array Value} (p : h.IsTuple a x) (q : h.IsTuple a y) : x = y := by
  refine t5 p fun o ho _ n hd => ?_
  refine t5 q fun o' ho' _ n' hd' => ?_
  rw [ho] at ho'; cases ho'
  rw [hd] at hd'; cases hd'; rfl
theorem KR.inj {h : Heap} {v w : V} {x : Value} (r : KR h v x) (y : KR h w x) : v = w := by
  refine (KR.ind (h := h) (p := fun v x => ∀ w, KR h w x → v = w) (q := fun v x => ∀ w, KRs h w x → v = w) (fun i t w y => ?_) (fun s t w y => ?_) (fun {a vs items} t _ b w y => ?_) (fun w y => by cases y; rfl) fun {v x vs xs} a b w y => ?_).1 r w y
  · cases y; rfl
  · generalize hx : Value.str (nm s) t = x at y
    induction y using Mini.KR.casesOn with
    | int => cases hx
    | str s' t' => injection hx with e _; rw [nm_inj e]
    | tup => cases hx
  · cases y with
    | tup a' b' => cases isTuple_uniq t a'; rw [b _ b']
  · cases y with
    | cons a' b' => rw [a _ a', b _ b']

mutual
noncomputable def keyHash (w : World) : V → Int
  | .int i => hashInt i
  | .str s => hashStr w (nm s)
  | .tup l => reduceHash (Builtin.Tuple.tupleHashOf (keyHashes w l))
  | _ => 0
noncomputable def keyHashes (w : World) : List V → List Int
  | [] => []
  | v :: vs => keyHash w v :: keyHashes w vs
end
mutual
noncomputable def keyDraws : V → Nat
  | .tup l => keysDraws l + 1
  | _ => 1
noncomputable def keysDraws : List V → Nat
  | [] => 0
  | v :: vs => keyDraws v + keysDraws vs
end

section
variable {prog : Program} {w : World}

theorem reduced_ok {A : Around} {E : Value → Shared → Prop} {s : Shared} {Q : Int → Shared → Prop} {i : Int} (h : Q (reduceHash i) s) : wpAny (model prog w) A (pyHashByItsType.reduced i) Q E s := by
  unfold reduceHash at h
  show wpAny _ _ (if (decide (-(2 : Int) ^ 63 ≤ i) && decide (i < 2 ^ 63)) = true then _ else _) Q E s
  by_cases hr : (decide (-(2 : Int) ^ 63 ≤ i) && decide (i < 2 ^ 63)) = true
  · rw [if_pos hr]
    rw [if_pos hr] at h
    exact wpAny_pure h
  · rw [if_neg hr]
    rw [if_neg hr] at h
    exact wpAny_bind (wpAny_rule (wpAny_pure h))
theorem hash_ind {h₀ : Heap} : (∀ {v x}, KR h₀ v x → ∀ (n : Nat) (A : Around) (E : Value → Shared → Prop) (s : Shared) (Q : Int → Shared → Prop), V.key n v = true → s.heap = h₀ → A.units + n < cLine →
    Q (keyHash w v) { s with toks := s.toks + keyDraws v } → wpAny (model prog w) A (pyHash x) Q E s) ∧
    ∀ {vs xs}, KRs h₀ vs xs → ∀ (n : Nat) (A : Around) (E : Value → Shared → Prop) (s : Shared), V.keys n vs = true → s.heap = h₀ → A.units + n < cLine → ∀ (b : Array Int) (Q : Array Int → Shared → Prop),
    (∀ b' : Array Int, b'.toList = b.toList ++ keyHashes w vs → Q b' { s with toks := s.toks + keysDraws vs }) →
    wpAny (model prog w) A (forIn xs b fun x r => do let y ← PySem.pyHash x; pure (ForInStep.yield (r.push y))) Q E s := by
  refine KR.ind (fun i t n A E s Q _ _ _ h => (intKind prog w).pyHash (k := i) (by simp [intKind, Value.isInt]) h) (fun i t n A E s Q _ _ _ h => (strKind prog w).pyHash (k := nm i) (by simp [strKind, Value.isStrOf]) h)
    (fun {a ks items} ht _ ih n A E s Q hk hs hu h => ?_) (fun n A E s _ _ _ b Q h => ?_) fun {v x vs xs} ih ihs n A E s hk hs hu b Q h => ?_
  · induction n using Nat.casesAuxOn with
    | zero => exact ff hk
    | succ n =>
    subst hs
    have hT : s.TypeIs (.ref a) "tuple" := x1a3 ht fun o ho hc _ => ⟨o, ho, hc⟩
    refine ht.elim fun o ht => ht.2.2.elim fun m hd => ?_
    have ho := ht.1
    unfold PySem.pyHash pyHashByItsType
    refine wpAny_bind (wpAny_cRoomFor_or (.inr (by (clear hd ho hk ih h; lia))) (wpAny_bind (wpAny_specialOf hT F.slot_tuple_hash.lookup ?_)))
    show wpAny _ _ (if (some (Value.builtin "tuple.__hash__") == some Value.none) = true then _ else _) Q E s
    rw [if_neg (by rw [beq_builtin_none]; exact Bool.false_ne_true)]
    refine wpAny_bind (wpAny_specialOf hT F.slot_tuple_hash.lookup ?_)
    show wpAny _ _ (callSpecialIfBoundUnlessNone? (.ref a) "__hash__" _ >>= _) Q E s
    refine wpAny_bind (wpAny_callSpecialIfBoundUnlessNone?_slot hT F.slot_tuple_hash (wpAny_call_entry F.slot_tuple_hash hT F.entry_tuple_hash ?_ (F.args_tuple_hash_1 _)))
    show wpAny _ _ (Builtin.Tuple.tupleItemsOf (.ref a) >>= _) _ _ s
    refine wpAny_bind (wpAny_tupleItemsOf ho hd (wpAny_bind ?_))
    rw [← Array.forIn_toList]
    refine ih n _ _ _ hk rfl (by show A.units + 1 + n < cLine; (clear hd ho hk ih h; lia)) #[] _ fun b' hb' => ?_
    show wpAny _ _ (retInt (Builtin.Tuple.tupleHashOf b'.toList)) _ _ _
    rw [hb']
    refine wpAny_ret_mkInt ?_
    exact reduced_ok h
  · rw [List.forIn_nil]
    exact wpAny_pure (h b (List.append_nil _).symm)
  · have hk : (V.key n v && V.keys n vs) = true := hk
    rw [List.forIn_cons]
    refine wpAny_bind (wpAny_bind (ih n _ _ _ _ (and_l0 hk) hs hu (wpAny_pure ?_)))
    refine ihs n _ _ { s with toks := s.toks + keyDraws v } (and_r0 hk) hs hu (b.push (keyHash w v)) _ fun b' hb' => ?_
    have := h b' (by rw [hb', Array.toList_push, List.append_assoc]; rfl)
    rw [show keysDraws (v :: vs) = keyDraws v + keysDraws vs from rfl, ← Nat.add_assoc] at this
    exact this

theorem KR.eqBool {a b : V} {x y : Value} {n m : Nat} {A : Around} {E : Value → Shared → Prop} {s : Shared} {Q : Bool → Shared → Prop} (ha : KR s.heap a x) (hb : KR s.heap b y) (ka : V.key n a = true) (kb : V.key m b = true)
    (hn : n ≤ 60) (hu : A.units + 60 < cLine) (h : Q (decide (a = b)) s) : wpAny (model prog w) A (eqBool x y) Q E s := by
  refine x1a2 (key_dep n a ka) fun i hi hi' => ?_
  refine x1a2 (key_dep m b kb) fun j hj hj' => ?_
  refine x1a3 ((KR.vr .nil [] ha).reads hi) fun as ra la da => ?_
  refine x1a3 ((KR.vr .nil [] hb).reads hj) fun bs rb lb db => ?_
  refine SeqAt.eqBoolOverData prog w A E s x y _ _ _ _ Q ra rb la lb ?_ ?_
  · have : min (V.py a).depth (V.py b).depth ≤ (V.py a).depth := Nat.min_le_left _ _
    (clear this db lb la hj' hj hi kb ka; lia)
  · rw [beq_py a b (by rw [hi]; rfl) (by rw [hj]; rfl)]
    have : V.beq a b = decide (a = b) := by
      rcases Nat.le_total n m with q | q
      · rw [key_beq m a b (key_mono n m a q ka) kb, same_decide]
      · rw [key_beq n a b ka (key_mono m n b q kb), same_decide]
    rw [this]; exact h

theorem quiet_ind {h₀ : Heap} : (∀ {v x}, KR h₀ v x → ∀ (n : Nat) (A : Around) (E : Value → Shared → Prop) (s : Shared) (Q : Bool → Shared → Prop), V.key n v = true → s.heap = h₀ → Q true s → wpAny (model prog w) A (eqIsQuiet n x) Q E s) ∧
    ∀ {vs xs}, KRs h₀ vs xs → ∀ (n : Nat) (A : Around) (E : Value → Shared → Prop) (s : Shared) (Q : Option Bool × Unit → Shared → Prop), V.keys n vs = true → s.heap = h₀ → Q (none, ()) s →
    wpAny (model prog w) A (forIn xs ((none, ()) : Option Bool × Unit) fun y r => do
      let q ← eqIsQuiet n y
      if (!q) = true then pure (ForInStep.done (some false, ())) else pure (ForInStep.yield (none, ()))) Q E s := by
  refine KR.ind (fun i t n A E s Q _ _ h => ?_) (fun i t n A E s Q _ _ h => ?_) (fun {a ks items} ht _ ih n A E s Q hk hs h => ?_) (fun n A E s Q _ _ h => ?_) fun {v x vs xs} ih ihs n A E s Q hk hs h => ?_
  · rw [eqIsQuiet_byValue n rfl]; exact wpAny_pure h
  · rw [eqIsQuiet_byValue n rfl]; exact wpAny_pure h
  · induction n using Nat.casesAuxOn with
    | zero => exact ff hk
    | succ n =>
    subst hs
    have hT : s.TypeIs (.ref a) "tuple" := x1a3 ht fun o ho hc _ => ⟨o, ho, hc⟩
    refine ht.elim fun o ht => ht.2.2.elim fun m hd => ?_
    unfold eqIsQuiet
    refine wpAny_bind (wpAny_specialOf hT F.slot_tuple_eq.lookup ?_)
    show wpAny _ _ (isInstance (.ref a) (.type "tuple") >>= _) _ _ s
    refine wpAny_bind (wpAny_isInstance hT isSubtype_tuple_tuple ?_)
    refine wpAny_bind (wpAny_seqItems ht.1 hd (wpAny_bind ?_))
    show wpAny _ _ (forIn items _ _) _ _ s
    rw [← Array.forIn_toList]
    exact ih n _ _ _ _ hk rfl (wpAny_pure h)
  · rw [List.forIn_nil]; exact wpAny_pure h
  · have hk : (V.key n v && V.keys n vs) = true := hk
    rw [List.forIn_cons]
    exact wpAny_bind (wpAny_bind (ih n _ _ _ _ (and_l0 hk) hs (wpAny_pure (ihs n _ _ _ _ (and_r0 hk) hs h))))

noncomputable def IsKey (h : Heap) (v : V) (a : Addr) : Prop := v.isKey = true ∧ KR h v (.ref a)
theorem isKey_key {v : V} (h : v.isKey = true) : V.key 4 v = true := by
  induction v using Mini.V.casesOn <;> first | (simp [V.isKey] at h; done) | skip
  simpa [V.isKey, V.key] using h

end

/-- tuples as keys -/
noncomputable def vKind (prog : Program) (w : World) : HeapKind prog w V where
  is := IsKey
  hash := keyHash w
  draws := keyDraws
  room := fun A => A.units + 60 < cLine
  inj := fun hx hy => hx.2.inj hy.2
  keeps := fun x ho hd hs => ⟨x.1, x.2.keeps fun a items ⟨o, h1, h2, n, h3⟩ => ⟨o, (hs.2 a (by rintro rfl; rw [ho] at h1; cases h1; rw [hd] at h3; cases h3)).trans h1, h2, n, h3⟩⟩
  pyHash := fun hu hk h => hash_ind.1 hk.2 4 _ _ _ _ (isKey_key hk.1) rfl (by (clear h; lia)) h
  eqBool := fun hu hx hy h => KR.eqBool hx.2 hy.2 (isKey_key hx.1) (isKey_key hy.1) (by (clear hu; lia)) hu h
  quiet := fun hk h => quiet_ind.1 hk.2 8 _ _ _ _ (key_mono 4 8 _ (by decide) (isKey_key hk.1)) rfl h
end Mini
end
section
set_option autoImplicit false
namespace Mini
open PySem PySem.Calls PyProof.Rows
open PySem.W (Frag dictOf)

set_option genInjectivity false in
set_option genSizeOf false in
/-- the surroundings of a run -/
structure Cfg where
  prog : Program
  w : World
  base : Heap
  K : Frag
  P : Prog
  cls : Nat → Addr
  os : OsState

inductive PR {α β : Type} (f : α → β) (ρ : Rh) (H : Hp) (h : Heap) : List (α × V) → List (β × Value) → Prop
  | nil : PR f ρ H h [] []
  | cons {k : α} {v : V} {x : Value} {l : List (α × V)} {l' : List (β × Value)} : VR ρ H h v x → PR f ρ H h l l' → PR f ρ H h ((k, v) :: l) ((f k, x) :: l')
inductive TR (ρ : Rh) (H : Hp) (h : Heap) : List (V × V) → List (V × Addr × Value) → Prop
  | nil : TR ρ H h [] []
  | cons {k v : V} {a : Addr} {x : Value} {l : List (V × V)} {l' : List (V × Addr × Value)} : VR ρ H h v x → TR ρ H h l l' → TR ρ H h ((k, v) :: l) ((k, a, x) :: l')
inductive AR (ρ : Rh) (H : Hp) (h : Heap) : List (Nat × V) → List DictEntry → Prop
  | nil : AR ρ H h [] []
  | cons {k : Nat} {v : V} {x : Value} {hs : Int} {t : Tok} {l : List (Nat × V)} {l' : List DictEntry} : VR ρ H h v x → AR ρ H h l l' → AR ρ H h ((k, v) :: l) (⟨hs, .str (nm k) t, x⟩ :: l')

section
variable {ρ ρ' : Rh} {H H' : Hp} {h h' : Heap}
theorem PR.lasts {α β : Type} {f : α → β} (L : Lasts ρ H h ρ' H' h') {l : List (α × V)} {l' : List (β × Value)} (x : PR f ρ H h l l') : PR f ρ' H' h' l l' := by
  induction x with
  | nil => exact .nil
  | cons a _ ih => exact .cons (a.lasts L) ih
theorem TR.lasts (L : Lasts ρ H h ρ' H' h') {l : List (V × V)} {l' : List (V × Addr × Value)} (x : TR ρ H h l l') : TR ρ' H' h' l l' := by
  induction x with
  | nil => exact .nil
  | cons a _ ih => exact .cons (a.lasts L) ih
theorem AR.lasts (L : Lasts ρ H h ρ' H' h') {l : List (Nat × V)} {l' : List DictEntry} (x : AR ρ H h l l') : AR ρ' H' h' l l' := by
  induction x with
  | nil => exact .nil
  | cons a _ ih => exact .cons (a.lasts L) ih
end

noncomputable def ObjR (C : Cfg) (ρ : Rh) (H : Hp) (h : Heap) (p : Addr × Addr) : O → Prop
  | .list l => p.2 = p.1 ∧ ∃ items, h.PlainList p.1 items ∧ VRs ρ H h l items.toList
  | .dI l => p.2 = p.1 ∧ ∃ xs, h.DictOf (intKind C.prog C.w) p.1 xs ∧ PR id ρ H h l xs
  | .dS l => p.2 = p.1 ∧ ∃ xs, h.DictOf (PySem.strKind C.prog C.w) p.1 xs ∧ PR nm ρ H h l xs
  | .dT l => p.2 = p.1 ∧ ∃ xs, h.DictOfH (vKind C.prog C.w) p.1 xs ∧ TR ρ H h l xs
  | .inst c l => p.1 ≠ p.2 ∧ h.get? p.1 = some ⟨.ref (C.cls c), some p.2, .plain, #[]⟩ ∧ ∃ es n, h.get? p.2 = some (dictOf es n) ∧ AR ρ H h l es
  | .dead => True

structure St (C : Cfg) (ρ : Rh) (H : Hp) (s : Shared) : Prop where
  base : ∀ a o, C.base.get? a = some o → s.heap.get? a = some o
  gens : s.gens = #[]
  os : s.os = C.os
  len : ρ.l.length = H.length
  objs : ∀ (i : Nat) (o : O) (p : Addr × Addr), H[i]? = some o → ρ[i]? = some p → ObjR C ρ H s.heap p o
  apart : ∀ (i j : Nat) (p q : Addr × Addr), ρ[i]? = some p → ρ[j]? = some q → i ≠ j → p.1 ≠ q.1 ∧ p.1 ≠ q.2 ∧ p.2 ≠ q.1 ∧ p.2 ≠ q.2
  new : ∀ (i : Nat) (p : Addr × Addr), ρ[i]? = some p → C.base.get? p.1 = none ∧ C.base.get? p.2 = none
  hid : ∀ a ∈ ρ.z, (∃ o, s.heap.get? a = some o) ∧ C.base.get? a = none
  zap : ∀ a ∈ ρ.z, ∀ (i : Nat) (p : Addr × Addr), ρ[i]? = some p → p.1 ≠ a ∧ p.2 ≠ a
  here : ∀ (i : Nat) (p : Addr × Addr), ρ[i]? = some p → (∃ o, s.heap.get? p.1 = some o) ∧ ∃ o, s.heap.get? p.2 = some o

structure Nx (W : Addr → Prop) (ρ : Rh) (H : Hp) (s : Shared) (ρ' : Rh) (H' : Hp) (s' : Shared) : Prop where
  ext : ρ.l <+: ρ'.l
  z : ρ'.z = ρ.z
  keep : ∀ a o, s.heap.get? a = some o → ¬ Own ρ H a → ¬ W a → s'.heap.get? a = some o
  fresh : ∀ a, Own ρ' H' a → Own ρ H a ∨ s.heap.get? a = none
  pres : ∀ a o, s.heap.get? a = some o → ∃ o', s'.heap.get? a = some o'
  wdata : ∀ a o, W a → s.heap.get? a = some o → (∀ xs n, o.data ≠ .seq xs n) ∨ (a ∈ ρ.z ∧ o.cls ≠ .type "tuple")
  news : ∀ (i : Nat) (q : Addr × Addr), ρ'[i]? = some q → ρ[i]? = some q ∨ (s.heap.get? q.1 = none ∧ s.heap.get? q.2 = none)

noncomputable abbrev no : Addr → Prop := fun _ => False

theorem Nx.refl (ρ : Rh) (H : Hp) (s : Shared) : Nx no ρ H s ρ H s := ⟨List.prefix_refl _, rfl, fun _ _ e _ _ => e, fun _ x => .inl x, fun _ o e => ⟨o, e⟩, fun _ _ x => x.elim, fun _ _ e => .inl e⟩
theorem Nx.none_of {W : Addr → Prop} {ρ ρ₁ : Rh} {H H₁ : Hp} {s s₁ : Shared} (a : Nx W ρ H s ρ₁ H₁ s₁) {x : Addr} (e : s₁.heap.get? x = none) : s.heap.get? x = none := by
  cases h : s.heap.get? x with
  | none => rfl
  | some o => refine x1a1 (a.pres x o h) fun o' h' => ?_; rw [e] at h'; exact nn h'
theorem Nx.trans {W : Addr → Prop} {ρ ρ₁ ρ₂ : Rh} {H H₁ H₂ : Hp} {s s₁ s₂ : Shared} (a : Nx W ρ H s ρ₁ H₁ s₁) (b : Nx W ρ₁ H₁ s₁ ρ₂ H₂ s₂) : Nx W ρ H s ρ₂ H₂ s₂ where
  ext := a.ext.trans b.ext
  z := b.z.trans a.z
  keep := fun x o e n w => b.keep x o (a.keep x o e n w) (fun m => (a.fresh x m).elim n fun q => by rw [e] at q; cases q) w
  fresh := fun x m => (b.fresh x m).elim (a.fresh x) fun q => .inr (a.none_of q)
  pres := fun x o e => x1a1 (a.pres x o e) fun o' e' => b.pres x o' e'
  wdata := a.wdata
  news := fun i q e => (b.news i q e).elim (a.news i q) fun z => .inr ⟨a.none_of z.1, a.none_of z.2⟩
theorem Nx.wide {W : Addr → Prop} {ρ ρ' : Rh} {H H' : Hp} {s s' : Shared} (a : Nx no ρ H s ρ' H' s') (wd : ∀ a o, W a → s.heap.get? a = some o → (∀ xs n, o.data ≠ .seq xs n) ∨ (a ∈ ρ.z ∧ o.cls ≠ .type "tuple")) : Nx W ρ H s ρ' H' s' :=
  ⟨a.ext, a.z, fun x o e n _ => a.keep x o e n id, a.fresh, a.pres, wd, a.news⟩

section
variable {C : Cfg}  {ρ ρ' : Rh} {H H' : Hp} {s s' : Shared} {W : Addr → Prop}

theorem ObjR.there {p : Addr × Addr} {o : O} {h : Heap} (x : ObjR C ρ H h p o) (hl : o.live = true) :
    (∃ x, h.get? p.1 = some x ∧ x.cls ≠ .type "tuple") ∧ ∃ x, h.get? p.2 = some x ∧ x.cls ≠ .type "tuple" := by
  have nt : ∀ {v : Value}, v = .type "list" ∨ v = .type "dict" ∨ (∃ a, v = .ref a) → v ≠ .type "tuple" := by
    rintro v (rfl | rfl | ⟨a, rfl⟩) <;> intro e <;> first | (injection e with e; exact absurd e (by decide)) | cases e
  have two : p.2 = p.1 → (∃ x, h.get? p.1 = some x ∧ x.cls ≠ .type "tuple") → (∃ x, h.get? p.1 = some x ∧ x.cls ≠ .type "tuple") ∧ ∃ x, h.get? p.2 = some x ∧ x.cls ≠ .type "tuple" := fun e q => ⟨q, by rw [e]; exact q⟩
  induction o using O.casesOn with
  | list l => exact two x.1 (x.2.elim fun _ x => x.1.elim fun _ ho => ⟨_, ho, nt (.inl rfl)⟩)
  | dI l => exact two x.1 (x.2.elim fun _ x => x3a3 x.1 fun o _ _ ho hx _ => ⟨o, ho, nt (.inr (.inl hx.1))⟩)
  | dS l => exact two x.1 (x.2.elim fun _ x => x3a3 x.1 fun o _ _ ho hx _ => ⟨o, ho, nt (.inr (.inl hx.1))⟩)
  | dT l => exact two x.1 (x.2.elim fun _ x => x3a3 x.1 fun o _ _ ho hx _ => ⟨o, ho, nt (.inr (.inl hx.1))⟩)
  | inst c l => exact ⟨⟨_, x.2.1, nt (.inr (.inr ⟨_, rfl⟩))⟩, x2a2 x.2.2 fun _ _ h2 _ => ⟨_, h2, nt (.inr (.inl rfl))⟩⟩
  | dead => exact ff hl

theorem St.own_there (S : St C ρ H s) {a : Addr} (m : Own ρ H a) : ∃ o, s.heap.get? a = some o ∧ o.cls ≠ .type "tuple" := by
  refine x3a4 m fun i p o hp ho hl e => ?_
  refine x0a2 ((S.objs i o p ho hp).there hl) fun h1 h2 => ?_
  rcases e with rfl | rfl
  · exact h1
  · exact h2
theorem St.own_new (S : St C ρ H s) {a : Addr} (m : Own ρ H a) : C.base.get? a = none := by
  refine x3a4 m fun i p o hp ho hl e => ?_
  rcases e with rfl | rfl
  · exact (S.new i p hp).1
  · exact (S.new i p hp).2
/-- where nothing is yet -/
structure FreshAt (C : Cfg) (ρ : Rh) (H : Hp) (a : Addr) : Prop where
  own : ¬ Own ρ H a
  base : C.base.get? a = none
  ne : ∀ (i : Nat) (p : Addr × Addr), ρ[i]? = some p → p.1 ≠ a ∧ p.2 ≠ a
  z : a ∉ ρ.z
theorem none_ne {h : Heap} {a b : Addr} {o : Obj} (n : h.get? a = none) (e : h.get? b = some o) : b ≠ a := fun q => nn (n.symm.trans (q ▸ e))
theorem St.freshAt (S : St C ρ H s) {a : Addr} (h : s.heap.get? a = none) : FreshAt C ρ H a where
  own := fun m => x1a2 (S.own_there m) fun _ ho _ => none_ne h ho rfl
  base := by
    cases e : C.base.get? a with
    | none => rfl
    | some x => exact absurd rfl (none_ne h (S.base _ _ e))
  ne := fun i p hp => ⟨(S.here i p hp).1.elim fun _ e => none_ne h e, (S.here i p hp).2.elim fun _ e => none_ne h e⟩
  z := fun m => (S.hid _ m).1.elim fun _ ho => none_ne h ho rfl
theorem St.tuple_free (S : St C ρ H s) {a : Addr} {items : Array Value} (t : s.heap.IsTuple a items) : ¬ Own ρ H a := fun m => by
  refine x1a2 (S.own_there m) fun o ho hc => ?_
  refine x1a3 t fun o' ho' hc' _ => ?_
  rw [ho] at ho'; cases ho'; exact hc hc'

theorem Nx.lasts (S : St C ρ H s) (N : Nx W ρ H s ρ' H' s') : Lasts ρ H s.heap ρ' H' s'.heap where
  ext := N.ext
  tup := fun a items t => by
    have n := S.tuple_free t
    refine t5 t fun o ho hc m hd => ?_
    exact ⟨o, N.keep a o ho n (fun w => (N.wdata a o w ho).elim (fun q => q _ _ hd) fun q => q.2 hc), hc, m, hd⟩
  lst := fun a items t n => by
    refine t5 t fun o ho hc m hd => ?_
    refine ⟨⟨o, N.keep a o ho (fun q => n (.inl q)) (fun w => (N.wdata a o w ho).elim (fun q => q _ _ hd) fun q => n (.inr q.1)), hc, m, hd⟩, fun q => ?_⟩
    rcases q with q | q
    · exact (N.fresh a q).elim (fun z => n (.inl z)) fun z => by rw [ho] at z; cases z
    · exact n (.inr (N.z ▸ q))

theorem ObjR.lasts {h h' : Heap} (L : Lasts ρ H h ρ' H' h') {p : Addr × Addr} {o : O} (hk : ∀ x, h.get? p.1 = some x → h'.get? p.1 = some x) (hk2 : ∀ x, h.get? p.2 = some x → h'.get? p.2 = some x) (x : ObjR C ρ H h p o) : ObjR C ρ' H' h' p o := by
  induction o using O.casesOn with
  | list l => exact ⟨x.1, x.2.elim fun items x => ⟨items, x.1.elim fun o ho => ⟨o, hk _ ho⟩, x.2.lasts L⟩⟩
  | dI l => exact ⟨x.1, x.2.elim fun xs x => ⟨xs, x3a2 x.1 fun o es ep ho q => ⟨o, es, ep, hk _ ho, q⟩, x.2.lasts L⟩⟩
  | dS l => exact ⟨x.1, x.2.elim fun xs x => ⟨xs, x3a2 x.1 fun o es ep ho q => ⟨o, es, ep, hk _ ho, q⟩, x.2.lasts L⟩⟩
  | dT l => exact ⟨x.1, x.2.elim fun xs x => ⟨xs, x3a2 x.1 fun o es ep ho q => ⟨o, es, ep, hk _ ho, q.1, q.2.1, q.2.2.1, fun y hy => ⟨(q.2.2.2.1 y hy).1, (q.2.2.2.1 y hy).2.keeps L.tup⟩, q.2.2.2.2⟩, x.2.lasts L⟩⟩
  | inst c l => exact ⟨x.1, hk _ x.2.1, x2a2 x.2.2 fun es n h2 r => ⟨es, n, hk2 _ h2, r.lasts L⟩⟩
  | dead => trivial

/-- the heap has turned, but no object of the run's own -/
theorem St.turn (S : St C ρ H s) (hb : ∀ a o, C.base.get? a = some o → s'.heap.get? a = some o) (ho : ∀ a o, Own ρ H a → s.heap.get? a = some o → s'.heap.get? a = some o)
    (L : Lasts ρ H s.heap ρ H s'.heap) (hz : ∀ a o, s.heap.get? a = some o → ∃ o', s'.heap.get? a = some o') (hg : s'.gens = s.gens) (hos : s'.os = s.os) : St C ρ H s' where
  base := hb
  gens := hg.trans S.gens
  os := hos.trans S.os
  len := S.len
  objs := fun i o p h1 h2 => by
    cases hl : o.live with
    | true => exact (S.objs i o p h1 h2).lasts L (fun x e => ho _ _ ⟨i, p, o, h2, h1, hl, .inl rfl⟩ e) (fun x e => ho _ _ ⟨i, p, o, h2, h1, hl, .inr rfl⟩ e)
    | false => induction o using Mini.O.casesOn <;> first | trivial | cases hl
  apart := S.apart
  new := S.new
  hid := fun a h => ⟨(S.hid a h).1.elim fun o ho => hz _ o ho, (S.hid a h).2⟩
  zap := S.zap
  here := fun i p h => ⟨(S.here i p h).1.elim fun a ha => hz _ a ha, (S.here i p h).2.elim fun b hb => hz _ b hb⟩

/-- what is not the run's own stays: all of the heap stays -/
theorem St.grow (S : St C ρ H s) (k : ∀ a o, s.heap.get? a = some o → s'.heap.get? a = some o) (hg : s'.gens = s.gens) (hos : s'.os = s.os) :
    St C ρ H s' ∧ Nx no ρ H s ρ H s' :=
  have N : Nx no ρ H s ρ H s' := ⟨List.prefix_refl _, rfl, fun a o e _ _ => k a o e, fun _ m => .inl m, fun a o e => ⟨o, k a o e⟩, fun _ _ x => x.elim, fun _ _ e => .inl e⟩
  ⟨S.turn (fun a o e => k a o (S.base a o e)) (fun a o _ e => k a o e) (N.lasts S) (fun a o e => ⟨o, k a o e⟩) hg hos, N⟩

theorem own_set {i : Nat} {o' : O} {a : Addr} (hi : ∃ o, H[i]? = some o ∧ o.live = true) (m : Own ρ (H.set i o') a) : Own ρ H a := by
  refine x3a4 m fun j p o hp ho hl e => ?_
  by_cases hj : i = j
  · subst hj
    refine x1a2 hi fun o₀ h0 hl0 => ?_
    exact ⟨i, p, o₀, hp, h0, hl0, e⟩
  · rw [List.getElem?_set_ne hj] at ho
    exact ⟨j, p, o, hp, ho, hl, e⟩

/-- one object of the run's own turns -/
theorem St.set (S : St C ρ H s) {i : Nat} {o o' : O} {p : Addr × Addr} (hi : H[i]? = some o) (hl : o.live = true) (hp : ρ[i]? = some p) (k : ∀ a x, a ≠ p.1 → a ≠ p.2 → s.heap.get? a = some x → s'.heap.get? a = some x)
    (hz : (∃ o, s'.heap.get? p.1 = some o) ∧ ∃ o, s'.heap.get? p.2 = some o) (hg : s'.gens = s.gens) (hos : s'.os = s.os) (hR : Lasts ρ H s.heap ρ (H.set i o') s'.heap → ObjR C ρ (H.set i o') s'.heap p o') :
    St C ρ (H.set i o') s' ∧ Nx no ρ H s ρ (H.set i o') s' := by
  have pr : ∀ a x, s.heap.get? a = some x → ∃ x', s'.heap.get? a = some x' := fun a x e => by
    by_cases e1 : a = p.1
    · exact e1 ▸ hz.1
    · by_cases e2 : a = p.2
      · exact e2 ▸ hz.2
      · exact ⟨x, k a x e1 e2 e⟩
  have N : Nx no ρ H s ρ (H.set i o') s' := ⟨List.prefix_refl _, rfl, fun a x e n _ => k a x (fun q => n ⟨i, p, o, hp, hi, hl, .inl q⟩) (fun q => n ⟨i, p, o, hp, hi, hl, .inr q⟩) e,
    fun a m => .inl (own_set ⟨o, hi, hl⟩ m), pr, fun _ _ x => x.elim, fun _ _ e => .inl e⟩
  have L := N.lasts S
  refine ⟨⟨fun a x e => k a x (fun q => ?_) (fun q => ?_) (S.base a x e), hg.trans S.gens, hos.trans S.os, by rw [List.length_set]; exact S.len, fun j x q h1 h2 => ?_, S.apart, S.new, fun a h => ⟨(S.hid a h).1.elim fun o ho => pr _ o ho, (S.hid a h).2⟩, S.zap, fun i p h => ⟨(S.here i p h).1.elim fun a ha => pr _ a ha, (S.here i p h).2.elim fun b hb => pr _ b hb⟩⟩, N⟩
  · rw [q, (S.new i p hp).1] at e; exact nn e
  · rw [q, (S.new i p hp).2] at e; exact nn e
  · by_cases hj : i = j
    · subst hj
      rw [hp] at h2; cases h2
      have hlt : i < H.length := (List.getElem?_eq_some_iff.mp hi).1
      rw [List.getElem?_set_self hlt] at h1; cases h1
      exact hR L
    · rw [List.getElem?_set_ne hj] at h1
      refine x0a4 (S.apart i j p q hp h2 hj) fun n1 n2 n3 n4 => ?_
      exact (S.objs j x q h1 h2).lasts L (fun y e => k _ _ (Ne.symm n1) (Ne.symm n3) e) (fun y e => k _ _ (Ne.symm n2) (Ne.symm n4) e)

theorem own_app {p : Addr × Addr} {o : O} (hlen : ρ.l.length = H.length) {a : Addr} (m : Own (ρ ++ [p]) (H ++ [o]) a) : Own ρ H a ∨ a = p.1 ∨ a = p.2 := by
  refine x3a4 m fun j q x hq hx hl e => ?_
  rw [Rh.at_, Rh.app_l] at hq
  rcases Nat.lt_or_ge j ρ.l.length with hj | hj
  · rw [List.getElem?_append_left hj] at hq
    rw [List.getElem?_append_left (hlen ▸ hj)] at hx
    exact .inl ⟨j, q, x, hq, hx, hl, e⟩
  · rw [List.getElem?_append_right hj] at hq
    have : j - ρ.l.length = 0 := by
      rcases Nat.eq_zero_or_pos (j - ρ.l.length) with z | z
      · exact z
      · rw [List.getElem?_eq_none (by simp only [List.length_cons, List.length_nil]; (clear hj e hl hx hq hlen; lia))] at hq; exact nn hq
    rw [this] at hq
    have hq' : p = q := by simpa using hq
    subst hq'
    exact .inr e

/-- a new object of the run's own -/
theorem St.app (S : St C ρ H s) {o : O} {p : Addr × Addr} (hn : ¬ Own ρ H p.1 ∧ ¬ Own ρ H p.2) (hnd : ∀ (i : Nat) (q : Addr × Addr), ρ[i]? = some q → p.1 ≠ q.1 ∧ p.1 ≠ q.2 ∧ p.2 ≠ q.1 ∧ p.2 ≠ q.2)
    (hb : C.base.get? p.1 = none ∧ C.base.get? p.2 = none)
    (hl : (∀ items, ¬ s.heap.IsList p.1 items) ∧ ∀ items, ¬ s.heap.IsList p.2 items) (ht : (∀ items, ¬ s.heap.IsTuple p.1 items) ∧ ∀ items, ¬ s.heap.IsTuple p.2 items)
    (k : ∀ a x, a ≠ p.1 → a ≠ p.2 → s.heap.get? a = some x → s'.heap.get? a = some x) (hpz : (∃ o, s'.heap.get? p.1 = some o) ∧ ∃ o, s'.heap.get? p.2 = some o)
    (hzz : p.1 ∉ ρ.z ∧ p.2 ∉ ρ.z) (hg : s'.gens = s.gens) (hos : s'.os = s.os) (hR : Lasts ρ H s.heap (ρ ++ [p]) (H ++ [o]) s'.heap → ObjR C (ρ ++ [p]) (H ++ [o]) s'.heap p o) :
    St C (ρ ++ [p]) (H ++ [o]) s' ∧ Lasts ρ H s.heap (ρ ++ [p]) (H ++ [o]) s'.heap := by
  have L : Lasts ρ H s.heap (ρ ++ [p]) (H ++ [o]) s'.heap := by
    refine ⟨by rw [Rh.app_l]; exact List.prefix_append _ _, fun a items t => ?_, fun a items t n => ?_⟩
    · have n1 : a ≠ p.1 := fun e => ht.1 items (e ▸ t)
      have n2 : a ≠ p.2 := fun e => ht.2 items (e ▸ t)
      refine x1a2 t fun x hx r => ?_
      exact ⟨x, k a x n1 n2 hx, r⟩
    · have n1 : a ≠ p.1 := fun e => hl.1 items (e ▸ t)
      have n2 : a ≠ p.2 := fun e => hl.2 items (e ▸ t)
      refine x1a2 t fun x hx r => ?_
      refine ⟨⟨x, k a x n1 n2 hx, r⟩, fun m => ?_⟩
      exact m.elim (fun m => (own_app S.len m).elim (fun m => n (.inl m)) fun e => e.elim n1 n2) fun m => n (.inr m)
  have at_ : ∀ {i : Nat} {q : Addr × Addr}, (ρ ++ [p])[i]? = some q → ρ[i]? = some q ∨ (i = ρ.l.length ∧ q = p) := fun {i q} e => by
    rw [Rh.at_, Rh.app_l] at e
    rcases Nat.lt_or_ge i ρ.l.length with hj | hj
    · rw [List.getElem?_append_left hj] at e; exact .inl e
    · rw [List.getElem?_append_right hj] at e
      rcases Nat.eq_zero_or_pos (i - ρ.l.length) with z | z
      · rw [z] at e; simp at e; exact .inr ⟨by (clear e hR hos hg hzz hpz ht hl hb hn; lia), e.symm⟩
      · rw [List.getElem?_eq_none (by simp only [List.length_cons, List.length_nil]; (clear hj e hR hos hg hzz hpz ht hl hb hn; lia))] at e; exact nn e
  refine ⟨⟨fun a x e => k a x (fun q => by rw [q, hb.1] at e; exact nn e) (fun q => by rw [q, hb.2] at e; exact nn e) (S.base a x e), hg.trans S.gens, hos.trans S.os, by simp [Rh.app_l, S.len], fun j x q h1 h2 => ?_, fun i j q r h1 h2 hij => ?_, fun i q h1 => ?_, fun a h => ?_, fun a h i q h1 => ?_, fun i q h1 => ?_⟩, L⟩
  · rcases at_ h2 with e | ⟨ei, eq⟩
    · have hj : j < ρ.l.length := (List.getElem?_eq_some_iff.mp (show ρ.l[j]? = some q from e)).1
      rw [List.getElem?_append_left (S.len ▸ hj)] at h1
      cases hlv : x.live with
      | true =>
        refine (S.objs j x q h1 e).lasts L (fun y z => k _ _ (fun c => hn.1 ⟨j, q, x, e, h1, hlv, .inl c.symm⟩) (fun c => hn.2 ⟨j, q, x, e, h1, hlv, .inl c.symm⟩) z) (fun y z => k _ _ (fun c => hn.1 ⟨j, q, x, e, h1, hlv, .inr c.symm⟩) (fun c => hn.2 ⟨j, q, x, e, h1, hlv, .inr c.symm⟩) z)
      | false => induction x using Mini.O.casesOn <;> first | trivial | cases hlv
    · rw [ei, S.len, List.getElem?_append_right (Nat.le_refl _), Nat.sub_self] at h1
      rw [eq, ← Option.some.inj h1]
      exact hR L
  · rcases at_ h1 with e1 | e1 <;> rcases at_ h2 with e2 | e2
    · exact S.apart i j q r e1 e2 hij
    · rw [e2.2]
      have d := hnd i q e1
      exact ⟨d.1.symm, d.2.2.1.symm, d.2.1.symm, d.2.2.2.symm⟩
    · rw [e1.2]; exact hnd j r e2
    · exact absurd (e1.1.trans e2.1.symm) hij
  · rcases at_ h1 with e1 | e1
    · exact S.new i q e1
    · rw [e1.2]; exact hb
  · exact ⟨(S.hid a h).1.elim fun o' ho => ⟨o', k a o' (fun e => hzz.1 (e ▸ h)) (fun e => hzz.2 (e ▸ h)) ho⟩, (S.hid a h).2⟩
  · rcases at_ h1 with e1 | e1
    · exact S.zap a h i q e1
    · rw [e1.2]; exact ⟨fun e => hzz.1 (e ▸ h), fun e => hzz.2 (e ▸ h)⟩
  · rcases at_ h1 with e1 | e1
    · have c := S.here i q e1
      have d := hnd i q e1
      exact ⟨c.1.elim fun a ha => ⟨a, k _ a d.1.symm d.2.2.1.symm ha⟩, c.2.elim fun b hb => ⟨b, k _ b d.2.1.symm d.2.2.2.symm hb⟩⟩
    · rw [e1.2]; exact hpz

end
end Mini
end
section
set_option autoImplicit false
namespace Mini
open PySem PySem.Calls PyProof.Rows
open PySem.W (Frag dictOf Looks)

theorem filter_lookup_nil (names : List Str) (vals : List Value) (h : names.length = vals.length) : names.filter (fun n => ((names.zip vals).lookup n).isNone) = [] := by
  rw [List.filter_eq_nil_iff]
  intro x hx
  have : ∀ (ns : List Str) (vs : List Value), ns.length = vs.length → x ∈ ns → ((ns.zip vs).lookup x).isNone = false := by
    intro ns
    induction ns with
    | nil => intro vs _ hm; cases hm
    | cons n ns ih =>
      intro vs hl hm
      induction vs using List.casesOn with
      | nil => cases hl
      | cons v vs =>
        simp only [List.zip_cons_cons, List.lookup_cons]
        cases hb : x == n with
        | true => rfl
        | false =>
          rcases List.mem_cons.mp hm with rfl | hm
          · simp at hb
          · exact ih vs (Nat.succ.inj hl) hm
  simp [this names vals h hx]

theorem filterMap_zip (names : List Str) (vals : List Value) (h : names.length = vals.length) (hn : names.Nodup) : names.filterMap (fun n => ((names.zip vals).lookup n).map (n, ·)) = names.zip vals := by
  have : ∀ (ns : List Str) (vs : List Value) (pre : List (Str × Value)), ns.length = vs.length → ns.Nodup → (∀ n ∈ ns, pre.lookup n = none) →
      ns.filterMap (fun n => ((pre ++ ns.zip vs).lookup n).map (n, ·)) = ns.zip vs := by
    intro ns
    induction ns with
    | nil => intro vs pre hl _ _; rfl
    | cons n ns ih =>
      intro vs pre hl hnd hp
      induction vs using List.casesOn with
      | nil => cases hl
      | cons v vs =>
        rw [List.nodup_cons] at hnd
        have h1 : (pre ++ (n, v) :: ns.zip vs).lookup n = some v := by
          rw [List.lookup_append, hp n List.mem_cons_self]; simp
        simp only [List.zip_cons_cons, List.filterMap_cons, h1, Option.map_some]
        have := ih vs (pre ++ [(n, v)]) (Nat.succ.inj hl) hnd.2 (fun m hm => by
          rw [List.lookup_append, hp m (List.mem_cons_of_mem _ hm)]
          have : (m == n) = false := beq_eq_false_iff_ne.mpr fun e => hnd.1 (e ▸ hm)
          simp [List.lookup_cons, this])
        simp only [List.append_assoc, List.cons_append, List.nil_append] at this
        rw [this]
  simpa using this names vals [] h hn (fun _ _ => rfl)

theorem ite_neg' {α : Type _} {c : Prop} [Decidable c] {t e r : α} (h : ¬ c) (k : e = r) : (if c then t else e) = r := (if_neg h).trans k
theorem forIn_nil' {α β γ : Type} {l : List α} {init : β} {g : α → β → Sem (ForInStep β)} {f : β → Sem γ} {r : Sem γ} (e : l = []) (k : f init = r) : (forIn l init g >>= f) = r := by subst e; exact k
theorem bind_plain {fd : FuncData} {as : List Arg} {vals : List Value} (hp : fd.params = ⟨[], as, none, [], [], none, []⟩) (hd : fd.defaults = .none) (hl : as.length = vals.length) (hn : (as.map (·.arg)).Nodup) :
    bindArgs fd ⟨vals, []⟩ = pure ((as.map (·.arg)).zip vals) := by
  obtain ⟨a1, a2, par, a4, a5, a6, a7, dfl, a9, a10, a11, a12, a13, a14, a15⟩ := fd
  cases hp
  cases hd
  have hl' : (as.map (·.arg)).length = vals.length := by simpa using hl
  have e0 : ∀ k, List.drop k ([] : List Value) = [] := fun k => List.drop_nil
  have e1 : ((as.map Arg.arg).take ((as.map Arg.arg).length - (List.drop (0 - (as.map Arg.arg).length) ([] : List Value)).length)).filter (fun n => (((as.map Arg.arg).zip vals).lookup n).isNone) = [] := by
    rw [e0, List.length_nil, Nat.sub_zero, List.take_of_length_le (Nat.le_refl _)]; exact filter_lookup_nil _ vals hl'
  refine ite_neg' (c := (decide (vals.length > (as.map Arg.arg).length) && true) = true) (by rw [hl']; simp) ?_
  refine ite_neg' (c := (!(List.filter (fun n => (((as.map Arg.arg).zip vals).lookup n).isNone) ((as.map Arg.arg).take ((as.map Arg.arg).length - (List.drop (0 - (as.map Arg.arg).length) ([] : List Value)).length))).isEmpty) = true) (by rw [e1]; exact Bool.false_ne_true) ?_
  refine forIn_nil' (l := ((as.map Arg.arg).drop ((as.map Arg.arg).length - (List.drop (0 - (as.map Arg.arg).length) ([] : List Value)).length)).zip (List.drop (0 - (as.map Arg.arg).length) ([] : List Value))) (by rw [e0]; exact List.zip_nil_right) ?_
  show (pure (((as.map Arg.arg) ++ []).filterMap (fun n => (((as.map Arg.arg).zip vals).lookup n).map (n, ·))) : Sem (List (Str × Value))) = (pure ((as.map Arg.arg).zip vals) : Sem (List (Str × Value)))
  rw [List.append_nil, filterMap_zip _ vals hl' hn]

noncomputable def Room (n : Nat) (A : Around) : Prop := A.handled = none ∧ A.depth + 2 * n < 900 ∧ A.units + 8 * n + 200 < cLine
theorem Room.dec {n : Nat} {A : Around} (r : Room (n + 1) A) : Room n A := ⟨r.1, by have := r.2.1; lia, by have := r.2.2; lia⟩
theorem Room.deep {n : Nat} {A : Around} {env : Env} (r : Room (n + 1) A) : Room n (A.deeper env) := ⟨r.1, by have := r.2.1; show A.depth + 1 + 2 * n < 900; lia, by have := r.2.2; show A.units + 3 + 8 * n + 200 < cLine; lia⟩
theorem Room.in1 {n : Nat} {A : Around} (r : Room (n + 1) A) : Room n A.in1 := ⟨r.1, by have := r.2.1; show A.depth + 2 * n < 900; lia, by have := r.2.2; show A.units + 1 + 8 * n + 200 < cLine; lia⟩
theorem Room.units {n : Nat} {A : Around} (r : Room n A) : A.units + 200 < cLine := by have := r.2.2; lia
theorem Room.mark {n : Nat} {A : Around} (r : Room n A) : Room n (A.mark none) := ⟨by rw [Around.mark, r.1]; rfl, r.2.1, r.2.2⟩

noncomputable def Wr (sc : Scope) (env : Env) (a : Addr) : Prop := a = env.locals ∨ ∃ x, sc.names.lookup x = some .cell ∧ env.cells.lookup x = some a

structure EnvOK (C : Cfg) (sc : Scope) (env : Env) (ρ : Rh) (H : Hp) (h : Heap) (lo : Lo) : Prop where
  kind : env.scope.kind = .function
  glob : env.globals = mainGlobals
  blt : env.builtins = builtinsNs
  loc : ∀ x, sc.names.lookup x = some .local → env.kindOf x = some .local
  cel : ∀ x, sc.names.lookup x = some .cell → env.kindOf x = some .cell ∧ ∃ c v₀, env.cells.lookup x = some c ∧ h.IsCell c v₀
  fre : ∀ x, sc.names.lookup x = some .free → (env.kindOf x = some .cell ∨ env.kindOf x = some .free) ∧ ∃ c v₀, env.cells.lookup x = some c ∧ h.IsCell c v₀
  glo : ∀ x, sc.names.lookup x = some .globalImplicit → env.kindOf x = some .globalImplicit
  ns : ∃ m, h.Ns env.locals m ∧ ∀ i v, lk lo i = some v → sc.names.lookup (nm i) = some .local → ∃ x, m (nm i) = some x ∧ VR ρ H h v x
  cv : ∀ i v, lk lo i = some v → (sc.names.lookup (nm i) = some .cell ∨ sc.names.lookup (nm i) = some .free) → ∃ c x, env.cells.lookup (nm i) = some c ∧ h.IsCell c (some x) ∧ VR ρ H h v x
  free : ¬ Own ρ H env.locals ∧ ∀ x c, (sc.names.lookup x = some .cell ∨ sc.names.lookup x = some .free) → env.cells.lookup x = some c → ¬ Own ρ H c
  new : C.base.get? env.locals = none ∧ ∀ x c, sc.names.lookup x = some .cell → env.cells.lookup x = some c → C.base.get? c = none
  apart : ∀ x y c, sc.names.lookup x = some .cell → env.cells.lookup x = some c → env.cells.lookup y = some c → x = y
  clr : (∀ (i : Nat) (p : Addr × Addr), ρ[i]? = some p → p.1 ≠ env.locals ∧ p.2 ≠ env.locals) ∧ env.locals ∉ ρ.z

section
variable {C : Cfg} {sc : Scope} {env : Env} {lo : Lo} {ρ ρ' : Rh} {H H' : Hp} {s s' : Shared}

theorem isCell_keep {h h' : Heap} {c : Addr} {v : Option Value} (k : ∀ o, h.get? c = some o → h'.get? c = some o) (x : h.IsCell c v) : h'.IsCell c v := x1a2 x fun o a b => ⟨o, k o a, b⟩
theorem ns_keep {h h' : Heap} {a : Addr} {m : Str → Option Value} (k : ∀ o, h.get? a = some o → h'.get? a = some o) (x : h.Ns a m) : h'.Ns a m := x3a2 x fun o es ep e r => ⟨o, es, ep, k o e, r⟩

theorem EnvOK.cell_lt (X : EnvOK C sc env ρ H s.heap lo) {x : Str} {c : Addr} (hx : sc.names.lookup x = some .cell ∨ sc.names.lookup x = some .free) (e : env.cells.lookup x = some c) : ∃ v, s.heap.IsCell c v := by
  rcases hx with hx | hx
  · refine c5 (X.cel x hx) fun _ c' v e' q => ?_
    rw [e] at e'; cases e'; exact ⟨v, q⟩
  · refine c5 (X.fre x hx) fun _ c' v e' q => ?_
    rw [e] at e'; cases e'; exact ⟨v, q⟩
theorem isCell_lt {h : Heap} {c : Addr} {v : Option Value} (x : h.IsCell c v) : c < h.objs.size := x1a2 x fun _ a _ => Heap.lt_size a

theorem EnvOK.next (X : EnvOK C sc env ρ H s.heap lo) (S : St C ρ H s) (N : Nx no ρ H s ρ' H' s') : EnvOK C sc env ρ' H' s'.heap lo := by
  have L := N.lasts S
  have kc : ∀ x c o, (sc.names.lookup x = some .cell ∨ sc.names.lookup x = some .free) → env.cells.lookup x = some c → s.heap.get? c = some o → s'.heap.get? c = some o := fun x c o hx e g => N.keep c o g (X.free.2 x c hx e) id
  have kl : ∀ o, s.heap.get? env.locals = some o → s'.heap.get? env.locals = some o := fun o g => N.keep _ o g X.free.1 id
  refine ⟨X.kind, X.glob, X.blt, X.loc, fun x hx => ?_, fun x hx => ?_, X.glo, ?_, fun i v hi hk => ?_, ⟨fun m => ?_, fun x c hx e m => ?_⟩, X.new, X.apart, ⟨fun i p hp => ?_, by rw [N.z]; exact X.clr.2⟩⟩
  · refine c5 (X.cel x hx) fun a c v₀ e q => ?_
    exact ⟨a, c, v₀, e, isCell_keep (fun o => kc x c o (.inl hx) e) q⟩
  · refine c5 (X.fre x hx) fun a c v₀ e q => ?_
    exact ⟨a, c, v₀, e, isCell_keep (fun o => kc x c o (.inr hx) e) q⟩
  · refine x1a2 X.ns fun m hm q => ?_
    refine ⟨m, ns_keep kl hm, fun i v hi hk => ?_⟩
    refine x1a2 (q i v hi hk) fun x e r => ?_
    exact ⟨x, e, r.lasts L⟩
  · refine x2a3 (X.cv i v hi hk) fun c x e q r => ?_
    exact ⟨c, x, e, isCell_keep (fun o => kc _ c o hk e) q, r.lasts L⟩
  · obtain ⟨mm, ⟨o, _, _, ho, _⟩, _⟩ := X.ns
    exact (N.fresh _ m).elim X.free.1 fun z => by rw [ho] at z; cases z
  · refine x1a1 (X.cell_lt hx e) fun v q => ?_
    refine x1a2 q fun o ho _ => ?_
    exact (N.fresh _ m).elim (X.free.2 x c hx e) fun z => by rw [ho] at z; cases z
  · obtain ⟨mm, ⟨o, _, _, ho, _⟩, _⟩ := X.ns
    rcases N.news i p hp with e | ⟨e1, e2⟩
    · exact X.clr.1 i p e
    · exact ⟨fun q => (by rw [q, ho] at e1; cases e1), fun q => (by rw [q, ho] at e2; cases e2)⟩

theorem EnvOK.wdata (X : EnvOK C sc env ρ H s.heap lo) : ∀ a o, Wr sc env a → s.heap.get? a = some o → (∀ xs n, o.data ≠ .seq xs n) ∨ (a ∈ ρ.z ∧ o.cls ≠ .type "tuple") := by
  rintro a o (rfl | ⟨x, hx, e⟩) ho <;> refine .inl fun xs n hd => ?_
  · obtain ⟨m, ⟨o', es, ep, ho', hd', _⟩, _⟩ := X.ns
    rw [ho] at ho'; cases ho'; rw [hd] at hd'; cases hd'
  · refine x2a2 (X.cell_lt (.inl hx) e) fun v o' ho' hd' => ?_
    rw [ho] at ho'; cases ho'; rw [hd] at hd'; cases hd'

/-! reading a name -/
theorem sees_of {x : Str} (h : sees sc x = true) : sc.names.lookup x = some .local ∨ sc.names.lookup x = some .cell ∨ sc.names.lookup x = some .free := by
  unfold sees at h
  split at h <;> simp_all
theorem isVar_of {ok : Scope → Str → Bool} {i : Nat} {x : Expr} (h : isVar sc i ok x = true) : ∃ p, x = .Name (nm i) p ∧ ok sc (nm i) = true ∧ ((nm i) == ("__debug__" : Str)) = false ∧ ((nm i) == ("__classdict__" : Str)) = false := by
  have hx := bk_of (and_l h)
  have h2 := and3 (and_r h)
  have e : nm i = (pt x).s := beq_iff_eq.mp h2.1
  have d := and2 h2.2.2
  rw [← e] at h2 d
  exact ⟨(pt x).p, e ▸ hx, h2.2.1, by simpa using d.1, by simpa using d.2⟩

theorem loadName_ok (X : EnvOK C sc env ρ H s.heap lo) {i : Nat} {v : V} (hs : sees sc (nm i) = true) (hd : (nm i == ("__classdict__" : Str)) = false) (hl : lk lo i = some v) {M : Model} {A : Around} {E : Value → Shared → Prop} {Q : Value → Shared → Prop}
    (h : ∀ x, VR ρ H s.heap v x → Q x s) : wpAny M A (loadName env (nm i)) Q E s := by
  rcases sees_of hs with q | q | q
  · refine x1a2 X.ns fun m hm r => ?_
    refine x1a2 (r i v hl q) fun x e r => ?_
    exact wpAny_loadName_local X.kind (X.loc _ q) hm e (h x r)
  · refine x2a3 (X.cv i v hl (.inl q)) fun c x e hc r => ?_
    exact wpAny_loadName_cell X.kind (X.cel _ q).1 e hc (h x r)
  · refine x2a3 (X.cv i v hl (.inr q)) fun c x e hc r => ?_
    rcases (X.fre _ q).1 with z | z
    · exact wpAny_loadName_cell X.kind z e hc (h x r)
    · exact wpAny_loadName_free X.kind z e hc (h x r) hd

theorem owns_of {x : Str} (h : owns sc x = true) : sc.names.lookup x = some .local ∨ sc.names.lookup x = some .cell := by
  unfold owns at h
  split at h <;> simp_all

/-- one of the frame's own places turns -/
theorem frame_turn (X : EnvOK C sc env ρ H s.heap lo) (S : St C ρ H s) {a : Addr} (ha : Wr sc env a) (hb : Heap.SameBut a s.heap s'.heap) (hp : ∃ o, s'.heap.get? a = some o) (hg : s'.gens = s.gens) (hos : s'.os = s.os) :
    St C ρ H s' ∧ Nx (Wr sc env) ρ H s ρ H s' ∧ Lasts ρ H s.heap ρ H s'.heap := by
  have hn : ¬ Own ρ H a := by
    rcases ha with rfl | ⟨x, hx, e⟩
    · exact X.free.1
    · exact X.free.2 x a (.inl hx) e
  have hnew : C.base.get? a = none := by
    rcases ha with rfl | ⟨x, hx, e⟩
    · exact X.new.1
    · exact X.new.2 x a hx e
  have pr : ∀ b x, s.heap.get? b = some x → ∃ x', s'.heap.get? b = some x' := fun b x e => by
    by_cases e1 : b = a
    · exact e1 ▸ hp
    · exact ⟨x, (hb.2 b e1).trans e⟩
  have N : Nx (Wr sc env) ρ H s ρ H s' := ⟨List.prefix_refl _, rfl, fun b o e _ w => (hb.2 b (fun q => w (q ▸ ha))).trans e, fun _ m => .inl m, pr, X.wdata, fun _ _ e => .inl e⟩
  have L := N.lasts S
  exact ⟨S.turn (fun b o e => (hb.2 b (fun q => by rw [q, hnew] at e; exact nn e)).trans (S.base b o e)) (fun b o m e => (hb.2 b (fun q => hn (q ▸ m))).trans e) L pr hg hos, N, L⟩

theorem store_ok (X : EnvOK C sc env ρ H s.heap lo) (S : St C ρ H s) {i : Nat} {v : V} {x : Value} (hs : owns sc (nm i) = true) (r : VR ρ H s.heap v x) {M : Model} {A : Around} {E : Value → Shared → Prop} {Q : Unit → Shared → Prop}
    (h : ∀ s', St C ρ H s' → Nx (Wr sc env) ρ H s ρ H s' → EnvOK C sc env ρ H s'.heap (lset lo i v) → Q () s') : wpAny M A (storeName env (nm i) x) Q E s := by
  rcases owns_of hs with q | q
  · refine x1a2 X.ns fun m hm t => ?_
    refine wpAny_storeName_local (X.loc _ q) hm (fun h' hm' hb => ?_) (by rw [X.kind]; rfl)
    refine x0a3 (frame_turn (s' := { s with heap := h', toks := s.toks + 1 }) X S (.inl rfl) hb (x3a2 hm' fun o _ _ e _ => ⟨o, e⟩) rfl rfl) fun S' N L => ?_
    have nl : ∀ {y : Str} {c : Addr}, (sc.names.lookup y = some .cell ∨ sc.names.lookup y = some .free) → env.cells.lookup y = some c → c ≠ env.locals := fun hy e z => by
      refine x2a2 (X.cell_lt hy e) fun v₀ o ho hd => ?_
      refine x3a3 hm fun o' es ep ho' hd' _ => ?_
      rw [z, ho'] at ho; cases ho; rw [hd'] at hd; cases hd
    refine h _ S' N ⟨X.kind, X.glob, X.blt, X.loc, fun y hy => ?_, fun y hy => ?_, X.glo, ⟨_, hm', fun j u hj hk => ?_⟩, fun j u hj hk => ?_, X.free, X.new, X.apart, X.clr⟩
    · refine c5 (X.cel y hy) fun a c v₀ e z => ?_
      exact ⟨a, c, v₀, e, isCell_keep (fun o g => (hb.2 c (nl (.inl hy) e)).trans g) z⟩
    · refine c5 (X.fre y hy) fun a c v₀ e z => ?_
      exact ⟨a, c, v₀, e, isCell_keep (fun o g => (hb.2 c (nl (.inr hy) e)).trans g) z⟩
    · rw [lk_lset] at hj
      by_cases ej : j = i
      · rw [if_pos ej] at hj; cases hj
        rw [ej]
        exact ⟨x, by simp, r.lasts L⟩
      · rw [if_neg ej] at hj
        refine x1a2 (t j u hj hk) fun y e z => ?_
        exact ⟨y, by rw [if_neg (fun q => ej (nm_inj q))]; exact e, z.lasts L⟩
    · rw [lk_lset] at hj
      by_cases ej : j = i
      · rw [ej, q] at hk; rcases hk with hk | hk <;> cases hk
      · rw [if_neg ej] at hj
        refine x2a3 (X.cv j u hj hk) fun c y e z t => ?_
        exact ⟨c, y, e, isCell_keep (fun o g => (hb.2 c (nl hk e)).trans g) z, t.lasts L⟩
  · refine c5 (X.cel _ q) fun hk c v₀ ec hc => ?_
    refine wpAny_storeName_cell X.kind hk ec hc (fun h' hc' hb => ?_)
    refine x0a3 (frame_turn (s' := { s with heap := h' }) X S (.inr ⟨_, q, ec⟩) hb (x1a2 hc' fun o e _ => ⟨o, e⟩) rfl rfl) fun S' N L => ?_
    refine x1a2 X.ns fun m hm t => ?_
    have nl : env.locals ≠ c := fun z => by
      refine x1a2 hc fun o ho hd => ?_
      refine x3a3 hm fun o' es ep ho' hd' _ => ?_
      rw [z, ho] at ho'; cases ho'; rw [hd'] at hd; cases hd
    have other : ∀ {y : Str} {c' : Addr}, y ≠ nm i → env.cells.lookup y = some c' → c' ≠ c := fun hy e z => hy (X.apart _ _ c q ec (z ▸ e)).symm
    refine h _ S' N ⟨X.kind, X.glob, X.blt, X.loc, fun y hy => ?_, fun y hy => ?_, X.glo, ⟨m, ns_keep (fun o g => (hb.2 _ nl).trans g) hm, fun j u hj hk => ?_⟩, fun j u hj hk => ?_, X.free, X.new, X.apart, X.clr⟩
    · refine c5 (X.cel y hy) fun a c' v₁ e z => ?_
      by_cases ey : y = nm i
      · rw [ey] at e ⊢
        exact ⟨(X.cel _ q).1, c, _, ec, hc'⟩
      · exact ⟨a, c', v₁, e, isCell_keep (fun o g => (hb.2 c' (other ey e)).trans g) z⟩
    · refine c5 (X.fre y hy) fun a c' v₁ e z => ?_
      have ey : y ≠ nm i := fun ey => by rw [ey, q] at hy; cases hy
      exact ⟨a, c', v₁, e, isCell_keep (fun o g => (hb.2 c' (other ey e)).trans g) z⟩
    · rw [lk_lset] at hj
      by_cases ej : j = i
      · rw [ej, q] at hk; cases hk
      · rw [if_neg ej] at hj
        refine x1a2 (t j u hj hk) fun y e z => ?_
        exact ⟨y, e, z.lasts L⟩
    · rw [lk_lset] at hj
      by_cases ej : j = i
      · rw [if_pos ej] at hj; cases hj
        rw [ej]
        exact ⟨c, x, ec, hc', r.lasts L⟩
      · rw [if_neg ej] at hj
        refine x2a3 (X.cv j u hj hk) fun c' y e z t => ?_
        exact ⟨c', y, e, isCell_keep (fun o g => (hb.2 c' (other (fun q => ej (nm_inj q)) e)).trans g) z, t.lasts L⟩
end
end Mini
end
section
set_option autoImplicit false
namespace Mini
open PySem PySem.Calls PyProof.Rows
open PySem.W (Frag dictOf Looks findIn typeIn keepIn makesIn plainGet hasDictIn plainOver)

set_option genInjectivity false in
set_option genSizeOf false in
structure Glo where
  mg : Str → Option Value
  mb : Str → Option Value

/-- a def's object -/
structure FnOK (C : Cfg) (a : Addr) (f : FDef) (d : FuncData) (as : List Arg) (stmts : List Stmt) (n : Nat) : Prop where
  obj : ∃ oc od sl, C.K.lookup a = some ⟨oc, od, .func d, sl⟩
  keep : keepIn C.K (.ref a) = true
  params : d.params = ⟨[], as, none, [], [], none, []⟩
  names : as.map (·.arg) = f.params.map nm
  nodup : (f.params.map nm).Nodup
  dflt : d.defaults = .none
  body : d.body = .stmts stmts
  glob : d.globals = mainGlobals
  blt : d.builtins = builtinsNs
  kind : d.scope.kind = .function
  gen : d.scope.isGenerator = false
  co : d.scope.isCoroutine = false
  code : C.base.CodeRec d.code d.qualname
  loc : ∀ x ∈ f.params.map nm, d.scope.names.lookup x = some .local ∨ d.scope.names.lookup x = some .cell
  mt : mtSs (mtS n d.scope) f.body stmts = true
noncomputable def Fn (C : Cfg) (a : Addr) (f : FDef) : Prop := ∃ d as stmts n, FnOK C a f d as stmts n ∧ d.closure = [] ∧ ∀ x, d.scope.names.lookup x ≠ some .free


/-- a class's __init__ that begins with super().m2() -/
structure SupAt (C : Cfg) (c : Nat) (a : Addr) (m2 : Nat) (b2 : List S) (d : FuncData) (ar : Arg) (p0 p1 ap p p' : Pos) (rest : List Stmt) (n : Nat) (cc cda f2 : Addr) : Prop where
  obj : ∃ oc od sl, C.K.lookup a = some ⟨oc, od, .func d, sl⟩
  params : d.params = ⟨[], [ar], none, [], [], none, []⟩
  arg : ar.arg = nm n_self
  dflt : d.defaults = .none
  glob : d.globals = mainGlobals
  blt : d.builtins = builtinsNs
  kind : d.scope.kind = .function
  gen : d.scope.isGenerator = false
  co : d.scope.isCoroutine = false
  code : C.base.CodeRec d.code d.qualname
  clo : d.closure = [(("__class__" : Str), cc)]
  body : d.body = .stmts (.Expr (.Call (.Attribute (.Call (.Name "super" p0) [] [] p1) (nm m2) ap) [] [] p) p' :: rest)
  line : (ap.endLine == p.line) = true
  mt : mtSs (mtS n d.scope) b2 rest = true
  self : d.scope.names.lookup (nm n_self) = some .local
  sup : d.scope.names.lookup ("super" : Str) = some .globalImplicit
  cls : d.scope.names.lookup ("__class__" : Str) = some .free
  cells : ∀ x ∈ d.scope.names, x.2 ≠ .cell
  free : ∀ x, d.scope.names.lookup x = some .free → x = ("__class__" : Str)
  cell : ∃ cl cld csl, C.K.lookup cc = some ⟨cl, cld, .cell (some (.ref (C.cls c))), csl⟩
  cdr : d.code = .ref cda ∧ ∃ ccl cdd vs ccs file tf, C.K.lookup cda = some ⟨ccl, cdd, .fields vs, ccs⟩ ∧ vs[2]? = some (.str file tf) ∧ ((C.prog.main.file : Str) == file) = true
  isc : ∃ cd, W.clsIn C.K (C.cls c) = some cd ∧ W.alongIn C.K (nm m2) ((cd.mro.dropWhile (· != .ref (C.cls c))).drop 1) = some (some (.ref f2))
  f2t : typeIn C.K (.ref f2) = some (.type "function")
  f2k : keepIn C.K (.ref f2) = true
  sub : W.mroIn C.K (C.cls c) (.ref (C.cls c)) = some true
  top : (C.prog.main.scope.names.lookup ("super" : Str)).isSome = false
  any : W.nsIn C.K cStatics "thirdparty.any" = some none
  notc : (nm m2 == ("__class__" : Str)) = false
set_option genInjectivity false in
set_option genSizeOf false in
inductive Sup (C : Cfg) (c : Nat) (a : Addr) (f : FDef) : Prop
  | mk (c2 m2 : Nat) (b2 : List S) (ms2 : List (Nat × FDef)) (f2d : FDef) (d : FuncData) (ar : Arg) (p0 p1 ap p p' : Pos) (rest : List Stmt) (n : Nat) (cc cda f2 : Addr) : f = ⟨[n_self], .expr (.sup c2 m2) :: b2⟩ → lk C.P.classes c2 = some ms2 → lk ms2 m2 = some f2d → Fn C f2 f2d → SupAt C c a m2 b2 d ar p0 p1 ap p p' rest n cc cda f2 → Sup C c a f

structure ClsOK (C : Cfg) (G : Glo) (c : Nat) (ms : List (Nat × FDef)) : Prop where
  glob : G.mg (nm c) = some (.ref (C.cls c))
  makes : makesIn C.K (C.cls c) = true
  keep : keepIn C.K (.ref (C.cls c)) = true
  get : ∀ x, plainGet C.K (C.cls c) x = true
  dict : hasDictIn C.K (C.cls c) = true
  set : findIn C.K (.ref (C.cls c)) "__setattr__" = some (some (.builtin "object.__setattr__"))
  over : plainOver C.K (C.cls c) = true
  attr : ∀ a ∈ C.P.attrs, findIn C.K (.ref (C.cls c)) (nm a) = some none
  meth : ∀ m f, lk ms m = some f → ∃ a, findIn C.K (.ref (C.cls c)) (nm m) = some (some (.ref a)) ∧ typeIn C.K (.ref a) = some (.type "function") ∧ (Fn C a f ∨ m = n_init)
  init : ∀ f, lk ms n_init = some f → ∃ a, findIn C.K (.ref (C.cls c)) "__init__" = some (some (.ref a)) ∧ typeIn C.K (.ref a) = some (.type "function") ∧ (Fn C a f ∨ Sup C c a f)

structure CfgOK (C : Cfg) (G : Glo) : Prop where
  X : C.K.In C.base
  lim : C.base.NoLimit
  g : C.base.Ns mainGlobals G.mg
  b : C.base.Ns builtinsNs G.mb
  sys : (C.base.get? sysModules).isSome = true
  cst : ∀ i v, lk C.P.consts i = some v → ∃ x, G.mg (nm i) = some x ∧ VR .nil [] C.base v x
  fn : ∀ i f, lk C.P.funs i = some f → ∃ a, G.mg (nm i) = some (.ref a) ∧ Fn C a f
  cl : ∀ c ms, lk C.P.classes c = some ms → ClsOK C G c ms
  bi : ∀ x ∈ biNames, G.mg x = none ∧ G.mb x = bootBuiltins x

noncomputable abbrev MM (C : Cfg) : Model := model C.prog C.w

/-- a tree comes back with a value that stands for v -/
noncomputable def Runs (C : Cfg) (A : Around) (t : Sem Value) (ρ : Rh) (H : Hp) (s : Shared) (v : V) (H' : Hp) : Prop :=
  ∀ (E : Value → Shared → Prop) (Q : Value → Shared → Prop), (∀ x s' ρ', St C ρ' H' s' → Nx no ρ H s ρ' H' s' → VR ρ' H' s'.heap v x → Q x s') → wpAny (MM C) A t Q E s
noncomputable def RunsL (C : Cfg) (A : Around) (t : Sem (List Value)) (ρ : Rh) (H : Hp) (s : Shared) (v : List V) (H' : Hp) : Prop :=
  ∀ (E : Value → Shared → Prop) (Q : List Value → Shared → Prop), (∀ x s' ρ', St C ρ' H' s' → Nx no ρ H s ρ' H' s' → VRs ρ' H' s'.heap v x → Q x s') → wpAny (MM C) A t Q E s
noncomputable def RunsB (C : Cfg) (A : Around) (t : Sem Bool) (ρ : Rh) (H : Hp) (s : Shared) (b : Bool) (H' : Hp) : Prop :=
  ∀ (E : Value → Shared → Prop) (Q : Bool → Shared → Prop), (∀ s' ρ', St C ρ' H' s' → Nx no ρ H s ρ' H' s' → Q b s') → wpAny (MM C) A t Q E s

theorem Runs.eq {C : Cfg} {A : Around} {t : Sem Value} {ρ : Rh} {H H1 H' : Hp} {s : Shared} {v w : V} (h : (w, H1) = (v, H')) (k : Runs C A t ρ H s w H1) : Runs C A t ρ H s v H' := by (refine pinjE h ?_; clear h); exact k
theorem Runs.eqs {C : Cfg} {A : Around} {t : Sem Value} {ρ : Rh} {H H1 H' : Hp} {s : Shared} {v w : V} (h : some (w, H1) = some (v, H')) (k : Runs C A t ρ H s w H1) : Runs C A t ρ H s v H' := .eq (Option.some.inj h) k

/-- a level's expressions are right -/
noncomputable def EvOK (C : Cfg) (n : Nat) (R : Sems) : Prop := ∀ (f : Nat) (sc : Scope) (env : Env) (e : E) (x : Expr) (lo : Lo) (H : Hp) (v : V) (H' : Hp),
  mtE f sc e x = true → R.ev e lo H = some (v, H') → ∀ (A : Around) (s : Shared) (ρ : Rh), Room n A → St C ρ H s → EnvOK C sc env ρ H s.heap lo → Runs C A (eval x env) ρ H s v H'
/-- a level's tests are right -/
noncomputable def TrOK (C : Cfg) (n : Nat) (R : Sems) : Prop := ∀ (f : Nat) (sc : Scope) (env : Env) (e : E) (x : Expr) (lo : Lo) (H : Hp) (b : Bool) (H' : Hp),
  mtE f sc e x = true → R.ev e lo H = some (.bool b, H') → ∀ (A : Around) (s : Shared) (ρ : Rh), Room n A → St C ρ H s → EnvOK C sc env ρ H s.heap lo → RunsB C A (isTrue x env (eval x env)) ρ H s b H'


section
variable {C : Cfg} {sc : Scope} {env : Env} {lo : Lo} {A : Around} {R : Sems} {n : Nat} {ρ ρ' : Rh} {H H' : Hp} {s s' : Shared}

/-- no starred, no set display is matched -/
theorem mtE_not (f : Nat) (e : E) (x : Expr) (h : mtE f sc e x = true) : (∀ y p, x ≠ .Starred y p) ∧ (∀ l k p, x ≠ .Set l k p) ∧ (∀ l u t p, x ≠ .Slice l u t p) := by
  have hk := Nat.le_of_ble_eq_true (ek_le e)
  rw [← mt_k h] at hk
  refine ⟨fun y p hx => ?_, fun l k p hx => ?_, fun l u t p hx => ?_⟩ <;> subst hx
  · exact absurd hk (show ¬ 50 ≤ 20 by decide)
  · exact absurd hk (show ¬ 50 ≤ 20 by decide)
  · induction t using Option.casesOn
    · exact absurd hk (show ¬ 30 ≤ 20 by decide)
    · exact absurd hk (show ¬ 50 ≤ 20 by decide)

theorem starEach_one {x : Expr} {xs : List Expr} (h : ∀ y p, x ≠ .Starred y p) : starEach (x :: xs) env = (false, eval x env) :: starEach xs env := by
  induction x using PySem.Expr.casesOn <;> first | rfl | exact absurd rfl (h _ _)

noncomputable def treesOf (xs : List Expr) (env : Env) : List (Bool × Sem Value) := xs.map fun x => (false, eval x env)
theorem backTo_plain (pos : Pos) (xs : List Expr) : backTo pos (treesOf xs env) = treesOf xs env := by
  induction xs with
  | nil => rfl
  | cons x xs ih =>
    show (false, _) :: backTo pos (treesOf xs env) = _
    rw [ih]; rfl

theorem mtEs_nil {me : Scope → E → Expr → Bool} {xs : List Expr} (h : mtEs me sc [] xs = true) : xs = [] := by induction xs using List.casesOn with
  | nil => rfl
  | cons _ _ => exact ff h
theorem mtEsE {me : Scope → E → Expr → Bool} {e : E} {es : List E} {xs : List Expr} (h : mtEs me sc (e :: es) xs = true) {P : List Expr → Prop} (k : ∀ x ys, me sc e x = true → mtEs me sc es ys = true → P (x :: ys)) : P xs := by
  induction xs using List.casesOn with
  | nil => exact ff h
  | cons x ys => exact k x ys (and2 h).1 (and2 h).2
theorem mtEs_length {f : Nat} {es : List E} {xs : List Expr} (h : mtEs (mtE f) sc es xs = true) : es.length = xs.length := by
  induction es generalizing xs with
  | nil => rw [mtEs_nil h]; rfl
  | cons e es ih =>
    (apply mtEsE h; clear h; intro x ys _ m)
    exact congrArg (· + 1) (ih m)

theorem starEach_plain {f : Nat} {es : List E} {xs : List Expr} (h : mtEs (mtE f) sc es xs = true) : starEach xs env = treesOf xs env := by
  induction es generalizing xs with
  | nil => rw [mtEs_nil h]; rfl
  | cons e es ih =>
    (apply mtEsE h; clear h; intro x ys m1 m2)
    rw [starEach_one (mtE_not f e x m1).1, ih m2]; rfl
theorem spliced_ok (EV : EvOK C n R) {f : Nat} : ∀ {es : List E} {xs : List Expr} {H : Hp} {vs : List V} {H' : Hp}, mtEs (mtE f) sc es xs = true → evs R es lo H = some (vs, H') → ∀ {s : Shared} {ρ : Rh}, Room n A → St C ρ H s → EnvOK C sc env ρ H s.heap lo →
    RunsL C A (spliced (treesOf xs env)) ρ H s vs H' := by
  intro es
  induction es with
  | nil =>
    intro xs H vs H' hm h s ρ r S X E Q k
    cases mtEs_nil hm
    (revert k; apply sinjE h; clear h; intro k)
    exact wpAny_pure (k _ _ _ S (.refl _ _ _) .nil)
  | cons e es ih =>
    intro xs H vs H' hm h s ρ r S X E Q k
    (apply mtEsE hm; clear hm; intro x ys m1 m2)
    (refine bpE h fun v H1 h1 hh_ => ?_; clear h; revert hh_; intro h)
    (refine bpE h fun ws H2 h2 hh_ => ?_; clear h; revert hh_; intro h)
    (revert k; apply sinjE h; clear h; intro k)
    refine wpAny_bind (EV f sc env e x lo H v H1 m1 h1 A s ρ r S X E _ fun y s₁ ρ₁ S₁ N₁ r₁ => ?_)
    refine wpAny_bind (wpAny_pure (wpAny_bind (wpAny_holding ?_)))
    exact ih m2 h2 r S₁ (X.next S N₁) E _ fun ys s₂ ρ₂ S₂ N₂ r₂ => wpAny_pure (k _ _ _ S₂ (N₁.trans N₂) (.cons (r₁.lasts (N₂.lasts S₁)) r₂))

theorem isGlob_of {g : Str} {x : Expr} (h : isGlob sc g x = true) : ∃ p, x = .Name g p ∧ sc.names.lookup g = some .globalImplicit ∧ (g == ("__debug__" : Str)) = false := by
  have hx := bk_of (and_l h)
  have h2 := and3 (and_r h)
  have e : (pt x).s = g := beq_iff_eq.mp h2.1
  rw [e] at h2
  exact ⟨(pt x).p, e ▸ hx, beq_iff_eq.mp h2.2.1, by simpa using and_l h2.2.2⟩

theorem loadGlob_ok {G : Glo} (K : CfgOK C G) (X : EnvOK C sc env ρ H s.heap lo) (S : St C ρ H s) {g : Str} {v : Value} (hl : sc.names.lookup g = some .globalImplicit) (hv : G.mg g = some v) {E : Value → Shared → Prop} {Q : Value → Shared → Prop} (h : Q v s) :
    wpAny (MM C) A (loadName env g) Q E s :=
  W.ks_loadName_global X.kind (X.glo _ hl) (loadGlobal_global (by rw [X.glob]; exact K.g.keeps S.base) hv h)
theorem loadBlt_ok {G : Glo} (K : CfgOK C G) (X : EnvOK C sc env ρ H s.heap lo) (S : St C ρ H s) {g : Str} {v : Value} (hl : sc.names.lookup g = some .globalImplicit) (hb : g ∈ biNames) (hv : bootBuiltins g = some v) {E : Value → Shared → Prop} {Q : Value → Shared → Prop} (h : Q v s) :
    wpAny (MM C) A (loadName env g) Q E s :=
  W.ks_loadName_global X.kind (X.glo _ hl) (loadGlobal_builtin (by rw [X.glob]; exact K.g.keeps S.base) (K.bi g hb).1 (by rw [X.blt]; exact K.b.keeps S.base) ((K.bi g hb).2.trans hv) h)

theorem St.base_lasts (S : St C ρ H s) : Lasts .nil [] C.base ρ H s.heap where
  ext := List.nil_prefix
  tup := fun a items ⟨o, ho, r⟩ => ⟨o, S.base a o ho, r⟩
  lst := fun a items ⟨o, ho, r⟩ _ => ⟨⟨o, S.base a o ho, r⟩, fun m => by
    rcases m with m | m
    · rw [S.own_new m] at ho; exact nn ho
    · rw [(S.hid a m).2] at ho; exact nn ho⟩

/-! expressions without parts -/
theorem Runs.of {x x' : Expr} {v : V} (hx : x = x') (h : Runs C A (eval x' env) ρ H s v H') : Runs C A (eval x env) ρ H s v H' := hx ▸ h
theorem ev_none {f : Nat} {x : Expr} {v : V} (hm : mtE (f + 1) sc .none x = true) (S : St C ρ H s) : Runs C A (eval x env) ρ H s .none H := by
  rw [(mt_bk hm).1]
  intro E Q k
  exact wpAny_Constant_none (k _ _ _ S (.refl _ _ _) .none)
theorem ev_bool {f : Nat} {x : Expr} {b : Bool} (hm : mtE (f + 1) sc (.bool b) x = true) (S : St C ρ H s) : Runs C A (eval x env) ρ H s (.bool b) H := by
  refine x0a2 (mt_bk hm) fun hx hm => ?_
  rw [hx]
  obtain rfl : b = (pt x).bl := beq_iff_eq.mp hm
  intro E Q k
  exact wpAny_Constant_bool (k _ _ _ S (.refl _ _ _) (.bool _))
theorem ev_num {f : Nat} {x : Expr} {i : Int} (hm : mtE (f + 1) sc (.num i) x = true) (S : St C ρ H s) : Runs C A (eval x env) ρ H s (.int i) H := by
  refine x0a2 (mt_bk hm) fun hx hm => ?_
  rw [hx]
  obtain rfl : i = (pt x).i := beq_iff_eq.mp hm
  intro E Q k
  refine x0a2 (S.grow (s' := { s with toks := s.toks + 1 }) (fun _ _ e => e) rfl rfl) fun S' N => ?_
  exact wpAny_Constant_int (k _ _ _ S' N (.int _ _))
theorem ev_str {f : Nat} {x : Expr} {i : Nat} (hm : mtE (f + 1) sc (.str i) x = true) (S : St C ρ H s) : Runs C A (eval x env) ρ H s (.str i) H := by
  refine x0a2 (mt_bk hm) fun hx hm => ?_
  rw [hx]
  have hm : nm i = (pt x).s := beq_iff_eq.mp hm
  intro E Q k
  refine x0a2 (S.grow (s' := { s with toks := s.toks + 1 }) (fun _ _ e => e) rfl rfl) fun S' N => ?_
  exact wpAny_Constant_str (k _ _ _ S' N (hm ▸ .str _ _))
theorem ev_var {f : Nat} {x : Expr} {i : Nat} {v : V} (hm : mtE (f + 1) sc (.var i) x = true) (hl : lk lo i = some v) (S : St C ρ H s) (X : EnvOK C sc env ρ H s.heap lo) : Runs C A (eval x env) ρ H s v H := by
  obtain ⟨p, rfl, a, b, c⟩ := isVar_of (mt_p hm)
  intro E Q k
  exact wpAny_Name (loadName_ok X a c hl fun y r => k _ _ _ S (.refl _ _ _) r) b
theorem ev_cst {G : Glo} (K : CfgOK C G) {f : Nat} {x : Expr} {i : Nat} {v : V} (hm : mtE (f + 1) sc (.cst i) x = true) (hl : lk C.P.consts i = some v) (S : St C ρ H s) (X : EnvOK C sc env ρ H s.heap lo) : Runs C A (eval x env) ρ H s v H := by
  obtain ⟨p, rfl, a, b, c⟩ := isVar_of (mt_p hm)
  refine x1a2 (K.cst i v hl) fun y hy r => ?_
  intro E Q k
  exact wpAny_Name (loadGlob_ok K X S (beq_iff_eq.mp a) hy (k _ _ _ S (.refl _ _ _) (r.lasts S.base_lasts))) b
end
end Mini
end
section
set_option autoImplicit false
namespace Mini
open PySem PySem.Calls PyProof.Rows
open PySem.W (Frag dictOf Looks findIn typeIn keepIn makesIn plainGet hasDictIn plainOver)

theorem sizeLine_big : sizeLine = 16777216 := rfl
theorem okLen_le {n : Nat} (h : okLen n = true) : n ≤ 100000 := Nat.le_of_ble_eq_true h
theorem okInt_lt {i : Int} (h : okInt i = true) : i.natAbs < 2 ^ 62 := Nat.lt_of_le_of_lt (Nat.le_of_ble_eq_true h) (by decide)
theorem okInt_le {i : Int} (h : okInt i = true) : i.natAbs ≤ 2 ^ 62 := Nat.le_of_lt (okInt_lt h)
set_option tactic.hygienic true in
theorem intBits_le {i : Int} (h : okInt i = true) : Builtin.Int.intBits i ≤ 64 := by
  have h := okInt_le h
  unfold Builtin.Int.intBits
  split
  · lia
  · rename_i hi
    have : i.natAbs ≠ 0 := by
      intro e; apply hi; simp; lia
    have := (Nat.log2_lt this (k := 63)).mpr (Nat.lt_of_le_of_lt h (by decide))
    lia
theorem noPylong {a b : Int} (h : okInt b = true) : Builtin.divisionGoesByPylong a b = false := by
  have h := okInt_le h
  refine PyProof.noPylong_of_log2 ?_
  by_cases e : b.natAbs = 0
  · rw [e]; decide
  · have := (Nat.log2_lt e (k := 63)).mpr (Nat.lt_of_le_of_lt h (by decide))
    lia

section
variable {C : Cfg} {A : Around} {n : Nat} {ρ ρ' : Rh} {H H' : Hp} {s s' : Shared}

theorem Runs.here {v : V} {t : Sem Value} (S : St C ρ H s) (h : ∀ E Q, (∀ x s', VR ρ H s.heap v x → s'.heap = s.heap → s'.gens = s.gens → s'.os = s.os → Q x s') → wpAny (MM C) A t Q E s) : Runs C A t ρ H s v H := fun E Q k =>
  h E Q fun x s' r e1 e2 e3 =>
    have G := S.grow (s' := s') (fun a o e => by rw [e1]; exact e) e2 e3
    k x s' ρ G.1 G.2 (by rw [e1]; exact r)

set_option tactic.hygienic true in
theorem binI_ok (S : St C ρ H s) {op : Bop} {a b r : Int} {t u : Tok} (h : binI op a b = some r) : Runs C A (binaryOp (opOf op) (.int a t) (.int b u)) ρ H s (.int r) H := by
  refine Runs.here S fun E Q k => ?_
  have k' : ∀ tk, Q (.int r tk) { s with toks := s.toks + 1 } := fun tk => k _ _ (.int _ _) rfl rfl rfl
  induction op using Mini.Bop.casesOn <;> simp only [binI] at h
  · cases h; exact add_int (k' _)
  · cases h; exact sub_int (k' _)
  · cases hi : okInt a <;> rw [hi] at h <;> simp at h
    subst h
    exact mul_int (k' _) (IntMulOk.of_left (intBits_le hi))
  · split at h
    · exact nn h
    · rename_i hb
      cases hi : okInt b <;> rw [hi] at h <;> simp at h
      subst h
      exact floordiv_int hb (k' _) (.inl (noPylong hi))
  · split at h
    · exact nn h
    · rename_i hb
      cases h
      exact mod_int' hb (k' _)
  · split at h
    · rename_i hb
      cases hi : okInt a <;> rw [hi] at h <;> simp at h
      subst h
      exact pow_int_small hb.1 (by (clear hi; lia)) (Nat.lt_of_le_of_lt (okInt_le hi) (by decide)) (k' _)
    · exact nn h
  · split at h
    · rename_i hb
      cases hi : okInt a <;> rw [hi] at h <;> simp at h
      subst h
      exact lshift_int_small hb.1 (by (clear hi; lia)) (Nat.lt_of_le_of_lt (okInt_le hi) (by decide)) (k' _)
    · exact nn h
  · split at h
    · rename_i hb
      cases h
      exact rshift_int hb (k' _)
    · exact nn h
  · cases h; exact and_int (k' _)
  · cases h; exact or_int (k' _)
  · cases h; exact xor_int (k' _)

/-- a new tuple, a new list that stays as it is -/
theorem push_tup (S : St C ρ H s) {vs : List V} {xs : Array Value} (r : VRs ρ H s.heap vs xs.toList) {tk : Nat} :
    St C ρ H { s with heap := s.heap.push { cls := .type "tuple", data := .seq xs }, toks := tk } ∧ Nx no ρ H s ρ H { s with heap := s.heap.push { cls := .type "tuple", data := .seq xs }, toks := tk } ∧
      VR ρ H (s.heap.push { cls := .type "tuple", data := .seq xs }) (.tup vs) (.ref s.heap.objs.size) := by
  refine x0a2 (S.grow (s' := { s with heap := s.heap.push { cls := .type "tuple", data := .seq xs }, toks := tk }) (fun a o e => Heap.get?_push_of_some _ e) rfl rfl) fun S' N => ?_
  exact ⟨S', N, .tup ⟨_, Heap.get?_push_size _ rfl, rfl, _, rfl⟩ (r.lasts (N.lasts S))⟩
theorem St.fresh (S : St C ρ H s) : ¬ Own ρ H s.heap.objs.size := fun m => by
  refine x1a2 (S.own_there m) fun o ho _ => ?_
  exact Nat.lt_irrefl _ (Heap.lt_size ho)
theorem St.shy (S : St C ρ H s) : ¬ Shy ρ H s.heap.objs.size := fun m => by
  rcases m with m | m
  · exact S.fresh m
  · obtain ⟨⟨o, ho⟩, _⟩ := S.hid _ m
    exact Nat.lt_irrefl _ (Heap.lt_size ho)
theorem push_lst (S : St C ρ H s) {vs : List V} {xs : Array Value} (r : VRs ρ H s.heap vs xs.toList) {tk : Nat} :
    St C ρ H { s with heap := s.heap.push { cls := .type "list", data := .seq xs }, toks := tk } ∧ Nx no ρ H s ρ H { s with heap := s.heap.push { cls := .type "list", data := .seq xs }, toks := tk } ∧
      VR ρ H (s.heap.push { cls := .type "list", data := .seq xs }) (.lst vs) (.ref s.heap.objs.size) := by
  refine x0a2 (S.grow (s' := { s with heap := s.heap.push { cls := .type "list", data := .seq xs }, toks := tk }) (fun a o e => Heap.get?_push_of_some _ e) rfl rfl) fun S' N => ?_
  exact ⟨S', N, .lst ⟨_, Heap.get?_push_size _ rfl, rfl, _, rfl⟩ S.shy (r.lasts (N.lasts S))⟩

theorem digs_fuel : ∀ (f g n : Nat), n ≤ f → n ≤ g → digs f n = digs g n := by
  intro f
  induction f with
  | zero =>
    intro g n hf hg
    have : n = 0 := Nat.le_zero.mp hf
    subst this
    induction g using Nat.casesAuxOn <;> simp [digs]
  | succ f ih =>
    intro g n hf hg
    by_cases h0 : n = 0
    · subst h0; induction g using Nat.casesAuxOn <;> simp [digs]
    · induction g using Nat.casesAuxOn with
      | zero => (clear hf; lia)
      | succ g =>
        simp only [digs, h0, if_false]
        rw [ih g (n / 256) (by (clear hg h0; lia)) (by (clear h0 hf; lia))]
theorem nmL_zero : nmL 0 = [] := rfl
theorem nmL_pos {n : Nat} (h : n ≠ 0) : nmL n = (n % 256) :: nmL (n / 256) := by
  unfold nmL
  induction n using Nat.casesAuxOn with
  | zero => exact absurd rfl h
  | succ m =>
    simp only [digs, h, if_false]
    rw [digs_fuel m ((m + 1) / 256) ((m + 1) / 256) (by (clear h; lia)) (Nat.le_refl _)]
theorem nmL_cat : ∀ (a b : Nat), nmL (a + b * 256 ^ (nmL a).length) = nmL a ++ nmL b := by
  intro a
  induction a using Nat.strongRecOn with
  | ind a ih =>
    intro b
    by_cases h0 : a = 0
    · subst h0; simp [nmL_zero]
    · have e := nmL_pos h0
      have hl : (nmL a).length = (nmL (a / 256)).length + 1 := by rw [e]; rfl
      have hn : a + b * 256 ^ (nmL a).length ≠ 0 := by (clear hl e; lia)
      have hd : (a + b * 256 ^ (nmL a).length) / 256 = a / 256 + b * 256 ^ (nmL (a / 256)).length := by
        rw [hl, Nat.pow_succ, ← Nat.mul_assoc, Nat.add_mul_div_right _ _ (by decide)]
      have hm : (a + b * 256 ^ (nmL a).length) % 256 = a % 256 := by
        rw [hl, Nat.pow_succ, ← Nat.mul_assoc, Nat.add_mul_mod_self_right]
      rw [nmL_pos hn, hd, hm, ih (a / 256) (by (clear hm hd hn hl e; lia)) b, e]
      rfl
theorem nm_cat (a b : Nat) : nm a ++ nm b = nm (strCat a b) := by
  unfold nm strCat
  rw [nmL_cat]
  show Str.append _ _ = _
  simp [Str.append]
theorem nm_length (a : Nat) : (nm a).length = (nmL a).length := by simp [nm, Str.length]

theorem list_mulW (l : Addr) (items : Array Value) (n : Nat) (x : Int) (u : Tok) (dd : Option Addr) (sl : Array (Option Value)) (hc0 : ¬(!Builtin.List.listFitsIndex x) = true) (hc1 : ¬items.size * x.toNat > (2 ^ 63 - 1) / 8) (hc2 : ¬Builtin.List.listTooLong (items.size * x.toNat) = true) :
    Meets (Builtin.«list.__mul__» ⟨[.ref l, .int x u], []⟩) (fun _ R s => s.heap.get? l = some { cls := .type "list", dict := dd, data := .seq items n, slots := sl } ∧ R (.ok (.ret (Value.ref s.heap.objs.size))) { s with heap := s.heap.push { cls := Value.type "list", data := Data.seq (List.foldl (fun x1 x2 => x1 ++ x2) #[] (List.replicate (if items.isEmpty = true then 0 else x.toNat) items)) }, toks := s.toks }) :=
  .of_wp fun prog w A R s h => by
    obtain ⟨hp, g, d, tk, os⟩ := s; refine x0a2 h fun hl h => ?_
    have hsz := AutoListH.joined_fits hc2
    wp_walk; refine wpAny_ite_false (decide_eq_false (Nat.not_lt.mpr hsz)) ?_; wp_walk; exact ⟨_, rfl, h⟩
theorem int_rmulW (a : Int) (t : Tok) (l : Addr) (items : Array Value) (n : Nat) (dd : Option Addr) (sl : Array (Option Value)) :
    Meets (Builtin.«int.__rmul__» ⟨[.int a t, .ref l], []⟩) (fun _ R s => s.heap.get? l = some { cls := .type "list", dict := dd, data := .seq items n, slots := sl } ∧ R (.ok (.ret Value.notImplemented)) s) :=
  .of_wp fun prog w A R s h => by obtain ⟨hp, g, d, tk, os⟩ := s; refine x0a2 h fun hl h => ?_; wp_walk; exact ⟨_, rfl, h⟩

theorem foldl_replicate {α : Type} (xs : Array α) : ∀ (k : Nat) (acc : Array α), (List.foldl (fun x1 x2 => x1 ++ x2) acc (List.replicate k xs)).toList = acc.toList ++ (List.replicate k xs.toList).flatten
  | 0, acc => by simp
  | k + 1, acc => by rw [List.replicate_succ, List.foldl_cons, foldl_replicate xs k, List.replicate_succ, List.flatten_cons]; simp
theorem VRs.flat {h : Heap} {vs : List V} {xs : List Value} (r : VRs ρ H h vs xs) : ∀ k : Nat, VRs ρ H h (List.replicate k vs).flatten (List.replicate k xs).flatten
  | 0 => .nil
  | k + 1 => by rw [List.replicate_succ, List.replicate_succ, List.flatten_cons, List.flatten_cons]; exact r.append (r.flat k)

theorem list_add_ok (S : St C ρ H s) {l m : List V} {x y : Value} (ha : VR ρ H s.heap (.lst l) x) (hb : VR ρ H s.heap (.lst m) y) (q : okLen (l.length + m.length) = true) : Runs C A (binaryOp .Add x y) ρ H s (.lst (l ++ m)) H := by
  cases ha with
  | @lst a1 _ i1 t1 n1 r1 =>
    cases hb with
    | @lst a2 _ i2 t2 n2 r2 =>
      have hz := okLen_le q
      have z1 := r1.length
      have z2 := r2.length
      obtain ⟨⟨cls, dd, data, sl⟩, ho, rfl, n, rfl⟩ := t1
      obtain ⟨⟨cls2, dd2, data2, sl2⟩, ho2, rfl, n2, rfl⟩ := t2
      intro E Q k
      refine concat_meets ⟨_, ho, rfl⟩ ⟨_, ho2, rfl⟩ noFill_list_add seq_list_add PySem.F.slot_list_add PySem.F.entry_list_add (PySem.F.args_list_add_2 _ _) (list_addW a1 a2 i1 i2 n n2 dd dd2 sl sl2 ?_) ⟨ho, ho2, ?_⟩
      · simp only [Array.length_toList] at z1 z2; rw [sizeLine_big]; (clear ho2 ho n1 q; lia)
      · refine x0a3 (push_lst S (vs := l ++ m) (xs := i1 ++ i2) (by rw [Array.toList_append]; exact r1.append r2) (tk := s.toks)) fun S' N r => ?_
        exact k _ _ _ S' N r
theorem list_mul_ok (S : St C ρ H s) {l : List V} {j : Int} {x y : Value} (ha : VR ρ H s.heap (.lst l) x) (hb : VR ρ H s.heap (.int j) y) (q0 : 0 ≤ j) (q : okLen (l.length * j.toNat) = true) (q2 : j < 100000) :
    Runs C A (binaryOp .Mult x y) ρ H s (.lst ((List.replicate j.toNat l).flatten)) H := by
  cases ha with
  | @lst a1 _ i1 t1 n1 r1 =>
    refine VR.intE hb fun u => ?_
    ·
      have hz := okLen_le q
      have z1 := r1.length
      simp only [Array.length_toList] at z1
      obtain ⟨⟨cls, dd, data, sl⟩, ho, rfl, n, rfl⟩ := t1
      intro E Q k
      refine wpAny_binaryOp_repeat_ref (T := "list") (U := "int") (by decide) ⟨_, ho, rfl⟩ (fun s' => typeIs_int s' j u) noFill_list_mul F.fills_int_mul F.slot_int_rmul repeat_list F.slot_int_index.lookup
        (call_meets F.slot_int_rmul (typeIs_int s j u) F.entry_int_rmul (F.args_int_rmul_2 _ _) (int_rmulW j u a1 i1 n dd sl)
          ⟨ho, rfl, ⟨_, ho, rfl⟩, call_meets F.slot_list_mul ⟨_, ho, rfl⟩ F.entry_list_mul (F.args_list_mul_2 _ _)
            (list_mulW a1 i1 n j u dd sl (by simp [Builtin.List.listFitsIndex]; (clear ho z1 hz n1 q; lia)) (by rw [← z1]; (clear ho z1 n1 q2 q q0; lia)) (by rw [← z1]; simp [Builtin.List.listTooLong, sizeLine]; (clear ho z1 n1 q2 q q0; lia)))
            ⟨ho, ?_⟩⟩)
      refine x0a3 (push_lst S (vs := (List.replicate j.toNat l).flatten) (xs := List.foldl (fun x1 x2 => x1 ++ x2) #[] (List.replicate (if i1.isEmpty = true then 0 else j.toNat) i1)) (by
        rw [foldl_replicate]
        by_cases he : i1.isEmpty = true
        · have : i1 = #[] := by simpa using he
          subst this
          cases r1
          simp; exact .nil
        · rw [if_neg he]; simpa using r1.flat j.toNat) (tk := s.toks)) fun S' N r => ?_
      exact k _ _ _ S' N r
theorem ite_some' {α : Type} {p : Prop} [Decidable p] {x : Option α} {y : α} (h : (if p then x else Option.none) = some y) : p ∧ x = some y := by
  by_cases hp : p
  · exact ⟨hp, by rwa [if_pos hp] at h⟩
  · rw [if_neg hp] at h; exact nn h

theorem binV_ok (S : St C ρ H s) {op : Bop} {a b r : V} {x y : Value} (ha : VR ρ H s.heap a x) (hb : VR ρ H s.heap b y) (h : binV op a b = some r) : Runs C A (binaryOp (opOf op) x y) ρ H s r H := by
  induction a using V.casesOn with
  | int i =>
    (refine bsE h fun j hj hh_ => ?_; clear h; revert hh_; intro h)
    obtain rfl := int?_some hj
    obtain ⟨k, hk, rfl⟩ := map_some h
    refine VR.intE ha fun _ => ?_; refine VR.intE hb fun _ => ?_
    exact binI_ok S hk
  | str i =>
    (refine bsE h fun j hj hh_ => ?_; clear h; revert hh_; intro h)
    obtain rfl := str?_some hj
    obtain ⟨⟨rfl, q1, q2⟩, h9⟩ := ite_some' (p := op = .add ∧ (nmL i).length < 100 ∧ (nmL j).length < 100) (x := some (V.str (strCat i j))) h
    cases h9
    refine VR.strE ha fun _ => ?_; refine VR.strE hb fun _ => ?_
    refine Runs.here S fun E Q k => add_str (fun t' tk => ?_) ?_
    · rw [nm_cat]; exact k _ _ (.str _ _) rfl rfl rfl
    · rw [nm_length, nm_length, sizeLine_big]; (clear h hj; lia)
  | lst l =>
    by_cases ho : op = .add
    · subst ho
      refine bsE (x := V.lst? b) h fun m hj h => ?_
      obtain rfl := lst?_some hj
      (refine itE h fun q hh_ => ?_; clear h; revert hh_; intro h)
      cases h
      exact list_add_ok S ha hb q
    · replace h : (b.int?.bind fun n => if op = .mul ∧ 0 ≤ n ∧ okLen (l.length * n.toNat) ∧ n < 100000 then some (V.lst ((List.replicate n.toNat l).flatten)) else Option.none) = some r := (if_neg ho).symm.trans h
      (refine bsE h fun n hj hh_ => ?_; clear h; revert hh_; intro h)
      obtain rfl := int?_some hj
      obtain ⟨⟨rfl, q0, q, q2⟩, h9⟩ := ite_some' (p := op = .mul ∧ 0 ≤ n ∧ okLen (l.length * n.toNat) ∧ n < 100000) (x := some (V.lst ((List.replicate n.toNat l).flatten))) h
      cases h9
      exact list_mul_ok S ha hb q0 q q2
  | none => exact nn h
  | bool _ => exact nn h
  | tup _ => exact nn h
  | ref _ => exact nn h

/-! comparisons -/
theorem eqV_flat {a b : V} {r : Bool} {H : Hp} (h : eqV H a b = some r) : a.flat = true ∧ b.flat = true ∧ r = V.beq a b := by
  unfold eqV at h
  cases ha : (V.flat a && V.flat b) with
  | false => rw [ha] at h; exact nn h
  | true =>
    rw [ha] at h
    simp only [cond_true, Option.some.injEq] at h
    rw [Bool.and_eq_true] at ha
    exact ⟨ha.1, ha.2, h.symm⟩
end
end Mini
end
section
set_option autoImplicit false
namespace Mini
open PySem PySem.Calls PyProof.Rows
open PySem.W (Frag dictOf Looks findIn typeIn keepIn makesIn plainGet hasDictIn plainOver)

section
variable {C : Cfg} {A : Around} {n : Nat} {ρ ρ' : Rh} {H H' : Hp} {s s' : Shared}

theorem St.ref_obj (S : St C ρ H s) {i : Nat} {o : O} {x : Value} (r : VR ρ H s.heap (.ref i) x) (hi : nth H i = some o) : ∃ p, ρ[i]? = some p ∧ x = .ref p.1 ∧ ObjR C ρ H s.heap p o := by
  cases r with
  | ref e => exact ⟨_, e, rfl, S.objs _ _ _ hi e⟩

theorem eq_flat (S : St C ρ H s) {a b : V} {x y : Value} (ha : VR ρ H s.heap a x) (hb : VR ρ H s.heap b y) (fa : a.flat = true) (fb : b.flat = true) (hu : A.units + 200 < cLine) :
    Runs C A (compareOp .Eq x y) ρ H s (.bool (V.beq a b)) H := by
  refine x1a2 (flat_dep fa) fun i hi hi' => ?_
  refine x1a2 (flat_dep fb) fun j hj hj' => ?_
  refine x1a3 (ha.reads hi) fun as ra la da => ?_
  refine x1a3 (hb.reads hj) fun bs rb lb db => ?_
  refine Runs.here S fun E Q k => SeqAt.compareEq_reads ra rb la lb ?_ ?_
  · have : min (V.py a).depth (V.py b).depth ≤ (V.py a).depth := Nat.min_le_left _ _
    (clear this db lb la hj' hj hi fb fa; lia)
  · rw [beq_py a b (by rw [hi]; rfl) (by rw [hj]; rfl)]
    exact k _ _ (.bool _) rfl rfl rfl
theorem ne_flat (S : St C ρ H s) {a b : V} {x y : Value} (ha : VR ρ H s.heap a x) (hb : VR ρ H s.heap b y) (fa : a.flat = true) (fb : b.flat = true) (hu : A.units + 200 < cLine) :
    Runs C A (compareOp .NotEq x y) ρ H s (.bool (!V.beq a b)) H := by
  refine x1a2 (flat_dep fa) fun i hi hi' => ?_
  refine x1a2 (flat_dep fb) fun j hj hj' => ?_
  refine x1a3 (ha.reads hi) fun as ra la da => ?_
  refine x1a3 (hb.reads hj) fun bs rb lb db => ?_
  refine Runs.here S fun E Q k => SeqAt.compareNe_reads ra rb la lb ?_ ?_
  · have : min (V.py a).depth (V.py b).depth ≤ (V.py a).depth := Nat.min_le_left _ _
    (clear this db lb la hj' hj hi fb fa; lia)
  · rw [beq_py a b (by rw [hi]; rfl) (by rw [hj]; rfl)]
    exact k _ _ (.bool _) rfl rfl rfl

/-! dicts as the library has them -/
theorem findBy_pairs {K : Type} [DecidableEq K] {prog : Program} {w : World} {knd : PySem.KeyKind prog w K} {es : List DictEntry} {xs : List (K × Value)} (p : Pairs knd es xs) (k : K) :
    findBy knd.is es.toArray k = (xs.find? fun x => decide (x.1 = k)).map (·.2) := by
  unfold findBy
  rw [List.find?_toArray]
  induction p with
  | nil => rfl
  | @cons e kv es kvs h1 h2 _ ih =>
    rw [List.find?_cons, List.find?_cons]
    by_cases hk : kv.1 = k
    · subst hk
      rw [h1]; simp [h2]
    · have : knd.is k e.key = false := by
        cases q : knd.is k e.key with
        | false => rfl
        | true => exact absurd (knd.inj _ _ _ h1 q) hk
      rw [this]; simp only [decide_eq_false hk]
      exact ih
theorem mapOf_dict {K : Type} [DecidableEq K] {prog : Program} {w : World} {knd : PySem.KeyKind prog w K} {h : Heap} {a : Addr} {xs : List (K × Value)} (x : h.DictOf knd a xs) : h.MapOf knd a fun k => (xs.find? fun x => decide (x.1 = k)).map (·.2) := by
  obtain ⟨o, es, ep, ho, hx, hd, hk, hp, _⟩ := x
  refine ⟨o, es, ep, ho, hx, hd, hk, fun k => ?_⟩
  have := findBy_pairs hp k
  simpa using this
theorem PR.getI {h : Heap} : ∀ {l : List (Int × V)} {xs : List (Int × Value)}, PR id ρ H h l xs → ∀ k : Int,
    (getI l k = Option.none ∧ (xs.find? fun x => decide (x.1 = k)).map (·.2) = Option.none) ∨ ∃ v y, getI l k = some v ∧ (xs.find? fun x => decide (x.1 = k)).map (·.2) = some y ∧ VR ρ H h v y := by
  intro l xs p
  induction p with
  | nil => intro k; exact .inl ⟨rfl, rfl⟩
  | @cons j v y l l' r _ ih =>
    intro k
    simp only [Mini.getI, List.find?_cons, id]
    by_cases e : k = j
    · subst e; simp; exact r
    · have e' : ¬ j = k := fun q => e q.symm
      simp only [beq_eq_false_iff_ne.mpr e, decide_eq_false e', cond_false]
      exact ih k
theorem PR.getS {h : Heap} : ∀ {l : List (Nat × V)} {xs : List (Str × Value)}, PR nm ρ H h l xs → ∀ k : Nat,
    (lk l k = Option.none ∧ (xs.find? fun x => decide (x.1 = nm k)).map (·.2) = Option.none) ∨ ∃ v y, lk l k = some v ∧ (xs.find? fun x => decide (x.1 = nm k)).map (·.2) = some y ∧ VR ρ H h v y := by
  intro l xs p
  induction p with
  | nil => intro k; exact .inl ⟨rfl, rfl⟩
  | @cons j v y l l' r _ ih =>
    intro k
    rw [lk_cons]
    simp only [List.find?_cons]
    by_cases e : k = j
    · subst e; simp; exact r
    · have e' : ¬ nm j = nm k := fun q => e (nm_inj q).symm
      simp only [if_neg e, decide_eq_false e']
      exact ih k
theorem TR.getT {h : Heap} : ∀ {l : List (V × V)} {xs : List (V × Addr × Value)}, TR ρ H h l xs → ∀ k : V,
    (getT l k = Option.none ∧ atKey xs k = Option.none) ∨ ∃ v a y, getT l k = some v ∧ atKey xs k = some (a, y) ∧ VR ρ H h v y := by
  intro l xs p
  induction p with
  | nil => intro k; exact .inl ⟨rfl, rfl⟩
  | @cons j v a y l l' r _ ih =>
    intro k
    simp only [Mini.getT, same_decide, atKey, List.find?_cons]
    by_cases e : j = k
    · subst e
      refine .inr ⟨v, a, y, by simp, by simp, r⟩
    · simp only [decide_eq_false e, cond_false]
      exact ih k

theorem St.not_sys {G : Glo} (K : CfgOK C G) (S : St C ρ H s) {i : Nat} {p : Addr × Addr} (hp : ρ[i]? = some p) : (p.1 == sysModules) = false := by
  refine beq_eq_false_iff_ne.mpr fun e => ?_
  have h1 := (S.new i p hp).1
  rw [e] at h1
  have := K.sys
  rw [h1] at this; cases this

theorem isInt_is (prog : Program) (w : World) (i : Int) (t : Tok) : (intKind prog w).is i (.int i t) = true := by simp [intKind, Value.isInt]
theorem isStr_is (prog : Program) (w : World) (i : Str) (t : Tok) : (PySem.strKind prog w).is i (.str i t) = true := by simp [PySem.strKind, Value.isStrOf]

theorem notIn_of_in {M : Model} {x c : Value} {E : Value → Shared → Prop} {Q : Value → Shared → Prop} (h : wpAny M A (compareOp .In x c) (fun v s' => ∀ b, v = .bool b → Q (.bool (!b)) s') E s) : wpAny M A (compareOp .NotIn x c) Q E s := fun Γ p hΓ => by
  have h1 := h Γ p hΓ
  have e1 : compareOp .In x c = (contains c x >>= fun b => pure (.bool b)) := rfl
  have e2 : compareOp .NotIn x c = (contains c x >>= fun b => pure (.bool (!b))) := rfl
  rw [e1, Sem.wp_bind'] at h1
  rw [e2, Sem.wp_bind']
  exact Sem.wp_mono M Γ _ (fun b p' s' q => (show ∀ c, Value.bool b = .bool c → Q (.bool (!c)) s' from q) b rfl) (fun _ _ _ q => q) p s h1
theorem Runs.notIn {x y : Value} {r : Bool} (h : Runs C A (compareOp .In x y) ρ H s (.bool r) H') : Runs C A (compareOp .NotIn x y) ρ H s (.bool (!r)) H' := fun E Q k =>
  notIn_of_in (h E _ fun v s' ρ' S' N R b e => by
    subst e
    cases R
    exact k _ _ _ S' N (.bool _))

theorem key_tup {a : V} (h : a.isKey = true) : ∃ l, a = .tup l := by induction a using Mini.V.casesOn <;> first | exact ⟨_, rfl⟩ | cases h
theorem VR.is {a : V} {x : Value} (ha : VR ρ H s.heap a x) (hk : a.isKey = true) : ∃ q, x = .ref q ∧ (vKind C.prog C.w).is s.heap a q := by
  obtain ⟨l, rfl⟩ := key_tup hk
  cases ha with
  | tup t r => exact ⟨_, rfl, hk, (VR.tup t r).kr (isKey_key hk)⟩
theorem has_ok {G : Glo} (K : CfgOK C G) (S : St C ρ H s) {d : Nat} {a : V} {r : Bool} {x y : Value} (ha : VR ρ H s.heap a x) (hb : VR ρ H s.heap (.ref d) y) (h : hasKey H a d = some r) (hu : A.units + 200 < cLine) :
    Runs C A (compareOp .In x y) ρ H s (.bool r) H := by
  (refine bsE h fun o hd hh_ => ?_; clear h; revert hh_; intro h)
  obtain ⟨p, hp, rfl, R⟩ := S.ref_obj hb hd
  have hz := S.not_sys K hp
  induction o using O.casesOn with
  | dI l =>
    obtain ⟨i, hi, rfl⟩ := map_some h
    cases int?_some hi
    obtain ⟨_, xs, D, R⟩ := R
    refine VR.intE ha fun t => ?_
    ·
      refine Runs.here S fun E Q k => wpAny_in_of (isInt_is _ _ _ _) hz (mapOf_dict D) ?_
      rcases R.getI i with ⟨e1, e2⟩ | ⟨v, z, e1, e2, _⟩ <;> (rw [e2]; rw [e1] at k; exact k _ _ (.bool _) rfl rfl rfl)
  | dS l =>
    obtain ⟨i, hi, rfl⟩ := map_some h
    cases str?_some hi
    obtain ⟨_, xs, D, R⟩ := R
    cases ha with
    | str i t =>
      refine Runs.here S fun E Q k => wpAny_in_of (isStr_is _ _ _ _) hz (mapOf_dict D) ?_
      rcases R.getS i with ⟨e1, e2⟩ | ⟨v, z, e1, e2, _⟩ <;> (rw [e2]; rw [e1] at k; exact k _ _ (.bool _) rfl rfl rfl)
  | dT l =>
    (refine itE h fun hk hh_ => ?_; clear h; revert hh_; intro h)
    cases h
    obtain ⟨_, xs, D, R⟩ := R
    obtain ⟨q, rfl, is⟩ := ha.is (C := C) hk
    have rm : (vKind C.prog C.w).room A.in1 := by show A.units + 1 + 60 < cLine; (clear hk hd hz hp; lia)
    refine Runs.here S fun E Q k => wpAny_in_heap rm is hz D ?_
    rcases R.getT a with ⟨e1, e2⟩ | ⟨v, a, z, e1, e2, _⟩ <;> (rw [e2]; rw [e1] at k; exact k _ _ (.bool _) rfl rfl rfl)
  | list _ => cases h
  | inst _ _ => cases h
  | dead => cases h

theorem pys_depth {l : List V} (h : V.flats l = true) {ρ : Rh} {H : Hp} {h₀ : Heap} {xs : List Value} (r : VRs ρ H h₀ l xs) : ∃ as, ReadsAll h₀ xs (V.pys l) as ∧ PyData.canLayAll0 (V.pys l) = true ∧ PyData.depthAll (V.pys l) ≤ 60 := by
  refine x1a2 (flats_dep h) fun n hn h1 => ?_
  refine x1a3 (r.reads hn) fun as a b c => ?_
  exact ⟨as, a, b, Nat.le_trans c h1⟩

theorem mem_ok {G : Glo} (K : CfgOK C G) (S : St C ρ H s) {a b : V} {r : Bool} {x y : Value} (ha : VR ρ H s.heap a x) (hb : VR ρ H s.heap b y) (h : memV H a b = some r) (hu : A.units + 200 < cLine) :
    Runs C A (compareOp .In x y) ρ H s (.bool r) H := by
  by_cases hr : ∃ d, b = .ref d
  · obtain ⟨d, rfl⟩ := hr
    exact has_ok K S ha hb h hu
  · have h : ((items b).bind fun l => bif a.flat && V.flats l then some (l.any fun y => V.beq y a) else Option.none) = some r := by
      induction b using Mini.V.casesOn <;> first | exact h | exact absurd ⟨_, rfl⟩ hr
    (refine bsE h fun l hl hh_ => ?_; clear h; revert hh_; intro h)
    (refine itE h fun hk hh_ => ?_; clear h; revert hh_; intro h)
    cases h
    refine x0a2 (and2 hk) fun f1 f2 => ?_
    refine x1a2 (flat_dep f1) fun i hi hi' => ?_
    refine x1a3 (ha.reads hi) fun bs rb lb db => ?_
    have hdep : ∀ {as : List V}, PyData.depthAll (V.pys as) ≤ 60 → A.units + min (PyData.depthAll (V.pys as)) (V.py a).depth + 100 < cLine := fun {as} q => by
      have := Nat.min_le_left (PyData.depthAll (V.pys as)) (V.py a).depth
      (clear this q lb hi f2 f1 h hk hl hr; lia)
    rcases items_some hl with rfl | rfl
    · cases hb with
      | tup t rr =>
        refine x1a3 (pys_depth f2 rr) fun as ra la da => ?_
        refine t5 t fun o ho hc m hd => ?_
        refine Runs.here S fun E Q k => SeqAt.in_tuple_reads (.tuple ho hc hd ra) rb la lb (by have := hdep da; (clear this hd hc ho da la h hl hr lb hi f2 f1 hk; lia)) ?_
        rw [any_py f2 f1]; exact k _ _ (.bool _) rfl rfl rfl
    · cases hb with
      | lst t _ rr =>
        refine x1a3 (pys_depth f2 rr) fun as ra la da => ?_
        refine t5 t fun o ho hc m hd => ?_
        refine Runs.here S fun E Q k => SeqAt.in_list_reads (.list ho hc hd ra) rb la lb (by have := hdep da; (clear this hd hc ho da la h hl hr lb hi f2 f1 hk; lia)) ?_
        rw [any_py f2 f1]; exact k _ _ (.bool _) rfl rfl rfl

theorem eq_ok (S : St C ρ H s) {a b : V} {r : Bool} {x y : Value} (ha : VR ρ H s.heap a x) (hb : VR ρ H s.heap b y) (h : eqV H a b = some r) (hu : A.units + 200 < cLine) :
    Runs C A (compareOp .Eq x y) ρ H s (.bool r) H ∧ Runs C A (compareOp .NotEq x y) ρ H s (.bool (!r)) H := by
  obtain ⟨fa, fb, rfl⟩ := eqV_flat h
  exact ⟨eq_flat S ha hb fa fb hu, ne_flat S ha hb fa fb hu⟩

theorem ints2_ok {a b : V} {f : Int → Int → Bool} {r : Bool} (h : ints2 a b f = some r) : ∃ i j, a = .int i ∧ b = .int j ∧ r = f i j := by
  (refine bsE h fun i hi hh_ => ?_; clear h; revert hh_; intro h)
  (refine msE h fun j hj hh_ => ?_; clear h; revert hh_; intro h)
  exact ⟨i, j, int?_some hi, int?_some hj, h.symm⟩

theorem cop_ok {G : Glo} (K : CfgOK C G) (S : St C ρ H s) {o : Cop} {a b : V} {r : Bool} {x y : Value} (ha : VR ρ H s.heap a x) (hb : VR ρ H s.heap b y) (h : cop o H a b = some r) (hu : A.units + 200 < cLine) :
    Runs C A (compareOp (copOf o) x y) ρ H s (.bool r) H := by
  induction o using Mini.Cop.casesOn
  · exact (eq_ok S ha hb h hu).1
  · obtain ⟨r', h', rfl⟩ := map_some h
    exact (eq_ok S ha hb h' hu).2
  · obtain ⟨i, j, rfl, rfl, rfl⟩ := ints2_ok h
    cases ha; cases hb
    exact Runs.here S fun E Q k => PyProof.Rows.lt_int (k _ _ (.bool _) rfl rfl rfl)
  · obtain ⟨i, j, rfl, rfl, rfl⟩ := ints2_ok h
    cases ha; cases hb
    exact Runs.here S fun E Q k => P.le_int (k _ _ (.bool _) rfl rfl rfl)
  · obtain ⟨i, j, rfl, rfl, rfl⟩ := ints2_ok h
    cases ha; cases hb
    exact Runs.here S fun E Q k => PyProof.Rows.gt_int (k _ _ (.bool _) rfl rfl rfl)
  · obtain ⟨i, j, rfl, rfl, rfl⟩ := ints2_ok h
    cases ha; cases hb
    exact Runs.here S fun E Q k => P.ge_int (k _ _ (.bool _) rfl rfl rfl)
  · exact mem_ok K S ha hb h hu
  · obtain ⟨r', h', rfl⟩ := map_some h
    exact (mem_ok K S ha hb h' hu).notIn
  · (refine itE h fun hn hh_ => ?_; clear h; revert hh_; intro h)
    cases none_of hn
    cases h
    cases hb
    refine Runs.here S fun E Q k => ?_
    cases ha with
    | none => exact wpAny_is_self rfl (k _ _ (.bool _) rfl rfl rfl)
    | _ => exact wpAny_is_other rfl (by intro e; cases e) (k _ _ (.bool _) rfl rfl rfl)
  · (refine itE h fun hn hh_ => ?_; clear h; revert hh_; intro h)
    cases none_of hn
    cases h
    cases hb
    refine Runs.here S fun E Q k => ?_
    cases ha with
    | none => exact wpAny_isNot_self rfl (k _ _ (.bool _) rfl rfl rfl)
    | _ => exact wpAny_isNot_other rfl (by intro e; cases e) (k _ _ (.bool _) rfl rfl rfl)
end
end Mini
end
section
set_option autoImplicit false
namespace Mini
open PySem PySem.Calls PyProof.Rows
open PySem.W (Frag dictOf Looks findIn typeIn keepIn makesIn plainGet hasDictIn plainOver)

section
variable {C : Cfg} {sc : Scope} {env : Env} {lo : Lo} {A : Around} {R : Sems} {n : Nat} {f : Nat} {ρ ρ' : Rh} {H H' : Hp} {s s' : Shared}

theorem evalEach_cons (x : Expr) (xs : List Expr) : evalEach (x :: xs) env = eval x env :: evalEach xs env := rfl

theorem ev_and (EV : EvOK C n R) (pos : Pos) : ∀ {l : List E} {xs : List Expr} {H : Hp} {v : V} {H' : Hp}, mtEs (mtE f) sc l xs = true → evAnd R l lo H = some (v, H') → ∀ {s : Shared} {ρ : Rh}, Room n A → St C ρ H s → EnvOK C sc env ρ H s.heap lo →
    Runs C A (boolOp pos .And (evalEach xs env)) ρ H s v H' := by
  intro l
  induction l with
  | nil => intro xs H v H' hm h; exact nn h
  | cons e es ih =>
    intro xs H v H' hm h s ρ r S X
    (apply mtEsE hm; clear hm; intro x xs m1 m2)
    induction es using List.casesOn with
    | nil =>
      cases mtEs_nil m2
      exact EV f sc env e x lo H v H' m1 h A s ρ r S X
    | cons e' es =>
      (have hm_ := m2; revert m2; apply mtEsE hm_; clear hm_; intro x' xs _ _ m2)
      obtain ⟨⟨w, H1⟩, h1, h⟩ := bind_some (x := R.ev e lo H) h
      (refine bsE h fun b hb hh_ => ?_; clear h; revert hh_; intro h)
      obtain rfl := bool?_some hb
      intro E Q k
      refine wpAny_bind (EV f sc env e x lo H _ H1 m1 h1 A s ρ r S X E _ fun y s₁ ρ₁ S₁ N₁ r₁ => ?_)
      refine wpAny_bind (wpAny_standAt (wpAny_bind (wpAny_holding ?_)))
      refine VR.boolE r₁ ?_
      refine wpAny_truthy_bool ?_
      induction b using Bool.casesOn with
      | true => exact ih m2 h r S₁ (X.next S N₁) E Q fun z s₂ ρ₂ S₂ N₂ r₂ => k z s₂ ρ₂ S₂ (N₁.trans N₂) r₂
      | false =>
        (refine x0a2 (sinj h) fun e1_ e2_ => ?_; clear h; subst e1_; subst e2_)
        exact wpAny_pure (k _ _ _ S₁ N₁ (.bool _))
theorem tr_all_and (TR : TrOK C n R) : ∀ {l : List E} {xs : List Expr} {H : Hp} {b : Bool} {H' : Hp}, mtEs (mtE f) sc l xs = true → evAnd R l lo H = some (.bool b, H') → ∀ {s : Shared} {ρ : Rh}, Room n A → St C ρ H s → EnvOK C sc env ρ H s.heap lo →
    RunsB C A (allTrue .And xs env) ρ H s b H' := by
  intro l
  induction l with
  | nil => intro xs H v H' hm h; exact nn h
  | cons e es ih =>
    intro xs H b H' hm h s ρ r S X E Q k
    (apply mtEsE hm; clear hm; intro x xs m1 m2)
    show wpAny (MM C) A (isTrue x env (eval x env) >>= _) Q E s
    induction es using List.casesOn with
    | nil =>
      cases mtEs_nil m2
      refine wpAny_bind (TR f sc env e x lo H b H' m1 h A s ρ r S X E _ fun s₁ ρ₁ S₁ N₁ => ?_)
      induction b using Bool.casesOn <;> exact wpAny_pure (k _ _ S₁ N₁)
    | cons e' es =>
      obtain ⟨⟨w, H1⟩, h1, h⟩ := bind_some (x := R.ev e lo H) h
      (refine bsE h fun c hb hh_ => ?_; clear h; revert hh_; intro h)
      obtain rfl := bool?_some hb
      refine wpAny_bind (TR f sc env e x lo H c H1 m1 h1 A s ρ r S X E _ fun s₁ ρ₁ S₁ N₁ => ?_)
      induction c using Bool.casesOn with
      | true => exact ih m2 h r S₁ (X.next S N₁) E Q fun s₂ ρ₂ S₂ N₂ => k s₂ ρ₂ S₂ (N₁.trans N₂)
      | false =>
        cases h
        exact wpAny_pure (k _ _ S₁ N₁)
theorem ev_or (EV : EvOK C n R) (pos : Pos) : ∀ {l : List E} {xs : List Expr} {H : Hp} {v : V} {H' : Hp}, mtEs (mtE f) sc l xs = true → evOr R l lo H = some (v, H') → ∀ {s : Shared} {ρ : Rh}, Room n A → St C ρ H s → EnvOK C sc env ρ H s.heap lo →
    Runs C A (boolOp pos .Or (evalEach xs env)) ρ H s v H' := by
  intro l
  induction l with
  | nil => intro xs H v H' hm h; exact nn h
  | cons e es ih =>
    intro xs H v H' hm h s ρ r S X
    (apply mtEsE hm; clear hm; intro x xs m1 m2)
    induction es using List.casesOn with
    | nil =>
      cases mtEs_nil m2
      exact EV f sc env e x lo H v H' m1 h A s ρ r S X
    | cons e' es =>
      (have hm_ := m2; revert m2; apply mtEsE hm_; clear hm_; intro x' xs _ _ m2)
      obtain ⟨⟨w, H1⟩, h1, h⟩ := bind_some (x := R.ev e lo H) h
      (refine bsE h fun b hb hh_ => ?_; clear h; revert hh_; intro h)
      obtain rfl := bool?_some hb
      intro E Q k
      refine wpAny_bind (EV f sc env e x lo H _ H1 m1 h1 A s ρ r S X E _ fun y s₁ ρ₁ S₁ N₁ r₁ => ?_)
      refine wpAny_bind (wpAny_standAt (wpAny_bind (wpAny_holding ?_)))
      refine VR.boolE r₁ ?_
      refine wpAny_truthy_bool ?_
      induction b using Bool.casesOn with
      | false => exact ih m2 h r S₁ (X.next S N₁) E Q fun z s₂ ρ₂ S₂ N₂ r₂ => k z s₂ ρ₂ S₂ (N₁.trans N₂) r₂
      | true =>
        (refine x0a2 (sinj h) fun e1_ e2_ => ?_; clear h; subst e1_; subst e2_)
        exact wpAny_pure (k _ _ _ S₁ N₁ (.bool _))
theorem tr_all_or (TR : TrOK C n R) : ∀ {l : List E} {xs : List Expr} {H : Hp} {b : Bool} {H' : Hp}, mtEs (mtE f) sc l xs = true → evOr R l lo H = some (.bool b, H') → ∀ {s : Shared} {ρ : Rh}, Room n A → St C ρ H s → EnvOK C sc env ρ H s.heap lo →
    RunsB C A (allTrue .Or xs env) ρ H s b H' := by
  intro l
  induction l with
  | nil => intro xs H v H' hm h; exact nn h
  | cons e es ih =>
    intro xs H b H' hm h s ρ r S X E Q k
    (apply mtEsE hm; clear hm; intro x xs m1 m2)
    show wpAny (MM C) A (isTrue x env (eval x env) >>= _) Q E s
    induction es using List.casesOn with
    | nil =>
      cases mtEs_nil m2
      refine wpAny_bind (TR f sc env e x lo H b H' m1 h A s ρ r S X E _ fun s₁ ρ₁ S₁ N₁ => ?_)
      induction b using Bool.casesOn <;> exact wpAny_pure (k _ _ S₁ N₁)
    | cons e' es =>
      obtain ⟨⟨w, H1⟩, h1, h⟩ := bind_some (x := R.ev e lo H) h
      (refine bsE h fun c hb hh_ => ?_; clear h; revert hh_; intro h)
      obtain rfl := bool?_some hb
      refine wpAny_bind (TR f sc env e x lo H c H1 m1 h1 A s ρ r S X E _ fun s₁ ρ₁ S₁ N₁ => ?_)
      induction c using Bool.casesOn with
      | false => exact ih m2 h r S₁ (X.next S N₁) E Q fun s₂ ρ₂ S₂ N₂ => k s₂ ρ₂ S₂ (N₁.trans N₂)
      | true =>
        cases h
        exact wpAny_pure (k _ _ S₁ N₁)

/-! chains of comparisons -/
theorem not_marked {x : Expr} {e : E} (h : mtE f sc e x = true) (op : CmpOp) : behindInMarks op x = false := by
  have := (mtE_not f e x h).2.1
  induction x using PySem.Expr.casesOn <;> first | rfl | exact absurd rfl (this _ _ _)
theorem marked_plain {es : List E} {xs : List Expr} (h : mtEs (mtE f) sc es xs = true) : ∀ {ops : List CmpOp}, markedEach ops xs (evalEach xs env) = evalEach xs env := by
  induction es generalizing xs with
  | nil => intro ops; cases mtEs_nil h; induction ops using List.casesOn with
    | nil => rfl
    | cons _ ops => induction ops using List.casesOn <;> rfl
  | cons e es ih =>
    intro ops
    (apply mtEsE h; clear h; intro x ys m1 m2)
    induction ops using List.casesOn with
    | nil => rfl
    | cons op ops =>
      have step : eval x env :: markedEach ops ys (evalEach ys env) = eval x env :: evalEach ys env := congrArg _ (ih m2)
      induction ops using List.casesOn with
      | cons _ _ => exact step
      | nil => induction ys using List.casesOn with
        | cons _ _ => exact step
        | nil =>
          show [markedBehindIn op x (eval x env)] = _
          unfold markedBehindIn
          rw [not_marked m1 op]; rfl

theorem evCmp_bool : ∀ {os : List Cop} {l : List E} {H : Hp} {a v : V} {H' : Hp}, evCmp R a os l lo H = some (v, H') → ∃ b, v = .bool b := by
  intro os
  induction os with
  | nil => intro l H a v H' h; induction l using List.casesOn <;> exact nn h
  | cons o os ih =>
    intro l H a v H' h
    induction l using List.casesOn with
    | nil => exact nn h
    | cons e es =>
      (refine bpE h fun w H1 h1 hh_ => ?_; clear h; revert hh_; intro h)
      (refine bsE h fun b h2 hh_ => ?_; clear h; revert hh_; intro h)
      revert h
      cases b && !es.isEmpty with
      | true => exact fun h => ih h
      | false => intro h; (refine x0a2 (sinj h) fun e1_ e2_ => ?_; clear h; subst e1_; subst e2_); exact ⟨b, rfl⟩

theorem ev_chain {G : Glo} (K : CfgOK C G) (EV : EvOK C n R) (pos : Pos) : ∀ {os : List Cop} {l : List E} {xs : List Expr} {H : Hp} {a v : V} {H' : Hp} {x : Value}, os.length = l.length → mtEs (mtE f) sc l xs = true → evCmp R a os l lo H = some (v, H') →
    ∀ {s : Shared} {ρ : Rh}, Room n A → St C ρ H s → EnvOK C sc env ρ H s.heap lo → VR ρ H s.heap a x →
    Runs C A (compareChain pos x (os.map copOf) (evalEach xs env)) ρ H s v H' ∧ ∀ b, v = .bool b → RunsB C A (testChain pos x (os.map copOf) (evalEach xs env)) ρ H s b H' := by
  intro os
  induction os with
  | nil => intro l xs H a v H' x hl hm h; induction l using List.casesOn <;> exact nn h
  | cons o os ih =>
    intro l xs H a v H' x hl hm h s ρ r S X ra
    induction l using List.casesOn with
    | nil => cases hl
    | cons e es =>
      (apply mtEsE hm; clear hm; intro y ys m1 m2)
      (refine bpE h fun w H1 h1 hh_ => ?_; clear h; revert hh_; intro h)
      (refine bsE h fun b h2 hh_ => ?_; clear h; revert hh_; intro h)
      have hl := Nat.succ.inj hl
      have go : ∀ {α : Type} {E : Value → Shared → Prop} {Q : α → Shared → Prop} {t : Value → Sem α} (_ : ∀ z s₁ ρ₁, St C ρ₁ H1 s₁ → Nx no ρ H s ρ₁ H1 s₁ → VR ρ₁ H1 s₁.heap w z → Runs C A (compareOp (copOf o) x z) ρ₁ H1 s₁ (.bool b) H1 → wpAny (MM C) A (t z) Q E s₁),
          wpAny (MM C) A (do let rv ← holding [x] (eval y env); standAt pos; t rv) Q E s := fun k =>
        wpAny_bind (wpAny_holding (EV f sc env e y lo H w H1 m1 h1 A s ρ r S X _ _ fun z s₁ ρ₁ S₁ N₁ r₁ => wpAny_bind (wpAny_standAt (k z s₁ ρ₁ S₁ N₁ r₁ (cop_ok K S₁ (ra.lasts (N₁.lasts S)) r₁ h2 r.units)))))
      induction es using List.casesOn with
      | nil =>
        cases mtEs_nil m2
        cases List.eq_nil_of_length_eq_zero hl
        have h : some (V.bool b, H1) = some (v, H') := by induction b using Bool.casesOn <;> exact h
        (refine x0a2 (sinj h) fun e1_ e2_ => ?_; clear h; subst e1_; subst e2_)
        refine ⟨fun E Q k => ?_, fun b' eb E Q k => ?_⟩
        · refine go fun z s₁ ρ₁ S₁ N₁ r₁ c => wpAny_operateT ?_
          exact c E Q fun u s₂ ρ₂ S₂ N₂ r₂ => k u s₂ ρ₂ S₂ (N₁.trans N₂) r₂
        · cases eb
          refine go fun z s₁ ρ₁ S₁ N₁ r₁ c => wpAny_bind (wpAny_operateT ?_)
          refine c E _ fun u s₂ ρ₂ S₂ N₂ r₂ => ?_
          refine VR.boolE r₂ ?_
          exact wpAny_holding (wpAny_truthy_bool (k s₂ ρ₂ S₂ (N₁.trans N₂)))
      | cons e' es =>
        (have hm_ := m2; revert m2; apply mtEsE hm_; clear hm_; intro y' ys _ _ m2)
        induction os using List.casesOn with
        | nil => cases hl
        | cons o' os =>
          refine ⟨fun E Q k => ?_, fun b' eb E Q k => ?_⟩
          · refine go fun z s₁ ρ₁ S₁ N₁ r₁ c => wpAny_bind (wpAny_holding ?_)
            refine c E _ fun u s₂ ρ₂ S₂ N₂ r₂ => ?_
            refine VR.boolE r₂ ?_
            refine wpAny_bind (wpAny_release (wpAny_bind (wpAny_holding (wpAny_truthy_bool ?_))))
            induction b using Bool.casesOn with
            | true => exact (ih hl m2 h r S₂ ((X.next S N₁).next S₁ N₂) (r₁.lasts (N₂.lasts S₁))).1 E Q fun q s₃ ρ₃ S₃ N₃ r₃ => k q s₃ ρ₃ S₃ ((N₁.trans N₂).trans N₃) r₃
            | false =>
              (refine x0a2 (sinj h) fun e1_ e2_ => ?_; clear h; subst e1_; subst e2_)
              exact wpAny_pure (k _ s₂ ρ₂ S₂ (N₁.trans N₂) (.bool _))
          · refine go fun z s₁ ρ₁ S₁ N₁ r₁ c => wpAny_bind (wpAny_holding ?_)
            refine c E _ fun u s₂ ρ₂ S₂ N₂ r₂ => ?_
            refine VR.boolE r₂ ?_
            refine wpAny_bind (wpAny_release (wpAny_bind (wpAny_holding (wpAny_truthy_bool ?_))))
            induction b using Bool.casesOn with
            | true => exact (ih hl m2 h r S₂ ((X.next S N₁).next S₁ N₂) (r₁.lasts (N₂.lasts S₁))).2 b' eb E Q fun s₃ ρ₃ S₃ N₃ => k s₃ ρ₃ S₃ ((N₁.trans N₂).trans N₃)
            | false =>
              (refine x0a2 (sinj h) fun e1_ e2_ => ?_; clear h; subst e1_; subst e2_)
              cases eb
              exact wpAny_pure (k s₂ ρ₂ S₂ (N₁.trans N₂))
end
end Mini
end
section
set_option autoImplicit false
namespace Mini
open PySem PySem.Calls PyProof.Rows
open PySem.W (Frag dictOf Looks findIn typeIn keepIn makesIn plainGet hasDictIn plainOver)

section
variable {C : Cfg} {sc : Scope} {env : Env} {lo : Lo} {A : Around} {R : Sems} {n : Nat} {f : Nat} {ρ ρ' : Rh} {H H' : Hp} {s s' : Shared}

/-- a new object of the run's own, at places where nothing was -/
theorem St.mk' (S : St C ρ H s) {o : O} {p : Addr × Addr} (h1 : s.heap.get? p.1 = none) (h2 : s.heap.get? p.2 = none) (k : ∀ a x, s.heap.get? a = some x → s'.heap.get? a = some x)
    (hpz : (∃ o, s'.heap.get? p.1 = some o) ∧ ∃ o, s'.heap.get? p.2 = some o) (hg : s'.gens = s.gens) (hos : s'.os = s.os) (hR : Lasts ρ H s.heap (ρ ++ [p]) (H ++ [o]) s'.heap → ObjR C (ρ ++ [p]) (H ++ [o]) s'.heap p o) :
    St C (ρ ++ [p]) (H ++ [o]) s' ∧ Nx no ρ H s (ρ ++ [p]) (H ++ [o]) s' ∧ (ρ ++ [p])[H.length]? = some p := by
  have F1 := S.freshAt h1
  have F2 := S.freshAt h2
  obtain ⟨S', L⟩ := S.app (s' := s') (o := o) (p := p) ⟨F1.own, F2.own⟩ (fun i q e => ⟨(F1.ne i q e).1.symm, (F1.ne i q e).2.symm, (F2.ne i q e).1.symm, (F2.ne i q e).2.symm⟩) ⟨F1.base, F2.base⟩ ⟨fun _ t => x1a2 t fun _ ho _ => none_ne h1 ho rfl, fun _ t => x1a2 t fun _ ho _ => none_ne h2 ho rfl⟩
    ⟨fun _ t => x1a2 t fun _ ho _ => none_ne h1 ho rfl, fun _ t => x1a2 t fun _ ho _ => none_ne h2 ho rfl⟩ (fun a x _ _ e => k a x e) hpz ⟨F1.z, F2.z⟩ hg hos hR
  refine ⟨S', ⟨by rw [Rh.app_l]; exact List.prefix_append _ _, rfl, fun a x e _ _ => k a x e, fun a m => ?_, fun a x e => ⟨x, k a x e⟩, fun _ _ x => x.elim, fun i q e => ?_⟩, ?_⟩
  · rcases own_app S.len m with m | e | e
    · exact .inl m
    · exact .inr (e ▸ h1)
    · exact .inr (e ▸ h2)
  · rw [Rh.at_, Rh.app_l] at e
    rcases Nat.lt_or_ge i ρ.l.length with hj | hj
    · rw [List.getElem?_append_left hj] at e; exact .inl e
    · rw [List.getElem?_append_right hj] at e
      rcases Nat.eq_zero_or_pos (i - ρ.l.length) with z | z
      · rw [z] at e; simp at e; subst e; exact .inr ⟨h1, h2⟩
      · rw [List.getElem?_eq_none (by simp only [List.length_cons, List.length_nil]; (clear hj e hR hos hg hpz h2 h1; lia))] at e; exact nn e
  · rw [← S.len, Rh.at_, Rh.app_l]; simp
theorem get?_end (h : Heap) : h.get? h.objs.size = none := by
  cases e : h.get? h.objs.size with
  | none => rfl
  | some o => exact absurd (Heap.lt_size e) (Nat.lt_irrefl _)
theorem ev_not (EV : EvOK C n R) {a : E} {x : Expr} {v : V} (hm : mtE (f + 1) sc (.not a) x = true) (h : evStep C.P R (.not a) lo H = some (v, H')) (r : Room n A) (S : St C ρ H s) (X : EnvOK C sc env ρ H s.heap lo) : Runs C A (eval x env) ρ H s v H' := by
  have hx := mt_bk hm
  refine bpE h fun w H1 h1 h2 => ?_
  refine msE h2 fun b hb h3 => ?_
  rw [bool?_some hb] at h1
  exact .of (x' := .UnaryOp .Not (pt x).a (pt x).p) hx.1 (.eq h3 fun E Q k => wpAny_UnaryOp (EV f sc env a (pt x).a lo H _ _ hx.2 h1 A s ρ r S X E _ fun z s₁ ρ₁ S₁ N₁ r₁ => VR.boolE r₁ (not_value (wpAny_truthy_bool (k _ _ _ S₁ N₁ (.bool _))))))

theorem ev_neg (EV : EvOK C n R) {a : E} {x : Expr} {v : V} (hm : mtE (f + 1) sc (.neg a) x = true) (h : evStep C.P R (.neg a) lo H = some (v, H')) (r : Room n A) (S : St C ρ H s) (X : EnvOK C sc env ρ H s.heap lo) : Runs C A (eval x env) ρ H s v H' := by
  have hx := mt_bk hm
  refine bpE h fun w H1 h1 h2 => ?_
  refine msE h2 fun b hb h3 => ?_
  rw [int?_some hb] at h1
  refine .of (x' := .UnaryOp .USub (pt x).a (pt x).p) hx.1 (.eq h3 fun E Q k => wpAny_UnaryOp (EV f sc env a (pt x).a lo H _ _ hx.2 h1 A s ρ r S X E _ fun z s₁ ρ₁ S₁ N₁ r₁ => ?_))
  refine VR.intE r₁ fun t => ?_
  have G := S₁.grow (s' := { s₁ with toks := s₁.toks + 1 }) (fun _ _ e => e) rfl rfl
  exact neg_int (k _ _ _ G.1 (N₁.trans G.2) (.int _ _))

theorem ev_bin (EV : EvOK C n R) {op : Bop} {a b : E} {x : Expr} {v : V} (hm : mtE (f + 1) sc (.bin op a b) x = true)
    (h : evStep C.P R (.bin op a b) lo H = some (v, H'))
    (r : Room n A) (S : St C ρ H s) (X : EnvOK C sc env ρ H s.heap lo) : Runs C A (eval x env) ρ H s v H' := by
  have hx := mt_bk hm
  have m := and3 hx.2
  refine bpE h fun u H1 h1 ha => ?_
  refine bpE ha fun w H2 h2 hb => ?_
  refine msE hb fun t h3 h4 => ?_
  refine .of (x' := .BinOp (pt x).a (opOf op) (pt x).b (pt x).p) ((beq_iff_eq.mp m.1 : (pt x).op = opOf op) ▸ hx.1) (.eq h4 fun E Q k => ?_)
  refine wpAny_BinOp (EV f sc env a (pt x).a lo H u H1 m.2.1 h1 A s ρ r S X E _ fun x1 s₁ ρ₁ S₁ N₁ r₁ => ?_)
  refine EV f sc env b (pt x).b lo H1 w _ m.2.2 h2 A s₁ ρ₁ r S₁ (X.next S N₁) E _ fun x2 s₂ ρ₂ S₂ N₂ r₂ => ?_
  exact binV_ok S₂ (r₁.lasts (N₂.lasts S₁)) r₂ h3 E Q fun x3 s₃ ρ₃ S₃ N₃ r₃ => k x3 s₃ ρ₃ S₃ ((N₁.trans N₂).trans N₃) r₃

theorem ev_ite (EV : EvOK C n R) (TR : TrOK C n R) {c a b : E} {x : Expr} {v : V} (hm : mtE (f + 1) sc (.ite c a b) x = true)
    (h : evStep C.P R (.ite c a b) lo H = some (v, H'))
    (r : Room n A) (S : St C ρ H s) (X : EnvOK C sc env ρ H s.heap lo) : Runs C A (eval x env) ρ H s v H' := by
  have hx := mt_bk hm
  have m := and3 hx.2
  refine bpE h fun u H1 h1 ha => ?_
  refine bsE ha fun t ht h => ?_
  rw [bool?_some ht] at h1
  refine .of (x' := .IfExp (pt x).a (pt x).b (pt x).c (pt x).p) hx.1 fun E Q k => ?_
  refine wpAny_IfExp (TR f sc env c (pt x).a lo H t H1 m.1 h1 A s ρ r S X E _ fun s₁ ρ₁ S₁ N₁ => ?_)
  induction t using Bool.casesOn with
  | true => exact EV f sc env a (pt x).b lo H1 v H' m.2.1 h A s₁ ρ₁ r S₁ (X.next S N₁) E Q fun x2 s₂ ρ₂ S₂ N₂ r₂ => k x2 s₂ ρ₂ S₂ (N₁.trans N₂) r₂
  | false => exact EV f sc env b (pt x).c lo H1 v H' m.2.2 h A s₁ ρ₁ r S₁ (X.next S N₁) E Q fun x2 s₂ ρ₂ S₂ N₂ r₂ => k x2 s₂ ρ₂ S₂ (N₁.trans N₂) r₂

theorem ev_tup (EV : EvOK C n R) {l : List E} {x : Expr} {v : V} (hm : mtE (f + 1) sc (.tup l) x = true)
    (h : evStep C.P R (.tup l) lo H = some (v, H'))
    (r : Room n A) (S : St C ρ H s) (X : EnvOK C sc env ρ H s.heap lo) : Runs C A (eval x env) ρ H s v H' := by
  have hx := mt_bk hm
  refine bpE h fun vs H1 h1 ha => ?_
  refine itE ha fun hk hb => ?_
  refine .of (x' := .Tuple (pt x).l (pt x).n (pt x).p) hx.1 (.eqs hb fun E Q k => ?_)
  refine wpAny_Tuple ?_
  rw [starEach_plain hx.2, backTo_plain]
  refine spliced_ok EV hx.2 h1 r S X E _ fun ys s₁ ρ₁ S₁ N₁ r₁ => ⟨?_, ?_⟩
  · rw [← r₁.length]; exact Nat.le_trans (okLen_le hk) (by decide)
  · have G := push_tup S₁ (xs := ys.toArray) (show VRs ρ₁ H1 s₁.heap vs ys.toArray.toList from r₁) (tk := s₁.toks)
    exact k _ _ _ G.1 (N₁.trans G.2.1) G.2.2

theorem ev_list (EV : EvOK C n R) {m : Bool} {l : List E} {x : Expr} {v : V} (hm : mtE (f + 1) sc (.list m l) x = true)
    (h : evStep C.P R (.list m l) lo H = some (v, H'))
    (r : Room n A) (S : St C ρ H s) (X : EnvOK C sc env ρ H s.heap lo) : Runs C A (eval x env) ρ H s v H' := by
  have hx := mt_bk hm
  (refine bpE h fun vs H1 h1 hh_ => ?_; clear h; revert hh_; intro h)
  (refine itE h fun hk hh_ => ?_; clear h; revert hh_; intro h)
  refine .of (x' := .List (pt x).l (pt x).p) hx.1 fun E Q k => ?_
  refine wpAny_List ?_
  rw [starEach_plain hx.2, backTo_plain]
  refine spliced_ok EV hx.2 h1 r S X E _ fun ys s₁ ρ₁ S₁ N₁ r₁ => ⟨?_, ?_⟩
  · rw [← r₁.length]; exact Nat.le_trans (okLen_le hk) (by decide)
  · have r₁ : VRs ρ₁ H1 s₁.heap vs ys.toArray.toList := r₁
    induction m using Bool.casesOn with
    | false =>
      refine x0a2 (sinj h) fun e1 e2 => ?_
      rw [← e1, ← e2] at k
      have G := push_lst S₁ (xs := ys.toArray) r₁ (tk := s₁.toks)
      exact k _ _ _ G.1 (N₁.trans G.2.1) G.2.2
    | true =>
      refine x0a2 (sinj h) fun e1 e2 => ?_
      rw [← e1, ← e2] at k
      obtain ⟨S', N, e⟩ := S₁.mk' (o := .list vs) (p := (s₁.heap.objs.size, s₁.heap.objs.size)) (s' := { s₁ with heap := s₁.heap.push { cls := .type "list", data := .seq ys.toArray } }) (get?_end _) (get?_end _) (fun a o e => Heap.get?_push_of_some _ e) ⟨⟨_, Heap.get?_push_size _ rfl⟩, _, Heap.get?_push_size _ rfl⟩ rfl rfl
        (fun L => ⟨rfl, ys.toArray, ⟨_, Heap.get?_push_size _ rfl⟩, r₁.lasts L⟩)
      exact k _ _ _ S' (N₁.trans N) (.ref (p := (s₁.heap.objs.size, s₁.heap.objs.size)) e)

/-! parts of things -/
theorem sub_any {A : Around} {E : Value → Shared → Prop} {s : Shared} {Q : Value → Shared → Prop} {prog : Program} {w : World} {value slice : Expr} {o i : Value} {T id : String} {p : Pos}
    (hns : ∀ l u t p, slice ≠ .Slice l u t p) (hl : typeLookup (.type T) "__getitem__" = pure (some (.builtin id))) (hT : s.TypeIs o T) (hg : wpAny (model prog w) A (getItem o i) Q E s) :
    wpAny (model prog w) A (do standAt p; let r ← subscripted slice (← getitemInPython o) o i; letTemporaryGo value o r; pure r) Q E s := by
  refine wpAny_bind (wpAny_standAt (wpAny_bind ?_))
  rw [getitemInPython_of_ne hT.not_modules]
  refine wpAny_bind (wpAny_specialOf hT hl ?_)
  have fin : wpAny (model prog w) A (operate [o, i] (getItem o i)) (fun r s₃ => wpAny (model prog w) A (letTemporaryGo value o r >>= fun _ => pure r) Q E s₃) E s :=
    wpAny_operating (wpAny_mono hg (fun r s₃ h₃ => wpAny_bind (wpAny_letTemporaryGo (wpAny_pure h₃))) fun _ _ x => x)
  have es : subscripted slice false o i = operate [o, i] (getItem o i) := by
    unfold subscripted
    induction slice using PySem.Expr.casesOn <;> first | rfl | exact absurd rfl (hns _ _ _ _)
  refine wpAny_pure (wpAny_bind ?_)
  rw [es]; exact fin

set_option tactic.hygienic true in
theorem idx_some {i : Int} {n j : Nat} (h : idx i n = some j) : i.natAbs ≤ 2 ^ 62 ∧ ((0 ≤ i ∧ j = i.toNat ∧ j < n) ∨ (i < 0 ∧ -(n : Int) ≤ i ∧ j = (i + n).toNat)) := by
  unfold idx at h
  cases hi : okInt i with
  | false => rw [hi] at h; exact nn h
  | true =>
    rw [hi] at h
    simp only [cond_true] at h
    refine ⟨okInt_le hi, ?_⟩
    split at h
    · rename_i h0
      split at h
      · rename_i h1
        cases h; exact .inl ⟨h0, rfl, h1⟩
      · exact nn h
    · split at h
      · exact nn h
      · cases h; exact .inr ⟨by (clear hi; lia), by (clear hi; lia), rfl⟩
theorem idx_seq {i : Int} {n j : Nat} (h : idx i n = some j) : seqIndex? i n = some j ∨ n ≤ j := by
  obtain ⟨_, h | h⟩ := idx_some h
  · refine .inl ?_
    unfold seqIndex?
    obtain ⟨a, rfl, c⟩ := h
    have e : ¬ i < 0 := by (clear c h; lia)
    simp only [e, if_false]
    rw [if_pos (by simp only [Bool.and_eq_true, decide_eq_true_eq]; (clear e h; lia))]
  · exact .inl (by rw [PySem.seqIndex_neg h.1 h.2.1, h.2.2])

theorem list_idx {l : Addr} {items : Array Value} {k : Int} {t : Tok} {j : Nat} {x : Value} {E : Value → Shared → Prop} {Q : Value → Shared → Prop} (hl : s.heap.IsList l items) (hi : idx k items.size = some j) (hx : items[j]? = some x) (h : Q x s) :
    wpAny (MM C) A (getItem (.ref l) (.int k t)) Q E s := by
  obtain ⟨h0, ⟨a, rfl, b⟩ | ⟨a, b, rfl⟩⟩ := idx_some hi
  · exact wpAny_getItem_list hl a (by (clear b hx hi a; lia)) hx h
  · exact wpAny_getItem_list_neg hl a b (by (clear hx hi b a; lia)) hx h

theorem list_getitem : typeLookup (.type "list") "__getitem__" = pure (some (.builtin "list.__getitem__")) := list_getitem_lookup
theorem tuple_getitem : typeLookup (.type "tuple") "__getitem__" = pure (some (.builtin "tuple.__getitem__")) := PyProof.Rows.slot_tuple_getitem.lookup
theorem dict_getitem : typeLookup (.type "dict") "__getitem__" = pure (some (.builtin "dict.__getitem__")) := PySem.slot_dict_getitem.lookup

theorem list_sub (S : St C ρ H s) {l : Addr} {items : Array Value} {vs : List V} {k : Int} {tk : Tok} {j : Nat} {v : V} (t : s.heap.IsList l items) (r : VRs ρ H s.heap vs items.toList) (hj : idx k vs.length = some j) (h : vs[j]? = some v) : Runs C A (getItem (.ref l) (.int k tk)) ρ H s v H := by
  refine x1a2 (r.get h) fun z hz rz => ?_
  rw [r.length] at hj
  exact Runs.here S fun E Q kk => list_idx t (by simpa using hj) (by simpa using hz) (kk _ _ rz rfl rfl rfl)
/-- a subscript whose slot is known -/
structure SubOK (C : Cfg) (A : Around) (ρ : Rh) (H : Hp) (s : Shared) (x y : Value) (v : V) (T id : String) : Prop where
  l : typeLookup (.type T) "__getitem__" = pure (some (.builtin id))
  t : s.TypeIs x T
  r : Runs C A (getItem x y) ρ H s v H
theorem sub_obj (S : St C ρ H s) {b v : V} {y : Value} {p : Addr × Addr} (hb : VR ρ H s.heap b y) (hu : A.units + 200 < cLine)  {ob : O} (O : ObjR C ρ H s.heap p ob) (h : subO ob b = some v) : ∃ T id, SubOK C A ρ H s (.ref p.1) y v T id := by
  cases ob with
  | list l =>
    refine x1a2 O.2 fun items t r => ?_
    (refine bsE h fun k hk hh_ => ?_; clear h; revert hh_; intro h)
    (refine bsE h fun j hj hh_ => ?_; clear h; revert hh_; intro h)
    rw [int?_some hk] at hb
    exact VR.intE hb fun _ => ⟨_, _, list_getitem, t.isList.typeIs, list_sub S t.isList r hj h⟩
  | dI l =>
    refine x1a2 O.2 fun xs D r => ?_
    (refine bsE h fun k hk hh_ => ?_; clear h; revert hh_; intro h)
    rw [int?_some hk] at hb
    refine VR.intE hb fun _ => ?_
    rcases r.getI k with ⟨e1, _⟩ | ⟨v', z, e1, e2, rz⟩
    · cases e1.symm.trans h
    · rw [Option.some.inj (e1.symm.trans h)] at rz
      exact ⟨_, _, dict_getitem, (mapOf_dict D).typeIs, Runs.here S fun E Q k => wpAny_getItem_of (isInt_is _ _ _ _) (mapOf_dict D) e2 (k _ _ rz rfl rfl rfl)⟩
  | dS l =>
    refine x1a2 O.2 fun xs D r => ?_
    (refine bsE h fun k hk hh_ => ?_; clear h; revert hh_; intro h)
    rw [str?_some hk] at hb
    refine VR.strE hb fun _ => ?_
    rcases r.getS k with ⟨e1, _⟩ | ⟨v', z, e1, e2, rz⟩
    · cases e1.symm.trans h
    · rw [Option.some.inj (e1.symm.trans h)] at rz
      exact ⟨_, _, dict_getitem, (mapOf_dict D).typeIs, Runs.here S fun E Q k => wpAny_getItem_of (isStr_is _ _ _ _) (mapOf_dict D) e2 (k _ _ rz rfl rfl rfl)⟩
  | dT l =>
    refine x1a2 O.2 fun xs D r => ?_
    (refine itE h fun hk hh_ => ?_; clear h; revert hh_; intro h)
    refine x1a2 (hb.is (C := C) hk) fun q e' is => ?_
    rw [e']
    have rm : (vKind C.prog C.w).room A.in1 := by show A.units + 1 + 60 < cLine; clear h hk is; lia
    rcases r.getT b with ⟨e1, _⟩ | ⟨v', a, z, e1, e2, rz⟩
    · cases e1.symm.trans h
    · rw [Option.some.inj (e1.symm.trans h)] at rz
      exact ⟨_, _, dict_getitem, D.typeIs, Runs.here S fun E Q k => wpAny_getItem_heap rm is D e2 (k _ _ rz rfl rfl rfl)⟩
  | inst _ _ => exact nn h
  | dead => exact nn h
theorem sub_items {a b : V} (hr : a.ref? = Option.none) {v : V} (h : subV H a b = some v) : ((items a).bind fun l => b.int?.bind fun k => (idx k l.length).bind fun j => l[j]?) = some v := by induction a using Mini.V.casesOn <;> first | exact h | cases hr
theorem subV_ok {a b v : V} {x y : Value} (ha : VR ρ H s.heap a x) (hb : VR ρ H s.heap b y) (S : St C ρ H s) (h : subV H a b = some v) (hu : A.units + 200 < cLine) : ∃ T id, SubOK C A ρ H s x y v T id := by
  cases hr : a.ref? with
  | some d =>
    rw [ref?_some hr] at ha h
    (refine bsE h fun ob hn hh_ => ?_; clear h; revert hh_; intro h)
    refine x1a3 (S.ref_obj ha hn) fun p hp e RR => ?_
    rw [e]
    exact sub_obj S hb hu RR h
  | none =>
    refine bsE (sub_items hr h) fun l hl h1 => ?_
    refine bsE h1 fun k hk h2 => ?_
    refine bsE h2 fun j hj hf => ?_
    rw [int?_some hk] at hb
    refine VR.intE hb fun tk => ?_
    rcases items_some hl with e | e
    · rw [e] at ha
      refine VR.tupE ha fun {_ _} t r => ?_
      refine x1a2 (r.get hf) fun z hz rz => ?_
      have ti : PyProof.Rows.IsTup s.heap _ _ := t
      refine ⟨_, _, tuple_getitem, ti.typeIs, Runs.here S fun E Q k => ?_⟩
      rw [r.length] at hj
      have hs := (idx_seq hj).resolve_right (Nat.not_le.mpr (List.getElem?_eq_some_iff.mp hz).1)
      have hb := (idx_some hj).1
      exact PyProof.Rows.getItem_tuple ti (by clear hs hz hf hj hu h1 h2 h; lia) (by clear hs hz hf hj hu h1 h2 h; lia) hs (x := z) (by simpa using hz) (k _ _ rz rfl rfl rfl)
    · rw [e] at ha
      exact VR.lstE ha fun {_ _} t _ r => ⟨_, _, list_getitem, t.typeIs, list_sub S t r hj hf⟩

theorem ev_sub (EV : EvOK C n R) {o i : E} {x : Expr} {v : V} (hm : mtE (f + 1) sc (.sub o i) x = true)
    (h : evStep C.P R (.sub o i) lo H = some (v, H'))
    (r : Room n A) (S : St C ρ H s) (X : EnvOK C sc env ρ H s.heap lo) : Runs C A (eval x env) ρ H s v H' := by
  have hx := mt_bk hm
  have hm := and2 hx.2
  refine bpE h fun u H1 h1 ha => ?_
  refine bpE ha fun w H2 h2 hb => ?_
  refine msE hb fun t h3 h4 => ?_
  refine .of (x' := .Subscript (pt x).a (pt x).b (pt x).p) hx.1 (.eq h4 fun E Q k => ?_)
  rw [eval_Subscript]
  refine wpAny_bind (EV f sc env o (pt x).a lo H u H1 hm.1 h1 A s ρ r S X E _ fun x1 s₁ ρ₁ S₁ N₁ r₁ => ?_)
  refine wpAny_bind (wpAny_holding (EV f sc env i (pt x).b lo H1 w _ hm.2 h2 A s₁ ρ₁ r S₁ (X.next S N₁) E _ fun x2 s₂ ρ₂ S₂ N₂ r₂ => ?_))
  refine x2a1 (subV_ok (r₁.lasts (N₂.lasts S₁)) r₂ S₂ h3 r.units) fun T id G => ?_
  exact sub_any (mtE_not f i (pt x).b hm.2).2.2 G.l G.t (G.r E Q fun x3 s₃ ρ₃ S₃ N₃ r₃ => k x3 s₃ ρ₃ S₃ ((N₁.trans N₂).trans N₃) r₃)
end
end Mini
end
section
set_option autoImplicit false
namespace Mini
open PySem PySem.Calls PyProof.Rows
open PySem.W (Frag dictOf Looks findIn typeIn keepIn makesIn plainGet hasDictIn plainOver getL)

section
variable {C : Cfg} {sc : Scope} {env : Env} {lo : Lo} {A : Around} {R : Sems} {n : Nat} {f : Nat} {ρ ρ' : Rh} {H H' : Hp} {s s' : Shared}

/-! slices -/
inductive PartR : Option Int → Value → Prop
  | none : PartR Option.none .none
  | int (i : Int) (t : Tok) : PartR (some i) (.int i t)
theorem PartR.part {o : Option Int} {v : Value} (p : PartR o v) : IsPart v o := by cases p <;> constructor

theorem opt_ok (EV : EvOK C n R) {e : Option E} {x : Option Expr} {o : Option Int} (hm : mtOpt (mtE f) sc e x = true) (h : evOpt R e lo H = some (o, H')) (r : Room n A) (S : St C ρ H s) (X : EnvOK C sc env ρ H s.heap lo)
    {E : Value → Shared → Prop} {Q : Value → Shared → Prop} (k : ∀ y s' ρ', St C ρ' H' s' → Nx no ρ H s ρ' H' s' → PartR o y → Q y s') : wpAny (MM C) A (evalPart x env) Q E s := by
  induction e using Option.casesOn with
  | none =>
    induction x using Option.casesOn with
    | none =>
      (revert k; apply sinjE h; clear h; intro k)
      exact wpAny_pure (k _ _ _ S (.refl _ _ _) .none)
    | some x => exact ff hm
  | some e =>
    induction x using Option.casesOn with
    | none => exact ff hm
    | some x =>
      (refine bpE h fun v H1 h1 hh_ => ?_; clear h; revert hh_; intro h)
      (refine bsE h fun i hi hh_ => ?_; clear h; revert hh_; intro h)
      obtain rfl := int?_some hi
      (refine itE h fun _ hh_ => ?_; clear h; revert hh_; intro h)
      (revert k; apply sinjE h; clear h; intro k)
      refine EV f sc env e x lo H _ _ hm h1 A s ρ r S X E _ fun y s₁ ρ₁ S₁ N₁ r₁ => ?_
      refine VR.intE r₁ fun _ => ?_
      exact k _ _ _ S₁ N₁ (.int _ _)

theorem tup_applied {sl : Addr} {m : Nat} {vl vu : Value} {lo hi : Option Int} {E : Value → Shared → Prop} {Q : Int × Int × Nat → Shared → Prop} (hs : s.heap.IsSliceOf sl vl vu .none)
    (pl : PartR lo vl) (pu : PartR hi vu) (h : Q ((Builtin.Slice.sliceAdjust lo hi 1 m).1, 1, Builtin.Slice.slicePlaces (Builtin.Slice.sliceAdjust lo hi 1 m).1 (Builtin.Slice.sliceAdjust lo hi 1 m).2 1) s) :
    wpAny (MM C) A (Builtin.Slice.sliceApplied (.ref sl) (pure (m : Int))) Q E s := by
  refine x1a3 (id hs) fun os hos hcs hds => ?_
  unfold Builtin.Slice.sliceApplied Builtin.Slice.sliceFields
  refine wpAny_bind (wpAny_bind (wpAny_field hos hds (x := vl) rfl (wpAny_bind (wpAny_field hos hds (x := vu) rfl (wpAny_bind (wpAny_field hos hds (x := .none) rfl (wpAny_pure ?_)))))))
  refine wpAny_bind (slicePart_none ?_)
  show wpAny _ _ (if ((1 : Int) == 0) = true then _ else _) _ _ s
  rw [if_neg (by decide)]
  have part : ∀ {o : Option Int} {v : Value} {Q : Option Int → Shared → Prop}, PartR o v → Q o s → wpAny (MM C) A (Builtin.Slice.slicePartIndex v) Q E s := fun p h => by
    cases p with
    | none => exact slicePart_none h
    | int i t => exact slicePart_int h
  exact wpAny_bind (part pl (wpAny_bind (part pu (wpAny_bind (wpAny_pure (wpAny_pure h))))))

set_option tactic.hygienic true in
/-- where a slice begins and how much it takes -/
theorem adjusted {l l' : List V} {lo hi : Option Int} (hl : sliceL l lo hi = some l') : ∃ a c : Nat, l.length ≤ 100000 ∧ a + c ≤ l.length ∧ l' = (l.drop a).take c ∧
    (Builtin.Slice.sliceAdjust lo hi 1 l.length).1 = (a : Int) ∧ Builtin.Slice.slicePlaces (Builtin.Slice.sliceAdjust lo hi 1 l.length).1 (Builtin.Slice.sliceAdjust lo hi 1 l.length).2 1 = c := by
  unfold sliceL at hl
  split at hl
  · rename_i b
    split at hl
    · rename_i hb
      cases hl
      obtain ⟨b, rfl⟩ := Int.eq_ofNat_of_zero_le hb.1
      have e : Builtin.Slice.sliceAdjust Option.none (some (b : Int)) 1 l.length = (0, ((min b l.length : Nat) : Int)) := by
        unfold Builtin.Slice.sliceAdjust
        have h1 : ¬ ((1 : Int) < 0) := by (clear hb; lia)
        have h2 : ¬ ((b : Int) < 0) := by (clear h1 hb; lia)
        simp only [h1, h2, if_false]
        congr 1
        (clear h2 h1 hb; lia)
      refine ⟨0, min b l.length, okLen_le hb.2, by (clear e hb; lia), ?_, by rw [e]; rfl, ?_⟩
      · simp
      · rw [e]
        unfold Builtin.Slice.slicePlaces
        have h1 : (1 : Int) > 0 := by (clear e hb; lia)
        simp only [h1, if_true, Int.ediv_one]
        split <;> lia
    · exact nn hl
  · rename_i a
    split at hl
    · rename_i hb
      cases hl
      obtain ⟨a, rfl⟩ := Int.eq_ofNat_of_zero_le hb.1
      have e : Builtin.Slice.sliceAdjust (some (a : Int)) Option.none 1 l.length = (((min a l.length : Nat) : Int), (l.length : Int)) := by
        unfold Builtin.Slice.sliceAdjust
        have h1 : ¬ ((1 : Int) < 0) := by (clear hb; lia)
        have h2 : ¬ ((a : Int) < 0) := by (clear h1 hb; lia)
        simp only [h1, h2, if_false]
        congr 1
        (clear h2 h1 hb; lia)
      refine ⟨min a l.length, l.length - min a l.length, okLen_le hb.2, by (clear e hb; lia), ?_, by rw [e], ?_⟩
      · rw [List.take_of_length_le (by simp)]
        rcases Nat.le_total a l.length with q | q
        · rw [Nat.min_eq_left q]; rfl
        · rw [Nat.min_eq_right q, List.drop_of_length_le (Nat.le_refl _), List.drop_of_length_le (by simpa using q)]
      · rw [e]
        unfold Builtin.Slice.slicePlaces
        have h1 : (1 : Int) > 0 := by (clear e hb; lia)
        simp only [h1, if_true, Int.ediv_one]
        split <;> lia
    · exact nn hl
  · exact nn hl

set_option tactic.hygienic true in
theorem slice_pick {h : Heap} {l l' : List V} {items : Array Value} {lo hi : Option Int} (r : VRs ρ H h l items.toList) (hl : sliceL l lo hi = some l') : VRs ρ H h l' (slicePick items lo hi Option.none).toList := by
  unfold sliceL at hl
  split at hl
  · rename_i b
    split at hl
    · rename_i hb
      cases hl
      obtain ⟨b, rfl⟩ := Int.eq_ofNat_of_zero_le hb.1
      rw [slicePick_upto']; simpa using r.take b
    · exact nn hl
  · rename_i b
    split at hl
    · rename_i hb
      cases hl
      obtain ⟨b, rfl⟩ := Int.eq_ofNat_of_zero_le hb.1
      rw [slicePick_from']; simpa using r.drop b
    · exact nn hl
  · exact nn hl

theorem pick_part (xs : Array Value) (a c : Nat) : ((List.range c).filterMap fun (k : Nat) => xs[((a : Int) + (k : Int) * 1).toNat]?).toArray = ((xs.toList.drop a).take c).toArray := by
  have e : (fun (k : Nat) => xs[((a : Int) + (k : Int) * 1).toNat]?) = fun k => xs[a + k]? := by
    funext k
    have : ((a : Int) + (k : Int) * 1).toNat = a + k := by lia
    rw [this]
  rw [e]
  have := pick_run xs a c
  rw [List.filterMap_map] at this
  have e2 : ((fun x => xs[x]?) ∘ fun x => a + x) = fun k => xs[a + k]? := rfl
  rw [e2] at this
  rw [this]

set_option tactic.hygienic true in
theorem tuple_slice {t sl : Addr} {items : Array Value} {vl vu : Value} {lo hi : Option Int} {E : Value → Shared → Prop} {Q : Value → Shared → Prop} (ht : s.heap.IsTuple t items) (hs : s.heap.IsSliceOf sl vl vu .none)
    (pl : PartR lo vl) (pu : PartR hi vu) {l' : List V} {l : List V} (r : VRs ρ H s.heap l items.toList) (hl : sliceL l lo hi = some l')
    (h1 : VR ρ H s.heap (.tup l') (.ref t) → Q (.ref t) s)
    (h : ∀ xs : Array Value, VRs ρ H s.heap l' xs.toList → Q (.ref s.heap.objs.size) { s with heap := s.heap.push { cls := .type "tuple", data := .seq xs } }) : wpAny (MM C) A (getItem (.ref t) (.ref sl)) Q E s := by
  obtain ⟨a, c, hz, hac, rfl, e1, e2⟩ := adjusted hl
  have hlen := r.length
  simp only [Array.length_toList] at hlen
  have ht' : PyProof.Rows.IsTup s.heap t items := ht
  refine x1a3 (id hs) fun os hos hcs hds => ?_
  have hTs : s.TypeIs (.ref sl) "slice" := ⟨os, hos, hcs⟩
  unfold getItem
  try with_reducible refine wpAny_holding ?_
  first | refine wpAny_bind (wpAny_pure ?_) | skip
  refine wpAny_bind (wpAny_sequenceKey ht'.typeIs (by decide) ?_)
  refine wpAny_bind (wpAny_callSpecial?_slot (name := Str.ofString "__getitem__") ht'.typeIs PyProof.Rows.slot_tuple_getitem
    (wpAny_call_entry PyProof.Rows.slot_tuple_getitem ht'.typeIs entry_tuple_getitem ?_ (args_tuple_getitem _ _)))
  show wpAny _ _ (Builtin.Tuple.tupleItemsOf (.ref t) >>= _) _ _ s
  refine wpAny_bind (tupleItemsOf_ ht' ?_)
  refine wpAny_bind (wpAny_typeOf hTs ?_)
  rw [if_pos (by decide)]
  rw [hlen] at e1 e2
  refine wpAny_bind (tup_applied (m := items.size) hs pl pu ?_)
  rw [e2, e1]
  show wpAny _ _ (if ((a : Int) == 0 && (1 : Int) == 1 && c == items.size) = true then _ else _) _ _ s
  have hsz : sizeOk (.seq ((items.toList.drop a).take c).toArray) := by
    show ((items.toList.drop a).take c).toArray.size ≤ sizeLine
    rw [List.size_toArray, List.length_take, List.length_drop, Array.length_toList, sizeLine_big]
    (clear hds hcs hos hlen e2 e1 h1 hl; lia)
  split
  · rename_i hw
    simp only [Bool.and_eq_true, beq_iff_eq] at hw
    obtain ⟨⟨ha, _⟩, rfl⟩ := hw
    have ha : a = 0 := by (clear e2 h1 hl hac hds hcs hos hlen e1 hz; lia)
    subst ha
    have hwhole : (List.drop 0 l).take items.size = l := by rw [List.drop_zero, List.take_of_length_le (by (clear h1 hl hac ha e1 e2 hds hcs hos hz; lia))]
    rw [hwhole] at h1
    have q := h1 (.tup ht r)
    refine wpAny_bind (wpAny_bind (wpAny_typeOf ht'.typeIs (wpAny_pure ?_)))
    rw [if_pos (by decide)]
    exact wpAny_bind (wpAny_rule (wpAny_pure ⟨_, rfl, wpAny_pure q⟩))
  · rw [pick_part]
    have hq : ∀ (tk : Nat), _ := fun _ : Nat => h ((items.toList.drop a).take c).toArray (by simpa using (r.drop a).take c)
    first
      | exact wpAny_bind (m := Builtin.Tuple.tupleExact _) (wpAny_newObj_type (wpAny_pure ⟨_, rfl, wpAny_pure (hq 0)⟩) hsz)
      | exact wpAny_bind (m := Builtin.Tuple.tupleExact _) (wpAny_newObj_type (wpAny_bind (wpAny_pure (wpAny_pure ⟨_, rfl, wpAny_pure (hq 0)⟩))) hsz)
      | exact wpAny_bind (wpAny_bind (m := Builtin.Tuple.tupleExact _) (wpAny_newObj_type (wpAny_pure (wpAny_pure ⟨_, rfl, wpAny_pure (hq 0)⟩)) hsz))
      | exact wpAny_bind (wpAny_bind (m := Builtin.Tuple.tupleExact _) (wpAny_newObj_type (wpAny_pure ⟨_, rfl, wpAny_pure (hq 0)⟩) hsz))

theorem slice_any {A : Around} {E : Value → Shared → Prop} {s : Shared} {Q : Value → Shared → Prop} {prog : Program} {w : World} {value : Expr} {o i : Value} {T id : String} {p p' : Pos} {lw up : Option Expr}
    (hl : typeLookup (.type T) "__getitem__" = pure (some (.builtin id))) (hT : s.TypeIs o T) (hg : wpAny (model prog w) A (getItem o i) Q E s) :
    wpAny (model prog w) A (do standAt p; let r ← subscripted (.Slice lw up Option.none p') (← getitemInPython o) o i; letTemporaryGo value o r; pure r) Q E s := by
  refine wpAny_bind (wpAny_standAt (wpAny_bind ?_))
  rw [getitemInPython_of_ne hT.not_modules]
  refine wpAny_bind (wpAny_specialOf hT hl ?_)
  have fin : wpAny (model prog w) A (operate [i, o] (getItem o i)) (fun r s₃ => wpAny (model prog w) A (letTemporaryGo value o r >>= fun _ => pure r) Q E s₃) E s :=
    wpAny_operating (wpAny_mono hg (fun r s₃ h₃ => wpAny_bind (wpAny_letTemporaryGo (wpAny_pure h₃))) fun _ _ x => x)
  exact wpAny_pure (wpAny_bind fin)

theorem sliceL_len {l l' : List V} {lo hi : Option Int} (hl : sliceL l lo hi = some l') : l.length ≤ 100000 := (adjusted hl).elim fun _ h => h.elim fun _ h => h.1
theorem ev_slice (EV : EvOK C n R) {o : E} {a b : Option E} {x : Expr} {v : V} (hm : mtE (f + 1) sc (.slice o a b) x = true)
    (h : evStep C.P R (.slice o a b) lo H = some (v, H'))
    (r : Room n A) (S : St C ρ H s) (X : EnvOK C sc env ρ H s.heap lo) : Runs C A (eval x env) ρ H s v H' := by
  have hx := mt_bk hm
  refine x0a2 (and2 hx.2) fun hb hm => ?_
  refine x0a3 (and3 hm) fun m0 m1 m2 => ?_
  have hb := bk_of hb
  (refine bpE h fun u H1 h1 hh_ => ?_; clear h; revert hh_; intro h)
  (refine bpE h fun c H2 h2 hh_ => ?_; clear h; revert hh_; intro h)
  (refine bpE h fun d H3 h3 hh_ => ?_; clear h; revert hh_; intro h)
  (refine bsE h fun l h4 hh_ => ?_; clear h; revert hh_; intro h)
  (refine msE h fun l' h5 hh_ => ?_; clear h; revert hh_; intro h)
  (refine pinjE h ?_; clear h)
  refine .of (x' := .Subscript (pt x).a (.Slice (pt (pt x).b).o1 (pt (pt x).b).o2 Option.none (pt (pt x).b).p) (pt x).p) (hx.1.trans (congrArg (fun z => Expr.Subscript (pt x).a z (pt x).p) hb)) fun E Q k => ?_
  rw [eval_Subscript]
  refine wpAny_bind (EV f sc env o (pt x).a lo H u H1 m0 h1 A s ρ r S X E _ fun x1 s₁ ρ₁ S₁ N₁ r₁ => ?_)
  refine wpAny_bind (wpAny_holding (wpAny_Slice ?_))
  refine opt_ok EV m1 h2 r S₁ (X.next S N₁) fun x2 s₂ ρ₂ S₂ N₂ p₂ => ?_
  refine opt_ok EV m2 h3 r S₂ ((X.next S N₁).next S₁ N₂) fun x3 s₃ ρ₃ S₃ N₃ p₃ => ?_
  rw [evalPart_none]
  refine wpAny_pure ?_
  refine x0a2 (S₃.grow (s' := { s₃ with heap := s₃.heap.push { cls := .type "slice", data := .fields #[x2, x3, .none] } }) (fun a o e => Heap.get?_push_of_some _ e) rfl rfl) fun S' N => ?_
  have r₁' := ((r₁.lasts (N₂.lasts S₁)).lasts (N₃.lasts S₂)).lasts (N.lasts S₃)
  have NN := ((N₁.trans N₂).trans N₃).trans N
  have hsl := Heap.IsSliceOf.new s₃.heap x2 x3 .none
  rcases items_some h4 with rfl | rfl
  · cases r₁' with
    | tup t rr =>
      refine slice_any tuple_getitem (PyProof.Rows.IsTup.typeIs (show PyProof.Rows.IsTup _ _ _ from t)) ?_
      refine tuple_slice t hsl p₂ p₃ rr h5 (fun rv => k _ _ _ S' NN rv) fun xs rx => ?_
      refine x0a3 (push_tup S' rx (tk := s₃.toks)) fun S'' N' r' => ?_
      exact k _ _ _ S'' (NN.trans N') r'
  · cases r₁' with
    | lst t nn rr =>
      refine slice_any list_getitem t.typeIs ?_
      have hlen := rr.length
      simp only [Array.length_toList] at hlen
      have hl3 := sliceL_len h5
      refine wpAny_getItem_list_slice t hsl p₂.part p₃.part .none (by simp) ?_ (by rw [sizeLine_big]; lia)
      refine x0a3 (push_lst S' (slice_pick rr h5) (tk := s₃.toks)) fun S'' N' r' => ?_
      exact k _ _ _ S'' (NN.trans N') r'
/-! attributes -/
theorem AR.get {h : Heap} : ∀ {l : List (Nat × V)} {es : List DictEntry}, AR ρ H h l es → ∀ {a : Nat} {v : V}, lk l a = some v → ∃ x, getL (nm a) es = some (some x) ∧ VR ρ H h v x := by
  intro l es r
  induction r with
  | nil => intro a v e; exact nn e
  | @cons j v x hs t l l' r _ ih =>
    intro a u e
    rw [lk_cons] at e
    unfold getL
    simp only [List.find?_cons]
    have ek : (⟨hs, .str (nm j) t, x⟩ : DictEntry).key.isStr (nm a) = Nat.beq j a := beq_nm j a
    rw [ek, natBeq]
    by_cases q : a = j
    · subst q
      rw [if_pos rfl] at e; cases e
      exact ⟨x, by simp, r⟩
    · rw [if_neg q] at e
      refine x1a2 (ih e) fun y e1 r1 => ?_
      refine ⟨y, ?_, r1⟩
      have q' : ¬ j = a := fun z => q z.symm
      simp only [decide_eq_false q']
      unfold getL at e1
      revert e1
      cases hf : List.find? (fun x => x.key.isStr (nm a)) l' with
      | some e => exact id
      | none =>
        simp only
        intro e1
        split at e1 <;> simp at e1

theorem AR.no {h : Heap} : ∀ {l : List (Nat × V)} {es : List DictEntry}, AR ρ H h l es → ∀ {a : Nat}, lk l a = Option.none → getL (nm a) es = some Option.none := by
  intro l es r
  have noref : es.any (·.refKey) = false := by
    induction r with
    | nil => rfl
    | cons _ _ ih => simp only [List.any_cons, ih, Bool.or_false]; rfl
  intro a e
  have nf : es.find? (·.key.isStr (nm a)) = Option.none := by
    clear noref
    induction r with
    | nil => rfl
    | @cons j v x hs t l l' r _ ih =>
      rw [lk_cons] at e
      simp only [List.find?_cons]
      have ek : (⟨hs, .str (nm j) t, x⟩ : DictEntry).key.isStr (nm a) = Nat.beq j a := beq_nm j a
      rw [ek, natBeq]
      by_cases q : a = j
      · subst q; rw [if_pos rfl] at e; cases e
      · rw [if_neg q] at e
        have q' : ¬ j = a := fun z => q z.symm
        simp only [decide_eq_false q']
        exact ih e
  unfold getL
  rw [nf]
  simp only [noref]
  rfl

theorem VR.handed {h : Heap} {v : V} {x : Value} (r : VR ρ H h v x) : W.handedIn x = true := by cases r <;> rfl

theorem base_plain {o : Expr} {name : Str} (h : notSuper o = true) : attributeBase o name env (eval o env) = eval o env := by
  cases o with
  | Call g as ks p =>
    cases g with
    | Name id q =>
      induction as using List.casesOn with
      | nil => induction ks using List.casesOn with
        | nil => exact ff h
        | cons _ _ => rfl
      | cons _ _ => rfl
    | _ => rfl
  | _ => rfl

theorem St.inst (S : St C ρ H s) {r : Nat} {c : Nat} {l : List (Nat × V)} (hn : nth H r = some (.inst c l)) {p : Addr × Addr} (hp : ρ[r]? = some p) :
    ∃ es nn, AR ρ H s.heap l es ∧ s.heap.get? p.2 = some (dictOf es nn) ∧ p.1 ≠ p.2 ∧ PySem.W.InstAt s.heap p.1 ⟨.ref (C.cls c), some p.2, .plain, #[]⟩ (C.cls c) (some (dictOf es nn)) := by
  obtain ⟨e, h1, es, nn, h2, r⟩ := S.objs r _ p hn hp
  exact ⟨es, nn, r, h2, e, h1, rfl, rfl, h2⟩

theorem ev_attr {G : Glo} (K : CfgOK C G) (EV : EvOK C n R) {o : E} {a : Nat} {x : Expr} {v : V} (hm : mtE (f + 1) sc (.attr o a) x = true)
    (h : evStep C.P R (.attr o a) lo H = some (v, H'))
    (r : Room n A) (S : St C ρ H s) (X : EnvOK C sc env ρ H s.heap lo) : Runs C A (eval x env) ρ H s v H' := by
  have hx := mt_bk hm
  refine x0a3 (and3 hx.2) fun m0 mn m2 => ?_
  have mn : (pt x).s = nm a := beq_iff_eq.mp mn
  (refine bpE h fun u H1 h1 hh_ => ?_; clear h; revert hh_; intro h)
  (refine bsE h fun rr hr hh_ => ?_; clear h; revert hh_; intro h)
  (refine bsE h fun ob hn hh_ => ?_; clear h; revert hh_; intro h)
  (refine bpE h fun c l ho hh_ => ?_; clear h; revert hh_; intro h)
  (refine itE h fun ha hh_ => ?_; clear h; revert hh_; intro h)
  (refine msE h fun w hw hh_ => ?_; clear h; revert hh_; intro h)
  (refine pinjE h ?_; clear h)
  obtain rfl := ref?_some hr
  obtain rfl := inst?_some ho
  refine x0a2 (and2 ha) fun ha hms => ?_
  refine x1a1 (Option.isSome_iff_exists.mp hms) fun ms hms => ?_
  have hmem : a ∈ C.P.attrs := by
    refine x1a2 (List.any_eq_true.mp ha) fun b hb e => ?_
    rw [Nat.eq_of_beq_eq_true e]; exact hb
  refine .of (x' := .Attribute (pt x).a (nm a) (pt x).p) (mn ▸ hx.1) fun E Q k => ?_
  rw [arm_eval_Attribute, base_plain m2]
  refine wpAny_bind (EV f sc env o (pt x).a lo H _ _ m0 h1 A s ρ r S X E _ fun x1 s₁ ρ₁ S₁ N₁ r₁ => ?_)
  cases r₁ with
  | ref hp =>
    refine x2a4 (S₁.inst hn hp) fun es nn ar hd hne I => ?_
    refine x1a2 (ar.get hw) fun z hz rz => ?_
    have KC := K.cl c ms hms
    refine wpAny_bind (wpAny_standAt (wpAny_bind (wpAny_holding ?_)))
    refine W.get_value (K.X.keeps S₁.base) I (W.plainGet_of (KC.get (nm a))).1 (W.findObj_own KC.dict (KC.attr a hmem) rfl (by rw [W.lookIn_dict]; exact hz)) rz.handed ?_
    have G := S₁.grow (s' := { s₁ with toks := s₁.toks + 1 }) (fun _ _ e => e) rfl rfl
    exact wpAny_bind (wpAny_letTemporaryGo (wpAny_pure (k _ _ _ G.1 (N₁.trans G.2) rz)))
end
end Mini
end
section
set_option autoImplicit false
namespace Mini
open PySem PySem.Calls PyProof.Rows
open PySem.W (Frag dictOf Looks findIn typeIn keepIn makesIn plainGet hasDictIn plainOver getL)

theorem str_assoc (a b c : Str) : a ++ b ++ c = a ++ (b ++ c) := by
  show Str.append (Str.append a b) c = Str.append a (Str.append b c)
  simp [Str.append]
theorem str_empty (a : Str) : Str.empty ++ a = a := by
  show Str.append Str.empty a = a
  cases a; simp [Str.append, Str.empty]

theorem small_text : ∀ k : Fin 100, (Str.ofString (toString (k.val : Int))) = nm ((intText (k.val : Int)).getD 0) := by decide +kernel
theorem small_some : ∀ k : Fin 100, (intText (k.val : Int)).isSome = true := by decide +kernel
theorem small_len : ∀ k : Fin 100, (nmL ((intText (k.val : Int)).getD 0)).length ≤ 2 := by decide +kernel
theorem intText_ok {i : Int} {t : Nat} (h : intText i = some t) : (Str.ofString (toString i)) = nm t ∧ (nmL t).length ≤ 2 ∧ i.natAbs < 100 := by
  have hi : 0 ≤ i ∧ i < 100 := by
    unfold intText at h
    split at h
    · (clear h; lia)
    · split at h
      · (clear h; lia)
      · exact nn h
  obtain ⟨k, rfl⟩ := Int.eq_ofNat_of_zero_le hi.1
  have hk : k < 100 := by (clear h; lia)
  have h1 := small_text ⟨k, hk⟩
  have h2 := small_len ⟨k, hk⟩
  simp only at h1 h2
  rw [h] at h1 h2
  exact ⟨h1, h2, by (clear h2 h1 hk h; lia)⟩

section
variable {C : Cfg} {sc : Scope} {env : Env} {lo : Lo} {A : Around} {R : Sems} {n : Nat} {f : Nat} {ρ ρ' : Rh} {H H' : Hp} {s s' : Shared}

theorem three_of {l : List Expr} {p : Expr → Expr → Expr → Bool} (h : (match l with | [u, v, w] => p u v w | _ => false) = true) : ∃ u v w, l = [u, v, w] ∧ p u v w = true := by
  induction l using List.casesOn with
  | nil => exact ff h
  | cons u l => induction l using List.casesOn with
    | nil => exact ff h
    | cons v l => induction l using List.casesOn with
      | nil => exact ff h
      | cons w l => induction l using List.casesOn with
        | nil => exact ⟨u, v, w, rfl, h⟩
        | cons _ _ => exact ff h
theorem ev_fmt (EV : EvOK C n R) {pre post : Nat} {e : E} {x : Expr} {v : V} (hm : mtE (f + 1) sc (.fmt pre e post) x = true)
    (h : evStep C.P R (.fmt pre e post) lo H = some (v, H'))
    (r : Room n A) (S : St C ρ H s) (X : EnvOK C sc env ρ H s.heap lo) : Runs C A (eval x env) ρ H s v H' := by
  refine x0a2 (mt_bk hm) fun hx hm => ?_
  refine x3a2 (three_of hm) fun a1 a2 a3 hl hm => ?_
  refine x0a2 (and2 hm) fun k1 hm => ?_
  refine x0a2 (and2 hm) fun k2 hm => ?_
  refine x0a2 (and2 hm) fun k3 hm => ?_
  refine x0a2 (and2 hm) fun e2 hm => ?_
  have e2 := beq_iff_eq.mp e2
  refine x0a2 (and2 hm) fun hm m0 => ?_
  refine x0a4 (and4 hm) fun e1 e3 b1 b2 => ?_
  have e1 := beq_iff_eq.mp e1
  have e3 := beq_iff_eq.mp e3
  have b1 := Nat.le_of_ble_eq_true b1
  have b2 := Nat.le_of_ble_eq_true b2
  (refine bpE h fun u H1 h1 hh_ => ?_; clear h; revert hh_; intro h)
  (refine bsE h fun i hi hh_ => ?_; clear h; revert hh_; intro h)
  (refine msE h fun t ht hh_ => ?_; clear h; revert hh_; intro h)
  (refine pinjE h ?_; clear h)
  obtain rfl := int?_some hi
  refine .of (x' := .JoinedStr [.Constant (.str (nm pre)) (pt a1).n (pt a1).p, .FormattedValue (pt a2).a (-1) Option.none (pt a2).p, .Constant (.str (nm post)) (pt a3).n (pt a3).p] (pt x).p) ?_ fun E Q k => ?_
  · refine hx.trans (congrArg (fun z => Expr.JoinedStr z (pt x).p) (hl.trans ?_))
    rw [← e1, ← e3, ← e2]
    exact congr (congrArg List.cons (bk_of k1)) (congr (congrArg List.cons (bk_of k2)) (congrArg (fun z => [z]) (bk_of k3)))
  refine x0a2 (S.grow (s' := { s with toks := s.toks + 1 }) (fun _ _ e => e) rfl rfl) fun S0 N0 => ?_
  refine wpAny_JoinedStr ?_
  refine wpAny_Constant_str ⟨nm pre, _, rfl, by rw [str_empty, nm_length, sizeLine_big]; lia, ?_⟩
  refine wpAny_FormattedValue_plain ?_
  refine EV f sc env e (pt a2).a lo H _ _ m0 h1 A _ ρ r S0 (X.next S N0) E _ fun x1 s₁ ρ₁ S₁ N₁ r₁ => ?_
  refine x0a3 (intText_ok ht) fun e1 e2 e3 => ?_
  refine VR.intE r₁ fun _ => ?_
  refine wpAny_formatField_int (by
    rcases Nat.eq_zero_or_pos i.natAbs with z | z
    · rw [z]; decide
    · exact Nat.lt_of_lt_of_le ((Nat.log2_lt (by lia) (k := 7)).mpr (by lia)) (by decide)) ?_
  rw [e1]
  refine ⟨nm t, _, rfl, ?_, ?_⟩
  · rw [str_empty, nm_cat, nm_length, sizeLine_big, strCat, nmL_cat, List.length_append]; lia
  · refine wpAny_Constant_str ⟨nm post, _, rfl, ?_, ?_⟩
    · rw [str_empty, str_assoc, nm_cat, nm_cat, nm_length, sizeLine_big, strCat, nmL_cat, strCat, nmL_cat, List.length_append, List.length_append]; lia
    · refine ⟨?_, ?_⟩
      · rw [str_empty, str_assoc, nm_cat, nm_cat, nm_length, sizeLine_big, strCat, nmL_cat, strCat, nmL_cat, List.length_append, List.length_append]; lia
      · rw [str_empty, str_assoc, nm_cat, nm_cat]
        refine x0a2 (S₁.grow (s' := { s₁ with toks := s₁.toks + 1 + 1 + 1 + 1 }) (fun _ _ e => e) rfl rfl) fun S' N => ?_
        exact k _ _ _ S' ((N0.trans N₁).trans N) (.str _ _)

theorem ev_freeze (EV : EvOK C n R) {e : E} {x : Expr} {v : V} (hm : mtE (f + 1) sc (.freeze e) x = true)
    (h : evStep C.P R (.freeze e) lo H = some (v, H'))
    (r : Room n A) (S : St C ρ H s) (X : EnvOK C sc env ρ H s.heap lo) : Runs C A (eval x env) ρ H s v H' := by
  have hm : mtE f sc e x = true := mt_p hm
  (refine bpE h fun u H1 h1 hh_ => ?_; clear h; revert hh_; intro h)
  (refine bsE h fun rr hr hh_ => ?_; clear h; revert hh_; intro h)
  (refine bsE h fun ob hn hh_ => ?_; clear h; revert hh_; intro h)
  (refine msE h fun l ho hh_ => ?_; clear h; revert hh_; intro h)
  (refine pinjE h ?_; clear h)
  obtain rfl := ref?_some hr
  obtain rfl := list?_some ho
  intro E Q k
  refine EV f sc env e x lo H _ _ hm h1 A _ ρ r S X E _ fun x1 s₁ ρ₁ S₁ N₁ r₁ => ?_
  obtain ⟨p, hp, rfl, e, items, t, rl⟩ := S₁.ref_obj r₁ hn
  refine x0a2 (S₁.set (s' := s₁) hn rfl hp (o' := .dead) (fun _ _ _ _ e => e) (S₁.here _ _ hp) rfl rfl (fun _ => trivial)) fun S' N => ?_
  refine k _ _ _ S' (N₁.trans N) (.lst t.isList ?_ (rl.lasts (N.lasts S₁)))
  intro m
  have m := m.resolve_right fun m => (S₁.zap _ m _ _ hp).1 rfl
  refine x3a4 m fun i q o hq ho hlv hc => ?_
  by_cases hi : rr = i
  · subst hi
    have hlt : rr < H1.length := (List.getElem?_eq_some_iff.mp hn).1
    rw [List.getElem?_set_self hlt] at ho; cases ho; exact ff hlv
  · refine x0a4 (S₁.apart rr i p q hp hq hi) fun n1 n2 n3 n4 => ?_
    rcases hc with hc | hc
    · exact n1 hc
    · exact n2 hc
end
end Mini
end
section
set_option autoImplicit false
namespace Mini
open PySem PySem.Calls PyProof.Rows
open PySem.W (Frag dictOf Looks findIn typeIn keepIn makesIn plainGet hasDictIn plainOver getL)

section
variable {C : Cfg} {sc : Scope} {env : Env} {lo : Lo} {A : Around} {R : Sems} {n : Nat} {f : Nat} {ρ ρ' : Rh} {H H' : Hp} {s s' : Shared}

theorem stored_nil {K : Type} [DecidableEq K] (k : K) (v : Value) : stored ([] : List (K × Value)) k v = [(k, v)] := rfl
theorem stored_cons {K : Type} [DecidableEq K] (j : K) (w : Value) (r : List (K × Value)) (k : K) (v : Value) (hn : j ∉ r.map (·.1)) : stored ((j, w) :: r) k v = if j = k then (j, v) :: r else (j, w) :: stored r k v := by
  unfold stored
  by_cases e : j = k
  · subst e
    have := map_store_of_not_mem r j v hn
    simp [this]
  · simp only [List.any_cons, decide_eq_false e, Bool.false_or, if_neg e, List.map_cons]
    split <;> rfl

theorem PR.keysI {h : Heap} {l : List (Int × V)} {xs : List (Int × Value)} (p : PR id ρ H h l xs) : xs.map (·.1) = l.map (·.1) := by
  induction p with
  | nil => rfl
  | cons _ _ ih => simp [ih]
theorem PR.setI {h : Heap} {l : List (Int × V)} {xs : List (Int × Value)} (p : PR id ρ H h l xs) : (xs.map (·.1)).Nodup → ∀ {k : Int} {v : V} {y : Value}, VR ρ H h v y → PR id ρ H h (Mini.setI l k v) (stored xs k y) := by
  induction p with
  | nil => intro _ k v y r; exact .cons r .nil
  | @cons j v x l l' r q ih =>
    intro hn k u y ru
    rw [List.map_cons, List.nodup_cons] at hn
    rw [stored_cons _ _ _ _ _ hn.1]
    simp only [Mini.setI, id]
    by_cases e : k = j
    · subst e; simp; exact .cons ru q
    · have e' : ¬ j = k := fun z => e z.symm
      rw [if_neg e', beq_eq_false_iff_ne.mpr e]
      exact .cons r (ih hn.2 ru)
theorem PR.setS {h : Heap} {l : List (Nat × V)} {xs : List (Str × Value)} (p : PR nm ρ H h l xs) : (xs.map (·.1)).Nodup → ∀ {k : Nat} {v : V} {y : Value}, VR ρ H h v y → PR nm ρ H h (lset l k v) (stored xs (nm k) y) := by
  induction p with
  | nil => intro _ k v y r; exact .cons r .nil
  | @cons j v x l l' r q ih =>
    intro hn k u y ru
    rw [List.map_cons, List.nodup_cons] at hn
    rw [stored_cons _ _ _ _ _ hn.1, lset_cons]
    by_cases e : k = j
    · subst e; simp; exact .cons ru q
    · have e' : ¬ nm j = nm k := fun z => e (nm_inj z.symm)
      rw [if_neg e', if_neg e]
      exact .cons r (ih hn.2 ru)
theorem stored_nodup {K : Type} [DecidableEq K] {xs : List (K × Value)} (hn : (xs.map (·.1)).Nodup) (k : K) (v : Value) : ((stored xs k v).map (·.1)).Nodup := by
  induction xs with
  | nil => simp [stored_nil]
  | cons p r ih =>
    obtain ⟨j, w⟩ := p
    rw [List.map_cons, List.nodup_cons] at hn
    rw [stored_cons _ _ _ _ _ hn.1]
    by_cases e : j = k
    · rw [if_pos e]; simpa using hn
    · rw [if_neg e, List.map_cons, List.nodup_cons]
      refine ⟨fun hm => ?_, ih hn.2⟩
      have : ∀ (xs : List (K × Value)), j ∈ (stored xs k v).map (·.1) → j ∈ xs.map (·.1) ∨ j = k := by
        intro xs hm
        unfold stored at hm
        split at hm
        · obtain ⟨q, hq, rfl⟩ := List.mem_map.mp hm
          obtain ⟨z, hz, rfl⟩ := List.mem_map.mp hq
          refine .inl (List.mem_map.mpr ⟨z, hz, ?_⟩)
          split <;> rfl
        · rw [List.map_append, List.mem_append] at hm
          rcases hm with hm | hm
          · exact .inl hm
          · simp at hm; exact .inr hm
      rcases this r hm with q | q
      · exact hn.1 q
      · exact e q
theorem PR.mergeI {h : Heap} {vs : List V} {ys : List Value} (rs : VRs ρ H h vs ys) : ∀ (is : List Int) {l : List (Int × V)} {xs : List (Int × Value)}, PR id ρ H h l xs → (xs.map (·.1)).Nodup →
    PR id ρ H h ((is.zip vs).foldl (fun d p => Mini.setI d p.1 p.2) l) (merged xs (is.zip ys)) := by
  refine VRs.ind (q := fun vs ys => ∀ (is : List Int) {l : List (Int × V)} {xs : List (Int × Value)}, PR id ρ H h l xs → (xs.map (·.1)).Nodup → PR id ρ H h ((is.zip vs).foldl (fun d p => Mini.setI d p.1 p.2) l) (merged xs (is.zip ys)))
    (fun is _ _ p _ => by induction is using List.casesOn <;> exact p) (fun {v x vs xs} r _ ih is _ _ p hn => ?_) rs
  induction is using List.casesOn with
  | nil => exact p
  | cons i is => exact ih is (p.setI hn r) (stored_nodup hn _ _)
theorem PR.mergeS {h : Heap} {vs : List V} {ys : List Value} (rs : VRs ρ H h vs ys) : ∀ (is : List Nat) {l : List (Nat × V)} {xs : List (Str × Value)}, PR nm ρ H h l xs → (xs.map (·.1)).Nodup →
    PR nm ρ H h ((is.zip vs).foldl (fun d p => lset d p.1 p.2) l) (merged xs ((is.map nm).zip ys)) := by
  refine VRs.ind (q := fun vs ys => ∀ (is : List Nat) {l : List (Nat × V)} {xs : List (Str × Value)}, PR nm ρ H h l xs → (xs.map (·.1)).Nodup → PR nm ρ H h ((is.zip vs).foldl (fun d p => lset d p.1 p.2) l) (merged xs ((is.map nm).zip ys)))
    (fun is _ _ p _ => by induction is using List.casesOn <;> exact p) (fun {v x vs xs} r _ ih is _ _ p hn => ?_) rs
  induction is using List.casesOn with
  | nil => exact p
  | cons i is => exact ih is (p.setS hn r) (stored_nodup hn _ _)

theorem carriesI {h : Heap} {ks : List V} : ∀ {is : List Int} {kx : List Value}, VRs ρ H h ks kx → allInts ks = some is → ∀ {ys : List Value}, kx.length = ys.length → Carries (intKind C.prog C.w) (kx.zip ys) (is.zip ys) := by
  induction ks with
  | nil => intro is kx r e ys hl; cases r; cases e; trivial
  | cons v ks ih =>
    intro is kx r e ys hl
    refine bsE e fun i hi e => ?_
    refine msE e fun js e1 e => ?_
    cases e
    obtain rfl := int?_some hi
    cases r with
    | cons r rs => refine VR.intE r fun _ => ?_; induction ys using List.casesOn with
      | nil => cases hl
      | cons y ys => exact ⟨isInt_is _ _ _ _, rfl, ih rs e1 (Nat.succ.inj hl)⟩
theorem carriesS {h : Heap} {ks : List V} : ∀ {is : List Nat} {kx : List Value}, VRs ρ H h ks kx → allStrs ks = some is → ∀ {ys : List Value}, kx.length = ys.length → Carries (PySem.strKind C.prog C.w) (kx.zip ys) ((is.map nm).zip ys) := by
  induction ks with
  | nil => intro is kx r e ys hl; cases r; cases e; trivial
  | cons v ks ih =>
    intro is kx r e ys hl
    refine bsE e fun i hi e => ?_
    refine msE e fun js e1 e => ?_
    cases e
    obtain rfl := str?_some hi
    cases r with
    | cons r rs => refine VR.strE r fun _ => ?_; induction ys using List.casesOn with
      | nil => cases hl
      | cons y ys => exact ⟨isStr_is _ _ _ _, rfl, ih rs e1 (Nat.succ.inj hl)⟩

theorem mtOpts_nil {me : Scope → E → Expr → Bool} {xs : List (Option Expr)} (h : mtOpts me sc [] xs = true) : xs = [] := by induction xs using List.casesOn with
  | nil => rfl
  | cons _ _ => exact ff h
theorem mtOptsE {me : Scope → E → Expr → Bool} {e : E} {es : List E} {xs : List (Option Expr)} (h : mtOpts me sc (e :: es) xs = true) {P : List (Option Expr) → Prop} (k : ∀ x ys, me sc e x = true → mtOpts me sc es ys = true → P (some x :: ys)) : P xs := by
  induction xs using List.casesOn with
  | nil => exact ff h
  | cons x ys => induction x using Option.casesOn with
    | none => exact ff h
    | some x => exact k x ys (and2 h).1 (and2 h).2
theorem pairs_ok (EV : EvOK C n R) {pos : Pos} {ks : List E} : ∀ {vs : List E} {xs : List (Option Expr)} {ys : List Expr} {H : Hp} {ab : List V × List V} {H' : Hp}, ks.length = vs.length → mtOpts (mtE f) sc ks xs = true → mtEs (mtE f) sc vs ys = true → evPairs R ks vs lo H = some (ab, H') →
    ∀ {s : Shared} {ρ : Rh}, Room n A → St C ρ H s → EnvOK C sc env ρ H s.heap lo → ∀ {E : Value → Shared → Prop} {Q : List (Value × Value) → Shared → Prop},
    (∀ p q s' ρ', St C ρ' H' s' → Nx no ρ H s ρ' H' s' → VRs ρ' H' s'.heap ab.1 p → VRs ρ' H' s'.heap ab.2 q → p.length = q.length → Q (p.zip q) s') → wpAny (MM C) A (evalPairs (pairTrees xs ys env pos)) Q E s := by
  induction ks with
  | nil =>
    intro vs xs ys H ab H' hl h1 h2 h s ρ r S X E Q k
    induction vs using List.casesOn with
    | cons _ _ => cases hl
    | nil =>
      cases mtOpts_nil h1
      cases mtEs_nil h2
      (revert k; apply sinjE h; clear h; intro k)
      exact wpAny_pure (k [] [] _ _ S (.refl _ _ _) .nil .nil rfl)
  | cons e es ih =>
    intro vs xs ys H ab H' hl h1 h2 h s ρ r S X E Q k
    induction vs using List.casesOn with
    | nil => cases hl
    | cons u us =>
      (apply mtOptsE h1; clear h1; intro x xs m1 m2)
      (apply mtEsE h2; clear h2; intro y ys m3 m4)
      (refine bpE h fun kv H1 g1 hh_ => ?_; clear h; revert hh_; intro h)
      (refine bpE h fun vv H2 g2 hh_ => ?_; clear h; revert hh_; intro h)
      (refine bpE h fun as H3 g3 hh_ => ?_; clear h; revert hh_; intro h)
      (revert k; apply sinjE h; clear h; intro k)
      refine pairTrees_cons_walk ?_
      refine EV f sc env e x lo H kv H1 m1 g1 A s ρ r S X E _ fun x1 s₁ ρ₁ S₁ N₁ r₁ => ?_
      refine EV f sc env u y lo H1 vv H2 m3 g2 A s₁ ρ₁ r S₁ (X.next S N₁) E _ fun x2 s₂ ρ₂ S₂ N₂ r₂ => ?_
      refine ih (Nat.succ.inj hl) m2 m4 g3 r S₂ ((X.next S N₁).next S₁ N₂) fun p q s₃ ρ₃ S₃ N₃ rp rq hl => ?_
      exact k (x1 :: p) (x2 :: q) s₃ ρ₃ S₃ ((N₁.trans N₂).trans N₃) (.cons ((r₁.lasts (N₂.lasts S₁)).lasts (N₃.lasts S₂)) rp) (.cons (r₂.lasts (N₃.lasts S₂)) rq) (congrArg (· + 1) hl)

theorem mtOpts_all {ks : List E} : ∀ {xs : List (Option Expr)}, mtOpts (mtE f) sc ks xs = true → xs.all (·.isSome) = true ∧ xs.length = ks.length := by
  induction ks with
  | nil => intro xs h; cases mtOpts_nil h; exact ⟨rfl, rfl⟩
  | cons e es ih =>
    intro xs h
    (apply mtOptsE h; clear h; intro x ys _ m)
    exact ⟨(ih m).1, congrArg (· + 1) (ih m).2⟩

/-- an object that was made before its parts -/
theorem St.late {s₀ s₁ s₂ s₃ : Shared} {ρ₂ : Rh} {H₂ : Hp} {o : O} {x : Obj} (S₀ : St C ρ H s₀) (S₁ : St C ρ H s₁) (e1 : s₁.heap = s₀.heap.push x) (N : Nx no ρ H s₁ ρ₂ H₂ s₂) (S₂ : St C ρ₂ H₂ s₂) (hx : ∀ xs n, x.data ≠ .seq xs n) (hfr : x.isFreed = false) (h3 : ∃ o, s₃.heap.get? s₀.heap.objs.size = some o)
    (hb : Heap.SameBut s₀.heap.objs.size s₂.heap s₃.heap) (hg : s₃.gens = s₂.gens) (hos : s₃.os = s₂.os)
    (hR : Lasts ρ₂ H₂ s₂.heap (ρ₂ ++ [(s₀.heap.objs.size, s₀.heap.objs.size)]) (H₂ ++ [o]) s₃.heap → ObjR C (ρ₂ ++ [(s₀.heap.objs.size, s₀.heap.objs.size)]) (H₂ ++ [o]) s₃.heap (s₀.heap.objs.size, s₀.heap.objs.size) o) :
    St C (ρ₂ ++ [(s₀.heap.objs.size, s₀.heap.objs.size)]) (H₂ ++ [o]) s₃ ∧ Nx no ρ H s₀ (ρ₂ ++ [(s₀.heap.objs.size, s₀.heap.objs.size)]) (H₂ ++ [o]) s₃ ∧ (ρ₂ ++ [(s₀.heap.objs.size, s₀.heap.objs.size)])[H₂.length]? = some (s₀.heap.objs.size, s₀.heap.objs.size) := by
  have ha0 := get?_end s₀.heap
  have ha1 : s₁.heap.get? s₀.heap.objs.size = some x := by rw [e1]; exact Heap.get?_push_size _ hfr
  have own1 : ¬ Own ρ H s₀.heap.objs.size := S₀.fresh
  have ha2 : s₂.heap.get? s₀.heap.objs.size = some x := N.keep _ _ ha1 own1 id
  have own2 : ¬ Own ρ₂ H₂ s₀.heap.objs.size := fun m => (N.fresh _ m).elim own1 fun z => by rw [ha1] at z; cases z
  have bn : C.base.get? s₀.heap.objs.size = none := by
    cases e : C.base.get? s₀.heap.objs.size with
    | none => rfl
    | some x => exact absurd (Heap.lt_size (S₀.base _ _ e)) (Nat.lt_irrefl _)
  have none0 : ∀ {a : Addr}, s₁.heap.get? a = none → s₀.heap.get? a = none := fun {a} h => by
    cases e : s₀.heap.get? a with
    | none => rfl
    | some o => rw [e1, Heap.get?_push_of_some _ e] at h; cases h
  have hnd : ∀ (i : Nat) (q : Addr × Addr), ρ₂[i]? = some q → s₀.heap.objs.size ≠ q.1 ∧ s₀.heap.objs.size ≠ q.2 := fun i q e => by
    rcases N.news i q e with e | ⟨a, b⟩
    · obtain ⟨⟨y, hy⟩, z, hz⟩ := S₀.here i q e
      exact ⟨fun w => (by rw [← w, ha0] at hy; exact nn hy), fun w => (by rw [← w, ha0] at hz; exact nn hz)⟩
    · exact ⟨fun w => (by rw [← w, ha1] at a; cases a), fun w => (by rw [← w, ha1] at b; cases b)⟩
  have nz : s₀.heap.objs.size ∉ ρ₂.z := fun m => by
    rw [N.z] at m
    obtain ⟨⟨o, ho⟩, _⟩ := S₀.hid _ m
    rw [ha0] at ho; exact nn ho
  have kk : ∀ a y, a ≠ s₀.heap.objs.size → s₂.heap.get? a = some y → s₃.heap.get? a = some y := fun a y h e => (hb.2 a h).trans e
  have nl : ∀ items, ¬ s₂.heap.IsList s₀.heap.objs.size items := fun items t => by
    refine t5 t fun y hy _ m hd => ?_
    rw [ha2] at hy; cases hy; exact hx _ _ hd
  have nt : ∀ items, ¬ s₂.heap.IsTuple s₀.heap.objs.size items := fun items t => by
    refine t5 t fun y hy _ m hd => ?_
    rw [ha2] at hy; cases hy; exact hx _ _ hd
  obtain ⟨S', L⟩ := S₂.app (s' := s₃) (o := o) (p := (s₀.heap.objs.size, s₀.heap.objs.size)) ⟨own2, own2⟩ (fun i q e => ⟨(hnd i q e).1, (hnd i q e).2, (hnd i q e).1, (hnd i q e).2⟩) ⟨bn, bn⟩ ⟨nl, nl⟩ ⟨nt, nt⟩
    (fun a y h _ e => kk a y h e) ⟨h3, h3⟩ ⟨nz, nz⟩ hg hos hR
  refine ⟨S', ⟨N.ext.trans (by rw [Rh.app_l]; exact List.prefix_append _ _), N.z, fun a y e nn _ => ?_, fun a m => ?_, fun a y e => ?_, fun _ _ w => w.elim, fun i q e => ?_⟩, ?_⟩
  · have : a ≠ s₀.heap.objs.size := fun z => absurd (Heap.lt_size e) (z ▸ Nat.lt_irrefl _)
    exact kk a y this (N.keep a y (by rw [e1]; exact Heap.get?_push_of_some _ e) nn id)
  · rcases own_app S₂.len m with m | m | m
    · exact (N.fresh a m).imp id fun z => none0 z
    · exact .inr (m ▸ ha0)
    · exact .inr (m ▸ ha0)
  · have hne : a ≠ s₀.heap.objs.size := fun z => absurd (Heap.lt_size e) (z ▸ Nat.lt_irrefl _)
    obtain ⟨y', hy'⟩ := N.pres a y (by rw [e1]; exact Heap.get?_push_of_some _ e)
    exact ⟨y', kk a y' hne hy'⟩
  · rw [Rh.at_, Rh.app_l] at e
    rcases Nat.lt_or_ge i ρ₂.l.length with hj | hj
    · rw [List.getElem?_append_left hj] at e
      exact (N.news i q e).imp id fun z => ⟨none0 z.1, none0 z.2⟩
    · rw [List.getElem?_append_right hj] at e
      rcases Nat.eq_zero_or_pos (i - ρ₂.l.length) with z | z
      · rw [z] at e; simp at e; subst e; exact .inr ⟨ha0, ha0⟩
      · rw [List.getElem?_eq_none (by simp only [List.length_cons, List.length_nil]; (clear hj e nz bn own2 ha2 own1 ha1 ha0 hR hos hg hfr e1; lia))] at e; exact nn e
  · rw [← S₂.len, Rh.at_, Rh.app_l]; simp

theorem inv_dict {dk : DK} {ks vs : List E} {x : Expr} (hm : mtE (f + 1) sc (.dict dk ks vs) x = true) : ∃ xs ys p, x = .Dict xs ys p ∧ mtOpts (mtE f) sc ks xs = true ∧ mtEs (mtE f) sc vs ys = true ∧ ks.length ≤ 15 ∧ ks.length = vs.length :=
  have h := and4 (mt_bk hm).2
  ⟨_, _, _, (mt_bk hm).1, h.1, h.2.1, Nat.le_of_ble_eq_true h.2.2.1, Nat.eq_of_beq_eq_true h.2.2.2⟩
theorem ev_dict (EV : EvOK C n R) {dk : DK} {ks vs : List E} {x : Expr} {v : V} (hm : mtE (f + 1) sc (.dict dk ks vs) x = true)
    (h : evStep C.P R (.dict dk ks vs) lo H = some (v, H'))
    (r : Room n A) (S : St C ρ H s) (X : EnvOK C sc env ρ H s.heap lo) : Runs C A (eval x env) ρ H s v H' := by
  refine x3a5 (inv_dict hm) fun xs ys p hx m1 m2 m3 m4 => ?_
  (refine bpE h fun ab H1 h1 hh_ => ?_; clear h; revert hh_; intro h)
  (refine msE h fun o h2 hh_ => ?_; clear h; revert hh_; intro h)
  (refine pinjE h ?_; clear h)
  refine x0a2 (mtOpts_all m1) fun hall hlen => ?_
  refine .of hx fun E Q k => ?_
  induction ks using List.casesOn with
  | nil =>
    induction vs using List.casesOn with
    | cons _ _ => cases m4
    | nil =>
      cases mtOpts_nil m1
      cases mtEs_nil m2
      (obtain ⟨e1_, e2_⟩ := sinj h1; clear h1; subst e1_; subst e2_)
      refine wpAny_Dict_empty ?_
      obtain ⟨S', N, e⟩ := S.mk' (o := o) (p := (s.heap.objs.size, s.heap.objs.size)) (s' := { s with heap := s.heap.push { cls := .type "dict", data := .dict #[] } }) (get?_end _) (get?_end _) (fun a o e => Heap.get?_push_of_some _ e) ⟨⟨_, Heap.get?_push_size _ rfl⟩, _, Heap.get?_push_size _ rfl⟩ rfl rfl
        (fun L => by
          induction dk using Mini.DK.casesOn <;> cases h2
          · exact ⟨rfl, [], Heap.DictOf.new _, .nil⟩
          · exact ⟨rfl, [], Heap.DictOf.new _, .nil⟩
          · exact ⟨rfl, [], Heap.DictOfH.new _, .nil⟩)
      exact k _ _ _ S' N (.ref (p := (s.heap.objs.size, s.heap.objs.size)) e)
  | cons k1 ks =>
    have hne : xs ≠ [] := by rintro rfl; exact ff m1
    have hl2 : xs.length = ys.length := by rw [hlen, m4, mtEs_length m2]
    obtain ⟨S0, N0⟩ := S.grow (s' := { s with heap := s.heap.push { cls := .type "dict", data := .dict #[] } }) (fun a o e => Heap.get?_push_of_some _ e) rfl rfl
    have hsz : s.heap.objs.size < (s.heap.push { cls := .type "dict", data := .dict #[] }).objs.size := by simp
    have fin : ∀ {s₁ : Shared} {ρ₁ : Rh} {h' : Heap} {m : Nat}, St C ρ₁ H1 s₁ → Nx no ρ H { s with heap := s.heap.push { cls := .type "dict", data := .dict #[] } } ρ₁ H1 s₁ → Heap.SameBut s.heap.objs.size s₁.heap h' → (∃ o, h'.get? s.heap.objs.size = some o) →
        (Lasts ρ₁ H1 s₁.heap (ρ₁ ++ [(s.heap.objs.size, s.heap.objs.size)]) (H1 ++ [o]) h' → ObjR C (ρ₁ ++ [(s.heap.objs.size, s.heap.objs.size)]) (H1 ++ [o]) h' (s.heap.objs.size, s.heap.objs.size) o) →
        Q (.ref s.heap.objs.size) { s₁ with heap := h', toks := s₁.toks + m } := fun {s₁ ρ₁ h' m} S₁ N₁ hb h3 hR => by
      obtain ⟨S', N', e⟩ := St.late (s₃ := { s₁ with heap := h', toks := s₁.toks + m }) S S0 rfl N₁ S₁ (fun _ _ z => by cases z) rfl h3 hb rfl rfl hR
      exact k _ _ _ S' N' (.ref (p := (s.heap.objs.size, s.heap.objs.size)) e)
    induction dk using DK.casesOn with
    | i =>
      (refine msE h2 fun is h3 hh_ => ?_; clear h2; revert hh_; intro h2)
      cases h2
      refine wpAny_Dict_walk (knd := intKind C.prog C.w) hall hl2 hne (by rw [hlen]; exact m3) ?_
      refine pairs_ok EV m4 m1 m2 h1 r S0 (X.next S N0) fun p q s₁ ρ₁ S₁ N₁ rp rq hl => ⟨is.zip q, carriesI rp h3 hl, ?_, fun h' D hb => ?_⟩
      · obtain ⟨o', es, ep, ho, r⟩ := Heap.DictOf.new (knd := intKind C.prog C.w) s.heap
        exact ⟨o', es, ep, N₁.keep _ _ ho S.fresh id, r⟩
      · exact fin S₁ N₁ hb (x3a2 D fun o _ _ e _ => ⟨o, e⟩) fun L => ⟨rfl, _, D, PR.mergeI (rq.lasts L) _ .nil List.nodup_nil⟩
    | s =>
      (refine msE h2 fun is h3 hh_ => ?_; clear h2; revert hh_; intro h2)
      cases h2
      refine wpAny_Dict_walk (knd := PySem.strKind C.prog C.w) hall hl2 hne (by rw [hlen]; exact m3) ?_
      refine pairs_ok EV m4 m1 m2 h1 r S0 (X.next S N0) fun p q s₁ ρ₁ S₁ N₁ rp rq hl => ⟨(is.map nm).zip q, carriesS rp h3 hl, ?_, fun h' D hb => ?_⟩
      · obtain ⟨o', es, ep, ho, r⟩ := Heap.DictOf.new (knd := PySem.strKind C.prog C.w) s.heap
        exact ⟨o', es, ep, N₁.keep _ _ ho S.fresh id, r⟩
      · exact fin S₁ N₁ hb (x3a2 D fun o _ _ e _ => ⟨o, e⟩) fun L => ⟨rfl, _, D, PR.mergeS (rq.lasts L) _ .nil List.nodup_nil⟩
    | t =>
      induction vs using List.casesOn with
      | nil => cases m4
      | cons w ws =>
        (refine bpE h1 fun kv H1 g1 hh_ => ?_; clear h1; revert hh_; intro h1)
        (refine bpE h1 fun vv H2 g2 hh_ => ?_; clear h1; revert hh_; intro h1)
        (refine bpE h1 fun as H3 g3 hh_ => ?_; clear h1; revert hh_; intro h1)
        (obtain ⟨e1_, e2_⟩ := sinj h1; clear h1; subst e1_; subst e2_)
        exact nn h2
end
end Mini
end
section
set_option autoImplicit false
namespace Mini
open PySem PySem.Calls PyProof.Rows
open PySem.W (Frag dictOf Looks findIn typeIn keepIn makesIn plainGet hasDictIn plainOver getL)

noncomputable def plainTest (x : Expr) : Bool := !(Nat.ble (pt x).k 4)
theorem isTrue_plain {x : Expr} {env : Env} {whole : Sem Value} (h : plainTest x = true) : isTrue x env whole = (do let v ← whole; standAt x.pos; holding [v] (truthy v)) := by
  cases x with
  | UnaryOp op y p => cases op <;> first | rfl | exact ff h
  | BoolOp op _ _ => cases op <;> exact ff h
  | IfExp _ _ _ _ => exact ff h
  | Compare _ _ _ _ => exact ff h
  | _ => rfl
noncomputable def testy (e : E) : Bool := Nat.ble (ek e) 4

section
variable {C : Cfg} {sc : Scope} {env : Env} {lo : Lo} {A : Around} {R : Sems} {n : Nat} {f : Nat} {ρ ρ' : Rh} {H H' : Hp} {s s' : Shared}

theorem mt_plain {e : E} {x : Expr} (hm : mtE f sc e x = true) (he : testy e = false) : plainTest x = true := by
  show (!(Nat.ble (pt x).k 4)) = true
  rw [mt_k hm]
  exact congrArg (! ·) he

theorem tr_of_ev {x : Expr} {b : Bool} (hp : plainTest x = true) (h : Runs C A (eval x env) ρ H s (.bool b) H') : RunsB C A (isTrue x env (eval x env)) ρ H s b H' := fun E Q k => by
  rw [isTrue_plain hp]
  refine wpAny_bind (h E _ fun y s₁ ρ₁ S₁ N₁ r₁ => ?_)
  refine VR.boolE r₁ ?_
  exact wpAny_bind (wpAny_standAt (wpAny_holding (wpAny_truthy_bool (k _ _ S₁ N₁))))

theorem RunsB.eq {t : Sem Bool} {H1 : Hp} {b c : Bool} (h : (V.bool c, H1) = (V.bool b, H')) (k : RunsB C A t ρ H s c H1) : RunsB C A t ρ H s b H' := by cases h; exact k
theorem RunsB.of {x x' : Expr} {b : Bool} (hx : x = x') (h : RunsB C A (isTrue x' env (eval x' env)) ρ H s b H') : RunsB C A (isTrue x env (eval x env)) ρ H s b H' := hx ▸ h
theorem tr_step {G : Glo} (K : CfgOK C G) (EV : EvOK C n R) (TR : TrOK C n R) {R' : Sems} (hR : R'.ev = evStep C.P R) (EV1 : EvOK C (n + 1) R') (hiv : ∀ {f : Nat} {sc : Scope} {env : Env} {a d : E} {x : Expr} {lo : Lo} {H : Hp} {b : Bool} {H' : Hp} {A : Around} {s : Shared} {ρ : Rh}, mtE (f + 1) sc (.inVals a d) x = true → evStep C.P R (.inVals a d) lo H = some (.bool b, H') → Room n A → St C ρ H s → EnvOK C sc env ρ H s.heap lo → RunsB C A (isTrue x env (eval x env)) ρ H s b H') : TrOK C (n + 1) R' := by
  intro f sc env e x lo H b H' hm h A s ρ r S X
  cases he : testy e with
  | false => exact tr_of_ev (mt_plain hm he) (EV1 f sc env e x lo H _ H' hm h A s ρ r S X)
  | true =>
    have r0 := r.dec
    rw [hR] at h
    induction f using Nat.casesAuxOn with
    | zero => exact mt0 hm
    | succ f =>
      cases e with
      | not a =>
        have hx := mt_bk hm
        refine bpE h fun w H1 h1 h2 => ?_
        refine msE h2 fun c hc h3 => ?_
        rw [bool?_some hc] at h1
        refine .of (x' := .UnaryOp .Not (pt x).a (pt x).p) hx.1 (.eq h3 fun E Q k => ?_)
        exact wpAny_isTrue_Not (TR f sc env a (pt x).a lo H c _ hx.2 h1 A s ρ r0 S X E _ k)
      | and l => exact .of (x' := .BoolOp .And (pt x).l (pt x).p) (mt_bk hm).1 fun E Q k => wpAny_isTrue_BoolOp (tr_all_and TR (mt_p hm) h r0 S X E Q k)
      | or l => exact .of (x' := .BoolOp .Or (pt x).l (pt x).p) (mt_bk hm).1 fun E Q k => wpAny_isTrue_BoolOp (tr_all_or TR (mt_p hm) h r0 S X E Q k)
      | ite c a d =>
        have hx := mt_bk hm
        have m := and3 hx.2
        refine bpE h fun u H1 h1 h2 => ?_
        refine bsE h2 fun t ht h3 => ?_
        rw [bool?_some ht] at h1
        refine .of (x' := .IfExp (pt x).a (pt x).b (pt x).c (pt x).p) hx.1 fun E Q k => ?_
        show wpAny (MM C) A (isTrue (pt x).a env (eval (pt x).a env) >>= _) Q E s
        refine wpAny_bind (TR f sc env c (pt x).a lo H t H1 m.1 h1 A s ρ r0 S X E _ fun s₁ ρ₁ S₁ N₁ => ?_)
        induction t using Bool.casesOn with
        | true => exact TR f sc env a (pt x).b lo H1 b H' m.2.1 h3 A s₁ ρ₁ r0 S₁ (X.next S N₁) E Q fun s₂ ρ₂ S₂ N₂ => k s₂ ρ₂ S₂ (N₁.trans N₂)
        | false => exact TR f sc env d (pt x).c lo H1 b H' m.2.2 h3 A s₁ ρ₁ r0 S₁ (X.next S N₁) E Q fun s₂ ρ₂ S₂ N₂ => k s₂ ρ₂ S₂ (N₁.trans N₂)
      | cmp a os l =>
        have hx := mt_bk hm
        refine x0a4 (and4 hx.2) fun m0 m3 m1 m2 => ?_
        have m3 : (pt x).os = os.map copOf := beq_iff_eq.mp m3
        (refine bpE h fun u H1 h1 hh_ => ?_; clear h; revert hh_; intro h)
        refine .of (x' := .Compare (pt x).a (os.map copOf) (pt x).l (pt x).p) (m3 ▸ hx.1) fun E Q k => ?_
        show wpAny (MM C) A (eval (pt x).a env >>= _) Q E s
        refine wpAny_bind (EV f sc env a (pt x).a lo H u H1 m0 h1 A s ρ r0 S X E _ fun x1 s₁ ρ₁ S₁ N₁ r₁ => ?_)
        rw [marked_plain m1]
        exact (ev_chain K EV (pt x).p (Nat.eq_of_beq_eq_true m2) m1 h r0 S₁ (X.next S N₁) r₁).2 b rfl E Q fun s₂ ρ₂ S₂ N₂ => k s₂ ρ₂ S₂ (N₁.trans N₂)
      | inVals a d => exact hiv hm h r0 S X
      | _ => exact ff he

theorem ev_cmp {G : Glo} (K : CfgOK C G) (EV : EvOK C n R) {a : E} {os : List Cop} {l : List E} {x : Expr} {v : V} (hm : mtE (f + 1) sc (.cmp a os l) x = true)
    (h : evStep C.P R (.cmp a os l) lo H = some (v, H'))
    (r : Room n A) (S : St C ρ H s) (X : EnvOK C sc env ρ H s.heap lo) : Runs C A (eval x env) ρ H s v H' := by
  have hx := mt_bk hm
  refine x0a4 (and4 hx.2) fun m0 m3 m1 m2 => ?_
  have m3 : (pt x).os = os.map copOf := beq_iff_eq.mp m3
  (refine bpE h fun u H1 h1 hh_ => ?_; clear h; revert hh_; intro h)
  refine .of (x' := .Compare (pt x).a (os.map copOf) (pt x).l (pt x).p) (m3 ▸ hx.1) fun E Q k => ?_
  show wpAny (MM C) A (eval (pt x).a env >>= _) Q E s
  refine wpAny_bind (EV f sc env a (pt x).a lo H u H1 m0 h1 A s ρ r S X E _ fun x1 s₁ ρ₁ S₁ N₁ r₁ => ?_)
  rw [marked_plain m1]
  exact (ev_chain K EV (pt x).p (Nat.eq_of_beq_eq_true m2) m1 h r S₁ (X.next S N₁) r₁).1 E Q fun x2 s₂ ρ₂ S₂ N₂ r₂ => k x2 s₂ ρ₂ S₂ (N₁.trans N₂) r₂
end
end Mini
end
section
set_option autoImplicit false
namespace Mini
open PySem PySem.Calls PyProof.Rows
open PySem.W (Frag dictOf Looks findIn typeIn keepIn makesIn plainGet hasDictIn plainOver getL)

section
variable {C : Cfg} {sc : Scope} {env : Env} {lo : Lo} {A : Around} {R : Sems} {n : Nat} {f : Nat} {ρ ρ' : Rh} {H H' : Hp} {s s' : Shared}

/-- who keeps the frame of a call is known -/
noncomputable def Keeps (C : Cfg) (fv : Value) : Prop := ∀ h, C.K.In h → ∃ k, (k = Keeper.frame ∨ k = Keeper.machine ∨ k = Keeper.boundFrame) ∧ Looks (MM C) h (keeperOf fv) k
theorem keeps_builtin (id : String) : Keeps C (.builtin id) := fun _ _ => ⟨_, .inr (.inl rfl), Looks.now⟩
theorem keeps_type (T : String) : Keeps C (.type T) := fun _ _ => ⟨_, .inr (.inl rfl), Looks.now⟩
theorem keeps_in {a : Addr} (h : keepIn C.K (.ref a) = true) : Keeps C (.ref a) := fun g X => W.keeps_K h g X

theorem trees_plain (xs : List Expr) : ((treesOf xs env).any (·.1) || ([] : List (Option Str × Sem Value)).any (·.1.isNone)) = false := by
  induction xs with
  | nil => rfl
  | cons x xs ih => simpa [treesOf] using ih

/-- a call whose arguments are worked out from left to right -/
theorem args_ok {G : Glo} (K : CfgOK C G) (EV : EvOK C n R) {pos : Pos} {fv : Value} {first : List Value} {es : List E} {xs : List Expr} {vs : List V} (hk : Keeps C fv) (hm : mtEs (mtE f) sc es xs = true) (h : evs R es lo H = some (vs, H'))
    (r : Room n A) (S : St C ρ H s) (X : EnvOK C sc env ρ H s.heap lo) {E : Value → Shared → Prop} {Q : Value → Shared → Prop}
    (k : ∀ ys s' ρ', St C ρ' H' s' → Nx no ρ H s ρ' H' s' → VRs ρ' H' s'.heap vs ys → wpAny (MM C) A (call fv (first ++ ys)) Q E s') :
    wpAny (MM C) A (callWith pos fv first (backTo pos (starEach xs env)) []) Q E s := by
  rw [starEach_plain hm, backTo_plain]
  refine W.callWith_of (P := C.K.In) (trees_plain xs) hk ?_
  induction xs using List.casesOn with
  | nil =>
    induction es using List.casesOn with
    | cons _ _ => simp [mtEs] at hm
    | nil =>
      simp only [evs, Option.some.injEq, Prod.mk.injEq] at h
      obtain ⟨rfl, rfl⟩ := h
      exact evalArgs_nil3 ⟨K.X.keeps S.base, k [] _ _ S (.refl _ _ _) .nil⟩
  | cons x xs =>
    refine evalArgs_plain ?_
    exact spliced_ok EV hm h r S X E _ fun ys s₁ ρ₁ S₁ N₁ r₁ => ⟨K.X.keeps S₁.base, k ys s₁ ρ₁ S₁ N₁ r₁⟩

/-! built-in functions -/
theorem ints_items {h : Heap} {l : List V} {xs : List Value} {is : List Int} (r : VRs ρ H h l xs) (e : allInts l = some is) : ∃ ps : List (Int × Tok), xs = ps.map (fun p => Value.int p.1 p.2) ∧ ps.map (·.1) = is := by
  refine VRs.ind (q := fun l xs => ∀ is, allInts l = some is → ∃ ps : List (Int × Tok), xs = ps.map (fun p => Value.int p.1 p.2) ∧ ps.map (·.1) = is) (fun is e => ⟨[], rfl, Option.some.inj e⟩) (fun {v x l xs} r _ ih is e => ?_) r is e
  refine bsE e fun i e0 e => ?_
  refine msE e fun js e1 e2 => ?_
  refine x1a2 (ih js e1) fun ps h1 h2 => ?_
  rw [int?_some e0] at r
  exact VR.intE r fun _ => ⟨(i, _) :: ps, congrArg (_ :: ·) h1, (congrArg (i :: ·) h2).trans e2⟩

theorem bMin_spec : ∀ {l : List Int} {m : Int}, bMin l = some m → m ∈ l ∧ ∀ a ∈ l, m ≤ a := by
  have key : ∀ (l : List Int) (a : Int), l.foldl (fun a b => if b < a then b else a) a ∈ a :: l ∧ ∀ x ∈ a :: l, l.foldl (fun a b => if b < a then b else a) a ≤ x := by
    intro l
    induction l with
    | nil => intro a; simp
    | cons b l ih =>
      intro a
      refine x0a2 (ih (if b < a then b else a)) fun h1 h2 => ?_
      simp only [List.foldl_cons]
      refine ⟨?_, fun x hx => ?_⟩
      · rcases List.mem_cons.mp h1 with e | e
        · rw [e]; split <;> simp
        · simp [e]
      · have h3 := h2 _ List.mem_cons_self
        rcases List.mem_cons.mp hx with rfl | hx
        · by_cases hb : b < x
          · rw [if_pos hb] at h3 ⊢; omega
          · rw [if_neg hb] at h3 ⊢; exact h3
        · rcases List.mem_cons.mp hx with rfl | hx
          · by_cases hb : x < a
            · rw [if_pos hb] at h3 ⊢; exact h3
            · rw [if_neg hb] at h3 ⊢; omega
          · exact h2 x (List.mem_cons_of_mem _ hx)
  intro l m e
  induction l using List.casesOn with
  | nil => exact nn e
  | cons a l => simp only [bMin, Option.some.injEq] at e; subst e; exact key l a
theorem bMax_spec : ∀ {l : List Int} {m : Int}, bMax l = some m → m ∈ l ∧ ∀ a ∈ l, a ≤ m := by
  have key : ∀ (l : List Int) (a : Int), l.foldl (fun a b => if a < b then b else a) a ∈ a :: l ∧ ∀ x ∈ a :: l, x ≤ l.foldl (fun a b => if a < b then b else a) a := by
    intro l
    induction l with
    | nil => intro a; simp
    | cons b l ih =>
      intro a
      refine x0a2 (ih (if a < b then b else a)) fun h1 h2 => ?_
      simp only [List.foldl_cons]
      refine ⟨?_, fun x hx => ?_⟩
      · rcases List.mem_cons.mp h1 with e | e
        · rw [e]; split <;> simp
        · simp [e]
      · have h3 := h2 _ List.mem_cons_self
        rcases List.mem_cons.mp hx with rfl | hx
        · by_cases hb : x < b
          · rw [if_pos hb] at h3 ⊢; omega
          · rw [if_neg hb] at h3 ⊢; exact h3
        · rcases List.mem_cons.mp hx with rfl | hx
          · by_cases hb : a < x
            · rw [if_pos hb] at h3 ⊢; exact h3
            · rw [if_neg hb] at h3 ⊢; omega
          · exact h2 x (List.mem_cons_of_mem _ hx)
  intro l m e
  induction l using List.casesOn with
  | nil => exact nn e
  | cons a l => simp only [bMax, Option.some.injEq] at e; subst e; exact key l a

/-- a tree that only makes new things and hands back a plain value -/
theorem Runs.kept {v : V} {t : Sem Value} (S : St C ρ H s) (h : ∀ E Q, (∀ x s', (∀ a o, s.heap.get? a = some o → s'.heap.get? a = some o) → s'.gens = s.gens → s'.os = s.os → (∀ ρ' H' h', VR ρ' H' h' v x) → Q x s') → wpAny (MM C) A t Q E s) : Runs C A t ρ H s v H := fun E Q k =>
  h E Q fun x s' hk e2 e3 r =>
    have G := S.grow (s' := s') hk e2 e3
    k x s' ρ G.1 G.2 (r _ _ _)

noncomputable def numV : V → Int
  | .int i => i
  | .bool b => if b then 1 else 0
  | _ => 0
theorem nums_items {h : Heap} {l : List V} {xs : List Value} {is : List Int} (r : VRs ρ H h l xs) (e : toInts l = some is) : is.length = xs.length ∧ ∀ (i : Nat) (v : Value), xs[i]? = some v → NumOf (is[i]?.getD 0) v := by
  refine VRs.ind (q := fun l xs => ∀ is, toInts l = some is → is.length = xs.length ∧ ∀ (i : Nat) (v : Value), xs[i]? = some v → NumOf (is[i]?.getD 0) v) (fun is e => by rw [← Option.some.inj e]; exact ⟨rfl, fun i v e => by exact nn e⟩) (fun {v x l xs} r _ ih is e => ?_) r is e
  refine bsE e fun i e0 e => ?_
  refine msE e fun js e1 e2 => ?_
  replace ih := ih js e1
  rw [← e2]
  refine ⟨congrArg (· + 1) ih.1, fun j w ev => ?_⟩
  induction j using Nat.casesAuxOn with
  | zero =>
    rw [← Option.some.inj ev]
    rcases num?_some e0 with e | ⟨b, e, e'⟩
    · rw [e] at r; exact VR.intE r fun _ => .inl ⟨_, rfl⟩
    · rw [e] at r; exact VR.boolE r (.inr ⟨b, rfl, e'⟩)
  | succ j => exact ih.2 j w ev
theorem preSum_list : ∀ (is : List Int) (n : Nat), preSum (fun i => is[i]?.getD 0) n = (is.take n).sum
  | is, 0 => by simp [preSum]
  | is, n + 1 => by
    rw [preSum, preSum_list is n]
    rcases Nat.lt_or_ge n is.length with h | h
    · rw [List.take_add_one, List.sum_append, List.getElem?_eq_getElem h]; simp
    · rw [List.take_of_length_le h, List.take_of_length_le (Nat.le_succ_of_le h), List.getElem?_eq_none h]; simp

theorem sub_int_tuple : isSubtype (.type "int") (.type "tuple") = pure false := by rw [isSubtype_type]; kernel_rfl
theorem sub_bool_tuple : isSubtype (.type "bool") (.type "tuple") = pure false := by rw [isSubtype_type]; kernel_rfl
theorem sub_str_tuple : isSubtype (.type "str") (.type "tuple") = pure false := by rw [isSubtype_type]; kernel_rfl
theorem sub_list_tuple : isSubtype (.type "list") (.type "tuple") = pure false := by rw [isSubtype_type]; kernel_rfl
theorem sub_none_tuple : isSubtype (.type "NoneType") (.type "tuple") = pure false := by rw [isSubtype_type]; kernel_rfl
theorem sub_tuple_tuple : isSubtype (.type "tuple") (.type "tuple") = pure true := by rw [isSubtype_type]; kernel_rfl
theorem sub_tuple_int : isSubtype (.type "tuple") (.type "int") = pure false := by rw [isSubtype_type]; kernel_rfl
theorem sub_list_int : isSubtype (.type "list") (.type "int") = pure false := by rw [isSubtype_type]; kernel_rfl
theorem sub_str_int : isSubtype (.type "str") (.type "int") = pure false := by rw [isSubtype_type]; kernel_rfl
theorem sub_none_int : isSubtype (.type "NoneType") (.type "int") = pure false := by rw [isSubtype_type]; kernel_rfl
theorem sub_int_int : isSubtype (.type "int") (.type "int") = pure true := by rw [isSubtype_type]; kernel_rfl
theorem sub_bool_int : isSubtype (.type "bool") (.type "int") = pure true := by rw [isSubtype_type]; kernel_rfl
theorem type_tuple : typeOf (.type "tuple") = pure (.type "type") := rfl
theorem type_int : typeOf (.type "int") = pure (.type "type") := rfl
end
end Mini
end
section
set_option autoImplicit false
namespace Mini
open PySem PySem.Calls PyProof.Rows
open PySem.W (Frag dictOf Looks findIn typeIn keepIn makesIn plainGet hasDictIn plainOver getL)

noncomputable def biVal : Bi → Value
  | .len => .builtin "len" | .sum => .builtin "sum" | .min => .builtin "min" | .max => .builtin "max" | .abs => .builtin "abs" | .int => .type "int" | .list => .type "list" | .tuple => .type "tuple" | .dict => .type "dict"
  | .isTuple => .builtin "isinstance" | .isInt => .builtin "isinstance"
theorem boot_bi : ∀ b : Bi, bootBuiltins (biName b) = some (biVal b) := by
  intro b; induction b using Mini.Bi.casesOn <;> decide +kernel
theorem bi_in (b : Bi) : biName b ∈ biNames := by induction b using Mini.Bi.casesOn <;> decide +kernel

section
variable {C : Cfg} {sc : Scope} {env : Env} {lo : Lo} {A : Around} {R : Sems} {n : Nat} {f : Nat} {ρ ρ' : Rh} {H H' : Hp} {s s' : Shared}

theorem keeps_bi (b : Bi) : Keeps C (biVal b) := by induction b using Mini.Bi.casesOn <;> first | exact keeps_builtin _ | exact keeps_type _

theorem VRs.one {h : Heap} {v : V} {xs : List Value} (r : VRs ρ H h [v] xs) : ∃ x, xs = [x] ∧ VR ρ H h v x := by
  cases r with | cons a b => cases b; exact ⟨_, rfl, a⟩
theorem VRs.two {h : Heap} {v w : V} {xs : List Value} (r : VRs ρ H h [v, w] xs) : ∃ x y, xs = [x, y] ∧ VR ρ H h v x ∧ VR ρ H h w y := by
  cases r with | cons a b => cases b with | cons c d => cases d; exact ⟨_, _, rfl, a, c⟩

theorem len_list_ok (S : St C ρ H s) {a : Addr} {items : Array Value} {l : List V} (t : s.heap.IsList a items) (r : VRs ρ H s.heap l items.toList) (hl : okLen l.length = true) : Runs C A (call (.builtin "len") [.ref a]) ρ H s (.int l.length) H := by
  have h1 := r.length
  simp only [Array.length_toList] at h1
  have h2 := okLen_le hl
  refine Runs.here S fun E Q k => Calls.call_len_list t (by (clear hl; omega)) ?_
  rw [← h1]; exact k _ _ (.int _ _) rfl rfl rfl

theorem minmax_list (S : St C ρ H s) {a : Addr} {items : Array Value} {l : List V} {is : List Int} {m : Int} (hh : A.handled = none) (t : s.heap.IsList a items) (r : VRs ρ H s.heap l items.toList) (hi : allInts l = some is) :
    (bMin is = some m → Runs C A (call (.builtin "min") [.ref a]) ρ H s (.int m) H) ∧ (bMax is = some m → Runs C A (call (.builtin "max") [.ref a]) ρ H s (.int m) H) := by
  obtain ⟨ps, e1, rfl⟩ := ints_items r hi
  have e2 : items = intItems ps.toArray := by
    apply Array.toList_inj.mp
    rw [e1]; simp [intItems]
  subst e2
  have at_ : ∀ i, i < ps.length → numAt ps.toArray i ∈ ps.map (·.1) := fun i hi => by
    simp only [numAt, List.getElem?_toArray]
    rw [List.getElem?_eq_getElem hi]
    exact List.mem_map.mpr ⟨ps[i], List.getElem_mem hi, rfl⟩
  have of_ : ∀ b ∈ ps.map (·.1), ∃ i, i < ps.length ∧ numAt ps.toArray i = b := fun b hb => by
    obtain ⟨p, hp, rfl⟩ := List.mem_map.mp hb
    obtain ⟨i, hi, rfl⟩ := List.getElem_of_mem hp
    exact ⟨i, hi, by simp [numAt, List.getElem?_eq_getElem hi]⟩
  refine ⟨fun hm => ?_, fun hm => ?_⟩
  · refine x0a2 (bMin_spec hm) fun h1 h2 => ?_
    refine x1a2 (of_ m h1) fun j hj ej => ?_
    have hsz : 0 < ps.toArray.size := by simp; (clear ej hm e1 hi hh; omega)
    refine x0a2 (argBest_lt (numAt ps.toArray) (ps.toArray.size - 1)) fun g1 g2 => ?_
    refine Runs.kept S fun E Q k => min_intList hh t hsz fun v h' tk hv hk => ?_
    obtain ⟨u, rfl⟩ := intItems_at hv
    have lt : argBest (fun i j => decide (numAt ps.toArray i < numAt ps.toArray j)) (ps.toArray.size - 1) < ps.length := by simp at hsz g1 ⊢; (clear hsz hv ej hm e1 hi hh; omega)
    have q1 := h2 _ (at_ _ lt)
    have q2 := g2 j (by simp; (clear q1 lt hv g1 hsz ej hm e1 hi hh; omega))
    have e : numAt ps.toArray (argBest (fun i j => decide (numAt ps.toArray i < numAt ps.toArray j)) (ps.toArray.size - 1)) = m := by (clear lt hv g1 hsz hj hm e1 hi hh; omega)
    exact k _ _ hk rfl rfl fun _ _ _ => by rw [e]; exact .int _ _
  · refine x0a2 (bMax_spec hm) fun h1 h2 => ?_
    refine x1a2 (of_ m h1) fun j hj ej => ?_
    have hsz : 0 < ps.toArray.size := by simp; (clear ej hm e1 hi hh; omega)
    refine x0a2 (argBest_gt (numAt ps.toArray) (ps.toArray.size - 1)) fun g1 g2 => ?_
    refine Runs.kept S fun E Q k => max_intList hh t hsz fun v h' tk hv hk => ?_
    obtain ⟨u, rfl⟩ := intItems_at hv
    have lt : argBest (fun i j => decide (numAt ps.toArray i > numAt ps.toArray j)) (ps.toArray.size - 1) < ps.length := by simp at hsz g1 ⊢; (clear hsz hv ej hm e1 hi hh; omega)
    have q1 := h2 _ (at_ _ lt)
    have q2 := g2 j (by simp; (clear q1 lt hv g1 hsz ej hm e1 hi hh; omega))
    have e : numAt ps.toArray (argBest (fun i j => decide (numAt ps.toArray i > numAt ps.toArray j)) (ps.toArray.size - 1)) = m := by (clear lt hv g1 hsz hj hm e1 hi hh; omega)
    exact k _ _ hk rfl rfl fun _ _ _ => by rw [e]; exact .int _ _

theorem sum_ok (S : St C ρ H s) {a : Addr} {items : Array Value} {l : List V} {is : List Int} (hh : A.handled = none) (t : s.heap.IsList a items) (r : VRs ρ H s.heap l items.toList) (hi : toInts l = some is) :
    Runs C A (call (.builtin "sum") [.ref a]) ρ H s (.int is.sum) H := by
  refine x0a2 (nums_items r hi) fun h1 h2 => ?_
  have hlt : a < s.heap.objs.size := by refine x1a2 t fun _ e _ => ?_; exact Heap.lt_size e
  intro E Q k
  refine call_sum_walkAnyB (wpAny_pyIter_list t ?_)
  refine ⟨_, _, _, _, _, _, _, fun i => is[i]?.getD 0, rfl, (Walks.list (A := A.in1) hh s.heap.objs.size a (Nat.ne_of_lt hlt) items).toS, ⟨⟨_, Heap.get?_push_size _ rfl, rfl, rfl⟩, t.push _⟩, fun b hb => ?_, fun i v hv => ?_, fun s' t' hm => ?_⟩
  · show b < (s.heap.push _).objs.size
    rw [Heap.size_push]
    rcases List.mem_cons.mp hb with rfl | hb
    · exact Nat.lt_succ_self _
    · rcases List.mem_cons.mp hb with rfl | hb
      · exact Nat.lt_succ_of_lt hlt
      · cases hb
  · exact h2 i v (by simpa using hv)
  · rw [preSum_list, List.take_of_length_le (by rw [h1]; simp)]
    refine x0a2 (S.grow (s' := s') (fun b o e => hm.heap b o (fun hb => by
      rcases List.mem_cons.mp hb with e1 | hb
      · exact absurd (e1 ▸ Heap.lt_size e) (Nat.lt_irrefl _)
      · cases hb) (Heap.get?_push_of_some _ e)) hm.gens hm.os) fun S' N => ?_
    exact k _ _ _ S' N (.int _ _)

theorem minArgs_some {vs : List V} {is : List Int} (h : minArgs vs = some is) : (∃ l, vs = [.lst l] ∧ allInts l = some is) ∨ ∃ a b, vs = [.int a, .int b] ∧ is = [a, b] := by
  induction vs using List.casesOn with
  | nil => exact nn h
  | cons v l => induction l using List.casesOn with
    | nil =>
      (refine bsE h fun l e hh_ => ?_; clear h; revert hh_; intro h)
      obtain rfl := lst?_some e
      exact .inl ⟨l, rfl, h⟩
    | cons w l => induction l using List.casesOn with
      | cons _ _ => exact nn h
      | nil =>
        (refine bsE h fun a ea hh_ => ?_; clear h; revert hh_; intro h)
        refine msE h fun r h e => ?_
        (refine bsE h fun b eb hh_ => ?_; clear h; revert hh_; intro h)
        obtain rfl := int?_some ea
        obtain rfl := int?_some eb
        cases h
        cases e
        exact .inr ⟨a, b, rfl, rfl⟩

theorem bi_len (S : St C ρ H s) {w : V} {x : Value} {m : Nat} (rx : VR ρ H s.heap w x) (hm : lenV H w = some m) (hl : okLen m = true) : Runs C A (call (.builtin "len") [x]) ρ H s (.int m) H := by
  cases hr : w.ref? with
  | some i =>
    rw [ref?_some hr] at rx hm
    refine bsE hm fun o hn ha => ?_
    refine msE ha fun l hl' hb => ?_
    rw [list?_some hl'] at hn
    obtain ⟨p, hp, e0, e, items, t, rr⟩ := S.ref_obj rx hn
    rw [e0, ← hb]
    exact len_list_ok S t.isList rr (hb ▸ hl)
  | none =>
    have h0 : (items w).map (·.length) = some m := by induction w using Mini.V.casesOn <;> first | exact hm | cases hr
    refine msE h0 fun l hi hb => ?_
    rw [← hb] at hl ⊢
    rcases items_some hi with e | e
    · rw [e] at rx
      refine VR.tupE rx fun {_ _} t rr => ?_
      have h1 := rr.length
      simp only [Array.length_toList] at h1
      have h2 := okLen_le hl
      refine Runs.here S fun E Q k => PyProof.Rows.len_tuple t (by clear e hi h0 hm hb; omega) ?_
      rw [← h1]; exact k _ _ (.int _ _) rfl rfl rfl
    · rw [e] at rx
      exact VR.lstE rx fun {_ _} t _ rr => len_list_ok S t rr hl
theorem bi_list (S : St C ρ H s) {l : List V} {x : Value} (rx : VR ρ H s.heap (.lst l) x) (hl : okLen l.length = true) : Runs C A (call (.type "list") [x]) ρ H s (.lst l) H := by
  refine VR.lstE rx fun {_ _} t nn rr => ?_
  have h1 := rr.length
  simp only [Array.length_toList] at h1
  have h2 := okLen_le hl
  refine t5 t fun o ho hc m hd => ?_
  intro E Q k
  refine call_list_seq (T := "list") _ (.inl rfl) ho hc hd (fun h' c' hk hg => ?_) (by rw [sizeLine_big]; (clear hd hc ho; omega))
  have G := S.grow (s' := { s with heap := h' }) hk rfl rfl
  exact k _ _ _ G.1 G.2 (.lst ⟨_, hg, rfl, _, rfl⟩ S.shy (rr.lasts (G.2.lasts S)))
theorem bi_tup (S : St C ρ H s) {l : List V} {x : Value} (rx : VR ρ H s.heap (.lst l) x) (hl : okLen l.length = true) : Runs C A (call (.type "tuple") [x]) ρ H s (.tup l) H := by
  refine VR.lstE rx fun {_ _} t nn rr => ?_
  have h1 := rr.length
  simp only [Array.length_toList] at h1
  have h2 := okLen_le hl
  intro E Q k
  refine call_tuple_list t (fun h' hk => ?_) (by rw [sizeLine_big]; omega)
  have G := S.grow (s' := { s with heap := h' }) hk rfl rfl
  have G2 := push_tup G.1 (rr.lasts (G.2.lasts S)) (tk := s.toks)
  exact k _ _ _ G2.1 (G.2.trans G2.2.1) G2.2.2
theorem bi_min (S : St C ρ H s) (hh : A.handled = none) {vs : List V} {ys : List Value} {is : List Int} {m : Int} (r : VRs ρ H s.heap vs ys) (hi : minArgs vs = some is) (hm : bMin is = some m) : Runs C A (call (.builtin "min") ys) ρ H s (.int m) H := by
  rcases minArgs_some hi with ⟨l, e, hi⟩ | ⟨a, b, e, e2⟩
  · rw [e] at r
    refine x1a2 r.one fun x e3 rx => ?_
    rw [e3]
    exact VR.lstE rx fun {_ _} t _ rr => (minmax_list S hh t rr hi).1 hm
  · rw [e] at r
    refine x2a3 r.two fun x y e3 rx ry => ?_
    rw [e3]
    rw [e2] at hm
    refine VR.intE rx fun _ => VR.intE ry fun _ => Runs.kept S fun E Q k => min_two_ints hh fun h' tk hk => k _ _ hk rfl rfl fun _ _ _ => ?_
    rw [← Option.some.inj hm]
    simp only [List.foldl]
    split <;> exact .int _ _
theorem bi_max (S : St C ρ H s) (hh : A.handled = none) {vs : List V} {ys : List Value} {is : List Int} {m : Int} (r : VRs ρ H s.heap vs ys) (hi : minArgs vs = some is) (hm : bMax is = some m) : Runs C A (call (.builtin "max") ys) ρ H s (.int m) H := by
  rcases minArgs_some hi with ⟨l, e, hi⟩ | ⟨a, b, e, e2⟩
  · rw [e] at r
    refine x1a2 r.one fun x e3 rx => ?_
    rw [e3]
    exact VR.lstE rx fun {_ _} t _ rr => (minmax_list S hh t rr hi).2 hm
  · rw [e] at r
    refine x2a3 r.two fun x y e3 rx ry => ?_
    rw [e3]
    rw [e2] at hm
    refine VR.intE rx fun _ => VR.intE ry fun _ => Runs.kept S fun E Q k => max_two_ints hh fun h' tk hk => k _ _ hk rfl rfl fun _ _ _ => ?_
    rw [← Option.some.inj hm]
    show VR _ _ _ (.int (if a < b then b else a)) (if b > a then _ else _)
    by_cases q : a < b
    · rw [if_pos q, if_pos (show b > a from q)]; exact .int _ _
    · rw [if_neg q, if_neg (show ¬ b > a from q)]; exact .int _ _
theorem callBi_ok {b : Bi} {vs : List V} {ys : List Value} {v : V} (S : St C ρ H s) (hh : A.handled = none) (r : VRs ρ H s.heap vs ys) (h : callBi b vs H = some (v, H')) (hb : b ≠ .isTuple ∧ b ≠ .isInt ∧ b ≠ .dict) :
    Runs C A (call (biVal b) ys) ρ H s v H' := by
  have one : ∀ {w : V}, one? vs = some w → ∃ x, ys = [x] ∧ VR ρ H s.heap w x := fun hw => (show VRs ρ H s.heap [_] ys from one?_some hw ▸ r).one
  cases b with
  | isTuple => exact absurd rfl hb.1
  | isInt => exact absurd rfl hb.2.1
  | dict => exact absurd rfl hb.2.2
  | len =>
    refine bsE h fun w hw ha => ?_
    refine x1a2 (one hw) fun x e rx => ?_
    refine bsE ha fun m hm hc => ?_
    refine itE hc fun hl hd => ?_
    rw [e]
    exact .eqs hd (bi_len S rx hm hl)
  | sum =>
    refine bsE h fun w hw ha => ?_
    refine x1a2 (one hw) fun x e rx => ?_
    refine bsE ha fun l hl hc => ?_
    refine bsE hc fun is hi hd => ?_
    rw [e]
    rw [lst?_some hl] at rx
    exact .eqs (ite_some hd).2 (VR.lstE rx fun {_ _} t _ rr => sum_ok S hh t rr hi)
  | min =>
    refine bsE h fun is hi ha => ?_
    refine msE ha fun m hm hc => ?_
    exact .eq hc (bi_min S hh r hi hm)
  | max =>
    refine bsE h fun is hi ha => ?_
    refine msE ha fun m hm hc => ?_
    exact .eq hc (bi_max S hh r hi hm)
  | abs =>
    refine bsE h fun w hw ha => ?_
    refine x1a2 (one hw) fun x e rx => ?_
    refine msE ha fun a hi hc => ?_
    rw [e]
    rw [int?_some hi] at rx
    refine .eq hc (VR.intE rx fun _ => Runs.here S fun E Q k => PyProof.Rows.call_abs_int fun u tk => ?_)
    have e : (if a < 0 then -a else a) = (a.natAbs : Int) := by clear hc ha h; split <;> omega
    rw [e]; exact k _ _ (.int _ _) rfl rfl rfl
  | int =>
    refine bsE h fun w hw ha => ?_
    refine x1a2 (one hw) fun x e rx => ?_
    refine msE ha fun a hi hc => ?_
    rw [e]
    refine .eq hc ?_
    rcases num?_some hi with e | ⟨b, e, e2⟩
    · rw [e] at rx
      exact VR.intE rx fun _ => Runs.here S fun E Q k => call_int_int (k _ _ (.int _ _) rfl rfl rfl)
    · rw [e] at rx
      rw [e2]
      exact VR.boolE rx (Runs.here S fun E Q k => call_int_bool (k _ _ (.int _ _) rfl rfl rfl))
  | list =>
    refine bsE h fun w hw ha => ?_
    refine x1a2 (one hw) fun x e rx => ?_
    refine bsE ha fun l hl' hc => ?_
    refine itE hc fun hl hd => ?_
    rw [e]
    rw [lst?_some hl'] at rx
    exact .eqs hd (bi_list S rx hl)
  | tuple =>
    refine bsE h fun w hw ha => ?_
    refine x1a2 (one hw) fun x e rx => ?_
    refine bsE ha fun l hl' hc => ?_
    refine itE hc fun hl hd => ?_
    rw [e]
    refine .eqs hd ?_
    rcases items_some hl' with e | e
    · rw [e] at rx
      exact VR.tupE rx fun {_ _} t rr => Runs.here S fun E Q k => call_tuple_same t (k _ _ (.tup t rr) rfl rfl rfl)
    · rw [e] at rx
      exact bi_tup S rx hl

/-- what isinstance says of a tuple, of an int -/
structure InstOK (C : Cfg) (A : Around) (ρ : Rh) (H : Hp) (s : Shared) (T : String) (x : Value) (b : Bool) : Prop where
  r : Runs C A (call (.builtin "isinstance") [x, .type T]) ρ H s (.bool b) H
theorem isT_ok {v : V} {x : Value} (S : St C ρ H s) (hr : v.ref? = Option.none) : VR ρ H s.heap v x → InstOK C A ρ H s "tuple" x v.tup?.isSome
  | .tup t rr => ⟨Runs.here S fun E Q k => call_isinstance (isinstance_true type_tuple sub_tuple_tuple) ⟨t.typeIs, k _ _ (.bool _) rfl rfl rfl⟩⟩
  | .int i t => ⟨Runs.here S fun E Q k => call_isinstance (isinstance_false_int (by decide) type_tuple sub_int_tuple) (k _ _ (.bool _) rfl rfl rfl)⟩
  | .bool i => ⟨Runs.here S fun E Q k => call_isinstance (isinstance_false_bool (by decide) type_tuple sub_bool_tuple) (k _ _ (.bool _) rfl rfl rfl)⟩
  | .str i t => ⟨Runs.here S fun E Q k => call_isinstance (isinstance_false_str (by decide) type_tuple sub_str_tuple) (k _ _ (.bool _) rfl rfl rfl)⟩
  | .none => ⟨Runs.here S fun E Q k => call_isinstance (isinstance_false_none (by decide) type_tuple sub_none_tuple) (k _ _ (.bool _) rfl rfl rfl)⟩
  | .lst t nn rr => ⟨Runs.here S fun E Q k => call_isinstance (isinstance_false_list (by decide) type_tuple sub_list_tuple) ⟨x1a3 t fun o a b _ => ⟨o, a, b⟩, k _ _ (.bool _) rfl rfl rfl⟩⟩
  | .ref _ => by cases hr
theorem isI_ok {v : V} {x : Value} (S : St C ρ H s) (hr : v.ref? = Option.none) : VR ρ H s.heap v x → InstOK C A ρ H s "int" x v.num?.isSome
  | .tup t rr => ⟨Runs.here S fun E Q k => call_isinstance (isinstance_false_tuple (by decide) type_int sub_tuple_int) ⟨x1a3 t fun o a b _ => ⟨o, a, b⟩, k _ _ (.bool _) rfl rfl rfl⟩⟩
  | .int i t => ⟨Runs.here S fun E Q k => call_isinstance (isinstance_true type_int sub_int_int) ⟨typeIs_int _ _ _, k _ _ (.bool _) rfl rfl rfl⟩⟩
  | .bool i => ⟨Runs.here S fun E Q k => call_isinstance (isinstance_true (Tx := "bool") type_int sub_bool_int) ⟨rfl, k _ _ (.bool _) rfl rfl rfl⟩⟩
  | .str i t => ⟨Runs.here S fun E Q k => call_isinstance (isinstance_false_str (by decide) type_int sub_str_int) (k _ _ (.bool _) rfl rfl rfl)⟩
  | .none => ⟨Runs.here S fun E Q k => call_isinstance (isinstance_false_none (by decide) type_int sub_none_int) (k _ _ (.bool _) rfl rfl rfl)⟩
  | .lst t nn rr => ⟨Runs.here S fun E Q k => call_isinstance (isinstance_false_list (by decide) type_int sub_list_int) ⟨x1a3 t fun o a b _ => ⟨o, a, b⟩, k _ _ (.bool _) rfl rfl rfl⟩⟩
  | .ref _ => by cases hr
end
end Mini
end
section
set_option autoImplicit false
namespace Mini
open PySem PySem.Calls PyProof.Rows
open PySem.W (Frag dictOf Looks findIn typeIn keepIn makesIn plainGet hasDictIn plainOver getL)

/-- an object of the machine's own, that no value shows and that is no list and no tuple -/
structure Loose (C : Cfg) (ρ : Rh) (h : Heap) (a : Addr) : Prop where
  here : ∃ o, h.get? a = some o ∧ ∀ xs n, o.data ≠ .seq xs n
  new : C.base.get? a = none
  apart : ∀ (i : Nat) (p : Addr × Addr), ρ[i]? = some p → p.1 ≠ a ∧ p.2 ≠ a
  z : a ∉ ρ.z

section
variable {C : Cfg} {sc : Scope} {env : Env} {lo : Lo} {A : Around} {R : Sems} {n : Nat} {f : Nat} {ρ ρ' : Rh} {H H' : Hp} {s s' : Shared} {W : Addr → Prop} {a : Addr}

theorem Loose.own (L : Loose C ρ s.heap a) : ¬ Own ρ H a := by
  rintro ⟨i, p, o, hp, _, _, e⟩
  refine x0a2 (L.apart i p hp) fun n1 n2 => ?_
  rcases e with e | e
  · exact n1 e.symm
  · exact n2 e.symm
theorem Loose.next (L : Loose C ρ s.heap a) (N : Nx W ρ H s ρ' H' s') (w : ¬ W a) : Loose C ρ' s'.heap a := by
  refine x1a2 L.here fun o ho hd => ?_
  refine ⟨⟨o, N.keep a o ho L.own w, hd⟩, L.new, fun i p hp => ?_, by rw [N.z]; exact L.z⟩
  rcases N.news i p hp with e | ⟨e1, e2⟩
  · exact L.apart i p e
  · exact ⟨fun q => (by rw [q, ho] at e1; cases e1), fun q => (by rw [q, ho] at e2; cases e2)⟩
theorem Loose.made (S : St C ρ H s) {o : Obj} (ho : s'.heap.get? a = some o) (hd : ∀ xs n, o.data ≠ .seq xs n) (h0 : s.heap.get? a = none) : Loose C ρ s'.heap a := by
  refine ⟨⟨o, ho, hd⟩, ?_, fun i p hp => ?_, fun m => ?_⟩
  · cases e : C.base.get? a with
    | none => rfl
    | some x => rw [S.base _ _ e] at h0; cases h0
  · obtain ⟨⟨x, hx⟩, y, hy⟩ := S.here i p hp
    exact ⟨fun q => (by rw [q, h0] at hx; exact nn hx), fun q => (by rw [q, h0] at hy; exact nn hy)⟩
  · obtain ⟨⟨x, hx⟩, _⟩ := S.hid _ m
    rw [h0] at hx; exact nn hx

/-- a loose object turns, or goes -/
theorem St.turnL (S : St C ρ H s) (L : Loose C ρ s.heap a) (hk : ∀ b o, b ≠ a → s.heap.get? b = some o → s'.heap.get? b = some o) (hg : s'.gens = s.gens) (hos : s'.os = s.os) :
    St C ρ H s' ∧ Lasts ρ H s.heap ρ H s'.heap := by
  refine x1a2 L.here fun o ho hd => ?_
  have La : Lasts ρ H s.heap ρ H s'.heap := by
    refine ⟨List.prefix_refl _, fun b items t => ?_, fun b items t m => ⟨?_, m⟩⟩
    · refine t5 t fun x hx hc k hd' => ?_
      refine ⟨x, hk b x (fun e => ?_) hx, hc, k, hd'⟩
      rw [e, ho] at hx; cases hx; exact hd _ _ hd'
    · refine t5 t fun x hx hc k hd' => ?_
      refine ⟨x, hk b x (fun e => ?_) hx, hc, k, hd'⟩
      rw [e, ho] at hx; cases hx; exact hd _ _ hd'
  refine ⟨⟨fun b x e => hk b x (fun q => by rw [q, L.new] at e; exact nn e) (S.base b x e), hg.trans S.gens, hos.trans S.os, S.len, fun i x p h1 h2 => ?_, S.apart, S.new, fun b hb => ?_, S.zap, fun i p hp => ?_⟩, La⟩
  · refine x0a2 (L.apart i p h2) fun n1 n2 => ?_
    exact (S.objs i x p h1 h2).lasts La (fun y e => hk _ y n1 e) (fun y e => hk _ y n2 e)
  · obtain ⟨⟨x, hx⟩, nb⟩ := S.hid b hb
    exact ⟨⟨x, hk b x (fun e => L.z (e ▸ hb)) hx⟩, nb⟩
  · obtain ⟨⟨x, hx⟩, y, hy⟩ := S.here i p hp
    refine x0a2 (L.apart i p hp) fun n1 n2 => ?_
    exact ⟨⟨x, hk _ x n1 hx⟩, y, hk _ y n2 hy⟩
theorem nx_turnL (L : Loose C ρ s.heap a) (hk : ∀ b o, b ≠ a → s.heap.get? b = some o → s'.heap.get? b = some o) (hp : ∃ o, s'.heap.get? a = some o) : Nx (· = a) ρ H s ρ H s' := by
  refine x1a2 L.here fun o ho hd => ?_
  refine ⟨List.prefix_refl _, rfl, fun b x e _ w => hk b x w e, fun _ m => .inl m, fun b x e => ?_, fun b x w e => .inl ?_, fun _ _ e => .inl e⟩
  · by_cases q : b = a
    · exact q ▸ hp
    · exact ⟨x, hk b x q e⟩
  · intro xs m hx
    have w : b = a := w
    rw [w, ho] at e; cases e; exact hd _ _ hx

/-! what is walked over -/
inductive ItR (ρ : Rh) (H : Hp) (h : Heap) (I : Addr) : List V → Prop
  | list {l : Addr} {items : Array Value} {i : Nat} {vs : List V} : h.IsListIter I l i → h.IsList l items → ¬ Shy ρ H l → VRs ρ H h vs (items.toList.drop i) → ItR ρ H h I vs
  | tup {l : Addr} {items : Array Value} {i : Nat} {vs : List V} : h.IsTupleIter I l i → h.IsTuple l items → VRs ρ H h vs (items.toList.drop i) → ItR ρ H h I vs
  | range {x : Int} {k : Nat} : IsRangeIter h I x (k : Int) 1 → ItR ρ H h I ((List.range k).map fun (j : Nat) => V.int (x + (j : Int)))

theorem ItR.keep {h h' : Heap} {I : Addr} {vs : List V} (x : ItR ρ H h I vs) (L : Lasts ρ H h ρ' H' h') (k : ∀ o, h.get? I = some o → h'.get? I = some o) : ItR ρ' H' h' I vs := by
  induction x using Mini.ItR.casesOn with
  | list a b c d =>
    refine x1a2 a fun o ho r => ?_
    exact .list ⟨o, k o ho, r⟩ (L.lst _ _ b c).1 (L.lst _ _ b c).2 (d.lasts L)
  | tup a b d =>
    refine x1a2 a fun o ho r => ?_
    exact .tup ⟨o, k o ho, r⟩ (L.tup _ _ b) (d.lasts L)
  | range a => exact .range (k _ a)

theorem VRs.dropCons {h : Heap} {v : V} {vs : List V} {xs : List Value} {i : Nat} (r : VRs ρ H h (v :: vs) (xs.drop i)) : ∃ x, xs[i]? = some x ∧ VR ρ H h v x ∧ VRs ρ H h vs (xs.drop (i + 1)) := by
  generalize hd : xs.drop i = ys at r
  cases r with
  | @cons _ x _ ys' a b =>
    have h1 : xs[i]? = some x := by
      have : (xs.drop i)[0]? = some x := by rw [hd]; rfl
      simpa using this
    have h2 : xs.drop (i + 1) = ys' := by
      rw [← List.drop_drop, hd]; rfl
    exact ⟨x, h1, a, h2 ▸ b⟩
theorem VRs.dropNil {h : Heap} {xs : List Value} {i : Nat} (r : VRs ρ H h [] (xs.drop i)) : xs[i]? = none := by
  generalize hd : xs.drop i = ys at r
  cases r
  rw [List.drop_eq_nil_iff] at hd
  exact List.getElem?_eq_none hd

theorem ItR.step {I : Addr} {v : V} {vs : List V} (x : ItR ρ H s.heap I (v :: vs)) (S : St C ρ H s) (L : Loose C ρ s.heap I) {E : Value → Shared → Prop} {Q : Option Value → Shared → Prop}
    (k : ∀ y s', St C ρ H s' → Nx (· = I) ρ H s ρ H s' → (∀ q o, q ≠ I → s.heap.get? q = some o → s'.heap.get? q = some o) → ItR ρ H s'.heap I vs → Loose C ρ s'.heap I → VR ρ H s'.heap v y → Q (some y) s') : wpAny (MM C) A (pyNext (.ref I)) Q E s := by
  have L0 := L
  refine x1a2 L.here fun o ho hd => ?_
  have loose : ∀ {h' : Heap} {o' : Obj}, h'.get? I = some o' → (∀ xs n, o'.data ≠ .seq xs n) → Loose C ρ h' I := fun e d => ⟨⟨_, e, d⟩, L.new, L.apart, L.z⟩
  generalize hw : v :: vs = ws at x
  induction x using Mini.ItR.casesOn with
  | @list l items i _ a b c d =>
    subst hw
    refine x1a3 d.dropCons fun y hy r1 r2 => ?_
    refine wpAny_pyNext_list_item a b (by simpa using hy) fun h' hit hs => ?_
    have hne : l ≠ I := fun e => by
      refine x1a3 a fun o1 h1 c1 _ => ?_
      refine x1a3 b fun o2 h2 c2 _ => ?_
      rw [e, h1] at h2; cases h2; rw [c1] at c2; exact absurd c2 (by decide)
    have hk : ∀ q o, q ≠ I → s.heap.get? q = some o → h'.get? q = some o := fun q o e g => (hs.2 q e).trans g
    refine x1a3 (id hit) fun o' ho' hc' hd' => ?_
    refine x0a2 (S.turnL (s' := { s with heap := h' }) L hk rfl rfl) fun S' La => ?_
    exact k y _ S' (nx_turnL L hk ⟨o', ho'⟩) hk (.list hit (La.lst _ _ b c).1 c (r2.lasts La)) (loose ho' (by rw [hd']; intro _ _ z; cases z)) (r1.lasts La)
  | @tup l items i _ a b d =>
    subst hw
    refine x1a3 d.dropCons fun y hy r1 r2 => ?_
    refine wpAny_pyNext_tuple_item a b (by simpa using hy) fun h' hit hs => ?_
    have hk : ∀ q o, q ≠ I → s.heap.get? q = some o → h'.get? q = some o := fun q o e g => (hs.2 q e).trans g
    refine x1a3 (id hit) fun o' ho' hc' hd' => ?_
    refine x0a2 (S.turnL (s' := { s with heap := h' }) L hk rfl rfl) fun S' La => ?_
    exact k y _ S' (nx_turnL L hk ⟨o', ho'⟩) hk (.tup hit (La.tup _ _ b) (r2.lasts La)) (loose ho' (by rw [hd']; intro _ _ z; cases z)) (r1.lasts La)
  | @range x m a =>
    induction m using Nat.casesAuxOn with
    | zero => cases hw
    | succ m =>
      rw [List.range_succ_eq_map, List.map_cons, List.map_map] at hw
      simp only [List.cons.injEq] at hw
      obtain ⟨rfl, rfl⟩ := hw
      refine wpAny_pyNext_range_item a (by (clear ho; lia)) fun h' hit hs => ?_
      have hk : ∀ q o, q ≠ I → s.heap.get? q = some o → h'.get? q = some o := fun q o e g => (hs.2 q e).trans g
      refine x0a2 (S.turnL (s' := { s with heap := h', toks := s.toks + 1 }) L hk rfl rfl) fun S' La => ?_
      refine k _ _ S' (nx_turnL L hk ⟨_, hit⟩) hk ?_ (loose hit (by intro _ _ z; cases z)) ?_
      · have e : ((fun (j : Nat) => V.int (x + (j : Int))) ∘ Nat.succ) = fun (j : Nat) => V.int (x + 1 + (j : Int)) := by
          funext j; simp only [Function.comp]; congr 1; (clear ho; lia)
        rw [e]
        refine .range ?_
        have e2 : (((m + 1 : Nat) : Int) - 1) = (m : Int) := by (clear e ho; lia)
        rw [e2] at hit; exact hit
      · have e : x + ((0 : Nat) : Int) = x := by (clear ho; lia)
        rw [e]; exact .int _ _

theorem ItR.stop {I : Addr} (x : ItR ρ H s.heap I []) (S : St C ρ H s) (L : Loose C ρ s.heap I) (hh : A.handled = none) {E : Value → Shared → Prop} {Q : Option Value → Shared → Prop}
    (k : ∀ s', St C ρ H s' → Lasts ρ H s.heap ρ H s'.heap → (∀ q o, q ≠ I → s.heap.get? q = some o → s'.heap.get? q = some o) → Q none s') : wpAny (MM C) A (pyNext (.ref I)) Q E s := by
  have fin : ∀ h', Heap.ExtBut I s.heap h' → Q none { s with heap := h' } := fun h' hs => by
    have hk : ∀ q o, q ≠ I → s.heap.get? q = some o → h'.get? q = some o := fun q o e g => hs q o e g
    refine x0a2 (S.turnL (s' := { s with heap := h' }) L hk rfl rfl) fun S' La => ?_
    exact k _ S' La hk
  generalize hw : ([] : List V) = ws at x
  induction x using Mini.ItR.casesOn with
  | list a b c d =>
    subst hw
    exact wpAny_pyNext_list_end hh a b (by simpa using d.dropNil) fin
  | tup a b d =>
    subst hw
    exact wpAny_pyNext_tuple_end hh a b (by simpa using d.dropNil) fin
  | @range x m a =>
    induction m using Nat.casesAuxOn with
    | zero => exact wpAny_pyNext_range_end hh a (by (clear hw hh; lia)) fin
    | succ m => rw [List.range_succ_eq_map] at hw; cases hw

theorem ItR.again {I : Addr} {vs : List V} (x : ItR ρ H s.heap I vs) {E : Value → Shared → Prop} {Q : Value → Shared → Prop} (k : Q (.ref I) s) : wpAny (MM C) A (pyIter (.ref I)) Q E s := by
  induction x using Mini.ItR.casesOn with
  | list a b c d => exact wpAny_pyIter_listiter a k
  | tup a b d => exact wpAny_pyIter_tupleiter a k
  | range a => exact wpAny_pyIter_rangeiter a k

theorem ItR.letGo {I : Addr} {vs : List V} (x : ItR ρ H s.heap I vs) {t : Expr} {v : Value} {E : Value → Shared → Prop} {Q : Unit → Shared → Prop} (k : Q () s) : wpAny (MM C) A (letOwnedTupleGo t (.ref I) v) Q E s := by
  have key : ∃ (o : Obj) (nn : String) (vs : Array Value), s.heap.get? I = some o ∧ o.cls = .type nn ∧ o.data = .fields vs ∧ (["enumerate", "zip", "dict_itemiterator", "dict_reverseitemiterator", "odict_iterator", "itertools.zip_longest", "itertools.pairwise"].contains nn) = false := by
    induction x using Mini.ItR.casesOn with
    | list a b c d =>
      refine x1a3 a fun o ho hc hd => ?_
      exact ⟨o, _, _, ho, hc, hd, by decide⟩
    | tup a b d =>
      refine x1a3 a fun o ho hc hd => ?_
      exact ⟨o, _, _, ho, hc, hd, by decide⟩
    | range a => exact ⟨_, _, _, a, rfl, rfl, by decide⟩
  refine x3a4 key fun o nn fs ho hc hd hn => ?_
  have body : ∀ y : Addr, wpAny (MM C) A (do
      let o ← load I
      match o.cls, o.data with
      | .type n, .fields vs =>
        if ["enumerate", "zip", "dict_itemiterator", "dict_reverseitemiterator", "odict_iterator", "itertools.zip_longest", "itertools.pairwise"].contains n && vs[0]? == some (rawInt y) then
          rule "for.unpacks-the-owned-tuple"
          updateField I 0 .none
      | _, _ => pure ()) Q E s := fun y => by
    refine wpAny_bind (wpAny_load ho ?_)
    rw [hc, hd]
    show wpAny _ _ (if _ = true then _ else _) _ _ _
    rw [hn, Bool.false_and, if_neg Bool.false_ne_true]
    exact wpAny_pure k
  unfold letOwnedTupleGo
  induction t using PySem.Expr.casesOn <;> first | exact wpAny_pure k | (induction v using PySem.Value.casesOn <;> first | exact wpAny_pure k | exact body _)
end
end Mini
end
section
set_option autoImplicit false
namespace Mini
open PySem PySem.Calls PyProof.Rows
open PySem.W (Frag dictOf Looks findIn typeIn keepIn makesIn plainGet hasDictIn plainOver getL)

theorem boot_range : bootBuiltins "range" = some (.type "range") := by decide +kernel

section
variable {C : Cfg} {sc : Scope} {env : Env} {lo : Lo} {A : Around} {R : Sems} {n : Nat} {f : Nat} {ρ ρ' : Rh} {H H' : Hp} {s s' : Shared} {W : Addr → Prop} {a : Addr}

theorem Nx.absent (N : Nx no ρ H s ρ' H' s') {x : Addr} (e : s'.heap.get? x = none) : s.heap.get? x = none := N.none_of e

theorem iter_vals (S : St C ρ H s) {v : V} {vs : List V} {xv : Value} (r : VR ρ H s.heap v xv) (h : items v = some vs) {E : Value → Shared → Prop} {Q : Value → Shared → Prop}
    (k : ∀ I s', St C ρ H s' → Nx no ρ H s ρ H s' → ItR ρ H s'.heap I vs → Loose C ρ s'.heap I → s.heap.get? I = none → Q (.ref I) s') : wpAny (MM C) A (pyIter xv) Q E s := by
  rcases items_some h with rfl | rfl
  · cases h
    refine VR.tupE r fun {_ _} t rr => ?_
    ·
      refine wpAny_pyIter_tuple t ?_
      obtain ⟨S', N⟩ := S.grow (s' := { s with heap := s.heap.push { cls := .type "tuple_iterator", data := .fields #[.ref _, .int 0 0] } }) (fun a o e => Heap.get?_push_of_some _ e) rfl rfl
      have La := N.lasts S
      exact k _ _ S' N (.tup ⟨_, Heap.get?_push_size _ rfl, rfl, rfl⟩ (La.tup _ _ t) (by simpa using rr.lasts La)) (Loose.made S (Heap.get?_push_size _ rfl) (by intro _ _ z; cases z) (get?_end _)) (get?_end _)
  · cases h
    refine VR.lstE r fun {_ _} t nn rr => ?_
    ·
      refine wpAny_pyIter_list t ?_
      obtain ⟨S', N⟩ := S.grow (s' := { s with heap := s.heap.push { cls := .type "list_iterator", data := .fields #[.ref _, .int 0 0] } }) (fun a o e => Heap.get?_push_of_some _ e) rfl rfl
      have La := N.lasts S
      exact k _ _ S' N (.list ⟨_, Heap.get?_push_size _ rfl, rfl, rfl⟩ (La.lst _ _ t nn).1 nn (by simpa using rr.lasts La)) (Loose.made S (Heap.get?_push_size _ rfl) (by intro _ _ z; cases z) (get?_end _)) (get?_end _)

theorem iter_range (S : St C ρ H s) {r : Addr} {a b : Int} {t u w : Tok} (hr : IsRange s.heap r a b 1 t u w) (ha : okInt a = true) (hb : okInt b = true) {E : Value → Shared → Prop} {Q : Value → Shared → Prop}
    (k : ∀ I s', St C ρ H s' → Nx no ρ H s ρ H s' → ItR ρ H s'.heap I ((List.range (b - a).toNat).map fun (j : Nat) => V.int (a + (j : Int))) → Loose C ρ s'.heap I → s.heap.get? I = none → Q (.ref I) s') : wpAny (MM C) A (pyIter (.ref r)) Q E s := by
  have ha := okInt_lt ha
  have hb := okInt_lt hb
  refine wpAny_pyIter_range hr (small_one (by lia) (by lia) (by lia) (by lia)) ?_
  refine x0a2 (S.grow (s' := { s with heap := s.heap.push { cls := .type "range_iterator", data := .fields #[rawInt a, rawInt (Builtin.Range.rangeSize a b 1), rawInt 1] } }) (fun a o e => Heap.get?_push_of_some _ e) rfl rfl) fun S' N => ?_
  refine k _ _ S' N (.range ?_) (Loose.made S (Heap.get?_push_size _ rfl) (by intro _ _ z; cases z) (get?_end _)) (get?_end _)
  have e : (((b - a).toNat : Nat) : Int) = Builtin.Range.rangeSize a b 1 := by rw [rangeSize_one]; split <;> lia
  rw [e]
  exact Heap.get?_push_size _ rfl

theorem it_ok {G : Glo} (K : CfgOK C G) (EV : EvOK C n R) {e : E} {x : Expr} {vs : List V} (hm : mtIt (mtE f) sc e x = true) (h : evIt R e lo H = some (vs, H'))
    (r : Room n A) (S : St C ρ H s) (X : EnvOK C sc env ρ H s.heap lo) {E : Value → Shared → Prop} {Q : Value → Shared → Prop}
    (k : ∀ I s' ρ', St C ρ' H' s' → Nx no ρ H s ρ' H' s' → ItR ρ' H' s'.heap I vs → Loose C ρ' s'.heap I → s.heap.get? I = none → Q (.ref I) s') :
    wpAny (MM C) A (eval x env) (fun xv s₁ => wpAny (MM C) A (pyIter xv) Q E s₁) E s := by
  unfold mtIt at hm
  unfold evIt at h
  cases hp : e.range? with
  | none =>
    rw [hp] at hm h
    (refine bpE h fun v H1 h1 hh_ => ?_; clear h; revert hh_; intro h)
    (refine msE h fun l h2 hh_ => ?_; clear h; revert hh_; intro h)
    (revert k; apply pinjE h; clear h; intro k)
    refine EV f sc env e x lo H v _ hm h1 A s ρ r S X E _ fun y s₁ ρ₁ S₁ N₁ r₁ => ?_
    exact iter_vals S₁ r₁ h2 fun I s₂ S₂ N₂ it L ab => k I s₂ ρ₁ S₂ (N₁.trans N₂) it L (N₁.none_of ab)
  | some l =>
    rw [hp] at hm h
    have hx := bk_of (and_l hm)
    have hm' := and2 (and_r hm)
    refine x1a3 (isGlob_of hm'.1) fun pp hy hl hd => ?_
    rw [hx, show bk 11 (pt x) = .Call (pt x).a (pt x).l [] (pt x).p from rfl, hy]
    (refine bpE h fun ws H1 h1 hh_ => ?_; clear h; revert hh_; intro h)
    (refine bsE h fun is hi hh_ => ?_; clear h; revert hh_; intro h)
    (refine msE h fun l h2 hh_ => ?_; clear h; revert hh_; intro h)
    (revert k; apply pinjE h; clear h; intro k)
    refine Call_Name rfl ?_
    refine wpAny_Name (loadBlt_ok K X S hl (by decide +kernel) boot_range ?_) hd
    refine args_ok K EV (keeps_type _) hm'.2 h1 r S X fun ys s₁ ρ₁ S₁ N₁ r₁ => ?_
    refine x1a2 (ints_items r₁ hi) fun ps e1 e2 => ?_
    induction ps using List.casesOn with
    | nil => cases e2; exact nn h2
    | cons u ps => induction ps using List.casesOn with
      | nil =>
        cases e1; cases e2
        (refine itE h2 fun hk hh_ => ?_; clear h2; revert hh_; intro h2)
        cases h2
        refine call_range_1 ?_
        have G := S₁.grow (s' := { s₁ with heap := s₁.heap.push { cls := .type "range", data := .fields #[.int 0 s₁.toks, .int u.1 u.2, .int 1 (s₁.toks + 1)] }, toks := s₁.toks + 1 + 1 }) (fun a o e => Heap.get?_push_of_some _ e) rfl rfl
        refine iter_range G.1 (IsRange.new _ _ _ _ _ _ _) (by decide) (and_r hk) fun I s₃ S₃ N₃ it L ab => ?_
        have e : ((List.range (u.1 - 0).toNat).map fun (j : Nat) => V.int (0 + (j : Int))) = (List.range u.1.toNat).map fun (i : Nat) => V.int (i : Int) := by simp
        rw [e] at it
        exact k I s₃ ρ₁ S₃ ((N₁.trans G.2).trans N₃) it L (N₁.none_of (G.2.none_of ab))
      | cons w ps => induction ps using List.casesOn with
        | cons _ _ => cases e2; exact nn h2
        | nil =>
          cases e1; cases e2
          (refine itE h2 fun hk hh_ => ?_; clear h2; revert hh_; intro h2)
          cases h2
          refine call_range_2 ?_
          have G := S₁.grow (s' := { s₁ with heap := s₁.heap.push { cls := .type "range", data := .fields #[.int u.1 u.2, .int w.1 w.2, .int 1 s₁.toks] }, toks := s₁.toks + 1 }) (fun a o e => Heap.get?_push_of_some _ e) rfl rfl
          refine iter_range G.1 (IsRange.new _ _ _ _ _ _ _) (and_r (and_l hk)) (and_r hk) fun I s₃ S₃ N₃ it L ab => ?_
          exact k I s₃ ρ₁ S₃ ((N₁.trans G.2).trans N₃) it L (N₁.none_of (G.2.none_of ab))
end
end Mini
end
section
set_option autoImplicit false
namespace Mini
open PySem PySem.Calls PyProof.Rows
open PySem.W (Frag dictOf Looks findIn typeIn keepIn makesIn plainGet hasDictIn plainOver getL)

section
variable {C : Cfg} {sc : Scope} {env : Env} {lo : Lo} {A : Around} {R : Sems} {n : Nat} {f : Nat} {ρ ρ' : Rh} {H H' : Hp} {s s' : Shared} {W : Addr → Prop} {a : Addr}

/-- what was turned on the way was not there before -/
theorem Nx.close {s₀ s₁ s₂ : Shared} {ρ₀ ρ₁ : Rh} {H₀ H₁ : Hp} (N : Nx no ρ H s ρ₀ H₀ s₀) (N1 : Nx W ρ₀ H₀ s₀ ρ₁ H₁ s₁) (hw : ∀ q, W q → s.heap.get? q = none) (hk : ∀ q o, ¬ W q → s₁.heap.get? q = some o → s₂.heap.get? q = some o) : Nx no ρ H s ρ₁ H₁ s₂ where
  ext := N.ext.trans N1.ext
  z := N1.z.trans N.z
  keep := fun q o e nn _ => by
    have e0 := N.keep q o e nn id
    have w : ¬ W q := fun w => by rw [hw q w] at e; cases e
    have n0 : ¬ Own ρ₀ H₀ q := fun m => (N.fresh q m).elim nn fun z => by rw [e] at z; cases z
    exact hk q o w (N1.keep q o e0 n0 w)
  fresh := fun q m => (N1.fresh q m).elim (N.fresh q) fun z => .inr (N.none_of z)
  pres := fun q o e => by
    refine x1a1 (N.pres q o e) fun o0 e0 => ?_
    refine x1a1 (N1.pres q o0 e0) fun o1 e1 => ?_
    exact ⟨o1, hk q o1 (fun w => by rw [hw q w] at e; exact nn e) e1⟩
  wdata := fun _ _ w => w.elim
  news := fun i q e => (N1.news i q e).elim (N.news i q) fun z => .inr ⟨N.none_of z.1, N.none_of z.2⟩

theorem Nx.mono {W' : Addr → Prop} (N : Nx W ρ H s ρ' H' s') (h : ∀ q, W q → W' q) (wd : ∀ a o, W' a → s.heap.get? a = some o → (∀ xs n, o.data ≠ .seq xs n) ∨ (a ∈ ρ.z ∧ o.cls ≠ .type "tuple")) : Nx W' ρ H s ρ' H' s' :=
  ⟨N.ext, N.z, fun q o e nn w => N.keep q o e nn fun x => w (h q x), N.fresh, N.pres, wd, N.news⟩

theorem draw_ok {vs : List V} {s : Shared} {I : Addr} (it : ItR ρ H s.heap I vs) (S : St C ρ H s) (L : Loose C ρ s.heap I) {E : Value → Shared → Prop} {Q : List Value → Shared → Prop}
    (k : ∀ ys s', St C ρ H s' → Nx (· = I) ρ H s ρ H s' → ItR ρ H s'.heap I [] → Loose C ρ s'.heap I → VRs ρ H s'.heap vs ys → Q ys s') : wpAny (MM C) A (draw (.ref I) vs.length) Q E s := by
  induction vs generalizing s Q with
  | nil => exact wpAny_pure (k [] s S (nx_turnL L (fun _ _ _ e => e) (x1a2 L.here fun o e _ => ⟨o, e⟩)) it L .nil)
  | cons v vs ih =>
    show wpAny _ _ (pyNext (.ref I) >>= _) _ _ _
    refine wpAny_bind (it.step S L fun y s₁ S₁ N₁ _ it₁ L₁ r₁ => wpAny_bind (wpAny_holding (ih it₁ S₁ L₁ fun ys s₂ S₂ N₂ it₂ L₂ r₂ => wpAny_pure ?_)))
    exact k _ s₂ S₂ (N₁.trans N₂) it₂ L₂ (.cons (r₁.lasts (N₂.lasts S₁)) r₂)

theorem iter_slot {v : V} {vs : List V} {xv : Value} (r : VR ρ H s.heap v xv) (h : items v = some vs) : ∃ T id, s.TypeIs xv T ∧ Slot T "__iter__" id := by
  rcases items_some h with rfl | rfl
  · cases r with
    | tup t rr => exact ⟨_, _, t.typeIs, F.slot_tuple_iter⟩
  · cases r with
    | lst t nn rr => exact ⟨_, _, t.typeIs, slot_list_iter⟩

theorem unpack_ok (S : St C ρ H s) {v : V} {vs : List V} {xv : Value} (hh : A.handled = none) (r : VR ρ H s.heap v xv) (h : items v = some vs) {E : Value → Shared → Prop} {Q : List Value → Shared → Prop}
    (k : ∀ ys s', St C ρ H s' → Nx no ρ H s ρ H s' → VRs ρ H s'.heap vs ys → Q ys s') : wpAny (MM C) A (unpackItems xv vs.length none) Q E s := by
  refine x2a2 (iter_slot r h) fun T id hT slot => ?_
  unfold unpackItems
  refine wpAny_bind ?_
  unfold notIterableAtAll
  refine wpAny_bind (wpAny_specialOf hT slot.lookup ?_)
  refine wpAny_pure ?_
  simp only [Bool.false_eq_true, if_false]
  refine wpAny_bind (wpAny_holding (iter_vals S r h fun I s₁ S₁ N₁ it₁ L₁ ab => ?_))
  refine wpAny_bind (wpAny_holding (draw_ok it₁ S₁ L₁ fun ys s₂ S₂ N₂ it₂ L₂ r₂ => ?_))
  have hl : ¬ ys.length < vs.length := by rw [r₂.length]; exact Nat.lt_irrefl _
  rw [if_neg hl]
  refine wpAny_bind (wpAny_holding (it₂.stop S₂ L₂ hh fun s₃ S₃ La hk => ?_))
  simp only [Option.isSome_none, Bool.false_eq_true, if_false]
  exact wpAny_pure (k ys s₃ S₃ (Nx.close N₁ N₂ (fun q e => e ▸ ab) (fun q o w e => hk q o w e)) (r₂.lasts La))

/-! targets -/
theorem assignEach_names {ts : List Nat} {xs : List Expr} (h : mtBs sc ts xs = true) : assignEach xs env = xs.map (fun x => (false, assign x env)) ∧ xs.length = ts.length := by
  induction ts generalizing xs with
  | nil => induction xs using List.casesOn with
    | nil => exact ⟨rfl, rfl⟩
    | cons _ _ => exact ff h
  | cons i ts ih => induction xs using List.casesOn with
    | nil => exact ff h
    | cons x xs =>
      have h := and2 h
      refine x1a2 (isVar_of h.1) fun p e1 _ => ?_
      have e := ih h.2
      refine ⟨?_, congrArg (· + 1) e.2⟩
      rw [e1]
      show (false, assign (.Name (nm i) p) env) :: assignEach xs env = _
      rw [e.1]; rfl

theorem assign_name (X : EnvOK C sc env ρ H s.heap lo) (S : St C ρ H s) {i : Nat} {x : Expr} {v : V} {y : Value} (hv : isVar sc i owns x = true) (r : VR ρ H s.heap v y) {E : Value → Shared → Prop} {Q : Unit → Shared → Prop}
    (k : ∀ s', St C ρ H s' → Nx (Wr sc env) ρ H s ρ H s' → EnvOK C sc env ρ H s'.heap (lset lo i v) → Q () s') : wpAny (MM C) A (assign x env y) Q E s := by
  obtain ⟨p, rfl, ho, _, _⟩ := isVar_of hv
  show wpAny _ _ (standAt p >>= fun _ => bindName env (nm i) y) _ _ _
  exact wpAny_bind (wpAny_standAt (wpAny_bindName (store_ok X S ho r k)))

theorem Nx.refl' (h : ∀ a o, W a → s.heap.get? a = some o → (∀ xs n, o.data ≠ .seq xs n) ∨ (a ∈ ρ.z ∧ o.cls ≠ .type "tuple")) : Nx W ρ H s ρ H s := (Nx.refl ρ H s).wide h

theorem assign_names : ∀ {ts : List Nat} {xs : List Expr} {vs : List V} {ys : List Value} {lo lo' : Lo} {s : Shared}, mtBs sc ts xs = true → bindTs ts vs lo = some lo' → VRs ρ H s.heap vs ys → EnvOK C sc env ρ H s.heap lo → St C ρ H s →
    ∀ {E : Value → Shared → Prop} {Q : Unit → Shared → Prop}, (∀ s', St C ρ H s' → Nx (Wr sc env) ρ H s ρ H s' → EnvOK C sc env ρ H s'.heap lo' → Q () s') → wpAny (MM C) A (assignInOrder (xs.map fun x => assign x env) ys) Q E s := by
  intro ts
  induction ts with
  | nil =>
    intro xs vs ys lo lo' s hm h r X S E Q k
    induction xs using List.casesOn with
    | cons _ _ => exact ff hm
    | nil => induction r using Mini.VRs.casesOn with
      | cons _ _ => exact nn h
      | nil => cases h; exact wpAny_pure (k s S (Nx.refl' X.wdata) X)
  | cons i ts ih =>
    intro xs vs ys lo lo' s hm h r X S E Q k
    induction xs using List.casesOn with
    | nil => exact ff hm
    | cons x xs => induction r using Mini.VRs.casesOn with
      | nil => exact nn h
      | cons r rs =>
        have hm := and2 hm
        show wpAny _ _ (holding _ (assign x env _) >>= fun _ => assignInOrder _ _) _ _ _
        refine wpAny_bind (wpAny_holding (assign_name X S hm.1 r fun s₁ S₁ N₁ X₁ => ?_))
        exact ih hm.2 h (rs.lasts (N₁.lasts S)) X₁ S₁ fun s₂ S₂ N₂ X₂ => k s₂ S₂ (N₁.trans N₂) X₂

theorem findIdx_false (xs : List Expr) : (xs.map fun x => (false, assign x env)).findIdx? (·.1) = none := by
  induction xs with
  | nil => rfl
  | cons x xs ih => rw [List.map_cons, List.findIdx?_cons]; simp [ih]

theorem bindTs_len {ts : List Nat} {vs : List V} {lo lo' : Lo} (h : bindTs ts vs lo = some lo') : vs.length = ts.length := by
  induction ts generalizing vs lo with
  | nil => induction vs using List.casesOn with
    | nil => rfl
    | cons _ _ => exact nn h
  | cons t ts ih => induction vs using List.casesOn with
    | nil => exact nn h
    | cons v vs => exact congrArg (· + 1) (ih h)

theorem assign_ok (X : EnvOK C sc env ρ H s.heap lo) (S : St C ρ H s) (hh : A.handled = none) {t : T} {x : Expr} {v : V} {y : Value} {lo' : Lo} (hm : mtB sc t x = true) (h : bindT t v lo = some lo') (r : VR ρ H s.heap v y) {E : Value → Shared → Prop} {Q : Unit → Shared → Prop}
    (k : ∀ s', St C ρ H s' → Nx (Wr sc env) ρ H s ρ H s' → EnvOK C sc env ρ H s'.heap lo' → Q () s') : wpAny (MM C) A (assign x env y) Q E s := by
  induction t using T.casesOn with
  | var i => cases h; exact assign_name X S hm r k
  | tup ts =>
    have hx := bk_of (and_l hm)
    have hm := and_r hm
    refine bsE h fun vs h1 h2 => ?_
    have e := assignEach_names (env := env) hm
    rw [hx]
    show wpAny _ _ (standAt (pt x).p >>= fun _ => unpack y (assignEach (pt x).l env)) _ _ _
    refine wpAny_bind (wpAny_standAt ?_)
    unfold unpack
    rw [e.1, findIdx_false, List.length_map, e.2, ← bindTs_len h2]
    refine wpAny_bind (wpAny_holding (unpack_ok S hh r h1 fun ys s₁ S₁ N₁ r₁ => ?_))
    rw [List.map_map]
    exact assign_names hm h2 r₁ (X.next S N₁) S₁ fun s₂ S₂ N₂ X₂ => k s₂ S₂ ((N₁.wide X.wdata).trans N₂) X₂
  | attr _ _ => exact ff hm
  | sub _ _ => exact ff hm
end
end Mini
end
section
set_option autoImplicit false
namespace Mini
open PySem PySem.Calls PyProof.Rows
open PySem.W (Frag dictOf Looks findIn typeIn keepIn makesIn plainGet hasDictIn plainOver getL)

section
variable {C : Cfg} {sc : Scope} {env : Env} {lo lo' : Lo} {A : Around} {R : Sems} {n : Nat} {f : Nat} {ρ ρ' : Rh} {H H' : Hp} {s s' : Shared} {W : Addr → Prop} {a : Addr}

theorem EnvOK.sub {h : Heap} (X : EnvOK C sc env ρ H h lo') (hs : ∀ i v, lk lo i = some v → lk lo' i = some v) : EnvOK C sc env ρ H h lo :=
  ⟨X.kind, X.glob, X.blt, X.loc, X.cel, X.fre, X.glo, x1a2 X.ns fun m a b => ⟨m, a, fun i v e => b i v (hs i v e)⟩, fun i v e => X.cv i v (hs i v e), X.free, X.new, X.apart, X.clr⟩

theorem EnvOK.keepL {h h' : Heap} (X : EnvOK C sc env ρ H h lo) (L : Lasts ρ H h ρ' H' h') (kl : ∀ o, h.get? env.locals = some o → h'.get? env.locals = some o)
    (kc : ∀ x c, (sc.names.lookup x = some .cell ∨ sc.names.lookup x = some .free) → env.cells.lookup x = some c → ∀ o, h.get? c = some o → h'.get? c = some o)
    (cl : (∀ (i : Nat) (p : Addr × Addr), ρ'[i]? = some p → p.1 ≠ env.locals ∧ p.2 ≠ env.locals) ∧ env.locals ∉ ρ'.z) (ow : ¬ Own ρ' H' env.locals ∧ ∀ x c, (sc.names.lookup x = some .cell ∨ sc.names.lookup x = some .free) → env.cells.lookup x = some c → ¬ Own ρ' H' c) : EnvOK C sc env ρ' H' h' lo := by
  refine ⟨X.kind, X.glob, X.blt, X.loc, fun x hx => ?_, fun x hx => ?_, X.glo, ?_, fun i v hi hk => ?_, ow, X.new, X.apart, cl⟩
  · refine c5 (X.cel x hx) fun a c v₀ e q => ?_
    exact ⟨a, c, v₀, e, isCell_keep (kc x c (.inl hx) e) q⟩
  · refine c5 (X.fre x hx) fun a c v₀ e q => ?_
    exact ⟨a, c, v₀, e, isCell_keep (kc x c (.inr hx) e) q⟩
  · refine x1a2 X.ns fun m hm q => ?_
    exact ⟨m, ns_keep kl hm, fun i v hi hk => x1a2 (q i v hi hk) fun x e r => ⟨x, e, r.lasts L⟩⟩
  · refine x2a3 (X.cv i v hi hk) fun c x e q r => ?_
    exact ⟨c, x, e, isCell_keep (kc _ c hk e) q, r.lasts L⟩

/-- one object turns that is no part of the frame -/
theorem EnvOK.turnAt (X : EnvOK C sc env ρ H s.heap lo) (L : Lasts ρ H s.heap ρ H s'.heap) {o : Obj} (ho : s.heap.get? a = some o) (hd : (∃ xs n, o.data = .seq xs n) ∨ ∃ vs, o.data = .fields vs)
    (hk : ∀ q o, q ≠ a → s.heap.get? q = some o → s'.heap.get? q = some o) : EnvOK C sc env ρ H s'.heap lo := by
  have n1 : env.locals ≠ a := fun e => by
    obtain ⟨m, ⟨o', es, ep, ho', hd', _⟩, _⟩ := X.ns
    rw [e, ho] at ho'; cases ho'
    rcases hd with ⟨xs, n, hd⟩ | ⟨vs, hd⟩ <;> rw [hd] at hd' <;> cases hd'
  have n2 : ∀ x c, (sc.names.lookup x = some .cell ∨ sc.names.lookup x = some .free) → env.cells.lookup x = some c → c ≠ a := fun x c hx e q => by
    refine x2a2 (X.cell_lt hx e) fun v o' ho' hd' => ?_
    rw [q, ho] at ho'; cases ho'
    rcases hd with ⟨xs, n, hd⟩ | ⟨vs, hd⟩ <;> rw [hd] at hd' <;> cases hd'
  exact X.keepL L (fun o e => hk _ o n1 e) (fun x c hx e o g => hk c o (n2 x c hx e) g) X.clr X.free

theorem EnvOK.not_wr (X : EnvOK C sc env ρ H s.heap lo) {o : Obj} (ho : s.heap.get? a = some o) (hd : (∃ xs n, o.data = .seq xs n) ∨ ∃ vs, o.data = .fields vs) : ¬ Wr sc env a := by
  rintro (e | ⟨x, hx, e⟩)
  · obtain ⟨m, ⟨o', es, ep, ho', hd', _⟩, _⟩ := X.ns
    rw [← e, ho] at ho'; cases ho'
    rcases hd with ⟨xs, n, hd⟩ | ⟨vs, hd⟩ <;> rw [hd] at hd' <;> cases hd'
  · refine x2a2 (X.cell_lt (.inl hx) e) fun v o' ho' hd' => ?_
    rw [ho] at ho'; cases ho'
    rcases hd with ⟨xs, n, hd⟩ | ⟨vs, hd⟩ <;> rw [hd] at hd' <;> cases hd'

/-- a hidden list turns -/
theorem St.turnZ (S : St C ρ H s) (hz : a ∈ ρ.z) {items items' : Array Value} (hl : s.heap.IsList a items) (hl' : s'.heap.IsList a items') (hk : ∀ q o, q ≠ a → s.heap.get? q = some o → s'.heap.get? q = some o)
    (hg : s'.gens = s.gens) (hos : s'.os = s.os) : St C ρ H s' ∧ Lasts ρ H s.heap ρ H s'.heap := by
  refine t5 hl fun o ho hc n hd => ?_
  refine x1a2 hl' fun o' ho' _ => ?_
  have La : Lasts ρ H s.heap ρ H s'.heap := by
    refine ⟨List.prefix_refl _, fun b items t => ?_, fun b items t m => ⟨?_, m⟩⟩
    · refine t5 t fun x hx hc' k hd' => ?_
      refine ⟨x, hk b x (fun e => ?_) hx, hc', k, hd'⟩
      rw [e, ho] at hx; cases hx; rw [hc] at hc'; exact absurd hc' (by decide)
    · refine t5 t fun x hx hc' k hd' => ?_
      exact ⟨x, hk b x (fun e => m (.inr (e ▸ hz))) hx, hc', k, hd'⟩
  refine ⟨⟨fun b x e => hk b x (fun q => by rw [q, (S.hid a hz).2] at e; exact nn e) (S.base b x e), hg.trans S.gens, hos.trans S.os, S.len, fun i x p h1 h2 => ?_, S.apart, S.new, fun b hb => ?_, S.zap, fun i p hp => ?_⟩, La⟩
  · refine x0a2 (S.zap a hz i p h2) fun n1 n2 => ?_
    exact (S.objs i x p h1 h2).lasts La (fun y e => hk _ y n1 e) (fun y e => hk _ y n2 e)
  · obtain ⟨⟨x, hx⟩, nb⟩ := S.hid b hb
    refine ⟨?_, nb⟩
    by_cases e : b = a
    · exact ⟨o', e ▸ ho'⟩
    · exact ⟨x, hk b x e hx⟩
  · obtain ⟨⟨x, hx⟩, y, hy⟩ := S.here i p hp
    refine x0a2 (S.zap a hz i p hp) fun n1 n2 => ?_
    exact ⟨⟨x, hk _ x n1 hx⟩, y, hk _ y n2 hy⟩

theorem St.z_own (S : St C ρ H s) (hz : a ∈ ρ.z) : ¬ Own ρ H a := by
  rintro ⟨i, p, o, hp, _, _, e⟩
  refine x0a2 (S.zap a hz i p hp) fun n1 n2 => ?_
  rcases e with e | e
  · exact n1 e.symm
  · exact n2 e.symm

/-- what was not there at the start may turn -/
theorem Nx.freely {s₁ s₂ : Shared} {ρ₁ : Rh} {H₁ : Hp} {I : Addr} (N : Nx W ρ H s ρ₁ H₁ s₁) (hI : s.heap.get? I = none) (hk : ∀ q o, q ≠ I → s₁.heap.get? q = some o → s₂.heap.get? q = some o) : Nx W ρ H s ρ₁ H₁ s₂ :=
  ⟨N.ext, N.z, fun q o e nn w => hk q o (fun z => by rw [z, hI] at e; cases e) (N.keep q o e nn w), N.fresh, fun q o e => x1a1 (N.pres q o e) fun o' e' => ⟨o', hk q o' (fun z => by rw [z, hI] at e; exact nn e) e'⟩, N.wdata, N.news⟩
theorem Nx.turnW {s₁ s₂ : Shared} {ρ₁ : Rh} {H₁ : Hp} {I : Addr} (N : Nx W ρ H s ρ₁ H₁ s₁) (hI : W I) (hp : ∃ o, s₂.heap.get? I = some o) (hk : ∀ q o, q ≠ I → s₁.heap.get? q = some o → s₂.heap.get? q = some o) : Nx W ρ H s ρ₁ H₁ s₂ :=
  ⟨N.ext, N.z, fun q o e nn w => hk q o (fun z => w (z ▸ hI)) (N.keep q o e nn w), N.fresh, fun q o e => by
    refine x1a1 (N.pres q o e) fun o' e' => ?_
    by_cases z : q = I
    · exact z ▸ hp
    · exact ⟨o', hk q o' z e'⟩, N.wdata, N.news⟩

theorem lk_lset_other {i j : Nat} {v : V} (h : j ≠ i) : lk (lset lo i v) j = lk lo j := by rw [lk_lset, if_neg h]
theorem lk_bindTs : ∀ {ts : List Nat} {vs : List V} {lo lo' : Lo}, bindTs ts vs lo = some lo' → ∀ {j : Nat}, j ∉ ts → lk lo' j = lk lo j
  | [], [], _, _, h, j, _ => by cases h; rfl
  | i :: ts, v :: vs, lo, lo', h, j, hj => by
    rw [lk_bindTs (ts := ts) (vs := vs) h (fun m => hj (.tail _ m)), lk_lset_other (fun e => hj (by rw [e]; exact .head _))]
theorem lk_bindT {t : T} {v : V} (h : bindT t v lo = some lo') {j : Nat} (hj : j ∉ tgtB t) : lk lo' j = lk lo j := by
  induction t using T.casesOn with
  | var i => cases h; exact lk_lset_other fun e => hj (by rw [e]; exact .head _)
  | tup ts =>
    refine bsE h fun vs h1 h2 => ?_
    exact lk_bindTs h2 hj
  | attr _ _ => exact nn h
  | sub _ _ => exact nn h

noncomputable def ifsTree (ifs : List Expr) (env : Env) : Sem Bool := forIn ifs true fun c r => if r = true then do let ok ← isTrue c env (eval c env); pure (ForInStep.yield ok) else pure (ForInStep.yield r)

theorem ifs_false {E : Value → Shared → Prop} {Q : Bool → Shared → Prop} (k : Q false s) : ∀ ifs : List Expr, wpAny (MM C) A (forIn ifs false fun c r => if r = true then do let ok ← isTrue c env (eval c env); pure (ForInStep.yield ok) else pure (ForInStep.yield r) : Sem Bool) Q E s
  | [] => wpAny_pure k
  | x :: xs => by
    rw [List.forIn_cons]
    refine wpAny_bind ?_
    rw [if_neg Bool.false_ne_true]
    exact wpAny_pure (ifs_false k xs)
theorem ifs_ok (TR : TrOK C n R) : ∀ {l : List E} {xs : List Expr} {H : Hp} {b : Bool} {H' : Hp}, mtEs (mtE f) sc l xs = true → evIfs R l lo H = some (b, H') → ∀ {s : Shared} {ρ : Rh}, Room n A → St C ρ H s → EnvOK C sc env ρ H s.heap lo →
    RunsB C A (ifsTree xs env) ρ H s b H' := by
  intro l
  induction l with
  | nil =>
    intro xs H b H' hm h s ρ r S X
    induction xs using List.casesOn with
    | cons _ _ => exact ff hm
    | nil => (refine sinjE h ?_; clear h); exact fun E Q k => wpAny_pure (k s ρ S (.refl _ _ _))
  | cons e es ih =>
    intro xs H b H' hm h s ρ r S X
    induction xs using List.casesOn with
    | nil => exact ff hm
    | cons x xs =>
      have hm := and2 hm
      (refine bpE h fun w H1 h1 hh_ => ?_; clear h; revert hh_; intro h)
      (refine bsE h fun c hc hh_ => ?_; clear h; revert hh_; intro h)
      obtain rfl := bool?_some hc
      intro E Q k
      unfold ifsTree
      rw [List.forIn_cons]
      refine wpAny_bind ?_
      rw [if_pos rfl]
      refine wpAny_bind (TR f sc env e x lo H c H1 hm.1 h1 A s ρ r S X E _ fun s₁ ρ₁ S₁ N₁ => wpAny_pure ?_)
      induction c using Bool.casesOn with
      | true => exact ih hm.2 h r S₁ (X.next S N₁) E Q fun s₂ ρ₂ S₂ N₂ => k s₂ ρ₂ S₂ (N₁.trans N₂)
      | false => (revert k; apply sinjE h; clear h; intro k); exact ifs_false (k s₁ ρ₁ S₁ N₁) xs
end
end Mini
end
section
set_option autoImplicit false
namespace Mini
open PySem PySem.Calls PyProof.Rows
open PySem.W (Frag dictOf Looks findIn typeIn keepIn makesIn plainGet hasDictIn plainOver getL)

structure Acc (C : Cfg) (sc : Scope) (env : Env) (ρ : Rh) (H : Hp) (s : Shared) (lo : Lo) (D : Addr) (acc : List V) : Prop where
  st : St C ρ H s
  env : EnvOK C sc env ρ H s.heap lo
  z : D ∈ ρ.z
  lst : ∃ items, s.heap.IsList D items ∧ VRs ρ H s.heap acc items.toList

noncomputable abbrev Wc (sc : Scope) (env : Env) (D : Addr) (q : Addr) : Prop := q = D ∨ Wr sc env q

section
variable {C : Cfg} {sc : Scope} {env : Env} {lo lo' : Lo} {A : Around} {R : Sems} {n : Nat} {f : Nat} {ρ ρ' : Rh} {H H' : Hp} {s s' : Shared} {W : Addr → Prop} {a D : Addr} {acc : List V}

theorem isList_obj {h : Heap} {items : Array Value} (t : h.IsList D items) : ∃ o, h.get? D = some o ∧ o.cls = .type "list" ∧ ∃ xs n, o.data = .seq xs n := x1a3 t fun o a b d => ⟨o, a, b, _, d⟩

theorem Acc.wd (a : Acc C sc env ρ H s lo D acc) : ∀ q o, Wc sc env D q → s.heap.get? q = some o → (∀ xs n, o.data ≠ .seq xs n) ∨ (q ∈ ρ.z ∧ o.cls ≠ .type "tuple") := by
  rintro q o (rfl | w) e
  · refine x1a2 a.lst fun items t _ => ?_
    refine x1a3 (isList_obj t) fun o' h1 h2 _ => ?_
    rw [e] at h1; cases h1
    exact .inr ⟨a.z, by rw [h2]; decide⟩
  · exact a.env.wdata q o w e
theorem Acc.next (a : Acc C sc env ρ H s lo D acc) (N : Nx no ρ H s ρ' H' s') (S' : St C ρ' H' s') : Acc C sc env ρ' H' s' lo D acc := by
  refine x1a2 a.lst fun items t r => ?_
  refine x1a3 t fun o h1 h2 h3 => ?_
  exact ⟨S', a.env.next a.st N, by rw [N.z]; exact a.z, items, ⟨o, N.keep D o h1 (a.st.z_own a.z) id, h2, h3⟩, r.lasts (N.lasts a.st)⟩
theorem Acc.sub (a : Acc C sc env ρ H s lo' D acc) (hs : ∀ i v, lk lo i = some v → lk lo' i = some v) : Acc C sc env ρ H s lo D acc := ⟨a.st, a.env.sub hs, a.z, a.lst⟩
/-- a loose object turns -/
theorem Acc.turn {I : Addr} (a : Acc C sc env ρ H s lo D acc) (S' : St C ρ H s') (La : Lasts ρ H s.heap ρ H s'.heap) {o : Obj} (ho : s.heap.get? I = some o) (hd : ∃ vs, o.data = .fields vs)
    (hk : ∀ q o, q ≠ I → s.heap.get? q = some o → s'.heap.get? q = some o) : Acc C sc env ρ H s' lo D acc := by
  refine x1a2 a.lst fun items t r => ?_
  refine x1a3 (id t) fun o' h1 h2 h3 => ?_
  have hne : D ≠ I := fun e => by
    rw [e, ho] at h1; cases h1
    refine x1a1 h3 fun m h3 => ?_
    refine x1a1 hd fun vs hd => ?_
    rw [hd] at h3; cases h3
  exact ⟨S', a.env.turnAt La ho (.inr hd) hk, a.z, items, ⟨o', hk D o' hne h1, h2, h3⟩, r.lasts La⟩
theorem Acc.push (a : Acc C sc env ρ H s lo D acc) {v : V} {x : Value} {items : Array Value} (t : s.heap.IsList D items) (r : VRs ρ H s.heap acc items.toList) (rx : VR ρ H s.heap v x) {h' : Heap} (t' : h'.IsList D (items.push x)) (hb : Heap.SameBut D s.heap h') :
    Acc C sc env ρ H { s with heap := h' } lo D (acc ++ [v]) ∧ Lasts ρ H s.heap ρ H h' := by
  have hk : ∀ q o, q ≠ D → s.heap.get? q = some o → h'.get? q = some o := fun q o e g => (hb.2 q e).trans g
  refine x0a2 (a.st.turnZ (s' := { s with heap := h' }) a.z t t' hk rfl rfl) fun S' La => ?_
  refine x1a3 (isList_obj t) fun o h1 h2 h3 => ?_
  refine ⟨⟨S', a.env.turnAt La h1 (.inl h3) hk, a.z, _, t', ?_⟩, La⟩
  rw [Array.toList_push]
  exact (r.lasts La).append (.cons (rx.lasts La) .nil)

theorem ItR.obj {h : Heap} {I : Addr} {vs : List V} (x : ItR ρ H h I vs) : ∃ o, h.get? I = some o ∧ ∃ fs, o.data = .fields fs := by
  induction x using Mini.ItR.casesOn with
  | list a b c d => refine x1a3 a fun o ho _ hd => ?_; exact ⟨o, ho, _, hd⟩
  | tup a b d => refine x1a3 a fun o ho _ hd => ?_; exact ⟨o, ho, _, hd⟩
  | range a => exact ⟨_, a, _, rfl⟩

theorem nodupB_app : ∀ {a b : List Nat}, nodupB (a ++ b) = true → (∀ i ∈ a, i ∉ b) ∧ nodupB b = true
  | [], _, h => ⟨by simp, h⟩
  | i :: a, b, h => by
    simp only [List.cons_append, nodupB, Bool.and_eq_true, Bool.not_eq_true', List.any_append, Bool.or_eq_false_iff] at h
    refine x0a2 (nodupB_app h.2) fun h1 h2 => ?_
    refine ⟨fun j hj => ?_, h2⟩
    rcases List.mem_cons.mp hj with rfl | hj
    · intro hm
      have := h.1.2
      rw [List.any_eq_false] at this
      exact this _ hm (Nat.beq_refl _)
    · exact h1 j hj

theorem mtGs_cons {t : T} {it : E} {ifs : List E} {gs : List G} {cs : List Comprehension} (h : mtGs (mtE f) sc (.mk t it ifs :: gs) cs = true) : ∃ tx ix fx cs', cs = ⟨tx, ix, fx, 0⟩ :: cs' ∧ mtB sc t tx = true ∧ mtIt (mtE f) sc it ix = true ∧ mtEs (mtE f) sc ifs fx = true ∧ mtGs (mtE f) sc gs cs' = true := by
  induction cs using List.casesOn with
  | nil => exact ff h
  | cons c cs =>
    obtain ⟨tx, ix, fx, a⟩ := c
    have h : (mtB sc t tx && mtIt (mtE f) sc it ix && mtEs (mtE f) sc ifs fx && a == 0 && mtGs (mtE f) sc gs cs) = true := h
    have q := and4 (and_l h)
    have e : a = 0 := beq_iff_eq.mp q.2.2.2
    subst e
    exact ⟨tx, ix, fx, cs, rfl, q.1, q.2.1, q.2.2.1, and_r h⟩

theorem folded_plain {e : E} {x : Expr} (h : mtIt (mtE f) sc e x = true) (v : Value) : foldedSetIterable x env v = pure v := by
  have : ∀ l k p, x ≠ .Set l k p := by
    unfold mtIt at h
    cases hp : e.range? with
    | none => rw [hp] at h; exact (mtE_not f e x h).2.1
    | some l => rw [hp] at h; rw [bk_of (and_l h)]; intro _ _ _ e; cases e
  induction x using PySem.Expr.casesOn <;> first | rfl | exact absurd rfl (this _ _ _)

theorem start_ok {y : Expr} {gens : List Comprehension} {scA : Scope} {pA : Pos} {d : Nat} {I : Addr} {acc : Value} {vs : List V} {tx ix : Expr} {fx : List Expr} (hg : gens[d]? = some ⟨tx, ix, fx, 0⟩) (it : ItR ρ H s.heap I vs) {RR : Result → Shared → Prop}
    (h : codeAny (MM C) A (.compLoop (.ListComp y gens scA pA) d (.ref I) acc env) RR s) : codeAny (MM C) A (.compStart (.ListComp y gens scA pA) d (.ref I) acc env) RR s := by
  refine codeAny_of_tree ?_
  show wpAny _ A (Sem.onRaise (compStart _ _ _ _ _) _) _ _ s
  refine wpAny_onRaise ?_
  have hc : (clausesOf (.ListComp y gens scA pA))[d]? = some ⟨tx, ix, fx, 0⟩ := hg
  unfold compStart
  simp only [hc, Option.elim]
  rw [if_neg (by decide)]
  refine wpAny_bind (wpAny_askSetting (wpAny_ite ?_))
  split
  · first
      | exact wpAny_bind (wpAny_pure (wpAny_pure (And.intro rfl h)))
      | exact wpAny_pure (And.intro rfl h)
  · first
      | exact wpAny_bind (wpAny_rule (wpAny_bind (wpAny_standAt (wpAny_bind (it.again (wpAny_pure (And.intro rfl h)))))))
      | exact wpAny_bind (wpAny_rule (wpAny_bind (it.again (wpAny_pure (And.intro rfl h)))))

/-- a turn, what follows its tests left open -/
noncomputable def turnT (ix tx : Expr) (fx : List Expr) (env : Env) (it : Value) (T : Bool → Sem Fin) : Sem Fin := standAt ix.pos >>= fun _ => pyNext it >>= fun o => match o with
  | none => pure (.done .next)
  | some v => letOwnedTupleGo tx it v >>= fun _ => assign tx env v >>= fun _ => ifsTree fx env >>= T
noncomputable def turnElt (y : Expr) (acc : Value) (env : Env) (nx : Sem Fin) (ok : Bool) : Sem Fin := if ok = true then ((eval y env >>= fun v => call (.builtin "list.append") [acc, v] >>= fun _ => pure ()) >>= fun _ => nx) else nx
noncomputable def turnSub (g : Comprehension) (e : Expr) (d : Nat) (acc : Value) (env : Env) (nx : Sem Fin) (ok : Bool) : Sem Fin := if ok = true then (eval g.iter env >>= fun x => standAt g.iter.pos >>= fun _ => foldedSetIterable g.iter env x >>= fun x => holding [x] (pyIter x) >>= fun it => runOwn (.compStart e d it acc env) env >>= fun _ => nx) else nx
theorem turn_elt {y : Expr} {gens : List Comprehension} {scA : Scope} {pA : Pos} {d : Nat} {it acc : Value} {tx ix : Expr} {fx : List Expr} (hg : gens[d]? = some ⟨tx, ix, fx, 0⟩) (hg2 : gens[d + 1]? = none) :
    compTurn (.ListComp y gens scA pA) d it acc env = turnT ix tx fx env it (turnElt y acc env (again (.compLoop (.ListComp y gens scA pA) d it acc env))) := by
  unfold compTurn
  simp only [hg, hg2]
  rfl
theorem turn_sub {y : Expr} {gens : List Comprehension} {scA : Scope} {pA : Pos} {d : Nat} {it acc : Value} {tx ix tx2 ix2 : Expr} {fx fx2 : List Expr} (hg : gens[d]? = some ⟨tx, ix, fx, 0⟩) (hg2 : gens[d + 1]? = some ⟨tx2, ix2, fx2, 0⟩) :
    compTurn (.ListComp y gens scA pA) d it acc env = turnT ix tx fx env it (turnSub ⟨tx2, ix2, fx2, 0⟩ (.ListComp y gens scA pA) (d + 1) acc env (again (.compLoop (.ListComp y gens scA pA) d it acc env))) := by
  unfold compTurn
  simp only [hg, hg2]
  rfl
theorem wpAny_eq {M : Model} {α : Type} {t t' : Sem α} {Q : α → Shared → Prop} {E : Value → Shared → Prop} (h : t = t') (k : wpAny M A t' Q E s) : wpAny M A t Q E s := h ▸ k
section
variable {I : Addr} {ρa : Rh} {Ha : Hp} {sa : Shared} {tx ix : Expr} {fx : List Expr} {TT : Bool → Sem Fin} {E₀ : Value → Shared → Prop} {Q : Fin → Shared → Prop}
theorem turn_end (a : Acc C sc env ρ H s lo D acc) (it : ItR ρ H s.heap I []) (L : Loose C ρ s.heap I) (hh : A.handled = none) (hI0 : sa.heap.get? I = none) (N : Nx (Wc sc env D) ρa Ha sa ρ H s)
    (k : ∀ s₁, Acc C sc env ρ H s₁ lo D acc → Nx (Wc sc env D) ρa Ha sa ρ H s₁ → Q (.done .next) s₁) : wpAny (MM C) A (turnT ix tx fx env (.ref I) TT) Q E₀ s := by
  refine wpAny_bind (wpAny_standAt ?_)
  refine x1a2 it.obj fun o ho hfs => ?_
  exact wpAny_bind (it.stop a.st L hh fun s₁ S₁ La hk => wpAny_pure (k s₁ (a.turn S₁ La ho hfs hk) (N.freely hI0 hk)))
theorem Acc.wr (a : Acc C sc env ρ H s lo D acc) (S' : St C ρ H s') (X : EnvOK C sc env ρ H s'.heap lo') (N : Nx (Wr sc env) ρ H s ρ H s') : Acc C sc env ρ H s' lo' D acc := by
  refine x1a2 a.lst fun items tD rD => ?_
  refine x1a3 (isList_obj tD) fun oD hD1 hD2 hD3 => ?_
  refine t5 tD fun o' hD1' hD2' m hD3' => ?_
  exact ⟨S', X, a.z, items, ⟨o', N.keep D o' hD1' (a.st.z_own a.z) (a.env.not_wr hD1 (.inl hD3)), hD2', m, hD3'⟩, rD.lasts (N.lasts a.st)⟩
theorem turn_go (TR : TrOK C n R) {t : T} {ifs : List E} (hB : mtB sc t tx = true) (hI : mtEs (mtE f) sc ifs fx = true) {v : V} {vs : List V} {lo1 : Lo} {b : Bool} {H1 : Hp} (h1 : bindT t v lo = some lo1) (h2 : evIfs R ifs lo1 H = some (b, H1))
    (r : Room n A) (a : Acc C sc env ρ H s lo D acc) (it : ItR ρ H s.heap I (v :: vs)) (L : Loose C ρ s.heap I) (hI0 : sa.heap.get? I = none) (N : Nx (Wc sc env D) ρa Ha sa ρ H s)
    (k : ∀ s₃ ρ₃, Acc C sc env ρ₃ H1 s₃ lo1 D acc → ItR ρ₃ H1 s₃.heap I vs → Loose C ρ₃ s₃.heap I → Nx (Wc sc env D) ρa Ha sa ρ₃ H1 s₃ → wpAny (MM C) A (TT b) Q E₀ s₃) : wpAny (MM C) A (turnT ix tx fx env (.ref I) TT) Q E₀ s := by
  refine wpAny_bind (wpAny_standAt ?_)
  refine x1a2 it.obj fun o ho hfs => ?_
  refine wpAny_bind (it.step a.st L fun z s₁ S₁ N₁ hk₁ it₁ L₁ r₁ => ?_)
  have a₁ := a.turn S₁ (N₁.lasts a.st) ho hfs hk₁
  refine wpAny_bind (it₁.letGo (wpAny_bind (assign_ok a₁.env S₁ r.1 hB h1 r₁ fun s₂ S₂ N₂ X₂ => ?_)))
  have nI₁ : ¬ Wr sc env I := by
    refine x1a2 it₁.obj fun o1 ho1 hf1 => ?_
    exact a₁.env.not_wr ho1 (.inr hf1)
  have L₂ := L₁.next N₂ nI₁
  have it₂ := it₁.keep (N₂.lasts S₁) (fun o e => N₂.keep I o e L₁.own nI₁)
  have a₂ := a₁.wr S₂ X₂ N₂
  have Na₂ := (N.freely hI0 hk₁).trans (N₂.mono (fun q w => .inr w) a₁.wd)
  exact wpAny_bind (ifs_ok TR hI h2 r S₂ X₂ _ _ fun s₃ ρ₃ S₃ N₃ => k s₃ ρ₃ (a₂.next N₃ S₃) (it₂.keep (N₃.lasts S₂) (fun o e => N₃.keep I o e L₂.own id)) (L₂.next N₃ id) (Na₂.trans (N₃.wide a₂.wd)))
/-- an element is put in -/
theorem turn_put (EV : EvOK C n R) {elt : E} {y : Expr} (hy : mtE f sc elt y = true) {ev : V} {vs : List V} {nx : Sem Fin} (h5 : R.ev elt lo H = some (ev, H')) (r : Room n A) (a : Acc C sc env ρ H s lo D acc) (it : ItR ρ H s.heap I vs) (L : Loose C ρ s.heap I) (N : Nx (Wc sc env D) ρa Ha sa ρ H s) (hlen : acc.length < 100000)
    (k : ∀ s' ρ', Acc C sc env ρ' H' s' lo D (acc ++ [ev]) → ItR ρ' H' s'.heap I vs → Loose C ρ' s'.heap I → Nx (Wc sc env D) ρa Ha sa ρ' H' s' → wpAny (MM C) A nx Q E₀ s') : wpAny (MM C) A (turnElt y (.ref D) env nx true) Q E₀ s := by
  show wpAny (MM C) A ((eval y env >>= fun v => call (.builtin "list.append") [.ref D, v] >>= fun _ => pure ()) >>= fun _ => nx) Q E₀ s
  refine wpAny_bind (wpAny_bind (EV f sc env elt y lo H ev H' hy h5 A s ρ r a.st a.env _ _ fun x s₄ ρ₄ S₄ N₄ r₄ => ?_))
  have a₄ := a.next N₄ S₄
  have it₄ := it.keep (N₄.lasts a.st) (fun o e => N₄.keep I o e L.own id)
  have L₄ := L.next N₄ id
  refine x1a2 a₄.lst fun its tD4 rD4 => ?_
  have hl4 := rD4.length
  replace hl4 : acc.length = its.size := hl4
  refine wpAny_bind (wpAny_list_append tD4 (fun h' t' hb => wpAny_pure ?_) (by rw [sizeLine_big]; clear h5 hy; lia))
  have P := a₄.push tD4 rD4 r₄ t' hb
  have hk5 : ∀ q o, q ≠ D → s₄.heap.get? q = some o → h'.get? q = some o := fun q o e g => (hb.2 q e).trans g
  have hne : I ≠ D := fun e => by
    obtain ⟨o1, ho1, fs, hf1⟩ := it₄.obj
    obtain ⟨o2, ho2, _, xs, m, hs2⟩ := isList_obj tD4
    rw [e, ho2] at ho1
    rw [Option.some.inj ho1, hf1] at hs2
    cases hs2
  obtain ⟨⟨o1, ho1, hd1⟩, b1, c1, d1⟩ := L₄
  refine x1a2 (isList_obj t') fun oD hoD _ => ?_
  exact k _ ρ₄ P.1 (it₄.keep P.2 (fun o e => hk5 I o hne e)) ⟨⟨o1, hk5 I o1 hne ho1, hd1⟩, b1, c1, d1⟩ ((N.trans (N₄.wide a.wd)).turnW (.inl rfl) ⟨oD, hoD⟩ hk5)
/-- an inner source begins -/
theorem turn_in {G : Glo} (K : CfgOK C G) (EV : EvOK C n R) {y : Expr} {gens : List Comprehension} {scA : Scope} {pA : Pos} {d : Nat} {g2 : T} {it2 : E} {tx2 ix2 : Expr} {fx2 : List Expr} (hg : gens[d]? = some ⟨tx2, ix2, fx2, 0⟩) (mI : mtIt (mtE f) sc it2 ix2 = true) {vs2 : List V} {nx : Sem Fin}
    (h5 : evIt R it2 lo H = some (vs2, H')) (r : Room n A) (S : St C ρ H s) (X : EnvOK C sc env ρ H s.heap lo)
    (k : ∀ I2 s₄ ρ₄, St C ρ₄ H' s₄ → Nx no ρ H s ρ₄ H' s₄ → ItR ρ₄ H' s₄.heap I2 vs2 → Loose C ρ₄ s₄.heap I2 → s.heap.get? I2 = none → codeAny (MM C) (A.mark none) (.compLoop (.ListComp y gens scA pA) d (.ref I2) (.ref D) env) (fun r s' => match r with | .ok fl => wpAny (MM C) A nx Q E₀ s' | .error _ => False) s₄) :
    wpAny (MM C) A (turnSub ⟨tx2, ix2, fx2, 0⟩ (.ListComp y gens scA pA) d (.ref D) env nx true) Q E₀ s := by
  show wpAny (MM C) A (eval ix2 env >>= fun x => standAt ix2.pos >>= fun _ => foldedSetIterable ix2 env x >>= fun x => holding [x] (pyIter x) >>= fun it => runOwn (.compStart (.ListComp y gens scA pA) d it (.ref D) env) env >>= fun _ => nx) Q E₀ s
  refine wpAny_bind ?_
  refine wpAny_mono (it_ok (Q := fun (xv : Value) (s₄ : Shared) => ∃ I2 ρ₄, xv = .ref I2 ∧ St C ρ₄ H' s₄ ∧ Nx no ρ H s ρ₄ H' s₄ ∧ ItR ρ₄ H' s₄.heap I2 vs2 ∧ Loose C ρ₄ s₄.heap I2 ∧ s.heap.get? I2 = none) K EV mI h5 r S X fun I2 s₄ ρ₄ S₄ N₄ it₄ L₄ ab => ⟨I2, ρ₄, rfl, S₄, N₄, it₄, L₄, ab⟩) (fun xv s₄ hp => ?_) fun _ _ e => e
  refine wpAny_bind (wpAny_standAt ?_)
  rw [folded_plain mI]
  refine wpAny_bind (wpAny_pure (wpAny_bind (wpAny_holding (wpAny_mono hp (fun itv s₅ hq => ?_) fun _ _ e => e))))
  obtain ⟨I2, ρ₅, e, S₅, N₅, it₅, L₅, ab⟩ := hq
  rw [e]
  refine wpAny_bind (wpAny_runOwn (start_ok hg it₅ ?_))
  refine codeAny_mono (k I2 s₅ ρ₅ S₅ N₅ it₅ L₅ ab) fun r' s' hr => ?_
  cases r' with
  | ok fl => exact hr
  | error e => exact hr.elim
end

theorem drop_at {α : Type} {l : List α} {d : Nat} {x : α} {r : List α} (h : l.drop d = x :: r) : l[d]? = some x ∧ l[d + 1]? = r.head? ∧ l.drop (d + 1) = r := by
  refine ⟨?_, ?_, by rw [← List.drop_drop, h]; rfl⟩
  · have : (l.drop d)[0]? = some x := by rw [h]; rfl
    rw [List.getElem?_drop] at this; exact this
  · have : (l.drop d)[1]? = r.head? := by rw [h]; induction r using List.casesOn <;> rfl
    rw [List.getElem?_drop] at this; exact this
/-- a comprehension's turns -/
theorem loop_ok {G : Glo} (K : CfgOK C G) (EV : EvOK C n R) (TR : TrOK C n R) {elt : E} {y : Expr} (hy : mtE f sc elt y = true) {gensA : List Comprehension} {scA : Scope} {pA : Pos} : ∀ (gs : List Mini.G) {t : T} {ifs : List E} {tx ix : Expr} {fx : List Expr} {cs : List Comprehension} {d : Nat},
    gensA.drop d = ⟨tx, ix, fx, 0⟩ :: cs → mtB sc t tx = true → mtEs (mtE f) sc ifs fx = true → mtGs (mtE f) sc gs cs = true → nodupB (tgtB t ++ tgtsOf gs) = true →
    ∀ (vs : List V) {lo : Lo} {ws : List V} {H H' : Hp}, evComp.loop R t ifs (evComp R elt gs) vs lo H = some (ws, H') → (∀ i ∈ tgtB t ++ tgtsOf gs, lk lo i = none) →
    ∀ {A : Around} {s : Shared} {ρ : Rh} {I : Addr} {acc : List V}, Room n A → Acc C sc env ρ H s lo D acc → ItR ρ H s.heap I vs → Loose C ρ s.heap I → acc.length + ws.length ≤ 100000 →
    ∀ {ρa : Rh} {Ha : Hp} {sa : Shared}, sa.heap.get? I = none → Nx (Wc sc env D) ρa Ha sa ρ H s → ∀ {RR : Result → Shared → Prop},
    (∀ s' ρ', Acc C sc env ρ' H' s' lo D (acc ++ ws) → Nx (Wc sc env D) ρa Ha sa ρ' H' s' → RR (.ok .next) s') →
    codeAny (MM C) A (.compLoop (.ListComp y gensA scA pA) d (.ref I) (.ref D) env) RR s := by
  intro gs
  induction gs with
  | nil =>
    intro t ifs tx ix fx cs d hd hB hI hG hN vs
    induction cs using List.casesOn with
    | cons _ _ => cases hG
    | nil =>
      have q := drop_at hd
      induction vs with
      | nil =>
        intro lo ws H H' h _ A s ρ I acc r a it L _ ρa Ha sa hI0 N RR k
        obtain ⟨e1, e2⟩ := sinj (show some (([] : List V), H) = some (ws, H') from h)
        subst e1; subst e2
        refine codeAny_of_tree (wpAny_onRaise (wpAny_eq (turn_elt q.1 q.2.1) (turn_end a it L r.1 hI0 N fun s₁ a₁ N₁ => k s₁ ρ ?_ N₁)))
        rw [List.append_nil]; exact a₁
      | cons v vs ih =>
        intro lo ws H H' h hun A s ρ I acc r a it L hlen ρa Ha sa hI0 N RR k
        refine bsE h fun lo1 h1 ha => ?_
        refine bpE ha fun b H1 h2 hb => ?_
        refine bpE hb fun w1 H2 h3 hc => ?_
        refine bpE hc fun us H3 h4 hd' => ?_
        obtain ⟨e1, e2⟩ := sinj (show some (w1 ++ us, H3) = some (ws, H') from hd')
        subst e1; subst e2
        clear h ha hb hc hd'
        have hback : ∀ i v, lk lo i = some v → lk lo1 i = some v := fun i v e => (lk_bindT h1 fun hm => by rw [hun i (List.mem_append_left _ hm)] at e; exact nn e).trans e
        rw [List.length_append] at hlen
        refine codeAny_of_tree (wpAny_onRaise (wpAny_eq (turn_elt q.1 q.2.1) (turn_go TR hB hI h1 h2 r a it L hI0 N fun s₃ ρ₃ a₃ it₃ L₃ N₃ => ?_)))
        induction b using Bool.casesOn with
        | false =>
          obtain ⟨e1, e2⟩ := sinj (show some (([] : List V), H1) = some (w1, H2) from h3)
          subst e1; subst e2
          exact wpAny_pure ⟨rfl, ih h4 hun r (a₃.sub hback) it₃ L₃ (by clear h3 h4 h2 hI0 h1 hG hd hN hI hB hy; lia) hI0 N₃ k⟩
        | true =>
          refine bpE (show (R.ev elt lo1 H1).bind (fun (v, H) => some ([v], H)) = some (w1, H2) from h3) fun ev H4 h5 h6 => ?_
          refine x0a2 (sinj (show some ([ev], H4) = some (w1, H2) from h6)) fun e1 e2 => ?_
          subst e1; subst e2
          clear h3 h6
          refine turn_put EV hy h5 r a₃ it₃ L₃ N₃ (by rw [List.length_singleton] at hlen; clear h5 h4 h2 hI0 h1 hG hd hN hI hB hy; lia) fun s' ρ' a' it' L' N' => wpAny_pure ⟨rfl, ih h4 hun r (a'.sub hback) it' L' (by rw [List.length_append]; clear h5 h4 h2 hI0 h1 hG hd hN hI hB hy; lia) hI0 N' fun s'' ρ'' a'' n'' => k s'' ρ'' ?_ n''⟩
          rw [List.append_assoc] at a''; exact a''
  | cons g gs ihg =>
    obtain ⟨t2, it2, ifs2⟩ := g
    intro t ifs tx ix fx cs d hd hB hI hG hN vs
    obtain ⟨tx2, ix2, fx2, cs2, e, mB2, mI2, mF2, mG2⟩ := mtGs_cons hG
    rw [e] at hd
    have q := drop_at hd
    have hN := nodupB_app (show nodupB (tgtB t ++ (tgtB t2 ++ tgtsOf gs)) = true from hN)
    induction vs with
    | nil =>
      intro lo ws H H' h _ A s ρ I acc r a it L _ ρa Ha sa hI0 N RR k
      obtain ⟨e1, e2⟩ := sinj (show some (([] : List V), H) = some (ws, H') from h)
      subst e1; subst e2
      refine codeAny_of_tree (wpAny_onRaise (wpAny_eq (turn_sub q.1 q.2.1) (turn_end a it L r.1 hI0 N fun s₁ a₁ N₁ => k s₁ ρ ?_ N₁)))
      rw [List.append_nil]; exact a₁
    | cons v vs ih =>
      intro lo ws H H' h hun A s ρ I acc r a it L hlen ρa Ha sa hI0 N RR k
      refine bsE h fun lo1 h1 ha => ?_
      refine bpE ha fun b H1 h2 hb => ?_
      refine bpE hb fun w1 H2 h3 hc => ?_
      refine bpE hc fun us H3 h4 hd' => ?_
      obtain ⟨e1, e2⟩ := sinj (show some (w1 ++ us, H3) = some (ws, H') from hd')
      subst e1; subst e2
      clear h ha hb hc hd'
      have hback : ∀ i v, lk lo i = some v → lk lo1 i = some v := fun i v e => (lk_bindT h1 fun hm => by rw [hun i (List.mem_append_left _ hm)] at e; exact nn e).trans e
      rw [List.length_append] at hlen
      refine codeAny_of_tree (wpAny_onRaise (wpAny_eq (turn_sub q.1 q.2.1) (turn_go TR hB hI h1 h2 r a it L hI0 N fun s₃ ρ₃ a₃ it₃ L₃ N₃ => ?_)))
      induction b using Bool.casesOn with
      | false =>
        obtain ⟨e1, e2⟩ := sinj (show some (([] : List V), H1) = some (w1, H2) from h3)
        subst e1; subst e2
        exact wpAny_pure ⟨rfl, ih h4 hun r (a₃.sub hback) it₃ L₃ (by clear h3 h4 h2 hI0 h1 hG hd hI hB hy; lia) hI0 N₃ k⟩
      | true =>
        refine bpE (show (evIt R it2 lo1 H1).bind (fun (vs, H) => evComp.loop R t2 ifs2 (evComp R elt gs) vs lo1 H) = some (w1, H2) from h3) fun vs2 H4 h5 h6 => ?_
        have hun2 : ∀ i ∈ tgtB t2 ++ tgtsOf gs, lk lo1 i = none := fun i hi => (lk_bindT h1 fun hm => hN.1 i hm hi).trans (hun i (List.mem_append_right _ hi))
        refine turn_in K EV (g2 := t2) q.2.1 mI2 h5 r a₃.st a₃.env fun I2 s₄ ρ₄ S₄ N₄ it₄ L₄ ab => ?_
        have a₄ := a₃.next N₄ S₄
        refine ihg q.2.2 mB2 mF2 mG2 hN.2 vs2 h6 hun2 r.mark a₄ it₄ L₄ (by clear h3 h6 h5 h4 h2 hI0 h1 hG hd hI hB hy; lia) ab (N₄.wide a₃.wd) fun s₅ ρ₅ a₅ N₅ => ?_
        have nW : ¬ Wc sc env D I := by
          rintro (e | w)
          · obtain ⟨o1, ho1, fs, hf1⟩ := it₃.obj
            obtain ⟨its, tD3, _⟩ := a₃.lst
            obtain ⟨o2, ho2, _, xs, m, hs2⟩ := isList_obj tD3
            rw [e, ho2] at ho1
            rw [Option.some.inj ho1, hf1] at hs2
            cases hs2
          · obtain ⟨o1, ho1, hf1⟩ := it₃.obj
            exact a₃.env.not_wr ho1 (.inr hf1) w
        refine wpAny_pure ⟨rfl, ih h4 hun r (a₅.sub hback) (it₃.keep (N₅.lasts a₃.st) (fun o e => N₅.keep I o e L₃.own nW)) (L₃.next N₅ nW) (by rw [List.length_append]; clear h3 h6 h5 h4 h2 hI0 h1 hG hd hI hB hy; lia) hI0 (N₃.trans N₅) fun s' ρ' a' n' => k s' ρ' ?_ n'⟩
        rw [List.append_assoc] at a'; exact a'
end
end Mini
end
section
set_option autoImplicit false
namespace Mini
open PySem PySem.Calls PyProof.Rows
open PySem.W (Frag dictOf Looks findIn typeIn keepIn makesIn plainGet hasDictIn plainOver getL)

section
variable {C : Cfg} {sc sc' : Scope} {env : Env} {lo lo' : Lo} {A : Around} {R : Sems} {n : Nat} {f : Nat} {ρ ρ' : Rh} {H H' : Hp} {s s' : Shared} {W : Addr → Prop} {a D : Addr} {acc : List V}

theorem lookup_mem {α : Type} {l : List (Str × α)} {x : Str} {k : α} (h : l.lookup x = some k) : (x, k) ∈ l := by
  induction l with
  | nil => exact nn h
  | cons p l ih =>
    replace h : (match x == p.1 with | true => some p.2 | false => l.lookup x) = some k := h
    cases hb : x == p.1 with
    | true => rw [hb] at h; rw [eq_of_beq hb, ← Option.some.inj h]; exact .head _
    | false => rw [hb] at h; exact .tail _ (ih h)

structure ScOk (out sc : Scope) (tg : List Nat) : Prop where
  kind : sc.kind = .function
  loc : ∀ x, (x, NameKind.local) ∈ sc.names → sc.names.lookup x = some .local ∧ (x = nm n_dot0 ∨ ∃ i ∈ tg, nm i = x)
  cel : ∀ x, (x, NameKind.cell) ∉ sc.names
  fre : ∀ x, (x, NameKind.free) ∈ sc.names → sc.names.lookup x = some .free ∧ (out.names.lookup x = some .cell ∨ out.names.lookup x = some .free)
theorem scOk_of {tg : List Nat} (h : scOk sc sc' tg = true) : ScOk sc sc' tg := by
  unfold scOk at h
  rw [Bool.and_eq_true, beq_iff_eq, List.all_eq_true] at h
  refine x0a2 h fun hk h => ?_
  refine ⟨hk, fun x hx => ?_, fun x hx => ?_, fun x hx => ?_⟩
  · have := h _ hx
    simp only [Bool.and_eq_true, beq_iff_eq, Bool.or_eq_true, List.any_eq_true] at this
    exact ⟨this.1, this.2⟩
  · have := h _ hx
    simp at this
  · have := h _ hx
    simp only [Bool.and_eq_true, beq_iff_eq] at this
    refine ⟨this.1, ?_⟩
    have h2 := this.2
    split at h2 <;> simp_all

theorem lookup_relab {α β : Type} {g : Str × α → Str × β} (hg : ∀ p, (g p).1 = p.1) {x : Str} {k : α} {l : List (Str × α)} (h : l.lookup x = some k) : (l.map g).lookup x = some (g (x, k)).2 := by
  induction l with
  | nil => exact nn h
  | cons p l ih =>
    replace h : (match x == p.1 with | true => some p.2 | false => l.lookup x) = some k := h
    show (match x == (g p).1 with | true => some (g p).2 | false => (l.map g).lookup x) = _
    rw [hg]
    cases hb : x == p.1 with
    | true => rw [hb] at h; rw [eq_of_beq hb, ← Option.some.inj h]
    | false => rw [hb] at h; exact ih h
theorem lookup_relabel_free {env : Env} {names : List (Str × NameKind)} {x : Str} (h : names.lookup x = some .free) :
    (names.map fun (n, k) => if (k == NameKind.free && env.scope.kind == .function && env.kindOf n == some .cell) then (n, NameKind.cell) else (n, k)).lookup x = some .cell ∨
    (names.map fun (n, k) => if (k == NameKind.free && env.scope.kind == .function && env.kindOf n == some .cell) then (n, NameKind.cell) else (n, k)).lookup x = some .free := by
  rw [lookup_relab (fun p => by dsimp only; split <;> rfl) h]
  dsimp only
  split
  · exact .inl rfl
  · exact .inr rfl
theorem lookup_relabel_glob {env : Env} {names : List (Str × NameKind)} {x : Str} (h : names.lookup x = some .globalImplicit) :
    (names.map fun (n, k) => if (k == NameKind.free && env.scope.kind == .function && env.kindOf n == some .cell) then (n, NameKind.cell) else (n, k)).lookup x = some .globalImplicit :=
  lookup_relab (fun p => by dsimp only; split <;> rfl) h

theorem closure_ok (X : EnvOK C sc env ρ H s.heap lo) {names : List (Str × NameKind)} (hf : ∀ x, (x, NameKind.free) ∈ names → sc.names.lookup x = some .cell ∨ sc.names.lookup x = some .free) :
    ∀ cs : List (Str × Addr), (∀ x c, cs.lookup x = some c → env.cells.lookup x = some c) → ∃ cl : List (Str × Addr),
      (forIn names cs fun (x : Str × NameKind) (r : List (Str × Addr)) => (match x with
        | (name, kind) => if (kind == NameKind.free) = true then do let a ← cellOf env name; pure (ForInStep.yield ((name, a) :: r)) else pure (ForInStep.yield r) : Sem (ForInStep (List (Str × Addr))))) = pure cl ∧
      (∀ x c, cl.lookup x = some c → env.cells.lookup x = some c) ∧ ∀ x, ((x, NameKind.free) ∈ names ∨ (cs.lookup x).isSome) → (cl.lookup x).isSome := by
  induction names with
  | nil => exact fun cs h => ⟨cs, rfl, h, fun x hx => by simpa using hx⟩
  | cons p names ih =>
    obtain ⟨y, k⟩ := p
    intro cs h
    rw [List.forIn_cons]
    by_cases hk : (k == NameKind.free) = true
    · have ek : k = .free := eq_of_beq hk
      subst ek
      have hy := hf y List.mem_cons_self
      obtain ⟨c, hc⟩ : ∃ c, env.cells.lookup y = some c := by
        rcases hy with hy | hy
        · refine c5 (X.cel y hy) fun _ c v e _ => ?_; exact ⟨c, e⟩
        · refine c5 (X.fre y hy) fun _ c v e _ => ?_; exact ⟨c, e⟩
      have e1 : cellOf env y = pure c := by unfold cellOf; rw [hc]
      obtain ⟨cl, h1, h2, h3⟩ := ih (fun x hx => hf x (List.mem_cons_of_mem _ hx)) ((y, c) :: cs) (fun x c' e => by
        rw [List.lookup_cons] at e
        cases hb : x == y with
        | true => rw [hb] at e; cases e; rw [eq_of_beq hb]; exact hc
        | false => rw [hb] at e; exact h x c' e)
      refine ⟨cl, ?_, h2, fun x hx => h3 x ?_⟩
      · dsimp only
        rw [if_pos hk, e1]
        simpa using h1
      · rcases hx with hx | hx
        · rcases List.mem_cons.mp hx with e | hx
          · cases e; exact .inr (by simp)
          · exact .inl hx
        · refine .inr ?_
          rw [List.lookup_cons]
          cases x == y <;> simp [hx]
    · obtain ⟨cl, h1, h2, h3⟩ := ih (fun x hx => hf x (List.mem_cons_of_mem _ hx)) cs h
      refine ⟨cl, ?_, h2, fun x hx => h3 x ?_⟩
      · dsimp only
        rw [if_neg hk]
        simpa using h1
      · rcases hx with hx | hx
        · rcases List.mem_cons.mp hx with e | hx
          · (obtain ⟨e1_, e2_⟩ := pinj e; clear e; subst e1_; subst e2_); exact absurd rfl hk
          · exact .inl hx
        · exact .inr hx

theorem lk_ldel {l : List Nat} {lo : Lo} {i : Nat} : lk (ldel l lo) i = if l.any (Nat.beq i) then Option.none else lk lo i := by
  induction lo with
  | nil => exact (ite_self _).symm
  | cons p lo ih =>
    by_cases hj : l.any (Nat.beq p.1) = true
    · rw [show ldel l (p :: lo) = ldel l lo from List.filter_cons_of_neg (by rw [hj]; decide), ih, lk_cons p.1 p.2]
      by_cases q : i = p.1
      · rw [q, if_pos hj, if_pos hj]
      · rw [if_neg q]
    · rw [show ldel l (p :: lo) = p :: ldel l lo from List.filter_cons_of_pos (by rw [Bool.not_eq_true] at hj; rw [hj]; rfl), lk_cons p.1 p.2, lk_cons p.1 p.2, ih]
      by_cases q : i = p.1
      · rw [if_pos q, if_pos q, q, if_neg hj]
      · rw [if_neg q, if_neg q]

noncomputable def compV (R : Sems) (elt : E) (gens : List Mini.G) (lo : Lo) (H : Hp) : Option (V × Hp) := match gens with
  | [] => Option.none
  | .mk t it ifs :: gs => (evIt R it lo H).bind fun (vs, H) => (evComp.loop R t ifs (evComp R elt gs) vs (ldel (n_dot0 :: tgtsOf (.mk t it ifs :: gs)) lo) H).bind fun (ws, H) =>
    bif okLen ws.length then some (V.lst ws, H) else Option.none
theorem compV_eq {P : Prog} {R : Sems} {elt : E} {gens : List Mini.G} {lo : Lo} {H : Hp} : evStep P R (.comp elt gens) lo H = compV R elt gens lo H := by induction gens using List.casesOn <;> rfl

/-- a new list that no value may show -/
theorem St.hide (S : St C ρ H s) {o : Obj} (hD0 : s.heap.get? D = none) (hk : ∀ b o, s.heap.get? b = some o → s'.heap.get? b = some o) (hD : s'.heap.get? D = some o) (hg : s'.gens = s.gens) (hos : s'.os = s.os) : St C ⟨ρ.l, D :: ρ.z⟩ H s' ∧ Lasts ρ H s.heap ⟨ρ.l, D :: ρ.z⟩ H s'.heap := by
  have F := S.freshAt hD0
  have Lat : Lasts ρ H s.heap ⟨ρ.l, D :: ρ.z⟩ H s'.heap := by
    refine ⟨List.prefix_refl _, fun a items t => ?_, fun a items t m => ⟨?_, fun q => ?_⟩⟩
    · refine x1a2 t fun o ho q => ?_; exact ⟨o, hk a o ho, q⟩
    · refine x1a2 t fun o ho q => ?_; exact ⟨o, hk a o ho, q⟩
    · rcases q with q | q
      · exact m (.inl q)
      · rcases List.mem_cons.mp q with e | q
        · refine x1a2 t fun o ho _ => ?_; exact none_ne hD0 ho e
        · exact m (.inr q)
  refine ⟨⟨fun a o e => hk a o (S.base a o e), hg.trans S.gens, hos.trans S.os, S.len, fun i o p h1 h2 => (S.objs i o p h1 h2).lasts Lat (fun y e => hk _ y e) (fun y e => hk _ y e), S.apart, S.new, fun a ha => ?_, fun a ha i p hp => ?_, fun i p hp => ?_⟩, Lat⟩
  · rcases List.mem_cons.mp ha with e | ha
    · rw [e]; exact ⟨⟨_, hD⟩, F.base⟩
    · obtain ⟨⟨o, ho⟩, b⟩ := S.hid a ha
      exact ⟨⟨o, hk a o ho⟩, b⟩
  · rcases List.mem_cons.mp ha with e | ha
    · rw [e]; exact F.ne i p hp
    · exact S.zap a ha i p hp
  · obtain ⟨⟨x1, hx1⟩, x2, hx2⟩ := S.here i p hp
    exact ⟨⟨x1, hk _ _ hx1⟩, x2, hk _ _ hx2⟩
/-- the frame of a comprehension -/
theorem comp_env {tg : List Nat} (O : ScOk sc sc' tg) (X : EnvOK C sc env ρ H s.heap lo) (S : St C ρ H s) {Lc : Addr} (hL : s.heap.get? Lc = none) (hDL : D ≠ Lc) {h' : Heap} (hk : ∀ b o, s.heap.get? b = some o → h'.get? b = some o) (Lat : Lasts ρ H s.heap ⟨ρ.l, D :: ρ.z⟩ H h')
    {cl : List (Str × Addr)} (hc2 : ∀ x c, cl.lookup x = some c → env.cells.lookup x = some c) (hc3 : ∀ x, (x, NameKind.free) ∈ sc'.names → (cl.lookup x).isSome = true) {m : Str → Option Value} (hns : h'.Ns Lc m) :
    EnvOK C sc' (compEnvC sc' cl Lc env) ⟨ρ.l, D :: ρ.z⟩ H h' (ldel (n_dot0 :: tg) lo) := by
  have F := S.freshAt hL
  refine ⟨O.kind, X.glob, X.blt, fun x hx => lookup_relabel_local hx, fun x hx => absurd (lookup_mem hx) (O.cel x), fun x hx => ⟨lookup_relabel_free hx, ?_⟩, fun x hx => lookup_relabel_glob hx, ⟨_, hns, fun i v hi hk' => ?_⟩, fun i v hi hk' => ?_,
    ⟨F.own, fun x c hx e m => ?_⟩, ⟨F.base, fun x c hx => absurd (lookup_mem hx) (O.cel x)⟩, fun x y c hx => absurd (lookup_mem hx) (O.cel x), ⟨F.ne, fun m => ?_⟩⟩
  · refine x1a1 (Option.isSome_iff_exists.mp (hc3 x (lookup_mem hx))) fun c hc => ?_
    refine x1a1 (X.cell_lt (O.fre x (lookup_mem hx)).2 (hc2 x c hc)) fun v q => ?_
    exact ⟨c, v, hc, isCell_keep (fun o e => hk c o e) q⟩
  · have hany : ∀ j, j ∈ n_dot0 :: tg → nm j = nm i → False := fun j hj e => by
      rw [lk_ldel, if_pos (List.any_eq_true.mpr ⟨j, hj, by rw [nm_inj e]; exact Nat.beq_refl i⟩)] at hi
      exact nn hi
    rcases (O.loc _ (lookup_mem hk')).2 with e | ⟨j, hj, e⟩
    · exact (hany _ List.mem_cons_self e.symm).elim
    · exact (hany j (List.mem_cons_of_mem _ hj) e).elim
  · rcases hk' with hk' | hk'
    · exact absurd (lookup_mem hk') (O.cel _)
    · have hi' : lk lo i = some v := by
        rw [lk_ldel] at hi
        split at hi
        · exact nn hi
        · exact hi
      refine x2a3 (X.cv i v hi' (O.fre _ (lookup_mem hk')).2) fun c x e q rr => ?_
      refine x1a1 (Option.isSome_iff_exists.mp (hc3 (nm i) (lookup_mem hk'))) fun c' hc' => ?_
      rw [Option.some.inj (e.symm.trans (hc2 _ _ hc'))] at q
      exact ⟨c', x, hc', isCell_keep (fun o e => hk c' o e) q, rr.lasts Lat⟩
  · rcases hx with hx | hx
    · exact absurd (lookup_mem hx) (O.cel _)
    · exact X.free.2 x c (O.fre _ (lookup_mem hx)).2 (hc2 x c e) m
  · rcases List.mem_cons.mp m with e | m
    · exact hDL e.symm
    · exact F.z m
/-- the list is shown -/
theorem comp_show {Lc : Addr} {cl : List (Str × Addr)} {ws : List V} {ρ₀ : Rh} {H₀ : Hp} {s₀ : Shared} (cel : ∀ x, (x, NameKind.cell) ∉ sc'.names) (a : Acc C sc' (compEnvC sc' cl Lc env) ρ H s lo D ws) (N : Nx (Wc sc' (compEnvC sc' cl Lc env) D) ⟨ρ₀.l, D :: ρ₀.z⟩ H₀ s₀ ρ H s) (S0 : St C ρ₀ H₀ s₀) (hD : s₀.heap.get? D = none) (hL : s₀.heap.get? Lc = none) :
    St C ⟨ρ.l, ρ₀.z⟩ H s ∧ Nx no ρ₀ H₀ s₀ ⟨ρ.l, ρ₀.z⟩ H s ∧ VR ⟨ρ.l, ρ₀.z⟩ H s.heap (.lst ws) (.ref D) ∧ Loose C ⟨ρ.l, ρ₀.z⟩ s.heap Lc ∧ ∃ m, s.heap.Ns Lc m := by
  refine x1a2 a.env.ns fun m hm _ => ?_
  refine x3a3 (id hm) fun o es ep ho hd _ => ?_
  have hz' : ρ.z = D :: ρ₀.z := N.z
  have hin : ∀ a ∈ ρ₀.z, a ∈ ρ.z := fun a ha => by rw [hz']; exact List.mem_cons_of_mem _ ha
  have Lf : Lasts ρ H s.heap ⟨ρ.l, ρ₀.z⟩ H s.heap := ⟨List.prefix_refl _, fun _ _ t => t, fun a items t m => ⟨t, fun q => m (q.imp id fun q => hin a q)⟩⟩
  have S₅ := a.st
  refine x1a2 a.lst fun items tD rD => ?_
  have hW : ∀ q, Wc sc' (compEnvC sc' cl Lc env) D q → s₀.heap.get? q = none := fun q w => by
    rcases w with e | e | ⟨x, hx, _⟩
    · rw [e]; exact hD
    · rw [e]; exact hL
    · exact absurd (lookup_mem hx) (cel _)
  refine ⟨⟨S₅.base, S₅.gens, S₅.os, S₅.len, fun i o p h1 h2 => (S₅.objs i o p h1 h2).lasts Lf (fun y e => e) (fun y e => e), S₅.apart, S₅.new, fun a ha => S₅.hid a (hin a ha), fun a ha => S₅.zap a (hin a ha), S₅.here⟩,
    ⟨N.ext, rfl, fun q o e nn' _ => N.keep q o e nn' fun w => nn ((hW q w).symm.trans e), N.fresh, N.pres, fun _ _ w => w.elim, N.news⟩, .lst tD ?_ (rD.lasts Lf), ⟨⟨o, ho, by rw [hd]; intro _ _ z; cases z⟩, a.env.new.1, a.env.clr.1, fun q => a.env.clr.2 (hin _ q)⟩, m, hm⟩
  rintro (q | q)
  · exact S₅.z_own a.z q
  · exact (S0.freshAt hD).z q

/-- a comprehension: its list is made; what is done with it follows -/
theorem comp_core {G : Glo} (K : CfgOK C G) (EV : EvOK C n R) (TR : TrOK C n R) {elt : E} {gens : List Mini.G} {x : Expr} {v : V} (hm : mtE (f + 1) sc (.comp elt gens) x = true)
    (h : compV R elt gens lo H = some (v, H'))
    (r : Room n A) (S : St C ρ H s) (X : EnvOK C sc env ρ H s.heap lo) : ∃ (y : Expr) (cs : List Comprehension) (sc' : Scope) (p : Pos), x = .ListComp y cs sc' p ∧ firstAsync cs = false ∧ ∀ (use : Option (Value → Sem Unit)) (E Q : Value → Shared → Prop),
    (∀ D Lc s' ρ', St C ρ' H' s' → Nx no ρ H s ρ' H' s' → VR ρ' H' s'.heap v (.ref D) → Loose C ρ' s'.heap Lc → (∃ m, s'.heap.Ns Lc m) → s.heap.get? Lc = none → compPost (MM C) A E use Q (.ref D) Lc (.ok .next) s') →
    wpAny (MM C) A (comprehension x sc' env (firstIterPos cs p) (newList []) false (firstIter cs env) use) Q E s := by
  obtain ⟨y, cs, sc', p, rfl, m0, mN, m1, m2⟩ : ∃ y cs sc' p, x = .ListComp y cs sc' p ∧ scOk sc sc' (tgtsOf gens) = true ∧ nodupB (tgtsOf gens) = true ∧ mtE f sc' elt y = true ∧ mtGs1 (mtE f) sc sc' gens cs = true := ⟨_, _, _, _, (mt_bk hm).1, and4 (mt_bk hm).2⟩
  · clear hm
    induction gens using List.casesOn with
    | nil => exact nn h
    | cons g gs =>
      obtain ⟨t, it, ifs⟩ := g
      induction cs using List.casesOn with
      | nil => exact ff m2
      | cons c cs =>
        obtain ⟨tx, ix, fx, aa⟩ := c
        have mG := and_r m2
        refine x0a4 (and4 (and_l m2)) fun mB mI mF ma => ?_
        cases (beq_iff_eq.mp ma : aa = 0)
        (refine bpE h fun vs H1 h1 hh_ => ?_; clear h; revert hh_; intro h)
        (refine bpE h fun ws H2 h2 hh_ => ?_; clear h; revert hh_; intro h)
        (refine itE h fun hk hh_ => ?_; clear h; revert hh_; intro h)
        (apply sinjE h; clear h)
        · have O := scOk_of m0
          have hT : tgtsOf (.mk t it ifs :: gs) = tgtB t ++ tgtsOf gs := by simp [tgtsOf]
          refine ⟨_, _, _, _, rfl, rfl, fun use E Q k => ?_⟩
          refine x1a3 (closure_ok X (names := sc'.names) (fun x hx => (O.fre x hx).2) [] (fun x c e => by simp at e)) fun cl hc1 hc2 hc3 => ?_
          have hclos : closureFor sc' env = pure cl := by
            unfold closureFor
            have := congrArg (fun t : Sem (List (Str × Addr)) => t >>= fun cs => pure cs) hc1
            simp only [bind_pure] at this ⊢
            exact this
          refine wpAny_comprehension_free (use := use) (g := ⟨tx, ix, fx, 0⟩) (gs := cs) rfl (folded_plain mI) hclos O.kind (fun z hz hl => (O.loc z.1 (by rw [← hl]; exact hz)).1) ?_
          show wpAny (MM C) A (eval ix env) _ E s
          refine wpAny_mono (it_ok (Q := fun (xv : Value) (s₄ : Shared) => ∃ I ρ₂, xv = .ref I ∧ St C ρ₂ H1 s₄ ∧ Nx no ρ H s ρ₂ H1 s₄ ∧ ItR ρ₂ H1 s₄.heap I vs ∧ Loose C ρ₂ s₄.heap I ∧ s.heap.get? I = none) K EV mI h1 r S X fun I s₄ ρ₄ S₄ N₄ it₄ L₄ ab => ⟨I, ρ₄, rfl, S₄, N₄, it₄, L₄, ab⟩) (fun xv s₁ hp => ?_) fun _ _ e => e
          refine wpAny_mono hp (fun itv s₂ hq => ?_) fun _ _ e => e
          obtain ⟨I, ρ₂, rfl, S₂, N₂, it₂, L₂, ab⟩ := hq
          -- the list and the frame
          refine wpAny_newObj_type ?_
          refine wpAny_newFunctionEnv (fun z hz hl => O.cel z.1 (by rw [← hl]; exact hz)) (by intro y hy; simp at hy) (fun h' hns hsb => ?_) O.kind
          dsimp only at hns hsb ⊢
          generalize hH3 : s₂.heap.push { cls := .type "list", dict := none, data := .seq ([] : List Value).toArray } = h3 at hns hsb ⊢
          have hD0 := get?_end s₂.heap
          have hD3 : h3.get? s₂.heap.objs.size = some { cls := .type "list", dict := none, data := .seq ([] : List Value).toArray } := by rw [← hH3]; exact Heap.get?_push_size _ rfl
          have hk3 : ∀ b o, s₂.heap.get? b = some o → h3.get? b = some o := fun b o e => by rw [← hH3]; exact Heap.get?_push_of_some _ e
          have hL3 := get?_end h3
          have hk4 : ∀ b o, h3.get? b = some o → h'.get? b = some o := fun b o e => (hsb.2 b (fun z => by rw [z, hL3] at e; exact nn e)).trans (Heap.get?_push_of_some _ e)
          generalize hDD : s₂.heap.objs.size = D at hD0 hD3 ⊢
          generalize hLL : h3.objs.size = Lc at hns hL3 ⊢
          have hDL : D ≠ Lc := fun z => by rw [z, hL3] at hD3; exact nn hD3
          -- the state with the list hidden
          have hk24 : ∀ b o, s₂.heap.get? b = some o → h'.get? b = some o := fun b o e => hk4 b o (hk3 b o e)
          have hD4 : h'.get? D = some { cls := .type "list", dict := none, data := .seq ([] : List Value).toArray } := hk4 _ _ hD3
          have HD := S₂.hide (s' := { s₂ with heap := h', toks := s₂.toks + ([] : List (Str × Value)).length }) hD0 hk24 hD4 rfl rfl
          have Lat : Lasts ρ₂ H1 s₂.heap ⟨ρ₂.l, D :: ρ₂.z⟩ H1 h' := HD.2
          have hLs2 : s₂.heap.get? Lc = none := by
            cases e : s₂.heap.get? Lc with
            | none => rfl
            | some o => rw [hk3 _ _ e] at hL3; exact nn hL3.symm
          have X₄ := comp_env O (X.next S N₂) S₂ hLs2 hDL hk24 Lat hc2 (fun x hx => hc3 x (.inl hx)) hns
          have hW : ∀ q, Wc sc' (compEnvC sc' cl Lc env) D q → s.heap.get? q = none := fun q w => by
            rcases w with e | e | ⟨x, hx, _⟩
            · rw [e]; exact N₂.none_of hD0
            · rw [e]; exact N₂.none_of hLs2
            · exact absurd (lookup_mem hx) (O.cel _)
          have Na : Nx (Wc sc' (compEnvC sc' cl Lc env) D) ⟨ρ.l, D :: ρ.z⟩ H s ⟨ρ₂.l, D :: ρ₂.z⟩ H1 { s₂ with heap := h', toks := s₂.toks + ([] : List (Str × Value)).length } :=
            ⟨N₂.ext, by rw [N₂.z], fun q o e nn _ => hk24 q o (N₂.keep q o e nn id), N₂.fresh, fun q o e => x1a1 (N₂.pres q o e) fun o' e' => ⟨o', hk24 q o' e'⟩, fun q o w e => nn ((hW q w).symm.trans e), N₂.news⟩
          have A₄ : Acc C sc' (compEnvC sc' cl Lc env) ⟨ρ₂.l, D :: ρ₂.z⟩ H1 { s₂ with heap := h', toks := s₂.toks + ([] : List (Str × Value)).length } (ldel (n_dot0 :: tgtsOf (.mk t it ifs :: gs)) lo) D [] :=
            ⟨HD.1, X₄, List.mem_cons_self, #[], ⟨_, hD4, rfl, _, rfl⟩, .nil⟩
          have it₄ : ItR ⟨ρ₂.l, D :: ρ₂.z⟩ H1 h' I vs := it₂.keep Lat (fun o e => hk24 I o e)
          have L₄ : Loose C ⟨ρ₂.l, D :: ρ₂.z⟩ h' I := by
            obtain ⟨⟨o, ho, hd⟩, b, c, d⟩ := L₂
            refine ⟨⟨o, hk24 I o ho, hd⟩, b, c, fun m => ?_⟩
            rcases List.mem_cons.mp m with rfl | m
            · rw [hD0] at ho; exact nn ho
            · exact d m
          rw [hT] at mN
          refine start_ok (env := compEnvC sc' cl Lc env) (d := 0) (tx := tx) (ix := ix) (fx := fx) rfl it₄ ?_
          refine loop_ok (env := compEnvC sc' cl Lc env) K EV TR m1 gs (d := 0) rfl mB mF mG mN vs h2 (fun i hi => ?_) r A₄ it₄ L₄ (by simpa using okLen_le hk) ab Na fun s' ρ' a' n' => ?_
          · rw [lk_ldel, if_pos]
            rw [hT]
            exact List.any_eq_true.mpr ⟨i, List.mem_cons_of_mem _ hi, Nat.beq_refl i⟩
          · have Z := comp_show O.cel a' n' S (N₂.none_of hD0) (N₂.none_of hLs2)
            exact k D Lc s' _ Z.1 Z.2.1 Z.2.2.1 Z.2.2.2.1 Z.2.2.2.2 (N₂.none_of hLs2)

/-- what the frame of a comprehension does at its end -/
theorem comp_leave (S : St C ρ H s) {Lc : Addr} (L : Loose C ρ s.heap Lc) {h' : Heap} (hs : Heap.SameBut Lc s.heap h') {s₀ : Shared} {ρ₀ : Rh} {H₀ : Hp} (N : Nx W ρ₀ H₀ s₀ ρ H s) (h0 : s₀.heap.get? Lc = none) :
    St C ρ H { s with heap := h' } ∧ Nx W ρ₀ H₀ s₀ ρ H { s with heap := h' } ∧ Lasts ρ H s.heap ρ H h' := by
  have hk : ∀ q o, q ≠ Lc → s.heap.get? q = some o → h'.get? q = some o := fun q o e g => (hs.2 q e).trans g
  refine x0a2 (S.turnL (s' := { s with heap := h' }) L hk rfl rfl) fun S' La => ?_
  exact ⟨S', N.freely h0 hk, La⟩

theorem ev_comp {G : Glo} (K : CfgOK C G) (EV : EvOK C n R) (TR : TrOK C n R) {elt : E} {gens : List Mini.G} {x : Expr} {v : V} (hm : mtE (f + 1) sc (.comp elt gens) x = true)
    (h : compV R elt gens lo H = some (v, H'))
    (r : Room n A) (S : St C ρ H s) (X : EnvOK C sc env ρ H s.heap lo) : Runs C A (eval x env) ρ H s v H' := by
  obtain ⟨y, cs, sc', p, rfl, hasy, core⟩ := comp_core K EV TR hm h r S X
  intro E Q k
  rw [eval_ListComp, hasy]
  refine core none E Q fun D Lc s' ρ' S' N' rv L hm h0 => ?_
  refine x1a1 hm fun m hm => ?_
  refine ⟨m, hm, fun h'' hs => ?_⟩
  refine x0a3 (comp_leave S' L hs N' h0) fun S₅ N₅ La => ?_
  exact k _ _ _ S₅ N₅ (rv.lasts La)
end
end Mini
end
section
set_option autoImplicit false
namespace Mini
open PySem PySem.Calls PyProof.Rows
open PySem.W (Frag dictOf Looks findIn typeIn keepIn makesIn plainGet hasDictIn plainOver getL)

inductive FlR (ρ : Rh) (H : Hp) (h : Heap) : Fl → Flow → Prop
  | nxt : FlR ρ H h .nxt .next
  | cont : FlR ρ H h .cont .cont
  | ret {v : V} {x : Value} : VR ρ H h v x → FlR ρ H h (.ret v) (.ret x)

/-- what a statement does -/
noncomputable def RunsS (C : Cfg) (A : Around) (sc : Scope) (env : Env) (t : Sem Flow) (ρ : Rh) (H : Hp) (s : Shared) (fl : Fl) (lo' : Lo) (H' : Hp) : Prop := ∀ (E : Value → Shared → Prop) (Q : Flow → Shared → Prop),
  (∀ fl' s' ρ', St C ρ' H' s' → Nx (Wr sc env) ρ H s ρ' H' s' → EnvOK C sc env ρ' H' s'.heap lo' → FlR ρ' H' s'.heap fl fl' → Q fl' s') → wpAny (MM C) A t Q E s
theorem RunsS.eq {C : Cfg} {A : Around} {sc : Scope} {env : Env} {t : Sem Flow} {ρ : Rh} {H H1 H' : Hp} {s : Shared} {f1 fl : Fl} {l1 lo' : Lo} (h : (f1, l1, H1) = (fl, lo', H')) (k : RunsS C A sc env t ρ H s f1 l1 H1) : RunsS C A sc env t ρ H s fl lo' H' := by
  (refine pinj3E h ?_; clear h); exact k

/-- a level's statements are right -/
noncomputable def ExOK (C : Cfg) (n : Nat) (R : Sems) : Prop := ∀ (f : Nat) (sc : Scope) (env : Env) (b : List S) (xs : List Stmt) (lo : Lo) (H : Hp) (fl : Fl) (lo' : Lo) (H' : Hp),
  mtSs (mtS f sc) b xs = true → R.exs b lo H = some (fl, lo', H') → ∀ (A : Around) (s : Shared) (ρ : Rh), Room n A → St C ρ H s → EnvOK C sc env ρ H s.heap lo → RunsS C A sc env (execs xs env) ρ H s fl lo' H'

section
variable {C : Cfg} {sc sc' : Scope} {env : Env} {lo lo' : Lo} {A : Around} {R : Sems} {n : Nat} {f : Nat} {ρ ρ' : Rh} {H H' : Hp} {s s' : Shared} {W : Addr → Prop} {a D : Addr} {acc : List V}

set_option tactic.hygienic true in
theorem cellsFrom_some : ∀ (names : List (Str × NameKind)) (k : Nat) (acc : List (Str × Addr)) (x : Str), ((x, NameKind.cell) ∈ names ∨ (acc.lookup x).isSome = true) → ((cellsFrom k names acc).lookup x).isSome = true
  | [], k, acc, x, h => by simpa [cellsFrom] using h
  | (y, kd) :: r, k, acc, x, h => by
    unfold cellsFrom
    split
    · rename_i hk
      refine cellsFrom_some r (k + 1) _ x ?_
      rcases h with h | h
      · rcases List.mem_cons.mp h with e | h
        · (refine x0a2 (pinj e) fun e1_ e2_ => ?_; clear e; subst e1_; subst e2_); exact .inr (by simp)
        · exact .inl h
      · refine .inr ?_
        rw [List.lookup_cons]
        cases x == y <;> simp [h]
    · rename_i hk
      refine cellsFrom_some r k acc x ?_
      rcases h with h | h
      · rcases List.mem_cons.mp h with e | h
        · (refine x0a2 (pinj e) fun e1_ e2_ => ?_; clear e; subst e1_; subst e2_); exact absurd rfl hk
        · exact .inl h
      · exact .inr h

theorem bindG {F : List (Str × Value) → (Str → Option Value) → Str → Option Value} {g : Str → Value → (Str → Option Value) → Str → Option Value} (h1 : ∀ n v r m, F ((n, v) :: r) m = F r (g n v m)) {i : Nat} (h0 : ∀ m, F [] m (nm i) = m (nm i)) (hg : ∀ n v m, g n v m (nm i) = if nm i = n then some v else m (nm i)) {h : Heap} {v : V} {vs : List V} {ys : List Value} (rv : VRs ρ H h vs ys) :
    ∀ (ns : List Nat) (m : Str → Option Value), (ns.map nm).Nodup → (lk (ns.zip vs) i = some v → ∃ x, F ((ns.map nm).zip ys) m (nm i) = some x ∧ VR ρ H h v x) ∧ (i ∉ ns → F ((ns.map nm).zip ys) m (nm i) = m (nm i)) := by
  refine VRs.ind (q := fun vs ys => ∀ (ns : List Nat) (m : Str → Option Value), (ns.map nm).Nodup → (lk (ns.zip vs) i = some v → ∃ x, F ((ns.map nm).zip ys) m (nm i) = some x ∧ VR ρ H h v x) ∧ (i ∉ ns → F ((ns.map nm).zip ys) m (nm i) = m (nm i)))
    (fun ns m _ => ?_) (fun {u y vs ys} r _ ih ns m hn => ?_) rv
  · rw [List.zip_nil_right, List.zip_nil_right]; exact ⟨fun e => nn e, fun _ => h0 m⟩
  induction ns using List.casesOn with
  | nil => exact ⟨fun e => nn e, fun _ => h0 m⟩
  | cons j ns =>
    replace hn := List.nodup_cons.mp hn
    replace ih := ih ns (g (nm j) y m) hn.2
    rw [show F (((j :: ns).map nm).zip (y :: ys)) m = F ((ns.map nm).zip ys) (g (nm j) y m) from h1 _ _ _ _]
    refine ⟨fun e => ?_, fun hni => ?_⟩
    · replace e := (lk_cons j u (ns.zip vs) i).symm.trans e
      by_cases q : i = j
      · rw [if_pos q] at e
        exact ⟨y, (ih.2 fun hm => hn.1 (List.mem_map.mpr ⟨i, hm, congrArg nm q⟩)).trans ((hg _ _ _).trans (if_pos (congrArg nm q))), Option.some.inj e ▸ r⟩
      · rw [if_neg q] at e
        exact ih.1 e
    · rw [ih.2 (fun m => hni (.tail _ m)), hg, if_neg fun e : nm i = nm j => hni (nm_inj e ▸ .head _)]
theorem bindL_get {kindOf : Str → Option NameKind} {ns : List Nat} {vs : List V} {ys : List Value} {h : Heap} (rv : VRs ρ H h vs ys) (hn : (ns.map nm).Nodup) {m : Str → Option Value} {i : Nat} {v : V} (hk : kindOf (nm i) = some .local) (e : lk (ns.zip vs) i = some v) :
    ∃ x, bindL kindOf ((ns.map nm).zip ys) m (nm i) = some x ∧ VR ρ H h v x :=
  (bindG (F := bindL kindOf) (g := fun n v m => if kindOf n = some .local then fun y => if y = n then some v else m y else m) (fun _ _ _ _ => rfl) (fun _ => rfl) (fun n v m => by
    by_cases q : kindOf n = some .local
    · rw [if_pos q]
    · rw [if_neg q, if_neg fun e : nm i = n => q (e ▸ hk)]) rv ns m hn).1 e
theorem bindC_get {kindOf : Str → Option NameKind} {ns : List Nat} {vs : List V} {ys : List Value} {h : Heap} (rv : VRs ρ H h vs ys) (hn : (ns.map nm).Nodup) {m : Str → Option Value} {i : Nat} {v : V} (hk : kindOf (nm i) ≠ some .local) (e : lk (ns.zip vs) i = some v) :
    ∃ x, bindC kindOf ((ns.map nm).zip ys) m (nm i) = some x ∧ VR ρ H h v x :=
  (bindG (F := bindC kindOf) (g := fun n v m => if kindOf n = some .local then m else fun y => if y = n then some v else m y) (fun _ _ _ _ => rfl) (fun _ => rfl) (fun n v m => by
    by_cases q : kindOf n = some .local
    · rw [if_pos q, if_neg fun e : nm i = n => hk (e ▸ q)]
    · rw [if_neg q]) rv ns m hn).1 e

/-- a function of the program's own is called -/
theorem code_fn {G : Glo} (K : CfgOK C G) (EX : ExOK C n R) {fd : FDef} {fa : Addr} (F : Fn C fa fd) {vs : List V} {ys : List Value} {v : V} (h : callF R fd vs H = some (v, H')) (hdep : A.depth < 1000) (hroom : ∀ env, Room n (A.deeper env)) (S : St C ρ H s) (rv : VRs ρ H s.heap vs ys) {RR : Result → Shared → Prop}
    (k : ∀ x s' ρ', St C ρ' H' s' → Nx no ρ H s ρ' H' s' → VR ρ' H' s'.heap v x → RR (.ok (.ret x)) s') : codeAny (MM C) A (.call (.ref fa) ⟨ys, []⟩) RR s := by
  refine x4a3 F fun d as stmts m F hclo hfre => ?_
  unfold callF at h
  cases hl : Nat.beq vs.length fd.params.length with
  | false => rw [hl] at h; exact nn h
  | true =>
    rw [hl] at h
    simp only [cond_true] at h
    have hlen := Nat.eq_of_beq_eq_true hl
    refine x3a1 F.obj fun oc od sl hobj => ?_
    have hg := K.X.keeps S.base _ _ hobj
    have hal : as.length = ys.length := by
      rw [← rv.length, hlen]
      have := congrArg List.length F.names
      simpa using this
    refine codeAny_call_cells (binds := (as.map (·.arg)).zip ys) hdep hg rfl (K.lim.keeps S.base) (F.code.keeps S.base) F.body (bind_plain F.params F.dflt hal (by rw [F.names]; exact F.nodup)) hclo ?_ ?_ F.co F.gen F.kind
    · intro x hx
      have hx1 : x.1 ∈ fd.params.map nm := by
        rw [← F.names]
        exact (List.of_mem_zip (show (x.1, x.2) ∈ _ from hx)).1
      rcases F.loc x.1 hx1 with q | q
      · exact .inl q
      · exact .inr ⟨q, cellsFrom_some _ _ _ _ (.inl (lookup_mem q))⟩
    · intro s₁ I
      rw [F.names] at I
      obtain ⟨⟨h', tk, rfl⟩, hns, hkeep, hfresh⟩ := I.toInCall
      have hL0 : s.heap.get? (callEnvC d s.heap.objs.size fa).locals = none := by
        cases e : s.heap.get? (callEnvC d s.heap.objs.size fa).locals with
        | none => rfl
        | some o => exact absurd (Heap.lt_size e) (Nat.not_lt.mpr hfresh)
      have hc0 : ∀ x c, (callEnvC d s.heap.objs.size fa).cells.lookup x = some c → s.heap.get? c = none := fun x c e => by
        have := I.above x c (lookup_mem e)
        cases e : s.heap.get? c with
        | none => rfl
        | some o => exact absurd (Heap.lt_size e) (Nat.not_lt.mpr (Nat.le_of_lt (Nat.lt_of_le_of_lt hfresh this)))
      have FL := S.freshAt hL0
      refine x0a2 (S.grow (s' := { s with heap := h', toks := tk }) hkeep rfl rfl) fun S₁ N₁ => ?_
      have rv₁ := rv.lasts (N₁.lasts S)
      have X₁ : EnvOK C d.scope (callEnvC d s.heap.objs.size fa) ρ H h' (fd.params.zip vs) := by
        refine ⟨F.kind, F.glob, F.blt, fun x hx => hx, fun x hx => ⟨hx, ?_⟩, fun x hx => absurd hx (hfre x), fun x hx => hx, ⟨_, hns, fun i v hi hk => ?_⟩, fun i v hi hk => ?_, ⟨FL.own, fun x c _ e => (S.freshAt (hc0 x c e)).own⟩, ⟨FL.base, fun x c _ e => (S.freshAt (hc0 x c e)).base⟩,
          fun x y c _ e1 e2 => name_of_addr I.apart (lookup_mem e1) (lookup_mem e2), ⟨FL.ne, FL.z⟩⟩
        · refine x1a1 (Option.isSome_iff_exists.mp (cellsFrom_some d.scope.names (s.heap.objs.size + 1) [] x (.inl (lookup_mem hx)))) fun c hc => ?_
          exact ⟨c, _, hc, I.cell x c hc⟩
        · exact bindL_get (kindOf := (callEnvC d s.heap.objs.size fa).kindOf) rv₁ F.nodup hk hi
        · rcases hk with hk | hk
          · refine x1a1 (Option.isSome_iff_exists.mp (cellsFrom_some d.scope.names (s.heap.objs.size + 1) [] (nm i) (.inl (lookup_mem hk)))) fun c hc => ?_
            refine x1a2 (bindC_get (kindOf := (callEnvC d s.heap.objs.size fa).kindOf) (m := fun _ => none) (i := i) (v := v) rv₁ F.nodup (by show d.scope.names.lookup (nm i) ≠ _; rw [hk]; intro z; cases z) hi) fun x e1 r1 => ?_
            have hq := I.cell (nm i) c hc
            rw [e1] at hq
            exact ⟨c, x, hc, hq, r1⟩
          · exact absurd hk (hfre _)
      have hW : ∀ q, Wr d.scope (callEnvC d s.heap.objs.size fa) q → s.heap.get? q = none := fun q w => by
        rcases w with rfl | ⟨x, _, e⟩
        · exact hL0
        · exact hc0 x q e
      cases hb : R.exs fd.body (fd.params.zip vs) H with
      | none => rw [hb] at h; exact nn h
      | some z =>
        obtain ⟨fl, lo', H2⟩ := z
        rw [hb] at h
        refine EX m d.scope _ fd.body stmts _ H fl lo' H2 F.mt hb (A.deeper (callEnvC d s.heap.objs.size fa)) _ ρ (hroom _) S₁ X₁ _ _ fun fl' s₂ ρ₂ S₂ N₂ X₂ q => ?_
        have NN := Nx.close N₁ N₂ hW (fun _ _ _ e => e)
        induction q using Mini.FlR.casesOn with
        | nxt =>
          (refine x0a2 (sinj h) fun e1_ e2_ => ?_; clear h; subst e1_; subst e2_)
          exact k _ _ _ S₂ NN .none
        | cont => exact nn h
        | ret rr =>
          (refine x0a2 (sinj h) fun e1_ e2_ => ?_; clear h; subst e1_; subst e2_)
          exact k _ _ _ S₂ NN rr

theorem call_fn {G : Glo} (K : CfgOK C G) (EX : ExOK C n R) {fd : FDef} {fa : Addr} (F : Fn C fa fd) {vs : List V} {ys : List Value} {v : V} (h : callF R fd vs H = some (v, H')) (r : Room (n + 1) A) (S : St C ρ H s) (rv : VRs ρ H s.heap vs ys) :
    Runs C A (call (.ref fa) ys) ρ H s v H' := fun E Q k =>
  wpAny_call (code_fn K EX F h (by have := r.2.1; (clear h; lia)) (fun env => r.deep) S rv k)
end
end Mini
end
section
set_option autoImplicit false
namespace Mini
open PySem PySem.Calls
section
variable {prog : Program} {w : World} {A : Around} {E : Value → Shared → Prop} {s : Shared}

theorem tell_mixed {a : Addr} {k : V} {stored : List Value} {Q : Bool → Shared → Prop} (hkey : KR s.heap k (.ref a)) (hkk : V.key 4 k = true)
    (hst : ∀ v ∈ stored, ∃ i t, v = .int i t) (h : Q false s) : wpAny (model prog w) A (tableMayTell (.ref a) stored) Q E s := by
  unfold tableMayTell
  split
  · exact wpAny_pure h
  · refine wpAny_bind (quiet_ind.1 hkey 8 _ _ _ _ (key_mono 4 8 _ (by (clear hkk; lia)) hkk) rfl ?_)
    simp only [Bool.not_true, Bool.false_eq_true, if_false]
    refine wpAny_bind ?_
    refine wpAny_forIn_list _ (fun rest r s' => s' = s ∧ r = (none, ()) ∧ ∀ v ∈ rest, ∃ i t, v = .int i t) _ ?_ ?_ _ _ ⟨rfl, rfl, hst⟩
    · rintro x rest r s' ⟨rfl, rfl, hr⟩
      obtain ⟨i, t, rfl⟩ := hr x List.mem_cons_self
      refine wpAny_bind (quiet_ind.1 (.int i t) 8 _ _ _ _ rfl rfl ?_)
      simp only [Bool.not_true, Bool.false_eq_true, if_false]
      exact wpAny_pure ⟨rfl, rfl, fun v hv => hr v (List.mem_cons_of_mem _ hv)⟩
    · rintro r s' ⟨rfl, rfl, _⟩
      exact wpAny_pure h

theorem find_mixed {d a : Addr} {o : Obj} {es ep} {ts : List V} {hsh : Int} {Q : Option Nat → Shared → Prop} (hu : A.units + 60 < cLine) (hkey : KR s.heap (.tup ts) (.ref a)) (hkk : V.key 4 (.tup ts) = true)
    (ho : s.heap.get? d = some o) (hd : o.data = .dict es ep) (his : ∀ e ∈ es, ∃ i t, e.key = .int i t) (h : Q none s) :
    wpAny (model prog w) A (dictFind d (.ref a) hsh) Q E s := by
  have hany : ¬ (es.any fun e => e.key == Value.ref a && e.hash != hsh) = true := by
    rw [← Array.any_toList, List.any_eq_true]
    rintro ⟨e, hin, hc⟩
    obtain ⟨i, t, q⟩ := his e (Array.mem_toList_iff.mp hin)
    simp only [q, Bool.and_eq_true, beq_iff_eq] at hc
    exact nomatch hc.1
  have hst : ∀ v ∈ (placesWithHash es.size (fun i => es[i]?.map (·.hash)) hsh).filterMap (fun i => es[i]?.map (·.key)), ∃ i t, v = .int i t := by
    intro v hv
    obtain ⟨i, _, hi⟩ := List.mem_filterMap.mp hv
    cases hei : es[i]? with
    | none => rw [hei] at hi; exact nn hi
    | some e =>
      rw [hei] at hi
      obtain rfl : e.key = v := by simpa using hi
      exact his e (Array.mem_of_getElem? hei)
  unfold dictFind
  try with_reducible refine wpAny_holding ?_
  refine wpAny_bind (wpAny_dictEntries ho hd ?_)
  dsimp only
  rw [if_neg (show ¬ ((Value.ref a :: (placesWithHash es.size (fun i => es[i]?.map (·.hash)) hsh).filterMap (fun i => es[i]?.map (·.key))).all carriedByValue) = true by simp [carriedByValue])]
  rw [if_neg hany]
  by_cases hone : (((placesWithHash es.size (fun i => es[i]?.map (·.hash)) hsh).filterMap (fun i => es[i]?.map (·.key))) == [Value.ref a]) = true <;>
  (first | rw [if_pos hone] | rw [if_neg hone]) <;> (first | refine wpAny_bind (wpAny_pure ?_) | refine wpAny_bind (tell_mixed hkey hkk hst ?_)) <;> (
    rw [if_neg (by simp)]
    refine wpAny_bind ?_
    refine wpAny_forIn_list _
      (fun rest b s' => s' = s ∧ b = (none, none) ∧ ∀ x ∈ rest, x < es.size) _ ?_ ?_ _ _
      ⟨rfl, rfl, fun x hx => by rw [placesWithHash] at hx; exact List.mem_range.1 (List.mem_filter.1 hx).1⟩
    · rintro x rest b s' ⟨rfl, rfl, hr⟩
      have hlt := hr x List.mem_cons_self
      have hr' : ∀ y ∈ rest, y < es.size := fun y hy => hr y (List.mem_cons_of_mem _ hy)
      obtain ⟨e, hex⟩ : ∃ e, es[x]? = some e := ⟨es[x], Array.getElem?_eq_getElem hlt⟩
      obtain ⟨i, t, q⟩ := his e (Array.mem_of_getElem? hex)
      obtain ⟨eh, ek, ev⟩ := e
      simp only at q
      subst q
      rw [hex]
      dsimp only
      by_cases hh : (eh == hsh) = true
      · rw [if_pos hh]
        refine wpAny_bind (wpAny_dictEpoch ho hd (wpAny_bind (KR.eqBool (n := 0) (m := 4) (.int i t) hkey rfl hkk (by (clear hh hex hlt ho hone hany hd hkk hu; lia)) hu (wpAny_bind (wpAny_dictEpoch ho hd ?_)))))
        show wpAny _ _ (if (ep != ep) = true then _ else _) _ E _
        rw [if_neg (by simp)]
        rw [decide_eq_false (show ¬ (V.int i = V.tup ts) from fun e => by cases e)]
        simp only [Bool.false_eq_true, if_false]
        refine wpAny_bind (wpAny_rule ?_)
        first | rw [if_neg (by simp)] | skip
        first
          | exact wpAny_pure ⟨rfl, rfl, hr'⟩
          | exact wpAny_bind (wpAny_pure (wpAny_pure ⟨rfl, rfl, hr'⟩))
      · rw [if_neg hh]
        exact wpAny_pure ⟨rfl, rfl, hr'⟩
    · rintro b s' ⟨rfl, rfl, _⟩
      exact wpAny_pure h)

theorem get_mixed {d a : Addr} {xs : List (Int × Value)} {ts : List V} {Q : Option Value → Shared → Prop} (hu : A.units + 60 < cLine) (hkey : KR s.heap (.tup ts) (.ref a)) (hkk : V.key 4 (.tup ts) = true) (hm : s.heap.DictOf (intKind prog w) d xs)
    (h : Q none { s with toks := s.toks + keyDraws (.tup ts) }) : wpAny (model prog w) A (dictGet d (.ref a)) Q E s := by
  obtain ⟨o, es, ep, ho, hx, hd, hk, hp, hn⟩ := hm
  unfold dictGet
  try with_reducible refine wpAny_holding ?_
  refine wpAny_bind (hash_ind.1 hkey 4 _ _ _ _ hkk rfl (by (clear hd ho hkk; lia)) (wpAny_bind (find_mixed (s := { s with toks := s.toks + keyDraws (.tup ts) }) hu hkey hkk ho hd ?_ ?_)))
  · intro e he
    obtain ⟨k, q, _⟩ := hk e he
    cases hkey : e.key with
    | int i t => exact ⟨i, t, rfl⟩
    | _ => rw [hkey] at q; exact absurd q (by simp [intKind, Value.isInt])
  · exact wpAny_pure h
end

/-! is it among a dict's values -/
theorem no_contains : typeLookup (.type "dict_values") "__contains__" = pure none := by rw [typeLookup_type, builtinLookup_eq_fast]; kernel_rfl
theorem plain_ci : plainId "proto.contains_iter" = true := by decide +kernel
theorem entry_ci : entryFor table "proto.contains_iter" = some Builtin.«proto.contains_iter» := entryFor_of_fast (by kernel_rfl)
section
variable {C : Cfg} {A : Around} {ρ : Rh} {H : Hp} {s : Shared}
theorem PR.place {h : Heap} : ∀ {l : List (Int × V)} {xs : List (Int × Value)}, PR id ρ H h l xs → ∀ i : Nat, (l[i]? = none ∧ xs[i]? = none) ∨ ∃ k u v, l[i]? = some (k, u) ∧ xs[i]? = some (k, v) ∧ VR ρ H h u v
  | _, _, .nil, i => .inl ⟨rfl, rfl⟩
  | _, _, .cons (k := k) (v := u) (x := v) a b, 0 => .inr ⟨k, u, v, rfl, rfl, a⟩
  | _, _, .cons a b, i+1 => by simpa using PR.place b i
theorem eqv_of {u a : V} {x y : Value} (ru : VR ρ H s.heap u x) (ra : VR ρ H s.heap a y) (fu : u.flat = true) (fa : a.flat = true) (hu : A.units + 60 < cLine) {E : Value → Shared → Prop} {Q : Bool → Shared → Prop} (h : Q (V.beq u a) s) : wpAny (MM C) A (eqBool x y) Q E s := by
  obtain ⟨i, hi, hi'⟩ := flat_dep fu
  obtain ⟨j, hj, hj'⟩ := flat_dep fa
  obtain ⟨as, r1, l1, d1⟩ := ru.reads hi
  obtain ⟨bs, r2, l2, d2⟩ := ra.reads hj
  refine SeqAt.eqBoolOverData _ _ A E s x y _ _ _ _ Q r1 r2 l1 l2 ?_ ?_
  · have : min (V.py u).depth (V.py a).depth ≤ (V.py u).depth := Nat.min_le_left _ _
    (clear this d2 l2 l1 hj' hj hi fa fu; lia)
  · rw [beq_py u a (by rw [hi]; rfl) (by rw [hj]; rfl)]; exact h
theorem flats_at : ∀ {l : List (Int × V)} {i : Nat} {k : Int} {u : V}, V.flats (l.map (·.2)) = true → l[i]? = some (k, u) → u.flat = true
  | [], i, k, u, _, h => by simp at h
  | (j, w) :: l, 0, k, u, h, g => by
    simp only [List.getElem?_cons_zero, Option.some.injEq, Prod.mk.injEq] at g
    obtain ⟨rfl, rfl⟩ := g
    have h : (w.flat && V.flats (l.map (·.2))) = true := h
    rw [Bool.and_eq_true] at h; exact h.1
  | (j, w) :: l, i+1, k, u, h, g => by
    have h : (w.flat && V.flats (l.map (·.2))) = true := h
    rw [Bool.and_eq_true] at h
    exact flats_at h.2 (by simpa using g)
theorem ci_loop {I d : Addr} {ep : Nat} {xs : List (Int × Value)} {l : List (Int × V)} {a : V} {y : Value} (fl : V.flats (l.map (·.2)) = true) (fa : a.flat = true) (dI : d ≠ I) (hh : A.handled = none) (hu : A.units + 70 < cLine) {R : Result → Shared → Prop} : ∀ (k i : Nat) (s : Shared), xs.length - i = k → St C ρ H s → Loose C ρ s.heap I → s.heap.IsValIter I d i xs.length ep → s.heap.DictAt (intKind C.prog C.w) d xs ep → PR id ρ H s.heap l xs → VR ρ H s.heap a y →
    (∀ s', St C ρ H s' → (∀ q o, q ≠ I → s.heap.get? q = some o → s'.heap.get? q = some o) → R (.ok (.ret (.bool ((l.drop i).any fun p => V.beq p.2 a)))) s') → codeAny (MM C) A (.builtin "proto.contains_iter" ⟨[.ref I, y], []⟩) R s := by
  intro k
  induction k with
  | zero =>
    intro i s hk S L hit hd pr ra hR
    refine codeAny_builtin entry_ci ?_
    rw [Around.under_plainId plain_ci]
    unfold Builtin.«proto.contains_iter»
    have hx : xs[i]? = none := List.getElem?_eq_none (by (clear hu hh dI fa fl; lia))
    have hl : l[i]? = none := by
      rcases pr.place i with ⟨h, _⟩ | ⟨_, _, _, _, h, _⟩
      · exact h
      · rw [hx] at h; exact nn h
    refine wpAny_bind (wpAny_pyNext_values_end (A := A.in1) hh hit hd hx fun h' hs => ?_)
    have hk : ∀ q o, q ≠ I → s.heap.get? q = some o → h'.get? q = some o := fun q o e g => hs q o e g
    obtain ⟨S', La⟩ := S.turnL (s' := { s with heap := h' }) L hk rfl rfl
    refine wpAny_bind (wpAny_rule (wpAny_pure ?_))
    have := hR _ S' hk
    rw [List.drop_eq_nil_of_le (List.getElem?_eq_none_iff.1 hl)] at this
    exact this
  | succ k ih =>
    intro i s hk S L hit hd pr ra hR
    refine codeAny_builtin entry_ci ?_
    rw [Around.under_plainId plain_ci]
    unfold Builtin.«proto.contains_iter»
    rcases pr.place i with ⟨_, h⟩ | ⟨key, u, v, hl, hx, ru⟩
    · rw [List.getElem?_eq_none_iff] at h; (clear hu hh dI fa fl; lia)
    refine wpAny_bind (wpAny_pyNext_values_item (A := A.in1) hit hd hx fun h' hit' hs => ?_)
    have hk2 : ∀ q o, q ≠ I → s.heap.get? q = some o → h'.get? q = some o := fun q o e g => (hs.2 q e).trans g
    obtain ⟨S', La⟩ := S.turnL (s' := { s with heap := h' }) L hk2 rfl rfl
    have L' : Loose C ρ h' I := by
      obtain ⟨o', ho', hc', hd'⟩ := id hit'
      exact ⟨⟨o', ho', by rw [hd']; intro _ _ z; cases z⟩, L.new, L.apart, L.z⟩
    refine wpAny_bind (eqv_of (s := { s with heap := h' }) (ρ := ρ) (H := H) (ru.lasts La) (ra.lasts La) (flats_at fl hl) fa (by show A.units + 1 + 60 < cLine; (clear hx hl hk hh dI fa fl; lia)) ?_)
    have e : (l.drop i).any (fun p => V.beq p.2 a) = (V.beq u a || (l.drop (i + 1)).any fun p => V.beq p.2 a) := by
      have hlt : i < l.length := by
        rcases Nat.lt_or_ge i l.length with q | q
        · exact q
        · rw [List.getElem?_eq_none q] at hl; exact nn hl
      rw [List.drop_eq_getElem_cons hlt, List.any_cons]
      rw [List.getElem?_eq_getElem hlt] at hl
      have hl' := Option.some.inj hl
      rw [hl']
    cases hb : V.beq u a with
    | true =>
      refine wpAny_bind (wpAny_rule (wpAny_pure ?_))
      have := hR _ S' hk2
      rw [e, hb] at this; exact this
    | false =>
      refine wpAny_pure ⟨plainId_quiet plain_ci _, ?_⟩
      refine ih (i + 1) { s with heap := h' } (by (clear hb e hx hl hu hh dI fa fl; lia)) S' L' hit' (hd.at fun o g => hk2 d o dI g) (pr.lasts La) (ra.lasts La) fun s' S2 k2 => ?_
      have := hR s' S2 fun q o e g => k2 q o e (hk2 q o e g)
      rw [e, hb] at this; exact this
theorem contains_values {vw d : Addr} {xs : List (Int × Value)} {l : List (Int × V)} {a : V} {y : Value} (S : St C ρ H s) (hv : s.heap.IsValuesView vw d) (hd : s.heap.DictOf (intKind C.prog C.w) d xs) (pr : PR id ρ H s.heap l xs) (ra : VR ρ H s.heap a y) (fl : V.flats (l.map (·.2)) = true) (fa : a.flat = true) (hh : A.handled = none) (hu : A.units + 70 < cLine) {E : Value → Shared → Prop} {Q : Value → Shared → Prop}
    (h : ∀ s', St C ρ H s' → (∀ q o, s.heap.get? q = some o → s'.heap.get? q = some o) → Q (.bool (l.any fun p => V.beq p.2 a)) s') : wpAny (MM C) A (compareOp .In y (.ref vw)) Q E s := by
  obtain ⟨ep, hd⟩ := hd.dictAt
  show wpAny _ _ (do return .bool (← contains (.ref vw) y)) Q E s
  refine wpAny_bind ?_
  unfold contains
  rw [stdlibNamesSay?_of_typeIs hv.typeIs]
  try with_reducible refine wpAny_holding ?_
  refine wpAny_bind (wpAny_specialOf hv.typeIs no_contains ?_)
  rw [if_neg (by decide)]
  refine wpAny_bind (wpAny_callSpecialUnlessNone?_none hv.typeIs no_contains ?_)
  refine wpAny_bind (wpAny_rule ?_)
  refine wpAny_bind (wpAny_tryCatch (wpAny_pyIter_values hv hd ?_))
  have fr : s.heap.get? s.heap.objs.size = none := get?_end s.heap
  have hk : ∀ q o, s.heap.get? q = some o → (s.heap.push { cls := .type "dict_valueiterator", data := .fields #[.ref d, .int 0 0, .int xs.length 0, .int ep 0] }).get? q = some o := fun q o e => Heap.get?_push_of_some _ e
  obtain ⟨S', N⟩ := S.grow (s' := { s with heap := s.heap.push { cls := .type "dict_valueiterator", data := .fields #[.ref d, .int 0 0, .int xs.length 0, .int ep 0] } }) hk rfl rfl
  have hI : (s.heap.push { cls := .type "dict_valueiterator", data := .fields #[.ref d, .int 0 0, .int xs.length 0, .int ep 0] }).get? s.heap.objs.size = some _ := Heap.get?_push_size _ rfl
  have dI : d ≠ s.heap.objs.size := Nat.ne_of_lt hd.lt_size
  refine wpAny_bind (wpAny_runValue ?_)
  refine ci_loop (I := s.heap.objs.size) (d := d) (ep := ep) (xs := xs) (l := l) (a := a) fl fa dI hh hu _ 0 _ rfl S' (.made S hI (fun _ _ z => by cases z) fr) ⟨_, hI, rfl, rfl⟩ (hd.push _) (pr.lasts (N.lasts S)) (ra.lasts (N.lasts S)) fun s' S2 k2 => ?_
  refine wpAny_pure (wpAny_pure ?_)
  refine h s' S2 fun q o e => k2 q o (fun z => ?_) (hk q o e)
  rw [z, fr] at e; exact nn e
theorem meets_get_mixed {d a : Addr} (hd : (d == sysModules) = false) (dflt : Value) : MeetsIn C.prog C.w (Builtin.«dict.get» ⟨[.ref d, .ref a, dflt], []⟩) (fun A R s => A.units + 70 < cLine ∧ ∃ (ts : List V) (xs : List (Int × Value)), KR s.heap (.tup ts) (.ref a) ∧ V.key 4 (.tup ts) = true ∧ s.heap.DictOf (intKind C.prog C.w) d xs ∧
      R (.ok (.ret dflt)) { s with toks := s.toks + keyDraws (.tup ts) }) :=
  .of_wp fun A R s ⟨hu, ts, xs, hk, hkk, hm, h⟩ => by
    show wpAny _ _ (dictGet d (.ref a) >>= _) _ _ s
    refine wpAny_bind (get_mixed (A := A.in1) (by show A.units + 1 + 60 < cLine; (clear hkk hu hd; lia)) hk hkk hm ?_)
    show wpAny _ _ (Builtin.Dict.missed d (.ref a) >>= _) _ _ _
    exact wpAny_bind (wpAny_missed_other hd (wpAny_pure ⟨dflt, rfl, h⟩))
end
end Mini
end
section
set_option autoImplicit false
namespace Mini
open PySem PySem.Calls PyProof.Rows
open PySem.W (Frag dictOf Looks findIn typeIn keepIn makesIn plainGet hasDictIn plainOver getL)

theorem nm_append : nm n_append = ("append" : Str) := by decide +kernel
theorem nm_get : nm n_get = ("get" : Str) := by decide +kernel

section
variable {C : Cfg} {sc sc' : Scope} {env : Env} {lo lo' : Lo} {A : Around} {R : Sems} {n : Nat} {f : Nat} {ρ ρ' : Rh} {H H' : Hp} {s s' : Shared} {W : Addr → Prop} {a D : Addr} {acc : List V}

theorem Fn.keeps {a : Addr} {fd : FDef} (F : Fn C a fd) : Keeps C (.ref a) := by
  refine x4a3 F fun d as stmts m F _ _ => ?_
  exact keeps_in F.keep

theorem ev_call {G : Glo} (K : CfgOK C G) (EV : EvOK C n R) (EX : ExOK C n R) {g : Nat} {args : List E} {x : Expr} {v : V} (hm : mtE (f + 1) sc (.call g args) x = true)
    (h : (lk C.P.funs g).bind (fun fd => (evs R args lo H).bind fun (vs, H) => callF R fd vs H) = some (v, H'))
    (r : Room (n + 1) A) (S : St C ρ H s) (X : EnvOK C sc env ρ H s.heap lo) : Runs C A (eval x env) ρ H s v H' := by
  have hx := mt_bk hm
  have m := and3 hx.2
  refine x1a3 (isGlob_of m.1) fun pp hy hl hd => ?_
  refine bsE h fun fd h1 ha => ?_
  refine bpE ha fun vs H1 h2 hb => ?_
  refine x1a2 (K.fn g fd h1) fun a ha F => ?_
  refine .of (x' := .Call (.Name (nm g) pp) (pt x).l [] (pt x).p) (hx.1.trans (congrArg (fun z => Expr.Call z (pt x).l [] (pt x).p) hy)) fun E Q k => ?_
  exact Call_Name rfl (wpAny_Name (loadGlob_ok K X S hl ha (args_ok K EV F.keeps m.2.1 h2 r.dec S X fun ys s₁ ρ₁ S₁ N₁ r₁ => call_fn K EX F hb r S₁ r₁ E Q fun x s₂ ρ₂ S₂ N₂ r₂ => k x s₂ ρ₂ S₂ (N₁.trans N₂) r₂)) hd)

theorem bi_gen {G : Glo} (K : CfgOK C G) (EV : EvOK C n R) {b : Bi} {args : List E} {y : Expr} {xs : List Expr} {p : Pos} {v : V} (hg : isGlob sc (biName b) y = true) (hm : mtEs (mtE f) sc args xs = true) (hb : b ≠ .isTuple ∧ b ≠ .isInt ∧ b ≠ .dict)
    (h : (evs R args lo H).bind (fun (vs, H) => callBi b vs H) = some (v, H'))
    (r : Room n A) (S : St C ρ H s) (X : EnvOK C sc env ρ H s.heap lo) : Runs C A (eval (.Call y xs [] p) env) ρ H s v H' := by
  refine bpE h fun vs H1 h2 hfin => ?_
  obtain ⟨pp, rfl, hl, hd⟩ := isGlob_of hg
  intro E Q k
  refine Call_Name rfl ?_
  refine wpAny_Name (loadBlt_ok K X S hl (bi_in b) (boot_bi b) ?_) hd
  refine args_ok K EV (keeps_bi b) hm h2 r S X fun ys s₁ ρ₁ S₁ N₁ r₁ => ?_
  exact callBi_ok S₁ r.1 r₁ hfin hb E Q fun x s₂ ρ₂ S₂ N₂ r₂ => k x s₂ ρ₂ S₂ (N₁.trans N₂) r₂
/-- isinstance: of a tuple, of an int -/
theorem two_parts {args : List E} {xs : List Expr} {T : Str} (hm : (match args, xs with | [a], [z, t] => mtE f sc a z && isGlob sc T t | _, _ => false) = true) : ∃ a z t, args = [a] ∧ xs = [z, t] ∧ mtE f sc a z = true ∧ isGlob sc T t = true := by
  induction args using List.casesOn with
  | nil => exact ff hm
  | cons a l => induction l using List.casesOn with
    | cons _ _ => exact ff hm
    | nil => induction xs using List.casesOn with
      | nil => exact ff hm
      | cons z xs => induction xs using List.casesOn with
        | nil => exact ff hm
        | cons t xs => induction xs using List.casesOn with
          | cons _ _ => exact ff hm
          | nil => exact ⟨a, z, t, rfl, rfl, and2 hm⟩
theorem bi_two {G : Glo} (K : CfgOK C G) (EV : EvOK C n R) {a : E} {y z t : Expr} {p : Pos} {u : V} {b : Bool} {T : String} (hg : isGlob sc "isinstance" y = true) (mz : mtE f sc a z = true) (ht : isGlob sc (T : Str) t = true)
    (hin : (T : Str) ∈ biNames) (hT : bootBuiltins T = some (.type T)) (h3 : R.ev a lo H = some (u, H')) (hr : ∀ {s₁ : Shared} {ρ₁ : Rh} {xu : Value}, St C ρ₁ H' s₁ → VR ρ₁ H' s₁.heap u xu → InstOK C A ρ₁ H' s₁ T xu b)
    (r : Room n A) (S : St C ρ H s) (X : EnvOK C sc env ρ H s.heap lo) : Runs C A (eval (.Call y [z, t] [] p) env) ρ H s (.bool b) H' := by
  obtain ⟨pp, e1, hl, hd⟩ := isGlob_of hg
  obtain ⟨pt, e2, hlt, hdt⟩ := isGlob_of ht
  rw [e1, e2]
  intro E Q k
  refine Call_Name rfl ?_
  refine wpAny_Name (loadBlt_ok K X S hl (by decide +kernel) (boot_bi .isInt) ?_) hd
  rw [show backTo p (starEach [z, .Name (T : Str) pt] env) = treesOf [z, .Name (T : Str) pt] env by rw [starEach_one (mtE_not f a z mz).1]; rfl]
  refine W.callWith_of (P := C.K.In) (trees_plain _) (keeps_builtin _) (evalArgs_plain ?_)
  show wpAny (MM C) A (spliced ((false, eval z env) :: treesOf [.Name (T : Str) pt] env)) _ E s
  refine wpAny_bind (EV f sc env a z lo H u _ mz h3 A s ρ r S X E _ fun x1 s₁ ρ₁ S₁ N₁ r₁ => ?_)
  refine wpAny_bind (wpAny_pure (wpAny_bind (wpAny_holding ?_)))
  refine wpAny_bind (wpAny_Name (loadBlt_ok K (X.next S N₁) S₁ hlt hin hT ?_) hdt)
  refine wpAny_bind (wpAny_pure (wpAny_bind (wpAny_holding (wpAny_pure (wpAny_pure (wpAny_pure ⟨K.X.keeps S₁.base, ?_⟩))))))
  exact (hr S₁ r₁).r E Q fun x s₂ ρ₂ S₂ N₂ r₂ => k x s₂ ρ₂ S₂ (N₁.trans N₂) r₂

theorem inst_parts {R : Sems} {a : E} {b : Bi} {v : V} {g : V → Bool} (hc : ∀ u H, callBi b [u] H = bif u.ref?.isSome then Option.none else some (.bool (g u), H)) (h : (evs R [a] lo H).bind (fun (vs, H) => callBi b vs H) = some (v, H')) : ∃ u, R.ev a lo H = some (u, H') ∧ u.ref? = Option.none ∧ v = .bool (g u) := by
  refine bpE h fun vs H1 h2 hb => ?_
  refine bpE h2 fun u H2 h3 h4 => ?_
  obtain ⟨e1, e2⟩ := sinj (show some ([u], H2) = some (vs, H1) from h4)
  rw [← e1, ← e2] at hb
  replace hb := (hc u H2).symm.trans hb
  cases hr : u.ref? with
  | some _ => rw [hr] at hb; exact nn hb
  | none =>
    rw [hr] at hb
    obtain ⟨e3, e4⟩ := sinj hb
    rw [e4] at h3
    exact ⟨u, h3, hr, e3.symm⟩
theorem ev_bi {G : Glo} (K : CfgOK C G) (EV : EvOK C n R) {b : Bi} {args : List E} {x : Expr} {v : V} (hm : mtE (f + 1) sc (.bi b args) x = true)
    (h : evStep C.P R (.bi b args) lo H = some (v, H'))
    (r : Room n A) (S : St C ρ H s) (X : EnvOK C sc env ρ H s.heap lo) : Runs C A (eval x env) ρ H s v H' := by
  have hx := mt_bk hm
  have hg := and_l hx.2
  have hm := and_r hx.2
  cases b with
  | isTuple =>
    obtain ⟨a, z, t, e1, e2, mz, ht⟩ := two_parts (T := "tuple") hm
    rw [e1] at h
    obtain ⟨u, h1, hr, e3⟩ := inst_parts (b := .isTuple) (g := fun u => u.tup?.isSome) (fun _ _ => rfl) h
    rw [e3]
    exact .of (x' := .Call (pt x).a [z, t] [] (pt x).p) (hx.1.trans (congrArg (fun l => Expr.Call (pt x).a l [] (pt x).p) e2)) (bi_two (T := "tuple") K EV hg mz ht (by decide +kernel) (by decide +kernel) h1 (fun S₁ ru => isT_ok S₁ hr ru) r S X)
  | isInt =>
    obtain ⟨a, z, t, e1, e2, mz, ht⟩ := two_parts (T := "int") hm
    rw [e1] at h
    obtain ⟨u, h1, hr, e3⟩ := inst_parts (b := .isInt) (g := fun u => u.num?.isSome) (fun _ _ => rfl) h
    rw [e3]
    exact .of (x' := .Call (pt x).a [z, t] [] (pt x).p) (hx.1.trans (congrArg (fun l => Expr.Call (pt x).a l [] (pt x).p) e2)) (bi_two (T := "int") K EV hg mz ht (by decide +kernel) (by decide +kernel) h1 (fun S₁ ru => isI_ok S₁ hr ru) r S X)
  | dict => exact ff hm
  | _ => exact .of (x' := .Call (pt x).a (pt x).l [] (pt x).p) hx.1 (bi_gen K EV hg (and_r (and_l hm)) ⟨by decide, by decide, by decide⟩ h r S X)

/-! methods -/
theorem meth_go {o : Expr} {name : Str} {apos pos : Pos} {ov : Value} {es : List E} {xs : List Expr} (hxs : mtEs (mtE f) sc es xs = true) (hl : (apos.endLine == pos.line) = true) (hn : Nat.ble es.length 20 = true) {E : Value → Shared → Prop} {Q : Value → Shared → Prop}
    (h : ∀ pl, wpAny (MM C) A (getMethod ov name pl) (fun p s' => wpAny (MM C) A (callWith pos p.1 p.2 (backTo pos (starEach xs env)) []) Q E s') E s) :
    wpAny (MM C) A (methodCall o name apos pos env ov (xs.length + ([] : List Keyword).length) (backTo pos (starEach xs env)) (backToKw pos (keywordEach [] env))) Q E s := by
  have hn := Nat.le_of_ble_eq_true hn
  rw [mtEs_length hxs] at hn
  have hform : methodCallForm (xs.length + ([] : List Keyword).length) (backTo pos (starEach xs env)) (backToKw pos (keywordEach [] env)) = true := by
    unfold methodCallForm
    rw [starEach_plain hxs, backTo_plain]
    have h1 : (treesOf xs env).all (fun x => !x.1) = true := by
      clear hxs hn h
      induction xs with
      | nil => rfl
      | cons x xs ih => simpa [treesOf] using ih
    rw [h1]
    show (true && true && decide (xs.length + 0 + 0 < 30)) = true
    simp; (clear h1 hl hxs; lia)
  have hpos : methodCallPos true o env apos pos = pure pos := by unfold methodCallPos; simp [hl]
  unfold methodCall
  rw [hform]
  refine wpAny_bind (wpAny_holding (wpAny_mono (h _) (fun p s' hp => ?_) fun _ _ e => e))
  exact wpAny_bind (wpAny_of_eq hpos hp)

theorem PlainList_typeIs {items : Array Value} (t : s.heap.PlainList a items) : s.TypeIs (.ref a) "list" := x1a1 t fun _ e => ⟨_, e, rfl⟩

theorem getD_map {α β : Type} (o : Option (α × β)) (d : β) : ((o.map (·.2)).getD d) = match o with | some p => p.2 | none => d := by induction o using Option.casesOn <;> rfl

theorem dictObj (S : St C ρ H s) {i : Nat} {o : O} {p : Addr × Addr} (hn : nth H i = some o) (hp : ρ[i]? = some p) (hd : o.isDict = true) : s.TypeIs (.ref p.1) "dict" ∧ ∃ ob, s.heap.get? p.1 = some ob ∧ ob.dict = none := by
  have := S.objs i o p hn hp
  cases o with
  | dI l => obtain ⟨_, xs, ⟨o, es, ep, ho, hx, _⟩, _⟩ := this; exact ⟨⟨o, ho, hx.1⟩, o, ho, hx.2.1⟩
  | dS l => obtain ⟨_, xs, ⟨o, es, ep, ho, hx, _⟩, _⟩ := this; exact ⟨⟨o, ho, hx.1⟩, o, ho, hx.2.1⟩
  | dT l => obtain ⟨_, xs, ⟨o, es, ep, ho, hx, _⟩, _⟩ := this; exact ⟨⟨o, ho, hx.1⟩, o, ho, hx.2.1⟩
  | _ => exact ff hd

theorem append_ok (S : St C ρ H s) {r : Nat} {l : List V} {p : Addr × Addr} {v : V} {y : Value} (hn : nth H r = some (.list l)) (hp : ρ[r]? = some p) (rv : VR ρ H s.heap v y) (hl : okLen l.length = true) :
    Runs C A (call (.builtin "list.append") [.ref p.1, y]) ρ H s .none (H.set r (.list (l ++ [v]))) := by
  obtain ⟨e, items, t, rl⟩ := S.objs r _ p hn hp
  have h1 := rl.length
  simp only [Array.length_toList] at h1
  have h2 := okLen_le hl
  intro E Q k
  refine wpAny_list_append_plain t (fun h' t' hb => ?_) (by rw [sizeLine_big]; (clear e hl hp hn; lia))
  have hz : ∃ o, h'.get? p.1 = some o := x1a1 t' fun _ e => ⟨_, e⟩
  obtain ⟨S', N⟩ := S.set (s' := { s with heap := h' }) hn rfl hp (o' := .list (l ++ [v])) (fun q x n1 _ g => (hb.2 q n1).trans g) ⟨hz, by rw [e]; exact hz⟩ rfl rfl
    (fun L => ⟨e, _, t', by rw [Array.toList_push]; exact (rl.lasts L).append (.cons (rv.lasts L) .nil)⟩)
  exact k _ _ _ S' N .none

theorem isKey_tup {kv : V} (h : kv.isKey = true) : ∃ ts, kv = .tup ts := by induction kv using Mini.V.casesOn <;> first | exact ⟨_, rfl⟩ | exact ff h
theorem get_obj {G : Glo} (K : CfgOK C G) (S : St C ρ H s) {r : Nat} {p : Addr × Addr} {kv d v : V} {x y : Value} (hp : ρ[r]? = some p) (rx : VR ρ H s.heap kv x) (ry : VR ρ H s.heap d y) (hu : A.units + 200 < cLine) : ∀ {o : O}, ObjR C ρ H s.heap p o → getV o kv d = some v →
    Runs C A (call (.builtin "dict.get") (.ref p.1 :: [x, y])) ρ H s v H
  | .dI l, ob, h => by
    have hz := S.not_sys K hp
    obtain ⟨_, xs, D, rl⟩ := ob
    cases hk : kv.isKey with
    | true =>
      replace h : (bif kv.isKey then some d else _) = _ := h
      rw [hk] at h
      refine x1a1 (isKey_tup hk) fun ts e => ?_
      rw [e] at hk rx
      rw [← Option.some.inj h]
      exact VR.tupE rx fun {_ _} t rr => Runs.here S fun E Q k => call_meetsIn F.slot_dict_get (mapOf_dict D).typeIs F.entry_dict_get (F.args_dict_get_3 _ _ _) (meets_get_mixed hz y) ⟨by clear h D; lia, ts, xs, (VR.tup t rr).kr (isKey_key hk), isKey_key hk, D, k _ _ ry rfl rfl rfl⟩
    | false =>
      replace h : (bif kv.isKey then some d else kv.int?.map fun i => (getI l i).getD d) = _ := h
      rw [hk] at h
      refine msE h fun i hi e => ?_
      rw [int?_some hi] at rx
      rw [← e]
      have M := mapOf_dict D
      refine VR.intE rx fun _ => Runs.here S fun E Q k => call_meetsIn F.slot_dict_get M.typeIs F.entry_dict_get (F.args_dict_get_3 _ _ _) (meets_dict_get_default (intKind C.prog C.w) p.1 (isInt_is _ _ i _) hz y) ⟨_, M, ?_⟩
      rcases rl.getI i with ⟨e1, e2⟩ | ⟨u, z, e1, e2, rz⟩
      · simp only [e2]; rw [e1] at k; exact k _ _ ry rfl rfl rfl
      · simp only [e2]; rw [e1] at k; exact k _ _ rz rfl rfl rfl
  | .dS l, ob, h => by
    have hz := S.not_sys K hp
    refine msE h fun i hi e => ?_
    obtain ⟨_, xs, D, rl⟩ := ob
    rw [str?_some hi] at rx
    rw [← e]
    have M := mapOf_dict D
    refine VR.strE rx fun _ => Runs.here S fun E Q k => call_meetsIn F.slot_dict_get M.typeIs F.entry_dict_get (F.args_dict_get_3 _ _ _) (meets_dict_get_default (PySem.strKind C.prog C.w) p.1 (isStr_is _ _ (nm i) _) hz y) ⟨_, M, ?_⟩
    rcases rl.getS i with ⟨e1, e2⟩ | ⟨u, z, e1, e2, rz⟩
    · simp only [e2]; rw [e1] at k; exact k _ _ ry rfl rfl rfl
    · simp only [e2]; rw [e1] at k; exact k _ _ rz rfl rfl rfl
  | .dT l, ob, h => by
    have hz := S.not_sys K hp
    (refine itE h fun hk hh_ => ?_; clear h; revert hh_; intro h)
    refine x1a1 (isKey_tup hk) fun ts e => ?_
    rw [e] at hk rx
    rw [← Option.some.inj h, e]
    obtain ⟨_, xs, D, rl⟩ := ob
    refine VR.tupE rx fun {_ _} t rr => ?_
    have is : (vKind C.prog C.w).is s.heap (.tup ts) _ := ⟨hk, (VR.tup t rr).kr (isKey_key hk)⟩
    have rm : (vKind C.prog C.w).room A.in1 := by show A.units + 1 + 60 < cLine; clear is h D; lia
    refine Runs.here S fun E Q k => call_meetsIn F.slot_dict_get D.typeIs F.entry_dict_get (F.args_dict_get_3 _ _ _) (meetsH_dict_get_default (vKind C.prog C.w) p.1 _ hz y) ⟨rm, _, _, is, D, ?_⟩
    rcases rl.getT (.tup ts) with ⟨e1, e2⟩ | ⟨u, b, z, e1, e2, rz⟩
    · simp only [e2]; rw [e1] at k; exact k _ _ ry rfl rfl rfl
    · simp only [e2]; rw [e1] at k; exact k _ _ rz rfl rfl rfl
  | .list _, _, h => by exact nn h
  | .inst _ _, _, h => by exact nn h
  | .dead, _, h => by exact nn h
theorem get_ok {G : Glo} (K : CfgOK C G) (S : St C ρ H s) {r : Nat} {o : O} {p : Addr × Addr} {vs : List V} {ys : List Value} {v : V} (hn : nth H r = some o) (hp : ρ[r]? = some p) (hd : o.isDict = true) (rv : VRs ρ H s.heap vs ys) (h : methB r o n_get vs H = some (v, H')) (hu : A.units + 200 < cLine) :
    Runs C A (call (.builtin "dict.get") (.ref p.1 :: ys)) ρ H s v H' := by
  have h0 : (two? vs).bind (fun x => (getV o x.1 x.2).map fun v => (v, H)) = some (v, H') := by induction o using Mini.O.casesOn <;> first | exact h | exact ff hd
  refine bsE h0 fun w hv h2 => ?_
  rw [two?_some hv] at rv
  refine msE h2 fun u h3 e => ?_
  refine x2a3 rv.two fun x y e2 rx ry => ?_
  rw [e2]
  exact .eq e (get_obj K S hp rx ry hu (S.objs r _ p hn hp) h3)
end
end Mini
end
section
set_option autoImplicit false
namespace Mini
open PySem PySem.Calls PyProof.Rows
open PySem.W (Frag dictOf Looks findIn typeIn keepIn makesIn plainGet hasDictIn plainOver getL)

section
variable {C : Cfg} {sc sc' : Scope} {env : Env} {lo lo' : Lo} {A : Around} {R : Sems} {n : Nat} {f : Nat} {ρ ρ' : Rh} {H H' : Hp} {s s' : Shared} {W : Addr → Prop} {a D : Addr} {acc : List V}

theorem at_ext {ρ ρ' : Rh} (h : ρ.l <+: ρ'.l) {i : Nat} {p : Addr × Addr} (e : ρ[i]? = some p) : ρ'[i]? = some p := getElem?_of_prefix h e

theorem ev_meth {G : Glo} (K : CfgOK C G) (EV : EvOK C n R) (EX : ExOK C n R) {o : E} {m : Nat} {args : List E} {x : Expr} {v : V} (hm : mtE (f + 1) sc (.meth o m args) x = true)
    (h : evStep C.P R (.meth o m args) lo H = some (v, H'))
    (r : Room (n + 1) A) (S : St C ρ H s) (X : EnvOK C sc env ρ H s.heap lo) : Runs C A (eval x env) ρ H s v H' := by
  have hx := mt_bk hm
  obtain ⟨y, ap, xs, p, hxx, m0, m3, mi, m2, mA, m4, m5⟩ : ∃ y ap xs p, x = .Call (.Attribute y (nm m) ap) xs [] p ∧ mtE f sc o y = true ∧ (ap.endLine == p.line) = true ∧ Nat.beq m n_init = false ∧ notSuper y = true ∧ True ∧ mtEs (mtE f) sc args xs = true ∧ Nat.ble args.length 20 = true := by
    have hy := bk_of (and_l hx.2)
    have q := and_r hx.2
    have q7 := and2 q
    have q6 := and2 q7.1
    have q5 := and2 q6.1
    have q4 := and2 q5.1
    have q3 := and3 q4.1
    have e : (pt (pt x).a).s = nm m := beq_iff_eq.mp q3.2.1
    refine ⟨(pt (pt x).a).a, (pt (pt x).a).p, (pt x).l, (pt x).p, ?_, q3.1, q5.2, by simpa using q3.2.2, q4.2, trivial, q6.2, q7.2⟩
    rw [← e]
    exact (hx.1.trans (congrArg (fun z => Expr.Call z (pt x).l [] (pt x).p) hy))
  subst hxx
  clear hx hm
  refine bpE h fun u H1 h1 h2 => ?_
  clear h
  refine bsE h2 fun rr hr h => ?_
  clear h2
  obtain rfl := ref?_some hr
  refine bsE h fun ob hn h2 => ?_
  clear h hr
  intro E Q k
  rw [arm_eval_Call, base_plain m2]
  refine wpAny_bind (EV f sc env o y lo H _ H1 m0 h1 A s ρ r.dec S X E _ fun x1 s₁ ρ₁ S₁ N₁ r₁ => ?_)
  cases r₁ with
  | @ref _ p1 hp =>
    refine wpAny_bind (wpAny_standAt ?_)
    refine meth_go m4 m3 m5 fun pl => ?_
    have X₁ := X.next S N₁
    have builtin : ∀ {T : String} {id : String}, PlainAttrs T → Slot T (nm m) id → typeOf (.builtin id) = pure (.type "method_descriptor") → s₁.TypeIs (.ref p1.1) T → (∃ ob, s₁.heap.get? p1.1 = some ob ∧ ob.dict = none) →
        ∀ {vs : List V} {H2 : Hp}, evs R args lo H1 = some (vs, H2) → (∀ {ys : List Value} {s₂ : Shared} {ρ₂ : Rh}, St C ρ₂ H2 s₂ → Nx no ρ₁ H1 s₁ ρ₂ H2 s₂ → VRs ρ₂ H2 s₂.heap vs ys → Runs C A (call (.builtin id) (.ref p1.1 :: ys)) ρ₂ H2 s₂ v H') →
        wpAny (MM C) A (getMethod (.ref p1.1) (nm m) pl) (fun p_1 s' => wpAny (MM C) A (callWith p p_1.1 p_1.2 (backTo p (starEach xs env)) []) Q E s') E s₁ := by
      intro T id pa slot hty hT hd vs H2 hz hfin
      refine getMethod_builtin hT pa slot hty (fun a e => by cases e; exact hd) ?_
      refine args_ok K EV (keeps_builtin _) m4 hz r.dec S₁ X₁ fun ys s₂ ρ₂ S₂ N₂ r₂ => ?_
      exact hfin S₂ N₂ r₂ E Q fun x s₃ ρ₃ S₃ N₃ r₃ => k x s₃ ρ₃ S₃ ((N₁.trans N₂).trans N₃) r₃
    cases hi : ob.inst? with
    | none =>
      rw [hi] at h2
      refine bpE h2 fun vs H2 h3 h => ?_
      clear h2
      refine bsE h fun ob2 hn2 h2 => ?_
      clear h
      refine itE h2 fun hc h => ?_
      clear h2
      rcases (Bool.or_eq_true _ _).mp hc with q | q
      · have q := and3 q
        have em := Nat.eq_of_beq_eq_true q.1
        subst em
        obtain ⟨l, rfl⟩ : ∃ l, ob = .list l := by induction ob using Mini.O.casesOn <;> first | exact ⟨_, rfl⟩ | cases q.2.1
        obtain ⟨l2, rfl⟩ : ∃ l, ob2 = .list l := by induction ob2 using Mini.O.casesOn <;> first | exact ⟨_, rfl⟩ | cases q.2.2
        obtain ⟨_, items, t, _⟩ := S₁.objs rr _ p1 hn hp
        rw [nm_append] at *
        refine builtin F.plainAttrs_list slot_list_append type_list_append (PlainList_typeIs t) (x1a1 t fun _ e => ⟨_, e, rfl⟩) h3 fun {ys s₂ ρ₂} S₂ N₂ rv => ?_
        refine bsE h fun w hw h2 => ?_
        clear h
        obtain rfl := one?_some hw
        refine itE h2 fun hl h => ?_
        clear h2
        (refine sinjE h ?_; clear h)
        obtain ⟨z, rfl, rz⟩ := rv.one
        exact append_ok S₂ hn2 (at_ext N₂.ext hp) rz (and_r hl)
      · have q := and3 q
        have em := Nat.eq_of_beq_eq_true q.1
        subst em
        refine x0a2 (dictObj S₁ hn hp q.2.1) fun hT hd => ?_
        rw [nm_get] at *
        exact builtin F.plainAttrs_dict F.slot_dict_get F.type_dict_get hT hd h3 fun {ys s₂ ρ₂} S₂ N₂ rv => get_ok K S₂ hn2 (at_ext N₂.ext hp) q.2.2 rv h r.dec.units
    | some w =>
      rw [hi] at h2
      obtain rfl := inst?_some hi
      replace h2 : (bif (lk w.2 m).isSome then Option.none else (lk C.P.classes w.1).bind fun ms => (lk ms m).bind fun f => (evs R args lo H1).bind fun (vs, H) => callF R f (.ref rr :: vs) H) = _ := h2
      cases hs : (lk w.2 m).isSome with
      | true => rw [hs] at h2; exact nn h2
      | false =>
        rw [hs] at h2
        refine bsE h2 fun ms hms h => ?_
        clear h2
        refine bsE h fun fd hfd h2 => ?_
        clear h
        refine bpE h2 fun vs H2 h3 h => ?_
        clear h2
        have KC := K.cl w.1 ms hms
        refine x1a3 (KC.meth m fd hfd) fun fa e1 e2 e3 => ?_
        have F : Fn C fa fd := e3.resolve_right fun e => by rw [e, Nat.beq_refl] at mi; cases mi
        refine x2a4 (S₁.inst hn hp) fun es nn ar hd hne I => ?_
        have hl : getL (nm m) es = some Option.none := ar.no (by simpa using hs)
        refine W.method_fn (K.X.keeps S₁.base) I (W.plainGet_of (KC.get (nm m))).1 (W.plainGet_of (KC.get (nm m))).2 e1 e2 (by show (W.lookIn (nm m) (dictOf es nn)).map _ = _; rw [W.lookIn_dict, hl]; rfl) ?_
        refine args_ok K EV F.keeps m4 h3 r.dec S₁ X₁ fun ys s₂ ρ₂ S₂ N₂ r₂ => ?_
        exact call_fn K EX F h r S₂ (.cons (.ref (at_ext N₂.ext hp)) r₂) E Q fun x s₃ ρ₃ S₃ N₃ r₃ => k x s₃ ρ₃ S₃ ((N₁.trans N₂).trans N₃) r₃
end
end Mini
end
section
set_option autoImplicit false
namespace Mini
open PySem PySem.Calls PyProof.Rows
section
variable {C : Cfg} {sc : Scope} {env : Env} {lo : Lo} {A : Around} {R : Sems} {n f : Nat} {ρ : Rh} {H H' : Hp} {s : Shared}

/-- the view of the values, and whether it holds the left side -/
theorem inVals_go {G : Glo} (K : CfgOK C G) (EV : EvOK C n R) {a d : E} {y z : Expr} {ap p pos : Pos} {b : Bool} (m0 : mtE f sc a y = true) (m1 : mtE f sc d z = true) (m2 : notSuper z = true) (m3 : (ap.endLine == p.line) = true)
    (h : evStep C.P R (.inVals a d) lo H = some (.bool b, H')) (r : Room n A) (S : St C ρ H s) (X : EnvOK C sc env ρ H s.heap lo) {E : Value → Shared → Prop} {Q : Value → Value → Shared → Prop}
    (k : ∀ x1 s₁ ρ₁, St C ρ₁ H' s₁ → Nx no ρ H s ρ₁ H' s₁ → Q x1 (.bool b) s₁) :
    wpAny (MM C) A (eval y env) (fun x1 s₁ => wpAny (MM C) A (holding [x1] (eval (.Call (.Attribute z ("values" : Str) ap) [] [] p) env)) (fun v s₂ => wpAny (MM C) A (compareOp .In x1 v) (fun u s₃ => Q x1 u s₃) E s₂) E s₁) E s := by
  (refine bpE h fun v H1 h1 hh_ => ?_; clear h; revert hh_; intro h)
  (refine bpE h fun dv H2 h2 hh_ => ?_; clear h; revert hh_; intro h)
  (refine bsE h fun l h3 hh_ => ?_; clear h; revert hh_; intro h)
  (refine itE h fun fl hh_ => ?_; clear h; revert hh_; intro h)
  have fl := and2 fl
  cases h
  refine EV f sc env a y lo H v H1 m0 h1 A s ρ r S X E _ fun x1 s₁ ρ₁ S₁ N₁ r₁ => ?_
  refine wpAny_holding ?_
  rw [arm_eval_Call, base_plain m2]
  have X₁ := X.next S N₁
  refine wpAny_bind (EV f sc env d z lo H1 dv _ m1 h2 A s₁ ρ₁ r S₁ X₁ E _ fun x2 s₂ ρ₂ S₂ N₂ r₂ => ?_)
  refine bsE h3 fun rr hr h4 => ?_
  obtain rfl := ref?_some hr
  clear h3
  refine bsE h4 fun o hn h3 => ?_
  clear h4
  refine msE h3 fun l' hl h4 => ?_
  obtain rfl := dI?_some hl
  clear h3
  cases h4
  cases r₂ with
  | @ref _ p1 hp =>
    refine wpAny_bind (wpAny_standAt ?_)
    refine meth_go (es := []) (f := f) (sc := sc) rfl m3 rfl fun pl => ?_
    obtain ⟨hT, hd⟩ := dictObj S₂ hn hp rfl
    refine getMethod_builtin hT F.plainAttrs_dict F.slot_dict_values F.type_dict_values (fun a e => by cases e; exact hd) ?_
    refine args_ok (f := f) (es := []) (vs := []) K EV (keeps_builtin _) rfl rfl r S₂ (X₁.next S₁ N₂) fun ys s₃ ρ₃ S₃ N₃ r₃ => ?_
    cases r₃
    have hp3 := at_ext N₃.ext hp
    obtain ⟨_, xs, D, rl⟩ := S₃.objs rr _ p1 hn hp3
    have hz := S₃.not_sys K hp3
    refine call_meetsIn F.slot_dict_values D.typeIs F.entry_dict_values (F.args_dict_values_1 _) (meets_dict_values (intKind C.prog C.w) p1.1 hz) ⟨⟨xs, D⟩, ?_⟩
    have hk : ∀ q o, s₃.heap.get? q = some o → (s₃.heap.push { cls := .type "dict_values", data := .fields #[.ref p1.1] }).get? q = some o := fun q o e => Heap.get?_push_of_some _ e
    obtain ⟨S₄, N₄⟩ := S₃.grow (s' := { s₃ with heap := s₃.heap.push { cls := .type "dict_values", data := .fields #[.ref p1.1] } }) hk rfl rfl
    have La := N₄.lasts S₃
    obtain ⟨_, xs4, D4, rl4⟩ := S₄.objs rr _ p1 hn hp3
    refine contains_values S₄ ⟨_, Heap.get?_push_size _ rfl, rfl, rfl⟩ D4 rl4 (((r₁.lasts (N₂.lasts S₁)).lasts (N₃.lasts S₂)).lasts La) fl.2 fl.1 r.1 (by have := r.2.2; lia) fun s₅ S₅ k5 => ?_
    obtain ⟨_, N₅⟩ := S₄.grow k5 (S₅.gens.trans S₄.gens.symm) (S₅.os.trans S₄.os.symm)
    have e : (l'.any fun p => V.beq p.2 v) = (l'.map (·.2)).any fun y => V.beq y v := by rw [List.any_map]; rfl
    rw [e]
    exact k _ _ _ S₅ ((((N₁.trans N₂).trans N₃).trans N₄).trans N₅)

set_option tactic.hygienic true in
/-- the parts of x in d.values() -/
theorem inVals_parts {a d : E} {x : Expr} (hm : mtE (f + 1) sc (.inVals a d) x = true) : ∃ y z ap p pos, x = .Compare y [.In] [.Call (.Attribute z ("values" : Str) ap) [] [] p] pos ∧ mtE f sc a y = true ∧ mtE f sc d z = true ∧ notSuper z = true ∧ (ap.endLine == p.line) = true := by
  have hx := mt_bk hm
  have q : (match (pt x).os, (pt x).l with | [.In], [c] => Nat.beq (pt c).k 11 && (Nat.beq (pt (pt c).a).k 12 && ((pt c).l.isEmpty && (mtE f sc a (pt x).a && mtE f sc d (pt (pt c).a).a && (pt (pt c).a).s == ("values" : Str) && notSuper (pt (pt c).a).a && (pt (pt c).a).p.endLine == (pt c).p.line))) | _, _ => false) = true := hx.2
  have e : x = .Compare (pt x).a (pt x).os (pt x).l (pt x).p := hx.1
  generalize (pt x).os = os at q e
  generalize (pt x).l = l at q e
  split at q
  · rename_i c
    have c1 := bk_of (and_l q)
    have q := and_r q
    have c2 := bk_of (and_l q)
    have q := and2 (and_r q)
    have q5 := and2 q.2
    have q4 := and4 q5.1
    have e3 : (pt (pt c).a).s = ("values" : Str) := beq_iff_eq.mp q4.2.2.1
    have e4 : (pt c).l = [] := List.isEmpty_iff.mp q.1
    refine ⟨_, (pt (pt c).a).a, (pt (pt c).a).p, (pt c).p, (pt x).p, ?_, q4.1, q4.2.1, q4.2.2.2, q5.2⟩
    rw [← e3]
    refine e.trans (congrArg (fun z => Expr.Compare (pt x).a [.In] [z] (pt x).p) ?_)
    rw [c1]
    show Expr.Call (pt c).a (pt c).l [] (pt c).p = _
    rw [e4]
    exact congrArg (fun z => Expr.Call z [] [] (pt c).p) c2
  · exact ff q

theorem ev_inVals {G : Glo} (K : CfgOK C G) (EV : EvOK C n R) {a d : E} {x : Expr} {v : V} (hm : mtE (f + 1) sc (.inVals a d) x = true) (h : evStep C.P R (.inVals a d) lo H = some (v, H'))
    (r : Room n A) (S : St C ρ H s) (X : EnvOK C sc env ρ H s.heap lo) : Runs C A (eval x env) ρ H s v H' := by
  obtain ⟨y, z, ap, p, pos, rfl, m0, m1, m2, m3⟩ := inVals_parts hm
  have hb : ∃ b, v = .bool b := by
    (refine bpE h fun v1 H1 _ hh_ => ?_; clear h; revert hh_; intro h)
    (refine bpE h fun dv H2 _ hh_ => ?_; clear h; revert hh_; intro h)
    (refine bsE h fun l _ hh_ => ?_; clear h; revert hh_; intro h)
    (refine itE h fun _ hh_ => ?_; clear h; revert hh_; intro h)
    (obtain ⟨e1_, e2_⟩ := sinj h; clear h; subst e1_; subst e2_)
    exact ⟨_, rfl⟩
  obtain ⟨b, rfl⟩ := hb
  intro E Q k
  show wpAny (MM C) A (eval y env >>= _) Q E s
  refine wpAny_bind (wpAny_mono (inVals_go (E := E) (pos := pos) (Q := fun _ u s' => Q u s') K EV m0 m1 m2 m3 h r S X fun x1 s₁ ρ₁ S₁ N₁ => k _ _ _ S₁ N₁ (.bool _)) (fun x1 s₁ hx => ?_) fun _ _ e => e)
  show wpAny (MM C) A (holding [x1] (eval _ env) >>= _) Q E s₁
  refine wpAny_bind (wpAny_mono hx (fun v2 s₂ hy => ?_) fun _ _ e => e)
  exact wpAny_bind (wpAny_standAt (wpAny_operateT hy))
theorem tr_inVals {G : Glo} (K : CfgOK C G) (EV : EvOK C n R) {a d : E} {x : Expr} {b : Bool} (hm : mtE (f + 1) sc (.inVals a d) x = true) (h : evStep C.P R (.inVals a d) lo H = some (.bool b, H'))
    (r : Room n A) (S : St C ρ H s) (X : EnvOK C sc env ρ H s.heap lo) : RunsB C A (isTrue x env (eval x env)) ρ H s b H' := by
  obtain ⟨y, z, ap, p, pos, rfl, m0, m1, m2, m3⟩ := inVals_parts hm
  intro E Q k
  show wpAny (MM C) A (eval y env >>= _) Q E s
  refine wpAny_bind (wpAny_mono (inVals_go (E := E) (pos := pos) (Q := fun _ u s' => wpAny (MM C) A (holding [u] (truthy u)) (fun b s' => Q b s') E s') K EV m0 m1 m2 m3 h r S X fun x1 s₁ ρ₁ S₁ N₁ => wpAny_holding (wpAny_truthy_bool (k _ _ S₁ N₁))) (fun x1 s₁ hx => ?_) fun _ _ e => e)
  show wpAny (MM C) A (holding [x1] (eval _ env) >>= _) Q E s₁
  refine wpAny_bind (wpAny_mono hx (fun v2 s₂ hy => ?_) fun _ _ e => e)
  exact wpAny_bind (wpAny_standAt (wpAny_bind (wpAny_operateT hy)))
end
end Mini
end
section
set_option autoImplicit false
namespace Mini
open PySem PySem.Calls PyProof.Rows
open PySem.W (Frag dictOf Looks findIn typeIn keepIn makesIn plainGet hasDictIn plainOver getL)

/-- the first words of a class's __init__ may be super().. -/
noncomputable def SupOK (C : Cfg) (n : Nat) (R : Sems) : Prop := ∀ (c : Nat) (a : Addr) (f : FDef) (r : Nat) (H : Hp) (v : V) (H' : Hp), Sup C c a f → nth H r = some (.inst c []) → callF R f [.ref r] H = some (v, H') →
  ∀ (A : Around) (s : Shared) (ρ : Rh) (p : Addr × Addr), A.depth < 1000 → (∀ env, Room n (A.deeper env)) → St C ρ H s → ρ[r]? = some p → ∀ (RR : Result → Shared → Prop),
  (∀ x s' ρ', St C ρ' H' s' → Nx no ρ H s ρ' H' s' → VR ρ' H' s'.heap v x → RR (.ok (.ret x)) s') → codeAny (MM C) A (.call (.ref a) ⟨[.ref p.1], []⟩) RR s

section
variable {C : Cfg} {sc sc' : Scope} {env : Env} {lo lo' : Lo} {A : Around} {R : Sems} {n : Nat} {f : Nat} {ρ ρ' : Rh} {H H' : Hp} {s s' : Shared} {W : Addr → Prop} {a D : Addr} {acc : List V}

theorem tc_weight (c : Addr) (l : List Value) : (Code.builtin "type.__call__" ⟨.ref c :: l, []⟩).weight = 1 := by kernel_rfl
theorem cut_init : Str.ofString "__init__" = nm n_init := by decide +kernel

theorem ev_new {G : Glo} (K : CfgOK C G) (EV : EvOK C n R) (EX : ExOK C n R) (SO : SupOK C n R) {c : Nat} {args : List E} {x : Expr} {v : V} (hm : mtE (f + 1) sc (.new c args) x = true)
    (h : evStep C.P R (.new c args) lo H = some (v, H'))
    (r : Room (n + 1) A) (S : St C ρ H s) (X : EnvOK C sc env ρ H s.heap lo) : Runs C A (eval x env) ρ H s v H' := by
  have hx := mt_bk hm
  have m := and3 hx.2
  have hm := m.2.1
  refine x1a3 (isGlob_of m.1) fun pp hy hl hd => ?_
  rw [hx.1, show bk (ek (.new c args)) (pt x) = .Call (pt x).a (pt x).l [] (pt x).p from rfl, hy]
  clear hx hy m
  refine bsE h fun ms h1 ha => ?_
  clear h
  refine bsE ha fun fd h2 h => ?_
  clear ha
  refine bpE h fun vs H1 h3 ha => ?_
  clear h
  refine bpE ha fun w H2 h4 hb => ?_
  clear ha
  have KC := K.cl c ms h1
  refine x1a3 (KC.init fd h2) fun fa e1 e2 e3 => ?_
  refine itE hb fun hw h => ?_
  clear hb
  obtain rfl := none_of hw
  (refine sinjE h ?_; clear h)
  intro E Q k
  refine Call_Name rfl ?_
  refine wpAny_Name (loadGlob_ok K X S hl KC.glob ?_) hd
  refine args_ok K EV (keeps_in KC.keep) hm h3 r.dec S X fun ys s₁ ρ₁ S₁ N₁ r₁ => ?_
  have Xk : C.K.In s₁.heap := K.X.keeps S₁.base
  have key : ∀ hh, hh = s₁.heap → codeAny (MM C) A (.call (.ref (C.cls c)) ⟨ys, []⟩) (fun r s' => match r with | .ok (.ret v) => Q v s' | .ok _ => False | .error e => E e s') ⟨hh, s₁.gens, s₁.drawn, s₁.toks, s₁.os⟩ := by
    rintro hh rfl
    refine W.make_core (W.makes_of Xk KC.makes) (W.looks_findIn Xk e1) (fun self => W.bind_fn Xk self e2) (.inl rfl) ?_
    have hk1 : ∀ b o, s₁.heap.get? b = some o → ((s₁.heap.push W.emptyDict).push (W.instObj (C.cls c) s₁.heap.objs.size)).get? b = some o := fun b o e => Heap.get?_push_of_some _ (Heap.get?_push_of_some _ e)
    have hsz : (s₁.heap.push W.emptyDict).objs.size = s₁.heap.objs.size + 1 := by simp
    have hx : ((s₁.heap.push W.emptyDict).push (W.instObj (C.cls c) s₁.heap.objs.size)).get? (s₁.heap.objs.size + 1) = some (W.instObj (C.cls c) s₁.heap.objs.size) := by
      rw [← hsz]; exact Heap.get?_push_size _ rfl
    have hdx : ((s₁.heap.push W.emptyDict).push (W.instObj (C.cls c) s₁.heap.objs.size)).get? s₁.heap.objs.size = some W.emptyDict := Heap.get?_push_of_some _ (Heap.get?_push_size _ rfl)
    obtain ⟨S₂, N₂, e⟩ := S₁.mk' (o := .inst c []) (p := (s₁.heap.objs.size + 1, s₁.heap.objs.size)) (s' := ⟨(s₁.heap.push W.emptyDict).push (W.instObj (C.cls c) s₁.heap.objs.size), s₁.gens, s₁.drawn, s₁.toks, s₁.os⟩)
      (by
        cases e : s₁.heap.get? (s₁.heap.objs.size + 1) with
        | none => rfl
        | some o => exact absurd (Heap.lt_size e) (Nat.not_lt.mpr (Nat.le_succ _))) (get?_end _) hk1 ⟨⟨_, hx⟩, _, hdx⟩ rfl rfl
      (fun L => ⟨by simp, hx, [], 0, hdx, .nil⟩)
    have r₂ := r₁.lasts (N₂.lasts S₁)
    have hdep : (A.under (.builtin "type.__call__" ⟨.ref (C.cls c) :: ys, []⟩)).depth < 1000 := by
      have := r.2.1
      show A.depth + (Code.builtin "type.__call__" ⟨.ref (C.cls c) :: ys, []⟩).weight < 1000
      rw [tc_weight]; lia
    have hroom : ∀ env, Room n ((A.under (.builtin "type.__call__" ⟨.ref (C.cls c) :: ys, []⟩)).deeper env) := fun env => ⟨r.1, by
      have := r.2.1
      show A.depth + (Code.builtin "type.__call__" ⟨.ref (C.cls c) :: ys, []⟩).weight + 1 + 2 * n < 900
      rw [tc_weight]; lia, by have := r.2.2; show A.units + 1 + 3 + 8 * n + 200 < cLine; lia⟩
    have back : ∀ x s' ρ', St C ρ' H2 s' → Nx no (ρ₁ ++ [(s₁.heap.objs.size + 1, s₁.heap.objs.size)]) (H1 ++ [.inst c []]) ⟨(s₁.heap.push W.emptyDict).push (W.instObj (C.cls c) s₁.heap.objs.size), s₁.gens, s₁.drawn, s₁.toks, s₁.os⟩ ρ' H2 s' → VR ρ' H2 s'.heap .none x →
        W.InitBack (s₁.heap.objs.size + 1) (fun r s' => match r with | .ok (.ret v) => Q v s' | .ok _ => False | .error e => E e s') (.ok (.ret x)) s' := by
      intro x s' ρ' S' N' rx
      refine VR.noneE rx ?_
      refine ⟨rfl, k _ s' ρ' S' ((N₁.trans N₂).trans N') (.ref (p := (s₁.heap.objs.size + 1, s₁.heap.objs.size)) (at_ext N'.ext e))⟩
    rcases e3 with F | F
    · exact code_fn K EX F h4 hdep hroom S₂ (.cons (.ref (p := (s₁.heap.objs.size + 1, s₁.heap.objs.size)) e) r₂) back
    · induction vs using List.casesOn with
      | cons _ _ =>
        exfalso
        obtain ⟨c2, m2, b2, ms2, f2d, d, ar, p0, p1, ap, pq, p', rest, nn, cc, cda, f2, rfl, _⟩ := F
        cases h4
      | nil =>
        cases r₁
        exact SO c fa fd H1.length _ .none H2 F (by simp [nth]) h4 _ _ _ (s₁.heap.objs.size + 1, s₁.heap.objs.size) hdep hroom S₂ e _ back
  exact wpAny_call (key _ rfl)
end
end Mini
end
section
set_option autoImplicit false
namespace Mini
open PySem PySem.Calls PyProof.Rows
open PySem.W (Frag dictOf Looks findIn typeIn keepIn makesIn plainGet hasDictIn plainOver getL)

section
variable {C : Cfg} {sc sc' : Scope} {env : Env} {lo lo' : Lo} {A : Around} {R : Sems} {n : Nat} {f : Nat} {ρ ρ' : Rh} {H H' : Hp} {s s' : Shared} {a D : Addr} {acc : List V}

theorem AR.isStr {h : Heap} {l : List (Nat × V)} {es : List DictEntry} (r : AR ρ H h l es) : (es.any (·.refKey)) = false := by
  induction r with
  | nil => rfl
  | cons _ _ ih => simp only [List.any_cons, ih, Bool.or_false]; rfl

theorem AR.len {h : Heap} {l : List (Nat × V)} {es : List DictEntry} (r : AR ρ H h l es) : es.length = l.length := by
  induction r with
  | nil => rfl
  | cons _ _ ih => simp [ih]

theorem AR.put {h : Heap} {l : List (Nat × V)} {es : List DictEntry} (r : AR ρ H h l es) {a : Nat} {v : V} {x : Value} {hs : Int} {t : Tok} (rx : VR ρ H h v x) : AR ρ H h (lset l a v) (W.putL (nm a) hs (.str (nm a) t) x es) := by
  induction r with
  | nil => exact .cons rx .nil
  | @cons j u y hs' t' l l' q r ih =>
    rw [lset_cons]
    unfold W.putL
    have ek : (⟨hs', .str (nm j) t', y⟩ : DictEntry).key.isStr (nm a) = Nat.beq j a := beq_nm j a
    rw [ek, natBeq]
    by_cases e : a = j
    · subst e
      simp only [decide_true, if_true]
      exact .cons rx r
    · have e' : ¬ j = a := fun z => e z.symm
      rw [if_neg e, if_neg (by simp [e'])]
      exact .cons q ih

theorem putL_len (name : Str) (hs : Int) (k v : Value) : ∀ es : List DictEntry, (W.putL name hs k v es).length ≤ es.length + 1
  | [] => by simp [W.putL]
  | e :: r => by
    unfold W.putL
    split
    · simp
    · have := putL_len name hs k v r
      simp only [List.length_cons]; lia

/-- an attribute of an object of the run's own is set -/
theorem setattr_ok {G : Glo} (K : CfgOK C G) (S : St C ρ H s) {r c : Nat} {l : List (Nat × V)} {p : Addr × Addr} {b : Nat} {v : V} {x : Value} {ms : List (Nat × FDef)} (hn : nth H r = some (.inst c l)) (hp : ρ[r]? = some p) (hc : lk C.P.classes c = some ms)
    (hb : b ∈ C.P.attrs) (hl : l.length ≤ 50) (rx : VR ρ H s.heap v x) {E : Value → Shared → Prop} {Q : Unit → Shared → Prop}
    (k : ∀ s', St C ρ (H.set r (.inst c (lset l b v))) s' → Nx no ρ H s ρ (H.set r (.inst c (lset l b v))) s' → Q () s') : wpAny (MM C) A (setAttr (.ref p.1) (nm b) x) Q E s := by
  obtain ⟨hh, g, dr, tk, os⟩ := s
  have KC := K.cl c ms hc
  have X : C.K.In hh := K.X.keeps S.base
  obtain ⟨hne, h1, es, nn, h2, ar⟩ := S.objs r _ p hn hp
  have I : PySem.W.InstAt hh p.1 ⟨.ref (C.cls c), some p.2, .plain, #[]⟩ (C.cls c) (some (dictOf es nn)) := ⟨h1, rfl, rfl, h2⟩
  have ht : W.takerIn C.K (C.cls c) (nm b) = some none := by unfold W.takerIn; rw [KC.attr b hb]; rfl
  refine W.set_plain X I KC.set ?_
  refine W.osa_open (s := ⟨hh, g, dr, tk + 1, os⟩) X I KC.over ht fun onT => ?_
  refine x1a2 (W.any_some KC.dict) fun cd hcd hdd => ?_
  refine wpAny_bind (wpAny_pure (wpAny_bind (wpAny_bind (wpAny_loadPart h1 (wpAny_bind ((W.looks_clsIn X hcd).at ?_))))))
  rw [hdd]
  refine wpAny_pure (a := some p.2) (wpAny_bind (wpAny_pure (wpAny_bind ?_)))
  unfold nsSet
  refine wpAny_bind (wpAny_bind (wpAny_askSetting (wpAny_pure (wpAny_bind (wpAny_mkText (wpAny_bind (wpAny_loadPart h2 ?_)))))))
  have hc0 : (!es.toArray.any (·.key.isStr (nm b)) && es.toArray.any (·.refKey)) = false := by
    have := ar.isStr
    simp [this]
  dsimp only
  rw [aRefKeyMayBeTheName_at, hc0]
  refine wpAny_updatePart h2 ?_
  generalize (if (nm b).cps.isEmpty = true then 0 else reduceHash ((model C.prog C.w).w.params.strHash (nm b).cps)) = hs
  have hput := W.putName_dict (nm b) hs (.str (nm b) (tk + 1)) x es nn
  have D' : (hh.update p.2 (Obj.putName (nm b) hs (.str (nm b) (tk + 1)) x)).get? p.2 = some (dictOf (W.putL (nm b) hs (.str (nm b) (tk + 1)) x es) (W.putN (nm b) es nn)) := by
    rw [Heap.get?_update_self _ h2 (by rw [hput]; rfl), hput]
  have hlen : (W.putL (nm b) hs (.str (nm b) (tk + 1)) x es).length ≤ 51 := by
    have := putL_len (nm b) hs (.str (nm b) (tk + 1)) x es
    rw [ar.len] at this; (clear D' hput hc0 hdd hcd ht h2 h1 hne hc hp hn; lia)
  refine wpAny_bind (wpAny_lookBehind D' (pastItsLine_dict (by rw [List.size_toArray, sizeLine_eq]; (clear D' hput hc0 hdd hcd ht h2 h1 hne hl hc hp hn; lia))) ?_)
  have hk : ∀ q o, q ≠ p.1 → q ≠ p.2 → hh.get? q = some o → (hh.update p.2 (Obj.putName (nm b) hs (.str (nm b) (tk + 1)) x)).get? q = some o := fun q o _ n2 e => (Heap.get?_update_other _ _ (Ne.symm n2)).trans e
  have h1' : (hh.update p.2 (Obj.putName (nm b) hs (.str (nm b) (tk + 1)) x)).get? p.1 = some ⟨.ref (C.cls c), some p.2, .plain, #[]⟩ := (Heap.get?_update_other _ _ (Ne.symm hne)).trans h1
  obtain ⟨S', N⟩ := S.set (s' := ⟨hh.update p.2 (Obj.putName (nm b) hs (.str (nm b) (tk + 1)) x), g, dr, tk + 1 + 1, os⟩) hn rfl hp (o' := .inst c (lset l b v)) hk ⟨⟨_, h1'⟩, _, D'⟩ rfl rfl
    (fun L => ⟨hne, h1', _, _, D', (ar.lasts L).put (rx.lasts L)⟩)
  exact wpAny_pure (k _ S' N)
end
end Mini
end
section
set_option autoImplicit false
namespace Mini
open PySem PySem.Calls PyProof.Rows
open PySem.W (Frag dictOf Looks findIn typeIn keepIn makesIn plainGet hasDictIn plainOver getL)

section
variable {C : Cfg} {sc sc' : Scope} {env : Env} {lo lo' : Lo} {A : Around} {R : Sems} {n : Nat} {f : Nat} {ρ ρ' : Rh} {H H' : Hp} {s s' : Shared} {a D : Addr} {acc : List V}

theorem atKey_nil (k : V) : atKey ([] : List (V × Addr × Value)) k = none := rfl
theorem atKey_cons (j : V) (p : Addr × Value) (r : List (V × Addr × Value)) (k : V) : atKey ((j, p) :: r) k = if j = k then some p else atKey r k := by
  unfold atKey
  rw [List.find?_cons]
  by_cases e : j = k <;> simp [e]
theorem atKey_none {r : List (V × Addr × Value)} {k : V} (h : k ∉ r.map (·.1)) : atKey r k = none := by
  induction r with
  | nil => rfl
  | cons p r ih =>
    obtain ⟨j, q⟩ := p
    simp only [List.map_cons, List.mem_cons, not_or] at h
    rw [atKey_cons, if_neg (fun e => h.1 e.symm), ih h.2]
theorem storedH_nil (k : V) (a : Addr) (v : Value) : storedH ([] : List (V × Addr × Value)) k a v = [(k, a, v)] := rfl
theorem storedH_cons (j : V) (b : Addr) (w : Value) (r : List (V × Addr × Value)) (k : V) (a : Addr) (v : Value) (hn : j ∉ r.map (·.1)) : storedH ((j, b, w) :: r) k a v = if j = k then (j, b, v) :: r else (j, b, w) :: storedH r k a v := by
  unfold storedH
  rw [atKey_cons]
  by_cases e : j = k
  · subst e
    simp only [if_true, Option.isSome_some, List.map_cons, putAt]
    rw [map_putAt_of_not_mem r j v hn]
  · rw [if_neg e, if_neg e]
    split
    · simp only [List.map_cons, putAt, if_neg e]
    · rfl

theorem TR.setT {h : Heap} {l : List (V × V)} {xs : List (V × Addr × Value)} (p : TR ρ H h l xs) : (xs.map (·.1)).Nodup → ∀ {k v : V} {a : Addr} {y : Value}, VR ρ H h v y → TR ρ H h (Mini.setT l k v) (storedH xs k a y) := by
  induction p with
  | nil => intro _ k v a y r; exact .cons r .nil
  | @cons j v b x l l' r q ih =>
    intro hn k u a y ru
    rw [List.map_cons, List.nodup_cons] at hn
    rw [storedH_cons _ _ _ _ _ _ _ hn.1]
    simp only [Mini.setT, same_decide]
    by_cases e : j = k
    · subst e; simp; exact .cons ru q
    · rw [if_neg e]
      simp only [decide_eq_false e, cond_false]
      exact .cons r (ih hn.2 ru)
theorem PR.lenI {h : Heap} {l : List (Int × V)} {xs : List (Int × Value)} (p : PR id ρ H h l xs) : xs.length = l.length := by
  induction p with
  | nil => rfl
  | cons _ _ ih => simp [ih]
theorem PR.lenS {h : Heap} {l : List (Nat × V)} {xs : List (Str × Value)} (p : PR nm ρ H h l xs) : xs.length = l.length := by
  induction p with
  | nil => rfl
  | cons _ _ ih => simp [ih]
theorem TR.len {h : Heap} {l : List (V × V)} {xs : List (V × Addr × Value)} (p : TR ρ H h l xs) : xs.length = l.length := by
  induction p with
  | nil => rfl
  | cons _ _ ih => simp [ih]

theorem setitem_ok (S : St C ρ H s) {o i v : V} {x y z : Value} (ro : VR ρ H s.heap o x) (ri : VR ρ H s.heap i y) (rv : VR ρ H s.heap v z) (h : setItemV H o i v = some H') (hu : A.units + 200 < cLine)
    {E : Value → Shared → Prop} {Q : Unit → Shared → Prop} (k : ∀ s', St C ρ H' s' → Nx no ρ H s ρ H' s' → Q () s') : wpAny (MM C) A (setItem x y z) Q E s := by
  refine bsE h fun nn hr ha => ?_
  clear h
  obtain rfl := ref?_some hr
  refine bsE ha fun ob hn hb => ?_
  clear ha
  refine msE hb fun o' h e' => ?_
  clear hb
  cases e'
  obtain ⟨p, hp, rfl, hob⟩ := S.ref_obj ro hn
  induction ob using O.casesOn with
  | list _ => cases h
  | inst _ _ => cases h
  | dead => cases h
  | dI l =>
    refine bsE h fun j hj ha => ?_
    clear h
    obtain rfl := int?_some hj
    refine itE ha fun hl h => ?_
    cases h
    obtain ⟨e, xs, D, R⟩ := hob
    refine VR.intE ri fun _ => ?_
    have hlen := R.lenI
    have h2 := okLen_le hl
    have hnd : (xs.map (·.1)).Nodup := by obtain ⟨_, _, _, _, _, _, _, _, q⟩ := D; exact q
    refine wpAny_setItem_pairs (isInt_is _ _ _ _) D (fun h' D' hb => ?_) (by rw [sizeLine_eq]; (clear e ha hl hj hn hp hr hu; lia))
    have hz : ∃ o, h'.get? p.1 = some o := x3a2 D' fun o _ _ e _ => ⟨o, e⟩
    have G := S.set (s' := { s with heap := h', toks := s.toks + 1 }) hn rfl hp (o' := .dI (setI l j v)) (fun q o n1 _ g => (hb.2 q n1).trans g) ⟨hz, by rw [e]; exact hz⟩ rfl rfl (fun L => ⟨e, _, D', (PR.lasts L R).setI hnd (rv.lasts L)⟩)
    exact k _ G.1 G.2
  | dS l =>
    refine bsE h fun j hj ha => ?_
    clear h
    obtain rfl := str?_some hj
    refine itE ha fun hl h => ?_
    cases h
    obtain ⟨e, xs, D, R⟩ := hob
    refine VR.strE ri fun _ => ?_
    have hlen := R.lenS
    have h2 := okLen_le hl
    have hnd : (xs.map (·.1)).Nodup := by obtain ⟨_, _, _, _, _, _, _, _, q⟩ := D; exact q
    refine wpAny_setItem_pairs (isStr_is _ _ _ _) D (fun h' D' hb => ?_) (by rw [sizeLine_eq]; (clear e ha hl hj hn hp hr hu; lia))
    have hz : ∃ o, h'.get? p.1 = some o := x3a2 D' fun o _ _ e _ => ⟨o, e⟩
    have G := S.set (s' := { s with heap := h', toks := s.toks + 1 }) hn rfl hp (o' := .dS (lset l j v)) (fun q o n1 _ g => (hb.2 q n1).trans g) ⟨hz, by rw [e]; exact hz⟩ rfl rfl (fun L => ⟨e, _, D', (PR.lasts L R).setS hnd (rv.lasts L)⟩)
    exact k _ G.1 G.2
  | dT l =>
    (refine itE h fun hl hh_ => ?_; clear h; revert hh_; intro h)
    cases h
    have hl := and2 hl
    obtain ⟨e, xs, D, R⟩ := hob
    have hlen := R.len
    have h2 := okLen_le hl.2
    have hnd : (xs.map (·.1)).Nodup := by obtain ⟨_, _, _, _, _, _, _, _, q⟩ := D; exact q
    obtain ⟨ts, rfl⟩ : ∃ ts, i = .tup ts := by induction i using Mini.V.casesOn <;> first | exact ⟨_, rfl⟩ | cases hl.1
    refine VR.tupE ri fun {_ _} t rr => ?_
    ·
      have is : (vKind C.prog C.w).is s.heap (.tup ts) _ := ⟨hl.1, (VR.tup t rr).kr (isKey_key hl.1)⟩
      have rm : (vKind C.prog C.w).room A.in1 := by show A.units + 1 + 60 < cLine; lia
      refine wpAny_setItem_heap rm is D (fun h' D' hb => ?_) (by rw [sizeLine_eq]; lia)
      have hz : ∃ o, h'.get? p.1 = some o := x3a2 D' fun o _ _ e _ => ⟨o, e⟩
      have G := S.set (s' := { s with heap := h', toks := s.toks + (vKind C.prog C.w).draws (.tup ts) }) hn rfl hp (o' := .dT (setT l (.tup ts) v)) (fun q o n1 _ g => (hb.2 q n1).trans g) ⟨hz, by rw [e]; exact hz⟩ rfl rfl (fun L => ⟨e, _, D', (TR.lasts L R).setT hnd (rv.lasts L)⟩)
      exact k _ G.1 G.2
end
end Mini
end
section
set_option autoImplicit false
namespace Mini
open PySem PySem.Calls PyProof.Rows
open PySem.W (Frag dictOf Looks findIn typeIn keepIn makesIn plainGet hasDictIn plainOver getL)

/-- a level's comprehensions -/
noncomputable def CpOK (C : Cfg) (n : Nat) (R : Sems) : Prop := ∀ (f : Nat) (sc : Scope) (env : Env) (elt : E) (gens : List G) (x : Expr) (lo : Lo) (H : Hp) (v : V) (H' : Hp), mtE f sc (.comp elt gens) x = true → R.ev (.comp elt gens) lo H = some (v, H') →
  ∀ (A : Around) (s : Shared) (ρ : Rh), Room n A → St C ρ H s → EnvOK C sc env ρ H s.heap lo → ∃ (y : Expr) (cs : List Comprehension) (sc' : Scope) (p : Pos), x = .ListComp y cs sc' p ∧ firstAsync cs = false ∧ ∀ (use : Option (Value → Sem Unit)) (E Q : Value → Shared → Prop),
    (∀ D Lc s' ρ', St C ρ' H' s' → Nx no ρ H s ρ' H' s' → VR ρ' H' s'.heap v (.ref D) → Loose C ρ' s'.heap Lc → (∃ m, s'.heap.Ns Lc m) → s.heap.get? Lc = none → compPost (MM C) A E use Q (.ref D) Lc (.ok .next) s') →
    wpAny (MM C) A (comprehension x sc' env (firstIterPos cs p) (newList []) false (firstIter cs env) use) Q E s

section
variable {C : Cfg} {sc sc' : Scope} {env : Env} {lo lo' : Lo} {A : Around} {R : Sems} {n : Nat} {f : Nat} {ρ ρ' : Rh} {H H' : Hp} {s s' : Shared} {a D : Addr} {acc : List V}

theorem while_ok (TR : TrOK C n R) (EX : ExOK C n R) {c : E} {b : List S} {tx : Expr} {xs : List Stmt} (hc : mtE f sc c tx = true) (hb : mtSs (mtS f sc) b xs = true) : ∀ (k : Nat) {lo : Lo} {H : Hp} {fl : Fl} {lo' : Lo} {H' : Hp}, exWhl R c b k lo H = some (fl, lo', H') →
    ∀ {A : Around} {s : Shared} {ρ : Rh}, Room n A → St C ρ H s → EnvOK C sc env ρ H s.heap lo → ∀ {RR : Result → Shared → Prop},
    (∀ fl' s' ρ', St C ρ' H' s' → Nx (Wr sc env) ρ H s ρ' H' s' → EnvOK C sc env ρ' H' s'.heap lo' → FlR ρ' H' s'.heap fl fl' → RR (.ok fl') s') → codeAny (MM C) A (.whileLoop tx xs [] env) RR s
  | 0, _, _, _, _, _, h, _, _, _, _, _, _, _, _ => by exact nn h
  | k + 1, lo, H, fl, lo', H', h, A, s, ρ, r, S, X, RR, kk => by
    refine bpE h fun w H1 h1 ha => ?_
    clear h
    refine bsE ha fun t ht h => ?_
    clear ha
    obtain rfl := bool?_some ht
    refine codeAny_of_tree ?_
    show wpAny _ A (Sem.onRaise (whileTurn tx xs [] env) _) _ _ s
    refine wpAny_onRaise ?_
    unfold whileTurn
    refine wpAny_bind (TR f sc env c tx lo H t H1 hc h1 A s ρ r S X _ _ fun s₁ ρ₁ S₁ N₁ => ?_)
    induction t using Bool.casesOn with
    | false =>
      (revert kk; apply sinj3E h; clear h; intro kk)
      rw [if_neg Bool.false_ne_true]
      refine wpAny_bind (wpAny_execs_nil ?_)
      exact wpAny_pure (kk .next s₁ ρ₁ S₁ (N₁.wide X.wdata) (X.next S N₁) .nxt)
    | true =>
      rw [if_pos rfl]
      refine b3E h fun f1 lo1 H2 h2 ha => ?_
      clear h
      have X₁ := X.next S N₁
      refine wpAny_bind (EX f sc env b xs lo H1 f1 lo1 H2 hb h2 A s₁ ρ₁ r S₁ X₁ _ _ fun fl' s₂ ρ₂ S₂ N₂ X₂ q => ?_)
      have NN := (N₁.wide X.wdata).trans N₂
      have again : exWhl R c b k lo1 H2 = some (fl, lo', H') → codeAny (MM C) A (.whileLoop tx xs [] env) RR s₂ := fun h => while_ok TR EX hc hb k h r S₂ X₂ fun fl' s₃ ρ₃ S₃ N₃ X₃ q => kk fl' s₃ ρ₃ S₃ (NN.trans N₃) X₃ q
      induction q using Mini.FlR.casesOn with
      | nxt => exact wpAny_pure ⟨rfl, again ha⟩
      | cont => exact wpAny_pure ⟨rfl, again ha⟩
      | ret rr => (revert kk; apply sinj3E ha; clear ha; intro kk); exact wpAny_pure (kk _ s₂ ρ₂ S₂ NN X₂ (.ret rr))

theorem for_ok (EX : ExOK C n R) {t : T} {b : List S} {tx : Expr} {xs : List Stmt} (ht : mtB sc t tx = true) (hb : mtSs (mtS f sc) b xs = true) : ∀ (vs : List V) {lo : Lo} {H : Hp} {fl : Fl} {lo' : Lo} {H' : Hp}, exFor R t b vs lo H = some (fl, lo', H') →
    ∀ {A : Around} {s : Shared} {ρ : Rh} {I : Addr}, Room n A → St C ρ H s → EnvOK C sc env ρ H s.heap lo → ItR ρ H s.heap I vs → Loose C ρ s.heap I → ∀ {ρa : Rh} {Ha : Hp} {sa : Shared}, sa.heap.get? I = none → Nx (Wr sc env) ρa Ha sa ρ H s → ∀ {RR : Result → Shared → Prop},
    (∀ fl' s' ρ', St C ρ' H' s' → Nx (Wr sc env) ρa Ha sa ρ' H' s' → EnvOK C sc env ρ' H' s'.heap lo' → FlR ρ' H' s'.heap fl fl' → RR (.ok fl') s') → codeAny (MM C) A (.forLoop tx (.ref I) xs [] env) RR s
  | [], lo, H, fl, lo', H', h, A, s, ρ, I, r, S, X, it, L, ρa, Ha, sa, hI, N, RR, kk => by
    (revert kk; apply sinj3E h; clear h; intro kk)
    refine codeAny_of_tree ?_
    show wpAny _ A (Sem.onRaise (forTurn tx (.ref I) xs [] env) _) _ _ s
    refine wpAny_onRaise ?_
    unfold forTurn
    refine x1a2 it.obj fun o ho hfs => ?_
    refine wpAny_bind (wpAny_standAt (wpAny_bind (wpAny_onRaise (it.stop S L r.1 fun s₁ S₁ La hk => ?_))))
    refine wpAny_pure (And.intro rfl (codeAny_block (wpAny_execs_nil ?_)))
    exact kk .next s₁ ρ S₁ (N.freely hI hk) (X.turnAt La ho (.inr hfs) hk) .nxt
  | v :: vs, lo, H, fl, lo', H', h, A, s, ρ, I, r, S, X, it, L, ρa, Ha, sa, hI, N, RR, kk => by
    refine bsE h fun lo1 h1 ha => ?_
    clear h
    refine b3E ha fun f1 lo2 H2 h2 h => ?_
    clear ha
    refine codeAny_of_tree ?_
    show wpAny _ A (Sem.onRaise (forTurn tx (.ref I) xs [] env) _) _ _ s
    refine wpAny_onRaise ?_
    unfold forTurn
    refine x1a2 it.obj fun o ho hfs => ?_
    refine wpAny_bind (wpAny_standAt (wpAny_bind (wpAny_onRaise (it.step S L fun y s₁ S₁ N₁ hk₁ it₁ L₁ r₁ => ?_))))
    have X₁ := X.turnAt (N₁.lasts S) ho (.inr hfs) hk₁
    refine wpAny_bind (it₁.letGo ?_)
    refine wpAny_bind (assign_ok X₁ S₁ r.1 ht h1 r₁ fun s₂ S₂ N₂ X₂ => ?_)
    have nI₁ : ¬ Wr sc env I := by
      refine x1a2 it₁.obj fun o1 ho1 hf1 => ?_
      exact X₁.not_wr ho1 (.inr hf1)
    have L₂ := L₁.next N₂ nI₁
    have it₂ := it₁.keep (N₂.lasts S₁) (fun o e => N₂.keep I o e L₁.own nI₁)
    have Na₂ := (N.freely hI hk₁).trans N₂
    refine wpAny_bind (EX f sc env b xs lo1 H f1 lo2 H2 hb h2 A s₂ ρ r S₂ X₂ _ _ fun fl' s₃ ρ₃ S₃ N₃ X₃ q => ?_)
    have nI₂ : ¬ Wr sc env I := nI₁
    have it₃ := it₂.keep (N₃.lasts S₂) (fun o e => N₃.keep I o e L₂.own nI₂)
    have L₃ := L₂.next N₃ nI₂
    have again : exFor R t b vs lo2 H2 = some (fl, lo', H') → codeAny (MM C) A (.forLoop tx (.ref I) xs [] env) RR s₃ := fun h => for_ok EX ht hb vs h r S₃ X₃ it₃ L₃ hI (Na₂.trans N₃) kk
    induction q using Mini.FlR.casesOn with
    | nxt => exact wpAny_pure ⟨rfl, again h⟩
    | cont => exact wpAny_pure ⟨rfl, again h⟩
    | ret rr =>
      (revert kk; apply sinj3E h; clear h; intro kk)
      exact wpAny_pure (kk _ s₃ ρ₃ S₃ (Na₂.trans N₃) X₃ (.ret rr))
end
end Mini
end
section
set_option autoImplicit false
namespace Mini
open PySem PySem.Calls PyProof.Rows
open PySem.W (Frag dictOf Looks findIn typeIn keepIn makesIn plainGet hasDictIn plainOver getL)

section
variable {C : Cfg} {sc sc' : Scope} {env : Env} {lo lo' : Lo} {A : Around} {R : Sems} {n : Nat} {f : Nat} {ρ ρ' : Rh} {H H' : Hp} {s s' : Shared} {a D : Addr} {acc : List V}

noncomputable def putAll (ps : List (Nat × V)) (lo : Lo) : Lo := ps.foldl (fun lo p => lset lo p.1 p.2) lo
theorem lk_none {ps : List (Nat × V)} {j : Nat} (h : j ∉ ps.map (·.1)) : lk ps j = Option.none := by
  induction ps with
  | nil => rfl
  | cons p r ih => rw [lk_cons p.1 p.2, if_neg fun e : j = p.1 => h (e ▸ .head _), ih fun m => h (.tail _ m)]
theorem lk_putAll {ps : List (Nat × V)} {lo : Lo} {j : Nat} (hn : (ps.map (·.1)).Nodup) : lk (putAll ps lo) j = (match lk ps j with | some v => some v | Option.none => lk lo j) := by
  induction ps generalizing lo with
  | nil => rfl
  | cons p r ih =>
    replace hn := List.nodup_cons.mp hn
    show lk (putAll r (lset lo p.1 p.2)) j = _
    rw [ih hn.2, lk_cons p.1 p.2, lk_lset]
    by_cases e : j = p.1
    · rw [e, lk_none hn.1, if_pos rfl, if_pos rfl]
    · rw [if_neg e, if_neg e]
theorem lk_app {ps qs : List (Nat × V)} {j : Nat} : lk (ps ++ qs) j = (match lk ps j with | some v => some v | Option.none => lk qs j) := by
  induction ps with
  | nil => rfl
  | cons p r ih =>
    rw [List.cons_append, lk_cons p.1 p.2, lk_cons p.1 p.2]
    by_cases e : j = p.1
    · rw [if_pos e, if_pos e]
    · rw [if_neg e, if_neg e, ih]
theorem lk_rev {ps : List (Nat × V)} {j : Nat} (hn : (ps.map (·.1)).Nodup) : lk ps.reverse j = lk ps j := by
  induction ps with
  | nil => rfl
  | cons p r ih =>
    replace hn := List.nodup_cons.mp hn
    rw [List.reverse_cons, lk_app, ih hn.2, lk_cons p.1 p.2, lk_cons p.1 p.2]
    by_cases e : j = p.1
    · rw [e, lk_none hn.1]; exact (if_pos rfl).trans (if_pos rfl).symm
    · rw [if_neg e, if_neg e]; cases lk r j <;> rfl

theorem bindTs_put {ts : List Nat} {vs : List V} {lo lo' : Lo} (h : bindTs ts vs lo = some lo') : lo' = putAll (ts.zip vs) lo := by
  induction ts generalizing vs lo with
  | nil => induction vs using List.casesOn with
    | nil => exact (Option.some.inj h).symm
    | cons _ _ => exact nn h
  | cons t ts ih => induction vs using List.casesOn with
    | nil => exact nn h
    | cons v vs => exact ih h
theorem nodupB_nodup : ∀ {l : List Nat}, nodupB l = true → l.Nodup
  | [], _ => List.nodup_nil
  | i :: l, h => by
    simp only [nodupB, Bool.and_eq_true, Bool.not_eq_true'] at h
    rw [List.nodup_cons]
    refine ⟨fun hm => ?_, nodupB_nodup h.2⟩
    rw [List.any_eq_false] at h
    exact h.1 i hm (Nat.beq_refl _)

/-- names are bound one behind the other -/
theorem bind_all {ns : List Nat} {vs : List V} {ys : List Value} {lo : Lo} {s : Shared} (ho : ∀ i ∈ ns, owns sc (nm i) = true) (hl : ns.length = vs.length) (rv : VRs ρ H s.heap vs ys) (X : EnvOK C sc env ρ H s.heap lo) (S : St C ρ H s)
    {E : Value → Shared → Prop} {Q : Unit → Shared → Prop} (k : ∀ s', St C ρ H s' → Nx (Wr sc env) ρ H s ρ H s' → EnvOK C sc env ρ H s'.heap (putAll (ns.zip vs) lo) → Q () s') : wpAny (MM C) A (assignInOrder (ns.map fun i => bindName env (nm i)) ys) Q E s := by
  induction ns generalizing vs ys lo s with
  | nil =>
    induction vs using List.casesOn with
    | nil => cases rv; exact wpAny_pure (k s S (Nx.refl' X.wdata) X)
    | cons _ _ => cases hl
  | cons i ns ih =>
    induction vs using List.casesOn with
    | nil => cases hl
    | cons v vs =>
      refine VRs.consE rv fun {_ _} r rs => ?_
      show wpAny _ _ (holding _ (bindName env (nm i) _) >>= fun _ => assignInOrder _ _) _ _ _
      refine wpAny_bind (wpAny_holding (wpAny_bindName (store_ok X S (ho i List.mem_cons_self) r fun s₁ S₁ N₁ X₁ => ?_)))
      exact ih (fun j hj => ho j (List.mem_cons_of_mem _ hj)) (Nat.succ.inj hl) (rs.lasts (N₁.lasts S)) X₁ S₁ fun s₂ S₂ N₂ X₂ => k s₂ S₂ (N₁.trans N₂) X₂

theorem VRs.rev {h : Heap} {vs : List V} {ys : List Value} (r : VRs ρ H h vs ys) : VRs ρ H h vs.reverse ys.reverse :=
  VRs.ind (q := fun vs ys => VRs ρ H h vs.reverse ys.reverse) .nil (fun a _ b => by rw [List.reverse_cons, List.reverse_cons]; exact b.append (.cons a .nil)) r

theorem go_names {ts : List Nat} {xs : List Expr} (h : mtBs sc ts xs = true) : (∀ i ∈ ts, owns sc (nm i) = true) ∧ ∃ ps : List Pos, ps.length = ts.length ∧ xs = (ts.zip ps).map (fun q => Expr.Name (nm q.1) q.2) := by
  induction ts generalizing xs with
  | nil => induction xs using List.casesOn with
    | nil => exact ⟨(fun _ h => by cases h), [], rfl, rfl⟩
    | cons _ _ => exact ff h
  | cons i ts ih => induction xs using List.casesOn with
    | nil => exact ff h
    | cons x xs =>
      have h := and2 h
      refine x1a3 (isVar_of h.1) fun p e1 ho _ => ?_
      have q := ih h.2
      refine x1a2 q.2 fun ps b c => ?_
      rw [e1, c]
      exact ⟨fun j hj => (List.mem_cons.mp hj).elim (fun e => e ▸ ho) (q.1 j), p :: ps, congrArg (· + 1) b, rfl⟩

theorem filterMap_all {α β : Type} {g : α → Option β} {g' : α → β} (hg : ∀ x b, g x = some b → b = g' x) {l : List α} (h : (l.filterMap g).length = l.length) : l.filterMap g = l.map g' := by
  induction l with
  | nil => rfl
  | cons x l ih =>
    rw [List.filterMap_cons] at h ⊢
    cases e : g x with
    | none =>
      rw [e] at h
      exact absurd (h ▸ List.length_filterMap_le g l) (Nat.not_succ_le_self _)
    | some b =>
      rw [e] at h
      rw [List.map_cons, ← hg x b e, ← ih (Nat.succ.inj h)]

noncomputable def nameOf : Expr → Str
  | .Name id _ => id
  | _ => Str.empty
set_option tactic.hygienic true in
/-- how the stores of a tuple are ordered -/
theorem swapped_ok {xs : List Expr} {k : Nat} {p : Pos} {y : Expr} (hp : plainVal (.Tuple xs k p) y = true) : ∃ r, swappedStores [.Tuple xs k p] y env = pure r ∧ (r = none ∨ r = some (xs.map nameOf)) := by
  unfold swappedStores
  cases y with
  | Tuple vs k2 p2 =>
    replace hp : vs.all (constantsAlone 8) = false := by simpa using (show (!(vs.all (constantsAlone 8))) = true from hp)
    dsimp only
    split
    · exact ⟨_, rfl, .inl rfl⟩
    · split
      · exact ⟨_, rfl, .inl rfl⟩
      · split
        · exact ⟨_, rfl, .inl rfl⟩
        · rename_i hlen
          split
          · exact ⟨_, rfl, .inl rfl⟩
          · rw [hp]
            refine ⟨_, rfl, .inr ?_⟩
            congr 1
            refine filterMap_all (g' := nameOf) (fun x b e => ?_) ?_
            · induction x using PySem.Expr.casesOn <;> simp only at e <;> first | exact nn e | skip
              split at e
              · cases e; rfl
              · exact nn e
            · simp only [Bool.or_eq_true, bne_iff_ne, ne_eq, not_or, Decidable.not_not] at hlen
              exact hlen.1
  | _ => exact ⟨_, rfl, .inl rfl⟩

noncomputable def isComp (x : Expr) : Bool := Nat.beq (pt x).k 10 || Nat.beq (pt x).k 41
theorem swaps_none {y : Expr} {t : Option Expr} {line : Nat} (h : isComp y = false) : swapsWith y t line env = pure false := by
  induction y using PySem.Expr.casesOn <;> first | rfl | cases h
theorem swaps_attr {y a : Expr} {t : Str} {p : Pos} {line : Nat} : swapsWith y (some (.Attribute a t p)) line env = pure false := by induction y using PySem.Expr.casesOn <;> rfl
theorem swaps_sub {y a b : Expr} {p : Pos} {line : Nat} : swapsWith y (some (.Subscript a b p)) line env = pure false := by induction y using PySem.Expr.casesOn <;> rfl
theorem swaps_tup {y : Expr} {l : List Expr} {n : Nat} {p : Pos} {line : Nat} : swapsWith y (some (.Tuple l n p)) line env = pure false := by induction y using PySem.Expr.casesOn <;> rfl
theorem swaps_name {y : Expr} {t : Str} {p : Pos} {line : Nat} : ∃ b, swapsWith y (some (.Name t p)) line env = pure b := by induction y using PySem.Expr.casesOn <;> exact ⟨_, rfl⟩
theorem swaps_ok {y tx : Expr} {line : Nat} {t : T} (mt : mtT f sc t tx = true) : ∃ b, swapsWith y (some tx) line env = pure b ∧ (b = true → (∃ t p, tx = .Name t p) ∧ isComp y = true) := by
  induction t using T.casesOn with
  | var i =>
    refine x1a2 (isVar_of mt) fun p e _ => ?_
    cases hc : isComp y with
    | false => exact ⟨false, swaps_none hc, fun h => by exact ff h⟩
    | true =>
      refine x1a1 (swaps_name (env := env) (y := y) (t := nm i) (p := p) (line := line)) fun b hb => ?_
      exact ⟨b, (congrArg (fun z => swapsWith y (some z) line env) e).trans hb, fun _ => ⟨⟨_, _, e⟩, rfl⟩⟩
  | attr _ _ => exact ⟨false, (congrArg (fun z => swapsWith y (some z) line env) (bk_of (and_l mt))).trans swaps_attr, fun h => by exact ff h⟩
  | sub _ _ => exact ⟨false, (congrArg (fun z => swapsWith y (some z) line env) (bk_of (and_l mt))).trans swaps_sub, fun h => by exact ff h⟩
  | tup _ => exact ⟨false, (congrArg (fun z => swapsWith y (some z) line env) (bk_of (and_l mt))).trans swaps_tup, fun h => by exact ff h⟩
noncomputable def E.comp? (e : E) : Option (E × List G) := match e with | .comp a b => some (a, b) | _ => Option.none
theorem comp?_of : ∀ e : E, (!(Nat.beq (ek e) 10) || e.comp?.isSome) = true := by intro e; cases e <;> rfl
theorem comp?_some {e : E} {x : E × List G} (h : e.comp? = some x) : e = .comp x.1 x.2 := by cases e <;> first | ((first | exact nn h | (refine x0a2 (sinj h) fun e1_ e2_ => ?_; clear h; subst e1_; subst e2_)); rfl) | exact nn h
theorem swaps_only {y : Expr} (h : isComp y = true) {e : E} (hm : mtE f sc e y = true) : ∃ elt gens, e = .comp elt gens := by
  have l := ek_le e
  unfold isComp at h
  rw [mt_k hm] at h
  have h10 : Nat.beq (ek e) 10 = true := by
    rcases (Bool.or_eq_true _ _).mp h with h | h
    · exact h
    · rw [Nat.eq_of_beq_eq_true h] at l; exact ff l
  have := comp?_of e
  rw [h10] at this
  refine x1a1 (Option.isSome_iff_exists.mp this) fun x hx => ?_
  exact ⟨x.1, x.2, comp?_some hx⟩
end
end Mini
end
section
set_option autoImplicit false
namespace Mini
open PySem PySem.Calls PyProof.Rows
open PySem.W (Frag dictOf Looks findIn typeIn keepIn makesIn plainGet hasDictIn plainOver getL)

section
variable {C : Cfg} {sc sc' : Scope} {env : Env} {lo lo' : Lo} {A : Around} {R : Sems} {n : Nat} {f : Nat} {ρ ρ' : Rh} {H H' : Hp} {s s' : Shared} {a D : Addr} {acc : List V}

theorem EnvOK.wr_here (X : EnvOK C sc env ρ H s.heap lo) {q : Addr} (w : Wr sc env q) : ∃ o, s.heap.get? q = some o := by
  rcases w with rfl | ⟨x, hx, e⟩
  · obtain ⟨m, ⟨o, _, _, ho, _⟩, _⟩ := X.ns; exact ⟨o, ho⟩
  · refine x2a2 (X.cell_lt (.inl hx) e) fun v o ho _ => ?_; exact ⟨o, ho⟩

theorem zip_rev {α β : Type} {a : List α} {b : List β} (h : a.length = b.length) : a.reverse.zip b.reverse = (a.zip b).reverse := by
  induction a generalizing b with
  | nil => rfl
  | cons x a ih => induction b using List.casesOn with
    | nil => cases h
    | cons y b =>
      have h : a.length = b.length := Nat.succ.inj h
      rw [List.reverse_cons, List.reverse_cons, List.zip_append (by rw [List.length_reverse, List.length_reverse, h]), ih h]; exact (List.reverse_cons ..).symm

/-- what stands on the left of an assignment gets its value -/
theorem target_ok {G : Glo} (K : CfgOK C G) (EV : EvOK C n R) {t : T} {tx : Expr} {v : V} {x : Value} {H1 : Hp} (mt : mtT f sc t tx = true) (h : asgT C.P R t v lo H1 = some (lo', H')) (r : Room n A) (S : St C ρ H1 s) (X : EnvOK C sc env ρ H1 s.heap lo) (rv : VR ρ H1 s.heap v x)
    {E : Value → Shared → Prop} {Q : Unit → Shared → Prop} (k : ∀ s' ρ', St C ρ' H' s' → Nx (Wr sc env) ρ H1 s ρ' H' s' → EnvOK C sc env ρ' H' s'.heap lo' → Q () s') : wpAny (MM C) A (assign tx env x) Q E s := by
  induction t using T.casesOn with
  | var i => (revert k; apply sinjE h; clear h; intro k); exact assign_name X S mt rv fun s' S' N' X' => k s' ρ S' N' X'
  | tup ts =>
    refine msE h fun lo1 h1 h2 => ?_
    clear h
    (revert k; apply pinjE h2; clear h2; intro k)
    exact assign_ok X S r.1 (show mtB sc (.tup ts) tx = true from mt) h1 rv fun s' S' N' X' => k s' ρ S' N' X'
  | attr o b =>
    have hx := bk_of (and_l mt)
    have m := and2 (and_r mt)
    have e : (pt tx).s = nm b := beq_iff_eq.mp m.2
    rw [hx, show bk 12 (pt tx) = .Attribute (pt tx).a (pt tx).s (pt tx).p from rfl, e]
    refine bpE h fun ov H2 h1 ha => ?_
    clear h
    refine bsE ha fun rr hr hb => ?_
    clear ha
    obtain rfl := ref?_some hr
    refine bsE hb fun ob hn ha => ?_
    clear hb
    refine bsE ha fun w hw hb => ?_
    clear ha
    obtain rfl := inst?_some hw
    refine itE hb fun hc h => ?_
    clear hb
    (revert k; apply sinjE h; clear h; intro k)
    have hc := and3 hc
    refine x1a1 (Option.isSome_iff_exists.mp hc.2.2) fun ms hms => ?_
    have hmem : b ∈ C.P.attrs := by
      refine x1a2 (List.any_eq_true.mp hc.2.1) fun b' hb e => ?_
      rw [Nat.eq_of_beq_eq_true e]; exact hb
    show wpAny _ _ (holding [x] (eval (pt tx).a env) >>= _) _ _ _
    refine wpAny_bind (wpAny_holding (EV f sc env o (pt tx).a lo H1 _ H2 m.1 h1 A s ρ r S X _ _ fun x1 s₁ ρ₁ S₁ N₁ r₁ => ?_))
    cases r₁ with
    | ref hp =>
      refine wpAny_bind (wpAny_standAt (wpAny_bind (wpAny_holding ?_)))
      refine setattr_ok K S₁ hn hp hms hmem (Nat.le_of_ble_eq_true hc.1) (rv.lasts (N₁.lasts S)) fun s₂ S₂ N₂ => ?_
      exact wpAny_release (k s₂ ρ₁ S₂ ((N₁.trans N₂).wide X.wdata) (X.next S (N₁.trans N₂)))
  | sub o i =>
    have hx := bk_of (and_l mt)
    have m := and2 (and_r mt)
    rw [hx]
    refine bpE h fun ov H2 h1 ha => ?_
    clear h
    refine bpE ha fun iv H3 h2 hb => ?_
    clear ha
    refine msE hb fun H4 h3 h => ?_
    clear hb
    (revert k; apply pinjE h; clear h; intro k)
    show wpAny _ _ (holding [x] (eval (pt tx).a env) >>= _) _ _ _
    refine wpAny_bind (wpAny_holding (EV f sc env o (pt tx).a lo H1 _ H2 m.1 h1 A s ρ r S X _ _ fun x1 s₁ ρ₁ S₁ N₁ r₁ => ?_))
    refine wpAny_bind (wpAny_holding (EV f sc env i (pt tx).b lo H2 _ H3 m.2 h2 A s₁ ρ₁ r S₁ (X.next S N₁) _ _ fun x2 s₂ ρ₂ S₂ N₂ r₂ => ?_))
    refine wpAny_bind (wpAny_standAt (wpAny_bind (wpAny_holding ?_)))
    refine setitem_ok S₂ (r₁.lasts (N₂.lasts S₁)) r₂ (rv.lasts ((N₁.trans N₂).lasts S)) h3 r.units fun s₃ S₃ N₃ => ?_
    exact wpAny_release (k s₃ ρ₂ S₃ (((N₁.trans N₂).trans N₃).wide X.wdata) (X.next S ((N₁.trans N₂).trans N₃)))

/-- where no tuple is stored into, nothing is swapped -/
theorem swapped_no {tx y : Expr} (h : (Nat.beq (pt tx).k 12 || Nat.beq (pt tx).k 13) = true) : swappedStores [tx] y env = pure none ∧ (assignEach [tx] env).map (·.2) = [assign tx env] := by
  rcases (Bool.or_eq_true _ _).mp h with h | h <;> rw [bk_of h] <;> exact ⟨by induction y using Expr.casesOn <;> rfl, rfl⟩
theorem swapped_name {x : Str} {p : Pos} {y : Expr} : swappedStores [.Name x p] y env = pure none := by induction y using Expr.casesOn <;> rfl
theorem names_back {ts : List Nat} : ∀ {ps : List Pos}, ts.length = ps.length → (ts.zip ps).map (nameOf ∘ fun q => Expr.Name (nm q.1) q.2) = ts.map nm := by
  induction ts with
  | nil => intro ps _; rfl
  | cons i l ih =>
    intro ps hlen
    induction ps using List.casesOn with
    | nil => cases hlen
    | cons p ps => exact congrArg (nm i :: ·) (ih (Nat.succ.inj hlen))
theorem store_plain {G : Glo} (K : CfgOK C G) (EV : EvOK C n R) {t : T} {tx y : Expr} {v : V} {x : Value} {H1 : Hp} (mt : mtT f sc t tx = true) (pv : plainVal tx y = true) (nd : nodupB (tgtB t) = true) (h : asgT C.P R t v lo H1 = some (lo', H')) (r : Room n A) (S : St C ρ H1 s) (X : EnvOK C sc env ρ H1 s.heap lo) (rv : VR ρ H1 s.heap v x)
    {E : Value → Shared → Prop} {Q : Flow → Shared → Prop} (k : ∀ s' ρ', St C ρ' H' s' → Nx (Wr sc env) ρ H1 s ρ' H' s' → EnvOK C sc env ρ' H' s'.heap lo' → Q .next s') :
    wpAny (MM C) A (swappedStores [tx] y env >>= fun r => assignStores env x r ((assignEach [tx] env).map (·.2))) Q E s := by
  have plain : ∀ (hs : swappedStores [tx] y env = pure none) (ha : (assignEach [tx] env).map (·.2) = [assign tx env]), wpAny (MM C) A (swappedStores [tx] y env >>= fun r => assignStores env x r ((assignEach [tx] env).map (·.2))) Q E s := by
    intro hs ha
    rw [hs, ha]
    refine wpAny_bind (wpAny_pure ?_)
    show wpAny _ _ (assign tx env x >>= fun _ => (pure Flow.next : Sem Flow)) _ _ _
    exact wpAny_bind (target_ok K EV mt h r S X rv fun s' ρ' S' N' X' => wpAny_pure (k s' ρ' S' N' X'))
  induction t using T.casesOn with
  | var i =>
    refine x1a2 (isVar_of mt) fun p e _ => ?_
    subst e
    exact plain swapped_name rfl
  | attr o b => exact plain (swapped_no (by rw [and_l mt]; rfl)).1 (swapped_no (y := y) (by rw [and_l mt]; rfl)).2
  | sub o i => exact plain (swapped_no (by rw [and_l mt, Bool.or_true])).1 (swapped_no (y := y) (by rw [and_l mt, Bool.or_true])).2
  | tup ts =>
    have hx : tx = .Tuple (pt tx).l (pt tx).n (pt tx).p := bk_of (and_l mt)
    have mt' := and_r mt
    generalize (pt tx).l = xs at hx mt'
    generalize (pt tx).n = j at hx
    generalize (pt tx).p = p at hx
    subst hx
    · refine x1a2 (swapped_ok (env := env) pv) fun rs hs hr => ?_
      rcases hr with rfl | rfl
      · exact plain hs rfl
      · rw [hs]
        refine wpAny_bind (wpAny_pure ?_)
        refine msE h fun lo1 h1 ha => ?_
        clear h
        refine bsE h1 fun vs h2 h3 => ?_
        clear h1
        (revert k; apply pinjE ha; clear ha; intro k)
        have e1 := bindTs_put h3
        obtain ⟨ho, ps, hl, hx⟩ := go_names mt'
        have e2 := bindTs_len h3
        have hnd := nodupB_nodup (show nodupB ts = true from nd)
        have hnames : xs.map nameOf = ts.map nm := by
          rw [hx, List.map_map]
          exact names_back (by rw [hl])
        rw [hnames]
        show wpAny _ _ (rule "assign.swapped-stores" >>= fun _ => unpackItems x (ts.map nm).length none >>= fun items => assignInOrder ((ts.map nm).reverse.map fun n => bindName env n) items.reverse >>= fun _ => (pure Flow.next : Sem Flow)) _ _ _
        refine wpAny_bind (wpAny_rule ?_)
        rw [List.length_map, ← e2]
        refine wpAny_bind (unpack_ok S r.1 rv h2 fun ys s₁ S₁ N₁ r₁ => ?_)
        have X₁ := X.next S N₁
        have er : (ts.map nm).reverse.map (fun n => bindName env n) = ts.reverse.map fun i => bindName env (nm i) := by
          rw [← List.map_reverse, List.map_map]; rfl
        rw [er]
        refine wpAny_bind (bind_all (fun i hi => ho i (List.mem_reverse.mp hi)) (by simp [e2]) r₁.rev X₁ S₁ fun s₂ S₂ N₂ X₂ => ?_)
        refine wpAny_pure (k s₂ ρ S₂ ((N₁.wide X.wdata).trans N₂) (X₂.sub fun i u e => ?_))
        have hz : (ts.zip vs).map (·.1) = ts := by rw [List.map_fst_zip]; rw [e2]; exact Nat.le_refl _
        have hzr : ts.reverse.zip vs.reverse = (ts.zip vs).reverse := by
          exact zip_rev (by rw [e2])
        rw [hzr, lk_putAll (by rw [List.map_reverse, hz]; exact (List.reverse_perm _).nodup_iff.mpr hnd), lk_rev (by rw [hz]; exact hnd)]
        rw [e1, lk_putAll (by rw [hz]; exact hnd)] at e
        exact e

theorem asg_ok {G : Glo} (K : CfgOK C G) (EV : EvOK C n R) (CP : CpOK C n R) {t : T} {e : E} {tx y : Expr} {pos : Pos} {v : V} {H1 : Hp} (mt : mtT f sc t tx = true) (me : mtE f sc e y = true) (pv : plainVal tx y = true) (nd : nodupB (tgtB t) = true) (h1 : R.ev e lo H = some (v, H1)) (h2 : asgT C.P R t v lo H1 = some (lo', H'))
    (r : Room n A) (S : St C ρ H s) (X : EnvOK C sc env ρ H s.heap lo) {E : Value → Shared → Prop} {Q : Flow → Shared → Prop} (k : ∀ s' ρ', St C ρ' H' s' → Nx (Wr sc env) ρ H s ρ' H' s' → EnvOK C sc env ρ' H' s'.heap lo' → Q .next s') :
    wpAny (MM C) A (exec (.Assign [tx] y pos) env) Q E s := by
  rw [arm_exec_Assign]
  refine wpAny_bind (wpAny_standAt ?_)
  refine x1a2 (swaps_ok (env := env) (y := y) (line := pos.line) mt) fun b hb hbt => ?_
  show wpAny _ _ (swapsWith y (some tx) pos.line env >>= _) _ _ _
  rw [hb]
  refine wpAny_bind (wpAny_pure ?_)
  induction b using Bool.casesOn with
  | false =>
    rw [if_neg Bool.false_ne_true]
    refine wpAny_bind (EV f sc env e y lo H v H1 me h1 A s ρ r S X _ _ fun x1 s₁ ρ₁ S₁ N₁ r₁ => ?_)
    exact store_plain K EV mt pv nd h2 r S₁ (X.next S N₁) r₁ fun s' ρ' S' N' X' => k s' ρ' S' ((N₁.wide X.wdata).trans N') X'
  | true =>
    rw [if_pos rfl]
    obtain ⟨⟨t', p', rfl⟩, hc⟩ := hbt rfl
    obtain ⟨elt, gens, rfl⟩ := swaps_only hc me
    induction t using T.casesOn with
    | var i =>
      (revert k; apply sinjE h2; clear h2; intro k)
      obtain ⟨y', cs, sc', p, rfl, hasy, core⟩ := CP f sc env elt gens y lo H v _ me h1 A s ρ r S X
      refine wpAny_bind ?_
      show wpAny _ _ (comprehension (.ListComp y' cs sc' p) sc' env (firstIterPos cs p) (newList []) (firstAsync cs) (firstIter cs env) (some _) >>= fun _ => pure ()) _ _ _
      rw [hasy]
      refine wpAny_bind (core (some _) _ _ fun D Lc s₁ ρ₁ S₁ N₁ rv L hm h0 => ?_)
      have X₁ := X.next S N₁
      have nW : ¬ Wr sc env Lc := fun w => by
        refine x1a1 (X.wr_here w) fun o ho => ?_
        rw [h0] at ho; exact nn ho
      show wpAny _ _ (assign (.Name t' p') env (.ref D)) _ _ _
      refine assign_name X₁ S₁ mt rv fun s₂ S₂ N₂ X₂ => ?_
      refine x4a2 hm fun m o es ep ho hrest => ?_
      refine ⟨m, ⟨o, es, ep, N₂.keep Lc o ho L.own nW, hrest⟩, fun h'' hs => ?_⟩
      have L₂ := L.next N₂ nW
      have NN := (N₁.wide X.wdata).trans N₂
      refine x0a3 (comp_leave S₂ L₂ hs NN h0) fun S₃ N₃ La₃ => ?_
      refine wpAny_pure (wpAny_pure (k _ ρ₁ S₃ N₃ (X₂.keepL La₃ (fun o e => (hs.2 _ (fun q => ?_)).trans e) (fun x c hx e o g => (hs.2 _ (fun q => ?_)).trans g) X₂.clr X₂.free)))
      · exact nW (.inl q.symm)
      · refine x2a2 (X.cell_lt hx e) fun v0 o0 ho0 _ => ?_
        rw [q, h0] at ho0; exact nn ho0
    | attr _ _ => exact ff mt
    | sub _ _ => exact ff mt
    | tup _ => exact ff mt
end
end Mini
end
section
set_option autoImplicit false
namespace Mini
open PySem PySem.Calls PyProof.Rows
open PySem.W (Frag dictOf Looks findIn typeIn keepIn makesIn plainGet hasDictIn plainOver getL)

section
variable {C : Cfg} {sc sc' : Scope} {env : Env} {lo lo' : Lo} {A : Around} {R : Sems} {n : Nat} {f : Nat} {ρ ρ' : Rh} {H H' : Hp} {s s' : Shared} {a D : Addr} {acc : List V}

theorem st_ok {G : Glo} (K : CfgOK C G) (EV : EvOK C n R) (TR : TrOK C n R) (EX : ExOK C n R) (CP : CpOK C n R) {st : S} {x : Stmt} {fl : Fl} (hm : mtS f sc st x = true) (h : exStep C.P R st lo H = some (fl, lo', H'))
    (r : Room n A) (S : St C ρ H s) (X : EnvOK C sc env ρ H s.heap lo) : RunsS C A sc env (exec x env) ρ H s fl lo' H' := by
  induction f using Nat.casesAuxOn with
  | zero => exact ff hm
  | succ f =>
    have hx := ms_bk hm
    clear hm
    rw [hx.1]
    have hm := hx.2
    clear hx
    cases st with
    | expr e =>
      refine mpE h fun v H1 h1 h2 => ?_
      have hc : (sp x).a = .Call (pt (sp x).a).a (pt (sp x).a).l [] (pt (sp x).a).p := bk_of (and_l hm)
      refine .eq h2 fun E Q k => wpAny_Expr_any (EV f sc env e _ lo H v _ (and_r hm) h1 A s ρ r S X _ _ fun x1 s₁ ρ₁ S₁ N₁ r₁ => ?_) (by unfold interactive; rw [X.kind]; rfl) (by rw [hc]; rfl)
      exact k .next s₁ ρ₁ S₁ (N₁.wide X.wdata) (X.next S N₁) .nxt
    | ret e =>
      refine mpE h fun v H1 h1 h2 => ?_
      refine .eq h2 ?_
      show RunsS C A sc env (exec (.Return (sp x).o (sp x).p) env) _ _ _ _ _ _
      replace hm : (match (sp x).o with | some y => mtE f sc e y | Option.none => isNone e) = true := hm
      generalize (sp x).o = o at hm
      induction o using Option.casesOn with
      | some y => exact fun E Q k => wpAny_Return_some (EV f sc env e y lo H v _ hm h1 A s ρ r S X _ _ fun x1 s₁ ρ₁ S₁ N₁ r₁ => k _ s₁ ρ₁ S₁ (N₁.wide X.wdata) (X.next S N₁) (.ret r₁))
      | none =>
        have he : e = .none := by cases e <;> first | rfl | exact ff hm
        rw [he] at h1
        have := EV 1 sc env .none (.Constant .none 0 default) lo H v _ rfl h1 A s ρ r S X
        exact fun E Q k Γ p hΓ => (this E (fun x s' => Q (.ret x) s') fun x s' ρ' S' N' r' => k _ s' ρ' S' (N'.wide X.wdata) (X.next S N') (.ret r')) Γ p hΓ
    | asg t e =>
      have m := and4 hm
      refine bpE h fun v H1 h1 h2 => ?_
      refine mpE h2 fun lo1 H2 h3 h4 => ?_
      exact .eq h4 fun E Q k => asg_ok K EV CP m.1 m.2.1 m.2.2.1 m.2.2.2 h1 h3 r S X fun s' ρ' S' N' X' => k .next s' ρ' S' N' X' .nxt
    | ifs c b e =>
      have m := and3 hm
      refine bpE h fun v H1 h1 h2 => ?_
      refine bsE h2 fun t ht h3 => ?_
      rw [bool?_some ht] at h1
      refine fun E Q k => wpAny_If (TR f sc env c _ lo H t H1 m.1 h1 A s ρ r S X _ _ fun s₁ ρ₁ S₁ N₁ => ?_)
      have kk : ∀ fl' s' ρ', St C ρ' H' s' → Nx (Wr sc env) ρ₁ H1 s₁ ρ' H' s' → EnvOK C sc env ρ' H' s'.heap lo' → FlR ρ' H' s'.heap fl fl' → Q fl' s' := fun fl' s₂ ρ₂ S₂ N₂ X₂ q => k fl' s₂ ρ₂ S₂ ((N₁.wide X.wdata).trans N₂) X₂ q
      induction t using Bool.casesOn with
      | true => exact EX f sc env b _ lo H1 fl lo' H' m.2.1 h3 A s₁ ρ₁ r S₁ (X.next S N₁) E Q kk
      | false => exact EX f sc env e _ lo H1 fl lo' H' m.2.2 h3 A s₁ ρ₁ r S₁ (X.next S N₁) E Q kk
    | whl c b => exact fun E Q k => wpAny_While (while_ok TR EX (and_l hm) (and_r hm) _ h r S X k)
    | fr t e b =>
      have m := and3 hm
      refine bpE h fun vs H1 h1 h2 => ?_
      intro E Q k
      show wpAny _ _ (standAt (sp x).p >>= fun _ => eval (sp x).b env >>= fun z => foldedSetIterable (sp x).b env z >>= fun z => standAt (sp x).b.pos >>= fun _ => holding [z] (pyIter z) >>= fun it => runOwn (.forLoop (sp x).a it (sp x).l [] env) env) _ _ _
      refine wpAny_bind (wpAny_standAt (wpAny_bind ?_))
      refine wpAny_mono (it_ok (Q := fun (xv : Value) (s₄ : Shared) => ∃ I ρ₂, xv = .ref I ∧ St C ρ₂ H1 s₄ ∧ Nx no ρ H s ρ₂ H1 s₄ ∧ ItR ρ₂ H1 s₄.heap I vs ∧ Loose C ρ₂ s₄.heap I ∧ s.heap.get? I = none) K EV m.2.1 h1 r S X fun I s₄ ρ₄ S₄ N₄ it₄ L₄ ab => ⟨I, ρ₄, rfl, S₄, N₄, it₄, L₄, ab⟩) (fun xv s₁ hp => ?_) fun _ _ e => e
      rw [folded_plain m.2.1]
      refine wpAny_bind (wpAny_pure (wpAny_bind (wpAny_standAt (wpAny_bind (wpAny_holding (wpAny_mono hp (fun itv s₂ hq => ?_) fun _ _ e => e))))))
      obtain ⟨I, ρ₂, e, S₂, N₂, it₂, L₂, ab⟩ := hq
      rw [e]
      exact wpAny_runOwn (for_ok EX m.1 m.2.2 vs h2 r.mark S₂ (X.next S N₂) it₂ L₂ ab (N₂.wide X.wdata) k)
    | cont => exact .eq (Option.some.inj h) fun E Q k => wpAny_Continue (k .cont s ρ S (Nx.refl' X.wdata) X .cont)
    | rais => exact nn h

theorem exs_ok {G : Glo} (K : CfgOK C G) (EV : EvOK C n R) (TR : TrOK C n R) (EX : ExOK C n R) (CP : CpOK C n R) : ∀ {b : List S} {xs : List Stmt} {lo : Lo} {H : Hp} {fl : Fl} {lo' : Lo} {H' : Hp}, mtSs (mtS f sc) b xs = true → exsStep C.P R b lo H = some (fl, lo', H') →
    ∀ {s : Shared} {ρ : Rh}, Room n A → St C ρ H s → EnvOK C sc env ρ H s.heap lo → RunsS C A sc env (execs xs env) ρ H s fl lo' H' := by
  intro b
  induction b with
  | nil =>
    intro xs lo H fl lo' H' hm h s ρ r S X
    induction xs using List.casesOn with
    | nil => exact .eq (Option.some.inj h) fun E Q k => wpAny_execs_nil (k .next s ρ S (Nx.refl' X.wdata) X .nxt)
    | cons _ _ => exact ff hm
  | cons st b ih =>
    intro xs lo H fl lo' H' hm h s ρ r S X
    induction xs using List.casesOn with
    | nil => exact ff hm
    | cons x xs =>
      have hm := and2 hm
      refine b3E h fun f1 lo1 H1 h1 h2 => ?_
      refine fun E Q k => wpAny_execs_cons (st_ok K EV TR EX CP hm.1 h1 r S X E _ fun fl' s₁ ρ₁ S₁ N₁ X₁ q => ?_)
      have done : ∀ {w : Fl} {w' : Flow}, FlR ρ₁ H1 s₁.heap w w' → some (w, lo1, H1) = some (fl, lo', H') → Q w' s₁ := fun {w w'} q e => by
        refine x0a3 (sinj3 e) fun e1 e2 e3 => ?_
        subst e1; subst e2; subst e3
        exact k _ s₁ ρ₁ S₁ N₁ X₁ q
      induction q using Mini.FlR.casesOn with
      | nxt => exact ih hm.2 h2 r S₁ X₁ E Q fun fl' s₂ ρ₂ S₂ N₂ X₂ q => k fl' s₂ ρ₂ S₂ (N₁.trans N₂) X₂ q
      | cont => exact done .cont h2
      | ret rr => exact done (.ret rr) h2
end
end Mini
end
section
set_option autoImplicit false
namespace Mini
open PySem PySem.Calls PyProof.Rows
open PySem.W (Frag dictOf Looks findIn typeIn keepIn makesIn plainGet hasDictIn plainOver getL)

theorem boot_super : bootBuiltins "super" = some (.type "super") := by decide +kernel

section
variable {C : Cfg} {sc sc' : Scope} {env : Env} {lo lo' : Lo} {A : Around} {R : Sems} {n : Nat} {f : Nat} {ρ ρ' : Rh} {H H' : Hp} {s s' : Shared} {a D : Addr} {acc : List V}

theorem ev_step {G : Glo} (K : CfgOK C G) (EV : EvOK C n R) (TR : TrOK C n R) (EX : ExOK C n R) (SO : SupOK C n R) {R' : Sems} (hR : R'.ev = evStep C.P R) : EvOK C (n + 1) R' := by
  intro f sc env e x lo H v H' hm h A s ρ r S X
  rw [hR] at h
  have r0 := r.dec
  induction f using Nat.casesAuxOn with
  | zero => exact ff hm
  | succ f =>
    cases e with
    | none => (refine sinjE h ?_; clear h); exact ev_none (v := .none) hm S
    | bool b => (refine sinjE h ?_; clear h); exact ev_bool hm S
    | num i => (refine sinjE h ?_; clear h); exact ev_num hm S
    | str i => (refine sinjE h ?_; clear h); exact ev_str hm S
    | var i =>
      refine msE h fun u h1 h2 => ?_
      (refine pinjE h2 ?_; clear h2)
      exact ev_var hm h1 S X
    | cst i =>
      refine msE h fun u h1 h2 => ?_
      (refine pinjE h2 ?_; clear h2)
      exact ev_cst K hm h1 S X
    | and l => exact (mt_bk hm).1 ▸ ev_and EV _ (mt_bk hm).2 h r0 S X
    | or l => exact (mt_bk hm).1 ▸ ev_or EV _ (mt_bk hm).2 h r0 S X
    | not a => exact ev_not EV hm h r0 S X
    | neg a => exact ev_neg EV hm h r0 S X
    | bin op a b => exact ev_bin EV hm h r0 S X
    | ite c a b => exact ev_ite EV TR hm h r0 S X
    | dict k ks vs => exact ev_dict EV hm h r0 S X
    | list m l => exact ev_list EV hm h r0 S X
    | tup l => exact ev_tup EV hm h r0 S X
    | comp elt gens => exact ev_comp K EV TR hm (compV_eq ▸ h) r0 S X
    | cmp a ops l => exact ev_cmp K EV hm h r0 S X
    | call g args => exact ev_call K EV EX hm h r S X
    | new c args => exact ev_new K EV EX SO hm h r S X
    | meth o m args => exact ev_meth K EV EX hm h r S X
    | bi b args => exact ev_bi K EV hm h r0 S X
    | attr o a => exact ev_attr K EV hm h r0 S X
    | sub o i => exact ev_sub EV hm h r0 S X
    | slice o lw up => exact ev_slice EV hm h r0 S X
    | fmt pre e post => exact ev_fmt EV hm h r0 S X
    | freeze e => exact ev_freeze EV hm h r0 S X
    | range l => cases and_r hm
    | inVals a d => exact ev_inVals K EV hm h r0 S X
    | sup c m => cases and_r hm

theorem cp_step {G : Glo} (K : CfgOK C G) (EV : EvOK C n R) (TR : TrOK C n R) {R' : Sems} (hR : R'.ev = evStep C.P R) : CpOK C (n + 1) R' := by
  intro f sc env elt gens x lo H v H' hm h A s ρ r S X
  rw [hR] at h
  induction f using Nat.casesAuxOn with
  | zero => exact ff hm
  | succ f => exact comp_core K EV TR hm (compV_eq ▸ h) r.dec S X

theorem ex_step {G : Glo} (K : CfgOK C G) (EV : EvOK C n R) (TR : TrOK C n R) (EX : ExOK C n R) (CP : CpOK C n R) {R' : Sems} (hR : R'.exs = exsStep C.P R) : ExOK C (n + 1) R' := by
  intro f sc env b xs lo H fl lo' H' hm h A s ρ r S X E Q k
  rw [hR] at h
  exact exs_ok K EV TR EX CP hm h r.dec S X E Q k
end
end Mini
end
section
set_option autoImplicit false
namespace Mini
open PySem PySem.Calls PyProof.Rows
open PySem.W (Frag dictOf Looks findIn typeIn keepIn makesIn plainGet hasDictIn plainOver getL)

section
variable {C : Cfg} {sc sc' : Scope} {env : Env} {lo lo' : Lo} {A : Around} {R : Sems} {n : Nat} {f : Nat} {ρ ρ' : Rh} {H H' : Hp} {s s' : Shared} {a D : Addr} {acc : List V}

theorem super_in : ("super" : Str) ∈ biNames := by decide +kernel

theorem ref_uniq {h : Heap} {r : Nat} {y : Value} {p : Addr × Addr} (ry : VR ρ H h (.ref r) y) (hp : ρ[r]? = some p) : y = .ref p.1 := by
  refine VR.refE ry fun {q} e => ?_
  rw [Option.some.inj (e.symm.trans hp)]
set_option tactic.hygienic true in
theorem cls_obj {h : Heap} (X0 : C.K.In h) {c : Addr} {cd : ClassData} (hcd : W.clsIn C.K c = some cd) : ∃ oD, h.get? c = some oD ∧ oD.data = .cls cd ∧ C.K.lookup c = some oD := by
  unfold W.clsIn at hcd
  split at hcd
  · rename_i c0 d0 cd0 sl0 hl0
    obtain rfl := Option.some.inj hcd
    exact ⟨_, X0 _ _ hl0, rfl, hl0⟩
  · exact nn hcd
theorem type_obj {f2 : Addr} {T : Value} (ht : (C.K.lookup f2).map (·.cls) = some T) : ∃ of, C.K.lookup f2 = some of ∧ of.cls = T := by
  refine msE ht fun o h1 h2 => ?_
  exact ⟨o, h1, h2⟩
theorem Fn.fnIn {a : Addr} {fd : FDef} (F : Fn C a fd) : W.fnIn C.K a = true := by
  refine x4a2 F fun d2 as2 st2 m2' F2' _ => ?_
  refine x3a1 F2'.obj fun oc2 od2 sl2 h2 => ?_
  unfold W.fnIn
  rw [h2]
theorem lk_self {i : Nat} {v u : V} (e : lk [(n_self, u)] i = some v) : i = n_self ∧ v = u := by
  rw [lk_cons] at e
  by_cases q : i = n_self
  · rw [if_pos q] at e; exact ⟨q, (Option.some.inj e).symm⟩
  · rw [if_neg q] at e; exact nn e
/-- the frame of such an __init__ -/
theorem sup_frame {c a m2 : Nat} {b2 : List S} {d : FuncData} {ar : Arg} {p0 p1 ap pq p' : Pos} {rest : List Stmt} {nn' : Nat} {cc cda f2 : Addr} (U : SupAt C c a m2 b2 d ar p0 p1 ap pq p' rest nn' cc cda f2) (K : C.K.In C.base) (S : St C ρ H s) {r : Nat} {p : Addr × Addr} (hp : ρ[r]? = some p) {h₀ : Heap} {L : Addr} (hL0 : s.heap.get? L = none)
    (hk₀ : ∀ b o, s.heap.get? b = some o → h₀.get? b = some o) (hns : h₀.Ns L fun x => ([(nm n_self, Value.ref p.1)] : List (Str × Value)).lookup x) : EnvOK C d.scope (callEnv d L a) ρ H h₀ [(n_self, .ref r)] ∧ ∀ q, Wr d.scope (callEnv d L a) q → s.heap.get? q = none := by
  refine x3a1 U.cell fun cl cld csl hcell => ?_
  have FL := S.freshAt hL0
  have hccb := K _ _ hcell
  have clsc : (callEnv d L a).cells.lookup ("__class__" : Str) = some cc := by
    show d.closure.lookup _ = _
    rw [U.clo]; simp
  refine ⟨⟨U.kind, U.glob, U.blt, fun x hx => hx, fun x hx => absurd rfl (U.cells _ (lookup_mem hx)), fun x hx => ⟨.inr hx, ?_⟩, fun x hx => hx, ⟨_, hns, fun i v hi hk => ?_⟩, fun i v hi hk => ?_,
    ⟨FL.own, fun x c0 hx e => ?_⟩, ⟨FL.base, fun x c0 hx => absurd rfl (U.cells _ (lookup_mem hx))⟩, fun x y c0 hx => absurd rfl (U.cells _ (lookup_mem hx)), ⟨FL.ne, FL.z⟩⟩, fun q w => ?_⟩
  · rw [U.free x hx]
    exact ⟨cc, _, clsc, _, hk₀ _ _ (S.base _ _ hccb), rfl⟩
  · have e := lk_self hi
    rw [e.1, e.2]
    exact ⟨.ref p.1, by simp, .ref hp⟩
  · rw [(lk_self hi).1, U.self] at hk
    rcases hk with hk | hk <;> cases hk
  · rcases hx with hx | hx
    · exact absurd rfl (U.cells _ (lookup_mem hx))
    · intro q
      have : c0 = cc := by
        have e : d.closure.lookup x = some c0 := e
        rw [U.free x hx, U.clo] at e
        simpa using e.symm
      rw [this, ] at q
      rw [S.own_new q] at hccb; exact nn hccb
  · rcases w with e | ⟨x, hx, _⟩
    · rw [e]; exact hL0
    · exact absurd rfl (U.cells _ (lookup_mem hx))

theorem sup_ok {G : Glo} (K : CfgOK C G) {m : Nat} (EXm : ExOK C m (sem C.P m)) (EXt : ExOK C (m + 2) (sem C.P (m + 2))) : SupOK C (m + 2) (sem C.P (m + 2)) := by
  intro c a f r H v H' hS hn h A s ρ p hdep hroom S hp RR k
  obtain ⟨c2, m2, b2, ms2, f2d, d, ar, p0, p1, ap, pq, p', rest, nn, cc, cda, f2, rfl, hms2, hf2d, F2, U⟩ := hS
  have hev : (sem C.P (m + 1)).ev (.sup c2 m2) [(n_self, .ref r)] H = callF (sem C.P m) f2d [.ref r] H := by
    show ((lk [(n_self, V.ref r)] n_self).bind fun v => (lk C.P.classes c2).bind fun ms => (lk ms m2).bind fun f => callF (sem C.P m) f [v] H) = _
    rw [lk_cons, if_pos rfl, hms2]
    simp only [Option.bind_some, hf2d]
  refine bsE (show ((exsStep C.P (sem C.P (m + 1)) (.expr (.sup c2 m2) :: b2) [(n_self, .ref r)] H).bind fun x => x.1.out.map fun v => (v, x.2.2)) = some (v, H') from h) fun z hz hrun => ?_
  clear h
  refine b3E hz fun f1 lo1 H1 h1 h3 => ?_
  clear hz
  obtain ⟨⟨w, H1'⟩, hc, h4⟩ := map_some h1
  clear h1
  rw [hev] at hc
  (refine x0a3 (pinj3 h4) fun e1_ e2_ e3_ => ?_; clear h4; subst e1_; subst e2_; subst e3_)
  have hb : (sem C.P (m + 2)).exs b2 [(n_self, .ref r)] H1' = some z := h3
  clear h3
  · obtain ⟨fl, lo', H2⟩ := z
    refine x3a1 U.obj fun oc od sl hobj => ?_
    have X0 : C.K.In s.heap := K.X.keeps S.base
    have hg := X0 _ _ hobj
    obtain ⟨hcode, ccl, cdd, vs, ccs, file, tf, hcda, hvs, hfile⟩ := U.cdr
    refine x3a1 U.cell fun cl cld csl hcell => ?_
    refine x1a2 U.isc fun cd hcd halong => ?_
    have hbind : bindArgs d ⟨[.ref p.1], []⟩ = pure [(nm n_self, .ref p.1)] := by
      have := bind_plain (fd := d) (as := [ar]) (vals := [.ref p.1]) U.params U.dflt rfl (by simp)
      simpa [U.arg] using this
    refine ks_codeAny_call_defAt (fd := d) (binds := [(nm n_self, .ref p.1)]) hdep hg rfl (K.lim.keeps S.base) (U.code.keeps S.base) U.body (BindsTo.of_eq hbind) U.cells (by
      intro x hx
      simp only [List.mem_singleton] at hx
      rw [hx]; exact U.self) (fun h₀ hns hk₀ => ?_) U.co U.gen U.kind
    refine x0a2 (S.grow (s' := { s with heap := h₀, toks := s.toks + ([(nm n_self, Value.ref p.1)] : List (Str × Value)).length }) hk₀ rfl rfl) fun S₁ N₁ => ?_
    have FR := sup_frame U K.X S hp (get?_end s.heap) hk₀ hns
    have X₁ := FR.1
    have hW := FR.2
    have clsc : (callEnv d s.heap.objs.size a).cells.lookup ("__class__" : Str) = some cc := by
      show d.closure.lookup _ = _
      rw [U.clo]; simp
    have r2 := hroom (callEnv d s.heap.objs.size a)
    -- the first statement
    refine ks_wpAt_execs_cons (ks_wpAt_Expr_any ?_ (by unfold interactive; rw [X₁.kind]; rfl) rfl)
    rw [arm_eval_Call]
    refine x1a3 (cls_obj X0 hcd) fun oD hD1 hD2 hD3 => ?_
    obtain ⟨hne, hx1, es, n0, hx2, _⟩ := S.objs r _ p hn hp
    have hpc : p.1 ≠ C.cls c := fun e => Mini.nn ((S.new r p hp).1.symm.trans (e ▸ K.X _ _ hD3))
    refine x1a2 (type_obj U.f2t) fun of hof1 hof2 => ?_
    have hfn := F2.fnIn
    refine PySem.wpAt_bind (ks_wpAt_super_base (f := a) (cc := cda) U.sup U.cls U.notc rfl (hk₀ _ _ hg) rfl (by rw [U.params]; rfl) hcode (hk₀ _ _ (X0 _ _ hcda)) rfl hvs hfile U.top ?_)
    refine loadBlt_ok K X₁ S₁ U.sup super_in boot_super ⟨rfl, ?_⟩
    refine wpAny_loadName_free X₁.kind U.cls clsc ⟨_, hk₀ _ _ (X0 _ _ hcell), rfl⟩ ?_
    rw [U.arg]
    refine loadName_ok X₁ (i := n_self) (v := .ref r) (by unfold sees; rw [U.self]) (by decide +kernel) (by rw [lk_cons, if_pos rfl]) fun y ry => ?_
    rw [show y = .ref p.1 from ref_uniq ry hp]
    refine ks_wpAny_isType_cls (hk₀ _ _ hD1) hD2 ⟨rfl, ?_⟩
    refine ks_wpAny_call_super (hk₀ _ _ hD1) hD2 (hk₀ _ _ hx1) rfl (fun c0 e => by cases e) (W.looks_mroIn (X0.keeps hk₀) U.sub) fun h1 hso hk1 => ?_
    refine wpAt_of_wpAny (wpAny_bind (wpAny_standAt ?_))
    refine x0a2 (S₁.grow (s' := ⟨h1, s.gens, s.drawn, s.toks + ([(nm n_self, Value.ref p.1)] : List (Str × Value)).length, s.os⟩) hk1 rfl rfl) fun S₂ N₂ => ?_
    have X2 : C.K.In h1 := K.X.keeps S₂.base
    refine meth_go (f := 0) (sc := d.scope) (es := []) (xs := []) rfl U.line rfl fun pl => ?_
    refine ks_wpAny_getMethod_super hso (W.looks_opaque X2 U.any) (l₀ := cd.mro) (fun A Q E s k q => wpAny_bind ((W.looks_clsIn X2 hcd) A _ E s k (wpAny_pure q))) rfl X2 halong (X2 _ _ hof1) hof2 hpc U.notc ?_
    refine x0a2 (S₂.grow (s' := ⟨h1.push { cls := .type "method", data := .fields #[.ref f2, .ref p.1] }, s.gens, s.drawn, s.toks + ([(nm n_self, Value.ref p.1)] : List (Str × Value)).length + 1, s.os⟩) (fun a o e => Heap.get?_push_of_some _ e) rfl rfl) fun S₃ N₃ => ?_
    refine W.callWith_M0 (K := C.K) (g := f2) (self := .ref p.1) ⟨Heap.get?_push_size _ rfl, K.X.keeps S₃.base⟩ hfn ?_
    refine wpAny_call (ks_codeAny_call_bound (f := f2) (x := .ref p.1) (Heap.get?_push_size _ rfl) ?_)
    refine code_fn K EXm F2 hc (by have := r2.2.1; (clear hso hfn hof2 hof1 hpc hx2 hx1 hne hD3 hD2 hD1 clsc hbind halong hcd hcell hfile hvs hcda hcode hg hobj hb hrun hc hev hf2d hms2 hp hdep hn; lia)) (fun env => r2.dec.deep) S₃ (.cons (.ref hp) .nil) fun x s5 ρ5 S5 N5 rx => ?_
    have Nt := (N₂.trans N₃).trans N5
    have X5 := X₁.next S₁ Nt
    refine wpAt_of_wpAny (EXt nn d.scope _ b2 rest _ H1' fl lo' H2 U.mt hb _ s5 ρ5 r2 S5 X5 _ _ fun fl' s6 ρ6 S6 N6 X6 q => ?_)
    have NN := Nx.close (N₁.trans Nt) N6 hW (fun _ _ _ e => e)
    induction q using Mini.FlR.casesOn with
    | nxt => (refine x0a2 (sinj hrun) fun e1_ e2_ => ?_; clear hrun; subst e1_; subst e2_); exact k _ _ _ S6 NN .none
    | cont => cases hrun
    | ret rr => (refine x0a2 (sinj hrun) fun e1_ e2_ => ?_; clear hrun; subst e1_; subst e2_); exact k _ _ _ S6 NN rr
end
end Mini
end
section
set_option autoImplicit false
namespace Mini
open PySem PySem.Calls PyProof.Rows
open PySem.W (Frag dictOf Looks findIn typeIn keepIn makesIn plainGet hasDictIn plainOver getL)

structure AllOK (C : Cfg) (n : Nat) : Prop where
  ev : EvOK C n (sem C.P n)
  tr : TrOK C n (sem C.P n)
  ex : ExOK C n (sem C.P n)
  cp : CpOK C n (sem C.P n)
  so : SupOK C n (sem C.P n)

theorem sup_none {C : Cfg} {n : Nat} {R : Sems} (h : ∀ c m b lo H, R.exs (.expr (.sup c m) :: b) lo H = Option.none) : SupOK C n R := by
  intro c a f r H v H' hS hn hc
  exfalso
  obtain ⟨c2, m2, b2, ms2, f2d, d, ar, p0, p1, ap, pq, p', rest, nn, cc, cda, f2, rfl, _⟩ := hS
  unfold callF at hc
  rw [h] at hc
  revert hc
  cases (Nat.beq [V.ref r].length [n_self].length) <;> intro hc <;> cases hc

theorem sound {C : Cfg} {G : Glo} (K : CfgOK C G) : ∀ n, AllOK C n := by
  intro n
  induction n using Nat.strongRecOn with
  | ind n ih =>
    induction n using Nat.casesAuxOn with
    | zero =>
      refine ⟨?_, ?_, ?_, ?_, sup_none fun _ _ _ _ _ => rfl⟩
      · intro f sc env e x lo H v H' hm h; exact nn h
      · intro f sc env e x lo H v H' hm h; exact nn h
      · intro f sc env b xs lo H fl lo' H' hm h; exact nn h
      · intro f sc env elt gens x lo H v H' hm h; exact nn h
    | succ n =>
      have I := ih n (Nat.lt_succ_self n)
      have ev : EvOK C (n + 1) (sem C.P (n + 1)) := ev_step K I.ev I.tr I.ex I.so rfl
      have ex : ExOK C (n + 1) (sem C.P (n + 1)) := ex_step K I.ev I.tr I.ex I.cp rfl
      refine ⟨ev, tr_step K I.ev I.tr rfl ev fun hm h r S X => tr_inVals K I.ev hm h r S X, ex, cp_step K I.ev I.tr rfl, ?_⟩
      induction n using Nat.casesAuxOn with
      | zero => exact sup_none fun _ _ _ _ _ => rfl
      | succ m => exact sup_ok K (ih m (by lia)).ex ex

/-- a function of the program is called with values: what the mini program says is so -/
theorem run_fn {C : Cfg} {G : Glo} (K : CfgOK C G) {n : Nat} {fd : FDef} {fa : Addr} (F : Fn C fa fd) {vs : List V} {ys : List Value} {v : V} {H' : Hp} {A : Around} {s : Shared} (h : callF (sem C.P n) fd vs [] = some (v, H')) (r : Room (n + 1) A) (S : St C .nil [] s) (rv : VRs .nil [] s.heap vs ys) :
    Runs C A (call (.ref fa) ys) .nil [] s v H' := call_fn K (sound K n).ex F h r S rv
end Mini
end
section
set_option autoImplicit false
namespace Mini
open PySem PySem.Calls PyProof.Rows
open PySem.W (Frag dictOf Looks findIn typeIn keepIn makesIn plainGet hasDictIn plainOver getL nsIn codeIn)

/-! the facts of the head, checked by evaluation -/
theorem vref?_some {v : Value} {a : Addr} (h : vref? v = some a) : v = .ref a := by induction v using PySem.Value.casesOn <;> first | ((first | exact nn h | cases h); rfl) | exact nn h
theorem vstr?_some {v : Value} {a : Str × Tok} (h : vstr? v = some a) : v = .str a.1 a.2 := by induction v using PySem.Value.casesOn <;> first | ((first | exact nn h | (refine x0a2 (sinj h) fun e1_ e2_ => ?_; clear h; subst e1_; subst e2_)); rfl) | exact nn h
theorem vint?_some {v : Value} {a : Int × Tok} (h : vint? v = some a) : v = .int a.1 a.2 := by induction v using PySem.Value.casesOn <;> first | ((first | exact nn h | (refine x0a2 (sinj h) fun e1_ e2_ => ?_; clear h; subst e1_; subst e2_)); rfl) | exact nn h
theorem vbool?_some {v : Value} {a : Bool} (h : vbool? v = some a) : v = .bool a := by induction v using PySem.Value.casesOn <;> first | ((first | exact nn h | cases h); rfl) | exact nn h
theorem isNoneV_eq {v : Value} (h : isNoneV v = true) : v = .none := by induction v using PySem.Value.casesOn <;> first | rfl | exact ff h
theorem dt_fn {d : Data} {x : FuncData} (h : (dt d).fn = some x) : d = .func x := by induction d using PySem.Data.casesOn <;> first | ((first | exact nn h | cases h); rfl) | exact nn h
theorem dt_seq {d : Data} {x : Array Value × Nat} (h : (dt d).seq = some x) : d = .seq x.1 x.2 := by induction d using PySem.Data.casesOn <;> first | ((first | exact nn h | (refine x0a2 (sinj h) fun e1_ e2_ => ?_; clear h; subst e1_; subst e2_)); rfl) | exact nn h
theorem dt_flds {d : Data} {x : Array Value} (h : (dt d).flds = some x) : d = .fields x := by induction d using PySem.Data.casesOn <;> first | ((first | exact nn h | cases h); rfl) | exact nn h
theorem dt_cell {d : Data} {x : Option Value} (h : (dt d).cell = some x) : d = .cell x := by induction d using PySem.Data.casesOn <;> first | ((first | exact nn h | cases h); rfl) | exact nn h
theorem anyE {α : Type} {o : Option α} {p : α → Bool} (h : o.any p = true) : ∃ x, o = some x ∧ p x = true := by
  induction o using Option.casesOn with
  | none => exact ff h
  | some x => exact ⟨x, rfl, h⟩
theorem at_fn {K : Frag} {a : Addr} {d : FuncData} (h : at? K a (·.fn) = some d) : ∃ oc od sl, K.lookup a = some ⟨oc, od, .func d, sl⟩ := by
  refine bsE h fun o h1 h2 => ?_
  exact ⟨o.cls, o.dict, o.slots, h1.trans (by rw [← dt_fn h2])⟩

mutual
theorem chkVal_ok {K : Frag} {h : Heap} (X : K.In h) : ∀ (f : Nat) (v : V) (x : Value), chkVal K f v x = true → VR .nil [] h v x
  | f, .none, x, e => by rw [chkVal] at e; rw [isNoneV_eq e]; exact .none
  | f, .bool b, x, e => by
    rw [chkVal] at e
    refine x1a2 (anyE e) fun c h1 h2 => ?_
    rw [vbool?_some h1, ← (beq_iff_eq.mp h2 : b = c)]
    exact .bool _
  | f, .int i, x, e => by
    rw [chkVal] at e
    refine x1a2 (anyE e) fun t h1 h2 => ?_
    rw [vint?_some h1, ← (beq_iff_eq.mp h2 : i = t.1)]
    exact .int _ _
  | f, .str s, x, e => by
    rw [chkVal] at e
    refine x1a2 (anyE e) fun t h1 h2 => ?_
    rw [vstr?_some h1, ← (beq_iff_eq.mp h2 : nm s = t.1)]
    exact .str _ _
  | 0, .tup l, x, e => by rw [chkVal] at e; exact ff e
  | f + 1, .tup l, x, e => by
    rw [chkVal] at e
    refine x1a2 (anyE e) fun a h1 h2 => ?_
    refine x1a2 (anyE h2) fun o h3 h4 => ?_
    refine x1a2 (anyE (and_r h4)) fun q h5 h6 => ?_
    rw [vref?_some h1]
    exact .tup ⟨o, X _ _ h3, beq_iff_eq.mp (and_l h4), q.2, dt_seq h5⟩ (chkVals_ok X f l q.1.toList h6)
  | f, .lst l, x, e => by rw [chkVal] at e; exact ff e
  | f, .ref r, x, e => by rw [chkVal] at e; exact ff e
theorem chkVals_ok {K : Frag} {h : Heap} (X : K.In h) : ∀ (f : Nat) (v : List V) (x : List Value), chkVals K f v x = true → VRs .nil [] h v x
  | f, [], xs, e => by rw [chkVals] at e; rw [List.isEmpty_iff.mp e]; exact .nil
  | f, v :: vs, xs, e => by
    rw [chkVals] at e
    refine x1a2 (anyE (and_l e)) fun x h1 h2 => ?_
    induction xs using List.casesOn with
    | nil => exact nn h1
    | cons y xs => cases h1; exact .cons (chkVal_ok X f v _ h2) (chkVals_ok X f vs xs (and_r e))
end

theorem plainPar_eq {p : Arguments} (h : plainPar p = true) : p = ⟨[], p.args, Option.none, [], [], Option.none, []⟩ := by
  have a := and3 (and_l h)
  have b := and3 (and_r h)
  obtain ⟨p1, p2, p3, p4, p5, p6, p7⟩ := p
  obtain rfl : p1 = [] := List.isEmpty_iff.mp a.1
  obtain rfl : p3 = Option.none := Option.isNone_iff_eq_none.mp a.2.1
  obtain rfl : p4 = [] := List.isEmpty_iff.mp a.2.2
  obtain rfl : p5 = [] := List.isEmpty_iff.mp b.1
  obtain rfl : p6 = Option.none := Option.isNone_iff_eq_none.mp b.2.1
  obtain rfl : p7 = [] := List.isEmpty_iff.mp b.2.2
  rfl
theorem body?_some {b : FuncBody} {l : List Stmt} (h : body? b = some l) : b = .stmts l := by cases b <;> (first | exact nn h | cases h); rfl
theorem nodup_nm {l : List Nat} (h : l.Nodup) : (l.map nm).Nodup := by
  induction l with
  | nil => exact List.nodup_nil
  | cons i l ih =>
    rw [List.nodup_cons] at h
    rw [List.map_cons, List.nodup_cons]
    refine ⟨fun hm => ?_, ih h.2⟩
    refine x1a2 (List.mem_map.mp hm) fun j hj e => ?_
    exact h.1 (nm_inj e ▸ hj)
theorem bnot_t {b : Bool} (h : (!b) = true) : b = false := by induction b using Bool.casesOn; rfl; exact ff h
theorem chkFn_ok {C : Cfg} (X : C.K.In C.base) {a : Addr} {f : FDef} (h : chkFn C.K a f = true) : Fn C a f := by
  refine x1a2 (anyE (and_r h)) fun d hd h2 => ?_
  have q := and4 h2
  have a1 := and4 q.1
  have a2 := and4 q.2.1
  have a3 := and4 q.2.2.1
  have a4 := and2 q.2.2.2
  refine x1a2 (anyE a4.2) fun st hb hm => ?_
  refine ⟨d, d.params.args, st, 60, ⟨at_fn hd, and_l h, plainPar_eq a1.1, beq_iff_eq.mp a1.2.1, nodup_nm (nodupB_nodup a1.2.2.1), isNoneV_eq a1.2.2.2, body?_some hb, beq_iff_eq.mp a2.1, beq_iff_eq.mp a2.2.1, beq_iff_eq.mp a2.2.2.1, bnot_t a2.2.2.2, bnot_t a3.1, W.codeRec_of X a3.2.1, fun x hx => ?_, hm⟩, List.isEmpty_iff.mp a3.2.2.2, fun x hx => ?_⟩
  · obtain ⟨i, hi, rfl⟩ := List.mem_map.mp hx
    exact ((Bool.or_eq_true _ _).mp (List.all_eq_true.mp a3.2.2.1 i hi)).imp beq_iff_eq.mp beq_iff_eq.mp
  · cases List.all_eq_true.mp a4.1 _ (lookup_mem hx)
end Mini
end
section
set_option autoImplicit false
namespace Mini
open PySem PySem.Calls PyProof.Rows
open PySem.W (Frag dictOf Looks findIn typeIn keepIn makesIn plainGet hasDictIn plainOver getL nsIn codeIn clsIn alongIn mroIn)

theorem uno?_some {α : Type} {l : List α} {x : α} (h : uno? l = some x) : l = [x] := by
  induction l using List.casesOn with
  | nil => exact nn h
  | cons a l => induction l using List.casesOn <;> (first | exact nn h | cases h); rfl
theorem des?_some {α : Type} {l : List α} {x : α × List α} (h : des? l = some x) : l = x.1 :: x.2 := by induction l using List.casesOn <;> (first | exact nn h | (refine x0a2 (sinj h) fun e1_ e2_ => ?_; clear h; subst e1_; subst e2_)); rfl
theorem sup?_some {s : S} {x : Nat × Nat} (h : s.sup? = some x) : s = .expr (.sup x.1 x.2) := by
  cases s with
  | expr e => cases e <;> first | ((first | exact nn h | (refine x0a2 (sinj h) fun e1_ e2_ => ?_; clear h; subst e1_; subst e2_)); rfl) | exact nn h
  | _ => exact nn h
/-- super().m() as a statement -/
theorem call_eq {e : Expr} (h : Nat.beq (pt e).k 11 = true) (g : (pt e).l.isEmpty = true) : e = .Call (pt e).a [] [] (pt e).p := (bk_of h).trans (by show Expr.Call _ (pt e).l [] _ = _; rw [List.isEmpty_iff.mp g])
theorem supCall_eq {m : Nat} {x : Stmt} (h : supCall m x = true) : ∃ p0 p1 ap p p', x = .Expr (.Call (.Attribute (.Call (.Name "super" p0) [] [] p1) (nm m) ap) [] [] p) p' ∧ (ap.endLine == p.line) = true := by
  have h0 := sbk_sp x
  rw [Nat.eq_of_beq_eq_true (and_l h)] at h0
  replace h0 : x = .Expr (sp x).a (sp x).p := h0
  have h := and_r h
  have h1 := call_eq (and_l h) (and_l (and_r h))
  have h := and_r (and_r h)
  have h2 : _ = Expr.Attribute (pt (pt (sp x).a).a).a (pt (pt (sp x).a).a).s (pt (pt (sp x).a).a).p := bk_of (and_l h)
  have h := and_r h
  have e1 : (pt (pt (sp x).a).a).s = nm m := beq_iff_eq.mp (and_l h)
  have h := and_r h
  have hl := and_l h
  have h := and_r h
  have h3 := call_eq (and_l h) (and_l (and_r h))
  have h := and_r (and_r h)
  have h4 : _ = Expr.Name (pt (pt (pt (pt (sp x).a).a).a).a).s (pt (pt (pt (pt (sp x).a).a).a).a).p := bk_of (and_l h)
  rw [(beq_iff_eq.mp (and_r h) : (pt (pt (pt (pt (sp x).a).a).a).a).s = "super")] at h4
  rw [e1] at h2
  exact ⟨_, _, _, _, _, h0.trans (congrArg (fun e => Stmt.Expr e (sp x).p) (h1.trans (congrArg (fun e => Expr.Call e [] [] (pt (sp x).a).p) (h2.trans (congrArg (fun e => Expr.Attribute e (nm m) (pt (pt (sp x).a).a).p) (h3.trans (congrArg (fun e => Expr.Call e [] [] (pt (pt (pt (sp x).a).a).a).p) h4))))))), hl⟩

theorem chkCell_ok {K : Frag} {cc a : Addr} (h : chkCell K cc a = true) : ∃ cl cld csl, K.lookup cc = some ⟨cl, cld, .cell (some (.ref a)), csl⟩ := by
  refine x1a2 (anyE h) fun v h1 ha => ?_
  refine x1a2 (anyE ha) fun x e hb => ?_
  refine x1a2 (anyE hb) fun b h2 hc => ?_
  refine bsE h1 fun o h3 h4 => ?_
  rw [e, vref?_some h2, (beq_iff_eq.mp hc : b = a)] at h4
  exact ⟨o.cls, o.dict, o.slots, h3.trans (by rw [← dt_cell h4])⟩
theorem chkCode_ok {prog : Program} {K : Frag} {v : Value} (h : chkCode prog K v = true) : ∃ cda, v = .ref cda ∧ ∃ ccl cdd vs ccs file tf, K.lookup cda = some ⟨ccl, cdd, .fields vs, ccs⟩ ∧ vs[2]? = some (.str file tf) ∧ ((prog.main.file : Str) == file) = true := by
  refine x1a2 (anyE h) fun a h1 h => ?_
  refine x1a2 (anyE h) fun vs h2 h => ?_
  refine x1a2 (anyE h) fun w h3 h => ?_
  refine x1a2 (anyE h) fun f h4 h => ?_
  refine bsE h2 fun o h5 h6 => ?_
  exact ⟨a, vref?_some h1, o.cls, o.dict, vs, o.slots, f.1, f.2, h5.trans (by rw [← dt_flds h6]), h3.trans (congrArg some (vstr?_some h4)), h⟩
theorem chkSup_ok {C : Cfg} (X : C.K.In C.base) {c : Nat} {a : Addr} {f : FDef} (h : chkSup C.prog C.K C.P (C.cls c) a f = true) : Sup C c a f := by
  refine x1a2 (anyE (and_l h)) fun i hi h1 => ?_
  refine x1a2 (anyE (and_r h)) fun b hb h => ?_
  refine x1a2 (anyE h) fun x hx h => ?_
  refine x1a2 (anyE h) fun d hd h => ?_
  have q := and4 h
  have a1 := and4 q.1
  have a2 := and4 q.2.1
  have a3 := and4 q.2.2.1
  have a4 := and3 q.2.2.2
  have a5 := and4 a4.1
  have a6 := and4 a4.2.1
  refine x1a2 (anyE a6.2.1) fun ar har h3 => ?_
  refine x1a2 (anyE a6.2.2.1) fun cl hcl h4 => ?_
  refine x1a2 (anyE a6.2.2.2) fun st hst h5 => ?_
  refine x1a2 (anyE h5) fun y hy h6 => ?_
  obtain ⟨p0, p1, ap, p, p', e, hl⟩ := supCall_eq (and_l h6)
  refine x1a2 (anyE a4.2.2) fun cd hcd h7 => ?_
  refine x1a2 (anyE h7) fun v hv h8 => ?_
  refine x1a2 (anyE h8) fun w hw h9 => ?_
  refine x1a2 (anyE h9) fun f2 hf2 h10 => ?_
  have g := and3 h10
  refine x1a2 (anyE g.2.2) fun ms2 hms h11 => ?_
  refine x1a2 (anyE h11) fun f2d hfd h12 => ?_
  refine x1a1 (chkCode_ok a5.1) fun cda hc => ?_
  refine ⟨x.1, x.2, b.2, ms2, f2d, d, ar, p0, p1, ap, p, p', y.2, 60, cl.2, cda, f2, ?_, hms, hfd, chkFn_ok X h12, ⟨at_fn hd, ?_, beq_iff_eq.mp h3, isNoneV_eq a1.2.1, beq_iff_eq.mp a1.2.2.1, beq_iff_eq.mp a1.2.2.2, beq_iff_eq.mp a2.1, bnot_t a2.2.1, bnot_t a2.2.2.1, W.codeRec_of X a2.2.2.2, ?_, ?_, hl, and_r h6,
    beq_iff_eq.mp a3.1, beq_iff_eq.mp a3.2.1, beq_iff_eq.mp a3.2.2.1, fun z hz e => ?_, fun z hz => ?_, chkCell_ok (and_r h4), hc, ⟨cd, hcd, ?_⟩, beq_iff_eq.mp g.1, g.2.1, beq_iff_eq.mp a5.2.1, bnot_t a5.2.2.1, beq_iff_eq.mp a5.2.2.2, bnot_t a6.1⟩⟩
  · have e1 := uno?_some hi
    rw [Nat.eq_of_beq_eq_true h1] at e1
    have e2 := des?_some hb
    rw [sup?_some hx] at e2
    show FDef.mk f.params f.body = _
    rw [e1, e2]
  · exact (plainPar_eq a1.1).trans (by rw [uno?_some har])
  · exact (uno?_some hcl).trans (by rw [← (beq_iff_eq.mp (and_l h4) : cl.1 = ("__class__" : Str))])
  · rw [body?_some hst, des?_some hy, e]
  · have := and_l (List.all_eq_true.mp a3.2.2.2 z hz)
    rw [e] at this; exact ff this
  · exact beq_iff_eq.mp (and_r (List.all_eq_true.mp a3.2.2.2 _ (lookup_mem hz)))
  · rw [hv, hw, vref?_some hf2]

theorem mgRef_some {K : Frag} {i : Nat} {a : Addr} (h : mgRef K i = some a) : nsIn K mainGlobals (nm i) = some (some (.ref a)) := by
  (refine bsE h fun v h1 hh_ => ?_; clear h; revert hh_; intro h)
  (refine bsE h fun w h2 hh_ => ?_; clear h; revert hh_; intro h)
  rw [h1, h2, vref?_some h]
theorem inRef_some {K : Frag} {c a : Addr} {x : Str} (h : inRef K c x = some a) : findIn K (.ref c) x = some (some (.ref a)) := by
  (refine bsE h fun v h1 hh_ => ?_; clear h; revert hh_; intro h)
  (refine bsE h fun w h2 hh_ => ?_; clear h; revert hh_; intro h)
  rw [h1, h2, vref?_some h]
theorem lk_mem {α : Type} : ∀ {l : List (Nat × α)} {i : Nat} {v : α}, lk l i = some v → (i, v) ∈ l
  | [], _, _, h => by simp [lk] at h
  | (j, w) :: r, i, v, h => by
    rw [lk_cons] at h
    by_cases e : i = j
    · rw [if_pos e] at h; cases h; rw [e]; exact List.mem_cons_self
    · rw [if_neg e] at h; exact List.mem_cons_of_mem _ (lk_mem h)

theorem cfg_ok {C : Cfg} {G : Glo} (hcls : C.cls = clsOf C.K) (X : C.K.In C.base) (hs : (C.base.get? sysModules).isSome = true) (lim : C.base.NoLimit) (g : C.base.Ns mainGlobals G.mg) (b : C.base.Ns builtinsNs G.mb) (hb : ∀ x : Str, x ≠ "__name__" → G.mb x = bootBuiltins x)
    (h : chkAll C.prog C.K C.P = true) : CfgOK C G := by
  have h := and4 h
  refine ⟨X, lim, g, b, hs, fun i v e => ?_, fun i f e => ?_, fun c ms e => ?_, fun x hx => ?_⟩
  · refine x1a2 (anyE (List.all_eq_true.mp h.1 _ (lk_mem e))) fun x h1 h2 => ?_
    refine x1a2 (anyE h2) fun y e2 h3 => ?_
    exact ⟨y, W.mg_of X g (h1.trans (congrArg some e2)), chkVal_ok X _ _ _ h3⟩
  · refine x1a2 (anyE (List.all_eq_true.mp h.2.1 _ (lk_mem e))) fun a h1 h2 => ?_
    exact ⟨a, W.mg_of X g (mgRef_some h1), chkFn_ok X h2⟩
  · have ec : clsOf C.K c = C.cls c := by rw [hcls]
    have h1 := List.all_eq_true.mp h.2.2.1 _ (lk_mem e)
    unfold chkCls at h1
    rw [show clsOf C.K (c, ms).1 = C.cls c from ec] at h1
    have q := and3 h1
    have a1 := and4 q.1
    have a2 := and4 q.2.1
    have a3 := and2 q.2.2
    refine x1a2 (anyE a1.1) fun a h2 h3 => ?_
    have h4 := mgRef_some h2
    rw [(beq_iff_eq.mp h3 : a = C.cls c)] at h4
    refine ⟨W.mg_of X g h4, a1.2.1, a1.2.2.1, fun _ => a1.2.2.2, a2.1, beq_iff_eq.mp a2.2.1, a2.2.2.1, fun a ha => beq_iff_eq.mp (List.all_eq_true.mp a2.2.2.2 a ha), fun m f e => ?_, fun f e => ?_⟩
    · refine x1a2 (anyE (List.all_eq_true.mp a3.1 _ (lk_mem e))) fun a h5 h6 => ?_
      exact ⟨a, inRef_some h5, beq_iff_eq.mp (and_l h6), ((Bool.or_eq_true _ _).mp (and_r h6)).elim (fun z => .inr (Nat.eq_of_beq_eq_true z)) fun z => .inl (chkFn_ok X z)⟩
    · refine x1a2 (anyE (show chkInit C.prog C.K C.P (C.cls c) f = true from List.all_eq_true.mp a3.2 _ (lk_mem e))) fun a h5 h6 => ?_
      exact ⟨a, inRef_some h5, beq_iff_eq.mp (and_l h6), ((Bool.or_eq_true _ _).mp (and_r h6)).imp (chkFn_ok X) (chkSup_ok X)⟩
  · refine ⟨W.mg_none_of X g (beq_iff_eq.mp (List.all_eq_true.mp h.2.2.2 x hx)), hb x ?_⟩
    rintro rfl
    exact absurd hx (by decide +kernel)
end Mini
end
section
namespace Mini
open PySem PySem.W PyProof.Rows
set_option autoImplicit false

theorem St.start {C : Cfg} {s : Shared} (hb : C.base = s.heap) (ho : C.os = s.os) (hg : s.gens = #[]) : St C .nil [] s :=
  { base := fun a o e => by rw [← hb]; exact e
    gens := hg
    os := ho.symm
    len := rfl
    objs := fun i o p h => by simp at h
    apart := fun i j p q h => by cases (show (none : Option (Addr × Addr)) = some p from h)
    new := fun i p h => by cases (show (none : Option (Addr × Addr)) = some p from h)
    hid := fun a h => by cases h
    zap := fun a h => by cases h
    here := fun i p h => by cases (show (none : Option (Addr × Addr)) = some p from h) }

theorem join {C : Cfg} {G : Glo} (K : CfgOK C G) {n : Nat} {fd : FDef} {fa : Addr} (F : Fn C fa fd) {vs : List V} {ys : List Value} {H' : Hp} {s : Shared} {E : Value → Shared → Prop} (hb : C.base = s.heap) (ho : C.os = s.os) (hg : s.gens = #[])
    (h : callF (sem C.P n) fd vs [] = some (.bool true, H')) (r : Room (n + 1) callerA) (rv : VRs .nil [] s.heap vs ys) {c : ClaimW} {cl : Str → Option Addr} {mean : ExcName → Option Value} {args : List WData}
    (hr : ∀ k, c.raises args k = false) (hp : c.post args (ofPy (.bool true)) args = true) :
    wpAny (model C.prog C.w) callerA (call (.ref fa) ys) (fun v s' => GoodWG c cl mean args s (.ok (.ret v)) s') E s :=
  run_fn K F h r (.start hb ho hg) rv _ _ fun v s' ρ' S' N R => by
    refine VR.boolE R ?_
    refine ⟨.inl ⟨_, ofPy (.bool true), [], rfl, hr, ?_, hp, fun _ => ⟨List.nodup_nil, fun a h => by cases h⟩⟩, .of_keep fun b o e => S'.base b o (by rw [hb]; exact e), S'.os.trans ho, .of_eq ?_⟩
    · exact .bool _
    · exact S'.gens
end Mini
end
section
set_option autoImplicit false
namespace Mini

/-! big steps, as rules -/
section
variable {α β : Type}
theorem bnd {x : Option α} {a : α} {f : α → Option β} {r : Option β} (h : x = some a) (k : f a = r) : x.bind f = r := by subst h; exact k
theorem mpd {x : Option α} {a : α} {f : α → β} {b : β} (h : x = some a) (k : f a = b) : x.map f = some b := by subst h; exact congrArg some k
theorem btt {b : Bool} {x y r : α} (h : b = true) (k : x = r) : (bif b then x else y) = r := by subst h; exact k
theorem bff {b : Bool} {x y r : α} (h : b = false) (k : y = r) : (bif b then x else y) = r := by subst h; exact k
end
structure Ev (P : Prog) (n : Nat) (l : E) (ρ : Lo) (H : Hp) (v : V) (H' : Hp) : Prop where
  h : (sem P n).ev l ρ H = some (v, H')
theorem Ev.iff {P : Prog} {n : Nat} {l : E} {ρ : Lo} {H : Hp} {v : V} {H' : Hp} : Ev P n l ρ H v H' ↔ (sem P n).ev l ρ H = some (v, H') := ⟨fun h => h.1, fun h => ⟨h⟩⟩
structure Es (P : Prog) (n : Nat) (l : List E) (ρ : Lo) (H : Hp) (v : List V) (H' : Hp) : Prop where
  h : evs (sem P n) l ρ H = some (v, H')
theorem Es.iff {P : Prog} {n : Nat} {l : List E} {ρ : Lo} {H : Hp} {v : List V} {H' : Hp} : Es P n l ρ H v H' ↔ evs (sem P n) l ρ H = some (v, H') := ⟨fun h => h.1, fun h => ⟨h⟩⟩
structure Xs (P : Prog) (n : Nat) (l : List S) (ρ : Lo) (H : Hp) (f : Fl) (ρ' : Lo) (H' : Hp) : Prop where
  h : (sem P n).exs l ρ H = some (f, ρ', H')
theorem Xs.iff {P : Prog} {n : Nat} {l : List S} {ρ : Lo} {H : Hp} {f : Fl} {ρ' : Lo} {H' : Hp} : Xs P n l ρ H f ρ' H' ↔ (sem P n).exs l ρ H = some (f, ρ', H') := ⟨fun h => h.1, fun h => ⟨h⟩⟩
structure Ca (P : Prog) (n : Nat) (f : FDef) (a : List V) (H : Hp) (v : V) (H' : Hp) : Prop where
  h : callF (sem P n) f a H = some (v, H')
theorem Ca.iff {P : Prog} {n : Nat} {f : FDef} {a : List V} {H : Hp} {v : V} {H' : Hp} : Ca P n f a H v H' ↔ callF (sem P n) f a H = some (v, H') := ⟨fun h => h.1, fun h => ⟨h⟩⟩
structure It (P : Prog) (n : Nat) (l : E) (ρ : Lo) (H : Hp) (v : List V) (H' : Hp) : Prop where
  h : evIt (sem P n) l ρ H = some (v, H')
theorem It.iff {P : Prog} {n : Nat} {l : E} {ρ : Lo} {H : Hp} {v : List V} {H' : Hp} : It P n l ρ H v H' ↔ evIt (sem P n) l ρ H = some (v, H') := ⟨fun h => h.1, fun h => ⟨h⟩⟩

theorem all_c {α : Type} {f : α → Bool} {a : α} {l : List α} (h : (a :: l).all f = true) : f a = true ∧ l.all f = true := (Bool.and_eq_true _ _).mp h
theorem nbt {b : Bool} (h : (!b) = true) : b = false := by cases b; rfl; exact h.symm
/-- a name's value, found step by step -/
structure Lk (ρ : Lo) (i : Nat) (v : V) : Prop where
  h : lk ρ i = some v
theorem lke_ldel (l : List Nat) : ∀ (ρ : Lo) (j : Nat), l.any (Nat.beq j) = false → lk (ldel l ρ) j = lk ρ j
  | [], j, h => rfl
  | (k, w) :: r, j, h => by
    have ih := lke_ldel l r j h
    unfold ldel at *
    by_cases e : j = k
    · subst e
      rw [List.filter_cons_of_pos (p := fun p : Nat × V => !(l.any (Nat.beq p.1))) (by simp only [h, Bool.not_false]), lk_cons, lk_cons, if_pos rfl, if_pos rfl]
    · rw [lk_cons, if_neg e, ← ih]
      by_cases q : (!(l.any (Nat.beq k))) = true
      · rw [List.filter_cons_of_pos (p := fun p : Nat × V => !(l.any (Nat.beq p.1))) q, lk_cons, if_neg e]
      · rw [List.filter_cons_of_neg (p := fun p : Nat × V => !(l.any (Nat.beq p.1))) q]
theorem lke_same {ρ : Lo} {i : Nat} {v : V} : Lk (lset ρ i v) i v := ⟨by rw [lk_lset, if_pos rfl]⟩
theorem lke_skip {ρ : Lo} {i j : Nat} {v w : V} (h : Nat.beq j i = false) (g : Lk ρ j v) : Lk (lset ρ i w) j v := ⟨by rw [lk_lset, if_neg (Nat.ne_of_beq_eq_false h)]; exact g.h⟩
theorem lke_del {ρ : Lo} {l : List Nat} {j : Nat} {v : V} (h : l.any (Nat.beq j) = false) (g : Lk ρ j v) : Lk (ldel l ρ) j v := ⟨by rw [lke_ldel l ρ j h]; exact g.h⟩
theorem lke_base {ρ : Lo} {j : Nat} {v : V} (h : lk ρ j = some v) : Lk ρ j v := ⟨h⟩

section
variable {P : Prog} {n : Nat} {ρ ρ1 ρ' : Lo} {H H1 H2 H3 H' : Hp}

theorem es_nil : Es P n [] ρ H [] H := ⟨rfl⟩
theorem es_cons {e : E} {es : List E} {v : V} {vs : List V} (a : Ev P n e ρ H v H1) (b : Es P n es ρ H1 vs H2) : Es P n (e :: es) ρ H (v :: vs) H2 := ⟨bnd a.h (bnd b.h rfl)⟩

theorem es1 {R : Sems} {e : E} {v : V} (h : R.ev e ρ H = some (v, H1)) : evs R [e] ρ H = some ([v], H1) := bnd h rfl
theorem es2 {R : Sems} {e f : E} {v w : V} (h : R.ev e ρ H = some (v, H1)) (g : R.ev f ρ H1 = some (w, H2)) : evs R [e, f] ρ H = some ([v, w], H2) := bnd h (bnd (es1 g) rfl)
theorem e_none : Ev P (n+1) .none ρ H .none H := ⟨rfl⟩
theorem e_bool {b : Bool} : Ev P (n+1) (.bool b) ρ H (.bool b) H := ⟨rfl⟩
theorem e_num {i : Int} : Ev P (n+1) (.num i) ρ H (.int i) H := ⟨rfl⟩
theorem e_str {s : Nat} : Ev P (n+1) (.str s) ρ H (.str s) H := ⟨rfl⟩
theorem e_var {i : Nat} {v : V} (h : lk ρ i = some v) : Ev P (n+1) (.var i) ρ H v H := ⟨mpd h rfl⟩
theorem e_var' {i : Nat} {v : V} (h : Lk ρ i v) : Ev P (n+1) (.var i) ρ H v H := e_var h.h
theorem e_cst {i : Nat} {v : V} (h : lk P.consts i = some v) : Ev P (n+1) (.cst i) ρ H v H := ⟨mpd h rfl⟩
theorem e_not {a : E} {b c : Bool} (h : Ev P n a ρ H (.bool b) H1) (q : (!b) = c) : Ev P (n+1) (.not a) ρ H (.bool c) H1 := ⟨bnd h.h (congrArg (fun c => some (V.bool c, H1)) q)⟩
theorem e_neg {a : E} {i : Int} (h : Ev P n a ρ H (.int i) H1) : Ev P (n+1) (.neg a) ρ H (.int (-i)) H1 := ⟨bnd h.h rfl⟩
theorem e_bin {op : Bop} {a b : E} {x y v : V} (h : Ev P n a ρ H x H1) (g : Ev P n b ρ H1 y H2) (q : binV op x y = some v) : Ev P (n+1) (.bin op a b) ρ H v H2 := ⟨bnd h.h (bnd g.h (mpd q rfl))⟩
theorem e_ite_t {c a b : E} {d : Bool} {v : V} (h : Ev P n c ρ H (.bool d) H1) (q : d = true) (g : Ev P n a ρ H1 v H2) : Ev P (n+1) (.ite c a b) ρ H v H2 := ⟨bnd h.h (btt q g.h)⟩
theorem e_ite_f {c a b : E} {d : Bool} {v : V} (h : Ev P n c ρ H (.bool d) H1) (q : d = false) (g : Ev P n b ρ H1 v H2) : Ev P (n+1) (.ite c a b) ρ H v H2 := ⟨bnd h.h (bff q g.h)⟩
theorem e_tup {l : List E} {vs : List V} (h : Es P n l ρ H vs H1) (q : okLen vs.length = true) : Ev P (n+1) (.tup l) ρ H (.tup vs) H1 := ⟨bnd h.h (btt q rfl)⟩
theorem e_list {l : List E} {vs : List V} (h : Es P n l ρ H vs H1) (q : okLen vs.length = true) : Ev P (n+1) (.list false l) ρ H (.lst vs) H1 := ⟨bnd h.h (btt q rfl)⟩
theorem e_listm {l : List E} {vs : List V} (h : Es P n l ρ H vs H1) (q : okLen vs.length = true) : Ev P (n+1) (.list true l) ρ H (.ref H1.length) (H1 ++ [.list vs]) := ⟨bnd h.h (btt q rfl)⟩
theorem e_cmp {a e : E} {o : Cop} {x y : V} {b : Bool} (h : Ev P n a ρ H x H1) (g : Ev P n e ρ H1 y H2) (q : cop o H2 x y = some b) : Ev P (n+1) (.cmp a [o] [e]) ρ H (.bool b) H2 := ⟨bnd h.h (bnd g.h (bnd q (by cases b <;> rfl)))⟩
theorem e_cmp2 {a e g : E} {o o2 : Cop} {x y z : V} {b c : Bool} (h : Ev P n a ρ H x H1) (k : Ev P n e ρ H1 y H2) (q : cop o H2 x y = some b) (t : b = true) (m : Ev P n g ρ H2 z H3) (q2 : cop o2 H3 y z = some c) : Ev P (n+1) (.cmp a [o, o2] [e, g]) ρ H (.bool c) H3 := ⟨bnd h.h (bnd k.h (bnd q (btt (by rw [t]; rfl) (bnd m.h (bnd q2 (by cases c <;> rfl))))))⟩
theorem e_or_t {e f : E} {es : List E} {b : Bool} (h : Ev P n e ρ H (.bool b) H1) (q : b = true) : Ev P (n+1) (.or (e :: f :: es)) ρ H (.bool true) H1 := ⟨bnd h.h (btt q rfl)⟩
theorem e_or_f {e f : E} {es : List E} {b : Bool} {v : V} (h : Ev P n e ρ H (.bool b) H1) (q : b = false) (g : Ev P (n+1) (.or (f :: es)) ρ H1 v H2) : Ev P (n+1) (.or (e :: f :: es)) ρ H v H2 := ⟨bnd h.h (bff q g.h)⟩
theorem e_or_1 {e : E} {v : V} (h : Ev P n e ρ H v H1) : Ev P (n+1) (.or [e]) ρ H v H1 := ⟨h.1⟩
theorem e_call {f : Nat} {fd : FDef} {args : List E} {vs : List V} {v : V} (l : lk P.funs f = some fd) (h : Es P n args ρ H vs H1) (c : Ca P n fd vs H1 v H2) : Ev P (n+1) (.call f args) ρ H v H2 := ⟨bnd l (bnd h.h c.h)⟩
theorem e_meth {o : E} {m r c : Nat} {l : List (Nat × V)} {ms : List (Nat × FDef)} {fd : FDef} {args : List E} {vs : List V} {v : V} (ho : Ev P n o ρ H (.ref r) H1) (ob : nth H1 r = some (.inst c l)) (nl : (lk l m).isSome = false) (hc : lk P.classes c = some ms) (hm : lk ms m = some fd)
    (h : Es P n args ρ H1 vs H2) (k : Ca P n fd (.ref r :: vs) H2 v H3) : Ev P (n+1) (.meth o m args) ρ H v H3 := ⟨bnd ho.h (bnd rfl (bnd ob (bff nl (bnd hc (bnd hm (bnd h.h k.h))))))⟩
theorem e_append {o : E} {r : Nat} {a : E} {l l2 : List V} {v : V} (ho : Ev P n o ρ H (.ref r) H1) (ob : nth H1 r = some (.list l)) (h : Ev P n a ρ H1 v H2) (ob2 : nth H2 r = some (.list l2)) (k : okLen l2.length = true) :
    Ev P (n+1) (.meth o 110425311047777 [a]) ρ H .none (H2.set r (.list (l2 ++ [v]))) := ⟨bnd ho.h (bnd rfl (bnd ob (bnd (es1 h.h) (bnd ob2 (btt rfl (bnd rfl (btt k rfl)))))))⟩
theorem e_getT {o k d : E} {r : Nat} {l : List (V × V)} {kv dv v : V} (ho : Ev P n o ρ H (.ref r) H1) (ob : nth H1 r = some (.dT l)) (hk : Ev P n k ρ H1 kv H2) (hd : Ev P n d ρ H2 dv H3) (ob2 : nth H3 r = some (.dT l)) (q : kv.isKey = true) (g : (getT l kv).getD dv = v) :
    Ev P (n+1) (.meth o 7628135 [k, d]) ρ H v H3 := ⟨bnd ho.h (bnd rfl (bnd ob (bnd (es2 hk.h hd.h) (bnd ob2 (btt rfl (bnd rfl (mpd (btt q (congrArg some g)) rfl)))))))⟩
theorem e_getI {o k d : E} {r : Nat} {l : List (Int × V)} {i : Int} {dv v : V} (ho : Ev P n o ρ H (.ref r) H1) (ob : nth H1 r = some (.dI l)) (hk : Ev P n k ρ H1 (.int i) H2) (hd : Ev P n d ρ H2 dv H3) (ob2 : nth H3 r = some (.dI l)) (g : (getI l i).getD dv = v) :
    Ev P (n+1) (.meth o 7628135 [k, d]) ρ H v H3 := ⟨bnd ho.h (bnd rfl (bnd ob (bnd (es2 hk.h hd.h) (bnd ob2 (show (getV (.dI l) (.int i) dv).map (fun v => (v, H3)) = _ from mpd (congrArg some g) rfl)))))⟩
theorem e_attr {o : E} {a r c : Nat} {l : List (Nat × V)} {v : V} (ho : Ev P n o ρ H (.ref r) H1) (ob : nth H1 r = some (.inst c l)) (q : (P.attrs.any (Nat.beq a) && (lk P.classes c).isSome) = true) (g : lk l a = some v) : Ev P (n+1) (.attr o a) ρ H v H1 := ⟨bnd ho.h (bnd rfl (bnd ob (bnd rfl (btt q (mpd g rfl)))))⟩
theorem e_sub {o i : E} {x y v : V} (h : Ev P n o ρ H x H1) (g : Ev P n i ρ H1 y H2) (q : subV H2 x y = some v) : Ev P (n+1) (.sub o i) ρ H v H2 := ⟨bnd h.h (bnd g.h (mpd q rfl))⟩
theorem e_bi {b : Bi} {l : List E} {vs : List V} {v : V} (h : Es P n l ρ H vs H1) (q : callBi b vs H1 = some (v, H2)) : Ev P (n+1) (.bi b l) ρ H v H2 := ⟨bnd h.h q⟩

theorem e_fmt {pre post t : Nat} {e : E} {i : Int} (h : Ev P n e ρ H (.int i) H1) (q : intText i = some t) : Ev P (n+1) (.fmt pre e post) ρ H (.str (strCat pre (strCat t post))) H1 := ⟨bnd h.h (mpd q rfl)⟩
theorem e_slice_t {o hi : E} {l m : List V} {b : Int} (h : Ev P n o ρ H (.tup l) H1) (g : Ev P n hi ρ H1 (.int b) H2) (k : okInt b = true) (q : sliceL l Option.none (some b) = some m) : Ev P (n+1) (.slice o Option.none (some hi)) ρ H (.tup m) H2 := ⟨bnd h.h (bnd rfl (bnd (bnd g.h (bnd rfl (btt k rfl)) : evOpt (sem P n) (some hi) ρ H1 = some (some b, H2)) (mpd q rfl)))⟩
theorem c_ret {f : FDef} {a : List V} {v : V} (l : Nat.beq a.length f.params.length = true) (h : Xs P n f.body (f.params.zip a) H (.ret v) ρ' H') : Ca P n f a H v H' := ⟨btt l (bnd h.h rfl)⟩
theorem c_nxt {f : FDef} {a : List V} (l : Nat.beq a.length f.params.length = true) (h : Xs P n f.body (f.params.zip a) H .nxt ρ' H') : Ca P n f a H .none H' := ⟨btt l (bnd h.h rfl)⟩

theorem x_nil : Xs P (n+1) [] ρ H .nxt ρ H := ⟨rfl⟩
theorem x_expr {e : E} {r : List S} {v : V} {f : Fl} (h : Ev P n e ρ H v H1) (g : Xs P (n+1) r ρ H1 f ρ' H') : Xs P (n+1) (.expr e :: r) ρ H f ρ' H' := ⟨bnd (mpd h.h rfl) g.h⟩
theorem x_ret {e : E} {r : List S} {v : V} (h : Ev P n e ρ H v H1) : Xs P (n+1) (.ret e :: r) ρ H (.ret v) ρ H1 := ⟨bnd (mpd h.h rfl) rfl⟩
theorem x_asg {t : T} {e : E} {r : List S} {v : V} {f : Fl} (h : Ev P n e ρ H v H1) (a : asgT P (sem P n) t v ρ H1 = some (ρ1, H2)) (g : Xs P (n+1) r ρ1 H2 f ρ' H') : Xs P (n+1) (.asg t e :: r) ρ H f ρ' H' := ⟨bnd (bnd h.h (mpd a rfl)) g.h⟩
theorem x_asgv {i : Nat} {e : E} {r : List S} {v : V} {f : Fl} (h : Ev P n e ρ H v H1) (g : Xs P (n+1) r (lset ρ i v) H1 f ρ' H') : Xs P (n+1) (.asg (.var i) e :: r) ρ H f ρ' H' := x_asg h rfl g
theorem x_asgt {l : List Nat} {e : E} {r : List S} {v : V} {f : Fl} (h : Ev P n e ρ H v H1) (a : bindT (.tup l) v ρ = some ρ1) (g : Xs P (n+1) r ρ1 H1 f ρ' H') : Xs P (n+1) (.asg (.tup l) e :: r) ρ H f ρ' H' := x_asg h (mpd a rfl) g
theorem x_asgs {o i e : E} {r : List S} {v ov iv : V} {f : Fl} {H4 : Hp} (h : Ev P n e ρ H v H1) (a : Ev P n o ρ H1 ov H2) (b : Ev P n i ρ H2 iv H3) (s : setItemV H3 ov iv v = some H4) (g : Xs P (n+1) r ρ H4 f ρ' H') :
    Xs P (n+1) (.asg (.sub o i) e :: r) ρ H f ρ' H' := x_asg h (bnd a.h (bnd b.h (mpd s rfl))) g
theorem x_asga {o e : E} {a c k : Nat} {r : List S} {v : V} {l : List (Nat × V)} {f : Fl} {H4 : Hp} (h : Ev P n e ρ H v H1) (ho : Ev P n o ρ H1 (.ref k) H2) (ob : nth H2 k = some (.inst c l)) (q : (Nat.ble l.length 50 && P.attrs.any (Nat.beq a) && (lk P.classes c).isSome) = true) (g : Xs P (n+1) r ρ (H2.set k (.inst c (lset l a v))) f ρ' H4) :
    Xs P (n+1) (.asg (.attr o a) e :: r) ρ H f ρ' H4 := x_asg h (bnd ho.h (bnd rfl (bnd ob (bnd rfl (btt q rfl))))) g
theorem x_if_tr {c : E} {a b r : List S} {d : Bool} {v : V} (h : Ev P n c ρ H (.bool d) H1) (q : d = true) (g : Xs P n a ρ H1 (.ret v) ρ' H') : Xs P (n+1) (.ifs c a b :: r) ρ H (.ret v) ρ' H' := ⟨bnd (bnd h.h (btt q g.h)) rfl⟩
theorem x_if_tn {c : E} {a b r : List S} {d : Bool} {f : Fl} (h : Ev P n c ρ H (.bool d) H1) (q : d = true) (g : Xs P n a ρ H1 .nxt ρ1 H2) (k : Xs P (n+1) r ρ1 H2 f ρ' H') : Xs P (n+1) (.ifs c a b :: r) ρ H f ρ' H' := ⟨bnd (bnd h.h (btt q g.h)) k.h⟩
theorem x_if_f {c : E} {a r : List S} {d : Bool} {f : Fl} (h : Ev P (n+1) c ρ H (.bool d) H1) (q : d = false) (k : Xs P (n+2) r ρ H1 f ρ' H') : Xs P (n+2) (.ifs c a [] :: r) ρ H f ρ' H' := ⟨bnd (bnd h.h (bff q rfl)) k.h⟩
theorem x_if_fr {c : E} {a b r : List S} {d : Bool} {v : V} (h : Ev P n c ρ H (.bool d) H1) (q : d = false) (g : Xs P n b ρ H1 (.ret v) ρ' H') : Xs P (n+1) (.ifs c a b :: r) ρ H (.ret v) ρ' H' := ⟨bnd (bnd h.h (bff q g.h)) rfl⟩
theorem x_if_fn {c : E} {a b r : List S} {d : Bool} {f : Fl} (h : Ev P n c ρ H (.bool d) H1) (q : d = false) (g : Xs P n b ρ H1 .nxt ρ1 H2) (k : Xs P (n+1) r ρ1 H2 f ρ' H') : Xs P (n+1) (.ifs c a b :: r) ρ H f ρ' H' := ⟨bnd (bnd h.h (bff q g.h)) k.h⟩
theorem x_fr {t : T} {e : E} {b r : List S} {vs : List V} {f : Fl} (i : It P n e ρ H vs H1) (l : exFor (sem P n) t b vs ρ H1 = some (.nxt, ρ1, H2)) (k : Xs P (n+1) r ρ1 H2 f ρ' H') : Xs P (n+1) (.fr t e b :: r) ρ H f ρ' H' := ⟨bnd (bnd i.h l) k.h⟩
theorem x_fr_r {t : T} {e : E} {b r : List S} {vs : List V} {v : V} (i : It P n e ρ H vs H1) (l : exFor (sem P n) t b vs ρ H1 = some (.ret v, ρ1, H2)) : Xs P (n+1) (.fr t e b :: r) ρ H (.ret v) ρ1 H2 := ⟨bnd (bnd i.h l) rfl⟩
theorem x_whl {c : E} {b r : List S} {f : Fl} (l : exWhl (sem P n) c b turns ρ H = some (.nxt, ρ1, H2)) (k : Xs P (n+1) r ρ1 H2 f ρ' H') : Xs P (n+1) (.whl c b :: r) ρ H f ρ' H' := ⟨bnd l k.h⟩

/-! a branch, its test known -/
structure Xi (P : Prog) (n : Nat) (d : Bool) (a b r : List S) (ρ : Lo) (H : Hp) (f : Fl) (ρ' : Lo) (H' : Hp) : Prop where
  h : ∀ c ρ0 H0, Ev P n c ρ0 H0 (.bool d) H → ρ0 = ρ → Xs P (n+1) (.ifs c a b :: r) ρ0 H0 f ρ' H'
theorem x_ifs {c : E} {a b r : List S} {d : Bool} {f : Fl} (h : Ev P n c ρ H (.bool d) H1) (g : Xi P n d a b r ρ H1 f ρ' H') : Xs P (n+1) (.ifs c a b :: r) ρ H f ρ' H' := g.h c ρ H h rfl
theorem xi_f {a r : List S} {d : Bool} {f : Fl} (q : d = false) (g : Xs P (n+2) r ρ H f ρ' H') : Xi P (n+1) d a [] r ρ H f ρ' H' := ⟨fun c ρ0 H0 h e => by subst e; exact x_if_f h q g⟩
theorem xi_t1 {e : E} {b r : List S} {d : Bool} {v : V} (q : d = true) (g : Ev P n e ρ H v H') : Xi P (n+1) d [.ret e] b r ρ H (.ret v) ρ H' := ⟨fun c ρ0 H0 h e => by subst e; exact x_if_tr h q (x_ret g)⟩
theorem xi_tn {a b r : List S} {d : Bool} {f : Fl} (q : d = true) (g : Xs P n a ρ H .nxt ρ1 H1) (k : Xs P (n+1) r ρ1 H1 f ρ' H') : Xi P n d a b r ρ H f ρ' H' := ⟨fun c ρ0 H0 h e => by subst e; exact x_if_tn h q g k⟩
theorem xi_tr {a b r : List S} {d : Bool} {v : V} (q : d = true) (g : Xs P n a ρ H (.ret v) ρ' H') : Xi P n d a b r ρ H (.ret v) ρ' H' := ⟨fun c ρ0 H0 h e => by subst e; exact x_if_tr h q g⟩
noncomputable def endsRet : List S → Bool
  | [] => false
  | [.ret _] => true
  | _ :: r => endsRet r
theorem xi_tr' {a b r : List S} {d : Bool} {v : V} (q : d = true) (_e : endsRet a = true) (g : Xs P n a ρ H (.ret v) ρ' H') : Xi P n d a b r ρ H (.ret v) ρ' H' := xi_tr q g
theorem xi_tn' {a b r : List S} {d : Bool} {f : Fl} (q : d = true) (_e : endsRet a = false) (g : Xs P n a ρ H .nxt ρ1 H1) (k : Xs P (n+1) r ρ1 H1 f ρ' H') : Xi P n d a b r ρ H f ρ' H' := xi_tn q g k
/-- the same for a choice -/
structure Ei (P : Prog) (n : Nat) (d : Bool) (a b : E) (ρ : Lo) (H : Hp) (v : V) (H' : Hp) : Prop where
  h : Ev P n (bif d then a else b) ρ H v H'
theorem e_ite {c a b : E} {d : Bool} {v : V} (h : Ev P n c ρ H (.bool d) H1) (g : Ei P n d a b ρ H1 v H2) : Ev P (n+1) (.ite c a b) ρ H v H2 := by
  induction d using Bool.casesOn with
  | true => exact e_ite_t h rfl g.h
  | false => exact e_ite_f h rfl g.h
theorem ei_t {a b : E} {d : Bool} {v : V} (q : d = true) (g : Ev P n a ρ H v H') : Ei P n d a b ρ H v H' := ⟨by rw [q]; exact g⟩
theorem ei_f {a b : E} {d : Bool} {v : V} (q : d = false) (g : Ev P n b ρ H v H') : Ei P n d a b ρ H v H' := ⟨by rw [q]; exact g⟩
/-- and for an `or` -/
structure Oi (P : Prog) (n : Nat) (d : Bool) (l : List E) (ρ : Lo) (H : Hp) (v : V) (H' : Hp) : Prop where
  h : if d = true then v = .bool true ∧ H' = H else Ev P (n+1) (.or l) ρ H v H'
theorem e_or {e f : E} {es : List E} {b : Bool} {v : V} (h : Ev P n e ρ H (.bool b) H1) (g : Oi P n b (f :: es) ρ H1 v H2) : Ev P (n+1) (.or (e :: f :: es)) ρ H v H2 := by
  have g := g.h
  by_cases q : b = true
  · rw [if_pos q] at g; obtain ⟨rfl, rfl⟩ := g; exact e_or_t h q
  · rw [if_neg q] at g; exact e_or_f h (by simpa using q) g
theorem oi_t {l : List E} {d : Bool} (q : d = true) : Oi P n d l ρ H (.bool true) H := ⟨by rw [if_pos q]; exact ⟨rfl, rfl⟩⟩
theorem oi_f {l : List E} {d : Bool} {v : V} (q : d = false) (g : Ev P (n+1) (.or l) ρ H v H') : Oi P n d l ρ H v H' := ⟨by rw [if_neg (by rw [q]; decide)]; exact g⟩

/-! a call, what it gives to be told after -/
theorem c_ret' {f : FDef} {a : List V} {v0 v : V} (l : Nat.beq a.length f.params.length = true) (h : Xs P n f.body (f.params.zip a) H (.ret v0) ρ' H1) (e : v0 = v) (k : H1 = H') : Ca P n f a H v H' := by subst e k; exact c_ret l h
theorem c_nxt' {f : FDef} {a : List V} (l : Nat.beq a.length f.params.length = true) (h : Xs P n f.body (f.params.zip a) H .nxt ρ' H1) (k : H1 = H') : Ca P n f a H .none H' := by subst k; exact c_nxt l h

theorem cop_eq_int {H : Hp} {a b : Int} : cop .eq H (.int a) (.int b) = some (decide (a = b)) := by
  simp only [cop, eqV, V.flat, V.dep, V.beq]; rfl
theorem cop_ne_int {H : Hp} {a b : Int} : cop .ne H (.int a) (.int b) = some (!decide (a = b)) := by
  simp only [cop, eqV, V.flat, V.dep, V.beq]; rfl
theorem cop_lt_int {H : Hp} {a b : Int} : cop .lt H (.int a) (.int b) = some (decide (a < b)) := rfl
theorem cop_le_int {H : Hp} {a b : Int} : cop .le H (.int a) (.int b) = some (decide (a ≤ b)) := rfl
theorem cop_gt_int {H : Hp} {a b : Int} : cop .gt H (.int a) (.int b) = some (decide (b < a)) := rfl
theorem cop_ge_int {H : Hp} {a b : Int} : cop .ge H (.int a) (.int b) = some (decide (b ≤ a)) := rfl

/-! what a loop walks over -/
theorem i_range1 {e : E} {i : Int} (h : Ev P n e ρ H (.int i) H1) (q : (okLen i.toNat && okInt i) = true) : It P n (.range [e]) ρ H ((List.range i.toNat).map fun (k : Nat) => V.int (k : Int)) H1 := ⟨bnd (es1 h.h) (bnd rfl (mpd (btt q rfl) rfl))⟩
theorem i_range2 {e g : E} {i j : Int} (h : Ev P n e ρ H (.int i) H1) (k : Ev P n g ρ H1 (.int j) H2) (q : (okLen (j - i).toNat && okInt i && okInt j) = true) : It P n (.range [e, g]) ρ H ((List.range (j - i).toNat).map fun (k : Nat) => V.int (i + (k : Int))) H2 := ⟨bnd (es2 h.h k.h) (bnd rfl (mpd (btt q rfl) rfl))⟩
theorem i_val {e : E} {l : List V} {v : V} (hn : e.range? = Option.none) (h : Ev P n e ρ H v H1) (q : items v = some l) : It P n e ρ H l H1 := ⟨by unfold evIt; rw [hn]; exact bnd h.h (mpd q rfl)⟩

/-! built-in functions, stores -/
theorem len_ref {H : Hp} {r m : Nat} {l : List V} (h : nth H r = some (.list l)) (e : l.length = m) (k : okLen m = true) : callBi .len [.ref r] H = some (.int m, H) := by
  subst e; show (lenV H (.ref r)).bind (fun n => bif okLen n then some (V.int n, H) else Option.none) = _; exact bnd (bnd h rfl) (btt k rfl)
theorem len_lst {H : Hp} {l : List V} {m : Nat} (e : l.length = m) (k : okLen m = true) : callBi .len [.lst l] H = some (.int m, H) := by
  subst e; show (bif okLen l.length then some (V.int l.length, H) else Option.none) = _; exact btt k rfl
theorem setI_T {H : Hp} {r : Nat} {l : List (V × V)} {k v : V} (h : nth H r = some (.dT l)) (q : k.isKey = true) (o : okLen l.length = true) : setItemV H (.ref r) k v = some (H.set r (.dT (setT l k v))) :=
  show ((nth H r).bind fun ob => (setItemO ob k v).map fun ob => H.set r ob) = _ from bnd h (mpd (btt (by rw [q, o]; rfl) rfl) rfl)
theorem setI_I {H : Hp} {r : Nat} {l : List (Int × V)} {k : Int} {v : V} (h : nth H r = some (.dI l)) (o : okLen l.length = true) : setItemV H (.ref r) (.int k) v = some (H.set r (.dI (setI l k v))) :=
  show ((nth H r).bind fun ob => (setItemO ob (.int k) v).map fun ob => H.set r ob) = _ from bnd h (mpd (show (bif okLen l.length then some (O.dI (setI l k v)) else Option.none) = _ from btt o rfl) rfl)

theorem okInt_of {i : Int} (h : i.natAbs ≤ 10000000) : okInt i = true := by
  unfold okInt; apply Nat.ble_eq_true_of_le
  exact Nat.le_trans h (by decide)
theorem b_int {op : Bop} {a b c : Int} (h : binI op a b = some c) : binV op (.int a) (.int b) = some (.int c) := show (binI op a b).map V.int = _ from mpd h rfl
theorem b_mod {a b : Int} (h : b ≠ 0) : binV .mod (.int a) (.int b) = some (.int (Int.fmod a b)) := b_int (if_neg h)
theorem b_mul {a b : Int} (h : a.natAbs ≤ 10000000) : binV .mul (.int a) (.int b) = some (.int (a * b)) := b_int (btt (okInt_of h) rfl)
theorem b_fdiv {a b : Int} (h : b ≠ 0) (k : b.natAbs ≤ 10000000) : binV .fdiv (.int a) (.int b) = some (.int (Int.fdiv a b)) := b_int ((if_neg h).trans (btt (okInt_of k) rfl))
theorem b_pow {a b : Int} (h : a.natAbs ≤ 10000000) (h0 : 0 ≤ b) (h1 : b ≤ 1000) : binV .pow (.int a) (.int b) = some (.int (a ^ b.toNat)) := b_int ((if_pos ⟨h0, h1⟩).trans (btt (okInt_of h) rfl))
theorem b_shl1 {b : Int} (h0 : 0 ≤ b) (h1 : b ≤ 1000) : binV .shl (.int 1) (.int b) = some (.int (2 ^ b.toNat)) := b_int ((if_pos ⟨h0, h1⟩).trans (btt rfl (by rw [Int.one_mul])))
theorem b_addl {a b : List V} (h : okLen (a.length + b.length) = true) : binV .add (.lst a) (.lst b) = some (.lst (a ++ b)) :=
  show (bif okLen (a.length + b.length) then some (V.lst (a ++ b)) else Option.none) = _ from btt h rfl
theorem okInt_lt2 {i : Int} (h0 : 0 ≤ i) {n : Nat} (h : i.toNat < n) (hn : n ≤ 100001) : okInt i = true := by
  unfold okInt; apply Nat.ble_eq_true_of_le
  have : i.natAbs ≤ 100001 := by lia
  exact Nat.le_trans this (by decide)
theorem idx_of {i : Int} {n : Nat} (h0 : 0 ≤ i) (h : i.toNat < n) (hn : n ≤ 100001) : idx i n = some i.toNat := by
  unfold idx
  rw [okInt_lt2 h0 h hn, cond_true, if_pos h0, if_pos h]
theorem sub_at {l : List V} {i : Int} {v : V} (h0 : 0 ≤ i) (g : l[i.toNat]? = some v) (hn : i.toNat < 100001) : ((idx i l.length).bind fun j => l[j]?) = some v := by
  have hl : i.toNat < l.length := (List.getElem?_eq_some_iff.mp g).1
  have hi : idx i l.length = some i.toNat := by
    unfold idx
    rw [okInt_lt2 h0 hn (Nat.le_refl _), cond_true, if_pos h0, if_pos hl]
  exact bnd hi g
theorem sub_ref {H : Hp} {r : Nat} {l : List V} {i : Int} {v : V} (q : nth H r = some (.list l)) (h0 : 0 ≤ i) (g : l[i.toNat]? = some v) (hn : i.toNat < 100001) : subV H (.ref r) (.int i) = some v := bnd q (sub_at h0 g hn)
theorem sub_lst {H : Hp} {l : List V} {i : Int} {v : V} (h0 : 0 ≤ i) (g : l[i.toNat]? = some v) (hn : i.toNat < 100001) : subV H (.lst l) (.int i) = some v := sub_at h0 g hn
theorem sub_tup {H : Hp} {l : List V} {i : Int} {v : V} (h0 : 0 ≤ i) (g : l[i.toNat]? = some v) (hn : i.toNat < 100001) : subV H (.tup l) (.int i) = some v := sub_at h0 g hn
theorem sub_I {H : Hp} {r : Nat} {l : List (Int × V)} {i : Int} (q : nth H r = some (.dI l)) : subV H (.ref r) (.int i) = getI l i := bnd q rfl

/-! comprehensions -/
theorem comp_loop_map {R : Sems} {t : T} {inner : Lo → Hp → Option (List V × Hp)} {ρ : Lo} {H : Hp} {f : V → List V} : ∀ {vs : List V}, (∀ v ∈ vs, ∃ ρ', bindT t v ρ = some ρ' ∧ inner ρ' H = some (f v, H)) → evComp.loop R t [] inner vs ρ H = some (vs.flatMap f, H)
  | [], _ => rfl
  | v :: vs, h => by
    obtain ⟨ρ', h1, h2⟩ := h v (List.mem_cons_self ..)
    have h3 := comp_loop_map (R := R) (vs := vs) fun v hv => h v (List.mem_cons_of_mem _ hv)
    simp only [evComp.loop, h1, h2, h3, evIfs, Option.bind_some, cond_true, List.flatMap_cons]

theorem flatMap_one {α β : Type} {f : α → β} : ∀ {l : List α}, l.flatMap (fun v => [f v]) = l.map f
  | [] => rfl
  | a :: l => by rw [List.flatMap_cons, flatMap_one]; rfl
/-- one clause, no condition, the heap as it is -/
theorem e_comp {elt it : E} {t : T} {vs : List V} {f : V → V} (i : It P n it ρ H vs H1) (h : ∀ v ∈ vs, ∃ ρ', bindT t v (ldel (n_dot0 :: tgtsOf [.mk t it []]) ρ) = some ρ' ∧ Ev P n elt ρ' H1 (f v) H1) (q : okLen vs.length = true) :
    Ev P (n+1) (.comp elt [.mk t it []]) ρ H (.lst (vs.map f)) H1 := by
  have L := comp_loop_map (R := sem P n) (t := t) (inner := evComp (sem P n) elt []) (ρ := ldel (n_dot0 :: tgtsOf [.mk t it []]) ρ) (H := H1) (f := fun v => [f v]) (vs := vs) fun v hv => by
    obtain ⟨ρ', a, b⟩ := h v hv
    exact ⟨ρ', a, by rw [Ev.iff] at b; simp only [evComp, b, Option.bind_some]⟩
  rw [It.iff] at i
  rw [Ev.iff]
  show (evIt (sem P n) it ρ H).bind _ = _
  rw [i]
  simp only [Option.bind_some]
  rw [L]
  have e : vs.flatMap (fun v => [f v]) = vs.map f := flatMap_one
  rw [e]
  simp only [Option.bind_some, List.length_map, q, cond_true]

/-- a loop of a comprehension, step by step -/
structure Cl (P : Prog) (n : Nat) (t : T) (elt : E) (vs : List V) (ρ : Lo) (H : Hp) (ws : List V) (H' : Hp) : Prop where
  h : evComp.loop (sem P n) t [] (evComp (sem P n) elt []) vs ρ H = some (ws, H')
theorem cl_nil {t : T} {elt : E} : Cl P n t elt [] ρ H [] H := ⟨rfl⟩
theorem cl_cons {t : T} {elt : E} {v w : V} {vs ws : List V} (b : bindT t v ρ = some ρ1) (h : Ev P n elt ρ1 H w H1) (k : Cl P n t elt vs ρ H1 ws H2) : Cl P n t elt (v :: vs) ρ H (w :: ws) H2 := ⟨bnd b (bnd rfl (bnd (bnd h.h rfl : evComp (sem P n) elt [] ρ1 H = some ([w], H1)) (bnd k.h rfl)))⟩
theorem e_comp1 {elt it : E} {t : T} {vs ws : List V} (i : It P n it ρ H vs H1) (l : Cl P n t elt vs (ldel (n_dot0 :: tgtsOf [.mk t it []]) ρ) H1 ws H2) (q : okLen ws.length = true) : Ev P (n+1) (.comp elt [.mk t it []]) ρ H (.lst ws) H2 := ⟨bnd i.h (bnd l.h (btt q rfl))⟩

/-- comprehensions that leave the heap as it is -/
structure Cg (P : Prog) (n : Nat) (elt : E) (gs : List G) (ρ : Lo) (H : Hp) (ws : List V) : Prop where
  h : evComp (sem P n) elt gs ρ H = some (ws, H)
structure Cp (P : Prog) (n : Nat) (elt : E) (t : T) (ifs : List E) (gs : List G) (vs : List V) (ρ : Lo) (H : Hp) (ws : List V) : Prop where
  h : evComp.loop (sem P n) t ifs (evComp (sem P n) elt gs) vs ρ H = some (ws, H)
theorem cg_nil {elt : E} {v : V} (h : Ev P n elt ρ H v H) : Cg P n elt [] ρ H [v] := ⟨bnd h.h rfl⟩
theorem cg_cons {elt it : E} {t : T} {ifs : List E} {gs : List G} {vs ws : List V} (i : It P n it ρ H vs H) (l : Cp P n elt t ifs gs vs ρ H ws) : Cg P n elt (.mk t it ifs :: gs) ρ H ws := ⟨bnd i.h l.h⟩
theorem e_compg {elt it : E} {t : T} {ifs : List E} {gs : List G} {vs ws : List V} (i : It P n it ρ H vs H) (l : Cp P n elt t ifs gs vs (ldel (n_dot0 :: tgtsOf (.mk t it ifs :: gs)) ρ) H ws) (q : okLen ws.length = true) : Ev P (n+1) (.comp elt (.mk t it ifs :: gs)) ρ H (.lst ws) H := ⟨bnd i.h (bnd l.h (btt q rfl))⟩
theorem cp_map {elt : E} {t : T} {gs : List G} {f : V → List V} {vs : List V} (h : ∀ v ∈ vs, ∃ ρ', bindT t v ρ = some ρ' ∧ Cg P n elt gs ρ' H (f v)) : Cp P n elt t [] gs vs ρ H (vs.flatMap f) :=
  ⟨comp_loop_map fun v hv => by obtain ⟨ρ', a, b⟩ := h v hv; exact ⟨ρ', a, b.h⟩⟩
theorem cp_if {elt c : E} {t : T} {gs : List G} {f : V → List V} : ∀ {vs : List V}, (∀ v ∈ vs, ∃ ρ' b, bindT t v ρ = some ρ' ∧ Ev P n c ρ' H (.bool b) H ∧ (b = true → Cg P n elt gs ρ' H (f v)) ∧ (b = false → f v = [])) → Cp P n elt t [c] gs vs ρ H (vs.flatMap f)
  | [], _ => ⟨rfl⟩
  | v :: vs, h => by
    obtain ⟨ρ', b, h1, h2, h3, h4⟩ := h v (List.mem_cons_self ..)
    have ih := (cp_if (vs := vs) fun v hv => h v (List.mem_cons_of_mem _ hv)).h
    constructor
    induction b using Bool.casesOn with
    | true => exact bnd h1 (bnd (bnd h2.h rfl : evIfs (sem P n) [c] ρ' H = some (true, H)) (bnd (h3 rfl).h (bnd ih rfl)))
    | false => rw [List.flatMap_cons, h4 rfl]; exact bnd h1 (bnd (bnd h2.h rfl : evIfs (sem P n) [c] ρ' H = some (false, H)) (bnd rfl (bnd ih rfl)))

/-! loops -/
theorem for_cons {R : Sems} {t : T} {b : List S} {v : V} {vs : List V} {ρ ρ1 ρ2 : Lo} {H H1 : Hp} {r : Option (Fl × Lo × Hp)} (h : bindT t v ρ = some ρ1) (g : R.exs b ρ1 H = some (.nxt, ρ2, H1)) (k : exFor R t b vs ρ2 H1 = r) : exFor R t b (v :: vs) ρ H = r := bnd h (bnd g k)
theorem for_ret {R : Sems} {t : T} {b : List S} {v w : V} {vs : List V} {ρ ρ1 ρ2 : Lo} {H H1 : Hp} (h : bindT t v ρ = some ρ1) (g : R.exs b ρ1 H = some (.ret w, ρ2, H1)) : exFor R t b (v :: vs) ρ H = some (.ret w, ρ2, H1) := bnd h (bnd g rfl)
end
end Mini
end
section
set_option autoImplicit false
namespace Mini
theorem okLen_of {n : Nat} (h : n ≤ 1001) : okLen n = true := by
  unfold okLen cap; exact Nat.ble_eq_true_of_le (by omega)
section
variable {P : Prog} {n : Nat} {ρ ρ1 ρ' : Lo} {H H1 H2 H3 H' : Hp}
structure Ep (P : Prog) (n : Nat) (ks es : List E) (ρ : Lo) (H : Hp) (a b : List V) (H' : Hp) : Prop where
  h : evPairs (sem P n) ks es ρ H = some ((a, b), H')
theorem ep_nil : Ep P n [] [] ρ H [] [] H := ⟨rfl⟩
theorem ep_cons {k e : E} {ks es : List E} {kv v : V} {a b : List V} (hk : Ev P n k ρ H kv H1) (he : Ev P n e ρ H1 v H2) (r : Ep P n ks es ρ H2 a b H3) : Ep P n (k :: ks) (e :: es) ρ H (kv :: a) (v :: b) H3 := ⟨bnd hk.h (bnd he.h (bnd r.h rfl))⟩
theorem e_dict {k : DK} {ks es : List E} {a b : List V} {o : O} (r : Ep P n ks es ρ H a b H1) (q : mkDict k a b = some o) : Ev P (n+1) (.dict k ks es) ρ H (.ref H1.length) (H1 ++ [o]) := ⟨bnd r.h (mpd q rfl)⟩
theorem e_freeze {e : E} {r : Nat} {l : List V} (h : Ev P n e ρ H (.ref r) H1) (q : nth H1 r = some (.list l)) : Ev P (n+1) (.freeze e) ρ H (.lst l) (H1.set r .dead) := ⟨bnd h.h (bnd rfl (bnd q rfl))⟩
theorem e_slice_l {o hi : E} {l m : List V} {b : Int} (h : Ev P n o ρ H (.lst l) H1) (g : Ev P n hi ρ H1 (.int b) H2) (k : okInt b = true) (q : sliceL l Option.none (some b) = some m) : Ev P (n+1) (.slice o Option.none (some hi)) ρ H (.lst m) H2 := ⟨bnd h.h (bnd rfl (bnd (bnd g.h (bnd rfl (btt k rfl)) : evOpt (sem P n) (some hi) ρ H1 = some (some b, H2)) (mpd q rfl)))⟩
theorem e_new {c : Nat} {ms : List (Nat × FDef)} {fd : FDef} {args : List E} {vs : List V} (hc : lk P.classes c = some ms) (hm : lk ms n_init = some fd) (h : Es P n args ρ H vs H1) (k : Ca P n fd (.ref H1.length :: vs) (H1 ++ [.inst c []]) .none H2) : Ev P (n+1) (.new c args) ρ H (.ref H1.length) H2 := ⟨bnd hc (bnd hm (bnd h.h (bnd k.h rfl)))⟩
end
section
variable {P : Prog} {n : Nat} {ρ ρ1 ρ' : Lo} {H H1 H2 H3 H' : Hp}
theorem cl_map {α : Type} {elt : E} {t : T} {g f : α → V} : ∀ {l : List α}, (∀ a ∈ l, ∃ ρ', bindT t (g a) ρ = some ρ' ∧ Ev P n elt ρ' H (f a) H) → Cl P n t elt (l.map g) ρ H (l.map f) H
  | [], _ => cl_nil
  | a :: l, h => by
    refine x1a2 (h a (List.mem_cons_self ..)) fun ρ' h1 h2 => ?_
    exact cl_cons h1 h2 (cl_map fun b hb => h b (List.mem_cons_of_mem _ hb))
theorem e_compm {α : Type} {elt it : E} {t : T} {g f : α → V} {l : List α} (i : It P n it ρ H (l.map g) H1) (h : ∀ a ∈ l, ∃ ρ', bindT t (g a) (ldel (n_dot0 :: tgtsOf [.mk t it []]) ρ) = some ρ' ∧ Ev P n elt ρ' H1 (f a) H1) (q : l.length ≤ 1000) : Ev P (n+1) (.comp elt [.mk t it []]) ρ H (.lst (l.map f)) H1 :=
  e_comp1 i (cl_map h) (okLen_of (by rw [List.length_map]; lia))
theorem cp_mapm {α : Type} {elt : E} {t : T} {gs : List G} {g : α → V} {f : α → List V} {l : List α} (h : ∀ a ∈ l, ∃ ρ', bindT t (g a) ρ = some ρ' ∧ Cg P n elt gs ρ' H (f a)) : Cp P n elt t [] gs (l.map g) ρ H (l.flatMap f) := by
  induction l with
  | nil => exact ⟨rfl⟩
  | cons a l ih =>
    refine x1a2 (h a (List.mem_cons_self ..)) fun ρ' h1 h2 => ?_
    have h3 := (ih fun b hb => h b (List.mem_cons_of_mem _ hb)).h
    have h2 := h2.h
    constructor
    simp only [List.map_cons, evComp.loop, h1, evIfs, h2, h3, Option.bind_some, cond_true, List.flatMap_cons]
end

section
variable {P : Prog} {n : Nat} {ρ ρ1 ρ' : Lo} {H H1 H2 H3 H' : Hp}
theorem e_getIt {o k d : E} {r : Nat} {l : List (Int × V)} {ts : List V} {dv : V} (ho : Ev P n o ρ H (.ref r) H1) (ob : nth H1 r = some (.dI l)) (hk : Ev P n k ρ H1 (.tup ts) H2) (hd : Ev P n d ρ H2 dv H3) (ob2 : nth H3 r = some (.dI l)) (q : (V.tup ts).isKey = true) :
    Ev P (n+1) (.meth o 7628135 [k, d]) ρ H dv H3 := ⟨bnd ho.h (bnd rfl (bnd ob (bnd (es2 hk.h hd.h) (bnd ob2 (btt rfl (bnd rfl (mpd (btt q rfl) rfl)))))))⟩
theorem e_slice_lo {o lo : E} {l m : List V} {b : Int} (h : Ev P n o ρ H (.tup l) H1) (g : Ev P n lo ρ H1 (.int b) H2) (k : okInt b = true) (q : sliceL l (some b) Option.none = some m) : Ev P (n+1) (.slice o (some lo) Option.none) ρ H (.tup m) H2 := ⟨bnd h.h (bnd (bnd g.h (bnd rfl (btt k rfl)) : evOpt (sem P n) (some lo) ρ H1 = some (some b, H2)) (bnd rfl (mpd q rfl)))⟩
theorem e_and_f {e f : E} {es : List E} {b : Bool} (h : Ev P n e ρ H (.bool b) H1) (q : b = false) : Ev P (n+1) (.and (e :: f :: es)) ρ H (.bool false) H1 := ⟨bnd h.h (bff q rfl)⟩
theorem e_and_t {e f : E} {es : List E} {b : Bool} {v : V} (h : Ev P n e ρ H (.bool b) H1) (q : b = true) (g : Ev P (n+1) (.and (f :: es)) ρ H1 v H2) : Ev P (n+1) (.and (e :: f :: es)) ρ H v H2 := ⟨bnd h.h (btt q g.h)⟩
theorem e_and_1 {e : E} {v : V} (h : Ev P n e ρ H v H1) : Ev P (n+1) (.and [e]) ρ H v H1 := ⟨h.1⟩
structure Ai (P : Prog) (n : Nat) (d : Bool) (l : List E) (ρ : Lo) (H : Hp) (v : V) (H' : Hp) : Prop where
  h : if d = false then v = .bool false ∧ H' = H else Ev P (n+1) (.and l) ρ H v H'
theorem e_and {e f : E} {es : List E} {b : Bool} {v : V} (h : Ev P n e ρ H (.bool b) H1) (g : Ai P n b (f :: es) ρ H1 v H2) : Ev P (n+1) (.and (e :: f :: es)) ρ H v H2 := by
  have g := g.h
  by_cases q : b = false
  · rw [if_pos q] at g; obtain ⟨rfl, rfl⟩ := g; exact e_and_f h q
  · rw [if_neg q] at g; exact e_and_t h (by simpa using q) g
theorem ai_f {l : List E} {d : Bool} (q : d = false) : Ai P n d l ρ H (.bool false) H := ⟨by rw [if_pos q]; exact ⟨rfl, rfl⟩⟩
theorem ai_t {l : List E} {d : Bool} {v : V} (q : d = true) (g : Ev P (n+1) (.and l) ρ H v H') : Ai P n d l ρ H v H' := ⟨by rw [if_neg (by rw [q]; decide)]; exact g⟩
end
end Mini
end
section
open Mini
local macro_rules | `(tactic| walk_at "mini d") => `(tactic| (first | rfl | with_reducible assumption | (apply decide_eq_true; first | with_reducible assumption | lia) | (apply decide_eq_false; first | with_reducible assumption | lia)))
local macro_rules | `(tactic| walk_at "mini e") => `(tactic| first | exact es_nil | exact e_num | exact e_str | exact e_bool | exact e_none | with_reducible exact lke_same | ((with_reducible apply lke_skip); focus rfl) | ((with_reducible apply lke_del); focus rfl) | exact lke_base rfl | exact e_cst rfl | exact x_nil | exact cl_nil | exact oi_t (by walk_at "mini d") | (show (_ : Prop); with_reducible assumption))
local macro_rules | `(tactic| walk_at "mini a") => `(tactic| first | apply e_var' | apply es_cons | apply e_tup | apply e_list | apply e_cmp | apply e_cmp2 | apply cl_cons | apply e_not | apply e_neg | apply e_bin | apply e_sub | apply e_bi | apply e_or_1 | apply e_or | apply oi_f (by walk_at "mini d") | apply e_ite | apply ei_t (by walk_at "mini d") | apply ei_f (by walk_at "mini d") | apply e_attr | apply e_append | apply e_getT | apply e_getI | apply e_call | apply e_meth | apply e_fmt | apply x_asgv | apply x_asgt | apply x_asgs | apply x_asga | apply x_expr | apply x_ret | apply x_ifs | apply xi_f (by walk_at "mini d") | apply xi_tr' (by walk_at "mini d") (by rfl) | apply xi_tn' (by walk_at "mini d") (by rfl) | apply i_range1 | apply i_range2 | apply i_val (by rfl) | with_reducible exact cop_eq_int | with_reducible exact cop_ne_int | with_reducible exact cop_lt_int | with_reducible exact cop_le_int | with_reducible exact cop_gt_int | with_reducible exact cop_ge_int | rfl | (apply decide_eq_true; lia) | (apply decide_eq_false; lia))

section
set_option autoImplicit false
set_option maxRecDepth 10000
set_option maxHeartbeats 2000000
namespace Mini.L2
open Mini
/-! terms of a bank -/
structure Tm where
  op : Nat
  args : List Int
  sort : Int
  data : Int
noncomputable def Tm.eqb (a b : Tm) : Bool := Nat.beq a.op b.op && (a.args == b.args && (a.sort == b.sort && a.data == b.data))
theorem Tm.eqb_iff {a b : Tm} : a.eqb b = true ↔ a = b := by
  obtain ⟨a1, a2, a3, a4⟩ := a
  obtain ⟨b1, b2, b3, b4⟩ := b
  simp [Tm.eqb, Nat.beq_eq, Tm.mk.injEq]
noncomputable def intsV (l : List Int) : List V := l.map V.int
noncomputable def key (t : Tm) : V := .tup [.str t.op, .tup (intsV t.args), .int t.sort, .int t.data]
noncomputable def find : Nat → List Tm → Tm → Nat
  | _, [], _ => 0
  | k, u :: r, t => bif u.eqb t then k else find (k+1) r t
noncomputable abbrev fd (ts : List Tm) (t : Tm) : Int := (find 1 ts t : Int)
noncomputable def put (ts : List Tm) (t : Tm) : List Tm := if find 1 ts t = 0 then ts ++ [t] else ts
noncomputable def nums : Nat → List Tm → List (V × V)
  | _, [] => []
  | k, t :: r => (key t, .int (k : Int)) :: nums (k+1) r

theorem sames_ints : ∀ l m : List Int, V.sames (intsV l) (intsV m) = (l == m)
  | [], [] => rfl
  | [], _ :: _ => rfl
  | _ :: _, [] => rfl
  | a :: l, b :: m => by
    show (V.same (.int a) (.int b) && V.sames (intsV l) (intsV m)) = _
    rw [sames_ints l m, V.same, List.cons_beq_cons]; rfl
theorem same_key (u t : Tm) : V.same (key u) (key t) = u.eqb t := by
  show ((u.op == t.op) && (V.sames (intsV u.args) (intsV t.args) && ((u.sort == t.sort) && ((u.data == t.data) && true)))) = _
  rw [sames_ints, Bool.and_true]
  rw [show (u.op == t.op) = Nat.beq u.op t.op by rw [Bool.eq_iff_iff]; simp [Nat.beq_eq]]
  rfl
theorem keys_ints : ∀ (n : Nat) (l : List Int), V.keys n (intsV l) = true
  | _, [] => by simp [intsV, V.keys]
  | n, a :: l => by
    have := keys_ints n l
    simp only [intsV, List.map_cons, V.keys, V.key, Bool.true_and] at *
    exact this
theorem key_isKey (t : Tm) : (key t).isKey = true := by
  simp only [key, V.isKey, V.keys, V.key, keys_ints, Bool.and_true, Bool.true_and]
theorem getT_nums : ∀ (k : Nat) (ts : List Tm) (t : Tm), getT (nums (k+1) ts) (key t) = if find (k+1) ts t = 0 then none else some (.int (find (k+1) ts t))
  | k, [], t => rfl
  | k, u :: r, t => by
    show (bif V.same (key u) (key t) then _ else _) = _
    rw [same_key, getT_nums (k+1) r t]
    rcases Bool.eq_false_or_eq_true (u.eqb t) with e | e
    · rw [show find (k+1) (u :: r) t = k + 1 by simp only [find, e, cond_true], e]; simp
    · rw [show find (k+1) (u :: r) t = find (k+1+1) r t by simp only [find, e, cond_false], e]; rfl
theorem getD_nums (ts : List Tm) (t : Tm) : (getT (nums 1 ts) (key t)).getD (.int 0) = .int (fd ts t) := by
  rw [getT_nums 0 ts t]; by_cases h : find (0+1) ts t = 0
  · rw [if_pos h]; show V.int 0 = V.int ((find (0+1) ts t : Nat) : Int); rw [h]; rfl
  · rw [if_neg h]; rfl
theorem setT_nums : ∀ (k : Nat) (ts : List Tm) (t : Tm), find (k+1) ts t = 0 → setT (nums (k+1) ts) (key t) (.int ((k + 1 + ts.length : Nat) : Int)) = nums (k+1) (ts ++ [t])
  | k, [], t, _ => rfl
  | k, u :: r, t, h => by
    simp only [find] at h
    cases e : u.eqb t with
    | true => rw [e] at h; simp at h
    | false =>
      rw [e] at h
      have := setT_nums (k+1) r t h
      show (bif V.same (key u) (key t) then _ else _) = _
      rw [same_key, e]
      simp only [cond_false, List.cons_append, nums]
      rw [← this, List.length_cons]
      congr 4; (clear this e h; lia)

set_option genInjectivity false in
set_option genSizeOf false in
/-- the rest of a bank -/
structure Ext where
  names : List V
  widths : List V
  fnames : List V
  fargs : List V
  fres : List V
  bvn : List (Int × V)
noncomputable def bankAttrs : List (Nat × V) := [(544943148383632993972083, .ref 2), (139519742427658876708089715, .ref 3), (2128684173373565990246, .ref 4), (8315740999501378918, .ref 5), (139576264479274861228619110, .ref 6), (140757021683833132378583654, .int 0), (8318270967402095988, .ref 7), (2128829695872336029044, .ref 8), (545220213778855941530996, .ref 9), (544869865799501187540340, .ref 10), (32495402090329454, .ref 11), (138296318119088462031581812, .int 1), (35403857438486646280050991462, .int 2), (545182379876308767176290, .ref 12)]
noncomputable def hp (st : O) (X : Ext) (ts : List Tm) (rest : Hp) : Hp :=
  st :: .inst 7741231747428410708 bankAttrs :: .list X.names :: .list X.widths :: .list X.fnames :: .list X.fargs :: .list X.fres :: .list (.str 0 :: ts.map fun t => .str t.op) :: .list (.tup [] :: ts.map fun t => .tup (intsV t.args)) ::
  .list (.int 0 :: ts.map fun t => .int t.sort) :: .list (.int 0 :: ts.map fun t => .int t.data) :: .dT (nums 1 ts) :: .dI X.bvn :: rest

/-- the term of a number -/
noncomputable def At (ts : List Tm) (i : Int) (t : Tm) : Prop := 1 ≤ i ∧ i ≤ 1000 ∧ ts[i.toNat - 1]? = some t
theorem At.get {α : Type} {f : Tm → α} {a : α} {ts : List Tm} {i : Int} {t : Tm} (h : At ts i t) : (a :: ts.map f)[i.toNat]? = some (f t) := by
  refine x0a3 h fun h1 h2 h3 => ?_
  obtain ⟨j, rfl⟩ : ∃ j : Nat, i = ((j + 1 : Nat) : Int) := ⟨i.toNat - 1, by (clear h3 h2; lia)⟩
  simp only [Int.toNat_natCast, Nat.add_sub_cancel] at h3
  rw [Int.toNat_natCast, List.getElem?_cons_succ, List.getElem?_map, h3]; rfl
theorem At.sub {f : Tm → V} {a : V} {ts : List Tm} {i : Int} {t : Tm} {H : Hp} {r : Nat} (h : At ts i t) (q : nth H r = some (.list (a :: ts.map f))) : subV H (.ref r) (.int i) = some (f t) :=
  sub_ref q (by have := h.1; (clear q; lia)) h.get (by have := h.2.1; (clear q; lia))
theorem At.append {ts us : List Tm} {i : Int} {t : Tm} (h : At ts i t) : At (ts ++ us) i t := by
  refine x0a3 h fun h1 h2 h3 => ?_
  refine ⟨h1, h2, ?_⟩
  rw [List.getElem?_append_left (by
    rcases Nat.lt_or_ge (i.toNat - 1) ts.length with q | q
    · exact q
    · rw [List.getElem?_eq_none q] at h3; cases h3), h3]
theorem At.put {ts : List Tm} {i : Int} {t u : Tm} (h : At ts i t) : At (put ts u) i t := by
  unfold L2.put; split
  · exact h.append
  · exact h

end Mini.L2
end
section
set_option autoImplicit false
set_option maxRecDepth 10000
set_option maxHeartbeats 2000000
namespace Mini.L2
open Mini
theorem find_append_new : ∀ (k : Nat) (ts : List Tm) (t : Tm), find (k+1) ts t = 0 → find (k+1) (ts ++ [t]) t = k + 1 + ts.length
  | k, [], t, _ => by
    have : t.eqb t = true := Tm.eqb_iff.2 rfl
    simp only [find, List.nil_append, this, cond_true, List.length_nil]; try lia
  | k, u :: r, t, h => by
    rcases Bool.eq_false_or_eq_true (u.eqb t) with e | e
    · simp only [find, e, cond_true] at h; (clear e; lia)
    · simp only [find, e, cond_false, List.cons_append] at *
      rw [find_append_new (k+1) r t h, List.length_cons]; (clear h; lia)
theorem fd_put (ts : List Tm) (t : Tm) (h : find 1 ts t = 0) : fd (put ts t) t = (ts.length : Int) + 1 := by
  unfold fd put; rw [if_pos h, find_append_new 0 ts t h]; (clear h; lia)
theorem okLen_of {n : Nat} (h : n ≤ 1001) : okLen n = true := by
  unfold okLen cap; exact Nat.ble_eq_true_of_le (by lia)
theorem nums_length : ∀ (k : Nat) (ts : List Tm), (nums k ts).length = ts.length
  | _, [] => rfl
  | k, t :: ts => by rw [nums, List.length_cons, nums_length, List.length_cons]

section
variable {n : Nat} {st : O} {X : Ext} {ts : List Tm} {rest : Hp}

theorem l_make {op : Nat} {args : List Int} {s d : Int} (hl : ts.length < 1000) : Ca P (n+12) Bank_make [.ref 1, .str op, .tup (intsV args), .int s, .int d] (hp st X ts rest) (.int (fd (put ts ⟨op, args, s, d⟩) ⟨op, args, s, d⟩)) (hp st X (put ts ⟨op, args, s, d⟩) rest) := by
  have gd : (getT (nums 1 ts) (.tup [.str op, .tup (intsV args), .int s, .int d])).getD (.int 0) = .int (fd ts ⟨op, args, s, d⟩) := getD_nums ts ⟨op, args, s, d⟩
  have kk : (V.tup [.str op, .tup (intsV args), .int s, .int d]).isKey = true := key_isKey ⟨op, args, s, d⟩
  have o1 : okLen (V.str 0 :: ts.map fun t => V.str t.op).length = true := okLen_of (by simp; (clear kk gd; lia))
  have o2 : okLen (V.tup [] :: ts.map fun t => V.tup (intsV t.args)).length = true := okLen_of (by simp; (clear o1 kk gd; lia))
  have o3 : okLen (V.int 0 :: ts.map fun t => V.int t.sort).length = true := okLen_of (by simp; (clear o2 o1 kk gd; lia))
  have o4 : okLen (V.int 0 :: ts.map fun t => V.int t.data).length = true := okLen_of (by simp; (clear o3 o2 o1 kk gd; lia))
  have o5 : okLen (nums 1 ts).length = true := okLen_of (by rw [nums_length]; (clear o4 o3 o2 o1 kk gd; lia))
  by_cases h : find 1 ts ⟨op, args, s, d⟩ = 0
  · apply c_ret'
    · rfl
    · have h' : (fd ts ⟨op, args, s, d⟩) = 0 := by unfold fd; (clear o5 o4 o3 o2 o1 kk gd hl; lia)
      have q : callBi .len [.ref 7] (hp st X ts rest) = some (.int ((ts.length : Int) + 1), hp st X ts rest) := len_ref rfl (by rw [List.length_cons, List.length_map]) (okLen_of (show ts.length + 1 ≤ 1001 by (clear h' h o5 o4 o3 o2 o1 kk gd; lia)))
      have q2 : setItemV ((((hp st X ts rest).set 7 (.list ((V.str 0 :: ts.map fun t => V.str t.op) ++ [.str op]))).set 8 (.list ((V.tup [] :: ts.map fun t => V.tup (intsV t.args)) ++ [.tup (intsV args)]))).set 9 (.list ((V.int 0 :: ts.map fun t => V.int t.sort) ++ [.int s])) |>.set 10 (.list ((V.int 0 :: ts.map fun t => V.int t.data) ++ [.int d])))
          (.ref 11) (.tup [.str op, .tup (intsV args), .int s, .int d]) (.int ((ts.length : Int) + 1)) = some (hp st X (ts ++ [⟨op, args, s, d⟩]) rest) := by
        have := setT_nums 0 ts ⟨op, args, s, d⟩ h
        simp only [key] at this
        rw [show ((0 + 1 + ts.length : Nat) : Int) = (ts.length : Int) + 1 by (clear this q h' h o5 o4 o3 o2 o1 kk gd hl; lia)] at this
        refine (setI_T (l := nums 1 ts) rfl kk o5).trans (congrArg some ?_)
        rw [this]
        simp only [hp, List.set_cons_succ, List.set_cons_zero, List.map_append, List.map_cons, List.map_nil, List.cons_append]
      (repeat' (first | walk_at "mini e" | walk_at "mini a"))
    · rw [fd_put ts _ h]
    · unfold put; rw [if_pos h]
  · have h' : (fd ts ⟨op, args, s, d⟩) ≠ 0 := by unfold fd; (clear o5 o4 o3 o2 o1 kk gd hl; lia)
    apply c_ret'
    · rfl
    · (repeat' (first | walk_at "mini e" | walk_at "mini a"))
    · unfold put; rw [if_neg h]
    · unfold put; rw [if_neg h]
end

end Mini.L2
end
section
set_option autoImplicit false
set_option maxRecDepth 10000
set_option maxHeartbeats 2000000
namespace Mini.L2
open Mini
noncomputable def Wd (X : Ext) (s w : Int) : Prop := 0 ≤ s ∧ s ≤ 1000 ∧ X.widths[s.toNat]? = some (.int w)
theorem Wd.sub {X : Ext} {s w : Int} {H : Hp} {r : Nat} (h : Wd X s w) (q : nth H r = some (.list X.widths)) : subV H (.ref r) (.int s) = some (.int w) :=
  sub_ref q h.1 h.2.2 (by have := h.2.1; (clear q; lia))
section
variable {n : Nat} {st : O} {X : Ext} {ts : List Tm} {rest : Hp}
theorem l_find {op : Nat} {args : List Int} {s d : Int} : Ca P (n+12) Bank_find_made [.ref 1, .str op, .tup (intsV args), .int s, .int d] (hp st X ts rest) (.int (fd ts ⟨op, args, s, d⟩)) (hp st X ts rest) := by
  have gd : (getT (nums 1 ts) (.tup [.str op, .tup (intsV args), .int s, .int d])).getD (.int 0) = .int (fd ts ⟨op, args, s, d⟩) := getD_nums ts ⟨op, args, s, d⟩
  have kk : (V.tup [.str op, .tup (intsV args), .int s, .int d]).isKey = true := key_isKey ⟨op, args, s, d⟩
  apply c_ret'
  · rfl
  · (repeat' (first | walk_at "mini e" | walk_at "mini a"))
  · rfl
  · rfl
theorem l_op {i : Int} {t : Tm} (h : At ts i t) : Ca P (n+12) Bank_op [.ref 1, .int i] (hp st X ts rest) (.str t.op) (hp st X ts rest) := by
  have q : subV (hp st X ts rest) (.ref 7) (.int i) = some (.str t.op) := h.sub (f := fun t => .str t.op) rfl
  apply c_ret'
  · rfl
  · (repeat' (first | walk_at "mini e" | walk_at "mini a"))
  · rfl
  · rfl
theorem l_args {i : Int} {t : Tm} (h : At ts i t) : Ca P (n+12) Bank_args [.ref 1, .int i] (hp st X ts rest) (.tup (intsV t.args)) (hp st X ts rest) := by
  have q : subV (hp st X ts rest) (.ref 8) (.int i) = some (.tup (intsV t.args)) := h.sub (f := fun t => .tup (intsV t.args)) rfl
  apply c_ret'
  · rfl
  · (repeat' (first | walk_at "mini e" | walk_at "mini a"))
  · rfl
  · rfl
theorem sortAt {i : Int} {t : Tm} (h : At ts i t) : subV (hp st X ts rest) (.ref 9) (.int i) = some (.int t.sort) := h.sub (f := fun t => .int t.sort) rfl
theorem widthAt {s w : Int} (h : Wd X s w) : subV (hp st X ts rest) (.ref 3) (.int s) = some (.int w) := h.sub rfl
theorem l_width {i w : Int} {t : Tm} (h : At ts i t) (k : Wd X t.sort w) : Ca P (n+12) Bank_width [.ref 1, .int i] (hp st X ts rest) (.int w) (hp st X ts rest) := by
  have q1 := sortAt (st := st) (X := X) (rest := rest) h
  have q2 := widthAt (st := st) (ts := ts) (rest := rest) k
  apply c_ret'
  · rfl
  · (repeat' (first | walk_at "mini e" | walk_at "mini a"))
  · rfl
  · rfl
theorem l_size (hl : ts.length < 1000) : Ca P (n+12) Bank_size [.ref 1] (hp st X ts rest) (.int ts.length) (hp st X ts rest) := by
  have q : callBi .len [.ref 7] (hp st X ts rest) = some (.int ((ts.length : Int) + 1), hp st X ts rest) := len_ref rfl (by rw [List.length_cons, List.length_map]) (okLen_of (show ts.length + 1 ≤ 1001 by lia))
  apply c_ret'
  · rfl
  · (repeat' (first | walk_at "mini e" | walk_at "mini a"))
  · simp only [V.int.injEq]; (clear q hl; lia)
  · rfl
theorem l_want_bits {i w : Int} {t : Tm} {x : Nat} (h : At ts i t) (k : Wd X t.sort w) (hw : w ≠ 0) : Ca P (n+16) TermBank_want_bits [.ref 1, .int i, .str x] (hp st X ts rest) .none (hp st X ts rest) := by
  apply c_nxt'
  · rfl
  · (repeat' (first | walk_at "mini e" | exact l_width h k | walk_at "mini a"))
  · rfl
end
end Mini.L2
end
section
set_option autoImplicit false
set_option maxRecDepth 10000
set_option maxHeartbeats 2000000
namespace Mini.L2
open Mini
noncomputable def Ext.more (X : Ext) (w : Int) (t : Nat) : Ext := { X with names := X.names ++ [.str (strCat 152949257266967150092072 (strCat t 41))], widths := X.widths ++ [.int w], bvn := setI X.bvn w (.int X.names.length) }
section
variable {n : Nat} {st : O} {X : Ext} {ts : List Tm} {rest : Hp}
theorem l_bv_sort {w s : Int} (h : getI X.bvn w = some (.int s)) (h1 : 1 ≤ w) (h2 : w ≤ 4096) : Ca P (n+16) TermBank_bv_sort [.ref 1, .int w] (hp st X ts rest) (.int s) (hp st X ts rest) := by
  have q : (!(getI X.bvn w).isSome) = false := by rw [h]; rfl
  have q2 : subV (hp st X ts rest) (.ref 12) (.int w) = some (.int s) := h
  apply c_ret'
  · rfl
  · (repeat' (first | walk_at "mini e" | walk_at "mini a"))
  · rfl
  · rfl
theorem getI_setI : ∀ (l : List (Int × V)) (i : Int) (v : V), getI (setI l i v) i = some v
  | [], i, v => by simp [setI, getI]
  | (j, u) :: r, i, v => by
    by_cases h : i = j
    · subst h; simp [setI, getI]
    · have e : (i == j) = false := by simpa using h
      simp only [setI, e, cond_false, getI, getI_setI r i v]
theorem l_bv_sort_new {w : Int} {t : Nat} (h : getI X.bvn w = none) (h1 : 1 ≤ w) (h2 : w ≤ 4096) (ht : intText w = some t) (l1 : X.names.length ≤ 100) (l2 : X.widths.length ≤ 100) (l3 : X.bvn.length ≤ 100) :
    Ca P (n+16) TermBank_bv_sort [.ref 1, .int w] (hp st X ts rest) (.int X.names.length) (hp st (X.more w t) ts rest) := by
  have q : (!(getI X.bvn w).isSome) = true := by rw [h]; rfl
  have o1 : okLen X.names.length = true := okLen_of (by (clear q l3 l2 ht h2 h1 h; lia))
  have o2 : okLen X.widths.length = true := okLen_of (by (clear o1 q l3 l1 ht h2 h1 h; lia))
  have c1 : ∀ H : Hp, nth H 2 = some (.list (X.names ++ [.str (strCat 152949257266967150092072 (strCat t 41))])) → callBi .len [.ref 2] H = some (.int (X.names.length + 1), H) := by
    exact fun H hh => len_ref hh (by rw [List.length_append]; rfl) (okLen_of (show X.names.length + 1 ≤ 1001 by (clear hh o2 o1 q l3 l2 ht h2 h1 h; lia)))
  have c2 : ∀ H : Hp, nth H 12 = some (.dI X.bvn) → setItemV H (.ref 12) (.int w) (.int (X.names.length + 1 - 1)) = some (H.set 12 (.dI (setI X.bvn w (.int X.names.length)))) := by
    intro H hh
    rw [show ((X.names.length : Int) + 1 - 1) = (X.names.length : Int) by (clear hh o2 o1 q l3 l2 l1 ht h2 h1 h; lia)]
    exact setI_I hh (okLen_of (show X.bvn.length ≤ 1001 by (clear hh o2 o1 q l2 l1 ht h2 h1 h; lia)))
  have c3 : ∀ H : Hp, nth H 12 = some (.dI (setI X.bvn w (.int X.names.length))) → subV H (.ref 12) (.int w) = some (.int X.names.length) := by
    exact fun H hh => (sub_I hh).trans (getI_setI _ _ _)
  apply c_ret'
  · rfl
  · (repeat' (first | walk_at "mini e" | exact c1 _ rfl | exact c2 _ rfl | exact c3 _ rfl | walk_at "mini a"))
  · rfl
  · rfl
end
theorem dep_ints : ∀ (l : List Int), V.deps (intsV l) = some 0
  | [] => by simp [intsV, V.deps]
  | a :: l => by
    have := dep_ints l
    simp only [intsV, List.map_cons, V.deps, V.dep] at *
    rw [this]; rfl
theorem flats_ints : ∀ (l : List Int), V.flats (intsV l) = true
  | [] => rfl
  | a :: l => by
    show (V.flat (.int a) && V.flats (intsV l)) = true
    rw [flats_ints l]; simp [V.flat, V.dep]
theorem flat_int {a : Int} : V.flat (.int a) = true := by simp [V.flat, V.dep]
theorem any_ints (a : Int) : ∀ (l : List Int), (intsV l).any (fun y => V.beq y (.int a)) = decide (a ∈ l)
  | [] => rfl
  | b :: l => by
    show ((b == a) || (intsV l).any fun y => V.beq y (.int a)) = _
    rw [any_ints a l, Bool.eq_iff_iff]
    simp only [Bool.or_eq_true, beq_iff_eq, decide_eq_true_eq, List.mem_cons]
    constructor
    · rintro (h | h); exact .inl h.symm; exact .inr h
    · rintro (h | h); exact .inl h.symm; exact .inr h
theorem cop_in_ints {H : Hp} {a : Int} {l : List Int} : cop .isin H (.int a) (.tup (intsV l)) = some (decide (a ∈ l)) := by
  show (bif V.flats (intsV l) then some ((intsV l).any fun y => V.beq y (.int a)) else none) = _
  rw [flats_ints, any_ints]; rfl

noncomputable def Fd (ts : List Tm) (t : Tm) (k : Int) : Prop := (find 1 ts t : Int) = k ∧ 1 ≤ k
theorem find_range : ∀ (k : Nat) (ts : List Tm) (t : Tm), find (k+1) ts t ≠ 0 → k + 1 ≤ find (k+1) ts t ∧ find (k+1) ts t ≤ k + ts.length ∧ ts[find (k+1) ts t - (k+1)]? = some t
  | k, [], t, h => absurd rfl h
  | k, u :: r, t, h => by
    rcases Bool.eq_false_or_eq_true (u.eqb t) with e | e
    · have e' := Tm.eqb_iff.1 e
      have : find (k+1) (u :: r) t = k + 1 := by simp only [find, e, cond_true]
      rw [this, List.length_cons]
      refine ⟨Nat.le_refl _, by (clear this e' e h; lia), ?_⟩
      rw [Nat.sub_self, List.getElem?_cons_zero, e']
    · have f : find (k+1) (u :: r) t = find (k+1+1) r t := by simp only [find, e, cond_false]
      rw [f] at h ⊢
      refine x0a3 (find_range (k+1) r t h) fun a b c => ?_
      refine ⟨by (clear c b f e h; lia), by rw [List.length_cons]; (clear c a f e h; lia), ?_⟩
      rw [show find (k+1+1) r t - (k+1) = (find (k+1+1) r t - (k+1+1)) + 1 by (clear c b f e h; lia), List.getElem?_cons_succ, c]
theorem Fd.at {ts : List Tm} {t : Tm} {k : Int} (h : Fd ts t k) (l : ts.length ≤ 1000) : At ts k t := by
  refine x0a2 h fun h1 h2 => ?_
  have F := find_range 0 ts t
  simp only [Nat.zero_add] at F
  refine x0a3 (F (by (clear F l; lia))) fun a b c => ?_
  refine ⟨h2, by (clear c b a h2; lia), ?_⟩
  rw [← c]; congr 1; (clear c b a F h2 l; lia)
theorem Fd.lt {ts : List Tm} {t : Tm} {k : Int} (h : Fd ts t k) : k ≤ ts.length := by
  refine x0a2 h fun h1 h2 => ?_
  have F := find_range 0 ts t
  simp only [Nat.zero_add] at F
  refine x0a3 (F (by (clear F; lia))) fun a b c => ?_
  (clear c b a h2; lia)
theorem find_append_old : ∀ (k : Nat) (ts us : List Tm) (t : Tm), find (k+1) ts t ≠ 0 → find (k+1) (ts ++ us) t = find (k+1) ts t
  | k, [], us, t, h => absurd rfl h
  | k, u :: r, us, t, h => by
    rcases Bool.eq_false_or_eq_true (u.eqb t) with e | e
    · simp only [List.cons_append, find, e, cond_true]
    · have f : find (k+1) (u :: r) t = find (k+1+1) r t := by simp only [find, e, cond_false]
      rw [f] at h ⊢
      have := find_append_old (k+1) r us t h
      simp only [List.cons_append, find, e, cond_false, this]
theorem Fd.append {ts us : List Tm} {t : Tm} {k : Int} (h : Fd ts t k) : Fd (ts ++ us) t k := by
  refine x0a2 h fun h1 h2 => ?_
  have F := find_append_old 0 ts us t
  simp only [Nat.zero_add] at F
  exact ⟨by rw [F (by (clear F; lia))]; exact h1, h2⟩
theorem Fd.put {ts : List Tm} {t u : Tm} {k : Int} (h : Fd ts t k) : Fd (L2.put ts u) t k := by
  unfold L2.put; split
  · exact h.append
  · exact h
theorem Fd.same {ts : List Tm} {t : Tm} {k : Int} (h : Fd ts t k) : L2.put ts t = ts := by
  refine x0a2 h fun h1 h2 => ?_
  unfold L2.put; rw [if_neg (by lia)]
theorem Fd.fd {ts : List Tm} {t : Tm} {k : Int} (h : Fd ts t k) : L2.fd ts t = k := h.1
theorem fd_put_self (ts : List Tm) (t : Tm) : Fd (put ts t) t (fd (put ts t) t) := by
  refine ⟨rfl, ?_⟩
  unfold put
  by_cases h : find 1 ts t = 0
  · rw [if_pos h]; show 1 ≤ ((find 1 (ts ++ [t]) t : Nat) : Int); rw [find_append_new 0 ts t h]; (clear h; lia)
  · rw [if_neg h]; show 1 ≤ ((find 1 ts t : Nat) : Int); lia
theorem put_len (ts : List Tm) (t : Tm) : (put ts t).length ≤ ts.length + 1 := by
  unfold put; split
  · rw [List.length_append]; exact Nat.le_refl _
  · lia
noncomputable def X0 : Ext := { names := [.str 1819242306, .str 7630409, .str 1818322258], widths := [.int 0, .int 0, .int 0], fnames := [], fargs := [], fres := [], bvn := [] }
noncomputable abbrev tt : Tm := ⟨1702195828, [], 0, 0⟩
noncomputable abbrev tf : Tm := ⟨435728179558, [], 0, 0⟩
noncomputable def eqL : List Tm → List Tm → Bool
  | [], [] => true
  | a :: l, b :: m => a.eqb b && eqL l m
  | _, _ => false
theorem eqL_iff : ∀ {l m : List Tm}, eqL l m = true → l = m
  | [], [], _ => rfl
  | [], _ :: _, h => by cases h
  | _ :: _, [], h => by cases h
  | a :: l, b :: m, h => by
    simp only [eqL, Bool.and_eq_true] at h
    rw [Tm.eqb_iff.1 h.1, eqL_iff h.2]
noncomputable def fdB (ts : List Tm) (t : Tm) (k : Int) : Bool := ((find 1 ts t : Int) == k) && decide (1 ≤ k)
theorem fdB_iff {ts : List Tm} {t : Tm} {k : Int} (h : fdB ts t k = true) : Fd ts t k := by
  simp only [fdB, Bool.and_eq_true, beq_iff_eq, decide_eq_true_eq] at h; exact h
theorem bank_new (n : Nat) (st : O) : Ca P (n+40) TermBank_init [.ref 1] [st, .inst 7741231747428410708 []] .none (hp st X0 [tt, tf] []) := ⟨by kernel_rfl⟩
section
variable {n : Nat} {st : O} {X : Ext} {ts : List Tm} {rest : Hp}
theorem l_declare {nm : Nat} {s : Int} (h1 : X.fnames.length ≤ 100) (h2 : X.fargs.length ≤ 100) (h3 : X.fres.length ≤ 100) : Ca P (n+20) Bank_declare_fun [.ref 1, .str nm, .tup [], .int s] (hp st X ts rest) (.int X.fnames.length) (hp st { X with fnames := X.fnames ++ [.str nm], fargs := X.fargs ++ [.tup []], fres := X.fres ++ [.int s] } ts rest) := by
  have o1 : okLen X.fnames.length = true := okLen_of (by (clear h3 h2; lia))
  have o2 : okLen X.fargs.length = true := okLen_of (by (clear o1 h3 h1; lia))
  have o3 : okLen X.fres.length = true := okLen_of (by (clear o2 o1 h2 h1; lia))
  have c1 : ∀ H : Hp, nth H 4 = some (.list (X.fnames ++ [.str nm])) → callBi .len [.ref 4] H = some (.int (X.fnames.length + 1), H) := by
    exact fun H hh => len_ref hh (by rw [List.length_append]; rfl) (okLen_of (show X.fnames.length + 1 ≤ 1001 by (clear hh o3 o2 o1 h3 h2; lia)))
  apply c_ret'
  · rfl
  · (repeat' (first | walk_at "mini e" | exact c1 _ rfl | walk_at "mini a"))
  · simp only [V.int.injEq]; (clear o3 o2 o1 h3 h2 h1; lia)
  · rfl
theorem l_fresh {nm : Nat} {s : Int} (hl : ts.length < 1000) (h1 : X.fnames.length ≤ 100) (h2 : X.fargs.length ≤ 100) (h3 : X.fres.length ≤ 100) : Ca P (n+30) Bank_fresh_const [.ref 1, .str nm, .int s] (hp st X ts rest) (.int (fd (put ts ⟨7368801, [], s, X.fnames.length⟩) ⟨7368801, [], s, X.fnames.length⟩))
    (hp st { X with fnames := X.fnames ++ [.str nm], fargs := X.fargs ++ [.tup []], fres := X.fres ++ [.int s] } (put ts ⟨7368801, [], s, X.fnames.length⟩) rest) := by
  apply c_ret'
  · rfl
  · (repeat' (first | walk_at "mini e" | exact l_declare h1 h2 h3 | exact l_make (args := []) hl | walk_at "mini a"))
  · rfl
  · rfl
end
theorem call_len {H : Hp} {l : List V} (h : l.length ≤ 1000) : callBi .len [.lst l] H = some (.int l.length, H) := len_lst rfl (okLen_of (by lia))
theorem getI_cons {j : Int} {v : V} {r : List (Int × V)} {i : Int} : getI ((j, v) :: r) i = if i = j then some v else getI r i := by
  simp only [getI]
  by_cases h : i = j
  · rw [if_pos h]; simp [h]
  · rw [if_neg h, (by simpa using h : (i == j) = false)]; rfl
theorem c_in {H : Hp} {r : Nat} {kn : List (Int × V)} {t : Int} (h : nth H r = some (.dI kn)) : cop .isin H (.int t) (.ref r) = some (getI kn t).isSome := bnd h rfl
theorem s_in {H : Hp} {r : Nat} {kn : List (Int × V)} {t : Int} (h : nth H r = some (.dI kn)) : subV H (.ref r) (.int t) = getI kn t := sub_I h
theorem whl_t {R : Sems} {c : E} {b : List S} {d : Bool} {n : Nat} {ρ ρ1 : Lo} {H H1 H2 : Hp} {r : Option (Fl × Lo × Hp)} (h : R.ev c ρ H = some (.bool d, H1)) (q : d = true) (g : R.exs b ρ H1 = some (.nxt, ρ1, H2)) (k : exWhl R c b n ρ1 H2 = r) : exWhl R c b (n+1) ρ H = r := by
  exact bnd h (btt q (bnd g k))
theorem whl_f {R : Sems} {c : E} {b : List S} {d : Bool} {n : Nat} {ρ : Lo} {H H1 : Hp} (h : R.ev c ρ H = some (.bool d, H1)) (q : d = false) : exWhl R c b (n+1) ρ H = some (.nxt, ρ, H1) := by
  exact bnd h (bff q rfl)
end Mini.L2
end
section
set_option autoImplicit false
set_option maxRecDepth 10000
set_option maxHeartbeats 2000000
namespace Mini.L2
open Mini

/-! formulas -/
inductive Fm where
  | tt | ff
  | at (k : V)
  | no (f : Fm)
  | an (f g : Fm)
  | og (f g : Fm)
  | xo (f g : Fm)
noncomputable def Fm.V : Fm → V
  | .tt => .tup [.str 1702195828]
  | .ff => .tup [.str 435728179558]
  | .at k => .tup [.str 1836020833, k]
  | .no f => .tup [.str 7630702, f.V]
  | .an f g => .tup [.str 6581857, f.V, g.V]
  | .og f g => .tup [.str 29295, f.V, g.V]
  | .xo f g => .tup [.str 7499640, f.V, g.V]
noncomputable def Fm.dep : Fm → Nat
  | .tt | .ff | .at _ => 0
  | .no f => f.dep + 1
  | .an f g | .og f g | .xo f g => max f.dep g.dep + 1
noncomputable def Fm.atoms : Fm → List Mini.V
  | .tt | .ff => []
  | .at k => [k]
  | .no f => f.atoms
  | .an f g | .og f g | .xo f g => f.atoms ++ g.atoms
noncomputable def Fm.ev (s : Mini.V → Bool) : Fm → Bool
  | .tt => true
  | .ff => false
  | .at k => s k
  | .no f => !f.ev s
  | .an f g => f.ev s && g.ev s
  | .og f g => f.ev s || g.ev s
  | .xo f g => f.ev s != g.ev s

/-- fuel that can be raised -/
noncomputable def Cx (k : Nat) (f : FDef) (a : List V) (H : Hp) (v : V) (H' : Hp) : Prop := ∀ m, k ≤ m → Ca P m f a H v H'
theorem Cx.of {k : Nat} {f : FDef} {a : List V} {H H' : Hp} {v : V} (h : ∀ n, Ca P (n+k) f a H v H') : Cx k f a H v H' := fun m hm => by
  have := h (m - k); rwa [show m - k + k = m by lia] at this

theorem flatMap_ints {α β : Type} (f : α → List β) (a b : α) : [a, b].flatMap f = f a ++ f b := by simp
section
variable {H : Hp}
theorem atoms_ev : ∀ (f : Fm), (∀ k ∈ f.atoms, True) → f.atoms.length ≤ 100 → Cx (20 * (f.dep + 1)) law_atoms [f.V] H (.lst f.atoms) H
  | .tt, _, _ => .of fun n => by
    apply c_ret'
    · rfl
    · have C : Ev P (n+19) (.comp (.var 1836020833) [.mk (.var 1953653104) (.slice (.var 27422324344123238) (some (.num 1)) Option.none) [], .mk (.var 1836020833) (.call 545090871785141701799007 [.var 1953653104]) []]) (law_atoms.params.zip [Fm.tt.V]) H (.lst []) H :=
        e_compg (i_val (by rfl) (e_slice_lo (e_var' (lke_base rfl)) e_num rfl rfl) rfl) (cp_mapm (l := []) (g := fun x : Nat => V.none) (f := fun _ => []) (fun _ h => by cases h)) rfl
      (repeat' (first | walk_at "mini e" | walk_at "mini a"))
    · rfl
    · rfl
  | .ff, _, _ => .of fun n => by
    apply c_ret'
    · rfl
    · have C : Ev P (n+19) (.comp (.var 1836020833) [.mk (.var 1953653104) (.slice (.var 27422324344123238) (some (.num 1)) Option.none) [], .mk (.var 1836020833) (.call 545090871785141701799007 [.var 1953653104]) []]) (law_atoms.params.zip [Fm.ff.V]) H (.lst []) H :=
        e_compg (i_val (by rfl) (e_slice_lo (e_var' (lke_base rfl)) e_num rfl rfl) rfl) (cp_mapm (l := []) (g := fun x : Nat => V.none) (f := fun _ => []) (fun _ h => by cases h)) rfl
      (repeat' (first | walk_at "mini e" | walk_at "mini a"))
    · rfl
    · rfl
  | .at k, _, _ => .of fun n => by
    apply c_ret'
    · rfl
    · (repeat' (first | walk_at "mini e" | walk_at "mini a"))
    · rfl
    · rfl
  | .no f, h, hl => fun m hm => by
    have ih := atoms_ev f (fun _ _ => trivial) hl
    obtain ⟨n, rfl⟩ : ∃ n, m = n + 20 := ⟨m - 20, by simp only [Fm.dep] at hm; lia⟩
    apply c_ret'
    · rfl
    · have I := ih (n+17) (by simp only [Fm.dep] at hm; lia)
      have C : Ev P (n+19) (.comp (.var 1836020833) [.mk (.var 1953653104) (.slice (.var 27422324344123238) (some (.num 1)) Option.none) [], .mk (.var 1836020833) (.call 545090871785141701799007 [.var 1953653104]) []]) (law_atoms.params.zip [(Fm.no f).V]) H (.lst ([f].flatMap Fm.atoms)) H :=
        e_compg (i_val (by rfl) (e_slice_lo (e_var' (lke_base rfl)) e_num rfl rfl) rfl) (cp_mapm (l := [f]) (g := Fm.V) (f := Fm.atoms) fun a ha => ⟨_, rfl, by
          rcases List.mem_singleton.1 ha with rfl
          have C2 := cp_mapm (P := P) (n := n+18) (H := H) (ρ := lset (ldel (n_dot0 :: tgtsOf [.mk (.var 1953653104) (.slice (.var 27422324344123238) (some (.num 1)) Option.none) [], .mk (.var 1836020833) (.call 545090871785141701799007 [.var 1953653104]) []]) (law_atoms.params.zip [(Fm.no a).V])) 1953653104 a.V) (elt := .var 1836020833) (t := .var 1836020833) (gs := []) (l := a.atoms) (g := id) (f := fun v => [v]) fun v hv => ⟨_, rfl, cg_nil (e_var' lke_same)⟩
          rw [List.map_id, show a.atoms.flatMap (fun v => [v]) = a.atoms by simp] at C2
          exact cg_cons (i_val (by rfl) (e_call rfl (es_cons (e_var' lke_same) es_nil) I) rfl) C2⟩) (okLen_of (by simpa using (show f.atoms.length ≤ 1001 from by simp only [Fm.atoms] at hl; lia)))
      (repeat' (first | walk_at "mini e" | walk_at "mini a"))
    · simp [Fm.atoms]
    · rfl
  | .an f g, h, hl => fun m hm => by
    have l1 : f.atoms.length ≤ 100 := by simp only [Fm.atoms, List.length_append] at hl; lia
    have l2 : g.atoms.length ≤ 100 := by simp only [Fm.atoms, List.length_append] at hl; lia
    have ih := atoms_ev f (fun _ _ => trivial) l1
    have ih2 := atoms_ev g (fun _ _ => trivial) l2
    obtain ⟨n, rfl⟩ : ∃ n, m = n + 20 := ⟨m - 20, by simp only [Fm.dep] at hm; lia⟩
    have I : ∀ a ∈ [f, g], Ca P (n+17) law_atoms [a.V] H (.lst a.atoms) H := fun a ha => by
      simp only [Fm.dep] at hm
      simp only [List.mem_cons, List.not_mem_nil, or_false] at ha
      rcases ha with rfl | rfl
      · exact ih (n+17) (by lia)
      · exact ih2 (n+17) (by lia)
    apply c_ret'
    · rfl
    · have C : Ev P (n+19) (.comp (.var 1836020833) [.mk (.var 1953653104) (.slice (.var 27422324344123238) (some (.num 1)) Option.none) [], .mk (.var 1836020833) (.call 545090871785141701799007 [.var 1953653104]) []]) (law_atoms.params.zip [(Fm.an f g).V]) H (.lst ([f, g].flatMap Fm.atoms)) H :=
        e_compg (i_val (by rfl) (e_slice_lo (e_var' (lke_base rfl)) e_num rfl rfl) rfl) (cp_mapm (l := [f, g]) (g := Fm.V) (f := Fm.atoms) fun a ha => ⟨_, rfl, by
          have C2 := cp_mapm (P := P) (n := n+18) (H := H) (ρ := lset (ldel (n_dot0 :: tgtsOf [.mk (.var 1953653104) (.slice (.var 27422324344123238) (some (.num 1)) Option.none) [], .mk (.var 1836020833) (.call 545090871785141701799007 [.var 1953653104]) []]) (law_atoms.params.zip [(Fm.an f g).V])) 1953653104 a.V) (elt := .var 1836020833) (t := .var 1836020833) (gs := []) (l := a.atoms) (g := id) (f := fun v => [v]) fun v hv => ⟨_, rfl, cg_nil (e_var' lke_same)⟩
          rw [List.map_id, show a.atoms.flatMap (fun v => [v]) = a.atoms by simp] at C2
          exact cg_cons (i_val (by rfl) (e_call rfl (es_cons (e_var' lke_same) es_nil) (I a ha)) rfl) C2⟩) (okLen_of (by simp only [List.flatMap_cons, List.flatMap_nil, List.length_append, List.length_nil]; lia))
      (repeat' (first | walk_at "mini e" | walk_at "mini a"))
    · simp [Fm.atoms]
    · rfl
  | .og f g, h, hl => fun m hm => by
    have l1 : f.atoms.length ≤ 100 := by simp only [Fm.atoms, List.length_append] at hl; lia
    have l2 : g.atoms.length ≤ 100 := by simp only [Fm.atoms, List.length_append] at hl; lia
    have ih := atoms_ev f (fun _ _ => trivial) l1
    have ih2 := atoms_ev g (fun _ _ => trivial) l2
    obtain ⟨n, rfl⟩ : ∃ n, m = n + 20 := ⟨m - 20, by simp only [Fm.dep] at hm; lia⟩
    have I : ∀ a ∈ [f, g], Ca P (n+17) law_atoms [a.V] H (.lst a.atoms) H := fun a ha => by
      simp only [Fm.dep] at hm
      simp only [List.mem_cons, List.not_mem_nil, or_false] at ha
      rcases ha with rfl | rfl
      · exact ih (n+17) (by lia)
      · exact ih2 (n+17) (by lia)
    apply c_ret'
    · rfl
    · have C : Ev P (n+19) (.comp (.var 1836020833) [.mk (.var 1953653104) (.slice (.var 27422324344123238) (some (.num 1)) Option.none) [], .mk (.var 1836020833) (.call 545090871785141701799007 [.var 1953653104]) []]) (law_atoms.params.zip [(Fm.og f g).V]) H (.lst ([f, g].flatMap Fm.atoms)) H :=
        e_compg (i_val (by rfl) (e_slice_lo (e_var' (lke_base rfl)) e_num rfl rfl) rfl) (cp_mapm (l := [f, g]) (g := Fm.V) (f := Fm.atoms) fun a ha => ⟨_, rfl, by
          have C2 := cp_mapm (P := P) (n := n+18) (H := H) (ρ := lset (ldel (n_dot0 :: tgtsOf [.mk (.var 1953653104) (.slice (.var 27422324344123238) (some (.num 1)) Option.none) [], .mk (.var 1836020833) (.call 545090871785141701799007 [.var 1953653104]) []]) (law_atoms.params.zip [(Fm.og f g).V])) 1953653104 a.V) (elt := .var 1836020833) (t := .var 1836020833) (gs := []) (l := a.atoms) (g := id) (f := fun v => [v]) fun v hv => ⟨_, rfl, cg_nil (e_var' lke_same)⟩
          rw [List.map_id, show a.atoms.flatMap (fun v => [v]) = a.atoms by simp] at C2
          exact cg_cons (i_val (by rfl) (e_call rfl (es_cons (e_var' lke_same) es_nil) (I a ha)) rfl) C2⟩) (okLen_of (by simp only [List.flatMap_cons, List.flatMap_nil, List.length_append, List.length_nil]; lia))
      (repeat' (first | walk_at "mini e" | walk_at "mini a"))
    · simp [Fm.atoms]
    · rfl
  | .xo f g, h, hl => fun m hm => by
    have l1 : f.atoms.length ≤ 100 := by simp only [Fm.atoms, List.length_append] at hl; lia
    have l2 : g.atoms.length ≤ 100 := by simp only [Fm.atoms, List.length_append] at hl; lia
    have ih := atoms_ev f (fun _ _ => trivial) l1
    have ih2 := atoms_ev g (fun _ _ => trivial) l2
    obtain ⟨n, rfl⟩ : ∃ n, m = n + 20 := ⟨m - 20, by simp only [Fm.dep] at hm; lia⟩
    have I : ∀ a ∈ [f, g], Ca P (n+17) law_atoms [a.V] H (.lst a.atoms) H := fun a ha => by
      simp only [Fm.dep] at hm
      simp only [List.mem_cons, List.not_mem_nil, or_false] at ha
      rcases ha with rfl | rfl
      · exact ih (n+17) (by lia)
      · exact ih2 (n+17) (by lia)
    apply c_ret'
    · rfl
    · have C : Ev P (n+19) (.comp (.var 1836020833) [.mk (.var 1953653104) (.slice (.var 27422324344123238) (some (.num 1)) Option.none) [], .mk (.var 1836020833) (.call 545090871785141701799007 [.var 1953653104]) []]) (law_atoms.params.zip [(Fm.xo f g).V]) H (.lst ([f, g].flatMap Fm.atoms)) H :=
        e_compg (i_val (by rfl) (e_slice_lo (e_var' (lke_base rfl)) e_num rfl rfl) rfl) (cp_mapm (l := [f, g]) (g := Fm.V) (f := Fm.atoms) fun a ha => ⟨_, rfl, by
          have C2 := cp_mapm (P := P) (n := n+18) (H := H) (ρ := lset (ldel (n_dot0 :: tgtsOf [.mk (.var 1953653104) (.slice (.var 27422324344123238) (some (.num 1)) Option.none) [], .mk (.var 1836020833) (.call 545090871785141701799007 [.var 1953653104]) []]) (law_atoms.params.zip [(Fm.xo f g).V])) 1953653104 a.V) (elt := .var 1836020833) (t := .var 1836020833) (gs := []) (l := a.atoms) (g := id) (f := fun v => [v]) fun v hv => ⟨_, rfl, cg_nil (e_var' lke_same)⟩
          rw [List.map_id, show a.atoms.flatMap (fun v => [v]) = a.atoms by simp] at C2
          exact cg_cons (i_val (by rfl) (e_call rfl (es_cons (e_var' lke_same) es_nil) (I a ha)) rfl) C2⟩) (okLen_of (by simp only [List.flatMap_cons, List.flatMap_nil, List.length_append, List.length_nil]; lia))
      (repeat' (first | walk_at "mini e" | walk_at "mini a"))
    · simp [Fm.atoms]
    · rfl
end
end Mini.L2
end
section
set_option autoImplicit false
set_option maxRecDepth 10000
set_option maxHeartbeats 2000000
namespace Mini.L2
open Mini

noncomputable def dV (op : Nat) (args : List Int) (i : Int) : V := .tup (.str op :: .int i :: intsV args)
theorem dV_isKey (op : Nat) (args : List Int) (i : Int) : (dV op args i).isKey = true := by
  simp only [dV, V.isKey, V.keys, V.key, keys_ints, Bool.and_self, Bool.true_and]
/-- what an atom's key tells -/
noncomputable def toldOf (mk : List (Int × V)) (k : V) : V := match k with
  | .int i => (getI mk i).getD k
  | _ => k
/-- what a told thing is worth -/
noncomputable def sem1 (vs : List (Int × Int)) (op : Nat) (args : List Int) (i : Int) : Bool :=
  let g := fun t : Int => ((vs.find? fun p => p.1 == t).map (·.2)).getD 0
  match args with
  | [t] => if op = 448630452852 then decide (g t = 1) else decide (Int.fmod (Int.fdiv (g t) (2 ^ i.toNat)) 2 = 1)
  | [a, b] => if op = 521611141475 then decide (2 ^ i.toNat ≤ Int.fmod (g a) (2 ^ i.toNat) + Int.fmod (g b) (2 ^ i.toNat)) else decide (Int.fmod (g a) (2 ^ i.toNat) < Int.fmod (g b) (2 ^ i.toNat))
  | _ => false
section
variable {H : Hp} {mr vr : Nat} {vl : List (Int × V)} {n : Nat}
theorem single_truth {t x i : Int} (hv : nth H vr = some (.dI vl)) (g : getI vl t = some (.int x)) : Ca P (n+20) law_single [dV 448630452852 [t] i, .ref vr] H (.bool (decide (x = 1))) H := by
  have s : subV H (.ref vr) (.int t) = some (.int x) := by rw [s_in hv, g]
  apply c_ret'
  · rfl
  · (repeat' (first | walk_at "mini e" | walk_at "mini a"))
  · rfl
  · rfl
theorem pow_ok {i : Int} (i0 : 0 ≤ i) (i1 : i ≤ 20) : (2 : Int) ^ i.toNat ≠ 0 ∧ ((2 : Int) ^ i.toNat).natAbs ≤ 10000000 := by
  refine ⟨Int.ne_of_gt (Int.pow_pos (by decide)), ?_⟩
  rw [Int.natAbs_pow]
  exact Nat.le_trans (Nat.pow_le_pow_right (by decide) (show i.toNat ≤ 20 by lia)) (by decide)
theorem single_bit {t x i : Int} (hv : nth H vr = some (.dI vl)) (g : getI vl t = some (.int x)) (i0 : 0 ≤ i) (i1 : i ≤ 20) : Ca P (n+20) law_single [dV 7629154 [t] i, .ref vr] H (.bool (decide (Int.fmod (Int.fdiv x (2 ^ i.toNat)) 2 = 1))) H := by
  have s : subV H (.ref vr) (.int t) = some (.int x) := by rw [s_in hv, g]
  obtain ⟨p0, p1⟩ := pow_ok i0 i1
  apply c_ret'
  · rfl
  · (repeat' (first | walk_at "mini e" | with_reducible exact b_pow (by decide) i0 (by lia) | with_reducible exact b_fdiv p0 p1 | with_reducible exact b_mod (by decide) | walk_at "mini a"))
  · rfl
  · rfl
theorem single_carry {a b x y i : Int} (hv : nth H vr = some (.dI vl)) (ga : getI vl a = some (.int x)) (gb : getI vl b = some (.int y)) (i0 : 0 ≤ i) (i1 : i ≤ 20) : Ca P (n+20) law_single [dV 521611141475 [a, b] i, .ref vr] H (.bool (decide (2 ^ i.toNat ≤ Int.fmod x (2 ^ i.toNat) + Int.fmod y (2 ^ i.toNat)))) H := by
  have s : subV H (.ref vr) (.int a) = some (.int x) := by rw [s_in hv, ga]
  have s2 : subV H (.ref vr) (.int b) = some (.int y) := by rw [s_in hv, gb]
  obtain ⟨p0, p1⟩ := pow_ok i0 i1
  apply c_ret'
  · rfl
  · (repeat' (first | walk_at "mini e" | with_reducible exact b_pow (by decide) i0 (by lia) | with_reducible exact b_mod p0 | walk_at "mini a"))
  · rfl
  · rfl
theorem single_below {a b x y i : Int} (hv : nth H vr = some (.dI vl)) (ga : getI vl a = some (.int x)) (gb : getI vl b = some (.int y)) (i0 : 0 ≤ i) (i1 : i ≤ 20) : Ca P (n+20) law_single [dV 512970483042 [a, b] i, .ref vr] H (.bool (decide (Int.fmod x (2 ^ i.toNat) < Int.fmod y (2 ^ i.toNat)))) H := by
  have s : subV H (.ref vr) (.int a) = some (.int x) := by rw [s_in hv, ga]
  have s2 : subV H (.ref vr) (.int b) = some (.int y) := by rw [s_in hv, gb]
  obtain ⟨p0, p1⟩ := pow_ok i0 i1
  apply c_ret'
  · rfl
  · (repeat' (first | walk_at "mini e" | with_reducible exact b_pow (by decide) i0 (by lia) | with_reducible exact b_mod p0 | walk_at "mini a"))
  · rfl
  · rfl
theorem nth_append {H J : Hp} {r : Nat} {o : O} (h : nth H r = some o) : nth (H ++ J) r = some o := by
  unfold nth at *
  have l : r < H.length := by
    rcases Nat.lt_or_ge r H.length with q | q
    · exact q
    · rw [List.getElem?_eq_none q] at h; cases h
  rw [List.getElem?_append_left l, h]
/-- a key that the dict of the made ones takes -/
noncomputable def KeyOk (k : V) : Prop := (∃ i, k = .int i) ∨ ∃ ts, k = .tup ts ∧ (V.tup ts).isKey = true
theorem ev_told {ρ : Lo} {k : V} {mk : List (Int × V)} {e : E} {m : Nat} (hm : nth H mr = some (.dI mk)) (hk : KeyOk k) (ho : ∀ n, Ev P (n+5) (.var m) ρ H (.ref mr) H) (he : ∀ n, Ev P (n+5) e ρ H k H) : Ev P (n+6) (.meth (.var m) 7628135 [e, e]) ρ H (toldOf mk k) H := by
  rcases hk with ⟨i, rfl⟩ | ⟨ts, rfl, q⟩
  · exact e_getI (ho _) hm (he _) (he _) hm rfl
  · exact e_getIt (ho _) hm (he _) (he _) hm q
/-- the dict of the four readings of two truths -/
noncomputable def nB (b : Bool) : Int := if b then 1 else 0
noncomputable def two (a b : Bool) : O := .dS [(6581857, .bool (decide (nB a + nB b = 2))), (29295, .bool (decide (0 < nB a + nB b))), (7499640, .bool (decide (nB a + nB b = 1))), (6710889, .bool (!decide (nB a + nB b = 1)))]
theorem sum_two (a b : Bool) (H : Hp) : callBi .sum [.lst [.bool a, .bool b]] H = some (.int (nB a + nB b), H) := by cases a <;> cases b <;> rfl
theorem two_mk (a b : Bool) : mkDict .s [.str 6581857, .str 29295, .str 7499640, .str 6710889] [.bool (decide (nB a + nB b = 2)), .bool (decide (0 < nB a + nB b)), .bool (decide (nB a + nB b = 1)), .bool (!decide (nB a + nB b = 1))] = some (two a b) := by kernel_rfl
theorem nth_end {H : Hp} {o : O} : nth (H ++ [o]) H.length = some o := by unfold nth; rw [List.getElem?_append_right (Nat.le_refl _), Nat.sub_self]; rfl
theorem two_an (a b : Bool) (H : Hp) : subV (H ++ [two a b]) (.ref H.length) (.str 6581857) = some (.bool (a && b)) := by
  simp only [subV, nth_end, two]; cases a <;> cases b <;> rfl
theorem two_og (a b : Bool) (H : Hp) : subV (H ++ [two a b]) (.ref H.length) (.str 29295) = some (.bool (a || b)) := by
  simp only [subV, nth_end, two]; cases a <;> cases b <;> rfl
theorem two_xo (a b : Bool) (H : Hp) : subV (H ++ [two a b]) (.ref H.length) (.str 7499640) = some (.bool (a != b)) := by
  simp only [subV, nth_end, two]; cases a <;> cases b <;> rfl
/-- what a formula comes to -/
noncomputable def FE (mr vr : Nat) (vl : List (Int × V)) (mk : List (Int × V)) (s : V → Bool) (f : Fm) : Prop := ∀ (H : Hp), nth H mr = some (.dI mk) → nth H vr = some (.dI vl) → (∀ k ∈ f.atoms, KeyOk k ∧ ∀ (H : Hp) (n : Nat), nth H vr = some (.dI vl) → Ca P (n+20) law_single [toldOf mk k, .ref vr] H (.bool (s k)) H) →
    ∃ J, Cx (30 * (f.dep + 1)) law_formula [f.V, .ref mr, .ref vr] H (.bool (f.ev s)) (H ++ J)
theorem fe_tt (mk : List (Int × V)) (s : V → Bool) : FE mr vr vl mk s .tt := fun H hm hv h => ⟨[], .of fun n => by
      rw [List.append_nil]
      apply c_ret'
      · rfl
      · (repeat' (first | walk_at "mini e" | walk_at "mini a"))
      · rfl
      · rfl⟩
theorem fe_ff (mk : List (Int × V)) (s : V → Bool) : FE mr vr vl mk s .ff := fun H hm hv h => ⟨[], .of fun n => by
      rw [List.append_nil]
      apply c_ret'
      · rfl
      · (repeat' (first | walk_at "mini e" | walk_at "mini a"))
      · rfl
      · rfl⟩
theorem fe_at (mk : List (Int × V)) (s : V → Bool) (k : V) : FE mr vr vl mk s (.at k) := fun H hm hv h => ⟨[], .of fun n => by
      rw [List.append_nil]
      obtain ⟨h1, h2⟩ := h k (by simp [Fm.atoms])
      have T := ev_told (n := n+21) (ρ := law_formula.params.zip [(Fm.at k).V, .ref mr, .ref vr]) (e := .sub (.var 27422324344123238) (.num 1)) (m := 1701077357) hm h1 (fun n => e_var' (lke_base rfl)) (fun n => e_sub (e_var' (lke_base rfl)) e_num rfl)
      have S := h2 H (n+7) hv
      apply c_ret'
      · rfl
      · (repeat' (first | walk_at "mini e" | exact T | exact h2 H _ hv | walk_at "mini a"))
      · rfl
      · rfl⟩
theorem fe_no (mk : List (Int × V)) (s : V → Bool) (f : Fm) (I0 : FE mr vr vl mk s f) : FE mr vr vl mk s (.no f) := fun H hm hv h => by
    obtain ⟨J, I⟩ := I0 H hm hv h
    refine ⟨J, fun m hm' => ?_⟩
    obtain ⟨n, rfl⟩ : ∃ n, m = n + 30 := ⟨m - 30, by simp only [Fm.dep] at hm'; lia⟩
    have I := I (n+27) (by simp only [Fm.dep] at hm'; lia)
    apply c_ret'
    · rfl
    · (repeat' (first | walk_at "mini e" | exact I | apply e_slice_lo | apply e_comp1 | walk_at "mini a"))
    · show V.bool _ = V.bool (!f.ev s)
      cases f.ev s <;> rfl
    · rfl
theorem fe_an (mk : List (Int × V)) (s : V → Bool) (f g : Fm) (I0 : FE mr vr vl mk s f) (I1 : FE mr vr vl mk s g) : FE mr vr vl mk s (.an f g) := fun H hm hv h => by
    obtain ⟨J, I⟩ := I0 H hm hv fun k hk => h k (List.mem_append_left _ hk)
    obtain ⟨J2, I2⟩ := I1 (H ++ J) (nth_append hm) (nth_append hv) fun k hk => h k (List.mem_append_right _ hk)
    refine ⟨J ++ (J2 ++ [two (f.ev s) (g.ev s)]), fun m hm' => ?_⟩
    obtain ⟨n, rfl⟩ : ∃ n, m = n + 30 := ⟨m - 30, by simp only [Fm.dep] at hm'; lia⟩
    have I := I (n+27) (by simp only [Fm.dep] at hm'; lia)
    have I2 := I2 (n+27) (by simp only [Fm.dep] at hm'; lia)
    rw [← List.append_assoc, ← List.append_assoc]
    show Ca P (n+30) law_formula _ H (.bool (f.ev s && g.ev s)) _
    generalize f.ev s = a at *
    generalize g.ev s = b at *
    apply c_ret'
    · rfl
    · (repeat' (first | walk_at "mini e" | apply e_slice_lo | apply e_comp1 | apply e_dict | apply ep_cons | exact ep_nil | with_reducible exact sum_two _ _ _ | with_reducible exact two_mk _ _ | with_reducible exact two_an _ _ _ | walk_at "mini a"))
    · rfl
    · rfl
theorem fe_og (mk : List (Int × V)) (s : V → Bool) (f g : Fm) (I0 : FE mr vr vl mk s f) (I1 : FE mr vr vl mk s g) : FE mr vr vl mk s (.og f g) := fun H hm hv h => by
    obtain ⟨J, I⟩ := I0 H hm hv fun k hk => h k (List.mem_append_left _ hk)
    obtain ⟨J2, I2⟩ := I1 (H ++ J) (nth_append hm) (nth_append hv) fun k hk => h k (List.mem_append_right _ hk)
    refine ⟨J ++ (J2 ++ [two (f.ev s) (g.ev s)]), fun m hm' => ?_⟩
    obtain ⟨n, rfl⟩ : ∃ n, m = n + 30 := ⟨m - 30, by simp only [Fm.dep] at hm'; lia⟩
    have I := I (n+27) (by simp only [Fm.dep] at hm'; lia)
    have I2 := I2 (n+27) (by simp only [Fm.dep] at hm'; lia)
    rw [← List.append_assoc, ← List.append_assoc]
    show Ca P (n+30) law_formula _ H (.bool (f.ev s || g.ev s)) _
    generalize f.ev s = a at *
    generalize g.ev s = b at *
    apply c_ret'
    · rfl
    · (repeat' (first | walk_at "mini e" | apply e_slice_lo | apply e_comp1 | apply e_dict | apply ep_cons | exact ep_nil | with_reducible exact sum_two _ _ _ | with_reducible exact two_mk _ _ | with_reducible exact two_og _ _ _ | walk_at "mini a"))
    · rfl
    · rfl
theorem fe_xo (mk : List (Int × V)) (s : V → Bool) (f g : Fm) (I0 : FE mr vr vl mk s f) (I1 : FE mr vr vl mk s g) : FE mr vr vl mk s (.xo f g) := fun H hm hv h => by
    obtain ⟨J, I⟩ := I0 H hm hv fun k hk => h k (List.mem_append_left _ hk)
    obtain ⟨J2, I2⟩ := I1 (H ++ J) (nth_append hm) (nth_append hv) fun k hk => h k (List.mem_append_right _ hk)
    refine ⟨J ++ (J2 ++ [two (f.ev s) (g.ev s)]), fun m hm' => ?_⟩
    obtain ⟨n, rfl⟩ : ∃ n, m = n + 30 := ⟨m - 30, by simp only [Fm.dep] at hm'; lia⟩
    have I := I (n+27) (by simp only [Fm.dep] at hm'; lia)
    have I2 := I2 (n+27) (by simp only [Fm.dep] at hm'; lia)
    rw [← List.append_assoc, ← List.append_assoc]
    show Ca P (n+30) law_formula _ H (.bool (f.ev s != g.ev s)) _
    generalize f.ev s = a at *
    generalize g.ev s = b at *
    apply c_ret'
    · rfl
    · (repeat' (first | walk_at "mini e" | apply e_slice_lo | apply e_comp1 | apply e_dict | apply ep_cons | exact ep_nil | with_reducible exact sum_two _ _ _ | with_reducible exact two_mk _ _ | with_reducible exact two_xo _ _ _ | walk_at "mini a"))
    · rfl
    · rfl
theorem formula_ev (mk : List (Int × V)) (s : V → Bool) (f : Fm) : FE mr vr vl mk s f := by
  induction f with
  | tt => exact fe_tt mk s
  | ff => exact fe_ff mk s
  | «at» k => exact fe_at mk s k
  | no f a => exact fe_no mk s f a
  | an f g a b => exact fe_an mk s f g a b
  | og f g a b => exact fe_og mk s f g a b
  | xo f g a b => exact fe_xo mk s f g a b
end
end Mini.L2
end
section
set_option autoImplicit false
set_option maxRecDepth 10000
set_option maxHeartbeats 2000000
namespace Mini.L2
open Mini

noncomputable def keyOf (ts : List Tm) (op : Nat) (args : List Int) (i : Int) : V := if fd ts ⟨op, args, 0, i⟩ = 0 then dV op args i else .int (fd ts ⟨op, args, 0, i⟩)
noncomputable abbrev jO (tr : Nat) : O := .inst 7306919375355013442 [(1802396002, .ref 1), (126879447277940, .ref tr)]
noncomputable def bitF (ts : List Tm) (i t : Int) : Fm := .at (keyOf ts 7629154 [t] i)
noncomputable def sideF (ts : List Tm) (op : Nat) (i a b : Int) : Fm := if i = 0 then .ff else .at (keyOf ts op [a, b] i)
section
variable {n : Nat} {st : O} {X : Ext} {ts : List Tm} {rest : Hp} {jr tr : Nat}
theorem l_bit_key {i t : Int} (hj : nth (hp st X ts rest) jr = some (jO tr)) : Ca P (n+18) BitJudge_bit_key [.ref jr, .int i, .int t] (hp st X ts rest) (keyOf ts 7629154 [t] i) (hp st X ts rest) := by
  by_cases h : fd ts ⟨7629154, [t], 0, i⟩ = 0
  · have c : (!decide (fd ts ⟨7629154, [t], 0, i⟩ = 0)) = false := by rw [decide_eq_true h]; rfl
    apply c_ret'
    · rfl
    · (repeat' (first | walk_at "mini e" | exact l_find (args := [t]) | walk_at "mini a"))
    · unfold keyOf; rw [if_pos h]; rfl
    · rfl
  · have c : (!decide (fd ts ⟨7629154, [t], 0, i⟩ = 0)) = true := by rw [decide_eq_false h]; rfl
    apply c_ret'
    · rfl
    · (repeat' (first | walk_at "mini e" | exact l_find (args := [t]) | walk_at "mini a"))
    · unfold keyOf; rw [if_neg h]
    · rfl
theorem l_jbit {i t : Int} (hj : nth (hp st X ts rest) jr = some (jO tr)) : Ca P (n+24) BitJudge_bit [.ref jr, .int i, .int t] (hp st X ts rest) (bitF ts i t).V (hp st X ts rest) := by
  apply c_ret'
  · rfl
  · (repeat' (first | walk_at "mini e" | exact l_bit_key hj | walk_at "mini a"))
  · rfl
  · rfl
theorem l_side {op : Nat} {i a b : Int} (hj : nth (hp st X ts rest) jr = some (jO tr)) : Ca P (n+24) BitJudge_side [.ref jr, .str op, .int i, .int a, .int b] (hp st X ts rest) (sideF ts op i a b).V (hp st X ts rest) := by
  by_cases i0 : i = 0
  · apply c_ret'
    · rfl
    · (repeat' (first | walk_at "mini e" | walk_at "mini a"))
    · unfold sideF; rw [if_pos i0]; rfl
    · rfl
  · by_cases h : fd ts ⟨op, [a, b], 0, i⟩ = 0
    · have c : (!decide (fd ts ⟨op, [a, b], 0, i⟩ = 0)) = false := by rw [decide_eq_true h]; rfl
      apply c_ret'
      · rfl
      · (repeat' (first | walk_at "mini e" | exact l_find (args := [a, b]) | walk_at "mini a"))
      · unfold sideF keyOf; rw [if_neg i0, if_pos h]; rfl
      · rfl
    · have c : (!decide (fd ts ⟨op, [a, b], 0, i⟩ = 0)) = true := by rw [decide_eq_false h]; rfl
      apply c_ret'
      · rfl
      · (repeat' (first | walk_at "mini e" | exact l_find (args := [a, b]) | walk_at "mini a"))
      · unfold sideF keyOf; rw [if_neg i0, if_neg h]; rfl
      · rfl
/-! the wanted formula, operation by operation -/
theorem w_num {d i : Int} (hj : nth (hp st X ts rest) jr = some (jO tr)) (i0 : 0 ≤ i) : Ca P (n+40) BitJudge_wanted_bit [.ref jr, .str 470121608802, .tup [], .int d, .int i, .str 125779768604014] (hp st X ts rest) (if Int.fmod (Int.fdiv d (2 ^ i.toNat)) 2 = 1 then Fm.tt else Fm.ff).V (hp st X ts rest) := by
  have bs : binV .shr (.int d) (.int i) = some (.int (Int.fdiv d (2 ^ i.toNat))) := b_int (if_pos i0)
  by_cases h : Int.fmod (Int.fdiv d (2 ^ i.toNat)) 2 = 1
  · apply c_ret'
    · rfl
    · (repeat' (first | walk_at "mini e" | with_reducible exact b_mod (by decide) | apply e_and | exact ai_f (by walk_at "mini d") | apply ai_t (by walk_at "mini d") | apply e_and_1 | walk_at "mini a"))
    · rw [if_pos h]; rfl
    · rfl
  · apply c_ret'
    · rfl
    · (repeat' (first | walk_at "mini e" | with_reducible exact b_mod (by decide) | apply e_and | exact ai_f (by walk_at "mini d") | apply ai_t (by walk_at "mini d") | apply e_and_1 | walk_at "mini a"))
    · rw [if_neg h]; rfl
    · rfl
theorem w_not {x i d : Int} (hj : nth (hp st X ts rest) jr = some (jO tr)) : Ca P (n+60) BitJudge_wanted_bit [.ref jr, .str 500085716578, .tup [.int x], .int d, .int i, .str 7630702] (hp st X ts rest) (Fm.no (bitF ts i x)).V (hp st X ts rest) := by
  apply c_ret'
  · rfl
  · (repeat' (first | walk_at "mini e" | apply e_and | exact ai_f (by walk_at "mini d") | apply ai_t (by walk_at "mini d") | apply e_and_1 | exact l_jbit hj | exact l_side hj | walk_at "mini a"))
  · rfl
  · rfl
theorem w_and {x y i d : Int} (hj : nth (hp st X ts rest) jr = some (jO tr)) : Ca P (n+60) BitJudge_wanted_bit [.ref jr, .str 431348610658, .tup [.int x, .int y], .int d, .int i, .str 6581857] (hp st X ts rest) (Fm.an (bitF ts i x) (bitF ts i y)).V (hp st X ts rest) := by
  apply c_ret'
  · rfl
  · (repeat' (first | walk_at "mini e" | apply e_and | exact ai_f (by walk_at "mini d") | apply ai_t (by walk_at "mini d") | apply e_and_1 | exact l_jbit hj | exact l_side hj | walk_at "mini a"))
  · rfl
  · rfl
theorem w_or {x y i d : Int} (hj : nth (hp st X ts rest) jr = some (jO tr)) : Ca P (n+60) BitJudge_wanted_bit [.ref jr, .str 1919907426, .tup [.int x, .int y], .int d, .int i, .str 29295] (hp st X ts rest) (Fm.og (bitF ts i x) (bitF ts i y)).V (hp st X ts rest) := by
  apply c_ret'
  · rfl
  · (repeat' (first | walk_at "mini e" | apply e_and | exact ai_f (by walk_at "mini d") | apply ai_t (by walk_at "mini d") | apply e_and_1 | exact l_jbit hj | exact l_side hj | walk_at "mini a"))
  · rfl
  · rfl
theorem w_xor {x y i d : Int} (hj : nth (hp st X ts rest) jr = some (jO tr)) : Ca P (n+60) BitJudge_wanted_bit [.ref jr, .str 491496437346, .tup [.int x, .int y], .int d, .int i, .str 7499640] (hp st X ts rest) (Fm.xo (bitF ts i x) (bitF ts i y)).V (hp st X ts rest) := by
  apply c_ret'
  · rfl
  · (repeat' (first | walk_at "mini e" | apply e_and | exact ai_f (by walk_at "mini d") | apply ai_t (by walk_at "mini d") | apply e_and_1 | exact l_jbit hj | exact l_side hj | walk_at "mini a"))
  · rfl
  · rfl
theorem w_sum {x y i d : Int} (hj : nth (hp st X ts rest) jr = some (jO tr)) : Ca P (n+60) BitJudge_wanted_bit [.ref jr, .str 431180838498, .tup [.int x, .int y], .int d, .int i, .str 7173491] (hp st X ts rest) (Fm.xo (Fm.xo (bitF ts i x) (bitF ts i y)) (sideF ts 521611141475 i x y)).V (hp st X ts rest) := by
  apply c_ret'
  · rfl
  · (repeat' (first | walk_at "mini e" | apply e_and | exact ai_f (by walk_at "mini d") | apply ai_t (by walk_at "mini d") | apply e_and_1 | exact l_jbit hj | exact l_side hj | walk_at "mini a"))
  · rfl
  · rfl
theorem w_diff {x y i d : Int} (hj : nth (hp st X ts rest) jr = some (jO tr)) : Ca P (n+60) BitJudge_wanted_bit [.ref jr, .str 422877296226, .tup [.int x, .int y], .int d, .int i, .str 478793197323228067293540] (hp st X ts rest) (Fm.xo (Fm.xo (bitF ts i x) (bitF ts i y)) (sideF ts 512970483042 i x y)).V (hp st X ts rest) := by
  apply c_ret'
  · rfl
  · (repeat' (first | walk_at "mini e" | apply e_and | exact ai_f (by walk_at "mini d") | apply ai_t (by walk_at "mini d") | apply e_and_1 | exact l_jbit hj | exact l_side hj | walk_at "mini a"))
  · rfl
  · rfl
end
end Mini.L2
end
section
set_option autoImplicit false
set_option maxRecDepth 10000
set_option maxHeartbeats 2000000
namespace Mini.L2
open Mini

/-- so many nots over a term -/
inductive Nots (ts : List Tm) (c : Int) : Int → Nat → Prop
  | zero {t : Tm} : At ts c t → Nat.beq t.op 7630702 = false → Nots ts c c 0
  | succ {a b : Int} {k : Nat} {s d : Int} : At ts b ⟨7630702, [a], s, d⟩ → Nots ts c a k → Nots ts c b (k+1)
noncomputable def sgn (k : Nat) : Int := if k % 2 = 0 then 1 else -1
theorem sgn_succ (k : Nat) : sgn (k+1) = -(sgn k) := by unfold sgn; split <;> split <;> lia
theorem cop_eq_str {H : Hp} {a b : Nat} : cop .eq H (.str a) (.str b) = some (Nat.beq a b) := by
  simp only [cop, eqV, V.flat, V.dep, V.beq]
  show some (a == b) = _
  rw [show (a == b) = Nat.beq a b by rw [Bool.eq_iff_iff]; simp [Nat.beq_eq]]
section
variable {n : Nat} {st : O} {X : Ext} {ts : List Tm} {rest : Hp} {jr tr : Nat}
set_option tactic.hygienic true in
theorem signed_loop (hj : nth (hp st X ts rest) jr = some (jO tr)) {c : Int} : ∀ (k : Nat) (t s : Int) (f : Nat), Nots ts c t k → k < f →
    exWhl (sem P (n+24)) (.cmp (.meth (.attr (.var 1718379891) 1802396002) 28783 [.var 116]) [.eq] [.str 7630702]) [.asg (.var 116) (.sub (.meth (.attr (.var 1718379891) 1802396002) 1936159329 [.var 116]) (.num 0)), .asg (.var 1852270963) (.neg (.var 1852270963))] f [(1718379891, .ref jr), (116, .int t), (1852270963, .int s)] (hp st X ts rest)
      = some (.nxt, [(1718379891, .ref jr), (116, .int c), (1852270963, .int (s * sgn k))], hp st X ts rest)
  | 0, t, s, f+1, h, hf => by
    cases h with
    | zero a o =>
      rename_i tm
      have C : ∀ H : Hp, cop .eq H (.str tm.op) (.str 7630702) = some false := fun H => by rw [cop_eq_str, o]
      have T : Ev P (n+24) (.cmp (.meth (.attr (.var 1718379891) 1802396002) 28783 [.var 116]) [.eq] [.str 7630702]) [(1718379891, .ref jr), (116, .int c), (1852270963, .int s)] (hp st X ts rest) (.bool false) (hp st X ts rest) := by
        (repeat' (first | walk_at "mini e" | exact l_op a | with_reducible exact C _ | walk_at "mini a"))
      rw [whl_f T.h rfl]
      simp [sgn]
  | k+1, t, s, f+1, h, hf => by
    cases h with
    | succ a h =>
      rename_i a' s' d'
      have T : Ev P (n+24) (.cmp (.meth (.attr (.var 1718379891) 1802396002) 28783 [.var 116]) [.eq] [.str 7630702]) [(1718379891, .ref jr), (116, .int t), (1852270963, .int s)] (hp st X ts rest) (.bool true) (hp st X ts rest) := by
        (repeat' (first | walk_at "mini e" | exact l_op a | walk_at "mini a"))
      have B : Xs P (n+24) [.asg (.var 116) (.sub (.meth (.attr (.var 1718379891) 1802396002) 1936159329 [.var 116]) (.num 0)), .asg (.var 1852270963) (.neg (.var 1852270963))] [(1718379891, .ref jr), (116, .int t), (1852270963, .int s)] (hp st X ts rest) .nxt [(1718379891, .ref jr), (116, .int a'), (1852270963, .int (-s))] (hp st X ts rest) := by
        (repeat' (first | walk_at "mini e" | exact l_args a | walk_at "mini a"))
      refine whl_t T.h rfl B.h ?_
      rw [signed_loop hj k a' (-s) f h (by lia), sgn_succ, Int.neg_mul, Int.mul_neg]
theorem l_signed {c t : Int} {k : Nat} (hj : nth (hp st X ts rest) jr = some (jO tr)) (h : Nots ts c t k) (hk : k ≤ 10) : Ca P (n+34) BitJudge_signed [.ref jr, .int t] (hp st X ts rest) (.int (sgn k * c)) (hp st X ts rest) := by
  have L := signed_loop (n := n+9) hj k t 1 turns h (by show k < 100000; lia)
  rw [Int.one_mul] at L
  have bm : binV .mul (.int (sgn k)) (.int c) = some (.int (sgn k * c)) := b_mul (by unfold sgn; split <;> decide)
  apply c_ret'
  · rfl
  · (repeat' (first | walk_at "mini e" | apply x_whl L | walk_at "mini a"))
  · rfl
  · rfl
noncomputable def chF (c : Int) (k : Nat) : Fm := if k % 2 = 0 then .at (.int c) else .no (.at (.int c))
theorem w_ite {t c x y i d : Int} {k : Nat} (hj : nth (hp st X ts rest) jr = some (jO tr)) (h : Nots ts c t k) (hk : k ≤ 10) (c0 : 1 ≤ c) : Ca P (n+60) BitJudge_wanted_bit [.ref jr, .str 6648937, .tup [.int t, .int x, .int y], .int d, .int i, .str 6648937] (hp st X ts rest) (Fm.og (.an (chF c k) (bitF ts i x)) (.an (.no (chF c k)) (bitF ts i y))).V (hp st X ts rest) := by
  have S : ∀ n, Ca P (n+34) BitJudge_signed [.ref jr, .int t] (hp st X ts rest) (.int (sgn k * c)) (hp st X ts rest) := fun n => l_signed hj h hk
  by_cases e : k % 2 = 0
  · have e1 : sgn k * c = c := by unfold sgn; rw [if_pos e, Int.one_mul]
    rw [e1] at S
    have ab : ∀ H, callBi .abs [.int c] H = some (.int c, H) := fun H => by show some (V.int (c.natAbs : Int), H) = _; rw [Int.natAbs_of_nonneg (by lia)]
    unfold chF
    rw [if_pos e]
    apply c_ret'
    · rfl
    · (repeat' (first | walk_at "mini e" | apply e_and | exact ai_f (by walk_at "mini d") | apply ai_t (by walk_at "mini d") | apply e_and_1 | exact l_jbit hj | exact S _ | with_reducible exact ab _ | walk_at "mini a"))
    · rfl
    · rfl
  · have e1 : sgn k * c = -c := by unfold sgn; rw [if_neg e]; lia
    rw [e1] at S
    have ab : ∀ H, callBi .abs [.int (-c)] H = some (.int c, H) := fun H => by show some (V.int ((-c).natAbs : Int), H) = _; rw [Int.natAbs_neg, Int.natAbs_of_nonneg (by lia)]
    unfold chF
    rw [if_neg e]
    apply c_ret'
    · rfl
    · (repeat' (first | walk_at "mini e" | apply e_and | exact ai_f (by walk_at "mini d") | apply ai_t (by walk_at "mini d") | apply e_and_1 | exact l_jbit hj | exact S _ | with_reducible exact ab _ | walk_at "mini a"))
    · rfl
    · rfl
theorem wi_concat {x z i d wz : Int} {tz : Tm} (hj : nth (hp st X ts rest) jr = some (jO tr)) (hz : At ts z tz) (hw : Wd X tz.sort wz) : Ca P (n+40) BitJudge_wired_bit [.ref jr, .str 127961628831587, .tup [.int x, .int z], .int d, .int i] (hp st X ts rest) (if i < wz then bitF ts i z else bitF ts (i - wz) x).V (hp st X ts rest) := by
  by_cases h : i < wz
  · rw [if_pos h]
    apply c_ret'
    · rfl
    · (repeat' (first | walk_at "mini e" | exact l_jbit hj | exact l_width hz hw | walk_at "mini a"))
    · rfl
    · rfl
  · rw [if_neg h]
    apply c_ret'
    · rfl
    · (repeat' (first | walk_at "mini e" | exact l_jbit hj | exact l_width hz hw | walk_at "mini a"))
    · rfl
    · rfl
theorem wi_extract {x i a b : Int} (hj : nth (hp st X ts rest) jr = some (jO tr)) : Ca P (n+40) BitJudge_wired_bit [.ref jr, .str 32760367481649253, .tup [.int x], .tup [.int a, .int b], .int i] (hp st X ts rest) (bitF ts (i + b) x).V (hp st X ts rest) := by
  apply c_ret'
  · rfl
  · (repeat' (first | walk_at "mini e" | exact l_jbit hj | walk_at "mini a"))
  · rfl
  · rfl
theorem wi_zext {x i d wx : Int} {tx : Tm} (hj : nth (hp st X ts rest) jr = some (jO tr)) (hx : At ts x tx) (hw : Wd X tx.sort wx) : Ca P (n+40) BitJudge_wired_bit [.ref jr, .str 121413913788299389279823226, .tup [.int x], .int d, .int i] (hp st X ts rest) (if i < wx then bitF ts i x else Fm.ff).V (hp st X ts rest) := by
  by_cases h : i < wx
  · rw [if_pos h]
    apply c_ret'
    · rfl
    · (repeat' (first | walk_at "mini e" | exact l_jbit hj | exact l_width hx hw | walk_at "mini a"))
    · rfl
    · rfl
  · rw [if_neg h]
    apply c_ret'
    · rfl
    · (repeat' (first | walk_at "mini e" | exact l_jbit hj | exact l_width hx hw | walk_at "mini a"))
    · rfl
    · rfl
theorem wi_sext {x i d wx : Int} {tx : Tm} (hj : nth (hp st X ts rest) jr = some (jO tr)) (hx : At ts x tx) (hw : Wd X tx.sort wx) : Ca P (n+40) BitJudge_wired_bit [.ref jr, .str 121413913788299389262326131, .tup [.int x], .int d, .int i] (hp st X ts rest) (if i < wx then bitF ts i x else bitF ts (wx - 1) x).V (hp st X ts rest) := by
  by_cases h : i < wx
  · rw [if_pos h]
    apply c_ret'
    · rfl
    · (repeat' (first | walk_at "mini e" | exact l_jbit hj | exact l_width hx hw | walk_at "mini a"))
    · rfl
    · rfl
  · rw [if_neg h]
    apply c_ret'
    · rfl
    · (repeat' (first | walk_at "mini e" | exact l_jbit hj | exact l_width hx hw | walk_at "mini a"))
    · rfl
    · rfl
theorem w_wire {op : Nat} {some data : V} {i : Int} {f : Fm} (hj : nth (hp st X ts rest) jr = Option.some (jO tr)) (W : ∀ n, Ca P (n+40) BitJudge_wired_bit [.ref jr, .str op, some, data, .int i] (hp st X ts rest) f.V (hp st X ts rest)) : Ca P (n+60) BitJudge_wanted_bit [.ref jr, .str op, some, data, .int i, .str 1701996919] (hp st X ts rest) f.V (hp st X ts rest) := by
  apply c_ret'
  · rfl
  · (repeat' (first | walk_at "mini e" | apply e_and | exact ai_f (by walk_at "mini d") | apply ai_t (by walk_at "mini d") | apply e_and_1 | exact W _ | walk_at "mini a"))
  · rfl
  · rfl
end
end Mini.L2
end
section
set_option autoImplicit false
set_option maxRecDepth 10000
set_option maxHeartbeats 4000000
namespace Mini.L2
open Mini
/-- an operation and a kind that do not meet -/
noncomputable def apart : List (Nat × Nat) := [(470121608802, 7630702), (470121608802, 6581857), (470121608802, 29295), (470121608802, 7499640), (470121608802, 7173491), (470121608802, 478793197323228067293540), (470121608802, 6648937), (470121608802, 465491554661), (470121608802, 521611141475), (500085716578, 125779768604014), (500085716578, 6581857), (500085716578, 29295), (500085716578, 7499640), (500085716578, 7173491), (500085716578, 478793197323228067293540), (500085716578, 6648937), (500085716578, 465491554661), (500085716578, 521611141475), (431348610658, 125779768604014), (431348610658, 7630702), (431348610658, 29295), (431348610658, 7499640), (431348610658, 7173491), (431348610658, 478793197323228067293540), (431348610658, 6648937), (431348610658, 465491554661), (431348610658, 521611141475), (1919907426, 125779768604014), (1919907426, 7630702), (1919907426, 6581857), (1919907426, 7499640), (1919907426, 7173491), (1919907426, 478793197323228067293540), (1919907426, 6648937), (1919907426, 465491554661), (1919907426, 521611141475), (491496437346, 125779768604014), (491496437346, 7630702), (491496437346, 6581857), (491496437346, 29295), (491496437346, 7173491), (491496437346, 478793197323228067293540), (491496437346, 6648937), (491496437346, 465491554661), (491496437346, 521611141475), (431180838498, 125779768604014), (431180838498, 7630702), (431180838498, 6581857), (431180838498, 29295), (431180838498, 7499640), (431180838498, 478793197323228067293540), (431180838498, 6648937), (431180838498, 465491554661), (431180838498, 521611141475), (422877296226, 125779768604014), (422877296226, 7630702), (422877296226, 6581857), (422877296226, 29295), (422877296226, 7499640), (422877296226, 7173491), (422877296226, 6648937), (422877296226, 465491554661), (422877296226, 521611141475), (6648937, 125779768604014), (6648937, 7630702), (6648937, 6581857), (6648937, 29295), (6648937, 7499640), (6648937, 7173491), (6648937, 478793197323228067293540), (6648937, 465491554661), (6648937, 521611141475), (127961628831587, 125779768604014), (127961628831587, 7630702), (127961628831587, 6581857), (127961628831587, 29295), (127961628831587, 7499640), (127961628831587, 7173491), (127961628831587, 478793197323228067293540), (127961628831587, 6648937), (127961628831587, 465491554661), (127961628831587, 521611141475), (32760367481649253, 125779768604014), (32760367481649253, 7630702), (32760367481649253, 6581857), (32760367481649253, 29295), (32760367481649253, 7499640), (32760367481649253, 7173491), (32760367481649253, 478793197323228067293540), (32760367481649253, 6648937), (32760367481649253, 465491554661), (32760367481649253, 521611141475), (121413913788299389279823226, 125779768604014), (121413913788299389279823226, 7630702), (121413913788299389279823226, 6581857), (121413913788299389279823226, 29295), (121413913788299389279823226, 7499640), (121413913788299389279823226, 7173491), (121413913788299389279823226, 478793197323228067293540), (121413913788299389279823226, 6648937), (121413913788299389279823226, 465491554661), (121413913788299389279823226, 521611141475), (121413913788299389262326131, 125779768604014), (121413913788299389262326131, 7630702), (121413913788299389262326131, 6581857), (121413913788299389262326131, 29295), (121413913788299389262326131, 7499640), (121413913788299389262326131, 7173491), (121413913788299389262326131, 478793197323228067293540), (121413913788299389262326131, 6648937), (121413913788299389262326131, 465491554661), (121413913788299389262326131, 521611141475), (465826575970, 125779768604014), (465826575970, 7630702), (465826575970, 6581857), (465826575970, 29295), (465826575970, 7499640), (465826575970, 7173491), (465826575970, 478793197323228067293540), (465826575970, 6648937), (465826575970, 465491554661), (465826575970, 521611141475)]
theorem apart_none : ∀ p ∈ apart, ∀ (n : Nat) (self some data i : V) (H : Hp), callF (sem P (n+60)) BitJudge_wanted_bit [self, .str p.1, some, data, i, .str p.2] H = Option.some (.none, H) := by
  unfold apart
  simp only [List.forall_mem_cons]
  repeat' apply And.intro
  all_goals first | (intro n self some data i H; kernel_rfl) | (intro p hp; cases hp)
noncomputable def noWire : List Nat := [470121608802, 500085716578, 431348610658, 1919907426, 491496437346, 431180838498, 422877296226, 6648937, 465826575970]
theorem wire_none : ∀ op ∈ noWire, ∀ (n : Nat) (st : O) (X : Ext) (ts : List Tm) (rest : Hp) (jr tr : Nat) (some data : V) (i : Int), nth (hp st X ts rest) jr = Option.some (jO tr) → Ca P (n+60) BitJudge_wanted_bit [.ref jr, .str op, some, data, .int i, .str 1701996919] (hp st X ts rest) .none (hp st X ts rest) := by
  have W : ∀ op ∈ noWire, ∀ (n : Nat) (self some data i : V) (H : Hp), callF (sem P (n+40)) BitJudge_wired_bit [self, .str op, some, data, i] H = Option.some (.none, H) := by
    unfold noWire
    simp only [List.forall_mem_cons]
    repeat' apply And.intro
    all_goals first | (intro n self some data i H; kernel_rfl) | (intro p hp; cases hp)
  have V : ∀ op ∈ noWire, ∀ (n : Nat) (st : O) (X : Ext) (ts : List Tm) (rest : Hp) (jr tr : Nat) (some data : V) (i : Int), nth (hp st X ts rest) jr = Option.some (jO tr) → (∀ n, Ca P (n+40) BitJudge_wired_bit [.ref jr, .str op, some, data, .int i] (hp st X ts rest) .none (hp st X ts rest)) → Ca P (n+60) BitJudge_wanted_bit [.ref jr, .str op, some, data, .int i, .str 1701996919] (hp st X ts rest) .none (hp st X ts rest) := by
    intro op hop n st X ts rest jr tr some data i hj W
    apply c_ret'
    · rfl
    · (repeat' (first | walk_at "mini e" | apply e_and | exact ai_f (by walk_at "mini d") | apply ai_t (by walk_at "mini d") | apply e_and_1 | exact W _ | walk_at "mini a"))
    · rfl
    · rfl
  intro op hop n st X ts rest jr tr some data i hj
  exact V op hop n st X ts rest jr tr some data i hj fun n => ⟨W op hop n _ _ _ _ _⟩
noncomputable def kinds : List Nat := [125779768604014, 7630702, 6581857, 29295, 7499640, 7173491, 478793197323228067293540, 6648937, 1701996919, 465491554661, 521611141475]
noncomputable def rows : List (Nat × Nat) := [(470121608802, 125779768604014), (500085716578, 7630702), (431348610658, 6581857), (1919907426, 29295), (491496437346, 7499640), (431180838498, 7173491), (422877296226, 478793197323228067293540), (6648937, 6648937), (127961628831587, 1701996919), (32760367481649253, 1701996919), (121413913788299389279823226, 1701996919), (121413913788299389262326131, 1701996919), (465826575970, 1701736302)]
noncomputable def chkRow (p : Nat × Nat) : Bool := kinds.all fun k => Nat.beq k p.2 || (if Nat.beq k 1701996919 then noWire.any (Nat.beq p.1) else apart.any fun q => Nat.beq q.1 p.1 && Nat.beq q.2 k)
theorem chkRows : rows.all chkRow = true := by decide +kernel
set_option tactic.hygienic true in
theorem kinds_none {p : Nat × Nat} (hp' : p ∈ rows) {k : Nat} (hk : k ∈ kinds) (ne : k ≠ p.2) (n : Nat) (st : O) (X : Ext) (ts : List Tm) (rest : Hp) (jr tr : Nat) (some data : V) (i : Int) (hj : nth (hp st X ts rest) jr = Option.some (jO tr)) :
    Ca P (n+60) BitJudge_wanted_bit [.ref jr, .str p.1, some, data, .int i, .str k] (hp st X ts rest) .none (hp st X ts rest) := by
  have h := chkRows
  rw [List.all_eq_true] at h
  have h := h p hp'
  unfold chkRow at h
  rw [List.all_eq_true] at h
  have h := h k hk
  rw [Bool.or_eq_true] at h
  rcases h with h | h
  · exact absurd (Nat.eq_of_beq_eq_true h) ne
  · split at h
    · rename_i w
      have w := Nat.eq_of_beq_eq_true w
      subst w
      rw [List.any_eq_true] at h
      obtain ⟨o, ho, e⟩ := h
      have e := Nat.eq_of_beq_eq_true e
      rw [e]
      exact wire_none o ho n st X ts rest jr tr some data i hj
    · rw [List.any_eq_true] at h
      obtain ⟨q, hq, e⟩ := h
      rw [Bool.and_eq_true] at e
      have e1 := Nat.eq_of_beq_eq_true e.1
      have e2 := Nat.eq_of_beq_eq_true e.2
      have := apart_none q hq n (.ref jr) some data (.int i) (hp st X ts rest)
      rw [e1, e2] at this
      exact ⟨this⟩
end Mini.L2
end
section
set_option autoImplicit false
set_option maxRecDepth 10000
set_option maxHeartbeats 4000000
namespace Mini.L2
open Mini
theorem cop_ne_str {H : Hp} {a b : Nat} : cop .ne H (.str a) (.str b) = some (!Nat.beq a b) := by
  simp only [cop, eqV, V.flat, V.dep, V.beq]
  show some (!(a == b)) = _
  rw [show (a == b) = Nat.beq a b by rw [Bool.eq_iff_iff]; simp [Nat.beq_eq]]
noncomputable def keep (ρ ρ' : Lo) (l : List Nat) : Prop := ∀ i v, (l.any (Nat.beq i)) = false → Lk ρ i v → Lk ρ' i v
theorem keep.trans {a b c : Lo} {l : List Nat} (h : keep a b l) (g : keep b c l) : keep a c l := fun i v e q => g i v e (h i v e q)
theorem keep.set {a : Lo} {i : Nat} {v : V} {l : List Nat} (h : i ∈ l) : keep a (lset a i v) l := fun j u e q => lke_skip (by
  rw [List.any_eq_false] at e
  have := e i h
  rcases Bool.eq_false_or_eq_true (Nat.beq j i) with q | q
  · exact absurd q this
  · exact q) q
theorem e_inVals {P : Prog} {n : Nat} {ρ : Lo} {H H1 H2 : Hp} {x d : E} {v : V} {r : Nat} {l : List (Int × V)} {b : Bool} (hx : Ev P n x ρ H v H1) (hd : Ev P n d ρ H1 (.ref r) H2) (hn : nth H2 r = some (.dI l)) (f1 : v.flat = true) (f2 : V.flats (l.map (·.2)) = true) (e : ((l.map (·.2)).any fun y => V.beq y v) = b) : Ev P (n+1) (.inVals x d) ρ H (.bool b) H2 :=
  ⟨bnd hx.h (bnd hd.h (bnd (bnd rfl (bnd hn (mpd rfl rfl)) : dictVals H2 (.ref r) = some (l.map (·.2))) (btt (by rw [f1, f2]; rfl) (congrArg (fun b => some (V.bool b, H2)) e))))⟩
noncomputable def kindsB : List S := [.ifs (.and [.cmp (.var 491327616111) [.ne] [.var 1684957547], .cmp (.meth (.var 435526333802) 549738508635343760023927 [.var 28783, .var 1701670771, .var 1635017060, .var 105, .var 491327616111]) [.isnot] [.none]]) [.ret (.bool false)] []]
/-- the names of one asking -/
structure La (ρ : Lo) (jr : Nat) (p : Nat × Nat) (some data : V) (i : Int) : Prop where
  bank : Lk ρ 1802396002 (.ref 1)
  made : Lk ρ 1701077357 (.ref 13)
  judge : Lk ρ 435526333802 (.ref jr)
  op : Lk ρ 28783 (.str p.1)
  kind : Lk ρ 1684957547 (.str p.2)
  some : Lk ρ 1701670771 some
  data : Lk ρ 1635017060 data
  i : Lk ρ 105 (.int i)
  scene : Lk ρ 435643835251 (.ref 14)
theorem La.keep {ρ ρ' : Lo} {jr : Nat} {p : Nat × Nat} {some data : V} {i : Int} {l : List Nat} (h : La ρ jr p some data i) (g : L2.keep ρ ρ' l) (hl : ([1802396002, 1701077357, 435526333802, 28783, 1684957547, 1701670771, 1635017060, 105, 435643835251].all fun i => !(l.any (Nat.beq i))) = true) : La ρ' jr p some data i := by
  simp only [List.all_cons, List.all_nil, Bool.and_true, Bool.and_eq_true, Bool.not_eq_true'] at hl
  obtain ⟨h1, h2, h3, h4, h5, h6, h7, h8, h9⟩ := hl
  exact ⟨g _ _ h1 h.bank, g _ _ h2 h.made, g _ _ h3 h.judge, g _ _ h4 h.op, g _ _ h5 h.kind, g _ _ h6 h.some, g _ _ h7 h.data, g _ _ h8 h.i, g _ _ h9 h.scene⟩
section
variable {n : Nat} {st : O} {X : Ext} {ts : List Tm} {rest : Hp} {jr tr : Nat} {p : Nat × Nat} {some data : V} {i : Int}
theorem kinds_loop (hp' : p ∈ rows) (hj : nth (hp st X ts rest) jr = Option.some (jO tr)) : ∀ (l : List Nat) (ρ : Lo), (∀ k ∈ l, k ∈ kinds) → La ρ jr p some data i → ∃ ρ', keep ρ ρ' [491327616111] ∧ exFor (sem P (n+70)) (.var 491327616111) kindsB (l.map V.str) ρ (hp st X ts rest) = Option.some (.nxt, ρ', hp st X ts rest)
  | [], ρ, _, _ => ⟨ρ, fun _ _ _ h => h, rfl⟩
  | k :: l, ρ, hl, L => by
    have K : keep ρ (lset ρ 491327616111 (.str k)) [491327616111] := keep.set (by simp)
    have L1 := L.keep K rfl
    have B : Xs P (n+70) kindsB (lset ρ 491327616111 (.str k)) (hp st X ts rest) .nxt (lset ρ 491327616111 (.str k)) (hp st X ts rest) := by
      by_cases e : k = p.2
      · have c : Ev P (n+68) (.cmp (.var 491327616111) [.ne] [.var 1684957547]) (lset ρ 491327616111 (.str k)) (hp st X ts rest) (.bool (!Nat.beq k p.2)) (hp st X ts rest) := e_cmp (e_var' lke_same) (e_var' L1.kind) cop_ne_str
        rw [e, Nat.beq_refl] at c
        rw [e]
        exact x_ifs (d := false) (e_and c (ai_f rfl)) (xi_f rfl x_nil)
      · have c : Ev P (n+68) (.cmp (.var 491327616111) [.ne] [.var 1684957547]) (lset ρ 491327616111 (.str k)) (hp st X ts rest) (.bool (!Nat.beq k p.2)) (hp st X ts rest) := e_cmp (e_var' lke_same) (e_var' L1.kind) cop_ne_str
        have nb : Nat.beq k p.2 = false := by
          rcases Bool.eq_false_or_eq_true (Nat.beq k p.2) with q | q
          · exact absurd (Nat.eq_of_beq_eq_true q) e
          · exact q
        rw [nb] at c
        have N := kinds_none hp' (hl k (List.mem_cons_self ..)) e (n+6) st X ts rest jr tr some data i hj
        have c2 : Ev P (n+68) (.cmp (.meth (.var 435526333802) 549738508635343760023927 [.var 28783, .var 1701670771, .var 1635017060, .var 105, .var 491327616111]) [.isnot] [.none]) (lset ρ 491327616111 (.str k)) (hp st X ts rest) (.bool false) (hp st X ts rest) :=
          e_cmp (e_meth (e_var' L1.judge) hj rfl rfl rfl (es_cons (e_var' L1.op) (es_cons (e_var' L1.some) (es_cons (e_var' L1.data) (es_cons (e_var' L1.i) (es_cons (e_var' lke_same) es_nil))))) N) e_none rfl
        exact x_ifs (d := false) (e_and c (ai_t rfl (e_and_1 c2))) (xi_f rfl x_nil)
    obtain ⟨ρ', k1, e⟩ := kinds_loop hp' hj l _ (fun k hk => hl k (List.mem_cons_of_mem _ hk)) L1
    exact ⟨ρ', K.trans k1, for_cons rfl B.h e⟩
end
end Mini.L2
end
section
set_option autoImplicit false
set_option maxRecDepth 10000
set_option maxHeartbeats 4000000
namespace Mini.L2
open Mini
theorem ne_pair_self {H : Hp} {a : Nat} {j : Int} : cop .ne H (.tup [.str a, .int j]) (.tup [.str a, .int j]) = some false := by
  have e : V.beq (.tup [.str a, .int j]) (.tup [.str a, .int j]) = true := by show ((a == a) && ((j == j) && true)) = true; rw [beq_self_eq_true, beq_self_eq_true]; rfl
  show Option.map (!·) (some (V.beq (.tup [.str a, .int j]) (.tup [.str a, .int j]))) = _
  rw [e]; rfl
theorem isInt_int {H : Hp} {i : Int} : callBi .isInt [.int i] H = some (.bool true, H) := rfl
theorem isInt_tup {H : Hp} {l : List V} : callBi .isInt [.tup l] H = some (.bool false, H) := rfl
noncomputable def atomsB : List S := [.ifs (.or [.and [.not (.bi .isInt [.var 1836020833]), .inVals (.var 1836020833) (.var 1701077357)], .and [.bi .isInt [.var 1836020833], .cmp (.var 1836020833) [.notin] [.var 1701077357]]])
      [.ret (.bool false)]
      [],
    .asg (.var 1684828020) (.meth (.var 1701077357) 7628135 [.var 1836020833, .var 1836020833]),
    .ifs (.or [.and [.cmp (.sub (.var 1684828020) (.num 0)) [.isin] [.tup [.str 521611141475, .str 512970483042]], .cmp (.tup [.sub (.var 1684828020) (.num 0), .sub (.var 1684828020) (.num 1)]) [.ne] [.tup [.ite (.cmp (.var 28783) [.eq] [.str 431180838498]) (.str 521611141475) (.str 512970483042), .var 105]]], .and [.cmp (.sub (.var 1684828020) (.num 1)) [.eq] [.num 0], .cmp (.sub (.var 1684828020) (.num 0)) [.isin] [.tup [.str 521611141475, .str 512970483042]]]])
      [.ret (.bool false)]
      []]
/-- an atom that may stand in the wanted formula -/
structure AtOk (mk : List (Int × V)) (op : Nat) (i : Int) (k : V) : Prop where
  told : (∃ o args j, (o = 448630452852 ∨ o = 7629154) ∧ toldOf mk k = dV o args j) ∨ (∃ args, op = 431180838498 ∧ i ≠ 0 ∧ toldOf mk k = dV 521611141475 args i) ∨ (∃ args, op = 422877296226 ∧ i ≠ 0 ∧ toldOf mk k = dV 512970483042 args i)
  key : (∃ l, k = .tup l ∧ (V.tup l).isKey = true ∧ k.flat = true ∧ ((mk.map (·.2)).any fun y => V.beq y k) = false) ∨ ∃ x, k = .int x ∧ (getI mk x).isSome = true
section
variable {n : Nat} {H : Hp} {jr : Nat} {p : Nat × Nat} {some data : V} {i : Int} {mk : List (Int × V)}
theorem told2 {ρ : Lo} {k : V} (hl : Lk ρ 1684828020 k) : ∀ m, Ev P (m+3) (.var 1684828020) ρ H k H := fun m => e_var' hl
theorem atom_one (hm : nth H 13 = Option.some (.dI mk)) (fm : V.flats (mk.map (·.2)) = true) {ρ : Lo} {k : V} (L : La ρ jr p some data i) (lk : Lk ρ 1836020833 k) (A : AtOk mk p.1 i k) : ∃ ρ', keep ρ ρ' [1684828020] ∧ Xs P (n+40) atomsB ρ H .nxt ρ' H := by
  refine ⟨lset ρ 1684828020 (toldOf mk k), keep.set (by simp), ?_⟩
  have kOk : KeyOk k := by
    rcases A.key with ⟨l, rfl, q, _, _⟩ | ⟨x, rfl, _⟩
    · exact .inr ⟨l, rfl, q⟩
    · exact .inl ⟨x, rfl⟩
  have T : Ev P (n+39) (.meth (.var 1701077357) 7628135 [.var 1836020833, .var 1836020833]) ρ H (toldOf mk k) H := ev_told (mr := 13) (n := n+33) hm kOk (fun n => e_var' L.made) (fun n => e_var' lk)
  -- the first test
  have C1 : Ev P (n+39) (.or [.and [.not (.bi .isInt [.var 1836020833]), .inVals (.var 1836020833) (.var 1701077357)], .and [.bi .isInt [.var 1836020833], .cmp (.var 1836020833) [.notin] [.var 1701077357]]]) ρ H (.bool false) H := by
    rcases A.key with ⟨l, rfl, q, f, v⟩ | ⟨x, rfl, q⟩
    · refine e_or (b := false) (e_and (b := true) (e_not (e_bi (es_cons (e_var' lk) es_nil) isInt_tup) rfl) (ai_t rfl (e_and_1 (e_inVals (e_var' lk) (e_var' L.made) hm f fm v)))) (oi_f rfl (e_or_1 (e_and (b := false) (e_bi (es_cons (e_var' lk) es_nil) isInt_tup) (ai_f rfl))))
    · have ni : cop .notin H (.int x) (.ref 13) = Option.some false := by
        have e : memV H (.int x) (.ref 13) = Option.some true := bnd hm (by show Option.some (getI mk x).isSome = _; rw [q])
        show (memV H (.int x) (.ref 13)).map _ = _
        rw [e]; rfl
      refine e_or (b := false) (e_and (b := false) (e_not (e_bi (es_cons (e_var' lk) es_nil) isInt_int) rfl) (ai_f rfl)) (oi_f rfl (e_or_1 (e_and (b := true) (e_bi (es_cons (e_var' lk) es_nil) isInt_int) (ai_t rfl (e_and_1 (e_cmp (e_var' lk) (e_var' L.made) ni))))))
  have K : keep ρ (lset ρ 1684828020 (toldOf mk k)) [1684828020] := keep.set (by simp)
  have L1 := L.keep K rfl
  have C2 : Ev P (n+39) (.or [.and [.cmp (.sub (.var 1684828020) (.num 0)) [.isin] [.tup [.str 521611141475, .str 512970483042]], .cmp (.tup [.sub (.var 1684828020) (.num 0), .sub (.var 1684828020) (.num 1)]) [.ne] [.tup [.ite (.cmp (.var 28783) [.eq] [.str 431180838498]) (.str 521611141475) (.str 512970483042), .var 105]]], .and [.cmp (.sub (.var 1684828020) (.num 1)) [.eq] [.num 0], .cmp (.sub (.var 1684828020) (.num 0)) [.isin] [.tup [.str 521611141475, .str 512970483042]]]]) (lset ρ 1684828020 (toldOf mk k)) H (.bool false) H := by
    have Lo := L1.op
    have Li := L1.i
    generalize hρ : lset ρ 1684828020 (toldOf mk k) = ρ1 at *
    have Lt : Lk ρ1 1684828020 (toldOf mk k) := by rw [← hρ]; exact lke_same
    clear hρ K L1 T C1
    rcases A.told with ⟨o, args, j, ho, e⟩ | ⟨args, ho, i0, e⟩ | ⟨args, ho, i0, e⟩
    · rw [e] at Lt
      rcases ho with rfl | rfl
      · by_cases j0 : j = 0
        · (repeat' (first | walk_at "mini e" | apply e_and | exact ai_f (by walk_at "mini d") | apply ai_t (by walk_at "mini d") | apply e_and_1 | walk_at "mini a"))
        · (repeat' (first | walk_at "mini e" | apply e_and | exact ai_f (by walk_at "mini d") | apply ai_t (by walk_at "mini d") | apply e_and_1 | walk_at "mini a"))
      · by_cases j0 : j = 0
        · (repeat' (first | walk_at "mini e" | apply e_and | exact ai_f (by walk_at "mini d") | apply ai_t (by walk_at "mini d") | apply e_and_1 | walk_at "mini a"))
        · (repeat' (first | walk_at "mini e" | apply e_and | exact ai_f (by walk_at "mini d") | apply ai_t (by walk_at "mini d") | apply e_and_1 | walk_at "mini a"))
    · rw [e] at Lt
      rw [ho] at Lo
      (repeat' (first | walk_at "mini e" | apply e_and | exact ai_f (by walk_at "mini d") | apply ai_t (by walk_at "mini d") | apply e_and_1 | with_reducible exact ne_pair_self | walk_at "mini a"))
    · rw [e] at Lt
      rw [ho] at Lo
      (repeat' (first | walk_at "mini e" | apply e_and | exact ai_f (by walk_at "mini d") | apply ai_t (by walk_at "mini d") | apply e_and_1 | with_reducible exact ne_pair_self | walk_at "mini a"))
  exact x_ifs C1 (xi_f rfl (x_asgv T (x_ifs C2 (xi_f rfl x_nil))))
theorem atoms_loop (hm : nth H 13 = Option.some (.dI mk)) (fm : V.flats (mk.map (·.2)) = true) : ∀ (l : List V) (ρ : Lo), (∀ k ∈ l, AtOk mk p.1 i k) → La ρ jr p some data i → ∃ ρ', keep ρ ρ' [1684828020, 1836020833] ∧ exFor (sem P (n+40)) (.var 1836020833) atomsB l ρ H = Option.some (.nxt, ρ', H)
  | [], ρ, _, _ => ⟨ρ, fun _ _ _ h => h, rfl⟩
  | k :: l, ρ, hl, L => by
    have K : keep ρ (lset ρ 1836020833 k) [1684828020, 1836020833] := keep.set (by simp)
    obtain ⟨ρ1, k1, B⟩ := atom_one (n := n) hm fm (L.keep K rfl) lke_same (hl k (List.mem_cons_self ..))
    have k2 : keep (lset ρ 1836020833 k) ρ1 [1684828020, 1836020833] := fun i v e h => k1 i v (by
      simp only [List.any_cons, List.any_nil, Bool.or_false, Bool.or_eq_false_iff] at e ⊢; exact e.1) h
    obtain ⟨ρ', k3, e⟩ := atoms_loop hm fm l ρ1 (fun k hk => hl k (List.mem_cons_of_mem _ hk)) ((L.keep K rfl).keep k2 rfl)
    exact ⟨ρ', (K.trans k2).trans k3, for_cons rfl B.h e⟩
end
end Mini.L2
end
section
set_option autoImplicit false
set_option maxRecDepth 10000
set_option maxHeartbeats 4000000
namespace Mini.L2
open Mini
/-- the scene's dict -/
noncomputable def scO (t wide more tu : Int) : O := .dS [(1802396002, .ref 1), (120, .int 3), (121, .int 4), (122, .int 5), (99, .int 6), (448630452852, .int t), (1701077357, .ref 13), (1701079415, .int wide), (1701998445, .int more), (495774233972, .int tu)]
/-- the values of one world -/
noncomputable def vlO (x y z c : Int) : List (Int × V) := [(3, .int x), (4, .int y), (5, .int z), (6, .int c)]
theorem mk_vl {x y z c : Int} : mkDict .i [.int 3, .int 4, .int 5, .int 6] [.int x, .int y, .int z, .int c] = some (.dI (vlO x y z c)) := rfl
theorem s_sc {H : Hp} {t wide more tu : Int} {k : Nat} {v : V} (h : nth H 14 = some (scO t wide more tu)) (g : lk [(1802396002, V.ref 1), (120, .int 3), (121, .int 4), (122, .int 5), (99, .int 6), (448630452852, .int t), (1701077357, .ref 13), (1701079415, .int wide), (1701998445, .int more), (495774233972, .int tu)] k = some v) : subV H (.ref 14) (.str k) = some v := bnd h g
noncomputable def mem3 (op : Nat) (v : Int) : Bool := (Nat.beq op 431348610658 && decide (v = 2)) || (Nat.beq op 1919907426 && (decide (v = 1) || decide (v = 2))) || (Nat.beq op 491496437346 && decide (v = 1))
noncomputable def bB (x y : Int) (k : Nat) : Int := Int.fmod (Int.fdiv x (2 ^ k)) 2 + Int.fmod (Int.fdiv y (2 ^ k)) 2
noncomputable def bitsS (op : Nat) (x y : Int) : Int := 1 * nB (mem3 op (bB x y 0)) + 2 * nB (mem3 op (bB x y 1)) + 4 * nB (mem3 op (bB x y 2))
theorem beq_nat {a b : Nat} : (a == b) = Nat.beq a b := by rw [Bool.eq_iff_iff]; simp [Nat.beq_eq]
theorem mem3_ok {H : Hp} {op : Nat} {v : Int} : cop .isin H (.tup [.str op, .int v]) (.tup [.tup [.str 431348610658, .int 2], .tup [.str 1919907426, .int 1], .tup [.str 1919907426, .int 2], .tup [.str 491496437346, .int 1]]) = some (mem3 op v) := by
  have f1 : (V.tup [.str op, .int v]).flat = true := by simp [V.flat, V.dep, V.deps]
  have f2 : V.flats [.tup [.str 431348610658, .int 2], .tup [.str 1919907426, .int 1], .tup [.str 1919907426, .int 2], .tup [.str 491496437346, .int 1]] = true := by
    simp [V.flats, V.flat, V.dep, V.deps]
  have fb : ((V.tup [.str op, .int v]).flat && V.flats [.tup [.str 431348610658, .int 2], .tup [.str 1919907426, .int 1], .tup [.str 1919907426, .int 2], .tup [.str 491496437346, .int 1]]) = true := by rw [f1, f2]; rfl
  show (bif (V.tup [.str op, .int v]).flat && V.flats [.tup [.str 431348610658, .int 2], .tup [.str 1919907426, .int 1], .tup [.str 1919907426, .int 2], .tup [.str 491496437346, .int 1]] then some (([.tup [.str 431348610658, .int 2], .tup [.str 1919907426, .int 1], .tup [.str 1919907426, .int 2], .tup [.str 491496437346, .int 1]] : List V).any fun y => V.beq y (.tup [.str op, .int v])) else Option.none) = _
  refine btt fb ?_
  show some ((((431348610658 : Nat) == op && (((2 : Int) == v) && true)) || (((1919907426 : Nat) == op && (((1 : Int) == v) && true)) || (((1919907426 : Nat) == op && (((2 : Int) == v) && true)) || (((491496437346 : Nat) == op && (((1 : Int) == v) && true)) || false))))) = some (mem3 op v)
  unfold mem3
  simp only [beq_nat]
  have c : ∀ a : Nat, Nat.beq a op = Nat.beq op a := fun a => by rw [Bool.eq_iff_iff]; simp [Nat.beq_eq]; exact eq_comm
  have d : ∀ a : Int, ((a == v) : Bool) = decide (v = a) := fun a => by rw [Bool.eq_iff_iff]; simp; exact eq_comm
  rw [c, c, c, d, d]
  cases Nat.beq op 431348610658 <;> cases Nat.beq op 1919907426 <;> cases Nat.beq op 491496437346 <;> cases decide (v = 2) <;> cases decide (v = 1) <;> rfl
theorem int_b {H : Hp} {b : Bool} : callBi .int [.bool b] H = some (.int (nB b), H) := rfl
theorem nB_le (b : Bool) : 0 ≤ nB b ∧ nB b ≤ 1 := by cases b <;> simp [nB]
theorem sum3 {H : Hp} {a b c : Int} (ha : 0 ≤ a ∧ a ≤ 4) (hb : 0 ≤ b ∧ b ≤ 4) (hc : 0 ≤ c ∧ c ≤ 4) : callBi .sum [.lst [.int a, .int b, .int c]] H = some (.int (a + b + c), H) := by
  have o1 : okInt (a + (b + (c + 0))) = true := okInt_of (by lia)
  have o2 : okInt a = true := okInt_of (by lia)
  have o3 : okInt b = true := okInt_of (by lia)
  have o4 : okInt c = true := okInt_of (by lia)
  have ob : (okInt [a, b, c].sum && [a, b, c].all okInt) = true := by
    show (okInt (a + (b + (c + 0))) && (okInt a && (okInt b && (okInt c && true)))) = true
    rw [o1, o2, o3, o4]; rfl
  refine btt ob ?_
  show some (V.int (a + (b + (c + 0))), H) = _
  rw [show a + (b + (c + 0)) = a + b + c by lia]
/-- the plain number of an operation -/
noncomputable def numS (op : Nat) (wide more tu d lo x y z c : Int) : Int :=
  if op = 6648937 then (if c ≠ tu then x else y)
  else if op = 121413913788299389262326131 then x - 2 ^ wide.toNat * nB (decide (2 ^ (wide - 1).toNat ≤ x))
  else if op = 470121608802 then d else if op = 500085716578 then -1 - x else if op = 431180838498 then x + y else if op = 422877296226 then x - y
  else if op = 127961628831587 then x * 2 ^ more.toNat + z else if op = 32760367481649253 then Int.fdiv x (2 ^ lo.toNat) else if op = 121413913788299389279823226 then x else bitsS op x y
section
variable {n : Nat} {H : Hp} {vr : Nat} {t wide more tu x y z c d lo : Int}
/-- what the numbers stand on -/
structure Nw (H : Hp) (vr : Nat) (t wide more tu x y z c : Int) : Prop where
  sc : nth H 14 = some (scO t wide more tu)
  vl : nth H vr = some (.dI (vlO x y z c))
  w0 : 1 ≤ wide
  w1 : wide ≤ 3
  m0 : 1 ≤ more
  m1 : more ≤ 3
  x0 : 0 ≤ x
  x1 : x ≤ 7
theorem Nw.subs (N : Nw H vr t wide more tu x y z c) : subV H (.ref 14) (.str 120) = some (.int 3) ∧ subV H (.ref 14) (.str 121) = some (.int 4) ∧ subV H (.ref 14) (.str 122) = some (.int 5) ∧ subV H (.ref 14) (.str 99) = some (.int 6) ∧ subV H (.ref 14) (.str 1701079415) = some (.int wide) ∧ subV H (.ref 14) (.str 1701998445) = some (.int more) ∧ subV H (.ref 14) (.str 495774233972) = some (.int tu) ∧
    subV H (.ref vr) (.int 3) = some (.int x) ∧ subV H (.ref vr) (.int 4) = some (.int y) ∧ subV H (.ref vr) (.int 5) = some (.int z) ∧ subV H (.ref vr) (.int 6) = some (.int c) :=
  ⟨s_sc N.sc rfl, s_sc N.sc rfl, s_sc N.sc rfl, s_sc N.sc rfl, s_sc N.sc rfl, s_sc N.sc rfl, s_sc N.sc rfl, by rw [s_in N.vl]; rfl, by rw [s_in N.vl]; rfl, by rw [s_in N.vl]; rfl, by rw [s_in N.vl]; rfl⟩
theorem num_ite (N : Nw H vr t wide more tu x y z c) : Ca P (n+40) law_number [.str 6648937, .ref 14, .ref vr, .int d] H (.int (numS 6648937 wide more tu d lo x y z c)) H := by
  obtain ⟨s1, s2, s3, s4, s5, s6, s7, v1, v2, v3, v4⟩ := N.subs
  by_cases h : c = tu
  · have q : (!decide (c = tu)) = false := by rw [decide_eq_true h]; rfl
    apply c_ret'
    · rfl
    · (repeat' (first | walk_at "mini e" | walk_at "mini a"))
    · simp [numS, h]
    · rfl
  · have q : (!decide (c = tu)) = true := by rw [decide_eq_false h]; rfl
    apply c_ret'
    · rfl
    · (repeat' (first | walk_at "mini e" | walk_at "mini a"))
    · simp [numS, h]
    · rfl
theorem num_sext (N : Nw H vr t wide more tu x y z c) : Ca P (n+40) law_number [.str 121413913788299389262326131, .ref 14, .ref vr, .int d] H (.int (numS 121413913788299389262326131 wide more tu d lo x y z c)) H := by
  obtain ⟨s1, s2, s3, s4, s5, s6, s7, v1, v2, v3, v4⟩ := N.subs
  have p1 : binV .pow (.int 2) (.int wide) = some (.int (2 ^ wide.toNat)) := b_pow (by decide) (by have := N.w0; lia) (by have := N.w1; lia)
  have p2 : binV .pow (.int 2) (.int (wide - 1)) = some (.int (2 ^ (wide - 1).toNat)) := b_pow (by decide) (by have := N.w0; lia) (by have := N.w1; lia)
  have bm : ∀ b, binV .mul (.int (2 ^ wide.toNat)) (.int b) = some (.int (2 ^ wide.toNat * b)) := fun b => b_mul (pow_ok (by have := N.w0; lia) (by have := N.w1; lia)).2
  apply c_ret'
  · rfl
  · (repeat' (first | walk_at "mini e" | with_reducible exact int_b | with_reducible exact bm _ | walk_at "mini a"))
  · simp [numS]
  · rfl
end
end Mini.L2
end
section
set_option autoImplicit false
set_option maxRecDepth 10000
set_option maxHeartbeats 4000000
namespace Mini.L2
open Mini
theorem e_getS {P : Prog} {n : Nat} {ρ : Lo} {H H1 H2 H3 : Hp} {o k d : E} {r : Nat} {l : List (Nat × V)} {i : Nat} {dv v : V} (ho : Ev P n o ρ H (.ref r) H1) (ob : nth H1 r = some (.dS l)) (hk : Ev P n k ρ H1 (.str i) H2) (hd : Ev P n d ρ H2 dv H3) (ob2 : nth H3 r = some (.dS l)) (g : (lk l i).getD dv = v) :
    Ev P (n+1) (.meth o 7628135 [k, d]) ρ H v H3 := by
  subst g
  have ho := ho.h; have hk := hk.h; have hd := hd.h
  constructor
  show ((sem P n).ev o ρ H).bind _ = _
  rw [ho]; show (nth H1 r).bind _ = _
  rw [ob]
  show (evs (sem P n) [k, d] ρ H1).bind _ = _
  simp only [evs, hk, hd, Option.bind_some]; rw [ob2]; rfl
noncomputable def ent (data : V) (x y z more ex : Int) : List (Nat × V) := [(470121608802, data), (500085716578, .int (-1 - x)), (431180838498, .int (x + y)), (422877296226, .int (x - y)), (127961628831587, .int (x * 2 ^ more.toNat + z)), (32760367481649253, .int (Int.fdiv x (2 ^ ex.toNat))), (121413913788299389279823226, .int x)]
theorem mk_ent {data : V} {a b c d e f : V} : mkDict .s [.str 470121608802, .str 500085716578, .str 431180838498, .str 422877296226, .str 127961628831587, .str 32760367481649253, .str 121413913788299389279823226] [data, a, b, c, d, e, f] = some (.dS [(470121608802, data), (500085716578, a), (431180838498, b), (422877296226, c), (127961628831587, d), (32760367481649253, e), (121413913788299389279823226, f)]) := by kernel_rfl
noncomputable def bitsE : E := .bi .sum [.comp (.bin .mul (.bin .pow (.num 2) (.var 107)) (.bi .int [.cmp (.tup [.var 28783, .bin .add (.bin .mod (.bin .fdiv (.var 120) (.bin .pow (.num 2) (.var 107))) (.num 2)) (.bin .mod (.bin .fdiv (.var 121) (.bin .pow (.num 2) (.var 107))) (.num 2))]) [.isin] [.tup [.tup [.str 431348610658, .num 2], .tup [.str 1919907426, .num 1], .tup [.str 1919907426, .num 2], .tup [.str 491496437346, .num 1]]]])) [.mk (.var 107) (.range [.num 3]) []]]
section
variable {n : Nat} {H : Hp} {vr : Nat} {t wide more tu x y z c d lo : Int} {op : Nat}
theorem bits_ev {ρ : Lo} (Lo' : Lk ρ 28783 (.str op)) (Lx : Lk ρ 120 (.int x)) (Ly : Lk ρ 121 (.int y)) : Ev P (n+30) bitsE ρ H (.int (bitsS op x y)) H := by
  have C := e_compm (P := P) (n := n+28) (ρ := ρ) (H := H) (H1 := H) (it := .range [.num 3]) (elt := .bin .mul (.bin .pow (.num 2) (.var 107)) (.bi .int [.cmp (.tup [.var 28783, .bin .add (.bin .mod (.bin .fdiv (.var 120) (.bin .pow (.num 2) (.var 107))) (.num 2)) (.bin .mod (.bin .fdiv (.var 121) (.bin .pow (.num 2) (.var 107))) (.num 2))]) [.isin] [.tup [.tup [.str 431348610658, .num 2], .tup [.str 1919907426, .num 1], .tup [.str 1919907426, .num 2], .tup [.str 491496437346, .num 1]]]])) (t := .var 107) (g := fun (k : Nat) => V.int (k : Int)) (f := fun (k : Nat) => V.int (2 ^ k * nB (mem3 op (bB x y k)))) (l := List.range 3) (i_range1 (i := 3) e_num rfl) (by
    intro k hk
    have k3 := List.mem_range.1 hk
    refine ⟨_, rfl, ?_⟩
    have p : binV .pow (.int 2) (.int (k : Int)) = some (.int (2 ^ k)) := by rw [b_pow (by decide) (by lia) (by lia), Int.toNat_natCast]
    have pk := pow_ok (i := (k : Int)) (by lia) (by lia)
    rw [Int.toNat_natCast] at pk
    have f1 : binV .fdiv (.int x) (.int (2 ^ k)) = some (.int (Int.fdiv x (2 ^ k))) := b_fdiv pk.1 pk.2
    have f2 : binV .fdiv (.int y) (.int (2 ^ k)) = some (.int (Int.fdiv y (2 ^ k))) := b_fdiv pk.1 pk.2
    have m1 : ∀ b, binV .mul (.int (2 ^ k)) (.int b) = some (.int (2 ^ k * b)) := fun b => b_mul pk.2
    have m2 : ∀ a : Int, binV .mod (.int a) (.int 2) = some (.int (Int.fmod a 2)) := fun a => b_mod (by decide)
    have q : binV .add (.int (Int.fmod (Int.fdiv x (2 ^ k)) 2)) (.int (Int.fmod (Int.fdiv y (2 ^ k)) 2)) = some (.int (bB x y k)) := rfl
    (repeat' (first | walk_at "mini e" | with_reducible exact int_b | with_reducible exact m1 _ | with_reducible exact m2 _ | with_reducible exact mem3_ok | walk_at "mini a"))) (by simp)
  have n0 := nB_le (mem3 op (bB x y 0))
  have n1 := nB_le (mem3 op (bB x y 1))
  have n2 := nB_le (mem3 op (bB x y 2))
  have e : (List.range 3).map (fun (k : Nat) => V.int (2 ^ k * nB (mem3 op (bB x y k)))) = [.int (1 * nB (mem3 op (bB x y 0))), .int (2 * nB (mem3 op (bB x y 1))), .int (4 * nB (mem3 op (bB x y 2)))] := rfl
  rw [e] at C
  exact e_bi (es_cons C es_nil) (sum3 (by lia) (by lia) (by lia))
theorem num_dict {data : V} {ex : Int} (N : Nw H vr t wide more tu x y z c) (o1 : Nat.beq op 6648937 = false) (o2 : Nat.beq op 121413913788299389262326131 = false)
    (e0 : 0 ≤ ex) (e1 : ex ≤ 20) (hx : ∀ (m : Nat) (ρ : Lo), Lk ρ 28783 (.str op) → Lk ρ 1635017060 data → Ev P (m+10) (.ite (.cmp (.var 28783) [.eq] [.str 32760367481649253]) (.sub (.var 1635017060) (.num 1)) (.num 0)) ρ H (.int ex) H) :
    Ca P (n+50) law_number [.str op, .ref 14, .ref vr, data] H ((lk (ent data x y z more ex) op).getD (.int (bitsS op x y))) (H ++ [.dS (ent data x y z more ex)]) := by
  obtain ⟨s1, s2, s3, s4, s5, s6, s7, v1, v2, v3, v4⟩ := N.subs
  have n1 : cop .eq H (.str op) (.str 6648937) = some false := by rw [cop_eq_str, o1]
  have n2 : cop .eq H (.str op) (.str 121413913788299389262326131) = some false := by rw [cop_eq_str, o2]
  have p1 : binV .pow (.int 2) (.int more) = some (.int (2 ^ more.toNat)) := b_pow (by decide) (by have := N.m0; lia) (by have := N.m1; lia)
  have p2 : binV .pow (.int 2) (.int ex) = some (.int (2 ^ ex.toNat)) := b_pow (by decide) e0 (by lia)
  have m1 : binV .mul (.int x) (.int (2 ^ more.toNat)) = some (.int (x * 2 ^ more.toNat)) := b_mul (by have := N.x0; have := N.x1; lia)
  have d1 : binV .fdiv (.int x) (.int (2 ^ ex.toNat)) = some (.int (Int.fdiv x (2 ^ ex.toNat))) := b_fdiv (pow_ok e0 e1).1 (pow_ok e0 e1).2
  generalize hρ : lset (lset (lset (law_number.params.zip [.str op, .ref 14, .ref vr, data]) 120 (.int x)) 121 (.int y)) 122 (.int z) = ρ
  have Lop : Lk ρ 28783 (.str op) := by rw [← hρ]; exact lke_skip rfl (lke_skip rfl (lke_skip rfl (lke_base rfl)))
  have Ld : Lk ρ 1635017060 data := by rw [← hρ]; exact lke_skip rfl (lke_skip rfl (lke_skip rfl (lke_base rfl)))
  have Lsc : Lk ρ 435643835251 (.ref 14) := by rw [← hρ]; exact lke_skip rfl (lke_skip rfl (lke_skip rfl (lke_base rfl)))
  have Lx : Lk ρ 120 (.int x) := by rw [← hρ]; exact lke_skip rfl (lke_skip rfl lke_same)
  have Ly : Lk ρ 121 (.int y) := by rw [← hρ]; exact lke_skip rfl lke_same
  have Lz : Lk ρ 122 (.int z) := by rw [← hρ]; exact lke_same
  have S1 : Ev P (n+49) (.tup [.sub (.var 126879598928246) (.sub (.var 435643835251) (.str 120)), .sub (.var 126879598928246) (.sub (.var 435643835251) (.str 121)), .sub (.var 126879598928246) (.sub (.var 435643835251) (.str 122))]) (law_number.params.zip [.str op, .ref 14, .ref vr, data]) H (.tup [.int x, .int y, .int z]) H := by (repeat' (first | walk_at "mini e" | walk_at "mini a"))
  have C1 : Ev P (n+49) (.cmp (.var 28783) [.eq] [.str 6648937]) ρ H (.bool false) H := e_cmp (e_var' Lop) e_str n1
  have C2 : Ev P (n+49) (.cmp (.var 28783) [.eq] [.str 121413913788299389262326131]) ρ H (.bool false) H := e_cmp (e_var' Lop) e_str n2
  have B := bits_ev (n := n+19) (H := H) Lop Lx Ly
  have L2 : Lk (lset ρ 1937008994 (.int (bitsS op x y))) 120 (.int x) := lke_skip rfl Lx
  have X : Ev P (n+45) (.ite (.cmp (.var 28783) [.eq] [.str 32760367481649253]) (.sub (.var 1635017060) (.num 1)) (.num 0)) (lset ρ 1937008994 (.int (bitsS op x y))) H (.int ex) H := hx (n+35) _ (lke_skip rfl Lop) (lke_skip rfl Ld)
  generalize hρ2 : lset ρ 1937008994 (.int (bitsS op x y)) = ρ2 at *
  have M : ∀ {i v}, Nat.beq i 1937008994 = false → Lk ρ i v → Lk ρ2 i v := fun e h => by rw [← hρ2]; exact lke_skip e h
  have Lb : Lk ρ2 1937008994 (.int (bitsS op x y)) := by rw [← hρ2]; exact lke_same
  have D : Ev P (n+48) (.dict .s [.str 470121608802, .str 500085716578, .str 431180838498, .str 422877296226, .str 127961628831587, .str 32760367481649253, .str 121413913788299389279823226] [.var 1635017060, .bin .sub (.neg (.num 1)) (.var 120), .bin .add (.var 120) (.var 121), .bin .sub (.var 120) (.var 121), .bin .add (.bin .mul (.var 120) (.bin .pow (.num 2) (.sub (.var 435643835251) (.str 1701998445)))) (.var 122), .bin .fdiv (.var 120) (.bin .pow (.num 2) (.ite (.cmp (.var 28783) [.eq] [.str 32760367481649253]) (.sub (.var 1635017060) (.num 1)) (.num 0))), .var 120]) ρ2 H (.ref H.length) (H ++ [.dS (ent data x y z more ex)]) :=
    e_dict (ep_cons e_str (e_var' (M rfl Ld)) (ep_cons e_str (e_bin (e_neg e_num) (e_var' (M rfl Lx)) rfl) (ep_cons e_str (e_bin (e_var' (M rfl Lx)) (e_var' (M rfl Ly)) rfl) (ep_cons e_str (e_bin (e_var' (M rfl Lx)) (e_var' (M rfl Ly)) rfl) (ep_cons e_str (e_bin (e_bin (e_var' (M rfl Lx)) (e_bin e_num (e_sub (e_var' (M rfl Lsc)) e_str s6) p1) m1) (e_var' (M rfl Lz)) rfl) (ep_cons e_str (e_bin (e_var' (M rfl Lx)) (e_bin e_num X p2) d1) (ep_cons e_str (e_var' (M rfl Lx)) ep_nil))))))) mk_ent
  refine c_ret rfl (ρ' := ρ2) (x_asgt S1 (ρ1 := ρ) (by rw [← hρ]; rfl) (x_ifs C1 (xi_f rfl (x_ifs C2 (xi_f rfl (x_asgv B ?_))))))
  rw [hρ2]
  exact x_ret (e_getS D nth_end (e_var' (M rfl Lop)) (e_var' Lb) nth_end rfl)
end
end Mini.L2
end
section
set_option autoImplicit false
set_option maxRecDepth 10000
set_option maxHeartbeats 4000000
namespace Mini.L2
open Mini
noncomputable def va (x y z c t : Int) : Int := if t = 3 then x else if t = 4 then y else if t = 5 then z else c
noncomputable def semD (x y z c : Int) (v : V) : Bool := match v with
  | .tup [.str o, .int i, .int t] => if o = 448630452852 then decide (va x y z c t = 1) else decide (Int.fmod (Int.fdiv (va x y z c t) (2 ^ i.toNat)) 2 = 1)
  | .tup [.str o, .int i, .int a, .int b] => if o = 521611141475 then decide (2 ^ i.toNat ≤ Int.fmod (va x y z c a) (2 ^ i.toNat) + Int.fmod (va x y z c b) (2 ^ i.toNat)) else decide (Int.fmod (va x y z c a) (2 ^ i.toNat) < Int.fmod (va x y z c b) (2 ^ i.toNat))
  | _ => false
/-- what may be told of an atom -/
inductive Tl : V → Prop
  | truth (j : Int) : Tl (dV 448630452852 [6] j)
  | bit {t j : Int} : t = 3 ∨ t = 4 ∨ t = 5 → 0 ≤ j → j ≤ 20 → Tl (dV 7629154 [t] j)
  | carry {j : Int} : 0 ≤ j → j ≤ 20 → Tl (dV 521611141475 [3, 4] j)
  | below {j : Int} : 0 ≤ j → j ≤ 20 → Tl (dV 512970483042 [3, 4] j)
theorem single_ok {H : Hp} {vr n : Nat} {x y z c : Int} {v : V} (h : Tl v) (hv : nth H vr = some (.dI (vlO x y z c))) : Ca P (n+20) law_single [v, .ref vr] H (.bool (semD x y z c v)) H := by
  cases h with
  | truth j => exact single_truth hv rfl
  | bit ht j0 j1 =>
    rcases ht with rfl | rfl | rfl
    · exact single_bit hv rfl j0 j1
    · exact single_bit hv rfl j0 j1
    · exact single_bit hv rfl j0 j1
  | carry j0 j1 => exact single_carry hv rfl rfl j0 j1
  | below j0 j1 => exact single_below hv rfl rfl j0 j1
noncomputable def worldB : List S := [.asg (.var 126879598928246) (.dict .i [.sub (.var 435643835251) (.str 120), .sub (.var 435643835251) (.str 121), .sub (.var 435643835251) (.str 122), .sub (.var 435643835251) (.str 99)] [.var 120, .var 121, .var 122, .var 99]),
          .ifs (.cmp (.call 30151164477008373402952625247 [.var 1818324839, .var 1701077357, .var 126879598928246]) [.ne] [.cmp (.bin .mod (.bin .fdiv (.call 138296318119088462332259423 [.var 28783, .var 435643835251, .var 126879598928246, .var 1635017060]) (.bin .pow (.num 2) (.var 105))) (.num 2)) [.eq] [.num 1]])
            [.ret (.bool false)]
            []]
theorem cop_ne_bool {H : Hp} {a b : Bool} : cop .ne H (.bool a) (.bool b) = some (a != b) := by cases a <;> cases b <;> rfl
section
variable {n : Nat} {H : Hp} {jr : Nat} {p : Nat × Nat} {some data : V} {i : Int} {mk : List (Int × V)} {t wide more tu x y z c N : Int} {F : Fm}
/-- the heap of an asking: the made ones and the scene lie where they lay -/
structure Hw (H : Hp) (mk : List (Int × V)) (t wide more tu : Int) : Prop where
  m : nth H 13 = Option.some (.dI mk)
  s : nth H 14 = Option.some (scO t wide more tu)
theorem Hw.app {J : Hp} (h : Hw H mk t wide more tu) : Hw (H ++ J) mk t wide more tu := ⟨nth_append h.m, nth_append h.s⟩
theorem world (W : Hw H mk t wide more tu) {ρ : Lo} (L : La ρ jr p some data i) (Lg : Lk ρ 1818324839 F.V) (Lx : Lk ρ 120 (.int x)) (Ly : Lk ρ 121 (.int y)) (Lz : Lk ρ 122 (.int z)) (Lc : Lk ρ 99 (.int c)) (d5 : F.dep ≤ 4)
    (hF : ∀ k ∈ F.atoms, KeyOk k ∧ Tl (toldOf mk k)) (i0 : 0 ≤ i) (i1 : i ≤ 20)
    (hN : ∀ (H : Hp) (vr : Nat), nth H 14 = Option.some (scO t wide more tu) → nth H vr = Option.some (.dI (vlO x y z c)) → ∃ J, ∀ n, Ca P (n+60) law_number [.str p.1, .ref 14, .ref vr, data] H (.int N) (H ++ J))
    (ok : F.ev (fun k => semD x y z c (toldOf mk k)) = decide (Int.fmod (Int.fdiv N (2 ^ i.toNat)) 2 = 1)) :
    ∃ ρ' J, keep ρ ρ' [126879598928246] ∧ Xs P (n+170) worldB ρ H .nxt ρ' (H ++ J) := by
  have Ls := L.scene
  have D : Ev P (n+169) (.dict .i [.sub (.var 435643835251) (.str 120), .sub (.var 435643835251) (.str 121), .sub (.var 435643835251) (.str 122), .sub (.var 435643835251) (.str 99)] [.var 120, .var 121, .var 122, .var 99]) ρ H (.ref H.length) (H ++ [.dI (vlO x y z c)]) :=
    e_dict (ep_cons (e_sub (e_var' Ls) e_str (s_sc W.s rfl)) (e_var' Lx) (ep_cons (e_sub (e_var' Ls) e_str (s_sc W.s rfl)) (e_var' Ly) (ep_cons (e_sub (e_var' Ls) e_str (s_sc W.s rfl)) (e_var' Lz) (ep_cons (e_sub (e_var' Ls) e_str (s_sc W.s rfl)) (e_var' Lc) ep_nil)))) mk_vl
  have W1 : Hw (H ++ [.dI (vlO x y z c)]) mk t wide more tu := W.app
  have v1 : nth (H ++ [.dI (vlO x y z c)]) H.length = Option.some (.dI (vlO x y z c)) := nth_end
  obtain ⟨J1, FE⟩ := formula_ev (mr := 13) (vr := H.length) (vl := vlO x y z c) mk (fun k => semD x y z c (toldOf mk k)) F (H ++ [.dI (vlO x y z c)]) W1.m v1 (fun k hk => ⟨(hF k hk).1, fun H n hv => single_ok (hF k hk).2 hv⟩)
  obtain ⟨J2, NU⟩ := hN (H ++ [.dI (vlO x y z c)] ++ J1) H.length (nth_append W1.s) (nth_append v1)
  have K : keep ρ (lset ρ 126879598928246 (.ref H.length)) [126879598928246] := keep.set (by simp)
  have L1 := L.keep K rfl
  have G1 : Lk (lset ρ 126879598928246 (.ref H.length)) 1818324839 F.V := lke_skip rfl Lg
  have P1 := pow_ok i0 i1
  have C : Ev P (n+169) (.cmp (.call 30151164477008373402952625247 [.var 1818324839, .var 1701077357, .var 126879598928246]) [.ne] [.cmp (.bin .mod (.bin .fdiv (.call 138296318119088462332259423 [.var 28783, .var 435643835251, .var 126879598928246, .var 1635017060]) (.bin .pow (.num 2) (.var 105))) (.num 2)) [.eq] [.num 1]]) (lset ρ 126879598928246 (.ref H.length)) (H ++ [.dI (vlO x y z c)]) (.bool false) (H ++ [.dI (vlO x y z c)] ++ J1 ++ J2) := by
    refine e_cmp (e_call rfl (es_cons (e_var' G1) (es_cons (e_var' L1.made) (es_cons (e_var' lke_same) es_nil))) (FE (n+167) (by lia))) (e_cmp (e_bin (e_bin (e_call rfl (es_cons (e_var' L1.op) (es_cons (e_var' L1.scene) (es_cons (e_var' lke_same) (es_cons (e_var' L1.data) es_nil)))) (NU (n+104))) (e_bin e_num (e_var' L1.i) (b_pow (by decide) i0 (by lia))) (b_fdiv P1.1 P1.2)) e_num (b_mod (by decide))) e_num cop_eq_int) ?_
    rw [cop_ne_bool, ok]; simp
  refine ⟨lset ρ 126879598928246 (.ref H.length), [.dI (vlO x y z c)] ++ J1 ++ J2, K, ?_⟩
  have := x_asgv (i := 126879598928246) D (x_ifs (a := [.ret (.bool false)]) (b := []) (r := []) C (xi_f rfl x_nil))
  rw [show H ++ ([O.dI (vlO x y z c)] ++ J1 ++ J2) = H ++ [.dI (vlO x y z c)] ++ J1 ++ J2 by simp]
  exact this
/-- a loop whose turns add to the heap alone -/
theorem for_app {R : Sems} {b : List S} {v : Nat} {keepL : List Nat} (Inv : Lo → Hp → Prop) (hI : ∀ ρ ρ' H J, Inv ρ H → keep ρ ρ' keepL → Inv ρ' (H ++ J)) (hv : v ∈ keepL) : ∀ (l : List Int) (ρ : Lo) (H : Hp), Inv ρ H → (∀ a ∈ l, ∀ ρ H, Inv ρ H → Lk ρ v (.int a) → ∃ ρ' J, keep ρ ρ' keepL ∧ R.exs b ρ H = Option.some (.nxt, ρ', H ++ J)) →
    ∃ ρ' J, keep ρ ρ' keepL ∧ exFor R (.var v) b (l.map V.int) ρ H = Option.some (.nxt, ρ', H ++ J)
  | [], ρ, H, _, _ => ⟨ρ, [], fun _ _ _ h => h, by simp [exFor]⟩
  | a :: l, ρ, H, h0, h => by
    have K : keep ρ (lset ρ v (.int a)) keepL := keep.set hv
    have I1 := hI ρ _ H [] h0 K
    rw [List.append_nil] at I1
    obtain ⟨ρ1, J1, k1, e1⟩ := h a (List.mem_cons_self ..) _ H I1 lke_same
    obtain ⟨ρ2, J2, k2, e2⟩ := for_app Inv hI hv l ρ1 (H ++ J1) (hI _ _ H J1 I1 k1) (fun b hb => h b (List.mem_cons_of_mem _ hb))
    refine ⟨ρ2, J1 ++ J2, (K.trans k1).trans k2, ?_⟩
    rw [← List.append_assoc]
    exact for_cons rfl e1 e2
end
end Mini.L2
end
section
set_option autoImplicit false
set_option maxRecDepth 10000
set_option maxHeartbeats 4000000
namespace Mini.L2
open Mini
/-! the loops over the worlds -/
noncomputable def yE : E := .ite (.and [.cmp (.bi .len [.var 1701670771]) [.gt] [.num 1], .cmp (.var 28783) [.ne] [.str 127961628831587]]) (.var 7368564) (.num 1)
noncomputable def zE : E := .ite (.cmp (.var 28783) [.eq] [.str 127961628831587]) (.bin .pow (.num 2) (.sub (.var 435643835251) (.str 1701998445))) (.num 1)
noncomputable def cE : E := .ite (.cmp (.var 28783) [.eq] [.str 6648937]) (.tup [.num 0, .num 1]) (.tup [.num 0])
noncomputable def cS : List S := [.fr (.var 99) cE worldB]
noncomputable def zS : List S := [.fr (.var 122) (.range [zE]) cS]
noncomputable def yS : List S := [.fr (.var 121) (.range [yE]) zS]
noncomputable def xS : S := .fr (.var 120) (.range [.var 7368564]) yS
theorem keep.mono {ρ ρ' : Lo} {a b : List Nat} (h : keep ρ ρ' a) (hs : ∀ i, b.any (Nat.beq i) = false → a.any (Nat.beq i) = false) : keep ρ ρ' b := fun i v e l => h i v (hs i e) l
noncomputable def upto (k : Int) : List Int := (List.range k.toNat).map fun (i : Nat) => (i : Int)
theorem upto_V (k : Int) : (List.range k.toNat).map (fun (i : Nat) => V.int (i : Int)) = (upto k).map V.int := by unfold upto; rw [List.map_map]; rfl
theorem mem_upto {k a : Int} (h : a ∈ upto k) : 0 ≤ a ∧ a < k := by
  obtain ⟨i, hi, rfl⟩ := List.mem_map.1 h
  have := List.mem_range.1 hi
  lia
theorem ok_range {k : Int} (h : k ≤ 1000) : (okLen k.toNat && okInt k) = true ∨ k < 0 := by
  rcases Int.lt_or_le k 0 with q | q
  · exact .inr q
  · refine .inl ?_
    rw [okLen_of (by lia), okInt_of (by lia)]; rfl
section
variable {H : Hp} {jr : Nat} {p : Nat × Nat} {some data : V} {i : Int} {mk : List (Int × V)} {t wide more tu : Int} {F : Fm} {N : Int → Int → Int → Int → Int} {top ny nz : Int} {cs : List Int}
/-- what holds through the loops -/
structure Iw (ρ : Lo) (H : Hp) (jr : Nat) (p : Nat × Nat) (some data : V) (i : Int) (mk : List (Int × V)) (t wide more tu : Int) (F : Fm) (top : Int) : Prop where
  w : Hw H mk t wide more tu
  l : La ρ jr p some data i
  g : Lk ρ 1818324839 F.V
  t : Lk ρ 7368564 (.int top)
theorem Iw.next {ρ ρ' : Lo} {J : Hp} {l : List Nat} (h : Iw ρ H jr p some data i mk t wide more tu F top) (k : keep ρ ρ' l) (hl : ([1802396002, 1701077357, 435526333802, 28783, 1684957547, 1701670771, 1635017060, 105, 435643835251].all fun i => !(l.any (Nat.beq i))) = true) (hg : l.any (Nat.beq 1818324839) = false) (ht : l.any (Nat.beq 7368564) = false) : Iw ρ' (H ++ J) jr p some data i mk t wide more tu F top :=
  ⟨h.w.app, h.l.keep k hl, k _ _ hg h.g, k _ _ ht h.t⟩
/-- what the loops stand on -/
structure Wo (jr : Nat) (p : Nat × Nat) (some data : V) (i : Int) (mk : List (Int × V)) (t wide more tu : Int) (F : Fm) (N : Int → Int → Int → Int → Int) (top ny nz : Int) (cs : List Int) : Prop where
  dep : F.dep ≤ 4
  at_ : ∀ k ∈ F.atoms, KeyOk k ∧ Tl (toldOf mk k)
  i0 : 0 ≤ i
  i1 : i ≤ 20
  top0 : 0 ≤ top ∧ top ≤ 8
  ny0 : 0 ≤ ny ∧ ny ≤ 8
  nz0 : 0 ≤ nz ∧ nz ≤ 8
  y : ∀ (n : Nat) (ρ : Lo) (H : Hp), Iw ρ H jr p some data i mk t wide more tu F top → Ev P (n+20) yE ρ H (.int ny) H
  z : ∀ (n : Nat) (ρ : Lo) (H : Hp), Iw ρ H jr p some data i mk t wide more tu F top → Ev P (n+20) zE ρ H (.int nz) H
  c : ∀ (n : Nat) (ρ : Lo) (H : Hp), Iw ρ H jr p some data i mk t wide more tu F top → Ev P (n+20) cE ρ H (.tup (cs.map V.int)) H
  num : ∀ x y z c, x ∈ upto top → y ∈ upto ny → z ∈ upto nz → c ∈ cs → ∀ (H : Hp) (vr : Nat), nth H 14 = Option.some (scO t wide more tu) → nth H vr = Option.some (.dI (vlO x y z c)) → ∃ J, ∀ n, Ca P (n+60) law_number [.str p.1, .ref 14, .ref vr, data] H (.int (N x y z c)) (H ++ J)
  ok : ∀ x y z c, x ∈ upto top → y ∈ upto ny → z ∈ upto nz → c ∈ cs → F.ev (fun k => semD x y z c (toldOf mk k)) = decide (Int.fmod (Int.fdiv (N x y z c) (2 ^ i.toNat)) 2 = 1)
theorem fr_app {n : Nat} {ρ : Lo} {v : Nat} {e : E} {b : List S} {l : List Int} {r : List Nat} (I : It P (n+1) e ρ H (l.map V.int) H) (h : ∃ ρ' J, keep ρ ρ' r ∧ exFor (sem P (n+1)) (.var v) b (l.map V.int) ρ H = Option.some (.nxt, ρ', H ++ J)) :
    ∃ ρ' J, keep ρ ρ' r ∧ Xs P (n+2) [.fr (.var v) e b] ρ H .nxt ρ' (H ++ J) := by
  obtain ⟨ρ', J, k, e⟩ := h
  exact ⟨ρ', J, k, x_fr I e x_nil⟩
theorem keep.sub {ρ ρ' : Lo} {a b : List Nat} (h : keep ρ ρ' a) (hs : ∀ x ∈ a, x ∈ b) : keep ρ ρ' b := h.mono fun i e => by
  rw [List.any_eq_false] at e ⊢
  exact fun x hx => e x (hs x hx)
theorem c_loop (W : Wo jr p some data i mk t wide more tu F N top ny nz cs) (n : Nat) {ρ : Lo} {x y z : Int} (hx : x ∈ upto top) (hy : y ∈ upto ny) (hz : z ∈ upto nz) (I : Iw ρ H jr p some data i mk t wide more tu F top) (Lx : Lk ρ 120 (.int x)) (Ly : Lk ρ 121 (.int y)) (Lz : Lk ρ 122 (.int z)) :
    ∃ ρ' J, keep ρ ρ' [99, 126879598928246] ∧ Xs P (n+171) cS ρ H .nxt ρ' (H ++ J) := by
  refine fr_app (n := n+169) (i_val rfl (W.c (n+150) ρ H I) rfl) ?_
  refine for_app (fun ρ H => Iw ρ H jr p some data i mk t wide more tu F top ∧ Lk ρ 120 (.int x) ∧ Lk ρ 121 (.int y) ∧ Lk ρ 122 (.int z)) (fun ρ ρ' H J h k => ⟨h.1.next k rfl rfl rfl, k _ _ rfl h.2.1, k _ _ rfl h.2.2.1, k _ _ rfl h.2.2.2⟩) (by simp) cs ρ H ⟨I, Lx, Ly, Lz⟩ fun c hc ρ H h Lc => ?_
  obtain ⟨ρ', J, k, e⟩ := world (n := n) h.1.w h.1.l h.1.g h.2.1 h.2.2.1 h.2.2.2 Lc W.dep W.at_ W.i0 W.i1 (W.num x y z c hx hy hz hc) (W.ok x y z c hx hy hz hc)
  exact ⟨ρ', J, k.sub (by simp), e.h⟩
theorem z_loop (W : Wo jr p some data i mk t wide more tu F N top ny nz cs) (n : Nat) {ρ : Lo} {x y : Int} (hx : x ∈ upto top) (hy : y ∈ upto ny) (I : Iw ρ H jr p some data i mk t wide more tu F top) (Lx : Lk ρ 120 (.int x)) (Ly : Lk ρ 121 (.int y)) :
    ∃ ρ' J, keep ρ ρ' [122, 99, 126879598928246] ∧ Xs P (n+172) zS ρ H .nxt ρ' (H ++ J) := by
  have R := i_range1 (W.z (n+151) ρ H I) (by rw [okLen_of (by have := W.nz0; lia), okInt_of (by have := W.nz0; lia)]; rfl)
  rw [upto_V] at R
  refine fr_app (n := n+170) R ?_
  refine for_app (fun ρ H => Iw ρ H jr p some data i mk t wide more tu F top ∧ Lk ρ 120 (.int x) ∧ Lk ρ 121 (.int y)) (fun ρ ρ' H J h k => ⟨h.1.next k rfl rfl rfl, k _ _ rfl h.2.1, k _ _ rfl h.2.2⟩) (by simp) (upto nz) ρ H ⟨I, Lx, Ly⟩ fun z hz ρ H h Lz => ?_
  obtain ⟨ρ', J, k, e⟩ := c_loop W n hx hy hz h.1 h.2.1 h.2.2 Lz
  exact ⟨ρ', J, k.sub (by simp), e.h⟩
theorem y_loop (W : Wo jr p some data i mk t wide more tu F N top ny nz cs) (n : Nat) {ρ : Lo} {x : Int} (hx : x ∈ upto top) (I : Iw ρ H jr p some data i mk t wide more tu F top) (Lx : Lk ρ 120 (.int x)) :
    ∃ ρ' J, keep ρ ρ' [121, 122, 99, 126879598928246] ∧ Xs P (n+173) yS ρ H .nxt ρ' (H ++ J) := by
  have R := i_range1 (W.y (n+152) ρ H I) (by rw [okLen_of (by have := W.ny0; lia), okInt_of (by have := W.ny0; lia)]; rfl)
  rw [upto_V] at R
  refine fr_app (n := n+171) R ?_
  refine for_app (fun ρ H => Iw ρ H jr p some data i mk t wide more tu F top ∧ Lk ρ 120 (.int x)) (fun ρ ρ' H J h k => ⟨h.1.next k rfl rfl rfl, k _ _ rfl h.2⟩) (by simp) (upto ny) ρ H ⟨I, Lx⟩ fun y hy ρ H h Ly => ?_
  obtain ⟨ρ', J, k, e⟩ := z_loop W n hx hy h.1 h.2 Ly
  exact ⟨ρ', J, k.sub (by simp), e.h⟩
theorem x_loop (W : Wo jr p some data i mk t wide more tu F N top ny nz cs) (n : Nat) {ρ : Lo} (I : Iw ρ H jr p some data i mk t wide more tu F top) :
    ∃ ρ' J, keep ρ ρ' [120, 121, 122, 99, 126879598928246] ∧ Xs P (n+174) [xS] ρ H .nxt ρ' (H ++ J) := by
  have R := i_range1 (P := P) (n := n+173) (ρ := ρ) (H := H) (e_var' I.t) (by rw [okLen_of (by have := W.top0; lia), okInt_of (by have := W.top0; lia)]; rfl)
  rw [upto_V] at R
  refine fr_app (n := n+172) R ?_
  refine for_app (fun ρ H => Iw ρ H jr p some data i mk t wide more tu F top) (fun ρ ρ' H J h k => h.next k rfl rfl rfl) (by simp) (upto top) ρ H I fun x hx ρ H h Lx => ?_
  obtain ⟨ρ', J, k, e⟩ := y_loop W n hx h Lx
  exact ⟨ρ', J, k.sub (by simp), e.h⟩
end
end Mini.L2
end
section
set_option autoImplicit false
set_option maxRecDepth 10000
set_option maxHeartbeats 4000000
namespace Mini.L2
open Mini
/-! the scene: its terms, and the dict of the made ones -/
noncomputable def bT (t i : Int) : Tm := ⟨7629154, [t], 0, i⟩
noncomputable def sT (op : Nat) (i : Int) : Tm := ⟨op, [3, 4], 0, i⟩
noncomputable def szOf (wide more : Nat) : Int := if more = wide then 3 else 4
noncomputable def ts6 (wide more : Nat) : List Tm := [tt, tf, ⟨7368801, [], 3, 0⟩, ⟨7368801, [], 3, 1⟩, ⟨7368801, [], szOf wide more, 2⟩, ⟨7368801, [], 0, 3⟩]
noncomputable def notT (t : Int) : Tm := ⟨7630702, [t], 0, 0⟩
/-- the nots of the truth -/
noncomputable def tsN (ts : List Tm) : Nat → List Tm
  | 0 => ts
  | k + 1 => put (tsN ts k) (notT (6 + (k : Int)))
noncomputable abbrev Sn : Type := List Tm × List (Int × V)
noncomputable def add1 (s : Sn) (t : Tm) : Sn := (put s.1 t, setI s.2 (fd (put s.1 t) t) (dV t.op t.args t.data))
noncomputable def turnA (few : Nat) (i : Nat) (s : Sn) : Sn := if Int.fmod ((few : Int) + (i : Int)) 2 = 1 then add1 (add1 s (bT 3 i)) (sT 521611141475 i) else s
noncomputable def turnB (few : Nat) (i : Nat) (s : Sn) : Sn := if 1 < few then add1 (add1 s (sT 512970483042 i)) (bT 4 i) else s
noncomputable def scS (wide more laps few : Nat) : Nat → Sn
  | 0 => (tsN (ts6 wide more) laps, [(6, dV 448630452852 [6] 0)])
  | k + 1 => turnB few k (turnA few k (scS wide more laps few k))
/-- what a key of an atom is good for -/
structure Ky (ts : List Tm) (mk : List (Int × V)) (op : Nat) (args : List Int) (i : Int) : Prop where
  told : toldOf mk (keyOf ts op args i) = dV op args i
  key : (∃ l, keyOf ts op args i = .tup l ∧ (V.tup l).isKey = true ∧ (keyOf ts op args i).flat = true ∧ ((mk.map (·.2)).any fun y => V.beq y (keyOf ts op args i)) = false) ∨ ∃ x, keyOf ts op args i = .int x ∧ (getI mk x).isSome = true
noncomputable def kyB (s : Sn) (q : Nat × List Int × Int) : Bool :=
  bif fd s.1 ⟨q.1, q.2.1, 0, q.2.2⟩ == 0 then !((s.2.map (·.2)).any fun y => V.beq y (dV q.1 q.2.1 q.2.2)) else (getI s.2 (fd s.1 ⟨q.1, q.2.1, 0, q.2.2⟩)).any fun v => V.same v (dV q.1 q.2.1 q.2.2)
theorem dV_flat {op : Nat} {args : List Int} {i : Int} : (dV op args i).flat = true := by
  have e : V.dep (dV op args i) = some 1 := by
    show (match some 0, (match some 0, V.deps (intsV args) with | some m, some n => some (max m n) | _, _ => none) with | some m, some n => some (max m n) | _, _ => none).map (· + 1) = some 1
    rw [dep_ints]; rfl
  unfold V.flat; rw [e]; rfl
theorem kyB_ok {s : Sn} {op : Nat} {args : List Int} {i : Int} (h : kyB s (op, args, i) = true) : Ky s.1 s.2 op args i := by
  unfold kyB at h
  by_cases e : fd s.1 ⟨op, args, 0, i⟩ = 0
  · have k : keyOf s.1 op args i = dV op args i := if_pos e
    rw [show (fd s.1 ⟨op, args, 0, i⟩ == 0) = true from by rw [e]; rfl] at h
    refine ⟨by rw [k]; rfl, .inl ⟨_, k, dV_isKey op args i, by rw [k]; exact dV_flat, ?_⟩⟩
    rw [k]; simpa using h
  · have k : keyOf s.1 op args i = .int (fd s.1 ⟨op, args, 0, i⟩) := if_neg e
    rw [show (fd s.1 ⟨op, args, 0, i⟩ == 0) = false from beq_eq_false_iff_ne.mpr e] at h
    obtain ⟨v, g, q⟩ : ∃ v, getI s.2 (fd s.1 ⟨op, args, 0, i⟩) = some v ∧ V.same v (dV op args i) = true := by
      cases g : getI s.2 (fd s.1 ⟨op, args, 0, i⟩) with
      | none => rw [g] at h; exact ff h
      | some v => rw [g] at h; exact ⟨v, rfl, h⟩
    refine ⟨?_, .inr ⟨_, k, by rw [g]; rfl⟩⟩
    rw [k, ← same_eq _ _ q]
    show (getI s.2 _).getD _ = _
    rw [g]; rfl
/-- the atoms that an asking may need -/
noncomputable def asks (wide more : Nat) : List (Nat × List Int × Int) :=
  (List.range wide).flatMap (fun (i : Nat) => [(7629154, [3], (i : Int)), (7629154, [4], (i : Int))]) ++ (List.range more).map (fun (i : Nat) => (7629154, [5], (i : Int))) ++
  (List.range (wide - 1)).flatMap fun (i : Nat) => [(521611141475, [3, 4], (i : Int) + 1), (512970483042, [3, 4], (i : Int) + 1)]
noncomputable def atB (ts : List Tm) (i : Nat) (t : Tm) : Bool := match ts[i - 1]? with | some u => u.eqb t | none => false
theorem atB_ok {ts : List Tm} {i : Nat} {t : Tm} (h : atB ts i t = true) (i0 : 1 ≤ i) (i1 : i ≤ 1000) : At ts (i : Int) t := by
  unfold atB at h
  refine ⟨by lia, by lia, ?_⟩
  rw [Int.toNat_natCast]
  cases e : ts[i - 1]? with
  | none => rw [e] at h; exact ff h
  | some u => rw [e] at h; rw [Tm.eqb_iff.mp h]
noncomputable def chkS (wide more laps few : Nat) : Bool :=
  let s := scS wide more laps few wide
  Nat.ble s.1.length 60 && V.flats (s.2.map (·.2)) && (asks wide more).all (kyB s) && atB s.1 3 ⟨7368801, [], 3, 0⟩ && atB s.1 5 ⟨7368801, [], szOf wide more, 2⟩ && (getI s.2 6).any (fun v => V.same v (dV 448630452852 [6] 0)) &&
  (List.range laps).all (fun k => atB s.1 (7 + k) (notT (6 + (k : Int)))) && atB s.1 6 ⟨7368801, [], 0, 3⟩
theorem all_scenes : ([1, 2, 3].all fun w => [1, 2, 3].all fun m => [0, 1, 2].all fun l => [0, 1, 2, 3].all fun f => chkS w m l f) = true := by decide +kernel
end Mini.L2
end
section
set_option autoImplicit false
set_option maxRecDepth 10000
set_option maxHeartbeats 4000000
namespace Mini.L2
open Mini
noncomputable def stk (cells : List Int) (t : Int) : O := .dS [(495740282211, .lst (intsV cells)), (1650553447, .int t)]
theorem l_grab {cells : List Int} {t wide : Int} (hc : cells.length ≤ 30) (t0 : 0 ≤ t) (t1 : t ≤ 1000) (hw : 0 < wide) :
    ∃ v : Int, 0 ≤ v ∧ v < wide ∧ ∀ n X ts rest, Ca P (n+16) law_grab [.ref 0, .int wide] (hp (stk cells t) X ts rest) (.int v) (hp (stk cells (t+1)) X ts rest) := by
  have hl' : ∀ H, callBi .len [.lst (intsV cells)] H = some (.int cells.length, H) := fun H => len_lst (by rw [intsV, List.length_map]) (okLen_of (show cells.length ≤ 1001 by lia))
  have w0 : wide ≠ 0 := by lia
  by_cases h : t < cells.length
  · obtain ⟨j, rfl⟩ : ∃ j : Nat, t = (j : Int) := ⟨t.toNat, by lia⟩
    have hj : j < cells.length := by lia
    have g : ∀ H, subV H (.lst (intsV cells)) (.int j) = some (.int cells[j]) := fun H => Mini.sub_lst t0 (by rw [Int.toNat_natCast, intsV, List.getElem?_map, List.getElem?_eq_getElem hj]; rfl) (by lia)
    refine ⟨Int.fmod cells[j] wide, Int.fmod_nonneg_of_pos _ hw, Int.fmod_lt_of_pos _ hw, fun n X ts rest => ?_⟩
    apply c_ret'
    · rfl
    · (repeat' (first | walk_at "mini e" | with_reducible exact hl' _ | with_reducible exact g _ | with_reducible exact b_mod w0 | walk_at "mini a"))
    · rfl
    · rfl
  · refine ⟨Int.fmod (3 * t + Int.fdiv (t * t) 4 + 2) wide, Int.fmod_nonneg_of_pos _ hw, Int.fmod_lt_of_pos _ hw, fun n X ts rest => ?_⟩
    apply c_ret'
    · rfl
    · (repeat' (first | walk_at "mini e" | with_reducible exact hl' _ | with_reducible exact b_mod w0 | with_reducible exact b_fdiv (by decide) (by decide) | with_reducible exact b_mul (by lia) | with_reducible exact b_mul (by decide) | walk_at "mini a"))
    · rfl
    · rfl
end Mini.L2
end
section
set_option autoImplicit false
set_option maxRecDepth 10000
set_option maxHeartbeats 4000000
namespace Mini.L2
open Mini
/-- what the scene gives -/
structure Sf (w m l : Nat) (s : Sn) : Prop where
  len : s.1.length ≤ 60
  flat : V.flats (s.2.map (·.2)) = true
  ky : ∀ q ∈ asks w m, Ky s.1 s.2 q.1 q.2.1 q.2.2
  tx : At s.1 3 ⟨7368801, [], 3, 0⟩
  tz : At s.1 5 ⟨7368801, [], szOf w m, 2⟩
  tk : getI s.2 6 = some (dV 448630452852 [6] 0)
  nots : Nots s.1 6 (6 + (l : Int)) l
theorem scene_facts {w m l f : Nat} (w0 : 1 ≤ w) (w1 : w ≤ 3) (m0 : 1 ≤ m) (m1 : m ≤ 3) (hl : l ≤ 2) (hf : f ≤ 3) : Sf w m l (scS w m l f w) := by
  have h : chkS w m l f = true := by
    have a := List.all_eq_true.mp all_scenes w (by simp; lia)
    have b := List.all_eq_true.mp a m (by simp; lia)
    have c := List.all_eq_true.mp b l (by simp; lia)
    exact List.all_eq_true.mp c f (by simp; lia)
  unfold chkS at h
  simp only [Bool.and_eq_true] at h
  obtain ⟨⟨⟨⟨⟨⟨⟨h1, h2⟩, h3⟩, h4⟩, h5⟩, h6⟩, h7⟩, h8⟩ := h
  have h7 : ∀ k < l, At (scS w m l f w).1 ((7 + k : Nat) : Int) (notT (6 + (k : Int))) := fun k hk => atB_ok (List.all_eq_true.mp h7 k (List.mem_range.mpr hk)) (by lia) (by lia)
  refine ⟨Nat.le_of_ble_eq_true h1, h2, fun q hq => kyB_ok (List.all_eq_true.mp h3 q hq), atB_ok h4 (by decide) (by decide), atB_ok h5 (by decide) (by decide), ?_, ?_⟩
  · cases g : getI (scS w m l f w).2 6 with
    | none => rw [g] at h6; exact ff h6
    | some v => rw [g] at h6; rw [same_eq _ _ h6]
  · have z : Nots (scS w m l f w).1 6 6 0 := .zero (atB_ok h8 (by decide) (by decide)) rfl
    have : l = 0 ∨ l = 1 ∨ l = 2 := by lia
    rcases this with e | e | e
    · rw [e] at z ⊢; exact z
    · have n1 := h7 0 (by lia)
      rw [e] at z n1 ⊢; exact .succ n1 z
    · have n1 := h7 0 (by lia)
      have n2 := h7 1 (by lia)
      rw [e] at z n1 n2 ⊢; exact .succ n2 (.succ n1 z)
section
variable {w m l : Nat} {s : Sn} {i : Int}
theorem Sf.kx (S : Sf w m l s) (i0 : 0 ≤ i) (i1 : i < w) : Ky s.1 s.2 7629154 [3] i ∧ Ky s.1 s.2 7629154 [4] i := by
  obtain ⟨j, rfl⟩ : ∃ j : Nat, i = (j : Int) := ⟨i.toNat, by lia⟩
  have hj : j < w := by lia
  refine ⟨S.ky (7629154, [3], (j : Int)) ?_, S.ky (7629154, [4], (j : Int)) ?_⟩ <;> (refine List.mem_append_left _ (List.mem_append_left _ (List.mem_flatMap.mpr ⟨j, List.mem_range.mpr hj, ?_⟩)); simp)
theorem Sf.kz (S : Sf w m l s) (i0 : 0 ≤ i) (i1 : i < m) : Ky s.1 s.2 7629154 [5] i := by
  obtain ⟨j, rfl⟩ : ∃ j : Nat, i = (j : Int) := ⟨i.toNat, by lia⟩
  exact S.ky (7629154, [5], (j : Int)) (List.mem_append_left _ (List.mem_append_right _ (List.mem_map.mpr ⟨j, List.mem_range.mpr (by lia), rfl⟩)))
theorem Sf.ks (S : Sf w m l s) (i0 : 0 < i) (i1 : i < w) : Ky s.1 s.2 521611141475 [3, 4] i ∧ Ky s.1 s.2 512970483042 [3, 4] i := by
  obtain ⟨j, rfl⟩ : ∃ j : Nat, i = (j : Int) + 1 := ⟨(i - 1).toNat, by lia⟩
  have hj : j < w - 1 := by lia
  refine ⟨S.ky (521611141475, [3, 4], (j : Int) + 1) ?_, S.ky (512970483042, [3, 4], (j : Int) + 1) ?_⟩ <;> (refine List.mem_append_right _ (List.mem_flatMap.mpr ⟨j, List.mem_range.mpr hj, ?_⟩); simp)
/-- an atom of a wanted formula -/
structure Ao (mk : List (Int × V)) (op : Nat) (i : Int) (k : V) : Prop where
  a : AtOk mk op i k
  t : Tl (toldOf mk k)
theorem Ao.keyOk {mk : List (Int × V)} {op : Nat} {k : V} (h : Ao mk op i k) : KeyOk k := by
  rcases h.a.key with ⟨l, e, q, _⟩ | ⟨x, e, _⟩
  · exact .inr ⟨l, e, q⟩
  · exact .inl ⟨x, e⟩
theorem ao_bit {op : Nat} {t j : Int} (K : Ky s.1 s.2 7629154 [t] j) (ht : t = 3 ∨ t = 4 ∨ t = 5) (j0 : 0 ≤ j) (j1 : j ≤ 20) : Ao s.2 op i (keyOf s.1 7629154 [t] j) :=
  ⟨⟨.inl ⟨7629154, [t], j, .inr rfl, K.told⟩, K.key⟩, K.told ▸ .bit ht j0 j1⟩
theorem ao_carry (K : Ky s.1 s.2 521611141475 [3, 4] i) (i0 : 0 < i) (i1 : i ≤ 20) : Ao s.2 431180838498 i (keyOf s.1 521611141475 [3, 4] i) :=
  ⟨⟨.inr (.inl ⟨[3, 4], rfl, by lia, K.told⟩), K.key⟩, K.told ▸ .carry (by lia) i1⟩
theorem ao_below (K : Ky s.1 s.2 512970483042 [3, 4] i) (i0 : 0 < i) (i1 : i ≤ 20) : Ao s.2 422877296226 i (keyOf s.1 512970483042 [3, 4] i) :=
  ⟨⟨.inr (.inr ⟨[3, 4], rfl, by lia, K.told⟩), K.key⟩, K.told ▸ .below (by lia) i1⟩
theorem ao_truth {op : Nat} (S : Sf w m l s) : Ao s.2 op i (.int 6) := by
  have e : toldOf s.2 (.int 6) = dV 448630452852 [6] 0 := by show (getI s.2 6).getD _ = _; rw [S.tk]; rfl
  exact ⟨⟨.inl ⟨448630452852, [6], 0, .inl rfl, e⟩, .inr ⟨6, rfl, by rw [S.tk]; rfl⟩⟩, e ▸ .truth 0⟩
end
/-! the plain laws of the operations, on small numbers -/
noncomputable def bt (v i : Int) : Bool := decide (Int.fmod (Int.fdiv v (2 ^ i.toNat)) 2 = 1)
noncomputable def caB (x y i : Int) : Bool := decide (2 ^ i.toNat ≤ Int.fmod x (2 ^ i.toNat) + Int.fmod y (2 ^ i.toNat))
noncomputable def beB (x y i : Int) : Bool := decide (Int.fmod x (2 ^ i.toNat) < Int.fmod y (2 ^ i.toNat))
theorem mem_upto' {k a : Int} (h0 : 0 ≤ a) (h1 : a < k) : a ∈ upto k := List.mem_map.mpr ⟨a.toNat, List.mem_range.mpr (by lia), by lia⟩
theorem pl_xy : ((upto 8).all fun x => (upto 8).all fun y => (upto 3).all fun i =>
    ((bt x i && bt y i) == bt (bitsS 431348610658 x y) i) && ((bt x i || bt y i) == bt (bitsS 1919907426 x y) i) && ((bt x i != bt y i) == bt (bitsS 491496437346 x y) i) &&
    (((bt x i != bt y i) != (if i = 0 then false else caB x y i)) == bt (x + y) i) && (((bt x i != bt y i) != (if i = 0 then false else beB x y i)) == bt (x - y) i)) = true := by decide +kernel
theorem pl_x : ((upto 8).all fun x => (upto 3).all fun i => ((!bt x i) == bt (-1 - x) i) && ((upto 3).all fun lo => bt x (i + lo) == bt (Int.fdiv x (2 ^ lo.toNat)) i)) = true := by decide +kernel
theorem pl_w : ((upto 4).all fun w => (upto (2 ^ w.toNat)).all fun x => (upto 5).all fun i => ((if i < w then bt x i else false) == bt x i) && (decide (w = 0) || ((if i < w then bt x i else bt x (w - 1)) == bt (x - 2 ^ w.toNat * nB (decide (2 ^ (w - 1).toNat ≤ x))) i))) = true := by decide +kernel
theorem pl_z : ((upto 4).all fun m => (upto 8).all fun x => (upto (2 ^ m.toNat)).all fun z => (upto 6).all fun i => (if i < m then bt z i else bt x (i - m)) == bt (x * 2 ^ m.toNat + z) i) = true := by decide +kernel
end Mini.L2
end
section
set_option autoImplicit false
set_option maxRecDepth 10000
set_option maxHeartbeats 4000000
namespace Mini.L2
open Mini
noncomputable def nyOf (op len : Nat) (top : Int) : Int := bif decide (1 < len) && !Nat.beq op 127961628831587 then top else 1
noncomputable def nzOf (op m : Nat) : Int := bif Nat.beq op 127961628831587 then 2 ^ m else 1
noncomputable def csOf (op : Nat) : List Int := bif Nat.beq op 6648937 then [0, 1] else [0]
section
variable {H : Hp} {jr : Nat} {p : Nat × Nat} {data : V} {i : Int} {mk : List (Int × V)} {t tu : Int} {F : Fm} {top : Int} {w m : Nat} {l : List V}
theorem len_tup {H : Hp} {l : List V} (h : l.length ≤ 1000) : callBi .len [.tup l] H = some (.int l.length, H) := by
  show (bif okLen l.length then some (V.int l.length, H) else Option.none) = _; exact btt (okLen_of (by lia)) rfl
theorem ev_y (n : Nat) (ρ : Lo) (H : Hp) (hl : l.length ≤ 1000) (I : Iw ρ H jr p (.tup l) data i mk t w m tu F top) : Ev P (n+20) yE ρ H (.int (nyOf p.1 l.length top)) H := by
  have L : Ev P (n+17) (.bi .len [.var 1701670771]) ρ H (.int l.length) H := e_bi (es_cons (e_var' I.l.some) es_nil) (len_tup hl)
  have c1 : Ev P (n+18) (.cmp (.bi .len [.var 1701670771]) [.gt] [.num 1]) ρ H (.bool (decide (1 < (l.length : Int)))) H := e_cmp L e_num cop_gt_int
  have c2 : Ev P (n+18) (.cmp (.var 28783) [.ne] [.str 127961628831587]) ρ H (.bool (!Nat.beq p.1 127961628831587)) H := e_cmp (e_var' I.l.op) e_str cop_ne_str
  unfold nyOf
  by_cases h : 1 < l.length
  · rw [decide_eq_true h, Bool.true_and]
    have a : decide (1 < (l.length : Int)) = true := decide_eq_true (by lia)
    cases e : (!Nat.beq p.1 127961628831587) with
    | true => rw [e] at c2; exact e_ite (e_and c1 (ai_t a (e_and_1 c2))) (ei_t rfl (e_var' I.t))
    | false => rw [e] at c2; exact e_ite (e_and c1 (ai_t a (e_and_1 c2))) (ei_f rfl e_num)
  · rw [decide_eq_false h, Bool.false_and]
    exact e_ite (e_and c1 (ai_f (decide_eq_false (by lia)))) (ei_f rfl e_num)
theorem ev_z (n : Nat) (ρ : Lo) (H : Hp) {sm : V} (hm : m ≤ 3) (I : Iw ρ H jr p sm data i mk t w m tu F top) : Ev P (n+20) zE ρ H (.int (nzOf p.1 m)) H := by
  have c : Ev P (n+19) (.cmp (.var 28783) [.eq] [.str 127961628831587]) ρ H (.bool (Nat.beq p.1 127961628831587)) H := e_cmp (e_var' I.l.op) e_str cop_eq_str
  unfold nzOf
  cases e : Nat.beq p.1 127961628831587 with
  | true =>
    rw [e] at c
    have q : binV .pow (.int 2) (.int (m : Int)) = some (.int (2 ^ m)) := by rw [b_pow (by decide) (by lia) (by lia), Int.toNat_natCast]
    exact e_ite c (ei_t rfl (e_bin e_num (e_sub (e_var' I.l.scene) e_str (s_sc I.w.s rfl)) q))
  | false => rw [e] at c; exact e_ite c (ei_f rfl e_num)
theorem ev_c (n : Nat) (ρ : Lo) (H : Hp) {sm : V} (I : Iw ρ H jr p sm data i mk t w m tu F top) : Ev P (n+20) cE ρ H (.tup ((csOf p.1).map V.int)) H := by
  have c : Ev P (n+19) (.cmp (.var 28783) [.eq] [.str 6648937]) ρ H (.bool (Nat.beq p.1 6648937)) H := e_cmp (e_var' I.l.op) e_str cop_eq_str
  unfold csOf
  cases e : Nat.beq p.1 6648937 with
  | true => rw [e] at c; exact e_ite c (ei_t rfl (e_tup (es_cons e_num (es_cons e_num es_nil)) rfl))
  | false => rw [e] at c; exact e_ite c (ei_f rfl (e_tup (es_cons e_num es_nil) rfl))
end
/-- what an asking brings -/
structure Ask (w m l : Nat) (s : Sn) (X : Ext) (tu : Int) (p : Nat × Nat) (some data : V) (i : Int) : Prop where
  h : ∃ (F : Fm) (N : Int → Int → Int → Int → Int) (ny nz : Int) (cs : List Int), F.atoms.length ≤ 100 ∧ (∀ k ∈ F.atoms, AtOk s.2 p.1 i k) ∧
    (∀ n st rest jr tr, nth (hp st X s.1 rest) jr = Option.some (jO tr) → Ca P (n+60) BitJudge_wanted_bit [.ref jr, .str p.1, some, data, .int i, .str p.2] (hp st X s.1 rest) F.V (hp st X s.1 rest)) ∧
    ∀ jr, Wo jr p some data i s.2 (6 + (l : Int)) w m tu F N (2 ^ w) ny nz cs
section
variable {w m l : Nat} {s : Sn} {X : Ext} {tu : Int} {p : Nat × Nat} {sl : List V} {data : V} {i : Int}
theorem top_ok (w1 : w ≤ 3) : (0 : Int) ≤ 2 ^ w ∧ (2 : Int) ^ w ≤ 8 := by
  have : w = 0 ∨ w = 1 ∨ w = 2 ∨ w = 3 := by lia
  rcases this with rfl | rfl | rfl | rfl <;> decide
theorem up8 (w1 : w ≤ 3) {x : Int} (h : x ∈ upto (2 ^ w)) : x ∈ upto 8 := by
  have := mem_upto h; have := (top_ok w1).2
  exact mem_upto' (by lia) (by lia)
theorem ask_of (S : Sf w m l s) (w1 : w ≤ 3) (m1 : m ≤ 3) (i0 : 0 ≤ i) (i1 : i ≤ 20) (F : Fm) (N : Int → Int → Int → Int → Int) (hs : sl.length ≤ 10) (hd : F.dep ≤ 4) (hA : F.atoms.length ≤ 100) (A : ∀ k ∈ F.atoms, Ao s.2 p.1 i k)
    (Wn : ∀ n st rest jr tr, nth (hp st X s.1 rest) jr = Option.some (jO tr) → Ca P (n+60) BitJudge_wanted_bit [.ref jr, .str p.1, .tup sl, data, .int i, .str p.2] (hp st X s.1 rest) F.V (hp st X s.1 rest))
    (num : ∀ x y z c, x ∈ upto (2 ^ w) → y ∈ upto (nyOf p.1 sl.length (2 ^ w)) → z ∈ upto (nzOf p.1 m) → c ∈ csOf p.1 → ∀ (H : Hp) (vr : Nat), nth H 14 = Option.some (scO (6 + (l : Int)) w m tu) → nth H vr = Option.some (.dI (vlO x y z c)) → ∃ J, ∀ n, Ca P (n+60) law_number [.str p.1, .ref 14, .ref vr, data] H (.int (N x y z c)) (H ++ J))
    (ok : ∀ x y z c, x ∈ upto (2 ^ w) → y ∈ upto (nyOf p.1 sl.length (2 ^ w)) → z ∈ upto (nzOf p.1 m) → c ∈ csOf p.1 → F.ev (fun k => semD x y z c (toldOf s.2 k)) = bt (N x y z c) i) :
    Ask w m l s X tu p (.tup sl) data i := by
  have T := top_ok w1
  have T2 := top_ok m1
  refine ⟨F, N, nyOf p.1 sl.length (2 ^ w), nzOf p.1 m, csOf p.1, hA, fun k hk => (A k hk).a, Wn, fun jr => ⟨hd, fun k hk => ⟨(A k hk).keyOk, (A k hk).t⟩, i0, i1, T, ?_, ?_, fun n ρ H I => ev_y n ρ H (by lia) I, fun n ρ H I => ev_z n ρ H m1 I, fun n ρ H I => ev_c n ρ H I, num, ok⟩⟩
  · unfold nyOf; cases (decide (1 < sl.length) && !Nat.beq p.1 127961628831587) <;> simp only [cond_true, cond_false] <;> first | exact T | decide
  · unfold nzOf; cases Nat.beq p.1 127961628831587 <;> simp only [cond_true, cond_false] <;> first | exact T2 | decide
theorem nw_of {H : Hp} {vr : Nat} {t x y z c : Int} (w0 : 1 ≤ w) (w1 : w ≤ 3) (m0 : 1 ≤ m) (m1 : m ≤ 3) (hx : x ∈ upto (2 ^ w)) (h1 : nth H 14 = Option.some (scO t w m tu)) (h2 : nth H vr = Option.some (.dI (vlO x y z c))) : Nw H vr t w m tu x y z c := by
  have a := mem_upto hx; have := (top_ok w1).2
  exact ⟨h1, h2, by lia, by lia, by lia, by lia, a.1, by lia⟩
theorem sem_bit {x y z c t j : Int} (K : Ky s.1 s.2 7629154 [t] j) : semD x y z c (toldOf s.2 (keyOf s.1 7629154 [t] j)) = bt (va x y z c t) j := by rw [K.told]; rfl
theorem sem_carry {x y z c : Int} (K : Ky s.1 s.2 521611141475 [3, 4] i) : semD x y z c (toldOf s.2 (keyOf s.1 521611141475 [3, 4] i)) = caB x y i := by rw [K.told]; rfl
theorem sem_below {x y z c : Int} (K : Ky s.1 s.2 512970483042 [3, 4] i) : semD x y z c (toldOf s.2 (keyOf s.1 512970483042 [3, 4] i)) = beB x y i := by rw [K.told]; rfl
/-- the number of an operation out of the dict of numbers -/
theorem num_of {op : Nat} {data : V} {ex t x y z c N : Int} {H : Hp} {vr : Nat} (w0 : 1 ≤ w) (w1 : w ≤ 3) (m0 : 1 ≤ m) (m1 : m ≤ 3) (hx : x ∈ upto (2 ^ w)) (h1 : nth H 14 = Option.some (scO t w m tu)) (h2 : nth H vr = Option.some (.dI (vlO x y z c)))
    (o1 : Nat.beq op 6648937 = false) (o2 : Nat.beq op 121413913788299389262326131 = false) (e0 : 0 ≤ ex) (e1 : ex ≤ 20)
    (hE : ∀ (k : Nat) (ρ : Lo), Lk ρ 28783 (.str op) → Lk ρ 1635017060 data → Ev P (k+10) (.ite (.cmp (.var 28783) [.eq] [.str 32760367481649253]) (.sub (.var 1635017060) (.num 1)) (.num 0)) ρ H (.int ex) H)
    (g : (lk (ent data x y z m ex) op).getD (.int (bitsS op x y)) = .int N) : ∃ J, ∀ n, Ca P (n+60) law_number [.str op, .ref 14, .ref vr, data] H (.int N) (H ++ J) := by
  refine ⟨[.dS (ent data x y z m ex)], fun n => ?_⟩
  rw [← g]
  exact num_dict (n := n+10) (nw_of w0 w1 m0 m1 hx h1 h2) o1 o2 e0 e1 hE
theorem ex0 {H : Hp} {op : Nat} {data : V} (h : Nat.beq op 32760367481649253 = false) (k : Nat) (ρ : Lo) (L : Lk ρ 28783 (.str op)) (_ : Lk ρ 1635017060 data) : Ev P (k+10) (.ite (.cmp (.var 28783) [.eq] [.str 32760367481649253]) (.sub (.var 1635017060) (.num 1)) (.num 0)) ρ H (.int 0) H := by
  have c : Ev P (k+9) (.cmp (.var 28783) [.eq] [.str 32760367481649253]) ρ H (.bool (Nat.beq op 32760367481649253)) H := e_cmp (e_var' L) e_str cop_eq_str
  rw [h] at c
  exact e_ite c (ei_f rfl e_num)
end
end Mini.L2
end
section
set_option autoImplicit false
set_option maxRecDepth 10000
set_option maxHeartbeats 4000000
namespace Mini.L2
open Mini
theorem pxy {x y i : Int} (hx : x ∈ upto 8) (hy : y ∈ upto 8) (hi : i ∈ upto 3) : (bt x i && bt y i) = bt (bitsS 431348610658 x y) i ∧ (bt x i || bt y i) = bt (bitsS 1919907426 x y) i ∧ (bt x i != bt y i) = bt (bitsS 491496437346 x y) i ∧
    ((bt x i != bt y i) != (if i = 0 then false else caB x y i)) = bt (x + y) i ∧ ((bt x i != bt y i) != (if i = 0 then false else beB x y i)) = bt (x - y) i := by
  have h := List.all_eq_true.mp (List.all_eq_true.mp (List.all_eq_true.mp pl_xy x hx) y hy) i hi
  simp only [Bool.and_eq_true, beq_iff_eq] at h
  exact ⟨h.1.1.1.1, h.1.1.1.2, h.1.1.2, h.1.2, h.2⟩
section
variable {w m l : Nat} {s : Sn} {X : Ext} {tu : Int} {i : Int}
theorem i3 (w1 : w ≤ 3) (i0 : 0 ≤ i) (i1 : i < w) : i ∈ upto 3 := mem_upto' i0 (by lia)
set_option tactic.hygienic true in
theorem ask_num (S : Sf w m l s) (w0 : 1 ≤ w) (w1 : w ≤ 3) (m0 : 1 ≤ m) (m1 : m ≤ 3) (i0 : 0 ≤ i) (i1 : i < w) (d : Int) : Ask w m l s X tu (470121608802, 125779768604014) (.tup []) (.int d) i := by
  refine ask_of S w1 m1 i0 (by lia) (if Int.fmod (Int.fdiv d (2 ^ i.toNat)) 2 = 1 then Fm.tt else Fm.ff) (fun _ _ _ _ => d) (by decide) (by split <;> decide) (by split <;> decide) (fun k hk => ?_) (fun n st rest jr tr hj => w_num (n := n+20) hj i0)
    (fun x y z c hx hy hz hc H vr h1 h2 => num_of (ex := 0) w0 w1 m0 m1 hx h1 h2 rfl rfl (by decide) (by decide) (ex0 rfl) rfl) fun x y z c hx hy hz hc => ?_
  · exfalso; revert hk; split <;> intro hk <;> cases hk
  · unfold bt
    split
    · rename_i h; rw [decide_eq_true h]; rfl
    · rename_i h; rw [decide_eq_false h]; rfl
theorem ask_not (S : Sf w m l s) (w0 : 1 ≤ w) (w1 : w ≤ 3) (m0 : 1 ≤ m) (m1 : m ≤ 3) (i0 : 0 ≤ i) (i1 : i < w) : Ask w m l s X tu (500085716578, 7630702) (.tup [.int 3]) (.int 0) i := by
  have K := S.kx i0 i1
  refine ask_of S w1 m1 i0 (by lia) (.no (bitF s.1 i 3)) (fun x _ _ _ => -1 - x) (by decide) (Nat.le_of_ble_eq_true rfl) (Nat.le_of_ble_eq_true rfl) (fun k hk => ?_) (fun n st rest jr tr hj => w_not hj)
    (fun x y z c hx hy hz hc H vr h1 h2 => num_of (ex := 0) w0 w1 m0 m1 hx h1 h2 rfl rfl (by decide) (by decide) (ex0 rfl) rfl) fun x y z c hx hy hz hc => ?_
  · rw [List.mem_singleton.mp hk]; exact ao_bit K.1 (.inl rfl) i0 (by lia)
  · show (!semD x y z c (toldOf s.2 (keyOf s.1 7629154 [3] i))) = _
    rw [sem_bit K.1]
    have h := List.all_eq_true.mp (List.all_eq_true.mp pl_x x (up8 w1 hx)) i (i3 w1 i0 i1)
    simp only [Bool.and_eq_true, beq_iff_eq] at h
    exact h.1
/-- two bits and what binds them -/
theorem ask_two (S : Sf w m l s) (w0 : 1 ≤ w) (w1 : w ≤ 3) (m0 : 1 ≤ m) (m1 : m ≤ 3) (i0 : 0 ≤ i) (i1 : i < w) {p : Nat × Nat} (f : Fm → Fm → Fm) (g : Bool → Bool → Bool) (hf : ∀ a b sm, (f a b).ev sm = g (a.ev sm) (b.ev sm)) (ha : ∀ a b, (f a b).atoms = a.atoms ++ b.atoms) (hd : ∀ a b, (f a b).dep = max a.dep b.dep + 1)
    (N : Int → Int → Int) (hp' : ∀ x y, x ∈ upto 8 → y ∈ upto 8 → g (bt x i) (bt y i) = bt (N x y) i) (hc' : Nat.beq p.1 127961628831587 = false) (o1 : Nat.beq p.1 6648937 = false) (o2 : Nat.beq p.1 121413913788299389262326131 = false) (o3 : Nat.beq p.1 32760367481649253 = false)
    (Wn : ∀ n st rest jr tr, nth (hp st X s.1 rest) jr = Option.some (jO tr) → Ca P (n+60) BitJudge_wanted_bit [.ref jr, .str p.1, .tup [.int 3, .int 4], .int 0, .int i, .str p.2] (hp st X s.1 rest) (f (bitF s.1 i 3) (bitF s.1 i 4)).V (hp st X s.1 rest))
    (gN : ∀ x y z, (lk (ent (.int 0) x y z m 0) p.1).getD (.int (bitsS p.1 x y)) = .int (N x y)) : Ask w m l s X tu p (.tup [.int 3, .int 4]) (.int 0) i := by
  have K := S.kx i0 i1
  refine ask_of S w1 m1 i0 (by lia) (f (bitF s.1 i 3) (bitF s.1 i 4)) (fun x y _ _ => N x y) (by decide) (by rw [hd]; exact Nat.le_of_ble_eq_true rfl) (by rw [ha]; exact Nat.le_of_ble_eq_true rfl) (fun k hk => ?_) Wn
    (fun x y z c hx hy hz hc H vr h1 h2 => num_of (ex := 0) w0 w1 m0 m1 hx h1 h2 o1 o2 (by decide) (by decide) (ex0 o3) (gN x y z)) fun x y z c hx hy hz hc => ?_
  · rw [ha] at hk
    rcases List.mem_append.mp hk with hk | hk
    · rw [List.mem_singleton.mp hk]; exact ao_bit K.1 (.inl rfl) i0 (by lia)
    · rw [List.mem_singleton.mp hk]; exact ao_bit K.2 (.inr (.inl rfl)) i0 (by lia)
  · have hy : y ∈ upto (2 ^ w) := by
      have e : nyOf p.1 2 (2 ^ w) = 2 ^ w := by unfold nyOf; rw [hc']; rfl
      have hy : y ∈ upto (nyOf p.1 2 (2 ^ w)) := hy
      rwa [e] at hy
    rw [hf]
    show g (semD x y z c (toldOf s.2 (keyOf s.1 7629154 [3] i))) (semD x y z c (toldOf s.2 (keyOf s.1 7629154 [4] i))) = _
    rw [sem_bit K.1, sem_bit K.2]
    exact hp' x y (up8 w1 hx) (up8 w1 hy)
theorem ask_and (S : Sf w m l s) (w0 : 1 ≤ w) (w1 : w ≤ 3) (m0 : 1 ≤ m) (m1 : m ≤ 3) (i0 : 0 ≤ i) (i1 : i < w) : Ask w m l s X tu (431348610658, 6581857) (.tup [.int 3, .int 4]) (.int 0) i :=
  ask_two S w0 w1 m0 m1 i0 i1 .an (fun a b => a && b) (fun _ _ _ => rfl) (fun _ _ => rfl) (fun _ _ => rfl) (bitsS 431348610658) (fun x y hx hy => (pxy hx hy (i3 w1 i0 i1)).1) rfl rfl rfl rfl (fun n st rest jr tr hj => w_and hj) fun _ _ _ => rfl
theorem ask_or (S : Sf w m l s) (w0 : 1 ≤ w) (w1 : w ≤ 3) (m0 : 1 ≤ m) (m1 : m ≤ 3) (i0 : 0 ≤ i) (i1 : i < w) : Ask w m l s X tu (1919907426, 29295) (.tup [.int 3, .int 4]) (.int 0) i :=
  ask_two S w0 w1 m0 m1 i0 i1 .og (fun a b => a || b) (fun _ _ _ => rfl) (fun _ _ => rfl) (fun _ _ => rfl) (bitsS 1919907426) (fun x y hx hy => (pxy hx hy (i3 w1 i0 i1)).2.1) rfl rfl rfl rfl (fun n st rest jr tr hj => w_or hj) fun _ _ _ => rfl
theorem ask_xor (S : Sf w m l s) (w0 : 1 ≤ w) (w1 : w ≤ 3) (m0 : 1 ≤ m) (m1 : m ≤ 3) (i0 : 0 ≤ i) (i1 : i < w) : Ask w m l s X tu (491496437346, 7499640) (.tup [.int 3, .int 4]) (.int 0) i :=
  ask_two S w0 w1 m0 m1 i0 i1 .xo (fun a b => a != b) (fun _ _ _ => rfl) (fun _ _ => rfl) (fun _ _ => rfl) (bitsS 491496437346) (fun x y hx hy => (pxy hx hy (i3 w1 i0 i1)).2.2.1) rfl rfl rfl rfl (fun n st rest jr tr hj => w_xor hj) fun _ _ _ => rfl
/-- two bits and a carry or a borrow -/
theorem ask_side (S : Sf w m l s) (w0 : 1 ≤ w) (w1 : w ≤ 3) (m0 : 1 ≤ m) (m1 : m ≤ 3) (i0 : 0 ≤ i) (i1 : i < w) {p : Nat × Nat} {so : Nat} (N : Int → Int → Int) (cb : Int → Int → Int → Bool) (A : 0 < i → Ao s.2 p.1 i (keyOf s.1 so [3, 4] i)) (sem : 0 < i → ∀ x y z c, semD x y z c (toldOf s.2 (keyOf s.1 so [3, 4] i)) = cb x y i)
    (hp' : ∀ x y, x ∈ upto 8 → y ∈ upto 8 → ((bt x i != bt y i) != (if i = 0 then false else cb x y i)) = bt (N x y) i) (hc' : Nat.beq p.1 127961628831587 = false) (o1 : Nat.beq p.1 6648937 = false) (o2 : Nat.beq p.1 121413913788299389262326131 = false) (o3 : Nat.beq p.1 32760367481649253 = false)
    (Wn : ∀ n st rest jr tr, nth (hp st X s.1 rest) jr = Option.some (jO tr) → Ca P (n+60) BitJudge_wanted_bit [.ref jr, .str p.1, .tup [.int 3, .int 4], .int 0, .int i, .str p.2] (hp st X s.1 rest) (Fm.xo (Fm.xo (bitF s.1 i 3) (bitF s.1 i 4)) (sideF s.1 so i 3 4)).V (hp st X s.1 rest))
    (gN : ∀ x y z, (lk (ent (.int 0) x y z m 0) p.1).getD (.int (bitsS p.1 x y)) = .int (N x y)) : Ask w m l s X tu p (.tup [.int 3, .int 4]) (.int 0) i := by
  have K := S.kx i0 i1
  have dp : (sideF s.1 so i 3 4).dep = 0 := by unfold sideF; split <;> rfl
  have at_ : ∀ k ∈ (sideF s.1 so i 3 4).atoms, 0 < i ∧ k = keyOf s.1 so [3, 4] i := by
    intro k hk
    unfold sideF at hk
    split at hk
    · cases hk
    · exact ⟨by lia, List.mem_singleton.mp hk⟩
  have al : (sideF s.1 so i 3 4).atoms.length ≤ 1 := by unfold sideF; split <;> exact Nat.le_of_ble_eq_true rfl
  refine ask_of S w1 m1 i0 (by lia) (.xo (.xo (bitF s.1 i 3) (bitF s.1 i 4)) (sideF s.1 so i 3 4)) (fun x y _ _ => N x y) (by decide) (by show max _ (sideF s.1 so i 3 4).dep + 1 ≤ 4; rw [dp]; exact Nat.le_of_ble_eq_true rfl) (by show (_ ++ (sideF s.1 so i 3 4).atoms).length ≤ 100; rw [List.length_append]; have : ((Fm.xo (bitF s.1 i 3) (bitF s.1 i 4)).atoms).length = 2 := rfl; lia) (fun k hk => ?_) Wn
    (fun x y z c hx hy hz hc H vr h1 h2 => num_of (ex := 0) w0 w1 m0 m1 hx h1 h2 o1 o2 (by decide) (by decide) (ex0 o3) (gN x y z)) fun x y z c hx hy hz hc => ?_
  · rcases List.mem_append.mp hk with hk | hk
    · rcases List.mem_append.mp hk with hk | hk
      · rw [List.mem_singleton.mp hk]; exact ao_bit K.1 (.inl rfl) i0 (by lia)
      · rw [List.mem_singleton.mp hk]; exact ao_bit K.2 (.inr (.inl rfl)) i0 (by lia)
    · have q := at_ k hk
      rw [q.2]; exact A q.1
  · have hy : y ∈ upto (2 ^ w) := by
      have e : nyOf p.1 2 (2 ^ w) = 2 ^ w := by unfold nyOf; rw [hc']; rfl
      have hy : y ∈ upto (nyOf p.1 2 (2 ^ w)) := hy
      rwa [e] at hy
    show ((semD x y z c (toldOf s.2 (keyOf s.1 7629154 [3] i)) != semD x y z c (toldOf s.2 (keyOf s.1 7629154 [4] i))) != (sideF s.1 so i 3 4).ev _) = _
    rw [sem_bit K.1, sem_bit K.2]
    have e : (sideF s.1 so i 3 4).ev (fun k => semD x y z c (toldOf s.2 k)) = (if i = 0 then false else cb x y i) := by
      unfold sideF
      by_cases z0 : i = 0
      · rw [if_pos z0, if_pos z0]; rfl
      · rw [if_neg z0, if_neg z0]; exact sem (by lia) x y z c
    rw [e]
    exact hp' x y (up8 w1 hx) (up8 w1 hy)
theorem ask_sum (S : Sf w m l s) (w0 : 1 ≤ w) (w1 : w ≤ 3) (m0 : 1 ≤ m) (m1 : m ≤ 3) (i0 : 0 ≤ i) (i1 : i < w) : Ask w m l s X tu (431180838498, 7173491) (.tup [.int 3, .int 4]) (.int 0) i :=
  ask_side S w0 w1 m0 m1 i0 i1 (fun x y => x + y) caB (fun h => ao_carry (S.ks h i1).1 h (by lia)) (fun h _ _ _ _ => sem_carry (S.ks h i1).1) (fun x y hx hy => (pxy hx hy (i3 w1 i0 i1)).2.2.2.1) rfl rfl rfl rfl (fun n st rest jr tr hj => w_sum hj) fun _ _ _ => rfl
theorem ask_diff (S : Sf w m l s) (w0 : 1 ≤ w) (w1 : w ≤ 3) (m0 : 1 ≤ m) (m1 : m ≤ 3) (i0 : 0 ≤ i) (i1 : i < w) : Ask w m l s X tu (422877296226, 478793197323228067293540) (.tup [.int 3, .int 4]) (.int 0) i :=
  ask_side S w0 w1 m0 m1 i0 i1 (fun x y => x - y) beB (fun h => ao_below (S.ks h i1).2 h (by lia)) (fun h _ _ _ _ => sem_below (S.ks h i1).2) (fun x y hx hy => (pxy hx hy (i3 w1 i0 i1)).2.2.2.2) rfl rfl rfl rfl (fun n st rest jr tr hj => w_diff hj) fun _ _ _ => rfl
end
end Mini.L2
end
section
set_option autoImplicit false
set_option maxRecDepth 10000
set_option maxHeartbeats 4000000
namespace Mini.L2
open Mini
section
variable {w m l : Nat} {s : Sn} {X : Ext} {tu : Int} {i : Int}
theorem c01 {a : Int} (h : a ∈ csOf 6648937) : a = 0 ∨ a = 1 := by
  have h : a ∈ [(0 : Int), 1] := h
  simpa using h
theorem ch_atoms {k : V} (h : k ∈ (chF 6 l).atoms) : k = .int 6 := by
  unfold chF at h
  split at h <;> exact List.mem_singleton.mp h
theorem ch_len : (chF 6 l).atoms.length = 1 := by unfold chF; split <;> rfl
theorem ch_dep : (chF 6 l).dep ≤ 1 := by unfold chF; split <;> exact Nat.le_of_ble_eq_true rfl
theorem ch_ev (S : Sf w m l s) {x y z c : Int} (hc : c = 0 ∨ c = 1) : (chF 6 l).ev (fun k => semD x y z c (toldOf s.2 k)) = !decide (c = nB (decide (l % 2 = 1))) := by
  have e : semD x y z c (toldOf s.2 (.int 6)) = decide (c = 1) := by
    have e : toldOf s.2 (.int 6) = dV 448630452852 [6] 0 := by show (getI s.2 6).getD _ = _; rw [S.tk]; rfl
    rw [e]; rfl
  unfold chF
  by_cases h : l % 2 = 0
  · rw [if_pos h, show decide (l % 2 = 1) = false from decide_eq_false (by lia)]
    show semD x y z c (toldOf s.2 (.int 6)) = _
    rw [e]
    rcases hc with rfl | rfl <;> rfl
  · rw [if_neg h, show decide (l % 2 = 1) = true from decide_eq_true (by lia)]
    show (!semD x y z c (toldOf s.2 (.int 6))) = _
    rw [e]
    rcases hc with rfl | rfl <;> rfl
theorem ask_ite (S : Sf w m l s) (w0 : 1 ≤ w) (w1 : w ≤ 3) (m0 : 1 ≤ m) (m1 : m ≤ 3) (hl : l ≤ 2) (i0 : 0 ≤ i) (i1 : i < w) (ht : tu = nB (decide (l % 2 = 1))) : Ask w m l s X tu (6648937, 6648937) (.tup [.int (6 + (l : Int)), .int 3, .int 4]) (.int 0) i := by
  have K := S.kx i0 i1
  refine ask_of S w1 m1 i0 (by lia) (.og (.an (chF 6 l) (bitF s.1 i 3)) (.an (.no (chF 6 l)) (bitF s.1 i 4))) (fun x y _ c => if c ≠ tu then x else y) (Nat.le_of_ble_eq_true rfl) ?_ ?_ (fun k hk => ?_) (fun n st rest jr tr hj => w_ite hj S.nots (by lia) (by decide))
    (fun x y z c hx hy hz hc H vr h1 h2 => ⟨[], fun n => ?_⟩) fun x y z c hx hy hz hc => ?_
  · have := ch_dep (l := l)
    show max (max (chF 6 l).dep 0 + 1) (max ((chF 6 l).dep + 1) 0 + 1) + 1 ≤ 4
    lia
  · show (((chF 6 l).atoms ++ [_]) ++ ((chF 6 l).atoms ++ [_])).length ≤ 100
    simp only [List.length_append, ch_len, List.length_singleton]; decide
  · rcases List.mem_append.mp hk with hk | hk
    · rcases List.mem_append.mp hk with hk | hk
      · rw [ch_atoms hk]; exact ao_truth S
      · rw [List.mem_singleton.mp hk]; exact ao_bit K.1 (.inl rfl) i0 (by lia)
    · rcases List.mem_append.mp hk with hk | hk
      · rw [ch_atoms hk]; exact ao_truth S
      · rw [List.mem_singleton.mp hk]; exact ao_bit K.2 (.inr (.inl rfl)) i0 (by lia)
  · rw [List.append_nil]
    exact num_ite (n := n+20) (lo := 0) (nw_of w0 w1 m0 m1 hx h1 h2)
  · show ((chF 6 l).ev _ && semD x y z c (toldOf s.2 (keyOf s.1 7629154 [3] i)) || (!(chF 6 l).ev _) && semD x y z c (toldOf s.2 (keyOf s.1 7629154 [4] i))) = _
    rw [sem_bit K.1, sem_bit K.2, ch_ev S (c01 hc), ← ht]
    show ((!decide (c = tu)) && bt x i || (!(!decide (c = tu))) && bt y i) = _
    by_cases q : c = tu
    · rw [decide_eq_true q, if_neg (fun h => h q)]; simp
    · rw [decide_eq_false q, if_pos q]; simp
theorem ask_concat (S : Sf w m l s) (w0 : 1 ≤ w) (w1 : w ≤ 3) (m0 : 1 ≤ m) (m1 : m ≤ 3) (Wz : Wd X (szOf w m) m) (i0 : 0 ≤ i) (i1 : i < w + m) : Ask w m l s X tu (127961628831587, 1701996919) (.tup [.int 3, .int 5]) (.int 0) i := by
  have num : ∀ x y z c, x ∈ upto (2 ^ w) → y ∈ upto (nyOf 127961628831587 2 (2 ^ w)) → z ∈ upto (nzOf 127961628831587 m) → c ∈ csOf 127961628831587 → ∀ (H : Hp) (vr : Nat), nth H 14 = Option.some (scO (6 + (l : Int)) w m tu) → nth H vr = Option.some (.dI (vlO x y z c)) → ∃ J, ∀ n, Ca P (n+60) law_number [.str 127961628831587, .ref 14, .ref vr, .int 0] H (.int (x * 2 ^ ((m : Int)).toNat + z)) (H ++ J) :=
    fun x y z c hx hy hz hc H vr h1 h2 => num_of (ex := 0) w0 w1 m0 m1 hx h1 h2 rfl rfl (by decide) (by decide) (ex0 rfl) rfl
  have pz : ∀ x z, x ∈ upto (2 ^ w) → z ∈ upto (nzOf 127961628831587 m) → (if i < m then bt z i else bt x (i - m)) = bt (x * 2 ^ ((m : Int)).toNat + z) i := by
    intro x z hx hz
    have hz : z ∈ upto (2 ^ m) := hz
    have h := List.all_eq_true.mp (List.all_eq_true.mp (List.all_eq_true.mp (List.all_eq_true.mp pl_z (m : Int) (mem_upto' (by lia) (by lia))) x (up8 w1 hx)) z (by rw [Int.toNat_natCast]; exact hz)) i (mem_upto' i0 (by lia))
    exact beq_iff_eq.mp h
  by_cases q : i < m
  · have K := S.kz i0 q
    refine ask_of S w1 m1 i0 (by lia) (bitF s.1 i 5) (fun x _ z _ => x * 2 ^ ((m : Int)).toNat + z) (by decide) (Nat.le_of_ble_eq_true rfl) (Nat.le_of_ble_eq_true rfl) (fun k hk => ?_) (fun n st rest jr tr hj => w_wire hj fun n => ?_) num fun x y z c hx hy hz hc => ?_
    · rw [List.mem_singleton.mp hk]; exact ao_bit K (.inr (.inr rfl)) i0 (by lia)
    · have W := wi_concat (n := n) (x := 3) (d := 0) (i := i) hj S.tz Wz
      rwa [if_pos q] at W
    · show semD x y z c (toldOf s.2 (keyOf s.1 7629154 [5] i)) = _
      rw [sem_bit K, ← pz x z hx hz, if_pos q]; rfl
  · have K := (S.kx (i := i - m) (by lia) (by lia)).1
    refine ask_of S w1 m1 i0 (by lia) (bitF s.1 (i - m) 3) (fun x _ z _ => x * 2 ^ ((m : Int)).toNat + z) (by decide) (Nat.le_of_ble_eq_true rfl) (Nat.le_of_ble_eq_true rfl) (fun k hk => ?_) (fun n st rest jr tr hj => w_wire hj fun n => ?_) num fun x y z c hx hy hz hc => ?_
    · rw [List.mem_singleton.mp hk]; exact ao_bit K (.inl rfl) (by lia) (by lia)
    · have W := wi_concat (n := n) (x := 3) (d := 0) (i := i) hj S.tz Wz
      rwa [if_neg q] at W
    · show semD x y z c (toldOf s.2 (keyOf s.1 7629154 [3] (i - m))) = _
      rw [sem_bit K, ← pz x z hx hz, if_neg q]; rfl
theorem ask_extract (S : Sf w m l s) (w0 : 1 ≤ w) (w1 : w ≤ 3) (m0 : 1 ≤ m) (m1 : m ≤ 3) {lo a : Int} (l0 : 0 ≤ lo) (i0 : 0 ≤ i) (i1 : i + lo < w) : Ask w m l s X tu (32760367481649253, 1701996919) (.tup [.int 3]) (.tup [.int a, .int lo]) i := by
  have K := (S.kx (i := i + lo) (by lia) i1).1
  refine ask_of S w1 m1 i0 (by lia) (bitF s.1 (i + lo) 3) (fun x _ _ _ => Int.fdiv x (2 ^ lo.toNat)) (by decide) (Nat.le_of_ble_eq_true rfl) (Nat.le_of_ble_eq_true rfl) (fun k hk => ?_) (fun n st rest jr tr hj => w_wire hj fun n => wi_extract hj)
    (fun x y z c hx hy hz hc H vr h1 h2 => num_of (ex := lo) w0 w1 m0 m1 hx h1 h2 rfl rfl l0 (by lia) (fun k ρ Lo Ld => e_ite (e_cmp (e_var' Lo) e_str cop_eq_str) (ei_t rfl (e_sub (e_var' Ld) e_num rfl))) rfl) fun x y z c hx hy hz hc => ?_
  · rw [List.mem_singleton.mp hk]; exact ao_bit K (.inl rfl) (by lia) (by lia)
  · show semD x y z c (toldOf s.2 (keyOf s.1 7629154 [3] (i + lo))) = _
    rw [sem_bit K]
    have h := List.all_eq_true.mp (List.all_eq_true.mp pl_x x (up8 w1 hx)) i (i3 w1 i0 (by lia))
    simp only [Bool.and_eq_true, beq_iff_eq] at h
    exact beq_iff_eq.mp (List.all_eq_true.mp h.2 lo (mem_upto' l0 (by lia)))
theorem pw (w1 : w ≤ 3) {x : Int} (hx : x ∈ upto (2 ^ w)) (i0 : 0 ≤ i) (i1 : i < w + 2) : (if i < w then bt x i else false) = bt x i ∧ (w ≠ 0 → (if i < w then bt x i else bt x ((w : Int) - 1)) = bt (x - 2 ^ ((w : Int)).toNat * nB (decide (2 ^ ((w : Int) - 1).toNat ≤ x))) i) := by
  have h := List.all_eq_true.mp (List.all_eq_true.mp (List.all_eq_true.mp pl_w (w : Int) (mem_upto' (by lia) (by lia))) x (by rw [Int.toNat_natCast]; exact hx)) i (mem_upto' i0 (by lia))
  simp only [Bool.and_eq_true, Bool.or_eq_true, beq_iff_eq, decide_eq_true_eq] at h
  exact ⟨h.1, fun q => h.2.resolve_left (by lia)⟩
theorem ask_zext (S : Sf w m l s) (w0 : 1 ≤ w) (w1 : w ≤ 3) (m0 : 1 ≤ m) (m1 : m ≤ 3) (Wx : Wd X 3 w) (i0 : 0 ≤ i) (i1 : i < w + 2) : Ask w m l s X tu (121413913788299389279823226, 1701996919) (.tup [.int 3]) (.int 0) i := by
  have num : ∀ x y z c, x ∈ upto (2 ^ w) → y ∈ upto (nyOf 121413913788299389279823226 1 (2 ^ w)) → z ∈ upto (nzOf 121413913788299389279823226 m) → c ∈ csOf 121413913788299389279823226 → ∀ (H : Hp) (vr : Nat), nth H 14 = Option.some (scO (6 + (l : Int)) w m tu) → nth H vr = Option.some (.dI (vlO x y z c)) → ∃ J, ∀ n, Ca P (n+60) law_number [.str 121413913788299389279823226, .ref 14, .ref vr, .int 0] H (.int x) (H ++ J) :=
    fun x y z c hx hy hz hc H vr h1 h2 => num_of (ex := 0) w0 w1 m0 m1 hx h1 h2 rfl rfl (by decide) (by decide) (ex0 rfl) rfl
  by_cases q : i < w
  · have K := (S.kx i0 q).1
    refine ask_of S w1 m1 i0 (by lia) (bitF s.1 i 3) (fun x _ _ _ => x) (by decide) (Nat.le_of_ble_eq_true rfl) (Nat.le_of_ble_eq_true rfl) (fun k hk => ?_) (fun n st rest jr tr hj => w_wire hj fun n => ?_) num fun x y z c hx hy hz hc => ?_
    · rw [List.mem_singleton.mp hk]; exact ao_bit K (.inl rfl) i0 (by lia)
    · have W := wi_zext (n := n) (d := 0) (i := i) hj S.tx Wx
      rwa [if_pos q] at W
    · show semD x y z c (toldOf s.2 (keyOf s.1 7629154 [3] i)) = _
      rw [sem_bit K]; rfl
  · refine ask_of S w1 m1 i0 (by lia) .ff (fun x _ _ _ => x) (by decide) (Nat.le_of_ble_eq_true rfl) (Nat.le_of_ble_eq_true rfl) (fun k hk => by cases hk) (fun n st rest jr tr hj => w_wire hj fun n => ?_) num fun x y z c hx hy hz hc => ?_
    · have W := wi_zext (n := n) (d := 0) (i := i) hj S.tx Wx
      rwa [if_neg q] at W
    · rw [← (pw w1 hx i0 i1).1, if_neg q]; rfl
theorem ask_sext (S : Sf w m l s) (w0 : 1 ≤ w) (w1 : w ≤ 3) (m0 : 1 ≤ m) (m1 : m ≤ 3) (Wx : Wd X 3 w) (i0 : 0 ≤ i) (i1 : i < w + 2) : Ask w m l s X tu (121413913788299389262326131, 1701996919) (.tup [.int 3]) (.int 0) i := by
  have num : ∀ x y z c, x ∈ upto (2 ^ w) → y ∈ upto (nyOf 121413913788299389262326131 1 (2 ^ w)) → z ∈ upto (nzOf 121413913788299389262326131 m) → c ∈ csOf 121413913788299389262326131 → ∀ (H : Hp) (vr : Nat), nth H 14 = Option.some (scO (6 + (l : Int)) w m tu) → nth H vr = Option.some (.dI (vlO x y z c)) → ∃ J, ∀ n, Ca P (n+60) law_number [.str 121413913788299389262326131, .ref 14, .ref vr, .int 0] H (.int (x - 2 ^ ((w : Int)).toNat * nB (decide (2 ^ ((w : Int) - 1).toNat ≤ x)))) (H ++ J) :=
    fun x y z c hx hy hz hc H vr h1 h2 => ⟨[], fun n => by rw [List.append_nil]; exact num_sext (n := n+20) (lo := 0) (nw_of w0 w1 m0 m1 hx h1 h2)⟩
  by_cases q : i < w
  · have K := (S.kx i0 q).1
    refine ask_of S w1 m1 i0 (by lia) (bitF s.1 i 3) (fun x _ _ _ => x - 2 ^ ((w : Int)).toNat * nB (decide (2 ^ ((w : Int) - 1).toNat ≤ x))) (by decide) (Nat.le_of_ble_eq_true rfl) (Nat.le_of_ble_eq_true rfl) (fun k hk => ?_) (fun n st rest jr tr hj => w_wire hj fun n => ?_) num fun x y z c hx hy hz hc => ?_
    · rw [List.mem_singleton.mp hk]; exact ao_bit K (.inl rfl) i0 (by lia)
    · have W := wi_sext (n := n) (d := 0) (i := i) hj S.tx Wx
      rwa [if_pos q] at W
    · show semD x y z c (toldOf s.2 (keyOf s.1 7629154 [3] i)) = _
      rw [sem_bit K, ← (pw w1 hx i0 i1).2 (by lia), if_pos q]; rfl
  · have K := (S.kx (i := (w : Int) - 1) (by lia) (by lia)).1
    refine ask_of S w1 m1 i0 (by lia) (bitF s.1 ((w : Int) - 1) 3) (fun x _ _ _ => x - 2 ^ ((w : Int)).toNat * nB (decide (2 ^ ((w : Int) - 1).toNat ≤ x))) (by decide) (Nat.le_of_ble_eq_true rfl) (Nat.le_of_ble_eq_true rfl) (fun k hk => ?_) (fun n st rest jr tr hj => w_wire hj fun n => ?_) num fun x y z c hx hy hz hc => ?_
    · rw [List.mem_singleton.mp hk]; exact ao_bit K (.inl rfl) (by lia) (by lia)
    · have W := wi_sext (n := n) (d := 0) (i := i) hj S.tx Wx
      rwa [if_neg q] at W
    · show semD x y z c (toldOf s.2 (keyOf s.1 7629154 [3] ((w : Int) - 1))) = _
      rw [sem_bit K, ← (pw w1 hx i0 i1).2 (by lia), if_neg q]; rfl
end
end Mini.L2
end
section
set_option autoImplicit false
set_option maxRecDepth 10000
set_option maxHeartbeats 4000000
namespace Mini.L2
open Mini
theorem xi_fn {P : Prog} {n : Nat} {ρ ρ1 ρ' : Lo} {H H1 H' : Hp} {a b r : List S} {d : Bool} {f : Fl} (q : d = false) (g : Xs P n b ρ H .nxt ρ1 H1) (k : Xs P (n+1) r ρ1 H1 f ρ' H') : Xi P n d a b r ρ H f ρ' H' := ⟨fun c ρ0 H0 h e => by subst e; exact x_if_fn h q g k⟩
noncomputable def askB : List S := law_asked.body.drop 3
/-- the names of an asking, before it is told apart -/
structure Lq (ρ : Lo) (p : Nat × Nat) (w : Nat) : Prop where
  sack : Lk ρ 1801675123 (.ref 0)
  scene : Lk ρ 435643835251 (.ref 14)
  op : Lk ρ 28783 (.str p.1)
  kind : Lk ρ 1684957547 (.str p.2)
  wide : Lk ρ 1701079415 (.int w)
  x : Lk ρ 120 (.int 3)
  y : Lk ρ 121 (.int 4)
  some : Lk ρ 1701670771 (.tup [.int 3, .int 4])
  data : Lk ρ 1635017060 (.int 0)
  many : Lk ρ 2037277037 (.int w)
section
variable {n : Nat} {p : Nat × Nat} {H H1 H2 : Hp} {w m : Nat} {t tu v : Int} {r : V}
theorem asked_pre (hs : nth H1 14 = Option.some (scO t w m tu)) (g : ∀ n, Ca P (n+16) law_grab [.ref 0, .int 13] H (.int v) H1) (hr : ∀ rv, lk P.consts 2129981791643877076063 = Option.some rv → subV H1 rv (.int v) = Option.some (.tup [.str p.1, .str p.2]))
    (h : ∀ ρ, Lq ρ p w → ∃ ρ', Xs P (n+40) askB ρ H1 (.ret r) ρ' H2) : Ca P (n+40) law_asked [.ref 0, .ref 14] H r H2 := by
  have L0 : Lk (law_asked.params.zip [V.ref 0, V.ref 14]) 1801675123 (.ref 0) := lke_base rfl
  have L1 : Lk (law_asked.params.zip [V.ref 0, V.ref 14]) 435643835251 (.ref 14) := lke_base rfl
  have S1 : Ev P (n+39) (.sub (.cst 2129981791643877076063) (.call 1814802707652282510431 [.var 1801675123, .num 13])) (law_asked.params.zip [V.ref 0, V.ref 14]) H (.tup [.str p.1, .str p.2]) H1 := e_sub (e_cst rfl) (e_call rfl (es_cons (e_var' L0) (es_cons e_num es_nil)) (g (n+21))) (hr _ rfl)
  generalize hρ1 : lset (lset (law_asked.params.zip [V.ref 0, V.ref 14]) 28783 (.str p.1)) 1684957547 (.str p.2) = ρ1
  have a0 : Lk ρ1 1801675123 (.ref 0) := by rw [← hρ1]; exact lke_skip rfl (lke_skip rfl L0)
  have a1 : Lk ρ1 435643835251 (.ref 14) := by rw [← hρ1]; exact lke_skip rfl (lke_skip rfl L1)
  have a2 : Lk ρ1 28783 (.str p.1) := by rw [← hρ1]; exact lke_skip rfl lke_same
  have a3 : Lk ρ1 1684957547 (.str p.2) := by rw [← hρ1]; exact lke_same
  have S2 : Ev P (n+39) (.tup [.sub (.var 435643835251) (.str 1701079415), .sub (.var 435643835251) (.str 120), .sub (.var 435643835251) (.str 121)]) ρ1 H1 (.tup [.int w, .int 3, .int 4]) H1 :=
    e_tup (es_cons (e_sub (e_var' a1) e_str (s_sc hs rfl)) (es_cons (e_sub (e_var' a1) e_str (s_sc hs rfl)) (es_cons (e_sub (e_var' a1) e_str (s_sc hs rfl)) es_nil))) rfl
  generalize hρ2 : lset (lset (lset ρ1 1701079415 (.int w)) 120 (.int 3)) 121 (.int 4) = ρ2
  have M : ∀ {i v}, Nat.beq i 1701079415 = false → Nat.beq i 120 = false → Nat.beq i 121 = false → Lk ρ1 i v → Lk ρ2 i v := fun e1 e2 e3 h => by rw [← hρ2]; exact lke_skip e3 (lke_skip e2 (lke_skip e1 h))
  have b1 : Lk ρ2 1701079415 (.int w) := by rw [← hρ2]; exact lke_skip rfl (lke_skip rfl lke_same)
  have b2 : Lk ρ2 120 (.int 3) := by rw [← hρ2]; exact lke_skip rfl lke_same
  have b3 : Lk ρ2 121 (.int 4) := by rw [← hρ2]; exact lke_same
  have S3 : Ev P (n+39) (.tup [.tup [.var 120, .var 121], .num 0, .var 1701079415]) ρ2 H1 (.tup [.tup [.int 3, .int 4], .int 0, .int w]) H1 :=
    e_tup (es_cons (e_tup (es_cons (e_var' b2) (es_cons (e_var' b3) es_nil)) rfl) (es_cons e_num (es_cons (e_var' b1) es_nil))) rfl
  generalize hρ3 : lset (lset (lset ρ2 1701670771 (.tup [.int 3, .int 4])) 1635017060 (.int 0)) 2037277037 (.int w) = ρ3
  have M2 : ∀ {i v}, Nat.beq i 1701670771 = false → Nat.beq i 1635017060 = false → Nat.beq i 2037277037 = false → Lk ρ2 i v → Lk ρ3 i v := fun e1 e2 e3 h => by rw [← hρ3]; exact lke_skip e3 (lke_skip e2 (lke_skip e1 h))
  obtain ⟨ρ', e⟩ := h ρ3 ⟨M2 rfl rfl rfl (M rfl rfl rfl a0), M2 rfl rfl rfl (M rfl rfl rfl a1), M2 rfl rfl rfl (M rfl rfl rfl a2), M2 rfl rfl rfl (M rfl rfl rfl a3), M2 rfl rfl rfl b1, M2 rfl rfl rfl b2, M2 rfl rfl rfl b3, by rw [← hρ3]; exact lke_skip rfl (lke_skip rfl lke_same), by rw [← hρ3]; exact lke_skip rfl lke_same, by rw [← hρ3]; exact lke_same⟩
  exact c_ret rfl (ρ' := ρ') (x_asgt S1 (ρ1 := ρ1) (by rw [← hρ1]; rfl) (x_asgt S2 (ρ1 := ρ2) (by rw [← hρ2]; rfl) (x_asgt S3 (ρ1 := ρ3) (by rw [← hρ3]; rfl) e)))
/-- the operations that need nothing besides -/
theorem ask_plain {i : Int} (h1 : Nat.beq p.1 470121608802 = false) (h2 : Nat.beq p.1 6648937 = false) (h3 : Nat.beq p.1 127961628831587 = false) (h4 : Nat.beq p.1 32760367481649253 = false)
    (h5 : cop .isin H (.str p.1) (.tup [.str 500085716578, .str 121413913788299389279823226, .str 121413913788299389262326131]) = Option.some false) (g : ∀ n, Ca P (n+16) law_grab [.ref 0, .int w] H (.int i) H2) {ρ : Lo} (L : Lq ρ p w) : ∃ ρ', Xs P (n+40) askB ρ H (.ret (.tup [.str p.1, .str p.2, .tup [.int 3, .int 4], .int 0, .int i])) ρ' H2 := by
  obtain ⟨a1, a2, a3, a4, a5, a6, a7, a8, a9, a10⟩ := L
  have c1 : cop .eq H (.str p.1) (.str 470121608802) = Option.some false := by rw [cop_eq_str, h1]
  have c2 : cop .eq H (.str p.1) (.str 6648937) = Option.some false := by rw [cop_eq_str, h2]
  have c3 : cop .eq H (.str p.1) (.str 127961628831587) = Option.some false := by rw [cop_eq_str, h3]
  have c4 : cop .eq H (.str p.1) (.str 32760367481649253) = Option.some false := by rw [cop_eq_str, h4]
  refine ⟨ρ, x_ifs (d := false) (e_cmp (e_var' a3) e_str c1) (xi_fn rfl (x_ifs (d := false) (e_cmp (e_var' a3) e_str c2) (xi_fn rfl (x_ifs (d := false) (e_cmp (e_var' a3) e_str c3) (xi_fn rfl (x_ifs (d := false) (e_cmp (e_var' a3) e_str c4) (xi_fn rfl (x_ifs (d := false) (e_cmp (e_var' a3) (e_tup (es_cons e_str (es_cons e_str (es_cons e_str es_nil))) rfl) h5) (xi_f rfl x_nil)) x_nil)) x_nil)) x_nil)) ?_)⟩
  exact x_ret (e_tup (es_cons (e_var' a3) (es_cons (e_var' a4) (es_cons (e_var' a8) (es_cons (e_var' a9) (es_cons (e_call rfl (es_cons (e_var' a1) (es_cons (e_var' a10) es_nil)) (g (n+21))) es_nil))))) rfl)
end
end Mini.L2
end
section
set_option autoImplicit false
set_option maxRecDepth 10000
set_option maxHeartbeats 4000000
namespace Mini.L2
open Mini
section
variable {n : Nat} {H H2 H3 : Hp} {w m : Nat} {t tu i d : Int} {ρ : Lo}
theorem askB_num (hw : w ≤ 3) (g1 : ∀ n, Ca P (n+16) law_grab [.ref 0, .int (2 ^ w)] H (.int d) H2) (g2 : ∀ n, Ca P (n+16) law_grab [.ref 0, .int w] H2 (.int i) H3) (L : Lq ρ (470121608802, 125779768604014) w) :
    ∃ ρ', Xs P (n+40) askB ρ H (.ret (.tup [.str 470121608802, .str 125779768604014, .tup [], .int d, .int i])) ρ' H3 := by
  obtain ⟨a1, a2, a3, a4, a5, a6, a7, a8, a9, a10⟩ := L
  have pw : binV .pow (.int 2) (.int (w : Int)) = some (.int (2 ^ w)) := by rw [b_pow (by decide) (by lia) (by lia), Int.toNat_natCast]
  apply Exists.intro
  unfold askB
  (repeat' (first | walk_at "mini e" | exact g1 _ | exact g2 _ | walk_at "mini a"))
theorem askB_ite (hs : nth H 14 = some (scO t w m tu)) (g2 : ∀ n, Ca P (n+16) law_grab [.ref 0, .int w] H (.int i) H3) (L : Lq ρ (6648937, 6648937) w) :
    ∃ ρ', Xs P (n+40) askB ρ H (.ret (.tup [.str 6648937, .str 6648937, .tup [.int t, .int 3, .int 4], .int 0, .int i])) ρ' H3 := by
  obtain ⟨a1, a2, a3, a4, a5, a6, a7, a8, a9, a10⟩ := L
  have q : subV H (.ref 14) (.str 448630452852) = some (.int t) := s_sc hs rfl
  apply Exists.intro
  unfold askB
  (repeat' (first | walk_at "mini e" | exact g2 _ | apply xi_fn (by walk_at "mini d") | walk_at "mini a"))
theorem askB_concat (hs : nth H 14 = some (scO t w m tu)) (g2 : ∀ n, Ca P (n+16) law_grab [.ref 0, .int (w + m)] H (.int i) H3) (L : Lq ρ (127961628831587, 1701996919) w) :
    ∃ ρ', Xs P (n+40) askB ρ H (.ret (.tup [.str 127961628831587, .str 1701996919, .tup [.int 3, .int 5], .int 0, .int i])) ρ' H3 := by
  obtain ⟨a1, a2, a3, a4, a5, a6, a7, a8, a9, a10⟩ := L
  have q : subV H (.ref 14) (.str 122) = some (.int 5) := s_sc hs rfl
  have q2 : subV H (.ref 14) (.str 1701998445) = some (.int m) := s_sc hs rfl
  apply Exists.intro
  unfold askB
  (repeat' (first | walk_at "mini e" | exact g2 _ | apply xi_fn (by walk_at "mini d") | walk_at "mini a"))
theorem askB_extract (g1 : ∀ n, Ca P (n+16) law_grab [.ref 0, .int w] H (.int d) H2) (g2 : ∀ n, Ca P (n+16) law_grab [.ref 0, .int (w - d)] H2 (.int i) H3) (L : Lq ρ (32760367481649253, 1701996919) w) :
    ∃ ρ', Xs P (n+40) askB ρ H (.ret (.tup [.str 32760367481649253, .str 1701996919, .tup [.int 3], .tup [.int (w - 1), .int d], .int i])) ρ' H3 := by
  obtain ⟨a1, a2, a3, a4, a5, a6, a7, a8, a9, a10⟩ := L
  apply Exists.intro
  unfold askB
  (repeat' (first | walk_at "mini e" | exact g1 _ | exact g2 _ | apply xi_fn (by walk_at "mini d") | walk_at "mini a"))
theorem askB_not (g2 : ∀ n, Ca P (n+16) law_grab [.ref 0, .int (w + 0)] H (.int i) H3) (L : Lq ρ (500085716578, 7630702) w) :
    ∃ ρ', Xs P (n+40) askB ρ H (.ret (.tup [.str 500085716578, .str 7630702, .tup [.int 3], .int 0, .int i])) ρ' H3 := by
  obtain ⟨a1, a2, a3, a4, a5, a6, a7, a8, a9, a10⟩ := L
  apply Exists.intro
  unfold askB
  (repeat' (first | walk_at "mini e" | exact g2 _ | apply xi_fn (by walk_at "mini d") | walk_at "mini a"))
theorem askB_zext (g2 : ∀ n, Ca P (n+16) law_grab [.ref 0, .int (w + 2)] H (.int i) H3) (L : Lq ρ (121413913788299389279823226, 1701996919) w) :
    ∃ ρ', Xs P (n+40) askB ρ H (.ret (.tup [.str 121413913788299389279823226, .str 1701996919, .tup [.int 3], .int 0, .int i])) ρ' H3 := by
  obtain ⟨a1, a2, a3, a4, a5, a6, a7, a8, a9, a10⟩ := L
  apply Exists.intro
  unfold askB
  (repeat' (first | walk_at "mini e" | exact g2 _ | apply xi_fn (by walk_at "mini d") | walk_at "mini a"))
theorem askB_sext (g2 : ∀ n, Ca P (n+16) law_grab [.ref 0, .int (w + 2)] H (.int i) H3) (L : Lq ρ (121413913788299389262326131, 1701996919) w) :
    ∃ ρ', Xs P (n+40) askB ρ H (.ret (.tup [.str 121413913788299389262326131, .str 1701996919, .tup [.int 3], .int 0, .int i])) ρ' H3 := by
  obtain ⟨a1, a2, a3, a4, a5, a6, a7, a8, a9, a10⟩ := L
  apply Exists.intro
  unfold askB
  (repeat' (first | walk_at "mini e" | exact g2 _ | apply xi_fn (by walk_at "mini d") | walk_at "mini a"))
end
end Mini.L2
end
section
set_option autoImplicit false
set_option maxRecDepth 10000
set_option maxHeartbeats 4000000
namespace Mini.L2
open Mini
section
variable {w m l : Nat} {s : Sn} {X : Ext} {tu g : Int} {cells : List Int}
/-- an asking, told -/
noncomputable def Told (w m l : Nat) (s : Sn) (X : Ext) (tu g : Int) (cells : List Int) : Prop := ∃ (p : Nat × Nat) (sm data : V) (i g' : Int), p ∈ rows ∧ (g ≤ g' ∧ g' ≤ g + 3) ∧ (p.2 = 1701736302 ∨ Ask w m l s X tu p sm data i) ∧
    ∀ n rest, nth (hp (stk cells g) X s.1 rest) 14 = some (scO (6 + (l : Int)) w m tu) → Ca P (n+40) law_asked [.ref 0, .ref 14] (hp (stk cells g) X s.1 rest) (.tup [.str p.1, .str p.2, sm, data, .int i]) (hp (stk cells g') X s.1 rest)
/-- the first draw, done -/
structure D0 (X : Ext) (g v : Int) (cells : List Int) : Prop where
  h : ∀ n ts rest, Ca P (n+16) law_grab [.ref 0, .int 13] (hp (stk cells g) X ts rest) (.int v) (hp (stk cells (g+1)) X ts rest)
theorem told_plain {p : Nat × Nat} {v : Int} (w0 : 1 ≤ w) (hp' : p ∈ rows) (hc : cells.length ≤ 30) (g0 : 0 ≤ g) (g1 : g ≤ 900) (D : D0 X g v cells) (hr : ∀ H rv, lk P.consts 2129981791643877076063 = Option.some rv → subV H rv (.int v) = Option.some (.tup [.str p.1, .str p.2]))
    (h1 : Nat.beq p.1 470121608802 = false) (h2 : Nat.beq p.1 6648937 = false) (h3 : Nat.beq p.1 127961628831587 = false) (h4 : Nat.beq p.1 32760367481649253 = false)
    (h5 : ∀ H, cop .isin H (.str p.1) (.tup [.str 500085716578, .str 121413913788299389279823226, .str 121413913788299389262326131]) = Option.some false)
    (A : ∀ i : Int, 0 ≤ i → i < w → p.2 = 1701736302 ∨ Ask w m l s X tu p (.tup [.int 3, .int 4]) (.int 0) i) : Told w m l s X tu g cells := by
  obtain ⟨i, i0, i1, D2⟩ := l_grab (cells := cells) (t := g+1) (wide := (w : Int)) hc (by lia) (by lia) (by lia)
  exact ⟨p, _, _, i, g+1+1, hp', ⟨by lia, by lia⟩, A i i0 i1, fun n rest hs => asked_pre (H1 := hp (stk cells (g+1)) X s.1 rest) hs (fun n => D.h n s.1 rest) (hr _) fun ρ L => ask_plain h1 h2 h3 h4 (h5 _) (fun n => D2 n X s.1 rest) L⟩
theorem l_asked (S : Sf w m l s) (w0 : 1 ≤ w) (w1 : w ≤ 3) (m0 : 1 ≤ m) (m1 : m ≤ 3) (hl : l ≤ 2) (Wx : Wd X 3 w) (Wz : Wd X (szOf w m) m) (hc : cells.length ≤ 30) (g0 : 0 ≤ g) (g1 : g ≤ 900) (ht : tu = nB (decide (l % 2 = 1))) : Told w m l s X tu g cells := by
  obtain ⟨v, v0, v1, D⟩ := l_grab (cells := cells) (t := g) (wide := 13) hc g0 (by lia) (by decide)
  have D : D0 X g v cells := ⟨fun n ts rest => D n X ts rest⟩
  have T := top_ok w1
  have : v = 0 ∨ v = 1 ∨ v = 2 ∨ v = 3 ∨ v = 4 ∨ v = 5 ∨ v = 6 ∨ v = 7 ∨ v = 8 ∨ v = 9 ∨ v = 10 ∨ v = 11 ∨ v = 12 := by lia
  have fin : ∀ {op kind : Nat} {sm data : V} {i g' : Int}, (op, kind) ∈ rows → g ≤ g' ∧ g' ≤ g + 3 → (∀ H rv, lk P.consts 2129981791643877076063 = Option.some rv → subV H rv (.int v) = Option.some (.tup [.str op, .str kind])) → Ask w m l s X tu (op, kind) sm data i →
      (∀ n rest, nth (hp (stk cells (g+1)) X s.1 rest) 14 = some (scO (6 + (l : Int)) w m tu) → ∀ ρ, Lq ρ (op, kind) w → ∃ ρ', Xs P (n+40) askB ρ (hp (stk cells (g+1)) X s.1 rest) (.ret (.tup [.str op, .str kind, sm, data, .int i])) ρ' (hp (stk cells g') X s.1 rest)) → Told w m l s X tu g cells :=
    fun {op kind sm data i g'} a b r c h => ⟨(op, kind), sm, data, i, g', a, b, .inr c, fun n rest hs => asked_pre (p := (op, kind)) (H1 := hp (stk cells (g+1)) X s.1 rest) hs (fun n => D.h n s.1 rest) (r _) (h n rest hs)⟩
  obtain ⟨i, i0, i1, D2⟩ := l_grab (cells := cells) (t := g+1) (wide := (w : Int)) hc (by lia) (by lia) (by lia)
  rcases this with e | e | e | e | e | e | e | e | e | e | e | e | e <;> subst e
  · obtain ⟨d, d0, d1, E1⟩ := l_grab (cells := cells) (t := g+1) (wide := 2 ^ w) hc (by lia) (by lia) (by have : (0 : Int) < 2 ^ w := Int.pow_pos (by decide); lia)
    obtain ⟨i, i0, i1, E2⟩ := l_grab (cells := cells) (t := g+1+1) (wide := (w : Int)) hc (by lia) (by lia) (by lia)
    exact fin (op := 470121608802) (kind := 125779768604014) (by decide) ⟨by lia, by lia⟩ (fun _ rv e => by rw [← Option.some.inj e]; rfl) (ask_num S w0 w1 m0 m1 i0 i1 d) fun n rest hs ρ L => askB_num w1 (fun n => E1 n X s.1 rest) (fun n => E2 n X s.1 rest) L
  · obtain ⟨i, i0, i1, E2⟩ := l_grab (cells := cells) (t := g+1) (wide := (w : Int) + 0) hc (by lia) (by lia) (by lia)
    exact fin (op := 500085716578) (kind := 7630702) (by decide) ⟨by lia, by lia⟩ (fun _ rv e => by rw [← Option.some.inj e]; rfl) (ask_not S w0 w1 m0 m1 i0 (by lia)) fun n rest hs ρ L => askB_not (fun n => E2 n X s.1 rest) L
  · exact told_plain (p := (431348610658, 6581857)) w0 (by decide) hc g0 g1 D (fun _ rv e => by rw [← Option.some.inj e]; rfl) rfl rfl rfl rfl (fun _ => rfl) fun i i0 i1 => .inr (ask_and S w0 w1 m0 m1 i0 i1)
  · exact told_plain (p := (1919907426, 29295)) w0 (by decide) hc g0 g1 D (fun _ rv e => by rw [← Option.some.inj e]; rfl) rfl rfl rfl rfl (fun _ => rfl) fun i i0 i1 => .inr (ask_or S w0 w1 m0 m1 i0 i1)
  · exact told_plain (p := (491496437346, 7499640)) w0 (by decide) hc g0 g1 D (fun _ rv e => by rw [← Option.some.inj e]; rfl) rfl rfl rfl rfl (fun _ => rfl) fun i i0 i1 => .inr (ask_xor S w0 w1 m0 m1 i0 i1)
  · exact told_plain (p := (431180838498, 7173491)) w0 (by decide) hc g0 g1 D (fun _ rv e => by rw [← Option.some.inj e]; rfl) rfl rfl rfl rfl (fun _ => rfl) fun i i0 i1 => .inr (ask_sum S w0 w1 m0 m1 i0 i1)
  · exact told_plain (p := (422877296226, 478793197323228067293540)) w0 (by decide) hc g0 g1 D (fun _ rv e => by rw [← Option.some.inj e]; rfl) rfl rfl rfl rfl (fun _ => rfl) fun i i0 i1 => .inr (ask_diff S w0 w1 m0 m1 i0 i1)
  · exact fin (op := 6648937) (kind := 6648937) (by decide) (g' := g+1+1) ⟨by lia, by lia⟩ (fun _ rv e => by rw [← Option.some.inj e]; rfl) (ask_ite S w0 w1 m0 m1 hl i0 i1 ht) fun n rest hs ρ L => askB_ite hs (fun n => D2 n X s.1 rest) L
  · obtain ⟨i, i0, i1, E2⟩ := l_grab (cells := cells) (t := g+1) (wide := (w : Int) + m) hc (by lia) (by lia) (by lia)
    exact fin (op := 127961628831587) (kind := 1701996919) (by decide) (g' := g+1+1) ⟨by lia, by lia⟩ (fun _ rv e => by rw [← Option.some.inj e]; rfl) (ask_concat S w0 w1 m0 m1 Wz i0 i1) fun n rest hs ρ L => askB_concat hs (fun n => E2 n X s.1 rest) L
  · obtain ⟨j, j0, j1, E2⟩ := l_grab (cells := cells) (t := g+1+1) (wide := (w : Int) - i) hc (by lia) (by lia) (by lia)
    exact fin (op := 32760367481649253) (kind := 1701996919) (by decide) (g' := g+1+1+1) ⟨by lia, by lia⟩ (fun _ rv e => by rw [← Option.some.inj e]; rfl) (ask_extract S w0 w1 m0 m1 (lo := i) (a := (w : Int) - 1) i0 j0 (by lia)) fun n rest hs ρ L => askB_extract (fun n => D2 n X s.1 rest) (fun n => E2 n X s.1 rest) L
  · obtain ⟨i, i0, i1, E2⟩ := l_grab (cells := cells) (t := g+1) (wide := (w : Int) + 2) hc (by lia) (by lia) (by lia)
    exact fin (op := 121413913788299389279823226) (kind := 1701996919) (by decide) (g' := g+1+1) ⟨by lia, by lia⟩ (fun _ rv e => by rw [← Option.some.inj e]; rfl) (ask_zext S w0 w1 m0 m1 Wx i0 i1) fun n rest hs ρ L => askB_zext (fun n => E2 n X s.1 rest) L
  · obtain ⟨i, i0, i1, E2⟩ := l_grab (cells := cells) (t := g+1) (wide := (w : Int) + 2) hc (by lia) (by lia) (by lia)
    exact fin (op := 121413913788299389262326131) (kind := 1701996919) (by decide) (g' := g+1+1) ⟨by lia, by lia⟩ (fun _ rv e => by rw [← Option.some.inj e]; rfl) (ask_sext S w0 w1 m0 m1 Wx i0 i1) fun n rest hs ρ L => askB_sext (fun n => E2 n X s.1 rest) L
  · exact told_plain (p := (465826575970, 1701736302)) w0 (by decide) hc g0 g1 D (fun _ rv e => by rw [← Option.some.inj e]; rfl) rfl rfl rfl rfl (fun _ => rfl) fun i i0 i1 => .inl rfl
end
end Mini.L2
end
section
set_option autoImplicit false
set_option maxRecDepth 10000
set_option maxHeartbeats 4000000
namespace Mini.L2
open Mini
theorem set_end {o o' : O} {J : Hp} : ∀ {H : Hp}, (H ++ o :: J).set H.length o' = H ++ o' :: J
  | [] => rfl
  | a :: H => congrArg (a :: ·) (set_end (H := H))
theorem nth_mid {o : O} {J : Hp} {H : Hp} : nth (H ++ o :: J) H.length = some o := by unfold nth; rw [List.getElem?_append_right (Nat.le_refl _), Nat.sub_self]; rfl
theorem judge_new (n : Nat) (H : Hp) : Ca P (n+20) BitJudge_init [.ref H.length, .ref 1] (H ++ [.inst 7306919375355013442 []]) .none (H ++ [jO (H.length + 1), .dT []]) := by
  have e1 : (H ++ [O.inst 7306919375355013442 []]).set H.length (.inst 7306919375355013442 [(1802396002, .ref 1)]) = H ++ [.inst 7306919375355013442 [(1802396002, .ref 1)]] := set_end
  have S1 : Ev P (n+19) (.var 1802396002) (BitJudge_init.params.zip [.ref H.length, .ref 1]) (H ++ [.inst 7306919375355013442 []]) (.ref 1) (H ++ [.inst 7306919375355013442 []]) := e_var' (lke_base rfl)
  have S2 : Ev P (n+19) (.dict .t [] []) (BitJudge_init.params.zip [.ref H.length, .ref 1]) (H ++ [.inst 7306919375355013442 [(1802396002, .ref 1)]]) (.ref (H ++ [O.inst 7306919375355013442 [(1802396002, .ref 1)]]).length) (H ++ [.inst 7306919375355013442 [(1802396002, .ref 1)]] ++ [.dT []]) := e_dict ep_nil rfl
  have S3 : Ev P (n+19) (.var 1718379891) (BitJudge_init.params.zip [.ref H.length, .ref 1]) (H ++ [.inst 7306919375355013442 [(1802396002, .ref 1)]] ++ [.dT []]) (.ref H.length) (H ++ [.inst 7306919375355013442 [(1802396002, .ref 1)]] ++ [.dT []]) := e_var' (lke_base rfl)
  have Q : Xs P (n+20) BitJudge_init.body (BitJudge_init.params.zip [.ref H.length, .ref 1]) (H ++ [.inst 7306919375355013442 []]) .nxt (BitJudge_init.params.zip [.ref H.length, .ref 1]) ((H ++ [O.inst 7306919375355013442 [(1802396002, .ref 1)]] ++ [O.dT []]).set H.length (.inst 7306919375355013442 [(1802396002, .ref 1), (126879447277940, .ref (H ++ [O.inst 7306919375355013442 [(1802396002, .ref 1)]]).length)])) := by
    refine x_asga S1 (e_var' (lke_base rfl)) nth_end rfl ?_
    rw [show lset [] 1802396002 (V.ref 1) = [(1802396002, .ref 1)] from rfl, e1]
    exact x_asga S2 S3 (by rw [List.append_assoc]; exact nth_mid) rfl x_nil
  refine c_nxt' rfl Q ?_
  rw [List.append_assoc, List.length_append]
  exact set_end
end Mini.L2
end
section
set_option autoImplicit false
set_option maxRecDepth 10000
set_option maxHeartbeats 4000000
namespace Mini.L2
open Mini
theorem x_one {P : Prog} {n : Nat} {ρ ρ1 ρ' : Lo} {H H1 H' : Hp} {s : S} {r : List S} {f : Fl} (h : Xs P (n+1) [s] ρ H .nxt ρ1 H1) (k : Xs P (n+1) r ρ1 H1 f ρ' H') : Xs P (n+1) (s :: r) ρ H f ρ' H' := by
  refine b3E (show (exStep P (sem P n) s ρ H).bind _ = some (Fl.nxt, ρ1, H1) from h.h) fun f0 ρ0 H0 e1 e2 => ?_
  induction f0 using Fl.casesOn with
  | nxt =>
    have e := sinj3 (show some (Fl.nxt, ρ0, H0) = some (Fl.nxt, ρ1, H1) from e2)
    rw [e.2.1, e.2.2] at e1
    exact ⟨bnd e1 k.h⟩
  | cont => cases (sinj3 (show some (Fl.cont, ρ0, H0) = some (Fl.nxt, ρ1, H1) from e2)).1
  | ret v => cases (sinj3 (show some (Fl.ret v, ρ0, H0) = some (Fl.nxt, ρ1, H1) from e2)).1
theorem wanted_body : law_is_wanted.body = [.asg (.tup [1802396002, 1701077357, 435526333802]) (.tup [.sub (.var 435643835251) (.str 1802396002), .sub (.var 435643835251) (.str 1701077357), .new 7306919375355013442 [.sub (.var 435643835251) (.str 1802396002)]]),
  .asg (.tup [28783, 1684957547, 1701670771, 1635017060, 105]) (.call 474107512077656218758239 [.var 1801675123, .var 435643835251]),
  .asg (.var 2037277037) (.meth (.var 1802396002) 1702521203 []),
  .fr (.var 491327616111) (.cst 544924775945654650367071) kindsB,
  .ifs (.cmp (.var 1684957547) [.eq] [.str 1701736302]) [.ret (.bool true)] [],
  .asg (.var 1818324839) (.meth (.var 435526333802) 549738508635343760023927 [.var 28783, .var 1701670771, .var 1635017060, .var 105, .var 1684957547]),
  .fr (.var 1836020833) (.call 545090871785141701799007 [.var 1818324839]) atomsB,
  .asg (.var 7368564) (.bin .pow (.num 2) (.sub (.var 435643835251) (.str 1701079415))),
  xS,
  .ret (.cmp (.meth (.var 1802396002) 1702521203 []) [.eq] [.var 2037277037])] := rfl
section
variable {w m l : Nat} {s : Sn} {X : Ext} {tu g : Int} {cells : List Int} {p : Nat × Nat} {sm data : V} {i : Int} {jr tr : Nat} {st : O} {R : Hp}
/-- behind the loop over the kinds -/
theorem wanted_end (S : Sf w m l s) (w1 : w ≤ 3) (A : Ask w m l s X tu p sm data i) (n : Nat) (hj : nth (hp st X s.1 (.dI s.2 :: scO (6 + (l : Int)) w m tu :: R)) jr = some (jO tr)) {ρ : Lo} (L : La ρ jr p sm data i) (Lm : Lk ρ 2037277037 (.int s.1.length)) :
    ∃ ρ' J, Xs P (n+174) (law_is_wanted.body.drop 5) ρ (hp st X s.1 (.dI s.2 :: scO (6 + (l : Int)) w m tu :: R)) (.ret (.bool true)) ρ' (hp st X s.1 (.dI s.2 :: scO (6 + (l : Int)) w m tu :: (R ++ J))) := by
  obtain ⟨F, N, ny, nz, cs, hA, hat, Wn, Wo⟩ := A.h
  have W := Wo jr
  have len : s.1.length < 1000 := by have := S.len; lia
  generalize hH : hp st X s.1 (.dI s.2 :: scO (6 + (l : Int)) w m tu :: R) = H at *
  have hm : nth H 13 = some (.dI s.2) := by rw [← hH]; rfl
  have hs : nth H 14 = some (scO (6 + (l : Int)) w m tu) := by rw [← hH]; rfl
  have S1 : Ev P (n+173) (.meth (.var 435526333802) 549738508635343760023927 [.var 28783, .var 1701670771, .var 1635017060, .var 105, .var 1684957547]) ρ H F.V H :=
    e_meth (e_var' L.judge) hj rfl rfl rfl (es_cons (e_var' L.op) (es_cons (e_var' L.some) (es_cons (e_var' L.data) (es_cons (e_var' L.i) (es_cons (e_var' L.kind) es_nil))))) (by rw [← hH] at hj ⊢; exact Wn (n+112) st _ jr tr hj)
  generalize hρ1 : lset ρ 1818324839 F.V = ρ1
  have K1 : keep ρ ρ1 [1818324839] := by rw [← hρ1]; exact keep.set (by simp)
  have G1 : Lk ρ1 1818324839 F.V := by rw [← hρ1]; exact lke_same
  have I1 : It P (n+173) (.call 545090871785141701799007 [.var 1818324839]) ρ1 H F.atoms H := i_val rfl (e_call rfl (es_cons (e_var' G1) es_nil) (atoms_ev F (fun _ _ => trivial) hA (n+172) (by have := W.dep; lia))) rfl
  obtain ⟨ρ2, K2, e2⟩ := atoms_loop (n := n+133) hm S.flat F.atoms ρ1 hat (L.keep K1 rfl)
  have L2' := (L.keep K1 rfl).keep K2 rfl
  have G2 := K2 _ _ rfl G1
  have pw : binV .pow (.int 2) (.int (w : Int)) = some (.int (2 ^ w)) := by rw [b_pow (by decide) (by lia) (by lia), Int.toNat_natCast]
  have S3 : Ev P (n+173) (.bin .pow (.num 2) (.sub (.var 435643835251) (.str 1701079415))) ρ2 H (.int (2 ^ w)) H := e_bin e_num (e_sub (e_var' L2'.scene) e_str (s_sc hs rfl)) pw
  generalize hρ3 : lset ρ2 7368564 (.int (2 ^ w)) = ρ3
  have K3 : keep ρ2 ρ3 [7368564] := by rw [← hρ3]; exact keep.set (by simp)
  have L3 := L2'.keep K3 rfl
  obtain ⟨ρ4, J, K4, e4⟩ := x_loop W n (ρ := ρ3) (H := H) ⟨⟨hm, hs⟩, L3, K3 _ _ rfl G2, by rw [← hρ3]; exact lke_same⟩
  have L4 := L3.keep K4 rfl
  have M4 := K4 _ _ rfl (K3 _ _ rfl (K2 _ _ rfl (K1 _ _ rfl Lm)))
  refine ⟨ρ4, J, ?_⟩
  have hJ : hp st X s.1 (.dI s.2 :: scO (6 + (l : Int)) w m tu :: (R ++ J)) = H ++ J := by rw [← hH]; rfl
  rw [wanted_body]
  refine x_asgv S1 ?_
  rw [hρ1]
  refine x_fr I1 e2 (x_asgv S3 ?_)
  rw [hρ3]
  refine x_one e4 ?_
  have Z : Ev P (n+172) (.meth (.var 1802396002) 1702521203 []) ρ4 (H ++ J) (.int s.1.length) (H ++ J) := by
    rw [← hJ]; exact e_meth (e_var' L4.bank) rfl rfl rfl rfl es_nil (l_size len)
  have C : Ev P (n+173) (.cmp (.meth (.var 1802396002) 1702521203 []) [.eq] [.var 2037277037]) ρ4 (H ++ J) (.bool (decide ((s.1.length : Int) = s.1.length))) (H ++ J) := e_cmp Z (e_var' M4) cop_eq_int
  rw [decide_eq_true rfl] at C
  rw [hJ]
  exact x_ret C
/-- an asking is answered as is wanted -/
theorem wanted (S : Sf w m l s) (w0 : 1 ≤ w) (w1 : w ≤ 3) (m0 : 1 ≤ m) (m1 : m ≤ 3) (hl : l ≤ 2) (Wx : Wd X 3 w) (Wz : Wd X (szOf w m) m) (hc : cells.length ≤ 30) (g0 : 0 ≤ g) (g1 : g ≤ 900) (ht : tu = nB (decide (l % 2 = 1))) (n : Nat) (R : Hp) :
    ∃ (g' : Int) (J : Hp), (g ≤ g' ∧ g' ≤ g + 3) ∧ Ca P (n+174) law_is_wanted [.ref 0, .ref 14] (hp (stk cells g) X s.1 (.dI s.2 :: scO (6 + (l : Int)) w m tu :: R)) (.bool true) (hp (stk cells g') X s.1 (.dI s.2 :: scO (6 + (l : Int)) w m tu :: (R ++ J))) := by
  obtain ⟨p, sm, data, i, g', hp', hg, A, T⟩ := l_asked S w0 w1 m0 m1 hl Wx Wz hc g0 g1 ht
  have len : s.1.length < 1000 := by have := S.len; lia
  obtain ⟨jr, hjr⟩ : ∃ jr, (hp (stk cells g) X s.1 (.dI s.2 :: scO (6 + (l : Int)) w m tu :: R)).length = jr := ⟨_, rfl⟩
  have hH1 : hp (stk cells g) X s.1 (.dI s.2 :: scO (6 + (l : Int)) w m tu :: R) ++ [jO (jr + 1), O.dT []] = hp (stk cells g) X s.1 (.dI s.2 :: scO (6 + (l : Int)) w m tu :: (R ++ [jO (jr + 1), O.dT []])) := rfl
  have hj0 : nth (hp (stk cells g) X s.1 (.dI s.2 :: scO (6 + (l : Int)) w m tu :: (R ++ [jO (jr + 1), O.dT []]))) jr = some (jO (jr + 1)) := by rw [← hH1, ← hjr]; exact nth_mid
  have hj : nth (hp (stk cells g') X s.1 (.dI s.2 :: scO (6 + (l : Int)) w m tu :: (R ++ [jO (jr + 1), O.dT []]))) jr = some (jO (jr + 1)) := by rw [← hjr] at hj0 ⊢; exact hj0
  have P0 : Lk (law_is_wanted.params.zip [V.ref 0, V.ref 14]) 1801675123 (.ref 0) := lke_base rfl
  have P1 : Lk (law_is_wanted.params.zip [V.ref 0, V.ref 14]) 435643835251 (.ref 14) := lke_base rfl
  have hs : nth (hp (stk cells g) X s.1 (.dI s.2 :: scO (6 + (l : Int)) w m tu :: R)) 14 = some (scO (6 + (l : Int)) w m tu) := rfl
  have JN := judge_new (n+151) (hp (stk cells g) X s.1 (.dI s.2 :: scO (6 + (l : Int)) w m tu :: R))
  rw [hjr, hH1] at JN
  have S1 : Ev P (n+173) (.tup [.sub (.var 435643835251) (.str 1802396002), .sub (.var 435643835251) (.str 1701077357), .new 7306919375355013442 [.sub (.var 435643835251) (.str 1802396002)]]) (law_is_wanted.params.zip [V.ref 0, V.ref 14]) (hp (stk cells g) X s.1 (.dI s.2 :: scO (6 + (l : Int)) w m tu :: R)) (.tup [.ref 1, .ref 13, .ref jr]) (hp (stk cells g) X s.1 (.dI s.2 :: scO (6 + (l : Int)) w m tu :: (R ++ [jO (jr + 1), O.dT []]))) := by
    have N := e_new (P := P) (n := n+171) (c := 7306919375355013442) (args := [.sub (.var 435643835251) (.str 1802396002)]) (ρ := law_is_wanted.params.zip [V.ref 0, V.ref 14]) rfl rfl (es_cons (e_sub (e_var' P1) e_str (s_sc hs rfl)) es_nil) (by rw [hjr]; exact JN)
    rw [hjr] at N
    exact e_tup (es_cons (e_sub (e_var' P1) e_str (s_sc hs rfl)) (es_cons (e_sub (e_var' P1) e_str (s_sc hs rfl)) (es_cons N es_nil))) rfl
  generalize hρ1 : lset (lset (lset (law_is_wanted.params.zip [V.ref 0, V.ref 14]) 1802396002 (.ref 1)) 1701077357 (.ref 13)) 435526333802 (.ref jr) = ρ1
  have M1 : ∀ {i v}, Nat.beq i 1802396002 = false → Nat.beq i 1701077357 = false → Nat.beq i 435526333802 = false → Lk (law_is_wanted.params.zip [V.ref 0, V.ref 14]) i v → Lk ρ1 i v := fun e1 e2 e3 h => by rw [← hρ1]; exact lke_skip e3 (lke_skip e2 (lke_skip e1 h))
  have S2 := e_call (P := P) (n := n+172) (f := 474107512077656218758239) (ρ := ρ1) rfl (es_cons (e_var' (M1 rfl rfl rfl P0)) (es_cons (e_var' (M1 rfl rfl rfl P1)) es_nil)) (T (n+132) (.dI s.2 :: scO (6 + (l : Int)) w m tu :: (R ++ [jO (jr + 1), O.dT []])) rfl)
  generalize hρ2 : lset (lset (lset (lset (lset ρ1 28783 (.str p.1)) 1684957547 (.str p.2)) 1701670771 sm) 1635017060 data) 105 (.int i) = ρ2
  have M2 : ∀ {i v}, Nat.beq i 28783 = false → Nat.beq i 1684957547 = false → Nat.beq i 1701670771 = false → Nat.beq i 1635017060 = false → Nat.beq i 105 = false → Lk ρ1 i v → Lk ρ2 i v := fun e1 e2 e3 e4 e5 h => by rw [← hρ2]; exact lke_skip e5 (lke_skip e4 (lke_skip e3 (lke_skip e2 (lke_skip e1 h))))
  have b1 : Lk ρ2 1802396002 (.ref 1) := M2 rfl rfl rfl rfl rfl (by rw [← hρ1]; exact lke_skip rfl (lke_skip rfl lke_same))
  have S3 : Ev P (n+173) (.meth (.var 1802396002) 1702521203 []) ρ2 (hp (stk cells g') X s.1 (.dI s.2 :: scO (6 + (l : Int)) w m tu :: (R ++ [jO (jr + 1), O.dT []]))) (.int s.1.length) (hp (stk cells g') X s.1 (.dI s.2 :: scO (6 + (l : Int)) w m tu :: (R ++ [jO (jr + 1), O.dT []]))) := e_meth (e_var' b1) rfl rfl rfl rfl es_nil (l_size len)
  have L2' : La ρ2 jr p sm data i := ⟨b1, M2 rfl rfl rfl rfl rfl (by rw [← hρ1]; exact lke_skip rfl lke_same), M2 rfl rfl rfl rfl rfl (by rw [← hρ1]; exact lke_same), by rw [← hρ2]; exact lke_skip rfl (lke_skip rfl (lke_skip rfl (lke_skip rfl lke_same))), by rw [← hρ2]; exact lke_skip rfl (lke_skip rfl (lke_skip rfl lke_same)), by rw [← hρ2]; exact lke_skip rfl (lke_skip rfl lke_same), by rw [← hρ2]; exact lke_skip rfl lke_same, by rw [← hρ2]; exact lke_same, M2 rfl rfl rfl rfl rfl (M1 rfl rfl rfl P1)⟩
  have K3 : keep ρ2 (lset ρ2 2037277037 (.int s.1.length)) [2037277037] := keep.set (by simp)
  have m3 : Lk (lset ρ2 2037277037 (.int s.1.length)) 2037277037 (.int s.1.length) := lke_same
  generalize hρ3 : lset ρ2 2037277037 (.int s.1.length) = ρ3 at K3 m3
  have L3 := L2'.keep K3 rfl
  obtain ⟨ρ4, K4, e4⟩ := kinds_loop (n := n+103) hp' hj kinds ρ3 (fun _ h => h) L3
  have L4 := L3.keep K4 rfl
  have m4 := K4 _ _ rfl m3
  have c : Ev P (n+173) (.cmp (.var 1684957547) [.eq] [.str 1701736302]) ρ4 (hp (stk cells g') X s.1 (.dI s.2 :: scO (6 + (l : Int)) w m tu :: (R ++ [jO (jr + 1), O.dT []]))) (.bool (Nat.beq p.2 1701736302)) (hp (stk cells g') X s.1 (.dI s.2 :: scO (6 + (l : Int)) w m tu :: (R ++ [jO (jr + 1), O.dT []]))) := e_cmp (e_var' L4.kind) e_str cop_eq_str
  have I0 : It P (n+173) (.cst 544924775945654650367071) ρ3 (hp (stk cells g') X s.1 (.dI s.2 :: scO (6 + (l : Int)) w m tu :: (R ++ [jO (jr + 1), O.dT []]))) (kinds.map V.str) (hp (stk cells g') X s.1 (.dI s.2 :: scO (6 + (l : Int)) w m tu :: (R ++ [jO (jr + 1), O.dT []]))) := i_val rfl (e_cst rfl) rfl
  cases q : Nat.beq p.2 1701736302 with
  | true =>
    rw [q] at c
    refine ⟨g', [jO (jr + 1), O.dT []], hg, c_ret rfl (ρ' := ρ4) ?_⟩
    rw [wanted_body]
    refine x_asgt S1 (ρ1 := ρ1) (by rw [← hρ1]; rfl) (x_asgt S2 (ρ1 := ρ2) (by rw [← hρ2]; rfl) (x_asgv S3 ?_))
    rw [hρ3]
    exact x_fr I0 e4 (x_ifs c (xi_tr rfl (x_ret e_bool)))
  | false =>
    rw [q] at c
    have A := A.resolve_left fun e => by rw [e] at q; cases q
    obtain ⟨ρ', J, e⟩ := wanted_end S w1 A n hj L4 m4
    refine ⟨g', [jO (jr + 1), O.dT []] ++ J, hg, c_ret rfl (ρ' := ρ') ?_⟩
    rw [← List.append_assoc]
    rw [wanted_body] at e ⊢
    refine x_asgt S1 (ρ1 := ρ1) (by rw [← hρ1]; rfl) (x_asgt S2 (ρ1 := ρ2) (by rw [← hρ2]; rfl) (x_asgv S3 ?_))
    rw [hρ3]
    exact x_fr I0 e4 (x_ifs c (xi_f rfl e))
end
end Mini.L2
end
section
set_option autoImplicit false
set_option maxRecDepth 10000
set_option maxHeartbeats 4000000
namespace Mini.L2
open Mini
/-! the scene is made: its loops -/
theorem for_count {R : Sems} {v : Nat} {b : List S} {N : Nat} (St : Nat → Lo → Hp → Prop) (step : ∀ k, k < N → ∀ ρ H, St k ρ H → ∃ ρ' H', R.exs b (lset ρ v (.int k)) H = some (.nxt, ρ', H') ∧ St (k+1) ρ' H') :
    ∀ (c k : Nat), k + c = N → ∀ ρ H, St k ρ H → ∃ ρ' H', exFor R (.var v) b ((List.range c).map fun (j : Nat) => V.int ((k + j : Nat) : Int)) ρ H = some (.nxt, ρ', H') ∧ St N ρ' H' := by
  intro c
  induction c with
  | zero => intro k hk ρ H h; exact ⟨ρ, H, rfl, by rw [← hk]; exact h⟩
  | succ c ih =>
    intro k hk ρ H h
    obtain ⟨ρ1, H1, e1, h1⟩ := step k (by lia) ρ H h
    obtain ⟨ρ2, H2, e2, h2⟩ := ih (k+1) (by lia) ρ1 H1 h1
    refine ⟨ρ2, H2, ?_, h2⟩
    rw [List.range_succ_eq_map, List.map_cons, List.map_map]
    refine for_cons rfl e1 ?_
    rw [← e2]
    congr 2
    funext j
    show V.int ((k + (j + 1) : Nat) : Int) = V.int ((k + 1 + j : Nat) : Int)
    rw [show k + (j + 1) = k + 1 + j by lia]
theorem for_range {R : Sems} {v : Nat} {b : List S} {N : Nat} (St : Nat → Lo → Hp → Prop) (step : ∀ k, k < N → ∀ ρ H, St k ρ H → ∃ ρ' H', R.exs b (lset ρ v (.int k)) H = some (.nxt, ρ', H') ∧ St (k+1) ρ' H') {ρ : Lo} {H : Hp} (h : St 0 ρ H) :
    ∃ ρ' H', exFor R (.var v) b ((List.range N).map fun (j : Nat) => V.int (j : Int)) ρ H = some (.nxt, ρ', H') ∧ St N ρ' H' := by
  have q := for_count St step N 0 (by lia) ρ H h
  simpa only [Nat.zero_add] using q
/-- the names of the scene -/
structure Ls (ρ : Lo) (w m : Nat) : Prop where
  sack : Lk ρ 1801675123 (.ref 0)
  bank : Lk ρ 1802396002 (.ref 1)
  wide : Lk ρ 1701079415 (.int w)
  more : Lk ρ 1701998445 (.int m)
  x : Lk ρ 120 (.int 3)
  y : Lk ρ 121 (.int 4)
  z : Lk ρ 122 (.int 5)
  c : Lk ρ 99 (.int 6)
  made : Lk ρ 1701077357 (.ref 13)
theorem Ls.keep {ρ ρ' : Lo} {w m : Nat} {l : List Nat} (h : Ls ρ w m) (g : L2.keep ρ ρ' l) (hl : ([1801675123, 1802396002, 1701079415, 1701998445, 120, 121, 122, 99, 1701077357].all fun i => !(l.any (Nat.beq i))) = true) : Ls ρ' w m := by
  have q1 := all_c hl
  have q2 := all_c q1.2
  have q3 := all_c q2.2
  have q4 := all_c q3.2
  have q5 := all_c q4.2
  have q6 := all_c q5.2
  have q7 := all_c q6.2
  have q8 := all_c q7.2
  have q9 := all_c q8.2
  exact ⟨g _ _ (nbt q1.1) h.sack, g _ _ (nbt q2.1) h.bank, g _ _ (nbt q3.1) h.wide, g _ _ (nbt q4.1) h.more, g _ _ (nbt q5.1) h.x, g _ _ (nbt q6.1) h.y, g _ _ (nbt q7.1) h.z, g _ _ (nbt q8.1) h.c, g _ _ (nbt q9.1) h.made⟩
theorem not_nums : ([1, 2, 3].all fun w => [1, 2, 3].all fun m => [0, 1].all fun k => fd (put (tsN (ts6 w m) k) (notT (6 + (k : Int)))) (notT (6 + (k : Int))) == 7 + (k : Int) && Nat.ble (tsN (ts6 w m) k).length 10) = true := by decide +kernel
section
variable {w m l f : Nat} {X : Ext} {st : O} {mk : List (Int × V)} {R : Hp}
noncomputable def lapB : List S := [.asg (.var 448630452852) (.meth (.var 1802396002) 1701536109 [.str 7630702, .tup [.var 448630452852], .cst 1280266050, .num 0])]
theorem laps (w0 : 1 ≤ w) (w1 : w ≤ 3) (m0 : 1 ≤ m) (m1 : m ≤ 3) (hl : l ≤ 2) (n : Nat) {ρ : Lo} (L : Ls ρ w m) (Lt : Lk ρ 448630452852 (.int 6)) :
    ∃ ρ' H', exFor (sem P (n+20)) (.var 7364972) lapB ((List.range l).map fun (j : Nat) => V.int (j : Int)) ρ (hp st X (ts6 w m) R) = some (.nxt, ρ', H') ∧ (H' = hp st X (tsN (ts6 w m) l) R ∧ Ls ρ' w m ∧ Lk ρ' 448630452852 (.int (6 + (l : Int)))) := by
  refine for_range (fun k ρ H => H = hp st X (tsN (ts6 w m) k) R ∧ Ls ρ w m ∧ Lk ρ 448630452852 (.int (6 + (k : Int)))) (fun k hk ρ H h => ?_) ⟨rfl, L, Lt⟩
  obtain ⟨e, L, Lt⟩ := h
  have q := List.all_eq_true.mp (List.all_eq_true.mp (List.all_eq_true.mp not_nums w (by simp; lia)) m (by simp; lia)) k (by simp; lia)
  rw [Bool.and_eq_true, beq_iff_eq] at q
  have K : keep ρ (lset ρ 7364972 (.int k)) [7364972] := keep.set (by simp)
  have L1 := L.keep K rfl
  have T1 := K _ _ rfl Lt
  rw [e]
  generalize lset ρ 7364972 (.int k) = ρ1 at *
  have M := l_make (n := n+6) (st := st) (X := X) (ts := tsN (ts6 w m) k) (rest := R) (op := 7630702) (args := [6 + (k : Int)]) (s := 0) (d := 0) (by have := Nat.le_of_ble_eq_true q.2; lia)
  have q1 : fd (put (tsN (ts6 w m) k) ⟨7630702, [6 + (k : Int)], 0, 0⟩) ⟨7630702, [6 + (k : Int)], 0, 0⟩ = 7 + (k : Int) := q.1
  rw [q1] at M
  have S1 : Ev P (n+19) (.meth (.var 1802396002) 1701536109 [.str 7630702, .tup [.var 448630452852], .cst 1280266050, .num 0]) ρ1 (hp st X (tsN (ts6 w m) k) R) (.int (7 + (k : Int))) (hp st X (tsN (ts6 w m) (k+1)) R) :=
    e_meth (e_var' L1.bank) rfl rfl rfl rfl (es_cons e_str (es_cons (e_tup (es_cons (e_var' T1) es_nil) rfl) (es_cons (e_cst rfl) (es_cons e_num es_nil)))) M
  have K2 : keep ρ1 (lset ρ1 448630452852 (.int (7 + (k : Int)))) [448630452852] := keep.set (by simp)
  refine ⟨lset ρ1 448630452852 (.int (7 + (k : Int))), _, (x_asgv S1 x_nil).h, rfl, L1.keep K2 rfl, ?_⟩
  rw [show (6 + ((k + 1 : Nat) : Int)) = 7 + (k : Int) by lia]
  exact lke_same
theorem setI_len {i : Int} {v : V} : ∀ {l : List (Int × V)}, (setI l i v).length ≤ l.length + 1
  | [] => Nat.le_refl _
  | (j, u) :: l => by
    show (bif i == j then (j, v) :: l else (j, u) :: setI l i v).length ≤ _
    cases i == j
    · exact Nat.succ_le_succ setI_len
    · exact Nat.le_succ _
/-- a term is made, and told of -/
theorem add_step {op : Nat} {args : List Int} {i : Int} {ei : List E} {et : List E} {rs : List S} {n : Nat} {ρ ρ' : Lo} {s : Sn} {fl : Fl} {H' : Hp} (L : Ls ρ w m) (hs : s.1.length < 1000) (hm : s.2.length ≤ 1000)
    (hi : Es P (n+18) ei ρ (hp st X s.1 [.dI s.2]) [.str op, .tup (intsV args), .int 0, .int i] (hp st X s.1 [.dI s.2])) (ht : Ev P (n+19) (.tup et) ρ (hp st X s.1 [.dI s.2]) (dV op args i) (hp st X s.1 [.dI s.2]))
    (k : Xs P (n+20) rs ρ (hp st X (add1 s ⟨op, args, 0, i⟩).1 [.dI (add1 s ⟨op, args, 0, i⟩).2]) fl ρ' H') :
    Xs P (n+20) (.asg (.sub (.var 1701077357) (.meth (.var 1802396002) 1701536109 ei)) (.tup et) :: rs) ρ (hp st X s.1 [.dI s.2]) fl ρ' H' := by
  have M := l_make (n := n+6) (st := st) (X := X) (ts := s.1) (rest := [.dI s.2]) (op := op) (args := args) (s := 0) (d := i) hs
  refine x_asgs ht (e_var' L.made) (e_meth (e_var' L.bank) rfl rfl rfl rfl hi M) (setI_I (l := s.2) rfl (okLen_of (by lia))) k
end
end Mini.L2
end
section
set_option autoImplicit false
set_option maxRecDepth 10000
set_option maxHeartbeats 4000000
namespace Mini.L2
open Mini
noncomputable def turnL : List S := [.ifs (.cmp (.bin .mod (.bin .add (.var 7824742) (.var 105)) (.num 2)) [.eq] [.num 1])
      [.asg (.sub (.var 1701077357) (.meth (.var 1802396002) 1701536109 [.str 7629154, .tup [.var 120], .cst 1280266050, .var 105])) (.tup [.str 7629154, .var 105, .var 120]),
      .asg (.sub (.var 1701077357) (.meth (.var 1802396002) 1701536109 [.str 521611141475, .tup [.var 120, .var 121], .cst 1280266050, .var 105])) (.tup [.str 521611141475, .var 105, .var 120, .var 121])]
      [],
    .ifs (.cmp (.var 7824742) [.gt] [.num 1])
      [.asg (.sub (.var 1701077357) (.meth (.var 1802396002) 1701536109 [.str 512970483042, .tup [.var 120, .var 121], .cst 1280266050, .var 105])) (.tup [.str 512970483042, .var 105, .var 120, .var 121]),
      .asg (.sub (.var 1701077357) (.meth (.var 1802396002) 1701536109 [.str 7629154, .tup [.var 121], .cst 1280266050, .var 105])) (.tup [.str 7629154, .var 105, .var 121])]
      []]
noncomputable def Sz (s : Sn) (k : Nat) : Prop := s.1.length ≤ 10 + k ∧ s.2.length ≤ 1 + k
theorem Sz.add {s : Sn} {k : Nat} {t : Tm} (h : Sz s k) : Sz (add1 s t) (k+1) := by
  have a := put_len s.1 t
  have b := setI_len (i := fd (put s.1 t) t) (v := dV t.op t.args t.data) (l := s.2)
  have := h.1; have := h.2
  exact ⟨by show (put s.1 t).length ≤ _; lia, by show (setI s.2 _ _).length ≤ _; lia⟩
theorem Sz.le {s : Sn} {j k : Nat} (h : Sz s j) (q : j ≤ k) : Sz s k := ⟨Nat.le_trans h.1 (by lia), Nat.le_trans h.2 (by lia)⟩
section
variable {w m l f : Nat} {X : Ext} {st : O}
theorem turn_a {k : Nat} (n : Nat) {ρ ρ' : Lo} {s : Sn} {r : List S} {fl : Fl} {H' : Hp} (L : Ls ρ w m) (Lf : Lk ρ 7824742 (.int f)) (Li : Lk ρ 105 (.int k)) (Z : Sz s 40)
    (g : Xs P (n+22) r ρ (hp st X (turnA f k s).1 [.dI (turnA f k s).2]) fl ρ' H') : Xs P (n+22) (turnL.head! :: r) ρ (hp st X s.1 [.dI s.2]) fl ρ' H' := by
  have C : Ev P (n+21) (.cmp (.bin .mod (.bin .add (.var 7824742) (.var 105)) (.num 2)) [.eq] [.num 1]) ρ (hp st X s.1 [.dI s.2]) (.bool (decide (Int.fmod ((f : Int) + (k : Int)) 2 = 1))) (hp st X s.1 [.dI s.2]) :=
    e_cmp (e_bin (e_bin (e_var' Lf) (e_var' Li) rfl) e_num (b_mod (by decide))) e_num cop_eq_int
  unfold turnA at g
  by_cases q : Int.fmod ((f : Int) + (k : Int)) 2 = 1
  · rw [if_pos q] at g
    have Z1 := Z.add (t := bT 3 k)
    refine x_ifs C (xi_tn (decide_eq_true q) ?_ g)
    have := Z.1; have := Z.2; have := Z1.1; have := Z1.2
    refine add_step (n := n+1) (op := 7629154) (args := [3]) (i := (k : Int)) L (by lia) (by lia) (es_cons e_str (es_cons (e_tup (es_cons (e_var' L.x) es_nil) rfl) (es_cons (e_cst rfl) (es_cons (e_var' Li) es_nil)))) (e_tup (es_cons e_str (es_cons (e_var' Li) (es_cons (e_var' L.x) es_nil))) rfl) ?_
    exact add_step (n := n+1) (s := add1 s (bT 3 k)) (op := 521611141475) (args := [3, 4]) (i := (k : Int)) L (by lia) (by lia) (es_cons e_str (es_cons (e_tup (es_cons (e_var' L.x) (es_cons (e_var' L.y) es_nil)) rfl) (es_cons (e_cst rfl) (es_cons (e_var' Li) es_nil)))) (e_tup (es_cons e_str (es_cons (e_var' Li) (es_cons (e_var' L.x) (es_cons (e_var' L.y) es_nil)))) rfl) x_nil
  · rw [if_neg q] at g
    exact x_ifs C (xi_f (decide_eq_false q) g)
theorem turn_b {k : Nat} (n : Nat) {ρ : Lo} {s : Sn} (L : Ls ρ w m) (Lf : Lk ρ 7824742 (.int f)) (Li : Lk ρ 105 (.int k)) (Z : Sz s 40) : Xs P (n+22) turnL.tail ρ (hp st X s.1 [.dI s.2]) .nxt ρ (hp st X (turnB f k s).1 [.dI (turnB f k s).2]) := by
  have C : Ev P (n+21) (.cmp (.var 7824742) [.gt] [.num 1]) ρ (hp st X s.1 [.dI s.2]) (.bool (decide ((1 : Int) < (f : Int)))) (hp st X s.1 [.dI s.2]) := e_cmp (e_var' Lf) e_num cop_gt_int
  unfold turnB
  by_cases q : 1 < f
  · rw [if_pos q]
    have Z1 := Z.add (t := sT 512970483042 k)
    refine x_ifs C (xi_tn (decide_eq_true (by lia)) ?_ x_nil)
    have := Z.1; have := Z.2; have := Z1.1; have := Z1.2
    refine add_step (n := n+1) (op := 512970483042) (args := [3, 4]) (i := (k : Int)) L (by lia) (by lia) (es_cons e_str (es_cons (e_tup (es_cons (e_var' L.x) (es_cons (e_var' L.y) es_nil)) rfl) (es_cons (e_cst rfl) (es_cons (e_var' Li) es_nil)))) (e_tup (es_cons e_str (es_cons (e_var' Li) (es_cons (e_var' L.x) (es_cons (e_var' L.y) es_nil)))) rfl) ?_
    exact add_step (n := n+1) (s := add1 s (sT 512970483042 k)) (op := 7629154) (args := [4]) (i := (k : Int)) L (by lia) (by lia) (es_cons e_str (es_cons (e_tup (es_cons (e_var' L.y) es_nil) rfl) (es_cons (e_cst rfl) (es_cons (e_var' Li) es_nil)))) (e_tup (es_cons e_str (es_cons (e_var' Li) (es_cons (e_var' L.y) es_nil))) rfl) x_nil
  · rw [if_neg q]
    exact x_ifs C (xi_f (decide_eq_false (by lia)) x_nil)
theorem Sz.turnA {s : Sn} {k i : Nat} (h : Sz s k) : Sz (turnA f i s) (k+2) := by
  unfold L2.turnA; split
  · exact h.add.add
  · exact h.le (by lia)
theorem Sz.turnB {s : Sn} {k i : Nat} (h : Sz s k) : Sz (turnB f i s) (k+2) := by
  unfold L2.turnB; split
  · exact h.add.add
  · exact h.le (by lia)
theorem turns_loop (w1 : w ≤ 3) (n : Nat) {ρ : Lo} (L : Ls ρ w m) (Lf : Lk ρ 7824742 (.int f)) (Lt : Lk ρ 448630452852 (.int (6 + (l : Int)))) (Z0 : Sz (scS w m l f 0) 0) :
    ∃ ρ' H', exFor (sem P (n+22)) (.var 105) turnL ((List.range w).map fun (j : Nat) => V.int (j : Int)) ρ (hp st X (scS w m l f 0).1 [.dI (scS w m l f 0).2]) = some (.nxt, ρ', H') ∧ (H' = hp st X (scS w m l f w).1 [.dI (scS w m l f w).2] ∧ Ls ρ' w m ∧ Lk ρ' 448630452852 (.int (6 + (l : Int)))) := by
  obtain ⟨ρ', H', e, h1, h2, h3, h4, h5⟩ := for_range (R := sem P (n+22)) (v := 105) (b := turnL) (N := w) (fun k ρ H => H = hp st X (scS w m l f k).1 [.dI (scS w m l f k).2] ∧ Ls ρ w m ∧ Lk ρ 448630452852 (.int (6 + (l : Int))) ∧ Lk ρ 7824742 (.int f) ∧ Sz (scS w m l f k) (4 * k)) (fun k hk ρ H h => by
    obtain ⟨e, L, Lt, Lf, Z⟩ := h
    have K : keep ρ (lset ρ 105 (.int k)) [105] := keep.set (by simp)
    have Li : Lk (lset ρ 105 (.int k)) 105 (.int k) := lke_same
    refine ⟨lset ρ 105 (.int k), _, ?_, rfl, L.keep K rfl, K _ _ rfl Lt, K _ _ rfl Lf, (Z.turnA.turnB : Sz (turnB f k (turnA f k (scS w m l f k))) (4 * k + 2 + 2)).le (by lia)⟩
    rw [e]
    exact (turn_a n (s := scS w m l f k) (L.keep K rfl) (K _ _ rfl Lf) Li (Z.le (by lia)) (turn_b n (s := turnA f k (scS w m l f k)) (L.keep K rfl) (K _ _ rfl Lf) Li (Z.turnA.le (by lia)))).h) ⟨rfl, L, Lt, Lf, Z0⟩
  exact ⟨ρ', H', e, h1, h2, h3⟩
end
end Mini.L2
end
section
set_option autoImplicit false
set_option maxRecDepth 10000
set_option maxHeartbeats 4000000
namespace Mini.L2
open Mini
noncomputable def wtext (w : Nat) : Nat := 48 + w
noncomputable def Xa (w : Nat) : Ext := X0.more w (wtext w)
noncomputable def Xb (w : Nat) : Ext := { Xa w with fnames := [.str 120], fargs := [.tup []], fres := [.int 3] }
noncomputable def Xc (w : Nat) : Ext := { Xa w with fnames := [.str 120, .str 121], fargs := [.tup [], .tup []], fres := [.int 3, .int 3] }
noncomputable def Xd (w m : Nat) : Ext := if m = w then Xc w else (Xc w).more m (wtext m)
noncomputable def Xe (w m : Nat) : Ext := { Xd w m with fnames := (Xd w m).fnames ++ [.str 122], fargs := (Xd w m).fargs ++ [.tup []], fres := (Xd w m).fres ++ [.int (szOf w m)] }
noncomputable def Xf (w m : Nat) : Ext := { Xe w m with fnames := (Xe w m).fnames ++ [.str 99], fargs := (Xe w m).fargs ++ [.tup []], fres := (Xe w m).fres ++ [.int 0] }
theorem i_text {w : Nat} (w0 : 1 ≤ w) (w1 : w ≤ 3) : intText (w : Int) = some (wtext w) := by
  have : w = 1 ∨ w = 2 ∨ w = 3 := by lia
  rcases this with rfl | rfl | rfl <;> rfl
section
variable {w m : Nat} {st : O} {n : Nat}
theorem getI_one {i j : Int} {v : V} : getI (setI [] i v) j = if j = i then some v else none := by
  show getI [(i, v)] j = _
  rw [getI_cons]; rfl
theorem wd_xf (w0 : 1 ≤ w) (w1 : w ≤ 3) (m0 : 1 ≤ m) (m1 : m ≤ 3) : Wd (Xf w m) 3 w ∧ Wd (Xf w m) (szOf w m) m := by
  show Wd (Xf w m) 3 w ∧ Wd (Xf w m) (if m = w then 3 else 4) m
  have e : (Xf w m).widths = (Xd w m).widths := rfl
  unfold Wd
  rw [e]
  unfold Xd
  by_cases h : m = w
  · rw [if_pos h, if_pos h, h]; exact ⟨⟨by decide, by decide, rfl⟩, by decide, by decide, rfl⟩
  · rw [if_neg h, if_neg h]; exact ⟨⟨by decide, by decide, rfl⟩, by decide, by decide, rfl⟩
/-- the sort of the third -/
theorem sort3 (w0 : 1 ≤ w) (w1 : w ≤ 3) (m0 : 1 ≤ m) (m1 : m ≤ 3) (ts : List Tm) (R : Hp) : Ca P (n+16) TermBank_bv_sort [.ref 1, .int m] (hp st (Xc w) ts R) (.int (szOf w m)) (hp st (Xd w m) ts R) := by
  have b : (Xc w).bvn = setI [] (w : Int) (.int 3) := rfl
  unfold szOf Xd
  by_cases h : m = w
  · rw [if_pos h, if_pos h]
    exact l_bv_sort (by rw [b, getI_one, if_pos (by lia)]) (by lia) (by lia)
  · rw [if_neg h, if_neg h]
    exact l_bv_sort_new (X := Xc w) (by rw [b, getI_one, if_neg (by lia)]) (by lia) (by lia) (i_text m0 m1) (Nat.le_of_ble_eq_true rfl) (Nat.le_of_ble_eq_true rfl) (Nat.le_of_ble_eq_true rfl)
noncomputable def ts4 : List Tm := [tt, tf, ⟨7368801, [], 3, 0⟩, ⟨7368801, [], 3, 1⟩]
theorem put_z : put ts4 ⟨7368801, [], szOf w m, 2⟩ = ts4 ++ [⟨7368801, [], szOf w m, 2⟩] ∧ fd (put ts4 ⟨7368801, [], szOf w m, 2⟩) ⟨7368801, [], szOf w m, 2⟩ = 5 := by
  unfold szOf; split <;> exact ⟨rfl, rfl⟩
theorem put_c : put (ts4 ++ [⟨7368801, [], szOf w m, 2⟩]) ⟨7368801, [], 0, 3⟩ = ts6 w m ∧ fd (put (ts4 ++ [⟨7368801, [], szOf w m, 2⟩]) ⟨7368801, [], 0, 3⟩) ⟨7368801, [], 0, 3⟩ = 6 := by
  unfold ts6 szOf; split <;> exact ⟨rfl, rfl⟩
theorem xd_len : (Xd w m).fnames.length = 2 ∧ (Xd w m).fargs.length = 2 ∧ (Xd w m).fres.length = 2 := by
  unfold Xd; split <;> exact ⟨rfl, rfl, rfl⟩
/-- z and c -/
theorem fresh_z (R : Hp) : Ca P (n+30) Bank_fresh_const [.ref 1, .str 122, .int (szOf w m)] (hp st (Xd w m) ts4 R) (.int 5) (hp st (Xe w m) (ts4 ++ [⟨7368801, [], szOf w m, 2⟩]) R) := by
  have q := l_fresh (n := n) (nm := 122) (s := szOf w m) (st := st) (X := Xd w m) (ts := ts4) (rest := R) (by decide) (by rw [xd_len.1]; decide) (by rw [xd_len.2.1]; decide) (by rw [xd_len.2.2]; decide)
  rw [xd_len.1] at q
  have p := put_z (w := w) (m := m)
  have q : Ca P (n+30) Bank_fresh_const [.ref 1, .str 122, .int (szOf w m)] (hp st (Xd w m) ts4 R) (.int (fd (put ts4 ⟨7368801, [], szOf w m, 2⟩) ⟨7368801, [], szOf w m, 2⟩)) (hp st (Xe w m) (put ts4 ⟨7368801, [], szOf w m, 2⟩) R) := q
  rw [p.2, p.1] at q
  exact q
theorem fresh_c (R : Hp) : Ca P (n+30) Bank_fresh_const [.ref 1, .str 99, .int 0] (hp st (Xe w m) (ts4 ++ [⟨7368801, [], szOf w m, 2⟩]) R) (.int 6) (hp st (Xf w m) (ts6 w m) R) := by
  have e1 : (Xe w m).fnames.length = 3 := by show ((Xd w m).fnames ++ [_]).length = 3; rw [List.length_append, xd_len.1]; rfl
  have e2 : (Xe w m).fargs.length = 3 := by show ((Xd w m).fargs ++ [_]).length = 3; rw [List.length_append, xd_len.2.1]; rfl
  have e3 : (Xe w m).fres.length = 3 := by show ((Xd w m).fres ++ [_]).length = 3; rw [List.length_append, xd_len.2.2]; rfl
  have q := l_fresh (n := n) (nm := 99) (s := 0) (st := st) (X := Xe w m) (ts := ts4 ++ [⟨7368801, [], szOf w m, 2⟩]) (rest := R) (Nat.lt_of_lt_of_le (Nat.lt_succ_self _) (Nat.le_of_ble_eq_true rfl)) (by rw [e1]; decide) (by rw [e2]; decide) (by rw [e3]; decide)
  rw [e1] at q
  have p := put_c (w := w) (m := m)
  have q : Ca P (n+30) Bank_fresh_const [.ref 1, .str 99, .int 0] (hp st (Xe w m) (ts4 ++ [⟨7368801, [], szOf w m, 2⟩]) R) (.int (fd (put (ts4 ++ [⟨7368801, [], szOf w m, 2⟩]) ⟨7368801, [], 0, 3⟩) ⟨7368801, [], 0, 3⟩)) (hp st (Xf w m) (put (ts4 ++ [⟨7368801, [], szOf w m, 2⟩]) ⟨7368801, [], 0, 3⟩) R) := q
  rw [p.2, p.1] at q
  exact q
end
end Mini.L2
end
section
set_option autoImplicit false
set_option maxRecDepth 10000
set_option maxHeartbeats 4000000
namespace Mini.L2
open Mini
/-- the scene's dict, before the turns -/
noncomputable def scB (t wide more : Int) : O := .dS [(1802396002, .ref 1), (120, .int 3), (121, .int 4), (122, .int 5), (99, .int 6), (448630452852, .int t), (1701077357, .ref 13), (1701079415, .int wide), (1701998445, .int more)]
theorem scene_body : law_scene.body = [.asg (.tup [1802396002, 1701079415]) (.tup [.new 7741231747428410708 [], .bin .add (.num 1) (.call 1814802707652282510431 [.var 1801675123, .num 3])]),
  .asg (.var 1701998445) (.bin .add (.num 1) (.call 1814802707652282510431 [.var 1801675123, .num 3])),
  .asg (.tup [120, 121]) (.tup [.meth (.var 1802396002) 140780504389038964637790822 [.str 120, .meth (.var 1802396002) 32776920301008482 [.var 1701079415]], .meth (.var 1802396002) 140780504389038964637790822 [.str 121, .meth (.var 1802396002) 32776920301008482 [.var 1701079415]]]),
  .asg (.tup [122, 99]) (.tup [.meth (.var 1802396002) 140780504389038964637790822 [.str 122, .meth (.var 1802396002) 32776920301008482 [.var 1701998445]], .meth (.var 1802396002) 140780504389038964637790822 [.str 99, .cst 1280266050]]),
  .asg (.tup [1701077357, 448630452852]) (.tup [.dict .i [.var 99] [.tup [.str 448630452852, .num 0, .var 99]], .var 99]),
  .fr (.var 7364972) (.range [.call 1814802707652282510431 [.var 1801675123, .num 3]]) lapB,
  .asg (.var 7824742) (.call 1814802707652282510431 [.var 1801675123, .num 4]),
  .fr (.var 105) (.range [.var 1701079415]) turnL,
  .ret (.dict .s [.str 1802396002, .str 120, .str 121, .str 122, .str 99, .str 448630452852, .str 1701077357, .str 1701079415, .str 1701998445] [.var 1802396002, .var 120, .var 121, .var 122, .var 99, .var 448630452852, .var 1701077357, .var 1701079415, .var 1701998445])] := rfl
section
variable {w m l f : Nat} {cells : List Int}
/-- a draw, done -/
noncomputable abbrev Dr (cells : List Int) (g k v : Int) : Prop := ∀ n X ts rest, Ca P (n+16) law_grab [.ref 0, .int k] (hp (stk cells g) X ts rest) (.int v) (hp (stk cells (g+1)) X ts rest)
theorem scene_end (w0 : 1 ≤ w) (w1 : w ≤ 3) (m0 : 1 ≤ m) (m1 : m ≤ 3) (hl : l ≤ 2) (D3 : Dr cells 2 3 l) (D4 : Dr cells 3 4 f) (n : Nat) {ρ : Lo} (L : Ls ρ w m) (Lt : Lk ρ 448630452852 (.int 6)) :
    ∃ ρ', Xs P (n+100) (law_scene.body.drop 5) ρ (hp (stk cells 2) (Xf w m) (ts6 w m) [.dI [(6, dV 448630452852 [6] 0)]]) (.ret (.ref 14)) ρ' (hp (stk cells 4) (Xf w m) (scS w m l f w).1 [.dI (scS w m l f w).2, scB (6 + (l : Int)) w m]) := by
  obtain ⟨ρ1, H1, e1, h1, L1, T1⟩ := laps (st := stk cells 3) (X := Xf w m) (R := [.dI [(6, dV 448630452852 [6] 0)]]) w0 w1 m0 m1 hl (n+79) L Lt
  rw [h1] at e1
  have I1 : It P (n+99) (.range [.call 1814802707652282510431 [.var 1801675123, .num 3]]) ρ (hp (stk cells 2) (Xf w m) (ts6 w m) [.dI [(6, dV 448630452852 [6] 0)]]) ((List.range ((l : Int)).toNat).map fun (j : Nat) => V.int (j : Int)) (hp (stk cells 3) (Xf w m) (ts6 w m) [.dI [(6, dV 448630452852 [6] 0)]]) :=
    i_range1 (e_call rfl (es_cons (e_var' L.sack) (es_cons e_num es_nil)) (D3 (n+82) _ _ _)) (by rw [okLen_of (by lia), okInt_of (by lia)]; rfl)
  rw [Int.toNat_natCast] at I1
  have S2 : Ev P (n+99) (.call 1814802707652282510431 [.var 1801675123, .num 4]) ρ1 (hp (stk cells 3) (Xf w m) (tsN (ts6 w m) l) [.dI [(6, dV 448630452852 [6] 0)]]) (.int f) (hp (stk cells 4) (Xf w m) (tsN (ts6 w m) l) [.dI [(6, dV 448630452852 [6] 0)]]) :=
    e_call rfl (es_cons (e_var' L1.sack) (es_cons e_num es_nil)) (D4 (n+82) _ _ _)
  have K2 : keep ρ1 (lset ρ1 7824742 (.int f)) [7824742] := keep.set (by simp)
  have L2' := L1.keep K2 rfl
  have T2 := K2 _ _ rfl T1
  have F2 : Lk (lset ρ1 7824742 (.int f)) 7824742 (.int f) := lke_same
  have Z0 : Sz (scS w m l f 0) 0 := by
    have hn : ∀ k, (tsN (ts6 w m) k).length ≤ 6 + k := by
      intro k
      induction k with
      | zero => exact Nat.le_of_ble_eq_true rfl
      | succ k ih => have := put_len (tsN (ts6 w m) k) (notT (6 + (k : Int))); show (put _ _).length ≤ _; lia
    have := hn l
    exact ⟨by show (tsN (ts6 w m) l).length ≤ _; lia, Nat.le_of_ble_eq_true rfl⟩
  obtain ⟨ρ3, H3, e3, h3, L3, T3⟩ := turns_loop (st := stk cells 4) (X := Xf w m) (l := l) w1 (n+77) L2' F2 T2 Z0
  rw [h3] at e3
  have I3 : It P (n+99) (.range [.var 1701079415]) (lset ρ1 7824742 (.int f)) (hp (stk cells 4) (Xf w m) (tsN (ts6 w m) l) [.dI [(6, dV 448630452852 [6] 0)]]) ((List.range ((w : Int)).toNat).map fun (j : Nat) => V.int (j : Int)) (hp (stk cells 4) (Xf w m) (tsN (ts6 w m) l) [.dI [(6, dV 448630452852 [6] 0)]]) :=
    i_range1 (e_var' L2'.wide) (by rw [okLen_of (by lia), okInt_of (by lia)]; rfl)
  rw [Int.toNat_natCast] at I3
  refine ⟨ρ3, ?_⟩
  rw [scene_body]
  refine x_fr I1 e1 (x_asgv S2 (x_fr I3 e3 (x_ret ?_)))
  exact e_dict (ep_cons e_str (e_var' L3.bank) (ep_cons e_str (e_var' L3.x) (ep_cons e_str (e_var' L3.y) (ep_cons e_str (e_var' L3.z) (ep_cons e_str (e_var' L3.c) (ep_cons e_str (e_var' T3) (ep_cons e_str (e_var' L3.made) (ep_cons e_str (e_var' L3.wide) (ep_cons e_str (e_var' L3.more) ep_nil))))))))) (o := scB (6 + (l : Int)) w m) rfl
theorem scene (w0 : 1 ≤ w) (w1 : w ≤ 3) (m0 : 1 ≤ m) (m1 : m ≤ 3) (hl : l ≤ 2) {d1 d2 : Int} (D1 : Dr cells 0 3 d1) (hw : 1 + d1 = w) (D2 : Dr cells 1 3 d2) (hm : 1 + d2 = m) (D3 : Dr cells 2 3 l) (D4 : Dr cells 3 4 f) (n : Nat) :
    Ca P (n+100) law_scene [.ref 0] [stk cells 0] (.ref 14) (hp (stk cells 4) (Xf w m) (scS w m l f w).1 [.dI (scS w m l f w).2, scB (6 + (l : Int)) w m]) := by
  have P0 : Lk (law_scene.params.zip [V.ref 0]) 1801675123 (.ref 0) := lke_base rfl
  have S1 : Ev P (n+99) (.tup [.new 7741231747428410708 [], .bin .add (.num 1) (.call 1814802707652282510431 [.var 1801675123, .num 3])]) (law_scene.params.zip [V.ref 0]) [stk cells 0] (.tup [.ref 1, .int w]) (hp (stk cells 1) X0 [tt, tf] []) :=
    e_tup (es_cons (e_new rfl rfl es_nil (bank_new (n+57) (stk cells 0))) (es_cons (e_bin e_num (e_call rfl (es_cons (e_var' P0) (es_cons e_num es_nil)) (D1 (n+80) X0 [tt, tf] [])) (by rw [← hw]; rfl)) es_nil)) rfl
  generalize hρ1 : lset (lset (law_scene.params.zip [V.ref 0]) 1802396002 (.ref 1)) 1701079415 (.int w) = ρ1
  have a0 : Lk ρ1 1801675123 (.ref 0) := by rw [← hρ1]; exact lke_skip rfl (lke_skip rfl P0)
  have a1 : Lk ρ1 1802396002 (.ref 1) := by rw [← hρ1]; exact lke_skip rfl lke_same
  have a2 : Lk ρ1 1701079415 (.int w) := by rw [← hρ1]; exact lke_same
  have S2 : Ev P (n+99) (.bin .add (.num 1) (.call 1814802707652282510431 [.var 1801675123, .num 3])) ρ1 (hp (stk cells 1) X0 [tt, tf] []) (.int m) (hp (stk cells 2) X0 [tt, tf] []) :=
    e_bin e_num (e_call rfl (es_cons (e_var' a0) (es_cons e_num es_nil)) (D2 (n+81) X0 [tt, tf] [])) (by rw [← hm]; rfl)
  generalize hρ2 : lset ρ1 1701998445 (.int m) = ρ2
  have K2 : keep ρ1 ρ2 [1701998445] := by rw [← hρ2]; exact keep.set (by simp)
  have b1 := K2 _ _ rfl a1
  have b2 := K2 _ _ rfl a2
  have b3 : Lk ρ2 1701998445 (.int m) := by rw [← hρ2]; exact lke_same
  have BS := l_bv_sort_new (n := n+80) (st := stk cells 2) (X := X0) (ts := [tt, tf]) (rest := []) (w := (w : Int)) (t := wtext w) rfl (by lia) (by lia) (i_text w0 w1) (by decide) (by decide) (by decide)
  have FX := l_fresh (n := n+67) (nm := 120) (s := 3) (st := stk cells 2) (X := Xa w) (ts := [tt, tf]) (rest := []) (by decide) (Nat.le_of_ble_eq_true rfl) (Nat.le_of_ble_eq_true rfl) (Nat.le_of_ble_eq_true rfl)
  have B2 := l_bv_sort (n := n+80) (st := stk cells 2) (X := Xb w) (ts := [tt, tf, ⟨7368801, [], 3, 0⟩]) (rest := []) (w := (w : Int)) (s := 3) (by show getI (setI [] (w : Int) (.int 3)) w = _; rw [getI_one, if_pos rfl]) (by lia) (by lia)
  have FY := l_fresh (n := n+67) (nm := 121) (s := 3) (st := stk cells 2) (X := Xb w) (ts := [tt, tf, ⟨7368801, [], 3, 0⟩]) (rest := []) (by decide) (Nat.le_of_ble_eq_true rfl) (Nat.le_of_ble_eq_true rfl) (Nat.le_of_ble_eq_true rfl)
  have S3 : Ev P (n+99) (.tup [.meth (.var 1802396002) 140780504389038964637790822 [.str 120, .meth (.var 1802396002) 32776920301008482 [.var 1701079415]], .meth (.var 1802396002) 140780504389038964637790822 [.str 121, .meth (.var 1802396002) 32776920301008482 [.var 1701079415]]]) ρ2 (hp (stk cells 2) X0 [tt, tf] []) (.tup [.int 3, .int 4]) (hp (stk cells 2) (Xc w) ts4 []) :=
    e_tup (es_cons (e_meth (e_var' b1) rfl rfl rfl rfl (es_cons e_str (es_cons (e_meth (e_var' b1) rfl rfl rfl rfl (es_cons (e_var' b2) es_nil) BS) es_nil)) FX) (es_cons (e_meth (e_var' b1) rfl rfl rfl rfl (es_cons e_str (es_cons (e_meth (e_var' b1) rfl rfl rfl rfl (es_cons (e_var' b2) es_nil) B2) es_nil)) FY) es_nil)) rfl
  generalize hρ3 : lset (lset ρ2 120 (.int 3)) 121 (.int 4) = ρ3
  have K3 : keep ρ2 ρ3 [120, 121] := by rw [← hρ3]; exact (keep.set (by simp)).trans (keep.set (by simp))
  have c1 := K3 _ _ rfl b1
  have c3 := K3 _ _ rfl b3
  have S4 : Ev P (n+99) (.tup [.meth (.var 1802396002) 140780504389038964637790822 [.str 122, .meth (.var 1802396002) 32776920301008482 [.var 1701998445]], .meth (.var 1802396002) 140780504389038964637790822 [.str 99, .cst 1280266050]]) ρ3 (hp (stk cells 2) (Xc w) ts4 []) (.tup [.int 5, .int 6]) (hp (stk cells 2) (Xf w m) (ts6 w m) []) :=
    e_tup (es_cons (e_meth (e_var' c1) rfl rfl rfl rfl (es_cons e_str (es_cons (e_meth (e_var' c1) rfl rfl rfl rfl (es_cons (e_var' c3) es_nil) (sort3 (n := n+80) w0 w1 m0 m1 ts4 [])) es_nil)) (fresh_z (n := n+67) [])) (es_cons (e_meth (e_var' c1) rfl rfl rfl rfl (es_cons e_str (es_cons (e_cst rfl) es_nil)) (fresh_c (n := n+67) [])) es_nil)) rfl
  generalize hρ4 : lset (lset ρ3 122 (.int 5)) 99 (.int 6) = ρ4
  have K4 : keep ρ3 ρ4 [122, 99] := by rw [← hρ4]; exact (keep.set (by simp)).trans (keep.set (by simp))
  have d6 : Lk ρ4 99 (.int 6) := by rw [← hρ4]; exact lke_same
  have S5 : Ev P (n+99) (.tup [.dict .i [.var 99] [.tup [.str 448630452852, .num 0, .var 99]], .var 99]) ρ4 (hp (stk cells 2) (Xf w m) (ts6 w m) []) (.tup [.ref 13, .int 6]) (hp (stk cells 2) (Xf w m) (ts6 w m) [.dI [(6, dV 448630452852 [6] 0)]]) :=
    e_tup (es_cons (e_dict (ep_cons (e_var' d6) (e_tup (es_cons e_str (es_cons e_num (es_cons (e_var' d6) es_nil))) rfl) ep_nil) (o := .dI [(6, dV 448630452852 [6] 0)]) rfl) (es_cons (e_var' d6) es_nil)) rfl
  generalize hρ5 : lset (lset ρ4 1701077357 (.ref 13)) 448630452852 (.int 6) = ρ5
  have K5 : keep ρ4 ρ5 [1701077357, 448630452852] := by rw [← hρ5]; exact (keep.set (by simp)).trans (keep.set (by simp))
  have L : Ls ρ5 w m := ⟨K5 _ _ rfl (K4 _ _ rfl (K3 _ _ rfl (K2 _ _ rfl a0))), K5 _ _ rfl (K4 _ _ rfl c1), K5 _ _ rfl (K4 _ _ rfl (K3 _ _ rfl b2)), K5 _ _ rfl (K4 _ _ rfl c3), K5 _ _ rfl (K4 _ _ rfl (by rw [← hρ3]; exact lke_skip rfl lke_same)), K5 _ _ rfl (K4 _ _ rfl (by rw [← hρ3]; exact lke_same)), K5 _ _ rfl (by rw [← hρ4]; exact lke_skip rfl lke_same), K5 _ _ rfl d6, by rw [← hρ5]; exact lke_skip rfl lke_same⟩
  obtain ⟨ρ', e⟩ := scene_end w0 w1 m0 m1 hl D3 D4 n L (by rw [← hρ5]; exact lke_same)
  refine c_ret rfl (ρ' := ρ') ?_
  rw [scene_body] at e ⊢
  refine x_asgt S1 (ρ1 := ρ1) (by rw [← hρ1]; rfl) (x_asgv S2 ?_)
  rw [hρ2]
  exact x_asgt S3 (ρ1 := ρ3) (by rw [← hρ3]; rfl) (x_asgt S4 (ρ1 := ρ4) (by rw [← hρ4]; rfl) (x_asgt S5 (ρ1 := ρ5) (by rw [← hρ5]; rfl) e))
end
end Mini.L2
end
section
set_option autoImplicit false
set_option maxRecDepth 10000
set_option maxHeartbeats 4000000
namespace Mini.L2
open Mini
theorem tu_of {l : Nat} (hl : l ≤ 2) : nB (decide (Int.fmod (6 + (l : Int) - 6) 2 = 1)) = nB (decide (l % 2 = 1)) := by
  have : l = 0 ∨ l = 1 ∨ l = 2 := by lia
  rcases this with rfl | rfl | rfl <;> rfl
theorem law_runs (script : List Int) (hs : script.length ≤ 63) : ∃ H', Ca P 180 law [.lst (intsV script)] [] (.bool true) H' := by
  generalize hcl : (script.take 30).map (fun c => Int.fmod (c.natAbs : Int) 1000003) = cells
  have hc : cells.length ≤ 30 := by rw [← hcl, List.length_map, List.length_take]; lia
  have okS : okLen (intsV script).length = true := okLen_of (by unfold intsV; rw [List.length_map]; lia)
  have sl : sliceL (intsV script) none (some 30) = some ((script.take 30).map V.int) := by
    simp only [sliceL, okS]
    rw [if_pos ⟨by decide, trivial⟩, show ((30 : Int).toNat) = 30 from rfl]; unfold intsV; rw [List.map_take]
  have CE : Ev P 178 (.comp (.bin .mod (.bi .abs [.var 1819043171]) (.num 1000003)) [.mk (.var 1819043171) (.slice (.var 128026154263411) Option.none (some (.num 30))) []]) (law.params.zip [.lst (intsV script)]) [] (.lst (intsV cells)) [] := by
    have C := e_compm (P := P) (n := 177) (ρ := law.params.zip [.lst (intsV script)]) (H := []) (H1 := []) (it := .slice (.var 128026154263411) Option.none (some (.num 30))) (elt := .bin .mod (.bi .abs [.var 1819043171]) (.num 1000003)) (t := .var 1819043171) (g := V.int) (f := fun c => V.int (Int.fmod (c.natAbs : Int) 1000003)) (l := script.take 30)
      (i_val (by rfl) (e_slice_l (e_var' (lke_base rfl)) e_num rfl sl) rfl) (by
        intro c hc
        exact ⟨_, rfl, e_bin (e_bi (es_cons (e_var' lke_same) es_nil) rfl) e_num (b_mod (by decide))⟩) (by rw [List.length_take]; lia)
    have e : (script.take 30).map (fun c => V.int (Int.fmod (c.natAbs : Int) 1000003)) = intsV cells := by rw [← hcl]; unfold intsV; rw [List.map_map]; rfl
    rw [e] at C; exact C
  have S1 : Ev P 179 (.dict .s [.str 495740282211, .str 1650553447] [.comp (.bin .mod (.bi .abs [.var 1819043171]) (.num 1000003)) [.mk (.var 1819043171) (.slice (.var 128026154263411) Option.none (some (.num 30))) []], .num 0]) (law.params.zip [.lst (intsV script)]) [] (.ref 0) [stk cells 0] :=
    e_dict (ep_cons e_str CE (ep_cons e_str e_num ep_nil)) (o := stk cells 0) rfl
  obtain ⟨d1, d10, d11, D1⟩ := l_grab (cells := cells) (t := 0) (wide := 3) hc (by decide) (by decide) (by decide)
  obtain ⟨d2, d20, d21, D2⟩ := l_grab (cells := cells) (t := 1) (wide := 3) hc (by decide) (by decide) (by decide)
  obtain ⟨d3, d30, d31, D3⟩ := l_grab (cells := cells) (t := 2) (wide := 3) hc (by decide) (by decide) (by decide)
  obtain ⟨d4, d40, d41, D4⟩ := l_grab (cells := cells) (t := 3) (wide := 4) hc (by decide) (by decide) (by decide)
  obtain ⟨w, ew⟩ : ∃ w : Nat, 1 + d1 = (w : Int) := ⟨(1 + d1).toNat, by lia⟩
  obtain ⟨m, em⟩ : ∃ m : Nat, 1 + d2 = (m : Int) := ⟨(1 + d2).toNat, by lia⟩
  obtain ⟨l, el⟩ : ∃ l : Nat, d3 = (l : Int) := ⟨d3.toNat, by lia⟩
  obtain ⟨f, ef⟩ : ∃ f : Nat, d4 = (f : Int) := ⟨d4.toNat, by lia⟩
  subst el ef
  have w0 : 1 ≤ w := by lia
  have w1 : w ≤ 3 := by lia
  have m0 : 1 ≤ m := by lia
  have m1 : m ≤ 3 := by lia
  have hl : l ≤ 2 := by lia
  have F := scene_facts (f := f) w0 w1 m0 m1 hl (by lia)
  have X := wd_xf w0 w1 m0 m1
  have SC := scene (f := f) w0 w1 m0 m1 hl D1 ew D2 em D3 D4 78
  generalize hρ1 : lset (law.params.zip [V.lst (intsV script)]) 1801675123 (.ref 0) = ρ1
  have a0 : Lk ρ1 1801675123 (.ref 0) := by rw [← hρ1]; exact lke_same
  have S2 : Ev P 179 (.call 478995462427816604298335 [.var 1801675123]) ρ1 [stk cells 0] (.ref 14) (hp (stk cells 4) (Xf w m) (scS w m l f w).1 [.dI (scS w m l f w).2, scB (6 + (l : Int)) w m]) := e_call rfl (es_cons (e_var' a0) es_nil) SC
  generalize hρ2 : lset ρ1 435643835251 (.ref 14) = ρ2
  have b0 : Lk ρ2 1801675123 (.ref 0) := by rw [← hρ2]; exact lke_skip rfl a0
  have b1 : Lk ρ2 435643835251 (.ref 14) := by rw [← hρ2]; exact lke_same
  have S3 : Ev P 179 (.bi .int [.cmp (.bin .mod (.bin .sub (.sub (.var 435643835251) (.str 448630452852)) (.sub (.var 435643835251) (.str 99))) (.num 2)) [.eq] [.num 1]]) ρ2 (hp (stk cells 4) (Xf w m) (scS w m l f w).1 [.dI (scS w m l f w).2, scB (6 + (l : Int)) w m]) (.int (nB (decide (Int.fmod (6 + (l : Int) - 6) 2 = 1)))) (hp (stk cells 4) (Xf w m) (scS w m l f w).1 [.dI (scS w m l f w).2, scB (6 + (l : Int)) w m]) :=
    e_bi (es_cons (e_cmp (e_bin (e_bin (e_sub (e_var' b1) e_str rfl) (e_sub (e_var' b1) e_str rfl) rfl) e_num (b_mod (by decide))) e_num cop_eq_int) es_nil) int_b
  rw [tu_of hl] at S3
  have Q : setItemV (hp (stk cells 4) (Xf w m) (scS w m l f w).1 [.dI (scS w m l f w).2, scB (6 + (l : Int)) w m]) (.ref 14) (.str 495774233972) (.int (nB (decide (l % 2 = 1)))) = some (hp (stk cells 4) (Xf w m) (scS w m l f w).1 [.dI (scS w m l f w).2, scO (6 + (l : Int)) w m (nB (decide (l % 2 = 1)))]) := rfl
  obtain ⟨g1, J1, hg1, C1⟩ := wanted F w0 w1 m0 m1 hl X.1 X.2 hc (g := 4) (by decide) (by decide) rfl 3 []
  obtain ⟨g2, J2, hg2, C2⟩ := wanted F w0 w1 m0 m1 hl X.1 X.2 hc (g := g1) (by lia) (by lia) rfl 3 ([] ++ J1)
  have R : Ev P 179 (.and [.call 2036279038482358763468896052800607 [.var 1801675123, .var 435643835251], .call 2036279038482358763468896052800607 [.var 1801675123, .var 435643835251]]) ρ2 _ (.bool true) _ :=
    e_and (e_call rfl (es_cons (e_var' b0) (es_cons (e_var' b1) es_nil)) C1) (ai_t rfl (e_and_1 (e_call rfl (es_cons (e_var' b0) (es_cons (e_var' b1) es_nil)) C2)))
  refine ⟨hp (stk cells g2) (Xf w m) (scS w m l f w).1 (.dI (scS w m l f w).2 :: scO (6 + (l : Int)) w m (nB (decide (l % 2 = 1))) :: ([] ++ J1 ++ J2)), c_ret rfl (ρ' := ρ2) (x_asgv S1 ?_)⟩
  rw [hρ1]
  refine x_asgv S2 ?_
  rw [hρ2]
  exact x_asgs S3 (e_var' b1) e_str Q (x_ret R)
end Mini.L2
end
end
section
open PySem PySem.W PyProof.Rows
set_option tactic.hygienic true
namespace PJ2
set_option maxRecDepth 100000
set_option maxHeartbeats 8000000
theorem vrs_ints {h : Heap} : ∀ {vs : List Value} {ns : List Int}, IntsAre vs ns → Mini.VRs .nil [] h (Mini.L2.intsV ns) vs
  | _, _, .nil => .nil
  | _, _, .cons n t r => .cons (.int n t) (vrs_ints r)
theorem post2 (ns : List Int) : PySem.Challenge.rw_zu0062_02.row.claim.post [ofPy (PyData.list (List.map PyData.int ns))] (ofPy (PyData.bool true)) [ofPy (PyData.list (List.map PyData.int ns))] = true := by kernel_rfl
theorem fin2 {hK : Params → Frag} {vw : Program} (chk : ∀ P, Mini.chkAll PySem.Challenge.rw_zu0062_02.row.prog (hK P) Mini.L2.P = true) (imp : importsNone vw = true) {w : World} {s : Shared} {mg mb : Str → Option Value} {fa a : Addr} {vs : List Value} {ns : List Int} {mean' : ExcName → Option Value} {cl : Str → Option Addr} {E : Value → Shared → Prop}
    (KX : (hK w.params).In s.heap) {loose : List Str} {mean : ExcName → Option Value} (T : Top vw loose mean mg mb s.heap) (hg : s.gens = #[]) (hmg : mg "law" = some (.ref fa)) (hl : s.heap.IsList a vs.toArray) (hI : IntsAre vs ns) (hc : ¬ (63 : Int) < ns.length) :
    wpAny (model PySem.Challenge.rw_zu0062_02.row.prog w) callerA (call (.ref fa) [.ref a])
      (fun v s' => GoodWG PySem.Challenge.rw_zu0062_02.row.claim cl mean' [ofPy (PyData.list (List.map PyData.int ns))] s (.ok (.ret v)) s') E s := by
  let C : Mini.Cfg := { prog := PySem.Challenge.rw_zu0062_02.row.prog, w := w, base := s.heap, K := hK w.params, P := Mini.L2.P, cls := Mini.clsOf (hK w.params), os := s.os }
  have hs : (s.heap.get? sysModules).isSome = true := by
    obtain ⟨mm, ⟨o, es, ep, ho, _⟩, _⟩ := (T.seer imp).mods
    rw [ho]; rfl
  have K : Mini.CfgOK C ⟨mg, mb⟩ := Mini.cfg_ok (C := C) (G := ⟨mg, mb⟩) rfl KX hs T.nolimit T.g T.b T.builtins (chk w.params)
  have F : Mini.Fn C fa Mini.L2.law := by
    obtain ⟨a', e, f⟩ := K.fn 7823724 Mini.L2.law rfl
    have e2 : mg "law" = some (.ref a') := e
    rw [hmg] at e2
    cases e2
    exact f
  obtain ⟨H', R⟩ := Mini.L2.law_runs ns (by omega)
  exact Mini.join (C := C) K F rfl rfl hg R.h ⟨rfl, by decide, by decide⟩ (.cons (.lst hl (fun h => by
    rcases h with ⟨i, p, o, h, _⟩ | h
    · cases (show (none : Option (Addr × Addr)) = some p from h)
    · cases h) (vrs_ints hI)) .nil) (fun k => rfl) (post2 ns)

end PJ2
end
theorem PySem.Challenge.cw_zu0062_02_holds : PySem.Challenge.rw_zu0062_02.Holds := by
  exact PJ2.law_holds fun _ _ chk imp => PJ2.fin2 chk imp
