import PyProof.Rows.All
import Wide.All
import OpenK.AllK
import Wide.FinOn
import Lean
import PySem.Challenge.RW_pq0844_01
set_option Elab.async false
set_option genSizeOf false
set_option genCtorIdx false
set_option backward.eqns.nonrecursive false
set_option genInjectivity false
set_option bootstrap.genMatcherCode false
set_option tactic.hygienic false
set_option linter.all false

set_option maxRecDepth 10000
namespace Mine
open PySem

/-- data -/
inductive D where
  | none | undef | bool (b : Bool) | int (i : Int) | str (s : Str)
  | tup (ds : List D) | lst (ds : List D) | dic (ks vs : List D) | obj (ds : List D)
  | rng (a b c : Int) | cell (k : Nat)

/-- what a mutable object holds -/
inductive Cell where
  | lst (ds : List D)
  | dic (ks vs : List D)

noncomputable def D.ctorIdx (x : D) : Nat := D.casesOn (motive_1 := fun _ => Nat) x 0 1 (fun _ => 2) (fun _ => 3) (fun _ => 4) (fun _ => 5) (fun _ => 6) (fun _ _ => 7) (fun _ => 8) (fun _ _ _ => 9) (fun _ => 10)
noncomputable def Cell.ctorIdx (x : Cell) : Nat := Cell.casesOn (motive := fun _ => Nat) x (fun _ => 0) (fun _ _ => 1)

noncomputable abbrev Mem := List (Option Cell)

structure St where
  env : List D
  mem : Mem

noncomputable abbrev Fn := List D → Mem → Option (D × Mem)

set_option genCtorIdx true in
inductive Bop where | add | sub | mul | pow | mod
set_option genCtorIdx true in
inductive Cop where | eq | ne | lt | le | gt | ge | is | isNot | isIn | notIn
set_option genCtorIdx true in
inductive Bi where | len | sorted | repr | str | list | tuple | range1
inductive Tgt where | v (i : Nat) | t (is : List Nat)

mutual
inductive E where
  | any                                   -- never reached
  | cst (c : D)
  | var (i : Nat)
  | frz (e : E)
  | attr (e : E) (k : Nat)
  | idx (e i : E)
  | sub (e : E) (n : Nat)
  | rev (e : E)
  | lst (es : Es)
  | lstc (es : Es)
  | tup (es : Es)
  | dicc
  | dic (kvs : Kvs)
  | bin (o : Bop) (a b : E)
  | cmp (o : Cop) (a b : E)
  | cmp2 (a : E) (o : Cop) (b : E) (o' : Cop) (c : E)
  | and (es : Es)
  | or (es : Es)
  | not (e : E)
  | ife (t a b : E)
  | call (name : Str) (f : Fn) (es : Es)
  | new (es : Es)
  | bi (b : Bi) (e : E)
  | range3 (a b c : E)
  | get (e k d : E)
  | pop (e : E)
  | comp (g : Gens)
inductive Es where
  | nil
  | cons (e : E) (es : Es)
inductive Kvs where
  | nil
  | cons (k v : E) (r : Kvs)
inductive Gens where
  | done (elt : E)
  | cons (t : Tgt) (e : E) (ifs : Es) (g : Gens)
end

mutual
inductive S where
  | any
  | asg (t : Tgt) (e : E)
  | setI (o i e : E)
  | app (o e : E)
  | ext (o e : E)
  | ifs (t : E) (a b : Ss)
  | fors (t : Tgt) (e : E) (b : Ss)
  | fore (t : Tgt) (e : E) (b : Ss)      -- for .. in enumerate(e)
  | whl (t : E) (b : Ss)
  | ret (e : E)
inductive Ss where
  | nil
  | cons (s : S) (ss : Ss)
  | frz (i : Nat) (ss : Ss)             -- no row of the text: from here on the slot's object is never written again
end

noncomputable def Tgt.ctorIdx (x : Tgt) : Nat := Tgt.casesOn (motive := fun _ => Nat) x (fun _ => 0) (fun _ => 1)
noncomputable def E.ctorIdx (x : E) : Nat := E.casesOn (motive_1 := fun _ => Nat) x 0 (fun _ => 1) (fun _ => 2) (fun _ => 3) (fun _ _ => 4) (fun _ _ => 5) (fun _ _ => 6) (fun _ => 7) (fun _ => 8) (fun _ => 9) (fun _ => 10) 11 (fun _ => 12) (fun _ _ _ => 13) (fun _ _ _ => 14) (fun _ _ _ _ _ => 15) (fun _ => 16) (fun _ => 17) (fun _ => 18) (fun _ _ _ => 19) (fun _ _ _ => 20) (fun _ => 21) (fun _ _ => 22) (fun _ _ _ => 23) (fun _ _ _ => 24) (fun _ => 25) (fun _ => 26)
noncomputable def Es.ctorIdx (x : Es) : Nat := Es.casesOn (motive_2 := fun _ => Nat) x 0 (fun _ _ => 1)
noncomputable def Kvs.ctorIdx (x : Kvs) : Nat := Kvs.casesOn (motive_3 := fun _ => Nat) x 0 (fun _ _ _ => 1)
noncomputable def Gens.ctorIdx (x : Gens) : Nat := Gens.casesOn (motive_4 := fun _ => Nat) x (fun _ => 0) (fun _ _ _ _ => 1)
noncomputable def S.ctorIdx (x : S) : Nat := S.casesOn (motive_1 := fun _ => Nat) x 0 (fun _ _ => 1) (fun _ _ _ => 2) (fun _ _ => 3) (fun _ _ => 4) (fun _ _ _ => 5) (fun _ _ _ => 6) (fun _ _ _ => 7) (fun _ _ => 8) (fun _ => 9)
noncomputable def Ss.ctorIdx (x : Ss) : Nat := Ss.casesOn (motive_2 := fun _ => Nat) x 0 (fun _ _ => 1) (fun _ _ => 2)

/-- no size is let grow beyond this -/
noncomputable def big : Nat := 1048576

noncomputable def rngItems (a b c : Int) : Option (List D) :=
  if c = 1 then some ((List.range (b - a).toNat).map fun i => D.int (a + (i : Nat)))
  else if c = -1 then some ((List.range (a - b).toNat).map fun i => D.int (a - (i : Nat)))
  else none

/-- what a for loop goes over: frozen things alone -/
noncomputable def items (d : D) : Option (List D) := match d with
  | .lst ds => some ds
  | .tup ds => some ds
  | .rng a b c => rngItems a b c
  | _ => none

/-- both of two -/
noncomputable def both {α β γ : Type} (x : Option α) (y : Option β) (f : α → β → Option γ) : Option γ := match x with | some a => (match y with | some b => f a b | none => none) | none => none

mutual
/-- as the library's data -/
noncomputable def D.py : D → Option PyData
  | .none => some .none
  | .bool b => some (.bool b)
  | .int i => some (.int i)
  | .str s => some (.str s)
  | .tup ds => (D.pys ds).map .tuple
  | .lst ds => (D.pys ds).map .list
  | .undef | .dic _ _ | .obj _ | .rng _ _ _ | .cell _ => Option.none
noncomputable def D.pys : List D → Option (List PyData)
  | [] => some []
  | d :: ds => both d.py (D.pys ds) fun x xs => some (x :: xs)
end

noncomputable def shallow (x : PyData) : Bool := decide (x.depth ≤ 40)

/-- equality of data; none: not told -/
noncomputable def eqD (a b : D) : Option Bool := both a.py b.py fun x y => if shallow x = true ∧ shallow y = true then some (x.eqv y) else none

/-- x in xs, item by item -/
noncomputable def inD (x : D) (ys : List D) : Option Bool := both x.py (D.pys ys) fun p ps => if shallow p = true ∧ ps.all shallow = true then some (ps.any fun q => q.eqv p) else none

noncomputable def keyEq (a b : D) : Bool := match a, b with
  | .int i, .int j => decide (i = j)
  | .str i, .str j => decide (i = j)
  | _, _ => false
noncomputable def findK (k : D) : List D → List D → Option D
  | k' :: ks, v :: vs => if keyEq k' k then some v else findK k ks vs
  | _, _ => none
noncomputable def hasK (k : D) (ks : List D) : Bool := ks.any fun k' => keyEq k' k
noncomputable def isInt (d : D) : Bool := match d with | .int _ => true | _ => false
noncomputable def isStr (d : D) : Bool := match d with | .str _ => true | _ => false
noncomputable def sameKind (ks : List D) (k : D) : Bool := (isInt k && ks.all isInt) || (isStr k && ks.all isStr)
noncomputable def nodupK : List D → Bool
  | [] => true
  | k :: ks => !(hasK k ks) && nodupK ks

/-- its truth, where a test asks it -/
noncomputable def truth (d : D) : Option Bool := match d with
  | .bool b => some b
  | .none => some false
  | _ => none

noncomputable def isNone (d : D) : Option Bool := match d with
  | .none => some true
  | .undef => none
  | _ => some false

noncomputable def inC (m : Mem) (a b : D) : Option Bool := match b with
  | .lst ds => inD a ds
  | .tup ds => inD a ds
  | .dic ks _ => if sameKind ks a then some (hasK a ks) else none
  | .cell k => match m[k]? with
    | some (some (.lst ds)) => inD a ds
    | some (some (.dic ks _)) => if sameKind ks a then some (hasK a ks) else none
    | _ => none
  | _ => none

noncomputable def cmpI (f : Int → Int → Bool) (a b : D) : Option Bool := match a, b with
  | .int i, .int j => some (f i j)
  | _, _ => none

noncomputable def cmpD (m : Mem) (o : Cop) (a b : D) : Option Bool := match o with
  | .eq => eqD a b
  | .ne => (eqD a b).map (!·)
  | .lt => cmpI (fun i j => decide (i < j)) a b
  | .le => cmpI (fun i j => decide (i ≤ j)) a b
  | .gt => cmpI (fun i j => decide (i > j)) a b
  | .ge => cmpI (fun i j => decide (i ≥ j)) a b
  | .is => match b with | .none => isNone a | _ => none
  | .isNot => match b with | .none => (isNone a).map (!·) | _ => none
  | .isIn => inC m a b
  | .notIn => (inC m a b).map (!·)

/-- an index in bounds -/
noncomputable def at? (ds : List D) (i : Int) : Option D := if 0 ≤ i then ds[i.toNat]? else none

noncomputable def charAt (s : Str) (i : Int) : Option D := if 0 ≤ i ∧ i ≤ 1000 then (s.cps[i.toNat]?).map fun c => D.str ⟨#[c]⟩ else none

noncomputable def idxD (m : Mem) (d i : D) : Option D := match d, i with
  | .lst ds, .int k => at? ds k
  | .tup ds, .int k => at? ds k
  | .cell c, .int k => match m[c]? with | some (some (.lst ds)) => at? ds k | _ => none
  | .dic ks vs, k => if sameKind ks k then findK k ks vs else none
  | .str s, .int k => charAt s k
  | _, _ => none

noncomputable def subD (d : D) (n : Nat) : Option D := match d with
  | .lst ds => some (.lst (ds.take n))
  | .tup ds => some (.tup (ds.take n))
  | .str s => if n ≤ s.length ∧ n ≤ 1000 then some (.str ⟨(s.cps.toList.take n).toArray⟩) else none
  | _ => none

noncomputable def revD (d : D) : Option D := match d with
  | .lst ds => some (.lst ds.reverse)
  | _ => none

noncomputable def binD (o : Bop) (a b : D) : Option D := match o, a, b with
  | .add, .int i, .int j => some (.int (i + j))
  | .add, .str x, .str y => if x.length + y.length ≤ big then some (.str (x ++ y)) else none
  | .add, .lst x, .lst y => if x.length + y.length ≤ big then some (.lst (x ++ y)) else none
  | .add, .tup x, .tup y => if x.length + y.length ≤ big ∧ 0 < x.length ∧ 0 < y.length then some (.tup (x ++ y)) else none
  | .sub, .int i, .int j => some (.int (i - j))
  | .mul, .int i, .int j => if i.natAbs ≤ big ∧ j.natAbs ≤ big then some (.int (i * j)) else none
  | .pow, .int i, .int j => if 0 ≤ i ∧ i ≤ 3 ∧ 0 ≤ j ∧ j ≤ 1000 then some (.int (i ^ j.toNat)) else none
  | .mod, .int i, .int j => if 0 < j ∧ j ≤ big then some (.int (i % j)) else none
  | _, _, _ => none

noncomputable def setMany (env : List D) : List Nat → List D → Option (List D)
  | [], [] => some env
  | i :: is, d :: ds => setMany (env.set i d) is ds
  | _, _ => none

noncomputable def assignT (env : List D) (t : Tgt) (d : D) : Option (List D) := match t with
  | .v i => some (env.set i d)
  | .t is => match d with
    | .tup ds => setMany env is ds
    | _ => none

noncomputable def freezeD (m : Mem) (d : D) : Option (D × Mem) := match d with
  | .cell k => match m[k]? with
    | some (some (.lst ds)) => some (.lst ds, m.set k none)
    | some (some (.dic ks vs)) => some (.dic ks vs, m.set k none)
    | _ => none
  | _ => none

mutual
/-- no mutable thing within -/
noncomputable def D.pure : D → Bool
  | .tup ds => D.pures ds
  | .lst ds => D.pures ds
  | .dic ks vs => D.pures ks && D.pures vs
  | .obj ds => D.pures ds
  | .cell _ => false
  | .undef => false
  | .none | .bool _ | .int _ | .str _ | .rng _ _ _ => true
noncomputable def D.pures : List D → Bool
  | [] => true
  | d :: ds => d.pure && D.pures ds
end

noncomputable def Cell.pure : Cell → Bool
  | .lst ds => D.pures ds
  | .dic ks vs => D.pures ks && D.pures vs
theorem D.pures_all : ∀ ds : List D, D.pures ds = ds.all D.pure
  | [] => rfl
  | d :: ds => by rw [D.pures, List.all_cons, D.pures_all ds]

/-- a list of ints, sorted -/
noncomputable def sortI (l : List Int) : List Int := l.mergeSort fun a b => decide (a ≤ b)
noncomputable def nums : List D → Option (List Int)
  | [] => some []
  | .int i :: ds => (nums ds).map (i :: ·)
  | _ => none

mutual
/-- an upper bound of what its repr is long -/
noncomputable def ub : PyData → Nat
  | .none => 4
  | .bool _ => 5
  | .int i => i.natAbs + 2
  | .str x => 10 * x.length + 2
  | .list xs => ubs xs + 4
  | .tuple xs => ubs xs + 4
  | .dict _ => 0
noncomputable def ubs : List PyData → Nat
  | [] => 0
  | x :: xs => ub x + 2 + ubs xs
end

noncomputable def reprD (d : D) : Option D := match d.py with
  | some x => if ub x ≤ big ∧ shallow x = true then some (.str x.shown) else none
  | none => none

noncomputable def lenD (m : Mem) (d : D) : Option D := match d with
  | .lst ds => some (.int ds.length)
  | .tup ds => some (.int ds.length)
  | .str s => if s.length ≤ 1000 then some (.int s.length) else none
  | .cell k => match m[k]? with
    | some (some (.lst ds)) => some (.int ds.length)
    | _ => none
  | _ => none

noncomputable def sortedD (d : D) : Option D := match d with
  | .lst ds => if ds.length < 64 then (nums ds).map fun is => .lst ((sortI is).map .int) else none
  | .dic ks _ => if ks.length < 64 then (nums ks).map fun is => .lst ((sortI is).map .int) else none
  | _ => none

noncomputable def biD (m : Mem) (b : Bi) (d : D) : Option D := match b with
  | .len => lenD m d
  | .sorted => sortedD d
  | .repr => reprD d
  | .str => match d with | .int i => if i.natAbs ≤ big then some (.str (PyData.shown (.int i))) else none | _ => none
  | .list => match d with
    | .lst ds => some (.lst ds)
    | .tup ds => some (.lst ds)
    | .rng a b c => match rngItems a b c with
      | some ds => if ds.length ≤ big then some (.lst ds) else none
      | none => none
    | _ => none
  | .tuple => match d with | .lst ds => some (.tup ds) | _ => none
  | .range1 => match d with | .int n => if n.natAbs ≤ big then some (.rng 0 n 1) else none | _ => none

noncomputable def getD (d k dflt : D) : Option D := match d with
  | .dic ks vs => if sameKind ks k then some ((findK k ks vs).getD dflt) else none
  | _ => none

noncomputable def popD (m : Mem) (d : D) : Option (D × Mem) := match d with
  | .cell k => match m[k]? with
    | some (some (.lst ds)) => match ds.getLast? with
      | some x => some (x, m.set k (some (.lst ds.dropLast)))
      | none => none
    | _ => none
  | _ => none

noncomputable def lstCell (m : Mem) (o : D) : Bool := match o with
  | .cell k => match m[k]? with
    | some (some (.lst _)) => true
    | _ => false
  | _ => false

noncomputable def appD (m : Mem) (o d : D) : Option Mem := match o with
  | .cell k => match m[k]? with
    | some (some (.lst ds)) => if ds.length < big ∧ d.pure = true then some (m.set k (some (.lst (ds ++ [d])))) else none
    | _ => none
  | _ => none

noncomputable def extD (m : Mem) (o d : D) : Option Mem := match o, d with
  | .cell k, .lst es => match m[k]? with
    | some (some (.lst ds)) => if ds.length + es.length ≤ big ∧ D.pures es = true then some (m.set k (some (.lst (ds ++ es)))) else none
    | _ => none
  | _, _ => none

noncomputable def putK (k v : D) : List D → List D → List D × List D
  | k' :: ks, v' :: vs => if keyEq k' k then (k' :: ks, v :: vs) else ((k' :: (putK k v ks vs).1), (v' :: (putK k v ks vs).2))
  | _, _ => ([k], [v])

noncomputable def setD (m : Mem) (o i d : D) : Option Mem := match o with
  | .cell k => match m[k]? with
    | some (some (.lst ds)) => match i with
      | .int j => if 0 ≤ j ∧ j.toNat < ds.length ∧ d.pure = true then some (m.set k (some (.lst (ds.set j.toNat d)))) else none
      | _ => none
    | some (some (.dic ks vs)) => if sameKind ks i = true ∧ ks.length < big ∧ d.pure = true then some (m.set k (some (.dic (putK i d ks vs).1 (putK i d ks vs).2))) else none
    | _ => none
  | _ => none

inductive Fl where | next | ret (d : D)
noncomputable def Fl.ctorIdx (x : Fl) : Nat := Fl.casesOn (motive := fun _ => Nat) x 0 (fun _ => 1)

noncomputable def compL (asg : D → Option (List D)) (ifs : List D → Mem → Option (Bool × Mem)) (inner : List D → Mem → Option (List D × Mem)) : List D → Mem → Option (List D × Mem)
  | [], m => some ([], m)
  | d :: ds, m => match asg d with
    | some env => match ifs env m with
      | some (true, m₁) => match inner env m₁ with
        | some (l, m₂) => match compL asg ifs inner ds m₂ with
          | some (r, m₃) => some (l ++ r, m₃)
          | none => none
        | none => none
      | some (false, m₁) => compL asg ifs inner ds m₁
      | none => none
    | none => none

/-- a variable is read -/
noncomputable def rd (m : Mem) (d : D) : Option (D × Mem) := match d with
  | .undef => none
  | d => some (d, m)
mutual
noncomputable def ev : E → List D → Mem → Option (D × Mem)
  | .any, _, _ => none
  | .cst c, _, m => some (c, m)
  | .var i, env, m => match env[i]? with
    | some d => rd m d
    | none => none
  | .frz e, env, m => match ev e env m with
    | some (d, m) => freezeD m d
    | none => none
  | .attr e k, env, m => match ev e env m with
    | some (.obj ds, m) => match ds[k]? with
      | some d => some (d, m)
      | none => none
    | _ => none
  | .idx e i, env, m => match ev e env m with
    | some (d, m) => match ev i env m with
      | some (k, m) => match idxD m d k with
        | some r => some (r, m)
        | none => none
      | none => none
    | none => none
  | .sub e n, env, m => match ev e env m with
    | some (d, m) => match subD d n with
      | some r => some (r, m)
      | none => none
    | none => none
  | .rev e, env, m => match ev e env m with
    | some (d, m) => match revD d with
      | some r => some (r, m)
      | none => none
    | none => none
  | .lst es, env, m => match evs es env m with
    | some (ds, m) => some (.lst ds, m)
    | none => none
  | .lstc es, env, m => match evs es env m with
    | some (ds, m) => if D.pures ds = true then some (.cell m.length, m ++ [some (.lst ds)]) else none
    | none => none
  | .tup es, env, m => match evs es env m with
    | some (ds, m) => some (.tup ds, m)
    | none => none
  | .dicc, _, m => some (.cell m.length, m ++ [some (.dic [] [])])
  | .dic kvs, env, m => match evs2 kvs env m with
    | some (ks, vs, m) => if (ks.all isInt || ks.all isStr) && nodupK ks then some (.dic ks vs, m) else none
    | none => none
  | .bin o a b, env, m => match ev a env m with
    | some (x, m) => match ev b env m with
      | some (y, m) => match binD o x y with
        | some r => some (r, m)
        | none => none
      | none => none
    | none => none
  | .cmp o a b, env, m => match ev a env m with
    | some (x, m) => match ev b env m with
      | some (y, m) => match cmpD m o x y with
        | some r => some (.bool r, m)
        | none => none
      | none => none
    | none => none
  | .cmp2 a o b o' c, env, m => match ev a env m with
    | some (x, m) => match ev b env m with
      | some (y, m) => match cmpD m o x y with
        | some true => match ev c env m with
          | some (z, m) => match cmpD m o' y z with
            | some r => some (.bool r, m)
            | none => none
          | none => none
        | some false => some (.bool false, m)
        | none => none
      | none => none
    | none => none
  | .and es, env, m => evAnd es env m
  | .or es, env, m => evOr es env m
  | .not e, env, m => match ev e env m with
    | some (d, m) => match truth d with
      | some b => some (.bool (!b), m)
      | none => none
    | none => none
  | .ife t a b, env, m => match tst t env m with
    | some (true, m) => ev a env m
    | some (false, m) => ev b env m
    | none => none
  | .call _ f es, env, m => match evs es env m with
    | some (ds, m) => f ds m
    | none => none
  | .new es, env, m => match evs es env m with
    | some (ds, m) => if ds.length = 5 ∧ D.pures ds = true then some (.obj ds, m) else none
    | none => none
  | .bi b e, env, m => match ev e env m with
    | some (d, m) => match biD m b d with
      | some r => some (r, m)
      | none => none
    | none => none
  | .range3 a b c, env, m => match ev a env m with
    | some (.int i, m) => match ev b env m with
      | some (.int j, m) => match ev c env m with
        | some (.int k, m) => if i.natAbs ≤ big ∧ j.natAbs ≤ big ∧ (k = 1 ∨ k = -1) then some (.rng i j k, m) else none
        | _ => none
      | _ => none
    | _ => none
  | .get e k d, env, m => match ev e env m with
    | some (x, m) => match ev k env m with
      | some (y, m) => match ev d env m with
        | some (z, m) => match getD x y z with
          | some r => some (r, m)
          | none => none
        | none => none
      | none => none
    | none => none
  | .pop e, env, m => match ev e env m with
    | some (d, m) => popD m d
    | none => none
  | .comp g, env, m => match evG g env m with
    | some (l, m) => if l.length ≤ big then some (.lst l, m) else none
    | none => none
noncomputable def evs : Es → List D → Mem → Option (List D × Mem)
  | .nil, _, m => some ([], m)
  | .cons e es, env, m => match ev e env m with
    | some (d, m) => match evs es env m with
      | some (ds, m) => some (d :: ds, m)
      | none => none
    | none => none
noncomputable def evs2 : Kvs → List D → Mem → Option (List D × List D × Mem)
  | .nil, _, m => some ([], [], m)
  | .cons k v r, env, m => match ev k env m with
    | some (a, m) => match ev v env m with
      | some (b, m) => match evs2 r env m with
        | some (as, bs, m) => some (a :: as, b :: bs, m)
        | none => none
      | none => none
    | none => none
noncomputable def evAnd : Es → List D → Mem → Option (D × Mem)
  | .nil, _, _ => none
  | .cons e .nil, env, m => ev e env m
  | .cons e es, env, m => match ev e env m with
    | some (d, m) => match truth d with
      | some true => evAnd es env m
      | some false => some (d, m)
      | none => none
    | none => none
noncomputable def evOr : Es → List D → Mem → Option (D × Mem)
  | .nil, _, _ => none
  | .cons e .nil, env, m => ev e env m
  | .cons e es, env, m => match ev e env m with
    | some (d, m) => match truth d with
      | some false => evOr es env m
      | some true => some (d, m)
      | none => none
    | none => none
/-- a test, as if, while, and a conditional expression ask it -/
noncomputable def tst : E → List D → Mem → Option (Bool × Mem)
  | .not e, env, m => match tst e env m with
    | some (b, m) => some (!b, m)
    | none => none
  | .and es, env, m => tstAnd es env m
  | .or es, env, m => tstOr es env m
  | .cmp o a b, env, m => match ev a env m with
    | some (x, m) => match ev b env m with
      | some (y, m) => match cmpD m o x y with
        | some r => some (r, m)
        | none => none
      | none => none
    | none => none
  | .cmp2 a o b o' c, env, m => match ev a env m with
    | some (x, m) => match ev b env m with
      | some (y, m) => match cmpD m o x y with
        | some true => match ev c env m with
          | some (z, m) => match cmpD m o' y z with
            | some r => some (r, m)
            | none => none
          | none => none
        | some false => some (false, m)
        | none => none
      | none => none
    | none => none
  | .call _ f es, env, m => match evs es env m with
    | some (ds, m) => match f ds m with
      | some (d, m) => match truth d with
        | some b => some (b, m)
        | none => none
      | none => none
    | none => none
  | .var i, env, m => match env[i]? with
    | some (.bool b) => some (b, m)
    | _ => none
  | .idx e i, env, m => match ev e env m with
    | some (d, m) => match ev i env m with
      | some (k, m) => match idxD m d k with
        | some (.bool b) => some (b, m)
        | _ => none
      | none => none
    | none => none
  | _, _, _ => none
noncomputable def tstAnd : Es → List D → Mem → Option (Bool × Mem)
  | .nil, _, m => some (true, m)
  | .cons e es, env, m => match tst e env m with
    | some (true, m) => tstAnd es env m
    | some (false, m) => some (false, m)
    | none => none
noncomputable def tstOr : Es → List D → Mem → Option (Bool × Mem)
  | .nil, _, m => some (false, m)
  | .cons e es, env, m => match tst e env m with
    | some (false, m) => tstOr es env m
    | some (true, m) => some (true, m)
    | none => none
noncomputable def evG : Gens → List D → Mem → Option (List D × Mem)
  | .done elt, env, m => match ev elt env m with
    | some (d, m) => some ([d], m)
    | none => none
  | .cons t e ifs g, env, m => match ev e env m with
    | some (d, m) => match items d with
      | some ds => compL (assignT env t) (fun env m => tstAnd ifs env m) (fun env m => evG g env m) ds m
      | none => none
    | none => none
end

noncomputable def forL (asg : List D → D → Option (List D)) (b : List D → Mem → Option (Fl × List D × Mem)) : List D → List D → Mem → Option (Fl × List D × Mem)
  | [], env, m => some (.next, env, m)
  | d :: ds, env, m => match asg env d with
    | some env => match b env m with
      | some (.next, env, m) => forL asg b ds env m
      | some (.ret r, env, m) => some (.ret r, env, m)
      | none => none
    | none => none

noncomputable def whileN (t : List D → Mem → Option (Bool × Mem)) (b : List D → Mem → Option (Fl × List D × Mem)) : Nat → List D → Mem → Option (Fl × List D × Mem)
  | 0, _, _ => none
  | n + 1, env, m => match t env m with
    | some (true, m) => match b env m with
      | some (.next, env, m) => whileN t b n env m
      | some (.ret r, env, m) => some (.ret r, env, m)
      | none => none
    | some (false, m) => some (.next, env, m)
    | none => none

noncomputable def enumD (ds : List D) (i : Nat) : List D := match ds with
  | [] => []
  | d :: ds => .tup [.int (i : Nat), d] :: enumD ds (i + 1)

mutual
noncomputable def ex : S → List D → Mem → Option (Fl × List D × Mem)
  | .any, _, _ => none
  | .asg t e, env, m => match ev e env m with
    | some (d, m) => match assignT env t d with
      | some env => some (.next, env, m)
      | none => none
    | none => none
  | .setI o i e, env, m => match ev e env m with
    | some (d, m) => match ev o env m with
      | some (x, m) => match ev i env m with
        | some (k, m) => match setD m x k d with
          | some m => some (.next, env, m)
          | none => none
        | none => none
      | none => none
    | none => none
  | .app o e, env, m => match ev o env m with
    | some (x, m) => if lstCell m x then match ev e env m with
      | some (d, m) => match appD m x d with
        | some m => some (.next, env, m)
        | none => none
      | none => none
      else none
    | none => none
  | .ext o e, env, m => match ev o env m with
    | some (x, m) => if lstCell m x then match ev e env m with
      | some (d, m) => match extD m x d with
        | some m => some (.next, env, m)
        | none => none
      | none => none
      else none
    | none => none
  | .ifs t a b, env, m => match tst t env m with
    | some (true, m) => exs a env m
    | some (false, m) => exs b env m
    | none => none
  | .fors t e b, env, m => match ev e env m with
    | some (d, m) => match items d with
      | some ds => forL (fun env d => assignT env t d) (fun env m => exs b env m) ds env m
      | none => none
    | none => none
  | .fore t e b, env, m => match ev e env m with
    | some (.lst ds, m) => forL (fun env d => assignT env t d) (fun env m => exs b env m) (enumD ds 0) env m
    | _ => none
  | .whl t b, env, m => whileN (fun env m => tst t env m) (fun env m => exs b env m) big env m
  | .ret e, env, m => match ev e env m with
    | some (d, m) => some (.ret d, env, m)
    | none => none
noncomputable def exs : Ss → List D → Mem → Option (Fl × List D × Mem)
  | .nil, env, m => some (.next, env, m)
  | .frz i ss, env, m => match env[i]? with
    | some d => match freezeD m d with
      | some (r, m) => exs ss (env.set i r) m
      | none => none
    | none => none
  | .cons s ss, env, m => match ex s env m with
    | some (.next, env, m) => exs ss env m
    | some (.ret d, env, m) => some (.ret d, env, m)
    | none => none
end

/-- a def: np parameters, n slots, its body -/
noncomputable def runF (np n : Nat) (body : Ss) : Fn := fun args m =>
  if args.length = np then
    match exs body (args ++ List.replicate (n - np) .undef) m with
    | some (.ret d, _, m') => if d.pure = true then some (d, m'.take m.length) else none
    | some (.next, _, m') => some (.none, m'.take m.length)
    | none => none
  else none
end Mine

set_option maxRecDepth 100000
namespace Mine
open PySem
/-! what it takes to answer: a rule each, to use an answer -/
theorem no_some {α : Type} {a : α} {P : Prop} (h : (none : Option α) = some a) : P := Option.noConfusion rfl (heq_of_eq h)
theorem kp {α β : Type} {P : α → β → Prop} {a c : α} {b d : β} (h : some (a, b) = some (c, d)) (k : P a b) : P c d := (congrArg (fun p : α × β => P p.1 p.2) (Option.some.inj h)).mp k
theorem kp3 {α β δ : Type} {P : α → β → δ → Prop} {a c : α} {b d : β} {e f : δ} (h : some (a, b, e) = some (c, d, f)) (k : P a b e) : P c d f := (congrArg (fun p : α × β × δ => P p.1 p.2.1 p.2.2) (Option.some.inj h)).mp k
section gen
variable {δ : Type} {P : Prop} {r : δ}
theorem k1D {o : Option (D × Mem)} {f : D → Mem → Option δ} (h : (match o with | some (d, m) => f d m | none => none) = some r) (k : ∀ d m, o = some (d, m) → f d m = some r → P) : P := by
  cases o with
  | none => exact no_some h
  | some p => exact k p.1 p.2 rfl h
theorem k1L {o : Option (List D × Mem)} {f : List D → Mem → Option δ} (h : (match o with | some (d, m) => f d m | none => none) = some r) (k : ∀ d m, o = some (d, m) → f d m = some r → P) : P := by
  cases o with
  | none => exact no_some h
  | some p => exact k p.1 p.2 rfl h
theorem k1B {o : Option (Bool × Mem)} {f : Bool → Mem → Option δ} (h : (match o with | some (d, m) => f d m | none => none) = some r) (k : ∀ d m, o = some (d, m) → f d m = some r → P) : P := by
  cases o with
  | none => exact no_some h
  | some p => exact k p.1 p.2 rfl h
theorem k2D {o : Option (D)} {f : D → Option δ} (h : (match o with | some d => f d | none => none) = some r) (k : ∀ d, o = some d → f d = some r → P) : P := by
  cases o with
  | none => exact no_some h
  | some p => exact k p rfl h
theorem k2B {o : Option (Bool)} {f : Bool → Option δ} (h : (match o with | some d => f d | none => none) = some r) (k : ∀ d, o = some d → f d = some r → P) : P := by
  cases o with
  | none => exact no_some h
  | some p => exact k p rfl h
theorem k2L {o : Option (List D)} {f : List D → Option δ} (h : (match o with | some d => f d | none => none) = some r) (k : ∀ d, o = some d → f d = some r → P) : P := by
  cases o with
  | none => exact no_some h
  | some p => exact k p rfl h
theorem k2M {o : Option (Mem)} {f : Mem → Option δ} (h : (match o with | some d => f d | none => none) = some r) (k : ∀ d, o = some d → f d = some r → P) : P := by
  cases o with
  | none => exact no_some h
  | some p => exact k p rfl h
theorem k3 {o : Option (List D × List D × Mem)} {f : List D → List D → Mem → Option δ} (h : (match o with | some (d, e, m) => f d e m | none => none) = some r) (k : ∀ d e m, o = some (d, e, m) → f d e m = some r → P) : P := by
  cases o with
  | none => exact no_some h
  | some p => exact k p.1 p.2.1 p.2.2 rfl h
theorem kif {c : Prop} [Decidable c] {a : Option δ} (h : (if c then a else none) = some r) (k : c → a = some r → P) : P := by
  by_cases q : c
  · rw [if_pos q] at h; exact k q h
  · rw [if_neg q] at h; exact no_some h
theorem kb {o : Option (Bool × Mem)} {f g : Mem → Option δ} (h : (match o with | some (true, m) => f m | some (false, m) => g m | none => none) = some r) (kt : ∀ m, o = some (true, m) → f m = some r → P) (kf : ∀ m, o = some (false, m) → g m = some r → P) : P := by
  rcases o with _ | ⟨_ | _, m⟩
  · exact no_some h
  · exact kf m rfl h
  · exact kt m rfl h
theorem kb1 {o : Option Bool} {f g : Option δ} (h : (match o with | some true => f | some false => g | none => none) = some r) (kt : o = some true → f = some r → P) (kf : o = some false → g = some r → P) : P := by
  rcases o with _ | _ | _
  · exact no_some h
  · exact kf rfl h
  · exact kt rfl h
theorem kb' {o : Option (Bool × Mem)} {f g : Mem → Option δ} (h : (match o with | some (false, m) => g m | some (true, m) => f m | none => none) = some r) (kt : ∀ m, o = some (true, m) → f m = some r → P) (kf : ∀ m, o = some (false, m) → g m = some r → P) : P := by
  rcases o with _ | ⟨_ | _, m⟩
  · exact no_some h
  · exact kf m rfl h
  · exact kt m rfl h
theorem kb2 {o : Option Bool} {f g : Option δ} (h : (match o with | some false => g | some true => f | none => none) = some r) (kt : o = some true → f = some r → P) (kf : o = some false → g = some r → P) : P := by
  rcases o with _ | _ | _
  · exact no_some h
  · exact kf rfl h
  · exact kt rfl h
end gen
/-! what the evaluator does, a row each, by rfl: no equations of the compiler are made -/
section evs
variable (env : List D) (m : Mem)
theorem qev_cst (c : D) : ev (.cst c) env m = some (c, m) := rfl
theorem qev_frz (e : E) : ev (.frz e) env m = match ev e env m with | some (d, m) => freezeD m d | none => none := rfl
theorem qev_attr (e : E) (k : Nat) : ev (.attr e k) env m = match ev e env m with | some (.obj ds, m) => (match ds[k]? with | some d => some (d, m) | none => none) | _ => none := rfl
theorem qev_idx (e i : E) : ev (.idx e i) env m = match ev e env m with | some (d, m) => (match ev i env m with | some (k, m) => (match idxD m d k with | some r => some (r, m) | none => none) | none => none) | none => none := rfl
theorem qev_sub (e : E) (n : Nat) : ev (.sub e n) env m = match ev e env m with | some (d, m) => (match subD d n with | some r => some (r, m) | none => none) | none => none := rfl
theorem qev_rev (e : E) : ev (.rev e) env m = match ev e env m with | some (d, m) => (match revD d with | some r => some (r, m) | none => none) | none => none := rfl
theorem qev_lst (es : Es) : ev (.lst es) env m = match evs es env m with | some (ds, m) => some (.lst ds, m) | none => none := rfl
theorem qev_lstc (es : Es) : ev (.lstc es) env m = match evs es env m with | some (ds, m) => (if D.pures ds = true then some (.cell m.length, m ++ [some (.lst ds)]) else none) | none => none := rfl
theorem qev_tup (es : Es) : ev (.tup es) env m = match evs es env m with | some (ds, m) => some (.tup ds, m) | none => none := rfl
theorem qev_dicc : ev .dicc env m = some (.cell m.length, m ++ [some (.dic [] [])]) := rfl
theorem qev_dic (kvs : Kvs) : ev (.dic kvs) env m = match evs2 kvs env m with | some (ks, vs, m) => (if (ks.all isInt || ks.all isStr) && nodupK ks then some (.dic ks vs, m) else none) | none => none := rfl
theorem qev_bin (o : Bop) (a b : E) : ev (.bin o a b) env m = match ev a env m with | some (x, m) => (match ev b env m with | some (y, m) => (match binD o x y with | some r => some (r, m) | none => none) | none => none) | none => none := rfl
theorem qev_cmp (o : Cop) (a b : E) : ev (.cmp o a b) env m = match ev a env m with | some (x, m) => (match ev b env m with | some (y, m) => (match cmpD m o x y with | some r => some (.bool r, m) | none => none) | none => none) | none => none := rfl
theorem qev_and (es : Es) : ev (.and es) env m = evAnd es env m := rfl
theorem qev_or (es : Es) : ev (.or es) env m = evOr es env m := rfl
theorem qev_not (e : E) : ev (.not e) env m = match ev e env m with | some (d, m) => (match truth d with | some b => some (.bool (!b), m) | none => none) | none => none := rfl
theorem qev_ife (t a b : E) : ev (.ife t a b) env m = match tst t env m with | some (true, m) => ev a env m | some (false, m) => ev b env m | none => none := rfl
theorem qev_call (n : Str) (f : Fn) (es : Es) : ev (.call n f es) env m = match evs es env m with | some (ds, m) => f ds m | none => none := rfl
theorem qev_new (es : Es) : ev (.new es) env m = match evs es env m with | some (ds, m) => (if ds.length = 5 ∧ D.pures ds = true then some (.obj ds, m) else none) | none => none := rfl
theorem qev_bi (b : Bi) (e : E) : ev (.bi b e) env m = match ev e env m with | some (d, m) => (match biD m b d with | some r => some (r, m) | none => none) | none => none := rfl
theorem qev_pop (e : E) : ev (.pop e) env m = match ev e env m with | some (d, m) => popD m d | none => none := rfl
theorem qev_range3 (a b c : E) : ev (.range3 a b c) env m = match ev a env m with | some (.int i, m) => (match ev b env m with | some (.int j, m) => (match ev c env m with | some (.int k, m) => (if i.natAbs ≤ big ∧ j.natAbs ≤ big ∧ (k = 1 ∨ k = -1) then some (.rng i j k, m) else none) | _ => none) | _ => none) | _ => none := rfl
theorem qev_get (e k d : E) : ev (.get e k d) env m = match ev e env m with | some (x, m) => (match ev k env m with | some (y, m) => (match ev d env m with | some (z, m) => (match getD x y z with | some r => some (r, m) | none => none) | none => none) | none => none) | none => none := rfl
theorem qev_comp (g : Gens) : ev (.comp g) env m = match evG g env m with | some (l, m) => (if l.length ≤ big then some (.lst l, m) else none) | none => none := rfl
theorem qevs_nil : evs .nil env m = some ([], m) := rfl
theorem qevs_cons (e : E) (es : Es) : evs (.cons e es) env m = match ev e env m with | some (d, m) => (match evs es env m with | some (ds, m) => some (d :: ds, m) | none => none) | none => none := rfl
theorem qevs2_nil : evs2 .nil env m = some ([], [], m) := rfl
theorem qevs2_cons (k v : E) (r : Kvs) : evs2 (.cons k v r) env m = match ev k env m with | some (a, m) => (match ev v env m with | some (b, m) => (match evs2 r env m with | some (as, bs, m) => some (a :: as, b :: bs, m) | none => none) | none => none) | none => none := rfl
theorem qevG_done (e : E) : evG (.done e) env m = match ev e env m with | some (d, m) => some ([d], m) | none => none := rfl
theorem qevG_cons (t : Tgt) (e : E) (ifs : Es) (g : Gens) : evG (.cons t e ifs g) env m = match ev e env m with | some (d, m) => (match items d with | some ds => compL (assignT env t) (fun env m => tstAnd ifs env m) (fun env m => evG g env m) ds m | none => none) | none => none := rfl
theorem qexs_nil : exs .nil env m = some (.next, env, m) := rfl
theorem qexs_cons (s : S) (ss : Ss) : exs (.cons s ss) env m = match ex s env m with | some (.next, env, m) => exs ss env m | some (.ret d, env, m) => some (.ret d, env, m) | none => none := rfl
theorem qexs_frz (i : Nat) (ss : Ss) : exs (.frz i ss) env m = match env[i]? with | some d => (match freezeD m d with | some (r, m) => exs ss (env.set i r) m | none => none) | none => none := rfl
theorem qex_asg (t : Tgt) (e : E) : ex (.asg t e) env m = match ev e env m with | some (d, m) => (match assignT env t d with | some env => some (.next, env, m) | none => none) | none => none := rfl
theorem qex_ret (e : E) : ex (.ret e) env m = match ev e env m with | some (d, m) => some (.ret d, env, m) | none => none := rfl
theorem qex_setI (o i e : E) : ex (.setI o i e) env m = match ev e env m with | some (d, m) => (match ev o env m with | some (x, m) => (match ev i env m with | some (k, m) => (match setD m x k d with | some m => some (.next, env, m) | none => none) | none => none) | none => none) | none => none := rfl
theorem qex_app (o e : E) : ex (.app o e) env m = match ev o env m with | some (x, m) => (if lstCell m x = true then (match ev e env m with | some (d, m) => (match appD m x d with | some m => some (.next, env, m) | none => none) | none => none) else none) | none => none := rfl
theorem qex_ext (o e : E) : ex (.ext o e) env m = match ev o env m with | some (x, m) => (if lstCell m x = true then (match ev e env m with | some (d, m) => (match extD m x d with | some m => some (.next, env, m) | none => none) | none => none) else none) | none => none := rfl
theorem qex_ifs (t : E) (a b : Ss) : ex (.ifs t a b) env m = match tst t env m with | some (true, m) => exs a env m | some (false, m) => exs b env m | none => none := rfl
theorem qex_fors (t : Tgt) (e : E) (b : Ss) : ex (.fors t e b) env m = match ev e env m with | some (d, m) => (match items d with | some ds => forL (fun env d => assignT env t d) (fun env m => exs b env m) ds env m | none => none) | none => none := rfl
theorem qex_fore (t : Tgt) (e : E) (b : Ss) : ex (.fore t e b) env m = match ev e env m with | some (.lst ds, m) => forL (fun env d => assignT env t d) (fun env m => exs b env m) (enumD ds 0) env m | _ => none := rfl
theorem qex_whl (t : E) (b : Ss) : ex (.whl t b) env m = whileN (fun env m => tst t env m) (fun env m => exs b env m) big env m := rfl
theorem qtst_cmp (o : Cop) (a b : E) : tst (.cmp o a b) env m = match ev a env m with | some (x, m) => (match ev b env m with | some (y, m) => (match cmpD m o x y with | some r => some (r, m) | none => none) | none => none) | none => none := rfl
theorem qtst_cmp2 (a b c : E) (o o' : Cop) : tst (.cmp2 a o b o' c) env m = match ev a env m with | some (x, m) => (match ev b env m with | some (y, m) => (match cmpD m o x y with | some true => (match ev c env m with | some (z, m) => (match cmpD m o' y z with | some r => some (r, m) | none => none) | none => none) | some false => some (false, m) | none => none) | none => none) | none => none := rfl
theorem qtst_not (e : E) : tst (.not e) env m = match tst e env m with | some (b, m) => some (!b, m) | none => none := rfl
theorem qtst_and (es : Es) : tst (.and es) env m = tstAnd es env m := rfl
theorem qtst_or (es : Es) : tst (.or es) env m = tstOr es env m := rfl
theorem qtst_call (n : Str) (f : Fn) (es : Es) : tst (.call n f es) env m = match evs es env m with | some (ds, m) => (match f ds m with | some (d, m) => (match truth d with | some b => some (b, m) | none => none) | none => none) | none => none := rfl
theorem qtst_var (i : Nat) : tst (.var i) env m = match env[i]? with | some (.bool b) => some (b, m) | _ => none := rfl
theorem qtst_idx (e i : E) : tst (.idx e i) env m = match ev e env m with | some (d, m) => (match ev i env m with | some (k, m) => (match idxD m d k with | some (.bool b) => some (b, m) | _ => none) | none => none) | none => none := rfl
theorem qtstAnd_nil : tstAnd .nil env m = some (true, m) := rfl
theorem qtstAnd_cons (e : E) (es : Es) : tstAnd (.cons e es) env m = match tst e env m with | some (true, m) => tstAnd es env m | some (false, m) => some (false, m) | none => none := rfl
theorem qtstOr_nil : tstOr .nil env m = some (false, m) := rfl
theorem qtstOr_cons (e : E) (es : Es) : tstOr (.cons e es) env m = match tst e env m with | some (false, m) => tstOr es env m | some (true, m) => some (true, m) | none => none := rfl
theorem qevAnd_one (e : E) : evAnd (.cons e .nil) env m = ev e env m := rfl
theorem qevAnd_cons (e e' : E) (es : Es) : evAnd (.cons e (.cons e' es)) env m = match ev e env m with | some (d, m) => (match truth d with | some true => evAnd (.cons e' es) env m | some false => some (d, m) | none => none) | none => none := rfl
theorem qevOr_one (e : E) : evOr (.cons e .nil) env m = ev e env m := rfl
theorem qevOr_cons (e e' : E) (es : Es) : evOr (.cons e (.cons e' es)) env m = match ev e env m with | some (d, m) => (match truth d with | some false => evOr (.cons e' es) env m | some true => some (d, m) | none => none) | none => none := rfl
theorem qev_var (i : Nat) : ev (.var i) env m = match env[i]? with | some d => rd m d | none => none := rfl
theorem qev_any : ev .any env m = none := rfl
theorem qev_cmp2 (a b c : E) (o o' : Cop) : ev (.cmp2 a o b o' c) env m = match ev a env m with | some (x, m) => (match ev b env m with | some (y, m) => (match cmpD m o x y with | some true => (match ev c env m with | some (z, m) => (match cmpD m o' y z with | some r => some (.bool r, m) | none => none) | none => none) | some false => some (.bool false, m) | none => none) | none => none) | none => none := rfl
theorem qevAnd_nil : evAnd .nil env m = none := rfl
theorem qevOr_nil : evOr .nil env m = none := rfl
theorem qex_any : ex .any env m = none := rfl
end evs
theorem via {α : Type} {a b c : α} (e : a = b) (h : a = c) : b = c := e ▸ h
theorem krd {P : D → Mem → Prop} {m m' : Mem} {r d : D} (h : rd m r = some (d, m')) (k : r ≠ .undef → P r m) : P d m' := by
  cases r with
  | undef => exact no_some h
  | _ => exact kp h (k fun q => D.noConfusion q)
theorem kobj {δ : Type} {P : Prop} {r : δ} {o : Option (D × Mem)} {f : List D → Mem → Option δ} (h : (match o with | some (.obj ds, m) => f ds m | _ => none) = some r) (k : ∀ ds m, o = some (.obj ds, m) → f ds m = some r → P) : P := by
  rcases o with _ | ⟨d, m⟩
  · exact no_some h
  · cases d with
    | obj ds => exact k ds m rfl h
    | _ => exact no_some h
theorem kint {δ : Type} {P : Prop} {r : δ} {o : Option (D × Mem)} {f : Int → Mem → Option δ} (h : (match o with | some (.int i, m) => f i m | _ => none) = some r) (k : ∀ i m, o = some (.int i, m) → f i m = some r → P) : P := by
  rcases o with _ | ⟨d, m⟩
  · exact no_some h
  · cases d with
    | int i => exact k i m rfl h
    | _ => exact no_some h
theorem klst {δ : Type} {P : Prop} {r : δ} {o : Option (D × Mem)} {f : List D → Mem → Option δ} (h : (match o with | some (.lst i, m) => f i m | _ => none) = some r) (k : ∀ i m, o = some (.lst i, m) → f i m = some r → P) : P := by
  rcases o with _ | ⟨d, m⟩
  · exact no_some h
  · cases d with
    | lst i => exact k i m rfl h
    | _ => exact no_some h
theorem kboo {δ : Type} {P : Prop} {r : δ} {o : Option D} {f : Bool → Option δ} (h : (match o with | some (.bool i) => f i | _ => none) = some r) (k : ∀ i, o = some (.bool i) → f i = some r → P) : P := by
  rcases o with _ | d
  · exact no_some h
  · cases d with
    | bool i => exact k i rfl h
    | _ => exact no_some h
section evs
variable {ρ : List D} {m m' : Mem} {d : D}
section
variable {P : D → Mem → Prop}
theorem kev_cst {c : D} (h : ev (.cst c) ρ m = some (d, m')) (k : P c m) : P d m' := kp h k
theorem kev_var {i : Nat} (h : ev (.var i) ρ m = some (d, m')) (k : ∀ r, ρ[i]? = some r → r ≠ .undef → P r m) : P d m' :=
  k2D (via (qev_var ..) h) fun r e h => krd h (k r e)
theorem kev_frz {e : E} (h : ev (.frz e) ρ m = some (d, m')) (k : ∀ a m₁, ev e ρ m = some (a, m₁) → freezeD m₁ a = some (d, m') → P d m') : P d m' := k1D (via (qev_frz ..) h) k
theorem kev_attr {e : E} {j : Nat} (h : ev (.attr e j) ρ m = some (d, m')) (k : ∀ ds m₁ r, ev e ρ m = some (.obj ds, m₁) → ds[j]? = some r → P r m₁) : P d m' :=
  kobj (via (qev_attr ..) h) fun ds m₁ e h => k2D h fun r e' h => kp h (k ds m₁ r e e')
theorem kev_idx {e i : E} (h : ev (.idx e i) ρ m = some (d, m')) (k : ∀ a m₁ b m₂ r, ev e ρ m = some (a, m₁) → ev i ρ m₁ = some (b, m₂) → idxD m₂ a b = some r → P r m₂) : P d m' :=
  k1D (via (qev_idx ..) h) fun a m₁ e₁ h => k1D h fun b m₂ e₂ h => k2D h fun r e₃ h => kp h (k a m₁ b m₂ r e₁ e₂ e₃)
theorem kev_sub {e : E} {n : Nat} (h : ev (.sub e n) ρ m = some (d, m')) (k : ∀ a m₁ r, ev e ρ m = some (a, m₁) → subD a n = some r → P r m₁) : P d m' :=
  k1D (via (qev_sub ..) h) fun a m₁ e₁ h => k2D h fun r e₃ h => kp h (k a m₁ r e₁ e₃)
theorem kev_rev {e : E} (h : ev (.rev e) ρ m = some (d, m')) (k : ∀ a m₁ r, ev e ρ m = some (a, m₁) → revD a = some r → P r m₁) : P d m' :=
  k1D (via (qev_rev ..) h) fun a m₁ e₁ h => k2D h fun r e₃ h => kp h (k a m₁ r e₁ e₃)
theorem kev_lst {es : Es} (h : ev (.lst es) ρ m = some (d, m')) (k : ∀ ds m₁, evs es ρ m = some (ds, m₁) → P (.lst ds) m₁) : P d m' :=
  k1L (via (qev_lst ..) h) fun a m₁ e₁ h => kp h (k a m₁ e₁)
theorem kev_lstc {es : Es} (h : ev (.lstc es) ρ m = some (d, m')) (k : ∀ ds m₁, evs es ρ m = some (ds, m₁) → D.pures ds = true → P (.cell m₁.length) (m₁ ++ [some (.lst ds)])) : P d m' :=
  k1L (via (qev_lstc ..) h) fun a m₁ e₁ h => kif h fun q h => kp h (k a m₁ e₁ q)
theorem kev_tup {es : Es} (h : ev (.tup es) ρ m = some (d, m')) (k : ∀ ds m₁, evs es ρ m = some (ds, m₁) → P (.tup ds) m₁) : P d m' :=
  k1L (via (qev_tup ..) h) fun a m₁ e₁ h => kp h (k a m₁ e₁)
theorem kev_dicc (h : ev .dicc ρ m = some (d, m')) (k : P (.cell m.length) (m ++ [some (.dic [] [])])) : P d m' := kp h k
theorem kev_dic {kvs : Kvs} (h : ev (.dic kvs) ρ m = some (d, m')) (k : ∀ ks vs m₁, evs2 kvs ρ m = some (ks, vs, m₁) → ((ks.all isInt || ks.all isStr) && nodupK ks) = true → P (.dic ks vs) m₁) : P d m' :=
  k3 (via (qev_dic ..) h) fun a b m₁ e₁ h => kif h fun q h => kp h (k a b m₁ e₁ q)
theorem kev_bin {o : Bop} {e i : E} (h : ev (.bin o e i) ρ m = some (d, m')) (k : ∀ a m₁ b m₂ r, ev e ρ m = some (a, m₁) → ev i ρ m₁ = some (b, m₂) → binD o a b = some r → P r m₂) : P d m' :=
  k1D (via (qev_bin ..) h) fun a m₁ e₁ h => k1D h fun b m₂ e₂ h => k2D h fun r e₃ h => kp h (k a m₁ b m₂ r e₁ e₂ e₃)
theorem kev_cmp {o : Cop} {e i : E} (h : ev (.cmp o e i) ρ m = some (d, m')) (k : ∀ a m₁ b m₂ r, ev e ρ m = some (a, m₁) → ev i ρ m₁ = some (b, m₂) → cmpD m₂ o a b = some r → P (.bool r) m₂) : P d m' :=
  k1D (via (qev_cmp ..) h) fun a m₁ e₁ h => k1D h fun b m₂ e₂ h => k2B h fun r e₃ h => kp h (k a m₁ b m₂ r e₁ e₂ e₃)
theorem kev_cmp2 {o o' : Cop} {x y z : E} (h : ev (.cmp2 x o y o' z) ρ m = some (d, m'))
    (kt : ∀ a m₁ b m₂ c m₃ r, ev x ρ m = some (a, m₁) → ev y ρ m₁ = some (b, m₂) → cmpD m₂ o a b = some true → ev z ρ m₂ = some (c, m₃) → cmpD m₃ o' b c = some r → P (.bool r) m₃)
    (kf : ∀ a m₁ b m₂, ev x ρ m = some (a, m₁) → ev y ρ m₁ = some (b, m₂) → cmpD m₂ o a b = some false → P (.bool false) m₂) : P d m' :=
  k1D (via (qev_cmp2 ..) h) fun a m₁ e₁ h => k1D h fun b m₂ e₂ h => kb1 h (fun e₃ h => k1D h fun c m₃ e₄ h => k2B h fun r e₅ h => kp h (kt a m₁ b m₂ c m₃ r e₁ e₂ e₃ e₄ e₅)) (fun e₃ h => kp h (kf a m₁ b m₂ e₁ e₂ e₃))
theorem kev_not {e : E} (h : ev (.not e) ρ m = some (d, m')) (k : ∀ a m₁ r, ev e ρ m = some (a, m₁) → truth a = some r → P (.bool (!r)) m₁) : P d m' :=
  k1D (via (qev_not ..) h) fun a m₁ e₁ h => k2B h fun r e₃ h => kp h (k a m₁ r e₁ e₃)
theorem kev_ife {t x y : E} (h : ev (.ife t x y) ρ m = some (d, m')) (kt : ∀ m₁, tst t ρ m = some (true, m₁) → ev x ρ m₁ = some (d, m') → P d m') (kf : ∀ m₁, tst t ρ m = some (false, m₁) → ev y ρ m₁ = some (d, m') → P d m') : P d m' :=
  kb (via (qev_ife ..) h) kt kf
theorem kev_call {n : Str} {f : Fn} {es : Es} (h : ev (.call n f es) ρ m = some (d, m')) (k : ∀ ds m₁, evs es ρ m = some (ds, m₁) → f ds m₁ = some (d, m') → P d m') : P d m' := k1L (via (qev_call ..) h) k
theorem kev_new {es : Es} (h : ev (.new es) ρ m = some (d, m')) (k : ∀ ds m₁, evs es ρ m = some (ds, m₁) → ds.length = 5 → D.pures ds = true → P (.obj ds) m₁) : P d m' :=
  k1L (via (qev_new ..) h) fun a m₁ e₁ h => kif h fun q h => kp h (k a m₁ e₁ q.1 q.2)
theorem kev_bi {b : Bi} {e : E} (h : ev (.bi b e) ρ m = some (d, m')) (k : ∀ a m₁ r, ev e ρ m = some (a, m₁) → biD m₁ b a = some r → P r m₁) : P d m' :=
  k1D (via (qev_bi ..) h) fun a m₁ e₁ h => k2D h fun r e₃ h => kp h (k a m₁ r e₁ e₃)
theorem kev_range3 {x y z : E} (h : ev (.range3 x y z) ρ m = some (d, m')) (k : ∀ i m₁ j m₂ l m₃, ev x ρ m = some (.int i, m₁) → ev y ρ m₁ = some (.int j, m₂) → ev z ρ m₂ = some (.int l, m₃) → i.natAbs ≤ big → j.natAbs ≤ big → (l = 1 ∨ l = -1) → P (.rng i j l) m₃) : P d m' :=
  kint (via (qev_range3 ..) h) fun i m₁ e₁ h => kint h fun j m₂ e₂ h => kint h fun l m₃ e₃ h => kif h fun q h => kp h (k i m₁ j m₂ l m₃ e₁ e₂ e₃ q.1 q.2.1 q.2.2)
theorem kev_get {x y z : E} (h : ev (.get x y z) ρ m = some (d, m')) (k : ∀ i m₁ j m₂ l m₃ r, ev x ρ m = some (i, m₁) → ev y ρ m₁ = some (j, m₂) → ev z ρ m₂ = some (l, m₃) → getD i j l = some r → P r m₃) : P d m' :=
  k1D (via (qev_get ..) h) fun i m₁ e₁ h => k1D h fun j m₂ e₂ h => k1D h fun l m₃ e₃ h => k2D h fun r e₄ h => kp h (k i m₁ j m₂ l m₃ r e₁ e₂ e₃ e₄)
theorem kev_pop {e : E} (h : ev (.pop e) ρ m = some (d, m')) (k : ∀ a m₁, ev e ρ m = some (a, m₁) → popD m₁ a = some (d, m') → P d m') : P d m' := k1D (via (qev_pop ..) h) k
theorem kev_comp {g : Gens} (h : ev (.comp g) ρ m = some (d, m')) (k : ∀ l m₁, evG g ρ m = some (l, m₁) → l.length ≤ big → P (.lst l) m₁) : P d m' :=
  k1L (via (qev_comp ..) h) fun a m₁ e₁ h => kif h fun q h => kp h (k a m₁ e₁ q)
theorem kevAnd_one {e : E} (h : evAnd (.cons e .nil) ρ m = some (d, m')) (k : ev e ρ m = some (d, m') → P d m') : P d m' := k h
theorem kevAnd_cons {e e' : E} {es : Es} (h : evAnd (.cons e (.cons e' es)) ρ m = some (d, m')) (kt : ∀ a m₁, ev e ρ m = some (a, m₁) → truth a = some true → evAnd (.cons e' es) ρ m₁ = some (d, m') → P d m')
    (kf : ∀ a m₁, ev e ρ m = some (a, m₁) → truth a = some false → P a m₁) : P d m' :=
  k1D (via (qevAnd_cons ..) h) fun a m₁ e₁ h => kb1 h (fun e₂ h => kt a m₁ e₁ e₂ h) (fun e₂ h => kp h (kf a m₁ e₁ e₂))
theorem kevOr_cons {e e' : E} {es : Es} (h : evOr (.cons e (.cons e' es)) ρ m = some (d, m')) (kt : ∀ a m₁, ev e ρ m = some (a, m₁) → truth a = some false → evOr (.cons e' es) ρ m₁ = some (d, m') → P d m')
    (kf : ∀ a m₁, ev e ρ m = some (a, m₁) → truth a = some true → P a m₁) : P d m' :=
  k1D (via (qevOr_cons ..) h) fun a m₁ e₁ h => kb2 h (fun e₂ h => kp h (kf a m₁ e₁ e₂)) (fun e₂ h => kt a m₁ e₁ e₂ h)
end
section
variable {b : Bool} {P : Bool → Mem → Prop}
theorem ktst_not {e : E} (h : tst (.not e) ρ m = some (b, m')) (k : ∀ r m₁, tst e ρ m = some (r, m₁) → P (!r) m₁) : P b m' :=
  k1B (via (qtst_not ..) h) fun r m₁ e h => kp h (k r m₁ e)
theorem ktst_cmp {o : Cop} {e i : E} (h : tst (.cmp o e i) ρ m = some (b, m')) (k : ∀ a m₁ b m₂ r, ev e ρ m = some (a, m₁) → ev i ρ m₁ = some (b, m₂) → cmpD m₂ o a b = some r → P r m₂) : P b m' :=
  k1D (via (qtst_cmp ..) h) fun a m₁ e₁ h => k1D h fun b m₂ e₂ h => k2B h fun r e₃ h => kp h (k a m₁ b m₂ r e₁ e₂ e₃)
theorem ktst_cmp2 {o o' : Cop} {x y z : E} (h : tst (.cmp2 x o y o' z) ρ m = some (b, m'))
    (kt : ∀ a m₁ b m₂ c m₃ r, ev x ρ m = some (a, m₁) → ev y ρ m₁ = some (b, m₂) → cmpD m₂ o a b = some true → ev z ρ m₂ = some (c, m₃) → cmpD m₃ o' b c = some r → P r m₃)
    (kf : ∀ a m₁ b m₂, ev x ρ m = some (a, m₁) → ev y ρ m₁ = some (b, m₂) → cmpD m₂ o a b = some false → P false m₂) : P b m' :=
  k1D (via (qtst_cmp2 ..) h) fun a m₁ e₁ h => k1D h fun b m₂ e₂ h => kb1 h (fun e₃ h => k1D h fun c m₃ e₄ h => k2B h fun r e₅ h => kp h (kt a m₁ b m₂ c m₃ r e₁ e₂ e₃ e₄ e₅)) (fun e₃ h => kp h (kf a m₁ b m₂ e₁ e₂ e₃))
theorem ktst_call {n : Str} {f : Fn} {es : Es} (h : tst (.call n f es) ρ m = some (b, m')) (k : ∀ ds m₁ a m₂ r, evs es ρ m = some (ds, m₁) → f ds m₁ = some (a, m₂) → truth a = some r → P r m₂) : P b m' :=
  k1L (via (qtst_call ..) h) fun ds m₁ e₁ h => k1D h fun a m₂ e₂ h => k2B h fun r e₃ h => kp h (k ds m₁ a m₂ r e₁ e₂ e₃)
theorem ktst_var {i : Nat} (h : tst (.var i) ρ m = some (b, m')) (k : ∀ r, ρ[i]? = some (.bool r) → P r m) : P b m' :=
  kboo (via (qtst_var ..) h) fun r e h => kp h (k r e)
theorem ktst_idx {e i : E} (h : tst (.idx e i) ρ m = some (b, m')) (k : ∀ a m₁ b m₂ r, ev e ρ m = some (a, m₁) → ev i ρ m₁ = some (b, m₂) → idxD m₂ a b = some (.bool r) → P r m₂) : P b m' :=
  k1D (via (qtst_idx ..) h) fun a m₁ e₁ h => k1D h fun b m₂ e₂ h => kboo h fun r e₃ h => kp h (k a m₁ b m₂ r e₁ e₂ e₃)
theorem ktstAnd_nil (h : tstAnd .nil ρ m = some (b, m')) (k : P true m) : P b m' := kp h k
theorem ktstAnd_cons {e : E} {es : Es} (h : tstAnd (.cons e es) ρ m = some (b, m')) (kt : ∀ m₁, tst e ρ m = some (true, m₁) → tstAnd es ρ m₁ = some (b, m') → P b m') (kf : ∀ m₁, tst e ρ m = some (false, m₁) → P false m₁) : P b m' :=
  kb (via (qtstAnd_cons ..) h) kt fun m₁ e h => kp h (kf m₁ e)
theorem ktstOr_nil (h : tstOr .nil ρ m = some (b, m')) (k : P false m) : P b m' := kp h k
theorem ktstOr_cons {e : E} {es : Es} (h : tstOr (.cons e es) ρ m = some (b, m')) (kt : ∀ m₁, tst e ρ m = some (false, m₁) → tstOr es ρ m₁ = some (b, m') → P b m') (kf : ∀ m₁, tst e ρ m = some (true, m₁) → P true m₁) : P b m' :=
  kb' (via (qtstOr_cons ..) h) (fun m₁ e h => kp h (kf m₁ e)) kt
end
section
variable {ds : List D} {P : List D → Mem → Prop}
theorem kevs_nil (h : evs .nil ρ m = some (ds, m')) (k : P [] m) : P ds m' := kp h k
theorem kevs_cons {e : E} {es : Es} (h : evs (.cons e es) ρ m = some (ds, m')) (k : ∀ a m₁ r m₂, ev e ρ m = some (a, m₁) → evs es ρ m₁ = some (r, m₂) → P (a :: r) m₂) : P ds m' :=
  k1D (via (qevs_cons ..) h) fun a m₁ e₁ h => k1L h fun r m₂ e₂ h => kp h (k a m₁ r m₂ e₁ e₂)
theorem kevG_done {e : E} (h : evG (.done e) ρ m = some (ds, m')) (k : ∀ a m₁, ev e ρ m = some (a, m₁) → P [a] m₁) : P ds m' := k1D (via (qevG_done ..) h) fun a m₁ e₁ h => kp h (k a m₁ e₁)
theorem kevG_cons {t : Tgt} {e : E} {ifs : Es} {g : Gens} (h : evG (.cons t e ifs g) ρ m = some (ds, m'))
    (k : ∀ a m₁ l, ev e ρ m = some (a, m₁) → items a = some l → compL (assignT ρ t) (fun env m => tstAnd ifs env m) (fun env m => evG g env m) l m₁ = some (ds, m') → P ds m') : P ds m' :=
  k1D (via (qevG_cons ..) h) fun a m₁ e₁ h => k2L h fun l e₂ h => k a m₁ l e₁ e₂ h
end
section
variable {ks vs : List D} {P : List D → List D → Mem → Prop}
theorem kevs2_nil (h : evs2 .nil ρ m = some (ks, vs, m')) (k : P [] [] m) : P ks vs m' := kp3 h k
theorem kevs2_cons {x y : E} {r : Kvs} (h : evs2 (.cons x y r) ρ m = some (ks, vs, m')) (k : ∀ a m₁ b m₂ as bs m₃, ev x ρ m = some (a, m₁) → ev y ρ m₁ = some (b, m₂) → evs2 r ρ m₂ = some (as, bs, m₃) → P (a :: as) (b :: bs) m₃) : P ks vs m' :=
  k1D (via (qevs2_cons ..) h) fun a m₁ e₁ h => k1D h fun b m₂ e₂ h => k3 h fun as bs m₃ e₃ h => kp3 h (k a m₁ b m₂ as bs m₃ e₁ e₂ e₃)
end
section
variable {ρ' : List D} {fl : Fl} {P : Fl → List D → Mem → Prop}
theorem kex_asg {t : Tgt} {e : E} (h : ex (.asg t e) ρ m = some (fl, ρ', m')) (k : ∀ a m₁ ρ₁, ev e ρ m = some (a, m₁) → assignT ρ t a = some ρ₁ → P .next ρ₁ m₁) : P fl ρ' m' :=
  k1D (via (qex_asg ..) h) fun a m₁ e₁ h => k2L h fun ρ₁ e₂ h => kp3 h (k a m₁ ρ₁ e₁ e₂)
theorem kex_setI {o i e : E} (h : ex (.setI o i e) ρ m = some (fl, ρ', m')) (k : ∀ a m₁ x m₂ y m₃ m₄, ev e ρ m = some (a, m₁) → ev o ρ m₁ = some (x, m₂) → ev i ρ m₂ = some (y, m₃) → setD m₃ x y a = some m₄ → P .next ρ m₄) : P fl ρ' m' :=
  k1D (via (qex_setI ..) h) fun a m₁ e₁ h => k1D h fun x m₂ e₂ h => k1D h fun y m₃ e₃ h => k2M h fun m₄ e₄ h => kp3 h (k a m₁ x m₂ y m₃ m₄ e₁ e₂ e₃ e₄)
theorem kex_app {o e : E} (h : ex (.app o e) ρ m = some (fl, ρ', m')) (k : ∀ x m₁ a m₂ m₃, ev o ρ m = some (x, m₁) → lstCell m₁ x = true → ev e ρ m₁ = some (a, m₂) → appD m₂ x a = some m₃ → P .next ρ m₃) : P fl ρ' m' :=
  k1D (via (qex_app ..) h) fun x m₁ e₁ h => kif h fun q h => k1D h fun a m₂ e₂ h => k2M h fun m₃ e₃ h => kp3 h (k x m₁ a m₂ m₃ e₁ q e₂ e₃)
theorem kex_ext {o e : E} (h : ex (.ext o e) ρ m = some (fl, ρ', m')) (k : ∀ x m₁ a m₂ m₃, ev o ρ m = some (x, m₁) → lstCell m₁ x = true → ev e ρ m₁ = some (a, m₂) → extD m₂ x a = some m₃ → P .next ρ m₃) : P fl ρ' m' :=
  k1D (via (qex_ext ..) h) fun x m₁ e₁ h => kif h fun q h => k1D h fun a m₂ e₂ h => k2M h fun m₃ e₃ h => kp3 h (k x m₁ a m₂ m₃ e₁ q e₂ e₃)
theorem kex_ifs {t : E} {x y : Ss} (h : ex (.ifs t x y) ρ m = some (fl, ρ', m')) (kt : ∀ m₁, tst t ρ m = some (true, m₁) → exs x ρ m₁ = some (fl, ρ', m') → P fl ρ' m') (kf : ∀ m₁, tst t ρ m = some (false, m₁) → exs y ρ m₁ = some (fl, ρ', m') → P fl ρ' m') : P fl ρ' m' := kb (via (qex_ifs ..) h) kt kf
theorem kex_fors {t : Tgt} {e : E} {b : Ss} (h : ex (.fors t e b) ρ m = some (fl, ρ', m')) (k : ∀ a m₁ l, ev e ρ m = some (a, m₁) → items a = some l → forL (fun env d => assignT env t d) (fun env m => exs b env m) l ρ m₁ = some (fl, ρ', m') → P fl ρ' m') : P fl ρ' m' :=
  k1D (via (qex_fors ..) h) fun a m₁ e₁ h => k2L h fun l e₂ h => k a m₁ l e₁ e₂ h
theorem kex_fore {t : Tgt} {e : E} {b : Ss} (h : ex (.fore t e b) ρ m = some (fl, ρ', m')) (k : ∀ l m₁, ev e ρ m = some (.lst l, m₁) → forL (fun env d => assignT env t d) (fun env m => exs b env m) (enumD l 0) ρ m₁ = some (fl, ρ', m') → P fl ρ' m') : P fl ρ' m' := klst (via (qex_fore ..) h) k
theorem kex_ret {e : E} (h : ex (.ret e) ρ m = some (fl, ρ', m')) (k : ∀ a m₁, ev e ρ m = some (a, m₁) → P (.ret a) ρ m₁) : P fl ρ' m' := k1D (via (qex_ret ..) h) fun a m₁ e₁ h => kp3 h (k a m₁ e₁)
theorem kexs_nil (h : exs .nil ρ m = some (fl, ρ', m')) (k : P .next ρ m) : P fl ρ' m' := kp3 h k
theorem kexs_frz {i : Nat} {ss : Ss} (h : exs (.frz i ss) ρ m = some (fl, ρ', m')) (k : ∀ a r m₁, ρ[i]? = some a → freezeD m a = some (r, m₁) → exs ss (ρ.set i r) m₁ = some (fl, ρ', m') → P fl ρ' m') : P fl ρ' m' :=
  k2D (via (qexs_frz ..) h) fun a e₁ h => k1D h fun r m₁ e₂ h => k a r m₁ e₁ e₂ h
theorem kexs_cons {st : S} {ss : Ss} (h : exs (.cons st ss) ρ m = some (fl, ρ', m')) (kn : ∀ ρ₁ m₁, ex st ρ m = some (.next, ρ₁, m₁) → exs ss ρ₁ m₁ = some (fl, ρ', m') → P fl ρ' m') (kr : ∀ a ρ₁ m₁, ex st ρ m = some (.ret a, ρ₁, m₁) → P (.ret a) ρ₁ m₁) : P fl ρ' m' := by
  replace h : (match ex st ρ m with | some (.next, env, m) => exs ss env m | some (.ret d, env, m) => some (.ret d, env, m) | none => none) = some (fl, ρ', m') := h
  rcases q : ex st ρ m with _ | ⟨_ | a, ρ₁, m₁⟩
  · rw [q] at h; exact no_some h
  · rw [q] at h; exact kn ρ₁ m₁ q h
  · rw [q] at h; exact kp3 h (kr a ρ₁ m₁ q)
end
end evs
section loops
variable {asg : D → Option (List D)} {asg2 : List D → D → Option (List D)} {ifsF : List D → Mem → Option (Bool × Mem)} {innerF : List D → Mem → Option (List D × Mem)} {bF : List D → Mem → Option (Fl × List D × Mem)} {tF : List D → Mem → Option (Bool × Mem)} {d : D} {ds l ρ ρend : List D} {m m' : Mem} {fl : Fl}
theorem qcompL : compL asg ifsF innerF (d :: ds) m = match asg d with | some env => (match ifsF env m with | some (true, m) => (match innerF env m with | some (l, m) => (match compL asg ifsF innerF ds m with | some (r, m) => some (l ++ r, m) | none => none) | none => none) | some (false, m) => compL asg ifsF innerF ds m | none => none) | none => none := rfl
theorem compL_k {P : List D → Mem → Prop} (h : compL asg ifsF innerF (d :: ds) m = some (l, m')) (kt : ∀ ρ' m₁ lx m₂ r m₃, asg d = some ρ' → ifsF ρ' m = some (true, m₁) → innerF ρ' m₁ = some (lx, m₂) → compL asg ifsF innerF ds m₂ = some (r, m₃) → P (lx ++ r) m₃)
    (kf : ∀ ρ' m₁, asg d = some ρ' → ifsF ρ' m = some (false, m₁) → compL asg ifsF innerF ds m₁ = some (l, m') → P l m') : P l m' :=
  k2L (via qcompL h) fun ρ' e1 h => kb h (fun m₁ e2 h => k1L h fun lx m₂ e3 h => k1L h fun r m₃ e4 h => kp h (kt ρ' m₁ lx m₂ r m₃ e1 e2 e3 e4)) (fun m₁ e2 h => kf ρ' m₁ e1 e2 h)
theorem kfl {δ : Type} {P : Prop} {r : δ} {o : Option (Fl × List D × Mem)} {f : List D → Mem → Option δ} {g : D → List D → Mem → Option δ} (h : (match o with | some (.next, env, m) => f env m | some (.ret d, env, m) => g d env m | none => none) = some r)
    (kn : ∀ env m, o = some (.next, env, m) → f env m = some r → P) (kr : ∀ d env m, o = some (.ret d, env, m) → g d env m = some r → P) : P := by
  rcases o with _ | ⟨_ | d, env, m⟩
  · exact no_some h
  · exact kn env m rfl h
  · exact kr d env m rfl h
theorem qforL : forL asg2 bF (d :: ds) ρ m = match asg2 ρ d with | some env => (match bF env m with | some (.next, env, m) => forL asg2 bF ds env m | some (.ret r, env, m) => some (.ret r, env, m) | none => none) | none => none := rfl
theorem forL_k {P : Fl → List D → Mem → Prop} (h : forL asg2 bF (d :: ds) ρ m = some (fl, ρend, m')) (kn : ∀ ρ' ρ₁ m₁, asg2 ρ d = some ρ' → bF ρ' m = some (.next, ρ₁, m₁) → forL asg2 bF ds ρ₁ m₁ = some (fl, ρend, m') → P fl ρend m')
    (kr : ∀ ρ' r ρ₁ m₁, asg2 ρ d = some ρ' → bF ρ' m = some (.ret r, ρ₁, m₁) → P (.ret r) ρ₁ m₁) : P fl ρend m' :=
  k2L (via qforL h) fun ρ' e1 h => kfl h (fun ρ₁ m₁ e2 h => kn ρ' ρ₁ m₁ e1 e2 h) (fun r ρ₁ m₁ e2 h => kp3 h (kr ρ' r ρ₁ m₁ e1 e2))
theorem qwhile {n : Nat} : whileN tF bF (n + 1) ρ m = match tF ρ m with | some (true, m) => (match bF ρ m with | some (.next, env, m) => whileN tF bF n env m | some (.ret r, env, m) => some (.ret r, env, m) | none => none) | some (false, m) => some (.next, ρ, m) | none => none := rfl
theorem while_k {n : Nat} {P : Fl → List D → Mem → Prop} (h : whileN tF bF (n + 1) ρ m = some (fl, ρend, m')) (kn : ∀ m₁ ρ₁ m₂, tF ρ m = some (true, m₁) → bF ρ m₁ = some (.next, ρ₁, m₂) → whileN tF bF n ρ₁ m₂ = some (fl, ρend, m') → P fl ρend m')
    (kr : ∀ m₁ r ρ₁ m₂, tF ρ m = some (true, m₁) → bF ρ m₁ = some (.ret r, ρ₁, m₂) → P (.ret r) ρ₁ m₂) (kf : ∀ m₁, tF ρ m = some (false, m₁) → P .next ρ m₁) : P fl ρend m' :=
  kb (via qwhile h) (fun m₁ e1 h => kfl h (fun ρ₁ m₂ e2 h => kn m₁ ρ₁ m₂ e1 e2 h) (fun r ρ₁ m₂ e2 h => kp3 h (kr m₁ r ρ₁ m₂ e1 e2))) (fun m₁ e1 h => kp3 h (kf m₁ e1))
end loops
end Mine

set_option maxRecDepth 10000
namespace Mine
open PySem

/-! each kind of tree, and what its parts answer; a rule each to use a yes -/
theorem dite_k {c : Prop} [Decidable c] {f : c → Bool} {P : Prop} (h : (if h : c then f h else false) = true) (k : ∀ q : c, f q = true → P) : P := by
  by_cases q : c
  · rw [dif_pos q] at h; exact k q h
  · rw [dif_neg q] at h; exact Bool.noConfusion h
noncomputable def onName (x : Expr) (f : Str → Pos → Bool) : Bool := if h : x.ctorIdx = 23 then Expr.Name.elim (motive_1 := fun _ => Bool) x h f else false
theorem onName_k {P : Expr → Prop} {x : Expr} {f : Str → Pos → Bool} (h : onName x f = true) (k : ∀ a b, f a b = true → P (.Name a b)) : P x :=
  dite_k h fun q => Expr.Name.elim (motive_1 := fun x => (q : x.ctorIdx = 23) → Expr.Name.elim (motive_1 := fun _ => Bool) x q f = true → P x) x q (fun a b _ h => k a b h) q
noncomputable def onAttribute (x : Expr) (f : Expr → Str → Pos → Bool) : Bool := if h : x.ctorIdx = 20 then Expr.Attribute.elim (motive_1 := fun _ => Bool) x h f else false
theorem onAttribute_k {P : Expr → Prop} {x : Expr} {f : Expr → Str → Pos → Bool} (h : onAttribute x f = true) (k : ∀ a b c, f a b c = true → P (.Attribute a b c)) : P x :=
  dite_k h fun q => Expr.Attribute.elim (motive_1 := fun x => (q : x.ctorIdx = 20) → Expr.Attribute.elim (motive_1 := fun _ => Bool) x q f = true → P x) x q (fun a b c _ h => k a b c h) q
noncomputable def onSubscript (x : Expr) (f : Expr → Expr → Pos → Bool) : Bool := if h : x.ctorIdx = 21 then Expr.Subscript.elim (motive_1 := fun _ => Bool) x h f else false
theorem onSubscript_k {P : Expr → Prop} {x : Expr} {f : Expr → Expr → Pos → Bool} (h : onSubscript x f = true) (k : ∀ a b c, f a b c = true → P (.Subscript a b c)) : P x :=
  dite_k h fun q => Expr.Subscript.elim (motive_1 := fun x => (q : x.ctorIdx = 21) → Expr.Subscript.elim (motive_1 := fun _ => Bool) x q f = true → P x) x q (fun a b c _ h => k a b c h) q
noncomputable def onSlice (x : Expr) (f : Option Expr → Option Expr → Option Expr → Pos → Bool) : Bool := if h : x.ctorIdx = 26 then Expr.Slice.elim (motive_1 := fun _ => Bool) x h f else false
theorem onSlice_k {P : Expr → Prop} {x : Expr} {f : Option Expr → Option Expr → Option Expr → Pos → Bool} (h : onSlice x f = true) (k : ∀ a b c d, f a b c d = true → P (.Slice a b c d)) : P x :=
  dite_k h fun q => Expr.Slice.elim (motive_1 := fun x => (q : x.ctorIdx = 26) → Expr.Slice.elim (motive_1 := fun _ => Bool) x q f = true → P x) x q (fun a b c d _ h => k a b c d h) q
noncomputable def onConstant (x : Expr) (f : Const → Nat → Pos → Bool) : Bool := if h : x.ctorIdx = 19 then Expr.Constant.elim (motive_1 := fun _ => Bool) x h f else false
theorem onConstant_k {P : Expr → Prop} {x : Expr} {f : Const → Nat → Pos → Bool} (h : onConstant x f = true) (k : ∀ a b c, f a b c = true → P (.Constant a b c)) : P x :=
  dite_k h fun q => Expr.Constant.elim (motive_1 := fun x => (q : x.ctorIdx = 19) → Expr.Constant.elim (motive_1 := fun _ => Bool) x q f = true → P x) x q (fun a b c _ h => k a b c h) q
noncomputable def onList (x : Expr) (f : List Expr → Pos → Bool) : Bool := if h : x.ctorIdx = 24 then Expr.List.elim (motive_1 := fun _ => Bool) x h f else false
theorem onList_k {P : Expr → Prop} {x : Expr} {f : List Expr → Pos → Bool} (h : onList x f = true) (k : ∀ a b, f a b = true → P (.List a b)) : P x :=
  dite_k h fun q => Expr.List.elim (motive_1 := fun x => (q : x.ctorIdx = 24) → Expr.List.elim (motive_1 := fun _ => Bool) x q f = true → P x) x q (fun a b _ h => k a b h) q
noncomputable def onTuple (x : Expr) (f : List Expr → Nat → Pos → Bool) : Bool := if h : x.ctorIdx = 25 then Expr.Tuple.elim (motive_1 := fun _ => Bool) x h f else false
theorem onTuple_k {P : Expr → Prop} {x : Expr} {f : List Expr → Nat → Pos → Bool} (h : onTuple x f = true) (k : ∀ a b c, f a b c = true → P (.Tuple a b c)) : P x :=
  dite_k h fun q => Expr.Tuple.elim (motive_1 := fun x => (q : x.ctorIdx = 25) → Expr.Tuple.elim (motive_1 := fun _ => Bool) x q f = true → P x) x q (fun a b c _ h => k a b c h) q
noncomputable def onDict (x : Expr) (f : List (Option Expr) → List Expr → Pos → Bool) : Bool := if h : x.ctorIdx = 6 then Expr.Dict.elim (motive_1 := fun _ => Bool) x h f else false
theorem onDict_k {P : Expr → Prop} {x : Expr} {f : List (Option Expr) → List Expr → Pos → Bool} (h : onDict x f = true) (k : ∀ a b c, f a b c = true → P (.Dict a b c)) : P x :=
  dite_k h fun q => Expr.Dict.elim (motive_1 := fun x => (q : x.ctorIdx = 6) → Expr.Dict.elim (motive_1 := fun _ => Bool) x q f = true → P x) x q (fun a b c _ h => k a b c h) q
noncomputable def onBinOp (x : Expr) (f : Expr → Operator → Expr → Pos → Bool) : Bool := if h : x.ctorIdx = 2 then Expr.BinOp.elim (motive_1 := fun _ => Bool) x h f else false
theorem onBinOp_k {P : Expr → Prop} {x : Expr} {f : Expr → Operator → Expr → Pos → Bool} (h : onBinOp x f = true) (k : ∀ a b c d, f a b c d = true → P (.BinOp a b c d)) : P x :=
  dite_k h fun q => Expr.BinOp.elim (motive_1 := fun x => (q : x.ctorIdx = 2) → Expr.BinOp.elim (motive_1 := fun _ => Bool) x q f = true → P x) x q (fun a b c d _ h => k a b c d h) q
noncomputable def onCompare (x : Expr) (f : Expr → List CmpOp → List Expr → Pos → Bool) : Bool := if h : x.ctorIdx = 15 then Expr.Compare.elim (motive_1 := fun _ => Bool) x h f else false
theorem onCompare_k {P : Expr → Prop} {x : Expr} {f : Expr → List CmpOp → List Expr → Pos → Bool} (h : onCompare x f = true) (k : ∀ a b c d, f a b c d = true → P (.Compare a b c d)) : P x :=
  dite_k h fun q => Expr.Compare.elim (motive_1 := fun x => (q : x.ctorIdx = 15) → Expr.Compare.elim (motive_1 := fun _ => Bool) x q f = true → P x) x q (fun a b c d _ h => k a b c d h) q
noncomputable def onBoolOp (x : Expr) (f : BoolOp → List Expr → Pos → Bool) : Bool := if h : x.ctorIdx = 0 then Expr.BoolOp.elim (motive_1 := fun _ => Bool) x h f else false
theorem onBoolOp_k {P : Expr → Prop} {x : Expr} {f : BoolOp → List Expr → Pos → Bool} (h : onBoolOp x f = true) (k : ∀ a b c, f a b c = true → P (.BoolOp a b c)) : P x :=
  dite_k h fun q => Expr.BoolOp.elim (motive_1 := fun x => (q : x.ctorIdx = 0) → Expr.BoolOp.elim (motive_1 := fun _ => Bool) x q f = true → P x) x q (fun a b c _ h => k a b c h) q
noncomputable def onUnaryOp (x : Expr) (f : UnaryOp → Expr → Pos → Bool) : Bool := if h : x.ctorIdx = 3 then Expr.UnaryOp.elim (motive_1 := fun _ => Bool) x h f else false
theorem onUnaryOp_k {P : Expr → Prop} {x : Expr} {f : UnaryOp → Expr → Pos → Bool} (h : onUnaryOp x f = true) (k : ∀ a b c, f a b c = true → P (.UnaryOp a b c)) : P x :=
  dite_k h fun q => Expr.UnaryOp.elim (motive_1 := fun x => (q : x.ctorIdx = 3) → Expr.UnaryOp.elim (motive_1 := fun _ => Bool) x q f = true → P x) x q (fun a b c _ h => k a b c h) q
noncomputable def onIfExp (x : Expr) (f : Expr → Expr → Expr → Pos → Bool) : Bool := if h : x.ctorIdx = 5 then Expr.IfExp.elim (motive_1 := fun _ => Bool) x h f else false
theorem onIfExp_k {P : Expr → Prop} {x : Expr} {f : Expr → Expr → Expr → Pos → Bool} (h : onIfExp x f = true) (k : ∀ a b c d, f a b c d = true → P (.IfExp a b c d)) : P x :=
  dite_k h fun q => Expr.IfExp.elim (motive_1 := fun x => (q : x.ctorIdx = 5) → Expr.IfExp.elim (motive_1 := fun _ => Bool) x q f = true → P x) x q (fun a b c d _ h => k a b c d h) q
noncomputable def onCall (x : Expr) (f : Expr → List Expr → List Keyword → Pos → Bool) : Bool := if h : x.ctorIdx = 16 then Expr.Call.elim (motive_1 := fun _ => Bool) x h f else false
theorem onCall_k {P : Expr → Prop} {x : Expr} {f : Expr → List Expr → List Keyword → Pos → Bool} (h : onCall x f = true) (k : ∀ a b c d, f a b c d = true → P (.Call a b c d)) : P x :=
  dite_k h fun q => Expr.Call.elim (motive_1 := fun x => (q : x.ctorIdx = 16) → Expr.Call.elim (motive_1 := fun _ => Bool) x q f = true → P x) x q (fun a b c d _ h => k a b c d h) q
noncomputable def onListComp (x : Expr) (f : Expr → List Comprehension → Scope → Pos → Bool) : Bool := if h : x.ctorIdx = 8 then Expr.ListComp.elim (motive_1 := fun _ => Bool) x h f else false
theorem onListComp_k {P : Expr → Prop} {x : Expr} {f : Expr → List Comprehension → Scope → Pos → Bool} (h : onListComp x f = true) (k : ∀ a b c d, f a b c d = true → P (.ListComp a b c d)) : P x :=
  dite_k h fun q => Expr.ListComp.elim (motive_1 := fun x => (q : x.ctorIdx = 8) → Expr.ListComp.elim (motive_1 := fun _ => Bool) x q f = true → P x) x q (fun a b c d _ h => k a b c d h) q
noncomputable def atAssign (x : Stmt) (f : List Expr → Expr → Pos → Bool) : Bool := if h : x.ctorIdx = 5 then Stmt.Assign.elim (motive_2 := fun _ => Bool) x h f else false
theorem atAssign_k {P : Stmt → Prop} {x : Stmt} {f : List Expr → Expr → Pos → Bool} (h : atAssign x f = true) (k : ∀ a b c, f a b c = true → P (.Assign a b c)) : P x :=
  dite_k h fun q => Stmt.Assign.elim (motive_2 := fun x => (q : x.ctorIdx = 5) → Stmt.Assign.elim (motive_2 := fun _ => Bool) x q f = true → P x) x q (fun a b c _ h => k a b c h) q
noncomputable def atExpr (x : Stmt) (f : Expr → Pos → Bool) : Bool := if h : x.ctorIdx = 24 then Stmt.Expr.elim (motive_2 := fun _ => Bool) x h f else false
theorem atExpr_k {P : Stmt → Prop} {x : Stmt} {f : Expr → Pos → Bool} (h : atExpr x f = true) (k : ∀ a b, f a b = true → P (.Expr a b)) : P x :=
  dite_k h fun q => Stmt.Expr.elim (motive_2 := fun x => (q : x.ctorIdx = 24) → Stmt.Expr.elim (motive_2 := fun _ => Bool) x q f = true → P x) x q (fun a b _ h => k a b h) q
noncomputable def atIf (x : Stmt) (f : Expr → List Stmt → List Stmt → Pos → Bool) : Bool := if h : x.ctorIdx = 12 then Stmt.If.elim (motive_2 := fun _ => Bool) x h f else false
theorem atIf_k {P : Stmt → Prop} {x : Stmt} {f : Expr → List Stmt → List Stmt → Pos → Bool} (h : atIf x f = true) (k : ∀ a b c d, f a b c d = true → P (.If a b c d)) : P x :=
  dite_k h fun q => Stmt.If.elim (motive_2 := fun x => (q : x.ctorIdx = 12) → Stmt.If.elim (motive_2 := fun _ => Bool) x q f = true → P x) x q (fun a b c d _ h => k a b c d h) q
noncomputable def atFor (x : Stmt) (f : Expr → Expr → List Stmt → List Stmt → Pos → Bool) : Bool := if h : x.ctorIdx = 9 then Stmt.For.elim (motive_2 := fun _ => Bool) x h f else false
theorem atFor_k {P : Stmt → Prop} {x : Stmt} {f : Expr → Expr → List Stmt → List Stmt → Pos → Bool} (h : atFor x f = true) (k : ∀ a b c d e, f a b c d e = true → P (.For a b c d e)) : P x :=
  dite_k h fun q => Stmt.For.elim (motive_2 := fun x => (q : x.ctorIdx = 9) → Stmt.For.elim (motive_2 := fun _ => Bool) x q f = true → P x) x q (fun a b c d e _ h => k a b c d e h) q
noncomputable def atWhile (x : Stmt) (f : Expr → List Stmt → List Stmt → Pos → Bool) : Bool := if h : x.ctorIdx = 11 then Stmt.While.elim (motive_2 := fun _ => Bool) x h f else false
theorem atWhile_k {P : Stmt → Prop} {x : Stmt} {f : Expr → List Stmt → List Stmt → Pos → Bool} (h : atWhile x f = true) (k : ∀ a b c d, f a b c d = true → P (.While a b c d)) : P x :=
  dite_k h fun q => Stmt.While.elim (motive_2 := fun x => (q : x.ctorIdx = 11) → Stmt.While.elim (motive_2 := fun _ => Bool) x q f = true → P x) x q (fun a b c d _ h => k a b c d h) q
noncomputable def atReturn (x : Stmt) (f : Option Expr → Pos → Bool) : Bool := if h : x.ctorIdx = 3 then Stmt.Return.elim (motive_2 := fun _ => Bool) x h f else false
theorem atReturn_k {P : Stmt → Prop} {x : Stmt} {f : Option Expr → Pos → Bool} (h : atReturn x f = true) (k : ∀ a b, f a b = true → P (.Return a b)) : P x :=
  dite_k h fun q => Stmt.Return.elim (motive_2 := fun x => (q : x.ctorIdx = 3) → Stmt.Return.elim (motive_2 := fun _ => Bool) x q f = true → P x) x q (fun a b _ h => k a b h) q
noncomputable def one {α : Type} (l : List α) (f : α → Bool) : Bool := match l with
  | [a] => f a
  | _ => false
theorem one_k {α : Type} {P : List α → Prop} : {l : List α} → {f : α → Bool} → one l f = true → (∀ a, f a = true → P [a]) → P l
  | [], _, h, _ => Bool.noConfusion h
  | [a], _, h, k => k a h
  | _ :: _ :: _, _, h, _ => Bool.noConfusion h
noncomputable def conc {α : Type} (l : List α) (f : α → List α → Bool) : Bool := match l with
  | a :: r => f a r
  | [] => false
theorem conc_k {α : Type} {P : List α → Prop} : {l : List α} → {f : α → List α → Bool} → conc l f = true → (∀ a r, f a r = true → P (a :: r)) → P l
  | [], _, h, _ => Bool.noConfusion h
  | a :: r, _, h, k => k a r h
noncomputable def som {α : Type} (l : Option α) (f : α → Bool) : Bool := match l with
  | some a => f a
  | none => false
theorem som_k {α : Type} {P : Option α → Prop} : {l : Option α} → {f : α → Bool} → som l f = true → (∀ a, f a = true → P (some a)) → P l
  | none, _, h, _ => Bool.noConfusion h
  | some a, _, h, k => k a h
theorem nil_k {α : Type} {P : List α → Prop} : {l : List α} → l.isEmpty = true → P [] → P l
  | [], _, k => k
  | _ :: _, h, _ => Bool.noConfusion h
theorem non_k {α : Type} {P : Option α → Prop} : {l : Option α} → l.isNone = true → P none → P l
  | none, _, k => k
  | some _, h, _ => Bool.noConfusion h
theorem dec_k {α : Type} {P : α → Prop} {a b : α} [Decidable (a = b)] (h : decide (a = b) = true) (k : P b) : P a := (of_decide_eq_true h) ▸ k
theorem beq_k {α : Type} [BEq α] [LawfulBEq α] {P : α → Prop} {a b : α} (h : (a == b) = true) (k : P b) : P a := (eq_of_beq h) ▸ k
theorem andl {a b : Bool} (h : (a && b) = true) : a = true := by cases a; exact h; rfl
theorem andr {a b : Bool} (h : (a && b) = true) : b = true := by cases a; exact Bool.noConfusion h; exact h
theorem nb {b : Bool} (h : (!b) = true) : b = false := by cases b; rfl; exact Bool.noConfusion h

/-- a whole number, as a text writes it -/
noncomputable def onInt (x : Expr) (i : Int) : Bool := onConstant x fun c _ _ => decide (c = .int i)
theorem onInt_k {P : Expr → Prop} {x : Expr} {i : Int} (h : onInt x i = true) (k : ∀ n p, P (.Constant (.int i) n p)) : P x :=
  onConstant_k h fun c n p h => dec_k (P := fun c => P (.Constant c n p)) h (k n p)
noncomputable def onNeg (x : Expr) (i : Int) : Bool := onUnaryOp x fun o y _ => decide (o = .USub) && onInt y i
theorem onNeg_k {P : Expr → Prop} {x : Expr} {i : Int} (h : onNeg x i = true) (k : ∀ n p q, P (.UnaryOp .USub (.Constant (.int i) n p) q)) : P x :=
  onUnaryOp_k h fun o y q h => dec_k (P := fun o => P (.UnaryOp o y q)) (andl h) (onInt_k (P := fun y => P (.UnaryOp .USub y q)) (andr h) fun n p => k n p q)

end Mine

set_option maxRecDepth 10000
namespace Mine
open PySem PySem.W

/-- what stands around the call -/
structure Ctx where
  prog : Program
  w : World
  h₀ : Heap
  K : Frag
  mg : Str → Option Value
  mb : Str → Option Value
  cls : Addr

/-- the ghost: what is frozen, where the cells lie -/
structure Gh where
  G : Addr → Option Obj
  κ : List Addr

noncomputable abbrev tupO (vs : List Value) (n : Nat) : Obj := { cls := .type "tuple", data := .seq vs.toArray n }
noncomputable abbrev lstO (vs : List Value) (n : Nat) : Obj := { cls := .type "list", data := .seq vs.toArray n }
noncomputable abbrev rngO (a b c : Int) (t u v : Tok) : Obj := { cls := .type "range", data := .fields #[.int a t, .int b u, .int c v] }

noncomputable def fieldNames : List Str := ["rows", "names", "temps", "trys", "lives"]

/-- the entries of an instance's dict: its fields in order -/
inductive FieldsAt : List DictEntry → List Str → List Value → Prop
  | nil : FieldsAt [] [] []
  | cons {e : DictEntry} {es : List DictEntry} {n : Str} {ns : List Str} {v : Value} {vs : List Value} (t : Tok) (hk : e.key = .str n t) (hv : e.val = v) (hh : handedIn v = true) (r : FieldsAt es ns vs) : FieldsAt (e :: es) (n :: ns) (v :: vs)

variable (C : Ctx)

mutual
noncomputable def Rel (γ : Gh) : D → Value → Prop
  | .none, v => v = .none
  | .undef, _ => True
  | .bool b, v => v = .bool b
  | .int i, v => ∃ t, v = .int i t
  | .str s, v => PyData.strOk s = true ∧ ∃ t, v = .str s t
  | .tup ds, v => ∃ a vs n, v = .ref a ∧ γ.G a = some (tupO vs n) ∧ ds.length ≤ big ∧ Rels γ ds vs
  | .lst ds, v => ∃ a vs n, v = .ref a ∧ γ.G a = some (lstO vs n) ∧ ds.length ≤ big ∧ Rels γ ds vs
  | .dic ks vs, v => ∃ a o, v = .ref a ∧ γ.G a = some o ∧ a ≠ sysModules ∧ ks.length ≤ big ∧
      ((∃ kvs : List (Int × Value), o.IsDictOf (intKind C.prog C.w) kvs ∧ ks = kvs.map (fun p => D.int p.1) ∧ Rels γ vs (kvs.map (·.2))) ∨
       (∃ kvs : List (Str × Value), o.IsDictOf (strKind C.prog C.w) kvs ∧ ks = kvs.map (fun p => D.str p.1) ∧ Rels γ vs (kvs.map (·.2)) ∧ ∀ p ∈ kvs, PyData.strOk p.1 = true))
  | .obj ds, v => ∃ a dx es n vs, v = .ref a ∧ γ.G a = some (instObj C.cls dx) ∧ γ.G dx = some (dictOf es n) ∧ FieldsAt es fieldNames vs ∧ Rels γ ds vs
  | .rng a b c, v => ∃ x t u w, v = .ref x ∧ γ.G x = some (rngO a b c t u w) ∧ a.natAbs ≤ big ∧ b.natAbs ≤ big ∧ (c = 1 ∨ c = -1)
  | .cell k, v => ∃ a, γ.κ[k]? = some a ∧ v = .ref a
noncomputable def Rels (γ : Gh) : List D → List Value → Prop
  | [], vs => vs = []
  | d :: ds, vs => ∃ v r, vs = v :: r ∧ Rel γ d v ∧ Rels γ ds r
end

/-- later: what was frozen is frozen, cells lie where they lay -/
structure Gh.Le (γ γ' : Gh) : Prop where
  G : ∀ a o, γ.G a = some o → γ'.G a = some o
  κ : ∀ (k : Nat) (a : Addr), γ.κ[k]? = some a → γ'.κ[k]? = some a

theorem Gh.Le.refl (γ : Gh) : γ.Le γ := ⟨fun _ _ e => e, fun _ _ e => e⟩
theorem Gh.Le.trans {a b c : Gh} (x : a.Le b) (y : b.Le c) : a.Le c := ⟨fun p o e => y.G p o (x.G p o e), fun k p e => y.κ k p (x.κ k p e)⟩

variable {C}

theorem D.ind {P : D → Prop} {Q : List D → Prop} (none : P .none) (undef : P .undef) (bool : ∀ b, P (.bool b)) (int : ∀ i, P (.int i)) (str : ∀ s, P (.str s)) (tup : ∀ ds, Q ds → P (.tup ds)) (lst : ∀ ds, Q ds → P (.lst ds)) (dic : ∀ ks vs, Q ks → Q vs → P (.dic ks vs)) (obj : ∀ ds, Q ds → P (.obj ds)) (rng : ∀ a b c, P (.rng a b c)) (cell : ∀ k, P (.cell k)) (nil : Q []) (cons : ∀ d ds, P d → Q ds → Q (d :: ds)) : (∀ d, P d) ∧ ∀ ds, Q ds :=
  have h : ∀ d, P d := fun d => D.rec (motive_1 := P) (motive_2 := Q) none undef bool int str tup lst dic obj rng cell nil cons d
  ⟨h, fun ds => List.rec nil (fun d ds ih => cons d ds (h d) ih) ds⟩
noncomputable def Gh.Kle (γ γ' : Gh) : Prop := ∀ (k : Nat) (a : Addr), γ.κ[k]? = some a → γ'.κ[k]? = some a
theorem relTo {γ γ' : Gh} (L : ∀ a o, γ.G a = some o → γ'.G a = some o) : (∀ d, γ.Kle γ' ∨ d.pure = true → ∀ v, Rel C γ d v → Rel C γ' d v) ∧ ∀ ds, γ.Kle γ' ∨ D.pures ds = true → ∀ vs, Rels C γ ds vs → Rels C γ' ds vs := by
  refine D.ind (fun _ _ h => h) (fun _ _ h => h) (fun _ _ _ h => h) (fun _ _ _ h => h) (fun _ _ _ h => h) (fun ds ih p v h => ?_) (fun ds ih p v h => ?_) (fun ks vs _ ih p v h => ?_) (fun ds ih p v h => ?_) (fun a b c p v h => ?_) (fun k p v h => ?_) (fun _ _ h => h) (fun d ds ih1 ih2 p vs h => ?_)
  · obtain ⟨a, vs, n, e, g, l, r⟩ := h
    exact ⟨a, vs, n, e, L _ _ g, l, ih p _ r⟩
  · obtain ⟨a, vs, n, e, g, l, r⟩ := h
    exact ⟨a, vs, n, e, L _ _ g, l, ih p _ r⟩
  · obtain ⟨a, o, e, g, ne, l, r⟩ := h
    have ih := ih (p.imp_right fun q => (Bool.and_eq_true_iff.mp q).2)
    exact ⟨a, o, e, L _ _ g, ne, l, r.imp (fun ⟨kvs, r1, r2, r3⟩ => ⟨kvs, r1, r2, ih _ r3⟩) fun ⟨kvs, r1, r2, r3, r4⟩ => ⟨kvs, r1, r2, ih _ r3, r4⟩⟩
  · obtain ⟨a, dx, es, n, vs, e, g, g', f, r⟩ := h
    exact ⟨a, dx, es, n, vs, e, L _ _ g, L _ _ g', f, ih p _ r⟩
  · obtain ⟨x, t, u, w, e, g, r⟩ := h
    exact ⟨x, t, u, w, e, L _ _ g, r⟩
  · obtain ⟨a, e, r⟩ := h
    exact ⟨a, p.elim (fun q => q _ _ e) (fun q => Bool.noConfusion q), r⟩
  · obtain ⟨v, r, e, h1, h2⟩ := h
    exact ⟨v, r, e, ih1 (p.imp_right fun q => (Bool.and_eq_true_iff.mp q).1) _ h1, ih2 (p.imp_right fun q => (Bool.and_eq_true_iff.mp q).2) _ h2⟩
theorem Rel.mono {γ γ' : Gh} (L : γ.Le γ') {d : D} {v : Value} : Rel C γ d v → Rel C γ' d v := (relTo L.G).1 d (.inl L.κ) v
theorem Rels.mono {γ γ' : Gh} (L : γ.Le γ') {ds : List D} {vs : List Value} : Rels C γ ds vs → Rels C γ' ds vs := (relTo L.G).2 ds (.inl L.κ) vs
/-- pure data does not ask where cells lie -/
theorem Rels.ofPure {γ γ' : Gh} (L : ∀ a o, γ.G a = some o → γ'.G a = some o) {ds : List D} {vs : List Value} (p : D.pures ds = true) : Rels C γ ds vs → Rels C γ' ds vs := (relTo L).2 ds (.inr p) vs
theorem Rel.ofPure {γ γ' : Gh} (L : ∀ a o, γ.G a = some o → γ'.G a = some o) {d : D} {v : Value} (p : d.pure = true) : Rel C γ d v → Rel C γ' d v := (relTo L).1 d (.inr p) v

section lists
variable {γ : Gh}
theorem Rels.nil : Rels C γ [] [] := rfl
theorem Rels.cons {d : D} {v : Value} {ds : List D} {vs : List Value} (h : Rel C γ d v) (r : Rels C γ ds vs) : Rels C γ (d :: ds) (v :: vs) := ⟨v, vs, rfl, h, r⟩
theorem rels_nil {P : List Value → Prop} {vs : List Value} (h : Rels C γ [] vs) (k : P []) : P vs := (show vs = [] from h) ▸ k
theorem rels_cons {P : List Value → Prop} {d : D} {ds : List D} {vs : List Value} (h : Rels C γ (d :: ds) vs) (k : ∀ v r, Rel C γ d v → Rels C γ ds r → P (v :: r)) : P vs := by
  obtain ⟨v, r, e, a, b⟩ := h; exact e ▸ k v r a b
theorem Rels.cons_iff {d : D} {v : Value} {ds : List D} {vs : List Value} : Rels C γ (d :: ds) (v :: vs) ↔ Rel C γ d v ∧ Rels C γ ds vs :=
  ⟨fun h => by obtain ⟨_, _, e, a, b⟩ := h; cases e; exact ⟨a, b⟩, fun h => .cons h.1 h.2⟩
/-- by both lists -/
theorem rels_ind {P : List D → List Value → Prop} (nil : P [] []) (cons : ∀ d ds v vs, Rel C γ d v → Rels C γ ds vs → P ds vs → P (d :: ds) (v :: vs)) : ∀ {ds : List D} {vs : List Value}, Rels C γ ds vs → P ds vs := by
  intro ds
  induction ds with
  | nil => exact fun h => rels_nil (P := P []) h nil
  | cons d ds ih => exact fun h => rels_cons (P := P (d :: ds)) h fun v r a b => cons d ds v r a b (ih b)
theorem Rels.length {ds : List D} {vs : List Value} (h : Rels C γ ds vs) : ds.length = vs.length :=
  rels_ind (P := fun ds vs => ds.length = vs.length) rfl (fun _ _ _ _ _ _ ih => congrArg (· + 1) ih) h
theorem Rels.append {ds es : List D} {vs ws : List Value} (h : Rels C γ ds vs) (k : Rels C γ es ws) : Rels C γ (ds ++ es) (vs ++ ws) :=
  rels_ind (P := fun ds vs => Rels C γ (ds ++ es) (vs ++ ws)) k (fun _ _ _ _ a _ ih => .cons a ih) h
theorem Rels.get {ds : List D} {vs : List Value} (h : Rels C γ ds vs) : ∀ {k : Nat} {d : D}, ds[k]? = some d → ∃ v, vs[k]? = some v ∧ Rel C γ d v :=
  rels_ind (P := fun ds vs => ∀ {k : Nat} {d : D}, ds[k]? = some d → ∃ v, vs[k]? = some v ∧ Rel C γ d v) (fun e => nomatch e)
    (fun d ds v vs a _ ih {k e} q => by
      cases k with
      | zero => cases q; exact ⟨v, rfl, a⟩
      | succ k => exact ih q) h
theorem Rels.getV {ds : List D} {vs : List Value} (h : Rels C γ ds vs) {k : Nat} {v : Value} (e : vs[k]? = some v) : ∃ d, ds[k]? = some d ∧ Rel C γ d v := by
  have this : k < ds.length := by rw [h.length]; exact (List.getElem?_eq_some_iff.mp e).1
  obtain ⟨v', e', r⟩ := h.get (List.getElem?_eq_getElem this)
  rw [e] at e'; cases e'
  exact ⟨_, List.getElem?_eq_getElem this, r⟩
theorem Rels.take {ds : List D} {vs : List Value} (h : Rels C γ ds vs) : ∀ n : Nat, Rels C γ (ds.take n) (vs.take n) :=
  rels_ind (P := fun ds vs => ∀ n : Nat, Rels C γ (ds.take n) (vs.take n)) (fun n => by cases n <;> exact .nil)
    (fun d ds v vs a _ ih n => by
      cases n with
      | zero => exact .nil
      | succ n => exact .cons a (ih n)) h
theorem Rels.drop {ds : List D} {vs : List Value} (h : Rels C γ ds vs) : ∀ n : Nat, Rels C γ (ds.drop n) (vs.drop n) :=
  rels_ind (P := fun ds vs => ∀ n : Nat, Rels C γ (ds.drop n) (vs.drop n)) (fun n => by cases n <;> exact .nil)
    (fun d ds v vs a b ih n => by
      cases n with
      | zero => exact .cons a b
      | succ n => exact ih n) h
theorem Rels.set {ds : List D} {vs : List Value} (h : Rels C γ ds vs) {d : D} {v : Value} (r : Rel C γ d v) : ∀ n : Nat, Rels C γ (ds.set n d) (vs.set n v) :=
  rels_ind (P := fun ds vs => ∀ n : Nat, Rels C γ (ds.set n d) (vs.set n v)) (fun _ => .nil)
    (fun d' ds v' vs a b ih n => by
      cases n with
      | zero => exact .cons r b
      | succ n => exact .cons a (ih n)) h
theorem Rels.reverse {ds : List D} {vs : List Value} (h : Rels C γ ds vs) : Rels C γ ds.reverse vs.reverse :=
  rels_ind (P := fun ds vs => Rels C γ ds.reverse vs.reverse) .nil (fun d ds v vs a _ ih => by
    rw [List.reverse_cons, List.reverse_cons]
    exact ih.append (.cons a .nil)) h
theorem Rels.one {d : D} {v : Value} (h : Rel C γ d v) : Rels C γ [d] [v] := .cons h .nil
end lists

/-- a value of data is never the mark -/
theorem Rel.handed {γ : Gh} {d : D} {v : Value} (h : Rel C γ d v) (hu : d ≠ .undef) : handedIn v = true := by
  cases d with
  | none => exact (show v = .none from h) ▸ rfl
  | undef => exact absurd rfl hu
  | bool => exact (show v = .bool _ from h) ▸ rfl
  | int => obtain ⟨_, e⟩ := h; exact e ▸ rfl
  | str => obtain ⟨_, _, e⟩ := h; exact e ▸ rfl
  | tup => obtain ⟨_, _, _, e, _⟩ := h; exact e ▸ rfl
  | lst => obtain ⟨_, _, _, e, _⟩ := h; exact e ▸ rfl
  | dic => obtain ⟨_, _, e, _⟩ := h; exact e ▸ rfl
  | obj => obtain ⟨_, _, _, _, _, e, _⟩ := h; exact e ▸ rfl
  | rng => obtain ⟨_, _, _, _, e, _⟩ := h; exact e ▸ rfl
  | cell => obtain ⟨_, _, e⟩ := h; exact e ▸ rfl

/-! data as the library's -/
theorem nsome {α : Type} {a : α} {P : Prop} (h : (none : Option α) = some a) : P := nomatch h
theorem ssome {α : Type} {a b : α} {P : α → Prop} (h : some a = some b) (k : P a) : P b := Option.some.inj h ▸ k
theorem map_k {α β : Type} {f : α → β} {o : Option α} {b : β} {P : β → Prop} (h : o.map f = some b) (k : ∀ a, o = some a → P (f a)) : P b := by
  cases o with
  | none => exact nsome h
  | some a => exact ssome h (k a rfl)
theorem both_k {α β γ : Type} {x : Option α} {y : Option β} {f : α → β → Option γ} {c : γ} {P : Prop} (h : both x y f = some c) (k : ∀ a b, x = some a → y = some b → f a b = some c → P) : P := by
  cases x with
  | none => exact nsome h
  | some a => cases y with
    | none => exact nsome h
    | some b => exact k a b rfl rfl h
theorem py_ind {P : D → PyData → Prop} {Q : List D → List PyData → Prop} (none : P .none .none) (bool : ∀ b, P (.bool b) (.bool b)) (int : ∀ i, P (.int i) (.int i)) (str : ∀ s, P (.str s) (.str s))
    (tup : ∀ ds xs, D.pys ds = some xs → Q ds xs → P (.tup ds) (.tuple xs)) (lst : ∀ ds xs, D.pys ds = some xs → Q ds xs → P (.lst ds) (.list xs))
    (nil : Q [] []) (cons : ∀ d ds x xs, d.py = some x → D.pys ds = some xs → P d x → Q ds xs → Q (d :: ds) (x :: xs)) : (∀ d, ∀ x, d.py = some x → P d x) ∧ ∀ ds, ∀ xs, D.pys ds = some xs → Q ds xs :=
  D.ind (fun _ h => ssome h none) (fun _ h => nsome h) (fun b _ h => ssome h (bool b)) (fun b _ h => ssome h (int b)) (fun b _ h => ssome h (str b))
    (fun ds ih _ h => map_k h fun xs e => tup ds xs e (ih xs e)) (fun ds ih _ h => map_k h fun xs e => lst ds xs e (ih xs e))
    (fun _ _ _ _ _ h => nsome h) (fun _ _ _ h => nsome h) (fun _ _ _ _ h => nsome h) (fun _ _ h => nsome h)
    (fun _ h => ssome h nil) (fun d ds i1 i2 _ h => both_k h fun x xs e1 e2 e => ssome e (cons d ds x xs e1 e2 (i1 x e1) (i2 xs e2)))
theorem relReads {γ : Gh} {h : Heap} (F : ∀ a o, γ.G a = some o → h.get? a = some o) : (∀ d : D, ∀ x : PyData, d.py = some x → ∀ v, Rel C γ d v → (∃ as, Reads h v x as) ∧ x.canLay0 = true) ∧ ∀ ds, ∀ xs, D.pys ds = some xs → ∀ vs, Rels C γ ds vs → (∃ as, ReadsAll h vs xs as) ∧ PyData.canLayAll0 xs = true := by
  refine py_ind (fun v r => ?_) (fun b v r => ?_) (fun i v r => ?_) (fun s v r => ?_) (fun ds xs _ ih v r => ?_) (fun ds xs _ ih v r => ?_) (fun vs r => ?_) (fun d ds x xs _ _ i1 i2 vs r => ?_)
  · exact (show v = .none from r) ▸ ⟨⟨_, .none⟩, rfl⟩
  · exact (show v = .bool b from r) ▸ ⟨⟨_, .bool _⟩, rfl⟩
  · obtain ⟨t, e⟩ := r; exact e ▸ ⟨⟨_, .int _ _⟩, rfl⟩
  · obtain ⟨ok, t, e⟩ := r; exact e ▸ ⟨⟨_, .str _ _⟩, ok⟩
  · obtain ⟨a, vs, n, e, g, _, rs⟩ := r
    obtain ⟨⟨as, R⟩, k⟩ := ih _ rs
    exact e ▸ ⟨⟨as, .tuple (F _ _ g) rfl rfl R⟩, k⟩
  · obtain ⟨a, vs, n, e, g, _, rs⟩ := r
    obtain ⟨⟨as, R⟩, k⟩ := ih _ rs
    exact e ▸ ⟨⟨_, .list (F _ _ g) rfl rfl R⟩, k⟩
  · exact (show vs = [] from r) ▸ ⟨⟨_, .nil⟩, rfl⟩
  · obtain ⟨v, vs', e, r1, r2⟩ := r
    obtain ⟨⟨as, R⟩, k⟩ := i1 _ r1
    obtain ⟨⟨bs, R'⟩, k'⟩ := i2 _ r2
    exact e ▸ ⟨⟨_, .cons R R'⟩, Bool.and_eq_true_iff.mpr ⟨k, k'⟩⟩
theorem Rel.reads {γ : Gh} {h : Heap} (F : ∀ a o, γ.G a = some o → h.get? a = some o) {d : D} {v : Value} {x : PyData} (r : Rel C γ d v) (e : d.py = some x) : (∃ as, Reads h v x as) ∧ x.canLay0 = true := (relReads F).1 d x e v r
theorem Rels.reads {γ : Gh} {h : Heap} (F : ∀ a o, γ.G a = some o → h.get? a = some o) {ds : List D} {vs : List Value} {xs : List PyData} (r : Rels C γ ds vs) (e : D.pys ds = some xs) : (∃ as, ReadsAll h vs xs as) ∧ PyData.canLayAll0 xs = true := (relReads F).2 ds xs e vs r
theorem pyNoDict : (∀ d : D, ∀ x : PyData, d.py = some x → x.hasDict = false) ∧ ∀ ds, ∀ xs, D.pys ds = some xs → PyData.hasDictAll xs = false :=
  py_ind rfl (fun _ => rfl) (fun _ => rfl) (fun _ => rfl) (fun _ _ _ ih => ih) (fun _ _ _ ih => ih) rfl (fun _ _ _ _ _ _ a b => Bool.or_eq_false_iff.mpr ⟨a, b⟩)
theorem D.py_noDict {d : D} {x : PyData} (e : d.py = some x) : x.hasDict = false := pyNoDict.1 d x e
theorem D.pys_length {ds : List D} {xs : List PyData} (e : D.pys ds = some xs) : xs.length = ds.length :=
  (py_ind (P := fun _ _ => True) (Q := fun ds xs => xs.length = ds.length) trivial (fun _ => trivial) (fun _ => trivial) (fun _ => trivial) (fun _ _ _ _ => trivial) (fun _ _ _ _ => trivial) rfl (fun _ _ _ _ _ _ _ b => congrArg (· + 1) b)).2 ds xs e
end Mine

set_option maxRecDepth 10000
namespace Mine
open PySem PySem.W

theorem nodup_at {α : Type} {l : List α} (h : l.Nodup) {i j : Nat} {a : α} (hi : l[i]? = some a) (hj : l[j]? = some a) : i = j := by
  obtain ⟨h1, e1⟩ := List.getElem?_eq_some_iff.mp hi
  obtain ⟨h2, e2⟩ := List.getElem?_eq_some_iff.mp hj
  have P := List.pairwise_iff_getElem.mp h
  rcases Nat.lt_trichotomy i j with q | q | q
  · exact absurd (e1.trans e2.symm) (P i j h1 h2 q)
  · exact q
  · exact absurd (e2.trans e1.symm) (P j i h2 h1 q)

/-- where a slot lies -/
inductive Loc where
  | no | ns (L : Addr) (x : Str) | cell (c : Addr)
noncomputable def Loc.ctorIdx (x : Loc) : Nat := Loc.casesOn (motive := fun _ => Nat) x 0 (fun _ _ => 1) (fun _ => 2)
noncomputable def Loc.addr : Loc → Option Addr
  | .no => none
  | .ns L _ => some L
  | .cell c => some c

variable (C : Ctx)

noncomputable def DicIs (γ : Gh) (o : Obj) (ks vs : List D) : Prop := ks.length ≤ big ∧
  ((∃ kvs : List (Int × Value), o.IsDictOf (intKind C.prog C.w) kvs ∧ ks = kvs.map (fun p => D.int p.1) ∧ Rels C γ vs (kvs.map (·.2))) ∨
   (∃ kvs : List (Str × Value), o.IsDictOf (strKind C.prog C.w) kvs ∧ ks = kvs.map (fun p => D.str p.1) ∧ Rels C γ vs (kvs.map (·.2)) ∧ ∀ p ∈ kvs, PyData.strOk p.1 = true))

noncomputable def CellIs (γ : Gh) (h : Heap) (a : Addr) : Cell → Prop
  | .lst ds => ∃ vs n, h.get? a = some (lstO vs n) ∧ ds.length ≤ big ∧ Rels C γ ds vs
  | .dic ks vs => ∃ o, h.get? a = some o ∧ a ≠ sysModules ∧ DicIs C γ o ks vs

structure MInv (γ : Gh) (m : Mem) (s : Shared) : Prop where
  frozen : ∀ a o, γ.G a = some o → s.heap.get? a = some o
  base : ∀ a o, C.h₀.get? a = some o → γ.G a = some o
  len : γ.κ.length = m.length
  nodup : γ.κ.Nodup
  lt : ∀ a ∈ γ.κ, ∃ o, s.heap.get? a = some o
  mem : ∀ (k : Nat) (c : Cell), m[k]? = some (some c) → ∃ a, γ.κ[k]? = some a ∧ γ.G a = none ∧ CellIs C γ s.heap a c
  pure : ∀ (k : Nat) (c : Cell), m[k]? = some (some c) → c.pure = true

noncomputable def SlotOk (γ : Gh) (h : Heap) (d : D) : Loc → Prop
  | .no => d = .undef
  | .ns L x => ∃ m, h.Ns L m ∧ (d = .undef ∨ ∃ v, m x = some v ∧ Rel C γ d v)
  | .cell c => ∃ w, h.IsCell c w ∧ (d = .undef ∨ ∃ v, w = some v ∧ Rel C γ d v)

structure SInv (γ : Gh) (loc : Nat → Loc) (env : List D) (s : Shared) : Prop where
  slot : ∀ i, SlotOk C γ s.heap (env[i]?.getD .undef) (loc i)
  inj : ∀ i j, loc i = loc j → loc i ≠ .no → i = j
  sep : ∀ i a, (loc i).addr = some a → a ∉ γ.κ ∧ γ.G a = none

structure Step (W : Addr → Prop) (γ : Gh) (s : Shared) (γ' : Gh) (s' : Shared) : Prop where
  le : γ.Le γ'
  newG : ∀ a o, γ'.G a = some o → γ.G a = some o ∨ s.heap.get? a = none ∨ a ∈ γ.κ ∨ W a
  newκ : ∀ a ∈ γ'.κ, a ∈ γ.κ ∨ s.heap.get? a = none ∨ W a
  keep : ∀ a o, s.heap.get? a = some o → a ∉ γ.κ → ¬ W a → s'.heap.get? a = some o
  live : ∀ a o, s.heap.get? a = some o → ¬ W a → ∃ o', s'.heap.get? a = some o'
  same : ∃ h t, s' = { s with heap := h, toks := t }

noncomputable def NoW : Addr → Prop := fun _ => False

variable {C}
variable {γ γ' γ'' : Gh} {s s' s'' : Shared} {m m' : Mem} {loc : Nat → Loc} {env : List D} {W : Addr → Prop}

theorem DicIs.mono (L : γ.Le γ') {o : Obj} {ks vs : List D} (h : DicIs C γ o ks vs) : DicIs C γ' o ks vs := by
  obtain ⟨l, r⟩ := h
  refine ⟨l, ?_⟩
  rcases r with ⟨kvs, r1, r2, r3⟩ | ⟨kvs, r1, r2, r3, r4⟩
  · exact .inl ⟨kvs, r1, r2, Rels.mono L r3⟩
  · exact .inr ⟨kvs, r1, r2, Rels.mono L r3, r4⟩
theorem Rel.dic_iff {ks vs : List D} {v : Value} : Rel C γ (.dic ks vs) v ↔ ∃ a o, v = .ref a ∧ γ.G a = some o ∧ a ≠ sysModules ∧ DicIs C γ o ks vs := Iff.rfl
theorem CellIs.mono (L : γ.Le γ') {h : Heap} {a : Addr} {c : Cell} (x : CellIs C γ h a c) : CellIs C γ' h a c := by
  cases c with
  | lst ds => obtain ⟨vs, n, g, l, r⟩ := x; exact ⟨vs, n, g, l, r.mono L⟩
  | dic ks vs => obtain ⟨o, g, ne, r⟩ := x; exact ⟨o, g, ne, r.mono L⟩
theorem CellIs.live {h : Heap} {a : Addr} {c : Cell} (x : CellIs C γ h a c) : ∃ o, h.get? a = some o := by
  cases c with
  | lst ds => obtain ⟨vs, n, g, r⟩ := x; exact ⟨_, g⟩
  | dic ks vs => obtain ⟨o, g, r⟩ := x; exact ⟨_, g⟩
theorem CellIs.at {h h' : Heap} {a : Addr} {c : Cell} (x : CellIs C γ h a c) (e : ∀ o, h.get? a = some o → h'.get? a = some o) : CellIs C γ h' a c := by
  cases c with
  | lst ds => obtain ⟨vs, n, g, r⟩ := x; exact ⟨vs, n, e _ g, r⟩
  | dic ks vs => obtain ⟨o, g, r⟩ := x; exact ⟨o, e _ g, r⟩

theorem Step.refl (W : Addr → Prop) (γ : Gh) (s : Shared) : Step W γ s γ s :=
  ⟨.refl γ, fun _ _ e => .inl e, fun _ e => .inl e, fun _ _ e _ _ => e, fun _ o e _ => ⟨o, e⟩, ⟨s.heap, s.toks, rfl⟩⟩
theorem Step.none_of (x : Step W γ s γ' s') {a : Addr} (h : s'.heap.get? a = none) : s.heap.get? a = none ∨ W a := by
  cases e : s.heap.get? a with
  | none => exact .inl rfl
  | some o =>
    by_cases hw : W a
    · exact .inr hw
    · obtain ⟨o', e'⟩ := x.live a o e hw
      rw [h] at e'; cases e'
theorem Step.trans (x : Step W γ s γ' s') (y : Step W γ' s' γ'' s'') : Step W γ s γ'' s'' := by
  refine ⟨x.le.trans y.le, fun a o e => ?_, fun a e => ?_, fun a o e h w => ?_, fun a o e w => ?_, ?_⟩
  · rcases y.newG a o e with h | h | h | h
    · exact x.newG a o h
    · rcases x.none_of h with h | h
      · exact .inr (.inl h)
      · exact .inr (.inr (.inr h))
    · rcases x.newκ a h with h | h | h
      · exact .inr (.inr (.inl h))
      · exact .inr (.inl h)
      · exact .inr (.inr (.inr h))
    · exact .inr (.inr (.inr h))
  · rcases y.newκ a e with h | h | h
    · exact x.newκ a h
    · rcases x.none_of h with h | h
      · exact .inr (.inl h)
      · exact .inr (.inr h)
    · exact .inr (.inr h)
  · refine y.keep a o (x.keep a o e h w) (fun hm => ?_) w
    rcases x.newκ a hm with hm | hm | hm
    · exact h hm
    · rw [hm] at e; cases e
    · exact w hm
  · obtain ⟨o', e'⟩ := x.live a o e w
    exact y.live a o' e' w
  · obtain ⟨h, t, rfl⟩ := x.same
    obtain ⟨h', t', rfl⟩ := y.same
    exact ⟨h', t', rfl⟩
theorem Step.weaken' {W W' : Addr → Prop} (x : Step W γ s γ' s') (h : ∀ a, W a → W' a) : Step W' γ s γ' s' :=
  ⟨x.le, fun a o e => (x.newG a o e).imp id (Or.imp id (Or.imp id (h a))), fun a e => (x.newκ a e).imp id (Or.imp id (h a)), fun a o e hk hw => x.keep a o e hk (fun w => hw (h a w)), fun a o e hw => x.live a o e (fun w => hw (h a w)), x.same⟩
theorem Step.weaken (x : Step NoW γ s γ' s') : Step W γ s γ' s' := x.weaken' fun _ f => f.elim
/-- what nobody knew nobody knows, if it is not written -/
theorem Step.free (S : Step W γ s γ' s') {a : Addr} {o : Obj} (hG : γ.G a = none) (hκ : a ∉ γ.κ) (ho : s.heap.get? a = some o) (hW : ¬ W a) : a ∉ γ'.κ ∧ γ'.G a = none := by
  have no : s.heap.get? a ≠ none := fun q => by rw [ho] at q; cases q
  refine ⟨fun hm => (S.newκ a hm).elim hκ fun h => h.elim no hW, ?_⟩
  cases hg : γ'.G a with
  | none => rfl
  | some o' => exact (S.newG a o' hg).elim (fun h => by rw [hG] at h; cases h) fun h => h.elim (fun h => absurd h no) fun h => h.elim (fun h => absurd h hκ) fun h => absurd h hW

theorem SlotOk.mono (L : γ.Le γ') {h : Heap} {d : D} {l : Loc} (x : SlotOk C γ h d l) : SlotOk C γ' h d l := by
  cases l with
  | no => exact x
  | ns L' y =>
    obtain ⟨mm, n, r⟩ := x
    exact ⟨mm, n, r.imp id fun ⟨v, e, r⟩ => ⟨v, e, r.mono L⟩⟩
  | cell c =>
    obtain ⟨w, n, r⟩ := x
    exact ⟨w, n, r.imp id fun ⟨v, e, r⟩ => ⟨v, e, r.mono L⟩⟩
theorem SlotOk.at {h h' : Heap} {d : D} {l : Loc} (x : SlotOk C γ h d l) (e : ∀ a, l.addr = some a → ∀ o, h.get? a = some o → h'.get? a = some o) : SlotOk C γ h' d l := by
  cases l with
  | no => exact x
  | ns L' y => obtain ⟨mm, n, r⟩ := x; exact ⟨mm, n.at' (e _ rfl), r⟩
  | cell c => obtain ⟨w, ⟨o, ho, hd⟩, r⟩ := x; exact ⟨w, ⟨o, e _ rfl _ ho, hd⟩, r⟩
theorem SlotOk.live {h : Heap} {d : D} {l : Loc} (x : SlotOk C γ h d l) {a : Addr} (e : l.addr = some a) : ∃ o, h.get? a = some o := by
  cases l with
  | no => cases e
  | ns L' y => cases e; obtain ⟨mm, ⟨o, _, _, ho, _⟩, r⟩ := x; exact ⟨o, ho⟩
  | cell c => cases e; obtain ⟨w, ⟨o, ho, hd⟩, r⟩ := x; exact ⟨o, ho⟩

/-- slots stand through a step that does not write them -/
theorem SInv.stepW' (x : SInv C γ loc env s) (S : Step W γ s γ' s') (hW : ∀ i a, (loc i).addr = some a → ¬ W a) : SInv C γ' loc env s' :=
  ⟨fun i => ((x.slot i).mono S.le).at fun a ha o ho => S.keep a o ho (x.sep i a ha).1 (hW i a ha), x.inj, fun i a ha => by
    obtain ⟨o, ho⟩ := (x.slot i).live ha
    exact S.free (x.sep i a ha).2 (x.sep i a ha).1 ho (hW i a ha)⟩
theorem SInv.step (x : SInv C γ loc env s) (S : Step NoW γ s γ' s') : SInv C γ' loc env s' := x.stepW' S fun _ _ _ f => f.elim

theorem get?_size (h : Heap) : h.get? h.objs.size = none := by
  cases e : h.get? h.objs.size with
  | none => rfl
  | some o => exact absurd (Heap.lt_size e) (Nat.lt_irrefl _)
theorem get?_ge {h : Heap} {a : Addr} (ha : h.objs.size ≤ a) : h.get? a = none := by
  cases e : h.get? a with
  | none => rfl
  | some o => exact absurd (Heap.lt_size e) (Nat.not_lt.mpr ha)

theorem MInv.newAddr (I : MInv C γ m s) {a : Addr} (h : s.heap.get? a = none) : γ.G a = none ∧ a ∉ γ.κ := by
  refine ⟨?_, fun hm => ?_⟩
  · cases hg : γ.G a with
    | none => rfl
    | some o => have := I.frozen a o hg; rw [h] at this; cases this
  · obtain ⟨o, e⟩ := I.lt a hm
    rw [h] at e; cases e

/-- the heap grows, nothing is frozen -/
theorem MInv.grow (I : MInv C γ m s) {h' : Heap} {t : Nat} (hk : ∀ a o, s.heap.get? a = some o → h'.get? a = some o) :
    MInv C γ m { s with heap := h', toks := t } ∧ Step NoW γ s γ { s with heap := h', toks := t } :=
  ⟨⟨fun a o e => hk a o (I.frozen a o e), I.base, I.len, I.nodup, fun a ha => let ⟨o, e⟩ := I.lt a ha; ⟨o, hk a o e⟩, fun k c e => let ⟨a, h1, h2, h3⟩ := I.mem k c e; ⟨a, h1, h2, h3.at (hk a)⟩, I.pure⟩,
    ⟨.refl γ, fun _ _ e => .inl e, fun _ e => .inl e, fun a o e _ _ => hk a o e, fun a o e _ => ⟨o, hk a o e⟩, ⟨_, _, rfl⟩⟩⟩

noncomputable def Gh.put (γ : Gh) (a : Addr) (o : Obj) : Gh := ⟨fun b => if b = a then some o else γ.G b, γ.κ⟩
theorem Gh.put_self (γ : Gh) (a : Addr) (o : Obj) : (γ.put a o).G a = some o := if_pos rfl
theorem Gh.put_le {a : Addr} {o : Obj} (h : γ.G a = none) : γ.Le (γ.put a o) := by
  refine ⟨fun b x e => ?_, fun _ _ e => e⟩
  show (if b = a then some o else γ.G b) = some x
  by_cases hb : b = a
  · subst hb; rw [h] at e; cases e
  · rw [if_neg hb]; exact e

/-- what is new and stands is frozen -/
theorem MInv.put (I : MInv C γ m s) {a : Addr} {o : Obj} (ho : s.heap.get? a = some o) (hG : γ.G a = none) (hκ : a ∉ γ.κ) : MInv C (γ.put a o) m s := by
  have L := Gh.put_le (o := o) hG
  refine ⟨fun b x e => ?_, fun b x e => L.G _ _ (I.base b x e), I.len, I.nodup, I.lt, fun k c e => ?_, I.pure⟩
  · have e : (if b = a then some o else γ.G b) = some x := e
    by_cases hb : b = a
    · subst hb; rw [if_pos rfl] at e; cases e; exact ho
    · rw [if_neg hb] at e; exact I.frozen b x e
  · obtain ⟨b, h1, h2, h3⟩ := I.mem k c e
    refine ⟨b, h1, ?_, h3.mono L⟩
    show (if b = a then some o else γ.G b) = none
    rw [if_neg]
    · exact h2
    · intro hb; subst hb; exact hκ (List.mem_of_getElem? h1)

/-- a new object, frozen at once -/
theorem MInv.alloc (I : MInv C γ m s) {h' : Heap} {t : Nat} {a : Addr} {o : Obj} (hk : ∀ a o, s.heap.get? a = some o → h'.get? a = some o)
    (ha : s.heap.get? a = none) (ho : h'.get? a = some o) :
    MInv C (γ.put a o) m { s with heap := h', toks := t } ∧ Step NoW γ s (γ.put a o) { s with heap := h', toks := t } := by
  obtain ⟨n1, n2⟩ := I.newAddr ha
  obtain ⟨J, S⟩ := I.grow (t := t) hk
  refine ⟨J.put ho n1 n2, Gh.put_le n1, fun b x e => ?_, fun b e => .inl e, S.keep, S.live, S.same⟩
  have e : (if b = a then some o else γ.G b) = some x := e
  by_cases hb : b = a
  · subst hb; exact .inr (.inl ha)
  · rw [if_neg hb] at e; exact .inl e

noncomputable def Gh.cell (γ : Gh) (a : Addr) : Gh := ⟨γ.G, γ.κ ++ [a]⟩
theorem Gh.cell_le (γ : Gh) (a : Addr) : γ.Le (γ.cell a) := ⟨fun _ _ e => e, fun k b e => by
  show (γ.κ ++ [a])[k]? = some b
  rw [List.getElem?_append_left (List.getElem?_eq_some_iff.mp e).1]; exact e⟩

/-- a new object, a cell -/
theorem MInv.newCell (I : MInv C γ m s) {h' : Heap} {t : Nat} {a : Addr} {c : Cell} (hk : ∀ a o, s.heap.get? a = some o → h'.get? a = some o)
    (ha : s.heap.get? a = none) (hc : CellIs C γ h' a c) (hp : c.pure = true) :
    MInv C (γ.cell a) (m ++ [some c]) { s with heap := h', toks := t } ∧ Step NoW γ s (γ.cell a) { s with heap := h', toks := t } ∧ Rel C (γ.cell a) (.cell m.length) (.ref a) := by
  obtain ⟨n1, n2⟩ := I.newAddr ha
  obtain ⟨J, S⟩ := I.grow (t := t) hk
  have L := Gh.cell_le γ a
  have hl : γ.κ.length = m.length := I.len
  refine ⟨⟨J.frozen, J.base, by simp [Gh.cell, I.len], ?_, fun b hb => ?_, fun k c' e => ?_, fun k c' e => ?_⟩, ⟨L, fun _ _ e => .inl e, fun b hb => ?_, S.keep, S.live, S.same⟩, ?_⟩
  · show (γ.κ ++ [a]).Nodup
    rw [List.nodup_append]
    refine ⟨I.nodup, by simp, fun x hx y hy => ?_⟩
    simp at hy; subst hy
    exact fun h => n2 (h ▸ hx)
  · rcases List.mem_append.mp hb with hb | hb
    · exact J.lt b hb
    · simp at hb; subst hb; exact hc.live
  · by_cases hkl : k < m.length
    · rw [List.getElem?_append_left hkl] at e
      obtain ⟨b, h1, h2, h3⟩ := J.mem k c' e
      exact ⟨b, L.κ _ _ h1, h2, h3.mono L⟩
    · rw [List.getElem?_append_right (by lia)] at e
      have hk0 : k = m.length := by
        have := (List.getElem?_eq_some_iff.mp e).1
        simp at this; lia
      subst hk0
      simp at e; subst e
      refine ⟨a, ?_, n1, hc.mono L⟩
      show (γ.κ ++ [a])[m.length]? = some a
      rw [← hl]; simp
  · by_cases hkl : k < m.length
    · rw [List.getElem?_append_left hkl] at e
      exact I.pure k c' e
    · rw [List.getElem?_append_right (by lia)] at e
      have hk0 : k = m.length := by
        have := (List.getElem?_eq_some_iff.mp e).1
        simp at this; lia
      subst hk0
      simp at e; subst e
      exact hp
  · rcases List.mem_append.mp hb with hb | hb
    · exact .inl hb
    · simp at hb; subst hb; exact .inr (.inl ha)
  · refine ⟨a, ?_, rfl⟩
    show (γ.κ ++ [a])[m.length]? = some a
    rw [← hl]; simp

/-- a cell is written -/
theorem MInv.setCell (I : MInv C γ m s) {h' : Heap} {t : Nat} {k : Nat} {a : Addr} {c c' : Cell} (hm : m[k]? = some (some c)) (ha : γ.κ[k]? = some a)
    (hk : ∀ b o, b ≠ a → s.heap.get? b = some o → h'.get? b = some o) (hc : CellIs C γ h' a c') (hp : c'.pure = true) :
    MInv C γ (m.set k (some c')) { s with heap := h', toks := t } ∧ Step NoW γ s γ { s with heap := h', toks := t } := by
  obtain ⟨a', e1, hG, _⟩ := I.mem k c hm
  rw [ha] at e1; cases e1
  have hal : a ∈ γ.κ := List.mem_of_getElem? ha
  have hlive : ∀ b o, s.heap.get? b = some o → ∃ o', h'.get? b = some o' := fun b o e => by
    by_cases hb : b = a
    · subst hb; exact hc.live
    · exact ⟨o, hk b o hb e⟩
  refine ⟨⟨fun b o e => hk b o (fun h => ?_) (I.frozen b o e), I.base, by simp [I.len], I.nodup, fun b hb => let ⟨o, e⟩ := I.lt b hb; hlive b o e, fun j c₂ e => ?_, fun j c₂ e => ?_⟩,
    ⟨.refl γ, fun _ _ e => .inl e, fun _ e => .inl e, fun b o e hb _ => hk b o (fun h => hb (h ▸ hal)) e, fun b o e _ => hlive b o e, ⟨_, _, rfl⟩⟩⟩
  · subst h; rw [hG] at e; cases e
  · rw [List.getElem?_set] at e
    by_cases hj : k = j
    · subst hj
      rw [if_pos rfl] at e
      have : k < m.length := (List.getElem?_eq_some_iff.mp hm).1
      rw [if_pos this] at e
      cases e
      exact ⟨a, ha, hG, hc⟩
    · rw [if_neg hj] at e
      obtain ⟨b, h1, h2, h3⟩ := I.mem j c₂ e
      refine ⟨b, h1, h2, h3.at fun o => hk b o fun h => hj ?_⟩
      subst h
      exact nodup_at I.nodup ha h1
  · rw [List.getElem?_set] at e
    by_cases hj : k = j
    · subst hj
      rw [if_pos rfl] at e
      have : k < m.length := (List.getElem?_eq_some_iff.mp hm).1
      rw [if_pos this] at e
      cases e
      exact hp
    · rw [if_neg hj] at e
      exact I.pure j c₂ e

/-- a cell is frozen -/
theorem MInv.freeze (I : MInv C γ m s) {k : Nat} {a : Addr} {c : Cell} {o : Obj} (hm : m[k]? = some (some c)) (ha : γ.κ[k]? = some a) (ho : s.heap.get? a = some o) :
    MInv C (γ.put a o) (m.set k none) s ∧ Step NoW γ s (γ.put a o) s := by
  obtain ⟨a', e1, hG, _⟩ := I.mem k c hm
  rw [ha] at e1; cases e1
  have hal : a ∈ γ.κ := List.mem_of_getElem? ha
  have L := Gh.put_le (o := o) hG
  refine ⟨⟨fun b x e => ?_, fun b x e => L.G _ _ (I.base b x e), by show γ.κ.length = _; simp [I.len], I.nodup, I.lt, fun j c₂ e => ?_, fun j c₂ e => ?_⟩, ⟨L, fun b x e => ?_, fun b e => .inl e, fun _ _ e _ _ => e, fun _ o e _ => ⟨o, e⟩, ⟨_, _, rfl⟩⟩⟩
  · have e : (if b = a then some o else γ.G b) = some x := e
    by_cases hb : b = a
    · subst hb; rw [if_pos rfl] at e; cases e; exact ho
    · rw [if_neg hb] at e; exact I.frozen b x e
  · rw [List.getElem?_set] at e
    by_cases hj : k = j
    · rw [if_pos hj] at e
      split at e <;> cases e
    · rw [if_neg hj] at e
      obtain ⟨b, h1, h2, h3⟩ := I.mem j c₂ e
      refine ⟨b, h1, ?_, h3.mono L⟩
      show (if b = a then some o else γ.G b) = none
      rw [if_neg]
      · exact h2
      · intro hb
        subst hb
        exact hj (nodup_at I.nodup ha h1)
  · rw [List.getElem?_set] at e
    by_cases hj : k = j
    · rw [if_pos hj] at e
      split at e <;> cases e
    · rw [if_neg hj] at e
      exact I.pure j c₂ e
  · have e : (if b = a then some o else γ.G b) = some x := e
    by_cases hb : b = a
    · subst hb; exact .inr (.inr (.inl hal))
    · rw [if_neg hb] at e; exact .inl e

/-- the tree gives d, the memory is m' then -/
noncomputable def Gives (C : Ctx) (A : Around) (γ : Gh) (s : Shared) (t : Sem Value) (d : D) (m' : Mem) : Prop :=
  wpAny (model C.prog C.w) A t (fun v s' => ∃ γ', MInv C γ' m' s' ∧ Step NoW γ s γ' s' ∧ Rel C γ' d v) (fun _ _ => False) s
noncomputable def GivesB (C : Ctx) (A : Around) (γ : Gh) (s : Shared) (t : Sem Bool) (b : Bool) (m' : Mem) : Prop :=
  wpAny (model C.prog C.w) A t (fun v s' => v = b ∧ ∃ γ', MInv C γ' m' s' ∧ Step NoW γ s γ' s') (fun _ _ => False) s
noncomputable def GivesL (C : Ctx) (A : Around) (γ : Gh) (s : Shared) (t : Sem (List Value)) (ds : List D) (m' : Mem) : Prop :=
  wpAny (model C.prog C.w) A t (fun vs s' => ∃ γ', MInv C γ' m' s' ∧ Step NoW γ s γ' s' ∧ Rels C γ' ds vs) (fun _ _ => False) s

noncomputable abbrev noE : Value → Shared → Prop := fun _ _ => False

section logic
variable {A : Around} {d : D}
theorem Gives.then {α : Type} {t : Sem Value} {f : Value → Sem α} {Q : α → Shared → Prop} {E : Value → Shared → Prop} (h : Gives C A γ s t d m')
    (k : ∀ v γ₁ s₁, MInv C γ₁ m' s₁ → Step NoW γ s γ₁ s₁ → Rel C γ₁ d v → wpAny (model C.prog C.w) A (f v) Q E s₁) : wpAny (model C.prog C.w) A (t >>= f) Q E s :=
  wpAny_bind (wpAny_mono h (fun v s₁ ⟨γ₁, I, S, R⟩ => k v γ₁ s₁ I S R) fun _ _ x => x.elim)
theorem Gives.thenW {t : Sem Value} {Q : Value → Shared → Prop} {E : Value → Shared → Prop} (h : Gives C A γ s t d m')
    (k : ∀ v γ₁ s₁, MInv C γ₁ m' s₁ → Step NoW γ s γ₁ s₁ → Rel C γ₁ d v → Q v s₁) : wpAny (model C.prog C.w) A t Q E s :=
  wpAny_mono h (fun v s₁ ⟨γ₁, I, S, R⟩ => k v γ₁ s₁ I S R) fun _ _ x => x.elim
theorem GivesB.thenW {t : Sem Bool} {b : Bool} {Q : Bool → Shared → Prop} {E : Value → Shared → Prop} (h : GivesB C A γ s t b m')
    (k : ∀ γ₁ s₁, MInv C γ₁ m' s₁ → Step NoW γ s γ₁ s₁ → Q b s₁) : wpAny (model C.prog C.w) A t Q E s :=
  wpAny_mono h (fun _ s₁ ⟨e, γ₁, I, S⟩ => e ▸ k γ₁ s₁ I S) fun _ _ x => x.elim
theorem GivesL.thenW {t : Sem (List Value)} {ds : List D} {Q : List Value → Shared → Prop} {E : Value → Shared → Prop} (h : GivesL C A γ s t ds m')
    (k : ∀ vs γ₁ s₁, MInv C γ₁ m' s₁ → Step NoW γ s γ₁ s₁ → Rels C γ₁ ds vs → Q vs s₁) : wpAny (model C.prog C.w) A t Q E s :=
  wpAny_mono h (fun v s₁ ⟨γ₁, I, S, R⟩ => k v γ₁ s₁ I S R) fun _ _ x => x.elim
/-- what was reached from an earlier state -/
theorem Gives.from {t : Sem Value} (S : Step NoW γ s γ' s') (h : Gives C A γ' s' t d m') : wpAny (model C.prog C.w) A t (fun v s'' => ∃ γ'', MInv C γ'' m' s'' ∧ Step NoW γ s γ'' s'' ∧ Rel C γ'' d v) (fun _ _ => False) s' :=
  h.thenW fun _ γ₁ _ I S' R => ⟨γ₁, I, S.trans S', R⟩
theorem GivesB.from {t : Sem Bool} {b : Bool} (S : Step NoW γ s γ' s') (h : GivesB C A γ' s' t b m') : wpAny (model C.prog C.w) A t (fun v s'' => v = b ∧ ∃ γ'', MInv C γ'' m' s'' ∧ Step NoW γ s γ'' s'') (fun _ _ => False) s' :=
  h.thenW fun γ₁ _ I S' => ⟨rfl, γ₁, I, S.trans S'⟩
end logic
end Mine

set_option maxRecDepth 10000
namespace Mine
open PySem PySem.W
/-! what a relation says of a value, what it takes for an operation to answer: a rule each -/
section rel
variable {C : Ctx} {γ : Gh} {v : Value} {P : Value → Prop}
theorem mk_none : Rel C γ .none .none := rfl
theorem mk_bool {b : Bool} : Rel C γ (.bool b) (.bool b) := rfl
theorem mk_int {i : Int} {t : Tok} : Rel C γ (.int i) (.int i t) := ⟨t, rfl⟩
theorem mk_str {x : Str} {t : Tok} (ok : PyData.strOk x = true) : Rel C γ (.str x) (.str x t) := ⟨ok, t, rfl⟩
@[elab_as_elim] theorem rel_none (r : Rel C γ .none v) (k : P .none) : P v := (show v = .none from r) ▸ k
@[elab_as_elim] theorem rel_bool {b : Bool} (r : Rel C γ (.bool b) v) (k : P (.bool b)) : P v := (show v = .bool b from r) ▸ k
@[elab_as_elim] theorem rel_int {i : Int} (r : Rel C γ (.int i) v) (k : ∀ t, P (.int i t)) : P v := by
  obtain ⟨t, e⟩ := r; exact e ▸ k t
@[elab_as_elim] theorem rel_str {x : Str} (r : Rel C γ (.str x) v) (k : ∀ t, PyData.strOk x = true → P (.str x t)) : P v := by
  obtain ⟨ok, t, e⟩ := r; exact e ▸ k t ok
@[elab_as_elim] theorem rel_tup {ds : List D} (r : Rel C γ (.tup ds) v) (k : ∀ c vs n, γ.G c = some (tupO vs n) → ds.length ≤ big → Rels C γ ds vs → P (.ref c)) : P v := by
  obtain ⟨c, vs, n, e, g, l, rs⟩ := r; exact e ▸ k c vs n g l rs
@[elab_as_elim] theorem rel_lst {ds : List D} (r : Rel C γ (.lst ds) v) (k : ∀ c vs n, γ.G c = some (lstO vs n) → ds.length ≤ big → Rels C γ ds vs → P (.ref c)) : P v := by
  obtain ⟨c, vs, n, e, g, l, rs⟩ := r; exact e ▸ k c vs n g l rs
@[elab_as_elim] theorem rel_dic {ks vs : List D} (r : Rel C γ (.dic ks vs) v) (k : ∀ c o, γ.G c = some o → c ≠ sysModules → DicIs C γ o ks vs → P (.ref c)) : P v := by
  obtain ⟨c, o, e, g, ne, hd⟩ := Rel.dic_iff.mp r; exact e ▸ k c o g ne hd
@[elab_as_elim] theorem rel_rng {a b c : Int} (r : Rel C γ (.rng a b c) v) (k : ∀ x t u w, γ.G x = some (rngO a b c t u w) → a.natAbs ≤ big → b.natAbs ≤ big → (c = 1 ∨ c = -1) → P (.ref x)) : P v := by
  obtain ⟨x, t, u, w, e, g, h1, h2, h3⟩ := r; exact e ▸ k x t u w g h1 h2 h3
@[elab_as_elim] theorem rel_cell {j : Nat} (r : Rel C γ (.cell j) v) (k : ∀ c, γ.κ[j]? = some c → P (.ref c)) : P v := by
  obtain ⟨c, h, e⟩ := r; exact e ▸ k c h
theorem cell_lst {m : Mem} {s : Shared} {j : Nat} {c : Addr} {ds : List D} {P : Prop} (I : MInv C γ m s) (hc : γ.κ[j]? = some c) (hm : m[j]? = some (some (.lst ds))) (k : ∀ vs n, s.heap.get? c = some (lstO vs n) → ds.length ≤ big → Rels C γ ds vs → P) : P := by
  obtain ⟨c', e1, _, vs, n, ho, hl, rs⟩ := I.mem _ _ hm
  exact k vs n (Option.some.inj (hc.symm.trans e1) ▸ ho) hl rs
theorem cell_dic {m : Mem} {s : Shared} {j : Nat} {c : Addr} {ks ws : List D} {P : Prop} (I : MInv C γ m s) (hc : γ.κ[j]? = some c) (hm : m[j]? = some (some (.dic ks ws))) (k : ∀ o, s.heap.get? c = some o → c ≠ sysModules → DicIs C γ o ks ws → P) : P := by
  obtain ⟨c', e1, _, o, ho, ne, hd⟩ := I.mem _ _ hm
  cases Option.some.inj (hc.symm.trans e1)
  exact k o ho ne hd
end rel
section sel
variable {α : Type} {r : α} {P : D → Prop} {d : D}
noncomputable def selI (d : D) (f : Int → Option α) : Option α := match d with | .int i => f i | _ => none
noncomputable def selS (d : D) (f : Str → Option α) : Option α := match d with | .str i => f i | _ => none
noncomputable def selL (d : D) (f : List D → Option α) : Option α := match d with | .lst i => f i | _ => none
noncomputable def selT (d : D) (f : List D → Option α) : Option α := match d with | .tup i => f i | _ => none
noncomputable def selC (d : D) (f : Nat → Option α) : Option α := match d with | .cell i => f i | _ => none
noncomputable def selM (o : Option (Option Cell)) (f : List D → Option α) : Option α := match o with | some (some (.lst ds)) => f ds | _ => none
noncomputable def selK (o : Option (Option Cell)) (f : List D → Option α) (g : List D → List D → Option α) : Option α := match o with | some (some (.lst ds)) => f ds | some (some (.dic ks vs)) => g ks vs | _ => none
theorem selI_k {f : Int → Option α} (h : selI d f = some r) (k : ∀ i, f i = some r → P (.int i)) : P d := by
  cases d with | int i => exact k i h | _ => exact no_some h
theorem selS_k {f : Str → Option α} (h : selS d f = some r) (k : ∀ i, f i = some r → P (.str i)) : P d := by
  cases d with | str i => exact k i h | _ => exact no_some h
theorem selL_k {f : List D → Option α} (h : selL d f = some r) (k : ∀ i, f i = some r → P (.lst i)) : P d := by
  cases d with | lst i => exact k i h | _ => exact no_some h
theorem selT_k {f : List D → Option α} (h : selT d f = some r) (k : ∀ i, f i = some r → P (.tup i)) : P d := by
  cases d with | tup i => exact k i h | _ => exact no_some h
theorem selC_k {f : Nat → Option α} (h : selC d f = some r) (k : ∀ i, f i = some r → P (.cell i)) : P d := by
  cases d with | cell i => exact k i h | _ => exact no_some h
theorem selM_k {P : Prop} {o : Option (Option Cell)} {f : List D → Option α} (h : selM o f = some r) (k : ∀ ds, o = some (some (.lst ds)) → f ds = some r → P) : P := by
  rcases o with _ | _ | ds | ⟨ks, vs⟩
  · exact no_some h
  · exact no_some h
  · exact k ds rfl h
  · exact no_some h
theorem selK_k {P : Prop} {o : Option (Option Cell)} {f : List D → Option α} {g : List D → List D → Option α} (h : selK o f g = some r) (k : ∀ ds, o = some (some (.lst ds)) → f ds = some r → P) (k' : ∀ ks vs, o = some (some (.dic ks vs)) → g ks vs = some r → P) : P := by
  rcases o with _ | _ | ds | ⟨ks, vs⟩
  · exact no_some h
  · exact no_some h
  · exact k ds rfl h
  · exact k' ks vs rfl h
theorem ks {P : α → Prop} {a b : α} (h : some a = some b) (k : P a) : P b := Option.some.inj h ▸ k
theorem kmap {β : Type} {P : β → Prop} {o : Option α} {f : α → β} {b : β} (h : o.map f = some b) (k : ∀ a, o = some a → P (f a)) : P b := by
  cases o with
  | none => exact no_some h
  | some a => exact ks h (k a rfl)
end sel
theorem oe1 (i : Int) (b : D) : binD .add (.int i) b = selI b (fun j => some (.int (i + j))) := by cases b <;> rfl
theorem oe2 (x : Str) (b : D) : binD .add (.str x) b = selS b (fun y => if x.length + y.length ≤ big then some (.str (x ++ y)) else none) := by cases b <;> rfl
theorem oe3 (x : List D) (b : D) : binD .add (.lst x) b = selL b (fun y => if x.length + y.length ≤ big then some (.lst (x ++ y)) else none) := by cases b <;> rfl
theorem oe4 (x : List D) (b : D) : binD .add (.tup x) b = selT b (fun y => if x.length + y.length ≤ big ∧ 0 < x.length ∧ 0 < y.length then some (.tup (x ++ y)) else none) := by cases b <;> rfl
theorem oe5 (m : Mem) (ds : List D) (b : D) : idxD m (.lst ds) b = selI b (at? ds) := by cases b <;> rfl
theorem oe6 (m : Mem) (ds : List D) (b : D) : idxD m (.tup ds) b = selI b (at? ds) := by cases b <;> rfl
theorem oe7 (m : Mem) (j : Nat) (b : D) : idxD m (.cell j) b = selI b (fun i => selM m[j]? fun ds => at? ds i) := by cases b <;> rfl
theorem oe8 (m : Mem) (x : Str) (b : D) : idxD m (.str x) b = selI b (charAt x) := by cases b <;> rfl
theorem oe9 (f : Int → Int → Bool) (a : D) (b : D) : cmpI f a b = selI a (fun i => selI b fun j => some (f i j)) := by cases a <;> first | rfl | (cases b <;> rfl)
theorem oe10 (a b : D) : binD .sub a b = selI a fun i => selI b ((fun i j => some (.int (i - j))) i) := by cases a <;> first | rfl | (cases b <;> rfl)
theorem oe11 (a b : D) : binD .mul a b = selI a fun i => selI b ((fun i j => if i.natAbs ≤ big ∧ j.natAbs ≤ big then some (.int (i * j)) else none) i) := by cases a <;> first | rfl | (cases b <;> rfl)
theorem oe12 (a b : D) : binD .pow a b = selI a fun i => selI b ((fun i j => if 0 ≤ i ∧ i ≤ 3 ∧ 0 ≤ j ∧ j ≤ 1000 then some (.int (i ^ j.toNat)) else none) i) := by cases a <;> first | rfl | (cases b <;> rfl)
theorem oe13 (a b : D) : binD .mod a b = selI a fun i => selI b ((fun i j : Int => if 0 < j ∧ j ≤ big then some (.int (i % j)) else none) i) := by cases a <;> first | rfl | (cases b <;> rfl)
theorem oeD (m : Mem) (ks vs : List D) (b : D) : idxD m (.dic ks vs) b = if sameKind ks b = true then findK b ks vs else none := by cases b <;> rfl
theorem oeE (m : Mem) (j : Nat) (a : D) : extD m (.cell j) a = selL a fun es => selM m[j]? fun ds => if ds.length + es.length ≤ big ∧ D.pures es = true then some (m.set j (some (.lst (ds ++ es)))) else none := by cases a <;> rfl
section ops
variable {m m' : Mem} {a b d r : D} {n : Nat}
theorem bin_k {P : Bop → D → D → D → Prop} {o : Bop} (h : binD o a b = some r) (ai : ∀ i j, P .add (.int i) (.int j) (.int (i + j))) (as : ∀ x y, x.length + y.length ≤ big → P .add (.str x) (.str y) (.str (x ++ y)))
    (al : ∀ x y, x.length + y.length ≤ big → P .add (.lst x) (.lst y) (.lst (x ++ y))) (at' : ∀ x y, x.length + y.length ≤ big → 0 < x.length → 0 < y.length → P .add (.tup x) (.tup y) (.tup (x ++ y)))
    (si : ∀ i j, P .sub (.int i) (.int j) (.int (i - j))) (mi : ∀ i j, i.natAbs ≤ big → j.natAbs ≤ big → P .mul (.int i) (.int j) (.int (i * j))) (pi : ∀ i j, 0 ≤ i → i ≤ 3 → 0 ≤ j → j ≤ 1000 → P .pow (.int i) (.int j) (.int (i ^ j.toNat)))
    (di : ∀ i j : Int, 0 < j → j ≤ big → P .mod (.int i) (.int j) (.int (i % j))) : P o a b r := by
  cases o with
  | add =>
    cases a with
    | int i => exact selI_k (P := fun b => P .add (.int i) b r) (f := fun j => some (.int (i + j))) ((oe1 ..).symm.trans h) fun j h => ks h (ai i j)
    | str x => exact selS_k (P := fun b => P .add (.str x) b r) (f := fun y => if x.length + y.length ≤ big then some (.str (x ++ y)) else none) ((oe2 ..).symm.trans h) fun y h => kif h fun q h => ks h (as x y q)
    | lst x => exact selL_k (P := fun b => P .add (.lst x) b r) (f := fun y => if x.length + y.length ≤ big then some (.lst (x ++ y)) else none) ((oe3 ..).symm.trans h) fun y h => kif h fun q h => ks h (al x y q)
    | tup x => exact selT_k (P := fun b => P .add (.tup x) b r) (f := fun y => if x.length + y.length ≤ big ∧ 0 < x.length ∧ 0 < y.length then some (.tup (x ++ y)) else none) ((oe4 ..).symm.trans h) fun y h => kif h fun q h => ks h (at' x y q.1 q.2.1 q.2.2)
    | _ => exact no_some h
  | sub => exact selI_k (P := fun a => P .sub a b r) ((oe10 ..).symm.trans h) fun i h => selI_k (P := fun b => P .sub (.int i) b r) h fun j h => ks h (si i j)
  | mul => exact selI_k (P := fun a => P .mul a b r) ((oe11 ..).symm.trans h) fun i h => selI_k (P := fun b => P .mul (.int i) b r) h fun j h => kif h fun q h => ks h (mi i j q.1 q.2)
  | pow => exact selI_k (P := fun a => P .pow a b r) ((oe12 ..).symm.trans h) fun i h => selI_k (P := fun b => P .pow (.int i) b r) h fun j h => kif h fun q h => ks h (pi i j q.1 q.2.1 q.2.2.1 q.2.2.2)
  | mod => exact selI_k (P := fun a => P .mod a b r) ((oe13 ..).symm.trans h) fun i h => selI_k (P := fun b => P .mod (.int i) b r) h fun j h => kif h fun q h => ks h (di i j q.1 q.2)

theorem idx_k {P : D → D → D → Prop} (h : idxD m d b = some r) (kl : ∀ ds i, at? ds i = some r → P (.lst ds) (.int i) r) (kt : ∀ ds i, at? ds i = some r → P (.tup ds) (.int i) r) (kc : ∀ j ds i, m[j]? = some (some (.lst ds)) → at? ds i = some r → P (.cell j) (.int i) r)
    (kd : ∀ ks vs, sameKind ks b = true → findK b ks vs = some r → P (.dic ks vs) b r) (kx : ∀ x i c, 0 ≤ i → i ≤ 1000 → x.cps[i.toNat]? = some c → P (.str x) (.int i) (.str ⟨#[c]⟩)) : P d b r := by
  cases d with
  | lst ds => exact selI_k (P := fun b => P (.lst ds) b r) (f := at? ds) ((oe5 ..).symm.trans h) fun i h => kl ds i h
  | tup ds => exact selI_k (P := fun b => P (.tup ds) b r) (f := at? ds) ((oe6 ..).symm.trans h) fun i h => kt ds i h
  | cell j => exact selI_k (P := fun b => P (.cell j) b r) (f := fun i => selM m[j]? fun ds => at? ds i) ((oe7 ..).symm.trans h) fun i h => selM_k h fun ds e h => kc j ds i e h
  | dic ks vs => exact kif (c := sameKind ks b = true) ((oeD ..).symm.trans h) fun q h => kd ks vs q h
  | str x => exact selI_k (P := fun b => P (.str x) b r) (f := charAt x) ((oe8 ..).symm.trans h) fun i h => kif (c := 0 ≤ i ∧ i ≤ 1000) h fun q h => kmap h fun c e => kx x i c q.1 q.2 e
  | _ => exact no_some h

theorem sub_k {P : D → D → Prop} (h : subD d n = some r) (kl : ∀ ds, P (.lst ds) (.lst (ds.take n))) (kt : ∀ ds, P (.tup ds) (.tup (ds.take n))) (kx : ∀ x, n ≤ x.length → n ≤ 1000 → P (.str x) (.str ⟨(x.cps.toList.take n).toArray⟩)) : P d r := by
  cases d with
  | lst ds => exact ks h (kl ds)
  | tup ds => exact ks h (kt ds)
  | str x => exact kif (c := n ≤ x.length ∧ n ≤ 1000) h fun q h => ks h (kx x q.1 q.2)
  | _ => exact no_some h

theorem frz_k {P : D → Mem → Prop} (h : freezeD m d = some (r, m')) (kl : ∀ j ds, d = .cell j → m[j]? = some (some (.lst ds)) → P (.lst ds) (m.set j none)) (kd : ∀ j ks vs, d = .cell j → m[j]? = some (some (.dic ks vs)) → P (.dic ks vs) (m.set j none)) : P r m' := by
  cases d with
  | cell j => exact selK_k (o := m[j]?) (f := fun ds => some (D.lst ds, m.set j none)) (g := fun ks vs => some (D.dic ks vs, m.set j none)) h (fun ds e h => kp h (kl j ds rfl e)) (fun ks vs e h => kp h (kd j ks vs rfl e))
  | _ => exact no_some h

theorem len_k {P : D → D → Prop} (h : lenD m d = some r) (kl : ∀ ds, P (.lst ds) (.int ds.length)) (kt : ∀ ds, P (.tup ds) (.int ds.length)) (kx : ∀ x, x.length ≤ 1000 → P (.str x) (.int x.length)) (kc : ∀ j ds, m[j]? = some (some (.lst ds)) → P (.cell j) (.int ds.length)) : P d r := by
  cases d with
  | lst ds => exact ks h (kl ds)
  | tup ds => exact ks h (kt ds)
  | str x => exact kif (c := x.length ≤ 1000) h fun q h => ks h (kx x q)
  | cell j => exact selM_k (o := m[j]?) (f := fun ds => some (D.int ds.length)) h fun ds e h => ks h (kc j ds e)
  | _ => exact no_some h
theorem sorted_k {P : D → D → Prop} (h : sortedD d = some r) (kl : ∀ ds is, ds.length < 64 → nums ds = some is → P (.lst ds) (.lst ((sortI is).map .int))) (kd : ∀ ks vs is, ks.length < 64 → nums ks = some is → P (.dic ks vs) (.lst ((sortI is).map .int))) : P d r := by
  cases d with
  | lst ds => exact kif (c := ds.length < 64) h fun q h => kmap h fun is e => kl ds is q e
  | dic ks vs => exact kif (c := ks.length < 64) h fun q h => kmap h fun is e => kd ks vs is q e
  | _ => exact no_some h
theorem bistr_k {P : D → D → Prop} (h : biD m .str d = some r) (k : ∀ i, i.natAbs ≤ big → P (.int i) (.str (PyData.shown (.int i)))) : P d r := by
  cases d with
  | int i => exact kif (c := i.natAbs ≤ big) h fun q h => ks h (k i q)
  | _ => exact no_some h
theorem bilist_k {P : D → D → Prop} (h : biD m .list d = some r) (kl : ∀ ds, P (.lst ds) (.lst ds)) (kt : ∀ ds, P (.tup ds) (.lst ds)) (kr : ∀ a b c ds, rngItems a b c = some ds → ds.length ≤ big → P (.rng a b c) (.lst ds)) : P d r := by
  cases d with
  | lst ds => exact ks h (kl ds)
  | tup ds => exact ks h (kt ds)
  | rng a b c =>
    replace h : (match rngItems a b c with | some ds => (if ds.length ≤ big then some (.lst ds) else none) | none => none) = some r := h
    exact k2L h fun ds e h => kif h fun q h => ks h (kr a b c ds e q)
  | _ => exact no_some h
theorem bitup_k {P : D → D → Prop} (h : biD m .tuple d = some r) (kl : ∀ ds, P (.lst ds) (.tup ds)) : P d r := by
  cases d with
  | lst ds => exact ks h (kl ds)
  | _ => exact no_some h
theorem birng_k {P : D → D → Prop} (h : biD m .range1 d = some r) (k : ∀ i, i.natAbs ≤ big → P (.int i) (.rng 0 i 1)) : P d r := by
  cases d with
  | int i => exact kif (c := i.natAbs ≤ big) h fun q h => ks h (k i q)
  | _ => exact no_some h
theorem get_k {P : D → D → Prop} (h : getD d a b = some r) (k : ∀ ks vs, sameKind ks a = true → P (.dic ks vs) ((findK a ks vs).getD b)) : P d r := by
  cases d with
  | dic ks' vs => exact kif (c := sameKind ks' a = true) h fun q h => ks h (k ks' vs q)
  | _ => exact no_some h
theorem pop_k {P : D → D → Mem → Prop} (h : popD m d = some (r, m')) (k : ∀ j ds x, m[j]? = some (some (.lst ds)) → ds.getLast? = some x → P (.cell j) x (m.set j (some (.lst ds.dropLast)))) : P d r m' := by
  cases d with
  | cell j => exact selM_k (o := m[j]?) (f := fun ds => match ds.getLast? with | some x => some (x, m.set j (some (.lst ds.dropLast))) | none => none) h fun ds e h => k2D h fun x e' h => kp h (k j ds x e e')
  | _ => exact no_some h
theorem lstCell_k {P : D → Prop} (h : lstCell m d = true) (k : ∀ j ds, m[j]? = some (some (.lst ds)) → P (.cell j)) : P d := by
  cases d with
  | cell j =>
    replace h : (match m[j]? with | some (some (.lst _)) => true | _ => false) = true := h
    cases e : m[j]? with
    | none => rw [e] at h; exact Bool.noConfusion h
    | some o => cases o with
      | none => rw [e] at h; exact Bool.noConfusion h
      | some c => cases c with
        | lst ds => exact k j ds e
        | dic _ _ => rw [e] at h; exact Bool.noConfusion h
  | _ => exact Bool.noConfusion h
theorem app_k {P : D → Mem → Prop} (h : appD m d a = some m') (k : ∀ j ds, m[j]? = some (some (.lst ds)) → ds.length < big → a.pure = true → P (.cell j) (m.set j (some (.lst (ds ++ [a]))))) : P d m' := by
  cases d with
  | cell j => exact selM_k (o := m[j]?) (f := fun ds => if ds.length < big ∧ a.pure = true then some (m.set j (some (.lst (ds ++ [a])))) else none) h fun ds e h => kif h fun q h => ks h (k j ds e q.1 q.2)
  | _ => exact no_some h
theorem ext_k {P : D → D → Mem → Prop} (h : extD m d a = some m') (k : ∀ j ds es, m[j]? = some (some (.lst ds)) → ds.length + es.length ≤ big → D.pures es = true → P (.cell j) (.lst es) (m.set j (some (.lst (ds ++ es))))) : P d a m' := by
  cases d with
  | cell j => exact selL_k (P := fun a => P (.cell j) a m') ((oeE m j a).symm.trans h) fun es h => selM_k h fun ds e h => kif h fun q h => ks h (k j ds es e q.1 q.2)
  | _ => exact no_some h
theorem set_k {P : D → D → Mem → Prop} (h : setD m d a b = some m') (kl : ∀ j ds i, m[j]? = some (some (.lst ds)) → 0 ≤ i → i.toNat < ds.length → b.pure = true → P (.cell j) (.int i) (m.set j (some (.lst (ds.set i.toNat b)))))
    (kd : ∀ j ks vs, m[j]? = some (some (.dic ks vs)) → sameKind ks a = true → ks.length < big → b.pure = true → P (.cell j) a (m.set j (some (.dic (putK a b ks vs).1 (putK a b ks vs).2)))) : P d a m' := by
  cases d with
  | cell j => exact selK_k (o := m[j]?) (f := fun ds => selI a fun i => if 0 ≤ i ∧ i.toNat < ds.length ∧ b.pure = true then some (m.set j (some (.lst (ds.set i.toNat b)))) else none) (g := fun ks vs => if sameKind ks a = true ∧ ks.length < big ∧ b.pure = true then some (m.set j (some (.dic (putK a b ks vs).1 (putK a b ks vs).2))) else none) (h) (fun ds e h => selI_k (P := fun a => P (.cell j) a m') h fun i h => kif h fun q h => ks h (kl j ds i e q.1 q.2.1 q.2.2)) (fun ks' vs e h => kif h fun q h => ks h (kd j ks' vs e q.1 q.2.1 q.2.2))
  | _ => exact no_some h
theorem inC_k {P : D → Prop} {q : Bool} (h : inC m a d = some q) (kl : ∀ ds, inD a ds = some q → P (.lst ds)) (kt : ∀ ds, inD a ds = some q → P (.tup ds)) (kc : ∀ j ds, m[j]? = some (some (.lst ds)) → inD a ds = some q → P (.cell j))
    (kd : ∀ ks vs, sameKind ks a = true → hasK a ks = q → P (.dic ks vs)) (ke : ∀ j ks vs, m[j]? = some (some (.dic ks vs)) → sameKind ks a = true → hasK a ks = q → P (.cell j)) : P d := by
  cases d with
  | lst ds => exact kl ds h
  | tup ds => exact kt ds h
  | dic ks vs => exact kif (c := sameKind ks a = true) h fun p h => kd ks vs p (Option.some.inj h)
  | cell j => exact selK_k (o := m[j]?) (f := inD a) (g := fun ks _ => if sameKind ks a = true then some (hasK a ks) else none) h (fun ds e h => kc j ds e h) (fun ks vs e h => kif h fun p h => ke j ks vs e p (Option.some.inj h))
  | _ => exact no_some h
theorem cmpI_k {P : D → D → Bool → Prop} {f : Int → Int → Bool} {q : Bool} (h : cmpI f a b = some q) (k : ∀ i j, P (.int i) (.int j) (f i j)) : P a b q :=
  selI_k (P := fun a => P a b q) (f := fun i => selI b fun j => some (f i j)) ((oe9 ..).symm.trans h) fun i h => selI_k (P := fun b => P (.int i) b q) h fun j h => ks h (k i j)
theorem isN_k {P : D → Prop} {q : Bool} {f : Option Bool} (h : (match d with | .none => f | _ => none) = some q) (k : f = some q → P .none) : P d := by
  cases d with
  | none => exact k h
  | _ => exact no_some h
theorem eqD_k {P : Bool → Prop} {q : Bool} (h : eqD a b = some q) (k : ∀ x y, a.py = some x → b.py = some y → shallow x = true → shallow y = true → P (x.eqv y)) : P q := by
  unfold eqD at h
  cases e : a.py with
  | none => rw [e] at h; exact no_some h
  | some x => cases e' : b.py with
    | none => rw [e, e'] at h; exact no_some h
    | some y => rw [e, e'] at h; exact kif (c := shallow x = true ∧ shallow y = true) h fun p h => ks h (k x y e e' p.1 p.2)
theorem inD_k {P : Bool → Prop} {q : Bool} {ds : List D} (h : inD a ds = some q) (k : ∀ x ys, a.py = some x → D.pys ds = some ys → shallow x = true → ys.all shallow = true → P (ys.any fun q => q.eqv x)) : P q := by
  unfold inD at h
  cases e : a.py with
  | none => rw [e] at h; exact no_some h
  | some x => cases e' : D.pys ds with
    | none => rw [e, e'] at h; exact no_some h
    | some y => rw [e, e'] at h; exact kif (c := shallow x = true ∧ y.all shallow = true) h fun p h => ks h (k x y e e' p.1 p.2)
theorem repr_k {P : D → Prop} (h : reprD d = some r) (k : ∀ x, d.py = some x → ub x ≤ big → shallow x = true → P (.str x.shown)) : P r := by
  unfold reprD at h
  cases e : d.py with
  | none => rw [e] at h; exact no_some h
  | some x => rw [e] at h; exact kif (c := ub x ≤ big ∧ shallow x = true) h fun p h => ks h (k x e p.1 p.2)
theorem truth_k {P : D → Bool → Prop} {q : Bool} (h : truth d = some q) (kb : ∀ b, P (.bool b) b) (kn : P .none false) : P d q := by
  cases d with
  | bool b => exact ks h (kb b)
  | none => exact ks h kn
  | _ => exact no_some h
theorem at_k {P : Prop} {ds : List D} {i : Int} (h : at? ds i = some r) (k : 0 ≤ i → ds[i.toNat]? = some r → P) : P := kif (c := 0 ≤ i) h fun q h => k q h
end ops
end Mine

set_option maxRecDepth 10000
namespace Mine
open PySem PySem.W PySem.SeqAt

variable {C : Ctx} {γ γ' : Gh} {s s' : Shared} {m m' : Mem} {A : Around} {k : Nat}

/-- room for k calls more -/
noncomputable def Room (A : Around) (k : Nat) : Prop := A.handled = none ∧ A.depth + k ≤ 900 ∧ A.units + 10 * k ≤ 9000 ∧ A.guards = some []
theorem Room.le {j : Nat} (R : Room A k) (h : j ≤ k) : Room A j := by
  obtain ⟨a, b, c, d⟩ := R
  exact ⟨a, by lia, by lia, d⟩
theorem Room.units (R : Room A k) : A.units + 100 < cLine := by
  have := R.2.2.1
  show _ < 9900
  lia
theorem Room.deeper (R : Room A (k + 1)) (env : Env) : Room (A.deeper env) k := by
  obtain ⟨a, b, c, d⟩ := R
  refine ⟨a, ?_, ?_, d⟩
  · show A.depth + 1 + k ≤ 900; lia
  · show A.units + 3 + 10 * k ≤ 9000; lia
theorem Room.in1 (R : Room A (k + 1)) : Room A.in1 k := by
  obtain ⟨a, b, c, d⟩ := R
  refine ⟨a, ?_, ?_, d⟩
  · show A.depth + k ≤ 900; lia
  · show A.units + 1 + 10 * k ≤ 9000; lia

noncomputable def Cop.op : Cop → CmpOp
  | .eq => .Eq | .ne => .NotEq | .lt => .Lt | .le => .LtE | .gt => .Gt | .ge => .GtE | .is => .Is | .isNot => .IsNot | .isIn => .In | .notIn => .NotIn

theorem Gives.of_still {t : Sem Value} {d : D} (I : MInv C γ m s) (h : ∀ Q : Value → Shared → Prop, (∀ v tk, Rel C γ d v → Q v { s with toks := tk }) → wpAny (model C.prog C.w) A t Q noE s) : Gives C A γ s t d m := by
  refine h _ fun v tk r => ?_
  obtain ⟨J, S⟩ := I.grow (t := tk) (fun _ _ e => e)
  exact ⟨γ, J, S, r⟩

theorem not_beq_sys {a : Addr} (h : a ≠ sysModules) : (a == sysModules) = false := by simpa using h

theorem depthAll_le {xs : List PyData} (h : xs.all shallow = true) : PyData.depthAll xs ≤ 40 := by
  induction xs with
  | nil => simp [PyData.depthAll]
  | cons x xs ih =>
    simp only [List.all_cons, Bool.and_eq_true] at h
    have h1 : x.depth ≤ 40 := of_decide_eq_true h.1
    have h2 := ih h.2
    simp only [PyData.depthAll]
    lia

section cmp
variable {a b : D} {v w : Value}

theorem Room.small {n : Nat} (R : Room A k) (h : n ≤ 41) : A.units + n < cLine := Nat.lt_of_le_of_lt (Nat.add_le_add_left (Nat.le_trans h (by decide)) _) R.units
theorem eq_ok (R : Room A k) (I : MInv C γ m s) (ra : Rel C γ a v) (rb : Rel C γ b w) {r : Bool} (e : eqD a b = some r) :
    Gives C A γ s (compareOp .Eq v w) (.bool r) m ∧ Gives C A γ s (compareOp .NotEq v w) (.bool (!r)) m := by
  refine eqD_k (P := fun r => Gives C A γ s (compareOp .Eq v w) (.bool r) m ∧ Gives C A γ s (compareOp .NotEq v w) (.bool (!r)) m) e fun x y ex ey h1 h2 => ?_
  obtain ⟨⟨as, Rx⟩, kx⟩ := ra.reads I.frozen ex
  obtain ⟨⟨bs, Ry⟩, ky⟩ := rb.reads I.frozen ey
  have hu := R.small (Nat.le_trans (Nat.min_le_left x.depth y.depth) (Nat.le_trans (of_decide_eq_true h1) (by decide)))
  exact ⟨.of_still I fun Q q => compareEq_reads Rx Ry kx ky hu (q _ s.toks mk_bool), .of_still I fun Q q => compareNe_reads Rx Ry kx ky hu (q _ s.toks mk_bool)⟩

theorem inD_ok (R : Room A k) (I : MInv C γ m s) (ra : Rel C γ a v) {ds : List D} {vs : List Value} {c : Addr} (rs : Rels C γ ds vs) {r : Bool} (e : inD a ds = some r)
    (hc : (∃ n, s.heap.get? c = some (lstO vs n)) ∨ (∃ n, s.heap.get? c = some (tupO vs n))) :
    Gives C A γ s (compareOp .In v (.ref c)) (.bool r) m ∧ Gives C A γ s (compareOp .NotIn v (.ref c)) (.bool (!r)) m := by
  refine inD_k (P := fun r => Gives C A γ s (compareOp .In v (.ref c)) (.bool r) m ∧ Gives C A γ s (compareOp .NotIn v (.ref c)) (.bool (!r)) m) e fun p ps ep eps h1 h2 => ?_
  obtain ⟨⟨as, Rx⟩, kx⟩ := ra.reads I.frozen ep
  obtain ⟨⟨bs, Ry⟩, ky⟩ := rs.reads I.frozen eps
  have hu : A.units + 1 + min (PyData.depthAll ps) p.depth < cLine := (Nat.add_assoc A.units 1 _).symm ▸ R.small (Nat.add_comm 1 _ ▸ Nat.succ_le_succ (Nat.le_trans (Nat.min_le_right (PyData.depthAll ps) p.depth) (of_decide_eq_true h1)))
  have toA : ReadsAll s.heap vs.toArray.toList ps bs := Ry
  rcases hc with ⟨n, hc⟩ | ⟨n, hc⟩
  · have RL : Reads s.heap (.ref c) (.list ps) (c :: bs) := .list hc rfl rfl toA
    exact ⟨.of_still I fun Q q => in_list_reads RL Rx ky kx hu (q _ s.toks mk_bool), .of_still I fun Q q => notIn_list_reads RL Rx ky kx hu (q _ s.toks mk_bool)⟩
  · have RL : Reads s.heap (.ref c) (.tuple ps) bs := .tuple hc rfl rfl toA
    exact ⟨.of_still I fun Q q => in_tuple_reads RL Rx ky kx hu (q _ s.toks mk_bool), .of_still I fun Q q => notIn_tuple_reads RL Rx ky kx hu (q _ s.toks mk_bool)⟩

theorem valueAt_isSome_map {K : Type} [DecidableEq K] (kvs : List (K × Value)) (k : K) : (valueAt kvs k).isSome = kvs.any (fun p => decide (p.1 = k)) := by
  unfold valueAt
  rw [Option.isSome_map, Bool.eq_iff_iff]
  simp [List.any_eq_true, List.find?_isSome]

/-- a dict of ours opened at a key of its kind: and how to make it again -/
structure DicOpen (C : Ctx) (γ : Gh) (ob : Obj) (ks ws : List D) (i : D) (x : Value) (K : Type) [DecidableEq K] (knd : KeyKind C.prog C.w K) (f : K → D) (kvs : List (K × Value)) (y : K) : Prop where
  eqv : ∀ z, keyEq (f z) (f y) = decide (z = y)
  dict : ob.IsDictOf knd kvs
  is : knd.is y x = true
  key : i = f y
  keys : ks = kvs.map (fun p => f p.1)
  vals : Rels C γ ws (kvs.map (·.2))
  again : ∀ (kvs' : List (K × Value)) (ks' ws' : List D) (ob' : Obj), ob'.IsDictOf knd kvs' → kvs'.length ≤ big → ks' = kvs'.map (fun p => f p.1) → Rels C γ ws' (kvs'.map (·.2)) → (∀ p ∈ kvs', p.1 = y ∨ ∃ q ∈ kvs, q.1 = p.1) → DicIs C γ ob' ks' ws'
theorem isDict_nil {K K' : Type} [DecidableEq K] [DecidableEq K'] {ob : Obj} {knd : KeyKind C.prog C.w K} (knd' : KeyKind C.prog C.w K') (h : ob.IsDictOf knd []) : ob.IsDictOf knd' [] := by
  obtain ⟨es, ep, h1, h2, h3, h4, h5⟩ := h
  obtain ⟨l⟩ := es
  cases l with
  | nil => exact ⟨#[], ep, h1, h2, (fun _ he => nomatch (Array.mem_def.mp he)), .nil, List.nodup_nil⟩
  | cons _ _ => exact nomatch h4
theorem map_nil_of {α β : Type} {f : α → β} : ∀ {l : List α}, [] = l.map f → l = []
  | [], _ => rfl
  | _ :: _, h => nomatch h
theorem rels_nil_of {ws : List D} (h : Rels C γ ws []) : ws = [] := List.length_eq_zero_iff.mp h.length
theorem len_map {K : Type} {f : K → D} {kvs' : List (K × Value)} {ks' : List D} (b : kvs'.length ≤ big) (c : ks' = kvs'.map (fun p => f p.1)) : ks'.length ≤ big := by
  rw [c, List.length_map]; exact b
theorem open_int {ob : Obj} {ks ws : List D} {z : Int} {x : Value} {kvs : List (Int × Value)} (r1 : ob.IsDictOf (intKind C.prog C.w) kvs) (r2 : ks = kvs.map (fun p => D.int p.1)) (r3 : Rels C γ ws (kvs.map (·.2))) (ri : Rel C γ (.int z) x) :
    DicOpen C γ ob ks ws (.int z) x Int (intKind C.prog C.w) D.int kvs z :=
  ⟨fun _ => rfl, r1, rel_int ri fun _ => intKind_is .., rfl, r2, r3, fun _ _ _ _ a b c d _ => ⟨len_map b c, .inl ⟨_, a, c, d⟩⟩⟩
theorem open_str {ob : Obj} {ks ws : List D} {z : Str} {x : Value} {kvs : List (Str × Value)} (r1 : ob.IsDictOf (strKind C.prog C.w) kvs) (r2 : ks = kvs.map (fun p => D.str p.1)) (r3 : Rels C γ ws (kvs.map (·.2))) (r4 : ∀ p ∈ kvs, PyData.strOk p.1 = true) (ri : Rel C γ (.str z) x) :
    DicOpen C γ ob ks ws (.str z) x Str (strKind C.prog C.w) D.str kvs z :=
  ⟨fun _ => rfl, r1, rel_str ri fun _ _ => strKind_is .., rfl, r2, r3, fun _ _ _ _ a b c d e => ⟨len_map b c, .inr ⟨_, a, c, d, fun p hp => (e p hp).elim (fun h => h ▸ ri.1) fun ⟨q, hq, h⟩ => h ▸ r4 q hq⟩⟩⟩
theorem DicIs.open {ob : Obj} {ks ws : List D} {i : D} {x : Value} {P : Prop} (h : DicIs C γ ob ks ws) (hk : sameKind ks i = true) (ri : Rel C γ i x)
    (k : ∀ (K : Type) (_ : DecidableEq K) (knd : KeyKind C.prog C.w K) (f : K → D) (kvs : List (K × Value)) (y : K), DicOpen C γ ob ks ws i x K knd f kvs y → P) : P := by
  obtain ⟨l, h⟩ := h
  have hi : ∀ z, i = .int z → (∀ q ∈ ks, isInt q = true) → P := fun z e hq => by
    subst e
    rcases h with ⟨kvs, r1, r2, r3⟩ | ⟨kvs, r1, r2, r3, _⟩
    · exact k _ _ _ _ _ _ (open_int r1 r2 r3 ri)
    · cases kvs with
      | nil => exact k _ _ _ _ _ _ (open_int (isDict_nil _ r1) r2 r3 ri)
      | cons p r => exact Bool.noConfusion (hq (.str p.1) (r2 ▸ List.mem_cons_self))
  have hs : ∀ z, i = .str z → (∀ q ∈ ks, isStr q = true) → P := fun z e hq => by
    subst e
    rcases h with ⟨kvs, r1, r2, r3⟩ | ⟨kvs, r1, r2, r3, r4⟩
    · cases kvs with
      | nil => exact k _ _ _ _ _ _ (open_str (isDict_nil _ r1) r2 r3 (fun _ hp => nomatch hp) ri)
      | cons p r => exact Bool.noConfusion (hq (.int p.1) (r2 ▸ List.mem_cons_self))
    · exact k _ _ _ _ _ _ (open_str r1 r2 r3 r4 ri)
  rcases Bool.or_eq_true_iff.mp hk with hk | hk
  · rw [Bool.and_eq_true, List.all_eq_true] at hk
    clear hs ri k h
    cases i with
    | int z => exact hi z rfl hk.2
    | _ => exact Bool.noConfusion hk.1
  · rw [Bool.and_eq_true, List.all_eq_true] at hk
    clear hi ri k h
    cases i with
    | str z => exact hs z rfl hk.2
    | _ => exact Bool.noConfusion hk.1
section dic
variable {K : Type} [DecidableEq K] {knd : KeyKind C.prog C.w K} {f : K → D} {y : K}
theorem valueAt_hit {p : K × Value} {r : List (K × Value)} (h : p.1 = y) : valueAt (p :: r) y = some p.2 := by simp [valueAt, h]
theorem valueAt_miss {p : K × Value} {r : List (K × Value)} (h : ¬ p.1 = y) : valueAt (p :: r) y = valueAt r y := by simp [valueAt, h]
theorem find_val (hf : ∀ z, keyEq (f z) (f y) = decide (z = y)) : ∀ (kvs : List (K × Value)) (vs : List D), Rels C γ vs (kvs.map (·.2)) →
    (∀ d, findK (f y) (kvs.map fun p => f p.1) vs = some d → ∃ u, valueAt kvs y = some u ∧ Rel C γ d u) ∧ (findK (f y) (kvs.map fun p => f p.1) vs = none → valueAt kvs y = none)
  | [], [], _ => ⟨fun _ e => no_some e, fun _ => rfl⟩
  | [], _ :: _, rs => nomatch rs.length
  | p :: r, [], rs => nomatch rs.length
  | p :: r, v0 :: vs0, rs => by
    have rs' := Rels.cons_iff.mp rs
    have e0 : findK (f y) ((p :: r).map fun p => f p.1) (v0 :: vs0) = if decide (p.1 = y) = true then some v0 else findK (f y) (r.map fun p => f p.1) vs0 := by
      show (if keyEq (f p.1) (f y) = true then _ else _) = _
      rw [hf]
    rw [e0]
    by_cases hp : p.1 = y
    · rw [if_pos (decide_eq_true hp), valueAt_hit hp]
      exact ⟨fun d e => ⟨p.2, rfl, Option.some.inj e ▸ rs'.1⟩, fun e => nomatch e⟩
    · rw [if_neg (fun h => hp (of_decide_eq_true h)), valueAt_miss hp]
      exact find_val hf r vs0 rs'.2
end dic
theorem DicOpen.has {ob : Obj} {ks ws : List D} {i : D} {x : Value} {K : Type} [DecidableEq K] {knd : KeyKind C.prog C.w K} {f : K → D} {kvs : List (K × Value)} {y : K} (o : DicOpen C γ ob ks ws i x K knd f kvs y) : hasK i ks = (valueAt kvs y).isSome := by
  rw [o.key, o.keys, valueAt_isSome_map]
  unfold hasK
  rw [List.any_map]
  congr 1
  funext p
  exact o.eqv p.1
theorem DicOpen.find {ob : Obj} {ks ws : List D} {i : D} {x : Value} {K : Type} [DecidableEq K] {knd : KeyKind C.prog C.w K} {f : K → D} {kvs : List (K × Value)} {y : K} (o : DicOpen C γ ob ks ws i x K knd f kvs y) :
    (∀ d, findK i ks ws = some d → ∃ u, valueAt kvs y = some u ∧ Rel C γ d u) ∧ (findK i ks ws = none → valueAt kvs y = none) := by
  rw [o.key, o.keys]
  exact find_val o.eqv kvs ws o.vals

theorem inDic_ok (I : MInv C γ m s) (ra : Rel C γ a v) {ks vs : List D} {c : Addr} {o : Obj} (ho : s.heap.get? c = some o) (hs : c ≠ sysModules) (hd : DicIs C γ o ks vs) (hk : sameKind ks a = true) :
    Gives C A γ s (compareOp .In v (.ref c)) (.bool (hasK a ks)) m ∧ Gives C A γ s (compareOp .NotIn v (.ref c)) (.bool (!(hasK a ks))) m :=
  hd.open hk ra fun K _ knd f kvs x O => by
    have hm := (Heap.dictOf_iff.mpr ⟨o, ho, O.dict⟩).mapOf
    rw [O.has]
    exact ⟨.of_still I fun Q q => wpAny_in_of O.is (not_beq_sys hs) hm (q _ _ mk_bool), .of_still I fun Q q => wpAny_notIn_of O.is (not_beq_sys hs) hm (q _ _ mk_bool)⟩

theorem inC_ok (R : Room A k) (I : MInv C γ m s) (ra : Rel C γ a v) (rb : Rel C γ b w) {r : Bool} (e : inC m a b = some r) :
    Gives C A γ s (compareOp .In v w) (.bool r) m ∧ Gives C A γ s (compareOp .NotIn v w) (.bool (!r)) m :=
  inC_k (P := fun b => Rel C γ b w → Gives C A γ s (compareOp .In v w) (.bool r) m ∧ Gives C A γ s (compareOp .NotIn v w) (.bool (!r)) m) e
    (fun _ e rb => rel_lst rb fun _ _ n g _ rs => inD_ok R I ra rs e (.inl ⟨n, I.frozen _ _ g⟩))
    (fun _ e rb => rel_tup rb fun _ _ n g _ rs => inD_ok R I ra rs e (.inr ⟨n, I.frozen _ _ g⟩))
    (fun _ _ hm e rb => rel_cell rb fun _ hc => cell_lst I hc hm fun _ n ho _ rs => inD_ok R I ra rs e (.inl ⟨n, ho⟩))
    (fun _ _ hk e rb => e ▸ rel_dic rb fun _ _ g ne hd => inDic_ok I ra (I.frozen _ _ g) ne hd hk)
    (fun _ _ _ hm hk e rb => e ▸ rel_cell rb fun _ hc => cell_dic I hc hm fun _ ho ne hd => inDic_ok I ra ho ne hd hk) rb

theorem isNone_ok (ra : Rel C γ a v) {r : Bool} (e : isNone a = some r) : (v == Value.none) = r := by
  cases a with
  | none => exact rel_none ra (Option.some.inj e)
  | undef => exact no_some e
  | bool => exact rel_bool ra (Option.some.inj e)
  | int => exact rel_int ra fun _ => Option.some.inj e
  | str => exact rel_str ra fun _ _ => Option.some.inj e
  | tup => exact rel_tup ra fun _ _ _ _ _ _ => Option.some.inj e
  | lst => exact rel_lst ra fun _ _ _ _ _ _ => Option.some.inj e
  | dic => exact rel_dic ra fun _ _ _ _ _ => Option.some.inj e
  | obj => obtain ⟨_, _, _, _, _, rfl, _⟩ := ra; exact Option.some.inj e
  | rng => exact rel_rng ra fun _ _ _ _ _ _ _ _ => Option.some.inj e
  | cell => exact rel_cell ra fun _ _ => Option.some.inj e

theorem cmpI_ok (ra : Rel C γ a v) (rb : Rel C γ b w) {f : Int → Int → Bool} {r : Bool} {o : CmpOp} (e : cmpI f a b = some r) (h : ∀ i j t u, Gives C A γ s (compareOp o (.int i t) (.int j u)) (.bool (f i j)) m) : Gives C A γ s (compareOp o v w) (.bool r) m :=
  cmpI_k (P := fun a b r => Rel C γ a v → Rel C γ b w → Gives C A γ s (compareOp o v w) (.bool r) m) e (fun i j ra rb => rel_int ra fun t => rel_int rb fun u => h i j t u) ra rb
theorem cmp_ok (R : Room A k) (I : MInv C γ m s) (ra : Rel C γ a v) (rb : Rel C γ b w) {o : Cop} {r : Bool} (e : cmpD m o a b = some r) : Gives C A γ s (compareOp o.op v w) (.bool r) m := by
  cases o with
  | eq => exact (eq_ok R I ra rb e).1
  | ne => exact kmap (P := fun r => Gives C A γ s (compareOp .NotEq v w) (.bool r) m) e fun _ e => (eq_ok R I ra rb e).2
  | lt => exact cmpI_ok ra rb e fun _ _ _ _ => .of_still I fun Q q => P.lt_int (q _ s.toks mk_bool)
  | le => exact cmpI_ok ra rb e fun _ _ _ _ => .of_still I fun Q q => P.le_int (q _ s.toks mk_bool)
  | gt => exact cmpI_ok ra rb e fun _ _ _ _ => .of_still I fun Q q => P.gt_int (q _ s.toks mk_bool)
  | ge => exact cmpI_ok ra rb e fun _ _ _ _ => .of_still I fun Q q => P.ge_int (q _ s.toks mk_bool)
  | is => exact isN_k (P := fun b => Rel C γ b w → Gives C A γ s (compareOp .Is v w) (.bool r) m) e (fun e rb => rel_none rb (.of_still I fun Q q => is_none (q _ s.toks (congrArg Value.bool (isNone_ok ra e))))) rb
  | isNot => exact isN_k (P := fun b => Rel C γ b w → Gives C A γ s (compareOp .IsNot v w) (.bool r) m) e (fun e rb => rel_none rb (kmap (P := fun r => Gives C A γ s (compareOp .IsNot v .none) (.bool r) m) e fun _ e =>
      .of_still I fun Q q => isNot_none (q _ s.toks (congrArg (fun b => Value.bool (!b)) (isNone_ok ra e))))) rb
  | isIn => exact (inC_ok R I ra rb e).1
  | notIn => exact kmap (P := fun r => Gives C A γ s (compareOp .NotIn v w) (.bool r) m) e fun _ e => (inC_ok R I ra rb e).2

theorem truthy_ok (I : MInv C γ m s) (ra : Rel C γ a v) {r : Bool} (e : truth a = some r) : GivesB C A γ s (truthy v) r m :=
  truth_k (P := fun a r => Rel C γ a v → GivesB C A γ s (truthy v) r m) e (fun _ ra => rel_bool ra (wpAny_truthy_bool ⟨rfl, γ, I, .refl _ _ _⟩)) (fun ra => rel_none ra fun _ _ _ => ⟨rfl, γ, I, .refl _ _ _⟩) ra
end cmp
end Mine

set_option maxRecDepth 10000
namespace Mine
open PySem PySem.W PySem.SeqAt

variable {C : Ctx} {γ γ' : Gh} {s s' : Shared} {m m' : Mem} {A : Around} {k : Nat}

theorem big_eq : big = 1048576 := rfl
theorem sizes {n : Nat} (h : n ≤ big) : n ≤ sizeLine := Nat.le_trans h (by decide)

theorem Gives.of_val {t : Sem Value} {d : D} {v : Value} (I : MInv C γ m s) (r : Rel C γ d v) (h : ∀ Q : Value → Shared → Prop, (∀ tk, Q v { s with toks := tk }) → wpAny (model C.prog C.w) A t Q noE s) : Gives C A γ s t d m :=
  .of_still I fun Q q => h Q fun tk => q v tk r

/-- a new frozen object -/
theorem Gives.of_new {t : Sem Value} {d : D} {o : Obj} (I : MInv C γ m s) (hf : o.isFreed = false) (r : ∀ γ', γ.Le γ' → γ'.G s.heap.objs.size = some o → Rel C γ' d (.ref s.heap.objs.size))
    (h : ∀ Q : Value → Shared → Prop, (∀ tk, Q (.ref s.heap.objs.size) { s with heap := s.heap.push o, toks := tk }) → wpAny (model C.prog C.w) A t Q noE s) : Gives C A γ s t d m := by
  refine h _ fun tk => ?_
  obtain ⟨J, S⟩ := I.alloc (t := tk) (h' := s.heap.push o) (fun a x e => Heap.get?_push_of_some o e) (get?_size _) (Heap.get?_push_size _ hf)
  exact ⟨_, J, S, r _ S.le (Gh.put_self ..)⟩

theorem Gives.of_new2 {t : Sem Value} {d : D} {o : Obj} {h₁ : Heap} (I : MInv C γ m s) (hk : ∀ a o, s.heap.get? a = some o → h₁.get? a = some o) (hf : o.isFreed = false)
    (r : ∀ γ', γ.Le γ' → γ'.G h₁.objs.size = some o → Rel C γ' d (.ref h₁.objs.size))
    (h : ∀ Q : Value → Shared → Prop, (∀ tk, Q (.ref h₁.objs.size) { s with heap := h₁.push o, toks := tk }) → wpAny (model C.prog C.w) A t Q noE s) : Gives C A γ s t d m := by
  refine h _ fun tk => ?_
  obtain ⟨J, S⟩ := I.alloc (t := tk) (h' := h₁.push o) (fun a x e => Heap.get?_push_of_some o (hk a x e)) (by
    cases e : s.heap.get? h₁.objs.size with
    | none => rfl
    | some o' => exact absurd (Heap.lt_size (hk _ _ e)) (Nat.lt_irrefl _)) (Heap.get?_push_size _ hf)
  exact ⟨_, J, S, r _ S.le (Gh.put_self ..)⟩

theorem Rel.lst_new {ds : List D} {vs : List Value} {a : Addr} {n : Nat} (L : γ.Le γ') (h : γ'.G a = some (lstO vs n)) (hl : ds.length ≤ big) (rs : Rels C γ ds vs) : Rel C γ' (.lst ds) (.ref a) := by
  exact ⟨a, vs, n, rfl, h, hl, rs.mono L⟩
theorem Rel.tup_new {ds : List D} {vs : List Value} {a : Addr} {n : Nat} (L : γ.Le γ') (h : γ'.G a = some (tupO vs n)) (hl : ds.length ≤ big) (rs : Rels C γ ds vs) : Rel C γ' (.tup ds) (.ref a) := by
  exact ⟨a, vs, n, rfl, h, hl, rs.mono L⟩

theorem strOk_get {x : Str} (h : PyData.strOk x = true) {i c : Nat} (e : x.cps[i]? = some c) : PyData.strOk ⟨#[c]⟩ = true := by
  unfold PyData.strOk at h ⊢
  rw [Array.all_eq_true_iff_forall_mem] at h
  simpa using h c (Array.mem_of_getElem? e)

section idx
variable {a b d r : D} {v w : Value}

/-- it may be subscripted: a built-in's own way -/
noncomputable def Subs (s : Shared) (v : Value) : Prop := ∃ T id, s.TypeIs v T ∧ typeLookup (.type T) "__getitem__" = pure (some (.builtin id))

theorem small_of {n : Nat} {i : Int} (hn : n ≤ big) (h0 : 0 ≤ i) (hi : i.toNat < n) : i < 2 ^ 63 := by
  have := big_eq
  lia

theorem getList_ok (I : MInv C γ m s) {ds : List D} {vs : List Value} {i : Int} {t : Tok} {c : Addr} {n : Nat} (ho : s.heap.get? c = some (lstO vs n)) (hl : ds.length ≤ big) (rs : Rels C γ ds vs) (e : at? ds i = some r) :
    Subs s (.ref c) ∧ Gives C A γ s (getItem (.ref c) (.int i t)) r m :=
  at_k e fun h0 e => by
    obtain ⟨u, eu, ru⟩ := rs.get e
    have hi := (List.getElem?_eq_some_iff.mp e).1
    exact ⟨⟨_, _, ⟨_, ho, rfl⟩, slot_list_getitem.lookup⟩, .of_val I ru fun Q q => wpAny_getItem_list ⟨_, ho, rfl, n, rfl⟩ h0 (small_of hl h0 hi) (List.getElem?_toArray.trans eu) (q s.toks)⟩
theorem lt_of_toNat {i : Int} {n : Nat} (h0 : 0 ≤ i) (h : i.toNat < n) : i < (n : Int) := (Int.toNat_lt h0).mp h
theorem getTup_ok (I : MInv C γ m s) {ds : List D} {vs : List Value} {i : Int} {t : Tok} {c : Addr} {n : Nat} (ho : s.heap.get? c = some (tupO vs n)) (hl : ds.length ≤ big) (rs : Rels C γ ds vs) (e : at? ds i = some r) :
    Subs s (.ref c) ∧ Gives C A γ s (getItem (.ref c) (.int i t)) r m :=
  at_k e fun h0 e => by
    obtain ⟨u, eu, ru⟩ := rs.get e
    have hi := (List.getElem?_eq_some_iff.mp e).1
    have hv := lt_of_toNat h0 (List.getElem?_eq_some_iff.mp eu).1
    exact ⟨⟨_, _, ⟨_, ho, rfl⟩, F.slot_tuple_getitem.lookup⟩, .of_val I ru fun Q q => P.getItem_tuple ho (Int.le_trans (Int.neg_nonpos_of_nonneg (Int.natCast_nonneg _)) h0) (small_of hl h0 hi) (seqIndex_of h0 hv) (List.getElem?_toArray.trans eu) (q s.toks)⟩
theorem getStr_ok (I : MInv C γ m s) {x : Str} {i : Int} {t u : Tok} {c : Nat} (ok : PyData.strOk x = true) (h0 : 0 ≤ i) (h1 : i ≤ 1000) (e : x.cps[i.toNat]? = some c) : Subs s (.str x u) ∧ Gives C A γ s (getItem (.str x u) (.int i t)) (.str ⟨#[c]⟩) m := by
  have hi := lt_of_toNat h0 (Array.getElem?_eq_some_iff.mp e).1
  exact ⟨⟨_, _, typeIs_str _ _ _, F.slot_str_getitem.lookup⟩, .of_still I fun Q q => P.getItem_str (c := c) (by simp; lia) ((congrArg (Option.bind · fun k => x.cps[k]?) (seqIndex_of (n := x.cps.size) h0 hi)).trans e) (q _ (s.toks + 1) (mk_str (strOk_get ok e)))⟩
theorem getDic_ok (I : MInv C γ m s) {ks vs : List D} {c : Addr} {o : Obj} (ho : s.heap.get? c = some o) (hd : DicIs C γ o ks vs) (hk : sameKind ks b = true) (rb : Rel C γ b w) (hf : findK b ks vs = some r) : Subs s (.ref c) ∧ Gives C A γ s (getItem (.ref c) w) r m :=
  hd.open hk rb fun K _ knd f kvs x O => by
    obtain ⟨u, e1, e2⟩ := O.find.1 r hf
    have hm := (Heap.dictOf_iff.mpr ⟨o, ho, O.dict⟩).mapOf
    exact ⟨⟨_, _, hm.typeIs, slot_dict_getitem.lookup⟩, .of_val I e2 fun Q q => wpAny_getItem_of O.is hm e1 (q _)⟩
theorem getItem_ok (I : MInv C γ m s) (ra : Rel C γ d v) (rb : Rel C γ b w) (e : idxD m d b = some r) : Subs s v ∧ Gives C A γ s (getItem v w) r m :=
  idx_k (P := fun d b r => Rel C γ d v → Rel C γ b w → Subs s v ∧ Gives C A γ s (getItem v w) r m) e
    (fun _ _ e ra rb => rel_lst ra fun _ _ _ g hl rs => rel_int rb fun _ => getList_ok I (I.frozen _ _ g) hl rs e)
    (fun _ _ e ra rb => rel_tup ra fun _ _ _ g hl rs => rel_int rb fun _ => getTup_ok I (I.frozen _ _ g) hl rs e)
    (fun _ _ _ hm e ra rb => rel_cell ra fun _ hc => rel_int rb fun _ => cell_lst I hc hm fun _ _ ho hl rs => getList_ok I ho hl rs e)
    (fun _ _ hk e ra rb => rel_dic ra fun _ _ g _ hd => getDic_ok I (I.frozen _ _ g) hd hk rb e)
    (fun _ _ _ h0 h1 e ra rb => rel_str ra fun _ ok => rel_int rb fun _ => getStr_ok I ok h0 h1 e) ra rb
end idx

section slices
open PyProof.Rows
variable {d r : D} {v : Value}

theorem strOk_sub {x y : Str} (h : PyData.strOk x = true) (hs : ∀ c ∈ y.cps, c ∈ x.cps) : PyData.strOk y = true := by
  unfold PyData.strOk at h ⊢
  rw [Array.all_eq_true_iff_forall_mem] at h ⊢
  exact fun c hc => h c (hs c hc)

theorem adjust_to (b n : Nat) : Builtin.Slice.sliceAdjust none (some (b : Int)) 1 (n : Int) = ((0 : Int), ((min b n : Nat) : Int)) := by
  unfold Builtin.Slice.sliceAdjust
  have h1 : ¬ ((1 : Int) < 0) := by lia
  have h2 : ¬ ((b : Int) < 0) := by lia
  simp only [h1, h2, if_false]
  congr 1
  lia
theorem places_to (b n : Nat) : Builtin.Slice.slicePlaces 0 ((min b n : Nat) : Int) 1 = min b n := by
  unfold Builtin.Slice.slicePlaces
  have h1 : (1 : Int) > 0 := by lia
  simp only [h1, if_true, Int.ediv_one]
  split <;> lia

theorem sliceApplied_to {prog : Program} {w : World} {E : Value → Shared → Prop} {sl : Addr} {b n : Nat} {u : Tok} {Q : Int × Int × Nat → Shared → Prop} (hs : s.heap.IsSliceOf sl .none (.int b u) .none) (h : Q (0, 1, min b n) s) :
    wpAny (model prog w) A (Builtin.Slice.sliceApplied (.ref sl) (pure (n : Int))) Q E s := by
  obtain ⟨os, hos, hcs, hds⟩ := id hs
  unfold Builtin.Slice.sliceApplied Builtin.Slice.sliceFields
  refine wpAny_bind (wpAny_bind (wpAny_field hos hds (x := .none) rfl (wpAny_bind (wpAny_field hos hds (x := .int b u) rfl (wpAny_bind (wpAny_field hos hds (x := .none) rfl (wpAny_pure ?_)))))))
  refine wpAny_bind (slicePart_none ?_)
  show wpAny _ _ (if ((1 : Int) == 0) = true then _ else _) _ _ s
  rw [if_neg (by decide)]
  refine wpAny_bind (slicePart_none (wpAny_bind (slicePart_int (wpAny_bind (wpAny_pure ?_)))))
  show wpAny _ _ (match Builtin.Slice.sliceAdjust none (some (b : Int)) 1 (n : Int) with | (lo, hi) => pure (lo, (1 : Int), Builtin.Slice.slicePlaces lo hi 1)) _ _ s
  rw [adjust_to b n]
  show wpAny _ _ (pure ((0 : Int), (1 : Int), Builtin.Slice.slicePlaces 0 ((min b n : Nat) : Int) 1)) _ _ s
  rw [places_to b n]
  exact wpAny_pure h

theorem pick_to (xs : Array Value) (b : Nat) : ((List.range (min b xs.size)).filterMap fun (k : Nat) => xs[((0 : Int) + (k : Int) * 1).toNat]?).toArray = (xs.toList.take b).toArray := by
  have e : (fun (k : Nat) => xs[((0 : Int) + (k : Int) * 1).toNat]?) = fun k => xs[0 + k]? := by
    funext k
    have : ((0 : Int) + (k : Int) * 1).toNat = 0 + k := by lia
    rw [this]
  rw [e]
  have := pick_run xs 0 (min b xs.size)
  rw [List.filterMap_map] at this
  have e2 : ((fun x => xs[x]?) ∘ fun x => 0 + x) = fun k => xs[0 + k]? := rfl
  rw [e2] at this
  rw [this, List.drop_zero]
  congr 1
  rcases Nat.le_total b xs.size with h | h
  · rw [Nat.min_eq_left h]
  · rw [Nat.min_eq_right h, List.take_of_length_le (by simp), List.take_of_length_le (by simpa using h)]

theorem getItem_tuple_to {prog : Program} {w : World} {E : Value → Shared → Prop} {t sl : Addr} {items : Array Value} {b : Nat} {u : Tok} {Q : Value → Shared → Prop} (ht : IsTup s.heap t items) (hs : s.heap.IsSliceOf sl .none (.int b u) .none)
    (hsame : items.size ≤ b → Q (.ref t) s)
    (h : Q (.ref s.heap.objs.size) { s with heap := s.heap.push { cls := .type "tuple", data := .seq (items.toList.take b).toArray } })
    (hsz : items.size ≤ sizeLine) : wpAny (model prog w) A (getItem (.ref t) (.ref sl)) Q E s := by
  have hdrop : sizeOk (.seq (items.toList.take b).toArray) := by
    show (items.toList.take b).toArray.size ≤ sizeLine
    rw [List.size_toArray, List.length_take, Array.length_toList]
    lia
  obtain ⟨os, hos, hcs, hds⟩ := id hs
  have hTs : s.TypeIs (.ref sl) "slice" := ⟨os, hos, hcs⟩
  have hTt : s.TypeIs (.ref t) "tuple" := ht.typeIs
  unfold getItem
  try with_reducible refine wpAny_holding ?_
  first | refine wpAny_bind (wpAny_pure ?_) | skip
  refine wpAny_bind (wpAny_sequenceKey ht.typeIs (by decide) ?_)
  refine wpAny_bind (wpAny_callSpecial?_slot (name := Str.ofString "__getitem__") ht.typeIs slot_tuple_getitem
    (wpAny_call_entry slot_tuple_getitem ht.typeIs entry_tuple_getitem ?_ (args_tuple_getitem _ _)))
  show wpAny _ _ (Builtin.Tuple.tupleItemsOf (.ref t) >>= _) _ _ s
  refine wpAny_bind (tupleItemsOf_ ht ?_)
  refine wpAny_bind (wpAny_typeOf hTs ?_)
  rw [if_pos (by decide)]
  refine wpAny_bind (sliceApplied_to hs ?_)
  show wpAny _ _ (if ((0 : Int) == 0 && (1 : Int) == 1 && (min b items.size) == items.size) = true then _ else _) _ _ s
  split
  · rename_i hw
    have hle : items.size ≤ b := by
      simp at hw
      lia
    refine wpAny_bind (m := Builtin.Tuple.tupleIsExact (.ref t)) ?_
    unfold Builtin.Tuple.tupleIsExact
    refine wpAny_bind (wpAny_typeOf hTt (wpAny_pure ?_))
    rw [if_pos (by decide)]
    first
      | exact wpAny_bind (wpAny_rule (wpAny_bind (wpAny_pure ⟨_, rfl, wpAny_pure (hsame hle)⟩)))
      | exact wpAny_bind (wpAny_rule (wpAny_pure ⟨_, rfl, wpAny_pure (hsame hle)⟩))
  · rw [pick_to items b]
    first
      | exact wpAny_bind (m := Builtin.Tuple.tupleExact _) (wpAny_newObj_type (wpAny_pure ⟨_, rfl, wpAny_pure h⟩) hdrop)
      | exact wpAny_bind (m := Builtin.Tuple.tupleExact _) (wpAny_newObj_type (wpAny_bind (wpAny_pure (wpAny_pure ⟨_, rfl, wpAny_pure h⟩))) hdrop)
      | exact wpAny_bind (wpAny_bind (m := Builtin.Tuple.tupleExact _) (wpAny_newObj_type (wpAny_pure (wpAny_pure ⟨_, rfl, wpAny_pure h⟩)) hdrop))
      | exact wpAny_bind (wpAny_bind (m := Builtin.Tuple.tupleExact _) (wpAny_newObj_type (wpAny_pure ⟨_, rfl, wpAny_pure h⟩) hdrop))

theorem subLst_ok (I : MInv C γ m s) {ds : List D} {n : Nat} {u : Tok} {sl : Addr} (hs : s.heap.IsSliceOf sl .none (.int n u) .none) (ra : Rel C γ (.lst ds) v) : Subs s v ∧ Gives C A γ s (getItem v (.ref sl)) (.lst (ds.take n)) m :=
  rel_lst ra fun c vs k g hl rs => by
    have ho := I.frozen _ _ g
    have hlen := rs.length
    refine ⟨⟨_, _, ⟨_, ho, rfl⟩, slot_list_getitem.lookup⟩, .of_new (o := lstO (vs.take n) 0) I rfl (fun γ' L h => .lst_new L h (Nat.le_trans (List.length_take_le' ..) hl) (rs.take n)) fun Q q => ?_⟩
    refine wpAny_getItem_list_slice (lo := none) (hi := some (n : Int)) (st := none) ⟨_, ho, rfl, k, rfl⟩ hs .none (.int _ _) .none (by simp) ?_ (sizes (by rw [List.size_toArray, ← hlen]; exact hl))
    rw [slicePick_upto']
    simpa using q s.toks
theorem subTup_ok (I : MInv C γ m s) {ds : List D} {n : Nat} {u : Tok} {sl : Addr} (hs : s.heap.IsSliceOf sl .none (.int n u) .none) (ra : Rel C γ (.tup ds) v) : Subs s v ∧ Gives C A γ s (getItem v (.ref sl)) (.tup (ds.take n)) m :=
  rel_tup (P := fun v => Rel C γ (.tup ds) v → Subs s v ∧ Gives C A γ s (getItem v (.ref sl)) (.tup (ds.take n)) m) ra (fun c vs k g hl rs R1 => by
    have ho := I.frozen _ _ g
    have hlen := rs.length
    refine ⟨⟨_, _, ⟨_, ho, rfl⟩, F.slot_tuple_getitem.lookup⟩, getItem_tuple_to (items := vs.toArray) (b := n) ⟨_, ho, rfl, k, rfl⟩ hs (fun hle => ⟨γ, I, .refl _ _ _, ?_⟩) ?_ (sizes (by rw [List.size_toArray, ← hlen]; exact hl))⟩
    · rw [List.take_of_length_le (by rw [hlen]; simpa using hle)]
      exact R1
    · obtain ⟨J, S⟩ := I.alloc (t := s.toks) (h' := s.heap.push (tupO (vs.take n) 0)) (fun a x e => Heap.get?_push_of_some _ e) (get?_size _) (Heap.get?_push_size _ rfl)
      exact ⟨_, J, S, .tup_new S.le (Gh.put_self ..) (Nat.le_trans (List.length_take_le' ..) hl) (rs.take n)⟩) ra
theorem subStr_ok (I : MInv C γ m s) {x : Str} {n : Nat} {u : Tok} {sl : Addr} (hs : s.heap.IsSliceOf sl .none (.int n u) .none) (hn : n ≤ x.length) (hb : n ≤ 1000) (ra : Rel C γ (.str x) v) : Subs s v ∧ Gives C A γ s (getItem v (.ref sl)) (.str ⟨(x.cps.toList.take n).toArray⟩) m :=
  rel_str ra fun t ok => by
    refine ⟨⟨_, _, typeIs_str _ _ _, F.slot_str_getitem.lookup⟩, ?_⟩
    have htext : StrLaws.sliceText x none (some (n : Int)) = ⟨(x.cps.toList.take n).toArray⟩ := by
      rw [StrLaws.sliceText_to ⟨Int.natCast_nonneg n, Int.ofNat_le.mpr hn⟩]
      simp
    have hok : PyData.strOk ⟨(x.cps.toList.take n).toArray⟩ = true := strOk_sub ok fun c hc => Array.mem_toList_iff.mp (List.mem_of_mem_take (List.mem_toArray.mp hc))
    refine .of_still I fun Q q => wpAny_getItem_str_slice (l := none) (u := some ((n : Int), u)) (st := none) hs rfl ?_
    unfold sliceMade
    unfold StrLaws.sliceText at htext
    have hsp : slicePicked x none (some ((n : Int), u)) none = Builtin.Str.strSliceIndices none (some (n : Int)) 1 x.length := rfl
    rw [hsp]
    simp only [Option.map_none, Option.getD_none] 
    split
    · rename_i hw
      rw [if_pos hw] at htext
      exact q _ s.toks ⟨hok, t, by rw [← htext]⟩
    · rename_i hw
      rw [if_neg hw] at htext
      rw [htext]
      refine ⟨sizes (Nat.le_trans ?_ (Nat.le_trans hb (by decide))), q _ _ (mk_str hok)⟩
      show (x.cps.toList.take n).toArray.size ≤ n
      rw [List.size_toArray]
      exact List.length_take_le ..
theorem sub_ok (I : MInv C γ m s) (ra : Rel C γ d v) {n : Nat} {u : Tok} {sl : Addr} (hs : s.heap.IsSliceOf sl .none (.int n u) .none) (e : subD d n = some r) :
    Subs s v ∧ Gives C A γ s (getItem v (.ref sl)) r m :=
  sub_k (P := fun d r => Rel C γ d v → Subs s v ∧ Gives C A γ s (getItem v (.ref sl)) r m) e (fun _ => subLst_ok I hs) (fun _ => subTup_ok I hs) (fun _ h1 h2 => subStr_ok I hs h1 h2) ra
end slices
end Mine

set_option maxRecDepth 10000
namespace Mine
open PySem PySem.W PySem.SeqAt

variable {C : Ctx} {γ γ' : Gh} {s s' : Shared} {m m' : Mem} {A : Around} {k : Nat}

section text
open Builtin.Str
theorem strOk_ofString (x : String) : PyData.strOk (Str.ofString x) = true := by
  rw [Str.ofString_eq_toList]
  unfold PyData.strOk
  rw [Array.all_eq_true_iff_forall_mem]
  intro c hc
  simp at hc
  obtain ⟨ch, _, rfl⟩ := hc
  have := ch.valid
  simp only [UInt32.isValidChar, Nat.isValidChar] at this
  have e : ch.toNat = ch.val.toNat := rfl
  rw [decide_eq_true_eq, e]
  lia
theorem strOk_append {x y : Str} (hx : PyData.strOk x = true) (hy : PyData.strOk y = true) : PyData.strOk (x ++ y) = true := by
  unfold PyData.strOk at *
  show (x.cps ++ y.cps).all _ = true
  rw [Array.all_append, hx, hy]; rfl
theorem char_lt (ch : Char) : ch.toNat < 0x110000 := by
  have := ch.valid
  simp only [UInt32.isValidChar, Nat.isValidChar] at this
  have e : ch.toNat = ch.val.toNat := rfl
  lia
theorem reprChar_ok {q c : Nat} (hc : c < 0x110000) : ∀ d ∈ reprChar q c, d < 0x110000 := by
  have hex : ∀ w, ∀ d ∈ List.replicate (w - ((Nat.toDigits 16 c).map Char.toNat).length) 48 ++ (Nat.toDigits 16 c).map Char.toNat, d < 0x110000 := by
    intro w d hd
    rcases List.mem_append.mp hd with hd | hd
    · have := List.eq_of_mem_replicate hd; lia
    · obtain ⟨ch, _, rfl⟩ := List.mem_map.mp hd
      exact char_lt ch
  unfold reprChar
  intro d hd
  simp only at hd
  split at hd
  · simp at hd; lia
  · split at hd
    · simp at hd; lia
    · split at hd
      · simp at hd; lia
      · split at hd
        · simp at hd; lia
        · split at hd
          · simp at hd; lia
          · split at hd
            · rcases List.mem_append.mp hd with hd | hd
              · simp at hd; lia
              · exact hex _ d hd
            · split at hd
              · rcases List.mem_append.mp hd with hd | hd
                · simp at hd; lia
                · exact hex _ d hd
              · rcases List.mem_append.mp hd with hd | hd
                · simp at hd; lia
                · exact hex _ d hd
theorem foldl_repr_ok (q : Nat) : ∀ (l : List Nat) (acc : Array Nat), (∀ c ∈ l, c < 0x110000) → (∀ c ∈ acc, c < 0x110000) → ∀ c ∈ l.foldl (fun out c => out ++ (reprChar q c).toArray) acc, c < 0x110000
  | [], acc, _, ha => ha
  | x :: r, acc, hl, ha => by
    refine foldl_repr_ok q r _ (fun c hc => hl c (.tail _ hc)) fun c hc => ?_
    rcases Array.mem_append.mp hc with h | h
    · exact ha c h
    · exact reprChar_ok (hl x (.head _)) c (by simpa using h)
theorem strOk_repr {x : Str} (hx : PyData.strOk x = true) : PyData.strOk (reprText x) = true := by
  unfold PyData.strOk at *
  rw [Array.all_eq_true_iff_forall_mem] at *
  have hq : reprQuote x < 0x110000 := by unfold reprQuote; split <;> decide
  have key := foldl_repr_ok (reprQuote x) x.cps.toList #[reprQuote x] (fun c hc => by simpa using hx c (by simpa using hc)) (fun c hc => by simp at hc; subst hc; exact hq)
  intro c hc
  unfold reprText at hc
  rw [← Array.foldl_toList] at hc
  rcases Array.mem_push.mp hc with h | rfl
  · simpa using key c h
  · simpa using hq

theorem strOk_join {sep : Str} (hs : PyData.strOk sep = true) : ∀ {ts : List Str}, (∀ t ∈ ts, PyData.strOk t = true) → PyData.strOk (Str.join sep ts) = true
  | [], _ => by show PyData.strOk Str.empty = true; decide +kernel
  | [x], h => h x (.head _)
  | x :: y :: r, h => strOk_append (strOk_append (h x (.head _)) hs) (strOk_join hs fun t ht => h t (.tail _ ht))

theorem joinLen : ∀ ts : List Str, (Str.join ", " ts).length ≤ piled ts
  | [] => by simp [Str.join, piled]; decide +kernel
  | t :: r => by have := join_length_add (t :: r) (by simp); lia

theorem strLen_append (x y : Str) : (x ++ y).length = x.length + y.length := by
  show (x.cps ++ y.cps).size = _
  rw [Array.size_append]; rfl

mutual
theorem shown_ok : ∀ {x : PyData}, x.canLay0 = true → PyData.strOk x.shown = true ∧ x.shown.length ≤ ub x
  | .none, _ => by rw [PyData.shown_none]; exact ⟨strOk_ofString _, by decide +kernel⟩
  | .bool b, _ => by
    rw [PyData.shown_bool]
    cases b
    · exact ⟨strOk_ofString _, by decide +kernel⟩
    · exact ⟨strOk_ofString _, by decide +kernel⟩
  | .int i, _ => by
    rw [PyData.shown_int]
    refine ⟨strOk_ofString _, ?_⟩
    have := PyProof.Rows.len_str_of_int i
    simp only [ub]; lia
  | .str t, h => by
    rw [PyData.shown_str]
    have hk : PyData.strOk t = true := by simpa [PyData.canLay0] using h
    refine ⟨strOk_repr hk, ?_⟩
    simp only [ub]
    refine StrLaws.reprText_len t fun c hc => ?_
    unfold PyData.strOk at hk
    rw [Array.all_eq_true_iff_forall_mem] at hk
    have := hk c (by simpa using hc)
    simp at this
    lia
  | .list xs, h => by
    obtain ⟨h1, h2⟩ := shownAll_ok (xs := xs) (by simpa [PyData.canLay0] using h)
    rw [PyData.shown_list]
    refine ⟨strOk_append (strOk_append (strOk_ofString _) (strOk_join (strOk_ofString _) h1)) (strOk_ofString _), ?_⟩
    rw [strLen_append, strLen_append]
    have h3 := joinLen (PyData.shownAll xs)
    have e1 : (Str.ofString "[").length = 1 := by decide +kernel
    have e2 : (Str.ofString "]").length = 1 := by decide +kernel
    simp only [ub]
    lia
  | .tuple xs, h => by
    obtain ⟨h1, h2⟩ := shownAll_ok (xs := xs) (by simpa [PyData.canLay0] using h)
    rw [PyData.shown_tuple]
    refine ⟨strOk_append (strOk_append (strOk_ofString _) (strOk_join (strOk_ofString _) h1)) (strOk_ofString _), ?_⟩
    rw [strLen_append, strLen_append]
    have h3 := joinLen (PyData.shownAll xs)
    have e1 : (Str.ofString "(").length = 1 := by decide +kernel
    have e2 : (Str.ofString (if xs.length == 1 then ",)" else ")")).length ≤ 2 := by split <;> decide +kernel
    simp only [ub]
    lia
  | .dict _, h => by simp [PyData.canLay0] at h
theorem shownAll_ok : ∀ {xs : List PyData}, PyData.canLayAll0 xs = true → (∀ t ∈ PyData.shownAll xs, PyData.strOk t = true) ∧ piled (PyData.shownAll xs) ≤ ubs xs
  | [], _ => by simp [PyData.shownAll, piled, ubs]
  | x :: xs, h => by
    simp only [PyData.canLayAll0, Bool.and_eq_true] at h
    obtain ⟨a1, a2⟩ := shown_ok h.1
    obtain ⟨b1, b2⟩ := shownAll_ok h.2
    simp only [PyData.shownAll]
    refine ⟨fun t ht => ?_, ?_⟩
    · rcases List.mem_cons.mp ht with rfl | ht
      · exact a1
      · exact b1 t ht
    · rw [piled_cons]
      simp only [ubs]
      lia
end

theorem log2_lt_of_le {n b : Nat} (h : n ≤ 2 ^ b) : n.log2 < b + 1 := by
  rcases Nat.eq_zero_or_pos n with h0 | h0
  · subst h0; simp
  · rw [Nat.log2_lt (by lia)]
    have : 2 ^ (b + 1) = 2 * 2 ^ b := by rw [Nat.pow_succ]; lia
    have := Nat.two_pow_pos b
    lia

mutual
theorem showable_ok : ∀ {x : PyData}, x.canLay0 = true → ub x ≤ big → x.showable = true
  | .none, _, _ => by simp [PyData.showable]
  | .bool _, _, _ => by simp [PyData.showable]
  | .str _, _, _ => by simp [PyData.showable]
  | .int i, _, h => by
    simp only [ub, big_eq] at h
    simp only [PyData.showable, decide_eq_true_eq]
    have := log2_lt_of_le (n := i.natAbs) (b := 20) (by lia)
    lia
  | .list xs, h, hb => by
    simp only [ub] at hb
    simp only [PyData.showable]
    exact showableAll_ok (by simpa [PyData.canLay0] using h) (by lia)
  | .tuple xs, h, hb => by
    simp only [ub] at hb
    simp only [PyData.showable]
    exact showableAll_ok (by simpa [PyData.canLay0] using h) (by lia)
  | .dict _, h, _ => by simp [PyData.canLay0] at h
theorem showableAll_ok : ∀ {xs : List PyData}, PyData.canLayAll0 xs = true → ubs xs ≤ big → PyData.showableAll xs = true
  | [], _, _ => by simp [PyData.showableAll]
  | x :: xs, h, hb => by
    simp only [PyData.canLayAll0, Bool.and_eq_true] at h
    simp only [ubs] at hb
    simp only [PyData.showableAll, Bool.and_eq_true]
    exact ⟨showable_ok h.1 (by lia), showableAll_ok h.2 (by lia)⟩
end
end text

section repr
variable {d r : D} {v : Value}

set_option tactic.hygienic true in
theorem repr_ok (R : Room A (k + 3)) (I : MInv C γ m s) (ra : Rel C γ d v) (e : reprD d = some r) : Gives C A γ s (call (.builtin "repr") [v]) r m := by
  unfold reprD at e
  split at e
  · rename_i x ex
    split at e
    · rename_i hb
      cases e
      obtain ⟨⟨as, Rx⟩, kx⟩ := ra.reads I.frozen ex
      obtain ⟨ok, len⟩ := shown_ok kx
      have hsh := showable_ok kx hb.1
      have hbig := big_eq
      have hsz : x.shown.length ≤ sizeLine := by simp [sizeLine]; lia
      have hdep : x.depth ≤ 40 := of_decide_eq_true hb.2
      have hu := R.units
      have fin : ∀ {u : Tok} {γ' : Gh}, Rel C γ' (.str x.shown) (.str x.shown u) := by
        intro u γ'; exact ⟨ok, _, rfl⟩
      cases Rx with
      | none => exact .of_still I fun Q q => P.repr_of_none (by simpa only [PyData.shown_none] using q _ _ fin)
      | bool b => exact .of_still I fun Q q => P.repr_of_bool (by simpa only [PyData.shown_bool] using q _ _ fin)
      | int i t =>
        refine .of_still I fun Q q => P.repr_of_int (by simpa [PyData.showable] using hsh) ?_
        simpa only [PyData.shown_int] using q (.str (PyData.int i).shown s.toks) _ fin
      | str y t =>
        refine .of_still I fun Q q => P.repr_of_str ?_ (by simpa only [PyData.shown_str] using hsz)
        simpa only [PyData.shown_str] using q (.str (PyData.str y).shown s.toks) _ fin
      | list h1 h2 h3 h4 =>
        refine repr_of_reads' (.list h1 h2 h3 h4) hsh (by simp [D.py_noDict ex]) R.2.2.2 (by lia) (fun _ _ e => e) (fun h' u tk hk => ?_) hsz
        obtain ⟨J, S⟩ := I.grow (t := tk) hk
        exact ⟨γ, J, S, fin⟩
      | tuple h1 h2 h3 h4 =>
        refine repr_of_reads' (.tuple h1 h2 h3 h4) hsh (by simp [D.py_noDict ex]) R.2.2.2 (by lia) (fun _ _ e => e) (fun h' u tk hk => ?_) hsz
        obtain ⟨J, S⟩ := I.grow (t := tk) hk
        exact ⟨γ, J, S, fin⟩
      | dict h1 h2 h3 h4 h5 => simp [PyData.canLay0] at kx
    · cases e
  · cases e
end repr
end Mine

set_option maxRecDepth 10000
namespace Mine
open PySem PySem.W PySem.SeqAt

variable {C : Ctx} {γ γ' : Gh} {s s' : Shared} {m m' : Mem} {A : Around} {k : Nat}

noncomputable def Bop.op : Bop → Operator
  | .add => .Add | .sub => .Sub | .mul => .Mult | .pow => .Pow | .mod => .Mod

section bin
variable {a b r : D} {v w : Value}


theorem addStr_ok (I : MInv C γ m s) {x y : Str} {t u : Tok} (hx : PyData.strOk x = true) (hy : PyData.strOk y = true) (hl : x.length + y.length ≤ big) :
    Gives C A γ s (binaryOp .Add (.str x t) (.str y u)) (.str (x ++ y)) m := by
  refine .of_still I fun Q q => P.add_str ?_
  have ok := strOk_append hx hy
  split
  · rename_i h0
    have : x = Str.empty := by
      cases x with
      | mk c => simp [Str.length] at h0; subst h0; rfl
    subst this
    refine q _ s.toks ?_
    exact ⟨ok, u, by show Value.str y u = Value.str ⟨#[] ++ y.cps⟩ u; rw [Array.empty_append]⟩
  · split
    · rename_i h0
      have : y = Str.empty := by
        cases y with
        | mk c => simp [Str.length] at h0; subst h0; rfl
      subst this
      refine q _ s.toks ?_
      exact ⟨ok, t, by show Value.str x t = Value.str ⟨x.cps ++ #[]⟩ t; rw [Array.append_empty]⟩
    · refine ⟨by rw [strLen_append]; exact sizes hl, q _ _ ?_⟩
      exact ⟨ok, _, rfl⟩

theorem intBits_small {i : Int} (h0 : 0 ≤ i) (h3 : i ≤ 3) : (Builtin.Int.intBits i : Int) ≤ 2 := by
  have : i = 0 ∨ i = 1 ∨ i = 2 ∨ i = 3 := by lia
  rcases this with rfl | rfl | rfl | rfl <;> decide +kernel

theorem nonempty_of {ds : List D} {vs : List Value} (rs : Rels C γ ds vs) (h : 0 < ds.length) : vs ≠ [] := fun e => by
  subst e
  exact Nat.lt_irrefl 0 (Nat.lt_of_lt_of_eq h rs.length)
theorem len_add {ds es : List D} {vs ws : List Value} (rs : Rels C γ ds vs) (rs' : Rels C γ es ws) (h : ds.length + es.length ≤ big) : (vs ++ ws).length ≤ big := by
  rw [List.length_append, ← rs.length, ← rs'.length]; exact h
theorem bin_ok (I : MInv C γ m s) (ra : Rel C γ a v) (rb : Rel C γ b w) {o : Bop} (e : binD o a b = some r) : Gives C A γ s (binaryOp o.op v w) r m :=
  bin_k (P := fun o a b r => Rel C γ a v → Rel C γ b w → Gives C A γ s (binaryOp o.op v w) r m) e
    (fun _ _ ra rb => rel_int ra fun _ => rel_int rb fun _ => .of_still I fun Q q => P.add_int (q _ _ mk_int))
    (fun _ _ hl ra rb => rel_str ra fun _ hx => rel_str rb fun _ hy => addStr_ok I hx hy hl)
    (fun _ _ hl ra rb => rel_lst ra fun _ vs _ g _ rs => rel_lst rb fun _ ws _ g' _ rs' => .of_new (o := lstO (vs ++ ws) 0) I rfl (fun γ' L h => .lst_new L h (List.length_append ▸ hl) (rs.append rs')) fun Q q =>
      P.add_list (I.frozen _ _ g) (I.frozen _ _ g') (by simpa using q s.toks) (sizes (by simpa using len_add rs rs' hl)))
    (fun _ _ hl h1 h2 ra rb => rel_tup ra fun _ vs _ g _ rs => rel_tup rb fun _ ws _ g' _ rs' => .of_new (o := tupO (vs ++ ws) 0) I rfl (fun γ' L h => .tup_new L h (List.length_append ▸ hl) (rs.append rs')) fun Q q =>
      P.add_tuple (I.frozen _ _ g) (I.frozen _ _ g') (by simpa using nonempty_of rs h1) (by simpa using nonempty_of rs' h2) (by simpa using q s.toks) (sizes (by simpa using len_add rs rs' hl)))
    (fun _ _ ra rb => rel_int ra fun _ => rel_int rb fun _ => .of_still I fun Q q => P.sub_int (q _ _ mk_int))
    (fun i j hi hj ra rb => rel_int ra fun _ => rel_int rb fun _ => .of_still I fun Q q => P.mul_int (q _ _ mk_int) (IntMulOk.of_left (intBits_le_64 (by have := big_eq; lia) (by have := big_eq; lia))))
    (fun i j h0 h3 hj hj' ra rb => rel_int ra fun _ => rel_int rb fun _ => .of_still I fun Q q => PyProof.Rows.pow_int hj (by
      have : (Builtin.Int.intBits i : Int) * j ≤ 2 * j := Int.mul_le_mul_of_nonneg_right (intBits_small h0 h3) hj
      lia) (q _ _ mk_int))
    (fun i j h0 _ ra rb => rel_int ra fun _ => rel_int rb fun _ => .of_still I fun Q q => PyProof.Rows.mod_int' (Int.ne_of_gt h0) (by
      rw [Int.fmod_eq_emod_of_nonneg _ (Int.le_of_lt h0)]
      exact q _ _ mk_int)) ra rb
end bin

section calls
variable {d r : D} {v : Value}

theorem fit63 {n : Nat} (h : n ≤ big) : (n : Int) < 2 ^ 63 := by have := big_eq; lia
theorem lenList_ok (I : MInv C γ m s) {ds : List D} {vs : List Value} {n : Nat} {c : Addr} (ho : s.heap.get? c = some (lstO vs n)) (hl : ds.length ≤ big) (rs : Rels C γ ds vs) : Gives C A γ s (call (.builtin "len") [.ref c]) (.int ds.length) m :=
  .of_still I fun Q q => Calls.call_len_list ⟨_, ho, rfl, n, rfl⟩ (by rw [List.size_toArray, ← rs.length]; exact fit63 hl) (q _ _ ⟨_, by rw [rs.length, List.size_toArray]⟩)
theorem len_ok (I : MInv C γ m s) (ra : Rel C γ d v) (e : lenD m d = some r) : Gives C A γ s (call (.builtin "len") [v]) r m :=
  len_k (P := fun d r => Rel C γ d v → Gives C A γ s (call (.builtin "len") [v]) r m) e
    (fun _ ra => rel_lst ra fun _ _ _ g hl rs => lenList_ok I (I.frozen _ _ g) hl rs)
    (fun _ ra => rel_tup ra fun _ _ _ g hl rs => .of_still I fun Q q => P.len_tuple (I.frozen _ _ g) (by rw [List.size_toArray, ← rs.length]; exact Int.not_le.mpr (fit63 hl)) (q _ _ ⟨_, by rw [rs.length, List.size_toArray]⟩))
    (fun _ hx ra => rel_str ra fun _ _ => .of_still I fun Q q => P.len_str (Int.not_le.mpr (fit63 (Nat.le_trans hx (by decide)))) (q _ _ mk_int))
    (fun _ _ hm ra => rel_cell ra fun _ hc => cell_lst I hc hm fun _ _ ho hl rs => lenList_ok I ho hl rs) ra

noncomputable def Bi.val : Bi → Value
  | .len => .builtin "len" | .sorted => .builtin "sorted" | .repr => .builtin "repr" | .str => .type "str" | .list => .type "list" | .tuple => .type "tuple" | .range1 => .type "range"

/-- ints alone -/
theorem nums_ind {P : List D → List Int → Prop} (nil : P [] []) (cons : ∀ i ds is, nums ds = some is → P ds is → P (.int i :: ds) (i :: is)) : ∀ {ds : List D} {is : List Int}, nums ds = some is → P ds is := by
  intro ds
  induction ds with
  | nil => exact fun h => ssome h nil
  | cons d ds ih => cases d with
    | int i => exact fun h => map_k (P := P (.int i :: ds)) h fun is e => cons i ds is e (ih e)
    | _ => exact fun h => nsome h
open PyProof.Rows in
theorem intsAre_of {ds : List D} {vs : List Value} {is : List Int} (r : Rels C γ ds vs) (e : nums ds = some is) : IntsAre vs is :=
  nums_ind (P := fun ds is => ∀ vs, Rels C γ ds vs → IntsAre vs is) (fun vs r => (show vs = [] from r) ▸ .nil)
    (fun i ds is _ ih vs r => rels_cons (P := fun vs => IntsAre vs (i :: is)) r fun v vs a b => rel_int a fun t => .cons i t (ih vs b)) e vs r

open PyProof.Rows in
theorem rels_of_ints {vs : List Value} {is : List Int} (h : IntsAre vs is) : Rels C γ (is.map .int) vs := by
  induction h with
  | nil => exact .nil
  | cons n t _ ih => exact .cons ⟨_, rfl⟩ ih

theorem sortI_perm (l : List Int) : (sortI l).Perm l := List.mergeSort_perm ..
theorem sortI_sorted (l : List Int) : (sortI l).Pairwise (· ≤ ·) :=
  (List.pairwise_mergeSort (le := fun a b : Int => decide (a ≤ b)) (fun _ _ _ h k => decide_eq_true (Int.le_trans (of_decide_eq_true h) (of_decide_eq_true k))) (fun a b => Bool.or_eq_true_iff.mpr ((Int.le_total a b).imp decide_eq_true decide_eq_true)) l).imp of_decide_eq_true
theorem sorted_eq {a l : List Int} (hp : a.Perm l) (ha : a.Pairwise (· ≤ ·)) : a = sortI l :=
  ksm_same (hp.trans (sortI_perm l).symm) ha (sortI_sorted l)

theorem nums_length {ds : List D} {is : List Int} (h : nums ds = some is) : ds.length = is.length :=
  nums_ind (P := fun ds is => ds.length = is.length) rfl (fun _ _ _ _ ih => congrArg (· + 1) ih) h
theorem nums_ints : ∀ l : List Int, nums (l.map .int) = some l
  | [] => rfl
  | i :: r => congrArg (Option.map (i :: ·)) (nums_ints r)

theorem DicIs.ints {o : Obj} {ks vs : List D} {is : List Int} (h : DicIs C γ o ks vs) (e : nums ks = some is) :
    ∃ kvs : List (Int × Value), o.IsDictOf (intKind C.prog C.w) kvs ∧ is = kvs.map (·.1) := by
  obtain ⟨l, h⟩ := h
  rcases h with ⟨kvs, r1, r2, r3⟩ | ⟨kvs, r1, r2, r3, _⟩
  · refine ⟨kvs, r1, ?_⟩
    have : nums ks = some (kvs.map (·.1)) := by
      rw [r2]
      have := nums_ints (kvs.map (·.1))
      rwa [List.map_map] at this
    rw [this] at e
    exact (Option.some.inj e).symm
  · cases kvs with
    | nil => subst r2; exact ⟨[], isDict_nil _ r1, (Option.some.inj e).symm⟩
    | cons p r => subst r2; exact no_some e

open PyProof.Rows in
theorem intsAre_items {kvs : List (Int × Value)} {acc : Array Value} (h : ItemsOf (fun i v => ∃ k x, kvs[i]? = some (k, x) ∧ (intKind C.prog C.w).is k v = true) acc kvs.length) : IntsAre acc.toList (kvs.map (·.1)) := by
  obtain ⟨h1, h2⟩ := h
  have key : ∀ (kvs : List (Int × Value)) (l : List Value), l.length = kvs.length → (∀ (j : Nat) (v : Value), l[j]? = some v → ∃ k x, kvs[j]? = some (k, x) ∧ (intKind C.prog C.w).is k v = true) → IntsAre l (kvs.map (·.1)) := by
    intro kvs
    induction kvs with
    | nil => intro l hl _; cases l with | nil => exact .nil | cons _ _ => simp at hl
    | cons p r ih =>
      intro l hl hj
      cases l with
      | nil => simp at hl
      | cons v l =>
        obtain ⟨k, x, e, hk⟩ := hj 0 v rfl
        simp at e
        subst e
        obtain ⟨t, rfl⟩ := Value.isInt_shape hk
        exact .cons k t (ih l (by simpa using hl) fun j u hu => by simpa using hj (j + 1) u (by simpa using hu))
  exact key kvs acc.toList (by rw [Array.length_toList]; exact h1) fun j v e => h2 j v (by rw [← Array.getElem?_toList]; exact e)

open PyProof.Rows in
theorem sorted_ok (R : Room A (k + 3)) (I : MInv C γ m s) (ra : Rel C γ d v) (e : sortedD d = some r) : Gives C A γ s (call (.builtin "sorted") [v]) r m := by
  have hb := big_eq
  refine sorted_k (P := fun d r => Rel C γ d v → Gives C A γ s (call (.builtin "sorted") [v]) r m) e (fun ds is h64 e ra => rel_lst ra fun c vs n g hl rs => ?_) (fun ks ws is h64 e ra => rel_dic ra fun c o g ne hd => ?_) ra
  · have e1 := rs.length
    have hI := intsAre_of rs e
    refine sorted_ints (s := s) ⟨_, I.frozen _ _ g, rfl, n, rfl⟩ hI (by lia) fun out ns' h1 h2 h3 => ?_
    obtain ⟨ep, he⟩ := sortedAll_at s.heap vs out
    obtain ⟨J, S⟩ := I.alloc (t := s.toks) (h' := sortedAll s.heap vs out) (a := s.heap.objs.size + 1) (fun _ _ x => sortedAll_old x) (get?_ge (by lia)) he
    have hs := sorted_eq h2 h3
    subst hs
    refine ⟨_, J, S, ?_⟩
    have hlen := h1.length
    have hlen2 := hI.length
    have hlen3 := (sortI_perm is).length_eq
    exact .lst_new (vs := out.toList) (n := ep) S.le (by rw [Gh.put_self]) (by simp; lia) (rels_of_ints h1)
  · obtain ⟨kvs, hD, rfl⟩ := hd.ints e
    have hlen0 : ks.length = (kvs.map (·.1)).length := nums_length e
    obtain ⟨ep, hat⟩ := (Heap.dictOf_iff.mpr ⟨o, I.frozen _ _ g, hD⟩ : s.heap.DictOf (intKind C.prog C.w) c kvs).dictAt
    refine Calls.call_function_entry kind_sorted plain_sorted entry_sorted (args_sorted1 _) ?_
    unfold Builtin.«sorted»
    refine wpAny_bind (m := checkCount "sorted" 1 1 _) (wpAny_pure ?_)
    simp only [List.length_map] at hlen0
    refine wpAny_bind (kdu_collect (A := A.in1) (kdl_dict (knd := intKind C.prog C.w) (kvs := kvs) (ep := ep) (not_beq_sys ne)) R.1 hat (sizes (by lia)) fun h' tk acc hk hacc => ?_)
    have hI : IntsAre acc.toList (kvs.map (·.1)) := intsAre_items hacc
    have hsz : acc.toList.length = kvs.length := by rw [Array.length_toList]; exact hacc.1
    refine wpAny_bind (wpAny_newList ?_ (by rw [hsz]; exact sizes (by lia)))
    have hS : (h'.push { cls := .type "list", data := .seq acc.toList.toArray }).get? h'.objs.size = some (seqObj "list" acc.toList.toArray 0) := Heap.get?_push_size _ rfl
    refine wpAny_bind (wpAny_holding (wpAny_call_entry slot_list_sort ⟨_, hS, rfl⟩ entry_list_sort (list_sort_tree hS hI (by lia) fun out ns' h1 h2 h3 => ⟨_, rfl, ?_⟩) (args_list_sort _)))
    obtain ⟨ep', he⟩ := sortedHeap_at (out := out) hS
    have hold : ∀ a o, s.heap.get? a = some o → (sortedHeap (h'.push { cls := .type "list", data := .seq acc.toList.toArray }) h'.objs.size acc.toList out).get? a = some o := fun a o x => by
      have hlt := Heap.lt_size (hk _ _ x)
      rw [sortedHeap_old (Nat.ne_of_lt hlt) (by rw [size_push']; exact Nat.lt_succ_of_lt hlt)]
      exact Heap.get?_push_of_some _ (hk _ _ x)
    have hs := sorted_eq h2 h3
    subst hs
    obtain ⟨J, S⟩ := I.alloc (t := tk) (a := h'.objs.size) hold (by
      cases x : s.heap.get? h'.objs.size with
      | none => rfl
      | some o' => exact absurd (Heap.lt_size (hk _ _ x)) (Nat.lt_irrefl _)) he
    refine wpAny_pure ⟨_, rfl, _, J, S, ?_⟩
    have hlen := h1.length
    have hlen2 := hI.length
    have hlen3 := (sortI_perm (kvs.map (·.1))).length_eq
    simp only [List.length_map] at hlen3
    exact .lst_new (vs := out.toList) (n := ep') S.le (by rw [Gh.put_self]) (by simp; lia) (rels_of_ints h1)
end calls
end Mine

set_option maxRecDepth 10000
namespace Mine
open PySem PySem.W PySem.SeqAt

variable {C : Ctx} {γ γ' : Gh} {s s' : Shared} {m m' : Mem} {A : Around} {k : Nat}

theorem abs_le {a : Int} (h : a.natAbs ≤ big) : -1048576 ≤ a ∧ a ≤ 1048576 := by have := big_eq; lia
theorem fitsR {x : Int} (h : -2097152 ≤ x ∧ x ≤ 2097152) : -2 ^ 63 ≤ x ∧ x < 2 ^ 63 := ⟨Int.le_trans (by decide) h.1, Int.lt_of_le_of_lt h.2 (by decide)⟩
theorem rng_small {a b c : Int} (ha : a.natAbs ≤ big) (hb : b.natAbs ≤ big) (hc : c = 1 ∨ c = -1) : Builtin.Range.small a b c = true := by
  have ⟨a1, a2⟩ := abs_le ha
  have ⟨b1, b2⟩ := abs_le hb
  clear ha hb
  rcases hc with rfl | rfl
  · exact small_one (Int.le_trans (by decide) a1) (Int.lt_of_le_of_lt a2 (by decide)) (Int.le_trans (by decide) b1) (Int.lt_of_le_of_lt b2 (by decide))
  · have fa := fitsR ⟨Int.le_trans (by decide) a1, Int.le_trans a2 (by decide)⟩
    have fb := fitsR ⟨Int.le_trans (by decide) b1, Int.le_trans b2 (by decide)⟩
    have fc := fitsR (x := a - b) (by lia)
    unfold Builtin.Range.small Builtin.Range.rangeSize
    simp only [Builtin.Range.rangeFitsLong, Bool.and_eq_true, Bool.or_eq_true, decide_eq_true_eq, beq_iff_eq, show ¬ ((-1 : Int) > 0) by decide, if_false, Int.neg_neg, Int.ediv_one, Int.sub_add_cancel]
    refine ⟨⟨⟨⟨fa, fb⟩, by decide⟩, ?_⟩, .inr ?_⟩
    · split
      · exact fc
      · decide
    · rw [show b + ((-1 : Int) + 1) = b from Int.add_zero b]
      exact fb

theorem rng_items {a b c : Int} {ds : List D} (e : rngItems a b c = some ds) : Builtin.Range.rangeSize a b c = (ds.length : Nat) ∧ ∀ (i : Nat) (d : D), ds[i]? = some d → d = .int (a + i * c) := by
  unfold rngItems at e
  split at e
  · rename_i hc
    cases e; subst hc
    refine ⟨?_, fun i d h => ?_⟩
    · rw [rangeSize_one]
      simp only [List.length_map, List.length_range]
      split <;> lia
    · simp only [List.getElem?_map, Option.map_eq_some_iff,] at h
      obtain ⟨j, hj, rfl⟩ := h
      have : j = i := by
        have := List.getElem?_eq_some_iff.mp hj
        obtain ⟨h1, h2⟩ := this
        simpa using h2.symm
      subst this
      simp
  · split at e
    · rename_i hc
      cases e; subst hc
      refine ⟨?_, fun i d h => ?_⟩
      · unfold Builtin.Range.rangeSize
        simp only [show ¬ ((-1 : Int) > 0) by decide, if_false, Int.neg_neg, Int.ediv_one, List.length_map, List.length_range]
        split <;> lia
      · simp only [List.getElem?_map, Option.map_eq_some_iff] at h
        obtain ⟨j, hj, rfl⟩ := h
        have : j = i := by
          obtain ⟨h1, h2⟩ := List.getElem?_eq_some_iff.mp hj
          simpa using h2.symm
        subst this
        congr 1
        lia
    · cases e

theorem rels_of_get {ds : List D} {vs : List Value} (hl : ds.length = vs.length) (h : ∀ (i : Nat) (d : D) (v : Value), ds[i]? = some d → vs[i]? = some v → Rel C γ d v) : Rels C γ ds vs := by
  induction ds generalizing vs with
  | nil => cases vs with | nil => exact .nil | cons _ _ => simp at hl
  | cons d ds ih =>
    cases vs with
    | nil => simp at hl
    | cons v vs => exact .cons (h 0 d v rfl rfl) (ih (by simpa using hl) fun i d' v' e1 e2 => h (i + 1) d' v' (by simpa using e1) (by simpa using e2))

section calls
variable {d r : D} {v : Value}

theorem listSeq_ok (I : MInv C γ m s) {ds : List D} {vs : List Value} {c : Addr} {T : String} {o : Obj} {n : Nat} (hT : T = "list" ∨ T = "tuple") (ho : s.heap.get? c = some o) (hc : o.cls = .type T) (hd : o.data = .seq vs.toArray n) (hl : ds.length ≤ big) (rs : Rels C γ ds vs) :
    Gives C A γ s (call (.type "list") [.ref c]) (.lst ds) m :=
  call_list_seq (s := s) c hT ho hc hd (fun h' ep hk hn => by
    obtain ⟨J, S⟩ := I.alloc (t := s.toks) hk (get?_size _) hn
    exact ⟨_, J, S, .lst_new (vs := vs) (n := ep) S.le (Gh.put_self ..) hl rs⟩) (sizes (by rw [List.size_toArray, ← rs.length]; exact hl))
theorem biStr_ok (I : MInv C γ m s) {i : Int} (hi : i.natAbs ≤ big) (ra : Rel C γ (.int i) v) : Gives C A γ s (call (.type "str") [v]) (.str (PyData.shown (.int i))) m :=
  rel_int ra fun t => by
    have hb := big_eq
    have := log2_lt_of_le (n := i.natAbs) (b := 20) (by lia)
    refine .of_still I fun Q q => P.str_of_int (by lia) ?_
    rw [PyData.shown_int] at q
    exact q _ _ (mk_str (strOk_ofString _))
theorem biRng_ok (R : Room A (k + 3)) (I : MInv C γ m s) {a b c : Int} {ds : List D} (he : rngItems a b c = some ds) (hl : ds.length ≤ big) (ra : Rel C γ (.rng a b c) v) : Gives C A γ s (call (.type "list") [v]) (.lst ds) m :=
  rel_rng ra fun x t u w g h1 h2 h3 => by
    obtain ⟨hsize, hat⟩ := rng_items he
    refine call_list_range (s := s) R.1 (I.frozen _ _ g) (rng_small h1 h2 h3) hsize (Nat.le_trans hl (by decide)) fun h' tk acc ep hk hn hacc => ?_
    obtain ⟨J, S⟩ := I.alloc (t := tk) hk (get?_size _) hn
    have hsz : ds.length = acc.toList.length := by rw [Array.length_toList]; exact hacc.1.symm
    refine ⟨_, J, S, .lst_new (vs := acc.toList) (n := ep) S.le (Gh.put_self ..) hl (rels_of_get hsz fun i d v e1 e2 => ?_)⟩
    obtain ⟨t', rfl⟩ := hacc.2 i v (Array.getElem?_toList ▸ e2)
    rw [hat i d e1]
    exact mk_int
theorem none_of_new {h h' : Heap} (hk : ∀ a o, h.get? a = some o → h'.get? a = some o) : h.get? h'.objs.size = none := by
  cases x : h.get? h'.objs.size with
  | none => rfl
  | some o' => exact absurd (Heap.lt_size (hk _ _ x)) (Nat.lt_irrefl _)
theorem biTup_ok (I : MInv C γ m s) {ds : List D} (ra : Rel C γ (.lst ds) v) : Gives C A γ s (call (.type "tuple") [v]) (.tup ds) m :=
  rel_lst ra fun c vs n g hl rs =>
    call_tuple_list (s := s) ⟨_, I.frozen _ _ g, rfl, n, rfl⟩ (fun h' hk => by
      obtain ⟨J, S⟩ := I.alloc (t := s.toks) (h' := h'.push (tupO vs 0)) (a := h'.objs.size) (fun a o x => Heap.get?_push_of_some _ (hk a o x)) (none_of_new hk) (Heap.get?_push_size _ rfl)
      exact ⟨_, J, S, .tup_new (vs := vs) (n := 0) S.le (Gh.put_self ..) hl rs⟩) (sizes (by rw [List.size_toArray, ← rs.length]; exact hl))
theorem bi_ok (R : Room A (k + 3)) (I : MInv C γ m s) (ra : Rel C γ d v) {b : Bi} (e : biD m b d = some r) : Gives C A γ s (call b.val [v]) r m := by
  cases b with
  | len => exact len_ok I ra e
  | sorted => exact sorted_ok R I ra e
  | repr => exact repr_ok R I ra e
  | str => exact bistr_k (P := fun d r => Rel C γ d v → Gives C A γ s (call (.type "str") [v]) r m) e (fun _ hi => biStr_ok I hi) ra
  | list => exact bilist_k (P := fun d r => Rel C γ d v → Gives C A γ s (call (.type "list") [v]) r m) e (fun _ ra => rel_lst ra fun _ _ _ g hl rs => listSeq_ok I (.inl rfl) (I.frozen _ _ g) rfl rfl hl rs) (fun _ ra => rel_tup ra fun _ _ _ g hl rs => listSeq_ok I (.inr rfl) (I.frozen _ _ g) rfl rfl hl rs) (fun _ _ _ _ he hl => biRng_ok R I he hl) ra
  | tuple => exact bitup_k (P := fun d r => Rel C γ d v → Gives C A γ s (call (.type "tuple") [v]) r m) e (fun _ => biTup_ok I) ra
  | range1 => exact birng_k (P := fun d r => Rel C γ d v → Gives C A γ s (call (.type "range") [v]) r m) e (fun i hi ra => rel_int ra fun t => .of_new (o := rngO 0 i 1 s.toks t (s.toks + 1)) I rfl (fun _ _ h => ⟨_, _, _, _, rfl, h, by decide, hi, .inl rfl⟩) fun Q q => call_range_1 (q _)) ra

theorem range3_ok (I : MInv C γ m s) {a b c : Int} {t u w : Tok} (ha : a.natAbs ≤ big) (hb : b.natAbs ≤ big) (hc : c = 1 ∨ c = -1) :
    Gives C A γ s (call (.type "range") [.int a t, .int b u, .int c w]) (.rng a b c) m := by
  have := big_eq
  refine .of_new (o := rngO a b c t u w) I rfl (fun γ' L h => ?_) fun Q q => call_range_3 (by lia) (q _) (.inl (PyProof.noPylong_small (by lia)))
  exact ⟨_, _, _, _, rfl, h, ha, hb, hc⟩
end calls

section methods
variable {o d r : D} {v w : Value} {pos : Pos}

theorem dict_cls {K : Type} [DecidableEq K] {knd : KeyKind C.prog C.w K} {ob : Obj} {kvs : List (K × Value)} (h : ob.IsDictOf knd kvs) : ob.cls = .type "dict" ∧ ob.dict = none := by
  obtain ⟨_, _, h1, _⟩ := h
  exact ⟨h1.1, h1.2.1⟩
theorem dictGet_ok (I : MInv C γ m s) {x y : Sem Value} {kd dd : D} {m₁ m₂ : Mem} {ks vs : List D} {c : Addr} {ob : Obj} (ne : c ≠ sysModules) (hx : Gives C A γ s x kd m₁)
    (hy : ∀ γ₁ s₁, MInv C γ₁ m₁ s₁ → Step NoW γ s γ₁ s₁ → Gives C A γ₁ s₁ y dd m₂) (g : γ.G c = some ob) (hd : DicIs C γ ob ks vs) (hk : sameKind ks kd = true) :
    Gives C A γ s (callWith pos (.builtin "dict.get") [.ref c] [(false, x), (false, y)] []) ((findK kd ks vs).getD dd) m₂ :=
  method2_meetsIn F.slot_dict_get F.entry_dict_get (hx.thenW fun kv γ₁ s₁ I₁ S₁ r₁ => (hy γ₁ s₁ I₁ S₁).thenW fun dv γ₂ s₂ I₂ S₂ r₂ =>
    have S := S₁.trans S₂
    (hd.mono S.le).open hk (r₁.mono S₂.le) fun K _ knd f kvs x O => by
      have hm := (Heap.dictOf_iff.mpr ⟨ob, I₂.frozen _ _ (S.le.G _ _ g), O.dict⟩).mapOf
      refine ⟨hm.typeIs, F.args_dict_get_3 _ _ _, _, meets_dict_get_default knd c O.is (not_beq_sys ne) dv, _, hm, ?_⟩
      obtain ⟨J, S'⟩ := I₂.grow (t := s₂.toks + 1) (fun _ _ e => e)
      refine ⟨γ₂, J, S.trans S', ?_⟩
      cases hf : findK kd ks vs with
      | none => rw [O.find.2 hf]; exact r₂
      | some d =>
        obtain ⟨u, e1, e2⟩ := O.find.1 d hf
        rw [e1]; exact e2)
theorem get_ok (I : MInv C γ m s) {x y : Sem Value} {kd dd : D} {m₁ m₂ : Mem} (ro : Rel C γ o v) (hx : Gives C A γ s x kd m₁)
    (hy : ∀ γ₁ s₁, MInv C γ₁ m₁ s₁ → Step NoW γ s γ₁ s₁ → Gives C A γ₁ s₁ y dd m₂) (e : getD o kd dd = some r) :
    ∃ c, v = .ref c ∧ (∃ ob, s.heap.get? c = some ob ∧ ob.cls = .type "dict" ∧ ob.dict = none) ∧ Gives C A γ s (callWith pos (.builtin "dict.get") [.ref c] [(false, x), (false, y)] []) r m₂ :=
  get_k (P := fun o r => Rel C γ o v → ∃ c, v = .ref c ∧ (∃ ob, s.heap.get? c = some ob ∧ ob.cls = .type "dict" ∧ ob.dict = none) ∧ Gives C A γ s (callWith pos (.builtin "dict.get") [.ref c] [(false, x), (false, y)] []) r m₂) e
    (fun _ _ hk ro => rel_dic ro fun c ob g ne hd => ⟨c, rfl, ⟨ob, I.frozen _ _ g, hd.2.elim (fun ⟨_, h, _⟩ => dict_cls h) (fun ⟨_, h, _⟩ => dict_cls h)⟩, dictGet_ok I ne hx hy g hd hk⟩) ro

theorem lst_update {h : Heap} {c : Addr} {vs : List Value} {n : Nat} (ho : h.get? c = some (lstO vs n)) (f : Array Value → Array Value) :
    ∃ n', (h.update c (Obj.mapSeq f)).get? c = some (lstO (f vs.toArray).toList n') := by
  have := PyProof.Rows.get?_update_seq ho f
  exact ⟨_, by simpa using this⟩

/-- it is a list, mutable -/
theorem lstCell_ok (I : MInv C γ m s) (ro : Rel C γ o v) (e : lstCell m o = true) : ∃ c vs n, v = .ref c ∧ s.heap.get? c = some (lstO vs n) :=
  lstCell_k (P := fun o => Rel C γ o v → ∃ c vs n, v = .ref c ∧ s.heap.get? c = some (lstO vs n)) e (fun _ _ hm ro => rel_cell ro fun c hc => cell_lst I hc hm fun vs n ho _ _ => ⟨c, vs, n, rfl, ho⟩) ro

/-- a list of ours is written: what was in it becomes another -/
theorem writeLst {j : Nat} {c : Addr} {ds ds' : List D} {vs vs' : List Value} {n : Nat} {f : Array Value → Array Value} (I : MInv C γ m s) (hm : m[j]? = some (some (.lst ds))) (hc : γ.κ[j]? = some c) (ho : s.heap.get? c = some (lstO vs n)) (hf : (f vs.toArray).toList = vs')
    (hl : ds'.length ≤ big) (rs : Rels C γ ds' vs') (hp : D.pures ds' = true) : MInv C γ (m.set j (some (.lst ds'))) { s with heap := s.heap.update c (Obj.mapSeq f) } ∧ Step NoW γ s γ { s with heap := s.heap.update c (Obj.mapSeq f) } := by
  obtain ⟨n', ho'⟩ := lst_update ho f
  exact I.setCell (c' := .lst ds') (t := s.toks) hm hc (fun b ob hb x => (Heap.get?_update_other _ _ (Ne.symm hb)).trans x) ⟨vs', n', hf ▸ ho', hl, rs⟩ hp
theorem pures_from {ds es : List D} (h : D.pures ds = true) (k : ∀ x ∈ es, x ∈ ds ∨ x.pure = true) : D.pures es = true := by
  rw [D.pures_all, List.all_eq_true] at h ⊢
  exact fun x hx => (k x hx).elim (h x) id
theorem popDone_ok {j : Nat} {c : Addr} {ds : List D} {x : D} (I : MInv C γ m s) (hc : γ.κ[j]? = some c) (hm : m[j]? = some (some (.lst ds))) (hx : ds.getLast? = some x) {vs : List Value} {n : Nat} (ho : s.heap.get? c = some (lstO vs n)) (hl : ds.length ≤ big) (rs : Rels C γ ds vs) :
    Gives C A γ s (callWith pos (.builtin "list.pop") [.ref c] [] []) x (m.set j (some (.lst ds.dropLast))) := by
  have hlen := rs.length
  rw [List.getLast?_eq_getElem?] at hx
  obtain ⟨u, eu, ru⟩ := rs.get hx
  have hpos := (List.getElem?_eq_some_iff.mp hx).1
  refine P.pop_list (y := u) ho (by rw [hlen] at eu; simpa using eu) ?_ (sizes (by simp; lia))
  obtain ⟨J, S⟩ := writeLst (ds' := ds.dropLast) (f := fun xs => xs.eraseIdxIfInBounds (vs.toArray.size - 1)) (vs' := vs.dropLast) I hm hc ho (by
    rw [Array.eraseIdxIfInBounds]
    split
    · rw [Array.toList_eraseIdx]
      simp [List.dropLast_eq_take, List.eraseIdx_eq_take_drop_succ]
      lia
    · rename_i h; simp at h; lia) (Nat.le_trans (by simp) hl) (by
    rw [List.dropLast_eq_take, List.dropLast_eq_take, hlen]
    exact rs.take _) (pures_from (I.pure _ _ hm) fun x hx => .inl (List.dropLast_subset _ hx))
  exact ⟨γ, J, S, ru⟩
theorem pop_ok (I : MInv C γ m s) (ro : Rel C γ o v) (e : popD m o = some (r, m')) :
    ∃ c vs n, v = .ref c ∧ s.heap.get? c = some (lstO vs n) ∧ Gives C A γ s (callWith pos (.builtin "list.pop") [.ref c] [] []) r m' :=
  pop_k (P := fun o r m' => Rel C γ o v → ∃ c vs n, v = .ref c ∧ s.heap.get? c = some (lstO vs n) ∧ Gives C A γ s (callWith pos (.builtin "list.pop") [.ref c] [] []) r m') e
    (fun _ _ _ hm hx ro => rel_cell ro fun c hc => cell_lst I hc hm fun vs n ho hl rs => ⟨c, vs, n, rfl, ho, popDone_ok I hc hm hx ho hl rs⟩) ro

theorem appDone_ok {j : Nat} {c : Addr} {ds : List D} {u : Value} (I : MInv C γ m s) (hc : γ.κ[j]? = some c) (hm : m[j]? = some (some (.lst ds))) (hlt : ds.length < big) (hd : d.pure = true) (ru : Rel C γ d u) :
    ∃ items n, items.size ≤ sizeLine ∧ s.heap.get? c = some { cls := .type "list", data := .seq items n } ∧ MInv C γ (m.set j (some (.lst (ds ++ [d])))) { s with heap := s.heap.update c (Obj.mapSeq (·.push u)) } ∧ Step NoW γ s γ { s with heap := s.heap.update c (Obj.mapSeq (·.push u)) } :=
  cell_lst I hc hm fun vs n ho hl rs => ⟨vs.toArray, n, sizes (by rw [List.size_toArray, ← rs.length]; exact hl), ho, writeLst I hm hc ho (vs' := vs ++ [u]) (by simp) (by rw [List.length_append]; exact hlt) (rs.append (.one ru))
    (pures_from (I.pure _ _ hm) fun x hx => (List.mem_append.mp hx).imp_right fun h => by rw [List.mem_singleton.mp h]; exact hd)⟩
theorem app_ok (I : MInv C γ m s) {x : Sem Value} {m₁ : Mem} {c : Addr} (ro : Rel C γ o (.ref c)) (hx : Gives C A γ s x d m₁) (e : appD m₁ o d = some m') :
    Gives C A γ s (callWith pos (.builtin "list.append") [.ref c] [(false, x)] []) .none m' :=
  app_k (P := fun o m' => Rel C γ o (.ref c) → Gives C A γ s (callWith pos (.builtin "list.append") [.ref c] [(false, x)] []) .none m') e (fun j ds hm hlt hdp ro => by
    obtain ⟨c', hc, e0⟩ := ro
    cases e0
    exact P.append_list (hx.thenW fun u γ₁ s₁ I₁ S₁ ru => by
      obtain ⟨items, n, h1, ho, J, S⟩ := appDone_ok I₁ (S₁.le.κ _ _ hc) hm hlt hdp ru
      exact ⟨items, n, h1, ho, γ₁, J, S₁.trans S, mk_none⟩)) ro

theorem ext_ok (I : MInv C γ m s) {x : Sem Value} {m₁ : Mem} {c : Addr} (ro : Rel C γ o (.ref c)) (hx : Gives C A γ s x d m₁) (e : extD m₁ o d = some m') :
    Gives C A γ s (callWith pos (.builtin "list.extend") [.ref c] [(false, x)] []) .none m' :=
  ext_k (P := fun o d m' => Rel C γ o (.ref c) → Gives C A γ s x d m₁ → Gives C A γ s (callWith pos (.builtin "list.extend") [.ref c] [(false, x)] []) .none m') e (fun j ds es hm hlt hdp ro hx => by
    obtain ⟨c', hc, e0⟩ := ro
    cases e0
    exact P.extend_list (hx.thenW fun u γ₁ s₁ I₁ S₁ ru => rel_lst ru fun b ws n2 g l2 rs2 => cell_lst I₁ (S₁.le.κ _ _ hc) hm fun vs n ho hl rs => by
      have hz : (vs ++ ws).length ≤ big := len_add rs rs2 hlt
      obtain ⟨J, S⟩ := writeLst (ds' := ds ++ es) (f := fun xs => xs ++ ws.toArray) (vs' := vs ++ ws) I₁ hm (S₁.le.κ _ _ hc) ho (by simp) (by rw [List.length_append]; exact hlt) (rs.append rs2) (by
        have h1 : D.pures ds = true := I₁.pure _ _ hm
        rw [D.pures_all] at h1 hdp ⊢
        rw [List.all_append, h1, hdp]; rfl)
      exact ⟨b, vs.toArray, ws.toArray, n, n2, sizes (by rw [List.size_toArray, ← rs.length]; exact hl), by
        rw [List.size_toArray, List.size_toArray]; exact Nat.le_succ_of_le (sizes (List.length_append ▸ hz)), by
        have := sizes hz
        rw [List.length_append] at this
        unfold Builtin.List.listTooLong
        simp
        lia, rfl, ho, I₁.frozen _ _ g, γ₁, J, S₁.trans S, mk_none⟩)) ro hx

theorem keyEq_int {i j : Int} : keyEq (.int i) (.int j) = decide (i = j) := rfl

theorem stored_rel {K : Type} [DecidableEq K] (f : K → D) {x : K} {d : D} {u : Value} (hf : ∀ y, keyEq (f y) (f x) = decide (y = x)) (ru : Rel C γ d u) :
    ∀ (kvs : List (K × Value)) (vs : List D), (kvs.map (·.1)).Nodup → Rels C γ vs (kvs.map (·.2)) →
      (putK (f x) d (kvs.map fun p => f p.1) vs).1 = (stored kvs x u).map (fun p => f p.1) ∧ Rels C γ (putK (f x) d (kvs.map fun p => f p.1) vs).2 ((stored kvs x u).map (·.2)) := by
  intro kvs
  induction kvs with
  | nil =>
    intro vs _ rs
    simp only [List.map_nil, Rels] at rs
    refine ⟨by simp [putK, stored], ?_⟩
    cases vs with
    | nil => simpa [putK, stored] using Rels.one ru
    | cons a b => simp [Rels] at rs
  | cons p r ih =>
    intro vs hn rs
    cases vs with
    | nil => have := rs.length; simp at this
    | cons v0 vs0 =>
      rw [List.map_cons, Rels.cons_iff] at rs
      rw [List.map_cons, List.nodup_cons] at hn
      rw [List.map_cons, putK, hf]
      by_cases hp : p.1 = x
      · rw [decide_eq_true hp, if_pos rfl]
        have hx : x ∉ r.map (·.1) := hp ▸ hn.1
        have e : stored (p :: r) x u = (p.1, u) :: r := by
          unfold stored
          rw [if_pos (by simp [hp]), List.map_cons, if_pos hp, map_store_of_not_mem r x u hx]
        rw [e]
        exact ⟨rfl, .cons ru rs.2⟩
      · rw [decide_eq_false hp, if_neg (by decide)]
        obtain ⟨a1, a2⟩ := ih vs0 hn.2 rs.2
        have e : stored (p :: r) x u = p :: stored r x u := by
          unfold stored
          simp only [List.any_cons, hp, decide_false, Bool.false_or, List.map_cons, if_false]
          split <;> rfl
        rw [e]
        exact ⟨by rw [List.map_cons, a1], .cons rs.1 a2⟩

theorem stored_nodup {K : Type} [DecidableEq K] (kvs : List (K × Value)) (x : K) (u : Value) : ∀ p ∈ stored kvs x u, p.1 = x ∨ ∃ q ∈ kvs, q.1 = p.1 := by
  intro p hp
  unfold stored at hp
  split at hp
  · obtain ⟨q, hq, rfl⟩ := List.mem_map.mp hp
    split
    · exact .inr ⟨q, hq, rfl⟩
    · exact .inr ⟨q, hq, rfl⟩
  · rcases List.mem_append.mp hp with hp | hp
    · exact .inr ⟨p, hp, rfl⟩
    · simp at hp; subst hp; exact .inl rfl

/-- an item of a list is stored: the very heap behind it -/
theorem setAt_list {E : Value → Shared → Prop} {l : Addr} {vs : List Value} {n : Nat} {k : Int} {t : Tok} {u : Value} {Q : Unit → Shared → Prop} (ho : s.heap.get? l = some (lstO vs n)) (h0 : 0 ≤ k) (hfit : k < 2 ^ 63) (hn : k < vs.length)
    (hQ : Q () { s with heap := s.heap.update l (Obj.mapSeq fun xs => xs.setIfInBounds k.toNat u) }) : wpAny (model C.prog C.w) A (setItem (.ref l) (.int k t) u) Q E s := by
  have hT : s.TypeIs (.ref l) "list" := ⟨_, ho, rfl⟩
  unfold setItem
  try with_reducible refine wpAny_holding ?_
  first | refine wpAny_bind (wpAny_pure ?_) | skip
  refine wpAny_bind (wpAny_sequenceKey hT (by decide) ?_)
  refine wpAny_bind (wpAny_callSpecial?_slot (name := Str.ofString "__setitem__") hT slot_list_setitem (wpAny_call_entry slot_list_setitem hT entry_list_setitem ?_ (args_list_setitem _ _ _)))
  show wpAny _ _ (Builtin.List.listSubscript? (.int k t) >>= _) _ _ s
  refine wpAny_bind (wpAny_listSubscript_int (fitsIndex_of h0 hfit) ?_)
  clear hfit
  obtain ⟨j, rfl⟩ := Int.eq_ofNat_of_zero_le h0
  have hj : j < vs.toArray.size := by simp; lia
  have hx : vs.toArray[j]? = some vs.toArray[j] := Array.getElem?_eq_getElem hj
  show wpAny _ _ ((seqItemAt l j >>= fun r => pure (r.map (j, ·))) >>= _) _ _ s
  refine wpAny_bind (wpAny_bind (wpAny_seqItemAt ho rfl (wpAny_pure ?_)))
  rw [hx]
  show wpAny _ _ (setSeqItemAt l j u >>= _) _ _ s
  refine wpAny_bind (wpAny_setSeqItemAt ho rfl ?_)
  first
    | exact wpAny_bind (wpAny_pure (wpAny_pure ⟨.none, rfl, wpAny_pure hQ⟩))
    | exact wpAny_pure ⟨.none, rfl, wpAny_pure hQ⟩

theorem sameKind_pure {ks : List D} {i : D} (h : sameKind ks i = true) : i.pure = true := by
  unfold sameKind at h
  cases i <;> first | rfl | (simp [isInt, isStr] at h)
theorem putK_pure {i d : D} {ks vs : List D} (hi : i.pure = true) (hd : d.pure = true) (hp : (Cell.dic ks vs).pure = true) : (Cell.dic (putK i d ks vs).1 (putK i d ks vs).2).pure = true := by
  simp only [Cell.pure, D.pures_all, Bool.and_eq_true] at hp ⊢
  induction ks generalizing vs with
  | nil => unfold putK; simp [hi, hd]
  | cons k ks ih =>
    cases vs with
    | nil => unfold putK; simp [hi, hd]
    | cons v vs =>
      rw [putK]
      simp only [List.all_cons, Bool.and_eq_true] at hp
      split
      · simp only [List.all_cons, Bool.and_eq_true]; exact ⟨hp.1, hd, hp.2.2⟩
      · obtain ⟨a, b⟩ := ih ⟨hp.1.2, hp.2.2⟩
        simp only [List.all_cons, Bool.and_eq_true]; exact ⟨⟨hp.1.1, a⟩, hp.2.1, b⟩

theorem DicOpen.fits {ob : Obj} {ks ws : List D} {i : D} {x : Value} {K : Type} [DecidableEq K] {knd : KeyKind C.prog C.w K} {f : K → D} {kvs : List (K × Value)} {y : K} (O : DicOpen C γ ob ks ws i x K knd f kvs y) (hlt : ks.length < big) : kvs.length + 1 ≤ big := by
  rw [O.keys, List.length_map] at hlt; exact hlt
theorem DicOpen.put {ob ob' : Obj} {ks ws : List D} {i : D} {x u : Value} {K : Type} [DecidableEq K] {knd : KeyKind C.prog C.w K} {f : K → D} {kvs : List (K × Value)} {y : K} (O : DicOpen C γ ob ks ws i x K knd f kvs y) (hlt : ks.length < big) (rd : Rel C γ d u) (hI : ob'.IsDictOf knd (stored kvs y u)) :
    DicIs C γ ob' (putK i d ks ws).1 (putK i d ks ws).2 := by
  have hn : (kvs.map (·.1)).Nodup := by obtain ⟨_, _, _, _, _, _, hn⟩ := O.dict; exact hn
  obtain ⟨k1, k2⟩ := stored_rel (C := C) (γ := γ) f (x := y) (d := d) (u := u) O.eqv rd kvs ws hn O.vals
  exact O.again (stored kvs y u) _ _ _ hI (Nat.le_trans (stored_length_le kvs y u) (O.fits hlt)) (by rw [O.key, O.keys]; exact k1) (by rw [O.key, O.keys]; exact k2) (stored_nodup kvs y u)
theorem setLst_ok (I : MInv C γ m s) {j : Nat} {c : Addr} {ds : List D} {i : Int} {t : Tok} {u : Value} (hc : γ.κ[j]? = some c) (hm : m[j]? = some (some (.lst ds))) (h0 : 0 ≤ i) (hi : i.toNat < ds.length) (hd : d.pure = true) (rd : Rel C γ d u) :
    wpAny (model C.prog C.w) A (setItem (.ref c) (.int i t) u) (fun _ s' => ∃ γ', MInv C γ' (m.set j (some (.lst (ds.set i.toNat d)))) s' ∧ Step NoW γ s γ' s') (fun _ _ => False) s :=
  cell_lst I hc hm fun vs n ho hl rs => setAt_list ho h0 (small_of hl h0 hi) (lt_of_toNat h0 (rs.length ▸ hi)) (by
    obtain ⟨J, S⟩ := writeLst (ds' := ds.set i.toNat d) (f := fun xs => xs.setIfInBounds i.toNat u) (vs' := vs.set i.toNat u) I hm hc ho (by simp) (by rw [List.length_set]; exact hl) (rs.set rd _)
      (pures_from (I.pure _ _ hm) fun x hx => (List.mem_or_eq_of_mem_set hx).imp_right fun h => by rw [h]; exact hd)
    exact ⟨γ, J, S⟩)
theorem setDic_ok (I : MInv C γ m s) {j : Nat} {c : Addr} {ks ws : List D} {i : D} {u x : Value} (hc : γ.κ[j]? = some c) (hm : m[j]? = some (some (.dic ks ws))) (hk : sameKind ks i = true) (hlt : ks.length < big) (hdp : d.pure = true) (ri : Rel C γ i x) (rd : Rel C γ d u) :
    wpAny (model C.prog C.w) A (setItem (.ref c) x u) (fun _ s' => ∃ γ', MInv C γ' (m.set j (some (.dic (putK i d ks ws).1 (putK i d ks ws).2))) s' ∧ Step NoW γ s γ' s') (fun _ _ => False) s :=
  cell_dic I hc hm fun ob ho ne hd => hd.open hk ri fun K inst knd f kvs y O => by
    refine wpAny_setItem_pairs O.is (Heap.dictOf_iff.mpr ⟨ob, ho, O.dict⟩) (fun h' hD' hs => ?_) (sizes (Nat.le_of_lt (O.fits hlt)))
    obtain ⟨ob', ho', hI'⟩ := Heap.dictOf_iff.mp hD'
    obtain ⟨J, S⟩ := I.setCell (c' := .dic (putK i d ks ws).1 (putK i d ks ws).2) (t := s.toks + 1) hm hc (h' := h') (fun b o' hb x => (hs.2 b hb).trans x) ⟨ob', ho', ne, O.put hlt rd hI'⟩ (putK_pure (sameKind_pure hk) hdp (I.pure _ _ hm))
    exact ⟨γ, J, S⟩
theorem setItem_ok (I : MInv C γ m s) {i : D} {u x : Value} (ro : Rel C γ o v) (ri : Rel C γ i x) (rd : Rel C γ d u) (e : setD m o i d = some m') :
    wpAny (model C.prog C.w) A (setItem v x u) (fun _ s' => ∃ γ', MInv C γ' m' s' ∧ Step NoW γ s γ' s') (fun _ _ => False) s :=
  set_k (P := fun o i m' => Rel C γ o v → Rel C γ i x → wpAny (model C.prog C.w) A (setItem v x u) (fun _ s' => ∃ γ', MInv C γ' m' s' ∧ Step NoW γ s γ' s') (fun _ _ => False) s) e
    (fun _ _ _ hm h0 hi hd ro ri => rel_cell ro fun _ hc => rel_int ri fun _ => setLst_ok I hc hm h0 hi hd rd) (fun _ _ _ hm hk hlt hd ro ri => rel_cell ro fun _ hc => setDic_ok I hc hm hk hlt hd ri rd) ro ri
end methods
end Mine

set_option maxRecDepth 10000
namespace Mine
open PySem PySem.W PySem.SeqAt PyProof.Rows PySem.Calls

variable {C : Ctx} {γ γ' : Gh} {s s' : Shared} {m m' m₁ m₂ m₃ : Mem} {A : Around} {k : Nat} {env : Env}

/-- from a later state -/
noncomputable abbrev Later (C : Ctx) (γ : Gh) (s : Shared) (m₁ : Mem) (P : Gh → Shared → Prop) : Prop := ∀ γ₁ s₁, MInv C γ₁ m₁ s₁ → Step NoW γ s γ₁ s₁ → P γ₁ s₁

section consts
variable {i : Int} {x : Str} {b : Bool} {n : Nat} {pos p : Pos}
theorem c_none (I : MInv C γ m s) : Gives C A γ s (eval (.Constant .none n pos) env) .none m :=
  .of_still I fun _ q => wpAny_Constant_none (q _ s.toks rfl)
theorem c_bool (I : MInv C γ m s) : Gives C A γ s (eval (.Constant (.bool b) n pos) env) (.bool b) m :=
  .of_still I fun _ q => wpAny_Constant_bool (q _ s.toks rfl)
theorem c_int (I : MInv C γ m s) : Gives C A γ s (eval (.Constant (.int i) n pos) env) (.int i) m :=
  .of_still I fun _ q => wpAny_Constant_int (q _ _ ⟨_, rfl⟩)
theorem c_str (I : MInv C γ m s) (ok : PyData.strOk x = true) : Gives C A γ s (eval (.Constant (.str x) n pos) env) (.str x) m :=
  .of_still I fun _ q => wpAny_Constant_str (q _ _ ⟨ok, _, rfl⟩)
theorem c_neg (I : MInv C γ m s) : Gives C A γ s (eval (.UnaryOp .USub (.Constant (.int i) n p) pos) env) (.int (-i)) m :=
  .of_still I fun _ q => wpAny_UnaryOp (wpAny_Constant_int (neg_int (q _ _ ⟨_, rfl⟩)))
end consts

section ops
variable {l r l' : Expr} {pos : Pos} {a b d e : D} {o o' : Cop}

theorem bin_go {op : Bop} (h₁ : Gives C A γ s (eval l env) a m₁) (h₂ : Later C γ s m₁ fun γ₁ s₁ => Gives C A γ₁ s₁ (eval r env) b m₂) (e : binD op a b = some d) :
    Gives C A γ s (eval (.BinOp l op.op r pos) env) d m₂ :=
  wpAny_BinOp (h₁.thenW fun v γ₁ s₁ I₁ S₁ R₁ => (h₂ γ₁ s₁ I₁ S₁).thenW fun u γ₂ s₂ I₂ S₂ R₂ => (bin_ok I₂ (R₁.mono S₂.le) R₂ e).from (S₁.trans S₂))

theorem cmp_go (R : Room A k) {q : Bool} (h₁ : Gives C A γ s (eval l env) a m₁) (h₂ : Later C γ s m₁ fun γ₁ s₁ => Gives C A γ₁ s₁ (eval r env) b m₂) (e : cmpD m₂ o a b = some q)
    (hm : behindInMarks o.op r = false) : Gives C A γ s (eval (.Compare l [o.op] [r] pos) env) (.bool q) m₂ :=
  wpAny_Compare1 (h₁.thenW fun v γ₁ s₁ I₁ S₁ R₁ => (h₂ γ₁ s₁ I₁ S₁).thenW fun u γ₂ s₂ I₂ S₂ R₂ => (cmp_ok R I₂ (R₁.mono S₂.le) R₂ e).from (S₁.trans S₂)) hm

theorem truthy_bool (I : MInv C γ m s) (S : Step NoW γ' s' γ s) {v : Value} {q : Bool} (r : Rel C γ (.bool q) v) : wpAny (model C.prog C.w) A (truthy v) (fun v s'' => v = q ∧ ∃ γ'', MInv C γ'' m s'' ∧ Step NoW γ' s' γ'' s'') noE s := by
  obtain rfl : v = .bool q := r
  exact wpAny_truthy_bool ⟨rfl, γ, I, S⟩

theorem cmpT_go (R : Room A k) {q : Bool} (h₁ : Gives C A γ s (eval l env) a m₁) (h₂ : Later C γ s m₁ fun γ₁ s₁ => Gives C A γ₁ s₁ (eval r env) b m₂) (e : cmpD m₂ o a b = some q)
    (hm : behindInMarks o.op r = false) {whole : Sem Value} : GivesB C A γ s (isTrue (.Compare l [o.op] [r] pos) env whole) q m₂ :=
  wpAny_isTrue_Compare1 (h₁.thenW fun v γ₁ s₁ I₁ S₁ R₁ => (h₂ γ₁ s₁ I₁ S₁).thenW fun u γ₂ s₂ I₂ S₂ R₂ => (cmp_ok R I₂ (R₁.mono S₂.le) R₂ e).thenW
    fun c γ₃ s₃ I₃ S₃ R₃ => truthy_bool I₃ ((S₁.trans S₂).trans S₃) R₃) hm

theorem cmp2_stop (R : Room A k) (h₁ : Gives C A γ s (eval l env) a m₁) (h₂ : Later C γ s m₁ fun γ₁ s₁ => Gives C A γ₁ s₁ (eval r env) b m₂) (e : cmpD m₂ o a b = some false)
    (hm : lastMarks [o.op, o'.op] [r, l'] = false) : Gives C A γ s (eval (.Compare l [o.op, o'.op] [r, l'] pos) env) (.bool false) m₂ :=
  Compare_chain (h₁.thenW fun v γ₁ s₁ I₁ S₁ R₁ => chain_link ((h₂ γ₁ s₁ I₁ S₁).thenW fun u γ₂ s₂ I₂ S₂ R₂ => (cmp_ok R I₂ (R₁.mono S₂.le) R₂ e).thenW
    fun c γ₃ s₃ I₃ S₃ R₃ => by
      obtain rfl : c = .bool _ := R₃
      exact wpAny_truthy_bool ⟨γ₃, I₃, (S₁.trans S₂).trans S₃, rfl⟩)) hm
theorem cmp2_go (R : Room A k) {q : Bool} (h₁ : Gives C A γ s (eval l env) a m₁) (h₂ : Later C γ s m₁ fun γ₁ s₁ => Gives C A γ₁ s₁ (eval r env) b m₂) (e : cmpD m₂ o a b = some true)
    (h₃ : Later C γ s m₂ fun γ₁ s₁ => Gives C A γ₁ s₁ (eval l' env) d m₃) (e' : cmpD m₃ o' b d = some q)
    (hm : lastMarks [o.op, o'.op] [r, l'] = false) : Gives C A γ s (eval (.Compare l [o.op, o'.op] [r, l'] pos) env) (.bool q) m₃ :=
  Compare_chain (h₁.thenW fun v γ₁ s₁ I₁ S₁ R₁ => chain_link ((h₂ γ₁ s₁ I₁ S₁).thenW fun u γ₂ s₂ I₂ S₂ R₂ => (cmp_ok R I₂ (R₁.mono S₂.le) R₂ e).thenW
    fun c γ₃ s₃ I₃ S₃ R₃ => by
      obtain rfl : c = .bool _ := R₃
      have S := (S₁.trans S₂).trans S₃
      exact wpAny_truthy_bool (chain_last ((h₃ γ₃ s₃ I₃ S).thenW fun w γ₄ s₄ I₄ S₄ R₄ => (cmp_ok R I₄ (R₂.mono (S₃.le.trans S₄.le)) R₄ e').from (S.trans S₄)))) ) hm
theorem cmp2T_stop (R : Room A k) (h₁ : Gives C A γ s (eval l env) a m₁) (h₂ : Later C γ s m₁ fun γ₁ s₁ => Gives C A γ₁ s₁ (eval r env) b m₂) (e : cmpD m₂ o a b = some false)
    (hm : lastMarks [o.op, o'.op] [r, l'] = false) {whole : Sem Value} : GivesB C A γ s (isTrue (.Compare l [o.op, o'.op] [r, l'] pos) env whole) false m₂ :=
  isTrue_chain (h₁.thenW fun v γ₁ s₁ I₁ S₁ R₁ => test_link ((h₂ γ₁ s₁ I₁ S₁).thenW fun u γ₂ s₂ I₂ S₂ R₂ => (cmp_ok R I₂ (R₁.mono S₂.le) R₂ e).thenW
    fun c γ₃ s₃ I₃ S₃ R₃ => by
      obtain rfl : c = .bool _ := R₃
      exact wpAny_truthy_bool ⟨rfl, γ₃, I₃, (S₁.trans S₂).trans S₃⟩)) hm
theorem cmp2T_go (R : Room A k) {q : Bool} (h₁ : Gives C A γ s (eval l env) a m₁) (h₂ : Later C γ s m₁ fun γ₁ s₁ => Gives C A γ₁ s₁ (eval r env) b m₂) (e : cmpD m₂ o a b = some true)
    (h₃ : Later C γ s m₂ fun γ₁ s₁ => Gives C A γ₁ s₁ (eval l' env) d m₃) (e' : cmpD m₃ o' b d = some q)
    (hm : lastMarks [o.op, o'.op] [r, l'] = false) {whole : Sem Value} : GivesB C A γ s (isTrue (.Compare l [o.op, o'.op] [r, l'] pos) env whole) q m₃ :=
  isTrue_chain (h₁.thenW fun v γ₁ s₁ I₁ S₁ R₁ => test_link ((h₂ γ₁ s₁ I₁ S₁).thenW fun u γ₂ s₂ I₂ S₂ R₂ => (cmp_ok R I₂ (R₁.mono S₂.le) R₂ e).thenW
    fun c γ₃ s₃ I₃ S₃ R₃ => by
      obtain rfl : c = .bool _ := R₃
      have S := (S₁.trans S₂).trans S₃
      exact wpAny_truthy_bool (test_last ((h₃ γ₃ s₃ I₃ S).thenW fun w γ₄ s₄ I₄ S₄ R₄ => (cmp_ok R I₄ (R₂.mono (S₃.le.trans S₄.le)) R₄ e').thenW
        fun c γ₅ s₅ I₅ S₅ R₅ => truthy_bool I₅ ((S.trans S₄).trans S₅) R₅)))) hm

theorem not_go {q : Bool} (h₁ : Gives C A γ s (eval l env) a m₁) (e : truth a = some q) (hu : ∀ v s₁ γ₁, MInv C γ₁ m₁ s₁ → Rel C γ₁ a v → Gives C A γ₁ s₁ (unaryOp .Not v) (.bool (!q)) m₁) :
    Gives C A γ s (eval (.UnaryOp .Not l pos) env) (.bool (!q)) m₁ :=
  wpAny_UnaryOp (h₁.thenW fun v γ₁ s₁ I₁ S₁ R₁ => (hu v s₁ γ₁ I₁ R₁).from S₁)
theorem notT_go {q : Bool} (h₁ : GivesB C A γ s (isTrue l env (eval l env)) q m₁) {whole : Sem Value} : GivesB C A γ s (isTrue (.UnaryOp .Not l pos) env whole) (!q) m₁ :=
  isTrue_not (h₁.thenW fun γ₁ s₁ I₁ S₁ => ⟨rfl, γ₁, I₁, S₁⟩)

theorem ife_tt (h₁ : GivesB C A γ s (isTrue l env (eval l env)) true m₁) (h₂ : Later C γ s m₁ fun γ₁ s₁ => Gives C A γ₁ s₁ (eval r env) d m₂) :
    Gives C A γ s (eval (.IfExp l r l' pos) env) d m₂ :=
  wpAny_IfExp (h₁.thenW fun γ₁ s₁ I₁ S₁ => by
    simp only [if_true]
    exact (h₂ γ₁ s₁ I₁ S₁).from S₁)
theorem ife_ff (h₁ : GivesB C A γ s (isTrue l env (eval l env)) false m₁) (h₂ : Later C γ s m₁ fun γ₁ s₁ => Gives C A γ₁ s₁ (eval l' env) d m₂) :
    Gives C A γ s (eval (.IfExp l r l' pos) env) d m₂ :=
  wpAny_IfExp (h₁.thenW fun γ₁ s₁ I₁ S₁ => by
    simp only [Bool.false_eq_true, if_false]
    exact (h₂ γ₁ s₁ I₁ S₁).from S₁)
end ops

section bools
variable {x y : Expr} {es : List Expr} {pos : Pos} {d r : D} {op : BoolOp}

theorem bool_one (h : Gives C A γ s (eval x env) d m₁) : Gives C A γ s (eval (.BoolOp op [x] pos) env) d m₁ := h

/-- the value decides: it is the answer -/
noncomputable def stops (op : BoolOp) (q : Bool) : Bool := match op, q with | .And, false => true | .Or, true => true | _, _ => false

theorem bool_stop {q : Bool} (h : Gives C A γ s (eval x env) d m₁) (e : truth d = some q) (hq : stops op q = true) : Gives C A γ s (eval (.BoolOp op (x :: y :: es) pos) env) d m₁ := by
  show wpAny _ A (do
    let v ← eval x env
    standAt pos
    let t ← holding [v] (truthy v)
    match op, t with
    | .And, false | .Or, true => pure v
    | _, _ => boolOp pos op (evalEach (y :: es) env)) _ _ s
  refine h.then fun v γ₁ s₁ I₁ S₁ R₁ => wpAny_bind (wpAny_standAt (wpAny_bind (wpAny_holding ((truthy_ok I₁ R₁ e).thenW fun γ₂ s₂ I₂ S₂ => ?_))))
  cases op <;> cases q <;> simp [stops] at hq
  · exact wpAny_pure ⟨γ₂, I₂, S₁.trans S₂, R₁.mono S₂.le⟩
  · exact wpAny_pure ⟨γ₂, I₂, S₁.trans S₂, R₁.mono S₂.le⟩
theorem bool_go {q : Bool} (h : Gives C A γ s (eval x env) d m₁) (e : truth d = some q) (hq : stops op q = false)
    (h₂ : Later C γ s m₁ fun γ₁ s₁ => Gives C A γ₁ s₁ (eval (.BoolOp op (y :: es) pos) env) r m₂) : Gives C A γ s (eval (.BoolOp op (x :: y :: es) pos) env) r m₂ := by
  show wpAny _ A (do
    let v ← eval x env
    standAt pos
    let t ← holding [v] (truthy v)
    match op, t with
    | .And, false | .Or, true => pure v
    | _, _ => boolOp pos op (evalEach (y :: es) env)) _ _ s
  refine h.then fun v γ₁ s₁ I₁ S₁ R₁ => wpAny_bind (wpAny_standAt (wpAny_bind (wpAny_holding ((truthy_ok I₁ R₁ e).thenW fun γ₂ s₂ I₂ S₂ => ?_))))
  have S := S₁.trans S₂
  cases op <;> cases q <;> simp [stops] at hq
  · exact (h₂ γ₂ s₂ I₂ S).from S
  · exact (h₂ γ₂ s₂ I₂ S).from S

theorem andT_nil (I : MInv C γ m s) {whole : Sem Value} : GivesB C A γ s (isTrue (.BoolOp .And [] pos) env whole) true m := isTrue_and_nil ⟨rfl, γ, I, .refl ..⟩
theorem orT_nil (I : MInv C γ m s) {whole : Sem Value} : GivesB C A γ s (isTrue (.BoolOp .Or [] pos) env whole) false m := isTrue_or_nil ⟨rfl, γ, I, .refl ..⟩
theorem andT_stop (h : GivesB C A γ s (isTrue x env (eval x env)) false m₁) {whole : Sem Value} : GivesB C A γ s (isTrue (.BoolOp .And (x :: es) pos) env whole) false m₁ :=
  isTrue_and (h.thenW fun γ₁ s₁ I₁ S₁ => by simp only [Bool.false_eq_true, if_false]; exact ⟨trivial, γ₁, I₁, S₁⟩)
theorem andT_go {q : Bool} (h : GivesB C A γ s (isTrue x env (eval x env)) true m₁) {whole : Sem Value} (h₂ : Later C γ s m₁ fun γ₁ s₁ => GivesB C A γ₁ s₁ (isTrue (.BoolOp .And es pos) env whole) q m₂) :
    GivesB C A γ s (isTrue (.BoolOp .And (x :: es) pos) env whole) q m₂ :=
  isTrue_and (h.thenW fun γ₁ s₁ I₁ S₁ => by simp only [if_true]; exact (h₂ γ₁ s₁ I₁ S₁).from S₁)
theorem orT_stop (h : GivesB C A γ s (isTrue x env (eval x env)) true m₁) {whole : Sem Value} : GivesB C A γ s (isTrue (.BoolOp .Or (x :: es) pos) env whole) true m₁ :=
  isTrue_or (h.thenW fun γ₁ s₁ I₁ S₁ => by simp only [if_true]; exact ⟨trivial, γ₁, I₁, S₁⟩)
theorem orT_go {q : Bool} (h : GivesB C A γ s (isTrue x env (eval x env)) false m₁) {whole : Sem Value} (h₂ : Later C γ s m₁ fun γ₁ s₁ => GivesB C A γ₁ s₁ (isTrue (.BoolOp .Or es pos) env whole) q m₂) :
    GivesB C A γ s (isTrue (.BoolOp .Or (x :: es) pos) env whole) q m₂ :=
  isTrue_or (h.thenW fun γ₁ s₁ I₁ S₁ => by simp only [Bool.false_eq_true, if_false]; exact (h₂ γ₁ s₁ I₁ S₁).from S₁)

theorem plainT_go {q : Bool} (h : Gives C A γ s (eval x env) d m₁) (e : truth d = some q) (he : ∀ whole, isTrue x env whole = (do let v ← whole; standAt x.pos; holding [v] (truthy v))) :
    GivesB C A γ s (isTrue x env (eval x env)) q m₁ :=
  isTrue_plain (h.thenW fun v γ₁ s₁ I₁ S₁ R₁ => (truthy_ok I₁ R₁ e).from S₁) (he _)
end bools

section lists
variable {x : Expr} {es : List Expr} {pos : Pos} {d : D} {ds : List D}

noncomputable def plainArg (x : Expr) : Bool := !(Nat.beq x.ctorIdx 22)
theorem starEach_cons (h : plainArg x = true) : starEach (x :: es) env = (false, eval x env) :: starEach es env := by
  cases x <;> first | rfl | exact Bool.noConfusion h
theorem items_nil (I : MInv C γ m s) : GivesL C A γ s (spliced (backTo pos (starEach [] env))) [] m := wpAny_items_nil ⟨γ, I, .refl .., .nil⟩
theorem items_cons (hx : plainArg x = true) (h : Gives C A γ s (eval x env) d m₁) (h₂ : Later C γ s m₁ fun γ₁ s₁ => GivesL C A γ₁ s₁ (spliced (backTo pos (starEach es env))) ds m₂) :
    GivesL C A γ s (spliced (backTo pos (starEach (x :: es) env))) (d :: ds) m₂ :=
  wpAny_items_cons (h.thenW fun v γ₁ s₁ I₁ S₁ R₁ => (h₂ γ₁ s₁ I₁ S₁).thenW fun vs γ₂ s₂ I₂ S₂ R₂ => ⟨γ₂, I₂, S₁.trans S₂, .cons (R₁.mono S₂.le) R₂⟩) (starEach_cons hx)


theorem list_go (h : GivesL C A γ s (spliced (backTo pos (starEach es env))) ds m₁) (hl : ds.length ≤ big) : Gives C A γ s (eval (.List es pos) env) (.lst ds) m₁ :=
  wpAny_List (h.thenW fun vs γ₁ s₁ I₁ S₁ R₁ => by
    have e := R₁.length
    refine ⟨sizes (by lia), ?_⟩
    obtain ⟨J, S⟩ := I₁.alloc (t := s₁.toks) (h' := s₁.heap.push (lstO vs 0)) (fun a x e => Heap.get?_push_of_some _ e) (get?_size _) (Heap.get?_push_size _ rfl)
    exact ⟨_, J, S₁.trans S, .lst_new S.le (Gh.put_self ..) hl R₁⟩)
theorem tuple_go {n : Nat} (h : GivesL C A γ s (spliced (backTo pos (starEach es env))) ds m₁) (hl : ds.length ≤ big) : Gives C A γ s (eval (.Tuple es n pos) env) (.tup ds) m₁ :=
  wpAny_Tuple (h.thenW fun vs γ₁ s₁ I₁ S₁ R₁ => by
    have e := R₁.length
    refine ⟨sizes (by lia), ?_⟩
    obtain ⟨J, S⟩ := I₁.alloc (t := s₁.toks) (h' := s₁.heap.push (tupO vs 0)) (fun a x e => Heap.get?_push_of_some _ e) (get?_size _) (Heap.get?_push_size _ rfl)
    exact ⟨_, J, S₁.trans S, .tup_new S.le (Gh.put_self ..) hl R₁⟩)
theorem listc_go (h : GivesL C A γ s (spliced (backTo pos (starEach es env))) ds m₁) (hl : ds.length ≤ big) (hp : D.pures ds = true) : Gives C A γ s (eval (.List es pos) env) (.cell m₁.length) (m₁ ++ [some (.lst ds)]) :=
  wpAny_List (h.thenW fun vs γ₁ s₁ I₁ S₁ R₁ => by
    have e := R₁.length
    refine ⟨sizes (by lia), ?_⟩
    obtain ⟨J, S, R⟩ := I₁.newCell (t := s₁.toks) (c := .lst ds) (h' := s₁.heap.push (lstO vs 0)) (fun a x e => Heap.get?_push_of_some _ e) (get?_size _) ⟨vs, 0, Heap.get?_push_size _ rfl, hl, R₁⟩ hp
    exact ⟨_, J, S₁.trans S, R⟩)
/-- what is frozen: all that held the cell hold the thing -/
theorem freeze_ok {r : D} (I : MInv C γ m s) (e : freezeD m d = some (r, m')) : ∃ γ', MInv C γ' m' s ∧ Step NoW γ s γ' s ∧ d ≠ .undef ∧ ∀ v, Rel C γ d v → Rel C γ' r v :=
  frz_k (P := fun r m' => ∃ γ', MInv C γ' m' s ∧ Step NoW γ s γ' s ∧ d ≠ .undef ∧ ∀ v, Rel C γ d v → Rel C γ' r v) e
    (fun j ds hd hm => by
      subst hd
      obtain ⟨a, ha, _, vs, n, ho, hl, rs⟩ := I.mem j _ hm
      obtain ⟨J, S⟩ := I.freeze hm ha ho
      exact ⟨_, J, S, fun q => D.noConfusion q, fun v rv => rel_cell rv fun c hc => Option.some.inj (ha.symm.trans hc) ▸ .lst_new S.le (Gh.put_self ..) hl rs⟩)
    (fun j ks ws hd hm => by
      subst hd
      obtain ⟨a, ha, _, o, ho, hne, hd⟩ := I.mem j _ hm
      obtain ⟨J, S⟩ := I.freeze hm ha ho
      exact ⟨_, J, S, fun q => D.noConfusion q, fun v rv => rel_cell rv fun c hc => Option.some.inj (ha.symm.trans hc) ▸ Rel.dic_iff.mpr ⟨a, o, rfl, Gh.put_self .., hne, hd.mono S.le⟩⟩)
theorem frz_go {x : Sem Value} (h : Gives C A γ s x d m₁) {r : D} (e : freezeD m₁ d = some (r, m₂)) : Gives C A γ s x r m₂ :=
  h.thenW fun v γ₁ s₁ I₁ S₁ R₁ => by
    obtain ⟨γ₂, J, S, _, hr⟩ := freeze_ok I₁ e
    exact ⟨γ₂, J, S₁.trans S, hr v R₁⟩
end lists

section subs
variable {x y : Expr} {pos : Pos} {a b d : D}

noncomputable def notSlice (x : Expr) : Bool := !(Nat.beq x.ctorIdx 26)
theorem subscripted_plain (h : notSlice y = true) (o i : Value) : subscripted y false o i = operate [o, i] (getItem o i) := by
  cases y <;> first | rfl | exact Bool.noConfusion h
theorem idx_go (hy : notSlice y = true) (h₁ : Gives C A γ s (eval x env) a m₁) (h₂ : Later C γ s m₁ fun γ₁ s₁ => Gives C A γ₁ s₁ (eval y env) b m₂) (e : idxD m₂ a b = some d) :
    Gives C A γ s (eval (.Subscript x y pos) env) d m₂ :=
  Subscript_ (h₁.thenW fun v γ₁ s₁ I₁ S₁ R₁ => (h₂ γ₁ s₁ I₁ S₁).thenW fun u γ₂ s₂ I₂ S₂ R₂ => by
    obtain ⟨⟨T, id, hT, hl⟩, G⟩ := getItem_ok (A := A) I₂ (R₁.mono S₂.le) R₂ e
    exact tail_any hT hl (G.from (S₁.trans S₂)) (subscripted_plain hy _ _))
end subs
end Mine

set_option maxRecDepth 10000
namespace Mine
open PySem PySem.W PySem.SeqAt PyProof.Rows PySem.Calls

noncomputable def Bi.name : Bi → Str
  | .len => "len" | .sorted => "sorted" | .repr => "repr" | .str => "str" | .list => "list" | .tuple => "tuple" | .range1 => "range"

/-- the block's table, and which slot a name means -/
structure Cx where
  names : List (Str × NameKind)
  vars : List (Str × Nat)
  base : Nat

/-- what stands in the module -/
structure CtxOk (C : Ctx) : Prop where
  g : C.h₀.Ns mainGlobals C.mg
  b : C.h₀.Ns builtinsNs C.mb
  lim : C.h₀.NoLimit
  bi : ∀ b : Bi, C.mg b.name = none ∧ C.mb b.name = some b.val
  enum : C.mg "enumerate" = none ∧ C.mb "enumerate" = some (.type "enumerate")

/-- where a name's slot lies -/
noncomputable def Res (env : Env) (l : Loc) (x : Str) : Prop :=
  (l = .ns env.locals x ∧ env.kindOf x = some .local) ∨ (∃ c, l = .cell c ∧ (env.kindOf x = some .cell ∨ env.kindOf x = some .free) ∧ env.cells.lookup x = some c)

noncomputable def okName (x : Str) : Bool := !(x == ("__debug__" : Str)) && !(x == ("__classdict__" : Str))

structure EnvOk (cx : Cx) (loc : Nat → Loc) (env : Env) : Prop where
  fn : env.scope.kind = .function
  kind : ∀ x k, cx.names.lookup x = some k → k ≠ .free → env.kindOf x = some k
  globals : env.globals = mainGlobals
  builtins : env.builtins = builtinsNs
  var : ∀ x i, cx.vars.lookup x = some i → Res env (loc i) x
  high : ∀ i, cx.base ≤ i → loc i = .no

/-- the invariant that expressions run under -/
structure Inv (C : Ctx) (γ : Gh) (loc : Nat → Loc) (env : List D) (m : Mem) (s : Shared) : Prop where
  mem : MInv C γ m s
  slot : SInv C γ loc env s

variable {C : Ctx} {γ γ' : Gh} {s s' : Shared} {m m' m₁ m₂ m₃ : Mem} {A : Around} {k : Nat} {env : Env} {cx : Cx} {loc : Nat → Loc} {ρ : List D}

theorem Ns_here {h₀ : Heap} {a : Addr} {mm : Str → Option Value} (n : h₀.Ns a mm) (I : MInv C γ m s) (e : C.h₀ = h₀) : s.heap.Ns a mm := by
  subst e
  exact n.keeps fun b o x => I.frozen _ _ (I.base _ _ x)

section names
variable {x : Str} {pos : Pos} {d : D} {i : Nat}

theorem okName_debug (h : okName x = true) : (x == ("__debug__" : Str)) = false := by
  unfold okName at h; simp at h; simpa using h.1
theorem okName_class (h : okName x = true) : (x == ("__classdict__" : Str)) = false := by
  unfold okName at h; simp at h; simpa using h.2

theorem var_go (X : EnvOk cx loc env) (I : MInv C γ m s) (V : SInv C γ loc ρ s) (hx : okName x = true) (hv : cx.vars.lookup x = some i) (e : ρ[i]? = some d) (hu : d ≠ .undef) :
    Gives C A γ s (eval (.Name x pos) env) d m := by
  have hs := V.slot i
  rw [e] at hs
  simp only [Option.getD_some] at hs
  rcases X.var x i hv with ⟨hl, hk⟩ | ⟨c, hl, hk, hc⟩
  · rw [hl] at hs
    obtain ⟨mm, hn, h | ⟨v, hv', r⟩⟩ := hs
    · exact absurd h hu
    · exact wpAny_Name (wpAny_loadName_local X.fn hk hn hv' ⟨γ, I, .refl .., r⟩) (okName_debug hx)
  · rw [hl] at hs
    obtain ⟨w, hn, h | ⟨v, hv', r⟩⟩ := hs
    · exact absurd h hu
    · subst hv'
      rcases hk with hk | hk
      · exact wpAny_Name (wpAny_loadName_cell X.fn hk hc hn ⟨γ, I, .refl .., r⟩) (okName_debug hx)
      · exact wpAny_Name (wpAny_loadName_free X.fn hk hc hn ⟨γ, I, .refl .., r⟩ (okName_class hx)) (okName_debug hx)

theorem global_go (O : CtxOk C) (X : EnvOk cx loc env) (I : MInv C γ m s) (hx : okName x = true) (hk : cx.names.lookup x = some .globalImplicit) {v : Value} (e : C.mg x = some v) {Q : Value → Shared → Prop} (h : Q v s) :
    wpAny (model C.prog C.w) A (eval (.Name x pos) env) Q noE s :=
  Name_function_global X.fn (X.kind x _ hk (by decide)) (loadGlobal_global (by rw [X.globals]; exact Ns_here O.g I rfl) e h) (okName_debug hx)
theorem builtin_go (O : CtxOk C) (X : EnvOk cx loc env) (I : MInv C γ m s) (hx : okName x = true) (hk : cx.names.lookup x = some .globalImplicit) {v : Value} (e₀ : C.mg x = none) (e : C.mb x = some v) {Q : Value → Shared → Prop} (h : Q v s) :
    wpAny (model C.prog C.w) A (eval (.Name x pos) env) Q noE s :=
  Name_function_global X.fn (X.kind x _ hk (by decide)) (loadGlobal_builtin (by rw [X.globals]; exact Ns_here O.g I rfl) e₀ (by rw [X.builtins]; exact Ns_here O.b I rfl) e h) (okName_debug hx)
end names

section slices
variable {x : Expr} {pos p q u : Pos} {n kd : Nat} {d r : D}

theorem sub_go (h : Gives C A γ s (eval x env) d m₁) (e : subD d n = some r) :
    Gives C A γ s (eval (.Subscript x (.Slice none (some (.Constant (.int n) kd q)) none p) pos) env) r m₁ :=
  Subscript_ (h.thenW fun v γ₁ s₁ I₁ S₁ R₁ => wpAny_Slice (wpAny_pure (wpAny_Constant_int (k := kd) (pos := q) (wpAny_pure (by
    obtain ⟨J, S⟩ := I₁.grow (t := s₁.toks + 1) (h' := s₁.heap.push { cls := .type "slice", data := .fields #[.none, .int n s₁.toks, .none] }) (fun a o e => Heap.get?_push_of_some _ e)
    obtain ⟨⟨T, id, hT, hl⟩, G⟩ := sub_ok (A := A) (sl := s₁.heap.objs.size) J (R₁.mono S.le) ⟨_, Heap.get?_push_size _ rfl, rfl, rfl⟩ e
    exact tail_any hT hl (G.from (S₁.trans S)) rfl)))))

set_option tactic.hygienic true in
theorem rev_go (h : Gives C A γ s (eval x env) d m₁) (e : revD d = some r) :
    Gives C A γ s (eval (.Subscript x (.Slice none none (some (.UnaryOp .USub (.Constant (.int 1) kd q) u)) p) pos) env) r m₁ :=
  Subscript_ (h.thenW fun v γ₁ s₁ I₁ S₁ R₁ => wpAny_Slice (wpAny_pure (wpAny_pure (wpAny_UnaryOp (op := .USub) (x := .Constant (.int 1) kd q) (pos := u) (wpAny_Constant_int (k := kd) (pos := q) (neg_int (by
    obtain ⟨J, S⟩ := I₁.grow (t := s₁.toks + 1 + 1) (h' := s₁.heap.push { cls := .type "slice", data := .fields #[.none, .none, .int (-1) (s₁.toks + 1)] }) (fun a o e => Heap.get?_push_of_some _ e)
    cases d <;> simp only [revD] at e <;> try cases e
    rename_i ds
    have R := R₁.mono S.le
    obtain ⟨c, vs, kk, rfl, g, hl, rs⟩ := R
    have ho := J.frozen _ _ g
    have hlen := rs.length
    refine tail_any (T := "list") ⟨_, ho, rfl⟩ slot_list_getitem.lookup ?_ rfl
    refine wpAny_getItem_list_slice (lo := none) (hi := none) (st := some (-1)) ⟨_, ho, rfl, kk, rfl⟩ ⟨_, Heap.get?_push_size _ rfl, rfl, rfl⟩ .none .none (.int _ _) (by simp) ?_ (by have := big_eq; simp [sizeLine]; lia)
    rw [krv_pick]
    obtain ⟨J', S'⟩ := J.alloc (t := s₁.toks + 1 + 1) (h' := (s₁.heap.push { cls := .type "slice", data := .fields #[.none, .none, .int (-1) (s₁.toks + 1)] }).push (lstO vs.reverse 0)) (fun a x e => Heap.get?_push_of_some _ e) (get?_size _) (Heap.get?_push_size _ rfl)
    exact ⟨_, J', (S₁.trans S).trans S', .lst_new S'.le (Gh.put_self ..) (by simpa using hl) rs.reverse⟩)))))))
end slices

section bicalls
variable {x y z : Expr} {pos p : Pos} {d r a b c : D}

theorem trees1 (h : plainArg x = true) : backTo pos (starEach [x] env) = [(false, eval x env)] := by rw [starEach_cons h]; rfl
theorem trees2 (h : plainArg x = true) (h' : plainArg y = true) : backTo pos (starEach [x, y] env) = [(false, eval x env), (false, eval y env)] := by rw [starEach_cons h, starEach_cons h']; rfl
theorem trees3 (h : plainArg x = true) (h' : plainArg y = true) (h'' : plainArg z = true) : backTo pos (starEach [x, y, z] env) = [(false, eval x env), (false, eval y env), (false, eval z env)] := by
  rw [starEach_cons h, starEach_cons h', starEach_cons h'']; rfl

theorem Bi.val_cases (b : Bi) : (∃ id, b.val = .builtin id) ∨ (∃ T, b.val = .type T) := by
  cases b <;> simp [Bi.val]

theorem bi_go {b : Bi} (O : CtxOk C) (X : EnvOk cx loc env) (R : Room A (k + 3)) (I : MInv C γ m s) (hk : cx.names.lookup b.name = some .globalImplicit) (hx : plainArg x = true)
    (h : Gives C A γ s (eval x env) d m₁) (e : biD m₁ b d = some r) : Gives C A γ s (eval (.Call (.Name b.name p) [x] [] pos) env) r m₁ := by
  refine PyProof.Rows.Call_Name (trees1 hx) (builtin_go O X I (by cases b <;> decide) hk (O.bi b).1 (O.bi b).2 ?_)
  have fin : wpAny (model C.prog C.w) A (evalArgs b.val true [(false, eval x env)] []) (fun a s₁ => wpAny (model C.prog C.w) A (call b.val ([] ++ a.pos) a.kw) (fun v s' => ∃ γ', MInv C γ' m₁ s' ∧ Step NoW γ s γ' s' ∧ Rel C γ' r v) noE s₁) noE s :=
    evalArgs_plain (spliced_cons (h.thenW fun v γ₁ s₁ I₁ S₁ R₁ => spliced_nil ((bi_ok R I₁ R₁ e).from S₁)))
  rcases b.val_cases with ⟨id, hb⟩ | ⟨T, hb⟩
  · rw [hb] at fin ⊢; exact callWith_builtin rfl fin
  · rw [hb] at fin ⊢; exact PyProof.Rows.callWith_type rfl fin

theorem range3_go {i j l : Int} (O : CtxOk C) (X : EnvOk cx loc env) (I : MInv C γ m s) (hk : cx.names.lookup (Bi.name .range1) = some .globalImplicit) (hx : plainArg x = true) (hy : plainArg y = true) (hz : plainArg z = true)
    (h₁ : Gives C A γ s (eval x env) (.int i) m₁) (h₂ : Later C γ s m₁ fun γ₁ s₁ => Gives C A γ₁ s₁ (eval y env) (.int j) m₂) (h₃ : Later C γ s m₂ fun γ₁ s₁ => Gives C A γ₁ s₁ (eval z env) (.int l) m₃)
    (hi : i.natAbs ≤ big) (hj : j.natAbs ≤ big) (hl : l = 1 ∨ l = -1) : Gives C A γ s (eval (.Call (.Name "range" p) [x, y, z] [] pos) env) (.rng i j l) m₃ := by
  refine PyProof.Rows.Call_Name (trees3 hx hy hz) (builtin_go O X I (by decide) hk (O.bi .range1).1 (O.bi .range1).2 ?_)
  refine PyProof.Rows.callWith_type rfl (evalArgs_plain (spliced_cons (h₁.thenW fun v γ₁ s₁ I₁ S₁ R₁ => spliced_cons ((h₂ _ _ I₁ S₁).thenW fun v₂ γ₂ s₂ I₂ S₂ R₂ =>
    spliced_cons ((h₃ _ _ I₂ (S₁.trans S₂)).thenW fun v₃ γ₃ s₃ I₃ S₃ R₃ => spliced_nil ?_)))))
  obtain ⟨t, rfl⟩ := R₁
  obtain ⟨t', rfl⟩ := R₂
  obtain ⟨t'', rfl⟩ := R₃
  exact (range3_ok I₃ hi hj hl).from ((S₁.trans S₂).trans S₃)
end bicalls

section methods
variable {o x y : Expr} {pos p : Pos} {d r a b c : D}

noncomputable def notCall (x : Expr) : Bool := !(Nat.beq x.ctorIdx 16)
theorem attributeBase_of (h : notCall o = true) (attr : Str) (whole : Sem Value) : attributeBase o attr env whole = whole := by
  cases o <;> first | rfl | exact Bool.noConfusion h

theorem get_go (ho : notCall o = true) (hl : (p.endLine == pos.line) = true) (hx : plainArg x = true) (hy : plainArg y = true)
    (h₁ : Gives C A γ s (eval o env) a m₁) (h₂ : Later C γ s m₁ fun γ₁ s₁ => Gives C A γ₁ s₁ (eval x env) b m₂) (h₃ : Later C γ s m₂ fun γ₁ s₁ => Gives C A γ₁ s₁ (eval y env) c m₃)
    (e : getD a b c = some r) : Gives C A γ s (eval (.Call (.Attribute o "get" p) [x, y] [] pos) env) r m₃ := by
  refine wpAny_Call_method2_late (attributeBase_of ho _ _) hl (trees2 hx hy) (h₁.thenW fun v γ₁ s₁ I₁ S₁ R₁ => ?_)
  obtain ⟨cc, rfl, ⟨ob, hob, hc, hd⟩, G⟩ := get_ok (A := A) (pos := pos) I₁ R₁ (h₂ _ _ I₁ S₁) (fun γ₂ s₂ I₂ S₂ => h₃ _ _ I₂ (S₁.trans S₂)) e
  exact ⟨"dict", "dict.get", F.plainAttrs_dict, F.slot_dict_get, by with_unfolding_all rfl, ⟨ob, hob, hc⟩, fun _ e => by cases e; exact ⟨ob, hob, hd⟩, G.from S₁⟩

theorem pop_go (ho : notCall o = true) (hl : (p.endLine == pos.line) = true)
    (h₁ : Gives C A γ s (eval o env) a m₁) (e : popD m₁ a = some (r, m₂)) : Gives C A γ s (eval (.Call (.Attribute o "pop" p) [] [] pos) env) r m₂ := by
  refine wpAny_Call_method0_late (attributeBase_of ho _ _) hl (h₁.thenW fun v γ₁ s₁ I₁ S₁ R₁ => ?_)
  obtain ⟨cc, vs, n, rfl, hob, G⟩ := pop_ok (A := A) (pos := pos) I₁ R₁ e
  exact ⟨"list", "list.pop", F.plainAttrs_list, F.slot_list_pop, by with_unfolding_all rfl, ⟨_, hob, rfl⟩, fun _ e => by cases e; exact ⟨_, hob, rfl⟩, G.from S₁⟩

theorem app_go (ho : notCall o = true) (hl : (p.endLine == pos.line) = true) (hx : plainArg x = true)
    (h₁ : Gives C A γ s (eval o env) a m₁) (hc : lstCell m₁ a = true) (h₂ : Later C γ s m₁ fun γ₁ s₁ => Gives C A γ₁ s₁ (eval x env) b m₂) (e : appD m₂ a b = some m₃) :
    Gives C A γ s (eval (.Call (.Attribute o "append" p) [x] [] pos) env) .none m₃ := by
  refine wpAny_Call_method1_late (attributeBase_of ho _ _) hl (trees1 hx) (h₁.thenW fun v γ₁ s₁ I₁ S₁ R₁ => ?_)
  obtain ⟨cc, vs, n, rfl, hob⟩ := lstCell_ok I₁ R₁ hc
  exact ⟨"list", "list.append", F.plainAttrs_list, F.slot_list_append, by with_unfolding_all rfl, ⟨_, hob, rfl⟩, fun _ e => by cases e; exact ⟨_, hob, rfl⟩, (app_ok I₁ R₁ (h₂ _ _ I₁ S₁) e).from S₁⟩
theorem ext_go (ho : notCall o = true) (hl : (p.endLine == pos.line) = true) (hx : plainArg x = true)
    (h₁ : Gives C A γ s (eval o env) a m₁) (hc : lstCell m₁ a = true) (h₂ : Later C γ s m₁ fun γ₁ s₁ => Gives C A γ₁ s₁ (eval x env) b m₂) (e : extD m₂ a b = some m₃) :
    Gives C A γ s (eval (.Call (.Attribute o "extend" p) [x] [] pos) env) .none m₃ := by
  refine wpAny_Call_method1_late (attributeBase_of ho _ _) hl (trees1 hx) (h₁.thenW fun v γ₁ s₁ I₁ S₁ R₁ => ?_)
  obtain ⟨cc, vs, n, rfl, hob⟩ := lstCell_ok I₁ R₁ hc
  exact ⟨"list", "list.extend", F.plainAttrs_list, F.slot_list_extend, by with_unfolding_all rfl, ⟨_, hob, rfl⟩, fun _ e => by cases e; exact ⟨_, hob, rfl⟩, (ext_ok I₁ R₁ (h₂ _ _ I₁ S₁) e).from S₁⟩
end methods
end Mine

set_option maxRecDepth 10000
namespace Mine
open PySem PySem.W PySem.SeqAt PyProof.Rows PySem.Calls

variable {C : Ctx} {γ γ' : Gh} {s s' : Shared} {m m' m₁ m₂ m₃ : Mem} {A : Around} {k : Nat} {env : Env} {cx : Cx} {loc : Nat → Loc} {ρ : List D}

/-- the class Code -/
structure ClsOk (C : Ctx) : Prop where
  K : C.K.In C.h₀
  here : C.mg "Code" = some (.ref C.cls)
  get : plainGet C.K C.cls "" = true
  dict : hasDictIn C.K C.cls = true
  attr : ∀ n ∈ fieldNames, findIn C.K (.ref C.cls) n = some none
  make : makesIn C.K C.cls = true
  keep : keepIn C.K (.ref C.cls) = true
  set : findIn C.K (.ref C.cls) "__setattr__" = some (some (.builtin "object.__setattr__"))
  over : plainOver C.K C.cls = true

theorem K_here (O : ClsOk C) (I : MInv C γ m s) : C.K.In s.heap := O.K.keeps fun b o x => I.frozen _ _ (I.base _ _ x)

theorem FieldsAt.getL {es : List DictEntry} {ns : List Str} {vs : List Value} (h : FieldsAt es ns vs) : ns.Nodup → ∀ {k : Nat} {n : Str} {v : Value}, ns[k]? = some n → vs[k]? = some v → getL n es = some (some v) ∧ handedIn v = true := by
  induction h with
  | nil => exact fun _ _ _ _ en => nomatch en
  | @cons e es n ns v vs t hk hv hh hr ih =>
    intro nd k n' v' en ev
    have hd := List.nodup_cons.mp nd
    unfold W.getL
    rw [List.find?_cons, hk]
    cases k with
    | zero =>
      cases en; cases ev
      refine ⟨?_, hh⟩
      simp [Value.isStr, hv]
    | succ k =>
      obtain ⟨h1, h2⟩ := ih hd.2 en ev
      refine ⟨?_, h2⟩
      have hne : (Value.str _ t).isStr n' = false := decide_eq_false fun (q : n = n') => hd.1 (q ▸ List.mem_of_getElem? en)
      rw [hne]
      unfold W.getL at h1
      revert h1
      cases es.find? (·.key.isStr n') with
      | some x => exact id
      | none => exact fun h1 => by dsimp only at h1; split at h1 <;> cases h1

theorem attr_go {o : Expr} {pos : Pos} {ds : List D} {j : Nat} {n : Str} {d : D} (O : ClsOk C) (ho : notCall o = true) (h : Gives C A γ s (eval o env) (.obj ds) m₁) (hn : fieldNames[j]? = some n) (e : ds[j]? = some d) :
    Gives C A γ s (eval (.Attribute o n pos) env) d m₁ := by
  rw [arm_eval_Attribute, attributeBase_of ho]
  refine h.then fun v γ₁ s₁ I₁ S₁ R₁ => wpAny_bind (wpAny_standAt ?_)
  obtain ⟨a, dx, es, nn, vs, rfl, g, g', hf, rs⟩ := R₁
  obtain ⟨u, eu, ru⟩ := rs.get e
  obtain ⟨hl, hh⟩ := FieldsAt.getL hf (by unfold fieldNames; decide) hn eu
  refine wpAny_bind (wpAny_holding (get_value (ox := instObj C.cls dx) (od := some (dictOf es nn)) (K_here O I₁) ⟨I₁.frozen _ _ g, rfl, rfl, I₁.frozen _ _ g'⟩ (plainGet_of O.get).1
    (findObj_own O.dict (O.attr n (List.mem_of_getElem? hn)) rfl hl) hh ?_))
  refine wpAny_bind (wpAny_letTemporaryGo (wpAny_pure ?_))
  obtain ⟨J, S⟩ := I₁.grow (t := s₁.toks + 1) (fun _ _ e => e)
  exact ⟨γ₁, J, S₁.trans S, ru⟩

/-- what a call ends with -/
noncomputable def RetOk (C : Ctx) (γ : Gh) (s : Shared) (d : D) (m' : Mem) (r : Result) (s' : Shared) : Prop := match r with
  | .ok (.ret v) => ∃ γ', MInv C γ' m' s' ∧ Step NoW γ s γ' s' ∧ Rel C γ' d v
  | _ => False

/-- the module's function of that name does f -/
noncomputable def Sound (C : Ctx) (k : Nat) (name : Str) (f : Fn) : Prop :=
  ∃ a o fd, C.mg name = some (.ref a) ∧ C.h₀.get? a = some o ∧ o.data = .func fd ∧
    ∀ A γ s m ds vs d m', Room A k → MInv C γ m s → Rels C γ ds vs → f ds m = some (d, m') → codeAny (model C.prog C.w) A (.call (.ref a) ⟨vs, []⟩) (RetOk C γ s d m') s

theorem Sound.le {j : Nat} {name : Str} {f : Fn} (h : Sound C j name f) (hj : j ≤ k) : Sound C k name f := by
  obtain ⟨a, o, fd, h1, h2, h3, h4⟩ := h
  exact ⟨a, o, fd, h1, h2, h3, fun A γ s m ds vs d m' R => h4 A γ s m ds vs d m' (R.le hj)⟩

theorem plain_any {es : List Expr} {pos : Pos} (h : es.all plainArg = true) : (backTo pos (starEach es env)).any (·.1) = false := by
  induction es with
  | nil => rfl
  | cons x es ih =>
    simp only [List.all_cons, Bool.and_eq_true] at h
    rw [starEach_cons h.1]
    show (false || (backTo pos (starEach es env)).any (·.1)) = false
    rw [ih h.2]; rfl

theorem evalArgs_go {f : Value} {es : List Expr} {pos : Pos} {Q : Args → Shared → Prop} (hp : es.all plainArg = true) (hne : es ≠ [])
    (h : wpAny (model C.prog C.w) A (spliced (backTo pos (starEach es env))) (fun vs s' => Q ⟨vs, []⟩ s') noE s) : wpAny (model C.prog C.w) A (evalArgs f true (backTo pos (starEach es env)) []) Q noE s := by
  cases es with
  | nil => exact absurd rfl hne
  | cons x es =>
    simp only [List.all_cons, Bool.and_eq_true] at hp
    rw [starEach_cons hp.1] at h ⊢
    exact evalArgs_plain h

theorem call_go {name : Str} {f : Fn} {es : List Expr} {p pos : Pos} {ds : List D} {d : D} (F : Sound C k name f) (O : CtxOk C) (X : EnvOk cx loc env) (R : Room A k) (I : MInv C γ m s) (hx : okName name = true) (hk : cx.names.lookup name = some .globalImplicit)
    (hp : es.all plainArg = true) (hne : es ≠ []) (h : GivesL C A γ s (spliced (backTo pos (starEach es env))) ds m₁) (e : f ds m₁ = some (d, m₂)) : Gives C A γ s (eval (.Call (.Name name p) es [] pos) env) d m₂ := by
  obtain ⟨a, o, fd, h1, h2, h3, h4⟩ := F
  refine PyProof.Rows.Call_Name rfl (global_go O X I hx hk h1 ?_)
  refine callWith_function (o := o) (fd := fd) (evalArgs_go hp hne (h.thenW fun vs γ₁ s₁ I₁ S₁ R₁ => ⟨⟨I₁.frozen _ _ (I₁.base _ _ h2), h3⟩, wpAny_call (codeAny_mono (h4 A γ₁ s₁ m₁ ds vs d m₂ R I₁ R₁ e) fun r s' z => ?_)⟩))
  rcases r with e | (v | _ | _ | _) <;> first | exact z.elim | skip
  obtain ⟨γ₂, I₂, S₂, R₂⟩ := z
  exact ⟨γ₂, I₂, S₁.trans S₂, R₂⟩
end Mine

set_option maxRecDepth 10000
namespace Mine
open PySem PySem.W PySem.SeqAt PyProof.Rows PySem.Calls

variable {C : Ctx} {γ γ' : Gh} {s s' : Shared} {m m' m₁ m₂ m₃ : Mem} {A : Around} {k : Nat} {env : Env} {cx : Cx} {loc : Nat → Loc} {ρ : List D}

/-- self.x = x, one after the other -/
inductive InitStmts : List Stmt → List Str → Prop
  | nil : InitStmts [] []
  | cons {n : Str} {r : List Stmt} {ns : List Str} (p q u pos : Pos) (h : InitStmts r ns) : InitStmts (.Assign [.Attribute (.Name "self" p) n q] (.Name n u) pos :: r) (n :: ns)

structure InitOk (C : Ctx) : Prop where
  fn : ∃ fI o fd body, findIn C.K (.ref C.cls) "__init__" = some (some (.ref fI)) ∧ typeIn C.K (.ref fI) = some (.type "function") ∧ C.h₀.get? fI = some o ∧ o.data = .func fd ∧
    C.h₀.CodeRec fd.code fd.qualname ∧ fd.body = .stmts body ∧ InitStmts body fieldNames ∧ (∀ x a b c d e, bindArgs fd ⟨[x, a, b, c, d, e], []⟩ = pure ((("self" : Str), x) :: fieldNames.zip [a, b, c, d, e])) ∧
    (∀ x ∈ fd.scope.names, x.2 ≠ .cell) ∧ (∀ n ∈ ("self" : Str) :: fieldNames, fd.scope.names.lookup n = some .local) ∧ fd.scope.isCoroutine = false ∧ fd.scope.isGenerator = false ∧ fd.scope.kind = .function
  taker : ∀ n ∈ fieldNames, takerIn C.K C.cls n = some none

theorem FieldsAt.no {es : List DictEntry} {ns : List Str} {vs : List Value} (hf : FieldsAt es ns vs) {n : Str} (h : Int) (v : Value) (t : Tok) (hn : n ∉ ns) (hv : handedIn v = true) :
    W.getL n es = some none ∧ es.any (·.key.isStr n) = false ∧ putL n h (.str n t) v es = es ++ [⟨h, .str n t, v⟩] ∧ FieldsAt (es ++ [⟨h, .str n t, v⟩]) (ns ++ [n]) (vs ++ [v]) := by
  induction hf with
  | nil => exact ⟨rfl, rfl, rfl, .cons t rfl rfl hv .nil⟩
  | @cons e es n' ns v' vs t' hk he hh hr ih =>
    obtain ⟨h1, h2, h3, h4⟩ := ih fun q => hn (List.mem_cons_of_mem _ q)
    have hs : e.key.isStr n = false := by rw [hk]; exact decide_eq_false fun q => hn (q ▸ List.mem_cons_self)
    refine ⟨?_, ?_, ?_, .cons t' hk he hh h4⟩
    · unfold W.getL at h1 ⊢
      rw [List.find?_cons, hs]
      revert h1
      cases es.find? (·.key.isStr n) with
      | some x => exact id
      | none =>
        have : e.refKey = false := by unfold DictEntry.refKey; rw [hk]
        dsimp only
        rw [List.any_cons, this]
        exact id
    · rw [List.any_cons, hs, h2]; rfl
    · show (if e.key.isStr n then _ else e :: putL n h (.str n t) v es) = _
      rw [hs, h3]; rfl

theorem FieldsAt.length {es : List DictEntry} {ns : List Str} {vs : List Value} (h : FieldsAt es ns vs) : es.length = ns.length := by
  induction h with
  | nil => rfl
  | cons _ _ _ _ _ ih => exact congrArg (· + 1) ih

/-- the body of __init__, from some field on -/
theorem init_run {h₀ : Heap} {mm : Str → Option Value} {x dx : Addr} (O : ClsOk C) (O' : InitOk C) (X₀ : C.K.In h₀) (hk : env.scope.kind = .function) (hself : mm "self" = some (.ref x)) (kself : env.kindOf "self" = some .local) (hxd : x ≠ dx)
    (all : List Str) (hsub : ∀ n ∈ all, n ∈ fieldNames) (hkind : ∀ n ∈ all, env.kindOf n = some .local) (hdeb : ∀ n ∈ all, (n == ("__debug__" : Str)) = false) (hlen : all.length ≤ 5) (hnd : all.Nodup) :
    ∀ (rest : List Str) (body : List Stmt) (vrest : List Value) (done : List Str) (vdone : List Value) (es : List DictEntry) (n : Nat) (s : Shared) (Q : Flow → Shared → Prop),
      all = done ++ rest → InitStmts body rest → (∀ k : Nat, ∀ nm v, rest[k]? = some nm → vrest[k]? = some v → mm nm = some v) → rest.length = vrest.length → (∀ v ∈ vrest, handedIn v = true) → FieldsAt es done vdone →
      Fr h₀ env.locals s.heap mm → News h₀ env.locals s.heap [(x, instObj C.cls dx), (dx, dictOf es n)] →
      (∀ es' n' h' t, FieldsAt es' all (vdone ++ vrest) → Fr h₀ env.locals h' mm → News h₀ env.locals h' [(x, instObj C.cls dx), (dx, dictOf es' n')] → Q .next { s with heap := h', toks := t }) →
      wpAny (model C.prog C.w) A (execs body env) Q noE s := by
  intro rest
  induction rest with
  | nil =>
    intro body vrest done vdone es n s Q ha hb hm hl hv hf F N q
    cases body with
    | cons _ _ => cases hb
    | nil =>
      have : vrest = [] := by simpa using hl.symm
      subst this
      simp only [List.append_nil] at ha q
      subst ha
      exact wpAny_execs_nil (q es n s.heap s.toks hf F N)
  | cons nm rest ih =>
    intro body vrest done vdone es n s Q ha hb hm hl hv hf F N q
    cases body with
    | nil => cases hb
    | cons st body =>
      cases vrest with
      | nil => simp at hl
      | cons v vrest =>
        cases hb with | cons p qq u pos hb =>
        have hin : nm ∈ all := by rw [ha]; simp
        have hnot : nm ∉ done := by
          rw [ha] at hnd
          have := (List.nodup_append.mp hnd).2.2
          exact fun hd => this nm hd nm List.mem_cons_self rfl
        have hvv := hv v List.mem_cons_self
        obtain ⟨e1, e2, e3, e4⟩ := hf.no (PyData.keyHash C.w.params nm) v (s.toks + 1) hnot hvv
        have hel := hf.length
        have hdl : done.length ≤ 5 := by rw [ha] at hlen; simp at hlen; lia
        refine wpAny_execs_cons (plainObj_wpAny_Assign_Attribute (wpAny_Name (wpAny_loadName_local hk (hkind nm hin) F.ns (hm 0 nm v rfl rfl) ?_) (hdeb nm hin)))
        refine wpAny_Name (wpAny_loadName_local hk kself F.ns hself ?_)
        refine set_dict (ox := instObj C.cls dx) (es := es) (n := n) F X₀ N ⟨(N _ (.head _)).1, rfl, rfl, (N _ (.tail _ (.head _))).1⟩ rfl O.set O.over (O'.taker nm (hsub nm hin)) O.dict (by rw [e1]; rfl) rfl
          (.tail hxd (.head (fun _ h => (nomatch h)))) (by rw [e3]; simp; lia) fun h' F' N' => ?_
        rw [e3] at N'
        refine ih body vrest (done ++ [nm]) (vdone ++ [v]) _ _ _ Q (by rw [ha]; simp) hb (fun k nm' v' h1 h2 => hm (k + 1) nm' v' h1 h2) (by simpa using hl) (fun v' h => hv v' (List.mem_cons_of_mem _ h)) e4 F' N' fun es' n' h'' t hf' F'' N'' => ?_
        exact q es' n' h'' t (by simpa using hf') F'' N''

theorem weight_new (a : Addr) (r : List Value) : (Code.builtin "type.__call__" ⟨.ref a :: r, []⟩).weight ≤ 2 := by
  unfold Code.weight
  have h1 : (Code.builtin "type.__call__" ⟨.ref a :: r, []⟩).isGuard = false := by show guardIds.contains "type.__call__" = false; decide
  have h2 : (Code.builtin "type.__call__" ⟨.ref a :: r, []⟩).isCaller = false := rfl
  have h3 : (Code.builtin "type.__call__" ⟨.ref a :: r, []⟩).frames = 0 := rfl
  rw [h1, h2, h3]
  split <;> simp

theorem lookup_fields (x a b c d e : Value) (k : Nat) (n : Str) (v : Value) (h1 : fieldNames[k]? = some n) (h2 : [a, b, c, d, e][k]? = some v) : ((("self" : Str), x) :: fieldNames.zip [a, b, c, d, e]).reverse.lookup n = some v := by
  have hk : k < 5 := (List.getElem?_eq_some_iff.mp h1).1
  rcases hk with _ | hk
  · cases h1; cases h2; rfl
  rcases hk with _ | hk
  · cases h1; cases h2; rfl
  rcases hk with _ | hk
  · cases h1; cases h2; rfl
  rcases hk with _ | hk
  · cases h1; cases h2; rfl
  rcases hk with _ | hk
  · cases h1; cases h2; rfl
  cases hk
theorem five_of {ds : List D} {vs : List Value} (h : Rels C γ ds vs) (h5 : ds.length = 5) : ∃ a b c d e, vs = [a, b, c, d, e] := by
  have h := h.length.symm.trans h5
  have one : ∀ {k : Nat} {l : List Value}, l.length = k + 1 → ∃ a r, l = a :: r ∧ r.length = k := fun {k l} h => by
    cases l with
    | nil => cases h
    | cons a r => exact ⟨a, r, rfl, Nat.succ.inj h⟩
  obtain ⟨a, l1, rfl, h1⟩ := one h
  obtain ⟨b, l2, rfl, h2⟩ := one h1
  obtain ⟨c, l3, rfl, h3⟩ := one h2
  obtain ⟨d, l4, rfl, h4⟩ := one h3
  obtain ⟨e, l5, rfl, h5⟩ := one h4
  exact ⟨a, b, c, d, e, congrArg (fun l => [a, b, c, d, e] ++ l) (List.eq_nil_of_length_eq_zero h5)⟩
theorem Rels.handed {ds : List D} {vs : List Value} (h : Rels C γ ds vs) : (∀ d ∈ ds, d ≠ .undef) → ∀ v ∈ vs, handedIn v = true :=
  rels_ind (P := fun ds vs => (∀ d ∈ ds, d ≠ .undef) → ∀ v ∈ vs, handedIn v = true) (fun _ _ hv => nomatch hv)
    (fun d ds v vs a _ ih hu u hu' => by
      cases hu' with
      | head => exact a.handed (hu d List.mem_cons_self)
      | tail _ hu' => exact ih (fun d' hd => hu d' (List.mem_cons_of_mem _ hd)) u hu') h

theorem new_call {ds : List D} {vs : List Value} (O : CtxOk C) (O₁ : ClsOk C) (O₂ : InitOk C) (R : Room A k) (I : MInv C γ m s) (rs : Rels C γ ds vs) (h5 : ds.length = 5) (hu : ∀ d ∈ ds, d ≠ .undef) :
    codeAny (model C.prog C.w) A (.call (.ref C.cls) ⟨vs, []⟩) (RetOk C γ s (.obj ds) m) s := by
  obtain ⟨a, b, c, d, e, rfl⟩ := five_of rs h5
  have X := K_here O₁ I
  obtain ⟨fI, o, fd, body, hf, ht, ho, hdata, hcd, hbody, hinit, hbind, hcell, hloc, hco, hgen, hkind⟩ := O₂.fn
  obtain ⟨h, g, dr, tk, os⟩ := s
  refine make_core (makes_of X O₁.make) (looks_findIn X hf) (fun self => bind_fn X self ht) (.inl rfl) ?_
  have keep : ∀ b o, h.get? b = some o → ((h.push emptyDict).push (instObj C.cls h.objs.size)).get? b = some o := fun b o e => Heap.get?_push_of_some _ (Heap.get?_push_of_some _ e)
  have base : ∀ b o, C.h₀.get? b = some o → h.get? b = some o := fun b o x => I.frozen _ _ (I.base _ _ x)
  have hw := weight_new C.cls [a, b, c, d, e]
  have hroom : (A.under (.builtin "type.__call__" ⟨.ref C.cls :: [a, b, c, d, e], []⟩)).depth < recursionLimit := by
    show A.depth + _ < 1000
    have := R.2.1
    lia
  have g1 : ((h.push emptyDict).push (instObj C.cls h.objs.size)).get? (h.objs.size + 1) = some (instObj C.cls h.objs.size) := by
    have := Heap.get?_push_size (h.push emptyDict) (o := instObj C.cls h.objs.size) rfl
    rwa [Heap.size_push] at this
  have g2 : ((h.push emptyDict).push (instObj C.cls h.objs.size)).get? h.objs.size = some emptyDict := Heap.get?_push_of_some _ (Heap.get?_push_size h rfl)
  have hsz : ((h.push emptyDict).push (instObj C.cls h.objs.size)).objs.size = h.objs.size + 2 := by rw [Heap.size_push, Heap.size_push]
  refine codeAny_call_def (binds := (("self" : Str), .ref (h.objs.size + 1)) :: fieldNames.zip [a, b, c, d, e]) hroom (keep _ _ (base _ _ ho)) hdata (O.lim.keeps fun b o x => keep _ _ (base _ _ x)) (hcd.keeps fun b o x => keep _ _ (base _ _ x)) hbody
    (.of_eq (hbind _ _ _ _ _ _)) hcell (fun p hp => ?_) (fun h₁ hns hk₁ => ?_) hco hgen hkind
  · have : p.1 ∈ ("self" : Str) :: fieldNames := by
      rcases List.mem_cons.mp hp with rfl | hp
      · exact List.mem_cons_self
      · exact List.mem_cons_of_mem _ (List.of_mem_zip hp).1
    exact hloc _ this
  · have hL : (callEnv fd ((h.push emptyDict).push (instObj C.cls h.objs.size)).objs.size fI).locals = h.objs.size + 2 := hsz
    have hkd : ∀ n, (callEnv fd ((h.push emptyDict).push (instObj C.cls h.objs.size)).objs.size fI).kindOf n = fd.scope.names.lookup n := fun _ => rfl
    have hkeep : ∀ b o, h.get? b = some o → h₁.get? b = some o := fun b o e => hk₁ b o (keep b o e)
    refine wpAny_mono (init_run (mm := fun y => ((("self" : Str), Value.ref (h.objs.size + 1)) :: fieldNames.zip [a, b, c, d, e]).reverse.lookup y) (x := h.objs.size + 1) (dx := h.objs.size) (h₀ := h)
      O₁ O₂ X hkind rfl ((hkd _).trans (hloc _ List.mem_cons_self)) (Nat.succ_ne_self _) fieldNames (fun _ h => h) (fun n hn => (hkd n).trans (hloc n (List.mem_cons_of_mem _ hn))) (by unfold fieldNames; decide) (by decide) (by unfold fieldNames; decide)
      fieldNames body [a, b, c, d, e] [] [] [] 0 _ (fun f s' => f = .next ∧ RetOk C γ ⟨h, g, dr, tk, os⟩ (.obj ds) m (.ok (.ret (.ref (h.objs.size + 1)))) s') rfl hinit (lookup_fields _ _ _ _ _ _) rfl (rs.handed hu) .nil ⟨hns, hkeep, by rw [hL]; lia⟩ ?_ ?_) (fun f s' hf => ?_) (fun _ _ x => x.elim)
    · intro p hp
      rcases List.mem_cons.mp hp with rfl | hp
      · exact ⟨hk₁ _ _ g1, by rw [hL]; show h.objs.size + 1 ≠ _; lia, get?_ge (by show h.objs.size ≤ h.objs.size + 1; lia)⟩
      · simp at hp; subst hp
        exact ⟨hk₁ _ _ g2, by rw [hL]; show h.objs.size ≠ _; lia, get?_ge (Nat.le_refl _)⟩
    · intro es' n' h' t hfl F N
      refine ⟨rfl, ?_⟩
      have gx := (N _ (.head _)).1
      have gd := (N _ (.tail _ (.head _))).1
      simp only [List.nil_append] at hfl
      obtain ⟨J, S⟩ := I.alloc (t := t) F.keep (get?_size h) gd
      have n2 := I.newAddr (a := h.objs.size + 1) (get?_ge (by show h.objs.size ≤ _; lia))
      have hG : (γ.put h.objs.size (dictOf es' n')).G (h.objs.size + 1) = none := by
        show (if h.objs.size + 1 = h.objs.size then _ else _) = none
        rw [if_neg (by lia)]; exact n2.1
      have J2 := J.put gx hG n2.2
      have L2 := Gh.put_le (o := instObj C.cls h.objs.size) hG
      refine ⟨_, J2, ⟨S.le.trans L2, fun b x e => ?_, S.newκ, S.keep, S.live, S.same⟩, ?_⟩
      · have e : (if b = h.objs.size + 1 then some (instObj C.cls h.objs.size) else (γ.put h.objs.size (dictOf es' n')).G b) = some x := e
        by_cases hb : b = h.objs.size + 1
        · subst hb; exact .inr (.inl (get?_ge (by show h.objs.size ≤ _; lia)))
        · rw [if_neg hb] at e; exact S.newG b x e
      · refine ⟨h.objs.size + 1, h.objs.size, es', n', [a, b, c, d, e], rfl, Gh.put_self .., L2.G _ _ (Gh.put_self ..), hfl, rs.mono (S.le.trans L2)⟩
    · obtain ⟨rfl, hr⟩ := hf
      exact ⟨rfl, hr⟩

theorem new_go {es : List Expr} {p pos : Pos} {ds : List D} (O : CtxOk C) (O₁ : ClsOk C) (O₂ : InitOk C) (X : EnvOk cx loc env) (R : Room A k) (I : MInv C γ m s) (hk : cx.names.lookup ("Code" : Str) = some .globalImplicit)
    (hp : es.all plainArg = true) (hne : es ≠ []) (h : GivesL C A γ s (spliced (backTo pos (starEach es env))) ds m₁) (h5 : ds.length = 5) (hu : ∀ d ∈ ds, d ≠ .undef) :
    Gives C A γ s (eval (.Call (.Name "Code" p) es [] pos) env) (.obj ds) m₁ := by
  refine PyProof.Rows.Call_Name rfl (global_go O X I (by decide) hk O₁.here ?_)
  refine callWith_of (P := C.K.In) (by rw [plain_any hp]; rfl) (keeps_K O₁.keep) (evalArgs_go hp hne (h.thenW fun vs γ₁ s₁ I₁ S₁ R₁ => ⟨K_here O₁ I₁, wpAny_call (codeAny_mono (new_call O O₁ O₂ R I₁ R₁ h5 hu) fun r s' z => ?_)⟩))
  rcases r with e | (v | _ | _ | _) <;> first | exact z.elim | skip
  obtain ⟨γ₂, I₂, S₂, R₂⟩ := z
  exact ⟨γ₂, I₂, S₁.trans S₂, R₂⟩
end Mine

set_option maxRecDepth 10000
namespace Mine
open PySem PySem.W PySem.SeqAt PyProof.Rows PySem.Calls

variable {C : Ctx} {γ γ' : Gh} {s s' : Shared} {m m' m₁ m₂ m₃ : Mem} {A : Around} {k : Nat} {env : Env} {cx : Cx} {loc : Nat → Loc} {ρ : List D}

theorem keyEq_no {a : D} (h : (isInt a || isStr a) = false) (b : D) : keyEq b a = false := by
  cases b with
  | int i => cases a with
    | int j => cases h
    | _ => rfl
  | str i => cases a with
    | str j => cases h
    | _ => rfl
  | _ => rfl
theorem keyEq_symm (a b : D) : keyEq a b = keyEq b a := by
  cases a with
  | int i => cases b with
    | int j => exact decide_eq_decide.mpr eq_comm
    | _ => rfl
  | str i => cases b with
    | str j => exact decide_eq_decide.mpr eq_comm
    | _ => rfl
  | _ => exact (keyEq_no rfl b).symm

theorem putK_new {k v : D} : ∀ {ks vs : List D}, ks.length = vs.length → hasK k ks = false → putK k v ks vs = (ks ++ [k], vs ++ [v]) := by
  intro ks
  induction ks with
  | nil => exact fun {vs} h _ => by rw [List.eq_nil_of_length_eq_zero h.symm]; rfl
  | cons k' ks ih =>
    intro vs h hk
    cases vs with
    | nil => exact nomatch h
    | cons v' vs =>
      have hk := Bool.or_eq_false_iff.mp hk
      change (if keyEq k' k = true then _ else _) = _
      rw [show keyEq k' k = false from hk.1, ih (Nat.succ.inj h) hk.2]
      rfl

theorem nodupK_mid {k : D} {a b : List D} (h : nodupK (a ++ k :: b) = true) : hasK k a = false := by
  induction a with
  | nil => rfl
  | cons x a ih =>
    have h := Bool.and_eq_true_iff.mp h
    refine Bool.or_eq_false_iff.mpr ⟨?_, ih h.2⟩
    change keyEq x k = false
    rw [keyEq_symm]
    have h1 := (Bool.not_eq_true' _).mp h.1
    change (a ++ k :: b).any (fun k' => keyEq k' x) = false at h1
    rw [List.any_append, List.any_cons] at h1
    exact (Bool.or_eq_false_iff.mp (Bool.or_eq_false_iff.mp h1).2).1

noncomputable def oneKind (ks : List D) : Bool := ks.all isInt || ks.all isStr

theorem sameKind_mid {k : D} {a b : List D} (h : oneKind (a ++ k :: b) = true) : sameKind a k = true := by
  unfold oneKind at h
  unfold sameKind
  simp only [List.all_append, List.all_cons, Bool.or_eq_true, Bool.and_eq_true] at h ⊢
  rcases h with h | h
  · exact .inl ⟨h.2.1, h.1⟩
  · exact .inr ⟨h.2.1, h.1⟩

/-- keys to come fit behind those that are there -/
noncomputable def Fits (ksd wsd ks : List D) : Prop := ksd.length = wsd.length ∧ oneKind (ksd ++ ks) = true ∧ nodupK (ksd ++ ks) = true ∧ (ksd ++ ks).length ≤ 1000
theorem Fits.next {ksd wsd ks : List D} {a : D} (h : Fits ksd wsd (a :: ks)) (b : D) : sameKind ksd a = true ∧ ksd.length < big ∧ putK a b ksd wsd = (ksd ++ [a], wsd ++ [b]) ∧ Fits (ksd ++ [a]) (wsd ++ [b]) ks := by
  obtain ⟨h1, h2, h3, h4⟩ := h
  refine ⟨sameKind_mid h2, ?_, putK_new h1 (nodupK_mid h3), ?_⟩
  · rw [List.length_append, List.length_cons] at h4
    exact Nat.lt_of_le_of_lt (Nat.le_trans (Nat.le_add_right _ _) h4) (by decide)
  · unfold Fits
    rw [List.append_assoc, List.length_append, List.length_append, h1]
    exact ⟨rfl, h2, h3, h4⟩

/-- a dict in the making -/
structure Raw (C : Ctx) (γ : Gh) (s : Shared) (d : Addr) (ks vs : List D) : Prop where
  at_ : ∃ o, s.heap.get? d = some o ∧ DicIs C γ o ks vs
  G : γ.G d = none
  κ : d ∉ γ.κ
  sys : d ≠ sysModules

theorem Raw.step {d : Addr} {ks vs : List D} (r : Raw C γ s d ks vs) (S : Step NoW γ s γ' s') : Raw C γ' s' d ks vs := by
  obtain ⟨⟨o, ho, hd⟩, g, kk, sy⟩ := r
  obtain ⟨f1, f2⟩ := S.free g kk ho fun f => f.elim
  exact ⟨⟨o, S.keep _ _ ho kk (fun f => f.elim), hd.mono S.le⟩, f2, f1, sy⟩

/-- objects that nobody of ours knows are written -/
theorem MInv.writes (I : MInv C γ m s) {W : Addr → Prop} (hW : ∀ a, W a → γ.G a = none ∧ a ∉ γ.κ) {h' : Heap} {t : Nat} (hk : ∀ b o, ¬ W b → s.heap.get? b = some o → h'.get? b = some o) :
    MInv C γ m { s with heap := h', toks := t } ∧ Step W γ s γ { s with heap := h', toks := t } := by
  refine ⟨⟨fun b o e => hk b o (fun h => by rw [(hW b h).1] at e; cases e) (I.frozen b o e), I.base, I.len, I.nodup, fun b hb => let ⟨o, e⟩ := I.lt b hb; ⟨o, hk b o (fun h => (hW b h).2 hb) e⟩, fun j c e => ?_, I.pure⟩,
    ⟨.refl γ, fun _ _ e => .inl e, fun _ e => .inl e, fun b o e _ hw => hk b o hw e, fun b o e hw => ⟨o, hk b o hw e⟩, ⟨_, _, rfl⟩⟩⟩
  obtain ⟨b, h1, h2, h3⟩ := I.mem j c e
  exact ⟨b, h1, h2, h3.at fun o => hk b o fun h => (hW b h).2 (List.mem_of_getElem? h1)⟩
theorem MInv.write (I : MInv C γ m s) {a : Addr} (hG : γ.G a = none) (hκ : a ∉ γ.κ) {h' : Heap} {t : Nat} (hk : ∀ b o, b ≠ a → s.heap.get? b = some o → h'.get? b = some o) :
    MInv C γ m { s with heap := h', toks := t } ∧ Step (fun b => b = a) γ s γ { s with heap := h', toks := t } :=
  I.writes (W := fun b => b = a) (fun b e => by subst e; exact ⟨hG, hκ⟩) hk

/-- what was written was new: nothing of the old is written -/
theorem Step.drop {W W' : Addr → Prop} (x : Step W' γ s γ' s') (h : ∀ a, W' a → W a ∨ s.heap.get? a = none) : Step W γ s γ' s' := by
  have no : ∀ a o, s.heap.get? a = some o → ¬ W a → ¬ W' a := fun a o e hw w => by
    rcases h a w with h | h
    · exact hw h
    · rw [h] at e; cases e
  refine ⟨x.le, fun a o e => ?_, fun a e => ?_, fun a o e hk hw => x.keep a o e hk (no a o e hw), fun a o e hw => x.live a o e (no a o e hw), x.same⟩
  · rcases x.newG a o e with q | q | q | q
    · exact .inl q
    · exact .inr (.inl q)
    · exact .inr (.inr (.inl q))
    · rcases h a q with q | q
      · exact .inr (.inr (.inr q))
      · exact .inr (.inl q)
  · rcases x.newκ a e with q | q | q
    · exact .inl q
    · exact .inr (.inl q)
    · rcases h a q with q | q
      · exact .inr (.inr q)
      · exact .inr (.inl q)

theorem raw_store {d : Addr} {ks vs : List D} {i w : D} {x u : Value} (I : MInv C γ m s) (r : Raw C γ s d ks vs) (hk : sameKind ks i = true) (hlt : ks.length < big) (ri : Rel C γ i x) (rw_ : Rel C γ w u) :
    wpAny (model C.prog C.w) A (dictSet d x u) (fun _ s' => MInv C γ m s' ∧ Step (fun b => b = d) γ s γ s' ∧ Raw C γ s' d (putK i w ks vs).1 (putK i w ks vs).2) noE s := by
  obtain ⟨⟨ob, ho, hd⟩, hG, hκ, sy⟩ := r
  exact hd.open hk ri fun K inst knd f kvs y O => wpAny_dictSet_pairs O.is (Heap.dictOf_iff.mpr ⟨ob, ho, O.dict⟩) (fun h' hD' hs => by
    obtain ⟨ob', ho', hI'⟩ := Heap.dictOf_iff.mp hD'
    obtain ⟨J, S⟩ := I.write hG hκ (h' := h') (t := s.toks + 1) (fun b o hb e => (hs.2 b hb).trans e)
    exact ⟨J, S, ⟨ob', ho', O.put hlt rw_ hI'⟩, hG, hκ, sy⟩) (sizes (Nat.le_of_lt (O.fits hlt)))

noncomputable def GivesP (C : Ctx) (A : Around) (γ : Gh) (s : Shared) (t : Sem (List (Value × Value))) (ks vs : List D) (m' : Mem) : Prop :=
  wpAny (model C.prog C.w) A t (fun ps s' => ∃ γ', MInv C γ' m' s' ∧ Step NoW γ s γ' s' ∧ Rels C γ' ks (ps.map (·.1)) ∧ Rels C γ' vs (ps.map (·.2))) noE s

/-- the loop of a long display -/
noncomputable abbrev putEach (d : Addr) (pairs : List (Sem Value × Sem Value)) : Sem PUnit := forIn pairs PUnit.unit fun (x : Sem Value × Sem Value) (_ : PUnit) => (do
      let kv ← x.1
      let vv ← holding [kv] x.2
      holding [kv, vv] (dictSet d kv vv)
      pure (ForInStep.yield PUnit.unit) : Sem (ForInStep PUnit))

noncomputable def GivesS (C : Ctx) (A : Around) (γ : Gh) (s : Shared) (d : Addr) (pairs : List (Sem Value × Sem Value)) (ks vs : List D) (m' : Mem) : Prop :=
  ∀ ksd wsd, Raw C γ s d ksd wsd → Fits ksd wsd ks →
    wpAny (model C.prog C.w) A (putEach d pairs) (fun _ s' => ∃ γ', MInv C γ' m' s' ∧ Step (fun b => b = d) γ s γ' s' ∧ Raw C γ' s' d (ksd ++ ks) (wsd ++ vs)) noE s

section
variable {x y : Expr} {kes : List (Option Expr)} {ves : List Expr} {pos : Pos} {a b : D} {ks vs : List D}

theorem pairs_nil (I : MInv C γ m s) : GivesP C A γ s (evalPairs (pairTrees [] [] env pos)) [] [] m := pairTrees_nil_walk ⟨γ, I, .refl .., .nil, .nil⟩
theorem pairs_cons (h₁ : Gives C A γ s (eval x env) a m₁) (h₂ : Later C γ s m₁ fun γ₁ s₁ => Gives C A γ₁ s₁ (eval y env) b m₂) (h₃ : Later C γ s m₂ fun γ₁ s₁ => GivesP C A γ₁ s₁ (evalPairs (pairTrees kes ves env pos)) ks vs m₃) :
    GivesP C A γ s (evalPairs (pairTrees (some x :: kes) (y :: ves) env pos)) (a :: ks) (b :: vs) m₃ :=
  pairTrees_cons_walk (h₁.thenW fun v γ₁ s₁ I₁ S₁ R₁ => (h₂ _ _ I₁ S₁).thenW fun u γ₂ s₂ I₂ S₂ R₂ => wpAny_mono (h₃ _ _ I₂ (S₁.trans S₂)) (fun ps s₃ ⟨γ₃, I₃, S₃, R₃, R₄⟩ =>
    ⟨γ₃, I₃, (S₁.trans S₂).trans S₃, .cons (R₁.mono (S₂.le.trans S₃.le)) R₃, .cons (R₂.mono S₃.le) R₄⟩) fun _ _ e => e)

theorem puts_nil {d : Addr} (I : MInv C γ m s) : GivesS C A γ s d (pairTrees [] [] env pos) [] [] m := fun ksd wsd r _ => by
  show wpAny _ A (forIn [] PUnit.unit _) _ _ s
  rw [List.forIn_nil]
  rw [List.append_nil, List.append_nil]
  exact wpAny_pure ⟨γ, I, .refl .., r⟩
theorem puts_cons {d : Addr} (h₁ : Gives C A γ s (eval x env) a m₁) (h₂ : Later C γ s m₁ fun γ₁ s₁ => Gives C A γ₁ s₁ (eval y env) b m₂)
    (h₃ : ∀ γ₁ s₁, MInv C γ₁ m₂ s₁ → Step (fun b => b = d) γ s γ₁ s₁ → GivesS C A γ₁ s₁ d (pairTrees kes ves env pos) ks vs m₃) :
    GivesS C A γ s d (pairTrees (some x :: kes) (y :: ves) env pos) (a :: ks) (b :: vs) m₃ := fun ksd wsd r f => by
  obtain ⟨f1, f2, f3, f4⟩ := f.next b
  show wpAny _ A (forIn ((eval x env, (do let x ← eval y env; standAt pos; pure x)) :: pairTrees kes ves env pos) PUnit.unit _) _ _ s
  rw [List.forIn_cons]
  refine wpAny_bind (h₁.then fun v γ₁ s₁ I₁ S₁ R₁ => wpAny_bind (wpAny_holding ((h₂ _ _ I₁ S₁).then fun u γ₂ s₂ I₂ S₂ R₂ => wpAny_bind (wpAny_standAt (wpAny_pure ?_)))))
  have S := S₁.trans S₂
  refine wpAny_bind (wpAny_holding (wpAny_mono (raw_store I₂ (r.step S) f1 f2 (R₁.mono S₂.le) R₂) (fun _ s₃ z => ?_) fun _ _ e => e.elim))
  obtain ⟨I₃, S₃, r₃⟩ := z
  refine wpAny_pure ?_
  rw [f3] at r₃
  have S' := (S.weaken (W := fun b => b = d)).trans S₃
  refine wpAny_mono (h₃ γ₂ s₃ I₃ S' (ksd ++ [a]) (wsd ++ [b]) r₃ f4) (fun _ s₄ z => ?_) fun _ _ e => e
  obtain ⟨γ₄, I₄, S₄, r₄⟩ := z
  rw [List.append_assoc, List.append_assoc] at r₄
  exact ⟨γ₄, I₄, S'.trans S₄, r₄⟩

theorem Raw.new (I : MInv C γ m s) (O : CtxOk C) {h₁ : Heap} {t : Nat} (e : h₁ = s.heap.push { cls := .type "dict", data := .dict #[] }) :
    MInv C γ m { s with heap := h₁, toks := t } ∧ Step NoW γ s γ { s with heap := h₁, toks := t } ∧ Raw C γ { s with heap := h₁, toks := t } s.heap.objs.size [] [] := by
  subst e
  obtain ⟨J, S⟩ := I.grow (t := t) (h' := s.heap.push { cls := .type "dict", data := .dict #[] }) (fun a o e => Heap.get?_push_of_some _ e)
  obtain ⟨n1, n2⟩ := I.newAddr (get?_size s.heap)
  have hsys : s.heap.objs.size ≠ sysModules := by
    obtain ⟨o, _, _, ho, _⟩ := O.g
    have h2 : mainGlobals < s.heap.objs.size := Heap.lt_size (I.frozen _ _ (I.base _ _ ho))
    have h1 : sysModules < mainGlobals := by decide
    exact Nat.ne_of_gt (Nat.lt_trans h1 h2)
  obtain ⟨ob, hob, hD⟩ := Heap.dictOf_iff.mp (Heap.DictOf.new (knd := intKind C.prog C.w) s.heap)
  exact ⟨J, S, ⟨ob, hob, ⟨Nat.zero_le _, .inl ⟨[], hD, rfl, .nil⟩⟩⟩, n1, n2, hsys⟩

theorem Raw.freeze {d : Addr} (I : MInv C γ m s) (r : Raw C γ s d ks vs) : ∃ γ', MInv C γ' m s ∧ γ.Le γ' ∧ (∀ b o, γ'.G b = some o → γ.G b = some o ∨ b = d) ∧ γ'.κ = γ.κ ∧ Rel C γ' (.dic ks vs) (.ref d) := by
  obtain ⟨⟨ob, ho, hd⟩, hG, hκ, sy⟩ := r
  have L := Gh.put_le (o := ob) hG
  refine ⟨_, I.put ho hG hκ, L, fun b o e => ?_, rfl, Rel.dic_iff.mpr ⟨d, ob, rfl, Gh.put_self .., sy, hd.mono L⟩⟩
  have e : (if b = d then some ob else γ.G b) = some o := e
  by_cases hb : b = d
  · exact .inr hb
  · rw [if_neg hb] at e; exact .inl e

theorem dicc_go (O : CtxOk C) (I : MInv C γ m s) : Gives C A γ s (eval (.Dict [] [] pos) env) (.cell m.length) (m ++ [some (.dic [] [])]) := by
  refine wpAny_Dict_empty ?_
  obtain ⟨_, _, ⟨⟨ob, ho, hd⟩, hG, hκ, sy⟩⟩ := Raw.new (t := s.toks) I O rfl
  obtain ⟨J, S, R⟩ := I.newCell (t := s.toks) (c := .dic [] []) (h' := s.heap.push { cls := .type "dict", data := .dict #[] }) (fun a x e => Heap.get?_push_of_some _ e) (get?_size _) ⟨ob, ho, sy, hd⟩ rfl
  exact ⟨_, J, S, R⟩

/-- storing all, one behind the other -/
theorem storeAll_go {d : Addr} {γ : Gh} (ps : List (Value × Value)) : ∀ (ks vs ksd wsd : List D) (s : Shared), MInv C γ m s → Raw C γ s d ksd wsd → Fits ksd wsd ks → Rels C γ ks (ps.map (·.1)) → Rels C γ vs (ps.map (·.2)) →
    wpAny (model C.prog C.w) A (forIn ps PUnit.unit fun (x : Value × Value) (_ : PUnit) => (do dictSet d x.1 x.2; pure (ForInStep.yield PUnit.unit) : Sem (ForInStep PUnit)))
      (fun _ s' => MInv C γ m s' ∧ Step (fun b => b = d) γ s γ s' ∧ Raw C γ s' d (ksd ++ ks) (wsd ++ vs)) noE s := by
  induction ps with
  | nil =>
    intro ks vs ksd wsd s I r _ R₁ R₂
    rw [List.eq_nil_of_length_eq_zero R₁.length, List.eq_nil_of_length_eq_zero R₂.length, List.forIn_nil, List.append_nil, List.append_nil]
    exact wpAny_pure ⟨I, .refl .., r⟩
  | cons p ps ih =>
    intro ks vs ksd wsd s I r f R₁ R₂
    cases ks with
    | nil => exact nomatch R₁.length
    | cons k ks => cases vs with
      | nil => exact nomatch R₂.length
      | cons v vs =>
        obtain ⟨f1, f2, f3, f4⟩ := f.next v
        obtain ⟨a1, a2⟩ := Rels.cons_iff.mp R₁
        obtain ⟨b1, b2⟩ := Rels.cons_iff.mp R₂
        rw [List.forIn_cons]
        refine wpAny_bind (wpAny_bind (wpAny_mono (raw_store I r f1 f2 a1 b1) (fun _ s₁ z => wpAny_pure ?_) fun _ _ e => e))
        obtain ⟨I₁, S₁, r₁⟩ := z
        rw [f3] at r₁
        refine wpAny_mono (ih ks vs (ksd ++ [k]) (wsd ++ [v]) s₁ I₁ r₁ f4 a2 b2) (fun _ s₂ z => ?_) fun _ _ e => e
        obtain ⟨I₂, S₂, r₂⟩ := z
        rw [List.append_assoc, List.append_assoc] at r₂
        exact ⟨I₂, S₁.trans S₂, r₂⟩

theorem freeze_end {γ₀ : Gh} {s₀ : Shared} {d : Addr} (hd : s₀.heap.get? d = none) (S : Step (fun b => b = d) γ₀ s₀ γ s) (I : MInv C γ m s) (r : Raw C γ s d ks vs) :
    ∃ γ', MInv C γ' m s ∧ Step NoW γ₀ s₀ γ' s ∧ Rel C γ' (.dic ks vs) (.ref d) := by
  obtain ⟨γ', I', L, h1, h2, R⟩ := r.freeze I
  have S' : Step NoW γ₀ s₀ γ s := S.drop fun a e => .inr (e ▸ hd)
  refine ⟨γ', I', ⟨S'.le.trans L, fun a o e => ?_, fun a e => S'.newκ a (h2 ▸ e), S'.keep, S'.live, S'.same⟩, R⟩
  rcases h1 a o e with h | h
  · exact S'.newG a o h
  · exact .inr (.inl (h ▸ hd))

theorem dic_go (O : CtxOk C) (I : MInv C γ m s) (hall : kes.all (·.isSome) = true) (hl : kes.length = ves.length) (h0 : kes ≠ []) (hlen : kes.length ≤ 16) (h1 : oneKind ks = true) (h2 : nodupK ks = true) (h3 : ks.length ≤ 1000)
    (hP : Later C γ s m fun γ₁ s₁ => GivesP C A γ₁ s₁ (evalPairs (pairTrees kes ves env pos)) ks vs m₁) (hS : Later C γ s m fun γ₁ s₁ => ∀ d, s.heap.get? d = none → GivesS C A γ₁ s₁ d (pairTrees kes ves env pos) ks vs m₁) :
    Gives C A γ s (eval (.Dict kes ves pos) env) (.dic ks vs) m₁ := by
  have hn := pairTrees_length kes ves env pos hall hl
  rw [arm_eval_Dict, zip_pairTrees kes ves env pos hall hl, dictDisplay_pairs _ (by intro he; rw [he] at hn; exact h0 (List.length_eq_zero_iff.mp hn.symm)) (by lia)]
  refine wpAny_bind (wpAny_standAt (wpAny_bind ?_))
  unfold subDict
  refine wpAny_bind (wpAny_alloc ?_)
  obtain ⟨J, S, r⟩ := Raw.new (t := s.toks) I O rfl
  have hfresh := get?_size s.heap
  refine wpAny_bind (wpAny_holding ?_)
  by_cases h15 : (pairTrees kes ves env pos).length ≤ 15
  · rw [if_pos h15]
    refine wpAny_bind (wpAny_mono (hP _ _ J S) (fun ps s₁ z => ?_) fun _ _ e => e)
    obtain ⟨γ₁, I₁, S₁, R₁, R₂⟩ := z
    refine wpAny_holding ?_
    refine wpAny_bind (wpAny_mono (storeAll_go ps ks vs [] [] s₁ I₁ (r.step S₁) ⟨rfl, h1, h2, h3⟩ R₁ R₂) (fun _ s₂ z => ?_) fun _ _ e => e)
    obtain ⟨I₂, S₂, r₂⟩ := z
    exact wpAny_pure (wpAny_pure (wpAny_pure (freeze_end hfresh (((S.trans S₁).weaken).trans S₂) I₂ r₂)))
  · rw [if_neg h15]
    refine wpAny_bind (wpAny_rule ?_)
    refine wpAny_bind (wpAny_mono (hS _ _ J S _ hfresh [] [] r ⟨rfl, h1, h2, h3⟩) (fun _ s₂ z => ?_) fun _ _ e => e)
    obtain ⟨γ₂, I₂, S₂, r₂⟩ := z
    exact wpAny_pure (wpAny_pure (wpAny_pure (freeze_end hfresh ((S.weaken).trans S₂) I₂ r₂)))
end
end Mine

set_option maxRecDepth 10000
namespace Mine
open PySem PySem.W PySem.SeqAt PyProof.Rows PySem.Calls

variable {C : Ctx} {γ γ' γ₀ : Gh} {s s' : Shared} {m m' m₁ m₂ m₃ : Mem} {A : Around} {k : Nat} {env : Env} {cx : Cx} {loc : Nat → Loc} {ρ : List D}

/-- an iterator that goes over ds; its own objects are W -/
structure IterOk (C : Ctx) (A : Around) (tup : Bool) (I : Addr) (ds : List D) (W : Addr → Prop) (St : Nat → Gh → Shared → Prop) : Prop where
  frame : ∀ i γ s γ' s' m m' W', St i γ s → MInv C γ m s → Step W' γ s γ' s' → MInv C γ' m' s' → (∀ a, W a → ¬ W' a) → St i γ' s'
  own : ∀ i γ s, St i γ s → ∀ a, W a → γ.G a = none ∧ a ∉ γ.κ ∧ ∃ o, s.heap.get? a = some o
  item : ∀ target i γ s m d, St i γ s → MInv C γ m s → ds[i]? = some d → (tup = false ∧ ∃ x p, target = .Name x p) ∨ (∃ es n p, target = .Tuple es n p) →
    wpAny (model C.prog C.w) A (pyNext (.ref I)) (fun r s₁ => ∃ v, r = some v ∧ wpAny (model C.prog C.w) A (letOwnedTupleGo target (.ref I) v)
      (fun _ s₂ => ∃ γ', MInv C γ' m s₂ ∧ Step W γ s γ' s₂ ∧ St (i + 1) γ' s₂ ∧ Rel C γ' d v) noE s₁) noE s
  done : ∀ γ s m, St ds.length γ s → MInv C γ m s → wpAny (model C.prog C.w) A (pyNext (.ref I)) (fun r s₁ => r = none ∧ MInv C γ m s₁ ∧ Step W γ s γ s₁) noE s
  self : ∀ i γ s m, St i γ s → MInv C γ m s → wpAny (model C.prog C.w) A (pyIter (.ref I)) (fun r s₁ => r = .ref I ∧ s₁ = s) noE s

/-- classes whose iterators own a tuple -/
noncomputable def owners : List String := ["enumerate", "zip", "dict_itemiterator", "dict_reverseitemiterator", "odict_iterator", "itertools.zip_longest", "itertools.pairwise"]

theorem notOwner {E : Value → Shared → Prop} {target : Expr} {I : Addr} {v : Value} {o : Obj} {T : String} {Q : Unit → Shared → Prop} (ho : s.heap.get? I = some o) (hc : o.cls = .type T) (hT : T ∉ owners)
    (ht : (∃ x p, target = .Name x p) ∨ (∃ es n p, target = .Tuple es n p)) (h : Q () s) : wpAny (model C.prog C.w) A (letOwnedTupleGo target (.ref I) v) Q E s := by
  rcases ht with ⟨x, p, rfl⟩ | ⟨es, n, p, rfl⟩
  · exact wpAny_pure h
  · unfold letOwnedTupleGo
    cases v with
    | ref a =>
      refine wpAny_bind (wpAny_load ho ?_)
      rw [hc]
      have hn : (["enumerate", "zip", "dict_itemiterator", "dict_reverseitemiterator", "odict_iterator", "itertools.zip_longest", "itertools.pairwise"].contains T) = false :=
        Bool.eq_false_iff.mpr fun hq => hT (List.contains_iff_mem.mp hq)
      generalize o.data = dd
      cases dd with
      | fields vs =>
        dsimp only
        rw [hn]
        exact wpAny_pure h
      | _ => exact wpAny_pure h
    | _ => exact wpAny_pure h

/-- the library's walks, over frozen things -/
noncomputable def StW (C : Ctx) (γ₀ : Gh) (wr : List Addr) (St : Nat → Heap → Prop) (i : Nat) (γ : Gh) (s : Shared) : Prop :=
  St i s.heap ∧ γ₀.Le γ ∧ ∀ a ∈ wr, γ.G a = none ∧ a ∉ γ.κ ∧ ∃ o, s.heap.get? a = some o

theorem StW.frame {wr fp : List Addr} {St : Nat → Heap → Prop} (hfr : ∀ i h h', St i h → (∀ b ∈ fp, ∀ o, h.get? b = some o → h'.get? b = some o) → St i h') (hfp : ∀ b ∈ fp, b ∈ wr ∨ ∃ o, γ₀.G b = some o)
    {i : Nat} {W' : Addr → Prop} (h : StW C γ₀ wr St i γ s) (I : MInv C γ m s) (S : Step W' γ s γ' s') (I' : MInv C γ' m' s') (hW : ∀ a, a ∈ wr → ¬ W' a) : StW C γ₀ wr St i γ' s' := by
  obtain ⟨h1, h2, h3⟩ := h
  refine ⟨hfr _ _ _ h1 fun b hb o e => ?_, h2.trans S.le, fun a ha => ?_⟩
  · rcases hfp b hb with hw | ⟨o', g⟩
    · exact S.keep b o e (h3 b hw).2.1 (hW b hw)
    · have g1 := h2.G _ _ g
      have := I.frozen _ _ g1
      rw [e] at this; cases this
      exact I'.frozen _ _ (S.le.G _ _ g1)
  · obtain ⟨a1, a2, o, a3⟩ := h3 a ha
    obtain ⟨f1, f2⟩ := S.free a1 a2 a3 (hW a ha)
    exact ⟨f2, f1, o, S.keep a o a3 a2 (hW a ha)⟩

theorem StW.next {wr : List Addr} {St : Nat → Heap → Prop} {i j : Nat} {h' : Heap} {t : Nat} (h : StW C γ₀ wr St i γ s) (I : MInv C γ m s) (hk : ∀ b o, b ∉ wr → s.heap.get? b = some o → h'.get? b = some o) :
    MInv C γ m { s with heap := h', toks := t } ∧ Step (· ∈ wr) γ s γ { s with heap := h', toks := t } ∧ ((St j h' ∧ ∀ a ∈ wr, ∃ o, h'.get? a = some o) → StW C γ₀ wr St j γ { s with heap := h', toks := t }) := by
  obtain ⟨h1, h2, h3⟩ := h
  obtain ⟨J, S⟩ := I.writes (W := (· ∈ wr)) (h' := h') (t := t) (fun a ha => ⟨(h3 a ha).1, (h3 a ha).2.1⟩) hk
  exact ⟨J, S, fun ⟨hs, hl⟩ => ⟨hs, h2, fun a ha => ⟨(h3 a ha).1, (h3 a ha).2.1, hl a ha⟩⟩⟩

theorem IterOk.of_walks {I : Addr} {ds : List D} {fp wr : List Addr} {P : Nat → Value → Prop} {St : Nat → Heap → Prop} (W : Walks C.prog C.w A I fp wr ds.length P St) (hfp : ∀ b ∈ fp, b ∈ wr ∨ ∃ o, γ₀.G b = some o)
    (hP : ∀ i v, P i v → ∃ d, ds[i]? = some d ∧ Rel C γ₀ d v) (hlive : ∀ i h, St i h → ∀ a ∈ wr, ∃ o, h.get? a = some o)
    (hgo : ∀ i h, St i h → ∃ o T, h.get? I = some o ∧ o.cls = .type T ∧ T ∉ owners) : IterOk C A false I ds (· ∈ wr) (StW C γ₀ wr St) where
  frame := fun i γ s γ' s' m m' W' h I S I' hW => h.frame W.frame hfp I S I' hW
  own := fun i γ s h => h.2.2
  item := fun target i γ s m d h I e ht => by
    have hi : i < ds.length := (List.getElem?_eq_some_iff.mp e).1
    refine W.item i _ _ _ hi h.1 fun v h' tk hPv hst hk => ⟨v, rfl, ?_⟩
    obtain ⟨J, S, nx⟩ := h.next (j := i + 1) (t := tk) I hk
    obtain ⟨o, T, ho, hc, hT⟩ := hgo _ _ hst
    obtain ⟨d', e', r⟩ := hP i v hPv
    rw [e] at e'; cases e'
    exact notOwner ho hc hT (ht.imp And.right id) ⟨γ, J, S, nx ⟨hst, hlive _ _ hst⟩, r.mono h.2.1⟩
  done := fun γ s m h I => W.done _ _ _ h.1 fun h' tk hk => by
    obtain ⟨J, S, _⟩ := h.next (j := 0) (t := tk) I hk
    exact ⟨rfl, J, S⟩
  self := fun i γ s m h I => W.self i _ _ _ h.1 ⟨rfl, rfl⟩

/-- what an iterator's making gives -/
noncomputable def ItGives (C : Ctx) (A : Around) (tup : Bool) (γ : Gh) (s : Shared) (m : Mem) (ds : List D) (t : Sem Value) : Prop :=
  wpAny (model C.prog C.w) A t (fun it s' => ∃ I W St, it = .ref I ∧ IterOk C A tup I ds W St ∧ (∀ a, W a → s.heap.get? a = none) ∧ MInv C γ m s' ∧ Step NoW γ s γ s' ∧ St 0 γ s') noE s

theorem notOwn {T : String} (h : T ∉ owners := by decide) : T ∉ owners := h

set_option tactic.hygienic true in
theorem iter_ok (hh : A.handled = none) (I : MInv C γ m s) {d : D} {v : Value} {ds : List D} (r : Rel C γ d v) (e : items d = some ds) : ItGives C A false γ s m ds (pyIter v) := by
  cases d <;> simp only [items] at e <;> try cases e
  case tup =>
    obtain ⟨c, vs, n, rfl, g, hl, rs⟩ := r
    have ho := I.frozen _ _ g
    have hlt : c ≠ s.heap.objs.size := Nat.ne_of_lt (Heap.lt_size ho)
    refine wpAny_pyIter_tuple (items := vs.toArray) ⟨_, ho, rfl, n, rfl⟩ ?_
    obtain ⟨J, S⟩ := I.grow (t := s.toks) (h' := s.heap.push { cls := .type "tuple_iterator", data := .fields #[.ref c, .int 0 0] }) (fun a o e => Heap.get?_push_of_some _ e)
    have W := Walks.tuple (prog := C.prog) (w := C.w) hh s.heap.objs.size c hlt vs.toArray
    have hsz : vs.toArray.size = ds.length := by rw [List.size_toArray]; exact rs.length.symm
    rw [hsz] at W
    refine ⟨_, _, _, rfl, IterOk.of_walks (γ₀ := γ) W (fun b hb => ?_) (fun i v hv => ?_) (fun i h hst a ha => ?_) (fun i h hst => ?_), fun a ha => ?_, J, S, ⟨⟨⟨_, Heap.get?_push_size _ rfl, rfl, rfl⟩, ⟨_, Heap.get?_push_of_some _ ho, rfl, n, rfl⟩⟩, .refl γ, fun a ha => ?_⟩⟩
    · simp at hb; rcases hb with rfl | rfl
      · exact .inl (by simp)
      · exact .inr ⟨_, g⟩
    · exact rs.getV (by simpa using hv)
    · simp at ha; subst ha; obtain ⟨⟨o, ho, _⟩, _⟩ := hst; exact ⟨o, ho⟩
    · obtain ⟨⟨o, ho, hc, _⟩, _⟩ := hst; exact ⟨o, _, ho, hc, notOwn⟩
    · simp at ha; subst ha; exact get?_size _
    · simp at ha; subst ha
      obtain ⟨n1, n2⟩ := I.newAddr (get?_size s.heap)
      exact ⟨n1, n2, _, Heap.get?_push_size _ rfl⟩
  case lst =>
    obtain ⟨c, vs, n, rfl, g, hl, rs⟩ := r
    have ho := I.frozen _ _ g
    have hlt : c ≠ s.heap.objs.size := Nat.ne_of_lt (Heap.lt_size ho)
    refine wpAny_pyIter_list (items := vs.toArray) ⟨_, ho, rfl, n, rfl⟩ ?_
    obtain ⟨J, S⟩ := I.grow (t := s.toks) (h' := s.heap.push { cls := .type "list_iterator", data := .fields #[.ref c, .int 0 0] }) (fun a o e => Heap.get?_push_of_some _ e)
    have W := Walks.list (prog := C.prog) (w := C.w) hh s.heap.objs.size c hlt vs.toArray
    have hsz : vs.toArray.size = ds.length := by rw [List.size_toArray]; exact rs.length.symm
    rw [hsz] at W
    refine ⟨_, _, _, rfl, IterOk.of_walks (γ₀ := γ) W (fun b hb => ?_) (fun i v hv => ?_) (fun i h hst a ha => ?_) (fun i h hst => ?_), fun a ha => ?_, J, S, ⟨⟨⟨_, Heap.get?_push_size _ rfl, rfl, rfl⟩, ⟨_, Heap.get?_push_of_some _ ho, rfl, n, rfl⟩⟩, .refl γ, fun a ha => ?_⟩⟩
    · simp at hb; rcases hb with rfl | rfl
      · exact .inl (by simp)
      · exact .inr ⟨_, g⟩
    · exact rs.getV (by simpa using hv)
    · simp at ha; subst ha; obtain ⟨⟨o, ho, _⟩, _⟩ := hst; exact ⟨o, ho⟩
    · obtain ⟨⟨o, ho, hc, _⟩, _⟩ := hst; exact ⟨o, _, ho, hc, notOwn⟩
    · simp at ha; subst ha; exact get?_size _
    · simp at ha; subst ha
      obtain ⟨n1, n2⟩ := I.newAddr (get?_size s.heap)
      exact ⟨n1, n2, _, Heap.get?_push_size _ rfl⟩
  case rng a b c =>
    obtain ⟨x, t, u, w, rfl, g, ha, hb, hc⟩ := r
    have ho := I.frozen _ _ g
    obtain ⟨hn, hi⟩ := rng_items e
    refine wpAny_pyIter_range (t := t) (u := u) (v := w) ho (rng_small ha hb hc) ?_
    obtain ⟨J, S⟩ := I.grow (t := s.toks) (h' := s.heap.push { cls := .type "range_iterator", data := .fields #[rawInt a, rawInt (Builtin.Range.rangeSize a b c), rawInt c] }) (fun a o e => Heap.get?_push_of_some _ e)
    have W := Walks.range (prog := C.prog) (w := C.w) hh s.heap.objs.size a c ds.length
    refine ⟨_, _, _, rfl, IterOk.of_walks (γ₀ := γ) (ds := ds) (P := fun i v => i < ds.length ∧ ∃ t, v = .int (a + i * c) t) ⟨W.sub, W.frame, fun i s Q E hi st hQ => W.item i s Q E hi st fun v h' tk hp => hQ v h' tk ⟨hi, hp⟩, W.done, W.self⟩ (fun b hb => .inl hb) (fun i v hv => ?_) (fun i h hst a ha => ?_) (fun i h hst => ?_), fun a ha => ?_, J, S, ⟨?_, .refl γ, fun a ha => ?_⟩⟩
    · obtain ⟨hlt, t, rfl⟩ := hv
      have e1 := List.getElem?_eq_getElem hlt
      refine ⟨_, e1, ?_⟩
      rw [hi i _ e1]
      exact ⟨_, rfl⟩
    · simp at ha; subst ha; exact ⟨_, hst⟩
    · exact ⟨_, _, hst, rfl, notOwn⟩
    · simp at ha; subst ha; exact get?_size _
    · show IsRangeIter _ _ _ _ _
      rw [hn]
      have := Heap.get?_push_size s.heap (o := { cls := .type "range_iterator", data := .fields #[rawInt a, rawInt (ds.length : Nat), rawInt c] }) rfl
      simpa using this
    · simp at ha; subst ha
      obtain ⟨n1, n2⟩ := I.newAddr (get?_size s.heap)
      exact ⟨n1, n2, _, Heap.get?_push_size _ rfl⟩

theorem enumD_get : ∀ (ds : List D) (i j : Nat) (d : D), (enumD ds j)[i]? = some d → ∃ d', ds[i]? = some d' ∧ d = .tup [.int ((j + i : Nat)), d']
  | [], i, j, d, e => by simp [enumD] at e
  | x :: ds, 0, j, d, e => by simp [enumD] at e; exact ⟨x, rfl, by rw [← e]; simp⟩
  | x :: ds, i + 1, j, d, e => by
    simp only [enumD, List.getElem?_cons_succ] at e
    obtain ⟨d', h1, h2⟩ := enumD_get ds i (j + 1) d e
    exact ⟨d', by simpa using h1, by rw [h2]; simp [Nat.add_comm, Nat.add_left_comm]⟩
theorem enumD_length : ∀ (ds : List D) (j : Nat), (enumD ds j).length = ds.length
  | [], _ => rfl
  | _ :: ds, j => by simp [enumD, enumD_length ds (j + 1)]

noncomputable def StE (C : Ctx) (γ₀ : Gh) (e it l : Addr) (vs : List Value) (i : Nat) (γ : Gh) (s : Shared) : Prop :=
  ((∃ old, IsEnum s.heap e it i old) ∧ s.heap.IsListIter it l i ∧ s.heap.IsList l vs.toArray) ∧ γ₀.Le γ ∧ ∀ a ∈ [e, it], γ.G a = none ∧ a ∉ γ.κ ∧ ∃ o, s.heap.get? a = some o

theorem iterOk_enum (hh : A.handled = none) {e it l : Addr} {ds : List D} {vs : List Value} {n : Nat} (g : γ₀.G l = some (lstO vs n)) (rs : Rels C γ₀ ds vs) (hei : e ≠ it) (hle : l ≠ e) (hli : l ≠ it) :
    IterOk C A true e (enumD ds 0) (· ∈ [e, it]) (StE C γ₀ e it l vs) where
  frame := fun i γ s γ' s' m m' W' h I S I' hW => by
    have := StW.frame (C := C) (γ₀ := γ₀) (wr := [e, it]) (fp := [e, it, l]) (St := fun i h => (∃ old, IsEnum h e it i old) ∧ h.IsListIter it l i ∧ h.IsList l vs.toArray) (fun i h h' hst hk => by
      obtain ⟨⟨old, he⟩, hit, hl⟩ := hst
      exact ⟨⟨old, hk e (by simp) _ he⟩, hit.at fun o x => hk it (by simp) o x, hl.at fun o x => hk l (by simp) o x⟩)
      (fun b hb => by
        simp at hb
        rcases hb with rfl | rfl | rfl
        · exact .inl (by simp)
        · exact .inl (by simp)
        · exact .inr ⟨_, g⟩) (i := i) h I S I' hW
    exact this
  own := fun i γ s h => h.2.2
  item := fun target i γ s m d h I ed ht => by
    obtain ⟨⟨⟨old, he⟩, hit, hl⟩, L, own⟩ := h
    obtain ⟨d', hd', rfl⟩ := enumD_get ds i 0 d ed
    obtain ⟨x, hx, rx⟩ := rs.get hd'
    have helt : e < s.heap.objs.size := Heap.lt_size he
    have hilt : it < s.heap.objs.size := by obtain ⟨_, x, _⟩ := hit; exact Heap.lt_size x
    refine wpAny_pyNext_enum_item he hit hl (x := x) (by simpa using hx) hei fun h' ho hit' hT hsz hk => ⟨_, rfl, ?_⟩
    have ht : ∃ es n p, target = .Tuple es n p := by
      rcases ht with ⟨q, _⟩ | q
      · cases q
      · exact q
    obtain ⟨es, nn, p, rfl⟩ := ht
    refine wpAny_letOwnedTupleGo_enum ho fun h'' he'' hs'' => ?_
    have hsz' : s.heap.objs.size ≠ e := Nat.ne_of_gt helt
    have hT'' : h''.get? s.heap.objs.size = some (tupO [.int i s.toks, x] 0) := (hs''.2 _ hsz').trans hT
    obtain ⟨J, S⟩ := I.writes (W := (· ∈ [e, it])) (h' := h'') (t := s.toks + 1) (fun a ha => ⟨(own a ha).1, (own a ha).2.1⟩) (fun b o hb y => (hs''.2 b (fun q => hb (by simp [q]))).trans (hk b o (fun q => hb (by simp [q])) (fun q => hb (by simp [q])) y))
    obtain ⟨n1, n2⟩ := I.newAddr (get?_size s.heap)
    have L2 := Gh.put_le (o := tupO [.int i s.toks, x] 0) n1
    have putG : ∀ b o, (γ.put s.heap.objs.size (tupO [.int i s.toks, x] 0)).G b = some o → γ.G b = some o ∨ b = s.heap.objs.size := fun b o y => by
      have y : (if b = s.heap.objs.size then some (tupO [.int i s.toks, x] 0) else γ.G b) = some o := y
      by_cases hb : b = s.heap.objs.size
      · exact .inr hb
      · rw [if_neg hb] at y; exact .inl y
    refine ⟨_, J.put hT'' n1 n2, ⟨S.le.trans L2, fun b o y => ?_, S.newκ, S.keep, S.live, S.same⟩, ⟨⟨⟨x, by simpa using he''⟩, ?_, ?_⟩, L.trans L2, fun a ha => ?_⟩, ?_⟩
    · rcases putG b o y with q | q
      · exact S.newG b o q
      · subst q; exact .inr (.inl (get?_size _))
    · exact hit'.at fun o y => (hs''.2 it hei.symm).trans y
    · exact hl.at fun o y => (hs''.2 l hle).trans (hk l o hle hli y)
    · obtain ⟨a1, a2, a3⟩ := own a ha
      refine ⟨?_, a2, ?_⟩
      · show (if a = s.heap.objs.size then _ else γ.G a) = none
        have : a ≠ s.heap.objs.size := by
          obtain ⟨o, ho⟩ := a3
          exact Nat.ne_of_lt (Heap.lt_size ho)
        rw [if_neg this]; exact a1
      · simp at ha
        rcases ha with rfl | rfl
        · exact ⟨_, he''⟩
        · obtain ⟨o, y, _⟩ := hit'; exact ⟨o, (hs''.2 _ hei.symm).trans y⟩
    · refine ⟨_, [.int i s.toks, x], 0, rfl, Gh.put_self .., by simp [big], .cons ?_ (.cons (rx.mono (L.trans L2)) .nil)⟩
      exact ⟨s.toks, by rw [Nat.zero_add]⟩
  done := fun γ s m h I => by
    obtain ⟨⟨⟨old, he⟩, hit, hl⟩, L, own⟩ := h
    rw [enumD_length] at he hit
    refine wpAny_pyNext_enum_end hh he hit hl (by simp [rs.length]) fun h' hx => ?_
    obtain ⟨J, S⟩ := I.writes (W := (· ∈ [e, it])) (h' := h') (t := s.toks) (fun a ha => ⟨(own a ha).1, (own a ha).2.1⟩) (fun b o hb y => hx b o (fun q => hb (by simp [q])) y)
    exact ⟨rfl, J, S⟩
  self := fun i γ s m h I => by
    obtain ⟨⟨⟨old, he⟩, _, _⟩, _⟩ := h
    exact wpAny_pyIter_enum he ⟨rfl, rfl⟩

theorem enum_go {x : Expr} {p pos : Pos} {ds : List D} (hh : A.handled = none) (O : CtxOk C) (X : EnvOk cx loc env) (I : MInv C γ m s) (hk : cx.names.lookup ("enumerate" : Str) = some .globalImplicit) (hx : plainArg x = true)
    (h : Gives C A γ s (eval x env) (.lst ds) m₁) {Q : Value → Shared → Prop}
    (q : ∀ v γ₁ s₁, MInv C γ₁ m₁ s₁ → Step NoW γ s γ₁ s₁ → wpAny (model C.prog C.w) A (pyIter v) (fun it s' => ∃ I W St, it = .ref I ∧ IterOk C A true I (enumD ds 0) W St ∧ (∀ a, W a → s.heap.get? a = none) ∧ MInv C γ₁ m₁ s' ∧ Step NoW γ s γ₁ s' ∧ St 0 γ₁ s') noE s₁ → Q v s₁) :
    wpAny (model C.prog C.w) A (eval (.Call (.Name "enumerate" p) [x] [] pos) env) Q noE s := by
  refine PyProof.Rows.Call_Name (trees1 hx) (builtin_go O X I (by decide) hk O.enum.1 O.enum.2 ?_)
  refine PyProof.Rows.callWith_type rfl (evalArgs_plain (spliced_cons (h.thenW fun v γ₁ s₁ I₁ S₁ R₁ => spliced_nil ?_)))
  obtain ⟨c, vs, n, rfl, g, hl, rs⟩ := R₁
  have ho := I₁.frozen _ _ g
  have hlt : c < s₁.heap.objs.size := Heap.lt_size ho
  refine call_enumerate_list (items := vs.toArray) ⟨_, ho, rfl, n, rfl⟩ fun h' he hit hsz hkeep => ?_
  obtain ⟨J, S⟩ := I₁.grow (t := s₁.toks) hkeep
  have hne : c ≠ s₁.heap.objs.size := Nat.ne_of_lt hlt
  have hne' : c ≠ s₁.heap.objs.size + 1 := Nat.ne_of_lt (Nat.lt_succ_of_lt hlt)
  have f1 : ∀ a, s₁.heap.get? a = none → s.heap.get? a = none := fun a ha => (S₁.none_of ha).resolve_right fun f => f
  refine q _ _ _ J (S₁.trans S) (wpAny_pyIter_enum he ⟨_, _, _, rfl, iterOk_enum (γ₀ := γ₁) hh g rs (Nat.succ_ne_self _) hne' hne, fun a ha => f1 a ?_, J, S₁.trans S, ⟨⟨.none, he⟩, hit, ⟨_, hkeep _ _ ho, rfl, n, rfl⟩⟩, .refl _, fun a ha => ?_⟩)
  · simp at ha
    rcases ha with rfl | rfl
    · exact get?_ge (Nat.le_succ _)
    · exact get?_size _
  · simp at ha
    rcases ha with rfl | rfl
    · obtain ⟨n1, n2⟩ := I₁.newAddr (get?_ge (h := s₁.heap) (a := s₁.heap.objs.size + 1) (Nat.le_succ _))
      exact ⟨n1, n2, _, he⟩
    · obtain ⟨n1, n2⟩ := I₁.newAddr (get?_size s₁.heap)
      obtain ⟨o, ho', _⟩ := hit
      exact ⟨n1, n2, o, ho'⟩
end Mine

set_option maxRecDepth 10000
namespace Mine
open PySem PySem.W PySem.SeqAt PyProof.Rows PySem.Calls

variable {C : Ctx} {γ γ' γ₀ : Gh} {s s' : Shared} {m m' m₁ m₂ m₃ : Mem} {A : Around} {k : Nat} {env : Env} {cx : Cx} {loc : Nat → Loc} {ρ ρ' : List D}

/-- the objects that slots lie in -/
noncomputable def Wl (loc : Nat → Loc) : Addr → Prop := fun a => ∃ i, (loc i).addr = some a

theorem set_getD (ρ : List D) (i j : Nat) (d : D) : (ρ.set i d)[j]?.getD .undef = if i = j ∧ i < ρ.length then d else ρ[j]?.getD .undef := by
  rw [List.getElem?_set]
  by_cases hij : i = j
  · subst hij
    by_cases hl : i < ρ.length
    · simp [hl]
    · have : ρ[i]? = none := List.getElem?_eq_none (Nat.le_of_not_lt hl)
      simp [hl]
  · simp [hij]

theorem ns_cell {h : Heap} {L : Addr} {mm : Str → Option Value} {w : Option Value} (a : h.Ns L mm) (b : h.IsCell L w) : False := by
  obtain ⟨o1, es, ep, a1, b1, _⟩ := a
  obtain ⟨o2, a2, b2⟩ := b
  rw [a1] at a2; cases a2
  rw [b1] at b2; cases b2
theorem ns_same {h : Heap} {L : Addr} {f g : Str → Option Value} (a : h.Ns L f) (b : h.Ns L g) : f = g := by
  obtain ⟨o1, es1, ep1, a1, b1, c1, d1⟩ := a
  obtain ⟨o2, es2, ep2, a2, b2, c2, d2⟩ := b
  rw [a1] at a2; cases a2
  rw [b1] at b2; cases b2
  exact funext fun z => (d1 z).symm.trans (d2 z)
/-- one slot's object is written: the others stand -/
theorem store_end {i : Nat} {d : D} {a : Addr} {h' : Heap} {t : Nat} (hl : (loc i).addr = some a) (I : MInv C γ m s) (V : SInv C γ loc ρ s) (keep : ∀ b, b ≠ a → h'.get? b = s.heap.get? b)
    (self : ∀ x, x = .undef ∨ x = d → SlotOk C γ h' x (loc i)) (oth : ∀ j x, i ≠ j → (loc j).addr = some a → SlotOk C γ s.heap x (loc j) → SlotOk C γ h' x (loc j)) :
    MInv C γ m { s with heap := h', toks := t } ∧ Step (fun a => (loc i).addr = some a) γ s γ { s with heap := h', toks := t } ∧ SInv C γ loc (ρ.set i d) { s with heap := h', toks := t } := by
  have hsep := V.sep i a hl
  obtain ⟨J, S⟩ := I.write hsep.2 hsep.1 (h' := h') (t := t) (fun b o hb e => (keep b hb).trans e)
  refine ⟨J, S.weaken' fun a e => e ▸ hl, ⟨fun j => ?_, V.inj, V.sep⟩⟩
  rw [set_getD]
  by_cases hij : i = j
  · subst hij
    by_cases hlen : i < ρ.length
    · rw [if_pos ⟨rfl, hlen⟩]; exact self _ (.inr rfl)
    · rw [if_neg (fun h => hlen h.2), List.getElem?_eq_none (Nat.le_of_not_lt hlen)]; exact self _ (.inl rfl)
  · rw [if_neg (fun h => hij h.1)]
    by_cases hj : (loc j).addr = some a
    · exact oth j _ hij hj (V.slot j)
    · exact (V.slot j).at fun b hb o e => (keep b fun q => hj (q ▸ hb)).trans e
theorem store_go {i : Nat} {x : Str} {d : D} {v : Value} (hk : env.scope.kind = .function) (hr : Res env (loc i) x) (I : MInv C γ m s) (V : SInv C γ loc ρ s) (r : Rel C γ d v) :
    wpAny (model C.prog C.w) A (storeName env x v) (fun _ s' => MInv C γ m s' ∧ Step (fun a => (loc i).addr = some a) γ s γ s' ∧ SInv C γ loc (ρ.set i d) s') noE s := by
  have hs := V.slot i
  rcases hr with ⟨hl, hkd⟩ | ⟨c, hl, hkd, hc⟩
  · rw [hl] at hs
    obtain ⟨mm, hn, _⟩ := hs
    refine wpAny_storeName_local hkd hn (fun h' hn' hsb => store_end (a := env.locals) (by rw [hl]; rfl) I V hsb.2 (fun y hy => ?_) fun j y hij hj hy => ?_) (by rw [hk]; rfl)
    · rw [hl]
      exact ⟨_, hn', hy.imp id fun (e : y = d) => ⟨v, if_pos rfl, e ▸ r⟩⟩
    · cases hlj : loc j with
      | no => rw [hlj] at hj; cases hj
      | ns L z =>
        rw [hlj] at hj hy
        cases hj
        obtain ⟨mj, hnj, hvj⟩ := hy
        have hzx : z ≠ x := fun h => hij (V.inj i j (by rw [hl, hlj, h]) (by rw [hl]; exact fun h => nomatch h))
        refine ⟨_, hn', hvj.imp id fun ⟨u, e1, e2⟩ => ⟨u, (if_neg hzx).trans ?_, e2⟩⟩
        rw [ns_same hn hnj]; exact e1
      | cell c =>
        rw [hlj] at hj hy
        cases hj
        obtain ⟨w, hw, _⟩ := hy
        exact (ns_cell hn hw).elim
  · rw [hl] at hs
    obtain ⟨w₀, hw, _⟩ := hs
    have go : ∀ h', h'.IsCell c (some v) → Heap.SameBut c s.heap h' → MInv C γ m { s with heap := h' } ∧ Step (fun a => (loc i).addr = some a) γ s γ { s with heap := h' } ∧ SInv C γ loc (ρ.set i d) { s with heap := h' } := fun h' hc' hsb => by
      refine store_end (a := c) (t := s.toks) (by rw [hl]; rfl) I V hsb.2 (fun y hy => ?_) fun j y hij hj hy => ?_
      · rw [hl]
        exact ⟨_, hc', hy.imp id fun (e : y = d) => ⟨v, rfl, e ▸ r⟩⟩
      · cases hlj : loc j with
        | no => rw [hlj] at hj; cases hj
        | ns L z =>
          rw [hlj] at hj hy
          cases hj
          obtain ⟨mj, hnj, _⟩ := hy
          exact (ns_cell hnj hw).elim
        | cell c' =>
          rw [hlj] at hj
          cases hj
          exact absurd (V.inj i j (by rw [hl, hlj]) (by rw [hl]; exact fun h => nomatch h)) hij
    rcases hkd with hkd | hkd
    · exact wpAny_storeName_cell hk hkd hc hw go
    · exact storeName_free hk hkd hc hw go

/-- the AST of a target -/
noncomputable def nmIs (cx : Cx) (e : Expr) (i : Nat) : Bool := onName e fun x _ => okName x && cx.vars.lookup x == some i
noncomputable def nmsIs (cx : Cx) : List Nat → List Expr → Bool
  | [], es => es.isEmpty
  | i :: is, es => conc es fun e es => nmIs cx e i && nmsIs cx is es
noncomputable def tgtIs (cx : Cx) (t : Tgt) (e : Expr) : Bool := match t with
  | .v i => nmIs cx e i
  | .t is => onTuple e fun es _ _ => nmsIs cx is es
@[elab_as_elim] theorem nm_k {P : Expr → Prop} {e : Expr} {i : Nat} (h : nmIs cx e i = true) (k : ∀ x p, okName x = true → cx.vars.lookup x = some i → P (.Name x p)) : P e :=
  onName_k h fun x p h => k x p (andl h) (eq_of_beq (andr h))
theorem tgt_k {P : Tgt → Expr → Prop} {t : Tgt} {e : Expr} (h : tgtIs cx t e = true) (kv : ∀ i x p, okName x = true → cx.vars.lookup x = some i → P (.v i) (.Name x p)) (kt : ∀ is es n p, nmsIs cx is es = true → P (.t is) (.Tuple es n p)) : P t e := by
  cases t with
  | v i => exact nm_k (P := P (.v i)) h (kv i)
  | t is => exact onTuple_k (P := P (.t is)) h (kt is)

theorem tgtIs.kind {t : Tgt} {e : Expr} (h : tgtIs cx t e = true) : (∃ x p, e = .Name x p) ∨ (∃ es n p, e = .Tuple es n p) :=
  tgt_k (P := fun _ e => (∃ x p, e = .Name x p) ∨ (∃ es n p, e = .Tuple es n p)) h (fun _ x p _ _ => .inl ⟨x, p, rfl⟩) (fun _ es n p _ => .inr ⟨es, n, p, rfl⟩)
/-- after stores -/
noncomputable def Stored (C : Ctx) (W : Addr → Prop) (loc : Nat → Loc) (γ : Gh) (s : Shared) (ρ' : List D) (m : Mem) (s' : Shared) : Prop := ∃ γ', MInv C γ' m s' ∧ Step W γ s γ' s' ∧ SInv C γ' loc ρ' s'

/-- what the targets write -/
noncomputable def Wt (loc : Nat → Loc) (t : Tgt) : Addr → Prop := fun a => match t with
  | .v i => (loc i).addr = some a
  | .t is => ∃ i ∈ is, (loc i).addr = some a

theorem setMany_ind {P : List D → List Nat → List D → List D → Prop} (nil : ∀ ρ, P ρ [] [] ρ) (cons : ∀ ρ ρ' i is d ds, setMany (ρ.set i d) is ds = some ρ' → P (ρ.set i d) is ds ρ' → P ρ (i :: is) (d :: ds) ρ') {is : List Nat} :
    ∀ {ds ρ ρ' : List D}, setMany ρ is ds = some ρ' → P ρ is ds ρ' := by
  induction is with
  | nil =>
    intro ds
    cases ds with
    | nil => exact fun h => ssome h (nil _)
    | cons _ _ => exact fun h => nsome h
  | cons i is ih =>
    intro ds
    cases ds with
    | nil => exact fun h => nsome h
    | cons d ds => exact fun h => cons _ _ i is d ds h (ih h)
theorem assigns_go (hk : env.scope.kind = .function) (hvar : ∀ x i, cx.vars.lookup x = some i → Res env (loc i) x) {is : List Nat} {ds ρ ρ' : List D} (e : setMany ρ is ds = some ρ') :
    ∀ (es : List Expr) (vs : List Value) (γ : Gh) (s : Shared), nmsIs cx is es = true → MInv C γ m s → SInv C γ loc ρ s → Rels C γ ds vs →
      wpAny (model C.prog C.w) A (assignInOrder ((assignEach es env).map (·.2)) vs) (fun _ s' => Stored C (Wt loc (.t is)) loc γ s ρ' m s') noE s := by
  refine setMany_ind (P := fun ρ is ds ρ' => ∀ (es : List Expr) (vs : List Value) (γ : Gh) (s : Shared), nmsIs cx is es = true → MInv C γ m s → SInv C γ loc ρ s → Rels C γ ds vs →
    wpAny (model C.prog C.w) A (assignInOrder ((assignEach es env).map (·.2)) vs) (fun _ s' => Stored C (Wt loc (.t is)) loc γ s ρ' m s') noE s) (fun ρ es vs γ s h I V rs => ?_) (fun ρ ρ' i is d ds _ ih es vs γ s h I V rs => ?_) e
  · refine nil_k (P := fun es => wpAny (model C.prog C.w) A (assignInOrder ((assignEach es env).map (·.2)) vs) (fun _ s' => Stored C (Wt loc (.t [])) loc γ s ρ m s') noE s) h ?_
    rw [show vs = [] from rs]
    exact wpAny_pure ⟨γ, I, .refl .., V⟩
  · refine conc_k (P := fun es => wpAny (model C.prog C.w) A (assignInOrder ((assignEach es env).map (·.2)) vs) (fun _ s' => Stored C (Wt loc (.t (i :: is))) loc γ s ρ' m s') noE s) h fun ex es h =>
      nm_k (P := fun ex => wpAny (model C.prog C.w) A (assignInOrder ((assignEach (ex :: es) env).map (·.2)) vs) (fun _ s' => Stored C (Wt loc (.t (i :: is))) loc γ s ρ' m s') noE s) (andl h) fun x p _ h1 => ?_
    obtain ⟨v, vs, rfl, r, rs⟩ := rs
    show wpAny _ A (do holding vs (assign (.Name x p) env v); assignInOrder ((assignEach es env).map (·.2)) vs) _ _ s
    refine wpAny_bind (wpAny_holding (wpAny_assign_Name (wpAny_mono (store_go hk (hvar x i h1) I V r) (fun _ s₁ z => ?_) fun _ _ e => e)))
    refine wpAny_mono (ih es vs γ s₁ (andr h) z.1 z.2.2 (rs.mono z.2.1.le)) (fun _ s₂ z' => ?_) fun _ _ e => e
    obtain ⟨γ₂, I₂, S₂, V₂⟩ := z'
    exact ⟨γ₂, I₂, (z.2.1.weaken' fun a ha => ⟨i, List.mem_cons_self, ha⟩).trans (S₂.weaken' fun a ⟨j, hj, ha⟩ => ⟨j, List.mem_cons_of_mem _ hj, ha⟩), V₂⟩

theorem assignEach_plain : ∀ {is : List Nat} {es : List Expr}, nmsIs cx is es = true → (assignEach es env).length = is.length ∧ (assignEach es env).findIdx? (·.1) = none
  | [], es, h => nil_k (P := fun es => (assignEach es env).length = 0 ∧ (assignEach es env).findIdx? (·.1) = none) h ⟨rfl, rfl⟩
  | i :: is, es, h => conc_k (P := fun es => (assignEach es env).length = is.length + 1 ∧ (assignEach es env).findIdx? (·.1) = none) h fun e es h =>
    nm_k (P := fun e => (assignEach (e :: es) env).length = is.length + 1 ∧ (assignEach (e :: es) env).findIdx? (·.1) = none) (andl h) fun x p _ _ => by
      obtain ⟨a1, a2⟩ := assignEach_plain (is := is) (es := es) (andr h)
      refine ⟨congrArg (· + 1) a1, ?_⟩
      show ((false, assign (.Name x p) env) :: assignEach es env).findIdx? (·.1) = none
      rw [List.findIdx?_cons, a2]
      rfl

theorem setMany_len {is : List Nat} {ds ρ ρ' : List D} (h : setMany ρ is ds = some ρ') : is.length = ds.length :=
  setMany_ind (P := fun _ is ds _ => is.length = ds.length) (fun _ => rfl) (fun _ _ _ _ _ _ _ ih => congrArg (· + 1) ih) h
theorem assignT_k {P : D → Prop} {is : List Nat} {d : D} (h : assignT ρ (.t is) d = some ρ') (k : ∀ ds, setMany ρ is ds = some ρ' → P (.tup ds)) : P d := by
  cases d with
  | tup ds => exact k ds h
  | _ => exact no_some h
theorem assign_go {t : Tgt} {e : Expr} {d : D} {v : Value} (hh : A.handled = none) (hk : env.scope.kind = .function) (hvar : ∀ x i, cx.vars.lookup x = some i → Res env (loc i) x) (ht : tgtIs cx t e = true)
    (I : MInv C γ m s) (V : SInv C γ loc ρ s) (r : Rel C γ d v) (ea : assignT ρ t d = some ρ') :
    wpAny (model C.prog C.w) A (assign e env v) (fun _ s' => Stored C (Wt loc t) loc γ s ρ' m s') noE s := by
  refine tgt_k (P := fun t e => assignT ρ t d = some ρ' → wpAny (model C.prog C.w) A (assign e env v) (fun _ s' => Stored C (Wt loc t) loc γ s ρ' m s') noE s) ht (fun i x p _ hx ea => ?_) (fun is es n p h ea => ?_) ea
  · cases Option.some.inj ea
    exact wpAny_assign_Name (wpAny_mono (store_go hk (hvar x i hx) I V r) (fun _ s₁ z => ⟨γ, z.1, z.2.1, z.2.2⟩) fun _ _ e => e)
  · refine assignT_k (P := fun d => Rel C γ d v → _) ea (fun ds ea r => ?_) r
    obtain ⟨c, vs, nn, rfl, g, hl, rs⟩ := r
    obtain ⟨p1, p2⟩ := assignEach_plain (cx := cx) (env := env) h
    refine wpAny_assign_Tuple (items := vs.toArray) hh ⟨_, I.frozen _ _ g, rfl, nn, rfl⟩ (p1.trans ((setMany_len ea).trans rs.length)) p2 fun h' hx => ?_
    obtain ⟨J, S⟩ := I.grow (t := s.toks) (h' := h') (fun b o e => hx b o (Nat.ne_of_lt (Heap.lt_size e)) e)
    refine wpAny_mono (assigns_go hk hvar ea es vs γ _ h J (V.step S) (rs.mono S.le)) (fun _ s₂ z => ?_) fun _ _ e => e
    obtain ⟨γ₂, I₂, S₂, V₂⟩ := z
    exact ⟨γ₂, I₂, S.weaken.trans S₂, V₂⟩
end Mine

set_option maxRecDepth 10000
namespace Mine
open PySem PySem.W PySem.SeqAt PyProof.Rows PySem.Calls

variable {C : Ctx} {γ γ' γ₀ : Gh} {s s' : Shared} {m m' m₁ m₂ m₃ : Mem} {A : Around} {k : Nat} {env : Env} {cx : Cx} {loc : Nat → Loc} {ρ ρ' : List D}

/-- what is done with an item that passed the tests, before k -/
noncomputable def compInner {α : Type} (elt : Expr) (gens : List Comprehension) (scope : Scope) (pos : Pos) (k : Nat) (acc : Value) (env : Env) (fin : Sem α) : Sem α :=
  match gens[k + 1]? with
  | some g' => do
    let x ← eval g'.iter env
    standAt g'.iter.pos
    let x ← foldedSetIterable g'.iter env x
    let _ ← runOwn (.compStart (.ListComp elt gens scope pos) (k + 1) (← holding [x] (pyIter x)) acc env) env
    fin
  | none => do
    (do let _ ← call (.builtin "list.append") [acc, ← eval elt env])
    fin

noncomputable abbrev testsTree (ifs : List Expr) (env : Env) : Sem Bool := forIn ifs true fun c r => if r = true then do let ok ← isTrue c env (eval c env); pure (ForInStep.yield ok) else pure (ForInStep.yield r)

theorem compTurn_at {elt : Expr} {gens : List Comprehension} {scope : Scope} {pos : Pos} {target iter : Expr} {ifs : List Expr} {it acc : Value} (hg : gens[k]? = some ⟨target, iter, ifs, 0⟩) (hn : ∀ g', gens[k + 1]? = some g' → g'.is_async = 0) :
    compTurn (.ListComp elt gens scope pos) k it acc env = (standAt iter.pos >>= fun _ => pyNext it >>= fun r => match r with
      | none => pure (.done .next)
      | some v => letOwnedTupleGo target it v >>= fun _ => assign target env v >>= fun _ => testsTree ifs env >>= fun ok =>
          if ok = true then compInner elt gens scope pos k acc env (again (.compLoop (.ListComp elt gens scope pos) k it acc env)) else again (.compLoop (.ListComp elt gens scope pos) k it acc env)) := by
  unfold compTurn compInner
  cases hq : gens[k + 1]? with
  | none =>
    simp only [hg, hq]
    rfl
  | some g' =>
    obtain ⟨t', i', f', a'⟩ := g'
    have := hn _ hq
    simp only at this
    subst this
    simp only [hg, hq]
    rfl

theorem compInner_then {elt : Expr} {gens : List Comprehension} {scope : Scope} {pos : Pos} {acc : Value} {Q : Unit → Shared → Prop} {α : Type} {f : Sem α} {R : α → Shared → Prop} {E : Value → Shared → Prop}
    (h : wpAny (model C.prog C.w) A (compInner elt gens scope pos k acc env (pure ())) Q noE s) (hf : ∀ u s', Q u s' → wpAny (model C.prog C.w) A f R E s') : wpAny (model C.prog C.w) A (compInner elt gens scope pos k acc env f) R E s := by
  have e : compInner elt gens scope pos k acc env f = (compInner elt gens scope pos k acc env (pure ()) >>= fun _ => f) := by
    unfold compInner
    cases gens[k + 1]? with
    | none => simp only [bind_assoc, pure_bind]
    | some g' => simp only [bind_assoc, pure_bind]
  rw [e]
  exact wpAny_bind (wpAny_mono h (fun u s' q => hf u s' q) fun _ _ e => e.elim)

theorem compLoop_go {R : Result → Shared → Prop} {elt : Expr} {gens : List Comprehension} {scope : Scope} {pos : Pos} {target iter : Expr} {ifs : List Expr} {it acc : Value} (hg : gens[k]? = some ⟨target, iter, ifs, 0⟩) (hn : ∀ g', gens[k + 1]? = some g' → g'.is_async = 0) (I : Nat → Shared → Prop)
    (turn : ∀ n s, I n s → wpAny (model C.prog C.w) A (pyNext it) (fun r s₁ => match r with
      | none => R (.ok .next) s₁
      | some v => wpAny (model C.prog C.w) A (letOwnedTupleGo target it v) (fun _ s₁' => wpAny (model C.prog C.w) A (assign target env v) (fun _ s₂ =>
          wpAny (model C.prog C.w) A (testsTree ifs env) (fun ok s₃ =>
            if ok = true then wpAny (model C.prog C.w) A (compInner elt gens scope pos k acc env (pure ())) (fun _ s₅ => ∃ m, m < n ∧ I m s₅) noE s₃
            else ∃ m, m < n ∧ I m s₃) noE s₂) noE s₁') noE s₁) noE s)
    (n : Nat) (h : I n s) : codeAny (model C.prog C.w) A (.compLoop (.ListComp elt gens scope pos) k it acc env) R s := by
  refine codeAny_loop rfl I (fun n s hI => ?_) n h
  show wpAny _ A ((compTurn (.ListComp elt gens scope pos) k it acc env).onRaise (fun x => do noteFrame x env; theTreesLotGoes x)) _ _ s
  refine wpAny_noted ?_
  rw [compTurn_at hg hn]
  refine wpAny_bind (wpAny_standAt (wpAny_bind (wpAny_mono (turn n s hI) (fun r s₁ h₁ => ?_) fun _ _ h' => h'.elim)))
  cases r with
  | none => exact wpAny_pure h₁
  | some v =>
    refine wpAny_bind (wpAny_mono h₁ (fun _ s₁' h₁' => wpAny_bind (wpAny_mono h₁' (fun _ s₂ h₂ => wpAny_bind (wpAny_mono h₂ (fun ok s₃ h₃ => ?_) fun _ _ h' => h'.elim)) fun _ _ h' => h'.elim)) fun _ _ h' => h'.elim)
    cases ok with
    | false => exact wpAny_pure ⟨rfl, h₃⟩
    | true => exact compInner_then h₃ (fun _ s₅ h₅ => wpAny_pure ⟨rfl, h₅⟩)

theorem compStart_go {R : Result → Shared → Prop} {elt : Expr} {gens : List Comprehension} {scope : Scope} {pos : Pos} {target iter : Expr} {ifs : List Expr} {it acc : Value} (hg : gens[k]? = some ⟨target, iter, ifs, 0⟩)
    (h0 : codeAny (model C.prog C.w) A (.compLoop (.ListComp elt gens scope pos) k it acc env) R s)
    (h : wpAny (model C.prog C.w) A (pyIter it) (fun r s₁ => r = it ∧ s₁ = s) noE s) :
    codeAny (model C.prog C.w) A (.compStart (.ListComp elt gens scope pos) k it acc env) R s := by
  refine codeAny_of_tree ?_
  show wpAny _ _ ((compStart (.ListComp elt gens scope pos) k it acc env).onRaise (fun x => do noteFrame x env; standAt theWindowsPlace)) _ _ s
  refine wpAny_notedAt ?_
  unfold compStart
  have hcl : (clausesOf (.ListComp elt gens scope pos))[k]? = some ⟨target, iter, ifs, 0⟩ := hg
  rw [hcl]
  show wpAny _ _ (ask >>= _) _ _ s
  refine wpAny_bind (wpAny_askSetting (wpAny_ite ?_))
  have fin : wpAny (model C.prog C.w) A (pyIter it) (fun it' s' => wpAny (model C.prog C.w) A (again (.compLoop (.ListComp elt gens scope pos) k it' acc env)) (fun fin s' => match fin with
      | .done f => R (.ok f) s'
      | .again c' => c'.quiet = true ∧ codeAny (model C.prog C.w) A c' R s') (notedBy (model C.prog C.w) A env fun x s' => R (.error x) s') s') (notedBy (model C.prog C.w) A env fun x s' => R (.error x) s') s :=
    wpAny_mono h (fun it' s' ⟨e1, e2⟩ => by subst e1; subst e2; exact wpAny_pure ⟨rfl, h0⟩) fun _ _ e => e.elim
  split
  · first
      | exact wpAny_bind (wpAny_pure (wpAny_pure (And.intro rfl h0)))
      | exact wpAny_pure (And.intro rfl h0)
  · first
      | exact wpAny_bind (wpAny_rule (wpAny_bind (wpAny_standAt (wpAny_bind fin))))
      | (refine wpAny_bind (wpAny_rule ?_); show wpAny _ _ (standAt iter.pos >>= _) _ _ s; exact wpAny_bind (wpAny_standAt (wpAny_bind fin)))
end Mine

set_option maxRecDepth 10000
namespace Mine
open PySem PySem.W PySem.SeqAt PyProof.Rows PySem.Calls

variable {C : Ctx} {γ γ' γ₀ : Gh} {s s' : Shared} {m m' m₁ m₂ m₃ : Mem} {A : Around} {k : Nat} {env : Env} {cx : Cx} {loc : Nat → Loc} {ρ ρ' : List D}

theorem SInv.stepW {W : Addr → Prop} (x : SInv C γ loc ρ s) (S : Step W γ s γ' s') (hW : ∀ a, Wl loc a → ¬ W a) : SInv C γ' loc ρ s' := x.stepW' S fun i a h => hW a ⟨i, h⟩

theorem SInv.forget (x : SInv C γ loc ρ' s) (h : ∀ j : Nat, ρ[j]?.getD .undef = .undef ∨ ρ[j]?.getD .undef = ρ'[j]?.getD .undef) : SInv C γ loc ρ s := by
  refine ⟨fun j => ?_, x.inj, x.sep⟩
  have hs := x.slot j
  rcases h j with e | e
  · rw [e]
    cases hl : loc j with
    | no => rfl
    | ns L y => rw [hl] at hs; obtain ⟨mm, hn, _⟩ := hs; exact ⟨mm, hn, .inl rfl⟩
    | cell c => rw [hl] at hs; obtain ⟨w, hn, _⟩ := hs; exact ⟨w, hn, .inl rfl⟩
  · rw [e]; exact hs

noncomputable def Tgt.slots : Tgt → List Nat
  | .v i => [i]
  | .t is => is

theorem setMany_same {is : List Nat} {ds ρ ρ' : List D} (h : setMany ρ is ds = some ρ') : ∀ j : Nat, j ∉ is → ρ'[j]? = ρ[j]? :=
  setMany_ind (P := fun ρ is _ ρ' => ∀ j : Nat, j ∉ is → ρ'[j]? = ρ[j]?) (fun _ _ _ => rfl)
    (fun ρ ρ' i is d ds _ ih j hj => (ih j fun q => hj (List.mem_cons_of_mem _ q)).trans (List.getElem?_set_ne fun (q : i = j) => hj (q ▸ List.mem_cons_self))) h
theorem assignT_same {t : Tgt} {d : D} (h : assignT ρ t d = some ρ') (j : Nat) (hj : j ∉ t.slots) : ρ'[j]? = ρ[j]? := by
  cases t with
  | v i => exact ssome (P := fun ρ' => ρ'[j]? = ρ[j]?) h (List.getElem?_set_ne fun (q : i = j) => hj (List.mem_singleton.mpr q.symm))
  | t is => exact assignT_k (P := fun _ => ρ'[j]? = ρ[j]?) h fun ds h => setMany_same h j hj

/-- the list in the making -/
noncomputable def Acc (C : Ctx) (γ : Gh) (s : Shared) (a : Addr) (l : List D) : Prop := ∃ vs n, s.heap.get? a = some (lstO vs n) ∧ Rels C γ l vs ∧ γ.G a = none ∧ a ∉ γ.κ

theorem Acc.stepW {W : Addr → Prop} {a : Addr} {l : List D} (x : Acc C γ s a l) (S : Step W γ s γ' s') (hW : ¬ W a) : Acc C γ' s' a l := by
  obtain ⟨vs, n, ho, rs, hG, hκ⟩ := x
  obtain ⟨f1, f2⟩ := S.free hG hκ ho hW
  exact ⟨vs, n, S.keep _ _ ho hκ hW, rs.mono S.le, f2, f1⟩

theorem Acc.push {a : Addr} {l : List D} {d : D} {v : Value} {Q : Value → Shared → Prop} (x : Acc C γ s a l) (I : MInv C γ m s) (r : Rel C γ d v) (hl : (l ++ [d]).length ≤ big)
    (h : ∀ s', MInv C γ m s' → Step (fun b => b = a) γ s γ s' → Acc C γ s' a (l ++ [d]) → Q .none s') : wpAny (model C.prog C.w) A (call (.builtin "list.append") [.ref a, v]) Q noE s := by
  obtain ⟨vs, n, ho, rs, hG, hκ⟩ := x
  have hlen := rs.length
  simp at hl
  refine wpAny_list_append_plain (items := vs.toArray) ⟨n, ho⟩ (fun h' ⟨n', hp⟩ hsb => ?_) (sizes (by rw [List.size_toArray]; lia))
  obtain ⟨J, S⟩ := I.write hG hκ (h' := h') (t := s.toks) (fun b o hb e => (hsb.2 b hb).trans e)
  refine h _ J S ⟨vs ++ [v], n', ?_, rs.append (.one r), hG, hκ⟩
  show h'.get? a = some (lstO (vs ++ [v]) n')
  rw [hp]; simp

/-- what the loop of a comprehension writes -/
noncomputable def Wc (a L : Addr) : Addr → Prop := fun b => b = a ∨ b = L

noncomputable def InnerGives (C : Ctx) (A : Around) (tree : Sem Unit) (loc : Nat → Loc) (a L : Addr) (γ : Gh) (s : Shared) (ρ : List D) (l lnew : List D) (m' : Mem) : Prop :=
  wpAny (model C.prog C.w) A tree (fun _ s' => ∃ γ', MInv C γ' m' s' ∧ Step (Wc a L) γ s γ' s' ∧ SInv C γ' loc ρ s' ∧ Acc C γ' s' a (l ++ lnew)) noE s

theorem Wt_le (t : Tgt) : ∀ a, Wt loc t a → Wl loc a := fun a h => by
  cases t with
  | v i => exact ⟨i, h⟩
  | t is => obtain ⟨i, _, h⟩ := h; exact ⟨i, h⟩
/-- an item is taken and stored: what follows is a variable -/
theorem IterOk.turn {tup : Bool} {It : Addr} {ds : List D} {W : Addr → Prop} {St : Nat → Gh → Shared → Prop} {target : Expr} {t : Tgt} {i : Nat} {d : D} (It_ : IterOk C A tup It ds W St) (hh : A.handled = none) (hk : env.scope.kind = .function) (hvar : ∀ x i, cx.vars.lookup x = some i → Res env (loc i) x)
    (ht : tgtIs cx t target = true) (htup : tup = true → ∃ es n p, target = .Tuple es n p) (hWl : ∀ b, Wl loc b → ¬ W b) (st : St i γ s) (I : MInv C γ m s) (V : SInv C γ loc ρ s) (hd : ds[i]? = some d) (ea : assignT ρ t d = some ρ') {N B : Shared → Prop} {E E₁ E₂ : Value → Shared → Prop}
    (k : ∀ γ' s', St (i + 1) γ' s' → MInv C γ' m s' → SInv C γ' loc ρ' s' → Step (fun b => W b ∨ Wt loc t b) γ s γ' s' → B s') :
    wpAny (model C.prog C.w) A (pyNext (.ref It)) (fun r s₁ => match r with
      | none => N s₁
      | some v => wpAny (model C.prog C.w) A (letOwnedTupleGo target (.ref It) v) (fun _ s₁' => wpAny (model C.prog C.w) A (assign target env v) (fun _ s₂ => B s₂) E₂ s₁') E₁ s₁) E s := by
  have tk : (tup = false ∧ ∃ x p, target = .Name x p) ∨ (∃ es n p, target = .Tuple es n p) := by
    cases tup with
    | false => exact (tgtIs.kind ht).imp (fun h => ⟨rfl, h⟩) id
    | true => exact .inr (htup rfl)
  refine wpAny_mono (It_.item target i γ s m _ st I hd tk) (fun r s₂ z => ?_) fun _ _ e => e.elim
  obtain ⟨v, rfl, z⟩ := z
  refine wpAny_mono z (fun _ s₃ z => ?_) fun _ _ e => e.elim
  obtain ⟨γ₃, I₃, S₃, st₃, R₃⟩ := z
  refine wpAny_mono (assign_go hh hk hvar ht I₃ (V.stepW S₃ hWl) R₃ ea) (fun _ s₄ z => ?_) fun _ _ e => e.elim
  obtain ⟨γ₄, I₄, S₄, V₄⟩ := z
  exact k γ₄ s₄ (It_.frame _ _ _ _ _ _ _ _ st₃ I₃ S₄ I₄ (fun b hb w => hWl b (Wt_le t b w) hb)) I₄ V₄ ((S₃.weaken' fun _ h => .inl h).trans (S₄.weaken' fun _ h => .inr h))
theorem IterOk.stop {tup : Bool} {It : Addr} {ds : List D} {W : Addr → Prop} {St : Nat → Gh → Shared → Prop} (It_ : IterOk C A tup It ds W St) (st : St ds.length γ s) (I : MInv C γ m s) {N : Shared → Prop} {F : Value → Shared → Prop} {E : Value → Shared → Prop}
    (k : ∀ s', MInv C γ m s' → Step W γ s γ s' → N s') : wpAny (model C.prog C.w) A (pyNext (.ref It)) (fun r s₁ => match r with
      | none => N s₁
      | some v => F v s₁) E s := by
  refine wpAny_mono (It_.done γ s _ st I) (fun r s₂ z => ?_) fun _ _ e => e.elim
  obtain ⟨rfl, I₂, S₂⟩ := z
  exact k s₂ I₂ S₂

/-- between the turns of a comprehension -/
structure CompI (C : Ctx) (loc : Nat → Loc) (ρ : List D) (e : List D → Mem → List D → Prop) (ds lall : List D) (a L : Addr) (W : Addr → Prop) (St : Nat → Gh → Shared → Prop) (γ₁ : Gh) (s₁ : Shared) (i : Nat) (γ' : Gh) (m' : Mem) (l' lr : List D) (s' : Shared) : Prop where
  st : St i γ' s'
  I : MInv C γ' m' s'
  V : SInv C γ' loc ρ s'
  Ac : Acc C γ' s' a l'
  e : e (ds.drop i) m' lr
  hl : l' ++ lr = lall
  S : Step (fun b => W b ∨ Wc a L b) γ₁ s₁ γ' s'
noncomputable def CompJ (C : Ctx) (loc : Nat → Loc) (ρ : List D) (e : List D → Mem → List D → Prop) (ds lall : List D) (a L : Addr) (W : Addr → Prop) (St : Nat → Gh → Shared → Prop) (γ₁ : Gh) (s₁ : Shared) (n : Nat) (s' : Shared) : Prop :=
  ∃ i γ' m' l' lr, i ≤ ds.length ∧ n = ds.length + 1 - i ∧ CompI C loc ρ e ds lall a L W St γ₁ s₁ i γ' m' l' lr s'
/-- after it -/
noncomputable def CompR (C : Ctx) (loc : Nat → Loc) (ρ lall : List D) (mend : Mem) (a L : Addr) (W : Addr → Prop) (γ₁ : Gh) (s₁ : Shared) (r : Result) (s' : Shared) : Prop :=
  r = .ok .next ∧ ∃ γ', MInv C γ' mend s' ∧ Step (fun b => W b ∨ Wc a L b) γ₁ s₁ γ' s' ∧ SInv C γ' loc ρ s' ∧ Acc C γ' s' a lall
theorem CompJ.next {e : List D → Mem → List D → Prop} {ds lall : List D} {a L : Addr} {W : Addr → Prop} {St : Nat → Gh → Shared → Prop} {γ₁ : Gh} {s₁ : Shared} {i : Nat} {l' lr : List D} (hlt : i < ds.length) (z : CompI C loc ρ e ds lall a L W St γ₁ s₁ (i + 1) γ m l' lr s) :
    ∃ n, n < ds.length + 1 - i ∧ CompJ C loc ρ e ds lall a L W St γ₁ s₁ n s := ⟨ds.length + 1 - (i + 1), by lia, i + 1, γ, m, l', lr, hlt, rfl, z⟩

theorem compL_sem {tup : Bool} {elt : Expr} {gens : List Comprehension} {scope : Scope} {pos : Pos} {target iter : Expr} {ifs : List Expr} {t : Tgt} {It a L : Addr} {ds : List D} {W : Addr → Prop} {St : Nat → Gh → Shared → Prop}
    {ifsF : List D → Mem → Option (Bool × Mem)} {innerF : List D → Mem → Option (List D × Mem)} {lall : List D} {mend : Mem}
    (hh : A.handled = none) (hk : env.scope.kind = .function) (hvar : ∀ x i, cx.vars.lookup x = some i → Res env (loc i) x) (hg : gens[k]? = some ⟨target, iter, ifs, 0⟩) (hn : ∀ g', gens[k + 1]? = some g' → g'.is_async = 0)
    (ht : tgtIs cx t target = true) (htup : tup = true → ∃ es n p, target = .Tuple es n p) (It_ : IterOk C A tup It ds W St) (hWa : ∀ b, W b → b ≠ a ∧ b ≠ L) (hWl : ∀ b, Wl loc b → ¬ W b) (hal : ¬ Wl loc a) (hWt : ∀ b, Wt loc t b → b = L) (haL : a ≠ L)
    (hund : ∀ i ∈ t.slots, ρ[i]?.getD .undef = .undef) (hbig : lall.length ≤ big)
    (tests : ∀ γ s ρ' m b m₁ d, assignT ρ t d = some ρ' → MInv C γ m s → SInv C γ loc ρ' s → ifsF ρ' m = some (b, m₁) → GivesB C A γ s (testsTree ifs env) b m₁)
    (inner : ∀ γ s ρ' m l lnew m₁ d, assignT ρ t d = some ρ' → MInv C γ m s → SInv C γ loc ρ' s → Acc C γ s a l → innerF ρ' m = some (lnew, m₁) → (l ++ lnew).length ≤ big → InnerGives C A (compInner elt gens scope pos k (.ref a) env (pure ())) loc a L γ s ρ' l lnew m₁)
    {γ₁ : Gh} {s₁ : Shared} {l lnew : List D} (st : St 0 γ₁ s₁) (I : MInv C γ₁ m s₁) (V : SInv C γ₁ loc ρ s₁) (Ac : Acc C γ₁ s₁ a l) (e : compL (assignT ρ t) ifsF innerF ds m = some (lnew, mend)) (hl : l ++ lnew = lall) :
    codeAny (model C.prog C.w) A (.compLoop (.ListComp elt gens scope pos) k (.ref It) (.ref a) env)
      (CompR C loc ρ lall mend a L W γ₁ s₁) s₁ := by
  have forget : ∀ {γ s ρ' d}, assignT ρ t d = some ρ' → SInv C γ loc ρ' s → SInv C γ loc ρ s := fun {γ s ρ' d} ea V => V.forget fun j => by
    by_cases hj : j ∈ t.slots
    · exact .inl (hund j hj)
    · exact .inr (by rw [assignT_same ea j hj])
  refine compLoop_go hg hn (CompJ C loc ρ (fun ds m l => compL (assignT ρ t) ifsF innerF ds m = some (l, mend)) ds lall a L W St γ₁ s₁) ?_ (ds.length + 1) ⟨0, γ₁, m, l, lnew, Nat.zero_le _, rfl, st, I, V, Ac, e, hl, .refl ..⟩
  clear st I V Ac e hl
  rintro n s' ⟨i, γ', m', l', lr, hi, rfl, z⟩
  by_cases hlt : i < ds.length
  · have e := z.e
    rw [List.drop_eq_getElem_cons hlt] at e
    refine compL_k (P := fun lr' m₃ => lr' = lr → m₃ = mend → _) e (fun ρ' m₁ lx m₂ r m₃ ea ei en er hlr hm => It_.turn hh hk hvar ht htup hWl z.st z.I z.V (List.getElem?_eq_getElem hlt) ea fun γ₄ s₄ st₄ I₄ V₄ S₄ => ?_)
      (fun ρ' m₁ ea ei er _ _ => It_.turn hh hk hvar ht htup hWl z.st z.I z.V (List.getElem?_eq_getElem hlt) ea fun γ₄ s₄ st₄ I₄ V₄ S₄ => ?_) rfl rfl
    · subst hm
      have Ac₄ := z.Ac.stepW S₄ (fun w => w.elim (fun w => (hWa a w).1 rfl) fun w => haL (hWt a w))
      refine (tests γ₄ s₄ ρ' m' true m₁ _ ea I₄ V₄ ei).thenW fun γ₅ s₅ I₅ S₅ => (if_pos rfl).mpr ?_
      have st₅ := It_.frame _ _ _ _ _ _ _ _ st₄ I₄ S₅ I₅ (fun _ _ f => f.elim)
      have hb : (l' ++ lx).length ≤ big := Nat.le_trans (by rw [← z.hl, ← hlr]; simp) hbig
      refine wpAny_mono (inner γ₅ s₅ ρ' m₁ l' lx m₂ _ ea I₅ (V₄.step S₅) (Ac₄.stepW S₅ (fun f => f.elim)) en hb) (fun _ s₆ y => ?_) fun _ _ e => e
      obtain ⟨γ₆, I₆, S₆, V₆, Ac₆⟩ := y
      exact CompJ.next hlt ⟨It_.frame _ _ _ _ _ _ _ _ st₅ I₅ S₆ I₆ (fun b hb w => w.elim (hWa b hb).1 (hWa b hb).2), I₆, forget ea V₆, Ac₆, er, (List.append_assoc ..).trans (hlr ▸ z.hl),
        ((z.S.trans (S₄.weaken' fun b h => h.imp_right fun w => .inr (hWt b w))).trans S₅.weaken).trans (S₆.weaken' fun _ h => .inr h)⟩
    · have Ac₄ := z.Ac.stepW S₄ (fun w => w.elim (fun w => (hWa a w).1 rfl) fun w => haL (hWt a w))
      refine (tests γ₄ s₄ ρ' m' false m₁ _ ea I₄ V₄ ei).thenW fun γ₅ s₅ I₅ S₅ => (if_neg Bool.false_ne_true).mpr ?_
      exact CompJ.next hlt ⟨It_.frame _ _ _ _ _ _ _ _ st₄ I₄ S₅ I₅ (fun _ _ f => f.elim), I₅, forget ea (V₄.step S₅), Ac₄.stepW S₅ (fun f => f.elim), er, z.hl, (z.S.trans (S₄.weaken' fun b h => h.imp_right fun w => .inr (hWt b w))).trans S₅.weaken⟩
  · cases (Nat.le_antisymm hi (Nat.le_of_not_lt hlt))
    have e := z.e
    rw [List.drop_eq_nil_of_le (Nat.le_refl _)] at e
    refine kp (P := fun lr' m'' => lr' = lr → m'' = mend → _) (show some ([], m') = some (lr, mend) from e) (fun hlr hm => It_.stop z.st z.I fun s₂ I₂ S₂ => ?_) rfl rfl
    refine ⟨rfl, γ', hm ▸ I₂, z.S.trans (S₂.weaken' fun _ h => .inl h), z.V.stepW S₂ hWl, ?_⟩
    rw [← z.hl, ← hlr, List.append_nil]
    exact z.Ac.stepW S₂ (fun w => (hWa a w).1 rfl)
end Mine

set_option maxRecDepth 10000
namespace Mine
open PySem PySem.W PySem.SeqAt PyProof.Rows PySem.Calls

variable {C : Ctx} {γ γ' γ₀ : Gh} {s s' : Shared} {m m' m₁ m₂ m₃ : Mem} {A : Around} {k : Nat} {env : Env} {cx : Cx} {loc : Nat → Loc} {ρ ρ' : List D}

/-- the own names of a comprehension -/
noncomputable def ownNames (names : List (Str × NameKind)) : List Str := names.filterMap fun p => if p.2 == .local && p.1 != (".0" : Str) then some p.1 else none
noncomputable def freeNames (names : List (Str × NameKind)) : List Str := names.filterMap fun p => if p.2 == .free then some p.1 else none

noncomputable def cxComp (cx : Cx) (scope : Scope) : Cx :=
  { names := scope.names, vars := (ownNames scope.names).zipIdx cx.base ++ (freeNames scope.names).filterMap (fun n => (cx.vars.lookup n).map fun i => (n, i)), base := cx.base + (ownNames scope.names).length }

noncomputable def namesNodup : List (Str × NameKind) → Bool
  | [] => true
  | p :: r => !(r.any fun q => q.1 == p.1) && namesNodup r

noncomputable def compOk (cx : Cx) (scope : Scope) : Bool :=
  scope.kind == .function && namesNodup scope.names && scope.names.all (fun p => p.2 != .cell) && (freeNames scope.names).all (fun n => cx.names.lookup n == some .cell && (cx.vars.lookup n).isSome) && !(ownNames scope.names).isEmpty

theorem lookup_of_nodup {names : List (Str × NameKind)} {p : Str × NameKind} (h : namesNodup names = true) (hp : p ∈ names) : names.lookup p.1 = some p.2 := by
  induction hp with
  | head r => rw [List.lookup_cons, beq_self_eq_true]
  | @tail q r hp ih =>
    have h := Bool.and_eq_true_iff.mp h
    rw [List.lookup_cons, show (p.1 == q.1) = false from Bool.eq_false_iff.mpr fun hb => by
      have := h.1
      rw [List.any_eq_true.mpr ⟨p, hp, hb⟩] at this
      cases this]
    exact ih h.2

theorem lookup_relabel {env : Env} : ∀ {names : List (Str × NameKind)} {x : Str} {kd : NameKind}, names.lookup x = some kd →
    (names.map fun (n, k) => if (k == NameKind.free && env.scope.kind == .function && env.kindOf n == some .cell) then (n, NameKind.cell) else (n, k)).lookup x = some (if (kd == NameKind.free && env.scope.kind == .function && env.kindOf x == some .cell) then .cell else kd)
  | [], _, _, h => by simp at h
  | (n, k) :: r, x, kd, h => by
    have ih := @lookup_relabel env r x kd
    show List.lookup x ((if (k == NameKind.free && env.scope.kind == .function && env.kindOf n == some .cell) = true then (n, NameKind.cell) else (n, k)) :: _) = _
    cases hx : x == n with
    | true =>
      simp only [List.lookup_cons, hx] at h
      cases h
      have hxn := beq_iff_eq.mp hx
      subst hxn
      by_cases hc : (k == NameKind.free && env.scope.kind == .function && env.kindOf x == some .cell) = true
      · rw [if_pos hc, if_pos hc]; simp [List.lookup_cons]
      · rw [if_neg hc, if_neg hc]; simp [List.lookup_cons]
    | false =>
      simp only [List.lookup_cons, hx] at h
      by_cases hc : (k == NameKind.free && env.scope.kind == .function && env.kindOf n == some .cell) = true
      · rw [if_pos hc]; simp only [List.lookup_cons, hx]; exact ih h
      · rw [if_neg hc]; simp only [List.lookup_cons, hx]; exact ih h

/-- the cells that a comprehension takes along -/
noncomputable def clOf (env : Env) (names : List (Str × NameKind)) : List (Str × Addr) := names.foldl (fun cs p => if p.2 == .free then (p.1, (env.cells.lookup p.1).getD 0) :: cs else cs) []

theorem closureFor_go {scope : Scope} (h : ∀ n ∈ freeNames scope.names, (env.cells.lookup n).isSome = true) : closureFor scope env = pure (clOf env scope.names) := by
  have key : ∀ (l : List (Str × NameKind)) (acc : List (Str × Addr)), (∀ n ∈ freeNames l, (env.cells.lookup n).isSome = true) →
      (forIn l acc fun (x : Str × NameKind) (cs : List (Str × Addr)) => (if (x.2 == NameKind.free) = true then (do let c ← cellOf env x.1; pure (ForInStep.yield ((x.1, c) :: cs))) else pure (ForInStep.yield cs) : Sem (ForInStep (List (Str × Addr))))) =
        pure (l.foldl (fun cs p => if p.2 == .free then (p.1, (env.cells.lookup p.1).getD 0) :: cs else cs) acc) := by
    intro l
    induction l with
    | nil => intro acc _; rfl
    | cons p l ih =>
      intro acc h
      rw [List.forIn_cons, List.foldl_cons]
      by_cases hf : (p.2 == NameKind.free) = true
      · rw [if_pos hf, if_pos hf]
        have hp := h p.1 (by unfold freeNames; rw [List.filterMap_cons, if_pos hf]; exact List.mem_cons_self)
        obtain ⟨c, hc⟩ := Option.isSome_iff_exists.mp hp
        have e : cellOf env p.1 = pure c := by unfold cellOf; rw [hc]
        rw [e, hc]
        simp only [pure_bind, Option.getD_some]
        exact ih _ fun n hn => h n (by unfold freeNames at hn ⊢; rw [List.filterMap_cons, if_pos hf]; exact List.mem_cons_of_mem _ hn)
      · rw [if_neg hf, if_neg hf]
        simp only [pure_bind]
        exact ih _ fun n hn => h n (by unfold freeNames at hn ⊢; rw [List.filterMap_cons, if_neg hf]; exact hn)
  have := key scope.names [] h
  unfold closureFor clOf
  rw [← this]
  simp only [bind_pure]

theorem clOf_lookup {names : List (Str × NameKind)} {n : Str} (hn : n ∈ freeNames names) (hs : (env.cells.lookup n).isSome = true) : (clOf env names).lookup n = env.cells.lookup n := by
  have all : ∀ (l : List (Str × NameKind)) (acc : List (Str × Addr)), (∀ p ∈ acc, p.2 = (env.cells.lookup p.1).getD 0) → ∀ p ∈ l.foldl (fun cs p => if p.2 == .free then (p.1, (env.cells.lookup p.1).getD 0) :: cs else cs) acc, p.2 = (env.cells.lookup p.1).getD 0 := by
    intro l
    induction l with
    | nil => intro acc h; exact h
    | cons p l ih =>
      intro acc h
      rw [List.foldl_cons]
      refine ih _ ?_
      split
      · intro q hq
        rcases List.mem_cons.mp hq with rfl | hq
        · rfl
        · exact h q hq
      · exact h
  have mem : ∀ (l : List (Str × NameKind)) (acc : List (Str × Addr)), (n ∈ freeNames l ∨ n ∈ acc.map (·.1)) → n ∈ (l.foldl (fun cs p => if p.2 == .free then (p.1, (env.cells.lookup p.1).getD 0) :: cs else cs) acc).map (·.1) := by
    intro l
    induction l with
    | nil => intro acc h; rcases h with h | h; simp [freeNames] at h; exact h
    | cons p l ih =>
      intro acc h
      rw [List.foldl_cons]
      refine ih _ ?_
      by_cases hf : (p.2 == NameKind.free) = true
      · rw [if_pos hf]
        rcases h with h | h
        · unfold freeNames at h ⊢
          rw [List.filterMap_cons, if_pos hf] at h
          rcases List.mem_cons.mp h with h | h
          · exact .inr (by rw [List.map_cons, ← h]; exact List.mem_cons_self)
          · exact .inl h
        · exact .inr (by rw [List.map_cons]; exact List.mem_cons_of_mem _ h)
      · rw [if_neg hf]
        rcases h with h | h
        · unfold freeNames at h ⊢
          rw [List.filterMap_cons, if_neg hf] at h
          exact .inl h
        · exact .inr h
  have m1 := mem names [] (.inl hn)
  have a1 := all names [] (by intro p hp; cases hp)
  obtain ⟨c, hc⟩ := Option.isSome_iff_exists.mp hs
  have : ∀ (l : List (Str × Addr)), n ∈ l.map (·.1) → (∀ p ∈ l, p.2 = (env.cells.lookup p.1).getD 0) → l.lookup n = env.cells.lookup n := by
    intro l
    induction l with
    | nil => intro h; simp at h
    | cons p l ih =>
      intro h1 h2
      rw [List.lookup_cons]
      by_cases hp : (n == p.1) = true
      · rw [hp]
        have e := beq_iff_eq.mp hp
        have := h2 p List.mem_cons_self
        rw [← e, hc] at this
        simp only [Option.getD_some] at this
        rw [this, hc]
      · have hp' : (n == p.1) = false := by simpa using hp
        rw [hp']
        refine ih ?_ fun q hq => h2 q (List.mem_cons_of_mem _ hq)
        rw [List.map_cons] at h1
        rcases List.mem_cons.mp h1 with e | h
        · exact absurd (by rw [e]; exact beq_self_eq_true _) hp
        · exact h
  exact this _ m1 a1

/-- slots of a comprehension -/
noncomputable def locComp (loc : Nat → Loc) (base : Nat) (own : List Str) (L : Addr) : Nat → Loc := fun i => if i < base then loc i else match own[i - base]? with | some x => .ns L x | none => .no

theorem mem_own {names : List (Str × NameKind)} {x : Str} (h : x ∈ ownNames names) : (x, NameKind.local) ∈ names := by
  unfold ownNames at h
  obtain ⟨p, hp, e⟩ := List.mem_filterMap.mp h
  split at e
  · rename_i hc
    cases e
    rw [Bool.and_eq_true, beq_iff_eq] at hc
    have : p = (p.1, NameKind.local) := by rw [← hc.1]
    rw [← this]; exact hp
  · cases e
theorem mem_free {names : List (Str × NameKind)} {x : Str} (h : x ∈ freeNames names) : (x, NameKind.free) ∈ names := by
  unfold freeNames at h
  obtain ⟨p, hp, e⟩ := List.mem_filterMap.mp h
  split at e
  · rename_i hc
    cases e
    have : p = (p.1, NameKind.free) := by rw [← beq_iff_eq.mp hc]
    rw [← this]; exact hp
  · cases e

theorem cxComp_var {scope : Scope} {x : Str} {i : Nat} (h : (cxComp cx scope).vars.lookup x = some i) : (cx.base ≤ i ∧ (ownNames scope.names)[i - cx.base]? = some x) ∨ (x ∈ freeNames scope.names ∧ cx.vars.lookup x = some i) := by
  have hm := mem_of_lookup h
  rcases List.mem_append.mp hm with h1 | h1
  · rw [List.mem_zipIdx_iff_le_and_getElem?_sub] at h1
    exact .inl h1
  · obtain ⟨n, hn, e⟩ := List.mem_filterMap.mp h1
    obtain ⟨j, hj, e⟩ := Option.map_eq_some_iff.mp e
    cases e
    exact .inr ⟨hn, hj⟩

theorem envOk_comp {scope : Scope} {L : Addr} (X : EnvOk cx loc env) (ok : compOk cx scope = true) :
    EnvOk (cxComp cx scope) (locComp loc cx.base (ownNames scope.names) L) (compEnvC scope (clOf env scope.names) L env) ∧ closureFor scope env = pure (clOf env scope.names) := by
  unfold compOk at ok
  simp only [Bool.and_eq_true, List.all_eq_true, beq_iff_eq] at ok
  obtain ⟨⟨⟨⟨hk, hnd⟩, hnc⟩, hfree⟩, _⟩ := ok
  have freeCell : ∀ n ∈ freeNames scope.names, ∃ c i, env.cells.lookup n = some c ∧ cx.vars.lookup n = some i ∧ loc i = .cell c := fun n hn => by
    obtain ⟨h1, h2⟩ := hfree n hn
    obtain ⟨i, hi⟩ := Option.isSome_iff_exists.mp h2
    have kc := X.kind n _ h1 (by decide)
    rcases X.var n i hi with ⟨_, hl⟩ | ⟨c, hl, _, hc⟩
    · rw [kc] at hl; cases hl
    · exact ⟨c, i, hc, hi, hl⟩
  refine ⟨⟨hk, fun x kd h hf => ?_, X.globals, X.builtins, fun x i h => ?_, fun i hi => ?_⟩, closureFor_go fun n hn => by obtain ⟨c, _, hc, _⟩ := freeCell n hn; rw [hc]; rfl⟩
  · have := lookup_relabel (env := env) h
    have hkf : (kd == NameKind.free) = false := by simpa using hf
    simp only [hkf, Bool.false_and, Bool.false_eq_true, if_false] at this
    exact this
  · rcases cxComp_var h with ⟨h1, h2⟩ | ⟨h1, h2⟩
    · left
      have hx := mem_own (List.mem_of_getElem? h2)
      have hl := lookup_of_nodup hnd hx
      have := lookup_relabel (env := env) hl
      refine ⟨?_, this⟩
      show locComp loc cx.base (ownNames scope.names) L i = _
      unfold locComp
      rw [if_neg (Nat.not_lt.mpr h1), h2]
      rfl
    · right
      obtain ⟨c, i', hc, hi', hl⟩ := freeCell x h1
      rw [h2] at hi'; cases hi'
      have hib : i < cx.base := by
        rcases Nat.lt_or_ge i cx.base with h | h
        · exact h
        · rw [X.high i h] at hl; cases hl
      refine ⟨c, ?_, ?_, ?_⟩
      · unfold locComp; rw [if_pos hib]; exact hl
      · have hx := lookup_of_nodup hnd (mem_free h1)
        have := lookup_relabel (env := env) hx
        by_cases hq : (NameKind.free == NameKind.free && env.scope.kind == ScopeKind.function && env.kindOf x == some NameKind.cell) = true
        · rw [if_pos hq] at this; exact .inl this
        · rw [if_neg hq] at this; exact .inr this
      · show (clOf env scope.names).lookup x = some c
        rw [clOf_lookup h1 (by rw [hc]; rfl), hc]
  · unfold locComp
    have hb : cx.base + (ownNames scope.names).length ≤ i := hi
    rw [if_neg (by lia), List.getElem?_eq_none (by lia)]
end Mine

set_option maxRecDepth 10000
namespace Mine
open PySem PySem.W PySem.SeqAt PyProof.Rows PySem.Calls

variable {C : Ctx} {γ γ' γ₀ : Gh} {s s' : Shared} {m m' m₁ m₂ m₃ : Mem} {A : Around} {k : Nat} {env : Env} {cx : Cx} {loc : Nat → Loc} {ρ ρ' : List D}

set_option tactic.hygienic true in
theorem own_nodup : ∀ {names : List (Str × NameKind)}, namesNodup names = true → (ownNames names).Nodup
  | [], _ => by simp [ownNames]
  | p :: r, h => by
    simp only [namesNodup, Bool.and_eq_true, Bool.not_eq_true'] at h
    have ih := own_nodup h.2
    unfold ownNames at ih ⊢
    rw [List.filterMap_cons]
    split
    · exact ih
    · rename_i x hx
      split at hx
      · cases hx
        refine List.nodup_cons.mpr ⟨fun hm => ?_, ih⟩
        have := mem_own (names := r) hm
        have h1 := h.1
        rw [List.any_eq_false] at h1
        exact absurd (beq_self_eq_true p.1) (by simpa using h1 _ this)
      · cases hx

theorem undef_high (X : EnvOk cx loc env) (V : SInv C γ loc ρ s) : ∀ i, cx.base ≤ i → ρ[i]?.getD .undef = .undef := fun i hi => by
  have := V.slot i
  rw [X.high i hi] at this
  exact this

theorem sinv_comp {own : List Str} {L : Addr} {mm : Str → Option Value} (X : EnvOk cx loc env) (V : SInv C γ loc ρ s) (hL : s.heap.Ns L mm) (hG : γ.G L = none) (hκ : L ∉ γ.κ) (hno : ∀ b, Wl loc b → b ≠ L) (hnd : own.Nodup) :
    SInv C γ (locComp loc cx.base own L) ρ s := by
  have low : ∀ i, i < cx.base → locComp loc cx.base own L i = loc i := fun i hi => by unfold locComp; rw [if_pos hi]
  have high : ∀ i, cx.base ≤ i → locComp loc cx.base own L i = (match own[i - cx.base]? with | some x => .ns L x | none => .no) := fun i hi => by unfold locComp; rw [if_neg (Nat.not_lt.mpr hi)]; try rfl
  refine ⟨fun i => ?_, fun i j e hne => ?_, fun i a ha => ?_⟩
  · rcases Nat.lt_or_ge i cx.base with hi | hi
    · rw [low i hi]; exact V.slot i
    · rw [high i hi, undef_high X V i hi]
      split
      · exact ⟨mm, hL, .inl rfl⟩
      · rfl
  · rcases Nat.lt_or_ge i cx.base with hi | hi <;> rcases Nat.lt_or_ge j cx.base with hj | hj
    · rw [low i hi] at e hne; rw [low j hj] at e; exact V.inj i j e hne
    · rw [low i hi] at e hne; rw [high j hj] at e
      split at e
      · exact absurd rfl (hno L ⟨i, by rw [e]; rfl⟩)
      · exact absurd e hne
    · rw [high i hi] at e hne; rw [low j hj] at e
      split at e
      · exact absurd rfl (hno L ⟨j, by rw [← e]; rfl⟩)
      · rename_i q; rw [q] at hne; exact absurd rfl hne
    · rw [high i hi] at e hne; rw [high j hj] at e
      cases ei : own[i - cx.base]? with
      | none => rw [ei] at hne; exact absurd rfl hne
      | some x =>
        cases ej : own[j - cx.base]? with
        | none => rw [ei, ej] at e; cases e
        | some y =>
          rw [ei, ej] at e
          cases e
          have := nodup_at hnd ei ej
          lia
  · rcases Nat.lt_or_ge i cx.base with hi | hi
    · rw [low i hi] at ha; exact V.sep i a ha
    · rw [high i hi] at ha
      split at ha
      · cases ha; exact ⟨hκ, hG⟩
      · cases ha

theorem sinv_back {own : List Str} {L : Addr} (X : EnvOk cx loc env) (hinj : ∀ i j, loc i = loc j → loc i ≠ .no → i = j) (V : SInv C γ (locComp loc cx.base own L) ρ s) (hu : ∀ i, cx.base ≤ i → ρ[i]?.getD .undef = .undef) : SInv C γ loc ρ s := by
  have low : ∀ i, i < cx.base → locComp loc cx.base own L i = loc i := fun i hi => by unfold locComp; rw [if_pos hi]
  refine ⟨fun i => ?_, hinj, fun i a ha => ?_⟩
  · rcases Nat.lt_or_ge i cx.base with hi | hi
    · have := V.slot i; rw [low i hi] at this; exact this
    · rw [X.high i hi, hu i hi]; rfl
  · rcases Nat.lt_or_ge i cx.base with hi | hi
    · exact V.sep i a (by rw [low i hi]; exact ha)
    · rw [X.high i hi] at ha; cases ha

/-- a list in the making is done -/
theorem acc_end {W : Addr → Prop} {a : Addr} {l : List D} {s₀ : Shared} (x : Acc C γ s a l) (I : MInv C γ m s) (hl : l.length ≤ big) (S : Step W γ₀ s₀ γ s) (hW : ∀ b, W b → s₀.heap.get? b = none) (ha : s₀.heap.get? a = none) :
    ∃ γ', MInv C γ' m s ∧ Step NoW γ₀ s₀ γ' s ∧ Rel C γ' (.lst l) (.ref a) ∧ γ.Le γ' ∧ γ'.κ = γ.κ ∧ ∀ b o, γ'.G b = some o → γ.G b = some o ∨ b = a := by
  obtain ⟨vs, n, ho, rs, hG, hκ⟩ := x
  have L := Gh.put_le (o := lstO vs n) hG
  have putG : ∀ b o, (γ.put a (lstO vs n)).G b = some o → γ.G b = some o ∨ b = a := fun b o y => by
    have y : (if b = a then some (lstO vs n) else γ.G b) = some o := y
    by_cases hb : b = a
    · exact .inr hb
    · rw [if_neg hb] at y; exact .inl y
  have S' : Step NoW γ₀ s₀ γ s := S.drop fun b w => .inr (hW b w)
  refine ⟨_, I.put ho hG hκ, ⟨S'.le.trans L, fun b o y => ?_, S'.newκ, S'.keep, S'.live, S'.same⟩, .lst_new L (Gh.put_self ..) hl rs, L, rfl, putG⟩
  rcases putG b o y with q | q
  · exact S'.newG b o q
  · subst q; exact .inr (.inl ha)

theorem SInv.freeze {a : Addr} (V : SInv C γ loc ρ s) (L : γ.Le γ') (hκ : γ'.κ = γ.κ) (hG : ∀ b o, γ'.G b = some o → γ.G b = some o ∨ b = a) (hno : ¬ Wl loc a) : SInv C γ' loc ρ s := by
  refine ⟨fun i => (V.slot i).mono L, V.inj, fun i b hb => ?_⟩
  obtain ⟨h1, h2⟩ := V.sep i b hb
  refine ⟨hκ ▸ h1, ?_⟩
  cases e : γ'.G b with
  | none => rfl
  | some o =>
    rcases hG b o e with q | q
    · rw [h2] at q; cases q
    · subst q; exact absurd ⟨i, hb⟩ hno

/-- the way through a comprehension, up to what is done with its list -/
theorem comp_core {elt : Expr} {gens rest : List Comprehension} {scope : Scope} {pos pos' : Pos} {target iter : Expr} {ifs : List Expr} {t : Tgt} {d : D} {ds lnew : List D} {mend : Mem} {use : Option (Value → Sem Unit)} {Q : Value → Shared → Prop}
    {ifsF : List D → Mem → Option (Bool × Mem)} {innerF : List D → Mem → Option (List D × Mem)}
    (hgens : gens = ⟨target, iter, ifs, 0⟩ :: rest) (hh : A.handled = none) (X : EnvOk cx loc env) (ok : compOk cx scope = true) (_I : MInv C γ m s) (V : SInv C γ loc ρ s)
    (h₁ : Gives C A γ s (eval iter env) d m₁) (e₁ : items d = some ds) (hfold : ∀ x, foldedSetIterable iter env x = pure x) (ht : tgtIs (cxComp cx scope) t target = true) (hts : ∀ i ∈ t.slots, cx.base ≤ i) (hn : ∀ g', gens[1]? = some g' → g'.is_async = 0)
    (tests : ∀ loc' env' γ s ρ' m b m₁, EnvOk (cxComp cx scope) loc' env' → MInv C γ m s → SInv C γ loc' ρ' s → ifsF ρ' m = some (b, m₁) → GivesB C A γ s (testsTree ifs env') b m₁)
    (inner : ∀ loc' env' a L γ s ρ' m l lx m₁ d, EnvOk (cxComp cx scope) loc' env' → a ≠ L → ¬ Wl loc' a → (∀ i, cx.base ≤ i → ∀ b, (loc' i).addr = some b → b = L) → assignT ρ t d = some ρ' → MInv C γ m s → SInv C γ loc' ρ' s → Acc C γ s a l → innerF ρ' m = some (lx, m₁) → (l ++ lx).length ≤ big →
      InnerGives C A (compInner elt gens scope pos 0 (.ref a) env' (pure ())) loc' a L γ s ρ' l lx m₁)
    (e : compL (assignT ρ t) ifsF innerF ds m₁ = some (lnew, mend)) (hb : lnew.length ≤ big)
    (hend : ∀ γ' s' a L mm, MInv C γ' mend s' → Step NoW γ s γ' s' → SInv C γ' loc ρ s' → Rel C γ' (.lst lnew) (.ref a) → s'.heap.Ns L mm → γ'.G L = none → L ∉ γ'.κ → (∀ b, Wl loc b → b ≠ L) → s.heap.get? L = none →
      compPost (model C.prog C.w) A noE use Q (.ref a) L (.ok .next) s') :
    wpAny (model C.prog C.w) A (comprehension (.ListComp elt gens scope pos) scope env pos' (newList []) false (eval iter env) use) Q noE s := by
  have ok' := ok
  unfold compOk at ok'
  simp only [Bool.and_eq_true, List.all_eq_true, beq_iff_eq] at ok'
  obtain ⟨⟨⟨⟨hk, hnd⟩, hnc⟩, hfree⟩, hne⟩ := ok'
  have hown : ∃ x, (ownNames scope.names)[0]? = some x := by
    cases hq : ownNames scope.names with
    | nil => rw [hq] at hne; simp at hne
    | cons x r => exact ⟨x, rfl⟩
  obtain ⟨x0, hx0⟩ := hown
  obtain ⟨_, hclo⟩ := envOk_comp (L := 0) X ok
  refine wpAny_comprehension_free (g := ⟨target, iter, ifs, 0⟩) (gs := rest) (by rw [hgens]; rfl) hfold hclo hk (fun p hp hl => by rw [lookup_of_nodup hnd hp, hl]) ?_
  refine h₁.thenW fun xv γ₁ s₁ I₁ S₁ R₁ => ?_
  refine wpAny_mono (iter_ok hh I₁ R₁ e₁) (fun it s₂ z => ?_) fun _ _ e => e.elim
  obtain ⟨It, W, St, rfl, Itok, hWf, I₂, S₂, st₂⟩ := z
  refine wpAny_newObj_type (wpAny_newFunctionEnv (fun y hy => by simpa using hnc y hy) (by intro y hy; simp at hy) (fun h₁' hns hsb => ?_) hk)
  dsimp only at hns hsb ⊢
  have V₂ := (V.step S₁).step S₂
  generalize hH : s₂.heap.push { cls := .type "list", dict := none, data := .seq ([] : List Value).toArray } = H at hns hsb ⊢
  have hLs : H.objs.size = s₂.heap.objs.size + 1 := by rw [← hH, Heap.size_push]
  have haL : s₂.heap.objs.size ≠ H.objs.size := by rw [hLs]; exact Nat.ne_of_lt (Nat.lt_succ_self _)
  have keep : ∀ b o, s₂.heap.get? b = some o → h₁'.get? b = some o := fun b o e => hsb.extBut b o (by rw [hLs]; exact Nat.ne_of_lt (Nat.lt_succ_of_lt (Heap.lt_size e))) (Heap.get?_push_of_some _ (hH ▸ Heap.get?_push_of_some _ e))
  obtain ⟨I₄, S₄⟩ := I₂.grow (t := s₂.toks + ([] : List (Str × Value)).length) keep
  have fa := get?_size s₂.heap
  have fL : s₂.heap.get? H.objs.size = none := get?_ge (by rw [hLs]; exact Nat.le_succ _)
  have back₂ : ∀ b, s₂.heap.get? b = none → s.heap.get? b = none := fun b hb => ((S₁.trans S₂).none_of hb).resolve_right fun f => f
  obtain ⟨na1, na2⟩ := I₂.newAddr fa
  obtain ⟨nL1, nL2⟩ := I₂.newAddr fL
  have hnoL : ∀ b, Wl loc b → b ≠ H.objs.size := fun b ⟨i, hi⟩ q => by
    subst q
    obtain ⟨o, ho⟩ := (V₂.slot i).live hi
    rw [fL] at ho; cases ho
  have hnoa : ∀ b, Wl loc b → b ≠ s₂.heap.objs.size := fun b ⟨i, hi⟩ q => by
    subst q
    obtain ⟨o, ho⟩ := (V₂.slot i).live hi
    rw [fa] at ho; cases ho
  have V₄ := sinv_comp (own := ownNames scope.names) X (V₂.step S₄) hns nL1 nL2 hnoL (own_nodup hnd)
  have Ac₄ : Acc C γ₁ { s₂ with heap := h₁', toks := s₂.toks + ([] : List (Str × Value)).length } s₂.heap.objs.size [] :=
    ⟨[], 0, hsb.extBut _ _ haL (Heap.get?_push_of_some _ (hH ▸ Heap.get?_push_size _ rfl)), .nil, na1, na2⟩
  have st₄ := Itok.frame _ _ _ _ _ _ _ _ st₂ I₂ S₄ I₄ (fun _ _ f => f.elim)
  obtain ⟨X', _⟩ := envOk_comp (L := H.objs.size) X ok
  have WlC : ∀ b, Wl (locComp loc cx.base (ownNames scope.names) H.objs.size) b → b = H.objs.size ∨ Wl loc b := fun b ⟨i, hi⟩ => by
    unfold locComp at hi
    split at hi
    · exact .inr ⟨i, hi⟩
    · split at hi
      · cases hi; exact .inl rfl
      · cases hi
  have highL : ∀ i, cx.base ≤ i → ∀ b, (locComp loc cx.base (ownNames scope.names) H.objs.size i).addr = some b → b = H.objs.size := fun i hi b hb => by
    unfold locComp at hb
    rw [if_neg (Nat.not_lt.mpr hi)] at hb
    split at hb
    · cases hb; rfl
    · cases hb
  have hWlive : ∀ b, W b → b < s₂.heap.objs.size := fun b hb => by
    obtain ⟨_, _, o, ho⟩ := Itok.own _ _ _ st₂ b hb
    exact Heap.lt_size ho
  have hund := undef_high X V
  have hal : ¬ Wl (locComp loc cx.base (ownNames scope.names) H.objs.size) s₂.heap.objs.size := fun hw => by
    rcases WlC _ hw with q | q
    · exact haL q
    · exact hnoa _ q rfl
  have hg0 : gens[0]? = some ⟨target, iter, ifs, 0⟩ := by rw [hgens]; rfl
  refine compStart_go hg0 (codeAny_mono (compL_sem (cx := cxComp cx scope) (lall := lnew) (W := W) (L := H.objs.size) hh X'.fn X'.var hg0 hn ht (fun h => by cases h) Itok (fun b hb => ⟨Nat.ne_of_lt (hWlive b hb), Nat.ne_of_lt (by rw [hLs]; exact Nat.lt_succ_of_lt (hWlive b hb))⟩)
    (fun b hb hw => ?_) hal (fun b hb => ?_) haL (fun i hi => hund i (hts i hi)) hb
    (fun γ s ρ' m b m₁ d _ I V e => tests _ _ γ s ρ' m b m₁ X' I V e)
    (fun γ s ρ' m l lx m₁ d ea I V Ac e hl => inner _ _ _ _ γ s ρ' m l lx m₁ d X' haL hal highL ea I V Ac e hl)
    st₄ I₄ V₄ Ac₄ e rfl) fun r s₅ z => ?_) ?_
  · rcases WlC b hb with q | ⟨i, hi⟩
    · subst q; exact absurd (hWlive _ hw) (by rw [hLs]; exact Nat.not_lt.mpr (Nat.le_succ _))
    · obtain ⟨o, ho⟩ := ((V.step S₁).slot i).live hi
      rw [hWf b hw] at ho; cases ho
  · cases t with
    | v i => exact highL i (hts i List.mem_cons_self) b hb
    | t is =>
      obtain ⟨i, hi, hb⟩ := hb
      exact highL i (hts i hi) b hb
  · obtain ⟨rfl, γ₅, I₅, S₅, V₅, Ac₅⟩ := z
    have S₀ : Step (fun b => W b ∨ Wc s₂.heap.objs.size H.objs.size b) γ s γ₅ s₅ := (((S₁.trans S₂).trans S₄).weaken).trans S₅
    have hfresh : ∀ b, (W b ∨ Wc s₂.heap.objs.size H.objs.size b) → s.heap.get? b = none := fun b hb => by
      rcases hb with hb | hb | hb
      · exact (S₁.none_of (hWf b hb)).resolve_right fun f => f
      · subst hb; exact back₂ _ fa
      · subst hb; exact back₂ _ fL
    obtain ⟨γ₆, I₆, S₆, R₆, L₆, κ₆, G₆⟩ := acc_end Ac₅ I₅ hb S₀ hfresh (back₂ _ fa)
    have V₆ := SInv.freeze V₅ L₆ κ₆ G₆ hal
    have hs0 := V₆.slot cx.base
    have hl0 : locComp loc cx.base (ownNames scope.names) H.objs.size cx.base = .ns H.objs.size x0 := by
      unfold locComp
      rw [if_neg (Nat.lt_irrefl _), Nat.sub_self, hx0]
    rw [hl0] at hs0
    obtain ⟨mm, hNs, _⟩ := hs0
    have hsep := V₆.sep cx.base H.objs.size (by rw [hl0]; rfl)
    exact hend γ₆ s₅ _ _ mm I₆ S₆ (sinv_back X V.inj V₆ hund) R₆ hNs hsep.2 hsep.1 hnoL (back₂ _ fL)
  · exact Itok.self _ _ _ _ st₄ I₄
end Mine

set_option maxRecDepth 10000
namespace Mine
open PySem PySem.W PySem.SeqAt PyProof.Rows PySem.Calls

variable {C : Ctx} {γ γ' γ₀ : Gh} {s s' : Shared} {m m' m₁ m₂ m₃ : Mem} {A : Around} {k : Nat} {env : Env} {cx : Cx} {loc : Nat → Loc} {ρ ρ' : List D}

section tests
variable {c : Expr} {cs : List Expr} {b : Bool}

theorem testsTree_false : ∀ (cs : List Expr), (forIn cs false fun c r => if r = true then do let ok ← isTrue c env (eval c env); pure (ForInStep.yield ok) else pure (ForInStep.yield r)) = (pure false : Sem Bool)
  | [] => rfl
  | c :: cs => by
    rw [List.forIn_cons]
    simp only [Bool.false_eq_true, if_false, pure_bind]
    exact testsTree_false cs

theorem tests_nil (I : MInv C γ m s) : GivesB C A γ s (testsTree [] env) true m := wpAny_pure ⟨rfl, γ, I, .refl ..⟩
theorem tests_stop (h : GivesB C A γ s (isTrue c env (eval c env)) false m₁) : GivesB C A γ s (testsTree (c :: cs) env) false m₁ := by
  unfold testsTree
  rw [GivesB, List.forIn_cons]
  simp only [if_true]
  refine wpAny_bind (wpAny_bind (h.thenW fun γ₁ s₁ I₁ S₁ => wpAny_pure ?_))
  exact wpAny_of_eq (testsTree_false cs) ⟨rfl, γ₁, I₁, S₁⟩
theorem tests_go (h : GivesB C A γ s (isTrue c env (eval c env)) true m₁) (h₂ : Later C γ s m₁ fun γ₁ s₁ => GivesB C A γ₁ s₁ (testsTree cs env) b m₂) : GivesB C A γ s (testsTree (c :: cs) env) b m₂ := by
  unfold testsTree
  rw [GivesB, List.forIn_cons]
  simp only [if_true]
  refine wpAny_bind (wpAny_bind (h.thenW fun γ₁ s₁ I₁ S₁ => wpAny_pure ?_))
  exact (h₂ γ₁ s₁ I₁ S₁).from S₁
end tests

section inner
variable {elt : Expr} {gens : List Comprehension} {scope : Scope} {pos : Pos} {a L : Addr} {l lnew : List D} {d : D}

theorem inner_done (hg : gens[k + 1]? = none) (h : Gives C A γ s (eval elt env) d m₁) (V : SInv C γ loc ρ s) (Ac : Acc C γ s a l) (hal : ¬ Wl loc a) (hb : (l ++ [d]).length ≤ big) :
    InnerGives C A (compInner elt gens scope pos k (.ref a) env (pure ())) loc a L γ s ρ l [d] m₁ := by
  unfold InnerGives compInner
  rw [hg]
  refine wpAny_bind (wpAny_bind (h.thenW fun v γ₁ s₁ I₁ S₁ R₁ => wpAny_bind ((Ac.stepW S₁ (fun f => f.elim)).push I₁ R₁ hb fun s₂ I₂ S₂ Ac₂ => wpAny_pure (wpAny_pure ?_))))
  exact ⟨γ₁, I₂, S₁.weaken.trans (S₂.weaken' fun b hb => .inl hb), (V.step S₁).stepW S₂ (fun b hw q => hal (q ▸ hw)), Ac₂⟩

theorem inner_next {target iter : Expr} {ifs : List Expr} {t : Tgt} {ds : List D} {mend : Mem} {ifsF : List D → Mem → Option (Bool × Mem)} {innerF : List D → Mem → Option (List D × Mem)}
    (hg : gens[k + 1]? = some ⟨target, iter, ifs, 0⟩) (hn : ∀ g', gens[k + 1 + 1]? = some g' → g'.is_async = 0) (hh : A.handled = none) (X : EnvOk cx loc env) (_I : MInv C γ m s) (V : SInv C γ loc ρ s) (Ac : Acc C γ s a l)
    (h₁ : Gives C A γ s (eval iter env) d m₁) (e₁ : items d = some ds) (hfold : ∀ x, foldedSetIterable iter env x = pure x) (ht : tgtIs cx t target = true)
    (hal : ¬ Wl loc a) (haL : a ≠ L) (hWt : ∀ b, Wt loc t b → b = L) (hLW : ∃ i, (loc i).addr = some L) (hund : ∀ i ∈ t.slots, ρ[i]?.getD .undef = .undef) (hbig : (l ++ lnew).length ≤ big)
    (tests : ∀ γ s ρ' m b m₁ d, assignT ρ t d = some ρ' → MInv C γ m s → SInv C γ loc ρ' s → ifsF ρ' m = some (b, m₁) → GivesB C A γ s (testsTree ifs env) b m₁)
    (inner : ∀ γ s ρ' m l lnew m₁ d, assignT ρ t d = some ρ' → MInv C γ m s → SInv C γ loc ρ' s → Acc C γ s a l → innerF ρ' m = some (lnew, m₁) → (l ++ lnew).length ≤ big → InnerGives C A (compInner elt gens scope pos (k + 1) (.ref a) env (pure ())) loc a L γ s ρ' l lnew m₁)
    (e : compL (assignT ρ t) ifsF innerF ds m₁ = some (lnew, mend)) :
    InnerGives C A (compInner elt gens scope pos k (.ref a) env (pure ())) loc a L γ s ρ l lnew mend := by
  unfold InnerGives compInner
  rw [hg]
  refine wpAny_bind (h₁.thenW fun xv γ₁ s₁ I₁ S₁ R₁ => wpAny_bind (wpAny_standAt (wpAny_bind (wpAny_of_eq (hfold xv) (wpAny_bind (wpAny_holding (wpAny_mono (iter_ok hh I₁ R₁ e₁) (fun it s₂ z => ?_) fun _ _ e => e.elim)))))))
  obtain ⟨It, W, St, rfl, Itok, hWf, I₂, S₂, st₂⟩ := z
  have V₁ := V.step S₁
  have V₂ := V₁.step S₂
  have Ac₁ := Ac.stepW S₁ (fun f => f.elim)
  have Ac₂ := Ac₁.stepW S₂ (fun f => f.elim)
  have notW : ∀ b o, s₁.heap.get? b = some o → ¬ W b := fun b o ho hw => by rw [hWf b hw] at ho; cases ho
  have aLive : ∃ o, s₁.heap.get? a = some o := by obtain ⟨vs, n, ho, _⟩ := Ac₁; exact ⟨_, ho⟩
  have wlLive : ∀ b, Wl loc b → ∃ o, s₁.heap.get? b = some o := fun b ⟨i, hi⟩ => (V₁.slot i).live hi
  refine wpAny_bind (wpAny_runOwn (compStart_go hg (codeAny_mono (compL_sem (lall := l ++ lnew) (W := W) (L := L) hh X.fn X.var hg hn ht (fun h => by cases h) Itok (fun b hb => ?_) (fun b hb hw => ?_) hal hWt haL hund hbig tests inner st₂ I₂ V₂ Ac₂ e rfl) fun r s₅ z => ?_) ?_))
  · refine ⟨fun q => ?_, fun q => ?_⟩
    · subst q; obtain ⟨o, ho⟩ := aLive; exact notW _ o ho hb
    · subst q; obtain ⟨o, ho⟩ := wlLive _ hLW; exact notW _ o ho hb
  · obtain ⟨o, ho⟩ := wlLive b hb; exact notW b o ho hw
  · obtain ⟨rfl, γ₅, I₅, S₅, V₅, Ac₅⟩ := z
    refine wpAny_pure ⟨γ₅, I₅, ?_, V₅, Ac₅⟩
    refine Step.drop ((S₁.trans S₂).weaken.trans S₅) fun b hb => ?_
    rcases hb with hb | hb
    · exact .inr ((S₁.none_of (hWf b hb)).resolve_right fun f => f)
    · exact .inl hb
  · exact Itok.self _ _ _ _ st₂ I₂
end inner

section whole
variable {elt : Expr} {rest : List Comprehension} {scope : Scope} {pos : Pos} {target iter : Expr} {ifs : List Expr} {lnew : List D} {mend : Mem}

/-- what is to be shown of a comprehension -/
noncomputable def CompOf (C : Ctx) (A : Around) (cx : Cx) (loc : Nat → Loc) (env : Env) (γ : Gh) (s : Shared) (ρ : List D) (elt : Expr) (gens : List Comprehension) (scope : Scope) (pos : Pos) (lnew : List D) (mend : Mem) : Prop :=
  ∀ (pos' : Pos) (use : Option (Value → Sem Unit)) (Q : Value → Shared → Prop),
    (∀ γ' s' a L mm, MInv C γ' mend s' → Step NoW γ s γ' s' → SInv C γ' loc ρ s' → Rel C γ' (.lst lnew) (.ref a) → s'.heap.Ns L mm → γ'.G L = none → L ∉ γ'.κ → (∀ b, Wl loc b → b ≠ L) → s.heap.get? L = none →
      compPost (model C.prog C.w) A noE use Q (.ref a) L (.ok .next) s') →
    wpAny (model C.prog C.w) A (comprehension (.ListComp elt gens scope pos) scope env pos' (newList []) false (firstIter gens env) use) Q noE s

theorem comp_go (h : CompOf C A cx loc env γ s ρ elt (⟨target, iter, ifs, 0⟩ :: rest) scope pos lnew mend) : Gives C A γ s (eval (.ListComp elt (⟨target, iter, ifs, 0⟩ :: rest) scope pos) env) (.lst lnew) mend := by
  rw [eval_ListComp]
  refine h _ none _ fun γ' s' a L mm I S V R hN hG hκ hno hf => ⟨mm, hN, fun h' hs => ?_⟩
  obtain ⟨J, S'⟩ := I.write hG hκ (h' := h') (t := s'.toks) (fun b o hb e => (hs.2 b hb).trans e)
  exact ⟨γ', J, (S.weaken.trans S').drop fun b hb => .inr (hb ▸ hf), R⟩

theorem comp_asg {x : Str} {j : Nat} {px spos : Pos} (hk : env.scope.kind = .function) (hr : Res env (loc j) x) (hsw : swapsWith (.ListComp elt (⟨target, iter, ifs, 0⟩ :: rest) scope pos) (some (.Name x px)) spos.line env = pure true)
    (h : CompOf C A cx loc env γ s ρ elt (⟨target, iter, ifs, 0⟩ :: rest) scope pos lnew mend) :
    wpAny (model C.prog C.w) A (exec (.Assign [.Name x px] (.ListComp elt (⟨target, iter, ifs, 0⟩ :: rest) scope pos) spos) env) (fun f s' => f = .next ∧ Stored C (Wl loc) loc γ s (ρ.set j (.lst lnew)) mend s') noE s := by
  rw [exec_Assign_Name_used _ _ _ _ hsw]
  refine wpAny_bind (wpAny_standAt (wpAny_bind ?_))
  show wpAny _ A (do let _ ← comprehension (.ListComp elt (⟨target, iter, ifs, 0⟩ :: rest) scope pos) scope env _ (newList []) false (firstIter (⟨target, iter, ifs, 0⟩ :: rest) env) (some (assign (.Name x px) env))) _ _ s
  refine wpAny_bind (h _ (some (assign (.Name x px) env)) _ fun γ' s' a L mm I S V R hN hG hκ hno hf => ?_)
  show wpAny _ A (assign (.Name x px) env (.ref a)) _ _ _
  refine wpAny_assign_Name (wpAny_mono (store_go hk hr I V R) (fun _ s₂ z => ?_) fun _ _ e => e)
  obtain ⟨I₂, S₂, V₂⟩ := z
  have hLj : ¬ (loc j).addr = some L := fun q => hno L ⟨j, q⟩ rfl
  refine ⟨mm, hN.at' fun o e => S₂.keep L o e hκ hLj, fun h' hs => wpAny_pure (wpAny_pure ⟨rfl, ?_⟩)⟩
  obtain ⟨J, S₃⟩ := I₂.write hG hκ (h' := h') (t := s₂.toks) (fun b o hb e => (hs.2 b hb).trans e)
  refine ⟨γ', J, ?_, V₂.stepW S₃ fun b hb q => hno b hb q⟩
  refine Step.drop (W' := fun b => Wl loc b ∨ b = L) ((S.weaken.trans (S₂.weaken' fun b hb => .inl ⟨j, hb⟩)).trans (S₃.weaken' fun b hb => .inr hb)) fun b hb => ?_
  rcases hb with hb | hb
  · exact .inl hb
  · exact .inr (hb ▸ hf)
end whole
end Mine

set_option maxRecDepth 10000
namespace Mine
open PySem PySem.W PySem.SeqAt PyProof.Rows PySem.Calls

variable {C : Ctx} {γ γ' γ₀ : Gh} {s s' : Shared} {m m' m₁ m₂ m₃ : Mem} {A : Around} {k : Nat} {env : Env} {cx : Cx} {loc : Nat → Loc} {ρ ρ' : List D}

noncomputable def FlOk (C : Ctx) (γ : Gh) (fl : Fl) (f : Flow) : Prop := match fl with
  | .next => f = .next
  | .ret d => ∃ v, f = .ret v ∧ Rel C γ d v

/-- what a statement gives -/
noncomputable def GivesX (C : Ctx) (A : Around) (loc : Nat → Loc) (γ : Gh) (s : Shared) (t : Sem Flow) (fl : Fl) (ρ' : List D) (m' : Mem) : Prop :=
  wpAny (model C.prog C.w) A t (fun f s' => ∃ γ', MInv C γ' m' s' ∧ Step (Wl loc) γ s γ' s' ∧ SInv C γ' loc ρ' s' ∧ FlOk C γ' fl f) noE s

/-- from a later state, slots written -/
noncomputable abbrev LaterX (C : Ctx) (loc : Nat → Loc) (γ : Gh) (s : Shared) (ρ₁ : List D) (m₁ : Mem) (P : Gh → Shared → Prop) : Prop := ∀ γ₁ s₁, MInv C γ₁ m₁ s₁ → Step (Wl loc) γ s γ₁ s₁ → SInv C γ₁ loc ρ₁ s₁ → P γ₁ s₁

theorem Stored.flow {t : Sem Unit} {W : Addr → Prop} (h : wpAny (model C.prog C.w) A t (fun _ s' => Stored C W loc γ s ρ' m' s') noE s) (hW : ∀ a, W a → Wl loc a) :
    wpAny (model C.prog C.w) A t (fun _ s' => ∃ γ', MInv C γ' m' s' ∧ Step (Wl loc) γ s γ' s' ∧ SInv C γ' loc ρ' s' ∧ FlOk C γ' .next .next) noE s :=
  wpAny_mono h (fun _ s' ⟨γ', I, S, V⟩ => ⟨γ', I, S.weaken' hW, V, rfl⟩) fun _ _ e => e

noncomputable def notComp (x : Expr) : Bool := !(Nat.beq x.ctorIdx 8 || Nat.beq x.ctorIdx 9 || Nat.beq x.ctorIdx 10)
theorem swapsWith_of {value : Expr} (h : notComp value = true) (t : Option Expr) (n : Nat) : swapsWith value t n env = pure false := by
  cases value <;> first | rfl | exact Bool.noConfusion h
noncomputable def notTuple (x : Expr) : Bool := !(Nat.beq x.ctorIdx 25)

section assign
variable {value target : Expr} {pos : Pos} {t : Tgt} {d : D}

/-- target = value, the plain way -/
theorem asg_plain (hh : A.handled = none) (X : EnvOk cx loc env) (V : SInv C γ loc ρ s) (ht : tgtIs cx t target = true) (hs : swapsWithSole [target] value pos.line env = pure false) (hw : swappedStores [target] value env = pure none)
    (h : Gives C A γ s (eval value env) d m₁) (e : assignT ρ t d = some ρ') : GivesX C A loc γ s (exec (.Assign [target] value pos) env) .next ρ' m₁ := by
  refine wpAny_Assign_stores (h.thenW fun v γ₁ s₁ I₁ S₁ R₁ => ?_) hs hw
  have he : (assignEach [target] env).map (·.2) = [assign target env] := by
    rcases tgtIs.kind ht with ⟨x, p, rfl⟩ | ⟨es, n, p, rfl⟩ <;> rfl
  rw [he]
  show wpAny _ A (assign target env v) _ _ s₁
  refine wpAny_mono (assign_go hh X.fn X.var ht I₁ (V.step S₁) R₁ e) (fun _ s₂ z => ?_) fun _ _ e => e
  obtain ⟨γ₂, I₂, S₂, V₂⟩ := z
  exact ⟨γ₂, I₂, S₁.weaken.trans (S₂.weaken' (Wt_le t)), V₂, rfl⟩

theorem asg_any (hh : A.handled = none) (X : EnvOk cx loc env) (V : SInv C γ loc ρ s) (ht : tgtIs cx t target = true) (hc : notComp value = true) (hv : notTuple value = true ∨ ∃ x p, target = .Name x p)
    (h : Gives C A γ s (eval value env) d m₁) (e : assignT ρ t d = some ρ') : GivesX C A loc γ s (exec (.Assign [target] value pos) env) .next ρ' m₁ := by
  refine asg_plain hh X V ht ?_ ?_ h e
  · show swapsWith value (some target) pos.line env = pure false
    exact swapsWith_of hc _ _
  · rcases hv with hv | ⟨x, p, rfl⟩
    · rcases tgtIs.kind ht with ⟨x, p, rfl⟩ | ⟨es, n, p, rfl⟩
      · rfl
      · cases value <;> first | rfl | exact Bool.noConfusion hv
    · rfl

/-- x = [.. for ..] -/
theorem swapsWith_comp {elt : Expr} {gens : List Comprehension} {scope : Scope} {cpos p : Pos} {x : Str} (hk : env.scope.kind = .function) (n : Nat) :
    swapsWith (.ListComp elt gens scope cpos) (some (.Name x p)) n env = pure (env.kindOf x == some .local && p.line == cpos.line && !(scope.names.any fun (n, k) => n == x && (k == .local || k == .cell))) := by
  show (pure _ : Sem Bool) = _
  congr 1
  have : env.blockKind = .function := by unfold Env.blockKind; rw [hk]; rfl
  rw [this]
  rfl
end assign

section swaps
variable {x y z : Str} {p q r : Pos} {v w u : Expr} {n n' : Nat} {pos pos' : Pos}

theorem noStar {f : Expr → Bool} (hf : ∀ e, plainArg e = true → f e = false) {es : List Expr} (h : es.all plainArg = true) : ¬ es.any f = true := fun q => by
  obtain ⟨e, he, q⟩ := List.any_eq_true.mp q
  exact Bool.false_ne_true ((hf e (List.all_eq_true.mp h e he)).symm.trans q)
theorem all2 {f : Expr → Bool} (a1 : f v = true) (a2 : f w = true) : [v, w].all f = true := by
  rw [List.all_cons, List.all_cons, a1, a2]; rfl
theorem blk (hk : env.scope.kind = .function) : env.blockKind = .function := by unfold Env.blockKind; rw [hk]; rfl

theorem ite_r {c : Prop} [Decidable c] {α : Type} {a b r : α} (h1 : a = r) (h2 : b = r) : (if c then a else b) = r := by
  by_cases h : c
  · exact (if_pos h).trans h1
  · exact (if_neg h).trans h2
theorem swapA (hk : env.scope.kind = .function) (h1 : foldedForSure 8 v = true) (h2 : foldedForSure 8 w = true) (a1 : plainArg v = true) (a2 : plainArg w = true) :
    swappedStores [.Tuple [.Name x p, .Name y q] n pos] (.Tuple [v, w] n' pos') env = pure none := by
  unfold swappedStores
  refine (if_neg ?_).trans ((if_neg (noStar (fun e he => ?_) (all2 a1 a2))).trans ?_)
  · rw [blk hk]; exact Bool.false_ne_true
  · cases e <;> first | rfl | exact Bool.noConfusion he
  · exact ite_r rfl (if_pos (all2 h1 h2))

theorem swapB (hk : env.scope.kind = .function) (h2 : env.kindOf y = some .cell) (a1 : plainArg v = true) (a2 : plainArg w = true) (a3 : plainArg u = true) :
    swappedStores [.Tuple [.Name x p, .Name y q, .Name z r] n pos] (.Tuple [v, w, u] n' pos') env = pure none := by
  have lt : ∀ {g : Expr → Option Str}, g (.Name y q) = none → ([Expr.Name x p, .Name y q, .Name z r].filterMap g).length ≠ 3 := fun h => Nat.ne_of_lt (List.length_filterMap_lt_length_iff_exists.mpr ⟨_, .tail _ (.head _), h⟩)
  unfold swappedStores
  refine (if_neg ?_).trans ((if_neg (noStar (fun e he => ?_) ?_)).trans ((if_pos ?_).trans rfl))
  · rw [blk hk]; exact Bool.false_ne_true
  · cases e <;> first | rfl | exact Bool.noConfusion he
  · rw [List.all_cons, a1]; exact all2 a2 a3
  · refine Bool.or_eq_true_iff.mpr (.inl (bne_iff_ne.mpr (lt (if_neg ?_))))
    rw [h2]; exact Bool.false_ne_true

theorem swapC (hk : env.scope.kind = .function) (k1 : env.kindOf x = some .local) (k2 : env.kindOf y = some .local) (hp : p.line = q.line) (hxy : (x == y) = false) (a1 : plainArg v = true) (a2 : plainArg w = true)
    (f : ([v, w].all (foldedForSure 8)) = false) (c : ([v, w].all (constantsAlone 8)) = false) :
    swappedStores [.Tuple [.Name x p, .Name y q] n pos] (.Tuple [v, w] n' pos') env = pure (some [x, y]) := by
  have hd : [x, y].eraseDups = [x, y] := by
    have hxy' : (y == x) = false := by
      rw [beq_eq_false_iff_ne] at hxy ⊢
      exact fun h => hxy h.symm
    simp [List.eraseDups_cons, hxy']
  have fm : ∀ {g : Expr → Option Str}, g (.Name x p) = some x → g (.Name y q) = some y → [Expr.Name x p, .Name y q].filterMap g = [x, y] := fun g1 g2 => by
    rw [List.filterMap_cons_some g1, List.filterMap_cons_some g2]; rfl
  have g1 : (env.kindOf x == some NameKind.local && p.line == p.line) = true := by rw [k1, beq_self_eq_true p.line]; rfl
  have g2 : (env.kindOf y == some NameKind.local && q.line == p.line) = true := by rw [k2, hp, beq_self_eq_true q.line]; rfl
  unfold swappedStores
  refine (if_neg ?_).trans ((if_neg (noStar (fun e he => ?_) (all2 a1 a2))).trans ((if_neg ?_).trans ((if_neg ?_).trans ((if_neg ?_).trans ?_))))
  · rw [blk hk]; exact Bool.false_ne_true
  · cases e <;> first | rfl | exact Bool.noConfusion he
  · rw [fm (if_pos g1) (if_pos g2), hd]; exact Bool.false_ne_true
  · rw [f]; exact Bool.false_ne_true
  · rw [c]; exact Bool.false_ne_true
  · exact congrArg (fun l => pure (some l)) (fm (if_pos g1) (if_pos g2))
end swaps
end Mine

set_option maxRecDepth 10000
namespace Mine
open PySem PySem.W PySem.SeqAt PyProof.Rows PySem.Calls

variable {C : Ctx} {γ γ' γ₀ : Gh} {s s' : Shared} {m m' m₁ m₂ m₃ : Mem} {A : Around} {k : Nat} {env : Env} {cx : Cx} {loc : Nat → Loc} {ρ ρ' ρ₁ : List D}

theorem GivesX.from {t : Sem Flow} {fl : Fl} (S : Step (Wl loc) γ s γ' s') (h : GivesX C A loc γ' s' t fl ρ' m') :
    wpAny (model C.prog C.w) A t (fun f s'' => ∃ γ'', MInv C γ'' m' s'' ∧ Step (Wl loc) γ s γ'' s'' ∧ SInv C γ'' loc ρ' s'' ∧ FlOk C γ'' fl f) noE s' :=
  wpAny_mono h (fun f s'' z => by obtain ⟨γ'', I, S', F⟩ := z; exact ⟨γ'', I, S.trans S', F⟩) fun _ _ e => e

section swapped
variable {x y : Str} {i j : Nat} {px py pt : Pos} {n : Nat} {value : Expr} {pos : Pos} {d e : D}

/-- a, b = .. , .. : stored from the end -/
theorem asg_swapped (hh : A.handled = none) (X : EnvOk cx loc env) (V : SInv C γ loc ρ s) (hx : cx.vars.lookup x = some i) (hy : cx.vars.lookup y = some j) (hij : i ≠ j) (hc : notComp value = true)
    (hw : swappedStores [.Tuple [.Name x px, .Name y py] n pt] value env = pure (some [x, y]))
    (h : Gives C A γ s (eval value env) (.tup [d, e]) m₁) : GivesX C A loc γ s (exec (.Assign [.Tuple [.Name x px, .Name y py] n pt] value pos) env) .next ((ρ.set i d).set j e) m₁ := by
  refine Assign_Tuple_swapped (h.thenW fun v γ₁ s₁ I₁ S₁ R₁ => ?_) (show swapsWith value (some (.Tuple [.Name x px, .Name y py] n pt)) pos.line env = pure false from swapsWith_of hc _ _) hw
  obtain ⟨c, vs, nn, rfl, g, hl, u, _, rfl, ru, w, _, rfl, rw_, rfl⟩ := R₁
  refine wpAny_unpackItems_tuple (items := #[u, w]) hh ⟨_, I₁.frozen _ _ g, rfl, nn, rfl⟩ fun h' hx' => ?_
  obtain ⟨J, S⟩ := I₁.grow (t := s₁.toks) (h' := h') (fun b o e => hx' b o (Nat.ne_of_lt (Heap.lt_size e)) e)
  show wpAny _ A (do holding [u] (bindName env y w); (do holding [] (bindName env x u); pure ())) _ _ _
  refine wpAny_bind (wpAny_holding (wpAny_bindName (wpAny_mono (store_go X.fn (X.var y j hy) J ((V.step S₁).step S) (rw_.mono S.le)) (fun _ s₂ z => ?_) fun _ _ e => e)))
  refine wpAny_bind (wpAny_holding (wpAny_bindName (wpAny_mono (store_go X.fn (X.var x i hx) z.1 z.2.2 (ru.mono (S.le.trans z.2.1.le))) (fun _ s₃ z' => wpAny_pure ?_) fun _ _ e => e)))
  exact ⟨_, z'.1, ((S₁.trans S).weaken.trans (z.2.1.weaken' fun a ha => ⟨j, ha⟩)).trans (z'.2.1.weaken' fun a ha => ⟨i, ha⟩), List.set_comm _ _ hij ▸ z'.2.2, rfl⟩
end swapped

section simple
variable {value target o i e : Expr} {pos p q : Pos} {t : Tgt} {d x kd : D}

theorem setI_go (hc : notComp value = true) (V : SInv C γ loc ρ s) (h₁ : Gives C A γ s (eval value env) d m₁) (h₂ : Later C γ s m₁ fun γ₁ s₁ => Gives C A γ₁ s₁ (eval o env) x m₂) (h₃ : Later C γ s m₂ fun γ₁ s₁ => Gives C A γ₁ s₁ (eval i env) kd m₃)
    (es : setD m₃ x kd d = some m') : GivesX C A loc γ s (exec (.Assign [.Subscript o i p] value pos) env) .next ρ m' :=
  wpAny_Assign_Subscript (h₁.thenW fun v γ₁ s₁ I₁ S₁ R₁ => (h₂ _ _ I₁ S₁).thenW fun ov γ₂ s₂ I₂ S₂ R₂ => (h₃ _ _ I₂ (S₁.trans S₂)).thenW fun iv γ₃ s₃ I₃ S₃ R₃ => by
    refine wpAny_mono (setItem_ok I₃ (R₂.mono S₃.le) R₃ (R₁.mono (S₂.le.trans S₃.le)) es) (fun _ s₄ z => ?_) fun _ _ e => e
    obtain ⟨γ₄, I₄, S₄⟩ := z
    have S := ((S₁.trans S₂).trans S₃).trans S₄
    exact ⟨γ₄, I₄, S.weaken, V.step S, rfl⟩) (swapsWith_of hc _ _)

theorem expr_go (X : EnvOk cx loc env) (hc : notComp e = true) (V : SInv C γ loc ρ s) (h : Gives C A γ s (eval e env) .none m₁) : GivesX C A loc γ s (exec (.Expr e pos) env) .next ρ m₁ :=
  wpAny_Expr (h.thenW fun v γ₁ s₁ I₁ S₁ R₁ => by
    obtain rfl : v = .none := R₁
    exact ⟨γ₁, I₁, S₁.weaken, V.step S₁, rfl⟩) (by unfold interactive; rw [X.fn]; rfl) (swapsWith_of hc _ _)

theorem ret_go (V : SInv C γ loc ρ s) (h : Gives C A γ s (eval e env) d m₁) : GivesX C A loc γ s (exec (.Return (some e) pos) env) (.ret d) ρ m₁ :=
  wpAny_Return_some (h.thenW fun v γ₁ s₁ I₁ S₁ R₁ => ⟨γ₁, I₁, S₁.weaken, V.step S₁, v, rfl, R₁⟩)

theorem if_go {test : Expr} {body orelse : List Stmt} {b : Bool} {fl : Fl} (h : GivesB C A γ s (isTrue test env (eval test env)) b m₁) (V : SInv C γ loc ρ s)
    (h₂ : LaterX C loc γ s ρ m₁ fun γ₁ s₁ => GivesX C A loc γ₁ s₁ (execs (if b then body else orelse) env) fl ρ' m₂) : GivesX C A loc γ s (exec (.If test body orelse pos) env) fl ρ' m₂ :=
  wpAny_If (h.thenW fun γ₁ s₁ I₁ S₁ => by
    have := (h₂ γ₁ s₁ I₁ S₁.weaken (V.step S₁)).from S₁.weaken
    cases b
    · simpa using this
    · simpa using this)

theorem nil_go (I : MInv C γ m s) (V : SInv C γ loc ρ s) : GivesX C A loc γ s (execs [] env) .next ρ m := wpAny_execs_nil ⟨γ, I, .refl .., V, rfl⟩
theorem cons_go {st : Stmt} {rest : List Stmt} {fl : Fl} (h : GivesX C A loc γ s (exec st env) .next ρ₁ m₁) (h₂ : LaterX C loc γ s ρ₁ m₁ fun γ₁ s₁ => GivesX C A loc γ₁ s₁ (execs rest env) fl ρ' m₂) : GivesX C A loc γ s (execs (st :: rest) env) fl ρ' m₂ :=
  wpAny_execs_cons (wpAny_mono h (fun f s₁ z => by
    obtain ⟨γ₁, I₁, S₁, V₁, F⟩ := z
    obtain rfl : f = .next := F
    exact (h₂ γ₁ s₁ I₁ S₁ V₁).from S₁) fun _ _ e => e)
theorem cons_ret {st : Stmt} {rest : List Stmt} (h : GivesX C A loc γ s (exec st env) (.ret d) ρ₁ m₁) : GivesX C A loc γ s (execs (st :: rest) env) (.ret d) ρ₁ m₁ :=
  wpAny_execs_cons (wpAny_mono h (fun f s₁ z => by
    obtain ⟨γ₁, I₁, S₁, V₁, v, rfl, r⟩ := z
    exact ⟨γ₁, I₁, S₁, V₁, v, rfl, r⟩) fun _ _ e => e)
end simple

section whl
variable {test : Expr} {body : List Stmt} {pos : Pos} {fl : Fl} {tF : List D → Mem → Option (Bool × Mem)} {bF : List D → Mem → Option (Fl × List D × Mem)} {n : Nat} {ρend : List D} {mend : Mem}

/-- between the turns of a while -/
structure WhlI (C : Ctx) (loc : Nat → Loc) (e : List D → Mem → Prop) (γ : Gh) (s : Shared) (γ' : Gh) (ρ' : List D) (m' : Mem) (s' : Shared) : Prop where
  I : MInv C γ' m' s'
  S : Step (Wl loc) γ s γ' s'
  V : SInv C γ' loc ρ' s'
  e : e ρ' m'
noncomputable def WhlJ (C : Ctx) (loc : Nat → Loc) (e : Nat → List D → Mem → Prop) (γ : Gh) (s : Shared) (n : Nat) (s' : Shared) : Prop := ∃ γ' ρ' m', WhlI C loc (e n) γ s γ' ρ' m' s'
/-- after a loop -/
noncomputable def LoopR (C : Ctx) (loc : Nat → Loc) (W : Addr → Prop) (fl : Fl) (ρend : List D) (mend : Mem) (γ : Gh) (s : Shared) (r : Result) (s' : Shared) : Prop := ∃ f, r = .ok f ∧ ∃ γ', MInv C γ' mend s' ∧ Step W γ s γ' s' ∧ SInv C γ' loc ρend s' ∧ FlOk C γ' fl f
theorem while_go (ht : ∀ γ s ρ m b m₁, MInv C γ m s → SInv C γ loc ρ s → tF ρ m = some (b, m₁) → GivesB C A γ s (isTrue test env (eval test env)) b m₁)
    (hb : ∀ γ s ρ m fl ρ' m₁, MInv C γ m s → SInv C γ loc ρ s → bF ρ m = some (fl, ρ', m₁) → GivesX C A loc γ s (execs body env) fl ρ' m₁)
    (I : MInv C γ m s) (V : SInv C γ loc ρ s) (e : whileN tF bF n ρ m = some (fl, ρend, mend)) : GivesX C A loc γ s (exec (.While test body [] pos) env) fl ρend mend := by
  refine wpAny_While (codeAny_mono (R := LoopR C loc (Wl loc) fl ρend mend γ s) ?_ fun r s' z => by obtain ⟨f, rfl, z⟩ := z; exact z)
  refine codeAny_whileLoop (WhlJ C loc (fun n ρ' m' => whileN tF bF n ρ' m' = some (fl, ρend, mend)) γ s) ?_ n ⟨γ, ρ, m, I, .refl .., V, e⟩
  clear I V e
  rintro n s' ⟨γ', ρ', m', z⟩
  cases n with
  | zero => exact no_some z.e
  | succ n =>
    refine while_k (P := fun fl' ρ'' m'' => fl' = fl → ρ'' = ρend → m'' = mend → _) z.e (fun m₁ ρ₂ m₂ et eb e _ _ _ => wpAny_mono (ht γ' s' ρ' m' true m₁ z.I z.V et) (fun b s₁ y => ?_) fun _ _ e => e.elim)
      (fun m₁ r ρ₂ m₂ et eb h1 h2 h3 => wpAny_mono (ht γ' s' ρ' m' true m₁ z.I z.V et) (fun b s₁ y => ?_) fun _ _ e => e.elim)
      (fun m₁ et h1 h2 h3 => wpAny_mono (ht γ' s' ρ' m' false m₁ z.I z.V et) (fun b s₁ y => ?_) fun _ _ e => e.elim) rfl rfl rfl
    · obtain ⟨rfl, γ₁, I₁, S₁⟩ := y
      refine (if_pos rfl).mpr (wpAny_mono (hb γ₁ s₁ ρ' m₁ .next ρ₂ m₂ I₁ (z.V.step S₁) eb) (fun f s₂ y => ?_) fun _ _ e => e.elim)
      obtain ⟨γ₂, I₂, S₂, V₂, F⟩ := y
      cases (show f = .next from F)
      exact ⟨n, Nat.lt_succ_self n, γ₂, ρ₂, m₂, I₂, (z.S.trans S₁.weaken).trans S₂, V₂, e⟩
    · obtain ⟨rfl, γ₁, I₁, S₁⟩ := y
      refine (if_pos rfl).mpr (wpAny_mono (hb γ₁ s₁ ρ' m₁ (.ret r) ρ₂ m₂ I₁ (z.V.step S₁) eb) (fun f s₂ y => ?_) fun _ _ e => e.elim)
      obtain ⟨γ₂, I₂, S₂, V₂, v, hf, rv⟩ := y
      cases hf
      exact ⟨_, rfl, γ₂, h3 ▸ I₂, (z.S.trans S₁.weaken).trans S₂, h2 ▸ V₂, h1 ▸ ⟨v, rfl, rv⟩⟩
    · obtain ⟨rfl, γ₁, I₁, S₁⟩ := y
      exact (if_neg Bool.false_ne_true).mpr (wpAny_execs_nil ⟨_, rfl, γ₁, h3 ▸ I₁, z.S.trans S₁.weaken, h2 ▸ z.V.step S₁, h1 ▸ rfl⟩)
end whl

section for_
variable {target iter : Expr} {body : List Stmt} {pos : Pos} {fl : Fl} {t : Tgt} {bF : List D → Mem → Option (Fl × List D × Mem)} {ρend : List D} {mend : Mem} {ds : List D} {d : D} {tup : Bool}

/-- between the turns of a for -/
structure ForI (C : Ctx) (loc : Nat → Loc) (e : List D → List D → Mem → Prop) (ds : List D) (W : Addr → Prop) (St : Nat → Gh → Shared → Prop) (γ₁ : Gh) (s₁ : Shared) (i : Nat) (γ' : Gh) (ρ' : List D) (m' : Mem) (s' : Shared) : Prop where
  st : St i γ' s'
  I : MInv C γ' m' s'
  V : SInv C γ' loc ρ' s'
  e : e (ds.drop i) ρ' m'
  S : Step (fun b => W b ∨ Wl loc b) γ₁ s₁ γ' s'
noncomputable def ForJ (C : Ctx) (loc : Nat → Loc) (e : List D → List D → Mem → Prop) (ds : List D) (W : Addr → Prop) (St : Nat → Gh → Shared → Prop) (γ₁ : Gh) (s₁ : Shared) (n : Nat) (s' : Shared) : Prop := ∃ i γ' ρ' m', i ≤ ds.length ∧ n = ds.length + 1 - i ∧ ForI C loc e ds W St γ₁ s₁ i γ' ρ' m' s'
theorem forL_go {It : Addr} {W : Addr → Prop} {St : Nat → Gh → Shared → Prop} {γ₁ : Gh} {s₁ : Shared} (hh : A.handled = none) (X : EnvOk cx loc env) (ht : tgtIs cx t target = true) (htup : tup = true → ∃ es n p, target = .Tuple es n p) (Itok : IterOk C A tup It ds W St) (hWl : ∀ b, Wl loc b → ¬ W b)
    (hb : ∀ γ s ρ m fl ρ' m₁, MInv C γ m s → SInv C γ loc ρ s → bF ρ m = some (fl, ρ', m₁) → GivesX C A loc γ s (execs body env) fl ρ' m₁)
    (st : St 0 γ₁ s₁) (I : MInv C γ₁ m s₁) (V : SInv C γ₁ loc ρ s₁) (e : forL (fun env d => assignT env t d) bF ds ρ m = some (fl, ρend, mend)) :
    codeAny (model C.prog C.w) A (.forLoop target (.ref It) body [] env) (LoopR C loc (fun b => W b ∨ Wl loc b) fl ρend mend γ₁ s₁) s₁ := by
  refine codeAny_forLoop_any (ForJ C loc (fun ds ρ' m' => forL (fun env d => assignT env t d) bF ds ρ' m' = some (fl, ρend, mend)) ds W St γ₁ s₁) ?_ (ds.length + 1) ⟨0, γ₁, ρ, m, Nat.zero_le _, rfl, st, I, V, e, .refl ..⟩
  clear st I V e
  rintro n s' ⟨i, γ', ρ', m', hi, rfl, z⟩
  have hWt : ∀ a, W a → ¬ Wl loc a := fun a hw hl => hWl a hl hw
  by_cases hlt : i < ds.length
  · have e := z.e
    rw [List.drop_eq_getElem_cons hlt] at e
    refine forL_k (P := fun fl' ρ'' m'' => fl' = fl → ρ'' = ρend → m'' = mend → _) e (fun ρ'' ρ₅ m₅ ea eb e _ _ _ => Itok.turn hh X.fn X.var ht htup hWl z.st z.I z.V (List.getElem?_eq_getElem hlt) ea fun γ₄ s₄ st₄ I₄ V₄ S₄ => ?_)
      (fun ρ'' r ρ₅ m₅ ea eb h1 h2 h3 => Itok.turn hh X.fn X.var ht htup hWl z.st z.I z.V (List.getElem?_eq_getElem hlt) ea fun γ₄ s₄ st₄ I₄ V₄ S₄ => ?_) rfl rfl rfl
    · refine wpAny_mono (hb γ₄ s₄ ρ'' m' .next ρ₅ m₅ I₄ V₄ eb) (fun f s₅ y => ?_) fun _ _ e => e.elim
      obtain ⟨γ₅, I₅, S₅, V₅, F⟩ := y
      cases (show f = .next from F)
      exact ⟨ds.length + 1 - (i + 1), by lia, i + 1, γ₅, ρ₅, m₅, hlt, rfl, Itok.frame _ _ _ _ _ _ _ _ st₄ I₄ S₅ I₅ hWt, I₅, V₅, e, (z.S.trans (S₄.weaken' fun b h => h.imp_right (Wt_le t b))).trans (S₅.weaken' fun _ h => .inr h)⟩
    · refine wpAny_mono (hb γ₄ s₄ ρ'' m' (.ret r) ρ₅ m₅ I₄ V₄ eb) (fun f s₅ y => ?_) fun _ _ e => e.elim
      obtain ⟨γ₅, I₅, S₅, V₅, v, hf, rv⟩ := y
      cases hf
      exact ⟨_, rfl, γ₅, h3 ▸ I₅, (z.S.trans (S₄.weaken' fun b h => h.imp_right (Wt_le t b))).trans (S₅.weaken' fun _ h => .inr h), h2 ▸ V₅, h1 ▸ ⟨v, rfl, rv⟩⟩
  · cases (Nat.le_antisymm hi (Nat.le_of_not_lt hlt))
    have e := z.e
    rw [List.drop_eq_nil_of_le (Nat.le_refl _)] at e
    refine kp3 (P := fun fl' ρ'' m'' => fl' = fl → ρ'' = ρend → m'' = mend → _) (show some (.next, ρ', m') = some (fl, ρend, mend) from e) (fun h1 h2 h3 => Itok.stop z.st z.I fun s₂ I₂ S₂ => ?_) rfl rfl rfl
    exact wpAny_execs_nil ⟨_, rfl, γ', h3 ▸ I₂, z.S.trans (S₂.weaken' fun _ h => .inl h), h2 ▸ z.V.stepW S₂ hWl, h1 ▸ rfl⟩

theorem for_end {W : Addr → Prop} {γ₁ : Gh} {s₁ : Shared} (S₁ : Step NoW γ s γ₁ s₁) (hW : ∀ b, W b → s.heap.get? b = none)
    (h : codeAny (model C.prog C.w) A (.forLoop target v body [] env) (LoopR C loc (fun b => W b ∨ Wl loc b) fl ρend mend γ₁ s₁) s₁) :
    codeAny (model C.prog C.w) A (.forLoop target v body [] env) (fun r s' => match r with
      | .ok f => ∃ γ', MInv C γ' mend s' ∧ Step (Wl loc) γ s γ' s' ∧ SInv C γ' loc ρend s' ∧ FlOk C γ' fl f
      | .error e => cameBackBy (model C.prog C.w) A env noE e s') s₁ :=
  codeAny_mono h fun r s' z => by
    obtain ⟨f, rfl, γ', I, S, V, F⟩ := z
    refine ⟨γ', I, (S₁.weaken.trans S).drop fun b hb => ?_, V, F⟩
    rcases hb with hb | hb
    · exact .inr (hW b hb)
    · exact .inl hb

theorem for_go (hh : A.handled = none) (X : EnvOk cx loc env) (V : SInv C γ loc ρ s) (ht : tgtIs cx t target = true) (hfold : ∀ x, foldedSetIterable iter env x = pure x)
    (h : Gives C A γ s (eval iter env) d m₁) (ed : items d = some ds)
    (hb : ∀ γ s ρ m fl ρ' m₁, MInv C γ m s → SInv C γ loc ρ s → bF ρ m = some (fl, ρ', m₁) → GivesX C A loc γ s (execs body env) fl ρ' m₁)
    (e : forL (fun env d => assignT env t d) bF ds ρ m₁ = some (fl, ρend, mend)) : GivesX C A loc γ s (exec (.For target iter body [] pos) env) fl ρend mend := by
  refine wpAny_For (h.thenW fun v γ₁ s₁ I₁ S₁ R₁ => wpAny_mono (iter_ok hh I₁ R₁ ed) (fun it s₂ z => ?_) fun _ _ e => e.elim) hfold
  obtain ⟨It, W, St, rfl, Itok, hWf, I₂, S₂, st₂⟩ := z
  have V₁ := V.step S₁
  refine for_end (S₁.trans S₂) (fun b hb => (S₁.none_of (hWf b hb)).resolve_right fun f => f) (forL_go hh X ht (fun h => by cases h) Itok (fun b ⟨i, hi⟩ hw => ?_) hb st₂ I₂ (V₁.step S₂) e)
  obtain ⟨o, ho⟩ := (V₁.slot i).live hi
  rw [hWf b hw] at ho; cases ho

theorem fore_go {x : Expr} {p q : Pos} (hh : A.handled = none) (O : CtxOk C) (X : EnvOk cx loc env) (I : MInv C γ m s) (V : SInv C γ loc ρ s) (ht : tgtIs cx t target = true) (htup : ∃ es n p, target = .Tuple es n p) (hk : cx.names.lookup ("enumerate" : Str) = some .globalImplicit) (hx : plainArg x = true)
    (h : Gives C A γ s (eval x env) (.lst ds) m₁)
    (hb : ∀ γ s ρ m fl ρ' m₁, MInv C γ m s → SInv C γ loc ρ s → bF ρ m = some (fl, ρ', m₁) → GivesX C A loc γ s (execs body env) fl ρ' m₁)
    (e : forL (fun env d => assignT env t d) bF (enumD ds 0) ρ m₁ = some (fl, ρend, mend)) : GivesX C A loc γ s (exec (.For target (.Call (.Name "enumerate" p) [x] [] q) body [] pos) env) fl ρend mend := by
  refine wpAny_For (enum_go hh O X I hk hx h fun v γ₁ s₁ I₁ S₁ z => wpAny_mono z (fun it s₂ z => ?_) fun _ _ e => e.elim) (fun _ => rfl)
  obtain ⟨It, W, St, rfl, Itok, hWf, I₂, S₂, st₂⟩ := z
  refine for_end S₂ hWf (forL_go hh X ht (fun _ => htup) Itok (fun b ⟨i, hi⟩ hw => ?_) hb st₂ I₂ (V.step S₂) e)
  obtain ⟨o, ho⟩ := (V.slot i).live hi
  rw [hWf b hw] at ho; cases ho
end for_
end Mine

set_option maxRecDepth 10000
namespace Mine
open PySem PySem.W PySem.SeqAt PyProof.Rows PySem.Calls

variable {C : Ctx} {γ γ' γ₀ : Gh} {s s' : Shared} {m m' m₁ m₂ m₃ : Mem} {A : Around} {k : Nat} {env : Env} {cx : Cx} {loc : Nat → Loc} {ρ ρ' ρ₁ : List D}

noncomputable def Gh.cut (γ : Gh) (n : Nat) : Gh := ⟨γ.G, γ.κ.take n⟩

theorem CellIs.cut {h : Heap} {a : Addr} {c : Cell} {n : Nat} (hp : c.pure = true) (x : CellIs C γ h a c) : CellIs C (γ.cut n) h a c := by
  cases c with
  | lst ds =>
    obtain ⟨vs, k, g, l, r⟩ := x
    exact ⟨vs, k, g, l, Rels.ofPure (γ := γ) (γ' := γ.cut n) (fun _ _ e => e) hp r⟩
  | dic ks vs =>
    obtain ⟨o, g, ne, l, r⟩ := x
    simp only [Cell.pure, Bool.and_eq_true] at hp
    refine ⟨o, g, ne, l, ?_⟩
    rcases r with ⟨kvs, r1, r2, r3⟩ | ⟨kvs, r1, r2, r3, r4⟩
    · exact .inl ⟨kvs, r1, r2, Rels.ofPure (γ := γ) (γ' := γ.cut n) (fun _ _ e => e) hp.2 r3⟩
    · exact .inr ⟨kvs, r1, r2, Rels.ofPure (γ := γ) (γ' := γ.cut n) (fun _ _ e => e) hp.2 r3, r4⟩

theorem MInv.cut (I : MInv C γ m s) (n : Nat) : MInv C (γ.cut n) (m.take n) s := by
  have at_ : ∀ (k : Nat) (c : Option Cell), (m.take n)[k]? = some c → k < n ∧ m[k]? = some c := fun k c e => by
    rw [List.getElem?_take] at e
    split at e
    · rename_i h; exact ⟨h, e⟩
    · cases e
  refine ⟨I.frozen, I.base, by simp [Gh.cut, I.len], I.nodup.sublist (List.take_sublist _ _), fun a ha => I.lt a (List.take_subset _ _ ha), fun k c e => ?_, fun k c e => I.pure k c (at_ k _ e).2⟩
  obtain ⟨h1, h2⟩ := at_ k _ e
  obtain ⟨a, ha, hG, hc⟩ := I.mem k c h2
  refine ⟨a, ?_, hG, hc.cut (I.pure k c h2)⟩
  show (γ.κ.take n)[k]? = some a
  rw [List.getElem?_take, if_pos h1]; exact ha

/-- the table of a def's block -/
noncomputable def fnCx (scope : Scope) (vars : List Str) : Cx := { names := scope.names, vars := vars.zipIdx, base := vars.length }

noncomputable def scopeOk (scope : Scope) (vars : List Str) : Bool :=
  scope.kind == .function && !scope.isCoroutine && !scope.isGenerator && decide vars.Nodup && vars.all (fun x => scope.names.lookup x == some .local || (scope.names.lookup x == some .cell)) && namesNodup scope.names

/-- the module's def of that name -/
structure FnAt (C : Ctx) (name : Str) (np : Nat) (vars : List Str) (scope : Scope) (body : List Stmt) : Prop where
  fn : ∃ a o fd, C.mg name = some (.ref a) ∧ C.h₀.get? a = some o ∧ o.data = .func fd ∧ C.h₀.CodeRec fd.code fd.qualname ∧ fd.body = .stmts body ∧ fd.closure = [] ∧ fd.scope = scope ∧ fd.globals = mainGlobals ∧ fd.builtins = builtinsNs ∧
    (∀ vs : List Value, vs.length = np → bindArgs fd ⟨vs, []⟩ = pure ((vars.take np).zip vs))
  scope : scopeOk scope vars = true
  np : np ≤ vars.length

noncomputable def fnLoc (scope : Scope) (vars : List Str) (L : Addr) : Nat → Loc := fun i => match vars[i]? with
  | some x => match scope.names.lookup x with
    | some .local => .ns L x
    | some .cell => match (cellsFrom (L + 1) scope.names []).lookup x with
      | some c => .cell c
      | none => .no
    | _ => .no
  | none => .no

theorem cellsFrom_some : ∀ {names : List (Str × NameKind)} {x : Str} (n : Nat) (acc : List (Str × Addr)), ((x, NameKind.cell) ∈ names ∨ (acc.lookup x).isSome = true) → ((cellsFrom n names acc).lookup x).isSome = true
  | [], x, n, acc, h => by
    rcases h with h | h
    · cases h
    · exact h
  | (y, kd) :: r, x, n, acc, h => by
    unfold cellsFrom
    by_cases hk : (kd == NameKind.cell) = true
    · rw [if_pos hk]
      refine cellsFrom_some _ _ ?_
      by_cases hy : x = y
      · subst hy; right; simp [List.lookup_cons]
      · rcases h with h | h
        · rcases List.mem_cons.mp h with e | h
          · cases e; exact absurd rfl hy
          · exact .inl h
        · right
          have : (x == y) = false := by simpa using hy
          rw [List.lookup_cons, this]; exact h
    · rw [if_neg hk]
      refine cellsFrom_some _ _ ?_
      rcases h with h | h
      · rcases List.mem_cons.mp h with e | h
        · cases e; simp at hk
        · exact .inl h
      · exact .inr h

theorem lookup_mem {α : Type} : ∀ {l : List (Str × α)} {x : Str} {v : α}, l.lookup x = some v → (x, v) ∈ l := fun h => mem_of_lookup h

theorem bindL_other {kindOf : Str → Option NameKind} : ∀ (binds : List (Str × Value)) (mm : Str → Option Value) (x : Str), x ∉ binds.map (·.1) → bindL kindOf binds mm x = mm x
  | [], _, _, _ => rfl
  | (n, v) :: r, mm, x, h => by
    rw [List.map_cons, List.mem_cons, not_or] at h
    rw [bindL, bindL_other r _ x h.2]
    split
    · show (if x = n then some v else mm x) = mm x
      rw [if_neg h.1]
    · rfl
theorem bindL_get {kindOf : Str → Option NameKind} : ∀ (binds : List (Str × Value)) (mm : Str → Option Value) (i : Nat) (x : Str) (v : Value), (binds.map (·.1)).Nodup → binds[i]? = some (x, v) → kindOf x = some .local → bindL kindOf binds mm x = some v
  | [], _, i, x, v, _, h, _ => by simp at h
  | (n, u) :: r, mm, i, x, v, hn, h, hk => by
    rw [List.map_cons, List.nodup_cons] at hn
    cases i with
    | zero =>
      simp at h
      obtain ⟨rfl, rfl⟩ := h
      rw [bindL, bindL_other r _ _ hn.1, if_pos hk, if_pos rfl]
    | succ i =>
      rw [bindL]
      exact bindL_get r _ i x v hn.2 (by simpa using h) hk
theorem bindC_other {kindOf : Str → Option NameKind} : ∀ (binds : List (Str × Value)) (mm : Str → Option Value) (x : Str), x ∉ binds.map (·.1) → bindC kindOf binds mm x = mm x
  | [], _, _, _ => rfl
  | (n, v) :: r, mm, x, h => by
    rw [List.map_cons, List.mem_cons, not_or] at h
    rw [bindC, bindC_other r _ x h.2]
    split
    · rfl
    · show (if x = n then some v else mm x) = mm x
      rw [if_neg h.1]
theorem bindC_get {kindOf : Str → Option NameKind} : ∀ (binds : List (Str × Value)) (mm : Str → Option Value) (i : Nat) (x : Str) (v : Value), (binds.map (·.1)).Nodup → binds[i]? = some (x, v) → kindOf x ≠ some .local → bindC kindOf binds mm x = some v
  | [], _, i, x, v, _, h, _ => by simp at h
  | (n, u) :: r, mm, i, x, v, hn, h, hk => by
    rw [List.map_cons, List.nodup_cons] at hn
    cases i with
    | zero =>
      simp at h
      obtain ⟨rfl, rfl⟩ := h
      rw [bindC, bindC_other r _ _ hn.1, if_neg hk, if_pos rfl]
    | succ i =>
      rw [bindC]
      exact bindC_get r _ i x v hn.2 (by simpa using h) hk

theorem zip_keys_nodup {vars : List Str} (h : vars.Nodup) (n : Nat) (vs : List Value) : (((vars.take n).zip vs).map (·.1)).Nodup := by
  have : (((vars.take n).zip vs).map (·.1)).Sublist vars := by
    refine List.Sublist.trans ?_ (List.take_sublist n vars)
    generalize vars.take n = l
    induction l generalizing vs with
    | nil => simp
    | cons a l ih =>
      cases vs with
      | nil => simp
      | cons b vs => simp [ih vs]
  exact h.sublist this

set_option tactic.hygienic true in
theorem fn_sound {name : Str} {np : Nat} {vars : List Str} {scope : Scope} {body : List Stmt} {bodyS : Ss} {n : Nat} (O : CtxOk C) (F : FnAt C name np vars scope body)
    (hb : ∀ A γ s m loc env ρ fl ρ' m', Room A k → EnvOk (fnCx scope vars) loc env → MInv C γ m s → SInv C γ loc ρ s → exs bodyS ρ m = some (fl, ρ', m') → GivesX C A loc γ s (execs body env) fl ρ' m') :
    Sound C (k + 1) name (runF np n bodyS) := by
  obtain ⟨⟨a, o, fd, h1, h2, h3, hcd, hbody, hclo, hscope, hglob, hbui, hbind⟩, hok, hnp⟩ := F
  refine ⟨a, o, fd, h1, h2, h3, fun A γ s m ds vs d m' R I rs e => ?_⟩
  unfold scopeOk at hok
  simp only [Bool.and_eq_true, Bool.not_eq_true', List.all_eq_true, Bool.or_eq_true, beq_iff_eq, decide_eq_true_eq] at hok
  obtain ⟨⟨⟨⟨⟨hk, hco⟩, hgen⟩, hnd⟩, hkinds⟩, hnames⟩ := hok
  unfold runF at e
  split at e
  · rename_i harity
    have hvl : vs.length = np := by rw [← rs.length, harity]
    have base : ∀ b o, C.h₀.get? b = some o → s.heap.get? b = some o := fun b o x => I.frozen _ _ (I.base _ _ x)
    have hcellsome : ∀ x, scope.names.lookup x = some .cell → ((cellsFrom (s.heap.objs.size + 1) scope.names []).lookup x).isSome = true := fun x hx => cellsFrom_some _ _ (.inl (lookup_mem hx))
    refine codeAny_call_cells (by have := R.2.1; show _ < 1000; lia) (base _ _ h2) h3 (O.lim.keeps base) (hcd.keeps base) hbody (hbind vs hvl) hclo (fun p hp => ?_) (fun s₁ x => ?_) (by rw [hscope]; exact hco) (by rw [hscope]; exact hgen) (by rw [hscope]; exact hk)
    · have : p.1 ∈ vars := List.take_subset _ _ (List.of_mem_zip hp).1
      rw [hscope]
      rcases hkinds _ this with q | q
      · exact .inl q
      · exact .inr ⟨q, hcellsome _ q⟩
    · have hkf : ∀ y, (callEnvC fd s.heap.objs.size a).kindOf y = scope.names.lookup y := fun y => by rw [← hscope]; rfl
      have hloc : (callEnvC fd s.heap.objs.size a).locals = s.heap.objs.size := rfl
      have hcells : (callEnvC fd s.heap.objs.size a).cells = cellsFrom (s.heap.objs.size + 1) scope.names [] := by rw [← hscope]; rfl
      generalize henv : callEnvC fd s.heap.objs.size a = env at x hkf hloc hcells ⊢
      have hefn : env.scope.kind = .function := by rw [← henv]; show fd.scope.kind = _; rw [hscope]; exact hk
      obtain ⟨h₁, tk, rfl⟩ := x.toInCall.same
      obtain ⟨J, S⟩ := I.grow (t := tk) x.toInCall.keep
      have hL : s.heap.get? s.heap.objs.size = none := get?_size _
      have fresh : ∀ i b, (fnLoc scope vars s.heap.objs.size i).addr = some b → s.heap.objs.size ≤ b := fun i b hb => by
        unfold fnLoc at hb
        split at hb
        · split at hb
          · cases hb; exact Nat.le_refl _
          · split at hb
            · rename_i c hc
              cases hb
              have := x.above _ _ (by rw [hcells]; exact lookup_mem hc)
              rw [hloc] at this
              exact Nat.le_of_lt this
            · cases hb
          · cases hb
        · cases hb
      have X : EnvOk (fnCx scope vars) (fnLoc scope vars s.heap.objs.size) env := by
        refine ⟨hefn, fun y kd h _ => (hkf y).trans h, by rw [← henv]; exact hglob, by rw [← henv]; exact hbui, fun y i h => ?_, fun i hi => ?_⟩
        · have hm := lookup_mem h
          have hi : vars[i]? = some y := by
            have := List.mem_zipIdx_iff_getElem?.mp hm
            exact this
          rcases hkinds _ (List.mem_of_getElem? hi) with q | q
          · left
            refine ⟨?_, by rw [hkf, q]⟩
            unfold fnLoc; rw [hi]; simp only [q, hloc]
          · right
            obtain ⟨c, hc⟩ := Option.isSome_iff_exists.mp (hcellsome _ q)
            refine ⟨c, ?_, .inl (by rw [hkf, q]), by rw [hcells]; exact hc⟩
            unfold fnLoc; rw [hi]; simp only [q, hc]
        · unfold fnLoc
          have : vars[i]? = none := List.getElem?_eq_none hi
          rw [this]
      have hρ : ∀ i, (ds ++ List.replicate (n - np) D.undef)[i]?.getD .undef = if i < np then ds[i]?.getD .undef else .undef := fun i => by
        by_cases hi : i < np
        · rw [if_pos hi, List.getElem?_append_left (by lia)]
        · rw [if_neg hi, List.getElem?_append_right (by lia), List.getElem?_replicate]
          split <;> rfl
      have hbi : ∀ i y, i < np → vars[i]? = some y → ∃ u, ((vars.take np).zip vs)[i]? = some (y, u) ∧ Rel C γ (ds[i]?.getD .undef) u := fun i y hi hy => by
        have hil : i < ds.length := by lia
        obtain ⟨u, hu, ru⟩ := rs.get (List.getElem?_eq_getElem hil)
        refine ⟨u, ?_, ?_⟩
        · rw [List.getElem?_zip_eq_some]
          exact ⟨by rw [List.getElem?_take, if_pos hi]; exact hy, hu⟩
        · rw [List.getElem?_eq_getElem hil]; exact ru
      have V : SInv C γ (fnLoc scope vars s.heap.objs.size) (ds ++ List.replicate (n - np) .undef) { s with heap := h₁, toks := tk } := by
        refine ⟨fun i => ?_, fun i j e hne => ?_, fun i b hb => ?_⟩
        · rw [hρ]
          unfold fnLoc
          cases hy : vars[i]? with
          | none =>
            have : ¬ i < np := fun h => by
              have := List.getElem?_eq_none_iff.mp hy
              lia
            rw [if_neg this]; rfl
          | some y =>
            simp only
            have nsL : h₁.Ns s.heap.objs.size (bindL env.kindOf ((vars.take np).zip vs) fun _ => none) := by have := x.toInCall.ns; rw [hloc] at this; exact this
            rcases hkinds _ (List.mem_of_getElem? hy) with q | q
            · simp only [q]
              refine ⟨_, nsL, ?_⟩
              by_cases hi : i < np
              · rw [if_pos hi]
                obtain ⟨u, hu, ru⟩ := hbi i y hi hy
                exact .inr ⟨u, bindL_get _ _ i y u (zip_keys_nodup hnd np vs) hu (by rw [hkf, q]), ru⟩
              · rw [if_neg hi]; exact .inl rfl
            · obtain ⟨c, hc⟩ := Option.isSome_iff_exists.mp (hcellsome _ q)
              simp only [q, hc]
              refine ⟨_, x.cell y c (by rw [hcells]; exact hc), ?_⟩
              by_cases hi : i < np
              · rw [if_pos hi]
                obtain ⟨u, hu, ru⟩ := hbi i y hi hy
                exact .inr ⟨u, bindC_get _ _ i y u (zip_keys_nodup hnd np vs) hu (by rw [hkf, q]; exact fun h => by cases h), ru⟩
              · rw [if_neg hi]; exact .inl rfl
        · unfold fnLoc at e hne
          cases hi : vars[i]? with
          | none => rw [hi] at hne; exact absurd rfl hne
          | some y =>
            cases hj : vars[j]? with
            | none =>
              rw [hi] at e hne
              rw [hj] at e
              exact absurd e hne
            | some z =>
              rw [hi] at e hne
              rw [hj] at e
              simp only at e hne
              rcases hkinds _ (List.mem_of_getElem? hi) with q | q <;> rcases hkinds _ (List.mem_of_getElem? hj) with q' | q'
              · simp only [q, q'] at e
                cases e
                exact nodup_at hnd hi hj
              · obtain ⟨c', hc'⟩ := Option.isSome_iff_exists.mp (hcellsome _ q')
                simp only [q, q', hc'] at e
                cases e
              · obtain ⟨c, hc⟩ := Option.isSome_iff_exists.mp (hcellsome _ q)
                simp only [q, q', hc] at e
                cases e
              · obtain ⟨c, hc⟩ := Option.isSome_iff_exists.mp (hcellsome _ q)
                obtain ⟨c', hc'⟩ := Option.isSome_iff_exists.mp (hcellsome _ q')
                simp only [q, q', hc, hc'] at e
                cases e
                have := name_of_addr x.apart (by rw [hcells]; exact lookup_mem hc) (by rw [hcells]; exact lookup_mem hc')
                subst this
                exact nodup_at hnd hi hj
        · obtain ⟨n1, n2⟩ := I.newAddr (get?_ge (fresh i b hb))
          exact ⟨n2, n1⟩
      have wrap : ∀ fl ρ' mm, exs bodyS (ds ++ List.replicate (n - np) .undef) m = some (fl, ρ', mm) → (match fl with | .ret d' => d' = d ∧ d.pure = true | .next => d = .none) → m' = mm.take m.length →
          wpAny (model C.prog C.w) (A.deeper env) (execs body env) (fun f s' => RetOk C γ s d m' (.ok (.ret (match f with | .ret v => v | _ => .none))) s')
            (fun e s' => wpAny (model C.prog C.w) (A.deeper env) (leaving env e) (fun _ s'' => RetOk C γ s d m' (.error e) s'') (fun e' s'' => RetOk C γ s d m' (.error e') s'') s') { s with heap := h₁, toks := tk } := fun fl ρ' mm ee hfl hm => by
        subst hm
        refine wpAny_mono (hb (A.deeper env) γ _ m _ env _ fl ρ' mm (R.deeper env) X J V ee) (fun f s' z => ?_) fun _ _ e => e.elim
        obtain ⟨γ₂, I₂, S₂, V₂, FF⟩ := z
        have S₃ : Step NoW γ s γ₂ s' := (S.weaken.trans S₂).drop fun b ⟨i, hi⟩ => .inr (get?_ge (fresh i b hi))
        have le : γ.Le (γ₂.cut m.length) := ⟨S₃.le.G, fun j b hj => by
          show (γ₂.κ.take m.length)[j]? = some b
          have : j < m.length := by rw [← I.len]; exact (List.getElem?_eq_some_iff.mp hj).1
          rw [List.getElem?_take, if_pos this]
          exact S₃.le.κ _ _ hj⟩
        have S₄ : Step NoW γ s (γ₂.cut m.length) s' := ⟨le, S₃.newG, fun b hb => S₃.newκ b (List.take_subset _ _ hb), S₃.keep, S₃.live, S₃.same⟩
        cases fl with
        | next =>
          simp only [FlOk] at FF
          subst FF
          simp only at hfl
          subst hfl
          exact ⟨_, I₂.cut _, S₄, rfl⟩
        | ret d' =>
          simp only [FlOk] at FF
          obtain ⟨v, rfl, rv⟩ := FF
          simp only at hfl
          obtain ⟨rfl, hp⟩ := hfl
          exact ⟨_, I₂.cut _, S₄, Rel.ofPure (γ := γ₂) (γ' := γ₂.cut m.length) (fun _ _ e => e) hp rv⟩
      split at e
      · rename_i d' ρ' mm ee
        split at e
        · rename_i hp
          cases e
          exact wrap _ _ _ ee ⟨rfl, hp⟩ rfl
        · cases e
      · rename_i ρ' mm ee
        cases e
        exact wrap _ _ _ ee rfl rfl
      · cases e
  · cases e
end Mine

set_option maxRecDepth 10000
namespace Mine
open PySem PySem.W PySem.SeqAt PyProof.Rows PySem.Calls

noncomputable def cCst : D → Expr → Bool
  | .none, x => onConstant x fun c _ _ => decide (c = .none)
  | .bool b, x => onConstant x fun c _ _ => decide (c = .bool b)
  | .int i, x => onInt x i || onNeg x (-i)
  | .str a, x => onConstant x fun c _ _ => decide (c = .str a) && PyData.strOk a
  | _, _ => false

noncomputable def isGlob (cx : Cx) (n : Str) : Bool := okName n && cx.names.lookup n == some .globalImplicit
noncomputable def notSet (x : Expr) : Bool := !(Nat.beq x.ctorIdx 7)

noncomputable def slotsG : Gens → List Nat
  | .done _ => []
  | .cons t _ _ g => t.slots ++ slotsG g

mutual
/-- the text is that tree, places aside -/
noncomputable def cE (cx : Cx) : E → Expr → Bool
  | .any, _ => true
  | .cst c, x => cCst c x
  | .var i, x => onName x fun n _ => okName n && cx.vars.lookup n == some i
  | .frz e, x => cE cx e x
  | .attr e k, x => onAttribute x fun o n _ => notCall o && fieldNames[k]? == some n && cE cx e o
  | .idx e i, x => onSubscript x fun o y _ => notSlice y && cE cx e o && cE cx i y
  | .sub e n, x => onSubscript x fun o y _ => cE cx e o && onSlice y fun a b c _ => a.isNone && c.isNone && som b fun m => onInt m (n : Int)
  | .rev e, x => onSubscript x fun o y _ => cE cx e o && onSlice y fun a b c _ => a.isNone && b.isNone && som c fun m => onNeg m 1
  | .lst es, x => onList x fun xs _ => decide (xs.length ≤ 1000) && cEs cx es xs
  | .lstc es, x => onList x fun xs _ => decide (xs.length ≤ 1000) && cEs cx es xs
  | .tup es, x => onTuple x fun xs _ _ => decide (xs.length ≤ 1000) && cEs cx es xs
  | .dicc, x => onDict x fun ks vs _ => ks.isEmpty && vs.isEmpty
  | .dic kvs, x => onDict x fun ks vs _ => ks.all (·.isSome) && ks.length == vs.length && !ks.isEmpty && decide (ks.length ≤ 16) && cKvs cx kvs ks vs
  | .bin o a b, x => onBinOp x fun l op r _ => decide (op = o.op) && cE cx a l && cE cx b r
  | .cmp o a b, x => onCompare x fun l ops rs _ => cE cx a l && one ops fun op => decide (op = o.op) && one rs fun r => !(behindInMarks o.op r) && cE cx b r
  | .cmp2 a o b o' c, x => onCompare x fun l ops rs _ => cE cx a l && decide (ops = [o.op, o'.op]) && conc rs fun r rs => one rs fun r' => !(lastMarks [o.op, o'.op] [r, r']) && cE cx b r && cE cx c r'
  | .and es, x => onBoolOp x fun o xs _ => decide (o = .And) && cEs cx es xs
  | .or es, x => onBoolOp x fun o xs _ => decide (o = .Or) && cEs cx es xs
  | .not e, x => onUnaryOp x fun o y _ => decide (o = .Not) && cE cx e y
  | .ife t a b, x => onIfExp x fun y l r _ => cE cx t y && cE cx a l && cE cx b r
  | .call name _ es, x => onCall x fun f xs ks _ => isGlob cx name && !xs.isEmpty && cEs cx es xs && ks.isEmpty && onName f fun n _ => n == name
  | .new es, x => onCall x fun f xs ks _ => isGlob cx ("Code" : Str) && !xs.isEmpty && cEs cx es xs && ks.isEmpty && onName f fun n _ => n == ("Code" : Str)
  | .bi b e, x => onCall x fun f xs ks _ => isGlob cx b.name && (one xs fun y => plainArg y && cE cx e y) && ks.isEmpty && onName f fun n _ => n == b.name
  | .range3 a b c, x => onCall x fun f xs ks _ => isGlob cx (Bi.name .range1) && ks.isEmpty && (onName f fun n _ => n == Bi.name .range1) && conc xs fun y xs => conc xs fun z xs => one xs fun w =>
      plainArg y && plainArg z && plainArg w && cE cx a y && cE cx b z && cE cx c w
  | .get e k d, x => onCall x fun f xs ks pos => ks.isEmpty && onAttribute f fun o n p => n == ("get" : Str) && notCall o && (p.endLine == pos.line) && cE cx e o && conc xs fun y xs => one xs fun z => plainArg y && plainArg z && cE cx k y && cE cx d z
  | .pop e, x => onCall x fun f xs ks pos => ks.isEmpty && xs.isEmpty && onAttribute f fun o n p => n == ("pop" : Str) && notCall o && (p.endLine == pos.line) && cE cx e o
  | .comp g, x => onListComp x fun elt gens scope _ => compOk cx scope && !gens.isEmpty && cG (cxComp cx scope) cx cx.base g gens elt
noncomputable def cEs (cx : Cx) : Es → List Expr → Bool
  | .nil, xs => xs.isEmpty
  | .cons e es, xs => conc xs fun x xs => plainArg x && cE cx e x && cEs cx es xs
noncomputable def cKvs (cx : Cx) : Kvs → List (Option Expr) → List Expr → Bool
  | .nil, ks, vs => ks.isEmpty && vs.isEmpty
  | .cons k v r, ks, vs => conc ks fun ox ks => conc vs fun y vs => cE cx v y && cKvs cx r ks vs && som ox fun x => cE cx k x
/-- cx: within; cxi: where the first of these clauses' iterable stands; b: from where on slots are the comprehension's own -/
noncomputable def cG (cx cxi : Cx) (b : Nat) : Gens → List Comprehension → Expr → Bool
  | .done e, gens, elt => gens.isEmpty && cE cx e elt
  | .cons t e ifs g, gens, elt => conc gens fun c r => decide (c.is_async = 0) && tgtIs cx t c.target && notSet c.iter && cE cxi e c.iter && cEs cx ifs c.ifs && !t.slots.isEmpty && t.slots.all (fun i => decide (b ≤ i)) && t.slots.all (fun i => !(slotsG g).contains i) && cG cx cx b g r elt
end

mutual
/-- what it calls is sound -/
noncomputable def OkE (P : Str → Fn → Prop) : E → Prop
  | .any => True
  | .cst _ => True
  | .var _ => True
  | .frz e => OkE P e
  | .attr e _ => OkE P e
  | .idx e i => OkE P e ∧ OkE P i
  | .sub e _ => OkE P e
  | .rev e => OkE P e
  | .lst es => OkEs P es
  | .lstc es => OkEs P es
  | .tup es => OkEs P es
  | .dicc => True
  | .dic kvs => OkKvs P kvs
  | .bin _ a b => OkE P a ∧ OkE P b
  | .cmp _ a b => OkE P a ∧ OkE P b
  | .cmp2 a _ b _ c => OkE P a ∧ OkE P b ∧ OkE P c
  | .and es => OkEs P es
  | .or es => OkEs P es
  | .not e => OkE P e
  | .ife t a b => OkE P t ∧ OkE P a ∧ OkE P b
  | .call n f es => P n f ∧ OkEs P es
  | .new es => OkEs P es
  | .bi _ e => OkE P e
  | .range3 a b c => OkE P a ∧ OkE P b ∧ OkE P c
  | .get e k d => OkE P e ∧ OkE P k ∧ OkE P d
  | .pop e => OkE P e
  | .comp g => OkG P g
noncomputable def OkEs (P : Str → Fn → Prop) : Es → Prop
  | .nil => True
  | .cons e es => OkE P e ∧ OkEs P es
noncomputable def OkKvs (P : Str → Fn → Prop) : Kvs → Prop
  | .nil => True
  | .cons k v r => OkE P k ∧ OkE P v ∧ OkKvs P r
noncomputable def OkG (P : Str → Fn → Prop) : Gens → Prop
  | .done e => OkE P e
  | .cons _ e ifs g => OkE P e ∧ OkEs P ifs ∧ OkG P g
end

noncomputable def isComp (e : E) : Bool := Nat.beq e.ctorIdx 26

/-- how target = value is done: the plain way -/
noncomputable def asg1 (target value : Expr) : Bool := notComp value && (notTuple value || Nat.beq target.ctorIdx 23)
/-- a display onto two names -/
noncomputable def asg2 (target value : Expr) : Bool := onTuple target fun ts _ _ => (conc ts fun a ts => one ts fun b => (onName a fun _ _ => true) && onName b fun _ _ => true) &&
  onTuple value fun vs _ _ => conc vs fun v vs => one vs fun w => plainArg v && plainArg w && foldedForSure 8 v && foldedForSure 8 w
/-- onto three, the second a cell -/
noncomputable def asg3 (cx : Cx) (target value : Expr) : Bool := onTuple target fun ts _ _ => (conc ts fun a ts => conc ts fun b ts => one ts fun c => (onName a fun _ _ => true) && (onName b fun y _ => cx.names.lookup y == some .cell) && onName c fun _ _ => true) &&
  onTuple value fun vs _ _ => conc vs fun v vs => conc vs fun w vs => one vs fun u => plainArg v && plainArg w && plainArg u
/-- a display onto two names, from the end -/
noncomputable def asgX (cx : Cx) (target value : Expr) : Bool := onTuple target fun ts _ _ => conc ts fun a ts => one ts fun b => onName a fun x p => onName b fun y q => cx.names.lookup x == some .local && cx.names.lookup y == some .local && p.line == q.line && !(x == y) &&
  onTuple value fun vs _ _ => conc vs fun v vs => one vs fun w => plainArg v && plainArg w && !([v, w].all (foldedForSure 8)) && !([v, w].all (constantsAlone 8))
/-- a comprehension onto a name -/
noncomputable def asgC (target value : Expr) : Bool := (onName target fun _ _ => true) && onListComp value fun _ gens _ _ => !gens.isEmpty

mutual
noncomputable def cS (cx : Cx) : S → Stmt → Bool
  | .any, _ => true
  | .asg t e, x => atAssign x fun ts value _ => one ts fun target => tgtIs cx t target && cE cx e value && decide (t.slots.Nodup) &&
      (asg1 target value || asg2 target value || asg3 cx target value || asgX cx target value || (isComp e && asgC target value))
  | .setI o i e, x => atAssign x fun ts value _ => notComp value && cE cx e value && one ts fun t => onSubscript t fun a b _ => cE cx o a && cE cx i b
  | .app o e, x => atExpr x fun z _ => onCall z fun f xs ks pos => ks.isEmpty && (one xs fun y => plainArg y && cE cx e y) && onAttribute f fun a n p => n == ("append" : Str) && notCall a && (p.endLine == pos.line) && cE cx o a
  | .ext o e, x => atExpr x fun z _ => onCall z fun f xs ks pos => ks.isEmpty && (one xs fun y => plainArg y && cE cx e y) && onAttribute f fun a n p => n == ("extend" : Str) && notCall a && (p.endLine == pos.line) && cE cx o a
  | .ifs t a b, x => atIf x fun test body orelse _ => cE cx t test && cSs cx a body && cSs cx b orelse
  | .fors t e b, x => atFor x fun target iter body els _ => els.isEmpty && tgtIs cx t target && notSet iter && cE cx e iter && cSs cx b body
  | .fore t e b, x => atFor x fun target iter body els _ => els.isEmpty && tgtIs cx t target && cSs cx b body && (onTuple target fun _ _ _ => true) && onCall iter fun f xs ks _ => ks.isEmpty && isGlob cx ("enumerate" : Str) &&
      (onName f fun n _ => n == ("enumerate" : Str)) && one xs fun y => plainArg y && cE cx e y
  | .whl t b, x => atWhile x fun test body els _ => els.isEmpty && cE cx t test && cSs cx b body
  | .ret e, x => atReturn x fun v _ => som v fun y => cE cx e y
noncomputable def cSs (cx : Cx) : Ss → List Stmt → Bool
  | .nil, xs => xs.isEmpty
  | .frz _ ss, xs => cSs cx ss xs
  | .cons s ss, xs => conc xs fun x xs => cS cx s x && cSs cx ss xs
end

mutual
noncomputable def OkS (P : Str → Fn → Prop) : S → Prop
  | .any => True
  | .asg _ e => OkE P e
  | .setI o i e => OkE P o ∧ OkE P i ∧ OkE P e
  | .app o e => OkE P o ∧ OkE P e
  | .ext o e => OkE P o ∧ OkE P e
  | .ifs t a b => OkE P t ∧ OkSs P a ∧ OkSs P b
  | .fors _ e b => OkE P e ∧ OkSs P b
  | .fore _ e b => OkE P e ∧ OkSs P b
  | .whl t b => OkE P t ∧ OkSs P b
  | .ret e => OkE P e
noncomputable def OkSs (P : Str → Fn → Prop) : Ss → Prop
  | .nil => True
  | .frz _ ss => OkSs P ss
  | .cons s ss => OkS P s ∧ OkSs P ss
end

structure AllOk (C : Ctx) : Prop where
  ctx : CtxOk C
  cls : ClsOk C
  init : InitOk C
end Mine

set_option maxRecDepth 10000
namespace Mine
open PySem PySem.W PySem.SeqAt PyProof.Rows PySem.Calls
/-! what the checker's yes says: a rule each, to use it -/
theorem glob_k {cx : Cx} {n : Str} (h : isGlob cx n = true) : okName n = true ∧ cx.names.lookup n = some .globalImplicit := ⟨andl h, eq_of_beq (andr h)⟩
theorem non_nil {α : Type} {xs : List α} (h : (!xs.isEmpty) = true) : xs ≠ [] := fun e => by subst e; exact Bool.noConfusion h
section invs
variable {cx : Cx} {x : Expr} {P : Expr → Prop}
@[elab_as_elim] theorem inv_var {i : Nat} (h : cE cx (.var i) x = true) (k : ∀ n p, okName n = true → cx.vars.lookup n = some i → P (.Name n p)) : P x :=
  onName_k h fun n p h => k n p (andl h) (eq_of_beq (andr h))
@[elab_as_elim] theorem inv_attr {e : E} {j : Nat} (h : cE cx (.attr e j) x = true) (k : ∀ o n p, notCall o = true → fieldNames[j]? = some n → cE cx e o = true → P (.Attribute o n p)) : P x :=
  onAttribute_k h fun o n p h => k o n p (andl (andl h)) (eq_of_beq (andr (andl h))) (andr h)
@[elab_as_elim] theorem inv_idx {e i : E} (h : cE cx (.idx e i) x = true) (k : ∀ o y p, notSlice y = true → cE cx e o = true → cE cx i y = true → P (.Subscript o y p)) : P x :=
  onSubscript_k h fun o y p h => k o y p (andl (andl h)) (andr (andl h)) (andr h)
@[elab_as_elim] theorem inv_sub {e : E} {n : Nat} (h : cE cx (.sub e n) x = true) (k : ∀ o q kd p r, cE cx e o = true → P (.Subscript o (.Slice none (some (.Constant (.int n) kd q)) none p) r)) : P x :=
  onSubscript_k h fun o y r h => onSlice_k (P := fun y => P (.Subscript o y r)) (andr h) fun a b c p h' =>
    non_k (P := fun a => P (.Subscript o (.Slice a b c p) r)) (andl (andl h')) (non_k (P := fun c => P (.Subscript o (.Slice none b c p) r)) (andr (andl h'))
      (som_k (P := fun b => P (.Subscript o (.Slice none b none p) r)) (andr h') fun m h'' => onInt_k (P := fun m => P (.Subscript o (.Slice none (some m) none p) r)) h'' fun kd q => k o q kd p r (andl h)))
@[elab_as_elim] theorem inv_rev {e : E} (h : cE cx (.rev e) x = true) (k : ∀ o q kd p r u, cE cx e o = true → P (.Subscript o (.Slice none none (some (.UnaryOp .USub (.Constant (.int 1) kd q) u)) p) r)) : P x :=
  onSubscript_k h fun o y r h => onSlice_k (P := fun y => P (.Subscript o y r)) (andr h) fun a b c p h' =>
    non_k (P := fun a => P (.Subscript o (.Slice a b c p) r)) (andl (andl h')) (non_k (P := fun b => P (.Subscript o (.Slice none b c p) r)) (andr (andl h'))
      (som_k (P := fun c => P (.Subscript o (.Slice none none c p) r)) (andr h') fun m h'' => onNeg_k (P := fun m => P (.Subscript o (.Slice none none (some m) p) r)) h'' fun kd q u => k o q kd p r u (andl h)))
@[elab_as_elim] theorem inv_lst {es : Es} (h : cE cx (.lst es) x = true) (k : ∀ xs p, xs.length ≤ 1000 → cEs cx es xs = true → P (.List xs p)) : P x :=
  onList_k h fun xs p h => k xs p (of_decide_eq_true (andl h)) (andr h)
@[elab_as_elim] theorem inv_lstc {es : Es} (h : cE cx (.lstc es) x = true) (k : ∀ xs p, xs.length ≤ 1000 → cEs cx es xs = true → P (.List xs p)) : P x :=
  onList_k h fun xs p h => k xs p (of_decide_eq_true (andl h)) (andr h)
@[elab_as_elim] theorem inv_tup {es : Es} (h : cE cx (.tup es) x = true) (k : ∀ xs n p, xs.length ≤ 1000 → cEs cx es xs = true → P (.Tuple xs n p)) : P x :=
  onTuple_k h fun xs n p h => k xs n p (of_decide_eq_true (andl h)) (andr h)
@[elab_as_elim] theorem inv_dicc (h : cE cx .dicc x = true) (k : ∀ p, P (.Dict [] [] p)) : P x :=
  onDict_k h fun ks vs p h => nil_k (P := fun ks => P (.Dict ks vs p)) (andl h) (nil_k (P := fun vs => P (.Dict [] vs p)) (andr h) (k p))
@[elab_as_elim] theorem inv_dic {kvs : Kvs} (h : cE cx (.dic kvs) x = true) (k : ∀ ks vs p, ks.all (·.isSome) = true → ks.length = vs.length → ks ≠ [] → ks.length ≤ 16 → cKvs cx kvs ks vs = true → P (.Dict ks vs p)) : P x :=
  onDict_k h fun ks vs p h => k ks vs p (andl (andl (andl (andl h)))) (eq_of_beq (andr (andl (andl (andl h))))) (non_nil (andr (andl (andl h)))) (of_decide_eq_true (andr (andl h))) (andr h)
@[elab_as_elim] theorem inv_bin {o : Bop} {a b : E} (h : cE cx (.bin o a b) x = true) (k : ∀ l r p, cE cx a l = true → cE cx b r = true → P (.BinOp l o.op r p)) : P x :=
  onBinOp_k h fun l op r p h => dec_k (P := fun op => P (.BinOp l op r p)) (andl (andl h)) (k l r p (andr (andl h)) (andr h))
@[elab_as_elim] theorem inv_cmp {o : Cop} {a b : E} (h : cE cx (.cmp o a b) x = true) (k : ∀ l r p, behindInMarks o.op r = false → cE cx a l = true → cE cx b r = true → P (.Compare l [o.op] [r] p)) : P x :=
  onCompare_k h fun l ops rs p h => one_k (P := fun ops => P (.Compare l ops rs p)) (andr h) fun op h' => dec_k (P := fun op => P (.Compare l [op] rs p)) (andl h')
    (one_k (P := fun rs => P (.Compare l [o.op] rs p)) (andr h') fun r h'' => k l r p (nb (andl h'')) (andl h) (andr h''))
@[elab_as_elim] theorem inv_cmp2 {o o' : Cop} {a b c : E} (h : cE cx (.cmp2 a o b o' c) x = true) (k : ∀ l r r' p, lastMarks [o.op, o'.op] [r, r'] = false → cE cx a l = true → cE cx b r = true → cE cx c r' = true → P (.Compare l [o.op, o'.op] [r, r'] p)) : P x :=
  onCompare_k h fun l ops rs p h => dec_k (P := fun ops => P (.Compare l ops rs p)) (andr (andl h)) (conc_k (P := fun rs => P (.Compare l [o.op, o'.op] rs p)) (andr h) fun r rs h' =>
    one_k (P := fun rs => P (.Compare l [o.op, o'.op] (r :: rs) p)) h' fun r' h'' => k l r r' p (nb (andl (andl h''))) (andl (andl h)) (andr (andl h'')) (andr h''))
@[elab_as_elim] theorem inv_and {es : Es} (h : cE cx (.and es) x = true) (k : ∀ xs p, cEs cx es xs = true → P (.BoolOp .And xs p)) : P x :=
  onBoolOp_k h fun o xs p h => dec_k (P := fun o => P (.BoolOp o xs p)) (andl h) (k xs p (andr h))
@[elab_as_elim] theorem inv_or {es : Es} (h : cE cx (.or es) x = true) (k : ∀ xs p, cEs cx es xs = true → P (.BoolOp .Or xs p)) : P x :=
  onBoolOp_k h fun o xs p h => dec_k (P := fun o => P (.BoolOp o xs p)) (andl h) (k xs p (andr h))
@[elab_as_elim] theorem inv_not {e : E} (h : cE cx (.not e) x = true) (k : ∀ y p, cE cx e y = true → P (.UnaryOp .Not y p)) : P x :=
  onUnaryOp_k h fun o y p h => dec_k (P := fun o => P (.UnaryOp o y p)) (andl h) (k y p (andr h))
@[elab_as_elim] theorem inv_ife {t a b : E} (h : cE cx (.ife t a b) x = true) (k : ∀ y l r p, cE cx t y = true → cE cx a l = true → cE cx b r = true → P (.IfExp y l r p)) : P x :=
  onIfExp_k h fun y l r p h => k y l r p (andl (andl h)) (andr (andl h)) (andr h)
@[elab_as_elim] theorem inv_comp {g : Gens} (h : cE cx (.comp g) x = true) (k : ∀ elt gens scope p, compOk cx scope = true → gens.isEmpty = false → cG (cxComp cx scope) cx cx.base g gens elt = true → P (.ListComp elt gens scope p)) : P x :=
  onListComp_k h fun elt gens scope p h => k elt gens scope p (andl (andl h)) (nb (andr (andl h))) (andr h)
/-- f(..), f a name, no keywords -/
theorem name_k {P : Expr → List Keyword → Prop} {f : Expr} {ks : List Keyword} {m : Str} (hk : ks.isEmpty = true) (h : (onName f fun n _ => n == m) = true) (k : ∀ q, P (.Name m q) []) : P f ks :=
  nil_k (P := fun ks => P f ks) hk (onName_k (P := fun f => P f []) h fun n q h => beq_k (P := fun n => P (.Name n q) []) h (k q))
@[elab_as_elim] theorem inv_call {name : Str} {f : Fn} {es : Es} (h : cE cx (.call name f es) x = true) (k : ∀ q xs p, isGlob cx name = true → xs ≠ [] → cEs cx es xs = true → P (.Call (.Name name q) xs [] p)) : P x :=
  onCall_k h fun f xs ks p h => name_k (P := fun f ks => P (.Call f xs ks p)) (andr (andl h)) (andr h) fun q => k q xs p (andl (andl (andl (andl h)))) (non_nil (andr (andl (andl (andl h))))) (andr (andl (andl h)))
@[elab_as_elim] theorem inv_new {es : Es} (h : cE cx (.new es) x = true) (k : ∀ q xs p, isGlob cx ("Code" : Str) = true → xs ≠ [] → cEs cx es xs = true → P (.Call (.Name "Code" q) xs [] p)) : P x :=
  onCall_k h fun f xs ks p h => name_k (P := fun f ks => P (.Call f xs ks p)) (andr (andl h)) (andr h) fun q => k q xs p (andl (andl (andl (andl h)))) (non_nil (andr (andl (andl (andl h))))) (andr (andl (andl h)))
@[elab_as_elim] theorem inv_bi {b : Bi} {e : E} (h : cE cx (.bi b e) x = true) (k : ∀ q y p, isGlob cx b.name = true → plainArg y = true → cE cx e y = true → P (.Call (.Name b.name q) [y] [] p)) : P x :=
  onCall_k h fun f xs ks p h => name_k (P := fun f ks => P (.Call f xs ks p)) (andr (andl h)) (andr h) fun q => one_k (P := fun xs => P (.Call (.Name b.name q) xs [] p)) (andr (andl (andl h))) fun y h' => k q y p (andl (andl (andl h))) (andl h') (andr h')
@[elab_as_elim] theorem inv_range3 {a b c : E} (h : cE cx (.range3 a b c) x = true) (k : ∀ q y z w p, isGlob cx (Bi.name .range1) = true → plainArg y = true → plainArg z = true → plainArg w = true → cE cx a y = true → cE cx b z = true → cE cx c w = true → P (.Call (.Name (Bi.name .range1) q) [y, z, w] [] p)) : P x :=
  onCall_k h fun f xs ks p h => name_k (P := fun f ks => P (.Call f xs ks p)) (andr (andl (andl h))) (andr (andl h)) fun q => conc_k (P := fun xs => P (.Call (.Name (Bi.name .range1) q) xs [] p)) (andr h) fun y xs h' =>
    conc_k (P := fun xs => P (.Call (.Name (Bi.name .range1) q) (y :: xs) [] p)) h' fun z xs h' => one_k (P := fun xs => P (.Call (.Name (Bi.name .range1) q) (y :: z :: xs) [] p)) h' fun w h' =>
      k q y z w p (andl (andl (andl h))) (andl (andl (andl (andl (andl h'))))) (andr (andl (andl (andl (andl h'))))) (andr (andl (andl (andl h')))) (andr (andl (andl h'))) (andr (andl h')) (andr h')
/-- o.m(..), no keywords -/
theorem meth_k {P : Expr → List Keyword → Prop} {f : Expr} {ks : List Keyword} {m : Str} {pos : Pos} {g : Expr → Bool} (hk : ks.isEmpty = true) (h : (onAttribute f fun o n p => n == m && notCall o && (p.endLine == pos.line) && g o) = true)
    (k : ∀ o p, notCall o = true → (p.endLine == pos.line) = true → g o = true → P (.Attribute o m p) []) : P f ks :=
  nil_k (P := fun ks => P f ks) hk (onAttribute_k (P := fun f => P f []) h fun o n p h => beq_k (P := fun n => P (.Attribute o n p) []) (andl (andl (andl h))) (k o p (andr (andl (andl h))) (andr (andl h)) (andr h)))
@[elab_as_elim] theorem inv_get {e a b : E} (h : cE cx (.get e a b) x = true) (k : ∀ o p y z pos, notCall o = true → (p.endLine == pos.line) = true → plainArg y = true → plainArg z = true → cE cx e o = true → cE cx a y = true → cE cx b z = true → P (.Call (.Attribute o "get" p) [y, z] [] pos)) : P x :=
  onCall_k h fun f xs ks pos h => nil_k (P := fun ks => P (.Call f xs ks pos)) (andl h) (onAttribute_k (P := fun f => P (.Call f xs [] pos)) (andr h) fun o n p h => beq_k (P := fun n => P (.Call (.Attribute o n p) xs [] pos)) (andl (andl (andl (andl h))))
    (conc_k (P := fun xs => P (.Call (.Attribute o "get" p) xs [] pos)) (andr h) fun y xs h' => one_k (P := fun xs => P (.Call (.Attribute o "get" p) (y :: xs) [] pos)) h' fun z h' =>
      k o p y z pos (andr (andl (andl (andl h)))) (andr (andl (andl h))) (andl (andl (andl h'))) (andr (andl (andl h'))) (andr (andl h)) (andr (andl h')) (andr h')))
@[elab_as_elim] theorem inv_pop {e : E} (h : cE cx (.pop e) x = true) (k : ∀ o p pos, notCall o = true → (p.endLine == pos.line) = true → cE cx e o = true → P (.Call (.Attribute o "pop" p) [] [] pos)) : P x :=
  onCall_k h fun f xs ks pos h => nil_k (P := fun xs => P (.Call f xs ks pos)) (andr (andl h)) (meth_k (P := fun f ks => P (.Call f [] ks pos)) (andl (andl h)) (andr h) fun o p => k o p pos)
theorem inv_cst {P : Expr → D → Prop} {c : D} (h : cCst c x = true) (kn : ∀ n p, P (.Constant .none n p) .none) (kb : ∀ b n p, P (.Constant (.bool b) n p) (.bool b)) (ki : ∀ i n p, P (.Constant (.int i) n p) (.int i))
    (km : ∀ i n p q, P (.UnaryOp .USub (.Constant (.int i) n p) q) (.int (-i))) (ks : ∀ a n p, PyData.strOk a = true → P (.Constant (.str a) n p) (.str a)) : P x c := by
  cases c with
  | none => exact onConstant_k (P := fun x => P x .none) h fun c n p h => dec_k (P := fun c => P (.Constant c n p) .none) h (kn n p)
  | bool b => exact onConstant_k (P := fun x => P x (.bool b)) h fun c n p h => dec_k (P := fun c => P (.Constant c n p) (.bool b)) h (kb b n p)
  | int i =>
    cases q : onInt x i with
    | true => exact onInt_k (P := fun x => P x (.int i)) q (ki i)
    | false =>
      replace h : (onInt x i || onNeg x (-i)) = true := h
      rw [q] at h
      exact onNeg_k (P := fun x => P x (.int i)) h fun n p q => (congrArg (fun j => P _ (.int j)) (Int.neg_neg i)).mp (km (-i) n p q)
  | str a => exact onConstant_k (P := fun x => P x (.str a)) h fun c n p h => dec_k (P := fun c => P (.Constant c n p) (.str a)) (andl h) (ks a n p (andr h))
  | _ => exact Bool.noConfusion h
end invs
section lists
variable {cx : Cx}
@[elab_as_elim] theorem inv_nil {P : List Expr → Prop} {xs : List Expr} (h : cEs cx .nil xs = true) (k : P []) : P xs := nil_k h k
@[elab_as_elim] theorem inv_cons {P : List Expr → Prop} {xs : List Expr} {e : E} {es : Es} (h : cEs cx (.cons e es) xs = true) (k : ∀ x xs, plainArg x = true → cE cx e x = true → cEs cx es xs = true → P (x :: xs)) : P xs :=
  conc_k h fun x xs h => k x xs (andl (andl h)) (andr (andl h)) (andr h)
theorem inv_knil {P : List (Option Expr) → List Expr → Prop} {xs : List (Option Expr)} {ys : List Expr} (h : cKvs cx .nil xs ys = true) (k : P [] []) : P xs ys :=
  nil_k (P := fun xs => P xs ys) (andl h) (nil_k (P := fun ys => P [] ys) (andr h) k)
theorem inv_kcons {P : List (Option Expr) → List Expr → Prop} {xs : List (Option Expr)} {ys : List Expr} {a b : E} {r : Kvs} (h : cKvs cx (.cons a b r) xs ys = true)
    (k : ∀ x xs y ys, cE cx a x = true → cE cx b y = true → cKvs cx r xs ys = true → P (some x :: xs) (y :: ys)) : P xs ys :=
  conc_k (P := fun xs => P xs ys) h fun ox xs h => conc_k (P := fun ys => P (ox :: xs) ys) h fun y ys h => som_k (P := fun ox => P (ox :: xs) (y :: ys)) (andr h) fun x h' => k x xs y ys h' (andl (andl h)) (andr (andl h))
theorem all_dec {t : List Nat} {p : Nat → Prop} [∀ i, Decidable (p i)] (h : t.all (fun i => decide (p i)) = true) : ∀ i ∈ t, p i := fun i hi => of_decide_eq_true (List.all_eq_true.mp h i hi)
theorem inv_gcons {cxi : Cx} {b : Nat} {P : List Comprehension → Prop} {gens : List Comprehension} {t : Tgt} {e : E} {ifs : Es} {g : Gens} {elt : Expr} (h : cG cx cxi b (.cons t e ifs g) gens elt = true)
    (k : ∀ target iter fs r, tgtIs cx t target = true → notSet iter = true → cE cxi e iter = true → cEs cx ifs fs = true → t.slots.isEmpty = false → (∀ i ∈ t.slots, b ≤ i) → (∀ i ∈ t.slots, ¬ i ∈ slotsG g) → cG cx cx b g r elt = true → P (⟨target, iter, fs, 0⟩ :: r)) : P gens :=
  conc_k h fun c r h => by
    obtain ⟨target, iter, fs, a⟩ := c
    have h1 := andl h; have h2 := andl h1; have h3 := andl h2; have h4 := andl h3; have h5 := andl h4; have h6 := andl h5; have h7 := andl h6
    refine dec_k (P := fun a => P (⟨target, iter, fs, a⟩ :: r)) (andl h7) (k target iter fs r (andr h7) (andr h6) (andr h5) (andr h4) (nb (andr h3)) (all_dec (andr h2)) (fun i hi q => ?_) (andr h))
    have := nb (List.all_eq_true.mp (andr h1) i hi)
    exact Bool.false_ne_true (this.symm.trans (List.contains_iff_mem.mpr q))
end lists
end Mine

set_option maxRecDepth 10000
namespace Mine
open PySem PySem.W PySem.SeqAt PyProof.Rows PySem.Calls

variable {C : Ctx} {A : Around} {k : Nat}

theorem cCst_go {γ : Gh} {s : Shared} {m : Mem} {env : Env} {c : D} {x : Expr} (I : MInv C γ m s) (h : cCst c x = true) : Gives C A γ s (eval x env) c m :=
  inv_cst (P := fun x c => Gives C A γ s (eval x env) c m) h (fun _ _ => c_none I) (fun _ _ _ => c_bool I) (fun _ _ _ => c_int I) (fun _ _ _ _ => c_neg I) (fun _ _ _ h => c_str I h)

theorem evs_len : ∀ {es : Es} {xs : List Expr} {cx : Cx} {ρ : List D} {m m' : Mem} {ds : List D}, cEs cx es xs = true → evs es ρ m = some (ds, m') → ds.length = xs.length
  | .nil, xs, _, _, _, _, _, hc, h => kevs_nil (P := fun ds _ => ds.length = xs.length) h (inv_nil (P := fun xs => 0 = xs.length) hc rfl)
  | .cons _ _, xs, _, _, _, _, _, hc, h => kevs_cons (P := fun ds _ => ds.length = xs.length) h fun _ _ r _ _ h2 => inv_cons (P := fun xs => r.length + 1 = xs.length) hc fun _ _ _ _ hc => congrArg (· + 1) (evs_len hc h2)

theorem cEs_plain : ∀ {es : Es} {xs : List Expr} {cx : Cx}, cEs cx es xs = true → xs.all plainArg = true
  | .nil, _, _, hc => inv_nil hc rfl
  | .cons _ _, _, _, hc => inv_cons hc fun _ _ h1 _ h3 => (congrArg (· && _) h1).trans (cEs_plain h3)

theorem notSet_fold {x : Expr} {env : Env} (h : notSet x = true) (v : Value) : foldedSetIterable x env v = pure v := by
  cases x <;> first | rfl | exact Bool.noConfusion h

theorem evs2_len : ∀ {kvs : Kvs} {xs : List (Option Expr)} {ys : List Expr} {cx : Cx} {ρ : List D} {m m' : Mem} {ks vs : List D}, cKvs cx kvs xs ys = true → evs2 kvs ρ m = some (ks, vs, m') → ks.length = xs.length
  | .nil, xs, ys, _, _, _, _, _, _, hc, h => kevs2_nil (P := fun ks _ _ => ks.length = xs.length) h (inv_knil (P := fun xs _ => _ = xs.length) hc rfl)
  | .cons _ _ _, xs, ys, _, _, _, _, _, _, hc, h => kevs2_cons (P := fun ks _ _ => ks.length = xs.length) h fun _ _ _ _ as _ _ _ _ h2 => inv_kcons (P := fun xs _ => as.length + 1 = xs.length) hc fun _ _ _ _ _ _ hc => congrArg (· + 1) (evs2_len hc h2)

theorem pures_undef {ds : List D} (h : D.pures ds = true) : ∀ d ∈ ds, d ≠ .undef := fun d hd q => by
  rw [D.pures_all, List.all_eq_true] at h
  have := h d hd
  subst q
  exact Bool.noConfusion this

theorem tgtIs.one {cx : Cx} {t : Tgt} {e : Expr} (h : tgtIs cx t e = true) (hne : t.slots.isEmpty = false) : ∃ i x, i ∈ t.slots ∧ cx.vars.lookup x = some i :=
  tgt_k (P := fun t _ => t.slots.isEmpty = false → ∃ i x, i ∈ t.slots ∧ cx.vars.lookup x = some i) h (fun i x _ _ h _ => ⟨i, x, List.mem_cons_self, h⟩)
    (fun is es n p h hne => match is, h, hne with
      | [], _, h => Bool.noConfusion h
      | i :: is, h, _ => conc_k (P := fun _ => ∃ j x, j ∈ i :: is ∧ cx.vars.lookup x = Option.some j) h fun e es h => nm_k (P := fun _ => ∃ j x, j ∈ i :: is ∧ cx.vars.lookup x = Option.some j) (andl h) fun x _ _ h => ⟨i, x, List.mem_cons_self, h⟩) hne

theorem tgt_addr {cx : Cx} {loc : Nat → Loc} {env : Env} {t : Tgt} {target : Expr} {b : Nat} {L : Addr} (X : EnvOk cx loc env) (ht : tgtIs cx t target = true) (hne : t.slots.isEmpty = false) (hb : ∀ i ∈ t.slots, b ≤ i)
    (high : ∀ i, b ≤ i → ∀ c, (loc i).addr = some c → c = L) : ∃ i, (loc i).addr = some L := by
  have key : ∀ i ∈ t.slots, ∀ x, cx.vars.lookup x = some i → ∃ i, (loc i).addr = some L := fun i hi x hx => by
    rcases X.var x i hx with ⟨hl, _⟩ | ⟨c, hl, _⟩
    · have h1 : (loc i).addr = some env.locals := by rw [hl]; rfl
      exact ⟨i, high i (hb i hi) _ h1 ▸ h1⟩
    · have h1 : (loc i).addr = some c := by rw [hl]; rfl
      exact ⟨i, high i (hb i hi) _ h1 ▸ h1⟩
  obtain ⟨i, x, hi, hx⟩ := tgtIs.one ht hne
  exact key i hi x hx

theorem slots_high {cx cx' : Cx} {b : Nat} : ∀ {g : Gens} {gens : List Comprehension} {elt : Expr}, cG cx cx' b g gens elt = true → ∀ i ∈ slotsG g, b ≤ i
  | .done _, _, _, _, _, hi => nomatch hi
  | .cons _ _ _ _, _, elt, h, i, hi => inv_gcons (P := fun _ => b ≤ i) h fun _ _ _ _ _ _ _ _ _ h6 _ h8 => (List.mem_append.mp hi).elim (h6 i) (slots_high h8 i)

theorem cG_async {cx cx' : Cx} {b : Nat} : ∀ {g : Gens} {gens : List Comprehension} {elt : Expr}, cG cx cx' b g gens elt = true → ∀ (j : Nat) (g' : Comprehension), gens[j]? = some g' → g'.is_async = 0
  | .done _, gens, _, h, j, g', hg => nil_k (P := fun gens => gens[j]? = some g' → g'.is_async = 0) (andl h) (fun hg => by simp at hg) hg
  | .cons _ _ _ _, gens, elt, h, j, g', hg => inv_gcons (P := fun gens => gens[j]? = some g' → g'.is_async = 0) h (fun _ _ _ r _ _ _ _ _ _ _ h8 hg => by
      cases j with
      | zero => exact (Option.some.inj hg) ▸ rfl
      | succ j => exact cG_async h8 j g' hg) hg

/-- what a text's soundness says -/
noncomputable abbrev SE (C : Ctx) (A : Around) (k : Nat) (e : E) : Prop := ∀ {x : Expr} {cx : Cx} {loc : Nat → Loc} {env : Env} {ρ : List D} {γ : Gh} {s : Shared} {m m' : Mem} {d : D},
  OkE (Sound C (k + 3)) e → cE cx e x = true → EnvOk cx loc env → MInv C γ m s → SInv C γ loc ρ s → ev e ρ m = some (d, m') → Gives C A γ s (eval x env) d m'
noncomputable abbrev ST (C : Ctx) (A : Around) (k : Nat) (e : E) : Prop := ∀ {x : Expr} {cx : Cx} {loc : Nat → Loc} {env : Env} {ρ : List D} {γ : Gh} {s : Shared} {m m' : Mem} {b : Bool},
  OkE (Sound C (k + 3)) e → cE cx e x = true → EnvOk cx loc env → MInv C γ m s → SInv C γ loc ρ s → tst e ρ m = some (b, m') → GivesB C A γ s (isTrue x env (eval x env)) b m'
noncomputable abbrev SL (C : Ctx) (A : Around) (k : Nat) (es : Es) : Prop := ∀ {xs : List Expr} {cx : Cx} {loc : Nat → Loc} {env : Env} {ρ : List D} {γ : Gh} {s : Shared} {m m' : Mem} {ds : List D} {pos : Pos},
  OkEs (Sound C (k + 3)) es → cEs cx es xs = true → EnvOk cx loc env → MInv C γ m s → SInv C γ loc ρ s → evs es ρ m = some (ds, m') → GivesL C A γ s (spliced (backTo pos (starEach xs env))) ds m'
noncomputable abbrev SAnd (C : Ctx) (A : Around) (k : Nat) (es : Es) : Prop := ∀ {xs : List Expr} {cx : Cx} {loc : Nat → Loc} {env : Env} {ρ : List D} {γ : Gh} {s : Shared} {m m' : Mem} {d : D} {pos : Pos},
  OkEs (Sound C (k + 3)) es → cEs cx es xs = true → EnvOk cx loc env → MInv C γ m s → SInv C γ loc ρ s → evAnd es ρ m = some (d, m') → Gives C A γ s (eval (.BoolOp .And xs pos) env) d m'
noncomputable abbrev SOr (C : Ctx) (A : Around) (k : Nat) (es : Es) : Prop := ∀ {xs : List Expr} {cx : Cx} {loc : Nat → Loc} {env : Env} {ρ : List D} {γ : Gh} {s : Shared} {m m' : Mem} {d : D} {pos : Pos},
  OkEs (Sound C (k + 3)) es → cEs cx es xs = true → EnvOk cx loc env → MInv C γ m s → SInv C γ loc ρ s → evOr es ρ m = some (d, m') → Gives C A γ s (eval (.BoolOp .Or xs pos) env) d m'
noncomputable abbrev STAnd (C : Ctx) (A : Around) (k : Nat) (es : Es) : Prop := ∀ {xs : List Expr} {cx : Cx} {loc : Nat → Loc} {env : Env} {ρ : List D} {γ : Gh} {s : Shared} {m m' : Mem} {b : Bool} {pos : Pos} {whole : Sem Value},
  OkEs (Sound C (k + 3)) es → cEs cx es xs = true → EnvOk cx loc env → MInv C γ m s → SInv C γ loc ρ s → tstAnd es ρ m = some (b, m') → GivesB C A γ s (isTrue (.BoolOp .And xs pos) env whole) b m'
noncomputable abbrev STOr (C : Ctx) (A : Around) (k : Nat) (es : Es) : Prop := ∀ {xs : List Expr} {cx : Cx} {loc : Nat → Loc} {env : Env} {ρ : List D} {γ : Gh} {s : Shared} {m m' : Mem} {b : Bool} {pos : Pos} {whole : Sem Value},
  OkEs (Sound C (k + 3)) es → cEs cx es xs = true → EnvOk cx loc env → MInv C γ m s → SInv C γ loc ρ s → tstOr es ρ m = some (b, m') → GivesB C A γ s (isTrue (.BoolOp .Or xs pos) env whole) b m'
noncomputable abbrev STests (C : Ctx) (A : Around) (k : Nat) (es : Es) : Prop := ∀ {xs : List Expr} {cx : Cx} {loc : Nat → Loc} {env : Env} {ρ : List D} {γ : Gh} {s : Shared} {m m' : Mem} {b : Bool},
  OkEs (Sound C (k + 3)) es → cEs cx es xs = true → EnvOk cx loc env → MInv C γ m s → SInv C γ loc ρ s → tstAnd es ρ m = some (b, m') → GivesB C A γ s (testsTree xs env) b m'
noncomputable abbrev SP (C : Ctx) (A : Around) (k : Nat) (kvs : Kvs) : Prop := ∀ {xs : List (Option Expr)} {ys : List Expr} {cx : Cx} {loc : Nat → Loc} {env : Env} {ρ : List D} {γ : Gh} {s : Shared} {m m' : Mem} {ks vs : List D} {pos : Pos},
  OkKvs (Sound C (k + 3)) kvs → cKvs cx kvs xs ys = true → EnvOk cx loc env → MInv C γ m s → SInv C γ loc ρ s → evs2 kvs ρ m = some (ks, vs, m') → GivesP C A γ s (evalPairs (pairTrees xs ys env pos)) ks vs m'
noncomputable abbrev SPut (C : Ctx) (A : Around) (k : Nat) (kvs : Kvs) : Prop := ∀ {xs : List (Option Expr)} {ys : List Expr} {cx : Cx} {loc : Nat → Loc} {env : Env} {ρ : List D} {γ : Gh} {s : Shared} {m m' : Mem} {ks vs : List D} {pos : Pos} {d : Addr},
  OkKvs (Sound C (k + 3)) kvs → cKvs cx kvs xs ys = true → EnvOk cx loc env → MInv C γ m s → SInv C γ loc ρ s → ¬ Wl loc d → evs2 kvs ρ m = some (ks, vs, m') → GivesS C A γ s d (pairTrees xs ys env pos) ks vs m'
noncomputable abbrev SComp (C : Ctx) (A : Around) (k : Nat) (g : Gens) : Prop := ∀ {elt : Expr} {gens : List Comprehension} {scope : Scope} {pos : Pos} {cx : Cx} {loc : Nat → Loc} {env : Env} {ρ : List D} {γ : Gh} {s : Shared} {m m' : Mem} {l : List D},
  OkG (Sound C (k + 3)) g → compOk cx scope = true → gens.isEmpty = false → cG (cxComp cx scope) cx cx.base g gens elt = true → EnvOk cx loc env → MInv C γ m s → SInv C γ loc ρ s → evG g ρ m = some (l, m') → l.length ≤ big → CompOf C A cx loc env γ s ρ elt gens scope pos l m'
noncomputable abbrev SInner (C : Ctx) (A : Around) (k : Nat) (g : Gens) : Prop := ∀ {elt : Expr} {gens : List Comprehension} {scope : Scope} {pos : Pos} {cx : Cx} {b : Nat} {loc : Nat → Loc} {env : Env} {ρ : List D} {γ : Gh} {s : Shared} {m m' : Mem} {l lx : List D} {j : Nat} {a L : Addr},
  OkG (Sound C (k + 3)) g → cG cx cx b g (gens.drop (j + 1)) elt = true → EnvOk cx loc env → a ≠ L → ¬ Wl loc a → (∀ i, b ≤ i → ∀ c, (loc i).addr = some c → c = L) → (∃ i, (loc i).addr = some L) → (∀ i ∈ slotsG g, ρ[i]?.getD .undef = .undef) →
  MInv C γ m s → SInv C γ loc ρ s → Acc C γ s a l → evG g ρ m = some (lx, m') → (l ++ lx).length ≤ big → InnerGives C A (compInner elt gens scope pos j (.ref a) env (pure ())) loc a L γ s ρ l lx m'
end Mine

set_option maxRecDepth 10000
namespace Mine
open PySem PySem.W PySem.SeqAt PyProof.Rows PySem.Calls

variable {C : Ctx} {A : Around} {k : Nat}

theorem not_again {C : Ctx} {A : Around} {γ : Gh} {s : Shared} {m : Mem} {a : D} {v : Value} {q : Bool} (I : MInv C γ m s) (r : Rel C γ a v) (h : truth a = some q) : Gives C A γ s (unaryOp .Not v) (.bool (!q)) m :=
  not_of ((truthy_ok I r h).thenW fun γ₂ _ I₂ S₂ => ⟨γ₂, I₂, S₂, rfl⟩)
theorem fresh_slot {C : Ctx} {γ : Gh} {loc : Nat → Loc} {ρ : List D} {s : Shared} {d : Addr} (V : SInv C γ loc ρ s) (h : s.heap.get? d = none) : ¬ Wl loc d := fun ⟨i, hi⟩ => by
  obtain ⟨o, ho⟩ := (V.slot i).live hi
  rw [h] at ho; cases ho
theorem le_big {n : Nat} {m : Nat} (e : m = n) (h : n ≤ 1000) : m ≤ big := e ▸ Nat.le_trans h (by decide)
theorem is_nil {gens : List Comprehension} {P : Prop} (h : gens.isEmpty = true) (h' : gens.isEmpty = false) : P := Bool.noConfusion (h.symm.trans h')

theorem comp_go' {cx : Cx} {loc : Nat → Loc} {env : Env} {ρ : List D} {γ : Gh} {s : Shared} {elt target iter : Expr} {ifs : List Expr} {a : Int} {rest : List Comprehension} {scope : Scope} {pos : Pos} {lnew : List D} {mend : Mem} (ha : a = 0)
    (h : CompOf C A cx loc env γ s ρ elt (⟨target, iter, ifs, a⟩ :: rest) scope pos lnew mend) : Gives C A γ s (eval (.ListComp elt (⟨target, iter, ifs, a⟩ :: rest) scope pos) env) (.lst lnew) mend := by
  subst ha; exact comp_go h
theorem wt_high {loc : Nat → Loc} {t : Tgt} {b : Nat} {L : Addr} (high : ∀ i, b ≤ i → ∀ c, (loc i).addr = some c → c = L) (hs : ∀ i ∈ t.slots, b ≤ i) : ∀ c, Wt loc t c → c = L := fun c hcw => by
  cases t with
  | v i => exact high i (hs i List.mem_cons_self) c hcw
  | t is =>
    obtain ⟨i, hi, hcw⟩ := hcw
    exact high i (hs i hi) c hcw

theorem st_none {e : E} (h : ∀ ρ m, tst e ρ m = none) : ST C A k e := fun _ _ _ _ _ q => no_some ((h _ _).symm.trans q)

mutual
theorem sound_E (O : AllOk C) (R : Room A (k + 3)) : (e : E) → SE C A k e
  | .any => fun _ _ _ _ _ h => no_some h
  | .cst c => fun _ hc _ I _ h => kev_cst h (cCst_go I hc)
  | .var i => fun _ hc X I V h => inv_var hc fun _ _ h1 h2 => kev_var h fun _ he hne => var_go X I V h1 h2 he hne
  | .frz e => fun ok hc X I V h => kev_frz h fun _ _ h1 h2 => frz_go (sound_E O R e ok hc X I V h1) h2
  | .attr e j => fun ok hc X I V h => inv_attr hc fun _ _ _ c1 c2 c3 => kev_attr h fun _ _ _ h1 h2 => attr_go O.cls c1 (sound_E O R e ok c3 X I V h1) c2 h2
  | .idx e i => fun ok hc X I V h => inv_idx hc fun _ _ _ c1 c2 c3 => kev_idx h fun _ _ _ _ _ h1 h2 h3 => idx_go c1 (sound_E O R e ok.1 c2 X I V h1) (fun _ _ I₁ S₁ => sound_E O R i ok.2 c3 X I₁ (V.step S₁) h2) h3
  | .sub e n => fun ok hc X I V h => inv_sub hc fun _ _ _ _ _ c1 => kev_sub h fun _ _ _ h1 h3 => sub_go (sound_E O R e ok c1 X I V h1) h3
  | .rev e => fun ok hc X I V h => inv_rev hc fun _ _ _ _ _ _ c1 => kev_rev h fun _ _ _ h1 h3 => rev_go (sound_E O R e ok c1 X I V h1) h3
  | .lst es => fun ok hc X I V h => inv_lst hc fun _ _ c1 c2 => kev_lst h fun _ _ h1 => list_go (sound_L O R es ok c2 X I V h1) (le_big (evs_len c2 h1) c1)
  | .lstc es => fun ok hc X I V h => inv_lstc hc fun _ _ c1 c2 => kev_lstc h fun _ _ h1 hp => listc_go (sound_L O R es ok c2 X I V h1) (le_big (evs_len c2 h1) c1) hp
  | .tup es => fun ok hc X I V h => inv_tup hc fun _ _ _ c1 c2 => kev_tup h fun _ _ h1 => tuple_go (sound_L O R es ok c2 X I V h1) (le_big (evs_len c2 h1) c1)
  | .dicc => fun _ hc _ I _ h => inv_dicc hc fun _ => kev_dicc h (dicc_go O.ctx I)
  | .dic kvs => fun ok hc X I V h => inv_dic hc fun _ _ _ c1 c2 c3 c4 c5 => kev_dic h fun _ _ _ h1 hk =>
      dic_go O.ctx I c1 c2 c3 c4 (andl hk) (andr hk) (evs2_len c5 h1 ▸ Nat.le_trans c4 (by decide)) (fun _ _ I₁ S₁ => sound_P O R kvs ok c5 X I₁ (V.step S₁) h1) (fun _ _ I₁ S₁ _ hd => sound_Put O R kvs ok c5 X I₁ (V.step S₁) (fresh_slot V hd) h1)
  | .bin o a b => fun ok hc X I V h => inv_bin hc fun _ _ _ c1 c2 => kev_bin h fun _ _ _ _ _ h1 h2 h3 => bin_go (sound_E O R a ok.1 c1 X I V h1) (fun _ _ I₁ S₁ => sound_E O R b ok.2 c2 X I₁ (V.step S₁) h2) h3
  | .cmp o a b => fun ok hc X I V h => inv_cmp hc fun _ _ _ hm c1 c2 => kev_cmp h fun _ _ _ _ _ h1 h2 h3 => cmp_go R (sound_E O R a ok.1 c1 X I V h1) (fun _ _ I₁ S₁ => sound_E O R b ok.2 c2 X I₁ (V.step S₁) h2) h3 hm
  | .cmp2 a o b o' c => fun ok hc X I V h => inv_cmp2 hc fun _ _ _ _ hm c1 c2 c3 => kev_cmp2 h
      (fun _ _ _ _ _ _ _ h1 h2 h3 h4 h5 => cmp2_go R (sound_E O R a ok.1 c1 X I V h1) (fun _ _ I₁ S₁ => sound_E O R b ok.2.1 c2 X I₁ (V.step S₁) h2) h3 (fun _ _ I₁ S₁ => sound_E O R c ok.2.2 c3 X I₁ (V.step S₁) h4) h5 hm)
      (fun _ _ _ _ h1 h2 h3 => cmp2_stop R (sound_E O R a ok.1 c1 X I V h1) (fun _ _ I₁ S₁ => sound_E O R b ok.2.1 c2 X I₁ (V.step S₁) h2) h3 hm)
  | .and es => fun ok hc X I V h => inv_and hc fun _ _ c1 => sound_And O R es ok c1 X I V h
  | .or es => fun ok hc X I V h => inv_or hc fun _ _ c1 => sound_Or O R es ok c1 X I V h
  | .not e => fun ok hc X I V h => inv_not hc fun _ _ c1 => kev_not h fun _ _ _ h1 h2 => not_go (sound_E O R e ok c1 X I V h1) h2 fun _ _ _ I₁ r₁ => not_again I₁ r₁ h2
  | .ife t a b => fun ok hc X I V h => inv_ife hc fun _ _ _ _ c1 c2 c3 => kev_ife h (fun _ h1 h => ife_tt (sound_T O R t ok.1 c1 X I V h1) (fun _ _ I₁ S₁ => sound_E O R a ok.2.1 c2 X I₁ (V.step S₁) h))
      (fun _ h1 h => ife_ff (sound_T O R t ok.1 c1 X I V h1) (fun _ _ I₁ S₁ => sound_E O R b ok.2.2 c3 X I₁ (V.step S₁) h))
  | .call name f es => fun ok hc X I V h => inv_call hc fun _ _ _ hg hne c1 => kev_call h fun _ _ h1 h => call_go ok.1 O.ctx X R I (glob_k hg).1 (glob_k hg).2 (cEs_plain c1) hne (sound_L O R es ok.2 c1 X I V h1) h
  | .new es => fun ok hc X I V h => inv_new hc fun _ _ _ hg hne c1 => kev_new h fun _ _ h1 h5 hp => new_go O.ctx O.cls O.init X R I (glob_k hg).2 (cEs_plain c1) hne (sound_L O R es ok c1 X I V h1) h5 (pures_undef hp)
  | .bi b e => fun ok hc X I V h => inv_bi hc fun _ _ _ hg hp c1 => kev_bi h fun _ _ _ h1 h2 => bi_go O.ctx X R I (glob_k hg).2 hp (sound_E O R e ok c1 X I V h1) h2
  | .range3 a b c => fun ok hc X I V h => inv_range3 hc fun _ _ _ _ _ hg hp1 hp2 hp3 c1 c2 c3 => kev_range3 h fun _ _ _ _ _ _ h1 h2 h3 b1 b2 b3 =>
      range3_go O.ctx X I (glob_k hg).2 hp1 hp2 hp3 (sound_E O R a ok.1 c1 X I V h1) (fun _ _ I₁ S₁ => sound_E O R b ok.2.1 c2 X I₁ (V.step S₁) h2) (fun _ _ I₁ S₁ => sound_E O R c ok.2.2 c3 X I₁ (V.step S₁) h3) b1 b2 b3
  | .get e kk dd => fun ok hc X I V h => inv_get hc fun _ _ _ _ _ hn hl hp1 hp2 c1 c2 c3 => kev_get h fun _ _ _ _ _ _ _ h1 h2 h3 h4 =>
      get_go hn hl hp1 hp2 (sound_E O R e ok.1 c1 X I V h1) (fun _ _ I₁ S₁ => sound_E O R kk ok.2.1 c2 X I₁ (V.step S₁) h2) (fun _ _ I₁ S₁ => sound_E O R dd ok.2.2 c3 X I₁ (V.step S₁) h3) h4
  | .pop e => fun ok hc X I V h => inv_pop hc fun _ _ _ hn hl c1 => kev_pop h fun _ _ h1 h => pop_go hn hl (sound_E O R e ok c1 X I V h1) h
  | .comp g => fun ok hc X I V h => inv_comp hc fun _ gens _ _ c1 c2 c3 => kev_comp h fun _ _ h1 hb => match gens, c2, c3 with
      | [], c2, _ => Bool.noConfusion c2
      | ⟨_, _, _, _⟩ :: _, c2, c3 => comp_go' (cG_async c3 0 _ rfl) (sound_C O R g ok c1 c2 c3 X I V h1 hb)
theorem sound_T (O : AllOk C) (R : Room A (k + 3)) : (e : E) → ST C A k e
  | .not e => fun ok hc X I V h => inv_not hc fun _ _ c1 => ktst_not h fun _ _ h1 => notT_go (sound_T O R e ok c1 X I V h1)
  | .and es => fun ok hc X I V h => inv_and hc fun _ _ c1 => sound_TAnd O R es ok c1 X I V h
  | .or es => fun ok hc X I V h => inv_or hc fun _ _ c1 => sound_TOr O R es ok c1 X I V h
  | .cmp o a b' => fun ok hc X I V h => inv_cmp hc fun _ _ _ hm c1 c2 => ktst_cmp h fun _ _ _ _ _ h1 h2 h3 => cmpT_go R (sound_E O R a ok.1 c1 X I V h1) (fun _ _ I₁ S₁ => sound_E O R b' ok.2 c2 X I₁ (V.step S₁) h2) h3 hm
  | .cmp2 a o b' o' c => fun ok hc X I V h => inv_cmp2 hc fun _ _ _ _ hm c1 c2 c3 => ktst_cmp2 h
      (fun _ _ _ _ _ _ _ h1 h2 h3 h4 h5 => cmp2T_go R (sound_E O R a ok.1 c1 X I V h1) (fun _ _ I₁ S₁ => sound_E O R b' ok.2.1 c2 X I₁ (V.step S₁) h2) h3 (fun _ _ I₁ S₁ => sound_E O R c ok.2.2 c3 X I₁ (V.step S₁) h4) h5 hm)
      (fun _ _ _ _ h1 h2 h3 => cmp2T_stop R (sound_E O R a ok.1 c1 X I V h1) (fun _ _ I₁ S₁ => sound_E O R b' ok.2.1 c2 X I₁ (V.step S₁) h2) h3 hm)
  | .call name f es => fun ok hc X I V h => inv_call hc fun _ _ _ hg hne c1 => ktst_call h fun _ _ _ _ _ h1 h2 h3 =>
      plainT_go (call_go ok.1 O.ctx X R I (glob_k hg).1 (glob_k hg).2 (cEs_plain c1) hne (sound_L O R es ok.2 c1 X I V h1) h2) h3 (fun _ => rfl)
  | .var i => fun _ hc X I V h => inv_var hc fun _ _ h1 h2 => ktst_var h fun _ he => plainT_go (var_go X I V h1 h2 he (fun q => D.noConfusion q)) rfl (fun _ => rfl)
  | .idx e i => fun ok hc X I V h => inv_idx hc fun _ _ _ c1 c2 c3 => ktst_idx h fun _ _ _ _ _ h1 h2 h3 => plainT_go (idx_go c1 (sound_E O R e ok.1 c2 X I V h1) (fun _ _ I₁ S₁ => sound_E O R i ok.2 c3 X I₁ (V.step S₁) h2) h3) rfl (fun _ => rfl)
  | .any | .cst _ | .frz _ | .attr _ _ | .sub _ _ | .rev _ | .lst _ | .lstc _ | .tup _ | .dicc | .dic _ | .bin _ _ _ | .ife _ _ _ | .new _ | .bi _ _ | .range3 _ _ _ | .get _ _ _ | .pop _ | .comp _ => st_none fun _ _ => rfl
theorem sound_L (O : AllOk C) (R : Room A (k + 3)) : (es : Es) → SL C A k es
  | .nil => fun _ hc _ I _ h => inv_nil hc (kevs_nil h (items_nil I))
  | .cons e es => fun ok hc X I V h => inv_cons hc fun _ _ c1 c2 c3 => kevs_cons h fun _ _ _ _ h1 h2 => items_cons c1 (sound_E O R e ok.1 c2 X I V h1) (fun _ _ I₁ S₁ => sound_L O R es ok.2 c3 X I₁ (V.step S₁) h2)
theorem sound_And (O : AllOk C) (R : Room A (k + 3)) : (es : Es) → SAnd C A k es
  | .nil => fun _ _ _ _ _ h => no_some h
  | .cons e .nil => fun ok hc X I V h => inv_cons hc fun _ _ _ c2 c3 => inv_nil c3 (bool_one (sound_E O R e ok.1 c2 X I V h))
  | .cons e (.cons e' es) => fun ok hc X I V h => inv_cons hc fun _ xs _ c2 c3 => match xs, c3 with
      | [], c3 => Bool.noConfusion c3
      | _ :: _, c3 => kevAnd_cons h (fun _ _ h1 h2 h => bool_go (sound_E O R e ok.1 c2 X I V h1) h2 rfl (fun _ _ I₁ S₁ => sound_And O R (.cons e' es) ok.2 c3 X I₁ (V.step S₁) h)) (fun _ _ h1 h2 => bool_stop (sound_E O R e ok.1 c2 X I V h1) h2 rfl)
theorem sound_Or (O : AllOk C) (R : Room A (k + 3)) : (es : Es) → SOr C A k es
  | .nil => fun _ _ _ _ _ h => no_some h
  | .cons e .nil => fun ok hc X I V h => inv_cons hc fun _ _ _ c2 c3 => inv_nil c3 (bool_one (sound_E O R e ok.1 c2 X I V h))
  | .cons e (.cons e' es) => fun ok hc X I V h => inv_cons hc fun _ xs _ c2 c3 => match xs, c3 with
      | [], c3 => Bool.noConfusion c3
      | _ :: _, c3 => kevOr_cons h (fun _ _ h1 h2 h => bool_go (sound_E O R e ok.1 c2 X I V h1) h2 rfl (fun _ _ I₁ S₁ => sound_Or O R (.cons e' es) ok.2 c3 X I₁ (V.step S₁) h)) (fun _ _ h1 h2 => bool_stop (sound_E O R e ok.1 c2 X I V h1) h2 rfl)
theorem sound_TAnd (O : AllOk C) (R : Room A (k + 3)) : (es : Es) → STAnd C A k es
  | .nil => fun _ hc _ I _ h => inv_nil hc (ktstAnd_nil h (andT_nil I))
  | .cons e es => fun ok hc X I V h => inv_cons hc fun _ _ _ c2 c3 => ktstAnd_cons h (fun _ h1 h => andT_go (sound_T O R e ok.1 c2 X I V h1) (fun _ _ I₁ S₁ => sound_TAnd O R es ok.2 c3 X I₁ (V.step S₁) h)) (fun _ h1 => andT_stop (sound_T O R e ok.1 c2 X I V h1))
theorem sound_TOr (O : AllOk C) (R : Room A (k + 3)) : (es : Es) → STOr C A k es
  | .nil => fun _ hc _ I _ h => inv_nil hc (ktstOr_nil h (orT_nil I))
  | .cons e es => fun ok hc X I V h => inv_cons hc fun _ _ _ c2 c3 => ktstOr_cons h (fun _ h1 h => orT_go (sound_T O R e ok.1 c2 X I V h1) (fun _ _ I₁ S₁ => sound_TOr O R es ok.2 c3 X I₁ (V.step S₁) h)) (fun _ h1 => orT_stop (sound_T O R e ok.1 c2 X I V h1))
theorem sound_Tests (O : AllOk C) (R : Room A (k + 3)) : (es : Es) → STests C A k es
  | .nil => fun _ hc _ I _ h => inv_nil hc (ktstAnd_nil h (tests_nil I))
  | .cons e es => fun ok hc X I V h => inv_cons hc fun _ _ _ c2 c3 => ktstAnd_cons h (fun _ h1 h => tests_go (sound_T O R e ok.1 c2 X I V h1) (fun _ _ I₁ S₁ => sound_Tests O R es ok.2 c3 X I₁ (V.step S₁) h)) (fun _ h1 => tests_stop (sound_T O R e ok.1 c2 X I V h1))
theorem sound_P (O : AllOk C) (R : Room A (k + 3)) : (kvs : Kvs) → SP C A k kvs
  | .nil => fun w0 hc w2 I w4 h => by
    rename_i xs ys cx loc env ρ γ s m m' ks vs pos
    exact inv_knil (P := fun xs ys => GivesP C A γ s (evalPairs (pairTrees xs ys env pos)) ks vs m') hc (kevs2_nil h (pairs_nil I))
  | .cons e f r => fun ok hc X I V h => by
    rename_i xs ys cx loc env ρ γ s m m' ks vs pos
    exact inv_kcons (P := fun xs ys => GivesP C A γ s (evalPairs (pairTrees xs ys env pos)) ks vs m') hc fun _ _ _ _ c1 c2 c3 => kevs2_cons h fun _ _ _ _ _ _ _ h1 h2 h3 =>
      pairs_cons (sound_E O R e ok.1 c1 X I V h1) (fun _ _ I₁ S₁ => sound_E O R f ok.2.1 c2 X I₁ (V.step S₁) h2) (fun _ _ I₁ S₁ => sound_P O R r ok.2.2 c3 X I₁ (V.step S₁) h3)
theorem sound_Put (O : AllOk C) (R : Room A (k + 3)) : (kvs : Kvs) → SPut C A k kvs
  | .nil => fun w0 hc w2 I w4 w5 h => by
    rename_i xs ys cx loc env ρ γ s m m' ks vs pos d
    exact inv_knil (P := fun xs ys => GivesS C A γ s d (pairTrees xs ys env pos) ks vs m') hc (kevs2_nil h (puts_nil I))
  | .cons e f r => fun ok hc X I V hd h => by
    rename_i xs ys cx loc env ρ γ s m m' ks vs pos d
    exact inv_kcons (P := fun xs ys => GivesS C A γ s d (pairTrees xs ys env pos) ks vs m') hc fun _ _ _ _ c1 c2 c3 => kevs2_cons h fun _ _ _ _ _ _ _ h1 h2 h3 =>
      puts_cons (sound_E O R e ok.1 c1 X I V h1) (fun _ _ I₁ S₁ => sound_E O R f ok.2.1 c2 X I₁ (V.step S₁) h2) (fun _ _ I₁ S₁ => sound_Put O R r ok.2.2 c3 X I₁ (V.stepW S₁ (fun _ ha q => hd (q ▸ ha))) hd h3)
theorem sound_C (O : AllOk C) (R : Room A (k + 3)) : (g : Gens) → SComp C A k g
  | .done _ => fun _ _ hne hc _ _ _ _ _ => is_nil (andl hc) hne
  | .cons t e ifs g => fun ok hco w2 hc X I V h hb => by
    rename_i elt gens scope pos cx loc env ρ γ s m m' l
    exact inv_gcons (P := fun gens => (∀ (j : Nat) (g' : Comprehension), gens[j]? = some g' → g'.is_async = 0) → CompOf C A cx loc env γ s ρ elt gens scope pos l m') hc
      (fun _ _ _ rest c1 c2 c3 c4 c5 c6 c7 c8 hasync => kevG_cons (P := fun l m' => l.length ≤ big → CompOf C A cx loc env γ s ρ elt _ scope pos l m') h (fun _ _ _ h1 h2 h hb => fun _ _ _ hend =>
        comp_core (hgens := rfl) (t := t) (rest := rest) R.1 X hco I V (sound_E O R e ok.1 c3 X I V h1) h2 (notSet_fold c2) c1 c6 (fun g' hg => hasync 1 g' hg)
            (fun _ _ _ _ _ _ _ _ X' I V e => sound_Tests O R ifs ok.2.1 c4 X' I V e)
            (fun _ _ _ _ _ _ _ _ _ _ _ _ X' haL hal high ea I' V' Ac' e' hl => sound_G O R g (j := 0) ok.2.2 c8 X' haL hal high (tgt_addr X' c1 c5 c6 high) (fun i hi => (assignT_same ea i fun hm => c7 i hm hi) ▸ undef_high X V i (slots_high c8 i hi)) I' V' Ac' e' hl) h hb hend) hb) (cG_async hc)
theorem sound_G (O : AllOk C) (R : Room A (k + 3)) : (g : Gens) → SInner C A k g
  | .done e => fun ok hc X haL hal high hLW hund I V Ac h hl => by
    rename_i elt gens scope pos cx b loc env ρ γ s m m' l lx j a L
    exact kevG_done (P := fun lx m' => (l ++ lx).length ≤ big → InnerGives C A (compInner elt gens scope pos j (.ref a) env (pure ())) loc a L γ s ρ l lx m') h
      (fun _ _ h1 hl => inner_done (List.getElem?_eq_none_iff.mpr (List.drop_eq_nil_iff.mp (List.isEmpty_iff.mp (andl hc)))) (sound_E O R e ok (andr hc) X I V h1) V Ac hal hl) hl
  | .cons t e ifs g => fun ok hc X haL hal high hLW hund I V Ac h hl => by
    rename_i elt gens scope pos cx b loc env ρ γ s m m' l lx j a L
    exact inv_gcons (P := fun gs => gs = gens.drop (j + 1) → (∀ (j : Nat) (g' : Comprehension), gs[j]? = some g' → g'.is_async = 0) → InnerGives C A (compInner elt gens scope pos j (.ref a) env (pure ())) loc a L γ s ρ l lx m') hc
      (fun target iter fs rest c1 c2 c3 c4 c5 c6 c7 c8 hdrop hasync => kevG_cons (P := fun lx m' => (l ++ lx).length ≤ big → InnerGives C A (compInner elt gens scope pos j (.ref a) env (pure ())) loc a L γ s ρ l lx m') h (fun _ _ _ h1 h2 h hl => by
        have hg : gens[j + 1]? = some ⟨target, iter, fs, 0⟩ := by
          have := congrArg (·[0]?) hdrop
          exact (List.getElem?_drop (i := j + 1) (j := 0)).symm.trans this.symm
        have hrest : rest = gens.drop (j + 1 + 1) := (congrArg (·.drop 1) hdrop).trans List.drop_drop
        exact inner_next hg (fun g' hg' => hasync 1 g' ((congrArg (·[1]?) hdrop).trans (List.getElem?_drop.trans hg'))) R.1 X I V Ac (sound_E O R e ok.1 c3 X I V h1) h2 (notSet_fold c2) c1 hal haL (wt_high high c6) hLW (fun i hi => hund i (List.mem_append_left _ hi)) hl
            (fun _ _ _ _ _ _ _ _ I V e => sound_Tests O R ifs ok.2.1 c4 X I V e)
            (fun _ _ _ _ _ _ _ _ ea I' V' Ac' e' hl' => sound_G O R g (b := b) (j := j + 1) ok.2.2 (hrest ▸ c8) X haL hal high hLW (fun i hi => (assignT_same ea i fun hm => c7 i hm hi) ▸ hund i (List.mem_append_right _ hi)) I' V' Ac' e' hl') h) hl) rfl (cG_async hc)
end
end Mine

set_option maxRecDepth 10000
namespace Mine
open PySem PySem.W PySem.SeqAt PyProof.Rows PySem.Calls

variable {C : Ctx} {A : Around} {k : Nat}

noncomputable abbrev SS (C : Ctx) (A : Around) (k : Nat) (st : S) : Prop := ∀ {x : Stmt} {cx : Cx} {loc : Nat → Loc} {env : Env} {ρ ρ' : List D} {γ : Gh} {s : Shared} {m m' : Mem} {fl : Fl},
  OkS (Sound C (k + 3)) st → cS cx st x = true → EnvOk cx loc env → MInv C γ m s → SInv C γ loc ρ s → ex st ρ m = some (fl, ρ', m') → GivesX C A loc γ s (exec x env) fl ρ' m'
noncomputable abbrev SSs (C : Ctx) (A : Around) (k : Nat) (ss : Ss) : Prop := ∀ {xs : List Stmt} {cx : Cx} {loc : Nat → Loc} {env : Env} {ρ ρ' : List D} {γ : Gh} {s : Shared} {m m' : Mem} {fl : Fl},
  OkSs (Sound C (k + 3)) ss → cSs cx ss xs = true → EnvOk cx loc env → MInv C γ m s → SInv C γ loc ρ s → exs ss ρ m = some (fl, ρ', m') → GivesX C A loc γ s (execs xs env) fl ρ' m'

theorem or5 {a b c d e : Bool} (h : (a || b || c || d || e) = true) : a = true ∨ b = true ∨ c = true ∨ d = true ∨ e = true := by
  cases a
  · cases b
    · cases c
      · cases d
        · exact .inr (.inr (.inr (.inr h)))
        · exact .inr (.inr (.inr (.inl rfl)))
      · exact .inr (.inr (.inl rfl))
    · exact .inr (.inl rfl)
  · exact .inl rfl
section invs
variable {cx : Cx} {x : Stmt} {P : Stmt → Prop}
@[elab_as_elim] theorem invS_asg {t : Tgt} {e : E} (h : cS cx (.asg t e) x = true) (k : ∀ target value p, tgtIs cx t target = true → cE cx e value = true → t.slots.Nodup → (asg1 target value || asg2 target value || asg3 cx target value || asgX cx target value || (isComp e && asgC target value)) = true → P (.Assign [target] value p)) : P x :=
  atAssign_k h fun ts value p h => one_k (P := fun ts => P (.Assign ts value p)) h fun target h => k target value p (andl (andl (andl h))) (andr (andl (andl h))) (of_decide_eq_true (andr (andl h))) (andr h)
@[elab_as_elim] theorem invS_setI {o i e : E} (h : cS cx (.setI o i e) x = true) (k : ∀ a b q value p, notComp value = true → cE cx o a = true → cE cx i b = true → cE cx e value = true → P (.Assign [.Subscript a b q] value p)) : P x :=
  atAssign_k h fun ts value p h => one_k (P := fun ts => P (.Assign ts value p)) (andr h) fun t h' => onSubscript_k (P := fun t => P (.Assign [t] value p)) h' fun a b q h' => k a b q value p (andl (andl h)) (andl h') (andr h') (andr (andl h))
@[elab_as_elim] theorem invS_app {o e : E} (h : cS cx (.app o e) x = true) (k : ∀ a q y pos p, notCall a = true → (q.endLine == pos.line) = true → plainArg y = true → cE cx o a = true → cE cx e y = true → P (.Expr (.Call (.Attribute a "append" q) [y] [] pos) p)) : P x :=
  atExpr_k h fun z p h => onCall_k (P := fun z => P (.Expr z p)) h fun f xs ks pos h => one_k (P := fun xs => P (.Expr (.Call f xs ks pos) p)) (andr (andl h)) fun y h' => meth_k (P := fun f ks => P (.Expr (.Call f [y] ks pos) p)) (andl (andl h)) (andr h) fun a q c1 c2 c3 => k a q y pos p c1 c2 (andl h') c3 (andr h')
@[elab_as_elim] theorem invS_ext {o e : E} (h : cS cx (.ext o e) x = true) (k : ∀ a q y pos p, notCall a = true → (q.endLine == pos.line) = true → plainArg y = true → cE cx o a = true → cE cx e y = true → P (.Expr (.Call (.Attribute a "extend" q) [y] [] pos) p)) : P x :=
  atExpr_k h fun z p h => onCall_k (P := fun z => P (.Expr z p)) h fun f xs ks pos h => one_k (P := fun xs => P (.Expr (.Call f xs ks pos) p)) (andr (andl h)) fun y h' => meth_k (P := fun f ks => P (.Expr (.Call f [y] ks pos) p)) (andl (andl h)) (andr h) fun a q c1 c2 c3 => k a q y pos p c1 c2 (andl h') c3 (andr h')
@[elab_as_elim] theorem invS_ifs {t : E} {a b : Ss} (h : cS cx (.ifs t a b) x = true) (k : ∀ y xs ys p, cE cx t y = true → cSs cx a xs = true → cSs cx b ys = true → P (.If y xs ys p)) : P x :=
  atIf_k h fun y xs ys p h => k y xs ys p (andl (andl h)) (andr (andl h)) (andr h)
@[elab_as_elim] theorem invS_fors {t : Tgt} {e : E} {b : Ss} (h : cS cx (.fors t e b) x = true) (k : ∀ target iter body p, tgtIs cx t target = true → notSet iter = true → cE cx e iter = true → cSs cx b body = true → P (.For target iter body [] p)) : P x :=
  atFor_k h fun target iter body els p h => nil_k (P := fun els => P (.For target iter body els p)) (andl (andl (andl (andl h)))) (k target iter body p (andr (andl (andl (andl h)))) (andr (andl (andl h))) (andr (andl h)) (andr h))
@[elab_as_elim] theorem invS_fore {t : Tgt} {e : E} {b : Ss} (h : cS cx (.fore t e b) x = true) (k : ∀ es n tp q y pos body p, tgtIs cx t (.Tuple es n tp) = true → isGlob cx ("enumerate" : Str) = true → plainArg y = true → cE cx e y = true → cSs cx b body = true → P (.For (.Tuple es n tp) (.Call (.Name "enumerate" q) [y] [] pos) body [] p)) : P x :=
  atFor_k h fun target iter body els p h => nil_k (P := fun els => P (.For target iter body els p)) (andl (andl (andl (andl h)))) (onTuple_k (P := fun target => tgtIs cx t target = true → P (.For target iter body [] p)) (andr (andl h)) (fun es n tp _ ht =>
    onCall_k (P := fun iter => P (.For (.Tuple es n tp) iter body [] p)) (andr h) fun f xs ks pos h' => name_k (P := fun f ks => P (.For (.Tuple es n tp) (.Call f xs ks pos) body [] p)) (andl (andl (andl h'))) (andr (andl h')) fun q =>
      one_k (P := fun xs => P (.For (.Tuple es n tp) (.Call (.Name "enumerate" q) xs [] pos) body [] p)) (andr h') fun y h'' => k es n tp q y pos body p ht (andr (andl (andl h'))) (andl h'') (andr h'') (andr (andl (andl h)))) (andr (andl (andl (andl h)))))
@[elab_as_elim] theorem invS_whl {t : E} {b : Ss} (h : cS cx (.whl t b) x = true) (k : ∀ test body p, cE cx t test = true → cSs cx b body = true → P (.While test body [] p)) : P x :=
  atWhile_k h fun test body els p h => nil_k (P := fun els => P (.While test body els p)) (andl (andl h)) (k test body p (andr (andl h)) (andr h))
@[elab_as_elim] theorem invS_ret {e : E} (h : cS cx (.ret e) x = true) (k : ∀ y p, cE cx e y = true → P (.Return (some y) p)) : P x :=
  atReturn_k h fun v p h => som_k (P := fun v => P (.Return v p)) h fun y h => k y p h
end invs
@[elab_as_elim] theorem invSs_nil {cx : Cx} {P : List Stmt → Prop} {xs : List Stmt} (h : cSs cx .nil xs = true) (k : P []) : P xs := nil_k h k
@[elab_as_elim] theorem invSs_cons {cx : Cx} {P : List Stmt → Prop} {xs : List Stmt} {st : S} {ss : Ss} (h : cSs cx (.cons st ss) xs = true) (k : ∀ x xs, cS cx st x = true → cSs cx ss xs = true → P (x :: xs)) : P xs :=
  conc_k h fun x xs h => k x xs (andl h) (andr h)

theorem sole_of {target value : Expr} {env : Env} {n : Nat} (h : notComp value = true) : swapsWithSole [target] value n env = pure false := by
  show swapsWith value (some target) n env = pure false
  exact swapsWith_of h _ _
theorem sole_comp {elt : Expr} {gens : List Comprehension} {scope : Scope} {cpos p : Pos} {x : Str} {env : Env} {n : Nat} (hk : env.scope.kind = .function) :
    swapsWithSole [.Name x p] (.ListComp elt gens scope cpos) n env = pure (env.kindOf x == some .local && p.line == cpos.line && !(scope.names.any fun (n, k) => n == x && (k == .local || k == .cell))) := by
  show swapsWith (.ListComp elt gens scope cpos) (some (.Name x p)) n env = _
  exact swapsWith_comp hk n

theorem assign2 {ρ ρ' : List D} {i j : Nat} {d : D} {P : D → List D → Prop} (h : assignT ρ (.t [i, j]) d = some ρ') (k : ∀ d1 d2, P (.tup [d1, d2]) ((ρ.set i d1).set j d2)) : P d ρ' :=
  assignT_k (P := fun d => P d ρ') h fun ds h => match ds, h with
    | [], h => no_some h
    | [_], h => no_some h
    | [d1, d2], h => Option.some.inj h ▸ k d1 d2
    | _ :: _ :: _ :: _, h => no_some h
theorem two_k {cx : Cx} {x y : Str} {p q : Pos} {P : List Nat → Prop} : ∀ {is : List Nat}, nmsIs cx is [.Name x p, .Name y q] = true → (∀ i j, cx.vars.lookup x = some i → cx.vars.lookup y = some j → P [i, j]) → P is
  | [], h, _ => Bool.noConfusion h
  | [_], h, _ => Bool.noConfusion (andr h)
  | [i, j], h, k => k i j (eq_of_beq (andr (a := okName x) (andl h))) (eq_of_beq (andr (a := okName y) (andl (andr h))))
  | _ :: _ :: _ :: _, h, _ => Bool.noConfusion (andr (andr h))
theorem comp_parts {cx : Cx} {g : Gens} {elt : Expr} {gens : List Comprehension} {scope : Scope} {cp : Pos} (h : cE cx (.comp g) (.ListComp elt gens scope cp) = true) : compOk cx scope = true ∧ cG (cxComp cx scope) cx cx.base g gens elt = true :=
  have h' : (compOk cx scope && !gens.isEmpty && cG (cxComp cx scope) cx cx.base g gens elt) = true := h
  ⟨andl (andl h'), andr h'⟩
theorem comp_k {P : E → Prop} {e : E} (h : isComp e = true) (k : ∀ g, P (.comp g)) : P e := by
  cases e with
  | comp g => exact k g
  | _ => exact Bool.noConfusion h
theorem yes_k {P : Expr → Prop} {x : Expr} (h : (onName x fun _ _ => true) = true) (k : ∀ n p, P (.Name n p)) : P x := onName_k h fun n p _ => k n p
theorem asg2_k {target value : Expr} {P : Expr → Expr → Prop} (h : asg2 target value = true) (k : ∀ x p y q n tp v w n' vp, plainArg v = true → plainArg w = true → foldedForSure 8 v = true → foldedForSure 8 w = true → P (.Tuple [.Name x p, .Name y q] n tp) (.Tuple [v, w] n' vp)) : P target value :=
  onTuple_k (P := fun t => P t value) h fun ts n tp h => conc_k (P := fun ts => P (.Tuple ts n tp) value) (andl h) fun a ts h1 => one_k (P := fun ts => P (.Tuple (a :: ts) n tp) value) h1 fun b h1 =>
    yes_k (P := fun a => P (.Tuple [a, b] n tp) value) (andl h1) fun x p => yes_k (P := fun b => P (.Tuple [.Name x p, b] n tp) value) (andr h1) fun y q =>
    onTuple_k (P := fun v => P (.Tuple [.Name x p, .Name y q] n tp) v) (andr h) fun vs n' vp h => conc_k (P := fun vs => P _ (.Tuple vs n' vp)) h fun v vs h => one_k (P := fun vs => P _ (.Tuple (v :: vs) n' vp)) h fun w h =>
      k x p y q n tp v w n' vp (andl (andl (andl h))) (andr (andl (andl h))) (andr (andl h)) (andr h)
theorem asg3_k {cx : Cx} {target value : Expr} {P : Expr → Expr → Prop} (h : asg3 cx target value = true) (k : ∀ x p y q z r n tp v w u n' vp, cx.names.lookup y = some .cell → plainArg v = true → plainArg w = true → plainArg u = true → P (.Tuple [.Name x p, .Name y q, .Name z r] n tp) (.Tuple [v, w, u] n' vp)) : P target value :=
  onTuple_k (P := fun t => P t value) h fun ts n tp h => conc_k (P := fun ts => P (.Tuple ts n tp) value) (andl h) fun a ts h1 => conc_k (P := fun ts => P (.Tuple (a :: ts) n tp) value) h1 fun b ts h1 => one_k (P := fun ts => P (.Tuple (a :: b :: ts) n tp) value) h1 fun c h1 =>
    yes_k (P := fun a => P (.Tuple [a, b, c] n tp) value) (andl (andl h1)) fun x p => onName_k (P := fun b => P (.Tuple [.Name x p, b, c] n tp) value) (andr (andl h1)) fun y q hy => yes_k (P := fun c => P (.Tuple [.Name x p, .Name y q, c] n tp) value) (andr h1) fun z r =>
    onTuple_k (P := fun v => P (.Tuple [.Name x p, .Name y q, .Name z r] n tp) v) (andr h) fun vs n' vp h => conc_k (P := fun vs => P _ (.Tuple vs n' vp)) h fun v vs h => conc_k (P := fun vs => P _ (.Tuple (v :: vs) n' vp)) h fun w vs h => one_k (P := fun vs => P _ (.Tuple (v :: w :: vs) n' vp)) h fun u h =>
      k x p y q z r n tp v w u n' vp (eq_of_beq hy) (andl (andl h)) (andr (andl h)) (andr h)
theorem asgX_k {cx : Cx} {target value : Expr} {P : Expr → Expr → Prop} (h : asgX cx target value = true) (k : ∀ x p y q n tp v w n' vp, cx.names.lookup x = some .local → cx.names.lookup y = some .local → p.line = q.line → (x == y) = false → plainArg v = true → plainArg w = true →
    [v, w].all (foldedForSure 8) = false → [v, w].all (constantsAlone 8) = false → P (.Tuple [.Name x p, .Name y q] n tp) (.Tuple [v, w] n' vp)) : P target value :=
  onTuple_k (P := fun t => P t value) h fun ts n tp h => conc_k (P := fun ts => P (.Tuple ts n tp) value) h fun a ts h => one_k (P := fun ts => P (.Tuple (a :: ts) n tp) value) h fun b h =>
    onName_k (P := fun a => P (.Tuple [a, b] n tp) value) h fun x p h => onName_k (P := fun b => P (.Tuple [.Name x p, b] n tp) value) h fun y q h =>
    onTuple_k (P := fun v => P (.Tuple [.Name x p, .Name y q] n tp) v) (andr h) fun vs n' vp h' => conc_k (P := fun vs => P _ (.Tuple vs n' vp)) h' fun v vs h' => one_k (P := fun vs => P _ (.Tuple (v :: vs) n' vp)) h' fun w h' =>
      k x p y q n tp v w n' vp (eq_of_beq (andl (andl (andl (andl h))))) (eq_of_beq (andr (andl (andl (andl h))))) (eq_of_beq (andr (andl (andl h)))) (nb (andr (andl h))) (andl (andl (andl h'))) (andr (andl (andl h'))) (nb (andr (andl h'))) (nb (andr h'))
theorem asgC_k {target value : Expr} {P : Expr → Expr → Prop} (h : asgC target value = true) (k : ∀ x p elt t i f a rest scope cp, P (.Name x p) (.ListComp elt (⟨t, i, f, a⟩ :: rest) scope cp)) : P target value :=
  yes_k (P := fun t => P t value) (andl h) fun x p => onListComp_k (P := fun v => P (.Name x p) v) (andr h) fun elt gens scope cp h => match gens, h with
    | [], h => Bool.noConfusion h
    | ⟨t, i, f, a⟩ :: rest, _ => k x p elt t i f a rest scope cp

section asg
variable {t : Tgt} {target value : Expr} {pos : Pos} {cx : Cx} {loc : Nat → Loc} {env : Env} {ρ ρ' : List D} {γ : Gh} {s : Shared} {m m₁ : Mem} {d : D}
/-- x = [.. for ..] -/
theorem asg_comp {x : Str} {p cpos : Pos} {elt tt it : Expr} {fs : List Expr} {rest : List Comprehension} {scope : Scope} {l : List D} (hh : A.handled = none) (X : EnvOk cx loc env) (V : SInv C γ loc ρ s) (ht : tgtIs cx t (.Name x p) = true) (ha : assignT ρ t (.lst l) = some ρ')
    (hco : CompOf C A cx loc env γ s ρ elt (⟨tt, it, fs, 0⟩ :: rest) scope cpos l m₁) : GivesX C A loc γ s (exec (.Assign [.Name x p] (.ListComp elt (⟨tt, it, fs, 0⟩ :: rest) scope cpos) pos) env) .next ρ' m₁ := by
  cases hsw : (env.kindOf x == some .local && p.line == cpos.line && !(scope.names.any fun (n', k) => n' == x && (k == .local || k == .cell))) with
  | true =>
    cases t with
    | t is => exact Bool.noConfusion ht
    | v i =>
      cases Option.some.inj ha
      refine wpAny_mono (comp_asg (j := i) (spos := pos) X.fn (X.var x i (eq_of_beq (andr (a := okName x) ht))) (by rw [swapsWith_comp X.fn, hsw]) hco) (fun f s' z => ?_) fun _ _ e => e
      obtain ⟨rfl, γ', I', S', V'⟩ := z
      exact ⟨γ', I', S', V', rfl⟩
  | false => exact asg_plain hh X V ht ((sole_comp X.fn).trans (congrArg _ hsw)) rfl (comp_go hco) ha
/-- a, b = .., .. from the end -/
theorem asg_back {x y : Str} {p q tp vp : Pos} {n n' : Nat} {v w : Expr} (hh : A.handled = none) (X : EnvOk cx loc env) (V : SInv C γ loc ρ s) (ht : tgtIs cx t (.Tuple [.Name x p, .Name y q] n tp) = true) (hnd : t.slots.Nodup) (ha : assignT ρ t d = some ρ')
    (hw : swappedStores [.Tuple [.Name x p, .Name y q] n tp] (.Tuple [v, w] n' vp) env = pure (some [x, y])) (hv : Gives C A γ s (eval (.Tuple [v, w] n' vp) env) d m₁) :
    GivesX C A loc γ s (exec (.Assign [.Tuple [.Name x p, .Name y q] n tp] (.Tuple [v, w] n' vp) pos) env) .next ρ' m₁ := by
  cases t with
  | v i => exact Bool.noConfusion ht
  | t is => exact two_k (P := fun is => (Tgt.t is).slots.Nodup → assignT ρ (.t is) d = some ρ' → _) ht (fun i j hx hy hnd ha => assign2 (P := fun d ρ' => Gives C A γ s (eval (.Tuple [v, w] n' vp) env) d m₁ → GivesX C A loc γ s _ .next ρ' m₁) ha
      (fun _ _ hv => asg_swapped hh X V hx hy (fun q => (List.nodup_cons.mp hnd).1 (q ▸ List.mem_cons_self)) rfl hw hv) hv) hnd ha
end asg
theorem asg_sound {t : Tgt} {e : E} {target value : Expr} {pos : Pos} {cx : Cx} {loc : Nat → Loc} {env : Env} {ρ ρ' : List D} {γ : Gh} {s : Shared} {m m₁ : Mem} {d : D} (O : AllOk C) (R : Room A (k + 3)) (ok : OkE (Sound C (k + 3)) e)
    (ht : tgtIs cx t target = true) (hc : cE cx e value = true) (hnd : t.slots.Nodup) (hk : (asg1 target value || asg2 target value || asg3 cx target value || asgX cx target value || (isComp e && asgC target value)) = true)
    (X : EnvOk cx loc env) (I : MInv C γ m s) (V : SInv C γ loc ρ s) (h : ev e ρ m = some (d, m₁)) (ha : assignT ρ t d = some ρ') : GivesX C A loc γ s (exec (.Assign [target] value pos) env) .next ρ' m₁ := by
  have hv := sound_E O R e ok hc X I V h
  rcases or5 hk with q | q | q | q | q
  · refine asg_any R.1 X V ht (andl q) ?_ hv ha
    rcases Bool.or_eq_true_iff.mp (andr q) with q | q
    · exact .inl q
    · exact (tgtIs.kind ht).elim .inr fun ⟨_, _, _, e⟩ => by subst e; exact Bool.noConfusion q
  · exact asg2_k (P := fun target value => tgtIs cx t target = true → Gives C A γ s (eval value env) d m₁ → GivesX C A loc γ s (exec (.Assign [target] value pos) env) .next ρ' m₁) q
      (fun _ _ _ _ _ _ _ _ _ _ a1 a2 f1 f2 ht hv => asg_plain R.1 X V ht (sole_of rfl) (swapA X.fn f1 f2 a1 a2) hv ha) ht hv
  · exact asg3_k (P := fun target value => tgtIs cx t target = true → Gives C A γ s (eval value env) d m₁ → GivesX C A loc γ s (exec (.Assign [target] value pos) env) .next ρ' m₁) q
      (fun _ _ _ _ _ _ _ _ _ _ _ _ _ hy a1 a2 a3 ht hv => asg_plain R.1 X V ht (sole_of rfl) (swapB X.fn (X.kind _ _ hy (by decide)) a1 a2 a3) hv ha) ht hv
  · exact asgX_k (P := fun target value => tgtIs cx t target = true → Gives C A γ s (eval value env) d m₁ → GivesX C A loc γ s (exec (.Assign [target] value pos) env) .next ρ' m₁) q
      (fun _ _ _ _ _ _ _ _ _ _ k1 k2 hp hxy a1 a2 hf hcn ht hv => asg_back R.1 X V ht hnd ha (swapC X.fn (X.kind _ _ k1 (by decide)) (X.kind _ _ k2 (by decide)) hp hxy a1 a2 hf hcn) hv) ht hv
  · exact asgC_k (P := fun target value => cE cx e value = true → tgtIs cx t target = true → GivesX C A loc γ s (exec (.Assign [target] value pos) env) .next ρ' m₁) (andr q)
      (fun _ _ _ _ _ _ _ _ _ _ hc ht => comp_k (P := fun e => OkE (Sound C (k + 3)) e → cE cx e _ = true → ev e ρ m = some (d, m₁) → _) (andl q) (fun g ok hc h => kev_comp (P := fun d m₁ => assignT ρ t d = some ρ' → GivesX C A loc γ s _ .next ρ' m₁) h (fun l m₂ h1 hb ha => by
        obtain ⟨c1, c2⟩ := comp_parts hc
        cases cG_async c2 0 _ rfl
        exact asg_comp R.1 X V ht ha (sound_C O R g ok c1 rfl c2 X I V h1 hb)) ha) ok hc h) hc ht

/-- from here on a slot's object is frozen -/
theorem SlotOk.map {γ γ' : Gh} {h : Heap} {d r : D} {l : Loc} (k : SlotOk C γ h d l) (nu : d ≠ .undef) (hr : ∀ v, Rel C γ d v → Rel C γ' r v) : SlotOk C γ' h r l := by
  cases l with
  | no => exact absurd k nu
  | ns L y =>
    obtain ⟨mm, hn, h⟩ := k
    exact ⟨mm, hn, .inr (h.elim (absurd · nu) fun ⟨v, e, rv⟩ => ⟨v, e, hr v rv⟩)⟩
  | cell c =>
    obtain ⟨w, hn, h⟩ := k
    exact ⟨w, hn, .inr (h.elim (absurd · nu) fun ⟨v, e, rv⟩ => ⟨v, e, hr v rv⟩)⟩
theorem frzv_go {loc : Nat → Loc} {ρ : List D} {γ : Gh} {s : Shared} {m m₁ : Mem} {i : Nat} {d r : D} (I : MInv C γ m s) (V : SInv C γ loc ρ s) (h1 : ρ[i]? = some d) (h2 : freezeD m d = some (r, m₁)) :
    ∃ γ₁, MInv C γ₁ m₁ s ∧ Step NoW γ s γ₁ s ∧ SInv C γ₁ loc (ρ.set i r) s := by
  obtain ⟨γ₁, J, S, nu, hr⟩ := freeze_ok I h2
  have V' := V.step S
  refine ⟨γ₁, J, S, fun q => ?_, V'.inj, V'.sep⟩
  rw [set_getD]
  by_cases hq : i = q ∧ i < ρ.length
  · rw [if_pos hq]
    have hs := V.slot i
    rw [h1] at hs
    exact hq.1 ▸ SlotOk.map hs nu hr
  · rw [if_neg hq]; exact V'.slot q

mutual
theorem sound_S (O : AllOk C) (R : Room A (k + 3)) : (st : S) → SS C A k st
  | .any => fun _ _ _ _ _ h => no_some h
  | .asg t e => fun ok hc X I V h => invS_asg hc fun _ _ _ c1 c2 c3 c4 => kex_asg h fun _ _ _ h1 h2 => asg_sound O R ok c1 c2 c3 c4 X I V h1 h2
  | .setI o i e => fun ok hc X I V h => invS_setI hc fun _ _ _ _ _ c1 c2 c3 c4 => kex_setI h fun _ _ _ _ _ _ _ h1 h2 h3 h4 => setI_go c1 V (sound_E O R e ok.2.2 c4 X I V h1) (fun _ _ I₁ S₁ => sound_E O R o ok.1 c2 X I₁ (V.step S₁) h2) (fun _ _ I₁ S₁ => sound_E O R i ok.2.1 c3 X I₁ (V.step S₁) h3) h4
  | .app o e => fun ok hc X I V h => invS_app hc fun _ _ _ _ _ c1 c2 c3 c4 c5 => kex_app h fun _ _ _ _ _ h1 hl h2 h3 => expr_go X rfl V (app_go c1 c2 c3 (sound_E O R o ok.1 c4 X I V h1) hl (fun _ _ I₁ S₁ => sound_E O R e ok.2 c5 X I₁ (V.step S₁) h2) h3)
  | .ext o e => fun ok hc X I V h => invS_ext hc fun _ _ _ _ _ c1 c2 c3 c4 c5 => kex_ext h fun _ _ _ _ _ h1 hl h2 h3 => expr_go X rfl V (ext_go c1 c2 c3 (sound_E O R o ok.1 c4 X I V h1) hl (fun _ _ I₁ S₁ => sound_E O R e ok.2 c5 X I₁ (V.step S₁) h2) h3)
  | .ifs t a b => fun ok hc X I V h => invS_ifs hc fun _ _ _ _ c1 c2 c3 => kex_ifs h (fun _ h1 h => if_go (b := true) (sound_T O R t ok.1 c1 X I V h1) V (fun _ _ I₁ _ V₁ => sound_Ss O R a ok.2.1 c2 X I₁ V₁ h))
      (fun _ h1 h => if_go (b := false) (sound_T O R t ok.1 c1 X I V h1) V (fun _ _ I₁ _ V₁ => sound_Ss O R b ok.2.2 c3 X I₁ V₁ h))
  | .fors t e b => fun ok hc X I V h => invS_fors hc fun _ _ _ _ c1 c2 c3 c4 => kex_fors h fun _ _ _ h1 h2 h => for_go R.1 X V c1 (notSet_fold c2) (sound_E O R e ok.1 c3 X I V h1) h2 (fun _ _ _ _ _ _ _ I V e => sound_Ss O R b ok.2 c4 X I V e) h
  | .fore t e b => fun ok hc X I V h => invS_fore hc fun _ _ _ _ _ _ _ _ c1 c2 c3 c4 c5 => kex_fore h fun _ _ h1 h => fore_go R.1 O.ctx X I V c1 ⟨_, _, _, rfl⟩ (glob_k c2).2 c3 (sound_E O R e ok.1 c4 X I V h1) (fun _ _ _ _ _ _ _ I V e => sound_Ss O R b ok.2 c5 X I V e) h
  | .whl t b => fun ok hc X I V h => invS_whl hc fun _ _ _ c1 c2 => while_go (fun _ _ _ _ _ _ I V e => sound_T O R t ok.1 c1 X I V e) (fun _ _ _ _ _ _ _ I V e => sound_Ss O R b ok.2 c2 X I V e) I V h
  | .ret e => fun ok hc X I V h => invS_ret hc fun _ _ c1 => kex_ret h fun _ _ h1 => ret_go V (sound_E O R e ok c1 X I V h1)
theorem sound_Ss (O : AllOk C) (R : Room A (k + 3)) : (ss : Ss) → SSs C A k ss
  | .nil => fun _ hc _ I V h => invSs_nil hc (kexs_nil h (nil_go I V))
  | .frz i ss => fun ok hc X I V h => kexs_frz h fun _ _ _ h1 h2 h => by
      obtain ⟨γ₁, I₁, S₁, V₁⟩ := frzv_go I V h1 h2
      exact (sound_Ss O R ss ok hc X I₁ V₁ h).from S₁.weaken
  | .cons st ss => fun ok hc X I V h => invSs_cons hc fun _ _ c1 c2 => kexs_cons h (fun _ _ h1 h => cons_go (sound_S O R st ok.1 c1 X I V h1) (fun _ _ I₁ _ V₁ => sound_Ss O R ss ok.2 c2 X I₁ V₁ h)) (fun _ _ _ h1 => cons_ret (sound_S O R st ok.1 c1 X I V h1))
end

/-- a def of the module does what its text says -/
theorem def_sound {name : Str} {np : Nat} {vars : List Str} {scope : Scope} {body : List Stmt} {bodyS : Ss} {n : Nat} (O : AllOk C) (F : FnAt C name np vars scope body) (hc : cSs (fnCx scope vars) bodyS body = true) (ok : OkSs (Sound C (k + 3)) bodyS) :
    Sound C (k + 3 + 1) name (runF np n bodyS) :=
  fn_sound O.ctx F fun A γ s m loc env ρ fl ρ' m' R X I V e => sound_Ss O R bodyS ok hc X I V e
end Mine

set_option maxRecDepth 100000
namespace Mine
open PySem

noncomputable def V_shape_of : List Str := ["op", "rest"]
noncomputable def T_shape_of : Ss := .cons (.ifs (.cmp .isIn (.var 0) (.tup (.cons (.cst (.str "jump_if")) (.cons (.cst (.str "jump_unless")) (.cons (.cst (.str "jump_null")) (.cons (.cst (.str "jump_set")) (.cons (.cst (.str "iter")) .nil))))))) (.cons (.ret (.tup (.cons (.cst (.str "x")) (.cons (.cst (.str "j")) .nil)))) .nil) .nil) (.cons (.ifs (.cmp .isIn (.var 0) (.tup (.cons (.cst (.str "jump")) (.cons (.cst (.str "catch")) .nil)))) (.cons (.ret (.tup (.cons (.cst (.str "-")) (.cons (.cst (.str "j")) .nil)))) .nil) .nil) (.cons (.ifs (.cmp .isIn (.var 0) (.tup (.cons (.cst (.str "move")) (.cons (.cst (.str "unary")) (.cons (.cst (.str "cast")) (.cons (.cst (.str "bool")) (.cons (.cst (.str "text")) (.cons (.cst (.str "echo")) (.cons (.cst (.str "unsilence")) (.cons (.cst (.str "throw")) (.cons (.cst (.str "match_fault")) (.cons (.cst (.str "var")) (.cons (.cst (.str "has_var")) (.cons (.cst (.str "ref_call")) (.cons (.cst (.str "call_value")) (.cons (.cst (.str "clone")) (.cons (.cst (.str "yield_from")) .nil))))))))))))))))) (.cons (.ret (.tup (.cons (.cst (.str "x")) (.cons (.cst (.str "-")) .nil)))) .nil) .nil) (.cons (.ifs (.cmp .isIn (.var 0) (.tup (.cons (.cst (.str "binary")) (.cons (.cst (.str "elem")) (.cons (.cst (.str "prop")) (.cons (.cst (.str "has_elem")) (.cons (.cst (.str "has_prop")) (.cons (.cst (.str "list_elem")) (.cons (.cst (.str "call_method")) .nil))))))))) (.cons (.ret (.tup (.cons (.cst (.str "xx")) (.cons (.cst (.str "-")) .nil)))) .nil) .nil) (.cons (.ifs (.cmp .isIn (.var 0) (.tup (.cons (.cst (.str "do_call")) (.cons (.cst (.str "callable")) (.cons (.cst (.str "iter_end")) (.cons (.cst (.str "end_finally")) .nil)))))) (.cons (.ret (.tup (.cons (.cst (.str "n")) (.cons (.cst (.str "-")) .nil)))) .nil) .nil) (.cons (.ifs (.cmp .isIn (.var 0) (.tup (.cons (.cst (.str "incdec")) (.cons (.cst (.str "ref")) (.cons (.cst (.str "unset")) .nil))))) (.cons (.ret (.tup (.cons (.cst (.str "T")) (.cons (.cst (.str "-")) .nil)))) .nil) .nil) (.cons (.ifs (.cmp .isIn (.var 0) (.tup (.cons (.cst (.str "send")) (.cons (.cst (.str "send_call")) (.cons (.cst (.str "send_fixed")) .nil))))) (.cons (.ret (.tup (.cons (.cst (.str "n")) (.cons (.cst (.str "x-")) .nil)))) .nil) .nil) (.cons (.ifs (.cmp .isIn (.var 0) (.tup (.cons (.cst (.str "static")) (.cons (.cst (.str "has_static")) (.cons (.cst (.str "call_static")) .nil))))) (.cons (.ret (.tup (.cons (.cst (.str "Cx")) (.cons (.cst (.str "-")) .nil)))) .nil) .nil) (.cons (.ifs (.cmp .isIn (.var 0) (.tup (.cons (.cst (.str "cconst")) (.cons (.cst (.str "fetch_class")) .nil)))) (.cons (.ret (.tup (.cons (.cst (.str "C")) (.cons (.cst (.str "-")) .nil)))) .nil) .nil) (.cons (.ifs (.cmp .isIn (.var 0) (.tup (.cons (.cst (.str "item_spread")) (.cons (.cst (.str "send_spread")) .nil)))) (.cons (.ret (.tup (.cons (.cst (.str "n")) (.cons (.cst (.str "x")) .nil)))) .nil) .nil) (.cons (.asg (.v 1) (.dic (.cons (.cst (.str "write")) (.tup (.cons (.cst (.str "T")) (.cons (.cst (.str "x")) .nil))) (.cons (.cst (.str "write_op")) (.tup (.cons (.cst (.str "T")) (.cons (.cst (.str "-x")) .nil))) (.cons (.cst (.str "bind")) (.tup (.cons (.cst (.str "T")) (.cons (.cst (.str "n")) .nil))) (.cons (.cst (.str "item")) (.tup (.cons (.cst (.str "n")) (.cons (.cst (.str "?x")) .nil))) (.cons (.cst (.str "item_ref")) (.tup (.cons (.cst (.str "n")) (.cons (.cst (.str "?n")) .nil))) (.cons (.cst (.str "join")) (.tup (.cons (.cst (.str "x*")) (.cons (.cst (.str "-")) .nil))) (.cons (.cst (.str "return")) (.tup (.cons (.cst (.str "?")) (.cons (.cst (.str "-")) .nil))) (.cons (.cst (.str "send_place")) (.tup (.cons (.cst (.str "n")) (.cons (.cst (.str "T-")) .nil))) (.cons (.cst (.str "call_new")) (.tup (.cons (.cst (.str "C")) (.cons (.cst (.str "w")) .nil))) (.cons (.cst (.str "instanceof")) (.tup (.cons (.cst (.str "xC")) (.cons (.cst (.str "-")) .nil))) (.cons (.cst (.str "iter_ref")) (.tup (.cons (.cst (.str "T")) (.cons (.cst (.str "j")) .nil))) (.cons (.cst (.str "next")) (.tup (.cons (.cst (.str "nw")) (.cons (.cst (.str "j")) .nil))) (.cons (.cst (.str "call_finally")) (.tup (.cons (.cst (.str "w")) (.cons (.cst (.str "j")) .nil))) (.cons (.cst (.str "discard")) (.tup (.cons (.cst (.str "w")) (.cons (.cst (.str "-")) .nil))) (.cons (.cst (.str "declare_const")) (.tup (.cons (.cst (.str "-")) (.cons (.cst (.str "x")) .nil))) (.cons (.cst (.str "yield")) (.tup (.cons (.cst (.str "??")) (.cons (.cst (.str "-")) .nil))) .nil)))))))))))))))))) (.cons (.ret (.get (.var 1) (.var 0) (.tup (.cons (.cst (.str "-")) (.cons (.cst (.str "-")) .nil))))) .nil)))))))))))
noncomputable def F_shape_of : Fn := runF 1 2 T_shape_of

noncomputable def V_place_reads0 : List Str := ["place", "last"]
noncomputable def T_place_reads0 : Ss := .cons (.ifs (.cmp .isIn (.idx (.var 0) (.cst (.int 0))) (.tup (.cons (.cst (.str "var")) (.cons (.cst (.str "value")) .nil)))) (.cons (.ret (.lst (.cons (.idx (.var 0) (.cst (.int 1))) .nil))) .nil) .nil) (.cons (.ifs (.cmp .eq (.idx (.var 0) (.cst (.int 0))) (.cst (.str "sprop"))) (.cons (.ret (.bin .add .any (.lst (.cons (.idx (.var 0) (.cst (.int 2))) .nil)))) .nil) .nil) (.cons (.ifs (.cmp .isIn (.idx (.var 0) (.cst (.int 0))) (.tup (.cons (.cst (.str "dim")) (.cons (.cst (.str "prop")) .nil)))) (.cons (.asg (.v 1) (.ife (.cmp .eq (.idx (.idx (.var 0) (.cst (.int 2))) (.cst (.int 0))) (.cst (.str "append"))) (.lst .nil) (.lst (.cons (.idx (.var 0) (.cst (.int 2))) .nil)))) (.cons (.ret (.bin .add .any (.var 1))) .nil)) .nil) (.cons (.ret (.lst .nil)) .nil)))
noncomputable def F_place_reads0 : Fn := runF 1 2 T_place_reads0

noncomputable def V_place_reads : List Str := ["place", "last"]
noncomputable def T_place_reads : Ss := .cons (.ifs (.cmp .isIn (.idx (.var 0) (.cst (.int 0))) (.tup (.cons (.cst (.str "var")) (.cons (.cst (.str "value")) .nil)))) (.cons (.ret (.lst (.cons (.idx (.var 0) (.cst (.int 1))) .nil))) .nil) .nil) (.cons (.ifs (.cmp .eq (.idx (.var 0) (.cst (.int 0))) (.cst (.str "sprop"))) (.cons (.ret (.bin .add .any (.lst (.cons (.idx (.var 0) (.cst (.int 2))) .nil)))) .nil) .nil) (.cons (.ifs (.cmp .isIn (.idx (.var 0) (.cst (.int 0))) (.tup (.cons (.cst (.str "dim")) (.cons (.cst (.str "prop")) .nil)))) (.cons (.asg (.v 1) (.ife (.cmp .eq (.idx (.idx (.var 0) (.cst (.int 2))) (.cst (.int 0))) (.cst (.str "append"))) (.lst .nil) (.lst (.cons (.idx (.var 0) (.cst (.int 2))) .nil)))) (.cons (.ret (.bin .add (.call "place_reads" F_place_reads0 (.cons (.idx (.var 0) (.cst (.int 1))) .nil)) (.var 1))) .nil)) .nil) (.cons (.ret (.lst .nil)) .nil)))
noncomputable def F_place_reads : Fn := runF 1 2 T_place_reads

noncomputable def V_part_reads0 : List Str := ["shape", "part", "found", "at"]
noncomputable def T_part_reads0 : Ss := .cons (.ifs (.or (.cons (.cmp .isIn (.var 0) (.tup (.cons (.cst (.str "-")) (.cons (.cst (.str "w")) (.cons (.cst (.str "j")) (.cons (.cst (.str "")) .nil)))))) (.cons (.cmp .is (.var 1) (.cst .none)) .nil))) (.cons (.ret (.lst .nil)) .nil) .nil) (.cons (.ifs (.cmp .eq (.var 0) (.cst (.str "x*"))) (.cons (.ret (.bi .list (.var 1))) .nil) .nil) (.cons (.ifs (.cmp .gt (.bi .len (.var 0)) (.cst (.int 1))) (.cons (.asg (.v 2) (.lst .nil)) (.cons (.fors (.v 3) (.bi .range1 (.bi .len (.var 0))) (.cons (.asg (.v 2) (.bin .add (.var 2) .any)) .nil)) (.cons (.ret (.var 2)) .nil))) .nil) (.cons (.ifs (.cmp .eq (.var 0) (.cst (.str "T"))) (.cons (.ret (.call "place_reads" F_place_reads (.cons (.var 1) .nil))) .nil) .nil) (.cons (.ifs (.cmp .eq (.var 0) (.cst (.str "n"))) (.cons (.ret (.lst (.cons (.tup (.cons (.cst (.str "tmp")) (.cons (.var 1) .nil))) .nil))) .nil) .nil) (.cons (.ifs (.and (.cons (.cmp .eq (.var 0) (.cst (.str "C"))) (.cons (.cmp .isIn (.idx (.var 1) (.cst (.int 0))) (.tup (.cons (.cst (.str "class")) (.cons (.cst (.str "decl")) .nil)))) .nil))) (.cons (.ret (.lst .nil)) .nil) .nil) (.cons (.ret (.lst (.cons (.var 1) .nil))) .nil))))))
noncomputable def F_part_reads0 : Fn := runF 2 4 T_part_reads0

noncomputable def V_part_reads : List Str := ["shape", "part", "found", "at"]
noncomputable def T_part_reads : Ss := .cons (.ifs (.or (.cons (.cmp .isIn (.var 0) (.tup (.cons (.cst (.str "-")) (.cons (.cst (.str "w")) (.cons (.cst (.str "j")) (.cons (.cst (.str "")) .nil)))))) (.cons (.cmp .is (.var 1) (.cst .none)) .nil))) (.cons (.ret (.lst .nil)) .nil) .nil) (.cons (.ifs (.cmp .eq (.var 0) (.cst (.str "x*"))) (.cons (.ret (.bi .list (.var 1))) .nil) .nil) (.cons (.ifs (.cmp .gt (.bi .len (.var 0)) (.cst (.int 1))) (.cons (.asg (.v 2) (.lst .nil)) (.cons (.fors (.v 3) (.bi .range1 (.bi .len (.var 0))) (.cons (.asg (.v 2) (.bin .add (.var 2) (.call "part_reads" F_part_reads0 (.cons (.idx (.var 0) (.var 3)) (.cons (.idx (.var 1) (.var 3)) .nil))))) .nil)) (.cons (.ret (.var 2)) .nil))) .nil) (.cons (.ifs (.cmp .eq (.var 0) (.cst (.str "T"))) (.cons (.ret (.call "place_reads" F_place_reads (.cons (.var 1) .nil))) .nil) .nil) (.cons (.ifs (.cmp .eq (.var 0) (.cst (.str "n"))) (.cons (.ret (.lst (.cons (.tup (.cons (.cst (.str "tmp")) (.cons (.var 1) .nil))) .nil))) .nil) .nil) (.cons (.ifs (.and (.cons (.cmp .eq (.var 0) (.cst (.str "C"))) (.cons (.cmp .isIn (.idx (.var 1) (.cst (.int 0))) (.tup (.cons (.cst (.str "class")) (.cons (.cst (.str "decl")) .nil)))) .nil))) (.cons (.ret (.lst .nil)) .nil) .nil) (.cons (.ret (.lst (.cons (.var 1) .nil))) .nil))))))
noncomputable def F_part_reads : Fn := runF 2 4 T_part_reads

noncomputable def V_reads : List Str := ["row", "first", "second"]
noncomputable def T_reads : Ss := .cons (.asg (.t [1, 2]) (.call "shape_of" F_shape_of (.cons (.idx (.var 0) (.cst (.int 0))) .nil))) (.cons (.ret (.bin .add (.call "part_reads" F_part_reads (.cons (.var 1) (.cons (.idx (.var 0) (.cst (.int 2))) .nil))) (.call "part_reads" F_part_reads (.cons (.var 2) (.cons (.idx (.var 0) (.cst (.int 3))) .nil))))) .nil)
noncomputable def F_reads : Fn := runF 1 3 T_reads

noncomputable def V_target_of : List Str := ["row", "jumps"]
noncomputable def T_target_of : Ss := .cons (.asg (.v 1) (.tup (.cons (.cst (.str "jump")) (.cons (.cst (.str "jump_if")) (.cons (.cst (.str "jump_unless")) (.cons (.cst (.str "jump_null")) (.cons (.cst (.str "jump_set")) (.cons (.cst (.str "iter")) (.cons (.cst (.str "iter_ref")) (.cons (.cst (.str "next")) (.cons (.cst (.str "call_finally")) (.cons (.cst (.str "catch")) .nil)))))))))))) (.cons (.ret (.ife (.cmp .isIn (.idx (.var 0) (.cst (.int 0))) (.var 1)) (.idx (.var 0) (.cst (.int 3))) (.cst .none))) .nil)
noncomputable def F_target_of : Fn := runF 1 2 T_target_of

noncomputable def V_with_target : List Str := ["row", "target"]
noncomputable def T_with_target : Ss := .cons (.ret (.tup (.cons (.idx (.var 0) (.cst (.int 0))) (.cons (.idx (.var 0) (.cst (.int 1))) (.cons (.idx (.var 0) (.cst (.int 2))) (.cons (.var 1) .nil)))))) .nil
noncomputable def F_with_target : Fn := runF 2 2 T_with_target

noncomputable def V_nexts : List Str := ["code", "at", "row", "target", "found", "made", "place"]
noncomputable def T_nexts : Ss := .cons (.asg (.v 2) (.idx (.attr (.var 0) 0) (.var 1))) (.cons (.asg (.v 3) (.call "target_of" F_target_of (.cons (.var 2) .nil))) (.cons (.asg (.v 4) (.lstc .nil)) (.cons (.ifs (.cmp .notIn (.idx (.var 2) (.cst (.int 0))) (.tup (.cons (.cst (.str "jump")) (.cons (.cst (.str "call_finally")) (.cons (.cst (.str "return")) (.cons (.cst (.str "throw")) (.cons (.cst (.str "match_fault")) (.cons (.cst (.str "left")) .nil)))))))) (.cons (.app (.var 4) (.bin .add (.var 1) (.cst (.int 1)))) .nil) .nil) (.cons (.ifs (.cmp .isNot (.var 3) (.cst .none)) (.cons (.app (.var 4) (.var 3)) .nil) .nil) (.cons (.ifs (.cmp .eq (.idx (.var 2) (.cst (.int 0))) (.cst (.str "end_finally"))) (.cons .any .nil) .nil) (.cons (.asg (.v 5) (.lstc .nil)) (.frz 4 (.cons (.fors (.v 6) (.var 4) (.cons (.ifs (.and (.cons (.cmp .lt (.var 6) (.bi .len (.attr (.var 0) 0))) (.cons (.cmp .notIn (.var 6) (.var 5)) .nil))) (.cons (.app (.var 5) (.var 6)) .nil) .nil) .nil)) (.frz 5 (.cons (.ret (.var 5)) .nil))))))))))
noncomputable def F_nexts : Fn := runF 2 7 T_nexts

noncomputable def V_catchers : List Str := ["code", "at", "found", "is_thrown", "is_stopped", "turn", "first", "catch", "final", "end", "ret"]
noncomputable def T_catchers : Ss := .cons (.asg (.v 2) (.lstc .nil)) (.cons (.asg (.v 3) (.cst (.bool true))) (.cons (.asg (.v 4) (.cmp .isIn (.idx (.idx (.attr (.var 0) 0) (.var 1)) (.cst (.int 0))) (.tup (.cons (.cst (.str "yield")) (.cons (.cst (.str "yield_from")) (.cons (.cst (.str "end_finally")) .nil)))))) (.cons (.fors (.v 5) (.range3 (.bin .sub (.bi .len (.attr (.var 0) 3)) (.cst (.int 1))) (.cst (.int (-1))) (.cst (.int (-1)))) (.cons (.asg (.t [6, 7, 8, 9, 10]) (.idx (.attr (.var 0) 3) (.var 5))) (.cons (.ifs (.and (.cons (.cmp .isNot (.var 7) (.cst .none)) (.cons (.cmp2 (.var 6) .le (.var 1) .lt (.var 7)) .nil))) (.cons (.ifs (.var 3) (.cons (.app (.var 2) (.var 7)) .nil) .nil) (.cons (.asg (.v 3) (.cst (.bool false))) .nil)) .nil) (.cons (.ifs (.and (.cons (.cmp .isNot (.var 8) (.cst .none)) (.cons (.cmp2 (.var 6) .le (.var 1) .lt (.var 8)) .nil))) (.cons (.ifs (.or (.cons (.var 3) (.cons (.var 4) .nil))) (.cons (.app (.var 2) (.var 8)) .nil) .nil) (.cons (.asg (.v 3) (.cst (.bool false))) (.cons (.asg (.v 4) (.cst (.bool false))) .nil))) .nil) .nil)))) (.frz 2 (.cons (.ret (.var 2)) .nil)))))
noncomputable def F_catchers : Fn := runF 2 11 T_catchers

noncomputable def V_moved : List Str := ["numbers", "place"]
noncomputable def T_moved : Ss := .cons (.ret (.ife (.cmp .is (.var 1) (.cst .none)) (.cst .none) (.idx (.var 0) (.var 1)))) .nil
noncomputable def F_moved : Fn := runF 2 2 T_moved

noncomputable def V_kept : List Str := ["code", "keep", "numbers", "rows", "at", "made", "row", "target", "trys", "places", "lives", "temp", "first", "behind", "sort"]
noncomputable def T_kept : Ss := .cons (.asg (.v 2) (.lstc .nil)) (.cons (.asg (.v 3) (.lstc .nil)) (.cons (.fors (.v 4) (.bi .range1 (.bi .len (.attr (.var 0) 0))) (.cons (.app (.var 2) (.bi .len (.var 3))) (.cons (.ifs (.idx (.var 1) (.var 4)) (.cons (.app (.var 3) (.idx (.attr (.var 0) 0) (.var 4))) .nil) .nil) .nil))) (.cons (.app (.var 2) (.bi .len (.var 3))) (.cons (.asg (.v 5) (.lstc .nil)) (.frz 3 (.cons (.fors (.v 6) (.var 3) (.cons (.asg (.v 7) (.call "target_of" F_target_of (.cons (.var 6) .nil))) (.cons (.app (.var 5) (.ife (.cmp .is (.var 7) (.cst .none)) (.var 6) (.call "with_target" F_with_target (.cons (.var 6) (.cons (.idx (.var 2) (.var 7)) .nil))))) .nil))) (.cons (.asg (.v 8) (.lstc .nil)) (.cons (.fors (.v 9) (.attr (.var 0) 3) (.cons (.app (.var 8) (.bin .add (.bi .tuple (.comp (.cons (.v 15) (.sub (.var 9) 4) .nil (.done (.call "moved" F_moved (.cons (.var 2) (.cons (.var 15) .nil))))))) (.tup (.cons (.idx (.var 9) (.cst (.int 4))) .nil)))) .nil)) (.cons (.asg (.v 10) (.lstc .nil)) (.cons (.fors (.t [11, 12, 13, 14]) (.attr (.var 0) 4) (.cons (.app (.var 10) (.tup (.cons (.var 11) (.cons (.idx (.var 2) (.var 12)) (.cons (.idx (.var 2) (.var 13)) (.cons (.var 14) .nil)))))) .nil)) (.frz 5 (.frz 8 (.frz 10 (.cons (.ret (.new (.cons (.var 5) (.cons (.attr (.var 0) 1) (.cons (.attr (.var 0) 2) (.cons (.var 8) (.cons (.var 10) .nil))))))) .nil))))))))))))))
noncomputable def F_kept : Fn := runF 2 16 T_kept

noncomputable def V_reached : List Str := ["code", "seen", "left", "at"]
noncomputable def T_reached : Ss := .cons (.asg (.v 1) .dicc) (.cons (.asg (.v 2) (.ife (.cmp .gt (.bi .len (.attr (.var 0) 0)) (.cst (.int 0))) (.lstc (.cons (.cst (.int 0)) .nil)) (.lstc .nil))) (.cons (.whl (.cmp .gt (.bi .len (.var 2)) (.cst (.int 0))) (.cons (.asg (.v 3) (.pop (.var 2))) (.cons (.ifs (.cmp .notIn (.var 3) (.var 1)) (.cons (.setI (.var 1) (.var 3) (.cst (.bool true))) (.cons (.ext (.var 2) (.call "nexts" F_nexts (.cons (.var 0) (.cons (.var 3) .nil)))) (.cons (.ext (.var 2) (.call "catchers" F_catchers (.cons (.var 0) (.cons (.var 3) .nil)))) .nil))) .nil) .nil))) (.frz 1 (.cons (.ret (.var 1)) .nil))))
noncomputable def F_reached : Fn := runF 1 4 T_reached

noncomputable def V_read_temps : List Str := ["code", "live", "used", "at", "x", "first", "catch", "final", "end", "ret", "temp", "behind", "sort"]
noncomputable def T_read_temps : Ss := .cons (.asg (.v 2) .dicc) (.cons (.fors (.v 3) (.bi .range1 (.bi .len (.attr (.var 0) 0))) (.cons (.ifs (.cmp .isIn (.var 3) (.var 1)) (.cons (.fors (.v 4) (.call "reads" F_reads (.cons (.idx (.attr (.var 0) 0) (.var 3)) .nil)) (.cons (.ifs (.cmp .eq (.idx (.var 4) (.cst (.int 0))) (.cst (.str "tmp"))) (.cons (.setI (.var 2) (.idx (.var 4) (.cst (.int 1))) (.cst (.bool true))) .nil) .nil) .nil)) .nil) .nil) .nil)) (.cons (.fors (.t [5, 6, 7, 8, 9]) (.attr (.var 0) 3) (.cons (.ifs (.cmp .isNot (.var 9) (.cst .none)) (.cons (.setI (.var 2) (.var 9) (.cst (.bool true))) .nil) .nil) .nil)) (.cons (.fors (.t [10, 5, 11, 12]) (.attr (.var 0) 4) (.cons (.setI (.var 2) (.var 10) (.cst (.bool true))) .nil)) (.frz 2 (.cons (.ret (.var 2)) .nil)))))
noncomputable def F_read_temps : Fn := runF 2 13 T_read_temps

noncomputable def V_is_mute : List Str := ["row"]
noncomputable def T_is_mute : Ss := .cons (.ifs (.cmp .eq (.idx (.var 0) (.cst (.int 0))) (.cst (.str "array"))) (.cons (.ret (.cst (.bool true))) .nil) .nil) (.cons (.ret (.and (.cons (.cmp .isIn (.idx (.var 0) (.cst (.int 0))) (.tup (.cons (.cst (.str "move")) (.cons (.cst (.str "bool")) .nil)))) (.cons (.cmp .isIn (.idx (.idx (.var 0) (.cst (.int 2))) (.cst (.int 0))) (.tup (.cons (.cst (.str "lit")) (.cons (.cst (.str "tmp")) .nil)))) .nil)))) .nil)
noncomputable def F_is_mute : Fn := runF 1 1 T_is_mute

noncomputable def V_can_drop : List Str := ["op"]
noncomputable def T_can_drop : Ss := .cons (.ret (.cmp .isIn (.var 0) (.tup (.cons (.cst (.str "incdec")) (.cons (.cst (.str "do_call")) (.cons (.cst (.str "var")) (.cons (.cst (.str "elem")) (.cons (.cst (.str "prop")) (.cons (.cst (.str "static")) (.cons (.cst (.str "this")) (.cons (.cst (.str "cconst")) (.cons (.cst (.str "has_var")) (.cons (.cst (.str "has_elem")) (.cons (.cst (.str "has_prop")) (.cons (.cst (.str "has_static")) (.cons (.cst (.str "list_elem")) (.cons (.cst (.str "ref")) (.cons (.cst (.str "ref_call")) (.cons (.cst (.str "yield")) (.cons (.cst (.str "yield_from")) .nil)))))))))))))))))))) .nil
noncomputable def F_can_drop : Fn := runF 1 1 T_can_drop

noncomputable def V_without_to : List Str := ["row", "used", "op", "to", "a", "b"]
noncomputable def T_without_to : Ss := .cons (.asg (.t [2, 3, 4, 5]) (.var 0)) (.cons (.ifs (.or (.cons (.cmp .is (.var 3) (.cst .none)) (.cons (.cmp .isIn (.var 3) (.var 1)) (.cons (.not (.call "can_drop" F_can_drop (.cons (.var 2) .nil))) .nil)))) (.cons (.ret (.var 0)) .nil) .nil) (.cons (.ret (.tup (.cons (.var 2) (.cons (.cst .none) (.cons (.var 4) (.cons (.var 5) .nil)))))) .nil))
noncomputable def F_without_to : Fn := runF 2 6 T_without_to

noncomputable def V_without_empty : List Str := ["code", "trys", "lives"]
noncomputable def T_without_empty : Ss := .cons (.asg (.v 1) (.comp (.cons (.v 3) (.attr (.var 0) 3) (.cons (.cmp .lt (.idx (.var 3) (.cst (.int 0))) (.idx (.var 3) (.cst (.int 3)))) .nil) (.done (.var 3))))) (.cons (.asg (.v 2) (.comp (.cons (.v 3) (.attr (.var 0) 4) (.cons (.cmp .lt (.idx (.var 3) (.cst (.int 1))) (.idx (.var 3) (.cst (.int 2)))) .nil) (.done (.var 3))))) (.cons (.ret (.new (.cons (.attr (.var 0) 0) (.cons (.attr (.var 0) 1) (.cons (.attr (.var 0) 2) (.cons (.var 1) (.cons (.var 2) .nil))))))) .nil))
noncomputable def F_without_empty : Fn := runF 1 4 T_without_empty

noncomputable def V_without_dead : List Str := ["code", "live", "used", "rows", "keep", "at", "row", "is_unread"]
noncomputable def T_without_dead : Ss := .cons (.asg (.v 1) (.call "reached" F_reached (.cons (.var 0) .nil))) (.cons (.asg (.v 2) (.call "read_temps" F_read_temps (.cons (.var 0) (.cons (.var 1) .nil)))) (.cons (.asg (.v 3) (.lstc .nil)) (.cons (.asg (.v 4) (.lstc .nil)) (.cons (.fors (.v 5) (.bi .range1 (.bi .len (.attr (.var 0) 0))) (.cons (.asg (.v 6) (.idx (.attr (.var 0) 0) (.var 5))) (.cons (.asg (.v 7) (.and (.cons (.cmp .isNot (.idx (.var 6) (.cst (.int 1))) (.cst .none)) (.cons (.cmp .notIn (.idx (.var 6) (.cst (.int 1))) (.var 2)) .nil)))) (.cons (.app (.var 4) (.and (.cons (.cmp .isIn (.var 5) (.var 1)) (.cons (.not (.and (.cons (.var 7) (.cons (.call "is_mute" F_is_mute (.cons (.var 6) .nil)) .nil)))) .nil)))) (.cons (.app (.var 3) (.call "without_to" F_without_to (.cons (.var 6) (.cons (.var 2) .nil)))) .nil))))) (.frz 4 (.frz 3 (.cons (.ret (.call "without_empty" F_without_empty (.cons (.call "kept" F_kept (.cons (.new (.cons (.var 3) (.cons (.attr (.var 0) 1) (.cons (.attr (.var 0) 2) (.cons (.attr (.var 0) 3) (.cons (.attr (.var 0) 4) .nil)))))) (.cons (.var 4) .nil))) .nil))) .nil)))))))
noncomputable def F_without_dead : Fn := runF 1 8 T_without_dead

noncomputable def V_law_draw : List Str := ["script", "at", "many", "place", "number"]
noncomputable def T_law_draw : Ss := .cons (.asg (.v 3) (.idx (.var 1) (.cst (.int 0)))) (.cons (.setI (.var 1) (.cst (.int 0)) (.bin .add (.var 3) (.cst (.int 1)))) (.cons (.asg (.v 4) (.ife (.cmp .lt (.var 3) (.bi .len (.var 0))) (.idx (.var 0) (.var 3)) (.bin .mod (.bin .pow (.cst (.int 3)) (.var 3)) (.cst (.int 1009))))) (.cons (.ret (.bin .mod (.var 4) (.var 2))) .nil)))
noncomputable def F_law_draw : Fn := runF 3 5 T_law_draw

noncomputable def V_law_operand : List Str := ["script", "at", "which"]
noncomputable def T_law_operand : Ss := .cons (.asg (.v 2) (.call "_law_draw" F_law_draw (.cons (.var 0) (.cons (.var 1) (.cons (.cst (.int 9)) .nil))))) (.cons (.ifs (.cmp .lt (.var 2) (.cst (.int 3))) (.cons (.ret (.tup (.cons (.cst (.str "lit")) (.cons (.idx (.lst (.cons (.cst .none) (.cons (.cst (.bool true)) (.cons (.cst (.str "x")) .nil)))) (.var 2)) .nil)))) .nil) .nil) (.cons (.ret (.ife (.cmp .lt (.var 2) (.cst (.int 7))) (.tup (.cons (.cst (.str "tmp")) (.cons (.bin .sub (.var 2) (.cst (.int 3))) .nil))) (.tup (.cons (.cst (.str "cv")) (.cons (.bin .sub (.var 2) (.cst (.int 7))) .nil))))) .nil))
noncomputable def F_law_operand : Fn := runF 2 3 T_law_operand

noncomputable def V_law_row : List Str := ["script", "at", "many", "sort", "op", "x", "to"]
noncomputable def T_law_row : Ss := .cons (.asg (.v 3) (.call "_law_draw" F_law_draw (.cons (.var 0) (.cons (.var 1) (.cons (.cst (.int 18)) .nil))))) (.cons (.ifs (.cmp .gt (.var 3) (.cst (.int 13))) (.cons (.asg (.v 4) (.idx (.lst (.cons (.cst (.str "jump")) (.cons (.cst (.str "jump_if")) (.cons (.cst (.str "jump_unless")) (.cons (.cst (.str "jump_set")) .nil))))) (.bin .sub (.var 3) (.cst (.int 14))))) (.cons (.asg (.v 5) (.idx (.lst (.cons (.tup (.cons (.cst (.str "lit")) (.cons (.cst .none) .nil))) (.cons (.tup (.cons (.cst (.str "lit")) (.cons (.cst (.bool true)) .nil))) (.cons (.tup (.cons (.cst (.str "tmp")) (.cons (.cst (.int 0)) .nil))) (.cons (.tup (.cons (.cst (.str "cv")) (.cons (.cst (.int 0)) .nil))) .nil))))) (.call "_law_draw" F_law_draw (.cons (.var 0) (.cons (.var 1) (.cons (.cst (.int 4)) .nil)))))) (.cons (.ret (.tup (.cons (.var 4) (.cons (.cst .none) (.cons (.ife (.cmp .eq (.var 4) (.cst (.str "jump"))) (.cst .none) (.var 5)) (.cons (.call "_law_draw" F_law_draw (.cons (.var 0) (.cons (.var 1) (.cons (.bin .add (.var 2) (.cst (.int 1))) .nil)))) .nil)))))) .nil))) .nil) (.cons (.ifs (.cmp .isIn (.var 3) (.lst (.cons (.cst (.int 10)) (.cons (.cst (.int 12)) (.cons (.cst (.int 13)) .nil))))) (.cons (.ret (.tup (.cons (.idx (.dic (.cons (.cst (.int 10)) (.cst (.str "echo")) (.cons (.cst (.int 12)) (.cst (.str "throw")) (.cons (.cst (.int 13)) (.cst (.str "return")) .nil)))) (.var 3)) (.cons (.cst .none) (.cons (.call "_law_operand" F_law_operand (.cons (.var 0) (.cons (.var 1) .nil))) (.cons (.cst .none) .nil)))))) .nil) .nil) (.cons (.ifs (.cmp .lt (.var 3) (.cst (.int 7))) (.cons (.asg (.v 6) (.bin .add (.cst (.int 1)) (.call "_law_draw" F_law_draw (.cons (.var 0) (.cons (.var 1) (.cons (.cst (.int 3)) .nil)))))) (.cons (.ifs (.cmp .lt (.var 3) (.cst (.int 2))) (.cons (.ret (.tup (.cons (.cst (.str "array")) (.cons (.var 6) (.cons (.cst .none) (.cons (.cst .none) .nil)))))) .nil) .nil) (.cons (.ret (.tup (.cons (.ife (.cmp .lt (.var 3) (.cst (.int 5))) (.cst (.str "move")) (.cst (.str "bool"))) (.cons (.var 6) (.cons (.call "_law_operand" F_law_operand (.cons (.var 0) (.cons (.var 1) .nil))) (.cons (.cst .none) .nil)))))) .nil))) .nil) (.cons (.asg (.v 6) (.call "_law_draw" F_law_draw (.cons (.var 0) (.cons (.var 1) (.cons (.cst (.int 4)) .nil))))) (.cons (.asg (.v 5) (.call "_law_operand" F_law_operand (.cons (.var 0) (.cons (.var 1) .nil)))) (.cons (.ifs (.cmp .eq (.var 3) (.cst (.int 7))) (.cons (.ret (.tup (.cons (.cst (.str "binary")) (.cons (.var 6) (.cons (.tup (.cons (.var 5) (.cons (.call "_law_operand" F_law_operand (.cons (.var 0) (.cons (.var 1) .nil))) .nil))) (.cons (.cst (.str "+")) .nil)))))) .nil) .nil) (.cons (.ifs (.cmp .eq (.var 3) (.cst (.int 11))) (.cons (.ret (.tup (.cons (.cst (.str "list_elem")) (.cons (.var 6) (.cons (.tup (.cons (.var 5) (.cons (.tup (.cons (.cst (.str "lit")) (.cons (.cst (.int 0)) .nil))) .nil))) (.cons (.cst .none) .nil)))))) .nil) .nil) (.cons (.ret (.tup (.cons (.cst (.str "write")) (.cons (.var 6) (.cons (.tup (.cons (.cst (.str "dim")) (.cons (.tup (.cons (.cst (.str "var")) (.cons (.tup (.cons (.cst (.str "lit")) (.cons (.cst (.str "w")) .nil))) .nil))) (.cons (.var 5) .nil)))) (.cons (.call "_law_operand" F_law_operand (.cons (.var 0) (.cons (.var 1) .nil))) .nil)))))) .nil))))))))
noncomputable def F_law_row : Fn := runF 3 7 T_law_row

noncomputable def V_law_trys : List Str := ["script", "at", "many", "found", "k", "first", "behind", "end"]
noncomputable def T_law_trys : Ss := .cons (.asg (.v 3) (.lstc .nil)) (.cons (.fors (.v 4) (.bi .range1 (.call "_law_draw" F_law_draw (.cons (.var 0) (.cons (.var 1) (.cons (.cst (.int 3)) .nil))))) (.cons (.asg (.v 5) (.call "_law_draw" F_law_draw (.cons (.var 0) (.cons (.var 1) (.cons (.bin .sub (.var 2) (.cst (.int 1))) .nil))))) (.cons (.asg (.v 6) (.bin .add (.bin .add (.var 5) (.cst (.int 1))) (.call "_law_draw" F_law_draw (.cons (.var 0) (.cons (.var 1) (.cons (.bin .sub (.bin .sub (.var 2) (.cst (.int 1))) (.var 5)) .nil)))))) (.cons (.asg (.v 7) (.bin .add (.var 6) (.call "_law_draw" F_law_draw (.cons (.var 0) (.cons (.var 1) (.cons (.bin .add (.bin .sub (.var 2) (.var 6)) (.cst (.int 1))) .nil)))))) (.cons (.ifs (.cmp .eq (.call "_law_draw" F_law_draw (.cons (.var 0) (.cons (.var 1) (.cons (.cst (.int 2)) .nil)))) (.cst (.int 0))) (.cons (.app (.var 3) (.tup (.cons (.var 5) (.cons (.var 6) (.cons (.cst .none) (.cons (.var 7) (.cons (.cst .none) .nil))))))) .nil) (.cons (.app (.var 3) (.tup (.cons (.var 5) (.cons (.cst .none) (.cons (.var 6) (.cons (.var 7) (.cons (.call "_law_draw" F_law_draw (.cons (.var 0) (.cons (.var 1) (.cons (.cst (.int 4)) .nil)))) .nil))))))) .nil)) .nil))))) (.frz 3 (.cons (.ret (.var 3)) .nil)))
noncomputable def F_law_trys : Fn := runF 3 8 T_law_trys

noncomputable def V_law_value : List Str := ["world", "x", "sort", "held", "found"]
noncomputable def T_law_value : Ss := .cons (.asg (.t [2, 3]) (.var 1)) (.cons (.ifs (.cmp .eq (.var 2) (.cst (.str "lit"))) (.cons (.ret (.var 3)) .nil) .nil) (.cons (.ifs (.cmp .eq (.var 2) (.cst (.str "tmp"))) (.cons (.ret (.idx (.idx (.var 0) (.cst (.str "temps"))) (.var 3))) .nil) .nil) (.cons (.asg (.v 4) (.idx (.idx (.var 0) (.cst (.str "tape"))) (.bin .mod (.bi .len (.idx (.var 0) (.cst (.str "log")))) (.bi .len (.idx (.var 0) (.cst (.str "tape"))))))) (.cons (.app (.idx (.var 0) (.cst (.str "log"))) (.tup (.cons (.cst (.str "read")) (.cons (.var 3) (.cons (.bi .repr (.var 4)) .nil))))) (.cons (.ret (.var 4)) .nil)))))
noncomputable def F_law_value : Fn := runF 2 5 T_law_value

noncomputable def V_law_operands : List Str := ["row", "op", "to", "a", "b"]
noncomputable def T_law_operands : Ss := .cons (.asg (.t [1, 2, 3, 4]) (.var 0)) (.cons (.ifs (.cmp .isIn (.var 1) (.lst (.cons (.cst (.str "binary")) (.cons (.cst (.str "list_elem")) .nil)))) (.cons (.ret (.bi .list (.var 3))) .nil) .nil) (.cons (.ifs (.cmp .eq (.var 1) (.cst (.str "write"))) (.cons (.ret (.lst (.cons (.idx (.var 3) (.cst (.int 2))) (.cons (.var 4) .nil)))) .nil) .nil) (.cons (.ret (.ife (.cmp .is (.var 3) (.cst .none)) (.lst .nil) (.lst (.cons (.var 3) .nil)))) .nil)))
noncomputable def F_law_operands : Fn := runF 1 5 T_law_operands

noncomputable def V_law_speaks : List Str := ["row"]
noncomputable def T_law_speaks : Ss := .cons (.ifs (.or (.cons (.cmp .isIn (.idx (.var 0) (.cst (.int 0))) (.lst (.cons (.cst (.str "array")) (.cons (.cst (.str "move")) (.cons (.cst (.str "bool")) .nil))))) (.cons (.cmp .eq (.sub (.idx (.var 0) (.cst (.int 0))) 4) (.cst (.str "jump"))) .nil))) (.cons (.ret (.cmp .ne (.comp (.cons (.v 1) (.call "_law_operands" F_law_operands (.cons (.var 0) .nil)) (.cons (.cmp .eq (.idx (.var 1) (.cst (.int 0))) (.cst (.str "cv"))) .nil) (.done (.var 1)))) (.lst .nil))) .nil) .nil) (.cons (.ret (.cst (.bool true))) .nil)
noncomputable def F_law_speaks : Fn := runF 1 2 T_law_speaks

noncomputable def V_law_given : List Str := ["world", "row", "values"]
noncomputable def T_law_given : Ss := .cons (.asg (.v 2) (.comp (.cons (.v 3) (.call "_law_operands" F_law_operands (.cons (.var 1) .nil)) .nil (.done (.call "_law_value" F_law_value (.cons (.var 0) (.cons (.var 3) .nil))))))) (.cons (.ifs (.cmp .eq (.idx (.var 1) (.cst (.int 0))) (.cst (.str "array"))) (.cons (.ret (.cst (.str "array"))) .nil) .nil) (.cons (.ifs (.cmp .eq (.idx (.var 1) (.cst (.int 0))) (.cst (.str "move"))) (.cons (.ret (.idx (.var 2) (.cst (.int 0)))) .nil) .nil) (.cons (.ifs (.cmp .eq (.idx (.var 1) (.cst (.int 0))) (.cst (.str "bool"))) (.cons (.ret (.cmp .isNot (.idx (.var 2) (.cst (.int 0))) (.cst .none))) .nil) .nil) (.cons (.app (.idx (.var 0) (.cst (.str "log"))) (.tup (.cons (.idx (.var 1) (.cst (.int 0))) (.cons (.bi .repr (.var 2)) .nil)))) (.cons (.ret (.bin .add (.cst (.str "said ")) (.bi .str (.bi .len (.idx (.var 0) (.cst (.str "log"))))))) .nil)))))
noncomputable def F_law_given : Fn := runF 2 4 T_law_given

noncomputable def V_law_thrown : List Str := ["world", "trys", "place", "first", "catch", "final", "end", "ret"]
noncomputable def T_law_thrown : Ss := .cons (.fors (.t [3, 4, 5, 6, 7]) (.rev (.var 1)) (.cons (.ifs (.and (.cons (.cmp .isNot (.var 4) (.cst .none)) (.cons (.cmp2 (.var 3) .le (.var 2) .lt (.var 4)) .nil))) (.cons (.ret (.var 4)) .nil) .nil) (.cons (.ifs (.and (.cons (.cmp .isNot (.var 5) (.cst .none)) (.cons (.cmp2 (.var 3) .le (.var 2) .lt (.var 5)) .nil))) (.cons (.setI (.idx (.var 0) (.cst (.str "temps"))) (.var 7) (.cst (.str "thrown"))) (.cons (.ret (.var 5)) .nil)) .nil) .nil))) (.cons (.ret (.cst .none)) .nil)
noncomputable def F_law_thrown : Fn := runF 3 8 T_law_thrown

noncomputable def V_law_goes : List Str := ["op", "values"]
noncomputable def T_law_goes : Ss := .cons (.ret (.or (.cons (.cmp .eq (.var 0) (.cst (.str "jump"))) (.cons (.cmp .eq (.cmp .isNot (.idx (.var 1) (.cst (.int 0))) (.cst .none)) (.cmp .ne (.var 0) (.cst (.str "jump_unless")))) .nil)))) .nil
noncomputable def F_law_goes : Fn := runF 2 2 T_law_goes

noncomputable def V_law_step : List Str := ["world", "code", "here", "row", "found"]
noncomputable def T_law_step : Ss := .cons (.asg (.v 3) (.idx (.attr (.var 1) 0) (.var 2))) (.cons (.ifs (.cmp .eq (.sub (.idx (.var 3) (.cst (.int 0))) 4) (.cst (.str "jump"))) (.cons (.ret (.ife (.call "_law_goes" F_law_goes (.cons (.idx (.var 3) (.cst (.int 0))) (.cons (.comp (.cons (.v 5) (.call "_law_operands" F_law_operands (.cons (.var 3) .nil)) .nil (.done (.call "_law_value" F_law_value (.cons (.var 0) (.cons (.var 5) .nil)))))) .nil))) (.idx (.var 3) (.cst (.int 3))) (.bin .add (.var 2) (.cst (.int 1))))) .nil) .nil) (.cons (.asg (.v 4) (.call "_law_given" F_law_given (.cons (.var 0) (.cons (.var 3) .nil)))) (.cons (.ifs (.cmp .eq (.idx (.var 3) (.cst (.int 0))) (.cst (.str "throw"))) (.cons (.ret (.call "_law_thrown" F_law_thrown (.cons (.var 0) (.cons (.attr (.var 1) 3) (.cons (.var 2) .nil))))) .nil) .nil) (.cons (.ifs (.cmp .isNot (.idx (.var 3) (.cst (.int 1))) (.cst .none)) (.cons (.setI (.idx (.var 0) (.cst (.str "temps"))) (.idx (.var 3) (.cst (.int 1))) (.var 4)) .nil) .nil) (.cons (.ret (.ife (.cmp .eq (.idx (.var 3) (.cst (.int 0))) (.cst (.str "return"))) (.cst (.int (-1))) (.bin .add (.var 2) (.cst (.int 1))))) .nil)))))
noncomputable def F_law_step : Fn := runF 3 6 T_law_step

noncomputable def V_law_told : List Str := ["code", "tape", "world", "here", "silent"]
noncomputable def T_law_told : Ss := .cons (.asg (.v 2) (.dic (.cons (.cst (.str "log")) (.lstc .nil) (.cons (.cst (.str "temps")) (.lstc (.cons (.cst .none) (.cons (.cst (.str "t")) (.cons (.cst .none) (.cons (.cst (.str "t")) .nil))))) (.cons (.cst (.str "tape")) (.var 1) .nil))))) (.cons (.asg (.t [3, 4]) (.tup (.cons (.cst (.int 0)) (.cons (.cst (.int 0)) .nil)))) (.cons (.whl (.and (.cons (.cmp .isNot (.var 3) (.cst .none)) (.cons (.cmp2 (.cst (.int 0)) .le (.var 3) .lt (.bi .len (.attr (.var 0) 0))) .nil))) (.cons (.asg (.v 4) (.ife (.call "_law_speaks" F_law_speaks (.cons (.idx (.attr (.var 0) 0) (.var 3)) .nil)) (.cst (.int 0)) (.bin .add (.var 4) (.cst (.int 1))))) (.cons (.ifs (.and (.cons (.cmp .eq (.var 4) (.cst (.int 0))) (.cons (.cmp .gt (.bi .len (.idx (.var 2) (.cst (.str "log")))) (.cst (.int 12))) .nil))) (.cons (.ret (.tup (.cons (.cst (.str "cut")) (.cons (.frz (.idx (.var 2) (.cst (.str "log")))) .nil)))) .nil) .nil) (.cons (.ifs (.cmp .gt (.var 4) (.bi .len (.attr (.var 0) 0))) (.cons (.ret (.tup (.cons (.cst (.str "for ever")) (.cons (.frz (.idx (.var 2) (.cst (.str "log")))) .nil)))) .nil) .nil) (.cons (.asg (.v 3) (.call "_law_step" F_law_step (.cons (.var 2) (.cons (.var 0) (.cons (.var 3) .nil))))) .nil))))) (.cons (.ret (.tup (.cons (.ife (.cmp .is (.var 3) (.cst .none)) (.cst (.str "thrown")) (.ife (.cmp .lt (.var 3) (.cst (.int 0))) (.cst (.str "return")) (.cst (.str "end")))) (.cons (.frz (.idx (.var 2) (.cst (.str "log")))) .nil)))) .nil)))
noncomputable def F_law_told : Fn := runF 2 5 T_law_told

noncomputable def V_law_ways : List Str := ["code", "place", "op", "to", "a", "b", "found", "first", "catch", "final", "end", "ret"]
noncomputable def T_law_ways : Ss := .cons (.asg (.t [2, 3, 4, 5]) (.idx (.attr (.var 0) 0) (.var 1))) (.cons (.asg (.v 6) (.ife (.cmp .isIn (.var 2) (.lst (.cons (.cst (.str "jump")) (.cons (.cst (.str "return")) (.cons (.cst (.str "throw")) .nil))))) (.lstc .nil) (.lstc (.cons (.bin .add (.var 1) (.cst (.int 1))) .nil)))) (.cons (.ifs (.cmp .eq (.sub (.var 2) 4) (.cst (.str "jump"))) (.cons (.app (.var 6) (.var 5)) .nil) .nil) (.cons (.fors (.t [7, 8, 9, 10, 11]) (.rev (.attr (.var 0) 3)) (.cons (.ifs (.cmp2 (.var 7) .le (.var 1) .lt (.ife (.cmp .is (.var 8) (.cst .none)) (.var 9) (.var 8))) (.frz 6 (.cons (.ret (.bin .add (.var 6) (.lst (.cons (.ife (.cmp .is (.var 8) (.cst .none)) (.var 9) (.var 8)) .nil)))) .nil)) .nil) .nil)) (.frz 6 (.cons (.ret (.var 6)) .nil)))))
noncomputable def F_law_ways : Fn := runF 2 12 T_law_ways

noncomputable def V_law_closure : List Str := ["code", "known", "done", "other"]
noncomputable def T_law_closure : Ss := .cons (.asg (.v 1) (.lstc (.cons (.cst (.int 0)) .nil))) (.cons (.asg (.v 2) (.cst (.int 0))) (.cons (.whl (.cmp .lt (.var 2) (.bi .len (.var 1))) (.cons (.fors (.v 3) (.call "_law_ways" F_law_ways (.cons (.var 0) (.cons (.idx (.var 1) (.var 2)) .nil))) (.cons (.ifs (.and (.cons (.cmp .lt (.var 3) (.bi .len (.attr (.var 0) 0))) (.cons (.cmp .notIn (.var 3) (.var 1)) .nil))) (.cons (.app (.var 1) (.var 3)) .nil) .nil) .nil)) (.cons (.asg (.v 2) (.bin .add (.var 2) (.cst (.int 1)))) .nil))) (.frz 1 (.cons (.ret (.bi .sorted (.var 1))) .nil))))
noncomputable def F_law_closure : Fn := runF 1 4 T_law_closure

noncomputable def V_law_left : List Str := ["code", "live", "numbers", "rows", "place", "used", "held", "row", "is_unread", "says_none", "trys", "lives", "temp", "first", "behind", "sort"]
noncomputable def T_law_left : Ss := .cons (.asg (.t [1, 2, 3]) (.tup (.cons (.call "_law_closure" F_law_closure (.cons (.var 0) .nil)) (.cons (.lstc .nil) (.cons (.lstc .nil) .nil))))) (.cons (.asg (.v 5) (.comp (.cons (.v 16) (.var 1) .nil (.cons (.v 17) (.call "_law_operands" F_law_operands (.cons (.idx (.attr (.var 0) 0) (.var 16)) .nil)) (.cons (.cmp .eq (.idx (.var 17) (.cst (.int 0))) (.cst (.str "tmp"))) .nil) (.done (.idx (.var 17) (.cst (.int 1)))))))) (.cons (.asg (.v 5) (.bin .add (.bin .add (.var 5) (.comp (.cons (.v 16) (.attr (.var 0) 3) .nil (.done (.idx (.var 16) (.cst (.int 4))))))) (.comp (.cons (.v 16) (.attr (.var 0) 4) .nil (.done (.idx (.var 16) (.cst (.int 0)))))))) (.cons (.fore (.t [4, 7]) (.attr (.var 0) 0) (.cons (.app (.var 2) (.bi .len (.var 3))) (.cons (.asg (.v 8) (.and (.cons (.cmp .isNot (.idx (.var 7) (.cst (.int 1))) (.cst .none)) (.cons (.cmp .notIn (.idx (.var 7) (.cst (.int 1))) (.var 5)) .nil)))) (.cons (.asg (.v 9) (.or (.cons (.cmp .eq (.idx (.var 7) (.cst (.int 0))) (.cst (.str "array"))) (.cons (.and (.cons (.cmp .isIn (.idx (.var 7) (.cst (.int 0))) (.lst (.cons (.cst (.str "move")) (.cons (.cst (.str "bool")) .nil)))) (.cons (.cmp .ne (.idx (.idx (.var 7) (.cst (.int 2))) (.cst (.int 0))) (.cst (.str "cv"))) .nil))) .nil)))) (.cons (.ifs (.and (.cons (.cmp .isIn (.var 4) (.var 1)) (.cons (.not (.and (.cons (.var 8) (.cons (.var 9) .nil)))) .nil))) (.cons (.app (.var 3) (.tup (.cons (.idx (.var 7) (.cst (.int 0))) (.cons (.ife (.and (.cons (.var 8) (.cons (.cmp .eq (.idx (.var 7) (.cst (.int 0))) (.cst (.str "list_elem"))) .nil))) (.cst .none) (.idx (.var 7) (.cst (.int 1)))) .nil)))) .nil) .nil) .nil))))) (.cons (.app (.var 2) (.bi .len (.var 3))) (.cons (.asg (.t [10, 11]) (.tup (.cons (.lstc .nil) (.cons (.lstc .nil) .nil)))) (.cons (.fors (.v 6) (.attr (.var 0) 3) (.cons (.ifs (.cmp .lt (.idx (.var 2) (.idx (.var 6) (.cst (.int 0)))) (.idx (.var 2) (.idx (.var 6) (.cst (.int 3))))) (.cons (.app (.var 10) (.bin .add (.bi .tuple (.comp (.cons (.v 16) (.sub (.var 6) 4) .nil (.done (.ife (.cmp .is (.var 16) (.cst .none)) (.cst .none) (.idx (.var 2) (.var 16))))))) (.tup (.cons (.idx (.var 6) (.cst (.int 4))) .nil)))) .nil) .nil) .nil)) (.cons (.fors (.t [12, 13, 14, 15]) (.attr (.var 0) 4) (.cons (.ifs (.cmp .lt (.idx (.var 2) (.var 13)) (.idx (.var 2) (.var 14))) (.cons (.app (.var 11) (.tup (.cons (.var 12) (.cons (.idx (.var 2) (.var 13)) (.cons (.idx (.var 2) (.var 14)) (.cons (.var 15) .nil)))))) .nil) .nil) .nil)) (.frz 3 (.frz 10 (.frz 11 (.cons (.ret (.lst (.cons (.var 3) (.cons (.var 10) (.cons (.var 11) .nil))))) .nil)))))))))))
noncomputable def F_law_left : Fn := runF 1 18 T_law_left

noncomputable def V_law_is_at_rest : List Str := ["code", "row", "used"]
noncomputable def T_law_is_at_rest : Ss := .cons (.ifs (.cmp .ne (.call "_law_closure" F_law_closure (.cons (.var 0) .nil)) (.bi .list (.bi .range1 (.bi .len (.attr (.var 0) 0))))) (.cons (.ret (.cst (.bool false))) .nil) .nil) (.cons (.asg (.v 2) (.comp (.cons (.v 3) (.attr (.var 0) 0) .nil (.cons (.v 4) (.call "_law_operands" F_law_operands (.cons (.var 3) .nil)) (.cons (.cmp .eq (.idx (.var 4) (.cst (.int 0))) (.cst (.str "tmp"))) .nil) (.done (.idx (.var 4) (.cst (.int 1)))))))) (.cons (.asg (.v 2) (.bin .add (.bin .add (.var 2) (.comp (.cons (.v 3) (.attr (.var 0) 3) .nil (.done (.idx (.var 3) (.cst (.int 4))))))) (.comp (.cons (.v 3) (.attr (.var 0) 4) .nil (.done (.idx (.var 3) (.cst (.int 0)))))))) (.cons (.fors (.v 1) (.attr (.var 0) 0) (.cons (.ifs (.and (.cons (.cmp .isIn (.idx (.var 1) (.cst (.int 0))) (.lst (.cons (.cst (.str "write")) (.cons (.cst (.str "binary")) .nil)))) (.cons (.cmp .is (.idx (.var 1) (.cst (.int 1))) (.cst .none)) .nil))) (.cons (.ret (.cst (.bool false))) .nil) .nil) (.cons (.ifs (.and (.cons (.cmp .isNot (.idx (.var 1) (.cst (.int 1))) (.cst .none)) (.cons (.cmp .notIn (.idx (.var 1) (.cst (.int 1))) (.var 2)) .nil))) (.cons (.ifs (.or (.cons (.cmp .isIn (.idx (.var 1) (.cst (.int 0))) (.lst (.cons (.cst (.str "list_elem")) (.cons (.cst (.str "array")) .nil)))) (.cons (.and (.cons (.cmp .isIn (.idx (.var 1) (.cst (.int 0))) (.lst (.cons (.cst (.str "move")) (.cons (.cst (.str "bool")) .nil)))) (.cons (.cmp .ne (.idx (.idx (.var 1) (.cst (.int 2))) (.cst (.int 0))) (.cst (.str "cv"))) .nil))) .nil))) (.cons (.ret (.cst (.bool false))) .nil) .nil) .nil) .nil) .nil))) (.cons (.ret (.cst (.bool true))) .nil))))
noncomputable def F_law_is_at_rest : Fn := runF 1 5 T_law_is_at_rest

noncomputable def V_law : List Str := ["script", "at", "many", "rows", "trys", "lives", "first", "tape", "code", "due", "made", "turn", "again", "is_kept"]
noncomputable def T_law : Ss := .cons (.asg (.v 0) (.sub (.var 0) 63)) (.cons (.asg (.v 1) (.lstc (.cons (.cst (.int 0)) .nil))) (.cons (.asg (.v 2) (.bin .add (.cst (.int 5)) (.call "_law_draw" F_law_draw (.cons (.var 0) (.cons (.var 1) (.cons (.cst (.int 5)) .nil)))))) (.cons (.asg (.v 3) (.bin .add (.comp (.cons (.v 14) (.bi .range1 (.bin .sub (.var 2) (.cst (.int 1)))) .nil (.done (.call "_law_row" F_law_row (.cons (.var 0) (.cons (.var 1) (.cons (.var 2) .nil))))))) (.lst (.cons (.tup (.cons (.cst (.str "return")) (.cons (.cst .none) (.cons (.call "_law_operand" F_law_operand (.cons (.var 0) (.cons (.var 1) .nil))) (.cons (.cst .none) .nil))))) .nil)))) (.cons (.asg (.v 4) (.call "_law_trys" F_law_trys (.cons (.var 0) (.cons (.var 1) (.cons (.var 2) .nil))))) (.cons (.asg (.v 5) (.lstc .nil)) (.cons (.ifs (.cmp .eq (.call "_law_draw" F_law_draw (.cons (.var 0) (.cons (.var 1) (.cons (.cst (.int 2)) .nil)))) (.cst (.int 1))) (.cons (.asg (.v 6) (.call "_law_draw" F_law_draw (.cons (.var 0) (.cons (.var 1) (.cons (.var 2) .nil))))) (.cons (.app (.var 5) (.tup (.cons (.call "_law_draw" F_law_draw (.cons (.var 0) (.cons (.var 1) (.cons (.cst (.int 4)) .nil)))) (.cons (.var 6) (.cons (.bin .add (.bin .add (.var 6) (.cst (.int 1))) (.call "_law_draw" F_law_draw (.cons (.var 0) (.cons (.var 1) (.cons (.bin .sub (.var 2) (.var 6)) .nil))))) (.cons (.cst (.str "call")) .nil)))))) .nil)) .nil) (.cons (.asg (.v 7) (.comp (.cons (.v 14) (.bi .range1 (.cst (.int 7))) .nil (.done (.idx (.lst (.cons (.cst .none) (.cons (.cst (.bool true)) (.cons (.cst (.str "y")) (.cons (.cst .none) .nil))))) (.call "_law_draw" F_law_draw (.cons (.var 0) (.cons (.var 1) (.cons (.cst (.int 4)) .nil))))))))) (.frz 5 (.cons (.asg (.v 8) (.new (.cons (.bi .list (.var 3)) (.cons (.lst (.cons (.cst (.str "a")) (.cons (.cst (.str "b")) .nil))) (.cons (.cst (.int 4)) (.cons (.bi .list (.var 4)) (.cons (.bi .list (.var 5)) .nil))))))) (.cons (.ifs (.cmp .ne (.bi .sorted (.call "reached" F_reached (.cons (.var 8) .nil))) (.call "_law_closure" F_law_closure (.cons (.var 8) .nil))) (.cons (.ret (.cst (.bool false))) .nil) .nil) (.cons (.asg (.v 9) (.call "_law_told" F_law_told (.cons (.var 8) (.cons (.var 7) .nil)))) (.cons (.asg (.v 10) (.var 8)) (.cons (.fors (.v 11) (.bi .range1 (.bin .add (.bin .mul (.cst (.int 2)) (.var 2)) (.cst (.int 4)))) (.cons (.asg (.v 12) (.call "without_dead" F_without_dead (.cons (.var 10) .nil))) (.cons (.ifs (.or (.cons (.cmp .gt (.bi .len (.attr (.var 12) 0)) (.bi .len (.attr (.var 10) 0))) (.cons (.and (.cons (.cmp .eq (.var 11) (.cst (.int 0))) (.cons (.cmp .ne (.call "_law_told" F_law_told (.cons (.var 12) (.cons (.var 7) .nil))) (.var 9)) .nil))) .nil))) (.cons (.ret (.cst (.bool false))) .nil) .nil) (.cons (.ifs (.cmp .ne (.lst (.cons (.attr (.var 12) 1) (.cons (.attr (.var 12) 2) .nil))) (.lst (.cons (.lst (.cons (.cst (.str "a")) (.cons (.cst (.str "b")) .nil))) (.cons (.cst (.int 4)) .nil)))) (.cons (.ret (.cst (.bool false))) .nil) .nil) (.cons (.ifs (.cmp .ne (.lst (.cons (.comp (.cons (.v 14) (.attr (.var 12) 0) .nil (.done (.sub (.var 14) 2)))) (.cons (.attr (.var 12) 3) (.cons (.attr (.var 12) 4) .nil)))) (.call "_law_left" F_law_left (.cons (.var 10) .nil))) (.cons (.ret (.cst (.bool false))) .nil) .nil) (.cons (.ifs (.cmp .eq (.bi .repr (.lst (.cons (.attr (.var 12) 0) (.cons (.attr (.var 12) 3) (.cons (.attr (.var 12) 4) .nil))))) (.bi .repr (.lst (.cons (.attr (.var 10) 0) (.cons (.attr (.var 10) 3) (.cons (.attr (.var 10) 4) .nil)))))) (.cons (.asg (.v 13) (.and (.cons (.cmp .eq (.attr (.var 8) 0) (.var 3)) (.cons (.cmp .eq (.attr (.var 8) 3) (.var 4)) (.cons (.cmp .eq (.attr (.var 8) 4) (.var 5)) .nil))))) (.cons (.ret (.and (.cons (.var 13) (.cons (.call "_law_is_at_rest" F_law_is_at_rest (.cons (.var 12) .nil)) (.cons (.cmp .eq (.call "_law_told" F_law_told (.cons (.var 12) (.cons (.var 7) .nil))) (.var 9)) .nil))))) .nil)) .nil) (.cons (.asg (.v 10) (.var 12)) .nil))))))) (.cons (.ret (.cst (.bool false))) .nil))))))))))))))
noncomputable def F_law : Fn := runF 1 15 T_law

end Mine

set_option maxRecDepth 10000
namespace Mine
open PySem PySem.W PySem.SeqAt PyProof.Rows PySem.Calls

theorem lookup_zip_at : ∀ (ns : List Str) (vs : List Value) (i : Nat) (n : Str) (v : Value), ns.Nodup → ns[i]? = some n → vs[i]? = some v → (ns.zip vs).lookup n = some v
  | [], _, i, n, v, _, h, _ => by simp at h
  | a :: ns, [], i, n, v, _, _, h => by simp at h
  | a :: ns, b :: vs, 0, n, v, _, h1, h2 => by
    simp at h1 h2; subst h1; subst h2
    simp [List.zip_cons_cons, List.lookup_cons]
  | a :: ns, b :: vs, i + 1, n, v, hn, h1, h2 => by
    simp at h1 h2
    rw [List.nodup_cons] at hn
    have : (n == a) = false := by
      rw [beq_eq_false_iff_ne]
      intro e
      exact hn.1 (e ▸ List.mem_of_getElem? h1)
    rw [List.zip_cons_cons, List.lookup_cons, this]
    exact lookup_zip_at ns vs i n v hn.2 h1 h2

theorem lookup_zip_some {ns : List Str} {vs : List Value} (hn : ns.Nodup) (hl : vs.length = ns.length) {n : Str} (h : n ∈ ns) : ((ns.zip vs).lookup n).isSome = true := by
  obtain ⟨i, hi, rfl⟩ := List.mem_iff_getElem.mp h
  rw [lookup_zip_at ns vs i _ (vs[i]'(by lia)) hn (List.getElem?_eq_getElem hi) (List.getElem?_eq_getElem _)]
  rfl

theorem filterMap_map {α β : Type} {f : α → Option β} {g : α → β} : ∀ {l : List α}, (∀ n ∈ l, f n = some (g n)) → l.filterMap f = l.map g
  | [], _ => rfl
  | a :: l, h => by
    rw [List.filterMap_cons, h a List.mem_cons_self, List.map_cons, filterMap_map fun n hn => h n (List.mem_cons_of_mem _ hn)]

theorem filterMap_zip {ns : List Str} {vs : List Value} (hn : ns.Nodup) (hl : vs.length = ns.length) : (ns.filterMap fun n => ((ns.zip vs).lookup n).map (n, ·)) = ns.zip vs := by
  have h1 : (ns.filterMap fun n => ((ns.zip vs).lookup n).map (n, ·)) = ns.map fun n => (n, ((ns.zip vs).lookup n).getD .none) := by
    refine filterMap_map fun n hm => ?_
    obtain ⟨v, hv⟩ := Option.isSome_iff_exists.mp (lookup_zip_some hn hl hm)
    rw [hv]; rfl
  rw [h1]
  apply List.ext_getElem
  · simp [hl]
  · intro i h2 h3
    simp at h2
    rw [List.getElem_map, List.getElem_zip, lookup_zip_at ns vs i _ (vs[i]'(by lia)) hn (List.getElem?_eq_getElem h2) (List.getElem?_eq_getElem _)]
    rfl

noncomputable def plainParams (fd : FuncData) (np : Nat) (vars : List Str) : Bool :=
  fd.params.posonlyargs.isEmpty && fd.params.vararg.isNone && fd.params.kwonlyargs.isEmpty && fd.params.kwarg.isNone && fd.defaults == .none && fd.params.args.map (·.arg) == vars.take np && decide (fd.params.args.length = np)

theorem bind_forIn_nil {α β δ : Type} {l : List α} {b : β} {f : α → β → Sem (ForInStep β)} {k : β → Sem δ} (h : l = []) : (forIn l b f >>= k) = k b := by subst h; rfl
theorem bindArgs_plain {fd : FuncData} {np : Nat} {vars : List Str} (h : plainParams fd np vars = true) (hn : vars.Nodup) (vs : List Value) (hv : vs.length = np) : bindArgs fd ⟨vs, []⟩ = pure ((vars.take np).zip vs) := by
  obtain ⟨_, _, ⟨po, args, va, ko, kw⟩, body, dfl⟩ := fd
  unfold plainParams at h
  simp only [Bool.and_eq_true, List.isEmpty_iff, Option.isNone_iff_eq_none, beq_iff_eq, decide_eq_true_eq] at h
  obtain ⟨⟨⟨⟨⟨⟨rfl, rfl⟩, rfl⟩, rfl⟩, rfl⟩, h6⟩, h7⟩ := h
  rw [← h6]
  have hn' : (args.map (·.arg)).Nodup := h6 ▸ hn.sublist (List.take_sublist _ _)
  have hl : vs.length = (args.map (·.arg)).length := by rw [List.length_map, h7, hv]
  clear h6 h7 hv hn
  refine (if_neg ?_).trans ((if_neg ?_).trans ?_)
  · exact fun e => Nat.ne_of_gt (of_decide_eq_true (andl e)) hl
  · refine fun e => Bool.noConfusion (e.symm.trans (congrArg (fun l : List Str => !l.isEmpty) (List.filter_eq_nil_iff.mpr fun n hm q => ?_)))
    obtain ⟨v, hv⟩ := Option.isSome_iff_exists.mp (lookup_zip_some hn' hl (List.take_subset _ (args.map (·.arg)) hm))
    exact Bool.noConfusion ((congrArg Option.isNone hv).symm.trans q)
  · refine (bind_forIn_nil ((congrArg (List.zip _) List.drop_nil).trans List.zip_nil_right)).trans ?_
    have fin : (args.map (Arg.arg ·) ++ []).filterMap (fun n => (((args.map (Arg.arg ·)).zip vs).lookup n).map (n, ·)) = (args.map (Arg.arg ·)).zip vs := (congrArg (List.filterMap _) (List.append_nil _)).trans (filterMap_zip hn' hl)
    exact congrArg (pure : List (Str × Value) → Sem _) fin
end Mine

set_option maxRecDepth 10000
namespace Mine
open PySem PySem.W PySem.SeqAt PyProof.Rows PySem.Calls

noncomputable def onRef (x : Value) (f : Addr → Bool) : Bool := if h : x.ctorIdx = 10 then Value.ref.elim (motive := fun _ => Bool) x h f else false
theorem onRef_k {P : Value → Prop} {x : Value} {f : Addr → Bool} (h : onRef x f = true) (k : ∀ a, f a = true → P (.ref a)) : P x :=
  dite_k h fun q => Value.ref.elim (motive := fun x => (q : x.ctorIdx = 10) → Value.ref.elim (motive := fun _ => Bool) x q f = true → P x) x q (fun a _ h => k a h) q
noncomputable def onStrV (x : Value) (f : Str → Tok → Bool) : Bool := if h : x.ctorIdx = 6 then Value.str.elim (motive := fun _ => Bool) x h f else false
theorem onStrV_k {P : Value → Prop} {x : Value} {f : Str → Tok → Bool} (h : onStrV x f = true) (k : ∀ a b, f a b = true → P (.str a b)) : P x :=
  dite_k h fun q => Value.str.elim (motive := fun x => (q : x.ctorIdx = 6) → Value.str.elim (motive := fun _ => Bool) x q f = true → P x) x q (fun a b _ h => k a b h) q
noncomputable def onFunc (x : Data) (f : FuncData → Bool) : Bool := if h : x.ctorIdx = 7 then Data.func.elim (motive := fun _ => Bool) x h f else false
theorem onFunc_k {P : Data → Prop} {x : Data} {f : FuncData → Bool} (h : onFunc x f = true) (k : ∀ a, f a = true → P (.func a)) : P x :=
  dite_k h fun q => Data.func.elim (motive := fun x => (q : x.ctorIdx = 7) → Data.func.elim (motive := fun _ => Bool) x q f = true → P x) x q (fun a _ h => k a h) q
noncomputable def onFields (x : Data) (f : Array Value → Bool) : Bool := if h : x.ctorIdx = 9 then Data.fields.elim (motive := fun _ => Bool) x h f else false
theorem onFields_k {P : Data → Prop} {x : Data} {f : Array Value → Bool} (h : onFields x f = true) (k : ∀ a, f a = true → P (.fields a)) : P x :=
  dite_k h fun q => Data.fields.elim (motive := fun x => (q : x.ctorIdx = 9) → Data.fields.elim (motive := fun _ => Bool) x q f = true → P x) x q (fun a _ h => k a h) q
noncomputable def onStmts (x : FuncBody) (f : List Stmt → Bool) : Bool := if h : x.ctorIdx = 0 then FuncBody.stmts.elim (motive := fun _ => Bool) x h f else false
theorem onStmts_k {P : FuncBody → Prop} {x : FuncBody} {f : List Stmt → Bool} (h : onStmts x f = true) (k : ∀ a, f a = true → P (.stmts a)) : P x :=
  dite_k h fun q => FuncBody.stmts.elim (motive := fun x => (q : x.ctorIdx = 0) → FuncBody.stmts.elim (motive := fun _ => Bool) x q f = true → P x) x q (fun a _ h => k a h) q

theorem som_e {α : Type} {P : Prop} : {l : Option α} → {f : α → Bool} → som l f = true → (∀ a, l = some a → f a = true → P) → P
  | none, _, h, _ => Bool.noConfusion h
  | some a, _, h, k => k a rfl h
noncomputable def fdAt (K : Frag) (a : Addr) (f : FuncData → Bool) : Bool := som (K.lookup a) fun o => onFunc o.data f
theorem fdAt_k {K : Frag} {a : Addr} {f : FuncData → Bool} {P : Prop} (h : fdAt K a f = true) (k : ∀ o fd, K.lookup a = some o → o.data = .func fd → f fd = true → P) : P :=
  som_e h fun o e h => onFunc_k (P := fun d => o.data = d → P) h (fun fd h e' => k o fd e e' h) rfl
noncomputable def codeRecIn (K : Frag) (fd : FuncData) : Bool := onRef fd.code fun c => som (K.lookup c) fun o => onFields o.data fun vs => som (vs[1]? : Option Value) fun v => onStrV v fun q _ => q == fd.qualname
theorem codeRecIn_of {K : Frag} {fd : FuncData} {h₀ : Heap} (X : K.In h₀) (h : codeRecIn K fd = true) : h₀.CodeRec fd.code fd.qualname :=
  onRef_k (P := fun v => h₀.CodeRec v fd.qualname) h fun c h => som_e h fun o ho h => onFields_k (P := fun d => o.data = d → h₀.CodeRec (.ref c) fd.qualname) h (fun vs h hd => som_e h fun v hv h =>
    onStrV_k (P := fun w => v = w → h₀.CodeRec (.ref c) fd.qualname) h (fun q t h e => ⟨c, o, vs, t, rfl, X _ _ ho, hd, hv.trans (congrArg some (e.trans (congrArg (Value.str · t) (eq_of_beq h))))⟩) rfl) rfl
noncomputable def bodyChk (cx : Cx) (b : Ss) (x : FuncBody) : Bool := onStmts x fun body => cSs cx b body
/-- what a name of the module is bound to -/
noncomputable def refAt (K : Frag) (ns : Addr) (name : Str) (f : Addr → Bool) : Bool := som (nsIn K ns name) fun o => som o fun v => onRef v f
theorem refAt_k {K : Frag} {ns : Addr} {name : Str} {f : Addr → Bool} {P : Prop} (h : refAt K ns name f = true) (k : ∀ a, nsIn K ns name = some (some (.ref a)) → f a = true → P) : P :=
  som_k (P := fun o => nsIn K ns name = o → P) h (fun o h e => som_k (P := fun v => o = v → P) h (fun v h e' => onRef_k (P := fun w => v = w → P) h (fun a h e'' => k a (e.trans (congrArg some (e'.trans (congrArg some e'')))) h) rfl) rfl) rfl
noncomputable def fnChk (K : Frag) (name : Str) (np : Nat) (vars : List Str) (b : Ss) : Bool := refAt K mainGlobals name fun a => fdAt K a fun fd =>
  codeRecIn K fd && fd.closure.isEmpty && fd.globals == mainGlobals && fd.builtins == builtinsNs && scopeOk fd.scope vars && decide (np ≤ vars.length) && plainParams fd np vars && bodyChk (fnCx fd.scope vars) b fd.body

theorem fnChk_k {C : Ctx} {name : Str} {np : Nat} {vars : List Str} {b : Ss} {P : Prop} (O : AllOk C) (h : fnChk C.K name np vars b = true)
    (k : ∀ scope body, FnAt C name np vars scope body → cSs (fnCx scope vars) b body = true → P) : P :=
  refAt_k h fun a hn h => fdAt_k h fun o fd ho hd h => by
    have h7 := andl h; have h6 := andl h7; have h5 := andl h6; have h4 := andl h5; have h3 := andl h4; have h2 := andl h3
    refine onStmts_k (P := fun x => fd.body = x → P) (andr h) (fun body h8 hb => k fd.scope body ⟨⟨a, o, fd, mg_of O.cls.K O.ctx.g hn, O.cls.K _ _ ho, hd, codeRecIn_of O.cls.K (andl h2), hb, List.isEmpty_iff.mp (andr h2), rfl, eq_of_beq (andr h3), eq_of_beq (andr h4), bindArgs_plain (andr h7) ?_⟩, andr h5, of_decide_eq_true (andr h6)⟩ h8) rfl
    have h5 := andr h5
    unfold scopeOk at h5
    simp only [Bool.and_eq_true, decide_eq_true_eq] at h5
    exact h5.1.1.2

/-- what a text calls -/
noncomputable abbrev Calls := List (Str × Fn)
mutual
noncomputable def cqE : E → Calls
  | .any => []
  | .cst _ => []
  | .var _ => []
  | .frz e => cqE e
  | .attr e _ => cqE e
  | .idx e i => cqE e ++ cqE i
  | .sub e _ => cqE e
  | .rev e => cqE e
  | .lst es => cqEs es
  | .lstc es => cqEs es
  | .tup es => cqEs es
  | .dicc => []
  | .dic kvs => cqK kvs
  | .bin _ a b => cqE a ++ cqE b
  | .cmp _ a b => cqE a ++ cqE b
  | .cmp2 a _ b _ c => cqE a ++ (cqE b ++ cqE c)
  | .and es => cqEs es
  | .or es => cqEs es
  | .not e => cqE e
  | .ife t a b => cqE t ++ (cqE a ++ cqE b)
  | .call n f es => (n, f) :: cqEs es
  | .new es => cqEs es
  | .bi _ e => cqE e
  | .range3 a b c => cqE a ++ (cqE b ++ cqE c)
  | .get e k d => cqE e ++ (cqE k ++ cqE d)
  | .pop e => cqE e
  | .comp g => cqG g
noncomputable def cqEs : Es → Calls
  | .nil => []
  | .cons e es => cqE e ++ cqEs es
noncomputable def cqK : Kvs → Calls
  | .nil => []
  | .cons k v r => cqE k ++ (cqE v ++ cqK r)
noncomputable def cqG : Gens → Calls
  | .done e => cqE e
  | .cons _ e ifs g => cqE e ++ (cqEs ifs ++ cqG g)
end
mutual
noncomputable def cqS : S → Calls
  | .any => []
  | .asg _ e => cqE e
  | .setI o i e => cqE o ++ (cqE i ++ cqE e)
  | .app o e => cqE o ++ cqE e
  | .ext o e => cqE o ++ cqE e
  | .ifs t a b => cqE t ++ (cqSs a ++ cqSs b)
  | .fors _ e b => cqE e ++ cqSs b
  | .fore _ e b => cqE e ++ cqSs b
  | .whl t b => cqE t ++ cqSs b
  | .ret e => cqE e
noncomputable def cqSs : Ss → Calls
  | .nil => []
  | .frz _ ss => cqSs ss
  | .cons s ss => cqS s ++ cqSs ss
end
/-- each of them is sound -/
noncomputable def AllP (P : Str → Fn → Prop) : Calls → Prop
  | [] => True
  | c :: r => P c.1 c.2 ∧ AllP P r
theorem AllP.split {P : Str → Fn → Prop} : ∀ {a b : Calls}, AllP P (a ++ b) → AllP P a ∧ AllP P b
  | [], _, h => ⟨trivial, h⟩
  | _ :: a, _, h => ⟨⟨h.1, (split (a := a) h.2).1⟩, (split (a := a) h.2).2⟩
theorem AllP.two {P : Str → Fn → Prop} {a b : Calls} {A B : Prop} (h : AllP P (a ++ b)) (f : AllP P a → A) (g : AllP P b → B) : A ∧ B := ⟨f h.split.1, g h.split.2⟩
theorem AllP.three {P : Str → Fn → Prop} {a b c : Calls} {A B D : Prop} (h : AllP P (a ++ (b ++ c))) (f : AllP P a → A) (g : AllP P b → B) (i : AllP P c → D) : A ∧ B ∧ D := ⟨f h.split.1, h.split.2.two g i⟩
mutual
theorem okE {P : Str → Fn → Prop} : (e : E) → AllP P (cqE e) → OkE P e
  | .any | .cst _ | .var _ | .dicc => fun h => h
  | .frz e | .attr e _ | .sub e _ | .rev e | .not e | .bi _ e | .pop e => fun h => okE e h
  | .idx a b | .bin _ a b | .cmp _ a b => fun h => h.two (okE a) (okE b)
  | .lst es | .lstc es | .tup es | .and es | .or es | .new es => fun h => okEs es h
  | .dic kvs => fun h => okK kvs h
  | .cmp2 a _ b _ c | .ife a b c | .range3 a b c | .get a b c => fun h => h.three (okE a) (okE b) (okE c)
  | .call n f es => fun h => ⟨h.1, okEs es h.2⟩
  | .comp g => fun h => okG g h
theorem okEs {P : Str → Fn → Prop} : (es : Es) → AllP P (cqEs es) → OkEs P es
  | .nil => fun h => h
  | .cons e es => fun h => h.two (okE e) (okEs es)
theorem okK {P : Str → Fn → Prop} : (kvs : Kvs) → AllP P (cqK kvs) → OkKvs P kvs
  | .nil => fun h => h
  | .cons a b c => fun h => h.three (okE a) (okE b) (okK c)
theorem okG {P : Str → Fn → Prop} : (g : Gens) → AllP P (cqG g) → OkG P g
  | .done e => fun h => okE e h
  | .cons _ e ifs g => fun h => h.three (okE e) (okEs ifs) (okG g)
end
mutual
theorem okS {P : Str → Fn → Prop} : (s : S) → AllP P (cqS s) → OkS P s
  | .any => fun h => h
  | .asg _ e | .ret e => fun h => okE e h
  | .setI a b c => fun h => h.three (okE a) (okE b) (okE c)
  | .app a b | .ext a b => fun h => h.two (okE a) (okE b)
  | .ifs a b c => fun h => h.three (okE a) (okSs b) (okSs c)
  | .fors _ a b | .fore _ a b | .whl a b => fun h => h.two (okE a) (okSs b)
theorem okSs {P : Str → Fn → Prop} : (ss : Ss) → AllP P (cqSs ss) → OkSs P ss
  | .nil => fun h => h
  | .frz _ ss => fun h => okSs ss h
  | .cons s ss => fun h => h.two (okS s) (okSs ss)
end

theorem def_of {C : Ctx} {name : Str} {np n k : Nat} {vars : List Str} {b : Ss} (O : AllOk C) (h : fnChk C.K name np vars b = true) (l : Calls) (e : cqSs b = l) (ok : AllP (Sound C (k + 3)) l) : Sound C (k + 3 + 1) name (runF np n b) :=
  fnChk_k O h fun _ _ F hc => def_sound O F hc (okSs b (e ▸ ok))

/-- a def: its name, its parameters, its variables, its slots, its text -/
structure Def where
  name : Str
  np : Nat
  vars : List Str
  n : Nat
  text : Ss

/-- the class, by evaluation -/
noncomputable def clsChk (K : Frag) (cls : Addr) : Bool :=
  nsIn K mainGlobals "Code" == some (some (.ref cls)) && plainGet K cls "" && hasDictIn K cls && fieldNames.all (fun n => findIn K (.ref cls) n == some none) && makesIn K cls && keepIn K (.ref cls) &&
  findIn K (.ref cls) "__setattr__" == some (some (.builtin "object.__setattr__")) && plainOver K cls && fieldNames.all (fun n => takerIn K cls n == some none)

noncomputable def initB : List Str → List Stmt → Bool
  | [], xs => xs.isEmpty
  | n :: ns, xs => conc xs fun x xs => initB ns xs && atAssign x fun ts v _ => (one ts fun t => onAttribute t fun o y _ => (onName o fun x _ => x == ("self" : Str)) && y == n) && onName v fun z _ => z == n
noncomputable def initChk (K : Frag) (cls : Addr) : Bool := som (findIn K (.ref cls) "__init__") fun o => som o fun v => onRef v fun fI => typeIn K (.ref fI) == some (.type "function") && fdAt K fI fun fd =>
  codeRecIn K fd && (onStmts fd.body fun b => initB fieldNames b) && plainParams fd 6 (("self" : Str) :: fieldNames) && fd.scope.names.all (fun x => x.2 != .cell) && (("self" : Str) :: fieldNames).all (fun n => fd.scope.names.lookup n == some .local) &&
        !fd.scope.isCoroutine && !fd.scope.isGenerator && fd.scope.kind == .function

theorem initB_of : ∀ {ns : List Str} {b : List Stmt}, initB ns b = true → InitStmts b ns
  | [], b, h => nil_k (P := fun b => InitStmts b []) h .nil
  | n :: ns, b, h => conc_k (P := fun b => InitStmts b (n :: ns)) h fun st r h => atAssign_k (P := fun st => InitStmts (st :: r) (n :: ns)) (andr h) fun ts v pos h' =>
      one_k (P := fun ts => InitStmts (.Assign ts v pos :: r) (n :: ns)) (andl h') fun t h1 => onAttribute_k (P := fun t => InitStmts (.Assign [t] v pos :: r) (n :: ns)) h1 fun o y q h1 =>
      onName_k (P := fun o => InitStmts (.Assign [.Attribute o y q] v pos :: r) (n :: ns)) (andl h1) fun x p hx => onName_k (P := fun v => InitStmts (.Assign [.Attribute (.Name x p) y q] v pos :: r) (n :: ns)) (andr h') fun z u hz => by
        cases eq_of_beq hx; cases eq_of_beq (andr h1); cases eq_of_beq hz
        exact .cons p q u pos (initB_of (andl h))

/-- the names of built-ins that the text reads are not the module's own -/
noncomputable def biChk (K : Frag) : Bool := ([.len, .sorted, .repr, .str, .list, .tuple, .range1] : List Bi).all (fun b => nsIn K mainGlobals b.name == some none) && nsIn K mainGlobals "enumerate" == some none

theorem boot_bi (b : Bi) : bootBuiltins b.name = some b.val := by cases b <;> with_unfolding_all rfl
theorem boot_enum : bootBuiltins "enumerate" = some (.type "enumerate") := by with_unfolding_all rfl

theorem initOk_of {C : Ctx} (X : C.K.In C.h₀) (c9 : ∀ n ∈ fieldNames, takerIn C.K C.cls n = some none) (h : initChk C.K C.cls = true) : InitOk C :=
  som_k (P := fun o => findIn C.K (.ref C.cls) "__init__" = o → InitOk C) h (fun o h e => som_k (P := fun v => o = v → InitOk C) h (fun v h e' => onRef_k (P := fun w => v = w → InitOk C) h (fun fI h e'' => fdAt_k (andr h) fun o fd ho hd h' => by
    have h7 := andl h'; have h6 := andl h7; have h5 := andl h6; have h4 := andl h5; have h3 := andl h4; have h2 := andl h3
    refine onStmts_k (P := fun x => fd.body = x → InitOk C) (andr h2) (fun body hb hbody => ⟨⟨fI, o, fd, body, e.trans (congrArg some (e'.trans (congrArg some e''))), eq_of_beq (andl h), X _ _ ho, hd, codeRecIn_of X (andl h2), hbody, initB_of hb,
      fun x a b c d e => bindArgs_plain (andr h3) (by decide) [x, a, b, c, d, e] rfl, fun x hx => bne_iff_ne.mp (List.all_eq_true.mp (andr h4) x hx), fun n hn => eq_of_beq (List.all_eq_true.mp (andr h5) n hn), nb (andr h6), nb (andr h7), eq_of_beq (andr h')⟩, c9⟩) rfl) rfl) rfl) rfl
theorem allOk_of {C : Ctx} (X : C.K.In C.h₀) (hg : C.h₀.Ns mainGlobals C.mg) (hb : C.h₀.Ns builtinsNs C.mb) (hl : C.h₀.NoLimit) (hbb : ∀ x : Str, x ≠ "__name__" → C.mb x = bootBuiltins x)
    (h1 : clsChk C.K C.cls = true) (h2 : initChk C.K C.cls = true) (h3 : biChk C.K = true) : AllOk C :=
  have c8 := andl h1; have c7 := andl c8; have c6 := andl c7; have c5 := andl c6; have c4 := andl c5; have c3 := andl c4; have c2 := andl c3
  ⟨⟨hg, hb, hl, fun b => ⟨mg_none_of X hg (eq_of_beq (List.all_eq_true.mp (andl h3) b (List.mem_of_getElem? (i := b.ctorIdx) (by cases b <;> rfl)))), (hbb _ (by cases b <;> decide)).trans (boot_bi b)⟩, ⟨mg_none_of X hg (eq_of_beq (andr h3)), (hbb _ (by decide)).trans boot_enum⟩⟩,
    ⟨X, mg_of X hg (eq_of_beq (andl c2)), andr c2, andr c3, fun n hn => eq_of_beq (List.all_eq_true.mp (andr c4) n hn), andr c5, andr c6, eq_of_beq (andr c7), andr c8⟩, initOk_of X (fun n hn => eq_of_beq (List.all_eq_true.mp (andr h1) n hn)) h2⟩
end Mine

set_option maxRecDepth 100000
namespace Mine
open PySem PySem.W PySem.SeqAt PyProof.Rows PySem.Calls

/-- the defs of the module, and the texts that stand for them -/
noncomputable def defs : List Def := [
  ⟨"shape_of", 1, V_shape_of, 2, T_shape_of⟩,
  ⟨"place_reads", 1, V_place_reads0, 2, T_place_reads0⟩,
  ⟨"place_reads", 1, V_place_reads, 2, T_place_reads⟩,
  ⟨"part_reads", 2, V_part_reads0, 4, T_part_reads0⟩,
  ⟨"part_reads", 2, V_part_reads, 4, T_part_reads⟩,
  ⟨"reads", 1, V_reads, 3, T_reads⟩,
  ⟨"target_of", 1, V_target_of, 2, T_target_of⟩,
  ⟨"with_target", 2, V_with_target, 2, T_with_target⟩,
  ⟨"nexts", 2, V_nexts, 7, T_nexts⟩,
  ⟨"catchers", 2, V_catchers, 11, T_catchers⟩,
  ⟨"moved", 2, V_moved, 2, T_moved⟩,
  ⟨"kept", 2, V_kept, 16, T_kept⟩,
  ⟨"reached", 1, V_reached, 4, T_reached⟩,
  ⟨"read_temps", 2, V_read_temps, 13, T_read_temps⟩,
  ⟨"is_mute", 1, V_is_mute, 1, T_is_mute⟩,
  ⟨"can_drop", 1, V_can_drop, 1, T_can_drop⟩,
  ⟨"without_to", 2, V_without_to, 6, T_without_to⟩,
  ⟨"without_empty", 1, V_without_empty, 4, T_without_empty⟩,
  ⟨"without_dead", 1, V_without_dead, 8, T_without_dead⟩,
  ⟨"_law_draw", 3, V_law_draw, 5, T_law_draw⟩,
  ⟨"_law_operand", 2, V_law_operand, 3, T_law_operand⟩,
  ⟨"_law_row", 3, V_law_row, 7, T_law_row⟩,
  ⟨"_law_trys", 3, V_law_trys, 8, T_law_trys⟩,
  ⟨"_law_value", 2, V_law_value, 5, T_law_value⟩,
  ⟨"_law_operands", 1, V_law_operands, 5, T_law_operands⟩,
  ⟨"_law_speaks", 1, V_law_speaks, 2, T_law_speaks⟩,
  ⟨"_law_given", 2, V_law_given, 4, T_law_given⟩,
  ⟨"_law_thrown", 3, V_law_thrown, 8, T_law_thrown⟩,
  ⟨"_law_goes", 2, V_law_goes, 2, T_law_goes⟩,
  ⟨"_law_step", 3, V_law_step, 6, T_law_step⟩,
  ⟨"_law_told", 2, V_law_told, 5, T_law_told⟩,
  ⟨"_law_ways", 2, V_law_ways, 12, T_law_ways⟩,
  ⟨"_law_closure", 1, V_law_closure, 4, T_law_closure⟩,
  ⟨"_law_left", 1, V_law_left, 18, T_law_left⟩,
  ⟨"_law_is_at_rest", 1, V_law_is_at_rest, 5, T_law_is_at_rest⟩,
  ⟨"law", 1, V_law, 15, T_law⟩]
noncomputable def defsChk (K : Frag) : Bool := defs.all fun d => fnChk K d.name d.np d.vars d.text
theorem def_at {C : Ctx} {k : Nat} (O : AllOk C) (h : defsChk C.K = true) (i : Nat) (d : Def) (e : defs[i]? = some d) (l : Calls) (e' : cqSs d.text = l) (ok : AllP (Sound C (k + 3)) l) : Sound C (k + 3 + 1) d.name (runF d.np d.n d.text) :=
  def_of O (List.all_eq_true.mp h d (List.mem_of_getElem? e)) l e' ok

theorem defs_sound {C : Ctx} (O : AllOk C) (h : defsChk C.K = true) : Sound C 11 "law" F_law := by
  have s_shape_of : Sound C 4 "shape_of" F_shape_of := by
    exact def_at (k := 0) O h 0 _ rfl [] rfl trivial
  have s_place_reads0 : Sound C 4 "place_reads" F_place_reads0 := by
    exact def_at (k := 0) O h 1 _ rfl [] rfl trivial
  have s_place_reads : Sound C 5 "place_reads" F_place_reads := by
    have h0 : Sound C (1 + 3) "place_reads" F_place_reads0 := s_place_reads0.le (by decide)
    exact def_at (k := 1) O h 2 _ rfl [("place_reads", F_place_reads0)] rfl ⟨h0, trivial⟩
  have s_part_reads0 : Sound C 6 "part_reads" F_part_reads0 := by
    have h0 : Sound C (2 + 3) "place_reads" F_place_reads := s_place_reads.le (by decide)
    exact def_at (k := 2) O h 3 _ rfl [("place_reads", F_place_reads)] rfl ⟨h0, trivial⟩
  have s_part_reads : Sound C 7 "part_reads" F_part_reads := by
    have h0 : Sound C (3 + 3) "part_reads" F_part_reads0 := s_part_reads0.le (by decide)
    have h1 : Sound C (3 + 3) "place_reads" F_place_reads := s_place_reads.le (by decide)
    exact def_at (k := 3) O h 4 _ rfl [("part_reads", F_part_reads0), ("place_reads", F_place_reads)] rfl ⟨h0, h1, trivial⟩
  have s_reads : Sound C 8 "reads" F_reads := by
    have h0 : Sound C (4 + 3) "shape_of" F_shape_of := s_shape_of.le (by decide)
    have h1 : Sound C (4 + 3) "part_reads" F_part_reads := s_part_reads.le (by decide)
    exact def_at (k := 4) O h 5 _ rfl [("shape_of", F_shape_of), ("part_reads", F_part_reads), ("part_reads", F_part_reads)] rfl ⟨h0, h1, h1, trivial⟩
  have s_target_of : Sound C 4 "target_of" F_target_of := by
    exact def_at (k := 0) O h 6 _ rfl [] rfl trivial
  have s_with_target : Sound C 4 "with_target" F_with_target := by
    exact def_at (k := 0) O h 7 _ rfl [] rfl trivial
  have s_nexts : Sound C 5 "nexts" F_nexts := by
    have h0 : Sound C (1 + 3) "target_of" F_target_of := s_target_of.le (by decide)
    exact def_at (k := 1) O h 8 _ rfl [("target_of", F_target_of)] rfl ⟨h0, trivial⟩
  have s_catchers : Sound C 4 "catchers" F_catchers := by
    exact def_at (k := 0) O h 9 _ rfl [] rfl trivial
  have s_moved : Sound C 4 "moved" F_moved := by
    exact def_at (k := 0) O h 10 _ rfl [] rfl trivial
  have s_kept : Sound C 5 "kept" F_kept := by
    have h0 : Sound C (1 + 3) "target_of" F_target_of := s_target_of.le (by decide)
    have h1 : Sound C (1 + 3) "with_target" F_with_target := s_with_target.le (by decide)
    have h2 : Sound C (1 + 3) "moved" F_moved := s_moved.le (by decide)
    exact def_at (k := 1) O h 11 _ rfl [("target_of", F_target_of), ("with_target", F_with_target), ("moved", F_moved)] rfl ⟨h0, h1, h2, trivial⟩
  have s_reached : Sound C 6 "reached" F_reached := by
    have h0 : Sound C (2 + 3) "nexts" F_nexts := s_nexts.le (by decide)
    have h1 : Sound C (2 + 3) "catchers" F_catchers := s_catchers.le (by decide)
    exact def_at (k := 2) O h 12 _ rfl [("nexts", F_nexts), ("catchers", F_catchers)] rfl ⟨h0, h1, trivial⟩
  have s_read_temps : Sound C 9 "read_temps" F_read_temps := by
    have h0 : Sound C (5 + 3) "reads" F_reads := s_reads.le (by decide)
    exact def_at (k := 5) O h 13 _ rfl [("reads", F_reads)] rfl ⟨h0, trivial⟩
  have s_is_mute : Sound C 4 "is_mute" F_is_mute := by
    exact def_at (k := 0) O h 14 _ rfl [] rfl trivial
  have s_can_drop : Sound C 4 "can_drop" F_can_drop := by
    exact def_at (k := 0) O h 15 _ rfl [] rfl trivial
  have s_without_to : Sound C 5 "without_to" F_without_to := by
    have h0 : Sound C (1 + 3) "can_drop" F_can_drop := s_can_drop.le (by decide)
    exact def_at (k := 1) O h 16 _ rfl [("can_drop", F_can_drop)] rfl ⟨h0, trivial⟩
  have s_without_empty : Sound C 4 "without_empty" F_without_empty := by
    exact def_at (k := 0) O h 17 _ rfl [] rfl trivial
  have s_without_dead : Sound C 10 "without_dead" F_without_dead := by
    have h0 : Sound C (6 + 3) "reached" F_reached := s_reached.le (by decide)
    have h1 : Sound C (6 + 3) "read_temps" F_read_temps := s_read_temps.le (by decide)
    have h2 : Sound C (6 + 3) "is_mute" F_is_mute := s_is_mute.le (by decide)
    have h3 : Sound C (6 + 3) "without_to" F_without_to := s_without_to.le (by decide)
    have h4 : Sound C (6 + 3) "without_empty" F_without_empty := s_without_empty.le (by decide)
    have h5 : Sound C (6 + 3) "kept" F_kept := s_kept.le (by decide)
    exact def_at (k := 6) O h 18 _ rfl [("reached", F_reached), ("read_temps", F_read_temps), ("is_mute", F_is_mute), ("without_to", F_without_to), ("without_empty", F_without_empty), ("kept", F_kept)] rfl ⟨h0, h1, h2, h3, h4, h5, trivial⟩
  have s_law_draw : Sound C 4 "_law_draw" F_law_draw := by
    exact def_at (k := 0) O h 19 _ rfl [] rfl trivial
  have s_law_operand : Sound C 5 "_law_operand" F_law_operand := by
    have h0 : Sound C (1 + 3) "_law_draw" F_law_draw := s_law_draw.le (by decide)
    exact def_at (k := 1) O h 20 _ rfl [("_law_draw", F_law_draw)] rfl ⟨h0, trivial⟩
  have s_law_row : Sound C 6 "_law_row" F_law_row := by
    have h0 : Sound C (2 + 3) "_law_draw" F_law_draw := s_law_draw.le (by decide)
    have h1 : Sound C (2 + 3) "_law_operand" F_law_operand := s_law_operand.le (by decide)
    exact def_at (k := 2) O h 21 _ rfl [("_law_draw", F_law_draw), ("_law_draw", F_law_draw), ("_law_draw", F_law_draw), ("_law_operand", F_law_operand), ("_law_draw", F_law_draw), ("_law_operand", F_law_operand), ("_law_draw", F_law_draw), ("_law_operand", F_law_operand), ("_law_operand", F_law_operand), ("_law_operand", F_law_operand)] rfl ⟨h0, h0, h0, h1, h0, h1, h0, h1, h1, h1, trivial⟩
  have s_law_trys : Sound C 5 "_law_trys" F_law_trys := by
    have h0 : Sound C (1 + 3) "_law_draw" F_law_draw := s_law_draw.le (by decide)
    exact def_at (k := 1) O h 22 _ rfl [("_law_draw", F_law_draw), ("_law_draw", F_law_draw), ("_law_draw", F_law_draw), ("_law_draw", F_law_draw), ("_law_draw", F_law_draw), ("_law_draw", F_law_draw)] rfl ⟨h0, h0, h0, h0, h0, h0, trivial⟩
  have s_law_value : Sound C 4 "_law_value" F_law_value := by
    exact def_at (k := 0) O h 23 _ rfl [] rfl trivial
  have s_law_operands : Sound C 4 "_law_operands" F_law_operands := by
    exact def_at (k := 0) O h 24 _ rfl [] rfl trivial
  have s_law_speaks : Sound C 5 "_law_speaks" F_law_speaks := by
    have h0 : Sound C (1 + 3) "_law_operands" F_law_operands := s_law_operands.le (by decide)
    exact def_at (k := 1) O h 25 _ rfl [("_law_operands", F_law_operands)] rfl ⟨h0, trivial⟩
  have s_law_given : Sound C 5 "_law_given" F_law_given := by
    have h0 : Sound C (1 + 3) "_law_operands" F_law_operands := s_law_operands.le (by decide)
    have h1 : Sound C (1 + 3) "_law_value" F_law_value := s_law_value.le (by decide)
    exact def_at (k := 1) O h 26 _ rfl [("_law_operands", F_law_operands), ("_law_value", F_law_value)] rfl ⟨h0, h1, trivial⟩
  have s_law_thrown : Sound C 4 "_law_thrown" F_law_thrown := by
    exact def_at (k := 0) O h 27 _ rfl [] rfl trivial
  have s_law_goes : Sound C 4 "_law_goes" F_law_goes := by
    exact def_at (k := 0) O h 28 _ rfl [] rfl trivial
  have s_law_step : Sound C 6 "_law_step" F_law_step := by
    have h0 : Sound C (2 + 3) "_law_goes" F_law_goes := s_law_goes.le (by decide)
    have h1 : Sound C (2 + 3) "_law_operands" F_law_operands := s_law_operands.le (by decide)
    have h2 : Sound C (2 + 3) "_law_value" F_law_value := s_law_value.le (by decide)
    have h3 : Sound C (2 + 3) "_law_given" F_law_given := s_law_given.le (by decide)
    have h4 : Sound C (2 + 3) "_law_thrown" F_law_thrown := s_law_thrown.le (by decide)
    exact def_at (k := 2) O h 29 _ rfl [("_law_goes", F_law_goes), ("_law_operands", F_law_operands), ("_law_value", F_law_value), ("_law_given", F_law_given), ("_law_thrown", F_law_thrown)] rfl ⟨h0, h1, h2, h3, h4, trivial⟩
  have s_law_told : Sound C 7 "_law_told" F_law_told := by
    have h0 : Sound C (3 + 3) "_law_speaks" F_law_speaks := s_law_speaks.le (by decide)
    have h1 : Sound C (3 + 3) "_law_step" F_law_step := s_law_step.le (by decide)
    exact def_at (k := 3) O h 30 _ rfl [("_law_speaks", F_law_speaks), ("_law_step", F_law_step)] rfl ⟨h0, h1, trivial⟩
  have s_law_ways : Sound C 4 "_law_ways" F_law_ways := by
    exact def_at (k := 0) O h 31 _ rfl [] rfl trivial
  have s_law_closure : Sound C 5 "_law_closure" F_law_closure := by
    have h0 : Sound C (1 + 3) "_law_ways" F_law_ways := s_law_ways.le (by decide)
    exact def_at (k := 1) O h 32 _ rfl [("_law_ways", F_law_ways)] rfl ⟨h0, trivial⟩
  have s_law_left : Sound C 6 "_law_left" F_law_left := by
    have h0 : Sound C (2 + 3) "_law_closure" F_law_closure := s_law_closure.le (by decide)
    have h1 : Sound C (2 + 3) "_law_operands" F_law_operands := s_law_operands.le (by decide)
    exact def_at (k := 2) O h 33 _ rfl [("_law_closure", F_law_closure), ("_law_operands", F_law_operands)] rfl ⟨h0, h1, trivial⟩
  have s_law_is_at_rest : Sound C 6 "_law_is_at_rest" F_law_is_at_rest := by
    have h0 : Sound C (2 + 3) "_law_closure" F_law_closure := s_law_closure.le (by decide)
    have h1 : Sound C (2 + 3) "_law_operands" F_law_operands := s_law_operands.le (by decide)
    exact def_at (k := 2) O h 34 _ rfl [("_law_closure", F_law_closure), ("_law_operands", F_law_operands)] rfl ⟨h0, h1, trivial⟩
  have s_law : Sound C 11 "law" F_law := by
    have h0 : Sound C (7 + 3) "_law_draw" F_law_draw := s_law_draw.le (by decide)
    have h1 : Sound C (7 + 3) "_law_row" F_law_row := s_law_row.le (by decide)
    have h2 : Sound C (7 + 3) "_law_operand" F_law_operand := s_law_operand.le (by decide)
    have h3 : Sound C (7 + 3) "_law_trys" F_law_trys := s_law_trys.le (by decide)
    have h4 : Sound C (7 + 3) "reached" F_reached := s_reached.le (by decide)
    have h5 : Sound C (7 + 3) "_law_closure" F_law_closure := s_law_closure.le (by decide)
    have h6 : Sound C (7 + 3) "_law_told" F_law_told := s_law_told.le (by decide)
    have h7 : Sound C (7 + 3) "without_dead" F_without_dead := s_without_dead.le (by decide)
    have h8 : Sound C (7 + 3) "_law_left" F_law_left := s_law_left.le (by decide)
    have h9 : Sound C (7 + 3) "_law_is_at_rest" F_law_is_at_rest := s_law_is_at_rest.le (by decide)
    exact def_at (k := 7) O h 35 _ rfl [("_law_draw", F_law_draw), ("_law_row", F_law_row), ("_law_operand", F_law_operand), ("_law_trys", F_law_trys), ("_law_draw", F_law_draw), ("_law_draw", F_law_draw), ("_law_draw", F_law_draw), ("_law_draw", F_law_draw), ("_law_draw", F_law_draw), ("reached", F_reached), ("_law_closure", F_law_closure), ("_law_told", F_law_told), ("without_dead", F_without_dead), ("_law_told", F_law_told), ("_law_left", F_law_left), ("_law_is_at_rest", F_law_is_at_rest), ("_law_told", F_law_told)] rfl ⟨h0, h1, h2, h3, h0, h0, h0, h0, h0, h4, h5, h6, h7, h6, h8, h9, h6, trivial⟩
  exact s_law
end Mine

set_option maxRecDepth 10000
namespace Mine
open PySem PySem.W PySem.SeqAt PyProof.Rows PySem.Calls

noncomputable def clsOf (K : Frag) : Addr := match nsIn K mainGlobals "Code" with
  | some (some (.ref a)) => a
  | _ => 0

theorem room_caller : Room callerA 11 := ⟨rfl, by decide, by decide, rfl⟩

theorem finish {prog : Program} {w : World} {s₁ : Shared} {mg mb : Str → Option Value} {K : Frag} {fa a : Addr} {vs : List Value} {ns : List Int} {Q : Value → Shared → Prop} {E : Value → Shared → Prop} {m' : Mem}
    (X : K.In s₁.heap) (hg : s₁.heap.Ns mainGlobals mg) (hb : s₁.heap.Ns builtinsNs mb) (hl : s₁.heap.NoLimit) (hbb : ∀ x : Str, x ≠ "__name__" → mb x = bootBuiltins x)
    (k1 : clsChk K (clsOf K) = true) (k2 : initChk K (clsOf K) = true) (k3 : biChk K = true) (k4 : defsChk K = true) (hfa : mg "law" = some (.ref fa))
    (ha : s₁.heap.get? a = some (lstO vs 0)) (hI : IntsAre vs ns) (hn : ns.length ≤ 63) (law : F_law [.lst (ns.map .int)] [] = some (.bool true, m'))
    (q : ∀ h t, (∀ b o, s₁.heap.get? b = some o → h.get? b = some o) → Q (.bool true) { s₁ with heap := h, toks := t }) :
    wpAny (model prog w) callerA (call (.ref fa) [.ref a]) Q E s₁ := by
  have O := allOk_of (C := ⟨prog, w, s₁.heap, K, mg, mb, clsOf K⟩) X hg hb hl hbb k1 k2 k3
  obtain ⟨a', o, fd, h1, h2, h3, h4⟩ := defs_sound O k4
  have e : (some (Value.ref a') : Option Value) = some (.ref fa) := h1.symm.trans hfa
  cases e
  have I : MInv ⟨prog, w, s₁.heap, K, mg, mb, clsOf K⟩ ⟨s₁.heap.get?, []⟩ [] s₁ :=
    ⟨fun _ _ e => e, fun _ _ e => e, rfl, List.nodup_nil, fun _ h => (nomatch h), fun k c e => by simp at e, fun k c e => by simp at e⟩
  have hlen : vs.length = ns.length := hI.length
  have r : Rel ⟨prog, w, s₁.heap, K, mg, mb, clsOf K⟩ ⟨s₁.heap.get?, []⟩ (.lst (ns.map .int)) (.ref a) := by
    exact ⟨a, vs, 0, rfl, ha, by simp [big]; lia, rels_of_ints hI⟩
  refine wpAny_call (codeAny_mono (h4 callerA _ s₁ [] [.lst (ns.map .int)] [.ref a] (.bool true) m' room_caller I (.one r) law) fun r s' z => ?_)
  rcases r with e | (v | _ | _ | _) <;> first | exact z.elim | skip
  obtain ⟨γ', I', S', r'⟩ := z
  obtain rfl : v = .bool true := r'
  obtain ⟨h, t, rfl⟩ := S'.same
  exact q h t fun b o e => S'.keep b o e (fun hm => (nomatch hm)) (fun f => f.elim)

theorem good_true {c : ClaimW} {cl : Str → Option Addr} {mean : ExcName → Option Value} {args : List WData} {s₁ : Shared} {h : Heap} {t : Nat} (hr : ∀ cls, c.raises args cls = false) (hp : c.post args (.bool true) args = true) (hg : s₁.gens = #[])
    (hk : ∀ b o, s₁.heap.get? b = some o → h.get? b = some o) : GoodWG c cl mean args s₁ (.ok (.ret (.bool true))) { s₁ with heap := h, toks := t } :=
  GoodW.toG ⟨.inl ⟨.bool true, .bool true, [], rfl, hr, .bool true, hp, fun _ => ⟨List.nodup_nil, fun x hx => absurd hx List.not_mem_nil⟩⟩, hk, rfl, hg⟩
end Mine

set_option maxRecDepth 100000
namespace Mine
open PySem PySem.W

/-- the module's heap objects that the proof reads, their trees taken from the program itself -/
noncomputable def ge (P : Params) (n : Str) (a : Nat) (v : Value) : DictEntry := { hash := PyData.keyHash P n, key := .str n a, val := v }
noncomputable def co (n q : Str) (a line argc r1 : Nat) (r2 r3 r4 r5 : Value) (k d : Nat) : Obj := { cls := .type "code", data := .fields #[.str n a, .str q (a + 1), .str "/claim/cut.py" (a + 2), .int line 0, .int argc 0, .int 0 0, .int 0 0, .int 3 0, .ref r1, .bool true, .int 181 0, r2, .none, r3, r4, r5, .int k 0, .int line 0, .str "/claim/cut.py" d] }
noncomputable def theBody : List Stmt := PySem.Challenge.pw_pq0844_01.main.body
noncomputable def fOf (n q mod : Str) (ma code : Nat) : Stmt → Obj
  | .FunctionDef _ ps body _ _ _ scope _ _ _ => { cls := .type "function", data := .func { name := n, qualname := q, params := ps, body := .stmts body, scope := scope, globals := 3, closure := [], defaults := .none, kwdefaults := .none, pyModule := .str mod ma, code := .ref code } }
  | .ClassDef _ _ _ b _ _ _ _ _ _ _ => match b with
    | .FunctionDef _ ps body _ _ _ scope _ _ _ :: _ => { cls := .type "function", data := .func { name := n, qualname := q, params := ps, body := .stmts body, scope := scope, globals := 3, closure := [], defaults := .none, kwdefaults := .none, pyModule := .str mod ma, code := .ref code } }
    | _ => default
  | _ => default
noncomputable def fo (i : Nat) (n mod : Str) (ma code : Nat) : Obj := fOf n n mod ma code (theBody.getD i default)
noncomputable def fi (mod : Str) (ma code : Nat) : Obj := fOf "__init__" "Code.__init__" mod ma code (theBody.getD 1 default)
/-- the program without the rows that name a module -/
noncomputable def vw : Program := { PySem.Challenge.pw_pq0844_01 with main := { PySem.Challenge.pw_pq0844_01.main with body := ((theBody.eraseIdx 21).eraseIdx 13).eraseIdx 0 } }
noncomputable def KM (P : Params) : Frag := [
  (3, { cls := .type "dict", data := .dict #[ge P "__name__" 165 (.str "law_pq0844_01" 409), ge P "__doc__" 166 (.none), ge P "__package__" 167 (.none), ge P "__loader__" 168 (.builtin "__main__.__loader__#opaque"), ge P "__spec__" 169 (.none), ge P "__annotations__" 170 (.ref 6), ge P "__builtins__" 171 (.ref 4), ge P "__file__" 173 (.str "/claim/cut.py" 172), ge P "__cached__" 174 (.none), ge P "Code" 225 (.ref 31), ge P "shape_of" 233 (.ref 42), ge P "place_reads" 241 (.ref 49), ge P "part_reads" 251 (.ref 56), ge P "reads" 260 (.ref 63), ge P "target_of" 268 (.ref 70), ge P "with_target" 276 (.ref 77), ge P "behind_calls" 287 (.ref 84), ge P "nexts" 300 (.ref 91), ge P "catchers" 317 (.ref 98), ge P "moved" 325 (.ref 105), ge P "kept" 331 (.ref 110), ge P "reached" 343 (.ref 117), ge P "read_temps" 362 (.ref 124), ge P "is_mute" 369 (.ref 131), ge P "can_drop" 376 (.ref 138), ge P "without_to" 388 (.ref 145), ge P "without_empty" 394 (.ref 150), ge P "without_dead" 408 (.ref 157), ge P "_law_draw" 421 (.ref 164), ge P "_law_operand" 430 (.ref 171), ge P "_law_row" 443 (.ref 178), ge P "_law_trys" 457 (.ref 185), ge P "_law_value" 468 (.ref 192), ge P "_law_operands" 479 (.ref 199), ge P "_law_speaks" 485 (.ref 204), ge P "_law_given" 491 (.ref 209), ge P "_law_thrown" 505 (.ref 216), ge P "_law_goes" 513 (.ref 223), ge P "_law_step" 519 (.ref 228), ge P "_law_told" 530 (.ref 235), ge P "_law_ways" 548 (.ref 242), ge P "_law_closure" 558 (.ref 249), ge P "_law_left" 564 (.ref 254), ge P "_law_is_at_rest" 570 (.ref 259), ge P "law" 576 (.ref 264)] 45 }),
  (27, co "__init__" "Code.__init__" 201 4 6 22 (.ref 23) (.ref 24) (.ref 25) (.ref 26) 210 211),
  (28, fi "phpcore.rows" 187 27),
  (41, co "shape_of" "shape_of" 226 10 1 36 (.ref 37) (.ref 38) (.ref 39) (.ref 40) 231 232),
  (42, fo 2 "shape_of" "phpcore.rows" 187 41),
  (48, co "place_reads" "place_reads" 234 33 1 43 (.ref 44) (.ref 45) (.ref 46) (.ref 47) 239 240),
  (49, fo 3 "place_reads" "phpcore.rows" 187 48),
  (55, co "part_reads" "part_reads" 242 42 2 50 (.ref 51) (.ref 52) (.ref 53) (.ref 54) 249 250),
  (56, fo 4 "part_reads" "phpcore.rows" 187 55),
  (62, co "reads" "reads" 252 59 1 57 (.ref 58) (.ref 59) (.ref 60) (.ref 61) 258 259),
  (63, fo 5 "reads" "phpcore.rows" 187 62),
  (69, co "target_of" "target_of" 261 62 1 64 (.ref 65) (.ref 66) (.ref 67) (.ref 68) 266 267),
  (70, fo 6 "target_of" "phpcore.rows" 187 69),
  (76, co "with_target" "with_target" 269 65 2 71 (.ref 72) (.ref 73) (.ref 74) (.ref 75) 274 275),
  (77, fo 7 "with_target" "phpcore.rows" 187 76),
  (83, co "behind_calls" "behind_calls" 277 67 2 78 (.ref 79) (.ref 80) (.ref 81) (.ref 82) 285 286),
  (84, fo 8 "behind_calls" "phpcore.rows" 187 83),
  (90, co "nexts" "nexts" 288 74 2 85 (.ref 86) (.ref 87) (.ref 88) (.ref 89) 298 299),
  (91, fo 9 "nexts" "phpcore.rows" 187 90),
  (97, co "catchers" "catchers" 301 89 2 92 (.ref 93) (.ref 94) (.ref 95) (.ref 96) 315 316),
  (98, fo 10 "catchers" "phpcore.rows" 187 97),
  (104, co "moved" "moved" 318 105 2 99 (.ref 100) (.ref 101) (.ref 102) (.ref 103) 323 324),
  (105, fo 11 "moved" "phpcore.rows" 187 104),
  (109, co "kept" "kept" 326 107 2 106 (.ref 107) (.none) (.none) (.ref 108) 329 330),
  (110, fo 12 "kept" "phpcore.rows" 187 109),
  (116, co "reached" "reached" 334 127 1 111 (.ref 112) (.ref 113) (.ref 114) (.ref 115) 341 342),
  (117, fo 14 "reached" "phpcore.dead" 332 116),
  (123, co "read_temps" "read_temps" 344 137 2 118 (.ref 119) (.ref 120) (.ref 121) (.ref 122) 360 361),
  (124, fo 15 "read_temps" "phpcore.dead" 332 123),
  (130, co "is_mute" "is_mute" 363 150 1 125 (.ref 126) (.ref 127) (.ref 128) (.ref 129) 367 368),
  (131, fo 16 "is_mute" "phpcore.dead" 332 130),
  (137, co "can_drop" "can_drop" 370 154 1 132 (.ref 133) (.ref 134) (.ref 135) (.ref 136) 374 375),
  (138, fo 17 "can_drop" "phpcore.dead" 332 137),
  (144, co "without_to" "without_to" 377 156 2 139 (.ref 140) (.ref 141) (.ref 142) (.ref 143) 386 387),
  (145, fo 18 "without_to" "phpcore.dead" 332 144),
  (149, co "without_empty" "without_empty" 389 161 1 146 (.ref 147) (.none) (.none) (.ref 148) 392 393),
  (150, fo 19 "without_empty" "phpcore.dead" 332 149),
  (156, co "without_dead" "without_dead" 395 165 1 151 (.ref 152) (.ref 153) (.ref 154) (.ref 155) 406 407),
  (157, fo 20 "without_dead" "phpcore.dead" 332 156),
  (163, co "_law_draw" "_law_draw" 411 177 3 158 (.ref 159) (.ref 160) (.ref 161) (.ref 162) 419 420),
  (164, fo 22 "_law_draw" "law_pq0844_01" 409 163),
  (170, co "_law_operand" "_law_operand" 422 182 2 165 (.ref 166) (.ref 167) (.ref 168) (.ref 169) 428 429),
  (171, fo 23 "_law_operand" "law_pq0844_01" 409 170),
  (177, co "_law_row" "_law_row" 431 187 3 172 (.ref 173) (.ref 174) (.ref 175) (.ref 176) 441 442),
  (178, fo 24 "_law_row" "law_pq0844_01" 409 177),
  (184, co "_law_trys" "_law_trys" 444 207 3 179 (.ref 180) (.ref 181) (.ref 182) (.ref 183) 455 456),
  (185, fo 25 "_law_trys" "law_pq0844_01" 409 184),
  (191, co "_law_value" "_law_value" 458 218 2 186 (.ref 187) (.ref 188) (.ref 189) (.ref 190) 466 467),
  (192, fo 26 "_law_value" "law_pq0844_01" 409 191),
  (198, co "_law_operands" "_law_operands" 469 227 1 193 (.ref 194) (.ref 195) (.ref 196) (.ref 197) 477 478),
  (199, fo 27 "_law_operands" "law_pq0844_01" 409 198),
  (203, co "_law_speaks" "_law_speaks" 480 234 1 200 (.ref 201) (.none) (.none) (.ref 202) 483 484),
  (204, fo 28 "_law_speaks" "law_pq0844_01" 409 203),
  (208, co "_law_given" "_law_given" 486 238 2 205 (.ref 206) (.none) (.none) (.ref 207) 489 490),
  (209, fo 29 "_law_given" "law_pq0844_01" 409 208),
  (215, co "_law_thrown" "_law_thrown" 492 248 3 210 (.ref 211) (.ref 212) (.ref 213) (.ref 214) 503 504),
  (216, fo 30 "_law_thrown" "law_pq0844_01" 409 215),
  (222, co "_law_goes" "_law_goes" 506 256 2 217 (.ref 218) (.ref 219) (.ref 220) (.ref 221) 511 512),
  (223, fo 31 "_law_goes" "law_pq0844_01" 409 222),
  (227, co "_law_step" "_law_step" 514 258 3 224 (.ref 225) (.none) (.none) (.ref 226) 517 518),
  (228, fo 32 "_law_step" "law_pq0844_01" 409 227),
  (234, co "_law_told" "_law_told" 520 268 2 229 (.ref 230) (.ref 231) (.ref 232) (.ref 233) 528 529),
  (235, fo 33 "_law_told" "law_pq0844_01" 409 234),
  (241, co "_law_ways" "_law_ways" 531 279 2 236 (.ref 237) (.ref 238) (.ref 239) (.ref 240) 546 547),
  (242, fo 34 "_law_ways" "law_pq0844_01" 409 241),
  (248, co "_law_closure" "_law_closure" 549 288 1 243 (.ref 244) (.ref 245) (.ref 246) (.ref 247) 556 557),
  (249, fo 35 "_law_closure" "law_pq0844_01" 409 248),
  (253, co "_law_left" "_law_left" 559 297 1 250 (.ref 251) (.none) (.none) (.ref 252) 562 563),
  (254, fo 36 "_law_left" "law_pq0844_01" 409 253),
  (258, co "_law_is_at_rest" "_law_is_at_rest" 565 316 1 255 (.ref 256) (.none) (.none) (.ref 257) 568 569),
  (259, fo 37 "_law_is_at_rest" "law_pq0844_01" 409 258),
  (263, co "law" "law" 571 328 1 260 (.ref 261) (.none) (.none) (.ref 262) 574 575),
  (264, fo 38 "law" "law_pq0844_01" 409 263),
  (30, { cls := .type "dict", data := .dict #[ge P "__module__" 196 (.str "phpcore.rows" 187), ge P "__firstlineno__" 200 (.int 2 199), ge P "__init__" 212 (.ref 28), ge P "__static_attributes__" 218 (.ref 29), ge P "__dict__" 220 (.ref 32), ge P "__weakref__" 222 (.ref 33), ge P "__doc__" 223 (.none)] 4 }),
  (31, { cls := .type "type", data := .cls { name := "Code", bases := [.type "object"], mro := [.ref 31, .type "object"], ns := 30, qualname := "Code" }, slots := #[none, none, some (.str "Code" 189), some (.str "Code" 197), some (.builtin "object.__new__"), some (.bool true)] })]
noncomputable def asM : List Addr := [3, 27, 28, 41, 42, 48, 49, 55, 56, 62, 63, 69, 70, 76, 77, 83, 84, 90, 91, 97, 98, 104, 105, 109, 110, 116, 117, 123, 124, 130, 131, 137, 138, 144, 145, 149, 150, 156, 157, 163, 164, 170, 171, 177, 178, 184, 185, 191, 192, 198, 199, 203, 204, 208, 209, 215, 216, 222, 223, 227, 228, 234, 235, 241, 242, 248, 249, 253, 254, 258, 259, 263, 264, 30, 31]
theorem asM_eq : ∀ P, asM = (KM P).map (·.1) := fun _ => by kernel_rfl
end Mine

set_option maxRecDepth 100000
namespace Mine
open PySem

/-- parts of a text -/
noncomputable def Ss.drop1 : Ss → Ss | .cons _ r => r | .frz _ r => r | .nil => .nil
noncomputable def Ss.drop (s : Ss) : Nat → Ss | 0 => s | k + 1 => (s.drop1).drop k
noncomputable def Ss.hd : Ss → S | .cons s _ => s | .nil | .frz _ _ => .any
noncomputable def S.b : S → Ss | .fors _ _ b => b | .fore _ _ b => b | .whl _ b => b | .ifs _ a _ => a | .any | .asg _ _ | .setI _ _ _ | .app _ _ | .ext _ _ | .ret _ => .nil
noncomputable def Ss.body (s : Ss) (k : Nat) : Ss := ((s.drop k).hd).b
noncomputable def asgT (t : Tgt) (env : List D) (d : D) : Option (List D) := assignT env t d
noncomputable def asgG (env : List D) (t : Tgt) (d : D) : Option (List D) := assignT env t d
theorem py_none : D.py .none = some .none := rfl
theorem beq_dec {α : Type} [BEq α] [LawfulBEq α] [DecidableEq α] (a b : α) : (a == b) = decide (a = b) := by rw [Bool.eq_iff_iff]; simp
@[local simp] theorem ofString_inj (a b : String) : (Str.ofString a = Str.ofString b) = (a = b) := by
  apply propext
  constructor
  · intro h
    have h2 := congrArg (fun s : Str => s.cps.toList) h
    simp only [PyProof.Rows.signs_ofString] at h2
    have h3 : a.toList = b.toList := by
      refine List.map_inj_right (fun x y e => ?_) |>.mp h2
      exact Char.ext (UInt32.toNat_inj.mp e)
    exact String.toList_inj.mp h3
  · rintro rfl; rfl
@[local simp] theorem eqD_str (a b : Str) : eqD (.str a) (.str b) = some (decide (a = b)) := congrArg some (beq_dec a b)
@[local simp] theorem eqD_int (a b : Int) : eqD (.int a) (.int b) = some (decide (a = b)) := congrArg some (beq_dec a b)
@[local simp] theorem eqD_bool (a b : Bool) : eqD (.bool a) (.bool b) = some (decide (a = b)) := by cases a <;> cases b <;> rfl

theorem both_ss {α β γ : Type} (a : α) (b : β) (f : α → β → Option γ) : both (some a) (some b) f = f a b := rfl
theorem both_sn {α β γ : Type} (a : α) (f : α → β → Option γ) : both (some a) none f = none := rfl
theorem inD_cons {x y : D} {ys : List D} {p q : PyData} (hp : x.py = some p) (hq : y.py = some q) (h1 : shallow p = true) (h2 : shallow q = true) : inD x (y :: ys) = (inD x ys).map (fun r => q.eqv p || r) := by
  change both x.py (both y.py (D.pys ys) fun x xs => some (x :: xs)) _ = _
  unfold inD
  rw [hp, hq]
  cases D.pys ys with
  | none => rfl
  | some qs =>
    rw [both_ss, both_ss, both_ss, List.all_cons, h1, h2]
    cases h : qs.all shallow
    · rfl
    · rfl
@[local simp] theorem inD_str_nil (a : Str) : inD (.str a) [] = some false := rfl
@[local simp] theorem inD_int_nil (a : Int) : inD (.int a) [] = some false := rfl
@[local simp] theorem inD_str_cons (a b : Str) (ys : List D) : inD (.str a) (.str b :: ys) = (inD (.str a) ys).map (fun r => decide (b = a) || r) := by
  rw [inD_cons (p := .str a) (q := .str b) rfl rfl rfl rfl, ← beq_dec b a]; rfl
@[local simp] theorem inD_int_cons (a b : Int) (ys : List D) : inD (.int a) (.int b :: ys) = (inD (.int a) ys).map (fun r => decide (b = a) || r) := by
  rw [inD_cons (p := .int a) (q := .int b) rfl rfl rfl rfl, ← beq_dec b a]; rfl

variable (env : List D) (m : Mem)
@[local simp] theorem ev_cst (c : D) : ev (.cst c) env m = some (c, m) := rfl
@[local simp] theorem ev_frz (e : E) : ev (.frz e) env m = match ev e env m with | some (d, m) => freezeD m d | none => none := rfl
@[local simp] theorem ev_attr (e : E) (k : Nat) : ev (.attr e k) env m = match ev e env m with | some (.obj ds, m) => (match ds[k]? with | some d => some (d, m) | none => none) | _ => none := rfl
@[local simp] theorem ev_idx (e i : E) : ev (.idx e i) env m = match ev e env m with | some (d, m) => (match ev i env m with | some (k, m) => (match idxD m d k with | some r => some (r, m) | none => none) | none => none) | none => none := rfl
@[local simp] theorem ev_sub (e : E) (n : Nat) : ev (.sub e n) env m = match ev e env m with | some (d, m) => (match subD d n with | some r => some (r, m) | none => none) | none => none := rfl
@[local simp] theorem ev_rev (e : E) : ev (.rev e) env m = match ev e env m with | some (d, m) => (match revD d with | some r => some (r, m) | none => none) | none => none := rfl
@[local simp] theorem ev_lst (es : Es) : ev (.lst es) env m = match evs es env m with | some (ds, m) => some (.lst ds, m) | none => none := rfl
@[local simp] theorem ev_lstc (es : Es) : ev (.lstc es) env m = match evs es env m with | some (ds, m) => (if D.pures ds = true then some (.cell m.length, m ++ [some (.lst ds)]) else none) | none => none := rfl
@[local simp] theorem ev_tup (es : Es) : ev (.tup es) env m = match evs es env m with | some (ds, m) => some (.tup ds, m) | none => none := rfl
@[local simp] theorem ev_dicc : ev .dicc env m = some (.cell m.length, m ++ [some (.dic [] [])]) := rfl
@[local simp] theorem ev_dic (kvs : Kvs) : ev (.dic kvs) env m = match evs2 kvs env m with | some (ks, vs, m) => (if (ks.all isInt || ks.all isStr) && nodupK ks then some (.dic ks vs, m) else none) | none => none := rfl
@[local simp] theorem ev_bin (o : Bop) (a b : E) : ev (.bin o a b) env m = match ev a env m with | some (x, m) => (match ev b env m with | some (y, m) => (match binD o x y with | some r => some (r, m) | none => none) | none => none) | none => none := rfl
@[local simp] theorem ev_cmp (o : Cop) (a b : E) : ev (.cmp o a b) env m = match ev a env m with | some (x, m) => (match ev b env m with | some (y, m) => (match cmpD m o x y with | some r => some (.bool r, m) | none => none) | none => none) | none => none := rfl
@[local simp] theorem ev_and (es : Es) : ev (.and es) env m = evAnd es env m := rfl
@[local simp] theorem ev_or (es : Es) : ev (.or es) env m = evOr es env m := rfl
@[local simp] theorem ev_not (e : E) : ev (.not e) env m = match ev e env m with | some (d, m) => (match truth d with | some b => some (.bool (!b), m) | none => none) | none => none := rfl
@[local simp] theorem ev_ife (t a b : E) : ev (.ife t a b) env m = match tst t env m with | some (true, m) => ev a env m | some (false, m) => ev b env m | none => none := rfl
@[local simp] theorem ev_call (n : Str) (f : Fn) (es : Es) : ev (.call n f es) env m = match evs es env m with | some (ds, m) => f ds m | none => none := rfl
@[local simp] theorem ev_new (es : Es) : ev (.new es) env m = match evs es env m with | some (ds, m) => (if ds.length = 5 ∧ D.pures ds = true then some (.obj ds, m) else none) | none => none := rfl
@[local simp] theorem ev_bi (b : Bi) (e : E) : ev (.bi b e) env m = match ev e env m with | some (d, m) => (match biD m b d with | some r => some (r, m) | none => none) | none => none := rfl
@[local simp] theorem ev_pop (e : E) : ev (.pop e) env m = match ev e env m with | some (d, m) => popD m d | none => none := rfl
@[local simp] theorem ev_range3 (a b c : E) : ev (.range3 a b c) env m = match ev a env m with | some (.int i, m) => (match ev b env m with | some (.int j, m) => (match ev c env m with | some (.int k, m) => (if i.natAbs ≤ big ∧ j.natAbs ≤ big ∧ (k = 1 ∨ k = -1) then some (.rng i j k, m) else none) | _ => none) | _ => none) | _ => none := rfl
@[local simp] theorem ev_get (e k d : E) : ev (.get e k d) env m = match ev e env m with | some (x, m) => (match ev k env m with | some (y, m) => (match ev d env m with | some (z, m) => (match getD x y z with | some r => some (r, m) | none => none) | none => none) | none => none) | none => none := rfl
@[local simp] theorem ev_comp (g : Gens) : ev (.comp g) env m = match evG g env m with | some (l, m) => (if l.length ≤ big then some (.lst l, m) else none) | none => none := rfl
@[local simp] theorem evs_nil : evs .nil env m = some ([], m) := rfl
@[local simp] theorem evs_cons (e : E) (es : Es) : evs (.cons e es) env m = match ev e env m with | some (d, m) => (match evs es env m with | some (ds, m) => some (d :: ds, m) | none => none) | none => none := rfl
@[local simp] theorem evs2_nil : evs2 .nil env m = some ([], [], m) := rfl
@[local simp] theorem evs2_cons (k v : E) (r : Kvs) : evs2 (.cons k v r) env m = match ev k env m with | some (a, m) => (match ev v env m with | some (b, m) => (match evs2 r env m with | some (as, bs, m) => some (a :: as, b :: bs, m) | none => none) | none => none) | none => none := rfl
@[local simp] theorem evG_done (e : E) : evG (.done e) env m = match ev e env m with | some (d, m) => some ([d], m) | none => none := rfl
@[local simp] theorem evG_cons (t : Tgt) (e : E) (ifs : Es) (g : Gens) : evG (.cons t e ifs g) env m = match ev e env m with | some (d, m) => (match items d with | some ds => compL (asgG env t) (tstAnd ifs) (evG g) ds m | none => none) | none => none := rfl
@[local simp] theorem exs_nil : exs .nil env m = some (.next, env, m) := rfl
@[local simp] theorem exs_cons (s : S) (ss : Ss) : exs (.cons s ss) env m = match ex s env m with | some (.next, env, m) => exs ss env m | some (.ret d, env, m) => some (.ret d, env, m) | none => none := rfl
@[local simp] theorem exs_frz (i : Nat) (ss : Ss) : exs (.frz i ss) env m = match env[i]? with | some d => (match freezeD m d with | some (r, m) => exs ss (env.set i r) m | none => none) | none => none := rfl
@[local simp] theorem ex_asg (t : Tgt) (e : E) : ex (.asg t e) env m = match ev e env m with | some (d, m) => (match assignT env t d with | some env => some (.next, env, m) | none => none) | none => none := rfl
@[local simp] theorem ex_ret (e : E) : ex (.ret e) env m = match ev e env m with | some (d, m) => some (.ret d, env, m) | none => none := rfl
@[local simp] theorem ex_setI (o i e : E) : ex (.setI o i e) env m = match ev e env m with | some (d, m) => (match ev o env m with | some (x, m) => (match ev i env m with | some (k, m) => (match setD m x k d with | some m => some (.next, env, m) | none => none) | none => none) | none => none) | none => none := rfl
@[local simp] theorem ex_app (o e : E) : ex (.app o e) env m = match ev o env m with | some (x, m) => (if lstCell m x = true then (match ev e env m with | some (d, m) => (match appD m x d with | some m => some (.next, env, m) | none => none) | none => none) else none) | none => none := rfl
@[local simp] theorem ex_ext (o e : E) : ex (.ext o e) env m = match ev o env m with | some (x, m) => (if lstCell m x = true then (match ev e env m with | some (d, m) => (match extD m x d with | some m => some (.next, env, m) | none => none) | none => none) else none) | none => none := rfl
@[local simp] theorem ex_ifs (t : E) (a b : Ss) : ex (.ifs t a b) env m = match tst t env m with | some (true, m) => exs a env m | some (false, m) => exs b env m | none => none := rfl
@[local simp] theorem ex_fors (t : Tgt) (e : E) (b : Ss) : ex (.fors t e b) env m = match ev e env m with | some (d, m) => (match items d with | some ds => forL (asgT t) (exs b) ds env m | none => none) | none => none := rfl
@[local simp] theorem ex_fore (t : Tgt) (e : E) (b : Ss) : ex (.fore t e b) env m = match ev e env m with | some (.lst ds, m) => forL (asgT t) (exs b) (enumD ds 0) env m | _ => none := rfl
@[local simp] theorem ex_whl (t : E) (b : Ss) : ex (.whl t b) env m = whileN (tst t) (exs b) big env m := rfl
@[local simp] theorem tst_cmp (o : Cop) (a b : E) : tst (.cmp o a b) env m = match ev a env m with | some (x, m) => (match ev b env m with | some (y, m) => (match cmpD m o x y with | some r => some (r, m) | none => none) | none => none) | none => none := rfl
@[local simp] theorem tst_cmp2 (a b c : E) (o o' : Cop) : tst (.cmp2 a o b o' c) env m = match ev a env m with | some (x, m) => (match ev b env m with | some (y, m) => (match cmpD m o x y with | some true => (match ev c env m with | some (z, m) => (match cmpD m o' y z with | some r => some (r, m) | none => none) | none => none) | some false => some (false, m) | none => none) | none => none) | none => none := rfl
@[local simp] theorem tst_not (e : E) : tst (.not e) env m = match tst e env m with | some (b, m) => some (!b, m) | none => none := rfl
@[local simp] theorem tst_and (es : Es) : tst (.and es) env m = tstAnd es env m := rfl
@[local simp] theorem tst_or (es : Es) : tst (.or es) env m = tstOr es env m := rfl
@[local simp] theorem tst_call (n : Str) (f : Fn) (es : Es) : tst (.call n f es) env m = match evs es env m with | some (ds, m) => (match f ds m with | some (d, m) => (match truth d with | some b => some (b, m) | none => none) | none => none) | none => none := rfl
@[local simp] theorem tst_var (i : Nat) : tst (.var i) env m = match env[i]? with | some (.bool b) => some (b, m) | _ => none := rfl
@[local simp] theorem tst_idx (e i : E) : tst (.idx e i) env m = match ev e env m with | some (d, m) => (match ev i env m with | some (k, m) => (match idxD m d k with | some (.bool b) => some (b, m) | _ => none) | none => none) | none => none := rfl
@[local simp] theorem tstAnd_nil : tstAnd .nil env m = some (true, m) := rfl
@[local simp] theorem tstAnd_cons (e : E) (es : Es) : tstAnd (.cons e es) env m = match tst e env m with | some (true, m) => tstAnd es env m | some (false, m) => some (false, m) | none => none := rfl
@[local simp] theorem tstOr_nil : tstOr .nil env m = some (false, m) := rfl
@[local simp] theorem tstOr_cons (e : E) (es : Es) : tstOr (.cons e es) env m = match tst e env m with | some (false, m) => tstOr es env m | some (true, m) => some (true, m) | none => none := rfl
theorem tstAnd_one (e : E) : tstAnd (.cons e .nil) env m = tst e env m := by
  rw [tstAnd_cons]
  rcases tst e env m with _ | ⟨_ | _, _⟩ <;> simp
theorem tstOr_one (e : E) : tstOr (.cons e .nil) env m = tst e env m := by
  rw [tstOr_cons]
  rcases tst e env m with _ | ⟨_ | _, _⟩ <;> simp
@[local simp] theorem evAnd_one (e : E) : evAnd (.cons e .nil) env m = ev e env m := rfl
@[local simp] theorem evAnd_cons (e e' : E) (es : Es) : evAnd (.cons e (.cons e' es)) env m = match ev e env m with | some (d, m) => (match truth d with | some true => evAnd (.cons e' es) env m | some false => some (d, m) | none => none) | none => none := rfl
@[local simp] theorem evOr_one (e : E) : evOr (.cons e .nil) env m = ev e env m := rfl
@[local simp] theorem evOr_cons (e e' : E) (es : Es) : evOr (.cons e (.cons e' es)) env m = match ev e env m with | some (d, m) => (match truth d with | some false => evOr (.cons e' es) env m | some true => some (d, m) | none => none) | none => none := rfl
@[local simp] theorem asgT_v (i : Nat) (d : D) : asgT (.v i) env d = some (env.set i d) := rfl
@[local simp] theorem asgT_t (is : List Nat) (ds : List D) : asgT (.t is) env (.tup ds) = setMany env is ds := rfl
@[local simp] theorem asgG_v (i : Nat) (d : D) : asgG env (.v i) d = some (env.set i d) := rfl
@[local simp] theorem assignT_v (i : Nat) (d : D) : assignT env (.v i) d = some (env.set i d) := rfl
@[local simp] theorem assignT_t (is : List Nat) (ds : List D) : assignT env (.t is) (.tup ds) = setMany env is ds := rfl
@[local simp] theorem cmpD_eq (a b : D) : cmpD m .eq a b = eqD a b := rfl
@[local simp] theorem cmpD_ne (a b : D) : cmpD m .ne a b = (eqD a b).map (!·) := rfl
@[local simp] theorem cmpD_in_tup (a : D) (ds : List D) : cmpD m .isIn a (.tup ds) = inD a ds := rfl
@[local simp] theorem cmpD_in_lst (a : D) (ds : List D) : cmpD m .isIn a (.lst ds) = inD a ds := rfl
@[local simp] theorem cmpD_in_dic (a : D) (ks vs : List D) : cmpD m .isIn a (.dic ks vs) = if sameKind ks a then some (hasK a ks) else none := rfl
@[local simp] theorem cmpD_in_cell (a : D) (k : Nat) : cmpD m .isIn a (.cell k) = inC m a (.cell k) := rfl
@[local simp] theorem cmpD_notIn (a b : D) : cmpD m .notIn a b = (cmpD m .isIn a b).map (!·) := rfl
@[local simp] theorem cmpD_is (a : D) : cmpD m .is a .none = isNone a := rfl
@[local simp] theorem cmpD_isNot (a : D) : cmpD m .isNot a .none = (isNone a).map (!·) := rfl
@[local simp] theorem cmpD_lt (i j : Int) : cmpD m .lt (.int i) (.int j) = some (decide (i < j)) := rfl
@[local simp] theorem cmpD_le (i j : Int) : cmpD m .le (.int i) (.int j) = some (decide (i ≤ j)) := rfl
@[local simp] theorem cmpD_gt (i j : Int) : cmpD m .gt (.int i) (.int j) = some (decide (i > j)) := rfl
@[local simp] theorem cmpD_ge (i j : Int) : cmpD m .ge (.int i) (.int j) = some (decide (i ≥ j)) := rfl
@[local simp] theorem idxD_tup (ds : List D) (i : Int) : idxD m (.tup ds) (.int i) = at? ds i := rfl
@[local simp] theorem idxD_lst (ds : List D) (i : Int) : idxD m (.lst ds) (.int i) = at? ds i := rfl
@[local simp] theorem len_lst (ds : List D) : biD m .len (.lst ds) = some (.int ds.length) := rfl
@[local simp] theorem len_tup (ds : List D) : biD m .len (.tup ds) = some (.int ds.length) := rfl
@[local simp] theorem len_str (s : Str) : biD m .len (.str s) = if s.length ≤ 1000 then some (.int s.length) else none := rfl
@[local simp] theorem len_cell (k : Nat) : biD m .len (.cell k) = match m[k]? with | some (some (.lst ds)) => some (.int ds.length) | _ => none := rfl
@[local simp] theorem list_lst (ds : List D) : biD m .list (.lst ds) = some (.lst ds) := rfl
@[local simp] theorem list_tup (ds : List D) : biD m .list (.tup ds) = some (.lst ds) := rfl
@[local simp] theorem tuple_lst (ds : List D) : biD m .tuple (.lst ds) = some (.tup ds) := rfl
@[local simp] theorem range_int (n : Int) : biD m .range1 (.int n) = if n.natAbs ≤ big then some (.rng 0 n 1) else none := rfl
@[local simp] theorem bi_repr (d : D) : biD m .repr d = reprD d := rfl
@[local simp] theorem bi_sorted (d : D) : biD m .sorted d = sortedD d := rfl
@[local simp] theorem ev_var' (env : List D) (m : Mem) (i : Nat) : ev (.var i) env m = match env[i]? with | some d => rd m d | none => none := rfl
@[simp high] theorem ev_lstc_nil (env : List D) (m : Mem) : ev (.lstc .nil) env m = some (.cell m.length, m ++ [some (.lst [])]) := rfl
variable (n : Nat) (b : Ss) (m : Mem) (a a' a'' : D)
@[local simp] theorem runF1 : runF 1 n b [a] m = match exs b (a :: List.replicate (n - 1) .undef) m with | some (.ret d, _, m') => (if d.pure = true then some (d, m'.take m.length) else none) | some (.next, _, m') => some (.none, m'.take m.length) | none => none := rfl
@[local simp] theorem runF2 : runF 2 n b [a, a'] m = match exs b (a :: a' :: List.replicate (n - 2) .undef) m with | some (.ret d, _, m') => (if d.pure = true then some (d, m'.take m.length) else none) | some (.next, _, m') => some (.none, m'.take m.length) | none => none := rfl
@[local simp] theorem runF3 : runF 3 n b [a, a', a''] m = match exs b (a :: a' :: a'' :: List.replicate (n - 3) .undef) m with | some (.ret d, _, m') => (if d.pure = true then some (d, m'.take m.length) else none) | some (.next, _, m') => some (.none, m'.take m.length) | none => none := rfl
@[local simp] theorem isNone_none : isNone .none = some true := rfl
@[local simp] theorem isNone_int (i : Int) : isNone (.int i) = some false := rfl
@[local simp] theorem isNone_str (i : Str) : isNone (.str i) = some false := rfl
@[local simp] theorem isNone_bool (i : Bool) : isNone (.bool i) = some false := rfl
@[local simp] theorem isNone_tup (i : List D) : isNone (.tup i) = some false := rfl
@[local simp] theorem isNone_lst (i : List D) : isNone (.lst i) = some false := rfl
@[local simp] theorem truth_bool (b : Bool) : truth (.bool b) = some b := rfl
@[local simp] theorem setMany_nil (env : List D) : setMany env [] [] = some env := rfl
@[local simp] theorem setMany_cons (env : List D) (i : Nat) (is : List Nat) (d : D) (ds : List D) : setMany env (i :: is) (d :: ds) = setMany (env.set i d) is ds := rfl
@[local simp] theorem at?_zero (x : D) (ds : List D) : at? (x :: ds) 0 = some x := rfl
@[local simp] theorem at?_one (x y : D) (ds : List D) : at? (x :: y :: ds) 1 = some y := rfl
@[local simp] theorem at?_two (x y z : D) (ds : List D) : at? (x :: y :: z :: ds) 2 = some z := rfl
@[local simp] theorem at?_three (x y z w : D) (ds : List D) : at? (x :: y :: z :: w :: ds) 3 = some w := rfl
@[local simp] theorem at?_four (x y z w u : D) (ds : List D) : at? (x :: y :: z :: w :: u :: ds) 4 = some u := rfl
@[local simp] theorem at?_nat (ds : List D) (i : Nat) : at? ds (i : Nat) = ds[i]? := by
  simp [at?]
@[local simp] theorem items_lst (ds : List D) : items (.lst ds) = some ds := rfl
@[local simp] theorem items_tup (ds : List D) : items (.tup ds) = some ds := rfl
@[local simp] theorem items_rng (a b c : Int) : items (.rng a b c) = rngItems a b c := rfl
theorem rngItems_up (n : Nat) : rngItems 0 n 1 = some ((List.range n).map fun i => D.int (i : Nat)) := by
  simp [rngItems]
@[local simp] theorem rev_lst (ds : List D) : revD (.lst ds) = some (.lst ds.reverse) := rfl
@[local simp] theorem sub_lst (ds : List D) (n : Nat) : subD (.lst ds) n = some (.lst (ds.take n)) := rfl
@[local simp] theorem sub_tup (ds : List D) (n : Nat) : subD (.tup ds) n = some (.tup (ds.take n)) := rfl

@[local simp] theorem binD_int (i j : Int) : binD .add (.int i) (.int j) = some (.int (i + j)) := rfl
@[local simp] theorem binD_sub (i j : Int) : binD .sub (.int i) (.int j) = some (.int (i - j)) := rfl
@[local simp] theorem binD_lst (x y : List D) : binD .add (.lst x) (.lst y) = if x.length + y.length ≤ big then some (.lst (x ++ y)) else none := rfl
@[local simp] theorem binD_tup (x y : List D) : binD .add (.tup x) (.tup y) = if x.length + y.length ≤ big ∧ 0 < x.length ∧ 0 < y.length then some (.tup (x ++ y)) else none := rfl
@[local simp] theorem binD_str (x y : Str) : binD .add (.str x) (.str y) = if x.length + y.length ≤ big then some (.str (x ++ y)) else none := rfl
@[local simp] theorem binD_mod (i j : Int) : binD .mod (.int i) (.int j) = if 0 < j ∧ j ≤ big then some (.int (i % j)) else none := rfl
@[local simp] theorem binD_mul (i j : Int) : binD .mul (.int i) (.int j) = if i.natAbs ≤ big ∧ j.natAbs ≤ big then some (.int (i * j)) else none := rfl
@[local simp] theorem binD_pow (i j : Int) : binD .pow (.int i) (.int j) = if 0 ≤ i ∧ i ≤ 3 ∧ 0 ≤ j ∧ j ≤ 1000 then some (.int (i ^ j.toNat)) else none := rfl
@[local simp] theorem big_le1 : 1 ≤ big := by decide
@[local simp] theorem big_le2 : 2 ≤ big := by decide
@[local simp] theorem big_le3 : 3 ≤ big := by decide
@[local simp] theorem big_le4 : 4 ≤ big := by decide
@[local simp] theorem big_le5 : 5 ≤ big := by decide
@[local simp] theorem big_le6 : 6 ≤ big := by decide
@[local simp] theorem big_le7 : 7 ≤ big := by decide
@[local simp] theorem big_le8 : 8 ≤ big := by decide
@[local simp] theorem big_le9 : 9 ≤ big := by decide
@[local simp] theorem big_le10 : 10 ≤ big := by decide
@[local simp] theorem big_le11 : 11 ≤ big := by decide
@[local simp] theorem big_le12 : 12 ≤ big := by decide
@[local simp] theorem big_le13 : 13 ≤ big := by decide
@[local simp] theorem big_le14 : 14 ≤ big := by decide
@[local simp] theorem big_le15 : 15 ≤ big := by decide
@[local simp] theorem big_le16 : 16 ≤ big := by decide
@[local simp] theorem big_le17 : 17 ≤ big := by decide
@[local simp] theorem big_le18 : 18 ≤ big := by decide
@[local simp] theorem big_le19 : 19 ≤ big := by decide
@[local simp] theorem big_le20 : 20 ≤ big := by decide
@[local simp] theorem big_lt0 : 0 < big := by decide
@[local simp] theorem big_lt1 : 1 < big := by decide
@[local simp] theorem big_lt2 : 2 < big := by decide
@[local simp] theorem big_lt3 : 3 < big := by decide
@[local simp] theorem big_lt4 : 4 < big := by decide
@[local simp] theorem big_lt5 : 5 < big := by decide
@[local simp] theorem big_lt6 : 6 < big := by decide
@[local simp] theorem big_lt7 : 7 < big := by decide
@[local simp] theorem big_lt8 : 8 < big := by decide
@[local simp] theorem big_lt9 : 9 < big := by decide
@[local simp] theorem big_lt10 : 10 < big := by decide
@[local simp] theorem big_lt11 : 11 < big := by decide
@[local simp] theorem big_lt12 : 12 < big := by decide
@[local simp] theorem big_lt13 : 13 < big := by decide
@[local simp] theorem big_lt14 : 14 < big := by decide
@[local simp] theorem big_lt15 : 15 < big := by decide
@[local simp] theorem big_lt16 : 16 < big := by decide
@[local simp] theorem big_lt17 : 17 < big := by decide
@[local simp] theorem big_lt18 : 18 < big := by decide
@[local simp] theorem big_lt19 : 19 < big := by decide
@[local simp] theorem big_lt20 : 20 < big := by decide
theorem big_le (n : Nat) (h : n ≤ 1000) : n ≤ big := Nat.le_trans h (by decide)
theorem big_lt (n : Nat) (h : n ≤ 1000) : n < big := Nat.lt_of_le_of_lt h (by decide)
@[local simp] theorem pures_nil : D.pures [] = true := rfl
@[local simp] theorem pures_cons (d : D) (ds : List D) : D.pures (d :: ds) = (d.pure && D.pures ds) := rfl
@[local simp] theorem pures_append (ds es : List D) : D.pures (ds ++ es) = (D.pures ds && D.pures es) := by
  induction ds with
  | nil => simp
  | cons d ds ih => simp [ih, Bool.and_assoc]
@[local simp] theorem pure_tup (ds : List D) : D.pure (.tup ds) = D.pures ds := rfl
@[local simp] theorem pure_lst (ds : List D) : D.pure (.lst ds) = D.pures ds := rfl
@[local simp] theorem pure_dic (ks vs : List D) : D.pure (.dic ks vs) = (D.pures ks && D.pures vs) := rfl
@[local simp] theorem pure_obj (ds : List D) : D.pure (.obj ds) = D.pures ds := rfl
@[local simp] theorem pure_none : D.pure .none = true := rfl
@[local simp] theorem pure_int (i : Int) : D.pure (.int i) = true := rfl
@[local simp] theorem pure_str (i : Str) : D.pure (.str i) = true := rfl
@[local simp] theorem pure_bool (i : Bool) : D.pure (.bool i) = true := rfl
theorem pures_map {α : Type} (f : α → D) (l : List α) (h : ∀ a, (f a).pure = true) : D.pures (l.map f) = true := by
  induction l with
  | nil => simp
  | cons a l ih => simp [h, ih]
theorem pures_of (l : List D) (h : ∀ d ∈ l, d.pure = true) : D.pures l = true := by
  induction l with
  | nil => simp
  | cons a l ih => simp only [pures_cons, Bool.and_eq_true]; exact ⟨h a (by simp), ih fun d hd => h d (by simp [hd])⟩

@[simp high] theorem nth_zero {α : Type} (d : α) (l : List α) : (d :: l)[0]? = some d := rfl
@[simp high] theorem nth_succ {α : Type} (d : α) (l : List α) (i : Nat) : (d :: l)[i + 1]? = l[i]? := rfl
@[simp high] theorem put_zero {α : Type} (d x : α) (l : List α) : (d :: l).set 0 x = x :: l := rfl
@[simp high] theorem put_succ {α : Type} (d x : α) (l : List α) (i : Nat) : (d :: l).set (i + 1) x = d :: l.set i x := rfl
-- memory with local cells behind m
@[simp high] theorem mget (m l : Mem) (j : Nat) : (m ++ l)[m.length + j]? = l[j]? := by
  rw [List.getElem?_append_right (by lia)]; congr 1; lia
@[simp high] theorem mget0 (m l : Mem) : (m ++ l)[m.length]? = l[0]? := mget m l 0
@[simp high] theorem mset (m l : Mem) (j : Nat) (x : Option Cell) : (m ++ l).set (m.length + j) x = m ++ l.set j x := by
  rw [List.set_append_right _ _ (by lia)]; congr 2; lia
@[simp high] theorem mset0 (m l : Mem) (x : Option Cell) : (m ++ l).set m.length x = m ++ l.set 0 x := mset m l 0 x
@[simp high] theorem mtake (m l : Mem) : (m ++ l).take m.length = m := List.take_left
noncomputable def appL (m l : Mem) (j : Nat) (d : D) : Option Mem := match l[j]? with
  | some (some (.lst ds)) => if ds.length < big ∧ d.pure = true then some (m ++ l.set j (some (.lst (ds ++ [d])))) else none
  | _ => none
noncomputable def lstL (l : Mem) (j : Nat) : Bool := match l[j]? with | some (some (.lst _)) => true | _ => false
noncomputable def frzL (m l : Mem) (j : Nat) : Option (D × Mem) := match l[j]? with
  | some (some (.lst ds)) => some (.lst ds, m ++ l.set j none)
  | some (some (.dic ks vs)) => some (.dic ks vs, m ++ l.set j none)
  | _ => none
@[simp high] theorem appD_mem (m l : Mem) (j : Nat) (d : D) : appD (m ++ l) (.cell (m.length + j)) d = appL m l j d := by
  unfold appD appL; dsimp only; rw [mget]; rcases l[j]? with _ | _ | _ | _ <;> first | rfl | (dsimp only; rw [mset])
@[simp high] theorem appD_mem0 (m l : Mem) (d : D) : appD (m ++ l) (.cell m.length) d = appL m l 0 d := appD_mem m l 0 d
@[simp high] theorem lstCell_mem (m l : Mem) (j : Nat) : lstCell (m ++ l) (.cell (m.length + j)) = lstL l j := by
  unfold lstCell lstL; dsimp only; rw [mget] <;> (rcases l[j]? with _ | _ | _ | _ <;> rfl)
@[simp high] theorem lstCell_mem0 (m l : Mem) : lstCell (m ++ l) (.cell m.length) = lstL l 0 := lstCell_mem m l 0
@[simp high] theorem freeze_mem (m l : Mem) (j : Nat) : freezeD (m ++ l) (.cell (m.length + j)) = frzL m l j := by
  unfold freezeD frzL; dsimp only; rw [mget]; rcases l[j]? with _ | _ | _ | _ <;> first | rfl | (dsimp only; rw [mset])
@[simp high] theorem freeze_mem0 (m l : Mem) : freezeD (m ++ l) (.cell m.length) = frzL m l 0 := freeze_mem m l 0
variable (m l : Mem) (x x1 x2 x3 : Option Cell) (j : Nat) (d : D) (ds ks vs : List D)
@[local simp] theorem appL_zero : appL m (some (.lst ds) :: l) 0 d = if ds.length < big ∧ d.pure = true then some (m ++ some (.lst (ds ++ [d])) :: l) else none := rfl
@[local simp] theorem lstL_zero : lstL (some (.lst ds) :: l) 0 = true := rfl
@[local simp] theorem lstL_succ : lstL (x :: l) (j + 1) = lstL l j := rfl
@[local simp] theorem frzL_zero : frzL m (some (.lst ds) :: l) 0 = some (.lst ds, m ++ none :: l) := rfl
@[local simp] theorem frzL_dic : frzL m (some (.dic ks vs) :: l) 0 = some (.dic ks vs, m ++ none :: l) := rfl
@[local simp] theorem appL_1 : appL m (x :: some (.lst ds) :: l) 1 d = if ds.length < big ∧ d.pure = true then some (m ++ x :: some (.lst (ds ++ [d])) :: l) else none := rfl
@[local simp] theorem frzL_1 : frzL m (x :: some (.lst ds) :: l) 1 = some (.lst ds, m ++ x :: none :: l) := rfl
@[local simp] theorem appL_2 : appL m (x :: x1 :: some (.lst ds) :: l) 2 d = if ds.length < big ∧ d.pure = true then some (m ++ x :: x1 :: some (.lst (ds ++ [d])) :: l) else none := rfl
@[local simp] theorem frzL_2 : frzL m (x :: x1 :: some (.lst ds) :: l) 2 = some (.lst ds, m ++ x :: x1 :: none :: l) := rfl
@[local simp] theorem appL_3 : appL m (x :: x1 :: x2 :: some (.lst ds) :: l) 3 d = if ds.length < big ∧ d.pure = true then some (m ++ x :: x1 :: x2 :: some (.lst (ds ++ [d])) :: l) else none := rfl
@[local simp] theorem frzL_3 : frzL m (x :: x1 :: x2 :: some (.lst ds) :: l) 3 = some (.lst ds, m ++ x :: x1 :: x2 :: none :: l) := rfl
@[local simp] theorem appL_4 : appL m (x :: x1 :: x2 :: x3 :: some (.lst ds) :: l) 4 d = if ds.length < big ∧ d.pure = true then some (m ++ x :: x1 :: x2 :: x3 :: some (.lst (ds ++ [d])) :: l) else none := rfl
@[local simp] theorem frzL_4 : frzL m (x :: x1 :: x2 :: x3 :: some (.lst ds) :: l) 4 = some (.lst ds, m ++ x :: x1 :: x2 :: x3 :: none :: l) := rfl
variable (m : Mem) (k : Nat) (ds : List D)
theorem lstCell_of (h : m[k]? = some (some (.lst ds))) : lstCell m (.cell k) = true := by simp [lstCell, h]
theorem appD_of (h : m[k]? = some (some (.lst ds))) (d : D) : appD m (.cell k) d = if ds.length < big ∧ d.pure = true then some (m.set k (some (.lst (ds ++ [d])))) else none := by simp [appD, h]
theorem freeze_of (h : m[k]? = some (some (.lst ds))) : freezeD m (.cell k) = some (.lst ds, m.set k none) := by simp [freezeD, h]
theorem freeze_dic (ks vs : List D) (h : m[k]? = some (some (.dic ks vs))) : freezeD m (.cell k) = some (.dic ks vs, m.set k none) := by simp [freezeD, h]
/-- one turn of a loop -/
theorem forL_step {asg : List D → D → Option (List D)} {b : List D → Mem → Option (Fl × List D × Mem)} {d : D} {ds ρ ρ₁ ρ' : List D} {m m' : Mem} (ha : asg ρ d = some ρ₁) (hb : b ρ₁ m = some (.next, ρ', m')) : forL asg b (d :: ds) ρ m = forL asg b ds ρ' m' := by
  show (match asg ρ d with | some env => (match b env m with | some (.next, env, m) => forL asg b ds env m | some (.ret d, env, m) => some (.ret d, env, m) | none => none) | none => none) = _
  rw [ha]; show (match b ρ₁ m with | some (.next, env, m) => forL asg b ds env m | some (.ret d, env, m) => some (.ret d, env, m) | none => none) = _
  rw [hb]
/-- one turn of a comprehension without tests -/
theorem compL_step {asg : D → Option (List D)} {inner : List D → Mem → Option (List D × Mem)} {d : D} {ds l r ρ : List D} {m m₁ m₂ : Mem} (ha : asg d = some ρ) (hi : inner ρ m = some (l, m₁)) (hr : compL asg (tstAnd .nil) inner ds m₁ = some (r, m₂)) :
    compL asg (tstAnd .nil) inner (d :: ds) m = some (l ++ r, m₂) := by
  rw [compL]
  simp only [ha, tstAnd_nil, hi, hr]
theorem lt_big {a b n : Nat} (h : a + (b + 1) ≤ 900) : a < big := big_lt a (Nat.le_trans (Nat.le_add_right _ _) (Nat.le_trans h (by decide)))
theorem snoc_le {α : Type} {l : List α} {x : α} {n : Nat} (h : l.length + (n + 1) ≤ 900) : (l ++ [x]).length + n ≤ 900 := by
  rw [List.length_append, Nat.add_assoc, Nat.add_comm [x].length]; exact h
theorem snoc_le' {F : List Nat} {b : Bool} {x n : Nat} (h : F.length + (n + 1) ≤ 900) : (F ++ (if b = true then [x] else [])).length + n ≤ 900 := by
  cases b
  · rw [if_neg Bool.false_ne_true, List.append_nil]; exact Nat.le_trans (Nat.le_succ _) h
  · exact snoc_le h
theorem forL_ret {asg : List D → D → Option (List D)} {b : List D → Mem → Option (Fl × List D × Mem)} {d r : D} {ds ρ ρ₁ ρ' : List D} {m m' : Mem} (ha : asg ρ d = some ρ₁) (hb : b ρ₁ m = some (.ret r, ρ', m')) : forL asg b (d :: ds) ρ m = some (.ret r, ρ', m') := by
  show (match asg ρ d with | some env => (match b env m with | some (.next, env, m) => forL asg b ds env m | some (.ret d, env, m) => some (.ret d, env, m) | none => none) | none => none) = _
  rw [ha]; show (match b ρ₁ m with | some (.next, env, m) => forL asg b ds env m | some (.ret d, env, m) => some (.ret d, env, m) | none => none) = _
  rw [hb]

set_option maxRecDepth 100000
open PySem

variable (m : Mem)
@[local simp] theorem rd_none : rd m .none = some (.none, m) := rfl
@[local simp] theorem rd_int (i : Int) : rd m (.int i) = some (.int i, m) := rfl
@[local simp] theorem rd_str (i : Str) : rd m (.str i) = some (.str i, m) := rfl
@[local simp] theorem rd_bool (i : Bool) : rd m (.bool i) = some (.bool i, m) := rfl
@[local simp] theorem rd_tup (i : List D) : rd m (.tup i) = some (.tup i, m) := rfl
@[local simp] theorem rd_lst (i : List D) : rd m (.lst i) = some (.lst i, m) := rfl
@[local simp] theorem rd_obj (i : List D) : rd m (.obj i) = some (.obj i, m) := rfl
@[local simp] theorem rd_dic (i j : List D) : rd m (.dic i j) = some (.dic i j, m) := rfl
@[local simp] theorem rd_cell (i : Nat) : rd m (.cell i) = some (.cell i, m) := rfl
theorem rd_of {d : D} (h : d.pure = true) : rd m d = some (d, m) := by
  cases d <;> first | rfl | (rw [D.pure] at h; cases h)

set_option genCtorIdx true in
inductive Lit where | none | tt | x | zero
set_option genInjectivity true in
inductive Opd where | lit (v : Lit) | tmp (k : Nat) | cv (k : Nat)
noncomputable def Opd.ctorIdx (x : Opd) : Nat := Opd.casesOn (motive := fun _ => Nat) x (fun _ => 0) (fun _ => 1) (fun _ => 2)
set_option genCtorIdx true in
inductive Jk where | jif | unless | set
inductive Row where
  | array (to : Nat)
  | move (to : Nat) (a : Opd)
  | bool (to : Nat) (a : Opd)
  | binary (to : Nat) (a b : Opd)
  | lelem (to : Option Nat) (a : Opd)
  | write (to : Nat) (a b : Opd)
  | echo (a : Opd)
  | throw (a : Opd)
  | ret (a : Opd)
  | jump (t : Nat)
  | jif (k : Jk) (a : Opd) (t : Nat)
noncomputable def Row.ctorIdx (x : Row) : Nat := Row.casesOn (motive := fun _ => Nat) x (fun _ => 0) (fun _ _ => 1) (fun _ _ => 2) (fun _ _ _ => 3) (fun _ _ => 4) (fun _ _ _ => 5) (fun _ => 6) (fun _ => 7) (fun _ => 8) (fun _ => 9) (fun _ _ _ => 10)
structure Try where
  first : Nat
  behind : Nat
  fin : Nat
  ret : Option Nat
structure Life where
  temp : Nat
  first : Nat
  behind : Nat
structure Cod where
  rows : List Row
  trys : List Try
  lives : List Life

noncomputable def onat : Option Nat → D
  | none => .none
  | some k => .int (k : Nat)
noncomputable def Lit.enc : Lit → D | .none => .none | .tt => .bool true | .x => .str "x" | .zero => .int 0
noncomputable def Opd.enc : Opd → D
  | .lit v => .tup [.str "lit", v.enc]
  | .tmp k => .tup [.str "tmp", .int (k : Nat)]
  | .cv k => .tup [.str "cv", .int (k : Nat)]
noncomputable def Opd.sort : Opd → Str | .lit _ => "lit" | .tmp _ => "tmp" | .cv _ => "cv"
noncomputable def Opd.held : Opd → D | .lit v => v.enc | .tmp k => .int (k : Nat) | .cv k => .int (k : Nat)
theorem Opd.enc_eq (a : Opd) : a.enc = .tup [.str a.sort, a.held] := by cases a <;> rfl
noncomputable def Jk.op : Jk → Str | .jif => "jump_if" | .unless => "jump_unless" | .set => "jump_set"
noncomputable def zeroD : D := .tup [.str "lit", .int 0]
noncomputable def wD : D := .tup [.str "lit", .str "w"]
/-- the four parts of a row -/
noncomputable def Row.op : Row → Str
  | .array _ => "array" | .move _ _ => "move" | .bool _ _ => "bool" | .binary _ _ _ => "binary" | .lelem _ _ => "list_elem" | .write _ _ _ => "write"
  | .echo _ => "echo" | .throw _ => "throw" | .ret _ => "return" | .jump _ => "jump" | .jif k _ _ => k.op
noncomputable def Row.to : Row → Option Nat
  | .array t => some t | .move t _ => some t | .bool t _ => some t | .binary t _ _ => some t | .lelem t _ => t | .write t _ _ => some t
  | .echo _ | .throw _ | .ret _ | .jump _ | .jif _ _ _ => none
noncomputable def Row.pa : Row → D
  | .array _ => .none | .move _ a => a.enc | .bool _ a => a.enc | .binary _ a b => .tup [a.enc, b.enc] | .lelem _ a => .tup [a.enc, zeroD]
  | .write _ a _ => .tup [.str "dim", .tup [.str "var", wD], a.enc]
  | .echo a => a.enc | .throw a => a.enc | .ret a => a.enc | .jump _ => .none | .jif _ a _ => a.enc
noncomputable def Row.pb : Row → D
  | .binary _ _ _ => .str "+" | .write _ _ b => b.enc | .jump t => .int (t : Nat) | .jif _ _ t => .int (t : Nat)
  | .array _ | .move _ _ | .bool _ _ | .lelem _ _ | .echo _ | .throw _ | .ret _ => .none
noncomputable def Row.enc (r : Row) : D := .tup [.str r.op, onat r.to, r.pa, r.pb]
noncomputable def Row.head (r : Row) : D := .tup [.str r.op, onat r.to]
noncomputable def Try.catchD (t : Try) : D := match t.ret with | none => .int (t.behind : Nat) | some _ => .none
noncomputable def Try.finalD (t : Try) : D := match t.ret with | none => .none | some _ => .int (t.behind : Nat)
noncomputable def Try.enc (t : Try) : D := .tup [.int (t.first : Nat), t.catchD, t.finalD, .int (t.fin : Nat), onat t.ret]
noncomputable def Life.enc (l : Life) : D := .tup [.int (l.temp : Nat), .int (l.first : Nat), .int (l.behind : Nat), .str "call"]
noncomputable def namesD : D := .lst [.str "a", .str "b"]
noncomputable def Cod.enc (c : Cod) : D := .obj [.lst (c.rows.map Row.enc), namesD, .int 4, .lst (c.trys.map Try.enc), .lst (c.lives.map Life.enc)]
noncomputable def nats (L : List Nat) : List D := L.map fun (k : Nat) => D.int (k : Nat)

@[local simp] theorem Lit.pure (v : Lit) : v.enc.pure = true := by cases v <;> rfl
@[local simp] theorem Opd.pure_held (a : Opd) : a.held.pure = true := by cases a <;> simp [Opd.held]
@[local simp] theorem Opd.pure (a : Opd) : a.enc.pure = true := by simp [Opd.enc_eq]
@[local simp] theorem wD_pure : wD.pure = true := rfl
@[local simp] theorem zeroD_pure : zeroD.pure = true := rfl
@[local simp] theorem onat_pure (k : Option Nat) : (onat k).pure = true := by cases k <;> simp [onat]
@[local simp] theorem pa_pure (r : Row) : r.pa.pure = true := by cases r <;> simp [Row.pa]
@[local simp] theorem pb_pure (r : Row) : r.pb.pure = true := by cases r <;> simp [Row.pb]
@[local simp] theorem Row.pure (r : Row) : r.enc.pure = true := by simp [Row.enc]
@[local simp] theorem Try.pure_c (t : Try) : t.catchD.pure = true := by unfold Try.catchD; split <;> simp
@[local simp] theorem Try.pure_f (t : Try) : t.finalD.pure = true := by unfold Try.finalD; split <;> simp
@[local simp] theorem Try.pure (t : Try) : t.enc.pure = true := by simp [Try.enc]
@[local simp] theorem Life.pure (t : Life) : t.enc.pure = true := by simp [Life.enc]
@[local simp] theorem namesD_pure : namesD.pure = true := by simp [namesD]
@[local simp] theorem rows_pures (l : List Row) : D.pures (l.map Row.enc) = true := pures_map _ _ Row.pure
@[local simp] theorem trys_pures (l : List Try) : D.pures (l.map Try.enc) = true := pures_map _ _ Try.pure
@[local simp] theorem lives_pures (l : List Life) : D.pures (l.map Life.enc) = true := pures_map _ _ Life.pure
@[local simp] theorem nats_pures (l : List Nat) : D.pures (nats l) = true := pures_map _ _ fun _ => by simp
@[local simp] theorem Cod.pure (c : Cod) : c.enc.pure = true := by simp [Cod.enc]
variable (m : Mem)
@[local simp] theorem rd_opd (a : Opd) : rd m a.enc = some (a.enc, m) := rd_of m (by simp)
@[local simp] theorem rd_held (a : Opd) : rd m a.held = some (a.held, m) := rd_of m (by simp)
@[local simp] theorem rd_row (a : Row) : rd m a.enc = some (a.enc, m) := rd_of m (by simp)
@[local simp] theorem rd_pa (a : Row) : rd m a.pa = some (a.pa, m) := rd_of m (by simp)
@[local simp] theorem rd_pb (a : Row) : rd m a.pb = some (a.pb, m) := rd_of m (by simp)
@[local simp] theorem rd_try (a : Try) : rd m a.enc = some (a.enc, m) := rd_of m (by simp)
@[local simp] theorem rd_catch (a : Try) : rd m a.catchD = some (a.catchD, m) := rd_of m (by simp)
@[local simp] theorem rd_final (a : Try) : rd m a.finalD = some (a.finalD, m) := rd_of m (by simp)
@[local simp] theorem rd_life (a : Life) : rd m a.enc = some (a.enc, m) := rd_of m (by simp)
@[local simp] theorem rd_onat (a : Option Nat) : rd m (onat a) = some (onat a, m) := rd_of m (by simp)
@[local simp] theorem rd_lit (a : Lit) : rd m a.enc = some (a.enc, m) := rd_of m (by simp)
@[local simp] theorem rd_cod (a : Cod) : rd m a.enc = some (a.enc, m) := rd_of m (by simp)
@[local simp] theorem rd_wD : rd m wD = some (wD, m) := rfl
@[local simp] theorem rd_zeroD : rd m zeroD = some (zeroD, m) := rfl
@[local simp] theorem idx_row0 (r : Row) : idxD m r.enc (.int 0) = some (.str r.op) := rfl
@[local simp] theorem idx_row1 (r : Row) : idxD m r.enc (.int 1) = some (onat r.to) := rfl
@[local simp] theorem idx_row2 (r : Row) : idxD m r.enc (.int 2) = some r.pa := rfl
@[local simp] theorem idx_row3 (r : Row) : idxD m r.enc (.int 3) = some r.pb := rfl
@[local simp] theorem idx_opd0 (r : Opd) : idxD m r.enc (.int 0) = some (.str r.sort) := by rw [Opd.enc_eq]; rfl
@[local simp] theorem idx_opd1 (r : Opd) : idxD m r.enc (.int 1) = some r.held := by rw [Opd.enc_eq]; rfl
@[local simp] theorem isNone_opd (a : Opd) : isNone a.enc = some false := by cases a <;> rfl
@[local simp] theorem isNone_onat (k : Option Nat) : isNone (onat k) = some (decide (k = none)) := by cases k <;> simp [onat]
@[local simp] theorem onat_some (k : Nat) : onat (some k) = .int (k : Nat) := rfl
@[local simp] theorem onat_none : onat none = .none := rfl
theorem wD_tup : wD = .tup [.str "lit", .str "w"] := rfl
theorem zeroD_tup : zeroD = .tup [.str "lit", .int 0] := rfl

/-- what a row reads, as the pass sees it -/
noncomputable def Row.reads : Row → List D
  | .array _ => []
  | .move _ a => [a.enc]
  | .bool _ a => [a.enc]
  | .binary _ a b => [a.enc, b.enc]
  | .lelem _ a => [a.enc, zeroD]
  | .write _ a b => [wD, a.enc, b.enc]
  | .echo a => [a.enc]
  | .throw a => [a.enc]
  | .ret a => [a.enc]
  | .jump _ => []
  | .jif _ a _ => [a.enc]

noncomputable def Row.shape1 : Row → Str
  | .array _ => "-" | .move _ _ => "x" | .bool _ _ => "x" | .binary _ _ _ => "xx" | .lelem _ _ => "xx" | .write _ _ _ => "T" | .echo _ => "x" | .throw _ => "x" | .ret _ => "?" | .jump _ => "-" | .jif _ _ _ => "x"
noncomputable def Row.shape2 : Row → Str
  | .write _ _ _ => "x" | .jump _ => "j" | .jif _ _ _ => "j"
  | .array _ | .move _ _ | .bool _ _ | .binary _ _ _ | .lelem _ _ | .echo _ | .throw _ | .ret _ => "-"
theorem shape_of_eq (r : Row) (m : Mem) : F_shape_of [.str r.op] m = some (.tup [.str r.shape1, .str r.shape2], m) := by
  have h : F_shape_of [.str r.op] m = some (.tup [.str r.shape1, .str r.shape2], m.take m.length) := by
    cases r with
    | jif k a t => cases k <;> kernel_rfl
    | array to => kernel_rfl
    | move to a => kernel_rfl
    | bool to a => kernel_rfl
    | binary to a b => kernel_rfl
    | lelem to a => kernel_rfl
    | write to a b => kernel_rfl
    | echo a => kernel_rfl
    | throw a => kernel_rfl
    | ret a => kernel_rfl
    | jump t => kernel_rfl
  rw [h, List.take_length]

theorem place0_eq (m : Mem) : F_place_reads0 [.tup [.str "var", wD]] m = some (.lst [wD], m) := by
  have h : F_place_reads0 [.tup [.str "var", wD]] m = some (.lst [wD], m.take m.length) := by kernel_rfl
  rw [h, List.take_length]
theorem place_eq (a : Opd) (m : Mem) : F_place_reads [.tup [.str "dim", .tup [.str "var", wD], a.enc]] m = some (.lst [wD, a.enc], m) := by
  cases a <;> simp [F_place_reads, T_place_reads, Opd.enc, place0_eq, big]
theorem part0_x (a : Opd) (m : Mem) : F_part_reads0 [.str "x", a.enc] m = some (.lst [a.enc], m) := by
  have h : F_part_reads0 [.str "x", a.enc] m = some (.lst [a.enc], m.take m.length) := by
    cases a with
    | lit v => cases v <;> kernel_rfl
    | tmp k => kernel_rfl
    | cv k => kernel_rfl
  rw [h, List.take_length]
theorem part_x (a : Opd) (m : Mem) : F_part_reads [.str "x", a.enc] m = some (.lst [a.enc], m) := by
  have h : F_part_reads [.str "x", a.enc] m = some (.lst [a.enc], m.take m.length) := by
    cases a with
    | lit v => cases v <;> kernel_rfl
    | tmp k => kernel_rfl
    | cv k => kernel_rfl
  rw [h, List.take_length]
theorem part_q (a : Opd) (m : Mem) : F_part_reads [.str "?", a.enc] m = some (.lst [a.enc], m) := by
  have h : F_part_reads [.str "?", a.enc] m = some (.lst [a.enc], m.take m.length) := by
    cases a with
    | lit v => cases v <;> kernel_rfl
    | tmp k => kernel_rfl
    | cv k => kernel_rfl
  rw [h, List.take_length]
theorem part_none (d : D) (m : Mem) : F_part_reads [.str "-", d] m = some (.lst [], m) := by
  have h : F_part_reads [.str "-", d] m = some (.lst [], m.take m.length) := by kernel_rfl
  rw [h, List.take_length]
theorem part_j (d : D) (m : Mem) : F_part_reads [.str "j", d] m = some (.lst [], m) := by
  have h : F_part_reads [.str "j", d] m = some (.lst [], m.take m.length) := by kernel_rfl
  rw [h, List.take_length]
theorem part_T (a : Opd) (m : Mem) : F_part_reads [.str "T", .tup [.str "dim", .tup [.str "var", wD], a.enc]] m = some (.lst [wD, a.enc], m) := by
  have h1 : F_place_reads = fun ds m => F_place_reads ds m := rfl
  simp [F_part_reads, T_part_reads, place_eq, show Str.length (Str.ofString "T") = 1 from rfl]
theorem part_xx (a b : Opd) (m : Mem) : F_part_reads [.str "xx", .tup [a.enc, b.enc]] m = some (.lst [a.enc, b.enc], m) := by
  have h2 : ∀ m, F_part_reads0 [.str ⟨#[120]⟩, a.enc] m = some (.lst [a.enc], m) := fun m => part0_x a m
  have h3 : ∀ m, F_part_reads0 [.str ⟨#[120]⟩, b.enc] m = some (.lst [b.enc], m) := fun m => part0_x b m
  simp [F_part_reads, T_part_reads, part0_x, show Str.length (Str.ofString "xx") = 2 from rfl, big, rngItems, List.range_succ, List.range_zero, forL, idxD, charAt, show (Str.ofString "xx").cps = #[120, 120] from rfl, h2, h3]

set_option maxRecDepth 100000
open PySem

noncomputable def Row.target : Row → Option Nat
  | .jump t => some t | .jif _ _ t => some t | .array _ | .move _ _ | .bool _ _ | .binary _ _ _ | .lelem _ _ | .write _ _ _ | .echo _ | .throw _ | .ret _ => none
noncomputable def Row.falls : Row → Bool
  | .jump _ => false | .ret _ => false | .throw _ => false | .array _ | .move _ _ | .bool _ _ | .binary _ _ _ | .lelem _ _ | .write _ _ _ | .echo _ | .jif _ _ _ => true
noncomputable def Opd.isCv : Opd → Bool | .cv _ => true | .lit _ | .tmp _ => false
noncomputable def Row.mute : Row → Bool
  | .array _ => true | .move _ a => !a.isCv | .bool _ a => !a.isCv | .binary _ _ _ | .lelem _ _ | .write _ _ _ | .echo _ | .throw _ | .ret _ | .jump _ | .jif _ _ _ => false
noncomputable def Row.setT (t : Nat) : Row → Row
  | .jump _ => .jump t | .jif k a _ => .jif k a t | r => r
noncomputable def Row.noTo (u : Nat → Bool) : Row → Row
  | .lelem (some t) a => if u t then .lelem (some t) a else .lelem none a
  | r => r

/-- what its parts read -/
noncomputable def Row.rd1 : Row → List D
  | .array _ | .jump _ => [] | .move _ a | .bool _ a | .echo a | .throw a | .ret a | .jif _ a _ => [a.enc] | .binary _ a b => [a.enc, b.enc] | .lelem _ a => [a.enc, zeroD] | .write _ a _ => [wD, a.enc]
noncomputable def Row.rd2 : Row → List D
  | .write _ _ b => [b.enc]
  | .array _ | .jump _ | .move _ _ | .bool _ _ | .echo _ | .throw _ | .ret _ | .jif _ _ _ | .binary _ _ _ | .lelem _ _ => []
theorem rd1_eq (r : Row) (m : Mem) : F_part_reads [.str r.shape1, r.pa] m = some (.lst r.rd1, m) := by
  cases r with
  | array _ | jump _ => exact part_none _ m
  | ret a => exact part_q a m
  | binary _ a b => exact part_xx a b m
  | lelem _ a => exact part_xx a (.lit .zero) m
  | write _ a _ => exact part_T a m
  | move _ a | bool _ a | echo a | throw a | jif _ a _ => exact part_x a m
theorem rd2_eq (r : Row) (m : Mem) : F_part_reads [.str r.shape2, r.pb] m = some (.lst r.rd2, m) := by
  cases r with
  | write _ _ b => exact part_x b m
  | jump _ | jif _ _ _ => exact part_j _ m
  | array _ | ret _ | binary _ _ _ | lelem _ _ | move _ _ | bool _ _ | echo _ | throw _ => exact part_none _ m
theorem rd_reads (r : Row) : r.rd1 ++ r.rd2 = r.reads := by cases r <;> rfl
theorem rd_fits (r : Row) : r.rd1.length + r.rd2.length ≤ big := by cases r <;> exact Nat.le_of_ble_eq_true rfl
theorem reads_eq (r : Row) (m : Mem) : F_reads [r.enc] m = some (.lst r.reads, m) := by
  have hp : D.pures r.reads = true := by cases r <;> simp [Row.reads]
  simp [F_reads, T_reads, shape_of_eq, rd1_eq, rd2_eq, rd_fits, rd_reads, hp]

theorem target_eq (r : Row) (m : Mem) : F_target_of [r.enc] m = some (onat r.target, m) := by
  have h : F_target_of [r.enc] m = some (onat r.target, m.take m.length) := by
    cases r with
    | jif k a t => cases k <;> kernel_rfl
    | array to => kernel_rfl
    | move to a => kernel_rfl
    | bool to a => kernel_rfl
    | binary to a b => kernel_rfl
    | lelem to a => kernel_rfl
    | write to a b => kernel_rfl
    | echo a => kernel_rfl
    | throw a => kernel_rfl
    | ret a => kernel_rfl
    | jump t => kernel_rfl
  rw [h, List.take_length]

theorem with_target_eq (r : Row) (t u : Nat) (h : r.target = some u) (m : Mem) : F_with_target [r.enc, .int (t : Nat)] m = some ((r.setT t).enc, m) := by
  cases r <;> simp [Row.target] at h <;> simp [F_with_target, T_with_target, Row.setT, Row.enc, Row.pa, Row.pb, Row.op, Row.to]

@[local simp] theorem op_notin (r : Row) : inD (.str r.op) [.str "jump", .str "call_finally", .str "return", .str "throw", .str "match_fault", .str "left"] = some (!r.falls) := by
  cases r with
  | jif k a t => cases k <;> kernel_rfl
  | _ => kernel_rfl
@[local simp] theorem op_endf (r : Row) : (r.op = Str.ofString "end_finally") = False := by
  apply eq_false
  cases r with
  | jif k a t => cases k <;> simp [Row.op, Jk.op]
  | _ => simp [Row.op]

noncomputable def addN (n : Nat) (A : List Nat) (x : Nat) : List Nat := if x < n ∧ x ∉ A then A ++ [x] else A
theorem addN_len (n : Nat) : ∀ (L A : List Nat), (L.foldl (addN n) A).length ≤ A.length + L.length
  | [], A => by simp
  | x :: L, A => by
    have h := addN_len n L (addN n A x)
    have h2 : (addN n A x).length ≤ A.length + 1 := by unfold addN; split <;> simp
    simp only [List.foldl_cons, List.length_cons]; lia
theorem addN_mem (n y : Nat) : ∀ (L A : List Nat), y ∈ L.foldl (addN n) A ↔ y ∈ A ∨ (y ∈ L ∧ y < n)
  | [], A => by simp
  | x :: L, A => by
    rw [List.foldl_cons, addN_mem n y L (addN n A x)]
    have h2 : y ∈ addN n A x ↔ y ∈ A ∨ (y = x ∧ y < n) := by
      unfold addN
      split
      · rename_i h
        simp only [List.mem_append, List.mem_singleton]
        constructor
        · rintro (h | rfl)
          · exact .inl h
          · exact .inr ⟨rfl, h.1⟩
        · rintro (h | ⟨h, _⟩)
          · exact .inl h
          · exact .inr h
      · rename_i h
        constructor
        · exact .inl
        · rintro (h' | ⟨rfl, h'⟩)
          · exact h'
          · exact Classical.byContradiction fun h2 => h ⟨h', h2⟩
    rw [h2, List.mem_cons]
    constructor
    · rintro ((h | ⟨rfl, h⟩) | ⟨h, h'⟩)
      · exact .inl h
      · exact .inr ⟨.inl rfl, h⟩
      · exact .inr ⟨.inr h, h'⟩
    · rintro (h | ⟨rfl | h, h'⟩)
      · exact .inl (.inl h)
      · exact .inl (.inr ⟨rfl, h'⟩)
      · exact .inr ⟨h, h'⟩

@[local simp] theorem nats_len (L : List Nat) : (nats L).length = L.length := by simp [nats]
@[local simp] theorem nats_append (L M : List Nat) : nats L ++ nats M = nats (L ++ M) := by simp [nats]
theorem nats_snoc (L : List Nat) (x : Nat) : nats L ++ [.int (x : Nat)] = nats (L ++ [x]) := by simp [nats]
@[local simp] theorem nats_nil : nats [] = [] := rfl
theorem nats_cons (x : Nat) (L : List Nat) : nats (x :: L) = .int (x : Nat) :: nats L := rfl
@[local simp] theorem inD_nats (x : Nat) (L : List Nat) : inD (.int (x : Nat)) (nats L) = some (decide (x ∈ L)) := by
  induction L with
  | nil => simp
  | cons y L ih => rw [nats_cons, inD_int_cons, ih]; simp [eq_comm, Int.ofNat_inj]
theorem nats_get (L : List Nat) (i : Nat) : (nats L)[i]? = (L[i]?).map fun k => D.int (k : Nat) := by simp [nats]

noncomputable def nextsL (c : Cod) (p : Nat) (r : Row) : List Nat := (((if r.falls then [p + 1] else []) ++ r.target.toList).foldl (addN c.rows.length) [])

theorem nexts_loop (c : Cod) (m : Mem) (e1 e2 e3 e4 : D) : ∀ (L A : List Nat) (x : D), A.length + L.length ≤ 1000 →
    ∃ x', forL (asgT (.v 6)) (exs ((T_nexts.body 8))) (nats L) [c.enc, e1, e2, e3, e4, .cell (m.length + 1), x] (m ++ [none, some (.lst (nats A))])
      = some (.next, [c.enc, e1, e2, e3, e4, .cell (m.length + 1), x'], m ++ [none, some (.lst (nats (L.foldl (addN c.rows.length) A)))])
  | [], A, x, _ => ⟨x, rfl⟩
  | y :: L, A, x, hb => by
    simp only [List.length_cons] at hb
    have h3 : (addN c.rows.length A y).length ≤ A.length + 1 := by (unfold addN; split <;> simp)
    obtain ⟨x', ih⟩ := nexts_loop c m e1 e2 e3 e4 L (addN c.rows.length A y) (.int (y : Nat)) (by lia)
    refine ⟨x', ?_⟩
    rw [List.foldl_cons, ← ih, nats_cons]
    have hA := big_lt A.length (by lia)
    by_cases h1 : y < c.rows.length
    · by_cases h2 : y ∈ A
      · simp [forL, Cod.enc, h1, h2, inC, addN, T_nexts, Ss.body, Ss.drop, Ss.drop1, Ss.hd, S.b]
      · simp [forL, Cod.enc, h1, h2, inC, addN, lstCell, appD, hA, nats_snoc, T_nexts, Ss.body, Ss.drop, Ss.drop1, Ss.hd, S.b]
    · simp [forL, Cod.enc, h1, addN, T_nexts, Ss.body, Ss.drop, Ss.drop1, Ss.hd, S.b]

theorem nexts_eq (c : Cod) (p : Nat) (r : Row) (h : c.rows[p]? = some r) (m : Mem) : F_nexts [c.enc, .int (p : Nat)] m = some (.lst (nats (nextsL c p r)), m) := by
  have L := nexts_loop c m (.int (p : Nat)) r.enc (onat r.target) (.lst (nats ((if r.falls then [p + 1] else []) ++ r.target.toList))) ((if r.falls then [p + 1] else []) ++ r.target.toList) [] .undef (by
    cases r.falls <;> cases r.target <;> simp)
  obtain ⟨x', L⟩ := L
  simp only [T_nexts, Ss.body, Ss.drop, Ss.drop1, Ss.hd, S.b, Cod.enc] at L
  unfold F_nexts runF T_nexts nextsL
  cases hf : r.falls <;> cases ht : r.target <;> simp [hf, ht, nats_cons] at L <;>
   simp [-inD_str_cons, Cod.enc, h, target_eq, hf, ht, lstCell, appD, freezeD, big, nats_cons, L]

set_option maxRecDepth 100000
open PySem

noncomputable def Try.covers (t : Try) (p : Nat) : Bool := decide (t.first ≤ p) && decide (p < t.behind)
noncomputable def handR : List Try → Nat → Option Try
  | [], _ => none
  | t :: ts, p => if t.covers p then some t else handR ts p
noncomputable def Cod.hand (c : Cod) (p : Nat) : Option Try := handR c.trys.reverse p

@[local simp] theorem op_stop (r : Row) : inD (.str r.op) [.str "yield", .str "yield_from", .str "end_finally"] = some false := by
  cases r with
  | jif k a t => cases k <;> kernel_rfl
  | _ => kernel_rfl

noncomputable def downs : Nat → List Nat
  | 0 => []
  | k + 1 => k :: downs k
theorem downs_range : ∀ k : Nat, (List.range k).map (fun i => D.int ((k : Int) - 1 - (i : Nat))) = nats (downs k)
  | 0 => rfl
  | k + 1 => by
    rw [List.range_succ_eq_map, List.map_cons, List.map_map, downs, nats_cons, ← downs_range k]
    congr 1
    · congr 1; lia
    · apply List.map_congr_left
      intro a _
      simp only [Function.comp]
      congr 1; lia
theorem rng_down (k : Nat) : rngItems ((k : Int) - 1) (-1) (-1) = some (nats (downs k)) := by
  unfold rngItems
  rw [if_neg (by decide), if_pos rfl, ← downs_range]
  have e : ((k : Int) - 1 - -1).toNat = k := by lia
  rw [e]

/-- a try's stretch, as the texts ask for it -/
theorem tst_in {env : List D} {m : Mem} {a f q p x y : Nat} (ha : env[a]? = some (.int (y : Nat))) (hf : env[f]? = some (.int (x : Nat))) (hq : env[q]? = some (.int (p : Nat))) :
    tst (.cmp2 (.var f) .le (.var q) .lt (.var a)) env m = some (decide (x ≤ p) && decide (p < y), m) := by
  simp only [tst_cmp2, ev_var', ha, hf, hq, rd_int, cmpD_le, cmpD_lt]
  rw [show decide ((x : Int) ≤ (p : Int)) = decide (x ≤ p) from decide_eq_decide.mpr Int.ofNat_le, show decide ((p : Int) < (y : Int)) = decide (p < y) from decide_eq_decide.mpr Int.ofNat_lt]
  cases decide (x ≤ p) <;> rfl
noncomputable def asks (a f q : Nat) : E := .and (.cons (.cmp .isNot (.var a) (.cst .none)) (.cons (.cmp2 (.var f) .le (.var q) .lt (.var a)) .nil))
theorem tst_no {env : List D} {m : Mem} {a f q : Nat} (ha : env[a]? = some .none) : tst (asks a f q) env m = some (false, m) := by
  unfold asks
  rw [tst_and, tstAnd_cons, tst_cmp, ev_var', ha]; rfl
theorem tst_yes {env : List D} {m : Mem} {a f q p x y : Nat} (ha : env[a]? = some (.int (y : Nat))) (hf : env[f]? = some (.int (x : Nat))) (hq : env[q]? = some (.int (p : Nat))) :
    tst (asks a f q) env m = some (decide (x ≤ p) && decide (p < y), m) := by
  unfold asks
  rw [tst_and, tstAnd_cons, tst_cmp, ev_var', ha]
  exact (tstAnd_one ..).trans (tst_in ha hf hq)
theorem tst_catch {env : List D} {m : Mem} {a f q p : Nat} {t : Try} (ha : env[a]? = some t.catchD) (hf : env[f]? = some (.int (t.first : Nat))) (hq : env[q]? = some (.int (p : Nat))) :
    tst (asks a f q) env m = some (t.ret.isNone && t.covers p, m) := by
  unfold Try.catchD at ha
  cases h : t.ret <;> rw [h] at ha
  · exact tst_yes ha hf hq
  · exact tst_no ha
theorem tst_final {env : List D} {m : Mem} {a f q p : Nat} {t : Try} (ha : env[a]? = some t.finalD) (hf : env[f]? = some (.int (t.first : Nat))) (hq : env[q]? = some (.int (p : Nat))) :
    tst (asks a f q) env m = some (t.ret.isSome && t.covers p, m) := by
  unfold Try.finalD at ha
  cases h : t.ret <;> rw [h] at ha
  · exact tst_no ha
  · exact tst_yes ha hf hq

theorem catchers_loop (c : Cod) (m : Mem) (p : Nat) (k : Nat) : ∀ (F : List Nat) (b : Bool) (x5 x6 x7 x8 x9 x10 : D), k ≤ c.trys.length → F.length + k ≤ 900 →
    ∃ b' y5 y6 y7 y8 y9 y10, forL (asgT (.v 5)) (exs ((T_catchers.body 3))) (nats (downs k)) [c.enc, .int (p : Nat), .cell m.length, .bool b, .bool false, x5, x6, x7, x8, x9, x10] (m ++ [some (.lst (nats F))])
      = some (.next, [c.enc, .int (p : Nat), .cell m.length, .bool b', .bool false, y5, y6, y7, y8, y9, y10], m ++ [some (.lst (nats (F ++ (if b = true then ((handR (c.trys.take k).reverse p).map (·.behind)).toList else []))))]) := by
  induction k with
  | zero => exact fun F b x5 x6 x7 x8 x9 x10 _ _ => ⟨b, x5, x6, x7, x8, x9, x10, by rw [show (if b = true then ((handR (c.trys.take 0).reverse p).map (·.behind)).toList else []) = [] from ite_self [], List.append_nil]; rfl⟩
  | succ k ih =>
    intro F b x5 x6 x7 x8 x9 x10 hk hb
    have ht : c.trys[k]? = some (c.trys[k]'hk) := List.getElem?_eq_getElem hk
    generalize c.trys[k]'hk = t at ht
    have hA := lt_big (n := 0) hb
    have htake : (c.trys.take (k + 1)).reverse = t :: (c.trys.take k).reverse := by
      rw [List.take_add_one, ht, Option.toList_some, List.reverse_append]; rfl
    have c1 := fun (b' : Bool) (μ : Mem) => tst_catch (m := μ) (a := 7) (f := 6) (q := 1) (p := p) (t := t) (env := [c.enc, .int (p : Nat), .cell m.length, .bool b', .bool false, .int (k : Nat), .int (t.first : Nat), t.catchD, t.finalD, .int (t.fin : Nat), onat t.ret]) rfl rfl rfl
    have c2 := fun (b' : Bool) (μ : Mem) => tst_final (m := μ) (a := 8) (f := 6) (q := 1) (p := p) (t := t) (env := [c.enc, .int (p : Nat), .cell m.length, .bool b', .bool false, .int (k : Nat), .int (t.first : Nat), t.catchD, t.finalD, .int (t.fin : Nat), onat t.ret]) rfl rfl rfl
    simp only [asks, Cod.enc] at c1 c2
    rw [htake, downs, nats_cons, handR]
    cases hc : t.covers p
    · obtain ⟨b', y5, y6, y7, y8, y9, y10, ih⟩ := ih F b (.int (k : Nat)) (.int (t.first : Nat)) t.catchD t.finalD (.int (t.fin : Nat)) (onat t.ret) (Nat.le_of_succ_le hk) (Nat.le_trans (Nat.le_succ _) hb)
      refine ⟨b', y5, y6, y7, y8, y9, y10, (forL_step rfl ?_).trans ih⟩
      clear ih
      simp [-tst_and, c1, c2, hc, Cod.enc, ht, Try.enc, T_catchers, Ss.body, Ss.drop, Ss.drop1, Ss.hd, S.b]
    · obtain ⟨b', y5, y6, y7, y8, y9, y10, ih⟩ := ih (F ++ (if b = true then [t.behind] else [])) false (.int (k : Nat)) (.int (t.first : Nat)) t.catchD t.finalD (.int (t.fin : Nat)) (onat t.ret) (Nat.le_of_succ_le hk) (by cases b <;> exact snoc_le' hb)
      rw [if_neg Bool.false_ne_true, List.append_nil] at ih
      refine ⟨b', y5, y6, y7, y8, y9, y10, (forL_step rfl ?_).trans ih⟩
      clear ih
      cases hr : t.ret <;> simp only [Try.catchD, Try.finalD, hr, hc, onat] at c1 c2 <;> cases b <;>
        simp [-tst_and, c1, c2, Cod.enc, ht, Try.enc, Try.catchD, Try.finalD, hr, lstCell, appD, hA, nats_snoc, T_catchers, Ss.body, Ss.drop, Ss.drop1, Ss.hd, S.b]

theorem catchers_eq (c : Cod) (p : Nat) (r : Row) (h : c.rows[p]? = some r) (hn : c.trys.length ≤ 900) (m : Mem) : F_catchers [c.enc, .int (p : Nat)] m = some (.lst (nats ((c.hand p).map (·.behind)).toList), m) := by
  obtain ⟨b', y5, y6, y7, y8, y9, y10, L⟩ := catchers_loop c m p c.trys.length [] true .undef .undef .undef .undef .undef .undef (Nat.le_refl _) (Nat.le_trans (Nat.le_of_eq (Nat.zero_add _)) hn)
  rw [List.take_length] at L
  simp only [T_catchers, Ss.body, Ss.drop, Ss.drop1, Ss.hd, S.b, Cod.enc] at L
  have hb : ((c.trys.length : Int) - 1).natAbs ≤ big := by
    have := big_le (((c.trys.length : Int) - 1).natAbs) (by lia)
    lia
  simp at L
  unfold F_catchers runF T_catchers Cod.hand
  simp [-inD_str_cons, Cod.enc, h, lstCell, appD, freezeD, hb, rng_down, L, show (1 : Nat) ≤ big by decide]

set_option maxRecDepth 100000
open PySem

theorem moved_int (m l : Mem) (N : List Nat) (q : Nat) : F_moved [.cell m.length, .int (q : Nat)] (m ++ some (.lst (nats N)) :: l) = match N[q]? with | some v => some (.int (v : Nat), m ++ some (.lst (nats N)) :: l) | none => none := by
  cases h : N[q]? with
  | none => simp [F_moved, T_moved, idxD, nats_get, h]
  | some v =>
    simp [F_moved, T_moved, idxD, nats_get, h]
    have := List.take_length (l := m ++ some (.lst (nats N)) :: l)
    simpa using this
theorem moved_cell (m : Mem) (k : Nat) : F_moved [.cell k, .none] m = some (.none, m) := by
  simp [F_moved, T_moved]

noncomputable def num (k : Nat → Bool) : Nat → Nat
  | 0 => 0
  | p + 1 => num k p + if k p then 1 else 0
noncomputable def pick (k : Nat → Bool) (f : Nat → Row) : Nat → List Row
  | 0 => []
  | p + 1 => pick k f p ++ if k p then [f p] else []
theorem pick_len (k : Nat → Bool) (f : Nat → Row) : ∀ p, (pick k f p).length = num k p
  | 0 => rfl
  | p + 1 => by rw [pick, num, List.length_append, pick_len k f p]; split <;> rfl
theorem num_le (k : Nat → Bool) : ∀ p, num k p ≤ p
  | 0 => Nat.le_refl _
  | p + 1 => by have := num_le k p; rw [num]; split <;> lia
noncomputable def Cod.row (c : Cod) (p : Nat) : Row := c.rows.getD p (.jump 0)
theorem Cod.row_get (c : Cod) {p : Nat} (h : p < c.rows.length) : c.rows[p]? = some (c.row p) := by
  simp [Cod.row, List.getD, h]
theorem Cod.row_eq (c : Cod) {p : Nat} (h : p < c.rows.length) : c.rows[p] = c.row p := by
  simp [Cod.row, List.getD, h]
noncomputable def Row.modT (N : Nat → Nat) (r : Row) : Row := match r.target with | none => r | some t => r.setT (N t)
noncomputable def Try.map (N : Nat → Nat) (t : Try) : Try := ⟨N t.first, N t.behind, N t.fin, t.ret⟩
noncomputable def Life.map (N : Nat → Nat) (t : Life) : Life := ⟨t.temp, N t.first, N t.behind⟩
noncomputable def keepD (k : Nat → Bool) (n : Nat) : D := .lst ((List.range n).map fun p => .bool (k p))
theorem range'_nats (s n : Nat) : nats (List.range' s (n + 1)) = .int (s : Nat) :: nats (List.range' (s + 1) n) := by
  rw [List.range'_succ, nats_cons]

theorem kept_loop1 (c : Cod) (k : Nat → Bool) (m : Mem) (xs : List D) (hn : c.rows.length ≤ 900) (j : Nat) : ∀ (p : Nat) (x4 : D), p + j = c.rows.length →
    ∃ y4, forL (asgT (.v 4)) (exs ((T_kept.body 2))) (nats (List.range' p j)) (c.enc :: keepD k c.rows.length :: .cell m.length :: .cell (m.length + 1) :: x4 :: xs) (m ++ [some (.lst (nats ((List.range p).map (num k)))), some (.lst ((pick k c.row p).map Row.enc))])
      = some (.next, (c.enc :: keepD k c.rows.length :: .cell m.length :: .cell (m.length + 1) :: y4 :: xs), m ++ [some (.lst (nats ((List.range c.rows.length).map (num k)))), some (.lst ((pick k c.row c.rows.length).map Row.enc))]) := by
  induction j with
  | zero => exact fun p x4 h => ⟨x4, by rw [← h]; rfl⟩
  | succ j ih =>
    intro p x4 h
    obtain ⟨y4, ih⟩ := ih (p + 1) (.int (p : Nat)) ((Nat.add_right_comm p 1 j).trans h)
    have hp : p < c.rows.length := h ▸ Nat.lt_add_of_pos_right (Nat.succ_pos j)
    have hp9 : p < 900 := Nat.lt_of_lt_of_le hp hn
    have hA := big_lt p (Nat.le_trans (Nat.le_of_lt hp9) (by decide))
    have hB := big_lt (num k p) (Nat.le_trans (num_le k p) (Nat.le_trans (Nat.le_of_lt hp9) (by decide)))
    have hl := pick_len k c.row p
    have hr := c.row_eq hp
    rw [range'_nats]
    refine ⟨y4, (forL_step rfl ?_).trans ih⟩
    rw [List.range_succ, List.map_append, List.map_singleton, ← nats_snoc, pick]
    cases hk : k p
    · simp [Cod.enc, keepD, hk, hp, hr, hA, hB, hl, lenD, lstCell, appD, T_kept, Ss.body, Ss.drop, Ss.drop1, Ss.hd, S.b]
    · simp [Cod.enc, keepD, hk, hp, hr, hA, hB, hl, lenD, lstCell, appD, T_kept, Ss.body, Ss.drop, Ss.drop1, Ss.hd, S.b]

theorem kept_loop3 (N : List Nat) (g : Nat → Nat) (m : Mem) (e0 e1 e3 e4 : D) (xs : List D) (rs : List Row) : ∀ (made : List Row) (x6 x7 : D), made.length + rs.length ≤ 900 → (∀ r ∈ rs, ∀ t, r.target = some t → N[t]? = some (g t)) →
    ∃ y6 y7, forL (asgT (.v 6)) (exs ((T_kept.body 6))) (rs.map Row.enc) (e0 :: e1 :: .cell m.length :: e3 :: e4 :: .cell (m.length + 2) :: x6 :: x7 :: xs) (m ++ [some (.lst (nats N)), none, some (.lst (made.map Row.enc))])
      = some (.next, (e0 :: e1 :: .cell m.length :: e3 :: e4 :: .cell (m.length + 2) :: y6 :: y7 :: xs), m ++ [some (.lst (nats N)), none, some (.lst ((made ++ rs.map (Row.modT g)).map Row.enc))]) := by
  induction rs with
  | nil => exact fun made x6 x7 _ _ => ⟨x6, x7, by rw [List.map_nil, List.map_nil, List.append_nil]; rfl⟩
  | cons r rs ih =>
    intro made x6 x7 hb ht
    obtain ⟨y6, y7, ih⟩ := ih (made ++ [r.modT g]) r.enc (onat r.target) (snoc_le hb) (fun r' h => ht r' (List.mem_cons_of_mem _ h))
    have hA := lt_big (n := 0) hb
    rw [List.append_assoc] at ih
    refine ⟨y6, y7, (forL_step rfl ?_).trans ih⟩
    cases htt : r.target with
    | none =>
      simp [Row.modT, target_eq, htt, hA, lstCell, appD, T_kept, Ss.body, Ss.drop, Ss.drop1, Ss.hd, S.b]
    | some t =>
      have hN := ht r List.mem_cons_self t htt
      simp [Row.modT, target_eq, htt, hA, lstCell, appD, idxD, nats_get, hN, with_target_eq r (g t) t htt, T_kept, Ss.body, Ss.drop, Ss.drop1, Ss.hd, S.b]

theorem kept_loop8 (N : List Nat) (g : Nat → Nat) (m : Mem) (e0 e1 e3 e4 e5 e6 e7 : D) (M : Option Cell) (a0 a1 a2 a3 a4 x15 : D) (ts : List Try) : ∀ (made : List Try) (x9 : D), made.length + ts.length ≤ 900 → (∀ t ∈ ts, N[t.first]? = some (g t.first) ∧ N[t.behind]? = some (g t.behind) ∧ N[t.fin]? = some (g t.fin)) →
    ∃ y9, forL (asgT (.v 9)) (exs ((T_kept.body 8))) (ts.map Try.enc) (e0 :: e1 :: .cell m.length :: e3 :: e4 :: e5 :: e6 :: e7 :: .cell (m.length + 3) :: x9 :: [a0, a1, a2, a3, a4, x15]) (m ++ [some (.lst (nats N)), none, M, some (.lst (made.map Try.enc))])
      = some (.next, (e0 :: e1 :: .cell m.length :: e3 :: e4 :: e5 :: e6 :: e7 :: .cell (m.length + 3) :: y9 :: [a0, a1, a2, a3, a4, x15]), m ++ [some (.lst (nats N)), none, M, some (.lst ((made ++ ts.map (Try.map g)).map Try.enc))]) := by
  induction ts with
  | nil => exact fun made x9 _ _ => ⟨x9, by rw [List.map_nil, List.map_nil, List.append_nil]; rfl⟩
  | cons t ts ih =>
    intro made x9 hb ht
    obtain ⟨y9, ih⟩ := ih (made ++ [t.map g]) t.enc (snoc_le hb) (fun r' h => ht r' (List.mem_cons_of_mem _ h))
    have hA := lt_big (n := 0) hb
    obtain ⟨h1, h2, h3⟩ := ht t List.mem_cons_self
    rw [List.append_assoc] at ih
    refine ⟨y9, (forL_step rfl ?_).trans ih⟩
    cases hr : t.ret <;>
      simp [compL, Try.enc, Try.catchD, Try.finalD, Try.map, hr, hA, h1, h2, h3, lstCell, appD, moved_int, moved_cell, T_kept, Ss.body, Ss.drop, Ss.drop1, Ss.hd, S.b]

theorem kept_loop10 (N : List Nat) (g : Nat → Nat) (m : Mem) (e0 e1 e3 e4 e5 e6 e7 e8 e9 x15 : D) (M1 M2 : Option Cell) (ts : List Life) : ∀ (made : List Life) (x11 x12 x13 x14 : D), made.length + ts.length ≤ 900 → (∀ t ∈ ts, N[t.first]? = some (g t.first) ∧ N[t.behind]? = some (g t.behind)) →
    ∃ y11 y12 y13 y14, forL (asgT (.t [11, 12, 13, 14])) (exs ((T_kept.body 10))) (ts.map Life.enc) [e0, e1, .cell m.length, e3, e4, e5, e6, e7, e8, e9, .cell (m.length + 4), x11, x12, x13, x14, x15] (m ++ [some (.lst (nats N)), none, M1, M2, some (.lst (made.map Life.enc))])
      = some (.next, [e0, e1, .cell m.length, e3, e4, e5, e6, e7, e8, e9, .cell (m.length + 4), y11, y12, y13, y14, x15], m ++ [some (.lst (nats N)), none, M1, M2, some (.lst ((made ++ ts.map (Life.map g)).map Life.enc))]) := by
  induction ts with
  | nil => exact fun made x11 x12 x13 x14 _ _ => ⟨x11, x12, x13, x14, by rw [List.map_nil, List.map_nil, List.append_nil]; rfl⟩
  | cons t ts ih =>
    intro made x11 x12 x13 x14 hb ht
    obtain ⟨y11, y12, y13, y14, ih⟩ := ih (made ++ [t.map g]) (.int (t.temp : Nat)) (.int (t.first : Nat)) (.int (t.behind : Nat)) (.str "call") (snoc_le hb) (fun r' h => ht r' (List.mem_cons_of_mem _ h))
    have hA := lt_big (n := 0) hb
    obtain ⟨h1, h2⟩ := ht t List.mem_cons_self
    rw [List.append_assoc] at ih
    refine ⟨y11, y12, y13, y14, (forL_step rfl ?_).trans ih⟩
    simp [Life.map, Life.enc, hA, h1, h2, lstCell, appD, idxD, nats_get, T_kept, Ss.body, Ss.drop, Ss.drop1, Ss.hd, S.b]

/-- places in bounds -/
structure Cod.Fits (c : Cod) : Prop where
  n : c.rows.length ≤ 900
  nt : c.trys.length ≤ 900
  nl : c.lives.length ≤ 900
  rows : ∀ r ∈ c.rows, ∀ t, r.target = some t → t ≤ c.rows.length
  trys : ∀ t ∈ c.trys, t.first ≤ c.rows.length ∧ t.behind ≤ c.rows.length ∧ t.fin ≤ c.rows.length
  lives : ∀ t ∈ c.lives, t.first ≤ c.rows.length ∧ t.behind ≤ c.rows.length

noncomputable def keptT (c : Cod) (k : Nat → Bool) : Cod := ⟨(pick k c.row c.rows.length).map (Row.modT (num k)), c.trys.map (Try.map (num k)), c.lives.map (Life.map (num k))⟩

theorem pick_mem (c : Cod) (k : Nat → Bool) : ∀ p, p ≤ c.rows.length → ∀ r ∈ pick k c.row p, r ∈ c.rows
  | 0, _, r, h => nomatch h
  | p + 1, hp, r, h => by
    rw [pick, List.mem_append] at h
    rcases h with h | h
    · exact pick_mem c k p (by lia) r h
    · cases hk : k p <;> rw [hk] at h
      · cases h
      · simp at h
        subst h
        have := c.row_get (p := p) (by lia)
        exact List.mem_of_getElem? this

theorem kept_eq (c : Cod) (k : Nat → Bool) (F : c.Fits) (m : Mem) : F_kept [c.enc, keepD k c.rows.length] m = some ((keptT c k).enc, m) := by
  have hnum : ((List.range c.rows.length).map (num k)) ++ [num k c.rows.length] = (List.range (c.rows.length + 1)).map (num k) := by
    rw [List.range_succ, List.map_append]; rfl
  have hN : ∀ q, q ≤ c.rows.length → ((List.range (c.rows.length + 1)).map (num k))[q]? = some (num k q) := by
    intro q hq
    rw [List.getElem?_map, List.getElem?_range (by lia)]; rfl
  have hb := big_le c.rows.length (by have := F.n; lia)
  have hb' := big_lt c.rows.length (by have := F.n; lia)
  obtain ⟨y4, L1⟩ := kept_loop1 c k m [.undef, .undef, .undef, .undef, .undef, .undef, .undef, .undef, .undef, .undef, .undef] F.n c.rows.length 0 .undef (by lia)
  rw [← List.range_eq_range'] at L1
  have hpl := pick_len k c.row c.rows.length
  have hnl := num_le k c.rows.length
  obtain ⟨y6, y7, L3⟩ := kept_loop3 ((List.range (c.rows.length + 1)).map (num k)) (num k) m c.enc (keepD k c.rows.length) (.lst ((pick k c.row c.rows.length).map Row.enc)) y4 [.undef, .undef, .undef, .undef, .undef, .undef, .undef, .undef] (pick k c.row c.rows.length) [] .undef .undef
    (by simp [hpl]; have := F.n; lia) (fun r hr t ht => hN t (F.rows r (pick_mem c k _ (Nat.le_refl _) r hr) t ht))
  obtain ⟨y9, L8⟩ := kept_loop8 ((List.range (c.rows.length + 1)).map (num k)) (num k) m c.enc (keepD k c.rows.length) (.lst ((pick k c.row c.rows.length).map Row.enc)) y4 (.cell (m.length + 2)) y6 y7 (some (.lst (((pick k c.row c.rows.length).map (Row.modT (num k))).map Row.enc))) .undef .undef .undef .undef .undef .undef c.trys [] .undef
    (by simp; have := F.nt; lia) (fun t ht => ⟨hN _ (F.trys t ht).1, hN _ (F.trys t ht).2.1, hN _ (F.trys t ht).2.2⟩)
  obtain ⟨y11, y12, y13, y14, L10⟩ := kept_loop10 ((List.range (c.rows.length + 1)).map (num k)) (num k) m c.enc (keepD k c.rows.length) (.lst ((pick k c.row c.rows.length).map Row.enc)) y4 (.cell (m.length + 2)) y6 y7 (.cell (m.length + 3)) y9 .undef (some (.lst (((pick k c.row c.rows.length).map (Row.modT (num k))).map Row.enc))) (some (.lst ((c.trys.map (Try.map (num k))).map Try.enc))) c.lives [] .undef .undef .undef .undef
    (by simp; have := F.nl; lia) (fun t ht => ⟨hN _ (F.lives t ht).1, hN _ (F.lives t ht).2⟩)
  have e1 : nats ((List.range c.rows.length).map (num k)) ++ [.int (num k c.rows.length : Nat)] = nats ((List.range (c.rows.length + 1)).map (num k)) := by
    rw [nats_snoc, hnum]
  have e2 : (c.rows.length : Int).natAbs = c.rows.length := by lia
  simp only [T_kept, Ss.body, Ss.drop, Ss.drop1, Ss.hd, S.b, pick, List.map_nil, List.range_zero, List.nil_append, List.append_nil, List.cons_append, nats_nil] at L1 L3 L8 L10
  have r1 : rngItems 0 (c.rows.length : Int) 1 = some (nats (List.range c.rows.length)) := rngItems_up _
  have hbb : (List.range c.rows.length).length < big := by simpa using hb'
  unfold F_kept runF T_kept keptT
  simp only [Cod.enc] at *
  simp [-List.map_map, lstCell, appD, freezeD, e2, hb, hb', hpl, r1, L1, e1, L3, L8, L10]

set_option maxRecDepth 100000
open PySem

noncomputable def ways (c : Cod) (p : Nat) (r : Row) : List Nat := (if r.falls then [p + 1] else []) ++ r.target.toList ++ ((c.hand p).map (·.behind)).toList
inductive Live (c : Cod) : Nat → Prop
  | zero : 0 < c.rows.length → Live c 0
  | step {p q : Nat} {r : Row} : Live c p → c.rows[p]? = some r → q ∈ ways c p r → q < c.rows.length → Live c q
theorem Live.lt {c : Cod} {p : Nat} (h : Live c p) : p < c.rows.length := by
  cases h with
  | zero h => exact h
  | step _ _ _ h => exact h

noncomputable def Opd.Ok : Opd → Prop
  | .lit _ => True | .tmp k => k ≤ 3 | .cv k => k ≤ 9
noncomputable def Row.Ok (n : Nat) : Row → Prop
  | .array to => 1 ≤ to ∧ to ≤ 3
  | .move to a => 1 ≤ to ∧ to ≤ 3 ∧ a.Ok
  | .bool to a => 1 ≤ to ∧ to ≤ 3 ∧ a.Ok
  | .binary to a b => to ≤ 3 ∧ a.Ok ∧ b.Ok
  | .lelem to a => (∀ k, to = some k → k ≤ 3) ∧ a.Ok
  | .write to a b => to ≤ 3 ∧ a.Ok ∧ b.Ok
  | .echo a => a.Ok
  | .throw a => a.Ok
  | .ret a => a.Ok
  | .jump t => t ≤ n
  | .jif _ a t => a.Ok ∧ (∀ k, a = .tmp k → k = 0) ∧ t ≤ n
noncomputable def Row.soft : Row → Bool
  | .array _ => true | .move _ _ => true | .bool _ _ => true | .binary _ _ _ | .lelem _ _ | .write _ _ _ | .echo _ | .throw _ | .ret _ | .jump _ | .jif _ _ _ => false
structure WF (c : Cod) : Prop where
  pos : 0 < c.rows.length
  len : c.rows.length ≤ 9
  rows : ∀ r ∈ c.rows, r.Ok c.rows.length
  last : ∀ r, c.rows[c.rows.length - 1]? = some r → r.soft = false
  trys : ∀ t ∈ c.trys, t.first ≤ t.behind ∧ t.behind ≤ t.fin ∧ t.fin ≤ c.rows.length ∧ (∀ k, t.ret = some k → k ≤ 3)
  hand : ∀ p t, p < c.rows.length → c.hand p = some t → t.behind < c.rows.length
  lives : ∀ l ∈ c.lives, l.first ≤ l.behind ∧ l.behind ≤ c.rows.length ∧ l.temp ≤ 3
  nt : c.trys.length ≤ 2
  nl : c.lives.length ≤ 1
theorem Row.Ok.target {n : Nat} {r : Row} (h : r.Ok n) {t : Nat} (e : r.target = some t) : t ≤ n := by
  cases r <;> simp [Row.target] at e <;> subst e
  · exact h
  · exact h.2.2
theorem WF.fits {c : Cod} (h : WF c) : c.Fits where
  n := by have := h.len; lia
  nt := by have := h.nt; lia
  nl := by have := h.nl; lia
  rows := fun r hr t ht => (h.rows r hr).target ht
  trys := fun t ht => by have := h.trys t ht; lia
  lives := fun t ht => by have := h.lives t ht; lia

theorem nodup_le : ∀ (n : Nat) (l : List Nat), l.Nodup → (∀ x ∈ l, x < n) → l.length ≤ n
  | 0, l, _, h => by
    cases l with
    | nil => simp
    | cons x l => exact absurd (h x (by simp)) (by lia)
  | n + 1, l, hn, h => by
    have h1 := nodup_le n (l.erase n) (hn.erase n) (fun x hx => by
      have h2 := h x (List.mem_of_mem_erase hx)
      have h3 : x ≠ n := fun e => by subst e; exact (List.Nodup.not_mem_erase hn) hx
      lia)
    have h2 : l.length ≤ (l.erase n).length + 1 := by
      rw [List.length_erase]; split <;> lia
    lia

noncomputable def trues (n : Nat) : List D := List.replicate n (.bool true)
noncomputable def ins (x : Nat) (S : List Nat) : List Nat := if x ∈ S then S else S ++ [x]
@[local simp] theorem trues_pures (n : Nat) : D.pures (trues n) = true := pures_of _ fun d h => by rw [List.eq_of_mem_replicate h]; simp
@[local simp] theorem trues_zero : trues 0 = [] := rfl
theorem trues_succ (n : Nat) : trues (n + 1) = .bool true :: trues n := rfl
@[local simp] theorem nats_all (S : List Nat) : (nats S).all isInt = true := by induction S <;> simp_all [nats, isInt]
@[local simp] theorem sameKind_nats (S : List Nat) (x : Int) : sameKind (nats S) (.int x) = true := by simp [sameKind, isInt]
@[local simp] theorem hasK_nats (S : List Nat) (x : Nat) : hasK (.int (x : Nat)) (nats S) = decide (x ∈ S) := by
  induction S with
  | nil => rfl
  | cons y S ih =>
    have h : hasK (.int (x : Nat)) (nats (y :: S)) = (decide ((y : Int) = (x : Int)) || hasK (.int (x : Nat)) (nats S)) := rfl
    rw [h, ih]; simp [eq_comm, Int.ofNat_inj]
theorem putK_nats (x : Nat) : ∀ S : List Nat, putK (.int (x : Nat)) (.bool true) (nats S) (trues S.length) = (nats (ins x S), trues (ins x S).length)
  | [] => rfl
  | y :: S => by
    rw [nats_cons, List.length_cons, trues_succ, putK]
    by_cases h : y = x
    · subst h
      have e : keyEq (.int (y : Nat)) (.int (y : Nat)) = true := by simp [keyEq]
      rw [if_pos e]
      simp [ins, trues_succ, nats_cons]
    · have e : ¬ keyEq (.int (y : Nat)) (.int (x : Nat)) = true := by simp [keyEq]; lia
      rw [if_neg e, putK_nats x S]
      by_cases hx : x ∈ S
      · simp [ins, hx, trues_succ, nats_cons]
      · simp [ins, hx, Ne.symm h, trues_succ, nats_cons]
theorem ins_mem (x y : Nat) (S : List Nat) : y ∈ ins x S ↔ y = x ∨ y ∈ S := by
  unfold ins; split
  · rename_i h
    constructor
    · exact .inr
    · rintro (rfl | h') <;> assumption
  · simp [or_comm]

theorem whileN_spec {t : List D → Mem → Option (Bool × Mem)} {b : List D → Mem → Option (Fl × List D × Mem)} (I : Nat → List D → Mem → Prop) (Q : Fl × List D × Mem → Prop)
    (step : ∀ k env m, I k env m → (t env m = some (false, m) ∧ Q (.next, env, m)) ∨ (t env m = some (true, m) ∧ ((∃ k' env' m', k' < k ∧ b env m = some (.next, env', m') ∧ I k' env' m') ∨ ∃ d env' m', b env m = some (.ret d, env', m') ∧ Q (.ret d, env', m')))) :
    ∀ fuel k env m, k < fuel → I k env m → ∃ o, whileN t b fuel env m = some o ∧ Q o
  | 0, k, env, m, h, _ => by lia
  | fuel + 1, k, env, m, h, hI => by
    rw [whileN]
    rcases step k env m hI with ⟨h1, h2⟩ | ⟨h1, ⟨k', env', m', hk, hb, hI'⟩ | ⟨d, env', m', hb, hQ⟩⟩
    · exact ⟨_, by rw [h1], h2⟩
    · obtain ⟨o, ho, hQ⟩ := whileN_spec I Q step fuel k' env' m' (by lia) hI'
      exact ⟨o, by rw [h1]; dsimp only; rw [hb]; exact ho, hQ⟩
    · exact ⟨_, by rw [h1]; dsimp only; rw [hb], hQ⟩

theorem nextsL_mem (c : Cod) (p : Nat) (r : Row) (y : Nat) : y ∈ nextsL c p r ↔ y ∈ (if r.falls then [p + 1] else []) ++ r.target.toList ∧ y < c.rows.length := by
  unfold nextsL; rw [addN_mem]; simp

structure RInv (c : Cod) (S Lf : List Nat) : Prop where
  nd : S.Nodup
  sl : ∀ x ∈ S, Live c x
  ll : ∀ x ∈ Lf, Live c x
  z : 0 ∈ S ∨ 0 ∈ Lf
  cl : ∀ x ∈ S, ∀ r, c.rows[x]? = some r → ∀ y ∈ ways c x r, y < c.rows.length → y ∈ S ∨ y ∈ Lf

theorem reached_eq (c : Cod) (W : WF c) (m : Mem) : ∃ Z : List Nat, Z.Nodup ∧ (∀ y, y ∈ Z ↔ Live c y) ∧ F_reached [c.enc] m = some (.dic (nats Z) (trues Z.length), m) := by
  have H := whileN_spec (t := tst (.cmp .gt (.bi .len (.var 2)) (.cst (.int 0)))) (b := exs (T_reached.body 2))
    (fun k env m' => ∃ Z Lf x, env = [c.enc, .cell m.length, .cell (m.length + 1), x] ∧ m' = m ++ [some (.dic (nats Z) (trues Z.length)), some (.lst (nats Lf))] ∧ RInv c Z Lf ∧ 4 * (c.rows.length - Z.length) + Lf.length ≤ 40 ∧ k = 4 * (c.rows.length - Z.length) + Lf.length)
    (fun o => ∃ Z x, o = (.next, [c.enc, .cell m.length, .cell (m.length + 1), x], m ++ [some (.dic (nats Z) (trues Z.length)), some (.lst [])]) ∧ Z.Nodup ∧ ∀ y, y ∈ Z ↔ Live c y)
    (by
      rintro k env m' ⟨Z, Lf, x, rfl, rfl, R, hB, rfl⟩
      have hS := nodup_le c.rows.length Z R.nd (fun x hx => (R.sl x hx).lt)
      rcases List.eq_nil_or_concat Lf with rfl | ⟨L', p, e⟩
      · refine .inl ⟨by simp, Z, x, by simp, R.nd, fun y => ⟨R.sl y, fun h => ?_⟩⟩
        induction h with
        | zero h => exact R.z.resolve_right (by simp)
        | step _ h1 h2 h3 ih => exact (R.cl _ ih _ h1 _ h2 h3).resolve_right (by simp)
      · rw [List.concat_eq_append] at e
        subst e
        refine .inr ⟨by simp [← nats_snoc], .inl ?_⟩
        have hp := R.ll p (by simp)
        have hlt := hp.lt
        have hr := c.row_get hlt
        generalize c.row p = r at hr
        by_cases hin : p ∈ Z
        · refine ⟨4 * (c.rows.length - Z.length) + L'.length, [c.enc, .cell m.length, .cell (m.length + 1), .int (p : Nat)], m ++ [some (.dic (nats Z) (trues Z.length)), some (.lst (nats L'))], by simp, ?_, Z, L', _, rfl, rfl, ?_, by simp at hB; lia, rfl⟩
          · simp [T_reached, Ss.body, Ss.drop, Ss.drop1, Ss.hd, S.b, ← nats_snoc, popD, inC, hin]
          · refine ⟨R.nd, R.sl, fun x hx => R.ll x (by simp [hx]), ?_, ?_⟩
            · rcases R.z with h | h
              · exact .inl h
              · simp at h; rcases h with h | h
                · exact .inr h
                · subst h; exact .inl hin
            · intro x hx r hr y hy hlt
              rcases R.cl x hx r hr y hy hlt with h | h
              · exact .inl h
              · simp at h; rcases h with h | h
                · exact .inr h
                · subst h; exact .inl hin
        · have hS1 : Z.length < c.rows.length := by
            have := nodup_le c.rows.length (p :: Z) (List.nodup_cons.mpr ⟨hin, R.nd⟩) (fun x hx => by
              rcases List.mem_cons.mp hx with rfl | hx
              · exact hlt
              · exact (R.sl x hx).lt)
            simp at this; lia
          have hnl : (nextsL c p r).length ≤ 2 := by
            have := addN_len c.rows.length ((if r.falls then [p + 1] else []) ++ r.target.toList) []
            have h2 : ((if r.falls then [p + 1] else []) ++ r.target.toList).length ≤ 2 := by
              cases r.falls <;> cases r.target <;> simp
            unfold nextsL; rw [List.length_nil, Nat.zero_add] at this; lia
          have hcl : (((c.hand p).map (·.behind)).toList).length ≤ 1 := by cases c.hand p <;> simp
          have hW : 4 * c.rows.length ≤ 36 := by have := W.len; lia
          refine ⟨4 * (c.rows.length - (Z ++ [p]).length) + (L' ++ (nextsL c p r) ++ ((c.hand p).map (·.behind)).toList).length, [c.enc, .cell m.length, .cell (m.length + 1), .int (p : Nat)], m ++ [some (.dic (nats (Z ++ [p])) (trues (Z ++ [p]).length)), some (.lst (nats (L' ++ (nextsL c p r) ++ ((c.hand p).map (·.behind)).toList)))], by simp; lia, ?_, Z ++ [p], _, _, rfl, rfl, ?_, by simp at hB ⊢; lia, rfl⟩
          · have e1 : nats (L' ++ nextsL c p r ++ ((c.hand p).map (·.behind)).toList) = nats L' ++ nats (nextsL c p r) ++ nats ((c.hand p).map (·.behind)).toList := by simp
            have e2 : ins p Z = Z ++ [p] := by simp [ins, hin]
            have hZb := big_lt Z.length (by have := W.len; lia)
            have hLb : L'.length + (nextsL c p r).length ≤ big := big_le _ (by simp only [List.length_append, List.length_cons, List.length_nil] at hB; lia)
            have hLb2 : L'.length + (nextsL c p r).length + (((c.hand p).map (·.behind)).toList).length ≤ big := big_le _ (by simp only [List.length_append, List.length_cons, List.length_nil] at hB; lia)
            rw [e1, ← nats_snoc]
            have hh : F_catchers [c.enc, .int (p : Nat)] = fun m => some (.lst (nats ((c.hand p).map (·.behind)).toList), m) := funext fun m => catchers_eq c p r hr (by have := W.nt; lia) m
            simp [-nats_append, -Option.toList_map, T_reached, Ss.body, Ss.drop, Ss.drop1, Ss.hd, S.b, popD, inC, hin, setD, putK_nats, hZb, nexts_eq c p r hr, hh, lstCell, extD, hLb, hLb2, e2]
          · refine ⟨by rw [List.nodup_append]; simp [R.nd]; intro a ha e; subst e; exact hin ha, ?_, ?_, ?_, ?_⟩
            · intro x hx; simp at hx
              rcases hx with h | rfl
              · exact R.sl x h
              · exact hp
            · intro x hx; simp only [List.mem_append] at hx
              rcases hx with (h | h) | h
              · exact R.ll x (by simp [h])
              · rw [nextsL_mem] at h
                exact .step hp hr (by unfold ways; exact List.mem_append_left _ h.1) h.2
              · refine .step hp hr (by unfold ways; exact List.mem_append_right _ h) ?_
                cases hh : c.hand p with
                | none => rw [hh] at h; simp at h
                | some t => rw [hh] at h; simp at h; subst h; exact W.hand p t hlt hh
            · rcases R.z with h | h
              · exact .inl (by simp [h])
              · simp at h; rcases h with h | h
                · exact .inr (by simp [h])
                · subst h; exact .inl (by simp)
            · intro x hx r' hr' y hy hlty
              simp at hx
              rcases hx with hx | rfl
              · rcases R.cl x hx r' hr' y hy hlty with h | h
                · exact .inl (by simp [h])
                · simp at h; rcases h with h | h
                  · exact .inr (by simp [h])
                  · subst h; exact .inl (by simp)
              · rw [hr] at hr'; cases hr'
                unfold ways at hy
                rw [List.mem_append] at hy
                refine .inr ?_
                rcases hy with hy | hy
                · exact List.mem_append_left _ (List.mem_append_right _ ((nextsL_mem ..).mpr ⟨hy, hlty⟩))
                · exact List.mem_append_right _ hy)
    big (4 * c.rows.length + 1) [c.enc, .cell m.length, .cell (m.length + 1), .undef] (m ++ [some (.dic [] []), some (.lst [.int 0])]) (by have := W.len; exact Nat.lt_of_le_of_lt (m := 40) (by lia) (by decide))
    ⟨[], [0], .undef, rfl, rfl, ⟨List.nodup_nil, by simp, by simp; exact .zero W.pos, by simp, by simp⟩, by have := W.len; simp; lia, by simp⟩
  obtain ⟨o, ho, Z, x, rfl, hnd, hS⟩ := H
  refine ⟨Z, hnd, hS, ?_⟩
  have hp := W.pos
  simp only [T_reached, Ss.body, Ss.drop, Ss.drop1, Ss.hd, S.b, Cod.enc] at ho
  simp [F_reached, T_reached, Cod.enc, hp, ho, freezeD]

set_option maxRecDepth 100000
open PySem

theorem is_mute_eq (r : Row) (m : Mem) : F_is_mute [r.enc] m = some (.bool r.mute, m) := by
  have h : F_is_mute [r.enc] m = some (.bool r.mute, m.take m.length) := by
    cases r with
    | jif k a t => cases k <;> kernel_rfl
    | array to => kernel_rfl
    | move to a => cases a <;> kernel_rfl
    | bool to a => cases a <;> kernel_rfl
    | binary to a b => kernel_rfl
    | lelem to a => kernel_rfl
    | write to a b => kernel_rfl
    | echo a => kernel_rfl
    | throw a => kernel_rfl
    | ret a => kernel_rfl
    | jump t => kernel_rfl
  rw [h, List.take_length]
noncomputable def Row.isLe : Row → Bool | .lelem _ _ => true | .array _ | .move _ _ | .bool _ _ | .binary _ _ _ | .write _ _ _ | .echo _ | .throw _ | .ret _ | .jump _ | .jif _ _ _ => false
theorem can_drop_eq (r : Row) (m : Mem) : F_can_drop [.str r.op] m = some (.bool r.isLe, m) := by
  have h : F_can_drop [.str r.op] m = some (.bool r.isLe, m.take m.length) := by
    cases r with
    | jif k a t => cases k <;> kernel_rfl
    | array to => kernel_rfl
    | move to a => kernel_rfl
    | bool to a => kernel_rfl
    | binary to a b => kernel_rfl
    | lelem to a => kernel_rfl
    | write to a b => kernel_rfl
    | echo a => kernel_rfl
    | throw a => kernel_rfl
    | ret a => kernel_rfl
    | jump t => kernel_rfl
  rw [h, List.take_length]
theorem noTo_eq (r : Row) (u : Nat → Bool) : (r.noTo u).enc = (match r.to with | none => r.enc | some t => if u t = true ∨ r.isLe = false then r.enc else .tup [.str r.op, .none, r.pa, r.pb]) := by
  cases r with
  | lelem to a =>
    cases to with
    | none => rfl
    | some t => cases h : u t <;> simp [Row.noTo, Row.to, Row.isLe, h, Row.enc, Row.op, Row.pa, Row.pb]
  | _ => simp [Row.noTo, Row.to, Row.isLe]
theorem without_to_eq (r : Row) (U : List Nat) (vs : List D) (m : Mem) : F_without_to [r.enc, .dic (nats U) vs] m = some ((r.noTo (fun t => decide (t ∈ U))).enc, m) := by
  have e : r.enc = .tup [.str r.op, onat r.to, r.pa, r.pb] := rfl
  rw [noTo_eq]
  cases ht : r.to with
  | none =>
    rw [ht, onat_none] at e
    simp [F_without_to, T_without_to, e]
  | some t =>
    rw [ht, onat_some] at e
    by_cases h : t ∈ U
    · simp [F_without_to, T_without_to, e, h]
    · cases hd : r.isLe <;> simp [F_without_to, T_without_to, e, h, can_drop_eq, hd]

theorem compL_filter {α : Type} (enc : α → D) (asg : D → Option (List D)) (ifs : List D → Mem → Option (Bool × Mem)) (inner : List D → Mem → Option (List D × Mem)) (f : α → Bool) (g : α → List D) (m : Mem) :
    ∀ as : List α, (∀ a ∈ as, ∃ env, asg (enc a) = some env ∧ ifs env m = some (f a, m) ∧ (f a = true → inner env m = some (g a, m))) → compL asg ifs inner (as.map enc) m = some ((as.filter f).flatMap g, m)
  | [], _ => rfl
  | a :: as, h => by
    obtain ⟨env, h1, h2, h3⟩ := h a (by simp)
    have ih := compL_filter enc asg ifs inner f g m as (fun b hb => h b (List.mem_cons_of_mem _ hb))
    rw [List.map_cons, compL, h1]
    dsimp only
    rw [h2]
    cases hf : f a
    · simp only [ih, List.filter_cons, hf, Bool.false_eq_true, if_false]
    · simp only [ih, h3 hf, List.filter_cons, hf, if_true, List.flatMap_cons]

noncomputable def Cod.clean (c : Cod) : Cod := ⟨c.rows, c.trys.filter (fun t => decide (t.first < t.fin)), c.lives.filter (fun t => decide (t.first < t.behind))⟩
theorem without_empty_eq (c : Cod) (h1 : c.trys.length ≤ 900) (h2 : c.lives.length ≤ 900) (m : Mem) : F_without_empty [c.enc] m = some (c.clean.enc, m) := by
  have l1 : (c.trys.filter (fun t => decide (t.first < t.fin))).length ≤ big := big_le _ (Nat.le_trans (List.length_filter_le ..) (by lia))
  have l2 : (c.lives.filter (fun t => decide (t.first < t.behind))).length ≤ big := big_le _ (Nat.le_trans (List.length_filter_le ..) (by lia))
  have L1 : ∀ env, env.length = 4 → compL (asgG env (.v 3)) (tstAnd (.cons (.cmp .lt (.idx (.var 3) (.cst (.int 0))) (.idx (.var 3) (.cst (.int 3)))) .nil)) (evG (.done (.var 3))) (c.trys.map Try.enc) m = some ((c.trys.filter (fun t => decide (t.first < t.fin))).map Try.enc, m) := by
    intro env he
    rw [compL_filter Try.enc _ _ _ (fun t => decide (t.first < t.fin)) (fun t => [t.enc]) m]
    · rw [← List.map_eq_flatMap]
    · intro t _
      obtain ⟨a, b, d, e, rfl⟩ : ∃ a b d e, env = [a, b, d, e] := by
        match env, he with
        | [a, b, d, e], _ => exact ⟨a, b, d, e, rfl⟩
      refine ⟨[a, b, d, t.enc], by simp, ?_, by simp⟩
      by_cases hlt : t.first < t.fin <;> cases hr : t.ret <;> simp [Try.enc, Try.catchD, Try.finalD, hr, hlt]
  have L2 : ∀ env, env.length = 4 → compL (asgG env (.v 3)) (tstAnd (.cons (.cmp .lt (.idx (.var 3) (.cst (.int 1))) (.idx (.var 3) (.cst (.int 2)))) .nil)) (evG (.done (.var 3))) (c.lives.map Life.enc) m = some ((c.lives.filter (fun t => decide (t.first < t.behind))).map Life.enc, m) := by
    intro env he
    rw [compL_filter Life.enc _ _ _ (fun t => decide (t.first < t.behind)) (fun t => [t.enc]) m]
    · rw [← List.map_eq_flatMap]
    · intro t _
      obtain ⟨a, b, d, e, rfl⟩ : ∃ a b d e, env = [a, b, d, e] := by
        match env, he with
        | [a, b, d, e], _ => exact ⟨a, b, d, e, rfl⟩
      refine ⟨[a, b, d, t.enc], by simp, ?_, by simp⟩
      by_cases hlt : t.first < t.behind <;> simp [Life.enc, hlt]
  simp [F_without_empty, T_without_empty, Cod.enc, L1, L2, l1, l2, Cod.clean]

noncomputable def Row.ops : Row → List Opd
  | .array _ => [] | .move _ a => [a] | .bool _ a => [a] | .binary _ a b => [a, b] | .lelem _ a => [a, .lit .zero] | .write _ a b => [a, b]
  | .echo a => [a] | .throw a => [a] | .ret a => [a] | .jump _ => [] | .jif _ a _ => [a]
noncomputable def encO : Option Opd → D | none => wD | some a => a.enc
noncomputable def Row.ro : Row → List (Option Opd)
  | .write _ a b => [none, some a, some b]
  | r => r.ops.map some
theorem reads_ro (r : Row) : r.reads = r.ro.map encO := by cases r <;> rfl
noncomputable def addT (U : List Nat) (o : Option Opd) : List Nat := match o with | some (.tmp k) => ins k U | _ => U
theorem ins_len (k : Nat) (U : List Nat) : (ins k U).length ≤ U.length + 1 := by unfold ins; split <;> simp
theorem addT_len (U : List Nat) (o : Option Opd) : (addT U o).length ≤ U.length + 1 := by
  unfold addT; split
  · exact ins_len ..
  · lia
theorem addT_fold_len : ∀ (L : List (Option Opd)) (U : List Nat), (L.foldl addT U).length ≤ U.length + L.length
  | [], U => by simp
  | o :: L, U => by
    have := addT_fold_len L (addT U o); have := addT_len U o
    simp only [List.foldl_cons, List.length_cons]; lia
theorem ro_len (r : Row) : r.ro.length ≤ 3 := by cases r <;> simp [Row.ro, Row.ops]
theorem ro_mem (r : Row) (t : Nat) : some (.tmp t) ∈ r.ro ↔ .tmp t ∈ r.ops := by cases r <;> simp [Row.ro, Row.ops]
set_option tactic.hygienic true in
theorem addT_mem (t : Nat) : ∀ (L : List (Option Opd)) (U : List Nat), t ∈ L.foldl addT U ↔ t ∈ U ∨ some (.tmp t) ∈ L
  | [], U => by simp
  | o :: L, U => by
    rw [List.foldl_cons, addT_mem t L (addT U o), List.mem_cons]
    have : t ∈ addT U o ↔ t ∈ U ∨ some (.tmp t) = o := by
      unfold addT; split
      · rw [ins_mem]; simp [or_comm]
      · rename_i h; constructor
        · exact .inl
        · rintro (h' | h')
          · exact h'
          · exact absurd h'.symm (h t)
    rw [this, or_assoc]
noncomputable def addRow (c : Cod) (Z : List Nat) (U : List Nat) (p : Nat) : List Nat := if p ∈ Z then (c.row p).ro.foldl addT U else U
theorem addRow_len (c : Cod) (Z U : List Nat) (p : Nat) : (addRow c Z U p).length ≤ U.length + 3 := by
  unfold addRow; split
  · have := addT_fold_len (c.row p).ro U; have := ro_len (c.row p); lia
  · lia
theorem addRow_mem (c : Cod) (Z : List Nat) (t : Nat) : ∀ (L : List Nat) (U : List Nat), t ∈ L.foldl (addRow c Z) U ↔ t ∈ U ∨ ∃ p ∈ L, p ∈ Z ∧ .tmp t ∈ (c.row p).ops
  | [], U => by simp
  | p :: L, U => by
    rw [List.foldl_cons, addRow_mem c Z t L (addRow c Z U p)]
    have : t ∈ addRow c Z U p ↔ t ∈ U ∨ (p ∈ Z ∧ .tmp t ∈ (c.row p).ops) := by
      unfold addRow; split
      · rename_i h; rw [addT_mem, ro_mem]; simp [h]
      · rename_i h; simp [h]
    rw [this]
    simp only [List.mem_cons, exists_eq_or_imp, or_assoc]
noncomputable def addTry (U : List Nat) (t : Try) : List Nat := match t.ret with | none => U | some k => ins k U
theorem addTry_len (U : List Nat) (t : Try) : (addTry U t).length ≤ U.length + 1 := by
  unfold addTry; split
  · lia
  · exact ins_len ..
set_option tactic.hygienic true in
theorem addTry_mem (t : Nat) : ∀ (L : List Try) (U : List Nat), t ∈ L.foldl addTry U ↔ t ∈ U ∨ ∃ y ∈ L, y.ret = some t
  | [], U => by simp
  | y :: L, U => by
    rw [List.foldl_cons, addTry_mem t L (addTry U y)]
    have : t ∈ addTry U y ↔ t ∈ U ∨ y.ret = some t := by
      unfold addTry; split
      · rename_i h; simp [h]
      · rename_i k h; rw [ins_mem, h]; simp [or_comm, eq_comm]
    rw [this]
    simp only [List.mem_cons, exists_eq_or_imp, or_assoc]
theorem addLife_mem (t : Nat) : ∀ (L : List Life) (U : List Nat), t ∈ L.foldl (fun U l => ins l.temp U) U ↔ t ∈ U ∨ ∃ y ∈ L, y.temp = t
  | [], U => by simp
  | y :: L, U => by
    rw [List.foldl_cons, addLife_mem t L (ins y.temp U), ins_mem]
    simp only [List.mem_cons, exists_eq_or_imp]
    constructor
    · rintro ((h | h) | h)
      · exact .inr (.inl h.symm)
      · exact .inl h
      · exact .inr (.inr h)
    · rintro (h | h | h)
      · exact .inl (.inr h)
      · exact .inl (.inl h.symm)
      · exact .inr h

theorem rt_inner (m : Mem) (e0 e1 e3 : D) (xs : List D) : ∀ (L : List (Option Opd)) (U : List Nat) (x : D), U.length + L.length ≤ 1000 →
    ∃ y, forL (asgT (.v 4)) (exs (((T_read_temps.body 1).body 0).body 0)) (L.map encO) (e0 :: e1 :: .cell m.length :: e3 :: x :: xs) (m ++ [some (.dic (nats U) (trues U.length))])
      = some (.next, e0 :: e1 :: .cell m.length :: e3 :: y :: xs, m ++ [some (.dic (nats (L.foldl addT U)) (trues (L.foldl addT U).length))])
  | [], U, x, _ => ⟨x, by simp [forL]⟩
  | o :: L, U, x, hb => by
    simp only [List.length_cons] at hb
    obtain ⟨y, ih⟩ := rt_inner m e0 e1 e3 xs L (addT U o) (encO o) (by have := addT_len U o; lia)
    refine ⟨y, ?_⟩
    have hU := big_lt U.length (by lia)
    rw [List.foldl_cons, ← ih]
    cases o with
    | none => simp [forL, encO, wD, addT, T_read_temps, Ss.body, Ss.drop, Ss.drop1, Ss.hd, S.b]
    | some a => cases a <;> simp [forL, encO, addT, Opd.enc, setD, putK_nats, hU, T_read_temps, Ss.body, Ss.drop, Ss.drop1, Ss.hd, S.b]

theorem rt_loop1 (c : Cod) (Z : List Nat) (m : Mem) (vs : List D) (xs : List D) (hv : D.pures vs = true) : ∀ (j p : Nat) (U : List Nat) (x3 x4 : D), p + j = c.rows.length → U.length + 3 * j ≤ 900 →
    ∃ y3 y4, forL (asgT (.v 3)) (exs (T_read_temps.body 1)) (nats (List.range' p j)) (c.enc :: .dic (nats Z) vs :: .cell m.length :: x3 :: x4 :: xs) (m ++ [some (.dic (nats U) (trues U.length))])
      = some (.next, c.enc :: .dic (nats Z) vs :: .cell m.length :: y3 :: y4 :: xs, m ++ [some (.dic (nats ((List.range' p j).foldl (addRow c Z) U)) (trues ((List.range' p j).foldl (addRow c Z) U).length))])
  | 0, p, U, x3, x4, _, _ => ⟨x3, x4, by simp [forL]⟩
  | j + 1, p, U, x3, x4, h, hb => by
    have hp : p < c.rows.length := by lia
    have hr := c.row_get hp
    have hre := c.row_eq hp
    have hro := ro_len (c.row p)
    obtain ⟨y4, I⟩ := rt_inner m c.enc (.dic (nats Z) vs) (.int (p : Nat)) xs (c.row p).ro U x4 (by lia)
    obtain ⟨z3, z4, ih⟩ := rt_loop1 c Z m vs xs hv j (p + 1) (addRow c Z U p) (.int (p : Nat)) (if p ∈ Z then y4 else x4) (by lia) (by have := addRow_len c Z U p; lia)
    refine ⟨z3, z4, ?_⟩
    rw [range'_nats, List.range'_succ, List.foldl_cons, ← ih]
    simp only [T_read_temps, Ss.body, Ss.drop, Ss.drop1, Ss.hd, S.b, Cod.enc] at I
    by_cases hz : p ∈ Z
    · simp [forL, Cod.enc, hz, hp, hre, reads_eq, reads_ro, I, addRow, T_read_temps, Ss.body, Ss.drop, Ss.drop1, Ss.hd, S.b]
    · simp [forL, Cod.enc, hz, addRow, T_read_temps, Ss.body, Ss.drop, Ss.drop1, Ss.hd, S.b]

theorem rt_loop2 (m : Mem) (e0 e1 e3 e4 : D) (xs : List D) : ∀ (L : List Try) (U : List Nat) (x5 x6 x7 x8 x9 : D), U.length + L.length ≤ 1000 →
    ∃ y5 y6 y7 y8 y9, forL (asgT (.t [5, 6, 7, 8, 9])) (exs (T_read_temps.body 2)) (L.map Try.enc) (e0 :: e1 :: .cell m.length :: e3 :: e4 :: x5 :: x6 :: x7 :: x8 :: x9 :: xs) (m ++ [some (.dic (nats U) (trues U.length))])
      = some (.next, e0 :: e1 :: .cell m.length :: e3 :: e4 :: y5 :: y6 :: y7 :: y8 :: y9 :: xs, m ++ [some (.dic (nats (L.foldl addTry U)) (trues (L.foldl addTry U).length))])
  | [], U, x5, x6, x7, x8, x9, _ => ⟨x5, x6, x7, x8, x9, by simp [forL]⟩
  | t :: L, U, x5, x6, x7, x8, x9, hb => by
    simp only [List.length_cons] at hb
    obtain ⟨y5, y6, y7, y8, y9, ih⟩ := rt_loop2 m e0 e1 e3 e4 xs L (addTry U t) (.int (t.first : Nat)) t.catchD t.finalD (.int (t.fin : Nat)) (onat t.ret) (by have := addTry_len U t; lia)
    refine ⟨y5, y6, y7, y8, y9, ?_⟩
    have hU := big_lt U.length (by lia)
    rw [List.foldl_cons, ← ih]
    cases hr : t.ret <;> simp [forL, Try.enc, addTry, hr, setD, putK_nats, hU, T_read_temps, Ss.body, Ss.drop, Ss.drop1, Ss.hd, S.b]

theorem rt_loop3 (m : Mem) (e0 e1 e3 e4 e6 e7 e8 e9 : D) : ∀ (L : List Life) (U : List Nat) (x5 x10 x11 x12 : D), U.length + L.length ≤ 1000 →
    ∃ y5 y10 y11 y12, forL (asgT (.t [10, 5, 11, 12])) (exs (T_read_temps.body 3)) (L.map Life.enc) [e0, e1, .cell m.length, e3, e4, x5, e6, e7, e8, e9, x10, x11, x12] (m ++ [some (.dic (nats U) (trues U.length))])
      = some (.next, [e0, e1, .cell m.length, e3, e4, y5, e6, e7, e8, e9, y10, y11, y12], m ++ [some (.dic (nats (L.foldl (fun U l => ins l.temp U) U)) (trues (L.foldl (fun U l => ins l.temp U) U).length))])
  | [], U, x5, x10, x11, x12, _ => ⟨x5, x10, x11, x12, by simp [forL]⟩
  | t :: L, U, x5, x10, x11, x12, hb => by
    simp only [List.length_cons] at hb
    obtain ⟨y5, y10, y11, y12, ih⟩ := rt_loop3 m e0 e1 e3 e4 e6 e7 e8 e9 L (ins t.temp U) (.int (t.first : Nat)) (.int (t.temp : Nat)) (.int (t.behind : Nat)) (.str "call") (by have := ins_len t.temp U; lia)
    refine ⟨y5, y10, y11, y12, ?_⟩
    have hU := big_lt U.length (by lia)
    rw [List.foldl_cons, ← ih]
    simp [forL, Life.enc, setD, putK_nats, hU, T_read_temps, Ss.body, Ss.drop, Ss.drop1, Ss.hd, S.b]

noncomputable def Used (c : Cod) (t : Nat) : Prop := (∃ p, Live c p ∧ .tmp t ∈ (c.row p).ops) ∨ (∃ y ∈ c.trys, y.ret = some t) ∨ (∃ l ∈ c.lives, l.temp = t)

theorem foldl_len {α : Type} (f : List Nat → α → List Nat) (h : ∀ U a, (f U a).length ≤ U.length + 1) : ∀ (L : List α) (U : List Nat), (L.foldl f U).length ≤ U.length + L.length
  | [], U => by simp
  | a :: L, U => by
    have := foldl_len f h L (f U a); have := h U a
    simp only [List.foldl_cons, List.length_cons]; lia

theorem read_temps_eq (c : Cod) (W : WF c) (Z : List Nat) (hZ : ∀ y, y ∈ Z ↔ Live c y) (m : Mem) : ∃ U : List Nat, (∀ t, t ∈ U ↔ Used c t) ∧ F_read_temps [c.enc, .dic (nats Z) (trues Z.length)] m = some (.dic (nats U) (trues U.length), m) := by
  have hl := W.len; have ht := W.nt; have hll := W.nl
  obtain ⟨y3, y4, L1⟩ := rt_loop1 c Z m (trues Z.length) [.undef, .undef, .undef, .undef, .undef, .undef, .undef, .undef] (by simp) c.rows.length 0 [] .undef .undef (by lia) (by simp; lia)
  have b1 : ((List.range' 0 c.rows.length).foldl (addRow c Z) []).length ≤ 27 := by
    have : ∀ (L : List Nat) (U : List Nat), (L.foldl (addRow c Z) U).length ≤ U.length + 3 * L.length := by
      intro L
      induction L with
      | nil => simp
      | cons p L ih => intro U; have := ih (addRow c Z U p); have := addRow_len c Z U p; simp only [List.foldl_cons, List.length_cons]; lia
    have := this (List.range' 0 c.rows.length) []
    simp at this; lia
  rw [← List.range_eq_range'] at L1 b1
  obtain ⟨y5, y6, y7, y8, y9, L2⟩ := rt_loop2 m c.enc (.dic (nats Z) (trues Z.length)) y3 y4 [.undef, .undef, .undef] c.trys ((List.range c.rows.length).foldl (addRow c Z) []) .undef .undef .undef .undef .undef (by lia)
  have b2 := foldl_len addTry addTry_len c.trys ((List.range c.rows.length).foldl (addRow c Z) [])
  obtain ⟨z5, y10, y11, y12, L3⟩ := rt_loop3 m c.enc (.dic (nats Z) (trues Z.length)) y3 y4 y6 y7 y8 y9 c.lives (c.trys.foldl addTry ((List.range c.rows.length).foldl (addRow c Z) [])) y5 .undef .undef .undef (by lia)
  refine ⟨c.lives.foldl (fun U l => ins l.temp U) (c.trys.foldl addTry ((List.range c.rows.length).foldl (addRow c Z) [])), ?_, ?_⟩
  · intro t
    rw [addLife_mem, addTry_mem, addRow_mem]
    unfold Used
    have : (∃ p ∈ List.range c.rows.length, p ∈ Z ∧ .tmp t ∈ (c.row p).ops) ↔ (∃ p, Live c p ∧ .tmp t ∈ (c.row p).ops) := by
      constructor
      · rintro ⟨p, _, h1, h2⟩; exact ⟨p, (hZ p).mp h1, h2⟩
      · rintro ⟨p, h1, h2⟩; exact ⟨p, List.mem_range.mpr h1.lt, (hZ p).mpr h1, h2⟩
    rw [this]; simp [or_assoc]
  · simp only [T_read_temps, Ss.body, Ss.drop, Ss.drop1, Ss.hd, S.b, Cod.enc, nats_nil, List.length_nil, trues_zero] at L1 L2 L3
    have r1 : rngItems 0 (c.rows.length : Int) 1 = some (nats (List.range c.rows.length)) := rngItems_up _
    have hb := big_le c.rows.length (by lia)
    have e2 : (c.rows.length : Int).natAbs = c.rows.length := by lia
    simp [F_read_temps, T_read_temps, Cod.enc, e2, hb, r1, L1, L2, L3, freezeD]

set_option maxRecDepth 100000
open PySem

noncomputable def Row.unread (u : Nat → Bool) (r : Row) : Bool := match r.to with | none => false | some t => !u t
open Classical in
noncomputable def usedB (c : Cod) : Nat → Bool := fun t => decide (Used c t)
open Classical in
noncomputable def liveB (c : Cod) : Nat → Bool := fun p => decide (Live c p)
noncomputable def keepB (c : Cod) (p : Nat) : Bool := liveB c p && !((c.row p).unread (usedB c) && (c.row p).mute)
/-- the rows with the results that nothing reads taken off -/
noncomputable def Cod.thin (c : Cod) : Cod := ⟨c.rows.map (Row.noTo (usedB c)), c.trys, c.lives⟩
noncomputable def wd (c : Cod) : Cod := (keptT c.thin (keepB c)).clean

theorem noTo_target (u : Nat → Bool) (r : Row) : (r.noTo u).target = r.target := by
  unfold Row.noTo; split
  · split <;> rfl
  · rfl
theorem thin_fits {c : Cod} (F : c.Fits) : c.thin.Fits where
  n := by simpa [Cod.thin] using F.n
  nt := F.nt
  nl := F.nl
  rows := by
    intro r hr t ht
    simp only [Cod.thin, List.mem_map] at hr
    obtain ⟨r', h1, rfl⟩ := hr
    rw [noTo_target] at ht
    simpa [Cod.thin] using F.rows r' h1 t ht
  trys := by simpa [Cod.thin] using F.trys
  lives := by simpa [Cod.thin] using F.lives

theorem wd_loop (c : Cod) (m : Mem) (Z U : List Nat) (vs ws : List D) (hvs : D.pures vs = true) (hws : D.pures ws = true) (hn : c.rows.length ≤ 900) : ∀ (j p : Nat) (R K : List D) (x5 x6 x7 : D), p + j = c.rows.length → R.length = p → K.length = p →
    ∃ y5 y6 y7, forL (asgT (.v 5)) (exs (T_without_dead.body 4)) (nats (List.range' p j)) [c.enc, .dic (nats Z) vs, .dic (nats U) ws, .cell m.length, .cell (m.length + 1), x5, x6, x7] (m ++ [some (.lst R), some (.lst K)])
      = some (.next, [c.enc, .dic (nats Z) vs, .dic (nats U) ws, .cell m.length, .cell (m.length + 1), y5, y6, y7], m ++ [some (.lst (R ++ (List.range' p j).map fun q => ((c.row q).noTo (fun t => decide (t ∈ U))).enc)),
          some (.lst (K ++ (List.range' p j).map fun q => .bool (decide (q ∈ Z) && !((c.row q).unread (fun t => decide (t ∈ U)) && (c.row q).mute))))])
  | 0, p, R, K, x5, x6, x7, _, _, _ => ⟨x5, x6, x7, by simp [forL]⟩
  | j + 1, p, R, K, x5, x6, x7, h, hR, hK => by
    have hp : p < c.rows.length := by lia
    have hre := c.row_eq hp
    obtain ⟨y5, y6, y7, ih⟩ := wd_loop c m Z U vs ws hvs hws hn j (p + 1) (R ++ [((c.row p).noTo (fun t => decide (t ∈ U))).enc]) (K ++ [.bool (decide (p ∈ Z) && !((c.row p).unread (fun t => decide (t ∈ U)) && (c.row p).mute))]) (.int (p : Nat)) (c.row p).enc (.bool ((c.row p).unread (fun t => decide (t ∈ U)))) (by lia) (by simp [hR]) (by simp [hK])
    refine ⟨y5, y6, y7, ?_⟩
    have hA := big_lt R.length (by lia)
    have hB := big_lt K.length (by lia)
    rw [range'_nats, List.range'_succ, List.map_cons, List.map_cons]
    simp only [List.append_assoc, List.cons_append, List.nil_append] at ih
    rw [← ih]
    have rdz : ∀ m, rd m (.dic (nats Z) vs) = some (.dic (nats Z) vs, m) := fun m => rfl
    by_cases hz : p ∈ Z
    · cases hm : (c.row p).mute
      · cases ht : (c.row p).to with
        | none => simp [forL, Cod.enc, hz, hp, hre, ht, hm, hA, hB, is_mute_eq, without_to_eq, lstCell, appD, Row.unread, T_without_dead, Ss.body, Ss.drop, Ss.drop1, Ss.hd, S.b]
        | some t => by_cases hu : t ∈ U <;> simp [forL, Cod.enc, hz, hp, hre, ht, hm, hA, hB, hu, is_mute_eq, without_to_eq, lstCell, appD, Row.unread, T_without_dead, Ss.body, Ss.drop, Ss.drop1, Ss.hd, S.b]
      · cases ht : (c.row p).to with
        | none => simp [forL, Cod.enc, hz, hp, hre, ht, hm, hA, hB, is_mute_eq, without_to_eq, lstCell, appD, Row.unread, T_without_dead, Ss.body, Ss.drop, Ss.drop1, Ss.hd, S.b]
        | some t => by_cases hu : t ∈ U <;> simp [forL, Cod.enc, hz, hp, hre, ht, hm, hA, hB, hu, is_mute_eq, without_to_eq, lstCell, appD, Row.unread, T_without_dead, Ss.body, Ss.drop, Ss.drop1, Ss.hd, S.b]
    · cases ht : (c.row p).to with
      | none => simp [forL, Cod.enc, hz, hp, hre, ht, hA, hB, without_to_eq, lstCell, appD, Row.unread, T_without_dead, Ss.body, Ss.drop, Ss.drop1, Ss.hd, S.b]
      | some t => by_cases hu : t ∈ U <;> simp [forL, Cod.enc, hz, hp, hre, ht, hA, hB, hu, without_to_eq, lstCell, appD, Row.unread, T_without_dead, Ss.body, Ss.drop, Ss.drop1, Ss.hd, S.b]

theorem keptT_fits_len (c : Cod) (k : Nat → Bool) : (keptT c k).trys.length = c.trys.length ∧ (keptT c k).lives.length = c.lives.length := by simp [keptT]

theorem without_dead_eq (c : Cod) (W : WF c) (m : Mem) : F_without_dead [c.enc] m = some ((wd c).enc, m) := by
  obtain ⟨Z, hnd, hZ, h1⟩ := reached_eq c W m
  obtain ⟨U, hU, h2⟩ := read_temps_eq c W Z hZ m
  have eU : (fun t => decide (t ∈ U)) = usedB c := by
    funext t; unfold usedB; simp [hU t]
  have eK : (fun q => D.bool (decide (q ∈ Z) && !((c.row q).unread (fun t => decide (t ∈ U)) && (c.row q).mute))) = fun q => D.bool (keepB c q) := by
    funext q
    have : decide (q ∈ Z) = liveB c q := by unfold liveB; simp [hZ q]
    rw [eU]; simp only [this]; rfl
  have hl := W.len
  obtain ⟨y5, y6, y7, L⟩ := wd_loop c m Z U (trues Z.length) (trues U.length) (by simp) (by simp) (by lia) c.rows.length 0 [] [] .undef .undef .undef (by lia) rfl rfl
  rw [eU] at eK
  rw [← List.range_eq_range', eU, eK] at L
  have eR : (List.range c.rows.length).map (fun q => ((c.row q).noTo (usedB c)).enc) = c.thin.rows.map Row.enc := by
    apply List.ext_getElem?
    intro i
    by_cases hi : i < c.rows.length
    · simp [Cod.thin, hi, c.row_eq hi]
    · simp [Cod.thin, hi]
  have eD : D.lst ((List.range c.rows.length).map fun q => D.bool (keepB c q)) = keepD (keepB c) c.thin.rows.length := by simp [keepD, Cod.thin]
  have hF := thin_fits W.fits
  have hk := fun m => kept_eq c.thin (keepB c) hF m
  have he := fun m => without_empty_eq (keptT c.thin (keepB c)) (by rw [(keptT_fits_len _ _).1]; exact hF.nt) (by rw [(keptT_fits_len _ _).2]; exact hF.nl) m
  rw [eR] at L
  simp only [T_without_dead, Ss.body, Ss.drop, Ss.drop1, Ss.hd, S.b, List.nil_append] at L
  have r1 : rngItems 0 (c.rows.length : Int) 1 = some (nats (List.range c.rows.length)) := rngItems_up _
  have hb := big_le c.rows.length (by lia)
  have e2 : (c.rows.length : Int).natAbs = c.rows.length := by lia
  have e3 : c.enc = .obj [.lst (c.rows.map Row.enc), namesD, .int 4, .lst (c.trys.map Try.enc), .lst (c.lives.map Life.enc)] := rfl
  have e4 : c.thin.enc = .obj [.lst (c.thin.rows.map Row.enc), namesD, .int 4, .lst (c.trys.map Try.enc), .lst (c.lives.map Life.enc)] := rfl
  rw [e3] at h1 h2 L
  simp only [e4] at hk
  rw [← eD] at hk
  unfold wd
  have hp : D.pure (.lst ((List.range c.rows.length).map fun q => D.bool (keepB c q))) = true := by rw [pure_lst]; exact pures_map _ _ (fun _ => pure_bool _)
  simp [-List.map_map, F_without_dead, T_without_dead, e3, h1, h2, e2, hb, r1, L, hk, he, freezeD]

set_option maxRecDepth 100000
open PySem

noncomputable def Row.isBL : Row → Bool
  | .binary _ _ _ => true | .lelem _ _ => true | .array _ | .move _ _ | .bool _ _ | .write _ _ _ | .echo _ | .throw _ | .ret _ | .jump _ | .jif _ _ _ => false
noncomputable def Row.isW : Row → Bool
  | .write _ _ _ => true | .array _ | .move _ _ | .bool _ _ | .binary _ _ _ | .lelem _ _ | .echo _ | .throw _ | .ret _ | .jump _ | .jif _ _ _ => false
theorem op_bl (r : Row) : inD (.str r.op) [.str "binary", .str "list_elem"] = some r.isBL := by
  cases r with
  | jif k a t => cases k <;> kernel_rfl
  | _ => kernel_rfl
theorem op_w (r : Row) : eqD (.str r.op) (.str "write") = some r.isW := by
  cases r with
  | jif k a t => cases k <;> kernel_rfl
  | _ => kernel_rfl
theorem enc_eq (r : Row) : r.enc = .tup [.str r.op, onat r.to, r.pa, r.pb] := rfl
/-- the one operand of a row that is no operator and no write -/
theorem one_op (r : Row) (h1 : r.isBL = false) (h2 : r.isW = false) : (r.ops = [] ∧ r.pa = .none) ∨ ∃ a, r.ops = [a] ∧ r.pa = a.enc := by
  cases r with
  | binary _ _ _ => cases h1
  | lelem _ _ => cases h1
  | write _ _ _ => cases h2
  | array _ => exact .inl ⟨rfl, rfl⟩
  | jump _ => exact .inl ⟨rfl, rfl⟩
  | move _ a => exact .inr ⟨a, rfl, rfl⟩
  | bool _ a => exact .inr ⟨a, rfl, rfl⟩
  | echo a => exact .inr ⟨a, rfl, rfl⟩
  | throw a => exact .inr ⟨a, rfl, rfl⟩
  | ret a => exact .inr ⟨a, rfl, rfl⟩
  | jif _ a _ => exact .inr ⟨a, rfl, rfl⟩
theorem operands_eq (r : Row) (m : Mem) : F_law_operands [r.enc] m = some (.lst (r.ops.map Opd.enc), m) := by
  have e1 := op_bl r
  have e2 := op_w r
  rw [enc_eq]
  cases h1 : r.isBL
  · cases h2 : r.isW
    · rcases one_op r h1 h2 with ⟨o, e⟩ | ⟨a, o, e⟩
      · simp [-inD_str_cons, -eqD_str, F_law_operands, T_law_operands, e1, e2, h1, h2, o, e]
      · simp [-inD_str_cons, -eqD_str, F_law_operands, T_law_operands, e1, e2, h1, h2, o, e]
    · cases r with
      | write to a b => simp [-inD_str_cons, -eqD_str, F_law_operands, T_law_operands, e1, e2, h1, h2, Row.pa, Row.pb, Row.ops]
      | _ => cases h2
  · cases r with
    | binary to a b => simp [-inD_str_cons, F_law_operands, T_law_operands, e1, h1, Row.pa, Row.pb, Row.ops]
    | lelem to a => simp [-inD_str_cons, F_law_operands, T_law_operands, e1, h1, Row.pa, Row.pb, Row.ops, show zeroD = Opd.enc (.lit .zero) from rfl]
    | _ => cases h1

noncomputable def Row.speaks : Row → Bool
  | .array _ => false | .move _ a => a.isCv | .bool _ a => a.isCv | .jump _ => false | .jif _ a _ => a.isCv | .binary _ _ _ | .lelem _ _ | .write _ _ _ | .echo _ | .throw _ | .ret _ => true
noncomputable def Row.quietOp : Row → Bool
  | .array _ => true | .move _ _ => true | .bool _ _ => true | .binary _ _ _ | .lelem _ _ | .write _ _ _ | .echo _ | .throw _ | .ret _ | .jump _ | .jif _ _ _ => false
@[local simp] theorem op_quiet (r : Row) : inD (.str r.op) [.str "array", .str "move", .str "bool"] = some (r.quietOp) := by
  cases r with
  | jif k a t => cases k <;> kernel_rfl
  | _ => kernel_rfl
noncomputable def Row.isJ : Row → Bool | .jump _ => true | .jif _ _ _ => true | .array _ | .move _ _ | .bool _ _ | .binary _ _ _ | .lelem _ _ | .write _ _ _ | .echo _ | .throw _ | .ret _ => false
theorem op_jump (r : Row) : ∃ s, subD (.str r.op) 4 = some (.str s) ∧ (s = Str.ofString "jump" ↔ r.isJ = true) := by
  refine ⟨⟨(r.op.cps.toList.take 4).toArray⟩, ?_, ?_⟩
  · cases r with
    | jif k a t => cases k <;> kernel_rfl
    | _ => kernel_rfl
  · cases r with
    | jif k a t => cases k <;> simp only [Row.isJ, Row.op, Jk.op] <;> decide
    | _ => simp only [Row.isJ, Row.op] <;> decide
theorem speaks_no (r : Row) (h : (r.quietOp || r.isJ) = false) : r.speaks = true := by
  cases r with
  | binary _ _ _ => rfl
  | lelem _ _ => rfl
  | write _ _ _ => rfl
  | echo _ => rfl
  | throw _ => rfl
  | ret _ => rfl
  | _ => cases h
theorem speaks_of (r : Row) (h : (r.quietOp || r.isJ) = true) : (r.ops = [] ∧ r.speaks = false) ∨ ∃ a, r.ops = [a] ∧ r.speaks = a.isCv := by
  cases r with
  | array _ => exact .inl ⟨rfl, rfl⟩
  | jump _ => exact .inl ⟨rfl, rfl⟩
  | move _ a => exact .inr ⟨a, rfl, rfl⟩
  | bool _ a => exact .inr ⟨a, rfl, rfl⟩
  | jif _ a _ => exact .inr ⟨a, rfl, rfl⟩
  | _ => cases h
theorem speaks_eq (r : Row) (m : Mem) : F_law_speaks [r.enc] m = some (.bool r.speaks, m) := by
  obtain ⟨s, h1, h2⟩ := op_jump r
  have e1 : eqD (.lst []) (.lst []) = some true := rfl
  have e2 : ∀ k : Nat, eqD (.lst [(Opd.cv k).enc]) (.lst []) = some false := fun k => rfl
  have hop := fun m => operands_eq r m
  have ht : ∀ (x : D) (μ : Mem), tst (.or (.cons (.cmp .isIn (.idx (.var 0) (.cst (.int 0))) (.lst (.cons (.cst (.str "array")) (.cons (.cst (.str "move")) (.cons (.cst (.str "bool")) .nil))))) (.cons (.cmp .eq (.sub (.idx (.var 0) (.cst (.int 0))) 4) (.cst (.str "jump"))) .nil))) [r.enc, x] μ = some (r.quietOp || r.isJ, μ) := fun x μ => by
    rw [enc_eq]
    cases hq : r.quietOp
    · simp [-inD_str_cons, hq, h1, h2]
      cases r.isJ <;> rfl
    · simp [-inD_str_cons, hq]
  cases hq : r.quietOp || r.isJ
  · rw [speaks_no r hq]
    simp [-tst_or, F_law_speaks, T_law_speaks, ht, hq]
  · rcases speaks_of r hq with ⟨o, e⟩ | ⟨a, o, e⟩
    · rw [e]
      simp [-tst_or, F_law_speaks, T_law_speaks, ht, hq, hop, o, compL, e1]
    · rw [e]
      cases a <;> simp [-tst_or, F_law_speaks, T_law_speaks, ht, hq, hop, o, compL, Opd.isCv, Opd.sort, e1, e2]

theorem tst_way {env : List D} {m : Mem} {p : Nat} {t : Try} (h7 : env[7]? = some (.int (t.first : Nat))) (h8 : env[8]? = some t.catchD) (h9 : env[9]? = some t.finalD) (h1 : env[1]? = some (.int (p : Nat))) :
    ev (.ife (.cmp .is (.var 8) (.cst .none)) (.var 9) (.var 8)) env m = some (.int (t.behind : Nat), m) ∧ tst (.cmp2 (.var 7) .le (.var 1) .lt (.ife (.cmp .is (.var 8) (.cst .none)) (.var 9) (.var 8))) env m = some (t.covers p, m) := by
  have e : ev (.ife (.cmp .is (.var 8) (.cst .none)) (.var 9) (.var 8)) env m = some (.int (t.behind : Nat), m) := by
    cases hr : t.ret <;> simp [h8, h9, Try.catchD, Try.finalD, hr]
  refine ⟨e, ?_⟩
  simp only [tst_cmp2, ev_var', h7, h1, rd_int, cmpD_le, cmpD_lt, e]
  unfold Try.covers
  rw [show decide ((t.first : Int) ≤ (p : Int)) = decide (t.first ≤ p) from decide_eq_decide.mpr Int.ofNat_le, show decide ((p : Int) < (t.behind : Int)) = decide (p < t.behind) from decide_eq_decide.mpr Int.ofNat_lt]
  cases decide (t.first ≤ p) <;> rfl
theorem ways_loop (c : Cod) (m : Mem) (p : Nat) (F : List Nat) (e2 e3 e4 e5 : D) (hF : F.length ≤ 900) (ts : List Try) : ∀ (x7 x8 x9 x10 x11 : D),
    ∃ y7 y8 y9 y10 y11, forL (asgT (.t [7, 8, 9, 10, 11])) (exs (T_law_ways.body 3)) (ts.map Try.enc) [c.enc, .int (p : Nat), e2, e3, e4, e5, .cell m.length, x7, x8, x9, x10, x11] (m ++ [some (.lst (nats F))])
      = some (match handR ts p with
        | none => (.next, [c.enc, .int (p : Nat), e2, e3, e4, e5, .cell m.length, y7, y8, y9, y10, y11], m ++ [some (.lst (nats F))])
        | some t => (.ret (.lst (nats (F ++ [t.behind]))), [c.enc, .int (p : Nat), e2, e3, e4, e5, .lst (nats F), y7, y8, y9, y10, y11], m ++ [none])) := by
  have hb := big_le (F.length + 1) (Nat.le_trans (Nat.succ_le_succ hF) (by decide))
  induction ts with
  | nil => exact fun x7 x8 x9 x10 x11 => ⟨x7, x8, x9, x10, x11, rfl⟩
  | cons t ts ih =>
    intro x7 x8 x9 x10 x11
    have w := fun (x : D) (μ : Mem) => tst_way (m := μ) (p := p) (t := t) (env := [c.enc, .int (p : Nat), e2, e3, e4, e5, x, .int (t.first : Nat), t.catchD, t.finalD, .int (t.fin : Nat), onat t.ret]) rfl rfl rfl rfl
    have w1 := fun x μ => (w x μ).1
    have w2 := fun x μ => (w x μ).2
    clear w
    rw [handR]
    cases hc : t.covers p
    · obtain ⟨y7, y8, y9, y10, y11, ih⟩ := ih (.int (t.first : Nat)) t.catchD t.finalD (.int (t.fin : Nat)) (onat t.ret)
      refine ⟨y7, y8, y9, y10, y11, (forL_step rfl ?_).trans ih⟩
      simp [-tst_cmp2, w2, hc, Try.enc, T_law_ways, Ss.body, Ss.drop, Ss.drop1, Ss.hd, S.b]
    · refine ⟨.int (t.first : Nat), t.catchD, t.finalD, .int (t.fin : Nat), onat t.ret, forL_ret rfl ?_⟩
      simp [-tst_cmp2, -ev_ife, w1, w2, hc, Try.enc, freezeD, hb, nats_snoc, T_law_ways, Ss.body, Ss.drop, Ss.drop1, Ss.hd, S.b]

@[local simp] theorem op_halts (r : Row) : inD (.str r.op) [.str "jump", .str "return", .str "throw"] = some (!r.falls) := by
  cases r with
  | jif k a t => cases k <;> kernel_rfl
  | _ => kernel_rfl
theorem pb_of_jump (r : Row) (h : r.isJ = true) : ∃ t : Nat, r.pb = .int (t : Nat) ∧ r.target = some t := by
  cases r <;> simp [Row.isJ] at h
  · exact ⟨_, rfl, rfl⟩
  · exact ⟨_, rfl, rfl⟩
theorem no_target (r : Row) (h : r.isJ = false) : r.target = none := by
  cases r <;> simp [Row.isJ] at h <;> rfl
theorem ways_eq (c : Cod) (p : Nat) (r : Row) (h : c.rows[p]? = some r) (m : Mem) : F_law_ways [c.enc, .int (p : Nat)] m = some (.lst (nats (ways c p r)), m) := by
  obtain ⟨s, hs, hj⟩ := op_jump r
  obtain ⟨y7, y8, y9, y10, y11, L⟩ := ways_loop c m p ((if r.falls then [p + 1] else []) ++ r.target.toList) (.str r.op) (onat r.to) r.pa r.pb (by cases r.falls <;> cases r.target <;> simp) c.trys.reverse .undef .undef .undef .undef .undef
  rw [List.map_reverse] at L
  simp only [T_law_ways, Ss.body, Ss.drop, Ss.drop1, Ss.hd, S.b, Cod.enc] at L
  have e : r.enc = .tup [.str r.op, onat r.to, r.pa, r.pb] := rfl
  unfold ways Cod.hand
  cases hJ : r.isJ
  · have ht := no_target r hJ
    have hs' : ¬ s = Str.ofString "jump" := by rw [hj, hJ]; simp
    cases hh : handR c.trys.reverse p <;> cases hf : r.falls <;> simp [hh, hf, ht, nats_cons] at L <;>
      simp [-inD_str_cons, F_law_ways, T_law_ways, Cod.enc, h, e, hs, hs', hf, ht, L, freezeD, nats_cons]
  · obtain ⟨t, ht1, ht2⟩ := pb_of_jump r hJ
    have hs' : s = Str.ofString "jump" := by rw [hj, hJ]
    cases hh : handR c.trys.reverse p <;> cases hf : r.falls <;> simp [hh, hf, ht1, ht2, nats_cons] at L <;>
      simp [-inD_str_cons, F_law_ways, T_law_ways, Cod.enc, h, e, hs, hs', hf, ht1, ht2, L, freezeD, nats_cons, lstCell, appD]

theorem nums_nats : ∀ l : List Nat, nums (nats l) = some (l.map fun (k : Nat) => (k : Int))
  | [] => rfl
  | k :: l => congrArg (Option.map ((k : Int) :: ·)) (nums_nats l)
noncomputable def liveL (c : Cod) : List Nat := (List.range c.rows.length).filter (liveB c)
theorem liveL_mem (c : Cod) (p : Nat) : p ∈ liveL c ↔ Live c p := by
  unfold liveL liveB
  simp only [List.mem_filter, List.mem_range, decide_eq_true_eq]
  exact ⟨fun h => h.2, fun h => ⟨h.lt, h⟩⟩
theorem sort_live (c : Cod) (Z : List Nat) (hn : Z.Nodup) (hZ : ∀ y, y ∈ Z ↔ Live c y) : (sortI (Z.map fun (k : Nat) => (k : Int))).map D.int = nats (liveL c) := by
  have hp : Z.Perm (liveL c) := (List.perm_ext_iff_of_nodup hn (by
    have := List.pairwise_lt_range (n := c.rows.length)
    exact (this.filter (liveB c)).imp (fun h => by lia))).mpr (fun a => by rw [hZ, liveL_mem])
  rw [← sorted_eq (hp.symm.map fun (k : Nat) => (k : Int)) (List.pairwise_map.mpr ((List.pairwise_lt_range.filter (liveB c)).imp fun h => Int.ofNat_le.mpr (Nat.le_of_lt h)))]
  exact List.map_map
theorem sorted_list (c : Cod) (Z : List Nat) (hn : Z.Nodup) (hZ : ∀ y, y ∈ Z ↔ Live c y) (hl : c.rows.length ≤ 60) : sortedD (.lst (nats Z)) = some (.lst (nats (liveL c))) := by
  have := nodup_le c.rows.length Z hn (fun x hx => ((hZ x).mp hx).lt)
  change (if (nats Z).length < 64 then (nums (nats Z)).map fun is => D.lst ((sortI is).map .int) else none) = _
  rw [if_pos (by unfold nats; rw [List.length_map]; lia), nums_nats, Option.map_some, sort_live c Z hn hZ]
theorem sorted_reached (c : Cod) (Z : List Nat) (hn : Z.Nodup) (hZ : ∀ y, y ∈ Z ↔ Live c y) (hl : c.rows.length ≤ 60) (vs : List D) : sortedD (.dic (nats Z) vs) = some (.lst (nats (liveL c))) := sorted_list c Z hn hZ hl

theorem addN_nodup (n : Nat) : ∀ (L A : List Nat), A.Nodup → (L.foldl (addN n) A).Nodup
  | [], A, h => h
  | x :: L, A, h => addN_nodup n L _ (by
    unfold addN; split
    · rename_i hx
      rw [List.nodup_append]; refine ⟨h, by simp, ?_⟩
      intro a ha b hb e; simp at hb; subst hb; subst e; exact hx.2 ha
    · exact h)
theorem addN_get (n : Nat) : ∀ (L A : List Nat) (i : Nat), i < A.length → (L.foldl (addN n) A)[i]? = A[i]?
  | [], A, i, h => rfl
  | x :: L, A, i, h => by
    have hl : A.length ≤ (addN n A x).length := by unfold addN; split <;> simp
    rw [List.foldl_cons, addN_get n L _ i (by lia)]
    unfold addN; split
    · rw [List.getElem?_append_left h]
    · rfl

theorem clo_loop (c : Cod) (m : Mem) (d : D) : ∀ (L A : List Nat) (x : D), A.length + L.length ≤ 1000 →
    ∃ x', forL (asgT (.v 3)) (exs ((T_law_closure.body 2).body 0)) (nats L) [c.enc, .cell m.length, d, x] (m ++ [some (.lst (nats A))])
      = some (.next, [c.enc, .cell m.length, d, x'], m ++ [some (.lst (nats (L.foldl (addN c.rows.length) A)))])
  | [], A, x, _ => ⟨x, rfl⟩
  | y :: L, A, x, hb => by
    simp only [List.length_cons] at hb
    have h3 : (addN c.rows.length A y).length ≤ A.length + 1 := by (unfold addN; split <;> simp)
    obtain ⟨x', ih⟩ := clo_loop c m d L (addN c.rows.length A y) (.int (y : Nat)) (by lia)
    refine ⟨x', ?_⟩
    rw [List.foldl_cons, ← ih, nats_cons]
    have hA := big_lt A.length (by lia)
    by_cases h1 : y < c.rows.length
    · by_cases h2 : y ∈ A
      · simp [forL, Cod.enc, h1, h2, inC, addN, T_law_closure, Ss.body, Ss.drop, Ss.drop1, Ss.hd, S.b]
      · simp [forL, Cod.enc, h1, h2, inC, addN, lstCell, appD, hA, nats_snoc, T_law_closure, Ss.body, Ss.drop, Ss.drop1, Ss.hd, S.b]
    · simp [forL, Cod.enc, h1, addN, T_law_closure, Ss.body, Ss.drop, Ss.drop1, Ss.hd, S.b]

structure CInv (c : Cod) (A : List Nat) (d : Nat) : Prop where
  nd : A.Nodup
  al : ∀ x ∈ A, Live c x
  z : 0 ∈ A
  le : d ≤ A.length
  cl : ∀ i, i < d → ∀ x, A[i]? = some x → ∀ r, c.rows[x]? = some r → ∀ y ∈ ways c x r, y < c.rows.length → y ∈ A

theorem closure_eq (c : Cod) (W : WF c) (m : Mem) : F_law_closure [c.enc] m = some (.lst (nats (liveL c)), m) := by
  have hlen := W.len
  have H := whileN_spec (t := tst (.cmp .lt (.var 2) (.bi .len (.var 1)))) (b := exs (T_law_closure.body 2))
    (fun k env m' => ∃ A d x, env = [c.enc, .cell m.length, .int (d : Nat), x] ∧ m' = m ++ [some (.lst (nats A))] ∧ CInv c A d ∧ k = c.rows.length - d)
    (fun o => ∃ A d x, o = (.next, [c.enc, .cell m.length, .int (d : Nat), x], m ++ [some (.lst (nats A))]) ∧ A.Nodup ∧ ∀ y, y ∈ A ↔ Live c y)
    (by
      rintro k env m' ⟨A, d, x, rfl, rfl, R, rfl⟩
      have hA := nodup_le c.rows.length A R.nd (fun x hx => (R.al x hx).lt)
      by_cases hd : d < A.length
      · refine .inr ⟨by simp [hd], .inl ?_⟩
        have hp := R.al A[d] (List.getElem_mem hd)
        have hAd : A[d]? = some A[d] := List.getElem?_eq_getElem hd
        generalize A[d] = p at hp hAd
        have hlt := hp.lt
        have hr := c.row_get hlt
        generalize c.row p = r at hr
        have hwl : (ways c p r).length ≤ 3 := by
          unfold ways
          cases r.falls <;> cases r.target <;> cases c.hand p <;> simp
        obtain ⟨x', L⟩ := clo_loop c m (.int (d : Nat)) (ways c p r) A x (by lia)
        have hm := fun y => addN_mem c.rows.length y (ways c p r) A
        refine ⟨c.rows.length - (d + 1), [c.enc, .cell m.length, .int ((d + 1 : Nat) : Int), x'], m ++ [some (.lst (nats ((ways c p r).foldl (addN c.rows.length) A)))], by lia, ?_, (ways c p r).foldl (addN c.rows.length) A, d + 1, x', rfl, rfl, ?_, rfl⟩
        · simp only [T_law_closure, Ss.body, Ss.drop, Ss.drop1, Ss.hd, S.b] at L
          simp [T_law_closure, Ss.body, Ss.drop, Ss.drop1, Ss.hd, S.b, idxD, nats_get, hAd, ways_eq c p r hr, L]
        · refine ⟨addN_nodup _ _ _ R.nd, ?_, ?_, ?_, ?_⟩
          · intro y hy
            rcases (hm y).mp hy with h | ⟨h1, h2⟩
            · exact R.al y h
            · exact .step hp hr h1 h2
          · exact (hm 0).mpr (.inl R.z)
          · have h2 : ∀ (L A : List Nat), A.length ≤ (L.foldl (addN c.rows.length) A).length := by
              intro L
              induction L with
              | nil => simp
              | cons x L ih =>
                intro A
                have := ih (addN c.rows.length A x)
                have hl : A.length ≤ (addN c.rows.length A x).length := by unfold addN; split <;> simp
                simp only [List.foldl_cons]; lia
            have := h2 (ways c p r) A
            lia
          · intro i hi y hy r' hr' z hz hz2
            rw [addN_get _ _ _ i (by lia)] at hy
            by_cases hid : i < d
            · exact (hm z).mpr (.inl (R.cl i hid y hy r' hr' z hz hz2))
            · have : i = d := by lia
              subst this
              rw [hAd] at hy; cases hy
              rw [hr] at hr'; cases hr'
              exact (hm z).mpr (.inr ⟨hz, hz2⟩)
      · refine .inl ⟨by simp [hd], A, d, x, rfl, R.nd, fun y => ⟨R.al y, fun h => ?_⟩⟩
        induction h with
        | zero h => exact R.z
        | step _ h1 h2 h3 ih =>
          obtain ⟨i, hi⟩ := List.mem_iff_getElem?.mp ih
          have : i < A.length := by
            rcases Nat.lt_or_ge i A.length with h | h
            · exact h
            · rw [List.getElem?_eq_none h] at hi; cases hi
          exact R.cl i (by lia) _ hi _ h1 _ h2 h3)
    big c.rows.length [c.enc, .cell m.length, .int ((0 : Nat) : Int), .undef] (m ++ [some (.lst (nats [0]))]) (big_lt _ (by lia))
    ⟨[0], 0, .undef, rfl, rfl, ⟨by simp, by simp; exact .zero W.pos, by simp, by simp, fun i h => by lia⟩, by simp⟩
  obtain ⟨o, ho, A, d, x, rfl, hnd, hA⟩ := H
  simp only [T_law_closure, Ss.body, Ss.drop, Ss.drop1, Ss.hd, S.b, Cod.enc] at ho
  have hs := sorted_list c A hnd hA (by lia)
  simp [nats_cons] at ho
  simp [F_law_closure, T_law_closure, Cod.enc, ho, freezeD, hs]

set_option maxRecDepth 100000
open PySem

theorem py_onat (k : Option Nat) : ∃ q, (onat k).py = some q ∧ shallow q = true ∧ ∀ t : Nat, q.eqv (.int (t : Nat)) = decide (k = some t) := by
  cases k with
  | none => exact ⟨.none, rfl, rfl, fun t => rfl⟩
  | some k => exact ⟨.int (k : Nat), rfl, rfl, fun t => by simp [PyData.eqv, beq_dec, Int.ofNat_inj]⟩
@[local simp] theorem inD_onat (t : Nat) (L : List (Option Nat)) : inD (.int (t : Nat)) (L.map onat) = some (decide (some t ∈ L)) := by
  induction L with
  | nil => simp
  | cons k L ih =>
    obtain ⟨q, h1, h2, h3⟩ := py_onat k
    rw [List.map_cons, inD_cons (p := .int (t : Nat)) (q := q) rfl h1 rfl h2, ih, h3]
    simp [eq_comm]

theorem filter_tt {α : Type} (l : List α) : (l.filter fun _ => true) = l := List.filter_eq_self.mpr (fun _ _ => rfl)
noncomputable def Opd.isT : Opd → Bool | .tmp _ => true | .lit _ | .cv _ => false
noncomputable def Opd.tmp? : Opd → Option Nat | .tmp k => some k | .lit _ | .cv _ => none
noncomputable def Row.tmps (r : Row) : List (Option Nat) := (r.ops.filter Opd.isT).map Opd.tmp?
theorem tmps_mem (r : Row) (t : Nat) : some t ∈ r.tmps ↔ .tmp t ∈ r.ops := by
  unfold Row.tmps
  simp only [List.mem_map, List.mem_filter]
  constructor
  · rintro ⟨a, ⟨h1, h2⟩, h3⟩
    cases a <;> simp [Opd.isT, Opd.tmp?] at h2 h3
    subst h3; exact h1
  · intro h; exact ⟨_, ⟨h, rfl⟩, rfl⟩
theorem tmps_comp (r : Row) (env : List D) (k : Nat) (hk : k < env.length) (m : Mem) : compL (asgG env (.v k)) (tstAnd (.cons (.cmp .eq (.idx (.var k) (.cst (.int 0))) (.cst (.str "tmp"))) .nil)) (evG (.done (.idx (.var k) (.cst (.int 1))))) (r.ops.map Opd.enc) m = some (r.tmps.map onat, m) := by
  rw [compL_filter Opd.enc _ _ _ Opd.isT (fun a => [onat a.tmp?]) m]
  · rw [← List.map_eq_flatMap]; simp [Row.tmps]; done
  · intro a _
    refine ⟨env.set k a.enc, by simp, ?_, ?_⟩
    · cases a <;> simp [Opd.sort, Opd.isT, hk]
    · cases a <;> simp [Opd.isT, hk, Opd.held, Opd.tmp?]
theorem tmps_len (r : Row) : r.tmps.length ≤ 2 := by
  unfold Row.tmps
  rw [List.length_map]
  exact Nat.le_trans (List.length_filter_le ..) (by cases r <;> simp [Row.ops])
theorem flat_len {α : Type} (f : α → List (Option Nat)) (h : ∀ a, (f a).length ≤ 2) : ∀ l : List α, (l.flatMap f).length ≤ 2 * l.length
  | [] => by simp
  | a :: l => by
    have := flat_len f h l; have := h a
    rw [List.flatMap_cons, List.length_append, List.length_cons]; lia

/-- the temporaries read, as the law lists them -/
noncomputable def usedL (c : Cod) (L : List Nat) : List (Option Nat) := L.flatMap (fun p => (c.row p).tmps) ++ c.trys.map Try.ret ++ c.lives.map (fun l => some l.temp)
theorem usedL_mem (c : Cod) (L : List Nat) (hL : ∀ p, p ∈ L ↔ Live c p) (t : Nat) : some t ∈ usedL c L ↔ Used c t := by
  unfold usedL Used
  simp only [List.mem_append, List.mem_flatMap, List.mem_map, tmps_mem, hL, or_assoc, Option.some.injEq]

theorem live_comp (c : Cod) (m : Mem) (L : List Nat) (hL : ∀ p ∈ L, p < c.rows.length) (xs : List D) : compL (asgG (c.enc :: xs) (.v 16)) (tstAnd .nil) (evG (.cons (.v 17) (.call "_law_operands" F_law_operands (.cons (.idx (.attr (.var 0) 0) (.var 16)) .nil)) (.cons (.cmp .eq (.idx (.var 17) (.cst (.int 0))) (.cst (.str "tmp"))) .nil) (.done (.idx (.var 17) (.cst (.int 1)))))) (nats L) m = if xs.length = 17 then some ((L.flatMap (fun p => (c.row p).tmps)).map onat, m) else compL (asgG (c.enc :: xs) (.v 16)) (tstAnd .nil) (evG (.cons (.v 17) (.call "_law_operands" F_law_operands (.cons (.idx (.attr (.var 0) 0) (.var 16)) .nil)) (.cons (.cmp .eq (.idx (.var 17) (.cst (.int 0))) (.cst (.str "tmp"))) .nil) (.done (.idx (.var 17) (.cst (.int 1)))))) (nats L) m := by
  split
  · rename_i hx
    unfold nats
    rw [compL_filter (fun (p : Nat) => D.int (p : Nat)) _ _ _ (fun _ => true) (fun p => (c.row p).tmps.map onat) m]
    · rw [filter_tt]; simp [List.map_flatMap]
    · intro p hp
      have hlt := hL p hp
      have hT := tmps_comp (c.row p) (c.enc :: xs.set 15 (.int (p : Nat))) 17 (by simp [hx]) m
      simp only [Cod.enc] at hT
      refine ⟨c.enc :: xs.set 15 (.int (p : Nat)), by simp, by simp, fun _ => ?_⟩
      simp [Cod.enc, hx, hlt, c.row_eq hlt, operands_eq, hT]
  · rfl

theorem ret_comp (m : Mem) (ts : List Try) (env : List D) (k : Nat) (hk : k < env.length) : compL (asgG env (.v k)) (tstAnd .nil) (evG (.done (.idx (.var k) (.cst (.int 4))))) (ts.map Try.enc) m = some ((ts.map Try.ret).map onat, m) := by
  rw [compL_filter Try.enc _ _ _ (fun _ => true) (fun t => [onat t.ret]) m]
  · rw [← List.map_eq_flatMap, filter_tt, List.map_map]; rfl
  · intro t _
    exact ⟨env.set k t.enc, by simp, by simp, fun _ => by simp [hk]; simp [Try.enc]⟩
theorem temp_comp (m : Mem) (ts : List Life) (env : List D) (k : Nat) (hk : k < env.length) : compL (asgG env (.v k)) (tstAnd .nil) (evG (.done (.idx (.var k) (.cst (.int 0))))) (ts.map Life.enc) m = some ((ts.map fun l => some l.temp).map onat, m) := by
  rw [compL_filter Life.enc _ _ _ (fun _ => true) (fun t => [.int (t.temp : Nat)]) m]
  · rw [← List.map_eq_flatMap, filter_tt, List.map_map]; rfl
  · intro t _
    exact ⟨env.set k t.enc, by simp, by simp, fun _ => by simp [hk]; simp [Life.enc]⟩

theorem enumD_rows (c : Cod) (j : Nat) : ∀ (p : Nat), p + j = c.rows.length → enumD ((c.rows.drop p).map Row.enc) p = (List.range' p j).map fun q => .tup [.int (q : Nat), (c.row q).enc] := by
  induction j with
  | zero => exact fun p h => by rw [List.drop_of_length_le (show c.rows.length ≤ p from Nat.le_of_eq h.symm)]; rfl
  | succ j ih =>
    intro p h
    have hp : p < c.rows.length := h ▸ Nat.lt_add_of_pos_right (Nat.succ_pos j)
    rw [List.drop_eq_getElem_cons hp, List.map_cons, List.range'_succ, List.map_cons, ← ih (p + 1) ((Nat.add_right_comm p 1 j).trans h), c.row_eq hp]
    rfl

theorem says_none_eq (r : Row) (env : List D) (m : Mem) (h : env[7]? = some r.enc) : ev (.or (.cons (.cmp .eq (.idx (.var 7) (.cst (.int 0))) (.cst (.str "array"))) (.cons (.and (.cons (.cmp .isIn (.idx (.var 7) (.cst (.int 0))) (.lst (.cons (.cst (.str "move")) (.cons (.cst (.str "bool")) .nil)))) (.cons (.cmp .ne (.idx (.idx (.var 7) (.cst (.int 2))) (.cst (.int 0))) (.cst (.str "cv"))) .nil))) .nil))) env m = some (.bool r.mute, m) := by
  cases r with
  | jif k a t => cases k <;> simp [h, Row.op, Jk.op, Row.mute]
  | move to a => cases a <;> simp [h, Row.op, Row.pa, Row.mute, Opd.isCv, Opd.sort]
  | bool to a => cases a <;> simp [h, Row.op, Row.pa, Row.mute, Opd.isCv, Opd.sort]
  | _ => simp [h, Row.op, Row.mute]
theorem op_le (r : Row) : (r.op = Str.ofString "list_elem") ↔ r.isLe = true := by
  cases r with
  | jif k a t => cases k <;> simp [Row.op, Jk.op, Row.isLe]
  | _ => simp [Row.op, Row.isLe]
theorem noTo_to (r : Row) (u : Nat → Bool) : (r.noTo u).head = .tup [.str r.op, if r.unread u = true ∧ r.isLe = true then .none else onat r.to] := by
  cases r with
  | lelem to a =>
    cases to with
    | none => rfl
    | some t => cases h : u t <;> simp [Row.noTo, Row.to, Row.isLe, h, Row.head, Row.op, Row.unread]
  | _ => simp [Row.noTo, Row.to, Row.isLe, Row.head, Row.op, Row.unread]

theorem left_loop3 (c : Cod) (m : Mem) (Lv : List Nat) (us : List (Option Nat)) (k : Nat → Bool) (u : Nat → Bool) (hu : ∀ t, u t = decide (some t ∈ us)) (hk : ∀ p, p < c.rows.length → k p = (decide (p ∈ Lv) && !((c.row p).unread u && (c.row p).mute))) (xs : List D) (hn : c.rows.length ≤ 900) (j : Nat) :
    ∀ (p : Nat) (x4 x6 x7 x8 x9 : D), p + j = c.rows.length →
    ∃ y4 y7 y8 y9, forL (asgT (.t [4, 7])) (exs (T_law_left.body 3)) ((List.range' p j).map fun q => .tup [.int (q : Nat), (c.row q).enc]) (c.enc :: .lst (nats Lv) :: .cell m.length :: .cell (m.length + 1) :: x4 :: .lst (us.map onat) :: x6 :: x7 :: x8 :: x9 :: xs) (m ++ [some (.lst (nats ((List.range p).map (num k)))), some (.lst ((pick k (fun q => (c.row q).noTo u) p).map Row.head))])
      = some (.next, (c.enc :: .lst (nats Lv) :: .cell m.length :: .cell (m.length + 1) :: y4 :: .lst (us.map onat) :: x6 :: y7 :: y8 :: y9 :: xs), m ++ [some (.lst (nats ((List.range c.rows.length).map (num k)))), some (.lst ((pick k (fun q => (c.row q).noTo u) c.rows.length).map Row.head))]) := by
  induction j with
  | zero => exact fun p x4 x6 x7 x8 x9 h => ⟨x4, x7, x8, x9, by rw [← h]; rfl⟩
  | succ j ih =>
    intro p x4 x6 x7 x8 x9 h
    have hp : p < c.rows.length := h ▸ Nat.lt_add_of_pos_right (Nat.succ_pos j)
    obtain ⟨y4, y7, y8, y9, ih⟩ := ih (p + 1) (.int (p : Nat)) x6 (c.row p).enc (.bool ((c.row p).unread u)) (.bool (c.row p).mute) ((Nat.add_right_comm p 1 j).trans h)
    have hp9 : p < 900 := Nat.lt_of_lt_of_le hp hn
    have hA := big_lt p (Nat.le_trans (Nat.le_of_lt hp9) (by decide))
    have hB := big_lt (num k p) (Nat.le_trans (num_le k p) (Nat.le_trans (Nat.le_of_lt hp9) (by decide)))
    have hl := pick_len k (fun q => (c.row q).noTo u) p
    rw [List.range'_succ, List.map_cons]
    refine ⟨y4, y7, y8, y9, (forL_step rfl ?_).trans ih⟩
    rw [List.range_succ, List.map_append, List.map_singleton, ← nats_snoc, pick, List.map_append]
    clear ih
    have hkp := hk p hp
    have hsn := fun env m h => says_none_eq (c.row p) env m h
    have hhd := noTo_to (c.row p) u
    generalize c.row p = r at *
    have hle := op_le r
    have hb1 : ∀ (env' : List D) (m' : Mem), env'[7]? = some r.enc → env'[5]? = some (.lst (us.map onat)) → ev (.and (.cons (.cmp .isNot (.idx (.var 7) (.cst (.int 1))) (.cst .none)) (.cons (.cmp .notIn (.idx (.var 7) (.cst (.int 1))) (.var 5)) .nil))) env' m' = some (.bool (r.unread u), m') := by
      intro env' m' h1 h2
      cases ht : r.to with
      | none => simp [h1, h2, ht, Row.unread]
      | some t => simp [h1, h2, ht, Row.unread, hu]
    have hb1' := hb1 (c.enc :: .lst (nats Lv) :: .cell m.length :: .cell (m.length + 1) :: .int (p : Nat) :: .lst (us.map onat) :: x6 :: r.enc :: x8 :: x9 :: xs) (m ++ [some (.lst (nats ((List.range p).map (num k)) ++ [.int (num k p : Nat)])), some (.lst ((pick k (fun q => (c.row q).noTo u) p).map Row.head))]) rfl rfl
    have hsn' := hsn (c.enc :: .lst (nats Lv) :: .cell m.length :: .cell (m.length + 1) :: .int (p : Nat) :: .lst (us.map onat) :: x6 :: r.enc :: .bool (r.unread u) :: x9 :: xs) (m ++ [some (.lst (nats ((List.range p).map (num k)) ++ [.int (num k p : Nat)])), some (.lst ((pick k (fun q => (c.row q).noTo u) p).map Row.head))]) rfl
    by_cases hz : p ∈ Lv <;> cases hur : r.unread u <;> cases hmr : r.mute <;> cases hler : r.isLe <;>
      simp only [hur, hmr, hler, hz, decide_true, decide_false, Bool.true_and, Bool.false_and, Bool.not_true, Bool.not_false, Bool.and_self, Bool.and_true, Bool.and_false, Bool.false_eq_true, if_true, if_false, and_true, and_false, true_and, false_and, not_false_eq_true] at hkp hhd hle hb1' hsn' <;>
      simp [-ev_and, -ev_or, hz, hkp, hur, hmr, hler, hhd, hle, hA, hB, hl, lstCell, appD, hb1', hsn', T_law_left, Ss.body, Ss.drop, Ss.drop1, Ss.hd, S.b]

theorem left_loop6 (N : List Nat) (g : Nat → Nat) (m : Mem) (e0 e1 e3 e4 e5 e7 e8 e9 : D) (M : Option Cell) (a0 a1 a2 a3 a4 a5 a6 : D) (M2 : Option Cell) (ts : List Try) : ∀ (made : List Try) (x6 : D), made.length + ts.length ≤ 900 → (∀ t ∈ ts, N[t.first]? = some (g t.first) ∧ N[t.behind]? = some (g t.behind) ∧ N[t.fin]? = some (g t.fin)) →
    ∃ y6, forL (asgT (.v 6)) (exs ((T_law_left.body 6))) (ts.map Try.enc) [e0, e1, .cell m.length, e3, e4, e5, x6, e7, e8, e9, .cell (m.length + 2), a0, a1, a2, a3, a4, a5, a6] (m ++ [some (.lst (nats N)), M, some (.lst (made.map Try.enc)), M2])
      = some (.next, [e0, e1, .cell m.length, e3, e4, e5, y6, e7, e8, e9, .cell (m.length + 2), a0, a1, a2, a3, a4, a5, a6], m ++ [some (.lst (nats N)), M, some (.lst ((made ++ (ts.map (Try.map g)).filter (fun t => decide (t.first < t.fin))).map Try.enc)), M2]) := by
  induction ts with
  | nil => exact fun made x6 _ _ => ⟨x6, by rw [List.map_nil, List.map_nil, List.filter_nil, List.append_nil]; rfl⟩
  | cons t ts ih =>
    intro made x6 hb ht
    have hA := lt_big (n := 0) hb
    obtain ⟨h1, h2, h3⟩ := ht t List.mem_cons_self
    have ht' := fun r' h => ht r' (List.mem_cons_of_mem _ h)
    rw [List.map_cons, List.map_cons]
    by_cases hc : g t.first < g t.fin
    · obtain ⟨y6, ih⟩ := ih (made ++ [t.map g]) t.enc (snoc_le hb) ht'
      rw [List.append_assoc] at ih
      rw [List.filter_cons_of_pos (p := fun t : Try => decide (t.first < t.fin)) (decide_eq_true hc)]
      refine ⟨y6, (forL_step rfl ?_).trans ih⟩
      cases hr : t.ret <;>
        simp [compL, Try.enc, Try.catchD, Try.finalD, Try.map, hr, hA, h1, h2, h3, hc, lstCell, appD, idxD, nats_get, T_law_left, Ss.body, Ss.drop, Ss.drop1, Ss.hd, S.b]
    · obtain ⟨y6, ih⟩ := ih made t.enc (Nat.le_trans (Nat.add_le_add_left (Nat.le_succ _) _) hb) ht'
      rw [List.filter_cons_of_neg (p := fun t : Try => decide (t.first < t.fin)) fun q => hc (of_decide_eq_true q)]
      refine ⟨y6, (forL_step rfl ?_).trans ih⟩
      cases hr : t.ret <;>
        simp [Try.enc, Try.catchD, Try.finalD, hr, h1, h3, hc, idxD, nats_get, T_law_left, Ss.body, Ss.drop, Ss.drop1, Ss.hd, S.b]

theorem left_loop7 (N : List Nat) (g : Nat → Nat) (m : Mem) (e0 e1 e3 e4 e5 e6 e7 e8 e9 e10 x16 x17 : D) (M M2 : Option Cell) (ts : List Life) : ∀ (made : List Life) (x12 x13 x14 x15 : D), made.length + ts.length ≤ 900 → (∀ t ∈ ts, N[t.first]? = some (g t.first) ∧ N[t.behind]? = some (g t.behind)) →
    ∃ y12 y13 y14 y15, forL (asgT (.t [12, 13, 14, 15])) (exs (T_law_left.body 7)) (ts.map Life.enc) [e0, e1, .cell m.length, e3, e4, e5, e6, e7, e8, e9, e10, .cell (m.length + 3), x12, x13, x14, x15, x16, x17] (m ++ [some (.lst (nats N)), M, M2, some (.lst (made.map Life.enc))])
      = some (.next, [e0, e1, .cell m.length, e3, e4, e5, e6, e7, e8, e9, e10, .cell (m.length + 3), y12, y13, y14, y15, x16, x17], m ++ [some (.lst (nats N)), M, M2, some (.lst ((made ++ (ts.map (Life.map g)).filter (fun t => decide (t.first < t.behind))).map Life.enc))]) := by
  induction ts with
  | nil => exact fun made x12 x13 x14 x15 _ _ => ⟨x12, x13, x14, x15, by rw [List.map_nil, List.map_nil, List.filter_nil, List.append_nil]; rfl⟩
  | cons t ts ih =>
    intro made x12 x13 x14 x15 hb ht
    have hA := lt_big (n := 0) hb
    obtain ⟨h1, h2⟩ := ht t List.mem_cons_self
    have ht' := fun r' h => ht r' (List.mem_cons_of_mem _ h)
    rw [List.map_cons, List.map_cons]
    by_cases hc : g t.first < g t.behind
    · obtain ⟨y12, y13, y14, y15, ih⟩ := ih (made ++ [t.map g]) (.int (t.temp : Nat)) (.int (t.first : Nat)) (.int (t.behind : Nat)) (.str "call") (snoc_le hb) ht'
      rw [List.append_assoc] at ih
      rw [List.filter_cons_of_pos (p := fun t : Life => decide (t.first < t.behind)) (decide_eq_true hc)]
      refine ⟨y12, y13, y14, y15, (forL_step rfl ?_).trans ih⟩
      simp [Life.enc, Life.map, hA, h1, h2, hc, lstCell, appD, idxD, nats_get, T_law_left, Ss.body, Ss.drop, Ss.drop1, Ss.hd, S.b]
    · obtain ⟨y12, y13, y14, y15, ih⟩ := ih made (.int (t.temp : Nat)) (.int (t.first : Nat)) (.int (t.behind : Nat)) (.str "call") (Nat.le_trans (Nat.add_le_add_left (Nat.le_succ _) _) hb) ht'
      rw [List.filter_cons_of_neg (p := fun t : Life => decide (t.first < t.behind)) fun q => hc (of_decide_eq_true q)]
      refine ⟨y12, y13, y14, y15, (forL_step rfl ?_).trans ih⟩
      simp [Life.enc, h1, h2, hc, idxD, nats_get, T_law_left, Ss.body, Ss.drop, Ss.drop1, Ss.hd, S.b]

theorem setT_head (r : Row) (N : Nat → Nat) : (r.modT N).head = r.head := by
  cases r <;> rfl
theorem pick_congr (k : Nat → Bool) (f g : Nat → Row) : ∀ n, (∀ p, p < n → f p = g p) → pick k f n = pick k g n
  | 0, _ => rfl
  | n + 1, h => by rw [pick, pick, pick_congr k f g n (fun p hp => h p (by lia)), h n (by lia)]
theorem thin_row (c : Cod) {p : Nat} (hp : p < c.rows.length) : c.thin.row p = (c.row p).noTo (usedB c) := by
  have : c.thin.rows.length = c.rows.length := by simp [Cod.thin]
  rw [← c.thin.row_eq (by lia), ← c.row_eq hp]
  simp [Cod.thin]

noncomputable def Cod.leftD (c : Cod) : D := .lst [.lst (c.rows.map Row.head), .lst (c.trys.map Try.enc), .lst (c.lives.map Life.enc)]
theorem left_eq (c : Cod) (W : WF c) (m : Mem) : F_law_left [c.enc] m = some ((wd c).leftD, m) := by
  have hl := W.len; have hnt := W.nt; have hnl := W.nl
  have F := W.fits
  have hLlen : (liveL c).length ≤ 9 := by
    have : (liveL c).length ≤ c.rows.length := by
      unfold liveL; exact Nat.le_trans (List.length_filter_le ..) (by simp)
    lia
  have hus := usedL_mem c (liveL c) (liveL_mem c)
  have hu : ∀ t, usedB c t = decide (some t ∈ usedL c (liveL c)) := by
    intro t; unfold usedB; simp [hus t]
  have hk : ∀ p, p < c.rows.length → keepB c p = (decide (p ∈ liveL c) && !((c.row p).unread (usedB c) && (c.row p).mute)) := by
    intro p _
    have : decide (p ∈ liveL c) = liveB c p := by unfold liveB; simp [liveL_mem]
    rw [this]; rfl
  have hfl := flat_len (fun p => (c.row p).tmps) (fun p => tmps_len _) (liveL c)
  have b1 : ((liveL c).flatMap (fun p => (c.row p).tmps)).length ≤ big := big_le _ (by lia)
  have b2 : (c.trys.map Try.ret).length ≤ big := big_le _ (by simp; lia)
  have b3 : (c.lives.map (fun l => some l.temp)).length ≤ big := big_le _ (by simp; lia)
  have b4 : ((liveL c).flatMap (fun p => (c.row p).tmps)).length + (c.trys.map Try.ret).length ≤ big := big_le _ (by simp only [List.length_map]; lia)
  have b5 : ((liveL c).flatMap (fun p => (c.row p).tmps)).length + ((c.trys.map Try.ret).length + (c.lives.map (fun l => some l.temp)).length) ≤ big := big_le _ (by simp only [List.length_map]; lia)
  have eus : ((liveL c).flatMap (fun p => (c.row p).tmps)).map onat ++ ((c.trys.map Try.ret).map onat ++ (c.lives.map fun l => some l.temp).map onat) = (usedL c (liveL c)).map onat := by
    unfold usedL; simp only [List.map_append, List.append_assoc]
  have hcl := fun m => closure_eq c W m
  have C1' := (live_comp c (m ++ [some (.lst []), some (.lst [])]) (liveL c) (fun p hp => ((liveL_mem c p).mp hp).lt) [.lst (nats (liveL c)), .cell m.length, .cell (m.length + 1), .undef, .undef, .undef, .undef, .undef, .undef, .undef, .undef, .undef, .undef, .undef, .undef, .undef, .undef]).trans (if_pos rfl)
  have C2 := fun m => ret_comp m c.trys
  have C3 := fun m => temp_comp m c.lives
  have hen : enumD (c.rows.map Row.enc) 0 = (List.range' 0 c.rows.length).map fun q => .tup [.int (q : Nat), (c.row q).enc] := by
    have := enumD_rows c c.rows.length 0 (by lia)
    rwa [List.drop_zero] at this
  obtain ⟨y4, y7, y8, y9, L3⟩ := left_loop3 c m (liveL c) (usedL c (liveL c)) (keepB c) (usedB c) hu hk [.undef, .undef, .undef, .undef, .undef, .undef, .undef, .undef] (by lia) c.rows.length 0 .undef .undef .undef .undef .undef (by lia)
  have hnum : nats ((List.range c.rows.length).map (num (keepB c))) ++ [.int (num (keepB c) c.rows.length : Nat)] = nats ((List.range (c.rows.length + 1)).map (num (keepB c))) := by
    rw [nats_snoc, List.range_succ, List.map_append]; rfl
  have hN : ∀ q, q ≤ c.rows.length → ((List.range (c.rows.length + 1)).map (num (keepB c)))[q]? = some (num (keepB c) q) := by
    intro q hq
    rw [List.getElem?_map, List.getElem?_range (by lia)]; rfl
  obtain ⟨y6, L6⟩ := left_loop6 ((List.range (c.rows.length + 1)).map (num (keepB c))) (num (keepB c)) m c.enc (.lst (nats (liveL c))) (.cell (m.length + 1)) y4 (.lst ((usedL c (liveL c)).map onat)) y7 y8 y9 (some (.lst ((pick (keepB c) (fun q => (c.row q).noTo (usedB c)) c.rows.length).map Row.head))) (.cell (m.length + 3)) .undef .undef .undef .undef .undef .undef (some (.lst [])) c.trys [] .undef
    (by simp; lia) (fun t ht => ⟨hN _ (F.trys t ht).1, hN _ (F.trys t ht).2.1, hN _ (F.trys t ht).2.2⟩)
  have L7 := left_loop7 ((List.range (c.rows.length + 1)).map (num (keepB c))) (num (keepB c)) m c.enc (.lst (nats (liveL c))) (.cell (m.length + 1)) y4 (.lst ((usedL c (liveL c)).map onat)) y6 y7 y8 y9 (.cell (m.length + 2)) .undef .undef (some (.lst ((pick (keepB c) (fun q => (c.row q).noTo (usedB c)) c.rows.length).map Row.head))) (some (.lst (((c.trys.map (Try.map (num (keepB c)))).filter (fun t => decide (t.first < t.fin))).map Try.enc))) c.lives [] .undef .undef .undef .undef
    (by simp; lia) (fun t ht => ⟨hN _ (F.lives t ht).1, hN _ (F.lives t ht).2⟩)
  obtain ⟨y12, y13, y14, y15, L7⟩ := L7
  have hb' := big_lt c.rows.length (by lia)
  have hpl := pick_len (keepB c) (fun q => (c.row q).noTo (usedB c)) c.rows.length
  have ewd : (wd c).leftD = .lst [.lst ((pick (keepB c) (fun q => (c.row q).noTo (usedB c)) c.rows.length).map Row.head), .lst (((c.trys.map (Try.map (num (keepB c)))).filter (fun t => decide (t.first < t.fin))).map Try.enc), .lst (((c.lives.map (Life.map (num (keepB c)))).filter (fun t => decide (t.first < t.behind))).map Life.enc)] := by
    have e1 : c.thin.rows.length = c.rows.length := by simp [Cod.thin]
    have e2 : pick (keepB c) c.thin.row c.rows.length = pick (keepB c) (fun q => (c.row q).noTo (usedB c)) c.rows.length := pick_congr _ _ _ _ (fun p hp => thin_row c hp)
    simp only [Cod.leftD, wd, Cod.clean, keptT, e1, e2, List.map_map]
    have e3 : Row.head ∘ Row.modT (num (keepB c)) = Row.head := funext fun r => setT_head r _
    rw [e3]; rfl
  rw [ewd]
  have hhp : D.pures ((pick (keepB c) (fun q => (c.row q).noTo (usedB c)) c.rows.length).map Row.head) = true := pures_map _ _ (fun r => by simp [Row.head])
  simp only [T_law_left, Ss.body, Ss.drop, Ss.drop1, Ss.hd, S.b, Cod.enc, pick, List.map_nil, List.range_zero, List.nil_append, nats_nil] at L3 L6 L7 C1' hcl
  simp only [List.length_append, List.length_map] at b1 b2 b3 b4 b5
  generalize (liveL c).flatMap (fun p => (c.row p).tmps) = X at *
  have b6 : X.length + c.trys.length + c.lives.length ≤ big := by lia
  simp [-List.map_map, -tstAnd_nil, -evG_done, -evG_cons, evG_cons (t := .v 16), F_law_left, T_law_left, Cod.enc, hcl, C1', C2, C3, hen, L3, L6, L7, b1, b2, b3, b4, b5, b6, eus, hnum, hb', hpl, lstCell, appD, freezeD, hhp]

set_option maxRecDepth 100000
open PySem

theorem eqvRefl : (∀ (d : D), ∀ (x : PyData), d.py = some x → x.eqv x = true) ∧ ∀ ds, ∀ (xs : List PyData), D.pys ds = some xs → PyData.eqvAll xs xs = true :=
  py_ind rfl (fun b => beq_self_eq_true b) (fun b => beq_self_eq_true b) (fun b => beq_self_eq_true b) (fun _ _ _ ih => ih) (fun _ _ _ ih => ih) rfl (fun _ _ _ _ _ _ a b => Bool.and_eq_true_iff.mpr ⟨a, b⟩)

/-- plain data, not deep, its repr not long -/
noncomputable def Dep (d : D) (k B : Nat) : Prop := ∃ x, d.py = some x ∧ x.depth ≤ k ∧ ub x ≤ B
theorem Dep.mono {d : D} {k B k' B' : Nat} (h : Dep d k B) (hk : k ≤ k') (hB : B ≤ B') : Dep d k' B' := by
  obtain ⟨x, h1, h2, h3⟩ := h; exact ⟨x, h1, by lia, by lia⟩
theorem dep_none : Dep .none 0 4 := ⟨.none, rfl, Nat.le_refl _, Nat.le_refl _⟩
theorem dep_bool (b : Bool) : Dep (.bool b) 0 5 := ⟨.bool b, rfl, Nat.le_refl _, Nat.le_refl _⟩
theorem dep_int (i : Int) : Dep (.int i) 0 (i.natAbs + 2) := ⟨.int i, rfl, Nat.le_refl _, Nat.le_refl _⟩
theorem dep_str (s : Str) : Dep (.str s) 0 (10 * s.length + 2) := ⟨.str s, rfl, Nat.le_refl _, Nat.le_refl _⟩
theorem pys_cons {d : D} {ds : List D} {x : PyData} {xs : List PyData} (h : d.py = some x) (g : D.pys ds = some xs) : D.pys (d :: ds) = some (x :: xs) := by
  change both d.py (D.pys ds) _ = _
  rw [h, g]; rfl
theorem deps (k B : Nat) : ∀ ds : List D, (∀ d ∈ ds, Dep d k B) → ∃ xs, D.pys ds = some xs ∧ PyData.depthAll xs ≤ k ∧ ubs xs ≤ ds.length * (B + 2)
  | [], _ => ⟨[], rfl, Nat.zero_le _, Nat.zero_le _⟩
  | d :: ds, h => by
    obtain ⟨x, h1, h2, h3⟩ := h d (by simp)
    obtain ⟨xs, g1, g2, g3⟩ := deps k B ds (fun e he => h e (List.mem_cons_of_mem _ he))
    refine ⟨x :: xs, pys_cons h1 g1, Nat.max_le.mpr ⟨h2, g2⟩, ?_⟩
    change ub x + 2 + ubs xs ≤ (ds.length + 1) * (B + 2)
    rw [Nat.add_mul]; lia
theorem dep_tup {ds : List D} {k B : Nat} (h : ∀ d ∈ ds, Dep d k B) : Dep (.tup ds) (k + 1) (ds.length * (B + 2) + 4) := by
  obtain ⟨xs, g1, g2, g3⟩ := deps k B ds h
  exact ⟨.tuple xs, congrArg (Option.map PyData.tuple) g1, Nat.succ_le_succ g2, Nat.add_le_add_right g3 4⟩
theorem dep_lst {ds : List D} {k B : Nat} (h : ∀ d ∈ ds, Dep d k B) : Dep (.lst ds) (k + 1) (ds.length * (B + 2) + 4) := by
  obtain ⟨xs, g1, g2, g3⟩ := deps k B ds h
  exact ⟨.list xs, congrArg (Option.map PyData.list) g1, Nat.succ_le_succ g2, Nat.add_le_add_right g3 4⟩
theorem eqD_refl {d : D} {k B : Nat} (h : Dep d k B) (hk : k ≤ 40) : eqD d d = some true := by
  obtain ⟨x, h1, h2, h3⟩ := h
  have hs : shallow x = true := by simp [shallow]; lia
  unfold eqD; rw [h1, both_ss, if_pos ⟨hs, hs⟩, eqvRefl.1 d x h1]
/-- its repr -/
noncomputable def reprS (d : D) : Str := match d.py with | some x => x.shown | none => ""
theorem repr_of {d : D} {k B : Nat} (h : Dep d k B) (hk : k ≤ 40) (hB : B ≤ big) : reprD d = some (.str (reprS d)) := by
  obtain ⟨x, h1, h2, h3⟩ := h
  have hs : shallow x = true := by simp [shallow]; lia
  have hb : ub x ≤ big := by lia
  unfold reprD reprS; rw [h1]; simp [hs, hb]
theorem dep_nats (L : List Nat) (B : Nat) (h : ∀ x ∈ L, x ≤ B) : Dep (.lst (nats L)) 1 (L.length * (B + 4) + 4) := by
  have := dep_lst (ds := nats L) (k := 0) (B := B + 2) (by
    intro d hd
    simp only [nats, List.mem_map] at hd
    obtain ⟨x, hx, rfl⟩ := hd
    exact (dep_int _).mono (Nat.le_refl _) (by have := h x hx; lia))
  simpa using this

@[local simp] theorem list_rng (m : Mem) (n : Nat) (h : n ≤ big) : biD m .list (.rng 0 (n : Nat) 1) = some (.lst (nats (List.range n))) := by
  simp [biD, rngItems_up, h, nats]

theorem row_comp (c : Cod) (m : Mem) (e0 e1 e2 e3 e4 : D) : ∀ rs : List Row, compL (asgG [e0, e1, e2, e3, e4] (.v 3)) (tstAnd .nil) (evG (.cons (.v 4) (.call "_law_operands" F_law_operands (.cons (.var 3) .nil)) (.cons (.cmp .eq (.idx (.var 4) (.cst (.int 0))) (.cst (.str "tmp"))) .nil) (.done (.idx (.var 4) (.cst (.int 1)))))) (rs.map Row.enc) m = some ((rs.flatMap Row.tmps).map onat, m) := by
  intro rs
  rw [compL_filter Row.enc _ _ _ (fun _ => true) (fun r => r.tmps.map onat) m]
  · rw [filter_tt]; simp [List.map_flatMap]
  · intro r _
    have hT := tmps_comp r [e0, e1, e2, r.enc, e4] 4 (by simp) m
    refine ⟨[e0, e1, e2, r.enc, e4], by simp, by simp, fun _ => ?_⟩
    simp [operands_eq, hT]

noncomputable def Row.isWB : Row → Bool
  | .binary _ _ _ => true | .write _ _ _ => true | .array _ | .move _ _ | .bool _ _ | .lelem _ _ | .echo _ | .throw _ | .ret _ | .jump _ | .jif _ _ _ => false
noncomputable def Row.isMB : Row → Bool
  | .move _ _ => true | .bool _ _ => true | .array _ | .binary _ _ _ | .lelem _ _ | .write _ _ _ | .echo _ | .throw _ | .ret _ | .jump _ | .jif _ _ _ => false
theorem op_wb (r : Row) : inD (.str r.op) [.str "write", .str "binary"] = some r.isWB := by
  cases r with
  | jif k a t => cases k <;> kernel_rfl
  | _ => kernel_rfl
theorem op_mb (r : Row) : inD (.str r.op) [.str "move", .str "bool"] = some r.isMB := by
  cases r with
  | jif k a t => cases k <;> kernel_rfl
  | _ => kernel_rfl
theorem op_la {r : Row} (h2 : r.mute = false) (h3 : r.isLe = false) : inD (.str r.op) [.str "list_elem", .str "array"] = some false := by
  cases r with
  | array _ => cases h2
  | lelem _ _ => cases h3
  | jif k a t => cases k <;> kernel_rfl
  | _ => kernel_rfl
theorem wb_to {r : Row} (h : r.to = none) : r.isWB = false := by
  cases r with
  | binary _ _ _ => cases h
  | write _ _ _ => cases h
  | _ => rfl
theorem not_mute {r : Row} (h2 : r.mute = false) (h : r.isMB = true) : ∃ k, r.pa = Opd.enc (.cv k) := by
  cases r with
  | move _ a => cases a with
    | cv k => exact ⟨k, rfl⟩
    | _ => cases h2
  | bool _ a => cases a with
    | cv k => exact ⟨k, rfl⟩
    | _ => cases h2
  | _ => cases h

theorem rest_loop (m : Mem) (e0 e3 e4 : D) (us : List (Option Nat)) (rs : List Row) : ∀ (x1 : D), (∀ r ∈ rs, ∀ t, r.to = some t → some t ∉ us → r.mute = false ∧ r.isLe = false) →
    ∃ y1, forL (asgT (.v 1)) (exs (T_law_is_at_rest.body 3)) (rs.map Row.enc) [e0, x1, .lst (us.map onat), e3, e4] m = some (.next, [e0, y1, .lst (us.map onat), e3, e4], m) := by
  induction rs with
  | nil => exact fun x1 _ => ⟨x1, rfl⟩
  | cons r rs ih =>
    intro x1 h
    obtain ⟨y1, ih⟩ := ih r.enc (fun r' hr => h r' (List.mem_cons_of_mem _ hr))
    refine ⟨y1, (forL_step rfl ?_).trans ih⟩
    have h0 := h r List.mem_cons_self
    clear h ih
    have w := op_wb r
    rw [enc_eq]
    cases ht : r.to with
    | none => simp [-inD_str_cons, w, wb_to ht, ht, T_law_is_at_rest, Ss.body, Ss.drop, Ss.drop1, Ss.hd, S.b]
    | some t =>
      by_cases h1 : some t ∈ us
      · cases hw : r.isWB <;> simp [-inD_str_cons, w, hw, h1, ht, T_law_is_at_rest, Ss.body, Ss.drop, Ss.drop1, Ss.hd, S.b]
      · obtain ⟨h2, h3⟩ := h0 t ht h1
        have l := op_la h2 h3
        have q := op_mb r
        cases hm : r.isMB
        · cases hw : r.isWB <;> simp [-inD_str_cons, w, hw, l, q, hm, h1, ht, T_law_is_at_rest, Ss.body, Ss.drop, Ss.drop1, Ss.hd, S.b]
        · obtain ⟨k, e⟩ := not_mute h2 hm
          have hw : r.isWB = false := by cases r <;> first | rfl | cases hm
          simp [-inD_str_cons, w, hw, l, q, hm, h1, ht, e, Opd.enc, T_law_is_at_rest, Ss.body, Ss.drop, Ss.drop1, Ss.hd, S.b]

theorem flatR_len : ∀ l : List Row, (l.flatMap Row.tmps).length ≤ 2 * l.length
  | [] => by simp
  | a :: l => by
    have := flatR_len l; have := tmps_len a
    rw [List.flatMap_cons, List.length_append, List.length_cons]; lia

theorem rest_eq (c : Cod) (W : WF c) (hlive : ∀ p, p < c.rows.length → Live c p) (hrow : ∀ r ∈ c.rows, ∀ t, r.to = some t → ¬ Used c t → r.mute = false ∧ r.isLe = false) (m : Mem) :
    F_law_is_at_rest [c.enc] m = some (.bool true, m) := by
  have hl := W.len; have hnt := W.nt; have hnl := W.nl
  have hL : liveL c = List.range c.rows.length := by
    unfold liveL
    apply List.filter_eq_self.mpr
    intro p hp; unfold liveB; simp [hlive p (by simpa using hp)]
  have hcl := closure_eq c W m
  rw [hL] at hcl
  have hus : ∀ t, some t ∈ c.rows.flatMap Row.tmps ++ (c.trys.map Try.ret ++ c.lives.map (fun l => some l.temp)) ↔ Used c t := by
    intro t
    unfold Used
    simp only [List.mem_append, List.mem_flatMap, List.mem_map, tmps_mem, or_assoc, Option.some.injEq]
    have : (∃ r ∈ c.rows, .tmp t ∈ r.ops) ↔ ∃ p, Live c p ∧ .tmp t ∈ (c.row p).ops := by
      constructor
      · rintro ⟨r, hr, h⟩
        obtain ⟨i, hi⟩ := List.mem_iff_getElem?.mp hr
        have hlt : i < c.rows.length := by
          rcases Nat.lt_or_ge i c.rows.length with h | h
          · exact h
          · rw [List.getElem?_eq_none h] at hi; cases hi
        rw [c.row_get hlt] at hi; cases hi
        exact ⟨i, hlive i hlt, h⟩
      · rintro ⟨p, hp, h⟩
        exact ⟨c.row p, List.mem_of_getElem? (c.row_get hp.lt), h⟩
    rw [this]
  obtain ⟨y1, L⟩ := rest_loop m c.enc .undef .undef (c.rows.flatMap Row.tmps ++ (c.trys.map Try.ret ++ c.lives.map (fun l => some l.temp))) c.rows .undef
    (fun r hr t ht hn => hrow r hr t ht (fun hu => hn ((hus t).mpr hu)))
  have hfl := flatR_len c.rows
  have C1 := row_comp c m c.enc .undef .undef .undef .undef c.rows
  have C2 := fun m => ret_comp m c.trys
  have C3 := fun m => temp_comp m c.lives
  have eus : (c.rows.flatMap Row.tmps).map onat ++ ((c.trys.map Try.ret).map onat ++ (c.lives.map fun l => some l.temp).map onat) = (c.rows.flatMap Row.tmps ++ (c.trys.map Try.ret ++ c.lives.map (fun l => some l.temp))).map onat := by
    simp only [List.map_append]
  rw [← eus] at L
  have b1 : (c.rows.flatMap Row.tmps).length ≤ big := big_le _ (by lia)
  have b2 : c.trys.length ≤ big := big_le _ (by lia)
  have b3 : c.lives.length ≤ big := big_le _ (by lia)
  have b4 : (c.rows.flatMap Row.tmps).length + c.trys.length ≤ big := big_le _ (by lia)
  have b5 : (c.rows.flatMap Row.tmps).length + (c.trys.length + c.lives.length) ≤ big := big_le _ (by lia)
  have b6 : (c.rows.flatMap Row.tmps).length + c.trys.length + c.lives.length ≤ big := big_le _ (by lia)
  have hb := big_le c.rows.length (by lia)
  have e2 : (c.rows.length : Int).natAbs = c.rows.length := by lia
  have hn := fun m => list_rng m c.rows.length hb
  have hq : eqD (.lst (nats (List.range c.rows.length))) (.lst (nats (List.range c.rows.length))) = some true := eqD_refl (dep_nats _ 9 (by intro x hx; simp at hx; lia)) (by lia)
  generalize c.rows.flatMap Row.tmps = X at *
  simp only [T_law_is_at_rest, Ss.body, Ss.drop, Ss.drop1, Ss.hd, S.b, Cod.enc] at L hcl C1
  simp [-List.map_map, -tstAnd_nil, -evG_done, -evG_cons, evG_cons (t := .v 3), F_law_is_at_rest, T_law_is_at_rest, Cod.enc, hcl, C1, C2, C3, L, b1, b2, b3, b4, b5, b6, e2, hb, hn, hq]

set_option maxRecDepth 100000
open PySem

noncomputable def VOk : D → Prop
  | .none => True | .bool _ => True | .int i => i = 0 | .str s => s.length ≤ 100 | _ => False
theorem VOk.dep {d : D} (h : VOk d) : Dep d 0 1002 := by
  cases d <;> simp only [VOk] at h
  · exact dep_none.mono (Nat.le_refl _) (by lia)
  · exact (dep_bool _).mono (Nat.le_refl _) (by lia)
  · subst h; exact (dep_int 0).mono (Nat.le_refl _) (by decide)
  · exact (dep_str _).mono (Nat.le_refl _) (by lia)
theorem VOk.pure {d : D} (h : VOk d) : d.pure = true := by
  cases d <;> first | (exact h.elim) | simp
noncomputable def D.isN : D → Bool | .none => true | .undef | .bool _ | .int _ | .str _ | .tup _ | .lst _ | .dic _ _ | .obj _ | .rng _ _ _ | .cell _ => false
theorem VOk.isNone {d : D} (h : VOk d) : isNone d = some d.isN := by
  cases d <;> first | (exact h.elim) | rfl
theorem VOk.lit (v : Lit) : VOk v.enc := by cases v <;> simp [VOk, Lit.enc]; decide

theorem pureOfPy : (∀ (d : D), ∀ (x : PyData), d.py = some x → d.pure = true) ∧ ∀ ds, ∀ (xs : List PyData), D.pys ds = some xs → D.pures ds = true :=
  py_ind rfl (fun _ => rfl) (fun _ => rfl) (fun _ => rfl) (fun _ _ _ ih => ih) (fun _ _ _ ih => ih) rfl (fun _ _ _ _ _ _ a b => Bool.and_eq_true_iff.mpr ⟨a, b⟩)
theorem pure_of_py (d : D) (x : PyData) (h : d.py = some x) : d.pure = true := pureOfPy.1 d x h

/-- an entry of the log -/
noncomputable def LOk (d : D) : Prop := ∃ B, Dep d 2 B
theorem LOk.pure {d : D} (h : LOk d) : d.pure = true := by
  obtain ⟨B, x, h1, _⟩ := h; exact pure_of_py d x h1
theorem log_pures {l : List D} (h : ∀ e ∈ l, LOk e) : D.pures l = true := pures_of _ fun d hd => (h d hd).pure
theorem log_dep {l : List D} (h : ∀ e ∈ l, LOk e) : ∃ B, Dep (.lst l) 3 B := by
  have : ∃ B, ∀ e ∈ l, Dep e 2 B := by
    induction l with
    | nil => exact ⟨0, by simp⟩
    | cons e l ih =>
      obtain ⟨B, hB⟩ := ih (fun d hd => h d (List.mem_cons_of_mem _ hd))
      obtain ⟨B', hB'⟩ := h e (by simp)
      refine ⟨max B B', fun d hd => ?_⟩
      rcases List.mem_cons.mp hd with rfl | hd
      · exact hB'.mono (Nat.le_refl _) (Nat.le_max_right ..)
      · exact (hB d hd).mono (Nat.le_refl _) (Nat.le_max_left ..)
  obtain ⟨B, hB⟩ := this
  exact ⟨_, dep_lst hB⟩

noncomputable def wm (m : Mem) (log temps : List D) : Mem := m ++ [some (.lst log), some (.lst temps)]
noncomputable def wldD (a : Nat) (tape : List D) : D := .dic [.str "log", .str "temps", .str "tape"] [.cell a, .cell (a + 1), .lst tape]
theorem idxD_cell (m : Mem) (c : Nat) (k : Int) : idxD m (.cell c) (.int k) = match m[c]? with | some (some (.lst ds)) => at? ds k | _ => none := rfl
section wlds
variable (a : Nat) (tape : List D) (m m' : Mem) (log temps : List D)
@[simp] theorem rd_wld : rd m' (wldD a tape) = some (wldD a tape, m') := rfl
@[simp] theorem idx_log : idxD m' (wldD a tape) (.str "log") = some (.cell a) := by kernel_rfl
@[simp] theorem idx_temps : idxD m' (wldD a tape) (.str "temps") = some (.cell (a + 1)) := by kernel_rfl
@[simp] theorem idx_tape : idxD m' (wldD a tape) (.str "tape") = some (.lst tape) := by kernel_rfl
@[simp high] theorem wm_log : (wm m log temps)[m.length]? = some (some (.lst log)) := by simp [wm]
@[simp high] theorem wm_temps : (wm m log temps)[m.length + 1]? = some (some (.lst temps)) := by simp [wm]
@[simp] theorem wm_set_log (l : List D) : (wm m log temps).set m.length (some (.lst l)) = wm m l temps := by simp [wm]
@[simp] theorem wm_set_temps (l : List D) : (wm m log temps).set (m.length + 1) (some (.lst l)) = wm m log l := by simp [wm]
@[simp] theorem wm_len : List.length (wm m log temps) = m.length + 2 := by simp [wm]
@[simp] theorem wm_take : (wm m log temps).take (m.length + 2) = wm m log temps := by
  have : (wm m log temps).length = m.length + 2 := by simp
  rw [← this, List.take_length]
end wlds

noncomputable def Opd.val (tape temps log : List D) : Opd → D × List D
  | .lit v => (v.enc, log)
  | .tmp k => (temps.getD k .none, log)
  | .cv k => (tape.getD (log.length % 7) .none, log ++ [.tup [.str "read", .int (k : Nat), .str (reprS (tape.getD (log.length % 7) .none))]])
noncomputable def valsT (tape temps : List D) : List Opd → List D → List D × List D
  | [], log => ([], log)
  | o :: os, log => ((o.val tape temps log).1 :: (valsT tape temps os (o.val tape temps log).2).1, (valsT tape temps os (o.val tape temps log).2).2)

structure TOk (tape temps : List D) : Prop where
  t7 : tape.length = 7
  tv : ∀ v ∈ tape, VOk v
  p4 : temps.length = 4
  pv : ∀ v ∈ temps, VOk v
theorem getD_mem {l : List D} {i : Nat} (h : i < l.length) : l.getD i .none ∈ l := by
  rw [List.getD_eq_getElem?_getD, List.getElem?_eq_getElem h]; exact List.getElem_mem h
theorem getD_get {l : List D} {i : Nat} (h : i < l.length) : l[i]? = some (l.getD i .none) := by
  rw [List.getD_eq_getElem?_getD, List.getElem?_eq_getElem h]; rfl

theorem val_ok {tape temps log : List D} (T : TOk tape temps) (o : Opd) (ho : o.Ok) (hl : ∀ e ∈ log, LOk e) : VOk (o.val tape temps log).1 ∧ (∀ e ∈ (o.val tape temps log).2, LOk e) ∧ (o.val tape temps log).2.length ≤ log.length + 1 ∧ log.length ≤ (o.val tape temps log).2.length ∧ (o.isCv = true → (o.val tape temps log).2.length = log.length + 1) ∧ (o.isCv = false → (o.val tape temps log).2 = log) := by
  cases o with
  | lit v => exact ⟨VOk.lit v, hl, by simp [Opd.val], by simp [Opd.val], by simp [Opd.isCv], fun _ => rfl⟩
  | tmp k => exact ⟨T.pv _ (getD_mem (by rw [T.p4]; simp only [Opd.Ok] at ho; lia)), hl, by simp [Opd.val], by simp [Opd.val], by simp [Opd.isCv], fun _ => rfl⟩
  | cv k =>
    have hf := T.tv _ (getD_mem (l := tape) (i := log.length % 7) (by rw [T.t7]; lia))
    refine ⟨hf, ?_, by simp [Opd.val], by simp [Opd.val], by simp [Opd.val], by simp [Opd.isCv]⟩
    intro e he
    simp only [Opd.val, List.mem_append, List.mem_singleton] at he
    rcases he with he | rfl
    · exact hl e he
    · refine ⟨_, (dep_tup (k := 0) (B := 100 + k + 2 + (10 * (reprS (tape.getD (log.length % 7) .none)).length + 2)) ?_).mono (by lia) (Nat.le_refl _)⟩
      intro d hd
      simp only [List.mem_cons, List.not_mem_nil, or_false] at hd
      rcases hd with rfl | rfl | rfl
      · exact (dep_str _).mono (Nat.le_refl _) (by rw [show Str.length (Str.ofString "read") = 4 from rfl]; lia)
      · exact (dep_int _).mono (Nat.le_refl _) (by lia)
      · exact (dep_str _).mono (Nat.le_refl _) (by lia)

theorem value_eq (m : Mem) {tape temps log : List D} (T : TOk tape temps) (o : Opd) (ho : o.Ok) (hl : log.length ≤ 100) : F_law_value [wldD m.length tape, o.enc] (wm m log temps) = some ((o.val tape temps log).1, wm m (o.val tape temps log).2 temps) := by
  cases o with
  | lit v => simp [F_law_value, T_law_value, Opd.enc, Opd.val]
  | tmp k =>
    have hk : k < temps.length := by rw [T.p4]; simp only [Opd.Ok] at ho; lia
    have hp := (T.pv _ (getD_mem hk)).pure
    have hg := getD_get hk
    simp only [Opd.val]
    generalize temps.getD k .none = v at *
    simp [F_law_value, T_law_value, Opd.enc, idxD_cell, hg, hp]
  | cv k =>
    have hi : log.length % 7 < tape.length := by rw [T.t7]; lia
    have hf := T.tv _ (getD_mem hi)
    have hg := getD_get hi
    have hb := big_lt log.length (by lia)
    have hr := repr_of hf.dep (by lia) (by decide)
    have e7 : (tape.length : Int) = 7 := by rw [T.t7]; rfl
    have em : ((log.length : Int) % 7) = ((log.length % 7 : Nat) : Int) := by lia
    have h7 : (7 : Int) ≤ (big : Int) := by decide
    have hp := hf.pure
    have hrd := fun m => rd_of m hp
    have hx : binD .mod (.int (log.length : Int)) (.int 7) = some (.int ((log.length % 7 : Nat) : Int)) := by simp [h7]
    simp only [Opd.val]
    generalize tape.getD (log.length % 7) .none = f at *
    simp [-binD_mod, F_law_value, T_law_value, Opd.enc, e7, hx, -Int.natCast_emod, hg, hr, lstCell, appD, hb, hrd, hp]

theorem vals_comp (m : Mem) {tape temps : List D} (T : TOk tape temps) (xs : List D) (k : Nat) (hk : k < xs.length) : ∀ (os : List Opd) (log : List D), (∀ o ∈ os, o.Ok) → (∀ e ∈ log, LOk e) → log.length + os.length ≤ 100 →
    compL (asgG (wldD m.length tape :: xs) (.v (k + 1))) (tstAnd .nil) (evG (.done (.call "_law_value" F_law_value (.cons (.var 0) (.cons (.var (k + 1)) .nil))))) (os.map Opd.enc) (wm m log temps) = some ((valsT tape temps os log).1, wm m (valsT tape temps os log).2 temps)
  | [], log, _, _, _ => rfl
  | o :: os, log, ho, hl, hb => by
    simp only [List.length_cons] at hb
    have h1 := value_eq m T o (ho o (by simp)) (by lia) (log := log)
    obtain ⟨v1, v2, v3, v4, v5, v6⟩ := val_ok T o (ho o (by simp)) hl
    have ih := vals_comp m T xs k hk os (o.val tape temps log).2 (fun o' h => ho o' (List.mem_cons_of_mem _ h)) v2 (by lia)
    simp only [List.map_cons, compL, asgG_v, tstAnd_nil, evG_done, ev_call, evs_cons, evs_nil, ev_var', List.getElem?_set, List.set_cons_succ, List.getElem?_cons_zero, rd_wld, List.getElem?_cons_succ, hk, if_true, rd_opd, h1, ih, valsT]
    simp
theorem vals_ok {tape temps : List D} (T : TOk tape temps) : ∀ (os : List Opd) (log : List D), (∀ o ∈ os, o.Ok) → (∀ e ∈ log, LOk e) →
    (valsT tape temps os log).1.length = os.length ∧ (∀ v ∈ (valsT tape temps os log).1, VOk v) ∧ (∀ e ∈ (valsT tape temps os log).2, LOk e) ∧ (valsT tape temps os log).2.length ≤ log.length + os.length ∧ log.length ≤ (valsT tape temps os log).2.length ∧ ((∀ o ∈ os, o.isCv = false) → (valsT tape temps os log).2 = log)
  | [], log, _, hl => ⟨rfl, by simp [valsT], hl, Nat.le_refl _, Nat.le_refl _, fun _ => rfl⟩
  | o :: os, log, ho, hl => by
    obtain ⟨v1, v2, v3, v4, v5, v6⟩ := val_ok T o (ho o (by simp)) hl
    obtain ⟨w1, w2, w3, w4, w5, w6⟩ := vals_ok T os (o.val tape temps log).2 (fun o' h => ho o' (List.mem_cons_of_mem _ h)) v2
    simp only [valsT]
    refine ⟨by simp [w1], ?_, w3, by simp only [List.length_cons]; lia, by lia, ?_⟩
    · intro v hv
      rcases List.mem_cons.mp hv with rfl | hv
      · exact v1
      · exact w2 v hv
    · intro h
      rw [w6 (fun o' h' => h o' (List.mem_cons_of_mem _ h')), v6 (h o (by simp))]

set_option maxRecDepth 100000
open PySem

theorem ops_ok {n : Nat} {r : Row} (h : r.Ok n) : ∀ o ∈ r.ops, o.Ok := by
  cases r <;> simp only [Row.Ok] at h <;> simp [Row.ops] <;> first | exact h | exact h.1 | exact h.2 | exact h.2.2 | exact ⟨h.2, trivial⟩ | trivial
theorem ops_len (r : Row) : r.ops.length ≤ 2 := by cases r <;> simp [Row.ops]

noncomputable def said (n : Nat) : D := .str ("said " ++ PyData.shown (.int (n : Nat)))
noncomputable def givenT (tape temps : List D) (r : Row) (log : List D) : D × List D := match r with
  | .array _ => (.str "array", (valsT tape temps r.ops log).2)
  | .move _ _ => ((valsT tape temps r.ops log).1.headD .none, (valsT tape temps r.ops log).2)
  | .bool _ _ => (.bool (!((valsT tape temps r.ops log).1.headD .none).isN), (valsT tape temps r.ops log).2)
  | _ => (said ((valsT tape temps r.ops log).2.length + 1), (valsT tape temps r.ops log).2 ++ [.tup [.str r.op, .str (reprS (.lst (valsT tape temps r.ops log).1))]])

theorem said_len (n : Nat) (h : n ≤ 200) : (PyData.shown (.int (n : Nat))).length ≤ 13 := PyData.shown_int_le2 (by lia) (by lia)
theorem said_ok (n : Nat) (h : n ≤ 200) : VOk (said n) := by
  have := said_len n h
  simp only [said, VOk, strLen_append, show Str.length (Str.ofString "said ") = 5 from rfl]; lia
theorem str_bi (m : Mem) (n : Nat) (h : n ≤ 200) : biD m .str (.int (n : Nat)) = some (.str (PyData.shown (.int (n : Nat)))) := by
  have := big_le n (by lia)
  simp [biD, this]

theorem said_entry {r : Row} {vs : List D} (hv : ∀ v ∈ vs, VOk v) : LOk (.tup [.str r.op, .str (reprS (.lst vs))]) := by
  refine ⟨_, (dep_tup (k := 0) (B := 10 * r.op.length + 2 + (10 * (reprS (.lst vs)).length + 2)) ?_).mono (by lia) (Nat.le_refl _)⟩
  intro d hd
  simp only [List.mem_cons, List.not_mem_nil, or_false] at hd
  rcases hd with rfl | rfl
  · exact (dep_str _).mono (Nat.le_refl _) (by lia)
  · exact (dep_str _).mono (Nat.le_refl _) (by lia)

theorem given_said (tape temps log : List D) {r : Row} (h : r.quietOp = false) :
    givenT tape temps r log = (said ((valsT tape temps r.ops log).2.length + 1), (valsT tape temps r.ops log).2 ++ [.tup [.str r.op, .str (reprS (.lst (valsT tape temps r.ops log).1))]]) := by
  cases r with
  | array _ => cases h
  | move _ _ => cases h
  | bool _ _ => cases h
  | _ => rfl
theorem not_quiet {r : Row} (h : r.quietOp = false) : eqD (.str r.op) (.str "array") = some false ∧ eqD (.str r.op) (.str "move") = some false ∧ eqD (.str r.op) (.str "bool") = some false := by
  cases r with
  | array _ => cases h
  | move _ _ => cases h
  | bool _ _ => cases h
  | jif k a t => cases k <;> exact ⟨by kernel_rfl, by kernel_rfl, by kernel_rfl⟩
  | _ => exact ⟨by kernel_rfl, by kernel_rfl, by kernel_rfl⟩
theorem given_ok {tape temps log : List D} (T : TOk tape temps) {n : Nat} {r : Row} (hr : r.Ok n) (hl : ∀ e ∈ log, LOk e) (hb : log.length ≤ 50) :
    VOk (givenT tape temps r log).1 ∧ (∀ e ∈ (givenT tape temps r log).2, LOk e) ∧ (givenT tape temps r log).2.length ≤ log.length + 3 ∧ log.length ≤ (givenT tape temps r log).2.length ∧ (r.speaks = true → r.isJ = false → log.length + 1 ≤ (givenT tape temps r log).2.length) ∧ (r.speaks = false → r.isJ = false → (givenT tape temps r log).2 = log) := by
  obtain ⟨w1, w2, w3, w4, w5, w6⟩ := vals_ok T r.ops log (ops_ok hr) hl
  have w7 := ops_len r
  have hsp : ∀ vs l, (∀ v ∈ vs, VOk v) → (∀ e ∈ l, LOk e) → ∀ e ∈ l ++ [D.tup [.str r.op, .str (reprS (.lst vs))]], LOk e := by
    intro vs l h1 h2 e he
    simp only [List.mem_append, List.mem_singleton] at he
    rcases he with he | rfl
    · exact h2 e he
    · exact said_entry h1
  have hsaid := said_ok ((valsT tape temps r.ops log).2.length + 1) (by lia)
  cases hq : r.quietOp
  · rw [given_said tape temps log hq]
    have ll : ∀ x : D, ((valsT tape temps r.ops log).2 ++ [x]).length = (valsT tape temps r.ops log).2.length + 1 := fun x => List.length_append
    exact ⟨hsaid, hsp _ _ w2 w3, Nat.le_trans (Nat.le_of_eq (ll _)) (Nat.add_le_add_right (Nat.le_trans w4 (Nat.add_le_add_left w7 _)) 1), Nat.le_trans w5 (Nat.le_trans (Nat.le_succ _) (Nat.le_of_eq (ll _).symm)),
      fun _ _ => Nat.le_trans (Nat.succ_le_succ w5) (Nat.le_of_eq (ll _).symm), fun h hj => by rw [speaks_no r (by rw [hq, hj]; rfl)] at h; cases h⟩
  cases r with
  | array to => exact ⟨by simp only [givenT, VOk]; decide, w3, by simp only [givenT]; lia, w5, by simp [Row.speaks], fun _ _ => w6 (by simp [Row.ops])⟩
  | move to a =>
    refine ⟨w2 _ (by simp [givenT, Row.ops, valsT]), w3, by simp only [givenT]; lia, w5, ?_, ?_⟩
    · intro h _
      simp only [Row.speaks] at h
      have hl2 := (val_ok (tape := tape) (temps := temps) (log := log) T a (ops_ok hr a (by simp [Row.ops])) hl).2.2.2.2.1 h
      simp only [givenT, Row.ops, valsT]; lia
    · intro h _
      exact w6 (by simpa [Row.ops, Row.speaks] using h)
  | bool to a =>
    refine ⟨trivial, w3, by simp only [givenT]; lia, w5, ?_, ?_⟩
    · intro h _
      simp only [Row.speaks] at h
      have hl2 := (val_ok (tape := tape) (temps := temps) (log := log) T a (ops_ok hr a (by simp [Row.ops])) hl).2.2.2.2.1 h
      simp only [givenT, Row.ops, valsT]; lia
    · intro h _
      exact w6 (by simpa [Row.ops, Row.speaks] using h)
  | _ => cases hq

theorem given_eq (m : Mem) {tape temps log : List D} (T : TOk tape temps) {n : Nat} {r : Row} (hr : r.Ok n) (hl : ∀ e ∈ log, LOk e) (hb : log.length ≤ 50) (hj : r.isJ = false) :
    F_law_given [wldD m.length tape, r.enc] (wm m log temps) = some ((givenT tape temps r log).1, wm m (givenT tape temps r log).2 temps) := by
  obtain ⟨w1, w2, w3, w4, w5, w6⟩ := vals_ok T r.ops log (ops_ok hr) hl
  have w7 := ops_len r
  have hV := vals_comp m T [r.enc, .undef, .undef] 2 (by simp) r.ops log (ops_ok hr) hl (by lia)
  have hlen : (valsT tape temps r.ops log).1.length ≤ big := big_le _ (by lia)
  have hlen2 := big_lt (valsT tape temps r.ops log).2.length (by lia)
  have hop := fun m => operands_eq r m
  have hrep := repr_of (dep_lst fun v hv => (w2 v hv).dep) (by lia) (by
    have h1 : (valsT tape temps r.ops log).1.length * (1002 + 2) ≤ 2 * 1004 := Nat.mul_le_mul (by lia) (Nat.le_refl _)
    have h2 : 2012 ≤ big := by decide
    lia)
  simp only [Nat.reduceAdd] at hV
  have hle : (valsT tape temps r.ops log).2.length ≤ 60 := by lia
  have hvp : ∀ v ∈ (valsT tape temps r.ops log).1, v.pure = true := fun v hv => (w2 v hv).pure
  have hsd : ∀ k : Nat, k ≤ 60 → binD .add (.str "said ") (.str (PyData.shown (.int ((k + 1 : Nat) : Int)))) = some (said (k + 1)) := by
    intro k hk
    have := said_len (k + 1) (by lia)
    have h5 := big_le (5 + (PyData.shown (.int ((k + 1 : Nat) : Int))).length) (by lia)
    simp only [binD_str, show Str.length (Str.ofString "said ") = 5 from rfl, h5, if_true, said]
  have hsb := fun m (k : Nat) (hk : k ≤ 60) => str_bi m (k + 1) (by lia)
  have hns := w2
  cases hq : r.quietOp
  · obtain ⟨q1, q2, q3⟩ := not_quiet hq
    rw [given_said tape temps log hq]
    generalize valsT tape temps r.ops log = V at *
    have h1 := hsd V.2.length hle
    have h2 := fun m => hsb m V.2.length hle
    have h3 : (said (V.2.length + 1)).pure = true := rfl
    have h4 := fun m => rd_of m h3
    simp only [Int.natCast_add, Int.cast_ofNat_Int] at h1 h2
    rw [enc_eq] at *
    simp [-evG_done, -tstAnd_nil, -eqD_str, F_law_given, T_law_given, hop, hV, q1, q2, q3, hlen, hlen2, hrep, lstCell, appD, h1, h2, h3]
  · cases r with
    | array to =>
      simp only [givenT, Row.ops, List.map_nil, List.map_cons] at *
      simp [-evG_done, -tstAnd_nil, F_law_given, T_law_given, hop, hV, hlen, Row.op]
    | move to a =>
      simp only [givenT, Row.ops, List.map_nil, List.map_cons, valsT, List.headD_cons] at *
      have h0 := hvp _ (List.mem_cons_self ..)
      simp [-evG_done, -tstAnd_nil, F_law_given, T_law_given, hop, hV, Row.op, h0]
    | bool to a =>
      simp only [givenT, Row.ops, List.map_nil, List.map_cons, valsT, List.headD_cons] at *
      have h0 := (hns _ (List.mem_cons_self ..)).isNone
      simp [-evG_done, -tstAnd_nil, F_law_given, T_law_given, hop, hV, Row.op, h0]
    | _ => cases hq

set_option maxRecDepth 100000
open PySem

set_option genInjectivity true in
inductive Pl where | thrown | ret | at (p : Nat)
noncomputable def Pl.ctorIdx (x : Pl) : Nat := Pl.casesOn (motive := fun _ => Nat) x 0 1 (fun _ => 2)
noncomputable def Pl.enc : Pl → D | .thrown => .none | .ret => .int (-1) | .at p => .int (p : Nat)
@[local simp] theorem Pl.pure (p : Pl) : p.enc.pure = true := by cases p <;> simp [Pl.enc]
@[local simp] theorem rd_pl (m : Mem) (p : Pl) : rd m p.enc = some (p.enc, m) := rd_of m (by simp)

noncomputable def goesT (k : Jk) (v : D) : Bool := !v.isN == (match k with | .unless => false | _ => true)
noncomputable def thrownT (c : Cod) (p : Nat) (temps : List D) : Pl × List D := match c.hand p with
  | none => (.thrown, temps)
  | some t => (.at t.behind, match t.ret with | none => temps | some k => temps.set k (.str "thrown"))
noncomputable def stepT (c : Cod) (tape : List D) (p : Nat) (r : Row) (log temps : List D) : Pl × List D × List D := match r with
  | .jump t => (.at t, log, temps)
  | .jif k a t => (if goesT k (a.val tape temps log).1 then .at t else .at (p + 1), (a.val tape temps log).2, temps)
  | .throw a => ((thrownT c p temps).1, (givenT tape temps r log).2, (thrownT c p temps).2)
  | .ret _ => (.ret, (givenT tape temps r log).2, temps)
  | r => (.at (p + 1), (givenT tape temps r log).2, match r.to with | none => temps | some k => temps.set k (givenT tape temps r log).1)

theorem goes_jump (m : Mem) : F_law_goes [.str "jump", .lst []] m = some (.bool true, m) := by
  simp [F_law_goes, T_law_goes]
theorem goes_jif (k : Jk) (v : D) (hv : VOk v) (m : Mem) : F_law_goes [.str k.op, .lst [v]] m = some (.bool (goesT k v), m) := by
  have h := hv.isNone
  cases k <;> cases hn : v.isN <;> simp [F_law_goes, T_law_goes, Jk.op, h, hn, goesT]

theorem thrown_loop (m : Mem) (tape log temps : List D) (e1 : D) (p : Nat) (hp : temps.length = 4) (ts : List Try) : ∀ (x3 x4 x5 x6 x7 : D), (∀ t ∈ ts, ∀ k, t.ret = some k → k ≤ 3) →
    ∃ y3 y4 y5 y6 y7, forL (asgT (.t [3, 4, 5, 6, 7])) (exs (T_law_thrown.body 0)) (ts.map Try.enc) [wldD m.length tape, e1, .int (p : Nat), x3, x4, x5, x6, x7] (wm m log temps)
      = some (match handR ts p with
        | none => (.next, [wldD m.length tape, e1, .int (p : Nat), y3, y4, y5, y6, y7], wm m log temps)
        | some t => (.ret (.int (t.behind : Nat)), [wldD m.length tape, e1, .int (p : Nat), y3, y4, y5, y6, y7], wm m log (match t.ret with | none => temps | some k => temps.set k (.str "thrown")))) := by
  induction ts with
  | nil => exact fun x3 x4 x5 x6 x7 _ => ⟨x3, x4, x5, x6, x7, rfl⟩
  | cons t ts ih =>
    intro x3 x4 x5 x6 x7 hk
    have c1 := fun (μ : Mem) => tst_catch (m := μ) (a := 4) (f := 3) (q := 2) (p := p) (t := t) (env := [wldD m.length tape, e1, .int (p : Nat), .int (t.first : Nat), t.catchD, t.finalD, .int (t.fin : Nat), onat t.ret]) rfl rfl rfl
    have c2 := fun (μ : Mem) => tst_final (m := μ) (a := 5) (f := 3) (q := 2) (p := p) (t := t) (env := [wldD m.length tape, e1, .int (p : Nat), .int (t.first : Nat), t.catchD, t.finalD, .int (t.fin : Nat), onat t.ret]) rfl rfl rfl
    simp only [asks] at c1 c2
    rw [handR]
    cases hc : t.covers p
    · obtain ⟨y3, y4, y5, y6, y7, ih⟩ := ih (.int (t.first : Nat)) t.catchD t.finalD (.int (t.fin : Nat)) (onat t.ret) (fun t' h => hk t' (List.mem_cons_of_mem _ h))
      refine ⟨y3, y4, y5, y6, y7, (forL_step rfl ?_).trans ih⟩
      clear ih
      simp [-tst_and, c1, c2, hc, Try.enc, T_law_thrown, Ss.body, Ss.drop, Ss.drop1, Ss.hd, S.b]
    · refine ⟨.int (t.first : Nat), t.catchD, t.finalD, .int (t.fin : Nat), onat t.ret, forL_ret rfl ?_⟩
      have hk0 := hk t List.mem_cons_self
      clear ih hk
      cases hr : t.ret with
      | none =>
        simp only [Try.catchD, Try.finalD, hr, hc, onat] at c1 c2
        simp [-tst_and, c1, Try.enc, Try.catchD, Try.finalD, hr, T_law_thrown, Ss.body, Ss.drop, Ss.drop1, Ss.hd, S.b]
      | some k =>
        have hk1 : k < temps.length := hp ▸ Nat.lt_succ_of_le (hk0 k hr)
        simp only [Try.catchD, Try.finalD, hr, hc, onat] at c1 c2
        simp [-tst_and, c1, c2, Try.enc, Try.catchD, Try.finalD, hr, setD, hk1, T_law_thrown, Ss.body, Ss.drop, Ss.drop1, Ss.hd, S.b]

theorem thrown_eq (c : Cod) (m : Mem) (tape log temps : List D) (p : Nat) (hp : temps.length = 4) (hk : ∀ t ∈ c.trys, ∀ k, t.ret = some k → k ≤ 3) :
    F_law_thrown [wldD m.length tape, .lst (c.trys.map Try.enc), .int (p : Nat)] (wm m log temps) = some ((thrownT c p temps).1.enc, wm m log (thrownT c p temps).2) := by
  obtain ⟨y3, y4, y5, y6, y7, L⟩ := thrown_loop m tape log temps (.lst (c.trys.map Try.enc)) p hp c.trys.reverse .undef .undef .undef .undef .undef (fun t h => hk t (by simpa using h))
  rw [List.map_reverse] at L
  simp only [T_law_thrown, Ss.body, Ss.drop, Ss.drop1, Ss.hd, S.b] at L
  unfold thrownT Cod.hand
  cases hh : handR c.trys.reverse p <;> simp only [hh] at L <;> simp [F_law_thrown, T_law_thrown, L, Pl.enc]

@[local simp] theorem op_throw (r : Row) : (r.op = Str.ofString "throw") = (match r with | .throw _ => True | _ => False) := by
  cases r with
  | jif k a t => cases k <;> simp [Row.op, Jk.op]
  | _ => simp [Row.op]
@[local simp] theorem op_return (r : Row) : (r.op = Str.ofString "return") = (match r with | .ret _ => True | _ => False) := by
  cases r with
  | jif k a t => cases k <;> simp [Row.op, Jk.op]
  | _ => simp [Row.op]

theorem to_ok {n : Nat} {r : Row} (h : r.Ok n) {k : Nat} (e : r.to = some k) : k ≤ 3 := by
  cases r <;> simp [Row.to] at e
  · subst e; exact h.2
  · subst e; exact h.2.1
  · subst e; exact h.2.1
  · subst e; exact h.1
  · subst e; exact h.1 _ rfl
  · subst e; exact h.1

/-- where a row that is no jump leads, what it leaves -/
noncomputable def Row.isThrow : Row → Bool
  | .throw _ => true | .array _ | .move _ _ | .bool _ _ | .binary _ _ _ | .lelem _ _ | .write _ _ _ | .echo _ | .ret _ | .jump _ | .jif _ _ _ => false
noncomputable def Row.isRet : Row → Bool
  | .ret _ => true | .array _ | .move _ _ | .bool _ _ | .binary _ _ _ | .lelem _ _ | .write _ _ _ | .echo _ | .throw _ | .jump _ | .jif _ _ _ => false
theorem eq_throw (r : Row) : (r.op = Str.ofString "throw") = (r.isThrow = true) := by cases r <;> simp [Row.isThrow]
theorem eq_return (r : Row) : (r.op = Str.ofString "return") = (r.isRet = true) := by cases r <;> simp [Row.isRet]
theorem step_plain (c : Cod) (tape : List D) (p : Nat) (r : Row) (log temps : List D) (hJ : r.isJ = false) (hT : r.isThrow = false) :
    stepT c tape p r log temps = (if r.isRet = true then .ret else .at (p + 1), (givenT tape temps r log).2, match r.to with | none => temps | some k => temps.set k (givenT tape temps r log).1) := by
  cases r <;> first | rfl | exact Bool.noConfusion hJ | exact Bool.noConfusion hT
theorem step_throw (c : Cod) (tape : List D) (p : Nat) (r : Row) (log temps : List D) (hT : r.isThrow = true) :
    stepT c tape p r log temps = ((thrownT c p temps).1, (givenT tape temps r log).2, (thrownT c p temps).2) := by
  cases r <;> first | rfl | exact Bool.noConfusion hT
theorem step_eq (c : Cod) (W : WF c) (m : Mem) {tape temps log : List D} (T : TOk tape temps) (p : Nat) (r : Row) (h : c.rows[p]? = some r) (hl : ∀ e ∈ log, LOk e) (hb : log.length ≤ 40) :
    F_law_step [wldD m.length tape, c.enc, .int (p : Nat)] (wm m log temps) = some ((stepT c tape p r log temps).1.enc, wm m (stepT c tape p r log temps).2.1 (stepT c tape p r log temps).2.2) := by
  have hr : r.Ok c.rows.length := W.rows r (List.mem_of_getElem? h)
  obtain ⟨s, hs, hj⟩ := op_jump r
  have w7 := ops_len r
  have hop := fun m => operands_eq r m
  cases hJ : r.isJ
  · have hs' : ¬ s = Str.ofString "jump" := by rw [hj, hJ]; simp
    have hG := given_eq m T hr hl (by lia) hJ
    obtain ⟨g1, g2, g3, g4, g5, g6⟩ := given_ok T hr hl (by lia)
    have hth := fun log' => thrown_eq c m tape log' temps p T.p4 (fun t ht => (W.trys t ht).2.2.2)
    have hgp := g1.pure
    have hto : ∀ k, r.to = some k → k < temps.length := fun k e => by have := to_ok hr e; rw [T.p4]; lia
    have et := eq_throw r
    have er := eq_return r
    have hrd := fun m => rd_of m hgp
    clear g1 g2 g3 g4 g5 g6 hop w7 hj hr hl hb
    cases hT : r.isThrow
    · rw [step_plain c tape p r log temps hJ hT]
      generalize givenT tape temps r log = G at *
      cases hto' : r.to with
      | none => cases hR : r.isRet <;> simp [-op_throw, -op_return, F_law_step, T_law_step, Cod.enc, h, hs, hs', hG, hrd, Pl.enc, et, er, hT, hR, hto']
      | some t =>
        have := hto t hto'
        cases hR : r.isRet <;> simp [-op_throw, -op_return, F_law_step, T_law_step, Cod.enc, h, hs, hs', hG, hrd, Pl.enc, et, er, hT, hR, hto', setD, this, hgp]
    · rw [step_throw c tape p r log temps hT]
      generalize givenT tape temps r log = G at *
      simp [-op_throw, -op_return, F_law_step, T_law_step, Cod.enc, h, hs, hs', hG, hth, hrd, et, hT]
  · have hs' : s = Str.ofString "jump" := by rw [hj, hJ]
    have hV := vals_comp m T [c.enc, .int (p : Nat), r.enc, .undef, .undef] 4 (by simp) r.ops log (ops_ok hr) hl (by lia)
    simp only [Nat.reduceAdd, Cod.enc] at hV
    have key : ∀ (g : Bool) (t : Nat), r.pb = .int (t : Nat) → (∀ m, F_law_goes [.str r.op, .lst (valsT tape temps r.ops log).1] m = some (.bool g, m)) → stepT c tape p r log temps = (if g = true then .at t else .at (p + 1), (valsT tape temps r.ops log).2, temps) →
        F_law_step [wldD m.length tape, c.enc, .int (p : Nat)] (wm m log temps) = some ((stepT c tape p r log temps).1.enc, wm m (stepT c tape p r log temps).2.1 (stepT c tape p r log temps).2.2) := by
      intro g t hpb hg he
      have hbl : (valsT tape temps r.ops log).1.length ≤ big := by rw [(vals_ok T r.ops log (ops_ok hr) hl).1]; exact big_le _ (by lia)
      rw [he]
      cases g <;> simp [-evG_done, -tstAnd_nil, F_law_step, T_law_step, Cod.enc, h, hs, hs', hop, hV, hg, hpb, Pl.enc, hbl]
    cases r with
    | jump t => exact key true t rfl (fun m => goes_jump m) rfl
    | jif k a t =>
      have hv := (val_ok (tape := tape) (temps := temps) (log := log) T a (ops_ok hr a (by simp [Row.ops])) hl).1
      exact key _ t rfl (fun m => goes_jif k _ hv m) rfl
    | _ => exact Bool.noConfusion hJ

set_option maxRecDepth 100000
open PySem

noncomputable def Opd.v0 (t0 : D) : Opd → D | .lit v => v.enc | .tmp _ => t0 | .cv _ => .none
/-- where a silent row goes -/
noncomputable def silN (t0 : D) (p : Nat) (r : Row) : Nat := match r with
  | .jump t => t
  | .jif k a t => if goesT k (a.v0 t0) then t else p + 1
  | _ => p + 1
inductive Ends (c : Cod) (t0 : D) : Nat → Nat → Prop
  | out {p} : c.rows.length ≤ p → Ends c t0 0 p
  | speaks {p r} : c.rows[p]? = some r → r.speaks = true → Ends c t0 0 p
  | step {p r j} : c.rows[p]? = some r → r.speaks = false → Ends c t0 j (silN t0 p r) → Ends c t0 (j + 1) p
theorem get_lt {α : Type} {l : List α} {p : Nat} {r : α} (h : l[p]? = some r) : p < l.length := by
  rcases Nat.lt_or_ge p l.length with h' | h'
  · exact h'
  · rw [List.getElem?_eq_none h'] at h; cases h
theorem Ends.unique {c : Cod} {t0 : D} {i j p : Nat} (h : Ends c t0 i p) (h' : Ends c t0 j p) : i = j := by
  induction h generalizing j with
  | out h1 => cases h' with
    | out _ => rfl
    | speaks _ _ => rfl
    | step h2 _ _ => have := get_lt h2; lia
  | speaks h1 h2 => cases h' with
    | out _ => rfl
    | speaks _ _ => rfl
    | step h3 h4 _ => rw [h1] at h3; cases h3; rw [h2] at h4; cases h4
  | step h1 h2 _ ih => cases h' with
    | out h3 => have := get_lt h1; lia
    | speaks h3 h4 => rw [h1] at h3; cases h3; rw [h2] at h4; cases h4
    | step h3 _ h5 => rw [h1] at h3; cases h3; rw [ih h5]
theorem Ends.path {c : Cod} {t0 : D} {j p : Nat} (h : Ends c t0 j p) : ∃ l : List Nat, l.length = j ∧ l.Nodup ∧ (∀ x ∈ l, x < c.rows.length) ∧ ∀ x ∈ l, ∃ i, i ≤ j ∧ Ends c t0 i x := by
  induction h with
  | out _ => exact ⟨[], rfl, List.nodup_nil, by simp, by simp⟩
  | speaks _ _ => exact ⟨[], rfl, List.nodup_nil, by simp, by simp⟩
  | @step p r j h1 h2 h3 ih =>
    obtain ⟨l, e1, e2, e3, e4⟩ := ih
    refine ⟨p :: l, by simp [e1], ?_, ?_, ?_⟩
    · rw [List.nodup_cons]
      refine ⟨fun hp => ?_, e2⟩
      obtain ⟨i, hi, hE⟩ := e4 p hp
      have := hE.unique (.step h1 h2 h3)
      lia
    · intro x hx
      rcases List.mem_cons.mp hx with rfl | hx
      · exact get_lt h1
      · exact e3 x hx
    · intro x hx
      rcases List.mem_cons.mp hx with rfl | hx
      · exact ⟨j + 1, Nat.le_refl _, .step h1 h2 h3⟩
      · obtain ⟨i, hi, hE⟩ := e4 x hx; exact ⟨i, by lia, hE⟩
theorem Ends.le {c : Cod} {t0 : D} {j p : Nat} (h : Ends c t0 j p) : j ≤ c.rows.length := by
  obtain ⟨l, e1, e2, e3, _⟩ := h.path
  rw [← e1]; exact nodup_le _ l e2 e3

inductive Tells (c : Cod) (tape : List D) : Pl → List D → List D → Str → List D → Prop
  | thrown {log temps} : Tells c tape .thrown log temps "thrown" log
  | ret {log temps} : Tells c tape .ret log temps "return" log
  | out {p log temps} : c.rows.length ≤ p → Tells c tape (.at p) log temps "end" log
  | silent {p r log temps k l} : c.rows[p]? = some r → r.speaks = false → Tells c tape (stepT c tape p r log temps).1 (stepT c tape p r log temps).2.1 (stepT c tape p r log temps).2.2 k l → Tells c tape (.at p) log temps k l
  | cut {p r log temps} : c.rows[p]? = some r → r.speaks = true → 12 < log.length → Tells c tape (.at p) log temps "cut" log
  | speak {p r log temps k l} : c.rows[p]? = some r → r.speaks = true → log.length ≤ 12 → Tells c tape (stepT c tape p r log temps).1 (stepT c tape p r log temps).2.1 (stepT c tape p r log temps).2.2 k l → Tells c tape (.at p) log temps k l
  | ever {p log temps} : (∀ j, ¬ Ends c (temps.getD 0 .none) j p) → Tells c tape (.at p) log temps "for ever" log

theorem getD_set_ne {l : List D} {k : Nat} (hk : 1 ≤ k) (d : D) : (l.set k d).getD 0 .none = l.getD 0 .none := by
  rw [List.getD_eq_getElem?_getD, List.getD_eq_getElem?_getD, List.getElem?_set_ne (by lia)]
theorem v0_eq {n : Nat} {k : Jk} {a : Opd} {t : Nat} (h : (Row.jif k a t).Ok n) (hs : a.isCv = false) (tape temps log : List D) : a.val tape temps log = (a.v0 (temps.getD 0 .none), log) := by
  cases a with
  | lit v => rfl
  | tmp k => have := h.2.1 k rfl; subst this; rfl
  | cv k => cases hs
set_option tactic.hygienic true in
/-- what a silent row does -/
theorem silent_step (c : Cod) (tape log temps : List D) {n p : Nat} {r : Row} (hr : r.Ok n) (hs : r.speaks = false) :
    (stepT c tape p r log temps).1 = .at (silN (temps.getD 0 .none) p r) ∧ (stepT c tape p r log temps).2.1 = log ∧ (stepT c tape p r log temps).2.2.getD 0 .none = temps.getD 0 .none := by
  have hv : ∀ os : List Opd, (∀ o ∈ os, o.isCv = false) → (valsT tape temps os log).2 = log := by
    intro os
    induction os with
    | nil => intro _; rfl
    | cons o os ih =>
      intro h
      have h0 := h o (by simp)
      have : (o.val tape temps log).2 = log := by cases o <;> first | rfl | cases h0
      simp only [valsT, this]
      exact ih (fun o' h' => h o' (List.mem_cons_of_mem _ h'))
  cases r <;> simp only [Row.speaks, Bool.true_eq_false] at hs
  · exact ⟨rfl, hv _ (by simp [Row.ops]), getD_set_ne hr.1 _⟩
  · exact ⟨rfl, hv _ (by simpa [Row.ops] using hs), getD_set_ne hr.1 _⟩
  · exact ⟨rfl, hv _ (by simpa [Row.ops] using hs), getD_set_ne hr.1 _⟩
  · exact ⟨rfl, rfl, rfl⟩
  · rename_i k a t
    refine ⟨?_, ?_, rfl⟩
    · simp only [stepT, v0_eq hr hs, silN]
      split <;> rfl
    · simp only [stepT, v0_eq hr hs]

theorem Tells.ever_only {c : Cod} (W : WF c) {tape : List D} {pl : Pl} {log temps : List D} {k : Str} {l : List D} (h : Tells c tape pl log temps k l) : ∀ p, pl = .at p → (∀ j, ¬ Ends c (temps.getD 0 .none) j p) → k = "for ever" ∧ l = log := by
  induction h with
  | thrown => intro p hp; cases hp
  | ret => intro p hp; cases hp
  | out h => intro p hp hE; cases hp; exact absurd (.out h) (hE 0)
  | @silent p r log temps k l h1 h2 h3 ih =>
    intro p hp hE; cases hp
    have hr : r.Ok c.rows.length := W.rows r (List.mem_of_getElem? h1)
    obtain ⟨e1, e2, e3⟩ := silent_step c tape log temps (p := p) hr h2
    have := ih _ e1 (fun j hj => hE (j + 1) (.step h1 h2 (by rwa [e3] at hj)))
    rw [e2] at this
    exact this
  | cut h1 h2 _ => intro p hp hE; cases hp; exact absurd (.speaks h1 h2) (hE 0)
  | speak h1 h2 _ _ _ => intro p hp hE; cases hp; exact absurd (.speaks h1 h2) (hE 0)
  | ever _ => intro p hp hE; exact ⟨rfl, rfl⟩

theorem Tells.unique {c : Cod} (W : WF c) {tape : List D} {pl : Pl} {log temps : List D} {k k' : Str} {l l' : List D} (h : Tells c tape pl log temps k l) (h' : Tells c tape pl log temps k' l') : k = k' ∧ l = l' := by
  induction h generalizing k' l' with
  | thrown => cases h'; exact ⟨rfl, rfl⟩
  | ret => cases h'; exact ⟨rfl, rfl⟩
  | out h => cases h' with
    | out _ => exact ⟨rfl, rfl⟩
    | silent h1 _ _ => have := get_lt h1; lia
    | cut h1 _ _ => have := get_lt h1; lia
    | speak h1 _ _ _ => have := get_lt h1; lia
    | ever hE => exact absurd (.out h) (hE 0)
  | silent h1 h2 h3 ih => cases h' with
    | out _ => have := get_lt h1; lia
    | silent g1 g2 g3 => rw [h1] at g1; cases g1; exact ih g3
    | cut g1 g2 _ => rw [h1] at g1; cases g1; rw [h2] at g2; cases g2
    | speak g1 g2 _ _ => rw [h1] at g1; cases g1; rw [h2] at g2; cases g2
    | ever hE => exact (Tells.silent h1 h2 h3).ever_only W _ rfl hE
  | cut h1 h2 h3 => cases h' with
    | out _ => have := get_lt h1; lia
    | silent g1 g2 g3 => rw [h1] at g1; cases g1; rw [h2] at g2; cases g2
    | cut g1 g2 _ => exact ⟨rfl, rfl⟩
    | speak g1 g2 _ _ => lia
    | ever hE => exact absurd (.speaks h1 h2) (hE 0)
  | speak h1 h2 h3 h4 ih => cases h' with
    | out _ => have := get_lt h1; lia
    | silent g1 g2 g3 => rw [h1] at g1; cases g1; rw [h2] at g2; cases g2
    | cut g1 g2 _ => lia
    | speak g1 g2 _ g4 => rw [h1] at g1; cases g1; exact ih g4
    | ever hE => exact absurd (.speaks h1 h2) (hE 0)
  | ever hE => have := h'.ever_only W _ rfl hE; exact ⟨this.1.symm, this.2.symm⟩

theorem set_ok {temps : List D} (h : ∀ v ∈ temps, VOk v) {k : Nat} {d : D} (hd : VOk d) : ∀ v ∈ temps.set k d, VOk v := by
  intro v hv
  rcases List.mem_or_eq_of_mem_set hv with hv | rfl
  · exact h v hv
  · exact hd
set_option tactic.hygienic true in
/-- the state behind a step -/
theorem stepT_ok (c : Cod) (W : WF c) {tape temps log : List D} (T : TOk tape temps) (p : Nat) (r : Row) (h : c.rows[p]? = some r) (hl : ∀ e ∈ log, LOk e) (hb : log.length ≤ 40) :
    TOk tape (stepT c tape p r log temps).2.2 ∧ (∀ e ∈ (stepT c tape p r log temps).2.1, LOk e) ∧ (stepT c tape p r log temps).2.1.length ≤ log.length + 3 ∧ (r.speaks = true → log.length + 1 ≤ (stepT c tape p r log temps).2.1.length) ∧ (∀ q, (stepT c tape p r log temps).1 = .at q → q ≤ c.rows.length) := by
  have hr : r.Ok c.rows.length := W.rows r (List.mem_of_getElem? h)
  have hp := get_lt h
  cases hJ : r.isJ
  · obtain ⟨g1, g2, g3, g4, g5, g6⟩ := given_ok T hr hl (by lia)
    have hset : ∀ k d, VOk d → TOk tape (temps.set k d) := fun k d hd => ⟨T.t7, T.tv, by rw [List.length_set]; exact T.p4, set_ok T.pv hd⟩
    have hthrow : VOk (.str "thrown") := by simp only [VOk]; decide
    cases r with
    | jump t => simp [Row.isJ] at hJ
    | jif k a t => simp [Row.isJ] at hJ
    | throw a =>
      refine ⟨?_, g2, g3, fun _ => g5 rfl rfl, ?_⟩
      · simp only [stepT, thrownT]
        split
        · exact T
        · dsimp only; split
          · exact T
          · exact hset _ _ hthrow
      · intro q hq
        simp only [stepT, thrownT] at hq
        split at hq
        · cases hq
        · rename_i t ht; cases hq; have := W.hand p t hp ht; lia
    | ret a => exact ⟨T, g2, g3, fun _ => g5 rfl rfl, fun q hq => by simp [stepT] at hq⟩
    | echo a => exact ⟨T, g2, g3, fun _ => g5 rfl rfl, fun q hq => by simp [stepT] at hq; lia⟩
    | lelem to a =>
      refine ⟨?_, g2, g3, fun _ => g5 rfl rfl, fun q hq => by simp [stepT] at hq; lia⟩
      cases to with
      | none => exact T
      | some k => exact hset _ _ g1
    | array to => exact ⟨hset _ _ g1, g2, g3, fun hs => g5 hs rfl, fun q hq => by simp [stepT] at hq; lia⟩
    | move to a => exact ⟨hset _ _ g1, g2, g3, fun hs => g5 hs rfl, fun q hq => by simp [stepT] at hq; lia⟩
    | bool to a => exact ⟨hset _ _ g1, g2, g3, fun hs => g5 hs rfl, fun q hq => by simp [stepT] at hq; lia⟩
    | binary to a b => exact ⟨hset _ _ g1, g2, g3, fun hs => g5 hs rfl, fun q hq => by simp [stepT] at hq; lia⟩
    | write to a b => exact ⟨hset _ _ g1, g2, g3, fun hs => g5 hs rfl, fun q hq => by simp [stepT] at hq; lia⟩
  · cases r with
    | jump t => exact ⟨T, hl, by simp [stepT], by simp [Row.speaks], fun q hq => by simp [stepT] at hq; have := hr; simp only [Row.Ok] at this; lia⟩
    | jif k a t =>
      obtain ⟨v1, v2, v3, v4, v5, v6⟩ := val_ok (tape := tape) (temps := temps) (log := log) T a (ops_ok hr a (by simp [Row.ops])) hl
      refine ⟨T, v2, by simp only [stepT]; lia, fun hs => by simp only [stepT]; rw [v5 hs]; lia, fun q hq => ?_⟩
      simp only [stepT] at hq
      have := hr.2.2
      split at hq <;> cases hq <;> lia
    | _ => simp [Row.isJ] at hJ

noncomputable def temps0 : List D := [.none, .str "t", .none, .str "t"]
theorem temps0_ok : ∀ v ∈ temps0, VOk v := by
  intro v hv
  simp only [temps0, List.mem_cons, List.not_mem_nil, or_false] at hv
  rcases hv with rfl | rfl | rfl | rfl <;> simp only [VOk] <;> decide

theorem told_eq (c : Cod) (W : WF c) (m : Mem) {tape : List D} (h7 : tape.length = 7) (htv : ∀ v ∈ tape, VOk v) :
    ∃ k l, F_law_told [c.enc, .lst tape] m = some (.tup [.str k, .lst l], m) ∧ (∀ e ∈ l, LOk e) ∧ Tells c tape (.at 0) [] temps0 k l := by
  have hlen := W.len
  have H := whileN_spec (t := tst (.and (.cons (.cmp .isNot (.var 3) (.cst .none)) (.cons (.cmp2 (.cst (.int 0)) .le (.var 3) .lt (.bi .len (.attr (.var 0) 0))) .nil)))) (b := exs (T_law_told.body 2))
    (fun k env m' => ∃ pl silent log temps s, env = [c.enc, .lst tape, wldD m.length tape, pl.enc, .int (silent : Nat)] ∧ m' = wm m log temps ∧ TOk tape temps ∧ (∀ e ∈ log, LOk e) ∧ log.length ≤ 15 ∧ silent ≤ c.rows.length ∧ (∀ p, pl = .at p → p ≤ c.rows.length) ∧
      (∀ kk ll, Tells c tape pl log temps kk ll → Tells c tape (.at 0) [] temps0 kk ll) ∧ (∀ p, pl = .at p → ∀ j, Ends c (temps.getD 0 .none) j p → Ends c (temps.getD 0 .none) (j + silent) s) ∧
      k = (20 - log.length) * (c.rows.length + 3) + (c.rows.length + 2 - silent))
    (fun o => (∃ pl silent log temps, o = (.next, [c.enc, .lst tape, wldD m.length tape, pl.enc, .int (silent : Nat)], wm m log temps) ∧ (∀ e ∈ log, LOk e) ∧ (∀ p, pl = .at p → c.rows.length ≤ p) ∧ (∀ kk ll, Tells c tape pl log temps kk ll → Tells c tape (.at 0) [] temps0 kk ll)) ∨
      (∃ kk ll env temps, o = (.ret (.tup [.str kk, .lst ll]), env, m ++ [none, some (.lst temps)]) ∧ (∀ e ∈ ll, LOk e) ∧ Tells c tape (.at 0) [] temps0 kk ll))
    (by
      rintro k env m' ⟨pl, silent, log, temps, s, rfl, rfl, T, hl, hb, hs, hpn, hT, hE, rfl⟩
      by_cases hin : ∃ p, pl = .at p ∧ p < c.rows.length
      · obtain ⟨p, rfl, hp⟩ := hin
        refine .inr ⟨by simp [Pl.enc, Cod.enc, hp], ?_⟩
        have hg := c.row_get hp
        have hge := c.row_eq hp
        generalize c.row p = r at hg hge
        have hr : r.Ok c.rows.length := W.rows r (List.mem_of_getElem? hg)
        have hst := step_eq c W m T p r hg hl (by lia)
        obtain ⟨s1, s2, s3, s4, s5⟩ := stepT_ok c W T p r hg hl (by lia)
        have hlp := log_pures hl
        cases hsp : r.speaks
        · obtain ⟨e1, e2, e3⟩ := silent_step c tape log temps (p := p) hr hsp
          by_cases hev : c.rows.length < silent + 1
          · refine .inr ⟨.tup [.str "for ever", .lst log], [c.enc, .lst tape, wldD m.length tape, .int (p : Nat), .int ((silent + 1 : Nat) : Int)], m ++ [none, some (.lst temps)], ?_, .inr ⟨_, _, _, temps, rfl, hl, hT _ _ (.ever fun j hj => ?_)⟩⟩
            · have hev' : (c.rows.length : Int) < (silent : Int) + 1 := by lia
              have hns : ¬ ((silent : Int) + 1 = 0) := by lia
              simp [T_law_told, Ss.body, Ss.drop, Ss.drop1, Ss.hd, S.b, Pl.enc, Cod.enc, hg, speaks_eq, hsp, hev', hns, freezeD]
              simp [wm]
            · have h1 := (hE p rfl j hj).le
              have h2 : 1 ≤ j := by
                cases hj with
                | out h => lia
                | speaks h h' => rw [hg] at h; cases h; rw [hsp] at h'; cases h'
                | step _ _ _ => lia
              lia
          · refine .inl ⟨_, [c.enc, .lst tape, wldD m.length tape, (stepT c tape p r log temps).1.enc, .int ((silent + 1 : Nat) : Int)], wm m (stepT c tape p r log temps).2.1 (stepT c tape p r log temps).2.2, ?_, ?_, (stepT c tape p r log temps).1, silent + 1, (stepT c tape p r log temps).2.1, (stepT c tape p r log temps).2.2, s, rfl, rfl, s1, s2, by rw [e2]; exact hb, by lia, s5, fun kk ll h => hT kk ll (.silent hg hsp h), ?_, rfl⟩
            · rw [e2]; lia
            · have hev' : ¬ (c.rows.length : Int) < (silent : Int) + 1 := by lia
              have hns : ¬ ((silent : Int) + 1 = 0) := by lia
              simp only [Cod.enc] at hst
              simp [T_law_told, Ss.body, Ss.drop, Ss.drop1, Ss.hd, S.b, Pl.enc, Cod.enc, hg, speaks_eq, hsp, hev', hns, hst]
            · intro q hq j hj
              rw [e1] at hq; cases hq
              rw [e3] at hj ⊢
              have := hE p rfl (j + 1) (.step hg hsp hj)
              rwa [show j + (silent + 1) = j + 1 + silent by lia]
        · by_cases hcut : 12 < log.length
          · refine .inr ⟨.tup [.str "cut", .lst log], [c.enc, .lst tape, wldD m.length tape, .int (p : Nat), .int ((0 : Nat) : Int)], m ++ [none, some (.lst temps)], ?_, .inr ⟨_, _, _, temps, rfl, hl, hT _ _ (.cut hg hsp hcut)⟩⟩
            have hcut' : (12 : Int) < (log.length : Int) := by lia
            simp [T_law_told, Ss.body, Ss.drop, Ss.drop1, Ss.hd, S.b, Pl.enc, Cod.enc, hg, speaks_eq, hsp, hcut', freezeD]
            simp [wm]
          · refine .inl ⟨_, [c.enc, .lst tape, wldD m.length tape, (stepT c tape p r log temps).1.enc, .int ((0 : Nat) : Int)], wm m (stepT c tape p r log temps).2.1 (stepT c tape p r log temps).2.2, ?_, ?_, (stepT c tape p r log temps).1, 0, (stepT c tape p r log temps).2.1, (stepT c tape p r log temps).2.2, (match (stepT c tape p r log temps).1 with | .at q => q | _ => 0), rfl, rfl, s1, s2, by lia, by lia, s5, fun kk ll h => hT kk ll (.speak hg hsp (by lia) h), ?_, rfl⟩
            · have h4 := s4 hsp
              have : (20 - (stepT c tape p r log temps).2.1.length) * (c.rows.length + 3) + (c.rows.length + 3) ≤ (20 - log.length) * (c.rows.length + 3) := by
                rw [← Nat.succ_mul]; exact Nat.mul_le_mul_right _ (by lia)
              lia
            · have hcut' : ¬ (12 : Int) < (log.length : Int) := by lia
              have hnn : ¬ (c.rows.length : Int) < 0 := by lia
              simp only [Cod.enc] at hst
              simp [T_law_told, Ss.body, Ss.drop, Ss.drop1, Ss.hd, S.b, Pl.enc, Cod.enc, hg, speaks_eq, hsp, hcut', hnn, hst]
            · intro q hq j hj
              rw [hq]; simpa using hj
      · refine .inl ⟨?_, .inl ⟨pl, silent, log, temps, rfl, hl, ?_, hT⟩⟩
        · cases pl with
          | thrown => simp [Pl.enc]
          | ret => simp [Pl.enc]
          | «at» p =>
            have : ¬ p < c.rows.length := fun h => hin ⟨p, rfl, h⟩
            simp [Pl.enc, Cod.enc, this]
        · intro p hp
          rcases Nat.lt_or_ge p c.rows.length with h | h
          · exact absurd ⟨p, hp, h⟩ hin
          · exact h)
    big (20 * (c.rows.length + 3) + (c.rows.length + 2)) [c.enc, .lst tape, wldD m.length tape, .int ((0 : Nat) : Int), .int ((0 : Nat) : Int)] (wm m [] temps0) (big_lt _ (by lia))
    ⟨.at 0, 0, [], temps0, 0, rfl, rfl, ⟨h7, htv, rfl, temps0_ok⟩, by simp, by simp, by lia, fun p hp => by cases hp; lia, fun _ _ h => h, fun p hp j hj => by cases hp; simpa using hj, by simp⟩
  obtain ⟨o, ho, hQ⟩ := H
  simp only [T_law_told, Ss.body, Ss.drop, Ss.drop1, Ss.hd, S.b, Cod.enc] at ho
  have htp : D.pures tape = true := pures_of _ fun d hd => (htv d hd).pure
  have hwl : D.dic [.str "log", .str "temps", .str "tape"] [.cell m.length, .cell (m.length + 1), .lst tape] = wldD m.length tape := rfl
  have hmm : m ++ [some (.lst []), some (.lst [D.none, .str "t", .none, .str "t"])] = wm m [] temps0 := rfl
  have hok : ([D.str (Str.ofString "log"), .str (Str.ofString "temps"), .str (Str.ofString "tape")].all isInt || [D.str (Str.ofString "log"), .str (Str.ofString "temps"), .str (Str.ofString "tape")].all isStr) = true ∧ nodupK [D.str (Str.ofString "log"), .str (Str.ofString "temps"), .str (Str.ofString "tape")] = true := by
    constructor <;> kernel_rfl
  simp only [Int.natCast_zero, Int.cast_ofNat_Int] at ho
  rcases hQ with ⟨pl, silent, log, temps, rfl, hl, hpl, hT⟩ | ⟨kk, ll, env, temps, rfl, hl, hT⟩
  · have hlp := log_pures hl
    cases pl with
    | thrown => exact ⟨"thrown", log, by simp [F_law_told, T_law_told, Cod.enc, isInt, isStr, hok.2, hwl, hmm, ho, Pl.enc, freezeD, hlp]; simp [wm], hl, hT _ _ .thrown⟩
    | ret => exact ⟨"return", log, by simp [F_law_told, T_law_told, Cod.enc, isInt, isStr, hok.2, hwl, hmm, ho, Pl.enc, freezeD, hlp]; simp [wm], hl, hT _ _ .ret⟩
    | «at» p => exact ⟨"end", log, by have hnp : ¬ (p : Int) < 0 := (by lia); simp [hnp, F_law_told, T_law_told, Cod.enc, isInt, isStr, hok.2, hwl, hmm, ho, Pl.enc, freezeD, hlp]; simp [wm], hl, hT _ _ (.out (hpl p rfl))⟩
  · have hlp := log_pures hl
    exact ⟨kk, ll, by simp [F_law_told, T_law_told, Cod.enc, isInt, isStr, hok.2, hwl, hmm, ho, hlp], hl, hT⟩

set_option maxRecDepth 100000
open PySem

noncomputable def dm (p : Nat) (rest : Mem) : Mem := some (.lst [.int (p : Nat)]) :: rest
@[simp high] theorem dm_get (p : Nat) (rest : Mem) : (dm p rest)[0]? = some (some (.lst [.int (p : Nat)])) := rfl
@[local simp] theorem dm_set (p : Nat) (rest : Mem) (q : Int) : (dm p rest).set 0 (some (.lst [.int q])) = some (.lst [.int q]) :: rest := rfl
theorem dm_eq (p : Nat) (rest : Mem) : some (.lst [.int (p : Nat)]) :: rest = dm p rest := rfl
@[local simp] theorem dm_len (p : Nat) (rest : Mem) : List.length (dm p rest) = rest.length + 1 := rfl
@[local simp] theorem dm_take (p : Nat) (rest : Mem) : (dm p rest).take (rest.length + 1) = dm p rest := by simp [dm]
@[local simp] theorem dm_app (p : Nat) (rest l : Mem) : dm p rest ++ l = dm p (rest ++ l) := rfl

theorem le500 {p : Nat} (k : Nat) (h : p ≤ 400) (hk : k ≤ 100 := by decide) : p + k ≤ 500 := Nat.add_le_add h hk
theorem lt2 {v : Nat} (h : v < 2) : v = 0 ∨ v = 1 := by lia
theorem lt3 {v : Nat} (h : v < 3) : v = 0 ∨ v = 1 ∨ v = 2 := by lia
theorem lt4 {v : Nat} (h : v < 4) : v = 0 ∨ v = 1 ∨ v = 2 ∨ v = 3 := by lia
theorem pq (p : Nat) (k : Nat) (h : k ≤ 5 := by decide) : p ≤ p + k ∧ p + k ≤ p + 5 := ⟨Nat.le_add_right _ _, Nat.add_le_add_left h _⟩
theorem draw_eq (ns : List Int) (p many : Nat) (rest : Mem) (hp : p ≤ 500) (h0 : 0 < many) (h1 : many ≤ 1000) :
    ∃ v : Nat, v < many ∧ F_law_draw [.lst (ns.map .int), .cell 0, .int (many : Nat)] (dm p rest) = some (.int (v : Nat), dm (p + 1) rest) := by
  have hm := big_le many h1
  have hm2 : (many : Int) ≤ (big : Int) := by lia
  have hm3 : (0 : Int) < (many : Int) := by lia
  have hk : (1009 : Int) ≤ (big : Int) := by decide
  have hp1 : (p : Int) ≤ 1000 := by lia
  have e1 : dm (p + 1) rest = some (.lst [.int ((p : Int) + 1)]) :: rest := by simp [dm]
  by_cases hlt : p < ns.length
  · generalize hg : ns[p] = x
    refine ⟨(x % (many : Int)).toNat, by have := Int.emod_lt_of_pos x hm3; have := Int.emod_nonneg x (by lia : (many : Int) ≠ 0); lia, ?_⟩
    have e2 : (((x % (many : Int)).toNat : Nat) : Int) = x % (many : Int) := Int.toNat_of_nonneg (Int.emod_nonneg x (by lia))
    rw [e2, e1]
    simp [F_law_draw, T_law_draw, idxD_cell, setD, hlt, hg, hm2, h0]
  · refine ⟨((3 ^ p % 1009 : Int) % (many : Int)).toNat, by have := Int.emod_lt_of_pos (3 ^ p % 1009 : Int) hm3; have := Int.emod_nonneg (3 ^ p % 1009 : Int) (by lia : (many : Int) ≠ 0); lia, ?_⟩
    have e2 : ((((3 ^ p % 1009 : Int) % (many : Int)).toNat : Nat) : Int) = (3 ^ p % 1009 : Int) % (many : Int) := Int.toNat_of_nonneg (Int.emod_nonneg _ (by lia))
    rw [e2, e1]
    simp [F_law_draw, T_law_draw, idxD_cell, setD, hlt, hm2, h0, hk, hp1]

theorem operand_eq (ns : List Int) (p : Nat) (rest : Mem) (hp : p ≤ 500) :
    ∃ o : Opd, o.Ok ∧ F_law_operand [.lst (ns.map .int), .cell 0] (dm p rest) = some (o.enc, dm (p + 1) rest) := by
  obtain ⟨v, hv, hd⟩ := draw_eq ns p 9 rest hp (by decide) (by decide)
  simp only [Int.cast_ofNat_Int] at hd
  rcases Nat.lt_or_ge v 3 with h | h
  · rcases lt3 h with rfl | rfl | rfl
    · exact ⟨.lit .none, trivial, by simp [F_law_operand, T_law_operand, hd, Opd.enc, Lit.enc]⟩
    · exact ⟨.lit .tt, trivial, by simp [F_law_operand, T_law_operand, hd, Opd.enc, Lit.enc]⟩
    · exact ⟨.lit .x, trivial, by simp [F_law_operand, T_law_operand, hd, Opd.enc, Lit.enc]⟩
  have h3 : ¬ (v : Int) < 3 := fun q => Nat.not_lt.mpr h (Int.ofNat_lt.mp q)
  rcases Nat.lt_or_ge v 7 with g | g
  · have h4 : (v : Int) < 7 := Int.ofNat_lt.mpr g
    refine ⟨.tmp (v - 3), Nat.sub_le_of_le_add (Nat.le_of_lt_succ g), ?_⟩
    simp [F_law_operand, T_law_operand, hd, Opd.enc, h3, h4, Int.natCast_sub h]
  · have h4 : ¬ (v : Int) < 7 := fun q => Nat.not_lt.mpr g (Int.ofNat_lt.mp q)
    refine ⟨.cv (v - 7), Nat.le_trans (Nat.sub_le _ _) (Nat.le_of_lt hv), ?_⟩
    simp [F_law_operand, T_law_operand, hd, Opd.enc, h3, h4, Int.natCast_sub g]

theorem row_eq' (ns : List Int) (p many : Nat) (rest : Mem) (hp : p ≤ 400) (hm : many ≤ 900) :
    ∃ (r : Row) (q : Nat), r.Ok many ∧ p ≤ q ∧ q ≤ p + 5 ∧ F_law_row [.lst (ns.map .int), .cell 0, .int (many : Nat)] (dm p rest) = some (r.enc, dm q rest) := by
  obtain ⟨v, hv, hd⟩ := draw_eq ns p 18 rest (le500 0 hp) (by decide) (by decide)
  simp only [Int.cast_ofNat_Int] at hd
  by_cases hj : 13 < v
  · obtain ⟨w, hw, hd2⟩ := draw_eq ns (p + 1) 4 rest (le500 1 hp) (by decide) (by decide)
    obtain ⟨t, ht, hd3⟩ := draw_eq ns (p + 2) (many + 1) rest (le500 2 hp) (Nat.succ_pos _) (Nat.le_trans (Nat.succ_le_succ hm) (by decide))
    simp only [Int.cast_ofNat_Int, Int.natCast_add] at hd2 hd3
    have ht' : t ≤ many := Nat.le_of_lt_succ ht
    have hvv : v = 14 ∨ v = 15 ∨ v = 16 ∨ v = 17 := by lia
    have hww := lt4 hw
    have h13 : (13 : Int) < (v : Int) := Int.ofNat_lt.mpr hj
    have ej : at? [.str "jump", .str "jump_if", .str "jump_unless", .str "jump_set"] ((v : Int) - 14) = some (.str "jump") ∨ ∃ k : Jk, at? [.str "jump", .str "jump_if", .str "jump_unless", .str "jump_set"] ((v : Int) - 14) = some (.str k.op) := by
      rcases hvv with rfl | rfl | rfl | rfl
      · exact .inl rfl
      · exact .inr ⟨.jif, rfl⟩
      · exact .inr ⟨.unless, rfl⟩
      · exact .inr ⟨.set, rfl⟩
    have ex : ∃ a : Opd, a.Ok ∧ (∀ k, a = .tmp k → k = 0) ∧ at? [.tup [.str "lit", .none], .tup [.str "lit", .bool true], .tup [.str "tmp", .int 0], .tup [.str "cv", .int 0]] (w : Int) = some a.enc := by
      rcases hww with rfl | rfl | rfl | rfl
      · exact ⟨.lit .none, trivial, fun _ h => (nomatch h), rfl⟩
      · exact ⟨.lit .tt, trivial, fun _ h => (nomatch h), rfl⟩
      · exact ⟨.tmp 0, by simp [Opd.Ok], fun _ h => by cases h; rfl, rfl⟩
      · exact ⟨.cv 0, by simp [Opd.Ok], fun _ h => (nomatch h), rfl⟩
    obtain ⟨a, ha, ha0, ea⟩ := ex
    rcases ej with ej | ⟨k, ej⟩
    · exact ⟨.jump t, p + 3, ht', (pq p _).1, (pq p _).2, by simp [-at?_nat, F_law_row, T_law_row, hd, hd2, hd3, h13, ej, ea, Row.enc, Row.op, Row.to, Row.pa, Row.pb]⟩
    · have hk : ¬ k.op = Str.ofString "jump" := by cases k <;> decide
      exact ⟨.jif k a t, p + 3, ⟨ha, ha0, ht'⟩, (pq p _).1, (pq p _).2, by simp [-at?_nat, F_law_row, T_law_row, hd, hd2, hd3, h13, ej, ea, hk, Row.enc, Row.op, Row.to, Row.pa, Row.pb]⟩
  have h13 : ¬ (13 : Int) < (v : Int) := fun q => hj (Int.ofNat_lt.mp q)
  by_cases he : v = 10 ∨ v = 12 ∨ v = 13
  · obtain ⟨o, ho, hd2⟩ := operand_eq ns (p + 1) rest (le500 1 hp)
    rcases he with rfl | rfl | rfl
    · exact ⟨.echo o, p + 2, ho, (pq p _).1, (pq p _).2, by simp [F_law_row, T_law_row, hd, hd2, Row.enc, Row.op, Row.to, Row.pa, Row.pb, isInt, isStr, nodupK, hasK, keyEq, idxD, sameKind, findK]⟩
    · exact ⟨.throw o, p + 2, ho, (pq p _).1, (pq p _).2, by simp [F_law_row, T_law_row, hd, hd2, Row.enc, Row.op, Row.to, Row.pa, Row.pb, isInt, isStr, nodupK, hasK, keyEq, idxD, sameKind, findK]⟩
    · exact ⟨.ret o, p + 2, ho, (pq p _).1, (pq p _).2, by simp [F_law_row, T_law_row, hd, hd2, Row.enc, Row.op, Row.to, Row.pa, Row.pb, isInt, isStr, nodupK, hasK, keyEq, idxD, sameKind, findK]⟩
  have n10 : ¬ (10 : Int) = (v : Int) := fun q => he (.inl (Int.ofNat_inj.mp q).symm)
  have n12 : ¬ (12 : Int) = (v : Int) := fun q => he (.inr (.inl (Int.ofNat_inj.mp q).symm))
  have n13 : ¬ (13 : Int) = (v : Int) := fun q => he (.inr (.inr (Int.ofNat_inj.mp q).symm))
  by_cases h7 : v < 7
  · obtain ⟨w, hw, hd2⟩ := draw_eq ns (p + 1) 3 rest (le500 1 hp) (by decide) (by decide)
    simp only [Int.cast_ofNat_Int] at hd2
    have i7 : (v : Int) < 7 := Int.ofNat_lt.mpr h7
    have e : ((1 + w : Nat) : Int) = 1 + (w : Int) := rfl
    have hw1 : 1 ≤ 1 + w ∧ 1 + w ≤ 3 := ⟨Nat.le_add_right 1 w, Nat.add_le_add_left (Nat.le_of_lt_succ hw) 1⟩
    by_cases h2 : v < 2
    · have i2 : (v : Int) < 2 := Int.ofNat_lt.mpr h2
      exact ⟨.array (1 + w), p + 2, hw1, (pq p _).1, (pq p _).2, by simp [F_law_row, T_law_row, hd, hd2, h13, n10, n12, n13, i7, i2, Row.enc, Row.op, Row.to, Row.pa, Row.pb, e]⟩
    · have i2 : ¬ (v : Int) < 2 := fun q => h2 (Int.ofNat_lt.mp q)
      obtain ⟨o, ho, hd3⟩ := operand_eq ns (p + 2) rest (le500 2 hp)
      by_cases h5 : v < 5
      · have i5 : (v : Int) < 5 := Int.ofNat_lt.mpr h5
        exact ⟨.move (1 + w) o, p + 3, ⟨hw1.1, hw1.2, ho⟩, (pq p _).1, (pq p _).2, by simp [F_law_row, T_law_row, hd, hd2, hd3, h13, n10, n12, n13, i7, i2, i5, Row.enc, Row.op, Row.to, Row.pa, Row.pb, e]⟩
      · have i5 : ¬ (v : Int) < 5 := fun q => h5 (Int.ofNat_lt.mp q)
        exact ⟨.bool (1 + w) o, p + 3, ⟨hw1.1, hw1.2, ho⟩, (pq p _).1, (pq p _).2, by simp [F_law_row, T_law_row, hd, hd2, hd3, h13, n10, n12, n13, i7, i2, i5, Row.enc, Row.op, Row.to, Row.pa, Row.pb, e]⟩
  have i7 : ¬ (v : Int) < 7 := fun q => h7 (Int.ofNat_lt.mp q)
  obtain ⟨w, hw, hd2⟩ := draw_eq ns (p + 1) 4 rest (le500 1 hp) (by decide) (by decide)
  have hw := Nat.le_of_lt_succ hw
  simp only [Int.cast_ofNat_Int] at hd2
  obtain ⟨o, ho, hd3⟩ := operand_eq ns (p + 2) rest (le500 2 hp)
  obtain ⟨o', ho', hd4⟩ := operand_eq ns (p + 3) rest (le500 3 hp)
  by_cases h7 : v = 7
  · subst h7
    exact ⟨.binary w o o', p + 4, ⟨hw, ho, ho'⟩, (pq p _).1, (pq p _).2, by simp [F_law_row, T_law_row, hd, hd2, hd3, hd4, Row.enc, Row.op, Row.to, Row.pa, Row.pb]⟩
  by_cases h11 : v = 11
  · subst h11
    exact ⟨.lelem (some w) o, p + 3, ⟨fun k hk => by cases hk; exact hw, ho⟩, (pq p _).1, (pq p _).2, by simp [F_law_row, T_law_row, hd, hd2, hd3, Row.enc, Row.op, Row.to, Row.pa, Row.pb, zeroD]⟩
  have n7 : ¬ (v : Int) = 7 := fun q => h7 (Int.ofNat_inj.mp q)
  have n11 : ¬ (v : Int) = 11 := fun q => h11 (Int.ofNat_inj.mp q)
  exact ⟨.write w o o', p + 4, ⟨hw, ho, ho'⟩, (pq p _).1, (pq p _).2, by simp [F_law_row, T_law_row, hd, hd2, hd3, hd4, h13, n10, n12, n13, i7, n7, n11, Row.enc, Row.op, Row.to, Row.pa, Row.pb, wD]⟩

@[simp high] theorem dm_get1 (p : Nat) (rest l : Mem) : (dm p (rest ++ l))[rest.length + 1]? = l[0]? := by
  have : dm p (rest ++ l) = dm p rest ++ l := rfl
  rw [this, ← dm_len p rest, mget0]
@[local simp] theorem dm_set1 (p : Nat) (rest l : Mem) (x : Option Cell) : (dm p (rest ++ l)).set (rest.length + 1) x = dm p (rest ++ l.set 0 x) := by
  have : dm p (rest ++ l) = dm p rest ++ l := rfl
  rw [this, ← dm_len p rest, mset0]; rfl
@[local simp] theorem dm_take1 (p : Nat) (rest l : Mem) : (dm p (rest ++ l)).take (rest.length + 1) = dm p rest := by
  have : dm p (rest ++ l) = dm p rest ++ l := rfl
  rw [this, ← dm_len p rest, mtake]

noncomputable def TryOk (many : Nat) (t : Try) : Prop := t.first < t.behind ∧ t.behind ≤ t.fin ∧ t.fin ≤ many ∧ t.behind + 1 ≤ many ∧ ∀ k, t.ret = some k → k ≤ 3

theorem try_ok {many f b e : Nat} (hf : f < many - 1) (hb : b < many - 1 - f) (he : e < many - (f + 1 + b) + 1) : f < f + 1 + b ∧ f + 1 + b ≤ f + 1 + b + e ∧ f + 1 + b + e ≤ many ∧ f + 1 + b + 1 ≤ many := by lia
theorem try_int {many f b : Nat} (hf : f < many - 1) (hb : b < many - 1 - f) : ((many - 1 : Nat) : Int) = (many : Int) - 1 ∧ ((many - 1 - f : Nat) : Int) = (many : Int) - 1 - (f : Int) ∧ ((many - (f + 1 + b) + 1 : Nat) : Int) = (many : Int) - ((f : Int) + 1 + (b : Int)) + 1 := by lia
theorem try_pos {many : Nat} (hm2 : 2 ≤ many) (hm : many ≤ 900) : 0 < many - 1 ∧ many - 1 ≤ 1000 ∧ ∀ k, k + 1 ≤ 1000 ∨ 900 < k ∨ many < k := by lia
theorem loop_bd {p j : Nat} (h : p + 5 * (j + 1) ≤ 400) : p ≤ 400 ∧ ∀ k, k ≤ 5 → p + k + 5 * j ≤ 400 ∧ p + k + 5 * j ≤ p + 5 * (j + 1) := by lia
noncomputable def TrysR (ns : List Int) (many : Nat) (rest : Mem) (j s p : Nat) (ts : List Try) (x4 x5 x6 x7 : D) : Prop :=
    ∃ (ts' : List Try) (q : Nat) (y4 y5 y6 y7 : D), (∀ t ∈ ts', TryOk many t) ∧ ts'.length = ts.length + j ∧ p ≤ q ∧ q ≤ p + 5 * j ∧
      forL (asgT (.v 4)) (exs (T_law_trys.body 1)) (nats (List.range' s j)) [.lst (ns.map .int), .cell 0, .int (many : Nat), .cell (rest.length + 1), x4, x5, x6, x7] (dm p (rest ++ [some (.lst (ts.map Try.enc))]))
        = some (.next, [.lst (ns.map .int), .cell 0, .int (many : Nat), .cell (rest.length + 1), y4, y5, y6, y7], dm q (rest ++ [some (.lst (ts'.map Try.enc))]))
theorem trys_loop (ns : List Int) (many : Nat) (rest : Mem) (hm2 : 2 ≤ many) (hm : many ≤ 900) (j : Nat) : ∀ (s p : Nat) (ts : List Try) (x4 x5 x6 x7 : D), p + 5 * j ≤ 400 → ts.length + j ≤ 900 → (∀ t ∈ ts, TryOk many t) → TrysR ns many rest j s p ts x4 x5 x6 x7 := by
  induction j with
  | zero => exact fun s p ts x4 x5 x6 x7 _ _ h => ⟨ts, p, x4, x5, x6, x7, h, rfl, Nat.le_refl _, Nat.le_refl _, rfl⟩
  | succ j ih =>
    intro s p ts x4 x5 x6 x7 hp hb h
    obtain ⟨h4, hq⟩ := loop_bd hp
    have hA := big_lt ts.length (Nat.le_trans (Nat.le_trans (Nat.le_add_right _ _) hb) (by decide))
    obtain ⟨f, hf, d1⟩ := draw_eq ns p (many - 1) (rest ++ [some (.lst (ts.map Try.enc))]) (le500 0 h4) (Nat.sub_pos_of_lt hm2) (Nat.le_trans (Nat.sub_le _ _) (Nat.le_trans hm (by decide)))
    obtain ⟨b, hbb, d2⟩ := draw_eq ns (p + 1) (many - 1 - f) (rest ++ [some (.lst (ts.map Try.enc))]) (le500 1 h4) (Nat.sub_pos_of_lt hf) (Nat.le_trans (Nat.le_trans (Nat.sub_le _ _) (Nat.sub_le _ _)) (Nat.le_trans hm (by decide)))
    obtain ⟨e, he, d3⟩ := draw_eq ns (p + 2) (many - (f + 1 + b) + 1) (rest ++ [some (.lst (ts.map Try.enc))]) (le500 2 h4) (Nat.succ_pos _) (Nat.le_trans (Nat.succ_le_succ (Nat.le_trans (Nat.sub_le _ _) hm)) (by decide))
    obtain ⟨w, hw, d4⟩ := draw_eq ns (p + 3) 2 (rest ++ [some (.lst (ts.map Try.enc))]) (le500 3 h4) (by decide) (by decide)
    obtain ⟨u, hu, d5⟩ := draw_eq ns (p + 4) 4 (rest ++ [some (.lst (ts.map Try.enc))]) (le500 4 h4) (by decide) (by decide)
    obtain ⟨z1, z2, z3⟩ := try_int hf hbb
    rw [z1] at d1
    rw [z2] at d2
    rw [z3] at d3
    simp only [Int.cast_ofNat_Int] at d4 d5
    obtain ⟨o1, o2, o3, o4⟩ := try_ok hf hbb he
    have key : ∀ (t : Try) (k : Nat), k ≤ 5 → TryOk many t → exs (T_law_trys.body 1) [.lst (ns.map .int), .cell 0, .int (many : Nat), .cell (rest.length + 1), .int (s : Nat), x5, x6, x7] (dm p (rest ++ [some (.lst (ts.map Try.enc))]))
          = some (.next, [.lst (ns.map .int), .cell 0, .int (many : Nat), .cell (rest.length + 1), .int (s : Nat), .int (f : Nat), .int (f + 1 + b : Nat), .int (f + 1 + b + e : Nat)], dm (p + k) (rest ++ [some (.lst ((ts ++ [t]).map Try.enc))])) → TrysR ns many rest (j + 1) s p ts x4 x5 x6 x7 := fun t k hk ht hbody => by
      obtain ⟨ts', q, y4, y5, y6, y7, i1, i2, i3, i4, e⟩ := ih (s + 1) (p + k) (ts ++ [t]) (.int (s : Nat)) (.int (f : Nat)) (.int (f + 1 + b : Nat)) (.int (f + 1 + b + e : Nat)) (hq k hk).1 (by rw [List.length_append, Nat.add_assoc, Nat.add_comm [t].length]; exact hb)
        (fun t' h' => (List.mem_append.mp h').elim (h t') fun h' => List.mem_singleton.mp h' ▸ ht)
      refine ⟨ts', q, y4, y5, y6, y7, i1, ?_, Nat.le_trans (Nat.le_add_right _ _) i3, Nat.le_trans i4 (hq k hk).2, ?_⟩
      · rw [i2, List.length_append, Nat.add_assoc, Nat.add_comm [t].length]; rfl
      · rw [range'_nats, forL_step rfl hbody]; exact e
    rcases lt2 hw with rfl | rfl
    · exact key ⟨f, f + 1 + b, f + 1 + b + e, none⟩ 4 (by decide) ⟨o1, o2, o3, o4, fun _ q => nomatch q⟩ (by
        simp [Try.enc, Try.catchD, Try.finalD, d1, d2, d3, d4, d5, lstCell, appD, hA, T_law_trys, Ss.body, Ss.drop, Ss.drop1, Ss.hd, S.b])
    · exact key ⟨f, f + 1 + b, f + 1 + b + e, some u⟩ 5 (by decide) ⟨o1, o2, o3, o4, fun _ q => by cases q; exact Nat.le_of_lt_succ hu⟩ (by
        simp [Try.enc, Try.catchD, Try.finalD, d1, d2, d3, d4, d5, lstCell, appD, hA, T_law_trys, Ss.body, Ss.drop, Ss.drop1, Ss.hd, S.b])

theorem trys_eq (ns : List Int) (p many : Nat) (rest : Mem) (hm2 : 2 ≤ many) (hm : many ≤ 900) (hp : p ≤ 300) :
    ∃ (ts : List Try) (q : Nat), (∀ t ∈ ts, TryOk many t) ∧ ts.length ≤ 2 ∧ p ≤ q ∧ q ≤ p + 11 ∧
      F_law_trys [.lst (ns.map .int), .cell 0, .int (many : Nat)] (dm p rest) = some (.lst (ts.map Try.enc), dm q rest) := by
  obtain ⟨v, hv, d⟩ := draw_eq ns p 3 (rest ++ [some (.lst [])]) (le500 0 (Nat.le_trans hp (by decide))) (by decide) (by decide)
  have hv2 := Nat.le_of_lt_succ hv
  have h5 : 5 * v ≤ 10 := Nat.mul_le_mul_left 5 hv2
  have bd : p + 1 + 5 * v ≤ p + 11 := by rw [Nat.add_assoc]; exact Nat.add_le_add_left (Nat.add_le_add_left h5 1) p
  obtain ⟨ts, q, y4, y5, y6, y7, h1, h2, h3, h4, L⟩ := trys_loop ns many rest hm2 hm v 0 (p + 1) [] .undef .undef .undef .undef (Nat.le_trans bd (Nat.le_trans (Nat.add_le_add_right hp 11) (by decide))) (Nat.le_trans (Nat.le_of_eq (Nat.zero_add v)) (Nat.le_trans hv2 (by decide))) (fun _ q => nomatch q)
  simp only [Int.cast_ofNat_Int] at d
  refine ⟨ts, q, h1, Nat.le_trans (Nat.le_of_eq (h2.trans (Nat.zero_add v))) hv2, Nat.le_trans (Nat.le_succ p) h3, Nat.le_trans h4 bd, ?_⟩
  rw [← List.range_eq_range'] at L
  have hb := big_le v (Nat.le_trans hv2 (by decide))
  have e2 : (v : Int).natAbs = v := Int.natAbs_natCast v
  have r1 : rngItems 0 (v : Int) 1 = some (nats (List.range v)) := rngItems_up _
  simp only [T_law_trys, Ss.body, Ss.drop, Ss.drop1, Ss.hd, S.b, List.map_nil] at L
  simp [F_law_trys, T_law_trys, d, e2, hb, r1, L, freezeD]

theorem rows_comp' (ns : List Int) (many : Nat) (rest : Mem) (hm : many ≤ 900) (env : List D) (he : env.length = 15) (h0 : env[0]? = some (.lst (ns.map .int))) (h1 : env[1]? = some (.cell 0)) (h2 : env[2]? = some (.int (many : Nat))) (j : Nat) : ∀ (s p : Nat), p + 5 * j ≤ 400 →
    ∃ (rs : List Row) (q : Nat), (∀ r ∈ rs, r.Ok many) ∧ rs.length = j ∧ p ≤ q ∧ q ≤ p + 5 * j ∧
      compL (asgG env (.v 14)) (tstAnd .nil) (evG (.done (.call "_law_row" F_law_row (.cons (.var 0) (.cons (.var 1) (.cons (.var 2) .nil)))))) (nats (List.range' s j)) (dm p rest) = some (rs.map Row.enc, dm q rest) := by
  induction j with
  | zero => exact fun s p _ => ⟨[], p, (fun _ h => nomatch h), rfl, Nat.le_refl _, Nat.le_refl _, rfl⟩
  | succ j ih =>
    intro s p hp
    obtain ⟨h4, hq⟩ := loop_bd hp
    obtain ⟨r, q, r1, r2, r3, r4⟩ := row_eq' ns p many rest h4 hm
    obtain ⟨k, rfl⟩ := Nat.exists_eq_add_of_le r2
    obtain ⟨b1, b2⟩ := hq k (Nat.le_of_add_le_add_left r3)
    obtain ⟨rs, q', i1, i2, i3, i4, ih⟩ := ih (s + 1) (p + k) b1
    refine ⟨r :: rs, q', List.forall_mem_cons.mpr ⟨r1, i1⟩, congrArg (· + 1) i2, Nat.le_trans r2 i3, Nat.le_trans i4 b2, ?_⟩
    rw [range'_nats]
    refine compL_step (l := [r.enc]) rfl ?_ ih
    simp [h0, h1, h2, r4]

theorem tape_comp (ns : List Int) (rest : Mem) (env : List D) (he : env.length = 15) (h0 : env[0]? = some (.lst (ns.map .int))) (h1 : env[1]? = some (.cell 0)) (j : Nat) : ∀ (s p : Nat), p + j ≤ 400 →
    ∃ (vs : List D) (q : Nat), (∀ v ∈ vs, VOk v) ∧ vs.length = j ∧
      compL (asgG env (.v 14)) (tstAnd .nil) (evG (.done (.idx (.lst (.cons (.cst .none) (.cons (.cst (.bool true)) (.cons (.cst (.str "y")) (.cons (.cst .none) .nil))))) (.call "_law_draw" F_law_draw (.cons (.var 0) (.cons (.var 1) (.cons (.cst (.int 4)) .nil))))))) (nats (List.range' s j)) (dm p rest) = some (vs, dm q rest) := by
  induction j with
  | zero => exact fun s p _ => ⟨[], p, (fun _ h => nomatch h), rfl, rfl⟩
  | succ j ih =>
    intro s p hp
    have hp4 : p ≤ 400 := Nat.le_trans (Nat.le_add_right _ _) hp
    obtain ⟨v, hv, d⟩ := draw_eq ns p 4 rest (le500 0 hp4) (by decide) (by decide)
    simp only [Int.cast_ofNat_Int] at d
    obtain ⟨vs, q, i1, i2, ih⟩ := ih (s + 1) (p + 1) (by rw [Nat.add_assoc, Nat.add_comm 1]; exact hp)
    have key : ∃ x : D, VOk x ∧ at? [D.none, .bool true, .str (Str.ofString "y"), .none] (v : Int) = some x := by
      rcases lt4 hv with rfl | rfl | rfl | rfl
      · exact ⟨.none, trivial, rfl⟩
      · exact ⟨.bool true, trivial, rfl⟩
      · exact ⟨.str "y", by simp only [VOk]; decide, rfl⟩
      · exact ⟨.none, trivial, rfl⟩
    obtain ⟨x, hx, hat⟩ := key
    refine ⟨x :: vs, q, List.forall_mem_cons.mpr ⟨hx, i1⟩, congrArg (· + 1) i2, ?_⟩
    rw [range'_nats]
    refine compL_step (l := [x]) rfl ?_ ih
    simp [-at?_nat, h0, h1, d, hat]

set_option maxRecDepth 100000
open PySem

theorem num_mono (k : Nat → Bool) {p q : Nat} (h : p ≤ q) : num k p ≤ num k q := by
  induction q with
  | zero => have : p = 0 := by lia
            subst this; exact Nat.le_refl _
  | succ q ih =>
    rcases Nat.lt_or_ge p (q + 1) with h' | h'
    · have := ih (by lia); rw [num]; lia
    · have : p = q + 1 := by lia
      subst this; exact Nat.le_refl _
theorem num_succ (k : Nat → Bool) {p : Nat} (h : k p = true) : num k (p + 1) = num k p + 1 := by rw [num, h]; rfl
theorem num_skip (k : Nat → Bool) {p : Nat} (h : k p = false) : num k (p + 1) = num k p := by rw [num, h]; rfl
theorem num_lt (k : Nat → Bool) {p q : Nat} (h : k p = true) (hq : p < q) : num k p < num k q := by
  have := num_mono k (show p + 1 ≤ q by lia); rw [num_succ k h] at this; lia
theorem num_lt_iff (k : Nat → Bool) {p q : Nat} (h : k p = true) : num k p < num k q ↔ p < q := by
  refine ⟨fun h' => ?_, num_lt k h⟩
  rcases Nat.lt_or_ge p q with h2 | h2
  · exact h2
  · have := num_mono k h2; lia
theorem num_le_iff (k : Nat → Bool) {p q : Nat} (h : k p = true) : num k q ≤ num k p ↔ q ≤ p := by
  refine ⟨fun h' => ?_, num_mono k⟩
  rcases Nat.lt_or_ge p q with h2 | h2
  · have := num_lt k h h2; lia
  · exact h2
theorem pick_get (k : Nat → Bool) (f : Nat → Row) : ∀ n p, p < n → k p = true → (pick k f n)[num k p]? = some (f p)
  | 0, p, h, _ => by lia
  | n + 1, p, h, hk => by
    rw [pick]
    rcases Nat.lt_or_ge p n with h' | h'
    · rw [List.getElem?_append_left (by rw [pick_len]; exact num_lt k hk h')]
      exact pick_get k f n p h' hk
    · have : p = n := by lia
      subst this
      rw [List.getElem?_append_right (by rw [pick_len]; exact Nat.le_refl _), pick_len, hk]; simp
theorem num_inv (k : Nat → Bool) : ∀ n q, q < num k n → ∃ p, p < n ∧ k p = true ∧ num k p = q
  | 0, q, h => by simp [num] at h
  | n + 1, q, h => by
    by_cases hq : q < num k n
    · obtain ⟨p, h1, h2, h3⟩ := num_inv k n q hq; exact ⟨p, by lia, h2, h3⟩
    · cases hk : k n
      · rw [num_skip k hk] at h; lia
      · rw [num_succ k hk] at h; exact ⟨n, by lia, hk, by lia⟩

theorem thin_len (c : Cod) : c.thin.rows.length = c.rows.length := by simp [Cod.thin]
theorem wd_rows (c : Cod) : (wd c).rows = (pick (keepB c) c.thin.row c.rows.length).map (Row.modT (num (keepB c))) := by
  simp only [wd, Cod.clean, keptT, thin_len]
theorem wd_trys (c : Cod) : (wd c).trys = (c.trys.map (Try.map (num (keepB c)))).filter (fun t => decide (t.first < t.fin)) := rfl
theorem wd_lives (c : Cod) : (wd c).lives = (c.lives.map (Life.map (num (keepB c)))).filter (fun t => decide (t.first < t.behind)) := rfl
theorem wd_len (c : Cod) : (wd c).rows.length = num (keepB c) c.rows.length := by
  rw [wd_rows, List.length_map, pick_len]
/-- the row as it is kept -/
noncomputable def Cod.kr (c : Cod) (p : Nat) : Row := ((c.row p).noTo (usedB c)).modT (num (keepB c))
theorem wd_get (c : Cod) {p : Nat} (hp : p < c.rows.length) (hk : keepB c p = true) : (wd c).rows[num (keepB c) p]? = some (c.kr p) := by
  rw [wd_rows, List.getElem?_map, pick_get _ _ _ _ hp hk, thin_row c hp]; rfl

theorem keep_live {c : Cod} {p : Nat} (h : keepB c p = true) : Live c p := by
  unfold keepB liveB at h
  simp only [Bool.and_eq_true, decide_eq_true_eq] at h
  exact h.1
theorem mute_soft {r : Row} (h : r.mute = true) : r.soft = true := by cases r <;> simp [Row.mute] at h <;> rfl
theorem mute_silent {r : Row} (h : r.mute = true) : r.speaks = false := by
  cases r <;> simp [Row.mute] at h <;> simp [Row.speaks, h]
theorem soft_falls {r : Row} (h : r.soft = true) : r.falls = true := by cases r <;> simp [Row.soft] at h <;> rfl
set_option tactic.hygienic true in
theorem drop_why {c : Cod} {p : Nat} (hl : Live c p) (h : keepB c p = false) : (c.row p).mute = true ∧ ∃ t, (c.row p).to = some t ∧ ¬ Used c t := by
  unfold keepB at h
  have : liveB c p = true := by simp [liveB, hl]
  rw [this] at h
  simp only [Bool.true_and, Bool.not_eq_false', Bool.and_eq_true] at h
  refine ⟨h.2, ?_⟩
  have h1 := h.1
  unfold Row.unread at h1
  split at h1
  · cases h1
  · rename_i t ht
    refine ⟨t, ht, ?_⟩
    simpa [usedB] using h1
theorem Live.row {c : Cod} {p : Nat} (h : Live c p) : c.rows[p]? = some (c.row p) := c.row_get h.lt
theorem Live.fall {c : Cod} {p : Nat} (h : Live c p) (hf : (c.row p).falls = true) (hp : p + 1 < c.rows.length) : Live c (p + 1) :=
  .step h h.row (by unfold ways; rw [hf]; simp) hp
theorem Live.jump {c : Cod} {p t : Nat} (h : Live c p) (ht : (c.row p).target = some t) (hp : t < c.rows.length) : Live c t :=
  .step h h.row (by unfold ways; rw [ht]; simp) hp
theorem Live.hand {c : Cod} {p : Nat} {t : Try} (h : Live c p) (ht : c.hand p = some t) (hp : t.behind < c.rows.length) : Live c t.behind :=
  .step h h.row (by unfold ways; rw [ht]; simp) hp
theorem soft_next {c : Cod} (W : WF c) {p : Nat} (h : Live c p) (hs : (c.row p).soft = true) : p + 1 < c.rows.length := by
  rcases Nat.lt_or_ge (p + 1) c.rows.length with h' | h'
  · exact h'
  · have hlt := h.lt
    have : c.rows.length - 1 = p := by lia
    have := W.last (c.row p) (by rw [this]; exact h.row)
    rw [hs] at this; cases this
theorem exists_kept {c : Cod} (W : WF c) : ∀ j p, p + j = c.rows.length → Live c p → ∃ q, p ≤ q ∧ q < c.rows.length ∧ keepB c q = true
  | 0, p, h, hl => by have := hl.lt; lia
  | j + 1, p, h, hl => by
    cases hk : keepB c p
    · obtain ⟨h1, _⟩ := drop_why hl hk
      have h2 := soft_next W hl (mute_soft h1)
      obtain ⟨q, h3, h4, h5⟩ := exists_kept W j (p + 1) (by lia) (hl.fall (soft_falls (mute_soft h1)) h2)
      exact ⟨q, by lia, h4, h5⟩
    · exact ⟨p, Nat.le_refl _, hl.lt, hk⟩
theorem live_num {c : Cod} (W : WF c) {p : Nat} (h : Live c p) : num (keepB c) p < (wd c).rows.length := by
  obtain ⟨q, h1, h2, h3⟩ := exists_kept W (c.rows.length - p) p (by have := h.lt; lia) h
  rw [wd_len]
  have := num_mono (keepB c) h1
  have := num_lt (keepB c) h3 h2
  lia

theorem handR_map (N : Nat → Nat) (g : Try → Bool) (p q : Nat) : ∀ ts : List Try, (∀ t ∈ ts, (t.map N).covers q = t.covers p ∧ (t.covers p = true → g (t.map N) = true)) →
    handR ((ts.map (Try.map N)).filter g) q = (handR ts p).map (Try.map N)
  | [], _ => rfl
  | t :: ts, h => by
    have ih := handR_map N g p q ts (fun t' h' => h t' (List.mem_cons_of_mem _ h'))
    obtain ⟨h1, h2⟩ := h t (by simp)
    rw [List.map_cons, List.filter_cons]
    cases hc : t.covers p
    · have e1 : handR (t :: ts) p = handR ts p := by rw [handR, if_neg (by rw [hc]; simp)]
      rw [e1]
      split
      · have e2 : ∀ l, handR (t.map N :: l) q = handR l q := fun l => by rw [handR, if_neg (by rw [h1, hc]; simp)]
        rw [e2]; exact ih
      · exact ih
    · have e1 : handR (t :: ts) p = some t := by rw [handR, if_pos hc]
      have e2 : ∀ l, handR (t.map N :: l) q = some (t.map N) := fun l => by rw [handR, if_pos (by rw [h1, hc])]
      rw [if_pos (h2 hc), e1, e2]; rfl
theorem wd_hand {c : Cod} (W : WF c) {p : Nat} (hk : keepB c p = true) : (wd c).hand (num (keepB c) p) = (c.hand p).map (Try.map (num (keepB c))) := by
  unfold Cod.hand
  rw [wd_trys, ← List.filter_reverse, ← List.map_reverse]
  apply handR_map
  intro t ht
  have hW := W.trys t (by simpa using ht)
  have e : (t.map (num (keepB c))).covers (num (keepB c) p) = t.covers p := by
    simp only [Try.covers, Try.map, num_lt_iff _ hk, num_le_iff _ hk]
  refine ⟨e, fun hc => ?_⟩
  simp only [Try.covers, Bool.and_eq_true, decide_eq_true_eq] at hc
  have h1 := (num_le_iff (keepB c) hk).mpr hc.1
  have h2 := (num_lt_iff (keepB c) hk).mpr hc.2
  have h3 := num_mono (keepB c) hW.2.1
  exact decide_eq_true (show num (keepB c) t.first < num (keepB c) t.fin by lia)

theorem noTo_ok {n : Nat} {r : Row} (u : Nat → Bool) (h : r.Ok n) : (r.noTo u).Ok n := by
  unfold Row.noTo; split
  · split
    · exact h
    · exact ⟨(fun k hk => by cases hk), h.2⟩
  · exact h
theorem modT_ok {n n' : Nat} {r : Row} (N : Nat → Nat) (h : r.Ok n) (hN : ∀ t, t ≤ n → N t ≤ n') : (r.modT N).Ok n' := by
  cases r <;> simp only [Row.modT, Row.target, Row.setT, Row.Ok] at h ⊢ <;> first | exact h | exact hN _ h | exact ⟨h.1, h.2.1, hN _ h.2.2⟩
theorem kr_soft (c : Cod) (p : Nat) : (c.kr p).soft = (c.row p).soft := by
  unfold Cod.kr
  cases c.row p with
  | lelem to a => cases to <;> simp only [Row.noTo] <;> (try split) <;> rfl
  | _ => rfl
theorem row_ok {c : Cod} (W : WF c) {p : Nat} (hp : p < c.rows.length) : (c.row p).Ok c.rows.length := W.rows _ (List.mem_of_getElem? (c.row_get hp))
theorem kr_ok {c : Cod} (W : WF c) {p : Nat} (hp : p < c.rows.length) : (c.kr p).Ok (wd c).rows.length :=
  modT_ok _ (noTo_ok _ (row_ok W hp)) (fun t ht => by rw [wd_len]; exact num_mono _ ht)

theorem wd_wf {c : Cod} (W : WF c) : WF (wd c) where
  pos := by
    have := live_num W (.zero W.pos); lia
  len := by rw [wd_len]; have := num_le (keepB c) c.rows.length; have := W.len; lia
  rows := by
    intro r hr
    obtain ⟨i, hi⟩ := List.mem_iff_getElem?.mp hr
    have hlt := get_lt hi
    rw [wd_len] at hlt
    obtain ⟨p, h1, h2, h3⟩ := num_inv (keepB c) _ i hlt
    subst h3
    rw [wd_get c h1 h2] at hi; cases hi
    exact kr_ok W h1
  last := by
    intro r hr
    have hlt := get_lt hr
    rw [wd_len] at hlt hr
    obtain ⟨p, h1, h2, h3⟩ := num_inv (keepB c) _ _ hlt
    rw [← h3, wd_get c h1 h2] at hr; cases hr
    rw [kr_soft]
    cases hs : (c.row p).soft
    · rfl
    · have hl := keep_live h2
      have hn := soft_next W hl hs
      have := live_num W (hl.fall (soft_falls hs) hn)
      rw [wd_len, num_succ _ h2] at this
      lia
  trys := by
    intro t ht
    rw [wd_trys, List.mem_filter, List.mem_map] at ht
    obtain ⟨⟨t', h1, rfl⟩, _⟩ := ht
    obtain ⟨w1, w2, w3, w4⟩ := W.trys t' h1
    refine ⟨num_mono _ w1, num_mono _ w2, ?_, w4⟩
    rw [wd_len]; exact num_mono _ w3
  hand := by
    intro q t hq ht
    rw [wd_len] at hq
    obtain ⟨p, h1, h2, h3⟩ := num_inv (keepB c) _ _ hq
    subst h3
    rw [wd_hand W h2] at ht
    cases hh : c.hand p with
    | none => rw [hh] at ht; cases ht
    | some t' =>
      rw [hh] at ht; cases ht
      exact live_num W ((keep_live h2).hand hh (W.hand p t' h1 hh))
  lives := by
    intro l hl
    rw [wd_lives, List.mem_filter, List.mem_map] at hl
    obtain ⟨⟨l', h1, rfl⟩, _⟩ := hl
    obtain ⟨w1, w2, w3⟩ := W.lives l' h1
    refine ⟨num_mono _ w1, ?_, w3⟩
    rw [wd_len]; exact num_mono _ w2
  nt := by rw [wd_trys]; exact Nat.le_trans (List.length_filter_le ..) (by rw [List.length_map]; exact W.nt)
  nl := by rw [wd_lives]; exact Nat.le_trans (List.length_filter_le ..) (by rw [List.length_map]; exact W.nl)

-- the machine
noncomputable def Agree (c : Cod) (ts ts' : List D) : Prop := ts.length = 4 ∧ ts'.length = 4 ∧ ∀ t, Used c t → ts.getD t .none = ts'.getD t .none
theorem getD_set (l : List D) (k t : Nat) (d : D) : (l.set k d).getD t .none = if k = t ∧ t < l.length then d else l.getD t .none := by
  rw [List.getD_eq_getElem?_getD, List.getD_eq_getElem?_getD, List.getElem?_set]
  by_cases h : k = t
  · subst h
    by_cases h2 : k < l.length
    · simp [h2]
    · simp [h2]
  · simp [h]
theorem Agree.both {c : Cod} {ts ts' : List D} (h : Agree c ts ts') (k : Nat) (d : D) : Agree c (ts.set k d) (ts'.set k d) := by
  refine ⟨by rw [List.length_set]; exact h.1, by rw [List.length_set]; exact h.2.1, fun t ht => ?_⟩
  rw [getD_set, getD_set, h.1, h.2.1]
  split
  · rfl
  · exact h.2.2 t ht
theorem Agree.left {c : Cod} {ts ts' : List D} (h : Agree c ts ts') {k : Nat} (hk : ¬ Used c k) (d : D) : Agree c (ts.set k d) ts' := by
  refine ⟨by rw [List.length_set]; exact h.1, h.2.1, fun t ht => ?_⟩
  rw [getD_set, if_neg (fun e : k = t ∧ t < ts.length => hk (e.1 ▸ ht))]
  exact h.2.2 t ht
theorem valsT_agree {ts ts' : List D} (tape : List D) : ∀ (os : List Opd) (log : List D), (∀ t, .tmp t ∈ os → ts.getD t .none = ts'.getD t .none) → valsT tape ts os log = valsT tape ts' os log
  | [], log, _ => rfl
  | o :: os, log, h => by
    have e : o.val tape ts log = o.val tape ts' log := by
      cases o with
      | tmp k => simp only [Opd.val, h k (by simp)]
      | _ => rfl
    simp only [valsT, e]
    rw [valsT_agree tape os _ (fun t ht => h t (List.mem_cons_of_mem _ ht))]
theorem live_used {c : Cod} {p t : Nat} (h : Live c p) (ht : .tmp t ∈ (c.row p).ops) : Used c t := .inl ⟨p, h, ht⟩

theorem kr_speaks (c : Cod) (p : Nat) : (c.kr p).speaks = (c.row p).speaks := by
  unfold Cod.kr
  cases c.row p with
  | lelem to a => cases to <;> simp only [Row.noTo] <;> (try split) <;> rfl
  | _ => rfl
theorem kr_given {c : Cod} {p : Nat} (hl : Live c p) {ts ts' : List D} (hA : Agree c ts ts') (tape log : List D) : givenT tape ts' (c.kr p) log = givenT tape ts (c.row p) log := by
  have hv : ∀ log, valsT tape ts' (c.row p).ops log = valsT tape ts (c.row p).ops log := fun log => (valsT_agree tape _ log (fun t ht => hA.2.2 t (live_used hl ht))).symm
  unfold Cod.kr
  cases hr : c.row p with
  | lelem to a =>
    rw [hr] at hv
    have e : ∀ to', givenT tape ts' (Row.lelem to' a) log = givenT tape ts (Row.lelem to a) log := by
      intro to'
      have := hv log
      simp only [Row.ops] at this
      simp only [givenT, Row.ops, this, Row.op]
    cases to <;> simp only [Row.noTo]
    · exact e _
    · split <;> exact e _
  | jump t =>
    rw [hr] at hv
    simp only [Row.noTo, Row.modT, Row.target, Row.setT, givenT, Row.ops, valsT, Row.op]
  | jif k a t =>
    rw [hr] at hv
    have := hv log
    simp only [Row.ops] at this
    simp only [Row.noTo, Row.modT, Row.target, Row.setT, givenT, Row.ops, this, Row.op]
  | _ =>
    rw [hr] at hv
    have := hv log
    simp only [Row.ops] at this
    simp only [Row.noTo, Row.modT, Row.target, givenT, Row.ops, this, Row.op]

inductive SimP (c : Cod) : Pl → Pl → Prop
  | thrown : SimP c .thrown .thrown
  | ret : SimP c .ret .ret
  | at {p} : p ≤ c.rows.length → (p < c.rows.length → Live c p) → SimP c (.at p) (.at (num (keepB c) p))

theorem step_sim {c : Cod} (W : WF c) {p : Nat} (hk : keepB c p = true) {ts ts' : List D} (hA : Agree c ts ts') (tape log : List D) :
    SimP c (stepT c tape p (c.row p) log ts).1 (stepT (wd c) tape (num (keepB c) p) (c.kr p) log ts').1 ∧
    (stepT (wd c) tape (num (keepB c) p) (c.kr p) log ts').2.1 = (stepT c tape p (c.row p) log ts).2.1 ∧
    Agree c (stepT c tape p (c.row p) log ts).2.2 (stepT (wd c) tape (num (keepB c) p) (c.kr p) log ts').2.2 := by
  have hl := keep_live hk
  have hp := hl.lt
  have hG := kr_given hl hA tape log
  have hok := row_ok W hp
  have hfall : (c.row p).falls = true → SimP c (.at (p + 1)) (.at (num (keepB c) p + 1)) := by
    intro hf
    rw [← num_succ _ hk]
    exact .at hp (fun h => hl.fall hf h)
  have hh := wd_hand W hk
  have key : ∀ to' : Option Nat, ∀ d : D, ((c.row p).to = to' ∨ (to' = none ∧ ∃ t, (c.row p).to = some t ∧ ¬ Used c t)) →
      Agree c (match (c.row p).to with | none => ts | some k => ts.set k d) (match to' with | none => ts' | some k => ts'.set k d) := by
    intro to' d h
    rcases h with h | ⟨rfl, t, h1, h2⟩
    · rw [h]; cases to' with
      | none => exact hA
      | some k => exact hA.both k d
    · rw [h1]; exact hA.left h2 d
  unfold Cod.kr at hG ⊢
  cases hr : c.row p with
  | jump t =>
    rw [hr] at hok
    exact ⟨.at hok (fun h => hl.jump (by rw [hr]; rfl) h), rfl, hA⟩
  | jif k a t =>
    have hval : a.val tape ts' log = a.val tape ts log := by
      have := valsT_agree (ts := ts) (ts' := ts') tape [a] log (fun t ht => hA.2.2 t (live_used hl (by rw [hr]; exact ht)))
      simp only [valsT, Prod.mk.injEq, List.cons.injEq, and_true] at this
      exact (Prod.ext this.1 this.2).symm
    simp only [Row.noTo, Row.modT, Row.target, Row.setT, stepT, hval]
    refine ⟨?_, trivial, hA⟩
    split
    · rw [hr] at hok
      exact .at hok.2.2 (fun h => hl.jump (by rw [hr]; rfl) h)
    · exact hfall (by rw [hr]; rfl)
  | throw a =>
    rw [hr] at hG
    simp only [Row.noTo, Row.modT, Row.target] at hG ⊢
    simp only [stepT, hG, true_and, thrownT, hh]
    cases hc : c.hand p with
    | none => exact ⟨.thrown, hA⟩
    | some t =>
      have hb := W.hand p t hp hc
      simp only [Option.map_some, Try.map]
      refine ⟨.at (by lia) (fun h => hl.hand hc h), ?_⟩
      cases t.ret with
      | none => exact hA
      | some k => exact hA.both k _
  | ret a =>
    rw [hr] at hG
    simp only [Row.noTo, Row.modT, Row.target] at hG ⊢
    simp only [stepT, hG, true_and]
    exact ⟨.ret, hA⟩
  | lelem to a =>
    rw [hr] at hG key hfall
    cases to with
    | none =>
      simp only [Row.noTo, Row.modT, Row.target] at hG ⊢
      simp only [stepT, hG, true_and]
      exact ⟨hfall rfl, hA⟩
    | some t =>
      simp only [Row.noTo] at hG ⊢
      cases hu : usedB c t
      · rw [hu] at hG
        simp only [Bool.false_eq_true, if_false, Row.modT, Row.target] at hG ⊢
        simp only [stepT, hG, true_and]
        exact ⟨hfall rfl, hA.left (by simpa [usedB] using hu) _⟩
      · rw [hu] at hG
        simp only [if_true, Row.modT, Row.target] at hG ⊢
        simp only [stepT, hG, true_and]
        exact ⟨hfall rfl, hA.both _ _⟩
  | echo a =>
    rw [hr] at hG hfall
    simp only [Row.noTo, Row.modT, Row.target] at hG ⊢
    simp only [stepT, hG, true_and]
    exact ⟨hfall rfl, hA⟩
  | _ =>
    rw [hr] at hG hfall
    simp only [Row.noTo, Row.modT, Row.target] at hG ⊢
    simp only [stepT, hG, true_and]
    exact ⟨hfall rfl, hA.both _ _⟩

theorem silN_sim {c : Cod} {p : Nat} (hk : keepB c p = true) {t0 t0' : D} (h0 : Used c 0 → t0 = t0') (hs : (c.row p).speaks = false) (hok : (c.row p).Ok c.rows.length) : silN t0' (num (keepB c) p) (c.kr p) = num (keepB c) (silN t0 p (c.row p)) := by
  unfold Cod.kr
  cases hr : c.row p with
  | jump t => rfl
  | jif k a t =>
    have e : a.v0 t0' = a.v0 t0 := by
      cases a with
      | tmp j =>
        have : j = 0 := by rw [hr] at hok; exact hok.2.1 j rfl
        subst this
        exact (h0 (live_used (keep_live hk) (by rw [hr]; simp [Row.ops]))).symm
      | _ => rfl
    simp only [Row.noTo, Row.modT, Row.target, Row.setT, silN, e]
    split
    · rfl
    · rw [num_succ _ hk]
  | lelem to a => rw [hr] at hs; cases hs
  | _ => simp only [Row.noTo, Row.modT, Row.target, silN]; rw [num_succ _ hk]
theorem sil_live {c : Cod} {p : Nat} (hl : Live c p) (hok : (c.row p).Ok c.rows.length) (hs : (c.row p).speaks = false) (t0 : D) : silN t0 p (c.row p) ≤ c.rows.length ∧ (silN t0 p (c.row p) < c.rows.length → Live c (silN t0 p (c.row p))) := by
  have hp := hl.lt
  cases hr : c.row p with
  | jump t => rw [hr] at hok; exact ⟨hok, fun h => hl.jump (by rw [hr]; rfl) h⟩
  | jif k a t =>
    simp only [silN]
    split
    · rw [hr] at hok; exact ⟨hok.2.2, fun h => hl.jump (by rw [hr]; rfl) h⟩
    · exact ⟨hp, fun h => hl.fall (by rw [hr]; rfl) h⟩
  | array to => exact ⟨hp, fun h => hl.fall (by rw [hr]; rfl) h⟩
  | move to a => exact ⟨hp, fun h => hl.fall (by rw [hr]; rfl) h⟩
  | bool to a => exact ⟨hp, fun h => hl.fall (by rw [hr]; rfl) h⟩
  | _ => rw [hr] at hs; cases hs
theorem mute_sil {r : Row} (h : r.mute = true) (t0 : D) (p : Nat) : silN t0 p r = p + 1 := by cases r <;> simp [Row.mute] at h <;> rfl

/-- over the dropped rows -/
theorem skip {c : Cod} (W : WF c) (t0 : D) : ∀ j p, p + j = c.rows.length → (p < c.rows.length → Live c p) →
    ∃ q, p ≤ q ∧ q ≤ c.rows.length ∧ num (keepB c) q = num (keepB c) p ∧ (q < c.rows.length → keepB c q = true) ∧ ∀ i, Ends c t0 i q → ∃ i', Ends c t0 i' p
  | 0, p, h, _ => ⟨p, Nat.le_refl _, by lia, rfl, fun h' => by lia, fun i hi => ⟨i, hi⟩⟩
  | j + 1, p, h, hl => by
    have hl := hl (by lia)
    cases hk : keepB c p
    · obtain ⟨h1, _⟩ := drop_why hl hk
      have h2 := soft_next W hl (mute_soft h1)
      obtain ⟨q, q1, q2, q3, q4, q5⟩ := skip W t0 j (p + 1) (by lia) (fun h' => hl.fall (soft_falls (mute_soft h1)) h')
      refine ⟨q, by lia, q2, by rw [q3, num_skip _ hk], q4, fun i hi => ?_⟩
      obtain ⟨i', hi'⟩ := q5 i hi
      exact ⟨i' + 1, .step hl.row (mute_silent h1) (by rw [mute_sil h1]; exact hi')⟩
    · exact ⟨p, Nat.le_refl _, Nat.le_of_lt hl.lt, rfl, fun _ => hk, fun i hi => ⟨i, hi⟩⟩

theorem ends_sim {c : Cod} (W : WF c) {t0 t0' : D} (h0 : Used c 0 → t0 = t0') {j' q' : Nat} (h : Ends (wd c) t0' j' q') : ∀ p, q' = num (keepB c) p → p ≤ c.rows.length → (p < c.rows.length → Live c p) → ∃ j, Ends c t0 j p := by
  induction h with
  | @out q' h =>
    intro p hq hp hl
    obtain ⟨q, q1, q2, q3, q4, q5⟩ := skip W t0 (c.rows.length - p) p (by lia) hl
    rcases Nat.lt_or_ge q c.rows.length with hlt | hge
    · have := num_lt _ (q4 hlt) hlt
      rw [wd_len] at h; lia
    · exact q5 0 (.out hge)
  | @speaks q' r h1 h2 =>
    intro p hq hp hl
    obtain ⟨q, q1, q2, q3, q4, q5⟩ := skip W t0 (c.rows.length - p) p (by lia) hl
    rcases Nat.lt_or_ge q c.rows.length with hlt | hge
    · have hk := q4 hlt
      rw [hq, ← q3, wd_get c hlt hk] at h1; cases h1
      exact q5 0 (.speaks (c.row_get hlt) (by rw [← kr_speaks]; exact h2))
    · exact q5 0 (.out hge)
  | @step q' r j h1 h2 h3 ih =>
    intro p hq hp hl
    obtain ⟨q, q1, q2, q3, q4, q5⟩ := skip W t0 (c.rows.length - p) p (by lia) hl
    rcases Nat.lt_or_ge q c.rows.length with hlt | hge
    · have hk := q4 hlt
      have hql := keep_live hk
      have hok := row_ok W hlt
      rw [hq, ← q3, wd_get c hlt hk] at h1; cases h1
      have hs : (c.row q).speaks = false := by rw [← kr_speaks]; exact h2
      obtain ⟨s1, s2⟩ := sil_live hql hok hs t0
      obtain ⟨i, hi⟩ := ih (silN t0 q (c.row q)) (by rw [hq, ← q3]; exact silN_sim hk h0 hs hok) s1 s2
      exact q5 (i + 1) (.step (c.row_get hlt) hs hi)
    · exact q5 0 (.out hge)

theorem tells_sim {c : Cod} (W : WF c) {tape : List D} {pl : Pl} {log ts : List D} {k : Str} {l : List D} (h : Tells c tape pl log ts k l) : ∀ pl' ts', SimP c pl pl' → Agree c ts ts' → Tells (wd c) tape pl' log ts' k l := by
  induction h with
  | thrown => intro pl' ts' hS hA; cases hS; exact .thrown
  | ret => intro pl' ts' hS hA; cases hS; exact .ret
  | out h =>
    intro pl' ts' hS hA
    cases hS with
    | «at» h1 h2 => exact .out (by rw [wd_len]; exact num_mono _ h)
  | @silent p r log ts k l h1 h2 h3 ih =>
    intro pl' ts' hS hA
    cases hS with
    | «at» g1 g2 =>
      have hp := get_lt h1
      have hl := g2 hp
      have : r = c.row p := by rw [hl.row] at h1; cases h1; rfl
      subst this
      cases hk : keepB c p
      · obtain ⟨m1, t, m2, m3⟩ := drop_why hl hk
        have hn := soft_next W hl (mute_soft m1)
        obtain ⟨e1, e2, e3⟩ := silent_step c tape log ts (p := p) (row_ok W hp) h2
        have hts : Agree c (stepT c tape p (c.row p) log ts).2.2 ts' := by
          cases hr : c.row p <;> rw [hr] at m1 m2 <;> simp [Row.mute] at m1 <;> simp only [Row.to, Option.some.injEq] at m2 <;> subst m2 <;> exact hA.left m3 _
        have := ih (.at (num (keepB c) p)) ts' (by rw [e1, mute_sil m1, ← num_skip _ hk]; exact .at (by lia) (fun h => hl.fall (soft_falls (mute_soft m1)) h)) hts
        rw [e2] at this
        exact this
      · obtain ⟨s1, s2, s3⟩ := step_sim W hk hA tape log
        refine .silent (wd_get c hp hk) (by rw [kr_speaks]; exact h2) ?_
        rw [s2]
        exact ih _ _ s1 s3
  | @cut p r log ts h1 h2 h3 =>
    intro pl' ts' hS hA
    cases hS with
    | «at» g1 g2 =>
      have hp := get_lt h1
      have hl := g2 hp
      have : r = c.row p := by rw [hl.row] at h1; cases h1; rfl
      subst this
      cases hk : keepB c p
      · obtain ⟨m1, _⟩ := drop_why hl hk
        rw [mute_silent m1] at h2; cases h2
      · exact .cut (wd_get c hp hk) (by rw [kr_speaks]; exact h2) h3
  | @speak p r log ts k l h1 h2 h3 h4 ih =>
    intro pl' ts' hS hA
    cases hS with
    | «at» g1 g2 =>
      have hp := get_lt h1
      have hl := g2 hp
      have : r = c.row p := by rw [hl.row] at h1; cases h1; rfl
      subst this
      cases hk : keepB c p
      · obtain ⟨m1, _⟩ := drop_why hl hk
        rw [mute_silent m1] at h2; cases h2
      · obtain ⟨s1, s2, s3⟩ := step_sim W hk hA tape log
        refine .speak (wd_get c hp hk) (by rw [kr_speaks]; exact h2) h3 ?_
        rw [s2]
        exact ih _ _ s1 s3
  | @ever p log ts hE =>
    intro pl' ts' hS hA
    cases hS with
    | «at» g1 g2 =>
      refine .ever fun j hj => ?_
      obtain ⟨i, hi⟩ := ends_sim W (t0 := ts.getD 0 .none) (fun hu => hA.2.2 0 hu) hj p rfl g1 g2
      exact hE i hi

theorem tells_wd {c : Cod} (W : WF c) {tape : List D} {k : Str} {l : List D} (h : Tells c tape (.at 0) [] temps0 k l) : Tells (wd c) tape (.at 0) [] temps0 k l :=
  tells_sim W h _ _ (.at (p := 0) (Nat.zero_le _) (fun h => .zero h)) ⟨rfl, rfl, fun _ _ => rfl⟩

set_option maxRecDepth 100000
open PySem

noncomputable def sumN (l : List Nat) : Nat := l.foldr (· + ·) 0
theorem sumN_append (l m : List Nat) : sumN (l ++ m) = sumN l + sumN m := by
  induction l with
  | nil => simp [sumN]
  | cons a l ih => simp only [sumN, List.cons_append, List.foldr_cons] at *; lia
theorem sumN_cons (a : Nat) (l : List Nat) : sumN (a :: l) = a + sumN l := rfl

-- signs counted
noncomputable def ct (a : Nat) (s : Str) : Nat := s.cps.toList.count a
theorem ct_append (a : Nat) (s t : Str) : ct a (s ++ t) = ct a s + ct a t := by
  simp only [ct, Str.cps_append, Array.toList_append, List.count_append]
theorem ct_join (a : Nat) (h : ct a ", " = 0) : ∀ ts : List Str, ct a (Str.join ", " ts) = sumN (ts.map (ct a))
  | [] => by simp [Str.join, Str.empty, ct, sumN]
  | [x] => by simp [Str.join, sumN]
  | x :: y :: r => by
    have ih := ct_join a h (y :: r)
    rw [show Str.join ", " (x :: y :: r) = x ++ ", " ++ Str.join ", " (y :: r) from rfl, ct_append, ct_append, h, ih]
    simp [sumN_cons]
theorem reprS_of {d : D} {x : PyData} (h : d.py = some x) : reprS d = x.shown := by unfold reprS; rw [h]
theorem pys_shown (ds : List D) (xs : List PyData) (h : D.pys ds = some xs) : PyData.shownAll xs = ds.map reprS :=
  (py_ind (P := fun _ _ => True) (Q := fun ds xs => PyData.shownAll xs = ds.map reprS) trivial (fun _ => trivial) (fun _ => trivial) (fun _ => trivial) (fun _ _ _ _ => trivial) (fun _ _ _ _ => trivial) rfl
    (fun d ds x xs e _ _ ih => by rw [List.map_cons, reprS_of e, ← ih]; rfl)).2 ds xs h
noncomputable def PyOk (d : D) : Prop := ∃ x, d.py = some x
theorem pys_ok : ∀ ds : List D, (∀ d ∈ ds, PyOk d) → ∃ xs, D.pys ds = some xs
  | [], _ => ⟨[], rfl⟩
  | d :: ds, h => by
    obtain ⟨x, hx⟩ := h d (by simp)
    obtain ⟨xs, hxs⟩ := pys_ok ds (fun e he => h e (List.mem_cons_of_mem _ he))
    exact ⟨x :: xs, pys_cons hx hxs⟩
theorem ct_lst (a : Nat) (h1 : ct a ", " = 0) (h2 : ct a "[" = 0) (h3 : ct a "]" = 0) (ds : List D) (h : ∀ d ∈ ds, PyOk d) : ct a (reprS (.lst ds)) = sumN (ds.map fun d => ct a (reprS d)) := by
  obtain ⟨xs, hxs⟩ := pys_ok ds h
  have : reprS (.lst ds) = "[" ++ Str.join ", " (ds.map reprS) ++ "]" := by
    rw [reprS_of (d := .lst ds) (x := .list xs) (congrArg (Option.map PyData.list) hxs)]
    rw [PyData.shown, listText_eq_join, pys_shown ds xs hxs]
  rw [this, ct_append, ct_append, ct_join a h1, h2, h3, List.map_map]
  simp [Function.comp_def]
theorem ct_tup (a : Nat) (h1 : ct a ", " = 0) (h3 : ct a ",)" = 0) (h4 : ct a ")" = 0) (ds : List D) (h : ∀ d ∈ ds, PyOk d) : ct a (reprS (.tup ds)) = ct a "(" + sumN (ds.map fun d => ct a (reprS d)) := by
  obtain ⟨xs, hxs⟩ := pys_ok ds h
  have : reprS (.tup ds) = "(" ++ Str.join ", " (ds.map reprS) ++ ((if (ds.map reprS).length == 1 then ",)" else ")" : String) : Str) := by
    rw [reprS_of (d := .tup ds) (x := .tuple xs) (congrArg (Option.map PyData.tuple) hxs)]
    rw [PyData.shown, tupleText, pys_shown ds xs hxs]
  rw [this, ct_append, ct_append, ct_join a h1, List.map_map]
  have e : ct a ((if (ds.map reprS).length == 1 then ",)" else ")" : String) : Str) = 0 := by split <;> assumption
  rw [e]
  simp [Function.comp_def]
theorem ct_int (a : Nat) (ha : a ≠ 45 ∧ (a < 48 ∨ 57 < a)) (i : Int) : ct a (reprS (.int i)) = 0 := by
  have : reprS (.int i) = ((toString i : String) : Str) := rfl
  rw [this]
  exact List.count_eq_zero.mpr (PyProof.Rows.int_text_free' a ha i)

theorem py_int (i : Int) : PyOk (.int i) := ⟨_, rfl⟩
theorem py_str (i : Str) : PyOk (.str i) := ⟨_, rfl⟩
theorem py_nn : PyOk .none := ⟨_, rfl⟩
theorem py_on (k : Option Nat) : PyOk (onat k) := by cases k <;> exact ⟨_, rfl⟩
theorem py_tup {ds : List D} (h : ∀ d ∈ ds, PyOk d) : PyOk (.tup ds) := by
  obtain ⟨xs, hxs⟩ := pys_ok ds h; exact ⟨.tuple xs, congrArg (Option.map PyData.tuple) hxs⟩
theorem py_lst {ds : List D} (h : ∀ d ∈ ds, PyOk d) : PyOk (.lst ds) := by
  obtain ⟨xs, hxs⟩ := pys_ok ds h; exact ⟨.list xs, congrArg (Option.map PyData.list) hxs⟩
theorem py_opd (a : Opd) : PyOk a.enc := by cases a with
  | lit v => cases v <;> exact ⟨_, rfl⟩
  | tmp k => exact ⟨_, rfl⟩
  | cv k => exact ⟨_, rfl⟩
theorem py_pa (r : Row) : PyOk r.pa := by
  cases r <;> simp only [Row.pa] <;> first | exact py_nn | exact py_opd _ | skip
  · exact py_tup (by simp [py_opd])
  · exact py_tup (by simp only [List.mem_cons, List.not_mem_nil, or_false]; rintro d (rfl | rfl); exact py_opd _; exact ⟨_, rfl⟩)
  · refine py_tup ?_
    simp only [List.mem_cons, List.not_mem_nil, or_false]
    rintro d (rfl | rfl | rfl)
    · exact py_str _
    · exact ⟨_, rfl⟩
    · exact py_opd _
theorem py_pb (r : Row) : PyOk r.pb := by
  cases r <;> simp only [Row.pb] <;> first | exact py_nn | exact py_opd _ | exact py_int _ | exact py_str _
theorem row_parts (r : Row) : ∀ d ∈ [.str r.op, onat r.to, r.pa, r.pb], PyOk d := by
  simp only [List.mem_cons, List.not_mem_nil, or_false]
  rintro d (rfl | rfl | rfl | rfl)
  · exact py_str _
  · exact py_on _
  · exact py_pa _
  · exact py_pb _
theorem try_parts (t : Try) : ∀ d ∈ [.int (t.first : Nat), t.catchD, t.finalD, .int (t.fin : Nat), onat t.ret], PyOk d := by
  simp only [List.mem_cons, List.not_mem_nil, or_false]
  rintro d (rfl | rfl | rfl | rfl | rfl)
  · exact py_int _
  · unfold Try.catchD; split
    · exact py_int _
    · exact py_nn
  · unfold Try.finalD; split
    · exact py_nn
    · exact py_int _
  · exact py_int _
  · exact py_on _
theorem life_parts (t : Life) : ∀ d ∈ [.int (t.temp : Nat), .int (t.first : Nat), .int (t.behind : Nat), .str "call"], PyOk d := by
  simp only [List.mem_cons, List.not_mem_nil, or_false]
  rintro d (rfl | rfl | rfl | rfl) <;> first | exact py_int _ | exact py_str _
theorem row_py (r : Row) : PyOk r.enc := py_tup (row_parts r)
theorem try_py (r : Try) : PyOk r.enc := py_tup (try_parts r)
theorem life_py (r : Life) : PyOk r.enc := py_tup (life_parts r)

/-- the two signs -/
structure Sign (a : Nat) : Prop where
  h1 : ct a ", " = 0
  h2 : ct a "[" = 0
  h3 : ct a "]" = 0
  h4 : ct a ",)" = 0
  h5 : ct a ")" = 0
  d : a ≠ 45 ∧ (a < 48 ∨ 57 < a)
theorem s40 : Sign 40 := ⟨by decide, by decide, by decide, by decide, by decide, by decide⟩
theorem s78 : Sign 78 := ⟨by decide, by decide, by decide, by decide, by decide, by decide⟩
noncomputable def rw' (a : Nat) (r : Row) : Nat := ct a (reprS r.enc)
theorem rw_eq {a : Nat} (s : Sign a) (r : Row) : rw' a r = ct a "(" + (ct a (reprS (.str r.op)) + (ct a (reprS (onat r.to)) + (ct a (reprS r.pa) + ct a (reprS r.pb)))) := by
  unfold rw'
  rw [show r.enc = .tup [.str r.op, onat r.to, r.pa, r.pb] from rfl, ct_tup a s.h1 s.h4 s.h5 _ (row_parts r)]
  simp [sumN]
theorem rw_modT {a : Nat} (s : Sign a) (N : Nat → Nat) (r : Row) : rw' a (r.modT N) = rw' a r := by
  rw [rw_eq s, rw_eq s]
  cases r with
  | jump t => simp only [Row.modT, Row.target, Row.setT, Row.op, Row.to, Row.pa, Row.pb, ct_int a s.d]
  | jif k b t => simp only [Row.modT, Row.target, Row.setT, Row.op, Row.to, Row.pa, Row.pb, ct_int a s.d]
  | _ => rfl
theorem rw_noTo40 (u : Nat → Bool) (r : Row) : rw' 40 (r.noTo u) = rw' 40 r := by
  cases r with
  | lelem to b =>
    cases to with
    | none => rfl
    | some t =>
      simp only [Row.noTo]; split
      · rfl
      · rw [rw_eq s40, rw_eq s40]
        simp only [Row.op, Row.to, Row.pa, Row.pb, onat, ct_int 40 s40.d]; rfl
  | _ => rfl
/-- how many results a row has to lose -/
noncomputable def Row.nt (u : Nat → Bool) (r : Row) : Nat := match r.to with | none => 0 | some t => if r.isLe = true then (if u t = true then 0 else 1) else 0
theorem nt_zero {u : Nat → Bool} {r : Row} (h : r.nt u = 0) : r.noTo u = r := by
  cases r with
  | lelem to b =>
    cases to with
    | none => rfl
    | some t =>
      change (if u t = true then 0 else 1) = 0 at h
      change (if u t = true then _ else _) = _
      cases e : u t
      · rw [e] at h; cases h
      · rfl
  | _ => rfl
theorem rw_noTo78 (u : Nat → Bool) (r : Row) : rw' 78 (r.noTo u) = rw' 78 r + r.nt u := by
  cases r with
  | lelem to b =>
    cases to with
    | none => exact (Nat.add_zero (rw' 78 _)).symm
    | some t =>
      change rw' 78 (if u t = true then _ else _) = _ + (if u t = true then 0 else 1)
      cases e : u t
      · rw [if_neg Bool.false_ne_true, if_neg Bool.false_ne_true, rw_eq s78, rw_eq s78]
        simp only [Row.op, Row.to, Row.pa, Row.pb, onat, ct_int 78 s78.d]
        rw [show ct 78 (reprS .none) = 1 by decide]; lia
      · exact (Nat.add_zero (rw' 78 _)).symm
  | _ => exact (Nat.add_zero (rw' 78 _)).symm
theorem ct_map_try {a : Nat} (s : Sign a) (N : Nat → Nat) (t : Try) : ct a (reprS (t.map N).enc) = ct a (reprS t.enc) := by
  unfold Try.enc
  rw [ct_tup a s.h1 s.h4 s.h5 _ (try_parts _), ct_tup a s.h1 s.h4 s.h5 _ (try_parts _)]
  cases hr : t.ret <;> simp only [Try.map, Try.catchD, Try.finalD, hr, List.map_cons, List.map_nil, ct_int a s.d]
theorem ct_map_life {a : Nat} (s : Sign a) (N : Nat → Nat) (t : Life) : ct a (reprS (t.map N).enc) = ct a (reprS t.enc) := by
  unfold Life.enc
  rw [ct_tup a s.h1 s.h4 s.h5 _ (life_parts _), ct_tup a s.h1 s.h4 s.h5 _ (life_parts _)]
  simp only [Life.map, List.map_cons, List.map_nil, ct_int a s.d]
theorem ct_pos {ds : List D} (h : ∀ d ∈ ds, PyOk d) : 1 ≤ ct 40 (reprS (.tup ds)) := by
  rw [ct_tup 40 s40.h1 s40.h4 s40.h5 _ h, show ct 40 "(" = 1 by decide]; lia

theorem rw_pos (r : Row) : 1 ≤ rw' 40 r := by
  rw [rw_eq s40, show ct 40 "(" = 1 by decide]; lia
/-- what is compared -/
noncomputable def Cod.pay (c : Cod) : D := .lst [.lst (c.rows.map Row.enc), .lst (c.trys.map Try.enc), .lst (c.lives.map Life.enc)]
theorem ct_pay {a : Nat} (s : Sign a) (c : Cod) : ct a (reprS c.pay) = sumN (c.rows.map (rw' a)) + (sumN (c.trys.map fun t => ct a (reprS t.enc)) + sumN (c.lives.map fun t => ct a (reprS t.enc))) := by
  unfold Cod.pay
  have h1 : ∀ d ∈ c.rows.map Row.enc, PyOk d := by simp only [List.mem_map]; rintro d ⟨r, _, rfl⟩; exact row_py r
  have h2 : ∀ d ∈ c.trys.map Try.enc, PyOk d := by simp only [List.mem_map]; rintro d ⟨r, _, rfl⟩; exact try_py r
  have h3 : ∀ d ∈ c.lives.map Life.enc, PyOk d := by simp only [List.mem_map]; rintro d ⟨r, _, rfl⟩; exact life_py r
  rw [ct_lst a s.h1 s.h2 s.h3 _ (by
    simp only [List.mem_cons, List.not_mem_nil, or_false]
    rintro d (rfl | rfl | rfl)
    · exact py_lst h1
    · exact py_lst h2
    · exact py_lst h3)]
  simp only [List.map_cons, List.map_nil, sumN_cons, ct_lst a s.h1 s.h2 s.h3 _ h1, ct_lst a s.h1 s.h2 s.h3 _ h2, ct_lst a s.h1 s.h2 s.h3 _ h3, List.map_map]
  simp only [sumN, List.foldr_nil, Nat.add_zero]; rfl

-- what is dropped
theorem sum_pick (k : Nat → Bool) (f : Nat → Row) (w : Row → Nat) : ∀ n, sumN ((pick k f n).map w) ≤ sumN ((List.range n).map fun p => w (f p))
  | 0 => Nat.le_refl _
  | n + 1 => by
    have ih := sum_pick k f w n
    rw [pick, List.range_succ, List.map_append, List.map_append, sumN_append, sumN_append]
    cases k n <;> simp [sumN] at * <;> lia
theorem sum_pick_eq (k : Nat → Bool) (f : Nat → Row) (w : Row → Nat) : ∀ n, (∀ p, p < n → 1 ≤ w (f p)) → sumN ((pick k f n).map w) = sumN ((List.range n).map fun p => w (f p)) → ∀ p, p < n → k p = true
  | 0, _, _, p, hp => by lia
  | n + 1, hw, h, p, hp => by
    have h0 := sum_pick k f w n
    have h1 := hw n (by lia)
    rw [pick, List.range_succ, List.map_append, List.map_append, sumN_append, sumN_append] at h
    cases hk : k n
    · rw [hk] at h; simp [sumN] at h h0; lia
    · rw [hk] at h
      rcases Nat.lt_or_ge p n with h' | h'
      · exact sum_pick_eq k f w n (fun q hq => hw q (by lia)) (by simpa [sumN] using h) p h'
      · have : p = n := by lia
        subst this; exact hk
theorem sum_filter {α : Type} (q : α → Bool) (w : α → Nat) : ∀ l : List α, sumN ((l.filter q).map w) ≤ sumN (l.map w)
  | [] => Nat.le_refl _
  | a :: l => by
    have ih := sum_filter q w l
    rw [List.filter_cons]; split <;> simp only [List.map_cons, sumN_cons] <;> lia
theorem sum_filter_eq {α : Type} (q : α → Bool) (w : α → Nat) : ∀ l : List α, (∀ a ∈ l, 1 ≤ w a) → sumN ((l.filter q).map w) = sumN (l.map w) → l.filter q = l
  | [], _, _ => rfl
  | a :: l, hw, h => by
    have h0 := sum_filter q w l
    have h1 := hw a (by simp)
    rw [List.filter_cons] at h ⊢
    split at h
    · rename_i hq
      rw [if_pos hq]
      simp only [List.map_cons, sumN_cons] at h
      rw [sum_filter_eq q w l (fun b hb => hw b (List.mem_cons_of_mem _ hb)) (by lia)]
    · simp only [List.map_cons, sumN_cons] at h; lia
theorem rows_range (c : Cod) : c.rows = (List.range c.rows.length).map c.row := by
  apply List.ext_getElem?
  intro i
  by_cases hi : i < c.rows.length
  · simp [hi, c.row_eq hi]
  · simp [hi]
theorem num_all (k : Nat → Bool) : ∀ n, (∀ p, p < n → k p = true) → num k n = n
  | 0, _ => rfl
  | n + 1, h => by rw [num, num_all k n (fun p hp => h p (by lia)), h n (by lia)]; rfl
theorem pick_all (k : Nat → Bool) (f : Nat → Row) : ∀ n, (∀ p, p < n → k p = true) → pick k f n = (List.range n).map f
  | 0, _ => rfl
  | n + 1, h => by rw [pick, pick_all k f n (fun p hp => h p (by lia)), h n (by lia), List.range_succ, List.map_append]; rfl
theorem modT_id {n : Nat} {r : Row} (h : r.Ok n) (N : Nat → Nat) (hN : ∀ t, t ≤ n → N t = t) : r.modT N = r := by
  cases r <;> simp only [Row.modT, Row.target, Row.setT, Row.Ok] at *
  · rw [hN _ h]
  · rw [hN _ h.2.2]

theorem pick_map_thin (c : Cod) : pick (keepB c) c.thin.row c.rows.length = pick (keepB c) (fun p => (c.row p).noTo (usedB c)) c.rows.length := pick_congr _ _ _ _ (fun p hp => thin_row c hp)
/-- weights that bear the moves do not grow -/
theorem wd_weight (c : Cod) (w : Row → Nat) (hw : ∀ N r, w (Row.modT N r) = w r) : sumN ((wd c).rows.map w) = sumN ((pick (keepB c) (fun p => (c.row p).noTo (usedB c)) c.rows.length).map w) := by
  rw [wd_rows, pick_map_thin, List.map_map]
  congr 1
  exact List.map_congr_left (fun r _ => hw _ r)
theorem sum_range_rows (c : Cod) (w : Row → Nat) : sumN ((List.range c.rows.length).map fun p => w (c.row p)) = sumN (c.rows.map w) := by
  conv => rhs; rw [rows_range c, List.map_map]
  rfl

/-- nothing was dropped, no list_elem lost its temporary: the code is as it was -/
theorem wd_same {c : Cod} (W : WF c) (hk : ∀ p, p < c.rows.length → keepB c p = true) (hn : ∀ p, p < c.rows.length → (c.row p).noTo (usedB c) = c.row p) (ht : (wd c).trys.length = c.trys.length) (hl : (wd c).lives.length = c.lives.length) : wd c = c := by
  have hN : ∀ t, t ≤ c.rows.length → num (keepB c) t = t := fun t h => num_all _ t (fun p hp => hk p (by lia))
  have e1 : (wd c).rows = c.rows := by
    rw [wd_rows, pick_map_thin, pick_all _ _ _ hk, List.map_map]
    conv => rhs; rw [rows_range c]
    apply List.map_congr_left
    intro p hp
    have hp := List.mem_range.mp hp
    simp only [Function.comp, hn p hp]
    exact modT_id (row_ok W hp) _ hN
  have e2 : c.trys.map (Try.map (num (keepB c))) = c.trys := by
    conv => rhs; rw [← List.map_id c.trys]
    apply List.map_congr_left
    intro t h
    obtain ⟨w1, w2, w3, _⟩ := W.trys t h
    simp only [Try.map, hN _ (show t.first ≤ c.rows.length by lia), hN _ (show t.behind ≤ c.rows.length by lia), hN _ w3, id]
  have e3 : c.lives.map (Life.map (num (keepB c))) = c.lives := by
    conv => rhs; rw [← List.map_id c.lives]
    apply List.map_congr_left
    intro t h
    obtain ⟨w1, w2, _⟩ := W.lives t h
    simp only [Life.map, hN _ (show t.first ≤ c.rows.length by lia), hN _ w2, id]
  have e4 : (wd c).trys = c.trys := by
    rw [wd_trys, e2] at ht ⊢
    exact List.filter_sublist.eq_of_length ht
  have e5 : (wd c).lives = c.lives := by
    rw [wd_lives, e3] at hl ⊢
    exact List.filter_sublist.eq_of_length hl
  cases hc : wd c with
  | mk a b d => rw [hc] at e1 e4 e5; simp only at e1 e4 e5; subst e1; subst e4; subst e5; rfl

theorem sum_split (g h : Nat → Nat) : ∀ n, sumN ((List.range n).map fun p => g p + h p) = sumN ((List.range n).map g) + sumN ((List.range n).map h)
  | 0 => rfl
  | n + 1 => by
    rw [List.range_succ, List.map_append, List.map_append, List.map_append, sumN_append, sumN_append, sumN_append, sum_split g h n]
    simp only [List.map_cons, List.map_nil, sumN, List.foldr_cons, List.foldr_nil]; lia
theorem sum_zero (h : Nat → Nat) : ∀ n, sumN ((List.range n).map h) = 0 → ∀ p, p < n → h p = 0
  | 0, _, p, hp => by lia
  | n + 1, h0, p, hp => by
    rw [List.range_succ, List.map_append, sumN_append] at h0
    simp only [List.map_cons, List.map_nil, sumN, List.foldr_cons, List.foldr_nil] at h0
    rcases Nat.lt_or_ge p n with h' | h'
    · exact sum_zero h n (by simp only [sumN]; lia) p h'
    · have : p = n := by lia
      subst this; lia

/-- the same repr: the same code -/
theorem repr_same {c : Cod} (W : WF c) (h : reprS (wd c).pay = reprS c.pay) : wd c = c := by
  have h40 : ct 40 (reprS (wd c).pay) = ct 40 (reprS c.pay) := by rw [h]
  have h78 : ct 78 (reprS (wd c).pay) = ct 78 (reprS c.pay) := by rw [h]
  rw [ct_pay s40, ct_pay s40, wd_weight c (rw' 40) (fun N r => rw_modT s40 N r), wd_trys, wd_lives] at h40
  rw [ct_pay s78, ct_pay s78, wd_weight c (rw' 78) (fun N r => rw_modT s78 N r), wd_trys, wd_lives] at h78
  have t1 := sum_filter (fun t : Try => decide (t.first < t.fin)) (fun t => ct 40 (reprS t.enc)) (c.trys.map (Try.map (num (keepB c))))
  have l1 := sum_filter (fun t : Life => decide (t.first < t.behind)) (fun t => ct 40 (reprS t.enc)) (c.lives.map (Life.map (num (keepB c))))
  generalize hKt : sumN (((c.trys.map (Try.map (num (keepB c)))).filter (fun t => decide (t.first < t.fin))).map fun t => ct 40 (reprS t.enc)) = Kt at h40 t1
  generalize hKl : sumN (((c.lives.map (Life.map (num (keepB c)))).filter (fun t => decide (t.first < t.behind))).map fun t => ct 40 (reprS t.enc)) = Kl at h40 l1
  have te : ∀ a, Sign a → sumN ((c.trys.map (Try.map (num (keepB c)))).map fun t => ct a (reprS t.enc)) = sumN (c.trys.map fun t => ct a (reprS t.enc)) := by
    intro a s; rw [List.map_map]; exact congrArg sumN (List.map_congr_left (fun t _ => ct_map_try s (num (keepB c)) t))
  have le : ∀ a, Sign a → sumN ((c.lives.map (Life.map (num (keepB c)))).map fun t => ct a (reprS t.enc)) = sumN (c.lives.map fun t => ct a (reprS t.enc)) := by
    intro a s; rw [List.map_map]; exact congrArg sumN (List.map_congr_left (fun t _ => ct_map_life s (num (keepB c)) t))
  have r1 := sum_pick (keepB c) (fun p => (c.row p).noTo (usedB c)) (rw' 40) c.rows.length
  have r2 : sumN ((List.range c.rows.length).map fun p => rw' 40 ((c.row p).noTo (usedB c))) = sumN (c.rows.map (rw' 40)) := by
    rw [← sum_range_rows c (rw' 40)]; exact congrArg sumN (List.map_congr_left (fun p _ => rw_noTo40 _ _))
  have te40 := te 40 s40
  have le40 := le 40 s40
  have hk := sum_pick_eq (keepB c) (fun p => (c.row p).noTo (usedB c)) (rw' 40) c.rows.length (fun p _ => rw_pos _) (by lia)
  have ht := sum_filter_eq (fun t : Try => decide (t.first < t.fin)) (fun t => ct 40 (reprS t.enc)) (c.trys.map (Try.map (num (keepB c)))) (fun t _ => ct_pos (try_parts t)) (by rw [hKt]; lia)
  have hl := sum_filter_eq (fun t : Life => decide (t.first < t.behind)) (fun t => ct 40 (reprS t.enc)) (c.lives.map (Life.map (num (keepB c)))) (fun t _ => ct_pos (life_parts t)) (by rw [hKl]; lia)
  rw [ht, hl, te 78 s78, le 78 s78, pick_all _ _ _ hk, List.map_map] at h78
  have r3 : sumN ((List.range c.rows.length).map (rw' 78 ∘ fun p => (c.row p).noTo (usedB c))) = sumN (c.rows.map (rw' 78)) + sumN ((List.range c.rows.length).map fun p => (c.row p).nt (usedB c)) := by
    rw [← sum_range_rows c (rw' 78), ← sum_split]
    exact congrArg sumN (List.map_congr_left (fun p _ => rw_noTo78 _ _))
  have hz := sum_zero _ _ (show sumN ((List.range c.rows.length).map fun p => (c.row p).nt (usedB c)) = 0 by lia)
  refine wd_same W hk (fun p hp => nt_zero (hz p hp)) (by rw [wd_trys, ht, List.length_map]) (by rw [wd_lives, hl, List.length_map])

/-- what can still be dropped -/
noncomputable def Row.wt (r : Row) : Nat := match r with | .lelem (some _) _ => 2 | _ => 1
theorem wt_modT (N : Nat → Nat) (r : Row) : (r.modT N).wt = r.wt := by
  cases r with
  | lelem to a => rfl
  | _ => rfl
theorem wt_noTo (u : Nat → Bool) (r : Row) : (r.noTo u).wt + (r.nt u) = r.wt := by
  cases r with
  | lelem to b =>
    cases to with
    | none => rfl
    | some t =>
      change Row.wt (if u t = true then _ else _) + (if u t = true then 0 else 1) = 2
      cases e : u t <;> rfl
  | _ => rfl
theorem wt_le (r : Row) : 1 ≤ r.wt ∧ r.wt ≤ 2 := by
  cases r with
  | lelem to a => cases to <;> simp [Row.wt]
  | _ => simp [Row.wt]
noncomputable def Cod.size (c : Cod) : Nat := sumN (c.rows.map Row.wt) + c.trys.length + c.lives.length
theorem size_le (c : Cod) (W : WF c) (hr : (c.row (c.rows.length - 1)).wt = 1) : c.size ≤ 2 * c.rows.length + 2 := by
  have : ∀ n, sumN ((List.range n).map fun p => (c.row p).wt) ≤ 2 * n := by
    intro n
    induction n with
    | zero => exact Nat.le_refl _
    | succ n ih =>
      rw [List.range_succ, List.map_append, sumN_append]
      have := (wt_le (c.row n)).2
      simp only [List.map_cons, List.map_nil, sumN, List.foldr_cons, List.foldr_nil] at *; lia
  have hp := W.pos
  have h1 := this (c.rows.length - 1)
  have h2 : sumN ((List.range c.rows.length).map fun p => (c.row p).wt) = sumN ((List.range (c.rows.length - 1)).map fun p => (c.row p).wt) + 1 := by
    have e : c.rows.length = c.rows.length - 1 + 1 := by lia
    conv => lhs; rw [e, List.range_succ, List.map_append, sumN_append]
    simp only [List.map_cons, List.map_nil, sumN, List.foldr_cons, List.foldr_nil, hr]
  have := W.nt; have := W.nl
  unfold Cod.size
  rw [← sum_range_rows c Row.wt]; lia
theorem size_lt {c : Cod} (W : WF c) (h : wd c ≠ c) : (wd c).size < c.size := by
  rcases Nat.lt_or_ge (wd c).size c.size with h' | h'
  · exact h'
  · exfalso; apply h
    have ew := wd_weight c Row.wt wt_modT
    have p1 := sum_pick (keepB c) (fun p => (c.row p).noTo (usedB c)) Row.wt c.rows.length
    have p2 : sumN ((List.range c.rows.length).map fun p => ((c.row p).noTo (usedB c)).wt) + sumN ((List.range c.rows.length).map fun p => (c.row p).nt (usedB c)) = sumN (c.rows.map Row.wt) := by
      rw [← sum_range_rows c Row.wt, ← sum_split]
      congr 1
      exact List.map_congr_left (fun p _ => wt_noTo _ _)
    have t1 : (wd c).trys.length ≤ c.trys.length := by rw [wd_trys]; exact Nat.le_trans (List.length_filter_le ..) (by simp)
    have l1 : (wd c).lives.length ≤ c.lives.length := by rw [wd_lives]; exact Nat.le_trans (List.length_filter_le ..) (by simp)
    unfold Cod.size at h'
    have hk := sum_pick_eq (keepB c) (fun p => (c.row p).noTo (usedB c)) Row.wt c.rows.length (fun p _ => (wt_le _).1) (by lia)
    have hz := sum_zero _ _ (show sumN ((List.range c.rows.length).map fun p => (c.row p).nt (usedB c)) = 0 by lia)
    refine wd_same W hk (fun p hp => nt_zero (hz p hp)) (by lia) (by lia)

/-- at rest -/
theorem same_keep {c : Cod} (h : wd c = c) : ∀ p, p < c.rows.length → keepB c p = true := by
  have e := wd_weight c (fun _ => 1) (fun _ _ => rfl)
  rw [h] at e
  refine sum_pick_eq (keepB c) (fun p => (c.row p).noTo (usedB c)) (fun _ => 1) c.rows.length (fun _ _ => Nat.le_refl _) ?_
  rw [← e, ← sum_range_rows c (fun _ => 1)]
set_option tactic.hygienic true in
theorem same_rest {c : Cod} (h : wd c = c) : ∀ r ∈ c.rows, ∀ t, r.to = some t → ¬ Used c t → r.mute = false ∧ r.isLe = false := by
  intro r hr t ht hu
  obtain ⟨p, hp⟩ := List.mem_iff_getElem?.mp hr
  have hlt := get_lt hp
  rw [c.row_get hlt] at hp; cases hp
  have hk := same_keep h p hlt
  have hub : usedB c t = false := by simp [usedB, hu]
  refine ⟨?_, ?_⟩
  · unfold keepB at hk
    cases hm : (c.row p).mute
    · rfl
    · rw [hm] at hk; simp [Row.unread, ht, hub] at hk
  · have hg := wd_get c hlt hk
    rw [num_all _ _ (fun q hq => same_keep h q (by lia)), h, c.row_get hlt] at hg
    have hg := Option.some.inj hg
    cases hc : c.row p <;> try rfl
    rename_i to a
    rw [hc] at ht
    simp only [Row.to] at ht
    subst ht
    unfold Cod.kr at hg
    rw [hc] at hg
    simp only [Row.noTo, hub, Bool.false_eq_true, if_false, Row.modT, Row.target] at hg
    cases hg

set_option maxRecDepth 100000
open PySem

theorem depE_all {k : Nat} {ds : List D} (h : ∀ d ∈ ds, ∃ B, Dep d k B) : ∃ B, ∀ d ∈ ds, Dep d k B := by
  induction ds with
  | nil => exact ⟨0, by simp⟩
  | cons e l ih =>
    obtain ⟨B, hB⟩ := ih (fun d hd => h d (List.mem_cons_of_mem _ hd))
    obtain ⟨B', hB'⟩ := h e (by simp)
    refine ⟨max B B', fun d hd => ?_⟩
    rcases List.mem_cons.mp hd with rfl | hd
    · exact hB'.mono (Nat.le_refl _) (Nat.le_max_right ..)
    · exact (hB d hd).mono (Nat.le_refl _) (Nat.le_max_left ..)
theorem depE_lst {k : Nat} {ds : List D} (h : ∀ d ∈ ds, ∃ B, Dep d k B) : ∃ B, Dep (.lst ds) (k + 1) B := by
  obtain ⟨B, hB⟩ := depE_all h; exact ⟨_, dep_lst hB⟩
theorem depE_tup {k : Nat} {ds : List D} (h : ∀ d ∈ ds, ∃ B, Dep d k B) : ∃ B, Dep (.tup ds) (k + 1) B := by
  obtain ⟨B, hB⟩ := depE_all h; exact ⟨_, dep_tup hB⟩

theorem dep_opd {a : Opd} (h : a.Ok) : Dep a.enc 1 72 := by
  have hs : Dep (.str a.sort) 0 32 := (dep_str _).mono (Nat.le_refl _) (by cases a <;> exact Nat.le_of_ble_eq_true rfl)
  have hh : Dep a.held 0 32 := by
    cases a with
    | lit v => cases v
               · exact dep_none.mono (Nat.le_refl _) (by lia)
               · exact (dep_bool _).mono (Nat.le_refl _) (by lia)
               · exact (dep_str _).mono (Nat.le_refl _) (by decide)
               · exact (dep_int _).mono (Nat.le_refl _) (by decide)
    | tmp k => exact (dep_int _).mono (Nat.le_refl _) (by simp only [Opd.Ok] at h; lia)
    | cv k => exact (dep_int _).mono (Nat.le_refl _) (by simp only [Opd.Ok] at h; lia)
  rw [Opd.enc_eq]
  exact (dep_tup (k := 0) (B := 32) (by
    simp only [List.mem_cons, List.not_mem_nil, or_false]
    rintro d (rfl | rfl)
    · exact hs
    · exact hh)).mono (Nat.le_refl _) (by simp)
theorem dep_wD : Dep wD 1 72 := (dep_tup (k := 0) (B := 32) (ds := [.str "lit", .str "w"]) (by
    simp only [List.mem_cons, List.not_mem_nil, or_false]
    rintro d (rfl | rfl)
    · exact (dep_str _).mono (Nat.le_refl _) (by decide)
    · exact (dep_str _).mono (Nat.le_refl _) (by decide))).mono (Nat.le_refl _) (by simp)
theorem dep_onat {k : Option Nat} (h : ∀ t, k = some t → t ≤ 9) : Dep (onat k) 0 11 := by
  cases k with
  | none => exact dep_none.mono (Nat.le_refl _) (by lia)
  | some t => exact (dep_int _).mono (Nat.le_refl _) (by have := h t rfl; lia)
theorem dep_pa {n : Nat} {r : Row} (h : r.Ok n) : Dep r.pa 3 466 := by
  have ho : ∀ a ∈ r.ops, Dep a.enc 1 72 := fun a ha => dep_opd (ops_ok h a ha)
  cases r with
  | array to => exact dep_none.mono (by lia) (by lia)
  | jump t => exact dep_none.mono (by lia) (by lia)
  | binary to a b =>
    refine (dep_tup (k := 1) (B := 72) ?_).mono (by lia) (by simp)
    simp only [List.mem_cons, List.not_mem_nil, or_false]
    rintro d (rfl | rfl)
    · exact ho a (by simp [Row.ops])
    · exact ho b (by simp [Row.ops])
  | lelem to a =>
    refine (dep_tup (k := 1) (B := 72) ?_).mono (by lia) (by simp)
    simp only [List.mem_cons, List.not_mem_nil, or_false]
    rintro d (rfl | rfl)
    · exact ho a (by simp [Row.ops])
    · exact ho (.lit .zero) (by simp [Row.ops])
  | write to a b =>
    refine (dep_tup (k := 2) (B := 152) ?_).mono (by lia) (by simp)
    simp only [List.mem_cons, List.not_mem_nil, or_false]
    rintro d (rfl | rfl | rfl)
    · exact (dep_str _).mono (by lia) (by decide)
    · refine (dep_tup (k := 1) (B := 72) ?_).mono (by lia) (by simp)
      simp only [List.mem_cons, List.not_mem_nil, or_false]
      rintro d (rfl | rfl)
      · exact (dep_str _).mono (by lia) (by decide)
      · exact dep_wD
    · exact (ho a (by simp [Row.ops])).mono (by lia) (by lia)
  | _ => exact (ho _ (by simp only [Row.ops]; exact List.mem_cons_self ..)).mono (by lia) (by lia)
theorem dep_pb {n : Nat} (hn : n ≤ 9) {r : Row} (h : r.Ok n) : Dep r.pb 3 466 := by
  have ho : ∀ a ∈ r.ops, Dep a.enc 1 72 := fun a ha => dep_opd (ops_ok h a ha)
  cases r with
  | binary to a b => exact (dep_str _).mono (by lia) (by decide)
  | write to a b => exact (ho b (by simp [Row.ops])).mono (by lia) (by lia)
  | jump t => exact (dep_int _).mono (by lia) (by simp only [Row.Ok] at h; lia)
  | jif k a t => exact (dep_int _).mono (by lia) (by simp only [Row.Ok] at h; lia)
  | _ => exact dep_none.mono (by lia) (by lia)
theorem op_len (r : Row) : r.op.length ≤ 11 := by
  cases r with
  | jif k a t => cases k <;> exact Nat.le_of_ble_eq_true rfl
  | _ => exact Nat.le_of_ble_eq_true rfl
theorem dep_row {n : Nat} (hn : n ≤ 9) {r : Row} (h : r.Ok n) : Dep r.enc 4 2000 := by
  refine (dep_tup (k := 3) (B := 466) ?_).mono (by lia) (by simp)
  simp only [List.mem_cons, List.not_mem_nil, or_false]
  rintro d (rfl | rfl | rfl | rfl)
  · exact (dep_str _).mono (by lia) (by have := op_len r; lia)
  · exact (dep_onat (fun t ht => by have := to_ok h ht; lia)).mono (by lia) (by lia)
  · exact dep_pa h
  · exact dep_pb hn h
theorem dep_head {n : Nat} {r : Row} (h : r.Ok n) : Dep r.head 1 2000 := by
  refine (dep_tup (k := 0) (B := 466) ?_).mono (by lia) (by simp)
  simp only [List.mem_cons, List.not_mem_nil, or_false]
  rintro d (rfl | rfl)
  · exact (dep_str _).mono (by lia) (by have := op_len r; lia)
  · exact (dep_onat (fun t ht => by have := to_ok h ht; lia)).mono (by lia) (by lia)
theorem dep_try {n : Nat} (hn : n ≤ 9) {t : Try} (h : t.first ≤ t.behind ∧ t.behind ≤ t.fin ∧ t.fin ≤ n ∧ (∀ k, t.ret = some k → k ≤ 3)) : Dep t.enc 1 2000 := by
  have hb : Dep (.int (t.behind : Nat)) 0 12 := (dep_int _).mono (by lia) (by lia)
  have hnn : Dep .none 0 12 := dep_none.mono (by lia) (by lia)
  refine (dep_tup (k := 0) (B := 12) ?_).mono (by lia) (by simp)
  simp only [List.mem_cons, List.not_mem_nil, or_false]
  rintro d (rfl | rfl | rfl | rfl | rfl)
  · exact (dep_int _).mono (by lia) (by lia)
  · unfold Try.catchD; split
    · exact hb
    · exact hnn
  · unfold Try.finalD; split
    · exact hnn
    · exact hb
  · exact (dep_int _).mono (by lia) (by lia)
  · exact (dep_onat (fun k hk => by have := h.2.2.2 k hk; lia)).mono (by lia) (by lia)
theorem dep_life {n : Nat} (hn : n ≤ 9) {l : Life} (h : l.first ≤ l.behind ∧ l.behind ≤ n ∧ l.temp ≤ 3) : Dep l.enc 1 2000 := by
  refine (dep_tup (k := 0) (B := 42) ?_).mono (by lia) (by simp)
  simp only [List.mem_cons, List.not_mem_nil, or_false]
  rintro d (rfl | rfl | rfl | rfl)
  · exact (dep_int _).mono (by lia) (by lia)
  · exact (dep_int _).mono (by lia) (by lia)
  · exact (dep_int _).mono (by lia) (by lia)
  · exact (dep_str _).mono (by lia) (by decide)

section wfs
variable {c : Cod} (W : WF c)
include W
theorem dep_rows : Dep (.lst (c.rows.map Row.enc)) 5 18022 := by
  refine (dep_lst (k := 4) (B := 2000) ?_).mono (by lia) ?_
  · simp only [List.mem_map]
    rintro d ⟨r, hr, rfl⟩
    exact dep_row W.len (W.rows r hr)
  · rw [List.length_map]
    have := Nat.mul_le_mul_right (2000 + 2) W.len; lia
theorem dep_heads : Dep (.lst (c.rows.map Row.head)) 5 18022 := by
  refine (dep_lst (k := 1) (B := 2000) ?_).mono (by lia) ?_
  · simp only [List.mem_map]
    rintro d ⟨r, hr, rfl⟩
    exact dep_head (W.rows r hr)
  · rw [List.length_map]
    have := Nat.mul_le_mul_right (2000 + 2) W.len; lia
theorem dep_trys : Dep (.lst (c.trys.map Try.enc)) 5 18022 := by
  refine (dep_lst (k := 1) (B := 2000) ?_).mono (by lia) ?_
  · simp only [List.mem_map]
    rintro d ⟨r, hr, rfl⟩
    exact dep_try W.len (W.trys r hr)
  · rw [List.length_map]
    have := Nat.mul_le_mul_right (2000 + 2) W.nt; lia
theorem dep_lives : Dep (.lst (c.lives.map Life.enc)) 5 18022 := by
  refine (dep_lst (k := 1) (B := 2000) ?_).mono (by lia) ?_
  · simp only [List.mem_map]
    rintro d ⟨r, hr, rfl⟩
    exact dep_life W.len (W.lives r hr)
  · rw [List.length_map]
    have := Nat.mul_le_mul_right (2000 + 2) W.nl; lia
theorem dep_pay : Dep c.pay 6 60000 := by
  refine (dep_lst (k := 5) (B := 18022) ?_).mono (by lia) (by simp)
  simp only [List.mem_cons, List.not_mem_nil, or_false]
  rintro d (rfl | rfl | rfl)
  · exact dep_rows W
  · exact dep_trys W
  · exact dep_lives W
theorem dep_left : Dep c.leftD 6 60000 := by
  refine (dep_lst (k := 5) (B := 18022) ?_).mono (by lia) (by simp)
  simp only [List.mem_cons, List.not_mem_nil, or_false]
  rintro d (rfl | rfl | rfl)
  · exact dep_heads W
  · exact dep_trys W
  · exact dep_lives W
theorem repr_pay : reprD c.pay = some (.str (reprS c.pay)) := repr_of (dep_pay W) (by lia) (by decide)
end wfs

theorem told_is {c : Cod} (W : WF c) {tape : List D} (h7 : tape.length = 7) (htv : ∀ v ∈ tape, VOk v) {k : Str} {l : List D} (hT : Tells c tape (.at 0) [] temps0 k l) (m : Mem) : F_law_told [c.enc, .lst tape] m = some (.tup [.str k, .lst l], m) := by
  obtain ⟨k', l', h1, _, h3⟩ := told_eq c W m h7 htv
  obtain ⟨rfl, rfl⟩ := h3.unique W hT
  exact h1

theorem head_comp (c : Cod) (m : Mem) (env : List D) (he : env.length = 15) : compL (asgG env (.v 14)) (tstAnd .nil) (evG (.done (.sub (.var 14) 2))) (c.rows.map Row.enc) m = some (c.rows.map Row.head, m) := by
  rw [compL_filter Row.enc _ _ _ (fun _ => true) (fun r => [r.head]) m]
  · rw [filter_tt, ← List.map_eq_flatMap]
  · intro r _
    exact ⟨env.set 14 r.enc, by simp, by simp, fun _ => by simp [he]; simp [Row.enc, Row.head]⟩

theorem law_loop (ns : List Int) (many : Nat) (c0 : Cod) (W0 : WF c0) (tape : List D) (h7 : tape.length = 7) (htv : ∀ v ∈ tape, VOk v) (k : Str) (l : List D) (hdue : eqD (.tup [.str k, .lst l]) (.tup [.str k, .lst l]) = some true) (x6 x14 : D) (m : Mem) :
    ∀ (j t : Nat) (c : Cod) (x11 x12 x13 : D), t + j = 2 * many + 4 → WF c → Tells c tape (.at 0) [] temps0 k l → c.size + t ≤ 2 * many + 2 →
    ∃ env', forL (asgT (.v 11)) (exs (T_law.body 13)) (nats (List.range' t j)) [.lst (ns.map .int), .cell 0, .int (many : Nat), .lst (c0.rows.map Row.enc), .lst (c0.trys.map Try.enc), .lst (c0.lives.map Life.enc), x6, .lst tape, c0.enc, .tup [.str k, .lst l], c.enc, x11, x12, x13, x14] m = some (.ret (.bool true), env', m)
  | 0, t, c, x11, x12, x13, ht, W, hT, hs => by lia
  | j + 1, t, c, x11, x12, x13, ht, W, hT, hs => by
    have Wd := wd_wf W
    have hTd := tells_wd W hT
    have e1 := fun m => without_dead_eq c W m
    have e2 := fun m => told_is Wd h7 htv hTd m
    have e3 := fun m => left_eq c W m
    have e4 : ¬ (c.rows.length < (wd c).rows.length) := by rw [wd_len]; have := num_le (keepB c) c.rows.length; lia
    have e5 := fun m env he => head_comp (wd c) m env he
    have e6 : eqD (wd c).leftD (wd c).leftD = some true := eqD_refl (dep_left Wd) (by lia)
    have e7 := repr_pay Wd
    have e8 := repr_pay W
    have e9 : (wd c).rows.length ≤ big := big_le _ (by have := Wd.len; lia)
    have e10 : eqD (.lst [namesD, .int 4]) (.lst [.lst [.str "a", .str "b"], .int 4]) = some true := by kernel_rfl
    simp only [Cod.leftD, Cod.pay] at e3 e6 e7 e8
    by_cases hp : reprS (wd c).pay = reprS c.pay
    · have hc := repr_same W hp
      have r1 := fun m => rest_eq (wd c) Wd (fun p h => by rw [hc] at h ⊢; exact keep_live (same_keep hc p h)) (fun r hr t ht hu => by rw [hc] at hr hu; exact same_rest hc r hr t ht hu) m
      have q1 : eqD (.lst (c0.rows.map Row.enc)) (.lst (c0.rows.map Row.enc)) = some true := eqD_refl (dep_rows W0) (by lia)
      have q2 : eqD (.lst (c0.trys.map Try.enc)) (.lst (c0.trys.map Try.enc)) = some true := eqD_refl (dep_trys W0) (by lia)
      have q3 : eqD (.lst (c0.lives.map Life.enc)) (.lst (c0.lives.map Life.enc)) = some true := eqD_refl (dep_lives W0) (by lia)
      simp only [Cod.pay] at hp
      simp only [Cod.enc] at e1 e2 e3 r1
      refine ⟨[.lst (ns.map .int), .cell 0, .int (many : Nat), .lst (c0.rows.map Row.enc), .lst (c0.trys.map Try.enc), .lst (c0.lives.map Life.enc), x6, .lst tape, c0.enc, .tup [.str k, .lst l], c.enc, .int (t : Nat), (wd c).enc, .bool true, x14], ?_⟩
      rw [range'_nats]
      by_cases ht0 : t = 0
      · subst ht0
        simp [-evG_done, -tstAnd_nil, forL, T_law, Ss.body, Ss.drop, Ss.drop1, Ss.hd, S.b, Cod.enc, e1, e2, e3, e4, e5, e6, e7, e8, e9, e10, hdue, hp, r1, q1, q2, q3]
      · simp [-evG_done, -tstAnd_nil, forL, T_law, Ss.body, Ss.drop, Ss.drop1, Ss.hd, S.b, Cod.enc, e1, e2, e3, e4, e5, e6, e7, e8, e9, e10, hdue, hp, r1, q1, q2, q3, ht0]
    · have hne : wd c ≠ c := fun e => hp (by rw [e])
      have hsz := size_lt W hne
      obtain ⟨env', ih⟩ := law_loop ns many c0 W0 tape h7 htv k l hdue x6 x14 m j (t + 1) (wd c) (.int (t : Nat)) (wd c).enc x13 (by lia) Wd hTd (by lia)
      refine ⟨env', ?_⟩
      rw [range'_nats, ← ih]
      simp only [Cod.pay] at hp
      simp only [Cod.enc] at e1 e2 e3
      by_cases ht0 : t = 0
      · subst ht0
        simp [-evG_done, -tstAnd_nil, forL, T_law, Ss.body, Ss.drop, Ss.drop1, Ss.hd, S.b, Cod.enc, e1, e2, e3, e4, e5, e6, e7, e8, e9, e10, hdue, hp]
      · simp [-evG_done, -tstAnd_nil, forL, T_law, Ss.body, Ss.drop, Ss.drop1, Ss.hd, S.b, Cod.enc, e1, e2, e3, e4, e5, e6, e7, e8, e9, e10, hdue, hp, ht0]

set_option maxRecDepth 100000
open PySem

theorem handR_mem : ∀ (ts : List Try) (p : Nat) (t : Try), handR ts p = some t → t ∈ ts
  | [], _, _, h => nomatch h
  | u :: ts, p, t, h => by
    rw [handR] at h
    split at h
    · cases h; simp
    · exact List.mem_cons_of_mem _ (handR_mem ts p t h)

theorem first_wf {many : Nat} (h5 : 5 ≤ many) (h9 : many ≤ 9) {rs : List Row} (hr : ∀ r ∈ rs, r.Ok many) (hl : rs.length = many - 1) {o : Opd} (ho : o.Ok) {ts : List Try} (ht : ∀ t ∈ ts, TryOk many t) (ht2 : ts.length ≤ 2)
    {ls : List Life} (hls : ∀ l ∈ ls, l.first ≤ l.behind ∧ l.behind ≤ many ∧ l.temp ≤ 3) (hl1 : ls.length ≤ 1) : WF ⟨rs ++ [.ret o], ts, ls⟩ := by
  have hn : (rs ++ [Row.ret o]).length = many := by simp; lia
  refine ⟨by simp only [hn]; lia, by simp only [hn]; lia, ?_, ?_, ?_, ?_, ?_, ht2, hl1⟩
  · intro r hr'
    simp only [hn]
    rcases List.mem_append.mp hr' with h | h
    · exact hr r h
    · simp at h; subst h; exact ho
  · intro r hr'
    simp only [hn] at hr'
    rw [List.getElem?_append_right (by lia), hl, Nat.sub_self] at hr'
    simp at hr'; subst hr'; rfl
  · intro t h
    simp only [hn]
    obtain ⟨a, b, d, e, f⟩ := ht t h
    exact ⟨by lia, b, d, f⟩
  · intro p t _ h
    simp only [hn]
    have := ht t (by simpa using handR_mem _ _ _ h)
    have := this.2.2.2.1; lia
  · intro l h
    simp only [hn]
    exact hls l h

theorem drop_succ (s : Ss) (k : Nat) : s.drop (k + 1) = (s.drop k).drop1 := by
  induction k generalizing s with
  | zero => rfl
  | succ k ih => exact ih s.drop1

theorem law_tail (ns : List Int) (many : Nat) (c0 : Cod) (W0 : WF c0) (hm : c0.rows.length = many) (h9 : many ≤ 9) (hlast : (c0.row (c0.rows.length - 1)).wt = 1) (tape : List D) (h7 : tape.length = 7) (htv : ∀ v ∈ tape, VOk v) (x6 : D) (m : Mem) :
    ∃ env', exs (T_law.drop 9) [.lst (ns.map .int), .cell 0, .int (many : Nat), .lst (c0.rows.map Row.enc), .lst (c0.trys.map Try.enc), .lst (c0.lives.map Life.enc), x6, .lst tape, .undef, .undef, .undef, .undef, .undef, .undef, .undef] m = some (.ret (.bool true), env', m) := by
  obtain ⟨Z, hnd, hZ, h1⟩ := reached_eq c0 W0 m
  obtain ⟨k, l, h2, h3, h4⟩ := told_eq c0 W0 m h7 htv
  have hcl := closure_eq c0 W0 m
  have hs := sorted_reached c0 Z hnd hZ (by have := W0.len; lia) (trues Z.length)
  have hlen : (liveL c0).length ≤ 9 := by
    have : (liveL c0).length ≤ c0.rows.length := by
      unfold liveL; exact Nat.le_trans (List.length_filter_le ..) (by simp)
    have := W0.len; lia
  have hq : eqD (.lst (nats (liveL c0))) (.lst (nats (liveL c0))) = some true := eqD_refl (dep_nats _ 9 (by
    intro x hx
    have := ((liveL_mem c0 x).mp hx).lt
    have := W0.len; lia)) (by lia)
  have hdue : eqD (.tup [.str k, .lst l]) (.tup [.str k, .lst l]) = some true := by
    obtain ⟨B, hB⟩ := depE_tup (k := 3) (ds := [.str k, .lst l]) (by
      simp only [List.mem_cons, List.not_mem_nil, or_false]
      rintro d (rfl | rfl)
      · exact ⟨_, (dep_str _).mono (by lia) (Nat.le_refl _)⟩
      · exact log_dep h3)
    exact eqD_refl hB (by lia)
  obtain ⟨env', L⟩ := law_loop ns many c0 W0 tape h7 htv k l hdue x6 .undef m (2 * many + 4) 0 c0 .undef .undef .undef (by lia) W0 h4 (by have := size_le c0 W0 hlast; lia)
  rw [← List.range_eq_range'] at L
  refine ⟨env', ?_⟩
  have htp : D.pures tape = true := pures_of _ fun d hd => (htv d hd).pure
  have hb := big_le (2 * many + 4) (by lia)
  have e2 : (2 * (many : Int) + 4).natAbs = 2 * many + 4 := by lia
  have hb3 : (many : Int).natAbs ≤ big := by have := big_le many (by lia); lia
  have hb4 := big_le many (by lia)
  have r1 : rngItems 0 (2 * (many : Int) + 4) 1 = some (nats (List.range (2 * many + 4))) := rngItems_up (2 * many + 4)
  have b1 : c0.rows.length ≤ big := big_le _ (by lia)
  simp only [T_law, Ss.body, Ss.drop, Ss.drop1, Ss.hd, S.b, Cod.enc, namesD] at L h1 h2 hcl
  simp [T_law, Ss.drop, Ss.drop1, Cod.enc, namesD, h1, h2, hs, hcl, hq, e2, hb, hb3, hb4, r1, L]

theorem law_true : ∀ ns : List Int, ns.length ≤ 63 → ∃ m', F_law [.lst (ns.map .int)] [] = some (.bool true, m') := by
  intro ns hns
  obtain ⟨v, hv, d1⟩ := draw_eq ns 0 5 [] (by lia) (by lia) (by lia)
  generalize hmany : 5 + v = many
  have h5 : 5 ≤ many := by lia
  have h9 : many ≤ 9 := by lia
  have hm1 : (5 : Int) + (v : Int) = (many : Int) := by lia
  obtain ⟨rs, q1, r1, r2, r3, r4, d2⟩ := rows_comp' ns many [] (by lia) [.lst (ns.map .int), .cell 0, .int (many : Nat), .undef, .undef, .undef, .undef, .undef, .undef, .undef, .undef, .undef, .undef, .undef, .undef] rfl rfl rfl rfl (many - 1) 0 1 (by lia)
  obtain ⟨o, ho, d3⟩ := operand_eq ns q1 [] (by lia)
  obtain ⟨ts, q2, t1, t2, t3, t4, d4⟩ := trys_eq ns (q1 + 1) many [] (by lia) (by lia) (by lia)
  obtain ⟨w, hw, d5⟩ := draw_eq ns q2 2 [some (.lst [])] (by lia) (by lia) (by lia)
  rw [← List.range_eq_range'] at d2
  have ra : rngItems 0 ((many : Int) - 1) 1 = some (nats (List.range (many - 1))) := by
    have := rngItems_up (many - 1)
    rwa [show ((many - 1 : Nat) : Int) = (many : Int) - 1 by lia] at this
  have e1 : ((many : Int) - 1).natAbs = many - 1 := by lia
  have b1 := big_le (many - 1) (by lia)
  have b2 : rs.length ≤ big := big_le _ (by lia)
  have b3 : rs.length + 1 ≤ big := big_le _ (by lia)
  have htake : (ns.map D.int).take 63 = ns.map D.int := List.take_of_length_le (by simpa using hns)
  have e7 : rngItems 0 7 1 = some (nats (List.range' 0 7)) := rngItems_up 7
  simp only [Int.cast_ofNat_Int] at d1 d5
  have hrets : rs.map Row.enc ++ [.tup [.str "return", .none, o.enc, .none]] = (rs ++ [Row.ret o]).map Row.enc := by rw [List.map_append]; rfl
  -- with the lives known
  have fin : ∀ (ls : List Life) (q3 : Nat) (x6 : D), (∀ l ∈ ls, l.first ≤ l.behind ∧ l.behind ≤ many ∧ l.temp ≤ 3) → ls.length ≤ 1 → q3 ≤ 300 →
      ∃ env' m', exs (T_law.drop 7) [.lst (ns.map .int), .cell 0, .int (many : Nat), .lst ((rs ++ [Row.ret o]).map Row.enc), .lst (ts.map Try.enc), .cell 1, x6, .undef, .undef, .undef, .undef, .undef, .undef, .undef, .undef] (dm q3 [some (.lst (ls.map Life.enc))]) = some (.ret (.bool true), env', m') := by
    intro ls q3 x6 hls hl1 hq3
    obtain ⟨vs, q4, v1, v2, d6⟩ := tape_comp ns [some (.lst (ls.map Life.enc))] [.lst (ns.map .int), .cell 0, .int (many : Nat), .lst ((rs ++ [Row.ret o]).map Row.enc), .lst (ts.map Try.enc), .cell 1, x6, .undef, .undef, .undef, .undef, .undef, .undef, .undef, .undef] rfl rfl rfl 7 0 q3 (by lia)
    have W := first_wf h5 h9 r1 r2 ho t1 t2 hls hl1
    have hlast : (Cod.row ⟨rs ++ [Row.ret o], ts, ls⟩ ((Cod.rows ⟨rs ++ [Row.ret o], ts, ls⟩).length - 1)).wt = 1 := by
      have := Cod.row_get ⟨rs ++ [Row.ret o], ts, ls⟩ (p := (rs ++ [Row.ret o]).length - 1) (by simp)
      simp only [List.length_append, List.length_cons, List.length_nil, Nat.zero_add, Nat.add_sub_cancel] at this ⊢
      rw [List.getElem?_append_right (Nat.le_refl _), Nat.sub_self] at this
      simp at this
      rw [← this]; rfl
    obtain ⟨env', L⟩ := law_tail ns many ⟨rs ++ [Row.ret o], ts, ls⟩ W (by simp; lia) h9 hlast vs v2 v1 x6 (dm q4 [none])
    refine ⟨env', dm q4 [none], ?_⟩
    rw [show T_law.drop 9 = (T_law.drop 7).drop1.drop1 from rfl] at L
    have hvl : vs.length ≤ big := by rw [v2]; decide
    have g1 : (dm q4 [some (.lst (ls.map Life.enc))])[1]? = some (some (.lst (ls.map Life.enc))) := rfl
    have g2 : (dm q4 [some (.lst (ls.map Life.enc))]).set 1 none = dm q4 [none] := rfl
    simp only [T_law, Ss.drop, Ss.drop1] at L ⊢
    rw [exs_cons, ex_asg, ev_comp, evG_cons]
    simp only [ev_bi, ev_cst, range_int, items_rng, e7, show (7 : Int).natAbs ≤ big by decide, if_true, d6, hvl, assignT_v, List.set_cons_succ, List.set_cons_zero]
    rw [exs_frz]
    simp only [List.getElem?_cons_succ, List.getElem?_cons_zero, freeze_of _ _ _ g1, g2, List.set_cons_succ, List.set_cons_zero]
    exact L
  have hz : ∃ env' m', exs T_law ([.lst (ns.map .int)] ++ List.replicate 14 .undef) [] = some (.ret (.bool true), env', m') := by
    have hww : w = 0 ∨ w = 1 := by lia
    have gdm : ([] : Mem) ++ [some (.lst [.int 0])] = dm 0 [] := rfl
    rcases hww with rfl | rfl
    · obtain ⟨env', m', F⟩ := fin [] (q2 + 1) .undef (by simp) (by simp) (by lia)
      refine ⟨env', m', ?_⟩
      have gl : dm q2 [] ++ [some (.lst [])] = dm q2 [some (.lst [])] := rfl
      have eT : T_law = .cons T_law.hd (.cons (T_law.drop 1).hd (.cons (T_law.drop 2).hd (.cons (T_law.drop 3).hd (.cons (T_law.drop 4).hd (.cons (T_law.drop 5).hd (.cons (T_law.drop 6).hd (T_law.drop 7))))))) := rfl
      rw [eT]
      generalize T_law.drop 7 = X at F ⊢
      simp only [List.map_append, List.map_cons, List.map_nil] at F
      simp [-evG_done, -tstAnd_nil, -exs_frz, T_law, Ss.hd, Ss.drop, Ss.drop1, List.replicate, htake, gdm, d1, hm1, e1, b1, ra, d2, b2, d3, b3, hrets, d4, d5, F]
    · obtain ⟨f, hf, d6⟩ := draw_eq ns (q2 + 1) many [some (.lst [])] (by lia) (by lia) (by lia)
      obtain ⟨tm, htm, d7⟩ := draw_eq ns (q2 + 2) 4 [some (.lst [])] (by lia) (by lia) (by lia)
      obtain ⟨b, hbb, d8⟩ := draw_eq ns (q2 + 3) (many - f) [some (.lst [])] (by lia) (by lia) (by lia)
      obtain ⟨env', m', F⟩ := fin [⟨tm, f, f + 1 + b⟩] (q2 + 4) (.int (f : Nat)) (by
        intro l hl
        simp only [List.mem_singleton] at hl
        subst hl
        exact ⟨by simp only []; lia, by simp only []; lia, by simp only []; lia⟩) (by simp) (by lia)
      refine ⟨env', m', ?_⟩
      have gl : dm q2 [] ++ [some (.lst [])] = dm q2 [some (.lst [])] := rfl
      rw [show ((many - f : Nat) : Int) = (many : Int) - (f : Int) by lia] at d8
      simp only [Int.cast_ofNat_Int] at d7
      have gg : ∀ (p : Nat) (x : Option Cell), (dm p [x])[1]? = some x := fun _ _ => rfl
      have gs : ∀ (p : Nat) (x y : Option Cell), (dm p [x]).set 1 y = dm p [y] := fun _ _ _ => rfl
      have eT : T_law = .cons T_law.hd (.cons (T_law.drop 1).hd (.cons (T_law.drop 2).hd (.cons (T_law.drop 3).hd (.cons (T_law.drop 4).hd (.cons (T_law.drop 5).hd (.cons (T_law.drop 6).hd (T_law.drop 7))))))) := rfl
      rw [eT]
      generalize T_law.drop 7 = X at F ⊢
      simp only [List.map_append, List.map_cons, List.map_nil, Life.enc, Int.natCast_add, Int.cast_ofNat_Int] at F
      have ga : ∀ p (d : D), d.pure = true → appD (dm p [some (.lst [])]) (.cell 1) d = some (dm p [some (.lst [d])]) := by
        intro p d hd
        rw [appD_of _ _ _ (gg p _), if_pos ⟨by decide, hd⟩, gs]; rfl
      have gc : ∀ p, lstCell (dm p [some (.lst [])]) (.cell 1) = true := fun p => lstCell_of _ _ _ (gg p _)
      simp [-evG_done, -tstAnd_nil, -exs_frz, T_law, Ss.hd, Ss.drop, Ss.drop1, List.replicate, htake, gdm, d1, hm1, e1, b1, ra, d2, b2, d3, b3, hrets, d4, d5, d6, d7, d8, ga, gc, F]
  obtain ⟨env', m', hz⟩ := hz
  refine ⟨m'.take 0, ?_⟩
  unfold F_law runF
  rw [if_pos (by rfl), show 15 - 1 = 14 from rfl, hz]
  rfl
end Mine

open PySem PySem.W PyProof.Rows
set_option tactic.hygienic true in
set_option maxRecDepth 100000 in
set_option maxHeartbeats 8000000 in
theorem PySem.Challenge.cw_pq0844_01_holds : PySem.Challenge.rw_pq0844_01.Holds := by
  w_on
  refine holds_law (by decide +kernel) fun said => ?_
  refine holds_open (q := Mine.vw) (loose := []) (Xt := fun s => xlAt Mine.vw [] s && recOk (RowW.records (OpenRow.toRowW (PySem.Challenge.rw_pq0844_01.row))) s) (XP := XL Mine.vw []) (Yf := Hook.obs (kHook Mine.KM Mine.asM Mine.asM_eq)) (Ya := Hook.val (kHook Mine.KM Mine.asM Mine.asM_eq)) (YP := Hook.says (kHook Mine.KM Mine.asM Mine.asM_eq)) (N := 2842) ?hl (Hook.of (kHook Mine.KM Mine.asM Mine.asM_eq)) (Hook.keeps (kHook Mine.KM Mine.asM Mine.asM_eq)) (fun s e => xl_of s (Bool.and_eq_true_iff.mp e).1) XL.keeps (by rfl) (by rfl) (by rfl) (fun s e => recFacts_of (Bool.and_eq_true_iff.mp e).2) (by first | rfl | fail "x1") (by first | assumption | decide +kernel) (by decide +kernel) ⟨rfl, rfl, rfl, rfl, rfl, by decide +kernel⟩ ?hw ?hc
  case hl => intro w; kernel_rfl
  case hw => w_witness2
  case hc => w_strict (
    intro w s₀ s₁ mg mb G Y fa o pm cd doc dV kV ho hd hcd hD hmg hg args vals as hpre hlay hrd hwl hlo
    have KX := kIn_of Y
    refine Ground.open G ?_
    intro T B D TE TW
    clear hd hcd hD Y
    wrow_args hpre hlay hrd hwl hlo
    rename_i ns hs1 hl1 hl2 hr1 hl3 as1 as2 a vs as3 hL ra w1 r0 hI hr2 hn htr
    have ha : s₁.heap.get? a = some (Mine.lstO vs 0) := by
      obtain ⟨o', ho', hc', n', hd'⟩ := hL
      cases w1 with
      | list h1 h2 =>
        rw [ho'] at h1
        cases h1
        simp only [Data.seq.injEq] at hd'
        rw [ho']
        simp [Mine.lstO, ← hd'.1]
    have hn' : ns.length ≤ 63 := by lia
    obtain ⟨m', hlaw⟩ := Mine.law_true ns hn'
    refine Mine.finish KX T.g T.b T.nolimit T.builtins ?zk1 ?zk2 ?zk3 ?zk4 hmg ha hI hn' hlaw (fun h t hk => ?zzq)
    case zk1 => kernel_rfl
    case zk2 => kernel_rfl
    case zk3 => kernel_rfl
    case zzq =>
      refine Mine.good_true (raisesW_false ?_) ?_ hg hk
      · wrow_none_raised
      · wrow_post
    case zk4 => kernel_rfl)
