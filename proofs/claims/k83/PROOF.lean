import PyProof.Rows.All
import Wide.All
import OpenK.AllK
import Wide.FinOn
import HandS.ForMost
import HandS.Wide
import HandS.Deep
import KE.DataMinMax
import PyProof.ReprReads
import HandS.TupAny
import HandS.TupMul
import HandS.SortInts
import HandS.IsInst
import HandS.SetFor
import HandS.TupLe
import KE.KRevSl
import PyProof.SeqIndex
import KE.KIndexOf
import HandS.Zip
import HandS.Strs
import HandS.More
import HandS.WordsDict
import HandS.Small
import PyProof.ReprRoads
import PyProof.Claim2Refuses
import KE.GoesEnum
import HandS.Walk
import HandS.Zip0
import HandS.Style
import HandS.Ends
import PyProof.ReprBulk
import PyProof.Rows.ReprOcc
import PySem.Challenge.RW_playershouse_k83_whole_walks_down_to_a_s
/-! MiA -/
set_option Elab.async false
set_option linter.all false
/-! MiA: plain data, the mirror language (IR) of the subset, its evaluator. -/
namespace Mi
open PySem

/-- plain data -/
inductive D where
  | non | bl (b : Bool) | int (i : Int) | str (s : Str)
  | tup (l : List D) | lst (l : List D)
  | ty (n : String)
  | ins (C : Nat) (ns : List Str) (vs : List D)
  | dct (ks : List L2.Key) (vs : List D)
  | scr (l : List Int)
  deriving Inhabited

/-- a value in flight: data; the owned thing of a slot; a new thing that nobody else has -/
inductive R where
  | v (d : D) | b (s : Nat) | o (d : D)

abbrev Env := List (Option (Bool × D))

inductive BOp | add | sub | mul | fdiv | mod | pow
inductive COp | lt | le | gt | ge | eq | ne | inn | nin | iss | isn
inductive Blt | len | abs | int | list | tuple | sum | min | max | sorted | all | any | isi | lenset | repr
inductive Mth | index | count
inductive Mut | append | pop0 | pop | remove | extend | insert

inductive Tg | var (i : Nat) | nil | cons (a : Tg) (r : Tg)
  -- nil, cons: a tuple of targets

mutual
inductive E
  | var (i : Nat) | glob (x : Nat) | cint (i : Int) | cbl (b : Bool) | cnon | cstr (s : Str) | cty (n : String)
  | tup (es : Es) | lst (es : Es)
  | bin (op : BOp) (a b : E) | neg (a : E) | notv (a : E) | andv (a b : E) | orv (a b : E)
  | cmp (op : COp) (a b : E) | chain (op op' : COp) (a b c : E)
  | ite (c : T) (a b : E)
  | idx (a i : E) | sl (a : E) (lo hi : Oe) | rev (a : E)
  | call (f : Nat) (es : Es) | make (C : Nat) (es : Es) | callb (f : Blt) (es : Es) | meth (m : Mth) (o e : E) | mut (m : Mut) (i : Nat) (es : Es)
  | attr (a : E) (f : Str)
  | comp (vs : List Nat) (tg : Tg) (it : It) (c : T) (e : E)
  | comp2 (vs vs1 : List Nat) (tg : Tg) (it : It) (c : T) (tg1 : Tg) (it1 : It) (c1 : T) (e : E)
  | dic0 | dic1 (k v : E)
  | lrange (es : Es)
inductive T | yes | val (e : E) | and (a b : T) | or (a b : T) | not (a : T)
inductive Es | nil | cons (e : E) (r : Es)
inductive Oe | none | some (e : E)
inductive It | seq (e : E) | range1 (a : E) | range2 (a b : E) | zip (a b : E) | enum (a : E)
end

mutual
inductive S
  | asg (tg : Tg) (e : E) | own (i : Nat) (e : E)
  | par (sw : Bool) (ts : List (Nat × Bool)) (es : Es)
  | setix (i : Nat) (ix e : E) | setat (i : Nat) (f : Str) (e : E)
  | aug (i : Nat) (op : BOp) (e : E) | augix (i : Nat) (ix : E) (op : BOp) (e : E)
  | expr (e : E) | ret (e : E) | retn | ite (c : T) (a b : Ss) | whil (c : T) (b : Ss) | for_ (tg : Tg) (it : It) (b : Ss)
  | pass | never | brk | cnt
inductive Ss | nil | cons (s : S) (r : Ss)
end

/-! ### operations on data -/
abbrev line : Nat := 16777216
def mulOk (i j : Int) : Bool := (decide (-(2 ^ 64) < i) && decide (i < 2 ^ 64)) || (decide (-(2 ^ 64) < j) && decide (j < 2 ^ 64)) || decide (i.natAbs.log2 + j.natAbs.log2 < 1000000)
def binD : BOp → D → D → Option D
  | .add, .int i, .int j => some (.int (i + j))
  | .add, .lst a, .lst b => if a.length + b.length ≤ line then some (.lst (a ++ b)) else none
  | .add, .tup a, .tup b => if a.length + b.length ≤ line then some (.tup (a ++ b)) else none
  | .sub, .int i, .int j => some (.int (i - j))
  | .mul, .int i, .int j => if mulOk i j then some (.int (i * j)) else none
  | .mul, .lst a, .int k => if 0 ≤ k ∧ k ≤ line ∧ a.length * k.toNat ≤ line then some (.lst (List.replicate k.toNat a).flatten) else none
  | .mul, .tup a, .int k => if a ≠ [] ∧ 1 ≤ k ∧ k ≤ 1000 ∧ a.length ≤ 1000 then some (.tup (List.replicate k.toNat a).flatten) else none
  | .fdiv, .int i, .int j => if 0 < j ∧ (j < 1073741824 ∨ j.natAbs.log2 < 9000) then some (.int (i / j)) else none
  | .mod, .int i, .int j => if 0 < j then some (.int (i % j)) else none
  | .pow, .int i, .int j => if 0 ≤ j ∧ j ≤ 1000000 ∧ i.natAbs < 2 ^ 64 then some (.int (i ^ j.toNat)) else none
  | _, _, _ => none

mutual
def toPy : D → Option PyData
  | .non => some .none
  | .bl b => some (.bool b)
  | .int i => some (.int i)
  | .str s => some (.str s)
  | .tup l => (toPys l).map .tuple
  | .lst l => (toPys l).map .list
  | _ => none
def toPys : List D → Option (List PyData)
  | [] => some []
  | d :: r => match toPy d, toPys r with
    | some x, some xs => some (x :: xs)
    | _, _ => none
end
def eqD (a b : D) : Option Bool := match toPy a, toPy b with
  | some x, some y => if SeqAt.shaped x = true ∧ SeqAt.shaped y = true then some (PyData.eqv x y) else none
  | _, _ => none
def flatD : D → Bool
  | .non => true | .bl _ => true | .int _ => true | .str _ => true | _ => false
def eqF : D → D → Bool
  | .non, .non => true
  | .bl a, .bl b => a == b
  | .bl a, .int b => (if a then 1 else 0) == b
  | .int a, .bl b => a == (if b then 1 else 0)
  | .int a, .int b => a == b
  | .str a, .str b => a == b
  | _, _ => false
/-- the items of a list or tuple -/
def itemsD : D → Option (List D)
  | .lst l => some l
  | .tup l => some l
  | _ => none
def intsD : List D → Option (List Int)
  | [] => some []
  | .int i :: r => (intsD r).map (i :: ·)
  | _ => none
def blsD : List D → Option (List Bool)
  | [] => some []
  | .bl b :: r => (blsD r).map (b :: ·)
  | _ => none
/-- keys -/
def keyD : D → Option L2.Key
  | .int i => some (.inl i)
  | .str s => some (.inr s)
  | _ => none
def unkey : L2.Key → D
  | .inl i => .int i
  | .inr s => .str s
def dgetD (k : L2.Key) : List L2.Key → List D → Option D
  | x :: r, d :: ds => if x = k then some d else dgetD k r ds
  | _, _ => none
def dputD (k : L2.Key) (v : D) (ks : List L2.Key) (vs : List D) : List L2.Key × List D := if (ks.any fun x => decide (x = k)) = true then (ks, List.zipWith (fun x d => if x = k then v else d) ks vs) else (ks ++ [k], vs ++ [v])
def intKs : List L2.Key → Option (List Int)
  | [] => some []
  | .inl i :: r => (intKs r).map (i :: ·)
  | _ => none
def inS (x : D) (l : D) : Option Bool := match itemsD l with
  | some ds => if flatD x && ds.all flatD then some (ds.any fun z => eqF z x) else
    match l with
    | .lst _ => match toPy x, toPys ds with
      | some px, some ps => if SeqAt.shaped px = true ∧ SeqAt.shaped (.list ps) = true then some (ps.any fun z => PyData.eqv z px) else none
      | _, _ => none
    | .tup _ => match toPy x, toPys ds with
      | some px, some ps => if SeqAt.shaped px = true ∧ SeqAt.shaped (.tuple ps) = true then some (ps.any fun z => PyData.eqv z px) else none
      | _, _ => none
    | _ => none
  | none => none
def inD (x : D) (l : D) : Option Bool := match l with
  | .dct ks vs => (keyD x).map fun k => (dgetD k ks vs).isSome
  | _ => inS x l
def cmpI (f : Int → Int → Bool) : D → D → Option Bool
  | .int i, .int j => some (f i j)
  | _, _ => none
def isN (x y : D) : Option Bool := match x, y with
  | .bl a, .bl b => some (a == b)
  | .non, .non => some true
  | _, .non => some false
  | _, _ => none
def cmpD : COp → D → D → Option Bool
  | .lt, a, b => cmpI (fun i j => decide (i < j)) a b
  | .le, a, b => cmpI (fun i j => decide (i ≤ j)) a b
  | .gt, a, b => cmpI (fun i j => decide (j < i)) a b
  | .ge, a, b => cmpI (fun i j => decide (j ≤ i)) a b
  | .eq, a, b => eqD a b
  | .ne, a, b => (eqD a b).map not
  | .inn, a, b => inD a b
  | .nin, a, b => (inD a b).map not
  | .iss, a, b => isN a b
  | .isn, a, b => (isN a b).map not

def negD : D → Option D
  | .int i => some (.int (-i))
  | _ => none
/-- the place of an index -/
def ixOf (n : Nat) (i : Int) : Option Nat := if 0 ≤ i then (if i < n then some i.toNat else none) else if -(n : Int) ≤ i then some (i + n).toNat else none
def idxS (a i : D) : Option D := match itemsD a, i with
  | some ds, .int k => (ixOf ds.length k).bind fun j => ds[j]?
  | _, _ => none
def idxD (a i : D) : Option D := match a with
  | .dct ks vs => (keyD i).bind fun k => dgetD k ks vs
  | _ => idxS a i
def cut (xs : List D) (lo hi : Option Int) : List D := (xs.drop (HT.sIx xs.length 0 lo)).take (HT.sIx xs.length xs.length hi - HT.sIx xs.length 0 lo)
def cutI (xs : List Int) (lo hi : Option Int) : List Int := (xs.drop (HT.sIx xs.length 0 lo)).take (HT.sIx xs.length xs.length hi - HT.sIx xs.length 0 lo)

/-- the least place -/
def ixFind (p : D → Bool) : List D → Option Nat
  | [] => none
  | d :: r => if p d then some 0 else (ixFind p r).map (· + 1)
def minI : List Int → Option Int
  | [] => none
  | x :: r => some (r.foldl (fun a b => if b < a then b else a) x)
def maxI : List Int → Option Int
  | [] => none
  | x :: r => some (r.foldl (fun a b => if a < b then b else a) x)
def insI (x : Int) : List Int → List Int
  | [] => [x]
  | y :: r => if x ≤ y then x :: y :: r else y :: insI x r
def sortI (l : List Int) : List Int := l.foldr insI []
def dedup : List Int → List Int
  | [] => []
  | x :: r => if x ∈ r then dedup r else x :: dedup r
def tyNames : List String := ["NoneType", "bool", "int", "str", "tuple", "list", "dict"]
def tyClasses : List String := ["int", "bool", "str", "tuple", "list", "dict"]
def tyName : D → Option String
  | .non => some "NoneType" | .bl _ => some "bool" | .int _ => some "int" | .str _ => some "str" | .tup _ => some "tuple" | .lst _ => some "list" | .dct _ _ => some "dict" | _ => none
def isSub (n t : String) : Bool := n == t || (n == "bool" && t == "int")
def isiD (d : D) (t : String) : Option Bool := if t ∈ tyClasses then (tyName d).map fun n => isSub n t else none
def mm2 (f : Int → Int → Int) : D → D → Option R
  | .int i, .int j => some (.v (.int (f i j)))
  | _, _ => none
/-- repr(x) -/
def reprD (d : D) : Option Str := match d with
  | .dct ks vs => if ks = [] ∧ vs = [] then some (PyData.dict []).shown else none
  | d => (toPy d).bind fun x => if x.showable = true ∧ x.depth ≤ 60 ∧ x.shown.length ≤ line then some x.shown else none
mutual
def ofPy : PyData → D
  | .none => .non
  | .bool b => .bl b
  | .int i => .int i
  | .str s => .str s
  | .list l => .lst (ofPys l)
  | .tuple l => .tup (ofPys l)
  | .dict _ => .non
def ofPys : List PyData → List D
  | [] => []
  | x :: r => ofPy x :: ofPys r
end
def alikeB (xs : List PyData) : Bool := xs.all (fun x => xs.all fun y => PySem.W.alike x y) && xs.all fun x => match x with | .none => false | _ => true
/-- the least, the greatest of alike things -/
def bestG (f : PyData → List PyData → PyData) (a : D) : Option R := (itemsD a).bind fun ds => (toPys ds).bind fun xs => match xs with
  | [] => none
  | x :: r => if alikeB (x :: r) = true ∧ PyData.depthAll (x :: r) ≤ 60 then some (.v (ofPy (f x r))) else none
def lenD : D → Option R
  | .dct ks _ => some (.v (.int ks.length))
  | a => (itemsD a).map fun l => .v (.int l.length)
def sortD : D → Option R
  | .lst l => (intsD l).map fun ns => .o (.lst ((sortI ns).map .int))
  | .tup l => (intsD l).map fun ns => .o (.lst ((sortI ns).map .int))
  | .dct ks _ => (intKs ks).bind fun ns => if ns.length < 64 then some (.o (.lst ((sortI ns).map .int))) else none
  | _ => none
def leastD (g : List Int → Option Int) (f : PyData → List PyData → PyData) (a : D) : Option R := match (itemsD a).bind intsD with
  | some ns => (g ns).map fun i => .v (.int i)
  | none => bestG f a
/-- a built-in function of data: what it hands back, and whether that is new -/
def bltD : Blt → List D → Option R
  | .len, [a] => lenD a
  | .abs, [.int i] => some (.v (.int (if i < 0 then -i else i)))
  | .int, [.int i] => some (.v (.int i))
  | .int, [.bl b] => some (.v (.int (if b then 1 else 0)))
  | .list, [a] => (itemsD a).map fun l => .o (.lst l)
  | .tuple, [a] => (itemsD a).map fun l => .v (.tup l)
  | .sum, [a] => ((itemsD a).bind intsD).map fun ns => .v (.int ns.sum)
  | .min, [a] => leastD minI PySem.W.minD a
  | .max, [a] => leastD maxI PySem.W.maxD a
  | .repr, [a] => (reprD a).map fun s => .v (.str s)
  | .min, [a, b] => mm2 (fun i j => if j < i then j else i) a b
  | .max, [a, b] => mm2 (fun i j => if j > i then j else i) a b
  | .sorted, [a] => sortD a
  | .all, [.lst l] => (blsD l).map fun bs => .v (.bl (bs.all id))
  | .any, [.lst l] => (blsD l).map fun bs => .v (.bl (bs.any id))
  | .isi, [a, .ty t] => (isiD a t).map fun b => .v (.bl b)
  | .lenset, [.tup l] => (intsD l).bind fun ns => if ns.length < 64 then some (.v (.int (dedup ns).length)) else none
  | _, _ => none
def mthD : Mth → D → D → Option D
  | .index, a, x => (itemsD a).bind fun ds => if flatD x && ds.all flatD then (ixFind (fun z => eqF z x) ds).map fun j => .int j else none
  | .count, .lst l, .int k => (intsD l).map fun ns => .int (ns.count k)
  | _, _, _ => none
/-- a changing method of an owned list: the new content, the answer -/
def mutD : Mut → List D → List D → Option (List D × D)
  | .append, l, [x] => if l.length < line then some (l ++ [x], .non) else none
  | .pop0, l, [] => (l[l.length - 1]?).map fun y => (l.dropLast, y)
  | .pop, l, [.int i] => (ixOf l.length i).bind fun j => (l[j]?).map fun y => (l.eraseIdx j, y)
  | .remove, l, [.int k] => (intsD l).bind fun ns => (ixFind (fun z => eqF z (.int k)) l).map fun j => (l.eraseIdx j, .non)
  | .extend, l, [.lst m] => if l.length + m.length ≤ line then some (l ++ m, .non) else none
  | .insert, l, [.int i, x] => if l.length < line ∧ 0 ≤ i ∧ i < line then some (l.take i.toNat ++ [x] ++ l.drop i.toNat, .non) else none
  | _, _, _ => none
def putN (f : Str) (v : D) : List Str → List D → List Str × List D
  | n :: ns, d :: ds => if n = f then (n :: ns, v :: ds) else ((n :: (putN f v ns ds).1), (d :: (putN f v ns ds).2))
  | _, _ => ([f], [v])
def getN (f : Str) : List Str → List D → Option D
  | n :: ns, d :: ds => if f = n then some d else getN f ns ds
  | _, _ => none
def attrD (fields : Nat → Option (List Str)) (f : Str) : D → Option D
  | .ins C ns vs => match fields C with
    | some fs => if f ∈ fs then getN f ns vs else none
    | none => none
  | _ => none

def kindD : D → Nat
  | .lst _ => 0
  | .tup _ => 1
  | _ => 2
mutual
def still : D → Bool
  | .tup l => stills l
  | .lst _ => false
  | .ins _ _ _ => false
  | .dct _ _ => false
  | .scr _ => false
  | _ => true
def stills : List D → Bool
  | [] => true
  | d :: r => still d && stills r
end

/-! ### the environment -/
def eget (ρ : Env) (i : Nat) : Option (Bool × D) := (ρ[i]?).bind id
def deref (ρ : Env) : R → Option D
  | .v d => some d
  | .o d => some d
  | .b s => (eget ρ s).map (·.2)
/-- the value for keeps: an owned thing is frozen -/
def freeze (r : R) (ρ : Env) : Option (D × Env) := match r with
  | .v d => some (d, ρ)
  | .o d => some (d, ρ)
  | .b s => match eget ρ s with
    | some (_, d) => some (d, ρ.set s (some (false, d)))
    | none => none
def freezes : List R → Env → Option (List D × Env)
  | [], ρ => some ([], ρ)
  | r :: rs, ρ => match freeze r ρ with
    | some (d, ρ1) => match freezes rs ρ1 with
      | some (ds, ρ2) => some (d :: ds, ρ2)
      | none => none
    | none => none
def derefs (ρ : Env) : List R → Option (List D)
  | [] => some []
  | r :: rs => match deref ρ r, derefs ρ rs with
    | some d, some ds => some (d :: ds)
    | _, _ => none
def wipeE (ρ : Env) : List Nat → Env
  | [] => ρ
  | v :: vs => (wipeE ρ vs).set v none
/-- behind a comprehension's turn: its own slots as they were -/
def back (old new : Env) : List Nat → Env
  | [] => new
  | v :: vs => (back old new vs).set v (eget old v)
mutual
def setTg : Tg → D → Env → Option Env
  | .var i, d, ρ => if i < ρ.length then some (ρ.set i (some (false, d))) else none
  | .nil, .tup [], ρ => some ρ
  | .cons a r, .tup (d :: ds), ρ => (setTg a d ρ).bind fun ρ1 => setTgs r ds ρ1
  | _, _, _ => none
def setTgs : Tg → List D → Env → Option Env
  | .nil, [], ρ => some ρ
  | .cons a r, d :: ds, ρ => (setTg a d ρ).bind fun ρ1 => setTgs r ds ρ1
  | _, _, _ => none
end
def tgFree (fx : List Nat) : Tg → Bool
  | .var i => decide (i ∉ fx)
  | .nil => true
  | .cons a r => tgFree fx a && tgFree fx r
/-- several names at once: a new thing goes to an owner -/
def prep : List (Nat × Bool) → List R → Env → Option (List (Bool × D) × Env)
  | [], [], ρ => some ([], ρ)
  | (_, own) :: ts, r :: rs, ρ => match own, r with
    | true, .o d => (prep ts rs ρ).map fun p => ((true, d) :: p.1, p.2)
    | _, r => match freeze r ρ with
      | some (d, ρ1) => (prep ts rs ρ1).map fun p => ((false, d) :: p.1, p.2)
      | none => none
  | _, _, _ => none
def setAll : List (Nat × Bool) → List (Bool × D) → Env → Env
  | (i, _) :: ts, x :: xs, ρ => setAll ts xs (ρ.set i (some x))
  | _, _, ρ => ρ

/-! ### calls -/
/-- an argument as a def takes it: owned (in and out) or frozen -/
abbrev Arg := Bool × D
/-- what a def's call does: the value, the new contents of the owned arguments -/
abbrev Phi := Nat → List Arg → Option (R × List D)
inductive Fl | nx | rt (r : R) | brk | cnt
/-- a def: parameters, slots, which parameters are owned, body -/
structure Fn where
  np : Nat
  ns : Nat
  io : List Bool
  body : Ss
def iterW (step : Env → Option (Env ⊕ (Fl × Env))) : Nat → Env → Option (Fl × Env)
  | 0, _ => none
  | n + 1, ρ => match step ρ with
    | none => none
    | some (.inl ρ1) => iterW step n ρ1
    | some (.inr r) => some r
structure Cfg where
  fields : Nat → Option (List Str)
  io : Nat → Option (List Bool)
  glob : Nat → Option D
  loop : (Env → Option (Env ⊕ (Fl × Env))) → Env → Option (Fl × Env)

def takeArgs (ρ : Env) : List R → List Bool → Option (List Arg × List Nat × List Nat)
  | [], [] => some ([], [], [])
  | r :: rs, m :: ms => match takeArgs ρ rs ms with
    | some (as, ios, ls) => match r, m with
      | .b s, true => match eget ρ s with
        | some (true, d) => some ((true, d) :: as, s :: ios, ls)
        | _ => none
      | .b s, false => match eget ρ s with
        | some (true, d) => some ((false, d) :: as, ios, s :: ls)
        | some (false, d) => some ((false, d) :: as, ios, ls)
        | none => none
      | .v d, false => some ((false, d) :: as, ios, ls)
      | .o d, false => some ((false, d) :: as, ios, ls)
      | _, true => none
    | none => none
  | _, _ => none
def setOuts : Env → List Nat → List D → Env
  | ρ, s :: ss, d :: ds => setOuts (ρ.set s (some (true, d))) ss ds
  | ρ, _, _ => ρ
def lose : Env → List Nat → Env
  | ρ, [] => ρ
  | ρ, s :: ss => match eget ρ s with
    | some (_, d) => lose (ρ.set s (some (false, d))) ss
    | none => lose ρ ss
def stillC : D → Bool
  | .lst l => stills l
  | .ins _ _ l => stills l
  | .dct _ l => stills l
  | d => still d
def stillR : R → Bool
  | .v d => still d
  | .o d => stillC d
  | .b _ => false
/-- a def's call from evaluated arguments -/
def callF (Gm : Cfg) (Φ : Phi) (f : Nat) (rs : List R) (ρ : Env) : Option (R × Env) :=
  match Gm.io f with
  | none => none
  | some io => match takeArgs ρ rs io with
    | none => none
    | some (as, ios, ls) => if (ios ++ ls).Nodup then match Φ f as with
      | none => none
      | some (r, outs) =>
        if outs.length = ios.length then
          let ρ1 := setOuts ρ ios outs
          some (r, if ls.isEmpty || (stillR r && outs.all stillC) then ρ1 else lose ρ1 ls)
        else none
      else none
/-- an instance made: its __init__ takes it, owned, without attributes -/
def makeF (Gm : Cfg) (Φ : Phi) (C : Nat) (rs : List R) (ρ : Env) : Option (R × Env) :=
  match freezes rs ρ with
  | none => none
  | some (ds, ρ1) => match Gm.io C with
    | some io => if io = (true :: ds.map fun _ => false) then match Φ C ((true, .ins C [] []) :: ds.map fun d => (false, d)) with
      | some (.v .non, [d]) => some (.o d, ρ1)
      | _ => none
      else none
    | none => none

def bindO {α β : Type} (x : Option (α × Env)) (f : α → Env → Option (β × Env)) : Option (β × Env) := match x with
  | some (a, ρ) => f a ρ
  | none => none
def tgIn (vs : List Nat) : Tg → Bool
  | .var i => vs.contains i
  | .nil => true
  | .cons a r => tgIn vs a && tgIn vs r
def rangeD (lo hi : Int) : Option (List D) := if -line ≤ lo ∧ lo ≤ line ∧ -line ≤ hi ∧ hi ≤ line ∧ hi - lo ≤ line then some ((List.range (hi - lo).toNat).map fun (i : Nat) => .int (lo + i)) else none
def slD (a : D) (lo hi : Option Int) : Option R := match a with
  | .lst l => some (.o (.lst (cut l lo hi)))
  | .tup l => some (.v (.tup (cut l lo hi)))
  | .scr l => some (.o (.lst ((cutI l lo hi).map .int)))
  | _ => none
def revD (a : D) : Option R := match a with
  | .lst l => some (.o (.lst l.reverse))
  | .tup l => some (.v (.tup l.reverse))
  | _ => none
/-- what a walk yields: a thing, or a new pair that only a target takes -/
inductive Itm | one (d : D) | two (a b : D)
/-- frozen, for a walk -/
def walkD (r : R) (ρ : Env) : Option (List Itm × Env) := match freeze r ρ with
  | some (d, ρ1) => (itemsD d).map fun l => (l.map Itm.one, ρ1)
  | none => none
def setItm (tg : Tg) : Itm → Env → Option Env
  | .one d, ρ => setTg tg d ρ
  | .two a b, ρ => match tg with
    | .cons x (.cons y .nil) => (setTg x a ρ).bind (setTg y b)
    | _ => none
def zipD (a b : D) : Option (List Itm) := match itemsD a, itemsD b with
  | some l, some m => some (List.zipWith Itm.two l m)
  | _, _ => none
def enumFrom : Nat → List D → List Itm
  | _, [] => []
  | i, d :: ds => .two (.int i) d :: enumFrom (i + 1) ds
def enumD : D → Option (List Itm)
  | .lst l => some (enumFrom 0 l)
  | .tup l => some (enumFrom 0 l)
  | _ => none
/-- the turns of a comprehension -/
def compGo (vs : List Nat) (turn : Itm → Env → Option (Option D × Env)) : List Itm → List D → Env → Option (List D × Env)
  | [], acc, ρ => some (acc, ρ)
  | d :: ds, acc, ρ => match turn d (wipeE ρ vs) with
    | some (some x, ρ1) => compGo vs turn ds (acc ++ [x]) (back ρ ρ1 vs)
    | some (none, ρ1) => compGo vs turn ds acc (back ρ ρ1 vs)
    | none => none
/-- the outer turns of a comprehension with two clauses -/
def compGo2 (vs : List Nat) (turn : Itm → Env → List D → Option (List D × Env)) : List Itm → List D → Env → Option (List D × Env)
  | [], acc, ρ => some (acc, ρ)
  | d :: ds, acc, ρ => match turn d (wipeE ρ vs) acc with
    | some (acc1, ρ1) => compGo2 vs turn ds acc1 (back ρ ρ1 vs)
    | none => none
def forGo (turn : Itm → Env → Option (Fl × Env)) : List Itm → Env → Option (Fl × Env)
  | [], ρ => some (.nx, ρ)
  | d :: ds, ρ => match turn d ρ with
    | some (.nx, ρ1) => forGo turn ds ρ1
    | some (.cnt, ρ1) => forGo turn ds ρ1
    | some (.brk, ρ1) => some (.nx, ρ1)
    | some (.rt r, ρ1) => some (.rt r, ρ1)
    | none => none
/-- a while's turn -/
def turnW (test : Env → Option (Bool × Env)) (body : Env → Option (Fl × Env)) (ρ : Env) : Option (Env ⊕ (Fl × Env)) := match test ρ with
  | some (true, ρ1) => match body ρ1 with
    | some (.nx, ρ2) => some (.inl ρ2)
    | some (.cnt, ρ2) => some (.inl ρ2)
    | some (.brk, ρ2) => some (.inr (.nx, ρ2))
    | some (.rt r, ρ2) => some (.inr (.rt r, ρ2))
    | none => none
  | some (false, ρ1) => some (.inr (.nx, ρ1))
  | none => none
/-- new or as it was: what a two-place operation hands back -/
def asR (op : BOp) (d : D) : R := match op, d with
  | _, .lst _ => .o d
  | _, _ => .v d
section
variable (Gm : Cfg) (Φ : Phi)
mutual
def evE : E → Env → Option (R × Env)
  | .var i, ρ => match eget ρ i with
    | some (true, _) => some (.b i, ρ)
    | some (false, d) => some (.v d, ρ)
    | none => none
  | .glob x, ρ => (Gm.glob x).map fun d => (.v d, ρ)
  | .cint i, ρ => some (.v (.int i), ρ)
  | .cbl b, ρ => some (.v (.bl b), ρ)
  | .cnon, ρ => some (.v .non, ρ)
  | .cstr s, ρ => some (.v (.str s), ρ)
  | .cty n, ρ => some (.v (.ty n), ρ)
  | .tup es, ρ => bindO (evEs es ρ) fun rs ρ1 => bindO (freezes rs ρ1) fun ds ρ2 => if ds.length ≤ line then some (.v (.tup ds), ρ2) else none
  | .lst es, ρ => bindO (evEs es ρ) fun rs ρ1 => bindO (freezes rs ρ1) fun ds ρ2 => if ds.length ≤ line then some (.o (.lst ds), ρ2) else none
  | .bin op a b, ρ => bindO (evE a ρ) fun ra ρ1 => bindO (evE b ρ1) fun rb ρ2 => match deref ρ2 ra, deref ρ2 rb with
    | some x, some y => (binD op x y).map fun d => (asR op d, ρ2)
    | _, _ => none
  | .neg a, ρ => bindO (evE a ρ) fun ra ρ1 => ((deref ρ1 ra).bind negD).map fun d => (.v d, ρ1)
  | .notv a, ρ => bindO (evE a ρ) fun ra ρ1 => match ra with
    | .v (.bl b) => some (.v (.bl (!b)), ρ1)
    | _ => none
  | .andv a b, ρ => bindO (evE a ρ) fun ra ρ1 => match ra with
    | .v (.bl true) => evE b ρ1
    | .v (.bl false) => some (.v (.bl false), ρ1)
    | _ => none
  | .orv a b, ρ => bindO (evE a ρ) fun ra ρ1 => match ra with
    | .v (.bl true) => some (.v (.bl true), ρ1)
    | .v (.bl false) => evE b ρ1
    | _ => none
  | .cmp op a b, ρ => bindO (evE a ρ) fun ra ρ1 => bindO (evE b ρ1) fun rb ρ2 => match deref ρ2 ra, deref ρ2 rb with
    | some x, some y => (cmpD op x y).map fun c => (.v (.bl c), ρ2)
    | _, _ => none
  | .chain op op' a b c, ρ => bindO (evE a ρ) fun ra ρ1 => bindO (evE b ρ1) fun rb ρ2 => match ra, rb with
    | .v x, .v y => match cmpD op x y with
      | some true => bindO (evE c ρ2) fun rc ρ3 => match deref ρ3 rc with
        | some z => (cmpD op' y z).map fun k => (.v (.bl k), ρ3)
        | none => none
      | some false => some (.v (.bl false), ρ2)
      | none => none
    | _, _ => none
  | .ite c a b, ρ => bindO (evT c ρ) fun k ρ1 => match k with
    | true => evE a ρ1
    | false => evE b ρ1
  | .idx a i, ρ => bindO (evE a ρ) fun ra ρ1 => bindO (evE i ρ1) fun ri ρ2 => match deref ρ2 ra, deref ρ2 ri with
    | some x, some y => (idxD x y).map fun d => (.v d, ρ2)
    | _, _ => none
  | .sl a lo hi, ρ => bindO (evE a ρ) fun ra ρ1 => bindO (evOe lo ρ1) fun l ρ2 => bindO (evOe hi ρ2) fun h ρ3 => match deref ρ3 ra with
    | some x => (slD x l h).map fun r => (r, ρ3)
    | none => none
  | .rev a, ρ => bindO (evE a ρ) fun ra ρ1 => ((deref ρ1 ra).bind revD).map fun r => (r, ρ1)
  | .call f es, ρ => bindO (evEs es ρ) fun rs ρ1 => callF Gm Φ f rs ρ1
  | .make C es, ρ => bindO (evEs es ρ) fun rs ρ1 => makeF Gm Φ C rs ρ1
  | .callb f es, ρ => bindO (evEs es ρ) fun rs ρ1 => match derefs ρ1 rs with
    | some ds => (bltD f ds).map fun r => (r, ρ1)
    | none => none
  | .meth m o e, ρ => bindO (evE o ρ) fun ro ρ1 => bindO (evE e ρ1) fun re ρ2 => match deref ρ1 ro, deref ρ2 ro, deref ρ2 re with
    | some x0, some x, some y => if kindD x0 = kindD x then (mthD m x y).map fun d => (.v d, ρ2) else none
    | _, _, _ => none
  | .mut m i es, ρ => match eget ρ i with
    | some (true, .lst _) => bindO (evEs es ρ) fun rs ρ1 => bindO (freezes rs ρ1) fun ds ρ2 => match eget ρ2 i with
      | some (true, .lst l) => (mutD m l ds).map fun p => (.v p.2, ρ2.set i (some (true, .lst p.1)))
      | _ => none
    | _ => none
  | .attr a f, ρ => bindO (evE a ρ) fun ra ρ1 => ((deref ρ1 ra).bind (attrD Gm.fields f)).map fun d => (.v d, ρ1)
  | .comp vs tg it c e, ρ => if !tgIn vs tg then none else bindO (evIt it ρ) fun w ρ1 =>
      bindO (compGo vs (fun d ρ2 => match setItm tg d ρ2 with
        | some ρ3 => bindO (evT c ρ3) fun k ρ4 => match k with
          | true => bindO (evE e ρ4) fun r ρ5 => bindO (freeze r ρ5) fun x ρ6 => some (some x, ρ6)
          | false => some (none, ρ4)
        | none => none) w [] ρ1) fun acc ρ7 => some (.o (.lst acc), ρ7)
  | .comp2 vs vs1 tg it c tg1 it1 c1 e, ρ => if !tgIn vs tg || !tgIn vs1 tg1 || !(vs1.all fun i => vs.contains i) then none else bindO (evIt it ρ) fun w ρ1 =>
      bindO (compGo2 vs (fun d ρ2 acc => match setItm tg d ρ2 with
        | some ρ3 => bindO (evT c ρ3) fun k ρ4 => match k with
          | true => bindO (evIt it1 ρ4) fun w1 ρ5 => compGo vs1 (fun d1 ρ6 => match setItm tg1 d1 ρ6 with
            | some ρ7 => bindO (evT c1 ρ7) fun k1 ρ8 => match k1 with
              | true => bindO (evE e ρ8) fun r ρ9 => bindO (freeze r ρ9) fun x ρ10 => some (some x, ρ10)
              | false => some (none, ρ8)
            | none => none) w1 acc ρ5
          | false => some (acc, ρ4)
        | none => none) w [] ρ1) fun acc ρ7 => if acc.length ≤ line then some (.o (.lst acc), ρ7) else none
  | .dic0, ρ => some (.o (.dct [] []), ρ)
  | .dic1 k v, ρ => bindO (evE k ρ) fun rk ρ1 => bindO (evE v ρ1) fun rv ρ2 => bindO (freeze rv ρ2) fun d ρ3 => match rk with
    | .v y => (keyD y).map fun ky => (.o (.dct [ky] [d]), ρ3)
    | _ => none
  | .lrange es, ρ => bindO (evEs es ρ) fun rs ρ1 => match rs with
    | [.v (.int j)] => (rangeD 0 j).map fun l => (.o (.lst l), ρ1)
    | [.v (.int i), .v (.int j)] => (rangeD i j).map fun l => (.o (.lst l), ρ1)
    | _ => none
def evT : T → Env → Option (Bool × Env)
  | .yes, ρ => some (true, ρ)
  | .val e, ρ => bindO (evE e ρ) fun r ρ1 => match r with
    | .v (.bl b) => some (b, ρ1)
    | _ => none
  | .and a b, ρ => bindO (evT a ρ) fun k ρ1 => match k with
    | true => evT b ρ1
    | false => some (false, ρ1)
  | .or a b, ρ => bindO (evT a ρ) fun k ρ1 => match k with
    | true => some (true, ρ1)
    | false => evT b ρ1
  | .not a, ρ => bindO (evT a ρ) fun k ρ1 => some (!k, ρ1)
def evEs : Es → Env → Option (List R × Env)
  | .nil, ρ => some ([], ρ)
  | .cons e r, ρ => bindO (evE e ρ) fun x ρ1 => bindO (evEs r ρ1) fun xs ρ2 => some (x :: xs, ρ2)
def evOe : Oe → Env → Option (Option Int × Env)
  | .none, ρ => some (none, ρ)
  | .some e, ρ => bindO (evE e ρ) fun r ρ1 => match r with
    | .v (.int i) => some (some i, ρ1)
    | _ => none
def evIt : It → Env → Option (List Itm × Env)
  | .seq e, ρ => bindO (evE e ρ) fun r ρ1 => walkD r ρ1
  | .range1 a, ρ => bindO (evE a ρ) fun r ρ1 => match r with
    | .v (.int j) => (rangeD 0 j).map fun l => (l.map Itm.one, ρ1)
    | _ => none
  | .range2 a b, ρ => bindO (evE a ρ) fun r ρ1 => bindO (evE b ρ1) fun r' ρ2 => match r, r' with
    | .v (.int i), .v (.int j) => (rangeD i j).map fun l => (l.map Itm.one, ρ2)
    | _, _ => none
  | .zip a b, ρ => bindO (evE a ρ) fun r ρ1 => bindO (evE b ρ1) fun r' ρ2 => bindO (freeze r ρ2) fun d ρ3 => bindO (freeze r' ρ3) fun d' ρ4 => (zipD d d').map fun l => (l, ρ4)
  | .enum a, ρ => bindO (evE a ρ) fun r ρ1 => bindO (freeze r ρ1) fun d ρ2 => (enumD d).map fun l => (l, ρ2)
end
variable (fx : List Nat)
mutual
def evS : S → Env → Option (Fl × Env)
  | .asg tg e, ρ => if tgFree fx tg then bindO (evE Gm Φ e ρ) fun r ρ1 => bindO (freeze r ρ1) fun d ρ2 => (setTg tg d ρ2).map fun ρ3 => (.nx, ρ3) else none
  | .own i e, ρ => if i ∈ fx then none else bindO (evE Gm Φ e ρ) fun r ρ1 => match r with
    | .o d => if i < ρ1.length then some (.nx, ρ1.set i (some (true, d))) else none
    | r => bindO (freeze r ρ1) fun d ρ2 => if i < ρ2.length then some (.nx, ρ2.set i (some (false, d))) else none
  | .par _ ts es, ρ => bindO (evEs Gm Φ es ρ) fun rs ρ1 => if ts.all (fun t => decide (t.1 ∉ fx) && decide (t.1 < ρ1.length)) ∧ ts.length ≤ line then (prep ts rs ρ1).map fun p => (.nx, setAll ts p.1 p.2) else none
  | .setix i ix e, ρ => match eget ρ i with
    | some (true, .lst _) => bindO (evE Gm Φ e ρ) fun r ρ1 => bindO (evE Gm Φ ix ρ1) fun ri ρ2 => bindO (freeze r ρ2) fun d ρ3 => match ri, eget ρ3 i with
      | .v (.int k), some (true, .lst l) => (ixOf l.length k).map fun j => (.nx, ρ3.set i (some (true, .lst (l.set j d))))
      | _, _ => none
    | some (true, .dct _ _) => bindO (evE Gm Φ e ρ) fun r ρ1 => bindO (evE Gm Φ ix ρ1) fun ri ρ2 => bindO (freeze r ρ2) fun d ρ3 => match ri, eget ρ3 i with
      | .v y, some (true, .dct ks vs) => (keyD y).bind fun k => if ks.length < line then some (.nx, ρ3.set i (some (true, .dct (dputD k d ks vs).1 (dputD k d ks vs).2))) else none
      | _, _ => none
    | _ => none
  | .setat i f e, ρ => bindO (evE Gm Φ e ρ) fun r ρ1 => bindO (freeze r ρ1) fun d ρ2 => match eget ρ2 i with
    | some (true, .ins C ns vs) => match Gm.fields C with
      | some fs => if f ∈ fs ∧ vs.length < 900 then some (.nx, ρ2.set i (some (true, .ins C (putN f d ns vs).1 (putN f d ns vs).2))) else none
      | none => none
    | _ => none
  | .aug i op e, ρ => if i ∈ fx then none else match eget ρ i with
    | some (false, .int x) => bindO (evE Gm Φ e ρ) fun r ρ1 => match r, op with
      | .v (.int y), .add => some (.nx, ρ1.set i (some (false, .int (x + y))))
      | .v (.int y), .sub => some (.nx, ρ1.set i (some (false, .int (x - y))))
      | _, _ => none
    | _ => none
  | .augix i ix op e, ρ => match eget ρ i with
    | some (true, .lst _) => bindO (evE Gm Φ ix ρ) fun ri ρ1 => match ri, eget ρ1 i with
      | .v (.int k), some (true, .lst l) => match (ixOf l.length k).bind fun j => l[j]? with
        | some (.int x) => bindO (evE Gm Φ e ρ1) fun r ρ2 => match r, eget ρ2 i with
          | .v (.int y), some (true, .lst l2) => match op with
            | .add => (ixOf l2.length k).map fun j => (.nx, ρ2.set i (some (true, .lst (l2.set j (.int (x + y))))))
            | .sub => (ixOf l2.length k).map fun j => (.nx, ρ2.set i (some (true, .lst (l2.set j (.int (x - y))))))
            | _ => none
          | _, _ => none
        | _ => none
      | _, _ => none
    | _ => none
  | .expr e, ρ => bindO (evE Gm Φ e ρ) fun _ ρ1 => some (.nx, ρ1)
  | .ret e, ρ => bindO (evE Gm Φ e ρ) fun r ρ1 => match r with
    | .v d => some (.rt (.v d), ρ1)
    | .o d => some (.rt (.o d), ρ1)
    | .b s => if s ∈ fx then none else match eget ρ1 s with
      | some (true, d) => some (.rt (.o d), ρ1.set s none)
      | some (false, d) => some (.rt (.v d), ρ1)
      | none => none
  | .retn, ρ => some (.rt (.v .non), ρ)
  | .ite c a b, ρ => bindO (evT Gm Φ c ρ) fun k ρ1 => match k with
    | true => evSs a ρ1
    | false => evSs b ρ1
  | .whil c b, ρ => Gm.loop (turnW (fun ρ => evT Gm Φ c ρ) fun ρ => evSs b ρ) ρ
  | .for_ tg it b, ρ => if !tgFree fx tg then none else bindO (evIt Gm Φ it ρ) fun w ρ1 => forGo (fun d ρ2 => match setItm tg d ρ2 with
    | some ρ3 => evSs b ρ3
    | none => none) w ρ1
  | .pass, ρ => some (.nx, ρ)
  | .brk, ρ => some (.brk, ρ)
  | .cnt, ρ => some (.cnt, ρ)
  | .never, _ => none
def evSs : Ss → Env → Option (Fl × Env)
  | .nil, ρ => some (.nx, ρ)
  | .cons s r, ρ => match evS s ρ with
    | some (.nx, ρ1) => evSs r ρ1
    | x => x
end
end
/-- assigned slots -/
def outsOf : List Bool → Nat → Env → Option (List D)
  | [], _, _ => some []
  | true :: r, i, ρ => match eget ρ i, outsOf r (i + 1) ρ with
    | some (true, d), some ds => some (d :: ds)
    | _, _ => none
  | false :: r, i, ρ => outsOf r (i + 1) ρ
def fixed : List Bool → Nat → List Nat
  | [], _ => []
  | true :: r, i => i :: fixed r (i + 1)
  | false :: r, i => fixed r (i + 1)
/-- a def's run -/
def runF (Gm : Cfg) (Φ : Phi) (F : Fn) (as : List Arg) : Option (R × List D) :=
  if as.map (·.1) = F.io then
    match evSs Gm Φ (fixed F.io 0) F.body (as.map some ++ List.replicate (F.ns - F.np) none) with
    | some (.nx, ρ) => (outsOf F.io 0 ρ).map fun o => (.v .non, o)
    | some (.rt (.v d), ρ) => (outsOf F.io 0 ρ).map fun o => (.v d, o)
    | some (.rt (.o d), ρ) => (outsOf F.io 0 ρ).map fun o => (.o d, o)
    | _ => none
  else none
def phi (Gm : Cfg) (tab : Nat → Option Fn) : Nat → Phi
  | 0 => fun _ _ => none
  | n + 1 => fun f as => match tab f with
    | some F => runF Gm (phi Gm tab n) F as
    | none => none
end Mi

/-! MiB1 -/
set_option Elab.async false
set_option linter.all false
set_option maxRecDepth 100000
set_option maxHeartbeats 2000000
namespace Mi
open PySem PySem.Spec PyProof.Rows L2
section
variable {prog : Program} {w : World} {A : Around} {E : Value → Shared → Prop} {s : Shared}
theorem sliceApplied_back {sl : Addr} {t : Tok} {n : Nat} {Q : Int × Int × Nat → Shared → Prop} (hs : s.heap.IsSliceOf sl .none .none (.int (-1) t))
    (h : Q ((n : Int) - 1, -1, n) s) : wpAny (model prog w) A (Builtin.Slice.sliceApplied (.ref sl) (pure (n : Int))) Q E s := by
  obtain ⟨os, hos, hcs, hds⟩ := id hs
  unfold Builtin.Slice.sliceApplied Builtin.Slice.sliceFields
  refine wpAny_bind (wpAny_bind (wpAny_field hos hds (x := .none) rfl (wpAny_bind (wpAny_field hos hds (x := .none) rfl (wpAny_bind (wpAny_field hos hds (x := .int (-1) t) rfl (wpAny_pure ?_)))))))
  refine wpAny_bind (slicePart_int ?_)
  show wpAny _ _ (if ((-1 : Int) == 0) = true then _ else _) _ _ s
  rw [if_neg (by decide)]
  refine wpAny_bind (slicePart_none (wpAny_bind (slicePart_none (wpAny_bind (wpAny_pure ?_)))))
  show wpAny _ _ (match Builtin.Slice.sliceAdjust none none (-1) (n : Int) with | (lo, hi) => pure (lo, (-1 : Int), Builtin.Slice.slicePlaces lo hi (-1))) _ _ s
  have e : Builtin.Slice.slicePlaces ((n : Int) - 1) (-1) (-1) = n := by
    unfold Builtin.Slice.slicePlaces
    have h1 : ¬ ((-1 : Int) > 0) := by omega
    simp only [h1, if_false, Int.neg_neg, Int.ediv_one]
    split <;> omega
  show wpAny _ _ (pure ((n : Int) - 1, (-1 : Int), Builtin.Slice.slicePlaces ((n : Int) - 1) (-1) (-1))) _ _ s
  rw [e]
  exact wpAny_pure h
theorem fm_some {α β : Type} {f : α → Option β} {g : α → β} : ∀ {l : List α}, (∀ m ∈ l, f m = some (g m)) → l.filterMap f = l.map g
  | [], _ => rfl
  | x :: r, h => by
    rw [List.filterMap_cons, h x List.mem_cons_self, List.map_cons, fm_some fun m hm => h m (List.mem_cons_of_mem _ hm)]
theorem pick_back (xs : List Value) : ((List.range xs.length).filterMap fun (m : Nat) => xs.toArray[(((xs.length : Nat) : Int) - 1 + (m : Int) * -1).toNat]?).toArray = xs.reverse.toArray := by
  congr 1
  apply List.ext_getElem?
  intro i
  have e : (List.range xs.length).filterMap (fun (m : Nat) => xs.toArray[(((xs.length : Nat) : Int) - 1 + (m : Int) * -1).toNat]?) = (List.range xs.length).map fun m => xs.getD (xs.length - 1 - m) .none := by
    apply fm_some
    intro m hm
    have hm := List.mem_range.mp hm
    have e1 : (((xs.length : Nat) : Int) - 1 + (m : Int) * -1).toNat = xs.length - 1 - m := by omega
    rw [e1]
    have h2 : xs.length - 1 - m < xs.length := by omega
    simp [List.getD, h2]
  rw [e]
  by_cases h : i < xs.length
  · rw [List.getElem?_reverse h]
    have h2 : xs.length - 1 - i < xs.length := by omega
    simp [List.getD, h, h2]
  · rw [List.getElem?_eq_none (by simp; omega), List.getElem?_eq_none (by simp; omega)]
theorem getItem_tuple_back {t sl : Addr} {its : List Value} {tk : Tok} {Q : Value → Shared → Prop} (ht : IsTup s.heap t its.toArray) (hs : s.heap.IsSliceOf sl .none .none (.int (-1) tk))
    (h : Q (.ref s.heap.objs.size) { s with heap := s.heap.push { cls := .type "tuple", data := .seq its.reverse.toArray } })
    (hsz : its.length ≤ sizeLine) : wpAny (model prog w) A (getItem (.ref t) (.ref sl)) Q E s := by
  have htake : sizeOk (.seq its.reverse.toArray) := by
    show its.reverse.toArray.size ≤ sizeLine
    rw [List.size_toArray, List.length_reverse]
    exact hsz
  obtain ⟨os, hos, hcs, hds⟩ := id hs
  have hTs : s.TypeIs (.ref sl) "slice" := ⟨os, hos, hcs⟩
  unfold getItem
  try with_reducible refine wpAny_holding ?_
  first | refine wpAny_bind (wpAny_pure ?_) | skip
  refine wpAny_bind (wpAny_sequenceKey ht.typeIs (by decide) ?_)
  refine wpAny_bind (wpAny_callSpecial?_slot (name := Str.ofString "__getitem__") ht.typeIs PyProof.Rows.slot_tuple_getitem
    (wpAny_call_entry PyProof.Rows.slot_tuple_getitem ht.typeIs entry_tuple_getitem ?_ (args_tuple_getitem _ _)))
  show wpAny _ _ (Builtin.Tuple.tupleItemsOf (.ref t) >>= _) _ _ s
  refine wpAny_bind (tupleItemsOf_ ht ?_)
  refine wpAny_bind (wpAny_typeOf hTs ?_)
  rw [if_pos (by decide)]
  have el : its.toArray.size = its.length := List.size_toArray ..
  rw [el]
  refine wpAny_bind (sliceApplied_back hs ?_)
  have hno : ¬ ((((its.length : Nat) : Int) - 1 == 0 && (-1 : Int) == 1 && its.length == its.length) = true) := by
    intro q
    rw [Bool.and_eq_true, Bool.and_eq_true] at q
    have q1 := q.1.2
    exact absurd q1 (by decide)
  show wpAny _ _ (if (((its.length : Nat) : Int) - 1 == 0 && (-1 : Int) == 1 && its.length == its.length) = true then _ else _) _ _ s
  rw [if_neg hno, pick_back]
  first
    | exact wpAny_bind (m := Builtin.Tuple.tupleExact _) (wpAny_newObj_type (wpAny_pure ⟨_, rfl, wpAny_pure h⟩) htake)
    | exact wpAny_bind (m := Builtin.Tuple.tupleExact _) (wpAny_newObj_type (wpAny_bind (wpAny_pure (wpAny_pure ⟨_, rfl, wpAny_pure h⟩))) htake)
    | exact wpAny_bind (wpAny_bind (m := Builtin.Tuple.tupleExact _) (wpAny_newObj_type (wpAny_pure (wpAny_pure ⟨_, rfl, wpAny_pure h⟩)) htake))
    | exact wpAny_bind (wpAny_bind (m := Builtin.Tuple.tupleExact _) (wpAny_newObj_type (wpAny_pure ⟨_, rfl, wpAny_pure h⟩) htake))
end
section
variable {X : Cx} {e : Expr} {te : TE} {pos p1 p2 p3 : Pos} {k : Nat}
/-- a tuple whose object is known to bear no dict -/
def TupAt (K : PySem.W.Frag) (H : Hp) (a : Addr) (xs : List V) : Prop := (∃ o, H a = some (.frz o (.tup xs)) ∧ o.dict = none) ∨
  ∃ (o : Obj) (its : Array Value) (n : Nat), K.lookup a = some o ∧ o.cls = .type "tuple" ∧ o.dict = none ∧ o.data = .seq its n ∧ its.size ≤ sizeLine ∧ Vals xs its.toList
theorem TupAt.sqT {K : PySem.W.Frag} {H : Hp} {a : Addr} {xs : List V} (h : TupAt K H a xs) : SqT K H a xs := by
  rcases h with ⟨o, h, _⟩ | ⟨o, its, n, h1, h2, _, h3, h4, h5⟩
  · exact .inl (.inr ⟨o, h⟩)
  · exact .inr ⟨o, its, n, h1, h2, h3, h4, h5⟩
/-- a new tuple of these -/
def NewT (xs : List V) (H : Hp) (Q : VK) : Prop := ∀ p o, H p = none → o.dict = none → Q (.ref p) (upd H p (.frz o (.tup xs)))
theorem tup_laid {X : Cx} {pins : List (Addr × Obj)} {σ : L2.St} {H : Hp} {s : Shared} {Q : VK} {xs : List V} {us : List Value} {n : Nat} {t : Nat} (I : Inv X pins σ H s) (r : Vals xs us) (z : xs.length ≤ sizeLine) (q : NewT xs H Q) :
    EP X pins σ Q (.ref s.heap.objs.size) { s with heap := s.heap.push { cls := .type "tuple", data := .seq us.toArray n }, toks := t } := by
  have hf : H s.heap.objs.size = none := I.hok.fresh (Nat.le_refl _)
  refine ⟨.ref s.heap.objs.size, _, I.laid (t' := t) (o := .frz { cls := .type "tuple", data := .seq us.toArray n } (.tup xs)) (fun b u e => Heap.get?_push_of_some _ e) (Nat.le_refl _) ?_, rfl, q _ _ hf rfl⟩
  exact ⟨Heap.get?_push_size _ rfl, z, us, r, ⟨_, Heap.get?_push_size _ rfl, rfl, _, rfl⟩⟩
def rRev (K : PySem.W.Frag) : V → Hp → VK → Prop := fun x H Q => (∃ a xs, x = .ref a ∧ SqL K H a xs ∧ ∀ p, H p = none → Q (.ref p) (upd H p (.lst xs.reverse))) ∨
  (∃ a xs, x = .ref a ∧ SqT K H a xs ∧ NewT xs.reverse H Q)
theorem pe_rev (he : PE X e te) : PE X (.Subscript e (.Slice none none (some (.UnaryOp .USub (.Constant (.int 1) k p1) p2)) p3) pos) (tUn (rRev X.K) te) := by
  refine ⟨fun pins s σ H Q I h => ?_⟩
  refine Subscript_ (thn (he.run pins s σ H _ I h) fun v s1 ⟨x, H1, I1, r1, q1⟩ => ?_)
  refine wpAny_Slice ?_
  rw [evalPart_none]
  refine wpAny_pure (wpAny_pure ?_)
  rw [evalPart_some]
  have hm : PE X (.UnaryOp .USub (.Constant (.int 1) k p1) p2) (tUn (rU fun i => .int (-i)) (tC (.int 1))) := pe_un un_neg pe_int
  refine thn (hm.run pins s1 σ H1 (fun y H' => y = .int (-1) ∧ H' = H1) I1 ⟨1, rfl, rfl, rfl⟩) fun st s3 ⟨y, H3, I3, r3, e3, e4⟩ => ?_
  subst e3 e4
  obtain ⟨tk, rfl⟩ := r3
  have I4 : Inv X pins σ H3 { s3 with heap := s3.heap.push { cls := .type "slice", data := .fields #[.none, .none, .int (-1) tk] } } := I3.kept (t' := s3.toks) fun b ob q => Heap.get?_push_of_some _ q
  show wpAny (model X.prog X.w) X.A (subscriptTail e (.Slice none none (some (.UnaryOp .USub (.Constant (.int 1) k p1) p2)) p3) v (.ref s3.heap.objs.size)) (EP X pins σ Q) X.xe { s3 with heap := s3.heap.push { cls := .type "slice", data := .fields #[.none, .none, .int (-1) tk] } }
  rcases q1 with ⟨a, xs, rfl, hx, q⟩ | ⟨a, xs, rfl, hx, q⟩
  · cases r1
    obtain ⟨its, r, hl, hz⟩ := I4.list hx
    have hlen : its.toArray.size = xs.length := by rw [List.size_toArray]; exact r.length.symm
    refine tail_any (ops := [.ref a, .ref s3.heap.objs.size]) hl.isList.typeIs list_getitem_lookup ?_ (by with_unfolding_all rfl)
    refine wpAny_getItem_list_slice hl.isList (Heap.IsSliceOf.new ..) .none .none (.int (-1) tk) (by decide) ?_ (by rw [hlen]; exact hz)
    rw [PySem.W.krv_pick]
    refine ⟨.ref _, _, I4.laid (t' := s3.toks) (o := .lst xs.reverse) (fun b ob q => Heap.get?_push_of_some _ q) (Nat.le_refl _) ?_, rfl, q _ (I4.hok.fresh (Nat.le_refl _))⟩
    exact ⟨by rw [List.length_reverse]; exact hz, its.reverse, 0, r.reverse, Heap.get?_push_size _ rfl⟩
  · cases r1
    obtain ⟨its, r, ht, hz⟩ := I4.tuple hx
    have hlen : its.length = xs.length := r.length.symm
    refine tail_any (ops := [.ref a, .ref s3.heap.objs.size]) ht.typeIs PyProof.Rows.slot_tuple_getitem.lookup ?_ (by with_unfolding_all rfl)
    refine getItem_tuple_back ht (Heap.IsSliceOf.new ..) ?_ (by rw [hlen]; exact hz)
    exact tup_laid (t := s3.toks) I4 r.reverse (by rw [List.length_reverse]; exact hz) q
end
end Mi

/-! MiB2 -/
set_option Elab.async false
set_option linter.all false
set_option maxRecDepth 100000
set_option maxHeartbeats 2000000
namespace Mi
open PySem PySem.Spec PyProof.Rows L2
def pyB : BOp → Operator
  | .add => .Add | .sub => .Sub | .mul => .Mult | .fdiv => .FloorDiv | .mod => .Mod | .pow => .Pow
def pyC : COp → CmpOp
  | .lt => .Lt | .le => .LtE | .gt => .Gt | .ge => .GtE | .eq => .Eq | .ne => .NotEq | .inn => .In | .nin => .NotIn | .iss => .Is | .isn => .IsNot
/-! ### built-ins -/
def SqA (K : PySem.W.Frag) (H : Hp) (a : Addr) (xs : List V) : Prop := SqL K H a xs ∨ SqT K H a xs
def rLen (K : PySem.W.Frag) : List V → Hp → VK → Prop := fun xs H Q => ∃ p ys, xs = [.ref p] ∧ SqA K H p ys ∧ Q (.int ys.length) H
def rMinI (K : PySem.W.Frag) : List V → Hp → VK → Prop := fun vs H Q => ∃ (a : Addr) (ns : List Int), vs = [V.ref a] ∧ SqA K H a (ns.map V.int) ∧ 0 < ns.length ∧ ∀ m, m ∈ ns → (∀ y, y ∈ ns → m ≤ y) → Q (.int m) H
def rSumI (K : PySem.W.Frag) : List V → Hp → VK → Prop := fun vs H Q => ∃ (a : Addr) (ns : List Int), vs = [V.ref a] ∧ SqA K H a (ns.map V.int) ∧ Q (.int ns.sum) H
def rMaxI (K : PySem.W.Frag) : List V → Hp → VK → Prop := fun vs H Q => ∃ (a : Addr) (ns : List Int), vs = [V.ref a] ∧ SqA K H a (ns.map V.int) ∧ 0 < ns.length ∧ ∀ m, m ∈ ns → (∀ y, y ∈ ns → y ≤ m) → Q (.int m) H
def rLenSet (K : PySem.W.Frag) : List V → Hp → VK → Prop := fun vs H Q => ∃ (l : Addr) (ns : List Int), vs = [V.ref l] ∧ SqT K H l (ns.map V.int) ∧ ns.length < 64 ∧ ∀ out : List Int, out.Nodup → (∀ k, k ∈ out ↔ k ∈ ns) → Q (.int out.length) H
def rList (K : PySem.W.Frag) : List V → Hp → VK → Prop := fun xs H Q => ∃ p ys, xs = [.ref p] ∧ (SqL K H p ys ∨ SqT K H p ys) ∧ ∀ l, H l = none → Q (.ref l) (upd H l (.lst ys))
def rAbs : List V → Hp → VK → Prop := fun xs H Q => ∃ i, xs = [.int i] ∧ Q (.int (if i < 0 then -i else i)) H
def rInt : List V → Hp → VK → Prop := fun xs H Q => (∃ i, xs = [.int i] ∧ Q (.int i) H) ∨ ∃ k, xs = [.bl k] ∧ Q (.int (if k then 1 else 0)) H
def orC (r r' : List V → Hp → VK → Prop) : List V → Hp → VK → Prop := fun xs H Q => r xs H Q ∨ r' xs H Q
def rMin2 : List V → Hp → VK → Prop := fun xs H Q => ∃ i j, xs = [.int i, .int j] ∧ Q (.int (if j < i then j else i)) H
def rMax2 : List V → Hp → VK → Prop := fun xs H Q => ∃ i j, xs = [.int i, .int j] ∧ Q (.int (if j > i then j else i)) H
/-- the ints of a list read -/
theorem readsAll_ints {h : Heap} : ∀ {ns : List Int} {us : List Value}, IntsAre us ns → ReadsAll h us (ns.map PyData.int) []
  | _, _, .nil => .nil
  | _, _, .cons n t r => by
    have := readsAll_ints (h := h) r
    exact ReadsAll.cons (as := []) (bs := []) (Reads.int n t) this
theorem alike_ints (ns : List Int) : PySem.W.AlikeAll (ns.map PyData.int) := by
  refine ⟨fun x hx y hy => ?_, fun x hx => ?_⟩
  · obtain ⟨i, _, rfl⟩ := List.mem_map.mp hx
    obtain ⟨j, _, rfl⟩ := List.mem_map.mp hy
    simp [PySem.W.alike]
  · obtain ⟨i, _, rfl⟩ := List.mem_map.mp hx
    exact fun z => nomatch z
theorem foldl_min_mem : ∀ (ns : List Int) (n : Int), ns.foldl min n ∈ n :: ns ∧ ∀ y ∈ n :: ns, ns.foldl min n ≤ y
  | [], n => ⟨List.mem_cons_self, fun y hy => by simp at hy; subst hy; exact Int.le_refl _⟩
  | k :: r, n => by
    obtain ⟨h1, h2⟩ := foldl_min_mem r (min n k)
    rw [List.foldl_cons]
    refine ⟨?_, fun y hy => ?_⟩
    · rcases List.mem_cons.mp h1 with e | e
      · rw [e]
        by_cases h : n ≤ k
        · rw [Int.min_eq_left h]; exact List.mem_cons_self
        · rw [Int.min_eq_right (by omega)]; exact List.mem_cons_of_mem _ List.mem_cons_self
      · exact List.mem_cons_of_mem _ (List.mem_cons_of_mem _ e)
    · have h3 := h2 (min n k) List.mem_cons_self
      rcases List.mem_cons.mp hy with e | e
      · subst e; omega
      · rcases List.mem_cons.mp e with e | e
        · subst e; omega
        · exact h2 y (List.mem_cons_of_mem _ e)
theorem foldl_max_mem : ∀ (ns : List Int) (n : Int), ns.foldl max n ∈ n :: ns ∧ ∀ y ∈ n :: ns, y ≤ ns.foldl max n
  | [], n => ⟨List.mem_cons_self, fun y hy => by simp at hy; subst hy; exact Int.le_refl _⟩
  | k :: r, n => by
    obtain ⟨h1, h2⟩ := foldl_max_mem r (max n k)
    rw [List.foldl_cons]
    refine ⟨?_, fun y hy => ?_⟩
    · rcases List.mem_cons.mp h1 with e | e
      · rw [e]
        by_cases h : k ≤ n
        · rw [Int.max_eq_left h]; exact List.mem_cons_self
        · rw [Int.max_eq_right (by omega)]; exact List.mem_cons_of_mem _ List.mem_cons_self
      · exact List.mem_cons_of_mem _ (List.mem_cons_of_mem _ e)
    · have h3 := h2 (max n k) List.mem_cons_self
      rcases List.mem_cons.mp hy with e | e
      · subst e; omega
      · rcases List.mem_cons.mp e with e | e
        · subst e; omega
        · exact h2 y (List.mem_cons_of_mem _ e)
section
variable {X : Cx}
theorem cr_len : CallR X (.builtin "len") (rLen X.K) := call_len_seq
theorem cr_minI (hc : X.calm = true) (hu : X.A.units + 65 < cLine) : CallR X (.builtin "min") (rMinI X.K) := by
  intro pins s σ H vs us Q I r h
  obtain ⟨a, ns, rfl, hs, hne, q⟩ := h
  rcases hs with hs | hs
  · exact cr_min hc pins s σ H _ us Q I r ⟨a, ns, rfl, hs, hne, q⟩
  · obtain ⟨its, rv, ht, _⟩ := I.tuple hs
    rw [Vals.ref1 r]
    cases ns with
    | nil => simp at hne
    | cons n ns =>
      refine PySem.W.min_tuple_data (I.ok.hd hc) (show s.heap.IsTuple a its.toArray from ht) (x := .int n) (xs := ns.map .int) (as := []) ?_ (alike_ints (n :: ns)) ?_ fun i v h' tk bs _ hr hk => ?_
      · have := readsAll_ints (h := s.heap) rv.ints
        simpa using this
      · have e : PyData.depthAll (PyData.int n :: ns.map .int) = 0 := PyProof.Rows.depthAll_ints (n :: ns)
        rw [e]; omega
      · rw [PySem.W.minD_ints] at hr
        cases hr
        obtain ⟨h1, h2⟩ := foldl_min_mem ns n
        exact ⟨.int _, H, I.kept hk, ⟨_, rfl⟩, q _ h1 h2⟩
theorem cr_sumI (hc : X.calm = true) : CallR X (.builtin "sum") (rSumI X.K) := by
  intro pins s σ H vs us Q I r h
  obtain ⟨a, ns, rfl, hs, q⟩ := h
  rcases hs with hs | hs
  · exact cr_sum hc pins s σ H _ us Q I r ⟨a, ns, rfl, hs, q⟩
  · obtain ⟨its, rv, ht, _⟩ := I.tuple hs
    rw [Vals.ref1 r]
    have hl : s.heap.IsTuple a its.toArray := ht
    have hi : IntsAre its.toArray.toList ns := by simpa using rv.ints
    obtain ⟨xs, e⟩ := hi.allInts.items
    have hn : numsOf (intItems xs).toList = ns := by rw [← e]; exact hi.numsOf
    rw [nums_intItems] at hn
    rw [e] at hl
    refine PySem.W.ktm_sumG (I.ok.hd hc) hl fun h' tk t' hk => ⟨.int _, H, I.kept hk, ⟨_, rfl⟩, ?_⟩
    rw [preSum_eq, List.take_of_length_le (by simp), hn]
    exact q
theorem cr_maxI (hc : X.calm = true) (hu : X.A.units + 65 < cLine) : CallR X (.builtin "max") (rMaxI X.K) := by
  intro pins s σ H vs us Q I r h
  obtain ⟨a, ns, rfl, hs, hne, q⟩ := h
  rcases hs with hs | hs
  · exact cr_max hc pins s σ H _ us Q I r ⟨a, ns, rfl, hs, hne, q⟩
  · obtain ⟨its, rv, ht, _⟩ := I.tuple hs
    rw [Vals.ref1 r]
    cases ns with
    | nil => simp at hne
    | cons n ns =>
      refine PySem.W.max_tuple_data (I.ok.hd hc) (show s.heap.IsTuple a its.toArray from ht) (x := .int n) (xs := ns.map .int) (as := []) ?_ (alike_ints (n :: ns)) ?_ fun i v h' tk bs _ hr hk => ?_
      · have := readsAll_ints (h := s.heap) rv.ints
        simpa using this
      · have e : PyData.depthAll (PyData.int n :: ns.map .int) = 0 := PyProof.Rows.depthAll_ints (n :: ns)
        rw [e]; omega
      · rw [PySem.W.maxD_ints] at hr
        cases hr
        obtain ⟨h1, h2⟩ := foldl_max_mem ns n
        exact ⟨.int _, H, I.kept hk, ⟨_, rfl⟩, q _ h1 h2⟩
/-- len(set(t)), t a tuple of ints -/
theorem pe_lenset {a : Expr} {ta : TA} {p p2 q pos : Pos} (hc : X.calm = true) (hg : Gl X "len") (hm : X.mg "len" = none) (hg2 : Gl X "set") (hm2 : X.mg "set" = none) (ha : PA X [a] ta)
    (na : starEach [a] X.env = (false, eval a X.env) :: starEach [] X.env := by rfl) : PE X (.Call (.Name "len" p) [.Call (.Name "set" p2) [a] [] q] [] pos) (tCB (rLenSet X.K) ta) := by
  refine ⟨fun pins s σ H Q I h => ?_⟩
  refine Call_ (ld_blt I hg hm PySem.boot_len ?_)
  refine PyProof.Rows.callWith_builtin1 (PyProof.Rows.args_cons ?_ rfl) rfl rfl
  refine Call_ (ld_blt I hg2 hm2 PyProof.Rows.boot_set ?_)
  refine PyProof.Rows.callWith_type1 (thn (ha.run q pins s σ H _ I h) fun us s1 ⟨vs, H1, I1, r1, q1⟩ => ?_) na rfl
  obtain ⟨l, ns, rfl, hq, h1, q1⟩ := q1
  rw [Vals.ref1 r1]
  obtain ⟨its, rv, pt, hz⟩ := I1.tuple hq
  have hi : IntsAre its.toArray.toList ns := by simpa using rv.ints
  refine call_set_tupI ns (I1.ok.hd hc) (show s1.heap.IsTuple l its.toArray from pt) hi (by unfold scanBound; omega) fun h' tk c R1 hcn k => ?_
  refine PyProof.Rows.args_nil ?_
  obtain ⟨o, es, ep, t, ho, hex, hdt, g, nd, hm2, hb, hf, hn, hr, hl2⟩ := R1
  have I2 : Inv X pins σ H1 { s1 with heap := h', toks := tk } := I1.kept k
  refine call_len_set ho hex hdt hf (by rw [hn]; omega) ⟨.int es.size, H1, I2.tok _, ⟨_, rfl⟩, ?_⟩
  have e : (es.toList.map keyOf).length = es.size := by rw [List.length_map, Array.length_toList]
  rw [← e]
  exact q1 _ nd fun j => by rw [← hm2 j, decide_eq_true_eq]
/-- list(range(n)) -/
def tLrange (ta : TA) : TE := fun σ H Q => ta σ H fun vs H1 => (∃ j : Int, vs = [.int j] ∧ j ≤ 16777216 ∧ -16777216 ≤ j ∧ ∀ l, H1 l = none → Q (.ref l) (upd H1 l (.lst ((List.range j.toNat).map fun (i : Nat) => V.int i)))) ∨
  (∃ i j : Int, vs = [.int i, .int j] ∧ i ≤ 16777216 ∧ -16777216 ≤ i ∧ j ≤ 16777216 ∧ -16777216 ≤ j ∧ (j - i).toNat ≤ 16777216 ∧ ∀ l, H1 l = none → Q (.ref l) (upd H1 l (.lst ((List.range (j - i).toNat).map fun (k : Nat) => V.int (i + k)))))
theorem lrange_go {pins : List (Addr × Obj)} {σ : L2.St} {H : Hp} {s : Shared} {Q : VK} {i j : Int} {t u v : Tok} {tk : Nat} (hc : X.calm = true) (I : Inv X pins σ H s) (h1 : i ≤ 16777216) (h2 : -16777216 ≤ i) (h3 : j ≤ 16777216) (h4 : -16777216 ≤ j) (h5 : (j - i).toNat ≤ 16777216)
    (q : ∀ l, H l = none → Q (.ref l) (upd H l (.lst ((List.range (j - i).toNat).map fun (k : Nat) => V.int (i + k))))) :
    wpAny (model X.prog X.w) X.A (call (.type "list") [.ref s.heap.objs.size]) (EP X pins σ Q) X.xe { s with heap := s.heap.push { cls := .type "range", data := .fields #[.int i t, .int j u, .int 1 v] }, toks := tk } := by
  have I1 : Inv X pins σ H { s with heap := s.heap.push { cls := .type "range", data := .fields #[.int i t, .int j u, .int 1 v] }, toks := tk } := I.kept fun b o e => Heap.get?_push_of_some _ e
  refine PySem.call_list_range (I1.ok.hd hc) (IsRange.new ..) (small_one (by omega) (by omega) (by omega) (by omega)) (n := (j - i).toNat) (by rw [rangeSize_one]; split <;> omega) (by omega) fun h' tk2 acc c hk hS hacc => ?_
  have hf : H (s.heap.push { cls := .type "range", data := .fields #[.int i t, .int j u, .int 1 v] }).objs.size = none := I1.hok.fresh (Nat.le_refl _)
  refine ⟨.ref _, _, I1.laid (o := .lst ((List.range (j - i).toNat).map fun (k : Nat) => V.int (i + k))) hk (Nat.le_refl _) ?_, rfl, q _ hf⟩
  refine ⟨by rw [List.length_map, List.length_range, sizeLine_eq]; omega, acc.toList, c, ?_, by simpa using hS⟩
  obtain ⟨e1, e2⟩ := hacc
  have gen : ∀ (l : List Value) (k : Nat) (b : Int), l.length = k → (∀ (m : Nat) v, l[m]? = some v → ∃ t, v = Value.int (b + m) t) → Vals ((List.range k).map fun (m : Nat) => V.int (b + m)) l := by
    intro l
    induction l with
    | nil => intro k b e _; subst e; exact .nil
    | cons x r ih =>
      intro k b e h
      subst e
      rw [List.length_cons, List.range_succ_eq_map, List.map_cons, List.map_map]
      obtain ⟨t, rfl⟩ := h 0 x rfl
      refine .cons ⟨t, rfl⟩ ?_
      have e : ((fun (m : Nat) => V.int (b + m)) ∘ Nat.succ) = fun (m : Nat) => V.int ((b + 1) + m) := by
        funext m
        show V.int (b + ((m + 1 : Nat) : Int)) = V.int ((b + 1) + m)
        congr 1; omega
      rw [e]
      refine ih r.length (b + 1) rfl fun m v hv => ?_
      obtain ⟨t, e⟩ := h (m + 1) v (by simpa using hv)
      exact ⟨t, by rw [e]; congr 1; omega⟩
  refine gen acc.toList _ i (by simpa using e1) fun m v hv => ?_
  have := e2 m v (by simpa using hv)
  simpa using this
theorem pe_lrange {es : List Expr} {a : Expr} {ta : TA} {p p2 q pos : Pos} (hc : X.calm = true) (hg : Gl X "list") (hm : X.mg "list" = none) (hg2 : Gl X "range") (hm2 : X.mg "range" = none) (ha : PA X (a :: es) ta)
    (na : starEach (a :: es) X.env = (false, eval a X.env) :: starEach es X.env := by rfl) (nb : (backTo q (starEach es X.env)).any (·.1) = false := by rfl) : PE X (.Call (.Name "list" p) [.Call (.Name "range" p2) (a :: es) [] q] [] pos) (tLrange ta) := by
  refine ⟨fun pins s σ H Q I h => ?_⟩
  refine Call_ (ld_blt I hg hm (by decide +kernel : bootBuiltins "list" = some (.type "list")) ?_)
  refine PyProof.Rows.callWith_type1 (PyProof.Rows.args_cons ?_ rfl) rfl rfl
  refine Call_ (ld_blt I hg2 hm2 boot_range ?_)
  refine PyProof.Rows.callWith_type1 (thn (ha.run q pins s σ H _ I h) fun us s1 ⟨vs, H1, I1, r1, q1⟩ => ?_) na nb
  rcases q1 with ⟨j, rfl, h1, h2, q1⟩ | ⟨i, j, rfl, h1, h2, h3, h4, h5, q1⟩
  · obtain ⟨u, rfl, t, rfl⟩ := vals1 r1
    refine call_range_1 (PyProof.Rows.args_nil ?_)
    refine lrange_go hc I1 (by omega) (by omega) h1 h2 (by omega) ?_
    simpa using q1
  · obtain ⟨u, u', rfl, ⟨t, rfl⟩, ⟨t', rfl⟩⟩ := vals2 r1
    refine call_range_2 (PyProof.Rows.args_nil ?_)
    exact lrange_go hc I1 h1 h2 h3 h4 h5 q1
end
end Mi

/-! MiB3 -/
set_option Elab.async false
set_option linter.all false
set_option maxRecDepth 100000
set_option maxHeartbeats 2000000
namespace Mi
open PySem PySem.Spec PyProof.Rows L2
section
variable {X : Cx} {es : List Expr} {t : TA} {pos : Pos}
def tTupN (t : TA) : TE := fun σ H Q => t σ H fun xs H1 => xs.length ≤ sizeLine ∧ NewT xs H1 Q
theorem pe_tupN {x1} (h : PA X es t) : PE X (.Tuple es x1 pos) (tTupN t) := by
  refine ⟨fun pins s σ H Q I hq => ?_⟩
  refine wpAny_Tuple_spliced (thn (h.run pos pins s σ H _ I hq) fun us s1 ⟨xs, H1, I1, r, z, q⟩ => ⟨by rw [← r.length]; exact z, ?_⟩)
  exact tup_laid (t := s1.toks) I1 r z q
/-- t + u -/
def rCatN (K : PySem.W.Frag) : R2 := fun x y H Q => ∃ a b xs ys, x = .ref a ∧ y = .ref b ∧ SqT K H a xs ∧ SqT K H b ys ∧ xs.length + ys.length ≤ sizeLine ∧
  (xs = [] → Q (.ref b) H) ∧ (xs ≠ [] → ys = [] → Q (.ref a) H) ∧ (xs ≠ [] → ys ≠ [] → NewT (xs ++ ys) H Q)
theorem op_catN : OpR X (binaryOp .Add) (rCatN X.K) := by
  intro pins s σ H x y v u Q I rx ry h
  obtain ⟨a, b, xs, ys, rfl, rfl, ha, hb, hz, q0, q1, q2⟩ := h
  by_cases hx : xs = []
  · exact op_catA pins s σ H _ _ v u Q I rx ry ⟨a, b, xs, ys, rfl, rfl, ha, hb, hz, q0, q1, fun z => absurd hx z⟩
  by_cases hy : ys = []
  · exact op_catA pins s σ H _ _ v u Q I rx ry ⟨a, b, xs, ys, rfl, rfl, ha, hb, hz, q0, q1, fun _ z => absurd hy z⟩
  cases rx
  cases ry
  obtain ⟨its, r1, p1, _⟩ := I.tuple ha
  obtain ⟨its2, r2, p2, _⟩ := I.tuple hb
  have l1 := r1.length
  have l2 := r2.length
  refine HT.cat_tup p1 p2 (fun z => hx (r1.nil_iff.mp z)) (fun z => ⟨.ref a, H, I, rfl, q1 hx (r2.nil_iff.mp z)⟩) (fun z => ?_) (by rw [← r1.length, ← r2.length]; exact hz)
  exact tup_laid (t := s.toks) I (r1.append r2) (by rw [List.length_append]; exact hz) (q2 hx hy)
def rSlN (K : PySem.W.Frag) : V → Option Int → Option Int → Hp → VK → Prop := fun x lo hi H Q => ∃ a xs, x = .ref a ∧ SqT K H a xs ∧
  (HT.sIx xs.length 0 lo = 0 ∧ HT.sIx xs.length xs.length hi = xs.length → Q (.ref a) H) ∧ (¬ (HT.sIx xs.length 0 lo = 0 ∧ HT.sIx xs.length xs.length hi = xs.length) → NewT (cutV xs lo hi) H Q)
theorem sl_tupN : SlR X (rSlN X.K) := by
  intro pins s σ H x v vl vu lo hi sl Q I rx hs pl pu h
  obtain ⟨a, xs, rfl, hx, q1, q2⟩ := h
  by_cases hw : HT.sIx xs.length 0 lo = 0 ∧ HT.sIx xs.length xs.length hi = xs.length
  · exact sl_tupA pins s σ H _ v vl vu lo hi sl Q I rx hs pl pu ⟨a, xs, rfl, hx, q1, fun z => absurd hw z⟩
  · cases rx
    obtain ⟨its, r, ht, hz⟩ := I.tuple hx
    have hlen : its.toArray.size = xs.length := by rw [List.size_toArray]; exact r.length.symm
    refine ⟨"tuple", _, PyProof.Rows.slot_tuple_getitem.lookup, ht.typeIs, ?_⟩
    refine HT.getItem_tuple_cut ht hs pl pu (by rw [hlen]; exact hw) ?_ (by rw [hlen]; exact hz)
    rw [hlen]
    exact tup_laid (t := s.toks) I ((r.drop (HT.sIx xs.length 0 lo)).take (HT.sIx xs.length xs.length hi - HT.sIx xs.length 0 lo)) (Nat.le_trans (cutV_length xs lo hi) hz) (q2 hw)
def rTuple (K : PySem.W.Frag) : List V → Hp → VK → Prop := fun xs H Q => ∃ p ys, xs = [.ref p] ∧ ((SqL K H p ys ∧ NewT ys H Q) ∨ (SqT K H p ys ∧ Q (.ref p) H))
theorem call_tupleN : CallR X (.type "tuple") (rTuple X.K) := by
  intro pins s σ H xs us Q I r h
  obtain ⟨p, ys, rfl, h⟩ := h
  obtain ⟨u, rfl, rx⟩ := vals1 r
  cases rx
  rcases h with ⟨hq, q⟩ | ⟨hq, q⟩
  · obtain ⟨its, r', pl, hz⟩ := I.list hq
    have hlen := r'.length
    refine call_tuple_list pl.isList (fun h' kp => ?_) (by simp only [List.size_toArray] <;> omega)
    have I1 : Inv X pins σ H { s with heap := h' } := I.kept (t' := s.toks) kp
    exact tup_laid (t := s.toks) I1 r' hz q
  · obtain ⟨its, r', pl, hz⟩ := I.tuple hq
    exact call_tuple_same pl ⟨.ref p, H, I, rfl, q⟩
/-- of a built-in type, its object without a dict -/
def TyD (K : PySem.W.Frag) (T : String) (x : V) (H : Hp) : Prop := tyV K T x H ∨ (T = "tuple" ∧ ∃ a xs, x = .ref a ∧ TupAt K H a xs)
theorem tyD_is {pins : List (Addr × Obj)} {σ : L2.St} {H : Hp} {s : Shared} {T : String} {x : V} {v : Value} (I : Inv X pins σ H s) (r : RelV x v) (ty : TyD X.K T x H) :
    s.TypeIs v T ∧ ∀ a, v = .ref a → ∃ ob, s.heap.get? a = some ob ∧ ob.dict = none := by
  rcases ty with ty | ⟨rfl, a, xs, rfl, ty⟩
  · exact tyV_is I r ty
  · cases r
    rcases ty with ⟨o, h, hd⟩ | ⟨o, its, n, h, hc, hd, _⟩
    · obtain ⟨e, _, its, _, ob, e2, hc, _⟩ := (show ObjOk X.prog X.w H s.heap a (.frz o (.tup xs)) from I.hok a _ h)
      rw [e] at e2; cases e2
      exact ⟨⟨o, e, hc⟩, fun b eb => by cases eb; exact ⟨o, e, hd⟩⟩
    · exact ⟨⟨o, I.kIn a o h, hc⟩, fun b eb => by cases eb; exact ⟨o, I.kIn a o h, hd⟩⟩
def tBD (K : PySem.W.Frag) (T : String) (r : V → List V → Hp → VK → Prop) (to : TE) (t : TA) : TE := fun σ H Q => to σ H fun x H1 => TyD K T x H1 ∧ t σ H1 fun xs H2 => r x xs H2 Q
theorem pe_bd {o e : Expr} {es : List Expr} {to : TE} {t : TA} {name : Str} {apos cpos : Pos} {T id : String} {r : V → List V → Hp → VK → Prop}
    (pa : PlainAttrs T) (slot : Slot T name id) (hty : typeOf (.builtin id) = pure (.type "method_descriptor")) (hm : MtR X id r) (ho : PE X o to) (ha : PA X (e :: es) t)
    (hbase : attributeBase o name X.env (eval o X.env) = eval o X.env := by rfl)
    (hfew : ((backTo cpos (starEach (e :: es) X.env)).all (fun x => !x.1) && (backToKw cpos (keywordEach [] X.env)).all (fun x => x.1.isSome)
      && decide ((e :: es).length + ([] : List Keyword).length + (if ([] : List Keyword).isEmpty then 0 else 1) < 30)) = true := by rfl)
    (hline : (apos.endLine == cpos.line) = true := by rfl) (hs : starEach (e :: es) X.env = (false, eval e X.env) :: starEach es X.env := by rfl) (hplain : (backTo cpos (starEach es X.env)).any (·.1) = false := by rfl) :
    PE X (.Call (.Attribute o name apos) (e :: es) [] cpos) (tBD X.K T r to t) := by
  refine ⟨fun pins s σ H Q I h => ?_⟩
  refine wpAny_Call_method_late hbase hfew hline rfl (thn (ho.run pins s σ H _ I h) fun v s1 ⟨x, H1, I1, r1, ty, q1⟩ => ?_)
  obtain ⟨h1, h2⟩ := tyD_is I1 r1 ty
  refine ⟨T, id, pa, slot, hty, h1, h2, ?_⟩
  have hA := ha.run cpos pins s1 σ H1 _ I1 q1
  rw [hs] at hA ⊢
  refine Calls.callWith_builtin (by show (false || (backTo cpos (starEach es X.env)).any (·.1)) = false; rw [hplain] <;> rfl) (Calls.evalArgs_plain ?_)
  exact thn hA fun us s2 ⟨vs, H2, I2, r2, q2⟩ => hm pins s2 σ H2 x vs v us Q I2 r1 r2 q2
end
end Mi

/-! MiB3b -/
set_option Elab.async false
set_option linter.all false
set_option maxRecDepth 100000
set_option maxHeartbeats 2000000
/-! MiB3b: dicts by values, texts of things, the least of alike things. -/
namespace Mi
open PySem PySem.Spec PyProof.Rows L2
section
variable {X : Cx}
def rInK (neg : Bool) : R2 := fun x y H Q => ∃ a o, y = .ref a ∧ DGet H a x o ∧ Q (.bl (if neg then !o.isSome else o.isSome)) H
theorem op_inK (hu : X.A.units + 1 < cLine) : OpR X (compareOp .In) (rInK false) := fun pins s σ H x y v u Q I rx ry ⟨a, o, ey, g, q⟩ => by
  subst ey
  cases (show u = Value.ref a from ry)
  exact d_in hu I g rx fun s3 I3 => ⟨.bl _, H, I3, rfl, q⟩
theorem op_ninK (hu : X.A.units + 1 < cLine) : OpR X (compareOp .NotIn) (rInK true) := fun pins s σ H x y v u Q I rx ry ⟨a, o, ey, g, q⟩ => by
  subst ey
  cases (show u = Value.ref a from ry)
  exact d_notIn hu I g rx fun s3 I3 => ⟨.bl _, H, I3, rfl, q⟩
def rSetA : TSet := fun o i v H Q => rSetL o i v H Q ∨ rSetD o i v H Q
theorem set_any (hu : X.A.units + 1 < cLine) : PSet X rSetA := fun pins s σ H o i v ov iv u Q I ro ri rv h => h.elim (set_list pins s σ H o i v ov iv u Q I ro ri rv) (set_dict hu pins s σ H o i v ov iv u Q I ro ri rv)
def rLenD : List V → Hp → VK → Prop := fun xs H Q => ∃ a kvs, xs = [V.ref a] ∧ H a = some (.dK kvs) ∧ Q (.int kvs.length) H
def rSortD : List V → Hp → VK → Prop := fun xs H Q => ∃ (a : Addr) (kvs : List (Key × V)) (ks : List Int), xs = [.ref a] ∧ Rd H a (.dK kvs) ∧ kvs.map (·.1) = ks.map Sum.inl ∧ ks.length < 64 ∧ ∀ (ys : List Int) (p : Addr), ys.Perm ks → ys.Pairwise (· ≤ ·) → H p = none → Q (.ref p) (upd H p (.lst (ys.map V.int)))
/-! ### repr -/
def rRepr (K : PySem.W.Frag) : List V → Hp → VK → Prop := fun xs H Q => ∃ x, xs = [x] ∧ ((∃ d, Dp K H x d ∧ d.showable = true ∧ d.depth ≤ 60 ∧ d.shown.length ≤ sizeLine ∧ Q (.str d.shown) H) ∨ ∃ a, x = .ref a ∧ H a = some (.dK []) ∧ Q (.str (PyData.dict []).shown) H)
theorem dp_nodict {K : PySem.W.Frag} {H : Hp} : ∀ (d : PyData) (v : V), Dp K H v d → d.hasDict = false
  | .none, _, _ => by simp only [PyData.hasDict]
  | .bool _, _, _ => by simp only [PyData.hasDict]
  | .int _, _, _ => by simp only [PyData.hasDict]
  | .str _, _, _ => by simp only [PyData.hasDict]
  | .list ds, _, h => by
    cases h with
    | lst _ ha => simp only [PyData.hasDict]; exact all ds _ ha
  | .tuple ds, _, h => by
    cases h with
    | tup _ ha => simp only [PyData.hasDict]; exact all ds _ ha
  | .dict _, _, h => by cases h
where all : ∀ (ds : List PyData) (vs : List V), DpAll K H vs ds → PyData.hasDictAll ds = false
  | [], _, _ => by simp only [PyData.hasDictAll]
  | d :: ds, _, h => by
    cases h with
    | cons h1 h2 => simp only [PyData.hasDictAll, dp_nodict d _ h1, all ds _ h2, Bool.or_false]
theorem cr_repr (hg : X.A.guards = some []) (hu : X.A.units + 65 < cLine) : CallR X (.builtin "repr") (rRepr X.K) := by
  intro pins s σ H xs us Q I r h
  obtain ⟨x, rfl, h⟩ := h
  obtain ⟨u, rfl, rx⟩ := vals1 r
  rcases h with ⟨d, hd, sh, dp, sz, q⟩ | ⟨a, rfl, e, q⟩
  · obtain ⟨as, rd⟩ := Dp.reads I d x u hd rx
    have nd := dp_nodict d x hd
    cases hd with
    | non => cases rx; exact P.repr_of_none ⟨.str _, H, I.tok _, ⟨_, rfl⟩, q⟩
    | bl b => cases rx; exact P.repr_of_bool ⟨.str _, H, I.tok _, ⟨_, rfl⟩, q⟩
    | int i =>
      obtain ⟨t, rfl⟩ := rx
      exact P.repr_of_int (of_decide_eq_true sh) ⟨.str _, H, I.tok _, ⟨_, rfl⟩, q⟩
    | str y =>
      obtain ⟨t, rfl⟩ := rx
      exact P.repr_of_str ⟨.str _, H, I.tok _, ⟨_, rfl⟩, q⟩ sz
    | lst hs ha =>
      cases rx
      exact repr_of_reads' rd sh (PyData.noDict_hsm nd) hg (by omega) (fun _ _ e => e) (fun h' w tk hk => ⟨.str _, H, I.kept hk, ⟨w, rfl⟩, q⟩) sz
    | tup hs ha =>
      cases rx
      exact repr_of_reads' rd sh (PyData.noDict_hsm nd) hg (by omega) (fun _ _ e => e) (fun h' w tk hk => ⟨.str _, H, I.kept hk, ⟨w, rfl⟩, q⟩) sz
  · cases rx
    obtain ⟨_, hne, vs, kv, o, es, ep, ho, hx, hdt, hk, hp, _⟩ := I.hok a _ e
    cases kv
    have hes : es.toList = [] := by
      generalize es.toList = l at hp
      cases hp
      rfl
    have hr : Reads s.heap (.ref a) (.dict []) (a :: [] ++ []) := Reads.dict ho hx.1 hdt (by rw [hes]; exact ReadsAll.nil) (by rw [hes]; exact ReadsAll.nil)
    have hd1 : (PyData.dict []).depth ≤ 60 := by decide
    exact repr_of_reads' hr rfl (fun _ z => by simp at z; rw [z] at hne; simp at hne) hg (by omega) (fun _ _ e => e) (fun h' w tk hk => ⟨.str _, H, I.kept hk, ⟨w, rfl⟩, q⟩) (by decide +kernel)
/-! ### the least, the greatest of alike things -/
def rBestG (K : PySem.W.Frag) (f : PyData → List PyData → PyData) : List V → Hp → VK → Prop := fun xs H Q => ∃ a ys d ds, xs = [V.ref a] ∧ SqA K H a ys ∧ DpAll K H ys (d :: ds) ∧ PySem.W.AlikeAll (d :: ds) ∧ PyData.depthAll (d :: ds) ≤ 60 ∧ ∀ (i : Nat) v, ys[i]? = some v → (d :: ds)[i]? = some (f d ds) → Q v H
theorem dpAll_get {K : PySem.W.Frag} {H : Hp} : ∀ {vs : List V} {ds : List PyData} {i : Nat} {v : V}, DpAll K H vs ds → vs[i]? = some v → ∃ d, ds[i]? = some d ∧ Dp K H v d
  | _, _, 0, v, h, e => by
    cases h with
    | nil => simp at e
    | cons h1 _ => simp at e; subst e; exact ⟨_, rfl, h1⟩
  | _, _, i + 1, v, h, e => by
    cases h with
    | nil => simp at e
    | cons _ h2 => obtain ⟨d, e1, e2⟩ := dpAll_get h2 (by simpa using e); exact ⟨d, by simpa using e1, e2⟩
theorem best_of {pins : List (Addr × Obj)} {σ : L2.St} {H : Hp} {s : Shared} {Q : VK} {ys : List V} {its : List Value} {ds : List PyData} {m : PyData} (I : Inv X pins σ H s) (rv : Vals ys its) (hd : DpAll X.K H ys ds) (q : ∀ (i : Nat) v, ys[i]? = some v → ds[i]? = some m → Q v H)
    {i : Nat} {v : Value} {h' : Heap} {tk : Nat} {bs : List Addr} (hv : its.toArray[i]? = some v) (hr : Reads h' v m bs) (hk : ∀ b o, s.heap.get? b = some o → h'.get? b = some o) : EP X pins σ Q v { s with heap := h', toks := tk } := by
  have hv' : its[i]? = some v := by simpa using hv
  have hl := rv.length
  have hi : i < ys.length := by rw [hl]; exact (List.getElem?_eq_some_iff.mp hv').1
  obtain ⟨w, hw, rw'⟩ := rv.get (i := i) (x := ys[i]) (by simp [hi])
  rw [hv'] at hw
  cases hw
  have hy : ys[i]? = some ys[i] := List.getElem?_eq_getElem hi
  obtain ⟨e, hi2, he⟩ := dpAll_get hd hy
  obtain ⟨as, rd⟩ := Dp.reads I e _ _ he rw'
  have hu := (Reads.unique (Reads.keeps hk rd) _ _ hr).1
  subst hu
  exact ⟨ys[i], H, I.kept hk, rw', q i _ hy hi2⟩
theorem cr_minG (hc : X.calm = true) (hu : X.A.units + 65 < cLine) : CallR X (.builtin "min") (rBestG X.K PySem.W.minD) := by
  intro pins s σ H xs us Q I r h
  obtain ⟨a, ys, d, ds, rfl, hs, hd, al, dp, q⟩ := h
  rw [Vals.ref1 r]
  rcases hs with hs | hs
  · obtain ⟨its, rv, hl, _⟩ := I.list hs
    obtain ⟨as, ra⟩ := Dp.readsAll I _ _ _ hd rv
    exact PySem.W.min_list_data (I.ok.hd hc) hl.isList (by simpa using ra) al (by omega) fun i v h' tk bs hv hr hk => best_of I rv hd q hv hr hk
  · obtain ⟨its, rv, ht, _⟩ := I.tuple hs
    obtain ⟨as, ra⟩ := Dp.readsAll I _ _ _ hd rv
    exact PySem.W.min_tuple_data (I.ok.hd hc) (show s.heap.IsTuple a its.toArray from ht) (by simpa using ra) al (by omega) fun i v h' tk bs hv hr hk => best_of I rv hd q hv hr hk
theorem cr_maxG (hc : X.calm = true) (hu : X.A.units + 65 < cLine) : CallR X (.builtin "max") (rBestG X.K PySem.W.maxD) := by
  intro pins s σ H xs us Q I r h
  obtain ⟨a, ys, d, ds, rfl, hs, hd, al, dp, q⟩ := h
  rw [Vals.ref1 r]
  rcases hs with hs | hs
  · obtain ⟨its, rv, hl, _⟩ := I.list hs
    obtain ⟨as, ra⟩ := Dp.readsAll I _ _ _ hd rv
    exact PySem.W.max_list_data (I.ok.hd hc) hl.isList (by simpa using ra) al (by omega) fun i v h' tk bs hv hr hk => best_of I rv hd q hv hr hk
  · obtain ⟨its, rv, ht, _⟩ := I.tuple hs
    obtain ⟨as, ra⟩ := Dp.readsAll I _ _ _ hd rv
    exact PySem.W.max_tuple_data (I.ok.hd hc) (show s.heap.IsTuple a its.toArray from ht) (by simpa using ra) al (by omega) fun i v h' tk bs hv hr hk => best_of I rv hd q hv hr hk
end
end Mi

/-! MiB3c -/
set_option Elab.async false
set_option linter.all false
set_option maxRecDepth 100000
set_option maxHeartbeats 4000000
/-! MiB3c: enumerate(t), t a tuple. -/
namespace Mi
open PySem PySem.Spec PyProof.Rows L2
theorem meets_enumN {v : Value} {o : Obj} {H : Heap → Prop} (B : Begins v o H) : Meets (Builtin.«enumerate.__new__» ⟨[.type "enumerate", v], []⟩) (fun _ R s => H s.heap ∧
      R (.ok (.ret (.ref (s.heap.push o).objs.size))) { s with heap := (s.heap.push o).push { cls := .type "enumerate", data := .fields #[.none, .bool false, .ref s.heap.objs.size, rawInt 0, .none, .none] } }) :=
  .of_wp fun prog w A R s h => by
    obtain ⟨hp, g, d, tk, os⟩ := s
    obtain ⟨h1, h⟩ := h
    have hsub := sub_enumerate
    have q1 : ∀ {A' : Around} {E : Value → Shared → Prop} {Q : Value → Shared → Prop}, Q (.ref hp.objs.size) ⟨hp.push o, g, d, tk, os⟩ → wpAny (model prog w) A' (pyIter v) Q E ⟨hp, g, d, tk, os⟩ := fun q => B.iter prog w _ _ ⟨hp, g, d, tk, os⟩ _ h1 q
    wp_walk using q1
    refine wpAny_stack_any fun st => wpAny_pure ?_
    split
    · rename_i c _ _ _ _ _
      cases (c == Value.type "enumerate") <;> (wp_walk using q1; exact ⟨_, rfl, h⟩)
    · wp_walk using q1
      exact ⟨_, rfl, h⟩
section
variable {prog : Program} {w : World} {A : Around} {E : Value → Shared → Prop} {s : Shared}
theorem enumN {v : Value} {o : Obj} {H : Heap → Prop} {Q : Value → Shared → Prop} (B : Begins v o H) (h1 : H s.heap)
    (q : ∀ h', IsEnum h' (s.heap.objs.size + 1) s.heap.objs.size 0 .none → h'.get? s.heap.objs.size = some o → (∀ b o, s.heap.get? b = some o → h'.get? b = some o) → Q (.ref (s.heap.objs.size + 1)) { s with heap := h' }) :
    wpAny (model prog w) A (call (.type "enumerate") [v]) Q E s := by
  refine callType_new F.called_enumerate (by decide) (F.typeCall_enumerate_1 _) (F.newCall_enumerate_1 _) (fun obj => F.args_object_init_2 obj _) F.entry_enumerate_new (meets_enumN B) ⟨h1, ?_⟩
  have hz : (s.heap.push o).objs.size = s.heap.objs.size + 1 := Heap.size_push ..
  show _ ∧ _
  rw [hz]
  have he := Heap.get?_push_size (s.heap.push o) (o := { cls := .type "enumerate", data := .fields #[.none, .bool false, .ref s.heap.objs.size, rawInt 0, .none, .none] }) rfl
  rw [hz] at he
  exact ⟨⟨_, he, rfl⟩, q _ he (Heap.get?_push_of_some _ (Heap.get?_push_size _ B.free)) fun b o x => Heap.get?_push_of_some _ (Heap.get?_push_of_some _ x)⟩
end
/-- the tuple at a, each item in a new pair -/
def IteT (K : PySem.W.Frag) (a : Addr) : L2.It :=
  ⟨fun i H => ∃ (xs : List V) (x : V), SqT K H a xs ∧ xs[i]? = some x, fun i H v H' => ∃ T x, v = .ref T ∧ H T = none ∧ H' = upd H T (.tup [.int (i : Nat), x]) ∧ ∀ xs, SqT K H a xs → xs[i]? = some x, fun i H => ∃ xs : List V, SqT K H a xs ∧ xs.length = i⟩
theorem turn_enumT {P : Program} {w : World} {K : PySem.W.Frag} {elts : List Expr} {kk : Nat} {tpos : Pos} (a e it : Addr) (hea : e ≠ a) (hia : a ≠ it) :
    Turn P w K (.Tuple elts kk tpos) (IteT K a) [e, it] e (fun i h => (∃ old, IsEnum h e it ((i : Nat) : Int) old) ∧ h.IsTupleIter it a i ∧ e ≠ it) where
  mem := by simp
  obj := fun i h st b hb => by
    obtain ⟨⟨old, he⟩, ⟨o, ho, hc, hd⟩, _⟩ := st
    rcases (by simpa using hb : b = e ∨ b = it) with z | z
    · rw [z]; exact ⟨_, he, fun v q => nomatch q⟩
    · rw [z]; exact ⟨o, ho, fun v q => by rw [hd] at q; cases q⟩
  keep := fun i h h' st k => let ⟨⟨old, he⟩, hi, hne⟩ := st; ⟨⟨old, k e (by simp) _ he⟩, hi.at fun o q => k it (by simp) o q, hne⟩
  item := by
    intro X hP hw hK hc i pins s σ H E I hf st hg
    subst hP hw hK
    obtain ⟨⟨old, he⟩, hit, hne⟩ := st
    obtain ⟨xs, x, hq, hx⟩ := hg
    obtain ⟨its, rv, p, hz⟩ := I.tuple hq
    have pt : s.heap.IsTuple a its.toArray := p
    obtain ⟨u, hu, ru⟩ := rv.get hx
    have hel : e < s.heap.objs.size := Heap.lt_size he
    have hil : it < s.heap.objs.size := by obtain ⟨_, q, _⟩ := hit; exact Heap.lt_size q
    have hlt : i < its.toArray.size := by rw [List.size_toArray]; exact (List.getElem?_eq_some_iff.mp hu).1
    refine wpAny_pyNext_enum_itemD (Draws.tuple (A := X.A.in1) (show X.A.in1.handled = none from I.ok.hd hc) it a hia its.toArray) he ⟨hit, pt⟩ hlt hne (by simp [hne, hea]) fun y h' tk hy ho hst hT hsz hk => ?_
    have ey : y = u := by
      have z : its[i]? = some y := by simpa using hy
      rw [hu] at z
      exact (Option.some.inj z).symm
    subst ey
    refine ⟨_, rfl, wpAny_letOwnedTupleGo_enum (s := { s with heap := h', toks := tk + 1 }) ho fun h'' he' sb => ?_⟩
    have hT2 : h''.get? s.heap.objs.size = some { cls := .type "tuple", data := .seq #[.int i tk, y] } := (sb.2 _ (Nat.ne_of_gt hel)).trans hT
    have new : ObjOk X.prog X.w (upd H s.heap.objs.size (.tup [.int (i : Nat), x])) h'' s.heap.objs.size (.tup [.int (i : Nat), x]) := ⟨by show 2 ≤ sizeLine; decide, [.int i tk, y], .cons ⟨_, rfl⟩ (.cons ru .nil), ⟨_, hT2, rfl, _, rfl⟩⟩
    have I1 : Inv X pins σ (upd H s.heap.objs.size (.tup [.int (i : Nat), x])) { s with heap := h'', toks := tk + 1 } := I.turnedNew (ch := [e, it]) (fun b ob hb q => (sb.2 b (fun z => hb (by simp [z]))).trans (hk b ob (fun z => hb (by simp [z])) (fun z => hb (by simp [z])) q)) hf (Nat.le_refl _) new
    refine ⟨.ref s.heap.objs.size, _, I1, rfl, ⟨_, x, rfl, I.hok.fresh (Nat.le_refl _), rfl, fun ys hy => by rw [I.tuple_inj hy hq]; exact hx⟩, ⟨⟨y, ?_⟩, hst.1.at fun o q => (sb.2 it (Ne.symm hne)).trans q, hne⟩, fun b hb => ?_⟩
    · rw [show ((i + 1 : Nat) : Int) = (i : Int) + 1 by omega]; exact he'
    · have hb' : b < s.heap.objs.size := by
        rcases (by simpa using hb : b = e ∨ b = it) with z | z
        · rw [z]; exact hel
        · rw [z]; exact hil
      rw [upd_ne (Nat.ne_of_lt hb')]
      exact (hf b hb).1
  done := by
    intro X hP hw hK hc i pins s σ H E I hf st hg
    subst hP hw hK
    obtain ⟨⟨old, he⟩, hit, hne⟩ := st
    obtain ⟨xs, hq, hx⟩ := hg
    obtain ⟨its, rv, p, hz⟩ := I.tuple hq
    obtain ⟨f0, f1, f2, f3, f4, f5⟩ := hf it (by simp)
    have hl := rv.length
    subst hx
    exact wpAny_pyNext_enum_endD (Draws.tuple (A := X.A.in1) (show X.A.in1.handled = none from I.ok.hd hc) it a hia its.toArray) he ⟨by rw [List.size_toArray, ← hl]; exact hit, show s.heap.IsTuple a its.toArray from p⟩ fun h' eb => ⟨rfl, I.turned (t' := s.toks) (fun b o hb q => eb b o hb q) f0 f1 f3 f4 f5⟩
  self := fun A i s Q E st h => let ⟨⟨_, he⟩, _⟩ := st; wpAny_pyIter_enum he h
theorem walk_enumT {K : PySem.W.Frag} {a : Addr} {xs : List V} : Walk (IteT K a) xs.length (fun H => SqT K H a xs) (YPair (fun i => some (.int (i : Nat))) (fun i => xs[i]?)) := by
  refine ⟨fun i _ hi q => ⟨xs, xs[i], q, by simp [hi]⟩, fun _ q => ⟨xs, q, rfl⟩, fun i H v H' _ q y => ?_⟩
  obtain ⟨T, x, h1, h2, h3, h4⟩ := y
  exact ⟨T, .int (i : Nat), x, h1, h2, h3, rfl, h4 xs q⟩
def iEnumA (K : PySem.W.Frag) (ta : TA) : TI := fun σ H R => ta σ H fun vs H1 => ∃ a xs, vs = [.ref a] ∧ ((SqL K H1 a xs ∧ R (Ite K a) H1) ∨ (SqT K H1 a xs ∧ R (IteT K a) H1))
theorem pi_enumA {X : Cx} {e : Expr} {ta : TA} {p pos tpos : Pos} {elts : List Expr} {kk : Nat} (hg : Gl X "enumerate") (hm : X.mg "enumerate" = none) (ha : PA X [e] ta) (hs : starEach [e] X.env = [(false, eval e X.env)] := by rfl) :
    PI X (.Tuple elts kk tpos) (.Call (.Name "enumerate" p) [e] [] pos) (iEnumA X.K ta) := by
  refine ⟨fun pins s σ H R I h => Call_ (ld_blt I hg hm boot_enumerate (PyProof.Rows.callWith_type1 (thn (ha.run pos pins s σ H _ I h) fun us s1 ⟨vs, H1, I1, r1, q1⟩ => ?_) hs rfl))⟩
  obtain ⟨a, xs, rfl, q⟩ := q1
  cases r1 with
  | cons r rr =>
    cases rr
    cases r
    have fresh : ∀ b, (b = s1.heap.objs.size + 1 ∨ b = s1.heap.objs.size) → s1.heap.objs.size ≤ b := fun b z => by
      rcases z with z | z
      · rw [z]; exact Nat.le_add_right _ _
      · rw [z]; exact Nat.le_refl _
    rcases q with ⟨hq, q⟩ | ⟨hq, q⟩
    · obtain ⟨its, rv, p', hz⟩ := I1.list hq
      refine call_enumerate_list p'.isList fun h' he hit hsz hk => wpAny_pyIter_enum he ?_
      have I2 : Inv X pins σ H1 { s1 with heap := h' } := I1.kept (t' := s1.toks) hk
      exact ⟨s1.heap.objs.size + 1, [s1.heap.objs.size + 1, s1.heap.objs.size], _, _, H1, rfl, I2, turn_enum a (s1.heap.objs.size + 1) s1.heap.objs.size, ⟨⟨.none, he⟩, hit, Nat.succ_ne_self _⟩, fun b hb => I1.fpOk (fresh b (by simpa using hb)) (I1.hok.fresh (fresh b (by simpa using hb))), q⟩
    · obtain ⟨its, rv, p', hz⟩ := I1.tuple hq
      have pt : s1.heap.IsTuple a its.toArray := p'
      have hal : a < s1.heap.objs.size := by obtain ⟨_, z, _⟩ := pt; exact Heap.lt_size z
      refine enumN (begins_tuple a its.toArray) pt fun h' he hit hk => wpAny_pyIter_enum he ?_
      have I2 : Inv X pins σ H1 { s1 with heap := h' } := I1.kept (t' := s1.toks) hk
      exact ⟨s1.heap.objs.size + 1, [s1.heap.objs.size + 1, s1.heap.objs.size], _, _, H1, rfl, I2, turn_enumT a (s1.heap.objs.size + 1) s1.heap.objs.size (Nat.ne_of_gt (Nat.lt_succ_of_lt hal)) (Nat.ne_of_lt hal), ⟨⟨.none, he⟩, ⟨_, hit, rfl, rfl⟩, Nat.succ_ne_self _⟩, fun b hb => I1.fpOk (fresh b (by simpa using hb)) (I1.hok.fresh (fresh b (by simpa using hb))), q⟩
end Mi

/-! MiB3d -/
set_option Elab.async false
set_option linter.all false
set_option maxRecDepth 100000
set_option maxHeartbeats 4000000
/-! MiB3d: sorted of a tuple of ints. -/
namespace SrtO
open PySem PySem.Spec PyProof.Rows L2
section
variable {prog : Program} {w : World} {A : Around} {E : Value → Shared → Prop} {s : Shared}
theorem gather_tup {l : Addr} {vs : List Value} {Q : List Value → Shared → Prop} (hl : s.heap.IsTuple l vs.toArray)
    (h : Q vs { s with heap := (s.heap.push (seqObj "list" #[] 0)).update s.heap.objs.size (Obj.mapSeq (· ++ vs.toArray)) }) (hsz : vs.length ≤ sizeLine) :
    wpAny (model prog w) A (collect (.ref l)) Q E s := by
  obtain ⟨o, hob, hcl, ep, hda⟩ := id hl
  unfold collect
  refine wpAny_bind (wpAny_runValue (codeAny_builtin entry_proto_collect' ?_))
  refine wpAny_bind (wpAny_newList (wpAny_pure ⟨Code.quiet_builtin _ (by decide +kernel), codeAny_builtin entry_list_iadd' ?_⟩))
  show wpAny _ _ (Builtin.List.listExtendWith (.ref s.heap.objs.size) (.ref l) (.ref s.heap.objs.size)) _ _ { s with heap := s.heap.push (seqObj "list" #[] 0) }
  unfold Builtin.List.listExtendWith
  have hob' : (s.heap.push (seqObj "list" #[] 0)).get? l = some o := Heap.get?_push_of_some _ hob
  refine wpAny_bind (wpAny_typeOf (T := "tuple") ⟨o, hob', hcl⟩ ?_)
  have htt : (Value.type "tuple" == Value.type "tuple") = true := by rfl
  rw [if_pos (by rw [htt]; simp)]
  refine wpAny_bind (listItems_at hob' hda ?_)
  refine wpAny_bind (listItems_at (xs := #[]) (n := 0) (Heap.get?_push_size _ rfl) rfl ?_)
  rw [if_neg (by simp)]
  refine wpAny_bind (listUpdate_at (xs := #[]) (n := 0) (Heap.get?_push_size _ rfl) rfl ?_ (Nat.zero_le _) (by show (#[] ++ vs.toArray).size ≤ sizeLine + 1; simp only [Array.size_append, List.size_toArray, List.length_nil]; omega))
  refine wpAny_pure ?_
  refine wpAny_bind (wpAny_load (get?_update_seq (Heap.get?_push_size _ rfl) _) ?_)
  show wpAny _ _ (pure ((#[] : Array Value) ++ vs.toArray).toList) Q E _
  rw [show ((#[] : Array Value) ++ vs.toArray).toList = vs by simp]
  exact wpAny_pure h
theorem tup_ord {l : Addr} {vs : List Value} {ltv : Value → Value → Bool} {Q : Value → Shared → Prop} (O : Swo ltv) (hl : s.heap.IsTuple l vs.toArray) (hz : vs.length ≤ sizeLine)
    (hS : 2 ≤ vs.length → ∀ (h₁ : Heap) (a : Addr), h₁.get? a = some (seqObj "list" vs.toArray 0) → (∀ b o, s.heap.get? b = some o → b ≠ a ∧ h₁.get? b = some o) → SortableO prog w A.in1.in1 { s with heap := h₁ } a vs ltv)
    (h : ∀ out : List Value, Srtd ltv out → Stb ltv out vs → Q (.ref (s.heap.objs.size + 1)) { s with heap := sortedAll s.heap vs out.toArray }) :
    wpAny (model prog w) A (call (.builtin "sorted") [.ref l]) Q E s := by
  refine Calls.call_function_entry kind_sorted plain_sorted entry_sorted (args_sorted1 _) ?_
  unfold Builtin.«sorted»
  refine wpAny_bind (m := checkCount "sorted" 1 1 _) (wpAny_pure ?_)
  refine wpAny_bind (gather_tup hl ?_ hz)
  refine wpAny_bind (wpAny_newList ?_ hz)
  have sz1 : ((s.heap.push (seqObj "list" #[] 0)).update s.heap.objs.size (Obj.mapSeq (· ++ vs.toArray))).objs.size = s.heap.objs.size + 1 := (Heap.size_update _ _ _).trans (size_push' _ _)
  have at1 : (((s.heap.push (seqObj "list" #[] 0)).update s.heap.objs.size (Obj.mapSeq (· ++ vs.toArray))).push (seqObj "list" vs.toArray 0)).get? (s.heap.objs.size + 1) = some (seqObj "list" vs.toArray 0) :=
    sz1 ▸ Heap.get?_push_size _ rfl
  have stay : ∀ b o, s.heap.get? b = some o → b ≠ s.heap.objs.size + 1 ∧ (((s.heap.push (seqObj "list" #[] 0)).update s.heap.objs.size (Obj.mapSeq (· ++ vs.toArray))).push (seqObj "list" vs.toArray 0)).get? b = some o := fun b o q => by
    have blt : b < s.heap.objs.size := Heap.lt_size q
    exact ⟨Nat.ne_of_lt (Nat.lt_succ_of_lt blt), Heap.get?_push_of_some _ ((Heap.get?_update_ne _ _ _ _ (Nat.ne_of_lt blt)).trans (Heap.get?_push_of_some _ q))⟩
  show wpAny _ _ _ _ _ { s with heap := ((s.heap.push (seqObj "list" #[] 0)).update s.heap.objs.size (Obj.mapSeq (· ++ vs.toArray))).push (seqObj "list" vs.toArray 0) }
  rw [sz1]
  refine wpAny_bind (wpAny_holding (wpAny_call_entry slot_list_sort ⟨_, at1, rfl⟩ entry_list_sort (list_sort_ord O at1 hz (fun h2 => hS h2 _ _ at1 stay) fun out b1 b2 => ⟨_, rfl, ?_⟩) (args_list_sort _)))
  exact wpAny_pure ⟨_, rfl, h out b1 b2⟩
end
end SrtO
namespace Mi
open PySem PySem.Spec PyProof.Rows L2
/-- sorted(t), a tuple of ints -/
def rSortT (K : PySem.W.Frag) : List V → Hp → VK → Prop := fun vs H Q => ∃ (a : Addr) (ns : List Int), vs = [V.ref a] ∧ SqT K H a (ns.map V.int) ∧
  ∀ (ns' : List Int) (p : Addr), ns'.Perm ns → ns'.Pairwise (· ≤ ·) → H p = none → Q (.ref p) (upd H p (.lst (ns'.map V.int)))
section
variable {X : Cx}
theorem cr_sortT : CallR X (.builtin "sorted") (rSortT X.K) := by
  intro pins s σ H vs us Q I r h
  obtain ⟨a, ns, rfl, hs, q⟩ := h
  obtain ⟨its, rv, hl, hz⟩ := I.tuple hs
  rw [Vals.ref1 r]
  have hi := rv.ints
  refine SrtO.tup_ord SrtO.swo_int hl (by rw [← rv.length]; exact hz) (fun h2 h₁ a' _ _ => SrtO.ints_sortable hi h2) fun out h1 h2 => ?_
  obtain ⟨k1, k2, k3⟩ := SrtO.ints_out hi h1 h2
  obtain ⟨ep, he'⟩ := PyProof.Rows.sortedAll_at s.heap its out.toArray
  have hlen : ((out.map SrtO.iv).map V.int).length ≤ sizeLine := by
    rw [List.length_map, k2.length_eq]
    rw [List.length_map] at hz
    exact hz
  exact ⟨.ref _, upd H (s.heap.objs.size + 1) (.lst ((out.map SrtO.iv).map V.int)), I.laid (t' := s.toks) (fun _ _ => PyProof.Rows.sortedAll_old) (Nat.le_succ _) ⟨hlen, out, ep, vals_of_ints k1, he'⟩, rfl, q _ _ k2 k3 (I.hok.fresh (Nat.le_succ _))⟩
/-- x in l, l a list or a tuple of data -/
def rInB (K : PySem.W.Frag) (neg : Bool) : R2 := fun x y H Q => ∃ d ds, Dp K H x d ∧ SeqAt.shaped d = true ∧ ((Dp K H y (.list ds) ∧ SeqAt.shaped (.list ds) = true) ∨ (Dp K H y (.tuple ds) ∧ SeqAt.shaped (.tuple ds) = true)) ∧ Q (.bl (if neg then !(ds.any fun z => PyData.eqv z d) else ds.any fun z => PyData.eqv z d)) H
theorem op_inB (hu : X.A.units + 65 < cLine) : OpR X (compareOp .In) (rInB X.K false) := by
  intro pins s σ H x y v u Q I rx ry h
  obtain ⟨d, ds, hd, sd, he, q⟩ := h
  obtain ⟨as, r1⟩ := Dp.reads I d x v hd rx
  rcases he with ⟨he, se⟩ | ⟨he, se⟩
  · obtain ⟨bs, r2⟩ := Dp.reads I (.list ds) y u he ry
    exact SeqAt.in_list_reads r2 r1 (SeqAt.canLay_of_shaped se) (SeqAt.canLay_of_shaped sd) (room_in_shaped sd hu) ⟨.bl _, H, I, rfl, q⟩
  · obtain ⟨bs, r2⟩ := Dp.reads I (.tuple ds) y u he ry
    exact SeqAt.in_tuple_reads r2 r1 (SeqAt.canLay_of_shaped se) (SeqAt.canLay_of_shaped sd) (room_in_shaped sd hu) ⟨.bl _, H, I, rfl, q⟩
theorem op_ninB (hu : X.A.units + 65 < cLine) : OpR X (compareOp .NotIn) (rInB X.K true) := by
  intro pins s σ H x y v u Q I rx ry h
  obtain ⟨d, ds, hd, sd, he, q⟩ := h
  obtain ⟨as, r1⟩ := Dp.reads I d x v hd rx
  rcases he with ⟨he, se⟩ | ⟨he, se⟩
  · obtain ⟨bs, r2⟩ := Dp.reads I (.list ds) y u he ry
    exact SeqAt.notIn_list_reads r2 r1 (SeqAt.canLay_of_shaped se) (SeqAt.canLay_of_shaped sd) (room_in_shaped sd hu) ⟨.bl _, H, I, rfl, q⟩
  · obtain ⟨bs, r2⟩ := Dp.reads I (.tuple ds) y u he ry
    exact SeqAt.notIn_tuple_reads r2 r1 (SeqAt.canLay_of_shaped se) (SeqAt.canLay_of_shaped sd) (room_in_shaped sd hu) ⟨.bl _, H, I, rfl, q⟩
theorem tup_mul1 (l : Addr) (items : Array Value) (n : Nat) (dd : Option Addr) (sl : Array (Option Value)) (u : Tok) (c1 : (items.isEmpty || (1 : Int) == 1) = true) :
    Meets (Builtin.«tuple.__mul__» ⟨[.ref l, .int 1 u], []⟩) (fun _ R s => s.heap.get? l = some { cls := .type "tuple", dict := dd, data := .seq items n, slots := sl } ∧ R (.ok (.ret (Value.ref l))) s) :=
  .of_wp fun prog w A R s h => by
    obtain ⟨hp, g, d, tk, os⟩ := s
    obtain ⟨hl, h⟩ := h
    have f1 := AutoSeq1.idx_int
    wp_walk using wpAny_loadPart' hl
    repeat (first
      | (refine wpAny_ite_true c1 ?_; wp_walk using wpAny_loadPart' hl)
      | (refine wpAny_ite_false (by decide) ?_; wp_walk using wpAny_loadPart' hl))
    exact ⟨_, rfl, h⟩
/-- t * 1 is t -/
def rRepU (K : PySem.W.Frag) : R2 := fun x y H Q => ∃ l xs, x = .ref l ∧ y = .int 1 ∧ SqT K H l xs ∧ Q (.ref l) H
theorem op_repU : OpR X (binaryOp .Mult) (rRepU X.K) := by
  intro pins s σ H x y v u Q I rx ry h
  obtain ⟨l, xs, rfl, rfl, hT, q⟩ := h
  cases rx
  obtain ⟨t, rfl⟩ := ry
  obtain ⟨its, r, ⟨⟨cls, dd, data, sl⟩, ho, hc, n, hd⟩, hs⟩ := I.tuple hT
  simp only at hc hd
  subst hc hd
  exact wpAny_binaryOp_repeat_ref (T := "tuple") (U := "int") (by decide) ⟨_, ho, rfl⟩ (fun s' => typeIs_int s' 1 t) noFill_tuple_mul F.fills_int_mul F.slot_int_rmul repeat_tuple F.slot_int_index.lookup
    (call_meets F.slot_int_rmul (typeIs_int s 1 t) F.entry_int_rmul (F.args_int_rmul_2 _ _) (int_rmul_tuple 1 t l its.toArray n dd sl)
      ⟨ho, rfl, ⟨_, ho, rfl⟩, call_meets F.slot_tuple_mul ⟨_, ho, rfl⟩ F.entry_tuple_mul (F.args_tuple_mul_2 _ _) (tup_mul1 l its.toArray n dd sl t (by simp)) ⟨ho, ⟨.ref l, H, I, rfl, q⟩⟩⟩)
/-- t * k, a new tuple -/
def rRepN (K : PySem.W.Frag) : R2 := fun x y H Q => ∃ l k xs, x = .ref l ∧ y = .int k ∧ SqT K H l xs ∧ xs ≠ [] ∧ 2 ≤ k ∧ k ≤ 1000 ∧ xs.length ≤ 1000 ∧ NewT (List.replicate k.toNat xs).flatten H Q
theorem op_repN : OpR X (binaryOp .Mult) (rRepN X.K) := by
  intro pins s σ H x y v u Q I rx ry h
  obtain ⟨l, k, xs, rfl, rfl, hT, hne, h1, h2, hz, q⟩ := h
  cases rx
  obtain ⟨t, rfl⟩ := ry
  obtain ⟨its, r, ⟨⟨cls, dd, data, sl⟩, ho, hc, n, hd⟩, hs⟩ := I.tuple hT
  simp only at hc hd
  subst hc hd
  have lenq : its.length = xs.length := r.length.symm
  have hn : its ≠ [] := fun e => hne (by
    rw [e] at lenq
    exact List.eq_nil_of_length_eq_zero lenq.symm)
  have hi : its.toArray.isEmpty = false := by
    cases its with
    | nil => exact absurd rfl hn
    | cons a b => rfl
  have szz : its.toArray.size = xs.length := by rw [List.size_toArray, lenq]
  have hm : ((its.toArray.size : Nat) : Int) * k ≤ 1000000 := by
    rw [szz]
    have a1 : ((xs.length : Nat) : Int) * k ≤ 1000 * k := Int.mul_le_mul_of_nonneg_right (by omega) (by omega)
    omega
  have fits : (List.replicate k.toNat its).flatten.length ≤ sizeLine := by
    rw [PyProof.Rows.lm_len_rep_flat, lenq, sizeLine_eq]
    have a1 : k.toNat * xs.length ≤ 1000 * 1000 := Nat.mul_le_mul (by omega) hz
    omega
  have c0 : (decide (k < -(2 ^ 63)) || decide (k ≥ 2 ^ 63)) = false := by
    rw [decide_eq_false (by omega), decide_eq_false (by omega)] <;> rfl
  have c1 : (its.toArray.isEmpty || k == 1) = false := by
    rw [hi, Bool.false_or]
    exact beq_eq_false_iff_ne.mpr (by omega)
  have c2 : (decide (k ≤ 0) || its.toArray.isEmpty) = false := by
    rw [hi, Bool.or_false]
    exact decide_eq_false (by omega)
  have c4 : Builtin.Tuple.tupleTooMany (((its.toArray.size : Nat) : Int) * k) = false := by
    unfold Builtin.Tuple.tupleTooMany
    rw [sizeLine_eq]
    exact decide_eq_false (by omega)
  refine wpAny_binaryOp_repeat_ref (T := "tuple") (U := "int") (by decide) ⟨_, ho, rfl⟩ (fun s' => typeIs_int s' k t) noFill_tuple_mul F.fills_int_mul F.slot_int_rmul repeat_tuple F.slot_int_index.lookup
    (call_meets F.slot_int_rmul (typeIs_int s k t) F.entry_int_rmul (F.args_int_rmul_2 _ _) (int_rmul_tuple k t l its.toArray n dd sl)
      ⟨ho, rfl, ⟨_, ho, rfl⟩, call_meets F.slot_tuple_mul ⟨_, ho, rfl⟩ F.entry_tuple_mul (F.args_tuple_mul_2 _ _) (tuple_mulW l its.toArray n dd sl k t c0 c1 c2 (by omega) c4 (by rw [size_rep, List.size_toArray]; exact fits)) ⟨ho, ?_⟩⟩)
  rw [size_rep]
  exact tup_laid I (r.rep k.toNat) (by rw [PyProof.Rows.lm_len_rep_flat, sizeLine_eq]; have a1 : k.toNat * xs.length ≤ 1000 * 1000 := Nat.mul_le_mul (by omega) hz; omega) q
/-- o[i] of an own list -/
def rGetO : V → V → Hp → VK → Prop := fun o i H Q => ∃ p xs k j v, o = .ref p ∧ i = .int k ∧ H p = some (.lst xs) ∧ ixN xs.length k = some j ∧ xs[j]? = some v ∧ Q v H
theorem get_own : PGet X rGetO := by
  intro pins s σ H o i ov iv Q I ro ri h
  obtain ⟨p, xs, k, j, z, rfl, rfl, hp, hj, hz, q⟩ := h
  cases ro
  obtain ⟨t, rfl⟩ := ri
  obtain ⟨its, r, pl, hsz⟩ := I.list (.inl (.inl hp))
  obtain ⟨h1, h2, h3, h4⟩ := ixN_seq hj
  obtain ⟨w, ew, rw'⟩ := r.get hz
  have hl := r.length
  have hn := line63
  have fin : EP X pins σ Q w s := ⟨z, H, I, rw', q⟩
  by_cases h0 : 0 ≤ k
  · have hk : k.toNat = j := by
      rw [seqIndex_of h0 h4] at h1
      exact Option.some.inj h1
    exact wpAny_getItem_list pl.isList h0 (by omega) (by rw [hk]; simpa using ew) fin
  · have hk : (k + (its.toArray.size : Int)).toNat = j := by
      rw [seqIndex_neg (by omega) h3] at h1
      rw [List.size_toArray, ← hl]
      exact Option.some.inj h1
    exact wpAny_getItem_list_neg pl.isList (by omega) (by rw [List.size_toArray] <;> omega) (by omega) (by rw [hk]; simpa using ew) fin
end
end Mi

/-! MiB4 -/
set_option Elab.async false
set_option linter.all false
set_option maxRecDepth 100000
set_option maxHeartbeats 2000000
namespace Mi
open PySem PySem.Spec PyProof.Rows L2
def orR (r r' : R2) : R2 := fun x y H Q => r x y H Q ∨ r' x y H Q
def rBin (K : PySem.W.Frag) : BOp → R2
  | .add => orR (rI0 fun i j => .int (i + j)) (orR rCat (rCatN K))
  | .sub => rI0 fun i j => .int (i - j)
  | .mul => orR (rI CMul fun i j => .int (i * j)) (orR (rI CMulW fun i j => .int (i * j)) (orR rRep (orR (rRepN K) (rRepU K))))
  | .fdiv => orR (rI CDiv fun i j => .int (i / j)) (rI CDivW fun i j => .int (i / j))
  | .mod => rI (fun _ j => 0 < j) fun i j => .int (i % j)
  | .pow => rI CPow fun i j => .int (i ^ j.toNat)
def rIsN : R2 := orR (fun x y H Q => y = .non ∧ Q (.bl (decide (x = .non))) H) (fun x y H Q => ∃ a b, x = .bl a ∧ y = .bl b ∧ Q (.bl (decide (a = b))) H)
def rIsNot : R2 := orR (fun x y H Q => y = .non ∧ Q (.bl (!decide (x = .non))) H) (fun x y H Q => ∃ a b, x = .bl a ∧ y = .bl b ∧ Q (.bl (!decide (a = b))) H)
def rCmp (K : PySem.W.Frag) : COp → R2
  | .lt => rI0 fun i j => .bl (decide (i < j))
  | .le => rI0 fun i j => .bl (decide (i ≤ j))
  | .gt => rI0 fun i j => .bl (decide (j < i))
  | .ge => rI0 fun i j => .bl (decide (j ≤ i))
  | .eq => rEqD K
  | .ne => rNeD K
  | .inn => orR (rIn K false) (orR (rInB K false) (rInK false))
  | .nin => orR (rIn K true) (orR (rInB K true) (rInK true))
  | .iss => rIsN
  | .isn => rIsNot
section
variable {X : Cx}
theorem op_bin (op : BOp) : OpR X (binaryOp (pyB op)) (rBin X.K op) := by
  cases op with
  | add => exact op_add.or (op_cat.or op_catN)
  | sub => exact op_sub
  | mul => exact op_mul.or (op_mulW.or (op_rep.or (op_repN.or op_repU)))
  | fdiv => exact op_fdiv.or op_fdivW
  | mod => exact op_mod
  | pow => exact op_pow
theorem op_cmp (op : COp) (hu : X.A.units + 65 < cLine) : OpR X (compareOp (pyC op)) (rCmp X.K op) := by
  cases op with
  | lt => exact op_lt
  | le => exact op_le
  | gt => exact op_gt
  | ge => exact op_ge
  | eq => exact op_eqD (by omega)
  | ne => exact op_neD (by omega)
  | inn => exact op_in_seq.or ((op_inB hu).or (op_inK (by omega)))
  | nin => exact op_notIn_seq.or ((op_ninB hu).or (op_ninK (by omega)))
  | iss => exact op_isN.or op_is_bl
  | isn => exact op_notN.or op_isnot_bl
end
def rBlt (K : PySem.W.Frag) : Blt → List V → Hp → VK → Prop
  | .len => orC (rLen K) rLenD
  | .abs => rAbs
  | .int => rInt
  | .list => rList K
  | .tuple => rTuple K
  | .sum => rSumI K
  | .min => orC (orC (rMinI K) rMin2) (rBestG K PySem.W.minD)
  | .max => orC (orC (rMaxI K) rMax2) (rBestG K PySem.W.maxD)
  | .sorted => orC (rSortedI K) (orC (rSortT K) rSortD)
  | .repr => rRepr K
  | .all => rAll K
  | .any => rAny K
  | .isi => rIsi K
  | .lenset => rLenSet K
section
variable {X : Cx}
theorem cr_sumA (hc : X.calm = true) : CallR X (.builtin "sum") (rBlt X.K .sum) := cr_sumI hc
theorem cr_lenA : CallR X (.builtin "len") (rBlt X.K .len) := cr_len.or call_lenD
theorem cr_sortA (hc : X.calm = true) : CallR X (.builtin "sorted") (rBlt X.K .sorted) := cr_sortedI.or (cr_sortT.or (call_sortedDI hc))
theorem cr_min2 (hc : X.calm = true) (hu : X.A.units + 65 < cLine) : CallR X (.builtin "min") (rBlt X.K .min) := ((cr_minI hc hu).or (call_min2 hc)).or (cr_minG hc hu)
theorem cr_max2 (hc : X.calm = true) (hu : X.A.units + 65 < cLine) : CallR X (.builtin "max") (rBlt X.K .max) := ((cr_maxI hc hu).or (call_max2 hc)).or (cr_maxG hc hu)
end
end Mi

/-! MiB5 -/
set_option Elab.async false
set_option linter.all false
set_option maxRecDepth 100000
set_option maxHeartbeats 4000000
/-! MiB5: zip of two things, each a list or a tuple. -/
namespace Zg
open PySem PySem.Spec PyProof.Rows L2 RZ
/-- an iterator of a tuple (true) or a list -/
def IterOf : Bool → Heap → Addr → Addr → Nat → Prop
  | true, h, it, l, i => h.IsTupleIter it l i
  | false, h, it, l, i => h.IsListIter it l i
def SeqOf : Bool → Heap → Addr → Array Value → Prop
  | true, h, l, us => h.IsTuple l us
  | false, h, l, us => h.IsList l us
theorem IterOf.ext {t : Bool} {h h' : Heap} {it l b : Addr} {i : Nat} (x : IterOf t h it l i) (e : Heap.ExtBut b h h') (n : it ≠ b) : IterOf t h' it l i := by
  cases t with
  | true => exact Heap.IsTupleIter.extBut x e n
  | false => exact Heap.IsListIter.extBut x e n
theorem SeqOf.ext {t : Bool} {h h' : Heap} {l b : Addr} {us : Array Value} (x : SeqOf t h l us) (e : Heap.ExtBut b h h') (n : l ≠ b) : SeqOf t h' l us := by
  cases t with
  | true => exact Heap.IsTuple.extBut x e n
  | false => exact Heap.IsList.extBut x e n
theorem IterOf.at {t : Bool} {h h' : Heap} {it l : Addr} {i : Nat} (x : IterOf t h it l i) (e : ∀ o, h.get? it = some o → h'.get? it = some o) : IterOf t h' it l i := by
  cases t with
  | true => exact Heap.IsTupleIter.at x e
  | false => exact Heap.IsListIter.at x e
theorem IterOf.lt {t : Bool} {h : Heap} {it l : Addr} {i : Nat} (x : IterOf t h it l i) : it < h.objs.size := by
  cases t with
  | true => obtain ⟨_, e, _⟩ := x; exact Heap.lt_size e
  | false => obtain ⟨_, e, _⟩ := x; exact Heap.lt_size e
theorem IterOf.obj {t : Bool} {h : Heap} {it l : Addr} {i : Nat} (x : IterOf t h it l i) : ∃ o vs, h.get? it = some o ∧ o.data = .fields vs := by
  cases t with
  | true => obtain ⟨o, e, _, d⟩ := x; exact ⟨o, _, e, d⟩
  | false => obtain ⟨o, e, _, d⟩ := x; exact ⟨o, _, e, d⟩
theorem SeqOf.lt {t : Bool} {h : Heap} {l : Addr} {us : Array Value} (x : SeqOf t h l us) : l < h.objs.size := by
  cases t with
  | true => obtain ⟨_, e, _⟩ := x; exact Heap.lt_size e
  | false => obtain ⟨_, e, _⟩ := x; exact Heap.lt_size e
theorem SeqOf.push {t : Bool} {h : Heap} {l : Addr} {us : Array Value} (o : Obj) (x : SeqOf t h l us) : SeqOf t (h.push o) l us := by
  cases t with
  | true => exact Heap.IsTuple.push x o
  | false => exact Heap.IsList.push x o
section
variable {prog : Program} {w : World} {A : Around} {E : Value → Shared → Prop} {s : Shared}
theorem next_one {t : Bool} {it l : Addr} {i : Nat} {items : Array Value} {x : Value} {Q : Value → Shared → Prop} (a : IterOf t s.heap it l i) (b : SeqOf t s.heap l items) (e : items[i]? = some x)
    (q : ∀ h', IterOf t h' it l (i + 1) → Heap.SameBut it s.heap h' → Q x { s with heap := h' }) : wpAny (model prog w) A (Builtin.SmallTypes.nextOf (.ref it)) Q E s := by
  cases t with
  | true => exact nextOf_tuple_item a b e q
  | false => exact wpAny_nextOf_list_item a b e q
theorem next_end {t : Bool} {it l : Addr} {i : Nat} {items : Array Value} {Q : Value → Shared → Prop} (nh : A.handled = none) (a : IterOf t s.heap it l i) (b : SeqOf t s.heap l items) (e : items[i]? = none)
    (q : ∀ h' e, Heap.ExtBut it s.heap h' → (∃ o, h'.get? e = some o ∧ o.cls = .type "StopIteration") → E (.ref e) { s with heap := h' }) : wpAny (model prog w) A (Builtin.SmallTypes.nextOf (.ref it)) Q E s := by
  cases t with
  | true => exact nextOf_tuple_end nh a b e q
  | false => exact wpAny_nextOf_list_end nh a b e q
theorem zg_next {ta tb : Bool} {zz zi zo ia ib la lb : Addr} {ka kb : Nat} {us ws : Array Value} {x y a b : Value} {Q : Value → Shared → Prop} (D : ZipApart zz zi zo ia ib la lb)
    (gz : IsZip s.heap zz zi zo .none) (gi : IsPair s.heap zi (.ref ia) (.ref ib)) (go : IsPair s.heap zo a b)
    (ra : IterOf ta s.heap ia la ka) (rb : IterOf tb s.heap ib lb kb) (qa : SeqOf ta s.heap la us) (qb : SeqOf tb s.heap lb ws) (ex : us[ka]? = some x) (ey : ws[kb]? = some y)
    (gq : ∀ h', IsZip h' zz zi zo (rawInt s.heap.objs.size) → IsPair h' zo x y → IterOf ta h' ia la (ka + 1) → IterOf tb h' ib lb (kb + 1) → IsPair h' s.heap.objs.size x y → h'.objs.size = s.heap.objs.size + 1 →
      (∀ c o, c ≠ zz → c ≠ zo → c ≠ ia → c ≠ ib → s.heap.get? c = some o → h'.get? c = some o) → Q (.ref s.heap.objs.size) { s with heap := h' }) :
    wpAny (model prog w) A (Builtin.«zip.__next__» ⟨[.ref zz], []⟩) (fun fin s' => ∃ v, fin = .done (.ret v) ∧ Q v s') E s := by
  show wpAny _ _ (field (.ref zz) 2 >>= _) _ _ _
  refine wpAny_bind (wpAny_field gz rfl (x := .bool false) rfl ?_)
  show wpAny _ _ (field (.ref zz) 3 >>= _) _ _ _
  refine wpAny_bind (wpAny_field gz rfl (x := .ref zi) rfl ?_)
  refine wpAny_bind (wpAny_seqItems gi rfl ?_)
  show wpAny _ _ (Builtin.SmallTypes.ownedTupleIsFree (.ref zz) >>= _) _ _ _
  refine wpAny_bind ?_
  unfold Builtin.SmallTypes.ownedTupleIsFree; refine wpAny_bind (wpAny_field gz rfl (x := .none) rfl (wpAny_pure ?_))
  simp only [if_true]
  refine wpAny_bind (wpAny_rule ?_)
  refine wpAny_bind (wpAny_field gz rfl (x := .ref zo) rfl ?_)
  refine wpAny_bind (wpAny_setField_rec gz (by simp) fun m₁ gz₁ sb₁ => ?_)
  replace gz₁ : IsZip m₁ zz zi zo .ellipsis := gz₁
  refine wpAny_bind ?_
  simp only [List.forIn_nil, List.forIn_cons, List.zipIdx_nil, List.zipIdx_cons]

  refine wpAny_bind (wpAny_bind (wpAny_onRaise ?_))
  show wpAny _ _ (Builtin.SmallTypes.nextOf (.ref ia) >>= _) _ _ _
  refine wpAny_bind (next_one (ra.ext sb₁.extBut D.i1z) (qa.ext sb₁.extBut D.l1z) ex fun m₂ ra₂ sb₂ => wpAny_pure ?_)
  have go₂ : IsPair m₂ zo a b := sb₂.extBut _ _ D.TOi1 (sb₁.extBut _ _ D.TOz go)
  refine wpAny_bind (wpAny_seqItems go₂ rfl ?_)
  refine wpAny_bind (wpAny_updateSeq_pair go₂ fun m₃ go₃ sb₃ => ?_)
  replace go₃ : IsPair m₃ zo x b := go₃
  refine wpAny_bind (wpAny_letGo (wpAny_pure ?_))

  refine wpAny_bind (wpAny_bind (wpAny_onRaise ?_))
  show wpAny _ _ (Builtin.SmallTypes.nextOf (.ref ib) >>= _) _ _ _
  refine wpAny_bind (next_one (((rb.ext sb₁.extBut D.i2z).ext sb₂.extBut D.i12.symm).ext sb₃.extBut D.TOi2.symm)
    (((qb.ext sb₁.extBut D.l2z).ext sb₂.extBut D.l2i1).ext sb₃.extBut D.l2TO) ey fun m₄ rb₄ sb₄ => wpAny_pure ?_)
  have go₄ : IsPair m₄ zo x b := sb₄.extBut _ _ D.TOi2 go₃
  refine wpAny_bind (wpAny_seqItems go₄ rfl ?_)
  refine wpAny_bind (wpAny_updateSeq_pair go₄ fun m₅ go₅ sb₅ => ?_)
  replace go₅ : IsPair m₅ zo x y := go₅
  refine wpAny_bind (wpAny_letGo (wpAny_pure (wpAny_pure ?_)))

  refine wpAny_bind (wpAny_seqItems go₅ rfl ?_)
  refine wpAny_bind (wpAny_newTuple ?_)
  have esz : m₅.objs.size = s.heap.objs.size := by rw [sb₅.1, sb₄.1, sb₃.1, sb₂.1, sb₁.1]
  have gz₅ : IsZip m₅ zz zi zo .ellipsis := sb₅.extBut _ _ D.TOz.symm (sb₄.extBut _ _ D.i2z.symm (sb₃.extBut _ _ D.TOz.symm (sb₂.extBut _ _ D.i1z.symm gz₁)))
  have ke₅ : ∀ c o, c ≠ zz → c ≠ zo → c ≠ ia → c ≠ ib → s.heap.get? c = some o → m₅.get? c = some o := fun c o c1 c2 c3 c4 e =>
    sb₅.extBut _ _ c2 (sb₄.extBut _ _ c4 (sb₃.extBut _ _ c2 (sb₂.extBut _ _ c3 (sb₁.extBut _ _ c1 e))))
  have ra₅ : IterOf ta m₅ ia la (ka + 1) := ((ra₂.ext sb₃.extBut D.TOi1.symm).ext sb₄.extBut D.i12).ext sb₅.extBut D.TOi1.symm
  have rb₅ : IterOf tb m₅ ib lb (kb + 1) := rb₄.ext sb₅.extBut D.TOi2.symm
  have zlt : zz < m₅.objs.size := Heap.lt_size gz₅
  have olt : zo < m₅.objs.size := Heap.lt_size go₅
  have alt : ia < m₅.objs.size := ra₅.lt
  have blt : ib < m₅.objs.size := rb₅.lt
  show wpAny _ _ (Builtin.SmallTypes.ownedTupleHandOut (.ref zz) (.ref m₅.objs.size) >>= _) _ _ _
  refine wpAny_bind ?_
  unfold Builtin.SmallTypes.ownedTupleHandOut;   have gz₆ : IsZip (m₅.push { cls := .type "tuple", data := .seq #[x, y] }) zz zi zo .ellipsis := Heap.get?_push_of_some _ gz₅
  refine wpAny_bind (wpAny_setField_rec gz₆ (by simp) fun m₇ gz₇ sb₇ => ?_)
  replace gz₇ : IsZip m₇ zz zi zo (rawInt m₅.objs.size) := gz₇
  refine wpAny_setField_rec gz₇ (by simp) fun m₈ gz₈ sb₈ => ?_
  replace gz₈ : IsZip m₈ zz zi zo (rawInt m₅.objs.size) := gz₈
  have upw : ∀ c o, c ≠ zz → m₅.get? c = some o → m₈.get? c = some o := fun c o c1 e => sb₈.extBut _ _ c1 (sb₇.extBut _ _ c1 (Heap.get?_push_of_some _ e))
  have gt₈ : IsPair m₈ m₅.objs.size x y := sb₈.extBut _ _ (Nat.ne_of_gt zlt) (sb₇.extBut _ _ (Nat.ne_of_gt zlt) (Heap.get?_push_size _ rfl))
  have hz8 : m₈.objs.size = m₅.objs.size + 1 := by rw [sb₈.1, sb₇.1, Heap.size_push]
  rw [esz] at gz₈ gt₈ hz8
  refine wpAny_pure ⟨_, rfl, ?_⟩
  show Q (.ref m₅.objs.size) _
  rw [esz]
  exact gq m₈ gz₈ (upw _ _ D.TOz go₅) (ra₅.at fun o e => upw _ o D.i1z e) (rb₅.at fun o e => upw _ o D.i2z e) gt₈ hz8 fun c o c1 c2 c3 c4 e => upw c o c1 (ke₅ c o c1 c2 c3 c4 e)

theorem zg_last {ta tb : Bool} {zz zi zo ia ib la lb : Addr} {ka kb : Nat} {us ws : Array Value} {a b : Value} {Q : Fin → Shared → Prop} (nh : A.handled = none) (D : ZipApart zz zi zo ia ib la lb)
    (gz : IsZip s.heap zz zi zo .none) (gi : IsPair s.heap zi (.ref ia) (.ref ib)) (go : IsPair s.heap zo a b)
    (ra : IterOf ta s.heap ia la ka) (rb : IterOf tb s.heap ib lb kb) (qa : SeqOf ta s.heap la us) (qb : SeqOf tb s.heap lb ws) (gend : us[ka]? = none ∨ ws[kb]? = none)
    (ge : ∀ h' e, (∀ c o, c ≠ zz → c ≠ zo → c ≠ ia → c ≠ ib → s.heap.get? c = some o → h'.get? c = some o) → (∃ o, h'.get? e = some o ∧ o.cls = .type "StopIteration") → E (.ref e) { s with heap := h' }) :
    wpAny (model prog w) A (Builtin.«zip.__next__» ⟨[.ref zz], []⟩) Q E s := by
  show wpAny _ _ (field (.ref zz) 2 >>= _) _ _ _
  refine wpAny_bind (wpAny_field gz rfl (x := .bool false) rfl ?_)
  show wpAny _ _ (field (.ref zz) 3 >>= _) _ _ _
  refine wpAny_bind (wpAny_field gz rfl (x := .ref zi) rfl ?_)
  refine wpAny_bind (wpAny_seqItems gi rfl ?_)
  show wpAny _ _ (Builtin.SmallTypes.ownedTupleIsFree (.ref zz) >>= _) _ _ _
  refine wpAny_bind ?_
  unfold Builtin.SmallTypes.ownedTupleIsFree; refine wpAny_bind (wpAny_field gz rfl (x := .none) rfl (wpAny_pure ?_))
  simp only [if_true]
  refine wpAny_bind (wpAny_rule ?_)
  refine wpAny_bind (wpAny_field gz rfl (x := .ref zo) rfl ?_)
  refine wpAny_bind (wpAny_setField_rec gz (by simp) fun m₁ gz₁ sb₁ => ?_)
  replace gz₁ : IsZip m₁ zz zi zo .ellipsis := gz₁
  refine wpAny_bind ?_
  simp only [List.forIn_nil, List.forIn_cons, List.zipIdx_nil, List.zipIdx_cons]
  refine wpAny_bind (wpAny_bind (wpAny_onRaise ?_))
  show wpAny _ _ (Builtin.SmallTypes.nextOf (.ref ia) >>= _) _ _ _
  cases ex : us[ka]? with
  | none =>
    refine wpAny_bind (next_end nh (ra.ext sb₁.extBut D.i1z) (qa.ext sb₁.extBut D.l1z) ex fun m₂ e sb₂ ee => ?_)
    obtain ⟨ob, eoe, ece⟩ := ee
    have gz₂ : IsZip m₂ zz zi zo .ellipsis := sb₂ _ _ D.i1z.symm gz₁
    have nez : e ≠ zz := fun x => by subst x; rw [gz₂] at eoe; cases eoe; simp at ece
    refine wpAny_setField_rec gz₂ (by simp) fun m₃ _ sb₃ => ge m₃ e (fun c o c1 _ c3 _ x => sb₃.extBut _ _ c1 (sb₂ _ _ c3 (sb₁.extBut _ _ c1 x))) ⟨ob, sb₃.extBut _ _ nez eoe, ece⟩
  | some x =>
    have ey : ws[kb]? = none := by rcases gend with h | h; rw [ex] at h; cases h; exact h
    refine wpAny_bind (next_one (ra.ext sb₁.extBut D.i1z) (qa.ext sb₁.extBut D.l1z) ex fun m₂ ra₂ sb₂ => wpAny_pure ?_)
    have go₂ : IsPair m₂ zo a b := sb₂.extBut _ _ D.TOi1 (sb₁.extBut _ _ D.TOz go)
    refine wpAny_bind (wpAny_seqItems go₂ rfl ?_)
    refine wpAny_bind (wpAny_updateSeq_pair go₂ fun m₃ go₃ sb₃ => ?_)
    refine wpAny_bind (wpAny_letGo (wpAny_pure ?_))
    refine wpAny_bind (wpAny_bind (wpAny_onRaise ?_))
    show wpAny _ _ (Builtin.SmallTypes.nextOf (.ref ib) >>= _) _ _ _
    refine wpAny_bind (next_end nh (((rb.ext sb₁.extBut D.i2z).ext sb₂.extBut D.i12.symm).ext sb₃.extBut D.TOi2.symm)
      (((qb.ext sb₁.extBut D.l2z).ext sb₂.extBut D.l2i1).ext sb₃.extBut D.l2TO) ey fun m₄ e sb₄ ee => ?_)
    obtain ⟨ob, eoe, ece⟩ := ee
    have gz₄ : IsZip m₄ zz zi zo .ellipsis := sb₄ _ _ D.i2z.symm (sb₃.extBut _ _ D.TOz.symm (sb₂.extBut _ _ D.i1z.symm gz₁))
    have nez : e ≠ zz := fun x => by subst x; rw [gz₄] at eoe; cases eoe; simp at ece
    refine wpAny_setField_rec gz₄ (by simp) fun m₅ _ sb₅ => ge m₅ e (fun c o c1 c2 c3 c4 x => sb₅.extBut _ _ c1 (sb₄ _ _ c4 (sb₃.extBut _ _ c2 (sb₂.extBut _ _ c3 (sb₁.extBut _ _ c1 x))))) ⟨ob, sb₅.extBut _ _ nez eoe, ece⟩

theorem py_next {ta tb : Bool} {zz zi zo ia ib la lb : Addr} {ka kb : Nat} {us ws : Array Value} {x y a b : Value} {Q : Option Value → Shared → Prop} (D : ZipApart zz zi zo ia ib la lb)
    (gz : IsZip s.heap zz zi zo .none) (gi : IsPair s.heap zi (.ref ia) (.ref ib)) (go : IsPair s.heap zo a b)
    (ra : IterOf ta s.heap ia la ka) (rb : IterOf tb s.heap ib lb kb) (qa : SeqOf ta s.heap la us) (qb : SeqOf tb s.heap lb ws) (ex : us[ka]? = some x) (ey : ws[kb]? = some y)
    (gq : ∀ h', IsZip h' zz zi zo (rawInt s.heap.objs.size) → IsPair h' zo x y → IterOf ta h' ia la (ka + 1) → IterOf tb h' ib lb (kb + 1) → IsPair h' s.heap.objs.size x y → h'.objs.size = s.heap.objs.size + 1 →
      (∀ c o, c ≠ zz → c ≠ zo → c ≠ ia → c ≠ ib → s.heap.get? c = some o → h'.get? c = some o) → Q (some (.ref s.heap.objs.size)) { s with heap := h' }) :
    wpAny (model prog w) A (pyNext (.ref zz)) Q E s := by
  have ht : s.TypeIs (.ref zz) "zip" := ⟨_, gz, rfl⟩
  unfold pyNext
  exact wpAny_bind (wpAny_attempt (wpAny_callSpecial?_slot (name := Str.ofString "__next__") ht F.slot_zip_next
    (wpAny_call_entry F.slot_zip_next ht F.entry_zip_next
      (zg_next D gz gi go ra rb qa qb ex ey fun h' a1 a2 a3 a4 a5 a6 a7 => wpAny_pure (gq h' a1 a2 a3 a4 a5 a6 a7)) (F.args_zip_next_1 _))))

theorem py_last {ta tb : Bool} {zz zi zo ia ib la lb : Addr} {ka kb : Nat} {us ws : Array Value} {a b : Value} {Q : Option Value → Shared → Prop} (nh : A.handled = none) (D : ZipApart zz zi zo ia ib la lb)
    (gz : IsZip s.heap zz zi zo .none) (gi : IsPair s.heap zi (.ref ia) (.ref ib)) (go : IsPair s.heap zo a b)
    (ra : IterOf ta s.heap ia la ka) (rb : IterOf tb s.heap ib lb kb) (qa : SeqOf ta s.heap la us) (qb : SeqOf tb s.heap lb ws) (gend : us[ka]? = none ∨ ws[kb]? = none)
    (gq : ∀ h', (∀ c o, c ≠ zz → c ≠ zo → c ≠ ia → c ≠ ib → s.heap.get? c = some o → h'.get? c = some o) → Q none { s with heap := h' }) : wpAny (model prog w) A (pyNext (.ref zz)) Q E s := by
  have ht : s.TypeIs (.ref zz) "zip" := ⟨_, gz, rfl⟩
  unfold pyNext
  refine wpAny_bind (wpAny_attempt (wpAny_callSpecial?_slot (name := Str.ofString "__next__") ht F.slot_zip_next
    (wpAny_call_entry F.slot_zip_next ht F.entry_zip_next (zg_last nh D gz gi go ra rb qa qb gend fun h' e hk ee => ?_) (F.args_zip_next_1 _))))
  obtain ⟨o, ho, hc⟩ := ee
  refine wpAny_bind (wpAny_isInstance (T := "StopIteration") (b := true) ⟨o, ho, hc⟩ isSubtype_stop ?_)
  exact wpAny_pure (gq _ hk)
end
/-- what a new iterator is -/
def itObj (t : Bool) (l : Addr) : Obj := { cls := .type (if t then "tuple_iterator" else "list_iterator"), data := .fields #[.ref l, .int 0 0] }
theorem itObj_is {t : Bool} {h : Heap} {it l : Addr} (e : h.get? it = some (itObj t l)) : IterOf t h it l 0 := by
  cases t with
  | true => exact ⟨_, e, rfl, rfl⟩
  | false => exact ⟨_, e, rfl, rfl⟩
abbrev gH1 (t : Bool) (h : Heap) (a : Addr) : Heap := h.push (itObj t a)
abbrev gH2 (t u : Bool) (h : Heap) (a b : Addr) : Heap := (gH1 t h a).push (itObj u b)
abbrev gH3 (t u : Bool) (h : Heap) (a b : Addr) : Heap := (gH2 t u h a b).push { cls := .type "tuple", data := .seq #[.ref h.objs.size, .ref (gH1 t h a).objs.size] }
abbrev gH4 (t u : Bool) (h : Heap) (a b : Addr) : Heap := (gH3 t u h a b).push { cls := .type "tuple", data := .seq #[.none, .none] }
abbrev gH5 (t u : Bool) (h : Heap) (a b : Addr) : Heap := (gH4 t u h a b).push { cls := .type "zip", data := .fields #[.none, .bool false, .bool false, .ref (gH2 t u h a b).objs.size, .ref (gH3 t u h a b).objs.size] }
theorem iter_of {prog : Program} {w : World} {A : Around} {E : Value → Shared → Prop} {s : Shared} {t : Bool} {l : Addr} {us : Array Value} {Q : Value → Shared → Prop} (x : SeqOf t s.heap l us) (h : Q (.ref s.heap.objs.size) { s with heap := s.heap.push (itObj t l) }) : wpAny (model prog w) A (pyIter (.ref l)) Q E s := by
  cases t with
  | true => exact wpAny_pyIter_tuple (show s.heap.IsTuple l us from x) h
  | false => exact wpAny_pyIter_list (show s.heap.IsList l us from x) h
theorem new_meets (t u : Bool) (a b : Addr) (us ws : Array Value) :
    Meets (Builtin.«zip.__new__» ⟨[.type "zip", .ref a, .ref b], []⟩) (fun _ R s => SeqOf t s.heap a us ∧ SeqOf u s.heap b ws ∧ R (.ok (.ret (.ref (gH4 t u s.heap a b).objs.size))) { s with heap := gH5 t u s.heap a b }) :=
  .of_wp fun prog w A R s y => by
    obtain ⟨hp, g, d, tk, os⟩ := s
    obtain ⟨qa, qb, y⟩ := y
    have hsub := sub_zip
    have ua : SeqOf t (Shared.heap ⟨hp, g, d, tk, os⟩) a us := qa
    have ub : SeqOf u (Shared.heap ⟨hp.push (itObj t a), g, d, tk, os⟩) b ws := qb.push _
    wp_walk using iter_of ua, iter_of ub
    exact ⟨_, rfl, y⟩
section
variable {prog : Program} {w : World} {A : Around} {E : Value → Shared → Prop} {s : Shared}
theorem call_zg {t u : Bool} {a b : Addr} {us ws : Array Value} {Q : Value → Shared → Prop} (qa : SeqOf t s.heap a us) (qb : SeqOf u s.heap b ws)
    (y : ∀ h', IsZip h' (s.heap.objs.size + 4) (s.heap.objs.size + 2) (s.heap.objs.size + 3) .none → IsPair h' (s.heap.objs.size + 2) (.ref s.heap.objs.size) (.ref (s.heap.objs.size + 1)) → IsPair h' (s.heap.objs.size + 3) .none .none →
      IterOf t h' s.heap.objs.size a 0 → IterOf u h' (s.heap.objs.size + 1) b 0 → (∀ c o, s.heap.get? c = some o → h'.get? c = some o) → Q (.ref (s.heap.objs.size + 4)) { s with heap := h' }) :
    wpAny (model prog w) A (call (.type "zip") [.ref a, .ref b]) Q E s := by
  refine callType_new F.called_zip (by decide) (F.typeCall_zip_2 _ _) (F.newCall_zip_2 _ _) (fun obj => F.args_object_init_3 obj _ _) F.entry_zip_new (new_meets t u a b us ws) ⟨qa, qb, ?_⟩
  have e1 : (gH1 t s.heap a).objs.size = s.heap.objs.size + 1 := Heap.size_push ..
  have e2 : (gH2 t u s.heap a b).objs.size = s.heap.objs.size + 2 := by rw [Heap.size_push, e1]
  have e3 : (gH3 t u s.heap a b).objs.size = s.heap.objs.size + 3 := by rw [Heap.size_push, e2]
  have e4 : (gH4 t u s.heap a b).objs.size = s.heap.objs.size + 4 := by rw [Heap.size_push, e3]
  have p1 : (gH1 t s.heap a).get? s.heap.objs.size = some (itObj t a) := Heap.get?_push_size _ rfl
  have p2 : (gH2 t u s.heap a b).get? (gH1 t s.heap a).objs.size = some (itObj u b) := Heap.get?_push_size _ rfl
  have p3 : (gH3 t u s.heap a b).get? (gH2 t u s.heap a b).objs.size = some _ := Heap.get?_push_size _ rfl
  have p4 : (gH4 t u s.heap a b).get? (gH3 t u s.heap a b).objs.size = some _ := Heap.get?_push_size _ rfl
  have p5 : (gH5 t u s.heap a b).get? (gH4 t u s.heap a b).objs.size = some _ := Heap.get?_push_size _ rfl
  have o4 : ∀ {c o}, (gH4 t u s.heap a b).get? c = some o → (gH5 t u s.heap a b).get? c = some o := fun x => Heap.get?_push_of_some _ x
  have o3 : ∀ {c o}, (gH3 t u s.heap a b).get? c = some o → (gH5 t u s.heap a b).get? c = some o := fun x => o4 (Heap.get?_push_of_some _ x)
  have o2 : ∀ {c o}, (gH2 t u s.heap a b).get? c = some o → (gH5 t u s.heap a b).get? c = some o := fun x => o3 (Heap.get?_push_of_some _ x)
  have o1 : ∀ {c o}, (gH1 t s.heap a).get? c = some o → (gH5 t u s.heap a b).get? c = some o := fun x => o2 (Heap.get?_push_of_some _ x)
  have g5 := p5
  have g4 := o4 p4
  have g3 := o3 p3
  have g2 := o2 p2
  have g1 := o1 p1
  show _ ∧ _
  rw [e2, e3, e4] at g5
  rw [e1, e2] at g3
  rw [e3] at g4
  rw [e1] at g2
  rw [e4]
  exact ⟨⟨_, g5, rfl⟩, y _ g5 g3 g4 (itObj_is g1) (itObj_is g2) fun c o x => o1 (Heap.get?_push_of_some _ x)⟩
end
/-- a sequence of values, a tuple or a list -/
def SqOf (K : PySem.W.Frag) : Bool → Hp → Addr → List V → Prop
  | true, H, a, xs => SqT K H a xs
  | false, H, a, xs => SqL K H a xs
theorem sq_heap {X : Cx} {pins : List (Addr × Obj)} {σ : L2.St} {H : Hp} {s : Shared} {t : Bool} {a : Addr} {xs : List V} (I : Inv X pins σ H s) (q : SqOf X.K t H a xs) : ∃ its : List Value, Vals xs its ∧ SeqOf t s.heap a its.toArray ∧ a < s.heap.objs.size := by
  cases t with
  | true =>
    obtain ⟨its, rv, p, _⟩ := I.tuple q
    obtain ⟨o, ho, _⟩ := id p
    exact ⟨its, rv, (show s.heap.IsTuple a its.toArray from p), Heap.lt_size ho⟩
  | false =>
    obtain ⟨its, rv, p, _⟩ := I.list q
    exact ⟨its, rv, p.isList, p.lt⟩
theorem sq_inj {X : Cx} {pins : List (Addr × Obj)} {σ : L2.St} {H : Hp} {s : Shared} {t : Bool} {a : Addr} {xs ys : List V} (I : Inv X pins σ H s) (q : SqOf X.K t H a xs) (r : SqOf X.K t H a ys) : xs = ys := by
  cases t with
  | true => exact I.tuple_inj q r
  | false => exact I.list_inj q r
/-- both as they stand at each turn, their things in new pairs -/
def ItG (K : PySem.W.Frag) (t u : Bool) (a b : Addr) : It where
  go := fun i H => ∃ (xs ys : List V) (x y : V), SqOf K t H a xs ∧ SqOf K u H b ys ∧ xs[i]? = some x ∧ ys[i]? = some y
  yld := fun i H v H' => ∃ T x y, v = .ref T ∧ H T = none ∧ H' = upd H T (.tup [x, y]) ∧ (∀ xs, SqOf K t H a xs → xs[i]? = some x) ∧ ∀ ys, SqOf K u H b ys → ys[i]? = some y
  stop := fun i H => ∃ xs ys : List V, SqOf K t H a xs ∧ SqOf K u H b ys ∧ (xs.length ≤ i ∨ ys.length ≤ i)
theorem turn_g {P : Program} {w : World} {K : PySem.W.Frag} {elts : List Expr} {kk : Nat} {tpos : Pos} {t u : Bool} {a b zz zi zo ia ib : Addr} (D : ZipApart zz zi zo ia ib a b) :
    Turn P w K (.Tuple elts kk tpos) (ItG K t u a b) [zz, zi, zo, ia, ib] zz (fun i h => IsZip h zz zi zo .none ∧ IsPair h zi (.ref ia) (.ref ib) ∧ (∃ x y, IsPair h zo x y) ∧ IterOf t h ia a i ∧ IterOf u h ib b i) where
  mem := by simp
  obj := fun i h st c hc => by
    obtain ⟨gz, gi, ⟨x, y, go⟩, ra, rb⟩ := st
    obtain ⟨o1, v1, e1, d1⟩ := ra.obj
    obtain ⟨o2, v2, e2, d2⟩ := rb.obj
    have e' : c = zz ∨ c = zi ∨ c = zo ∨ c = ia ∨ c = ib := by simpa using hc
    rcases e' with rfl | rfl | rfl | rfl | rfl
    · exact ⟨_, gz, fun v q => nomatch q⟩
    · exact ⟨_, gi, fun v q => nomatch q⟩
    · exact ⟨_, go, fun v q => nomatch q⟩
    · exact ⟨o1, e1, fun v q => by rw [d1] at q; cases q⟩
    · exact ⟨o2, e2, fun v q => by rw [d2] at q; cases q⟩
  keep := fun i h h' st k => by
    obtain ⟨gz, gi, ⟨x, y, go⟩, ra, rb⟩ := st
    exact ⟨k zz (by simp) _ gz, k zi (by simp) _ gi, ⟨x, y, k zo (by simp) _ go⟩, ra.at fun o q => k ia (by simp) o q, rb.at fun o q => k ib (by simp) o q⟩
  item := by
    intro X hP hw hK hc i pins s σ H E I hf st hg
    subst hP hw hK
    obtain ⟨gz, gi, ⟨x0, y0, go⟩, ra, rb⟩ := st
    obtain ⟨xs, ys, x, y, qx, qy, ex, ey⟩ := hg
    obtain ⟨its, rv, p, _⟩ := sq_heap I qx
    obtain ⟨its2, rv2, p2, _⟩ := sq_heap I qy
    obtain ⟨c1, f1, r1⟩ := rv.get ex
    obtain ⟨c2, f2, r2⟩ := rv2.get ey
    have zl : zz < s.heap.objs.size := Heap.lt_size gz
    refine py_next D gz gi go ra rb p p2 (x := c1) (y := c2) (by simpa using f1) (by simpa using f2) fun h' z' to' ra' rb' gt esz hk => ?_
    refine ⟨_, rfl, wpAny_letOwnedTupleGo_zip (s := { s with heap := h' }) z' fun h'' z'' sb => ?_⟩
    have gt2 : h''.get? s.heap.objs.size = some { cls := .type "tuple", data := .seq #[c1, c2] } := (sb.2 _ (Nat.ne_of_gt zl)).trans gt
    have new : ObjOk X.prog X.w (upd H s.heap.objs.size (.tup [x, y])) h'' s.heap.objs.size (.tup [x, y]) := ⟨by show 2 ≤ sizeLine; decide, [c1, c2], .cons r1 (.cons r2 .nil), ⟨_, gt2, rfl, _, rfl⟩⟩
    have I1 : Inv X pins σ (upd H s.heap.objs.size (.tup [x, y])) { s with heap := h'' } := by
      refine I.turnedNew (t' := s.toks) (ch := [zz, zi, zo, ia, ib]) (fun c o hb q => ?_) hf (Nat.le_refl _) new
      refine (sb.2 c fun q' => hb (by simp [q'])).trans (hk c o ?_ ?_ ?_ ?_ q)
      all_goals exact fun q' => hb (by simp [q'])
    refine ⟨.ref s.heap.objs.size, _, I1, rfl, ⟨_, x, y, rfl, I.hok.fresh (Nat.le_refl _), rfl, fun l hl => by rw [sq_inj I hl qx]; exact ex, fun l hl => by rw [sq_inj I hl qy]; exact ey⟩, ⟨z'', ?_, ⟨c1, c2, ?_⟩, ?_, ?_⟩, fun c hcm => ?_⟩
    · exact (sb.2 _ D.TIz).trans (hk _ _ D.TIz D.TITO D.TIi1 D.TIi2 gi)
    · exact (sb.2 _ D.TOz).trans to'
    · exact ra'.at fun o q => (sb.2 _ D.i1z).trans q
    · exact rb'.at fun o q => (sb.2 _ D.i2z).trans q
    · have lt : c < s.heap.objs.size := by
        have e' : c = zz ∨ c = zi ∨ c = zo ∨ c = ia ∨ c = ib := by simpa using hcm
        rcases e' with rfl | rfl | rfl | rfl | rfl
        · exact zl
        · exact Heap.lt_size gi
        · exact Heap.lt_size go
        · exact ra.lt
        · exact rb.lt
      rw [upd_ne (Nat.ne_of_lt lt)]
      exact (hf c hcm).1
  done := by
    intro X hP hw hK hc i pins s σ H E I hf st hg
    subst hP hw hK
    obtain ⟨gz, gi, ⟨x0, y0, go⟩, ra, rb⟩ := st
    obtain ⟨xs, ys, qx, qy, gend⟩ := hg
    obtain ⟨its, rv, p, _⟩ := sq_heap I qx
    obtain ⟨its2, rv2, p2, _⟩ := sq_heap I qy
    have l1 := rv.length
    have l2 := rv2.length
    have he : its.toArray[i]? = none ∨ its2.toArray[i]? = none := gend.imp (fun q => by simp; omega) fun q => by simp; omega
    refine py_last (I.ok.hd hc) D gz gi go ra rb p p2 he fun h' hk => ⟨rfl, I.turnedL (t' := s.toks) (ch := [zz, zi, zo, ia, ib]) (fun c o hb q => ?_) hf⟩
    refine hk c o ?_ ?_ ?_ ?_ q
    all_goals exact fun q' => hb (by simp [q'])
  self := fun A i s Q E st h => wpAny_pyIter_zip st.1 h
def iZipG (K : PySem.W.Frag) (ta : TA) : TI := fun σ H R => ta σ H fun vs H1 => ∃ a b xs ys t u, vs = [.ref a, .ref b] ∧ SqOf K t H1 a xs ∧ SqOf K u H1 b ys ∧ R (ItG K t u a b) H1
theorem pi_zipG {X : Cx} {e e2 : Expr} {ta : TA} {p pos tpos : Pos} {elts : List Expr} {kk : Nat} (hg : Gl X "zip") (hm : X.mg "zip" = none) (ha : PA X [e, e2] ta)
    (hs : starEach [e, e2] X.env = (false, eval e X.env) :: starEach [e2] X.env := by rfl) (hpl : (backTo pos (starEach [e2] X.env)).any (·.1) = false := by rfl) :
    PI X (.Tuple elts kk tpos) (.Call (.Name "zip" p) [e, e2] [] pos) (iZipG X.K ta) := by
  refine ⟨fun pins s σ H R I h => Call_ (ld_blt I hg hm PyProof.Rows.boot_zip (PyProof.Rows.callWith_type1 (thn (ha.run pos pins s σ H _ I h) fun us s1 ⟨vs, H1, I1, r1, q1⟩ => ?_) hs hpl))⟩
  obtain ⟨a, b, xs, ys, t, u, rfl, qx, qy, q⟩ := q1
  cases r1 with
  | cons r rr =>
    cases rr with
    | cons r' rr =>
      cases rr
      cases r
      cases r'
      obtain ⟨its, rv, p1, lt1⟩ := sq_heap I1 qx
      obtain ⟨its2, rv2, p2, lt2⟩ := sq_heap I1 qy
      refine call_zg p1 p2 fun h' gz gi go ra rb hk => wpAny_pyIter_zip gz ?_
      have I2 : Inv X pins σ H1 { s1 with heap := h' } := I1.kept (t' := s1.toks) hk
      refine ⟨s1.heap.objs.size + 4, [s1.heap.objs.size + 4, s1.heap.objs.size + 2, s1.heap.objs.size + 3, s1.heap.objs.size, s1.heap.objs.size + 1], _, _, H1, rfl, I2, turn_g (PySem.W.ktu_apart s1.heap.objs.size a b lt1 lt2), ⟨gz, gi, ⟨_, _, go⟩, ra, rb⟩, fun c hcm => ?_, q⟩
      have e' : c = s1.heap.objs.size + 4 ∨ c = s1.heap.objs.size + 2 ∨ c = s1.heap.objs.size + 3 ∨ c = s1.heap.objs.size ∨ c = s1.heap.objs.size + 1 := by simpa using hcm
      have hle : s1.heap.objs.size ≤ c := by rcases e' with q | q | q | q | q <;> rw [q] <;> first | exact Nat.le_refl _ | exact Nat.le_add_right _ _
      exact I1.fpOk hle (I1.hok.fresh hle)
end Zg

/-! MiC -/
set_option Elab.async false
set_option linter.all false
set_option maxRecDepth 100000
set_option maxHeartbeats 2000000
namespace Mi
open PySem PySem.Spec PyProof.Rows L2
/-- what the readings lean on: where things of the text stand, what defs promise -/
structure TP where
  K : PySem.W.Frag
  glob : Nat → V
  cls : Nat → Addr
def rSl (K : PySem.W.Frag) : V → Option Int → Option Int → Hp → VK → Prop := fun x lo hi H Q => rSlL K x lo hi H Q ∨ rSlN K x lo hi H Q
def iSeq (K : PySem.W.Frag) (tl : TE) : TI := fun σ H R => tl σ H fun x H1 => ∃ a, x = .ref a ∧ (((∃ xs, SqL K H1 a xs) ∧ R (Itl K a) H1) ∨ ((∃ xs, SqT K H1 a xs) ∧ R (Itt K a) H1))
def orE (t u : TE) : TE := fun σ H Q => t σ H Q ∨ u σ H Q
/-- t.index(x) of flat things -/
def rIndexT (K : PySem.W.Frag) : V → List V → Hp → VK → Prop := fun x xs H Q => ∃ (a : Addr) (ys : List V) (y : V) (j : Nat) (z : V), x = V.ref a ∧ xs = [y] ∧ SqT K H a ys ∧ flatV y = true ∧ ys.all flatV = true ∧
  ys[j]? = some z ∧ eqV z y = true ∧ (∀ (m : Nat) (z' : V), m < j → ys[m]? = some z' → eqV z' y = false) ∧ Q (.int (j : Nat)) H
/-- xs.remove(k), ints -/
def rRem : V → List V → Hp → VK → Prop := rRemI
def rInsert : V → List V → Hp → VK → Prop := fun x vs H Q => ∃ (l : Addr) (xs : List V) (i : Int) (y : V), x = .ref l ∧ vs = [.int i, y] ∧ H l = some (.lst xs) ∧ xs.length < sizeLine ∧ 0 ≤ i ∧ i < 2 ^ 63 ∧ Q .non (upd H l (.lst (xs.take i.toNat ++ [y] ++ xs.drop i.toNat)))
def gLen : Tg → Nat
  | .cons _ r => gLen r + 1
  | _ => 0
section
variable (K : PySem.W.Frag)
mutual
def tG : Tg → TG
  | .var i => gName i
  | .nil => gTup K 0 gNil
  | .cons a r => gTup K (gLen r + 1) (gCons (tG a) (tGs r))
def tGs : Tg → TGs
  | .nil => gNil
  | .cons a r => gCons (tG a) (tGs r)
  | .var _ => fun _ _ _ _ => False
end
end
def gNames : List (Nat × Bool) → TGs
  | [] => gNil
  | (i, _) :: r => gCons (gName i) (gNames r)
section
variable (P : TP) (call : Nat → Sp)
mutual
def tE : E → TE
  | .var i => tVar i
  | .glob x => tC (P.glob x)
  | .cint i => tC (.int i)
  | .cbl b => tC (.bl b)
  | .cnon => tC .non
  | .cstr s => tC (.str s)
  | .cty n => tC (.ty n)
  | .tup es => tTupN (tEs es)
  | .lst es => tLst (tEs es)
  | .bin op a b => tOp (rBin P.K op) (tE a) (tE b)
  | .neg a => tUn (rU fun i => .int (-i)) (tE a)
  | .notv a => tNotV (tE a)
  | .andv a b => tAndV (tE a) (tE b)
  | .orv a b => tOrV (tE a) (tE b)
  | .cmp op a b => tOp (rCmp P.K op) (tE a) (tE b)
  | .chain op op' a b c => tChain (rCmp P.K op) (rCmp P.K op') (tE a) (tE b) (tE c)
  | .ite c a b => tIf (tT c) (tE a) (tE b)
  | .idx a i => orE (tOp (rIx P.K) (tE a) (tE i)) (tDGet (tE a) (tE i))
  | .sl a lo hi => tSl (rSl P.K) (tE a) (tO lo) (tO hi)
  | .rev a => tUn (rRev P.K) (tE a)
  | .call f es => tCall (call f) [] E0 (tEs es)
  | .make C es => tMake (P.cls C) (call C) [] E0 (tEs es)
  | .callb f es => tCB (rBlt P.K f) (tEs es)
  | .meth .index o e => orE (tBM P.K "list" (rIndex P.K) (tE o) (tCons (tE e) tNil)) (tBD P.K "tuple" (rIndexT P.K) (tE o) (tCons (tE e) tNil))
  | .meth .count o e => tBM P.K "list" (rCntI P.K) (tE o) (tCons (tE e) tNil)
  | .mut .append i es => tBM P.K "list" rAppend (tVar i) (tEs es)
  | .mut .pop0 i es => tBM0 P.K "list" rPop (tVar i)
  | .mut .pop i es => tBM P.K "list" rPopAt (tVar i) (tEs es)
  | .mut .remove i es => tBM P.K "list" rRem (tVar i) (tEs es)
  | .mut .extend i es => tBM P.K "list" rExtend (tVar i) (tEs es)
  | .mut .insert i es => tBM P.K "list" rInsert (tVar i) (tEs es)
  | .attr a f => tFld P.K (tE a) f
  | .comp vs tg it c e => tLc (tIt it) (tG P.K tg) (tT c) (tE e) vs
  | .comp2 vs vs1 tg it c tg1 it1 c1 e => tLc2 (tIt it) (tG P.K tg) (tT c) (tIt it1) (tG P.K tg1) (tT c1) (tE e) vs vs1
  | .dic0 => tDNewK
  | .dic1 k v => tDisp [(tE k, tE v)]
  | .lrange es => tLrange (tEs es)
def tT : T → TT
  | .yes => tYes
  | .val e => tTest (tE e)
  | .and a b => tAnd (tT a) (tT b)
  | .or a b => tOr (tT a) (tT b)
  | .not a => tNot (tT a)
def tEs : Es → TA
  | .nil => tNil
  | .cons e r => tCons (tE e) (tEs r)
def tO : Oe → TO
  | .none => tNoPart
  | .some e => tPart (tE e)
def tIt : It → TI
  | .seq e => iSeq P.K (tE e)
  | .range1 a => iRng1 (tCons (tE a) tNil)
  | .range2 a b => iRng2 (tCons (tE a) (tCons (tE b) tNil))
  | .zip a b => Zg.iZipG P.K (tCons (tE a) (tCons (tE b) tNil))
  | .enum a => iEnumA P.K (tCons (tE a) tNil)
end
def tPars : Bool → List (Nat × Bool) → TA → TS
  | true, [(i, _), (j, _)], t => tPar i j t
  | true, [(i, _), (j, _), (l, _)], t => tPar3 i j l t
  | _, ts, t => tAsg (tTupN t) (gTup P.K ts.length (gNames ts))
mutual
def tS : S → TS
  | .asg tg e => tAsg (tE P call e) (tG P.K tg)
  | .own i e => tAsg (tE P call e) (gName i)
  | .par sw ts es => tPars P sw ts (tEs P call es)
  | .setix i ix e => tAsg (tE P call e) (gSub (tVar i) (tE P call ix) rSetA)
  | .setat i f e => sFld P.K (tVar i) (tE P call e) f
  | .aug i .add e => tAug i (tE P call e) (ipI fun i j => i + j)
  | .aug i .sub e => tAug i (tE P call e) (ipI fun i j => i - j)
  | .aug _ _ _ => tNever
  | .augix i ix .add e => tAugS (tVar i) (tE P call ix) (tE P call e) rGetO (ipI fun i j => i + j) rSetA
  | .augix i ix .sub e => tAugS (tVar i) (tE P call ix) (tE P call e) rGetO (ipI fun i j => i - j) rSetA
  | .augix _ _ _ _ => tNever
  | .expr e => tDrop (tE P call e)
  | .ret e => tRet (tE P call e)
  | .retn => tRetN
  | .ite c a b => tIfS (tT P call c) (tSs a) (tSs b)
  | .whil c b => tWhile (tT P call c) (tSs b)
  | .for_ tg it b => tFor (tIt P call it) (tG P.K tg) (tSs b)
  | .pass => tNext
  | .brk => tBreak
  | .cnt => tCont
  | .never => tNever
def tSs : Ss → TS
  | .nil => tNext
  | .cons s r => tSeq (tS s) (tSs r)
end
end
/-! ### derivation rules that the layer lacks -/
section
variable {X : Cx} {e : Expr} {t u : TE}
theorem PE.or (h : PE X e t) (h' : PE X e u) : PE X e (orE t u) := ⟨fun pins s σ H Q I hw => hw.elim (h.run pins s σ H Q I) (h'.run pins s σ H Q I)⟩
theorem pi_any {l tg : Expr} {tl : TE} (hl : PE X l tl) : PI X tg l (iSeq X.K tl) := by
  refine ⟨fun pins s σ H R I h => ?_⟩
  refine thn (hl.run pins s σ H _ I h) fun v s1 ⟨x, H1, I1, r1, q1⟩ => ?_
  obtain ⟨a, e, ⟨⟨xs, hq⟩, q⟩ | ⟨⟨xs, hq⟩, q⟩⟩ := q1
  · subst e
    cases r1
    obtain ⟨its, rv, p, hz⟩ := I1.list hq
    refine wpAny_pyIter_list p.isList ?_
    refine ⟨s1.heap.objs.size, [s1.heap.objs.size], _, _, H1, rfl, I1.kept (t' := s1.toks) fun b o e => Heap.get?_push_of_some _ e, turn_list a _, ⟨_, Heap.get?_push_size _ rfl, rfl, rfl⟩, fun b hb => ?_, q⟩
    have e : b = s1.heap.objs.size := by simpa using hb
    subst e
    exact I1.fpOk (Nat.le_refl _) (I1.hok.fresh (Nat.le_refl _))
  · subst e
    cases r1
    obtain ⟨its, rv, p, hz⟩ := I1.tuple hq
    refine wpAny_pyIter_tuple (show s1.heap.IsTuple a its.toArray from p) ?_
    refine ⟨s1.heap.objs.size, [s1.heap.objs.size], _, _, H1, rfl, I1.kept (t' := s1.toks) fun b o e => Heap.get?_push_of_some _ e, turn_tuple a _, ⟨_, Heap.get?_push_size _ rfl, rfl, rfl⟩, fun b hb => ?_, q⟩
    have e : b = s1.heap.objs.size := by simpa using hb
    subst e
    exact I1.fpOk (Nat.le_refl _) (I1.hok.fresh (Nat.le_refl _))
theorem sl_any : SlR X (rSl X.K) := sl_list.or sl_tupN
/-- t.index(x): flat items -/
theorem mt_indexT : MtR X "tuple.index" (rIndexT X.K) := by
  intro pins s σ H x xs v us Q I rx rs h
  obtain ⟨p, ys, y, j, z, rfl, rfl, hq, fy, fs, hy, hz', hno, q⟩ := h
  cases rx
  obtain ⟨u, rfl, ru⟩ := vals1 rs
  obtain ⟨its, r, pl, hz⟩ := I.tuple hq
  obtain ⟨⟨cls, dd, dt, sl⟩, ho, hc, n, hd⟩ := pl
  simp only at hc hd
  subst hc
  subst hd
  have hl : its.toArray.size = ys.length := by rw [List.size_toArray, ← r.length]
  have hj : j < its.toArray.size := by rw [hl]; exact (List.getElem?_eq_some_iff.mp hy).1
  have at' : ∀ (m : Nat) (hm : m < its.toArray.size), ∃ w, ys[m]? = some w ∧ eqU y its.toArray[m] = eqV w y := fun m hm => by
    have hm' : m < ys.length := by rw [← hl]; exact hm
    obtain ⟨w, hw, rw'⟩ := r.get (i := m) (x := ys[m]) (by simp [hm'])
    refine ⟨ys[m], List.getElem?_eq_getElem hm', ?_⟩
    have e := (List.getElem?_eq_some_iff.mp hw).2
    have e2 : its.toArray[m] = w := by rw [← e]; simp
    rw [e2]
    exact eqU_of rw' (by
      have := List.all_eq_true.mp fs ys[m] (List.getElem_mem hm')
      exact this)
  refine call_meets PySem.F.slot_tuple_index ⟨_, ho, rfl⟩ PySem.F.entry_tuple_index (PySem.F.args_tuple_index_2 _ _) (TI.tuple_indexAt p its.toArray n dd sl u (eqU y) j hj ?_ ?_)
    ⟨ho, fun w hw => mem_eqAt (x := y) ru fy r fs w (by simpa using hw), ⟨.int (j : Nat), H, I.tok _, ⟨_, rfl⟩, q⟩⟩
  · obtain ⟨w, h1, h2⟩ := at' j hj
    rw [hy] at h1
    cases h1
    rw [h2]
    exact hz'
  · intro m hm hmj
    obtain ⟨w, h1, h2⟩ := at' m hm
    rw [h2]
    exact hno m w hmj h1
end
end Mi

/-! MiD1 -/
set_option Elab.async false
set_option linter.all false
set_option maxRecDepth 100000
set_option maxHeartbeats 2000000
/-! MiD1: how plain data lie in the abstract heap; what changes keep. -/
namespace Mi
open PySem PySem.Spec L2
abbrev AP := Addr → Prop
def Av (O W : AP) : AP := fun a => O a ∨ W a
def isMut : HO → Bool
  | .lst _ => true
  | .ins _ _ _ => true
  | .dK _ => true
  | _ => false
/-- the script's list: tracked, or of the written part -/
def ScrAt (K : PySem.W.Frag) (A : AP) (H : Hp) (a : Addr) (xs : List V) : Prop :=
  (Rd H a (.lst xs) ∧ ¬ A a) ∨ ∃ (o : Obj) (its : Array Value) (n : Nat), K.lookup a = some o ∧ o.cls = .type "list" ∧ o.dict = none ∧ o.data = .seq its n ∧ its.size ≤ sizeLine ∧ Vals xs its.toList
section
variable (P : TP) (A : AP) (H : Hp)
mutual
def RepV : D → V → Prop
  | .non, v => v = .non
  | .bl b, v => v = .bl b
  | .int i, v => v = .int i
  | .str s, v => v = .str s
  | .ty n, v => v = .ty n
  | .tup ds, v => ∃ a vs, v = .ref a ∧ TupAt P.K H a vs ∧ ds.length ≤ line ∧ RepVs ds vs
  | .lst ds, v => ∃ a vs, v = .ref a ∧ H a = some (.lst vs) ∧ ¬ A a ∧ ds.length ≤ line ∧ RepVs ds vs
  | .ins C ns ds, v => ∃ a dx vs, v = .ref a ∧ H a = some (.ins (P.cls C) dx (ns.zip vs)) ∧ ns.length = vs.length ∧ ¬ A a ∧ RepVs ds vs
  | .dct ks ds, v => ∃ a vs, v = .ref a ∧ H a = some (.dK (ks.zip vs)) ∧ ks.length = vs.length ∧ ¬ A a ∧ RepVs ds vs
  | .scr ns, v => ∃ a, v = .ref a ∧ ScrAt P.K A H a (ns.map V.int) ∧ ns.length ≤ line
def RepVs : List D → List V → Prop
  | [], vs => vs = []
  | d :: ds, vs => ∃ v r, vs = v :: r ∧ RepV d v ∧ RepVs ds r
end
/-- the content of an owned thing -/
def OwnV : D → Addr → Prop
  | .lst ds, a => ∃ vs, H a = some (.lst vs) ∧ ds.length ≤ line ∧ RepVs P A H ds vs
  | .ins C ns ds, a => ∃ dx vs, H a = some (.ins (P.cls C) dx (ns.zip vs)) ∧ ns.length = vs.length ∧ RepVs P A H ds vs
  | .dct ks ds, a => ∃ vs, H a = some (.dK (ks.zip vs)) ∧ ks.length = vs.length ∧ RepVs P A H ds vs
  | _, _ => False
/-- what an operation reads: the top may be owned -/
def RepB : D → V → Prop
  | .lst ds, v => ∃ a vs, v = .ref a ∧ H a = some (.lst vs) ∧ ds.length ≤ line ∧ RepVs P A H ds vs
  | .ins C ns ds, v => ∃ a dx vs, v = .ref a ∧ H a = some (.ins (P.cls C) dx (ns.zip vs)) ∧ ns.length = vs.length ∧ RepVs P A H ds vs
  | .dct ks ds, v => ∃ a vs, v = .ref a ∧ H a = some (.dK (ks.zip vs)) ∧ ks.length = vs.length ∧ RepVs P A H ds vs
  | d, v => RepV P A H d v
end
section
variable {P : TP} {A A' : AP} {H H' : Hp}
theorem RepVs.length : ∀ {ds : List D} {vs : List V}, RepVs P A H ds vs → ds.length = vs.length
  | [], _, h => by unfold RepVs at h; subst h; rfl
  | d :: ds, _, h => by
    unfold RepVs at h
    obtain ⟨v, r, rfl, _, h2⟩ := h
    rw [List.length_cons, List.length_cons, RepVs.length h2]
theorem RepVs.get : ∀ {ds : List D} {vs : List V} {i : Nat} {d : D}, RepVs P A H ds vs → ds[i]? = some d → ∃ v, vs[i]? = some v ∧ RepV P A H d v
  | [], _, _, _, _, e => by simp at e
  | d :: ds, _, 0, x, h, e => by
    unfold RepVs at h
    obtain ⟨v, r, rfl, h1, _⟩ := h
    simp at e; subst e
    exact ⟨v, rfl, h1⟩
  | d :: ds, _, i + 1, x, h, e => by
    unfold RepVs at h
    obtain ⟨v, r, rfl, _, h2⟩ := h
    simpa using RepVs.get (i := i) h2 (by simpa using e)
theorem RepVs.nil : RepVs P A H [] [] := by unfold RepVs; rfl
theorem RepVs.cons {d : D} {ds : List D} {v : V} {vs : List V} (h : RepV P A H d v) (h2 : RepVs P A H ds vs) : RepVs P A H (d :: ds) (v :: vs) := by
  unfold RepVs; exact ⟨v, vs, rfl, h, h2⟩
theorem RepVs.uncons {d : D} {ds : List D} {vs : List V} (h : RepVs P A H (d :: ds) vs) : ∃ v r, vs = v :: r ∧ RepV P A H d v ∧ RepVs P A H ds r := by
  unfold RepVs at h; exact h
theorem RepVs.append : ∀ {ds es : List D} {vs ws : List V}, RepVs P A H ds vs → RepVs P A H es ws → RepVs P A H (ds ++ es) (vs ++ ws)
  | [], es, vs, ws, h, h2 => by unfold RepVs at h; subst h; exact h2
  | d :: ds, es, vs, ws, h, h2 => by
    obtain ⟨v, r, rfl, h1, h3⟩ := h.uncons
    exact .cons h1 (RepVs.append h3 h2)
theorem RepVs.take : ∀ {ds : List D} {vs : List V} (n : Nat), RepVs P A H ds vs → RepVs P A H (ds.take n) (vs.take n)
  | [], vs, n, h => by unfold RepVs at h; subst h; simpa using RepVs.nil
  | d :: ds, vs, 0, h => by simpa using RepVs.nil
  | d :: ds, vs, n + 1, h => by
    obtain ⟨v, r, rfl, h1, h3⟩ := h.uncons
    exact .cons h1 (RepVs.take n h3)
theorem RepVs.drop : ∀ {ds : List D} {vs : List V} (n : Nat), RepVs P A H ds vs → RepVs P A H (ds.drop n) (vs.drop n)
  | [], vs, n, h => by unfold RepVs at h; subst h; simpa using RepVs.nil
  | d :: ds, vs, 0, h => h
  | d :: ds, vs, n + 1, h => by
    obtain ⟨v, r, rfl, h1, h3⟩ := h.uncons
    exact RepVs.drop n h3
theorem RepVs.reverse : ∀ {ds : List D} {vs : List V}, RepVs P A H ds vs → RepVs P A H ds.reverse vs.reverse
  | [], vs, h => by unfold RepVs at h; subst h; exact RepVs.nil
  | d :: ds, vs, h => by
    obtain ⟨v, r, rfl, h1, h3⟩ := h.uncons
    rw [List.reverse_cons, List.reverse_cons]
    exact .append (RepVs.reverse h3) (.cons h1 .nil)
theorem RepVs.set {x : D} {u : V} (hx : RepV P A H x u) : ∀ {ds : List D} {vs : List V} (j : Nat), RepVs P A H ds vs → RepVs P A H (ds.set j x) (vs.set j u)
  | [], vs, j, h => by unfold RepVs at h; subst h; exact RepVs.nil
  | d :: ds, vs, 0, h => by
    obtain ⟨v, r, rfl, h1, h3⟩ := h.uncons
    exact .cons hx h3
  | d :: ds, vs, j + 1, h => by
    obtain ⟨v, r, rfl, h1, h3⟩ := h.uncons
    exact .cons h1 (RepVs.set hx j h3)
theorem RepVs.eraseIdx : ∀ {ds : List D} {vs : List V} (j : Nat), RepVs P A H ds vs → RepVs P A H (ds.eraseIdx j) (vs.eraseIdx j)
  | [], vs, j, h => by unfold RepVs at h; subst h; exact RepVs.nil
  | d :: ds, vs, 0, h => by
    obtain ⟨v, r, rfl, h1, h3⟩ := h.uncons
    exact h3
  | d :: ds, vs, j + 1, h => by
    obtain ⟨v, r, rfl, h1, h3⟩ := h.uncons
    exact .cons h1 (RepVs.eraseIdx j h3)
theorem RepVs.dropLast {ds : List D} {vs : List V} (h : RepVs P A H ds vs) : RepVs P A H ds.dropLast vs.dropLast := by
  rw [List.dropLast_eq_take, List.dropLast_eq_take, ← h.length]
  exact h.take _
theorem RepVs.rep {ds : List D} {vs : List V} (h : RepVs P A H ds vs) : ∀ k : Nat, RepVs P A H (List.replicate k ds).flatten (List.replicate k vs).flatten
  | 0 => RepVs.nil
  | k + 1 => by
    rw [List.replicate_succ, List.replicate_succ, List.flatten_cons, List.flatten_cons]
    exact h.append (RepVs.rep h k)
theorem RepVs.ofInts : ∀ (ns : List Int), RepVs P A H (ns.map .int) (ns.map V.int)
  | [] => .nil
  | n :: ns => .cons (by unfold RepV; rfl) (RepVs.ofInts ns)

/-- only what is written changes; what is avoided grows by new places alone -/
structure Kp (Wr A A' : AP) (H H' : Hp) : Prop where
  keep : ∀ a o, H a = some o → ¬ Wr a → H' a = some o
  wm : ∀ a, Wr a → ∃ o, H a = some o ∧ isMut o = true
  wa : ∀ a, Wr a → A a
  av : ∀ a, A' a → A a ∨ H a = none
theorem Kp.tupAt {Wr : AP} {K : PySem.W.Frag} {a : Addr} {vs : List V} (k : Kp Wr A A' H H') (h : TupAt K H a vs) : TupAt K H' a vs := by
  have no : ∀ {o : HO}, H a = some o → isMut o = false → ¬ Wr a := fun {o} e hm w => by
    obtain ⟨o', e', m'⟩ := k.wm a w
    rw [e] at e'; cases e'
    rw [hm] at m'; cases m'
  rcases h with ⟨o, h, hd⟩ | h
  · exact .inl ⟨o, k.keep _ _ h (no h rfl), hd⟩
  · exact .inr h
theorem Kp.na {Wr : AP} {a : Addr} {o : HO} (k : Kp Wr A A' H H') (e : H a = some o) (h : ¬ A a) : H' a = some o ∧ ¬ A' a := by
  refine ⟨k.keep _ _ e fun w => h (k.wa a w), fun z => ?_⟩
  rcases k.av a z with q | q
  · exact h q
  · rw [e] at q; cases q
theorem Kp.scr {Wr : AP} {K : PySem.W.Frag} {a : Addr} {vs : List V} (k : Kp Wr A A' H H') (h : ScrAt K A H a vs) : ScrAt K A' H' a vs := by
  rcases h with ⟨h | ⟨o, h⟩, n⟩ | h
  · obtain ⟨h1, h2⟩ := k.na h n
    exact .inl ⟨.inl h1, h2⟩
  · obtain ⟨h1, h2⟩ := k.na h n
    exact .inl ⟨.inr ⟨o, h1⟩, h2⟩
  · exact .inr h
mutual
theorem RepV.kp {Wr : AP} (k : Kp Wr A A' H H') : ∀ {d : D} {v : V}, RepV P A H d v → RepV P A' H' d v
  | .non, _, h => by unfold RepV at h ⊢; exact h
  | .bl _, _, h => by unfold RepV at h ⊢; exact h
  | .int _, _, h => by unfold RepV at h ⊢; exact h
  | .str _, _, h => by unfold RepV at h ⊢; exact h
  | .ty _, _, h => by unfold RepV at h ⊢; exact h
  | .tup ds, _, h => by
    unfold RepV at h ⊢
    obtain ⟨a, vs, e, hs, hz, hr⟩ := h
    exact ⟨a, vs, e, k.tupAt hs, hz, RepVs.kp k hr⟩
  | .lst ds, _, h => by
    unfold RepV at h ⊢
    obtain ⟨a, vs, e, hs, hn, hz, hr⟩ := h
    obtain ⟨h1, h2⟩ := k.na hs hn
    exact ⟨a, vs, e, h1, h2, hz, RepVs.kp k hr⟩
  | .ins C ns ds, _, h => by
    unfold RepV at h ⊢
    obtain ⟨a, dx, vs, e, hs, hl, hn, hr⟩ := h
    obtain ⟨h1, h2⟩ := k.na hs hn
    exact ⟨a, dx, vs, e, h1, hl, h2, RepVs.kp k hr⟩
  | .dct ks ds, _, h => by
    unfold RepV at h ⊢
    obtain ⟨a, vs, e, hs, hl, hn, hr⟩ := h
    obtain ⟨h1, h2⟩ := k.na hs hn
    exact ⟨a, vs, e, h1, hl, h2, RepVs.kp k hr⟩
  | .scr ns, _, h => by
    unfold RepV at h ⊢
    obtain ⟨a, e, hs, hz⟩ := h
    exact ⟨a, e, k.scr hs, hz⟩
theorem RepVs.kp {Wr : AP} (k : Kp Wr A A' H H') : ∀ {ds : List D} {vs : List V}, RepVs P A H ds vs → RepVs P A' H' ds vs
  | [], _, h => by unfold RepVs at h ⊢; exact h
  | d :: ds, _, h => by
    unfold RepVs at h ⊢
    obtain ⟨v, r, e, h1, h2⟩ := h
    exact ⟨v, r, e, RepV.kp k h1, RepVs.kp k h2⟩
end
/-- less is avoided -/
theorem Kp.less (h : ∀ a, A' a → A a) : Kp (fun _ => False) A A' H H := ⟨fun _ _ e _ => e, fun _ z => z.elim, fun _ z => z.elim, fun a z => .inl (h a z)⟩
theorem OwnV.kp {Wr : AP} {d : D} {a : Addr} (k : Kp Wr A A' H H') (nw : ¬ Wr a) (h : OwnV P A H d a) : OwnV P A' H' d a := by
  cases d with
  | lst ds => obtain ⟨vs, e, z, r⟩ := h; exact ⟨vs, k.keep _ _ e nw, z, r.kp k⟩
  | ins C ns ds => obtain ⟨dx, vs, e, l, r⟩ := h; exact ⟨dx, vs, k.keep _ _ e nw, l, r.kp k⟩
  | dct ks ds => obtain ⟨vs, e, l, r⟩ := h; exact ⟨vs, k.keep _ _ e nw, l, r.kp k⟩
  | _ => exact (show False from h).elim
theorem OwnV.mut {d : D} {a : Addr} (h : OwnV P A H d a) : ∃ o, H a = some o ∧ isMut o = true := by
  cases d with
  | lst ds => obtain ⟨vs, e, _, r⟩ := h; exact ⟨_, e, rfl⟩
  | ins C ns ds => obtain ⟨dx, vs, e, l, r⟩ := h; exact ⟨_, e, rfl⟩
  | dct ks ds => obtain ⟨vs, e, l, r⟩ := h; exact ⟨_, e, rfl⟩
  | _ => exact (show False from h).elim
theorem OwnV.rep {d : D} {a : Addr} (h : OwnV P A H d a) (n : ¬ A a) : RepV P A H d (.ref a) := by
  cases d with
  | lst ds => obtain ⟨vs, e, z, r⟩ := h; unfold RepV; exact ⟨a, vs, rfl, e, n, z, r⟩
  | ins C ns ds => obtain ⟨dx, vs, e, l, r⟩ := h; unfold RepV; exact ⟨a, dx, vs, rfl, e, l, n, r⟩
  | dct ks ds => obtain ⟨vs, e, l, r⟩ := h; unfold RepV; exact ⟨a, vs, rfl, e, l, n, r⟩
  | _ => exact (show False from h).elim
theorem OwnV.repB {d : D} {a : Addr} (h : OwnV P A H d a) : RepB P A H d (.ref a) := by
  cases d with
  | lst ds => obtain ⟨vs, e, z, r⟩ := h; exact ⟨a, vs, rfl, e, z, r⟩
  | ins C ns ds => obtain ⟨dx, vs, e, l, r⟩ := h; exact ⟨a, dx, vs, rfl, e, l, r⟩
  | dct ks ds => obtain ⟨vs, e, l, r⟩ := h; exact ⟨a, vs, rfl, e, l, r⟩
  | _ => exact (show False from h).elim
theorem RepV.repB {d : D} {v : V} (h : RepV P A H d v) : RepB P A H d v := by
  cases d with
  | lst ds => unfold RepV at h; obtain ⟨a, vs, e, hs, hn, hz, hr⟩ := h; exact ⟨a, vs, e, hs, hz, hr⟩
  | ins C ns ds => unfold RepV at h; obtain ⟨a, dx, vs, e, hs, hl, hn, hr⟩ := h; exact ⟨a, dx, vs, e, hs, hl, hr⟩
  | dct ks ds => unfold RepV at h; obtain ⟨a, vs, e, hs, hl, hn, hr⟩ := h; exact ⟨a, vs, e, hs, hl, hr⟩
  | _ => exact h
mutual
theorem RepV.still : ∀ {d : D} {v : V}, still d = true → RepV P A H d v → RepV P A' H d v
  | .non, _, _, h => by unfold RepV at h ⊢; exact h
  | .bl _, _, _, h => by unfold RepV at h ⊢; exact h
  | .int _, _, _, h => by unfold RepV at h ⊢; exact h
  | .str _, _, _, h => by unfold RepV at h ⊢; exact h
  | .ty _, _, _, h => by unfold RepV at h ⊢; exact h
  | .tup ds, _, s, h => by
    unfold RepV at h ⊢
    unfold still at s
    obtain ⟨a, vs, e, hs, hz, hr⟩ := h
    exact ⟨a, vs, e, hs, hz, RepVs.still s hr⟩
  | .lst ds, _, s, h => by unfold still at s; cases s
  | .ins C ns ds, _, s, h => by unfold still at s; cases s
  | .dct ks ds, _, s, h => by unfold still at s; cases s
  | .scr ns, _, s, h => by unfold still at s; cases s
theorem RepVs.still : ∀ {ds : List D} {vs : List V}, stills ds = true → RepVs P A H ds vs → RepVs P A' H ds vs
  | [], _, _, h => by unfold RepVs at h ⊢; exact h
  | d :: ds, _, s, h => by
    unfold RepVs at h ⊢
    unfold stills at s
    rw [Bool.and_eq_true] at s
    obtain ⟨v, r, e, h1, h2⟩ := h
    exact ⟨v, r, e, RepV.still s.1 h1, RepVs.still s.2 h2⟩
end
end

/-! ### the state -/
/-- the places of the owned things -/
def OwnA (σ : L2.St) (ρ : Env) : AP := fun a => ∃ i d, eget ρ i = some (true, d) ∧ σ[i]? = some (some (.ref a))
structure Rel (P : TP) (O W : AP) (H : Hp) (σ : L2.St) (ρ : Env) : Prop where
  len : ρ.length = σ.length
  wmut : ∀ a, W a → ∃ o, H a = some o ∧ isMut o = true
  oal : ∀ a, O a → H a ≠ none
  ow : ∀ a, W a → ¬ O a
  fro : ∀ i d, eget ρ i = some (false, d) → ∃ v, σ[i]? = some (some v) ∧ RepV P (Av O W) H d v
  own : ∀ i d, eget ρ i = some (true, d) → ∃ a, σ[i]? = some (some (.ref a)) ∧ W a ∧ OwnV P (Av O W) H d a
  inj : ∀ i j a di dj, eget ρ i = some (true, di) → eget ρ j = some (true, dj) → σ[i]? = some (some (.ref a)) → σ[j]? = some (some (.ref a)) → i = j
/-- from one state to a later one, the slots' values as they were -/
structure Step (σ : L2.St) (ρ : Env) (W : AP) (H : Hp) (ρ' : Env) (W' : AP) (H' : Hp) : Prop where
  keep : ∀ a o, H a = some o → ¬ OwnA σ ρ a → H' a = some o
  new : ∀ a, W' a → W a ∨ H a = none
  stay : ∀ a, W a → ¬ OwnA σ ρ a → W' a
  own : ∀ a, OwnA σ ρ' a → OwnA σ ρ a
  there : ∀ i x, eget ρ i = some x → ∃ y, eget ρ' i = some y
  alive : ∀ a, H a ≠ none → H' a ≠ none
/-- a value in flight -/
def RepR (P : TP) (O W : AP) (H : Hp) (σ : L2.St) (ρ : Env) : R → V → Prop
  | .v d, v => RepV P (Av O W) H d v
  | .b s, v => σ[s]? = some (some v) ∧ ∃ x, eget ρ s = some x
  | .o d, v => ∃ a, v = .ref a ∧ W a ∧ ¬ OwnA σ ρ a ∧ OwnV P (Av O W) H d a
section
variable {P : TP} {O W W1 W2 : AP} {H H1 H2 : Hp} {σ : L2.St} {ρ ρ1 ρ2 : Env}
theorem Rel.ownW (L : Rel P O W H σ ρ) {a : Addr} (h : OwnA σ ρ a) : W a := by
  obtain ⟨i, d, e, q⟩ := h
  obtain ⟨b, e2, w, _⟩ := L.own i d e
  rw [q] at e2
  cases e2
  exact w
theorem Step.refl : Step σ ρ W H ρ W H := ⟨fun _ _ e _ => e, fun _ h => .inl h, fun _ h _ => h, fun _ h => h, fun _ x h => ⟨x, h⟩, fun _ h => h⟩
theorem Step.trans (s : Step σ ρ W H ρ1 W1 H1) (t : Step σ ρ1 W1 H1 ρ2 W2 H2) : Step σ ρ W H ρ2 W2 H2 where
  keep := fun a o e n => t.keep a o (s.keep a o e n) fun z => n (s.own a z)
  new := fun a h => by
    rcases t.new a h with h | h
    · exact s.new a h
    · by_cases q : H a = none
      · exact .inr q
      · exact absurd h (s.alive a q)
  stay := fun a h n => t.stay a (s.stay a h n) fun z => n (s.own a z)
  own := fun a h => s.own a (t.own a h)
  there := fun i x h => let ⟨y, e⟩ := s.there i x h; t.there i y e
  alive := fun a h => t.alive a (s.alive a h)
theorem Step.kp (L : Rel P O W H σ ρ) (s : Step σ ρ W H ρ1 W1 H1) : Kp (OwnA σ ρ) (Av O W) (Av O W1) H H1 where
  keep := s.keep
  wm := fun a h => L.wmut a (L.ownW h)
  wa := fun a h => .inr (L.ownW h)
  av := fun a h => h.elim (fun z => .inl (.inl z)) fun z => (s.new a z).elim (fun q => .inl (.inr q)) .inr
theorem RepR.step {r : R} {v : V} (L : Rel P O W H σ ρ) (s : Step σ ρ W H ρ1 W1 H1) (h : RepR P O W H σ ρ r v) : RepR P O W1 H1 σ ρ1 r v := by
  cases r with
  | v d => exact RepV.kp (s.kp L) (show RepV P (Av O W) H d v from h)
  | b i => obtain ⟨e, x, q⟩ := h; exact ⟨e, s.there i x q⟩
  | o d =>
    obtain ⟨a, e, w, n, q⟩ := h
    exact ⟨a, e, s.stay a w n, fun z => n (s.own a z), q.kp (s.kp L) n⟩
theorem RepR.deref {r : R} {v : V} {d : D} (L : Rel P O W H σ ρ) (h : RepR P O W H σ ρ r v) (e : deref ρ r = some d) : RepB P (Av O W) H d v := by
  cases r with
  | v x => cases e; exact RepV.repB (show RepV P (Av O W) H d v from h)
  | o x =>
    cases e
    obtain ⟨a, rfl, w, n, q⟩ := h
    exact q.repB
  | b i =>
    obtain ⟨e1, x, q⟩ := h
    have e' : (eget ρ i).map (·.2) = some d := e
    rw [q] at e'
    obtain ⟨o, y⟩ := x
    cases e'
    cases o with
    | true =>
      obtain ⟨a, e2, w, q2⟩ := L.own i _ q
      rw [e1] at e2
      cases e2
      exact q2.repB
    | false =>
      obtain ⟨u, e2, q2⟩ := L.fro i _ q
      rw [e1] at e2
      cases e2
      exact q2.repB
/-- something new that nobody may change -/
theorem Rel.laid {p : Addr} {o : HO} (L : Rel P O W H σ ρ) (hp : H p = none) : Rel P O W (upd H p o) σ ρ ∧ Step σ ρ W H ρ W (upd H p o) := by
  have st : Step σ ρ W H ρ W (upd H p o) := by
    refine ⟨fun a u e _ => ?_, fun _ h => .inl h, fun _ h _ => h, fun _ h => h, fun _ x h => ⟨x, h⟩, fun a h => ?_⟩
    · rw [upd_ne (ne_of_none e hp)]; exact e
    · by_cases e : a = p
      · subst e; rw [upd_same]; exact fun z => nomatch z
      · rw [upd_ne e]; exact h
  have k := st.kp L
  have kk : ∀ a u, H a = some u → (upd H p o) a = some u := fun a u e => by rw [upd_ne (ne_of_none e hp)]; exact e
  refine ⟨⟨L.len, fun a h => ?_, fun a h => st.alive a (L.oal a h), L.ow, fun i d e => ?_, fun i d e => ?_, L.inj⟩, st⟩
  · obtain ⟨u, e, m⟩ := L.wmut a h
    exact ⟨u, kk a u e, m⟩
  · obtain ⟨v, e1, r⟩ := L.fro i d e
    exact ⟨v, e1, r.kp k⟩
  · obtain ⟨a, e1, w, r⟩ := L.own i d e
    refine ⟨a, e1, w, ?_⟩
    cases d with
    | lst ds => obtain ⟨vs, e, z, r⟩ := r; exact ⟨vs, kk _ _ e, z, r.kp k⟩
    | ins C ns ds => obtain ⟨dx, vs, e, l, r⟩ := r; exact ⟨dx, vs, kk _ _ e, l, r.kp k⟩
    | dct ks ds => obtain ⟨vs, e, l, r⟩ := r; exact ⟨vs, kk _ _ e, l, r.kp k⟩
    | _ => exact (show False from r).elim
/-- something new of one's own -/
theorem Rel.made {p : Addr} {o : HO} (L : Rel P O W H σ ρ) (hp : H p = none) (hm : isMut o = true) :
    Rel P O (fun a => W a ∨ a = p) (upd H p o) σ ρ ∧ Step σ ρ W H ρ (fun a => W a ∨ a = p) (upd H p o) ∧ ¬ OwnA σ ρ p := by
  obtain ⟨L1, s1⟩ := L.laid (o := o) hp
  have st : Step σ ρ W H ρ (fun a => W a ∨ a = p) (upd H p o) :=
    ⟨s1.keep, fun a h => h.elim .inl fun e => .inr (e ▸ hp), fun a h _ => .inl h, s1.own, s1.there, s1.alive⟩
  have k := st.kp L
  have no : ∀ a, W a → a ≠ p := fun a h e => by
    obtain ⟨u, e1, _⟩ := L.wmut a h
    rw [e, hp] at e1; cases e1
  refine ⟨⟨L.len, fun a h => ?_, fun a h => st.alive a (L.oal a h), fun a h => ?_, fun i d e => ?_, fun i d e => ?_, L.inj⟩, st, fun z => no p (L.ownW z) rfl⟩
  · rcases h with h | rfl
    · exact L1.wmut a h
    · exact ⟨o, upd_same, hm⟩
  · rcases h with h | rfl
    · exact L.ow a h
    · exact fun z => L.oal _ z hp
  · obtain ⟨v, e1, r⟩ := L.fro i d e
    exact ⟨v, e1, r.kp k⟩
  · obtain ⟨a, e1, w, r⟩ := L1.own i d e
    refine ⟨a, e1, .inl w, ?_⟩
    obtain ⟨b, e2, _, r0⟩ := L.own i d e
    rw [e1] at e2; cases e2
    have kk : ∀ a u, H a = some u → (upd H p o) a = some u := fun a u e => by rw [upd_ne (ne_of_none e hp)]; exact e
    cases d with
    | lst ds => obtain ⟨vs, e, z, r⟩ := r0; exact ⟨vs, kk _ _ e, z, r.kp k⟩
    | ins C ns ds => obtain ⟨dx, vs, e, l, r⟩ := r0; exact ⟨dx, vs, kk _ _ e, l, r.kp k⟩
    | dct ks ds => obtain ⟨vs, e, l, r⟩ := r0; exact ⟨vs, kk _ _ e, l, r.kp k⟩
    | _ => exact (show False from r0).elim
/-- give up the care of a place that is no slot's -/
theorem Rel.drop {W' : AP} (L : Rel P O W H σ ρ) (h1 : ∀ a, W' a → W a) (h2 : ∀ a, OwnA σ ρ a → W' a) : Rel P O W' H σ ρ := by
  have k : Kp (fun _ => False) (Av O W) (Av O W') H H := Kp.less fun a z => z.elim .inl fun q => .inr (h1 a q)
  refine ⟨L.len, fun a h => L.wmut a (h1 a h), L.oal, fun a h => L.ow a (h1 a h), fun i d e => ?_, fun i d e => ?_, L.inj⟩
  · obtain ⟨v, e1, r⟩ := L.fro i d e
    exact ⟨v, e1, r.kp k⟩
  · obtain ⟨a, e1, w, r⟩ := L.own i d e
    exact ⟨a, e1, h2 a ⟨i, d, e, e1⟩, r.kp k fun z => z⟩

/-- what was new, or a slot's, is let go -/
structure Lose (σ : L2.St) (ρ : Env) (W : AP) (ρ' : Env) (W' : AP) (T : AP) : Prop where
  sub : ∀ a, W' a → W a
  lost : ∀ a, W a → ¬ W' a → T a ∨ OwnA σ ρ a
  own : ∀ a, OwnA σ ρ' a → OwnA σ ρ a
  there : ∀ i x, eget ρ i = some x → ∃ y, eget ρ' i = some y
theorem Lose.refl {T : AP} : Lose σ ρ W ρ W T := ⟨fun _ h => h, fun _ h n => (n h).elim, fun _ h => h, fun _ x h => ⟨x, h⟩⟩
theorem Lose.trans {T : AP} {W1 W2 : AP} (s : Lose σ ρ W ρ1 W1 T) (t : Lose σ ρ1 W1 ρ2 W2 T) : Lose σ ρ W ρ2 W2 T :=
  ⟨fun a h => s.sub a (t.sub a h), fun a h n => by
    by_cases q : W1 a
    · exact (t.lost a q n).imp (fun z => z) (s.own a)
    · exact s.lost a h q, fun a h => s.own a (t.own a h), fun i x h => let ⟨y, e⟩ := s.there i x h; t.there i y e⟩
theorem Lose.mono {T T' : AP} (s : Lose σ ρ W ρ1 W1 T) (h : ∀ a, T a → T' a) : Lose σ ρ W ρ1 W1 T' := ⟨s.sub, fun a w n => (s.lost a w n).imp (h a) (fun z => z), s.own, s.there⟩
theorem Step.lose {T : AP} (s : Step σ ρ W H ρ1 W1 H1) (L : Rel P O W H σ ρ) (l : Lose σ ρ1 W1 ρ2 W2 T) (ht : ∀ a, T a → H a = none) : Step σ ρ W H ρ2 W2 H1 where
  keep := s.keep
  new := fun a h => s.new a (l.sub a h)
  stay := fun a h n => by
    refine Classical.byContradiction fun q => ?_
    rcases l.lost a (s.stay a h n) q with z | z
    · obtain ⟨o, e, _⟩ := L.wmut a h
      rw [ht a z] at e; cases e
    · exact n (s.own a z)
  own := fun a h => s.own a (l.own a h)
  there := fun i x h => let ⟨y, e⟩ := s.there i x h; l.there i y e
  alive := s.alive
theorem RepR.lose {T : AP} {r : R} {v : V} (l : Lose σ ρ W ρ1 W1 T) (h : RepR P O W H σ ρ r v) (nt : ∀ d a, r = .o d → v = .ref a → ¬ T a) : RepR P O W1 H σ ρ1 r v := by
  have k : Kp (fun _ => False) (Av O W) (Av O W1) H H := Kp.less fun a z => z.elim .inl fun q => .inr (l.sub a q)
  cases r with
  | v d => exact RepV.kp k (show RepV P (Av O W) H d v from h)
  | b i => obtain ⟨e, x, q⟩ := h; exact ⟨e, l.there i x q⟩
  | o d =>
    obtain ⟨a, e, w, n, q⟩ := h
    refine ⟨a, e, Classical.byContradiction fun z => ?_, fun z => n (l.own a z), q.kp k fun z => z⟩
    rcases l.lost a w z with y | y
    · exact nt d a rfl e y
    · exact n y
/-- a slot's thing is frozen -/
theorem Rel.frozen {i : Nat} {o : Bool} {d : D} (L : Rel P O W H σ ρ) (e : eget ρ i = some (o, d)) : ∃ W', Rel P O W' H σ (ρ.set i (some (false, d))) ∧ (∀ T, Lose σ ρ W (ρ.set i (some (false, d))) W' T) ∧ ∃ v, σ[i]? = some (some v) ∧ RepV P (Av O W') H d v := by
  have hi : i < ρ.length := by
    unfold eget at e
    cases q : ρ[i]? with
    | none => rw [q] at e; cases e
    | some x => exact (List.getElem?_eq_some_iff.mp q).1
  have get1 : eget (ρ.set i (some (false, d))) i = some (false, d) := by unfold eget; rw [List.getElem?_set_self hi]; rfl
  have get2 : ∀ j, j ≠ i → eget (ρ.set i (some (false, d))) j = eget ρ j := fun j h => by unfold eget; rw [List.getElem?_set_ne (Ne.symm h)]
  have oo : ∀ j x, eget (ρ.set i (some (false, d))) j = some (true, x) → j ≠ i ∧ eget ρ j = some (true, x) := fun j x h => by
    by_cases q : j = i
    · subst q; rw [get1] at h; cases h
    · exact ⟨q, by rw [← get2 j q]; exact h⟩
  have th : ∀ j x, eget ρ j = some x → ∃ y, eget (ρ.set i (some (false, d))) j = some y := fun j x h => by
    by_cases q : j = i
    · subst q; exact ⟨_, get1⟩
    · exact ⟨x, by rw [get2 j q]; exact h⟩
  cases o with
  | false =>
    obtain ⟨v, e1, r⟩ := L.fro i d e
    have hs : ∀ j, eget (ρ.set i (some (false, d))) j = eget ρ j := fun j => by
      by_cases q : j = i
      · subst q; rw [get1, e]
      · exact get2 j q
    have ho : ∀ a, OwnA σ (ρ.set i (some (false, d))) a ↔ OwnA σ ρ a := fun a => by unfold OwnA; simp only [hs]
    refine ⟨W, ⟨by simpa using L.len, L.wmut, L.oal, L.ow, fun j x h => L.fro j x (by rw [← hs]; exact h), fun j x h => L.own j x (by rw [← hs]; exact h), fun j k a x y h1 h2 => L.inj j k a x y (by rw [← hs]; exact h1) (by rw [← hs]; exact h2)⟩,
      fun T => ⟨fun _ h => h, fun _ h n => (n h).elim, fun a h => (ho a).mp h, th⟩, v, e1, r⟩
  | true =>
    obtain ⟨a, e1, w, r⟩ := L.own i d e
    have k : Kp (fun _ => False) (Av O W) (Av O fun b => W b ∧ b ≠ a) H H := Kp.less fun b z => z.elim .inl fun q => .inr q.1
    have nA : ¬ Av O (fun b => W b ∧ b ≠ a) a := fun z => z.elim (fun q => L.ow a w q) fun q => q.2 rfl
    have r' : RepV P (Av O fun b => W b ∧ b ≠ a) H d (.ref a) := OwnV.rep (r.kp k fun z => z) nA
    refine ⟨fun b => W b ∧ b ≠ a, ⟨by simpa using L.len, fun b h => L.wmut b h.1, L.oal, fun b h => L.ow b h.1, fun j x h => ?_, fun j x h => ?_, fun j j' b x y h1 h2 => L.inj j j' b x y (oo j x h1).2 (oo j' y h2).2⟩,
      fun T => ⟨fun _ h => h.1, fun b h n => .inr ?_, fun b h => ?_, th⟩, .ref a, e1, r'⟩
    · by_cases q : j = i
      · subst q; rw [get1] at h; cases h; exact ⟨_, e1, r'⟩
      · obtain ⟨v, e2, r2⟩ := L.fro j x (by rw [← get2 j q]; exact h)
        exact ⟨v, e2, r2.kp k⟩
    · obtain ⟨hj, h'⟩ := oo j x h
      obtain ⟨b, e2, w2, r2⟩ := L.own j x h'
      refine ⟨b, e2, ⟨w2, fun q => ?_⟩, r2.kp k fun z => z⟩
      subst q
      exact hj (L.inj j i b x d h' e e2 e1)
    · have hb : b = a := Classical.byContradiction fun q => n ⟨h, q⟩
      subst hb
      exact ⟨i, d, e, e1⟩
    · obtain ⟨j, x, h1, h2⟩ := h
      exact ⟨j, x, (oo j x h1).2, h2⟩
theorem freeze_ok {r : R} {v : V} {d : D} (L : Rel P O W H σ ρ) (h : RepR P O W H σ ρ r v) (e : freeze r ρ = some (d, ρ1)) :
    ∃ W1, Rel P O W1 H σ ρ1 ∧ Lose σ ρ W ρ1 W1 (fun a => (∃ x, r = .o x) ∧ v = .ref a) ∧ RepV P (Av O W1) H d v := by
  cases r with
  | v x => cases e; exact ⟨W, L, .refl, h⟩
  | b i =>
    obtain ⟨e1, x, q⟩ := h
    simp only [freeze, q] at e
    obtain ⟨o, y⟩ := x
    cases e
    obtain ⟨W', L', l, u, e2, r⟩ := L.frozen q
    rw [e1] at e2; cases e2
    exact ⟨W', L', l _, r⟩
  | o x =>
    cases e
    obtain ⟨a, rfl, w, n, q⟩ := h
    have hw : ∀ b, OwnA σ ρ b → (fun b => W b ∧ b ≠ a) b := fun b hb => ⟨L.ownW hb, fun z => n (z ▸ hb)⟩
    have k : Kp (fun _ => False) (Av O W) (Av O fun b => W b ∧ b ≠ a) H H := Kp.less fun b z => z.elim .inl fun q => .inr q.1
    refine ⟨fun b => W b ∧ b ≠ a, L.drop (fun b h => h.1) hw, ⟨fun b h => h.1, fun b h n2 => .inl ⟨⟨d, rfl⟩, ?_⟩, fun _ h => h, fun _ y h => ⟨y, h⟩⟩, OwnV.rep (q.kp k fun z => z) fun z => z.elim (fun q => L.ow a w q) fun q => q.2 rfl⟩
    have hb : b = a := Classical.byContradiction fun q => n2 ⟨h, q⟩
    rw [hb]
/-- the new things among values in flight -/
def tmps : List R → List V → List Addr
  | .o _ :: rs, .ref a :: vs => a :: tmps rs vs
  | _ :: rs, _ :: vs => tmps rs vs
  | _, _ => []
def RepRs (P : TP) (O W : AP) (H : Hp) (σ : L2.St) (ρ : Env) : List R → List V → Prop
  | [], vs => vs = []
  | r :: rs, vs => ∃ v us, vs = v :: us ∧ RepR P O W H σ ρ r v ∧ RepRs P O W H σ ρ rs us
theorem RepRs.step : ∀ {rs : List R} {vs : List V}, Rel P O W H σ ρ → Step σ ρ W H ρ1 W1 H1 → RepRs P O W H σ ρ rs vs → RepRs P O W1 H1 σ ρ1 rs vs
  | [], _, _, _, h => h
  | r :: rs, _, L, s, ⟨v, us, e, h1, h2⟩ => ⟨v, us, e, h1.step L s, RepRs.step L s h2⟩
theorem RepRs.lose {T : AP} : ∀ {rs : List R} {vs : List V}, Lose σ ρ W ρ1 W1 T → RepRs P O W H σ ρ rs vs → (∀ a ∈ tmps rs vs, ¬ T a) → RepRs P O W1 H σ ρ1 rs vs
  | [], _, _, h, _ => h
  | r :: rs, _, l, ⟨v, us, e, h1, h2⟩, n => by
    subst e
    refine ⟨v, us, rfl, h1.lose l fun d a e1 e2 => ?_, RepRs.lose l h2 fun a ha => ?_⟩
    · subst e1 e2; exact n a List.mem_cons_self
    · refine n a ?_
      cases r with
      | o d => cases v <;> first | exact List.mem_cons_of_mem _ ha | exact ha
      | v d => exact ha
      | b d => exact ha
theorem freezes_ok : ∀ {rs : List R} {vs : List V} {ds : List D} {W : AP} {ρ ρ1 : Env}, Rel P O W H σ ρ → RepRs P O W H σ ρ rs vs → (tmps rs vs).Nodup → freezes rs ρ = some (ds, ρ1) →
    ∃ W1, Rel P O W1 H σ ρ1 ∧ Lose σ ρ W ρ1 W1 (fun a => a ∈ tmps rs vs) ∧ RepVs P (Av O W1) H ds vs
  | [], _, _, W, ρ, _, L, h, _, e => by
    cases e
    have h : _ = _ := h
    subst h
    exact ⟨W, L, .refl, .nil⟩
  | r :: rs, _, ds, W, ρ, ρ1, L, ⟨v, us, e0, h1, h2⟩, nd, e => by
    subst e0
    unfold freezes at e
    cases q : freeze r ρ with
    | none => rw [q] at e; cases e
    | some x =>
      obtain ⟨d, ρ2⟩ := x
      rw [q] at e
      dsimp only at e
      cases q2 : freezes rs ρ2 with
      | none => rw [q2] at e; cases e
      | some y =>
        obtain ⟨ds2, ρ3⟩ := y
        rw [q2] at e
        cases e
        obtain ⟨W2, L2', l2, rd⟩ := freeze_ok L h1 q
        have nd2 : (tmps rs us).Nodup ∧ ∀ a, (∃ x, r = .o x) ∧ v = .ref a → a ∉ tmps rs us := by
          cases r with
          | o d =>
            cases v <;> first
              | exact ⟨(List.nodup_cons.mp nd).2, fun a h => by obtain ⟨_, e⟩ := h; cases e; exact (List.nodup_cons.mp nd).1⟩
              | exact ⟨nd, fun a h => by obtain ⟨_, e⟩ := h; cases e⟩
          | v d => exact ⟨nd, fun a h => by obtain ⟨⟨_, e⟩, _⟩ := h; cases e⟩
          | b d => exact ⟨nd, fun a h => by obtain ⟨⟨_, e⟩, _⟩ := h; cases e⟩
        obtain ⟨W3, L3, l3, rds⟩ := freezes_ok L2' (h2.lose l2 fun a ha h => nd2.2 a h ha) nd2.1 q2
        have inc : ∀ a, a ∈ tmps rs us → a ∈ tmps (r :: rs) (v :: us) := fun a ha => by
          cases r with
          | o d => cases v <;> first | exact List.mem_cons_of_mem _ ha | exact ha
          | v d => exact ha
          | b d => exact ha
        have k : Kp (fun _ => False) (Av O W2) (Av O W3) H H := Kp.less fun b z => z.elim .inl fun q => .inr (l3.sub b q)
        refine ⟨W3, L3, (l2.mono fun a h => ?_).trans (l3.mono inc), .cons (rd.kp k) rds⟩
        obtain ⟨⟨x, e⟩, e2⟩ := h
        subst e e2
        exact List.mem_cons_self
end
end Mi

/-! MiD2 -/
set_option Elab.async false
set_option linter.all false
set_option maxRecDepth 100000
set_option maxHeartbeats 4000000
/-! MiD2: operations on data against the readings by values. -/
namespace Mi
open PySem PySem.Spec PyProof.Rows L2
def Cont (P : TP) (O : AP) (σ : L2.St) (ρ0 : Env) (W0 : AP) (H0 : Hp) (ρ : Env) (r : R) (Q : VK) : Prop :=
  ∀ v H W, Rel P O W H σ ρ → Step σ ρ0 W0 H0 ρ W H → RepR P O W H σ ρ r v → (∀ d a, r = .o d → v = .ref a → H0 a = none) → Q v H
section
variable {P : TP} {O W W0 A : AP} {H H0 : Hp} {σ : L2.St} {ρ ρ0 : Env} {r : R} {Q : VK}
theorem Cont.from {ρ1 : Env} (c : Cont P O σ ρ0 W0 H0 ρ1 r Q) (s : Step σ ρ0 W0 H0 ρ W H) : Cont P O σ ρ W H ρ1 r Q := fun v H1 W1 L t h f =>
  c v H1 W1 L (s.trans t) h fun d a e1 e2 => Classical.byContradiction fun q => s.alive a q (f d a e1 e2)
theorem Cont.val {d : D} {v : V} (c : Cont P O σ ρ W H ρ (.v d) Q) (L : Rel P O W H σ ρ) (h : RepV P (Av O W) H d v) : Q v H :=
  c v H W L .refl h fun _ _ e => nomatch e
theorem Cont.bl {b b' : Bool} (c : Cont P O σ ρ W H ρ (.v (.bl b)) Q) (L : Rel P O W H σ ρ) (e : b' = b) : Q (.bl b') H := c.val L (by unfold RepV; rw [e])
theorem Cont.int {i j : Int} (c : Cont P O σ ρ W H ρ (.v (.int i)) Q) (L : Rel P O W H σ ρ) (e : j = i) : Q (.int j) H := c.val L (by unfold RepV; rw [e])
theorem kp_same {p : Addr} {o : HO} (hp : H p = none) : Kp (fun _ => False) A A H (upd H p o) := ⟨fun a u e _ => by rw [upd_ne (ne_of_none e hp)]; exact e, fun _ z => z.elim, fun _ z => z.elim, fun _ z => .inl z⟩
theorem kp_grow {p : Addr} {o : HO} (hp : H p = none) : Kp (fun _ => False) (Av O W) (Av O fun a => W a ∨ a = p) H (upd H p o) :=
  ⟨fun a u e _ => by rw [upd_ne (ne_of_none e hp)]; exact e, fun _ z => z.elim, fun _ z => z.elim, fun a z => z.elim (fun q => .inl (.inl q)) fun q => q.elim (fun q => .inl (.inr q)) fun q => .inr (q ▸ hp)⟩
/-- a new tuple is handed back -/
theorem Cont.tup {ds : List D} {vs : List V} (c : Cont P O σ ρ W H ρ (.v (.tup ds)) Q) (L : Rel P O W H σ ρ) (h : RepVs P (Av O W) H ds vs) (hz : ds.length ≤ line) : NewT vs H Q := fun p o hp hd => by
  obtain ⟨L1, s1⟩ := L.laid (o := .frz o (.tup vs)) hp
  exact c _ _ _ L1 s1 (by show RepV _ _ _ _ _; unfold RepV; exact ⟨p, vs, rfl, .inl ⟨o, upd_same, hd⟩, hz, h.kp (kp_same hp)⟩) fun _ _ e => nomatch e
/-- a new list -/
theorem Cont.lst {ds : List D} {vs : List V} {p : Addr} (c : Cont P O σ ρ W H ρ (.o (.lst ds)) Q) (L : Rel P O W H σ ρ) (h : RepVs P (Av O W) H ds vs) (hz : ds.length ≤ line) (hp : H p = none) : Q (.ref p) (upd H p (.lst vs)) := by
  obtain ⟨L1, s1, n1⟩ := L.made (o := .lst vs) hp rfl
  exact c _ _ _ L1 s1 ⟨p, rfl, .inr rfl, n1, vs, upd_same, hz, h.kp (kp_grow hp)⟩ fun _ a _ e => by cases e; exact hp
theorem repInt {i : Int} {v : V} (h : RepB P A H (.int i) v) : v = .int i := by unfold RepB RepV at h; exact h
theorem repBl {b : Bool} {v : V} (h : RepB P A H (.bl b) v) : v = .bl b := by unfold RepB RepV at h; exact h
theorem repNon {v : V} (h : RepB P A H .non v) : v = .non := by unfold RepB RepV at h; exact h
theorem repTy {n : String} {v : V} (h : RepB P A H (.ty n) v) : v = .ty n := by unfold RepB RepV at h; exact h
theorem repStr {s : Str} {v : V} (h : RepB P A H (.str s) v) : v = .str s := by unfold RepB RepV at h; exact h
theorem repTup {ds : List D} {v : V} (h : RepB P A H (.tup ds) v) : ∃ a vs, v = .ref a ∧ TupAt P.K H a vs ∧ ds.length ≤ line ∧ RepVs P A H ds vs := by unfold RepB RepV at h; exact h
theorem repLst {ds : List D} {v : V} (h : RepB P A H (.lst ds) v) : ∃ a vs, v = .ref a ∧ H a = some (.lst vs) ∧ ds.length ≤ line ∧ RepVs P A H ds vs := h
theorem repItems {d : D} {l : List D} {v : V} (h : RepB P A H d v) (e : itemsD d = some l) : ∃ a vs, v = .ref a ∧ SqA P.K H a vs ∧ l.length ≤ line ∧ RepVs P A H l vs := by
  cases d with
  | lst ds => cases e; obtain ⟨a, vs, e, h1, z, h2⟩ := repLst h; exact ⟨a, vs, e, .inl (.inl (.inl h1)), z, h2⟩
  | tup ds => cases e; obtain ⟨a, vs, e, h1, z, h2⟩ := repTup h; exact ⟨a, vs, e, .inr h1.sqT, z, h2⟩
  | _ => cases e
theorem repInts : ∀ {l : List D} {ns : List Int} {vs : List V}, intsD l = some ns → RepVs P A H l vs → vs = ns.map V.int
  | [], ns, vs, e, h => by cases e; unfold RepVs at h; exact h
  | d :: r, ns, vs, e, h => by
    obtain ⟨v, us, rfl, h1, h2⟩ := h.uncons
    cases d with
    | int i =>
      unfold intsD at e
      cases q : intsD r with
      | none => rw [q] at e; cases e
      | some ms =>
        rw [q] at e
        cases e
        rw [List.map_cons, repInts q h2, repInt h1.repB]
    | _ => simp [intsD] at e
theorem repBls : ∀ {l : List D} {bs : List Bool} {vs : List V}, blsD l = some bs → RepVs P A H l vs → vs = bs.map V.bl
  | [], ns, vs, e, h => by cases e; unfold RepVs at h; exact h
  | d :: r, ns, vs, e, h => by
    obtain ⟨v, us, rfl, h1, h2⟩ := h.uncons
    cases d with
    | bl i =>
      unfold blsD at e
      cases q : blsD r with
      | none => rw [q] at e; cases e
      | some ms =>
        rw [q] at e
        cases e
        rw [List.map_cons, repBls q h2, repBl h1.repB]
    | _ => simp [blsD] at e
theorem line_eq : sizeLine = line := sizeLine_eq
theorem bin_ok {op : BOp} {x y d : D} {vx vy : V} (L : Rel P O W H σ ρ) (hx : RepB P (Av O W) H x vx) (hy : RepB P (Av O W) H y vy) (e : binD op x y = some d) (c : Cont P O σ ρ W H ρ (asR op d) Q) : rBin P.K op vx vy H Q := by
  cases op with
  | add =>
    cases x <;> cases y <;> first | (simp [binD] at e; done) | skip
    · simp only [binD] at e
      cases e
      exact .inl ⟨_, _, repInt hx, repInt hy, c.int L rfl⟩
    · simp only [binD] at e
      split at e
      · cases e
        rename_i hz
        obtain ⟨a, vs, rfl, ha, za, ra⟩ := repTup hx
        obtain ⟨b, us, rfl, hb, zb, rb⟩ := repTup hy
        refine .inr (.inr ⟨a, b, vs, us, rfl, rfl, ha.sqT, hb.sqT, by rw [line_eq, ← ra.length, ← rb.length]; exact hz, fun q => ?_, fun _ q => ?_, fun _ _ => c.tup L (ra.append rb) (by rw [List.length_append]; exact hz)⟩)
        · subst q
          have e0 := List.length_eq_zero_iff.mp ra.length
          subst e0
          exact c.val L (by unfold RepV; exact ⟨b, us, rfl, hb, by simpa using zb, by simpa using rb⟩)
        · subst q
          have e0 := List.length_eq_zero_iff.mp rb.length
          subst e0
          exact c.val L (by unfold RepV; exact ⟨a, vs, rfl, ha, by simpa using za, by simpa using ra⟩)
      · cases e
    · simp only [binD] at e
      split at e
      · cases e
        rename_i hz
        obtain ⟨a, vs, rfl, ha, za, ra⟩ := repLst hx
        obtain ⟨b, us, rfl, hb, zb, rb⟩ := repLst hy
        exact .inr (.inl ⟨a, b, vs, us, rfl, rfl, ha, hb, by rw [line_eq, ← ra.length, ← rb.length]; exact hz, fun p hp => c.lst L (ra.append rb) (by rw [List.length_append]; exact hz) hp⟩)
      · cases e
  | sub =>
    cases x <;> cases y <;> first | (simp [binD] at e; done) | skip
    simp only [binD] at e
    cases e
    exact ⟨_, _, repInt hx, repInt hy, c.int L rfl⟩
  | mul =>
    cases x <;> cases y <;> first | (simp [binD] at e; done) | skip
    · simp only [binD] at e
      split at e
      · cases e
        rename_i i j hz
        unfold mulOk at hz
        simp only [Bool.or_eq_true, Bool.and_eq_true, decide_eq_true_eq] at hz
        rcases hz with (hz | hz) | hz
        · exact .inl ⟨_, _, repInt hx, repInt hy, .inl hz, c.int L rfl⟩
        · exact .inl ⟨_, _, repInt hx, repInt hy, .inr hz, c.int L rfl⟩
        · exact .inr (.inl ⟨_, _, repInt hx, repInt hy, hz, c.int L rfl⟩)
      · cases e
    · simp only [binD] at e
      split at e
      · cases e
        rename_i ds k hz
        obtain ⟨a, vs, rfl, ha, za, ra⟩ := repTup hx
        obtain ⟨hne, k1, k2, hl⟩ := hz
        have hl0 : line = 16777216 := rfl
        have hlen := ra.length
        by_cases hk : k = 1
        · subst hk
          have e1 : (List.replicate (1 : Int).toNat ds).flatten = ds := by simp
          rw [e1] at c
          exact .inr (.inr (.inr (.inr ⟨a, vs, rfl, repInt hy, ha.sqT, c.val L (by unfold RepV; exact ⟨a, vs, rfl, ha, za, ra⟩)⟩)))
        · have hz2 : (List.replicate k.toNat ds).flatten.length ≤ line := by
            rw [List.length_flatten, List.map_replicate, List.sum_replicate_nat]
            have := Nat.mul_le_mul (show k.toNat ≤ 1000 by omega) hl
            omega
          exact .inr (.inr (.inr (.inl ⟨a, k, vs, rfl, repInt hy, ha.sqT, (fun z => hne (List.length_eq_zero_iff.mp (by rw [hlen, z]; rfl))), by omega, k2, by omega, c.tup L (ra.rep _) hz2⟩)))
      · cases e
    · simp only [binD] at e
      split at e
      · cases e
        rename_i ds k hz
        obtain ⟨a, vs, rfl, ha, za, ra⟩ := repLst hx
        have hl : line = 16777216 := rfl
        refine .inr (.inr (.inl ⟨a, _, vs, rfl, repInt hy, ha, by omega, by omega, by rw [line_eq, ← ra.length]; exact hz.2.2, fun p hp => c.lst L (ra.rep _) (by rw [List.length_flatten, List.map_replicate, List.sum_replicate_nat, Nat.mul_comm]; exact hz.2.2) hp⟩))
      · cases e
  | fdiv =>
    cases x <;> cases y <;> first | (simp [binD] at e; done) | skip
    simp only [binD] at e
    split at e
    · cases e
      rename_i i j hz
      rcases hz with ⟨h0, h1 | h1⟩
      · exact .inl ⟨_, _, repInt hx, repInt hy, ⟨h0, h1⟩, c.int L rfl⟩
      · exact .inr ⟨_, _, repInt hx, repInt hy, ⟨h0, h1⟩, c.int L rfl⟩
    · cases e
  | mod =>
    cases x <;> cases y <;> first | (simp [binD] at e; done) | skip
    simp only [binD] at e
    split at e
    · cases e
      rename_i i j hz
      exact ⟨_, _, repInt hx, repInt hy, hz, c.int L rfl⟩
    · cases e
  | pow =>
    cases x <;> cases y <;> first | (simp [binD] at e; done) | skip
    simp only [binD] at e
    split at e
    · cases e
      rename_i i j hz
      exact ⟨_, _, repInt hx, repInt hy, hz, c.int L rfl⟩
    · cases e
mutual
theorem rep_dp : ∀ {d : D} {x : PyData} {v : V}, toPy d = some x → RepB P A H d v → Dp P.K H v x
  | .non, _, _, e, h => by cases e; rw [repNon h]; exact .non
  | .bl b, _, _, e, h => by cases e; rw [repBl h]; exact .bl b
  | .int i, _, _, e, h => by cases e; rw [repInt h]; exact .int i
  | .str s, _, _, e, h => by cases e; rw [repStr h]; exact .str s
  | .tup l, x, v, e, h => by
    unfold toPy at e
    cases q : toPys l with
    | none => rw [q] at e; cases e
    | some xs =>
      rw [q] at e; cases e
      obtain ⟨a, vs, rfl, h1, _, h2⟩ := repTup h
      exact .tup h1.sqT (rep_dps q h2)
  | .lst l, x, v, e, h => by
    unfold toPy at e
    cases q : toPys l with
    | none => rw [q] at e; cases e
    | some xs =>
      rw [q] at e; cases e
      obtain ⟨a, vs, rfl, h1, _, h2⟩ := repLst h
      exact .lst (.inl (.inl h1)) (rep_dps q h2)
  | .ty n, _, _, e, _ => by simp [toPy] at e
  | .ins _ _ _, _, _, e, _ => by simp [toPy] at e
  | .scr _, _, _, e, _ => by simp [toPy] at e
theorem rep_dps : ∀ {l : List D} {xs : List PyData} {vs : List V}, toPys l = some xs → RepVs P A H l vs → DpAll P.K H vs xs
  | [], _, _, e, h => by simp [toPys] at e; subst e; unfold RepVs at h; subst h; exact .nil
  | d :: r, xs, vs, e, h => by
    obtain ⟨v, us, rfl, h1, h2⟩ := h.uncons
    unfold toPys at e
    cases q1 : toPy d with
    | none => rw [q1] at e; simp at e
    | some x =>
      cases q2 : toPys r with
      | none => rw [q1, q2] at e; simp at e
      | some ys =>
        rw [q1, q2] at e
        cases e
        exact .cons (rep_dp q1 h1.repB) (rep_dps q2 h2)
end
theorem flat_rep {d : D} {v : V} (f : flatD d = true) (h : RepB P A H d v) : flatV v = true ∧ (∀ (e : D) (u : V), flatD e = true → RepB P A H e u → eqV v u = eqF d e) := by
  cases d with
  | non =>
    rw [repNon h]
    refine ⟨rfl, fun e u fe he => ?_⟩
    cases e <;> first | (rw [repNon he]; rfl) | (rw [repBl he]; rfl) | (rw [repInt he]; rfl) | (rw [repStr he]; rfl) | cases fe
  | bl b =>
    rw [repBl h]
    refine ⟨rfl, fun e u fe he => ?_⟩
    cases e <;> first | (rw [repNon he]; rfl) | (rw [repBl he]; rfl) | (rw [repInt he]; rfl) | (rw [repStr he]; rfl) | cases fe
  | int b =>
    rw [repInt h]
    refine ⟨rfl, fun e u fe he => ?_⟩
    cases e <;> first | (rw [repNon he]; rfl) | (rw [repBl he]; rfl) | (rw [repInt he]; rfl) | (rw [repStr he]; rfl) | cases fe
  | str b =>
    rw [repStr h]
    refine ⟨rfl, fun e u fe he => ?_⟩
    cases e <;> first | (rw [repNon he]; rfl) | (rw [repBl he]; rfl) | (rw [repInt he]; rfl) | (rw [repStr he]; rfl) | cases fe
  | _ => cases f
theorem flats_rep : ∀ {l : List D} {vs : List V}, l.all flatD = true → RepVs P A H l vs → vs.all flatV = true
  | [], vs, _, h => by unfold RepVs at h; subst h; rfl
  | d :: r, vs, f, h => by
    obtain ⟨v, us, rfl, h1, h2⟩ := h.uncons
    rw [List.all_cons, Bool.and_eq_true] at f ⊢
    exact ⟨(flat_rep f.1 h1.repB).1, flats_rep f.2 h2⟩
theorem any_rep {x : D} {u : V} (fx : flatD x = true) (hx : RepB P A H x u) : ∀ {l : List D} {vs : List V}, l.all flatD = true → RepVs P A H l vs → inV u vs = l.any fun z => eqF z x
  | [], vs, _, h => by unfold RepVs at h; subst h; rfl
  | d :: r, vs, f, h => by
    obtain ⟨v, us, rfl, h1, h2⟩ := h.uncons
    rw [List.all_cons, Bool.and_eq_true] at f
    have ih := any_rep fx hx f.2 h2
    unfold inV at ih ⊢
    rw [List.any_cons, List.any_cons, ih, (flat_rep f.1 h1.repB).2 x u fx hx]
theorem find_rep {x : D} {u : V} (fx : flatD x = true) (hx : RepB P A H x u) : ∀ {l : List D} {vs : List V} {j : Nat}, l.all flatD = true → RepVs P A H l vs → ixFind (fun z => eqF z x) l = some j →
    ∃ z, vs[j]? = some z ∧ eqV z u = true ∧ ∀ (m : Nat) (z' : V), m < j → vs[m]? = some z' → eqV z' u = false
  | [], vs, j, _, h, e => by cases e
  | d :: r, vs, j, f, h, e => by
    obtain ⟨v, us, rfl, h1, h2⟩ := h.uncons
    rw [List.all_cons, Bool.and_eq_true] at f
    have hq := (flat_rep f.1 h1.repB).2 x u fx hx
    unfold ixFind at e
    split at e
    · cases e
      rename_i hp
      exact ⟨v, rfl, hq.trans hp, fun m _ hm => absurd hm (Nat.not_lt_zero _)⟩
    · rename_i hp
      cases q : ixFind (fun z => eqF z x) r with
      | none => rw [q] at e; cases e
      | some k =>
        rw [q] at e
        cases e
        obtain ⟨z, g1, g2, g3⟩ := find_rep fx hx f.2 h2 q
        refine ⟨z, by simpa using g1, g2, fun m z' hm hz => ?_⟩
        cases m with
        | zero =>
          simp at hz
          subst hz
          rw [hq]
          simpa using hp
        | succ m => exact g3 m z' (Nat.lt_of_succ_lt_succ hm) (by simpa using hz)
theorem cmpI_ok {f : Int → Int → Bool} {x y : D} {b : Bool} {vx vy : V} (L : Rel P O W H σ ρ) (hx : RepB P (Av O W) H x vx) (hy : RepB P (Av O W) H y vy) (e : cmpI f x y = some b) (c : Cont P O σ ρ W H ρ (.v (.bl b)) Q) :
    rI0 (fun i j => .bl (f i j)) vx vy H Q := by
  cases x <;> cases y <;> first | (simp [cmpI] at e; done) | skip
  simp only [cmpI] at e
  cases e
  exact ⟨_, _, repInt hx, repInt hy, c.bl L rfl⟩
theorem isN_ok {x y : D} {b : Bool} {vx vy : V} (hx : RepB P A H x vx) (hy : RepB P A H y vy) (e : isN x y = some b) : (vy = .non ∧ decide (vx = .non) = b) ∨ ∃ p q, vx = .bl p ∧ vy = .bl q ∧ decide (p = q) = b := by
  cases y with
  | non =>
    refine .inl ⟨repNon hy, ?_⟩
    cases x <;> first
      | (have := repNon hx; simp [isN] at e; subst e this; rfl)
      | (have := repBl hx; simp [isN] at e; subst e this; rfl)
      | (have := repInt hx; simp [isN] at e; subst e this; rfl)
      | (have := repStr hx; simp [isN] at e; subst e this; rfl)
      | (have := repTy hx; simp [isN] at e; subst e this; rfl)
      | (obtain ⟨a, vs, this, _⟩ := repTup hx; simp [isN] at e; subst e this; rfl)
      | (obtain ⟨a, vs, this, _⟩ := repLst hx; simp [isN] at e; subst e this; rfl)
      | (obtain ⟨a, dx, vs, this, _⟩ := hx; simp [isN] at e; subst e this; rfl)
      | (obtain ⟨a, vs, this, _⟩ := hx; simp [isN] at e; subst e this; rfl)
      | (unfold RepB RepV at hx; obtain ⟨a, this, _⟩ := hx; simp [isN] at e; subst e this; rfl)
  | bl q =>
    cases x with
    | bl p =>
      refine .inr ⟨p, q, repBl hx, repBl hy, ?_⟩
      simp only [isN] at e
      cases e
      exact (Bool.beq_eq_decide_eq p q).symm
    | _ => simp [isN] at e
  | _ => cases x <;> simp [isN] at e
theorem repKey {x : D} {vx : V} {k : L2.Key} (hx : RepB P A H x vx) (e : keyD x = some k) : vx = L2.kV k := by
  cases x with
  | int i => cases e; exact repInt hx
  | str s => cases e; exact repStr hx
  | _ => cases e
theorem dget_rep {k : L2.Key} : ∀ {ks : List L2.Key} {ds : List D} {vs : List V}, ks.length = vs.length → RepVs P A H ds vs → (∀ d, dgetD k ks ds = some d → ∃ v, valV (ks.zip vs) k = some v ∧ RepV P A H d v) ∧ (dgetD k ks ds = none → valV (ks.zip vs) k = none)
  | [], ds, vs, l, h => by
    have : dgetD k [] ds = none := by cases ds <;> rfl
    rw [this]
    exact ⟨fun d e => (nomatch e), fun _ => rfl⟩
  | x :: ks, ds, [], l, h => by cases l
  | x :: ks, ds, v :: vs, l, h => by
    cases ds with
    | nil => unfold RepVs at h; cases h
    | cons d ds =>
      obtain ⟨v', r', e', h1, h2⟩ := h.uncons
      cases e'
      have ih := dget_rep (k := k) (ks := ks) (by simpa using l) h2
      unfold dgetD
      rw [List.zip_cons_cons]
      by_cases q : x = k
      · rw [if_pos q, valV_pos (p := (x, v)) q]
        exact ⟨fun d' e => by cases e; exact ⟨v, rfl, h1⟩, fun e => nomatch e⟩
      · rw [if_neg q, valV_neg (p := (x, v)) q]
        exact ih
theorem inK_rep {x y : D} {vx vy : V} {ks : List L2.Key} {ds : List D} {k : Bool} (hx : RepB P A H x vx) (hy : RepB P A H (.dct ks ds) vy) (e : (keyD x).map (fun k => (dgetD k ks ds).isSome) = some k) : ∃ a o, vy = .ref a ∧ DGet H a vx o ∧ o.isSome = k := by
  cases q : keyD x with
  | none => rw [q] at e; cases e
  | some ky =>
    rw [q] at e
    cases e
    obtain ⟨a, vs, rfl, ha, hl, hr⟩ := hy
    obtain ⟨g1, g2⟩ := dget_rep (k := ky) hl hr
    refine ⟨a, valV (ks.zip vs) ky, rfl, repKey hx q ▸ DGet.k ha, ?_⟩
    cases q2 : dgetD ky ks ds with
    | none => rw [g2 q2]; dsimp only; rw [q2]; rfl
    | some d => obtain ⟨v, e, _⟩ := g1 d q2; rw [e]; dsimp only; rw [q2]; rfl
theorem cmp_ok {op : COp} {x y : D} {b : Bool} {vx vy : V} (L : Rel P O W H σ ρ) (hx : RepB P (Av O W) H x vx) (hy : RepB P (Av O W) H y vy) (e : cmpD op x y = some b) (c : Cont P O σ ρ W H ρ (.v (.bl b)) Q) : rCmp P.K op vx vy H Q := by
  have eqs : ∀ {k : Bool}, eqD x y = some k → ∃ d e, Dp P.K H vx d ∧ Dp P.K H vy e ∧ SeqAt.shaped d = true ∧ SeqAt.shaped e = true ∧ PyData.eqv d e = k := fun {k} h => by
    unfold eqD at h
    cases q1 : toPy x with
    | none => rw [q1] at h; simp at h
    | some px =>
      cases q2 : toPy y with
      | none => rw [q1, q2] at h; simp at h
      | some py =>
        rw [q1, q2] at h
        simp only at h
        split at h
        · rename_i hs
          cases h
          exact ⟨px, py, rep_dp q1 hx, rep_dp q2 hy, hs.1, hs.2, rfl⟩
        · cases h
  have ink : ∀ {k : Bool}, inD x y = some k → (∃ ks ds, y = .dct ks ds ∧ (keyD x).map (fun k => (dgetD k ks ds).isSome) = some k) ∨ inS x y = some k := fun {k} h => by
    cases y with
    | dct ks ds => exact .inl ⟨ks, ds, rfl, h⟩
    | _ => exact .inr h
  have ins : ∀ {k : Bool}, inS x y = some k → (∃ p xs, vy = .ref p ∧ (SqL P.K H p xs ∨ SqT P.K H p xs) ∧ flatV vx = true ∧ xs.all flatV = true ∧ inV vx xs = k) ∨
      (∃ d ds, Dp P.K H vx d ∧ SeqAt.shaped d = true ∧ ((Dp P.K H vy (.list ds) ∧ SeqAt.shaped (.list ds) = true) ∨ (Dp P.K H vy (.tuple ds) ∧ SeqAt.shaped (.tuple ds) = true)) ∧ (ds.any fun z => PyData.eqv z d) = k) := fun {k} h => by
    unfold inS at h
    cases q1 : itemsD y with
    | none => rw [q1] at h; simp at h
    | some ds =>
      rw [q1] at h
      simp only at h
      split at h
      · rename_i hf
        rw [Bool.and_eq_true] at hf
        cases h
        obtain ⟨a, vs, rfl, ha, _, ra⟩ := repItems hy q1
        exact .inl ⟨a, vs, rfl, ha, (flat_rep hf.1 hx).1, flats_rep hf.2 ra, any_rep hf.1 hx hf.2 ra⟩
      · cases y with
        | lst l =>
          cases q1
          simp only at h
          cases q2 : toPy x with
          | none => rw [q2] at h; simp at h
          | some px =>
            cases q3 : toPys ds with
            | none => rw [q2, q3] at h; simp at h
            | some ps =>
              rw [q2, q3] at h
              simp only at h
              split at h
              · rename_i hs
                cases h
                refine .inr ⟨px, ps, rep_dp q2 hx, hs.1, .inl ⟨rep_dp (d := .lst ds) ?_ hy, hs.2⟩, rfl⟩
                unfold toPy; rw [q3]; rfl
              · cases h
        | tup l =>
          cases q1
          simp only at h
          cases q2 : toPy x with
          | none => rw [q2] at h; simp at h
          | some px =>
            cases q3 : toPys ds with
            | none => rw [q2, q3] at h; simp at h
            | some ps =>
              rw [q2, q3] at h
              simp only at h
              split at h
              · rename_i hs
                cases h
                refine .inr ⟨px, ps, rep_dp q2 hx, hs.1, .inr ⟨rep_dp (d := .tup ds) ?_ hy, hs.2⟩, rfl⟩
                unfold toPy; rw [q3]; rfl
              · cases h
        | _ => simp at h
  cases op with
  | lt => exact cmpI_ok L hx hy e c
  | le => exact cmpI_ok L hx hy e c
  | gt => exact cmpI_ok L hx hy e c
  | ge => exact cmpI_ok L hx hy e c
  | eq =>
    obtain ⟨d, f, h1, h2, h3, h4, h5⟩ := eqs e
    exact ⟨d, f, h1, h2, h3, h4, c.bl L h5⟩
  | ne =>
    have e : (eqD x y).map not = some b := e
    cases q : eqD x y with
    | none => rw [q] at e; cases e
    | some k =>
      rw [q] at e; cases e
      obtain ⟨d, f, h1, h2, h3, h4, h5⟩ := eqs q
      exact ⟨d, f, h1, h2, h3, h4, c.bl L (by rw [h5])⟩
  | inn =>
    rcases ink e with ⟨ks, ds, rfl, e⟩ | e
    · obtain ⟨a, o, h0, h1, h2⟩ := inK_rep (y := x) hx hy e
      exact .inr (.inr ⟨a, o, h0, h1, c.bl L (by simp [h2])⟩)
    rcases ins e with ⟨p, xs, h0, h1, h2, h3, h4⟩ | ⟨d, ds, h1, h2, h3, h5⟩
    · exact .inl ⟨p, xs, h0, h1, h2, h3, c.bl L h4⟩
    · exact .inr (.inl ⟨d, ds, h1, h2, h3, c.bl L (by simp [h5])⟩)
  | nin =>
    have e : (inD x y).map not = some b := e
    cases q : inD x y with
    | none => rw [q] at e; cases e
    | some k =>
      rw [q] at e; cases e
      rcases ink q with ⟨ks, ds, rfl, q⟩ | q
      · obtain ⟨a, o, h0, h1, h2⟩ := inK_rep (y := x) hx hy q
        exact .inr (.inr ⟨a, o, h0, h1, c.bl L (by simp [h2])⟩)
      rcases ins q with ⟨p, xs, h0, h1, h2, h3, h4⟩ | ⟨d, ds, h1, h2, h3, h5⟩
      · exact .inl ⟨p, xs, h0, h1, h2, h3, c.bl L (by simp [h4])⟩
      · exact .inr (.inl ⟨d, ds, h1, h2, h3, c.bl L (by simp [h5])⟩)
  | iss =>
    rcases isN_ok hx hy e with ⟨h1, h2⟩ | ⟨p, q, h1, h2, h3⟩
    · exact .inl ⟨h1, c.bl L h2⟩
    · exact .inr ⟨p, q, h1, h2, c.bl L h3⟩
  | isn =>
    have e : (isN x y).map not = some b := e
    cases q : isN x y with
    | none => rw [q] at e; cases e
    | some k =>
      rw [q] at e; cases e
      rcases isN_ok hx hy q with ⟨h1, h2⟩ | ⟨p, q, h1, h2, h3⟩
      · exact .inl ⟨h1, c.bl L (by rw [h2])⟩
      · exact .inr ⟨p, q, h1, h2, c.bl L (by rw [h3])⟩
theorem ixOf_eq (n : Nat) (i : Int) : ixOf n i = ixN n i := rfl
theorem idx_cs {x y d : D} (e : idxD x y = some d) : (∃ ks ds, x = .dct ks ds ∧ ((keyD y).bind fun k => dgetD k ks ds) = some d) ∨ idxS x y = some d := by
  cases x with
  | dct ks ds => exact .inl ⟨ks, ds, rfl, e⟩
  | _ => exact .inr e
theorem idxK_ok {ks : List L2.Key} {ds : List D} {y d : D} {vx vy : V} (L : Rel P O W H σ ρ) (hx : RepB P (Av O W) H (.dct ks ds) vx) (hy : RepB P (Av O W) H y vy) (e : ((keyD y).bind fun k => dgetD k ks ds) = some d) (c : Cont P O σ ρ W H ρ (.v d) Q) : ∃ a v, vx = .ref a ∧ DGet H a vy (some v) ∧ Q v H := by
  cases q : keyD y with
  | none => rw [q] at e; cases e
  | some ky =>
    rw [q] at e
    obtain ⟨a, vs, rfl, ha, hl, hr⟩ := hx
    obtain ⟨v, h1, h2⟩ := (dget_rep (k := ky) hl hr).1 d e
    exact ⟨a, v, rfl, h1 ▸ repKey hy q ▸ DGet.k ha, c.val L h2⟩
theorem idx_ok {x y d : D} {vx vy : V} (L : Rel P O W H σ ρ) (hx : RepB P (Av O W) H x vx) (hy : RepB P (Av O W) H y vy) (e : idxS x y = some d) (c : Cont P O σ ρ W H ρ (.v d) Q) : rIx P.K vx vy H Q := by
  unfold idxS at e
  cases q : itemsD x with
  | none => rw [q] at e; simp at e
  | some l =>
    simp only [q] at e
    cases y with
    | int k =>
      simp only at e
      obtain ⟨a, vs, rfl, ha, _, ra⟩ := repItems hx q
      cases q2 : ixOf l.length k with
      | none => rw [q2] at e; cases e
      | some j =>
        rw [q2] at e
        have e : l[j]? = some d := e
        obtain ⟨v, hv, rv⟩ := ra.get e
        have at_ : atI vs k = some v := by
          unfold atI
          rw [← ra.length, ← ixOf_eq, q2]
          exact hv
        rcases ha with ha | ha
        · exact .inl ⟨a, vs, k, v, rfl, repInt hy, ha, at_, c.val L rv⟩
        · exact .inr (.inl ⟨a, vs, k, v, rfl, repInt hy, ha, at_, c.val L rv⟩)
    | _ => simp at e
theorem cut_rep {l : List D} {vs : List V} {lo hi : Option Int} (h : RepVs P A H l vs) : RepVs P A H (cut l lo hi) (cutV vs lo hi) := by
  unfold cut cutV
  rw [← h.length]
  exact (h.drop _).take _
theorem cut_len {l : List D} {lo hi : Option Int} (h : l.length ≤ line) : (cut l lo hi).length ≤ line := by
  unfold cut
  rw [List.length_take, List.length_drop]
  omega
theorem sl_ok {x : D} {lo hi : Option Int} {vx : V} (L : Rel P O W H σ ρ) (hx : RepB P (Av O W) H x vx) (e : slD x lo hi = some r) (c : Cont P O σ ρ W H ρ r Q) : rSl P.K vx lo hi H Q := by
  cases x with
  | lst l =>
    cases e
    obtain ⟨a, vs, rfl, ha, za, ra⟩ := repLst hx
    exact .inl ⟨a, vs, rfl, .inl (.inl ha), fun p hp => c.lst L (cut_rep ra) (cut_len za) hp⟩
  | tup l =>
    cases e
    obtain ⟨a, vs, rfl, ha, za, ra⟩ := repTup hx
    refine .inr ⟨a, vs, rfl, ha.sqT, fun hw => c.val L ?_, fun _ => c.tup L (cut_rep ra) (cut_len za)⟩
    unfold RepV
    refine ⟨a, vs, rfl, ha, cut_len za, ?_⟩
    unfold cut
    rw [ra.length, hw.1, hw.2]
    have e2 : (l.drop 0).take (vs.length - 0) = l := by rw [List.drop_zero, Nat.sub_zero, ← ra.length, List.take_length]
    rw [e2]
    exact ra
  | scr ns =>
    cases e
    unfold RepB RepV at hx
    obtain ⟨a, rfl, ha, za⟩ := hx
    have hs : SqL P.K H a (ns.map V.int) := by
      rcases ha with ⟨ha, _⟩ | ha
      · exact .inl ha
      · exact .inr ha
    refine .inl ⟨a, _, rfl, hs, fun p hp => c.lst L ?_ (by unfold cutI; rw [List.length_map, List.length_take, List.length_drop]; omega) hp⟩
    have e : cutV (ns.map V.int) lo hi = (cutI ns lo hi).map V.int := by
      unfold cutV cutI
      rw [List.length_map, ← List.map_drop, ← List.map_take]
    rw [e]
    exact .ofInts _
  | _ => cases e
theorem rev_ok {x : D} {vx : V} (L : Rel P O W H σ ρ) (hx : RepB P (Av O W) H x vx) (e : revD x = some r) (c : Cont P O σ ρ W H ρ r Q) : rRev P.K vx H Q := by
  cases x with
  | lst l =>
    cases e
    obtain ⟨a, vs, rfl, ha, za, ra⟩ := repLst hx
    exact .inl ⟨a, vs, rfl, .inl (.inl ha), fun p hp => c.lst L ra.reverse (by rw [List.length_reverse]; exact za) hp⟩
  | tup l =>
    cases e
    obtain ⟨a, vs, rfl, ha, za, ra⟩ := repTup hx
    exact .inr ⟨a, vs, rfl, ha.sqT, c.tup L ra.reverse (by rw [List.length_reverse]; exact za)⟩
  | _ => cases e
end
end Mi

/-! MiD2b -/
set_option Elab.async false
set_option linter.all false
set_option maxRecDepth 100000
set_option maxHeartbeats 4000000
namespace Mi
open PySem PySem.Spec PyProof.Rows L2
theorem kits : (tyNames.all fun n => tyClasses.all fun t => kitB n t == some (isSub n t)) = true := by decide +kernel
theorem kit_at {n t : String} (hn : n ∈ tyNames) (ht : t ∈ tyClasses) : kitB n t = some (isSub n t) := by
  have h := List.all_eq_true.mp (List.all_eq_true.mp kits n hn) t ht
  exact eq_of_beq h
/-- the value of sorting -/
theorem insI_perm (x : Int) : ∀ l : List Int, (insI x l).Perm (x :: l)
  | [] => .refl _
  | y :: r => by
    unfold insI
    split
    · exact .refl _
    · exact ((insI_perm x r).cons y).trans (.swap x y r)
theorem sortI_perm : ∀ l : List Int, (sortI l).Perm l
  | [] => .refl _
  | x :: r => (insI_perm x (sortI r)).trans ((sortI_perm r).cons x)
theorem insI_sorted (x : Int) : ∀ l : List Int, l.Pairwise (· ≤ ·) → (insI x l).Pairwise (· ≤ ·)
  | [], _ => by simp [insI]
  | y :: r, h => by
    unfold insI
    obtain ⟨h1, h2⟩ := List.pairwise_cons.mp h
    split
    · rename_i hxy
      exact List.pairwise_cons.mpr ⟨fun z hz => by
        rcases List.mem_cons.mp hz with e | e
        · subst e; exact hxy
        · exact Int.le_trans hxy (h1 z e), h⟩
    · rename_i hxy
      refine List.pairwise_cons.mpr ⟨fun z hz => ?_, insI_sorted x r h2⟩
      rcases List.mem_cons.mp ((insI_perm x r).mem_iff.mp hz) with e | e
      · subst e; omega
      · exact h1 z e
theorem sortI_sorted : ∀ l : List Int, (sortI l).Pairwise (· ≤ ·)
  | [] => .nil
  | x :: r => insI_sorted x _ (sortI_sorted r)
theorem sorted_unique : ∀ {l m : List Int}, l.Perm m → l.Pairwise (· ≤ ·) → m.Pairwise (· ≤ ·) → l = m := fun {l m} p h1 h2 =>
  List.Perm.eq_of_pairwise (fun a b _ _ h h' => Int.le_antisymm h h') h1 h2 p
theorem minI_spec : ∀ {ns : List Int} {m : Int}, minI ns = some m → m ∈ ns ∧ ∀ y ∈ ns, m ≤ y
  | x :: r, m, h => by
    have h : some (r.foldl (fun a b => if b < a then b else a) x) = some m := h
    cases h
    have e : ∀ (r : List Int) (x : Int), r.foldl (fun a b => if b < a then b else a) x = r.foldl min x := by
      intro r
      induction r with
      | nil => intro x; rfl
      | cons y r ih =>
        intro x
        rw [List.foldl_cons, List.foldl_cons, ih]
        congr 1
        split <;> omega
    rw [e]
    exact foldl_min_mem r x
theorem maxI_spec : ∀ {ns : List Int} {m : Int}, maxI ns = some m → m ∈ ns ∧ ∀ y ∈ ns, y ≤ m
  | x :: r, m, h => by
    have h : some (r.foldl (fun a b => if a < b then b else a) x) = some m := h
    cases h
    have e : ∀ (r : List Int) (x : Int), r.foldl (fun a b => if a < b then b else a) x = r.foldl max x := by
      intro r
      induction r with
      | nil => intro x; rfl
      | cons y r ih =>
        intro x
        rw [List.foldl_cons, List.foldl_cons, ih]
        congr 1
        split <;> omega
    rw [e]
    exact foldl_max_mem r x
theorem dedup_spec : ∀ l : List Int, (dedup l).Nodup ∧ ∀ k, k ∈ dedup l ↔ k ∈ l
  | [] => ⟨.nil, fun k => .rfl⟩
  | x :: r => by
    obtain ⟨h1, h2⟩ := dedup_spec r
    unfold dedup
    split
    · rename_i hx
      refine ⟨h1, fun k => ?_⟩
      rw [h2 k, List.mem_cons]
      exact ⟨.inr, fun h => h.elim (fun e => e ▸ hx) fun h => h⟩
    · rename_i hx
      refine ⟨List.nodup_cons.mpr ⟨fun h => hx ((h2 x).mp h), h1⟩, fun k => ?_⟩
      rw [List.mem_cons, List.mem_cons, h2 k]
theorem nodup_len {l m : List Int} (h1 : l.Nodup) (h2 : m.Nodup) (h : ∀ k, k ∈ l ↔ k ∈ m) : l.length = m.length :=
  ((List.perm_ext_iff_of_nodup h1 h2).mpr h).length_eq
theorem intsD_len : ∀ {l : List D} {ns : List Int}, intsD l = some ns → l.length = ns.length
  | [], ns, e => by cases e; rfl
  | d :: r, ns, e => by
    cases d with
    | int i =>
      unfold intsD at e
      cases q : intsD r with
      | none => rw [q] at e; cases e
      | some ms => rw [q] at e; cases e; rw [List.length_cons, List.length_cons, intsD_len q]
    | _ => simp [intsD] at e
section
variable {P : TP} {O W W0 A : AP} {H H0 : Hp} {σ : L2.St} {ρ ρ0 : Env} {r : R} {Q : VK}
theorem intKs_eq : ∀ {ks : List L2.Key} {ns : List Int}, intKs ks = some ns → ks = ns.map Sum.inl
  | [], ns, e => by cases e; rfl
  | .inl i :: r, ns, e => by
    have e : (intKs r).map (i :: ·) = some ns := e
    cases q : intKs r with
    | none => rw [q] at e; cases e
    | some ms => rw [q] at e; cases e; rw [List.map_cons, ← intKs_eq q]
  | .inr _ :: _, _, e => by cases e
mutual
theorem of_to : ∀ {d : D} {x : PyData}, toPy d = some x → ofPy x = d
  | .non, _, e => by unfold toPy at e; cases e; rfl
  | .bl b, _, e => by unfold toPy at e; cases e; rfl
  | .int i, _, e => by unfold toPy at e; cases e; rfl
  | .str s, _, e => by unfold toPy at e; cases e; rfl
  | .tup l, x, e => by
    unfold toPy at e
    cases q : toPys l with
    | none => rw [q] at e; cases e
    | some xs => rw [q] at e; cases e; show D.tup (ofPys xs) = _; rw [ofs_tos q]
  | .lst l, x, e => by
    unfold toPy at e
    cases q : toPys l with
    | none => rw [q] at e; cases e
    | some xs => rw [q] at e; cases e; show D.lst (ofPys xs) = _; rw [ofs_tos q]
  | .ty _, _, e => by unfold toPy at e; cases e
  | .ins _ _ _, _, e => by unfold toPy at e; cases e
  | .dct _ _, _, e => by unfold toPy at e; cases e
  | .scr _, _, e => by unfold toPy at e; cases e
theorem ofs_tos : ∀ {l : List D} {xs : List PyData}, toPys l = some xs → ofPys xs = l
  | [], _, e => by unfold toPys at e; cases e; rfl
  | d :: r, xs, e => by
    unfold toPys at e
    cases q1 : toPy d with
    | none => rw [q1] at e; cases e
    | some x =>
      cases q2 : toPys r with
      | none => rw [q1, q2] at e; cases e
      | some ys => rw [q1, q2] at e; cases e; show ofPy x :: ofPys ys = _; rw [of_to q1, ofs_tos q2]
end
theorem toPys_get : ∀ {l : List D} {xs : List PyData} {i : Nat} {d : D}, toPys l = some xs → l[i]? = some d → ∃ x, xs[i]? = some x ∧ toPy d = some x
  | [], _, _, _, _, h => by simp at h
  | d :: r, xs, i, d', e, h => by
    unfold toPys at e
    cases q1 : toPy d with
    | none => rw [q1] at e; cases e
    | some x =>
      cases q2 : toPys r with
      | none => rw [q1, q2] at e; cases e
      | some ys =>
        rw [q1, q2] at e
        cases e
        cases i with
        | zero => simp at h; subst h; exact ⟨x, rfl, q1⟩
        | succ i => simpa using toPys_get q2 (by simpa using h)
theorem bestG_ok {f : PyData → List PyData → PyData} {d : D} {v : V} (L : Rel P O W H σ ρ) (hv : RepB P (Av O W) H d v) (e : bestG f d = some r) (c : Cont P O σ ρ W H ρ r Q) : rBestG P.K f [v] H Q := by
  unfold bestG at e
  cases q : itemsD d with
  | none => rw [q] at e; cases e
  | some l =>
    rw [q] at e
    have e : ((toPys l).bind fun xs => match xs with | [] => none | x :: r => if alikeB (x :: r) = true ∧ PyData.depthAll (x :: r) ≤ 60 then some (R.v (ofPy (f x r))) else none) = some r := e
    cases q2 : toPys l with
    | none => rw [q2] at e; cases e
    | some xs =>
      rw [q2] at e
      cases xs with
      | nil => cases e
      | cons x xs =>
        have e : (if alikeB (x :: xs) = true ∧ PyData.depthAll (x :: xs) ≤ 60 then some (R.v (ofPy (f x xs))) else none) = some r := e
        split at e
        · rename_i hz
          cases e
          obtain ⟨a, us, rfl, h1, z, h2⟩ := repItems hv q
          refine ⟨a, us, x, xs, rfl, h1, rep_dps q2 h2, ?_, hz.2, fun i w hw hx => ?_⟩
          · have h := hz.1
            unfold alikeB at h
            rw [Bool.and_eq_true, List.all_eq_true, List.all_eq_true] at h
            refine ⟨fun p hp y hy => List.all_eq_true.mp (h.1 p hp) y hy, fun p hp e => ?_⟩
            have := h.2 p hp
            rw [e] at this
            cases this
          · have hi : i < l.length := by rw [h2.length]; exact (List.getElem?_eq_some_iff.mp hw).1
            have hl : l[i]? = some l[i] := List.getElem?_eq_getElem hi
            obtain ⟨p, hp, tp⟩ := toPys_get q2 hl
            rw [hx] at hp
            cases hp
            obtain ⟨u, hu, ru⟩ := h2.get hl
            rw [hw] at hu
            cases hu
            exact c.val L (of_to tp ▸ ru)
        · cases e
theorem blt_ok {f : Blt} {ds : List D} {vs : List V} (L : Rel P O W H σ ρ) (h : ds.length = vs.length ∧ ∀ (i : Nat) d v, ds[i]? = some d → vs[i]? = some v → RepB P (Av O W) H d v) (e : bltD f ds = some r) (c : Cont P O σ ρ W H ρ r Q) : rBlt P.K f vs H Q := by
  have one : ∀ {d : D}, ds = [d] → ∃ v, vs = [v] ∧ RepB P (Av O W) H d v := fun {d} e => by
    subst e
    match vs, h with
    | [v], h => exact ⟨v, rfl, h.2 0 d v rfl rfl⟩
  have two : ∀ {d d' : D}, ds = [d, d'] → ∃ v u, vs = [v, u] ∧ RepB P (Av O W) H d v ∧ RepB P (Av O W) H d' u := fun {d d'} e => by
    subst e
    match vs, h with
    | [v, u], h => exact ⟨v, u, rfl, h.2 0 d v rfl rfl, h.2 1 d' u rfl rfl⟩
  have itm : ∀ {d : D} {ns : List Int} {v : V}, (itemsD d).bind intsD = some ns → RepB P (Av O W) H d v → ∃ a, v = .ref a ∧ SqA P.K H a (ns.map V.int) := fun {d ns v} e h => by
    cases q : itemsD d with
    | none => rw [q] at e; cases e
    | some l =>
      rw [q] at e
      obtain ⟨a, us, e1, h1, _, h2⟩ := repItems h q
      rw [repInts e h2] at h1
      exact ⟨a, e1, h1⟩
  cases f with
  | len =>
    match ds, e with
    | [d], e =>
      obtain ⟨v, rfl, hv⟩ := one rfl
      have cs : (∃ ks vs, d = .dct ks vs ∧ r = .v (.int ks.length)) ∨ ((itemsD d).map fun l => R.v (.int l.length)) = some r := by
        cases d with
        | dct ks vs => cases e; exact .inl ⟨ks, vs, rfl, rfl⟩
        | _ => exact .inr e
      clear e
      rcases cs with ⟨ks, us, rfl, rfl⟩ | e
      · obtain ⟨a, vs, rfl, h1, hl, h2⟩ := hv
        exact .inr ⟨a, _, rfl, h1, c.int L (by rw [List.length_zip, ← hl, Nat.min_self])⟩
      cases q : itemsD d with
      | none => rw [q] at e; cases e
      | some l =>
        rw [q] at e; cases e
        obtain ⟨a, us, rfl, h1, z, h2⟩ := repItems hv q
        exact .inl ⟨a, us, rfl, h1, c.int L (by rw [h2.length])⟩
  | abs =>
    match ds, e with
    | [.int i], e =>
      obtain ⟨v, rfl, hv⟩ := one rfl
      cases e
      exact ⟨i, by rw [repInt hv], c.int L rfl⟩
  | int =>
    match ds, e with
    | [.int i], e =>
      obtain ⟨v, rfl, hv⟩ := one rfl
      cases e
      exact .inl ⟨i, by rw [repInt hv], c.int L rfl⟩
    | [.bl i], e =>
      obtain ⟨v, rfl, hv⟩ := one rfl
      cases e
      exact .inr ⟨i, by rw [repBl hv], c.int L rfl⟩
  | list =>
    match ds, e with
    | [d], e =>
      obtain ⟨v, rfl, hv⟩ := one rfl
      simp only [bltD] at e
      cases q : itemsD d with
      | none => rw [q] at e; cases e
      | some l =>
        rw [q] at e; cases e
        obtain ⟨a, us, rfl, h1, z, h2⟩ := repItems hv q
        exact ⟨a, us, rfl, h1, fun p hp => c.lst L h2 z hp⟩
  | tuple =>
    match ds, e with
    | [d], e =>
      obtain ⟨v, rfl, hv⟩ := one rfl
      cases d with
      | lst l =>
        cases e
        obtain ⟨a, us, rfl, h1, z, h2⟩ := repLst hv
        exact ⟨a, us, rfl, .inl ⟨.inl (.inl h1), c.tup L h2 z⟩⟩
      | tup l =>
        cases e
        obtain ⟨a, us, rfl, h1, z, h2⟩ := repTup hv
        exact ⟨a, us, rfl, .inr ⟨h1.sqT, c.val L (by unfold RepV; exact ⟨a, us, rfl, h1, z, h2⟩)⟩⟩
      | _ => cases e
  | sum =>
    match ds, e with
    | [d], e =>
      obtain ⟨v, rfl, hv⟩ := one rfl
      have e : (((itemsD d).bind intsD).map fun ns => R.v (.int ns.sum)) = some r := e
      cases q : (itemsD d).bind intsD with
      | none => rw [q] at e; cases e
      | some ns =>
        rw [q] at e; cases e
        obtain ⟨a, rfl, h1⟩ := itm q hv
        exact ⟨a, ns, rfl, h1, c.int L rfl⟩
  | min =>
    match ds, e with
    | [d], e =>
      obtain ⟨v, rfl, hv⟩ := one rfl
      have e : (match (itemsD d).bind intsD with | some ns => (minI ns).map fun i => R.v (.int i) | none => bestG PySem.W.minD d) = some r := e
      cases q : (itemsD d).bind intsD with
      | none => rw [q] at e; exact .inr (bestG_ok L hv e c)
      | some ns =>
        rw [q] at e
        have e : ((minI ns).map fun i => R.v (.int i)) = some r := e
        cases q2 : minI ns with
        | none => rw [q2] at e; cases e
        | some m =>
          rw [q2] at e; cases e
          obtain ⟨a, rfl, h1⟩ := itm q hv
          obtain ⟨m1, m2⟩ := minI_spec q2
          exact .inl (.inl ⟨a, ns, rfl, h1, by cases ns with | nil => cases q2 | cons x r => exact Nat.zero_lt_succ _, fun k k1 k2 => c.int L (Int.le_antisymm (k2 m m1) (m2 k k1))⟩)
    | [x, y], e =>
      obtain ⟨v, u, rfl, hv, hu⟩ := two rfl
      cases x <;> cases y <;> first | (simp [bltD, mm2] at e; done) | skip
      cases e
      exact .inl (.inr ⟨_, _, by rw [repInt hv, repInt hu], c.int L rfl⟩)
  | max =>
    match ds, e with
    | [d], e =>
      obtain ⟨v, rfl, hv⟩ := one rfl
      have e : (match (itemsD d).bind intsD with | some ns => (maxI ns).map fun i => R.v (.int i) | none => bestG PySem.W.maxD d) = some r := e
      cases q : (itemsD d).bind intsD with
      | none => rw [q] at e; exact .inr (bestG_ok L hv e c)
      | some ns =>
        rw [q] at e
        have e : ((maxI ns).map fun i => R.v (.int i)) = some r := e
        cases q2 : maxI ns with
        | none => rw [q2] at e; cases e
        | some m =>
          rw [q2] at e; cases e
          obtain ⟨a, rfl, h1⟩ := itm q hv
          obtain ⟨m1, m2⟩ := maxI_spec q2
          exact .inl (.inl ⟨a, ns, rfl, h1, by cases ns with | nil => cases q2 | cons x r => exact Nat.zero_lt_succ _, fun k k1 k2 => c.int L (Int.le_antisymm (m2 k k1) (k2 m m1))⟩)
    | [x, y], e =>
      obtain ⟨v, u, rfl, hv, hu⟩ := two rfl
      cases x <;> cases y <;> first | (simp [bltD, mm2] at e; done) | skip
      cases e
      exact .inl (.inr ⟨_, _, by rw [repInt hv, repInt hu], c.int L rfl⟩)
  | repr =>
    match ds, e with
    | [d], e =>
      obtain ⟨v, rfl, hv⟩ := one rfl
      have e : (reprD d).map (fun s => R.v (.str s)) = some r := e
      cases q : reprD d with
      | none => rw [q] at e; cases e
      | some s =>
        rw [q] at e; cases e
        refine ⟨v, rfl, ?_⟩
        have cs : (∃ ks vs, d = .dct ks vs ∧ (ks = [] ∧ vs = []) ∧ s = (PyData.dict []).shown) ∨ ∃ x, toPy d = some x ∧ (x.showable = true ∧ x.depth ≤ 60 ∧ x.shown.length ≤ line) ∧ s = x.shown := by
          have gen : ((toPy d).bind fun x => if x.showable = true ∧ x.depth ≤ 60 ∧ x.shown.length ≤ line then some x.shown else none) = some s → ∃ x, toPy d = some x ∧ (x.showable = true ∧ x.depth ≤ 60 ∧ x.shown.length ≤ line) ∧ s = x.shown := fun q => by
            cases q2 : toPy d with
            | none => rw [q2] at q; cases q
            | some x =>
              rw [q2] at q
              have q : (if x.showable = true ∧ x.depth ≤ 60 ∧ x.shown.length ≤ line then some x.shown else none) = some s := q
              split at q
              · rename_i hz; cases q; exact ⟨x, rfl, hz, rfl⟩
              · cases q
          cases d with
          | dct ks vs =>
            have q : (if ks = [] ∧ vs = [] then some (PyData.dict []).shown else none) = some s := q
            split at q
            · rename_i hz; cases q; exact .inl ⟨ks, vs, rfl, hz, rfl⟩
            · cases q
          | _ => exact .inr (gen q)
        rcases cs with ⟨ks, vs, rfl, ⟨rfl, rfl⟩, rfl⟩ | ⟨x, q2, ⟨s1, s2, s3⟩, rfl⟩
        · obtain ⟨a, us, rfl, h1, hl, h2⟩ := hv
          exact .inr ⟨a, rfl, h1, c.val L (by unfold RepV; rfl)⟩
        · exact .inl ⟨x, rep_dp q2 hv, s1, s2, by rw [line_eq]; exact s3, c.val L (by unfold RepV; rfl)⟩
  | sorted =>
    match ds, e with
    | [d], e =>
      obtain ⟨v, rfl, hv⟩ := one rfl
      have e : sortD d = some r := e
      cases d with
      | dct ks vs =>
        have e : ((intKs ks).bind fun ns => if ns.length < 64 then some (R.o (.lst ((sortI ns).map .int))) else none) = some r := e
        cases q : intKs ks with
        | none => rw [q] at e; cases e
        | some ns =>
          rw [q] at e
          have e : (if ns.length < 64 then some (R.o (.lst ((sortI ns).map .int))) else none) = some r := e
          split at e
          · rename_i h64
            cases e
            obtain ⟨a, us, rfl, h1, hl, h2⟩ := hv
            refine .inr (.inr ⟨a, _, ns, rfl, .inl h1, ?_, h64, fun ns' p k1 k2 hp => ?_⟩)
            · rw [← intKs_eq q]
              exact List.map_fst_zip (by omega)
            · have e : ns' = sortI ns := sorted_unique (k1.trans (sortI_perm ns).symm) k2 (sortI_sorted ns)
              subst e
              exact c.lst L (.ofInts _) (Nat.le_trans (by rw [List.length_map, (sortI_perm ns).length_eq]; exact Nat.le_of_lt h64) (by decide)) hp
          · cases e
      | tup l =>
        have e : ((intsD l).map fun ns => R.o (.lst ((sortI ns).map .int))) = some r := e
        cases q : intsD l with
        | none => rw [q] at e; cases e
        | some ns =>
          rw [q] at e; cases e
          obtain ⟨a, us, rfl, h1, z, h2⟩ := repTup hv
          rw [repInts q h2] at h1
          refine .inr (.inl ⟨a, ns, rfl, h1.sqT, fun ns' p k1 k2 hp => ?_⟩)
          have e : ns' = sortI ns := sorted_unique (k1.trans (sortI_perm ns).symm) k2 (sortI_sorted ns)
          subst e
          exact c.lst L (.ofInts _) (by rw [List.length_map, (sortI_perm ns).length_eq, ← intsD_len q]; exact z) hp
      | lst l => ?_
      | _ => cases e
      have e : ((intsD l).map fun ns => R.o (.lst ((sortI ns).map .int))) = some r := e
      left
      cases q : intsD l with
      | none => rw [q] at e; cases e
      | some ns =>
        rw [q] at e; cases e
        obtain ⟨a, us, rfl, h1, z, h2⟩ := repLst hv
        rw [repInts q h2] at h1
        refine ⟨a, ns, rfl, .inl (.inl h1), fun ns' p k1 k2 hp => ?_⟩
        have e : ns' = sortI ns := sorted_unique (k1.trans (sortI_perm ns).symm) k2 (sortI_sorted ns)
        subst e
        exact c.lst L (.ofInts _) (by rw [List.length_map, (sortI_perm ns).length_eq, ← intsD_len q]; exact z) hp
  | all =>
    match ds, e with
    | [.lst l], e =>
      obtain ⟨v, rfl, hv⟩ := one rfl
      simp only [bltD] at e
      cases q : blsD l with
      | none => rw [q] at e; cases e
      | some bs =>
        rw [q] at e; cases e
        obtain ⟨a, us, rfl, h1, z, h2⟩ := repLst hv
        rw [repBls q h2] at h1
        exact ⟨a, bs, rfl, .inl (.inl h1), c.bl L rfl⟩
  | any =>
    match ds, e with
    | [.lst l], e =>
      obtain ⟨v, rfl, hv⟩ := one rfl
      simp only [bltD] at e
      cases q : blsD l with
      | none => rw [q] at e; cases e
      | some bs =>
        rw [q] at e; cases e
        obtain ⟨a, us, rfl, h1, z, h2⟩ := repLst hv
        rw [repBls q h2] at h1
        exact ⟨a, bs, rfl, .inl (.inl h1), c.bl L rfl⟩
  | isi =>
    match ds, e with
    | [d, .ty t], e =>
      obtain ⟨v, u, rfl, hv, hu⟩ := two rfl
      simp only [bltD, isiD] at e
      split at e
      · rename_i ht
        cases q : tyName d with
        | none => rw [q] at e; cases e
        | some n =>
          rw [q] at e; cases e
          have fin : ∀ {n : String}, n ∈ tyNames → tyName d = some n → TyX P.K H v (.type n) → rBlt P.K .isi [v, u] H Q := fun {m} hm q' ty => by
            rw [q] at q'; cases q'
            rw [repTy hu]
            exact ⟨v, .ty t, .type n, .type t, _, rfl, .ty t, ty, kit_ty (kit_at hm ht), c.bl L rfl⟩
          cases d with
          | non => have := repNon hv; subst this; exact fin (by decide) rfl (.base .non)
          | bl b => have := repBl hv; subst this; exact fin (by decide) rfl (.base (.bl b))
          | int b => have := repInt hv; subst this; exact fin (by decide) rfl (.base (.int b))
          | str b => have := repStr hv; subst this; exact fin (by decide) rfl (.base (.str b))
          | tup l =>
            obtain ⟨a, vs, rfl, h1, _⟩ := repTup hv
            refine fin (by decide) rfl ?_
            rcases h1 with ⟨o, h1, _⟩ | ⟨o, its, n, h1, h2, _⟩
            · exact .fTuple h1
            · exact .kTuple h1 h2
          | lst l =>
            obtain ⟨a, vs, rfl, h1, _⟩ := repLst hv
            exact fin (by decide) rfl (.base (.lst h1))
          | dct ks vs =>
            obtain ⟨a, us, rfl, h1, hl, h2⟩ := hv
            exact fin (by decide) rfl (.base (.dK h1))
          | _ => cases q
      · cases e
  | lenset =>
    match ds, e with
    | [.tup l], e =>
      obtain ⟨v, rfl, hv⟩ := one rfl
      simp only [bltD] at e
      cases q : intsD l with
      | none => rw [q] at e; cases e
      | some ns =>
        rw [q] at e
        have e : (if ns.length < 64 then some (R.v (.int (dedup ns).length)) else none) = some r := e
        by_cases hl : ns.length < 64
        · rw [if_pos hl] at e
          cases e
          obtain ⟨a, us, rfl, h1, z, h2⟩ := repTup hv
          rw [repInts q h2] at h1
          obtain ⟨d1, d2⟩ := dedup_spec ns
          exact ⟨a, ns, rfl, h1.sqT, hl, fun out o1 o2 => c.int L (by rw [nodup_len o1 d1 fun k => (o2 k).trans (d2 k).symm])⟩
        · rw [if_neg hl] at e
          cases e
theorem neg_ok {x d : D} {vx : V} (L : Rel P O W H σ ρ) (hx : RepB P (Av O W) H x vx) (e : negD x = some d) (c : Cont P O σ ρ W H ρ (.v d) Q) : rU (fun i => .int (-i)) vx H Q := by
  cases x with
  | int i => cases e; exact ⟨i, repInt hx, c.int L rfl⟩
  | _ => cases e
theorem getN_zip {f : Str} : ∀ {ns : List Str} {ds : List D} {vs : List V} {d : D}, getN f ns ds = some d → ns.length = vs.length → RepVs P A H ds vs → ∃ v, (ns.zip vs).lookup f = some v ∧ RepV P A H d v
  | n :: ns, x :: ds, vs, d, e, l, h => by
    obtain ⟨v, us, rfl, h1, h2⟩ := h.uncons
    unfold getN at e
    rw [List.zip_cons_cons, List.lookup_cons]
    split at e
    · rename_i hf
      cases e
      have hb : (f == n) = true := beq_iff_eq.mpr hf
      rw [hb]
      exact ⟨v, rfl, h1⟩
    · rename_i hf
      have hb : (f == n) = false := beq_eq_false_iff_ne.mpr hf
      rw [hb]
      exact getN_zip e (by simpa using l) h2
  | [], _, _, _, e, _, _ => by simp [getN] at e
  | _ :: _, [], _, _, e, _, _ => by simp [getN] at e
end
end Mi

/-! MiD3a -/
set_option Elab.async false
set_option linter.all false
set_option maxRecDepth 100000
set_option maxHeartbeats 4000000
/-! MiD3a: a def's promise, a call. -/
namespace Mi
open PySem PySem.Spec PyProof.Rows L2
inductive ArgsRep (P : TP) (A : AP) (H : Hp) : List Arg → List V → List Addr → Prop
  | nil : ArgsRep P A H [] [] []
  | fro {d : D} {v : V} {as : List Arg} {vs : List V} {ads : List Addr} : RepV P A H d v → ArgsRep P A H as vs ads → ArgsRep P A H ((false, d) :: as) (v :: vs) ads
  | own {d : D} {a : Addr} {as : List Arg} {vs : List V} {ads : List Addr} : OwnV P A H d a → ArgsRep P A H as vs ads → ArgsRep P A H ((true, d) :: as) (.ref a :: vs) (a :: ads)
inductive OutsRep (P : TP) (A : AP) (H : Hp) : List D → List Addr → Prop
  | nil : OutsRep P A H [] []
  | cons {d : D} {a : Addr} {ds : List D} {ads : List Addr} : OwnV P A H d a → OutsRep P A H ds ads → OutsRep P A H (d :: ds) (a :: ads)
abbrev InL (ads : List Addr) : AP := fun a => a ∈ ads
structure Ret (P : TP) (O : AP) (H : Hp) (ads : List Addr) (r : R) (outs : List D) (v : V) (H' : Hp) (W' : AP) : Prop where
  keep : ∀ a o, H a = some o → a ∉ ads → H' a = some o
  alive : ∀ a, H a ≠ none → H' a ≠ none
  new : ∀ a, W' a → a ∈ ads ∨ H a = none
  muts : ∀ a, W' a → ∃ o, H' a = some o ∧ isMut o = true
  adsW : ∀ a ∈ ads, W' a
  outR : OutsRep P (Av O W') H' outs ads
  val : match r with
    | .v d => RepV P (Av O W') H' d v
    | .o d => ∃ a, v = .ref a ∧ W' a ∧ a ∉ ads ∧ OwnV P (Av O W') H' d a
    | .b _ => False
/-- what a def promises: it does what the mirror says -/
def spec (P : TP) (Φ : Phi) (f : Nat) : Sp := fun vs H Q _ => ∃ (O : AP) (as : List Arg) (ads : List Addr) (r : R) (outs : List D),
  ArgsRep P (Av O (InL ads)) H as vs ads ∧ ads.Nodup ∧ (∀ a ∈ ads, ¬ O a) ∧ (∀ a, O a → H a ≠ none) ∧ Φ f as = some (r, outs) ∧ ∀ v H' W', Ret P O H ads r outs v H' W' → Q v H'
theorem ArgsRep.length {P : TP} {A : AP} {H : Hp} {as : List Arg} {vs : List V} {ads : List Addr} (h : ArgsRep P A H as vs ads) : as.length = vs.length := by
  induction h with
  | nil => rfl
  | fro _ _ ih => simp [ih]
  | own _ _ ih => simp [ih]
theorem ArgsRep.kp {P : TP} {Wr A A' : AP} {H H' : Hp} (k : Kp Wr A A' H H') {as : List Arg} {vs : List V} {ads : List Addr} (h : ArgsRep P A H as vs ads) : (∀ a ∈ ads, ¬ Wr a) → ArgsRep P A' H' as vs ads := by
  induction h with
  | nil => exact fun _ => .nil
  | fro h1 _ ih => exact fun n => .fro (h1.kp k) (ih n)
  | own h1 _ ih => exact fun n => .own (h1.kp k (n _ List.mem_cons_self)) (ih fun a ha => n a (List.mem_cons_of_mem _ ha))
section
variable {P : TP} {O W W0 A : AP} {H H0 : Hp} {σ : L2.St} {ρ ρ0 : Env} {r : R} {Q : VK}
/-- slots whose owned things stand at these places -/
def SlA (σ : L2.St) (ρ : Env) : List Nat → List Addr → Prop
  | [], [] => True
  | i :: is, a :: as => σ[i]? = some (some (.ref a)) ∧ (∃ d, eget ρ i = some (true, d)) ∧ SlA σ ρ is as
  | _, _ => False
theorem SlA.mem : ∀ {is : List Nat} {as : List Addr} {a : Addr}, SlA σ ρ is as → a ∈ as → ∃ i ∈ is, σ[i]? = some (some (.ref a)) ∧ ∃ d, eget ρ i = some (true, d)
  | i :: is, b :: as, a, ⟨h1, h2, h3⟩, hm => by
    rcases List.mem_cons.mp hm with e | e
    · subst e; exact ⟨i, List.mem_cons_self, h1, h2⟩
    · obtain ⟨j, hj, q⟩ := SlA.mem h3 e
      exact ⟨j, List.mem_cons_of_mem _ hj, q⟩
  | [], [], _, _, hm => by cases hm
theorem SlA.at : ∀ {is : List Nat} {as : List Addr} {i : Nat}, SlA σ ρ is as → i ∈ is → ∃ a ∈ as, σ[i]? = some (some (.ref a)) ∧ ∃ d, eget ρ i = some (true, d)
  | j :: is, b :: as, i, ⟨h1, h2, h3⟩, hm => by
    rcases List.mem_cons.mp hm with e | e
    · subst e; exact ⟨b, List.mem_cons_self, h1, h2⟩
    · obtain ⟨a, ha, q⟩ := SlA.at h3 e
      exact ⟨a, List.mem_cons_of_mem _ ha, q⟩
  | [], [], _, _, hm => by cases hm
theorem SlA.nodup (L : Rel P O W H σ ρ) : ∀ {is : List Nat} {as : List Addr}, SlA σ ρ is as → is.Nodup → as.Nodup
  | i :: is, b :: as, ⟨h1, ⟨d, h2⟩, h3⟩, nd => by
    obtain ⟨n1, n2⟩ := List.nodup_cons.mp nd
    refine List.nodup_cons.mpr ⟨fun hm => ?_, SlA.nodup L h3 n2⟩
    obtain ⟨j, hj, e, d', e'⟩ := h3.mem hm
    have := L.inj i j b d d' h2 e' h1 e
    subst this
    exact n1 hj
  | [], [], _, _ => .nil
  | [], _ :: _, h, _ => h.elim
  | _ :: _, [], h, _ => h.elim
/-- the arguments as a def takes them; T: what the caller lets go or lends -/
theorem takeArgs_ok : ∀ {rs : List R} {vs : List V} {io : List Bool} {as : List Arg} {ios ls : List Nat}, Rel P O W H σ ρ → RepRs P O W H σ ρ rs vs → takeArgs ρ rs io = some (as, ios, ls) →
    ∃ ads lads, SlA σ ρ ios ads ∧ SlA σ ρ ls lads ∧ ∀ T : AP, (∀ a ∈ lads, T a) → (∀ a ∈ tmps rs vs, T a) → ArgsRep P (fun a => Av O W a ∧ ¬ T a) H as vs ads
  | [], vs, [], as, ios, ls, L, h, e => by
    have h : vs = [] := h
    subst h
    cases e
    exact ⟨[], [], trivial, trivial, fun T _ _ => .nil⟩
  | r :: rs, _, m :: ms, as, ios, ls, L, ⟨v, us, e0, h1, h2⟩, e => by
    subst e0
    unfold takeArgs at e
    cases q : takeArgs ρ rs ms with
    | none => rw [q] at e; cases e
    | some x =>
      obtain ⟨as2, ios2, ls2⟩ := x
      rw [q] at e
      obtain ⟨ads, lads, s1, s2, k⟩ := takeArgs_ok L h2 q
      have less : ∀ T : AP, Kp (fun _ => False) (Av O W) (fun a => Av O W a ∧ ¬ T a) H H := fun T => Kp.less fun a z => z.1
      cases r with
      | v d =>
        cases m with
        | true => cases e
        | false =>
          cases e
          refine ⟨ads, lads, s1, s2, fun T t1 t2 => .fro ?_ (k T t1 t2)⟩
          exact RepV.kp (less T) (show RepV P (Av O W) H d v from h1)
      | o d =>
        obtain ⟨a, rfl, w, n, hq⟩ := h1
        cases m with
        | true => cases e
        | false =>
          cases e
          refine ⟨ads, lads, s1, s2, fun T t1 t2 => .fro ?_ (k T t1 fun a ha => t2 a (List.mem_cons_of_mem _ ha))⟩
          exact OwnV.rep (hq.kp (less T) fun z => z) fun z => z.2 (t2 a List.mem_cons_self)
      | b s =>
        obtain ⟨e1, x, hx⟩ := h1
        cases m with
        | true =>
          dsimp only at e
          rw [hx] at e
          obtain ⟨o, d⟩ := x
          cases o with
          | false => cases e
          | true =>
            cases e
            obtain ⟨a, e2, w, hq⟩ := L.own s d hx
            rw [e1] at e2; cases e2
            exact ⟨a :: ads, lads, ⟨e1, ⟨d, hx⟩, s1⟩, s2, fun T t1 t2 => .own (hq.kp (less T) fun z => z) (k T t1 t2)⟩
        | false =>
          dsimp only at e
          rw [hx] at e
          obtain ⟨o, d⟩ := x
          cases o with
          | false =>
            cases e
            obtain ⟨u, e2, hq⟩ := L.fro s d hx
            rw [e1] at e2; cases e2
            exact ⟨ads, lads, s1, s2, fun T t1 t2 => .fro (hq.kp (less T)) (k T t1 t2)⟩
          | true =>
            cases e
            obtain ⟨a, e2, w, hq⟩ := L.own s d hx
            rw [e1] at e2; cases e2
            exact ⟨ads, a :: lads, s1, ⟨e1, ⟨d, hx⟩, s2⟩, fun T t1 t2 => .fro (OwnV.rep (hq.kp (less T) fun z => z) fun z => z.2 (t1 a List.mem_cons_self)) (k T (fun b hb => t1 b (List.mem_cons_of_mem _ hb)) t2)⟩
  | [], _, _ :: _, _, _, _, _, _, e => by cases e
  | _ :: _, _, [], _, _, _, _, _, e => by cases e
theorem eget_set {ρ : Env} {i j : Nat} {x : Option (Bool × D)} : eget (ρ.set i x) j = if j = i ∧ i < ρ.length then x else eget ρ j := by
  unfold eget
  by_cases h : j = i
  · subst h
    by_cases hl : j < ρ.length
    · rw [List.getElem?_set_self hl, if_pos ⟨rfl, hl⟩]; rfl
    · rw [if_neg fun z => hl z.2, List.getElem?_eq_none (by simpa using hl), List.getElem?_eq_none (by simpa using hl)]
  · rw [List.getElem?_set_ne (Ne.symm h), if_neg fun z => h z.1]
theorem eget_lt {ρ : Env} {i : Nat} {x : Bool × D} (h : eget ρ i = some x) : i < ρ.length := by
  unfold eget at h
  cases q : ρ[i]? with
  | none => rw [q] at h; cases h
  | some y => exact (List.getElem?_eq_some_iff.mp q).1
theorem setOuts_len : ∀ {is : List Nat} {ds : List D} {ρ : Env}, (setOuts ρ is ds).length = ρ.length
  | [], _, _ => by unfold setOuts; rfl
  | _ :: _, [], _ => by unfold setOuts; rfl
  | i :: is, d :: ds, ρ => by unfold setOuts; rw [setOuts_len, List.length_set]
theorem setOuts_get : ∀ {is : List Nat} {ads : List Addr} {ds : List D} {ρ : Env} {A : AP} {H : Hp}, OutsRep P A H ds ads → SlA σ ρ is ads → is.Nodup → ∀ i,
    (i ∈ is ∧ ∃ d a, eget (setOuts ρ is ds) i = some (true, d) ∧ a ∈ ads ∧ σ[i]? = some (some (.ref a)) ∧ OwnV P A H d a) ∨ (i ∉ is ∧ eget (setOuts ρ is ds) i = eget ρ i)
  | [], _, _, ρ, A, H, ho, hs, nd, i => by
    refine .inr ⟨by simp, ?_⟩
    unfold setOuts; rfl
  | j :: is, b :: ads, d :: ds, ρ, A, H, .cons h1 h2, ⟨e1, ⟨d0, e2⟩, e3⟩, nd, i => by
    obtain ⟨n1, n2⟩ := List.nodup_cons.mp nd
    have hs2 : ∀ {is : List Nat} {ads : List Addr}, j ∉ is → SlA σ ρ is ads → SlA σ (ρ.set j (some (true, d))) is ads := by
      intro is
      induction is with
      | nil => intro ads _ h; cases ads with | nil => trivial | cons _ _ => exact h.elim
      | cons k is ih =>
        intro ads hn h
        cases ads with
        | nil => exact h.elim
        | cons a ads =>
          obtain ⟨f1, ⟨x, f2⟩, f3⟩ := h
          refine ⟨f1, ⟨x, ?_⟩, ih (fun z => hn (List.mem_cons_of_mem _ z)) f3⟩
          rw [eget_set, if_neg (fun (z : k = j ∧ j < ρ.length) => hn (z.1 ▸ List.mem_cons_self))]
          exact f2
    unfold setOuts
    rcases setOuts_get h2 (hs2 n1 e3) n2 i with ⟨m, x, a, g1, g2, g3, g4⟩ | ⟨m, g⟩
    · exact .inl ⟨List.mem_cons_of_mem _ m, x, a, g1, List.mem_cons_of_mem _ g2, g3, g4⟩
    · by_cases hij : i = j
      · subst hij
        refine .inl ⟨List.mem_cons_self, d, b, ?_, List.mem_cons_self, e1, h1⟩
        rw [g, eget_set, if_pos ⟨rfl, eget_lt e2⟩]
      · refine .inr ⟨fun z => (List.mem_cons.mp z).elim hij m, ?_⟩
        rw [g, eget_set, if_neg fun z => hij z.1]
theorem lose_len : ∀ {is : List Nat} {ρ : Env}, (lose ρ is).length = ρ.length
  | [], _ => by unfold lose; rfl
  | i :: is, ρ => by
    unfold lose
    split
    · rw [lose_len, List.length_set]
    · exact lose_len
theorem lose_get : ∀ {is : List Nat} {ρ : Env} (i : Nat), eget (lose ρ is) i = if i ∈ is then (eget ρ i).map fun x => (false, x.2) else eget ρ i
  | [], ρ, i => by unfold lose; simp
  | j :: is, ρ, i => by
    unfold lose
    cases q : eget ρ j with
    | none =>
      dsimp only
      rw [lose_get i]
      by_cases h : i = j
      · subst h; rw [q]; simp
      · simp [h]
    | some x =>
      obtain ⟨o, d⟩ := x
      dsimp only
      rw [lose_get i, eget_set]
      by_cases h : i = j
      · subst h
        rw [if_pos (⟨rfl, eget_lt q⟩ : i = i ∧ i < ρ.length), q, if_pos (List.mem_cons_self : i ∈ i :: is)]
        simp
      · simp [h]
theorem OutsRep.kp {Wr A A' : AP} {H H' : Hp} (k : Kp Wr A A' H H') : ∀ {ds : List D} {ads : List Addr}, (∀ a ∈ ads, ¬ Wr a) → OutsRep P A H ds ads → OutsRep P A' H' ds ads
  | _, _, _, .nil => .nil
  | _, _, n, .cons h1 h2 => .cons (h1.kp k (n _ List.mem_cons_self)) (OutsRep.kp k (fun a ha => n a (List.mem_cons_of_mem _ ha)) h2)
theorem OwnV.still {A A' : AP} {d : D} {a : Addr} (s : stillC d = true) (h : OwnV P A H d a) : OwnV P A' H d a := by
  cases d with
  | lst ds => obtain ⟨vs, e, z, r⟩ := h; exact ⟨vs, e, z, RepVs.still s r⟩
  | ins C ns ds => obtain ⟨dx, vs, e, l, r⟩ := h; exact ⟨dx, vs, e, l, RepVs.still s r⟩
  | dct ks ds => obtain ⟨vs, e, l, r⟩ := h; exact ⟨vs, e, l, RepVs.still s r⟩
  | _ => exact (show False from h).elim
theorem OutsRep.still {A A' : AP} : ∀ {ds : List D} {ads : List Addr}, ds.all stillC = true → OutsRep P A H ds ads → OutsRep P A' H ds ads
  | _, _, _, .nil => .nil
  | _, _, s, .cons h1 h2 => by
    rw [List.all_cons, Bool.and_eq_true] at s
    exact .cons (h1.still s.1) (OutsRep.still s.2 h2)
theorem OutsRep.len {A : AP} : ∀ {ds : List D} {ads : List Addr}, OutsRep P A H ds ads → ds.length = ads.length
  | _, _, .nil => rfl
  | _, _, .cons _ h => by simp [OutsRep.len h]
/-- a call of a def, its promise kept -/
theorem call_ok {Gm : Cfg} {Φ : Phi} {f : Nat} {rs : List R} {vs : List V} {ρ' : Env} {Hs : Hp} (L : Rel P O W H σ ρ) (h : RepRs P O W H σ ρ rs vs) (nd : (tmps rs vs).Nodup) (hs : ∀ a ∈ tmps rs vs, Hs a = none) (hal : ∀ a, Hs a ≠ none → H a ≠ none)
    (e : callF Gm Φ f rs ρ = some (r, ρ')) {W0 : AP} {ρ0 : Env} (st : Step σ ρ0 W0 Hs ρ W H) (L0 : Rel P O W0 Hs σ ρ0) (c : Cont P O σ ρ0 W0 Hs ρ' r Q) : spec P Φ f vs H Q E0 := by
  unfold callF at e
  cases q1 : Gm.io f with
  | none => rw [q1] at e; cases e
  | some io =>
    rw [q1] at e
    dsimp only at e
    cases q2 : takeArgs ρ rs io with
    | none => rw [q2] at e; cases e
    | some x =>
      obtain ⟨as, ios, ls⟩ := x
      rw [q2] at e
      dsimp only at e
      split at e
      · rename_i hnd
        cases q3 : Φ f as with
        | none => rw [q3] at e; cases e
        | some y =>
          obtain ⟨r1, outs⟩ := y
          rw [q3] at e
          dsimp only at e
          split at e
          · rename_i hol
            obtain ⟨ads, lads, s1, s2, k⟩ := takeArgs_ok L h q2
            obtain ⟨nd1, nd2, nd3⟩ := List.nodup_append.mp hnd
            -- what is lent and let go
            let T : AP := fun a => a ∈ lads ∨ a ∈ tmps rs vs
            have kA := k T (fun a ha => .inl ha) fun a ha => .inr ha
            have ownAds : ∀ a ∈ ads, OwnA σ ρ a := fun a ha => by
              obtain ⟨i, _, e1, d, e2⟩ := s1.mem ha
              exact ⟨i, d, e2, e1⟩
            have ownL : ∀ a ∈ lads, OwnA σ ρ a := fun a ha => by
              obtain ⟨i, _, e1, d, e2⟩ := s2.mem ha
              exact ⟨i, d, e2, e1⟩
            have tmpW : ∀ {rs : List R} {vs : List V}, RepRs P O W H σ ρ rs vs → ∀ a ∈ tmps rs vs, W a ∧ ¬ OwnA σ ρ a := by
              intro rs
              induction rs with
              | nil => intro vs h a ha; have h : vs = [] := h; subst h; cases ha
              | cons r rs ih =>
                rintro _ ⟨v, us, rfl, h1, h2⟩ a ha
                cases r with
                | o d =>
                  obtain ⟨b, rfl, w, n, _⟩ := h1
                  rcases List.mem_cons.mp ha with z | z
                  · subst z; exact ⟨w, n⟩
                  · exact ih h2 a z
                | v d => exact ih h2 a ha
                | b d => exact ih h2 a ha
            have adsNT : ∀ a ∈ ads, ¬ T a := fun a ha z => by
              rcases z with z | z
              · obtain ⟨i, hi, e1, d1, f1⟩ := s1.mem ha
                obtain ⟨j, hj, e2, d2, f2⟩ := s2.mem z
                have := L.inj i j a d1 d2 f1 f2 e1 e2
                subst this
                exact nd3 i hi i hj rfl
              · exact (tmpW h a z).2 (ownAds a ha)
            let O1 : AP := fun a => Av O W a ∧ a ∉ ads ∧ ¬ T a
            have avEq : ∀ a, Av O1 (InL ads) a → Av O W a ∧ ¬ T a := fun a z => z.elim (fun q => ⟨q.1, q.2.2⟩) fun q => ⟨.inr (L.ownW (ownAds a q)), adsNT a q⟩
            have kA2 : ArgsRep P (Av O1 (InL ads)) H as vs ads := by
              exact kA.kp (Kp.less fun a z => avEq a z) fun _ _ z => z
            refine ⟨O1, as, ads, r1, outs, kA2, s1.nodup L nd1, fun a ha (z : O1 a) => z.2.1 ha, fun a (z : O1 a) => z.1.elim (L.oal a) fun w => by
              obtain ⟨o, e, _⟩ := L.wmut a w
              rw [e]; exact (fun z => nomatch z), q3, fun v H' W' rt => ?_⟩
            -- behind the call
            let kept : Prop := (ls.isEmpty || (stillR r1 && outs.all stillC)) = true
            let T' : AP := fun a => a ∈ tmps rs vs ∨ (¬ kept ∧ a ∈ lads)
            let W2 : AP := fun a => (W a ∧ ¬ T' a) ∨ W' a
            have T'T : ∀ a, T' a → T a := fun a z => z.elim .inr fun q => .inl q.2
            have newH : ∀ a, W' a → a ∈ ads ∨ H a = none := rt.new
            have hnoT : ∀ a, W' a → ¬ T a := fun a wa z => by
              rcases newH a wa with q | q
              · exact adsNT a q z
              · rcases z with z | z
                · obtain ⟨o, e1, _⟩ := L.wmut a (L.ownW (ownL a z))
                  rw [q] at e1; cases e1
                · obtain ⟨o, e1, _⟩ := L.wmut a (tmpW h a z).1
                  rw [q] at e1; cases e1
            -- from the callee's care to ours
            have av2 : ∀ a, Av O W2 a → Av O1 W' a ∨ (kept ∧ a ∈ lads) := fun a z => by
              by_cases ha : a ∈ ads
              · exact .inl (.inr (rt.adsW a ha))
              · rcases z with z | ⟨z1, z2⟩ | z
                · refine .inl (.inl ⟨.inl z, ha, fun t => ?_⟩)
                  rcases t with t | t
                  · exact L.ow a (L.ownW (ownL a t)) z
                  · exact L.ow a (tmpW h a t).1 z
                · by_cases hl : a ∈ lads
                  · refine .inr ⟨Classical.byContradiction fun nk => z2 (.inr ⟨nk, hl⟩), hl⟩
                  · refine .inl (.inl ⟨.inr z1, ha, fun t => ?_⟩)
                    rcases t with t | t
                    · exact hl t
                    · exact z2 (.inl t)
                · exact .inl (.inr z)
            have kOut : ∀ {d : D} {a : Addr}, (kept → ls ≠ [] → stillC d = true) → OwnV P (Av O1 W') H' d a → OwnV P (Av O W2) H' d a := fun {d a} hst ho => by
              by_cases hk : kept ∧ ls ≠ []
              · exact ho.still (hst hk.1 hk.2)
              · refine ho.kp (Kp.less fun a z => (av2 a z).elim (fun q => q) fun q => ?_) fun z => z
                refine absurd ⟨q.1, ?_⟩ hk
                intro e0
                subst e0
                cases lads with
                | nil => cases q.2
                | cons _ _ => exact s2.elim
            have stills : kept → ls ≠ [] → stillR r1 = true ∧ outs.all stillC = true := fun hk hl => by
              have hk : (ls.isEmpty || (stillR r1 && outs.all stillC)) = true := hk
              cases ls with
              | nil => exact absurd rfl hl
              | cons x xs =>
                rw [List.isEmpty_cons, Bool.false_or, Bool.and_eq_true] at hk
                exact hk
            -- the frame's step, what was written being the lent-in things
            have kpC : Kp (InL ads) (Av O W) (Av O W2) H H' := by
              refine ⟨fun a o e n => rt.keep a o e n, fun a z => L.wmut a (L.ownW (ownAds a z)), fun a z => .inr (L.ownW (ownAds a z)), fun a z => ?_⟩
              rcases z with z | ⟨z, _⟩ | z
              · exact .inl (.inl z)
              · exact .inl (.inr z)
              · rcases newH a z with q | q
                · exact .inl (.inr (L.ownW (ownAds a q)))
                · exact .inr q
            -- the environment behind
            have hρ' : ρ' = if (ls.isEmpty || (stillR r1 && outs.all stillC)) = true then setOuts ρ ios outs else lose (setOuts ρ ios outs) ls := by
              have := congrArg (fun z => z.map (·.2)) e
              simp only [Option.map_some] at this
              cases this
              rfl
            have hr : r1 = r := by
              have := congrArg (fun z => z.map (·.1)) e
              simp only [Option.map_some] at this
              cases this
              rfl
            subst hr
            have outs2 : OutsRep P (Av O W2) H' outs ads := by
              have : ∀ {ds : List D} {bs : List Addr}, (kept → ls ≠ [] → ds.all stillC = true) → OutsRep P (Av O1 W') H' ds bs → OutsRep P (Av O W2) H' ds bs := by
                intro ds bs hst ho
                induction ho with
                | nil => exact .nil
                | cons h1 _ ih =>
                  refine .cons (kOut (fun k1 k2 => ?_) h1) (ih fun k1 k2 => ?_)
                  · have := hst k1 k2; rw [List.all_cons, Bool.and_eq_true] at this; exact this.1
                  · have := hst k1 k2; rw [List.all_cons, Bool.and_eq_true] at this; exact this.2
              exact this (fun k1 k2 => (stills k1 k2).2) rt.outR
            have getS := setOuts_get (σ := σ) outs2 s1 nd1
            have getF : ∀ i, (eget ρ' i = eget (setOuts ρ ios outs) i ∧ (i ∈ ls → kept)) ∨ (¬ kept ∧ i ∈ ls ∧ eget ρ' i = (eget ρ i).map fun x => (false, x.2)) := fun i => by
              rw [hρ']
              by_cases hk : (ls.isEmpty || (stillR r1 && outs.all stillC)) = true
              · rw [if_pos hk]; exact .inl ⟨rfl, fun _ => hk⟩
              · rw [if_neg hk, lose_get]
                by_cases hi : i ∈ ls
                · rw [if_pos hi]
                  refine .inr ⟨hk, hi, ?_⟩
                  rcases getS i with ⟨m, _⟩ | ⟨m, g⟩
                  · exact absurd rfl (nd3 i m i hi)
                  · rw [g]
                · rw [if_neg hi]; exact .inl ⟨rfl, fun z => absurd z hi⟩
            have lenρ : ρ'.length = ρ.length := by
              rw [hρ']
              split
              · exact setOuts_len
              · rw [lose_len, setOuts_len]
            have ownBack : ∀ a, OwnA σ ρ' a → OwnA σ ρ a := fun a ⟨i, d, e1, e2⟩ => by
              rcases getF i with ⟨g, _⟩ | ⟨_, _, g⟩
              · rw [g] at e1
                rcases getS i with ⟨m, x, b, g1, g2, g3, _⟩ | ⟨m, g1⟩
                · rw [e2] at g3; cases g3
                  exact ownAds _ g2
                · exact ⟨i, d, by rw [← g1]; exact e1, e2⟩
              · rw [g] at e1
                cases q : eget ρ i with
                | none => rw [q] at e1; cases e1
                | some x => rw [q] at e1; cases e1
            have L2' : Rel P O W2 H' σ ρ' := by
              refine ⟨lenρ.trans L.len, fun a z => ?_, fun a z => rt.alive a (L.oal a z), fun a z => ?_, fun i d e1 => ?_, fun i d e1 => ?_, fun i j a di dj e1 e2 => ?_⟩
              · rcases z with ⟨z, _⟩ | z
                · by_cases ha : a ∈ ads
                  · exact rt.muts a (rt.adsW a ha)
                  · obtain ⟨o, e1, m⟩ := L.wmut a z
                    exact ⟨o, rt.keep a o e1 ha, m⟩
                · exact rt.muts a z
              · rcases z with ⟨z, _⟩ | z
                · exact L.ow a z
                · rcases newH a z with q | q
                  · exact L.ow a (L.ownW (ownAds a q))
                  · exact fun w => L.oal a w q
              · rcases getF i with ⟨g, _⟩ | ⟨nk, hi, g⟩
                · rw [g] at e1
                  rcases getS i with ⟨m, x, b, g1, _⟩ | ⟨m, g1⟩
                  · rw [g1] at e1; cases e1
                  · rw [g1] at e1
                    obtain ⟨v, e2, rv⟩ := L.fro i d e1
                    exact ⟨v, e2, rv.kp kpC⟩
                · rw [g] at e1
                  obtain ⟨a, ha, e2, d0, e3⟩ := s2.at hi
                  rw [e3] at e1
                  cases e1
                  obtain ⟨b, e4, w, ho⟩ := L.own i _ e3
                  rw [e2] at e4; cases e4
                  refine ⟨_, e2, OwnV.rep (ho.kp kpC fun z => ?_) fun z => ?_⟩
                  · exact adsNT a z (.inl ha)
                  · rcases z with z | ⟨_, z⟩ | z
                    · exact L.ow a w z
                    · exact z (.inr ⟨nk, ha⟩)
                    · exact hnoT a z (.inl ha)
              · rcases getF i with ⟨g, kl⟩ | ⟨_, _, g⟩
                · rw [g] at e1
                  rcases getS i with ⟨m, x, b, g1, g2, g3, g4⟩ | ⟨m, g1⟩
                  · rw [g1] at e1; cases e1
                    exact ⟨b, g3, .inr (rt.adsW b g2), g4⟩
                  · rw [g1] at e1
                    obtain ⟨a, e2, w, ho⟩ := L.own i d e1
                    have na : a ∉ ads := fun z => by
                      obtain ⟨j, hj, e3, d3, e4⟩ := s1.mem z
                      have := L.inj i j a d d3 e1 e4 e2 e3
                      subst this
                      exact m hj
                    refine ⟨a, e2, .inl ⟨w, fun z => ?_⟩, ho.kp kpC na⟩
                    rcases z with z | ⟨z1, z2⟩
                    · exact (tmpW h a z).2 ⟨i, d, e1, e2⟩
                    · obtain ⟨j, hj, e3, d3, e4⟩ := s2.mem z2
                      have := L.inj i j a d d3 e1 e4 e2 e3
                      subst this
                      exact z1 (kl hj)
                · rw [g] at e1
                  cases q : eget ρ i with
                  | none => rw [q] at e1; cases e1
                  | some x => rw [q] at e1; cases e1
              · intro e3 e4
                have toOwn : ∀ i d, eget ρ' i = some (true, d) → ∃ d', eget ρ i = some (true, d') := fun i d e1 => by
                  rcases getF i with ⟨g, _⟩ | ⟨_, _, g⟩
                  · rw [g] at e1
                    rcases getS i with ⟨m, _⟩ | ⟨m, g1⟩
                    · obtain ⟨_, _, _, d', e'⟩ := s1.at m
                      exact ⟨d', e'⟩
                    · exact ⟨d, by rw [← g1]; exact e1⟩
                  · rw [g] at e1
                    cases q : eget ρ i with
                    | none => rw [q] at e1; cases e1
                    | some x => rw [q] at e1; cases e1
                obtain ⟨d1, f1⟩ := toOwn i di e1
                obtain ⟨d2, f2⟩ := toOwn j dj e2
                exact L.inj i j a d1 d2 f1 f2 e3 e4
            have st2 : Step σ ρ0 W0 Hs ρ' W2 H' := by
              refine ⟨fun a o e1 n => ?_, fun a z => ?_, fun a z n => ?_, fun a z => st.own a (ownBack a z), fun i x e1 => ?_, fun a z => rt.alive a (st.alive a z)⟩
              · refine rt.keep a o (st.keep a o e1 n) fun z => n (st.own a (ownAds a z))
              · rcases z with ⟨z, _⟩ | z
                · exact st.new a z
                · rcases newH a z with q | q
                  · exact st.new a (L.ownW (ownAds a q))
                  · refine .inr (Classical.byContradiction fun w => st.alive a w q)
              · refine .inl ⟨st.stay a z n, fun t => ?_⟩
                rcases t with t | ⟨_, t⟩
                · obtain ⟨o, e1, _⟩ := L0.wmut a z
                  rw [hs a t] at e1; cases e1
                · exact n (st.own a (ownL a t))
              · obtain ⟨y, e2⟩ := st.there i x e1
                rcases getF i with ⟨g, _⟩ | ⟨_, _, g⟩
                · rcases getS i with ⟨m, z, b, g1, _⟩ | ⟨m, g1⟩
                  · exact ⟨_, by rw [g]; exact g1⟩
                  · exact ⟨y, by rw [g, g1]; exact e2⟩
                · exact ⟨_, by rw [g, e2]; rfl⟩
            have val := rt.val
            cases r1 with
            | b s => exact val.elim
            | v d =>
              refine c v H' W2 L2' st2 ?_ fun _ _ e => nomatch e
              have val : RepV P (Av O1 W') H' d v := val
              show RepV P (Av O W2) H' d v
              by_cases hk : kept ∧ ls ≠ []
              · exact RepV.still (stills hk.1 hk.2).1 val
              · refine val.kp (Kp.less fun a z => (av2 a z).elim (fun q => q) fun q => ?_)
                refine absurd ⟨q.1, ?_⟩ hk
                intro e0
                subst e0
                cases lads with
                | nil => cases q.2
                | cons _ _ => exact s2.elim
            | o d =>
              obtain ⟨a, e1, w, na, ho⟩ := val
              subst e1
              have fresh : H a = none := (newH a w).elim (fun z => absurd z na) fun z => z
              refine c (.ref a) H' W2 L2' st2 ⟨a, rfl, .inr w, fun z => ?_, kOut (fun k1 k2 => (stills k1 k2).1) ho⟩ fun _ b _ e => ?_
              · obtain ⟨o, e2, _⟩ := L.wmut a (L.ownW (ownBack a z))
                rw [fresh] at e2; cases e2
              · cases e
                exact Classical.byContradiction fun w => hal a w fresh
          · cases e
      · cases e
end
end Mi

/-! MiD3b -/
set_option Elab.async false
set_option linter.all false
set_option maxRecDepth 100000
set_option maxHeartbeats 4000000
/-! MiD3b: stores. -/
namespace Mi
open PySem PySem.Spec PyProof.Rows L2
section
variable {P : TP} {O W W0 W1 A : AP} {H H0 H1 : Hp} {σ σ1 : L2.St} {ρ ρ0 ρ1 : Env} {r : R} {Q : VK}
/-- an owned thing's content is changed -/
theorem Rel.write {i : Nat} {d d' : D} {a : Addr} {o' : HO} (L : Rel P O W H σ ρ) (hi : eget ρ i = some (true, d)) (hs : σ[i]? = some (some (.ref a))) (hm : isMut o' = true) (new : Kp (fun b => b = a) (Av O W) (Av O W) H (upd H a o') → OwnV P (Av O W) (upd H a o') d' a) :
    Rel P O W (upd H a o') σ (ρ.set i (some (true, d'))) ∧ Step σ ρ W H (ρ.set i (some (true, d'))) W (upd H a o') := by
  have oa : OwnA σ ρ a := ⟨i, d, hi, hs⟩
  have k : Kp (fun b => b = a) (Av O W) (Av O W) H (upd H a o') := ⟨fun b o e n => by rw [upd_ne n]; exact e, fun b z => z ▸ L.wmut a (L.ownW oa), fun b z => z ▸ .inr (L.ownW oa), fun b z => .inl z⟩
  have g : ∀ j, eget (ρ.set i (some (true, d'))) j = if j = i then some (true, d') else eget ρ j := fun j => by
    rw [eget_set]
    by_cases h : j = i
    · rw [if_pos ⟨h, eget_lt hi⟩, if_pos h]
    · rw [if_neg fun z => h z.1, if_neg h]
  have own : ∀ j x, eget (ρ.set i (some (true, d'))) j = some (true, x) → ∃ y, eget ρ j = some (true, y) := fun j x e => by
    rw [g] at e
    by_cases h : j = i
    · subst h; exact ⟨d, hi⟩
    · rw [if_neg h] at e; exact ⟨x, e⟩
  refine ⟨⟨by rw [List.length_set]; exact L.len, fun b z => ?_, fun b z => ?_, L.ow, fun j x e => ?_, fun j x e => ?_, fun j j' b x y e1 e2 => ?_⟩, ⟨fun b o e n => ?_, fun b z => .inl z, fun b z _ => z, fun b z => ?_, fun j x e => ?_, fun b z => ?_⟩⟩
  · by_cases h : b = a
    · subst h; exact ⟨o', upd_same, hm⟩
    · obtain ⟨o, e, m⟩ := L.wmut b z
      exact ⟨o, by rw [upd_ne h]; exact e, m⟩
  · by_cases h : b = a
    · subst h; rw [upd_same]; exact (fun z => nomatch z)
    · rw [upd_ne h]; exact L.oal b z
  · rw [g] at e
    by_cases h : j = i
    · rw [if_pos h] at e; cases e
    · rw [if_neg h] at e
      obtain ⟨v, e1, r⟩ := L.fro j x e
      exact ⟨v, e1, r.kp k⟩
  · by_cases h : j = i
    · subst h
      rw [g, if_pos rfl] at e
      cases e
      exact ⟨a, hs, L.ownW oa, new k⟩
    · rw [g, if_neg h] at e
      obtain ⟨b, e1, w, r⟩ := L.own j x e
      refine ⟨b, e1, w, r.kp k fun z => ?_⟩
      subst z
      exact h (L.inj j i b x d e hi e1 hs)
  · obtain ⟨x', f1⟩ := own j x e1
    obtain ⟨y', f2⟩ := own j' y e2
    exact L.inj j j' b x' y' f1 f2
  · rw [upd_ne (fun z : b = a => n (by rw [z]; exact oa))]; exact e
  · obtain ⟨j, x, e, q⟩ := z
    obtain ⟨y, f⟩ := own j x e
    exact ⟨j, y, f, q⟩
  · by_cases h : j = i
    · subst h; exact ⟨_, by rw [g, if_pos rfl]⟩
    · exact ⟨x, by rw [g, if_neg h]; exact e⟩
  · by_cases h : b = a
    · subst h; rw [upd_same]; exact (fun z => nomatch z)
    · rw [upd_ne h]; exact z
/-- slots that a target names -/
def tgHas : Tg → Nat → Prop
  | .var i, j => j = i
  | .nil, _ => False
  | .cons a r, j => tgHas a j ∨ tgHas r j
/-- slots outside T are as they were; those in T are frozen now, or as they were -/
structure Chg (T : Nat → Prop) (σ : L2.St) (ρ : Env) (σ1 : L2.St) (ρ1 : Env) : Prop where
  lenS : σ1.length = σ.length
  lenR : ρ1.length = ρ.length
  out : ∀ j, ¬ T j → σ1[j]? = σ[j]? ∧ eget ρ1 j = eget ρ j
  inn : ∀ j d, eget ρ1 j = some (true, d) → σ1[j]? = σ[j]? ∧ eget ρ j = some (true, d)
theorem Chg.refl {T : Nat → Prop} : Chg T σ ρ σ ρ := ⟨rfl, rfl, fun _ _ => ⟨rfl, rfl⟩, fun _ _ h => ⟨rfl, h⟩⟩
theorem Chg.trans {T : Nat → Prop} {σ2 : L2.St} {ρ2 : Env} (s : Chg T σ ρ σ1 ρ1) (t : Chg T σ1 ρ1 σ2 ρ2) : Chg T σ ρ σ2 ρ2 :=
  ⟨t.lenS.trans s.lenS, t.lenR.trans s.lenR, fun j h => ⟨(t.out j h).1.trans (s.out j h).1, (t.out j h).2.trans (s.out j h).2⟩, fun j d h =>
    let ⟨e1, h1⟩ := t.inn j d h
    let ⟨e2, h2⟩ := s.inn j d h1
    ⟨e1.trans e2, h2⟩⟩
theorem Chg.mono {T T' : Nat → Prop} (s : Chg T σ ρ σ1 ρ1) (h : ∀ j, T j → T' j) : Chg T' σ ρ σ1 ρ1 := ⟨s.lenS, s.lenR, fun j n => s.out j fun z => n (h j z), s.inn⟩
theorem Chg.ownA {T : Nat → Prop} (s : Chg T σ ρ σ1 ρ1) {a : Addr} (h : OwnA σ1 ρ1 a) : OwnA σ ρ a := by
  obtain ⟨i, d, e, q⟩ := h
  obtain ⟨e1, h1⟩ := s.inn i d e
  exact ⟨i, d, h1, by rw [← e1]; exact q⟩
/-- a slot is stored to: a frozen value -/
theorem Rel.store {i : Nat} {d : D} {v : V} (L : Rel P O W H σ ρ) (hi : i < ρ.length) (h : RepV P (Av O W) H d v) : Rel P O W H (σ.set i (some v)) (ρ.set i (some (false, d))) ∧ Chg (fun j => j = i) σ ρ (σ.set i (some v)) (ρ.set i (some (false, d))) := by
  have hs : i < σ.length := by rw [← L.len]; exact hi
  have g : ∀ j, eget (ρ.set i (some (false, d))) j = if j = i then some (false, d) else eget ρ j := fun j => by
    rw [eget_set]
    by_cases h : j = i
    · rw [if_pos ⟨h, hi⟩, if_pos h]
    · rw [if_neg fun z => h z.1, if_neg h]
  have s : ∀ j, j ≠ i → (σ.set i (some v))[j]? = σ[j]? := fun j h => List.getElem?_set_ne (Ne.symm h)
  have ow : ∀ j x, eget (ρ.set i (some (false, d))) j = some (true, x) → j ≠ i ∧ eget ρ j = some (true, x) := fun j x e => by
    rw [g] at e
    by_cases h : j = i
    · rw [if_pos h] at e; cases e
    · rw [if_neg h] at e; exact ⟨h, e⟩
  refine ⟨⟨by simp [L.len], L.wmut, L.oal, L.ow, fun j x e => ?_, fun j x e => ?_, fun j j' b x y e1 e2 f1 f2 => ?_⟩, ⟨by simp, by simp, fun j n => ⟨s j n, by rw [g, if_neg n]⟩, fun j x e => ⟨s j (ow j x e).1, (ow j x e).2⟩⟩⟩
  · by_cases hj : j = i
    · subst hj
      rw [g, if_pos rfl] at e
      cases e
      exact ⟨v, List.getElem?_set_self hs, h⟩
    · rw [g, if_neg hj] at e
      rw [s j hj]
      exact L.fro j x e
  · obtain ⟨n, e⟩ := ow j x e
    rw [s j n]
    exact L.own j x e
  · obtain ⟨n1, e1⟩ := ow j x e1
    obtain ⟨n2, e2⟩ := ow j' y e2
    rw [s j n1] at f1
    rw [s j' n2] at f2
    exact L.inj j j' b x y e1 e2 f1 f2
/-- .. a new thing of its own -/
theorem Rel.storeO {i : Nat} {d : D} {a : Addr} (L : Rel P O W H σ ρ) (hi : i < ρ.length) (w : W a) (n : ¬ OwnA σ ρ a) (h : OwnV P (Av O W) H d a) :
    Rel P O W H (σ.set i (some (.ref a))) (ρ.set i (some (true, d))) ∧ (∀ b, OwnA (σ.set i (some (.ref a))) (ρ.set i (some (true, d))) b → OwnA σ ρ b ∨ b = a) ∧
      (∀ j, j ≠ i → (σ.set i (some (V.ref a)))[j]? = σ[j]? ∧ eget (ρ.set i (some (true, d))) j = eget ρ j) := by
  have hs : i < σ.length := by rw [← L.len]; exact hi
  have g : ∀ j, eget (ρ.set i (some (true, d))) j = if j = i then some (true, d) else eget ρ j := fun j => by
    rw [eget_set]
    by_cases h : j = i
    · rw [if_pos ⟨h, hi⟩, if_pos h]
    · rw [if_neg fun z => h z.1, if_neg h]
  have s : ∀ j, j ≠ i → (σ.set i (some (V.ref a)))[j]? = σ[j]? := fun j h => List.getElem?_set_ne (Ne.symm h)
  refine ⟨⟨by simp [L.len], L.wmut, L.oal, L.ow, fun j x e => ?_, fun j x e => ?_, fun j j' b x y e1 e2 f1 f2 => ?_⟩, fun b hb => ?_, fun j hj => ⟨s j hj, by rw [g, if_neg hj]⟩⟩
  · by_cases hj : j = i
    · rw [g, if_pos hj] at e; cases e
    · rw [g, if_neg hj] at e
      rw [s j hj]
      exact L.fro j x e
  · by_cases hj : j = i
    · subst hj
      rw [g, if_pos rfl] at e
      cases e
      exact ⟨a, List.getElem?_set_self hs, w, h⟩
    · rw [g, if_neg hj] at e
      rw [s j hj]
      exact L.own j x e
  · by_cases hj : j = i
    · by_cases hj' : j' = i
      · rw [hj, hj']
      · subst hj
        rw [List.getElem?_set_self hs] at f1
        cases f1
        rw [g, if_neg hj'] at e2
        rw [s j' hj'] at f2
        exact absurd ⟨j', y, e2, f2⟩ n
    · by_cases hj' : j' = i
      · subst hj'
        rw [List.getElem?_set_self hs] at f2
        cases f2
        rw [g, if_neg hj] at e1
        rw [s j hj] at f1
        exact absurd ⟨j, x, e1, f1⟩ n
      · rw [g, if_neg hj] at e1
        rw [g, if_neg hj'] at e2
        rw [s j hj] at f1
        rw [s j' hj'] at f2
        exact L.inj j j' b x y e1 e2 f1 f2
  · obtain ⟨j, x, e, q⟩ := hb
    by_cases hj : j = i
    · subst hj
      rw [List.getElem?_set_self hs] at q
      cases q
      exact .inr rfl
    · rw [g, if_neg hj] at e
      rw [s j hj] at q
      exact .inl ⟨j, x, e, q⟩
theorem tgLen : ∀ {tg : Tg} {ds : List D} {ρ ρ1 : Env}, setTgs tg ds ρ = some ρ1 → ds.length = gLen tg
  | .var _, ds, _, _, e => by cases ds <;> cases e
  | .nil, ds, _, _, e => by cases ds <;> first | rfl | cases e
  | .cons a r, ds, ρ, ρ1, e => by
    cases ds with
    | nil => cases e
    | cons d ds =>
      have e : ((setTg a d ρ).bind fun ρ1 => setTgs r ds ρ1) = some ρ1 := e
      cases q1 : setTg a d ρ with
      | none => rw [q1] at e; cases e
      | some ρ2 =>
        rw [q1] at e
        rw [List.length_cons, tgLen (tg := r) (ds := ds) e]
        rfl
mutual
theorem tg_ok : ∀ {tg : Tg} {d : D} {v : V} {σ : L2.St} {ρ ρ1 : Env} {Qg : L2.St → Hp → Prop}, Rel P O W H σ ρ → RepV P (Av O W) H d v → setTg tg d ρ = some ρ1 →
    (∀ σ1, Rel P O W H σ1 ρ1 → Chg (tgHas tg) σ ρ σ1 ρ1 → Qg σ1 H) → tG P.K tg v σ H Qg
  | .var i, d, v, σ, ρ, ρ1, Qg, L, h, e, q => by
    unfold setTg at e
    split at e
    · rename_i hi
      cases e
      obtain ⟨L1, c1⟩ := L.store hi h
      exact q _ L1 c1
    · cases e
  | .nil, d, v, σ, ρ, ρ1, Qg, L, h, e, q => by
    cases d with
    | tup l =>
      cases l with
      | nil =>
        cases e
        obtain ⟨a, vs, rfl, ha, _, hr⟩ := repTup h.repB
        unfold RepVs at hr
        subst hr
        exact ⟨a, [], rfl, ha.sqT, rfl, rfl, q σ L .refl⟩
      | cons _ _ => cases e
    | _ => cases e
  | .cons a r, d, v, σ, ρ, ρ1, Qg, L, h, e, q => by
    cases d with
    | tup l =>
      cases l with
      | nil => cases e
      | cons d ds =>
        obtain ⟨p, vs, rfl, ha, _, hr⟩ := repTup h.repB
        have e : ((setTg a d ρ).bind fun ρ1 => setTgs r ds ρ1) = some ρ1 := e
        cases q1 : setTg a d ρ with
        | none => rw [q1] at e; cases e
        | some ρ2 =>
          rw [q1] at e
          have e : setTgs r ds ρ2 = some ρ1 := e
          obtain ⟨u, us, rfl, h1, h2⟩ := hr.uncons
          refine ⟨p, u :: us, rfl, ha.sqT, ?_, u, us, rfl, tg_ok L h1 q1 fun σ2 L2' c2 => tgs_ok L2' h2 e fun σ3 L3 c3 => q σ3 L3 ((c2.mono fun j z => .inl z).trans (c3.mono fun j z => .inr z))⟩
          rw [List.length_cons, ← h2.length, tgLen e]
    | _ => cases e
theorem tgs_ok : ∀ {tg : Tg} {ds : List D} {vs : List V} {σ : L2.St} {ρ ρ1 : Env} {Qg : L2.St → Hp → Prop}, Rel P O W H σ ρ → RepVs P (Av O W) H ds vs → setTgs tg ds ρ = some ρ1 →
    (∀ σ1, Rel P O W H σ1 ρ1 → Chg (tgHas tg) σ ρ σ1 ρ1 → Qg σ1 H) → tGs P.K tg vs σ H Qg
  | .var _, ds, _, _, _, _, _, _, _, e, _ => by cases ds <;> cases e
  | .nil, ds, vs, σ, ρ, ρ1, Qg, L, h, e, q => by
    cases ds with
    | nil =>
      cases e
      unfold RepVs at h
      exact ⟨h, q σ L .refl⟩
    | cons _ _ => cases e
  | .cons a r, ds, vs, σ, ρ, ρ1, Qg, L, h, e, q => by
    cases ds with
    | nil => cases e
    | cons d ds =>
      have e : ((setTg a d ρ).bind fun ρ1 => setTgs r ds ρ1) = some ρ1 := e
      cases q1 : setTg a d ρ with
      | none => rw [q1] at e; cases e
      | some ρ2 =>
        rw [q1] at e
        have e : setTgs r ds ρ2 = some ρ1 := e
        obtain ⟨u, us, rfl, h1, h2⟩ := h.uncons
        exact ⟨u, us, rfl, tg_ok L h1 q1 fun σ2 L2' c2 => tgs_ok L2' h2 e fun σ3 L3 c3 => q σ3 L3 ((c2.mono fun j z => .inl z).trans (c3.mono fun j z => .inr z))⟩
end
end
end Mi

/-! MiD3c -/
set_option Elab.async false
set_option linter.all false
set_option maxRecDepth 100000
set_option maxHeartbeats 4000000
/-! MiD3c: walks and comprehensions. -/
namespace Mi
open PySem PySem.Spec PyProof.Rows L2
def YOk (P : TP) (A : AP) (H H2 : Hp) (x : V) (H3 : Hp) : Itm → Prop
  | .one d => H3 = H2 ∧ ∀ A2 : AP, (∀ a, A2 a → A a ∨ H a = none) → RepV P A2 H2 d x
  | .two d e => ∃ p u v, x = .ref p ∧ H2 p = none ∧ H3 = upd H2 p (.tup [u, v]) ∧ ∀ A2 : AP, (∀ a, A2 a → A a ∨ H a = none) → RepV P A2 H2 d u ∧ RepV P A2 H2 e v
/-- all but what is owned, and some changing things that are avoided, stay -/
def Stays (O : AP) (σ : L2.St) (ρ : Env) (H H2 : Hp) : Prop := ∃ B : AP, (∀ a, B a → O a ∧ ∃ o, H a = some o ∧ isMut o = true) ∧ ∀ a o, H a = some o → ¬ OwnA σ ρ a → ¬ B a → H2 a = some o
theorem Stays.of {O : AP} {σ : L2.St} {ρ : Env} {H H2 : Hp} (h : ∀ a o, H a = some o → ¬ OwnA σ ρ a → H2 a = some o) : Stays O σ ρ H H2 := ⟨fun _ => False, fun _ z => z.elim, fun a o e n _ => h a o e n⟩
structure WOk (P : TP) (O : AP) (σ : L2.St) (ρ : Env) (W : AP) (H : Hp) (J : L2.It) (its : List Itm) : Prop where
  len : its.length ≤ line
  ex : ∃ (G : Hp → Prop) (Y : Nat → Hp → V → Hp → Prop), Walk J its.length G Y ∧ (∀ H2, Stays O σ ρ H H2 → G H2) ∧
    ∀ i H2 x H3 it, its[i]? = some it → Stays O σ ρ H H2 → Y i H2 x H3 → YOk P (Av O W) H H2 x H3 it
section
variable {P : TP} {O W W0 W1 A : AP} {H H0 H1 : Hp} {σ σ1 : L2.St} {ρ ρ0 ρ1 : Env} {r : R} {Q : VK}
theorem Rel.kpS (L : Rel P O W H σ ρ) {H2 : Hp} {A2 : AP} (s : Stays O σ ρ H H2) (h : ∀ a, A2 a → Av O W a ∨ H a = none) : Kp (fun a => OwnA σ ρ a ∨ s.choose a) (Av O W) A2 H H2 :=
  ⟨fun a o e n => s.choose_spec.2 a o e (fun z => n (.inl z)) fun z => n (.inr z), fun a z => z.elim (fun z => L.wmut a (L.ownW z)) fun z => (s.choose_spec.1 a z).2, fun a z => z.elim (fun z => .inr (L.ownW z)) fun z => .inl (s.choose_spec.1 a z).1, h⟩
theorem Stays.at {H2 : Hp} (s : Stays O σ ρ H H2) {a : Addr} {o : HO} (e : H a = some o) (n : ¬ OwnA σ ρ a) (no : ¬ O a) : H2 a = some o := let ⟨_, h1, h2⟩ := s; h2 a o e n fun z => no (h1 a z).1
theorem wok_seq {l : List D} {vs : List V} {a : Addr} (L : Rel P O W H σ ρ) (hl : l.length ≤ line) (hr : RepVs P (Av O W) H l vs) (ha : (H a = some (.lst vs) ∧ ¬ Av O W a) ∨ TupAt P.K H a vs) :
    (((∃ xs, SqL P.K H a xs) ∧ WOk P O σ ρ W H (Itl P.K a) (l.map .one)) ∨ ((∃ xs, SqT P.K H a xs) ∧ WOk P O σ ρ W H (Itt P.K a) (l.map .one))) := by
  have el : (l.map Itm.one).length = vs.length := by rw [List.length_map]; exact hr.length
  have yok : ∀ i H2 x H3 it, (l.map Itm.one)[i]? = some it → Stays O σ ρ H H2 → YAt vs i H2 x H3 → YOk P (Av O W) H H2 x H3 it := fun i H2 x H3 it e s y => by
    rw [List.getElem?_map] at e
    cases q : l[i]? with
    | none => rw [q] at e; cases e
    | some d =>
      rw [q] at e; cases e
      obtain ⟨v, hv, rv⟩ := hr.get q
      have hx : x = v := by
        have := y.2
        rw [hv] at this
        exact (Option.some.inj this).symm
      subst hx
      exact ⟨y.1, fun A2 h2 => rv.kp (L.kpS s h2)⟩
  rcases ha with ⟨ha, na⟩ | ha
  · refine .inl ⟨⟨vs, .inl (.inl ha)⟩, by rw [List.length_map]; exact hl, fun H2 => SqL P.K H2 a vs, YAt vs, by rw [el]; exact walk_list, fun H2 s => .inl (.inl (s.at ha (fun z => na (.inr (L.ownW z))) fun z => na (.inl z))), yok⟩
  · refine .inr ⟨⟨vs, ha.sqT⟩, by rw [List.length_map]; exact hl, fun H2 => SqT P.K H2 a vs, YAt vs, by rw [el]; exact walk_tup, fun H2 s => ((L.kpS s fun a z => .inl z).tupAt ha).sqT, yok⟩
theorem wok_range {lo : Int} {n : Nat} (hn : n ≤ line) : WOk P O σ ρ W H (Itr lo n) (((List.range n).map fun (i : Nat) => D.int (lo + i)).map .one) := by
  have el : (((List.range n).map fun (i : Nat) => D.int (lo + i)).map Itm.one).length = n := by simp
  refine ⟨by rw [el]; exact hn, fun _ => True, YFn fun i => .int (lo + i), by rw [el]; exact walk_range, fun _ _ => trivial, fun i H2 x H3 it e s y => ?_⟩
  rw [List.getElem?_map, List.getElem?_map] at e
  cases q : (List.range n)[i]? with
  | none => rw [q] at e; cases e
  | some k =>
    rw [q] at e; cases e
    have hk : k = i := by
      rw [List.getElem?_range (by have := (List.getElem?_eq_some_iff.mp q).1; simpa using this)] at q
      exact (Option.some.inj q).symm
    subst hk
    refine ⟨y.1, fun A2 _ => ?_⟩
    unfold RepV
    exact y.2
theorem walk_zipG {K : PySem.W.Frag} {t u : Bool} {a b : Addr} {xs ys : List V} {n : Nat} (hn : n = min xs.length ys.length) : Walk (Zg.ItG K t u a b) n (fun H => Zg.SqOf K t H a xs ∧ Zg.SqOf K u H b ys) (YPair (fun i => xs[i]?) (fun i => ys[i]?)) := by
  subst hn
  refine ⟨fun i _ hi q => ?_, fun _ q => ⟨xs, ys, q.1, q.2, by omega⟩, fun i H v H' _ q y => ?_⟩
  · have h1 : i < xs.length := by omega
    have h2 : i < ys.length := by omega
    exact ⟨xs, ys, xs[i], ys[i], q.1, q.2, by simp [h1], by simp [h2]⟩
  · obtain ⟨T, x, z, h1, h2, h3, h4, h5⟩ := y
    exact ⟨T, x, z, h1, h2, h3, h4 xs q.1, h5 ys q.2⟩
/-- a list or a tuple of data, as a walk takes it -/
theorem seq_of (L : Rel P O W H σ ρ) {d : D} {l : List D} {v : V} (e : itemsD d = some l) (r : RepV P (Av O W) H d v) : ∃ p vs t, v = .ref p ∧ l.length ≤ line ∧ RepVs P (Av O W) H l vs ∧ Zg.SqOf P.K t H p vs ∧ ∀ H3, Stays O σ ρ H H3 → Zg.SqOf P.K t H3 p vs := by
  cases d with
  | lst x =>
    cases e
    unfold RepV at r
    obtain ⟨p, vs, rfl, hp, np, hl, hr⟩ := r
    exact ⟨p, vs, false, rfl, hl, hr, .inl (.inl hp), fun H3 s => .inl (.inl (s.at hp (fun z => np (.inr (L.ownW z))) fun z => np (.inl z)))⟩
  | tup x =>
    cases e
    unfold RepV at r
    obtain ⟨p, vs, rfl, hp, hl, hr⟩ := r
    exact ⟨p, vs, true, rfl, hl, hr, hp.sqT, fun H3 s => ((L.kpS s fun a z => .inl z).tupAt hp).sqT⟩
  | _ => cases e
theorem zip_yok {l m : List D} {vs us : List V} (L : Rel P O W H σ ρ) (hr : RepVs P (Av O W) H l vs) (hq : RepVs P (Av O W) H m us) :
    ∀ i H2 x H3 it, (List.zipWith Itm.two l m)[i]? = some it → Stays O σ ρ H H2 → YPair (fun i => vs[i]?) (fun i => us[i]?) i H2 x H3 → YOk P (Av O W) H H2 x H3 it := fun i H2 x H3 it e s y => by
  rw [List.getElem?_zipWith] at e
  cases q1 : l[i]? with
  | none => rw [q1] at e; simp at e
  | some d =>
    cases q2 : m[i]? with
    | none => rw [q1, q2] at e; simp at e
    | some d' =>
      rw [q1, q2] at e
      simp at e
      subst e
      obtain ⟨v, hv, rv⟩ := hr.get q1
      obtain ⟨u, hu, ru⟩ := hq.get q2
      obtain ⟨T, x1, x2, h1, h2, h3, h4, h5⟩ := y
      have e1 : x1 = v := Option.some.inj (h4.symm.trans hv)
      have e2 : x2 = u := Option.some.inj (h5.symm.trans hu)
      subst e1 e2
      exact ⟨T, x1, x2, h1, h2, h3, fun A2 h => ⟨rv.kp (L.kpS s h), ru.kp (L.kpS s h)⟩⟩
theorem enumFrom_get : ∀ {l : List D} {k i : Nat}, (enumFrom k l)[i]? = (l[i]?).map fun d => Itm.two (.int (k + i : Nat)) d
  | [], _, _ => by simp [enumFrom]
  | d :: ds, k, 0 => by simp [enumFrom]
  | d :: ds, k, i + 1 => by
    rw [enumFrom, List.getElem?_cons_succ, List.getElem?_cons_succ, enumFrom_get]
    have : k + 1 + i = k + (i + 1) := by omega
    rw [this]
theorem enumFrom_len : ∀ {l : List D} {k : Nat}, (enumFrom k l).length = l.length
  | [], _ => rfl
  | d :: ds, k => by rw [enumFrom, List.length_cons, List.length_cons, enumFrom_len]
theorem wok_enum {l : List D} {vs : List V} {a : Addr} (L : Rel P O W H σ ρ) (hl : l.length ≤ line) (hr : RepVs P (Av O W) H l vs) (ha : H a = some (.lst vs)) (na : ¬ Av O W a) : WOk P O σ ρ W H (Ite P.K a) (enumFrom 0 l) := by
  refine ⟨by rw [enumFrom_len]; exact hl, fun H2 => SqL P.K H2 a vs, _, by rw [enumFrom_len, hr.length]; exact walk_enum, fun H2 s => .inl (.inl (s.at ha (fun z => na (.inr (L.ownW z))) fun z => na (.inl z))), fun i H2 x H3 it e s y => ?_⟩
  rw [enumFrom_get] at e
  cases q : l[i]? with
  | none => rw [q] at e; cases e
  | some d =>
    rw [q] at e; cases e
    obtain ⟨v, hv, rv⟩ := hr.get q
    obtain ⟨T, x1, x2, h1, h2, h3, h4, h5⟩ := y
    have e1 : x1 = .int i := (Option.some.inj h4).symm
    have e2 : x2 = v := Option.some.inj (h5.symm.trans hv)
    subst e1 e2
    refine ⟨T, .int i, x2, h1, h2, h3, fun A2 h => ⟨?_, rv.kp (L.kpS s h)⟩⟩
    unfold RepV
    simp
theorem wok_enumT {l : List D} {vs : List V} {a : Addr} (L : Rel P O W H σ ρ) (hl : l.length ≤ line) (hr : RepVs P (Av O W) H l vs) (ha : TupAt P.K H a vs) : WOk P O σ ρ W H (IteT P.K a) (enumFrom 0 l) := by
  refine ⟨by rw [enumFrom_len]; exact hl, fun H2 => SqT P.K H2 a vs, _, by rw [enumFrom_len, hr.length]; exact walk_enumT, fun H2 s => ((L.kpS s fun a z => .inl z).tupAt ha).sqT, fun i H2 x H3 it e s y => ?_⟩
  rw [enumFrom_get] at e
  cases q : l[i]? with
  | none => rw [q] at e; cases e
  | some d =>
    rw [q] at e; cases e
    obtain ⟨v, hv, rv⟩ := hr.get q
    obtain ⟨T, x1, x2, h1, h2, h3, h4, h5⟩ := y
    have e1 : x1 = .int i := (Option.some.inj h4).symm
    have e2 : x2 = v := Option.some.inj (h5.symm.trans hv)
    subst e1 e2
    refine ⟨T, .int i, x2, h1, h2, h3, fun A2 h => ⟨?_, rv.kp (L.kpS s h)⟩⟩
    unfold RepV
    simp
/-- an item goes to its target -/
theorem itm_ok {tg : Tg} {it : Itm} {x : V} {H2 H3 : Hp} {B : AP} {Hs : Hp} {Qg : L2.St → Hp → Prop} (L : Rel P O W H2 σ ρ) (y : YOk P B Hs H2 x H3 it) (hb : ∀ a, Av O W a → B a ∨ Hs a = none) (e : setItm tg it ρ = some ρ1)
    (q : ∀ σ1, Rel P O W H3 σ1 ρ1 → Chg (tgHas tg) σ ρ σ1 ρ1 → Qg σ1 H3) : tG P.K tg x σ H3 Qg := by
  cases it with
  | one d =>
    obtain ⟨rfl, y⟩ := y
    exact tg_ok L (y _ hb) e q
  | two d d' =>
    obtain ⟨p, u, v, rfl, hp, rfl, y⟩ := y
    obtain ⟨y1, y2⟩ := y _ hb
    cases tg with
    | var i => cases e
    | nil => cases e
    | cons a r =>
      cases r with
      | var i => cases e
      | nil => cases e
      | cons b r =>
        cases r with
        | var i => cases e
        | cons _ _ => cases e
        | nil =>
          have e : (setTg a d ρ).bind (setTg b d') = some ρ1 := e
          cases q1 : setTg a d ρ with
          | none => rw [q1] at e; cases e
          | some ρ2 =>
            rw [q1] at e
            have e : setTg b d' ρ2 = some ρ1 := e
            obtain ⟨L1, s1⟩ := L.laid (o := .tup [u, v]) hp
            have k := kp_same (A := Av O W) (o := .tup [u, v]) hp
            refine ⟨p, [u, v], rfl, .inl (.inl upd_same), rfl, u, [v], rfl, tg_ok L1 (y1.kp k) q1 fun σ2 L2' c2 => ⟨v, [], rfl, tg_ok L2' (y2.kp k) e fun σ3 L3 c3 => ⟨rfl, ?_⟩⟩⟩
            exact q σ3 L3 ((c2.mono fun j z => .inl z).trans (c3.mono fun j z => .inr (.inl z)))
/-! ### a block's own slots -/
theorem wipeE_len : ∀ vs : List Nat, (wipeE ρ vs).length = ρ.length
  | [] => rfl
  | v :: vs => by unfold wipeE; rw [List.length_set, wipeE_len vs]
theorem wipeE_get : ∀ (vs : List Nat) (i : Nat), eget (wipeE ρ vs) i = if i ∈ vs then none else eget ρ i
  | [], i => by simp [wipeE]
  | v :: vs, i => by
    unfold wipeE
    rw [eget_set, wipeE_get vs]
    by_cases h : i = v
    · subst h
      by_cases hl : i < ρ.length
      · rw [if_pos ⟨rfl, by rw [wipeE_len]; exact hl⟩, if_pos List.mem_cons_self]
      · rw [if_neg fun z => hl (by rw [← wipeE_len (ρ := ρ) vs]; exact z.2), if_pos List.mem_cons_self]
        split
        · rfl
        · unfold eget
          rw [List.getElem?_eq_none (by omega)]
          rfl
    · rw [if_neg fun z => h z.1]
      by_cases hv : i ∈ vs
      · rw [if_pos hv, if_pos (List.mem_cons_of_mem _ hv)]
      · rw [if_neg hv, if_neg fun z => (List.mem_cons.mp z).elim h hv]
theorem back_len : ∀ (vs : List Nat), (back ρ ρ1 vs).length = ρ1.length
  | [] => rfl
  | v :: vs => by unfold back; rw [List.length_set, back_len vs]
theorem back_get (hl : ρ1.length = ρ.length) : ∀ (vs : List Nat) (i : Nat), eget (back ρ ρ1 vs) i = if i ∈ vs then eget ρ i else eget ρ1 i
  | [], i => by simp [back]
  | v :: vs, i => by
    unfold back
    rw [eget_set, back_get hl vs]
    by_cases h : i = v
    · subst h
      by_cases hi : i < ρ.length
      · rw [if_pos ⟨rfl, by rw [back_len, hl]; exact hi⟩, if_pos List.mem_cons_self]
      · rw [if_neg fun z => hi (by rw [← hl, ← back_len (ρ := ρ) vs]; exact z.2), if_pos List.mem_cons_self]
        split
        · rfl
        · unfold eget
          rw [List.getElem?_eq_none (by omega), List.getElem?_eq_none (by omega)]
    · rw [if_neg fun z => h z.1]
      by_cases hv : i ∈ vs
      · rw [if_pos hv, if_pos (List.mem_cons_of_mem _ hv)]
      · rw [if_neg hv, if_neg fun z => (List.mem_cons.mp z).elim h hv]
theorem Rel.wipe (L : Rel P O W H σ ρ) (vs : List Nat) : Rel P O W H (L2.wipe σ vs) (wipeE ρ vs) := by
  have g : ∀ i x, eget (wipeE ρ vs) i = some x → i ∉ vs ∧ eget ρ i = some x := fun i x e => by
    rw [wipeE_get] at e
    split at e
    · cases e
    · exact ⟨by assumption, e⟩
  refine ⟨by rw [wipeE_len, wipe_length]; exact L.len, L.wmut, L.oal, L.ow, fun i d e => ?_, fun i d e => ?_, fun i j a x y e1 e2 f1 f2 => ?_⟩
  · obtain ⟨n, e⟩ := g i _ e
    rw [wipe_out n]
    exact L.fro i d e
  · obtain ⟨n, e⟩ := g i _ e
    rw [wipe_out n]
    exact L.own i d e
  · obtain ⟨n1, e1⟩ := g i _ e1
    obtain ⟨n2, e2⟩ := g j _ e2
    rw [wipe_out n1] at f1
    rw [wipe_out n2] at f2
    exact L.inj i j a x y e1 e2 f1 f2
/-- behind a block's turn -/
theorem Rel.back {vs : List Nat} {T : Nat → Prop} {σ2 : L2.St} {ρ3 ρ6 : Env} {W6 : AP} {H4 : Hp} (L : Rel P O W H σ ρ) (Lw : Rel P O W H σ2 ρ3) (c : Chg T (L2.wipe σ vs) (wipeE ρ vs) σ2 ρ3) (ht : ∀ j, T j → j ∈ vs)
    (Li : Rel P O W6 H4 σ2 ρ6) (st : Step σ2 ρ3 W H ρ6 W6 H4) : Rel P O W6 H4 σ (back ρ ρ6 vs) ∧ Step σ ρ W H (back ρ ρ6 vs) W6 H4 := by
  have len6 : ρ6.length = ρ.length := by
    rw [Li.len, c.lenS, wipe_length, L.len]
  have g := back_get (ρ := ρ) (ρ1 := ρ6) len6 vs
  have s2 : ∀ i, i ∉ vs → σ2[i]? = σ[i]? ∧ eget ρ3 i = eget ρ i := fun i n => by
    obtain ⟨e1, e2⟩ := c.out i fun z => n (ht i z)
    rw [wipe_out n] at e1
    rw [wipeE_get, if_neg n] at e2
    exact ⟨e1, e2⟩
  have own3 : ∀ a, OwnA σ2 ρ3 a → ∃ i d, i ∉ vs ∧ eget ρ i = some (true, d) ∧ σ[i]? = some (some (.ref a)) := fun a z => by
    obtain ⟨i, d, e, q⟩ := c.ownA z
    rw [wipeE_get] at e
    by_cases n : i ∈ vs
    · rw [if_pos n] at e; cases e
    · rw [if_neg n] at e
      rw [wipe_out n] at q
      exact ⟨i, d, n, e, q⟩
  have own3' : ∀ a, OwnA σ2 ρ3 a → OwnA σ ρ a := fun a z => let ⟨i, d, _, e, q⟩ := own3 a z; ⟨i, d, e, q⟩
  have k := st.kp Lw
  refine ⟨⟨by rw [back_len, len6]; exact L.len, Li.wmut, Li.oal, Li.ow, fun i d e => ?_, fun i d e => ?_, fun i j a x y e1 e2 f1 f2 => ?_⟩, ⟨fun a o e n => st.keep a o e fun z => n (own3' a z), st.new, fun a w n => st.stay a w fun z => n (own3' a z), fun a z => ?_, fun i x e => ?_, st.alive⟩⟩
  · rw [g] at e
    by_cases n : i ∈ vs
    · rw [if_pos n] at e
      obtain ⟨v, e1, rv⟩ := L.fro i d e
      exact ⟨v, e1, rv.kp k⟩
    · rw [if_neg n] at e
      rw [← (s2 i n).1]
      exact Li.fro i d e
  · rw [g] at e
    by_cases n : i ∈ vs
    · rw [if_pos n] at e
      obtain ⟨a, e1, w, ho⟩ := L.own i d e
      have na : ¬ OwnA σ2 ρ3 a := fun z => by
        obtain ⟨j, d', nj, e', q'⟩ := own3 a z
        exact nj (L.inj i j a d d' e e' e1 q' ▸ n)
      exact ⟨a, e1, st.stay a w na, ho.kp k na⟩
    · rw [if_neg n] at e
      rw [← (s2 i n).1]
      exact Li.own i d e
  · rw [g] at e1 e2
    have mix : ∀ {i j : Nat} {x y : D}, i ∈ vs → j ∉ vs → eget ρ i = some (true, x) → eget ρ6 j = some (true, y) → σ[i]? = some (some (.ref a)) → σ[j]? = some (some (.ref a)) → False := fun {i j x y} n1 n2 e1 e2 f1 f2 => by
      have z : OwnA σ2 ρ3 a := st.own a ⟨j, y, e2, by rw [(s2 j n2).1]; exact f2⟩
      obtain ⟨k, d', nk, e', q'⟩ := own3 a z
      exact nk (L.inj i k a x d' e1 e' f1 q' ▸ n1)
    by_cases n1 : i ∈ vs
    · by_cases n2 : j ∈ vs
      · rw [if_pos n1] at e1
        rw [if_pos n2] at e2
        exact L.inj i j a x y e1 e2 f1 f2
      · rw [if_pos n1] at e1
        rw [if_neg n2] at e2
        exact (mix n1 n2 e1 e2 f1 f2).elim
    · by_cases n2 : j ∈ vs
      · rw [if_neg n1] at e1
        rw [if_pos n2] at e2
        exact (mix n2 n1 e2 e1 f2 f1).elim
      · rw [if_neg n1] at e1
        rw [if_neg n2] at e2
        exact Li.inj i j a x y e1 e2 (by rw [(s2 i n1).1]; exact f1) (by rw [(s2 j n2).1]; exact f2)
  · obtain ⟨i, d, e, q⟩ := z
    rw [g] at e
    by_cases n : i ∈ vs
    · rw [if_pos n] at e; exact ⟨i, d, e, q⟩
    · rw [if_neg n] at e
      exact own3' a (st.own a ⟨i, d, e, by rw [(s2 i n).1]; exact q⟩)
  · by_cases n : i ∈ vs
    · exact ⟨x, by rw [g, if_pos n]; exact e⟩
    · obtain ⟨y, e2⟩ := st.there i x (by rw [(s2 i n).2]; exact e)
      exact ⟨y, by rw [g, if_neg n]; exact e2⟩
/-- what nobody of ours holds is written -/
theorem Rel.writeO {p : Addr} {o u : HO} (L : Rel P O W H σ ρ) (hp : O p) (hu : H p = some u) (hm : isMut u = true) : Rel P O W (upd H p o) σ ρ ∧ Kp (fun b => b = p) (Av O W) (Av O W) H (upd H p o) := by
  have k : Kp (fun b => b = p) (Av O W) (Av O W) H (upd H p o) := ⟨fun b o e n => by rw [upd_ne n]; exact e, fun b z => z ▸ ⟨u, hu, hm⟩, fun b z => z ▸ .inl hp, fun b z => .inl z⟩
  have nw : ∀ a, W a → a ≠ p := fun a w z => L.ow a w (z ▸ hp)
  refine ⟨⟨L.len, fun a w => ?_, fun a z => ?_, L.ow, fun i d e => ?_, fun i d e => ?_, L.inj⟩, k⟩
  · obtain ⟨x, e, m⟩ := L.wmut a w
    exact ⟨x, by rw [upd_ne (nw a w)]; exact e, m⟩
  · by_cases h : a = p
    · subst h; rw [upd_same]; exact (fun z => nomatch z)
    · rw [upd_ne h]; exact L.oal a z
  · obtain ⟨v, e1, rv⟩ := L.fro i d e
    exact ⟨v, e1, rv.kp k⟩
  · obtain ⟨a, e1, w, ho⟩ := L.own i d e
    exact ⟨a, e1, w, ho.kp k (nw a w)⟩
theorem Step.writeO {p : Addr} {o : HO} (s : Step σ ρ0 W0 H0 ρ W H) (hp : H0 p = none) : Step σ ρ0 W0 H0 ρ W (upd H p o) :=
  ⟨fun a u e n => by rw [upd_ne (ne_of_none e hp)]; exact s.keep a u e n, s.new, s.stay, s.own, s.there, fun a z => by
    by_cases h : a = p
    · subst h; rw [upd_same]; exact (fun z => nomatch z)
    · rw [upd_ne h]; exact s.alive a z⟩
end

/-! ### what is to be shown of each part -/
section
variable (P : TP) (call : Nat → Sp) (Gm : Cfg) (Φ : Phi)
def GoodE (e : E) : Prop := ∀ (O W : AP) (H : Hp) (σ : L2.St) (ρ ρ1 : Env) (r : R), Rel P O W H σ ρ → evE Gm Φ e ρ = some (r, ρ1) → ∀ Q : VK, Cont P O σ ρ W H ρ1 r Q → tE P call e σ H Q
def GoodT (c : T) : Prop := ∀ (O W : AP) (H : Hp) (σ : L2.St) (ρ ρ1 : Env) (k : Bool), Rel P O W H σ ρ → evT Gm Φ c ρ = some (k, ρ1) → ∀ Q : Bool → Hp → Prop,
  (∀ H1 W1, Rel P O W1 H1 σ ρ1 → Step σ ρ W H ρ1 W1 H1 → Q k H1) → tT P call c σ H Q
def GoodEs (es : Es) : Prop := ∀ (O W : AP) (H : Hp) (σ : L2.St) (ρ ρ1 : Env) (rs : List R), Rel P O W H σ ρ → evEs Gm Φ es ρ = some (rs, ρ1) → ∀ Q : List V → Hp → Prop,
  (∀ vs H1 W1, Rel P O W1 H1 σ ρ1 → Step σ ρ W H ρ1 W1 H1 → RepRs P O W1 H1 σ ρ1 rs vs → (tmps rs vs).Nodup → (∀ a ∈ tmps rs vs, H a = none) → Q vs H1) → tEs P call es σ H Q
def GoodO (o : Oe) : Prop := ∀ (O W : AP) (H : Hp) (σ : L2.St) (ρ ρ1 : Env) (i : Option Int), Rel P O W H σ ρ → evOe Gm Φ o ρ = some (i, ρ1) → ∀ Q : Option Int → Hp → Prop,
  (∀ H1 W1, Rel P O W1 H1 σ ρ1 → Step σ ρ W H ρ1 W1 H1 → Q i H1) → tO P call o σ H Q
def GoodI (it : It) : Prop := ∀ (O W : AP) (H : Hp) (σ : L2.St) (ρ ρ1 : Env) (its : List Itm), Rel P O W H σ ρ → evIt Gm Φ it ρ = some (its, ρ1) → ∀ R : L2.It → Hp → Prop,
  (∀ J H1 W1, Rel P O W1 H1 σ ρ1 → Step σ ρ W H ρ1 W1 H1 → WOk P O σ ρ1 W1 H1 J its → R J H1) → tIt P call it σ H R
end
end Mi

/-! MiD3d -/
set_option Elab.async false
set_option linter.all false
set_option maxRecDepth 100000
set_option maxHeartbeats 4000000
/-! MiD3d: parts of expressions, one by one. -/
namespace Mi
open PySem PySem.Spec PyProof.Rows L2
theorem bindO_some {α β : Type} {x : Option (α × Env)} {f : α → Env → Option (β × Env)} {y : β × Env} (h : bindO x f = some y) : ∃ a ρ, x = some (a, ρ) ∧ f a ρ = some y := by
  cases x with
  | none => cases h
  | some p => exact ⟨p.1, p.2, rfl, h⟩
section
variable {P : TP} {O W W0 W1 W2 A : AP} {H H0 H1 H2 : Hp} {σ σ1 : L2.St} {ρ ρ0 ρ1 ρ2 : Env} {r : R} {Q : VK}
theorem repVInt {i : Int} {v : V} (h : RepV P A H (.int i) v) : v = .int i := by unfold RepV at h; exact h
theorem repVBl {b : Bool} {v : V} (h : RepV P A H (.bl b) v) : v = .bl b := by unfold RepV at h; exact h
theorem derefs_ok (L : Rel P O W H σ ρ) : ∀ {rs : List R} {vs : List V} {ds : List D}, RepRs P O W H σ ρ rs vs → derefs ρ rs = some ds → ds.length = vs.length ∧ ∀ (i : Nat) d v, ds[i]? = some d → vs[i]? = some v → RepB P (Av O W) H d v
  | [], vs, ds, h, e => by
    have h : vs = [] := h
    subst h
    cases e
    exact ⟨rfl, fun i d v e => by simp at e⟩
  | r :: rs, _, ds, ⟨v, us, e0, h1, h2⟩, e => by
    subst e0
    unfold derefs at e
    cases q1 : deref ρ r with
    | none => rw [q1] at e; cases e
    | some d =>
      cases q2 : derefs ρ rs with
      | none => rw [q1, q2] at e; cases e
      | some ds2 =>
        rw [q1, q2] at e
        cases e
        obtain ⟨l, k⟩ := derefs_ok L h2 q2
        refine ⟨by simp [l], fun i d' v' e1 e2 => ?_⟩
        cases i with
        | zero => cases e1; cases e2; exact h1.deref L q1
        | succ i => exact k i d' v' e1 e2
theorem RepRs.len : ∀ {rs : List R} {vs : List V}, RepRs P O W H σ ρ rs vs → rs.length = vs.length
  | [], vs, h => by have h : vs = [] := h; subst h; rfl
  | r :: rs, _, ⟨v, us, e0, h1, h2⟩ => by subst e0; simp [RepRs.len h2]
theorem RepR.mutAt {a : Addr} {d : D} (L : Rel P O W H σ ρ) (h : RepR P O W H σ ρ (.o d) (.ref a)) : H a ≠ none := by
  obtain ⟨b, e, w, _, _⟩ := h
  cases e
  obtain ⟨o, e, _⟩ := L.wmut _ w
  rw [e]; exact (fun z => nomatch z)
theorem RepRs.mutAt (L : Rel P O W H σ ρ) : ∀ {rs : List R} {vs : List V}, RepRs P O W H σ ρ rs vs → ∀ a ∈ tmps rs vs, H a ≠ none
  | [], vs, h, a, ha => by have h : vs = [] := h; subst h; cases ha
  | r :: rs, _, ⟨v, us, e0, h1, h2⟩, a, ha => by
    subst e0
    cases r with
    | o d =>
      obtain ⟨b, rfl, w, n, q⟩ := h1
      rcases List.mem_cons.mp ha with z | z
      · subst z
        obtain ⟨o, e, _⟩ := L.wmut _ w
        rw [e]; exact (fun z => nomatch z)
      · exact RepRs.mutAt L h2 a z
    | v d => exact RepRs.mutAt L h2 a ha
    | b d => exact RepRs.mutAt L h2 a ha
/-- a block's own slots wiped -/
theorem wipe_in {i : Nat} : ∀ {vs : List Nat}, i ∈ vs → i < σ.length → (L2.wipe σ vs)[i]? = some none
  | v :: vs, h, hl => by
    show ((L2.wipe σ vs).set v none)[i]? = _
    by_cases e : v = i
    · subst e
      rw [List.getElem?_set_self (by rw [wipe_length]; exact hl)]
    · rw [List.getElem?_set_ne e]
      exact wipe_in ((List.mem_cons.mp h).resolve_left fun z => e z.symm) hl
theorem wipe_eq {vs : List Nat} {σ2 : L2.St} (hl : σ2.length = σ.length) (h : ∀ i, i ∉ vs → σ2[i]? = σ[i]?) : L2.wipe σ2 vs = L2.wipe σ vs := by
  refine List.ext_getElem? fun i => ?_
  by_cases hi : i ∈ vs
  · by_cases hn : i < σ.length
    · rw [wipe_in hi hn, wipe_in hi (by rw [hl]; exact hn)]
    · rw [List.getElem?_eq_none (by rw [wipe_length]; omega), List.getElem?_eq_none (by rw [wipe_length]; omega)]
  · rw [wipe_out hi, wipe_out hi, h i hi]
theorem tgIn_has {vs : List Nat} : ∀ {tg : Tg}, tgIn vs tg = true → ∀ j, tgHas tg j → j ∈ vs
  | .var i, h, j, e => by
    have e : j = i := e
    subst e
    simpa [tgIn] using h
  | .nil, _, _, e => e.elim
  | .cons a r, h, j, e => by
    unfold tgIn at h
    rw [Bool.and_eq_true] at h
    exact e.elim (tgIn_has h.1 j) (tgIn_has h.2 j)
/-- something new that all let be -/
theorem Rel.laidO {p : Addr} {o : HO} (L : Rel P O W H σ ρ) (hp : H p = none) : Rel P (fun a => O a ∨ a = p) W (upd H p o) σ ρ ∧ Step σ ρ W H ρ W (upd H p o) := by
  obtain ⟨L1, s1⟩ := L.laid (o := o) hp
  have k : Kp (OwnA σ ρ) (Av O W) (Av (fun a => O a ∨ a = p) W) H (upd H p o) := ⟨s1.keep, fun a h => L.wmut a (L.ownW h), fun a h => .inr (L.ownW h), fun a z => by
    rcases z with (z | z) | z
    · exact .inl (.inl z)
    · exact .inr (z ▸ hp)
    · exact .inl (.inr z)⟩
  have no : ∀ a, W a → a ≠ p := fun a h e => by
    obtain ⟨u, e1, _⟩ := L.wmut a h
    rw [e, hp] at e1; cases e1
  have kk : ∀ a u, H a = some u → (upd H p o) a = some u := fun a u e => by rw [upd_ne (ne_of_none e hp)]; exact e
  refine ⟨⟨L.len, L1.wmut, fun a z => ?_, fun a w z => z.elim (L.ow a w) (no a w), fun i d e => ?_, fun i d e => ?_, L.inj⟩, s1⟩
  · rcases z with z | z
    · exact L1.oal a z
    · subst z; rw [upd_same]; exact (fun z => nomatch z)
  · obtain ⟨v, e1, rv⟩ := L.fro i d e
    exact ⟨v, e1, rv.kp k⟩
  · obtain ⟨a, e1, w, ho⟩ := L.own i d e
    refine ⟨a, e1, w, ?_⟩
    have k' : Kp (fun _ => False) (Av O W) (Av (fun a => O a ∨ a = p) W) H (upd H p o) := ⟨fun a u e _ => kk a u e, fun _ z => z.elim, fun _ z => z.elim, k.av⟩
    exact ho.kp k' fun z => z
/-- what was let be is one's own new thing now -/
theorem Rel.takeO {p : Addr} {o : HO} (L : Rel P (fun a => O a ∨ a = p) W H σ ρ) (hp : H p = some o) (hm : isMut o = true) (no : ¬ O p) : Rel P O (fun a => W a ∨ a = p) H σ ρ ∧
    Kp (fun _ => False) (Av (fun a => O a ∨ a = p) W) (Av O fun a => W a ∨ a = p) H H := by
  have k : Kp (fun _ => False) (Av (fun a => O a ∨ a = p) W) (Av O fun a => W a ∨ a = p) H H := Kp.less fun a z => by
    rcases z with z | z | z
    · exact .inl (.inl z)
    · exact .inr z
    · exact .inl (.inr z)
  refine ⟨⟨L.len, fun a z => ?_, fun a z => L.oal a (.inl z), fun a z => ?_, fun i d e => ?_, fun i d e => ?_, L.inj⟩, k⟩
  · rcases z with z | z
    · exact L.wmut a z
    · exact ⟨o, z ▸ hp, hm⟩
  · rcases z with z | z
    · exact fun q => L.ow a z (.inl q)
    · exact z ▸ no
  · obtain ⟨v, e1, rv⟩ := L.fro i d e
    exact ⟨v, e1, rv.kp k⟩
  · obtain ⟨a, e1, w, ho⟩ := L.own i d e
    exact ⟨a, e1, .inl w, ho.kp k fun z => z⟩
/-- the heap that a walk's item was taken in -/
theorem yok_heap {it : Itm} {x : V} {H3 Hs : Hp} {B : AP} (L : Rel P O W H2 σ ρ) (y : YOk P B Hs H2 x H3 it) : Rel P O W H3 σ ρ ∧ Step σ ρ W H2 ρ W H3 := by
  cases it with
  | one d => obtain ⟨rfl, _⟩ := y; exact ⟨L, .refl⟩
  | two d d' =>
    obtain ⟨p, u, v, _, hp, rfl, _⟩ := y
    exact L.laid hp
end
end Mi

/-! MiD3e -/
set_option Elab.async false
set_option linter.all false
set_option maxRecDepth 100000
set_option maxHeartbeats 4000000
/-! MiD3e: expressions, case by case. -/
namespace Mi
open PySem PySem.Spec PyProof.Rows L2
/-- what the mirror says of names and classes holds of the text -/
structure CfgOk (P : TP) (Gm : Cfg) : Prop where
  glob : ∀ x d, Gm.glob x = some d → ∀ A H, RepV P A H d (P.glob x)
  flds : ∀ C fs, Gm.fields C = some fs → Cls P.K (P.cls C) ∧ ∀ f ∈ fs, NoAttr P.K (P.cls C) f
section
variable {P : TP} {Gm : Cfg} {Φ : Phi}
theorem rrBl {O W : AP} {H : Hp} {σ : L2.St} {ρ : Env} {b : Bool} {v : V} (h : RepR P O W H σ ρ (.v (.bl b)) v) : v = .bl b := repVBl (show RepV P (Av O W) H (.bl b) v from h)
theorem rrInt {O W : AP} {H : Hp} {σ : L2.St} {ρ : Env} {b : Int} {v : V} (h : RepR P O W H σ ρ (.v (.int b)) v) : v = .int b := repVInt (show RepV P (Av O W) H (.int b) v from h)
theorem ge_var {i : Nat} : (GoodE P (spec P Φ) Gm Φ) (.var i) := fun O W H σ ρ ρ1 r L e Q c => by
  unfold evE at e
  cases q : eget ρ i with
  | none => rw [q] at e; cases e
  | some x =>
    obtain ⟨o, d⟩ := x
    rw [q] at e
    cases o with
    | true =>
      cases e
      obtain ⟨a, e1, w, _⟩ := L.own i d q
      exact ⟨_, e1, c _ _ _ L .refl ⟨e1, _, q⟩ fun _ _ e => nomatch e⟩
    | false =>
      cases e
      obtain ⟨v, e1, h⟩ := L.fro i d q
      exact ⟨_, e1, c.val L h⟩
theorem ge_glob {x : Nat} (ok : CfgOk P Gm) : (GoodE P (spec P Φ) Gm Φ) (.glob x) := fun O W H σ ρ ρ1 r L e Q c => by
  unfold evE at e
  cases q : Gm.glob x with
  | none => rw [q] at e; cases e
  | some d => rw [q] at e; cases e; exact c.val L (ok.glob x d q _ _)
theorem ge_cint {i : Int} : (GoodE P (spec P Φ) Gm Φ) (.cint i) := fun O W H σ ρ ρ1 r L e Q c => by
  unfold evE at e; cases e; exact c.val L (by unfold RepV; rfl)
theorem ge_cbl {i : Bool} : (GoodE P (spec P Φ) Gm Φ) (.cbl i) := fun O W H σ ρ ρ1 r L e Q c => by
  unfold evE at e; cases e; exact c.val L (by unfold RepV; rfl)
theorem ge_cnon : (GoodE P (spec P Φ) Gm Φ) .cnon := fun O W H σ ρ ρ1 r L e Q c => by
  unfold evE at e; cases e; exact c.val L (by unfold RepV; rfl)
theorem ge_cstr {i : Str} : (GoodE P (spec P Φ) Gm Φ) (.cstr i) := fun O W H σ ρ ρ1 r L e Q c => by
  unfold evE at e; cases e; exact c.val L (by unfold RepV; rfl)
theorem ge_cty {i : String} : (GoodE P (spec P Φ) Gm Φ) (.cty i) := fun O W H σ ρ ρ1 r L e Q c => by
  unfold evE at e; cases e; exact c.val L (by unfold RepV; rfl)
theorem ge_tup {es : Es} (h : (GoodEs P (spec P Φ) Gm Φ) es) : (GoodE P (spec P Φ) Gm Φ) (.tup es) := fun O W H σ ρ ρ1 r L e Q c => by
  unfold evE at e
  obtain ⟨rs, ρa, ea, e⟩ := bindO_some e
  obtain ⟨ds, ρb, eb, e⟩ := bindO_some e
  split at e
  · rename_i hz
    cases e
    refine h O W H σ ρ ρa rs L ea _ fun vs H1 W1 L1 s1 hr nd fr => ?_
    obtain ⟨W2, L2', l2, hv⟩ := freezes_ok L1 hr nd eb
    exact ⟨by rw [← hv.length, line_eq]; exact hz, (c.from (s1.lose L l2 fr)).tup L2' hv hz⟩
  · cases e
theorem ge_lst {es : Es} (h : (GoodEs P (spec P Φ) Gm Φ) es) : (GoodE P (spec P Φ) Gm Φ) (.lst es) := fun O W H σ ρ ρ1 r L e Q c => by
  unfold evE at e
  obtain ⟨rs, ρa, ea, e⟩ := bindO_some e
  obtain ⟨ds, ρb, eb, e⟩ := bindO_some e
  split at e
  · rename_i hz
    cases e
    refine h O W H σ ρ ρa rs L ea _ fun vs H1 W1 L1 s1 hr nd fr => ?_
    obtain ⟨W2, L2', l2, hv⟩ := freezes_ok L1 hr nd eb
    exact ⟨by rw [← hv.length, line_eq]; exact hz, fun p hp => (c.from (s1.lose L l2 fr)).lst L2' hv hz hp⟩
  · cases e
theorem ge_bin {op : BOp} {a b : E} (ha : (GoodE P (spec P Φ) Gm Φ) a) (hb : (GoodE P (spec P Φ) Gm Φ) b) : (GoodE P (spec P Φ) Gm Φ) (.bin op a b) := fun O W H σ ρ ρ1 r L e Q c => by
  unfold evE at e
  obtain ⟨ra, ρa, ea, e⟩ := bindO_some e
  obtain ⟨rb, ρb, eb, e⟩ := bindO_some e
  refine ha O W H σ ρ ρa ra L ea _ fun va H1 W1 L1 s1 h1 f1 => hb O W1 H1 σ ρa ρb rb L1 eb _ fun vb H2 W2 L2' s2 h2 f2 => ?_
  cases q1 : deref ρb ra with
  | none => rw [q1] at e; cases e
  | some x =>
    cases q2 : deref ρb rb with
    | none => rw [q1, q2] at e; cases e
    | some y =>
      rw [q1, q2] at e
      dsimp only at e
      cases q3 : binD op x y with
      | none => rw [q3] at e; cases e
      | some d =>
        rw [q3] at e; cases e
        exact bin_ok L2' ((h1.step L1 s2).deref L2' q1) (h2.deref L2' q2) q3 (c.from (s1.trans s2))
theorem ge_cmp {op : COp} {a b : E} (ha : (GoodE P (spec P Φ) Gm Φ) a) (hb : (GoodE P (spec P Φ) Gm Φ) b) : (GoodE P (spec P Φ) Gm Φ) (.cmp op a b) := fun O W H σ ρ ρ1 r L e Q c => by
  unfold evE at e
  obtain ⟨ra, ρa, ea, e⟩ := bindO_some e
  obtain ⟨rb, ρb, eb, e⟩ := bindO_some e
  refine ha O W H σ ρ ρa ra L ea _ fun va H1 W1 L1 s1 h1 f1 => hb O W1 H1 σ ρa ρb rb L1 eb _ fun vb H2 W2 L2' s2 h2 f2 => ?_
  cases q1 : deref ρb ra with
  | none => rw [q1] at e; cases e
  | some x =>
    cases q2 : deref ρb rb with
    | none => rw [q1, q2] at e; cases e
    | some y =>
      rw [q1, q2] at e
      dsimp only at e
      cases q3 : cmpD op x y with
      | none => rw [q3] at e; cases e
      | some d =>
        rw [q3] at e; cases e
        exact cmp_ok L2' ((h1.step L1 s2).deref L2' q1) (h2.deref L2' q2) q3 (c.from (s1.trans s2))
theorem ge_idx {a b : E} (ha : (GoodE P (spec P Φ) Gm Φ) a) (hb : (GoodE P (spec P Φ) Gm Φ) b) : (GoodE P (spec P Φ) Gm Φ) (.idx a b) := fun O W H σ ρ ρ1 r L e Q c => by
  unfold evE at e
  obtain ⟨ra, ρa, ea, e⟩ := bindO_some e
  obtain ⟨rb, ρb, eb, e⟩ := bindO_some e
  cases q1 : deref ρb ra with
  | none => rw [q1] at e; cases e
  | some x =>
    cases q2 : deref ρb rb with
    | none => rw [q1, q2] at e; cases e
    | some y =>
      rw [q1, q2] at e
      dsimp only at e
      cases q3 : idxD x y with
      | none => rw [q3] at e; cases e
      | some d =>
        rw [q3] at e
        cases e
        rcases idx_cs q3 with ⟨ks, ds, rfl, q4⟩ | q4
        · refine .inr ?_
          refine ha O W H σ ρ ρa ra L ea _ fun va H1 W1 L1 s1 h1 f1 => hb O W1 H1 σ ρa ρ1 rb L1 eb _ fun vb H2 W2 L2' s2 h2 f2 => ?_
          exact idxK_ok L2' (RepR.deref L2' (h1.step L1 s2) q1) (h2.deref L2' q2) q4 (c.from (s1.trans s2))
        · refine .inl ?_
          refine ha O W H σ ρ ρa ra L ea _ fun va H1 W1 L1 s1 h1 f1 => hb O W1 H1 σ ρa ρ1 rb L1 eb _ fun vb H2 W2 L2' s2 h2 f2 => ?_
          exact idx_ok L2' (RepR.deref L2' (h1.step L1 s2) q1) (h2.deref L2' q2) q4 (c.from (s1.trans s2))
theorem ge_neg {a : E} (ha : (GoodE P (spec P Φ) Gm Φ) a) : (GoodE P (spec P Φ) Gm Φ) (.neg a) := fun O W H σ ρ ρ1 r L e Q c => by
  unfold evE at e
  obtain ⟨ra, ρa, ea, e⟩ := bindO_some e
  refine ha O W H σ ρ ρa ra L ea _ fun va H1 W1 L1 s1 h1 f1 => ?_
  cases q1 : deref ρa ra with
  | none => rw [q1] at e; cases e
  | some x =>
    rw [q1] at e
    cases q3 : negD x with
    | none => rw [Option.bind_some, q3] at e; cases e
    | some d =>
      rw [Option.bind_some, q3] at e; cases e
      exact neg_ok L1 (h1.deref L1 q1) q3 (c.from s1)
theorem ge_rev {a : E} (ha : (GoodE P (spec P Φ) Gm Φ) a) : (GoodE P (spec P Φ) Gm Φ) (.rev a) := fun O W H σ ρ ρ1 r L e Q c => by
  unfold evE at e
  obtain ⟨ra, ρa, ea, e⟩ := bindO_some e
  refine ha O W H σ ρ ρa ra L ea _ fun va H1 W1 L1 s1 h1 f1 => ?_
  cases q1 : deref ρa ra with
  | none => rw [q1] at e; cases e
  | some x =>
    rw [q1] at e
    cases q3 : revD x with
    | none => rw [Option.bind_some, q3] at e; cases e
    | some d =>
      rw [Option.bind_some, q3] at e; cases e
      exact rev_ok L1 (h1.deref L1 q1) q3 (c.from s1)
theorem ge_notv {a : E} (ha : (GoodE P (spec P Φ) Gm Φ) a) : (GoodE P (spec P Φ) Gm Φ) (.notv a) := fun O W H σ ρ ρ1 r L e Q c => by
  unfold evE at e
  obtain ⟨ra, ρa, ea, e⟩ := bindO_some e
  refine ha O W H σ ρ ρa ra L ea _ fun va H1 W1 L1 s1 h1 f1 => ?_
  split at e
  · rename_i b
    cases e
    have h1 : va = .bl b := rrBl h1
    exact ⟨b, h1, (c.from s1).bl L1 rfl⟩
  · cases e
theorem ge_andv {a b : E} (ha : (GoodE P (spec P Φ) Gm Φ) a) (hb : (GoodE P (spec P Φ) Gm Φ) b) : (GoodE P (spec P Φ) Gm Φ) (.andv a b) := fun O W H σ ρ ρ1 r L e Q c => by
  unfold evE at e
  obtain ⟨ra, ρa, ea, e⟩ := bindO_some e
  refine ha O W H σ ρ ρa ra L ea _ fun va H1 W1 L1 s1 h1 f1 => ?_
  split at e
  · exact ⟨true, rrBl h1, by rw [if_pos rfl]; exact hb O W1 H1 σ ρa ρ1 r L1 e _ (c.from s1)⟩
  · cases e
    exact ⟨false, rrBl h1, by rw [if_neg (by decide)]; exact (c.from s1).bl L1 rfl⟩
  · cases e
theorem ge_orv {a b : E} (ha : (GoodE P (spec P Φ) Gm Φ) a) (hb : (GoodE P (spec P Φ) Gm Φ) b) : (GoodE P (spec P Φ) Gm Φ) (.orv a b) := fun O W H σ ρ ρ1 r L e Q c => by
  unfold evE at e
  obtain ⟨ra, ρa, ea, e⟩ := bindO_some e
  refine ha O W H σ ρ ρa ra L ea _ fun va H1 W1 L1 s1 h1 f1 => ?_
  split at e
  · cases e
    exact ⟨true, rrBl h1, by rw [if_pos rfl]; exact (c.from s1).bl L1 rfl⟩
  · exact ⟨false, rrBl h1, by rw [if_neg (by decide)]; exact hb O W1 H1 σ ρa ρ1 r L1 e _ (c.from s1)⟩
  · cases e
theorem ge_chain {op op' : COp} {a b z : E} (ha : (GoodE P (spec P Φ) Gm Φ) a) (hb : (GoodE P (spec P Φ) Gm Φ) b) (hz : (GoodE P (spec P Φ) Gm Φ) z) : (GoodE P (spec P Φ) Gm Φ) (.chain op op' a b z) := fun O W H σ ρ ρ1 r L e Q c => by
  unfold evE at e
  obtain ⟨ra, ρa, ea, e⟩ := bindO_some e
  obtain ⟨rb, ρb, eb, e⟩ := bindO_some e
  refine ha O W H σ ρ ρa ra L ea _ fun va H1 W1 L1 s1 h1 f1 => hb O W1 H1 σ ρa ρb rb L1 eb _ fun vb H2 W2 L2' s2 h2 f2 => ?_
  have h1' := h1.step L1 s2
  split at e
  · rename_i x y e0
    split at e
    · rename_i hq
      refine cmp_ok L2' (RepV.repB h1') (RepV.repB h2) hq fun v H3 W3 L3 s3 h3 f3 => ⟨true, rrBl h3, ?_⟩
      rw [if_pos rfl]
      obtain ⟨rc, ρc, ec, e⟩ := bindO_some e
      refine hz O W3 H3 σ ρb ρc rc L3 ec _ fun vc H4 W4 L4 s4 h4 f4 => ?_
      cases q1 : deref ρc rc with
      | none => rw [q1] at e; cases e
      | some w =>
        rw [q1] at e
        dsimp only at e
        cases q3 : cmpD op' y w with
        | none => rw [q3] at e; cases e
        | some d =>
          rw [q3] at e; cases e
          exact cmp_ok L4 (RepV.repB (((show RepR P O W2 H2 σ ρb (.v y) vb from h2).step L2' s3).step L3 s4)) (h4.deref L4 q1) q3 (c.from ((s1.trans s2).trans (s3.trans s4)))
    · rename_i hq
      cases e
      refine cmp_ok L2' (RepV.repB h1') (RepV.repB h2) hq fun v H3 W3 L3 s3 h3 f3 => ⟨false, rrBl h3, ?_⟩
      rw [if_neg (by decide)]
      exact (c.from ((s1.trans s2).trans s3)).bl L3 rfl
    · cases e
  · cases e
theorem ge_ite {t : T} {a b : E} (ht : (GoodT P (spec P Φ) Gm Φ) t) (ha : (GoodE P (spec P Φ) Gm Φ) a) (hb : (GoodE P (spec P Φ) Gm Φ) b) : (GoodE P (spec P Φ) Gm Φ) (.ite t a b) := fun O W H σ ρ ρ1 r L e Q c => by
  unfold evE at e
  obtain ⟨k, ρa, ea, e⟩ := bindO_some e
  refine ht O W H σ ρ ρa k L ea _ fun H1 W1 L1 s1 => ?_
  cases k with
  | true => rw [if_pos rfl]; exact ha O W1 H1 σ ρa ρ1 r L1 e _ (c.from s1)
  | false => rw [if_neg (by decide)]; exact hb O W1 H1 σ ρa ρ1 r L1 e _ (c.from s1)
theorem ge_sl {a : E} {lo hi : Oe} (ha : (GoodE P (spec P Φ) Gm Φ) a) (hl : (GoodO P (spec P Φ) Gm Φ) lo) (hh : (GoodO P (spec P Φ) Gm Φ) hi) : (GoodE P (spec P Φ) Gm Φ) (.sl a lo hi) := fun O W H σ ρ ρ1 r L e Q c => by
  unfold evE at e
  obtain ⟨ra, ρa, ea, e⟩ := bindO_some e
  obtain ⟨l, ρb, eb, e⟩ := bindO_some e
  obtain ⟨h, ρc, ec, e⟩ := bindO_some e
  refine ha O W H σ ρ ρa ra L ea _ fun va H1 W1 L1 s1 h1 f1 => hl O W1 H1 σ ρa ρb l L1 eb _ fun H2 W2 L2' s2 => hh O W2 H2 σ ρb ρc h L2' ec _ fun H3 W3 L3 s3 => ?_
  cases q1 : deref ρc ra with
  | none => rw [q1] at e; cases e
  | some x =>
    rw [q1] at e
    dsimp only at e
    cases q3 : slD x l h with
    | none => rw [q3] at e; cases e
    | some d =>
      rw [q3] at e; cases e
      exact sl_ok L3 (((h1.step L1 s2).step L2' s3).deref L3 q1) q3 (c.from ((s1.trans s2).trans s3))
theorem ge_call {f : Nat} {es : Es} (h : (GoodEs P (spec P Φ) Gm Φ) es) : (GoodE P (spec P Φ) Gm Φ) (.call f es) := fun O W H σ ρ ρ1 r L e Q c => by
  unfold evE at e
  obtain ⟨rs, ρa, ea, e⟩ := bindO_some e
  refine h O W H σ ρ ρa rs L ea _ fun vs H1 W1 L1 s1 hr nd fr => ?_
  rw [List.append_nil]
  exact call_ok L1 hr nd fr s1.alive e s1 L c
theorem ge_callb {f : Blt} {es : Es} (h : (GoodEs P (spec P Φ) Gm Φ) es) : (GoodE P (spec P Φ) Gm Φ) (.callb f es) := fun O W H σ ρ ρ1 r L e Q c => by
  unfold evE at e
  obtain ⟨rs, ρa, ea, e⟩ := bindO_some e
  refine h O W H σ ρ ρa rs L ea _ fun vs H1 W1 L1 s1 hr nd fr => ?_
  cases q1 : derefs ρa rs with
  | none => rw [q1] at e; cases e
  | some ds =>
    rw [q1] at e
    dsimp only at e
    cases q3 : bltD f ds with
    | none => rw [q3] at e; cases e
    | some d =>
      rw [q3] at e; cases e
      exact blt_ok L1 (derefs_ok L1 hr q1) q3 (c.from s1)
theorem ge_attr {a : E} {f : Str} (ok : CfgOk P Gm) (ha : (GoodE P (spec P Φ) Gm Φ) a) : (GoodE P (spec P Φ) Gm Φ) (.attr a f) := fun O W H σ ρ ρ1 r L e Q c => by
  unfold evE at e
  obtain ⟨ra, ρa, ea, e⟩ := bindO_some e
  refine ha O W H σ ρ ρa ra L ea _ fun va H1 W1 L1 s1 h1 f1 => ?_
  cases q1 : deref ρa ra with
  | none => rw [q1] at e; cases e
  | some x =>
    rw [q1] at e
    cases q3 : attrD Gm.fields f x with
    | none => rw [Option.bind_some, q3] at e; cases e
    | some d =>
      rw [Option.bind_some, q3] at e; cases e
      have hb := h1.deref L1 q1
      cases x with
      | ins C ns ds =>
        obtain ⟨p, dx, vs, rfl, hp, hl, hr⟩ := hb
        have q3 : (match Gm.fields C with | some fs => if f ∈ fs then getN f ns ds else none | none => none) = some d := q3
        cases q4 : Gm.fields C with
        | none => rw [q4] at q3; cases q3
        | some fs =>
          rw [q4] at q3
          dsimp only at q3
          split at q3
          · rename_i hf
            obtain ⟨c1, c2⟩ := ok.flds C fs q4
            obtain ⟨v, e1, hv⟩ := getN_zip q3 hl hr
            exact ⟨p, P.cls C, dx, _, v, rfl, hp, c1, c2 f hf, e1, (c.from s1).val L1 hv⟩
          · cases q3
      | _ => cases q3
theorem ge_lrange {es : Es} (h : (GoodEs P (spec P Φ) Gm Φ) es) : (GoodE P (spec P Φ) Gm Φ) (.lrange es) := fun O W H σ ρ ρ1 r L e Q c => by
  unfold evE at e
  obtain ⟨rs, ρa, ea, e⟩ := bindO_some e
  refine h O W H σ ρ ρa rs L ea _ fun vs H1 W1 L1 s1 hr nd fr => ?_
  have reps : ∀ (lo : Int) (n : Nat), RepVs P (Av O W1) H1 ((List.range n).map fun (i : Nat) => D.int (lo + i)) ((List.range n).map fun (i : Nat) => V.int (lo + i)) := fun lo n => by
    generalize List.range n = l
    induction l with
    | nil => exact .nil
    | cons i l ih => exact .cons (by unfold RepV; rfl) ih
  have hl : ((line : Nat) : Int) = 16777216 := rfl
  have len : ∀ (lo : Int) (n : Nat), ((List.range n).map fun (i : Nat) => D.int (lo + i)).length = n := fun lo n => by rw [List.length_map, List.length_range]
  split at e
  · rename_i j
    unfold rangeD at e
    rw [hl] at e
    split at e
    · rename_i hz
      obtain ⟨z1, z2, z3, z4, z5⟩ := hz
      cases e
      obtain ⟨v, us, rfl, h1, h2⟩ := hr
      have h2 : us = [] := h2
      subst h2
      have h1 : v = .int j := rrInt h1
      subst h1
      refine .inl ⟨j, rfl, z4, z3, fun l hq => ?_⟩
      have k := reps 0 (j - 0).toNat
      have k2 := (c.from s1).lst L1 k (by rw [len]; show _ ≤ 16777216; omega) hq
      have e3 : ((List.range (j - 0).toNat).map fun (i : Nat) => V.int (0 + i)) = (List.range j.toNat).map fun (i : Nat) => V.int i := by rw [Int.sub_zero]; exact congrArg (fun f => List.map f _) (funext fun i => by rw [Int.zero_add])
      rw [← e3]
      exact k2
    · cases e
  · rename_i i j
    unfold rangeD at e
    rw [hl] at e
    split at e
    · rename_i hz
      obtain ⟨z1, z2, z3, z4, z5⟩ := hz
      cases e
      obtain ⟨v, us, rfl, h1, u, us, rfl, h2, h3⟩ := hr
      have h3 : us = [] := h3
      subst h3
      have h1 : v = .int i := rrInt h1
      have h2 : u = .int j := rrInt h2
      subst h1 h2
      refine .inr ⟨i, j, rfl, z2, z1, z4, z3, by omega, fun l hq => ?_⟩
      exact (c.from s1).lst L1 (reps i (j - i).toNat) (by rw [len]; show _ ≤ 16777216; omega) hq
    · cases e
  · cases e
/-! tests, argument rows, ends of slices -/
theorem gt_yes : (GoodT P (spec P Φ) Gm Φ) .yes := fun O W H σ ρ ρ1 k L e Q c => by
  unfold evT at e; cases e; exact c H W L .refl
theorem gt_val {a : E} (ha : (GoodE P (spec P Φ) Gm Φ) a) : (GoodT P (spec P Φ) Gm Φ) (.val a) := fun O W H σ ρ ρ1 k L e Q c => by
  unfold evT at e
  obtain ⟨ra, ρa, ea, e⟩ := bindO_some e
  refine ha O W H σ ρ ρa ra L ea _ fun va H1 W1 L1 s1 h1 f1 => ?_
  split at e
  · cases e; exact ⟨k, rrBl h1, c H1 W1 L1 s1⟩
  · cases e
theorem gt_and {a b : T} (ha : (GoodT P (spec P Φ) Gm Φ) a) (hb : (GoodT P (spec P Φ) Gm Φ) b) : (GoodT P (spec P Φ) Gm Φ) (.and a b) := fun O W H σ ρ ρ1 k L e Q c => by
  unfold evT at e
  obtain ⟨j, ρa, ea, e⟩ := bindO_some e
  refine ha O W H σ ρ ρa j L ea _ fun H1 W1 L1 s1 => ?_
  cases j with
  | true => rw [if_pos rfl]; exact hb O W1 H1 σ ρa ρ1 k L1 e _ fun H2 W2 L2' s2 => c H2 W2 L2' (s1.trans s2)
  | false => rw [if_neg (by decide)]; cases e; exact c H1 W1 L1 s1
theorem gt_or {a b : T} (ha : (GoodT P (spec P Φ) Gm Φ) a) (hb : (GoodT P (spec P Φ) Gm Φ) b) : (GoodT P (spec P Φ) Gm Φ) (.or a b) := fun O W H σ ρ ρ1 k L e Q c => by
  unfold evT at e
  obtain ⟨j, ρa, ea, e⟩ := bindO_some e
  refine ha O W H σ ρ ρa j L ea _ fun H1 W1 L1 s1 => ?_
  cases j with
  | true => rw [if_pos rfl]; cases e; exact c H1 W1 L1 s1
  | false => rw [if_neg (by decide)]; exact hb O W1 H1 σ ρa ρ1 k L1 e _ fun H2 W2 L2' s2 => c H2 W2 L2' (s1.trans s2)
theorem gt_not {a : T} (ha : (GoodT P (spec P Φ) Gm Φ) a) : (GoodT P (spec P Φ) Gm Φ) (.not a) := fun O W H σ ρ ρ1 k L e Q c => by
  unfold evT at e
  obtain ⟨j, ρa, ea, e⟩ := bindO_some e
  cases e
  exact ha O W H σ ρ ρ1 j L ea _ fun H1 W1 L1 s1 => c H1 W1 L1 s1
theorem ga_nil : (GoodEs P (spec P Φ) Gm Φ) .nil := fun O W H σ ρ ρ1 rs L e Q c => by
  unfold evEs at e; cases e
  exact c [] H W L .refl rfl .nil fun a h => nomatch h
theorem ga_cons {a : E} {r : Es} (ha : (GoodE P (spec P Φ) Gm Φ) a) (hb : (GoodEs P (spec P Φ) Gm Φ) r) : (GoodEs P (spec P Φ) Gm Φ) (.cons a r) := fun O W H σ ρ ρ1 rs L e Q c => by
  unfold evEs at e
  obtain ⟨x, ρa, ea, e⟩ := bindO_some e
  obtain ⟨xs, ρb, eb, e⟩ := bindO_some e
  cases e
  refine ha O W H σ ρ ρa x L ea _ fun va H1 W1 L1 s1 h1 f1 => hb O W1 H1 σ ρa ρ1 xs L1 eb _ fun vs H2 W2 L2' s2 h2 nd fr => ?_
  have fr' : ∀ a ∈ tmps xs vs, H a = none := fun a h => Classical.byContradiction fun q => s1.alive a q (fr a h)
  refine c (va :: vs) H2 W2 L2' (s1.trans s2) ⟨va, vs, rfl, h1.step L1 s2, h2⟩ ?_ ?_
  · cases x with
    | o d =>
      have h1' := h1
      obtain ⟨b, rfl, w, n, q⟩ := h1'
      refine List.nodup_cons.mpr ⟨fun z => ?_, nd⟩
      exact h1.mutAt L1 (fr b z)
    | v d => exact nd
    | b d => exact nd
  · intro a h
    cases x with
    | o d =>
      have h1' := h1
      obtain ⟨b, rfl, w, n, q⟩ := h1'
      rcases List.mem_cons.mp h with z | z
      · subst z; exact f1 d a rfl rfl
      · exact fr' a z
    | v d => exact fr' a h
    | b d => exact fr' a h
theorem go_none : (GoodO P (spec P Φ) Gm Φ) .none := fun O W H σ ρ ρ1 i L e Q c => by
  unfold evOe at e; cases e; exact c H W L .refl
theorem go_some {a : E} (ha : (GoodE P (spec P Φ) Gm Φ) a) : (GoodO P (spec P Φ) Gm Φ) (.some a) := fun O W H σ ρ ρ1 i L e Q c => by
  unfold evOe at e
  obtain ⟨ra, ρa, ea, e⟩ := bindO_some e
  refine ha O W H σ ρ ρa ra L ea _ fun va H1 W1 L1 s1 h1 f1 => ?_
  split at e
  · cases e; exact ⟨_, rrInt h1, c H1 W1 L1 s1⟩
  · cases e
end
end Mi

/-! MiD3f -/
set_option Elab.async false
set_option linter.all false
set_option maxRecDepth 100000
set_option maxHeartbeats 4000000
/-! MiD3f: walks, methods, new instances, comprehensions. -/
namespace Mi
open PySem PySem.Spec PyProof.Rows L2
section
variable {P : TP} {Gm : Cfg} {Φ : Phi}
theorem freshAt {O W : AP} {H : Hp} {r : R} {v : V} (fr : ∀ d a, r = .o d → v = .ref a → H a = none) : ∀ a, (∃ x, r = .o x) ∧ v = .ref a → H a = none := fun a ⟨⟨x, e⟩, e2⟩ => fr x a e e2
theorem gi_seq {a : E} (ha : (GoodE P (spec P Φ) Gm Φ) a) : (GoodI P (spec P Φ) Gm Φ) (.seq a) := fun O W H σ ρ ρ1 its L e R c => by
  unfold evIt at e
  obtain ⟨ra, ρa, ea, e⟩ := bindO_some e
  refine ha O W H σ ρ ρa ra L ea _ fun va H1 W1 L1 s1 h1 f1 => ?_
  unfold walkD at e
  cases q : freeze ra ρa with
  | none => rw [q] at e; cases e
  | some x =>
    obtain ⟨d, ρb⟩ := x
    rw [q] at e
    dsimp only at e
    obtain ⟨W2, L2', l2, rv⟩ := freeze_ok L1 h1 q
    have s2 := s1.lose L l2 (freshAt (O := O) (W := W) f1)
    cases d with
    | lst l =>
      cases e
      unfold RepV at rv
      obtain ⟨p, vs, rfl, hp, np, hl, hr⟩ := rv
      rcases wok_seq L2' hl hr (.inl ⟨hp, np⟩) with ⟨k, w⟩ | ⟨k, w⟩
      · exact ⟨p, rfl, .inl ⟨k, c _ _ _ L2' s2 w⟩⟩
      · exact ⟨p, rfl, .inr ⟨k, c _ _ _ L2' s2 w⟩⟩
    | tup l =>
      cases e
      unfold RepV at rv
      obtain ⟨p, vs, rfl, hp, hl, hr⟩ := rv
      rcases wok_seq L2' hl hr (.inr hp) with ⟨k, w⟩ | ⟨k, w⟩
      · exact ⟨p, rfl, .inl ⟨k, c _ _ _ L2' s2 w⟩⟩
      · exact ⟨p, rfl, .inr ⟨k, c _ _ _ L2' s2 w⟩⟩
    | _ => cases e
theorem gi_range1 {a : E} (ha : (GoodE P (spec P Φ) Gm Φ) a) : (GoodI P (spec P Φ) Gm Φ) (.range1 a) := fun O W H σ ρ ρ1 its L e R c => by
  unfold evIt at e
  obtain ⟨ra, ρa, ea, e⟩ := bindO_some e
  refine ha O W H σ ρ ρa ra L ea _ fun va H1 W1 L1 s1 h1 f1 => ?_
  split at e
  · rename_i j
    unfold rangeD at e
    have hl : ((line : Nat) : Int) = 16777216 := rfl
    rw [hl] at e
    split at e
    · rename_i hz
      obtain ⟨z1, z2, z3, z4, z5⟩ := hz
      cases e
      have h1 : va = .int j := rrInt h1
      subst h1
      refine ⟨j, rfl, by omega, by omega, ?_⟩
      have k := c (Itr 0 (j - 0).toNat) H1 W1 L1 s1 (wok_range (by show _ ≤ 16777216; omega))
      rw [Int.sub_zero] at k
      exact k
    · cases e
  · cases e
theorem gi_range2 {a b : E} (ha : (GoodE P (spec P Φ) Gm Φ) a) (hb : (GoodE P (spec P Φ) Gm Φ) b) : (GoodI P (spec P Φ) Gm Φ) (.range2 a b) := fun O W H σ ρ ρ1 its L e R c => by
  unfold evIt at e
  obtain ⟨ra, ρa, ea, e⟩ := bindO_some e
  obtain ⟨rb, ρb, eb, e⟩ := bindO_some e
  refine ha O W H σ ρ ρa ra L ea _ fun va H1 W1 L1 s1 h1 f1 => hb O W1 H1 σ ρa ρb rb L1 eb _ fun vb H2 W2 L2' s2 h2 f2 => ?_
  split at e
  · rename_i i j e0
    unfold rangeD at e
    have hl : ((line : Nat) : Int) = 16777216 := rfl
    rw [hl] at e
    split at e
    · rename_i hz
      obtain ⟨z1, z2, z3, z4, z5⟩ := hz
      cases e
      have h1 : va = .int i := rrInt h1
      have h2 : vb = .int j := rrInt h2
      subst h1 h2
      exact ⟨i, j, rfl, ⟨by omega, by omega, by omega, by omega⟩, c (Itr i (j - i).toNat) H2 W2 L2' (s1.trans s2) (wok_range (by show _ ≤ 16777216; omega))⟩
    · cases e
  · cases e
theorem gi_zip {a b : E} (ha : (GoodE P (spec P Φ) Gm Φ) a) (hb : (GoodE P (spec P Φ) Gm Φ) b) : (GoodI P (spec P Φ) Gm Φ) (.zip a b) := fun O W H σ ρ ρ1 its L e R c => by
  unfold evIt at e
  obtain ⟨ra, ρa, ea, e⟩ := bindO_some e
  obtain ⟨rb, ρb, eb, e⟩ := bindO_some e
  obtain ⟨d, ρc, ec, e⟩ := bindO_some e
  obtain ⟨d', ρd, ed, e⟩ := bindO_some e
  refine ha O W H σ ρ ρa ra L ea _ fun va H1 W1 L1 s1 h1 f1 => hb O W1 H1 σ ρa ρb rb L1 eb _ fun vb H2 W2 L2' s2 h2 f2 => ?_
  have h1' := h1.step L1 s2
  obtain ⟨W3, L3, l3, r1⟩ := freeze_ok L2' h1' ec
  have s3 := (s1.trans s2).lose L l3 (freshAt (O := O) (W := W) f1)
  have h2' : RepR P O W3 H2 σ ρc rb vb := h2.lose l3 fun x p e1 e2 z => by
    obtain ⟨⟨y, e3⟩, e4⟩ := z
    subst e3 e4
    exact h1.mutAt L1 (f2 x p e1 e2)
  obtain ⟨W4, L4, l4, r2⟩ := freeze_ok L3 h2' ed
  have f2' : ∀ d a, rb = .o d → vb = .ref a → H a = none := fun d a e1 e2 => Classical.byContradiction fun q => s1.alive a q (f2 d a e1 e2)
  have s4 := s3.lose L l4 (freshAt (O := O) (W := W) f2')
  have r1 : RepV P (Av O W4) H2 d va := r1.kp (Kp.less fun b z => z.elim .inl fun q => .inr (l4.sub b q))
  unfold zipD at e
  cases q1 : itemsD d with
  | none => rw [q1] at e; cases e
  | some x =>
    cases q2 : itemsD d' with
    | none => rw [q1, q2] at e; cases e
    | some y =>
      rw [q1, q2] at e
      cases e
      obtain ⟨p, vs, t, rfl, hl, hr, hp, kp⟩ := seq_of L4 q1 r1
      obtain ⟨p', us, u, rfl, hl', hr', hp', kp'⟩ := seq_of L4 q2 r2
      refine ⟨p, p', vs, us, t, u, rfl, hp, hp', c _ _ _ L4 s4 ⟨?_, _, _, walk_zipG (xs := vs) (ys := us) ?_, fun H3 s => ⟨kp H3 s, kp' H3 s⟩, zip_yok L4 hr hr'⟩⟩
      · rw [List.length_zipWith]; omega
      · rw [List.length_zipWith, hr.length, hr'.length]
theorem gi_enum {a : E} (ha : (GoodE P (spec P Φ) Gm Φ) a) : (GoodI P (spec P Φ) Gm Φ) (.enum a) := fun O W H σ ρ ρ1 its L e R c => by
  unfold evIt at e
  obtain ⟨ra, ρa, ea, e⟩ := bindO_some e
  obtain ⟨d, ρb, eb, e⟩ := bindO_some e
  refine ha O W H σ ρ ρa ra L ea _ fun va H1 W1 L1 s1 h1 f1 => ?_
  obtain ⟨W2, L2', l2, rv⟩ := freeze_ok L1 h1 eb
  have s2 := s1.lose L l2 (freshAt (O := O) (W := W) f1)
  cases d with
  | lst l =>
    cases e
    unfold RepV at rv
    obtain ⟨p, vs, rfl, hp, np, hl, hr⟩ := rv
    exact ⟨p, vs, rfl, .inl ⟨.inl (.inl hp), c _ _ _ L2' s2 (wok_enum L2' hl hr hp np)⟩⟩
  | tup l =>
    cases e
    unfold RepV at rv
    obtain ⟨p, vs, rfl, hp, hl, hr⟩ := rv
    exact ⟨p, vs, rfl, .inr ⟨hp.sqT, c _ _ _ L2' s2 (wok_enumT L2' hl hr hp)⟩⟩
  | _ => cases e
theorem ge_make {C : Nat} {es : Es} (h : (GoodEs P (spec P Φ) Gm Φ) es) : (GoodE P (spec P Φ) Gm Φ) (.make C es) := fun O W H σ ρ ρ1 r L e Q c => by
  unfold evE at e
  obtain ⟨rs, ρa, ea, e⟩ := bindO_some e
  refine h O W H σ ρ ρa rs L ea _ fun vs H1 W1 L1 s1 hr nd fr => ?_
  unfold makeF at e
  cases q : freezes rs ρa with
  | none => rw [q] at e; cases e
  | some x =>
    obtain ⟨ds, ρb⟩ := x
    rw [q] at e
    dsimp only at e
    obtain ⟨W2, L2', l2, hv⟩ := freezes_ok L1 hr nd q
    have s2 := s1.lose L l2 fr
    cases q2 : Gm.io C with
    | none => rw [q2] at e; cases e
    | some io =>
      rw [q2] at e
      dsimp only at e
      split at e
      · cases q3 : Φ C ((true, .ins C [] []) :: ds.map fun d => (false, d)) with
        | none => rw [q3] at e; cases e
        | some y =>
          rw [q3] at e
          split at e
          · rename_i d0 e1
            cases e1
            cases e
            intro x dx hx hdx hne
            rw [List.append_nil]
            have hdx' : ∀ a o, H1 a = some o → (upd (upd H1 dx (.own x)) x (.ins (P.cls C) dx [])) a = some o := fun a o e => by
              rw [upd_ne (ne_of_none e hx), upd_ne (ne_of_none e hdx)]; exact e
            have kA : Kp (fun _ => False) (Av O W2) (Av (Av O W2) (InL [x])) H1 (upd (upd H1 dx (.own x)) x (.ins (P.cls C) dx [])) := ⟨fun a o e _ => hdx' a o e, fun _ z => z.elim, fun _ z => z.elim, fun a z => by
              rcases z with z | z
              · exact .inl z
              · rw [List.mem_singleton.mp z]; exact .inr hx⟩
            have args : ∀ {ds : List D} {vs : List V}, RepVs P (Av O W2) H1 ds vs → ArgsRep P (Av (Av O W2) (InL [x])) (upd (upd H1 dx (.own x)) x (.ins (P.cls C) dx [])) (ds.map fun d => (false, d)) vs [] := by
              intro ds
              induction ds with
              | nil => intro vs h; unfold RepVs at h; subst h; exact .nil
              | cons d ds ih =>
                intro vs h
                obtain ⟨v, us, rfl, h1, h2⟩ := h.uncons
                exact .fro (h1.kp kA) (ih h2)
            refine ⟨Av O W2, _, [x], _, _, .own (show OwnV P _ _ (.ins C [] []) x from ⟨dx, [], by rw [upd_same]; rfl, rfl, .nil⟩) (args hv), by simp, fun a ha z => ?_, fun a z => ?_, q3, fun v H' W' rt => ⟨?_, ?_⟩⟩
            · rw [List.mem_singleton.mp ha] at z
              rcases z with z | z
              · exact L2'.oal x z hx
              · obtain ⟨o, e, _⟩ := L2'.wmut x z
                rw [hx] at e; cases e
            · have : H1 a ≠ none := by
                rcases z with z | z
                · exact L2'.oal a z
                · obtain ⟨o, e, _⟩ := L2'.wmut a z
                  rw [e]; exact (fun z => nomatch z)
              cases q : H1 a with
              | none => exact absurd q this
              | some o => rw [hdx' a o q]; exact (fun z => nomatch z)
            · have hval : RepV P (Av (Av O W2) W') H' .non v := rt.val
              unfold RepV at hval; exact hval
            · -- behind
              have keep : ∀ a o, H1 a = some o → H' a = some o := fun a o e => rt.keep a o (hdx' a o e) fun z => by rw [List.mem_singleton.mp z, hx] at e; cases e
              have new : ∀ a, W' a → H1 a = none := fun a w => by
                rcases rt.new a w with z | z
                · rw [List.mem_singleton.mp z]; exact hx
                · cases q : H1 a with
                  | none => rfl
                  | some o => rw [hdx' a o q] at z; cases z
              have k3 : Kp (fun _ => False) (Av O W2) (Av O fun a => W2 a ∨ W' a) H1 H' := ⟨fun a o e _ => keep a o e, fun _ z => z.elim, fun _ z => z.elim, fun a z => by
                rcases z with z | z | z
                · exact .inl (.inl z)
                · exact .inl (.inr z)
                · exact .inr (new a z)⟩
              have alive : ∀ a, H1 a ≠ none → H' a ≠ none := fun a n => by
                cases q : H1 a with
                | none => exact absurd q n
                | some o => rw [keep a o q]; exact (fun z => nomatch z)
              have wx : W' x := rt.adsW x List.mem_cons_self
              have L3 : Rel P O (fun a => W2 a ∨ W' a) H' σ ρ1 := by
                refine ⟨L2'.len, fun a z => ?_, fun a z => alive a (L2'.oal a z), fun a z q => ?_, fun i d e => ?_, fun i d e => ?_, L2'.inj⟩
                · rcases z with z | z
                  · obtain ⟨o, e, m⟩ := L2'.wmut a z
                    exact ⟨o, keep a o e, m⟩
                  · exact rt.muts a z
                · rcases z with z | z
                  · exact L2'.ow a z q
                  · exact L2'.oal a q (new a z)
                · obtain ⟨v, e1, rv⟩ := L2'.fro i d e
                  exact ⟨v, e1, rv.kp k3⟩
                · obtain ⟨a, e1, w, ho⟩ := L2'.own i d e
                  exact ⟨a, e1, .inl w, ho.kp k3 fun z => z⟩
              have s3 : Step σ ρ W H ρ1 (fun a => W2 a ∨ W' a) H' := by
                refine ⟨fun a o e n => keep a o (s2.keep a o e n), fun a z => ?_, fun a z n => .inl (s2.stay a z n), s2.own, s2.there, fun a n => alive a (s2.alive a n)⟩
                rcases z with z | z
                · exact s2.new a z
                · exact .inr (Classical.byContradiction fun q => s2.alive a q (new a z))
              have ho : OwnV P (Av (Av O W2) W') H' d0 x := by
                have h := rt.outR
                cases h with
                | cons h _ => exact h
              refine c (.ref x) H' _ L3 s3 ⟨x, rfl, .inr wx, fun z => ?_, ho.kp (Kp.less fun a z => ?_) fun z => z⟩ fun d a _ e => ?_
              · obtain ⟨o, e, _⟩ := L2'.wmut x (L2'.ownW z)
                rw [hx] at e; cases e
              · rcases z with z | z | z
                · exact .inl (.inl z)
                · exact .inl (.inr z)
                · exact .inr z
              · cases e
                exact Classical.byContradiction fun q => s2.alive x q hx
          · cases e
      · cases e
theorem ge_meth {m : Mth} {a b : E} (ha : (GoodE P (spec P Φ) Gm Φ) a) (hb : (GoodE P (spec P Φ) Gm Φ) b) : (GoodE P (spec P Φ) Gm Φ) (.meth m a b) := fun O W H σ ρ ρ1 r L e Q c => by
  unfold evE at e
  obtain ⟨ra, ρa, ea, e⟩ := bindO_some e
  obtain ⟨rb, ρb, eb, e⟩ := bindO_some e
  cases q0 : deref ρa ra with
  | none => rw [q0] at e; cases e
  | some x0 =>
    cases q1 : deref ρb ra with
    | none => rw [q0, q1] at e; cases e
    | some x =>
      cases q2 : deref ρb rb with
      | none => rw [q0, q1, q2] at e; cases e
      | some y =>
        rw [q0, q1, q2] at e
        dsimp only at e
        split at e
        · rename_i hk
          cases q3 : mthD m x y with
          | none => rw [q3] at e; cases e
          | some d =>
            rw [q3] at e; cases e
            have tyL : ∀ {H : Hp} {A : AP} {l : List D} {v : V}, RepB P A H (.lst l) v → tyV P.K "list" v H := fun h => by
              obtain ⟨p, vs, rfl, hp, _, _⟩ := repLst h
              exact .inl ⟨rfl, vs, .inl (.inl hp)⟩
            have tyT : ∀ {H : Hp} {A : AP} {l : List D} {v : V}, RepB P A H (.tup l) v → TyD P.K "tuple" v H := fun h => by
              obtain ⟨p, vs, rfl, hp, _, _⟩ := repTup h
              exact .inr ⟨rfl, p, vs, rfl, hp⟩
            cases x with
            | lst l =>
              cases x0 with
              | lst l0 =>
                cases m with
                | index =>
                  refine .inl (ha O W H σ ρ ρa ra L ea _ fun va H1 W1 L1 s1 h1 f1 => ⟨tyL (h1.deref L1 q0), hb O W1 H1 σ ρa ρ1 rb L1 eb _ fun vb H2 W2 L2' s2 h2 f2 => ?_⟩)
                  have k1 := (h1.step L1 s2).deref L2' q1
                  have k2 := h2.deref L2' q2
                  obtain ⟨p, vs, rfl, hp, hl, hr⟩ := repLst k1
                  simp only [mthD, itemsD, Option.bind_some] at q3
                  split at q3
                  · rename_i hf
                    rw [Bool.and_eq_true] at hf
                    cases q4 : ixFind (fun z => eqF z y) l with
                    | none => rw [q4] at q3; cases q3
                    | some j =>
                      rw [q4] at q3; cases q3
                      obtain ⟨z, g1, g2, g3⟩ := find_rep hf.1 k2 hf.2 hr q4
                      exact ⟨p, vs, vb, j, z, rfl, rfl, .inl (.inl hp), (flat_rep hf.1 k2).1, flats_rep hf.2 hr, g1, g2, g3, (c.from (s1.trans s2)).int L2' rfl⟩
                  · cases q3
                | count =>
                  refine ha O W H σ ρ ρa ra L ea _ fun va H1 W1 L1 s1 h1 f1 => ⟨tyL (h1.deref L1 q0), hb O W1 H1 σ ρa ρ1 rb L1 eb _ fun vb H2 W2 L2' s2 h2 f2 => ?_⟩
                  have k1 := (h1.step L1 s2).deref L2' q1
                  have k2 := h2.deref L2' q2
                  obtain ⟨p, vs, rfl, hp, hl, hr⟩ := repLst k1
                  cases y with
                  | int k =>
                    have q3 : ((intsD l).map fun ns => D.int (ns.count k)) = some d := q3
                    cases q4 : intsD l with
                    | none => rw [q4] at q3; cases q3
                    | some ns =>
                      rw [q4] at q3; cases q3
                      have e1 := repInt k2
                      subst e1
                      exact ⟨p, ns, k, rfl, rfl, by rw [← repInts q4 hr]; exact .inl (.inl hp), (c.from (s1.trans s2)).int L2' rfl⟩
                  | _ => cases q3
              | _ => cases hk
            | tup l =>
              cases x0 with
              | tup l0 =>
                cases m with
                | index =>
                  refine .inr (ha O W H σ ρ ρa ra L ea _ fun va H1 W1 L1 s1 h1 f1 => ⟨tyT (h1.deref L1 q0), hb O W1 H1 σ ρa ρ1 rb L1 eb _ fun vb H2 W2 L2' s2 h2 f2 => ?_⟩)
                  have k1 := (h1.step L1 s2).deref L2' q1
                  have k2 := h2.deref L2' q2
                  obtain ⟨p, vs, rfl, hp, hl, hr⟩ := repTup k1
                  simp only [mthD, itemsD, Option.bind_some] at q3
                  split at q3
                  · rename_i hf
                    rw [Bool.and_eq_true] at hf
                    cases q4 : ixFind (fun z => eqF z y) l with
                    | none => rw [q4] at q3; cases q3
                    | some j =>
                      rw [q4] at q3; cases q3
                      obtain ⟨z, g1, g2, g3⟩ := find_rep hf.1 k2 hf.2 hr q4
                      exact ⟨p, vs, vb, j, z, rfl, rfl, hp.sqT, (flat_rep hf.1 k2).1, flats_rep hf.2 hr, g1, g2, g3, (c.from (s1.trans s2)).int L2' rfl⟩
                  · cases q3
                | count => cases y <;> cases q3
              | _ => cases hk
            | _ =>
              cases m with
              | index => cases q3
              | count => cases y <;> cases q3
        · cases e
end
end Mi

/-! MiD3g -/
set_option Elab.async false
set_option linter.all false
set_option maxRecDepth 100000
set_option maxHeartbeats 4000000
/-! MiD3g: changing methods, comprehensions; all expressions. -/
namespace Mi
open PySem PySem.Spec PyProof.Rows L2
section
variable {P : TP} {Gm : Cfg} {Φ : Phi}
section
variable {O W : AP} {H : Hp} {σ : L2.St} {ρ : Env} {i : Nat} {l l' : List D} {ws ws' : List V} {a : Addr} {d : D} {v : V} {Q : VK}
theorem mut_go (L : Rel P O W H σ ρ) (hi : eget ρ i = some (true, .lst l)) (hs : σ[i]? = some (some (.ref a))) (hl : l'.length ≤ line) (hr : RepVs P (Av O W) H l' ws') (hd : RepV P (Av O W) H d v)
    (c : Cont P O σ ρ W H (ρ.set i (some (true, .lst l'))) (.v d) Q) : Q v (upd H a (.lst ws')) := by
  obtain ⟨L1, s1⟩ := L.write (o' := .lst ws') (d' := .lst l') hi hs rfl fun k => ⟨ws', upd_same, hl, hr.kp k⟩
  exact c v _ W L1 s1 (hd.kp (s1.kp L)) fun _ _ e => nomatch e
theorem intsD_flat : ∀ {l : List D} {ns : List Int}, intsD l = some ns → l.all flatD = true
  | [], _, _ => rfl
  | d :: r, ns, e => by
    cases d with
    | int k =>
      have e : (intsD r).map (k :: ·) = some ns := e
      cases q : intsD r with
      | none => rw [q] at e; cases e
      | some m => rw [List.all_cons, intsD_flat q]; rfl
    | _ => cases e
/-- what the method reads and writes -/
theorem mut_ok {m : Mut} {l : List D} {ds : List D} {vs : List V} {p : List D × D} (L : Rel P O W H σ ρ) (hi : eget ρ i = some (true, .lst l)) (hs : σ[i]? = some (some (.ref a))) (hv : RepVs P (Av O W) H ds vs) (e : mutD m l ds = some p)
    (c : Cont P O σ ρ W H (ρ.set i (some (true, .lst p.1))) (.v p.2) Q) :
    match m with
    | .append => rAppend (.ref a) vs H Q
    | .pop0 => vs = [] ∧ rPop (.ref a) [] H Q
    | .pop => rPopAt (.ref a) vs H Q
    | .remove => rRem (.ref a) vs H Q
    | .extend => rExtend (.ref a) vs H Q
    | .insert => rInsert (.ref a) vs H Q := by
  obtain ⟨b, e1, w, ws, ha, hl, hr⟩ := L.own i _ hi
  rw [hs] at e1
  cases e1
  have hlen := hr.length
  have one : ∀ {x : D}, ds = [x] → ∃ u, vs = [u] ∧ RepV P (Av O W) H x u := fun {x} e => by
    subst e
    obtain ⟨u, us, rfl, h1, h2⟩ := hv.uncons
    unfold RepVs at h2
    subst h2
    exact ⟨u, rfl, h1⟩
  cases m with
  | append =>
    cases ds with
    | nil => cases e
    | cons x r =>
      cases r with
      | cons _ _ => cases e
      | nil =>
        have e : (if l.length < line then some (l ++ [x], D.non) else none) = some p := e
        split at e
        · rename_i hz
          cases e
          obtain ⟨u, rfl, hu⟩ := one rfl
          exact ⟨a, ws, u, rfl, rfl, ha, by rw [← hlen, line_eq]; exact hz, mut_go L hi hs (by rw [List.length_append]; exact hz) (hr.append (.cons hu .nil)) (by unfold RepV; rfl) c⟩
        · cases e
  | pop0 =>
    cases ds with
    | cons x r => cases e
    | nil =>
      unfold RepVs at hv
      subst hv
      have e : ((l[l.length - 1]?).map fun y => (l.dropLast, y)) = some p := e
      cases q : l[l.length - 1]? with
      | none => rw [q] at e; cases e
      | some y =>
        rw [q] at e
        cases e
        obtain ⟨u, hu, ru⟩ := hr.get q
        exact ⟨rfl, a, ws, u, rfl, rfl, ha, by rw [← hlen]; exact hu, mut_go L hi hs (by rw [List.length_dropLast]; omega) hr.dropLast ru c⟩
  | pop =>
    cases ds with
    | nil => cases e
    | cons x r =>
      cases r with
      | cons _ _ => cases x <;> cases e
      | nil =>
        cases x with
        | int k =>
          have e : ((ixOf l.length k).bind fun j => (l[j]?).map fun y => (l.eraseIdx j, y)) = some p := e
          cases q1 : ixOf l.length k with
          | none => rw [q1] at e; cases e
          | some j =>
            rw [q1] at e
            have e : ((l[j]?).map fun y => (l.eraseIdx j, y)) = some p := e
            cases q : l[j]? with
            | none => rw [q] at e; cases e
            | some y =>
              rw [q] at e
              cases e
              obtain ⟨u, hu, ru⟩ := hr.get q
              obtain ⟨t, rfl, ht⟩ := one rfl
              have := repVInt ht
              subst this
              rw [ixOf_eq] at q1
              obtain ⟨g1, g2, g3, g4⟩ := ixN_seq q1
              have hz : (l.length : Int) ≤ 16777216 := Int.ofNat_le.mpr hl
              exact ⟨a, ws, k, j, u, rfl, rfl, ha, by omega, by omega, by rw [← hlen]; exact g1, hu, mut_go L hi hs (Nat.le_trans (List.length_eraseIdx_le l j) hl) (hr.eraseIdx j) ru c⟩
        | _ => cases e
  | remove =>
    cases ds with
    | nil => cases e
    | cons x r =>
      cases r with
      | cons _ _ => cases x <;> cases e
      | nil =>
        cases x with
        | int k =>
          have e : ((intsD l).bind fun ns => (ixFind (fun z => eqF z (.int k)) l).map fun j => (l.eraseIdx j, D.non)) = some p := e
          cases q1 : intsD l with
          | none => rw [q1] at e; cases e
          | some ns =>
            rw [q1] at e
            have e : ((ixFind (fun z => eqF z (.int k)) l).map fun j => (l.eraseIdx j, D.non)) = some p := e
            cases q : ixFind (fun z => eqF z (.int k)) l with
            | none => rw [q] at e; cases e
            | some j =>
              rw [q] at e
              cases e
              obtain ⟨t, rfl, ht⟩ := one rfl
              have ht' := repVInt ht
              subst ht'
              obtain ⟨z, g1, g2, g3⟩ := find_rep (x := .int k) rfl ht.repB (intsD_flat q1) hr q
              have hw := repInts q1 hr
              subst hw
              have get : ∀ (m : Nat) (z : V), (ns.map V.int)[m]? = some z → ∃ n, ns[m]? = some n ∧ z = .int n := fun m z h => by
                rw [List.getElem?_map] at h
                cases h' : ns[m]? with
                | none => rw [h'] at h; cases h
                | some n => rw [h'] at h; cases h; exact ⟨n, rfl, rfl⟩
              have eqi : ∀ n : Int, eqV (.int n) (.int k) = decide (n = k) := fun n => by simp only [eqV]; exact Bool.eq_iff_iff.mpr (by simp)
              obtain ⟨n, hn, rfl⟩ := get j z g1
              rw [eqi, decide_eq_true_eq] at g2
              subst g2
              refine ⟨a, ns, n, j, rfl, rfl, ha, hn, fun m hm hmk => ?_, ?_⟩
              · have := g3 m (.int n) hm (by rw [List.getElem?_map, hmk]; rfl)
                rw [eqi] at this
                simp at this
              · have hk := hr.eraseIdx j
                have he : (ns.eraseIdx j).map V.int = (ns.map V.int).eraseIdx j := by
                  rw [List.eraseIdx_eq_take_drop_succ, List.eraseIdx_eq_take_drop_succ, List.map_append, List.map_take, List.map_drop]
                rw [he]
                exact mut_go L hi hs (Nat.le_trans (List.length_eraseIdx_le l j) hl) hk (by unfold RepV; rfl) c
        | _ => cases e
  | extend =>
    cases ds with
    | nil => cases e
    | cons x r =>
      cases r with
      | cons _ _ => cases x <;> cases e
      | nil =>
        cases x with
        | lst y =>
          have e : (if l.length + y.length ≤ line then some (l ++ y, D.non) else none) = some p := e
          split at e
          · rename_i hz
            cases e
            obtain ⟨u, rfl, hu⟩ := one rfl
            unfold RepV at hu
            obtain ⟨b, zs, rfl, hb, nb, _, hrb⟩ := hu
            exact ⟨a, b, ws, zs, rfl, rfl, ha, hb, by rw [← hlen, ← hrb.length, line_eq]; exact hz, mut_go L hi hs (by rw [List.length_append]; exact hz) (hr.append hrb) (by unfold RepV; rfl) c⟩
          · cases e
        | _ => cases e
  | insert =>
    cases ds with
    | nil => cases e
    | cons x r =>
      cases r with
      | nil => cases x <;> cases e
      | cons y r =>
        cases r with
        | cons _ _ => cases x <;> cases e
        | nil =>
          cases x with
          | int k =>
            have e : (if l.length < line ∧ 0 ≤ k ∧ k < line then some (l.take k.toNat ++ [y] ++ l.drop k.toNat, D.non) else none) = some p := e
            split at e
            · rename_i hz
              obtain ⟨z1, z2, z3⟩ := hz
              cases e
              obtain ⟨u, us, rfl, h1, h2⟩ := hv.uncons
              obtain ⟨t, us, rfl, h3, h4⟩ := h2.uncons
              unfold RepVs at h4
              subst h4
              have := repVInt h1
              subst this
              have hl2 : ((line : Nat) : Int) = 16777216 := rfl
              rw [hl2] at z3
              refine ⟨a, ws, k, t, rfl, rfl, ha, by rw [← hlen, line_eq]; exact z1, z2, by omega, mut_go L hi hs ?_ (((hr.take k.toNat).append (.cons h3 .nil)).append (hr.drop k.toNat)) (by unfold RepV; rfl) c⟩
              simp only [List.length_append, List.length_take, List.length_drop, List.length_cons, List.length_nil]
              omega
            · cases e
          | _ => cases e
end
theorem ge_mut {m : Mut} {i : Nat} {es : Es} (h : (GoodEs P (spec P Φ) Gm Φ) es) : (GoodE P (spec P Φ) Gm Φ) (.mut m i es) := fun O W H σ ρ ρ1 r L e Q c => by
  unfold evE at e
  split at e
  · rename_i l0 hi
    obtain ⟨rs, ρa, ea, e⟩ := bindO_some e
    obtain ⟨ds, ρb, eb, e⟩ := bindO_some e
    split at e
    · rename_i l hib
      cases q : mutD m l ds with
      | none => rw [q] at e; cases e
      | some p =>
        rw [q] at e
        cases e
        obtain ⟨a, hs, w, ws, ha, hl, hr⟩ := L.own i _ hi
        have ty : tyV P.K "list" (.ref a) H := .inl ⟨rfl, ws, .inl (.inl ha)⟩
        have go : ∀ vs H1 W1, Rel P O W1 H1 σ ρa → Step σ ρ W H ρa W1 H1 → RepRs P O W1 H1 σ ρa rs vs → (tmps rs vs).Nodup → (∀ a ∈ tmps rs vs, H a = none) → ∃ W2, Rel P O W2 H1 σ ρb ∧ RepVs P (Av O W2) H1 ds vs ∧ Cont P O σ ρb W2 H1 (ρb.set i (some (true, .lst p.1))) (.v p.2) Q := fun vs H1 W1 L1 s1 hr nd fr => by
          obtain ⟨W2, L2', l2, hv⟩ := freezes_ok L1 hr nd eb
          exact ⟨W2, L2', hv, c.from (s1.lose L l2 fr)⟩
        cases m with
        | append => exact ⟨_, hs, ty, h O W H σ ρ ρa rs L ea _ fun vs H1 W1 L1 s1 hr nd fr => let ⟨_, L2', hv, c2⟩ := go vs H1 W1 L1 s1 hr nd fr; mut_ok L2' hib hs hv q c2⟩
        | pop => exact ⟨_, hs, ty, h O W H σ ρ ρa rs L ea _ fun vs H1 W1 L1 s1 hr nd fr => let ⟨_, L2', hv, c2⟩ := go vs H1 W1 L1 s1 hr nd fr; mut_ok L2' hib hs hv q c2⟩
        | remove => exact ⟨_, hs, ty, h O W H σ ρ ρa rs L ea _ fun vs H1 W1 L1 s1 hr nd fr => let ⟨_, L2', hv, c2⟩ := go vs H1 W1 L1 s1 hr nd fr; mut_ok L2' hib hs hv q c2⟩
        | extend => exact ⟨_, hs, ty, h O W H σ ρ ρa rs L ea _ fun vs H1 W1 L1 s1 hr nd fr => let ⟨_, L2', hv, c2⟩ := go vs H1 W1 L1 s1 hr nd fr; mut_ok L2' hib hs hv q c2⟩
        | insert => exact ⟨_, hs, ty, h O W H σ ρ ρa rs L ea _ fun vs H1 W1 L1 s1 hr nd fr => let ⟨_, L2', hv, c2⟩ := go vs H1 W1 L1 s1 hr nd fr; mut_ok L2' hib hs hv q c2⟩
        | pop0 =>
          have hn : es = .nil := by
            cases ds with
            | cons _ _ => cases q
            | nil =>
              cases rs with
              | nil =>
                cases es with
                | nil => rfl
                | cons x r =>
                  unfold evEs at ea
                  obtain ⟨x, ρ3, e3, ea⟩ := bindO_some ea
                  obtain ⟨xs, ρ4, e4, ea⟩ := bindO_some ea
                  cases ea
              | cons x xs =>
                unfold freezes at eb
                cases q1 : freeze x ρa with
                | none => rw [q1] at eb; cases eb
                | some y =>
                  obtain ⟨y1, y2⟩ := y
                  rw [q1] at eb
                  dsimp only at eb
                  cases q2 : freezes xs y2 with
                  | none => rw [q2] at eb; cases eb
                  | some z => rw [q2] at eb; cases eb
          subst hn
          unfold evEs at ea
          cases ea
          cases eb
          have k := mut_ok (Q := Q) L hib hs (ds := []) (vs := []) .nil q c
          exact ⟨_, hs, ty, k.2⟩
    · cases e
  · cases e
theorem wipe_eq_of {ns : List Nat} {T : Nat → Prop} {σ σ1 : L2.St} {ρ ρ1 : Env} (ch : Chg T (L2.wipe σ ns) ρ σ1 ρ1) (h : ∀ j, T j → j ∈ ns) : L2.wipe σ1 ns = L2.wipe σ ns :=
  wipe_eq (by rw [ch.lenS, wipe_length]) fun i n => by
    rw [(ch.out i fun z => n (h i z)).1, wipe_out n]
theorem ge_comp {ns : List Nat} {tg : Tg} {it : It} {t : T} {b : E} (hi : (GoodI P (spec P Φ) Gm Φ) it) (ht : (GoodT P (spec P Φ) Gm Φ) t) (hb : (GoodE P (spec P Φ) Gm Φ) b) : (GoodE P (spec P Φ) Gm Φ) (.comp ns tg it t b) := fun O W H σ ρ ρ1 r L e Q c => by
  unfold evE at e
  split at e
  · cases e
  · rename_i hin
    have hin : tgIn ns tg = true := by simpa using hin
    obtain ⟨its, ρa, ea, e⟩ := bindO_some e
    obtain ⟨accF, ρF, eb, e⟩ := bindO_some e
    cases e
    refine hi O W H σ ρ ρa its L ea _ fun J H1 W1 L1 s1 wok => fun D0 hD => ?_
    obtain ⟨hlen, G, Y, walk, stays, yok⟩ := wok
    have nO : ¬ O D0 := fun z => L1.oal D0 z hD
    let O' : AP := fun a => O a ∨ a = D0
    -- the turn
    let turn : Itm → Env → Option (Option D × Env) := fun d ρ2 => match setItm tg d ρ2 with
        | some ρ3 => bindO (evT Gm Φ t ρ3) fun k ρ4 => match k with
          | true => bindO (evE Gm Φ b ρ4) fun r ρ5 => bindO (freeze r ρ5) fun x ρ6 => some (some x, ρ6)
          | false => some (none, ρ4)
        | none => none
    let Pv : Nat → Hp → Prop := fun i Hh => ∃ acc us ρi Wi, compGo ns turn (its.drop i) acc ρi = some (accF, ρ1) ∧ Rel P O' Wi Hh σ ρi ∧ Step σ ρa W1 H1 ρi Wi Hh ∧ Hh D0 = some (.lst us) ∧ RepVs P (Av O' Wi) Hh acc us ∧ acc.length ≤ i
    have wD : ∀ {Wi Hh ρi}, Rel P O' Wi Hh σ ρi → ¬ OwnA σ ρi D0 := fun Li z => Li.ow D0 (Li.ownW z) (.inr rfl)
    refine lc_it walk Pv ?_ (fun i Hh hi p => ?_) (fun i x Hh H' hin' p y => ?_) fun Hh p => ?_
    · obtain ⟨L2', s2⟩ := L1.laidO (o := .lst []) hD
      exact ⟨[], [], ρa, W1, eb, L2', s2, upd_same, .nil, Nat.le_refl _⟩
    · obtain ⟨acc, us, ρi, Wi, _, Li, si, _⟩ := p
      exact stays Hh (.of si.keep)
    · obtain ⟨acc, us, ρi, Wi, go, Li, si, hus, hacc, hal⟩ := p
      have hget : its[i]? = some its[i] := List.getElem?_eq_getElem hin'
      have yk := yok i Hh x H' its[i] hget (.of si.keep) y
      rw [List.drop_eq_getElem_cons hin'] at go
      unfold compGo at go
      -- the item's heap
      obtain ⟨Lh, sh⟩ := yok_heap (Li.wipe ns) yk
      obtain ⟨Lh0, sh0⟩ := yok_heap Li yk
      have hus' : H' D0 = some (.lst us) := sh0.keep D0 _ hus (wD Li)
      have hacc' := hacc.kp (sh0.kp Li)
      have hT : ∃ res, turn its[i] (wipeE ρi ns) = some res := by
        cases q : turn its[i] (wipeE ρi ns) with
        | none => rw [q] at go; cases go
        | some res => exact ⟨res, rfl⟩
      obtain ⟨res, hT⟩ := hT
      rw [hT] at go
      have hT0 := hT
      simp only [turn] at hT
      cases q1 : setItm tg its[i] (wipeE ρi ns) with
      | none => rw [q1] at hT; cases hT
      | some ρ3 =>
        rw [q1] at hT
        dsimp only at hT
        obtain ⟨k, ρ4, et, hT⟩ := bindO_some hT
        refine itm_ok (Li.wipe ns) yk (fun a z => ?_) q1 fun σ1 L3 ch => ?_
        · rcases z with (z | z) | z
          · exact .inl (.inl z)
          · exact .inr (z ▸ hD)
          · exact (si.new a z).imp .inr fun q => q
        · have inN := tgIn_has hin
          refine ⟨wipe_eq_of ch inN, ?_⟩
          refine ht O' Wi H' σ1 ρ3 ρ4 k L3 et _ fun H3 W3 L4 s4 => ?_
          cases k with
          | false =>
            cases hT
            dsimp only at go
            rw [if_neg (by decide)]
            obtain ⟨L5, s5⟩ := Rel.back Lh0 L3 ch inN L4 s4
            refine ⟨acc, us, _, W3, go, L5, si.trans (sh0.trans s5), s5.keep D0 _ hus' (wD Lh0), hacc'.kp (s5.kp Lh0), Nat.le_succ_of_le hal⟩
          | true =>
            rw [if_pos rfl]
            obtain ⟨rx, ρ5, ex, hT⟩ := bindO_some hT
            obtain ⟨x6, ρ6, ef, hT⟩ := bindO_some hT
            cases hT
            dsimp only at go
            refine hb O' W3 H3 σ1 ρ4 ρ5 rx L4 ex _ fun v H4 W4 L5 s5 h5 f5 => ?_
            obtain ⟨W5, L6, l6, rv⟩ := freeze_ok L5 h5 ef
            have f5' : ∀ d a, rx = .o d → v = .ref a → H' a = none := fun d a e1 e2 => Classical.byContradiction fun q => s4.alive a q (f5 d a e1 e2)
            have s6 : Step σ1 ρ3 Wi H' ρ6 W5 H4 := (s4.trans s5).lose L3 l6 (freshAt (O := O) (W := W) f5')
            obtain ⟨L7, s7⟩ := Rel.back Lh0 L3 ch inN L6 s6
            have hus4 : H4 D0 = some (.lst us) := s7.keep D0 _ hus' (wD Lh0)
            have hacc4 := hacc'.kp (s7.kp Lh0)
            obtain ⟨L8, k8⟩ := L7.writeO (o := .lst (us ++ [v])) (p := D0) (.inr rfl) hus4 rfl
            refine ⟨us, hus4, ?_, acc ++ [x6], us ++ [v], _, W5, go, L8, (si.trans (sh0.trans s7)).writeO hD, upd_same, (hacc4.append (.cons rv .nil)).kp k8, by simp; exact hal⟩
            rw [← hacc.length, line_eq]
            omega
    · obtain ⟨acc, us, ρi, Wi, go, Li, si, hus, hacc, hal⟩ := p
      rw [List.drop_length] at go
      unfold compGo at go
      cases go
      obtain ⟨L9, k9⟩ := Li.takeO hus rfl nO
      have s9 : Step σ ρa W1 H1 ρ1 (fun a => Wi a ∨ a = D0) Hh := ⟨si.keep, fun a z => z.elim (si.new a) fun q => .inr (q ▸ hD), fun a z n => .inl (si.stay a z n), si.own, si.there, si.alive⟩
      refine (c.from s1) (.ref D0) Hh _ L9 s9 ⟨D0, rfl, .inr rfl, wD Li, us, hus, by omega, hacc.kp k9⟩ fun d a _ e => ?_
      cases e
      exact hD
end
end Mi

/-! MiD3h -/
set_option Elab.async false
set_option linter.all false
set_option maxRecDepth 100000
set_option maxHeartbeats 4000000
/-! MiD3h: dicts made, comprehensions of two clauses; all expressions. -/
namespace Mi
open PySem PySem.Spec PyProof.Rows L2
section
variable {P : TP} {Gm : Cfg} {Φ : Phi}
section
variable {O W W1 : AP} {H H1 : Hp} {σ : L2.St} {ρ ρ1 : Env}
/-- one place not seen -/
def hid (p : Addr) (H : Hp) : Hp := fun a => if a = p then none else H a
theorem hid_same {p : Addr} : hid p H p = none := if_pos rfl
theorem hid_ne {p a : Addr} (h : a ≠ p) : hid p H a = H a := if_neg h
theorem hid_upd {p : Addr} {o : HO} (h : H p = some o) : upd (hid p H) p o = H := by
  funext a
  by_cases e : a = p
  · subst e; rw [upd_same, h]
  · rw [upd_ne e, hid_ne e]
theorem hid_kp {p : Addr} {o : HO} (hp : H p = some o) (hm : isMut o = true) : Kp (fun a => a = p) (Av (fun a => O a ∨ a = p) W) (Av O W) H (hid p H) :=
  ⟨fun a u e n => by rw [hid_ne n]; exact e, fun a z => z ▸ ⟨o, hp, hm⟩, fun a z => .inl (.inr z), fun a z => .inl (z.imp .inl id)⟩
theorem Rel.hide {p : Addr} {o : HO} (L : Rel P (fun a => O a ∨ a = p) W H σ ρ) (hp : H p = some o) (hm : isMut o = true) (no : ¬ O p) : Rel P O W (hid p H) σ ρ := by
  have k := hid_kp (O := O) (W := W) hp hm
  have nw : ∀ a, W a → a ≠ p := fun a w z => L.ow a w (.inr z)
  refine ⟨L.len, fun a w => ?_, fun a z => ?_, fun a w z => L.ow a w (.inl z), fun i d e => ?_, fun i d e => ?_, L.inj⟩
  · obtain ⟨u, e, m⟩ := L.wmut a w
    exact ⟨u, by rw [hid_ne (nw a w)]; exact e, m⟩
  · have ne : a ≠ p := fun e => no (by subst e; exact z)
    rw [hid_ne ne]
    exact L.oal a (.inl z)
  · obtain ⟨v, e1, rv⟩ := L.fro i d e
    exact ⟨v, e1, rv.kp k⟩
  · obtain ⟨a, e1, w, ho⟩ := L.own i d e
    exact ⟨a, e1, w, ho.kp k (nw a w)⟩
/-- from a heap that lacks it -/
theorem Step.hide {p : Addr} {o : HO} {K : Hp} {W0 : AP} {ρ0 : Env} (s : Step σ ρ0 W0 (upd K p o) ρ W H) (hk : K p = none) : Step σ ρ0 W0 K ρ W (hid p H) := by
  refine ⟨fun a u e n => ?_, fun a w => ?_, s.stay, s.own, s.there, fun a z => ?_⟩
  · have ne := ne_of_none e hk
    rw [hid_ne ne]
    exact s.keep a u (by rw [upd_ne ne]; exact e) n
  · rcases s.new a w with h | h
    · exact .inl h
    · by_cases e : a = p
      · subst e; rw [upd_same] at h; cases h
      · rw [upd_ne e] at h; exact .inr h
  · have ne : a ≠ p := fun e => z (e ▸ hk)
    rw [hid_ne ne]
    exact s.alive a (by rw [upd_ne ne]; exact z)
end
theorem ge_dic0 : (GoodE P (spec P Φ) Gm Φ) .dic0 := fun O W H σ ρ ρ1 r L e Q c => by
  unfold evE at e
  cases e
  intro p hp
  obtain ⟨L1, s1, n1⟩ := L.made (o := .dK []) hp rfl
  exact c _ _ _ L1 s1 ⟨p, rfl, .inr rfl, n1, [], upd_same, rfl, .nil⟩ fun _ a _ e => by cases e; exact hp
theorem ge_dic1 {k v : E} (hk : (GoodE P (spec P Φ) Gm Φ) k) (hv : (GoodE P (spec P Φ) Gm Φ) v) : (GoodE P (spec P Φ) Gm Φ) (.dic1 k v) := fun O W H σ ρ ρ1 r L e Q c => by
  unfold evE at e
  obtain ⟨rk, ρa, ea, e⟩ := bindO_some e
  obtain ⟨rv, ρb, eb, e⟩ := bindO_some e
  obtain ⟨d, ρc, ec, e⟩ := bindO_some e
  intro p hp
  have nO : ¬ O p := fun z => L.oal p z hp
  obtain ⟨L0, s0⟩ := L.laidO (o := .dK []) hp
  refine hk _ W _ σ ρ ρa rk L0 ea _ fun vk H1 W1 L1 s1 h1 f1 => hv _ W1 H1 σ ρa ρb rv L1 eb _ fun vv H2 W2 L2' s2 h2 f2 => ?_
  obtain ⟨W3, L3, l3, rr⟩ := freeze_ok L2' h2 ec
  cases rk with
  | v y =>
    have e : (keyD y).map (fun ky => (R.o (D.dct [ky] [d]), ρc)) = some (r, ρ1) := e
    cases q : keyD y with
    | none => rw [q] at e; cases e
    | some ky =>
      rw [q] at e
      cases e
      have ek : vk = kV ky := repKey (RepV.repB (show RepV P _ H1 y vk from h1)) q
      subst ek
      have nw : ∀ {Wi Hh ρi}, Rel P (fun a => O a ∨ a = p) Wi Hh σ ρi → ¬ OwnA σ ρi p := fun Li z => Li.ow p (Li.ownW z) (.inr rfl)
      have hp2 : H2 p = some (.dK []) := s2.keep p _ (s1.keep p _ upd_same (nw L0)) (nw L1)
      refine ⟨hp2, [(ky, vv)], rfl, (show 1 ≤ 15 by decide), ?_⟩
      show Q (.ref p) (upd H2 p (.dK [(ky, vv)]))
      have fr : ∀ x a, rv = .o x → vv = .ref a → (upd H p (.dK [])) a = none := fun x a e1 e2 => Classical.byContradiction fun z => s1.alive a z (f2 x a e1 e2)
      have s3 : Step σ ρ W (upd H p (.dK [])) ρ1 W3 H2 := (s1.trans s2).lose L0 l3 (freshAt (O := O) (W := W) fr)
      have L4 := L3.hide hp2 rfl nO
      have s4 := s3.hide hp
      have k4 := hid_kp (O := O) (W := W3) hp2 rfl
      obtain ⟨L5, s5, n5⟩ := L4.made (o := .dK [(ky, vv)]) hid_same rfl
      have eH : upd (hid p H2) p (.dK [(ky, vv)]) = upd H2 p (.dK [(ky, vv)]) := by
        funext a
        by_cases e : a = p
        · subst e; rw [upd_same, upd_same]
        · rw [upd_ne e, upd_ne e, hid_ne e]
      rw [eH] at L5 s5
      have rr2 := (rr.kp k4).kp (kp_grow (o := .dK [(ky, vv)]) hid_same)
      rw [eH] at rr2
      exact (c.from s4) _ _ _ L5 s5 ⟨p, rfl, .inr rfl, n5, [vv], upd_same, rfl, .cons rr2 .nil⟩ fun _ a _ e => by cases e; exact hid_same
  | _ => cases e
theorem compGo_mono {vs : List Nat} {turn : Itm → Env → Option (Option D × Env)} : ∀ {ds : List Itm} {acc acc' : List D} {ρ ρ' : Env}, compGo vs turn ds acc ρ = some (acc', ρ') → acc.length ≤ acc'.length
  | [], acc, acc', ρ, ρ', h => by unfold compGo at h; cases h; exact Nat.le_refl _
  | d :: ds, acc, acc', ρ, ρ', h => by
    unfold compGo at h
    split at h
    · have := compGo_mono h
      rw [List.length_append] at this
      exact Nat.le_trans (Nat.le_add_right _ _) this
    · exact compGo_mono h
    · cases h
theorem compGo2_mono {vs : List Nat} {turn : Itm → Env → List D → Option (List D × Env)} (ht : ∀ d ρ acc acc' ρ', turn d ρ acc = some (acc', ρ') → acc.length ≤ acc'.length) : ∀ {ds : List Itm} {acc acc' : List D} {ρ ρ' : Env}, compGo2 vs turn ds acc ρ = some (acc', ρ') → acc.length ≤ acc'.length
  | [], acc, acc', ρ, ρ', h => by unfold compGo2 at h; cases h; exact Nat.le_refl _
  | d :: ds, acc, acc', ρ, ρ', h => by
    unfold compGo2 at h
    split at h
    · rename_i q
      exact Nat.le_trans (ht _ _ _ _ _ q) (compGo2_mono ht h)
    · cases h
theorem ge_comp2 {ns ns1 : List Nat} {tg tg1 : Tg} {it it1 : It} {t t1 : T} {b : E} (hi : (GoodI P (spec P Φ) Gm Φ) it) (ht : (GoodT P (spec P Φ) Gm Φ) t) (hi1 : (GoodI P (spec P Φ) Gm Φ) it1) (ht1 : (GoodT P (spec P Φ) Gm Φ) t1) (hb : (GoodE P (spec P Φ) Gm Φ) b) : (GoodE P (spec P Φ) Gm Φ) (.comp2 ns ns1 tg it t tg1 it1 t1 b) := fun O W H σ ρ ρ1 r L e Q c => by
  unfold evE at e
  split at e
  · cases e
  · rename_i hin
    have hin : (tgIn ns tg = true ∧ tgIn ns1 tg1 = true) ∧ (ns1.all fun i => ns.contains i) = true := by
      simp only [Bool.or_eq_true, not_or, Bool.not_eq_true', Bool.not_eq_false] at hin; exact hin
    obtain ⟨⟨hin1, hin2⟩, hsub⟩ := hin
    obtain ⟨its, ρa, ea, e⟩ := bindO_some e
    obtain ⟨accF, ρF, eb, e⟩ := bindO_some e
    split at e
    case isFalse => cases e
    rename_i hline
    cases e
    refine hi O W H σ ρ ρa its L ea _ fun J H1 W1 L1 s1 wok => fun D0 hD => ?_
    obtain ⟨hlen, G, Y, walk, stays, yok⟩ := wok
    have nO : ¬ O D0 := fun z => L1.oal D0 z hD
    let O' : AP := fun a => O a ∨ a = D0
    let turn1 : Itm → Env → Option (Option D × Env) := fun d1 ρ6 => match setItm tg1 d1 ρ6 with
            | some ρ7 => bindO (evT Gm Φ t1 ρ7) fun k1 ρ8 => match k1 with
              | true => bindO (evE Gm Φ b ρ8) fun r ρ9 => bindO (freeze r ρ9) fun x ρ10 => some (some x, ρ10)
              | false => some (none, ρ8)
            | none => none
    let turn : Itm → Env → List D → Option (List D × Env) := fun d ρ2 acc => match setItm tg d ρ2 with
        | some ρ3 => bindO (evT Gm Φ t ρ3) fun k ρ4 => match k with
          | true => bindO (evIt Gm Φ it1 ρ4) fun w1 ρ5 => compGo ns1 turn1 w1 acc ρ5
          | false => some (acc, ρ4)
        | none => none
    have tm : ∀ d ρ acc acc' ρ', turn d ρ acc = some (acc', ρ') → acc.length ≤ acc'.length := fun d ρ2 acc acc' ρ' h => by
      simp only [turn] at h
      cases q1 : setItm tg d ρ2 with
      | none => rw [q1] at h; cases h
      | some ρ3 =>
        rw [q1] at h
        dsimp only at h
        obtain ⟨k, ρ4, et, h⟩ := bindO_some h
        cases k with
        | false => cases h; exact Nat.le_refl _
        | true =>
          obtain ⟨w1, ρ5, ei, h⟩ := bindO_some h
          exact compGo_mono h
    have wD : ∀ {Wi Hh ρi} {σi : L2.St}, Rel P O' Wi Hh σi ρi → ¬ OwnA σi ρi D0 := fun Li z => Li.ow D0 (Li.ownW z) (.inr rfl)
    let Pv : Nat → Hp → Prop := fun i Hh => ∃ acc us ρi Wi K, Hh = upd K D0 (.lst us) ∧ K D0 = none ∧ compGo2 ns turn (its.drop i) acc ρi = some (accF, ρ1) ∧ Rel P O Wi K σ ρi ∧ Step σ ρa W1 H1 ρi Wi K ∧ RepVs P (Av O Wi) K acc us
    refine ⟨fun i m Hh => m = its.length - i ∧ i ≤ its.length ∧ Pv i Hh, ⟨its.length, rfl, Nat.zero_le _, [], [], ρa, W1, H1, rfl, hD, eb, L1, .refl, .nil⟩, ?_⟩
    rintro i m Hh ⟨rfl, hi', acc, us, ρi, Wi, K, rfl, hK, go, Li, si, hacc⟩
    obtain ⟨Lu, su⟩ := Li.laidO (o := .lst us) hK
    have st0 : Stays O σ ρa H1 (upd K D0 (.lst us)) := .of (si.trans su).keep
    by_cases hlt : i < its.length
    · refine .inr ⟨walk.goes i _ hlt (stays _ st0), Pv (i + 1), fun H' p' => ⟨its.length - (i + 1), by omega, rfl, hlt, p'⟩, fun x H' y => ?_⟩
      have y := walk.yields i _ x H' hlt (stays _ st0) y
      have hget : its[i]? = some its[i] := List.getElem?_eq_getElem hlt
      have yk := yok i _ x H' its[i] hget st0 y
      rw [List.drop_eq_getElem_cons hlt] at go
      unfold compGo2 at go
      obtain ⟨Lh0, sh0⟩ := yok_heap Lu yk
      have hus' : H' D0 = some (.lst us) := sh0.keep D0 _ upd_same (wD Lu)
      cases hT : turn its[i] (wipeE ρi ns) acc with
      | none => rw [hT] at go; cases go
      | some res =>
        obtain ⟨acc1, ρ6⟩ := res
        rw [hT] at go
        dsimp only at go
        have hl1 : acc1.length ≤ line := Nat.le_trans (compGo2_mono tm go) hline
        simp only [turn] at hT
        cases q1 : setItm tg its[i] (wipeE ρi ns) with
        | none => rw [q1] at hT; cases hT
        | some ρ3 =>
          rw [q1] at hT
          dsimp only at hT
          obtain ⟨k, ρ4, et, hT⟩ := bindO_some hT
          refine itm_ok (O := O') (W := Wi) (Lu.wipe ns) yk (fun a z => ?_) q1 fun σ1 L3 ch => ?_
          · rcases z with (z | z) | z
            · exact .inl (.inl z)
            · exact .inr (z ▸ hD)
            · exact (si.new a z).imp .inr fun q => q
          have inN := tgIn_has hin1
          refine ⟨wipe_eq_of ch inN, ht O' Wi H' σ1 ρ3 ρ4 k L3 et _ fun H3 W3 L4 s4 => ?_⟩
          -- the heap without the new list
          have hK' : H' = upd (hid D0 H') D0 (.lst us) := (hid_upd hus').symm
          have LiH : Rel P O Wi (hid D0 H') σ ρi := Lh0.hide hus' rfl nO
          have siH : Step σ ρi Wi K ρi Wi (hid D0 H') := sh0.hide hK
          have L3H : Rel P O Wi (hid D0 H') σ1 ρ3 := L3.hide hus' rfl nO
          have fin : ∀ {W6 : AP} {K6 : Hp} {us6 : List V}, K6 D0 = none → Rel P O W6 K6 σ1 ρ6 → Step σ1 ρ3 Wi (hid D0 H') ρ6 W6 K6 → RepVs P (Av O W6) K6 acc1 us6 → Pv (i + 1) (upd K6 D0 (.lst us6)) := fun {W6 K6 us6} k6 L6 s6 r6 => by
            obtain ⟨L7, s7⟩ := Rel.back LiH L3H ch inN L6 s6
            exact ⟨acc1, us6, _, W6, K6, rfl, k6, go, L7, (si.trans siH).trans s7, r6⟩
          have hacc0 : RepVs P (Av O Wi) (hid D0 H') acc us := hacc.kp (siH.kp Li)
          cases k with
          | false =>
            cases hT
            rw [if_neg (by decide)]
            have h3D : H3 D0 = some (.lst us) := s4.keep D0 _ hus' (wD L3)
            rw [← hid_upd h3D]
            rw [hK'] at s4
            have s4' := s4.hide hid_same
            exact fin hid_same (L4.hide h3D rfl nO) s4' (hacc0.kp (s4'.kp L3H))
          | true =>
            rw [if_pos rfl]
            obtain ⟨w1, ρ5, ei, hT⟩ := bindO_some hT
            refine hi1 O' W3 H3 σ1 ρ4 ρ5 w1 L4 ei _ fun J1 H4 W4 L5 s5 wok1 => ?_
            obtain ⟨hlen1, G1, Y1, walk1, stays1, yok1⟩ := wok1
            have h4D : H4 D0 = some (.lst us) := s5.keep D0 _ (s4.keep D0 _ hus' (wD L3)) (wD L4)
            have s45 : Step σ1 ρ3 Wi (hid D0 H') ρ5 W4 (hid D0 H4) := by
              have z := s4.trans s5
              rw [hK'] at z
              exact z.hide hid_same
            have L5H : Rel P O W4 (hid D0 H4) σ1 ρ5 := L5.hide h4D rfl nO
            let Pw : Nat → Hp → Prop := fun j Hh => ∃ acc2 us2 ρj Wj Kj, Hh = upd Kj D0 (.lst us2) ∧ Kj D0 = none ∧ compGo ns1 turn1 (w1.drop j) acc2 ρj = some (acc1, ρ6) ∧ Rel P O Wj Kj σ1 ρj ∧ Step σ1 ρ5 W4 (hid D0 H4) ρj Wj Kj ∧ RepVs P (Av O Wj) Kj acc2 us2
            refine ⟨fun j m Hh => m = w1.length - j ∧ j ≤ w1.length ∧ Pw j Hh, ⟨w1.length, rfl, Nat.zero_le _, acc, us, ρ5, W4, hid D0 H4, (hid_upd h4D).symm, hid_same, hT, L5H, .refl, hacc0.kp (s45.kp L3H)⟩, ?_⟩
            rintro j m Hh ⟨rfl, hj', acc2, us2, ρj, Wj, Kj, rfl, hKj, goj, Lj, sj, haccj⟩
            obtain ⟨Lv, sv⟩ := Lj.laidO (o := .lst us2) hKj
            have st1 : Stays O' σ1 ρ5 H4 (upd Kj D0 (.lst us2)) := ⟨fun a => a = D0, fun a z => z ▸ ⟨.inr rfl, _, h4D, rfl⟩, fun a o e n nb => by
              rw [upd_ne nb]
              exact sj.keep a o (by rw [hid_ne nb]; exact e) n⟩
            by_cases hlt1 : j < w1.length
            · refine .inr ⟨walk1.goes j _ hlt1 (stays1 _ st1), Pw (j + 1), fun H5 p' => ⟨w1.length - (j + 1), by omega, rfl, hlt1, p'⟩, fun x1 H5 y1 => ?_⟩
              have y1 := walk1.yields j _ x1 H5 hlt1 (stays1 _ st1) y1
              have hget1 : w1[j]? = some w1[j] := List.getElem?_eq_getElem hlt1
              have yk1 := yok1 j _ x1 H5 w1[j] hget1 st1 y1
              rw [List.drop_eq_getElem_cons hlt1] at goj
              unfold compGo at goj
              obtain ⟨Lh1, sh1⟩ := yok_heap Lv yk1
              have hus5 : H5 D0 = some (.lst us2) := sh1.keep D0 _ upd_same (wD Lv)
              have hK5 : H5 = upd (hid D0 H5) D0 (.lst us2) := (hid_upd hus5).symm
              have LjH : Rel P O Wj (hid D0 H5) σ1 ρj := Lh1.hide hus5 rfl nO
              have sjH : Step σ1 ρj Wj Kj ρj Wj (hid D0 H5) := sh1.hide hKj
              cases hT1 : turn1 w1[j] (wipeE ρj ns1) with
              | none => rw [hT1] at goj; cases goj
              | some res1 =>
                rw [hT1] at goj
                simp only [turn1] at hT1
                cases q2 : setItm tg1 w1[j] (wipeE ρj ns1) with
                | none => rw [q2] at hT1; cases hT1
                | some ρ7 =>
                  rw [q2] at hT1
                  dsimp only at hT1
                  obtain ⟨k1, ρ8, et1, hT1⟩ := bindO_some hT1
                  refine itm_ok (O := O') (W := Wj) (Lv.wipe ns1) yk1 (fun a z => ?_) q2 fun σ2 L7 ch1 => ?_
                  · rcases z with z | z
                    · exact .inl (.inl z)
                    · rcases sj.new a z with q | q
                      · exact .inl (.inr q)
                      · by_cases e : a = D0
                        · exact .inl (.inl (.inr e))
                        · rw [hid_ne e] at q; exact .inr q
                  have inN1 := tgIn_has hin2
                  have L7H : Rel P O Wj (hid D0 H5) σ2 ρ7 := L7.hide hus5 rfl nO
                  refine ⟨wipe_eq_of ch1 inN1, ht1 O' Wj H5 σ2 ρ7 ρ8 k1 L7 et1 _ fun H6 W6 L8 s8 => ?_⟩
                  have hacc5 : RepVs P (Av O Wj) (hid D0 H5) acc2 us2 := haccj.kp (sjH.kp Lj)
                  cases k1 with
                  | false =>
                    cases hT1
                    dsimp only at goj
                    rw [if_neg (by decide)]
                    have h6D : H6 D0 = some (.lst us2) := s8.keep D0 _ hus5 (wD L7)
                    rw [hK5] at s8
                    have s8' := s8.hide hid_same
                    obtain ⟨L9, s9⟩ := Rel.back LjH L7H ch1 inN1 (L8.hide h6D rfl nO) s8'
                    exact ⟨acc2, us2, _, W6, hid D0 H6, (hid_upd h6D).symm, hid_same, goj, L9, (sj.trans sjH).trans s9, hacc5.kp (s9.kp LjH)⟩
                  | true =>
                    rw [if_pos rfl]
                    obtain ⟨rx, ρ9, ex, hT1⟩ := bindO_some hT1
                    obtain ⟨x6, ρ10, ef, hT1⟩ := bindO_some hT1
                    cases hT1
                    dsimp only at goj
                    refine hb O' W6 H6 σ2 ρ8 ρ9 rx L8 ex _ fun v H7 W7 L9 s9 h9 f9 => ?_
                    obtain ⟨W8, L10, l10, rv⟩ := freeze_ok L9 h9 ef
                    have f9' : ∀ d a, rx = .o d → v = .ref a → H5 a = none := fun d a e1 e2 => Classical.byContradiction fun q => s8.alive a q (f9 d a e1 e2)
                    have s10 : Step σ2 ρ7 Wj H5 ρ10 W8 H7 := (s8.trans s9).lose L7 l10 (freshAt (O := O) (W := W) f9')
                    have h7D : H7 D0 = some (.lst us2) := s10.keep D0 _ hus5 (wD L7)
                    rw [hK5] at s10
                    have s10' := s10.hide hid_same
                    obtain ⟨L11, s11⟩ := Rel.back LjH L7H ch1 inN1 (L10.hide h7D rfl nO) s10'
                    have hl2 : (acc2 ++ [x6]).length ≤ line := Nat.le_trans (compGo_mono goj) hl1
                    have hacc7 := hacc5.kp (s11.kp LjH)
                    refine ⟨us2, h7D, ?_, acc2 ++ [x6], us2 ++ [v], _, W8, hid D0 H7, ?_, hid_same, goj, L11, (sj.trans sjH).trans s11, hacc7.append (.cons (rv.kp (hid_kp h7D rfl)) .nil)⟩
                    · rw [← hacc7.length, line_eq]
                      rw [List.length_append] at hl2
                      exact hl2
                    · funext a
                      by_cases e : a = D0
                      · subst e; rw [upd_same, upd_same]
                      · rw [upd_ne e, upd_ne e, hid_ne e]
            · have ej : j = w1.length := by omega
              subst ej
              refine .inl ⟨walk1.stops _ (stays1 _ st1), ?_⟩
              rw [List.drop_length] at goj
              unfold compGo at goj
              cases goj
              exact fin hKj Lj (s45.trans sj) haccj
    · have ei : i = its.length := by omega
      subst ei
      refine .inl ⟨walk.stops _ (stays _ st0), ?_⟩
      rw [List.drop_length] at go
      unfold compGo2 at go
      cases go
      obtain ⟨L9, s9, n9⟩ := Li.made (o := .lst us) hK rfl
      exact (c.from (s1.trans si)) (.ref D0) _ _ L9 s9 ⟨D0, rfl, .inr rfl, n9, us, upd_same, hline, hacc.kp (kp_grow hK)⟩ fun d a _ e => by cases e; exact hK
mutual
theorem soundE (ok : CfgOk P Gm) : ∀ e : E, (GoodE P (spec P Φ) Gm Φ) e
  | .var _ => ge_var | .glob _ => ge_glob ok | .cint _ => ge_cint | .cbl _ => ge_cbl | .cnon => ge_cnon | .cstr _ => ge_cstr | .cty _ => ge_cty
  | .tup es => ge_tup (soundA ok es) | .lst es => ge_lst (soundA ok es)
  | .bin _ a b => ge_bin (soundE ok a) (soundE ok b) | .neg a => ge_neg (soundE ok a) | .notv a => ge_notv (soundE ok a)
  | .andv a b => ge_andv (soundE ok a) (soundE ok b) | .orv a b => ge_orv (soundE ok a) (soundE ok b)
  | .cmp _ a b => ge_cmp (soundE ok a) (soundE ok b) | .chain _ _ a b c => ge_chain (soundE ok a) (soundE ok b) (soundE ok c)
  | .ite t a b => ge_ite (soundT ok t) (soundE ok a) (soundE ok b)
  | .idx a b => ge_idx (soundE ok a) (soundE ok b) | .sl a lo hi => ge_sl (soundE ok a) (soundO ok lo) (soundO ok hi) | .rev a => ge_rev (soundE ok a)
  | .call _ es => ge_call (soundA ok es) | .make _ es => ge_make (soundA ok es) | .callb _ es => ge_callb (soundA ok es)
  | .meth _ a b => ge_meth (soundE ok a) (soundE ok b) | .mut _ _ es => ge_mut (soundA ok es)
  | .attr a _ => ge_attr ok (soundE ok a)
  | .comp _ _ it t b => ge_comp (soundI ok it) (soundT ok t) (soundE ok b)
  | .lrange es => ge_lrange (soundA ok es)
  | .dic0 => ge_dic0 | .dic1 a b => ge_dic1 (soundE ok a) (soundE ok b)
  | .comp2 _ _ _ it t _ it1 t1 b => ge_comp2 (soundI ok it) (soundT ok t) (soundI ok it1) (soundT ok t1) (soundE ok b)
theorem soundT (ok : CfgOk P Gm) : ∀ t : T, (GoodT P (spec P Φ) Gm Φ) t
  | .yes => gt_yes | .val e => gt_val (soundE ok e) | .and a b => gt_and (soundT ok a) (soundT ok b) | .or a b => gt_or (soundT ok a) (soundT ok b) | .not a => gt_not (soundT ok a)
theorem soundA (ok : CfgOk P Gm) : ∀ es : Es, (GoodEs P (spec P Φ) Gm Φ) es
  | .nil => ga_nil | .cons e r => ga_cons (soundE ok e) (soundA ok r)
theorem soundO (ok : CfgOk P Gm) : ∀ o : Oe, GoodO P (spec P Φ) Gm Φ o
  | .none => go_none | .some e => go_some (soundE ok e)
theorem soundI (ok : CfgOk P Gm) : ∀ it : It, (GoodI P (spec P Φ) Gm Φ) it
  | .seq e => gi_seq (soundE ok e) | .range1 a => gi_range1 (soundE ok a) | .range2 a b => gi_range2 (soundE ok a) (soundE ok b) | .zip a b => gi_zip (soundE ok a) (soundE ok b) | .enum a => gi_enum (soundE ok a)
end
end
end Mi

/-! MiD4 -/
set_option Elab.async false
set_option linter.all false
set_option maxRecDepth 100000
set_option maxHeartbeats 4000000
/-! MiD4: statements. -/
namespace Mi
open PySem PySem.Spec PyProof.Rows L2
/-- from one state to a later one, slots stored to; the slots fx keep their values -/
structure SStep (fx : List Nat) (σ : L2.St) (ρ : Env) (W : AP) (H : Hp) (σ' : L2.St) (ρ' : Env) (W' : AP) (H' : Hp) : Prop where
  keep : ∀ a o, H a = some o → ¬ OwnA σ ρ a → H' a = some o
  new : ∀ a, W' a → W a ∨ H a = none
  own : ∀ a, OwnA σ' ρ' a → OwnA σ ρ a ∨ H a = none
  alive : ∀ a, H a ≠ none → H' a ≠ none
  fixed : ∀ i ∈ fx, σ'[i]? = σ[i]?
  lenR : ρ'.length = ρ.length
section
variable {P : TP} {O W W1 W2 : AP} {H H1 H2 : Hp} {σ σ1 σ2 : L2.St} {ρ ρ1 ρ2 : Env} {fx : List Nat} {r : R}
theorem SStep.refl : SStep fx σ ρ W H σ ρ W H := ⟨fun _ _ e _ => e, fun _ h => .inl h, fun _ h => .inl h, fun _ h => h, fun _ _ => rfl, rfl⟩
theorem SStep.trans (s : SStep fx σ ρ W H σ1 ρ1 W1 H1) (t : SStep fx σ1 ρ1 W1 H1 σ2 ρ2 W2 H2) : SStep fx σ ρ W H σ2 ρ2 W2 H2 where
  keep := fun a o e n => t.keep a o (s.keep a o e n) fun z => (s.own a z).elim n fun q => by rw [e] at q; cases q
  new := fun a h => by
    rcases t.new a h with h | h
    · exact s.new a h
    · exact .inr (Classical.byContradiction fun q => s.alive a q h)
  own := fun a h => by
    rcases t.own a h with h | h
    · exact s.own a h
    · exact .inr (Classical.byContradiction fun q => s.alive a q h)
  alive := fun a h => t.alive a (s.alive a h)
  fixed := fun i h => (t.fixed i h).trans (s.fixed i h)
  lenR := t.lenR.trans s.lenR
theorem Step.ss (s : Step σ ρ W H ρ1 W1 H1) (L : Rel P O W H σ ρ) (L1 : Rel P O W1 H1 σ ρ1) : SStep fx σ ρ W H σ ρ1 W1 H1 :=
  ⟨s.keep, s.new, fun a h => .inl (s.own a h), s.alive, fun _ _ => rfl, by rw [L1.len, L.len]⟩
theorem Chg.ss {T : Nat → Prop} (c : Chg T σ ρ σ1 ρ1) (h : ∀ i ∈ fx, ¬ T i) : SStep fx σ ρ W H σ1 ρ1 W H :=
  ⟨fun _ _ e _ => e, fun _ h => .inl h, fun a h => .inl (c.ownA h), fun _ h => h, fun i hi => (c.out i (h i hi)).1, c.lenR⟩
theorem SStep.kp (L : Rel P O W H σ ρ) (s : SStep fx σ ρ W H σ1 ρ1 W1 H1) : Kp (OwnA σ ρ) (Av O W) (Av O W1) H H1 where
  keep := s.keep
  wm := fun a h => L.wmut a (L.ownW h)
  wa := fun a h => .inr (L.ownW h)
  av := fun a h => h.elim (fun z => .inl (.inl z)) fun z => (s.new a z).elim (fun q => .inl (.inr q)) .inr
theorem tgFree_has : ∀ {tg : Tg}, tgFree fx tg = true → ∀ i ∈ fx, ¬ tgHas tg i
  | .var j, h, i, hi, e => by
    have e : i = j := e
    subst e
    simp [tgFree] at h
    exact h hi
  | .nil, _, _, _, e => e
  | .cons a r, h, i, hi, e => by
    unfold tgFree at h
    rw [Bool.and_eq_true] at h
    exact e.elim (tgFree_has h.1 i hi) (tgFree_has h.2 i hi)
theorem own_ss (s : Step σ ρ W H ρ1 W1 H1) (L : Rel P O W H σ ρ) (L1 : Rel P O W1 H1 σ ρ1) (o : ∀ b, OwnA σ2 ρ2 b → OwnA σ ρ1 b ∨ H b = none) (k : ∀ i ∈ fx, σ2[i]? = σ[i]?) (l : ρ2.length = ρ1.length) : SStep fx σ ρ W H σ2 ρ2 W1 H1 :=
  ⟨s.keep, s.new, fun a h => (o a h).imp (s.own a) fun z => z, s.alive, k, by rw [l, L1.len, L.len]⟩
/-- what a statement hands on -/
def SCont (P : TP) (O : AP) (fx : List Nat) (σ : L2.St) (ρ : Env) (W : AP) (H : Hp) (ρ1 : Env) (fl : Fl) (D : Ends) : Prop :=
  ∀ σ1 W1 H1, Rel P O W1 H1 σ1 ρ1 → SStep fx σ ρ W H σ1 ρ1 W1 H1 → match fl with
    | .nx => D.nx σ1 H1
    | .rt r => ∀ v, RepR P O W1 H1 σ1 ρ1 r v → D.rt v H1
    | .brk => D.bk σ1 H1
    | .cnt => D.ct σ1 H1
theorem SCont.from {fl : Fl} {D : Ends} (c : SCont P O fx σ ρ W H ρ2 fl D) (s : SStep fx σ ρ W H σ1 ρ1 W1 H1) : SCont P O fx σ1 ρ1 W1 H1 ρ2 fl D := fun σ2 W2 H2 L t => c σ2 W2 H2 L (s.trans t)
end
section
variable (P : TP) (call : Nat → Sp) (Gm : Cfg) (Φ : Phi) (fx : List Nat)
def GoodS (s : S) : Prop := ∀ (O W : AP) (H : Hp) (σ : L2.St) (ρ ρ1 : Env) (fl : Fl), Rel P O W H σ ρ → evS Gm Φ fx s ρ = some (fl, ρ1) → ∀ D : Ends, SCont P O fx σ ρ W H ρ1 fl D → tS P call s D σ H
def GoodSs (s : Ss) : Prop := ∀ (O W : AP) (H : Hp) (σ : L2.St) (ρ ρ1 : Env) (fl : Fl), Rel P O W H σ ρ → evSs Gm Φ fx s ρ = some (fl, ρ1) → ∀ D : Ends, SCont P O fx σ ρ W H ρ1 fl D → tSs P call s D σ H
end
section
variable {P : TP} {Gm : Cfg} {Φ : Phi} {fx : List Nat}
theorem gs_asg {tg : Tg} {a : E} (ha : (GoodE P (spec P Φ) Gm Φ) a) : (GoodS P (spec P Φ) Gm Φ fx) (.asg tg a) := fun O W H σ ρ ρ1 fl L e D c => by
  unfold evS at e
  split at e
  · rename_i hf
    obtain ⟨r, ρa, ea, e⟩ := bindO_some e
    obtain ⟨d, ρb, eb, e⟩ := bindO_some e
    refine ha O W H σ ρ ρa r L ea _ fun v H1 W1 L1 s1 h1 f1 => ?_
    obtain ⟨W2, L2', l2, rv⟩ := freeze_ok L1 h1 eb
    have s2 := s1.lose L l2 (freshAt (O := O) (W := W) f1)
    cases q : setTg tg d ρb with
    | none => rw [q] at e; cases e
    | some ρc =>
      rw [q] at e
      cases e
      exact tg_ok L2' rv q fun σ1 L3 ch => c σ1 W2 H1 L3 ((s2.ss L L2').trans (ch.ss (tgFree_has hf)))
  · cases e
theorem gs_own {i : Nat} {a : E} (ha : (GoodE P (spec P Φ) Gm Φ) a) : (GoodS P (spec P Φ) Gm Φ fx) (.own i a) := fun O W H σ ρ ρ1 fl L e D c => by
  unfold evS at e
  split at e
  · cases e
  · rename_i hf
    obtain ⟨r, ρa, ea, e⟩ := bindO_some e
    refine ha O W H σ ρ ρa r L ea _ fun v H1 W1 L1 s1 h1 f1 => ?_
    have frz : ∀ {r : R}, RepR P O W1 H1 σ ρa r v → (∀ d a, r = .o d → v = .ref a → H a = none) → (bindO (freeze r ρa) fun d ρ2 => if i < ρ2.length then some (Fl.nx, ρ2.set i (some (false, d))) else none) = some (fl, ρ1) → gName i v σ H1 D.nx := fun {r} h1 f1 e => by
      obtain ⟨d, ρb, eb, e⟩ := bindO_some e
      obtain ⟨W2, L2', l2, rv⟩ := freeze_ok L1 h1 eb
      have s2 := s1.lose L l2 (freshAt (O := O) (W := W) f1)
      split at e
      · rename_i hi
        cases e
        obtain ⟨L3, ch⟩ := L2'.store hi rv
        exact c _ W2 H1 L3 ((s2.ss L L2').trans (ch.ss fun j hj z => hf (z ▸ hj)))
      · cases e
    cases r with
    | v d => exact frz h1 f1 e
    | b j => exact frz h1 f1 e
    | o d =>
      have e : (if i < ρa.length then some (Fl.nx, ρa.set i (some (true, d))) else none) = some (fl, ρ1) := e
      split at e
      · rename_i hi
        cases e
        obtain ⟨p, rfl, w, n, ho⟩ := h1
        obtain ⟨L3, o3, k3⟩ := L1.storeO hi w n ho
        exact c _ W1 H1 L3 (own_ss s1 L L1 (fun b hb => (o3 b hb).imp (fun z => z) fun z => by rw [z]; exact f1 d p rfl rfl) (fun j hj => (k3 j fun z => hf (z ▸ hj)).1) (by rw [List.length_set]))
      · cases e
/-! several at once -/
inductive ParRep (P : TP) (A W : AP) (H : Hp) (N : AP) : List (Bool × D) → List V → List Addr → Prop
  | nil : ParRep P A W H N [] [] []
  | fro {d : D} {v : V} {xs : List (Bool × D)} {vs : List V} {as : List Addr} : RepV P A H d v → ParRep P A W H N xs vs as → ParRep P A W H N ((false, d) :: xs) (v :: vs) as
  | own {d : D} {a : Addr} {xs : List (Bool × D)} {vs : List V} {as : List Addr} : OwnV P A H d a → W a → ¬ N a → ParRep P A W H N xs vs as → ParRep P A W H N ((true, d) :: xs) (.ref a :: vs) (a :: as)
theorem ParRep.mono' {A W : AP} {H : Hp} {N N' : AP} {xs : List (Bool × D)} {vs : List V} {as : List Addr} (h : ParRep P A W H N xs vs as) : (∀ a ∈ as, ¬ N a → ¬ N' a) → ParRep P A W H N' xs vs as := by
  induction h with
  | nil => exact fun _ => .nil
  | fro h _ ih => exact fun k => .fro h (ih k)
  | own h w n _ ih => exact fun k => .own h w (k _ List.mem_cons_self n) (ih fun a ha => k a (List.mem_cons_of_mem _ ha))
theorem ParRep.mono {A W : AP} {H : Hp} {N N' : AP} {xs : List (Bool × D)} {vs : List V} {as : List Addr} (h : ParRep P A W H N xs vs as) (k : ∀ a, ¬ N a → ¬ N' a) : ParRep P A W H N' xs vs as := h.mono' fun a _ => k a
theorem ParRep.kp {A A' W : AP} {H H' : Hp} {N : AP} {xs : List (Bool × D)} {vs : List V} {as : List Addr} (k : Kp (fun _ => False) A A' H H') (h : ParRep P A W H N xs vs as) : ParRep P A' W H' N xs vs as := by
  induction h with
  | nil => exact .nil
  | fro h _ ih => exact .fro (h.kp k) ih
  | own h w n _ ih => exact .own (h.kp k fun z => z) w n ih
theorem prep_ok {O : AP} {H : Hp} {σ : L2.St} : ∀ {ts : List (Nat × Bool)} {rs : List R} {vs : List V} {W : AP} {ρ : Env} {p : List (Bool × D) × Env}, Rel P O W H σ ρ → RepRs P O W H σ ρ rs vs → (tmps rs vs).Nodup → prep ts rs ρ = some p →
    ∃ W1 as, Rel P O W1 H σ p.2 ∧ Lose σ ρ W p.2 W1 (fun a => a ∈ tmps rs vs) ∧ ParRep P (Av O W1) W1 H (OwnA σ p.2) p.1 vs as ∧ as.Nodup ∧ (∀ a ∈ as, a ∈ tmps rs vs) ∧ ts.length = vs.length
  | [], [], vs, W, ρ, p, L, h, nd, e => by
    cases e
    have h : vs = [] := h
    subst h
    exact ⟨W, [], L, .refl, .nil, .nil, (fun _ h => nomatch h), rfl⟩
  | [], _ :: _, _, _, _, _, _, _, _, e => by cases e
  | _ :: _, [], _, _, _, _, _, _, _, e => by cases e
  | (i, own) :: ts, r :: rs, _, W, ρ, p, L, ⟨v, us, e0, h1, h2⟩, nd, e => by
    subst e0
    have frz : (match freeze r ρ with
      | some (d, ρ1) => (prep ts rs ρ1).map fun p => ((false, d) :: p.1, p.2)
      | none => none) = some p → ∃ W1 as, Rel P O W1 H σ p.2 ∧ Lose σ ρ W p.2 W1 (fun a => a ∈ tmps (r :: rs) (v :: us)) ∧ ParRep P (Av O W1) W1 H (OwnA σ p.2) p.1 (v :: us) as ∧ as.Nodup ∧ (∀ a ∈ as, a ∈ tmps (r :: rs) (v :: us)) ∧ ((i, own) :: ts).length = (v :: us).length := fun e => by
      cases q : freeze r ρ with
      | none => rw [q] at e; cases e
      | some y =>
        obtain ⟨d, ρ2⟩ := y
        rw [q] at e
        dsimp only at e
        cases q2 : prep ts rs ρ2 with
        | none => rw [q2] at e; cases e
        | some z =>
          rw [q2] at e
          cases e
          obtain ⟨W2, L2', l2, rd⟩ := freeze_ok L h1 q
          have nd2 : (tmps rs us).Nodup ∧ ∀ a, (∃ x, r = .o x) ∧ v = .ref a → a ∉ tmps rs us := by
            cases r with
            | o d =>
              cases v <;> first
                | exact ⟨(List.nodup_cons.mp nd).2, fun a h => by obtain ⟨_, e⟩ := h; cases e; exact (List.nodup_cons.mp nd).1⟩
                | exact ⟨nd, fun a h => by obtain ⟨_, e⟩ := h; cases e⟩
            | v d => exact ⟨nd, fun a h => by obtain ⟨⟨_, e⟩, _⟩ := h; cases e⟩
            | b d => exact ⟨nd, fun a h => by obtain ⟨⟨_, e⟩, _⟩ := h; cases e⟩
          obtain ⟨W3, as, L3, l3, pr, ndA, sub, ln⟩ := prep_ok L2' (h2.lose l2 fun a ha h => nd2.2 a h ha) nd2.1 q2
          have inc : ∀ a, a ∈ tmps rs us → a ∈ tmps (r :: rs) (v :: us) := fun a ha => by
            cases r with
            | o d => cases v <;> first | exact List.mem_cons_of_mem _ ha | exact ha
            | v d => exact ha
            | b d => exact ha
          have k : Kp (fun _ => False) (Av O W2) (Av O W3) H H := Kp.less fun b z => z.elim .inl fun q => .inr (l3.sub b q)
          refine ⟨W3, as, L3, (l2.mono fun a h => ?_).trans (l3.mono inc), .fro (rd.kp k) pr, ndA, fun a ha => inc a (sub a ha), by simp [ln]⟩
          obtain ⟨⟨x, e⟩, e2⟩ := h
          subst e e2
          exact List.mem_cons_self
    unfold prep at e
    cases own with
    | false => exact frz e
    | true =>
      cases r with
      | v d => exact frz e
      | b d => exact frz e
      | o d =>
        dsimp only at e
        cases q2 : prep ts rs ρ with
        | none => rw [q2] at e; cases e
        | some z =>
          rw [q2] at e
          cases e
          have h1' := h1
          obtain ⟨a, rfl, w, n, ho⟩ := h1'
          obtain ⟨n1, n2⟩ := List.nodup_cons.mp nd
          obtain ⟨W3, as, L3, l3, pr, ndA, sub, ln⟩ := prep_ok L h2 n2 q2
          obtain ⟨b, eb, w', n', ho'⟩ := h1.lose l3 fun d b _ e z => by cases e; exact n1 z
          cases eb
          exact ⟨W3, a :: as, L3, l3.mono fun b hb => List.mem_cons_of_mem _ hb, .own ho' w' n' pr, List.nodup_cons.mpr ⟨fun z => n1 (sub a z), ndA⟩, fun b hb => by
            rcases List.mem_cons.mp hb with z | z
            · subst z; exact List.mem_cons_self
            · exact List.mem_cons_of_mem _ (sub b z), by simp [ln]⟩
theorem setAll_ok {O W : AP} {H : Hp} : ∀ {ts : List (Nat × Bool)} {xs : List (Bool × D)} {vs : List V} {as : List Addr} {σ : L2.St} {ρ : Env} {Q : L2.St → Hp → Prop}, Rel P O W H σ ρ → ParRep P (Av O W) W H (OwnA σ ρ) xs vs as → as.Nodup → ts.length = vs.length → (∀ t ∈ ts, t.1 < ρ.length) →
    (∀ σ1, Rel P O W H σ1 (setAll ts xs ρ) → (∀ b, OwnA σ1 (setAll ts xs ρ) b → OwnA σ ρ b ∨ b ∈ as) → (∀ j, j ∉ ts.map (·.1) → σ1[j]? = σ[j]?) → (setAll ts xs ρ).length = ρ.length → Q σ1 H) → gNames ts vs σ H Q
  | [], xs, vs, as, σ, ρ, Q, L, pr, nd, ln, lt, q => by
    cases vs with
    | nil => exact ⟨rfl, q σ L (fun b h => .inl h) (fun _ _ => rfl) rfl⟩
    | cons _ _ => cases ln
  | (i, own) :: ts, _, _, _, σ, ρ, Q, L, .nil, nd, ln, lt, q => by cases ln
  | (i, own) :: ts, _, _, as, σ, ρ, Q, L, .fro (d := d) (v := v) (xs := xs) (vs := vs) h pr, nd, ln, lt, q => by
    have hi : i < ρ.length := lt (i, own) List.mem_cons_self
    obtain ⟨L1, ch⟩ := L.store hi h
    refine ⟨v, vs, rfl, setAll_ok L1 (pr.mono fun a n z => n (ch.ownA z)) nd (by simpa using ln) (fun t ht => by rw [List.length_set]; exact lt t (List.mem_cons_of_mem _ ht)) fun σ1 L2' o2 k2 l2 => ?_⟩
    refine q σ1 L2' (fun b hb => (o2 b hb).imp ch.ownA fun z => z) (fun j hj => ?_) (by rw [← List.length_set (as := ρ) (i := i) (a := some (false, d))]; exact l2)
    rw [List.map_cons, List.mem_cons, not_or] at hj
    rw [k2 j hj.2]
    exact (ch.out j hj.1).1
  | (i, own) :: ts, _, _, _, σ, ρ, Q, L, .own (d := d) (a := a) (xs := xs) (vs := vs) (as := as) h w n pr, nd, ln, lt, q => by
    have hi : i < ρ.length := lt (i, own) List.mem_cons_self
    obtain ⟨n1, n2⟩ := List.nodup_cons.mp nd
    obtain ⟨L1, o1, k1⟩ := L.storeO hi w n h
    refine ⟨.ref a, vs, rfl, setAll_ok L1 (pr.mono' fun b hb n z => (o1 b z).elim n fun e => n1 (e ▸ hb)) n2 (by simpa using ln) (fun t ht => by rw [List.length_set]; exact lt t (List.mem_cons_of_mem _ ht)) fun σ1 L2' o2 k2 l2 => ?_⟩
    refine q σ1 L2' (fun b hb => ?_) (fun j hj => ?_) (by rw [← List.length_set (as := ρ) (i := i) (a := some (true, d))]; exact l2)
    · rcases o2 b hb with z | z
      · exact (o1 b z).imp (fun z => z) fun (e : b = a) => by rw [e]; exact List.mem_cons_self
      · exact .inr (List.mem_cons_of_mem _ z)
    · rw [List.map_cons, List.mem_cons, not_or] at hj
      rw [k2 j hj.2]
      exact (k1 j hj.1).1
theorem ParRep.len {A W : AP} {H : Hp} {N : AP} {xs : List (Bool × D)} {vs : List V} {as : List Addr} (h : ParRep P A W H N xs vs as) : xs.length = vs.length := by
  induction h with
  | nil => rfl
  | fro _ _ ih => simp [ih]
  | own _ _ _ _ ih => simp [ih]
theorem gs_par {sw : Bool} {ts : List (Nat × Bool)} {es : Es} (h : (GoodEs P (spec P Φ) Gm Φ) es) : (GoodS P (spec P Φ) Gm Φ fx) (.par sw ts es) := fun O W H σ ρ ρ1 fl L e D c => by
  unfold evS at e
  obtain ⟨rs, ρa, ea, e⟩ := bindO_some e
  split at e
  · rename_i hts
    obtain ⟨hts, hz⟩ := hts
    cases q : prep ts rs ρa with
    | none => rw [q] at e; cases e
    | some p =>
      rw [q] at e
      cases e
      have lt : ∀ t ∈ ts, t.1 ∉ fx ∧ t.1 < ρa.length := fun t ht => by
        have := List.all_eq_true.mp hts t ht
        rw [Bool.and_eq_true, decide_eq_true_eq, decide_eq_true_eq] at this
        exact this
      have fin : ∀ vs H1 W1, Rel P O W1 H1 σ ρa → Step σ ρ W H ρa W1 H1 → RepRs P O W1 H1 σ ρa rs vs → (tmps rs vs).Nodup → (∀ a ∈ tmps rs vs, H a = none) →
          ts.length = vs.length ∧ (∀ (p0 : Addr) o, H1 p0 = none → gNames ts vs σ (upd H1 p0 o) D.nx) ∧ gNames ts vs σ H1 D.nx := fun vs H1 W1 L1 s1 hr nd fr => by
        obtain ⟨W2, as, L2', l2, pr, ndA, sub, ln⟩ := prep_ok L1 hr nd q
        have s2 := s1.lose L l2 fr
        have lenp : p.2.length = ρa.length := by rw [L2'.len, L1.len]
        refine ⟨ln, fun p0 o hp0 => ?_, ?_⟩
        · obtain ⟨L3, s3⟩ := L2'.laid (o := o) hp0
          refine setAll_ok L3 (pr.kp (kp_same hp0)) ndA ln (fun t ht => by rw [lenp]; exact (lt t ht).2) fun σ1 L4 o4 k4 l4 => c σ1 W2 _ L4 (own_ss (s2.trans s3) L L3 (fun b hb => (o4 b hb).imp (fun z => z) fun z => fr b (sub b z)) (fun j hj => k4 j fun z => ?_) l4)
          obtain ⟨t, ht, e⟩ := List.mem_map.mp z
          exact (lt t ht).1 (e ▸ hj)
        · refine setAll_ok L2' pr ndA ln (fun t ht => by rw [lenp]; exact (lt t ht).2) fun σ1 L4 o4 k4 l4 => c σ1 W2 _ L4 (own_ss s2 L L2' (fun b hb => (o4 b hb).imp (fun z => z) fun z => fr b (sub b z)) (fun j hj => k4 j fun z => ?_) l4)
          obtain ⟨t, ht, e⟩ := List.mem_map.mp z
          exact (lt t ht).1 (e ▸ hj)
      have tup : tS P (spec P Φ) (.par false ts es) D σ H := by
        refine h O W H σ ρ ρa rs L ea _ fun vs H1 W1 L1 s1 hr nd fr => ?_
        obtain ⟨ln, k1, _⟩ := fin vs H1 W1 L1 s1 hr nd fr
        refine ⟨?_, fun p0 o hp hd => ⟨p0, vs, rfl, .inl (.inr ⟨o, upd_same⟩), ln.symm, k1 p0 _ hp⟩⟩
        rw [← ln, line_eq]
        exact hz
      cases sw with
      | false => exact tup
      | true =>
        match ts, fin, tup with
        | [(i, x), (j, y)], fin, _ =>
          refine h O W H σ ρ ρa rs L ea _ fun vs H1 W1 L1 s1 hr nd fr => ?_
          obtain ⟨ln, _, k1⟩ := fin vs H1 W1 L1 s1 hr nd fr
          obtain ⟨v, us, e1, w, us', e2, e3, k1⟩ := k1
          subst e1 e2 e3
          exact ⟨v, w, rfl, k1⟩
        | [(i, x), (j, y), (l, z)], fin, _ =>
          refine h O W H σ ρ ρa rs L ea _ fun vs H1 W1 L1 s1 hr nd fr => ?_
          obtain ⟨ln, _, k1⟩ := fin vs H1 W1 L1 s1 hr nd fr
          obtain ⟨v, us, e1, w, us', e2, u, us2, e4, e3, k1⟩ := k1
          subst e1 e2 e4 e3
          exact ⟨v, w, u, rfl, k1⟩
        | [], _, tup => exact tup
        | [_], _, tup => exact tup
        | _ :: _ :: _ :: _ :: _, _, tup => exact tup
  · cases e
end
end Mi

/-! MiD4b -/
set_option Elab.async false
set_option linter.all false
set_option maxRecDepth 100000
set_option maxHeartbeats 4000000
/-! MiD4b: more statements; all statements. -/
namespace Mi
open PySem PySem.Spec PyProof.Rows L2
section
variable {P : TP} {Gm : Cfg} {Φ : Phi} {fx : List Nat}
theorem anyK {k : L2.Key} : ∀ {ks : List L2.Key} {us : List V}, ks.length = us.length → ((ks.zip us).any fun kv => decide (kv.1 = k)) = ks.any fun x => decide (x = k)
  | [], _, _ => by simp
  | x :: ks, [], l => by cases l
  | x :: ks, u :: us, l => by rw [List.zip_cons_cons, List.any_cons, List.any_cons, anyK (by simpa using l)]
theorem mapK {k : L2.Key} {w : V} : ∀ {ks : List L2.Key} {us : List V}, ks.length = us.length → (ks.zip us).map (fun kv => if kv.1 = k then (kv.1, w) else kv) = ks.zip (List.zipWith (fun x u => if x = k then w else u) ks us)
  | [], _, _ => by simp
  | x :: ks, [], l => by cases l
  | x :: ks, u :: us, l => by
    rw [List.zip_cons_cons, List.map_cons, mapK (by simpa using l), List.zipWith_cons_cons, List.zip_cons_cons]
    by_cases h : x = k
    · simp [h]
    · simp [h]
theorem repK {A : AP} {H : Hp} {k : L2.Key} {d : D} {w : V} (hv : RepV P A H d w) : ∀ {ks : List L2.Key} {ds : List D} {us : List V}, RepVs P A H ds us → RepVs P A H (List.zipWith (fun x d' => if x = k then d else d') ks ds) (List.zipWith (fun x u => if x = k then w else u) ks us)
  | [], _, _, _ => by simpa using RepVs.nil
  | x :: ks, [], us, h => by unfold RepVs at h; subst h; simpa using RepVs.nil
  | x :: ks, d' :: ds, us, h => by
    obtain ⟨u, r, rfl, h1, h2⟩ := h.uncons
    rw [List.zipWith_cons_cons, List.zipWith_cons_cons]
    refine .cons ?_ (repK hv h2)
    by_cases q : x = k
    · rw [if_pos q, if_pos q]; exact hv
    · rw [if_neg q, if_neg q]; exact h1
theorem dput_rep {A : AP} {H : Hp} {k : L2.Key} {d : D} {w : V} (hv : RepV P A H d w) {ks : List L2.Key} {ds : List D} {us : List V} (l : ks.length = us.length) (h : RepVs P A H ds us) :
    ∃ us', putK (ks.zip us) k w = (dputD k d ks ds).1.zip us' ∧ (dputD k d ks ds).1.length = us'.length ∧ RepVs P A H (dputD k d ks ds).2 us' := by
  unfold putK dputD
  rw [anyK l]
  by_cases q : (ks.any fun x => decide (x = k)) = true
  · rw [if_pos q, if_pos q]
    exact ⟨_, mapK l, by rw [List.length_zipWith, ← l, Nat.min_self], repK hv h⟩
  · rw [if_neg q, if_neg q]
    refine ⟨us ++ [w], ?_, by simp [l], h.append (.cons hv .nil)⟩
    rw [List.zip_append l]
    rfl
theorem gs_setix {i : Nat} {x a : E} (hx : (GoodE P (spec P Φ) Gm Φ) x) (ha : (GoodE P (spec P Φ) Gm Φ) a) : (GoodS P (spec P Φ) Gm Φ fx) (.setix i x a) := fun O W H σ ρ ρ1 fl L e D c => by
  unfold evS at e
  split at e
  · rename_i l0 hi0
    obtain ⟨p, hp, _⟩ := L.own i _ hi0
    obtain ⟨r, ρa, ea, e⟩ := bindO_some e
    obtain ⟨ri, ρb, eb, e⟩ := bindO_some e
    obtain ⟨d, ρc, ec, e⟩ := bindO_some e
    split at e
    · rename_i k l hi e0
      cases q : ixOf l.length k with
      | none => rw [q] at e; cases e
      | some j =>
        rw [q] at e
        cases e
        refine ha O W H σ ρ ρa r L ea _ fun v H1 W1 L1 s1 h1 f1 => ⟨_, hp, ?_⟩
        refine hx O W1 H1 σ ρa ρb _ L1 eb _ fun vi H2 W2 L2' s2 h2 f2 => ?_
        obtain ⟨W3, L3, l3, rv⟩ := freeze_ok L2' (h1.step L1 s2) ec
        have s3 := (s1.trans s2).lose L l3 (freshAt (O := O) (W := W) f1)
        have h2 : vi = .int k := rrInt h2
        subst h2
        obtain ⟨p', hp', w, ws, hw, hl, hr⟩ := L3.own i _ hi
        rw [hp] at hp'
        cases hp'
        refine .inl ⟨p, ws, k, j, rfl, rfl, hw, by rw [← ixOf_eq, ← hr.length]; exact q, ?_⟩
        obtain ⟨L4, s4⟩ := L3.write (o' := .lst (ws.set j v)) (d' := .lst (l.set j d)) hi hp rfl fun kk => ⟨_, upd_same, by rw [List.length_set]; exact hl, (RepVs.set rv j hr).kp kk⟩
        exact c σ W3 _ L4 ((s3.trans s4).ss L L4)
    · cases e
  · rename_i ks0 vs0 hi0
    obtain ⟨p, hp, _⟩ := L.own i _ hi0
    obtain ⟨r, ρa, ea, e⟩ := bindO_some e
    obtain ⟨ri, ρb, eb, e⟩ := bindO_some e
    obtain ⟨d, ρc, ec, e⟩ := bindO_some e
    split at e
    · rename_i y ks vs hi e0
      cases q : keyD y with
      | none => rw [q] at e; cases e
      | some ky =>
        rw [q] at e
        have e : (if ks.length < line then some (Fl.nx, ρc.set i (some (true, .dct (dputD ky d ks vs).1 (dputD ky d ks vs).2))) else none) = some (fl, ρ1) := e
        split at e
        case isFalse => cases e
        rename_i hz
        cases e
        refine ha O W H σ ρ ρa r L ea _ fun v H1 W1 L1 s1 h1 f1 => ⟨_, hp, ?_⟩
        refine hx O W1 H1 σ ρa ρb _ L1 eb _ fun vi H2 W2 L2' s2 h2 f2 => ?_
        obtain ⟨W3, L3, l3, rv⟩ := freeze_ok L2' (h1.step L1 s2) ec
        have s3 := (s1.trans s2).lose L l3 (freshAt (O := O) (W := W) f1)
        have h2 : vi = kV ky := repKey (RepV.repB (show RepV P _ H2 y vi from h2)) q
        subst h2
        obtain ⟨p', hp', w, us, hw, hl, hr⟩ := L3.own i _ hi
        rw [hp] at hp'
        cases hp'
        obtain ⟨us', g1, g2, g3⟩ := dput_rep (k := ky) rv hl hr
        refine .inr ⟨p, _, rfl, DPut.k hw (by rw [List.length_zip, ← hl, Nat.min_self, line_eq]; exact hz), ?_⟩
        rw [g1]
        obtain ⟨L4, s4⟩ := L3.write (o' := .dK ((dputD ky d ks vs).1.zip us')) (d' := .dct (dputD ky d ks vs).1 (dputD ky d ks vs).2) hi hp rfl fun kk => ⟨us', upd_same, g2, g3.kp kk⟩
        exact c σ W3 _ L4 ((s3.trans s4).ss L L4)
    · cases e
  · cases e
theorem gs_augix {i : Nat} {x : E} {op : BOp} {a : E} (hx : (GoodE P (spec P Φ) Gm Φ) x) (ha : (GoodE P (spec P Φ) Gm Φ) a) : (GoodS P (spec P Φ) Gm Φ fx) (.augix i x op a) := fun O W H σ ρ ρ1 fl L e D c => by
  unfold evS at e
  split at e
  · rename_i l0 hi0
    obtain ⟨p, hp, _⟩ := L.own i _ hi0
    obtain ⟨ri, ρa, ea, e⟩ := bindO_some e
    split at e
    · rename_i k l hi
      cases q : ixOf l.length k with
      | none => rw [q] at e; cases e
      | some j =>
        rw [q] at e
        rw [Option.bind_some] at e
        split at e
        case h_2 => cases e
        rename_i z hz
        obtain ⟨r, ρb, eb, e⟩ := bindO_some e
        split at e
        case h_2 => cases e
        rename_i y l2 hi2
        have fin : ∀ v H2 W2, Rel P O W2 H2 σ ρb → Step σ ρ W H ρb W2 H2 → RepR P O W2 H2 σ ρb (.v (.int y)) v → ∀ w : Int, (ixOf l2.length k).map (fun j => (Fl.nx, ρb.set i (some (true, .lst (l2.set j (.int w)))))) = some (fl, ρ1) → v = .int y ∧ rSetA (.ref p) (.int k) (.int w) H2 fun H3 => D.nx σ H3 := fun v H2 W2 L2 s2 h2 w e => by
          refine ⟨rrInt h2, ?_⟩
          cases q2 : ixOf l2.length k with
          | none => rw [q2] at e; cases e
          | some j2 =>
            rw [q2] at e
            cases e
            obtain ⟨p', hp', ws, hw, hl, hr⟩ : ∃ p', σ[i]? = some (some (.ref p')) ∧ ∃ ws, H2 p' = some (.lst ws) ∧ l2.length ≤ line ∧ RepVs P (Av O W2) H2 l2 ws := by
              obtain ⟨p', hp', w, ws, hw, hl, hr⟩ := L2.own i _ hi2
              exact ⟨p', hp', ws, hw, hl, hr⟩
            rw [hp] at hp'
            cases hp'
            refine .inl ⟨p, ws, k, j2, rfl, rfl, hw, by rw [← ixOf_eq, ← hr.length]; exact q2, ?_⟩
            obtain ⟨L4, s4⟩ := L2.write (o' := .lst (ws.set j2 (.int w))) (d' := .lst (l2.set j2 (.int w))) hi2 hp rfl fun kk => ⟨_, upd_same, by rw [List.length_set]; exact hl, (RepVs.set (by unfold RepV; rfl) j2 hr).kp kk⟩
            exact c σ W2 _ L4 ((s2.trans s4).ss L L4)
        cases op with
        | add =>
          refine ⟨_, hp, ?_⟩
          refine hx O W H σ ρ ρa _ L ea _ fun vi H1 W1 L1 s1 h1 f1 => ?_
          have h1 := rrInt h1
          subst h1
          obtain ⟨p', hp', _, ws, hw, hl, hr⟩ := L1.own i _ hi
          rw [hp] at hp'
          cases hp'
          obtain ⟨u, hu, ru⟩ := hr.get hz
          have := repVInt ru
          subst this
          refine ⟨p, ws, k, j, _, rfl, rfl, hw, by rw [← ixOf_eq, ← hr.length]; exact q, hu, ?_⟩
          refine ha O W1 H1 σ ρa ρb _ L1 eb _ fun v2 H2 W2 L2 s2 h2 f2 => ?_
          obtain ⟨rfl, st⟩ := fin v2 H2 W2 L2 (s1.trans s2) h2 (z + y) e
          exact ⟨z, y, rfl, rfl, st⟩
        | sub =>
          refine ⟨_, hp, ?_⟩
          refine hx O W H σ ρ ρa _ L ea _ fun vi H1 W1 L1 s1 h1 f1 => ?_
          have h1 := rrInt h1
          subst h1
          obtain ⟨p', hp', _, ws, hw, hl, hr⟩ := L1.own i _ hi
          rw [hp] at hp'
          cases hp'
          obtain ⟨u, hu, ru⟩ := hr.get hz
          have := repVInt ru
          subst this
          refine ⟨p, ws, k, j, _, rfl, rfl, hw, by rw [← ixOf_eq, ← hr.length]; exact q, hu, ?_⟩
          refine ha O W1 H1 σ ρa ρb _ L1 eb _ fun v2 H2 W2 L2 s2 h2 f2 => ?_
          obtain ⟨rfl, st⟩ := fin v2 H2 W2 L2 (s1.trans s2) h2 (z - y) e
          exact ⟨z, y, rfl, rfl, st⟩
        | _ => cases e
    · cases e
  · cases e
theorem putN_rep {A : AP} {H : Hp} {f : Str} {d : D} {v : V} (hv : RepV P A H d v) : ∀ {ns : List Str} {ds : List D} {vs : List V}, ns.length = vs.length → RepVs P A H ds vs →
    ∃ us, putF f v (ns.zip vs) = (putN f d ns ds).1.zip us ∧ (putN f d ns ds).1.length = us.length ∧ RepVs P A H (putN f d ns ds).2 us
  | [], ds, vs, l, h => by
    cases vs with
    | cons _ _ => cases l
    | nil =>
      cases ds with
      | cons _ _ => have := h.length; cases this
      | nil => exact ⟨[v], rfl, rfl, .cons hv .nil⟩
  | n :: ns, ds, vs, l, h => by
    cases vs with
    | nil => cases l
    | cons u us =>
      cases ds with
      | nil => have := h.length; cases this
      | cons x ds =>
        obtain ⟨u', us', e, h1, h2⟩ := h.uncons
        cases e
        have l' : ns.length = us.length := by simpa using l
        obtain ⟨ws, g1, g2, g3⟩ := putN_rep hv l' h2
        by_cases hn : n = f
        · have hp : putN f d (n :: ns) (x :: ds) = (n :: ns, d :: ds) := by rw [putN, if_pos hn]
          rw [hp]
          refine ⟨v :: us, ?_, l, .cons hv h2⟩
          show (if n = f then (n, v) :: ns.zip us else _) = _
          rw [if_pos hn]
          rfl
        · have hp : putN f d (n :: ns) (x :: ds) = (n :: (putN f d ns ds).1, x :: (putN f d ns ds).2) := by rw [putN, if_neg hn]
          rw [hp]
          refine ⟨u :: ws, ?_, by simp [g2], .cons h1 g3⟩
          show (if n = f then _ else (n, u) :: putF f v (ns.zip us)) = _
          rw [if_neg hn, g1]
          rfl
theorem gs_setat (ok : CfgOk P Gm) {i : Nat} {f : Str} {a : E} (ha : (GoodE P (spec P Φ) Gm Φ) a) : (GoodS P (spec P Φ) Gm Φ fx) (.setat i f a) := fun O W H σ ρ ρ1 fl L e D c => by
  unfold evS at e
  obtain ⟨r, ρa, ea, e⟩ := bindO_some e
  obtain ⟨d, ρb, eb, e⟩ := bindO_some e
  refine ha O W H σ ρ ρa r L ea _ fun v H1 W1 L1 s1 h1 f1 => ?_
  obtain ⟨W2, L2', l2, rv⟩ := freeze_ok L1 h1 eb
  have s2 := s1.lose L l2 (freshAt (O := O) (W := W) f1)
  split at e
  · rename_i C ns vs hi
    cases q : Gm.fields C with
    | none => rw [q] at e; cases e
    | some fs =>
      rw [q] at e
      dsimp only at e
      split at e
      · rename_i hz
        cases e
        obtain ⟨p, hp, w, dx, us, hw, hl, hr⟩ := L2'.own i _ hi
        obtain ⟨c1, c2⟩ := ok.flds C fs q
        obtain ⟨ws, g1, g2, g3⟩ := putN_rep (f := f) rv hl hr
        refine ⟨_, hp, p, P.cls C, dx, ns.zip us, rfl, hw, c1, c2 f hz.1, ?_, ?_⟩
        · rw [List.length_zip, hl, ← hr.length]
          have := hz.2
          omega
        · rw [g1]
          obtain ⟨L4, s4⟩ := L2'.write (o' := .ins (P.cls C) dx ((putN f d ns vs).1.zip ws)) (d' := .ins C (putN f d ns vs).1 (putN f d ns vs).2) hi hp rfl fun kk => ⟨dx, ws, upd_same, g2, g3.kp kk⟩
          exact c σ W2 _ L4 ((s2.trans s4).ss L L4)
      · cases e
  · cases e
theorem gs_aug {i : Nat} {op : BOp} {a : E} (ha : (GoodE P (spec P Φ) Gm Φ) a) : (GoodS P (spec P Φ) Gm Φ fx) (.aug i op a) := fun O W H σ ρ ρ1 fl L e D c => by
  unfold evS at e
  split at e
  · cases e
  · rename_i hf
    split at e
    · rename_i x hi
      obtain ⟨r, ρa, ea, e⟩ := bindO_some e
      obtain ⟨v, hv, rv⟩ := L.fro i _ hi
      have := repVInt rv
      subst this
      have fin : ∀ (y z : Int) v H1 W1, Rel P O W1 H1 σ ρa → Step σ ρ W H ρa W1 H1 → RepR P O W1 H1 σ ρa (.v (.int y)) v → ρ1 = ρa.set i (some (false, .int z)) → fl = .nx → v = .int y ∧ D.nx (σ.set i (some (.int z))) H1 := fun y z v H1 W1 L1 s1 h1 e1 e2 => by
        subst e1 e2
        have hlt : i < ρa.length := by rw [L1.len, ← L.len]; exact eget_lt hi
        obtain ⟨L2', ch⟩ := L1.store (d := .int z) (v := .int z) hlt (by unfold RepV; rfl)
        exact ⟨rrInt h1, c _ W1 H1 L2' ((s1.ss L L1).trans (ch.ss fun j hj z => hf (z ▸ hj)))⟩
      cases op with
      | add =>
        refine ⟨_, hv, ha O W H σ ρ ρa r L ea _ fun v H1 W1 L1 s1 h1 f1 => ?_⟩
        split at e
        · rename_i y _
          cases e
          obtain ⟨e1, q⟩ := fin y (x + y) v H1 W1 L1 s1 h1 rfl rfl
          exact ⟨x, y, rfl, e1, q⟩
        · rename_i q; cases q
        · cases e
      | sub =>
        refine ⟨_, hv, ha O W H σ ρ ρa r L ea _ fun v H1 W1 L1 s1 h1 f1 => ?_⟩
        split at e
        · rename_i q; cases q
        · rename_i y _
          cases e
          obtain ⟨e1, q⟩ := fin y (x - y) v H1 W1 L1 s1 h1 rfl rfl
          exact ⟨x, y, rfl, e1, q⟩
        · cases e
      | _ =>
        exfalso
        split at e
        · rename_i q; cases q
        · rename_i q; cases q
        · cases e
    · cases e
theorem gs_expr {a : E} (ha : (GoodE P (spec P Φ) Gm Φ) a) : (GoodS P (spec P Φ) Gm Φ fx) (.expr a) := fun O W H σ ρ ρ1 fl L e D c => by
  unfold evS at e
  obtain ⟨r, ρa, ea, e⟩ := bindO_some e
  cases e
  exact ha O W H σ ρ ρ1 r L ea _ fun v H1 W1 L1 s1 h1 f1 => c σ W1 H1 L1 (s1.ss L L1)
theorem gs_ret {a : E} (ha : (GoodE P (spec P Φ) Gm Φ) a) : (GoodS P (spec P Φ) Gm Φ fx) (.ret a) := fun O W H σ ρ ρ1 fl L e D c => by
  unfold evS at e
  obtain ⟨r, ρa, ea, e⟩ := bindO_some e
  refine ha O W H σ ρ ρa r L ea _ fun v H1 W1 L1 s1 h1 f1 => ?_
  cases r with
  | v d => cases e; exact c σ W1 H1 L1 (s1.ss L L1) v h1
  | o d => cases e; exact c σ W1 H1 L1 (s1.ss L L1) v h1
  | b s =>
    dsimp only at e
    split at e
    · cases e
    · rename_i hf
      obtain ⟨hs, x, hx⟩ := h1
      rw [hx] at e
      obtain ⟨o, d⟩ := x
      cases o with
      | false =>
        cases e
        obtain ⟨u, e1, ru⟩ := L1.fro s d hx
        rw [hs] at e1
        cases e1
        exact c σ W1 H1 L1 (s1.ss L L1) v ru
      | true =>
        cases e
        obtain ⟨p, e1, w, ho⟩ := L1.own s d hx
        rw [hs] at e1
        cases e1
        have g : ∀ j x, eget (ρa.set s none) j = some x → j ≠ s ∧ eget ρa j = some x := fun j x e => by
          rw [eget_set] at e
          split at e
          · cases e
          · rename_i hn
            exact ⟨fun z => hn ⟨z, eget_lt hx⟩, e⟩
        have L2' : Rel P O W1 H1 σ (ρa.set s none) := ⟨by rw [List.length_set]; exact L1.len, L1.wmut, L1.oal, L1.ow, fun i d e => L1.fro i d (g i _ e).2, fun i d e => L1.own i d (g i _ e).2, fun i j a x y e1 e2 => L1.inj i j a x y (g i _ e1).2 (g j _ e2).2⟩
        have oB : ∀ b, OwnA σ (ρa.set s none) b → OwnA σ ρa b := fun b ⟨i, x, e, q⟩ => ⟨i, x, (g i _ e).2, q⟩
        refine c σ W1 H1 L2' (own_ss s1 L L1 (fun b hb => .inl (oB b hb)) (fun _ _ => rfl) (by rw [List.length_set])) (.ref p) ⟨p, rfl, w, fun ⟨i, x, e, q⟩ => ?_, ho⟩
        obtain ⟨n, e⟩ := g i _ e
        exact n (L1.inj i s p x d e hx q hs)
theorem gs_retn : (GoodS P (spec P Φ) Gm Φ fx) .retn := fun O W H σ ρ ρ1 fl L e D c => by
  unfold evS at e
  cases e
  exact c σ W H L .refl .non (show RepV P (Av O W) H .non .non by unfold RepV; rfl)
theorem gs_ite {t : T} {a b : Ss} (ht : (GoodT P (spec P Φ) Gm Φ) t) (ha : (GoodSs P (spec P Φ) Gm Φ fx) a) (hb : (GoodSs P (spec P Φ) Gm Φ fx) b) : (GoodS P (spec P Φ) Gm Φ fx) (.ite t a b) := fun O W H σ ρ ρ1 fl L e D c => by
  unfold evS at e
  obtain ⟨k, ρa, ea, e⟩ := bindO_some e
  refine ht O W H σ ρ ρa k L ea _ fun H1 W1 L1 s1 => ?_
  cases k with
  | true => rw [if_pos rfl]; exact ha O W1 H1 σ ρa ρ1 fl L1 e D (c.from (s1.ss L L1))
  | false => rw [if_neg (by decide)]; exact hb O W1 H1 σ ρa ρ1 fl L1 e D (c.from (s1.ss L L1))
theorem gb_nil : (GoodSs P (spec P Φ) Gm Φ fx) .nil := fun O W H σ ρ ρ1 fl L e D c => by
  unfold evSs at e
  cases e
  exact c σ W H L .refl
theorem gb_cons {s : S} {r : Ss} (hs : (GoodS P (spec P Φ) Gm Φ fx) s) (hr : (GoodSs P (spec P Φ) Gm Φ fx) r) : (GoodSs P (spec P Φ) Gm Φ fx) (.cons s r) := fun O W H σ ρ ρ1 fl L e D c => by
  unfold evSs at e
  cases q : evS Gm Φ fx s ρ with
  | none => rw [q] at e; cases e
  | some x =>
    obtain ⟨f1, ρa⟩ := x
    rw [q] at e
    refine hs O W H σ ρ ρa f1 L q _ fun σ1 W1 H1 L1 s1 => ?_
    cases f1 with
    | nx => exact hr O W1 H1 σ1 ρa ρ1 fl L1 e D (c.from s1)
    | rt r => cases e; exact c σ1 W1 H1 L1 s1
    | brk => cases e; exact c σ1 W1 H1 L1 s1
    | cnt => cases e; exact c σ1 W1 H1 L1 s1
theorem gs_pass : (GoodS P (spec P Φ) Gm Φ fx) .pass := fun O W H σ ρ ρ1 fl L e D c => by
  unfold evS at e; cases e; exact c σ W H L .refl
theorem gs_brk : (GoodS P (spec P Φ) Gm Φ fx) .brk := fun O W H σ ρ ρ1 fl L e D c => by
  unfold evS at e; cases e; exact c σ W H L .refl
theorem gs_cnt : (GoodS P (spec P Φ) Gm Φ fx) .cnt := fun O W H σ ρ ρ1 fl L e D c => by
  unfold evS at e; cases e; exact c σ W H L .refl
theorem gs_never : (GoodS P (spec P Φ) Gm Φ fx) .never := fun O W H σ ρ ρ1 fl L e D c => by
  unfold evS at e; cases e
/-- the given loop is the loop -/
def LoopOk (Gm : Cfg) : Prop := ∀ step ρ r, Gm.loop step ρ = some r → ∃ n, iterW step n ρ = some r
theorem gs_whil (lo : LoopOk Gm) {t : T} {b : Ss} (ht : (GoodT P (spec P Φ) Gm Φ) t) (hb : (GoodSs P (spec P Φ) Gm Φ fx) b) : (GoodS P (spec P Φ) Gm Φ fx) (.whil t b) := fun O W H σ ρ ρ1 fl L e D c => by
  unfold evS at e
  obtain ⟨n, e⟩ := lo _ _ _ e
  refine ⟨fun m σ' H' => ∃ ρ' W', Rel P O W' H' σ' ρ' ∧ SStep fx σ ρ W H σ' ρ' W' H' ∧ iterW (turnW (fun ρ => evT Gm Φ t ρ) fun ρ => evSs Gm Φ fx b ρ) m ρ' = some (fl, ρ1), ⟨n, ρ, W, L, .refl, e⟩, ?_⟩
  rintro m σ' H' ⟨ρ', W', L', s', e'⟩
  cases m with
  | zero => cases e'
  | succ m =>
    unfold iterW turnW at e'
    dsimp only at e'
    cases q : evT Gm Φ t ρ' with
    | none => rw [q] at e'; cases e'
    | some x =>
      obtain ⟨k, ρa⟩ := x
      rw [q] at e'
      refine ht O W' H' σ' ρ' ρa k L' q _ fun H1 W1 L1 s1 => ?_
      have s2 := s'.trans (s1.ss L' L1)
      cases k with
      | false =>
        cases e'
        rw [if_neg (by decide)]
        exact c σ' W1 H1 L1 s2
      | true =>
        rw [if_pos rfl]
        refine ⟨fun σ' H' => ∃ ρ' W', Rel P O W' H' σ' ρ' ∧ SStep fx σ ρ W H σ' ρ' W' H' ∧ iterW (turnW (fun ρ => evT Gm Φ t ρ) fun ρ => evSs Gm Φ fx b ρ) m ρ' = some (fl, ρ1), fun σ2 H2 h => ⟨m, Nat.lt_succ_self m, h⟩, ?_⟩
        dsimp only at e'
        cases q2 : evSs Gm Φ fx b ρa with
        | none => rw [q2] at e'; cases e'
        | some x =>
          obtain ⟨f1, ρb⟩ := x
          rw [q2] at e'
          refine hb O W1 H1 σ' ρa ρb f1 L1 q2 _ fun σ2 W2 H2 L2' s3 => ?_
          cases f1 with
          | nx => exact ⟨ρb, W2, L2', s2.trans s3, e'⟩
          | cnt => exact ⟨ρb, W2, L2', s2.trans s3, e'⟩
          | brk => cases e'; exact c σ2 W2 H2 L2' (s2.trans s3)
          | rt r => cases e'; exact c σ2 W2 H2 L2' (s2.trans s3)
theorem gs_for {tg : Tg} {it : It} {b : Ss} (hi : (GoodI P (spec P Φ) Gm Φ) it) (hb : (GoodSs P (spec P Φ) Gm Φ fx) b) : (GoodS P (spec P Φ) Gm Φ fx) (.for_ tg it b) := fun O W H σ ρ ρ1 fl L e D c => by
  unfold evS at e
  split at e
  · cases e
  · rename_i hf
    have hf : tgFree fx tg = true := by simpa using hf
    obtain ⟨its, ρa, ea, e⟩ := bindO_some e
    refine hi O W H σ ρ ρa its L ea _ fun J H1 W1 L1 s1 wok => ?_
    obtain ⟨hlen, G, Y, walk, stays, yok⟩ := wok
    let turn : Itm → Env → Option (Fl × Env) := fun d ρ2 => match setItm tg d ρ2 with
      | some ρ3 => evSs Gm Φ fx b ρ3
      | none => none
    have c1 := c.from (s1.ss L L1)
    let Pv : Nat → L2.St → Hp → Prop := fun i σi Hh => ∃ ρi Wi, forGo turn (its.drop i) ρi = some (fl, ρ1) ∧ Rel P O Wi Hh σi ρi ∧ SStep fx σ ρa W1 H1 σi ρi Wi Hh
    refine for_it walk Pv ⟨ρa, W1, e, L1, .refl⟩ (fun i σi Hh hi' p => ?_) (fun i x σi Hh H' hin p y => ?_) fun σi Hh p => ?_
    · obtain ⟨ρi, Wi, _, Li, si⟩ := p
      exact stays Hh (.of si.keep)
    · obtain ⟨ρi, Wi, go, Li, si⟩ := p
      have hget : its[i]? = some its[i] := List.getElem?_eq_getElem hin
      have yk := yok i Hh x H' its[i] hget (.of si.keep) y
      rw [List.drop_eq_getElem_cons hin] at go
      unfold forGo at go
      obtain ⟨Lh, sh⟩ := yok_heap Li yk
      cases q1 : setItm tg its[i] ρi with
      | none => simp only [turn, q1] at go; cases go
      | some ρ3 =>
        cases q2 : evSs Gm Φ fx b ρ3 with
        | none => simp only [turn, q1, q2] at go; cases go
        | some r =>
          obtain ⟨f1, ρ4⟩ := r
          have ht : turn its[i] ρi = some (f1, ρ4) := by simp only [turn, q1, q2]
          rw [ht] at go
          refine itm_ok Li yk (fun a z => ?_) q1 fun σ1 L3 ch => ?_
          · rcases z with z | z
            · exact .inl (.inl z)
            · exact (si.new a z).imp .inr fun q => q
          · have s3 : SStep fx σ ρa W1 H1 σ1 ρ3 Wi H' := (si.trans (sh.ss Li Lh)).trans (ch.ss (tgFree_has hf))
            refine hb O Wi H' σ1 ρ3 ρ4 f1 L3 q2 _ fun σ5 W5 H5 L5 s5 => ?_
            have s6 := s3.trans s5
            cases f1 with
            | nx => exact ⟨ρ4, W5, go, L5, s6⟩
            | cnt => exact ⟨ρ4, W5, go, L5, s6⟩
            | brk => cases go; exact c1 σ5 W5 H5 L5 s6
            | rt r => cases go; exact c1 σ5 W5 H5 L5 s6
    · obtain ⟨ρi, Wi, go, Li, si⟩ := p
      rw [List.drop_length] at go
      unfold forGo at go
      cases go
      exact c1 σi Wi Hh Li si
mutual
theorem soundS (ok : CfgOk P Gm) (lo : LoopOk Gm) : ∀ s : S, (GoodS P (spec P Φ) Gm Φ fx) s
  | .asg _ e => gs_asg (soundE ok e) | .own _ e => gs_own (soundE ok e) | .par _ _ es => gs_par (soundA ok es)
  | .setix _ x e => gs_setix (soundE ok x) (soundE ok e) | .setat _ _ e => gs_setat ok (soundE ok e) | .aug _ _ e => gs_aug (soundE ok e) | .augix _ x _ e => gs_augix (soundE ok x) (soundE ok e)
  | .expr e => gs_expr (soundE ok e) | .ret e => gs_ret (soundE ok e) | .retn => gs_retn
  | .ite t a b => gs_ite (soundT ok t) (soundB ok lo a) (soundB ok lo b)
  | .whil t b => gs_whil lo (soundT ok t) (soundB ok lo b) | .for_ _ it b => gs_for (soundI ok it) (soundB ok lo b)
  | .pass => gs_pass | .brk => gs_brk | .cnt => gs_cnt | .never => gs_never
theorem soundB (ok : CfgOk P Gm) (lo : LoopOk Gm) : ∀ s : Ss, (GoodSs P (spec P Φ) Gm Φ fx) s
  | .nil => gb_nil | .cons s r => gb_cons (soundS ok lo s) (soundB ok lo r)
end
end
end Mi

/-! MiD5 -/
set_option Elab.async false
set_option linter.all false
set_option maxRecDepth 100000
set_option maxHeartbeats 4000000
/-! MiD5: a def keeps its promise. -/
namespace Mi
open PySem PySem.Spec PyProof.Rows L2
section
variable {P : TP} {Gm : Cfg} {O W A : AP} {H H1 : Hp} {σ σ1 : L2.St} {ρ ρ1 : Env}
theorem ArgsRep.at_fro {as : List Arg} {vs : List V} {ads : List Addr} (h : ArgsRep P A H as vs ads) : ∀ {i : Nat} {d : D}, as[i]? = some (false, d) → ∃ v, vs[i]? = some v ∧ RepV P A H d v := by
  induction h with
  | nil => intro i d e; simp at e
  | fro h1 _ ih =>
    intro i d e
    cases i with
    | zero => cases e; exact ⟨_, rfl, h1⟩
    | succ i => exact ih (by simpa using e)
  | own h1 _ ih =>
    intro i d e
    cases i with
    | zero => cases e
    | succ i => exact ih (by simpa using e)
theorem ArgsRep.at_own {as : List Arg} {vs : List V} {ads : List Addr} (h : ArgsRep P A H as vs ads) : ∀ {i : Nat} {d : D}, as[i]? = some (true, d) → ∃ a, vs[i]? = some (V.ref a) ∧ a ∈ ads ∧ OwnV P A H d a := by
  induction h with
  | nil => intro i d e; simp at e
  | fro h1 _ ih =>
    intro i d e
    cases i with
    | zero => cases e
    | succ i => exact ih (by simpa using e)
  | own h1 _ ih =>
    intro i d e
    cases i with
    | zero => cases e; exact ⟨_, rfl, List.mem_cons_self, h1⟩
    | succ i =>
      obtain ⟨a, e1, m, q⟩ := ih (i := i) (d := d) (by simpa using e)
      exact ⟨a, e1, List.mem_cons_of_mem _ m, q⟩
theorem ArgsRep.ads_at {as : List Arg} {vs : List V} {ads : List Addr} (h : ArgsRep P A H as vs ads) : ∀ {a : Addr}, a ∈ ads → ∃ (i : Nat) (d : D), as[i]? = some (true, d) ∧ vs[i]? = some (V.ref a) := by
  induction h with
  | nil => intro a e; cases e
  | fro h1 _ ih =>
    intro a e
    obtain ⟨i, d, e1, e2⟩ := ih e
    exact ⟨i + 1, d, e1, e2⟩
  | own h1 _ ih =>
    intro a e
    rcases List.mem_cons.mp e with z | z
    · subst z; exact ⟨0, _, rfl, rfl⟩
    · obtain ⟨i, d, e1, e2⟩ := ih z
      exact ⟨i + 1, d, e1, e2⟩
theorem ArgsRep.inj {as : List Arg} {vs : List V} {ads : List Addr} (h : ArgsRep P A H as vs ads) : ads.Nodup → ∀ {i j : Nat} {d e : D} {a : Addr}, as[i]? = some (true, d) → as[j]? = some (true, e) → vs[i]? = some (V.ref a) → vs[j]? = some (V.ref a) → i = j := by
  induction h with
  | nil => intro _ i j d e a e1; simp at e1
  | fro h1 _ ih =>
    intro nd i j d e a e1 e2 e3 e4
    cases i with
    | zero => cases e1
    | succ i =>
      cases j with
      | zero => cases e2
      | succ j => rw [ih nd (i := i) (j := j) (by simpa using e1) (by simpa using e2) (by simpa using e3) (by simpa using e4)]
  | @own d0 a0 as vs ads h1 hr ih =>
    intro nd i j d e a e1 e2 e3 e4
    obtain ⟨n1, n2⟩ := List.nodup_cons.mp nd
    cases i with
    | zero =>
      cases j with
      | zero => rfl
      | succ j =>
        simp at e3
        subst e3
        obtain ⟨b, e5, m, _⟩ := hr.at_own (i := j) (d := e) (by simpa using e2)
        have e4 : vs[j]? = some (V.ref a0) := by simpa using e4
        rw [e5] at e4
        cases e4
        exact absurd m n1
    | succ i =>
      cases j with
      | zero =>
        simp at e4
        subst e4
        obtain ⟨b, e5, m, _⟩ := hr.at_own (i := i) (d := d) (by simpa using e1)
        have e3 : vs[i]? = some (V.ref a0) := by simpa using e3
        rw [e5] at e3
        cases e3
        exact absurd m n1
      | succ j => rw [ih n2 (i := i) (j := j) (by simpa using e1) (by simpa using e2) (by simpa using e3) (by simpa using e4)]
/-- the slots at a def's entry -/
theorem start_rel {as : List Arg} {vs : List V} {ads : List Addr} {N : List Str} {k : Nat} (h : ArgsRep P (Av O (InL ads)) H as vs ads) (nd : ads.Nodup) (no : ∀ a ∈ ads, ¬ O a) (al : ∀ a, O a → H a ≠ none) (hk : k = N.length - vs.length) :
    Rel P O (InL ads) H (L2.start N vs) (as.map some ++ List.replicate k none) ∧ ∀ a, OwnA (L2.start N vs) (as.map some ++ List.replicate k none) a → a ∈ ads := by
  have ge : ∀ i x, eget (as.map some ++ List.replicate k none) i = some x → as[i]? = some x := fun i x e => by
    unfold eget at e
    by_cases hi : i < as.length
    · rw [List.getElem?_append_left (by simpa using hi), List.getElem?_map] at e
      cases q : as[i]? with
      | none => rw [q] at e; cases e
      | some y => rw [q] at e; exact e
    · rw [List.getElem?_append_right (by simpa using hi)] at e
      cases q : (List.replicate k (none : Option (Bool × D)))[i - (as.map some).length]? with
      | none => rw [q] at e; cases e
      | some y =>
        rw [q] at e
        have := List.eq_of_mem_replicate (List.mem_of_getElem? q)
        subst this
        cases e
  have gs : ∀ i v, vs[i]? = some v → (L2.start N vs)[i]? = some (some v) := fun i v e => by
    unfold L2.start
    have hi : i < vs.length := (List.getElem?_eq_some_iff.mp e).1
    rw [List.getElem?_append_left (by simpa using hi), List.getElem?_map, e]
    rfl
  have go : ∀ i d, eget (as.map some ++ List.replicate k none) i = some (true, d) → ∃ a, vs[i]? = some (V.ref a) ∧ a ∈ ads ∧ OwnV P (Av O (InL ads)) H d a := fun i d e => h.at_own (ge i _ e)
  refine ⟨⟨?_, fun a w => ?_, al, fun a w => no a w, fun i d e => ?_, fun i d e => ?_, fun i j a x y e1 e2 f1 f2 => ?_⟩, fun a z => ?_⟩
  · unfold L2.start
    rw [List.length_append, List.length_append, List.length_map, List.length_map, List.length_replicate, List.length_replicate, h.length, hk]
  · obtain ⟨i, d, e1, e2⟩ := h.ads_at w
    obtain ⟨b, e3, _, q⟩ := h.at_own e1
    rw [e2] at e3; cases e3
    exact q.mut
  · obtain ⟨v, e1, r⟩ := h.at_fro (ge i _ e)
    exact ⟨v, gs i v e1, r⟩
  · obtain ⟨a, e1, m, q⟩ := go i d e
    exact ⟨a, gs i _ e1, m, q⟩
  · obtain ⟨b, g1, _, _⟩ := go i x e1
    obtain ⟨c, g2, _, _⟩ := go j y e2
    have h1 := gs i _ g1
    have h2 := gs j _ g2
    rw [f1] at h1; cases h1
    rw [f2] at h2; cases h2
    exact h.inj nd (ge i _ e1) (ge j _ e2) g1 g2
  · obtain ⟨i, d, e, q⟩ := z
    obtain ⟨b, g1, m, _⟩ := go i d e
    rw [gs i _ g1] at q
    cases q
    exact m
theorem fixed_mem : ∀ {io : List Bool} {k i : Nat}, io[i]? = some true → k + i ∈ fixed io k
  | [], _, _, e => by simp at e
  | true :: r, k, 0, _ => List.mem_cons_self
  | false :: r, k, 0, e => by cases e
  | true :: r, k, i + 1, e => by
    have := fixed_mem (io := r) (k := k + 1) (i := i) (by simpa using e)
    rw [show k + (i + 1) = k + 1 + i by omega]
    exact List.mem_cons_of_mem _ this
  | false :: r, k, i + 1, e => by
    have := fixed_mem (io := r) (k := k + 1) (i := i) (by simpa using e)
    rw [show k + (i + 1) = k + 1 + i by omega]
    exact this
theorem outs_ok (L : Rel P O W H1 σ1 ρ1) : ∀ {as : List Arg} {vs : List V} {ads : List Addr} {k : Nat} {outs : List D}, ArgsRep P A H as vs ads → outsOf (as.map (·.1)) k ρ1 = some outs → (∀ j d v, as[j]? = some (true, d) → vs[j]? = some v → σ1[k + j]? = some (some v)) →
    OutsRep P (Av O W) H1 outs ads ∧ ∀ a ∈ ads, W a ∧ OwnA σ1 ρ1 a := by
  intro as vs ads k outs h
  induction h generalizing k outs with
  | nil => intro e _; cases e; exact ⟨.nil, fun a h => nomatch h⟩
  | fro _ _ ih =>
    intro e hs
    refine ih (k := k + 1) e fun j d v e1 e2 => ?_
    rw [show k + 1 + j = k + (j + 1) by omega]
    exact hs (j + 1) d v e1 e2
  | @own d0 a0 as vs ads h1 hr ih =>
    intro e hs
    have e : (match eget ρ1 k, outsOf (as.map (·.1)) (k + 1) ρ1 with
      | some (true, d), some ds => some (d :: ds)
      | _, _ => none) = some outs := e
    cases q1 : eget ρ1 k with
    | none => rw [q1] at e; cases e
    | some x =>
      obtain ⟨o, d⟩ := x
      cases q2 : outsOf (as.map (·.1)) (k + 1) ρ1 with
      | none => rw [q1, q2] at e; cases o <;> cases e
      | some ds =>
        rw [q1, q2] at e
        cases o with
        | false => cases e
        | true =>
          cases e
          obtain ⟨g1, g2⟩ := ih q2 fun j d v e1 e2 => by
            rw [show k + 1 + j = k + (j + 1) by omega]
            exact hs (j + 1) d v e1 e2
          obtain ⟨b, e3, w, ho⟩ := L.own k d q1
          have e4 := hs 0 d0 (.ref a0) rfl rfl
          rw [Nat.add_zero, e3] at e4
          cases e4
          refine ⟨.cons ho g1, fun a ha => ?_⟩
          rcases List.mem_cons.mp ha with z | z
          · subst z; exact ⟨w, k, d, q1, e3⟩
          · exact g2 a z
/-- a def's body does what its mirror says -/
theorem fn_sound {tab : Nat → Option Fn} {n : Nat} {f : Nat} {F : Fn} (ok : CfgOk P Gm) (lo : LoopOk Gm) (ht : tab f = some F) {N : List Str} (hN : N.length = F.ns) (hp : F.io.length = F.np) {vs : List V} {Q : VK} {E : XK}
    (h : spec P (phi Gm tab (n + 1)) f vs H Q E) : vs.length = F.np ∧ tSs P (spec P (phi Gm tab n)) F.body { nx := fun _ H' => Q .non H', rt := Q } (L2.start N vs) H := by
  obtain ⟨O, as, ads, r, outs, ha, nd, no, al, e, k⟩ := h
  have hl := ha.length
  unfold phi at e
  rw [ht] at e
  dsimp only at e
  unfold runF at e
  split at e
  · rename_i hio
    have hlen : vs.length = F.np := by rw [← hp, ← hio, List.length_map, hl]
    refine ⟨hlen, ?_⟩
    obtain ⟨L, own⟩ := start_rel (N := N) (k := F.ns - F.np) ha nd no al (by rw [hN, hlen])
    cases q : evSs Gm (phi Gm tab n) (fixed F.io 0) F.body (as.map some ++ List.replicate (F.ns - F.np) none) with
    | none => rw [q] at e; cases e
    | some x =>
      obtain ⟨fl, ρ1⟩ := x
      rw [q] at e
      refine soundB ok lo F.body O (InL ads) H _ _ ρ1 fl L q _ fun σ1 W1 H1 L1 s1 => ?_
      have fin : ∀ (r : R) (v : V) (outs : List D), outsOf F.io 0 ρ1 = some outs → (match r with
          | .v d => RepV P (Av O W1) H1 d v
          | .o d => ∃ a, v = .ref a ∧ W1 a ∧ ¬ OwnA σ1 ρ1 a ∧ OwnV P (Av O W1) H1 d a
          | .b _ => False) → Ret P O H ads r outs v H1 W1 := fun r v outs eo hv => by
        have ⟨g1, g2⟩ := outs_ok L1 ha (k := 0) (outs := outs) (by rw [hio]; exact eo) fun j d v e1 e2 => by
          rw [Nat.zero_add]
          have hf : j ∈ fixed F.io 0 := by
            have := fixed_mem (io := F.io) (k := 0) (i := j) (by rw [← hio, List.getElem?_map, e1]; rfl)
            rwa [Nat.zero_add] at this
          rw [s1.fixed j hf]
          unfold L2.start
          rw [List.getElem?_append_left (by simpa using (List.getElem?_eq_some_iff.mp e2).1), List.getElem?_map, e2]
          rfl
        refine ⟨fun a o e n => s1.keep a o e fun z => n (own a z), s1.alive, fun a w => s1.new a w, L1.wmut, fun a m => (g2 a m).1, g1, ?_⟩
        cases r with
        | v d => exact hv
        | o d =>
          obtain ⟨a, e1, w, n, ho⟩ := hv
          exact ⟨a, e1, w, fun m => n (g2 a m).2, ho⟩
        | b _ => exact hv
      cases fl with
      | nx =>
        dsimp only at e
        cases q2 : outsOf F.io 0 ρ1 with
        | none => rw [q2] at e; cases e
        | some o =>
          rw [q2] at e
          cases e
          exact k .non H1 W1 (fin _ _ _ q2 (show RepV P (Av O W1) H1 .non .non by unfold RepV; rfl))
      | rt r0 =>
        cases r0 with
        | b s => cases e
        | v d =>
          dsimp only at e
          cases q2 : outsOf F.io 0 ρ1 with
          | none => rw [q2] at e; cases e
          | some o =>
            rw [q2] at e
            cases e
            exact fun v hv => k v H1 W1 (fin _ _ _ q2 hv)
        | o d =>
          dsimp only at e
          cases q2 : outsOf F.io 0 ρ1 with
          | none => rw [q2] at e; cases e
          | some o =>
            rw [q2] at e
            cases e
            exact fun v hv => k v H1 W1 (fin _ _ _ q2 hv)
      | brk => cases e
      | cnt => cases e
  · cases e
end
end Mi

/-! MiR -/
set_option Elab.async false
set_option linter.all false
set_option maxRecDepth 100000
set_option maxHeartbeats 4000000
/-! MiR: defs called where no text of a thing is being made. -/
namespace Mi
open PySem PySem.Spec PyProof.Rows L2
structure Rm (k : Nat) (A : Around) : Prop where
  rm : Room k A
  gs : A.guards = some []
theorem Rm.mono {j k : Nat} {A : Around} (r : Rm k A) (h : j ≤ k) : Rm j A := ⟨r.rm.mono h, r.gs⟩
theorem Rm.deeper {k : Nat} {A : Around} (r : Rm (k + 1) A) (env : PySem.Env) : Rm k (A.deeper env) := ⟨r.rm.deeper env, r.gs⟩
theorem Rm.un {k : Nat} {A : Around} (r : Rm k A) : A.units + 16 * k + 200 < cLine := r.rm.un
theorem make_gs {A : Around} {C : Addr} {us : List Value} {kw : List (Str × Value)} (g : A.guards = some []) : (A.under (.builtin "type.__call__" ⟨.ref C :: us, kw⟩)).guards = some [] := by
  first | (simp [Around.under, Code.guards, Code.isGuard, guardIds, pushGuards, g]; done) | (unfold Around.under; simp [Code.guards, Code.isGuard, guardIds, pushGuards, g])
theorem Rm.make {k : Nat} {A : Around} (r : Rm (k + 1) A) (C : Addr) (us : List Value) (kw : List (Str × Value)) : Rm k (A.under (.builtin "type.__call__" ⟨.ref C :: us, kw⟩)) := ⟨r.rm.make C us kw, make_gs r.gs⟩
/-- a def's promise, where guards are empty -/
structure FnG (P : Program) (w : World) (K : PySem.W.Frag) (mg : Str → Option Value) (base : Heap) (CX : CXT) (k : Nat) (f : Addr) (fd : FuncData) (ps : List Str) (sp : Sp) : Prop where
  len : ∀ vs H Q E, sp vs H Q E → vs.length = ps.length
  run : ∀ (A : Around) (outer : List PySem.Env) (s : Shared) (H : Hp) (args : Args) (us : List Value) (vs : List V) (Q : VK) (E : XK), Rm k A → Env0 P w K mg base A outer s H → BindsTo s fd args (ps.zip us) → Vals vs us → sp vs H Q E → codeAny (model P w) A (.call (.ref f) args) (CR CX outer P w H s Q E) s
section
variable {X : Cx} {CX : CXT} {k : Nat} {f C : Addr} {fd : FuncData} {ps : List Str} {sp : Sp} {E : XK} {x : Str} {p pos : Pos} {e : Expr} {es : List Expr} {t : TA}
theorem fin_ret {pins : List (Addr × Obj)} {σ : L2.St} {H : Hp} {s : Shared} {Q : VK} (px : Passes CX X E) (J : Inv X pins σ H s) : ∀ (r : Result) (s2 : Shared), CR CX X.stack X.prog X.w H s Q E r s2 → (match r with | .ok (.ret v) => EP X pins σ Q v s2 | .ok _ => False | .error er => X.xe er s2)
  | .error er, s2, z => px pins σ H s er s2 J z
  | .ok (.ret _), _, z => J.after z
  | .ok .next, _, z => z
  | .ok .brk, _, z => z
  | .ok .cont, _, z => z
theorem run_g {pins : List (Addr × Obj)} {σ : L2.St} {H : Hp} {s : Shared} {Q : VK} {us : List Value} {vs : List V} (F : FnG X.prog X.w X.K X.mg X.base CX k f fd ps sp) (rm : Rm k X.A) (bi : Binds X.K fd ps []) (px : Passes CX X E)
    (J : Inv X pins σ H s) (rv : Vals vs us) (pr : sp vs H Q E) : wpAny (model X.prog X.w) X.A (call (.ref f) us) (EP X pins σ Q) X.xe s := by
  have ln : (us ++ []).length = ps.length := by rw [List.append_nil, ← rv.length, F.len _ _ _ _ pr]
  have b2 := bi s us J.kIn ln
  rw [List.append_nil] at b2
  refine wpAny_call (codeAny_mono (F.run X.A X.stack s H ⟨us, []⟩ us vs Q E rm J.env0 b2 rv pr) fun r s2 z => ?_)
  have y := fin_ret px J r s2 z
  cases r with
  | error er => exact y
  | ok fl => cases fl <;> first | exact y | exact y.elim
theorem pg_call (F : FnG X.prog X.w X.K X.mg X.base CX k f fd ps sp) (rm : Rm k X.A) (gl : Gl X x) (mx : X.mg x = some (.ref f)) (kp : PySem.W.keepIn X.K (.ref f) = true) (bi : Binds X.K fd ps []) (px : Passes CX X E)
    (ha : PA X (e :: es) t) (hdb : (x == ("__debug__" : Str)) = false := by decide) (he : starEach (e :: es) X.env = (false, eval e X.env) :: starEach es X.env := by rfl) (hpl : (backTo pos (starEach es X.env)).any (·.1) = false := by rfl) :
    PE X (.Call (.Name x p) (e :: es) [] pos) (tCall sp [] E t) := ⟨fun pins s σ H Q J pr => wpAny_Call_Name_kw (ld_glob J gl mx (PySem.W.callWith_K (h₀ := X.base) J.ok.mod.kin kp (thn (ha.run pos pins s σ H _ J pr) fun us s1 ⟨vs, H1, J1, rv, q⟩ => ⟨J1.kIn, run_g F rm bi px J1 rv (by simpa using q)⟩) he hpl) hdb)⟩
theorem pg_call0 (F : FnG X.prog X.w X.K X.mg X.base CX k f fd ps sp) (rm : Rm k X.A) (gl : Gl X x) (mx : X.mg x = some (.ref f)) (kp : PySem.W.keepIn X.K (.ref f) = true) (bi : Binds X.K fd ps []) (px : Passes CX X E)
    (hdb : (x == ("__debug__" : Str)) = false := by decide) : PE X (.Call (.Name x p) [] [] pos) (tCall sp [] E tNil) :=
  ⟨fun pins s σ H Q J pr => wpAny_Call_Name_kw (ld_glob J gl mx (PySem.W.callWith_K0 J.kIn kp (run_g (us := []) F rm bi px J .nil (by simpa [tCall, tNil] using pr))) hdb)⟩
theorem make_g {pins : List (Addr × Obj)} {σ : L2.St} {H : Hp} {s : Shared} {Q : VK} {us : List Value} {vs : List V} (M : Mk X.K C f) (F : FnG X.prog X.w X.K X.mg X.base CX k f fd ps sp) (rm : Rm (k + 1) X.A) (bi : Binds X.K fd ps []) (px : Passes CX X E) (J : Inv X pins σ H s) (rv : Vals vs us)
    (pr : ∀ x dx, H x = none → H dx = none → dx ≠ x → sp (.ref x :: (vs ++ [])) (upd (upd H dx (.own x)) x (.ins C dx [])) (fun v H2 => v = .non ∧ Q (.ref x) H2) E) :
    wpAny (model X.prog X.w) X.A (call (.ref C) us) (EP X pins σ Q) X.xe s := by
  have pq := pr (s.heap.objs.size + 1) s.heap.objs.size (J.hok.fresh (Nat.le_succ _)) (J.hok.fresh (Nat.le_refl _)) (Nat.ne_of_lt (Nat.lt_succ_self _))
  rw [List.append_nil] at pq
  have J2 := Inv.made (C := C) J
  have r2 : Vals (V.ref (s.heap.objs.size + 1) :: vs) (Value.ref (s.heap.objs.size + 1) :: us) := .cons rfl rv
  have ln : (Value.ref (s.heap.objs.size + 1) :: us ++ []).length = ps.length := by
    have z := r2.length
    rw [F.len _ _ _ _ pq] at z
    rw [List.append_nil]; exact z.symm
  have b2 := bi _ (Value.ref (s.heap.objs.size + 1) :: us) J2.kIn ln
  rw [List.append_nil] at b2
  refine wpAny_call (make_map (f := f) J.kIn M.makes M.init (beq_iff_eq.mp M.fn) (codeAny_mono (F.run _ X.stack _ _ ⟨Value.ref (s.heap.objs.size + 1) :: us, []⟩ (Value.ref (s.heap.objs.size + 1) :: us) _ _ E (rm.make C us []) (J2.env0.make C us []) b2 r2 pq) fun r s2 z => ?_))
  cases r with
  | error er => exact px pins σ _ _ er s2 J2 z
  | ok fl =>
    cases fl with
    | ret u => let ⟨v, H', J3, rw', ev, q3⟩ := J2.after z; exact (by subst ev; exact ⟨rw', ⟨V.ref (s.heap.objs.size + 1), H', J3, rfl, q3⟩⟩)
    | _ => exact (show False from z).elim
theorem pg_make (M : Mk X.K C f) (F : FnG X.prog X.w X.K X.mg X.base CX k f fd ps sp) (rm : Rm (k + 1) X.A) (gl : Gl X x) (mx : X.mg x = some (.ref C)) (bi : Binds X.K fd ps []) (px : Passes CX X E)
    (ha : PA X (e :: es) t) (hdb : (x == ("__debug__" : Str)) = false := by decide) (he : starEach (e :: es) X.env = (false, eval e X.env) :: starEach es X.env := by rfl) (hpl : (backTo pos (starEach es X.env)).any (·.1) = false := by rfl) :
    PE X (.Call (.Name x p) (e :: es) [] pos) (tMake C sp [] E t) := ⟨fun pins s σ H Q J pr => wpAny_Call_Name_kw (ld_glob J gl mx (PySem.W.callWith_K (h₀ := X.base) J.ok.mod.kin M.kp (thn (ha.run pos pins s σ H _ J pr) fun us s1 ⟨vs, H1, J1, rv, q⟩ => ⟨J1.kIn, make_g M F rm bi px J1 rv q⟩) he hpl) hdb)⟩
end
theorem fg_of {CX : CXT} {P : Program} {w : World} {K : PySem.W.Frag} {mg : Str → Option Value} {base : Heap} {k : Nat} {f : Addr} {name qual : Str} {params : Arguments} {body : List Stmt} {scope : Scope} {dV kV doc pm cdv ct oc : Value} {an od : Option Addr} {osl : Array (Option Value)} {N ps : List Str} {sp : Sp}
    (lk : K.lookup f = some ⟨oc, od, .func (PySem.W.fnOf name qual params body scope dV kV doc pm an cdv ct), osl⟩) (cd : PySem.W.codeIn K cdv qual = true) (S : FnScope N ps scope) (len : ∀ vs H Q E, sp vs H Q E → vs.length = ps.length)
    (hb : ∀ (A : Around) (outer : List PySem.Env) (s : Shared) (H : Hp) (vs : List V) (Q : VK) (E : XK), Rm k (A.deeper (envOfC qual scope s.heap.objs.size f cdv)) → sp vs H Q E → ∃ t, PSs (cxOf CX P w K mg base N qual scope f cdv A outer s H E) body t ∧ t { nx := fun _ H' => Q .non H', rt := Q } (start N vs) H) :
    FnG P w K mg base CX (k + 1) f (PySem.W.fnOf name qual params body scope dV kV doc pm an cdv ct) ps sp where
  len := len
  run := fun A outer s H args us vs Q E rm e0 bd r pr => by
    have ol : ∀ b o, base.get? b = some o → s.heap.get? b = some o := fun b o z => (e0.bs b o z).1
    have kind : ∀ y ∈ ps.zip us, scope.names.lookup y.1 = some .local ∨ (scope.names.lookup y.1 = some .cell ∧ ((cellsFrom (s.heap.objs.size + 1) scope.names []).lookup y.1).isSome = true) := fun ⟨n, v⟩ hy => (S.par n (List.of_mem_zip hy).1).imp id fun q => ⟨q, PySem.W.cellsFrom_some _ _ _ (.inl q)⟩
    refine codeAny_call_function rm.rm.depth (e0.mod.kin.keeps ol _ _ lk) rfl S.co S.gen rfl (PySem.W.codeRec_of (e0.mod.kin.keeps ol) cd) (bd _ _ _ _ (wpAny_newFunctionEnv_cells S.kind kind fun env he s1 x => ?_))
    subst he
    obtain ⟨t, ht, hq⟩ := hb A outer s H vs Q E (rm.deeper _) pr
    refine ⟨(e0.mod.nolimit.keeps ol).keeps x.toInCall.keep, codeAny_func (wpAny_mono (ht.run [] s1 (start N vs) H _ (inv_start S rm.rm.hd e0 (len _ _ _ _ pr) r x) hq) (fun fl s' z => ?_) fun _ _ z => z)⟩
    cases fl with
    | ret u => let ⟨v, σ', H', J, rv, q⟩ := z; exact ⟨v, H', J.os, J.bare, J.base, J.hok, rv, q⟩
    | next => let ⟨σ', H', J, q⟩ := z; exact ⟨V.non, H', J.os, J.bare, J.base, J.hok, rfl, q⟩
    | _ => let ⟨_, _, _, q⟩ := z; exact (show False from q).elim
theorem FnG.imp {P : Program} {w : World} {K : PySem.W.Frag} {mg : Str → Option Value} {base : Heap} {CX : CXT} {k : Nat} {f : Addr} {fd : FuncData} {ps : List Str} {sp sp' : Sp} (F : FnG P w K mg base CX k f fd ps sp) (h : ∀ vs H Q E, sp' vs H Q E → sp vs H Q E) : FnG P w K mg base CX k f fd ps sp' :=
  ⟨fun vs H Q E q => F.len vs H Q E (h _ _ _ _ q), fun A outer s H args us vs Q E rm e0 bd r q => F.run A outer s H args us vs Q E rm e0 bd r (h _ _ _ _ q)⟩
/-- the head: the law's call -/
theorem call_law {P : Program} {w : World} {K : PySem.W.Frag} {mg mb : Str → Option Value} {CX : CXT} {k : Nat} {fa a : Addr} {fd : FuncData} {x : Str} {sp : Sp} {s₁ : Shared} {vs : List Value} {ns : List Int}
    (KX : K.In s₁.heap) (gn : s₁.heap.Ns mainGlobals mg) (bn : s₁.heap.Ns builtinsNs mb) (bb : ∀ x : Str, x ≠ "__name__" → mb x = bootBuiltins x) (lim : s₁.heap.NoLimit) (hg : s₁.gens = #[]) (oa : s₁.heap.get? a = some { cls := .type "list", data := .seq vs.toArray }) (hi : IntsAre vs ns) (hl : ns.length ≤ sizeLine) (rm : Rm k callerA)
    (F : ∀ base : Heap, K.In base → base.Ns mainGlobals mg → FnG P w K mg base CX k fa fd [x] sp) (bi : ∀ (s : Shared) (u : Value), BindsTo s fd ⟨[u], []⟩ [(x, u)]) (pr : ∀ H : Hp, Only H → SqL K H a (ns.map V.int) → sp [.ref a] H (fun v _ => v = .bl true) fun _ _ _ => False)
    (cx : ∀ H e s', CX [] H s₁ (fun _ _ _ => False) e s' → False) : codeAny (model P w) callerA (.call (.ref fa) ⟨[.ref a], []⟩) (fun r s' => r = .ok (.ret (.bool true)) ∧ OldK s₁.heap s'.heap ∧ s'.os = s₁.os ∧ AllBare s'.gens) s₁ := by
  have go : ∀ H : Hp, Only H → SqL K H a (ns.map V.int) → HOk P w H s₁.heap → (∀ b, H b ≠ none → b = a) → (H a ≠ none → K.lookup a = none) → codeAny (model P w) callerA (.call (.ref fa) ⟨[.ref a], []⟩) (fun r s' => r = .ok (.ret (.bool true)) ∧ OldK s₁.heap s'.heap ∧ s'.os = s₁.os ∧ AllBare s'.gens) s₁ := by
    intro H oH sH kH hA hK
    have isA : ∀ {b u}, H b = some u → b = a := fun {b u} z => hA b (by rw [z]; exact nofun)
    have ns2 : ∀ {b : Addr} {m : Str → Option Value}, s₁.heap.Ns b m → (hidT s₁.heap H).Ns b m := fun {b m} ⟨o, es, ep, z, d, r⟩ => ⟨o, es, ep, hidT_get z (by
      cases q : H b with
      | none => rfl
      | some u => obtain rfl := isA q; rw [oa] at z; cases z; cases (show Data.seq vs.toArray _ = Data.dict es ep from d)), d, r⟩
    have K2 : K.In (hidT s₁.heap H) := fun b o z => hidT_get (KX b o z) (by
      cases q : H b with
      | none => rfl
      | some u => obtain rfl := isA q; rw [hK (by rw [q]; exact nofun)] at z; cases z)
    have M : Mod K mg (hidT s₁.heap H) := ⟨K2, ns2 gn, ⟨mb, ns2 bn, bb⟩, lim.elim fun mc z => ⟨mc, ns2 z.1, z.2⟩⟩
    refine codeAny_mono ((F _ K2 (ns2 gn)).run callerA [] s₁ H ⟨[.ref a], []⟩ [.ref a] [.ref a] _ _ rm ⟨rfl, M, fun b o z => of_hidT z, Nat.le_of_eq (hidT_size _ _), trivial, fun b hb => absurd (show b ∈ ([] : List Addr) from hb) (by simp), kH, .of_eq hg⟩ (bi s₁ (.ref a)) (.cons rfl .nil) (pr H oH sH)) fun r s' z => ?_
    cases r with
    | error er => exact (cx H er s' z).elim
    | ok fl =>
      cases fl with
      | ret u =>
        obtain ⟨v, H', os, bare, un, kH', r', q⟩ := z
        obtain rfl : v = .bl true := q
        obtain rfl : u = Value.bool true := r'
        refine ⟨rfl, OldK.of_keep fun b o z => ?_, os, bare⟩
        cases q : H b with
        | none => exact un.keep b o z q (by intro y; exact absurd (show b ∈ ([] : List Addr) from y) (by simp)) (by simp)
        | some u =>
          rcases oH b with y | ⟨ob, xs, y⟩
          · rw [q] at y; cases y
          · have e1 := (kH b _ y).1
            have e2 := (kH' b _ (un.frzs b _ _ y)).1
            rw [z] at e1
            cases e1
            exact e2
      | _ => exact (show False from z).elim
  have ln : vs.length = ns.length := hi.length
  cases hk : K.lookup a with
  | some o =>
    have z := KX a o hk
    rw [oa] at z; cases z
    exact go (fun _ => none) (fun _ => .inl rfl) (.inr ⟨_, vs.toArray, _, hk, rfl, rfl, rfl, by rw [List.size_toArray, ln]; exact hl, by simpa using vals_ints hi⟩) (fun b u y => nomatch (show (none : Option HO) = some u from y)) (fun b y => absurd rfl y) fun y => absurd rfl y
  | none =>
    refine go (fun b => if b = a then some (.frz { cls := .type "list", data := .seq vs.toArray } (.lst (ns.map V.int))) else none) (fun b => ?_) (.inl (.inr ⟨{ cls := .type "list", data := .seq vs.toArray }, if_pos rfl⟩)) (fun b u y => ?_) (fun b y => Classical.byContradiction fun nb => y (if_neg nb)) fun _ => hk
    · by_cases hb : b = a
      · exact .inr ⟨_, _, if_pos hb⟩
      · exact .inl (if_neg hb)
    · by_cases hb : b = a
      · have y2 := (if_pos hb).symm.trans y
        cases y2; subst hb
        exact ⟨oa, by rw [List.length_map]; exact hl, vs, _, vals_ints hi, oa⟩
      · have y2 := (if_neg hb).symm.trans y
        cases y2
theorem walk_g {l : PySem.W.OpenLaw} {n k : Nat} {q : Program} {loose : List Str} {XP : (Str → Option Value) → Heap → Prop} {YP : World → Heap → Prop} {d : DefRec} {K : Params → PySem.W.Frag} {CX : World → CXT} {sp : World → Sp} {x : Str} (hn : l.most = some n) (hn2 : n ≤ sizeLine) (hdf : d.params.defaults = []) (rm : Rm k callerA)
    (hY : ∀ (w : World) (h : Heap), YP w h → (K w.params).In h)
    (F : ∀ (w : World) (mg : Str → Option Value) (fa : Addr) (h : Heap), (K w.params).In h → h.Ns mainGlobals mg → mg d.name = some (.ref fa) → ∃ fd : FuncData, (∀ (s : Shared) (u : Value), BindsTo s fd ⟨[u], []⟩ [(x, u)]) ∧ ∀ base : Heap, (K w.params).In base → base.Ns mainGlobals mg → FnG l.prog w (K w.params) mg base (CX w) k fa fd [x] (sp w))
    (pr : ∀ (w : World) (H : Hp) (a : Addr) (ns : List Int), ns.length ≤ n → Only H → SqL (K w.params) H a (ns.map V.int) → sp w [.ref a] H (fun v _ => v = .bl true) fun _ _ _ => False) (cx : ∀ (w : World) (H : Hp) (s : Shared) (e : Value) (s' : Shared), CX w [] H s (fun _ _ _ => False) e s' → False) :
    PySem.W.WalkO q loose XP YP l.row.toRowW d [] (fun f vs => PySem.call f vs) := Att.attach_call hn hdf fun w s₀ s₁ mg mb fa o pm cd doc a vs ns G Y ho hd hcd hmg hobj hints hlen hg => by
  obtain ⟨fd, hb, hF⟩ := F w mg fa _ (hY w _ Y) G.T.g hmg
  exact call_law (hY w _ Y) G.T.g G.T.b G.T.builtins G.T.nolimit hg hobj hints (Nat.le_trans hlen hn2) rm hF hb (fun H hO hS => pr w H a ns hlen hO hS) fun H e s' => cx w H s₁ e s'
end Mi

/-! MiE -/
set_option Elab.async false
set_option linter.all false
set_option maxRecDepth 100000
set_option maxHeartbeats 4000000
/-! MiE: the defs of a text and their promises, short words for derivations. -/
namespace Mi
open PySem PySem.Spec PyProof.Rows L2
/-- a def that may be called by its name -/
def Cal (prog : Program) (w : World) (K : PySem.W.Frag) (mg : Str → Option Value) (base : Heap) (k : Nat) (x : Str) (sp : Sp) : Prop :=
  ∃ f fd ps, FnG prog w K mg base CX0 k f fd ps sp ∧ mg x = some (.ref f) ∧ PySem.W.keepIn K (.ref f) = true ∧ Binds K fd ps []
/-- a class that may be made by its name -/
def Mak (prog : Program) (w : World) (K : PySem.W.Frag) (mg : Str → Option Value) (base : Heap) (k : Nat) (x : Str) (C : Addr) (sp : Sp) : Prop :=
  ∃ f fd ps, Mk K C f ∧ FnG prog w K mg base CX0 k f fd ps sp ∧ mg x = some (.ref C) ∧ Binds K fd ps []
/-- a def as it stands behind the top -/
def Dk (K : PySem.W.Frag) (mg : Str → Option Value) (x qual : Str) (st : Stmt) (ps : List Str) : Prop :=
  ∃ f fd, Fun K x qual st f fd ∧ mg x = some (.ref f) ∧ Binds K fd ps []
/-- .. an __init__ -/
def Dm (K : PySem.W.Frag) (mg : Str → Option Value) (x : Str) (C : Addr) (qual : Str) (st : Stmt) (ps : List Str) : Prop :=
  ∃ f fd, Fun K "__init__" qual st f fd ∧ Mk K C f ∧ mg x = some (.ref C) ∧ Binds K fd ps []
open Classical in
noncomputable def loopC (step : Env → Option (Env ⊕ (Fl × Env))) (ρ : Env) : Option (Fl × Env) := if h : ∃ n r, iterW step n ρ = some r then some (Classical.choose (Classical.choose_spec h)) else none
theorem loopC_ok {step : Env → Option (Env ⊕ (Fl × Env))} {ρ : Env} {r : Fl × Env} (h : loopC step ρ = some r) : ∃ n, iterW step n ρ = some r := by
  unfold loopC at h
  split at h
  · rename_i h0
    cases h
    exact ⟨_, Classical.choose_spec (Classical.choose_spec h0)⟩
  · cases h
theorem iterW_one {step : Env → Option (Env ⊕ (Fl × Env))} : ∀ {n m : Nat} {ρ : Env} {r r' : Fl × Env}, iterW step n ρ = some r → iterW step m ρ = some r' → r = r'
  | 0, _, _, _, _, h, _ => by cases h
  | _ + 1, 0, _, _, _, _, h => by cases h
  | n + 1, m + 1, ρ, r, r', h, h' => by
    unfold iterW at h h'
    cases q : step ρ with
    | none => rw [q] at h; cases h
    | some x =>
      rw [q] at h h'
      cases x with
      | inl ρ1 => exact iterW_one h h'
      | inr y => cases h; cases h'; rfl
theorem loopC_of {step : Env → Option (Env ⊕ (Fl × Env))} {n : Nat} {ρ : Env} {r : Fl × Env} (h : iterW step n ρ = some r) : loopC step ρ = some r := by
  unfold loopC
  have h0 : ∃ n r, iterW step n ρ = some r := ⟨n, r, h⟩
  rw [dif_pos h0]
  exact congrArg some (iterW_one (Classical.choose_spec (Classical.choose_spec h0)) h)
section
variable {prog : Program} {w : World} {mg : Str → Option Value} {base : Heap} {P : TP} {Gm : Cfg} {tab : Nat → Option Fn} {n i : Nat}
theorem spec0 {vs : List V} {H : Hp} {Q : VK} {E : XK} (h : spec P (phi Gm tab 0) i vs H Q E) : False := by
  obtain ⟨_, _, _, _, _, _, _, _, _, e, _⟩ := h
  cases e
theorem cal0 {x qual : Str} {st : Stmt} {ps : List Str} {k : Nat} (d : Dk P.K mg x qual st ps) : Cal prog w P.K mg base k x (spec P (phi Gm tab 0) i) := by
  obtain ⟨f, fd, F, m, b⟩ := d
  exact ⟨f, fd, ps, ⟨fun _ _ _ _ h => (spec0 h).elim, fun _ _ _ _ _ _ _ _ _ _ _ _ _ h => (spec0 h).elim⟩, m, F.kp, b⟩
theorem mak0 {x qual : Str} {C : Addr} {st : Stmt} {ps : List Str} {k : Nat} (d : Dm P.K mg x C qual st ps) : Mak prog w P.K mg base k x C (spec P (phi Gm tab 0) i) := by
  obtain ⟨f, fd, F, M, m, b⟩ := d
  exact ⟨f, fd, ps, M, ⟨fun _ _ _ _ h => (spec0 h).elim, fun _ _ _ _ _ _ _ _ _ _ _ _ _ h => (spec0 h).elim⟩, m, b⟩
/-- a def's step from level to level, by its body's term -/
theorem fn_step {x qual : Str} {st : Stmt} {ps N : List Str} {F : Fn} {f : Addr} {fd : FuncData} (ok : CfgOk P Gm) (lo : LoopOk Gm) (ht : tab i = some F) (S : FnScope N ps (defScope st)) (hN : N.length = F.ns) (hp : F.io.length = F.np) (hps : ps.length = F.np) (D : Fun P.K x qual st f fd)
    (hb : ∀ (cdv : Value) (A : Around) (outer : List PySem.Env) (s : Shared) (H : Hp) (E : XK), Rm (2 * n + 1) (A.deeper (envOfC qual (defScope st) s.heap.objs.size f cdv)) →
      PSs (cxOf CX0 prog w P.K mg base N qual (defScope st) f cdv A outer s H E).nox (defBody st) (tSs P (spec P (phi Gm tab n)) F.body)) :
    FnG prog w P.K mg base CX0 (2 * (n + 1)) f fd ps (spec P (phi Gm tab (n + 1)) i) :=
  by
  obtain ⟨oc, od, kV, doc, pm, an, cdv, ct, osl, rfl, lk, hcd⟩ := D.ex
  exact fg_of lk hcd S (fun vs H Q E h => (fn_sound ok lo ht hN hp h).1.trans hps.symm) fun A outer s H vs Q E hr h => ⟨_, (hb cdv A outer s H E hr).nox, (fn_sound ok lo ht hN hp h).2⟩
theorem cal_step {x qual : Str} {st : Stmt} {ps N : List Str} {F : Fn} (ok : CfgOk P Gm) (lo : LoopOk Gm) (ht : tab i = some F) (S : FnScope N ps (defScope st)) (hN : N.length = F.ns) (hp : F.io.length = F.np) (hps : ps.length = F.np) (d : Dk P.K mg x qual st ps)
    (hb : ∀ (f : Addr) (cdv : Value) (A : Around) (outer : List PySem.Env) (s : Shared) (H : Hp) (E : XK), Rm (2 * n + 1) (A.deeper (envOfC qual (defScope st) s.heap.objs.size f cdv)) →
      PSs (cxOf CX0 prog w P.K mg base N qual (defScope st) f cdv A outer s H E).nox (defBody st) (tSs P (spec P (phi Gm tab n)) F.body)) : Cal prog w P.K mg base (2 * (n + 1)) x (spec P (phi Gm tab (n + 1)) i) := by
  obtain ⟨f, fd, D, m, b⟩ := d
  exact ⟨f, fd, ps, fn_step ok lo ht S hN hp hps D (hb f), m, D.kp, b⟩
theorem mak_step {x qual : Str} {C : Addr} {st : Stmt} {ps N : List Str} {F : Fn} (ok : CfgOk P Gm) (lo : LoopOk Gm) (ht : tab i = some F) (S : FnScope N ps (defScope st)) (hN : N.length = F.ns) (hp : F.io.length = F.np) (hps : ps.length = F.np) (d : Dm P.K mg x C qual st ps)
    (hb : ∀ (f : Addr) (cdv : Value) (A : Around) (outer : List PySem.Env) (s : Shared) (H : Hp) (E : XK), Rm (2 * n + 1) (A.deeper (envOfC qual (defScope st) s.heap.objs.size f cdv)) →
      PSs (cxOf CX0 prog w P.K mg base N qual (defScope st) f cdv A outer s H E).nox (defBody st) (tSs P (spec P (phi Gm tab n)) F.body)) : Mak prog w P.K mg base (2 * (n + 1)) x C (spec P (phi Gm tab (n + 1)) i) := by
  obtain ⟨f, fd, D, M, m, b⟩ := d
  exact ⟨f, fd, ps, M, fn_step ok lo ht S hN hp hps D (hb f), m, b⟩
end
/-! short words -/
section
variable {X : Cx} {k j : Nat} {x : Str} {C : Addr} {sp : Sp} {e : Expr} {es : List Expr} {t : TA} {p pos : Pos}
theorem hu_one (hr : Rm k X.A) : X.A.units + 1 < cLine := by have := hr.un; omega
theorem hu_room (hr : Rm k X.A) : X.A.units + 65 < cLine := by have := hr.un; omega
theorem g_call (c : Cal X.prog X.w X.K X.mg X.base k x sp) (hr : Rm j X.A) (hk : k ≤ j) (hg : Gl X x) (ha : PA X (e :: es) t) (hdb : (x == ("__debug__" : Str)) = false := by decide)
    (he : starEach (e :: es) X.env = (false, eval e X.env) :: starEach es X.env := by rfl) (hpl : (backTo pos (starEach es X.env)).any (·.1) = false := by rfl) : PE X (.Call (.Name x p) (e :: es) [] pos) (tCall sp [] E0 t) := by
  obtain ⟨f, fd, ps, F, hm, kp, b⟩ := c
  exact pg_call F (hr.mono hk) hg hm kp b pass0 ha hdb he hpl
theorem g_call0 (c : Cal X.prog X.w X.K X.mg X.base k x sp) (hr : Rm j X.A) (hk : k ≤ j) (hg : Gl X x) (hdb : (x == ("__debug__" : Str)) = false := by decide) : PE X (.Call (.Name x p) [] [] pos) (tCall sp [] E0 tNil) := by
  obtain ⟨f, fd, ps, F, hm, kp, b⟩ := c
  exact pg_call0 F (hr.mono hk) hg hm kp b pass0 hdb
theorem g_make (c : Mak X.prog X.w X.K X.mg X.base k x C sp) (hr : Rm j X.A) (hk : k + 1 ≤ j) (hg : Gl X x) (ha : PA X (e :: es) t) (hdb : (x == ("__debug__" : Str)) = false := by decide)
    (he : starEach (e :: es) X.env = (false, eval e X.env) :: starEach es X.env := by rfl) (hpl : (backTo pos (starEach es X.env)).any (·.1) = false := by rfl) : PE X (.Call (.Name x p) (e :: es) [] pos) (tMake C sp [] E0 t) := by
  obtain ⟨f, fd, ps, M, F, hm, b⟩ := c
  exact pg_make M F (hr.mono hk) hg hm b pass0 ha hdb he hpl
theorem g_glob {v : V} (h : ∃ u, X.mg x = some u ∧ RelV v u) (hg : Gl X x) (hd : (x == ("__debug__" : Str)) = false := by decide) : PE X (.Name x pos) (tC v) := by
  obtain ⟨u, hm, r⟩ := h
  exact pe_glob hg hm r hd
theorem g_par {P : Mi.TP} {i j : Nat} {o1 o2 : Bool} {x y : Str} {a b : Expr} {ta : TA} {px py pt pos : Pos} {kt k2 : Nat} {pt2 : Pos} (hc : X.calm = true) (hN : X.N.Nodup) (hi : X.N[i]? = some x) (hj : X.N[j]? = some y) (hij : i ≠ j)
    (hx : X.env.scope.names.lookup x = some .local) (hy : X.env.scope.names.lookup y = some .local) (ha : PA X [a, b] ta)
    (hw : swappedStores [.Tuple [.Name x px, .Name y py] kt pt] (.Tuple [a, b] k2 pt2) X.env = pure (some [x, y]))
    (hs : swapsWithSole [.Tuple [.Name x px, .Name y py] kt pt] (.Tuple [a, b] k2 pt2) pos.line X.env = pure false := by rfl) :
    PS X (.Assign [.Tuple [.Name x px, .Name y py] kt pt] (.Tuple [a, b] k2 pt2) pos) (tPars P true [(i, o1), (j, o2)] ta) := ps_par hc hN hi hj hij hx hy ha hw hs
theorem g_par3 {P : Mi.TP} {i j l : Nat} {o1 o2 o3 : Bool} {x y z : Str} {a b c : Expr} {ta : TA} {px py pz pt pos : Pos} {kt k2 : Nat} {pt2 : Pos} (hc : X.calm = true) (hN : X.N.Nodup) (hi : X.N[i]? = some x) (hj : X.N[j]? = some y) (hl : X.N[l]? = some z) (hij : i ≠ j) (hil : i ≠ l) (hjl : j ≠ l)
    (hx : X.env.scope.names.lookup x = some .local) (hy : X.env.scope.names.lookup y = some .local) (hz : X.env.scope.names.lookup z = some .local) (ha : PA X [a, b, c] ta)
    (hw : swappedStores [.Tuple [.Name x px, .Name y py, .Name z pz] kt pt] (.Tuple [a, b, c] k2 pt2) X.env = pure (some [x, y, z]))
    (hs : swapsWithSole [.Tuple [.Name x px, .Name y py, .Name z pz] kt pt] (.Tuple [a, b, c] k2 pt2) pos.line X.env = pure false := by rfl) :
    PS X (.Assign [.Tuple [.Name x px, .Name y py, .Name z pz] kt pt] (.Tuple [a, b, c] k2 pt2) pos) (tPars P true [(i, o1), (j, o2), (l, o3)] ta) := ps_par3 hc hN hi hj hl hij hil hjl hx hy hz ha hw hs
theorem g_parN {P : Mi.TP} {ts : List (Nat × Bool)} {tg : Expr} {es : List Expr} {ta : TA} {k : Nat} {p1 pos : Pos} (hK : X.K = P.K) (ha : PA X es ta) (hg : PG X tg (gTup X.K ts.length (gNames ts))) (hs : swapsWithSole [tg] (.Tuple es k p1) pos.line X.env = pure false := by rfl) (hw : swappedStores [tg] (.Tuple es k p1) X.env = pure none := by rfl)
    (h1 : (assignEach [tg] X.env).map (·.2) = [assign tg X.env] := by rfl) : PS X (.Assign [tg] (.Tuple es k p1) pos) (tPars P false ts ta) := by
  show PS X _ (tAsg (tTupN ta) (gTup P.K ts.length (gNames ts)))
  rw [← hK]
  exact ps_asg (pe_tupN ha) hg hs hw h1
theorem b_abs : bootBuiltins ("abs" : Str) = some (.builtin "abs") := by decide +kernel
theorem b_int : bootBuiltins ("int" : Str) = some (.type "int") := by decide +kernel
theorem b_list : bootBuiltins ("list" : Str) = some (.type "list") := by decide +kernel
theorem b_tuple : bootBuiltins ("tuple" : Str) = some (.type "tuple") := by decide +kernel
theorem b_bool : bootBuiltins ("bool" : Str) = some (.type "bool") := by decide +kernel
theorem b_str : bootBuiltins ("str" : Str) = some (.type "str") := by decide +kernel
theorem b_dict : bootBuiltins ("dict" : Str) = some (.type "dict") := by decide +kernel
theorem b_repr : bootBuiltins ("repr" : Str) = some (.builtin "repr") := by decide +kernel
theorem b_sum : bootBuiltins ("sum" : Str) = some (.builtin "sum") := by decide +kernel
theorem b_min : bootBuiltins ("min" : Str) = some (.builtin "min") := by decide +kernel
theorem b_max : bootBuiltins ("max" : Str) = some (.builtin "max") := by decide +kernel
theorem b_sorted : bootBuiltins ("sorted" : Str) = some (.builtin "sorted") := by decide +kernel
theorem b_all : bootBuiltins ("all" : Str) = some (.builtin "all") := by decide +kernel
theorem b_any : bootBuiltins ("any" : Str) = some (.builtin "any") := by decide +kernel
theorem b_isi : bootBuiltins ("isinstance" : Str) = some (.builtin "isinstance") := by decide +kernel
theorem b_len : bootBuiltins ("len" : Str) = some (.builtin "len") := by decide +kernel




end
end Mi
namespace Mi
open PySem PySem.Spec PyProof.Rows L2
/-! ### the end -/
theorem dk_of {K : PySem.W.Frag} {h : Heap} {mg : Str → Option Value} {x : Str} {st : Stmt} {ps : List Str} {f : Addr} {oc : Value} {od an : Option Addr} {osl : Array (Option Value)} {kV doc pm cdv ct : Value} (X : K.In h) (G : h.Ns mainGlobals mg)
    (a : PySem.W.nsIn K mainGlobals x = some (some (.ref f))) (l : K.lookup f = some ⟨oc, od, .func (PySem.W.fnOf x x (defArgs st) (defBody st) (defScope st) .none kV doc pm an cdv ct), osl⟩) (c : PySem.W.codeIn K cdv x = true) (k : PySem.W.keepIn K (.ref f) = true)
    (hb : ∀ (kV doc pm : Value) (an : Option Addr) (cdv ct : Value) (us : List Value), us.length = ps.length → bindArgs (PySem.W.fnOf x x (defArgs st) (defBody st) (defScope st) .none kV doc pm an cdv ct) ⟨us, []⟩ = pure (ps.zip us)) : Dk K mg x x st ps :=
  ⟨f, _, fun_mk l c k, PySem.W.mg_of X G a, (fun_mk l c k).binds hb⟩
theorem dm_of {K : PySem.W.Frag} {h : Heap} {mg : Str → Option Value} {x qual : Str} {st : Stmt} {ps : List Str} {C f : Addr} {oc : Value} {od an : Option Addr} {osl : Array (Option Value)} {kV doc pm cdv ct : Value} (X : K.In h) (G : h.Ns mainGlobals mg)
    (aC : PySem.W.nsIn K mainGlobals x = some (some (.ref C))) (mk : PySem.W.makesIn K C = true) (a : PySem.W.findIn K (.ref C) "__init__" = some (some (.ref f))) (i : PySem.W.isFn K (.ref f) = true) (kc : PySem.W.keepIn K (.ref C) = true)
    (l : K.lookup f = some ⟨oc, od, .func (PySem.W.fnOf "__init__" qual (defArgs st) (defBody st) (defScope st) .none kV doc pm an cdv ct), osl⟩) (c : PySem.W.codeIn K cdv qual = true) (k : PySem.W.keepIn K (.ref f) = true)
    (hb : ∀ (kV doc pm : Value) (an : Option Addr) (cdv ct : Value) (us : List Value), us.length = ps.length → bindArgs (PySem.W.fnOf "__init__" qual (defArgs st) (defBody st) (defScope st) .none kV doc pm an cdv ct) ⟨us, []⟩ = pure (ps.zip us)) : Dm K mg x C qual st ps :=
  ⟨f, _, fun_mk l c k, ⟨mk, a, i, kc⟩, PySem.W.mg_of X G aC, (fun_mk l c k).binds hb⟩
def spLaw (m : Nat) (K : PySem.W.Frag) : Sp := fun vs H Q _ => ∃ (a : Addr) (ns : List Int), vs = [.ref a] ∧ SqL K H a (ns.map V.int) ∧ ns.length ≤ m ∧ ∀ v H', v = .bl true → Q v H'
theorem law_spec {P : TP} {Gm : Cfg} {tab : Nat → Option Fn} {n i m : Nat} (hm : m ≤ 63) (law : ∀ ns : List Int, ns.length ≤ m → phi Gm tab n i [(false, .scr ns)] = some (.v (.bl true), [])) {vs : List V} {H : Hp} {Q : VK} {E : XK} (h : spLaw m P.K vs H Q E) :
    spec P (phi Gm tab n) i vs H Q E := by
  obtain ⟨a, ns, rfl, hS, hl, k⟩ := h
  refine ⟨fun _ => False, [(false, .scr ns)], [], _, _, .fro ?_ .nil, .nil, (fun _ h => nomatch h), fun _ z => z.elim, law ns hl, fun v H' W' rt => k v H' ?_⟩
  · unfold RepV
    refine ⟨a, rfl, ?_, Nat.le_trans hl (Nat.le_trans hm (by decide))⟩
    rcases hS with h | h
    · exact .inl ⟨h, fun z => z.elim (fun q => q) fun q => nomatch q⟩
    · exact .inr h
  · have := rt.val
    exact repVBl (P := P) this
theorem law_fn {prog : Program} {w : World} {mg : Str → Option Value} {base : Heap} {P : TP} {Gm : Cfg} {tab : Nat → Option Fn} {n i m : Nat} {st : Stmt} {N : List Str} {F : Fn} {f : Addr} {fd : FuncData} (ok : CfgOk P Gm) (lo : LoopOk Gm) (ht : tab i = some F) (S : FnScope N ["script"] (defScope st)) (hN : N.length = F.ns) (hp : F.io.length = F.np) (hps : ["script"].length = F.np)
    (hb : ∀ (cdv : Value) (A : Around) (outer : List PySem.Env) (s : Shared) (H : Hp) (E : XK), Rm (2 * n + 1) (A.deeper (envOfC "law" (defScope st) s.heap.objs.size f cdv)) →
      PSs (cxOf CX0 prog w P.K mg base N "law" (defScope st) f cdv A outer s H E).nox (defBody st) (tSs P (spec P (phi Gm tab n)) F.body))
    (hm : m ≤ 63) (law : ∀ ns : List Int, ns.length ≤ m → phi Gm tab (n + 1) i [(false, .scr ns)] = some (.v (.bl true), [])) (D : Fun P.K "law" "law" st f fd) : FnG prog w P.K mg base CX0 (2 * (n + 1)) f fd ["script"] (spLaw m P.K) :=
  (fn_step (i := i) (N := N) ok lo ht S hN hp hps D hb).imp fun _ _ _ _ h => law_spec hm law h
theorem law_walk {m k : Nat} {l : PySem.W.OpenLaw} {q : Program} {loose : List Str} {XP : (Str → Option Value) → Heap → Prop} {YP : World → Heap → Prop} {d : DefRec} {K : Params → PySem.W.Frag} (hm : m ≤ 63) (hn : l.most = some m) (hdf : d.params.defaults = []) (hr : Rm k callerA)
    (hY : ∀ (w : World) (h : Heap), YP w h → (K w.params).In h)
    (F : ∀ (w : World) (mg : Str → Option Value) (fa : Addr) (h : Heap), (K w.params).In h → h.Ns mainGlobals mg → mg d.name = some (.ref fa) →
      ∃ fd : FuncData, (∀ (s : Shared) (u : Value), BindsTo s fd ⟨[u], []⟩ [("script", u)]) ∧ ∀ base : Heap, (K w.params).In base → base.Ns mainGlobals mg → FnG l.prog w (K w.params) mg base CX0 k fa fd ["script"] (spLaw m (K w.params))) :
    PySem.W.WalkO q loose XP YP l.row.toRowW d [] (fun f vs => PySem.call f vs) :=
  walk_g (n := m) (k := k) (x := "script") (CX := fun _ => CX0) (sp := fun w => spLaw m (K w.params)) hn (Nat.le_trans hm (by decide)) hdf hr hY F (fun _ _ a ns hl _ hS => ⟨a, ns, rfl, hS, hl, fun _ _ e => e⟩) fun _ _ _ _ _ z => z
end Mi

/-! MiF -/
set_option Elab.async false
set_option linter.all false
set_option maxRecDepth 100000
set_option maxHeartbeats 4000000
/-! MiF: how the mirror's runs are told: loops, walks, equality. -/
namespace Mi
open PySem
theorem loop_ind {step : Env → Option (Env ⊕ (Fl × Env))} (I : Nat → Env → Prop) (post : Fl → Env → Prop)
    (h : ∀ m ρ, I m ρ → (∃ f ρ', step ρ = some (.inr (f, ρ')) ∧ post f ρ') ∨ (∃ ρ' m', m' < m ∧ step ρ = some (.inl ρ') ∧ I m' ρ')) : ∀ m ρ, I m ρ → ∃ f ρ', loopC step ρ = some (f, ρ') ∧ post f ρ' := by
  have gen : ∀ m ρ, I m ρ → ∃ n f ρ', iterW step n ρ = some (f, ρ') ∧ post f ρ' := by
    intro m
    induction m using Nat.strongRecOn with
    | ind m ih =>
      intro ρ i
      rcases h m ρ i with ⟨f, ρ', e, p⟩ | ⟨ρ', m', hlt, e, i'⟩
      · exact ⟨1, f, ρ', by unfold iterW; rw [e], p⟩
      · obtain ⟨n, f, ρ2, e2, p⟩ := ih m' hlt ρ' i'
        exact ⟨n + 1, f, ρ2, by unfold iterW; rw [e]; exact e2, p⟩
  intro m ρ i
  obtain ⟨n, f, ρ', e, p⟩ := gen m ρ i
  exact ⟨f, ρ', loopC_of e, p⟩
/-- a for without a way out -/
theorem for_ind {turn : Itm → Env → Option (Fl × Env)} (I : Nat → Env → Prop) {its : List Itm} {ρ : Env} (h0 : I 0 ρ)
    (h : ∀ i it ρ, its[i]? = some it → I i ρ → ∃ ρ', turn it ρ = some (.nx, ρ') ∧ I (i + 1) ρ') : ∃ ρ', forGo turn its ρ = some (.nx, ρ') ∧ I its.length ρ' := by
  have gen : ∀ (l : List Itm) (i : Nat) (ρ : Env), l = its.drop i → I i ρ → i ≤ its.length → ∃ ρ', forGo turn l ρ = some (.nx, ρ') ∧ I its.length ρ' := by
    intro l
    induction l with
    | nil =>
      intro i ρ e hi hl
      have : its.length ≤ i := by
        have := congrArg List.length e
        rw [List.length_drop] at this
        simp at this
        omega
      have : i = its.length := by omega
      subst this
      exact ⟨ρ, rfl, hi⟩
    | cons d ds ih =>
      intro i ρ e hi hl
      have hlt : i < its.length := by
        have := congrArg List.length e
        rw [List.length_drop] at this
        simp at this
        omega
      rw [List.drop_eq_getElem_cons hlt] at e
      cases e
      obtain ⟨ρ', e1, i1⟩ := h i _ ρ (List.getElem?_eq_getElem hlt) hi
      obtain ⟨ρ2, e2, i2⟩ := ih (i + 1) ρ' rfl i1 hlt
      exact ⟨ρ2, by unfold forGo; rw [e1]; exact e2, i2⟩
  exact gen its 0 ρ rfl h0 (Nat.zero_le _)
/-- a comprehension that leaves all slots as they were -/
theorem comp_pure {vs : List Nat} {turn : Itm → Env → Option (Option D × Env)} {f : Itm → Option D} : ∀ {its : List Itm} {acc : List D} {ρ : Env}, (∀ it ∈ its, ∃ ρ', turn it (wipeE ρ vs) = some (f it, ρ') ∧ back ρ ρ' vs = ρ) →
    compGo vs turn its acc ρ = some (acc ++ its.filterMap f, ρ)
  | [], acc, ρ, h => by simp [compGo]
  | d :: ds, acc, ρ, h => by
    obtain ⟨ρ', e, b⟩ := h d List.mem_cons_self
    have ih : ∀ acc, compGo vs turn ds acc ρ = some (acc ++ ds.filterMap f, ρ) := fun acc => comp_pure fun it hit => h it (List.mem_cons_of_mem _ hit)
    unfold compGo
    rw [e]
    cases q : f d with
    | none => dsimp only; rw [b, ih, List.filterMap_cons_none q]
    | some x => dsimp only; rw [b, ih, List.filterMap_cons_some q, List.append_assoc]; rfl
/-- a comprehension whose turns change slots: I by the turn, what is gathered, the slots -/
theorem comp_ind {vs : List Nat} {turn : Itm → Env → Option (Option D × Env)} (I : Nat → List D → Env → Prop) {its : List Itm} {ρ : Env} (h0 : I 0 [] ρ)
    (h : ∀ i it acc ρ, its[i]? = some it → I i acc ρ → ∃ x ρ', turn it (wipeE ρ vs) = some (some x, ρ') ∧ I (i + 1) (acc ++ [x]) (back ρ ρ' vs)) : ∃ acc ρ', compGo vs turn its [] ρ = some (acc, ρ') ∧ I its.length acc ρ' := by
  have gen : ∀ (l : List Itm) (i : Nat) (acc : List D) (ρ : Env), l = its.drop i → I i acc ρ → i ≤ its.length → ∃ acc' ρ', compGo vs turn l acc ρ = some (acc', ρ') ∧ I its.length acc' ρ' := by
    intro l
    induction l with
    | nil =>
      intro i acc ρ e hi hl
      have : its.length ≤ i := by
        have := congrArg List.length e
        rw [List.length_drop] at this
        simp at this
        omega
      have : i = its.length := by omega
      subst this
      exact ⟨acc, ρ, rfl, hi⟩
    | cons d ds ih =>
      intro i acc ρ e hi hl
      have hlt : i < its.length := by
        have := congrArg List.length e
        rw [List.length_drop] at this
        simp at this
        omega
      rw [List.drop_eq_getElem_cons hlt] at e
      cases e
      obtain ⟨x, ρ', e1, i1⟩ := h i _ acc ρ (List.getElem?_eq_getElem hlt) hi
      obtain ⟨acc2, ρ2, e2, i2⟩ := ih (i + 1) (acc ++ [x]) _ rfl i1 hlt
      exact ⟨acc2, ρ2, by unfold compGo; rw [e1]; exact e2, i2⟩
  exact gen its 0 [] ρ rfl h0 (Nat.zero_le _)
/-! ### equality of plain data -/
mutual
/-- without flags and texts -/
def pl : D → Bool
  | .non => true | .int _ => true
  | .tup l => pls l
  | .lst l => pls l
  | _ => false
def pls : List D → Bool
  | [] => true
  | d :: r => pl d && pls r
end
mutual
def dpt : D → Nat
  | .tup l => dpts l + 1
  | .lst l => dpts l + 1
  | _ => 0
def dpts : List D → Nat
  | [] => 0
  | d :: r => max (dpt d) (dpts r)
end
mutual
theorem pl_py : ∀ {d : D}, pl d = true → ∃ x, toPy d = some x ∧ PyData.canLay0 x = true ∧ PyData.depth x = dpt d
  | .non, _ => ⟨.none, rfl, rfl, rfl⟩
  | .int i, _ => ⟨.int i, rfl, rfl, rfl⟩
  | .tup l, h => by
    unfold pl at h
    obtain ⟨xs, e, c, d⟩ := pls_py h
    exact ⟨.tuple xs, by simp [toPy, e], by simpa [PyData.canLay0] using c, by simp [PyData.depth, dpt, d]⟩
  | .lst l, h => by
    unfold pl at h
    obtain ⟨xs, e, c, d⟩ := pls_py h
    exact ⟨.list xs, by simp [toPy, e], by simpa [PyData.canLay0] using c, by simp [PyData.depth, dpt, d]⟩
  | .bl _, h => by unfold pl at h; cases h
  | .str _, h => by unfold pl at h; cases h
  | .ty _, h => by unfold pl at h; cases h
  | .ins _ _ _, h => by unfold pl at h; cases h
  | .scr _, h => by unfold pl at h; cases h
theorem pls_py : ∀ {l : List D}, pls l = true → ∃ xs, toPys l = some xs ∧ PyData.canLayAll0 xs = true ∧ PyData.depthAll xs = dpts l
  | [], _ => ⟨[], rfl, rfl, rfl⟩
  | d :: r, h => by
    unfold pls at h
    rw [Bool.and_eq_true] at h
    obtain ⟨x, e1, c1, d1⟩ := pl_py h.1
    obtain ⟨xs, e2, c2, d2⟩ := pls_py h.2
    exact ⟨x :: xs, by simp [toPys, e1, e2], by simp [PyData.canLayAll0, c1, c2], by simp [PyData.depthAll, dpts, d1, d2]⟩
end
mutual
theorem eqv_pl : ∀ {a b : D} {x y : PyData}, pl a = true → pl b = true → toPy a = some x → toPy b = some y → (PyData.eqv x y = true ↔ a = b)
  | .non, b, x, y, _, hb, e1, e2 => by
    cases e1
    cases b with
    | non => cases e2; simp [PyData.eqv]
    | int i => cases e2; simp [PyData.eqv]
    | tup l => simp only [toPy, Option.map_eq_some_iff] at e2; obtain ⟨zs, _, rfl⟩ := e2; simp [PyData.eqv]
    | lst l => simp only [toPy, Option.map_eq_some_iff] at e2; obtain ⟨zs, _, rfl⟩ := e2; simp [PyData.eqv]
    | _ => unfold pl at hb; cases hb
  | .int i, b, x, y, _, hb, e1, e2 => by
    cases e1
    cases b with
    | non => cases e2; simp [PyData.eqv]
    | int j => cases e2; simp [PyData.eqv]
    | tup l => simp only [toPy, Option.map_eq_some_iff] at e2; obtain ⟨zs, _, rfl⟩ := e2; simp [PyData.eqv]
    | lst l => simp only [toPy, Option.map_eq_some_iff] at e2; obtain ⟨zs, _, rfl⟩ := e2; simp [PyData.eqv]
    | _ => unfold pl at hb; cases hb
  | .tup k, b, x, y, ha, hb, e1, e2 => by
    unfold pl at ha
    simp only [toPy, Option.map_eq_some_iff] at e1
    obtain ⟨ks, e1, rfl⟩ := e1
    cases b with
    | non => cases e2; simp [PyData.eqv]
    | int j => cases e2; simp [PyData.eqv]
    | tup l =>
      unfold pl at hb
      simp only [toPy, Option.map_eq_some_iff] at e2
      obtain ⟨zs, e2, rfl⟩ := e2
      have := eqv_pls ha hb e1 e2
      simp [PyData.eqv, this]
    | lst l => simp only [toPy, Option.map_eq_some_iff] at e2; obtain ⟨zs, _, rfl⟩ := e2; simp [PyData.eqv]
    | _ => unfold pl at hb; cases hb
  | .lst k, b, x, y, ha, hb, e1, e2 => by
    unfold pl at ha
    simp only [toPy, Option.map_eq_some_iff] at e1
    obtain ⟨ks, e1, rfl⟩ := e1
    cases b with
    | non => cases e2; simp [PyData.eqv]
    | int j => cases e2; simp [PyData.eqv]
    | lst l =>
      unfold pl at hb
      simp only [toPy, Option.map_eq_some_iff] at e2
      obtain ⟨zs, e2, rfl⟩ := e2
      have := eqv_pls ha hb e1 e2
      simp [PyData.eqv, this]
    | tup l => simp only [toPy, Option.map_eq_some_iff] at e2; obtain ⟨zs, _, rfl⟩ := e2; simp [PyData.eqv]
    | _ => unfold pl at hb; cases hb
  | .bl _, _, _, _, h, _, _, _ => by unfold pl at h; cases h
  | .str _, _, _, _, h, _, _, _ => by unfold pl at h; cases h
  | .ty _, _, _, _, h, _, _, _ => by unfold pl at h; cases h
  | .ins _ _ _, _, _, _, h, _, _, _ => by unfold pl at h; cases h
  | .scr _, _, _, _, h, _, _, _ => by unfold pl at h; cases h
theorem eqv_pls : ∀ {a b : List D} {x y : List PyData}, pls a = true → pls b = true → toPys a = some x → toPys b = some y → (PyData.eqvAll x y = true ↔ a = b)
  | [], [], _, _, _, _, e1, e2 => by cases e1; cases e2; simp [PyData.eqvAll]
  | [], d :: r, _, y, _, hb, e1, e2 => by
    cases e1
    unfold pls at hb
    rw [Bool.and_eq_true] at hb
    obtain ⟨z, f1, _⟩ := pl_py hb.1
    obtain ⟨zs, f2, _⟩ := pls_py hb.2
    simp [toPys, f1, f2] at e2
    subst e2
    simp [PyData.eqvAll]
  | d :: r, [], x, _, ha, _, e1, e2 => by
    cases e2
    unfold pls at ha
    rw [Bool.and_eq_true] at ha
    obtain ⟨z, f1, _⟩ := pl_py ha.1
    obtain ⟨zs, f2, _⟩ := pls_py ha.2
    simp [toPys, f1, f2] at e1
    subst e1
    simp [PyData.eqvAll]
  | d :: r, d' :: r', x, y, ha, hb, e1, e2 => by
    unfold pls at ha hb
    rw [Bool.and_eq_true] at ha hb
    obtain ⟨z, f1, _⟩ := pl_py ha.1
    obtain ⟨zs, f2, _⟩ := pls_py ha.2
    obtain ⟨z', f3, _⟩ := pl_py hb.1
    obtain ⟨zs', f4, _⟩ := pls_py hb.2
    simp [toPys, f1, f2] at e1
    simp [toPys, f3, f4] at e2
    subst e1 e2
    have h1 := eqv_pl ha.1 hb.1 f1 f3
    have h2 := eqv_pls ha.2 hb.2 f2 f4
    simp [PyData.eqvAll, h1, h2]
end
open Classical in
theorem eqD_pl {a b : D} (ha : pl a = true) (hb : pl b = true) (da : dpt a ≤ 64) (db : dpt b ≤ 64) : eqD a b = some (decide (a = b)) := by
  obtain ⟨x, e1, c1, d1⟩ := pl_py ha
  obtain ⟨y, e2, c2, d2⟩ := pl_py hb
  unfold eqD
  rw [e1, e2]
  dsimp only
  have s1 : SeqAt.shaped x = true := by unfold SeqAt.shaped; rw [c1, d1]; simpa using da
  have s2 : SeqAt.shaped y = true := by unfold SeqAt.shaped; rw [c2, d2]; simpa using db
  rw [if_pos ⟨s1, s2⟩]
  congr 1
  exact Bool.eq_iff_iff.mpr ((eqv_pl ha hb e1 e2).trans (by simp))
theorem eqD_self {a : D} (ha : pl a = true) (da : dpt a ≤ 64) : eqD a a = some true := by
  rw [eqD_pl ha ha da da]; simp
theorem eqD_int {i j : Int} : eqD (.int i) (.int j) = some (decide (i = j)) := by
  have h := eqD_pl (a := .int i) (b := .int j) rfl rfl (Nat.zero_le _) (Nat.zero_le _)
  rw [h]
  congr 1
  simp
theorem eqD_bl {i j : Bool} : eqD (.bl i) (.bl j) = some (i == j) := by
  cases i <;> cases j <;> rfl
end Mi
namespace Mi
open PySem
/-- what a def hands back -/
def Fin (io : List Bool) (post : R → List D → Prop) : Fl → Env → Prop
  | .nx, ρ => ∃ o, outsOf io 0 ρ = some o ∧ post (.v .non) o
  | .rt (.v d), ρ => ∃ o, outsOf io 0 ρ = some o ∧ post (.v d) o
  | .rt (.o d), ρ => ∃ o, outsOf io 0 ρ = some o ∧ post (.o d) o
  | _, _ => False
theorem phi_ex {Gm : Cfg} {tab : Nat → Option Fn} {n f : Nat} {F : Fn} {as : List Arg} {post : R → List D → Prop} (ht : tab f = some F) (hio : as.map (·.1) = F.io)
    (h : ∃ fl ρ, evSs Gm (phi Gm tab n) (fixed F.io 0) F.body (as.map some ++ List.replicate (F.ns - F.np) none) = some (fl, ρ) ∧ Fin F.io post fl ρ) : ∃ r o, phi Gm tab (n + 1) f as = some (r, o) ∧ post r o := by
  obtain ⟨fl, ρ, e, h⟩ := h
  unfold phi
  rw [ht]
  dsimp only
  unfold runF
  rw [if_pos hio, e]
  cases fl with
  | nx => obtain ⟨o, eo, p⟩ := h; exact ⟨_, o, by dsimp only; rw [eo]; rfl, p⟩
  | rt r =>
    cases r with
    | v d => obtain ⟨o, eo, p⟩ := h; exact ⟨_, o, by dsimp only; rw [eo]; rfl, p⟩
    | o d => obtain ⟨o, eo, p⟩ := h; exact ⟨_, o, by dsimp only; rw [eo]; rfl, p⟩
    | b s => exact h.elim
  | brk => exact h.elim
  | cnt => exact h.elim
end Mi

/-! MiG -/
set_option Elab.async false
set_option linter.all false
set_option maxRecDepth 100000
set_option maxHeartbeats 4000000
/-! MiG: the mirror's runs, step by step. -/
namespace Mi
open PySem
theorem bindO_s {α β : Type} {a : α} {ρ : Env} {f : α → Env → Option (β × Env)} : bindO (some (a, ρ)) f = f a ρ := rfl
end Mi
open Mi
local macro_rules | `(tactic| array_mem_dec) => `(tactic| ((try simp only [Bool.not_true, Bool.false_eq_true, if_false]); (try rw [bindO_s]); (try dsimp only); (try rw [Option.bind_some])))
namespace Mi
open PySem

section
variable {Gm : Cfg} {Φ : Phi} {fx : List Nat}
def wE (Gm : Cfg) (Φ : Phi) (e : E) (ρ : Env) (Q : R → Env → Prop) : Prop := ∃ r ρ', evE Gm Φ e ρ = some (r, ρ') ∧ Q r ρ'
def wT (Gm : Cfg) (Φ : Phi) (e : T) (ρ : Env) (Q : Bool → Env → Prop) : Prop := ∃ r ρ', evT Gm Φ e ρ = some (r, ρ') ∧ Q r ρ'
def wA (Gm : Cfg) (Φ : Phi) (e : Es) (ρ : Env) (Q : List R → Env → Prop) : Prop := ∃ r ρ', evEs Gm Φ e ρ = some (r, ρ') ∧ Q r ρ'
def wO (Gm : Cfg) (Φ : Phi) (e : Oe) (ρ : Env) (Q : Option Int → Env → Prop) : Prop := ∃ r ρ', evOe Gm Φ e ρ = some (r, ρ') ∧ Q r ρ'
def wI (Gm : Cfg) (Φ : Phi) (e : It) (ρ : Env) (Q : List Itm → Env → Prop) : Prop := ∃ r ρ', evIt Gm Φ e ρ = some (r, ρ') ∧ Q r ρ'
def wS (Gm : Cfg) (Φ : Phi) (fx : List Nat) (s : S) (ρ : Env) (Q : Fl → Env → Prop) : Prop := ∃ f ρ', evS Gm Φ fx s ρ = some (f, ρ') ∧ Q f ρ'
def wB (Gm : Cfg) (Φ : Phi) (fx : List Nat) (s : Ss) (ρ : Env) (Q : Fl → Env → Prop) : Prop := ∃ f ρ', evSs Gm Φ fx s ρ = some (f, ρ') ∧ Q f ρ'
variable {ρ : Env} {Q : R → Env → Prop}
theorem w_own {i : Nat} {d : D} (h : eget ρ i = some (true, d)) (q : Q (.b i) ρ) : wE Gm Φ (.var i) ρ Q := ⟨_, _, by unfold evE; rw [h], q⟩
theorem w_fro {i : Nat} {d : D} (h : eget ρ i = some (false, d)) (q : Q (.v d) ρ) : wE Gm Φ (.var i) ρ Q := ⟨_, _, by unfold evE; rw [h], q⟩
theorem w_glob {i : Nat} {d : D} (h : Gm.glob i = some d) (q : Q (.v d) ρ) : wE Gm Φ (.glob i) ρ Q := ⟨_, _, by unfold evE; rw [h]; rfl, q⟩
theorem w_cint {i : Int} (q : Q (.v (.int i)) ρ) : wE Gm Φ (.cint i) ρ Q := ⟨_, _, by unfold evE; rfl, q⟩
theorem w_cbl {i : Bool} (q : Q (.v (.bl i)) ρ) : wE Gm Φ (.cbl i) ρ Q := ⟨_, _, by unfold evE; rfl, q⟩
theorem w_cnon (q : Q (.v .non) ρ) : wE Gm Φ .cnon ρ Q := ⟨_, _, by unfold evE; rfl, q⟩
theorem w_cty {i : String} (q : Q (.v (.ty i)) ρ) : wE Gm Φ (.cty i) ρ Q := ⟨_, _, by unfold evE; rfl, q⟩
theorem w_cstr {i : Str} (q : Q (.v (.str i)) ρ) : wE Gm Φ (.cstr i) ρ Q := ⟨_, _, by unfold evE; rfl, q⟩
theorem w_tup {es : Es} (h : wA Gm Φ es ρ fun rs ρ1 => ∃ ds ρ2, freezes rs ρ1 = some (ds, ρ2) ∧ ds.length ≤ line ∧ Q (.v (.tup ds)) ρ2) : wE Gm Φ (.tup es) ρ Q := by
  obtain ⟨rs, ρ1, e1, ds, ρ2, e2, hz, q⟩ := h
  exact ⟨_, _, by unfold evE; rw [e1]; array_mem_dec; rw [e2]; array_mem_dec; rw [if_pos hz], q⟩
theorem w_lst {es : Es} (h : wA Gm Φ es ρ fun rs ρ1 => ∃ ds ρ2, freezes rs ρ1 = some (ds, ρ2) ∧ ds.length ≤ line ∧ Q (.o (.lst ds)) ρ2) : wE Gm Φ (.lst es) ρ Q := by
  obtain ⟨rs, ρ1, e1, ds, ρ2, e2, hz, q⟩ := h
  exact ⟨_, _, by unfold evE; rw [e1]; array_mem_dec; rw [e2]; array_mem_dec; rw [if_pos hz], q⟩
theorem w_bin {op : BOp} {a b : E} (h : wE Gm Φ a ρ fun ra ρ1 => wE Gm Φ b ρ1 fun rb ρ2 => ∃ x y d, deref ρ2 ra = some x ∧ deref ρ2 rb = some y ∧ binD op x y = some d ∧ Q (asR op d) ρ2) : wE Gm Φ (.bin op a b) ρ Q := by
  obtain ⟨ra, ρ1, e1, rb, ρ2, e2, x, y, d, h1, h2, h3, q⟩ := h
  exact ⟨_, _, by unfold evE; rw [e1]; array_mem_dec; rw [e2]; array_mem_dec; rw [h1, h2]; array_mem_dec; rw [h3]; rfl, q⟩
theorem w_cmp {op : COp} {a b : E} (h : wE Gm Φ a ρ fun ra ρ1 => wE Gm Φ b ρ1 fun rb ρ2 => ∃ x y d, deref ρ2 ra = some x ∧ deref ρ2 rb = some y ∧ cmpD op x y = some d ∧ Q (.v (.bl d)) ρ2) : wE Gm Φ (.cmp op a b) ρ Q := by
  obtain ⟨ra, ρ1, e1, rb, ρ2, e2, x, y, d, h1, h2, h3, q⟩ := h
  exact ⟨_, _, by unfold evE; rw [e1]; array_mem_dec; rw [e2]; array_mem_dec; rw [h1, h2]; array_mem_dec; rw [h3]; rfl, q⟩
theorem w_idx {a b : E} (h : wE Gm Φ a ρ fun ra ρ1 => wE Gm Φ b ρ1 fun rb ρ2 => ∃ x y d, deref ρ2 ra = some x ∧ deref ρ2 rb = some y ∧ idxD x y = some d ∧ Q (.v d) ρ2) : wE Gm Φ (.idx a b) ρ Q := by
  obtain ⟨ra, ρ1, e1, rb, ρ2, e2, x, y, d, h1, h2, h3, q⟩ := h
  exact ⟨_, _, by unfold evE; rw [e1]; array_mem_dec; rw [e2]; array_mem_dec; rw [h1, h2]; array_mem_dec; rw [h3]; rfl, q⟩
theorem w_neg {a : E} (h : wE Gm Φ a ρ fun ra ρ1 => ∃ x d, deref ρ1 ra = some x ∧ negD x = some d ∧ Q (.v d) ρ1) : wE Gm Φ (.neg a) ρ Q := by
  obtain ⟨ra, ρ1, e1, x, d, h1, h3, q⟩ := h
  exact ⟨_, _, by unfold evE; rw [e1]; array_mem_dec; rw [h1]; array_mem_dec; rw [h3]; rfl, q⟩
theorem w_rev {a : E} (h : wE Gm Φ a ρ fun ra ρ1 => ∃ x d, deref ρ1 ra = some x ∧ revD x = some d ∧ Q d ρ1) : wE Gm Φ (.rev a) ρ Q := by
  obtain ⟨ra, ρ1, e1, x, d, h1, h3, q⟩ := h
  exact ⟨_, _, by unfold evE; rw [e1]; array_mem_dec; rw [h1]; array_mem_dec; rw [h3]; rfl, q⟩
theorem w_attr {a : E} {f : Str} (h : wE Gm Φ a ρ fun ra ρ1 => ∃ x d, deref ρ1 ra = some x ∧ attrD Gm.fields f x = some d ∧ Q (.v d) ρ1) : wE Gm Φ (.attr a f) ρ Q := by
  obtain ⟨ra, ρ1, e1, x, d, h1, h3, q⟩ := h
  exact ⟨_, _, by unfold evE; rw [e1]; array_mem_dec; rw [h1]; array_mem_dec; rw [h3]; rfl, q⟩
theorem w_notv {a : E} (h : wE Gm Φ a ρ fun ra ρ1 => ∃ b, ra = .v (.bl b) ∧ Q (.v (.bl (!b))) ρ1) : wE Gm Φ (.notv a) ρ Q := by
  obtain ⟨ra, ρ1, e1, b, rfl, q⟩ := h
  exact ⟨_, _, by unfold evE; rw [e1]; rfl, q⟩
theorem w_andv {a b : E} (h : wE Gm Φ a ρ fun ra ρ1 => ∃ k, ra = .v (.bl k) ∧ (k = true → wE Gm Φ b ρ1 Q) ∧ (k = false → Q (.v (.bl false)) ρ1)) : wE Gm Φ (.andv a b) ρ Q := by
  obtain ⟨ra, ρ1, e1, k, rfl, h1, h2⟩ := h
  cases k with
  | true => obtain ⟨r, ρ2, e2, q⟩ := h1 rfl; exact ⟨_, _, by unfold evE; rw [e1]; exact e2, q⟩
  | false => exact ⟨_, _, by unfold evE; rw [e1]; rfl, h2 rfl⟩
theorem w_orv {a b : E} (h : wE Gm Φ a ρ fun ra ρ1 => ∃ k, ra = .v (.bl k) ∧ (k = true → Q (.v (.bl true)) ρ1) ∧ (k = false → wE Gm Φ b ρ1 Q)) : wE Gm Φ (.orv a b) ρ Q := by
  obtain ⟨ra, ρ1, e1, k, rfl, h1, h2⟩ := h
  cases k with
  | false => obtain ⟨r, ρ2, e2, q⟩ := h2 rfl; exact ⟨_, _, by unfold evE; rw [e1]; exact e2, q⟩
  | true => exact ⟨_, _, by unfold evE; rw [e1]; rfl, h1 rfl⟩
theorem w_chain {op op' : COp} {a b z : E} (h : wE Gm Φ a ρ fun ra ρ1 => wE Gm Φ b ρ1 fun rb ρ2 => ∃ x y k, ra = .v x ∧ rb = .v y ∧ cmpD op x y = some k ∧
    (k = true → wE Gm Φ z ρ2 fun rc ρ3 => ∃ w j, deref ρ3 rc = some w ∧ cmpD op' y w = some j ∧ Q (.v (.bl j)) ρ3) ∧ (k = false → Q (.v (.bl false)) ρ2)) : wE Gm Φ (.chain op op' a b z) ρ Q := by
  obtain ⟨ra, ρ1, e1, rb, ρ2, e2, x, y, k, rfl, rfl, h1, h2, h3⟩ := h
  cases k with
  | true =>
    obtain ⟨rc, ρ3, e3, w, j, h4, h5, q⟩ := h2 rfl
    exact ⟨_, _, by unfold evE; rw [e1]; array_mem_dec; rw [e2]; array_mem_dec; rw [h1]; array_mem_dec; rw [e3]; array_mem_dec; rw [h4]; array_mem_dec; rw [h5]; rfl, q⟩
  | false =>
    exact ⟨_, _, by unfold evE; rw [e1]; array_mem_dec; rw [e2]; array_mem_dec; rw [h1], h3 rfl⟩
theorem w_ite {c : T} {a b : E} (h : wT Gm Φ c ρ fun k ρ1 => (k = true → wE Gm Φ a ρ1 Q) ∧ (k = false → wE Gm Φ b ρ1 Q)) : wE Gm Φ (.ite c a b) ρ Q := by
  obtain ⟨k, ρ1, e1, h1, h2⟩ := h
  cases k with
  | true => obtain ⟨r, ρ2, e2, q⟩ := h1 rfl; exact ⟨_, _, by unfold evE; rw [e1]; exact e2, q⟩
  | false => obtain ⟨r, ρ2, e2, q⟩ := h2 rfl; exact ⟨_, _, by unfold evE; rw [e1]; exact e2, q⟩
theorem w_sl {a : E} {lo hi : Oe} (h : wE Gm Φ a ρ fun ra ρ1 => wO Gm Φ lo ρ1 fun l ρ2 => wO Gm Φ hi ρ2 fun u ρ3 => ∃ x r, deref ρ3 ra = some x ∧ slD x l u = some r ∧ Q r ρ3) : wE Gm Φ (.sl a lo hi) ρ Q := by
  obtain ⟨ra, ρ1, e1, l, ρ2, e2, u, ρ3, e3, x, r, h1, h2, q⟩ := h
  exact ⟨_, _, by unfold evE; rw [e1]; array_mem_dec; rw [e2]; array_mem_dec; rw [e3]; array_mem_dec; rw [h1]; array_mem_dec; rw [h2]; rfl, q⟩
theorem w_callb {f : Blt} {es : Es} (h : wA Gm Φ es ρ fun rs ρ1 => ∃ ds r, derefs ρ1 rs = some ds ∧ bltD f ds = some r ∧ Q r ρ1) : wE Gm Φ (.callb f es) ρ Q := by
  obtain ⟨rs, ρ1, e1, ds, r, h1, h2, q⟩ := h
  exact ⟨_, _, by unfold evE; rw [e1]; array_mem_dec; rw [h1]; array_mem_dec; rw [h2]; rfl, q⟩
theorem w_meth {m : Mth} {a b : E} (h : wE Gm Φ a ρ fun ra ρ1 => wE Gm Φ b ρ1 fun rb ρ2 => ∃ x0 x y d, deref ρ1 ra = some x0 ∧ deref ρ2 ra = some x ∧ deref ρ2 rb = some y ∧ kindD x0 = kindD x ∧ mthD m x y = some d ∧ Q (.v d) ρ2) : wE Gm Φ (.meth m a b) ρ Q := by
  obtain ⟨ra, ρ1, e1, rb, ρ2, e2, x0, x, y, d, h0, h1, h2, hk, h3, q⟩ := h
  exact ⟨_, _, by unfold evE; rw [e1]; array_mem_dec; rw [e2]; array_mem_dec; rw [h0, h1, h2]; array_mem_dec; rw [if_pos hk, h3]; rfl, q⟩
theorem w_mut {m : Mut} {i : Nat} {es : Es} {l0 : List D} (h0 : eget ρ i = some (true, .lst l0)) (h : wA Gm Φ es ρ fun rs ρ1 => ∃ ds ρ2 l p, freezes rs ρ1 = some (ds, ρ2) ∧ eget ρ2 i = some (true, .lst l) ∧ mutD m l ds = some p ∧ Q (.v p.2) (ρ2.set i (some (true, .lst p.1)))) : wE Gm Φ (.mut m i es) ρ Q := by
  obtain ⟨rs, ρ1, e1, ds, ρ2, l, p, h1, h2, h3, q⟩ := h
  exact ⟨_, _, by unfold evE; rw [h0]; array_mem_dec; rw [e1]; array_mem_dec; rw [h1]; array_mem_dec; rw [h2]; array_mem_dec; rw [h3]; rfl, q⟩
/-- a call, its arguments known -/
structure CallW (Gm : Cfg) (Φ : Phi) (f : Nat) (rs : List R) (ρ1 : Env) (Q : R → Env → Prop) : Prop where
  h : ∃ r ρ', callF Gm Φ f rs ρ1 = some (r, ρ') ∧ Q r ρ'
theorem w_call {f : Nat} {es : Es} (h : wA Gm Φ es ρ fun rs ρ1 => CallW Gm Φ f rs ρ1 Q) : wE Gm Φ (.call f es) ρ Q := by
  obtain ⟨rs, ρ1, e1, r, ρ', e2, q⟩ := h
  exact ⟨r, ρ', by unfold evE; rw [e1]; exact e2, q⟩
/-- it lends no owned thing for reading -/
theorem call_by {f : Nat} {rs : List R} {ρ1 : Env} {io : List Bool} {as : List Arg} {ios : List Nat} {r : R} {outs : List D} (h1 : Gm.io f = some io) (h2 : takeArgs ρ1 rs io = some (as, ios, [])) (hn : decide ios.Nodup = true) (e : Φ f as = some (r, outs)) (hl : outs.length = ios.length) (q : Q r (setOuts ρ1 ios outs)) : CallW Gm Φ f rs ρ1 Q := by
  refine ⟨r, _, ?_, q⟩
  unfold callF
  rw [h1]
  dsimp only
  rw [h2]
  dsimp only
  rw [List.append_nil, if_pos (of_decide_eq_true hn), e]
  dsimp only
  rw [if_pos hl]
  rfl
/-- .. it lends some: they stay owned if what comes back is still -/
theorem call_lend {f : Nat} {rs : List R} {ρ1 : Env} {io : List Bool} {as : List Arg} {ios ls : List Nat} {r : R} {outs : List D} (h1 : Gm.io f = some io) (h2 : takeArgs ρ1 rs io = some (as, ios, ls)) (hn : decide (ios ++ ls).Nodup = true) (e : Φ f as = some (r, outs)) (hl : outs.length = ios.length) (hs : (stillR r && outs.all stillC) = true) (q : Q r (setOuts ρ1 ios outs)) : CallW Gm Φ f rs ρ1 Q := by
  refine ⟨r, _, ?_, q⟩
  unfold callF
  rw [h1]
  dsimp only
  rw [h2]
  dsimp only
  rw [if_pos (of_decide_eq_true hn), e]
  dsimp only
  rw [if_pos hl, hs, Bool.or_true]
  rfl
structure MakeW (Gm : Cfg) (Φ : Phi) (C : Nat) (rs : List R) (ρ1 : Env) (Q : R → Env → Prop) : Prop where
  h : ∃ r ρ', makeF Gm Φ C rs ρ1 = some (r, ρ') ∧ Q r ρ'
theorem w_make {C : Nat} {es : Es} (h : wA Gm Φ es ρ fun rs ρ1 => MakeW Gm Φ C rs ρ1 Q) : wE Gm Φ (.make C es) ρ Q := by
  obtain ⟨rs, ρ1, e1, r, ρ', e2, q⟩ := h
  exact ⟨r, ρ', by unfold evE; rw [e1]; exact e2, q⟩
theorem make_by {C : Nat} {rs : List R} {ρ1 ρ2 : Env} {io : List Bool} {ds : List D} {d : D} (h1 : freezes rs ρ1 = some (ds, ρ2)) (h2 : Gm.io C = some io) (h3 : io = (true :: ds.map fun _ => false)) (e : Φ C ((true, .ins C [] []) :: ds.map fun d => (false, d)) = some (.v .non, [d])) (q : Q (.o d) ρ2) : MakeW Gm Φ C rs ρ1 Q := by
  refine ⟨_, _, ?_, q⟩
  unfold makeF
  rw [h1]
  dsimp only
  rw [h2]
  dsimp only
  rw [if_pos h3, e]
theorem w_lrange1 {a : E} (h : wE Gm Φ a ρ fun r ρ1 => ∃ j l, r = .v (.int j) ∧ rangeD 0 j = some l ∧ Q (.o (.lst l)) ρ1) : wE Gm Φ (.lrange (.cons a .nil)) ρ Q := by
  obtain ⟨r, ρ1, e1, j, l, rfl, h1, q⟩ := h
  refine ⟨_, _, ?_, q⟩
  unfold evE
  have e2 : evEs Gm Φ (.cons a .nil) ρ = some ([.v (.int j)], ρ1) := by unfold evEs; rw [e1]; rfl
  rw [e2]
  array_mem_dec
  rw [h1]
  rfl
theorem w_lrange2 {a b : E} (h : wE Gm Φ a ρ fun r ρ1 => wE Gm Φ b ρ1 fun r' ρ2 => ∃ i j l, r = .v (.int i) ∧ r' = .v (.int j) ∧ rangeD i j = some l ∧ Q (.o (.lst l)) ρ2) : wE Gm Φ (.lrange (.cons a (.cons b .nil))) ρ Q := by
  obtain ⟨r, ρ1, e1, r', ρ2, e2, i, j, l, rfl, rfl, h1, q⟩ := h
  refine ⟨_, _, ?_, q⟩
  unfold evE
  have e3 : evEs Gm Φ (.cons a (.cons b .nil)) ρ = some ([.v (.int i), .v (.int j)], ρ2) := by
    unfold evEs
    rw [e1]
    array_mem_dec
    unfold evEs
    rw [e2]
    rfl
  rw [e3]
  array_mem_dec
  rw [h1]
  rfl
theorem w_comp {vs : List Nat} {tg : Tg} {it : It} {c : T} {e : E} (hv : tgIn vs tg = true) (h : wI Gm Φ it ρ fun its ρ1 => ∃ acc ρ2, compGo vs (fun d ρ2 => match setItm tg d ρ2 with
        | some ρ3 => bindO (evT Gm Φ c ρ3) fun k ρ4 => match k with
          | true => bindO (evE Gm Φ e ρ4) fun r ρ5 => bindO (freeze r ρ5) fun x ρ6 => some (some x, ρ6)
          | false => some (none, ρ4)
        | none => none) its [] ρ1 = some (acc, ρ2) ∧ Q (.o (.lst acc)) ρ2) : wE Gm Φ (.comp vs tg it c e) ρ Q := by
  obtain ⟨its, ρ1, e1, acc, ρ2, h1, q⟩ := h
  refine ⟨_, _, ?_, q⟩
  unfold evE
  rw [hv]
  array_mem_dec
  rw [e1]
  array_mem_dec
  exact congrArg (fun z => bindO z fun acc ρ7 => some (R.o (.lst acc), ρ7)) h1
/-- a turn -/
theorem w_turn {tg : Tg} {c : T} {e : E} {d : Itm} {ρ2 ρ3 : Env} {X : Option D → Env → Prop} (h0 : setItm tg d ρ2 = some ρ3)
    (h : wT Gm Φ c ρ3 fun k ρ4 => (k = true → wE Gm Φ e ρ4 fun r ρ5 => ∃ x ρ6, freeze r ρ5 = some (x, ρ6) ∧ X (some x) ρ6) ∧ (k = false → X none ρ4)) :
    ∃ x ρ', (match setItm tg d ρ2 with
        | some ρ3 => bindO (evT Gm Φ c ρ3) fun k ρ4 => match k with
          | true => bindO (evE Gm Φ e ρ4) fun r ρ5 => bindO (freeze r ρ5) fun x ρ6 => some (some x, ρ6)
          | false => some (none, ρ4)
        | none => none) = some (x, ρ') ∧ X x ρ' := by
  obtain ⟨k, ρ4, e1, h1, h2⟩ := h
  rw [h0]
  dsimp only
  rw [e1]
  cases k with
  | true =>
    obtain ⟨r, ρ5, e2, x, ρ6, e3, q⟩ := h1 rfl
    exact ⟨some x, ρ6, by array_mem_dec; rw [e2]; array_mem_dec; rw [e3]; rfl, q⟩
  | false => exact ⟨none, ρ4, rfl, h2 rfl⟩
/-- a comprehension that leaves the slots as they were; f: what a turn gives -/
theorem w_compP {vs : List Nat} {tg : Tg} {it : It} {c : T} {e : E} (hv : tgIn vs tg = true) (h : wI Gm Φ it ρ fun its ρ1 => ∃ f : Itm → Option D, (∀ x ∈ its, ∃ ρ3, setItm tg x (wipeE ρ1 vs) = some ρ3 ∧ wT Gm Φ c ρ3 fun k ρ4 =>
      (k = true → wE Gm Φ e ρ4 fun r ρ5 => ∃ y ρ6, freeze r ρ5 = some (y, ρ6) ∧ f x = some y ∧ back ρ1 ρ6 vs = ρ1) ∧ (k = false → f x = none ∧ back ρ1 ρ4 vs = ρ1)) ∧ Q (.o (.lst (its.filterMap f))) ρ1) : wE Gm Φ (.comp vs tg it c e) ρ Q := by
  refine w_comp hv ?_
  obtain ⟨its, ρ1, e1, f, h, q⟩ := h
  refine ⟨its, ρ1, e1, _, _, comp_pure (f := f) fun x hx => ?_, by rw [List.nil_append]; exact q⟩
  obtain ⟨ρ3, h0, hk⟩ := h x hx
  have t := w_turn (Gm := Gm) (Φ := Φ) (tg := tg) (c := c) (e := e) (X := fun y ρ' => y = f x ∧ back ρ1 ρ' vs = ρ1) h0 (by
    obtain ⟨k, ρ4, e2, h1, h2⟩ := hk
    refine ⟨k, ρ4, e2, fun hk => ?_, fun hk => ?_⟩
    · obtain ⟨r, ρ5, e3, y, ρ6, e4, e5, e6⟩ := h1 hk
      exact ⟨r, ρ5, e3, y, ρ6, e4, e5.symm, e6⟩
    · exact ⟨(h2 hk).1.symm, (h2 hk).2⟩)
  obtain ⟨y, ρ', e3, rfl, e4⟩ := t
  exact ⟨ρ', e3, e4⟩
/-- a comprehension without tests whose turns change slots -/
theorem w_compI {vs : List Nat} {tg : Tg} {it : It} {e : E} (hv : tgIn vs tg = true) (h : wI Gm Φ it ρ fun its ρ1 => ∃ I : Nat → List D → Env → Prop, I 0 [] ρ1 ∧
      (∀ i x acc ρ, its[i]? = some x → I i acc ρ → ∃ ρ3, setItm tg x (wipeE ρ vs) = some ρ3 ∧ wE Gm Φ e ρ3 fun r ρ5 => ∃ y ρ6, freeze r ρ5 = some (y, ρ6) ∧ I (i + 1) (acc ++ [y]) (back ρ ρ6 vs)) ∧
      ∀ acc ρ2, I its.length acc ρ2 → Q (.o (.lst acc)) ρ2) : wE Gm Φ (.comp vs tg it .yes e) ρ Q := by
  refine w_comp hv ?_
  obtain ⟨its, ρ1, e1, I, h0, hs, q⟩ := h
  obtain ⟨acc, ρ2, e2, i⟩ := comp_ind (vs := vs) (turn := fun d ρ2 => match setItm tg d ρ2 with
        | some ρ3 => bindO (evT Gm Φ .yes ρ3) fun k ρ4 => match k with
          | true => bindO (evE Gm Φ e ρ4) fun r ρ5 => bindO (freeze r ρ5) fun x ρ6 => some (some x, ρ6)
          | false => some (none, ρ4)
        | none => none) I h0 fun i x acc ρ hx hi => by
    obtain ⟨ρ3, g0, r, ρ5, g1, y, ρ6, g2, g3⟩ := hs i x acc ρ hx hi
    refine ⟨y, ρ6, ?_, g3⟩
    simp only [g0]
    unfold evT
    show bindO (evE Gm Φ e ρ3) _ = _
    rw [g1, bindO_s, g2, bindO_s]
  exact ⟨its, ρ1, e1, acc, ρ2, e2, q acc ρ2 i⟩
/-! tests -/
section
variable {Q : Bool → Env → Prop}
theorem w_yes (q : Q true ρ) : wT Gm Φ .yes ρ Q := ⟨_, _, by unfold evT; rfl, q⟩
theorem w_val {a : E} (h : wE Gm Φ a ρ fun ra ρ1 => ∃ b, ra = .v (.bl b) ∧ Q b ρ1) : wT Gm Φ (.val a) ρ Q := by
  obtain ⟨ra, ρ1, e1, b, rfl, q⟩ := h
  exact ⟨_, _, by unfold evT; rw [e1]; rfl, q⟩
theorem w_and {a b : T} (h : wT Gm Φ a ρ fun k ρ1 => (k = true → wT Gm Φ b ρ1 Q) ∧ (k = false → Q false ρ1)) : wT Gm Φ (.and a b) ρ Q := by
  obtain ⟨k, ρ1, e1, h1, h2⟩ := h
  cases k with
  | true => obtain ⟨r, ρ2, e2, q⟩ := h1 rfl; exact ⟨_, _, by unfold evT; rw [e1]; exact e2, q⟩
  | false => exact ⟨_, _, by unfold evT; rw [e1]; rfl, h2 rfl⟩
theorem w_or {a b : T} (h : wT Gm Φ a ρ fun k ρ1 => (k = true → Q true ρ1) ∧ (k = false → wT Gm Φ b ρ1 Q)) : wT Gm Φ (.or a b) ρ Q := by
  obtain ⟨k, ρ1, e1, h1, h2⟩ := h
  cases k with
  | false => obtain ⟨r, ρ2, e2, q⟩ := h2 rfl; exact ⟨_, _, by unfold evT; rw [e1]; exact e2, q⟩
  | true => exact ⟨_, _, by unfold evT; rw [e1]; rfl, h1 rfl⟩
theorem w_not {a : T} (h : wT Gm Φ a ρ fun k ρ1 => Q (!k) ρ1) : wT Gm Φ (.not a) ρ Q := by
  obtain ⟨k, ρ1, e1, q⟩ := h
  exact ⟨_, _, by unfold evT; rw [e1]; rfl, q⟩
end
theorem w_anil {Q : List R → Env → Prop} (q : Q [] ρ) : wA Gm Φ .nil ρ Q := ⟨_, _, by unfold evEs; rfl, q⟩
theorem w_acons {Q : List R → Env → Prop} {a : E} {r : Es} (h : wE Gm Φ a ρ fun x ρ1 => wA Gm Φ r ρ1 fun xs ρ2 => Q (x :: xs) ρ2) : wA Gm Φ (.cons a r) ρ Q := by
  obtain ⟨x, ρ1, e1, xs, ρ2, e2, q⟩ := h
  exact ⟨_, _, by unfold evEs; rw [e1]; array_mem_dec; rw [e2]; rfl, q⟩
theorem w_onone {Q : Option Int → Env → Prop} (q : Q none ρ) : wO Gm Φ .none ρ Q := ⟨_, _, by unfold evOe; rfl, q⟩
theorem w_osome {Q : Option Int → Env → Prop} {a : E} (h : wE Gm Φ a ρ fun x ρ1 => ∃ i, x = .v (.int i) ∧ Q (some i) ρ1) : wO Gm Φ (.some a) ρ Q := by
  obtain ⟨x, ρ1, e1, i, rfl, q⟩ := h
  exact ⟨_, _, by unfold evOe; rw [e1]; rfl, q⟩
section
variable {Q : List Itm → Env → Prop}
theorem w_seq {a : E} (h : wE Gm Φ a ρ fun r ρ1 => ∃ d ρ2 l, freeze r ρ1 = some (d, ρ2) ∧ itemsD d = some l ∧ Q (l.map .one) ρ2) : wI Gm Φ (.seq a) ρ Q := by
  obtain ⟨r, ρ1, e1, d, ρ2, l, h1, h2, q⟩ := h
  exact ⟨_, _, by unfold evIt; rw [e1]; array_mem_dec; unfold walkD; rw [h1]; array_mem_dec; rw [h2]; rfl, q⟩
theorem w_range1 {a : E} (h : wE Gm Φ a ρ fun r ρ1 => ∃ j l, r = .v (.int j) ∧ rangeD 0 j = some l ∧ Q (l.map .one) ρ1) : wI Gm Φ (.range1 a) ρ Q := by
  obtain ⟨r, ρ1, e1, j, l, rfl, h1, q⟩ := h
  exact ⟨_, _, by unfold evIt; rw [e1]; array_mem_dec; rw [h1]; rfl, q⟩
theorem w_range2 {a b : E} (h : wE Gm Φ a ρ fun r ρ1 => wE Gm Φ b ρ1 fun r' ρ2 => ∃ i j l, r = .v (.int i) ∧ r' = .v (.int j) ∧ rangeD i j = some l ∧ Q (l.map .one) ρ2) : wI Gm Φ (.range2 a b) ρ Q := by
  obtain ⟨r, ρ1, e1, r', ρ2, e2, i, j, l, rfl, rfl, h1, q⟩ := h
  exact ⟨_, _, by unfold evIt; rw [e1]; array_mem_dec; rw [e2]; array_mem_dec; rw [h1]; rfl, q⟩
theorem w_zip {a b : E} (h : wE Gm Φ a ρ fun r ρ1 => wE Gm Φ b ρ1 fun r' ρ2 => ∃ d ρ3 d' ρ4 l, freeze r ρ2 = some (d, ρ3) ∧ freeze r' ρ3 = some (d', ρ4) ∧ zipD d d' = some l ∧ Q l ρ4) : wI Gm Φ (.zip a b) ρ Q := by
  obtain ⟨r, ρ1, e1, r', ρ2, e2, d, ρ3, d', ρ4, l, h1, h2, h3, q⟩ := h
  exact ⟨_, _, by unfold evIt; rw [e1]; array_mem_dec; rw [e2]; array_mem_dec; rw [h1]; array_mem_dec; rw [h2]; array_mem_dec; rw [h3]; rfl, q⟩
theorem w_enum {a : E} (h : wE Gm Φ a ρ fun r ρ1 => ∃ d ρ2 l, freeze r ρ1 = some (d, ρ2) ∧ enumD d = some l ∧ Q l ρ2) : wI Gm Φ (.enum a) ρ Q := by
  obtain ⟨r, ρ1, e1, d, ρ2, l, h1, h2, q⟩ := h
  exact ⟨_, _, by unfold evIt; rw [e1]; array_mem_dec; rw [h1]; array_mem_dec; rw [h2]; rfl, q⟩
end
/-! statements -/
section
variable {Q : Fl → Env → Prop}
def sq (k : Env → Prop) (Q : Fl → Env → Prop) : Fl → Env → Prop
  | .nx, ρ => k ρ
  | f, ρ => Q f ρ
theorem w_bnil (q : Q .nx ρ) : wB Gm Φ fx .nil ρ Q := ⟨_, _, by unfold evSs; rfl, q⟩
theorem w_bcons {s : S} {r : Ss} (h : wS Gm Φ fx s ρ (sq (fun ρ1 => wB Gm Φ fx r ρ1 Q) Q)) : wB Gm Φ fx (.cons s r) ρ Q := by
  obtain ⟨f, ρ1, e1, h1⟩ := h
  cases f with
  | nx => obtain ⟨f2, ρ2, e2, q⟩ := h1; exact ⟨_, _, by unfold evSs; rw [e1]; exact e2, q⟩
  | rt r => exact ⟨_, _, by unfold evSs; rw [e1], h1⟩
  | brk => exact ⟨_, _, by unfold evSs; rw [e1], h1⟩
  | cnt => exact ⟨_, _, by unfold evSs; rw [e1], h1⟩
theorem w_asg {tg : Tg} {a : E} (hf : tgFree fx tg = true) (h : wE Gm Φ a ρ fun r ρ1 => ∃ d ρ2 ρ3, freeze r ρ1 = some (d, ρ2) ∧ setTg tg d ρ2 = some ρ3 ∧ Q .nx ρ3) : wS Gm Φ fx (.asg tg a) ρ Q := by
  obtain ⟨r, ρ1, e1, d, ρ2, ρ3, h1, h2, q⟩ := h
  exact ⟨_, _, by unfold evS; rw [if_pos hf, e1]; array_mem_dec; rw [h1]; array_mem_dec; rw [h2]; rfl, q⟩
theorem w_sown {i : Nat} {a : E} (hf : i ∉ fx) (h : wE Gm Φ a ρ fun r ρ1 => ∃ d, r = .o d ∧ i < ρ1.length ∧ Q .nx (ρ1.set i (some (true, d)))) : wS Gm Φ fx (.own i a) ρ Q := by
  obtain ⟨r, ρ1, e1, d, rfl, hi, q⟩ := h
  exact ⟨_, _, by unfold evS; rw [if_neg hf, e1]; array_mem_dec; rw [if_pos hi], q⟩
theorem w_sownF {i : Nat} {a : E} (hf : i ∉ fx) (h : wE Gm Φ a ρ fun r ρ1 => ∃ d, r = .v d ∧ i < ρ1.length ∧ Q .nx (ρ1.set i (some (false, d)))) : wS Gm Φ fx (.own i a) ρ Q := by
  obtain ⟨r, ρ1, e1, d, rfl, hi, q⟩ := h
  exact ⟨_, _, by unfold evS; rw [if_neg hf, e1]; exact if_pos hi, q⟩
theorem w_par {sw : Bool} {ts : List (Nat × Bool)} {es : Es} (h : wA Gm Φ es ρ fun rs ρ1 => ∃ p ρ2, (ts.all (fun t => decide (t.1 ∉ fx) && decide (t.1 < ρ1.length)) = true ∧ ts.length ≤ line) ∧ prep ts rs ρ1 = some (p, ρ2) ∧ Q .nx (setAll ts p ρ2)) : wS Gm Φ fx (.par sw ts es) ρ Q := by
  obtain ⟨rs, ρ1, e1, p, ρ2, h1, h2, q⟩ := h
  exact ⟨_, _, by unfold evS; rw [e1]; array_mem_dec; rw [if_pos h1, h2]; rfl, q⟩
theorem w_setix {i : Nat} {ix a : E} {l0 : List D} (h0 : eget ρ i = some (true, .lst l0)) (h : wE Gm Φ a ρ fun r ρ1 => wE Gm Φ ix ρ1 fun ri ρ2 => ∃ d ρ3 k l j, freeze r ρ2 = some (d, ρ3) ∧ ri = .v (.int k) ∧ eget ρ3 i = some (true, .lst l) ∧ ixOf l.length k = some j ∧ Q .nx (ρ3.set i (some (true, .lst (l.set j d))))) : wS Gm Φ fx (.setix i ix a) ρ Q := by
  obtain ⟨r, ρ1, e1, ri, ρ2, e2, d, ρ3, k, l, j, h1, rfl, h3, h4, q⟩ := h
  exact ⟨_, _, by unfold evS; rw [h0]; array_mem_dec; rw [e1]; array_mem_dec; rw [e2]; array_mem_dec; rw [h1]; array_mem_dec; rw [h3]; array_mem_dec; rw [h4]; rfl, q⟩
theorem w_setat {i : Nat} {f : Str} {a : E} (h : wE Gm Φ a ρ fun r ρ1 => ∃ d ρ2 C ns vs fs, freeze r ρ1 = some (d, ρ2) ∧ eget ρ2 i = some (true, .ins C ns vs) ∧ Gm.fields C = some fs ∧ (f ∈ fs ∧ vs.length < 900) ∧ Q .nx (ρ2.set i (some (true, .ins C (putN f d ns vs).1 (putN f d ns vs).2)))) : wS Gm Φ fx (.setat i f a) ρ Q := by
  obtain ⟨r, ρ1, e1, d, ρ2, C, ns, vs, fs, h1, h2, h3, h4, q⟩ := h
  refine ⟨_, _, ?_, q⟩
  unfold evS
  rw [e1]
  array_mem_dec
  rw [h1]
  array_mem_dec
  rw [h2]
  array_mem_dec
  rw [h3]
  array_mem_dec
  rw [if_pos h4]
theorem w_augA {i : Nat} {a : E} {x : Int} (hf : i ∉ fx) (h0 : eget ρ i = some (false, .int x)) (h : wE Gm Φ a ρ fun r ρ1 => ∃ y, r = .v (.int y) ∧ Q .nx (ρ1.set i (some (false, .int (x + y))))) : wS Gm Φ fx (.aug i .add a) ρ Q := by
  obtain ⟨r, ρ1, e1, y, rfl, q⟩ := h
  exact ⟨_, _, by unfold evS; rw [if_neg hf, h0]; array_mem_dec; rw [e1]; rfl, q⟩
theorem w_augixA {i : Nat} {ix a : E} {l0 : List D} (h0 : eget ρ i = some (true, .lst l0)) (h : wE Gm Φ ix ρ fun ri ρ1 => ∃ k l j x, ri = .v (.int k) ∧ eget ρ1 i = some (true, .lst l) ∧ ixOf l.length k = some j ∧ l[j]? = some (.int x) ∧
    wE Gm Φ a ρ1 fun r ρ2 => ∃ y l2 j2, r = .v (.int y) ∧ eget ρ2 i = some (true, .lst l2) ∧ ixOf l2.length k = some j2 ∧ Q .nx (ρ2.set i (some (true, .lst (l2.set j2 (.int (x + y))))))) : wS Gm Φ fx (.augix i ix .add a) ρ Q := by
  obtain ⟨ri, ρ1, e1, k, l, j, x, rfl, h1, h2, h3, r, ρ2, e2, y, l2, j2, rfl, h4, h5, q⟩ := h
  exact ⟨_, _, by unfold evS; rw [h0]; array_mem_dec; rw [e1]; array_mem_dec; rw [h1]; array_mem_dec; rw [h2]; array_mem_dec; rw [h3]; array_mem_dec; rw [e2]; array_mem_dec; rw [h4]; array_mem_dec; rw [h5]; rfl, q⟩
theorem w_augixS {i : Nat} {ix a : E} {l0 : List D} (h0 : eget ρ i = some (true, .lst l0)) (h : wE Gm Φ ix ρ fun ri ρ1 => ∃ k l j x, ri = .v (.int k) ∧ eget ρ1 i = some (true, .lst l) ∧ ixOf l.length k = some j ∧ l[j]? = some (.int x) ∧
    wE Gm Φ a ρ1 fun r ρ2 => ∃ y l2 j2, r = .v (.int y) ∧ eget ρ2 i = some (true, .lst l2) ∧ ixOf l2.length k = some j2 ∧ Q .nx (ρ2.set i (some (true, .lst (l2.set j2 (.int (x - y))))))) : wS Gm Φ fx (.augix i ix .sub a) ρ Q := by
  obtain ⟨ri, ρ1, e1, k, l, j, x, rfl, h1, h2, h3, r, ρ2, e2, y, l2, j2, rfl, h4, h5, q⟩ := h
  exact ⟨_, _, by unfold evS; rw [h0]; array_mem_dec; rw [e1]; array_mem_dec; rw [h1]; array_mem_dec; rw [h2]; array_mem_dec; rw [h3]; array_mem_dec; rw [e2]; array_mem_dec; rw [h4]; array_mem_dec; rw [h5]; rfl, q⟩
theorem w_expr {a : E} (h : wE Gm Φ a ρ fun _ ρ1 => Q .nx ρ1) : wS Gm Φ fx (.expr a) ρ Q := by
  obtain ⟨r, ρ1, e1, q⟩ := h
  exact ⟨_, _, by unfold evS; rw [e1]; rfl, q⟩
/-- what a return hands back -/
def rtR (fx : List Nat) (Q : Fl → Env → Prop) : R → Env → Prop
  | .v d, ρ => Q (.rt (.v d)) ρ
  | .o d, ρ => Q (.rt (.o d)) ρ
  | .b s, ρ => s ∉ fx ∧ ((∃ d, eget ρ s = some (true, d) ∧ Q (.rt (.o d)) (ρ.set s none)) ∨ (∃ d, eget ρ s = some (false, d) ∧ Q (.rt (.v d)) ρ))
theorem w_ret {a : E} (h : wE Gm Φ a ρ fun r ρ1 => rtR fx Q r ρ1) : wS Gm Φ fx (.ret a) ρ Q := by
  obtain ⟨r, ρ1, e1, q⟩ := h
  cases r with
  | v d => exact ⟨_, _, by unfold evS; rw [e1]; rfl, q⟩
  | o d => exact ⟨_, _, by unfold evS; rw [e1]; rfl, q⟩
  | b s =>
    obtain ⟨hs, ⟨d, h1, q⟩ | ⟨d, h1, q⟩⟩ := q
    · exact ⟨_, _, by unfold evS; rw [e1]; array_mem_dec; rw [if_neg hs, h1], q⟩
    · exact ⟨_, _, by unfold evS; rw [e1]; array_mem_dec; rw [if_neg hs, h1], q⟩
theorem w_retn (q : Q (.rt (.v .non)) ρ) : wS Gm Φ fx .retn ρ Q := ⟨_, _, by unfold evS; rfl, q⟩
theorem w_pass (q : Q .nx ρ) : wS Gm Φ fx .pass ρ Q := ⟨_, _, by unfold evS; rfl, q⟩
theorem w_brk (q : Q .brk ρ) : wS Gm Φ fx .brk ρ Q := ⟨_, _, by unfold evS; rfl, q⟩
theorem w_cnt (q : Q .cnt ρ) : wS Gm Φ fx .cnt ρ Q := ⟨_, _, by unfold evS; rfl, q⟩
theorem w_site {c : T} {a b : Ss} (h : wT Gm Φ c ρ fun k ρ1 => (k = true → wB Gm Φ fx a ρ1 Q) ∧ (k = false → wB Gm Φ fx b ρ1 Q)) : wS Gm Φ fx (.ite c a b) ρ Q := by
  obtain ⟨k, ρ1, e1, h1, h2⟩ := h
  cases k with
  | true => obtain ⟨r, ρ2, e2, q⟩ := h1 rfl; exact ⟨_, _, by unfold evS; rw [e1]; exact e2, q⟩
  | false => obtain ⟨r, ρ2, e2, q⟩ := h2 rfl; exact ⟨_, _, by unfold evS; rw [e1]; exact e2, q⟩
theorem w_whil {c : T} {b : Ss} (hl : Gm.loop = loopC) (I : Nat → Env → Prop) (m : Nat) (h0 : I m ρ)
    (h : ∀ m ρ, I m ρ → wT Gm Φ c ρ fun k ρ1 => (k = false → Q .nx ρ1) ∧ (k = true → wB Gm Φ fx b ρ1 fun f ρ2 => match f with
      | .nx => ∃ m', m' < m ∧ I m' ρ2
      | .cnt => ∃ m', m' < m ∧ I m' ρ2
      | .brk => Q .nx ρ2
      | .rt r => Q (.rt r) ρ2)) : wS Gm Φ fx (.whil c b) ρ Q := by
  have k := loop_ind (step := turnW (fun ρ => evT Gm Φ c ρ) fun ρ => evSs Gm Φ fx b ρ) I Q (fun m ρ i => by
    obtain ⟨k, ρ1, e1, h1, h2⟩ := h m ρ i
    cases k with
    | false => exact .inl ⟨.nx, ρ1, by unfold turnW; dsimp only; rw [e1], h1 rfl⟩
    | true =>
      obtain ⟨f, ρ2, e2, q⟩ := h2 rfl
      cases f with
      | nx => obtain ⟨m', hm, i'⟩ := q; exact .inr ⟨ρ2, m', hm, by unfold turnW; dsimp only; rw [e1]; dsimp only; rw [e2], i'⟩
      | cnt => obtain ⟨m', hm, i'⟩ := q; exact .inr ⟨ρ2, m', hm, by unfold turnW; dsimp only; rw [e1]; dsimp only; rw [e2], i'⟩
      | brk => exact .inl ⟨.nx, ρ2, by unfold turnW; dsimp only; rw [e1]; dsimp only; rw [e2], q⟩
      | rt r => exact .inl ⟨.rt r, ρ2, by unfold turnW; dsimp only; rw [e1]; dsimp only; rw [e2], q⟩) m ρ h0
  obtain ⟨f, ρ', e, q⟩ := k
  exact ⟨f, ρ', by unfold evS; rw [hl]; exact e, q⟩
theorem w_for {tg : Tg} {it : It} {b : Ss} (hf : tgFree fx tg = true) (h : wI Gm Φ it ρ fun its ρ1 => ∃ I : Nat → Env → Prop, I 0 ρ1 ∧
      (∀ i x ρ, its[i]? = some x → I i ρ → ∃ ρ2, setItm tg x ρ = some ρ2 ∧ wB Gm Φ fx b ρ2 fun f ρ3 => f = .nx ∧ I (i + 1) ρ3) ∧ ∀ ρ2, I its.length ρ2 → Q .nx ρ2) : wS Gm Φ fx (.for_ tg it b) ρ Q := by
  obtain ⟨its, ρ1, e1, I, h0, hs, q⟩ := h
  obtain ⟨ρ', e2, i⟩ := for_ind (turn := fun d ρ2 => match setItm tg d ρ2 with
    | some ρ3 => evSs Gm Φ fx b ρ3
    | none => none) I h0 fun i it ρ hx hi => by
      obtain ⟨ρ2, e2, f, ρ3, e3, rfl, i'⟩ := hs i it ρ hx hi
      exact ⟨ρ3, by simp only [e2]; exact e3, i'⟩
  exact ⟨_, _, by unfold evS; rw [hf]; array_mem_dec; rw [e1]; exact e2, q ρ' i⟩
end
end
structure Cut (k : Env → Prop) (ρ : Env) : Prop where
  h : k ρ
theorem w_cut {Gm : Cfg} {Φ : Phi} {fx : List Nat} {ρ : Env} {Q : Fl → Env → Prop} {s : S} {r : Ss} (h : wS Gm Φ fx s ρ (sq (Cut fun ρ1 => wB Gm Φ fx r ρ1 Q) Q)) : wB Gm Φ fx (.cons s r) ρ Q := by
  obtain ⟨f, ρ1, e, h⟩ := h
  refine w_bcons ⟨f, ρ1, e, ?_⟩
  cases f with
  | nx => exact h.h
  | rt r => exact h
  | brk => exact h
  | cnt => exact h
theorem sq_nx {k : Env → Prop} {Q : Fl → Env → Prop} {ρ : Env} (q : k ρ) : sq k Q .nx ρ := q
theorem sq_rt {k : Env → Prop} {Q : Fl → Env → Prop} {ρ : Env} {r : R} (q : Q (.rt r) ρ) : sq k Q (.rt r) ρ := q
theorem rt_v {fx : List Nat} {Q : Fl → Env → Prop} {ρ : Env} {d : D} (q : Q (.rt (.v d)) ρ) : rtR fx Q (.v d) ρ := q
theorem rt_o {fx : List Nat} {Q : Fl → Env → Prop} {ρ : Env} {d : D} (q : Q (.rt (.o d)) ρ) : rtR fx Q (.o d) ρ := q
theorem rt_b {fx : List Nat} {Q : Fl → Env → Prop} {ρ : Env} {s : Nat} {d : D} (hf : decide (s ∉ fx) = true) (h : eget ρ s = some (true, d)) (q : Q (.rt (.o d)) (ρ.set s none)) : rtR fx Q (.b s) ρ := ⟨of_decide_eq_true hf, .inl ⟨d, h, q⟩⟩
theorem w_sown' {Gm : Cfg} {Φ : Phi} {fx : List Nat} {ρ : Env} {Q : Fl → Env → Prop} {i : Nat} {a : E} (hf : decide (i ∉ fx) = true) (h : wE Gm Φ a ρ fun r ρ1 => ∃ d, r = .o d ∧ i < ρ1.length ∧ Q .nx (ρ1.set i (some (true, d)))) : wS Gm Φ fx (.own i a) ρ Q := w_sown (of_decide_eq_true hf) h
theorem w_dic0 {Gm : Cfg} {Φ : Phi} {ρ : Env} {Q : R → Env → Prop} (q : Q (.o (.dct [] [])) ρ) : wE Gm Φ .dic0 ρ Q := ⟨_, _, by unfold evE; rfl, q⟩
theorem w_dic1 {Gm : Cfg} {Φ : Phi} {ρ : Env} {Q : R → Env → Prop} {k v : E} (h : wE Gm Φ k ρ fun rk ρ1 => wE Gm Φ v ρ1 fun rv ρ2 => ∃ d ρ3 y ky, freeze rv ρ2 = some (d, ρ3) ∧ rk = .v y ∧ keyD y = some ky ∧ Q (.o (.dct [ky] [d])) ρ3) : wE Gm Φ (.dic1 k v) ρ Q := by
  obtain ⟨rk, ρ1, e1, rv, ρ2, e2, d, ρ3, y, ky, h1, rfl, h2, q⟩ := h
  exact ⟨_, _, by unfold evE; rw [e1]; array_mem_dec; rw [e2]; array_mem_dec; rw [h1]; array_mem_dec; rw [h2]; rfl, q⟩
theorem w_setixD {Gm : Cfg} {Φ : Phi} {fx : List Nat} {ρ : Env} {Q : Fl → Env → Prop} {i : Nat} {ix a : E} {ks0 : List L2.Key} {vs0 : List D} (h0 : eget ρ i = some (true, .dct ks0 vs0)) (h : wE Gm Φ a ρ fun r ρ1 => wE Gm Φ ix ρ1 fun ri ρ2 => ∃ d ρ3 y ks vs k, freeze r ρ2 = some (d, ρ3) ∧ ri = .v y ∧ eget ρ3 i = some (true, .dct ks vs) ∧ keyD y = some k ∧ ks.length < line ∧ Q .nx (ρ3.set i (some (true, .dct (dputD k d ks vs).1 (dputD k d ks vs).2)))) : wS Gm Φ fx (.setix i ix a) ρ Q := by
  obtain ⟨r, ρ1, e1, ri, ρ2, e2, d, ρ3, y, ks, vs, k, h1, rfl, h3, h4, h5, q⟩ := h
  exact ⟨_, _, by unfold evS; rw [h0]; array_mem_dec; rw [e1]; array_mem_dec; rw [e2]; array_mem_dec; rw [h1]; array_mem_dec; rw [h3]; array_mem_dec; rw [h4]; array_mem_dec; rw [if_pos h5], q⟩
theorem comp2_pure {vs : List Nat} {turn : Itm → Env → List D → Option (List D × Env)} {F : Itm → List D} : ∀ {its : List Itm} {acc : List D} {ρ : Env}, (∀ x ∈ its, ∀ acc, ∃ ρ', turn x (wipeE ρ vs) acc = some (acc ++ F x, ρ') ∧ back ρ ρ' vs = ρ) → compGo2 vs turn its acc ρ = some (acc ++ its.flatMap F, ρ)
  | [], acc, ρ, _ => by unfold compGo2; simp
  | x :: its, acc, ρ, h => by
    obtain ⟨ρ', e1, e2⟩ := h x List.mem_cons_self acc
    unfold compGo2
    rw [e1]
    dsimp only
    rw [e2, comp2_pure fun y hy => h y (List.mem_cons_of_mem _ hy), List.flatMap_cons, List.append_assoc]
/-- a comprehension of two clauses that leaves the slots as they were -/
theorem w_comp2P {Gm : Cfg} {Φ : Phi} {ρ : Env} {Q : R → Env → Prop} {vs vs1 : List Nat} {tg tg1 : Tg} {it it1 : It} {c c1 : T} {e : E} (hv : (!tgIn vs tg || !tgIn vs1 tg1 || !(vs1.all fun i => vs.contains i)) = false) (h : wI Gm Φ it ρ fun its ρ1 => ∃ (g : Itm → List Itm) (f : Itm → Itm → Option D),
      (∀ x ∈ its, ∃ ρ3, setItm tg x (wipeE ρ1 vs) = some ρ3 ∧ wT Gm Φ c ρ3 fun k ρ4 => (k = true → wI Gm Φ it1 ρ4 fun its1 ρ5 => its1 = g x ∧ back ρ1 ρ5 vs = ρ1 ∧ ∀ y ∈ g x, ∃ ρ6, setItm tg1 y (wipeE ρ5 vs1) = some ρ6 ∧ wT Gm Φ c1 ρ6 fun k1 ρ7 =>
        (k1 = true → wE Gm Φ e ρ7 fun r ρ8 => ∃ z ρ9, freeze r ρ8 = some (z, ρ9) ∧ f x y = some z ∧ back ρ5 ρ9 vs1 = ρ5) ∧ (k1 = false → f x y = none ∧ back ρ5 ρ7 vs1 = ρ5)) ∧ (k = false → g x = [] ∧ back ρ1 ρ4 vs = ρ1)) ∧
      (its.flatMap fun x => (g x).filterMap (f x)).length ≤ line ∧ Q (.o (.lst (its.flatMap fun x => (g x).filterMap (f x)))) ρ1) : wE Gm Φ (.comp2 vs vs1 tg it c tg1 it1 c1 e) ρ Q := by
  obtain ⟨its, ρ1, e1, g, f, h, hz, q⟩ := h
  refine ⟨_, _, ?_, q⟩
  unfold evE
  rw [hv]
  array_mem_dec
  rw [e1]
  array_mem_dec
  have key := comp2_pure (vs := vs) (turn := fun d ρ2 acc => match setItm tg d ρ2 with
        | some ρ3 => bindO (evT Gm Φ c ρ3) fun k ρ4 => match k with
          | true => bindO (evIt Gm Φ it1 ρ4) fun w1 ρ5 => compGo vs1 (fun d1 ρ6 => match setItm tg1 d1 ρ6 with
            | some ρ7 => bindO (evT Gm Φ c1 ρ7) fun k1 ρ8 => match k1 with
              | true => bindO (evE Gm Φ e ρ8) fun r ρ9 => bindO (freeze r ρ9) fun x ρ10 => some (some x, ρ10)
              | false => some (none, ρ8)
            | none => none) w1 acc ρ5
          | false => some (acc, ρ4)
        | none => none) (F := fun x => (g x).filterMap (f x)) (its := its) (acc := []) (ρ := ρ1) fun x hx acc => by
    obtain ⟨ρ3, g0, k, ρ4, e2, h1, h2⟩ := h x hx
    simp only [g0]
    rw [e2]
    cases k with
    | false =>
      obtain ⟨g1, g2⟩ := h2 rfl
      rw [g1]
      exact ⟨ρ4, by rw [List.filterMap_nil, List.append_nil]; rfl, g2⟩
    | true =>
      obtain ⟨its1, ρ5, e3, rfl, hb, h3⟩ := h1 rfl
      refine ⟨ρ5, ?_, hb⟩
      array_mem_dec
      rw [e3]
      array_mem_dec
      refine comp_pure fun y hy => ?_
      obtain ⟨ρ6, g4, hk⟩ := h3 y hy
      have t := w_turn (Gm := Gm) (Φ := Φ) (tg := tg1) (c := c1) (e := e) (X := fun z ρ' => z = f x y ∧ back ρ5 ρ' vs1 = ρ5) g4 (by
        obtain ⟨k, ρ7, e4, h5, h6⟩ := hk
        refine ⟨k, ρ7, e4, fun hk => ?_, fun hk => ?_⟩
        · obtain ⟨r, ρ8, e5, z, ρ9, e6, e7, e8⟩ := h5 hk
          exact ⟨r, ρ8, e5, z, ρ9, e6, e7.symm, e8⟩
        · exact ⟨(h6 hk).1.symm, (h6 hk).2⟩)
      obtain ⟨z, ρ', e5, rfl, e6⟩ := t
      exact ⟨ρ', e5, e6⟩
  rw [List.nil_append] at key
  have k2 := congrArg (fun z : Option (List D × Env) => bindO z fun (acc : List D) ρ7 => if acc.length ≤ line then some (R.o (D.lst acc), ρ7) else (none : Option (R × Env))) key
  refine Eq.trans k2 ?_
  show (if _ then _ else _) = _
  rw [if_pos hz]
theorem isRt {fx : List Nat} {Q : Fl → Env → Prop} {r : R} {ρ : Env} (h : rtR fx Q r ρ) : rtR fx Q r ρ := h
theorem isBr {k : Bool} {A B : Prop} (h : (k = true → A) ∧ (k = false → B)) : (k = true → A) ∧ (k = false → B) := h
theorem isEx {α : Sort _} {p : α → Prop} (h : ∃ x, p x) : ∃ x, p x := h
theorem fin_v {io : List Bool} {post : R → List D → Prop} {d : D} {ρ : Env} (h : ∃ o, outsOf io 0 ρ = some o ∧ post (.v d) o) : Fin io post (.rt (.v d)) ρ := h
theorem fin_o {io : List Bool} {post : R → List D → Prop} {d : D} {ρ : Env} (h : ∃ o, outsOf io 0 ρ = some o ∧ post (.o d) o) : Fin io post (.rt (.o d)) ρ := h
theorem fin_n {io : List Bool} {post : R → List D → Prop} {ρ : Env} (h : ∃ o, outsOf io 0 ρ = some o ∧ post (.v .non) o) : Fin io post .nx ρ := h
theorem rt_b' {fx : List Nat} {Q : Fl → Env → Prop} {ρ : Env} {s : Nat} {d : D} (hf : decide (s ∉ fx) = true) (h : eget ρ s = some (true, d)) (q : Q (.rt (.o d)) (ρ.set s none)) : rtR fx Q (.b s) ρ := rt_b hf h q

theorem br_t {A B : Prop} (h : A) : (true = true → A) ∧ (true = false → B) := ⟨fun _ => h, (fun z => nomatch z)⟩
theorem br_f {A B : Prop} (h : B) : (false = true → A) ∧ (false = false → B) := ⟨(fun z => nomatch z), fun _ => h⟩
theorem b_mulR {i j : Int} (h : (decide (-(2 ^ 64) < j) && decide (j < 2 ^ 64)) = true) : binD .mul (.int i) (.int j) = some (.int (i * j)) := by
  show (if mulOk i j then _ else _) = _
  rw [if_pos]
  unfold mulOk
  rw [h, Bool.or_true, Bool.true_or]
theorem b_mulL {i j : Int} (h : (decide (-(2 ^ 64) < i) && decide (i < 2 ^ 64)) = true) : binD .mul (.int i) (.int j) = some (.int (i * j)) := by
  show (if mulOk i j then _ else _) = _
  rw [if_pos]
  unfold mulOk
  rw [h, Bool.true_or, Bool.true_or]
theorem b_mulB {i j : Int} (h : -(2 ^ 64) < i ∧ i < 2 ^ 64) : binD .mul (.int i) (.int j) = some (.int (i * j)) := b_mulL (by rw [Bool.and_eq_true, decide_eq_true_eq, decide_eq_true_eq]; exact h)
theorem b_mod {i j : Int} (h : 0 < j) : binD .mod (.int i) (.int j) = some (.int (i % j)) := by
  show (if 0 < j then _ else _) = _
  rw [if_pos h]
theorem b_fdiv {i j : Int} (h : 0 < j) (h2 : j < 1073741824) : binD .fdiv (.int i) (.int j) = some (.int (i / j)) := by
  show (if 0 < j ∧ (j < 1073741824 ∨ j.natAbs.log2 < 9000) then _ else _) = _
  rw [if_pos ⟨h, .inl h2⟩]
theorem ixOf_nat {n j : Nat} (h : j < n) : ixOf n (j : Int) = some j := by
  unfold ixOf
  rw [if_pos (by omega), if_pos (by omega)]
  rfl
theorem ixOf_neg {n j : Nat} (h : j < n) : ixOf n (-((j : Int) + 1)) = some (n - 1 - j) := by
  unfold ixOf
  rw [if_neg (by omega), if_pos (by omega)]
  congr 1
  omega
theorem idx_l {l : List D} {j : Nat} {d : D} (h : l[j]? = some d) : idxD (.lst l) (.int j) = some d := by
  have hj := (List.getElem?_eq_some_iff.mp h).1
  show ((ixOf l.length (j : Int)).bind fun k => l[k]?) = _
  rw [ixOf_nat hj]
  exact h
theorem idx_t {l : List D} {j : Nat} {d : D} (h : l[j]? = some d) : idxD (.tup l) (.int j) = some d := by
  have hj := (List.getElem?_eq_some_iff.mp h).1
  show ((ixOf l.length (j : Int)).bind fun k => l[k]?) = _
  rw [ixOf_nat hj]
  exact h
theorem ne_int {i j : Int} : cmpD .ne (.int i) (.int j) = some (!decide (i = j)) := by
  simp only [cmpD, eqD_int, Option.map_some]
theorem perm_erase {α : Type} : ∀ {l : List α} {j : Nat} (h : j < l.length), (l[j] :: l.eraseIdx j).Perm l
  | x :: r, 0, _ => .refl _
  | x :: r, j + 1, h => by
    show (r[j]'(by simpa using h) :: x :: r.eraseIdx j).Perm (x :: r)
    exact (List.Perm.swap _ _ _).trans ((perm_erase (l := r) (by simpa using h)).cons x)
theorem fm_all {α β γ : Type} {g : α → β} {f : β → Option γ} {h : α → γ} : ∀ {l : List α}, (∀ x ∈ l, f (g x) = some (h x)) → (l.map g).filterMap f = l.map h
  | [], _ => rfl
  | x :: r, e => by
    rw [List.map_cons, List.map_cons, List.filterMap_cons_some (e x List.mem_cons_self), fm_all fun y hy => e y (List.mem_cons_of_mem _ hy)]
theorem eraseIdx_map' {α β : Type} (f : α → β) : ∀ (l : List α) (j : Nat), (l.map f).eraseIdx j = (l.eraseIdx j).map f
  | [], _ => rfl
  | x :: r, 0 => rfl
  | x :: r, j + 1 => by
    show f x :: (r.map f).eraseIdx j = f x :: (r.eraseIdx j).map f
    rw [eraseIdx_map' f r j]
theorem range_ok {j : Nat} (h : j ≤ 100000) : rangeD 0 (j : Int) = some ((List.range j).map fun (i : Nat) => .int (i : Int)) := by
  have hl : ((line : Nat) : Int) = 16777216 := rfl
  unfold rangeD
  rw [hl, if_pos (by omega)]
  congr 1
  have : ((j : Int) - 0).toNat = j := by omega
  rw [this]
  exact congrArg (fun f => List.map f _) (funext fun i => by rw [Int.zero_add])
theorem range2_ok {i j : Nat} (h : i ≤ 100000) (h2 : j ≤ 100000) : rangeD (i : Int) (j : Int) = some ((List.range (j - i)).map fun (k : Nat) => .int ((i + k : Nat) : Int)) := by
  have hl : ((line : Nat) : Int) = 16777216 := rfl
  unfold rangeD
  rw [hl, if_pos (by omega)]
  congr 1
  have : ((j : Int) - i).toNat = j - i := by omega
  rw [this]
  exact congrArg (fun f => List.map f _) (funext fun k => by rw [Int.natCast_add])
theorem b_catT {a b : List D} (h : a.length + b.length ≤ line) : binD .add (.tup a) (.tup b) = some (.tup (a ++ b)) := by
  show (if a.length + b.length ≤ line then _ else _) = _
  rw [if_pos h]
theorem b_catL {a b : List D} (h : a.length + b.length ≤ line) : binD .add (.lst a) (.lst b) = some (.lst (a ++ b)) := by
  show (if a.length + b.length ≤ line then _ else _) = _
  rw [if_pos h]
theorem idx_neg1 {l : List D} {d : D} (h : l[l.length - 1]? = some d) : idxD (.lst l) (.int (-1)) = some d := by
  have hj := (List.getElem?_eq_some_iff.mp h).1
  show ((ixOf l.length (-1 : Int)).bind fun k => l[k]?) = _
  have : ixOf l.length (-1 : Int) = some (l.length - 1 - 0) := ixOf_neg (j := 0) (by omega)
  rw [this]
  exact h
theorem cut_from {l : List D} {k : Nat} : cut l (some (k : Int)) none = l.drop k := by
  unfold cut
  rw [HT.sIx_nat, HT.sIx_none]
  by_cases h : k ≤ l.length
  · rw [Nat.min_eq_left h, List.take_of_length_le (by rw [List.length_drop]; exact Nat.le_refl _)]
  · rw [Nat.min_eq_right (by omega), List.drop_of_length_le (Nat.le_refl _), List.drop_of_length_le (by omega), List.take_nil]
theorem cut_to {l : List D} {k : Nat} : cut l none (some (k : Int)) = l.take k := by
  unfold cut
  rw [HT.sIx_nat, HT.sIx_none, List.drop_zero, Nat.sub_zero]
  by_cases h : k ≤ l.length
  · rw [Nat.min_eq_left h]
  · rw [Nat.min_eq_right (by omega), List.take_of_length_le (Nat.le_refl _), List.take_of_length_le (by omega)]
theorem m_app {l : List D} {x : D} (h : l.length < line) : mutD .append l [x] = some (l ++ [x], .non) := by
  show (if l.length < line then _ else _) = _
  rw [if_pos h]
theorem m_pop {l : List D} {j : Nat} {y : D} (h : l[j]? = some y) : mutD .pop l [.int j] = some (l.eraseIdx j, y) := by
  show ((ixOf l.length (j : Int)).bind fun j => (l[j]?).map fun y => (l.eraseIdx j, y)) = _
  rw [ixOf_nat (List.getElem?_eq_some_iff.mp h).1]
  show (l[j]?).map _ = _
  rw [h]
  rfl

end Mi
open Mi
local macro_rules | `(tactic| array_get_dec) => `(tactic| repeat (first | (first | with_reducible apply w_bcons | with_reducible apply sq_nx | with_reducible apply sq_rt | with_reducible apply w_bnil | with_reducible apply w_acons | with_reducible apply w_anil | ((with_reducible apply w_fro); rfl) | ((with_reducible apply w_own); rfl) | with_reducible apply w_cint | with_reducible apply w_cbl | with_reducible apply w_cnon | with_reducible apply w_cstr | with_reducible apply w_cty | with_reducible apply w_tup | with_reducible apply w_lst | with_reducible apply w_bin | with_reducible apply w_cmp | with_reducible apply w_idx | with_reducible apply w_neg | with_reducible apply w_rev | with_reducible apply w_attr | with_reducible apply w_notv | with_reducible apply w_andv | with_reducible apply w_orv | with_reducible apply w_chain | with_reducible apply w_ite | with_reducible apply w_sl | with_reducible apply w_callb | with_reducible apply w_call | with_reducible apply w_make | with_reducible apply w_meth | with_reducible apply w_dic0 | with_reducible apply w_dic1 | with_reducible apply w_yes | with_reducible apply w_val | with_reducible apply w_and | with_reducible apply w_or | with_reducible apply w_not | with_reducible apply w_onone | with_reducible apply w_osome | with_reducible apply w_lrange1 | with_reducible apply w_lrange2 | with_reducible apply w_seq | with_reducible apply w_range1 | with_reducible apply w_range2 | with_reducible apply w_zip | with_reducible apply w_enum | with_reducible apply w_par | with_reducible apply w_setat | with_reducible apply w_expr | with_reducible apply w_ret | with_reducible apply w_retn | with_reducible apply w_pass | with_reducible apply w_brk | with_reducible apply w_cnt | with_reducible apply w_site | ((with_reducible refine isRt ?_); first | refine rt_v ?_ | refine rt_o ?_ | refine rt_b rfl rfl ?_) | with_reducible apply fin_v | with_reducible apply fin_o | with_reducible apply fin_n | ((with_reducible apply w_glob); rfl) | ((with_reducible apply w_mut); rfl) | ((with_reducible apply w_asg); rfl) | ((with_reducible apply w_sown'); rfl) | ((with_reducible apply w_setix); rfl) | ((with_reducible apply w_setixD); rfl) | ((with_reducible apply w_augixA); rfl) | ((with_reducible apply w_augixS); rfl)) | (first | ((with_reducible refine isEx ?_); first | refine ⟨_, rfl, ?_⟩ | refine ⟨_, _, _, rfl, rfl, eqD_int, ?_⟩ | refine ⟨_, _, _, rfl, rfl, ne_int, ?_⟩ | refine ⟨_, _, _, rfl, rfl, b_mulR rfl, ?_⟩ | refine ⟨_, _, _, rfl, rfl, b_mulL rfl, ?_⟩ | refine ⟨_, _, _, rfl, rfl, rfl, ?_⟩ | refine ⟨_, _, rfl, rfl, ?_⟩ | refine ⟨_, _, _, rfl, rfl, ?_⟩ | refine ⟨_, _, _, _, _, rfl, rfl, rfl, rfl, ?_⟩ | refine ⟨_, _, ⟨rfl, Nat.le_of_ble_eq_true rfl⟩, rfl, ?_⟩ | refine ⟨_, _, rfl, Nat.le_of_ble_eq_true rfl, ?_⟩ | refine ⟨_, rfl, Nat.le_of_ble_eq_true rfl, ?_⟩) | ((with_reducible refine isBr ?_); first | refine br_t ?_ | refine br_f ?_))))
namespace Mi
open PySem

end Mi

/-! BalF -/
set_option Elab.async false
set_option linter.all false
set_option maxRecDepth 100000
set_option maxHeartbeats 4000000
namespace Bal
open PySem Mi
/-- 0: slots script=0 cells=1 cell=2, owned [] -/
abbrev F__law_hand : Fn := ⟨1, 3, [false], (.cons (.asg (.var 1) (.comp [2] (.var 2) (.seq (.sl (.var 0) .none (.some (.cint 63)))) .yes (.callb .abs (.cons (.callb .int (.cons (.var 2) .nil)) .nil)))) (.cons (.ret (.lst (.cons (.var 1) (.cons (.cint 0) (.cons (.cint 0) (.cons (.bin .add (.cint 173) (.callb .len (.cons (.var 1) .nil))) (.cons (.cint 0) .nil))))))) .nil))⟩
/-- 1: slots hand=0 limit=1 cell=2 digit=3 number=4, owned ['hand'] -/
abbrev F__law_draw : Fn := ⟨2, 5, [true, false], (.cons (.ite (.and (.val (.cmp .eq (.idx (.var 0) (.cint 2)) (.cint 0))) (.val (.cmp .lt (.idx (.var 0) (.cint 1)) (.callb .len (.cons (.idx (.var 0) (.cint 0)) .nil))))) (.cons (.asg (.var 2) (.idx (.idx (.var 0) (.cint 0)) (.idx (.var 0) (.cint 1)))) (.cons (.setix 0 (.cint 1) (.bin .add (.idx (.var 0) (.cint 1)) (.cint 1))) (.cons (.setix 0 (.cint 3) (.bin .mod (.callb .int (.cons (.bin .add (.bin .add (.bin .mul (.idx (.var 0) (.cint 3)) (.cint 69621)) (.var 2)) (.cint 257)) .nil)) (.cint 2147483629))) (.cons (.ite (.val (.cmp .ge (.var 2) (.bin .pow (.cint 10) (.cint 18)))) (.cons (.setix 0 (.cint 2) (.var 2)) .nil) .nil) .nil)))) .nil) (.cons (.ite (.val (.cmp .gt (.idx (.var 0) (.cint 2)) (.cint 0))) (.cons (.asg (.var 3) (.bin .mod (.callb .int (.cons (.idx (.var 0) (.cint 2)) .nil)) (.var 1))) (.cons (.setix 0 (.cint 2) (.bin .fdiv (.idx (.var 0) (.cint 2)) (.var 1))) (.cons (.ret (.var 3)) .nil))) .nil) (.cons (.setix 0 (.cint 4) (.bin .add (.idx (.var 0) (.cint 4)) (.cint 1))) (.cons (.asg (.var 4) (.bin .mod (.callb .int (.cons (.bin .mul (.callb .int (.cons (.bin .add (.idx (.var 0) (.cint 3)) (.bin .mul (.cint 7919) (.idx (.var 0) (.cint 4)))) .nil)) (.cint 48271)) .nil)) (.cint 2147483647))) (.cons (.asg (.var 4) (.bin .mod (.callb .int (.cons (.bin .mul (.var 4) (.bin .add (.bin .fdiv (.var 4) (.cint 1009)) (.cint 69621))) .nil)) (.cint 2147483647))) (.cons (.asg (.var 4) (.bin .mod (.callb .int (.cons (.bin .mul (.var 4) (.bin .add (.bin .fdiv (.var 4) (.cint 2003)) (.cint 40692))) .nil)) (.cint 2147483399))) (.cons (.ret (.bin .mod (.callb .int (.cons (.bin .fdiv (.var 4) (.cint 16)) .nil)) (.var 1))) .nil)))))))⟩
/-- 2: slots hand=0 items=1, owned ['hand'] -/
abbrev F__law_some : Fn := ⟨2, 2, [true, false], (.cons (.ret (.idx (.var 1) (.call 1 (.cons (.var 0) (.cons (.callb .len (.cons (.var 1) .nil)) .nil))))) .nil)⟩
/-- 3: slots hand=0 things=1 remain=2 found=3, owned ['found', 'hand', 'remain'] -/
abbrev F__law_mixed : Fn := ⟨2, 4, [true, false], (.cons (.par true [(2, true), (3, true)] (.cons (.callb .list (.cons (.var 1) .nil)) (.cons (.lst .nil) .nil))) (.cons (.whil (.val (.cmp .gt (.callb .len (.cons (.var 2) .nil)) (.cint 0))) (.cons (.expr (.mut .append 3 (.cons (.mut .pop 2 (.cons (.call 1 (.cons (.var 0) (.cons (.callb .len (.cons (.var 2) .nil)) .nil))) .nil)) .nil))) .nil)) (.cons (.ret (.var 3)) .nil)))⟩
/-- 4: slots thing=0 due=1 one=2 other=3, owned [] -/
abbrev F__law_is : Fn := ⟨2, 4, [false, false], (.cons (.ite (.or (.val (.callb .isi (.cons (.var 1) (.cons (.cty "tuple") .nil)))) (.val (.callb .isi (.cons (.var 1) (.cons (.cty "list") .nil))))) (.cons (.ite (.or (.val (.cmp .ne (.callb .isi (.cons (.var 1) (.cons (.cty "tuple") .nil))) (.callb .isi (.cons (.var 0) (.cons (.cty "tuple") .nil))))) (.val (.cmp .ne (.callb .isi (.cons (.var 1) (.cons (.cty "list") .nil))) (.callb .isi (.cons (.var 0) (.cons (.cty "list") .nil)))))) (.cons (.ret (.cbl false)) .nil) .nil) (.cons (.ret (.andv (.cmp .eq (.callb .len (.cons (.var 0) .nil)) (.callb .len (.cons (.var 1) .nil))) (.callb .all (.cons (.comp [2, 3] (.cons (.var 2) (.cons (.var 3) .nil)) (.zip (.var 0) (.var 1)) .yes (.call 4 (.cons (.var 2) (.cons (.var 3) .nil)))) .nil)))) .nil)) .nil) (.cons (.ite (.or (.val (.cmp .iss (.var 1) .cnon)) (.val (.cmp .iss (.var 0) .cnon))) (.cons (.ret (.andv (.cmp .iss (.var 1) .cnon) (.cmp .iss (.var 0) .cnon))) .nil) .nil) (.cons (.ite (.or (.val (.callb .isi (.cons (.var 1) (.cons (.cty "bool") .nil)))) (.val (.callb .isi (.cons (.var 0) (.cons (.cty "bool") .nil))))) (.cons (.ret (.andv (.callb .isi (.cons (.var 1) (.cons (.cty "bool") .nil))) (.andv (.callb .isi (.cons (.var 0) (.cons (.cty "bool") .nil))) (.cmp .eq (.var 0) (.var 1))))) .nil) .nil) (.cons (.ite (.or (.val (.callb .isi (.cons (.var 1) (.cons (.cty "str") .nil)))) (.val (.callb .isi (.cons (.var 0) (.cons (.cty "str") .nil))))) (.cons (.ret (.andv (.callb .isi (.cons (.var 1) (.cons (.cty "str") .nil))) (.andv (.callb .isi (.cons (.var 0) (.cons (.cty "str") .nil))) (.cmp .eq (.var 0) (.var 1))))) .nil) .nil) (.cons (.ret (.andv (.callb .isi (.cons (.var 0) (.cons (.cty "int") .nil))) (.cmp .eq (.var 0) (.var 1)))) .nil)))))⟩
/-- 5: slots thing=0, owned [] -/
abbrev F_is_integer : Fn := ⟨1, 1, [false], (.cons (.ret (.andv (.callb .isi (.cons (.var 0) (.cons (.cty "int") .nil))) (.notv (.callb .isi (.cons (.var 0) (.cons (.cty "bool") .nil)))))) .nil)⟩
/-- 6: slots thing=0 least=1 most=2, owned [] -/
abbrev F_is_within : Fn := ⟨3, 3, [false, false, false], (.cons (.ret (.andv (.call 5 (.cons (.var 0) .nil)) (.chain .le .le (.var 1) (.var 0) (.var 2)))) .nil)⟩
/-- 7: slots thing=0 least=1 most=2, owned [] -/
abbrev F_is_sized : Fn := ⟨3, 3, [false, false, false], (.cons (.ret (.andv (.callb .isi (.cons (.var 0) (.cons (.cty "tuple") .nil))) (.chain .le .le (.var 1) (.callb .len (.cons (.var 0) .nil)) (.var 2)))) .nil)⟩
/-- 8: slots thing=0 size=1, owned [] -/
abbrev F_is_tuple : Fn := ⟨2, 2, [false, false], (.cons (.ret (.andv (.callb .isi (.cons (.var 0) (.cons (.cty "tuple") .nil))) (.cmp .eq (.callb .len (.cons (.var 0) .nil)) (.var 1)))) .nil)⟩
/-- 9: slots thing=0 many=1 one=2, owned [] -/
abbrev F_is_order : Fn := ⟨2, 3, [false, false], (.cons (.ite (.or (.not (.val (.call 8 (.cons (.var 0) (.cons (.var 1) .nil))))) (.not (.val (.callb .all (.cons (.comp [2] (.var 2) (.seq (.var 0)) .yes (.call 6 (.cons (.var 2) (.cons (.cint 0) (.cons (.bin .sub (.var 1) (.cint 1)) .nil))))) .nil))))) (.cons (.ret (.cbl false)) .nil) .nil) (.cons (.ret (.cmp .eq (.callb .lenset (.cons (.var 0) .nil)) (.var 1))) .nil))⟩
/-- 10: slots self=0 many=1 rows=2 row=3, owned ['self'] -/
abbrev F_Ballots : Fn := ⟨3, 4, [true, false, false], (.cons (.ite (.or (.not (.val (.call 6 (.cons (.var 1) (.cons (.cint 1) (.cons (.glob 0) .nil)))))) (.not (.val (.call 7 (.cons (.var 2) (.cons (.cint 1) (.cons (.glob 1) .nil))))))) (.cons .never .nil) .nil) (.cons (.ite (.not (.val (.callb .all (.cons (.comp [3] (.var 3) (.seq (.var 2)) .yes (.andv (.call 8 (.cons (.var 3) (.cons (.cint 2) .nil))) (.andv (.call 6 (.cons (.idx (.var 3) (.cint 0)) (.cons (.cint 1) (.cons (.glob 2) .nil)))) (.call 9 (.cons (.idx (.var 3) (.cint 1)) (.cons (.var 1) .nil)))))) .nil)))) (.cons .never .nil) .nil) (.cons (.setat 0 "many" (.var 1)) (.cons (.setat 0 "rows" (.var 2)) .nil))))⟩
/-- 11: slots hand=0 most=1 many=2 kind=3 rows=4 turn=5 order=6, owned ['hand', 'rows'] -/
abbrev F__law_ballots : Fn := ⟨2, 7, [true, false], (.cons (.asg (.var 2) (.bin .add (.cint 1) (.call 1 (.cons (.var 0) (.cons (.var 1) .nil))))) (.cons (.par true [(3, false), (4, true)] (.cons (.call 1 (.cons (.var 0) (.cons (.cint 4) .nil))) (.cons (.lst .nil) .nil))) (.cons (.for_ (.var 5) (.range1 (.bin .add (.cint 1) (.call 1 (.cons (.var 0) (.cons (.cint 6) .nil))))) (.cons (.asg (.var 6) (.callb .tuple (.cons (.call 3 (.cons (.var 0) (.cons (.lrange (.cons (.var 2) .nil)) .nil))) .nil))) (.cons (.ite (.and (.val (.cmp .eq (.var 3) (.cint 0))) (.val (.cmp .gt (.callb .len (.cons (.var 4) .nil)) (.cint 0)))) (.cons (.asg (.var 6) (.ite (.val (.cmp .eq (.call 1 (.cons (.var 0) (.cons (.cint 2) .nil))) (.cint 0))) (.bin .add (.sl (.idx (.idx (.var 4) (.cint 0)) (.cint 1)) (.some (.cint 1)) .none) (.sl (.idx (.idx (.var 4) (.cint 0)) (.cint 1)) .none (.some (.cint 1)))) (.rev (.idx (.idx (.var 4) (.neg (.cint 1))) (.cint 1))))) .nil) .nil) (.cons (.expr (.mut .append 4 (.cons (.tup (.cons (.bin .add (.cint 1) (.call 1 (.cons (.var 0) (.cons (.call 2 (.cons (.var 0) (.cons (.lst (.cons (.cint 1) (.cons (.cint 4) (.cons (.cint 99) .nil)))) .nil))) .nil)))) (.cons (.var 6) .nil))) .nil))) .nil)))) (.cons (.ret (.tup (.cons (.var 2) (.cons (.callb .tuple (.cons (.var 4) .nil)) .nil)))) .nil))))⟩
/-- 12: slots rows=0 one=1 other=2 times=3 order=4, owned [] -/
abbrev F_for_one : Fn := ⟨3, 5, [false, false, false], (.cons (.ret (.callb .sum (.cons (.comp [3, 4] (.cons (.var 3) (.cons (.var 4) .nil)) (.seq (.var 0)) (.val (.cmp .lt (.meth .index (.var 4) (.var 1)) (.meth .index (.var 4) (.var 2)))) (.var 3)) .nil))) .nil)⟩
/-- 13: slots rows=0 many=1 found=2 one=3 other=4, owned ['found'] -/
abbrev F_margin_rows : Fn := ⟨2, 5, [false, false], (.cons (.own 2 (.lst .nil)) (.cons (.for_ (.var 3) (.range1 (.var 1)) (.cons (.expr (.mut .append 2 (.cons (.callb .tuple (.cons (.comp [4] (.var 4) (.range1 (.var 1)) .yes (.bin .sub (.call 12 (.cons (.var 0) (.cons (.var 3) (.cons (.var 4) .nil)))) (.call 12 (.cons (.var 0) (.cons (.var 4) (.cons (.var 3) .nil)))))) .nil)) .nil))) .nil)) (.cons (.ret (.callb .tuple (.cons (.var 2) .nil))) .nil)))⟩
/-- 14: slots rows=0 many=1 table=2 found=3 one=4 other=5, owned [] -/
abbrev F_beater_of : Fn := ⟨2, 6, [false, false], (.cons (.asg (.var 2) (.call 13 (.cons (.var 0) (.cons (.var 1) .nil)))) (.cons (.asg (.var 3) (.comp [4] (.var 4) (.range1 (.var 1)) (.val (.callb .all (.cons (.comp [5] (.var 5) (.range1 (.var 1)) (.val (.cmp .ne (.var 5) (.var 4))) (.cmp .gt (.idx (.idx (.var 2) (.var 4)) (.var 5)) (.cint 0))) .nil))) (.var 4))) (.cons (.ret (.ite (.val (.cmp .gt (.callb .len (.cons (.var 3) .nil)) (.cint 0))) (.idx (.var 3) (.cint 0)) .cnon)) .nil)))⟩
/-- 15: slots ballots=0, owned [] -/
abbrev F_beater : Fn := ⟨1, 1, [false], (.cons (.ret (.call 14 (.cons (.attr (.var 0) "rows") (.cons (.attr (.var 0) "many") .nil)))) .nil)⟩
/-- 22: slots table=0 start=1 found=2 waiting=3 one=4 other=5, owned ['found', 'waiting'] -/
abbrev F_closed_from : Fn := ⟨2, 6, [false, false], (.cons (.par true [(2, true), (3, true)] (.cons (.dic1 (.var 1) (.cbl true)) (.cons (.lst (.cons (.var 1) .nil)) .nil))) (.cons (.whil (.val (.cmp .gt (.callb .len (.cons (.var 3) .nil)) (.cint 0))) (.cons (.asg (.var 4) (.mut .pop0 3 .nil)) (.cons (.for_ (.var 5) (.range1 (.callb .len (.cons (.var 0) .nil))) (.cons (.ite (.and (.val (.cmp .nin (.var 5) (.var 2))) (.val (.cmp .le (.idx (.idx (.var 0) (.var 4)) (.var 5)) (.cint 0)))) (.cons (.setix 2 (.var 5) (.cbl true)) (.cons (.expr (.mut .append 3 (.cons (.var 5) .nil))) .nil)) .nil) .nil)) .nil))) (.cons (.ret (.callb .tuple (.cons (.callb .sorted (.cons (.var 2) .nil)) .nil))) .nil)))⟩
/-- 23: slots ballots=0, owned [] -/
abbrev F_margins : Fn := ⟨1, 1, [false], (.cons (.ret (.call 13 (.cons (.attr (.var 0) "rows") (.cons (.attr (.var 0) "many") .nil)))) .nil)⟩
/-- 24: slots ballots=0 table=1 lots=2 start=3 lot=4 other=5, owned [] -/
abbrev F_smith : Fn := ⟨1, 6, [false], (.cons (.asg (.var 1) (.call 23 (.cons (.var 0) .nil))) (.cons (.asg (.var 2) (.comp [3] (.var 3) (.range1 (.attr (.var 0) "many")) .yes (.call 22 (.cons (.var 1) (.cons (.var 3) .nil))))) (.cons (.ret (.idx (.comp [4] (.var 4) (.seq (.var 2)) (.val (.cmp .eq (.callb .len (.cons (.var 4) .nil)) (.callb .min (.cons (.comp [5] (.var 5) (.seq (.var 2)) .yes (.callb .len (.cons (.var 5) .nil))) .nil)))) (.var 4)) (.cint 0))) .nil)))⟩
/-- 26: slots ballots=0 order=1 found=2 at=3 one=4 other=5, owned [] -/
abbrev F_against : Fn := ⟨2, 6, [false, false], (.cons (.asg (.var 2) (.cint 0)) (.cons (.for_ (.cons (.var 3) (.cons (.var 4) .nil)) (.enum (.var 1)) (.cons (.aug 2 .add (.callb .sum (.cons (.comp [5] (.var 5) (.seq (.sl (.var 1) (.some (.bin .add (.var 3) (.cint 1))) .none)) .yes (.call 12 (.cons (.attr (.var 0) "rows") (.cons (.var 5) (.cons (.var 4) .nil))))) .nil))) .nil)) (.cons (.ret (.var 2)) .nil)))⟩
/-- 27: slots ballots=0 order=1, owned [] -/
abbrev F_nearest : Fn := ⟨1, 2, [false], (.cons (.ret (.callb .min (.cons (.comp [1] (.var 1) (.seq (.call 32 (.cons (.lrange (.cons (.attr (.var 0) "many") .nil)) .nil))) .yes (.tup (.cons (.call 26 (.cons (.var 0) (.cons (.var 1) .nil))) (.cons (.var 1) .nil)))) .nil))) .nil)⟩
/-- 28: slots ballots=0 thing=1, owned [] -/
abbrev F_is_nearest : Fn := ⟨2, 2, [false, false], (.cons (.ite (.or (.not (.val (.call 8 (.cons (.var 1) (.cons (.cint 2) .nil))))) (.not (.val (.call 43 (.cons (.idx (.var 1) (.cint 0)) .nil))))) (.cons (.ret (.cbl false)) .nil) .nil) (.cons (.ret (.andv (.call 9 (.cons (.idx (.var 1) (.cint 1)) (.cons (.attr (.var 0) "many") .nil))) (.cmp .eq (.var 1) (.call 27 (.cons (.var 0) .nil))))) .nil))⟩
/-- 32: slots things=0 found=1 turn=2 order=3 one=4, owned [] -/
abbrev F_orders_of : Fn := ⟨1, 5, [false], (.cons (.asg (.var 1) (.lst (.cons (.tup .nil) .nil))) (.cons (.for_ (.var 2) (.seq (.var 0)) (.cons (.asg (.var 1) (.comp2 [3, 4] [4] (.var 3) (.seq (.var 1)) .yes (.var 4) (.seq (.var 0)) (.val (.cmp .nin (.var 4) (.var 3))) (.bin .add (.var 3) (.tup (.cons (.var 4) .nil))))) .nil)) (.cons (.ret (.var 1)) .nil)))⟩
/-- 33: slots many=0 found=1 turn=2 longer=3 order=4 one=5, owned ['longer'] -/
abbrev F__law_orders : Fn := ⟨1, 6, [false], (.cons (.asg (.var 1) (.lst (.cons (.tup .nil) .nil))) (.cons (.for_ (.var 2) (.range1 (.var 0)) (.cons (.own 3 (.lst .nil)) (.cons (.for_ (.var 4) (.seq (.var 1)) (.cons (.expr (.mut .extend 3 (.cons (.comp [5] (.var 5) (.range1 (.var 0)) (.val (.cmp .nin (.var 5) (.var 4))) (.bin .add (.var 4) (.tup (.cons (.var 5) .nil)))) .nil))) .nil)) (.cons (.asg (.var 1) (.var 3)) .nil)))) (.cons (.ret (.var 1)) .nil)))⟩
/-- 34: slots rows=0 one=1 other=2 many=3 order=4, owned [] -/
abbrev F__law_over : Fn := ⟨3, 5, [false, false, false], (.cons (.ret (.callb .sum (.cons (.comp [3, 4] (.cons (.var 3) (.cons (.var 4) .nil)) (.seq (.var 0)) (.val (.cmp .lt (.meth .index (.var 4) (.var 1)) (.meth .index (.var 4) (.var 2)))) (.var 3)) .nil))) .nil)⟩
/-- 35: slots many=0 rows=1 found=2 one=3 other=4, owned ['found'] -/
abbrev F__law_margins : Fn := ⟨2, 5, [false, false], (.cons (.own 2 (.lst .nil)) (.cons (.for_ (.var 3) (.range1 (.var 0)) (.cons (.expr (.mut .append 2 (.cons (.callb .tuple (.cons (.comp [4] (.var 4) (.range1 (.var 0)) .yes (.bin .sub (.call 34 (.cons (.var 1) (.cons (.var 3) (.cons (.var 4) .nil)))) (.call 34 (.cons (.var 1) (.cons (.var 4) (.cons (.var 3) .nil)))))) .nil)) .nil))) .nil)) (.cons (.ret (.callb .tuple (.cons (.var 2) .nil))) .nil)))⟩
/-- 36: slots many=0 rows=1 table=2 good=3 one=4 other=5, owned [] -/
abbrev F__law_beater : Fn := ⟨2, 6, [false, false], (.cons (.asg (.var 2) (.call 35 (.cons (.var 0) (.cons (.var 1) .nil)))) (.cons (.asg (.var 3) (.comp [4] (.var 4) (.range1 (.var 0)) (.val (.callb .all (.cons (.comp [5] (.var 5) (.range1 (.var 0)) (.val (.cmp .ne (.var 5) (.var 4))) (.cmp .gt (.idx (.idx (.var 2) (.var 4)) (.var 5)) (.cint 0))) .nil))) (.var 4))) (.cons (.ret (.ite (.val (.cmp .gt (.callb .len (.cons (.var 3) .nil)) (.cint 0))) (.idx (.var 3) (.cint 0)) .cnon)) .nil)))⟩
/-- 37: slots many=0 found=1 one=2 lot=3, owned [] -/
abbrev F__law_lots : Fn := ⟨1, 4, [false], (.cons (.asg (.var 1) (.lst (.cons (.tup .nil) .nil))) (.cons (.for_ (.var 2) (.range1 (.var 0)) (.cons (.asg (.var 1) (.bin .add (.var 1) (.comp [3] (.var 3) (.seq (.var 1)) .yes (.bin .add (.var 3) (.tup (.cons (.var 2) .nil)))))) .nil)) (.cons (.ret (.var 1)) .nil)))⟩
/-- 38: slots hand=0 many=1 rows=2 names=3 times=4 order=5 one=6, owned ['hand'] -/
abbrev F__law_called : Fn := ⟨3, 7, [true, false, false], (.cons (.asg (.var 3) (.call 3 (.cons (.var 0) (.cons (.lrange (.cons (.var 1) .nil)) .nil)))) (.cons (.ret (.tup (.cons (.var 3) (.cons (.callb .tuple (.cons (.comp [4, 5] (.cons (.var 4) (.cons (.var 5) .nil)) (.seq (.var 2)) .yes (.tup (.cons (.var 4) (.cons (.callb .tuple (.cons (.comp [6] (.var 6) (.seq (.var 5)) .yes (.idx (.var 3) (.var 6))) .nil)) .nil)))) .nil)) .nil)))) .nil))⟩
/-- 39: slots turns=0 thing=1 turn=2, owned [] -/
abbrev F__law_deep : Fn := ⟨1, 3, [false], (.cons (.asg (.var 1) (.cstr "-")) (.cons (.for_ (.var 2) (.range1 (.var 0)) (.cons (.asg (.var 1) (.ite (.val (.cmp .lt (.var 2) (.cint 5))) (.tup (.cons (.var 1) .nil)) (.lst (.cons (.var 1) .nil)))) .nil)) (.cons (.ret (.var 1)) .nil)))⟩
/-- 40: slots axis=0 order=1 places=2 top=3 left=4 right=5 one=6 at=7, owned [] -/
abbrev F_falls_along : Fn := ⟨2, 8, [false, false], (.cons (.asg (.var 2) (.comp [6] (.var 6) (.seq (.var 0)) .yes (.meth .index (.var 1) (.var 6)))) (.cons (.asg (.var 3) (.meth .index (.var 2) (.cint 0))) (.cons (.par false [(4, false), (5, false)] (.cons (.sl (.var 2) .none (.some (.bin .add (.var 3) (.cint 1)))) (.cons (.sl (.var 2) (.some (.var 3)) .none) .nil))) (.cons (.ite (.not (.val (.callb .all (.cons (.comp [7] (.var 7) (.range2 (.cint 1) (.callb .len (.cons (.var 4) .nil))) .yes (.cmp .gt (.idx (.var 4) (.bin .sub (.var 7) (.cint 1))) (.idx (.var 4) (.var 7)))) .nil)))) (.cons (.ret (.cbl false)) .nil) .nil) (.cons (.ret (.callb .all (.cons (.comp [7] (.var 7) (.range2 (.cint 1) (.callb .len (.cons (.var 5) .nil))) .yes (.cmp .lt (.idx (.var 5) (.bin .sub (.var 7) (.cint 1))) (.idx (.var 5) (.var 7)))) .nil))) .nil)))))⟩
/-- 41: slots ballots=0 order=1 times=2 its=3, owned [] -/
abbrev F_axis : Fn := ⟨1, 4, [false], (.cons (.for_ (.var 1) (.seq (.call 32 (.cons (.lrange (.cons (.attr (.var 0) "many") .nil)) .nil))) (.cons (.ite (.val (.callb .all (.cons (.comp [2, 3] (.cons (.var 2) (.cons (.var 3) .nil)) (.seq (.attr (.var 0) "rows")) .yes (.call 40 (.cons (.var 1) (.cons (.var 3) .nil)))) .nil))) (.cons (.ret (.var 1)) .nil) .nil) .nil)) (.cons (.ret .cnon) .nil))⟩
/-- 42: slots ballots=0 thing=1 times=2 its=3, owned [] -/
abbrev F_is_axis : Fn := ⟨2, 4, [false, false], (.cons (.ite (.not (.val (.call 9 (.cons (.var 1) (.cons (.attr (.var 0) "many") .nil))))) (.cons (.ret (.cbl false)) .nil) .nil) (.cons (.ret (.callb .all (.cons (.comp [2, 3] (.cons (.var 2) (.cons (.var 3) .nil)) (.seq (.attr (.var 0) "rows")) .yes (.call 40 (.cons (.var 1) (.cons (.var 3) .nil)))) .nil))) .nil))⟩
/-- 43: slots thing=0, owned [] -/
abbrev F_is_number : Fn := ⟨1, 1, [false], (.cons (.ret (.andv (.call 5 (.cons (.var 0) .nil)) (.cmp .ge (.var 0) (.cint 0)))) .nil)⟩
/-- the def stands in the table -/
def Has (Gm : Cfg) (tab : Nat → Option Fn) (i : Nat) (F : Fn) : Prop := tab i = some F ∧ Gm.io i = some F.io
/-- what all laws of ballots have -/
structure BalS (Gm : Cfg) (tab : Nat → Option Fn) : Prop where
  hand : Has Gm tab 0 F__law_hand
  draw : Has Gm tab 1 F__law_draw
  pick : Has Gm tab 2 F__law_some
  mixed : Has Gm tab 3 F__law_mixed
  is : Has Gm tab 4 F__law_is
  isint : Has Gm tab 5 F_is_integer
  within : Has Gm tab 6 F_is_within
  sized : Has Gm tab 7 F_is_sized
  tuple : Has Gm tab 8 F_is_tuple
  order : Has Gm tab 9 F_is_order
  book : Has Gm tab 10 F_Ballots
  lballots : Has Gm tab 11 F__law_ballots
  flds : Gm.fields 10 = some (["many", "rows"] : List Str)
  g0 : Gm.glob 0 = some (.int 5)
  g1 : Gm.glob 1 = some (.int 12)
  g2 : Gm.glob 2 = some (.int 99)
  loop : Gm.loop = loopC
end Bal

/-! BalA -/
set_option Elab.async false
set_option linter.all false
set_option maxRecDepth 100000
set_option maxHeartbeats 4000000
namespace Bal
open PySem Mi
section
variable {Gm : Cfg} {tab : Nat → Option Fn} (B : BalS Gm tab)
include B
def Hand (d : D) : Prop := ∃ (cs : List Int) (i : Nat) (v h c : Int), d = .lst [.lst (cs.map .int), .int i, .int v, .int h, .int c] ∧ i ≤ cs.length ∧ 0 ≤ v ∧ ∀ x ∈ cs, 0 ≤ x
/-- the part behind the taking of a cell -/
theorem draw_tail (n : Nat) {cs : List Int} {i : Nat} {v h c L : Int} {x3 : Option (Bool × D)} (h0 : 0 < L) (h1 : L < 1000) (hi : i ≤ cs.length) (hv : 0 ≤ v) (hcs : ∀ x ∈ cs, 0 ≤ x) :
    wB Gm (phi Gm tab n) [0] (match F__law_draw.body with | .cons _ r => r | b => b) [some (true, .lst [.lst (cs.map .int), .int i, .int v, .int h, .int c]), some (false, .int L), x3, none, none]
      (Fin [true, false] fun r o => ∃ d hd', r = .v (.int d) ∧ o = [hd'] ∧ 0 ≤ d ∧ d < L ∧ Hand hd') := by
  array_get_dec
  refine ⟨fun hc => ?_, fun hc => ?_⟩
  · array_get_dec
    refine ⟨_, _, _, rfl, rfl, b_mod h0, ?_⟩
    array_get_dec
    refine ⟨_, _, _, rfl, rfl, b_fdiv h0 (by omega), ?_⟩
    array_get_dec
    exact ⟨Int.emod_nonneg _ (by omega), Int.emod_lt_of_pos _ h0, cs, i, v / L, h, c, rfl, hi, Int.ediv_nonneg hv (by omega), hcs⟩
  · array_get_dec
    refine ⟨_, _, _, rfl, rfl, b_mulB (i := ((h + 7919 * (c + 1)) * 48271) % 2147483647) ⟨by omega, by omega⟩, ?_⟩
    array_get_dec
    refine ⟨_, _, _, rfl, rfl, b_mulB (i := (((h + 7919 * (c + 1)) * 48271) % 2147483647) * ((((h + 7919 * (c + 1)) * 48271) % 2147483647) / 1009 + 69621) % 2147483647) ⟨by omega, by omega⟩, ?_⟩
    array_get_dec
    refine ⟨_, _, _, rfl, rfl, b_mod h0, ?_⟩
    array_get_dec
    exact ⟨Int.emod_nonneg _ (by omega), Int.emod_lt_of_pos _ h0, cs, i, v, h, c + 1, rfl, hi, hv, hcs⟩
theorem draw_ok (n : Nat) {hd : D} (hh : Hand hd) {L : Int} (h0 : 0 < L) (h1 : L < 1000) : ∃ r o, phi Gm tab (n + 1) 1 [(true, hd), (false, .int L)] = some (r, o) ∧ ∃ d hd', r = .v (.int d) ∧ o = [hd'] ∧ 0 ≤ d ∧ d < L ∧ Hand hd' := by
  obtain ⟨cs, i, v, h, c, rfl, hi, hv, hcs⟩ := hh
  refine phi_ex B.draw.1 rfl ?_
  show wB Gm (phi Gm tab n) [0] F__law_draw.body [some (true, .lst [.lst (cs.map .int), .int i, .int v, .int h, .int c]), some (false, .int L), none, none, none] _
  refine w_cut ?_
  array_get_dec
  refine ⟨fun hv0 => ?_, fun hc => ?_⟩
  · array_get_dec
    refine ⟨fun hc => ?_, fun hc => ?_⟩
    · have hlt : i < cs.length := by
        have : (i : Int) < ((cs.map D.int).length : Nat) := of_decide_eq_true hc
        rw [List.length_map] at this
        omega
      array_get_dec
      refine ⟨_, _, _, rfl, rfl, idx_l (d := .int cs[i]) (by rw [List.getElem?_map, List.getElem?_eq_getElem hlt]; rfl), ?_⟩
      array_get_dec
      have hcell : 0 ≤ cs[i] := hcs _ (List.getElem_mem hlt)
      refine ⟨fun hc => ?_, fun hc => ?_⟩
      · array_get_dec
        exact ⟨draw_tail B n h0 h1 hlt hcell hcs⟩
      · array_get_dec
        exact ⟨draw_tail B n h0 h1 hlt hv hcs⟩
    · array_get_dec
      exact ⟨draw_tail B n h0 h1 hi hv hcs⟩
  · array_get_dec
    exact ⟨draw_tail B n h0 h1 hi hv hcs⟩
theorem mixed_ok (n : Nat) {α : Type} (f : α → D) {hd : D} (hh : Hand hd) {xs : List α} (hx : xs.length < 1000) : ∃ r o, phi Gm tab (n + 2) 3 [(true, hd), (false, .lst (xs.map f))] = some (r, o) ∧ ∃ (ys : List α) (hd' : D), r = .o (.lst (ys.map f)) ∧ o = [hd'] ∧ ys.Perm xs ∧ Hand hd' := by
  refine phi_ex B.mixed.1 rfl ?_
  show wB Gm (phi Gm tab (n + 1)) [0] F__law_mixed.body [some (true, hd), some (false, .lst (xs.map f)), none, none] _
  array_get_dec
  refine w_whil B.loop (fun m ρ => ∃ (hd : D) (rem fnd : List α), ρ = [some (true, hd), some (false, .lst (xs.map f)), some (true, .lst (rem.map f)), some (true, .lst (fnd.map f))] ∧ Hand hd ∧ m = rem.length ∧ (fnd ++ rem).Perm xs) xs.length ⟨hd, xs, [], rfl, hh, rfl, .refl _⟩ ?_
  rintro m _ ⟨hd, rem, fnd, rfl, hh, rfl, hp⟩
  have hl : fnd.length + rem.length = xs.length := by rw [← List.length_append]; exact hp.length_eq
  array_get_dec
  refine ⟨fun hc => ?_, fun hc => ?_⟩
  · have hr : rem = [] := by
      have : ¬ (0 : Int) < ((rem.map f).length : Nat) := of_decide_eq_false hc
      rw [List.length_map] at this
      exact List.length_eq_zero_iff.mp (by omega)
    subst hr
    array_get_dec
    exact ⟨by simpa using hp, hh⟩
  · have hr : (0 : Int) < ((rem.map f).length : Nat) := of_decide_eq_true hc
    have hrl : (rem.map f).length = rem.length := List.length_map _
    array_get_dec
    obtain ⟨r, o, e, d, hd', rfl, rfl, d0, d1, hh'⟩ := draw_ok B n hh hr (by omega)
    obtain ⟨j, rfl⟩ := Int.eq_ofNat_of_zero_le d0
    have hj : j < rem.length := by omega
    have hj' : j < (rem.map f).length := by omega
    refine call_by B.draw.2 rfl rfl e rfl ?_
    array_get_dec
    refine ⟨_, _, _, _, rfl, rfl, m_pop (List.getElem?_eq_getElem hj'), ?_⟩
    array_get_dec
    refine ⟨_, _, _, _, rfl, rfl, m_app (Nat.lt_of_lt_of_le (by rw [List.length_map]; omega : (fnd.map f).length < 1000) (by decide)), ?_⟩
    array_get_dec
    refine ⟨_, ?_, hd', rem.eraseIdx j, fnd ++ [rem[j]], ?_, hh', rfl, ?_⟩
    · rw [List.length_eraseIdx_of_lt hj]; omega
    · show [some (true, hd'), some (false, D.lst (xs.map f)), some (true, .lst ((rem.map f).eraseIdx j)), some (true, .lst (fnd.map f ++ [(rem.map f)[j]]))] = _
      rw [eraseIdx_map', List.map_append, List.getElem_map]
      rfl
    · rw [List.append_assoc]
      exact .trans (List.Perm.append_left _ (perm_erase hj)) hp
theorem some_ok (n : Nat) {hd : D} (hh : Hand hd) {xs : List D} (h0 : 0 < xs.length) (hx : xs.length < 1000) : ∃ r o, phi Gm tab (n + 2) 2 [(true, hd), (false, .lst xs)] = some (r, o) ∧ ∃ x hd', r = .v x ∧ o = [hd'] ∧ x ∈ xs ∧ Hand hd' := by
  refine phi_ex B.pick.1 rfl ?_
  show wB Gm (phi Gm tab (n + 1)) [0] F__law_some.body [some (true, hd), some (false, .lst xs)] _
  array_get_dec
  obtain ⟨r, o, e, d, hd', rfl, rfl, d0, d1, hh'⟩ := draw_ok B n hh (L := (xs.length : Nat)) (by omega) (by omega)
  obtain ⟨j, rfl⟩ := Int.eq_ofNat_of_zero_le d0
  have hj : j < xs.length := by omega
  refine call_by B.draw.2 rfl rfl e rfl ?_
  array_get_dec
  refine ⟨_, _, _, rfl, rfl, idx_l (List.getElem?_eq_getElem hj), ?_⟩
  array_get_dec
  exact ⟨List.getElem_mem hj, hh'⟩
theorem hand_ok (n : Nat) (ns : List Int) : ∃ r o, phi Gm tab (n + 1) 0 [(false, .scr ns)] = some (r, o) ∧ ∃ hd, r = .o hd ∧ o = [] ∧ Hand hd := by
  refine phi_ex B.hand.1 rfl ?_
  show wB Gm (phi Gm tab n) [] F__law_hand.body [some (false, .scr ns), none, none] _
  array_get_dec
  refine w_compP rfl ?_
  array_get_dec
  refine ⟨fun it => match it with | .one (.int i) => some (.int (if i < 0 then -i else i)) | _ => none, fun it hit => ?_, ?_⟩
  · obtain ⟨d, hd, rfl⟩ := List.mem_map.mp hit
    obtain ⟨i, hi, rfl⟩ := List.mem_map.mp hd
    refine ⟨_, rfl, ?_⟩
    array_get_dec
    rfl
  · have e : ((cutI ns none (some 63)).map D.int |>.map Itm.one).filterMap (fun it => match it with | .one (.int i) => some (.int (if i < 0 then -i else i)) | _ => none) = ((cutI ns none (some 63)).map fun i => if i < 0 then -i else i).map D.int := by
      rw [List.map_map, List.map_map]
      exact fm_all fun x _ => rfl
    rw [e]
    array_get_dec
    refine ⟨rfl, _, 0, 0, _, 0, rfl, Nat.zero_le _, Int.le_refl _, fun x hx => ?_⟩
    obtain ⟨i, _, rfl⟩ := List.mem_map.mp hx
    split <;> omega
end
end Bal

/-! BalB -/
set_option Elab.async false
set_option linter.all false
set_option maxRecDepth 100000
set_option maxHeartbeats 4000000
namespace Bal
open PySem Mi
section
variable {Gm : Cfg} {tab : Nat → Option Fn} (B : BalS Gm tab)
include B
abbrev nD (i : Nat) : D := .int (i : Int)
def rowD (p : Int × List Nat) : D := .tup [.int p.1, .tup (p.2.map nD)]
def RowOk (m : Nat) (p : Int × List Nat) : Prop := 1 ≤ p.1 ∧ p.1 ≤ 99 ∧ p.2.Perm (List.range m)
omit B in
theorem rot_perm {l : List Nat} {m : Nat} (h : l.Perm (List.range m)) : (l.drop 1 ++ l.take 1).Perm (List.range m) := by
  refine .trans ?_ h
  exact (List.perm_append_comm).trans (by rw [List.take_append_drop])
theorem row_put (n : Nat) {hd : D} (hh : Hand hd) {most : Int} {m : Nat} (hm : m ≤ 5) {k : Int} {rs : List (Int × List Nat)} {x5 : Option (Bool × D)} {ord : List Nat} (ho : ord.Perm (List.range m)) (hl : rs.length < 10) {post : Fl → Mi.Env → Prop}
    (q : ∀ hd' t, Hand hd' → RowOk m (t, ord) → post .nx [some (true, hd'), some (false, .int most), some (false, .int m), some (false, .int k), some (true, .lst ((rs ++ [(t, ord)]).map rowD)), x5, some (false, .tup (ord.map nD))]) :
    wB Gm (phi Gm tab (n + 2)) [0] (.cons (.expr (.mut .append 4 (.cons (.tup (.cons (.bin .add (.cint 1) (.call 1 (.cons (.var 0) (.cons (.call 2 (.cons (.var 0) (.cons (.lst (.cons (.cint 1) (.cons (.cint 4) (.cons (.cint 99) .nil)))) .nil))) .nil)))) (.cons (.var 6) .nil))) .nil))) .nil)
      [some (true, hd), some (false, .int most), some (false, .int m), some (false, .int k), some (true, .lst (rs.map rowD)), x5, some (false, .tup (ord.map nD))] post := by
  array_get_dec
  obtain ⟨r, o, e, x, hd1, rfl, rfl, hx, hh1⟩ := some_ok B n hh (xs := [.int 1, .int 4, .int 99]) (by decide) (by decide)
  refine call_by B.pick.2 rfl rfl e rfl ?_
  obtain ⟨L, rfl, hL⟩ : ∃ L : Int, x = .int L ∧ 1 ≤ L ∧ L ≤ 99 := by
    simp only [List.mem_cons, List.not_mem_nil, or_false] at hx
    rcases hx with rfl | rfl | rfl
    · exact ⟨_, rfl, by decide, by decide⟩
    · exact ⟨_, rfl, by decide, by decide⟩
    · exact ⟨_, rfl, by decide, by decide⟩
  array_get_dec
  obtain ⟨r, o, e, t, hd2, rfl, rfl, t0, t1, hh2⟩ := draw_ok B (n + 1) hh1 (by omega : 0 < L) (by omega)
  refine call_by B.draw.2 rfl rfl e rfl ?_
  array_get_dec
  refine ⟨_, _, _, _, rfl, rfl, m_app (Nat.lt_of_lt_of_le (by rw [List.length_map]; omega : (rs.map rowD).length < 1000) (by decide)), ?_⟩
  array_get_dec
  have := q hd2 (1 + t) hh2 ⟨by show (1:Int) ≤ 1 + t; omega, by show 1 + t ≤ 99; omega, ho⟩
  rw [List.map_append] at this
  exact this
theorem ballots_ok (n : Nat) {hd : D} (hh : Hand hd) {most : Int} (h1 : 1 ≤ most) (h5 : most ≤ 5) : ∃ r o, phi Gm tab (n + 3) 11 [(true, hd), (false, .int most)] = some (r, o) ∧
    ∃ (m : Nat) (rs : List (Int × List Nat)) (hd' : D), r = .v (.tup [.int m, .tup (rs.map rowD)]) ∧ o = [hd'] ∧ 1 ≤ m ∧ (m : Int) ≤ most ∧ 1 ≤ rs.length ∧ rs.length ≤ 6 ∧ (∀ p ∈ rs, RowOk m p) ∧ Hand hd' := by
  refine phi_ex B.lballots.1 rfl ?_
  show wB Gm (phi Gm tab (n + 2)) [0] F__law_ballots.body [some (true, hd), some (false, .int most), none, none, none, none, none] _
  array_get_dec
  obtain ⟨r, o, e, d, hd1, rfl, rfl, d0, d1, hh1⟩ := draw_ok B (n + 1) hh (by omega : 0 < most) (by omega)
  refine call_by B.draw.2 rfl rfl e rfl ?_
  array_get_dec
  obtain ⟨r, o, e, k, hd2, rfl, rfl, k0, k1, hh2⟩ := draw_ok B (n + 1) hh1 (by decide : (0 : Int) < 4) (by decide)
  refine call_by B.draw.2 rfl rfl e rfl ?_
  array_get_dec
  refine w_for rfl ?_
  array_get_dec
  obtain ⟨r, o, e, t, hd3, rfl, rfl, t0, t1, hh3⟩ := draw_ok B (n + 1) hh2 (by decide : (0 : Int) < 6) (by decide)
  refine call_by B.draw.2 rfl rfl e rfl ?_
  array_get_dec
  obtain ⟨j, hj⟩ := Int.eq_ofNat_of_zero_le (by omega : 0 ≤ 1 + t)
  obtain ⟨m, hm⟩ := Int.eq_ofNat_of_zero_le (by omega : 0 ≤ 1 + d)
  refine ⟨j, _, by rw [← hj]; rfl, range_ok (by omega), ?_⟩
  refine ⟨fun i ρ => ∃ (hd : D) (rs : List (Int × List Nat)) (x5 x6 : Option (Bool × D)), ρ = [some (true, hd), some (false, .int most), some (false, .int m), some (false, .int k), some (true, .lst (rs.map rowD)), x5, x6] ∧ Hand hd ∧ rs.length = i ∧ ∀ p ∈ rs, RowOk m p,
    ⟨hd3, [], none, none, by rw [hm]; rfl, hh3, rfl, fun _ h => nomatch h⟩, ?_, ?_⟩
  · rintro i x _ hx ⟨hd, rs, x5, x6, rfl, hh, hl, hr⟩
    have hi : i < j := by
      have := (List.getElem?_eq_some_iff.mp hx).1
      simpa using this
    obtain ⟨y, rfl⟩ : ∃ y, x = .one y := by
      rw [List.getElem?_map] at hx
      cases q : ((List.range j).map fun (i : Nat) => D.int (i : Int))[i]? with
      | none => rw [q] at hx; cases hx
      | some y => rw [q] at hx; cases hx; exact ⟨y, rfl⟩
    refine ⟨_, rfl, ?_⟩
    refine w_bcons ?_
    array_get_dec
    refine ⟨_, _, rfl, range_ok (by omega : m ≤ 100000), ?_⟩
    array_get_dec
    obtain ⟨r, o, e, ys, hd4, rfl, rfl, hp, hh4⟩ := mixed_ok B n nD hh (xs := List.range m) (by rw [List.length_range]; omega)
    refine call_by B.mixed.2 rfl rfl e rfl ?_
    refine w_anil ?_
    refine ⟨_, _, rfl, rfl, ?_⟩
    refine ⟨_, _, _, rfl, rfl, ?_⟩
    refine sq_nx ?_
    refine w_cut ?_
    have fin : ∀ (hd' : D) (o : List Nat), Hand hd' → o.Perm (List.range m) → _ := fun hd' o hh' ho => row_put B n hh' (most := most) (k := k) (x5 := some (false, y)) (by omega : m ≤ 5) ho (by omega : rs.length < 10) (post := fun f ρ3 => f = Fl.nx ∧ ∃ (hd : D) (rs : List (Int × List Nat)) (x5 x6 : Option (Bool × D)), ρ3 = [some (true, hd), some (false, .int most), some (false, .int m), some (false, .int k), some (true, .lst (rs.map rowD)), x5, x6] ∧ Hand hd ∧ rs.length = i + 1 ∧ ∀ p ∈ rs, RowOk m p)
      fun hd'' t hh'' hro => ⟨rfl, hd'', rs ++ [(t, o)], some (false, y), some (false, .tup (o.map nD)), rfl, hh'', by rw [List.length_append, hl]; rfl, fun p hp => (List.mem_append.mp hp).elim (hr p) fun h => by rw [List.mem_singleton.mp h]; exact hro⟩
    array_get_dec
    refine ⟨fun hc => ?_, fun hc => ?_⟩
    · array_get_dec
      refine ⟨fun hc2 => ?_, fun hc2 => ?_⟩
      · have hlr : 0 < rs.length := by
          have : (0 : Int) < ((rs.map rowD).length : Nat) := of_decide_eq_true hc2
          rw [List.length_map] at this
          omega
        array_get_dec
        obtain ⟨r, o, e, u, hd5, rfl, rfl, u0, u1, hh5⟩ := draw_ok B (n + 1) hh4 (by decide : (0 : Int) < 2) (by decide)
        refine call_by B.draw.2 rfl rfl e rfl ?_
        array_get_dec
        refine ⟨fun hc3 => ?_, fun hc3 => ?_⟩
        · array_get_dec
          have h0 : (rs.map rowD)[0]? = some (rowD rs[0]) := by rw [List.getElem?_map, List.getElem?_eq_getElem hlr]; rfl
          have hp0 := (hr rs[0] (List.getElem_mem hlr)).2.2
          have l0 : rs[0].2.length ≤ 5 := by have := hp0.length_eq; rw [List.length_range] at this; omega
          refine ⟨_, _, _, rfl, rfl, idx_l (j := 0) h0, ?_⟩
          array_get_dec
          refine ⟨_, _, _, rfl, rfl, idx_l (j := 0) h0, ?_⟩
          array_get_dec
          have c1 : cut (rs[0].2.map nD) (some 1) none = (rs[0].2.map nD).drop 1 := cut_from (k := 1)
          have c2 : cut (rs[0].2.map nD) none (some 1) = (rs[0].2.map nD).take 1 := cut_to (k := 1)
          refine ⟨_, _, _, rfl, rfl, (by rw [c1, c2]; exact b_catT (Nat.le_trans (by rw [List.length_drop, List.length_take, List.length_map]; omega : _ ≤ 10) (by decide))), ?_⟩
          array_get_dec
          have f := fin hd5 (rs[0].2.drop 1 ++ rs[0].2.take 1) hh5 (rot_perm hp0)
          rw [List.map_append, List.map_drop, List.map_take] at f
          exact ⟨f⟩
        · array_get_dec
          have hlast : rs.length - 1 < rs.length := by omega
          have h0 : (rs.map rowD)[(rs.map rowD).length - 1]? = some (rowD rs[rs.length - 1]) := by rw [List.length_map, List.getElem?_map, List.getElem?_eq_getElem hlast]; rfl
          refine ⟨_, _, _, rfl, rfl, idx_neg1 h0, ?_⟩
          array_get_dec
          have f := fin hd5 rs[rs.length - 1].2.reverse hh5 ((List.reverse_perm _).trans (hr _ (List.getElem_mem hlast)).2.2)
          rw [List.map_reverse] at f
          exact ⟨f⟩
      · array_get_dec
        exact ⟨fin _ _ hh4 hp⟩
    · array_get_dec
      exact ⟨fin _ _ hh4 hp⟩
  · rintro _ ⟨hd, rs, x5, x6, rfl, hh, hl, hr⟩
    array_get_dec
    have hl' : rs.length = j := by simpa using hl
    exact ⟨by omega, by omega, by omega, by omega, hr, hh⟩
end
end Bal

/-! BalC -/
set_option Elab.async false
set_option linter.all false
set_option maxRecDepth 100000
set_option maxHeartbeats 4000000
namespace Bal
open PySem Mi
section
variable {Gm : Cfg} {tab : Nat → Option Fn} (B : BalS Gm tab)
include B
omit B in
theorem fm_const {α β : Type} {c : β} : ∀ {l : List α}, l.filterMap (fun _ => some c) = l.map fun _ => c
  | [] => rfl
  | x :: r => by rw [List.filterMap_cons]; exact congrArg (c :: ·) fm_const
omit B in
theorem all_true {α : Type} (l : List α) : bltD .all [.lst (l.map fun _ => .bl true)] = some (.v (.bl true)) := by
  have h : blsD (l.map fun _ => D.bl true) = some (l.map fun _ => true) := by
    induction l with
    | nil => rfl
    | cons x r ih => show (blsD (r.map fun _ => D.bl true)).map _ = _; rw [ih]; rfl
  show (blsD _).map _ = _
  rw [h]
  show some (R.v (D.bl ((l.map fun _ => true).all id))) = _
  congr 3
  simp
omit B in
theorem zip_self {l : List D} {x : Itm} (h : x ∈ List.zipWith Itm.two l l) : ∃ a ∈ l, x = .two a a := by
  induction l with
  | nil => simp at h
  | cons a r ih =>
    rw [List.zipWith_cons_cons] at h
    rcases List.mem_cons.mp h with z | z
    · exact ⟨a, List.mem_cons_self, z⟩
    · obtain ⟨b, hb, e⟩ := ih z
      exact ⟨b, List.mem_cons_of_mem _ hb, e⟩
omit B in
theorem pls_mem : ∀ {l : List D} {a : D}, pls l = true → a ∈ l → pl a = true ∧ dpt a ≤ dpts l
  | d :: r, a, h, m => by
    unfold pls at h
    rw [Bool.and_eq_true] at h
    unfold dpts
    rcases List.mem_cons.mp m with z | z
    · subst z; exact ⟨h.1, Nat.le_max_left _ _⟩
    · exact ⟨(pls_mem h.2 z).1, Nat.le_trans (pls_mem h.2 z).2 (Nat.le_max_right _ _)⟩
theorem is_ok : ∀ (n : Nat) {d : D}, pl d = true → dpt d ≤ n → phi Gm tab (n + 1) 4 [(false, d), (false, d)] = some (.v (.bl true), []) := by
  intro n
  induction n with
  | zero =>
    intro d hd hn
    have key : ∃ r o, phi Gm tab (0 + 1) 4 [(false, d), (false, d)] = some (r, o) ∧ r = .v (.bl true) ∧ o = [] := by
      refine phi_ex B.is.1 rfl ?_
      show wB Gm (phi Gm tab 0) [] F__law_is.body [some (false, d), some (false, d), none, none] _
      cases d with
      | non => array_get_dec; exact ⟨rfl, rfl⟩
      | int i => array_get_dec; exact ⟨by simp, rfl⟩
      | tup l => unfold dpt at hn; omega
      | lst l => unfold dpt at hn; omega
      | _ => unfold pl at hd; cases hd
    obtain ⟨r, o, e, rfl, rfl⟩ := key
    exact e
  | succ n ih =>
    intro d hd hn
    have key : ∃ r o, phi Gm tab (n + 1 + 1) 4 [(false, d), (false, d)] = some (r, o) ∧ r = .v (.bl true) ∧ o = [] := by
      refine phi_ex B.is.1 rfl ?_
      show wB Gm (phi Gm tab (n + 1)) [] F__law_is.body [some (false, d), some (false, d), none, none] _
      cases d with
      | non => array_get_dec; exact ⟨rfl, rfl⟩
      | int i => array_get_dec; exact ⟨by simp, rfl⟩
      | tup l =>
        unfold pl at hd
        unfold dpt at hn
        array_get_dec
        refine ⟨fun _ => ?_, fun hc => by simp at hc⟩
        array_get_dec
        refine w_compP rfl ?_
        array_get_dec
        refine ⟨_, _, _, _, _, rfl, rfl, rfl, ?_⟩
        refine ⟨fun _ => some (.bl true), fun x hx => ?_, ?_⟩
        · obtain ⟨a, ha, rfl⟩ := zip_self hx
          obtain ⟨pa, da⟩ := pls_mem hd ha
          refine ⟨_, rfl, ?_⟩
          array_get_dec
          refine call_by B.is.2 rfl rfl (ih pa (by omega)) rfl ?_
          array_get_dec
          rfl
        · array_get_dec
          refine ⟨_, _, rfl, (by rw [fm_const]; exact all_true _), ?_⟩
          array_get_dec
          exact ⟨rfl, rfl⟩
      | lst l =>
        unfold pl at hd
        unfold dpt at hn
        array_get_dec
        refine ⟨fun _ => ?_, fun hc => by simp at hc⟩
        array_get_dec
        refine w_compP rfl ?_
        array_get_dec
        refine ⟨_, _, _, _, _, rfl, rfl, rfl, ?_⟩
        refine ⟨fun _ => some (.bl true), fun x hx => ?_, ?_⟩
        · obtain ⟨a, ha, rfl⟩ := zip_self hx
          obtain ⟨pa, da⟩ := pls_mem hd ha
          refine ⟨_, rfl, ?_⟩
          array_get_dec
          refine call_by B.is.2 rfl rfl (ih pa (by omega)) rfl ?_
          array_get_dec
          rfl
        · array_get_dec
          refine ⟨_, _, rfl, (by rw [fm_const]; exact all_true _), ?_⟩
          array_get_dec
          exact ⟨rfl, rfl⟩
      | _ => unfold pl at hd; cases hd
    obtain ⟨r, o, e, rfl, rfl⟩ := key
    exact e
omit B in
theorem of_ex {Φ : Option (R × List D)} {r0 : R} {o0 : List D} (h : ∃ r o, Φ = some (r, o) ∧ r = r0 ∧ o = o0) : Φ = some (r0, o0) := by
  obtain ⟨r, o, e, rfl, rfl⟩ := h
  exact e
theorem isint_ok (n : Nat) (i : Int) : phi Gm tab (n + 1) 5 [(false, .int i)] = some (.v (.bl true), []) := of_ex (by
  refine phi_ex B.isint.1 rfl ?_
  show wB Gm (phi Gm tab n) [] F_is_integer.body [some (false, .int i)] _
  array_get_dec
  exact ⟨rfl, rfl⟩)
theorem within_ok (n : Nat) {i a b : Int} (h1 : a ≤ i) (h2 : i ≤ b) : phi Gm tab (n + 2) 6 [(false, .int i), (false, .int a), (false, .int b)] = some (.v (.bl true), []) := of_ex (by
  refine phi_ex B.within.1 rfl ?_
  show wB Gm (phi Gm tab (n + 1)) [] F_is_within.body [some (false, .int i), some (false, .int a), some (false, .int b)] _
  array_get_dec
  refine call_by B.isint.2 rfl rfl (isint_ok B n i) rfl ?_
  array_get_dec
  refine ⟨fun _ => ?_, fun hc => absurd h1 (of_decide_eq_false hc)⟩
  array_get_dec
  exact ⟨by show R.v (D.bl (decide (i ≤ b))) = _; rw [decide_eq_true h2], rfl⟩)
theorem tuple_ok (n : Nat) {l : List D} {k : Int} (h : (l.length : Int) = k) : phi Gm tab (n + 1) 8 [(false, .tup l), (false, .int k)] = some (.v (.bl true), []) := of_ex (by
  refine phi_ex B.tuple.1 rfl ?_
  show wB Gm (phi Gm tab n) [] F_is_tuple.body [some (false, .tup l), some (false, .int k)] _
  array_get_dec
  exact ⟨by simp [h], rfl⟩)
theorem sized_ok (n : Nat) {l : List D} {a b : Int} (h1 : a ≤ l.length) (h2 : (l.length : Int) ≤ b) : phi Gm tab (n + 1) 7 [(false, .tup l), (false, .int a), (false, .int b)] = some (.v (.bl true), []) := of_ex (by
  refine phi_ex B.sized.1 rfl ?_
  show wB Gm (phi Gm tab n) [] F_is_sized.body [some (false, .tup l), some (false, .int a), some (false, .int b)] _
  array_get_dec
  refine ⟨fun _ => ?_, fun hc => absurd h1 (of_decide_eq_false hc)⟩
  array_get_dec
  exact ⟨by show R.v (D.bl (decide ((l.length : Int) ≤ b))) = _; rw [decide_eq_true h2], rfl⟩)
omit B in
theorem ints_nD : ∀ l : List Nat, intsD (l.map nD) = some (l.map fun (i : Nat) => (i : Int))
  | [] => rfl
  | x :: r => by show (intsD (r.map nD)).map _ = _; rw [ints_nD r]; rfl
omit B in
theorem dedup_nodup : ∀ {l : List Int}, l.Nodup → dedup l = l
  | [], _ => rfl
  | x :: r, h => by
    obtain ⟨h1, h2⟩ := List.nodup_cons.mp h
    unfold dedup
    rw [if_neg h1, dedup_nodup h2]
theorem order_ok (n : Nat) {o : List Nat} {m : Nat} (hm : m ≤ 9) (h : o.Perm (List.range m)) : phi Gm tab (n + 3) 9 [(false, .tup (o.map nD)), (false, .int m)] = some (.v (.bl true), []) := of_ex (by
  have hl : o.length = m := by rw [h.length_eq, List.length_range]
  refine phi_ex B.order.1 rfl ?_
  show wB Gm (phi Gm tab (n + 2)) [] F_is_order.body [some (false, .tup (o.map nD)), some (false, .int m), none] _
  array_get_dec
  refine call_by B.tuple.2 rfl rfl (tuple_ok B (n + 1) (by rw [List.length_map, hl])) rfl ?_
  array_get_dec
  refine w_compP rfl ?_
  array_get_dec
  refine ⟨fun _ => some (.bl true), fun x hx => ?_, ?_⟩
  · obtain ⟨d, hd, rfl⟩ := List.mem_map.mp hx
    obtain ⟨i, hi, rfl⟩ := List.mem_map.mp hd
    have him : i < m := List.mem_range.mp (h.subset hi)
    refine ⟨_, rfl, ?_⟩
    array_get_dec
    refine call_by B.within.2 rfl rfl (within_ok B n (by omega) (by omega)) rfl ?_
    array_get_dec
    rfl
  · array_get_dec
    refine ⟨_, _, rfl, (by rw [fm_const]; exact all_true _), ?_⟩
    array_get_dec
    have hlen : bltD .lenset [.tup (o.map nD)] = some (.v (.int m)) := by
      show (intsD (o.map nD)).bind _ = _
      rw [ints_nD]
      show (if (o.map fun (i : Nat) => (i : Int)).length < 64 then _ else _) = _
      have nd : (o.map fun (i : Nat) => (i : Int)).Nodup := by
        have : o.Nodup := h.nodup_iff.mpr List.nodup_range
        exact List.Pairwise.map _ (fun a b hab e => hab (Int.ofNat_inj.mp e)) this
      rw [if_pos (by rw [List.length_map, hl]; omega), dedup_nodup nd, List.length_map, hl]
    refine ⟨_, _, rfl, hlen, ?_⟩
    array_get_dec
    exact ⟨by simp, rfl⟩)
def bookD (m : Nat) (rs : List (Int × List Nat)) : D := .ins 10 ["many", "rows"] [.int m, .tup (rs.map rowD)]
omit B in
theorem ne_mr : ¬ (("many" : Str) = "rows") := by decide +kernel
omit B in
theorem put2 (m : Nat) (rs : List (Int × List Nat)) : D.ins 10 (putN "rows" (.tup (rs.map rowD)) (putN "many" (.int m) [] []).1 (putN "many" (.int m) [] []).2).1 (putN "rows" (.tup (rs.map rowD)) (putN "many" (.int m) [] []).1 (putN "many" (.int m) [] []).2).2 = bookD m rs := by
  have e1 : putN "many" (D.int m) [] [] = ((["many"] : List Str), [D.int m]) := rfl
  rw [e1]
  have e2 : putN "rows" (D.tup (rs.map rowD)) ["many"] [D.int m] = ((["many", "rows"] : List Str), [D.int m, D.tup (rs.map rowD)]) := by
    unfold putN
    rw [if_neg ne_mr]
    rfl
  rw [e2]
  rfl
theorem book_ok (n : Nat) {m : Nat} {rs : List (Int × List Nat)} (h1 : 1 ≤ m) (h5 : m ≤ 5) (l1 : 1 ≤ rs.length) (l2 : rs.length ≤ 12) (hr : ∀ p ∈ rs, RowOk m p) :
    phi Gm tab (n + 4) 10 [(true, .ins 10 [] []), (false, .int m), (false, .tup (rs.map rowD))] = some (.v .non, [bookD m rs]) := of_ex (by
  refine phi_ex B.book.1 rfl ?_
  show wB Gm (phi Gm tab (n + 3)) [0] F_Ballots.body [some (true, .ins 10 [] []), some (false, .int m), some (false, .tup (rs.map rowD)), none] _
  array_get_dec
  refine w_glob B.g0 ?_
  array_get_dec
  refine call_by B.within.2 rfl rfl (within_ok B (n + 1) (by omega) (by omega)) rfl ?_
  array_get_dec
  refine w_glob B.g1 ?_
  array_get_dec
  refine call_by B.sized.2 rfl rfl (sized_ok B (n + 2) (by rw [List.length_map]; omega) (by rw [List.length_map]; omega)) rfl ?_
  array_get_dec
  refine w_compP rfl ?_
  array_get_dec
  refine ⟨fun _ => some (.bl true), fun x hx => ?_, ?_⟩
  · obtain ⟨d, hd, rfl⟩ := List.mem_map.mp hx
    obtain ⟨p, hp, rfl⟩ := List.mem_map.mp hd
    obtain ⟨t1, t2, hperm⟩ := hr p hp
    refine ⟨_, rfl, ?_⟩
    array_get_dec
    refine call_by B.tuple.2 rfl rfl (tuple_ok B (n + 2) (l := [.int p.1, .tup (p.2.map nD)]) rfl) rfl ?_
    array_get_dec
    refine w_glob B.g2 ?_
    array_get_dec
    refine call_by B.within.2 rfl rfl (within_ok B (n + 1) t1 t2) rfl ?_
    array_get_dec
    refine call_by B.order.2 rfl rfl (order_ok B n (by omega) hperm) rfl ?_
    array_get_dec
    rfl
  · array_get_dec
    refine ⟨_, _, rfl, (by rw [fm_const]; exact all_true _), ?_⟩
    array_get_dec
    refine ⟨_, _, _, _, _, _, rfl, rfl, B.flds, ⟨List.mem_cons_self, (by show (0 : Nat) < 900; decide)⟩, ?_⟩
    array_get_dec
    refine ⟨_, _, _, _, _, _, rfl, rfl, B.flds, ⟨List.mem_cons_of_mem _ List.mem_cons_self, (by show (1 : Nat) < 900; decide)⟩, ?_⟩
    array_get_dec
    exact ⟨rfl, congrArg (fun z => [z]) (put2 m rs)⟩)
end
end Bal

/-! BalD -/
set_option Elab.async false
set_option linter.all false
set_option maxRecDepth 100000
set_option maxHeartbeats 4000000
namespace Bal
open PySem Mi
theorem ne_rm : ¬ (("rows" : Str) = "many") := by decide +kernel
theorem attr_many {Gm : Cfg} (hf : Gm.fields 10 = some (["many", "rows"] : List Str)) (m : Nat) (rs : List (Int × List Nat)) : attrD Gm.fields "many" (bookD m rs) = some (.int m) := by
  unfold bookD attrD
  dsimp only
  rw [hf]
  dsimp only
  rw [if_pos List.mem_cons_self]
  unfold getN
  rw [if_pos rfl]
theorem attr_rows {Gm : Cfg} (hf : Gm.fields 10 = some (["many", "rows"] : List Str)) (m : Nat) (rs : List (Int × List Nat)) : attrD Gm.fields "rows" (bookD m rs) = some (.tup (rs.map rowD)) := by
  unfold bookD attrD
  dsimp only
  rw [hf]
  dsimp only
  rw [if_pos (List.mem_cons_of_mem _ List.mem_cons_self)]
  unfold getN
  rw [if_neg ne_rm]
  unfold getN
  rw [if_pos rfl]
theorem eqF_nD (i j : Nat) : eqF (nD i) (nD j) = decide (i = j) := by
  show ((i : Int) == (j : Int)) = _
  exact Bool.eq_iff_iff.mpr (by rw [beq_iff_eq, decide_eq_true_eq]; exact Int.ofNat_inj)
theorem flat_nD : ∀ l : List Nat, (l.map nD).all flatD = true
  | [] => rfl
  | x :: r => by rw [List.map_cons, List.all_cons, flat_nD r]; rfl
theorem any_nD (i : Nat) : ∀ l : List Nat, ((l.map nD).any fun z => eqF z (nD i)) = decide (i ∈ l)
  | [] => by simp
  | x :: r => by
    rw [List.map_cons, List.any_cons, any_nD i r, eqF_nD]
    by_cases h : x = i
    · subst h; simp
    · have h' : ¬ i = x := fun e => h e.symm
      simp [h, h']
theorem in_nD (i : Nat) (l : List Nat) : cmpD .inn (nD i) (.lst (l.map nD)) = some (decide (i ∈ l)) := by
  show inD (nD i) (.lst (l.map nD)) = _
  unfold inD
  show (if flatD (nD i) && (l.map nD).all flatD then some ((l.map nD).any fun z => eqF z (nD i)) else _) = _
  rw [if_pos (by rw [flat_nD]; rfl), any_nD]
theorem nin_nT (i : Nat) (l : List Nat) : cmpD .nin (nD i) (.tup (l.map nD)) = some (!decide (i ∈ l)) := by
  show (inD (nD i) (.tup (l.map nD))).map not = _
  unfold inD
  show (if flatD (nD i) && (l.map nD).all flatD then some ((l.map nD).any fun z => eqF z (nD i)) else _).map not = _
  rw [if_pos (by rw [flat_nD]; rfl), any_nD]
  rfl
theorem fm_filter {α β γ : Type} {g : α → β} {f : β → Option γ} {h : α → γ} {p : α → Bool} : ∀ {l : List α}, (∀ x ∈ l, f (g x) = if p x then some (h x) else none) → (l.map g).filterMap f = (l.filter p).map h
  | [], _ => rfl
  | x :: r, e => by
    have ih := fm_filter (l := r) (f := f) (g := g) (h := h) (p := p) fun y hy => e y (List.mem_cons_of_mem _ hy)
    rw [List.map_cons, List.filterMap_cons, e x List.mem_cons_self, List.filter_cons]
    cases q : p x with
    | true => simp [q, ih]
    | false => simp [q, ih]
theorem sum_ints : ∀ l : List Int, bltD .sum [.lst (l.map .int)] = some (.v (.int l.sum)) := fun l => by
  have h : intsD (l.map .int) = some l := by
    induction l with
    | nil => rfl
    | cons x r ih => show (intsD (r.map .int)).map _ = _; rw [ih]; rfl
  show (intsD _).map _ = _
  rw [h]
  rfl
theorem find_nat {l : List Nat} {x : Nat} (h : x ∈ l) : ixFind (fun z => eqF z (nD x)) (l.map nD) = some (l.idxOf x) := by
  induction l with
  | nil => cases h
  | cons y r ih =>
    rw [List.map_cons]
    unfold ixFind
    by_cases e : y = x
    · subst e
      rw [if_pos (by rw [eqF_nD]; simp), List.idxOf_cons_self]
    · rw [if_neg (by rw [eqF_nD]; simpa using e), ih (by simpa [Ne.symm e] using h)]
      rw [List.idxOf_cons, show (y == x) = false by simpa using e]
      rfl
theorem index_nT {l : List Nat} {x : Nat} (h : x ∈ l) : mthD .index (.tup (l.map nD)) (nD x) = some (nD (l.idxOf x)) := by
  simp only [mthD, itemsD, Option.bind_some]
  rw [flat_nD, if_pos (show (flatD (nD x) && true) = true from rfl), find_nat h]
  rfl
theorem pl_nD : ∀ l : List Nat, pls (l.map nD) = true ∧ dpts (l.map nD) = 0
  | [] => ⟨rfl, rfl⟩
  | x :: r => by
    rw [List.map_cons]
    unfold pls dpts
    rw [(pl_nD r).1, (pl_nD r).2]
    exact ⟨rfl, rfl⟩
def toN : D → Nat
  | .int i => i.toNat
  | _ => 0
theorem toN_nD : ∀ l : List Nat, (l.map nD).map toN = l
  | [] => rfl
  | x :: r => by rw [List.map_cons, List.map_cons, toN_nD r]; rfl
theorem ne_self {a : D} (h : pl a = true) (d : dpt a ≤ 64) : cmpD .ne a a = some false := by
  simp only [cmpD, eqD_self h d, Option.map_some, Bool.not_true]
theorem bls_map {α : Type} (f : α → Bool) : ∀ l : List α, blsD (l.map fun x => .bl (f x)) = some (l.map f)
  | [] => rfl
  | x :: r => by show (blsD (r.map fun x => .bl (f x))).map _ = _; rw [bls_map f r]; rfl
theorem all_map {α : Type} (f : α → Bool) (l : List α) : bltD .all [.lst (l.map fun x => .bl (f x))] = some (.v (.bl (l.all f))) := by
  show (blsD _).map _ = _
  rw [bls_map]
  show some (R.v (D.bl ((l.map f).all id))) = _
  rw [List.all_map]
  rfl
/-! who is told first -/
def before (a b : Nat) (o : List Nat) : Bool := decide (o.idxOf a < o.idxOf b)
def over (rs : List (Int × List Nat)) (a b : Nat) : Int := ((rs.filter fun p => before a b p.2).map (·.1)).sum
section
variable {Gm : Cfg} {tab : Nat → Option Fn}
theorem over_ok {j : Nat} (h : Has Gm tab j F_for_one) (n : Nat) {rs : List (Int × List Nat)} {m a b : Nat} (hr : ∀ p ∈ rs, p.2.Perm (List.range m)) (ha : a < m) (hb : b < m) : phi Gm tab (n + 1) j [(false, .tup (rs.map rowD)), (false, nD a), (false, nD b)] = some (.v (.int (over rs a b)), []) := of_ex (by
  refine phi_ex h.1 rfl ?_
  show wB Gm (phi Gm tab n) [] F_for_one.body [some (false, .tup (rs.map rowD)), some (false, nD a), some (false, nD b), none, none] _
  array_get_dec
  refine w_compP rfl ?_
  array_get_dec
  refine ⟨fun it => match it with | .one (.tup [.int t, .tup os]) => if before a b (os.map toN) then some (.int t) else none | _ => none, fun x hx => ?_, ?_⟩
  · obtain ⟨d, hd, rfl⟩ := List.mem_map.mp hx
    obtain ⟨p, hp, rfl⟩ := List.mem_map.mp hd
    have ma : a ∈ p.2 := (hr p hp).symm.subset (List.mem_range.mpr ha)
    have mb : b ∈ p.2 := (hr p hp).symm.subset (List.mem_range.mpr hb)
    refine ⟨_, rfl, ?_⟩
    array_get_dec
    refine ⟨_, _, _, _, rfl, rfl, rfl, rfl, index_nT ma, ?_⟩
    array_get_dec
    refine ⟨_, _, _, _, rfl, rfl, rfl, rfl, index_nT mb, ?_⟩
    array_get_dec
    have e : decide ((p.2.idxOf a : Int) < (p.2.idxOf b : Nat)) = before a b p.2 := decide_eq_decide.mpr Int.ofNat_lt
    refine ⟨fun hc => ?_, fun hc => ?_⟩
    · array_get_dec
      refine ⟨_, _, rfl, ?_, rfl⟩
      show (if before a b ((p.2.map nD).map toN) then some (D.int p.1) else none) = some (D.int p.1)
      rw [toN_nD, if_pos (e.symm.trans hc)]
    · refine ⟨?_, rfl⟩
      show (if before a b ((p.2.map nD).map toN) then some (D.int p.1) else none) = none
      rw [toN_nD, if_neg (fun z => absurd (hc.symm.trans (e.trans z)) (by decide))]
  · have e : ((rs.map rowD).map Itm.one).filterMap (fun it => match it with | .one (.tup [.int t, .tup os]) => if before a b (os.map toN) then some (D.int t) else none | _ => none) = (((rs.filter fun p => before a b p.2).map (·.1)).map D.int) := by
      rw [List.map_map, List.map_map]
      refine fm_filter fun p hp => ?_
      show (if before a b ((p.2.map nD).map toN) then _ else _) = _
      rw [toN_nD]
      rfl
    array_get_dec
    refine ⟨_, _, rfl, (by rw [e]; exact sum_ints _), ?_⟩
    array_get_dec
    exact ⟨rfl, rfl⟩)
/-! all orders -/
def ordStep (m : Nat) (o : List Nat) : List (List Nat) := ((List.range m).filter fun i => !decide (i ∈ o)).map fun i => o ++ [i]
def ordN (m : Nat) : Nat → List (List Nat)
  | 0 => [[]]
  | k + 1 => (ordN m k).flatMap (ordStep m)
def oD (o : List Nat) : D := .tup (o.map nD)
theorem flat_len {m : Nat} : ∀ {l : List (List Nat)}, (l.flatMap (ordStep m)).length ≤ m * l.length
  | [] => Nat.zero_le _
  | x :: r => by
    rw [List.flatMap_cons, List.length_append, List.length_cons]
    have h1 := flat_len (m := m) (l := r)
    have h2 : (ordStep m x).length ≤ m := by
      unfold ordStep
      rw [List.length_map]
      exact Nat.le_trans (List.length_filter_le _ _) (by rw [List.length_range]; exact Nat.le_refl _)
    have h3 : m * (r.length + 1) = m * r.length + m := Nat.mul_succ _ _
    omega
theorem ord_len (m : Nat) (h : m ≤ 5) : ∀ k, (ordN m k).length ≤ 5 ^ k
  | 0 => Nat.le_refl _
  | k + 1 => by
    have h1 := ord_len m h k
    have h2 : (ordN m (k + 1)).length ≤ m * (ordN m k).length := flat_len
    have h3 : m * (ordN m k).length ≤ 5 * 5 ^ k := Nat.mul_le_mul h h1
    rw [Nat.pow_succ]
    omega
theorem ord_len5 {m k : Nat} (h : m ≤ 5) (hk : k ≤ 5) : (ordN m k).length ≤ 3125 := Nat.le_trans (ord_len m h k) (Nat.pow_le_pow_right (by decide) hk)
theorem ord_mem {m : Nat} {o : List Nat} : ∀ {k : Nat}, o ∈ ordN m k ↔ o.length = k ∧ o.Nodup ∧ ∀ x ∈ o, x < m := by
  intro k
  induction k generalizing o with
  | zero =>
    unfold ordN
    rw [List.mem_singleton]
    constructor
    · rintro rfl; exact ⟨rfl, List.nodup_nil, fun _ h => nomatch h⟩
    · rintro ⟨h, _⟩; exact List.length_eq_zero_iff.mp h
  | succ k ih =>
    unfold ordN
    rw [List.mem_flatMap]
    constructor
    · rintro ⟨p, hp, ho⟩
      obtain ⟨i, hi, rfl⟩ := List.mem_map.mp ho
      obtain ⟨hi1, hi2⟩ := List.mem_filter.mp hi
      obtain ⟨h1, h2, h3⟩ := ih.mp hp
      have hn : i ∉ p := by simpa using hi2
      refine ⟨by rw [List.length_append, h1]; rfl, ?_, ?_⟩
      · rw [List.nodup_append]
        refine ⟨h2, by simp, fun a ha b hb e => ?_⟩
        rw [List.mem_singleton.mp hb] at e
        exact hn (e ▸ ha)
      · intro x hx
        rcases List.mem_append.mp hx with h | h
        · exact h3 x h
        · rw [List.mem_singleton.mp h]; exact List.mem_range.mp hi1
    · rintro ⟨h1, h2, h3⟩
      have hne : o ≠ [] := fun e => by rw [e] at h1; cases h1
      have e := List.dropLast_concat_getLast hne
      have h2' := h2
      rw [← e, List.nodup_append] at h2'
      refine ⟨o.dropLast, ih.mpr ⟨by rw [List.length_dropLast]; omega, h2'.1, fun x hx => h3 x ((List.dropLast_sublist o).subset hx)⟩, ?_⟩
      refine List.mem_map.mpr ⟨o.getLast hne, List.mem_filter.mpr ⟨List.mem_range.mpr (h3 _ (List.getLast_mem hne)), ?_⟩, e⟩
      have : o.getLast hne ∉ o.dropLast := fun hm => h2'.2.2 _ hm _ List.mem_cons_self rfl
      simpa using this
theorem pigeon : ∀ {m : Nat} {o : List Nat}, o.Nodup → (∀ x ∈ o, x < m) → o.length ≤ m
  | 0, [], _, _ => Nat.le_refl _
  | 0, x :: r, _, h => absurd (h x List.mem_cons_self) (Nat.not_lt_zero _)
  | m + 1, o, nd, h => by
    have h1 := pigeon (m := m) (nd.erase m) fun x hx => by
      have := h x (List.mem_of_mem_erase hx)
      have hne : x ≠ m := ((nd.mem_erase_iff).mp hx).1
      omega
    have h2 : o.length ≤ (o.erase m).length + 1 := by
      by_cases hm : m ∈ o
      · rw [List.length_erase_of_mem hm]; omega
      · rw [List.erase_of_not_mem hm]; omega
    omega
theorem perm_of : ∀ {m : Nat} {o : List Nat}, o.length = m → o.Nodup → (∀ x ∈ o, x < m) → o.Perm (List.range m)
  | 0, o, h, _, _ => by rw [List.length_eq_zero_iff.mp h]; exact .refl _
  | m + 1, o, hl, nd, h => by
    have hm : m ∈ o := by
      refine Classical.byContradiction fun hn => ?_
      have := pigeon (m := m) nd fun x hx => by
        have := h x hx
        have hne : x ≠ m := fun e => hn (e ▸ hx)
        omega
      omega
    have ih := perm_of (m := m) (o := o.erase m) (by rw [List.length_erase_of_mem hm]; omega) (nd.erase m) fun x hx => by
      have := h x (List.mem_of_mem_erase hx)
      have hne : x ≠ m := ((nd.mem_erase_iff).mp hx).1
      omega
    rw [List.range_succ]
    exact (List.perm_cons_erase hm).trans ((ih.cons m).trans (List.perm_append_singleton m _).symm)
theorem ord_perm {m : Nat} {o : List Nat} : o ∈ ordN m m ↔ o.Perm (List.range m) := by
  rw [ord_mem]
  constructor
  · rintro ⟨h1, h2, h3⟩
    exact perm_of h1 h2 h3
  · intro h
    exact ⟨by rw [h.length_eq, List.length_range], h.nodup_iff.mpr List.nodup_range, fun x hx => List.mem_range.mp (h.subset hx)⟩
end
end Bal

/-! BalE -/
set_option Elab.async false
set_option linter.all false
set_option maxRecDepth 100000
set_option maxHeartbeats 4000000
namespace Bal
open PySem Mi
section
variable {Gm : Cfg} {tab : Nat → Option Fn}
/-- a turn over what a list of numbers tells -/
theorem get_nD {l : List Nat} {i : Nat} {x : Itm} (h : ((l.map nD).map Itm.one)[i]? = some x) : ∃ j, l[i]? = some j ∧ x = .one (nD j) := by
  rw [List.getElem?_map, List.getElem?_map] at h
  cases q : l[i]? with
  | none => rw [q] at h; cases h
  | some j => rw [q] at h; cases h; exact ⟨j, rfl, rfl⟩
theorem get_oD {l : List (List Nat)} {i : Nat} {x : Itm} (h : ((l.map oD).map Itm.one)[i]? = some x) : ∃ o, l[i]? = some o ∧ x = .one (oD o) := by
  rw [List.getElem?_map, List.getElem?_map] at h
  cases q : l[i]? with
  | none => rw [q] at h; cases h
  | some j => rw [q] at h; cases h; exact ⟨j, rfl, rfl⟩
/-- the numbers that an order has not, put behind it -/
def stepG (o : List Nat) : Itm → Option D := fun it => match it with | .one (.int i) => if !decide (i.toNat ∈ o) then some (oD (o ++ [i.toNat])) else none | _ => none
theorem step_fm (m : Nat) (o : List Nat) : (((List.range m).map nD).map Itm.one).filterMap (stepG o) = (ordStep m o).map oD := by
  unfold ordStep
  rw [List.map_map, List.map_map]
  exact fm_filter fun i hi => rfl
def ordG (m : Nat) : Itm → Itm → Option D := fun x y => match x with | .one (.tup os) => stepG (os.map toN) y | _ => none
theorem ord_fm (m i : Nat) : (((ordN m i).map oD).map Itm.one).flatMap (fun x => (((List.range m).map nD).map Itm.one).filterMap (ordG m x)) = (ordN m (i + 1)).map oD := by
  show _ = ((ordN m i).flatMap (ordStep m)).map oD
  induction ordN m i with
  | nil => rfl
  | cons o r ih =>
    rw [List.map_cons, List.map_cons, List.flatMap_cons, List.flatMap_cons, List.map_append, ih]
    congr 1
    show (((List.range m).map nD).map Itm.one).filterMap (stepG ((o.map nD).map toN)) = _
    rw [toN_nD]
    exact step_fm m o
theorem orders_ok {j : Nat} (h : Has Gm tab j F_orders_of) (n : Nat) {m : Nat} (hm : m ≤ 5) : ∃ r o, phi Gm tab (n + 1) j [(false, .lst ((List.range m).map nD))] = some (r, o) ∧ (r = .o (.lst ((ordN m m).map oD)) ∨ r = .v (.lst ((ordN m m).map oD))) ∧ o = [] := by
  refine phi_ex h.1 rfl ?_
  show wB Gm (phi Gm tab n) [] F_orders_of.body [some (false, .lst ((List.range m).map nD)), none, none, none, none] _
  array_get_dec
  refine w_for rfl ?_
  array_get_dec
  refine ⟨fun i ρ => ∃ x2, ρ = [some (false, .lst ((List.range m).map nD)), some (false, .lst ((ordN m i).map oD)), x2, none, none], ⟨none, rfl⟩, ?_, ?_⟩
  · rintro i x _ hx ⟨x2, rfl⟩
    obtain ⟨j, hj, rfl⟩ := get_nD hx
    have hi : i < m := by have := (List.getElem?_eq_some_iff.mp hj).1; rwa [List.length_range] at this
    refine ⟨_, rfl, ?_⟩
    array_get_dec
    refine w_comp2P rfl ?_
    array_get_dec
    refine ⟨fun x => ((List.range m).map nD).map Itm.one, ordG m, fun x hx => ?_, ?_, ?_⟩
    · obtain ⟨d, hd, rfl⟩ := List.mem_map.mp hx
      obtain ⟨o, ho, rfl⟩ := List.mem_map.mp hd
      have hol : o.length = i := (ord_mem.mp ho).1
      refine ⟨_, rfl, ?_⟩
      array_get_dec
      refine ⟨rfl, fun y hy => ?_⟩
      obtain ⟨d, hd, rfl⟩ := List.mem_map.mp hy
      obtain ⟨k, hk, rfl⟩ := List.mem_map.mp hd
      refine ⟨_, rfl, ?_⟩
      array_get_dec
      refine ⟨_, _, _, rfl, rfl, nin_nT k o, ?_⟩
      array_get_dec
      refine ⟨fun hc => ?_, fun hc => ?_⟩
      · array_get_dec
        refine ⟨_, _, _, rfl, rfl, b_catT (Nat.le_trans (by rw [List.length_map, hol]; show i + 1 ≤ 10; omega) (by decide : 10 ≤ line)), ?_⟩
        array_get_dec
        refine ⟨_, _, rfl, ?_, rfl⟩
        show (if !decide (k ∈ (o.map nD).map toN) then some (oD ((o.map nD).map toN ++ [k])) else none) = some (D.tup (o.map nD ++ [nD k]))
        rw [toN_nD, if_pos hc]
        unfold oD
        rw [List.map_append]
        rfl
      · refine ⟨?_, rfl⟩
        show (if !decide (k ∈ (o.map nD).map toN) then some (oD ((o.map nD).map toN ++ [k])) else none) = none
        rw [toN_nD, if_neg (by rw [hc]; decide)]
    · have e := ord_fm m i
      refine Nat.le_trans (Nat.le_of_eq (congrArg List.length e)) ?_
      rw [List.length_map]
      exact Nat.le_trans (ord_len5 hm (by omega)) (by decide)
    · have e := ord_fm m i
      array_get_dec
      exact ⟨rfl, some (false, nD j), congrArg (fun z => [some (false, D.lst ((List.range m).map nD)), some (false, D.lst z), some (false, nD j), none, none]) e⟩
  · rintro _ ⟨x2, rfl⟩
    rw [List.length_map, List.length_map, List.length_range]
    array_get_dec
    exact ⟨.inr rfl, rfl⟩
theorem lorders_ok {j : Nat} (h : Has Gm tab j F__law_orders) (n : Nat) {m : Nat} (hm : m ≤ 5) : ∃ r o, phi Gm tab (n + 1) j [(false, nD m)] = some (r, o) ∧ (r = .o (.lst ((ordN m m).map oD)) ∨ r = .v (.lst ((ordN m m).map oD))) ∧ o = [] := by
  refine phi_ex h.1 rfl ?_
  show wB Gm (phi Gm tab n) [] F__law_orders.body [some (false, nD m), none, none, none, none, none] _
  array_get_dec
  refine w_for rfl ?_
  array_get_dec
  refine ⟨m, _, rfl, range_ok (by omega), ?_⟩
  refine ⟨fun i ρ => ∃ x2 x3 x4, ρ = [some (false, nD m), some (false, .lst ((ordN m i).map oD)), x2, x3, x4, none], ⟨none, none, none, rfl⟩, ?_, ?_⟩
  · rintro i x _ hx ⟨x2, x3, x4, rfl⟩
    obtain ⟨j, hj, rfl⟩ := get_nD (l := List.range m) hx
    have hi : i < m := by have := (List.getElem?_eq_some_iff.mp hj).1; rwa [List.length_range] at this
    refine ⟨_, rfl, ?_⟩
    array_get_dec
    refine ⟨Nat.le_of_ble_eq_true rfl, ?_⟩
    array_get_dec
    refine w_for rfl ?_
    array_get_dec
    refine ⟨fun k ρ => ∃ x4, ρ = [some (false, nD m), some (false, .lst ((ordN m i).map oD)), some (false, nD j), some (true, .lst ((((ordN m i).take k).flatMap (ordStep m)).map oD)), x4, none], ⟨x4, rfl⟩, ?_, ?_⟩
    · rintro k x _ hx ⟨x4, rfl⟩
      obtain ⟨o, ho, rfl⟩ := get_oD hx
      have hol : o.length = i := (ord_mem.mp (List.mem_of_getElem? ho)).1
      refine ⟨_, rfl, ?_⟩
      array_get_dec
      refine w_compP rfl ?_
      array_get_dec
      refine ⟨m, _, rfl, range_ok (by omega), ?_⟩
      refine ⟨stepG o, fun y hy => ?_, ?_⟩
      · obtain ⟨d, hd, rfl⟩ := List.mem_map.mp hy
        obtain ⟨k, hk, rfl⟩ := List.mem_map.mp hd
        refine ⟨_, rfl, ?_⟩
        array_get_dec
        refine ⟨_, _, _, rfl, rfl, nin_nT k o, ?_⟩
        array_get_dec
        refine ⟨fun hc => ?_, fun hc => ?_⟩
        · array_get_dec
          refine ⟨_, _, _, rfl, rfl, b_catT (Nat.le_trans (by rw [List.length_map, hol]; show i + 1 ≤ 10; omega) (by decide : 10 ≤ line)), ?_⟩
          array_get_dec
          refine ⟨_, _, rfl, ?_, rfl⟩
          show (if !decide (k ∈ o) then some (oD (o ++ [k])) else none) = some (D.tup (o.map nD ++ [nD k]))
          rw [if_pos hc]
          unfold oD
          rw [List.map_append]
          rfl
        · refine ⟨?_, rfl⟩
          show (if !decide (k ∈ o) then some (oD (o ++ [k])) else none) = none
          rw [if_neg (by rw [hc]; decide)]
      · rw [step_fm m o]
        have e : ((ordN m i).take (k + 1)).flatMap (ordStep m) = ((ordN m i).take k).flatMap (ordStep m) ++ ordStep m o := by
          rw [List.take_add_one, ho]
          simp
        have hz : ∀ k, (((ordN m i).take k).flatMap (ordStep m)).length ≤ 15625 := fun k => by
          refine Nat.le_trans flat_len ?_
          have h1 : ((ordN m i).take k).length ≤ 3125 := by rw [List.length_take]; exact Nat.le_trans (Nat.min_le_right _ _) (ord_len5 hm (by omega))
          have h2 := Nat.mul_le_mul hm h1
          omega
        array_get_dec
        refine ⟨_, _, _, (_, D.non), rfl, rfl, (by
          show (if _ then _ else _) = _
          rw [if_pos]
          rw [List.length_map, List.length_map, ← List.length_append, ← e]
          exact Nat.le_trans (hz _) (by decide)), ?_⟩
        array_get_dec
        exact ⟨rfl, some (false, oD o), congrArg (fun z => [some (false, nD m), some (false, .lst ((ordN m i).map oD)), some (false, nD j), some (true, D.lst z), some (false, oD o), none]) (by rw [e, List.map_append])⟩
    · rintro _ ⟨x4, rfl⟩
      rw [List.length_map, List.length_map, List.take_length]
      array_get_dec
      exact ⟨rfl, _, _, _, rfl⟩
  · rintro _ ⟨x2, x3, x4, rfl⟩
    rw [List.length_map, List.length_map, List.length_range]
    array_get_dec
    exact ⟨.inr rfl, rfl⟩
end
end Bal

/-! BalG -/
set_option Elab.async false
set_option linter.all false
set_option maxRecDepth 100000
set_option maxHeartbeats 4000000
namespace Bal
open PySem Mi
section
variable {Gm : Cfg} {tab : Nat → Option Fn}
def mar (rs : List (Int × List Nat)) (a b : Nat) : Int := over rs a b - over rs b a
def marRow (rs : List (Int × List Nat)) (m a : Nat) : D := .tup ((List.range m).map fun b => .int (mar rs a b))
def marD (rs : List (Int × List Nat)) (m : Nat) : D := .tup ((List.range m).map (marRow rs m))
theorem fm_range {m : Nat} {g : Nat → D} {f : Itm → Option D} (h : ∀ i, i < m → f (.one (nD i)) = some (g i)) : (((List.range m).map fun (i : Nat) => D.int (i : Int)).map Itm.one).filterMap f = (List.range m).map g := by
  rw [List.map_map]
  exact fm_all fun i hi => h i (List.mem_range.mp hi)
theorem margins_ok {j k : Nat} (hk : Has Gm tab k F_margin_rows) (h : Has Gm tab 12 F_for_one) (n : Nat) {rs : List (Int × List Nat)} {m : Nat} (hm : m ≤ 9) (hr : ∀ p ∈ rs, p.2.Perm (List.range m)) : phi Gm tab (n + 2) k [(false, .tup (rs.map rowD)), (false, nD m)] = some (.v (marD rs m), []) := of_ex (by
  refine phi_ex hk.1 rfl ?_
  show wB Gm (phi Gm tab (n + 1)) [] F_margin_rows.body [some (false, .tup (rs.map rowD)), some (false, nD m), none, none, none] _
  array_get_dec
  refine ⟨Nat.le_of_ble_eq_true rfl, ?_⟩
  array_get_dec
  refine w_for rfl ?_
  array_get_dec
  refine ⟨m, _, rfl, range_ok (by omega), ?_⟩
  refine ⟨fun i ρ => ∃ x3, ρ = [some (false, .tup (rs.map rowD)), some (false, nD m), some (true, .lst ((List.range i).map (marRow rs m))), x3, none], ⟨none, rfl⟩, ?_, ?_⟩
  · rintro i x _ hx ⟨x3, rfl⟩
    obtain ⟨a, ha, rfl⟩ := get_nD (l := List.range m) hx
    obtain ⟨hi, rfl⟩ : i < m ∧ a = i := by
      have hl := (List.getElem?_eq_some_iff.mp ha).1
      rw [List.length_range] at hl
      rw [List.getElem?_range hl] at ha
      exact ⟨hl, (Option.some.inj ha).symm⟩
    refine ⟨_, rfl, ?_⟩
    array_get_dec
    refine w_compP rfl ?_
    array_get_dec
    refine ⟨m, _, rfl, range_ok (by omega), ?_⟩
    refine ⟨fun it => match it with | .one (.int i) => some (.int (mar rs a i.toNat)) | _ => none, fun x hx => ?_, ?_⟩
    · obtain ⟨d, hd, rfl⟩ := List.mem_map.mp hx
      obtain ⟨b, hb, rfl⟩ := List.mem_map.mp hd
      have hb := List.mem_range.mp hb
      refine ⟨_, rfl, ?_⟩
      array_get_dec
      refine call_by h.2 rfl rfl (over_ok h n hr hi hb) rfl ?_
      array_get_dec
      refine call_by h.2 rfl rfl (over_ok h n hr hb hi) rfl ?_
      array_get_dec
      rfl
    · rw [fm_range (g := fun b => .int (mar rs a b)) fun i hi => rfl]
      array_get_dec
      refine ⟨_, _, _, _, rfl, rfl, m_app (Nat.lt_of_lt_of_le (by rw [List.length_map, List.length_range]; omega : _ < 1000) (by decide)), ?_⟩
      array_get_dec
      exact ⟨rfl, _, by rw [List.range_succ, List.map_append]; rfl⟩
  · rintro _ ⟨x3, rfl⟩
    rw [List.length_map, List.length_map, List.length_range]
    array_get_dec
    exact ⟨rfl, rfl⟩)
theorem lmargins_ok {j k : Nat} (hk : Has Gm tab k F__law_margins) (h : Has Gm tab 34 F__law_over) (n : Nat) {rs : List (Int × List Nat)} {m : Nat} (hm : m ≤ 9) (hr : ∀ p ∈ rs, p.2.Perm (List.range m)) : phi Gm tab (n + 2) k [(false, nD m), (false, .tup (rs.map rowD))] = some (.v (marD rs m), []) := of_ex (by
  refine phi_ex hk.1 rfl ?_
  show wB Gm (phi Gm tab (n + 1)) [] F__law_margins.body [some (false, nD m), some (false, .tup (rs.map rowD)), none, none, none] _
  array_get_dec
  refine ⟨Nat.le_of_ble_eq_true rfl, ?_⟩
  array_get_dec
  refine w_for rfl ?_
  array_get_dec
  refine ⟨m, _, rfl, range_ok (by omega), ?_⟩
  refine ⟨fun i ρ => ∃ x3, ρ = [some (false, nD m), some (false, .tup (rs.map rowD)), some (true, .lst ((List.range i).map (marRow rs m))), x3, none], ⟨none, rfl⟩, ?_, ?_⟩
  · rintro i x _ hx ⟨x3, rfl⟩
    obtain ⟨a, ha, rfl⟩ := get_nD (l := List.range m) hx
    obtain ⟨hi, rfl⟩ : i < m ∧ a = i := by
      have hl := (List.getElem?_eq_some_iff.mp ha).1
      rw [List.length_range] at hl
      rw [List.getElem?_range hl] at ha
      exact ⟨hl, (Option.some.inj ha).symm⟩
    refine ⟨_, rfl, ?_⟩
    array_get_dec
    refine w_compP rfl ?_
    array_get_dec
    refine ⟨m, _, rfl, range_ok (by omega), ?_⟩
    refine ⟨fun it => match it with | .one (.int i) => some (.int (mar rs a i.toNat)) | _ => none, fun x hx => ?_, ?_⟩
    · obtain ⟨d, hd, rfl⟩ := List.mem_map.mp hx
      obtain ⟨b, hb, rfl⟩ := List.mem_map.mp hd
      have hb := List.mem_range.mp hb
      refine ⟨_, rfl, ?_⟩
      array_get_dec
      refine call_by h.2 rfl rfl (over_ok h n hr hi hb) rfl ?_
      array_get_dec
      refine call_by h.2 rfl rfl (over_ok h n hr hb hi) rfl ?_
      array_get_dec
      rfl
    · rw [fm_range (g := fun b => .int (mar rs a b)) fun i hi => rfl]
      array_get_dec
      refine ⟨_, _, _, _, rfl, rfl, m_app (Nat.lt_of_lt_of_le (by rw [List.length_map, List.length_range]; omega : _ < 1000) (by decide)), ?_⟩
      array_get_dec
      exact ⟨rfl, _, by rw [List.range_succ, List.map_append]; rfl⟩
  · rintro _ ⟨x3, rfl⟩
    rw [List.length_map, List.length_map, List.length_range]
    array_get_dec
    exact ⟨rfl, rfl⟩)
theorem mar_get {rs : List (Int × List Nat)} {m a b : Nat} (ha : a < m) (hb : b < m) : ((List.range m).map (marRow rs m))[a]? = some (marRow rs m a) ∧ ((List.range m).map fun b => D.int (mar rs a b))[b]? = some (.int (mar rs a b)) := by
  constructor
  · rw [List.getElem?_map, List.getElem?_range ha]; rfl
  · rw [List.getElem?_map, List.getElem?_range hb]; rfl
/-- who beats all -/
def beats (rs : List (Int × List Nat)) (m a : Nat) : Bool := ((List.range m).filter fun b => !decide (b = a)).all fun b => decide (0 < mar rs a b)
theorem beats_iff {rs : List (Int × List Nat)} {m a : Nat} : beats rs m a = true ↔ ∀ b, b < m → b ≠ a → 0 < mar rs a b := by
  unfold beats
  rw [List.all_eq_true]
  constructor
  · intro h b hb hn
    exact of_decide_eq_true (h b (List.mem_filter.mpr ⟨List.mem_range.mpr hb, by simpa using hn⟩))
  · intro h b hb
    obtain ⟨h1, h2⟩ := List.mem_filter.mp hb
    exact decide_eq_true (h b (List.mem_range.mp h1) (by simpa using h2))
def topD (rs : List (Int × List Nat)) (m : Nat) : D := match ((List.range m).filter (beats rs m)).head? with
  | some a => nD a
  | none => .non
theorem beaterof_ok {k : Nat} (hk : Has Gm tab k F_beater_of) (h13 : Has Gm tab 13 F_margin_rows) (h : Has Gm tab 12 F_for_one) (n : Nat) {rs : List (Int × List Nat)} {m : Nat} (hm : m ≤ 9) (hr : ∀ p ∈ rs, p.2.Perm (List.range m)) : phi Gm tab (n + 3) k [(false, .tup (rs.map rowD)), (false, nD m)] = some (.v (topD rs m), []) := of_ex (by
  refine phi_ex hk.1 rfl ?_
  show wB Gm (phi Gm tab (n + 2)) [] F_beater_of.body [some (false, .tup (rs.map rowD)), some (false, nD m), none, none, none, none] _
  array_get_dec
  refine call_by h13.2 rfl rfl (margins_ok (j := 0) h13 h n hm hr) rfl ?_
  array_get_dec
  refine w_compP rfl ?_
  array_get_dec
  refine ⟨m, _, rfl, range_ok (by omega), ?_⟩
  refine ⟨fun it => match it with | .one (.int i) => if beats rs m i.toNat then some (.int i) else none | _ => none, fun x hx => ?_, ?_⟩
  · obtain ⟨d, hd, rfl⟩ := List.mem_map.mp hx
    obtain ⟨a, ha, rfl⟩ := List.mem_map.mp hd
    have ha := List.mem_range.mp ha
    refine ⟨_, rfl, ?_⟩
    array_get_dec
    refine w_compP rfl ?_
    array_get_dec
    refine ⟨m, _, rfl, range_ok (by omega), ?_⟩
    refine ⟨fun it => match it with | .one (.int i) => if !decide (i.toNat = a) then some (.bl (decide (0 < mar rs a i.toNat))) else none | _ => none, fun x hx => ?_, ?_⟩
    · obtain ⟨d, hd, rfl⟩ := List.mem_map.mp hx
      obtain ⟨b, hb, rfl⟩ := List.mem_map.mp hd
      have hb := List.mem_range.mp hb
      have e : (!decide ((b : Int) = (a : Int))) = !decide (b = a) := by rw [decide_eq_decide.mpr Int.ofNat_inj]
      refine ⟨_, rfl, ?_⟩
      array_get_dec
      refine ⟨fun hc => ?_, fun hc => ?_⟩
      · array_get_dec
        refine ⟨_, _, _, rfl, rfl, idx_t (mar_get (rs := rs) ha hb).1, ?_⟩
        array_get_dec
        refine ⟨_, _, _, rfl, rfl, idx_t (mar_get (rs := rs) ha hb).2, ?_⟩
        array_get_dec
        refine ⟨_, _, rfl, ?_, rfl⟩
        show (if !decide (b = a) then some (D.bl (decide (0 < mar rs a b))) else none) = _
        rw [if_pos (e.symm.trans hc)]
      · refine ⟨?_, rfl⟩
        show (if !decide (b = a) then some (D.bl (decide (0 < mar rs a b))) else none) = _
        rw [if_neg (fun z => absurd (hc.symm.trans (e.trans z)) (by decide))]
    · have e : (((List.range m).map fun (i : Nat) => D.int (i : Int)).map Itm.one).filterMap (fun it => match it with | .one (.int i) => if !decide (i.toNat = a) then some (D.bl (decide (0 < mar rs a i.toNat))) else none | _ => none) = ((List.range m).filter fun b => !decide (b = a)).map fun b => D.bl (decide (0 < mar rs a b)) := by
        rw [List.map_map]
        exact fm_filter fun i hi => rfl
      rw [e]
      array_get_dec
      refine ⟨_, _, rfl, all_map _ _, ?_⟩
      array_get_dec
      refine ⟨fun hc => ?_, fun hc => ?_⟩
      · array_get_dec
        refine ⟨_, _, rfl, ?_, rfl⟩
        show (if beats rs m a then some (nD a) else none) = _
        rw [if_pos (show beats rs m a = true from hc)]
      · refine ⟨?_, rfl⟩
        show (if beats rs m a then some (nD a) else none) = _
        rw [if_neg (by rw [show beats rs m a = false from hc]; decide)]
  · have e : (((List.range m).map fun (i : Nat) => D.int (i : Int)).map Itm.one).filterMap (fun it => match it with | .one (.int i) => if beats rs m i.toNat then some (D.int i) else none | _ => none) = ((List.range m).filter (beats rs m)).map nD := by
      rw [List.map_map]
      exact fm_filter fun i hi => rfl
    rw [e]
    unfold topD
    array_get_dec
    cases q : (List.range m).filter (beats rs m) with
    | nil =>
      array_get_dec
      exact ⟨rfl, rfl⟩
    | cons a r =>
      array_get_dec
      refine ⟨fun hc => ?_, fun hc => ?_⟩
      · array_get_dec
        refine ⟨_, _, _, rfl, rfl, idx_l (j := 0) (d := nD a) rfl, ?_⟩
        array_get_dec
        exact ⟨rfl, rfl⟩
      · have hc := of_decide_eq_false hc
        exact absurd (by rw [List.length_map, List.length_cons]; omega) hc)
theorem beater_ok {k : Nat} (hf : Gm.fields 10 = some (["many", "rows"] : List Str)) (hk : Has Gm tab k F_beater) (h14 : Has Gm tab 14 F_beater_of) (h13 : Has Gm tab 13 F_margin_rows) (h : Has Gm tab 12 F_for_one) (n : Nat) {rs : List (Int × List Nat)} {m : Nat} (hm : m ≤ 9) (hr : ∀ p ∈ rs, p.2.Perm (List.range m)) : phi Gm tab (n + 4) k [(false, bookD m rs)] = some (.v (topD rs m), []) := of_ex (by
  refine phi_ex hk.1 rfl ?_
  show wB Gm (phi Gm tab (n + 3)) [] F_beater.body [some (false, bookD m rs)] _
  array_get_dec
  refine ⟨_, _, rfl, attr_rows hf m rs, ?_⟩
  array_get_dec
  refine ⟨_, _, rfl, attr_many hf m rs, ?_⟩
  array_get_dec
  refine call_by h14.2 rfl rfl (beaterof_ok h14 h13 h n hm hr) rfl ?_
  array_get_dec
  exact ⟨rfl, rfl⟩)
/-! how many are against an order -/
def agF (f : Nat → Nat → Int) : List Nat → Int
  | [] => 0
  | a :: r => (r.map fun b => f b a).sum + agF f r
def agst (rs : List (Int × List Nat)) (o : List Nat) : Int := agF (over rs) o
theorem enum_get {l : List Nat} {i : Nat} {x : Itm} (h : (enumFrom 0 (l.map nD))[i]? = some x) : ∃ a, l[i]? = some a ∧ x = .two (nD i) (nD a) := by
  rw [enumFrom_get, List.getElem?_map] at h
  cases q : l[i]? with
  | none => rw [q] at h; cases h
  | some j => rw [q] at h; cases h; exact ⟨j, rfl, by rw [Nat.zero_add]⟩
theorem ag_drop {f : Nat → Nat → Int} {o : List Nat} {i a : Nat} (h : o[i]? = some a) : agF f (o.drop i) = ((o.drop (i + 1)).map fun b => f b a).sum + agF f (o.drop (i + 1)) := by
  obtain ⟨hl, e⟩ := List.getElem?_eq_some_iff.mp h
  rw [List.drop_eq_getElem_cons hl, e]
  rfl
theorem against_ok {k : Nat} (hf : Gm.fields 10 = some (["many", "rows"] : List Str)) (hk : Has Gm tab k F_against) (h : Has Gm tab 12 F_for_one) (n : Nat) {rs : List (Int × List Nat)} {m : Nat} {o : List Nat} (hr : ∀ p ∈ rs, p.2.Perm (List.range m)) (ho : o.Perm (List.range m)) : phi Gm tab (n + 2) k [(false, bookD m rs), (false, oD o)] = some (.v (.int (agst rs o)), []) := of_ex (by
  have hlt : ∀ x ∈ o, x < m := fun x hx => List.mem_range.mp (ho.subset hx)
  refine phi_ex hk.1 rfl ?_
  show wB Gm (phi Gm tab (n + 1)) [] F_against.body [some (false, bookD m rs), some (false, oD o), none, none, none, none] _
  array_get_dec
  refine w_for rfl ?_
  array_get_dec
  refine ⟨fun i ρ => ∃ acc x3 x4, ρ = [some (false, bookD m rs), some (false, oD o), some (false, .int acc), x3, x4, none] ∧ acc + agF (over rs) (o.drop i) = agst rs o, ⟨0, none, none, rfl, by rw [Int.zero_add]; rfl⟩, ?_, ?_⟩
  · rintro i x _ hx ⟨acc, x3, x4, rfl, hacc⟩
    obtain ⟨a, ha, rfl⟩ := enum_get hx
    have am := hlt a (List.mem_of_getElem? ha)
    refine ⟨_, rfl, ?_⟩
    array_get_dec
    refine w_augA (by decide) rfl ?_
    array_get_dec
    refine w_compP rfl ?_
    array_get_dec
    have c1 : cut (o.map nD) (some ((i : Int) + 1)) none = (o.drop (i + 1)).map nD := by rw [List.map_drop]; exact cut_from (k := i + 1)
    refine ⟨fun it => match it with | .one (.int i) => some (.int (over rs i.toNat a)) | _ => none, fun x hx => ?_, ?_⟩
    · rw [c1] at hx
      obtain ⟨d, hd, rfl⟩ := List.mem_map.mp hx
      obtain ⟨b, hb, rfl⟩ := List.mem_map.mp hd
      have bm := hlt b (List.mem_of_mem_drop hb)
      refine ⟨_, rfl, ?_⟩
      array_get_dec
      refine ⟨_, _, rfl, attr_rows hf m rs, ?_⟩
      array_get_dec
      refine call_by h.2 rfl rfl (over_ok h n hr bm am) rfl ?_
      array_get_dec
      rfl
    · have e : ((((o.drop (i + 1)).map nD).map Itm.one).filterMap (fun it => match it with | .one (.int i) => some (D.int (over rs i.toNat a)) | _ => none)) = ((o.drop (i + 1)).map fun b => over rs b a).map D.int := by
        rw [List.map_map, List.map_map]
        exact fm_all fun b hb => rfl
      rw [c1, e]
      array_get_dec
      refine ⟨_, _, rfl, sum_ints _, ?_⟩
      array_get_dec
      refine ⟨rfl, _, _, _, rfl, ?_⟩
      rw [← hacc, ag_drop ha]
      omega
  · rintro _ ⟨acc, x3, x4, rfl, hacc⟩
    rw [enumFrom_len, List.length_map, List.drop_length] at hacc
    array_get_dec
    have : acc = agst rs o := by rw [← hacc]; show acc = acc + 0; omega
    exact ⟨by rw [this], rfl⟩)
end
end Bal

/-! BalM -/
set_option Elab.async false
set_option linter.all false
set_option maxRecDepth 100000
set_option maxHeartbeats 4000000
namespace Bal
open PySem Mi
/-! plain laws of counts -/
theorem sum_app (l r : List Int) : (l ++ r).sum = l.sum + r.sum := by
  induction l with
  | nil => simp
  | cons x t ih => rw [List.cons_append, List.sum_cons, List.sum_cons, ih]; omega
theorem ag_app (f : Nat → Nat → Int) (a : Nat) : ∀ l : List Nat, agF f (l ++ [a]) = agF f l + (l.map fun b => f a b).sum
  | [] => by simp [agF]
  | x :: r => by
    show ((r ++ [a]).map fun b => f b x).sum + agF f (r ++ [a]) = (r.map fun b => f b x).sum + agF f r + (f a x + (r.map fun b => f a b).sum)
    rw [ag_app f a r, List.map_append, sum_app]
    simp
    omega
theorem ag_rev (f : Nat → Nat → Int) : ∀ l : List Nat, agF f l.reverse = agF (fun a b => f b a) l
  | [] => rfl
  | x :: r => by
    rw [List.reverse_cons, ag_app, ag_rev f r]
    show _ = (r.map fun b => f x b).sum + agF (fun a b => f b a) r
    have : (r.reverse.map fun b => f x b).sum = (r.map fun b => f x b).sum := by
      rw [List.map_reverse]
      generalize r.map (fun b => f x b) = l
      induction l with
      | nil => rfl
      | cons y t ih => rw [List.reverse_cons, sum_app, ih, List.sum_cons]; simp; omega
    rw [this]
    omega
theorem ag_congr {f g : Nat → Nat → Int} : ∀ {l : List Nat}, (∀ a ∈ l, ∀ b ∈ l, f a b = g a b) → agF f l = agF g l
  | [], _ => rfl
  | x :: r, h => by
    show (r.map fun b => f b x).sum + agF f r = (r.map fun b => g b x).sum + agF g r
    rw [ag_congr fun a ha b hb => h a (List.mem_cons_of_mem _ ha) b (List.mem_cons_of_mem _ hb), List.map_congr_left fun b hb => h b (List.mem_cons_of_mem _ hb) x List.mem_cons_self]
theorem ag_two (f : Nat → Nat → Int) : ∀ l : List Nat, agF (fun a b => f a b + f a b) l = agF f l + agF f l
  | [] => rfl
  | x :: r => by
    show (r.map fun b => f b x + f b x).sum + agF (fun a b => f a b + f a b) r = ((r.map fun b => f b x).sum + agF f r) + ((r.map fun b => f b x).sum + agF f r)
    have : (r.map fun b => f b x + f b x).sum = (r.map fun b => f b x).sum + (r.map fun b => f b x).sum := by
      induction r with
      | nil => rfl
      | cons y t ih => simp only [List.map_cons, List.sum_cons, ih]; omega
    rw [ag_two f r, this]
    omega
theorem ag_swap (f : Nat → Nat → Int) (a b : Nat) (q : List Nat) : ∀ p : List Nat, agF f (p ++ a :: b :: q) - agF f (p ++ b :: a :: q) = f b a - f a b
  | [] => by
    show ((b :: q).map fun c => f c a).sum + ((q.map fun c => f c b).sum + agF f q) - (((a :: q).map fun c => f c b).sum + ((q.map fun c => f c a).sum + agF f q)) = _
    rw [List.map_cons, List.map_cons, List.sum_cons, List.sum_cons]
    omega
  | x :: p => by
    show ((p ++ a :: b :: q).map fun c => f c x).sum + agF f (p ++ a :: b :: q) - (((p ++ b :: a :: q).map fun c => f c x).sum + agF f (p ++ b :: a :: q)) = _
    have h := ag_swap f a b q p
    have : ((p ++ a :: b :: q).map fun c => f c x).sum = ((p ++ b :: a :: q).map fun c => f c x).sum := by
      simp only [List.map_append, List.map_cons, sum_app, List.sum_cons]
      omega
    omega
theorem ag_pos {f : Nat → Nat → Int} (h : ∀ a b, 0 ≤ f a b) : ∀ l : List Nat, 0 ≤ agF f l
  | [] => Int.le_refl _
  | x :: r => by
    show 0 ≤ (r.map fun b => f b x).sum + agF f r
    have h1 := ag_pos h r
    have h2 : 0 ≤ (r.map fun b => f b x).sum := by
      clear h1
      induction r with
      | nil => exact Int.le_refl _
      | cons y t ih => rw [List.map_cons, List.sum_cons]; have := h y x; omega
    omega
theorem ag_le {f : Nat → Nat → Int} {c : Nat} (h : ∀ a b, f a b ≤ c) : ∀ l : List Nat, agF f l ≤ (l.length * l.length * c : Nat)
  | [] => by simp [agF]
  | x :: r => by
    show (r.map fun b => f b x).sum + agF f r ≤ _
    have h1 := ag_le h r
    have h2 : (r.map fun b => f b x).sum ≤ (r.length * c : Nat) := by
      clear h1
      induction r with
      | nil => simp
      | cons y t ih => rw [List.map_cons, List.sum_cons, List.length_cons, Nat.succ_mul]; have := h y x; omega
    have h3 : (r.length + 1) * (r.length + 1) * c = r.length * r.length * c + r.length * c + (r.length + 1) * c := by
      simp only [Nat.add_mul, Nat.mul_add, Nat.one_mul, Nat.mul_one]
    have h4 : r.length * c ≤ r.length * c + (r.length + 1) * c := Nat.le_add_right _ _
    rw [List.length_cons, h3]
    omega
theorem over_pos {rs : List (Int × List Nat)} (h : ∀ p ∈ rs, 1 ≤ p.1) (a b : Nat) : 0 ≤ over rs a b := by
  unfold over
  induction rs with
  | nil => exact Int.le_refl _
  | cons p r ih =>
    have i := ih fun q hq => h q (List.mem_cons_of_mem _ hq)
    rw [List.filter_cons]
    split
    · rw [List.map_cons, List.sum_cons]; have := h p List.mem_cons_self; omega
    · exact i
theorem over_le {rs : List (Int × List Nat)} (h : ∀ p ∈ rs, 1 ≤ p.1 ∧ p.1 ≤ 99) (a b : Nat) : over rs a b ≤ (rs.length * 99 : Nat) := by
  unfold over
  induction rs with
  | nil => exact Int.le_refl _
  | cons p r ih =>
    have i := ih fun q hq => h q (List.mem_cons_of_mem _ hq)
    have := h p List.mem_cons_self
    rw [List.filter_cons, List.length_cons]
    split
    · rw [List.map_cons, List.sum_cons]; omega
    · omega
theorem over_app (rs ts : List (Int × List Nat)) (a b : Nat) : over (rs ++ ts) a b = over rs a b + over ts a b := by
  unfold over
  rw [List.filter_append, List.map_append, sum_app]
def turnR (rs : List (Int × List Nat)) : List (Int × List Nat) := rs.map fun p => (p.1, p.2.reverse)
theorem idx_rev {a : Nat} : ∀ {l : List Nat}, l.Nodup → a ∈ l → l.reverse.idxOf a + l.idxOf a + 1 = l.length
  | x :: r, nd, h => by
    obtain ⟨hx, nd'⟩ := List.nodup_cons.mp nd
    rw [List.reverse_cons, List.length_cons]
    by_cases e : x = a
    · subst e
      rw [List.idxOf_cons_self, List.idxOf_append, if_neg (by simpa using hx), List.idxOf_cons_self, List.length_reverse]
      omega
    · have hr : a ∈ r := by simpa [Ne.symm e] using h
      have i := idx_rev nd' hr
      rw [List.idxOf_append, if_pos (by simpa using hr), List.idxOf_cons, show (x == a) = false by simpa using e]
      simp only [cond_false]
      omega
theorem over_turn {rs : List (Int × List Nat)} {m : Nat} (hr : ∀ p ∈ rs, p.2.Perm (List.range m)) {a b : Nat} (ha : a < m) (hb : b < m) : over (turnR rs) a b = over rs b a := by
  unfold over turnR
  induction rs with
  | nil => rfl
  | cons p r ih =>
    have i := ih fun q hq => hr q (List.mem_cons_of_mem _ hq)
    have hp := hr p List.mem_cons_self
    have nd : p.2.Nodup := hp.nodup_iff.mpr List.nodup_range
    have r1 := idx_rev nd (hp.symm.subset (List.mem_range.mpr ha))
    have r2 := idx_rev nd (hp.symm.subset (List.mem_range.mpr hb))
    have e : before a b p.2.reverse = before b a p.2 := by
      unfold before
      exact decide_eq_decide.mpr (by omega)
    rw [List.map_cons, List.filter_cons, List.filter_cons]
    rw [show before a b (p.1, p.2.reverse).2 = before b a p.2 from e]
    split
    · rw [List.map_cons, List.map_cons, List.sum_cons, List.sum_cons, i]
    · exact i
theorem agst_turn {rs : List (Int × List Nat)} {m : Nat} (hr : ∀ p ∈ rs, p.2.Perm (List.range m)) {o : List Nat} (ho : o.Perm (List.range m)) : agst (turnR rs) o = agst rs o.reverse := by
  have hlt : ∀ x ∈ o, x < m := fun x hx => List.mem_range.mp (ho.subset hx)
  unfold agst
  rw [ag_rev]
  exact ag_congr fun a ha b hb => over_turn hr (hlt a ha) (hlt b hb)
theorem agst_twice (rs : List (Int × List Nat)) (o : List Nat) : agst (rs ++ rs) o = 2 * agst rs o := by
  unfold agst
  have : over (rs ++ rs) = fun a b => over rs a b + over rs a b := funext fun a => funext fun b => over_app rs rs a b
  rw [this, ag_two]
  omega
end Bal

/-! BalN -/
set_option Elab.async false
set_option linter.all false
set_option maxRecDepth 100000
set_option maxHeartbeats 4000000
namespace Bal
open PySem Mi
/-! the least of what is against, with its order -/
def oP (o : List Nat) : PyData := .tuple (o.map fun (i : Nat) => .int (i : Int))
def pairP (rs : List (Int × List Nat)) (o : List Nat) : PyData := .tuple [.int (agst rs o), oP o]
def pairD (rs : List (Int × List Nat)) (o : List Nat) : D := .tup [.int (agst rs o), oD o]
theorem toPys_nD : ∀ l : List Nat, toPys (l.map nD) = some (l.map fun (i : Nat) => .int (i : Int))
  | [] => rfl
  | x :: r => by rw [List.map_cons]; unfold toPys; rw [toPys_nD r]; rfl
theorem toPy_oD (o : List Nat) : toPy (oD o) = some (oP o) := by
  unfold oD toPy
  rw [toPys_nD]
  rfl
theorem toPy_pair (rs : List (Int × List Nat)) (o : List Nat) : toPy (pairD rs o) = some (pairP rs o) := by
  show (toPys [.int (agst rs o), oD o]).map _ = _
  unfold toPys toPys toPys
  rw [toPy_oD]
  rfl
theorem toPys_pairs (rs : List (Int × List Nat)) : ∀ l : List (List Nat), toPys (l.map (pairD rs)) = some (l.map (pairP rs))
  | [] => rfl
  | x :: r => by rw [List.map_cons]; unfold toPys; rw [toPys_pairs rs r, toPy_pair]; rfl
theorem ofPys_ints : ∀ l : List Nat, ofPys (l.map fun (i : Nat) => .int (i : Int)) = l.map nD
  | [] => rfl
  | x :: r => by rw [List.map_cons]; unfold ofPys; rw [ofPys_ints r]; rfl
theorem ofPy_pair (rs : List (Int × List Nat)) (o : List Nat) : ofPy (pairP rs o) = pairD rs o := by
  show D.tup [D.int (agst rs o), D.tup (ofPys (o.map fun (i : Nat) => .int (i : Int)))] = _
  rw [ofPys_ints]
  rfl
theorem pl_oD (o : List Nat) : pl (oD o) = true ∧ dpt (oD o) = 1 := by
  unfold oD
  unfold pl dpt
  rw [(pl_nD o).1, (pl_nD o).2]
  exact ⟨rfl, rfl⟩
theorem pl_pair (rs : List (Int × List Nat)) (o : List Nat) : pl (pairD rs o) = true ∧ dpt (pairD rs o) = 2 := by
  unfold pairD
  simp only [pl, pls, dpt, dpts, (pl_oD o).1, (pl_oD o).2]
  exact ⟨rfl, rfl⟩
theorem pl_pairs (rs : List (Int × List Nat)) : ∀ l : List (List Nat), pls (l.map (pairD rs)) = true ∧ dpts (l.map (pairD rs)) ≤ 2
  | [] => ⟨rfl, Nat.zero_le _⟩
  | x :: r => by
    rw [List.map_cons]
    unfold pls dpts
    rw [(pl_pairs rs r).1, (pl_pair rs x).1, (pl_pair rs x).2]
    exact ⟨rfl, Nat.max_le.mpr ⟨Nat.le_refl _, (pl_pairs rs r).2⟩⟩
theorem alike_ints : ∀ a b : List Nat, PySem.W.alikeAll (a.map fun (i : Nat) => .int (i : Int)) (b.map fun (i : Nat) => .int (i : Int)) = true
  | [], _ => by rw [List.map_nil]; unfold PySem.W.alikeAll; rfl
  | x :: r, [] => by rw [List.map_nil, List.map_cons]; unfold PySem.W.alikeAll; rfl
  | x :: r, y :: t => by
    rw [List.map_cons, List.map_cons]
    unfold PySem.W.alikeAll PySem.W.alike
    rw [alike_ints r t]
    rfl
theorem alike_pair (rs : List (Int × List Nat)) (a b : List Nat) : PySem.W.alike (pairP rs a) (pairP rs b) = true := by
  show PySem.W.alikeAll [_, oP a] [_, oP b] = true
  unfold PySem.W.alikeAll PySem.W.alike
  unfold PySem.W.alikeAll
  show (true && (PySem.W.alikeAll (a.map fun (i : Nat) => .int (i : Int)) (b.map fun (i : Nat) => .int (i : Int)) && PySem.W.alikeAll [] [])) = true
  rw [alike_ints]
  unfold PySem.W.alikeAll
  rfl
theorem alike_pairs (rs : List (Int × List Nat)) (l : List (List Nat)) : alikeB (l.map (pairP rs)) = true := by
  unfold alikeB
  rw [Bool.and_eq_true, List.all_eq_true, List.all_eq_true]
  constructor
  · intro x hx
    obtain ⟨a, _, rfl⟩ := List.mem_map.mp hx
    rw [List.all_eq_true]
    intro y hy
    obtain ⟨b, _, rfl⟩ := List.mem_map.mp hy
    exact alike_pair rs a b
  · intro x hx
    obtain ⟨a, _, rfl⟩ := List.mem_map.mp hx
    rfl
def ltO (rs : List (Int × List Nat)) (a b : List Nat) : Bool := PySem.W.dataLt (pairP rs a) (pairP rs b)
def bestO (rs : List (Int × List Nat)) : List (List Nat) → List Nat
  | [] => []
  | x :: r => r.foldl (fun a y => if ltO rs y a then y else a) x
theorem minD_pairs (rs : List (Int × List Nat)) : ∀ (r : List (List Nat)) (x : List Nat), PySem.W.minD (pairP rs x) (r.map (pairP rs)) = pairP rs (bestO rs (x :: r))
  | [], x => rfl
  | y :: r, x => by
    have h := minD_pairs rs r (if ltO rs y x then y else x)
    show PySem.W.minD (if PySem.W.dataLt (pairP rs y) (pairP rs x) then pairP rs y else pairP rs x) (r.map (pairP rs)) = pairP rs (bestO rs ((if ltO rs y x then y else x) :: r))
    rw [← h]
    unfold ltO
    split <;> rfl
theorem min_pairs (rs : List (Int × List Nat)) {l : List (List Nat)} (h : l ≠ []) : bltD .min [.lst (l.map (pairD rs))] = some (.v (pairD rs (bestO rs l))) := by
  cases l with
  | nil => exact absurd rfl h
  | cons x r =>
    show leastD minI PySem.W.minD (.lst ((x :: r).map (pairD rs))) = _
    have e : leastD minI PySem.W.minD (.lst ((x :: r).map (pairD rs))) = bestG PySem.W.minD (.lst ((x :: r).map (pairD rs))) := rfl
    rw [e]
    show (toPys ((x :: r).map (pairD rs))).bind _ = _
    obtain ⟨xs, e1, _, d1⟩ := pls_py (pl_pairs rs (x :: r)).1
    have e2 := toPys_pairs rs (x :: r)
    rw [e2] at e1
    have e3 := Option.some.inj e1
    subst e3
    rw [e2]
    show (if alikeB ((x :: r).map (pairP rs)) = true ∧ PyData.depthAll ((x :: r).map (pairP rs)) ≤ 60 then some (R.v (ofPy (PySem.W.minD (pairP rs x) (r.map (pairP rs))))) else none) = _
    rw [if_pos ⟨alike_pairs rs _, by rw [d1]; exact Nat.le_trans (pl_pairs rs _).2 (by decide)⟩, minD_pairs, ofPy_pair]
/-- the count first -/
theorem lt_pair (c1 c2 : Int) (t1 t2 : PyData) : PySem.W.dataLt (.tuple [.int c1, t1]) (.tuple [.int c2, t2]) = (decide (c1 < c2) || (!decide (c2 < c1) && PyProof.Rows.lexLt PyProof.Rows.itemOrd (PySem.W.keyToksAll [t1]) (PySem.W.keyToksAll [t2]))) := by
  unfold PySem.W.dataLt PySem.W.keyToks
  have e : ∀ (c : Int) (t : PyData), PySem.W.keyToksAll [.int c, t] = .inl 1 :: .inl c :: PySem.W.keyToksAll [t] := fun c t => by
    rw [PySem.W.keyToksAll, PySem.W.keyToks]
    rfl
  rw [e, e]
  rw [PyProof.Rows.lex_self (O := PyProof.Rows.itemOrd) (.inl 1), PyProof.Rows.lex_cons (O := PyProof.Rows.itemOrd)]
  rfl
theorem lt_le {rs : List (Int × List Nat)} {a b : List Nat} : (ltO rs a b = true → agst rs a ≤ agst rs b) ∧ (ltO rs a b = false → agst rs b ≤ agst rs a) := by
  unfold ltO pairP
  rw [lt_pair]
  constructor
  · intro h
    refine Classical.byContradiction fun hn => ?_
    rw [decide_eq_false (show ¬ agst rs a < agst rs b by omega), decide_eq_true (show agst rs b < agst rs a by omega)] at h
    cases h
  · intro h
    refine Classical.byContradiction fun hn => ?_
    rw [decide_eq_true (show agst rs a < agst rs b by omega)] at h
    cases h
theorem lt_twice (rs : List (Int × List Nat)) (a b : List Nat) : ltO (rs ++ rs) a b = ltO rs a b := by
  unfold ltO pairP
  rw [lt_pair, lt_pair, agst_twice, agst_twice]
  congr 1
  · exact decide_eq_decide.mpr (by omega)
  · congr 2
    exact decide_eq_decide.mpr (by omega)
theorem best_twice (rs : List (Int × List Nat)) (l : List (List Nat)) : bestO (rs ++ rs) l = bestO rs l := by
  have : ltO (rs ++ rs) = ltO rs := funext fun a => funext fun b => lt_twice rs a b
  cases l with
  | nil => rfl
  | cons x r => unfold bestO; rw [this]
theorem best_spec (rs : List (Int × List Nat)) : ∀ (r : List (List Nat)) (x : List Nat), bestO rs (x :: r) ∈ x :: r ∧ ∀ y ∈ x :: r, agst rs (bestO rs (x :: r)) ≤ agst rs y
  | [], x => ⟨List.mem_cons_self, fun y hy => by rw [List.mem_singleton.mp hy]; exact Int.le_refl _⟩
  | y :: r, x => by
    show bestO rs ((if ltO rs y x then y else x) :: r) ∈ _ ∧ ∀ z ∈ x :: y :: r, agst rs (bestO rs ((if ltO rs y x then y else x) :: r)) ≤ agst rs z
    obtain ⟨h1, h2⟩ := best_spec rs r (if ltO rs y x then y else x)
    have hz := h2 _ List.mem_cons_self
    have l := lt_le (rs := rs) (a := y) (b := x)
    constructor
    · rcases List.mem_cons.mp h1 with h | h
      · rw [h]; split
        · exact List.mem_cons_of_mem _ List.mem_cons_self
        · exact List.mem_cons_self
      · exact List.mem_cons_of_mem _ (List.mem_cons_of_mem _ h)
    · intro z hzm
      rcases List.mem_cons.mp hzm with rfl | hzm
      · refine Int.le_trans hz ?_
        split
        · exact l.1 ‹_›
        · exact Int.le_refl _
      · rcases List.mem_cons.mp hzm with rfl | hzm
        · refine Int.le_trans hz ?_
          split
          · exact Int.le_refl _
          · exact l.2 (Bool.eq_false_iff.mpr ‹¬ _›)
        · exact h2 z (List.mem_cons_of_mem _ hzm)
def nearO (rs : List (Int × List Nat)) (m : Nat) : List Nat := bestO rs (ordN m m)
theorem ord_ne (m : Nat) : ordN m m ≠ [] := fun e => by
  have : List.range m ∈ ordN m m := ord_perm.mpr (.refl _)
  rw [e] at this
  cases this
theorem near_spec (rs : List (Int × List Nat)) (m : Nat) : (nearO rs m).Perm (List.range m) ∧ ∀ o : List Nat, o.Perm (List.range m) → agst rs (nearO rs m) ≤ agst rs o := by
  unfold nearO
  have h := ord_ne m
  have key : ∀ l, l ≠ [] → bestO rs l ∈ l ∧ ∀ y ∈ l, agst rs (bestO rs l) ≤ agst rs y := fun l hl => by
    cases l with
    | nil => exact absurd rfl hl
    | cons x r => exact best_spec rs r x
  obtain ⟨h1, h2⟩ := key _ h
  exact ⟨ord_perm.mp h1, fun o ho => h2 o (ord_perm.mpr ho)⟩
section
variable {Gm : Cfg} {tab : Nat → Option Fn}
def pairF (rs : List (Int × List Nat)) : Itm → Option D := fun it => match it with | .one (.tup os) => some (pairD rs (os.map toN)) | _ => none
theorem fm_pairs {rs : List (Int × List Nat)} : ∀ {l : List (List Nat)}, ((l.map oD).map Itm.one).filterMap (pairF rs) = l.map (pairD rs)
  | [] => rfl
  | o :: r => by
    rw [List.map_cons, List.map_cons, List.filterMap_cons, fm_pairs]
    show pairD rs ((o.map nD).map toN) :: _ = _
    rw [toN_nD]
    rfl
theorem nearest_ok {k : Nat} (hf : Gm.fields 10 = some (["many", "rows"] : List Str)) (hk : Has Gm tab k F_nearest) (h32 : Has Gm tab 32 F_orders_of) (h26 : Has Gm tab 26 F_against) (h : Has Gm tab 12 F_for_one) (n : Nat) {rs : List (Int × List Nat)} {m : Nat} (hm : m ≤ 5) (hr : ∀ p ∈ rs, p.2.Perm (List.range m)) : phi Gm tab (n + 3) k [(false, bookD m rs)] = some (.v (pairD rs (nearO rs m)), []) := of_ex (by
  refine phi_ex hk.1 rfl ?_
  show wB Gm (phi Gm tab (n + 2)) [] F_nearest.body [some (false, bookD m rs), none] _
  array_get_dec
  refine w_compP rfl ?_
  array_get_dec
  refine ⟨_, _, rfl, attr_many hf m rs, ?_⟩
  array_get_dec
  refine ⟨m, _, rfl, range_ok (by omega), ?_⟩
  array_get_dec
  obtain ⟨r, o, e, hro, rfl⟩ := orders_ok h32 (n + 1) hm
  refine call_by h32.2 rfl rfl e rfl ?_
  have key : ∀ x ∈ ((ordN m m).map oD).map Itm.one, ∃ ρ3, setItm (Tg.var 1) x (wipeE [some (false, bookD m rs), none] [1]) = some ρ3 ∧ wT Gm (phi Gm tab (n + 2)) .yes ρ3 fun k ρ4 => (k = true → wE Gm (phi Gm tab (n + 2)) (.tup (.cons (.call 26 (.cons (.var 0) (.cons (.var 1) .nil))) (.cons (.var 1) .nil))) ρ4 fun r ρ5 => ∃ y ρ6, freeze r ρ5 = some (y, ρ6) ∧ (pairF rs) x = some y ∧ back [some (false, bookD m rs), none] ρ6 [1] = [some (false, bookD m rs), none]) ∧ (k = false → (pairF rs) x = none ∧ back [some (false, bookD m rs), none] ρ4 [1] = [some (false, bookD m rs), none]) := by
    intro x hx
    obtain ⟨d, hd, rfl⟩ := List.mem_map.mp hx
    obtain ⟨o, ho, rfl⟩ := List.mem_map.mp hd
    refine ⟨_, rfl, ?_⟩
    array_get_dec
    refine call_by h26.2 rfl rfl (against_ok hf h26 h n hr (ord_perm.mp ho)) rfl ?_
    array_get_dec
    refine ⟨_, _, rfl, ?_, rfl⟩
    show some (pairD rs ((o.map nD).map toN)) = _
    rw [toN_nD]
    rfl
  rcases hro with rfl | rfl
  · array_get_dec
    refine ⟨_, key, ?_⟩
    rw [fm_pairs]
    array_get_dec
    refine ⟨_, _, rfl, min_pairs rs (ord_ne m), ?_⟩
    array_get_dec
    exact ⟨rfl, rfl⟩
  · array_get_dec
    refine ⟨_, key, ?_⟩
    rw [fm_pairs]
    array_get_dec
    refine ⟨_, _, rfl, min_pairs rs (ord_ne m), ?_⟩
    array_get_dec
    exact ⟨rfl, rfl⟩)
end
end Bal

/-! BalP -/
set_option Elab.async false
set_option linter.all false
set_option maxRecDepth 100000
set_option maxHeartbeats 4000000
namespace Bal
open PySem Mi
/-! what repr takes -/
mutual
def sml : D → Bool
  | .non => true | .bl _ => true
  | .int i => decide (i.natAbs < 10 ^ 12)
  | .str s => s.cps.toList.all fun c => decide (c < 16 ^ 8)
  | .tup l => smls l
  | .lst l => smls l
  | _ => false
def smls : List D → Bool
  | [] => true
  | d :: r => sml d && smls r
end
mutual
def blk : D → Nat
  | .str s => s.cps.size
  | .tup l => blks l
  | .lst l => blks l
  | _ => 0
def blks : List D → Nat
  | [] => 0
  | d :: r => blk d + 1 + blks r
end
mutual
theorem sml_py : ∀ {d : D}, sml d = true → ∃ x, toPy d = some x ∧ x.leavesShort 13 = true ∧ x.showable = true ∧ x.depth = dpt d ∧ x.bulk = blk d
  | .non, _ => ⟨.none, rfl, rfl, rfl, rfl, rfl⟩
  | .bl b, _ => ⟨.bool b, rfl, rfl, rfl, rfl, rfl⟩
  | .int i, h => by
    unfold sml at h
    have h := of_decide_eq_true h
    refine ⟨.int i, rfl, ?_, ?_, rfl, rfl⟩
    · simp only [PyData.leavesShort, decide_eq_true_eq]
      exact PyData.shown_int_le h
    · simp only [PyData.showable, decide_eq_true_eq]
      by_cases h0 : i.natAbs = 0
      · rw [h0]; decide
      · exact Nat.lt_trans ((Nat.log2_lt h0).mpr (Nat.lt_of_lt_of_le h (by decide : 10 ^ 12 ≤ 2 ^ 40))) (by decide)
  | .str s, h => by
    unfold sml at h
    refine ⟨.str s, rfl, ?_, rfl, rfl, rfl⟩
    simpa only [PyData.leavesShort] using h
  | .tup l, h => by
    unfold sml at h
    obtain ⟨xs, e, a, b, c, d⟩ := smls_py h
    exact ⟨.tuple xs, by simp [toPy, e], by simpa [PyData.leavesShort] using a, by simpa [PyData.showable] using b, by simp [PyData.depth, dpt, c], by simp [PyData.bulk, blk, d]⟩
  | .lst l, h => by
    unfold sml at h
    obtain ⟨xs, e, a, b, c, d⟩ := smls_py h
    exact ⟨.list xs, by simp [toPy, e], by simpa [PyData.leavesShort] using a, by simpa [PyData.showable] using b, by simp [PyData.depth, dpt, c], by simp [PyData.bulk, blk, d]⟩
  | .ty _, h => by unfold sml at h; cases h
  | .ins _ _ _, h => by unfold sml at h; cases h
  | .dct _ _, h => by unfold sml at h; cases h
  | .scr _, h => by unfold sml at h; cases h
theorem smls_py : ∀ {l : List D}, smls l = true → ∃ xs, toPys l = some xs ∧ PyData.leavesShortAll 13 xs = true ∧ PyData.showableAll xs = true ∧ PyData.depthAll xs = dpts l ∧ PyData.bulkAll xs = blks l
  | [], _ => ⟨[], rfl, rfl, rfl, rfl, rfl⟩
  | d :: r, h => by
    unfold smls at h
    rw [Bool.and_eq_true] at h
    obtain ⟨x, e1, a1, b1, c1, d1⟩ := sml_py h.1
    obtain ⟨xs, e2, a2, b2, c2, d2⟩ := smls_py h.2
    exact ⟨x :: xs, by simp [toPys, e1, e2], by simp [PyData.leavesShortAll, a1, a2], by simp [PyData.showableAll, b1, b2], by simp [PyData.depthAll, dpts, c1, c2], by simp [PyData.bulkAll, blks, d1, d2]⟩
end
theorem repr_ok {d : D} (h : sml d = true) (hd : dpt d ≤ 60) (hb : blk d ≤ 2 ^ 20) : ∃ s, reprD d = some s := by
  obtain ⟨x, e, a, b, c, k⟩ := sml_py h
  have key : (toPy d).bind (fun x => if x.showable = true ∧ x.depth ≤ 60 ∧ x.shown.length ≤ line then some x.shown else none) = some x.shown := by
    rw [e]
    show (if _ then _ else _) = _
    rw [if_pos ⟨b, by rw [c]; exact hd, PyData.shown_fits_bulk (by decide) (by decide) a (by rw [k]; exact hb)⟩]
  cases d with
  | dct ks vs => unfold sml at h; cases h
  | _ => exact ⟨_, key⟩
theorem sml_ints : ∀ {l : List Nat} {m : Nat}, m ≤ 1000 → (∀ x ∈ l, x < m) → smls (l.map nD) = true ∧ blks (l.map nD) = l.length
  | [], _, _, _ => ⟨rfl, rfl⟩
  | x :: r, m, hm, h => by
    obtain ⟨a, b⟩ := sml_ints hm fun y hy => h y (List.mem_cons_of_mem _ hy)
    have hx := h x List.mem_cons_self
    rw [List.map_cons]
    unfold smls blks sml blk
    rw [a, b, decide_eq_true (by show ((x : Nat) : Int).natAbs < 10 ^ 12; omega)]
    exact ⟨rfl, by rw [List.length_cons]; omega⟩
/-! two things, alike or not -/
mutual
def th : D → Bool
  | .non => true | .bl _ => true | .int _ => true | .str _ => true
  | .tup l => ths l
  | .lst l => ths l
  | .dct _ _ => true
  | _ => false
def ths : List D → Bool
  | [] => true
  | d :: r => th d && ths r
end
theorem ths_mem : ∀ {l : List D} {a : D}, ths l = true → a ∈ l → th a = true
  | d :: r, a, h, m => by
    unfold ths at h
    rw [Bool.and_eq_true] at h
    rcases List.mem_cons.mp m with z | z
    · subst z; exact h.1
    · exact ths_mem h.2 z
theorem zip_mem {k l : List D} {x : Itm} (h : x ∈ List.zipWith Itm.two k l) : ∃ a ∈ k, ∃ b ∈ l, x = .two a b := by
  induction k generalizing l with
  | nil => simp at h
  | cons a r ih =>
    cases l with
    | nil => simp at h
    | cons b t =>
      rw [List.zipWith_cons_cons] at h
      rcases List.mem_cons.mp h with z | z
      · exact ⟨a, List.mem_cons_self, b, List.mem_cons_self, z⟩
      · obtain ⟨c, hc, d, hd, e⟩ := ih z
        exact ⟨c, List.mem_cons_of_mem _ hc, d, List.mem_cons_of_mem _ hd, e⟩
open Classical in
noncomputable def sameF : Itm → Option D := fun it => match it with | .two x y => some (.bl (decide (x = y))) | _ => none
open Classical in
theorem same_eq {a b : D} {v : Bool} (hv : v = true ↔ a = b) : sameF (.two a b) = some (.bl v) := by
  show some (D.bl (decide (a = b))) = some (D.bl v)
  congr 2
  exact (Bool.eq_iff_iff.mpr (hv.trans (by simp))).symm
open Classical in
theorem zip_same : ∀ {k l : List D}, k.length = l.length → ∃ bs : List Bool, (List.zipWith Itm.two k l).filterMap sameF = bs.map .bl ∧ (bs.all id = true ↔ k = l)
  | [], [], _ => ⟨[], rfl, by simp⟩
  | x :: r, y :: t, h => by
    obtain ⟨bs, e1, e2⟩ := zip_same (k := r) (l := t) (by simpa using h)
    refine ⟨decide (x = y) :: bs, ?_, ?_⟩
    · rw [List.zipWith_cons_cons, List.filterMap_cons, e1]
      rfl
    · rw [List.all_cons, Bool.and_eq_true, e2]
      simp
theorem all_bls (bs : List Bool) : bltD .all [.lst (bs.map .bl)] = some (.v (.bl (bs.all id))) := by
  have h : blsD (bs.map .bl) = some bs := by
    induction bs with
    | nil => rfl
    | cons x r ih => show (blsD (r.map .bl)).map _ = _; rw [ih]; rfl
  show (blsD _).map _ = _
  rw [h]
  rfl
theorem isN_non : ∀ {t : D}, th t = true → isN t .non = some (match t with | .non => true | _ => false)
  | .non, _ => rfl | .bl _, _ => rfl | .int _, _ => rfl | .str _, _ => rfl | .tup _, _ => rfl | .lst _, _ => rfl | .dct _ _, _ => rfl
section
variable {Gm : Cfg} {tab : Nat → Option Fn} (B : BalS Gm tab)
include B
theorem is_gen : ∀ (n : Nat) {d t : D}, pl d = true → dpt d ≤ n → th t = true → ∃ r o, phi Gm tab (n + 1) 4 [(false, t), (false, d)] = some (r, o) ∧ ∃ b, r = .v (.bl b) ∧ o = [] ∧ (b = true ↔ t = d) := by
  intro n
  induction n with
  | zero =>
    intro d t hd hn ht
    refine phi_ex B.is.1 rfl ?_
    show wB Gm (phi Gm tab 0) [] F__law_is.body [some (false, t), some (false, d), none, none] _
    cases d with
    | non =>
      cases t with
      | non => array_get_dec; exact ⟨rfl, by simp⟩
      | _ => first | (array_get_dec; exact ⟨rfl, by simp⟩) | (unfold th at ht; cases ht)
    | int i =>
      cases t with
      | int j => array_get_dec; exact ⟨rfl, by simp⟩
      | _ => first | (array_get_dec; exact ⟨rfl, by simp⟩) | (unfold th at ht; cases ht)
    | tup l => unfold dpt at hn; omega
    | lst l => unfold dpt at hn; omega
    | _ => unfold pl at hd; cases hd
  | succ n ih =>
    intro d t hd hn ht
    refine phi_ex B.is.1 rfl ?_
    show wB Gm (phi Gm tab (n + 1)) [] F__law_is.body [some (false, t), some (false, d), none, none] _
    cases d with
    | non =>
      cases t with
      | non => array_get_dec; exact ⟨rfl, by simp⟩
      | _ => first | (array_get_dec; exact ⟨rfl, by simp⟩) | (unfold th at ht; cases ht)
    | int i =>
      cases t with
      | int j => array_get_dec; exact ⟨rfl, by simp⟩
      | _ => first | (array_get_dec; exact ⟨rfl, by simp⟩) | (unfold th at ht; cases ht)
    | tup l =>
      unfold pl at hd
      unfold dpt at hn
      cases t with
      | tup k =>
        unfold th at ht
        array_get_dec
        by_cases hl : k.length = l.length
        · obtain ⟨bs, e1, e2⟩ := zip_same hl
          refine ⟨fun _ => ?_, fun hc => absurd (of_decide_eq_false hc) (by omega)⟩
          array_get_dec
          refine w_compP rfl ?_
          array_get_dec
          refine ⟨_, _, _, _, _, rfl, rfl, rfl, ?_⟩
          refine ⟨sameF, fun x hx => ?_, ?_⟩
          · obtain ⟨a, ha, b, hb, rfl⟩ := zip_mem hx
            obtain ⟨pb, db⟩ := pls_mem hd hb
            refine ⟨_, rfl, ?_⟩
            array_get_dec
            obtain ⟨r, o, e, v, rfl, rfl, hv⟩ := ih pb (by omega) (ths_mem ht ha)
            refine call_by B.is.2 rfl rfl e rfl ?_
            array_get_dec
            refine ⟨_, _, rfl, ?_, rfl⟩
            exact same_eq hv
          · rw [e1]
            array_get_dec
            refine ⟨_, _, rfl, all_bls bs, ?_⟩
            array_get_dec
            exact ⟨rfl, by rw [e2]; simp⟩
        · refine ⟨fun hc => absurd (of_decide_eq_true hc) (by omega), fun _ => ?_⟩
          array_get_dec
          exact ⟨rfl, by simp; intro e; exact hl (congrArg List.length e)⟩
      | _ => first | (array_get_dec; exact ⟨rfl, by simp⟩) | (unfold th at ht; cases ht)
    | lst l =>
      unfold pl at hd
      unfold dpt at hn
      cases t with
      | lst k =>
        unfold th at ht
        array_get_dec
        by_cases hl : k.length = l.length
        · obtain ⟨bs, e1, e2⟩ := zip_same hl
          refine ⟨fun _ => ?_, fun hc => absurd (of_decide_eq_false hc) (by omega)⟩
          array_get_dec
          refine w_compP rfl ?_
          array_get_dec
          refine ⟨_, _, _, _, _, rfl, rfl, rfl, ?_⟩
          refine ⟨sameF, fun x hx => ?_, ?_⟩
          · obtain ⟨a, ha, b, hb, rfl⟩ := zip_mem hx
            obtain ⟨pb, db⟩ := pls_mem hd hb
            refine ⟨_, rfl, ?_⟩
            array_get_dec
            obtain ⟨r, o, e, v, rfl, rfl, hv⟩ := ih pb (by omega) (ths_mem ht ha)
            refine call_by B.is.2 rfl rfl e rfl ?_
            array_get_dec
            refine ⟨_, _, rfl, ?_, rfl⟩
            exact same_eq hv
          · rw [e1]
            array_get_dec
            refine ⟨_, _, rfl, all_bls bs, ?_⟩
            array_get_dec
            exact ⟨rfl, by rw [e2]; simp⟩
        · refine ⟨fun hc => absurd (of_decide_eq_true hc) (by omega), fun _ => ?_⟩
          array_get_dec
          exact ⟨rfl, by simp; intro e; exact hl (congrArg List.length e)⟩
      | _ => first | (array_get_dec; exact ⟨rfl, by simp⟩) | (unfold th at ht; cases ht)
    | _ => unfold pl at hd; cases hd
end
end Bal

/-! BalH -/
set_option Elab.async false
set_option linter.all false
set_option maxRecDepth 100000
set_option maxHeartbeats 4000000
namespace Bal
open PySem Mi
/-! lots that beat all outside -/
def Cl (rs : List (Int × List Nat)) (m : Nat) (P : Nat → Prop) : Prop := ∀ a b, a < m → b < m → P a → mar rs a b ≤ 0 → P b
open Classical in
noncomputable def cl (rs : List (Int × List Nat)) (m s : Nat) : List Nat := (List.range m).filter fun x => decide (∀ P : Nat → Prop, Cl rs m P → P s → P x)
open Classical in
theorem mem_cl {rs : List (Int × List Nat)} {m s x : Nat} : x ∈ cl rs m s ↔ x < m ∧ ∀ P : Nat → Prop, Cl rs m P → P s → P x := by
  unfold cl
  rw [List.mem_filter, List.mem_range, decide_eq_true_eq]
structure Dom (rs : List (Int × List Nat)) (m : Nat) (S : List Nat) : Prop where
  ne : S ≠ []
  lt : ∀ x ∈ S, x < m
  cl : Cl rs m (· ∈ S)
/-- ascending -/
def Asc (m : Nat) (S : List Nat) : Prop := S = (List.range m).filter fun x => decide (x ∈ S)
theorem asc_eq {m : Nat} {S T : List Nat} (hs : Asc m S) (ht : Asc m T) (h : ∀ x, x < m → (x ∈ S ↔ x ∈ T)) : S = T := by
  rw [hs, ht]
  refine List.filter_congr fun x hx => ?_
  have := h x (List.mem_range.mp hx)
  exact decide_eq_decide.mpr this
theorem asc_filter {m : Nat} (p : Nat → Bool) : Asc m ((List.range m).filter p) := by
  unfold Asc
  refine List.filter_congr fun x hx => ?_
  refine Bool.eq_iff_iff.mpr ?_
  rw [decide_eq_true_eq, List.mem_filter]
  exact ⟨fun h => ⟨hx, h⟩, fun h => h.2⟩
theorem asc_nodup {m : Nat} {S : List Nat} (h : Asc m S) : S.Nodup := by
  rw [h]; exact List.nodup_range.filter _
theorem cl_dom {rs : List (Int × List Nat)} {m s : Nat} (hs : s < m) : Dom rs m (cl rs m s) ∧ s ∈ cl rs m s := by
  have hm : s ∈ cl rs m s := mem_cl.mpr ⟨hs, fun P _ h => h⟩
  refine ⟨⟨fun e => (by rw [e] at hm; cases hm), fun x hx => (mem_cl.mp hx).1, fun a b ha hb h1 h2 => ?_⟩, hm⟩
  exact mem_cl.mpr ⟨hb, fun P hP hp => hP a b ha hb ((mem_cl.mp h1).2 P hP hp) h2⟩
theorem cl_least {rs : List (Int × List Nat)} {m s : Nat} {E : List Nat} (hE : Cl rs m (· ∈ E)) (hs : s ∈ E) : ∀ x ∈ cl rs m s, x ∈ E := fun x hx => (mem_cl.mp hx).2 (· ∈ E) hE hs
theorem dom_chain {rs : List (Int × List Nat)} {m : Nat} {S E : List Nat} (hs : Dom rs m S) (he : Dom rs m E) : (∀ x ∈ S, x ∈ E) ∨ (∀ x ∈ E, x ∈ S) := by
  refine Classical.byContradiction fun h => ?_
  rw [not_or] at h
  obtain ⟨h1, h2⟩ := h
  obtain ⟨a, ha⟩ := Classical.not_forall.mp h1
  obtain ⟨b, hb⟩ := Classical.not_forall.mp h2
  obtain ⟨ha1, ha2⟩ := Classical.not_imp.mp ha
  obtain ⟨hb1, hb2⟩ := Classical.not_imp.mp hb
  have la := hs.lt a ha1
  have lb := he.lt b hb1
  have h3 : ¬ mar rs a b ≤ 0 := fun z => hb2 (hs.cl a b la lb ha1 z)
  have h4 : ¬ mar rs b a ≤ 0 := fun z => ha2 (he.cl b a lb la hb1 z)
  have : mar rs a b = - mar rs b a := by unfold mar; omega
  omega
theorem sub_le : ∀ {A B : List Nat}, A.Nodup → (∀ x ∈ A, x ∈ B) → A.length ≤ B.length
  | [], _, _, _ => Nat.zero_le _
  | a :: r, B, nd, h => by
    obtain ⟨h1, h2⟩ := List.nodup_cons.mp nd
    have ha := h a List.mem_cons_self
    have := sub_le (A := r) (B := B.erase a) h2 fun x hx => by
      refine (List.mem_erase_of_ne fun e => h1 (by rw [← e]; exact hx)).mpr (h x (List.mem_cons_of_mem _ hx))
    rw [List.length_erase_of_mem ha] at this
    have : 0 < B.length := List.length_pos_of_mem ha
    rw [List.length_cons]
    omega
theorem sub_eq {A B : List Nat} (nd : A.Nodup) (h : ∀ x ∈ A, x ∈ B) (hl : B.length ≤ A.length) : ∀ x ∈ B, x ∈ A := fun b hb => by
  refine Classical.byContradiction fun hn => ?_
  have := sub_le (A := b :: A) (B := B) (List.nodup_cons.mpr ⟨hn, nd⟩) fun x hx => (List.mem_cons.mp hx).elim (fun e => e ▸ hb) (h x)
  rw [List.length_cons] at this
  omega
/-- the least such lot -/
structure Sm (rs : List (Int × List Nat)) (m : Nat) (S : List Nat) : Prop where
  dom : Dom rs m S
  asc : Asc m S
  least : ∀ E, Dom rs m E → ∀ x ∈ S, x ∈ E
theorem sm_uniq {rs : List (Int × List Nat)} {m : Nat} {S T : List Nat} (hs : Sm rs m S) (ht : Sm rs m T) : S = T :=
  asc_eq hs.asc ht.asc fun x _ => ⟨hs.least _ ht.dom x, ht.least _ hs.dom x⟩
theorem sm_of_cl {rs : List (Int × List Nat)} {m s : Nat} (hs : s < m) (h : ∀ t, t < m → (cl rs m s).length ≤ (cl rs m t).length) : Sm rs m (cl rs m s) := by
  have asc : ∀ t, Asc m (cl rs m t) := fun t => by unfold cl; exact asc_filter _
  refine ⟨(cl_dom hs).1, asc s, fun E hE => ?_⟩
  obtain ⟨e, he⟩ := List.exists_mem_of_ne_nil E hE.ne
  have el := hE.lt e he
  have h1 := cl_least hE.cl he
  rcases dom_chain (cl_dom (rs := rs) hs).1 (cl_dom (rs := rs) el).1 with h2 | h2
  · exact fun x hx => h1 x (h2 x hx)
  · exact fun x hx => h1 x (sub_eq (asc_nodup (asc e)) h2 (h e el) x hx)
/-! all lots -/
def lotsN : Nat → List (List Nat)
  | 0 => [[]]
  | k + 1 => lotsN k ++ (lotsN k).map fun l => l ++ [k]
theorem lots_of (p : Nat → Bool) : ∀ k, (List.range k).filter p ∈ lotsN k
  | 0 => List.mem_singleton.mpr rfl
  | k + 1 => by
    rw [List.range_succ, List.filter_append]
    unfold lotsN
    cases h : p k with
    | true =>
      refine List.mem_append_right _ (List.mem_map.mpr ⟨_, lots_of p k, ?_⟩)
      simp [h]
    | false =>
      refine List.mem_append_left _ ?_
      have := lots_of p k
      simpa [h] using this
theorem lots_to : ∀ {k : Nat} {l : List Nat}, l ∈ lotsN k → ∃ p : Nat → Bool, l = (List.range k).filter p
  | 0, l, h => ⟨fun _ => false, by rw [List.mem_singleton.mp h]; rfl⟩
  | k + 1, l, h => by
    unfold lotsN at h
    rcases List.mem_append.mp h with h | h
    · obtain ⟨p, e⟩ := lots_to h
      refine ⟨fun x => p x && decide (x ≠ k), ?_⟩
      rw [List.range_succ, List.filter_append, e]
      have : [k].filter (fun x => p x && decide (x ≠ k)) = [] := by simp
      rw [this, List.append_nil]
      refine List.filter_congr fun x hx => ?_
      have := List.mem_range.mp hx
      have hn : x ≠ k := by omega
      simp [hn]
    · obtain ⟨l', h', rfl⟩ := List.mem_map.mp h
      obtain ⟨p, e⟩ := lots_to h'
      refine ⟨fun x => p x || decide (x = k), ?_⟩
      rw [List.range_succ, List.filter_append, e]
      have : [k].filter (fun x => p x || decide (x = k)) = [k] := by simp
      rw [this]
      congr 1
      refine List.filter_congr fun x hx => ?_
      have := List.mem_range.mp hx
      have hn : x ≠ k := by omega
      simp [hn]
theorem lots_asc {k : Nat} {l : List Nat} : l ∈ lotsN k ↔ Asc k l := by
  constructor
  · intro h
    obtain ⟨p, rfl⟩ := lots_to h
    exact asc_filter p
  · intro h
    rw [h]
    exact lots_of _ k
theorem lots_len : ∀ k, (lotsN k).length = 2 ^ k
  | 0 => rfl
  | k + 1 => by unfold lotsN; rw [List.length_append, List.length_map, lots_len k, Nat.pow_succ]; omega
/-- the lots that beat all outside -/
def goodB (rs : List (Int × List Nat)) (m : Nat) (l : List Nat) : Bool := decide (0 < l.length) && l.all fun a => ((List.range m).filter fun b => !decide (b ∈ l)).all fun b => decide (0 < mar rs a b)
theorem good_iff {rs : List (Int × List Nat)} {m : Nat} {l : List Nat} (h : Asc m l) : goodB rs m l = true ↔ Dom rs m l := by
  have hlt : ∀ x ∈ l, x < m := fun x hx => by rw [h] at hx; exact List.mem_range.mp (List.mem_filter.mp hx).1
  unfold goodB
  rw [Bool.and_eq_true, decide_eq_true_eq, List.all_eq_true]
  constructor
  · rintro ⟨h1, h2⟩
    refine ⟨fun e => by rw [e] at h1; exact absurd h1 (by decide), hlt, fun a b ha hb hal hm => ?_⟩
    refine Classical.byContradiction fun hn => ?_
    have := List.all_eq_true.mp (h2 a hal) b (List.mem_filter.mpr ⟨List.mem_range.mpr hb, by simpa using hn⟩)
    have := of_decide_eq_true this
    omega
  · intro hd
    refine ⟨List.length_pos_iff.mpr hd.ne, fun a ha => List.all_eq_true.mpr fun b hb => ?_⟩
    obtain ⟨hb1, hb2⟩ := List.mem_filter.mp hb
    have hb2 : b ∉ l := by simpa using hb2
    refine decide_eq_true ?_
    refine Classical.byContradiction fun hn => hb2 (hd.cl a b (hlt a ha) (List.mem_range.mp hb1) ha (by omega))
def goodL (rs : List (Int × List Nat)) (m : Nat) : List (List Nat) := (lotsN m).filter (goodB rs m)
theorem mem_good {rs : List (Int × List Nat)} {m : Nat} {l : List Nat} : l ∈ goodL rs m ↔ Asc m l ∧ Dom rs m l := by
  unfold goodL
  rw [List.mem_filter, lots_asc]
  constructor
  · rintro ⟨h1, h2⟩; exact ⟨h1, (good_iff h1).mp h2⟩
  · rintro ⟨h1, h2⟩; exact ⟨h1, (good_iff h1).mpr h2⟩
/-- what is told is due -/
theorem due_is {rs : List (Int × List Nat)} {m : Nat} {S D0 : List Nat} (hs : Sm rs m S) (h1 : D0 ∈ goodL rs m) (h2 : D0.length ≤ S.length) : D0 = S := by
  obtain ⟨a, d⟩ := mem_good.mp h1
  have h3 := hs.least _ d
  exact asc_eq a hs.asc fun x _ => ⟨sub_eq (asc_nodup hs.asc) h3 h2 x, h3 x⟩
end Bal

/-! BalI -/
set_option Elab.async false
set_option linter.all false
set_option maxRecDepth 100000
set_option maxHeartbeats 4000000
namespace Bal
open PySem Mi
def kyN (i : Nat) : L2.Key := .inl (i : Int)
def kD (ks : List Nat) : D := .dct (ks.map kyN) (ks.map fun _ => .bl true)
theorem ky_inj {i j : Nat} : kyN i = kyN j ↔ i = j := by
  unfold kyN
  constructor
  · intro h; injection h with h; exact Int.ofNat_inj.mp h
  · rintro rfl; rfl
theorem dget_k (i : Nat) : ∀ ks : List Nat, (dgetD (kyN i) (ks.map kyN) (ks.map fun _ => .bl true)).isSome = decide (i ∈ ks)
  | [] => by simp [dgetD]
  | x :: r => by
    rw [List.map_cons, List.map_cons]
    unfold dgetD
    by_cases h : x = i
    · subst h; rw [if_pos rfl]; simp
    · rw [if_neg (fun z => h (ky_inj.mp z)), dget_k i r]
      simp [Ne.symm h]
theorem nin_k (i : Nat) (ks : List Nat) : cmpD .nin (nD i) (kD ks) = some (!decide (i ∈ ks)) := by
  show (inD (nD i) (kD ks)).map not = _
  show ((keyD (nD i)).map fun k => (dgetD k (ks.map kyN) (ks.map fun _ => .bl true)).isSome).map not = _
  show some (!(dgetD (kyN i) (ks.map kyN) (ks.map fun _ => .bl true)).isSome) = _
  rw [dget_k]
theorem dput_k {i : Nat} {ks : List Nat} (h : i ∉ ks) : D.dct (dputD (kyN i) (.bl true) (ks.map kyN) (ks.map fun _ => .bl true)).1 (dputD (kyN i) (.bl true) (ks.map kyN) (ks.map fun _ => .bl true)).2 = kD (ks ++ [i]) := by
  have hn : (ks.map kyN).any (fun x => decide (x = kyN i)) = false := by
    rw [List.any_map, Bool.eq_false_iff]
    intro z
    obtain ⟨x, hx, e⟩ := List.any_eq_true.mp z
    exact h (ky_inj.mp (of_decide_eq_true e) ▸ hx)
  unfold dputD
  rw [if_neg (by rw [hn]; decide)]
  unfold kD
  rw [List.map_append, List.map_append]
  rfl
theorem intKs_k : ∀ ks : List Nat, intKs (ks.map kyN) = some (ks.map fun (i : Nat) => (i : Int))
  | [] => rfl
  | x :: r => by show (intKs (r.map kyN)).map _ = _; rw [intKs_k r]; rfl
theorem perm_mem : ∀ {A B : List Nat}, A.Nodup → B.Nodup → (∀ x, x ∈ A ↔ x ∈ B) → A.Perm B
  | [], B, _, _, h => by
    have : B = [] := List.eq_nil_iff_forall_not_mem.mpr fun x hx => nomatch (h x).mpr hx
    rw [this]
  | a :: r, B, na, nb, h => by
    obtain ⟨h1, h2⟩ := List.nodup_cons.mp na
    have hb := (h a).mp List.mem_cons_self
    have ih := perm_mem (A := r) (B := B.erase a) h2 (nb.erase a) fun x => by
      rw [nb.mem_erase_iff]
      constructor
      · intro hx
        exact ⟨fun e => h1 (by rw [← e]; exact hx), (h x).mp (List.mem_cons_of_mem _ hx)⟩
      · rintro ⟨hn, hx⟩
        exact ((List.mem_cons.mp ((h x).mpr hx)).resolve_left hn)
    exact (ih.cons a).trans (List.perm_cons_erase hb).symm
theorem sort_to {A S : List Nat} {m : Nat} (h : A.Perm S) (ha : Asc m S) : sortI (A.map fun (i : Nat) => (i : Int)) = S.map fun (i : Nat) => (i : Int) := by
  refine sorted_unique ((sortI_perm _).trans (h.map _)) (sortI_sorted _) ?_
  rw [ha]
  exact List.Pairwise.map _ (fun a b hab => Int.ofNat_le.mpr (Nat.le_of_lt hab)) (List.pairwise_lt_range.filter _)
theorem sorted_k {ks S : List Nat} {m : Nat} (h : ks.Perm S) (ha : Asc m S) (hl : ks.length < 64) : bltD .sorted [kD ks] = some (.o (.lst (S.map nD))) := by
  show (intKs (ks.map kyN)).bind _ = _
  rw [intKs_k]
  show (if (ks.map fun (i : Nat) => (i : Int)).length < 64 then some (R.o (.lst ((sortI (ks.map fun (i : Nat) => (i : Int))).map .int))) else none) = _
  rw [if_pos (by rw [List.length_map]; exact hl), sort_to h ha, List.map_map]
  rfl
section
variable {Gm : Cfg} {tab : Nat → Option Fn}
theorem closed_ok {k : Nat} (hl : Gm.loop = loopC) (hk : Has Gm tab k F_closed_from) (n : Nat) {rs : List (Int × List Nat)} {m s : Nat} (hm : m ≤ 9) (hs : s < m) : phi Gm tab (n + 1) k [(false, marD rs m), (false, nD s)] = some (.v (oD (cl rs m s)), []) := of_ex (by
  refine phi_ex hk.1 rfl ?_
  show wB Gm (phi Gm tab n) [] F_closed_from.body [some (false, marD rs m), some (false, nD s), none, none, none, none] _
  array_get_dec
  refine ⟨_, _, _, _, rfl, rfl, rfl, ?_⟩
  array_get_dec
  refine w_whil hl (fun M ρ => ∃ (ks w : List Nat) (x4 x5 : Option (Bool × D)), ρ = [some (false, marD rs m), some (false, nD s), some (true, kD ks), some (true, .lst (w.map nD)), x4, x5] ∧ ks.Nodup ∧ (∀ x ∈ ks, x < m ∧ ∀ P : Nat → Prop, Cl rs m P → P s → P x) ∧ s ∈ ks ∧ (∀ x ∈ w, x ∈ ks) ∧ (∀ a ∈ ks, a ∉ w → ∀ b, b < m → mar rs a b ≤ 0 → b ∈ ks) ∧ M = 2 * (m - ks.length) + w.length ∧ 2 * (m - ks.length) + w.length ≤ 19) (2 * (m - 1) + 1)
    ⟨[s], [s], none, none, rfl, by simp, fun x hx => by rw [List.mem_singleton.mp hx]; exact ⟨hs, fun P _ h => h⟩, by simp, fun x h => h, fun a ha hn => absurd ha hn, rfl, (by show 2 * (m - 1) + 1 ≤ 19; omega)⟩ ?_
  rintro M _ ⟨ks, w, x4, x5, rfl, nd, hr, hsk, hwk, hcl, rfl, h19⟩
  have lk : ∀ ks : List Nat, ks.Nodup → (∀ x ∈ ks, x < m) → ks.length ≤ m := fun ks a b => pigeon a b
  array_get_dec
  refine ⟨fun hc => ?_, fun hc => ?_⟩
  · have hw : w = [] := by
      have h0 := of_decide_eq_false hc
      rw [List.length_map] at h0
      exact List.length_eq_zero_iff.mp (by omega)
    subst hw
    have hp : ks.Perm (cl rs m s) := by
      refine perm_mem nd (List.nodup_range.filter _) fun x => ?_
      rw [mem_cl]
      constructor
      · exact hr x
      · rintro ⟨h1, h2⟩
        exact h2 (· ∈ ks) (fun a b ha hb h3 h4 => hcl a h3 (by simp) b hb h4) hsk
    have ha : Asc m (cl rs m s) := by unfold cl; exact asc_filter _
    have := lk ks nd fun x hx => (hr x hx).1
    array_get_dec
    refine ⟨_, _, rfl, sorted_k hp ha (by omega), ?_⟩
    array_get_dec
    exact ⟨rfl, rfl⟩
  · have hw : 0 < w.length := by
      have h0 := of_decide_eq_true hc
      rw [List.length_map] at h0
      omega
    have hlast : (w.map nD)[(w.map nD).length - 1]? = some (nD (w[w.length - 1]'(by omega))) := by
      rw [List.length_map, List.getElem?_map, List.getElem?_eq_getElem (by omega)]
      rfl
    generalize eone : w[w.length - 1]'(by omega) = one at hlast
    have hone : one ∈ w := by rw [← eone]; exact List.getElem_mem _
    have om := (hr one (hwk one hone)).1
    array_get_dec
    refine ⟨_, _, _, _, rfl, rfl, (by show ((w.map nD)[(w.map nD).length - 1]?).map _ = _; rw [hlast]; rfl), ?_⟩
    array_get_dec
    refine w_for rfl ?_
    array_get_dec
    refine ⟨m, _, by show R.v (D.int (((List.range m).map (marRow rs m)).length : Nat)) = _; rw [List.length_map, List.length_range], range_ok (by omega), ?_⟩
    have edl : (w.map nD).dropLast = w.dropLast.map nD := by rw [List.map_dropLast]
    refine ⟨fun j ρ => ∃ (ks' w' : List Nat) (x5 : Option (Bool × D)), ρ = [some (false, marD rs m), some (false, nD s), some (true, kD ks'), some (true, .lst (w'.map nD)), some (false, nD one), x5] ∧ ks'.Nodup ∧ (∀ x ∈ ks', x < m ∧ ∀ P : Nat → Prop, Cl rs m P → P s → P x) ∧ s ∈ ks' ∧ one ∈ ks' ∧ (∀ x ∈ w', x ∈ ks') ∧ (∀ a ∈ ks', a ≠ one → a ∉ w' → ∀ b, b < m → mar rs a b ≤ 0 → b ∈ ks') ∧ (∀ b, b < j → mar rs one b ≤ 0 → b ∈ ks') ∧ 2 * (m - ks'.length) + w'.length < 2 * (m - ks.length) + w.length,
      ⟨ks, w.dropLast, x5, by rw [← edl]; rfl, nd, hr, hsk, hwk one hone, fun x hx => hwk x ((List.dropLast_sublist w).subset hx), ?_, fun b hb => absurd hb (Nat.not_lt_zero _), by rw [List.length_dropLast]; omega⟩, ?_, ?_⟩
    · intro a ha hne hn b hb hmar
      refine hcl a ha (fun haw => hn ?_) b hb hmar
      have hwne : w ≠ [] := fun e => by rw [e] at hw; exact absurd hw (by decide)
      have e := List.dropLast_concat_getLast hwne
      rw [← e] at haw
      rcases List.mem_append.mp haw with h | h
      · exact h
      · exfalso
        have := List.mem_singleton.mp h
        rw [List.getLast_eq_getElem] at this
        exact hne (this.trans eone)
    · rintro j x _ hx ⟨ks', w', x5', rfl, nd', hr', hsk', hone', hwk', hcl', hone2, hM⟩
      obtain ⟨b, hb, rfl⟩ := get_nD (l := List.range m) hx
      obtain ⟨hj, rfl⟩ : j < m ∧ b = j := by
        have hl := (List.getElem?_eq_some_iff.mp hb).1
        rw [List.length_range] at hl
        rw [List.getElem?_range hl] at hb
        exact ⟨hl, (Option.some.inj hb).symm⟩
      have lk' := lk ks' nd' fun x hx => (hr' x hx).1
      refine ⟨_, rfl, ?_⟩
      array_get_dec
      have e1 : (!(dgetD (kyN b) (ks'.map kyN) (ks'.map fun _ => .bl true)).isSome) = !decide (b ∈ ks') := by rw [dget_k]
      refine ⟨fun h1 => ?_, fun h1 => ?_⟩
      · have hbk : b ∉ ks' := by simpa using (e1.symm.trans h1)
        array_get_dec
        refine ⟨_, _, _, rfl, rfl, idx_t (mar_get (rs := rs) om hj).1, ?_⟩
        array_get_dec
        refine ⟨_, _, _, rfl, rfl, idx_t (mar_get (rs := rs) om hj).2, ?_⟩
        array_get_dec
        refine ⟨fun h2 => ?_, fun h2 => ?_⟩
        · have h2 : mar rs one b ≤ 0 := of_decide_eq_true h2
          have lk2 := lk (ks' ++ [b]) (by rw [List.nodup_append]; exact ⟨nd', by simp, fun a ha c hc e => hbk (by rw [List.mem_singleton.mp hc] at e; exact e ▸ ha)⟩) fun x hx => (List.mem_append.mp hx).elim (fun h => (hr' x h).1) fun h => by rw [List.mem_singleton.mp h]; exact hj
          rw [List.length_append] at lk2
          have lk2 : ks'.length + 1 ≤ m := lk2
          array_get_dec
          refine ⟨_, _, _, _, _, _, rfl, rfl, rfl, rfl, (Nat.lt_of_le_of_lt (by rw [List.length_map]; omega : _ ≤ 100) (by decide)), ?_⟩
          have hw20 : w'.length < 1000 := by omega
          array_get_dec
          refine ⟨_, _, _, _, rfl, rfl, m_app (Nat.lt_of_lt_of_le (by rw [List.length_map]; exact hw20 : _ < 1000) (by decide)), ?_⟩
          array_get_dec
          refine ⟨rfl, ks' ++ [b], w' ++ [b], some (false, nD b), ?_, ?_, ?_, List.mem_append_left _ hsk', List.mem_append_left _ hone', ?_, ?_, ?_, ?_⟩
          · rw [List.map_append]
            exact congrArg (fun z => [some (false, marD rs m), some (false, nD s), some (true, z), some (true, D.lst (w'.map nD ++ [nD b])), some (false, nD one), some (false, nD b)]) (dput_k hbk)
          · rw [List.nodup_append]; exact ⟨nd', by simp, fun a ha c hc e => hbk (by rw [List.mem_singleton.mp hc] at e; exact e ▸ ha)⟩
          · intro x hx
            rcases List.mem_append.mp hx with h | h
            · exact hr' x h
            · rw [List.mem_singleton.mp h]
              exact ⟨hj, fun P hP hp => hP one b om hj ((hr' one hone').2 P hP hp) h2⟩
          · intro x hx
            rcases List.mem_append.mp hx with h | h
            · exact List.mem_append_left _ (hwk' x h)
            · exact List.mem_append_right _ h
          · intro a ha hne hn c hc hm2
            rcases List.mem_append.mp ha with h | h
            · exact List.mem_append_left _ (hcl' a h hne (fun z => hn (List.mem_append_left _ z)) c hc hm2)
            · exact absurd (List.mem_append_right _ h) hn
          · intro c hc hm2
            rcases Nat.lt_succ_iff_lt_or_eq.mp hc with h | h
            · exact List.mem_append_left _ (hone2 c h hm2)
            · subst h; exact List.mem_append_right _ List.mem_cons_self
          · rw [List.length_append, List.length_append]
            show 2 * (m - (ks'.length + 1)) + (w'.length + 1) < _
            omega
        · have h2 : ¬ mar rs one b ≤ 0 := of_decide_eq_false h2
          array_get_dec
          refine ⟨rfl, ks', w', _, rfl, nd', hr', hsk', hone', hwk', hcl', fun c hc hm2 => ?_, hM⟩
          rcases Nat.lt_succ_iff_lt_or_eq.mp hc with h | h
          · exact hone2 c h hm2
          · subst h; exact absurd hm2 h2
      · have hbk : b ∈ ks' := by simpa using (e1.symm.trans h1)
        array_get_dec
        refine ⟨rfl, ks', w', _, rfl, nd', hr', hsk', hone', hwk', hcl', fun c hc hm2 => ?_, hM⟩
        rcases Nat.lt_succ_iff_lt_or_eq.mp hc with h | h
        · exact hone2 c h hm2
        · subst h; exact hbk
    · rintro _ ⟨ks', w', x5', rfl, nd', hr', hsk', hone', hwk', hcl', hone2, hM⟩
      rw [List.length_map, List.length_map, List.length_range] at hone2
      array_get_dec
      refine ⟨_, hM, ks', w', _, _, rfl, nd', hr', hsk', hwk', fun a ha hn b hb hm2 => ?_, rfl, by omega⟩
      by_cases e : a = one
      · subst e; exact hone2 b hb hm2
      · exact hcl' a ha e hn b hb hm2)
end
end Bal

/-! BalJ -/
set_option Elab.async false
set_option linter.all false
set_option maxRecDepth 100000
set_option maxHeartbeats 4000000
namespace Bal
open PySem Mi
def least (c : List Int) : Int := (minI c).getD 0
theorem min_int {c : List Int} (h : c ≠ []) : bltD .min [.lst (c.map .int)] = some (.v (.int (least c))) ∧ least c ∈ c ∧ ∀ y ∈ c, least c ≤ y := by
  cases c with
  | nil => exact absurd rfl h
  | cons x r =>
    have hi : intsD ((x :: r).map D.int) = some (x :: r) := by
      generalize x :: r = l
      induction l with
      | nil => rfl
      | cons x r ih => show (intsD (r.map .int)).map _ = _; rw [ih]; rfl
    have hm : minI (x :: r) = some (least (x :: r)) := rfl
    refine ⟨?_, minI_spec hm⟩
    show leastD minI PySem.W.minD (.lst ((x :: r).map D.int)) = _
    unfold leastD
    rw [show (itemsD (.lst ((x :: r).map D.int))).bind intsD = some (x :: r) from hi]
    rfl
section
variable {Gm : Cfg} {tab : Nat → Option Fn}
theorem lbeater_ok {k : Nat} (hk : Has Gm tab k F__law_beater) (h35 : Has Gm tab 35 F__law_margins) (h : Has Gm tab 34 F__law_over) (n : Nat) {rs : List (Int × List Nat)} {m : Nat} (hm : m ≤ 9) (hr : ∀ p ∈ rs, p.2.Perm (List.range m)) : phi Gm tab (n + 3) k [(false, nD m), (false, .tup (rs.map rowD))] = some (.v (topD rs m), []) := of_ex (by
  refine phi_ex hk.1 rfl ?_
  show wB Gm (phi Gm tab (n + 2)) [] F__law_beater.body [some (false, nD m), some (false, .tup (rs.map rowD)), none, none, none, none] _
  array_get_dec
  refine call_by h35.2 rfl rfl (lmargins_ok (j := 0) h35 h n hm hr) rfl ?_
  array_get_dec
  refine w_compP rfl ?_
  array_get_dec
  refine ⟨m, _, rfl, range_ok (by omega), ?_⟩
  refine ⟨fun it => match it with | .one (.int i) => if beats rs m i.toNat then some (.int i) else none | _ => none, fun x hx => ?_, ?_⟩
  · obtain ⟨d, hd, rfl⟩ := List.mem_map.mp hx
    obtain ⟨a, ha, rfl⟩ := List.mem_map.mp hd
    have ha := List.mem_range.mp ha
    refine ⟨_, rfl, ?_⟩
    array_get_dec
    refine w_compP rfl ?_
    array_get_dec
    refine ⟨m, _, rfl, range_ok (by omega), ?_⟩
    refine ⟨fun it => match it with | .one (.int i) => if !decide (i.toNat = a) then some (.bl (decide (0 < mar rs a i.toNat))) else none | _ => none, fun x hx => ?_, ?_⟩
    · obtain ⟨d, hd, rfl⟩ := List.mem_map.mp hx
      obtain ⟨b, hb, rfl⟩ := List.mem_map.mp hd
      have hb := List.mem_range.mp hb
      have e : (!decide ((b : Int) = (a : Int))) = !decide (b = a) := by rw [decide_eq_decide.mpr Int.ofNat_inj]
      refine ⟨_, rfl, ?_⟩
      array_get_dec
      refine ⟨fun hc => ?_, fun hc => ?_⟩
      · array_get_dec
        refine ⟨_, _, _, rfl, rfl, idx_t (mar_get (rs := rs) ha hb).1, ?_⟩
        array_get_dec
        refine ⟨_, _, _, rfl, rfl, idx_t (mar_get (rs := rs) ha hb).2, ?_⟩
        array_get_dec
        refine ⟨_, _, rfl, ?_, rfl⟩
        show (if !decide (b = a) then some (D.bl (decide (0 < mar rs a b))) else none) = _
        rw [if_pos (e.symm.trans hc)]
      · refine ⟨?_, rfl⟩
        show (if !decide (b = a) then some (D.bl (decide (0 < mar rs a b))) else none) = _
        rw [if_neg (fun z => absurd (hc.symm.trans (e.trans z)) (by decide))]
    · have e : (((List.range m).map fun (i : Nat) => D.int (i : Int)).map Itm.one).filterMap (fun it => match it with | .one (.int i) => if !decide (i.toNat = a) then some (D.bl (decide (0 < mar rs a i.toNat))) else none | _ => none) = ((List.range m).filter fun b => !decide (b = a)).map fun b => D.bl (decide (0 < mar rs a b)) := by
        rw [List.map_map]
        exact fm_filter fun i hi => rfl
      rw [e]
      array_get_dec
      refine ⟨_, _, rfl, all_map _ _, ?_⟩
      array_get_dec
      refine ⟨fun hc => ?_, fun hc => ?_⟩
      · array_get_dec
        refine ⟨_, _, rfl, ?_, rfl⟩
        show (if beats rs m a then some (nD a) else none) = _
        rw [if_pos (show beats rs m a = true from hc)]
      · refine ⟨?_, rfl⟩
        show (if beats rs m a then some (nD a) else none) = _
        rw [if_neg (by rw [show beats rs m a = false from hc]; decide)]
  · have e : (((List.range m).map fun (i : Nat) => D.int (i : Int)).map Itm.one).filterMap (fun it => match it with | .one (.int i) => if beats rs m i.toNat then some (D.int i) else none | _ => none) = ((List.range m).filter (beats rs m)).map nD := by
      rw [List.map_map]
      exact fm_filter fun i hi => rfl
    rw [e]
    unfold topD
    array_get_dec
    cases q : (List.range m).filter (beats rs m) with
    | nil =>
      array_get_dec
      exact ⟨rfl, rfl⟩
    | cons a r =>
      array_get_dec
      refine ⟨fun hc => ?_, fun hc => ?_⟩
      · array_get_dec
        refine ⟨_, _, _, rfl, rfl, idx_l (j := 0) (d := nD a) rfl, ?_⟩
        array_get_dec
        exact ⟨rfl, rfl⟩
      · have hc := of_decide_eq_false hc
        exact absurd (by rw [List.length_map, List.length_cons]; omega) hc)

theorem marginsB_ok {k : Nat} (hf : Gm.fields 10 = some (["many", "rows"] : List Str)) (hk : Has Gm tab k F_margins) (h13 : Has Gm tab 13 F_margin_rows) (h : Has Gm tab 12 F_for_one) (n : Nat) {rs : List (Int × List Nat)} {m : Nat} (hm : m ≤ 9) (hr : ∀ p ∈ rs, p.2.Perm (List.range m)) : phi Gm tab (n + 3) k [(false, bookD m rs)] = some (.v (marD rs m), []) := of_ex (by
  refine phi_ex hk.1 rfl ?_
  show wB Gm (phi Gm tab (n + 2)) [] F_margins.body [some (false, bookD m rs)] _
  array_get_dec
  refine ⟨_, _, rfl, attr_rows hf m rs, ?_⟩
  array_get_dec
  refine ⟨_, _, rfl, attr_many hf m rs, ?_⟩
  array_get_dec
  refine call_by h13.2 rfl rfl (margins_ok (j := 0) h13 h n hm hr) rfl ?_
  array_get_dec
  exact ⟨rfl, rfl⟩)
theorem lots_ok {k : Nat} (hk : Has Gm tab k F__law_lots) (n : Nat) {m : Nat} (hm : m ≤ 9) : phi Gm tab (n + 1) k [(false, nD m)] = some (.v (.lst ((lotsN m).map oD)), []) := of_ex (by
  refine phi_ex hk.1 rfl ?_
  show wB Gm (phi Gm tab n) [] F__law_lots.body [some (false, nD m), none, none, none] _
  array_get_dec
  refine w_for rfl ?_
  array_get_dec
  refine ⟨m, _, rfl, range_ok (by omega), ?_⟩
  refine ⟨fun i ρ => ∃ x2, ρ = [some (false, nD m), some (false, .lst ((lotsN i).map oD)), x2, none], ⟨none, rfl⟩, ?_, ?_⟩
  · rintro i x _ hx ⟨x2, rfl⟩
    obtain ⟨j, hj, rfl⟩ := get_nD (l := List.range m) hx
    obtain ⟨hi, rfl⟩ : i < m ∧ j = i := by
      have hl := (List.getElem?_eq_some_iff.mp hj).1
      rw [List.length_range] at hl
      rw [List.getElem?_range hl] at hj
      exact ⟨hl, (Option.some.inj hj).symm⟩
    have hz : (lotsN j).length ≤ 512 := by rw [lots_len]; exact Nat.pow_le_pow_right (by decide) (by omega : j ≤ 9)
    refine ⟨_, rfl, ?_⟩
    array_get_dec
    refine w_compP rfl ?_
    array_get_dec
    refine ⟨fun it => match it with | .one (.tup l) => some (.tup (l ++ [nD j])) | _ => none, fun x hx => ?_, ?_⟩
    · obtain ⟨d, hd, rfl⟩ := List.mem_map.mp hx
      obtain ⟨l, hl, rfl⟩ := List.mem_map.mp hd
      have ll : l.length ≤ 9 := by
        have ha := lots_asc.mp hl
        have := pigeon (asc_nodup ha) (fun x hx => by rw [ha] at hx; exact List.mem_range.mp (List.mem_filter.mp hx).1)
        omega
      refine ⟨_, rfl, ?_⟩
      array_get_dec
      refine ⟨_, _, _, rfl, rfl, b_catT (Nat.le_trans (by rw [List.length_map]; show l.length + 1 ≤ 10; omega) (by decide : 10 ≤ line)), ?_⟩
      array_get_dec
      rfl
    · have e : (((lotsN j).map oD).map Itm.one).filterMap (fun it => match it with | .one (.tup l) => some (D.tup (l ++ [nD j])) | _ => none) = ((lotsN j).map fun l => l ++ [j]).map oD := by
        rw [List.map_map, List.map_map]
        refine fm_all fun l hl => ?_
        show some (D.tup (l.map nD ++ [nD j])) = some (D.tup ((l ++ [j]).map nD))
        rw [List.map_append]
        rfl
      rw [e]
      array_get_dec
      refine ⟨_, _, _, rfl, rfl, b_catL (Nat.le_trans (by rw [List.length_map, List.length_map, List.length_map]; omega : _ ≤ 1024) (by decide)), ?_⟩
      array_get_dec
      exact ⟨rfl, some (false, nD j), congrArg (fun z => [some (false, nD m), some (false, D.lst z), some (false, nD j), none]) (by show (lotsN j).map oD ++ _ = ((lotsN j ++ (lotsN j).map fun l => l ++ [j])).map oD; rw [List.map_append])⟩
  · rintro _ ⟨x2, rfl⟩
    rw [List.length_map, List.length_map, List.length_range]
    array_get_dec
    exact ⟨rfl, rfl⟩)
theorem len_fm (l : List (List Nat)) : ((l.map oD).map Itm.one).filterMap (fun it => match it with | .one (.tup os) => some (.int (os.length : Nat)) | _ => none) = (l.map fun o => (o.length : Int)).map D.int := by
  rw [List.map_map, List.map_map]
  refine fm_all fun o ho => ?_
  show some (D.int ((o.map nD).length : Nat)) = _
  rw [List.length_map]
  rfl
theorem smith_ok {k : Nat} (hl : Gm.loop = loopC) (hf : Gm.fields 10 = some (["many", "rows"] : List Str)) (hk : Has Gm tab k F_smith) (h22 : Has Gm tab 22 F_closed_from) (h23 : Has Gm tab 23 F_margins) (h13 : Has Gm tab 13 F_margin_rows) (h : Has Gm tab 12 F_for_one) (n : Nat) {rs : List (Int × List Nat)} {m : Nat} (m1 : 1 ≤ m) (hm : m ≤ 9) (hr : ∀ p ∈ rs, p.2.Perm (List.range m)) : ∃ r o, phi Gm tab (n + 4) k [(false, bookD m rs)] = some (r, o) ∧ ∃ S, r = .v (oD S) ∧ o = [] ∧ Sm rs m S := by
  refine phi_ex hk.1 rfl ?_
  show wB Gm (phi Gm tab (n + 3)) [] F_smith.body [some (false, bookD m rs), none, none, none, none, none] _
  array_get_dec
  refine call_by h23.2 rfl rfl (marginsB_ok hf h23 h13 h n hm hr) rfl ?_
  array_get_dec
  refine w_compP rfl ?_
  array_get_dec
  refine ⟨_, _, rfl, attr_many hf m rs, ?_⟩
  array_get_dec
  refine ⟨m, _, rfl, range_ok (by omega), ?_⟩
  refine ⟨fun it => match it with | .one (.int i) => some (oD (cl rs m i.toNat)) | _ => none, fun x hx => ?_, ?_⟩
  · obtain ⟨d, hd, rfl⟩ := List.mem_map.mp hx
    obtain ⟨a, ha, rfl⟩ := List.mem_map.mp hd
    have ha := List.mem_range.mp ha
    refine ⟨_, rfl, ?_⟩
    array_get_dec
    refine call_by h22.2 rfl rfl (closed_ok hl h22 (n + 2) hm ha) rfl ?_
    array_get_dec
    rfl
  · rw [fm_range (g := fun i => oD (cl rs m i)) fun i hi => rfl]
    generalize eL : (List.range m).map (cl rs m) = L
    have eL2 : ((List.range m).map fun i => oD (cl rs m i)) = L.map oD := by rw [← eL, List.map_map]; rfl
    rw [eL2]
    generalize eC : (L.map fun o => (o.length : Int)) = C
    have hC : C ≠ [] := by
      rw [← eC, ← eL]
      intro e
      have := congrArg List.length e
      rw [List.length_map, List.length_map, List.length_range] at this
      have : m = 0 := this
      omega
    obtain ⟨hmin, hmem, hle⟩ := min_int hC
    array_get_dec
    refine w_compP rfl ?_
    array_get_dec
    refine ⟨fun it => match it with | .one (.tup os) => if decide ((os.length : Int) = least C) then some (.tup os) else none | _ => none, fun x hx => ?_, ?_⟩
    · obtain ⟨d, hd, rfl⟩ := List.mem_map.mp hx
      obtain ⟨o, ho, rfl⟩ := List.mem_map.mp hd
      refine ⟨_, rfl, ?_⟩
      array_get_dec
      refine w_compP rfl ?_
      array_get_dec
      refine ⟨fun it => match it with | .one (.tup os) => some (.int (os.length : Nat)) | _ => none, fun x hx => ?_, ?_⟩
      · obtain ⟨d, hd, rfl⟩ := List.mem_map.mp hx
        obtain ⟨o2, ho2, rfl⟩ := List.mem_map.mp hd
        refine ⟨_, rfl, ?_⟩
        array_get_dec
        rfl
      · rw [len_fm L, eC]
        array_get_dec
        refine ⟨_, _, rfl, hmin, ?_⟩
        array_get_dec
        refine ⟨fun hc => ?_, fun hc => ?_⟩
        · array_get_dec
          refine ⟨_, _, rfl, ?_, rfl⟩
          show (if decide (((o.map nD).length : Int) = least C) then some (D.tup (o.map nD)) else none) = _
          rw [if_pos hc]
          rfl
        · refine ⟨?_, rfl⟩
          show (if decide (((o.map nD).length : Int) = least C) then some (D.tup (o.map nD)) else none) = _
          rw [if_neg (by rw [show decide (((o.map nD).length : Int) = least C) = false from hc]; decide)]
    · have e : ((L.map oD).map Itm.one).filterMap (fun it => match it with | .one (.tup os) => if decide ((os.length : Int) = least C) then some (D.tup os) else none | _ => none) = (L.filter fun o => decide ((o.length : Int) = least C)).map oD := by
        rw [List.map_map]
        refine fm_filter fun o ho => ?_
        show (if decide (((o.map nD).length : Int) = least C) then some (D.tup (o.map nD)) else none) = _
        rw [List.length_map]
        rfl
      rw [e]
      obtain ⟨o, ho, e2⟩ := List.mem_map.mp (eC ▸ hmem : least C ∈ L.map fun o => (o.length : Int))
      have hin : o ∈ L.filter fun o => decide ((o.length : Int) = least C) := List.mem_filter.mpr ⟨ho, decide_eq_true e2⟩
      cases q : L.filter fun o => decide ((o.length : Int) = least C) with
      | nil => rw [q] at hin; cases hin
      | cons S r =>
        have hS : S ∈ L.filter fun o => decide ((o.length : Int) = least C) := by rw [q]; exact List.mem_cons_self
        obtain ⟨hS1, hS2⟩ := List.mem_filter.mp hS
        have hS2 := of_decide_eq_true hS2
        rw [← eL] at hS1
        obtain ⟨s, hs, rfl⟩ := List.mem_map.mp hS1
        array_get_dec
        refine ⟨_, _, _, rfl, rfl, idx_l (j := 0) (d := oD (cl rs m s)) rfl, ?_⟩
        array_get_dec
        refine ⟨rfl, sm_of_cl (List.mem_range.mp hs) fun t ht => ?_⟩
        have := hle ((cl rs m t).length : Int) (by rw [← eC, ← eL]; exact List.mem_map.mpr ⟨_, List.mem_map.mpr ⟨t, List.mem_range.mpr ht, rfl⟩, rfl⟩)
        omega
end
end Bal

/-! BalU -/
set_option Elab.async false
set_option linter.all false
set_option maxRecDepth 100000
set_option maxHeartbeats 4000000
namespace Bal
open PySem Mi
/-! rising and falling rows -/
def incr : List Nat → Bool
  | a :: b :: r => decide (a < b) && incr (b :: r)
  | _ => true
def decr : List Nat → Bool
  | a :: b :: r => decide (b < a) && decr (b :: r)
  | _ => true
theorem incr_iff : ∀ {l : List Nat}, incr l = true ↔ l.Pairwise (· < ·)
  | [] => by simp [incr]
  | [a] => by simp [incr]
  | a :: b :: r => by
    have ih := incr_iff (l := b :: r)
    show (decide (a < b) && incr (b :: r)) = true ↔ _
    rw [Bool.and_eq_true, decide_eq_true_eq, ih, List.pairwise_cons (a := a)]
    constructor
    · rintro ⟨h1, h2⟩
      refine ⟨fun x hx => ?_, h2⟩
      rcases List.mem_cons.mp hx with e | e
      · omega
      · have := (List.pairwise_cons.mp h2).1 x e; omega
    · rintro ⟨h1, h2⟩
      exact ⟨h1 b List.mem_cons_self, h2⟩
theorem decr_iff : ∀ {l : List Nat}, decr l = true ↔ l.Pairwise (fun a b => b < a)
  | [] => by simp [decr]
  | [a] => by simp [decr]
  | a :: b :: r => by
    have ih := decr_iff (l := b :: r)
    show (decide (b < a) && decr (b :: r)) = true ↔ _
    rw [Bool.and_eq_true, decide_eq_true_eq, ih, List.pairwise_cons (a := a)]
    constructor
    · rintro ⟨h1, h2⟩
      refine ⟨fun x hx => ?_, h2⟩
      rcases List.mem_cons.mp hx with e | e
      · omega
      · have := (List.pairwise_cons.mp h2).1 x e; omega
    · rintro ⟨h1, h2⟩
      exact ⟨h1 b List.mem_cons_self, h2⟩
theorem incr_rev (l : List Nat) : incr l.reverse = decr l := by
  refine Bool.eq_iff_iff.mpr ?_
  rw [incr_iff, decr_iff, List.pairwise_reverse]
theorem incr_ix : ∀ l : List Nat, ((List.range (l.length - 1)).all fun k => decide (l.getD k 0 < l.getD (k + 1) 0)) = incr l
  | [] => rfl
  | [a] => rfl
  | a :: b :: r => by
    have ih := incr_ix (b :: r)
    show ((List.range (r.length + 1)).all fun k => decide ((a :: b :: r).getD k 0 < (a :: b :: r).getD (k + 1) 0)) = (decide (a < b) && incr (b :: r))
    rw [List.range_succ_eq_map, List.all_cons, List.all_map, ← ih]
    rfl
theorem decr_ix : ∀ l : List Nat, ((List.range (l.length - 1)).all fun k => decide (l.getD (k + 1) 0 < l.getD k 0)) = decr l
  | [] => rfl
  | [a] => rfl
  | a :: b :: r => by
    have ih := decr_ix (b :: r)
    show ((List.range (r.length + 1)).all fun k => decide ((a :: b :: r).getD (k + 1) 0 < (a :: b :: r).getD k 0)) = (decide (b < a) && decr (b :: r))
    rw [List.range_succ_eq_map, List.all_cons, List.all_map, ← ih]
    rfl
def ltG : Itm → Option D := fun it => match it with | .two (.int i) (.int j) => some (.bl (decide (i < j))) | _ => none
theorem incr_zip : ∀ l : List Nat, ∃ bs : List Bool, (List.zipWith Itm.two (l.map nD) ((l.drop 1).map nD)).filterMap ltG = bs.map D.bl ∧ bs.all id = incr l
  | [] => ⟨[], rfl, rfl⟩
  | [a] => ⟨[], rfl, rfl⟩
  | a :: b :: r => by
    obtain ⟨bs, e1, e2⟩ := incr_zip (b :: r)
    refine ⟨decide (a < b) :: bs, ?_, ?_⟩
    · show (Itm.two (nD a) (nD b) :: List.zipWith Itm.two ((b :: r).map nD) (((b :: r).drop 1).map nD)).filterMap ltG = _
      rw [List.filterMap_cons, e1]
      show D.bl (decide ((a : Int) < (b : Int))) :: _ = _
      rw [decide_eq_decide.mpr (Int.ofNat_lt (n := a) (m := b))]
      rfl
    · show (decide (a < b) && bs.all id) = (decide (a < b) && incr (b :: r))
      rw [e2]
/-- where the line's things stand in an order -/
def plc (line o : List Nat) : List Nat := line.map fun x => o.idxOf x
def falls (line o : List Nat) : Bool := decr ((plc line o).take ((plc line o).idxOf 0 + 1)) && incr ((plc line o).drop ((plc line o).idxOf 0))
def allFalls (rs : List (Int × List Nat)) (line : List Nat) : Bool := rs.all fun p => falls line p.2
theorem plc_zero {line o : List Nat} {m : Nat} (m1 : 1 ≤ m) (hl : line.Perm (List.range m)) (ho : o.Perm (List.range m)) : 0 ∈ plc line o := by
  cases o with
  | nil => have := ho.length_eq; rw [List.length_range] at this; simp at this; omega
  | cons a r =>
    refine List.mem_map.mpr ⟨a, hl.symm.subset (ho.subset List.mem_cons_self), ?_⟩
    rw [List.idxOf_cons_self]
theorem getD_nD {l : List Nat} {k : Nat} (h : k < l.length) : (l.map nD)[k]? = some (nD (l.getD k 0)) := by
  rw [List.getElem?_map, List.getD_eq_getElem?_getD, List.getElem?_eq_getElem h]
  rfl
section
variable {Gm : Cfg} {tab : Nat → Option Fn}
theorem falls_ok {k : Nat} (hk : Has Gm tab k F_falls_along) (n : Nat) {line o : List Nat} {m : Nat} (m1 : 1 ≤ m) (m9 : m ≤ 9) (hl : line.Perm (List.range m)) (ho : o.Perm (List.range m)) : phi Gm tab (n + 1) k [(false, oD line), (false, oD o)] = some (.v (.bl (falls line o)), []) := of_ex (by
  have h0 := plc_zero m1 hl ho
  have ll : line.length = m := by rw [hl.length_eq, List.length_range]
  refine phi_ex hk.1 rfl ?_
  show wB Gm (phi Gm tab n) [] F_falls_along.body [some (false, oD line), some (false, oD o), none, none, none, none, none, none] _
  unfold falls
  array_get_dec
  refine w_compP rfl ?_
  array_get_dec
  refine ⟨fun it => match it with | .one (.int i) => some (nD (o.idxOf i.toNat)) | _ => none, fun x hx => ?_, ?_⟩
  · obtain ⟨d, hd, rfl⟩ := List.mem_map.mp hx
    obtain ⟨a, ha, rfl⟩ := List.mem_map.mp hd
    have ma : a ∈ o := ho.symm.subset (hl.subset ha)
    refine ⟨_, rfl, ?_⟩
    array_get_dec
    refine ⟨_, _, _, _, rfl, rfl, rfl, rfl, index_nT ma, ?_⟩
    array_get_dec
    rfl
  · have e : ((line.map nD).map Itm.one).filterMap (fun it => match it with | .one (.int i) => some (nD (o.idxOf i.toNat)) | _ => none) = (plc line o).map nD := by
      unfold plc
      rw [List.map_map, List.map_map]
      exact fm_all fun i hi => rfl
    rw [e]
    have pl0 : (plc line o).length = m := by unfold plc; rw [List.length_map, ll]
    generalize plc line o = P at h0 pl0 ⊢
    have hix : mthD .index (.lst (P.map nD)) (nD 0) = some (nD (P.idxOf 0)) := by
      simp only [mthD, itemsD, Option.bind_some]
      rw [flat_nD, if_pos (show (flatD (nD 0) && true) = true from rfl), find_nat h0]
      rfl
    array_get_dec
    refine ⟨_, _, _, _, rfl, rfl, rfl, rfl, hix, ?_⟩
    have ht : P.idxOf 0 < m := by rw [← pl0]; exact List.idxOf_lt_length_of_mem h0
    generalize P.idxOf 0 = t at ht ⊢
    have c1 : cut (P.map nD) none (some ((t : Int) + 1)) = (P.take (t + 1)).map nD := by rw [List.map_take]; exact cut_to (k := t + 1)
    have c2 : cut (P.map nD) (some (t : Int)) none = (P.drop t).map nD := by rw [List.map_drop]; exact cut_from (k := t)
    array_get_dec
    rw [c1, c2]
    have lA : (P.take (t + 1)).length = t + 1 := by rw [List.length_take]; omega
    have lB : (P.drop t).length = m - t := by rw [List.length_drop, pl0]
    have eA := decr_ix (P.take (t + 1))
    have eB := incr_ix (P.drop t)
    rw [← eA, ← eB]
    generalize P.take (t + 1) = A at lA ⊢
    generalize P.drop t = B at lB ⊢
    refine w_compP rfl ?_
    array_get_dec
    refine ⟨_, _, _, rfl, rfl, (by rw [List.length_map]; exact range2_ok (i := 1) (by omega) (by omega)), ?_⟩
    refine ⟨fun it => match it with | .one (.int i) => some (.bl (decide (A.getD i.toNat 0 < A.getD (i.toNat - 1) 0))) | _ => none, fun x hx => ?_, ?_⟩
    · obtain ⟨d, hd, rfl⟩ := List.mem_map.mp hx
      obtain ⟨k, hk, rfl⟩ := List.mem_map.mp hd
      have hk := List.mem_range.mp hk
      refine ⟨_, rfl, ?_⟩
      array_get_dec
      refine ⟨_, _, _, rfl, rfl, (by rw [show ((1 + k : Nat) : Int) - 1 = (k : Int) by omega]; exact idx_l (getD_nD (by omega))), ?_⟩
      array_get_dec
      refine ⟨_, _, _, rfl, rfl, idx_l (j := 1 + k) (getD_nD (by omega)), ?_⟩
      array_get_dec
      refine ⟨_, _, rfl, ?_, rfl⟩
      show some (D.bl (decide (A.getD ((1 + k : Nat) : Int).toNat 0 < A.getD (((1 + k : Nat) : Int).toNat - 1) 0))) = some (D.bl (decide (((A.getD (1 + k) 0 : Nat) : Int) < (A.getD k 0 : Nat))))
      rw [show ((1 + k : Nat) : Int).toNat = 1 + k by omega, show 1 + k - 1 = k by omega, decide_eq_decide.mpr (Int.ofNat_lt (n := A.getD (1 + k) 0) (m := A.getD k 0))]
    · have e2 : (((List.range (A.length - 1)).map fun (k : Nat) => D.int ((1 + k : Nat) : Int)).map Itm.one).filterMap (fun it => match it with | .one (.int i) => some (D.bl (decide (A.getD i.toNat 0 < A.getD (i.toNat - 1) 0))) | _ => none) = (List.range (A.length - 1)).map fun k => D.bl (decide (A.getD (k + 1) 0 < A.getD k 0)) := by
        rw [List.map_map]
        refine fm_all fun k hk => ?_
        show some (D.bl (decide (A.getD ((1 + k : Nat) : Int).toNat 0 < A.getD (((1 + k : Nat) : Int).toNat - 1) 0))) = _
        rw [show ((1 + k : Nat) : Int).toNat = k + 1 by omega, show k + 1 - 1 = k by omega]
      rw [e2]
      array_get_dec
      refine ⟨_, _, rfl, all_map _ _, ?_⟩
      array_get_dec
      generalize ((List.range (A.length - 1)).all fun k => decide (A.getD (k + 1) 0 < A.getD k 0)) = b1
      cases b1 with
      | false =>
        array_get_dec
        exact ⟨rfl, rfl⟩
      | true =>
        array_get_dec
        refine w_compP rfl ?_
        array_get_dec
        refine ⟨_, _, _, rfl, rfl, (by rw [List.length_map]; exact range2_ok (i := 1) (by omega) (by omega)), ?_⟩
        refine ⟨fun it => match it with | .one (.int i) => some (.bl (decide (B.getD (i.toNat - 1) 0 < B.getD i.toNat 0))) | _ => none, fun x hx => ?_, ?_⟩
        · obtain ⟨d, hd, rfl⟩ := List.mem_map.mp hx
          obtain ⟨k, hk, rfl⟩ := List.mem_map.mp hd
          have hk := List.mem_range.mp hk
          refine ⟨_, rfl, ?_⟩
          array_get_dec
          refine ⟨_, _, _, rfl, rfl, (by rw [show ((1 + k : Nat) : Int) - 1 = (k : Int) by omega]; exact idx_l (getD_nD (by omega))), ?_⟩
          array_get_dec
          refine ⟨_, _, _, rfl, rfl, idx_l (j := 1 + k) (getD_nD (by omega)), ?_⟩
          array_get_dec
          refine ⟨_, _, rfl, ?_, rfl⟩
          show some (D.bl (decide (B.getD (((1 + k : Nat) : Int).toNat - 1) 0 < B.getD ((1 + k : Nat) : Int).toNat 0))) = some (D.bl (decide (((B.getD k 0 : Nat) : Int) < (B.getD (1 + k) 0 : Nat))))
          rw [show ((1 + k : Nat) : Int).toNat = 1 + k by omega, show 1 + k - 1 = k by omega, decide_eq_decide.mpr (Int.ofNat_lt (n := B.getD k 0) (m := B.getD (1 + k) 0))]
        · have e3 : (((List.range (B.length - 1)).map fun (k : Nat) => D.int ((1 + k : Nat) : Int)).map Itm.one).filterMap (fun it => match it with | .one (.int i) => some (D.bl (decide (B.getD (i.toNat - 1) 0 < B.getD i.toNat 0))) | _ => none) = (List.range (B.length - 1)).map fun k => D.bl (decide (B.getD k 0 < B.getD (k + 1) 0)) := by
            rw [List.map_map]
            refine fm_all fun k hk => ?_
            show some (D.bl (decide (B.getD (((1 + k : Nat) : Int).toNat - 1) 0 < B.getD ((1 + k : Nat) : Int).toNat 0))) = _
            rw [show ((1 + k : Nat) : Int).toNat = k + 1 by omega, show k + 1 - 1 = k by omega]
          rw [e3]
          array_get_dec
          refine ⟨_, _, rfl, all_map _ _, ?_⟩
          array_get_dec
          exact ⟨rfl, rfl⟩)
end
end Bal

/-! BalO -/
set_option Elab.async false
set_option linter.all false
set_option maxRecDepth 100000
set_option maxHeartbeats 4000000
namespace Bal
open PySem Mi
/-! the signs of a repr -/
def SA (t : Str) : Prop := ∀ c ∈ t.cps.toList, c < 0x110000
theorem sa_app {a b : Str} (ha : SA a) (hb : SA b) : SA (a ++ b) := fun c h => by
  rcases PyProof.Rows.mem_cps_append.mp h with h | h
  · exact ha c h
  · exact hb c h
theorem sa_text : ∀ (ts : List Str) (k : Nat) (acc : Str), SA acc → (∀ t ∈ ts, SA t) → SA (textFrom k acc ts)
  | [], k, acc, ha, _ => ha
  | t :: r, k, acc, ha, h => by
    refine sa_text r (k + 1) _ (sa_app (sa_app ha ?_) (h t List.mem_cons_self)) fun u hu => h u (List.mem_cons_of_mem _ hu)
    unfold SA
    split <;> decide
theorem sa_list {ts : List Str} (h : ∀ t ∈ ts, SA t) : SA (listText ts) := sa_app (sa_text ts 0 _ (by unfold SA; decide) h) (by unfold SA; decide)
theorem sa_join : ∀ {ts : List Str}, (∀ t ∈ ts, SA t) → SA (Str.join ", " ts)
  | [], _ => by unfold SA; decide
  | [x], h => h x List.mem_cons_self
  | x :: y :: r, h => sa_app (sa_app (h x List.mem_cons_self) (by unfold SA; decide)) (sa_join fun t ht => h t (List.mem_cons_of_mem _ ht))
theorem sa_tup {ts : List Str} (h : ∀ t ∈ ts, SA t) : SA (tupleText ts) := by
  refine sa_app (sa_app (by unfold SA; decide) (sa_join h)) ?_
  unfold SA
  split <;> decide
theorem sa_int (i : Int) : SA (PyData.int i).shown := fun c h => by
  by_cases hc : 57 < c
  · exact absurd h (PyProof.Rows.shown_int_free' ⟨by omega, .inr hc⟩ i)
  · omega
mutual
/-- what stands in it, shown, is of short signs -/
def smt : D → Prop
  | .non => True | .bl _ => True | .int _ => True
  | .str s => SA (reprText s)
  | .tup l => smts l
  | .lst l => smts l
  | _ => False
def smts : List D → Prop
  | [] => True
  | d :: r => smt d ∧ smts r
end
mutual
theorem shown_sa : ∀ {d : D} {x : PyData}, smt d → toPy d = some x → SA x.shown
  | .non, x, _, e => by cases e; unfold SA; decide
  | .bl b, x, _, e => by cases e; cases b <;> (unfold SA; decide)
  | .int i, x, _, e => by cases e; exact sa_int i
  | .str s, x, h, e => by unfold smt at h; cases e; exact h
  | .tup l, x, h, e => by
    unfold smt at h
    simp only [toPy, Option.map_eq_some_iff] at e
    obtain ⟨xs, e, rfl⟩ := e
    exact sa_tup (shown_sas h e)
  | .lst l, x, h, e => by
    unfold smt at h
    simp only [toPy, Option.map_eq_some_iff] at e
    obtain ⟨xs, e, rfl⟩ := e
    exact sa_list (shown_sas h e)
  | .ty _, x, h, _ => by unfold smt at h; cases h
  | .ins _ _ _, x, h, _ => by unfold smt at h; cases h
  | .dct _ _, x, h, _ => by unfold smt at h; cases h
  | .scr _, x, h, _ => by unfold smt at h; cases h
theorem shown_sas : ∀ {l : List D} {xs : List PyData}, smts l → toPys l = some xs → ∀ t ∈ PyData.shownAll xs, SA t
  | [], xs, _, e => by cases e; intro t ht; cases ht
  | d :: r, xs, h, e => by
    unfold smts at h
    unfold toPys at e
    cases q : toPy d with
    | none => rw [q] at e; cases e
    | some y =>
      cases q2 : toPys r with
      | none => rw [q, q2] at e; cases e
      | some ys =>
        rw [q, q2] at e
        cases e
        intro t ht
        unfold PyData.shownAll at ht
        rcases List.mem_cons.mp ht with z | z
        · rw [z]; exact shown_sa h.1 q
        · exact shown_sas h.2 q2 t z
end
/-- a text is alike to itself -/
theorem ne_str {s : Str} (h : SA s) : cmpD .ne (.str s) (.str s) = some false := by
  simp only [cmpD]
  unfold eqD
  have h1 : SeqAt.shaped (.str s) = true := by
    unfold SeqAt.shaped
    have : PyData.strOk s = true := by
      unfold PyData.strOk
      rw [← Array.all_toList, List.all_eq_true]
      exact fun c hc => decide_eq_true (h c hc)
    simp [PyData.canLay0, this, PyData.depth]
  show (if SeqAt.shaped (.str s) = true ∧ SeqAt.shaped (.str s) = true then some (PyData.eqv (.str s) (.str s)) else none).map not = _
  rw [if_pos ⟨h1, h1⟩]
  simp [PyData.eqv]
theorem repr_sa {d : D} (h : sml d = true) (ht : smt d) (hd : dpt d ≤ 60) (hb : blk d ≤ 2 ^ 20) : ∃ s, reprD d = some s ∧ cmpD .ne (.str s) (.str s) = some false := by
  obtain ⟨x, e, a, b, c, k⟩ := sml_py h
  have key : (toPy d).bind (fun x => if x.showable = true ∧ x.depth ≤ 60 ∧ x.shown.length ≤ line then some x.shown else none) = some x.shown := by
    rw [e]
    show (if _ then _ else _) = _
    rw [if_pos ⟨b, by rw [c]; exact hd, PyData.shown_fits_bulk (by decide) (by decide) a (by rw [k]; exact hb)⟩]
  have n := ne_str (shown_sa ht e)
  cases d with
  | dct ks vs => unfold sml at h; cases h
  | _ => exact ⟨_, key, n⟩
theorem smt_ints : ∀ l : List Nat, smts (l.map nD)
  | [] => by unfold smts; trivial
  | x :: r => by rw [List.map_cons]; unfold smts smt; exact ⟨trivial, smt_ints r⟩
end Bal

/-! K83a -/
set_option Elab.async false
set_option linter.all false
set_option maxRecDepth 100000
set_option maxHeartbeats 4000000
namespace K83
open PySem PySem.Spec PyProof.Rows L2 Mi
def top (i : Nat) : Stmt := PySem.Challenge.pw_playershouse_k83_whole_walks_down_to_a_s.main.body.getD i (.Pass ⟨0, 0, 0, 0⟩)
/-! 0: _law_hand, slots script=0 cells=1 cell=2, owned [] -/
abbrev s__law_hand : Stmt := (top 34)
abbrev N__law_hand : List Str := ["script", "cells", "cell"]
theorem nd__law_hand : N__law_hand.Nodup := by decide +kernel
theorem sc__law_hand : FnScope N__law_hand ["script"] (defScope s__law_hand) := ⟨rfl, rfl, rfl, nd__law_hand, rfl, by decide +kernel, by decide +kernel⟩
abbrev F__law_hand : Fn := ⟨1, 3, [false], (.cons (.asg (.var 1) (.comp [2] (.var 2) (.seq (.sl (.var 0) .none (.some (.cint 63)))) .yes (.callb .abs (.cons (.callb .int (.cons (.var 2) .nil)) .nil)))) (.cons (.ret (.lst (.cons (.var 1) (.cons (.cint 0) (.cons (.cint 0) (.cons (.bin .add (.cint 227) (.bin .mul (.cint 31) (.callb .len (.cons (.var 1) .nil)))) (.cons (.cint 0) .nil))))))) .nil))⟩
/-! 1: _law_draw, slots hand=0 many=1 cell=2 digit=3 number=4, owned ['hand'] -/
abbrev s__law_draw : Stmt := (top 35)
abbrev N__law_draw : List Str := ["hand", "many", "cell", "digit", "number"]
theorem nd__law_draw : N__law_draw.Nodup := by decide +kernel
theorem sc__law_draw : FnScope N__law_draw ["hand", "many"] (defScope s__law_draw) := ⟨rfl, rfl, rfl, nd__law_draw, rfl, by decide +kernel, by decide +kernel⟩
abbrev F__law_draw : Fn := ⟨2, 5, [true, false], (.cons (.ite (.and (.val (.cmp .eq (.idx (.var 0) (.cint 2)) (.cint 0))) (.val (.cmp .lt (.idx (.var 0) (.cint 1)) (.callb .len (.cons (.idx (.var 0) (.cint 0)) .nil))))) (.cons (.asg (.var 2) (.idx (.idx (.var 0) (.cint 0)) (.idx (.var 0) (.cint 1)))) (.cons (.setix 0 (.cint 1) (.bin .add (.idx (.var 0) (.cint 1)) (.cint 1))) (.cons (.setix 0 (.cint 3) (.bin .mod (.callb .int (.cons (.bin .add (.bin .add (.bin .mul (.idx (.var 0) (.cint 3)) (.cint 69621)) (.bin .mul (.var 2) (.cint 48271))) (.cint 17)) .nil)) (.cint 2147483629))) (.cons (.ite (.val (.cmp .ge (.var 2) (.bin .pow (.cint 10) (.cint 18)))) (.cons (.setix 0 (.cint 2) (.var 2)) .nil) .nil) .nil)))) .nil) (.cons (.ite (.val (.cmp .gt (.idx (.var 0) (.cint 2)) (.cint 0))) (.cons (.asg (.var 3) (.bin .mod (.callb .int (.cons (.idx (.var 0) (.cint 2)) .nil)) (.var 1))) (.cons (.setix 0 (.cint 2) (.bin .fdiv (.idx (.var 0) (.cint 2)) (.var 1))) (.cons (.ret (.var 3)) .nil))) .nil) (.cons (.setix 0 (.cint 4) (.bin .add (.idx (.var 0) (.cint 4)) (.cint 1))) (.cons (.asg (.var 4) (.bin .mod (.callb .int (.cons (.bin .mul (.callb .int (.cons (.bin .add (.idx (.var 0) (.cint 3)) (.bin .mul (.cint 7919) (.idx (.var 0) (.cint 4)))) .nil)) (.cint 40692)) .nil)) (.cint 2147483647))) (.cons (.asg (.var 4) (.bin .mod (.callb .int (.cons (.bin .mul (.var 4) (.bin .add (.bin .fdiv (.var 4) (.cint 1009)) (.cint 69621))) .nil)) (.cint 2147483647))) (.cons (.asg (.var 4) (.bin .mod (.callb .int (.cons (.bin .mul (.var 4) (.bin .add (.bin .fdiv (.var 4) (.cint 2003)) (.cint 40014))) .nil)) (.cint 2147483563))) (.cons (.ret (.bin .mod (.callb .int (.cons (.bin .fdiv (.var 4) (.cint 16)) .nil)) (.var 1))) .nil)))))))⟩
/-! 2: _law_mixed, slots hand=0 things=1 left=2 found=3, owned ['found', 'hand', 'left'] -/
abbrev s__law_mixed : Stmt := (top 36)
abbrev N__law_mixed : List Str := ["hand", "things", "left", "found"]
theorem nd__law_mixed : N__law_mixed.Nodup := by decide +kernel
theorem sc__law_mixed : FnScope N__law_mixed ["hand", "things"] (defScope s__law_mixed) := ⟨rfl, rfl, rfl, nd__law_mixed, rfl, by decide +kernel, by decide +kernel⟩
abbrev F__law_mixed : Fn := ⟨2, 4, [true, false], (.cons (.par true [(2, true), (3, true)] (.cons (.callb .list (.cons (.var 1) .nil)) (.cons (.lst .nil) .nil))) (.cons (.whil (.val (.cmp .gt (.callb .len (.cons (.var 2) .nil)) (.cint 0))) (.cons (.expr (.mut .append 3 (.cons (.mut .pop 2 (.cons (.call 1 (.cons (.var 0) (.cons (.callb .len (.cons (.var 2) .nil)) .nil))) .nil)) .nil))) .nil)) (.cons (.ret (.var 3)) .nil)))⟩
/-! 3: _law_streets, slots hand=0 many=1 walkers=2 costs=3 street=4 walker=5 row=6 ways=7 some=8 turn=9 lot=10, owned ['costs', 'hand', 'some', 'ways'] -/
abbrev s__law_streets : Stmt := (top 41)
abbrev N__law_streets : List Str := ["hand", "many", "walkers", "costs", "street", "walker", "row", "ways", "some", "turn", "lot"]
theorem nd__law_streets : N__law_streets.Nodup := by decide +kernel
theorem sc__law_streets : FnScope N__law_streets ["hand"] (defScope s__law_streets) := ⟨rfl, rfl, rfl, nd__law_streets, rfl, by decide +kernel, by decide +kernel⟩
abbrev F__law_streets : Fn := ⟨1, 11, [true], (.cons (.par true [(1, false), (2, false)] (.cons (.bin .add (.cint 1) (.call 1 (.cons (.var 0) (.cons (.cint 5) .nil)))) (.cons (.bin .add (.cint 1) (.call 1 (.cons (.var 0) (.cons (.cint 4) .nil)))) .nil))) (.cons (.own 3 (.lst .nil)) (.cons (.for_ (.var 4) (.range1 (.var 1)) (.cons (.asg (.var 6) (.comp [5] (.var 5) (.range1 (.var 2)) .yes (.call 1 (.cons (.var 0) (.cons (.cint 9) .nil))))) (.cons (.expr (.mut .append 3 (.cons (.callb .tuple (.cons (.ite (.val (.cmp .gt (.call 1 (.cons (.var 0) (.cons (.cint 3) .nil))) (.cint 0))) (.callb .sorted (.cons (.var 6) .nil)) (.var 6)) .nil)) .nil))) .nil))) (.cons (.own 7 (.lst .nil)) (.cons (.for_ (.var 5) (.range1 (.var 2)) (.cons (.own 8 (.lst .nil)) (.cons (.for_ (.var 9) (.range1 (.bin .add (.cint 1) (.call 1 (.cons (.var 0) (.cons (.cint 3) .nil))))) (.cons (.asg (.var 10) (.callb .tuple (.cons (.callb .sorted (.cons (.sl (.call 2 (.cons (.var 0) (.cons (.lrange (.cons (.var 1) .nil)) .nil))) .none (.some (.bin .add (.cint 1) (.call 1 (.cons (.var 0) (.cons (.var 1) .nil)))))) .nil)) .nil))) (.cons (.expr (.mut .extend 8 (.cons (.ite (.val (.cmp .nin (.var 10) (.var 8))) (.lst (.cons (.var 10) .nil)) (.lst .nil)) .nil))) .nil))) (.cons (.expr (.mut .append 7 (.cons (.callb .tuple (.cons (.var 8) .nil)) .nil))) .nil)))) (.cons (.ret (.tup (.cons (.callb .tuple (.cons (.var 3) .nil)) (.cons (.callb .tuple (.cons (.var 7) .nil)) .nil)))) .nil))))))⟩
/-! 4: is_sized, slots thing=0 least=1 most=2, owned [] -/
abbrev s_is_sized : Stmt := (top 5)
abbrev N_is_sized : List Str := ["thing", "least", "most"]
theorem nd_is_sized : N_is_sized.Nodup := by decide +kernel
theorem sc_is_sized : FnScope N_is_sized ["thing", "least", "most"] (defScope s_is_sized) := ⟨rfl, rfl, rfl, nd_is_sized, rfl, by decide +kernel, by decide +kernel⟩
abbrev F_is_sized : Fn := ⟨3, 3, [false, false, false], (.cons (.ret (.andv (.callb .isi (.cons (.var 0) (.cons (.cty "tuple") .nil))) (.chain .le .le (.var 1) (.callb .len (.cons (.var 0) .nil)) (.var 2)))) .nil)⟩
/-! 5: is_integer, slots thing=0, owned [] -/
abbrev s_is_integer : Stmt := (top 1)
abbrev N_is_integer : List Str := ["thing"]
theorem nd_is_integer : N_is_integer.Nodup := by decide +kernel
theorem sc_is_integer : FnScope N_is_integer ["thing"] (defScope s_is_integer) := ⟨rfl, rfl, rfl, nd_is_integer, rfl, by decide +kernel, by decide +kernel⟩
abbrev F_is_integer : Fn := ⟨1, 1, [false], (.cons (.ret (.andv (.callb .isi (.cons (.var 0) (.cons (.cty "int") .nil))) (.notv (.callb .isi (.cons (.var 0) (.cons (.cty "bool") .nil)))))) .nil)⟩
/-! 6: is_within, slots thing=0 least=1 most=2, owned [] -/
abbrev s_is_within : Stmt := (top 2)
abbrev N_is_within : List Str := ["thing", "least", "most"]
theorem nd_is_within : N_is_within.Nodup := by decide +kernel
theorem sc_is_within : FnScope N_is_within ["thing", "least", "most"] (defScope s_is_within) := ⟨rfl, rfl, rfl, nd_is_within, rfl, by decide +kernel, by decide +kernel⟩
abbrev F_is_within : Fn := ⟨3, 3, [false, false, false], (.cons (.ret (.andv (.call 5 (.cons (.var 0) .nil)) (.chain .le .le (.var 1) (.var 0) (.var 2)))) .nil)⟩
/-! 7: is_lot, slots thing=0 many=1 one=2 at=3, owned [] -/
abbrev s_is_lot : Stmt := (top 6)
abbrev N_is_lot : List Str := ["thing", "many", "one", "at"]
theorem nd_is_lot : N_is_lot.Nodup := by decide +kernel
theorem sc_is_lot : FnScope N_is_lot ["thing", "many"] (defScope s_is_lot) := ⟨rfl, rfl, rfl, nd_is_lot, rfl, by decide +kernel, by decide +kernel⟩
abbrev F_is_lot : Fn := ⟨2, 4, [false, false], (.cons (.ite (.or (.not (.val (.callb .isi (.cons (.var 0) (.cons (.cty "tuple") .nil))))) (.not (.val (.callb .all (.cons (.comp [2] (.var 2) (.seq (.var 0)) .yes (.call 6 (.cons (.var 2) (.cons (.cint 0) (.cons (.bin .sub (.var 1) (.cint 1)) .nil))))) .nil))))) (.cons (.ret (.cbl false)) .nil) .nil) (.cons (.ret (.callb .all (.cons (.comp [3] (.var 3) (.range2 (.cint 1) (.callb .len (.cons (.var 0) .nil))) .yes (.cmp .lt (.idx (.var 0) (.bin .sub (.var 3) (.cint 1))) (.idx (.var 0) (.var 3)))) .nil))) .nil))⟩
/-! 8: is_tuple, slots thing=0 size=1, owned [] -/
abbrev s_is_tuple : Stmt := (top 4)
abbrev N_is_tuple : List Str := ["thing", "size"]
theorem nd_is_tuple : N_is_tuple.Nodup := by decide +kernel
theorem sc_is_tuple : FnScope N_is_tuple ["thing", "size"] (defScope s_is_tuple) := ⟨rfl, rfl, rfl, nd_is_tuple, rfl, by decide +kernel, by decide +kernel⟩
abbrev F_is_tuple : Fn := ⟨2, 2, [false, false], (.cons (.ret (.andv (.callb .isi (.cons (.var 0) (.cons (.cty "tuple") .nil))) (.cmp .eq (.callb .len (.cons (.var 0) .nil)) (.var 1)))) .nil)⟩
/-! 9: is_number, slots thing=0, owned [] -/
abbrev s_is_number : Stmt := (top 3)
abbrev N_is_number : List Str := ["thing"]
theorem nd_is_number : N_is_number.Nodup := by decide +kernel
theorem sc_is_number : FnScope N_is_number ["thing"] (defScope s_is_number) := ⟨rfl, rfl, rfl, nd_is_number, rfl, by decide +kernel, by decide +kernel⟩
abbrev F_is_number : Fn := ⟨1, 1, [false], (.cons (.ret (.andv (.call 5 (.cons (.var 0) .nil)) (.cmp .ge (.var 0) (.cint 0)))) .nil)⟩
/-! 10: Streets, slots self=0 costs=1 ways=2 row=3 way=4 one=5, owned ['self'] -/
abbrev s_Streets : Stmt := (inClass (top 19) 0)
abbrev N_Streets : List Str := ["self", "costs", "ways", "row", "way", "one"]
theorem nd_Streets : N_Streets.Nodup := by decide +kernel
theorem sc_Streets : FnScope N_Streets ["self", "costs", "ways"] (defScope s_Streets) := ⟨rfl, rfl, rfl, nd_Streets, rfl, by decide +kernel, by decide +kernel⟩
abbrev F_Streets : Fn := ⟨3, 6, [true, false, false], (.cons (.ite (.not (.val (.call 4 (.cons (.var 1) (.cons (.cint 1) (.cons (.glob 0) .nil)))))) (.cons .never .nil) .nil) (.cons (.ite (.or (.not (.val (.call 4 (.cons (.var 2) (.cons (.cint 1) (.cons (.glob 1) .nil)))))) (.not (.val (.callb .all (.cons (.comp [3] (.var 3) (.seq (.var 2)) .yes (.call 4 (.cons (.var 3) (.cons (.cint 1) (.cons (.glob 2) .nil))))) .nil))))) (.cons .never .nil) .nil) (.cons (.ite (.not (.val (.callb .all (.cons (.comp2 [3, 4] [4] (.var 3) (.seq (.var 2)) .yes (.var 4) (.seq (.var 3)) .yes (.andv (.call 7 (.cons (.var 4) (.cons (.callb .len (.cons (.var 1) .nil)) .nil))) (.cmp .gt (.callb .len (.cons (.var 4) .nil)) (.cint 0)))) .nil)))) (.cons .never .nil) .nil) (.cons (.ite (.not (.val (.callb .all (.cons (.comp [3] (.var 3) (.seq (.var 1)) .yes (.call 8 (.cons (.var 3) (.cons (.callb .len (.cons (.var 2) .nil)) .nil)))) .nil)))) (.cons .never .nil) .nil) (.cons (.ite (.not (.val (.callb .all (.cons (.comp2 [3, 5] [5] (.var 3) (.seq (.var 1)) .yes (.var 5) (.seq (.var 3)) .yes (.call 9 (.cons (.var 5) .nil))) .nil)))) (.cons .never .nil) .nil) (.cons (.setat 0 "costs" (.var 1)) (.cons (.setat 0 "ways" (.var 2)) .nil)))))))⟩
/-! 11: _law_crowds, slots costs=0 ways=1 choices=2 found=3 some=4 choice=5 street=6, owned ['found'] -/
abbrev s__law_crowds : Stmt := (top 42)
abbrev N__law_crowds : List Str := ["costs", "ways", "choices", "found", "some", "choice", "street"]
theorem nd__law_crowds : N__law_crowds.Nodup := by decide +kernel
theorem sc__law_crowds : FnScope N__law_crowds ["costs", "ways", "choices"] (defScope s__law_crowds) := ⟨rfl, rfl, rfl, nd__law_crowds, rfl, by decide +kernel, by decide +kernel⟩
abbrev F__law_crowds : Fn := ⟨3, 7, [false, false, false], (.cons (.own 3 (.bin .mul (.lst (.cons (.cint 0) .nil)) (.callb .len (.cons (.var 0) .nil)))) (.cons (.for_ (.cons (.var 4) (.cons (.var 5) .nil)) (.zip (.var 1) (.var 2)) (.cons (.for_ (.var 6) (.seq (.idx (.var 4) (.var 5))) (.cons (.setix 3 (.var 6) (.bin .add (.idx (.var 3) (.var 6)) (.cint 1))) .nil)) .nil)) (.cons (.ret (.var 3)) .nil)))⟩
/-! 12: _law_paid, slots costs=0 ways=1 choices=2 crowds=3 found=4 some=5 choice=6 street=7, owned ['found'] -/
abbrev s__law_paid : Stmt := (top 43)
abbrev N__law_paid : List Str := ["costs", "ways", "choices", "crowds", "found", "some", "choice", "street"]
theorem nd__law_paid : N__law_paid.Nodup := by decide +kernel
theorem sc__law_paid : FnScope N__law_paid ["costs", "ways", "choices"] (defScope s__law_paid) := ⟨rfl, rfl, rfl, nd__law_paid, rfl, by decide +kernel, by decide +kernel⟩
abbrev F__law_paid : Fn := ⟨3, 8, [false, false, false], (.cons (.asg (.var 3) (.call 11 (.cons (.var 0) (.cons (.var 1) (.cons (.var 2) .nil))))) (.cons (.own 4 (.lst .nil)) (.cons (.for_ (.cons (.var 5) (.cons (.var 6) .nil)) (.zip (.var 1) (.var 2)) (.cons (.expr (.mut .append 4 (.cons (.callb .sum (.cons (.comp [7] (.var 7) (.seq (.idx (.var 5) (.var 6))) .yes (.idx (.idx (.var 0) (.var 7)) (.bin .sub (.idx (.var 3) (.var 7)) (.cint 1)))) .nil)) .nil))) .nil)) (.cons (.ret (.var 4)) .nil))))⟩
/-! 13: _law_next, slots costs=0 ways=1 choices=2 walker=3 best=4 way=5 later=6 cost=7, owned [] -/
abbrev s__law_next : Stmt := (top 44)
abbrev N__law_next : List Str := ["costs", "ways", "choices", "walker", "best", "way", "later", "cost"]
theorem nd__law_next : N__law_next.Nodup := by decide +kernel
theorem sc__law_next : FnScope N__law_next ["costs", "ways", "choices", "walker"] (defScope s__law_next) := ⟨rfl, rfl, rfl, nd__law_next, rfl, by decide +kernel, by decide +kernel⟩
abbrev F__law_next : Fn := ⟨4, 8, [false, false, false, false], (.cons (.asg (.var 4) .cnon) (.cons (.for_ (.var 5) (.range1 (.callb .len (.cons (.idx (.var 1) (.var 3)) .nil))) (.cons (.asg (.var 6) (.bin .add (.bin .add (.sl (.var 2) .none (.some (.var 3))) (.tup (.cons (.var 5) .nil))) (.sl (.var 2) (.some (.bin .add (.var 3) (.cint 1))) .none))) (.cons (.asg (.var 7) (.idx (.call 12 (.cons (.var 0) (.cons (.var 1) (.cons (.var 6) .nil)))) (.var 3))) (.cons (.asg (.var 4) (.ite (.or (.val (.cmp .iss (.var 4) .cnon)) (.val (.cmp .lt (.var 7) (.idx (.var 4) (.cint 0))))) (.tup (.cons (.var 7) (.cons (.var 6) .nil))) (.var 4))) .nil)))) (.cons (.ret (.ite (.val (.cmp .lt (.idx (.var 4) (.cint 0)) (.idx (.call 12 (.cons (.var 0) (.cons (.var 1) (.cons (.var 2) .nil)))) (.var 3)))) (.idx (.var 4) (.cint 1)) .cnon)) .nil)))⟩
/-! 14: _law_walk, slots costs=0 ways=1 choices=2 found=3 is_more=4 walker=5 later=6, owned ['found'] -/
abbrev s__law_walk : Stmt := (top 45)
abbrev N__law_walk : List Str := ["costs", "ways", "choices", "found", "is_more", "walker", "later"]
theorem nd__law_walk : N__law_walk.Nodup := by decide +kernel
theorem sc__law_walk : FnScope N__law_walk ["costs", "ways", "choices"] (defScope s__law_walk) := ⟨rfl, rfl, rfl, nd__law_walk, rfl, by decide +kernel, by decide +kernel⟩
abbrev F__law_walk : Fn := ⟨3, 7, [false, false, false], (.cons (.par true [(3, true), (4, false)] (.cons (.lst (.cons (.var 2) .nil)) (.cons (.cbl true) .nil))) (.cons (.whil (.val (.var 4)) (.cons (.asg (.var 4) (.cbl false)) (.cons (.for_ (.var 5) (.range1 (.callb .len (.cons (.var 1) .nil))) (.cons (.asg (.var 6) (.call 13 (.cons (.var 0) (.cons (.var 1) (.cons (.idx (.var 3) (.neg (.cint 1))) (.cons (.var 5) .nil)))))) (.cons (.ite (.val (.cmp .isn (.var 6) .cnon)) (.cons (.expr (.mut .append 3 (.cons (.var 6) .nil))) (.cons (.asg (.var 4) (.cbl true)) (.cons .brk .nil))) .nil) .nil))) .nil))) (.cons (.ret (.var 3)) .nil)))⟩
/-! 15: are_choices, slots streets=0 thing=1 one=2 row=3, owned [] -/
abbrev s_are_choices : Stmt := (top 20)
abbrev N_are_choices : List Str := ["streets", "thing", "one", "row"]
theorem nd_are_choices : N_are_choices.Nodup := by decide +kernel
theorem sc_are_choices : FnScope N_are_choices ["streets", "thing"] (defScope s_are_choices) := ⟨rfl, rfl, rfl, nd_are_choices, rfl, by decide +kernel, by decide +kernel⟩
abbrev F_are_choices : Fn := ⟨2, 4, [false, false], (.cons (.ite (.not (.val (.call 8 (.cons (.var 1) (.cons (.callb .len (.cons (.attr (.var 0) "ways") .nil)) .nil))))) (.cons (.ret (.cbl false)) .nil) .nil) (.cons (.ret (.callb .all (.cons (.comp [2, 3] (.cons (.var 2) (.cons (.var 3) .nil)) (.zip (.var 1) (.attr (.var 0) "ways")) .yes (.call 6 (.cons (.var 2) (.cons (.cint 0) (.cons (.bin .sub (.callb .len (.cons (.var 3) .nil)) (.cint 1)) .nil))))) .nil))) .nil))⟩
/-! 16: check_choices, slots streets=0 thing=1, owned [] -/
abbrev s_check_choices : Stmt := (top 21)
abbrev N_check_choices : List Str := ["streets", "thing"]
theorem nd_check_choices : N_check_choices.Nodup := by decide +kernel
theorem sc_check_choices : FnScope N_check_choices ["streets", "thing"] (defScope s_check_choices) := ⟨rfl, rfl, rfl, nd_check_choices, rfl, by decide +kernel, by decide +kernel⟩
abbrev F_check_choices : Fn := ⟨2, 2, [false, false], (.cons (.ite (.not (.val (.call 15 (.cons (.var 0) (.cons (.var 1) .nil))))) (.cons .never .nil) .nil) .nil)⟩
/-! 17: counts_of, slots streets=0 choices=1 found=2 walker=3 one=4 street=5, owned ['found'] -/
abbrev s_counts_of : Stmt := (top 22)
abbrev N_counts_of : List Str := ["streets", "choices", "found", "walker", "one", "street"]
theorem nd_counts_of : N_counts_of.Nodup := by decide +kernel
theorem sc_counts_of : FnScope N_counts_of ["streets", "choices"] (defScope s_counts_of) := ⟨rfl, rfl, rfl, nd_counts_of, rfl, by decide +kernel, by decide +kernel⟩
abbrev F_counts_of : Fn := ⟨2, 6, [false, false], (.cons (.own 2 (.bin .mul (.lst (.cons (.cint 0) .nil)) (.callb .len (.cons (.attr (.var 0) "costs") .nil)))) (.cons (.for_ (.cons (.var 3) (.cons (.var 4) .nil)) (.enum (.var 1)) (.cons (.for_ (.var 5) (.seq (.idx (.idx (.attr (.var 0) "ways") (.var 3)) (.var 4))) (.cons (.augix 2 (.var 5) .add (.cint 1)) .nil)) .nil)) (.cons (.ret (.var 2)) .nil)))⟩
/-! 18: raw_costs, slots streets=0 choices=1 counts=2 found=3 walker=4 one=5 street=6, owned ['found'] -/
abbrev s_raw_costs : Stmt := (top 23)
abbrev N_raw_costs : List Str := ["streets", "choices", "counts", "found", "walker", "one", "street"]
theorem nd_raw_costs : N_raw_costs.Nodup := by decide +kernel
theorem sc_raw_costs : FnScope N_raw_costs ["streets", "choices"] (defScope s_raw_costs) := ⟨rfl, rfl, rfl, nd_raw_costs, rfl, by decide +kernel, by decide +kernel⟩
abbrev F_raw_costs : Fn := ⟨2, 7, [false, false], (.cons (.par false [(2, false), (3, true)] (.cons (.call 17 (.cons (.var 0) (.cons (.var 1) .nil))) (.cons (.lst .nil) .nil))) (.cons (.for_ (.cons (.var 4) (.cons (.var 5) .nil)) (.enum (.var 1)) (.cons (.expr (.mut .append 3 (.cons (.callb .sum (.cons (.comp [6] (.var 6) (.seq (.idx (.idx (.attr (.var 0) "ways") (.var 4)) (.var 5))) .yes (.idx (.idx (.attr (.var 0) "costs") (.var 6)) (.bin .sub (.idx (.var 2) (.var 6)) (.cint 1)))) .nil)) .nil))) .nil)) (.cons (.ret (.callb .tuple (.cons (.var 3) .nil))) .nil)))⟩
/-! 19: with_choice, slots choices=0 walker=1 one=2, owned [] -/
abbrev s_with_choice : Stmt := (top 25)
abbrev N_with_choice : List Str := ["choices", "walker", "one"]
theorem nd_with_choice : N_with_choice.Nodup := by decide +kernel
theorem sc_with_choice : FnScope N_with_choice ["choices", "walker", "one"] (defScope s_with_choice) := ⟨rfl, rfl, rfl, nd_with_choice, rfl, by decide +kernel, by decide +kernel⟩
abbrev F_with_choice : Fn := ⟨3, 3, [false, false, false], (.cons (.ret (.bin .add (.bin .add (.sl (.var 0) .none (.some (.var 1))) (.tup (.cons (.var 2) .nil))) (.sl (.var 0) (.some (.bin .add (.var 1) (.cint 1))) .none))) .nil)⟩
/-! 20: best_way, slots streets=0 choices=1 walker=2 row=3 one=4, owned [] -/
abbrev s_best_way : Stmt := (top 26)
abbrev N_best_way : List Str := ["streets", "choices", "walker", "row", "one"]
theorem nd_best_way : N_best_way.Nodup := by decide +kernel
theorem sc_best_way : FnScope N_best_way ["streets", "choices", "walker"] (defScope s_best_way) := ⟨rfl, rfl, rfl, nd_best_way, rfl, by decide +kernel, by decide +kernel⟩
abbrev F_best_way : Fn := ⟨3, 5, [false, false, false], (.cons (.asg (.var 3) (.comp [4] (.var 4) (.range1 (.callb .len (.cons (.idx (.attr (.var 0) "ways") (.var 2)) .nil))) .yes (.idx (.call 18 (.cons (.var 0) (.cons (.call 19 (.cons (.var 1) (.cons (.var 2) (.cons (.var 4) .nil)))) .nil))) (.var 2)))) (.cons (.ret (.ite (.val (.cmp .eq (.idx (.var 3) (.idx (.var 1) (.var 2))) (.callb .min (.cons (.var 3) .nil)))) (.idx (.var 1) (.var 2)) (.meth .index (.var 3) (.callb .min (.cons (.var 3) .nil))))) .nil))⟩
/-! 21: is_settled, slots streets=0 thing=1 walker=2 one=3, owned [] -/
abbrev s_is_settled : Stmt := (top 27)
abbrev N_is_settled : List Str := ["streets", "thing", "walker", "one"]
theorem nd_is_settled : N_is_settled.Nodup := by decide +kernel
theorem sc_is_settled : FnScope N_is_settled ["streets", "thing"] (defScope s_is_settled) := ⟨rfl, rfl, rfl, nd_is_settled, rfl, by decide +kernel, by decide +kernel⟩
abbrev F_is_settled : Fn := ⟨2, 4, [false, false], (.cons (.ite (.not (.val (.call 15 (.cons (.var 0) (.cons (.var 1) .nil))))) (.cons (.ret (.cbl false)) .nil) .nil) (.cons (.ret (.callb .all (.cons (.comp [2, 3] (.cons (.var 2) (.cons (.var 3) .nil)) (.enum (.var 1)) .yes (.cmp .eq (.call 20 (.cons (.var 0) (.cons (.var 1) (.cons (.var 2) .nil)))) (.var 3))) .nil))) .nil))⟩
/-! 22: walk_down, slots streets=0 choices=1 found=2 unsettled=3 one=4, owned ['found'] -/
abbrev s_walk_down : Stmt := (top 31)
abbrev N_walk_down : List Str := ["streets", "choices", "found", "unsettled", "one"]
theorem nd_walk_down : N_walk_down.Nodup := by decide +kernel
theorem sc_walk_down : FnScope N_walk_down ["streets", "choices"] (defScope s_walk_down) := ⟨rfl, rfl, rfl, nd_walk_down, rfl, by decide +kernel, by decide +kernel⟩
abbrev F_walk_down : Fn := ⟨2, 5, [false, false], (.cons (.expr (.call 16 (.cons (.var 0) (.cons (.var 1) .nil)))) (.cons (.own 2 (.lst (.cons (.var 1) .nil))) (.cons (.whil (.not (.val (.call 21 (.cons (.var 0) (.cons (.var 1) .nil))))) (.cons (.asg (.var 3) (.comp [4] (.var 4) (.range1 (.callb .len (.cons (.var 1) .nil))) (.val (.cmp .ne (.call 20 (.cons (.var 0) (.cons (.var 1) (.cons (.var 4) .nil)))) (.idx (.var 1) (.var 4)))) (.var 4))) (.cons (.asg (.var 1) (.call 19 (.cons (.var 1) (.cons (.idx (.var 3) (.cint 0)) (.cons (.call 20 (.cons (.var 0) (.cons (.var 1) (.cons (.idx (.var 3) (.cint 0)) .nil)))) .nil))))) (.cons (.expr (.mut .append 2 (.cons (.var 1) .nil))) .nil)))) (.cons (.ret (.var 2)) .nil))))⟩
/-! 23: _law_is, slots mine=0 yours=1, owned [] -/
abbrev s__law_is : Stmt := (top 37)
abbrev N__law_is : List Str := ["mine", "yours"]
theorem nd__law_is : N__law_is.Nodup := by decide +kernel
theorem sc__law_is : FnScope N__law_is ["mine", "yours"] (defScope s__law_is) := ⟨rfl, rfl, rfl, nd__law_is, rfl, by decide +kernel, by decide +kernel⟩
abbrev F__law_is : Fn := ⟨2, 2, [false, false], (.cons (.ret (.cmp .eq (.callb .repr (.cons (.var 0) .nil)) (.callb .repr (.cons (.var 1) .nil)))) .nil)⟩
/-! 24: costs_of, slots streets=0 choices=1, owned [] -/
abbrev s_costs_of : Stmt := (top 24)
abbrev N_costs_of : List Str := ["streets", "choices"]
theorem nd_costs_of : N_costs_of.Nodup := by decide +kernel
theorem sc_costs_of : FnScope N_costs_of ["streets", "choices"] (defScope s_costs_of) := ⟨rfl, rfl, rfl, nd_costs_of, rfl, by decide +kernel, by decide +kernel⟩
abbrev F_costs_of : Fn := ⟨2, 2, [false, false], (.cons (.expr (.call 16 (.cons (.var 0) (.cons (.var 1) .nil)))) (.cons (.ret (.call 18 (.cons (.var 0) (.cons (.var 1) .nil)))) .nil))⟩
/-! 25: height_of, slots streets=0 choices=1 row=2 many=3, owned [] -/
abbrev s_height_of : Stmt := (top 30)
abbrev N_height_of : List Str := ["streets", "choices", "row", "many"]
theorem nd_height_of : N_height_of.Nodup := by decide +kernel
theorem sc_height_of : FnScope N_height_of ["streets", "choices"] (defScope s_height_of) := ⟨rfl, rfl, rfl, nd_height_of, rfl, by decide +kernel, by decide +kernel⟩
abbrev F_height_of : Fn := ⟨2, 4, [false, false], (.cons (.expr (.call 16 (.cons (.var 0) (.cons (.var 1) .nil)))) (.cons (.ret (.callb .sum (.cons (.comp [2, 3] (.cons (.var 2) (.cons (.var 3) .nil)) (.zip (.attr (.var 0) "costs") (.call 17 (.cons (.var 0) (.cons (.var 1) .nil)))) .yes (.callb .sum (.cons (.sl (.var 2) .none (.some (.var 3))) .nil))) .nil))) .nil))⟩
/-! 26: _law_walk_right, slots costs=0 ways=1 choices=2 streets=3 due=4 told=5 one=6 other=7 walker=8 saved=9 at=10, owned [] -/
abbrev s__law_walk_right : Stmt := (top 47)
abbrev N__law_walk_right : List Str := ["costs", "ways", "choices", "streets", "due", "told", "one", "other", "walker", "saved", "at"]
theorem nd__law_walk_right : N__law_walk_right.Nodup := by decide +kernel
theorem sc__law_walk_right : FnScope N__law_walk_right ["costs", "ways", "choices"] (defScope s__law_walk_right) := ⟨rfl, rfl, rfl, nd__law_walk_right, rfl, by decide +kernel, by decide +kernel⟩
abbrev F__law_walk_right : Fn := ⟨3, 11, [false, false, false], (.cons (.par true [(3, false), (4, false)] (.cons (.make 10 (.cons (.var 0) (.cons (.var 1) .nil))) (.cons (.call 14 (.cons (.var 0) (.cons (.var 1) (.cons (.var 2) .nil)))) .nil))) (.cons (.asg (.var 5) (.call 22 (.cons (.var 3) (.cons (.var 2) .nil)))) (.cons (.ite (.or (.not (.val (.call 23 (.cons (.comp [6] (.var 6) (.seq (.var 5)) .yes (.callb .tuple (.cons (.var 6) .nil))) (.cons (.var 4) .nil))))) (.not (.val (.callb .isi (.cons (.var 5) (.cons (.cty "list") .nil)))))) (.cons (.ret (.cbl false)) .nil) .nil) (.cons (.ite (.or (.val (.cmp .ne (.idx (.var 5) (.cint 0)) (.var 2))) (.val (.cmp .isn (.call 21 (.cons (.var 3) (.cons (.idx (.var 5) (.neg (.cint 1))) .nil))) (.cbl true)))) (.cons (.ret (.cbl false)) .nil) .nil) (.cons (.for_ (.cons (.var 6) (.cons (.var 7) .nil)) (.zip (.var 5) (.sl (.var 5) (.some (.cint 1)) .none)) (.cons (.asg (.var 8) (.idx (.comp [10] (.var 10) (.range1 (.callb .len (.cons (.var 6) .nil))) (.val (.cmp .ne (.idx (.var 6) (.var 10)) (.idx (.var 7) (.var 10)))) (.var 10)) (.cint 0))) (.cons (.asg (.var 9) (.bin .sub (.idx (.call 24 (.cons (.var 3) (.cons (.var 6) .nil))) (.var 8)) (.idx (.call 24 (.cons (.var 3) (.cons (.var 7) .nil))) (.var 8)))) (.cons (.ite (.or (.val (.cmp .lt (.var 9) (.cint 1))) (.val (.cmp .ne (.bin .sub (.call 25 (.cons (.var 3) (.cons (.var 6) .nil))) (.call 25 (.cons (.var 3) (.cons (.var 7) .nil)))) (.var 9)))) (.cons (.ret (.cbl false)) .nil) .nil) .nil)))) (.cons (.ret (.cmp .eq (.callb .len (.cons (.call 22 (.cons (.var 3) (.cons (.idx (.var 5) (.neg (.cint 1))) .nil))) .nil)) (.cint 1))) .nil))))))⟩
/-! 27: all_tuples, slots sizes=0 found=1 size=2 row=3 one=4, owned [] -/
abbrev s_all_tuples : Stmt := (top 7)
abbrev N_all_tuples : List Str := ["sizes", "found", "size", "row", "one"]
theorem nd_all_tuples : N_all_tuples.Nodup := by decide +kernel
theorem sc_all_tuples : FnScope N_all_tuples ["sizes"] (defScope s_all_tuples) := ⟨rfl, rfl, rfl, nd_all_tuples, rfl, by decide +kernel, by decide +kernel⟩
abbrev F_all_tuples : Fn := ⟨1, 5, [false], (.cons (.asg (.var 1) (.lst (.cons (.tup .nil) .nil))) (.cons (.for_ (.var 2) (.seq (.var 0)) (.cons (.asg (.var 1) (.comp2 [3, 4] [4] (.var 3) (.seq (.var 1)) .yes (.var 4) (.range1 (.var 2)) .yes (.bin .add (.var 3) (.tup (.cons (.var 4) .nil))))) .nil)) (.cons (.ret (.var 1)) .nil)))⟩
/-! 28: all_choices, slots streets=0 row=1, owned [] -/
abbrev s_all_choices : Stmt := (top 28)
abbrev N_all_choices : List Str := ["streets", "row"]
theorem nd_all_choices : N_all_choices.Nodup := by decide +kernel
theorem sc_all_choices : FnScope N_all_choices ["streets"] (defScope s_all_choices) := ⟨rfl, rfl, rfl, nd_all_choices, rfl, by decide +kernel, by decide +kernel⟩
abbrev F_all_choices : Fn := ⟨1, 2, [false], (.cons (.ret (.call 27 (.cons (.comp [1] (.var 1) (.seq (.attr (.var 0) "ways")) .yes (.callb .len (.cons (.var 1) .nil))) .nil))) .nil)⟩
/-! 29: all_settled, slots streets=0 choices=1, owned [] -/
abbrev s_all_settled : Stmt := (top 29)
abbrev N_all_settled : List Str := ["streets", "choices"]
theorem nd_all_settled : N_all_settled.Nodup := by decide +kernel
theorem sc_all_settled : FnScope N_all_settled ["streets"] (defScope s_all_settled) := ⟨rfl, rfl, rfl, nd_all_settled, rfl, by decide +kernel, by decide +kernel⟩
abbrev F_all_settled : Fn := ⟨1, 2, [false], (.cons (.ret (.comp [1] (.var 1) (.seq (.call 28 (.cons (.var 0) .nil))) (.val (.call 21 (.cons (.var 0) (.cons (.var 1) .nil)))) (.var 1))) .nil)⟩
/-! 30: divisor_of, slots one=0 other=1, owned [] -/
abbrev s_divisor_of : Stmt := (top 13)
abbrev N_divisor_of : List Str := ["one", "other"]
theorem nd_divisor_of : N_divisor_of.Nodup := by decide +kernel
theorem sc_divisor_of : FnScope N_divisor_of ["one", "other"] (defScope s_divisor_of) := ⟨rfl, rfl, rfl, nd_divisor_of, rfl, by decide +kernel, by decide +kernel⟩
abbrev F_divisor_of : Fn := ⟨2, 2, [false, false], (.cons (.whil (.val (.cmp .gt (.var 1) (.cint 0))) (.cons (.par true [(0, false), (1, false)] (.cons (.var 1) (.cons (.bin .mod (.var 0) (.var 1)) .nil))) .nil)) (.cons (.ret (.var 0)) .nil))⟩
/-! 31: lowest, slots p=0 q=1 by=2, owned [] -/
abbrev s_lowest : Stmt := (top 14)
abbrev N_lowest : List Str := ["p", "q", "by"]
theorem nd_lowest : N_lowest.Nodup := by decide +kernel
theorem sc_lowest : FnScope N_lowest ["p", "q"] (defScope s_lowest) := ⟨rfl, rfl, rfl, nd_lowest, rfl, by decide +kernel, by decide +kernel⟩
abbrev F_lowest : Fn := ⟨2, 3, [false, false], (.cons (.ite (.val (.cmp .lt (.var 1) (.cint 0))) (.cons (.par true [(0, false), (1, false)] (.cons (.neg (.var 0)) (.cons (.neg (.var 1)) .nil))) .nil) .nil) (.cons (.asg (.var 2) (.call 30 (.cons (.callb .abs (.cons (.var 0) .nil)) (.cons (.var 1) .nil)))) (.cons (.ret (.tup (.cons (.bin .fdiv (.var 0) (.var 2)) (.cons (.bin .fdiv (.var 1) (.var 2)) .nil)))) .nil)))⟩
/-! 32: worst_by, slots streets=0 worst=1 least=2 choices=3, owned [] -/
abbrev s_worst_by : Stmt := (top 32)
abbrev N_worst_by : List Str := ["streets", "worst", "least", "choices"]
theorem nd_worst_by : N_worst_by.Nodup := by decide +kernel
theorem sc_worst_by : FnScope N_worst_by ["streets"] (defScope s_worst_by) := ⟨rfl, rfl, rfl, nd_worst_by, rfl, by decide +kernel, by decide +kernel⟩
abbrev F_worst_by : Fn := ⟨1, 4, [false], (.cons (.asg (.var 1) (.callb .max (.cons (.comp [3] (.var 3) (.seq (.call 29 (.cons (.var 0) .nil))) .yes (.callb .sum (.cons (.call 18 (.cons (.var 0) (.cons (.var 3) .nil))) .nil))) .nil))) (.cons (.asg (.var 2) (.callb .min (.cons (.comp [3] (.var 3) (.seq (.call 28 (.cons (.var 0) .nil))) .yes (.callb .sum (.cons (.call 18 (.cons (.var 0) (.cons (.var 3) .nil))) .nil))) .nil))) (.cons (.ret (.ite (.val (.cmp .eq (.var 2) (.cint 0))) .cnon (.call 31 (.cons (.var 1) (.cons (.var 2) .nil))))) .nil)))⟩
/-! 33: _law_products, slots sizes=0 found=1 size=2 longer=3 row=4 number=5, owned ['longer'] -/
abbrev s__law_products : Stmt := (top 40)
abbrev N__law_products : List Str := ["sizes", "found", "size", "longer", "row", "number"]
theorem nd__law_products : N__law_products.Nodup := by decide +kernel
theorem sc__law_products : FnScope N__law_products ["sizes"] (defScope s__law_products) := ⟨rfl, rfl, rfl, nd__law_products, rfl, by decide +kernel, by decide +kernel⟩
abbrev F__law_products : Fn := ⟨1, 6, [false], (.cons (.asg (.var 1) (.lst (.cons (.tup .nil) .nil))) (.cons (.for_ (.var 2) (.seq (.var 0)) (.cons (.own 3 (.lst .nil)) (.cons (.for_ (.var 4) (.seq (.var 1)) (.cons (.expr (.mut .extend 3 (.cons (.comp [5] (.var 5) (.range1 (.var 2)) .yes (.bin .add (.var 4) (.tup (.cons (.var 5) .nil)))) .nil))) .nil)) (.cons (.asg (.var 1) (.var 3)) .nil)))) (.cons (.ret (.var 1)) .nil)))⟩
/-! 34: _law_gcd, slots one=0 other=1, owned [] -/
abbrev s__law_gcd : Stmt := (top 38)
abbrev N__law_gcd : List Str := ["one", "other"]
theorem nd__law_gcd : N__law_gcd.Nodup := by decide +kernel
theorem sc__law_gcd : FnScope N__law_gcd ["one", "other"] (defScope s__law_gcd) := ⟨rfl, rfl, rfl, nd__law_gcd, rfl, by decide +kernel, by decide +kernel⟩
abbrev F__law_gcd : Fn := ⟨2, 2, [false, false], (.cons (.whil (.val (.cmp .ne (.var 1) (.cint 0))) (.cons (.par true [(0, false), (1, false)] (.cons (.var 1) (.cons (.bin .mod (.callb .int (.cons (.var 0) .nil)) (.var 1)) .nil))) .nil)) (.cons (.ret (.callb .abs (.cons (.var 0) .nil))) .nil))⟩
/-! 35: _law_share, slots top=0 bottom=1 common=2, owned [] -/
abbrev s__law_share : Stmt := (top 39)
abbrev N__law_share : List Str := ["top", "bottom", "common"]
theorem nd__law_share : N__law_share.Nodup := by decide +kernel
theorem sc__law_share : FnScope N__law_share ["top", "bottom"] (defScope s__law_share) := ⟨rfl, rfl, rfl, nd__law_share, rfl, by decide +kernel, by decide +kernel⟩
abbrev F__law_share : Fn := ⟨2, 3, [false, false], (.cons (.asg (.var 2) (.call 34 (.cons (.var 0) (.cons (.var 1) .nil)))) (.cons (.ret (.tup (.cons (.bin .fdiv (.var 0) (.var 2)) (.cons (.bin .fdiv (.var 1) (.var 2)) .nil)))) .nil))⟩
/-! 36: _law_worst, slots costs=0 ways=1 every=2 choices=3 sums=4 settled=5 amount=6 steps=7 some=8 walker=9 later=10, owned ['settled'] -/
abbrev s__law_worst : Stmt := (top 46)
abbrev N__law_worst : List Str := ["costs", "ways", "every", "choices", "sums", "settled", "amount", "steps", "some", "walker", "later"]
theorem nd__law_worst : N__law_worst.Nodup := by decide +kernel
theorem sc__law_worst : FnScope N__law_worst ["costs", "ways"] (defScope s__law_worst) := ⟨rfl, rfl, rfl, nd__law_worst, rfl, by decide +kernel, by decide +kernel⟩
abbrev F__law_worst : Fn := ⟨2, 11, [false, false], (.cons (.asg (.var 2) (.call 33 (.cons (.comp [8] (.var 8) (.seq (.var 1)) .yes (.callb .len (.cons (.var 8) .nil))) .nil))) (.cons (.asg (.var 4) (.comp [3] (.var 3) (.seq (.var 2)) .yes (.callb .sum (.cons (.call 12 (.cons (.var 0) (.cons (.var 1) (.cons (.var 3) .nil)))) .nil)))) (.cons (.own 5 (.lst .nil)) (.cons (.for_ (.cons (.var 3) (.cons (.var 6) .nil)) (.zip (.var 2) (.var 4)) (.cons (.asg (.var 7) (.comp [9] (.var 9) (.range1 (.callb .len (.cons (.var 1) .nil))) .yes (.call 13 (.cons (.var 0) (.cons (.var 1) (.cons (.var 3) (.cons (.var 9) .nil))))))) (.cons (.expr (.mut .extend 5 (.cons (.ite (.val (.callb .all (.cons (.comp [10] (.var 10) (.seq (.var 7)) .yes (.cmp .iss (.var 10) .cnon)) .nil))) (.lst (.cons (.var 6) .nil)) (.lst .nil)) .nil))) .nil))) (.cons (.ret (.ite (.val (.cmp .eq (.callb .min (.cons (.var 4) .nil)) (.cint 0))) .cnon (.call 35 (.cons (.callb .max (.cons (.var 5) .nil)) (.cons (.callb .min (.cons (.var 4) .nil)) .nil))))) .nil)))))⟩
/-! 37: law, slots script=0 hand=1 go=2 costs=3 ways=4 streets=5 turn=6 told=7 some=8 choices=9 one=10, owned ['hand', 'told'] -/
abbrev s_law : Stmt := (top 48)
abbrev N_law : List Str := ["script", "hand", "go", "costs", "ways", "streets", "turn", "told", "some", "choices", "one"]
theorem nd_law : N_law.Nodup := by decide +kernel
theorem sc_law : FnScope N_law ["script"] (defScope s_law) := ⟨rfl, rfl, rfl, nd_law, rfl, by decide +kernel, by decide +kernel⟩
abbrev F_law : Fn := ⟨1, 11, [false], (.cons (.own 1 (.call 0 (.cons (.var 0) .nil))) (.cons (.for_ (.var 2) (.range1 (.cint 3)) (.cons (.asg (.cons (.var 3) (.cons (.var 4) .nil)) (.call 3 (.cons (.var 1) .nil))) (.cons (.asg (.var 5) (.make 10 (.cons (.var 3) (.cons (.var 4) .nil)))) (.cons (.for_ (.var 6) (.range1 (.cint 3)) (.cons (.ite (.not (.val (.call 26 (.cons (.var 3) (.cons (.var 4) (.cons (.callb .tuple (.cons (.comp [8] (.var 8) (.seq (.var 4)) .yes (.call 1 (.cons (.var 1) (.cons (.callb .len (.cons (.var 8) .nil)) .nil)))) .nil)) .nil)))))) (.cons (.ret (.cbl false)) .nil) .nil) .nil)) (.cons (.ite (.not (.val (.call 23 (.cons (.call 32 (.cons (.var 5) .nil)) (.cons (.call 36 (.cons (.var 3) (.cons (.var 4) .nil))) .nil))))) (.cons (.ret (.cbl false)) .nil) .nil) (.cons (.ite (.not (.val (.callb .all (.cons (.comp [9] (.var 9) (.seq (.sl (.call 29 (.cons (.var 5) .nil)) .none (.some (.cint 3)))) .yes (.cmp .eq (.callb .len (.cons (.call 22 (.cons (.var 5) (.cons (.callb .tuple (.cons (.var 9) .nil)) .nil))) .nil)) (.cint 1))) .nil)))) (.cons (.ret (.cbl false)) .nil) .nil) .nil)))))) (.cons (.asg (.var 5) (.make 10 (.cons (.tup (.cons (.tup (.cons (.cint 2) (.cons (.cint 3) .nil))) (.cons (.tup (.cons (.cint 4) (.cons (.cint 4) .nil))) .nil))) (.cons (.bin .mul (.tup (.cons (.tup (.cons (.tup (.cons (.cint 0) .nil)) (.cons (.tup (.cons (.cint 1) .nil)) .nil))) .nil)) (.cint 2)) .nil)))) (.cons (.own 7 (.lst (.cons (.comp [10] (.var 10) (.seq (.call 22 (.cons (.var 5) (.cons (.tup (.cons (.cint 1) (.cons (.cint 1) .nil))) .nil)))) .yes (.callb .tuple (.cons (.var 10) .nil))) (.cons (.call 32 (.cons (.var 5) .nil)) .nil)))) (.cons (.expr (.mut .append 7 (.cons (.call 32 (.cons (.make 10 (.cons (.tup (.cons (.tup (.cons (.cint 0) .nil)) .nil)) (.cons (.tup (.cons (.tup (.cons (.tup (.cons (.cint 0) .nil)) .nil)) .nil)) .nil))) .nil)) .nil))) (.cons (.ret (.call 23 (.cons (.var 7) (.cons (.lst (.cons (.lst (.cons (.tup (.cons (.cint 1) (.cons (.cint 1) .nil))) (.cons (.tup (.cons (.cint 0) (.cons (.cint 1) .nil))) (.cons (.tup (.cons (.cint 0) (.cons (.cint 0) .nil))) .nil)))) (.cons (.tup (.cons (.cint 1) (.cons (.cint 1) .nil))) (.cons .cnon .nil)))) .nil)))) .nil))))))⟩
def tab : Nat → Option Fn
  | 0 => some F__law_hand
  | 1 => some F__law_draw
  | 2 => some F__law_mixed
  | 3 => some F__law_streets
  | 4 => some F_is_sized
  | 5 => some F_is_integer
  | 6 => some F_is_within
  | 7 => some F_is_lot
  | 8 => some F_is_tuple
  | 9 => some F_is_number
  | 10 => some F_Streets
  | 11 => some F__law_crowds
  | 12 => some F__law_paid
  | 13 => some F__law_next
  | 14 => some F__law_walk
  | 15 => some F_are_choices
  | 16 => some F_check_choices
  | 17 => some F_counts_of
  | 18 => some F_raw_costs
  | 19 => some F_with_choice
  | 20 => some F_best_way
  | 21 => some F_is_settled
  | 22 => some F_walk_down
  | 23 => some F__law_is
  | 24 => some F_costs_of
  | 25 => some F_height_of
  | 26 => some F__law_walk_right
  | 27 => some F_all_tuples
  | 28 => some F_all_choices
  | 29 => some F_all_settled
  | 30 => some F_divisor_of
  | 31 => some F_lowest
  | 32 => some F_worst_by
  | 33 => some F__law_products
  | 34 => some F__law_gcd
  | 35 => some F__law_share
  | 36 => some F__law_worst
  | 37 => some F_law
  | _ => none
noncomputable def Gm : Cfg where
  fields := fun n => match n with
    | 10 => some ["costs", "ways"]
    | _ => none
  io := fun n => match n with
    | 0 => some [false]
    | 1 => some [true, false]
    | 2 => some [true, false]
    | 3 => some [true]
    | 4 => some [false, false, false]
    | 5 => some [false]
    | 6 => some [false, false, false]
    | 7 => some [false, false]
    | 8 => some [false, false]
    | 9 => some [false]
    | 10 => some [true, false, false]
    | 11 => some [false, false, false]
    | 12 => some [false, false, false]
    | 13 => some [false, false, false, false]
    | 14 => some [false, false, false]
    | 15 => some [false, false]
    | 16 => some [false, false]
    | 17 => some [false, false]
    | 18 => some [false, false]
    | 19 => some [false, false, false]
    | 20 => some [false, false, false]
    | 21 => some [false, false]
    | 22 => some [false, false]
    | 23 => some [false, false]
    | 24 => some [false, false]
    | 25 => some [false, false]
    | 26 => some [false, false, false]
    | 27 => some [false]
    | 28 => some [false]
    | 29 => some [false]
    | 30 => some [false, false]
    | 31 => some [false, false]
    | 32 => some [false]
    | 33 => some [false]
    | 34 => some [false, false]
    | 35 => some [false, false]
    | 36 => some [false, false]
    | 37 => some [false]
    | _ => none
  glob := fun n => match n with
    | 0 => some (.int 5)
    | 1 => some (.int 4)
    | 2 => some (.int 4)
    | _ => none
  loop := loopC
structure Txt (P : Mi.TP) (mg : Str → Option Value) : Prop where
  d__law_hand : Dk P.K mg "_law_hand" "_law_hand" s__law_hand ["script"]
  d__law_draw : Dk P.K mg "_law_draw" "_law_draw" s__law_draw ["hand", "many"]
  d__law_mixed : Dk P.K mg "_law_mixed" "_law_mixed" s__law_mixed ["hand", "things"]
  d__law_streets : Dk P.K mg "_law_streets" "_law_streets" s__law_streets ["hand"]
  d_is_sized : Dk P.K mg "is_sized" "is_sized" s_is_sized ["thing", "least", "most"]
  d_is_integer : Dk P.K mg "is_integer" "is_integer" s_is_integer ["thing"]
  d_is_within : Dk P.K mg "is_within" "is_within" s_is_within ["thing", "least", "most"]
  d_is_lot : Dk P.K mg "is_lot" "is_lot" s_is_lot ["thing", "many"]
  d_is_tuple : Dk P.K mg "is_tuple" "is_tuple" s_is_tuple ["thing", "size"]
  d_is_number : Dk P.K mg "is_number" "is_number" s_is_number ["thing"]
  d_Streets : Dm P.K mg "Streets" (P.cls 10) "Streets.__init__" s_Streets ["self", "costs", "ways"]
  d__law_crowds : Dk P.K mg "_law_crowds" "_law_crowds" s__law_crowds ["costs", "ways", "choices"]
  d__law_paid : Dk P.K mg "_law_paid" "_law_paid" s__law_paid ["costs", "ways", "choices"]
  d__law_next : Dk P.K mg "_law_next" "_law_next" s__law_next ["costs", "ways", "choices", "walker"]
  d__law_walk : Dk P.K mg "_law_walk" "_law_walk" s__law_walk ["costs", "ways", "choices"]
  d_are_choices : Dk P.K mg "are_choices" "are_choices" s_are_choices ["streets", "thing"]
  d_check_choices : Dk P.K mg "check_choices" "check_choices" s_check_choices ["streets", "thing"]
  d_counts_of : Dk P.K mg "counts_of" "counts_of" s_counts_of ["streets", "choices"]
  d_raw_costs : Dk P.K mg "raw_costs" "raw_costs" s_raw_costs ["streets", "choices"]
  d_with_choice : Dk P.K mg "with_choice" "with_choice" s_with_choice ["choices", "walker", "one"]
  d_best_way : Dk P.K mg "best_way" "best_way" s_best_way ["streets", "choices", "walker"]
  d_is_settled : Dk P.K mg "is_settled" "is_settled" s_is_settled ["streets", "thing"]
  d_walk_down : Dk P.K mg "walk_down" "walk_down" s_walk_down ["streets", "choices"]
  d__law_is : Dk P.K mg "_law_is" "_law_is" s__law_is ["mine", "yours"]
  d_costs_of : Dk P.K mg "costs_of" "costs_of" s_costs_of ["streets", "choices"]
  d_height_of : Dk P.K mg "height_of" "height_of" s_height_of ["streets", "choices"]
  d__law_walk_right : Dk P.K mg "_law_walk_right" "_law_walk_right" s__law_walk_right ["costs", "ways", "choices"]
  d_all_tuples : Dk P.K mg "all_tuples" "all_tuples" s_all_tuples ["sizes"]
  d_all_choices : Dk P.K mg "all_choices" "all_choices" s_all_choices ["streets"]
  d_all_settled : Dk P.K mg "all_settled" "all_settled" s_all_settled ["streets"]
  d_divisor_of : Dk P.K mg "divisor_of" "divisor_of" s_divisor_of ["one", "other"]
  d_lowest : Dk P.K mg "lowest" "lowest" s_lowest ["p", "q"]
  d_worst_by : Dk P.K mg "worst_by" "worst_by" s_worst_by ["streets"]
  d__law_products : Dk P.K mg "_law_products" "_law_products" s__law_products ["sizes"]
  d__law_gcd : Dk P.K mg "_law_gcd" "_law_gcd" s__law_gcd ["one", "other"]
  d__law_share : Dk P.K mg "_law_share" "_law_share" s__law_share ["top", "bottom"]
  d__law_worst : Dk P.K mg "_law_worst" "_law_worst" s__law_worst ["costs", "ways"]
  d_law : Dk P.K mg "law" "law" s_law ["script"]
  k_Streets : Cls P.K (P.cls 10)
  a_Streets_costs : NoAttr P.K (P.cls 10) "costs"
  a_Streets_ways : NoAttr P.K (P.cls 10) "ways"
  v_MOST_STREETS : P.glob 0 = (V.int 5)
  g_MOST_STREETS : ∃ u, mg "MOST_STREETS" = some u ∧ RelV (P.glob 0) u
  v_MOST_WALKERS : P.glob 1 = (V.int 4)
  g_MOST_WALKERS : ∃ u, mg "MOST_WALKERS" = some u ∧ RelV (P.glob 1) u
  v_MOST_WAYS : P.glob 2 = (V.int 4)
  g_MOST_WAYS : ∃ u, mg "MOST_WAYS" = some u ∧ RelV (P.glob 2) u
  z_abs : mg "abs" = none
  z_all : mg "all" = none
  z_bool : mg "bool" = none
  z_enumerate : mg "enumerate" = none
  z_int : mg "int" = none
  z_isinstance : mg "isinstance" = none
  z_len : mg "len" = none
  z_list : mg "list" = none
  z_max : mg "max" = none
  z_min : mg "min" = none
  z_range : mg "range" = none
  z_repr : mg "repr" = none
  z_sorted : mg "sorted" = none
  z_sum : mg "sum" = none
  z_tuple : mg "tuple" = none
  z_zip : mg "zip" = none
section
variable {prog : Program} {w : World} {mg : Str → Option Value} {base : Heap} {P : Mi.TP}
theorem ok (T : Txt P mg) : CfgOk P Gm where
  glob := fun x d e A H => by
    match x, e with
    | 0, e => cases e; show RepV P A H _ (P.glob 0); rw [T.v_MOST_STREETS]; unfold RepV; rfl
    | 1, e => cases e; show RepV P A H _ (P.glob 1); rw [T.v_MOST_WALKERS]; unfold RepV; rfl
    | 2, e => cases e; show RepV P A H _ (P.glob 2); rw [T.v_MOST_WAYS]; unfold RepV; rfl
    | n + 3, e => cases e
  flds := fun C fs e => by
    match C, e with
    | 0, e => cases e
    | 1, e => cases e
    | 2, e => cases e
    | 3, e => cases e
    | 4, e => cases e
    | 5, e => cases e
    | 6, e => cases e
    | 7, e => cases e
    | 8, e => cases e
    | 9, e => cases e
    | 10, e => cases e; exact ⟨T.k_Streets, fun f h => by simp only [List.mem_cons, List.not_mem_nil, or_false] at h; rcases h with rfl | rfl <;> first | exact T.a_Streets_costs | exact T.a_Streets_ways⟩
    | n + 11, e => cases e
theorem lo : LoopOk Gm := fun _ _ _ h => loopC_ok h
structure All (P : Mi.TP) (prog : Program) (w : World) (mg : Str → Option Value) (base : Heap) (n : Nat) : Prop where
  c__law_hand : Cal prog w P.K mg base (2 * n) "_law_hand" (spec P (phi Gm tab n) 0)
  c__law_draw : Cal prog w P.K mg base (2 * n) "_law_draw" (spec P (phi Gm tab n) 1)
  c__law_mixed : Cal prog w P.K mg base (2 * n) "_law_mixed" (spec P (phi Gm tab n) 2)
  c__law_streets : Cal prog w P.K mg base (2 * n) "_law_streets" (spec P (phi Gm tab n) 3)
  c_is_sized : Cal prog w P.K mg base (2 * n) "is_sized" (spec P (phi Gm tab n) 4)
  c_is_integer : Cal prog w P.K mg base (2 * n) "is_integer" (spec P (phi Gm tab n) 5)
  c_is_within : Cal prog w P.K mg base (2 * n) "is_within" (spec P (phi Gm tab n) 6)
  c_is_lot : Cal prog w P.K mg base (2 * n) "is_lot" (spec P (phi Gm tab n) 7)
  c_is_tuple : Cal prog w P.K mg base (2 * n) "is_tuple" (spec P (phi Gm tab n) 8)
  c_is_number : Cal prog w P.K mg base (2 * n) "is_number" (spec P (phi Gm tab n) 9)
  c_Streets : Mak prog w P.K mg base (2 * n) "Streets" (P.cls 10) (spec P (phi Gm tab n) 10)
  c__law_crowds : Cal prog w P.K mg base (2 * n) "_law_crowds" (spec P (phi Gm tab n) 11)
  c__law_paid : Cal prog w P.K mg base (2 * n) "_law_paid" (spec P (phi Gm tab n) 12)
  c__law_next : Cal prog w P.K mg base (2 * n) "_law_next" (spec P (phi Gm tab n) 13)
  c__law_walk : Cal prog w P.K mg base (2 * n) "_law_walk" (spec P (phi Gm tab n) 14)
  c_are_choices : Cal prog w P.K mg base (2 * n) "are_choices" (spec P (phi Gm tab n) 15)
  c_check_choices : Cal prog w P.K mg base (2 * n) "check_choices" (spec P (phi Gm tab n) 16)
  c_counts_of : Cal prog w P.K mg base (2 * n) "counts_of" (spec P (phi Gm tab n) 17)
  c_raw_costs : Cal prog w P.K mg base (2 * n) "raw_costs" (spec P (phi Gm tab n) 18)
  c_with_choice : Cal prog w P.K mg base (2 * n) "with_choice" (spec P (phi Gm tab n) 19)
  c_best_way : Cal prog w P.K mg base (2 * n) "best_way" (spec P (phi Gm tab n) 20)
  c_is_settled : Cal prog w P.K mg base (2 * n) "is_settled" (spec P (phi Gm tab n) 21)
  c_walk_down : Cal prog w P.K mg base (2 * n) "walk_down" (spec P (phi Gm tab n) 22)
  c__law_is : Cal prog w P.K mg base (2 * n) "_law_is" (spec P (phi Gm tab n) 23)
  c_costs_of : Cal prog w P.K mg base (2 * n) "costs_of" (spec P (phi Gm tab n) 24)
  c_height_of : Cal prog w P.K mg base (2 * n) "height_of" (spec P (phi Gm tab n) 25)
  c__law_walk_right : Cal prog w P.K mg base (2 * n) "_law_walk_right" (spec P (phi Gm tab n) 26)
  c_all_tuples : Cal prog w P.K mg base (2 * n) "all_tuples" (spec P (phi Gm tab n) 27)
  c_all_choices : Cal prog w P.K mg base (2 * n) "all_choices" (spec P (phi Gm tab n) 28)
  c_all_settled : Cal prog w P.K mg base (2 * n) "all_settled" (spec P (phi Gm tab n) 29)
  c_divisor_of : Cal prog w P.K mg base (2 * n) "divisor_of" (spec P (phi Gm tab n) 30)
  c_lowest : Cal prog w P.K mg base (2 * n) "lowest" (spec P (phi Gm tab n) 31)
  c_worst_by : Cal prog w P.K mg base (2 * n) "worst_by" (spec P (phi Gm tab n) 32)
  c__law_products : Cal prog w P.K mg base (2 * n) "_law_products" (spec P (phi Gm tab n) 33)
  c__law_gcd : Cal prog w P.K mg base (2 * n) "_law_gcd" (spec P (phi Gm tab n) 34)
  c__law_share : Cal prog w P.K mg base (2 * n) "_law_share" (spec P (phi Gm tab n) 35)
  c__law_worst : Cal prog w P.K mg base (2 * n) "_law_worst" (spec P (phi Gm tab n) 36)
  c_law : Cal prog w P.K mg base (2 * n) "law" (spec P (phi Gm tab n) 37)
theorem b__law_hand {n : Nat} (T : Txt P mg) (C : All P prog w mg base n) {f : Addr} {cdv : Value} {A : Around} {outer : List PySem.Env} {s : Shared} {H : Hp} {E : XK} (hr : Rm (2 * n + 1) (A.deeper (envOfC "_law_hand" (defScope s__law_hand) s.heap.objs.size f cdv))) :
    PSs (cxOf CX0 prog w P.K mg base N__law_hand "_law_hand" (defScope s__law_hand) f cdv A outer s H E).nox (defBody s__law_hand) (tSs P (spec P (phi Gm tab n)) F__law_hand.body) :=
  (pss_cons (ps_setLc (i := 1) (own := [("cell", 2)]) rfl nd__law_hand rfl rfl (sw_true rfl rfl rfl (by decide +kernel)) (pi_any (pe_slice sl_any (pv 0) po_none (po_some pe_int))) (blkOk_by (own := [("cell", 2)]) (N := N__law_hand) (sc := (defScope (top 34))) (scope := (⟨.function, [(".0", .local), ("cell", .local), ("abs", .globalImplicit), ("int", .globalImplicit)], false, false, []⟩ : PySem.Scope)) (by decide +kernel)) (fun _ _ _ _ _ => (pg_name (i := 2) nd__law_hand rfl (Or.inl rfl))) (fun _ _ _ _ _ => pts_nil) (fun _ _ _ _ _ => (pe_callB call_abs rfl T.z_abs b_abs (pa_cons (pe_callTy call_int1 rfl T.z_int b_int (pa_cons (pv 2) pa_nil)) pa_nil)))) (pss_cons (ps_ret (pe_lst (pa_cons (pv 1) (pa_cons pe_int (pa_cons pe_int (pa_cons (pe_op (op_bin .add) pe_int (pe_op (op_bin .mul) pe_int (pe_callB cr_lenA rfl T.z_len b_len (pa_cons (pv 1) pa_nil)))) (pa_cons pe_int pa_nil))))))) pss_nil))
theorem b__law_draw {n : Nat} (T : Txt P mg) (C : All P prog w mg base n) {f : Addr} {cdv : Value} {A : Around} {outer : List PySem.Env} {s : Shared} {H : Hp} {E : XK} (hr : Rm (2 * n + 1) (A.deeper (envOfC "_law_draw" (defScope s__law_draw) s.heap.objs.size f cdv))) :
    PSs (cxOf CX0 prog w P.K mg base N__law_draw "_law_draw" (defScope s__law_draw) f cdv A outer s H E).nox (defBody s__law_draw) (tSs P (spec P (phi Gm tab n)) F__law_draw.body) :=
  (pss_cons (ps_if (PW.pt (pw_and (pt_cmpR (op_cmp .eq (hu_room hr)) (PE.or (pe_ix ix_seq (pv 0) pe_int (fun _ _ => rfl)) (pe_dget (hu_one hr) (pv 0) pe_int (fun _ _ => rfl))) pe_int (by first | exact nomark _ | rfl)) (pw_and1 (pt_cmpR (op_cmp .lt (hu_room hr)) (PE.or (pe_ix ix_seq (pv 0) pe_int (fun _ _ => rfl)) (pe_dget (hu_one hr) (pv 0) pe_int (fun _ _ => rfl))) (pe_callB cr_lenA rfl T.z_len b_len (pa_cons (PE.or (pe_ix ix_seq (pv 0) pe_int (fun _ _ => rfl)) (pe_dget (hu_one hr) (pv 0) pe_int (fun _ _ => rfl))) pa_nil)) (by first | exact nomark _ | rfl))))) (pss_cons (ps_set (i := 2) nd__law_draw rfl (Or.inl rfl) (PE.or (pe_ix ix_seq (PE.or (pe_ix ix_seq (pv 0) pe_int (fun _ _ => rfl)) (pe_dget (hu_one hr) (pv 0) pe_int (fun _ _ => rfl))) (PE.or (pe_ix ix_seq (pv 0) pe_int (fun _ _ => rfl)) (pe_dget (hu_one hr) (pv 0) pe_int (fun _ _ => rfl))) (fun _ _ => rfl)) (pe_dget (hu_one hr) (PE.or (pe_ix ix_seq (pv 0) pe_int (fun _ _ => rfl)) (pe_dget (hu_one hr) (pv 0) pe_int (fun _ _ => rfl))) (PE.or (pe_ix ix_seq (pv 0) pe_int (fun _ _ => rfl)) (pe_dget (hu_one hr) (pv 0) pe_int (fun _ _ => rfl))) (fun _ _ => rfl)))) (pss_cons (ps_asg (pe_op (op_bin .add) (PE.or (pe_ix ix_seq (pv 0) pe_int (fun _ _ => rfl)) (pe_dget (hu_one hr) (pv 0) pe_int (fun _ _ => rfl))) pe_int) (pg_sub (pv 0) pe_int (set_any (hu_one hr)) (fun _ => rfl))) (pss_cons (ps_asg (pe_op (op_bin .mod) (pe_callTy call_int1 rfl T.z_int b_int (pa_cons (pe_op (op_bin .add) (pe_op (op_bin .add) (pe_op (op_bin .mul) (PE.or (pe_ix ix_seq (pv 0) pe_int (fun _ _ => rfl)) (pe_dget (hu_one hr) (pv 0) pe_int (fun _ _ => rfl))) pe_int) (pe_op (op_bin .mul) (pv 2) pe_int)) pe_int) pa_nil)) pe_int) (pg_sub (pv 0) pe_int (set_any (hu_one hr)) (fun _ => rfl))) (pss_cons (ps_if (pt_cmpR (op_cmp .ge (hu_room hr)) (pv 2) (pe_op (op_bin .pow) pe_int pe_int) (by first | exact nomark _ | rfl)) (pss_cons (ps_asg (pv 2) (pg_sub (pv 0) pe_int (set_any (hu_one hr)) (fun _ => rfl))) pss_nil) pss_nil) pss_nil)))) pss_nil) (pss_cons (ps_if (pt_cmpR (op_cmp .gt (hu_room hr)) (PE.or (pe_ix ix_seq (pv 0) pe_int (fun _ _ => rfl)) (pe_dget (hu_one hr) (pv 0) pe_int (fun _ _ => rfl))) pe_int (by first | exact nomark _ | rfl)) (pss_cons (ps_set (i := 3) nd__law_draw rfl (Or.inl rfl) (pe_op (op_bin .mod) (pe_callTy call_int1 rfl T.z_int b_int (pa_cons (PE.or (pe_ix ix_seq (pv 0) pe_int (fun _ _ => rfl)) (pe_dget (hu_one hr) (pv 0) pe_int (fun _ _ => rfl))) pa_nil)) (pv 1))) (pss_cons (ps_asg (pe_op (op_bin .fdiv) (PE.or (pe_ix ix_seq (pv 0) pe_int (fun _ _ => rfl)) (pe_dget (hu_one hr) (pv 0) pe_int (fun _ _ => rfl))) (pv 1)) (pg_sub (pv 0) pe_int (set_any (hu_one hr)) (fun _ => rfl))) (pss_cons (ps_ret (pv 3)) pss_nil))) pss_nil) (pss_cons (ps_asg (pe_op (op_bin .add) (PE.or (pe_ix ix_seq (pv 0) pe_int (fun _ _ => rfl)) (pe_dget (hu_one hr) (pv 0) pe_int (fun _ _ => rfl))) pe_int) (pg_sub (pv 0) pe_int (set_any (hu_one hr)) (fun _ => rfl))) (pss_cons (ps_set (i := 4) nd__law_draw rfl (Or.inl rfl) (pe_op (op_bin .mod) (pe_callTy call_int1 rfl T.z_int b_int (pa_cons (pe_op (op_bin .mul) (pe_callTy call_int1 rfl T.z_int b_int (pa_cons (pe_op (op_bin .add) (PE.or (pe_ix ix_seq (pv 0) pe_int (fun _ _ => rfl)) (pe_dget (hu_one hr) (pv 0) pe_int (fun _ _ => rfl))) (pe_op (op_bin .mul) pe_int (PE.or (pe_ix ix_seq (pv 0) pe_int (fun _ _ => rfl)) (pe_dget (hu_one hr) (pv 0) pe_int (fun _ _ => rfl))))) pa_nil)) pe_int) pa_nil)) pe_int)) (pss_cons (ps_set (i := 4) nd__law_draw rfl (Or.inl rfl) (pe_op (op_bin .mod) (pe_callTy call_int1 rfl T.z_int b_int (pa_cons (pe_op (op_bin .mul) (pv 4) (pe_op (op_bin .add) (pe_op (op_bin .fdiv) (pv 4) pe_int) pe_int)) pa_nil)) pe_int)) (pss_cons (ps_set (i := 4) nd__law_draw rfl (Or.inl rfl) (pe_op (op_bin .mod) (pe_callTy call_int1 rfl T.z_int b_int (pa_cons (pe_op (op_bin .mul) (pv 4) (pe_op (op_bin .add) (pe_op (op_bin .fdiv) (pv 4) pe_int) pe_int)) pa_nil)) pe_int)) (pss_cons (ps_ret (pe_op (op_bin .mod) (pe_callTy call_int1 rfl T.z_int b_int (pa_cons (pe_op (op_bin .fdiv) (pv 4) pe_int) pa_nil)) (pv 1))) pss_nil)))))))
theorem b__law_mixed {n : Nat} (T : Txt P mg) (C : All P prog w mg base n) {f : Addr} {cdv : Value} {A : Around} {outer : List PySem.Env} {s : Shared} {H : Hp} {E : XK} (hr : Rm (2 * n + 1) (A.deeper (envOfC "_law_mixed" (defScope s__law_mixed) s.heap.objs.size f cdv))) :
    PSs (cxOf CX0 prog w P.K mg base N__law_mixed "_law_mixed" (defScope s__law_mixed) f cdv A outer s H E).nox (defBody s__law_mixed) (tSs P (spec P (phi Gm tab n)) F__law_mixed.body) :=
  (pss_cons (g_par (P := P) (o1 := true) (o2 := true) (i := 2) (j := 3) rfl nd__law_mixed rfl rfl (by decide) rfl rfl (pa_cons (pe_callTy call_list_of rfl T.z_list b_list (pa_cons (pv 1) pa_nil)) (pa_cons (pe_lst pa_nil) pa_nil)) (by first | rfl | exact (by with_unfolding_all rfl))) (pss_cons (ps_while PassesOwn.never (pt_cmpR (op_cmp .gt (hu_room hr)) (pe_callB cr_lenA rfl T.z_len b_len (pa_cons (pv 2) pa_nil)) pe_int (by first | exact nomark _ | rfl)) (pss_cons (ps_expr (pe_bm PySem.F.plainAttrs_list PySem.F.slot_list_append PySem.F.type_list_append mt_append (pv 3) (pa_cons (pe_bm PySem.F.plainAttrs_list PySem.F.slot_list_pop PySem.F.type_list_pop mt_popAt (pv 2) (pa_cons (g_call C.c__law_draw hr (by omega) rfl (pa_cons (pv 0) (pa_cons (pe_callB cr_lenA rfl T.z_len b_len (pa_cons (pv 2) pa_nil)) pa_nil))) pa_nil)) pa_nil))) pss_nil)) (pss_cons (ps_ret (pv 3)) pss_nil)))
theorem b__law_streets {n : Nat} (T : Txt P mg) (C : All P prog w mg base n) {f : Addr} {cdv : Value} {A : Around} {outer : List PySem.Env} {s : Shared} {H : Hp} {E : XK} (hr : Rm (2 * n + 1) (A.deeper (envOfC "_law_streets" (defScope s__law_streets) s.heap.objs.size f cdv))) :
    PSs (cxOf CX0 prog w P.K mg base N__law_streets "_law_streets" (defScope s__law_streets) f cdv A outer s H E).nox (defBody s__law_streets) (tSs P (spec P (phi Gm tab n)) F__law_streets.body) :=
  (pss_cons (g_par (P := P) (o1 := false) (o2 := false) (i := 1) (j := 2) rfl nd__law_streets rfl rfl (by decide) rfl rfl (pa_cons (pe_op (op_bin .add) pe_int (g_call C.c__law_draw hr (by omega) rfl (pa_cons (pv 0) (pa_cons pe_int pa_nil)))) (pa_cons (pe_op (op_bin .add) pe_int (g_call C.c__law_draw hr (by omega) rfl (pa_cons (pv 0) (pa_cons pe_int pa_nil)))) pa_nil)) (by first | rfl | exact (by with_unfolding_all rfl))) (pss_cons (ps_set (i := 3) nd__law_streets rfl (Or.inl rfl) (pe_lst pa_nil)) (pss_cons (ps_for PassesOwn.never rfl (pi_range1 rfl T.z_range (pa_cons (pv 1) pa_nil)) (pg_name (i := 4) nd__law_streets rfl (Or.inl rfl)) (pss_cons (ps_setLc (i := 6) (own := [("walker", 5)]) rfl nd__law_streets rfl rfl (sw_true rfl rfl rfl (by decide +kernel)) (pi_range1 rfl T.z_range (pa_cons (pv 2) pa_nil)) (blkOk_by (own := [("walker", 5)]) (N := N__law_streets) (sc := (defScope (top 41))) (scope := (⟨.function, [(".0", .local), ("walker", .local), ("_law_draw", .globalImplicit), ("hand", .free)], false, false, []⟩ : PySem.Scope)) (by decide +kernel)) (fun _ _ _ _ _ => (pg_name (i := 5) nd__law_streets rfl (Or.inl rfl))) (fun _ _ _ _ _ => pts_nil) (fun _ _ _ _ _ => (g_call C.c__law_draw hr (by omega) rfl (pa_cons (pv 0) (pa_cons pe_int pa_nil))))) (pss_cons (ps_expr (pe_bm PySem.F.plainAttrs_list PySem.F.slot_list_append PySem.F.type_list_append mt_append (pv 3) (pa_cons (pe_callTy call_tupleN rfl T.z_tuple b_tuple (pa_cons (pe_ifExp (pt_cmpR (op_cmp .gt (hu_room hr)) (g_call C.c__law_draw hr (by omega) rfl (pa_cons (pv 0) (pa_cons pe_int pa_nil))) pe_int (by first | exact nomark _ | rfl)) (pe_callB (cr_sortA rfl) rfl T.z_sorted b_sorted (pa_cons (pv 6) pa_nil)) (pv 6)) pa_nil)) pa_nil))) pss_nil))) (pss_cons (ps_set (i := 7) nd__law_streets rfl (Or.inl rfl) (pe_lst pa_nil)) (pss_cons (ps_for PassesOwn.never rfl (pi_range1 rfl T.z_range (pa_cons (pv 2) pa_nil)) (pg_name (i := 5) nd__law_streets rfl (Or.inl rfl)) (pss_cons (ps_set (i := 8) nd__law_streets rfl (Or.inl rfl) (pe_lst pa_nil)) (pss_cons (ps_for PassesOwn.never rfl (pi_range1 rfl T.z_range (pa_cons (pe_op (op_bin .add) pe_int (g_call C.c__law_draw hr (by omega) rfl (pa_cons (pv 0) (pa_cons pe_int pa_nil)))) pa_nil)) (pg_name (i := 9) nd__law_streets rfl (Or.inl rfl)) (pss_cons (ps_set (i := 10) nd__law_streets rfl (Or.inl rfl) (pe_callTy call_tupleN rfl T.z_tuple b_tuple (pa_cons (pe_callB (cr_sortA rfl) rfl T.z_sorted b_sorted (pa_cons (pe_slice sl_any (g_call C.c__law_mixed hr (by omega) rfl (pa_cons (pv 0) (pa_cons (pe_lrange rfl rfl T.z_list rfl T.z_range (pa_cons (pv 1) pa_nil)) pa_nil))) po_none (po_some (pe_op (op_bin .add) pe_int (g_call C.c__law_draw hr (by omega) rfl (pa_cons (pv 0) (pa_cons (pv 1) pa_nil)))))) pa_nil)) pa_nil))) (pss_cons (ps_expr (pe_bm PySem.F.plainAttrs_list PySem.F.slot_list_extend PySem.F.type_list_extend mt_extend (pv 8) (pa_cons (pe_ifExp (pt_cmpR (op_cmp .nin (hu_room hr)) (pv 10) (pv 8) (by first | exact nomark _ | rfl)) (pe_lst (pa_cons (pv 10) pa_nil)) (pe_lst pa_nil)) pa_nil))) pss_nil))) (pss_cons (ps_expr (pe_bm PySem.F.plainAttrs_list PySem.F.slot_list_append PySem.F.type_list_append mt_append (pv 7) (pa_cons (pe_callTy call_tupleN rfl T.z_tuple b_tuple (pa_cons (pv 8) pa_nil)) pa_nil))) pss_nil)))) (pss_cons (ps_ret (pe_tupN (pa_cons (pe_callTy call_tupleN rfl T.z_tuple b_tuple (pa_cons (pv 3) pa_nil)) (pa_cons (pe_callTy call_tupleN rfl T.z_tuple b_tuple (pa_cons (pv 7) pa_nil)) pa_nil)))) pss_nil))))))
theorem b_is_sized {n : Nat} (T : Txt P mg) (C : All P prog w mg base n) {f : Addr} {cdv : Value} {A : Around} {outer : List PySem.Env} {s : Shared} {H : Hp} {E : XK} (hr : Rm (2 * n + 1) (A.deeper (envOfC "is_sized" (defScope s_is_sized) s.heap.objs.size f cdv))) :
    PSs (cxOf CX0 prog w P.K mg base N_is_sized "is_sized" (defScope s_is_sized) f cdv A outer s H E).nox (defBody s_is_sized) (tSs P (spec P (phi Gm tab n)) F_is_sized.body) :=
  (pss_cons (ps_ret (pe_and (pe_callB call_isi rfl T.z_isinstance b_isi (pa_cons (pv 0) (pa_cons (pe_bltn rfl T.z_tuple b_tuple rfl) pa_nil))) (pe_one (pe_chain (op_cmp .le (hu_room hr)) (op_cmp .le (hu_room hr)) (pv 1) (pe_callB cr_lenA rfl T.z_len b_len (pa_cons (pv 0) pa_nil)) (pv 2))))) pss_nil)
theorem b_is_integer {n : Nat} (T : Txt P mg) (C : All P prog w mg base n) {f : Addr} {cdv : Value} {A : Around} {outer : List PySem.Env} {s : Shared} {H : Hp} {E : XK} (hr : Rm (2 * n + 1) (A.deeper (envOfC "is_integer" (defScope s_is_integer) s.heap.objs.size f cdv))) :
    PSs (cxOf CX0 prog w P.K mg base N_is_integer "is_integer" (defScope s_is_integer) f cdv A outer s H E).nox (defBody s_is_integer) (tSs P (spec P (phi Gm tab n)) F_is_integer.body) :=
  (pss_cons (ps_ret (pe_and (pe_callB call_isi rfl T.z_isinstance b_isi (pa_cons (pv 0) (pa_cons (pe_bltn rfl T.z_int b_int rfl) pa_nil))) (pe_one (pe_not (pe_callB call_isi rfl T.z_isinstance b_isi (pa_cons (pv 0) (pa_cons (pe_bltn rfl T.z_bool b_bool rfl) pa_nil))))))) pss_nil)
theorem b_is_within {n : Nat} (T : Txt P mg) (C : All P prog w mg base n) {f : Addr} {cdv : Value} {A : Around} {outer : List PySem.Env} {s : Shared} {H : Hp} {E : XK} (hr : Rm (2 * n + 1) (A.deeper (envOfC "is_within" (defScope s_is_within) s.heap.objs.size f cdv))) :
    PSs (cxOf CX0 prog w P.K mg base N_is_within "is_within" (defScope s_is_within) f cdv A outer s H E).nox (defBody s_is_within) (tSs P (spec P (phi Gm tab n)) F_is_within.body) :=
  (pss_cons (ps_ret (pe_and (g_call C.c_is_integer hr (by omega) rfl (pa_cons (pv 0) pa_nil)) (pe_one (pe_chain (op_cmp .le (hu_room hr)) (op_cmp .le (hu_room hr)) (pv 1) (pv 0) (pv 2))))) pss_nil)
theorem b_is_lot {n : Nat} (T : Txt P mg) (C : All P prog w mg base n) {f : Addr} {cdv : Value} {A : Around} {outer : List PySem.Env} {s : Shared} {H : Hp} {E : XK} (hr : Rm (2 * n + 1) (A.deeper (envOfC "is_lot" (defScope s_is_lot) s.heap.objs.size f cdv))) :
    PSs (cxOf CX0 prog w P.K mg base N_is_lot "is_lot" (defScope s_is_lot) f cdv A outer s H E).nox (defBody s_is_lot) (tSs P (spec P (phi Gm tab n)) F_is_lot.body) :=
  (pss_cons (ps_if (PW.pt (pw_or (pt_not (pt_val (pe_callB call_isi rfl T.z_isinstance b_isi (pa_cons (pv 0) (pa_cons (pe_bltn rfl T.z_tuple b_tuple rfl) pa_nil))))) (pw_or1 (pt_not (pt_val (pe_callB (cr_all rfl) rfl T.z_all b_all (pa_cons (pe_lc (own := [("one", 2)]) rfl nd_is_lot (pi_any (pv 0)) (blkOk_by (own := [("one", 2)]) (N := N_is_lot) (sc := (defScope (top 6))) (scope := (⟨.function, [(".0", .local), ("one", .local), ("is_within", .globalImplicit), ("many", .free)], false, false, []⟩ : PySem.Scope)) (by decide +kernel)) (fun _ _ _ _ _ => (pg_name (i := 2) nd_is_lot rfl (Or.inl rfl))) (fun _ _ _ _ _ => pts_nil) (fun _ _ _ _ _ => (g_call C.c_is_within hr (by omega) rfl (pa_cons (pv 2) (pa_cons pe_int (pa_cons (pe_op (op_bin .sub) (pv 1) pe_int) pa_nil)))))) pa_nil))))))) (pss_cons (ps_ret pe_bl) pss_nil) pss_nil) (pss_cons (ps_ret (pe_callB (cr_all rfl) rfl T.z_all b_all (pa_cons (pe_lc (own := [("at", 3)]) rfl nd_is_lot (pi_range2 rfl T.z_range (pa_cons pe_int (pa_cons (pe_callB cr_lenA rfl T.z_len b_len (pa_cons (pv 0) pa_nil)) pa_nil))) (blkOk_by (own := [("at", 3)]) (N := N_is_lot) (sc := (defScope (top 6))) (scope := (⟨.function, [(".0", .local), ("at", .local), ("thing", .free)], false, false, []⟩ : PySem.Scope)) (by decide +kernel)) (fun _ _ _ _ _ => (pg_name (i := 3) nd_is_lot rfl (Or.inl rfl))) (fun _ _ _ _ _ => pts_nil) (fun _ _ _ _ _ => (pe_cmpR (op_cmp .lt (hu_room hr)) (PE.or (pe_ix ix_seq (pv 0) (pe_op (op_bin .sub) (pv 3) pe_int) (fun _ _ => rfl)) (pe_dget (hu_one hr) (pv 0) (pe_op (op_bin .sub) (pv 3) pe_int) (fun _ _ => rfl))) (PE.or (pe_ix ix_seq (pv 0) (pv 3) (fun _ _ => rfl)) (pe_dget (hu_one hr) (pv 0) (pv 3) (fun _ _ => rfl))) (by first | exact nomark _ | rfl)))) pa_nil))) pss_nil))
theorem b_is_tuple {n : Nat} (T : Txt P mg) (C : All P prog w mg base n) {f : Addr} {cdv : Value} {A : Around} {outer : List PySem.Env} {s : Shared} {H : Hp} {E : XK} (hr : Rm (2 * n + 1) (A.deeper (envOfC "is_tuple" (defScope s_is_tuple) s.heap.objs.size f cdv))) :
    PSs (cxOf CX0 prog w P.K mg base N_is_tuple "is_tuple" (defScope s_is_tuple) f cdv A outer s H E).nox (defBody s_is_tuple) (tSs P (spec P (phi Gm tab n)) F_is_tuple.body) :=
  (pss_cons (ps_ret (pe_and (pe_callB call_isi rfl T.z_isinstance b_isi (pa_cons (pv 0) (pa_cons (pe_bltn rfl T.z_tuple b_tuple rfl) pa_nil))) (pe_one (pe_cmpR (op_cmp .eq (hu_room hr)) (pe_callB cr_lenA rfl T.z_len b_len (pa_cons (pv 0) pa_nil)) (pv 1) (by first | exact nomark _ | rfl))))) pss_nil)
theorem b_is_number {n : Nat} (T : Txt P mg) (C : All P prog w mg base n) {f : Addr} {cdv : Value} {A : Around} {outer : List PySem.Env} {s : Shared} {H : Hp} {E : XK} (hr : Rm (2 * n + 1) (A.deeper (envOfC "is_number" (defScope s_is_number) s.heap.objs.size f cdv))) :
    PSs (cxOf CX0 prog w P.K mg base N_is_number "is_number" (defScope s_is_number) f cdv A outer s H E).nox (defBody s_is_number) (tSs P (spec P (phi Gm tab n)) F_is_number.body) :=
  (pss_cons (ps_ret (pe_and (g_call C.c_is_integer hr (by omega) rfl (pa_cons (pv 0) pa_nil)) (pe_one (pe_cmpR (op_cmp .ge (hu_room hr)) (pv 0) pe_int (by first | exact nomark _ | rfl))))) pss_nil)
theorem b_Streets {n : Nat} (T : Txt P mg) (C : All P prog w mg base n) {f : Addr} {cdv : Value} {A : Around} {outer : List PySem.Env} {s : Shared} {H : Hp} {E : XK} (hr : Rm (2 * n + 1) (A.deeper (envOfC "Streets.__init__" (defScope s_Streets) s.heap.objs.size f cdv))) :
    PSs (cxOf CX0 prog w P.K mg base N_Streets "Streets.__init__" (defScope s_Streets) f cdv A outer s H E).nox (defBody s_Streets) (tSs P (spec P (phi Gm tab n)) F_Streets.body) :=
  (pss_cons (ps_if (pt_not (pt_val (g_call C.c_is_sized hr (by omega) rfl (pa_cons (pv 1) (pa_cons pe_int (pa_cons (g_glob T.g_MOST_STREETS rfl) pa_nil)))))) (pss_cons ps_never pss_nil) pss_nil) (pss_cons (ps_if (PW.pt (pw_or (pt_not (pt_val (g_call C.c_is_sized hr (by omega) rfl (pa_cons (pv 2) (pa_cons pe_int (pa_cons (g_glob T.g_MOST_WALKERS rfl) pa_nil)))))) (pw_or1 (pt_not (pt_val (pe_callB (cr_all rfl) rfl T.z_all b_all (pa_cons (pe_lc (own := [("row", 3)]) rfl nd_Streets (pi_any (pv 2)) (blkOk_by (own := [("row", 3)]) (N := N_Streets) (sc := (defScope (inClass (top 19) 0))) (scope := (⟨.function, [(".0", .local), ("row", .local), ("is_sized", .globalImplicit), ("MOST_WAYS", .globalImplicit)], false, false, []⟩ : PySem.Scope)) (by decide +kernel)) (fun _ _ _ _ _ => (pg_name (i := 3) nd_Streets rfl (Or.inl rfl))) (fun _ _ _ _ _ => pts_nil) (fun _ _ _ _ _ => (g_call C.c_is_sized hr (by omega) rfl (pa_cons (pv 3) (pa_cons pe_int (pa_cons (g_glob T.g_MOST_WAYS rfl) pa_nil)))))) pa_nil))))))) (pss_cons ps_never pss_nil) pss_nil) (pss_cons (ps_if (pt_not (pt_val (pe_callB (cr_all rfl) rfl T.z_all b_all (pa_cons (pe_lc2 (own := [("row", 3), ("way", 4)]) (vs1 := [4]) rfl nd_Streets (pi_any (pv 2)) (blkOk_by (own := [("row", 3), ("way", 4)]) (N := N_Streets) (sc := (defScope (inClass (top 19) 0))) (scope := (⟨.function, [(".0", .local), ("row", .local), ("way", .local), ("is_lot", .globalImplicit), ("len", .globalImplicit), ("costs", .free)], false, false, []⟩ : PySem.Scope)) (by decide +kernel)) (by decide) (fun _ _ _ _ _ => (pg_name (i := 3) nd_Streets rfl (Or.inl rfl))) (fun _ _ _ _ _ => pts_nil) (fun _ _ _ _ _ => (pi_any (pv 3))) (fun _ _ _ _ _ => (pg_name (i := 4) nd_Streets rfl (Or.inl rfl))) (fun _ _ _ _ _ => pts_nil) (fun _ _ _ _ _ => (pe_and (g_call C.c_is_lot hr (by omega) rfl (pa_cons (pv 4) (pa_cons (pe_callB cr_lenA rfl T.z_len b_len (pa_cons (pv 1) pa_nil)) pa_nil))) (pe_one (pe_cmpR (op_cmp .gt (hu_room hr)) (pe_callB cr_lenA rfl T.z_len b_len (pa_cons (pv 4) pa_nil)) pe_int (by first | exact nomark _ | rfl)))))) pa_nil)))) (pss_cons ps_never pss_nil) pss_nil) (pss_cons (ps_if (pt_not (pt_val (pe_callB (cr_all rfl) rfl T.z_all b_all (pa_cons (pe_lc (own := [("row", 3)]) rfl nd_Streets (pi_any (pv 1)) (blkOk_by (own := [("row", 3)]) (N := N_Streets) (sc := (defScope (inClass (top 19) 0))) (scope := (⟨.function, [(".0", .local), ("row", .local), ("is_tuple", .globalImplicit), ("len", .globalImplicit), ("ways", .free)], false, false, []⟩ : PySem.Scope)) (by decide +kernel)) (fun _ _ _ _ _ => (pg_name (i := 3) nd_Streets rfl (Or.inl rfl))) (fun _ _ _ _ _ => pts_nil) (fun _ _ _ _ _ => (g_call C.c_is_tuple hr (by omega) rfl (pa_cons (pv 3) (pa_cons (pe_callB cr_lenA rfl T.z_len b_len (pa_cons (pv 2) pa_nil)) pa_nil))))) pa_nil)))) (pss_cons ps_never pss_nil) pss_nil) (pss_cons (ps_if (pt_not (pt_val (pe_callB (cr_all rfl) rfl T.z_all b_all (pa_cons (pe_lc2 (own := [("row", 3), ("one", 5)]) (vs1 := [5]) rfl nd_Streets (pi_any (pv 1)) (blkOk_by (own := [("row", 3), ("one", 5)]) (N := N_Streets) (sc := (defScope (inClass (top 19) 0))) (scope := (⟨.function, [(".0", .local), ("row", .local), ("one", .local), ("is_number", .globalImplicit)], false, false, []⟩ : PySem.Scope)) (by decide +kernel)) (by decide) (fun _ _ _ _ _ => (pg_name (i := 3) nd_Streets rfl (Or.inl rfl))) (fun _ _ _ _ _ => pts_nil) (fun _ _ _ _ _ => (pi_any (pv 3))) (fun _ _ _ _ _ => (pg_name (i := 5) nd_Streets rfl (Or.inl rfl))) (fun _ _ _ _ _ => pts_nil) (fun _ _ _ _ _ => (g_call C.c_is_number hr (by omega) rfl (pa_cons (pv 5) pa_nil)))) pa_nil)))) (pss_cons ps_never pss_nil) pss_nil) (pss_cons (ps_fld (pv 0) (pv 1) rfl) (pss_cons (ps_fld (pv 0) (pv 2) rfl) pss_nil)))))))
theorem b__law_crowds {n : Nat} (T : Txt P mg) (C : All P prog w mg base n) {f : Addr} {cdv : Value} {A : Around} {outer : List PySem.Env} {s : Shared} {H : Hp} {E : XK} (hr : Rm (2 * n + 1) (A.deeper (envOfC "_law_crowds" (defScope s__law_crowds) s.heap.objs.size f cdv))) :
    PSs (cxOf CX0 prog w P.K mg base N__law_crowds "_law_crowds" (defScope s__law_crowds) f cdv A outer s H E).nox (defBody s__law_crowds) (tSs P (spec P (phi Gm tab n)) F__law_crowds.body) :=
  (pss_cons (ps_set (i := 3) nd__law_crowds rfl (Or.inl rfl) (pe_op (op_bin .mul) (pe_lst (pa_cons pe_int pa_nil)) (pe_callB cr_lenA rfl T.z_len b_len (pa_cons (pv 0) pa_nil)))) (pss_cons (ps_for PassesOwn.never rfl (Zg.pi_zipG rfl T.z_zip (pa_cons (pv 1) (pa_cons (pv 2) pa_nil))) (pg_tup rfl (pgs_cons (pg_name (i := 4) nd__law_crowds rfl (Or.inl rfl)) (pgs_cons (pg_name (i := 5) nd__law_crowds rfl (Or.inl rfl)) pgs_nil))) (pss_cons (ps_for PassesOwn.never rfl (pi_any (PE.or (pe_ix ix_seq (pv 4) (pv 5) (fun _ _ => rfl)) (pe_dget (hu_one hr) (pv 4) (pv 5) (fun _ _ => rfl)))) (pg_name (i := 6) nd__law_crowds rfl (Or.inl rfl)) (pss_cons (ps_asg (pe_op (op_bin .add) (PE.or (pe_ix ix_seq (pv 3) (pv 6) (fun _ _ => rfl)) (pe_dget (hu_one hr) (pv 3) (pv 6) (fun _ _ => rfl))) pe_int) (pg_sub (pv 3) (pv 6) (set_any (hu_one hr)) (fun _ => rfl))) pss_nil)) pss_nil)) (pss_cons (ps_ret (pv 3)) pss_nil)))
theorem b__law_paid {n : Nat} (T : Txt P mg) (C : All P prog w mg base n) {f : Addr} {cdv : Value} {A : Around} {outer : List PySem.Env} {s : Shared} {H : Hp} {E : XK} (hr : Rm (2 * n + 1) (A.deeper (envOfC "_law_paid" (defScope s__law_paid) s.heap.objs.size f cdv))) :
    PSs (cxOf CX0 prog w P.K mg base N__law_paid "_law_paid" (defScope s__law_paid) f cdv A outer s H E).nox (defBody s__law_paid) (tSs P (spec P (phi Gm tab n)) F__law_paid.body) :=
  (pss_cons (ps_set (i := 3) nd__law_paid rfl (Or.inr rfl) (g_call C.c__law_crowds hr (by omega) rfl (pa_cons (pv 0) (pa_cons (pv 1) (pa_cons (pv 2) pa_nil))))) (pss_cons (ps_set (i := 4) nd__law_paid rfl (Or.inl rfl) (pe_lst pa_nil)) (pss_cons (ps_for PassesOwn.never rfl (Zg.pi_zipG rfl T.z_zip (pa_cons (pv 1) (pa_cons (pv 2) pa_nil))) (pg_tup rfl (pgs_cons (pg_name (i := 5) nd__law_paid rfl (Or.inl rfl)) (pgs_cons (pg_name (i := 6) nd__law_paid rfl (Or.inl rfl)) pgs_nil))) (pss_cons (ps_expr (pe_bm PySem.F.plainAttrs_list PySem.F.slot_list_append PySem.F.type_list_append mt_append (pv 4) (pa_cons (pe_callB (cr_sumA rfl) rfl T.z_sum b_sum (pa_cons (pe_lc (own := [("street", 7)]) rfl nd__law_paid (pi_any (PE.or (pe_ix ix_seq (pv 5) (pv 6) (fun _ _ => rfl)) (pe_dget (hu_one hr) (pv 5) (pv 6) (fun _ _ => rfl)))) (blkOk_by (own := [("street", 7)]) (N := N__law_paid) (sc := (defScope (top 43))) (scope := (⟨.function, [(".0", .local), ("street", .local), ("costs", .free), ("crowds", .free)], false, false, []⟩ : PySem.Scope)) (by decide +kernel)) (fun _ _ _ _ _ => (pg_name (i := 7) nd__law_paid rfl (Or.inl rfl))) (fun _ _ _ _ _ => pts_nil) (fun _ _ _ _ _ => (PE.or (pe_ix ix_seq (PE.or (pe_ix ix_seq (pv 0) (pv 7) (fun _ _ => rfl)) (pe_dget (hu_one hr) (pv 0) (pv 7) (fun _ _ => rfl))) (pe_op (op_bin .sub) (PE.or (pe_ix ix_seq (pv 3) (pv 7) (fun _ _ => rfl)) (pe_dget (hu_one hr) (pv 3) (pv 7) (fun _ _ => rfl))) pe_int) (fun _ _ => rfl)) (pe_dget (hu_one hr) (PE.or (pe_ix ix_seq (pv 0) (pv 7) (fun _ _ => rfl)) (pe_dget (hu_one hr) (pv 0) (pv 7) (fun _ _ => rfl))) (pe_op (op_bin .sub) (PE.or (pe_ix ix_seq (pv 3) (pv 7) (fun _ _ => rfl)) (pe_dget (hu_one hr) (pv 3) (pv 7) (fun _ _ => rfl))) pe_int) (fun _ _ => rfl))))) pa_nil)) pa_nil))) pss_nil)) (pss_cons (ps_ret (pv 4)) pss_nil))))
theorem b__law_next {n : Nat} (T : Txt P mg) (C : All P prog w mg base n) {f : Addr} {cdv : Value} {A : Around} {outer : List PySem.Env} {s : Shared} {H : Hp} {E : XK} (hr : Rm (2 * n + 1) (A.deeper (envOfC "_law_next" (defScope s__law_next) s.heap.objs.size f cdv))) :
    PSs (cxOf CX0 prog w P.K mg base N__law_next "_law_next" (defScope s__law_next) f cdv A outer s H E).nox (defBody s__law_next) (tSs P (spec P (phi Gm tab n)) F__law_next.body) :=
  (pss_cons (ps_set (i := 4) nd__law_next rfl (Or.inl rfl) pe_non) (pss_cons (ps_for PassesOwn.never rfl (pi_range1 rfl T.z_range (pa_cons (pe_callB cr_lenA rfl T.z_len b_len (pa_cons (PE.or (pe_ix ix_seq (pv 1) (pv 3) (fun _ _ => rfl)) (pe_dget (hu_one hr) (pv 1) (pv 3) (fun _ _ => rfl))) pa_nil)) pa_nil)) (pg_name (i := 5) nd__law_next rfl (Or.inl rfl)) (pss_cons (ps_set (i := 6) nd__law_next rfl (Or.inl rfl) (pe_op (op_bin .add) (pe_op (op_bin .add) (pe_slice sl_any (pv 2) po_none (po_some (pv 3))) (pe_tupN (pa_cons (pv 5) pa_nil))) (pe_slice sl_any (pv 2) (po_some (pe_op (op_bin .add) (pv 3) pe_int)) po_none))) (pss_cons (ps_set (i := 7) nd__law_next rfl (Or.inl rfl) (PE.or (pe_ix ix_seq (g_call C.c__law_paid hr (by omega) rfl (pa_cons (pv 0) (pa_cons (pv 1) (pa_cons (pv 6) pa_nil)))) (pv 3) (fun _ _ => rfl)) (pe_dget (hu_one hr) (g_call C.c__law_paid hr (by omega) rfl (pa_cons (pv 0) (pa_cons (pv 1) (pa_cons (pv 6) pa_nil)))) (pv 3) (fun _ _ => rfl)))) (pss_cons (ps_set (i := 4) nd__law_next rfl (Or.inl rfl) (pe_ifExp (PW.pt (pw_or (pt_cmpR (op_cmp .iss (hu_room hr)) (pv 4) pe_non (by first | exact nomark _ | rfl)) (pw_or1 (pt_cmpR (op_cmp .lt (hu_room hr)) (pv 7) (PE.or (pe_ix ix_seq (pv 4) pe_int (fun _ _ => rfl)) (pe_dget (hu_one hr) (pv 4) pe_int (fun _ _ => rfl))) (by first | exact nomark _ | rfl))))) (pe_tupN (pa_cons (pv 7) (pa_cons (pv 6) pa_nil))) (pv 4))) pss_nil)))) (pss_cons (ps_ret (pe_ifExp (pt_cmpR (op_cmp .lt (hu_room hr)) (PE.or (pe_ix ix_seq (pv 4) pe_int (fun _ _ => rfl)) (pe_dget (hu_one hr) (pv 4) pe_int (fun _ _ => rfl))) (PE.or (pe_ix ix_seq (g_call C.c__law_paid hr (by omega) rfl (pa_cons (pv 0) (pa_cons (pv 1) (pa_cons (pv 2) pa_nil)))) (pv 3) (fun _ _ => rfl)) (pe_dget (hu_one hr) (g_call C.c__law_paid hr (by omega) rfl (pa_cons (pv 0) (pa_cons (pv 1) (pa_cons (pv 2) pa_nil)))) (pv 3) (fun _ _ => rfl))) (by first | exact nomark _ | rfl)) (PE.or (pe_ix ix_seq (pv 4) pe_int (fun _ _ => rfl)) (pe_dget (hu_one hr) (pv 4) pe_int (fun _ _ => rfl))) pe_non)) pss_nil)))
theorem b__law_walk {n : Nat} (T : Txt P mg) (C : All P prog w mg base n) {f : Addr} {cdv : Value} {A : Around} {outer : List PySem.Env} {s : Shared} {H : Hp} {E : XK} (hr : Rm (2 * n + 1) (A.deeper (envOfC "_law_walk" (defScope s__law_walk) s.heap.objs.size f cdv))) :
    PSs (cxOf CX0 prog w P.K mg base N__law_walk "_law_walk" (defScope s__law_walk) f cdv A outer s H E).nox (defBody s__law_walk) (tSs P (spec P (phi Gm tab n)) F__law_walk.body) :=
  (pss_cons (g_par (P := P) (o1 := true) (o2 := false) (i := 3) (j := 4) rfl nd__law_walk rfl rfl (by decide) rfl rfl (pa_cons (pe_lst (pa_cons (pv 2) pa_nil)) (pa_cons pe_bl pa_nil)) (by first | rfl | exact (by with_unfolding_all rfl))) (pss_cons (ps_while PassesOwn.never (pt_val (pv 4)) (pss_cons (ps_set (i := 4) nd__law_walk rfl (Or.inl rfl) pe_bl) (pss_cons (ps_for PassesOwn.never rfl (pi_range1 rfl T.z_range (pa_cons (pe_callB cr_lenA rfl T.z_len b_len (pa_cons (pv 1) pa_nil)) pa_nil)) (pg_name (i := 5) nd__law_walk rfl (Or.inl rfl)) (pss_cons (ps_set (i := 6) nd__law_walk rfl (Or.inl rfl) (g_call C.c__law_next hr (by omega) rfl (pa_cons (pv 0) (pa_cons (pv 1) (pa_cons (PE.or (pe_ix ix_seq (pv 3) (pe_un un_neg pe_int) (fun _ _ => rfl)) (pe_dget (hu_one hr) (pv 3) (pe_un un_neg pe_int) (fun _ _ => rfl))) (pa_cons (pv 5) pa_nil)))))) (pss_cons (ps_if (pt_cmpR (op_cmp .isn (hu_room hr)) (pv 6) pe_non (by first | exact nomark _ | rfl)) (pss_cons (ps_expr (pe_bm PySem.F.plainAttrs_list PySem.F.slot_list_append PySem.F.type_list_append mt_append (pv 3) (pa_cons (pv 6) pa_nil))) (pss_cons (ps_set (i := 4) nd__law_walk rfl (Or.inl rfl) pe_bl) (pss_cons ps_break pss_nil))) pss_nil) pss_nil))) pss_nil))) (pss_cons (ps_ret (pv 3)) pss_nil)))
theorem b_are_choices {n : Nat} (T : Txt P mg) (C : All P prog w mg base n) {f : Addr} {cdv : Value} {A : Around} {outer : List PySem.Env} {s : Shared} {H : Hp} {E : XK} (hr : Rm (2 * n + 1) (A.deeper (envOfC "are_choices" (defScope s_are_choices) s.heap.objs.size f cdv))) :
    PSs (cxOf CX0 prog w P.K mg base N_are_choices "are_choices" (defScope s_are_choices) f cdv A outer s H E).nox (defBody s_are_choices) (tSs P (spec P (phi Gm tab n)) F_are_choices.body) :=
  (pss_cons (ps_if (pt_not (pt_val (g_call C.c_is_tuple hr (by omega) rfl (pa_cons (pv 1) (pa_cons (pe_callB cr_lenA rfl T.z_len b_len (pa_cons (pe_fld (pv 0) rfl) pa_nil)) pa_nil))))) (pss_cons (ps_ret pe_bl) pss_nil) pss_nil) (pss_cons (ps_ret (pe_callB (cr_all rfl) rfl T.z_all b_all (pa_cons (pe_lc (own := [("one", 2), ("row", 3)]) rfl nd_are_choices (Zg.pi_zipG rfl T.z_zip (pa_cons (pv 1) (pa_cons (pe_fld (pv 0) rfl) pa_nil))) (blkOk_by (own := [("one", 2), ("row", 3)]) (N := N_are_choices) (sc := (defScope (top 20))) (scope := (⟨.function, [(".0", .local), ("one", .local), ("row", .local), ("is_within", .globalImplicit), ("len", .globalImplicit)], false, false, []⟩ : PySem.Scope)) (by decide +kernel)) (fun _ _ _ _ _ => (pg_tup rfl (pgs_cons (pg_name (i := 2) nd_are_choices rfl (Or.inl rfl)) (pgs_cons (pg_name (i := 3) nd_are_choices rfl (Or.inl rfl)) pgs_nil)))) (fun _ _ _ _ _ => pts_nil) (fun _ _ _ _ _ => (g_call C.c_is_within hr (by omega) rfl (pa_cons (pv 2) (pa_cons pe_int (pa_cons (pe_op (op_bin .sub) (pe_callB cr_lenA rfl T.z_len b_len (pa_cons (pv 3) pa_nil)) pe_int) pa_nil)))))) pa_nil))) pss_nil))
theorem b_check_choices {n : Nat} (T : Txt P mg) (C : All P prog w mg base n) {f : Addr} {cdv : Value} {A : Around} {outer : List PySem.Env} {s : Shared} {H : Hp} {E : XK} (hr : Rm (2 * n + 1) (A.deeper (envOfC "check_choices" (defScope s_check_choices) s.heap.objs.size f cdv))) :
    PSs (cxOf CX0 prog w P.K mg base N_check_choices "check_choices" (defScope s_check_choices) f cdv A outer s H E).nox (defBody s_check_choices) (tSs P (spec P (phi Gm tab n)) F_check_choices.body) :=
  (pss_cons (ps_if (pt_not (pt_val (g_call C.c_are_choices hr (by omega) rfl (pa_cons (pv 0) (pa_cons (pv 1) pa_nil))))) (pss_cons ps_never pss_nil) pss_nil) pss_nil)
theorem b_counts_of {n : Nat} (T : Txt P mg) (C : All P prog w mg base n) {f : Addr} {cdv : Value} {A : Around} {outer : List PySem.Env} {s : Shared} {H : Hp} {E : XK} (hr : Rm (2 * n + 1) (A.deeper (envOfC "counts_of" (defScope s_counts_of) s.heap.objs.size f cdv))) :
    PSs (cxOf CX0 prog w P.K mg base N_counts_of "counts_of" (defScope s_counts_of) f cdv A outer s H E).nox (defBody s_counts_of) (tSs P (spec P (phi Gm tab n)) F_counts_of.body) :=
  (pss_cons (ps_set (i := 2) nd_counts_of rfl (Or.inl rfl) (pe_op (op_bin .mul) (pe_lst (pa_cons pe_int pa_nil)) (pe_callB cr_lenA rfl T.z_len b_len (pa_cons (pe_fld (pv 0) rfl) pa_nil)))) (pss_cons (ps_for PassesOwn.never rfl (pi_enumA rfl T.z_enumerate (pa_cons (pv 1) pa_nil)) (pg_tup rfl (pgs_cons (pg_name (i := 3) nd_counts_of rfl (Or.inl rfl)) (pgs_cons (pg_name (i := 4) nd_counts_of rfl (Or.inl rfl)) pgs_nil))) (pss_cons (ps_for PassesOwn.never rfl (pi_any (PE.or (pe_ix ix_seq (PE.or (pe_ix ix_seq (pe_fld (pv 0) rfl) (pv 3) (fun _ _ => rfl)) (pe_dget (hu_one hr) (pe_fld (pv 0) rfl) (pv 3) (fun _ _ => rfl))) (pv 4) (fun _ _ => rfl)) (pe_dget (hu_one hr) (PE.or (pe_ix ix_seq (pe_fld (pv 0) rfl) (pv 3) (fun _ _ => rfl)) (pe_dget (hu_one hr) (pe_fld (pv 0) rfl) (pv 3) (fun _ _ => rfl))) (pv 4) (fun _ _ => rfl)))) (pg_name (i := 5) nd_counts_of rfl (Or.inl rfl)) (pss_cons (ps_augS (pv 2) (pv 5) get_own pe_int ip_add (set_any (hu_one hr))) pss_nil)) pss_nil)) (pss_cons (ps_ret (pv 2)) pss_nil)))
theorem b_raw_costs {n : Nat} (T : Txt P mg) (C : All P prog w mg base n) {f : Addr} {cdv : Value} {A : Around} {outer : List PySem.Env} {s : Shared} {H : Hp} {E : XK} (hr : Rm (2 * n + 1) (A.deeper (envOfC "raw_costs" (defScope s_raw_costs) s.heap.objs.size f cdv))) :
    PSs (cxOf CX0 prog w P.K mg base N_raw_costs "raw_costs" (defScope s_raw_costs) f cdv A outer s H E).nox (defBody s_raw_costs) (tSs P (spec P (phi Gm tab n)) F_raw_costs.body) :=
  (pss_cons (g_parN (P := P) (ts := [(2, false), (3, true)]) rfl (pa_cons (g_call C.c_counts_of hr (by omega) rfl (pa_cons (pv 0) (pa_cons (pv 1) pa_nil))) (pa_cons (pe_lst pa_nil) pa_nil)) (pg_tup rfl (pgs_cons (pg_name (i := 2) nd_raw_costs rfl (Or.inr rfl)) (pgs_cons (pg_name (i := 3) nd_raw_costs rfl (Or.inl rfl)) pgs_nil)))) (pss_cons (ps_for PassesOwn.never rfl (pi_enumA rfl T.z_enumerate (pa_cons (pv 1) pa_nil)) (pg_tup rfl (pgs_cons (pg_name (i := 4) nd_raw_costs rfl (Or.inl rfl)) (pgs_cons (pg_name (i := 5) nd_raw_costs rfl (Or.inl rfl)) pgs_nil))) (pss_cons (ps_expr (pe_bm PySem.F.plainAttrs_list PySem.F.slot_list_append PySem.F.type_list_append mt_append (pv 3) (pa_cons (pe_callB (cr_sumA rfl) rfl T.z_sum b_sum (pa_cons (pe_lc (own := [("street", 6)]) rfl nd_raw_costs (pi_any (PE.or (pe_ix ix_seq (PE.or (pe_ix ix_seq (pe_fld (pv 0) rfl) (pv 4) (fun _ _ => rfl)) (pe_dget (hu_one hr) (pe_fld (pv 0) rfl) (pv 4) (fun _ _ => rfl))) (pv 5) (fun _ _ => rfl)) (pe_dget (hu_one hr) (PE.or (pe_ix ix_seq (pe_fld (pv 0) rfl) (pv 4) (fun _ _ => rfl)) (pe_dget (hu_one hr) (pe_fld (pv 0) rfl) (pv 4) (fun _ _ => rfl))) (pv 5) (fun _ _ => rfl)))) (blkOk_by (own := [("street", 6)]) (N := N_raw_costs) (sc := (defScope (top 23))) (scope := (⟨.function, [(".0", .local), ("street", .local), ("counts", .free), ("streets", .free)], false, false, []⟩ : PySem.Scope)) (by decide +kernel)) (fun _ _ _ _ _ => (pg_name (i := 6) nd_raw_costs rfl (Or.inl rfl))) (fun _ _ _ _ _ => pts_nil) (fun _ _ _ _ _ => (PE.or (pe_ix ix_seq (PE.or (pe_ix ix_seq (pe_fld (pv 0) rfl) (pv 6) (fun _ _ => rfl)) (pe_dget (hu_one hr) (pe_fld (pv 0) rfl) (pv 6) (fun _ _ => rfl))) (pe_op (op_bin .sub) (PE.or (pe_ix ix_seq (pv 2) (pv 6) (fun _ _ => rfl)) (pe_dget (hu_one hr) (pv 2) (pv 6) (fun _ _ => rfl))) pe_int) (fun _ _ => rfl)) (pe_dget (hu_one hr) (PE.or (pe_ix ix_seq (pe_fld (pv 0) rfl) (pv 6) (fun _ _ => rfl)) (pe_dget (hu_one hr) (pe_fld (pv 0) rfl) (pv 6) (fun _ _ => rfl))) (pe_op (op_bin .sub) (PE.or (pe_ix ix_seq (pv 2) (pv 6) (fun _ _ => rfl)) (pe_dget (hu_one hr) (pv 2) (pv 6) (fun _ _ => rfl))) pe_int) (fun _ _ => rfl))))) pa_nil)) pa_nil))) pss_nil)) (pss_cons (ps_ret (pe_callTy call_tupleN rfl T.z_tuple b_tuple (pa_cons (pv 3) pa_nil))) pss_nil)))
theorem b_with_choice {n : Nat} (T : Txt P mg) (C : All P prog w mg base n) {f : Addr} {cdv : Value} {A : Around} {outer : List PySem.Env} {s : Shared} {H : Hp} {E : XK} (hr : Rm (2 * n + 1) (A.deeper (envOfC "with_choice" (defScope s_with_choice) s.heap.objs.size f cdv))) :
    PSs (cxOf CX0 prog w P.K mg base N_with_choice "with_choice" (defScope s_with_choice) f cdv A outer s H E).nox (defBody s_with_choice) (tSs P (spec P (phi Gm tab n)) F_with_choice.body) :=
  (pss_cons (ps_ret (pe_op (op_bin .add) (pe_op (op_bin .add) (pe_slice sl_any (pv 0) po_none (po_some (pv 1))) (pe_tupN (pa_cons (pv 2) pa_nil))) (pe_slice sl_any (pv 0) (po_some (pe_op (op_bin .add) (pv 1) pe_int)) po_none))) pss_nil)
theorem b_best_way {n : Nat} (T : Txt P mg) (C : All P prog w mg base n) {f : Addr} {cdv : Value} {A : Around} {outer : List PySem.Env} {s : Shared} {H : Hp} {E : XK} (hr : Rm (2 * n + 1) (A.deeper (envOfC "best_way" (defScope s_best_way) s.heap.objs.size f cdv))) :
    PSs (cxOf CX0 prog w P.K mg base N_best_way "best_way" (defScope s_best_way) f cdv A outer s H E).nox (defBody s_best_way) (tSs P (spec P (phi Gm tab n)) F_best_way.body) :=
  (pss_cons (ps_setLc (i := 3) (own := [("one", 4)]) rfl nd_best_way rfl rfl (sw_true rfl rfl rfl (by decide +kernel)) (pi_range1 rfl T.z_range (pa_cons (pe_callB cr_lenA rfl T.z_len b_len (pa_cons (PE.or (pe_ix ix_seq (pe_fld (pv 0) rfl) (pv 2) (fun _ _ => rfl)) (pe_dget (hu_one hr) (pe_fld (pv 0) rfl) (pv 2) (fun _ _ => rfl))) pa_nil)) pa_nil)) (blkOk_by (own := [("one", 4)]) (N := N_best_way) (sc := (defScope (top 26))) (scope := (⟨.function, [(".0", .local), ("one", .local), ("raw_costs", .globalImplicit), ("with_choice", .globalImplicit), ("choices", .free), ("streets", .free), ("walker", .free)], false, false, []⟩ : PySem.Scope)) (by decide +kernel)) (fun _ _ _ _ _ => (pg_name (i := 4) nd_best_way rfl (Or.inl rfl))) (fun _ _ _ _ _ => pts_nil) (fun _ _ _ _ _ => (PE.or (pe_ix ix_seq (g_call C.c_raw_costs hr (by omega) rfl (pa_cons (pv 0) (pa_cons (g_call C.c_with_choice hr (by omega) rfl (pa_cons (pv 1) (pa_cons (pv 2) (pa_cons (pv 4) pa_nil)))) pa_nil))) (pv 2) (fun _ _ => rfl)) (pe_dget (hu_one hr) (g_call C.c_raw_costs hr (by omega) rfl (pa_cons (pv 0) (pa_cons (g_call C.c_with_choice hr (by omega) rfl (pa_cons (pv 1) (pa_cons (pv 2) (pa_cons (pv 4) pa_nil)))) pa_nil))) (pv 2) (fun _ _ => rfl))))) (pss_cons (ps_ret (pe_ifExp (pt_cmpR (op_cmp .eq (hu_room hr)) (PE.or (pe_ix ix_seq (pv 3) (PE.or (pe_ix ix_seq (pv 1) (pv 2) (fun _ _ => rfl)) (pe_dget (hu_one hr) (pv 1) (pv 2) (fun _ _ => rfl))) (fun _ _ => rfl)) (pe_dget (hu_one hr) (pv 3) (PE.or (pe_ix ix_seq (pv 1) (pv 2) (fun _ _ => rfl)) (pe_dget (hu_one hr) (pv 1) (pv 2) (fun _ _ => rfl))) (fun _ _ => rfl))) (pe_callB (cr_min2 rfl (hu_room hr)) rfl T.z_min b_min (pa_cons (pv 3) pa_nil)) (by first | exact nomark _ | rfl)) (PE.or (pe_ix ix_seq (pv 1) (pv 2) (fun _ _ => rfl)) (pe_dget (hu_one hr) (pv 1) (pv 2) (fun _ _ => rfl))) (PE.or (pe_bm PySem.F.plainAttrs_list PySem.F.slot_list_index PySem.F.type_list_index mt_index (pv 3) (pa_cons (pe_callB (cr_min2 rfl (hu_room hr)) rfl T.z_min b_min (pa_cons (pv 3) pa_nil)) pa_nil)) (pe_bd PySem.F.plainAttrs_tuple PySem.F.slot_tuple_index PySem.F.type_tuple_index mt_indexT (pv 3) (pa_cons (pe_callB (cr_min2 rfl (hu_room hr)) rfl T.z_min b_min (pa_cons (pv 3) pa_nil)) pa_nil))))) pss_nil))
theorem b_is_settled {n : Nat} (T : Txt P mg) (C : All P prog w mg base n) {f : Addr} {cdv : Value} {A : Around} {outer : List PySem.Env} {s : Shared} {H : Hp} {E : XK} (hr : Rm (2 * n + 1) (A.deeper (envOfC "is_settled" (defScope s_is_settled) s.heap.objs.size f cdv))) :
    PSs (cxOf CX0 prog w P.K mg base N_is_settled "is_settled" (defScope s_is_settled) f cdv A outer s H E).nox (defBody s_is_settled) (tSs P (spec P (phi Gm tab n)) F_is_settled.body) :=
  (pss_cons (ps_if (pt_not (pt_val (g_call C.c_are_choices hr (by omega) rfl (pa_cons (pv 0) (pa_cons (pv 1) pa_nil))))) (pss_cons (ps_ret pe_bl) pss_nil) pss_nil) (pss_cons (ps_ret (pe_callB (cr_all rfl) rfl T.z_all b_all (pa_cons (pe_lc (own := [("walker", 2), ("one", 3)]) rfl nd_is_settled (pi_enumA rfl T.z_enumerate (pa_cons (pv 1) pa_nil)) (blkOk_by (own := [("walker", 2), ("one", 3)]) (N := N_is_settled) (sc := (defScope (top 27))) (scope := (⟨.function, [(".0", .local), ("walker", .local), ("one", .local), ("best_way", .globalImplicit), ("streets", .free), ("thing", .free)], false, false, []⟩ : PySem.Scope)) (by decide +kernel)) (fun _ _ _ _ _ => (pg_tup rfl (pgs_cons (pg_name (i := 2) nd_is_settled rfl (Or.inl rfl)) (pgs_cons (pg_name (i := 3) nd_is_settled rfl (Or.inl rfl)) pgs_nil)))) (fun _ _ _ _ _ => pts_nil) (fun _ _ _ _ _ => (pe_cmpR (op_cmp .eq (hu_room hr)) (g_call C.c_best_way hr (by omega) rfl (pa_cons (pv 0) (pa_cons (pv 1) (pa_cons (pv 2) pa_nil)))) (pv 3) (by first | exact nomark _ | rfl)))) pa_nil))) pss_nil))
theorem b_walk_down {n : Nat} (T : Txt P mg) (C : All P prog w mg base n) {f : Addr} {cdv : Value} {A : Around} {outer : List PySem.Env} {s : Shared} {H : Hp} {E : XK} (hr : Rm (2 * n + 1) (A.deeper (envOfC "walk_down" (defScope s_walk_down) s.heap.objs.size f cdv))) :
    PSs (cxOf CX0 prog w P.K mg base N_walk_down "walk_down" (defScope s_walk_down) f cdv A outer s H E).nox (defBody s_walk_down) (tSs P (spec P (phi Gm tab n)) F_walk_down.body) :=
  (pss_cons (ps_expr (g_call C.c_check_choices hr (by omega) rfl (pa_cons (pv 0) (pa_cons (pv 1) pa_nil)))) (pss_cons (ps_set (i := 2) nd_walk_down rfl (Or.inl rfl) (pe_lst (pa_cons (pv 1) pa_nil))) (pss_cons (ps_while PassesOwn.never (pt_not (pt_val (g_call C.c_is_settled hr (by omega) rfl (pa_cons (pv 0) (pa_cons (pv 1) pa_nil))))) (pss_cons (ps_setLc (i := 3) (own := [("one", 4)]) rfl nd_walk_down rfl rfl (sw_true rfl rfl rfl (by decide +kernel)) (pi_range1 rfl T.z_range (pa_cons (pe_callB cr_lenA rfl T.z_len b_len (pa_cons (pv 1) pa_nil)) pa_nil)) (blkOk_by (own := [("one", 4)]) (N := N_walk_down) (sc := (defScope (top 31))) (scope := (⟨.function, [(".0", .local), ("one", .local), ("best_way", .globalImplicit), ("choices", .free), ("streets", .free)], false, false, []⟩ : PySem.Scope)) (by decide +kernel)) (fun _ _ _ _ _ => (pg_name (i := 4) nd_walk_down rfl (Or.inl rfl))) (fun _ _ _ _ _ => (pts_one (pt_cmpR (op_cmp .ne (hu_room hr)) (g_call C.c_best_way hr (by omega) rfl (pa_cons (pv 0) (pa_cons (pv 1) (pa_cons (pv 4) pa_nil)))) (PE.or (pe_ix ix_seq (pv 1) (pv 4) (fun _ _ => rfl)) (pe_dget (hu_one hr) (pv 1) (pv 4) (fun _ _ => rfl))) (by first | exact nomark _ | rfl)))) (fun _ _ _ _ _ => (pv 4))) (pss_cons (ps_set (i := 1) nd_walk_down rfl (Or.inr rfl) (g_call C.c_with_choice hr (by omega) rfl (pa_cons (pv 1) (pa_cons (PE.or (pe_ix ix_seq (pv 3) pe_int (fun _ _ => rfl)) (pe_dget (hu_one hr) (pv 3) pe_int (fun _ _ => rfl))) (pa_cons (g_call C.c_best_way hr (by omega) rfl (pa_cons (pv 0) (pa_cons (pv 1) (pa_cons (PE.or (pe_ix ix_seq (pv 3) pe_int (fun _ _ => rfl)) (pe_dget (hu_one hr) (pv 3) pe_int (fun _ _ => rfl))) pa_nil)))) pa_nil))))) (pss_cons (ps_expr (pe_bm PySem.F.plainAttrs_list PySem.F.slot_list_append PySem.F.type_list_append mt_append (pv 2) (pa_cons (pv 1) pa_nil))) pss_nil)))) (pss_cons (ps_ret (pv 2)) pss_nil))))
theorem b__law_is {n : Nat} (T : Txt P mg) (C : All P prog w mg base n) {f : Addr} {cdv : Value} {A : Around} {outer : List PySem.Env} {s : Shared} {H : Hp} {E : XK} (hr : Rm (2 * n + 1) (A.deeper (envOfC "_law_is" (defScope s__law_is) s.heap.objs.size f cdv))) :
    PSs (cxOf CX0 prog w P.K mg base N__law_is "_law_is" (defScope s__law_is) f cdv A outer s H E).nox (defBody s__law_is) (tSs P (spec P (phi Gm tab n)) F__law_is.body) :=
  (pss_cons (ps_ret (pe_cmpR (op_cmp .eq (hu_room hr)) (pe_callB (cr_repr hr.gs (hu_room hr)) rfl T.z_repr b_repr (pa_cons (pv 0) pa_nil)) (pe_callB (cr_repr hr.gs (hu_room hr)) rfl T.z_repr b_repr (pa_cons (pv 1) pa_nil)) (by first | exact nomark _ | rfl))) pss_nil)
theorem b_costs_of {n : Nat} (T : Txt P mg) (C : All P prog w mg base n) {f : Addr} {cdv : Value} {A : Around} {outer : List PySem.Env} {s : Shared} {H : Hp} {E : XK} (hr : Rm (2 * n + 1) (A.deeper (envOfC "costs_of" (defScope s_costs_of) s.heap.objs.size f cdv))) :
    PSs (cxOf CX0 prog w P.K mg base N_costs_of "costs_of" (defScope s_costs_of) f cdv A outer s H E).nox (defBody s_costs_of) (tSs P (spec P (phi Gm tab n)) F_costs_of.body) :=
  (pss_cons (ps_expr (g_call C.c_check_choices hr (by omega) rfl (pa_cons (pv 0) (pa_cons (pv 1) pa_nil)))) (pss_cons (ps_ret (g_call C.c_raw_costs hr (by omega) rfl (pa_cons (pv 0) (pa_cons (pv 1) pa_nil)))) pss_nil))
theorem b_height_of {n : Nat} (T : Txt P mg) (C : All P prog w mg base n) {f : Addr} {cdv : Value} {A : Around} {outer : List PySem.Env} {s : Shared} {H : Hp} {E : XK} (hr : Rm (2 * n + 1) (A.deeper (envOfC "height_of" (defScope s_height_of) s.heap.objs.size f cdv))) :
    PSs (cxOf CX0 prog w P.K mg base N_height_of "height_of" (defScope s_height_of) f cdv A outer s H E).nox (defBody s_height_of) (tSs P (spec P (phi Gm tab n)) F_height_of.body) :=
  (pss_cons (ps_expr (g_call C.c_check_choices hr (by omega) rfl (pa_cons (pv 0) (pa_cons (pv 1) pa_nil)))) (pss_cons (ps_ret (pe_callB (cr_sumA rfl) rfl T.z_sum b_sum (pa_cons (pe_lc (own := [("row", 2), ("many", 3)]) rfl nd_height_of (Zg.pi_zipG rfl T.z_zip (pa_cons (pe_fld (pv 0) rfl) (pa_cons (g_call C.c_counts_of hr (by omega) rfl (pa_cons (pv 0) (pa_cons (pv 1) pa_nil))) pa_nil))) (blkOk_by (own := [("row", 2), ("many", 3)]) (N := N_height_of) (sc := (defScope (top 30))) (scope := (⟨.function, [(".0", .local), ("row", .local), ("many", .local), ("sum", .globalImplicit)], false, false, []⟩ : PySem.Scope)) (by decide +kernel)) (fun _ _ _ _ _ => (pg_tup rfl (pgs_cons (pg_name (i := 2) nd_height_of rfl (Or.inl rfl)) (pgs_cons (pg_name (i := 3) nd_height_of rfl (Or.inl rfl)) pgs_nil)))) (fun _ _ _ _ _ => pts_nil) (fun _ _ _ _ _ => (pe_callB (cr_sumA rfl) rfl T.z_sum b_sum (pa_cons (pe_slice sl_any (pv 2) po_none (po_some (pv 3))) pa_nil)))) pa_nil))) pss_nil))
theorem b__law_walk_right {n : Nat} (T : Txt P mg) (C : All P prog w mg base n) {f : Addr} {cdv : Value} {A : Around} {outer : List PySem.Env} {s : Shared} {H : Hp} {E : XK} (hr : Rm (2 * n + 1) (A.deeper (envOfC "_law_walk_right" (defScope s__law_walk_right) s.heap.objs.size f cdv))) :
    PSs (cxOf CX0 prog w P.K mg base N__law_walk_right "_law_walk_right" (defScope s__law_walk_right) f cdv A outer s H E).nox (defBody s__law_walk_right) (tSs P (spec P (phi Gm tab n)) F__law_walk_right.body) :=
  (pss_cons (g_par (P := P) (o1 := false) (o2 := false) (i := 3) (j := 4) rfl nd__law_walk_right rfl rfl (by decide) rfl rfl (pa_cons (g_make C.c_Streets hr (by omega) rfl (pa_cons (pv 0) (pa_cons (pv 1) pa_nil))) (pa_cons (g_call C.c__law_walk hr (by omega) rfl (pa_cons (pv 0) (pa_cons (pv 1) (pa_cons (pv 2) pa_nil)))) pa_nil)) (by first | rfl | exact (by with_unfolding_all rfl))) (pss_cons (ps_set (i := 5) nd__law_walk_right rfl (Or.inl rfl) (g_call C.c_walk_down hr (by omega) rfl (pa_cons (pv 3) (pa_cons (pv 2) pa_nil)))) (pss_cons (ps_if (PW.pt (pw_or (pt_not (pt_val (g_call C.c__law_is hr (by omega) rfl (pa_cons (pe_lc (own := [("one", 6)]) rfl nd__law_walk_right (pi_any (pv 5)) (blkOk_by (own := [("one", 6)]) (N := N__law_walk_right) (sc := (defScope (top 47))) (scope := (⟨.function, [(".0", .local), ("one", .local), ("tuple", .globalImplicit)], false, false, []⟩ : PySem.Scope)) (by decide +kernel)) (fun _ _ _ _ _ => (pg_name (i := 6) nd__law_walk_right rfl (Or.inl rfl))) (fun _ _ _ _ _ => pts_nil) (fun _ _ _ _ _ => (pe_callTy call_tupleN rfl T.z_tuple b_tuple (pa_cons (pv 6) pa_nil)))) (pa_cons (pv 4) pa_nil))))) (pw_or1 (pt_not (pt_val (pe_callB call_isi rfl T.z_isinstance b_isi (pa_cons (pv 5) (pa_cons (pe_bltn rfl T.z_list b_list rfl) pa_nil)))))))) (pss_cons (ps_ret pe_bl) pss_nil) pss_nil) (pss_cons (ps_if (PW.pt (pw_or (pt_cmpR (op_cmp .ne (hu_room hr)) (PE.or (pe_ix ix_seq (pv 5) pe_int (fun _ _ => rfl)) (pe_dget (hu_one hr) (pv 5) pe_int (fun _ _ => rfl))) (pv 2) (by first | exact nomark _ | rfl)) (pw_or1 (pt_cmpR (op_cmp .isn (hu_room hr)) (g_call C.c_is_settled hr (by omega) rfl (pa_cons (pv 3) (pa_cons (PE.or (pe_ix ix_seq (pv 5) (pe_un un_neg pe_int) (fun _ _ => rfl)) (pe_dget (hu_one hr) (pv 5) (pe_un un_neg pe_int) (fun _ _ => rfl))) pa_nil))) pe_bl (by first | exact nomark _ | rfl))))) (pss_cons (ps_ret pe_bl) pss_nil) pss_nil) (pss_cons (ps_for PassesOwn.never rfl (Zg.pi_zipG rfl T.z_zip (pa_cons (pv 5) (pa_cons (pe_slice sl_any (pv 5) (po_some pe_int) po_none) pa_nil))) (pg_tup rfl (pgs_cons (pg_name (i := 6) nd__law_walk_right rfl (Or.inr rfl)) (pgs_cons (pg_name (i := 7) nd__law_walk_right rfl (Or.inr rfl)) pgs_nil))) (pss_cons (ps_set (i := 8) nd__law_walk_right rfl (Or.inl rfl) (PE.or (pe_ix ix_seq (pe_lc (own := [("at", 10)]) rfl nd__law_walk_right (pi_range1 rfl T.z_range (pa_cons (pe_callB cr_lenA rfl T.z_len b_len (pa_cons (pv 6) pa_nil)) pa_nil)) (blkOk_by (own := [("at", 10)]) (N := N__law_walk_right) (sc := (defScope (top 47))) (scope := (⟨.function, [(".0", .local), ("at", .local), ("one", .free), ("other", .free)], false, false, []⟩ : PySem.Scope)) (by decide +kernel)) (fun _ _ _ _ _ => (pg_name (i := 10) nd__law_walk_right rfl (Or.inl rfl))) (fun _ _ _ _ _ => (pts_one (pt_cmpR (op_cmp .ne (hu_room hr)) (PE.or (pe_ix ix_seq (pv 6) (pv 10) (fun _ _ => rfl)) (pe_dget (hu_one hr) (pv 6) (pv 10) (fun _ _ => rfl))) (PE.or (pe_ix ix_seq (pv 7) (pv 10) (fun _ _ => rfl)) (pe_dget (hu_one hr) (pv 7) (pv 10) (fun _ _ => rfl))) (by first | exact nomark _ | rfl)))) (fun _ _ _ _ _ => (pv 10))) pe_int (fun _ _ => rfl)) (pe_dget (hu_one hr) (pe_lc (own := [("at", 10)]) rfl nd__law_walk_right (pi_range1 rfl T.z_range (pa_cons (pe_callB cr_lenA rfl T.z_len b_len (pa_cons (pv 6) pa_nil)) pa_nil)) (blkOk_by (own := [("at", 10)]) (N := N__law_walk_right) (sc := (defScope (top 47))) (scope := (⟨.function, [(".0", .local), ("at", .local), ("one", .free), ("other", .free)], false, false, []⟩ : PySem.Scope)) (by decide +kernel)) (fun _ _ _ _ _ => (pg_name (i := 10) nd__law_walk_right rfl (Or.inl rfl))) (fun _ _ _ _ _ => (pts_one (pt_cmpR (op_cmp .ne (hu_room hr)) (PE.or (pe_ix ix_seq (pv 6) (pv 10) (fun _ _ => rfl)) (pe_dget (hu_one hr) (pv 6) (pv 10) (fun _ _ => rfl))) (PE.or (pe_ix ix_seq (pv 7) (pv 10) (fun _ _ => rfl)) (pe_dget (hu_one hr) (pv 7) (pv 10) (fun _ _ => rfl))) (by first | exact nomark _ | rfl)))) (fun _ _ _ _ _ => (pv 10))) pe_int (fun _ _ => rfl)))) (pss_cons (ps_set (i := 9) nd__law_walk_right rfl (Or.inl rfl) (pe_op (op_bin .sub) (PE.or (pe_ix ix_seq (g_call C.c_costs_of hr (by omega) rfl (pa_cons (pv 3) (pa_cons (pv 6) pa_nil))) (pv 8) (fun _ _ => rfl)) (pe_dget (hu_one hr) (g_call C.c_costs_of hr (by omega) rfl (pa_cons (pv 3) (pa_cons (pv 6) pa_nil))) (pv 8) (fun _ _ => rfl))) (PE.or (pe_ix ix_seq (g_call C.c_costs_of hr (by omega) rfl (pa_cons (pv 3) (pa_cons (pv 7) pa_nil))) (pv 8) (fun _ _ => rfl)) (pe_dget (hu_one hr) (g_call C.c_costs_of hr (by omega) rfl (pa_cons (pv 3) (pa_cons (pv 7) pa_nil))) (pv 8) (fun _ _ => rfl))))) (pss_cons (ps_if (PW.pt (pw_or (pt_cmpR (op_cmp .lt (hu_room hr)) (pv 9) pe_int (by first | exact nomark _ | rfl)) (pw_or1 (pt_cmpR (op_cmp .ne (hu_room hr)) (pe_op (op_bin .sub) (g_call C.c_height_of hr (by omega) rfl (pa_cons (pv 3) (pa_cons (pv 6) pa_nil))) (g_call C.c_height_of hr (by omega) rfl (pa_cons (pv 3) (pa_cons (pv 7) pa_nil)))) (pv 9) (by first | exact nomark _ | rfl))))) (pss_cons (ps_ret pe_bl) pss_nil) pss_nil) pss_nil)))) (pss_cons (ps_ret (pe_cmpR (op_cmp .eq (hu_room hr)) (pe_callB cr_lenA rfl T.z_len b_len (pa_cons (g_call C.c_walk_down hr (by omega) rfl (pa_cons (pv 3) (pa_cons (PE.or (pe_ix ix_seq (pv 5) (pe_un un_neg pe_int) (fun _ _ => rfl)) (pe_dget (hu_one hr) (pv 5) (pe_un un_neg pe_int) (fun _ _ => rfl))) pa_nil))) pa_nil)) pe_int (by first | exact nomark _ | rfl))) pss_nil))))))
theorem b_all_tuples {n : Nat} (T : Txt P mg) (C : All P prog w mg base n) {f : Addr} {cdv : Value} {A : Around} {outer : List PySem.Env} {s : Shared} {H : Hp} {E : XK} (hr : Rm (2 * n + 1) (A.deeper (envOfC "all_tuples" (defScope s_all_tuples) s.heap.objs.size f cdv))) :
    PSs (cxOf CX0 prog w P.K mg base N_all_tuples "all_tuples" (defScope s_all_tuples) f cdv A outer s H E).nox (defBody s_all_tuples) (tSs P (spec P (phi Gm tab n)) F_all_tuples.body) :=
  (pss_cons (ps_set (i := 1) nd_all_tuples rfl (Or.inl rfl) (pe_lst (pa_cons (pe_tupN pa_nil) pa_nil))) (pss_cons (ps_for PassesOwn.never rfl (pi_any (pv 0)) (pg_name (i := 2) nd_all_tuples rfl (Or.inr rfl)) (pss_cons (ps_setLc2 (i := 1) (own := [("row", 3), ("one", 4)]) (vs1 := [4]) rfl nd_all_tuples rfl rfl (sw_true rfl rfl rfl (by decide +kernel)) (pi_any (pv 1)) (blkOk_by (own := [("row", 3), ("one", 4)]) (N := N_all_tuples) (sc := (defScope (top 7))) (scope := (⟨.function, [(".0", .local), ("row", .local), ("one", .local), ("range", .globalImplicit), ("size", .free)], false, false, []⟩ : PySem.Scope)) (by decide +kernel)) (by decide) (fun _ _ _ _ _ => (pg_name (i := 3) nd_all_tuples rfl (Or.inl rfl))) (fun _ _ _ _ _ => pts_nil) (fun _ _ _ _ _ => (pi_range1 rfl T.z_range (pa_cons (pv 2) pa_nil))) (fun _ _ _ _ _ => (pg_name (i := 4) nd_all_tuples rfl (Or.inl rfl))) (fun _ _ _ _ _ => pts_nil) (fun _ _ _ _ _ => (pe_op (op_bin .add) (pv 3) (pe_tupN (pa_cons (pv 4) pa_nil))))) pss_nil)) (pss_cons (ps_ret (pv 1)) pss_nil)))
theorem b_all_choices {n : Nat} (T : Txt P mg) (C : All P prog w mg base n) {f : Addr} {cdv : Value} {A : Around} {outer : List PySem.Env} {s : Shared} {H : Hp} {E : XK} (hr : Rm (2 * n + 1) (A.deeper (envOfC "all_choices" (defScope s_all_choices) s.heap.objs.size f cdv))) :
    PSs (cxOf CX0 prog w P.K mg base N_all_choices "all_choices" (defScope s_all_choices) f cdv A outer s H E).nox (defBody s_all_choices) (tSs P (spec P (phi Gm tab n)) F_all_choices.body) :=
  (pss_cons (ps_ret (g_call C.c_all_tuples hr (by omega) rfl (pa_cons (pe_lc (own := [("row", 1)]) rfl nd_all_choices (pi_any (pe_fld (pv 0) rfl)) (blkOk_by (own := [("row", 1)]) (N := N_all_choices) (sc := (defScope (top 28))) (scope := (⟨.function, [(".0", .local), ("row", .local), ("len", .globalImplicit)], false, false, []⟩ : PySem.Scope)) (by decide +kernel)) (fun _ _ _ _ _ => (pg_name (i := 1) nd_all_choices rfl (Or.inl rfl))) (fun _ _ _ _ _ => pts_nil) (fun _ _ _ _ _ => (pe_callB cr_lenA rfl T.z_len b_len (pa_cons (pv 1) pa_nil)))) pa_nil))) pss_nil)
theorem b_all_settled {n : Nat} (T : Txt P mg) (C : All P prog w mg base n) {f : Addr} {cdv : Value} {A : Around} {outer : List PySem.Env} {s : Shared} {H : Hp} {E : XK} (hr : Rm (2 * n + 1) (A.deeper (envOfC "all_settled" (defScope s_all_settled) s.heap.objs.size f cdv))) :
    PSs (cxOf CX0 prog w P.K mg base N_all_settled "all_settled" (defScope s_all_settled) f cdv A outer s H E).nox (defBody s_all_settled) (tSs P (spec P (phi Gm tab n)) F_all_settled.body) :=
  (pss_cons (ps_ret (pe_lc (own := [("choices", 1)]) rfl nd_all_settled (pi_any (g_call C.c_all_choices hr (by omega) rfl (pa_cons (pv 0) pa_nil))) (blkOk_by (own := [("choices", 1)]) (N := N_all_settled) (sc := (defScope (top 29))) (scope := (⟨.function, [(".0", .local), ("choices", .local), ("is_settled", .globalImplicit), ("streets", .free)], false, false, []⟩ : PySem.Scope)) (by decide +kernel)) (fun _ _ _ _ _ => (pg_name (i := 1) nd_all_settled rfl (Or.inl rfl))) (fun _ _ _ _ _ => (pts_one (pt_val (g_call C.c_is_settled hr (by omega) rfl (pa_cons (pv 0) (pa_cons (pv 1) pa_nil)))))) (fun _ _ _ _ _ => (pv 1)))) pss_nil)
theorem b_divisor_of {n : Nat} (T : Txt P mg) (C : All P prog w mg base n) {f : Addr} {cdv : Value} {A : Around} {outer : List PySem.Env} {s : Shared} {H : Hp} {E : XK} (hr : Rm (2 * n + 1) (A.deeper (envOfC "divisor_of" (defScope s_divisor_of) s.heap.objs.size f cdv))) :
    PSs (cxOf CX0 prog w P.K mg base N_divisor_of "divisor_of" (defScope s_divisor_of) f cdv A outer s H E).nox (defBody s_divisor_of) (tSs P (spec P (phi Gm tab n)) F_divisor_of.body) :=
  (pss_cons (ps_while PassesOwn.never (pt_cmpR (op_cmp .gt (hu_room hr)) (pv 1) pe_int (by first | exact nomark _ | rfl)) (pss_cons (g_par (P := P) (o1 := false) (o2 := false) (i := 0) (j := 1) rfl nd_divisor_of rfl rfl (by decide) rfl rfl (pa_cons (pv 1) (pa_cons (pe_op (op_bin .mod) (pv 0) (pv 1)) pa_nil)) (by first | rfl | exact (by with_unfolding_all rfl))) pss_nil)) (pss_cons (ps_ret (pv 0)) pss_nil))
theorem b_lowest {n : Nat} (T : Txt P mg) (C : All P prog w mg base n) {f : Addr} {cdv : Value} {A : Around} {outer : List PySem.Env} {s : Shared} {H : Hp} {E : XK} (hr : Rm (2 * n + 1) (A.deeper (envOfC "lowest" (defScope s_lowest) s.heap.objs.size f cdv))) :
    PSs (cxOf CX0 prog w P.K mg base N_lowest "lowest" (defScope s_lowest) f cdv A outer s H E).nox (defBody s_lowest) (tSs P (spec P (phi Gm tab n)) F_lowest.body) :=
  (pss_cons (ps_if (pt_cmpR (op_cmp .lt (hu_room hr)) (pv 1) pe_int (by first | exact nomark _ | rfl)) (pss_cons (g_par (P := P) (o1 := false) (o2 := false) (i := 0) (j := 1) rfl nd_lowest rfl rfl (by decide) rfl rfl (pa_cons (pe_un un_neg (pv 0)) (pa_cons (pe_un un_neg (pv 1)) pa_nil)) (by first | rfl | exact (by with_unfolding_all rfl))) pss_nil) pss_nil) (pss_cons (ps_set (i := 2) nd_lowest rfl (Or.inl rfl) (g_call C.c_divisor_of hr (by omega) rfl (pa_cons (pe_callB call_abs rfl T.z_abs b_abs (pa_cons (pv 0) pa_nil)) (pa_cons (pv 1) pa_nil)))) (pss_cons (ps_ret (pe_tupN (pa_cons (pe_op (op_bin .fdiv) (pv 0) (pv 2)) (pa_cons (pe_op (op_bin .fdiv) (pv 1) (pv 2)) pa_nil)))) pss_nil)))
theorem b_worst_by {n : Nat} (T : Txt P mg) (C : All P prog w mg base n) {f : Addr} {cdv : Value} {A : Around} {outer : List PySem.Env} {s : Shared} {H : Hp} {E : XK} (hr : Rm (2 * n + 1) (A.deeper (envOfC "worst_by" (defScope s_worst_by) s.heap.objs.size f cdv))) :
    PSs (cxOf CX0 prog w P.K mg base N_worst_by "worst_by" (defScope s_worst_by) f cdv A outer s H E).nox (defBody s_worst_by) (tSs P (spec P (phi Gm tab n)) F_worst_by.body) :=
  (pss_cons (ps_set (i := 1) nd_worst_by rfl (Or.inl rfl) (pe_callB (cr_max2 rfl (hu_room hr)) rfl T.z_max b_max (pa_cons (pe_lc (own := [("choices", 3)]) rfl nd_worst_by (pi_any (g_call C.c_all_settled hr (by omega) rfl (pa_cons (pv 0) pa_nil))) (blkOk_by (own := [("choices", 3)]) (N := N_worst_by) (sc := (defScope (top 32))) (scope := (⟨.function, [(".0", .local), ("choices", .local), ("sum", .globalImplicit), ("raw_costs", .globalImplicit), ("streets", .free)], false, false, []⟩ : PySem.Scope)) (by decide +kernel)) (fun _ _ _ _ _ => (pg_name (i := 3) nd_worst_by rfl (Or.inl rfl))) (fun _ _ _ _ _ => pts_nil) (fun _ _ _ _ _ => (pe_callB (cr_sumA rfl) rfl T.z_sum b_sum (pa_cons (g_call C.c_raw_costs hr (by omega) rfl (pa_cons (pv 0) (pa_cons (pv 3) pa_nil))) pa_nil)))) pa_nil))) (pss_cons (ps_set (i := 2) nd_worst_by rfl (Or.inl rfl) (pe_callB (cr_min2 rfl (hu_room hr)) rfl T.z_min b_min (pa_cons (pe_lc (own := [("choices", 3)]) rfl nd_worst_by (pi_any (g_call C.c_all_choices hr (by omega) rfl (pa_cons (pv 0) pa_nil))) (blkOk_by (own := [("choices", 3)]) (N := N_worst_by) (sc := (defScope (top 32))) (scope := (⟨.function, [(".0", .local), ("choices", .local), ("sum", .globalImplicit), ("raw_costs", .globalImplicit), ("streets", .free)], false, false, []⟩ : PySem.Scope)) (by decide +kernel)) (fun _ _ _ _ _ => (pg_name (i := 3) nd_worst_by rfl (Or.inl rfl))) (fun _ _ _ _ _ => pts_nil) (fun _ _ _ _ _ => (pe_callB (cr_sumA rfl) rfl T.z_sum b_sum (pa_cons (g_call C.c_raw_costs hr (by omega) rfl (pa_cons (pv 0) (pa_cons (pv 3) pa_nil))) pa_nil)))) pa_nil))) (pss_cons (ps_ret (pe_ifExp (pt_cmpR (op_cmp .eq (hu_room hr)) (pv 2) pe_int (by first | exact nomark _ | rfl)) pe_non (g_call C.c_lowest hr (by omega) rfl (pa_cons (pv 1) (pa_cons (pv 2) pa_nil))))) pss_nil)))
theorem b__law_products {n : Nat} (T : Txt P mg) (C : All P prog w mg base n) {f : Addr} {cdv : Value} {A : Around} {outer : List PySem.Env} {s : Shared} {H : Hp} {E : XK} (hr : Rm (2 * n + 1) (A.deeper (envOfC "_law_products" (defScope s__law_products) s.heap.objs.size f cdv))) :
    PSs (cxOf CX0 prog w P.K mg base N__law_products "_law_products" (defScope s__law_products) f cdv A outer s H E).nox (defBody s__law_products) (tSs P (spec P (phi Gm tab n)) F__law_products.body) :=
  (pss_cons (ps_set (i := 1) nd__law_products rfl (Or.inl rfl) (pe_lst (pa_cons (pe_tupN pa_nil) pa_nil))) (pss_cons (ps_for PassesOwn.never rfl (pi_any (pv 0)) (pg_name (i := 2) nd__law_products rfl (Or.inl rfl)) (pss_cons (ps_set (i := 3) nd__law_products rfl (Or.inl rfl) (pe_lst pa_nil)) (pss_cons (ps_for PassesOwn.never rfl (pi_any (pv 1)) (pg_name (i := 4) nd__law_products rfl (Or.inr rfl)) (pss_cons (ps_expr (pe_bm PySem.F.plainAttrs_list PySem.F.slot_list_extend PySem.F.type_list_extend mt_extend (pv 3) (pa_cons (pe_lc (own := [("number", 5)]) rfl nd__law_products (pi_range1 rfl T.z_range (pa_cons (pv 2) pa_nil)) (blkOk_by (own := [("number", 5)]) (N := N__law_products) (sc := (defScope (top 40))) (scope := (⟨.function, [(".0", .local), ("number", .local), ("row", .free)], false, false, []⟩ : PySem.Scope)) (by decide +kernel)) (fun _ _ _ _ _ => (pg_name (i := 5) nd__law_products rfl (Or.inl rfl))) (fun _ _ _ _ _ => pts_nil) (fun _ _ _ _ _ => (pe_op (op_bin .add) (pv 4) (pe_tupN (pa_cons (pv 5) pa_nil))))) pa_nil))) pss_nil)) (pss_cons (ps_set (i := 1) nd__law_products rfl (Or.inl rfl) (pv 3)) pss_nil)))) (pss_cons (ps_ret (pv 1)) pss_nil)))
theorem b__law_gcd {n : Nat} (T : Txt P mg) (C : All P prog w mg base n) {f : Addr} {cdv : Value} {A : Around} {outer : List PySem.Env} {s : Shared} {H : Hp} {E : XK} (hr : Rm (2 * n + 1) (A.deeper (envOfC "_law_gcd" (defScope s__law_gcd) s.heap.objs.size f cdv))) :
    PSs (cxOf CX0 prog w P.K mg base N__law_gcd "_law_gcd" (defScope s__law_gcd) f cdv A outer s H E).nox (defBody s__law_gcd) (tSs P (spec P (phi Gm tab n)) F__law_gcd.body) :=
  (pss_cons (ps_while PassesOwn.never (pt_cmpR (op_cmp .ne (hu_room hr)) (pv 1) pe_int (by first | exact nomark _ | rfl)) (pss_cons (g_par (P := P) (o1 := false) (o2 := false) (i := 0) (j := 1) rfl nd__law_gcd rfl rfl (by decide) rfl rfl (pa_cons (pv 1) (pa_cons (pe_op (op_bin .mod) (pe_callTy call_int1 rfl T.z_int b_int (pa_cons (pv 0) pa_nil)) (pv 1)) pa_nil)) (by first | rfl | exact (by with_unfolding_all rfl))) pss_nil)) (pss_cons (ps_ret (pe_callB call_abs rfl T.z_abs b_abs (pa_cons (pv 0) pa_nil))) pss_nil))
theorem b__law_share {n : Nat} (T : Txt P mg) (C : All P prog w mg base n) {f : Addr} {cdv : Value} {A : Around} {outer : List PySem.Env} {s : Shared} {H : Hp} {E : XK} (hr : Rm (2 * n + 1) (A.deeper (envOfC "_law_share" (defScope s__law_share) s.heap.objs.size f cdv))) :
    PSs (cxOf CX0 prog w P.K mg base N__law_share "_law_share" (defScope s__law_share) f cdv A outer s H E).nox (defBody s__law_share) (tSs P (spec P (phi Gm tab n)) F__law_share.body) :=
  (pss_cons (ps_set (i := 2) nd__law_share rfl (Or.inl rfl) (g_call C.c__law_gcd hr (by omega) rfl (pa_cons (pv 0) (pa_cons (pv 1) pa_nil)))) (pss_cons (ps_ret (pe_tupN (pa_cons (pe_op (op_bin .fdiv) (pv 0) (pv 2)) (pa_cons (pe_op (op_bin .fdiv) (pv 1) (pv 2)) pa_nil)))) pss_nil))
theorem b__law_worst {n : Nat} (T : Txt P mg) (C : All P prog w mg base n) {f : Addr} {cdv : Value} {A : Around} {outer : List PySem.Env} {s : Shared} {H : Hp} {E : XK} (hr : Rm (2 * n + 1) (A.deeper (envOfC "_law_worst" (defScope s__law_worst) s.heap.objs.size f cdv))) :
    PSs (cxOf CX0 prog w P.K mg base N__law_worst "_law_worst" (defScope s__law_worst) f cdv A outer s H E).nox (defBody s__law_worst) (tSs P (spec P (phi Gm tab n)) F__law_worst.body) :=
  (pss_cons (ps_set (i := 2) nd__law_worst rfl (Or.inl rfl) (g_call C.c__law_products hr (by omega) rfl (pa_cons (pe_lc (own := [("some", 8)]) rfl nd__law_worst (pi_any (pv 1)) (blkOk_by (own := [("some", 8)]) (N := N__law_worst) (sc := (defScope (top 46))) (scope := (⟨.function, [(".0", .local), ("some", .local), ("len", .globalImplicit)], false, false, []⟩ : PySem.Scope)) (by decide +kernel)) (fun _ _ _ _ _ => (pg_name (i := 8) nd__law_worst rfl (Or.inl rfl))) (fun _ _ _ _ _ => pts_nil) (fun _ _ _ _ _ => (pe_callB cr_lenA rfl T.z_len b_len (pa_cons (pv 8) pa_nil)))) pa_nil))) (pss_cons (ps_setLc (i := 4) (own := [("choices", 3)]) rfl nd__law_worst rfl rfl (sw_true rfl rfl rfl (by decide +kernel)) (pi_any (pv 2)) (blkOk_by (own := [("choices", 3)]) (N := N__law_worst) (sc := (defScope (top 46))) (scope := (⟨.function, [(".0", .local), ("choices", .local), ("sum", .globalImplicit), ("_law_paid", .globalImplicit), ("costs", .free), ("ways", .free)], false, false, []⟩ : PySem.Scope)) (by decide +kernel)) (fun _ _ _ _ _ => (pg_name (i := 3) nd__law_worst rfl (Or.inl rfl))) (fun _ _ _ _ _ => pts_nil) (fun _ _ _ _ _ => (pe_callB (cr_sumA rfl) rfl T.z_sum b_sum (pa_cons (g_call C.c__law_paid hr (by omega) rfl (pa_cons (pv 0) (pa_cons (pv 1) (pa_cons (pv 3) pa_nil)))) pa_nil)))) (pss_cons (ps_set (i := 5) nd__law_worst rfl (Or.inl rfl) (pe_lst pa_nil)) (pss_cons (ps_for PassesOwn.never rfl (Zg.pi_zipG rfl T.z_zip (pa_cons (pv 2) (pa_cons (pv 4) pa_nil))) (pg_tup rfl (pgs_cons (pg_name (i := 3) nd__law_worst rfl (Or.inr rfl)) (pgs_cons (pg_name (i := 6) nd__law_worst rfl (Or.inl rfl)) pgs_nil))) (pss_cons (ps_setLc (i := 7) (own := [("walker", 9)]) rfl nd__law_worst rfl rfl (sw_true rfl rfl rfl (by decide +kernel)) (pi_range1 rfl T.z_range (pa_cons (pe_callB cr_lenA rfl T.z_len b_len (pa_cons (pv 1) pa_nil)) pa_nil)) (blkOk_by (own := [("walker", 9)]) (N := N__law_worst) (sc := (defScope (top 46))) (scope := (⟨.function, [(".0", .local), ("walker", .local), ("_law_next", .globalImplicit), ("choices", .free), ("costs", .free), ("ways", .free)], false, false, []⟩ : PySem.Scope)) (by decide +kernel)) (fun _ _ _ _ _ => (pg_name (i := 9) nd__law_worst rfl (Or.inl rfl))) (fun _ _ _ _ _ => pts_nil) (fun _ _ _ _ _ => (g_call C.c__law_next hr (by omega) rfl (pa_cons (pv 0) (pa_cons (pv 1) (pa_cons (pv 3) (pa_cons (pv 9) pa_nil))))))) (pss_cons (ps_expr (pe_bm PySem.F.plainAttrs_list PySem.F.slot_list_extend PySem.F.type_list_extend mt_extend (pv 5) (pa_cons (pe_ifExp (pt_val (pe_callB (cr_all rfl) rfl T.z_all b_all (pa_cons (pe_lc (own := [("later", 10)]) rfl nd__law_worst (pi_any (pv 7)) (blkOk_by (own := [("later", 10)]) (N := N__law_worst) (sc := (defScope (top 46))) (scope := (⟨.function, [(".0", .local), ("later", .local)], false, false, []⟩ : PySem.Scope)) (by decide +kernel)) (fun _ _ _ _ _ => (pg_name (i := 10) nd__law_worst rfl (Or.inl rfl))) (fun _ _ _ _ _ => pts_nil) (fun _ _ _ _ _ => (pe_cmpR (op_cmp .iss (hu_room hr)) (pv 10) pe_non (by first | exact nomark _ | rfl)))) pa_nil))) (pe_lst (pa_cons (pv 6) pa_nil)) (pe_lst pa_nil)) pa_nil))) pss_nil))) (pss_cons (ps_ret (pe_ifExp (pt_cmpR (op_cmp .eq (hu_room hr)) (pe_callB (cr_min2 rfl (hu_room hr)) rfl T.z_min b_min (pa_cons (pv 4) pa_nil)) pe_int (by first | exact nomark _ | rfl)) pe_non (g_call C.c__law_share hr (by omega) rfl (pa_cons (pe_callB (cr_max2 rfl (hu_room hr)) rfl T.z_max b_max (pa_cons (pv 5) pa_nil)) (pa_cons (pe_callB (cr_min2 rfl (hu_room hr)) rfl T.z_min b_min (pa_cons (pv 4) pa_nil)) pa_nil))))) pss_nil)))))
theorem b_law {n : Nat} (T : Txt P mg) (C : All P prog w mg base n) {f : Addr} {cdv : Value} {A : Around} {outer : List PySem.Env} {s : Shared} {H : Hp} {E : XK} (hr : Rm (2 * n + 1) (A.deeper (envOfC "law" (defScope s_law) s.heap.objs.size f cdv))) :
    PSs (cxOf CX0 prog w P.K mg base N_law "law" (defScope s_law) f cdv A outer s H E).nox (defBody s_law) (tSs P (spec P (phi Gm tab n)) F_law.body) :=
  (pss_cons (ps_set (i := 1) nd_law rfl (Or.inr rfl) (g_call C.c__law_hand hr (by omega) rfl (pa_cons (pv 0) pa_nil))) (pss_cons (ps_for PassesOwn.never rfl (pi_range1 rfl T.z_range (pa_cons pe_int pa_nil)) (pg_name (i := 2) nd_law rfl (Or.inl rfl)) (pss_cons (ps_asg (g_call C.c__law_streets hr (by omega) rfl (pa_cons (pv 1) pa_nil)) (pg_tup rfl (pgs_cons (pg_name (i := 3) nd_law rfl (Or.inl rfl)) (pgs_cons (pg_name (i := 4) nd_law rfl (Or.inl rfl)) pgs_nil)))) (pss_cons (ps_set (i := 5) nd_law rfl (Or.inr rfl) (g_make C.c_Streets hr (by omega) rfl (pa_cons (pv 3) (pa_cons (pv 4) pa_nil)))) (pss_cons (ps_for PassesOwn.never rfl (pi_range1 rfl T.z_range (pa_cons pe_int pa_nil)) (pg_name (i := 6) nd_law rfl (Or.inl rfl)) (pss_cons (ps_if (pt_not (pt_val (g_call C.c__law_walk_right hr (by omega) rfl (pa_cons (pv 3) (pa_cons (pv 4) (pa_cons (pe_callTy call_tupleN rfl T.z_tuple b_tuple (pa_cons (pe_lc (own := [("some", 8)]) rfl nd_law (pi_any (pv 4)) (blkOk_by (own := [("some", 8)]) (N := N_law) (sc := (defScope (top 48))) (scope := (⟨.function, [(".0", .local), ("some", .local), ("_law_draw", .globalImplicit), ("len", .globalImplicit), ("hand", .free)], false, false, []⟩ : PySem.Scope)) (by decide +kernel)) (fun _ _ _ _ _ => (pg_name (i := 8) nd_law rfl (Or.inl rfl))) (fun _ _ _ _ _ => pts_nil) (fun _ _ _ _ _ => (g_call C.c__law_draw hr (by omega) rfl (pa_cons (pv 1) (pa_cons (pe_callB cr_lenA rfl T.z_len b_len (pa_cons (pv 8) pa_nil)) pa_nil))))) pa_nil)) pa_nil)))))) (pss_cons (ps_ret pe_bl) pss_nil) pss_nil) pss_nil)) (pss_cons (ps_if (pt_not (pt_val (g_call C.c__law_is hr (by omega) rfl (pa_cons (g_call C.c_worst_by hr (by omega) rfl (pa_cons (pv 5) pa_nil)) (pa_cons (g_call C.c__law_worst hr (by omega) rfl (pa_cons (pv 3) (pa_cons (pv 4) pa_nil))) pa_nil))))) (pss_cons (ps_ret pe_bl) pss_nil) pss_nil) (pss_cons (ps_if (pt_not (pt_val (pe_callB (cr_all rfl) rfl T.z_all b_all (pa_cons (pe_lc (own := [("choices", 9)]) rfl nd_law (pi_any (pe_slice sl_any (g_call C.c_all_settled hr (by omega) rfl (pa_cons (pv 5) pa_nil)) po_none (po_some pe_int))) (blkOk_by (own := [("choices", 9)]) (N := N_law) (sc := (defScope (top 48))) (scope := (⟨.function, [(".0", .local), ("choices", .local), ("len", .globalImplicit), ("walk_down", .globalImplicit), ("tuple", .globalImplicit), ("streets", .free)], false, false, []⟩ : PySem.Scope)) (by decide +kernel)) (fun _ _ _ _ _ => (pg_name (i := 9) nd_law rfl (Or.inl rfl))) (fun _ _ _ _ _ => pts_nil) (fun _ _ _ _ _ => (pe_cmpR (op_cmp .eq (hu_room hr)) (pe_callB cr_lenA rfl T.z_len b_len (pa_cons (g_call C.c_walk_down hr (by omega) rfl (pa_cons (pv 5) (pa_cons (pe_callTy call_tupleN rfl T.z_tuple b_tuple (pa_cons (pv 9) pa_nil)) pa_nil))) pa_nil)) pe_int (by first | exact nomark _ | rfl)))) pa_nil)))) (pss_cons (ps_ret pe_bl) pss_nil) pss_nil) pss_nil)))))) (pss_cons (ps_set (i := 5) nd_law rfl (Or.inr rfl) (g_make C.c_Streets hr (by omega) rfl (pa_cons (pe_tupN (pa_cons (pe_tupN (pa_cons pe_int (pa_cons pe_int pa_nil))) (pa_cons (pe_tupN (pa_cons pe_int (pa_cons pe_int pa_nil))) pa_nil))) (pa_cons (pe_op (op_bin .mul) (pe_tupN (pa_cons (pe_tupN (pa_cons (pe_tupN (pa_cons pe_int pa_nil)) (pa_cons (pe_tupN (pa_cons pe_int pa_nil)) pa_nil))) pa_nil)) pe_int) pa_nil)))) (pss_cons (ps_set (i := 7) nd_law rfl (Or.inl rfl) (pe_lst (pa_cons (pe_lc (own := [("one", 10)]) rfl nd_law (pi_any (g_call C.c_walk_down hr (by omega) rfl (pa_cons (pv 5) (pa_cons (pe_tupN (pa_cons pe_int (pa_cons pe_int pa_nil))) pa_nil)))) (blkOk_by (own := [("one", 10)]) (N := N_law) (sc := (defScope (top 48))) (scope := (⟨.function, [(".0", .local), ("one", .local), ("tuple", .globalImplicit)], false, false, []⟩ : PySem.Scope)) (by decide +kernel)) (fun _ _ _ _ _ => (pg_name (i := 10) nd_law rfl (Or.inl rfl))) (fun _ _ _ _ _ => pts_nil) (fun _ _ _ _ _ => (pe_callTy call_tupleN rfl T.z_tuple b_tuple (pa_cons (pv 10) pa_nil)))) (pa_cons (g_call C.c_worst_by hr (by omega) rfl (pa_cons (pv 5) pa_nil)) pa_nil)))) (pss_cons (ps_expr (pe_bm PySem.F.plainAttrs_list PySem.F.slot_list_append PySem.F.type_list_append mt_append (pv 7) (pa_cons (g_call C.c_worst_by hr (by omega) rfl (pa_cons (g_make C.c_Streets hr (by omega) rfl (pa_cons (pe_tupN (pa_cons (pe_tupN (pa_cons pe_int pa_nil)) pa_nil)) (pa_cons (pe_tupN (pa_cons (pe_tupN (pa_cons (pe_tupN (pa_cons pe_int pa_nil)) pa_nil)) pa_nil)) pa_nil))) pa_nil)) pa_nil))) (pss_cons (ps_ret (g_call C.c__law_is hr (by omega) rfl (pa_cons (pv 7) (pa_cons (pe_lst (pa_cons (pe_lst (pa_cons (pe_tupN (pa_cons pe_int (pa_cons pe_int pa_nil))) (pa_cons (pe_tupN (pa_cons pe_int (pa_cons pe_int pa_nil))) (pa_cons (pe_tupN (pa_cons pe_int (pa_cons pe_int pa_nil))) pa_nil)))) (pa_cons (pe_tupN (pa_cons pe_int (pa_cons pe_int pa_nil))) (pa_cons pe_non pa_nil)))) pa_nil)))) pss_nil))))))
theorem all (T : Txt P mg) : ∀ n, All P prog w mg base n
  | 0 => { c__law_hand := cal0 T.d__law_hand, c__law_draw := cal0 T.d__law_draw, c__law_mixed := cal0 T.d__law_mixed, c__law_streets := cal0 T.d__law_streets, c_is_sized := cal0 T.d_is_sized, c_is_integer := cal0 T.d_is_integer, c_is_within := cal0 T.d_is_within, c_is_lot := cal0 T.d_is_lot, c_is_tuple := cal0 T.d_is_tuple, c_is_number := cal0 T.d_is_number, c_Streets := mak0 T.d_Streets, c__law_crowds := cal0 T.d__law_crowds, c__law_paid := cal0 T.d__law_paid, c__law_next := cal0 T.d__law_next, c__law_walk := cal0 T.d__law_walk, c_are_choices := cal0 T.d_are_choices, c_check_choices := cal0 T.d_check_choices, c_counts_of := cal0 T.d_counts_of, c_raw_costs := cal0 T.d_raw_costs, c_with_choice := cal0 T.d_with_choice, c_best_way := cal0 T.d_best_way, c_is_settled := cal0 T.d_is_settled, c_walk_down := cal0 T.d_walk_down, c__law_is := cal0 T.d__law_is, c_costs_of := cal0 T.d_costs_of, c_height_of := cal0 T.d_height_of, c__law_walk_right := cal0 T.d__law_walk_right, c_all_tuples := cal0 T.d_all_tuples, c_all_choices := cal0 T.d_all_choices, c_all_settled := cal0 T.d_all_settled, c_divisor_of := cal0 T.d_divisor_of, c_lowest := cal0 T.d_lowest, c_worst_by := cal0 T.d_worst_by, c__law_products := cal0 T.d__law_products, c__law_gcd := cal0 T.d__law_gcd, c__law_share := cal0 T.d__law_share, c__law_worst := cal0 T.d__law_worst, c_law := cal0 T.d_law }
  | n + 1 => { c__law_hand := cal_step (ok T) lo rfl sc__law_hand rfl rfl rfl T.d__law_hand fun _ _ _ _ _ _ _ hr => b__law_hand T (all T n) hr, c__law_draw := cal_step (ok T) lo rfl sc__law_draw rfl rfl rfl T.d__law_draw fun _ _ _ _ _ _ _ hr => b__law_draw T (all T n) hr, c__law_mixed := cal_step (ok T) lo rfl sc__law_mixed rfl rfl rfl T.d__law_mixed fun _ _ _ _ _ _ _ hr => b__law_mixed T (all T n) hr, c__law_streets := cal_step (ok T) lo rfl sc__law_streets rfl rfl rfl T.d__law_streets fun _ _ _ _ _ _ _ hr => b__law_streets T (all T n) hr, c_is_sized := cal_step (ok T) lo rfl sc_is_sized rfl rfl rfl T.d_is_sized fun _ _ _ _ _ _ _ hr => b_is_sized T (all T n) hr, c_is_integer := cal_step (ok T) lo rfl sc_is_integer rfl rfl rfl T.d_is_integer fun _ _ _ _ _ _ _ hr => b_is_integer T (all T n) hr, c_is_within := cal_step (ok T) lo rfl sc_is_within rfl rfl rfl T.d_is_within fun _ _ _ _ _ _ _ hr => b_is_within T (all T n) hr, c_is_lot := cal_step (ok T) lo rfl sc_is_lot rfl rfl rfl T.d_is_lot fun _ _ _ _ _ _ _ hr => b_is_lot T (all T n) hr, c_is_tuple := cal_step (ok T) lo rfl sc_is_tuple rfl rfl rfl T.d_is_tuple fun _ _ _ _ _ _ _ hr => b_is_tuple T (all T n) hr, c_is_number := cal_step (ok T) lo rfl sc_is_number rfl rfl rfl T.d_is_number fun _ _ _ _ _ _ _ hr => b_is_number T (all T n) hr, c_Streets := mak_step (ok T) lo rfl sc_Streets rfl rfl rfl T.d_Streets fun _ _ _ _ _ _ _ hr => b_Streets T (all T n) hr, c__law_crowds := cal_step (ok T) lo rfl sc__law_crowds rfl rfl rfl T.d__law_crowds fun _ _ _ _ _ _ _ hr => b__law_crowds T (all T n) hr, c__law_paid := cal_step (ok T) lo rfl sc__law_paid rfl rfl rfl T.d__law_paid fun _ _ _ _ _ _ _ hr => b__law_paid T (all T n) hr, c__law_next := cal_step (ok T) lo rfl sc__law_next rfl rfl rfl T.d__law_next fun _ _ _ _ _ _ _ hr => b__law_next T (all T n) hr, c__law_walk := cal_step (ok T) lo rfl sc__law_walk rfl rfl rfl T.d__law_walk fun _ _ _ _ _ _ _ hr => b__law_walk T (all T n) hr, c_are_choices := cal_step (ok T) lo rfl sc_are_choices rfl rfl rfl T.d_are_choices fun _ _ _ _ _ _ _ hr => b_are_choices T (all T n) hr, c_check_choices := cal_step (ok T) lo rfl sc_check_choices rfl rfl rfl T.d_check_choices fun _ _ _ _ _ _ _ hr => b_check_choices T (all T n) hr, c_counts_of := cal_step (ok T) lo rfl sc_counts_of rfl rfl rfl T.d_counts_of fun _ _ _ _ _ _ _ hr => b_counts_of T (all T n) hr, c_raw_costs := cal_step (ok T) lo rfl sc_raw_costs rfl rfl rfl T.d_raw_costs fun _ _ _ _ _ _ _ hr => b_raw_costs T (all T n) hr, c_with_choice := cal_step (ok T) lo rfl sc_with_choice rfl rfl rfl T.d_with_choice fun _ _ _ _ _ _ _ hr => b_with_choice T (all T n) hr, c_best_way := cal_step (ok T) lo rfl sc_best_way rfl rfl rfl T.d_best_way fun _ _ _ _ _ _ _ hr => b_best_way T (all T n) hr, c_is_settled := cal_step (ok T) lo rfl sc_is_settled rfl rfl rfl T.d_is_settled fun _ _ _ _ _ _ _ hr => b_is_settled T (all T n) hr, c_walk_down := cal_step (ok T) lo rfl sc_walk_down rfl rfl rfl T.d_walk_down fun _ _ _ _ _ _ _ hr => b_walk_down T (all T n) hr, c__law_is := cal_step (ok T) lo rfl sc__law_is rfl rfl rfl T.d__law_is fun _ _ _ _ _ _ _ hr => b__law_is T (all T n) hr, c_costs_of := cal_step (ok T) lo rfl sc_costs_of rfl rfl rfl T.d_costs_of fun _ _ _ _ _ _ _ hr => b_costs_of T (all T n) hr, c_height_of := cal_step (ok T) lo rfl sc_height_of rfl rfl rfl T.d_height_of fun _ _ _ _ _ _ _ hr => b_height_of T (all T n) hr, c__law_walk_right := cal_step (ok T) lo rfl sc__law_walk_right rfl rfl rfl T.d__law_walk_right fun _ _ _ _ _ _ _ hr => b__law_walk_right T (all T n) hr, c_all_tuples := cal_step (ok T) lo rfl sc_all_tuples rfl rfl rfl T.d_all_tuples fun _ _ _ _ _ _ _ hr => b_all_tuples T (all T n) hr, c_all_choices := cal_step (ok T) lo rfl sc_all_choices rfl rfl rfl T.d_all_choices fun _ _ _ _ _ _ _ hr => b_all_choices T (all T n) hr, c_all_settled := cal_step (ok T) lo rfl sc_all_settled rfl rfl rfl T.d_all_settled fun _ _ _ _ _ _ _ hr => b_all_settled T (all T n) hr, c_divisor_of := cal_step (ok T) lo rfl sc_divisor_of rfl rfl rfl T.d_divisor_of fun _ _ _ _ _ _ _ hr => b_divisor_of T (all T n) hr, c_lowest := cal_step (ok T) lo rfl sc_lowest rfl rfl rfl T.d_lowest fun _ _ _ _ _ _ _ hr => b_lowest T (all T n) hr, c_worst_by := cal_step (ok T) lo rfl sc_worst_by rfl rfl rfl T.d_worst_by fun _ _ _ _ _ _ _ hr => b_worst_by T (all T n) hr, c__law_products := cal_step (ok T) lo rfl sc__law_products rfl rfl rfl T.d__law_products fun _ _ _ _ _ _ _ hr => b__law_products T (all T n) hr, c__law_gcd := cal_step (ok T) lo rfl sc__law_gcd rfl rfl rfl T.d__law_gcd fun _ _ _ _ _ _ _ hr => b__law_gcd T (all T n) hr, c__law_share := cal_step (ok T) lo rfl sc__law_share rfl rfl rfl T.d__law_share fun _ _ _ _ _ _ _ hr => b__law_share T (all T n) hr, c__law_worst := cal_step (ok T) lo rfl sc__law_worst rfl rfl rfl T.d__law_worst fun _ _ _ _ _ _ _ hr => b__law_worst T (all T n) hr, c_law := cal_step (ok T) lo rfl sc_law rfl rfl rfl T.d_law fun _ _ _ _ _ _ _ hr => b_law T (all T n) hr }
end
end K83

/-! K83b -/
set_option Elab.async false
set_option linter.all false
set_option maxRecDepth 100000
set_option maxHeartbeats 4000000
namespace K83
open PySem Mi
theorem q0 : Bal.Has Gm tab 0 F__law_hand := ⟨rfl, rfl⟩
theorem q1 : Bal.Has Gm tab 1 F__law_draw := ⟨rfl, rfl⟩
theorem q2 : Bal.Has Gm tab 2 F__law_mixed := ⟨rfl, rfl⟩
def Hand (d : D) : Prop := ∃ (cs : List Int) (i : Nat) (v h c : Int), d = .lst [.lst (cs.map .int), .int i, .int v, .int h, .int c] ∧ i ≤ cs.length ∧ 0 ≤ v ∧ ∀ x ∈ cs, 0 ≤ x
/-- the part behind the taking of a cell -/
theorem draw_tail (n : Nat) {cs : List Int} {i : Nat} {v h c L : Int} {x3 : Option (Bool × D)} (h0 : 0 < L) (h1 : L < 1000) (hi : i ≤ cs.length) (hv : 0 ≤ v) (hcs : ∀ x ∈ cs, 0 ≤ x) :
    wB Gm (phi Gm tab n) [0] (match F__law_draw.body with | .cons _ r => r | b => b) [some (true, .lst [.lst (cs.map .int), .int i, .int v, .int h, .int c]), some (false, .int L), x3, none, none]
      (Fin [true, false] fun r o => ∃ d hd', r = .v (.int d) ∧ o = [hd'] ∧ 0 ≤ d ∧ d < L ∧ Hand hd') := by
  array_get_dec
  refine ⟨fun hc => ?_, fun hc => ?_⟩
  · array_get_dec
    refine ⟨_, _, _, rfl, rfl, b_mod h0, ?_⟩
    array_get_dec
    refine ⟨_, _, _, rfl, rfl, b_fdiv h0 (by omega), ?_⟩
    array_get_dec
    exact ⟨Int.emod_nonneg _ (by omega), Int.emod_lt_of_pos _ h0, cs, i, v / L, h, c, rfl, hi, Int.ediv_nonneg hv (by omega), hcs⟩
  · array_get_dec
    refine ⟨_, _, _, rfl, rfl, b_mulB (i := ((h + 7919 * (c + 1)) * 40692) % 2147483647) ⟨by omega, by omega⟩, ?_⟩
    array_get_dec
    refine ⟨_, _, _, rfl, rfl, b_mulB (i := (((h + 7919 * (c + 1)) * 40692) % 2147483647) * ((((h + 7919 * (c + 1)) * 40692) % 2147483647) / 1009 + 69621) % 2147483647) ⟨by omega, by omega⟩, ?_⟩
    array_get_dec
    refine ⟨_, _, _, rfl, rfl, b_mod h0, ?_⟩
    array_get_dec
    exact ⟨Int.emod_nonneg _ (by omega), Int.emod_lt_of_pos _ h0, cs, i, v, h, c + 1, rfl, hi, hv, hcs⟩
theorem draw_ok (n : Nat) {hd : D} (hh : Hand hd) {L : Int} (h0 : 0 < L) (h1 : L < 1000) : ∃ r o, phi Gm tab (n + 1) 1 [(true, hd), (false, .int L)] = some (r, o) ∧ ∃ d hd', r = .v (.int d) ∧ o = [hd'] ∧ 0 ≤ d ∧ d < L ∧ Hand hd' := by
  obtain ⟨cs, i, v, h, c, rfl, hi, hv, hcs⟩ := hh
  refine phi_ex q1.1 rfl ?_
  show wB Gm (phi Gm tab n) [0] F__law_draw.body [some (true, .lst [.lst (cs.map .int), .int i, .int v, .int h, .int c]), some (false, .int L), none, none, none] _
  refine w_cut ?_
  array_get_dec
  refine ⟨fun hv0 => ?_, fun hc => ?_⟩
  · array_get_dec
    refine ⟨fun hc => ?_, fun hc => ?_⟩
    · have hlt : i < cs.length := by
        have : (i : Int) < ((cs.map D.int).length : Nat) := of_decide_eq_true hc
        rw [List.length_map] at this
        omega
      array_get_dec
      refine ⟨_, _, _, rfl, rfl, idx_l (d := .int cs[i]) (by rw [List.getElem?_map, List.getElem?_eq_getElem hlt]; rfl), ?_⟩
      array_get_dec
      have hcell : 0 ≤ cs[i] := hcs _ (List.getElem_mem hlt)
      refine ⟨fun hc => ?_, fun hc => ?_⟩
      · array_get_dec
        exact ⟨draw_tail n h0 h1 hlt hcell hcs⟩
      · array_get_dec
        exact ⟨draw_tail n h0 h1 hlt hv hcs⟩
    · array_get_dec
      exact ⟨draw_tail n h0 h1 hi hv hcs⟩
  · array_get_dec
    exact ⟨draw_tail n h0 h1 hi hv hcs⟩
theorem mixed_ok (n : Nat) {α : Type} (f : α → D) {hd : D} (hh : Hand hd) {xs : List α} (hx : xs.length < 1000) : ∃ r o, phi Gm tab (n + 2) 2 [(true, hd), (false, .lst (xs.map f))] = some (r, o) ∧ ∃ (ys : List α) (hd' : D), r = .o (.lst (ys.map f)) ∧ o = [hd'] ∧ ys.Perm xs ∧ Hand hd' := by
  refine phi_ex q2.1 rfl ?_
  show wB Gm (phi Gm tab (n + 1)) [0] F__law_mixed.body [some (true, hd), some (false, .lst (xs.map f)), none, none] _
  array_get_dec
  refine w_whil rfl (fun m ρ => ∃ (hd : D) (rem fnd : List α), ρ = [some (true, hd), some (false, .lst (xs.map f)), some (true, .lst (rem.map f)), some (true, .lst (fnd.map f))] ∧ Hand hd ∧ m = rem.length ∧ (fnd ++ rem).Perm xs) xs.length ⟨hd, xs, [], rfl, hh, rfl, .refl _⟩ ?_
  rintro m _ ⟨hd, rem, fnd, rfl, hh, rfl, hp⟩
  have hl : fnd.length + rem.length = xs.length := by rw [← List.length_append]; exact hp.length_eq
  array_get_dec
  refine ⟨fun hc => ?_, fun hc => ?_⟩
  · have hr : rem = [] := by
      have : ¬ (0 : Int) < ((rem.map f).length : Nat) := of_decide_eq_false hc
      rw [List.length_map] at this
      exact List.length_eq_zero_iff.mp (by omega)
    subst hr
    array_get_dec
    exact ⟨by simpa using hp, hh⟩
  · have hr : (0 : Int) < ((rem.map f).length : Nat) := of_decide_eq_true hc
    have hrl : (rem.map f).length = rem.length := List.length_map _
    array_get_dec
    obtain ⟨r, o, e, d, hd', rfl, rfl, d0, d1, hh'⟩ := draw_ok n hh hr (by omega)
    obtain ⟨j, rfl⟩ := Int.eq_ofNat_of_zero_le d0
    have hj : j < rem.length := by omega
    have hj' : j < (rem.map f).length := by omega
    refine call_by q1.2 rfl rfl e rfl ?_
    array_get_dec
    refine ⟨_, _, _, _, rfl, rfl, m_pop (List.getElem?_eq_getElem hj'), ?_⟩
    array_get_dec
    refine ⟨_, _, _, _, rfl, rfl, m_app (Nat.lt_of_lt_of_le (by rw [List.length_map]; omega : (fnd.map f).length < 1000) (by decide)), ?_⟩
    array_get_dec
    refine ⟨_, ?_, hd', rem.eraseIdx j, fnd ++ [rem[j]], ?_, hh', rfl, ?_⟩
    · rw [List.length_eraseIdx_of_lt hj]; omega
    · show [some (true, hd'), some (false, D.lst (xs.map f)), some (true, .lst ((rem.map f).eraseIdx j)), some (true, .lst (fnd.map f ++ [(rem.map f)[j]]))] = _
      rw [eraseIdx_map', List.map_append, List.getElem_map]
      rfl
    · rw [List.append_assoc]
      exact .trans (List.Perm.append_left _ (perm_erase hj)) hp
theorem hand_ok (n : Nat) (ns : List Int) : ∃ r o, phi Gm tab (n + 1) 0 [(false, .scr ns)] = some (r, o) ∧ ∃ hd, r = .o hd ∧ o = [] ∧ Hand hd := by
  refine phi_ex q0.1 rfl ?_
  show wB Gm (phi Gm tab n) [] F__law_hand.body [some (false, .scr ns), none, none] _
  array_get_dec
  refine w_compP rfl ?_
  array_get_dec
  refine ⟨fun it => match it with | .one (.int i) => some (.int (if i < 0 then -i else i)) | _ => none, fun it hit => ?_, ?_⟩
  · obtain ⟨d, hd, rfl⟩ := List.mem_map.mp hit
    obtain ⟨i, hi, rfl⟩ := List.mem_map.mp hd
    refine ⟨_, rfl, ?_⟩
    array_get_dec
    rfl
  · have e : ((cutI ns none (some 63)).map D.int |>.map Itm.one).filterMap (fun it => match it with | .one (.int i) => some (.int (if i < 0 then -i else i)) | _ => none) = ((cutI ns none (some 63)).map fun i => if i < 0 then -i else i).map D.int := by
      rw [List.map_map, List.map_map]
      exact fm_all fun x _ => rfl
    rw [e]
    have hcs : ∀ x ∈ (cutI ns none (some 63)).map (fun i => if i < 0 then -i else i), 0 ≤ x := fun x hx => by
      obtain ⟨i, _, rfl⟩ := List.mem_map.mp hx
      split <;> omega
    generalize (cutI ns none (some 63)).map (fun i => if i < 0 then -i else i) = cs at hcs ⊢
    repeat (first | with_reducible apply w_bcons | with_reducible apply sq_nx | with_reducible apply sq_rt | with_reducible apply w_bnil | with_reducible apply w_acons | with_reducible apply w_anil | ((with_reducible apply w_fro); rfl) | ((with_reducible apply w_own); rfl) | with_reducible apply w_cint | with_reducible apply w_cbl | with_reducible apply w_cnon | with_reducible apply w_cstr | with_reducible apply w_cty | with_reducible apply w_tup | with_reducible apply w_lst | with_reducible apply w_bin | with_reducible apply w_cmp | with_reducible apply w_idx | with_reducible apply w_neg | with_reducible apply w_rev | with_reducible apply w_attr | with_reducible apply w_notv | with_reducible apply w_andv | with_reducible apply w_orv | with_reducible apply w_chain | with_reducible apply w_ite | with_reducible apply w_sl | with_reducible apply w_callb | with_reducible apply w_call | with_reducible apply w_make | with_reducible apply w_meth | with_reducible apply w_dic0 | with_reducible apply w_dic1 | with_reducible apply w_yes | with_reducible apply w_val | with_reducible apply w_and | with_reducible apply w_or | with_reducible apply w_not | with_reducible apply w_onone | with_reducible apply w_osome | with_reducible apply w_lrange1 | with_reducible apply w_lrange2 | with_reducible apply w_seq | with_reducible apply w_range1 | with_reducible apply w_range2 | with_reducible apply w_zip | with_reducible apply w_enum | with_reducible apply w_par | with_reducible apply w_setat | with_reducible apply w_expr | with_reducible apply w_ret | with_reducible apply w_retn | with_reducible apply w_pass | with_reducible apply w_brk | with_reducible apply w_cnt | with_reducible apply w_site | ((with_reducible refine isRt ?_); first | refine rt_v ?_ | refine rt_o ?_ | refine rt_b rfl rfl ?_) | with_reducible apply fin_v | with_reducible apply fin_o | with_reducible apply fin_n | ((with_reducible apply w_glob); rfl) | ((with_reducible apply w_mut); rfl) | ((with_reducible apply w_asg); rfl) | ((with_reducible apply w_sown'); rfl) | ((with_reducible apply w_setix); rfl) | ((with_reducible apply w_setixD); rfl) | ((with_reducible apply w_augixA); rfl) | ((with_reducible apply w_augixS); rfl))
    refine ⟨_, _, _, rfl, rfl, ?_⟩
    repeat (first | with_reducible apply w_bcons | with_reducible apply sq_nx | with_reducible apply sq_rt | with_reducible apply w_bnil | with_reducible apply w_acons | with_reducible apply w_anil | ((with_reducible apply w_fro); rfl) | ((with_reducible apply w_own); rfl) | with_reducible apply w_cint | with_reducible apply w_cbl | with_reducible apply w_cnon | with_reducible apply w_cstr | with_reducible apply w_cty | with_reducible apply w_tup | with_reducible apply w_lst | with_reducible apply w_bin | with_reducible apply w_cmp | with_reducible apply w_idx | with_reducible apply w_neg | with_reducible apply w_rev | with_reducible apply w_attr | with_reducible apply w_notv | with_reducible apply w_andv | with_reducible apply w_orv | with_reducible apply w_chain | with_reducible apply w_ite | with_reducible apply w_sl | with_reducible apply w_callb | with_reducible apply w_call | with_reducible apply w_make | with_reducible apply w_meth | with_reducible apply w_dic0 | with_reducible apply w_dic1 | with_reducible apply w_yes | with_reducible apply w_val | with_reducible apply w_and | with_reducible apply w_or | with_reducible apply w_not | with_reducible apply w_onone | with_reducible apply w_osome | with_reducible apply w_lrange1 | with_reducible apply w_lrange2 | with_reducible apply w_seq | with_reducible apply w_range1 | with_reducible apply w_range2 | with_reducible apply w_zip | with_reducible apply w_enum | with_reducible apply w_par | with_reducible apply w_setat | with_reducible apply w_expr | with_reducible apply w_ret | with_reducible apply w_retn | with_reducible apply w_pass | with_reducible apply w_brk | with_reducible apply w_cnt | with_reducible apply w_site | ((with_reducible refine isRt ?_); first | refine rt_v ?_ | refine rt_o ?_ | refine rt_b rfl rfl ?_) | with_reducible apply fin_v | with_reducible apply fin_o | with_reducible apply fin_n | ((with_reducible apply w_glob); rfl) | ((with_reducible apply w_mut); rfl) | ((with_reducible apply w_asg); rfl) | ((with_reducible apply w_sown'); rfl) | ((with_reducible apply w_setix); rfl) | ((with_reducible apply w_setixD); rfl) | ((with_reducible apply w_augixA); rfl) | ((with_reducible apply w_augixS); rfl))
    refine ⟨_, _, rfl, rfl, ?_⟩
    refine ⟨_, _, _, rfl, rfl, b_mulL (i := 31) rfl, ?_⟩
    array_get_dec
    exact ⟨rfl, cs, 0, 0, _, 0, rfl, Nat.zero_le _, Int.le_refl _, hcs⟩
end K83

/-! K83c -/
set_option Elab.async false
set_option linter.all false
set_option maxRecDepth 100000
set_option maxHeartbeats 4000000
namespace K83
open PySem Mi
open Bal (nD oD toN toN_nD getD_nD of_ex enum_get get_nD)
theorem q11 : Bal.Has Gm tab 11 F__law_crowds := ⟨rfl, rfl⟩
theorem q17 : Bal.Has Gm tab 17 F_counts_of := ⟨rfl, rfl⟩
def rowI (r : List Int) : D := .tup (r.map .int)
def costsD (cs : List (List Int)) : D := .tup (cs.map rowI)
def wayRow (r : List (List Nat)) : D := .tup (r.map oD)
def waysD (ws : List (List (List Nat))) : D := .tup (ws.map wayRow)
def strD (cs : List (List Int)) (ws : List (List (List Nat))) : D := .ins 10 ["costs", "ways"] [costsD cs, waysD ws]
/-- one more on each street of a way -/
def bump (l : List Nat) (way : List Nat) : List Nat := way.foldl (fun l s => l.set s (l.getD s 0 + 1)) l
def crowds (k : Nat) (ws : List (List (List Nat))) (ch : List Nat) : List Nat := (ws.zip ch).foldl (fun l p => bump l (p.1.getD p.2 [])) (List.replicate k 0)
theorem bump_len (way : List Nat) : ∀ l : List Nat, (bump l way).length = l.length := by
  unfold bump
  induction way with
  | nil => exact fun l => rfl
  | cons s r ih => exact fun l => by rw [List.foldl_cons, ih, List.length_set]
theorem bump_take {way : List Nat} {i s : Nat} (h : way[i]? = some s) (l : List Nat) : bump l (way.take (i + 1)) = (bump l (way.take i)).set s ((bump l (way.take i)).getD s 0 + 1) := by
  unfold bump
  rw [List.take_add_one, h, List.foldl_append]
  rfl
theorem zip_take {α β : Type} : ∀ (n : Nat) (a : List α) (b : List β), (a.take n).zip (b.take n) = (a.zip b).take n
  | 0, a, b => by simp
  | n + 1, [], b => by simp
  | n + 1, x :: r, [] => by simp
  | n + 1, x :: r, y :: t => by
    rw [List.take_succ_cons, List.take_succ_cons, List.zip_cons_cons, List.zip_cons_cons, List.take_succ_cons, zip_take n r t]
theorem zip_get {α β : Type} : ∀ (a : List α) (b : List β) (i : Nat) {x : α} {y : β}, a[i]? = some x → b[i]? = some y → (a.zip b)[i]? = some (x, y)
  | [], b, i, x, y, h, _ => by simp at h
  | z :: r, [], i, x, y, _, h => by simp at h
  | z :: r, u :: t, 0, x, y, h1, h2 => by
    cases h1; cases h2; rfl
  | z :: r, u :: t, i + 1, x, y, h1, h2 => by
    rw [List.zip_cons_cons, List.getElem?_cons_succ]
    exact zip_get r t i (by simpa using h1) (by simpa using h2)
theorem crowds_take {ws : List (List (List Nat))} {ch : List Nat} {i c : Nat} {row : List (List Nat)} (h1 : ws[i]? = some row) (h2 : ch[i]? = some c) (k : Nat) : crowds k (ws.take (i + 1)) (ch.take (i + 1)) = bump (crowds k (ws.take i) (ch.take i)) (row.getD c []) := by
  unfold crowds
  have hz : ∀ (n : Nat), (ws.take n).zip (ch.take n) = (ws.zip ch).take n := fun n => zip_take n ws ch
  have hi : (ws.zip ch)[i]? = some (row, c) := zip_get ws ch i h1 h2
  rw [hz, hz, List.take_add_one, hi, List.foldl_append]
  rfl
/-- a state's parts fit -/
structure Ok (cs : List (List Int)) (ws : List (List (List Nat))) : Prop where
  c1 : 1 ≤ cs.length
  c5 : cs.length ≤ 5
  w1 : 1 ≤ ws.length
  w4 : ws.length ≤ 4
  row : ∀ r ∈ cs, r.length = ws.length
  pos : ∀ r ∈ cs, ∀ x ∈ r, 0 ≤ x ∧ x ≤ 8
  way1 : ∀ r ∈ ws, 1 ≤ r.length
  way4 : ∀ r ∈ ws, r.length ≤ 4
  asc : ∀ r ∈ ws, ∀ w ∈ r, w ≠ [] ∧ w.Pairwise (· < ·) ∧ ∀ s ∈ w, s < cs.length
structure ChOk (ws : List (List (List Nat))) (ch : List Nat) : Prop where
  len : ch.length = ws.length
  lt : ∀ (i c : Nat) (row : List (List Nat)), ch[i]? = some c → ws[i]? = some row → c < row.length
theorem attr_ways (cs : List (List Int)) (ws : List (List (List Nat))) : attrD Gm.fields "ways" (strD cs ws) = some (waysD ws) := by
  show (if ("ways" : Str) ∈ (["costs", "ways"] : List Str) then getN "ways" ["costs", "ways"] _ else none) = _
  rw [if_pos (List.mem_cons_of_mem _ List.mem_cons_self)]
  unfold getN
  rw [if_neg (by decide +kernel)]
  unfold getN
  rw [if_pos rfl]
theorem attr_costs (cs : List (List Int)) (ws : List (List (List Nat))) : attrD Gm.fields "costs" (strD cs ws) = some (costsD cs) := by
  show (if ("costs" : Str) ∈ (["costs", "ways"] : List Str) then getN "costs" ["costs", "ways"] _ else none) = _
  rw [if_pos List.mem_cons_self]
  unfold getN
  rw [if_pos rfl]
theorem m_rep {x : D} {k : Nat} (h1 : k ≤ 1000) : binD .mul (.lst [x]) (.int (k : Int)) = some (.lst (List.replicate k x)) := by
  have e : ∀ n : Nat, (List.replicate n [x]).flatten = List.replicate n x := fun n => by
    induction n with
    | zero => rfl
    | succ n ih => rw [List.replicate_succ, List.flatten_cons, ih]; rfl
  have hl : Mi.line = 16777216 := rfl
  show (if 0 ≤ (k : Int) ∧ (k : Int) ≤ (Mi.line : Nat) ∧ [x].length * (k : Int).toNat ≤ Mi.line then some (D.lst (List.replicate (k : Int).toNat [x]).flatten) else none) = _
  rw [if_pos ⟨by omega, by omega, by rw [hl]; show 1 * (k : Int).toNat ≤ 16777216; omega⟩, e]
  rfl
theorem counts_ok (n : Nat) {cs : List (List Int)} {ws : List (List (List Nat))} {ch : List Nat} (O : Ok cs ws) (C : ChOk ws ch) : ∃ r o, phi Gm tab (n + 1) 17 [(false, strD cs ws), (false, oD ch)] = some (r, o) ∧ r = .o (.lst ((crowds cs.length ws ch).map nD)) ∧ o = [] := by
  refine phi_ex q17.1 rfl ?_
  show wB Gm (phi Gm tab n) [] F_counts_of.body [some (false, strD cs ws), some (false, oD ch), none, none, none, none] _
  dsimp only [F_counts_of]
  array_get_dec
  refine ⟨_, _, _, rfl, rfl, (by show binD .mul (.lst [.int 0]) (.int ((cs.map rowI).length : Nat)) = _; rw [List.length_map]; exact m_rep (by have := O.c5; omega)), ?_⟩
  refine ⟨_, rfl, Nat.le_of_ble_eq_true rfl, ?_⟩
  array_get_dec
  have c5 := O.c5
  have lc : ∀ i, (crowds cs.length (ws.take i) (ch.take i)).length = cs.length := fun i => by
    unfold crowds
    have : ∀ (l : List (List (List Nat) × Nat)) (z : List Nat), (l.foldl (fun l p => bump l (p.1.getD p.2 [])) z).length = z.length := fun l => by
      induction l with
      | nil => exact fun z => rfl
      | cons p r ih => exact fun z => by rw [List.foldl_cons, ih, bump_len]
    rw [this, List.length_replicate]
  refine w_for rfl ?_
  array_get_dec
  refine ⟨fun i ρ => ∃ x3 x4 x5, ρ = [some (false, strD cs ws), some (false, oD ch), some (true, .lst ((crowds cs.length (ws.take i) (ch.take i)).map nD)), x3, x4, x5], ⟨none, none, none, by
    show [_, _, some (true, D.lst (List.replicate cs.length (.int 0))), none, none, none] = _
    have : (crowds cs.length (ws.take 0) (ch.take 0)).map nD = List.replicate cs.length (.int 0) := by
      show (List.replicate cs.length 0).map nD = _
      rw [List.map_replicate]
      rfl
    rw [this]⟩, ?_, ?_⟩
  · rintro i x _ hx ⟨x3, x4, x5, rfl⟩
    obtain ⟨c, hc, rfl⟩ := enum_get hx
    have hi : i < ws.length := by rw [← C.len]; exact (List.getElem?_eq_some_iff.mp hc).1
    have hrow : ws[i]? = some ws[i] := List.getElem?_eq_getElem hi
    generalize ws[i] = row at hrow
    have hcl := C.lt i c row hc hrow
    have hw : row[c]? = some (row.getD c []) := by rw [List.getD_eq_getElem?_getD, List.getElem?_eq_getElem hcl]; rfl
    have rm := List.mem_of_getElem? hrow
    have ha := O.asc row rm (row.getD c []) (List.mem_of_getElem? hw)
    have et := crowds_take hrow hc cs.length
    have l0 := lc i
    dsimp only
    rw [et]
    generalize crowds cs.length (ws.take i) (ch.take i) = L at l0 ⊢
    generalize row.getD c [] = way at hw ha ⊢
    refine ⟨_, rfl, ?_⟩
    array_get_dec
    refine w_for rfl ?_
    array_get_dec
    refine ⟨_, _, _, rfl, rfl, idx_t (d := wayRow row) (by rw [List.getElem?_map, hrow]; rfl), ?_⟩
    array_get_dec
    refine ⟨_, _, _, rfl, rfl, idx_t (d := oD way) (by rw [List.getElem?_map, hw]; rfl), ?_⟩
    array_get_dec
    refine ⟨fun j ρ => ∃ x5, ρ = [some (false, strD cs ws), some (false, oD ch), some (true, .lst ((bump L (way.take j)).map nD)), some (false, nD i), some (false, nD c), x5], ⟨x5, rfl⟩, ?_, ?_⟩
    · rintro j x _ hx ⟨x5, rfl⟩
      obtain ⟨s, hs, rfl⟩ := get_nD hx
      have sl : s < cs.length := ha.2.2 s (List.mem_of_getElem? hs)
      have bl : (bump L (way.take j)).length = cs.length := by rw [bump_len, l0]
      have et2 := bump_take hs L
      dsimp only
      rw [et2]
      generalize bump L (way.take j) = M at bl ⊢
      have hM : M[s]? = some (M.getD s 0) := by rw [List.getD_eq_getElem?_getD, List.getElem?_eq_getElem (by omega)]; rfl
      refine ⟨_, rfl, ?_⟩
      array_get_dec
      have hix : ixOf ((M.map nD).length) (s : Int) = some s := ixOf_nat (by rw [List.length_map]; omega)
      refine ⟨_, _, s, _, rfl, rfl, hix, getD_nD (by omega), ?_⟩
      array_get_dec
      refine ⟨_, _, s, rfl, rfl, hix, ?_⟩
      array_get_dec
      exact ⟨rfl, _, by rw [List.map_set]; rfl⟩
    · rintro _ ⟨x5, rfl⟩
      rw [List.length_map, List.length_map, List.take_length]
      array_get_dec
      exact ⟨rfl, _, _, _, rfl⟩
  · rintro _ ⟨x3, x4, x5, rfl⟩
    have e : (enumFrom 0 (ch.map nD)).length = ws.length := by rw [enumFrom_len, List.length_map, C.len]
    rw [e, List.take_of_length_le (Nat.le_refl _), List.take_of_length_le (by rw [C.len]; exact Nat.le_refl _)]
    array_get_dec
    exact ⟨rfl, rfl⟩
end K83

/-! K83d -/
set_option Elab.async false
set_option linter.all false
set_option maxRecDepth 100000
set_option maxHeartbeats 4000000
namespace K83
open PySem Mi
open Bal (nD oD toN toN_nD getD_nD of_ex enum_get get_nD)
theorem zipw_get {ws : List (List (List Nat))} {ch : List Nat} {i : Nat} {x : Itm} (h : (List.zipWith Itm.two (ws.map wayRow) (ch.map nD))[i]? = some x) : ∃ row c, ws[i]? = some row ∧ ch[i]? = some c ∧ x = .two (wayRow row) (nD c) := by
  rw [List.getElem?_zipWith, List.getElem?_map, List.getElem?_map] at h
  cases q : ws[i]? with
  | none => rw [q] at h; simp at h
  | some row =>
    cases q2 : ch[i]? with
    | none => rw [q, q2] at h; simp at h
    | some c => rw [q, q2] at h; exact ⟨row, c, rfl, rfl, (Option.some.inj h).symm⟩
theorem crowds_len (k : Nat) (ws : List (List (List Nat))) (ch : List Nat) : (crowds k ws ch).length = k := by
  unfold crowds
  have : ∀ (l : List (List (List Nat) × Nat)) (z : List Nat), (l.foldl (fun l p => bump l (p.1.getD p.2 [])) z).length = z.length := fun l => by
    induction l with
    | nil => exact fun z => rfl
    | cons p r ih => exact fun z => by rw [List.foldl_cons, ih, bump_len]
  rw [this, List.length_replicate]
theorem lcrowds_ok (n : Nat) {cs : List (List Int)} {ws : List (List (List Nat))} {ch : List Nat} (O : Ok cs ws) (C : ChOk ws ch) : ∃ r o, phi Gm tab (n + 1) 11 [(false, costsD cs), (false, waysD ws), (false, oD ch)] = some (r, o) ∧ r = .o (.lst ((crowds cs.length ws ch).map nD)) ∧ o = [] := by
  refine phi_ex q11.1 rfl ?_
  show wB Gm (phi Gm tab n) [] F__law_crowds.body [some (false, costsD cs), some (false, waysD ws), some (false, oD ch), none, none, none, none] _
  dsimp only [F__law_crowds]
  array_get_dec
  refine ⟨_, _, _, rfl, rfl, (by show binD .mul (.lst [.int 0]) (.int ((cs.map rowI).length : Nat)) = _; rw [List.length_map]; exact m_rep (by have := O.c5; omega)), ?_⟩
  refine ⟨_, rfl, Nat.le_of_ble_eq_true rfl, ?_⟩
  array_get_dec
  have c5 := O.c5
  refine w_for rfl ?_
  array_get_dec
  refine ⟨_, _, _, _, _, rfl, rfl, rfl, ?_⟩
  refine ⟨fun i ρ => ∃ x4 x5 x6, ρ = [some (false, costsD cs), some (false, waysD ws), some (false, oD ch), some (true, .lst ((crowds cs.length (ws.take i) (ch.take i)).map nD)), x4, x5, x6], ⟨none, none, none, by
    show [_, _, _, some (true, D.lst (List.replicate cs.length (.int 0))), none, none, none] = _
    have : (crowds cs.length (ws.take 0) (ch.take 0)).map nD = List.replicate cs.length (.int 0) := by
      show (List.replicate cs.length 0).map nD = _
      rw [List.map_replicate]
      rfl
    rw [this]⟩, ?_, ?_⟩
  · rintro i x _ hx ⟨x4, x5, x6, rfl⟩
    obtain ⟨row, c, hrow, hc, rfl⟩ := zipw_get hx
    have hcl := C.lt i c row hc hrow
    have hw : row[c]? = some (row.getD c []) := by rw [List.getD_eq_getElem?_getD, List.getElem?_eq_getElem hcl]; rfl
    have ha := O.asc row (List.mem_of_getElem? hrow) (row.getD c []) (List.mem_of_getElem? hw)
    have et := crowds_take hrow hc cs.length
    have l0 := crowds_len cs.length (ws.take i) (ch.take i)
    dsimp only
    rw [et]
    generalize crowds cs.length (ws.take i) (ch.take i) = L at l0 ⊢
    generalize row.getD c [] = way at hw ha ⊢
    refine ⟨_, rfl, ?_⟩
    array_get_dec
    refine w_for rfl ?_
    array_get_dec
    refine ⟨_, _, _, rfl, rfl, idx_t (d := oD way) (by rw [List.getElem?_map, hw]; rfl), ?_⟩
    array_get_dec
    refine ⟨fun j ρ => ∃ x6, ρ = [some (false, costsD cs), some (false, waysD ws), some (false, oD ch), some (true, .lst ((bump L (way.take j)).map nD)), some (false, wayRow row), some (false, nD c), x6], ⟨x6, rfl⟩, ?_, ?_⟩
    · rintro j x _ hx ⟨x6, rfl⟩
      obtain ⟨s, hs, rfl⟩ := get_nD hx
      have sl : s < cs.length := ha.2.2 s (List.mem_of_getElem? hs)
      have bl : (bump L (way.take j)).length = cs.length := by rw [bump_len, l0]
      have et2 := bump_take hs L
      dsimp only
      rw [et2]
      generalize bump L (way.take j) = M at bl ⊢
      have hix : ixOf ((M.map nD).length) (s : Int) = some s := ixOf_nat (by rw [List.length_map]; omega)
      refine ⟨_, rfl, ?_⟩
      array_get_dec
      refine ⟨_, _, _, rfl, rfl, idx_l (j := s) (getD_nD (by omega)), ?_⟩
      array_get_dec
      refine ⟨_, _, _, _, s, rfl, rfl, rfl, hix, ?_⟩
      array_get_dec
      exact ⟨rfl, _, by rw [List.map_set]; rfl⟩
    · rintro _ ⟨x6, rfl⟩
      rw [List.length_map, List.length_map, List.take_length]
      array_get_dec
      exact ⟨rfl, _, _, _, rfl⟩
  · rintro _ ⟨x4, x5, x6, rfl⟩
    have e : (List.zipWith Itm.two (ws.map wayRow) (ch.map nD)).length = ws.length := by rw [List.length_zipWith, List.length_map, List.length_map, C.len, Nat.min_self]
    rw [e, List.take_of_length_le (Nat.le_refl _), List.take_of_length_le (by rw [C.len]; exact Nat.le_refl _)]
    array_get_dec
    exact ⟨rfl, rfl⟩
end K83

/-! K83e -/
set_option Elab.async false
set_option linter.all false
set_option maxRecDepth 100000
set_option maxHeartbeats 4000000
namespace K83
open PySem Mi
open Bal (nD oD toN toN_nD getD_nD of_ex enum_get get_nD sum_ints)
theorem q12 : Bal.Has Gm tab 12 F__law_paid := ⟨rfl, rfl⟩
theorem q18 : Bal.Has Gm tab 18 F_raw_costs := ⟨rfl, rfl⟩
theorem set_getD (l : List Nat) (i v s : Nat) (h : s < l.length) : (l.set i v).getD s 0 = if i = s then v else l.getD s 0 := by
  rw [List.getD_eq_getElem?_getD, List.getD_eq_getElem?_getD, List.getElem?_set]
  by_cases e : i = s
  · subst e; simp [h]
  · simp [e]
theorem bump_get {s : Nat} : ∀ {way : List Nat} {l : List Nat}, way.Nodup → s < l.length → (∀ x ∈ way, x < l.length) → (bump l way).getD s 0 = l.getD s 0 + (if s ∈ way then 1 else 0)
  | [], l, _, _, _ => by simp [bump]
  | x :: r, l, nd, hs, hl => by
    obtain ⟨h1, h2⟩ := List.nodup_cons.mp nd
    have ih := bump_get (way := r) (l := l.set x (l.getD x 0 + 1)) h2 (by rw [List.length_set]; exact hs) fun y hy => by rw [List.length_set]; exact hl y (List.mem_cons_of_mem _ hy)
    show (bump (l.set x (l.getD x 0 + 1)) r).getD s 0 = _
    rw [ih, set_getD _ _ _ _ hs]
    by_cases e : x = s
    · subst e
      rw [if_pos rfl, if_neg h1, if_pos List.mem_cons_self]
    · rw [if_neg e]
      have : (s ∈ x :: r) ↔ s ∈ r := by simp [Ne.symm e]
      simp only [this]
theorem fold_get {s k : Nat} (hs : s < k) : ∀ (ps : List (List (List Nat) × Nat)) (l : List Nat), l.length = k → (∀ p ∈ ps, (p.1.getD p.2 []).Nodup ∧ ∀ x ∈ p.1.getD p.2 [], x < k) → (ps.foldl (fun l p => bump l (p.1.getD p.2 [])) l).getD s 0 = l.getD s 0 + ps.countP fun p => decide (s ∈ p.1.getD p.2 [])
  | [], l, _, _ => by simp
  | p :: r, l, hl, h => by
    obtain ⟨h1, h2⟩ := h p List.mem_cons_self
    rw [List.foldl_cons, fold_get hs r _ (by rw [bump_len, hl]) fun q hq => h q (List.mem_cons_of_mem _ hq), bump_get h1 (by omega) fun x hx => by rw [hl]; exact h2 x hx, List.countP_cons]
    by_cases e : s ∈ p.1.getD p.2 []
    · simp only [e, if_true, decide_true]; omega
    · simp only [e, if_false, decide_false, Bool.false_eq_true]; omega
section
variable {cs : List (List Int)} {ws : List (List (List Nat))} {ch : List Nat} (O : Ok cs ws) (C : ChOk ws ch)
include O C
theorem pair_ok {p : List (List Nat) × Nat} (hp : p ∈ ws.zip ch) : p.1 ∈ ws ∧ p.2 < p.1.length ∧ p.1[p.2]? = some (p.1.getD p.2 []) ∧ (p.1.getD p.2 []).Nodup ∧ ∀ x ∈ p.1.getD p.2 [], x < cs.length := by
  obtain ⟨i, hi, e⟩ := List.getElem_of_mem hp
  rw [List.length_zip] at hi
  have e1 : ws[i]? = some p.1 := by rw [List.getElem?_eq_getElem (by omega), ← e, List.getElem_zip]
  have e2 : ch[i]? = some p.2 := by rw [List.getElem?_eq_getElem (by omega), ← e, List.getElem_zip]
  have hl := C.lt i _ _ e2 e1
  have hw : p.1[p.2]? = some (p.1.getD p.2 []) := by rw [List.getD_eq_getElem?_getD, List.getElem?_eq_getElem hl]; rfl
  have ha := O.asc p.1 (List.mem_of_getElem? e1) _ (List.mem_of_getElem? hw)
  exact ⟨List.mem_of_getElem? e1, hl, hw, ha.2.1.imp (fun h => Nat.ne_of_lt h), ha.2.2⟩
theorem crowds_get {s : Nat} (hs : s < cs.length) : (crowds cs.length ws ch).getD s 0 = (ws.zip ch).countP fun p => decide (s ∈ p.1.getD p.2 []) := by
  unfold crowds
  rw [fold_get hs (ws.zip ch) _ (List.length_replicate) fun p hp => ⟨(pair_ok O C hp).2.2.2.1, (pair_ok O C hp).2.2.2.2⟩]
  have : (List.replicate cs.length 0).getD s 0 = 0 := by
    rw [List.getD_eq_getElem?_getD, List.getElem?_replicate]
    split <;> rfl
  omega
theorem crowds_bd {s : Nat} {p : List (List Nat) × Nat} (hp : p ∈ ws.zip ch) (hs : s ∈ p.1.getD p.2 []) : 1 ≤ (crowds cs.length ws ch).getD s 0 ∧ (crowds cs.length ws ch).getD s 0 ≤ ws.length := by
  have hl := (pair_ok O C hp).2.2.2.2 s hs
  rw [crowds_get O C hl]
  constructor
  · exact List.countP_pos_iff.mpr ⟨p, hp, decide_eq_true hs⟩
  · refine Nat.le_trans List.countP_le_length ?_
    rw [List.length_zip]
    omega
end
/-- what one pays -/
def cost (cs : List (List Int)) (cr : List Nat) (s : Nat) : Int := (cs.getD s []).getD (cr.getD s 0 - 1) 0
def payOf (cs : List (List Int)) (cr : List Nat) (way : List Nat) : Int := (way.map (cost cs cr)).sum
def paid (cs : List (List Int)) (ws : List (List (List Nat))) (ch : List Nat) : List Int := (ws.zip ch).map fun p => payOf cs (crowds cs.length ws ch) (p.1.getD p.2 [])
theorem cost_get {cs : List (List Int)} {ws : List (List (List Nat))} {ch : List Nat} (O : Ok cs ws) (C : ChOk ws ch) {s : Nat} {p : List (List Nat) × Nat} (hp : p ∈ ws.zip ch) (hs : s ∈ p.1.getD p.2 []) : (cs.map rowI)[s]? = some (rowI (cs.getD s [])) ∧ ((cs.getD s []).map D.int)[(crowds cs.length ws ch).getD s 0 - 1]? = some (.int (cost cs (crowds cs.length ws ch) s)) := by
  have hl := (pair_ok O C hp).2.2.2.2 s hs
  obtain ⟨b1, b2⟩ := crowds_bd O C hp hs
  have e1 : cs[s]? = some (cs.getD s []) := by rw [List.getD_eq_getElem?_getD, List.getElem?_eq_getElem hl]; rfl
  have hr := O.row _ (List.mem_of_getElem? e1)
  refine ⟨by rw [List.getElem?_map, e1]; rfl, ?_⟩
  unfold cost
  rw [List.getElem?_map, List.getD_eq_getElem?_getD (l := cs.getD s []), List.getElem?_eq_getElem (by omega)]
  rfl
end K83

/-! K83f -/
set_option Elab.async false
set_option linter.all false
set_option maxRecDepth 100000
set_option maxHeartbeats 4000000
namespace K83
open PySem Mi
open Bal (nD oD toN toN_nD getD_nD of_ex enum_get get_nD sum_ints)
def costG (cs : List (List Int)) (cr : List Nat) : Itm → Option D := fun it => match it with | .one (.int i) => some (.int (cost cs cr i.toNat)) | _ => none
theorem cost_fm (cs : List (List Int)) (cr way : List Nat) : ((way.map nD).map Itm.one).filterMap (costG cs cr) = (way.map (cost cs cr)).map D.int := by
  rw [List.map_map, List.map_map]
  exact fm_all fun i hi => rfl
theorem lpaid_ok (n : Nat) {cs : List (List Int)} {ws : List (List (List Nat))} {ch : List Nat} (O : Ok cs ws) (C : ChOk ws ch) : ∃ r o, phi Gm tab (n + 2) 12 [(false, costsD cs), (false, waysD ws), (false, oD ch)] = some (r, o) ∧ r = .o (.lst ((paid cs ws ch).map .int)) ∧ o = [] := by
  refine phi_ex q12.1 rfl ?_
  show wB Gm (phi Gm tab (n + 1)) [] F__law_paid.body [some (false, costsD cs), some (false, waysD ws), some (false, oD ch), none, none, none, none, none] _
  dsimp only [F__law_paid]
  array_get_dec
  obtain ⟨r, o, e, rfl, rfl⟩ := lcrowds_ok n O C
  refine call_by q11.2 rfl rfl e rfl ?_
  array_get_dec
  refine ⟨Nat.le_of_ble_eq_true rfl, ?_⟩
  array_get_dec
  have c5 := O.c5
  have w4 := O.w4
  have lcr := crowds_len cs.length ws ch
  refine w_for rfl ?_
  array_get_dec
  refine ⟨_, _, _, _, _, rfl, rfl, rfl, ?_⟩
  refine ⟨fun i ρ => ∃ x5 x6, ρ = [some (false, costsD cs), some (false, waysD ws), some (false, oD ch), some (false, .lst ((crowds cs.length ws ch).map nD)), some (true, .lst (((paid cs ws ch).take i).map .int)), x5, x6, none], ⟨none, none, rfl⟩, ?_, ?_⟩
  · rintro i x _ hx ⟨x5, x6, rfl⟩
    obtain ⟨row, c, hrow, hc, rfl⟩ := zipw_get hx
    have hz := zip_get ws ch i hrow hc
    have hp := List.mem_of_getElem? hz
    have hw := (pair_ok O C hp).2.2.1
    have hpi : (paid cs ws ch)[i]? = some (payOf cs (crowds cs.length ws ch) (row.getD c [])) := by unfold paid; rw [List.getElem?_map, hz]; rfl
    have hcost := fun s (hs : s ∈ row.getD c []) => cost_get O C (s := s) hp hs
    have hbd := fun s (hs : s ∈ row.getD c []) => crowds_bd O C (s := s) hp hs
    have hsl := (pair_ok O C hp).2.2.2.2
    have hpl : (paid cs ws ch).length ≤ 4 := by unfold paid; rw [List.length_map, List.length_zip]; omega
    dsimp only at hw hsl hcost hbd ⊢
    rw [List.take_add_one, hpi]
    unfold payOf
    generalize crowds cs.length ws ch = cr at lcr hcost hbd ⊢
    generalize row.getD c [] = way at hw hsl hcost hbd ⊢
    refine ⟨_, rfl, ?_⟩
    array_get_dec
    refine w_compP rfl ?_
    array_get_dec
    refine ⟨_, _, _, rfl, rfl, idx_t (d := oD way) (by rw [List.getElem?_map, hw]; rfl), ?_⟩
    array_get_dec
    refine ⟨costG cs cr, fun x hx => ?_, ?_⟩
    · obtain ⟨d, hd, rfl⟩ := List.mem_map.mp hx
      obtain ⟨s, hs, rfl⟩ := List.mem_map.mp hd
      obtain ⟨g1, g2⟩ := hcost s hs
      obtain ⟨b1, b2⟩ := hbd s hs
      have sl := hsl s hs
      refine ⟨_, rfl, ?_⟩
      array_get_dec
      refine ⟨_, _, _, rfl, rfl, idx_t (j := s) g1, ?_⟩
      array_get_dec
      refine ⟨_, _, _, rfl, rfl, idx_l (j := s) (getD_nD (by omega)), ?_⟩
      array_get_dec
      refine ⟨_, _, _, rfl, rfl, (by rw [show (((cr.getD s 0 : Nat) : Int) - 1) = ((cr.getD s 0 - 1 : Nat) : Int) by omega]; exact idx_t g2), ?_⟩
      array_get_dec
      rfl
    · rw [cost_fm]
      array_get_dec
      refine ⟨_, _, rfl, sum_ints _, ?_⟩
      array_get_dec
      refine ⟨_, _, _, _, rfl, rfl, m_app (Nat.lt_of_le_of_lt (by rw [List.length_map, List.length_take]; omega : _ ≤ 10) (by decide)), ?_⟩
      array_get_dec
      exact ⟨rfl, _, _, by rw [List.map_append]; rfl⟩
  · rintro _ ⟨x5, x6, rfl⟩
    have e : (List.zipWith Itm.two (ws.map wayRow) (ch.map nD)).length = (paid cs ws ch).length := by unfold paid; rw [List.length_zipWith, List.length_map, List.length_map, List.length_map, List.length_zip]
    rw [e, List.take_length]
    array_get_dec
    exact ⟨rfl, rfl⟩
theorem raw_ok (n : Nat) {cs : List (List Int)} {ws : List (List (List Nat))} {ch : List Nat} (O : Ok cs ws) (C : ChOk ws ch) : phi Gm tab (n + 2) 18 [(false, strD cs ws), (false, oD ch)] = some (.v (.tup ((paid cs ws ch).map .int)), []) := of_ex (by
  refine phi_ex q18.1 rfl ?_
  show wB Gm (phi Gm tab (n + 1)) [] F_raw_costs.body [some (false, strD cs ws), some (false, oD ch), none, none, none, none, none] _
  dsimp only [F_raw_costs]
  array_get_dec
  obtain ⟨r, o, e, rfl, rfl⟩ := counts_ok n O C
  refine call_by q17.2 rfl rfl e rfl ?_
  array_get_dec
  have c5 := O.c5
  have w4 := O.w4
  have lcr := crowds_len cs.length ws ch
  refine w_for rfl ?_
  array_get_dec
  refine ⟨fun i ρ => ∃ x4 x5, ρ = [some (false, strD cs ws), some (false, oD ch), some (false, .lst ((crowds cs.length ws ch).map nD)), some (true, .lst (((paid cs ws ch).take i).map .int)), x4, x5, none], ⟨none, none, rfl⟩, ?_, ?_⟩
  · rintro i x _ hx ⟨x4, x5, rfl⟩
    obtain ⟨c, hc, rfl⟩ := enum_get hx
    have hi : i < ws.length := by rw [← C.len]; exact (List.getElem?_eq_some_iff.mp hc).1
    have hrow : ws[i]? = some ws[i] := List.getElem?_eq_getElem hi
    generalize ws[i] = row at hrow
    have hz := zip_get ws ch i hrow hc
    have hp := List.mem_of_getElem? hz
    have hw := (pair_ok O C hp).2.2.1
    have hpi : (paid cs ws ch)[i]? = some (payOf cs (crowds cs.length ws ch) (row.getD c [])) := by unfold paid; rw [List.getElem?_map, hz]; rfl
    have hcost := fun s (hs : s ∈ row.getD c []) => cost_get O C (s := s) hp hs
    have hbd := fun s (hs : s ∈ row.getD c []) => crowds_bd O C (s := s) hp hs
    have hsl := (pair_ok O C hp).2.2.2.2
    have hpl : (paid cs ws ch).length ≤ 4 := by unfold paid; rw [List.length_map, List.length_zip]; omega
    dsimp only at hw hsl hcost hbd ⊢
    rw [List.take_add_one, hpi]
    unfold payOf
    generalize crowds cs.length ws ch = cr at lcr hcost hbd ⊢
    generalize row.getD c [] = way at hw hsl hcost hbd ⊢
    refine ⟨_, rfl, ?_⟩
    array_get_dec
    refine w_compP rfl ?_
    array_get_dec
    refine ⟨_, _, _, rfl, rfl, idx_t (d := wayRow row) (by rw [List.getElem?_map, hrow]; rfl), ?_⟩
    array_get_dec
    refine ⟨_, _, _, rfl, rfl, idx_t (d := oD way) (by rw [List.getElem?_map, hw]; rfl), ?_⟩
    array_get_dec
    refine ⟨costG cs cr, fun x hx => ?_, ?_⟩
    · obtain ⟨d, hd, rfl⟩ := List.mem_map.mp hx
      obtain ⟨s, hs, rfl⟩ := List.mem_map.mp hd
      obtain ⟨g1, g2⟩ := hcost s hs
      obtain ⟨b1, b2⟩ := hbd s hs
      have sl := hsl s hs
      refine ⟨_, rfl, ?_⟩
      array_get_dec
      refine ⟨_, _, _, rfl, rfl, idx_t (j := s) g1, ?_⟩
      array_get_dec
      refine ⟨_, _, _, rfl, rfl, idx_l (j := s) (getD_nD (by omega)), ?_⟩
      array_get_dec
      refine ⟨_, _, _, rfl, rfl, (by rw [show (((cr.getD s 0 : Nat) : Int) - 1) = ((cr.getD s 0 - 1 : Nat) : Int) by omega]; exact idx_t g2), ?_⟩
      array_get_dec
      rfl
    · rw [cost_fm]
      array_get_dec
      refine ⟨_, _, rfl, sum_ints _, ?_⟩
      array_get_dec
      refine ⟨_, _, _, _, rfl, rfl, m_app (Nat.lt_of_le_of_lt (by rw [List.length_map, List.length_take]; omega : _ ≤ 10) (by decide)), ?_⟩
      array_get_dec
      exact ⟨rfl, _, _, by rw [List.map_append]; rfl⟩
  · rintro _ ⟨x4, x5, rfl⟩
    have e : (enumFrom 0 (ch.map nD)).length = (paid cs ws ch).length := by unfold paid; rw [enumFrom_len, List.length_map, List.length_map, List.length_zip, C.len, Nat.min_self]
    rw [e, List.take_length]
    array_get_dec
    exact ⟨rfl, rfl⟩)
end K83

/-! K83g -/
set_option Elab.async false
set_option linter.all false
set_option maxRecDepth 100000
set_option maxHeartbeats 4000000
namespace K83
open PySem Mi
open Bal (nD oD toN toN_nD getD_nD of_ex enum_get get_nD sum_ints least min_int fm_range)
theorem q13 : Bal.Has Gm tab 13 F__law_next := ⟨rfl, rfl⟩
theorem q19 : Bal.Has Gm tab 19 F_with_choice := ⟨rfl, rfl⟩
theorem q20 : Bal.Has Gm tab 20 F_best_way := ⟨rfl, rfl⟩
theorem find_int (k : Int) : ∀ {c : List Int}, k ∈ c → ixFind (fun z => eqF z (.int k)) (c.map .int) = some (c.idxOf k)
  | x :: r, h => by
    rw [List.map_cons]
    unfold ixFind
    by_cases e : x = k
    · subst e
      rw [if_pos (by show (x == x) = true; simp), List.idxOf_cons_self]
    · rw [if_neg (by show ¬ (x == k) = true; simpa using e), find_int k (by simpa [Ne.symm e] using h)]
      rw [List.idxOf_cons, show (x == k) = false by simpa using e]
      rfl
theorem flat_int : ∀ l : List Int, (l.map D.int).all flatD = true
  | [] => rfl
  | x :: r => by rw [List.map_cons, List.all_cons, flat_int r]; rfl
theorem index_int {c : List Int} {k : Int} (h : k ∈ c) : mthD .index (.lst (c.map .int)) (.int k) = some (.int (c.idxOf k : Nat)) := by
  simp only [mthD, itemsD, Option.bind_some]
  rw [flat_int, if_pos (show (flatD (.int k) && true) = true from rfl), find_int k h]
  rfl
theorem with_ok (n : Nat) {ch : List Nat} {w k : Nat} (hw : w < ch.length) (hz : ch.length ≤ 9) : phi Gm tab (n + 1) 19 [(false, oD ch), (false, nD w), (false, nD k)] = some (.v (oD (ch.set w k)), []) := of_ex (by
  refine phi_ex q19.1 rfl ?_
  show wB Gm (phi Gm tab n) [] F_with_choice.body [some (false, oD ch), some (false, nD w), some (false, nD k)] _
  dsimp only [F_with_choice]
  have c1 : cut (ch.map nD) none (some (w : Int)) = (ch.take w).map nD := by rw [List.map_take]; exact cut_to (k := w)
  have c2 : cut (ch.map nD) (some ((w : Int) + 1)) none = (ch.drop (w + 1)).map nD := by rw [List.map_drop]; exact cut_from (k := w + 1)
  array_get_dec
  rw [c1]
  refine ⟨_, _, _, rfl, rfl, b_catT (Nat.le_trans (by rw [List.length_map, List.length_take]; show _ + 1 ≤ 20; omega) (by decide : 20 ≤ Mi.line)), ?_⟩
  array_get_dec
  rw [c2]
  refine ⟨_, _, _, rfl, rfl, b_catT (Nat.le_trans (by rw [List.length_append, List.length_map, List.length_map, List.length_take, List.length_drop]; show _ + 1 + _ ≤ 40; omega) (by decide : 40 ≤ Mi.line)), ?_⟩
  array_get_dec
  refine ⟨?_, rfl⟩
  have : ch.set w k = ch.take w ++ [k] ++ ch.drop (w + 1) := by
    rw [List.set_eq_take_append_cons_drop, if_pos hw, List.append_assoc]
    rfl
  rw [this]
  show R.v (D.tup ((ch.take w).map nD ++ [nD k] ++ (ch.drop (w + 1)).map nD)) = R.v (D.tup ((ch.take w ++ [k] ++ ch.drop (w + 1)).map nD))
  rw [List.map_append, List.map_append]
  rfl)
theorem set_ok {ws : List (List (List Nat))} {ch : List Nat} (C : ChOk ws ch) {w k : Nat} {row : List (List Nat)} (hr : ws[w]? = some row) (hk : k < row.length) : ChOk ws (ch.set w k) := by
  refine ⟨by rw [List.length_set, C.len], fun i c r h1 h2 => ?_⟩
  rw [List.getElem?_set] at h1
  by_cases e : w = i
  · subst e
    rw [if_pos rfl] at h1
    split at h1
    · cases h1
      rw [hr] at h2
      cases h2
      exact hk
    · cases h1
  · rw [if_neg e] at h1
    exact C.lt i c r h1 h2
/-- what each way would cost -/
def rowW (cs : List (List Int)) (ws : List (List (List Nat))) (ch : List Nat) (w : Nat) : List Int := (List.range (ws.getD w []).length).map fun k => (paid cs ws (ch.set w k)).getD w 0
def bestW (cs : List (List Int)) (ws : List (List (List Nat))) (ch : List Nat) (w : Nat) : Nat := if (rowW cs ws ch w).getD (ch.getD w 0) 0 = least (rowW cs ws ch w) then ch.getD w 0 else (rowW cs ws ch w).idxOf (least (rowW cs ws ch w))
theorem paid_len {cs : List (List Int)} {ws : List (List (List Nat))} {ch : List Nat} (C : ChOk ws ch) : (paid cs ws ch).length = ws.length := by
  unfold paid; rw [List.length_map, List.length_zip, C.len, Nat.min_self]
theorem getD_int {l : List Int} {k : Nat} (h : k < l.length) : (l.map D.int)[k]? = some (.int (l.getD k 0)) := by
  rw [List.getElem?_map, List.getD_eq_getElem?_getD, List.getElem?_eq_getElem h]
  rfl
theorem best_ok (n : Nat) {cs : List (List Int)} {ws : List (List (List Nat))} {ch : List Nat} (O : Ok cs ws) (C : ChOk ws ch) {w : Nat} (hw : w < ws.length) : phi Gm tab (n + 3) 20 [(false, strD cs ws), (false, oD ch), (false, nD w)] = some (.v (nD (bestW cs ws ch w)), []) := of_ex (by
  have w4 := O.w4
  have hcl : w < ch.length := by rw [C.len]; exact hw
  have hrow : ws[w]? = some (ws.getD w []) := by rw [List.getD_eq_getElem?_getD, List.getElem?_eq_getElem hw]; rfl
  have rm := List.mem_of_getElem? hrow
  have r1 := O.way1 _ rm
  have r4 := O.way4 _ rm
  have hc : ch[w]? = some (ch.getD w 0) := by rw [List.getD_eq_getElem?_getD, List.getElem?_eq_getElem hcl]; rfl
  have hlt := C.lt w _ _ hc hrow
  have rl : (rowW cs ws ch w).length = (ws.getD w []).length := by unfold rowW; rw [List.length_map, List.length_range]
  have rne : rowW cs ws ch w ≠ [] := fun e => by
    have := congrArg List.length e
    rw [rl] at this
    have : (ws.getD w []).length = 0 := this
    omega
  obtain ⟨m1, m2, m3⟩ := min_int rne
  refine phi_ex q20.1 rfl ?_
  show wB Gm (phi Gm tab (n + 2)) [] F_best_way.body [some (false, strD cs ws), some (false, oD ch), some (false, nD w), none, none] _
  dsimp only [F_best_way]
  array_get_dec
  refine w_compP rfl ?_
  array_get_dec
  refine ⟨_, _, _, rfl, rfl, idx_t (d := wayRow (ws.getD w [])) (by rw [List.getElem?_map, hrow]; rfl), ?_⟩
  array_get_dec
  refine ⟨(ws.getD w []).length, _, by show R.v (D.int (((ws.getD w []).map oD).length : Nat)) = _; rw [List.length_map], range_ok (by omega), ?_⟩
  refine ⟨fun it => match it with | .one (.int i) => some (.int ((paid cs ws (ch.set w i.toNat)).getD w 0)) | _ => none, fun x hx => ?_, ?_⟩
  · obtain ⟨d, hd, rfl⟩ := List.mem_map.mp hx
    obtain ⟨k, hk, rfl⟩ := List.mem_map.mp hd
    have hk := List.mem_range.mp hk
    have C2 := set_ok C hrow hk
    refine ⟨_, rfl, ?_⟩
    array_get_dec
    refine call_by q19.2 rfl rfl (with_ok (n + 1) hcl (by rw [C.len]; omega)) rfl ?_
    array_get_dec
    refine call_by q18.2 rfl rfl (raw_ok n O C2) rfl ?_
    array_get_dec
    refine ⟨_, _, _, rfl, rfl, idx_t (j := w) (getD_int (by rw [paid_len C2]; exact hw)), ?_⟩
    array_get_dec
    rfl
  · rw [fm_range (g := fun k => .int ((paid cs ws (ch.set w k)).getD w 0)) fun k hk => rfl]
    have er : ((List.range (ws.getD w []).length).map fun k => D.int ((paid cs ws (ch.set w k)).getD w 0)) = (rowW cs ws ch w).map D.int := by unfold rowW; rw [List.map_map]; rfl
    rw [er]
    unfold bestW
    generalize rowW cs ws ch w = row at rl rne m1 m2 m3 ⊢
    array_get_dec
    refine ⟨_, _, _, rfl, rfl, idx_t (j := w) (d := nD (ch.getD w 0)) (by rw [List.getElem?_map, hc]; rfl), ?_⟩
    array_get_dec
    refine ⟨_, _, _, rfl, rfl, idx_l (j := ch.getD w 0) (getD_int (by omega)), ?_⟩
    array_get_dec
    refine ⟨_, _, rfl, m1, ?_⟩
    array_get_dec
    refine ⟨fun hcc => ?_, fun hcc => ?_⟩
    · have hcc := of_decide_eq_true hcc
      rw [if_pos hcc]
      array_get_dec
      refine ⟨_, _, _, rfl, rfl, idx_t (j := w) (d := nD (ch.getD w 0)) (by rw [List.getElem?_map, hc]; rfl), ?_⟩
      array_get_dec
      exact ⟨rfl, rfl⟩
    · have hcc := of_decide_eq_false hcc
      rw [if_neg hcc]
      array_get_dec
      refine ⟨_, _, rfl, m1, ?_⟩
      array_get_dec
      refine ⟨_, _, _, _, rfl, rfl, rfl, rfl, index_int m2, ?_⟩
      array_get_dec
      exact ⟨rfl, rfl⟩)
end K83

/-! K83h -/
set_option Elab.async false
set_option linter.all false
set_option maxRecDepth 100000
set_option maxHeartbeats 4000000
namespace K83
open PySem Mi
open Bal (nD oD toN toN_nD getD_nD of_ex enum_get get_nD sum_ints least min_int fm_range)
/-- the next choices, where one pays less another way -/
def nextW (cs : List (List Int)) (ws : List (List (List Nat))) (ch : List Nat) (w : Nat) : Option (List Nat) := if bestW cs ws ch w = ch.getD w 0 then none else some (ch.set w (bestW cs ws ch w))
def nxD : Option (List Nat) → D
  | some l => oD l
  | none => .non
theorem idx_le : ∀ {l : List Int} {k : Nat} {x : Int}, l[k]? = some x → l.idxOf x ≤ k
  | [], k, x, h => by simp at h
  | y :: r, 0, x, h => by
    cases h
    rw [List.idxOf_cons_self]
    exact Nat.le_refl _
  | y :: r, k + 1, x, h => by
    rw [List.idxOf_cons]
    have := idx_le (l := r) (k := k) (x := x) (by simpa using h)
    cases q : (y == x) with
    | true => simp
    | false => simp only [cond_false]; omega
theorem first_idx {row : List Int} {k : Nat} (hk : k < row.length) (h : ∀ j, j < row.length → row.getD k 0 ≤ row.getD j 0 ∧ (j < k → row.getD k 0 < row.getD j 0)) (hm : least row ∈ row) (hle : ∀ y ∈ row, least row ≤ y) : row.getD k 0 = least row ∧ row.idxOf (least row) = k := by
  have g : ∀ i (hi : i < row.length), row.getD i 0 = row[i] := fun i hi => by rw [List.getD_eq_getElem?_getD, List.getElem?_eq_getElem hi]; rfl
  have h1 : row.getD k 0 = least row := by
    obtain ⟨j, hj, e⟩ := List.getElem_of_mem hm
    have a := (h j hj).1
    rw [g j hj, e] at a
    have b := hle _ (List.getElem_mem hk)
    rw [← g k hk] at b
    omega
  refine ⟨h1, ?_⟩
  have hl := List.idxOf_lt_length_of_mem hm
  have e := List.getElem_idxOf hl
  have a := h _ hl
  rw [g _ hl, e] at a
  rcases Nat.lt_trichotomy (row.idxOf (least row)) k with z | z | z
  · have := a.2 z; omega
  · exact z
  · exfalso
    have := idx_le (l := row) (k := k) (x := least row) (by rw [List.getElem?_eq_getElem hk, ← g k hk, h1])
    omega
theorem next_ok (n : Nat) {cs : List (List Int)} {ws : List (List (List Nat))} {ch : List Nat} (O : Ok cs ws) (C : ChOk ws ch) {w : Nat} (hw : w < ws.length) : phi Gm tab (n + 3) 13 [(false, costsD cs), (false, waysD ws), (false, oD ch), (false, nD w)] = some (.v (nxD (nextW cs ws ch w)), []) := of_ex (by
  have w4 := O.w4
  have hcl : w < ch.length := by rw [C.len]; exact hw
  have hrow : ws[w]? = some (ws.getD w []) := by rw [List.getD_eq_getElem?_getD, List.getElem?_eq_getElem hw]; rfl
  have rm := List.mem_of_getElem? hrow
  have r1 := O.way1 _ rm
  have r4 := O.way4 _ rm
  have hc : ch[w]? = some (ch.getD w 0) := by rw [List.getD_eq_getElem?_getD, List.getElem?_eq_getElem hcl]; rfl
  have hlt := C.lt w _ _ hc hrow
  have rl : (rowW cs ws ch w).length = (ws.getD w []).length := by unfold rowW; rw [List.length_map, List.length_range]
  have rne : rowW cs ws ch w ≠ [] := fun e => by
    have := congrArg List.length e
    rw [rl] at this
    have : (ws.getD w []).length = 0 := this
    omega
  obtain ⟨m1, m2, m3⟩ := min_int rne
  have rget : ∀ k, k < (ws.getD w []).length → (rowW cs ws ch w).getD k 0 = (paid cs ws (ch.set w k)).getD w 0 := fun k hk => by
    unfold rowW
    rw [List.getD_eq_getElem?_getD, List.getElem?_map, List.getElem?_range hk]
    rfl
  refine phi_ex q13.1 rfl ?_
  show wB Gm (phi Gm tab (n + 2)) [] F__law_next.body [some (false, costsD cs), some (false, waysD ws), some (false, oD ch), some (false, nD w), none, none, none, none] _
  dsimp only [F__law_next]
  array_get_dec
  refine w_for rfl ?_
  array_get_dec
  refine ⟨_, _, _, rfl, rfl, idx_t (d := wayRow (ws.getD w [])) (by rw [List.getElem?_map, hrow]; rfl), ?_⟩
  array_get_dec
  refine ⟨(ws.getD w []).length, _, by show R.v (D.int (((ws.getD w []).map oD).length : Nat)) = _; rw [List.length_map], range_ok (by omega), ?_⟩
  refine ⟨fun i ρ => ∃ b x5 x6 x7, ρ = [some (false, costsD cs), some (false, waysD ws), some (false, oD ch), some (false, nD w), some (false, b), x5, x6, x7] ∧ ((i = 0 ∧ b = .non) ∨ ∃ k, k < i ∧ b = .tup [.int ((rowW cs ws ch w).getD k 0), oD (ch.set w k)] ∧ ∀ j, j < i → (rowW cs ws ch w).getD k 0 ≤ (rowW cs ws ch w).getD j 0 ∧ (j < k → (rowW cs ws ch w).getD k 0 < (rowW cs ws ch w).getD j 0)), ⟨.non, none, none, none, rfl, .inl ⟨rfl, rfl⟩⟩, ?_, ?_⟩
  · rintro i x _ hx ⟨b, x5, x6, x7, rfl, hb⟩
    obtain ⟨k, hk, rfl⟩ := get_nD (l := List.range (ws.getD w []).length) hx
    obtain ⟨hi, rfl⟩ : i < (ws.getD w []).length ∧ k = i := by
      have hl := (List.getElem?_eq_some_iff.mp hk).1
      rw [List.length_range] at hl
      rw [List.getElem?_range hl] at hk
      exact ⟨hl, (Option.some.inj hk).symm⟩
    have C2 := set_ok C hrow hi
    have c1 : cut (ch.map nD) none (some (w : Int)) = (ch.take w).map nD := by rw [List.map_take]; exact cut_to (k := w)
    have c2 : cut (ch.map nD) (some ((w : Int) + 1)) none = (ch.drop (w + 1)).map nD := by rw [List.map_drop]; exact cut_from (k := w + 1)
    have es : D.tup ((ch.take w).map nD ++ [nD k] ++ (ch.drop (w + 1)).map nD) = oD (ch.set w k) := by
      rw [List.set_eq_take_append_cons_drop, if_pos hcl]
      show _ = D.tup ((ch.take w ++ k :: ch.drop (w + 1)).map nD)
      rw [List.map_append, List.append_assoc]
      rfl
    refine ⟨_, rfl, ?_⟩
    array_get_dec
    rw [c1]
    refine ⟨_, _, _, rfl, rfl, b_catT (Nat.le_trans (by rw [List.length_map, List.length_take]; show _ + 1 ≤ 20; have := C.len; omega) (by decide : 20 ≤ Mi.line)), ?_⟩
    array_get_dec
    rw [c2]
    refine ⟨_, _, _, rfl, rfl, b_catT (Nat.le_trans (by rw [List.length_append, List.length_map, List.length_map, List.length_take, List.length_drop]; show _ + 1 + _ ≤ 40; have := C.len; omega) (by decide : 40 ≤ Mi.line)), ?_⟩
    rw [es]
    array_get_dec
    obtain ⟨r, o, e, rfl, rfl⟩ := lpaid_ok n O C2
    refine call_by q12.2 rfl rfl e rfl ?_
    array_get_dec
    refine ⟨_, _, _, rfl, rfl, idx_l (j := w) (getD_int (by rw [paid_len C2]; exact hw)), ?_⟩
    rw [← rget k hi]
    rcases hb with ⟨e0, rfl⟩ | ⟨k1, g1, rfl, g2⟩
    · array_get_dec
      refine ⟨rfl, _, _, _, _, rfl, .inr ⟨k, by omega, rfl, fun j hj => ?_⟩⟩
      have hj2 : j = k := by omega
      rw [hj2]
      exact ⟨Int.le_refl _, fun z => absurd z (Nat.lt_irrefl _)⟩
    · array_get_dec
      refine ⟨fun hcc => ?_, fun hcc => ?_⟩
      · have hcc := of_decide_eq_true hcc
        array_get_dec
        refine ⟨rfl, _, _, _, _, rfl, .inr ⟨k, by omega, rfl, fun j hj => ?_⟩⟩
        rcases Nat.lt_succ_iff_lt_or_eq.mp hj with z | z
        · have := (g2 j z).1
          exact ⟨by omega, fun _ => by omega⟩
        · subst z
          exact ⟨Int.le_refl _, fun z => absurd z (Nat.lt_irrefl _)⟩
      · have hcc := of_decide_eq_false hcc
        array_get_dec
        refine ⟨rfl, _, _, _, _, rfl, .inr ⟨k1, by omega, rfl, fun j hj => ?_⟩⟩
        rcases Nat.lt_succ_iff_lt_or_eq.mp hj with z | z
        · exact g2 j z
        · subst z
          exact ⟨by omega, fun z => by omega⟩
  · rintro _ ⟨b, x5, x6, x7, rfl, hb⟩
    rw [List.length_map, List.length_map, List.length_range] at hb
    rcases hb with ⟨e0, _⟩ | ⟨k, g1, rfl, g2⟩
    · omega
    · obtain ⟨f1, f2⟩ := first_idx (row := rowW cs ws ch w) (k := k) (by omega) (fun j hj => g2 j (by omega)) m2 m3
      have hcur : (paid cs ws ch).getD w 0 = (rowW cs ws ch w).getD (ch.getD w 0) 0 := by
        rw [rget _ hlt]
        congr 2
        have e3 : ch.set w (ch.getD w 0) = ch := by
          refine List.ext_getElem? fun i => ?_
          rw [List.getElem?_set]
          by_cases z : w = i
          · subst z; rw [if_pos rfl, if_pos hcl, hc]
          · rw [if_neg z]
        rw [e3]
      have hcr : (rowW cs ws ch w).getD (ch.getD w 0) 0 ∈ rowW cs ws ch w := by
        rw [List.getD_eq_getElem?_getD, List.getElem?_eq_getElem (by omega)]
        exact List.getElem_mem _
      have hge := m3 _ hcr
      array_get_dec
      obtain ⟨r, o, e, rfl, rfl⟩ := lpaid_ok n O C
      refine call_by q12.2 rfl rfl e rfl ?_
      array_get_dec
      refine ⟨_, _, _, rfl, rfl, idx_l (j := w) (getD_int (by rw [paid_len C]; exact hw)), ?_⟩
      rw [hcur]
      unfold nextW bestW
      array_get_dec
      refine ⟨fun hcc => ?_, fun hcc => ?_⟩
      · have hcc := of_decide_eq_true hcc
        have hne : ¬ (rowW cs ws ch w).getD (ch.getD w 0) 0 = least (rowW cs ws ch w) := fun z => by omega
        have hne2 : ¬ k = ch.getD w 0 := fun z => hne (by rw [← z]; exact f1)
        rw [if_neg hne, f2, if_neg hne2]
        array_get_dec
        exact ⟨rfl, rfl⟩
      · have hcc := of_decide_eq_false hcc
        have he : (rowW cs ws ch w).getD (ch.getD w 0) 0 = least (rowW cs ws ch w) := by omega
        rw [if_pos he, if_pos rfl]
        array_get_dec
        exact ⟨rfl, rfl⟩)
end K83

/-! K83i -/
set_option Elab.async false
set_option linter.all false
set_option maxRecDepth 100000
set_option maxHeartbeats 4000000
namespace K83
open PySem Mi
open Bal (nD oD toN toN_nD getD_nD of_ex enum_get get_nD sum_ints least min_int fm_range fm_const all_true all_map)
theorem q5 : Bal.Has Gm tab 5 F_is_integer := ⟨rfl, rfl⟩
theorem q6 : Bal.Has Gm tab 6 F_is_within := ⟨rfl, rfl⟩
theorem q8 : Bal.Has Gm tab 8 F_is_tuple := ⟨rfl, rfl⟩
theorem q15 : Bal.Has Gm tab 15 F_are_choices := ⟨rfl, rfl⟩
theorem q16 : Bal.Has Gm tab 16 F_check_choices := ⟨rfl, rfl⟩
theorem q21 : Bal.Has Gm tab 21 F_is_settled := ⟨rfl, rfl⟩
theorem isint_ok (n : Nat) (i : Int) : phi Gm tab (n + 1) 5 [(false, .int i)] = some (.v (.bl true), []) := of_ex (by
  refine phi_ex q5.1 rfl ?_
  show wB Gm (phi Gm tab n) [] F_is_integer.body [some (false, .int i)] _
  dsimp only [F_is_integer]
  array_get_dec
  exact ⟨rfl, rfl⟩)
theorem within_ok (n : Nat) {i a b : Int} (h1 : a ≤ i) (h2 : i ≤ b) : phi Gm tab (n + 2) 6 [(false, .int i), (false, .int a), (false, .int b)] = some (.v (.bl true), []) := of_ex (by
  refine phi_ex q6.1 rfl ?_
  show wB Gm (phi Gm tab (n + 1)) [] F_is_within.body [some (false, .int i), some (false, .int a), some (false, .int b)] _
  dsimp only [F_is_within]
  array_get_dec
  refine call_by q5.2 rfl rfl (isint_ok n i) rfl ?_
  array_get_dec
  refine ⟨fun _ => ?_, fun hc => absurd h1 (of_decide_eq_false hc)⟩
  array_get_dec
  exact ⟨by show R.v (D.bl (decide (i ≤ b))) = _; rw [decide_eq_true h2], rfl⟩)
theorem tuple_ok (n : Nat) {l : List D} {k : Int} (h : (l.length : Int) = k) : phi Gm tab (n + 1) 8 [(false, .tup l), (false, .int k)] = some (.v (.bl true), []) := of_ex (by
  refine phi_ex q8.1 rfl ?_
  show wB Gm (phi Gm tab n) [] F_is_tuple.body [some (false, .tup l), some (false, .int k)] _
  dsimp only [F_is_tuple]
  array_get_dec
  exact ⟨by simp [h], rfl⟩)
theorem zipc_get {ws : List (List (List Nat))} {ch : List Nat} {x : Itm} (h : x ∈ List.zipWith Itm.two (ch.map nD) (ws.map wayRow)) : ∃ (i : Nat) (row : List (List Nat)) (c : Nat), ws[i]? = some row ∧ ch[i]? = some c ∧ x = .two (nD c) (wayRow row) := by
  obtain ⟨i, hi⟩ := List.getElem?_of_mem h
  rw [List.getElem?_zipWith, List.getElem?_map, List.getElem?_map] at hi
  cases q : ch[i]? with
  | none => rw [q] at hi; simp at hi
  | some c =>
    cases q2 : ws[i]? with
    | none => rw [q, q2] at hi; simp at hi
    | some row => rw [q, q2] at hi; exact ⟨i, row, c, q2, q, (Option.some.inj hi).symm⟩
theorem are_ok (n : Nat) {cs : List (List Int)} {ws : List (List (List Nat))} {ch : List Nat} (O : Ok cs ws) (C : ChOk ws ch) : phi Gm tab (n + 3) 15 [(false, strD cs ws), (false, oD ch)] = some (.v (.bl true), []) := of_ex (by
  refine phi_ex q15.1 rfl ?_
  show wB Gm (phi Gm tab (n + 2)) [] F_are_choices.body [some (false, strD cs ws), some (false, oD ch), none, none] _
  dsimp only [F_are_choices]
  array_get_dec
  refine call_by q8.2 rfl rfl (tuple_ok (n + 1) (by show ((ch.map nD).length : Int) = ((ws.map wayRow).length : Nat); rw [List.length_map, List.length_map, C.len])) rfl ?_
  array_get_dec
  refine w_compP rfl ?_
  array_get_dec
  refine ⟨_, _, _, _, _, rfl, rfl, rfl, ?_⟩
  refine ⟨fun _ => some (.bl true), fun x hx => ?_, ?_⟩
  · obtain ⟨i, row, c, h1, h2, rfl⟩ := zipc_get hx
    have hlt := C.lt i c row h2 h1
    refine ⟨_, rfl, ?_⟩
    array_get_dec
    refine call_by q6.2 rfl rfl (within_ok n (by omega) (by show (c : Int) ≤ ((row.map oD).length : Nat) - 1; rw [List.length_map]; omega)) rfl ?_
    array_get_dec
    rfl
  · array_get_dec
    refine ⟨_, _, rfl, (by rw [fm_const]; exact all_true _), ?_⟩
    array_get_dec
    exact ⟨rfl, rfl⟩)
theorem check_ok (n : Nat) {cs : List (List Int)} {ws : List (List (List Nat))} {ch : List Nat} (O : Ok cs ws) (C : ChOk ws ch) : phi Gm tab (n + 4) 16 [(false, strD cs ws), (false, oD ch)] = some (.v .non, []) := of_ex (by
  refine phi_ex q16.1 rfl ?_
  show wB Gm (phi Gm tab (n + 3)) [] F_check_choices.body [some (false, strD cs ws), some (false, oD ch)] _
  dsimp only [F_check_choices]
  array_get_dec
  refine call_by q15.2 rfl rfl (are_ok n O C) rfl ?_
  array_get_dec
  exact ⟨rfl, rfl⟩)
/-- nobody would go another way -/
def settled (cs : List (List Int)) (ws : List (List (List Nat))) (ch : List Nat) : Bool := (List.range ws.length).all fun w => decide (bestW cs ws ch w = ch.getD w 0)
theorem settled_ok (n : Nat) {cs : List (List Int)} {ws : List (List (List Nat))} {ch : List Nat} (O : Ok cs ws) (C : ChOk ws ch) : phi Gm tab (n + 4) 21 [(false, strD cs ws), (false, oD ch)] = some (.v (.bl (settled cs ws ch)), []) := of_ex (by
  refine phi_ex q21.1 rfl ?_
  show wB Gm (phi Gm tab (n + 3)) [] F_is_settled.body [some (false, strD cs ws), some (false, oD ch), none, none] _
  dsimp only [F_is_settled]
  array_get_dec
  refine call_by q15.2 rfl rfl (are_ok n O C) rfl ?_
  array_get_dec
  refine w_compP rfl ?_
  array_get_dec
  refine ⟨fun it => match it with | .two (.int i) (.int c) => some (.bl (decide (bestW cs ws ch i.toNat = c.toNat))) | _ => none, fun x hx => ?_, ?_⟩
  · obtain ⟨i, hi⟩ := List.getElem?_of_mem hx
    obtain ⟨c, hc, rfl⟩ := enum_get hi
    have hw : i < ws.length := by rw [← C.len]; exact (List.getElem?_eq_some_iff.mp hc).1
    refine ⟨_, rfl, ?_⟩
    array_get_dec
    refine call_by q20.2 rfl rfl (best_ok n O C hw) rfl ?_
    array_get_dec
    refine ⟨_, _, rfl, ?_, rfl⟩
    show some (D.bl (decide (bestW cs ws ch i = c))) = some (D.bl (decide ((bestW cs ws ch i : Int) = (c : Nat))))
    rw [decide_eq_decide.mpr (Int.ofNat_inj (m := bestW cs ws ch i) (n := c))]
  · have e : ∀ (l : List Nat) (k : Nat), (∀ i c, l[i]? = some c → ch[k + i]? = some c) → (enumFrom k (l.map nD)).filterMap (fun it => match it with | .two (.int i) (.int c) => some (D.bl (decide (bestW cs ws ch i.toNat = c.toNat))) | _ => none) = (List.range l.length).map fun w => D.bl (decide (bestW cs ws ch (k + w) = ch.getD (k + w) 0)) := fun l => by
      induction l with
      | nil => exact fun k h => rfl
      | cons c r ih =>
        intro k h
        have h0 := h 0 c rfl
        have := ih (k + 1) fun i c hi => by rw [show k + 1 + i = k + (i + 1) by omega]; exact h (i + 1) c hi
        rw [List.map_cons, enumFrom, List.filterMap_cons, this, List.length_cons, List.range_succ_eq_map, List.map_cons, List.map_map]
        show D.bl (decide (bestW cs ws ch k = c)) :: _ = _
        rw [show ch.getD (k + 0) 0 = c by rw [List.getD_eq_getElem?_getD, h0]; rfl]
        congr 1
        refine List.map_congr_left fun w hw => ?_
        show D.bl (decide (bestW cs ws ch (k + 1 + w) = ch.getD (k + 1 + w) 0)) = D.bl (decide (bestW cs ws ch (k + (w + 1)) = ch.getD (k + (w + 1)) 0))
        rw [show k + 1 + w = k + (w + 1) by omega]
    have e2 := e ch 0 fun i c h => by rw [Nat.zero_add]; exact h
    rw [e2]
    array_get_dec
    refine ⟨_, _, rfl, all_map _ _, ?_⟩
    array_get_dec
    refine ⟨?_, rfl⟩
    unfold settled
    rw [C.len]
    congr 3
    funext w
    rw [Nat.zero_add])
end K83

/-! K83j -/
set_option Elab.async false
set_option linter.all false
set_option maxRecDepth 100000
set_option maxHeartbeats 4000000
namespace K83
open PySem Mi
theorem zip_set : ∀ {ws : List (List (List Nat))} {ch : List Nat} {w k : Nat} {row : List (List Nat)}, ws[w]? = some row → ws.zip (ch.set w k) = (ws.zip ch).set w (row, k)
  | [], ch, w, k, row, h => by simp at h
  | r :: t, [], w, k, row, h => by simp
  | r :: t, c :: u, 0, k, row, h => by cases h; rfl
  | r :: t, c :: u, w + 1, k, row, h => by
    rw [List.set_cons_succ, List.zip_cons_cons, List.zip_cons_cons, List.set_cons_succ, zip_set (by simpa using h)]
/-- what a street's crowd pays in all, one by one -/
def stH (cs : List (List Int)) (s c : Nat) : Int := ((cs.getD s []).take c).sum
def height (cs : List (List Int)) (cr : List Nat) : Int := ((List.range cs.length).map fun s => stH cs s (cr.getD s 0)).sum
theorem stH_succ {cs : List (List Int)} {s c : Nat} (h : c < (cs.getD s []).length) : stH cs s (c + 1) = stH cs s c + (cs.getD s []).getD c 0 := by
  unfold stH
  generalize cs.getD s [] = row at h ⊢
  have : ∀ (a : List Int) (x : Int), (a ++ [x]).sum = a.sum + x := fun a x => by
    induction a with
    | nil => simp
    | cons y r ih => rw [List.cons_append, List.sum_cons, List.sum_cons, ih]; omega
  rw [List.take_add_one, List.getElem?_eq_getElem h, Option.toList_some, this, List.getD_eq_getElem?_getD, List.getElem?_eq_getElem h]
  rfl
/-- a walker's other way: each street's crowd -/
theorem crowds_set {cs : List (List Int)} {ws : List (List (List Nat))} {ch : List Nat} (O : Ok cs ws) (C : ChOk ws ch) {w k s : Nat} {row : List (List Nat)} (hr : ws[w]? = some row) (hk : k < row.length) (hs : s < cs.length) (c : Nat) (hc : ch[w]? = some c) :
    (crowds cs.length ws (ch.set w k)).getD s 0 + (if s ∈ row.getD c [] then 1 else 0) = (crowds cs.length ws ch).getD s 0 + (if s ∈ row.getD k [] then 1 else 0) := by
  rw [crowds_get O C hs, crowds_get O (set_ok C hr hk) hs, zip_set hr]
  have hz := zip_get ws ch w hr hc
  obtain ⟨hl, e⟩ := List.getElem?_eq_some_iff.mp hz
  rw [List.countP_set hl, e]
  have hpos : s ∈ row.getD c [] → 0 < (ws.zip ch).countP fun p => decide (s ∈ p.1.getD p.2 []) := fun h => List.countP_pos_iff.mpr ⟨(row, c), List.mem_of_getElem? hz, decide_eq_true h⟩
  by_cases h1 : s ∈ row.getD c []
  · have := hpos h1
    simp only [h1, decide_true, if_true]
    by_cases h2 : s ∈ row.getD k []
    · simp only [h2, decide_true, if_true]; omega
    · simp only [h2, decide_false, Bool.false_eq_true, if_false]; omega
  · simp only [h1, decide_false, Bool.false_eq_true, if_false]
    by_cases h2 : s ∈ row.getD k []
    · simp only [h2, decide_true, if_true]; omega
    · simp only [h2, decide_false, Bool.false_eq_true, if_false]; omega
end K83

/-! K83k -/
set_option Elab.async false
set_option linter.all false
set_option maxRecDepth 100000
set_option maxHeartbeats 4000000
namespace K83
open PySem Mi
theorem sum_addL {α : Type} (f g : α → Int) : ∀ l : List α, (l.map fun x => f x + g x).sum = (l.map f).sum + (l.map g).sum
  | [] => rfl
  | x :: r => by rw [List.map_cons, List.map_cons, List.map_cons, List.sum_cons, List.sum_cons, List.sum_cons, sum_addL f g r]; omega
theorem sum_subL {α : Type} (f g : α → Int) : ∀ l : List α, (l.map fun x => f x - g x).sum = (l.map f).sum - (l.map g).sum
  | [] => rfl
  | x :: r => by rw [List.map_cons, List.map_cons, List.map_cons, List.sum_cons, List.sum_cons, List.sum_cons, sum_subL f g r]; omega
theorem sum_at {t : Nat} {a : Int} : ∀ {l : List Nat}, l.Nodup → t ∈ l → (l.map fun x => if x = t then a else 0).sum = a
  | x :: r, nd, h => by
    obtain ⟨h1, h2⟩ := List.nodup_cons.mp nd
    rw [List.map_cons, List.sum_cons]
    by_cases e : x = t
    · subst e
      have : (r.map fun y => if y = x then a else 0).sum = 0 := by
        clear h2 nd h
        induction r with
        | nil => rfl
        | cons y u ih =>
          rw [List.map_cons, List.sum_cons, ih fun z => h1 (List.mem_cons_of_mem _ z), if_neg fun z => h1 (by rw [z]; exact List.mem_cons_self)]
          rfl
      rw [if_pos rfl, this]
      omega
    · rw [if_neg e, sum_at h2 ((List.mem_cons.mp h).resolve_left fun z => e z.symm)]
      omega
theorem pay_sum (g : Nat → Int) {K : Nat} : ∀ {way : List Nat}, way.Nodup → (∀ s ∈ way, s < K) → (way.map g).sum = ((List.range K).map fun s => if s ∈ way then g s else 0).sum
  | [], _, _ => by
    have : ∀ l : List Nat, (l.map fun s => if s ∈ ([] : List Nat) then g s else 0).sum = 0 := fun l => by
      induction l with
      | nil => rfl
      | cons x r ih => rw [List.map_cons, List.sum_cons, ih]; simp
    rw [this]
    rfl
  | x :: r, nd, h => by
    obtain ⟨h1, h2⟩ := List.nodup_cons.mp nd
    rw [List.map_cons, List.sum_cons, pay_sum g h2 fun s hs => h s (List.mem_cons_of_mem _ hs)]
    have e : ((List.range K).map fun s => if s ∈ x :: r then g s else 0) = (List.range K).map fun s => (if s = x then g x else 0) + (if s ∈ r then g s else 0) := by
      refine List.map_congr_left fun s _ => ?_
      by_cases q : s = x
      · subst q; simp [h1]
      · simp [q]
    rw [e, sum_addL, sum_at List.nodup_range (List.mem_range.mpr (h x List.mem_cons_self))]
/-- the height falls by what the walker saves -/
theorem height_step {cs : List (List Int)} {ws : List (List (List Nat))} {ch : List Nat} (O : Ok cs ws) (C : ChOk ws ch) {w k c : Nat} {row : List (List Nat)} (hr : ws[w]? = some row) (hk : k < row.length) (hc : ch[w]? = some c) :
    height cs (crowds cs.length ws ch) - height cs (crowds cs.length ws (ch.set w k)) = payOf cs (crowds cs.length ws ch) (row.getD c []) - payOf cs (crowds cs.length ws (ch.set w k)) (row.getD k []) := by
  have C2 := set_ok C hr hk
  have hz := zip_get ws ch w hr hc
  have hwl := (List.getElem?_eq_some_iff.mp hc).1
  have hc2 : (ch.set w k)[w]? = some k := by rw [List.getElem?_set_self hwl]
  have hz2 := zip_get ws (ch.set w k) w hr hc2
  have pa := pair_ok O C (List.mem_of_getElem? hz)
  have pb := pair_ok O C2 (List.mem_of_getElem? hz2)
  dsimp only at pa pb
  unfold payOf height
  rw [pay_sum _ pa.2.2.2.1 pa.2.2.2.2, pay_sum _ pb.2.2.2.1 pb.2.2.2.2, ← sum_subL, ← sum_subL]
  congr 1
  refine List.map_congr_left fun s hs => ?_
  have hs := List.mem_range.mp hs
  have he := crowds_set O C hr hk hs c hc
  have rl : (cs.getD s []).length = ws.length := by
    rw [List.getD_eq_getElem?_getD, List.getElem?_eq_getElem hs]
    exact O.row _ (List.getElem_mem hs)
  have b1 := fun h => crowds_bd O C (s := s) (List.mem_of_getElem? hz) h
  have b2 := fun h => crowds_bd O C2 (s := s) (List.mem_of_getElem? hz2) h
  dsimp only at b1 b2
  unfold cost
  generalize (crowds cs.length ws ch).getD s 0 = x at he b1 ⊢
  generalize (crowds cs.length ws (ch.set w k)).getD s 0 = y at he b2 ⊢
  by_cases h1 : s ∈ row.getD c []
  · by_cases h2 : s ∈ row.getD k []
    · rw [if_pos h1, if_pos h2] at he ⊢
      have : x = y := by omega
      rw [this]
      omega
    · rw [if_pos h1, if_neg h2] at he ⊢
      have hx : x = y + 1 := by omega
      have := b1 h1
      rw [hx, stH_succ (by omega), show y + 1 - 1 = y by omega]
      omega
  · by_cases h2 : s ∈ row.getD k []
    · rw [if_neg h1, if_pos h2] at he ⊢
      have hy : y = x + 1 := by omega
      have := b2 h2
      rw [hy, stH_succ (by omega), show x + 1 - 1 = x by omega]
      omega
    · rw [if_neg h1, if_neg h2] at he ⊢
      have : x = y := by omega
      rw [this]
      omega
end K83

/-! K83l -/
set_option Elab.async false
set_option linter.all false
set_option maxRecDepth 100000
set_option maxHeartbeats 4000000
namespace K83
open PySem Mi
open Bal (nD oD least min_int)
section
variable {cs : List (List Int)} {ws : List (List (List Nat))} {ch : List Nat} (O : Ok cs ws) (C : ChOk ws ch) {w : Nat} (hw : w < ws.length)
include O C hw
theorem row_get : ws[w]? = some (ws.getD w []) := by rw [List.getD_eq_getElem?_getD, List.getElem?_eq_getElem hw]; rfl
theorem ch_get : ch[w]? = some (ch.getD w 0) := by rw [List.getD_eq_getElem?_getD, List.getElem?_eq_getElem (by rw [C.len]; exact hw)]; rfl
theorem rowW_len : (rowW cs ws ch w).length = (ws.getD w []).length := by unfold rowW; rw [List.length_map, List.length_range]
theorem rowW_get {k : Nat} (hk : k < (ws.getD w []).length) : (rowW cs ws ch w).getD k 0 = (paid cs ws (ch.set w k)).getD w 0 := by
  unfold rowW
  rw [List.getD_eq_getElem?_getD, List.getElem?_map, List.getElem?_range hk]
  rfl
theorem set_same : ch.set w (ch.getD w 0) = ch := by
  have hcl : w < ch.length := by rw [C.len]; exact hw
  refine List.ext_getElem? fun i => ?_
  rw [List.getElem?_set]
  by_cases z : w = i
  · subst z; rw [if_pos rfl, if_pos hcl, ch_get O C hw]
  · rw [if_neg z]
theorem rowW_cur : (rowW cs ws ch w).getD (ch.getD w 0) 0 = (paid cs ws ch).getD w 0 := by
  have hlt := C.lt w _ _ (ch_get O C hw) (row_get O C hw)
  rw [rowW_get O C hw hlt, set_same O C hw]
theorem best_lt : bestW cs ws ch w < (ws.getD w []).length := by
  have hlt := C.lt w _ _ (ch_get O C hw) (row_get O C hw)
  have rl := rowW_len O C hw
  have rne : rowW cs ws ch w ≠ [] := fun e => by
    have := congrArg List.length e
    rw [rl] at this
    have : (ws.getD w []).length = 0 := this
    omega
  unfold bestW
  split
  · exact hlt
  · rw [← rl]
    exact List.idxOf_lt_length_of_mem (min_int rne).2.1
/-- another way is cheaper -/
theorem best_saves (hne : bestW cs ws ch w ≠ ch.getD w 0) : (paid cs ws (ch.set w (bestW cs ws ch w))).getD w 0 + 1 ≤ (paid cs ws ch).getD w 0 := by
  have hlt := C.lt w _ _ (ch_get O C hw) (row_get O C hw)
  have rl := rowW_len O C hw
  have rne : rowW cs ws ch w ≠ [] := fun e => by
    have := congrArg List.length e
    rw [rl] at this
    have : (ws.getD w []).length = 0 := this
    omega
  obtain ⟨m1, m2, m3⟩ := min_int rne
  rw [← rowW_get O C hw (best_lt O C hw), ← rowW_cur O C hw]
  have hcr : (rowW cs ws ch w).getD (ch.getD w 0) 0 ∈ rowW cs ws ch w := by
    rw [List.getD_eq_getElem?_getD, List.getElem?_eq_getElem (by omega)]
    exact List.getElem_mem _
  have hge := m3 _ hcr
  unfold bestW at hne ⊢
  split at hne
  · exact absurd rfl hne
  · rename_i hn
    rw [if_neg hn]
    have hb : (rowW cs ws ch w).getD ((rowW cs ws ch w).idxOf (least (rowW cs ws ch w))) 0 = least (rowW cs ws ch w) := by
      have hl := List.idxOf_lt_length_of_mem m2
      rw [List.getD_eq_getElem?_getD, List.getElem?_eq_getElem hl]
      exact List.getElem_idxOf hl
    rw [hb]
    omega
theorem paid_get : (paid cs ws ch).getD w 0 = payOf cs (crowds cs.length ws ch) ((ws.getD w []).getD (ch.getD w 0) []) := by
  unfold paid
  rw [List.getD_eq_getElem?_getD, List.getElem?_map, zip_get ws ch w (row_get O C hw) (ch_get O C hw)]
  rfl
/-- .. and the height falls -/
theorem height_falls (hne : bestW cs ws ch w ≠ ch.getD w 0) : height cs (crowds cs.length ws (ch.set w (bestW cs ws ch w))) + 1 ≤ height cs (crowds cs.length ws ch) := by
  have hb := best_lt O C hw
  have C2 := set_ok C (row_get O C hw) hb
  have h1 := height_step O C (row_get O C hw) hb (ch_get O C hw)
  have h2 := best_saves O C hw hne
  rw [paid_get O C hw, paid_get O C2 hw] at h2
  have e : (ch.set w (bestW cs ws ch w)).getD w 0 = bestW cs ws ch w := by
    rw [set_getD _ _ _ _ (by rw [C.len]; exact hw), if_pos rfl]
  rw [e] at h2
  omega
end
end K83

/-! K83m -/
set_option Elab.async false
set_option linter.all false
set_option maxRecDepth 100000
set_option maxHeartbeats 4000000
namespace K83
open PySem Mi
open Bal (nD oD least min_int of_ex fm_range fm_filter)
def unsettled (cs : List (List Int)) (ws : List (List (List Nat))) (ch : List Nat) : List Nat := (List.range ws.length).filter fun w => !decide (bestW cs ws ch w = ch.getD w 0)
def walkP (cs : List (List Int)) (ws : List (List (List Nat))) : Nat → List Nat → List (List Nat)
  | 0, ch => [ch]
  | f + 1, ch => match unsettled cs ws ch with
    | [] => [ch]
    | w :: _ => ch :: walkP cs ws f (ch.set w (bestW cs ws ch w))
theorem sum_nn : ∀ {l : List Int}, (∀ x ∈ l, 0 ≤ x ∧ x ≤ 8) → 0 ≤ l.sum ∧ l.sum ≤ 8 * l.length
  | [], _ => by simp
  | x :: r, h => by
    have i := sum_nn fun y hy => h y (List.mem_cons_of_mem _ hy)
    have := h x List.mem_cons_self
    rw [List.sum_cons, List.length_cons]
    omega
theorem height_bd {cs : List (List Int)} {ws : List (List (List Nat))} (O : Ok cs ws) (cr : List Nat) : 0 ≤ height cs cr ∧ height cs cr ≤ 160 := by
  have hst : ∀ s, s < cs.length → ∀ c, 0 ≤ stH cs s c ∧ stH cs s c ≤ 32 := fun s hs c => by
    have e : cs[s]? = some (cs.getD s []) := by rw [List.getD_eq_getElem?_getD, List.getElem?_eq_getElem hs]; rfl
    have hm := List.mem_of_getElem? e
    have h := sum_nn (l := (cs.getD s []).take c) fun x hx => O.pos _ hm x (List.mem_of_mem_take hx)
    have hl := O.row _ hm
    have w4 := O.w4
    rw [List.length_take] at h
    unfold stH
    omega
  have c5 := O.c5
  have key : ∀ l : List Nat, (∀ s ∈ l, s < cs.length) → 0 ≤ (l.map fun s => stH cs s (cr.getD s 0)).sum ∧ (l.map fun s => stH cs s (cr.getD s 0)).sum ≤ 32 * l.length := fun l hl => by
    induction l with
    | nil => simp
    | cons s r ih =>
      have i := ih fun y hy => hl y (List.mem_cons_of_mem _ hy)
      have := hst s (hl s List.mem_cons_self) (cr.getD s 0)
      rw [List.map_cons, List.sum_cons, List.length_cons]
      omega
  have := key (List.range cs.length) fun s hs => List.mem_range.mp hs
  rw [List.length_range] at this
  unfold height
  omega
theorem settled_iff {cs : List (List Int)} {ws : List (List (List Nat))} {ch : List Nat} : settled cs ws ch = true ↔ unsettled cs ws ch = [] := by
  unfold settled unsettled
  rw [List.all_eq_true, List.filter_eq_nil_iff]
  constructor
  · intro h w hw
    have := h w hw
    simp only [this, Bool.not_true, Bool.false_eq_true, not_false_eq_true]
  · intro h w hw
    have := h w hw
    cases q : decide (bestW cs ws ch w = ch.getD w 0) with
    | true => rfl
    | false => rw [q] at this; exact absurd rfl this
end K83

/-! K83n -/
set_option Elab.async false
set_option linter.all false
set_option maxRecDepth 100000
set_option maxHeartbeats 4000000
namespace K83
open PySem Mi
open Bal (nD oD least min_int of_ex fm_range fm_filter)
theorem q22 : Bal.Has Gm tab 22 F_walk_down := ⟨rfl, rfl⟩
abbrev hgt (cs : List (List Int)) (ws : List (List (List Nat))) (ch : List Nat) : Nat := (height cs (crowds cs.length ws ch)).toNat
theorem walk_ok (n : Nat) {cs : List (List Int)} {ws : List (List (List Nat))} {ch0 : List Nat} (O : Ok cs ws) (C0 : ChOk ws ch0) : ∃ r o, phi Gm tab (n + 5) 22 [(false, strD cs ws), (false, oD ch0)] = some (r, o) ∧ r = .o (.lst ((walkP cs ws (hgt cs ws ch0) ch0).map oD)) ∧ o = [] := by
  refine phi_ex q22.1 rfl ?_
  show wB Gm (phi Gm tab (n + 4)) [] F_walk_down.body [some (false, strD cs ws), some (false, oD ch0), none, none, none] _
  dsimp only [F_walk_down]
  array_get_dec
  refine call_by q16.2 rfl rfl (check_ok n O C0) rfl ?_
  array_get_dec
  refine ⟨Nat.le_of_ble_eq_true rfl, ?_⟩
  array_get_dec
  have w4 := O.w4
  have hF : hgt cs ws ch0 ≤ 160 := by have := height_bd O (crowds cs.length ws ch0); unfold hgt; omega
  refine w_whil rfl (fun M ρ => ∃ (ch : List Nat) (acc : List (List Nat)) (x3 : Option (Bool × D)), ρ = [some (false, strD cs ws), some (false, oD ch), some (true, .lst ((acc ++ [ch]).map oD)), x3, none] ∧ ChOk ws ch ∧ hgt cs ws ch ≤ M ∧ acc.length + M ≤ hgt cs ws ch0 ∧ acc ++ walkP cs ws M ch = walkP cs ws (hgt cs ws ch0) ch0) (hgt cs ws ch0)
    ⟨ch0, [], none, rfl, C0, Nat.le_refl _, by simp, rfl⟩ ?_
  rintro M _ ⟨ch, acc, x3, rfl, C, h1, h2, h3⟩
  have hcl : ch.length ≤ 4 := by rw [C.len]; exact w4
  array_get_dec
  refine call_by q21.2 rfl rfl (settled_ok n O C) rfl ?_
  array_get_dec
  refine ⟨fun hc => ?_, fun hc => ?_⟩
  · have hs : settled cs ws ch = true := by simpa using hc
    have hu := settled_iff.mp hs
    have e : walkP cs ws M ch = [ch] := by
      cases M with
      | zero => rfl
      | succ M => unfold walkP; rw [hu]
    rw [e] at h3
    array_get_dec
    exact ⟨by rw [h3], rfl⟩
  · have hs : ¬ settled cs ws ch = true := by simpa using hc
    have hu : unsettled cs ws ch ≠ [] := fun z => hs (settled_iff.mpr z)
    array_get_dec
    refine w_compP rfl ?_
    array_get_dec
    refine ⟨ch.length, _, by show R.v (D.int ((ch.map nD).length : Nat)) = _; rw [List.length_map], range_ok (by omega), ?_⟩
    refine ⟨fun it => match it with | .one (.int i) => if !decide (bestW cs ws ch i.toNat = ch.getD i.toNat 0) then some (.int i) else none | _ => none, fun x hx => ?_, ?_⟩
    · obtain ⟨d, hd, rfl⟩ := List.mem_map.mp hx
      obtain ⟨w, hw, rfl⟩ := List.mem_map.mp hd
      have hwc := List.mem_range.mp hw
      have hw : w < ws.length := by rw [← C.len]; exact hwc
      have e : (!decide ((bestW cs ws ch w : Int) = (ch.getD w 0 : Nat))) = !decide (bestW cs ws ch w = ch.getD w 0) := by rw [decide_eq_decide.mpr Int.ofNat_inj]
      refine ⟨_, rfl, ?_⟩
      array_get_dec
      refine call_by q20.2 rfl rfl (best_ok (n + 1) O C hw) rfl ?_
      array_get_dec
      refine ⟨_, _, _, rfl, rfl, idx_t (j := w) (d := nD (ch.getD w 0)) (by rw [List.getElem?_map, ch_get O C hw]; rfl), ?_⟩
      array_get_dec
      refine ⟨fun hc2 => ?_, fun hc2 => ?_⟩
      · array_get_dec
        refine ⟨_, _, rfl, ?_, rfl⟩
        show (if !decide (bestW cs ws ch w = ch.getD w 0) then some (nD w) else none) = _
        rw [if_pos (e.symm.trans hc2)]
      · refine ⟨?_, rfl⟩
        show (if !decide (bestW cs ws ch w = ch.getD w 0) then some (nD w) else none) = _
        rw [if_neg (fun z => absurd (hc2.symm.trans (e.trans z)) (by decide))]
    · have e : (((List.range ch.length).map fun (i : Nat) => D.int (i : Int)).map Itm.one).filterMap (fun it => match it with | .one (.int i) => if !decide (bestW cs ws ch i.toNat = ch.getD i.toNat 0) then some (D.int i) else none | _ => none) = (unsettled cs ws ch).map nD := by
        unfold unsettled
        rw [List.map_map, C.len]
        exact fm_filter fun i hi => rfl
      rw [e]
      cases q : unsettled cs ws ch with
      | nil => exact absurd q hu
      | cons w r =>
        have hwm : w ∈ unsettled cs ws ch := by rw [q]; exact List.mem_cons_self
        obtain ⟨hw1, hw2⟩ := List.mem_filter.mp hwm
        have hw := List.mem_range.mp hw1
        have hne : bestW cs ws ch w ≠ ch.getD w 0 := by simpa using hw2
        have hf := height_falls O C hw hne
        have hb := best_lt O C hw
        have C2 := set_ok C (row_get O C hw) hb
        have hnn := height_bd O (crowds cs.length ws (ch.set w (bestW cs ws ch w)))
        obtain ⟨M', rfl⟩ : ∃ M', M = M' + 1 := ⟨M - 1, by unfold hgt at h1; omega⟩
        have e2 : walkP cs ws (M' + 1) ch = ch :: walkP cs ws M' (ch.set w (bestW cs ws ch w)) := by
          show (match unsettled cs ws ch with | [] => [ch] | w :: _ => ch :: walkP cs ws M' (ch.set w (bestW cs ws ch w))) = _
          rw [q]
        have hcw : w < ch.length := by rw [C.len]; exact hw
        array_get_dec
        refine ⟨_, _, _, rfl, rfl, idx_l (j := 0) (d := nD w) rfl, ?_⟩
        array_get_dec
        refine ⟨_, _, _, rfl, rfl, idx_l (j := 0) (d := nD w) rfl, ?_⟩
        array_get_dec
        refine call_by q20.2 rfl rfl (best_ok (n + 1) O C hw) rfl ?_
        array_get_dec
        refine call_by q19.2 rfl rfl (with_ok (n + 3) hcw (by omega)) rfl ?_
        array_get_dec
        refine ⟨_, _, _, _, rfl, rfl, m_app (Nat.lt_of_le_of_lt (by rw [List.length_map, List.length_append]; show _ + 1 ≤ 1000; omega : _ ≤ 1000) (by decide)), ?_⟩
        array_get_dec
        refine ⟨M', by omega, ch.set w (bestW cs ws ch w), acc ++ [ch], _, by rw [List.map_append (l₁ := acc ++ [ch])]; rfl, C2, by unfold hgt at h1 ⊢; omega, by rw [List.length_append]; show acc.length + 1 + M' ≤ _; omega, ?_⟩
        rw [← h3, e2, List.append_assoc]
        rfl
end K83

/-! K83o -/
set_option Elab.async false
set_option linter.all false
set_option maxRecDepth 100000
set_option maxHeartbeats 4000000
namespace K83
open PySem Mi
open Bal (nD oD least min_int of_ex fm_range fm_filter get_nD)
theorem forB_ind {turn : Itm → Mi.Env → Option (Fl × Mi.Env)} {Q : Fl → Mi.Env → Prop} (I : Nat → Mi.Env → Prop) : ∀ (its : List Itm) (k : Nat) (ρ : Mi.Env), I k ρ →
    (∀ i x ρ, its[i]? = some x → I (k + i) ρ → ∃ f ρ', turn x ρ = some (f, ρ') ∧ (match f with | .nx => I (k + i + 1) ρ' | .brk => Q .nx ρ' | _ => False)) → (∀ ρ, I (k + its.length) ρ → Q .nx ρ) → ∃ f ρ', forGo turn its ρ = some (f, ρ') ∧ Q f ρ'
  | [], k, ρ, h0, _, h2 => ⟨.nx, ρ, rfl, h2 ρ h0⟩
  | x :: its, k, ρ, h0, h1, h2 => by
    obtain ⟨f, ρ1, e, h⟩ := h1 0 x ρ rfl h0
    cases f with
    | nx =>
      obtain ⟨f2, ρ2, e2, q⟩ := forB_ind (turn := turn) (Q := Q) I its (k + 1) ρ1 h (fun i y ρ hy hi => by
        have := h1 (i + 1) y ρ hy (by rw [show k + (i + 1) = k + 1 + i by omega]; exact hi)
        rw [show k + (i + 1) + 1 = k + 1 + i + 1 by omega] at this
        exact this) (fun ρ hi => h2 ρ (by rw [List.length_cons, show k + (its.length + 1) = k + 1 + its.length by omega]; exact hi))
      exact ⟨f2, ρ2, by unfold forGo; rw [e]; exact e2, q⟩
    | brk => exact ⟨.nx, ρ1, by unfold forGo; rw [e], h⟩
    | rt r => exact h.elim
    | cnt => exact h.elim
theorem w_forB {Gm : Cfg} {Φ : Phi} {fx : List Nat} {ρ : Mi.Env} {Q : Fl → Mi.Env → Prop} {tg : Tg} {it : It} {b : Ss} (hf : tgFree fx tg = true) (h : wI Gm Φ it ρ fun its ρ1 => ∃ I : Nat → Mi.Env → Prop, I 0 ρ1 ∧
      (∀ i x ρ, its[i]? = some x → I i ρ → ∃ ρ2, setItm tg x ρ = some ρ2 ∧ wB Gm Φ fx b ρ2 fun f ρ3 => (match f with | .nx => I (i + 1) ρ3 | .brk => Q .nx ρ3 | _ => False)) ∧ ∀ ρ2, I its.length ρ2 → Q .nx ρ2) : wS Gm Φ fx (.for_ tg it b) ρ Q := by
  obtain ⟨its, ρ1, e1, I, h0, hs, q⟩ := h
  obtain ⟨f, ρ', e2, i⟩ := forB_ind (turn := fun d ρ2 => match setItm tg d ρ2 with
    | some ρ3 => evSs Gm Φ fx b ρ3
    | none => none) (Q := Q) I its 0 ρ1 h0 (fun i it ρ hx hi => by
      rw [Nat.zero_add] at hi ⊢
      obtain ⟨ρ2, e2, f, ρ3, e3, i'⟩ := hs i it ρ hx hi
      exact ⟨f, ρ3, by simp only [e2]; exact e3, i'⟩) (fun ρ hi => q ρ (by rw [Nat.zero_add] at hi; exact hi))
  exact ⟨f, ρ', by unfold evS; rw [hf]; simp only [Bool.not_true, Bool.false_eq_true, if_false]; rw [e1, bindO_s]; exact e2, i⟩
theorem q14 : Bal.Has Gm tab 14 F__law_walk := ⟨rfl, rfl⟩
theorem uns_first {cs : List (List Int)} {ws : List (List (List Nat))} {ch : List Nat} {w : Nat} (hw : w < ws.length) (h : ∀ j, j < w → bestW cs ws ch j = ch.getD j 0) (hn : bestW cs ws ch w ≠ ch.getD w 0) : ∃ r, unsettled cs ws ch = w :: r := by
  unfold unsettled
  obtain ⟨k, hk⟩ : ∃ k, ws.length = w + (k + 1) := ⟨ws.length - w - 1, by omega⟩
  rw [hk, List.range_add, List.filter_append]
  have e1 : (List.range w).filter (fun w => !decide (bestW cs ws ch w = ch.getD w 0)) = [] := by
    rw [List.filter_eq_nil_iff]
    intro j hj
    rw [decide_eq_true (h j (List.mem_range.mp hj))]
    decide
  rw [e1, List.nil_append, List.range_succ_eq_map, List.map_cons, List.filter_cons_of_pos (by simpa using hn)]
  exact ⟨_, rfl⟩
theorem lwalk_ok (n : Nat) {cs : List (List Int)} {ws : List (List (List Nat))} {ch0 : List Nat} (O : Ok cs ws) (C0 : ChOk ws ch0) : ∃ r o, phi Gm tab (n + 4) 14 [(false, costsD cs), (false, waysD ws), (false, oD ch0)] = some (r, o) ∧ r = .o (.lst ((walkP cs ws (hgt cs ws ch0) ch0).map oD)) ∧ o = [] := by
  refine phi_ex q14.1 rfl ?_
  show wB Gm (phi Gm tab (n + 3)) [] F__law_walk.body [some (false, costsD cs), some (false, waysD ws), some (false, oD ch0), none, none, none, none] _
  dsimp only [F__law_walk]
  array_get_dec
  have w4 := O.w4
  have hF : hgt cs ws ch0 ≤ 160 := by have := height_bd O (crowds cs.length ws ch0); unfold hgt; omega
  refine w_whil rfl (fun M ρ => ∃ (b : Bool) (ch : List Nat) (acc : List (List Nat)) (x5 x6 : Option (Bool × D)) (F : Nat), ρ = [some (false, costsD cs), some (false, waysD ws), some (false, oD ch0), some (true, .lst ((acc ++ [ch]).map oD)), some (false, .bl b), x5, x6] ∧ ChOk ws ch ∧ hgt cs ws ch ≤ F ∧ acc.length + F ≤ hgt cs ws ch0 ∧ acc ++ walkP cs ws F ch = walkP cs ws (hgt cs ws ch0) ch0 ∧ (b = false → unsettled cs ws ch = []) ∧ M = 2 * F + (if b then 1 else 0)) (2 * hgt cs ws ch0 + 1)
    ⟨true, ch0, [], none, none, hgt cs ws ch0, rfl, C0, Nat.le_refl _, by simp, rfl, (fun z => nomatch z), rfl⟩ ?_
  rintro M _ ⟨b, ch, acc, x5, x6, F, rfl, C, h1, h2, h3, h4, rfl⟩
  cases b with
  | false =>
    array_get_dec
    have e : walkP cs ws F ch = [ch] := by
      cases F with
      | zero => rfl
      | succ F => unfold walkP; rw [h4 rfl]
    rw [e] at h3
    refine ⟨fun _ => ?_, fun z => by cases z⟩
    array_get_dec
    exact ⟨by rw [h3], rfl⟩
  | true =>
    array_get_dec
    refine ⟨(fun z => by cases z), fun _ => ?_⟩
    array_get_dec
    refine w_forB rfl ?_
    array_get_dec
    refine ⟨ws.length, _, by show R.v (D.int ((ws.map wayRow).length : Nat)) = _; rw [List.length_map], range_ok (by omega), ?_⟩
    refine ⟨fun i ρ => ∃ x5 x6, ρ = [some (false, costsD cs), some (false, waysD ws), some (false, oD ch0), some (true, .lst ((acc ++ [ch]).map oD)), some (false, .bl false), x5, x6] ∧ ∀ j, j < i → bestW cs ws ch j = ch.getD j 0, ⟨_, _, rfl, fun j hj => absurd hj (Nat.not_lt_zero _)⟩, ?_, ?_⟩
    · rintro i x _ hx ⟨x5, x6, rfl, hj⟩
      obtain ⟨w, hk, rfl⟩ := get_nD (l := List.range ws.length) hx
      obtain ⟨hw, rfl⟩ : i < ws.length ∧ w = i := by
        have hl := (List.getElem?_eq_some_iff.mp hk).1
        rw [List.length_range] at hl
        rw [List.getElem?_range hl] at hk
        exact ⟨hl, (Option.some.inj hk).symm⟩
      have hlast : ((acc ++ [ch]).map oD)[((acc ++ [ch]).map oD).length - 1]? = some (oD ch) := by
        rw [List.length_map, List.length_append, List.getElem?_map]
        show ((acc ++ [ch])[acc.length + 1 - 1]?).map oD = _
        rw [show acc.length + 1 - 1 = acc.length by omega, List.getElem?_append_right (Nat.le_refl _), Nat.sub_self]
        rfl
      refine ⟨_, rfl, ?_⟩
      array_get_dec
      refine ⟨_, _, _, rfl, rfl, idx_neg1 hlast, ?_⟩
      array_get_dec
      refine call_by q13.2 rfl rfl (next_ok n O C hw) rfl ?_
      unfold nextW
      by_cases hb : bestW cs ws ch w = ch.getD w 0
      · rw [if_pos hb]
        unfold nxD
        array_get_dec
        refine ⟨_, _, rfl, fun j hj2 => ?_⟩
        rcases Nat.lt_succ_iff_lt_or_eq.mp hj2 with z | z
        · exact hj j z
        · rw [z]; exact hb
      · rw [if_neg hb]
        unfold nxD
        have hf := height_falls O C hw hb
        have C2 := set_ok C (row_get O C hw) (best_lt O C hw)
        have hnn := height_bd O (crowds cs.length ws (ch.set w (bestW cs ws ch w)))
        obtain ⟨F', rfl⟩ : ∃ F', F = F' + 1 := ⟨F - 1, by unfold hgt at h1; omega⟩
        obtain ⟨r, hu⟩ := uns_first hw hj hb
        have e2 : walkP cs ws (F' + 1) ch = ch :: walkP cs ws F' (ch.set w (bestW cs ws ch w)) := by
          show (match unsettled cs ws ch with | [] => [ch] | w :: _ => ch :: walkP cs ws F' (ch.set w (bestW cs ws ch w))) = _
          rw [hu]
        generalize eN : ch.set w (bestW cs ws ch w) = ch2 at *
        array_get_dec
        refine ⟨_, _, _, _, rfl, rfl, m_app (Nat.lt_of_le_of_lt (by rw [List.length_map, List.length_append]; show _ + 1 ≤ 1000; omega : _ ≤ 1000) (by decide)), ?_⟩
        array_get_dec
        refine w_bnil ?_
        refine ⟨2 * F' + 1, by rw [if_pos rfl]; omega, true, ch2, acc ++ [ch], _, _, F', by rw [List.map_append (l₁ := acc ++ [ch])]; rfl, C2, by unfold hgt at h1 ⊢; omega, by rw [List.length_append]; show acc.length + 1 + F' ≤ _; omega, ?_, (fun z => nomatch z), rfl⟩
        rw [← h3, e2, List.append_assoc]
        rfl
    · rintro _ ⟨x5, x6, rfl, hj⟩
      rw [List.length_map, List.length_map, List.length_range] at hj
      have hu : unsettled cs ws ch = [] := by
        unfold unsettled
        rw [List.filter_eq_nil_iff]
        intro j hj2
        rw [decide_eq_true (hj j (List.mem_range.mp hj2))]
        decide
      array_get_dec
      exact ⟨2 * F, by simp, false, ch, acc, _, _, F, rfl, C, h1, h2, h3, fun _ => hu, rfl⟩
end K83

/-! K83p -/
set_option Elab.async false
set_option linter.all false
set_option maxRecDepth 100000
set_option maxHeartbeats 4000000
namespace K83
open PySem Mi
open Bal (nD oD least min_int of_ex fm_range fm_filter get_nD sum_ints getD_nD)
theorem q24 : Bal.Has Gm tab 24 F_costs_of := ⟨rfl, rfl⟩
theorem q25 : Bal.Has Gm tab 25 F_height_of := ⟨rfl, rfl⟩
theorem intsD_map : ∀ l : List Int, intsD (l.map .int) = some l
  | [] => rfl
  | x :: r => by show (intsD (r.map .int)).map (x :: ·) = _; rw [intsD_map r]; rfl
theorem sum_tup (l : List Int) : bltD .sum [.tup (l.map .int)] = some (.v (.int l.sum)) := by
  show ((itemsD (.tup (l.map .int))).bind intsD).map (fun ns => R.v (.int ns.sum)) = _
  show (intsD (l.map .int)).map (fun ns => R.v (.int ns.sum)) = _
  rw [intsD_map]
  rfl
theorem costs_ok (n : Nat) {cs : List (List Int)} {ws : List (List (List Nat))} {ch : List Nat} (O : Ok cs ws) (C : ChOk ws ch) : phi Gm tab (n + 5) 24 [(false, strD cs ws), (false, oD ch)] = some (.v (.tup ((paid cs ws ch).map .int)), []) := of_ex (by
  refine phi_ex q24.1 rfl ?_
  show wB Gm (phi Gm tab (n + 4)) [] F_costs_of.body [some (false, strD cs ws), some (false, oD ch)] _
  dsimp only [F_costs_of]
  array_get_dec
  refine call_by q16.2 rfl rfl (check_ok n O C) rfl ?_
  array_get_dec
  refine call_by q18.2 rfl rfl (raw_ok (n + 2) O C) rfl ?_
  array_get_dec
  exact ⟨rfl, rfl⟩)
def hF : Itm → Option D := fun it => match it with | .two (.tup l) (.int i) => (intsD l).map fun ns => .int (ns.take i.toNat).sum | _ => none
theorem hF_fm : ∀ (cs : List (List Int)) (cr : List Nat), (List.zipWith Itm.two (cs.map rowI) (cr.map nD)).filterMap hF = (List.zipWith (fun r c => ((r.take c).sum : Int)) cs cr).map D.int
  | [], _ => by simp
  | r :: t, [] => by simp
  | r :: t, c :: u => by
    rw [List.map_cons, List.map_cons, List.zipWith_cons_cons, List.zipWith_cons_cons, List.map_cons, ← hF_fm t u]
    refine List.filterMap_cons_some ?_
    show (intsD (r.map D.int)).map _ = _
    rw [intsD_map]
    rfl
theorem zw_height {cs : List (List Int)} {cr : List Nat} (h : cr.length = cs.length) : List.zipWith (fun r c => ((r.take c).sum : Int)) cs cr = (List.range cs.length).map fun s => stH cs s (cr.getD s 0) := by
  refine List.ext_getElem (by simp [h]) fun i h1 h2 => ?_
  have hi : i < cs.length := by simpa using h2
  rw [List.getElem_zipWith, List.getElem_map, List.getElem_range]
  unfold stH
  rw [List.getD_eq_getElem?_getD, List.getD_eq_getElem?_getD, List.getElem?_eq_getElem hi, List.getElem?_eq_getElem (by omega)]
  rfl
theorem height_ok (n : Nat) {cs : List (List Int)} {ws : List (List (List Nat))} {ch : List Nat} (O : Ok cs ws) (C : ChOk ws ch) : phi Gm tab (n + 5) 25 [(false, strD cs ws), (false, oD ch)] = some (.v (.int (height cs (crowds cs.length ws ch))), []) := of_ex (by
  refine phi_ex q25.1 rfl ?_
  show wB Gm (phi Gm tab (n + 4)) [] F_height_of.body [some (false, strD cs ws), some (false, oD ch), none, none] _
  dsimp only [F_height_of]
  array_get_dec
  refine call_by q16.2 rfl rfl (check_ok n O C) rfl ?_
  array_get_dec
  refine w_compP rfl ?_
  array_get_dec
  obtain ⟨r, o, e, rfl, rfl⟩ := counts_ok (n + 3) O C
  refine call_by q17.2 rfl rfl e rfl ?_
  array_get_dec
  refine ⟨_, _, _, _, _, rfl, rfl, rfl, ?_⟩
  refine ⟨hF, fun x hx => ?_, ?_⟩
  · obtain ⟨i, hi⟩ := List.getElem?_of_mem hx
    obtain ⟨r, c, rfl⟩ : ∃ (r : List Int) (c : Nat), x = .two (rowI r) (nD c) := by
      rw [List.getElem?_zipWith, List.getElem?_map, List.getElem?_map] at hi
      cases q : cs[i]? with
      | none => rw [q] at hi; simp at hi
      | some r =>
        cases q2 : (crowds cs.length ws ch)[i]? with
        | none => rw [q, q2] at hi; simp at hi
        | some c => rw [q, q2] at hi; exact ⟨r, c, (Option.some.inj hi).symm⟩
    refine ⟨_, rfl, ?_⟩
    array_get_dec
    refine ⟨_, _, rfl, (by rw [cut_to (k := c), ← List.map_take]; exact sum_tup _), ?_⟩
    array_get_dec
    refine ⟨_, _, rfl, ?_, rfl⟩
    show (intsD (r.map D.int)).map _ = _
    rw [intsD_map]
    rfl
  · rw [hF_fm, zw_height (crowds_len _ _ _)]
    array_get_dec
    refine ⟨_, _, rfl, sum_ints _, ?_⟩
    array_get_dec
    exact ⟨rfl, rfl⟩)
end K83

/-! K83q -/
set_option Elab.async false
set_option linter.all false
set_option maxRecDepth 100000
set_option maxHeartbeats 4000000
namespace K83
open PySem Mi
open Bal (nD oD toN toN_nD least min_int of_ex fm_range fm_filter get_nD sum_ints getD_nD)
/-! all choices -/
theorem q27 : Bal.Has Gm tab 27 F_all_tuples := ⟨rfl, rfl⟩
theorem q28 : Bal.Has Gm tab 28 F_all_choices := ⟨rfl, rfl⟩
theorem q29 : Bal.Has Gm tab 29 F_all_settled := ⟨rfl, rfl⟩
theorem q33 : Bal.Has Gm tab 33 F__law_products := ⟨rfl, rfl⟩
def grow (k : Nat) (rows : List (List Nat)) : List (List Nat) := rows.flatMap fun r => (List.range k).map fun i => r ++ [i]
def prodN (sizes : List Nat) : List (List Nat) := sizes.foldl (fun rows k => grow k rows) [[]]
theorem grow_len (k : Nat) : ∀ rows : List (List Nat), (grow k rows).length = rows.length * k
  | [] => by simp [grow]
  | r :: t => by
    have := grow_len k t
    unfold grow at this ⊢
    rw [List.flatMap_cons, List.length_append, this, List.length_map, List.length_range, List.length_cons, Nat.succ_mul, Nat.add_comm]
theorem prod_take {sizes : List Nat} {i k : Nat} (h : sizes[i]? = some k) : prodN (sizes.take (i + 1)) = grow k (prodN (sizes.take i)) := by
  unfold prodN
  rw [List.take_add_one, h, List.foldl_append]
  rfl
structure SzOk (sizes : List Nat) : Prop where
  len : sizes.length ≤ 4
  le : ∀ k ∈ sizes, k ≤ 4
theorem prod_len {sizes : List Nat} (h : SzOk sizes) : ∀ i, (prodN (sizes.take i)).length ≤ 4 ^ (min i sizes.length)
  | 0 => by simp [prodN]
  | i + 1 => by
    by_cases hi : i < sizes.length
    · have e : sizes[i]? = some sizes[i] := List.getElem?_eq_getElem hi
      have := h.le _ (List.getElem_mem hi)
      rw [prod_take e, grow_len]
      have ih := prod_len h i
      rw [Nat.min_eq_left (by omega)] at ih ⊢
      rw [Nat.pow_succ]
      exact Nat.mul_le_mul ih this
    · have ih := prod_len h i
      rw [List.take_of_length_le (by omega)] at ih ⊢
      rw [Nat.min_eq_right (by omega)] at ih ⊢
      exact ih
theorem prod_256 {sizes : List Nat} (h : SzOk sizes) (i : Nat) : (prodN (sizes.take i)).length ≤ 256 := by
  refine Nat.le_trans (prod_len h i) (Nat.le_trans (Nat.pow_le_pow_right (by decide) (Nat.le_trans (Nat.min_le_right _ _) h.len)) (by decide))
def rowOf : D → List Nat
  | .tup l => l.map toN
  | _ => []
theorem rowOf_oD (r : List Nat) : rowOf (oD r) = r := toN_nD r
theorem oD_snoc (r : List Nat) (i : Nat) : D.tup (r.map nD ++ [nD i]) = oD (r ++ [i]) := by
  show _ = D.tup ((r ++ [i]).map nD)
  rw [List.map_append]
  rfl
theorem tuples_ok (n : Nat) {sizes : List Nat} (S : SzOk sizes) (hr : ∀ r ∈ prodN sizes, r.length ≤ 4) : phi Gm tab (n + 1) 27 [(false, .lst (sizes.map nD))] = some (.v (.lst ((prodN sizes).map oD)), []) := of_ex (by
  refine phi_ex q27.1 rfl ?_
  show wB Gm (phi Gm tab n) [] F_all_tuples.body [some (false, .lst (sizes.map nD)), none, none, none, none] _
  dsimp only [F_all_tuples]
  array_get_dec
  refine w_for rfl ?_
  array_get_dec
  refine ⟨fun i ρ => ∃ x2 x3 x4, ρ = [some (false, .lst (sizes.map nD)), some (false, .lst ((prodN (sizes.take i)).map oD)), x2, x3, x4] ∧ ∀ r ∈ prodN (sizes.take i), r.length ≤ i, ⟨none, none, none, rfl, by simp [prodN]⟩, ?_, ?_⟩
  · rintro i x _ hx ⟨x2, x3, x4, rfl, hl⟩
    obtain ⟨k, hk, rfl⟩ := get_nD hx
    have hk4 := S.le k (List.mem_of_getElem? hk)
    have hi : i < sizes.length := (List.getElem?_eq_some_iff.mp hk).1
    have hi4 : i < 4 := Nat.lt_of_lt_of_le hi S.len
    have hlen : (grow k (prodN (sizes.take i))).length ≤ 256 := by rw [← prod_take hk]; exact prod_256 S _
    have hl2 : ∀ r ∈ grow k (prodN (sizes.take i)), r.length ≤ i + 1 := fun r hr => by
      unfold grow at hr
      obtain ⟨a, ha, hr⟩ := List.mem_flatMap.mp hr
      obtain ⟨j, _, rfl⟩ := List.mem_map.mp hr
      rw [List.length_append]
      have := hl a ha
      show _ + 1 ≤ _
      omega
    dsimp only
    rw [prod_take hk]
    generalize prodN (sizes.take i) = rows at hl hlen hl2 ⊢
    refine ⟨_, rfl, ?_⟩
    array_get_dec
    refine w_comp2P rfl ?_
    array_get_dec
    have eF : (((rows.map oD).map Itm.one).flatMap fun x => (((List.range k).map fun (i : Nat) => D.int (i : Int)).map Itm.one).filterMap fun y => match x, y with | .one a, .one (.int j) => some (oD (rowOf a ++ [j.toNat])) | _, _ => none) = (grow k rows).map oD := by
      unfold grow
      rw [List.map_flatMap, List.flatMap_map, List.flatMap_map]
      refine congrArg (fun f => rows.flatMap f) (funext fun r => ?_)
      show ((((List.range k).map fun (i : Nat) => D.int (i : Int)).map Itm.one).filterMap fun y => match (Itm.one (oD r)), y with | .one a, .one (.int j) => some (oD (rowOf a ++ [j.toNat])) | _, _ => none) = ((List.range k).map fun i => r ++ [i]).map oD
      rw [List.map_map, List.map_map]
      exact fm_all fun j hj => by
        show some (oD (rowOf (oD r) ++ [((j : Nat) : Int).toNat])) = some (oD (r ++ [j]))
        rw [rowOf_oD]; rfl
    refine ⟨fun _ => ((List.range k).map fun (i : Nat) => D.int (i : Int)).map Itm.one, fun x y => match x, y with | .one a, .one (.int j) => some (oD (rowOf a ++ [j.toNat])) | _, _ => none, fun x hx => ?_, ?_, ?_⟩
    · obtain ⟨d, hd, rfl⟩ := List.mem_map.mp hx
      obtain ⟨r, hr, rfl⟩ := List.mem_map.mp hd
      have hrl := hl r hr
      refine ⟨_, rfl, ?_⟩
      array_get_dec
      refine ⟨k, _, rfl, range_ok (by omega), rfl, rfl, fun y hy => ?_⟩
      obtain ⟨d, hd, rfl⟩ := List.mem_map.mp hy
      obtain ⟨j, hj, rfl⟩ := List.mem_map.mp hd
      refine ⟨_, rfl, ?_⟩
      array_get_dec
      refine ⟨_, _, _, rfl, rfl, b_catT (Nat.le_trans (by rw [List.length_map]; show _ + 1 ≤ 20; omega) (by decide : 20 ≤ Mi.line)), ?_⟩
      array_get_dec
      refine ⟨_, _, rfl, ?_, rfl⟩
      show some (oD (rowOf (oD r) ++ [j])) = some (D.tup (r.map nD ++ [nD j]))
      rw [rowOf_oD, oD_snoc]
    · rw [eF, List.length_map]
      exact Nat.le_trans hlen (by decide)
    · rw [eF]
      array_get_dec
      exact ⟨rfl, _, _, _, rfl, hl2⟩
  · rintro _ ⟨x2, x3, x4, rfl, hl⟩
    rw [List.length_map, List.length_map, List.take_length]
    array_get_dec
    exact ⟨rfl, rfl⟩)
end K83

/-! K83r -/
set_option Elab.async false
set_option linter.all false
set_option maxRecDepth 100000
set_option maxHeartbeats 4000000
namespace K83
open PySem Mi
open Bal (nD oD toN toN_nD least min_int of_ex fm_range fm_filter get_nD sum_ints getD_nD)
theorem grow_take {k : Nat} {rows : List (List Nat)} {j : Nat} {r : List Nat} (h : rows[j]? = some r) : grow k (rows.take (j + 1)) = grow k (rows.take j) ++ (List.range k).map fun i => r ++ [i] := by
  unfold grow
  rw [List.take_add_one, h, List.flatMap_append]
  simp
theorem oD_get {rows : List (List Nat)} {j : Nat} {x : Itm} (h : ((rows.map oD).map Itm.one)[j]? = some x) : ∃ r, rows[j]? = some r ∧ x = .one (oD r) := by
  rw [List.getElem?_map, List.getElem?_map] at h
  cases q : rows[j]? with
  | none => rw [q] at h; simp at h
  | some r => rw [q] at h; exact ⟨r, rfl, (Option.some.inj h).symm⟩
theorem m_ext {l m : List D} (h : l.length + m.length ≤ Mi.line) : mutD .extend l [.lst m] = some (l ++ m, .non) := by
  show (if l.length + m.length ≤ Mi.line then _ else _) = _
  rw [if_pos h]
theorem products_ok (n : Nat) {sizes : List Nat} (S : SzOk sizes) : phi Gm tab (n + 1) 33 [(false, .lst (sizes.map nD))] = some (.v (.lst ((prodN sizes).map oD)), []) := of_ex (by
  refine phi_ex q33.1 rfl ?_
  show wB Gm (phi Gm tab n) [] F__law_products.body [some (false, .lst (sizes.map nD)), none, none, none, none, none] _
  dsimp only [F__law_products]
  array_get_dec
  refine w_for rfl ?_
  array_get_dec
  refine ⟨fun i ρ => ∃ x2 x3 x4 x5, ρ = [some (false, .lst (sizes.map nD)), some (false, .lst ((prodN (sizes.take i)).map oD)), x2, x3, x4, x5] ∧ ∀ r ∈ prodN (sizes.take i), r.length ≤ i, ⟨none, none, none, none, rfl, by simp [prodN]⟩, ?_, ?_⟩
  · rintro i x _ hx ⟨x2, x3, x4, x5, rfl, hl⟩
    obtain ⟨k, hk, rfl⟩ := get_nD hx
    have hk4 := S.le k (List.mem_of_getElem? hk)
    have hi : i < sizes.length := (List.getElem?_eq_some_iff.mp hk).1
    have hi4 : i < 4 := Nat.lt_of_lt_of_le hi S.len
    have hr256 : (prodN (sizes.take i)).length ≤ 256 := prod_256 S _
    have hl2 : ∀ r ∈ grow k (prodN (sizes.take i)), r.length ≤ i + 1 := fun r hr => by
      unfold grow at hr
      obtain ⟨a, ha, hr⟩ := List.mem_flatMap.mp hr
      obtain ⟨j, _, rfl⟩ := List.mem_map.mp hr
      rw [List.length_append]
      have := hl a ha
      show _ + 1 ≤ _
      omega
    dsimp only
    rw [prod_take hk]
    generalize prodN (sizes.take i) = rows at hl hr256 hl2 ⊢
    refine ⟨_, rfl, ?_⟩
    array_get_dec
    refine ⟨Nat.le_of_ble_eq_true rfl, ?_⟩
    array_get_dec
    refine w_for rfl ?_
    array_get_dec
    refine ⟨fun j ρ => ∃ x4 x5, ρ = [some (false, .lst (sizes.map nD)), some (false, .lst (rows.map oD)), some (false, nD k), some (true, .lst ((grow k (rows.take j)).map oD)), x4, x5], ⟨x4, x5, rfl⟩, ?_, ?_⟩
    · rintro j x _ hx ⟨x4, x5, rfl⟩
      obtain ⟨r, hr, rfl⟩ := oD_get hx
      have hrl := hl r (List.mem_of_getElem? hr)
      have hgl : (grow k (rows.take j)).length ≤ 1024 := by
        rw [grow_len, List.length_take]
        have : min j rows.length * k ≤ 256 * 4 := Nat.mul_le_mul (by omega) hk4
        omega
      dsimp only
      rw [grow_take hr]
      generalize grow k (rows.take j) = acc at hgl ⊢
      refine ⟨_, rfl, ?_⟩
      array_get_dec
      refine w_compP rfl ?_
      array_get_dec
      refine ⟨k, _, rfl, range_ok (by omega), ?_⟩
      refine ⟨fun y => match y with | .one (.int j) => some (oD (r ++ [j.toNat])) | _ => none, fun y hy => ?_, ?_⟩
      · obtain ⟨d, hd, rfl⟩ := List.mem_map.mp hy
        obtain ⟨q, hq, rfl⟩ := List.mem_map.mp hd
        refine ⟨_, rfl, ?_⟩
        array_get_dec
        refine ⟨_, _, _, rfl, rfl, b_catT (Nat.le_trans (by rw [List.length_map]; show _ + 1 ≤ 20; omega) (by decide : 20 ≤ Mi.line)), ?_⟩
        array_get_dec
        refine ⟨_, _, rfl, ?_, rfl⟩
        show some (oD (r ++ [q])) = some (D.tup (r.map nD ++ [nD q]))
        rw [oD_snoc]
      · rw [fm_range (g := fun q => oD (r ++ [q])) fun q hq => rfl]
        array_get_dec
        refine ⟨_, _, _, _, rfl, rfl, m_ext (by rw [List.length_map, List.length_map, List.length_range]; exact Nat.le_trans (by omega : _ ≤ 2000) (by decide)), ?_⟩
        array_get_dec
        exact ⟨rfl, _, _, by rw [List.map_append, List.map_map]; rfl⟩
    · rintro _ ⟨x4, x5, rfl⟩
      rw [List.length_map, List.length_map, List.take_length]
      array_get_dec
      exact ⟨rfl, _, _, _, _, rfl, hl2⟩
  · rintro _ ⟨x2, x3, x4, x5, rfl, hl⟩
    rw [List.length_map, List.length_map, List.take_length]
    array_get_dec
    exact ⟨rfl, rfl⟩)
theorem prod_mem {sizes : List Nat} : ∀ i, i ≤ sizes.length → ∀ r : List Nat, r ∈ prodN (sizes.take i) ↔ (r.length = i ∧ ∀ j c k : Nat, r[j]? = some c → sizes[j]? = some k → c < k)
  | 0, _, r => by
    show r ∈ [[]] ↔ _
    rw [List.mem_singleton]
    constructor
    · rintro rfl; exact ⟨rfl, fun j c k h => by simp at h⟩
    · exact fun h => List.length_eq_zero_iff.mp h.1
  | i + 1, hi, r => by
    have hi' : i < sizes.length := hi
    have e : sizes[i]? = some sizes[i] := List.getElem?_eq_getElem hi'
    have ih := prod_mem (sizes := sizes) i (by omega)
    rw [prod_take e]
    unfold grow
    rw [List.mem_flatMap]
    constructor
    · rintro ⟨a, ha, hr⟩
      obtain ⟨q, hq, rfl⟩ := List.mem_map.mp hr
      have hq := List.mem_range.mp hq
      obtain ⟨h1, h2⟩ := (ih a).mp ha
      refine ⟨by rw [List.length_append, h1]; rfl, fun j c k hj hk => ?_⟩
      by_cases hji : j < a.length
      · rw [List.getElem?_append_left hji] at hj
        exact h2 j c k hj hk
      · have hje : j = i := by
          have := (List.getElem?_eq_some_iff.mp hj).1
          rw [List.length_append] at this
          have : j < a.length + 1 := this
          omega
        subst hje
        rw [List.getElem?_append_right (by omega), h1, Nat.sub_self] at hj
        cases hj
        rw [e] at hk
        cases hk
        exact hq
    · rintro ⟨h1, h2⟩
      have hl : i < r.length := by omega
      refine ⟨r.take i, (ih _).mpr ⟨by rw [List.length_take]; omega, fun j c k hj hk => h2 j c k (by
        rw [List.getElem?_take] at hj
        split at hj
        · exact hj
        · cases hj) hk⟩, List.mem_map.mpr ⟨r[i], List.mem_range.mpr (h2 i _ _ (List.getElem?_eq_getElem hl) e), ?_⟩⟩
      have e1 : r.take (i + 1) = r := List.take_of_length_le (by omega)
      have e2 : r.take (i + 1) = r.take i ++ [r[i]] := by rw [List.take_add_one, List.getElem?_eq_getElem hl]; rfl
      exact e2.symm.trans e1
end K83

/-! K83s -/
set_option Elab.async false
set_option linter.all false
set_option maxRecDepth 100000
set_option maxHeartbeats 4000000
namespace K83
open PySem Mi
open Bal (nD oD toN toN_nD least min_int of_ex fm_range fm_filter get_nD sum_ints getD_nD)
def szs (ws : List (List (List Nat))) : List Nat := ws.map List.length
theorem szs_ok {cs : List (List Int)} {ws : List (List (List Nat))} (O : Ok cs ws) : SzOk (szs ws) :=
  ⟨by unfold szs; rw [List.length_map]; exact O.w4, fun k hk => by obtain ⟨r, hr, rfl⟩ := List.mem_map.mp hk; exact O.way4 r hr⟩
theorem szs_get {ws : List (List (List Nat))} {i k : Nat} (h : (szs ws)[i]? = some k) : ∃ row, ws[i]? = some row ∧ row.length = k := by
  unfold szs at h
  rw [List.getElem?_map] at h
  cases q : ws[i]? with
  | none => rw [q] at h; cases h
  | some row => rw [q] at h; exact ⟨row, rfl, Option.some.inj h⟩
theorem mem_choices {ws : List (List (List Nat))} {ch : List Nat} : ch ∈ prodN (szs ws) ↔ ChOk ws ch := by
  have h := prod_mem (sizes := szs ws) (szs ws).length (Nat.le_refl _) ch
  rw [List.take_length] at h
  have el : (szs ws).length = ws.length := List.length_map _
  rw [h, el]
  constructor
  · rintro ⟨h1, h2⟩
    exact ⟨h1, fun i c row hc hr => h2 i c _ hc (by unfold szs; rw [List.getElem?_map, hr]; rfl)⟩
  · intro C
    refine ⟨C.len, fun j c k hc hk => ?_⟩
    obtain ⟨row, hr, rfl⟩ := szs_get hk
    exact C.lt j c row hc hr
def lenF : Itm → Option D := fun it => match it with | .one (.tup l) => some (D.int (l.length : Nat)) | _ => none
theorem sizes_fm (ws : List (List (List Nat))) : ((ws.map wayRow).map Itm.one).filterMap lenF = (szs ws).map nD := by
  unfold szs
  rw [List.map_map, List.map_map]
  exact fm_all fun r _ => by
    show some (D.int ((r.map oD).length : Nat)) = some (nD r.length)
    rw [List.length_map]
theorem choices_ok (n : Nat) {cs : List (List Int)} {ws : List (List (List Nat))} (O : Ok cs ws) : phi Gm tab (n + 2) 28 [(false, strD cs ws)] = some (.v (.lst ((prodN (szs ws)).map oD)), []) := of_ex (by
  refine phi_ex q28.1 rfl ?_
  show wB Gm (phi Gm tab (n + 1)) [] F_all_choices.body [some (false, strD cs ws), none] _
  dsimp only [F_all_choices]
  array_get_dec
  refine w_compP rfl ?_
  array_get_dec
  refine ⟨lenF, fun x hx => ?_, ?_⟩
  · obtain ⟨d, hd, rfl⟩ := List.mem_map.mp hx
    obtain ⟨r, hr, rfl⟩ := List.mem_map.mp hd
    refine ⟨_, rfl, ?_⟩
    array_get_dec
    rfl
  · rw [sizes_fm]
    array_get_dec
    refine call_by q27.2 rfl rfl (tuples_ok n (szs_ok O) fun r hr => ?_) rfl ?_
    · have := (mem_choices.mp hr).len
      have := O.w4
      omega
    · array_get_dec
      exact ⟨rfl, rfl⟩)
def setAll (cs : List (List Int)) (ws : List (List (List Nat))) : List (List Nat) := (prodN (szs ws)).filter (settled cs ws)
theorem settledall_ok (n : Nat) {cs : List (List Int)} {ws : List (List (List Nat))} (O : Ok cs ws) : ∃ r o, phi Gm tab (n + 5) 29 [(false, strD cs ws)] = some (r, o) ∧ r = .o (.lst ((setAll cs ws).map oD)) ∧ o = [] := by
  refine phi_ex q29.1 rfl ?_
  show wB Gm (phi Gm tab (n + 4)) [] F_all_settled.body [some (false, strD cs ws), none] _
  dsimp only [F_all_settled]
  array_get_dec
  refine w_compP rfl ?_
  array_get_dec
  refine call_by q28.2 rfl rfl (choices_ok (n + 2) O) rfl ?_
  array_get_dec
  refine ⟨fun it => match it with | .one (.tup l) => if settled cs ws (l.map toN) then some (.tup l) else none | _ => none, fun x hx => ?_, ?_⟩
  · obtain ⟨d, hd, rfl⟩ := List.mem_map.mp hx
    obtain ⟨ch, hc, rfl⟩ := List.mem_map.mp hd
    have C := mem_choices.mp hc
    refine ⟨_, rfl, ?_⟩
    array_get_dec
    refine call_by q21.2 rfl rfl (settled_ok n O C) rfl ?_
    array_get_dec
    refine ⟨fun h => ?_, fun h => ?_⟩
    · array_get_dec
      refine ⟨_, _, rfl, ?_, rfl⟩
      show (if settled cs ws ((ch.map nD).map toN) then some (oD ch) else none) = _
      rw [toN_nD, if_pos h]
    · refine ⟨?_, rfl⟩
      show (if settled cs ws ((ch.map nD).map toN) then some (oD ch) else none) = _
      rw [toN_nD, if_neg (by rw [h]; decide)]
  · have e : (((prodN (szs ws)).map oD).map Itm.one).filterMap (fun it => match it with | .one (.tup l) => if settled cs ws (l.map toN) then some (D.tup l) else none | _ => none) = (setAll cs ws).map oD := by
      unfold setAll
      rw [List.map_map]
      exact fm_filter fun ch hc => by
        show (if settled cs ws ((ch.map nD).map toN) then some (oD ch) else none) = _
        rw [toN_nD]
    rw [e]
    array_get_dec
    exact ⟨rfl, rfl⟩
/-- the walk's end is settled, each step is a better way -/
theorem walk_end {cs : List (List Int)} {ws : List (List (List Nat))} (O : Ok cs ws) : ∀ f {ch : List Nat}, ChOk ws ch → hgt cs ws ch ≤ f → ∃ acc c, walkP cs ws f ch = acc ++ [c] ∧ ChOk ws c ∧ unsettled cs ws c = []
  | 0, ch, C, h => by
    refine ⟨[], ch, rfl, C, ?_⟩
    cases q : unsettled cs ws ch with
    | nil => rfl
    | cons w r =>
      have hwm : w ∈ unsettled cs ws ch := by rw [q]; exact List.mem_cons_self
      obtain ⟨hw1, hw2⟩ := List.mem_filter.mp hwm
      have hw := List.mem_range.mp hw1
      have hf := height_falls O C hw (by simpa using hw2)
      have h1 := height_bd O (crowds cs.length ws (ch.set w (bestW cs ws ch w)))
      unfold hgt at h
      omega
  | f + 1, ch, C, h => by
    unfold walkP
    cases q : unsettled cs ws ch with
    | nil => exact ⟨[], ch, rfl, C, q⟩
    | cons w r =>
      have hwm : w ∈ unsettled cs ws ch := by rw [q]; exact List.mem_cons_self
      obtain ⟨hw1, hw2⟩ := List.mem_filter.mp hwm
      have hw := List.mem_range.mp hw1
      have hf := height_falls O C hw (by simpa using hw2)
      have h1 := height_bd O (crowds cs.length ws (ch.set w (bestW cs ws ch w)))
      have C2 := set_ok C (row_get O C hw) (best_lt O C hw)
      obtain ⟨acc, c, e, Cc, u⟩ := walk_end O f C2 (by unfold hgt at h ⊢; omega)
      exact ⟨ch :: acc, c, by dsimp only; rw [e]; rfl, Cc, u⟩
theorem walk_step {cs : List (List Int)} {ws : List (List (List Nat))} (O : Ok cs ws) : ∀ f {ch : List Nat}, ChOk ws ch → ∀ i a b, (walkP cs ws f ch)[i]? = some a → (walkP cs ws f ch)[i + 1]? = some b → ChOk ws a ∧ ∃ w, w < ws.length ∧ bestW cs ws a w ≠ a.getD w 0 ∧ b = a.set w (bestW cs ws a w)
  | 0, ch, C, i, a, b, h1, h2 => by
    unfold walkP at h2
    simp at h2
  | f + 1, ch, C, i, a, b, h1, h2 => by
    unfold walkP at h1 h2
    cases q : unsettled cs ws ch with
    | nil => rw [q] at h2; simp at h2
    | cons w r =>
      rw [q] at h1 h2
      dsimp only at h1 h2
      have hwm : w ∈ unsettled cs ws ch := by rw [q]; exact List.mem_cons_self
      obtain ⟨hw1, hw2⟩ := List.mem_filter.mp hwm
      have hw := List.mem_range.mp hw1
      have C2 := set_ok C (row_get O C hw) (best_lt O C hw)
      cases i with
      | zero =>
        cases h1
        refine ⟨C, w, hw, by simpa using hw2, ?_⟩
        rw [List.getElem?_cons_succ] at h2
        cases f with
        | zero => exact (Option.some.inj h2).symm
        | succ f =>
          unfold walkP at h2
          cases q2 : unsettled cs ws (ch.set w (bestW cs ws ch w)) with
          | nil => rw [q2] at h2; exact (Option.some.inj h2).symm
          | cons w2 r2 => rw [q2] at h2; exact (Option.some.inj h2).symm
      | succ i =>
        rw [List.getElem?_cons_succ] at h1 h2
        exact walk_step O f C2 i a b h1 h2
theorem walk_head {cs : List (List Int)} {ws : List (List (List Nat))} (f : Nat) (ch : List Nat) : ∃ r, walkP cs ws f ch = ch :: r := by
  cases f with
  | zero => exact ⟨[], rfl⟩
  | succ f =>
    unfold walkP
    cases q : unsettled cs ws ch with
    | nil => exact ⟨[], rfl⟩
    | cons w r => exact ⟨_, rfl⟩
theorem walk_one {cs : List (List Int)} {ws : List (List (List Nat))} {ch : List Nat} (h : unsettled cs ws ch = []) (f : Nat) : walkP cs ws f ch = [ch] := by
  cases f with
  | zero => rfl
  | succ f => unfold walkP; rw [h]
theorem zeros_ok {cs : List (List Int)} {ws : List (List (List Nat))} (O : Ok cs ws) : ChOk ws (List.replicate ws.length 0) :=
  ⟨List.length_replicate, fun i c row hc hr => by
    have h0 := List.eq_of_mem_replicate (List.mem_of_getElem? hc)
    have := O.way1 row (List.mem_of_getElem? hr)
    omega⟩
theorem setAll_ne {cs : List (List Int)} {ws : List (List (List Nat))} (O : Ok cs ws) : setAll cs ws ≠ [] := by
  obtain ⟨acc, c, _, C, u⟩ := walk_end O _ (zeros_ok O) (Nat.le_refl _)
  have : c ∈ setAll cs ws := List.mem_filter.mpr ⟨mem_choices.mpr C, settled_iff.mpr u⟩
  exact List.ne_nil_of_mem this
end K83

/-! K83t -/
set_option Elab.async false
set_option linter.all false
set_option maxRecDepth 100000
set_option maxHeartbeats 4000000
namespace K83
open PySem Mi
open Bal (nD oD toN toN_nD least min_int of_ex fm_range fm_filter get_nD sum_ints getD_nD)
theorem q30 : Bal.Has Gm tab 30 F_divisor_of := ⟨rfl, rfl⟩
theorem q31 : Bal.Has Gm tab 31 F_lowest := ⟨rfl, rfl⟩
theorem q32 : Bal.Has Gm tab 32 F_worst_by := ⟨rfl, rfl⟩
theorem q34 : Bal.Has Gm tab 34 F__law_gcd := ⟨rfl, rfl⟩
theorem q35 : Bal.Has Gm tab 35 F__law_share := ⟨rfl, rfl⟩
theorem q36 : Bal.Has Gm tab 36 F__law_worst := ⟨rfl, rfl⟩
theorem gcd_step (a b : Nat) : Nat.gcd b (a % b) = Nat.gcd a b := by
  rw [Nat.gcd_comm a b, Nat.gcd_rec b a, Nat.gcd_comm b]
theorem divisor_ok (n : Nat) (a0 b0 : Nat) : phi Gm tab (n + 1) 30 [(false, nD a0), (false, nD b0)] = some (.v (nD (Nat.gcd a0 b0)), []) := of_ex (by
  refine phi_ex q30.1 rfl ?_
  show wB Gm (phi Gm tab n) [] F_divisor_of.body [some (false, nD a0), some (false, nD b0)] _
  dsimp only [F_divisor_of]
  array_get_dec
  refine w_whil rfl (fun M ρ => ∃ a : Nat, ρ = [some (false, nD a), some (false, nD M)] ∧ Nat.gcd a M = Nat.gcd a0 b0) b0 ⟨a0, rfl, rfl⟩ ?_
  rintro M _ ⟨a, rfl, h⟩
  array_get_dec
  refine ⟨fun hc => ?_, fun hc => ?_⟩
  · have hM : M = 0 := by have := of_decide_eq_false hc; omega
    subst hM
    array_get_dec
    rw [Nat.gcd_zero_right] at h
    exact ⟨by rw [h], rfl⟩
  · have hM : 0 < M := by have := of_decide_eq_true hc; omega
    array_get_dec
    refine ⟨_, _, _, rfl, rfl, b_mod (by omega), ?_⟩
    array_get_dec
    exact ⟨a % M, Nat.mod_lt _ hM, M, rfl, by rw [gcd_step]; exact h⟩)
theorem lgcd_ok (n : Nat) (a0 b0 : Nat) : phi Gm tab (n + 1) 34 [(false, nD a0), (false, nD b0)] = some (.v (nD (Nat.gcd a0 b0)), []) := of_ex (by
  refine phi_ex q34.1 rfl ?_
  show wB Gm (phi Gm tab n) [] F__law_gcd.body [some (false, nD a0), some (false, nD b0)] _
  dsimp only [F__law_gcd]
  array_get_dec
  refine w_whil rfl (fun M ρ => ∃ a : Nat, ρ = [some (false, nD a), some (false, nD M)] ∧ Nat.gcd a M = Nat.gcd a0 b0) b0 ⟨a0, rfl, rfl⟩ ?_
  rintro M _ ⟨a, rfl, h⟩
  array_get_dec
  refine ⟨fun hc => ?_, fun hc => ?_⟩
  · have hM : M = 0 := by simpa using hc
    subst hM
    array_get_dec
    rw [Nat.gcd_zero_right] at h
    refine ⟨?_, rfl⟩
    rw [← h, if_neg (by omega)]
  · have hM : 0 < M := by
      have : ¬ (M : Int) = 0 := by simpa using hc
      omega
    array_get_dec
    refine ⟨_, _, _, rfl, rfl, b_mod (by omega), ?_⟩
    array_get_dec
    exact ⟨a % M, Nat.mod_lt _ hM, M, rfl, by rw [gcd_step]; exact h⟩)
def shareD (a b : Nat) : D := .tup [nD (a / Nat.gcd a b), nD (b / Nat.gcd a b)]
theorem lowest_ok (n : Nat) {a b : Nat} (hb : 0 < b) (hb2 : b < 1000000) : phi Gm tab (n + 2) 31 [(false, nD a), (false, nD b)] = some (.v (shareD a b), []) := of_ex (by
  have hg : 0 < Nat.gcd a b := Nat.gcd_pos_of_pos_right _ hb
  have hg2 : Nat.gcd a b ≤ b := Nat.gcd_le_right _ hb
  refine phi_ex q31.1 rfl ?_
  show wB Gm (phi Gm tab (n + 1)) [] F_lowest.body [some (false, nD a), some (false, nD b), none] _
  dsimp only [F_lowest]
  array_get_dec
  refine call_by q30.2 rfl rfl (divisor_ok n a b) rfl ?_
  array_get_dec
  refine ⟨_, _, _, rfl, rfl, b_fdiv (by omega) (by omega), ?_⟩
  array_get_dec
  refine ⟨_, _, _, rfl, rfl, b_fdiv (by omega) (by omega), ?_⟩
  array_get_dec
  exact ⟨rfl, rfl⟩)
theorem share_ok (n : Nat) {a b : Nat} (hb : 0 < b) (hb2 : b < 1000000) : phi Gm tab (n + 2) 35 [(false, nD a), (false, nD b)] = some (.v (shareD a b), []) := of_ex (by
  have hg : 0 < Nat.gcd a b := Nat.gcd_pos_of_pos_right _ hb
  have hg2 : Nat.gcd a b ≤ b := Nat.gcd_le_right _ hb
  refine phi_ex q35.1 rfl ?_
  show wB Gm (phi Gm tab (n + 1)) [] F__law_share.body [some (false, nD a), some (false, nD b), none] _
  dsimp only [F__law_share]
  array_get_dec
  refine call_by q34.2 rfl rfl (lgcd_ok n a b) rfl ?_
  array_get_dec
  refine ⟨_, _, _, rfl, rfl, b_fdiv (by omega) (by omega), ?_⟩
  array_get_dec
  refine ⟨_, _, _, rfl, rfl, b_fdiv (by omega) (by omega), ?_⟩
  array_get_dec
  exact ⟨rfl, rfl⟩)
def most (c : List Int) : Int := (maxI c).getD 0
theorem max_int {c : List Int} (h : c ≠ []) : bltD .max [.lst (c.map .int)] = some (.v (.int (most c))) ∧ most c ∈ c ∧ ∀ y ∈ c, y ≤ most c := by
  cases c with
  | nil => exact absurd rfl h
  | cons x r =>
    have key : ∀ (l : List Int) (z : Int), (l.foldl (fun a b => if a < b then b else a) z = z ∨ l.foldl (fun a b => if a < b then b else a) z ∈ l) ∧ z ≤ l.foldl (fun a b => if a < b then b else a) z ∧ ∀ y ∈ l, y ≤ l.foldl (fun a b => if a < b then b else a) z := fun l => by
      induction l with
      | nil => exact fun z => ⟨.inl rfl, Int.le_refl _, fun y hy => nomatch hy⟩
      | cons u t ih =>
        intro z
        rw [List.foldl_cons]
        obtain ⟨h1, h2, h3⟩ := ih (if z < u then u else z)
        refine ⟨?_, ?_, fun y hy => ?_⟩
        · rcases h1 with h1 | h1
          · rw [h1]
            split
            · exact .inr List.mem_cons_self
            · exact .inl rfl
          · exact .inr (List.mem_cons_of_mem _ h1)
        · refine Int.le_trans ?_ h2
          split <;> omega
        · rcases List.mem_cons.mp hy with rfl | hy
          · refine Int.le_trans ?_ h2
            split <;> omega
          · exact h3 y hy
    have hm : maxI (x :: r) = some (most (x :: r)) := rfl
    obtain ⟨h1, h2, h3⟩ := key r x
    refine ⟨?_, ?_, fun y hy => ?_⟩
    · show leastD maxI PySem.W.maxD (.lst ((x :: r).map .int)) = _
      unfold leastD
      show (match intsD ((x :: r).map .int) with | some ns => _ | none => _) = _
      rw [intsD_map]
      dsimp only
      rw [hm]
      rfl
    · show r.foldl _ x ∈ x :: r
      rcases h1 with h1 | h1
      · rw [h1]; exact List.mem_cons_self
      · exact List.mem_cons_of_mem _ h1
    · show y ≤ r.foldl _ x
      rcases List.mem_cons.mp hy with rfl | hy
      · exact h2
      · exact h3 y hy
/-! all is small -/
theorem asc_len : ∀ {l : List Nat} {lo K : Nat}, l.Pairwise (· < ·) → (∀ x ∈ l, lo ≤ x ∧ x < K) → l.length ≤ K - lo
  | [], _, _, _, _ => Nat.zero_le _
  | x :: r, lo, K, p, h => by
    obtain ⟨p1, p2⟩ := List.pairwise_cons.mp p
    have hx := h x List.mem_cons_self
    have := asc_len (lo := x + 1) (K := K) p2 fun y hy => ⟨p1 y hy, (h y (List.mem_cons_of_mem _ hy)).2⟩
    rw [List.length_cons]
    omega
theorem cost_bd {cs : List (List Int)} {ws : List (List (List Nat))} (O : Ok cs ws) (cr : List Nat) (s : Nat) : 0 ≤ cost cs cr s ∧ cost cs cr s ≤ 8 := by
  unfold cost
  by_cases hs : s < cs.length
  · have e : cs[s]? = some (cs.getD s []) := by rw [List.getD_eq_getElem?_getD, List.getElem?_eq_getElem hs]; rfl
    have hm := List.mem_of_getElem? e
    by_cases hk : cr.getD s 0 - 1 < (cs.getD s []).length
    · have := O.pos _ hm _ (List.getElem_mem hk)
      rw [List.getD_eq_getElem?_getD (l := cs.getD s []), List.getElem?_eq_getElem hk]
      exact this
    · rw [List.getD_eq_getElem?_getD (l := cs.getD s []), List.getElem?_eq_none (by omega)]
      decide
  · have e : cs.getD s [] = [] := by rw [List.getD_eq_getElem?_getD, List.getElem?_eq_none (by omega)]; rfl
    rw [e]
    simp
theorem sum_bd {c : Int} : ∀ {l : List Int}, (∀ x ∈ l, 0 ≤ x ∧ x ≤ c) → 0 ≤ l.sum ∧ l.sum ≤ c * l.length
  | [], _ => by simp
  | x :: r, h => by
    have i := sum_bd fun y hy => h y (List.mem_cons_of_mem _ hy)
    have := h x List.mem_cons_self
    rw [List.sum_cons, List.length_cons, Int.natCast_succ, Int.mul_add, Int.mul_one]
    omega
theorem paid_bd {cs : List (List Int)} {ws : List (List (List Nat))} {ch : List Nat} (O : Ok cs ws) (C : ChOk ws ch) : (∀ x ∈ paid cs ws ch, 0 ≤ x ∧ x ≤ 40) ∧ 0 ≤ (paid cs ws ch).sum ∧ (paid cs ws ch).sum ≤ 160 := by
  have h1 : ∀ x ∈ paid cs ws ch, 0 ≤ x ∧ x ≤ 40 := fun x hx => by
    unfold paid at hx
    obtain ⟨p, hp, rfl⟩ := List.mem_map.mp hx
    obtain ⟨pa, pb, pc, pd, pe⟩ := pair_ok O C hp
    have ha := (O.asc _ pa _ (List.mem_of_getElem? pc)).2.1
    have hl := asc_len (lo := 0) (K := cs.length) ha fun y hy => ⟨Nat.zero_le _, pe y hy⟩
    have := sum_bd (c := 8) (l := (p.1.getD p.2 []).map (cost cs (crowds cs.length ws ch))) fun y hy => by
      obtain ⟨s, _, rfl⟩ := List.mem_map.mp hy
      exact cost_bd O _ s
    rw [List.length_map] at this
    have c5 := O.c5
    unfold payOf
    omega
  have h2 := sum_bd (c := 40) h1
  have w4 := O.w4
  rw [paid_len C] at h2
  exact ⟨h1, by omega, by omega⟩
end K83

/-! K83u -/
set_option Elab.async false
set_option linter.all false
set_option maxRecDepth 100000
set_option maxHeartbeats 4000000
namespace K83
open PySem Mi
open Bal (nD oD toN toN_nD least min_int of_ex fm_range fm_filter get_nD sum_ints getD_nD all_map)
def sumP (cs : List (List Int)) (ws : List (List (List Nat))) (ch : List Nat) : Int := (paid cs ws ch).sum
def sumsA (cs : List (List Int)) (ws : List (List (List Nat))) : List Int := (setAll cs ws).map (sumP cs ws)
def sumsP (cs : List (List Int)) (ws : List (List (List Nat))) : List Int := (prodN (szs ws)).map (sumP cs ws)
def worstD (cs : List (List Int)) (ws : List (List (List Nat))) : D := if least (sumsP cs ws) = 0 then .non else shareD (most (sumsA cs ws)).toNat (least (sumsP cs ws)).toNat
def sumF (cs : List (List Int)) (ws : List (List (List Nat))) : Itm → Option D := fun it => match it with | .one (.tup l) => some (D.int (sumP cs ws (l.map toN))) | _ => none
def nonB : D → Bool | .non => true | _ => false
def nonF : Itm → Option D := fun it => match it with | .one d => some (.bl (nonB d)) | _ => none
section
variable {cs : List (List Int)} {ws : List (List (List Nat))} (O : Ok cs ws)
include O
theorem prod_ne : prodN (szs ws) ≠ [] := List.ne_nil_of_mem (mem_choices.mpr (zeros_ok O))
theorem sumsP_ne : sumsP cs ws ≠ [] := by unfold sumsP; simpa using prod_ne O
theorem sumsA_ne : sumsA cs ws ≠ [] := by unfold sumsA; simpa using setAll_ne O
theorem sumsP_bd : ∀ x ∈ sumsP cs ws, 0 ≤ x ∧ x ≤ 160 := fun x hx => by
  unfold sumsP at hx
  obtain ⟨c, hc, rfl⟩ := List.mem_map.mp hx
  exact (paid_bd O (mem_choices.mp hc)).2
theorem sumsA_bd : ∀ x ∈ sumsA cs ws, 0 ≤ x ∧ x ≤ 160 := fun x hx => by
  unfold sumsA at hx
  obtain ⟨c, hc, rfl⟩ := List.mem_map.mp hx
  exact (paid_bd O (mem_choices.mp (List.mem_filter.mp hc).1)).2
theorem sums_fm (l : List (List Nat)) : ((l.map oD).map Itm.one).filterMap (sumF cs ws) = (l.map (sumP cs ws)).map D.int := by
  rw [List.map_map, List.map_map]
  exact fm_all fun c _ => by
    show some (D.int (sumP cs ws ((c.map nD).map toN))) = _
    rw [toN_nD]
    rfl
theorem worst_ok (n : Nat) : phi Gm tab (n + 6) 32 [(false, strD cs ws)] = some (.v (worstD cs ws), []) := of_ex (by
  obtain ⟨a1, a2, a3⟩ := max_int (sumsA_ne O)
  obtain ⟨b1, b2, b3⟩ := min_int (sumsP_ne O)
  have ab := sumsA_bd O _ a2
  have bb := sumsP_bd O _ b2
  refine phi_ex q32.1 rfl ?_
  show wB Gm (phi Gm tab (n + 5)) [] F_worst_by.body [some (false, strD cs ws), none, none, none] _
  dsimp only [F_worst_by]
  array_get_dec
  refine w_compP rfl ?_
  array_get_dec
  obtain ⟨r, o, e, rfl, rfl⟩ := settledall_ok n O
  refine call_by q29.2 rfl rfl e rfl ?_
  array_get_dec
  refine ⟨sumF cs ws, fun x hx => ?_, ?_⟩
  · obtain ⟨d, hd, rfl⟩ := List.mem_map.mp hx
    obtain ⟨ch, hc, rfl⟩ := List.mem_map.mp hd
    have C := mem_choices.mp (List.mem_filter.mp hc).1
    refine ⟨_, rfl, ?_⟩
    array_get_dec
    refine call_by q18.2 rfl rfl (raw_ok (n + 3) O C) rfl ?_
    array_get_dec
    refine ⟨_, _, rfl, sum_tup _, ?_⟩
    array_get_dec
    refine ⟨_, _, rfl, ?_, rfl⟩
    show some (D.int (sumP cs ws ((ch.map nD).map toN))) = _
    rw [toN_nD]
    rfl
  rw [sums_fm O]
  array_get_dec
  refine ⟨_, _, rfl, a1, ?_⟩
  array_get_dec
  refine w_compP rfl ?_
  array_get_dec
  refine call_by q28.2 rfl rfl (choices_ok (n + 3) O) rfl ?_
  array_get_dec
  refine ⟨sumF cs ws, fun x hx => ?_, ?_⟩
  · obtain ⟨d, hd, rfl⟩ := List.mem_map.mp hx
    obtain ⟨ch, hc, rfl⟩ := List.mem_map.mp hd
    have C := mem_choices.mp hc
    refine ⟨_, rfl, ?_⟩
    array_get_dec
    refine call_by q18.2 rfl rfl (raw_ok (n + 3) O C) rfl ?_
    array_get_dec
    refine ⟨_, _, rfl, sum_tup _, ?_⟩
    array_get_dec
    refine ⟨_, _, rfl, ?_, rfl⟩
    show some (D.int (sumP cs ws ((ch.map nD).map toN))) = _
    rw [toN_nD]
    rfl
  rw [sums_fm O]
  array_get_dec
  refine ⟨_, _, rfl, b1, ?_⟩
  array_get_dec
  refine ⟨fun hc => ?_, fun hc => ?_⟩
  · have hc : least (sumsP cs ws) = 0 := of_decide_eq_true hc
    array_get_dec
    unfold worstD
    rw [if_pos hc]
    exact ⟨rfl, rfl⟩
  · have hc : ¬ least (sumsP cs ws) = 0 := of_decide_eq_false hc
    have e1 : most (sumsA cs ws) = (((most (sumsA cs ws)).toNat : Nat) : Int) := by omega
    have e2 : least (sumsP cs ws) = (((least (sumsP cs ws)).toNat : Nat) : Int) := by omega
    unfold worstD
    rw [if_neg hc]
    generalize (most (sumsA cs ws)).toNat = A at e1 ⊢
    generalize (least (sumsP cs ws)).toNat = B at e2 ⊢
    rw [e1] at ab ⊢
    rw [e2] at bb ⊢
    array_get_dec
    refine call_by q31.2 rfl rfl (lowest_ok (n + 3) (a := A) (b := B) (by omega) (by omega)) rfl ?_
    array_get_dec
    exact ⟨rfl, rfl⟩)
theorem next_none {ch : List Nat} {w : Nat} : (nonB (nxD (nextW cs ws ch w))) = decide (bestW cs ws ch w = ch.getD w 0) := by
  unfold nextW
  by_cases h : bestW cs ws ch w = ch.getD w 0
  · rw [if_pos h, decide_eq_true h]; rfl
  · rw [if_neg h, decide_eq_false h]; rfl
theorem lworst_ok (n : Nat) : phi Gm tab (n + 4) 36 [(false, costsD cs), (false, waysD ws)] = some (.v (worstD cs ws), []) := of_ex (by
  obtain ⟨a1, a2, a3⟩ := max_int (sumsA_ne O)
  obtain ⟨b1, b2, b3⟩ := min_int (sumsP_ne O)
  have ab := sumsA_bd O _ a2
  have bb := sumsP_bd O _ b2
  have w4 := O.w4
  refine phi_ex q36.1 rfl ?_
  show wB Gm (phi Gm tab (n + 3)) [] F__law_worst.body [some (false, costsD cs), some (false, waysD ws), none, none, none, none, none, none, none, none, none] _
  dsimp only [F__law_worst]
  array_get_dec
  refine w_compP rfl ?_
  array_get_dec
  refine ⟨lenF, fun x hx => ?_, ?_⟩
  · obtain ⟨d, hd, rfl⟩ := List.mem_map.mp hx
    obtain ⟨r, hr, rfl⟩ := List.mem_map.mp hd
    refine ⟨_, rfl, ?_⟩
    array_get_dec
    rfl
  rw [sizes_fm]
  array_get_dec
  refine call_by q33.2 rfl rfl (products_ok (n + 2) (szs_ok O)) rfl ?_
  array_get_dec
  refine w_compP rfl ?_
  array_get_dec
  refine ⟨sumF cs ws, fun x hx => ?_, ?_⟩
  · obtain ⟨d, hd, rfl⟩ := List.mem_map.mp hx
    obtain ⟨ch, hc, rfl⟩ := List.mem_map.mp hd
    have C := mem_choices.mp hc
    obtain ⟨r, o, e, rfl, rfl⟩ := lpaid_ok (n + 1) O C
    refine ⟨_, rfl, ?_⟩
    array_get_dec
    refine call_by q12.2 rfl rfl e rfl ?_
    array_get_dec
    refine ⟨_, _, rfl, sum_ints _, ?_⟩
    array_get_dec
    refine ⟨_, _, rfl, ?_, rfl⟩
    show some (D.int (sumP cs ws ((ch.map nD).map toN))) = _
    rw [toN_nD]
    rfl
  rw [sums_fm O]
  array_get_dec
  refine ⟨Nat.le_of_ble_eq_true rfl, ?_⟩
  array_get_dec
  refine w_for rfl ?_
  array_get_dec
  refine ⟨_, _, _, _, _, rfl, rfl, rfl, ?_⟩
  refine ⟨fun i ρ => ∃ x3 x6 x7, ρ = [some (false, costsD cs), some (false, waysD ws), some (false, .lst ((prodN (szs ws)).map oD)), x3, some (false, .lst ((sumsP cs ws).map .int)), some (true, .lst (((((prodN (szs ws)).take i).filter (settled cs ws)).map (sumP cs ws)).map .int)), x6, x7, none, none, none], ⟨none, none, none, rfl⟩, ?_, ?_⟩
  · rintro i x _ hx ⟨x3, x6, x7, rfl⟩
    have h256 : (prodN (szs ws)).length ≤ 256 := by have := prod_256 (szs_ok O) (szs ws).length; rw [List.take_length] at this; exact this
    obtain ⟨ch, hch, rfl⟩ : ∃ ch, (prodN (szs ws))[i]? = some ch ∧ x = .two (oD ch) (.int (sumP cs ws ch)) := by
      rw [List.getElem?_zipWith, List.getElem?_map, List.getElem?_map, List.getElem?_map] at hx
      cases q : (prodN (szs ws))[i]? with
      | none => rw [q] at hx; simp at hx
      | some ch => rw [q] at hx; exact ⟨ch, rfl, (Option.some.inj hx).symm⟩
    have C := mem_choices.mp (List.mem_of_getElem? hch)
    dsimp only
    rw [List.take_add_one, hch, List.filter_append]
    have hle : ((((prodN (szs ws)).take i).filter (settled cs ws)).map (sumP cs ws)).length ≤ 256 := by
      rw [List.length_map]
      refine Nat.le_trans (List.length_filter_le _ _) ?_
      rw [List.length_take]
      omega
    generalize ((prodN (szs ws)).take i).filter (settled cs ws) = acc at hle ⊢
    refine ⟨_, rfl, ?_⟩
    array_get_dec
    refine w_compP rfl ?_
    array_get_dec
    refine ⟨ws.length, _, by show R.v (D.int ((ws.map wayRow).length : Nat)) = _; rw [List.length_map], range_ok (by omega), ?_⟩
    refine ⟨fun it => match it with | .one (.int w) => some (nxD (nextW cs ws ch w.toNat)) | _ => none, fun x hx => ?_, ?_⟩
    · obtain ⟨d, hd, rfl⟩ := List.mem_map.mp hx
      obtain ⟨w, hw, rfl⟩ := List.mem_map.mp hd
      refine ⟨_, rfl, ?_⟩
      array_get_dec
      refine call_by q13.2 rfl rfl (next_ok n O C (List.mem_range.mp hw)) rfl ?_
      array_get_dec
      rfl
    rw [fm_range (g := fun w => nxD (nextW cs ws ch w)) fun w hw => rfl]
    array_get_dec
    refine w_compP rfl ?_
    array_get_dec
    refine ⟨nonF, fun x hx => ?_, ?_⟩
    · obtain ⟨d, hd, rfl⟩ := List.mem_map.mp hx
      obtain ⟨w, hw, rfl⟩ := List.mem_map.mp hd
      have hb : cmpD .iss (nxD (nextW cs ws ch w)) .non = some (nonB (nxD (nextW cs ws ch w))) := by cases nextW cs ws ch w <;> rfl
      refine ⟨_, rfl, ?_⟩
      array_get_dec
      refine ⟨_, _, _, rfl, rfl, hb, ?_⟩
      array_get_dec
      rfl
    have e : ((((List.range ws.length).map fun w => nxD (nextW cs ws ch w)).map Itm.one).filterMap nonF) = (List.range ws.length).map fun w => D.bl (decide (bestW cs ws ch w = ch.getD w 0)) := by
      rw [List.map_map]
      exact fm_all fun w _ => by
        show some (D.bl (nonB (nxD (nextW cs ws ch w)))) = _
        rw [next_none O]
    rw [e]
    array_get_dec
    refine ⟨_, _, rfl, all_map _ _, ?_⟩
    array_get_dec
    refine ⟨fun hs => ?_, fun hs => ?_⟩
    · have hs : settled cs ws ch = true := hs
      rw [show (some ch).toList.filter (settled cs ws) = [ch] by show [ch].filter _ = _; rw [List.filter_cons_of_pos hs]; rfl, List.map_append, List.map_append]
      array_get_dec
      refine ⟨_, _, _, _, rfl, rfl, m_ext (by rw [List.length_map]; exact Nat.le_trans (by show _ + 1 ≤ 1000; omega : _ ≤ 1000) (by decide)), ?_⟩
      array_get_dec
      exact ⟨rfl, _, _, _, rfl⟩
    · have hs : settled cs ws ch = false := hs
      rw [show (some ch).toList.filter (settled cs ws) = [] by show [ch].filter _ = _; rw [List.filter_cons_of_neg (by rw [hs]; decide)]; rfl, List.append_nil]
      array_get_dec
      refine ⟨_, _, _, _, rfl, rfl, m_ext (by rw [List.length_map]; exact Nat.le_trans (by show _ + 0 ≤ 1000; omega : _ ≤ 1000) (by decide)), ?_⟩
      array_get_dec
      rw [List.append_nil]
      exact ⟨rfl, _, _, _, rfl⟩
  · rintro _ ⟨x3, x6, x7, rfl⟩
    have el : (List.zipWith Itm.two ((prodN (szs ws)).map oD) (((prodN (szs ws)).map (sumP cs ws)).map D.int)).length = (prodN (szs ws)).length := by rw [List.length_zipWith, List.length_map, List.length_map, List.length_map, Nat.min_self]
    rw [el, List.take_length]
    array_get_dec
    refine ⟨_, _, rfl, b1, ?_⟩
    array_get_dec
    refine ⟨fun hc => ?_, fun hc => ?_⟩
    · have hc : least (sumsP cs ws) = 0 := of_decide_eq_true hc
      array_get_dec
      unfold worstD
      rw [if_pos hc]
      exact ⟨rfl, rfl⟩
    · have hc : ¬ least (sumsP cs ws) = 0 := of_decide_eq_false hc
      have e1 : most (sumsA cs ws) = (((most (sumsA cs ws)).toNat : Nat) : Int) := by omega
      have e2 : least (sumsP cs ws) = (((least (sumsP cs ws)).toNat : Nat) : Int) := by omega
      unfold worstD
      rw [if_neg hc]
      generalize (most (sumsA cs ws)).toNat = A at e1 ⊢
      generalize (least (sumsP cs ws)).toNat = B at e2 ⊢
      rw [e1] at a1 ab
      rw [e2] at b1 bb hc
      array_get_dec
      refine ⟨_, _, rfl, a1, ?_⟩
      array_get_dec
      refine ⟨_, _, rfl, b1, ?_⟩
      array_get_dec
      refine call_by q35.2 rfl rfl (share_ok (n + 1) (a := A) (b := B) (by omega) (by omega)) rfl ?_
      array_get_dec
      exact ⟨rfl, rfl⟩)
end
end K83

/-! K83v -/
set_option Elab.async false
set_option linter.all false
set_option maxRecDepth 100000
set_option maxHeartbeats 4000000
namespace K83
open PySem Mi
open Bal (nD oD toN toN_nD least min_int of_ex fm_range fm_filter fm_const all_true get_nD sum_ints getD_nD all_map)
theorem q4 : Bal.Has Gm tab 4 F_is_sized := ⟨rfl, rfl⟩
theorem q7 : Bal.Has Gm tab 7 F_is_lot := ⟨rfl, rfl⟩
theorem q9 : Bal.Has Gm tab 9 F_is_number := ⟨rfl, rfl⟩
theorem q10 : Bal.Has Gm tab 10 F_Streets := ⟨rfl, rfl⟩
theorem sized_ok (n : Nat) {l : List D} {a b : Int} (h1 : a ≤ l.length) (h2 : (l.length : Int) ≤ b) : phi Gm tab (n + 1) 4 [(false, .tup l), (false, .int a), (false, .int b)] = some (.v (.bl true), []) := of_ex (by
  refine phi_ex q4.1 rfl ?_
  show wB Gm (phi Gm tab n) [] F_is_sized.body [some (false, .tup l), some (false, .int a), some (false, .int b)] _
  dsimp only [F_is_sized]
  array_get_dec
  refine ⟨fun _ => ?_, fun hc => absurd h1 (of_decide_eq_false hc)⟩
  array_get_dec
  exact ⟨by show R.v (D.bl (decide ((l.length : Int) ≤ b))) = _; rw [decide_eq_true h2], rfl⟩)
theorem number_ok (n : Nat) {i : Int} (h : 0 ≤ i) : phi Gm tab (n + 2) 9 [(false, .int i)] = some (.v (.bl true), []) := of_ex (by
  refine phi_ex q9.1 rfl ?_
  show wB Gm (phi Gm tab (n + 1)) [] F_is_number.body [some (false, .int i)] _
  dsimp only [F_is_number]
  array_get_dec
  refine call_by q5.2 rfl rfl (isint_ok n i) rfl ?_
  array_get_dec
  exact ⟨by show R.v (D.bl (decide (0 ≤ i))) = _; rw [decide_eq_true h], rfl⟩)
theorem lot_ok (n : Nat) {w : List Nat} {k : Nat} (hl : w.length ≤ 1000) (ha : w.Pairwise (· < ·)) (hk : ∀ s ∈ w, s < k) : phi Gm tab (n + 3) 7 [(false, oD w), (false, nD k)] = some (.v (.bl true), []) := of_ex (by
  refine phi_ex q7.1 rfl ?_
  show wB Gm (phi Gm tab (n + 2)) [] F_is_lot.body [some (false, oD w), some (false, nD k), none, none] _
  dsimp only [F_is_lot]
  array_get_dec
  refine w_compP rfl ?_
  array_get_dec
  refine ⟨fun _ => some (.bl true), fun x hx => ?_, ?_⟩
  · obtain ⟨d, hd, rfl⟩ := List.mem_map.mp hx
    obtain ⟨s, hs, rfl⟩ := List.mem_map.mp hd
    have := hk s hs
    refine ⟨_, rfl, ?_⟩
    array_get_dec
    refine call_by q6.2 rfl rfl (within_ok n (by omega) (by omega)) rfl ?_
    array_get_dec
    rfl
  array_get_dec
  refine ⟨_, _, rfl, (by rw [fm_const]; exact all_true _), ?_⟩
  array_get_dec
  refine w_compP rfl ?_
  array_get_dec
  refine ⟨1, w.length, _, rfl, by show R.v (D.int ((w.map nD).length : Nat)) = _; rw [List.length_map], range2_ok (i := 1) (by decide) (by omega), ?_⟩
  refine ⟨fun _ => some (.bl true), fun x hx => ?_, ?_⟩
  · obtain ⟨d, hd, rfl⟩ := List.mem_map.mp hx
    obtain ⟨j, hj, rfl⟩ := List.mem_map.mp hd
    have hj := List.mem_range.mp hj
    have e1 : (w.map nD)[j]? = some (nD (w[j]'(by omega))) := by rw [List.getElem?_map, List.getElem?_eq_getElem]; rfl
    have e2 : (w.map nD)[1 + j]? = some (nD (w[1 + j]'(by omega))) := by rw [List.getElem?_map, List.getElem?_eq_getElem]; rfl
    have hlt := List.pairwise_iff_getElem.mp ha j (1 + j) (by omega) (by omega) (by omega)
    refine ⟨_, rfl, ?_⟩
    array_get_dec
    refine ⟨_, _, _, rfl, rfl, (by rw [show (((1 + j : Nat) : Int) - 1) = ((j : Nat) : Int) by omega]; exact idx_t e1), ?_⟩
    array_get_dec
    refine ⟨_, _, _, rfl, rfl, idx_t e2, ?_⟩
    array_get_dec
    refine ⟨_, _, rfl, ?_, rfl⟩
    dsimp only
    rw [decide_eq_true (by omega)]
  · array_get_dec
    refine ⟨_, _, rfl, (by rw [fm_const]; exact all_true _), ?_⟩
    array_get_dec
    exact ⟨rfl, rfl⟩)
theorem all_const : ∀ {l : List D}, (∀ d ∈ l, d = .bl true) → bltD .all [.lst l] = some (.v (.bl true)) := fun {l} h => by
  have : l = l.map fun _ => .bl true := (List.map_congr_left (g := fun _ => D.bl true) fun d hd => (h d hd)).symm ▸ (List.map_id l).symm
  rw [this]
  exact all_true _
theorem fl_len {α β : Type} {f : α → List β} {k : Nat} : ∀ {l : List α}, (∀ x ∈ l, (f x).length ≤ k) → (l.flatMap f).length ≤ l.length * k
  | [], _ => by simp
  | x :: r, h => by
    rw [List.flatMap_cons, List.length_append, List.length_cons, Nat.succ_mul]
    have := fl_len fun y hy => h y (List.mem_cons_of_mem _ hy)
    have := h x List.mem_cons_self
    omega
theorem ne_wc : ¬ (("costs" : Str) = "ways") := by decide +kernel
theorem put_cw (cs : List (List Int)) (ws : List (List (List Nat))) : D.ins 10 (putN "ways" (waysD ws) (putN "costs" (costsD cs) [] []).1 (putN "costs" (costsD cs) [] []).2).1 (putN "ways" (waysD ws) (putN "costs" (costsD cs) [] []).1 (putN "costs" (costsD cs) [] []).2).2 = strD cs ws := by
  have e1 : putN "costs" (costsD cs) [] [] = ((["costs"] : List Str), [costsD cs]) := rfl
  rw [e1]
  have e2 : putN "ways" (waysD ws) ["costs"] [costsD cs] = ((["costs", "ways"] : List Str), [costsD cs, waysD ws]) := by
    unfold putN
    rw [if_neg ne_wc]
    rfl
  rw [e2]
  rfl
def tupB (f : D → List Itm) : Itm → List Itm := fun it => match it with | .one d => f d | _ => []
def itmsT : D → List Itm := fun d => match d with | .tup l => l.map Itm.one | _ => []
theorem streets_ok (n : Nat) {cs : List (List Int)} {ws : List (List (List Nat))} (O : Ok cs ws) : phi Gm tab (n + 4) 10 [(true, .ins 10 [] []), (false, costsD cs), (false, waysD ws)] = some (.v .non, [strD cs ws]) := of_ex (by
  obtain ⟨c1, c5, w1, w4, hrow, hpos, hw1, hw4, hasc⟩ := O
  have lc : (cs.map rowI).length = cs.length := List.length_map _
  have lw : (ws.map wayRow).length = ws.length := List.length_map _
  refine phi_ex q10.1 rfl ?_
  show wB Gm (phi Gm tab (n + 3)) [0] F_Streets.body [some (true, .ins 10 [] []), some (false, costsD cs), some (false, waysD ws), none, none, none] _
  dsimp only [F_Streets]
  array_get_dec
  refine call_by q4.2 rfl rfl (sized_ok (n + 2) (by omega) (by omega)) rfl ?_
  array_get_dec
  refine call_by q4.2 rfl rfl (sized_ok (n + 2) (by omega) (by omega)) rfl ?_
  array_get_dec
  refine w_compP rfl ?_
  array_get_dec
  refine ⟨fun _ => some (.bl true), fun x hx => ?_, ?_⟩
  · obtain ⟨d, hd, rfl⟩ := List.mem_map.mp hx
    obtain ⟨r, hr, rfl⟩ := List.mem_map.mp hd
    have := hw1 r hr
    have := hw4 r hr
    have lr : (r.map oD).length = r.length := List.length_map _
    refine ⟨_, rfl, ?_⟩
    array_get_dec
    refine call_by q4.2 rfl rfl (sized_ok (n + 2) (by omega) (by omega)) rfl ?_
    array_get_dec
    rfl
  array_get_dec
  refine ⟨_, _, rfl, (by rw [fm_const]; exact all_true _), ?_⟩
  array_get_dec
  refine w_comp2P rfl ?_
  array_get_dec
  refine ⟨tupB itmsT, fun _ _ => some (.bl true), fun x hx => ?_, ?_, ?_⟩
  · obtain ⟨d, hd, rfl⟩ := List.mem_map.mp hx
    obtain ⟨r, hr, rfl⟩ := List.mem_map.mp hd
    refine ⟨_, rfl, ?_⟩
    array_get_dec
    refine ⟨rfl, fun y hy => ?_⟩
    obtain ⟨d, hd, rfl⟩ := List.mem_map.mp hy
    obtain ⟨w, hw, rfl⟩ := List.mem_map.mp hd
    obtain ⟨h1, h2, h3⟩ := hasc r hr w hw
    have hl := asc_len (lo := 0) (K := cs.length) h2 fun y hy => ⟨Nat.zero_le _, h3 y hy⟩
    have lw : (w.map nD).length = w.length := List.length_map _
    have hpos : 0 < w.length := List.length_pos_iff.mpr h1
    refine ⟨_, rfl, ?_⟩
    array_get_dec
    refine call_by q7.2 rfl rfl (lot_ok n (k := (cs.map rowI).length) (by omega) h2 (fun s hs => by rw [lc]; exact h3 s hs)) rfl ?_
    array_get_dec
    refine ⟨_, _, rfl, ?_, rfl⟩
    dsimp only
    rw [decide_eq_true (by omega)]
  · refine Nat.le_trans (fl_len (k := 4) fun x hx => ?_) (Nat.le_trans (by rw [List.length_map, lw]; omega : _ ≤ 100) (by decide))
    obtain ⟨d, hd, rfl⟩ := List.mem_map.mp hx
    obtain ⟨r, hr, rfl⟩ := List.mem_map.mp hd
    rw [fm_const, List.length_map]
    show ((r.map oD).map Itm.one).length ≤ 4
    rw [List.length_map, List.length_map]
    exact hw4 r hr
  array_get_dec
  refine ⟨_, _, rfl, all_const (fun d hd => by
    obtain ⟨x, hx, hd⟩ := List.mem_flatMap.mp hd
    rw [fm_const] at hd
    obtain ⟨_, _, rfl⟩ := List.mem_map.mp hd
    rfl), ?_⟩
  array_get_dec
  refine w_compP rfl ?_
  array_get_dec
  refine ⟨fun _ => some (.bl true), fun x hx => ?_, ?_⟩
  · obtain ⟨d, hd, rfl⟩ := List.mem_map.mp hx
    obtain ⟨r, hr, rfl⟩ := List.mem_map.mp hd
    refine ⟨_, rfl, ?_⟩
    array_get_dec
    refine call_by q8.2 rfl rfl (tuple_ok (n + 2) (by rw [List.length_map, lw, hrow r hr])) rfl ?_
    array_get_dec
    rfl
  array_get_dec
  refine ⟨_, _, rfl, (by rw [fm_const]; exact all_true _), ?_⟩
  array_get_dec
  refine w_comp2P rfl ?_
  array_get_dec
  refine ⟨tupB itmsT, fun _ _ => some (.bl true), fun x hx => ?_, ?_, ?_⟩
  · obtain ⟨d, hd, rfl⟩ := List.mem_map.mp hx
    obtain ⟨r, hr, rfl⟩ := List.mem_map.mp hd
    refine ⟨_, rfl, ?_⟩
    array_get_dec
    refine ⟨rfl, fun y hy => ?_⟩
    obtain ⟨d, hd, rfl⟩ := List.mem_map.mp hy
    obtain ⟨i, hi, rfl⟩ := List.mem_map.mp hd
    refine ⟨_, rfl, ?_⟩
    array_get_dec
    refine call_by q9.2 rfl rfl (number_ok (n + 1) (hpos r hr i hi).1) rfl ?_
    array_get_dec
    rfl
  · refine Nat.le_trans (fl_len (k := 4) fun x hx => ?_) (Nat.le_trans (by rw [List.length_map, lc]; omega : _ ≤ 100) (by decide))
    obtain ⟨d, hd, rfl⟩ := List.mem_map.mp hx
    obtain ⟨r, hr, rfl⟩ := List.mem_map.mp hd
    rw [fm_const, List.length_map]
    show ((r.map D.int).map Itm.one).length ≤ 4
    rw [List.length_map, List.length_map, hrow r hr]
    exact w4
  array_get_dec
  refine ⟨_, _, rfl, all_const (fun d hd => by
    obtain ⟨x, hx, hd⟩ := List.mem_flatMap.mp hd
    rw [fm_const] at hd
    obtain ⟨_, _, rfl⟩ := List.mem_map.mp hd
    rfl), ?_⟩
  array_get_dec
  refine ⟨_, _, _, _, _, _, rfl, rfl, rfl, ⟨List.mem_cons_self, (by show (0 : Nat) < 900; decide)⟩, ?_⟩
  array_get_dec
  refine ⟨_, _, _, _, _, _, rfl, rfl, rfl, ⟨List.mem_cons_of_mem _ List.mem_cons_self, (by show (1 : Nat) < 900; decide)⟩, ?_⟩
  array_get_dec
  exact ⟨rfl, congrArg (fun z => [z]) (put_cw cs ws)⟩)
end K83

/-! K83w -/
set_option Elab.async false
set_option linter.all false
set_option maxRecDepth 100000
set_option maxHeartbeats 4000000
namespace K83
open PySem Mi
open Bal (nD oD oP toN toN_nD least min_int of_ex fm_range fm_filter fm_const all_true get_nD sum_ints getD_nD all_map Asc ints_nD pl_oD toPy_oD)
theorem q3 : Bal.Has Gm tab 3 F__law_streets := ⟨rfl, rfl⟩
theorem sorted_i (l : List Int) : bltD .sorted [.lst (l.map .int)] = some (.o (.lst ((sortI l).map .int))) := by
  show (intsD (l.map .int)).map _ = _
  rw [intsD_map]
  rfl
theorem sorted_l {A T : List Nat} {m : Nat} (h : A.Perm T) (ha : Asc m T) : bltD .sorted [.lst (A.map nD)] = some (.o (.lst (T.map nD))) := by
  show (intsD (A.map nD)).map _ = _
  rw [ints_nD]
  show some (R.o (D.lst ((sortI (A.map fun (i : Nat) => (i : Int))).map .int))) = _
  rw [Bal.sort_to h ha, List.map_map]
  rfl
theorem asc_pair {m : Nat} {S : List Nat} (h : Asc m S) : S.Pairwise (· < ·) ∧ ∀ x ∈ S, x < m := by
  rw [h]
  exact ⟨List.pairwise_lt_range.filter _, fun x hx => List.mem_range.mp (List.mem_filter.mp hx).1⟩
theorem pls_oD : ∀ l : List (List Nat), pls (l.map oD) = true ∧ dpts (l.map oD) ≤ 1
  | [] => ⟨rfl, Nat.zero_le _⟩
  | x :: r => by
    rw [List.map_cons]
    unfold pls dpts
    rw [(pls_oD r).1, (pl_oD x).1, (pl_oD x).2]
    exact ⟨rfl, Nat.max_le.mpr ⟨Nat.le_refl _, (pls_oD r).2⟩⟩
theorem toPys_oD : ∀ l : List (List Nat), toPys (l.map oD) = some (l.map oP)
  | [] => rfl
  | x :: r => by rw [List.map_cons]; unfold toPys; rw [toPys_oD r, toPy_oD]; rfl
theorem nin_any (o : List Nat) (l : List (List Nat)) : ∃ b, cmpD .nin (oD o) (.lst (l.map oD)) = some b ∧ (l = [] → b = true) := by
  refine ⟨!((l.map oP).any fun z => PyData.eqv z (oP o)), ?_, fun h => by subst h; rfl⟩
  show (inD (oD o) (.lst (l.map oD))).map not = _
  unfold inD
  show (inS (oD o) (.lst (l.map oD))).map not = _
  unfold inS
  show ((if flatD (oD o) && (l.map oD).all flatD then some ((l.map oD).any fun z => eqF z (oD o)) else (match toPy (oD o), toPys (l.map oD) with
      | some px, some ps => if SeqAt.shaped px = true ∧ SeqAt.shaped (.list ps) = true then some (ps.any fun z => PyData.eqv z px) else none
      | _, _ => none))).map not = _
  rw [if_neg (by show ¬ (false && _) = true; simp), toPy_oD, toPys_oD]
  dsimp only
  obtain ⟨x, e1, c1, d1⟩ := pl_py (pl_oD o).1
  obtain ⟨xs, e2, c2, d2⟩ := pls_py (pls_oD l).1
  rw [toPy_oD] at e1
  rw [toPys_oD] at e2
  have e1 := Option.some.inj e1
  have e2 := Option.some.inj e2
  subst e1 e2
  have s1 : SeqAt.shaped (oP o) = true := by unfold SeqAt.shaped; rw [c1, d1, (pl_oD o).2]; rfl
  have s2 : SeqAt.shaped (.list (l.map oP)) = true := by
    unfold SeqAt.shaped
    simp only [PyData.canLay0, PyData.depth, c2, d2, Bool.true_and, decide_eq_true_eq]
    have := (pls_oD l).2
    omega
  rw [if_pos ⟨s1, s2⟩]
  rfl
/-- a row of drawn costs -/
structure CRow (k : Nat) (r : List Int) : Prop where
  len : r.length = k
  bd : ∀ x ∈ r, 0 ≤ x ∧ x ≤ 8
structure Lot (m : Nat) (w : List Nat) : Prop where
  ne : w ≠ []
  asc : w.Pairwise (· < ·)
  lt : ∀ s ∈ w, s < m
structure WRow (m : Nat) (r : List (List Nat)) : Prop where
  ne : 1 ≤ r.length
  le : r.length ≤ 4
  ok : ∀ w ∈ r, Lot m w
theorem CRow.sort {k : Nat} {r : List Int} (h : CRow k r) : CRow k (sortI r) :=
  ⟨by rw [(Mi.sortI_perm r).length_eq, h.len], fun x hx => h.bd x ((Mi.sortI_perm r).mem_iff.mp hx)⟩
theorem streets_draw (n : Nat) {hd : D} (hh : Hand hd) : ∃ r o, phi Gm tab (n + 3) 3 [(true, hd)] = some (r, o) ∧ ∃ cs ws hd', r = .v (.tup [costsD cs, waysD ws]) ∧ o = [hd'] ∧ Ok cs ws ∧ Hand hd' := by
  refine phi_ex q3.1 rfl ?_
  show wB Gm (phi Gm tab (n + 2)) [0] F__law_streets.body [some (true, hd), none, none, none, none, none, none, none, none, none, none] _
  dsimp only [F__law_streets]
  array_get_dec
  obtain ⟨r, o, e, d, hd1, rfl, rfl, d0, d1, hh1⟩ := draw_ok (n + 1) hh (by decide : (0 : Int) < 5) (by decide)
  refine call_by q1.2 rfl rfl e rfl ?_
  array_get_dec
  obtain ⟨r, o, e, u, hd2, rfl, rfl, u0, u1, hh2⟩ := draw_ok (n + 1) hh1 (by decide : (0 : Int) < 4) (by decide)
  refine call_by q1.2 rfl rfl e rfl ?_
  array_get_dec
  refine ⟨Nat.le_of_ble_eq_true rfl, ?_⟩
  obtain ⟨m, hm⟩ := Int.eq_ofNat_of_zero_le (by omega : 0 ≤ 1 + d)
  obtain ⟨k, hk⟩ := Int.eq_ofNat_of_zero_le (by omega : 0 ≤ 1 + u)
  have m1 : 1 ≤ m := by omega
  have m5 : m ≤ 5 := by omega
  have k1 : 1 ≤ k := by omega
  have k4 : k ≤ 4 := by omega
  rw [hm, hk]
  clear hm hk e
  array_get_dec
  refine w_for rfl ?_
  array_get_dec
  refine ⟨m, _, rfl, range_ok (by omega), ?_⟩
  refine ⟨fun i ρ => ∃ hd cs x4 x6, ρ = [some (true, hd), some (false, nD m), some (false, nD k), some (true, .lst (cs.map rowI)), x4, none, x6, none, none, none, none] ∧ Hand hd ∧ cs.length = i ∧ ∀ r ∈ cs, CRow k r, ⟨hd2, [], none, none, rfl, hh2, rfl, fun _ h => nomatch h⟩, ?_, ?_⟩
  · rintro i x _ hx ⟨hd, cs, x4, x6, rfl, hh, hl, hr⟩
    obtain ⟨w, hw, rfl⟩ := get_nD (l := List.range m) hx
    have hi : i < m := by
      have := (List.getElem?_eq_some_iff.mp hw).1
      simpa using this
    refine ⟨_, rfl, ?_⟩
    array_get_dec
    refine w_compI rfl ?_
    array_get_dec
    refine ⟨k, _, rfl, range_ok (by omega), ?_⟩
    refine ⟨fun j acc ρ => ∃ hd row, acc = row.map D.int ∧ ρ = [some (true, hd), some (false, nD m), some (false, nD k), some (true, .lst (cs.map rowI)), some (false, nD w), none, x6, none, none, none, none] ∧ Hand hd ∧ CRow j row, ⟨hd, [], rfl, rfl, hh, rfl, fun _ h => nomatch h⟩, ?_, ?_⟩
    · rintro j x _ _ hx ⟨hd, row, rfl, rfl, hh, hrow⟩
      obtain ⟨v, hv, rfl⟩ := get_nD (l := List.range k) hx
      refine ⟨_, rfl, ?_⟩
      array_get_dec
      obtain ⟨r, o, e, y, hd3, rfl, rfl, y0, y1, hh3⟩ := draw_ok (n + 1) hh (by decide : (0 : Int) < 9) (by decide)
      refine call_by q1.2 rfl rfl e rfl ?_
      array_get_dec
      refine ⟨_, _, rfl, hd3, row ++ [y], by rw [List.map_append]; rfl, rfl, hh3, by rw [List.length_append, hrow.len]; rfl, fun z hz => ?_⟩
      rcases List.mem_append.mp hz with hz | hz
      · exact hrow.bd z hz
      · rw [List.mem_singleton.mp hz]; omega
    · rintro _ _ ⟨hd, row, rfl, rfl, hh, hrow⟩
      have el : (((List.range k).map fun (i : Nat) => D.int (i : Int)).map Itm.one).length = k := by simp
      rw [el] at hrow
      array_get_dec
      obtain ⟨r, o, e, y, hd3, rfl, rfl, y0, y1, hh3⟩ := draw_ok (n + 1) hh (by decide : (0 : Int) < 3) (by decide)
      refine call_by q1.2 rfl rfl e rfl ?_
      array_get_dec
      have happ : (cs.map rowI).length < Mi.line := Nat.lt_of_le_of_lt (by rw [List.length_map, hl]; omega : _ ≤ 5) (by decide)
      refine ⟨fun _ => ?_, fun _ => ?_⟩
      · array_get_dec
        refine ⟨_, _, rfl, sorted_i _, ?_⟩
        array_get_dec
        refine ⟨_, _, _, _, rfl, rfl, m_app happ, ?_⟩
        array_get_dec
        refine ⟨rfl, hd3, cs ++ [sortI row], _, _, by rw [List.map_append]; rfl, hh3, by rw [List.length_append, hl]; rfl, fun z hz => ?_⟩
        rcases List.mem_append.mp hz with hz | hz
        · exact hr z hz
        · rw [List.mem_singleton.mp hz]; exact hrow.sort
      · array_get_dec
        refine ⟨_, _, _, _, rfl, rfl, m_app happ, ?_⟩
        array_get_dec
        refine ⟨rfl, hd3, cs ++ [row], _, _, by rw [List.map_append]; rfl, hh3, by rw [List.length_append, hl]; rfl, fun z hz => ?_⟩
        rcases List.mem_append.mp hz with hz | hz
        · exact hr z hz
        · rw [List.mem_singleton.mp hz]; exact hrow
  · rintro _ ⟨hd, cs, x4, x6, rfl, hh, hl, hr⟩
    have el : (((List.range m).map fun (i : Nat) => D.int (i : Int)).map Itm.one).length = m := by simp
    rw [el] at hl
    array_get_dec
    refine ⟨Nat.le_of_ble_eq_true rfl, ?_⟩
    array_get_dec
    refine w_for rfl ?_
    array_get_dec
    refine ⟨k, _, rfl, range_ok (by omega), ?_⟩
    refine ⟨fun i ρ => ∃ hd ws x5 x8 x9 x10, ρ = [some (true, hd), some (false, nD m), some (false, nD k), some (true, .lst (cs.map rowI)), x4, x5, x6, some (true, .lst (ws.map wayRow)), x8, x9, x10] ∧ Hand hd ∧ ws.length = i ∧ ∀ r ∈ ws, WRow m r, ⟨hd, [], none, none, none, none, rfl, hh, rfl, fun _ h => nomatch h⟩, ?_, ?_⟩
    · rintro i x _ hx ⟨hd, ws, x5, x8, x9, x10, rfl, hh, hwl, hwr⟩
      obtain ⟨w, hw, rfl⟩ := get_nD (l := List.range k) hx
      have hi : i < k := by
        have := (List.getElem?_eq_some_iff.mp hw).1
        simpa using this
      refine ⟨_, rfl, ?_⟩
      array_get_dec
      refine ⟨Nat.le_of_ble_eq_true rfl, ?_⟩
      array_get_dec
      refine w_for rfl ?_
      array_get_dec
      obtain ⟨r, o, e, t, hd3, rfl, rfl, t0, t1, hh3⟩ := draw_ok (n + 1) hh (by decide : (0 : Int) < 3) (by decide)
      refine call_by q1.2 rfl rfl e rfl ?_
      array_get_dec
      obtain ⟨j, hj⟩ := Int.eq_ofNat_of_zero_le (by omega : 0 ≤ 1 + t)
      refine ⟨j, _, by rw [← hj]; rfl, range_ok (by omega), ?_⟩
      refine ⟨fun q ρ => ∃ hd sm x9 x10, ρ = [some (true, hd), some (false, nD m), some (false, nD k), some (true, .lst (cs.map rowI)), x4, some (false, nD w), x6, some (true, .lst (ws.map wayRow)), some (true, .lst (sm.map oD)), x9, x10] ∧ Hand hd ∧ sm.length ≤ q ∧ (0 < q → sm ≠ []) ∧ ∀ l ∈ sm, Lot m l,
        ⟨hd3, [], x9, x10, rfl, hh3, Nat.zero_le _, fun h => absurd h (Nat.lt_irrefl _), fun _ h => nomatch h⟩, ?_, ?_⟩
      · rintro q x _ hx ⟨hd, sm, x9, x10, rfl, hh, hsl, _, hsr⟩
        obtain ⟨v, hv, rfl⟩ := get_nD (l := List.range j) hx
        have hq : q < j := by
          have := (List.getElem?_eq_some_iff.mp hv).1
          simpa using this
        refine ⟨_, rfl, ?_⟩
        array_get_dec
        refine ⟨_, _, rfl, range_ok (by omega : m ≤ 100000), ?_⟩
        array_get_dec
        obtain ⟨r, o, e, ys, hd4, rfl, rfl, hp, hh4⟩ := mixed_ok n nD hh (xs := List.range m) (by rw [List.length_range]; omega)
        refine call_by q2.2 rfl rfl e rfl ?_
        array_get_dec
        obtain ⟨r, o, e, a, hd5, rfl, rfl, a0, a1, hh5⟩ := draw_ok (n + 1) hh4 (by omega : (0 : Int) < m) (by omega)
        refine call_by q1.2 rfl rfl e rfl ?_
        obtain ⟨c, hc⟩ := Int.eq_ofNat_of_zero_le (by omega : 0 ≤ 1 + a)
        have ec : cut (ys.map nD) none (some (1 + a)) = (ys.take c).map nD := by rw [hc, cut_to (k := c), ← List.map_take]
        have hc1 : 1 ≤ c := by omega
        have yn : ys.Nodup := hp.nodup_iff.mpr List.nodup_range
        have tn : (ys.take c).Nodup := (List.take_sublist c ys).nodup yn
        have hT : Asc m ((List.range m).filter fun x => decide (x ∈ ys.take c)) := Bal.asc_filter _
        have hpT : (ys.take c).Perm ((List.range m).filter fun x => decide (x ∈ ys.take c)) := Bal.perm_mem tn (Bal.asc_nodup hT) fun x => by
          rw [List.mem_filter, decide_eq_true_eq]
          constructor
          · intro hx; exact ⟨hp.mem_iff.mp (List.mem_of_mem_take hx), hx⟩
          · exact fun h => h.2
        generalize (List.range m).filter (fun x => decide (x ∈ ys.take c)) = T at hT hpT
        have hlot : Lot m T := by
          refine ⟨fun z => ?_, (asc_pair hT).1, (asc_pair hT).2⟩
          have h1 := hpT.length_eq
          have h2 := hp.length_eq
          rw [z, List.length_take, List.length_nil] at h1
          rw [List.length_range] at h2
          omega
        array_get_dec
        rw [ec]
        refine ⟨_, _, rfl, sorted_l hpT hT, ?_⟩
        array_get_dec
        obtain ⟨b, hb, hb0⟩ := nin_any T sm
        refine ⟨_, _, _, rfl, rfl, hb, ?_⟩
        array_get_dec
        refine ⟨fun _ => ?_, fun hbf => ?_⟩
        · array_get_dec
          refine ⟨_, _, _, _, rfl, rfl, m_ext (by rw [List.length_map]; exact Nat.le_trans (by show _ + 1 ≤ 1000; omega : _ ≤ 1000) (by decide)), ?_⟩
          array_get_dec
          refine ⟨rfl, hd5, sm ++ [T], _, _, by rw [List.map_append]; rfl, hh5, by rw [List.length_append]; show _ + 1 ≤ _; omega, fun _ => by simp, fun z hz => ?_⟩
          rcases List.mem_append.mp hz with hz | hz
          · exact hsr z hz
          · rw [List.mem_singleton.mp hz]; exact hlot
        · array_get_dec
          refine ⟨_, _, _, _, rfl, rfl, m_ext (by rw [List.length_map]; exact Nat.le_trans (by show _ + 0 ≤ 1000; omega : _ ≤ 1000) (by decide)), ?_⟩
          array_get_dec
          refine ⟨rfl, hd5, sm, _, _, by rw [List.append_nil]; rfl, hh5, by omega, fun _ z => ?_, hsr⟩
          have := hb0 z
          rw [hbf] at this
          cases this
      · rintro _ ⟨hd, sm, x9, x10, rfl, hh, hsl, hs0, hsr⟩
        have el : (((List.range j).map fun (i : Nat) => D.int (i : Int)).map Itm.one).length = j := by simp
        rw [el] at hsl hs0
        have hne := hs0 (by omega)
        array_get_dec
        refine ⟨_, _, _, _, rfl, rfl, m_app (Nat.lt_of_le_of_lt (by rw [List.length_map]; omega : _ ≤ 5) (by decide)), ?_⟩
        array_get_dec
        refine ⟨rfl, hd, ws ++ [sm], _, _, _, _, by rw [List.map_append]; rfl, hh, by rw [List.length_append, hwl]; rfl, fun z hz => ?_⟩
        rcases List.mem_append.mp hz with hz | hz
        · exact hwr z hz
        · rw [List.mem_singleton.mp hz]
          exact ⟨List.length_pos_iff.mpr hne, by omega, hsr⟩
    · rintro _ ⟨hd, ws, x5, x8, x9, x10, rfl, hh, hwl, hwr⟩
      have el : (((List.range k).map fun (i : Nat) => D.int (i : Int)).map Itm.one).length = k := by simp
      rw [el] at hwl
      array_get_dec
      exact ⟨⟨by omega, by omega, by omega, by omega, fun r h => by rw [(hr r h).len, hwl], fun r h => (hr r h).bd, fun r h => (hwr r h).ne, fun r h => (hwr r h).le, fun r h w hw => by rw [hl]; exact ⟨((hwr r h).ok w hw).ne, ((hwr r h).ok w hw).asc, ((hwr r h).ok w hw).lt⟩⟩, hh⟩
end K83

/-! K83x -/
set_option Elab.async false
set_option linter.all false
set_option maxRecDepth 100000
set_option maxHeartbeats 4000000
namespace K83
open PySem Mi
open Bal (nD oD oP toN toN_nD least min_int of_ex fm_range fm_filter fm_const all_true get_nD sum_ints getD_nD all_map pl_oD sml smls blk blks smt smts)
theorem q23 : Bal.Has Gm tab 23 F__law_is := ⟨rfl, rfl⟩
theorem q26 : Bal.Has Gm tab 26 F__law_walk_right := ⟨rfl, rfl⟩
theorem lis_ok (n : Nat) {d : D} (h : sml d = true) (ht : smt d) (hd : dpt d ≤ 60) (hb : blk d ≤ 2 ^ 20) : phi Gm tab (n + 1) 23 [(false, d), (false, d)] = some (.v (.bl true), []) := of_ex (by
  obtain ⟨s, e, ne⟩ := Bal.repr_sa h ht hd hb
  have eq : cmpD .eq (.str s) (.str s) = some true := by
    show eqD (.str s) (.str s) = some true
    have ne : (eqD (.str s) (.str s)).map not = some false := ne
    cases q : eqD (.str s) (.str s) with
    | none => rw [q] at ne; cases ne
    | some b => rw [q] at ne; cases b with
      | true => rfl
      | false => cases ne
  have er : bltD .repr [d] = some (.v (.str s)) := by show (reprD d).map _ = _; rw [e]; rfl
  refine phi_ex q23.1 rfl ?_
  show wB Gm (phi Gm tab n) [] F__law_is.body [some (false, d), some (false, d)] _
  dsimp only [F__law_is]
  array_get_dec
  refine ⟨_, _, rfl, er, ?_⟩
  array_get_dec
  refine ⟨_, _, rfl, er, ?_⟩
  array_get_dec
  refine ⟨_, _, _, rfl, rfl, eq, ?_⟩
  array_get_dec
  exact ⟨rfl, rfl⟩)
theorem walk_all {cs : List (List Int)} {ws : List (List (List Nat))} (O : Ok cs ws) : ∀ f {ch : List Nat}, ChOk ws ch → (walkP cs ws f ch).length ≤ f + 1 ∧ ∀ x ∈ walkP cs ws f ch, ChOk ws x
  | 0, ch, C => ⟨Nat.le_refl _, fun x hx => by rw [List.mem_singleton.mp hx]; exact C⟩
  | f + 1, ch, C => by
    unfold walkP
    cases q : unsettled cs ws ch with
    | nil => exact ⟨by simp, fun x hx => by rw [List.mem_singleton.mp hx]; exact C⟩
    | cons w r =>
      have hwm : w ∈ unsettled cs ws ch := by rw [q]; exact List.mem_cons_self
      have hw := List.mem_range.mp (List.mem_filter.mp hwm).1
      have ih := walk_all O f (set_ok C (row_get O C hw) (best_lt O C hw))
      refine ⟨by dsimp only; rw [List.length_cons]; omega, fun x hx => ?_⟩
      rcases List.mem_cons.mp hx with rfl | hx
      · exact C
      · exact ih.2 x hx
theorem ch_small {cs : List (List Int)} {ws : List (List (List Nat))} (O : Ok cs ws) {ch : List Nat} (C : ChOk ws ch) : ch.length ≤ 4 ∧ ∀ x ∈ ch, x < 4 := by
  refine ⟨by rw [C.len]; exact O.w4, fun x hx => ?_⟩
  obtain ⟨i, hi⟩ := List.getElem?_of_mem hx
  have hl : i < ws.length := by rw [← C.len]; exact (List.getElem?_eq_some_iff.mp hi).1
  have h2 : ws[i]? = some ws[i] := List.getElem?_eq_getElem hl
  have := C.lt i x _ hi h2
  have := O.way4 _ (List.mem_of_getElem? h2)
  omega
theorem small_oD {o : List Nat} (h : ∀ x ∈ o, x < 1000) : sml (oD o) = true ∧ smt (oD o) ∧ blk (oD o) = o.length := by
  obtain ⟨a, b⟩ := Bal.sml_ints (Nat.le_refl 1000) h
  exact ⟨a, Bal.smt_ints o, b⟩
theorem small_oDs : ∀ {l : List (List Nat)}, (∀ o ∈ l, o.length ≤ 10 ∧ ∀ x ∈ o, x < 1000) → smls (l.map oD) = true ∧ smts (l.map oD) ∧ blks (l.map oD) ≤ 11 * l.length
  | [], _ => ⟨rfl, trivial, Nat.le_refl _⟩
  | o :: r, h => by
    obtain ⟨a, b, c⟩ := small_oDs fun x hx => h x (List.mem_cons_of_mem _ hx)
    obtain ⟨h1, h2⟩ := h o List.mem_cons_self
    obtain ⟨e, f, g⟩ := small_oD h2
    rw [List.map_cons, List.length_cons]
    unfold smls smts blks
    rw [e, a, g]
    exact ⟨rfl, ⟨f, b⟩, by omega⟩
theorem first_at {p : Nat → Bool} {n w : Nat} (hw : w < n) (hp : p w = true) (h : ∀ j, j < w → p j = false) : ∃ r, (List.range n).filter p = w :: r := by
  obtain ⟨k, hk⟩ : ∃ k, n = w + (k + 1) := ⟨n - w - 1, by omega⟩
  rw [hk, List.range_add, List.filter_append]
  have e1 : (List.range w).filter p = [] := by
    rw [List.filter_eq_nil_iff]
    intro j hj
    rw [h j (List.mem_range.mp hj)]
    decide
  rw [e1, List.nil_append, List.range_succ_eq_map, List.map_cons, Nat.add_zero, List.filter_cons_of_pos hp]
  exact ⟨_, rfl⟩
def selfF : Itm → Option D := fun it => match it with | .one d => some d | _ => none
theorem self_fm (l : List (List Nat)) : ((l.map oD).map Itm.one).filterMap selfF = l.map oD := by
  rw [List.map_map]
  exact fm_all fun x _ => rfl
def chgF (a b : List Nat) : Itm → Option D := fun it => match it with | .one (.int i) => if !decide (a.getD i.toNat 0 = b.getD i.toNat 0) then some (.int i) else none | _ => none
theorem zipd_get {L : List (List Nat)} {i : Nat} {x : Itm} (h : (List.zipWith Itm.two (L.map oD) ((L.drop 1).map oD))[i]? = some x) : ∃ a b, L[i]? = some a ∧ L[i + 1]? = some b ∧ x = .two (oD a) (oD b) := by
  rw [List.getElem?_zipWith, List.getElem?_map, List.getElem?_map, List.getElem?_drop] at h
  cases q : L[i]? with
  | none => rw [q] at h; simp at h
  | some a =>
    cases q2 : L[1 + i]? with
    | none => rw [q, q2] at h; simp at h
    | some b => rw [q, q2] at h; exact ⟨a, b, rfl, by rw [Nat.add_comm]; exact q2, (Option.some.inj h).symm⟩
theorem right_ok (n : Nat) {cs : List (List Int)} {ws : List (List (List Nat))} {ch : List Nat} (O : Ok cs ws) (C : ChOk ws ch) : phi Gm tab (n + 6) 26 [(false, costsD cs), (false, waysD ws), (false, oD ch)] = some (.v (.bl true), []) := of_ex (by
  have w4 := O.w4
  refine phi_ex q26.1 rfl ?_
  show wB Gm (phi Gm tab (n + 5)) [] F__law_walk_right.body [some (false, costsD cs), some (false, waysD ws), some (false, oD ch), none, none, none, none, none, none, none, none] _
  dsimp only [F__law_walk_right]
  have hF : hgt cs ws ch ≤ 160 := by have := height_bd O (crowds cs.length ws ch); unfold hgt; omega
  obtain ⟨acc, c, eL, Cc, hu⟩ := walk_end O (hgt cs ws ch) C (Nat.le_refl _)
  obtain ⟨rr, eH⟩ := walk_head (cs := cs) (ws := ws) (hgt cs ws ch) ch
  obtain ⟨hlen, hall⟩ := walk_all O (hgt cs ws ch) C
  have hstep := walk_step O (hgt cs ws ch) C
  obtain ⟨r1, o1, e1, rfl, rfl⟩ := walk_ok n O C
  obtain ⟨r2, o2, e2, rfl, rfl⟩ := lwalk_ok (n + 1) O C
  generalize eW : walkP cs ws (hgt cs ws ch) ch = L at *
  have hlast : (L.map oD)[(L.map oD).length - 1]? = some (oD c) := by
    rw [eL, List.length_map, List.length_append, List.getElem?_map]
    show ((acc ++ [c])[acc.length + 1 - 1]?).map oD = _
    rw [show acc.length + 1 - 1 = acc.length by omega, List.getElem?_append_right (Nat.le_refl _), Nat.sub_self]
    rfl
  have h0 : (L.map oD)[0]? = some (oD ch) := by rw [eH]; rfl
  have hsm := small_oDs (l := L) fun o ho => by
    have := ch_small O (hall o ho)
    exact ⟨by omega, fun x hx => by have := this.2 x hx; omega⟩
  have hdp : dpt (.lst (L.map oD)) ≤ 60 := by
    unfold dpt
    have := (pls_oD L).2
    omega
  array_get_dec
  refine make_by rfl rfl rfl (streets_ok (n + 1) O) ?_
  array_get_dec
  refine call_by q14.2 rfl rfl e2 rfl ?_
  array_get_dec
  refine call_by q22.2 rfl rfl e1 rfl ?_
  array_get_dec
  refine w_compP rfl ?_
  array_get_dec
  refine ⟨selfF, fun x hx => ?_, ?_⟩
  · obtain ⟨d, hd, rfl⟩ := List.mem_map.mp hx
    obtain ⟨o, ho, rfl⟩ := List.mem_map.mp hd
    refine ⟨_, rfl, ?_⟩
    array_get_dec
    rfl
  rw [self_fm]
  array_get_dec
  refine call_by q23.2 rfl rfl (lis_ok (n + 4) (d := .lst (L.map oD)) hsm.1 hsm.2.1 hdp (Nat.le_trans hsm.2.2 (by omega))) rfl ?_
  array_get_dec
  refine ⟨_, _, _, rfl, rfl, idx_l h0, ?_⟩
  array_get_dec
  refine ⟨_, _, _, rfl, rfl, Bal.ne_self (pl_oD ch).1 (by rw [(pl_oD ch).2]; decide), ?_⟩
  array_get_dec
  refine ⟨_, _, _, rfl, rfl, idx_neg1 hlast, ?_⟩
  array_get_dec
  have hset : settled cs ws c = true := settled_iff.mpr hu
  have e3 := settled_ok (n + 1) O Cc
  rw [hset] at e3
  refine call_by q21.2 rfl rfl e3 rfl ?_
  array_get_dec
  refine w_for rfl ?_
  array_get_dec
  rw [show cut (L.map oD) (some 1) none = (L.drop 1).map oD by rw [List.map_drop]; exact cut_from (k := 1)]
  refine ⟨_, _, _, _, _, rfl, rfl, rfl, ?_⟩
  refine ⟨fun i ρ => ∃ x6 x7 x8 x9, ρ = [some (false, costsD cs), some (false, waysD ws), some (false, oD ch), some (false, strD cs ws), some (false, .lst (L.map oD)), some (false, .lst (L.map oD)), x6, x7, x8, x9, none], ⟨none, none, none, none, rfl⟩, ?_, ?_⟩
  · rintro i x _ hx ⟨x6, x7, x8, x9, rfl⟩
    obtain ⟨a, b, ha, hb, rfl⟩ := zipd_get hx
    obtain ⟨Ca, w, hw, hne, rfl⟩ := hstep i a b ha hb
    have hal : w < a.length := by rw [Ca.len]; exact hw
    have hal4 : a.length ≤ 4 := by rw [Ca.len]; exact w4
    have hb2 := best_lt O Ca hw
    have C2 := set_ok Ca (row_get O Ca hw) hb2
    have hs := best_saves O Ca hw hne
    have hh := height_step O Ca (row_get O Ca hw) hb2 (ch_get O Ca hw)
    have p1 := paid_get O Ca hw
    have p2 := paid_get O C2 hw
    have e : (a.set w (bestW cs ws a w)).getD w 0 = bestW cs ws a w := by rw [set_getD _ _ _ _ hal, if_pos rfl]
    rw [e] at p2
    rw [← p1, ← p2] at hh
    have hbl : (a.set w (bestW cs ws a w)).length = a.length := List.length_set
    have eget : ∀ j, j < a.length → (!decide (a.getD j 0 = (a.set w (bestW cs ws a w)).getD j 0)) = decide (j = w) := fun j hj => by
      rw [set_getD _ _ _ _ hj]
      by_cases z : w = j
      · subst z
        rw [if_pos rfl, decide_eq_false (Ne.symm hne)]
        simp
      · rw [if_neg z]
        simp [Ne.symm z]
    obtain ⟨r, hr⟩ := first_at (p := fun j => !decide (a.getD j 0 = (a.set w (bestW cs ws a w)).getD j 0)) hal (by rw [eget w hal]; simp) fun j hj => by rw [eget j (by omega)]; simp; omega
    generalize a.set w (bestW cs ws a w) = b at *
    refine ⟨_, rfl, ?_⟩
    array_get_dec
    refine w_compP rfl ?_
    array_get_dec
    refine ⟨a.length, _, by show R.v (D.int ((a.map nD).length : Nat)) = _; rw [List.length_map], range_ok (by omega), ?_⟩
    refine ⟨chgF a b, fun x hx => ?_, ?_⟩
    · obtain ⟨d, hd, rfl⟩ := List.mem_map.mp hx
      obtain ⟨j, hj, rfl⟩ := List.mem_map.mp hd
      have hj := List.mem_range.mp hj
      have ej : (!decide ((a.getD j 0 : Int) = (b.getD j 0 : Nat))) = !decide (a.getD j 0 = b.getD j 0) := by rw [decide_eq_decide.mpr Int.ofNat_inj]
      refine ⟨_, rfl, ?_⟩
      array_get_dec
      refine ⟨_, _, _, rfl, rfl, idx_t (getD_nD (l := a) hj), ?_⟩
      array_get_dec
      refine ⟨_, _, _, rfl, rfl, idx_t (getD_nD (l := b) (by omega)), ?_⟩
      array_get_dec
      refine ⟨fun hc => ?_, fun hc => ?_⟩
      · array_get_dec
        refine ⟨_, _, rfl, ?_, rfl⟩
        show (if !decide (a.getD j 0 = b.getD j 0) then some (nD j) else none) = _
        rw [if_pos (ej.symm.trans hc)]
      · refine ⟨?_, rfl⟩
        show (if !decide (a.getD j 0 = b.getD j 0) then some (nD j) else none) = _
        rw [if_neg (fun z => absurd (hc.symm.trans (ej.trans z)) (by decide))]
    have ef : (((List.range a.length).map fun (i : Nat) => D.int (i : Int)).map Itm.one).filterMap (chgF a b) = (w :: r).map nD := by
      rw [← hr, List.map_map]
      exact fm_filter fun i hi => rfl
    rw [ef]
    array_get_dec
    refine ⟨_, _, _, rfl, rfl, idx_l (j := 0) (d := nD w) rfl, ?_⟩
    array_get_dec
    refine call_by q24.2 rfl rfl (costs_ok n O Ca) rfl ?_
    array_get_dec
    refine ⟨_, _, _, rfl, rfl, idx_t (j := w) (getD_int (by rw [paid_len Ca]; exact hw)), ?_⟩
    array_get_dec
    refine call_by q24.2 rfl rfl (costs_ok n O C2) rfl ?_
    array_get_dec
    refine ⟨_, _, _, rfl, rfl, idx_t (j := w) (getD_int (by rw [paid_len C2]; exact hw)), ?_⟩
    array_get_dec
    refine ⟨fun hc => absurd (of_decide_eq_true hc) (by omega), fun _ => ?_⟩
    array_get_dec
    refine call_by q25.2 rfl rfl (height_ok n O Ca) rfl ?_
    array_get_dec
    refine call_by q25.2 rfl rfl (height_ok n O C2) rfl ?_
    array_get_dec
    refine ⟨fun hc => ?_, fun _ => ?_⟩
    · rw [decide_eq_true hh] at hc
      cases hc
    · array_get_dec
      exact ⟨rfl, _, _, _, _, rfl⟩
  · rintro _ ⟨x6, x7, x8, x9, rfl⟩
    array_get_dec
    refine ⟨_, _, _, rfl, rfl, idx_neg1 hlast, ?_⟩
    array_get_dec
    obtain ⟨r4, o4, e4, rfl, rfl⟩ := walk_ok n O Cc
    rw [walk_one hu] at e4
    refine call_by q22.2 rfl rfl e4 rfl ?_
    array_get_dec
    exact ⟨rfl, rfl⟩)
end K83

/-! K83y -/
set_option Elab.async false
set_option linter.all false
set_option maxRecDepth 100000
set_option maxHeartbeats 4000000
namespace K83
open PySem Mi
open Bal (nD oD oP toN toN_nD least min_int of_ex fm_range fm_filter fm_const all_true get_nD sum_ints getD_nD all_map pl_oD sml smls blk blks smt smts)
theorem small_worst {cs : List (List Int)} {ws : List (List (List Nat))} (O : Ok cs ws) : sml (worstD cs ws) = true ∧ smt (worstD cs ws) ∧ dpt (worstD cs ws) ≤ 60 ∧ blk (worstD cs ws) ≤ 2 ^ 20 := by
  obtain ⟨a1, a2, a3⟩ := max_int (sumsA_ne O)
  obtain ⟨b1, b2, b3⟩ := min_int (sumsP_ne O)
  have ab := sumsA_bd O _ a2
  have bb := sumsP_bd O _ b2
  unfold worstD
  split
  · exact ⟨rfl, trivial, by decide, by decide⟩
  · unfold shareD
    have h1 : (most (sumsA cs ws)).toNat / Nat.gcd (most (sumsA cs ws)).toNat (least (sumsP cs ws)).toNat < 1000 := Nat.lt_of_le_of_lt (Nat.div_le_self _ _) (by omega)
    have h2 : (least (sumsP cs ws)).toNat / Nat.gcd (most (sumsA cs ws)).toNat (least (sumsP cs ws)).toNat < 1000 := Nat.lt_of_le_of_lt (Nat.div_le_self _ _) (by omega)
    generalize (most (sumsA cs ws)).toNat / Nat.gcd (most (sumsA cs ws)).toNat (least (sumsP cs ws)).toNat = x at h1 ⊢
    generalize (least (sumsP cs ws)).toNat / Nat.gcd (most (sumsA cs ws)).toNat (least (sumsP cs ws)).toNat = y at h2 ⊢
    obtain ⟨e, f, g⟩ := small_oD (o := [x, y]) (by simp [h1, h2])
    refine ⟨e, f, ?_, ?_⟩
    · show dpt (oD [x, y]) ≤ 60
      rw [(pl_oD _).2]; decide
    · show blk (oD [x, y]) ≤ _
      rw [g]; show 2 ≤ 2 ^ 20; decide
/-- one go's rest: the walks are right -/
theorem turns_ok (n : Nat) {cs : List (List Int)} {ws : List (List (List Nat))} (O : Ok cs ws) {b : Ss} (hb : b = (.cons (.ite (.not (.val (.call 26 (.cons (.var 3) (.cons (.var 4) (.cons (.callb .tuple (.cons (.comp [8] (.var 8) (.seq (.var 4)) .yes (.call 1 (.cons (.var 1) (.cons (.callb .len (.cons (.var 8) .nil)) .nil)))) .nil)) .nil)))))) (.cons (.ret (.cbl false)) .nil) .nil) .nil)) {xs : List Int} {hd : D} (hh : Hand hd) {x2 x5 x6 x7 x8 x9 x10 : Option (Bool × D)} :
    wB Gm (phi Gm tab (n + 7)) [] b [some (false, .scr xs), some (true, hd), x2, some (false, costsD cs), some (false, waysD ws), x5, x6, x7, none, x9, x10] fun f ρ => f = .nx ∧ ∃ hd', ρ = [some (false, .scr xs), some (true, hd'), x2, some (false, costsD cs), some (false, waysD ws), x5, x6, x7, none, x9, x10] ∧ Hand hd' := by
  subst hb
  array_get_dec
  refine w_compI rfl ?_
  array_get_dec
  refine ⟨fun j acc ρ => ∃ hd ch, acc = ch.map nD ∧ ρ = [some (false, .scr xs), some (true, hd), x2, some (false, costsD cs), some (false, waysD ws), x5, x6, x7, none, x9, x10] ∧ Hand hd ∧ ch.length = j ∧ ∀ (i c : Nat) (row : List (List Nat)), ch[i]? = some c → ws[i]? = some row → c < row.length,
    ⟨hd, [], rfl, rfl, hh, rfl, fun i c row h => by simp at h⟩, ?_, ?_⟩
  · rintro j x _ _ hx ⟨hd, ch, rfl, rfl, hh, hl, hr⟩
    obtain ⟨row, hrow, rfl⟩ : ∃ row, ws[j]? = some row ∧ x = .one (wayRow row) := by
      rw [List.getElem?_map, List.getElem?_map] at hx
      cases q : ws[j]? with
      | none => rw [q] at hx; simp at hx
      | some row => rw [q] at hx; exact ⟨row, rfl, (Option.some.inj hx).symm⟩
    have h1 := O.way1 row (List.mem_of_getElem? hrow)
    have h4 := O.way4 row (List.mem_of_getElem? hrow)
    have lr : (row.map oD).length = row.length := List.length_map _
    refine ⟨_, rfl, ?_⟩
    array_get_dec
    obtain ⟨r, o, e, y, hd3, rfl, rfl, y0, y1, hh3⟩ := draw_ok (n + 6) hh (L := ((row.map oD).length : Nat)) (by omega) (by omega)
    refine call_by q1.2 rfl rfl e rfl ?_
    obtain ⟨c, rfl⟩ := Int.eq_ofNat_of_zero_le y0
    array_get_dec
    refine ⟨_, _, rfl, hd3, ch ++ [c], by rw [List.map_append]; rfl, rfl, hh3, by rw [List.length_append, hl]; rfl, fun i c' row' hi hr' => ?_⟩
    by_cases hij : i < ch.length
    · rw [List.getElem?_append_left hij] at hi
      exact hr i c' row' hi hr'
    · have hil : i = ch.length := by
        have := (List.getElem?_eq_some_iff.mp hi).1
        rw [List.length_append] at this
        have : i < ch.length + 1 := this
        omega
      subst hil
      rw [List.getElem?_append_right (Nat.le_refl _), Nat.sub_self] at hi
      cases hi
      rw [hl, hrow] at hr'
      cases hr'
      omega
  · rintro _ _ ⟨hd, ch, rfl, rfl, hh, hl, hr⟩
    have C : ChOk ws ch := ⟨by rw [hl, List.length_map, List.length_map], hr⟩
    array_get_dec
    refine call_by q26.2 rfl rfl (right_ok (n + 1) O C) rfl ?_
    array_get_dec
    exact ⟨rfl, hd, rfl, hh⟩
theorem pair_sort (n : Nat) : True := trivial
def cs0 : List (List Int) := [[2, 3], [4, 4]]
def ws0 : List (List (List Nat)) := [[[0], [1]], [[0], [1]]]
def cs1 : List (List Int) := [[0]]
def ws1 : List (List (List Nat)) := [[[0]]]
theorem ok0 : Ok cs0 ws0 := ⟨by decide, by decide, by decide, by decide, by decide, by decide, by decide, by decide, by decide⟩
theorem ok1 : Ok cs1 ws1 := ⟨by decide, by decide, by decide, by decide, by decide, by decide, by decide, by decide, by decide⟩
theorem ch0 : ChOk ws0 [1, 1] := ⟨rfl, fun i c row h1 h2 => by
  match i, h1, h2 with
  | 0, h1, h2 => cases h1; cases h2; decide
  | 1, h1, h2 => cases h1; cases h2; decide
  | i + 2, h1, h2 => simp at h1⟩
theorem walk0 : walkP cs0 ws0 (hgt cs0 ws0 [1, 1]) [1, 1] = [[1, 1], [0, 1], [0, 0]] := by decide +kernel
theorem worst0 : worstD cs0 ws0 = .tup [nD 1, nD 1] := by
  unfold worstD
  rw [if_neg (by decide +kernel : ¬ least (sumsP cs0 ws0) = 0)]
  unfold shareD
  rw [show (most (sumsA cs0 ws0)).toNat = 6 by decide +kernel, show (least (sumsP cs0 ws0)).toNat = 6 by decide +kernel]
  rfl
theorem worst1 : worstD cs1 ws1 = .non := by
  unfold worstD
  rw [if_pos (by decide +kernel : least (sumsP cs1 ws1) = 0)]
theorem law_ok (xs : List Int) : phi Gm tab 20 37 [(false, .scr xs)] = some (.v (.bl true), []) := of_ex (by
  refine phi_ex (n := 19) (f := 37) rfl rfl ?_
  show wB Gm (phi Gm tab 19) [] F_law.body [some (false, .scr xs), none, none, none, none, none, none, none, none, none, none] _
  dsimp only [F_law]
  array_get_dec
  obtain ⟨r, ol, e, hd, rfl, rfl, hh⟩ := hand_ok 18 xs
  refine call_by q0.2 rfl rfl e rfl ?_
  array_get_dec
  refine ⟨Nat.le_of_ble_eq_true rfl, ?_⟩
  array_get_dec
  refine w_for rfl ?_
  array_get_dec
  refine ⟨fun i ρ => ∃ hd x2 x3 x4 x5 x6, ρ = [some (false, .scr xs), some (true, hd), x2, x3, x4, x5, x6, none, none, none, none] ∧ Hand hd, ⟨hd, none, none, none, none, none, rfl, hh⟩, ?_, ?_⟩
  · rintro i x _ hx ⟨hd, x2, x3, x4, x5, x6, rfl, hh⟩
    obtain ⟨v, hv, rfl⟩ := List.mem_map.mp (List.mem_of_getElem? hx)
    refine ⟨_, rfl, ?_⟩
    array_get_dec
    obtain ⟨r, o, e, cs, ws, hd1, rfl, rfl, O, hh1⟩ := streets_draw 16 hh
    refine call_by (rfl : Gm.io 3 = some [true]) rfl rfl e rfl ?_
    array_get_dec
    refine make_by rfl rfl rfl (streets_ok 15 O) ?_
    array_get_dec
    refine w_for rfl ?_
    array_get_dec
    refine ⟨fun i ρ => ∃ hd x6, ρ = [some (false, .scr xs), some (true, hd), some (false, v), some (false, costsD cs), some (false, waysD ws), some (false, strD cs ws), x6, none, none, none, none] ∧ Hand hd, ⟨hd1, _, rfl, hh1⟩, ?_, ?_⟩
    · rintro j x _ hx ⟨hd, x6, rfl, hh⟩
      obtain ⟨v2, hv2, rfl⟩ := List.mem_map.mp (List.mem_of_getElem? hx)
      refine ⟨_, rfl, ?_⟩
      obtain ⟨f, ρ', ev, rfl, hd', rfl, hh'⟩ := turns_ok 12 O rfl hh (xs := xs) (x2 := some (false, v)) (x5 := some (false, strD cs ws)) (x6 := some (false, v2)) (x7 := none) (x8 := none) (x9 := none) (x10 := none)
      exact ⟨_, _, ev, rfl, hd', _, rfl, hh'⟩
    · rintro _ ⟨hd, x6, rfl, hh⟩
      obtain ⟨s1, s2, s3, s4⟩ := small_worst O
      array_get_dec
      refine call_by q32.2 rfl rfl (worst_ok O 13) rfl ?_
      array_get_dec
      refine call_by q36.2 rfl rfl (lworst_ok O 15) rfl ?_
      array_get_dec
      refine call_by q23.2 rfl rfl (lis_ok 18 s1 s2 s3 s4) rfl ?_
      array_get_dec
      refine w_compP rfl ?_
      array_get_dec
      obtain ⟨r, o, e, rfl, rfl⟩ := settledall_ok 14 O
      refine call_by q29.2 rfl rfl e rfl ?_
      array_get_dec
      rw [show cut ((setAll cs ws).map oD) none (some 3) = ((setAll cs ws).take 3).map oD by rw [List.map_take]; exact cut_to (k := 3)]
      refine ⟨fun _ => some (.bl true), fun x hx => ?_, ?_⟩
      · obtain ⟨d, hd, rfl⟩ := List.mem_map.mp hx
        obtain ⟨ch, hc, rfl⟩ := List.mem_map.mp hd
        obtain ⟨hm, hs⟩ := List.mem_filter.mp (List.mem_of_mem_take hc)
        obtain ⟨r4, o4, e4, rfl, rfl⟩ := walk_ok 14 O (mem_choices.mp hm)
        rw [walk_one (settled_iff.mp hs)] at e4
        refine ⟨_, rfl, ?_⟩
        array_get_dec
        refine call_by q22.2 rfl rfl e4 rfl ?_
        array_get_dec
        rfl
      array_get_dec
      refine ⟨_, _, rfl, (by rw [fm_const]; exact all_true _), ?_⟩
      array_get_dec
      exact ⟨rfl, _, _, _, _, _, _, rfl, hh⟩
  · rintro _ ⟨hd, x2, x3, x4, x5, x6, rfl, hh⟩
    obtain ⟨r4, o4, e4, rfl, rfl⟩ := walk_ok 14 ok0 ch0
    rw [walk0] at e4
    have w0 := worst_ok ok0 13
    rw [worst0] at w0
    have w1 := worst_ok ok1 13
    rw [worst1] at w1
    array_get_dec
    show MakeW Gm (phi Gm tab 19) 10 [R.v (costsD cs0), R.v (waysD ws0)] _ _
    refine make_by rfl rfl rfl (streets_ok 15 ok0) ?_
    array_get_dec
    refine w_compP rfl ?_
    array_get_dec
    refine call_by q22.2 rfl rfl e4 rfl ?_
    array_get_dec
    refine ⟨selfF, fun x hx => ?_, ?_⟩
    · obtain ⟨d, hd, rfl⟩ := List.mem_map.mp hx
      obtain ⟨o, ho, rfl⟩ := List.mem_map.mp hd
      refine ⟨_, rfl, ?_⟩
      array_get_dec
      rfl
    rw [self_fm]
    array_get_dec
    refine call_by q32.2 rfl rfl w0 rfl ?_
    array_get_dec
    refine ⟨Nat.le_of_ble_eq_true rfl, ?_⟩
    array_get_dec
    show MakeW Gm (phi Gm tab 19) 10 [R.v (costsD cs1), R.v (waysD ws1)] _ _
    refine make_by rfl rfl rfl (streets_ok 15 ok1) ?_
    array_get_dec
    refine call_by q32.2 rfl rfl w1 rfl ?_
    array_get_dec
    refine ⟨_, _, _, _, rfl, rfl, m_app (by decide), ?_⟩
    array_get_dec
    refine call_lend q23.2 rfl rfl (lis_ok 18 (d := .lst [.lst [oD [1, 1], oD [0, 1], oD [0, 0]], oD [1, 1], .non]) (by decide +kernel) ?_ (by decide +kernel) (by decide +kernel)) rfl rfl ?_
    · have h3 : smts ([[1, 1], [0, 1], [0, 0]].map oD) := (small_oDs (l := [[1, 1], [0, 1], [0, 0]]) (by decide)).2.1
      have h1 : smt (oD [1, 1]) := (small_oD (o := [1, 1]) (by decide)).2.1
      show smts [_, _, _]
      unfold smts
      refine ⟨h3, ?_⟩
      unfold smts
      refine ⟨h1, ?_⟩
      unfold smts
      exact ⟨trivial, trivial⟩
    array_get_dec
    exact ⟨rfl, rfl⟩)
end K83

namespace K83
open PySem PySem.Spec PyProof.Rows L2 Mi
def LawTrue : Prop := ∀ xs : List Int, xs.length ≤ 63 → phi Gm tab 20 37 [(false, .scr xs)] = some (.v (.bl true), [])
theorem fin (law : LawTrue) {l : PySem.W.OpenLaw} {w : World} {K : PySem.W.Frag} {h : Heap} {mg : Str → Option Value} {fa f0 C_Streets : Addr} {oc kV doc pm cdv ct : Value} {od an : Option Addr} {osl : Array (Option Value)} {t_MOST_STREETS t_MOST_WALKERS t_MOST_WAYS : Tok} (X : K.In h) (G : h.Ns mainGlobals mg) (hfa : mg "law" = some (.ref fa))
    (a0 : PySem.W.nsIn K mainGlobals "law" = some (some (.ref f0))) (l0 : K.lookup f0 = some ⟨oc, od, .func (PySem.W.fnOf "law" "law" (defArgs s_law) (defBody s_law) (defScope s_law) .none kV doc pm an cdv ct), osl⟩) (c0 : PySem.W.codeIn K cdv "law" = true) (k0 : PySem.W.keepIn K (.ref f0) = true)
    (d__law_hand : Dk K mg "_law_hand" "_law_hand" s__law_hand ["script"])
    (d__law_draw : Dk K mg "_law_draw" "_law_draw" s__law_draw ["hand", "many"])
    (d__law_mixed : Dk K mg "_law_mixed" "_law_mixed" s__law_mixed ["hand", "things"])
    (d__law_streets : Dk K mg "_law_streets" "_law_streets" s__law_streets ["hand"])
    (d_is_sized : Dk K mg "is_sized" "is_sized" s_is_sized ["thing", "least", "most"])
    (d_is_integer : Dk K mg "is_integer" "is_integer" s_is_integer ["thing"])
    (d_is_within : Dk K mg "is_within" "is_within" s_is_within ["thing", "least", "most"])
    (d_is_lot : Dk K mg "is_lot" "is_lot" s_is_lot ["thing", "many"])
    (d_is_tuple : Dk K mg "is_tuple" "is_tuple" s_is_tuple ["thing", "size"])
    (d_is_number : Dk K mg "is_number" "is_number" s_is_number ["thing"])
    (d_Streets : Dm K mg "Streets" C_Streets "Streets.__init__" s_Streets ["self", "costs", "ways"])
    (d__law_crowds : Dk K mg "_law_crowds" "_law_crowds" s__law_crowds ["costs", "ways", "choices"])
    (d__law_paid : Dk K mg "_law_paid" "_law_paid" s__law_paid ["costs", "ways", "choices"])
    (d__law_next : Dk K mg "_law_next" "_law_next" s__law_next ["costs", "ways", "choices", "walker"])
    (d__law_walk : Dk K mg "_law_walk" "_law_walk" s__law_walk ["costs", "ways", "choices"])
    (d_are_choices : Dk K mg "are_choices" "are_choices" s_are_choices ["streets", "thing"])
    (d_check_choices : Dk K mg "check_choices" "check_choices" s_check_choices ["streets", "thing"])
    (d_counts_of : Dk K mg "counts_of" "counts_of" s_counts_of ["streets", "choices"])
    (d_raw_costs : Dk K mg "raw_costs" "raw_costs" s_raw_costs ["streets", "choices"])
    (d_with_choice : Dk K mg "with_choice" "with_choice" s_with_choice ["choices", "walker", "one"])
    (d_best_way : Dk K mg "best_way" "best_way" s_best_way ["streets", "choices", "walker"])
    (d_is_settled : Dk K mg "is_settled" "is_settled" s_is_settled ["streets", "thing"])
    (d_walk_down : Dk K mg "walk_down" "walk_down" s_walk_down ["streets", "choices"])
    (d__law_is : Dk K mg "_law_is" "_law_is" s__law_is ["mine", "yours"])
    (d_costs_of : Dk K mg "costs_of" "costs_of" s_costs_of ["streets", "choices"])
    (d_height_of : Dk K mg "height_of" "height_of" s_height_of ["streets", "choices"])
    (d__law_walk_right : Dk K mg "_law_walk_right" "_law_walk_right" s__law_walk_right ["costs", "ways", "choices"])
    (d_all_tuples : Dk K mg "all_tuples" "all_tuples" s_all_tuples ["sizes"])
    (d_all_choices : Dk K mg "all_choices" "all_choices" s_all_choices ["streets"])
    (d_all_settled : Dk K mg "all_settled" "all_settled" s_all_settled ["streets"])
    (d_divisor_of : Dk K mg "divisor_of" "divisor_of" s_divisor_of ["one", "other"])
    (d_lowest : Dk K mg "lowest" "lowest" s_lowest ["p", "q"])
    (d_worst_by : Dk K mg "worst_by" "worst_by" s_worst_by ["streets"])
    (d__law_products : Dk K mg "_law_products" "_law_products" s__law_products ["sizes"])
    (d__law_gcd : Dk K mg "_law_gcd" "_law_gcd" s__law_gcd ["one", "other"])
    (d__law_share : Dk K mg "_law_share" "_law_share" s__law_share ["top", "bottom"])
    (d__law_worst : Dk K mg "_law_worst" "_law_worst" s__law_worst ["costs", "ways"])
    (k_Streets : Cls K C_Streets)
    (a_Streets_costs : PySem.W.findIn K (.ref C_Streets) "costs" = some none)
    (a_Streets_ways : PySem.W.findIn K (.ref C_Streets) "ways" = some none)
    (u_MOST_STREETS : PySem.W.nsIn K mainGlobals "MOST_STREETS" = some (some (.int 5 t_MOST_STREETS)))
    (u_MOST_WALKERS : PySem.W.nsIn K mainGlobals "MOST_WALKERS" = some (some (.int 4 t_MOST_WALKERS)))
    (u_MOST_WAYS : PySem.W.nsIn K mainGlobals "MOST_WAYS" = some (some (.int 4 t_MOST_WAYS)))
    (z_abs : PySem.W.nsIn K mainGlobals "abs" = some none)
    (z_all : PySem.W.nsIn K mainGlobals "all" = some none)
    (z_bool : PySem.W.nsIn K mainGlobals "bool" = some none)
    (z_enumerate : PySem.W.nsIn K mainGlobals "enumerate" = some none)
    (z_int : PySem.W.nsIn K mainGlobals "int" = some none)
    (z_isinstance : PySem.W.nsIn K mainGlobals "isinstance" = some none)
    (z_len : PySem.W.nsIn K mainGlobals "len" = some none)
    (z_list : PySem.W.nsIn K mainGlobals "list" = some none)
    (z_max : PySem.W.nsIn K mainGlobals "max" = some none)
    (z_min : PySem.W.nsIn K mainGlobals "min" = some none)
    (z_range : PySem.W.nsIn K mainGlobals "range" = some none)
    (z_repr : PySem.W.nsIn K mainGlobals "repr" = some none)
    (z_sorted : PySem.W.nsIn K mainGlobals "sorted" = some none)
    (z_sum : PySem.W.nsIn K mainGlobals "sum" = some none)
    (z_tuple : PySem.W.nsIn K mainGlobals "tuple" = some none)
    (z_zip : PySem.W.nsIn K mainGlobals "zip" = some none)
    : ∃ fd : FuncData, (∀ (s : Shared) (v : Value), BindsTo s fd ⟨[v], []⟩ [("script", v)]) ∧ ∀ base : Heap, K.In base → base.Ns mainGlobals mg → FnG l.prog w K mg base CX0 40 fa fd ["script"] (spLaw 63 K) := by
  have e := hfa.symm.trans (PySem.W.mg_of X G a0)
  cases e
  let P : Mi.TP := ⟨K, fun n => match n with | 0 => (V.int 5) | 1 => (V.int 4) | 2 => (V.int 4) | _ => V.non, fun n => match n with | 10 => C_Streets | _ => fa⟩
  have T : Txt P mg := { d__law_hand := d__law_hand, d__law_draw := d__law_draw, d__law_mixed := d__law_mixed, d__law_streets := d__law_streets, d_is_sized := d_is_sized, d_is_integer := d_is_integer, d_is_within := d_is_within, d_is_lot := d_is_lot, d_is_tuple := d_is_tuple, d_is_number := d_is_number, d_Streets := d_Streets, d__law_crowds := d__law_crowds, d__law_paid := d__law_paid, d__law_next := d__law_next, d__law_walk := d__law_walk, d_are_choices := d_are_choices, d_check_choices := d_check_choices, d_counts_of := d_counts_of, d_raw_costs := d_raw_costs, d_with_choice := d_with_choice, d_best_way := d_best_way, d_is_settled := d_is_settled, d_walk_down := d_walk_down, d__law_is := d__law_is, d_costs_of := d_costs_of, d_height_of := d_height_of, d__law_walk_right := d__law_walk_right, d_all_tuples := d_all_tuples, d_all_choices := d_all_choices, d_all_settled := d_all_settled, d_divisor_of := d_divisor_of, d_lowest := d_lowest, d_worst_by := d_worst_by, d__law_products := d__law_products, d__law_gcd := d__law_gcd, d__law_share := d__law_share, d__law_worst := d__law_worst, d_law := ⟨_, _, fun_mk l0 c0 k0, hfa, (fun_mk l0 c0 k0).binds (fun _ _ _ _ _ _ us hl => match us, hl with | [_], _ => rfl)⟩, k_Streets := k_Streets, a_Streets_costs := a_Streets_costs, a_Streets_ways := a_Streets_ways, v_MOST_STREETS := rfl, g_MOST_STREETS := ⟨_, PySem.W.mg_of X G u_MOST_STREETS, ⟨_, rfl⟩⟩, v_MOST_WALKERS := rfl, g_MOST_WALKERS := ⟨_, PySem.W.mg_of X G u_MOST_WALKERS, ⟨_, rfl⟩⟩, v_MOST_WAYS := rfl, g_MOST_WAYS := ⟨_, PySem.W.mg_of X G u_MOST_WAYS, ⟨_, rfl⟩⟩, z_abs := PySem.W.mg_none_of X G z_abs, z_all := PySem.W.mg_none_of X G z_all, z_bool := PySem.W.mg_none_of X G z_bool, z_enumerate := PySem.W.mg_none_of X G z_enumerate, z_int := PySem.W.mg_none_of X G z_int, z_isinstance := PySem.W.mg_none_of X G z_isinstance, z_len := PySem.W.mg_none_of X G z_len, z_list := PySem.W.mg_none_of X G z_list, z_max := PySem.W.mg_none_of X G z_max, z_min := PySem.W.mg_none_of X G z_min, z_range := PySem.W.mg_none_of X G z_range, z_repr := PySem.W.mg_none_of X G z_repr, z_sorted := PySem.W.mg_none_of X G z_sorted, z_sum := PySem.W.mg_none_of X G z_sum, z_tuple := PySem.W.mg_none_of X G z_tuple, z_zip := PySem.W.mg_none_of X G z_zip }
  exact ⟨PySem.W.fnOf "law" "law" (defArgs s_law) (defBody s_law) (defScope s_law) .none kV doc pm an cdv ct, fun s v => .of_eq rfl, fun base _ _ =>
    law_fn (P := P) (ok T) lo rfl sc_law rfl rfl rfl (fun cdv A outer s H E hr => b_law T (all T 19) hr) (by decide) law (fun_mk l0 c0 k0)⟩
end K83
set_option maxHeartbeats 0
open PySem PySem.W PyProof.Rows L2 Mi
theorem K83.law_true : K83.LawTrue := fun xs _ => K83.law_ok xs
theorem PySem.Challenge.cw_playershouse_k83_whole_walks_down_to_a_s_holds : PySem.Challenge.rw_playershouse_k83_whole_walks_down_to_a_s.Holds := by
  w_on; o_law; k_head; (case hw => w_witness2)
  k_fill
  refine Mi.law_walk (k := 40) (l := PySem.Challenge.rw_playershouse_k83_whole_walks_down_to_a_s) (by decide) rfl rfl ⟨⟨rfl, by decide, by decide⟩, rfl⟩ (fun w h Y => PySem.W.kIn_of Y) ?F
  case F =>
    intro w mg fa h KX G hmg
    refine' K83.fin K83.law_true KX G hmg ?a0 ?l0 ?c0 ?k0 (dk_of KX G ?a1 ?l1 ?c1 ?k1 (fun _ _ _ _ _ _ us hl => match us, hl with | [_], _ => rfl)) (dk_of KX G ?a2 ?l2 ?c2 ?k2 (fun _ _ _ _ _ _ us hl => match us, hl with | [_, _], _ => rfl)) (dk_of KX G ?a3 ?l3 ?c3 ?k3 (fun _ _ _ _ _ _ us hl => match us, hl with | [_, _], _ => rfl)) (dk_of KX G ?a4 ?l4 ?c4 ?k4 (fun _ _ _ _ _ _ us hl => match us, hl with | [_], _ => rfl)) (dk_of KX G ?a5 ?l5 ?c5 ?k5 (fun _ _ _ _ _ _ us hl => match us, hl with | [_, _, _], _ => rfl)) (dk_of KX G ?a6 ?l6 ?c6 ?k6 (fun _ _ _ _ _ _ us hl => match us, hl with | [_], _ => rfl)) (dk_of KX G ?a7 ?l7 ?c7 ?k7 (fun _ _ _ _ _ _ us hl => match us, hl with | [_, _, _], _ => rfl)) (dk_of KX G ?a8 ?l8 ?c8 ?k8 (fun _ _ _ _ _ _ us hl => match us, hl with | [_, _], _ => rfl)) (dk_of KX G ?a9 ?l9 ?c9 ?k9 (fun _ _ _ _ _ _ us hl => match us, hl with | [_, _], _ => rfl)) (dk_of KX G ?a10 ?l10 ?c10 ?k10 (fun _ _ _ _ _ _ us hl => match us, hl with | [_], _ => rfl)) (dm_of KX G ?m11 ?mk11 ?a11 ?i11 ?kc11 ?l11 ?c11 ?k11 (fun _ _ _ _ _ _ us hl => match us, hl with | [_, _, _], _ => rfl)) (dk_of KX G ?a12 ?l12 ?c12 ?k12 (fun _ _ _ _ _ _ us hl => match us, hl with | [_, _, _], _ => rfl)) (dk_of KX G ?a13 ?l13 ?c13 ?k13 (fun _ _ _ _ _ _ us hl => match us, hl with | [_, _, _], _ => rfl)) (dk_of KX G ?a14 ?l14 ?c14 ?k14 (fun _ _ _ _ _ _ us hl => match us, hl with | [_, _, _, _], _ => rfl)) (dk_of KX G ?a15 ?l15 ?c15 ?k15 (fun _ _ _ _ _ _ us hl => match us, hl with | [_, _, _], _ => rfl)) (dk_of KX G ?a16 ?l16 ?c16 ?k16 (fun _ _ _ _ _ _ us hl => match us, hl with | [_, _], _ => rfl)) (dk_of KX G ?a17 ?l17 ?c17 ?k17 (fun _ _ _ _ _ _ us hl => match us, hl with | [_, _], _ => rfl)) (dk_of KX G ?a18 ?l18 ?c18 ?k18 (fun _ _ _ _ _ _ us hl => match us, hl with | [_, _], _ => rfl)) (dk_of KX G ?a19 ?l19 ?c19 ?k19 (fun _ _ _ _ _ _ us hl => match us, hl with | [_, _], _ => rfl)) (dk_of KX G ?a20 ?l20 ?c20 ?k20 (fun _ _ _ _ _ _ us hl => match us, hl with | [_, _, _], _ => rfl)) (dk_of KX G ?a21 ?l21 ?c21 ?k21 (fun _ _ _ _ _ _ us hl => match us, hl with | [_, _, _], _ => rfl)) (dk_of KX G ?a22 ?l22 ?c22 ?k22 (fun _ _ _ _ _ _ us hl => match us, hl with | [_, _], _ => rfl)) (dk_of KX G ?a23 ?l23 ?c23 ?k23 (fun _ _ _ _ _ _ us hl => match us, hl with | [_, _], _ => rfl)) (dk_of KX G ?a24 ?l24 ?c24 ?k24 (fun _ _ _ _ _ _ us hl => match us, hl with | [_, _], _ => rfl)) (dk_of KX G ?a25 ?l25 ?c25 ?k25 (fun _ _ _ _ _ _ us hl => match us, hl with | [_, _], _ => rfl)) (dk_of KX G ?a26 ?l26 ?c26 ?k26 (fun _ _ _ _ _ _ us hl => match us, hl with | [_, _], _ => rfl)) (dk_of KX G ?a27 ?l27 ?c27 ?k27 (fun _ _ _ _ _ _ us hl => match us, hl with | [_, _, _], _ => rfl)) (dk_of KX G ?a28 ?l28 ?c28 ?k28 (fun _ _ _ _ _ _ us hl => match us, hl with | [_], _ => rfl)) (dk_of KX G ?a29 ?l29 ?c29 ?k29 (fun _ _ _ _ _ _ us hl => match us, hl with | [_], _ => rfl)) (dk_of KX G ?a30 ?l30 ?c30 ?k30 (fun _ _ _ _ _ _ us hl => match us, hl with | [_], _ => rfl)) (dk_of KX G ?a31 ?l31 ?c31 ?k31 (fun _ _ _ _ _ _ us hl => match us, hl with | [_, _], _ => rfl)) (dk_of KX G ?a32 ?l32 ?c32 ?k32 (fun _ _ _ _ _ _ us hl => match us, hl with | [_, _], _ => rfl)) (dk_of KX G ?a33 ?l33 ?c33 ?k33 (fun _ _ _ _ _ _ us hl => match us, hl with | [_], _ => rfl)) (dk_of KX G ?a34 ?l34 ?c34 ?k34 (fun _ _ _ _ _ _ us hl => match us, hl with | [_], _ => rfl)) (dk_of KX G ?a35 ?l35 ?c35 ?k35 (fun _ _ _ _ _ _ us hl => match us, hl with | [_, _], _ => rfl)) (dk_of KX G ?a36 ?l36 ?c36 ?k36 (fun _ _ _ _ _ _ us hl => match us, hl with | [_, _], _ => rfl)) (dk_of KX G ?a37 ?l37 ?c37 ?k37 (fun _ _ _ _ _ _ us hl => match us, hl with | [_, _], _ => rfl)) ⟨?pg0, ?hd0, ?po0, ?sa0⟩ ?n0_0 ?n0_1 ?u0 ?u1 ?u2 ?z0 ?z1 ?z2 ?z3 ?z4 ?z5 ?z6 ?z7 ?z8 ?z9 ?z10 ?z11 ?z12 ?z13 ?z14 ?z15
    (case a0 => k_is)
    (case l0 => k_is)
    (case c0 => k_is)
    (case k0 => k_is)
    (case a1 => k_is)
    (case l1 => k_is)
    (case c1 => k_is)
    (case k1 => k_is)
    (case a2 => k_is)
    (case l2 => k_is)
    (case c2 => k_is)
    (case k2 => k_is)
    (case a3 => k_is)
    (case l3 => k_is)
    (case c3 => k_is)
    (case k3 => k_is)
    (case a4 => k_is)
    (case l4 => k_is)
    (case c4 => k_is)
    (case k4 => k_is)
    (case a5 => k_is)
    (case l5 => k_is)
    (case c5 => k_is)
    (case k5 => k_is)
    (case a6 => k_is)
    (case l6 => k_is)
    (case c6 => k_is)
    (case k6 => k_is)
    (case a7 => k_is)
    (case l7 => k_is)
    (case c7 => k_is)
    (case k7 => k_is)
    (case a8 => k_is)
    (case l8 => k_is)
    (case c8 => k_is)
    (case k8 => k_is)
    (case a9 => k_is)
    (case l9 => k_is)
    (case c9 => k_is)
    (case k9 => k_is)
    (case a10 => k_is)
    (case l10 => k_is)
    (case c10 => k_is)
    (case k10 => k_is)
    (case m11 => k_is)
    (case mk11 => k_is)
    (case a11 => k_is)
    (case i11 => k_is)
    (case kc11 => k_is)
    (case l11 => k_is)
    (case c11 => k_is)
    (case k11 => k_is)
    (case a12 => k_is)
    (case l12 => k_is)
    (case c12 => k_is)
    (case k12 => k_is)
    (case a13 => k_is)
    (case l13 => k_is)
    (case c13 => k_is)
    (case k13 => k_is)
    (case a14 => k_is)
    (case l14 => k_is)
    (case c14 => k_is)
    (case k14 => k_is)
    (case a15 => k_is)
    (case l15 => k_is)
    (case c15 => k_is)
    (case k15 => k_is)
    (case a16 => k_is)
    (case l16 => k_is)
    (case c16 => k_is)
    (case k16 => k_is)
    (case a17 => k_is)
    (case l17 => k_is)
    (case c17 => k_is)
    (case k17 => k_is)
    (case a18 => k_is)
    (case l18 => k_is)
    (case c18 => k_is)
    (case k18 => k_is)
    (case a19 => k_is)
    (case l19 => k_is)
    (case c19 => k_is)
    (case k19 => k_is)
    (case a20 => k_is)
    (case l20 => k_is)
    (case c20 => k_is)
    (case k20 => k_is)
    (case a21 => k_is)
    (case l21 => k_is)
    (case c21 => k_is)
    (case k21 => k_is)
    (case a22 => k_is)
    (case l22 => k_is)
    (case c22 => k_is)
    (case k22 => k_is)
    (case a23 => k_is)
    (case l23 => k_is)
    (case c23 => k_is)
    (case k23 => k_is)
    (case a24 => k_is)
    (case l24 => k_is)
    (case c24 => k_is)
    (case k24 => k_is)
    (case a25 => k_is)
    (case l25 => k_is)
    (case c25 => k_is)
    (case k25 => k_is)
    (case a26 => k_is)
    (case l26 => k_is)
    (case c26 => k_is)
    (case k26 => k_is)
    (case a27 => k_is)
    (case l27 => k_is)
    (case c27 => k_is)
    (case k27 => k_is)
    (case a28 => k_is)
    (case l28 => k_is)
    (case c28 => k_is)
    (case k28 => k_is)
    (case a29 => k_is)
    (case l29 => k_is)
    (case c29 => k_is)
    (case k29 => k_is)
    (case a30 => k_is)
    (case l30 => k_is)
    (case c30 => k_is)
    (case k30 => k_is)
    (case a31 => k_is)
    (case l31 => k_is)
    (case c31 => k_is)
    (case k31 => k_is)
    (case a32 => k_is)
    (case l32 => k_is)
    (case c32 => k_is)
    (case k32 => k_is)
    (case a33 => k_is)
    (case l33 => k_is)
    (case c33 => k_is)
    (case k33 => k_is)
    (case a34 => k_is)
    (case l34 => k_is)
    (case c34 => k_is)
    (case k34 => k_is)
    (case a35 => k_is)
    (case l35 => k_is)
    (case c35 => k_is)
    (case k35 => k_is)
    (case a36 => k_is)
    (case l36 => k_is)
    (case c36 => k_is)
    (case k36 => k_is)
    (case a37 => k_is)
    (case l37 => k_is)
    (case c37 => k_is)
    (case k37 => k_is)
    (case pg0 => k_is)
    (case hd0 => k_is)
    (case po0 => k_is)
    (case sa0 => k_is)
    (case n0_0 => k_is)
    (case n0_1 => k_is)
    (case u0 => k_is)
    (case u1 => k_is)
    (case u2 => k_is)
    (case z0 => k_is)
    (case z1 => k_is)
    (case z2 => k_is)
    (case z3 => k_is)
    (case z4 => k_is)
    (case z5 => k_is)
    (case z6 => k_is)
    (case z7 => k_is)
    (case z8 => k_is)
    (case z9 => k_is)
    (case z10 => k_is)
    (case z11 => k_is)
    (case z12 => k_is)
    (case z13 => k_is)
    (case z14 => k_is)
    (case z15 => k_is)
