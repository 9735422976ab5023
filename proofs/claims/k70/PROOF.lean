import PyProof.Rows.All
import Wide.All
import OpenK.AllK
import Wide.FinOn
import HandS.ForMost
import HandS.Wide
import HandS.Deep
import KE.DataMinMax
import PyProof.ReprReads
import HandS.TupAny
import HandS.TupMul
import HandS.SortInts
import HandS.IsInst
import HandS.SetFor
import HandS.TupLe
import KE.KRevSl
import PyProof.SeqIndex
import KE.KIndexOf
import HandS.Zip
import HandS.Strs
import HandS.More
import HandS.WordsDict
import HandS.Small
import PyProof.ReprRoads
import PyProof.Claim2Refuses
import KE.GoesEnum
import HandS.Walk
import KE.SortData
import HandS.Zip0
import HandS.Style
import HandS.Lambda
import HandS.Ends
import KE.KExcIs
import HandS.ExcIs
import HandS.ExcField
import HandS.ExcInit
import HandS.EndTab
import HandS.HotCalls
import PyProof.ReprBulk
import PyProof.Rows.ReprOcc
import PySem.Challenge.RW_playershouse_k70_whole_sales_dealt
set_option Elab.async false
set_option linter.all false
namespace Mi
open PySem
/-- plain data -/
inductive D where
  | non | bl (b : Bool) | int (i : Int) | str (s : Str)
  | tup (l : List D) | lst (l : List D)
  | ty (n : String)
  | ins (C : Nat) (ns : List Str) (vs : List D)
  | dct (ks : List L2.Key) (vs : List D)
  | scr (l : List Int)
  | exc (C : Nat) (ns : List Str) (ds : List D)
  | fn (i : Nat)
  deriving Inhabited
/-- a value in flight: data; the owned thing of a slot; a new thing that nobody else has -/
inductive R where
  | v (d : D) | b (s : Nat) | o (d : D)
abbrev Env := List (Option (Bool × D))
inductive BOp | add | sub | mul | fdiv | mod | pow
inductive COp | lt | le | gt | ge | eq | ne | inn | nin | iss | isn
inductive Blt | len | abs | int | list | tuple | sum | min | max | sorted | all | any | isi | lenset | repr | str
inductive Mth | index | count | countF | countT
inductive Mut | append | pop0 | pop | remove | extend | insert
inductive Tg | var (i : Nat) | nil | cons (a : Tg) (r : Tg)
mutual
inductive E
  | var (i : Nat) | glob (x : Nat) | cint (i : Int) | cbl (b : Bool) | cnon | cstr (s : Str) | cty (n : String)
  | tup (es : Es) | lst (es : Es)
  | bin (op : BOp) (a b : E) | neg (a : E) | notv (a : E) | andv (a b : E) | orv (a b : E)
  | cmp (op : COp) (a b : E) | chain (op op' : COp) (a b c : E)
  | ite (c : T) (a b : E)
  | idx (a i : E) | sl (a : E) (lo hi : Oe) | rev (a : E)
  | call (f : Nat) (es : Es) | make (C : Nat) (es : Es) | callb (f : Blt) (es : Es) | meth (m : Mth) (o e : E) | mut (m : Mut) (i : Nat) (es : Es)
  | attr (a : E) (f : Str)
  | comp (vs : List Nat) (tg : Tg) (it : It) (c : T) (e : E)
  | comp2 (vs vs1 : List Nat) (tg : Tg) (it : It) (c : T) (tg1 : Tg) (it1 : It) (c1 : T) (e : E)
  | dic0 | dic1 (k v : E)
  | lrange (es : Es)
  -- a call, an instance, whose exception is told; a def that calls what it got: a lambda of this; isinstance, a field of a caught exception
  | callx (f : Nat) (es : Es) | makex (C : Nat) (es : Es) | word (f : Nat) (e : E) | isx (e : E) (k : Nat) | isb (e : E) (n : String) | xattr (e : E) (f : Str)
  -- a def as a value; a slot's def called
  | fnv (i : Nat) | callv (i : Nat) (es : Es)
  -- == or != of two instances by their class's __eq__, the def k; isinstance of an own class
  | eqi (neg : Bool) (C k : Nat) (es : Es) | isc (e : E) (C : Nat)
  -- isinstance of several built-in classes
  | isit (e : E) (ns : List String)
  -- what changes nothing: owned things are read as if frozen
  | pure (e : E)
inductive T | yes | val (e : E) | and (a b : T) | or (a b : T) | not (a : T)
inductive Es | nil | cons (e : E) (r : Es)
inductive Oe | none | some (e : E)
inductive It | seq (e : E) | range1 (a : E) | range2 (a b : E) | zip (a b : E) | enum (a : E)
end
mutual
inductive S
  | asg (tg : Tg) (e : E) | own (i : Nat) (e : E)
  | par (sw : Bool) (ts : List (Nat × Bool)) (es : Es)
  | setix (i : Nat) (ix e : E) | setix2 (i : Nat) (x y : E) (es : Es) | setat (i : Nat) (f : Str) (e : E)
  | aug (i : Nat) (op : BOp) (e : E) | augix (i : Nat) (ix : E) (op : BOp) (e : E)
  | expr (e : E) | ret (e : E) | retn | ite (c : T) (a b : Ss) | whil (c : T) (b : Ss) | for_ (tg : Tg) (it : It) (b : Ss)
  | pass | never | brk | cnt | rais (C : Nat) (ns : List Str) (es : Es)
inductive Ss | nil | cons (s : S) (r : Ss)
end
abbrev line : Nat := 16777216
def mulOk (i j : Int) : Bool := (decide (-(2 ^ 64) < i) && decide (i < 2 ^ 64)) || (decide (-(2 ^ 64) < j) && decide (j < 2 ^ 64)) || decide (i.natAbs.log2 + j.natAbs.log2 < 1000000)
def binD : BOp → D → D → Option D
  | .add, .int i, .int j => some (.int (i + j))
  | .add, .lst a, .lst b => if a.length + b.length ≤ line then some (.lst (a ++ b)) else none
  | .add, .tup a, .tup b => if a.length + b.length ≤ line then some (.tup (a ++ b)) else none
  | .sub, .int i, .int j => some (.int (i - j))
  | .mul, .int i, .int j => if mulOk i j then some (.int (i * j)) else none
  | .mul, .lst a, .int k => if 0 ≤ k ∧ k ≤ line ∧ a.length * k.toNat ≤ line then some (.lst (List.replicate k.toNat a).flatten) else none
  | .mul, .tup a, .int k => if a ≠ [] ∧ 1 ≤ k ∧ k ≤ 1000 ∧ a.length ≤ 1000 then some (.tup (List.replicate k.toNat a).flatten) else none
  | .fdiv, .int i, .int j => if 0 < j ∧ (j < 1073741824 ∨ j.natAbs.log2 < 9000) then some (.int (i / j)) else none
  | .mod, .int i, .int j => if 0 < j then some (.int (i % j)) else none
  | .pow, .int i, .int j => if 0 ≤ j ∧ j ≤ 1000000 ∧ i.natAbs < 2 ^ 64 then some (.int (i ^ j.toNat)) else none
  | _, _, _ => none
mutual
def toPy : D → Option PyData
  | .non => some .none
  | .bl b => some (.bool b)
  | .int i => some (.int i)
  | .str s => some (.str s)
  | .tup l => (toPys l).map .tuple
  | .lst l => (toPys l).map .list
  | _ => none
def toPys : List D → Option (List PyData)
  | [] => some []
  | d :: r => match toPy d, toPys r with
    | some x, some xs => some (x :: xs)
    | _, _ => none
end
def eqD (a b : D) : Option Bool := match toPy a, toPy b with
  | some x, some y => if SeqAt.shaped x = true ∧ SeqAt.shaped y = true then some (PyData.eqv x y) else none
  | _, _ => none
def flatD : D → Bool
  | .non => true | .bl _ => true | .int _ => true | .str _ => true | _ => false
def eqF : D → D → Bool
  | .non, .non => true
  | .bl a, .bl b => a == b
  | .bl a, .int b => (if a then 1 else 0) == b
  | .int a, .bl b => a == (if b then 1 else 0)
  | .int a, .int b => a == b
  | .str a, .str b => a == b
  | _, _ => false
/-- the items of a list or tuple -/
def itemsD : D → Option (List D)
  | .lst l => some l
  | .tup l => some l
  | _ => none
def intsD : List D → Option (List Int)
  | [] => some []
  | .int i :: r => (intsD r).map (i :: ·)
  | _ => none
def blsD : List D → Option (List Bool)
  | [] => some []
  | .bl b :: r => (blsD r).map (b :: ·)
  | _ => none
/-- keys -/
def keyD : D → Option L2.Key
  | .int i => some (.inl i)
  | .str s => some (.inr s)
  | _ => none
def dgetD (k : L2.Key) : List L2.Key → List D → Option D
  | x :: r, d :: ds => if x = k then some d else dgetD k r ds
  | _, _ => none
def dputD (k : L2.Key) (v : D) (ks : List L2.Key) (vs : List D) : List L2.Key × List D := if (ks.any fun x => decide (x = k)) = true then (ks, List.zipWith (fun x d => if x = k then v else d) ks vs) else (ks ++ [k], vs ++ [v])
def intKs : List L2.Key → Option (List Int)
  | [] => some []
  | .inl i :: r => (intKs r).map (i :: ·)
  | _ => none
def inS (x : D) (l : D) : Option Bool := match itemsD l with
  | some ds => if flatD x && ds.all flatD then some (ds.any fun z => eqF z x) else
    match l with
    | .lst _ => match toPy x, toPys ds with
      | some px, some ps => if SeqAt.shaped px = true ∧ SeqAt.shaped (.list ps) = true then some (ps.any fun z => PyData.eqv z px) else none
      | _, _ => none
    | .tup _ => match toPy x, toPys ds with
      | some px, some ps => if SeqAt.shaped px = true ∧ SeqAt.shaped (.tuple ps) = true then some (ps.any fun z => PyData.eqv z px) else none
      | _, _ => none
    | _ => none
  | none => none
def inD (x : D) (l : D) : Option Bool := match l with
  | .dct ks vs => (keyD x).map fun k => (dgetD k ks vs).isSome
  | _ => inS x l
def cmpI (f : Int → Int → Bool) : D → D → Option Bool
  | .int i, .int j => some (f i j)
  | _, _ => none
def isN (x y : D) : Option Bool := match x, y with
  | .bl a, .bl b => some (a == b)
  | .non, .non => some true
  | _, .non => some false
  | _, _ => none
/-- rows of ints, from the first place that differs on -/
def ltRow : List Int → List Int → Bool
  | [], [] => false
  | [], _ :: _ => true
  | _ :: _, [] => false
  | x :: xs, y :: ys => if x = y then ltRow xs ys else decide (x < y)
def ltD : D → D → Option Bool
  | .int i, .int j => some (decide (i < j))
  | .tup l, .tup m => (intsD l).bind fun x => (intsD m).map fun y => ltRow x y
  | _, _ => none
def cmpD : COp → D → D → Option Bool
  | .lt, a, b => ltD a b
  | .le, a, b => cmpI (fun i j => decide (i ≤ j)) a b
  | .gt, a, b => cmpI (fun i j => decide (j < i)) a b
  | .ge, a, b => cmpI (fun i j => decide (j ≤ i)) a b
  | .eq, a, b => eqD a b
  | .ne, a, b => (eqD a b).map not
  | .inn, a, b => inD a b
  | .nin, a, b => (inD a b).map not
  | .iss, a, b => isN a b
  | .isn, a, b => (isN a b).map not
def negD : D → Option D
  | .int i => some (.int (-i))
  | _ => none
/-- the place of an index -/
def ixOf (n : Nat) (i : Int) : Option Nat := if 0 ≤ i then (if i < n then some i.toNat else none) else if -(n : Int) ≤ i then some (i + n).toNat else none
def idxS (a i : D) : Option D := match itemsD a, i with
  | some ds, .int k => (ixOf ds.length k).bind fun j => ds[j]?
  | _, _ => none
def idxD (a i : D) : Option D := match a with
  | .dct ks vs => (keyD i).bind fun k => dgetD k ks vs
  | _ => idxS a i
def cut (xs : List D) (lo hi : Option Int) : List D := (xs.drop (HT.sIx xs.length 0 lo)).take (HT.sIx xs.length xs.length hi - HT.sIx xs.length 0 lo)
def cutI (xs : List Int) (lo hi : Option Int) : List Int := (xs.drop (HT.sIx xs.length 0 lo)).take (HT.sIx xs.length xs.length hi - HT.sIx xs.length 0 lo)
/-- the least place -/
def ixFind (p : D → Bool) : List D → Option Nat
  | [] => none
  | d :: r => if p d then some 0 else (ixFind p r).map (· + 1)
def minI : List Int → Option Int
  | [] => none
  | x :: r => some (r.foldl (fun a b => if b < a then b else a) x)
def maxI : List Int → Option Int
  | [] => none
  | x :: r => some (r.foldl (fun a b => if a < b then b else a) x)
def insI (x : Int) : List Int → List Int
  | [] => [x]
  | y :: r => if x ≤ y then x :: y :: r else y :: insI x r
def sortI (l : List Int) : List Int := l.foldr insI []
def dedup : List Int → List Int
  | [] => []
  | x :: r => if x ∈ r then dedup r else x :: dedup r
def tyNames : List String := ["NoneType", "bool", "int", "str", "tuple", "list", "dict"]
def tyClasses : List String := ["int", "bool", "str", "tuple", "list", "dict"]
def tyName : D → Option String
  | .non => some "NoneType" | .bl _ => some "bool" | .int _ => some "int" | .str _ => some "str" | .tup _ => some "tuple" | .lst _ => some "list" | .dct _ _ => some "dict" | _ => none
def isSub (n t : String) : Bool := n == t || (n == "bool" && t == "int")
def isiD (d : D) (t : String) : Option Bool := if t ∈ tyClasses then (tyName d).map fun n => isSub n t else none
def mm2 (f : Int → Int → Int) : D → D → Option R
  | .int i, .int j => some (.v (.int (f i j)))
  | _, _ => none
/-- repr(x) -/
def reprD (d : D) : Option Str := match d with
  | .dct ks vs => if ks = [] ∧ vs = [] then some (PyData.dict []).shown else none
  | d => (toPy d).bind fun x => if x.showable = true ∧ x.depth ≤ 60 ∧ x.shown.length ≤ line then some x.shown else none
mutual
def ofPy : PyData → D
  | .none => .non
  | .bool b => .bl b
  | .int i => .int i
  | .str s => .str s
  | .list l => .lst (ofPys l)
  | .tuple l => .tup (ofPys l)
  | .dict _ => .non
def ofPys : List PyData → List D
  | [] => []
  | x :: r => ofPy x :: ofPys r
end
def alikeB (xs : List PyData) : Bool := xs.all (fun x => xs.all fun y => PySem.W.alike x y) && xs.all fun x => match x with | .none => false | _ => true
/-- the least, the greatest of alike things -/
def bestG (f : PyData → List PyData → PyData) (a : D) : Option R := (itemsD a).bind fun ds => (toPys ds).bind fun xs => match xs with
  | [] => none
  | x :: r => if alikeB (x :: r) = true ∧ PyData.depthAll (x :: r) ≤ 60 then some (.v (ofPy (f x r))) else none
def insRow (x : List Int) : List (List Int) → List (List Int)
  | [] => [x]
  | y :: r => if ltRow y x then y :: insRow x r else x :: y :: r
def sortRows (l : List (List Int)) : List (List Int) := l.foldr insRow []
/-- tuples of ints, none empty -/
def rowsD : List D → Option (List (List Int))
  | [] => some []
  | .tup l :: r => (intsD l).bind fun x => if x = [] then none else (rowsD r).map (x :: ·)
  | _ => none
def rowT (r : List Int) : D := .tup (r.map .int)
def isAnyD (ns : List String) (d : D) : Option Bool := if (decide (ns.length ≤ 100) && ns.all fun n => tyClasses.contains n) = true then (tyName d).map fun n => ns.any fun t => isSub n t else none
def lenD : D → Option R
  | .dct ks _ => some (.v (.int ks.length))
  | a => (itemsD a).map fun l => .v (.int l.length)
def sortD : D → Option R
  | .lst l => match intsD l with
    | some ns => some (.o (.lst ((sortI ns).map .int)))
    | none => (rowsD l).map fun rs => .o (.lst ((sortRows rs).map rowT))
  | .tup l => (intsD l).map fun ns => .o (.lst ((sortI ns).map .int))
  | .dct ks _ => (intKs ks).bind fun ns => if ns.length < 64 then some (.o (.lst ((sortI ns).map .int))) else none
  | _ => none
def leastD (g : List Int → Option Int) (f : PyData → List PyData → PyData) (a : D) : Option R := match (itemsD a).bind intsD with
  | some ns => (g ns).map fun i => .v (.int i)
  | none => bestG f a
/-- a built-in function of data: what it hands back, and whether that is new -/
def bltD : Blt → List D → Option R
  | .len, [a] => lenD a
  | .abs, [.int i] => some (.v (.int (if i < 0 then -i else i)))
  | .int, [.int i] => some (.v (.int i))
  | .int, [.bl b] => some (.v (.int (if b then 1 else 0)))
  | .list, [a] => (itemsD a).map fun l => .o (.lst l)
  | .tuple, [a] => (itemsD a).map fun l => .v (.tup l)
  | .sum, [a] => ((itemsD a).bind intsD).map fun ns => .v (.int ns.sum)
  | .min, [a] => leastD minI PySem.W.minD a
  | .max, [a] => leastD maxI PySem.W.maxD a
  | .repr, [a] => (reprD a).map fun s => .v (.str s)
  | .min, [a, b] => mm2 (fun i j => if j < i then j else i) a b
  | .max, [a, b] => mm2 (fun i j => if j > i then j else i) a b
  | .sorted, [a] => sortD a
  | .str, [.int i] => if i.natAbs.log2 < 1920 then some (.v (.str (toString i))) else none
  | .all, [.lst l] => (blsD l).map fun bs => .v (.bl (bs.all id))
  | .any, [.lst l] => (blsD l).map fun bs => .v (.bl (bs.any id))
  | .isi, [a, .ty t] => (isiD a t).map fun b => .v (.bl b)
  | .lenset, [.tup l] => (intsD l).bind fun ns => if ns.length < 64 then some (.v (.int (dedup ns).length)) else none
  | _, _ => none
def mthD : Mth → D → D → Option D
  | .index, a, x => (itemsD a).bind fun ds => if flatD x && ds.all flatD then (ixFind (fun z => eqF z x) ds).map fun j => .int j else none
  | .count, .lst l, .int k => (intsD l).map fun ns => .int (ns.count k)
  | .countF, .lst l, x => if flatD x && l.all flatD then some (.int (l.countP fun z => eqF z x : Nat)) else none
  | .countT, .tup l, x => match toPy x, toPys l with
    | some px, some ps => if SeqAt.shaped px = true ∧ SeqAt.shaped (.tuple ps) = true then some (.int (ps.countP fun z => PyData.eqv z px : Nat)) else none
    | _, _ => none
  | _, _, _ => none
/-- a changing method of an owned list: the new content, the answer -/
def mutD : Mut → List D → List D → Option (List D × D)
  | .append, l, [x] => if l.length < line then some (l ++ [x], .non) else none
  | .pop0, l, [] => (l[l.length - 1]?).map fun y => (l.dropLast, y)
  | .pop, l, [.int i] => (ixOf l.length i).bind fun j => (l[j]?).map fun y => (l.eraseIdx j, y)
  | .remove, l, [.int k] => (intsD l).bind fun ns => (ixFind (fun z => eqF z (.int k)) l).map fun j => (l.eraseIdx j, .non)
  | .extend, l, [.lst m] => if l.length + m.length ≤ line then some (l ++ m, .non) else none
  | .insert, l, [.int i, x] => if l.length < line ∧ 0 ≤ i ∧ i < line then some (l.take i.toNat ++ [x] ++ l.drop i.toNat, .non) else none
  | _, _, _ => none
def putN (f : Str) (v : D) : List Str → List D → List Str × List D
  | n :: ns, d :: ds => if n = f then (n :: ns, v :: ds) else ((n :: (putN f v ns ds).1), (d :: (putN f v ns ds).2))
  | _, _ => ([f], [v])
def getN (f : Str) : List Str → List D → Option D
  | n :: ns, d :: ds => if f = n then some d else getN f ns ds
  | _, _ => none
def attrD (fields : Nat → Option (List Str)) (f : Str) : D → Option D
  | .ins C ns vs => match fields C with
    | some fs => if f ∈ fs then getN f ns vs else none
    | none => none
  | _ => none
def kindD : D → Nat
  | .lst _ => 0
  | .tup _ => 1
  | _ => 2
mutual
def still : D → Bool
  | .tup l => stills l
  | .lst _ => false
  | .ins _ _ _ => false
  | .dct _ _ => false
  | .scr _ => false
  | .exc _ _ _ => false
  | _ => true
def stills : List D → Bool
  | [] => true
  | d :: r => still d && stills r
end
def eget (ρ : Env) (i : Nat) : Option (Bool × D) := (ρ[i]?).bind id
def deref (ρ : Env) : R → Option D
  | .v d => some d
  | .o d => some d
  | .b s => (eget ρ s).map (·.2)
/-- the value for keeps: an owned thing is frozen -/
def freeze (r : R) (ρ : Env) : Option (D × Env) := match r with
  | .v d => some (d, ρ)
  | .o d => some (d, ρ)
  | .b s => match eget ρ s with
    | some (_, d) => some (d, ρ.set s (some (false, d)))
    | none => none
def freezes : List R → Env → Option (List D × Env)
  | [], ρ => some ([], ρ)
  | r :: rs, ρ => match freeze r ρ with
    | some (d, ρ1) => match freezes rs ρ1 with
      | some (ds, ρ2) => some (d :: ds, ρ2)
      | none => none
    | none => none
def derefs (ρ : Env) : List R → Option (List D)
  | [] => some []
  | r :: rs => match deref ρ r, derefs ρ rs with
    | some d, some ds => some (d :: ds)
    | _, _ => none
/-- isinstance(d, C) -/
def iscD (C : Nat) : D → Option Bool
  | .ins C1 _ _ => if C1 = C then some true else none
  | d => (tyName d).map fun _ => false
/-- two instances of a class -/
def twoC (C : Nat) : Option (List D) → Bool
  | some [.ins C1 _ _, .ins C2 _ _] => C1 == C && C2 == C
  | some [.ins C1 _ _, y] => C1 == C && (tyName y).isSome
  | _ => false
def negR (neg : Bool) : R → Option R
  | .v (.bl t) => some (.v (.bl (t != neg)))
  | _ => none
theorem twoC_ex {C : Nat} {x : Option (List D)} (h : twoC C x = true) : ∃ n1 d1 y, x = some [.ins C n1 d1, y] ∧ ((∃ n2 d2, y = .ins C n2 d2) ∨ ∃ n, tyName y = some n) := by
  unfold twoC at h
  split at h
  · rw [Bool.and_eq_true, beq_iff_eq, beq_iff_eq] at h
    obtain ⟨rfl, rfl⟩ := h
    exact ⟨_, _, _, rfl, .inl ⟨_, _, rfl⟩⟩
  · rw [Bool.and_eq_true, beq_iff_eq] at h
    obtain ⟨rfl, h⟩ := h
    obtain ⟨n, e⟩ := Option.isSome_iff_exists.mp h
    exact ⟨_, _, _, rfl, .inr ⟨n, e⟩⟩
  · cases h
theorem negR_ex {neg : Bool} {r x : R} (h : negR neg r = some x) : ∃ t, r = .v (.bl t) ∧ x = .v (.bl (t != neg)) := by
  unfold negR at h
  split at h
  · cases h; exact ⟨_, rfl, rfl⟩
  · cases h
def wipeE (ρ : Env) : List Nat → Env
  | [] => ρ
  | v :: vs => (wipeE ρ vs).set v none
/-- behind a comprehension's turn: its own slots as they were -/
def back (old new : Env) : List Nat → Env
  | [] => new
  | v :: vs => (back old new vs).set v (eget old v)
mutual
def setTg : Tg → D → Env → Option Env
  | .var i, d, ρ => if i < ρ.length then some (ρ.set i (some (false, d))) else none
  | .nil, .tup [], ρ => some ρ
  | .cons a r, .tup (d :: ds), ρ => (setTg a d ρ).bind fun ρ1 => setTgs r ds ρ1
  | _, _, _ => none
def setTgs : Tg → List D → Env → Option Env
  | .nil, [], ρ => some ρ
  | .cons a r, d :: ds, ρ => (setTg a d ρ).bind fun ρ1 => setTgs r ds ρ1
  | _, _, _ => none
end
def tgFree (fx : List Nat) : Tg → Bool
  | .var i => decide (i ∉ fx)
  | .nil => true
  | .cons a r => tgFree fx a && tgFree fx r
/-- several names at once: a new thing goes to an owner -/
def prep : List (Nat × Bool) → List R → Env → Option (List (Bool × D) × Env)
  | [], [], ρ => some ([], ρ)
  | (_, own) :: ts, r :: rs, ρ => match own, r with
    | true, .o d => (prep ts rs ρ).map fun p => ((true, d) :: p.1, p.2)
    | _, r => match freeze r ρ with
      | some (d, ρ1) => (prep ts rs ρ1).map fun p => ((false, d) :: p.1, p.2)
      | none => none
  | _, _, _ => none
def setAll : List (Nat × Bool) → List (Bool × D) → Env → Env
  | (i, _) :: ts, x :: xs, ρ => setAll ts xs (ρ.set i (some x))
  | _, _, ρ => ρ
/-- an argument as a def takes it: owned (in and out) or frozen -/
abbrev Arg := Bool × D
/-- what a def's call does: the value, the new contents of the owned arguments -/
abbrev Phi := Nat → List Arg → Option (R × List D)
inductive Fl | nx | rt (r : R) | brk | cnt
/-- a def: parameters, slots, which parameters are owned, body -/
structure Fn where
  np : Nat
  ns : Nat
  io : List Bool
  body : Ss
def iterW (step : Env → Option (Env ⊕ (Fl × Env))) : Nat → Env → Option (Fl × Env)
  | 0, _ => none
  | n + 1, ρ => match step ρ with
    | none => none
    | some (.inl ρ1) => iterW step n ρ1
    | some (.inr r) => some r
/-- an exception: its class, its fields -/
structure Exc where
  C : Nat
  ns : List Str
  ds : List D
/-- a def that calls what it got: what it hands back behind an exception, behind a value -/
structure Wd where
  onX : Exc → Option D
  onV : D → Option D
structure Cfg where
  fields : Nat → Option (List Str)
  io : Nat → Option (List Bool)
  glob : Nat → Option D
  loop : (Env → Option (Env ⊕ (Fl × Env))) → Env → Option (Fl × Env)
  word : Nat → Option Wd := fun _ => none
  sub : Nat → Nat → Option Bool := fun _ _ => none
  subB : Nat → String → Option Bool := fun _ _ => none
  xfld : Nat → Str → Bool := fun _ _ => false
  isfn : Nat → Bool := fun _ => false
  isk : Nat → Bool := fun _ => false
def takeArgs (ρ : Env) : List R → List Bool → Option (List Arg × List Nat × List Nat)
  | [], [] => some ([], [], [])
  | r :: rs, m :: ms => match takeArgs ρ rs ms with
    | some (as, ios, ls) => match r, m with
      | .b s, true => match eget ρ s with
        | some (true, d) => some ((true, d) :: as, s :: ios, ls)
        | _ => none
      | .b s, false => match eget ρ s with
        | some (true, d) => some ((false, d) :: as, ios, s :: ls)
        | some (false, d) => some ((false, d) :: as, ios, ls)
        | none => none
      | .v d, false => some ((false, d) :: as, ios, ls)
      | .o d, false => some ((false, d) :: as, ios, ls)
      | _, true => none
    | none => none
  | _, _ => none
def setOuts : Env → List Nat → List D → Env
  | ρ, s :: ss, d :: ds => setOuts (ρ.set s (some (true, d))) ss ds
  | ρ, _, _ => ρ
def lose : Env → List Nat → Env
  | ρ, [] => ρ
  | ρ, s :: ss => match eget ρ s with
    | some (_, d) => lose (ρ.set s (some (false, d))) ss
    | none => lose ρ ss
def stillC : D → Bool
  | .lst l => stills l
  | .ins _ _ l => stills l
  | .dct _ l => stills l
  | d => still d
def stillR : R → Bool
  | .v d => still d
  | .o d => stillC d
  | .b _ => false
def frzE (ρ : Env) : Env := ρ.map fun x => x.map fun y => (false, y.2)
/-- a def's call from evaluated arguments -/
def callF (Gm : Cfg) (Φ : Phi) (f : Nat) (rs : List R) (ρ : Env) : Option (R × Env) :=
  match Gm.io f with
  | none => none
  | some io => match takeArgs ρ rs io with
    | none => none
    | some (as, ios, ls) => if (ios ++ ls).Nodup then match Φ f as with
      | none => none
      | some (r, outs) =>
        if outs.length = ios.length then
          let ρ1 := setOuts ρ ios outs
          some (r, if ls.isEmpty || (stillR r && outs.all stillC) then ρ1 else lose ρ1 ls)
        else none
      else none
/-- an instance made: its __init__ takes it, owned, without attributes -/
def makeF (Gm : Cfg) (Φ : Phi) (C : Nat) (rs : List R) (ρ : Env) : Option (R × Env) :=
  match freezes rs ρ with
  | none => none
  | some (ds, ρ1) => match Gm.io C with
    | some io => if io = (true :: ds.map fun _ => false) then match Φ C ((true, .ins C [] []) :: ds.map fun d => (false, d)) with
      | some (.v .non, [d]) => some (.o d, ρ1)
      | _ => none
      else none
    | none => none
/-- where the runs that end with an exception stand -/
def xb : Nat := 100000
/-- a def's call that ends with an exception: nothing of ours is written by it -/
def callX (Gm : Cfg) (Φ : Phi) (f : Nat) (rs : List R) (ρ : Env) : Option (Exc × Env) :=
  match Gm.io f with
  | none => none
  | some io => match takeArgs ρ rs io with
    | some (as, [], ls) => if ls.Nodup then match Φ (f + xb) as with
      | some (.v (.exc C ns ds), []) => some (⟨C, ns, ds⟩, ρ)
      | _ => none
      else none
    | _ => none
def makeX (Gm : Cfg) (Φ : Phi) (C : Nat) (rs : List R) (ρ : Env) : Option (Exc × Env) :=
  match freezes rs ρ with
  | none => none
  | some (ds, ρ1) => match Gm.io C with
    | some io => if io = (true :: ds.map fun _ => false) then match Φ (C + xb) ((true, .ins C [] []) :: ds.map fun d => (false, d)) with
      | some (.v (.exc C' ns ds'), []) => some (⟨C', ns, ds'⟩, ρ1)
      | _ => none
      else none
    | none => none
def bindO {α β : Type} (x : Option (α × Env)) (f : α → Env → Option (β × Env)) : Option (β × Env) := match x with
  | some (a, ρ) => f a ρ
  | none => none
def tgIn (vs : List Nat) : Tg → Bool
  | .var i => vs.contains i
  | .nil => true
  | .cons a r => tgIn vs a && tgIn vs r
def rangeD (lo hi : Int) : Option (List D) := if -line ≤ lo ∧ lo ≤ line ∧ -line ≤ hi ∧ hi ≤ line ∧ hi - lo ≤ line then some ((List.range (hi - lo).toNat).map fun (i : Nat) => .int (lo + i)) else none
def slD (a : D) (lo hi : Option Int) : Option R := match a with
  | .lst l => some (.o (.lst (cut l lo hi)))
  | .tup l => some (.v (.tup (cut l lo hi)))
  | .scr l => some (.o (.lst ((cutI l lo hi).map .int)))
  | _ => none
def revD (a : D) : Option R := match a with
  | .lst l => some (.o (.lst l.reverse))
  | .tup l => some (.v (.tup l.reverse))
  | _ => none
/-- what a walk yields: a thing, or a new pair that only a target takes -/
inductive Itm | one (d : D) | two (a b : D)
/-- frozen, for a walk -/
def walkD (r : R) (ρ : Env) : Option (List Itm × Env) := match freeze r ρ with
  | some (d, ρ1) => (itemsD d).map fun l => (l.map Itm.one, ρ1)
  | none => none
def setItm (tg : Tg) : Itm → Env → Option Env
  | .one d, ρ => setTg tg d ρ
  | .two a b, ρ => match tg with
    | .cons x (.cons y .nil) => (setTg x a ρ).bind (setTg y b)
    | _ => none
def zipD (a b : D) : Option (List Itm) := match itemsD a, itemsD b with
  | some l, some m => some (List.zipWith Itm.two l m)
  | _, _ => none
def enumFrom : Nat → List D → List Itm
  | _, [] => []
  | i, d :: ds => .two (.int i) d :: enumFrom (i + 1) ds
def enumD : D → Option (List Itm)
  | .lst l => some (enumFrom 0 l)
  | .tup l => some (enumFrom 0 l)
  | _ => none
/-- the turns of a comprehension -/
def compGo (vs : List Nat) (turn : Itm → Env → Option (Option D × Env)) : List Itm → List D → Env → Option (List D × Env)
  | [], acc, ρ => some (acc, ρ)
  | d :: ds, acc, ρ => match turn d (wipeE ρ vs) with
    | some (some x, ρ1) => compGo vs turn ds (acc ++ [x]) (back ρ ρ1 vs)
    | some (none, ρ1) => compGo vs turn ds acc (back ρ ρ1 vs)
    | none => none
/-- the outer turns of a comprehension with two clauses -/
def compGo2 (vs : List Nat) (turn : Itm → Env → List D → Option (List D × Env)) : List Itm → List D → Env → Option (List D × Env)
  | [], acc, ρ => some (acc, ρ)
  | d :: ds, acc, ρ => match turn d (wipeE ρ vs) acc with
    | some (acc1, ρ1) => compGo2 vs turn ds acc1 (back ρ ρ1 vs)
    | none => none
def forGo (turn : Itm → Env → Option (Fl × Env)) : List Itm → Env → Option (Fl × Env)
  | [], ρ => some (.nx, ρ)
  | d :: ds, ρ => match turn d ρ with
    | some (.nx, ρ1) => forGo turn ds ρ1
    | some (.cnt, ρ1) => forGo turn ds ρ1
    | some (.brk, ρ1) => some (.nx, ρ1)
    | some (.rt r, ρ1) => some (.rt r, ρ1)
    | none => none
/-- a while's turn -/
def turnW (test : Env → Option (Bool × Env)) (body : Env → Option (Fl × Env)) (ρ : Env) : Option (Env ⊕ (Fl × Env)) := match test ρ with
  | some (true, ρ1) => match body ρ1 with
    | some (.nx, ρ2) => some (.inl ρ2)
    | some (.cnt, ρ2) => some (.inl ρ2)
    | some (.brk, ρ2) => some (.inr (.nx, ρ2))
    | some (.rt r, ρ2) => some (.inr (.rt r, ρ2))
    | none => none
  | some (false, ρ1) => some (.inr (.nx, ρ1))
  | none => none
/-- new or as it was: what a two-place operation hands back -/
def asR (op : BOp) (d : D) : R := match op, d with
  | _, .lst _ => .o d
  | _, _ => .v d
section
variable (Gm : Cfg) (Φ : Phi)
mutual
def evE : E → Env → Option (R × Env)
  | .var i, ρ => match eget ρ i with
    | some (true, _) => some (.b i, ρ)
    | some (false, d) => some (.v d, ρ)
    | none => none
  | .glob x, ρ => (Gm.glob x).map fun d => (.v d, ρ)
  | .cint i, ρ => some (.v (.int i), ρ)
  | .cbl b, ρ => some (.v (.bl b), ρ)
  | .cnon, ρ => some (.v .non, ρ)
  | .cstr s, ρ => some (.v (.str s), ρ)
  | .cty n, ρ => some (.v (.ty n), ρ)
  | .tup es, ρ => bindO (evEs es ρ) fun rs ρ1 => bindO (freezes rs ρ1) fun ds ρ2 => if ds.length ≤ line then some (.v (.tup ds), ρ2) else none
  | .lst es, ρ => bindO (evEs es ρ) fun rs ρ1 => bindO (freezes rs ρ1) fun ds ρ2 => if ds.length ≤ line then some (.o (.lst ds), ρ2) else none
  | .bin op a b, ρ => bindO (evE a ρ) fun ra ρ1 => bindO (evE b ρ1) fun rb ρ2 => match deref ρ2 ra, deref ρ2 rb with
    | some x, some y => (binD op x y).map fun d => (asR op d, ρ2)
    | _, _ => none
  | .neg a, ρ => bindO (evE a ρ) fun ra ρ1 => ((deref ρ1 ra).bind negD).map fun d => (.v d, ρ1)
  | .notv a, ρ => bindO (evE a ρ) fun ra ρ1 => match ra with
    | .v (.bl b) => some (.v (.bl (!b)), ρ1)
    | _ => none
  | .andv a b, ρ => bindO (evE a ρ) fun ra ρ1 => match ra with
    | .v (.bl true) => evE b ρ1
    | .v (.bl false) => some (.v (.bl false), ρ1)
    | _ => none
  | .orv a b, ρ => bindO (evE a ρ) fun ra ρ1 => match ra with
    | .v (.bl true) => some (.v (.bl true), ρ1)
    | .v (.bl false) => evE b ρ1
    | _ => none
  | .cmp op a b, ρ => bindO (evE a ρ) fun ra ρ1 => bindO (evE b ρ1) fun rb ρ2 => match deref ρ2 ra, deref ρ2 rb with
    | some x, some y => (cmpD op x y).map fun c => (.v (.bl c), ρ2)
    | _, _ => none
  | .chain op op' a b c, ρ => bindO (evE a ρ) fun ra ρ1 => bindO (evE b ρ1) fun rb ρ2 => match ra, rb with
    | .v x, .v y => match cmpD op x y with
      | some true => bindO (evE c ρ2) fun rc ρ3 => match deref ρ3 rc with
        | some z => (cmpD op' y z).map fun k => (.v (.bl k), ρ3)
        | none => none
      | some false => some (.v (.bl false), ρ2)
      | none => none
    | _, _ => none
  | .ite c a b, ρ => bindO (evT c ρ) fun k ρ1 => match k with
    | true => evE a ρ1
    | false => evE b ρ1
  | .idx a i, ρ => bindO (evE a ρ) fun ra ρ1 => bindO (evE i ρ1) fun ri ρ2 => match deref ρ2 ra, deref ρ2 ri with
    | some x, some y => (idxD x y).map fun d => (.v d, ρ2)
    | _, _ => none
  | .sl a lo hi, ρ => bindO (evE a ρ) fun ra ρ1 => bindO (evOe lo ρ1) fun l ρ2 => bindO (evOe hi ρ2) fun h ρ3 => match deref ρ3 ra with
    | some x => (slD x l h).map fun r => (r, ρ3)
    | none => none
  | .rev a, ρ => bindO (evE a ρ) fun ra ρ1 => ((deref ρ1 ra).bind revD).map fun r => (r, ρ1)
  | .call f es, ρ => bindO (evEs es ρ) fun rs ρ1 => callF Gm Φ f rs ρ1
  | .make C es, ρ => bindO (evEs es ρ) fun rs ρ1 => makeF Gm Φ C rs ρ1
  | .callb f es, ρ => bindO (evEs es ρ) fun rs ρ1 => match derefs ρ1 rs with
    | some ds => (bltD f ds).map fun r => (r, ρ1)
    | none => none
  | .meth m o e, ρ => bindO (evE o ρ) fun ro ρ1 => bindO (evE e ρ1) fun re ρ2 => match deref ρ1 ro, deref ρ2 ro, deref ρ2 re with
    | some x0, some x, some y => if kindD x0 = kindD x then (mthD m x y).map fun d => (.v d, ρ2) else none
    | _, _, _ => none
  | .mut m i es, ρ => match eget ρ i with
    | some (true, .lst _) => bindO (evEs es ρ) fun rs ρ1 => bindO (freezes rs ρ1) fun ds ρ2 => match eget ρ2 i with
      | some (true, .lst l) => (mutD m l ds).map fun p => (.v p.2, ρ2.set i (some (true, .lst p.1)))
      | _ => none
    | _ => none
  | .attr a f, ρ => bindO (evE a ρ) fun ra ρ1 => ((deref ρ1 ra).bind (attrD Gm.fields f)).map fun d => (.v d, ρ1)
  | .comp vs tg it c e, ρ => if !tgIn vs tg then none else bindO (evIt it ρ) fun w ρ1 =>
      bindO (compGo vs (fun d ρ2 => match setItm tg d ρ2 with
        | some ρ3 => bindO (evT c ρ3) fun k ρ4 => match k with
          | true => bindO (evE e ρ4) fun r ρ5 => bindO (freeze r ρ5) fun x ρ6 => some (some x, ρ6)
          | false => some (none, ρ4)
        | none => none) w [] ρ1) fun acc ρ7 => some (.o (.lst acc), ρ7)
  | .comp2 vs vs1 tg it c tg1 it1 c1 e, ρ => if !tgIn vs tg || !tgIn vs1 tg1 || !(vs1.all fun i => vs.contains i) then none else bindO (evIt it ρ) fun w ρ1 =>
      bindO (compGo2 vs (fun d ρ2 acc => match setItm tg d ρ2 with
        | some ρ3 => bindO (evT c ρ3) fun k ρ4 => match k with
          | true => bindO (evIt it1 ρ4) fun w1 ρ5 => compGo vs1 (fun d1 ρ6 => match setItm tg1 d1 ρ6 with
            | some ρ7 => bindO (evT c1 ρ7) fun k1 ρ8 => match k1 with
              | true => bindO (evE e ρ8) fun r ρ9 => bindO (freeze r ρ9) fun x ρ10 => some (some x, ρ10)
              | false => some (none, ρ8)
            | none => none) w1 acc ρ5
          | false => some (acc, ρ4)
        | none => none) w [] ρ1) fun acc ρ7 => if acc.length ≤ line then some (.o (.lst acc), ρ7) else none
  | .dic0, ρ => some (.o (.dct [] []), ρ)
  | .dic1 k v, ρ => bindO (evE k ρ) fun rk ρ1 => bindO (evE v ρ1) fun rv ρ2 => bindO (freeze rv ρ2) fun d ρ3 => match rk with
    | .v y => (keyD y).map fun ky => (.o (.dct [ky] [d]), ρ3)
    | _ => none
  | .lrange es, ρ => bindO (evEs es ρ) fun rs ρ1 => match rs with
    | [.v (.int j)] => (rangeD 0 j).map fun l => (.o (.lst l), ρ1)
    | [.v (.int i), .v (.int j)] => (rangeD i j).map fun l => (.o (.lst l), ρ1)
    | _ => none
  | .callx f es, ρ => bindO (evEs es ρ) fun rs ρ1 => callF Gm Φ f rs ρ1
  | .makex C es, ρ => bindO (evEs es ρ) fun rs ρ1 => makeF Gm Φ C rs ρ1
  | .fnv i, ρ => if Gm.isfn i then some (.v (.fn i), ρ) else none
  | .callv i es, ρ => match eget ρ i with
    | some (false, .fn g) => bindO (evEs es ρ) fun rs ρ1 => callF Gm Φ g rs ρ1
    | _ => none
  | .word f e, ρ => match Gm.word f with
    | none => none
    | some wd => match exE e ρ with
      | some (x, ρ1) => match wd.onX x with
        | some d => if still d then some (.v d, ρ1) else none
        | none => none
      | none => bindO (evE e ρ) fun r ρ1 => bindO (freeze r ρ1) fun d ρ2 => match wd.onV d with
        | some d' => if still d' then some (.v d', ρ2) else none
        | none => none
  | .isx e k, ρ => bindO (evE e ρ) fun r ρ1 => match r with
    | .v (.exc C _ _) => (Gm.sub C k).map fun b => (.v (.bl b), ρ1)
    | _ => none
  | .isb e n, ρ => bindO (evE e ρ) fun r ρ1 => match r with
    | .v (.exc C _ _) => (Gm.subB C n).map fun b => (.v (.bl b), ρ1)
    | _ => none
  | .xattr e f, ρ => bindO (evE e ρ) fun r ρ1 => match r with
    | .v (.exc C ns ds) => if Gm.xfld C f then (getN f ns ds).map fun d => (.v d, ρ1) else none
    | _ => none
  | .eqi neg C k es, ρ => bindO (evEs es ρ) fun rs ρ1 => if twoC C (derefs ρ1 rs) = true then bindO (callF Gm Φ k rs ρ1) fun r ρ2 => (negR neg r).map fun x => (x, ρ2) else none
  | .pure e, ρ => match evE e (frzE ρ) with
    | some (r, _) => if stillR r = true then some (r, ρ) else none
    | none => none
  | .isit e ns, ρ => bindO (evE e ρ) fun r ρ1 => ((deref ρ1 r).bind (isAnyD ns)).map fun b => (.v (.bl b), ρ1)
  | .isc e C, ρ => bindO (evE e ρ) fun r ρ1 => if Gm.isk C = true then ((deref ρ1 r).bind (iscD C)).map fun b => (.v (.bl b), ρ1) else none
/-- an expression that ends with an exception -/
def exE : E → Env → Option (Exc × Env)
  | .callx f es, ρ => match exEs es ρ with
    | some x => some x
    | none => bindO (evEs es ρ) fun rs ρ1 => callX Gm Φ f rs ρ1
  | .callv i es, ρ => match eget ρ i with
    | some (false, .fn g) => match exEs es ρ with
      | some x => some x
      | none => bindO (evEs es ρ) fun rs ρ1 => callX Gm Φ g rs ρ1
    | _ => none
  | .makex C es, ρ => match exEs es ρ with
    | some x => some x
    | none => bindO (evEs es ρ) fun rs ρ1 => makeX Gm Φ C rs ρ1
  | .tup es, ρ => exEs es ρ
  | .lst es, ρ => exEs es ρ
  | .callb _ es, ρ => exEs es ρ
  | .idx a _, ρ => exE a ρ
  | .notv a, ρ => exE a ρ
  | _, _ => none
def exEs : Es → Env → Option (Exc × Env)
  | .nil, _ => none
  | .cons e r, ρ => match exE e ρ with
    | some x => some x
    | none => bindO (evE e ρ) fun _ ρ1 => exEs r ρ1
def evT : T → Env → Option (Bool × Env)
  | .yes, ρ => some (true, ρ)
  | .val e, ρ => bindO (evE e ρ) fun r ρ1 => match r with
    | .v (.bl b) => some (b, ρ1)
    | _ => none
  | .and a b, ρ => bindO (evT a ρ) fun k ρ1 => match k with
    | true => evT b ρ1
    | false => some (false, ρ1)
  | .or a b, ρ => bindO (evT a ρ) fun k ρ1 => match k with
    | true => some (true, ρ1)
    | false => evT b ρ1
  | .not a, ρ => bindO (evT a ρ) fun k ρ1 => some (!k, ρ1)
def evEs : Es → Env → Option (List R × Env)
  | .nil, ρ => some ([], ρ)
  | .cons e r, ρ => bindO (evE e ρ) fun x ρ1 => bindO (evEs r ρ1) fun xs ρ2 => some (x :: xs, ρ2)
def evOe : Oe → Env → Option (Option Int × Env)
  | .none, ρ => some (none, ρ)
  | .some e, ρ => bindO (evE e ρ) fun r ρ1 => match r with
    | .v (.int i) => some (some i, ρ1)
    | _ => none
def evIt : It → Env → Option (List Itm × Env)
  | .seq e, ρ => bindO (evE e ρ) fun r ρ1 => walkD r ρ1
  | .range1 a, ρ => bindO (evE a ρ) fun r ρ1 => match r with
    | .v (.int j) => (rangeD 0 j).map fun l => (l.map Itm.one, ρ1)
    | _ => none
  | .range2 a b, ρ => bindO (evE a ρ) fun r ρ1 => bindO (evE b ρ1) fun r' ρ2 => match r, r' with
    | .v (.int i), .v (.int j) => (rangeD i j).map fun l => (l.map Itm.one, ρ2)
    | _, _ => none
  | .zip a b, ρ => bindO (evE a ρ) fun r ρ1 => bindO (evE b ρ1) fun r' ρ2 => bindO (freeze r ρ2) fun d ρ3 => bindO (freeze r' ρ3) fun d' ρ4 => (zipD d d').map fun l => (l, ρ4)
  | .enum a, ρ => bindO (evE a ρ) fun r ρ1 => bindO (freeze r ρ1) fun d ρ2 => (enumD d).map fun l => (l, ρ2)
end
variable (fx : List Nat)
mutual
def evS : S → Env → Option (Fl × Env)
  | .asg tg e, ρ => if tgFree fx tg then bindO (evE Gm Φ e ρ) fun r ρ1 => bindO (freeze r ρ1) fun d ρ2 => (setTg tg d ρ2).map fun ρ3 => (.nx, ρ3) else none
  | .own i e, ρ => if i ∈ fx then none else bindO (evE Gm Φ e ρ) fun r ρ1 => match r with
    | .o d => if i < ρ1.length then some (.nx, ρ1.set i (some (true, d))) else none
    | r => bindO (freeze r ρ1) fun d ρ2 => if i < ρ2.length then some (.nx, ρ2.set i (some (false, d))) else none
  | .par _ ts es, ρ => bindO (evEs Gm Φ es ρ) fun rs ρ1 => if ts.all (fun t => decide (t.1 ∉ fx) && decide (t.1 < ρ1.length)) ∧ ts.length ≤ line then (prep ts rs ρ1).map fun p => (.nx, setAll ts p.1 p.2) else none
  | .setix i ix e, ρ => match eget ρ i with
    | some (true, .lst _) => bindO (evE Gm Φ e ρ) fun r ρ1 => bindO (evE Gm Φ ix ρ1) fun ri ρ2 => bindO (freeze r ρ2) fun d ρ3 => match ri, eget ρ3 i with
      | .v (.int k), some (true, .lst l) => (ixOf l.length k).map fun j => (.nx, ρ3.set i (some (true, .lst (l.set j d))))
      | _, _ => none
    | some (true, .dct _ _) => bindO (evE Gm Φ e ρ) fun r ρ1 => bindO (evE Gm Φ ix ρ1) fun ri ρ2 => bindO (freeze r ρ2) fun d ρ3 => match ri, eget ρ3 i with
      | .v y, some (true, .dct ks vs) => (keyD y).bind fun k => if ks.length < line then some (.nx, ρ3.set i (some (true, .dct (dputD k d ks vs).1 (dputD k d ks vs).2))) else none
      | _, _ => none
    | _ => none
  | .setix2 i x y es, ρ => match eget ρ i with
    | some (true, .lst _) => bindO (evEs Gm Φ es ρ) fun rs ρ1 => match rs with
      | [.v d1, .v d2] => bindO (evE Gm Φ x ρ1) fun r1 ρ2 => match r1, eget ρ2 i with
        | .v (.int k), some (true, .lst l) => match ixOf l.length k with
          | some j => bindO (evE Gm Φ y (ρ2.set i (some (true, .lst (l.set j d1))))) fun r2 ρ3 => match r2, eget ρ3 i with
            | .v (.int k2), some (true, .lst l2) => (ixOf l2.length k2).map fun j2 => (.nx, ρ3.set i (some (true, .lst (l2.set j2 d2))))
            | _, _ => none
          | none => none
        | _, _ => none
      | _ => none
    | _ => none
  | .setat i f e, ρ => bindO (evE Gm Φ e ρ) fun r ρ1 => bindO (freeze r ρ1) fun d ρ2 => match eget ρ2 i with
    | some (true, .ins C ns vs) => match Gm.fields C with
      | some fs => if f ∈ fs ∧ vs.length < 900 then some (.nx, ρ2.set i (some (true, .ins C (putN f d ns vs).1 (putN f d ns vs).2))) else none
      | none => none
    | _ => none
  | .aug i op e, ρ => if i ∈ fx then none else match eget ρ i with
    | some (false, .int x) => bindO (evE Gm Φ e ρ) fun r ρ1 => match r, op with
      | .v (.int y), .add => some (.nx, ρ1.set i (some (false, .int (x + y))))
      | .v (.int y), .sub => some (.nx, ρ1.set i (some (false, .int (x - y))))
      | _, _ => none
    | _ => none
  | .augix i ix op e, ρ => match eget ρ i with
    | some (true, .lst _) => bindO (evE Gm Φ ix ρ) fun ri ρ1 => match ri, eget ρ1 i with
      | .v (.int k), some (true, .lst l) => match (ixOf l.length k).bind fun j => l[j]? with
        | some (.int x) => bindO (evE Gm Φ e ρ1) fun r ρ2 => match r, eget ρ2 i with
          | .v (.int y), some (true, .lst l2) => match op with
            | .add => (ixOf l2.length k).map fun j => (.nx, ρ2.set i (some (true, .lst (l2.set j (.int (x + y))))))
            | .sub => (ixOf l2.length k).map fun j => (.nx, ρ2.set i (some (true, .lst (l2.set j (.int (x - y))))))
            | _ => none
          | _, _ => none
        | _ => none
      | _, _ => none
    | _ => none
  | .expr e, ρ => bindO (evE Gm Φ e ρ) fun _ ρ1 => some (.nx, ρ1)
  | .ret e, ρ => bindO (evE Gm Φ e ρ) fun r ρ1 => match r with
    | .v d => some (.rt (.v d), ρ1)
    | .o d => some (.rt (.o d), ρ1)
    | .b s => if s ∈ fx then none else match eget ρ1 s with
      | some (true, d) => some (.rt (.o d), ρ1.set s none)
      | some (false, d) => some (.rt (.v d), ρ1)
      | none => none
  | .retn, ρ => some (.rt (.v .non), ρ)
  | .ite c a b, ρ => bindO (evT Gm Φ c ρ) fun k ρ1 => match k with
    | true => evSs a ρ1
    | false => evSs b ρ1
  | .whil c b, ρ => Gm.loop (turnW (fun ρ => evT Gm Φ c ρ) fun ρ => evSs b ρ) ρ
  | .for_ tg it b, ρ => if !tgFree fx tg then none else bindO (evIt Gm Φ it ρ) fun w ρ1 => forGo (fun d ρ2 => match setItm tg d ρ2 with
    | some ρ3 => evSs b ρ3
    | none => none) w ρ1
  | .pass, ρ => some (.nx, ρ)
  | .brk, ρ => some (.brk, ρ)
  | .cnt, ρ => some (.cnt, ρ)
  | .never, _ => none
  | .rais _ _ _, _ => none
def evSs : Ss → Env → Option (Fl × Env)
  | .nil, ρ => some (.nx, ρ)
  | .cons s r, ρ => match evS s ρ with
    | some (.nx, ρ1) => evSs r ρ1
    | x => x
end
mutual
/-- a statement that ends with an exception -/
def exS : S → Env → Option (Exc × Env)
  | .expr e, ρ => exE Gm Φ e ρ
  | .ret e, ρ => exE Gm Φ e ρ
  | .asg _ e, ρ => exE Gm Φ e ρ
  | .own _ e, ρ => exE Gm Φ e ρ
  | .ite c a b, ρ => bindO (evT Gm Φ c ρ) fun k ρ1 => match k with
    | true => exSs a ρ1
    | false => exSs b ρ1
  | .rais C ns es, ρ => bindO (evEs Gm Φ es ρ) fun rs ρ1 => match derefs ρ1 rs with
    | some ds => if ds.all flatD = true ∧ ns.length = ds.length ∧ ns.length ≤ 1 then some (⟨C, ns, ds⟩, ρ1) else none
    | none => none
  | _, _ => none
def exSs : Ss → Env → Option (Exc × Env)
  | .nil, _ => none
  | .cons s r, ρ => match exS s ρ with
    | some x => some x
    | none => match evS Gm Φ fx s ρ with
      | some (.nx, ρ1) => exSs r ρ1
      | _ => none
end
end
/-- assigned slots -/
def outsOf : List Bool → Nat → Env → Option (List D)
  | [], _, _ => some []
  | true :: r, i, ρ => match eget ρ i, outsOf r (i + 1) ρ with
    | some (true, d), some ds => some (d :: ds)
    | _, _ => none
  | false :: r, i, ρ => outsOf r (i + 1) ρ
def fixed : List Bool → Nat → List Nat
  | [], _ => []
  | true :: r, i => i :: fixed r (i + 1)
  | false :: r, i => fixed r (i + 1)
/-- a def's run -/
def runF (Gm : Cfg) (Φ : Phi) (F : Fn) (as : List Arg) : Option (R × List D) :=
  if as.map (·.1) = F.io then
    match evSs Gm Φ (fixed F.io 0) F.body (as.map some ++ List.replicate (F.ns - F.np) none) with
    | some (.nx, ρ) => (outsOf F.io 0 ρ).map fun o => (.v .non, o)
    | some (.rt (.v d), ρ) => (outsOf F.io 0 ρ).map fun o => (.v d, o)
    | some (.rt (.o d), ρ) => (outsOf F.io 0 ρ).map fun o => (.o d, o)
    | _ => none
  else none
/-- a def's run that ends with an exception -/
def runX (Gm : Cfg) (Φ : Phi) (F : Fn) (as : List Arg) : Option (R × List D) :=
  if as.map (·.1) = F.io then
    match exSs Gm Φ (fixed F.io 0) F.body (as.map some ++ List.replicate (F.ns - F.np) none) with
    | some (x, _) => some (.v (.exc x.C x.ns x.ds), [])
    | none => none
  else none
def phi (Gm : Cfg) (tab : Nat → Option Fn) : Nat → Phi
  | 0 => fun _ _ => none
  | n + 1 => fun f as => match tab f with
    | some F => runF Gm (phi Gm tab n) F as
    | none => if xb ≤ f then match tab (f - xb) with
      | some F => runX Gm (phi Gm tab n) F as
      | none => none
      else none
end Mi
set_option Elab.async false
set_option linter.all false
set_option maxRecDepth 100000
set_option maxHeartbeats 2000000
namespace Mi
open PySem PySem.Spec PyProof.Rows L2
section
variable {prog : Program} {w : World} {A : Around} {E : Value → Shared → Prop} {s : Shared}
theorem sliceApplied_back {sl : Addr} {t : Tok} {n : Nat} {Q : Int × Int × Nat → Shared → Prop} (hs : s.heap.IsSliceOf sl .none .none (.int (-1) t))
    (h : Q ((n : Int) - 1, -1, n) s) : wpAny (model prog w) A (Builtin.Slice.sliceApplied (.ref sl) (pure (n : Int))) Q E s := by
  obtain ⟨os, hos, hcs, hds⟩ := id hs
  unfold Builtin.Slice.sliceApplied Builtin.Slice.sliceFields
  refine wpAny_bind (wpAny_bind (wpAny_field hos hds (x := .none) rfl (wpAny_bind (wpAny_field hos hds (x := .none) rfl (wpAny_bind (wpAny_field hos hds (x := .int (-1) t) rfl (wpAny_pure ?_)))))))
  refine wpAny_bind (slicePart_int ?_)
  show wpAny _ _ (if ((-1 : Int) == 0) = true then _ else _) _ _ s
  rw [if_neg (by decide)]
  refine wpAny_bind (slicePart_none (wpAny_bind (slicePart_none (wpAny_bind (wpAny_pure ?_)))))
  show wpAny _ _ (match Builtin.Slice.sliceAdjust none none (-1) (n : Int) with | (lo, hi) => pure (lo, (-1 : Int), Builtin.Slice.slicePlaces lo hi (-1))) _ _ s
  have e : Builtin.Slice.slicePlaces ((n : Int) - 1) (-1) (-1) = n := by
    unfold Builtin.Slice.slicePlaces
    have h1 : ¬ ((-1 : Int) > 0) := by omega
    simp only [h1, if_false, Int.neg_neg, Int.ediv_one]
    split <;> omega
  show wpAny _ _ (pure ((n : Int) - 1, (-1 : Int), Builtin.Slice.slicePlaces ((n : Int) - 1) (-1) (-1))) _ _ s
  rw [e]
  exact wpAny_pure h
theorem fm_some {α β : Type} {f : α → Option β} {g : α → β} : ∀ {l : List α}, (∀ m ∈ l, f m = some (g m)) → l.filterMap f = l.map g
  | [], _ => rfl
  | x :: r, h => by
    rw [List.filterMap_cons, h x List.mem_cons_self, List.map_cons, fm_some fun m hm => h m (List.mem_cons_of_mem _ hm)]
theorem pick_back (xs : List Value) : ((List.range xs.length).filterMap fun (m : Nat) => xs.toArray[(((xs.length : Nat) : Int) - 1 + (m : Int) * -1).toNat]?).toArray = xs.reverse.toArray := by
  congr 1
  apply List.ext_getElem?
  intro i
  have e : (List.range xs.length).filterMap (fun (m : Nat) => xs.toArray[(((xs.length : Nat) : Int) - 1 + (m : Int) * -1).toNat]?) = (List.range xs.length).map fun m => xs.getD (xs.length - 1 - m) .none := by
    apply fm_some
    intro m hm
    have hm := List.mem_range.mp hm
    have e1 : (((xs.length : Nat) : Int) - 1 + (m : Int) * -1).toNat = xs.length - 1 - m := by omega
    rw [e1]
    have h2 : xs.length - 1 - m < xs.length := by omega
    simp [List.getD, h2]
  rw [e]
  by_cases h : i < xs.length
  · rw [List.getElem?_reverse h]
    have h2 : xs.length - 1 - i < xs.length := by omega
    simp [List.getD, h, h2]
  · rw [List.getElem?_eq_none (by simp; omega), List.getElem?_eq_none (by simp; omega)]
theorem getItem_tuple_back {t sl : Addr} {its : List Value} {tk : Tok} {Q : Value → Shared → Prop} (ht : IsTup s.heap t its.toArray) (hs : s.heap.IsSliceOf sl .none .none (.int (-1) tk))
    (h : Q (.ref s.heap.objs.size) { s with heap := s.heap.push { cls := .type "tuple", data := .seq its.reverse.toArray } })
    (hsz : its.length ≤ sizeLine) : wpAny (model prog w) A (getItem (.ref t) (.ref sl)) Q E s := by
  have htake : sizeOk (.seq its.reverse.toArray) := by
    show its.reverse.toArray.size ≤ sizeLine
    rw [List.size_toArray, List.length_reverse]
    exact hsz
  obtain ⟨os, hos, hcs, hds⟩ := id hs
  have hTs : s.TypeIs (.ref sl) "slice" := ⟨os, hos, hcs⟩
  unfold getItem
  try with_reducible refine wpAny_holding ?_
  first | refine wpAny_bind (wpAny_pure ?_) | skip
  refine wpAny_bind (wpAny_sequenceKey ht.typeIs (by decide) ?_)
  refine wpAny_bind (wpAny_callSpecial?_slot (name := Str.ofString "__getitem__") ht.typeIs PyProof.Rows.slot_tuple_getitem
    (wpAny_call_entry PyProof.Rows.slot_tuple_getitem ht.typeIs entry_tuple_getitem ?_ (args_tuple_getitem _ _)))
  show wpAny _ _ (Builtin.Tuple.tupleItemsOf (.ref t) >>= _) _ _ s
  refine wpAny_bind (tupleItemsOf_ ht ?_)
  refine wpAny_bind (wpAny_typeOf hTs ?_)
  rw [if_pos (by decide)]
  have el : its.toArray.size = its.length := List.size_toArray ..
  rw [el]
  refine wpAny_bind (sliceApplied_back hs ?_)
  have hno : ¬ ((((its.length : Nat) : Int) - 1 == 0 && (-1 : Int) == 1 && its.length == its.length) = true) := by
    intro q
    rw [Bool.and_eq_true, Bool.and_eq_true] at q
    have q1 := q.1.2
    exact absurd q1 (by decide)
  show wpAny _ _ (if (((its.length : Nat) : Int) - 1 == 0 && (-1 : Int) == 1 && its.length == its.length) = true then _ else _) _ _ s
  rw [if_neg hno, pick_back]
  first
    | exact wpAny_bind (m := Builtin.Tuple.tupleExact _) (wpAny_newObj_type (wpAny_pure ⟨_, rfl, wpAny_pure h⟩) htake)
    | exact wpAny_bind (m := Builtin.Tuple.tupleExact _) (wpAny_newObj_type (wpAny_bind (wpAny_pure (wpAny_pure ⟨_, rfl, wpAny_pure h⟩))) htake)
    | exact wpAny_bind (wpAny_bind (m := Builtin.Tuple.tupleExact _) (wpAny_newObj_type (wpAny_pure (wpAny_pure ⟨_, rfl, wpAny_pure h⟩)) htake))
    | exact wpAny_bind (wpAny_bind (m := Builtin.Tuple.tupleExact _) (wpAny_newObj_type (wpAny_pure ⟨_, rfl, wpAny_pure h⟩) htake))
end
section
variable {X : Cx} {e : Expr} {te : TE} {pos p1 p2 p3 : Pos} {k : Nat}
/-- a tuple whose object is known to bear no dict -/
def TupAt (K : PySem.W.Frag) (H : Hp) (a : Addr) (xs : List V) : Prop := (∃ o, H a = some (.frz o (.tup xs)) ∧ o.dict = none) ∨
  ∃ (o : Obj) (its : Array Value) (n : Nat), K.lookup a = some o ∧ o.cls = .type "tuple" ∧ o.dict = none ∧ o.data = .seq its n ∧ its.size ≤ sizeLine ∧ Vals xs its.toList
theorem TupAt.sqT {K : PySem.W.Frag} {H : Hp} {a : Addr} {xs : List V} (h : TupAt K H a xs) : SqT K H a xs := by
  rcases h with ⟨o, h, _⟩ | ⟨o, its, n, h1, h2, _, h3, h4, h5⟩
  · exact .inl (.inr ⟨o, h⟩)
  · exact .inr ⟨o, its, n, h1, h2, h3, h4, h5⟩
/-- a new tuple of these -/
def NewT (xs : List V) (H : Hp) (Q : VK) : Prop := ∀ p o, H p = none → o.dict = none → Q (.ref p) (upd H p (.frz o (.tup xs)))
theorem tup_laid {X : Cx} {pins : List (Addr × Obj)} {σ : L2.St} {H : Hp} {s : Shared} {Q : VK} {xs : List V} {us : List Value} {n : Nat} {t : Nat} (I : Inv X pins σ H s) (r : Vals xs us) (z : xs.length ≤ sizeLine) (q : NewT xs H Q) :
    EP X pins σ Q (.ref s.heap.objs.size) { s with heap := s.heap.push { cls := .type "tuple", data := .seq us.toArray n }, toks := t } := by
  have hf : H s.heap.objs.size = none := I.hok.fresh (Nat.le_refl _)
  refine ⟨.ref s.heap.objs.size, _, I.laid (t' := t) (o := .frz { cls := .type "tuple", data := .seq us.toArray n } (.tup xs)) (fun b u e => Heap.get?_push_of_some _ e) (Nat.le_refl _) ?_, rfl, q _ _ hf rfl⟩
  exact ⟨Heap.get?_push_size _ rfl, z, us, r, ⟨_, Heap.get?_push_size _ rfl, rfl, _, rfl⟩⟩
def rRev (K : PySem.W.Frag) : V → Hp → VK → Prop := fun x H Q => (∃ a xs, x = .ref a ∧ SqL K H a xs ∧ ∀ p, H p = none → Q (.ref p) (upd H p (.lst xs.reverse))) ∨
  (∃ a xs, x = .ref a ∧ SqT K H a xs ∧ NewT xs.reverse H Q)
theorem pe_rev (he : PE X e te) : PE X (.Subscript e (.Slice none none (some (.UnaryOp .USub (.Constant (.int 1) k p1) p2)) p3) pos) (tUn (rRev X.K) te) := by
  refine ⟨fun pins s σ H Q I h => ?_⟩
  refine Subscript_ (thn (he.run pins s σ H _ I h) fun v s1 ⟨x, H1, I1, r1, q1⟩ => ?_)
  refine wpAny_Slice ?_
  rw [evalPart_none]
  refine wpAny_pure (wpAny_pure ?_)
  rw [evalPart_some]
  have hm : PE X (.UnaryOp .USub (.Constant (.int 1) k p1) p2) (tUn (rU fun i => .int (-i)) (tC (.int 1))) := pe_un un_neg pe_int
  refine thn (hm.run pins s1 σ H1 (fun y H' => y = .int (-1) ∧ H' = H1) I1 ⟨1, rfl, rfl, rfl⟩) fun st s3 ⟨y, H3, I3, r3, e3, e4⟩ => ?_
  subst e3 e4
  obtain ⟨tk, rfl⟩ := r3
  have I4 : Inv X pins σ H3 { s3 with heap := s3.heap.push { cls := .type "slice", data := .fields #[.none, .none, .int (-1) tk] } } := I3.kept (t' := s3.toks) fun b ob q => Heap.get?_push_of_some _ q
  show wpAny (model X.prog X.w) X.A (subscriptTail e (.Slice none none (some (.UnaryOp .USub (.Constant (.int 1) k p1) p2)) p3) v (.ref s3.heap.objs.size)) (EP X pins σ Q) X.xe { s3 with heap := s3.heap.push { cls := .type "slice", data := .fields #[.none, .none, .int (-1) tk] } }
  rcases q1 with ⟨a, xs, rfl, hx, q⟩ | ⟨a, xs, rfl, hx, q⟩
  · cases r1
    obtain ⟨its, r, hl, hz⟩ := I4.list hx
    have hlen : its.toArray.size = xs.length := by rw [List.size_toArray]; exact r.length.symm
    refine tail_any (ops := [.ref a, .ref s3.heap.objs.size]) hl.isList.typeIs list_getitem_lookup ?_ (by with_unfolding_all rfl)
    refine wpAny_getItem_list_slice hl.isList (Heap.IsSliceOf.new ..) .none .none (.int (-1) tk) (by decide) ?_ (by rw [hlen]; exact hz)
    rw [PySem.W.krv_pick]
    refine ⟨.ref _, _, I4.laid (t' := s3.toks) (o := .lst xs.reverse) (fun b ob q => Heap.get?_push_of_some _ q) (Nat.le_refl _) ?_, rfl, q _ (I4.hok.fresh (Nat.le_refl _))⟩
    exact ⟨by rw [List.length_reverse]; exact hz, its.reverse, 0, r.reverse, Heap.get?_push_size _ rfl⟩
  · cases r1
    obtain ⟨its, r, ht, hz⟩ := I4.tuple hx
    have hlen : its.length = xs.length := r.length.symm
    refine tail_any (ops := [.ref a, .ref s3.heap.objs.size]) ht.typeIs PyProof.Rows.slot_tuple_getitem.lookup ?_ (by with_unfolding_all rfl)
    refine getItem_tuple_back ht (Heap.IsSliceOf.new ..) ?_ (by rw [hlen]; exact hz)
    exact tup_laid (t := s3.toks) I4 r.reverse (by rw [List.length_reverse]; exact hz) q
end
end Mi
set_option Elab.async false
set_option linter.all false
set_option maxRecDepth 100000
set_option maxHeartbeats 2000000
namespace Mi
open PySem PySem.Spec PyProof.Rows L2
def pyB : BOp → Operator
  | .add => .Add | .sub => .Sub | .mul => .Mult | .fdiv => .FloorDiv | .mod => .Mod | .pow => .Pow
def pyC : COp → CmpOp
  | .lt => .Lt | .le => .LtE | .gt => .Gt | .ge => .GtE | .eq => .Eq | .ne => .NotEq | .inn => .In | .nin => .NotIn | .iss => .Is | .isn => .IsNot
def SqA (K : PySem.W.Frag) (H : Hp) (a : Addr) (xs : List V) : Prop := SqL K H a xs ∨ SqT K H a xs
def rLen (K : PySem.W.Frag) : List V → Hp → VK → Prop := fun xs H Q => ∃ p ys, xs = [.ref p] ∧ SqA K H p ys ∧ Q (.int ys.length) H
def rMinI (K : PySem.W.Frag) : List V → Hp → VK → Prop := fun vs H Q => ∃ (a : Addr) (ns : List Int), vs = [V.ref a] ∧ SqA K H a (ns.map V.int) ∧ 0 < ns.length ∧ ∀ m, m ∈ ns → (∀ y, y ∈ ns → m ≤ y) → Q (.int m) H
def rSumI (K : PySem.W.Frag) : List V → Hp → VK → Prop := fun vs H Q => ∃ (a : Addr) (ns : List Int), vs = [V.ref a] ∧ SqA K H a (ns.map V.int) ∧ Q (.int ns.sum) H
def rMaxI (K : PySem.W.Frag) : List V → Hp → VK → Prop := fun vs H Q => ∃ (a : Addr) (ns : List Int), vs = [V.ref a] ∧ SqA K H a (ns.map V.int) ∧ 0 < ns.length ∧ ∀ m, m ∈ ns → (∀ y, y ∈ ns → y ≤ m) → Q (.int m) H
def rLenSet (K : PySem.W.Frag) : List V → Hp → VK → Prop := fun vs H Q => ∃ (l : Addr) (ns : List Int), vs = [V.ref l] ∧ SqT K H l (ns.map V.int) ∧ ns.length < 64 ∧ ∀ out : List Int, out.Nodup → (∀ k, k ∈ out ↔ k ∈ ns) → Q (.int out.length) H
def rList (K : PySem.W.Frag) : List V → Hp → VK → Prop := fun xs H Q => ∃ p ys, xs = [.ref p] ∧ (SqL K H p ys ∨ SqT K H p ys) ∧ ∀ l, H l = none → Q (.ref l) (upd H l (.lst ys))
def rAbs : List V → Hp → VK → Prop := fun xs H Q => ∃ i, xs = [.int i] ∧ Q (.int (if i < 0 then -i else i)) H
def rInt : List V → Hp → VK → Prop := fun xs H Q => (∃ i, xs = [.int i] ∧ Q (.int i) H) ∨ ∃ k, xs = [.bl k] ∧ Q (.int (if k then 1 else 0)) H
def orC (r r' : List V → Hp → VK → Prop) : List V → Hp → VK → Prop := fun xs H Q => r xs H Q ∨ r' xs H Q
def rMin2 : List V → Hp → VK → Prop := fun xs H Q => ∃ i j, xs = [.int i, .int j] ∧ Q (.int (if j < i then j else i)) H
def rMax2 : List V → Hp → VK → Prop := fun xs H Q => ∃ i j, xs = [.int i, .int j] ∧ Q (.int (if j > i then j else i)) H
/-- the ints of a list read -/
theorem readsAll_ints {h : Heap} : ∀ {ns : List Int} {us : List Value}, IntsAre us ns → ReadsAll h us (ns.map PyData.int) []
  | _, _, .nil => .nil
  | _, _, .cons n t r => by
    have := readsAll_ints (h := h) r
    exact ReadsAll.cons (as := []) (bs := []) (Reads.int n t) this
theorem alike_ints (ns : List Int) : PySem.W.AlikeAll (ns.map PyData.int) := by
  refine ⟨fun x hx y hy => ?_, fun x hx => ?_⟩
  · obtain ⟨i, _, rfl⟩ := List.mem_map.mp hx
    obtain ⟨j, _, rfl⟩ := List.mem_map.mp hy
    simp [PySem.W.alike]
  · obtain ⟨i, _, rfl⟩ := List.mem_map.mp hx
    exact fun z => nomatch z
theorem foldl_min_mem : ∀ (ns : List Int) (n : Int), ns.foldl min n ∈ n :: ns ∧ ∀ y ∈ n :: ns, ns.foldl min n ≤ y
  | [], n => ⟨List.mem_cons_self, fun y hy => by simp at hy; subst hy; exact Int.le_refl _⟩
  | k :: r, n => by
    obtain ⟨h1, h2⟩ := foldl_min_mem r (min n k)
    rw [List.foldl_cons]
    refine ⟨?_, fun y hy => ?_⟩
    · rcases List.mem_cons.mp h1 with e | e
      · rw [e]
        by_cases h : n ≤ k
        · rw [Int.min_eq_left h]; exact List.mem_cons_self
        · rw [Int.min_eq_right (by omega)]; exact List.mem_cons_of_mem _ List.mem_cons_self
      · exact List.mem_cons_of_mem _ (List.mem_cons_of_mem _ e)
    · have h3 := h2 (min n k) List.mem_cons_self
      rcases List.mem_cons.mp hy with e | e
      · subst e; omega
      · rcases List.mem_cons.mp e with e | e
        · subst e; omega
        · exact h2 y (List.mem_cons_of_mem _ e)
theorem foldl_max_mem : ∀ (ns : List Int) (n : Int), ns.foldl max n ∈ n :: ns ∧ ∀ y ∈ n :: ns, y ≤ ns.foldl max n
  | [], n => ⟨List.mem_cons_self, fun y hy => by simp at hy; subst hy; exact Int.le_refl _⟩
  | k :: r, n => by
    obtain ⟨h1, h2⟩ := foldl_max_mem r (max n k)
    rw [List.foldl_cons]
    refine ⟨?_, fun y hy => ?_⟩
    · rcases List.mem_cons.mp h1 with e | e
      · rw [e]
        by_cases h : k ≤ n
        · rw [Int.max_eq_left h]; exact List.mem_cons_self
        · rw [Int.max_eq_right (by omega)]; exact List.mem_cons_of_mem _ List.mem_cons_self
      · exact List.mem_cons_of_mem _ (List.mem_cons_of_mem _ e)
    · have h3 := h2 (max n k) List.mem_cons_self
      rcases List.mem_cons.mp hy with e | e
      · subst e; omega
      · rcases List.mem_cons.mp e with e | e
        · subst e; omega
        · exact h2 y (List.mem_cons_of_mem _ e)
section
variable {X : Cx}
theorem cr_len : CallR X (.builtin "len") (rLen X.K) := call_len_seq
theorem cr_sumI (hc : X.calm = true) : CallR X (.builtin "sum") (rSumI X.K) := by
  intro pins s σ H vs us Q I r h
  obtain ⟨a, ns, rfl, hs, q⟩ := h
  rcases hs with hs | hs
  · exact cr_sum hc pins s σ H _ us Q I r ⟨a, ns, rfl, hs, q⟩
  · obtain ⟨its, rv, ht, _⟩ := I.tuple hs
    rw [Vals.ref1 r]
    have hl : s.heap.IsTuple a its.toArray := ht
    have hi : IntsAre its.toArray.toList ns := by simpa using rv.ints
    obtain ⟨xs, e⟩ := hi.allInts.items
    have hn : numsOf (intItems xs).toList = ns := by rw [← e]; exact hi.numsOf
    rw [nums_intItems] at hn
    rw [e] at hl
    refine PySem.W.ktm_sumG (I.ok.hd hc) hl fun h' tk t' hk => ⟨.int _, H, I.kept hk, ⟨_, rfl⟩, ?_⟩
    rw [preSum_eq, List.take_of_length_le (by simp), hn]
    exact q
theorem cr_maxI (hc : X.calm = true) (hu : X.A.units + 65 < cLine) : CallR X (.builtin "max") (rMaxI X.K) := by
  intro pins s σ H vs us Q I r h
  obtain ⟨a, ns, rfl, hs, hne, q⟩ := h
  rcases hs with hs | hs
  · exact cr_max hc pins s σ H _ us Q I r ⟨a, ns, rfl, hs, hne, q⟩
  · obtain ⟨its, rv, ht, _⟩ := I.tuple hs
    rw [Vals.ref1 r]
    cases ns with
    | nil => simp at hne
    | cons n ns =>
      refine PySem.W.max_tuple_data (I.ok.hd hc) (show s.heap.IsTuple a its.toArray from ht) (x := .int n) (xs := ns.map .int) (as := []) ?_ (alike_ints (n :: ns)) ?_ fun i v h' tk bs _ hr hk => ?_
      · have := readsAll_ints (h := s.heap) rv.ints
        simpa using this
      · have e : PyData.depthAll (PyData.int n :: ns.map .int) = 0 := PyProof.Rows.depthAll_ints (n :: ns)
        rw [e]; omega
      · rw [PySem.W.maxD_ints] at hr
        cases hr
        obtain ⟨h1, h2⟩ := foldl_max_mem ns n
        exact ⟨.int _, H, I.kept hk, ⟨_, rfl⟩, q _ h1 h2⟩
/-- list(range(n)) -/
def tLrange (ta : TA) : TE := fun σ H Q => ta σ H fun vs H1 => (∃ j : Int, vs = [.int j] ∧ j ≤ 16777216 ∧ -16777216 ≤ j ∧ ∀ l, H1 l = none → Q (.ref l) (upd H1 l (.lst ((List.range j.toNat).map fun (i : Nat) => V.int i)))) ∨
  (∃ i j : Int, vs = [.int i, .int j] ∧ i ≤ 16777216 ∧ -16777216 ≤ i ∧ j ≤ 16777216 ∧ -16777216 ≤ j ∧ (j - i).toNat ≤ 16777216 ∧ ∀ l, H1 l = none → Q (.ref l) (upd H1 l (.lst ((List.range (j - i).toNat).map fun (k : Nat) => V.int (i + k)))))
end
end Mi
set_option Elab.async false
set_option linter.all false
set_option maxRecDepth 100000
set_option maxHeartbeats 2000000
namespace Mi
open PySem PySem.Spec PyProof.Rows L2
section
variable {X : Cx} {es : List Expr} {t : TA} {pos : Pos}
def tTupN (t : TA) : TE := fun σ H Q => t σ H fun xs H1 => xs.length ≤ sizeLine ∧ NewT xs H1 Q
theorem pe_tupN {x1} (h : PA X es t) : PE X (.Tuple es x1 pos) (tTupN t) := by
  refine ⟨fun pins s σ H Q I hq => ?_⟩
  refine wpAny_Tuple_spliced (thn (h.run pos pins s σ H _ I hq) fun us s1 ⟨xs, H1, I1, r, z, q⟩ => ⟨by rw [← r.length]; exact z, ?_⟩)
  exact tup_laid (t := s1.toks) I1 r z q
/-- t + u -/
def rCatN (K : PySem.W.Frag) : R2 := fun x y H Q => ∃ a b xs ys, x = .ref a ∧ y = .ref b ∧ SqT K H a xs ∧ SqT K H b ys ∧ xs.length + ys.length ≤ sizeLine ∧
  (xs = [] → Q (.ref b) H) ∧ (xs ≠ [] → ys = [] → Q (.ref a) H) ∧ (xs ≠ [] → ys ≠ [] → NewT (xs ++ ys) H Q)
theorem op_catN : OpR X (binaryOp .Add) (rCatN X.K) := by
  intro pins s σ H x y v u Q I rx ry h
  obtain ⟨a, b, xs, ys, rfl, rfl, ha, hb, hz, q0, q1, q2⟩ := h
  by_cases hx : xs = []
  · exact op_catA pins s σ H _ _ v u Q I rx ry ⟨a, b, xs, ys, rfl, rfl, ha, hb, hz, q0, q1, fun z => absurd hx z⟩
  by_cases hy : ys = []
  · exact op_catA pins s σ H _ _ v u Q I rx ry ⟨a, b, xs, ys, rfl, rfl, ha, hb, hz, q0, q1, fun _ z => absurd hy z⟩
  cases rx
  cases ry
  obtain ⟨its, r1, p1, _⟩ := I.tuple ha
  obtain ⟨its2, r2, p2, _⟩ := I.tuple hb
  have l1 := r1.length
  have l2 := r2.length
  refine HT.cat_tup p1 p2 (fun z => hx (r1.nil_iff.mp z)) (fun z => ⟨.ref a, H, I, rfl, q1 hx (r2.nil_iff.mp z)⟩) (fun z => ?_) (by rw [← r1.length, ← r2.length]; exact hz)
  exact tup_laid (t := s.toks) I (r1.append r2) (by rw [List.length_append]; exact hz) (q2 hx hy)
def rSlN (K : PySem.W.Frag) : V → Option Int → Option Int → Hp → VK → Prop := fun x lo hi H Q => ∃ a xs, x = .ref a ∧ SqT K H a xs ∧
  (HT.sIx xs.length 0 lo = 0 ∧ HT.sIx xs.length xs.length hi = xs.length → Q (.ref a) H) ∧ (¬ (HT.sIx xs.length 0 lo = 0 ∧ HT.sIx xs.length xs.length hi = xs.length) → NewT (cutV xs lo hi) H Q)
theorem sl_tupN : SlR X (rSlN X.K) := by
  intro pins s σ H x v vl vu lo hi sl Q I rx hs pl pu h
  obtain ⟨a, xs, rfl, hx, q1, q2⟩ := h
  by_cases hw : HT.sIx xs.length 0 lo = 0 ∧ HT.sIx xs.length xs.length hi = xs.length
  · exact sl_tupA pins s σ H _ v vl vu lo hi sl Q I rx hs pl pu ⟨a, xs, rfl, hx, q1, fun z => absurd hw z⟩
  · cases rx
    obtain ⟨its, r, ht, hz⟩ := I.tuple hx
    have hlen : its.toArray.size = xs.length := by rw [List.size_toArray]; exact r.length.symm
    refine ⟨"tuple", _, PyProof.Rows.slot_tuple_getitem.lookup, ht.typeIs, ?_⟩
    refine HT.getItem_tuple_cut ht hs pl pu (by rw [hlen]; exact hw) ?_ (by rw [hlen]; exact hz)
    rw [hlen]
    exact tup_laid (t := s.toks) I ((r.drop (HT.sIx xs.length 0 lo)).take (HT.sIx xs.length xs.length hi - HT.sIx xs.length 0 lo)) (Nat.le_trans (cutV_length xs lo hi) hz) (q2 hw)
def rTuple (K : PySem.W.Frag) : List V → Hp → VK → Prop := fun xs H Q => ∃ p ys, xs = [.ref p] ∧ ((SqL K H p ys ∧ NewT ys H Q) ∨ (SqT K H p ys ∧ Q (.ref p) H))
theorem call_tupleN : CallR X (.type "tuple") (rTuple X.K) := by
  intro pins s σ H xs us Q I r h
  obtain ⟨p, ys, rfl, h⟩ := h
  obtain ⟨u, rfl, rx⟩ := vals1 r
  cases rx
  rcases h with ⟨hq, q⟩ | ⟨hq, q⟩
  · obtain ⟨its, r', pl, hz⟩ := I.list hq
    have hlen := r'.length
    refine call_tuple_list pl.isList (fun h' kp => ?_) (by simp only [List.size_toArray] <;> omega)
    have I1 : Inv X pins σ H { s with heap := h' } := I.kept (t' := s.toks) kp
    exact tup_laid (t := s.toks) I1 r' hz q
  · obtain ⟨its, r', pl, hz⟩ := I.tuple hq
    exact call_tuple_same pl ⟨.ref p, H, I, rfl, q⟩
/-- of a built-in type, its object without a dict -/
def TyD (K : PySem.W.Frag) (T : String) (x : V) (H : Hp) : Prop := tyV K T x H ∨ (T = "tuple" ∧ ∃ a xs, x = .ref a ∧ TupAt K H a xs)
theorem tyD_is {pins : List (Addr × Obj)} {σ : L2.St} {H : Hp} {s : Shared} {T : String} {x : V} {v : Value} (I : Inv X pins σ H s) (r : RelV x v) (ty : TyD X.K T x H) :
    s.TypeIs v T ∧ ∀ a, v = .ref a → ∃ ob, s.heap.get? a = some ob ∧ ob.dict = none := by
  rcases ty with ty | ⟨rfl, a, xs, rfl, ty⟩
  · exact tyV_is I r ty
  · cases r
    rcases ty with ⟨o, h, hd⟩ | ⟨o, its, n, h, hc, hd, _⟩
    · obtain ⟨e, _, its, _, ob, e2, hc, _⟩ := (show ObjOk X.prog X.w H s.heap a (.frz o (.tup xs)) from I.hok a _ h)
      rw [e] at e2; cases e2
      exact ⟨⟨o, e, hc⟩, fun b eb => by cases eb; exact ⟨o, e, hd⟩⟩
    · exact ⟨⟨o, I.kIn a o h, hc⟩, fun b eb => by cases eb; exact ⟨o, I.kIn a o h, hd⟩⟩
def tBD (K : PySem.W.Frag) (T : String) (r : V → List V → Hp → VK → Prop) (to : TE) (t : TA) : TE := fun σ H Q => to σ H fun x H1 => TyD K T x H1 ∧ t σ H1 fun xs H2 => r x xs H2 Q
theorem pe_bd {o e : Expr} {es : List Expr} {to : TE} {t : TA} {name : Str} {apos cpos : Pos} {T id : String} {r : V → List V → Hp → VK → Prop}
    (pa : PlainAttrs T) (slot : Slot T name id) (hty : typeOf (.builtin id) = pure (.type "method_descriptor")) (hm : MtR X id r) (ho : PE X o to) (ha : PA X (e :: es) t)
    (hbase : attributeBase o name X.env (eval o X.env) = eval o X.env := by rfl)
    (hfew : ((backTo cpos (starEach (e :: es) X.env)).all (fun x => !x.1) && (backToKw cpos (keywordEach [] X.env)).all (fun x => x.1.isSome)
      && decide ((e :: es).length + ([] : List Keyword).length + (if ([] : List Keyword).isEmpty then 0 else 1) < 30)) = true := by rfl)
    (hline : (apos.endLine == cpos.line) = true := by rfl) (hs : starEach (e :: es) X.env = (false, eval e X.env) :: starEach es X.env := by rfl) (hplain : (backTo cpos (starEach es X.env)).any (·.1) = false := by rfl) :
    PE X (.Call (.Attribute o name apos) (e :: es) [] cpos) (tBD X.K T r to t) := by
  refine ⟨fun pins s σ H Q I h => ?_⟩
  refine wpAny_Call_method_late hbase hfew hline rfl (thn (ho.run pins s σ H _ I h) fun v s1 ⟨x, H1, I1, r1, ty, q1⟩ => ?_)
  obtain ⟨h1, h2⟩ := tyD_is I1 r1 ty
  refine ⟨T, id, pa, slot, hty, h1, h2, ?_⟩
  have hA := ha.run cpos pins s1 σ H1 _ I1 q1
  rw [hs] at hA ⊢
  refine Calls.callWith_builtin (by show (false || (backTo cpos (starEach es X.env)).any (·.1)) = false; rw [hplain] <;> rfl) (Calls.evalArgs_plain ?_)
  exact thn hA fun us s2 ⟨vs, H2, I2, r2, q2⟩ => hm pins s2 σ H2 x vs v us Q I2 r1 r2 q2
end
end Mi
set_option Elab.async false
set_option linter.all false
set_option maxRecDepth 100000
set_option maxHeartbeats 2000000
namespace Mi
open PySem PySem.Spec PyProof.Rows L2
section
variable {X : Cx}
def rInK (neg : Bool) : R2 := fun x y H Q => ∃ a o, y = .ref a ∧ DGet H a x o ∧ Q (.bl (if neg then !o.isSome else o.isSome)) H
theorem op_inK (hu : X.A.units + 1 < cLine) : OpR X (compareOp .In) (rInK false) := fun pins s σ H x y v u Q I rx ry ⟨a, o, ey, g, q⟩ => by
  subst ey
  cases (show u = Value.ref a from ry)
  exact d_in hu I g rx fun s3 I3 => ⟨.bl _, H, I3, rfl, q⟩
theorem op_ninK (hu : X.A.units + 1 < cLine) : OpR X (compareOp .NotIn) (rInK true) := fun pins s σ H x y v u Q I rx ry ⟨a, o, ey, g, q⟩ => by
  subst ey
  cases (show u = Value.ref a from ry)
  exact d_notIn hu I g rx fun s3 I3 => ⟨.bl _, H, I3, rfl, q⟩
def rSetA : TSet := fun o i v H Q => rSetL o i v H Q ∨ rSetD o i v H Q
theorem set_any (hu : X.A.units + 1 < cLine) : PSet X rSetA := fun pins s σ H o i v ov iv u Q I ro ri rv h => h.elim (set_list pins s σ H o i v ov iv u Q I ro ri rv) (set_dict hu pins s σ H o i v ov iv u Q I ro ri rv)
def rLenD : List V → Hp → VK → Prop := fun xs H Q => ∃ a kvs, xs = [V.ref a] ∧ H a = some (.dK kvs) ∧ Q (.int kvs.length) H
def rSortD : List V → Hp → VK → Prop := fun xs H Q => ∃ (a : Addr) (kvs : List (Key × V)) (ks : List Int), xs = [.ref a] ∧ Rd H a (.dK kvs) ∧ kvs.map (·.1) = ks.map Sum.inl ∧ ks.length < 64 ∧ ∀ (ys : List Int) (p : Addr), ys.Perm ks → ys.Pairwise (· ≤ ·) → H p = none → Q (.ref p) (upd H p (.lst (ys.map V.int)))
def rRepr (K : PySem.W.Frag) : List V → Hp → VK → Prop := fun xs H Q => ∃ x, xs = [x] ∧ ((∃ d, Dp K H x d ∧ d.showable = true ∧ d.depth ≤ 60 ∧ d.shown.length ≤ sizeLine ∧ Q (.str d.shown) H) ∨ ∃ a, x = .ref a ∧ H a = some (.dK []) ∧ Q (.str (PyData.dict []).shown) H)
theorem dp_nodict {K : PySem.W.Frag} {H : Hp} : ∀ (d : PyData) (v : V), Dp K H v d → d.hasDict = false
  | .none, _, _ => by simp only [PyData.hasDict]
  | .bool _, _, _ => by simp only [PyData.hasDict]
  | .int _, _, _ => by simp only [PyData.hasDict]
  | .str _, _, _ => by simp only [PyData.hasDict]
  | .list ds, _, h => by
    cases h with
    | lst _ ha => simp only [PyData.hasDict]; exact all ds _ ha
  | .tuple ds, _, h => by
    cases h with
    | tup _ ha => simp only [PyData.hasDict]; exact all ds _ ha
  | .dict _, _, h => by cases h
where all : ∀ (ds : List PyData) (vs : List V), DpAll K H vs ds → PyData.hasDictAll ds = false
  | [], _, _ => by simp only [PyData.hasDictAll]
  | d :: ds, _, h => by
    cases h with
    | cons h1 h2 => simp only [PyData.hasDictAll, dp_nodict d _ h1, all ds _ h2, Bool.or_false]
theorem cr_repr (hg : X.A.guards = some []) (hu : X.A.units + 65 < cLine) : CallR X (.builtin "repr") (rRepr X.K) := by
  intro pins s σ H xs us Q I r h
  obtain ⟨x, rfl, h⟩ := h
  obtain ⟨u, rfl, rx⟩ := vals1 r
  rcases h with ⟨d, hd, sh, dp, sz, q⟩ | ⟨a, rfl, e, q⟩
  · obtain ⟨as, rd⟩ := Dp.reads I d x u hd rx
    have nd := dp_nodict d x hd
    cases hd with
    | non => cases rx; exact P.repr_of_none ⟨.str _, H, I.tok _, ⟨_, rfl⟩, q⟩
    | bl b => cases rx; exact P.repr_of_bool ⟨.str _, H, I.tok _, ⟨_, rfl⟩, q⟩
    | int i =>
      obtain ⟨t, rfl⟩ := rx
      exact P.repr_of_int (of_decide_eq_true sh) ⟨.str _, H, I.tok _, ⟨_, rfl⟩, q⟩
    | str y =>
      obtain ⟨t, rfl⟩ := rx
      exact P.repr_of_str ⟨.str _, H, I.tok _, ⟨_, rfl⟩, q⟩ sz
    | lst hs ha =>
      cases rx
      exact repr_of_reads' rd sh (PyData.noDict_hsm nd) hg (by omega) (fun _ _ e => e) (fun h' w tk hk => ⟨.str _, H, I.kept hk, ⟨w, rfl⟩, q⟩) sz
    | tup hs ha =>
      cases rx
      exact repr_of_reads' rd sh (PyData.noDict_hsm nd) hg (by omega) (fun _ _ e => e) (fun h' w tk hk => ⟨.str _, H, I.kept hk, ⟨w, rfl⟩, q⟩) sz
  · cases rx
    obtain ⟨_, hne, vs, kv, o, es, ep, ho, hx, hdt, hk, hp, _⟩ := I.hok a _ e
    cases kv
    have hes : es.toList = [] := by
      generalize es.toList = l at hp
      cases hp
      rfl
    have hr : Reads s.heap (.ref a) (.dict []) (a :: [] ++ []) := Reads.dict ho hx.1 hdt (by rw [hes]; exact ReadsAll.nil) (by rw [hes]; exact ReadsAll.nil)
    have hd1 : (PyData.dict []).depth ≤ 60 := by decide
    exact repr_of_reads' hr rfl (fun _ z => by simp at z; rw [z] at hne; simp at hne) hg (by omega) (fun _ _ e => e) (fun h' w tk hk => ⟨.str _, H, I.kept hk, ⟨w, rfl⟩, q⟩) (by decide +kernel)
def rBestG (K : PySem.W.Frag) (f : PyData → List PyData → PyData) : List V → Hp → VK → Prop := fun xs H Q => ∃ a ys d ds, xs = [V.ref a] ∧ SqA K H a ys ∧ DpAll K H ys (d :: ds) ∧ PySem.W.AlikeAll (d :: ds) ∧ PyData.depthAll (d :: ds) ≤ 60 ∧ ∀ (i : Nat) v, ys[i]? = some v → (d :: ds)[i]? = some (f d ds) → Q v H
theorem dpAll_get {K : PySem.W.Frag} {H : Hp} : ∀ {vs : List V} {ds : List PyData} {i : Nat} {v : V}, DpAll K H vs ds → vs[i]? = some v → ∃ d, ds[i]? = some d ∧ Dp K H v d
  | _, _, 0, v, h, e => by
    cases h with
    | nil => simp at e
    | cons h1 _ => simp at e; subst e; exact ⟨_, rfl, h1⟩
  | _, _, i + 1, v, h, e => by
    cases h with
    | nil => simp at e
    | cons _ h2 => obtain ⟨d, e1, e2⟩ := dpAll_get h2 (by simpa using e); exact ⟨d, by simpa using e1, e2⟩
theorem best_of {pins : List (Addr × Obj)} {σ : L2.St} {H : Hp} {s : Shared} {Q : VK} {ys : List V} {its : List Value} {ds : List PyData} {m : PyData} (I : Inv X pins σ H s) (rv : Vals ys its) (hd : DpAll X.K H ys ds) (q : ∀ (i : Nat) v, ys[i]? = some v → ds[i]? = some m → Q v H)
    {i : Nat} {v : Value} {h' : Heap} {tk : Nat} {bs : List Addr} (hv : its.toArray[i]? = some v) (hr : Reads h' v m bs) (hk : ∀ b o, s.heap.get? b = some o → h'.get? b = some o) : EP X pins σ Q v { s with heap := h', toks := tk } := by
  have hv' : its[i]? = some v := by simpa using hv
  have hl := rv.length
  have hi : i < ys.length := by rw [hl]; exact (List.getElem?_eq_some_iff.mp hv').1
  obtain ⟨w, hw, rw'⟩ := rv.get (i := i) (x := ys[i]) (by simp [hi])
  rw [hv'] at hw
  cases hw
  have hy : ys[i]? = some ys[i] := List.getElem?_eq_getElem hi
  obtain ⟨e, hi2, he⟩ := dpAll_get hd hy
  obtain ⟨as, rd⟩ := Dp.reads I e _ _ he rw'
  have hu := (Reads.unique (Reads.keeps hk rd) _ _ hr).1
  subst hu
  exact ⟨ys[i], H, I.kept hk, rw', q i _ hy hi2⟩
theorem cr_maxG (hc : X.calm = true) (hu : X.A.units + 65 < cLine) : CallR X (.builtin "max") (rBestG X.K PySem.W.maxD) := by
  intro pins s σ H xs us Q I r h
  obtain ⟨a, ys, d, ds, rfl, hs, hd, al, dp, q⟩ := h
  rw [Vals.ref1 r]
  rcases hs with hs | hs
  · obtain ⟨its, rv, hl, _⟩ := I.list hs
    obtain ⟨as, ra⟩ := Dp.readsAll I _ _ _ hd rv
    exact PySem.W.max_list_data (I.ok.hd hc) hl.isList (by simpa using ra) al (by omega) fun i v h' tk bs hv hr hk => best_of I rv hd q hv hr hk
  · obtain ⟨its, rv, ht, _⟩ := I.tuple hs
    obtain ⟨as, ra⟩ := Dp.readsAll I _ _ _ hd rv
    exact PySem.W.max_tuple_data (I.ok.hd hc) (show s.heap.IsTuple a its.toArray from ht) (by simpa using ra) al (by omega) fun i v h' tk bs hv hr hk => best_of I rv hd q hv hr hk
end
end Mi
set_option Elab.async false
set_option linter.all false
set_option maxRecDepth 100000
set_option maxHeartbeats 4000000
namespace Mi
open PySem PySem.Spec PyProof.Rows L2
theorem meets_enumN {v : Value} {o : Obj} {H : Heap → Prop} (B : Begins v o H) : Meets (Builtin.«enumerate.__new__» ⟨[.type "enumerate", v], []⟩) (fun _ R s => H s.heap ∧
      R (.ok (.ret (.ref (s.heap.push o).objs.size))) { s with heap := (s.heap.push o).push { cls := .type "enumerate", data := .fields #[.none, .bool false, .ref s.heap.objs.size, rawInt 0, .none, .none] } }) :=
  .of_wp fun prog w A R s h => by
    obtain ⟨hp, g, d, tk, os⟩ := s
    obtain ⟨h1, h⟩ := h
    have hsub := sub_enumerate
    have q1 : ∀ {A' : Around} {E : Value → Shared → Prop} {Q : Value → Shared → Prop}, Q (.ref hp.objs.size) ⟨hp.push o, g, d, tk, os⟩ → wpAny (model prog w) A' (pyIter v) Q E ⟨hp, g, d, tk, os⟩ := fun q => B.iter prog w _ _ ⟨hp, g, d, tk, os⟩ _ h1 q
    wp_walk using q1
    refine wpAny_stack_any fun st => wpAny_pure ?_
    split
    · rename_i c _ _ _ _ _
      cases (c == Value.type "enumerate") <;> (wp_walk using q1; exact ⟨_, rfl, h⟩)
    · wp_walk using q1
      exact ⟨_, rfl, h⟩
section
variable {prog : Program} {w : World} {A : Around} {E : Value → Shared → Prop} {s : Shared}
theorem enumN {v : Value} {o : Obj} {H : Heap → Prop} {Q : Value → Shared → Prop} (B : Begins v o H) (h1 : H s.heap)
    (q : ∀ h', IsEnum h' (s.heap.objs.size + 1) s.heap.objs.size 0 .none → h'.get? s.heap.objs.size = some o → (∀ b o, s.heap.get? b = some o → h'.get? b = some o) → Q (.ref (s.heap.objs.size + 1)) { s with heap := h' }) :
    wpAny (model prog w) A (call (.type "enumerate") [v]) Q E s := by
  refine callType_new F.called_enumerate (by decide) (F.typeCall_enumerate_1 _) (F.newCall_enumerate_1 _) (fun obj => F.args_object_init_2 obj _) F.entry_enumerate_new (meets_enumN B) ⟨h1, ?_⟩
  have hz : (s.heap.push o).objs.size = s.heap.objs.size + 1 := Heap.size_push ..
  show _ ∧ _
  rw [hz]
  have he := Heap.get?_push_size (s.heap.push o) (o := { cls := .type "enumerate", data := .fields #[.none, .bool false, .ref s.heap.objs.size, rawInt 0, .none, .none] }) rfl
  rw [hz] at he
  exact ⟨⟨_, he, rfl⟩, q _ he (Heap.get?_push_of_some _ (Heap.get?_push_size _ B.free)) fun b o x => Heap.get?_push_of_some _ (Heap.get?_push_of_some _ x)⟩
end
/-- the tuple at a, each item in a new pair -/
def IteT (K : PySem.W.Frag) (a : Addr) : L2.It :=
  ⟨fun i H => ∃ (xs : List V) (x : V), SqT K H a xs ∧ xs[i]? = some x, fun i H v H' => ∃ T x, v = .ref T ∧ H T = none ∧ H' = upd H T (.tup [.int (i : Nat), x]) ∧ ∀ xs, SqT K H a xs → xs[i]? = some x, fun i H => ∃ xs : List V, SqT K H a xs ∧ xs.length = i⟩
theorem turn_enumT {P : Program} {w : World} {K : PySem.W.Frag} {elts : List Expr} {kk : Nat} {tpos : Pos} (a e it : Addr) (hea : e ≠ a) (hia : a ≠ it) :
    Turn P w K (.Tuple elts kk tpos) (IteT K a) [e, it] e (fun i h => (∃ old, IsEnum h e it ((i : Nat) : Int) old) ∧ h.IsTupleIter it a i ∧ e ≠ it) where
  mem := by simp
  obj := fun i h st b hb => by
    obtain ⟨⟨old, he⟩, ⟨o, ho, hc, hd⟩, _⟩ := st
    rcases (by simpa using hb : b = e ∨ b = it) with z | z
    · rw [z]; exact ⟨_, he, fun v q => nomatch q⟩
    · rw [z]; exact ⟨o, ho, fun v q => by rw [hd] at q; cases q⟩
  keep := fun i h h' st k => let ⟨⟨old, he⟩, hi, hne⟩ := st; ⟨⟨old, k e (by simp) _ he⟩, hi.at fun o q => k it (by simp) o q, hne⟩
  item := by
    intro X hP hw hK hc i pins s σ H E I hf st hg
    subst hP hw hK
    obtain ⟨⟨old, he⟩, hit, hne⟩ := st
    obtain ⟨xs, x, hq, hx⟩ := hg
    obtain ⟨its, rv, p, hz⟩ := I.tuple hq
    have pt : s.heap.IsTuple a its.toArray := p
    obtain ⟨u, hu, ru⟩ := rv.get hx
    have hel : e < s.heap.objs.size := Heap.lt_size he
    have hil : it < s.heap.objs.size := by obtain ⟨_, q, _⟩ := hit; exact Heap.lt_size q
    have hlt : i < its.toArray.size := by rw [List.size_toArray]; exact (List.getElem?_eq_some_iff.mp hu).1
    refine wpAny_pyNext_enum_itemD (Draws.tuple (A := X.A.in1) (show X.A.in1.handled = none from I.ok.hd hc) it a hia its.toArray) he ⟨hit, pt⟩ hlt hne (by simp [hne, hea]) fun y h' tk hy ho hst hT hsz hk => ?_
    have ey : y = u := by
      have z : its[i]? = some y := by simpa using hy
      rw [hu] at z
      exact (Option.some.inj z).symm
    subst ey
    refine ⟨_, rfl, wpAny_letOwnedTupleGo_enum (s := { s with heap := h', toks := tk + 1 }) ho fun h'' he' sb => ?_⟩
    have hT2 : h''.get? s.heap.objs.size = some { cls := .type "tuple", data := .seq #[.int i tk, y] } := (sb.2 _ (Nat.ne_of_gt hel)).trans hT
    have new : ObjOk X.prog X.w (upd H s.heap.objs.size (.tup [.int (i : Nat), x])) h'' s.heap.objs.size (.tup [.int (i : Nat), x]) := ⟨by show 2 ≤ sizeLine; decide, [.int i tk, y], .cons ⟨_, rfl⟩ (.cons ru .nil), ⟨_, hT2, rfl, _, rfl⟩⟩
    have I1 : Inv X pins σ (upd H s.heap.objs.size (.tup [.int (i : Nat), x])) { s with heap := h'', toks := tk + 1 } := I.turnedNew (ch := [e, it]) (fun b ob hb q => (sb.2 b (fun z => hb (by simp [z]))).trans (hk b ob (fun z => hb (by simp [z])) (fun z => hb (by simp [z])) q)) hf (Nat.le_refl _) new
    refine ⟨.ref s.heap.objs.size, _, I1, rfl, ⟨_, x, rfl, I.hok.fresh (Nat.le_refl _), rfl, fun ys hy => by rw [I.tuple_inj hy hq]; exact hx⟩, ⟨⟨y, ?_⟩, hst.1.at fun o q => (sb.2 it (Ne.symm hne)).trans q, hne⟩, fun b hb => ?_⟩
    · rw [show ((i + 1 : Nat) : Int) = (i : Int) + 1 by omega]; exact he'
    · have hb' : b < s.heap.objs.size := by
        rcases (by simpa using hb : b = e ∨ b = it) with z | z
        · rw [z]; exact hel
        · rw [z]; exact hil
      rw [upd_ne (Nat.ne_of_lt hb')]
      exact (hf b hb).1
  done := by
    intro X hP hw hK hc i pins s σ H E I hf st hg
    subst hP hw hK
    obtain ⟨⟨old, he⟩, hit, hne⟩ := st
    obtain ⟨xs, hq, hx⟩ := hg
    obtain ⟨its, rv, p, hz⟩ := I.tuple hq
    obtain ⟨f0, f1, f2, f3, f4, f5⟩ := hf it (by simp)
    have hl := rv.length
    subst hx
    exact wpAny_pyNext_enum_endD (Draws.tuple (A := X.A.in1) (show X.A.in1.handled = none from I.ok.hd hc) it a hia its.toArray) he ⟨by rw [List.size_toArray, ← hl]; exact hit, show s.heap.IsTuple a its.toArray from p⟩ fun h' eb => ⟨rfl, I.turned (t' := s.toks) (fun b o hb q => eb b o hb q) f0 f1 f3 f4 f5⟩
  self := fun A i s Q E st h => let ⟨⟨_, he⟩, _⟩ := st; wpAny_pyIter_enum he h
theorem walk_enumT {K : PySem.W.Frag} {a : Addr} {xs : List V} : Walk (IteT K a) xs.length (fun H => SqT K H a xs) (YPair (fun i => some (.int (i : Nat))) (fun i => xs[i]?)) := by
  refine ⟨fun i _ hi q => ⟨xs, xs[i], q, by simp [hi]⟩, fun _ q => ⟨xs, q, rfl⟩, fun i H v H' _ q y => ?_⟩
  obtain ⟨T, x, h1, h2, h3, h4⟩ := y
  exact ⟨T, .int (i : Nat), x, h1, h2, h3, rfl, h4 xs q⟩
def iEnumA (K : PySem.W.Frag) (ta : TA) : TI := fun σ H R => ta σ H fun vs H1 => ∃ a xs, vs = [.ref a] ∧ ((SqL K H1 a xs ∧ R (Ite K a) H1) ∨ (SqT K H1 a xs ∧ R (IteT K a) H1))
theorem pi_enumA {X : Cx} {e : Expr} {ta : TA} {p pos tpos : Pos} {elts : List Expr} {kk : Nat} (hg : Gl X "enumerate") (hm : X.mg "enumerate" = none) (ha : PA X [e] ta) (hs : starEach [e] X.env = [(false, eval e X.env)] := by rfl) :
    PI X (.Tuple elts kk tpos) (.Call (.Name "enumerate" p) [e] [] pos) (iEnumA X.K ta) := by
  refine ⟨fun pins s σ H R I h => Call_ (ld_blt I hg hm boot_enumerate (PyProof.Rows.callWith_type1 (thn (ha.run pos pins s σ H _ I h) fun us s1 ⟨vs, H1, I1, r1, q1⟩ => ?_) hs rfl))⟩
  obtain ⟨a, xs, rfl, q⟩ := q1
  cases r1 with
  | cons r rr =>
    cases rr
    cases r
    have fresh : ∀ b, (b = s1.heap.objs.size + 1 ∨ b = s1.heap.objs.size) → s1.heap.objs.size ≤ b := fun b z => by
      rcases z with z | z
      · rw [z]; exact Nat.le_add_right _ _
      · rw [z]; exact Nat.le_refl _
    rcases q with ⟨hq, q⟩ | ⟨hq, q⟩
    · obtain ⟨its, rv, p', hz⟩ := I1.list hq
      refine call_enumerate_list p'.isList fun h' he hit hsz hk => wpAny_pyIter_enum he ?_
      have I2 : Inv X pins σ H1 { s1 with heap := h' } := I1.kept (t' := s1.toks) hk
      exact ⟨s1.heap.objs.size + 1, [s1.heap.objs.size + 1, s1.heap.objs.size], _, _, H1, rfl, I2, turn_enum a (s1.heap.objs.size + 1) s1.heap.objs.size, ⟨⟨.none, he⟩, hit, Nat.succ_ne_self _⟩, fun b hb => I1.fpOk (fresh b (by simpa using hb)) (I1.hok.fresh (fresh b (by simpa using hb))), q⟩
    · obtain ⟨its, rv, p', hz⟩ := I1.tuple hq
      have pt : s1.heap.IsTuple a its.toArray := p'
      have hal : a < s1.heap.objs.size := by obtain ⟨_, z, _⟩ := pt; exact Heap.lt_size z
      refine enumN (begins_tuple a its.toArray) pt fun h' he hit hk => wpAny_pyIter_enum he ?_
      have I2 : Inv X pins σ H1 { s1 with heap := h' } := I1.kept (t' := s1.toks) hk
      exact ⟨s1.heap.objs.size + 1, [s1.heap.objs.size + 1, s1.heap.objs.size], _, _, H1, rfl, I2, turn_enumT a (s1.heap.objs.size + 1) s1.heap.objs.size (Nat.ne_of_gt (Nat.lt_succ_of_lt hal)) (Nat.ne_of_lt hal), ⟨⟨.none, he⟩, ⟨_, hit, rfl, rfl⟩, Nat.succ_ne_self _⟩, fun b hb => I1.fpOk (fresh b (by simpa using hb)) (I1.hok.fresh (fresh b (by simpa using hb))), q⟩
end Mi
set_option Elab.async false
set_option linter.all false
set_option maxRecDepth 100000
set_option maxHeartbeats 4000000
namespace SrtO
open PySem PySem.Spec PyProof.Rows L2
section
variable {prog : Program} {w : World} {A : Around} {E : Value → Shared → Prop} {s : Shared}
theorem gather_tup {l : Addr} {vs : List Value} {Q : List Value → Shared → Prop} (hl : s.heap.IsTuple l vs.toArray)
    (h : Q vs { s with heap := (s.heap.push (seqObj "list" #[] 0)).update s.heap.objs.size (Obj.mapSeq (· ++ vs.toArray)) }) (hsz : vs.length ≤ sizeLine) :
    wpAny (model prog w) A (collect (.ref l)) Q E s := by
  obtain ⟨o, hob, hcl, ep, hda⟩ := id hl
  unfold collect
  refine wpAny_bind (wpAny_runValue (codeAny_builtin entry_proto_collect' ?_))
  refine wpAny_bind (wpAny_newList (wpAny_pure ⟨Code.quiet_builtin _ (by decide +kernel), codeAny_builtin entry_list_iadd' ?_⟩))
  show wpAny _ _ (Builtin.List.listExtendWith (.ref s.heap.objs.size) (.ref l) (.ref s.heap.objs.size)) _ _ { s with heap := s.heap.push (seqObj "list" #[] 0) }
  unfold Builtin.List.listExtendWith
  have hob' : (s.heap.push (seqObj "list" #[] 0)).get? l = some o := Heap.get?_push_of_some _ hob
  refine wpAny_bind (wpAny_typeOf (T := "tuple") ⟨o, hob', hcl⟩ ?_)
  have htt : (Value.type "tuple" == Value.type "tuple") = true := by rfl
  rw [if_pos (by rw [htt]; simp)]
  refine wpAny_bind (listItems_at hob' hda ?_)
  refine wpAny_bind (listItems_at (xs := #[]) (n := 0) (Heap.get?_push_size _ rfl) rfl ?_)
  rw [if_neg (by simp)]
  refine wpAny_bind (listUpdate_at (xs := #[]) (n := 0) (Heap.get?_push_size _ rfl) rfl ?_ (Nat.zero_le _) (by show (#[] ++ vs.toArray).size ≤ sizeLine + 1; simp only [Array.size_append, List.size_toArray, List.length_nil]; omega))
  refine wpAny_pure ?_
  refine wpAny_bind (wpAny_load (get?_update_seq (Heap.get?_push_size _ rfl) _) ?_)
  show wpAny _ _ (pure ((#[] : Array Value) ++ vs.toArray).toList) Q E _
  rw [show ((#[] : Array Value) ++ vs.toArray).toList = vs by simp]
  exact wpAny_pure h
theorem tup_ord {l : Addr} {vs : List Value} {ltv : Value → Value → Bool} {Q : Value → Shared → Prop} (O : Swo ltv) (hl : s.heap.IsTuple l vs.toArray) (hz : vs.length ≤ sizeLine)
    (hS : 2 ≤ vs.length → ∀ (h₁ : Heap) (a : Addr), h₁.get? a = some (seqObj "list" vs.toArray 0) → (∀ b o, s.heap.get? b = some o → b ≠ a ∧ h₁.get? b = some o) → SortableO prog w A.in1.in1 { s with heap := h₁ } a vs ltv)
    (h : ∀ out : List Value, Srtd ltv out → Stb ltv out vs → Q (.ref (s.heap.objs.size + 1)) { s with heap := sortedAll s.heap vs out.toArray }) :
    wpAny (model prog w) A (call (.builtin "sorted") [.ref l]) Q E s := by
  refine Calls.call_function_entry kind_sorted plain_sorted entry_sorted (args_sorted1 _) ?_
  unfold Builtin.«sorted»
  refine wpAny_bind (m := checkCount "sorted" 1 1 _) (wpAny_pure ?_)
  refine wpAny_bind (gather_tup hl ?_ hz)
  refine wpAny_bind (wpAny_newList ?_ hz)
  have sz1 : ((s.heap.push (seqObj "list" #[] 0)).update s.heap.objs.size (Obj.mapSeq (· ++ vs.toArray))).objs.size = s.heap.objs.size + 1 := (Heap.size_update _ _ _).trans (size_push' _ _)
  have at1 : (((s.heap.push (seqObj "list" #[] 0)).update s.heap.objs.size (Obj.mapSeq (· ++ vs.toArray))).push (seqObj "list" vs.toArray 0)).get? (s.heap.objs.size + 1) = some (seqObj "list" vs.toArray 0) :=
    sz1 ▸ Heap.get?_push_size _ rfl
  have stay : ∀ b o, s.heap.get? b = some o → b ≠ s.heap.objs.size + 1 ∧ (((s.heap.push (seqObj "list" #[] 0)).update s.heap.objs.size (Obj.mapSeq (· ++ vs.toArray))).push (seqObj "list" vs.toArray 0)).get? b = some o := fun b o q => by
    have blt : b < s.heap.objs.size := Heap.lt_size q
    exact ⟨Nat.ne_of_lt (Nat.lt_succ_of_lt blt), Heap.get?_push_of_some _ ((Heap.get?_update_ne _ _ _ _ (Nat.ne_of_lt blt)).trans (Heap.get?_push_of_some _ q))⟩
  show wpAny _ _ _ _ _ { s with heap := ((s.heap.push (seqObj "list" #[] 0)).update s.heap.objs.size (Obj.mapSeq (· ++ vs.toArray))).push (seqObj "list" vs.toArray 0) }
  rw [sz1]
  refine wpAny_bind (wpAny_holding (wpAny_call_entry slot_list_sort ⟨_, at1, rfl⟩ entry_list_sort (list_sort_ord O at1 hz (fun h2 => hS h2 _ _ at1 stay) fun out b1 b2 => ⟨_, rfl, ?_⟩) (args_list_sort _)))
  exact wpAny_pure ⟨_, rfl, h out b1 b2⟩
end
end SrtO
namespace Mi
open PySem PySem.Spec PyProof.Rows L2
/-- sorted(t), a tuple of ints -/
def rSortT (K : PySem.W.Frag) : List V → Hp → VK → Prop := fun vs H Q => ∃ (a : Addr) (ns : List Int), vs = [V.ref a] ∧ SqT K H a (ns.map V.int) ∧
  ∀ (ns' : List Int) (p : Addr), ns'.Perm ns → ns'.Pairwise (· ≤ ·) → H p = none → Q (.ref p) (upd H p (.lst (ns'.map V.int)))
section
variable {X : Cx}
theorem cr_sortT : CallR X (.builtin "sorted") (rSortT X.K) := by
  intro pins s σ H vs us Q I r h
  obtain ⟨a, ns, rfl, hs, q⟩ := h
  obtain ⟨its, rv, hl, hz⟩ := I.tuple hs
  rw [Vals.ref1 r]
  have hi := rv.ints
  refine SrtO.tup_ord SrtO.swo_int hl (by rw [← rv.length]; exact hz) (fun h2 h₁ a' _ _ => SrtO.ints_sortable hi h2) fun out h1 h2 => ?_
  obtain ⟨k1, k2, k3⟩ := SrtO.ints_out hi h1 h2
  obtain ⟨ep, he'⟩ := PyProof.Rows.sortedAll_at s.heap its out.toArray
  have hlen : ((out.map SrtO.iv).map V.int).length ≤ sizeLine := by
    rw [List.length_map, k2.length_eq]
    rw [List.length_map] at hz
    exact hz
  exact ⟨.ref _, upd H (s.heap.objs.size + 1) (.lst ((out.map SrtO.iv).map V.int)), I.laid (t' := s.toks) (fun _ _ => PyProof.Rows.sortedAll_old) (Nat.le_succ _) ⟨hlen, out, ep, vals_of_ints k1, he'⟩, rfl, q _ _ k2 k3 (I.hok.fresh (Nat.le_succ _))⟩
/-- x in l, l a list or a tuple of data -/
def rInB (K : PySem.W.Frag) (neg : Bool) : R2 := fun x y H Q => ∃ d ds, Dp K H x d ∧ SeqAt.shaped d = true ∧ ((Dp K H y (.list ds) ∧ SeqAt.shaped (.list ds) = true) ∨ (Dp K H y (.tuple ds) ∧ SeqAt.shaped (.tuple ds) = true)) ∧ Q (.bl (if neg then !(ds.any fun z => PyData.eqv z d) else ds.any fun z => PyData.eqv z d)) H
theorem op_inB (hu : X.A.units + 65 < cLine) : OpR X (compareOp .In) (rInB X.K false) := by
  intro pins s σ H x y v u Q I rx ry h
  obtain ⟨d, ds, hd, sd, he, q⟩ := h
  obtain ⟨as, r1⟩ := Dp.reads I d x v hd rx
  rcases he with ⟨he, se⟩ | ⟨he, se⟩
  · obtain ⟨bs, r2⟩ := Dp.reads I (.list ds) y u he ry
    exact SeqAt.in_list_reads r2 r1 (SeqAt.canLay_of_shaped se) (SeqAt.canLay_of_shaped sd) (room_in_shaped sd hu) ⟨.bl _, H, I, rfl, q⟩
  · obtain ⟨bs, r2⟩ := Dp.reads I (.tuple ds) y u he ry
    exact SeqAt.in_tuple_reads r2 r1 (SeqAt.canLay_of_shaped se) (SeqAt.canLay_of_shaped sd) (room_in_shaped sd hu) ⟨.bl _, H, I, rfl, q⟩
theorem op_ninB (hu : X.A.units + 65 < cLine) : OpR X (compareOp .NotIn) (rInB X.K true) := by
  intro pins s σ H x y v u Q I rx ry h
  obtain ⟨d, ds, hd, sd, he, q⟩ := h
  obtain ⟨as, r1⟩ := Dp.reads I d x v hd rx
  rcases he with ⟨he, se⟩ | ⟨he, se⟩
  · obtain ⟨bs, r2⟩ := Dp.reads I (.list ds) y u he ry
    exact SeqAt.notIn_list_reads r2 r1 (SeqAt.canLay_of_shaped se) (SeqAt.canLay_of_shaped sd) (room_in_shaped sd hu) ⟨.bl _, H, I, rfl, q⟩
  · obtain ⟨bs, r2⟩ := Dp.reads I (.tuple ds) y u he ry
    exact SeqAt.notIn_tuple_reads r2 r1 (SeqAt.canLay_of_shaped se) (SeqAt.canLay_of_shaped sd) (room_in_shaped sd hu) ⟨.bl _, H, I, rfl, q⟩
theorem tup_mul1 (l : Addr) (items : Array Value) (n : Nat) (dd : Option Addr) (sl : Array (Option Value)) (u : Tok) (c1 : (items.isEmpty || (1 : Int) == 1) = true) :
    Meets (Builtin.«tuple.__mul__» ⟨[.ref l, .int 1 u], []⟩) (fun _ R s => s.heap.get? l = some { cls := .type "tuple", dict := dd, data := .seq items n, slots := sl } ∧ R (.ok (.ret (Value.ref l))) s) :=
  .of_wp fun prog w A R s h => by
    obtain ⟨hp, g, d, tk, os⟩ := s
    obtain ⟨hl, h⟩ := h
    have f1 := AutoSeq1.idx_int
    wp_walk using wpAny_loadPart' hl
    repeat (first
      | (refine wpAny_ite_true c1 ?_; wp_walk using wpAny_loadPart' hl)
      | (refine wpAny_ite_false (by decide) ?_; wp_walk using wpAny_loadPart' hl))
    exact ⟨_, rfl, h⟩
/-- t * 1 is t -/
def rRepU (K : PySem.W.Frag) : R2 := fun x y H Q => ∃ l xs, x = .ref l ∧ y = .int 1 ∧ SqT K H l xs ∧ Q (.ref l) H
theorem op_repU : OpR X (binaryOp .Mult) (rRepU X.K) := by
  intro pins s σ H x y v u Q I rx ry h
  obtain ⟨l, xs, rfl, rfl, hT, q⟩ := h
  cases rx
  obtain ⟨t, rfl⟩ := ry
  obtain ⟨its, r, ⟨⟨cls, dd, data, sl⟩, ho, hc, n, hd⟩, hs⟩ := I.tuple hT
  simp only at hc hd
  subst hc hd
  exact wpAny_binaryOp_repeat_ref (T := "tuple") (U := "int") (by decide) ⟨_, ho, rfl⟩ (fun s' => typeIs_int s' 1 t) noFill_tuple_mul F.fills_int_mul F.slot_int_rmul repeat_tuple F.slot_int_index.lookup
    (call_meets F.slot_int_rmul (typeIs_int s 1 t) F.entry_int_rmul (F.args_int_rmul_2 _ _) (int_rmul_tuple 1 t l its.toArray n dd sl)
      ⟨ho, rfl, ⟨_, ho, rfl⟩, call_meets F.slot_tuple_mul ⟨_, ho, rfl⟩ F.entry_tuple_mul (F.args_tuple_mul_2 _ _) (tup_mul1 l its.toArray n dd sl t (by simp)) ⟨ho, ⟨.ref l, H, I, rfl, q⟩⟩⟩)
/-- t * k, a new tuple -/
def rRepN (K : PySem.W.Frag) : R2 := fun x y H Q => ∃ l k xs, x = .ref l ∧ y = .int k ∧ SqT K H l xs ∧ xs ≠ [] ∧ 2 ≤ k ∧ k ≤ 1000 ∧ xs.length ≤ 1000 ∧ NewT (List.replicate k.toNat xs).flatten H Q
theorem op_repN : OpR X (binaryOp .Mult) (rRepN X.K) := by
  intro pins s σ H x y v u Q I rx ry h
  obtain ⟨l, k, xs, rfl, rfl, hT, hne, h1, h2, hz, q⟩ := h
  cases rx
  obtain ⟨t, rfl⟩ := ry
  obtain ⟨its, r, ⟨⟨cls, dd, data, sl⟩, ho, hc, n, hd⟩, hs⟩ := I.tuple hT
  simp only at hc hd
  subst hc hd
  have lenq : its.length = xs.length := r.length.symm
  have hn : its ≠ [] := fun e => hne (by
    rw [e] at lenq
    exact List.eq_nil_of_length_eq_zero lenq.symm)
  have hi : its.toArray.isEmpty = false := by
    cases its with
    | nil => exact absurd rfl hn
    | cons a b => rfl
  have szz : its.toArray.size = xs.length := by rw [List.size_toArray, lenq]
  have hm : ((its.toArray.size : Nat) : Int) * k ≤ 1000000 := by
    rw [szz]
    have a1 : ((xs.length : Nat) : Int) * k ≤ 1000 * k := Int.mul_le_mul_of_nonneg_right (by omega) (by omega)
    omega
  have fits : (List.replicate k.toNat its).flatten.length ≤ sizeLine := by
    rw [PyProof.Rows.lm_len_rep_flat, lenq, sizeLine_eq]
    have a1 : k.toNat * xs.length ≤ 1000 * 1000 := Nat.mul_le_mul (by omega) hz
    omega
  have c0 : (decide (k < -(2 ^ 63)) || decide (k ≥ 2 ^ 63)) = false := by
    rw [decide_eq_false (by omega), decide_eq_false (by omega)] <;> rfl
  have c1 : (its.toArray.isEmpty || k == 1) = false := by
    rw [hi, Bool.false_or]
    exact beq_eq_false_iff_ne.mpr (by omega)
  have c2 : (decide (k ≤ 0) || its.toArray.isEmpty) = false := by
    rw [hi, Bool.or_false]
    exact decide_eq_false (by omega)
  have c4 : Builtin.Tuple.tupleTooMany (((its.toArray.size : Nat) : Int) * k) = false := by
    unfold Builtin.Tuple.tupleTooMany
    rw [sizeLine_eq]
    exact decide_eq_false (by omega)
  refine wpAny_binaryOp_repeat_ref (T := "tuple") (U := "int") (by decide) ⟨_, ho, rfl⟩ (fun s' => typeIs_int s' k t) noFill_tuple_mul F.fills_int_mul F.slot_int_rmul repeat_tuple F.slot_int_index.lookup
    (call_meets F.slot_int_rmul (typeIs_int s k t) F.entry_int_rmul (F.args_int_rmul_2 _ _) (int_rmul_tuple k t l its.toArray n dd sl)
      ⟨ho, rfl, ⟨_, ho, rfl⟩, call_meets F.slot_tuple_mul ⟨_, ho, rfl⟩ F.entry_tuple_mul (F.args_tuple_mul_2 _ _) (tuple_mulW l its.toArray n dd sl k t c0 c1 c2 (by omega) c4 (by rw [size_rep, List.size_toArray]; exact fits)) ⟨ho, ?_⟩⟩)
  rw [size_rep]
  exact tup_laid I (r.rep k.toNat) (by rw [PyProof.Rows.lm_len_rep_flat, sizeLine_eq]; have a1 : k.toNat * xs.length ≤ 1000 * 1000 := Nat.mul_le_mul (by omega) hz; omega) q
/-- o[i] of an own list -/
def rGetO : V → V → Hp → VK → Prop := fun o i H Q => ∃ p xs k j v, o = .ref p ∧ i = .int k ∧ H p = some (.lst xs) ∧ ixN xs.length k = some j ∧ xs[j]? = some v ∧ Q v H
end
end Mi
set_option Elab.async false
set_option linter.all false
set_option maxRecDepth 100000
set_option maxHeartbeats 4000000
namespace Mi
open PySem PySem.Spec PyProof.Rows L2
/-- a row of ints as a tuple of data -/
def rowP (r : List Int) : PyData := .tuple (r.map .int)
theorem rowP_alike (a b : List Int) : PySem.W.alike (rowP a) (rowP b) = true := by
  show PySem.W.alikeAll _ _ = true
  exact PySem.W.alike_ints a b
theorem rowP_depth (a : List Int) : (rowP a).depth ≤ 1 := by
  show PyData.depthAll _ + 1 ≤ 1
  rw [PySem.W.depth_ints]
  exact Nat.le_refl _
theorem rowP_lt (a b : List Int) : PySem.W.dataLt (rowP a) (rowP b) = decide (a < b) := by
  show PySem.W.dataLt (.tuple _) (.tuple _) = _
  rw [PySem.W.dataLt_tuple]
  exact PySem.W.dataLt_ints a b
theorem rowP_le : PySem.W.dataLe false (fun b : V × List Int => rowP b.2) = fun p q => decide (p.2 ≤ q.2) := by
  funext p q
  show (!PySem.W.dataLt (rowP q.2) (rowP p.2)) = _
  rw [rowP_lt]
  by_cases h : q.2 < p.2
  · have h' : ¬ p.2 ≤ q.2 := fun r => List.not_lt.mpr r h
    simp [h, h']
  · have h' : p.2 ≤ q.2 := List.not_lt.mp h
    simp [h, h']
/-- sorted(l), a list of tuples of ints -/
def rSortG (K : PySem.W.Frag) : List V → Hp → VK → Prop := fun vs H Q => ∃ (a : Addr) (bs : List (V × List Int)), vs = [V.ref a] ∧ SqL K H a (bs.map (·.1)) ∧ (∀ b ∈ bs, Dp K H b.1 (rowP b.2) ∧ b.2 ≠ []) ∧
  ∀ p : Addr, H p = none → Q (.ref p) (upd H p (.lst ((bs.mergeSort (fun p q => decide (p.2 ≤ q.2))).map (·.1))))
def rLtG (K : PySem.W.Frag) : R2 := fun x y H Q => ∃ a b : List Int, Dp K H x (rowP a) ∧ Dp K H y (rowP b) ∧ Q (.bl (decide (a < b))) H
def rStrI : List V → Hp → VK → Prop := fun xs H Q => ∃ i, xs = [.int i] ∧ i.natAbs.log2 < 1920 ∧ Q (.str (toString i)) H
section
variable {X : Cx}
theorem each_pairs {K : PySem.W.Frag} {H : Hp} {pins : List (Addr × Obj)} {σ : L2.St} {s : Shared} (I : Inv X pins σ H s) : ∀ {bs : List (V × List Int)} {us : List Value}, Vals (bs.map (·.1)) us → (∀ b ∈ bs, Dp X.K H b.1 (rowP b.2)) →
    PySem.W.EachIs (fun v (b : V × List Int) => RelV b.1 v) us bs ∧ PySem.W.EachIs (fun v (b : V × List Int) => ∃ as, Reads s.heap v (rowP b.2) as) us bs
  | [], _, h, _ => by cases h; exact ⟨.nil, .nil⟩
  | b :: bs, _, h, hd => by
    cases h with
    | cons r t =>
      obtain ⟨k1, k2⟩ := each_pairs (K := K) I t fun c hc => hd c (List.mem_cons_of_mem _ hc)
      exact ⟨.cons r k1, .cons (Dp.reads I _ _ _ (hd b List.mem_cons_self) r) k2⟩
theorem pairs_vals : ∀ {bs : List (V × List Int)} {us : List Value}, PySem.W.EachIs (fun v (b : V × List Int) => RelV b.1 v) us bs → Vals (bs.map (·.1)) us
  | _, _, .nil => .nil
  | _, _, .cons r t => .cons r (pairs_vals t)
theorem cr_sortG (hu : X.A.units + 65 < cLine) : CallR X (.builtin "sorted") (rSortG X.K) := by
  intro pins s σ H vs us Q I r h
  obtain ⟨a, bs, rfl, hs, hd, q⟩ := h
  obtain ⟨its, rv, hl, hz⟩ := I.list hs
  rw [Vals.ref1 r]
  obtain ⟨k1, k2⟩ := each_pairs (K := X.K) I rv fun b hb => (hd b hb).1
  have hlen : bs.length ≤ sizeLine := by
    rw [List.length_map] at hz
    exact hz
  refine PySem.W.sorted_data (enc := fun b : V × List Int => rowP b.2) hl.isList k1 k2 (.of fun b b' => rowP_alike _ _) (.inl fun d hd' => ?_) hlen (fun b _ => by have := rowP_depth b.2; omega) fun out ho e => ?_
  · obtain ⟨b, hb, rfl⟩ := List.mem_map.mp hd'
    have n := (hd b hb).2
    match hb2 : b.2, n with
    | x :: r, _ => exact ⟨.int x, r.map .int, rfl⟩
  · rw [rowP_le] at e
    obtain ⟨ep, he'⟩ := PyProof.Rows.sortedAll_at s.heap its out.toArray
    have hl2 : ((bs.mergeSort (fun p q => decide (p.2 ≤ q.2))).map (·.1)).length ≤ sizeLine := by
      rw [List.length_map, List.length_mergeSort]
      exact hlen
    exact ⟨.ref _, upd H (s.heap.objs.size + 1) (.lst ((bs.mergeSort (fun p q => decide (p.2 ≤ q.2))).map (·.1))), I.laid (t' := s.toks) (fun _ _ => PyProof.Rows.sortedAll_old) (Nat.le_succ _) ⟨hl2, out, ep, pairs_vals e, he'⟩, rfl, q _ (I.hok.fresh (Nat.le_succ _))⟩
theorem op_ltG (hu : X.A.units + 65 < cLine) : OpR X (compareOp .Lt) (rLtG X.K) := by
  intro pins s σ H x y v u Q I rx ry h
  obtain ⟨a, b, hx, hy, q⟩ := h
  obtain ⟨as, r1⟩ := Dp.reads I _ _ _ hx rx
  obtain ⟨bs, r2⟩ := Dp.reads I _ _ _ hy ry
  have R := PySem.W.rcLt_alike _ _ X.A s v u as bs r1 r2 (rowP_alike a b) (fun z => nomatch z) (by have := rowP_depth a; omega)
  rw [rowP_lt] at R
  have z : wpAny (model X.prog X.w) X.A (compareOp .Lt v u) (EP X pins σ Q) X.xe s := R X.prog X.w X.xe (EP X pins σ Q) ⟨.bl _, H, I, rfl, q⟩
  exact z
end
end Mi
set_option Elab.async false
set_option linter.all false
set_option maxRecDepth 100000
set_option maxHeartbeats 2000000
namespace Mi
open PySem PySem.Spec PyProof.Rows L2
def orR (r r' : R2) : R2 := fun x y H Q => r x y H Q ∨ r' x y H Q
def rBin (K : PySem.W.Frag) : BOp → R2
  | .add => orR (rI0 fun i j => .int (i + j)) (orR rCat (rCatN K))
  | .sub => rI0 fun i j => .int (i - j)
  | .mul => orR (rI CMul fun i j => .int (i * j)) (orR (rI CMulW fun i j => .int (i * j)) (orR rRep (orR (rRepN K) (rRepU K))))
  | .fdiv => orR (rI CDiv fun i j => .int (i / j)) (rI CDivW fun i j => .int (i / j))
  | .mod => rI (fun _ j => 0 < j) fun i j => .int (i % j)
  | .pow => rI CPow fun i j => .int (i ^ j.toNat)
def rIsN : R2 := orR (fun x y H Q => y = .non ∧ Q (.bl (decide (x = .non))) H) (fun x y H Q => ∃ a b, x = .bl a ∧ y = .bl b ∧ Q (.bl (decide (a = b))) H)
def rIsNot : R2 := orR (fun x y H Q => y = .non ∧ Q (.bl (!decide (x = .non))) H) (fun x y H Q => ∃ a b, x = .bl a ∧ y = .bl b ∧ Q (.bl (!decide (a = b))) H)
def rCmp (K : PySem.W.Frag) : COp → R2
  | .lt => orR (rI0 fun i j => .bl (decide (i < j))) (rLtG K)
  | .le => rI0 fun i j => .bl (decide (i ≤ j))
  | .gt => rI0 fun i j => .bl (decide (j < i))
  | .ge => rI0 fun i j => .bl (decide (j ≤ i))
  | .eq => rEqD K
  | .ne => rNeD K
  | .inn => orR (rIn K false) (orR (rInB K false) (rInK false))
  | .nin => orR (rIn K true) (orR (rInB K true) (rInK true))
  | .iss => rIsN
  | .isn => rIsNot
section
variable {X : Cx}
theorem op_bin (op : BOp) : OpR X (binaryOp (pyB op)) (rBin X.K op) := by
  cases op with
  | add => exact op_add.or (op_cat.or op_catN)
  | sub => exact op_sub
  | mul => exact op_mul.or (op_mulW.or (op_rep.or (op_repN.or op_repU)))
  | fdiv => exact op_fdiv.or op_fdivW
  | mod => exact op_mod
  | pow => exact op_pow
theorem op_cmp (op : COp) (hu : X.A.units + 65 < cLine) : OpR X (compareOp (pyC op)) (rCmp X.K op) := by
  cases op with
  | lt => exact op_lt.or (op_ltG hu)
  | le => exact op_le
  | gt => exact op_gt
  | ge => exact op_ge
  | eq => exact op_eqD (by omega)
  | ne => exact op_neD (by omega)
  | inn => exact op_in_seq.or ((op_inB hu).or (op_inK (by omega)))
  | nin => exact op_notIn_seq.or ((op_ninB hu).or (op_ninK (by omega)))
  | iss => exact op_isN.or op_is_bl
  | isn => exact op_notN.or op_isnot_bl
end
def rBlt (K : PySem.W.Frag) : Blt → List V → Hp → VK → Prop
  | .len => orC (rLen K) rLenD
  | .abs => rAbs
  | .int => rInt
  | .list => rList K
  | .tuple => rTuple K
  | .sum => rSumI K
  | .min => orC (orC (rMinI K) rMin2) (rBestG K PySem.W.minD)
  | .max => orC (orC (rMaxI K) rMax2) (rBestG K PySem.W.maxD)
  | .sorted => orC (rSortedI K) (orC (rSortT K) (orC rSortD (rSortG K)))
  | .repr => rRepr K
  | .all => rAll K
  | .any => rAny K
  | .isi => rIsi K
  | .lenset => rLenSet K
  | .str => rStrI
section
variable {X : Cx}
theorem cr_sumA (hc : X.calm = true) : CallR X (.builtin "sum") (rBlt X.K .sum) := cr_sumI hc
theorem cr_lenA : CallR X (.builtin "len") (rBlt X.K .len) := cr_len.or call_lenD
theorem cr_sortA (hc : X.calm = true) (hu : X.A.units + 65 < cLine) : CallR X (.builtin "sorted") (rBlt X.K .sorted) := cr_sortedI.or (cr_sortT.or ((call_sortedDI hc).or (cr_sortG hu)))
theorem cr_max2 (hc : X.calm = true) (hu : X.A.units + 65 < cLine) : CallR X (.builtin "max") (rBlt X.K .max) := ((cr_maxI hc hu).or (call_max2 hc)).or (cr_maxG hc hu)
end
end Mi
set_option Elab.async false
set_option linter.all false
set_option maxRecDepth 100000
set_option maxHeartbeats 4000000
namespace Zg
open PySem PySem.Spec PyProof.Rows L2 RZ
/-- an iterator of a tuple (true) or a list -/
def IterOf : Bool → Heap → Addr → Addr → Nat → Prop
  | true, h, it, l, i => h.IsTupleIter it l i
  | false, h, it, l, i => h.IsListIter it l i
def SeqOf : Bool → Heap → Addr → Array Value → Prop
  | true, h, l, us => h.IsTuple l us
  | false, h, l, us => h.IsList l us
theorem IterOf.ext {t : Bool} {h h' : Heap} {it l b : Addr} {i : Nat} (x : IterOf t h it l i) (e : Heap.ExtBut b h h') (n : it ≠ b) : IterOf t h' it l i := by
  cases t with
  | true => exact Heap.IsTupleIter.extBut x e n
  | false => exact Heap.IsListIter.extBut x e n
theorem SeqOf.ext {t : Bool} {h h' : Heap} {l b : Addr} {us : Array Value} (x : SeqOf t h l us) (e : Heap.ExtBut b h h') (n : l ≠ b) : SeqOf t h' l us := by
  cases t with
  | true => exact Heap.IsTuple.extBut x e n
  | false => exact Heap.IsList.extBut x e n
theorem IterOf.at {t : Bool} {h h' : Heap} {it l : Addr} {i : Nat} (x : IterOf t h it l i) (e : ∀ o, h.get? it = some o → h'.get? it = some o) : IterOf t h' it l i := by
  cases t with
  | true => exact Heap.IsTupleIter.at x e
  | false => exact Heap.IsListIter.at x e
theorem IterOf.lt {t : Bool} {h : Heap} {it l : Addr} {i : Nat} (x : IterOf t h it l i) : it < h.objs.size := by
  cases t with
  | true => obtain ⟨_, e, _⟩ := x; exact Heap.lt_size e
  | false => obtain ⟨_, e, _⟩ := x; exact Heap.lt_size e
theorem IterOf.obj {t : Bool} {h : Heap} {it l : Addr} {i : Nat} (x : IterOf t h it l i) : ∃ o vs, h.get? it = some o ∧ o.data = .fields vs := by
  cases t with
  | true => obtain ⟨o, e, _, d⟩ := x; exact ⟨o, _, e, d⟩
  | false => obtain ⟨o, e, _, d⟩ := x; exact ⟨o, _, e, d⟩
theorem SeqOf.lt {t : Bool} {h : Heap} {l : Addr} {us : Array Value} (x : SeqOf t h l us) : l < h.objs.size := by
  cases t with
  | true => obtain ⟨_, e, _⟩ := x; exact Heap.lt_size e
  | false => obtain ⟨_, e, _⟩ := x; exact Heap.lt_size e
theorem SeqOf.push {t : Bool} {h : Heap} {l : Addr} {us : Array Value} (o : Obj) (x : SeqOf t h l us) : SeqOf t (h.push o) l us := by
  cases t with
  | true => exact Heap.IsTuple.push x o
  | false => exact Heap.IsList.push x o
section
variable {prog : Program} {w : World} {A : Around} {E : Value → Shared → Prop} {s : Shared}
theorem next_one {t : Bool} {it l : Addr} {i : Nat} {items : Array Value} {x : Value} {Q : Value → Shared → Prop} (a : IterOf t s.heap it l i) (b : SeqOf t s.heap l items) (e : items[i]? = some x)
    (q : ∀ h', IterOf t h' it l (i + 1) → Heap.SameBut it s.heap h' → Q x { s with heap := h' }) : wpAny (model prog w) A (Builtin.SmallTypes.nextOf (.ref it)) Q E s := by
  cases t with
  | true => exact nextOf_tuple_item a b e q
  | false => exact wpAny_nextOf_list_item a b e q
theorem next_end {t : Bool} {it l : Addr} {i : Nat} {items : Array Value} {Q : Value → Shared → Prop} (nh : A.handled = none) (a : IterOf t s.heap it l i) (b : SeqOf t s.heap l items) (e : items[i]? = none)
    (q : ∀ h' e, Heap.ExtBut it s.heap h' → (∃ o, h'.get? e = some o ∧ o.cls = .type "StopIteration") → E (.ref e) { s with heap := h' }) : wpAny (model prog w) A (Builtin.SmallTypes.nextOf (.ref it)) Q E s := by
  cases t with
  | true => exact nextOf_tuple_end nh a b e q
  | false => exact wpAny_nextOf_list_end nh a b e q
theorem zg_next {ta tb : Bool} {zz zi zo ia ib la lb : Addr} {ka kb : Nat} {us ws : Array Value} {x y a b : Value} {Q : Value → Shared → Prop} (D : ZipApart zz zi zo ia ib la lb)
    (gz : IsZip s.heap zz zi zo .none) (gi : IsPair s.heap zi (.ref ia) (.ref ib)) (go : IsPair s.heap zo a b)
    (ra : IterOf ta s.heap ia la ka) (rb : IterOf tb s.heap ib lb kb) (qa : SeqOf ta s.heap la us) (qb : SeqOf tb s.heap lb ws) (ex : us[ka]? = some x) (ey : ws[kb]? = some y)
    (gq : ∀ h', IsZip h' zz zi zo (rawInt s.heap.objs.size) → IsPair h' zo x y → IterOf ta h' ia la (ka + 1) → IterOf tb h' ib lb (kb + 1) → IsPair h' s.heap.objs.size x y → h'.objs.size = s.heap.objs.size + 1 →
      (∀ c o, c ≠ zz → c ≠ zo → c ≠ ia → c ≠ ib → s.heap.get? c = some o → h'.get? c = some o) → Q (.ref s.heap.objs.size) { s with heap := h' }) :
    wpAny (model prog w) A (Builtin.«zip.__next__» ⟨[.ref zz], []⟩) (fun fin s' => ∃ v, fin = .done (.ret v) ∧ Q v s') E s := by
  show wpAny _ _ (field (.ref zz) 2 >>= _) _ _ _
  refine wpAny_bind (wpAny_field gz rfl (x := .bool false) rfl ?_)
  show wpAny _ _ (field (.ref zz) 3 >>= _) _ _ _
  refine wpAny_bind (wpAny_field gz rfl (x := .ref zi) rfl ?_)
  refine wpAny_bind (wpAny_seqItems gi rfl ?_)
  show wpAny _ _ (Builtin.SmallTypes.ownedTupleIsFree (.ref zz) >>= _) _ _ _
  refine wpAny_bind ?_
  unfold Builtin.SmallTypes.ownedTupleIsFree; refine wpAny_bind (wpAny_field gz rfl (x := .none) rfl (wpAny_pure ?_))
  simp only [if_true]
  refine wpAny_bind (wpAny_rule ?_)
  refine wpAny_bind (wpAny_field gz rfl (x := .ref zo) rfl ?_)
  refine wpAny_bind (wpAny_setField_rec gz (by simp) fun m₁ gz₁ sb₁ => ?_)
  replace gz₁ : IsZip m₁ zz zi zo .ellipsis := gz₁
  refine wpAny_bind ?_
  simp only [List.forIn_nil, List.forIn_cons, List.zipIdx_nil, List.zipIdx_cons]

  refine wpAny_bind (wpAny_bind (wpAny_onRaise ?_))
  show wpAny _ _ (Builtin.SmallTypes.nextOf (.ref ia) >>= _) _ _ _
  refine wpAny_bind (next_one (ra.ext sb₁.extBut D.i1z) (qa.ext sb₁.extBut D.l1z) ex fun m₂ ra₂ sb₂ => wpAny_pure ?_)
  have go₂ : IsPair m₂ zo a b := sb₂.extBut _ _ D.TOi1 (sb₁.extBut _ _ D.TOz go)
  refine wpAny_bind (wpAny_seqItems go₂ rfl ?_)
  refine wpAny_bind (wpAny_updateSeq_pair go₂ fun m₃ go₃ sb₃ => ?_)
  replace go₃ : IsPair m₃ zo x b := go₃
  refine wpAny_bind (wpAny_letGo (wpAny_pure ?_))

  refine wpAny_bind (wpAny_bind (wpAny_onRaise ?_))
  show wpAny _ _ (Builtin.SmallTypes.nextOf (.ref ib) >>= _) _ _ _
  refine wpAny_bind (next_one (((rb.ext sb₁.extBut D.i2z).ext sb₂.extBut D.i12.symm).ext sb₃.extBut D.TOi2.symm)
    (((qb.ext sb₁.extBut D.l2z).ext sb₂.extBut D.l2i1).ext sb₃.extBut D.l2TO) ey fun m₄ rb₄ sb₄ => wpAny_pure ?_)
  have go₄ : IsPair m₄ zo x b := sb₄.extBut _ _ D.TOi2 go₃
  refine wpAny_bind (wpAny_seqItems go₄ rfl ?_)
  refine wpAny_bind (wpAny_updateSeq_pair go₄ fun m₅ go₅ sb₅ => ?_)
  replace go₅ : IsPair m₅ zo x y := go₅
  refine wpAny_bind (wpAny_letGo (wpAny_pure (wpAny_pure ?_)))

  refine wpAny_bind (wpAny_seqItems go₅ rfl ?_)
  refine wpAny_bind (wpAny_newTuple ?_)
  have esz : m₅.objs.size = s.heap.objs.size := by rw [sb₅.1, sb₄.1, sb₃.1, sb₂.1, sb₁.1]
  have gz₅ : IsZip m₅ zz zi zo .ellipsis := sb₅.extBut _ _ D.TOz.symm (sb₄.extBut _ _ D.i2z.symm (sb₃.extBut _ _ D.TOz.symm (sb₂.extBut _ _ D.i1z.symm gz₁)))
  have ke₅ : ∀ c o, c ≠ zz → c ≠ zo → c ≠ ia → c ≠ ib → s.heap.get? c = some o → m₅.get? c = some o := fun c o c1 c2 c3 c4 e =>
    sb₅.extBut _ _ c2 (sb₄.extBut _ _ c4 (sb₃.extBut _ _ c2 (sb₂.extBut _ _ c3 (sb₁.extBut _ _ c1 e))))
  have ra₅ : IterOf ta m₅ ia la (ka + 1) := ((ra₂.ext sb₃.extBut D.TOi1.symm).ext sb₄.extBut D.i12).ext sb₅.extBut D.TOi1.symm
  have rb₅ : IterOf tb m₅ ib lb (kb + 1) := rb₄.ext sb₅.extBut D.TOi2.symm
  have zlt : zz < m₅.objs.size := Heap.lt_size gz₅
  have olt : zo < m₅.objs.size := Heap.lt_size go₅
  have alt : ia < m₅.objs.size := ra₅.lt
  have blt : ib < m₅.objs.size := rb₅.lt
  show wpAny _ _ (Builtin.SmallTypes.ownedTupleHandOut (.ref zz) (.ref m₅.objs.size) >>= _) _ _ _
  refine wpAny_bind ?_
  unfold Builtin.SmallTypes.ownedTupleHandOut;   have gz₆ : IsZip (m₅.push { cls := .type "tuple", data := .seq #[x, y] }) zz zi zo .ellipsis := Heap.get?_push_of_some _ gz₅
  refine wpAny_bind (wpAny_setField_rec gz₆ (by simp) fun m₇ gz₇ sb₇ => ?_)
  replace gz₇ : IsZip m₇ zz zi zo (rawInt m₅.objs.size) := gz₇
  refine wpAny_setField_rec gz₇ (by simp) fun m₈ gz₈ sb₈ => ?_
  replace gz₈ : IsZip m₈ zz zi zo (rawInt m₅.objs.size) := gz₈
  have upw : ∀ c o, c ≠ zz → m₅.get? c = some o → m₈.get? c = some o := fun c o c1 e => sb₈.extBut _ _ c1 (sb₇.extBut _ _ c1 (Heap.get?_push_of_some _ e))
  have gt₈ : IsPair m₈ m₅.objs.size x y := sb₈.extBut _ _ (Nat.ne_of_gt zlt) (sb₇.extBut _ _ (Nat.ne_of_gt zlt) (Heap.get?_push_size _ rfl))
  have hz8 : m₈.objs.size = m₅.objs.size + 1 := by rw [sb₈.1, sb₇.1, Heap.size_push]
  rw [esz] at gz₈ gt₈ hz8
  refine wpAny_pure ⟨_, rfl, ?_⟩
  show Q (.ref m₅.objs.size) _
  rw [esz]
  exact gq m₈ gz₈ (upw _ _ D.TOz go₅) (ra₅.at fun o e => upw _ o D.i1z e) (rb₅.at fun o e => upw _ o D.i2z e) gt₈ hz8 fun c o c1 c2 c3 c4 e => upw c o c1 (ke₅ c o c1 c2 c3 c4 e)
theorem zg_last {ta tb : Bool} {zz zi zo ia ib la lb : Addr} {ka kb : Nat} {us ws : Array Value} {a b : Value} {Q : Fin → Shared → Prop} (nh : A.handled = none) (D : ZipApart zz zi zo ia ib la lb)
    (gz : IsZip s.heap zz zi zo .none) (gi : IsPair s.heap zi (.ref ia) (.ref ib)) (go : IsPair s.heap zo a b)
    (ra : IterOf ta s.heap ia la ka) (rb : IterOf tb s.heap ib lb kb) (qa : SeqOf ta s.heap la us) (qb : SeqOf tb s.heap lb ws) (gend : us[ka]? = none ∨ ws[kb]? = none)
    (ge : ∀ h' e, (∀ c o, c ≠ zz → c ≠ zo → c ≠ ia → c ≠ ib → s.heap.get? c = some o → h'.get? c = some o) → (∃ o, h'.get? e = some o ∧ o.cls = .type "StopIteration") → E (.ref e) { s with heap := h' }) :
    wpAny (model prog w) A (Builtin.«zip.__next__» ⟨[.ref zz], []⟩) Q E s := by
  show wpAny _ _ (field (.ref zz) 2 >>= _) _ _ _
  refine wpAny_bind (wpAny_field gz rfl (x := .bool false) rfl ?_)
  show wpAny _ _ (field (.ref zz) 3 >>= _) _ _ _
  refine wpAny_bind (wpAny_field gz rfl (x := .ref zi) rfl ?_)
  refine wpAny_bind (wpAny_seqItems gi rfl ?_)
  show wpAny _ _ (Builtin.SmallTypes.ownedTupleIsFree (.ref zz) >>= _) _ _ _
  refine wpAny_bind ?_
  unfold Builtin.SmallTypes.ownedTupleIsFree; refine wpAny_bind (wpAny_field gz rfl (x := .none) rfl (wpAny_pure ?_))
  simp only [if_true]
  refine wpAny_bind (wpAny_rule ?_)
  refine wpAny_bind (wpAny_field gz rfl (x := .ref zo) rfl ?_)
  refine wpAny_bind (wpAny_setField_rec gz (by simp) fun m₁ gz₁ sb₁ => ?_)
  replace gz₁ : IsZip m₁ zz zi zo .ellipsis := gz₁
  refine wpAny_bind ?_
  simp only [List.forIn_nil, List.forIn_cons, List.zipIdx_nil, List.zipIdx_cons]
  refine wpAny_bind (wpAny_bind (wpAny_onRaise ?_))
  show wpAny _ _ (Builtin.SmallTypes.nextOf (.ref ia) >>= _) _ _ _
  cases ex : us[ka]? with
  | none =>
    refine wpAny_bind (next_end nh (ra.ext sb₁.extBut D.i1z) (qa.ext sb₁.extBut D.l1z) ex fun m₂ e sb₂ ee => ?_)
    obtain ⟨ob, eoe, ece⟩ := ee
    have gz₂ : IsZip m₂ zz zi zo .ellipsis := sb₂ _ _ D.i1z.symm gz₁
    have nez : e ≠ zz := fun x => by subst x; rw [gz₂] at eoe; cases eoe; simp at ece
    refine wpAny_setField_rec gz₂ (by simp) fun m₃ _ sb₃ => ge m₃ e (fun c o c1 _ c3 _ x => sb₃.extBut _ _ c1 (sb₂ _ _ c3 (sb₁.extBut _ _ c1 x))) ⟨ob, sb₃.extBut _ _ nez eoe, ece⟩
  | some x =>
    have ey : ws[kb]? = none := by rcases gend with h | h; rw [ex] at h; cases h; exact h
    refine wpAny_bind (next_one (ra.ext sb₁.extBut D.i1z) (qa.ext sb₁.extBut D.l1z) ex fun m₂ ra₂ sb₂ => wpAny_pure ?_)
    have go₂ : IsPair m₂ zo a b := sb₂.extBut _ _ D.TOi1 (sb₁.extBut _ _ D.TOz go)
    refine wpAny_bind (wpAny_seqItems go₂ rfl ?_)
    refine wpAny_bind (wpAny_updateSeq_pair go₂ fun m₃ go₃ sb₃ => ?_)
    refine wpAny_bind (wpAny_letGo (wpAny_pure ?_))
    refine wpAny_bind (wpAny_bind (wpAny_onRaise ?_))
    show wpAny _ _ (Builtin.SmallTypes.nextOf (.ref ib) >>= _) _ _ _
    refine wpAny_bind (next_end nh (((rb.ext sb₁.extBut D.i2z).ext sb₂.extBut D.i12.symm).ext sb₃.extBut D.TOi2.symm)
      (((qb.ext sb₁.extBut D.l2z).ext sb₂.extBut D.l2i1).ext sb₃.extBut D.l2TO) ey fun m₄ e sb₄ ee => ?_)
    obtain ⟨ob, eoe, ece⟩ := ee
    have gz₄ : IsZip m₄ zz zi zo .ellipsis := sb₄ _ _ D.i2z.symm (sb₃.extBut _ _ D.TOz.symm (sb₂.extBut _ _ D.i1z.symm gz₁))
    have nez : e ≠ zz := fun x => by subst x; rw [gz₄] at eoe; cases eoe; simp at ece
    refine wpAny_setField_rec gz₄ (by simp) fun m₅ _ sb₅ => ge m₅ e (fun c o c1 c2 c3 c4 x => sb₅.extBut _ _ c1 (sb₄ _ _ c4 (sb₃.extBut _ _ c2 (sb₂.extBut _ _ c3 (sb₁.extBut _ _ c1 x))))) ⟨ob, sb₅.extBut _ _ nez eoe, ece⟩
theorem py_next {ta tb : Bool} {zz zi zo ia ib la lb : Addr} {ka kb : Nat} {us ws : Array Value} {x y a b : Value} {Q : Option Value → Shared → Prop} (D : ZipApart zz zi zo ia ib la lb)
    (gz : IsZip s.heap zz zi zo .none) (gi : IsPair s.heap zi (.ref ia) (.ref ib)) (go : IsPair s.heap zo a b)
    (ra : IterOf ta s.heap ia la ka) (rb : IterOf tb s.heap ib lb kb) (qa : SeqOf ta s.heap la us) (qb : SeqOf tb s.heap lb ws) (ex : us[ka]? = some x) (ey : ws[kb]? = some y)
    (gq : ∀ h', IsZip h' zz zi zo (rawInt s.heap.objs.size) → IsPair h' zo x y → IterOf ta h' ia la (ka + 1) → IterOf tb h' ib lb (kb + 1) → IsPair h' s.heap.objs.size x y → h'.objs.size = s.heap.objs.size + 1 →
      (∀ c o, c ≠ zz → c ≠ zo → c ≠ ia → c ≠ ib → s.heap.get? c = some o → h'.get? c = some o) → Q (some (.ref s.heap.objs.size)) { s with heap := h' }) :
    wpAny (model prog w) A (pyNext (.ref zz)) Q E s := by
  have ht : s.TypeIs (.ref zz) "zip" := ⟨_, gz, rfl⟩
  unfold pyNext
  exact wpAny_bind (wpAny_attempt (wpAny_callSpecial?_slot (name := Str.ofString "__next__") ht F.slot_zip_next
    (wpAny_call_entry F.slot_zip_next ht F.entry_zip_next
      (zg_next D gz gi go ra rb qa qb ex ey fun h' a1 a2 a3 a4 a5 a6 a7 => wpAny_pure (gq h' a1 a2 a3 a4 a5 a6 a7)) (F.args_zip_next_1 _))))
theorem py_last {ta tb : Bool} {zz zi zo ia ib la lb : Addr} {ka kb : Nat} {us ws : Array Value} {a b : Value} {Q : Option Value → Shared → Prop} (nh : A.handled = none) (D : ZipApart zz zi zo ia ib la lb)
    (gz : IsZip s.heap zz zi zo .none) (gi : IsPair s.heap zi (.ref ia) (.ref ib)) (go : IsPair s.heap zo a b)
    (ra : IterOf ta s.heap ia la ka) (rb : IterOf tb s.heap ib lb kb) (qa : SeqOf ta s.heap la us) (qb : SeqOf tb s.heap lb ws) (gend : us[ka]? = none ∨ ws[kb]? = none)
    (gq : ∀ h', (∀ c o, c ≠ zz → c ≠ zo → c ≠ ia → c ≠ ib → s.heap.get? c = some o → h'.get? c = some o) → Q none { s with heap := h' }) : wpAny (model prog w) A (pyNext (.ref zz)) Q E s := by
  have ht : s.TypeIs (.ref zz) "zip" := ⟨_, gz, rfl⟩
  unfold pyNext
  refine wpAny_bind (wpAny_attempt (wpAny_callSpecial?_slot (name := Str.ofString "__next__") ht F.slot_zip_next
    (wpAny_call_entry F.slot_zip_next ht F.entry_zip_next (zg_last nh D gz gi go ra rb qa qb gend fun h' e hk ee => ?_) (F.args_zip_next_1 _))))
  obtain ⟨o, ho, hc⟩ := ee
  refine wpAny_bind (wpAny_isInstance (T := "StopIteration") (b := true) ⟨o, ho, hc⟩ isSubtype_stop ?_)
  exact wpAny_pure (gq _ hk)
end
/-- what a new iterator is -/
def itObj (t : Bool) (l : Addr) : Obj := { cls := .type (if t then "tuple_iterator" else "list_iterator"), data := .fields #[.ref l, .int 0 0] }
theorem itObj_is {t : Bool} {h : Heap} {it l : Addr} (e : h.get? it = some (itObj t l)) : IterOf t h it l 0 := by
  cases t with
  | true => exact ⟨_, e, rfl, rfl⟩
  | false => exact ⟨_, e, rfl, rfl⟩
abbrev gH1 (t : Bool) (h : Heap) (a : Addr) : Heap := h.push (itObj t a)
abbrev gH2 (t u : Bool) (h : Heap) (a b : Addr) : Heap := (gH1 t h a).push (itObj u b)
abbrev gH3 (t u : Bool) (h : Heap) (a b : Addr) : Heap := (gH2 t u h a b).push { cls := .type "tuple", data := .seq #[.ref h.objs.size, .ref (gH1 t h a).objs.size] }
abbrev gH4 (t u : Bool) (h : Heap) (a b : Addr) : Heap := (gH3 t u h a b).push { cls := .type "tuple", data := .seq #[.none, .none] }
abbrev gH5 (t u : Bool) (h : Heap) (a b : Addr) : Heap := (gH4 t u h a b).push { cls := .type "zip", data := .fields #[.none, .bool false, .bool false, .ref (gH2 t u h a b).objs.size, .ref (gH3 t u h a b).objs.size] }
theorem iter_of {prog : Program} {w : World} {A : Around} {E : Value → Shared → Prop} {s : Shared} {t : Bool} {l : Addr} {us : Array Value} {Q : Value → Shared → Prop} (x : SeqOf t s.heap l us) (h : Q (.ref s.heap.objs.size) { s with heap := s.heap.push (itObj t l) }) : wpAny (model prog w) A (pyIter (.ref l)) Q E s := by
  cases t with
  | true => exact wpAny_pyIter_tuple (show s.heap.IsTuple l us from x) h
  | false => exact wpAny_pyIter_list (show s.heap.IsList l us from x) h
theorem new_meets (t u : Bool) (a b : Addr) (us ws : Array Value) :
    Meets (Builtin.«zip.__new__» ⟨[.type "zip", .ref a, .ref b], []⟩) (fun _ R s => SeqOf t s.heap a us ∧ SeqOf u s.heap b ws ∧ R (.ok (.ret (.ref (gH4 t u s.heap a b).objs.size))) { s with heap := gH5 t u s.heap a b }) :=
  .of_wp fun prog w A R s y => by
    obtain ⟨hp, g, d, tk, os⟩ := s
    obtain ⟨qa, qb, y⟩ := y
    have hsub := sub_zip
    have ua : SeqOf t (Shared.heap ⟨hp, g, d, tk, os⟩) a us := qa
    have ub : SeqOf u (Shared.heap ⟨hp.push (itObj t a), g, d, tk, os⟩) b ws := qb.push _
    wp_walk using iter_of ua, iter_of ub
    exact ⟨_, rfl, y⟩
section
variable {prog : Program} {w : World} {A : Around} {E : Value → Shared → Prop} {s : Shared}
theorem call_zg {t u : Bool} {a b : Addr} {us ws : Array Value} {Q : Value → Shared → Prop} (qa : SeqOf t s.heap a us) (qb : SeqOf u s.heap b ws)
    (y : ∀ h', IsZip h' (s.heap.objs.size + 4) (s.heap.objs.size + 2) (s.heap.objs.size + 3) .none → IsPair h' (s.heap.objs.size + 2) (.ref s.heap.objs.size) (.ref (s.heap.objs.size + 1)) → IsPair h' (s.heap.objs.size + 3) .none .none →
      IterOf t h' s.heap.objs.size a 0 → IterOf u h' (s.heap.objs.size + 1) b 0 → (∀ c o, s.heap.get? c = some o → h'.get? c = some o) → Q (.ref (s.heap.objs.size + 4)) { s with heap := h' }) :
    wpAny (model prog w) A (call (.type "zip") [.ref a, .ref b]) Q E s := by
  refine callType_new F.called_zip (by decide) (F.typeCall_zip_2 _ _) (F.newCall_zip_2 _ _) (fun obj => F.args_object_init_3 obj _ _) F.entry_zip_new (new_meets t u a b us ws) ⟨qa, qb, ?_⟩
  have e1 : (gH1 t s.heap a).objs.size = s.heap.objs.size + 1 := Heap.size_push ..
  have e2 : (gH2 t u s.heap a b).objs.size = s.heap.objs.size + 2 := by rw [Heap.size_push, e1]
  have e3 : (gH3 t u s.heap a b).objs.size = s.heap.objs.size + 3 := by rw [Heap.size_push, e2]
  have e4 : (gH4 t u s.heap a b).objs.size = s.heap.objs.size + 4 := by rw [Heap.size_push, e3]
  have p1 : (gH1 t s.heap a).get? s.heap.objs.size = some (itObj t a) := Heap.get?_push_size _ rfl
  have p2 : (gH2 t u s.heap a b).get? (gH1 t s.heap a).objs.size = some (itObj u b) := Heap.get?_push_size _ rfl
  have p3 : (gH3 t u s.heap a b).get? (gH2 t u s.heap a b).objs.size = some _ := Heap.get?_push_size _ rfl
  have p4 : (gH4 t u s.heap a b).get? (gH3 t u s.heap a b).objs.size = some _ := Heap.get?_push_size _ rfl
  have p5 : (gH5 t u s.heap a b).get? (gH4 t u s.heap a b).objs.size = some _ := Heap.get?_push_size _ rfl
  have o4 : ∀ {c o}, (gH4 t u s.heap a b).get? c = some o → (gH5 t u s.heap a b).get? c = some o := fun x => Heap.get?_push_of_some _ x
  have o3 : ∀ {c o}, (gH3 t u s.heap a b).get? c = some o → (gH5 t u s.heap a b).get? c = some o := fun x => o4 (Heap.get?_push_of_some _ x)
  have o2 : ∀ {c o}, (gH2 t u s.heap a b).get? c = some o → (gH5 t u s.heap a b).get? c = some o := fun x => o3 (Heap.get?_push_of_some _ x)
  have o1 : ∀ {c o}, (gH1 t s.heap a).get? c = some o → (gH5 t u s.heap a b).get? c = some o := fun x => o2 (Heap.get?_push_of_some _ x)
  have g5 := p5
  have g4 := o4 p4
  have g3 := o3 p3
  have g2 := o2 p2
  have g1 := o1 p1
  show _ ∧ _
  rw [e2, e3, e4] at g5
  rw [e1, e2] at g3
  rw [e3] at g4
  rw [e1] at g2
  rw [e4]
  exact ⟨⟨_, g5, rfl⟩, y _ g5 g3 g4 (itObj_is g1) (itObj_is g2) fun c o x => o1 (Heap.get?_push_of_some _ x)⟩
end
/-- a sequence of values, a tuple or a list -/
def SqOf (K : PySem.W.Frag) : Bool → Hp → Addr → List V → Prop
  | true, H, a, xs => SqT K H a xs
  | false, H, a, xs => SqL K H a xs
theorem sq_heap {X : Cx} {pins : List (Addr × Obj)} {σ : L2.St} {H : Hp} {s : Shared} {t : Bool} {a : Addr} {xs : List V} (I : Inv X pins σ H s) (q : SqOf X.K t H a xs) : ∃ its : List Value, Vals xs its ∧ SeqOf t s.heap a its.toArray ∧ a < s.heap.objs.size := by
  cases t with
  | true =>
    obtain ⟨its, rv, p, _⟩ := I.tuple q
    obtain ⟨o, ho, _⟩ := id p
    exact ⟨its, rv, (show s.heap.IsTuple a its.toArray from p), Heap.lt_size ho⟩
  | false =>
    obtain ⟨its, rv, p, _⟩ := I.list q
    exact ⟨its, rv, p.isList, p.lt⟩
theorem sq_inj {X : Cx} {pins : List (Addr × Obj)} {σ : L2.St} {H : Hp} {s : Shared} {t : Bool} {a : Addr} {xs ys : List V} (I : Inv X pins σ H s) (q : SqOf X.K t H a xs) (r : SqOf X.K t H a ys) : xs = ys := by
  cases t with
  | true => exact I.tuple_inj q r
  | false => exact I.list_inj q r
/-- both as they stand at each turn, their things in new pairs -/
def ItG (K : PySem.W.Frag) (t u : Bool) (a b : Addr) : It where
  go := fun i H => ∃ (xs ys : List V) (x y : V), SqOf K t H a xs ∧ SqOf K u H b ys ∧ xs[i]? = some x ∧ ys[i]? = some y
  yld := fun i H v H' => ∃ T x y, v = .ref T ∧ H T = none ∧ H' = upd H T (.tup [x, y]) ∧ (∀ xs, SqOf K t H a xs → xs[i]? = some x) ∧ ∀ ys, SqOf K u H b ys → ys[i]? = some y
  stop := fun i H => ∃ xs ys : List V, SqOf K t H a xs ∧ SqOf K u H b ys ∧ (xs.length ≤ i ∨ ys.length ≤ i)
theorem turn_g {P : Program} {w : World} {K : PySem.W.Frag} {elts : List Expr} {kk : Nat} {tpos : Pos} {t u : Bool} {a b zz zi zo ia ib : Addr} (D : ZipApart zz zi zo ia ib a b) :
    Turn P w K (.Tuple elts kk tpos) (ItG K t u a b) [zz, zi, zo, ia, ib] zz (fun i h => IsZip h zz zi zo .none ∧ IsPair h zi (.ref ia) (.ref ib) ∧ (∃ x y, IsPair h zo x y) ∧ IterOf t h ia a i ∧ IterOf u h ib b i) where
  mem := by simp
  obj := fun i h st c hc => by
    obtain ⟨gz, gi, ⟨x, y, go⟩, ra, rb⟩ := st
    obtain ⟨o1, v1, e1, d1⟩ := ra.obj
    obtain ⟨o2, v2, e2, d2⟩ := rb.obj
    have e' : c = zz ∨ c = zi ∨ c = zo ∨ c = ia ∨ c = ib := by simpa using hc
    rcases e' with rfl | rfl | rfl | rfl | rfl
    · exact ⟨_, gz, fun v q => nomatch q⟩
    · exact ⟨_, gi, fun v q => nomatch q⟩
    · exact ⟨_, go, fun v q => nomatch q⟩
    · exact ⟨o1, e1, fun v q => by rw [d1] at q; cases q⟩
    · exact ⟨o2, e2, fun v q => by rw [d2] at q; cases q⟩
  keep := fun i h h' st k => by
    obtain ⟨gz, gi, ⟨x, y, go⟩, ra, rb⟩ := st
    exact ⟨k zz (by simp) _ gz, k zi (by simp) _ gi, ⟨x, y, k zo (by simp) _ go⟩, ra.at fun o q => k ia (by simp) o q, rb.at fun o q => k ib (by simp) o q⟩
  item := by
    intro X hP hw hK hc i pins s σ H E I hf st hg
    subst hP hw hK
    obtain ⟨gz, gi, ⟨x0, y0, go⟩, ra, rb⟩ := st
    obtain ⟨xs, ys, x, y, qx, qy, ex, ey⟩ := hg
    obtain ⟨its, rv, p, _⟩ := sq_heap I qx
    obtain ⟨its2, rv2, p2, _⟩ := sq_heap I qy
    obtain ⟨c1, f1, r1⟩ := rv.get ex
    obtain ⟨c2, f2, r2⟩ := rv2.get ey
    have zl : zz < s.heap.objs.size := Heap.lt_size gz
    refine py_next D gz gi go ra rb p p2 (x := c1) (y := c2) (by simpa using f1) (by simpa using f2) fun h' z' to' ra' rb' gt esz hk => ?_
    refine ⟨_, rfl, wpAny_letOwnedTupleGo_zip (s := { s with heap := h' }) z' fun h'' z'' sb => ?_⟩
    have gt2 : h''.get? s.heap.objs.size = some { cls := .type "tuple", data := .seq #[c1, c2] } := (sb.2 _ (Nat.ne_of_gt zl)).trans gt
    have new : ObjOk X.prog X.w (upd H s.heap.objs.size (.tup [x, y])) h'' s.heap.objs.size (.tup [x, y]) := ⟨by show 2 ≤ sizeLine; decide, [c1, c2], .cons r1 (.cons r2 .nil), ⟨_, gt2, rfl, _, rfl⟩⟩
    have I1 : Inv X pins σ (upd H s.heap.objs.size (.tup [x, y])) { s with heap := h'' } := by
      refine I.turnedNew (t' := s.toks) (ch := [zz, zi, zo, ia, ib]) (fun c o hb q => ?_) hf (Nat.le_refl _) new
      refine (sb.2 c fun q' => hb (by simp [q'])).trans (hk c o ?_ ?_ ?_ ?_ q)
      all_goals exact fun q' => hb (by simp [q'])
    refine ⟨.ref s.heap.objs.size, _, I1, rfl, ⟨_, x, y, rfl, I.hok.fresh (Nat.le_refl _), rfl, fun l hl => by rw [sq_inj I hl qx]; exact ex, fun l hl => by rw [sq_inj I hl qy]; exact ey⟩, ⟨z'', ?_, ⟨c1, c2, ?_⟩, ?_, ?_⟩, fun c hcm => ?_⟩
    · exact (sb.2 _ D.TIz).trans (hk _ _ D.TIz D.TITO D.TIi1 D.TIi2 gi)
    · exact (sb.2 _ D.TOz).trans to'
    · exact ra'.at fun o q => (sb.2 _ D.i1z).trans q
    · exact rb'.at fun o q => (sb.2 _ D.i2z).trans q
    · have lt : c < s.heap.objs.size := by
        have e' : c = zz ∨ c = zi ∨ c = zo ∨ c = ia ∨ c = ib := by simpa using hcm
        rcases e' with rfl | rfl | rfl | rfl | rfl
        · exact zl
        · exact Heap.lt_size gi
        · exact Heap.lt_size go
        · exact ra.lt
        · exact rb.lt
      rw [upd_ne (Nat.ne_of_lt lt)]
      exact (hf c hcm).1
  done := by
    intro X hP hw hK hc i pins s σ H E I hf st hg
    subst hP hw hK
    obtain ⟨gz, gi, ⟨x0, y0, go⟩, ra, rb⟩ := st
    obtain ⟨xs, ys, qx, qy, gend⟩ := hg
    obtain ⟨its, rv, p, _⟩ := sq_heap I qx
    obtain ⟨its2, rv2, p2, _⟩ := sq_heap I qy
    have l1 := rv.length
    have l2 := rv2.length
    have he : its.toArray[i]? = none ∨ its2.toArray[i]? = none := gend.imp (fun q => by simp; omega) fun q => by simp; omega
    refine py_last (I.ok.hd hc) D gz gi go ra rb p p2 he fun h' hk => ⟨rfl, I.turnedL (t' := s.toks) (ch := [zz, zi, zo, ia, ib]) (fun c o hb q => ?_) hf⟩
    refine hk c o ?_ ?_ ?_ ?_ q
    all_goals exact fun q' => hb (by simp [q'])
  self := fun A i s Q E st h => wpAny_pyIter_zip st.1 h
def iZipG (K : PySem.W.Frag) (ta : TA) : TI := fun σ H R => ta σ H fun vs H1 => ∃ a b xs ys t u, vs = [.ref a, .ref b] ∧ SqOf K t H1 a xs ∧ SqOf K u H1 b ys ∧ R (ItG K t u a b) H1
theorem pi_zipG {X : Cx} {e e2 : Expr} {ta : TA} {p pos tpos : Pos} {elts : List Expr} {kk : Nat} (hg : Gl X "zip") (hm : X.mg "zip" = none) (ha : PA X [e, e2] ta)
    (hs : starEach [e, e2] X.env = (false, eval e X.env) :: starEach [e2] X.env := by rfl) (hpl : (backTo pos (starEach [e2] X.env)).any (·.1) = false := by rfl) :
    PI X (.Tuple elts kk tpos) (.Call (.Name "zip" p) [e, e2] [] pos) (iZipG X.K ta) := by
  refine ⟨fun pins s σ H R I h => Call_ (ld_blt I hg hm PyProof.Rows.boot_zip (PyProof.Rows.callWith_type1 (thn (ha.run pos pins s σ H _ I h) fun us s1 ⟨vs, H1, I1, r1, q1⟩ => ?_) hs hpl))⟩
  obtain ⟨a, b, xs, ys, t, u, rfl, qx, qy, q⟩ := q1
  cases r1 with
  | cons r rr =>
    cases rr with
    | cons r' rr =>
      cases rr
      cases r
      cases r'
      obtain ⟨its, rv, p1, lt1⟩ := sq_heap I1 qx
      obtain ⟨its2, rv2, p2, lt2⟩ := sq_heap I1 qy
      refine call_zg p1 p2 fun h' gz gi go ra rb hk => wpAny_pyIter_zip gz ?_
      have I2 : Inv X pins σ H1 { s1 with heap := h' } := I1.kept (t' := s1.toks) hk
      refine ⟨s1.heap.objs.size + 4, [s1.heap.objs.size + 4, s1.heap.objs.size + 2, s1.heap.objs.size + 3, s1.heap.objs.size, s1.heap.objs.size + 1], _, _, H1, rfl, I2, turn_g (PySem.W.ktu_apart s1.heap.objs.size a b lt1 lt2), ⟨gz, gi, ⟨_, _, go⟩, ra, rb⟩, fun c hcm => ?_, q⟩
      have e' : c = s1.heap.objs.size + 4 ∨ c = s1.heap.objs.size + 2 ∨ c = s1.heap.objs.size + 3 ∨ c = s1.heap.objs.size ∨ c = s1.heap.objs.size + 1 := by simpa using hcm
      have hle : s1.heap.objs.size ≤ c := by rcases e' with q | q | q | q | q <;> rw [q] <;> first | exact Nat.le_refl _ | exact Nat.le_add_right _ _
      exact I1.fpOk hle (I1.hok.fresh hle)
end Zg
set_option Elab.async false
set_option linter.all false
set_option maxRecDepth 100000
set_option maxHeartbeats 2000000
namespace Mi
open PySem PySem.Spec PyProof.Rows L2
/-- what the readings lean on: where things of the text stand, what defs promise -/
structure TP where
  K : PySem.W.Frag
  glob : Nat → V
  cls : Nat → Addr
  tabs : List (Addr × Str) := []
  exc : Option (Addr × Addr × Option Addr) := none
  wd : Nat → Option Wd := fun _ => none
  fn : Nat → Option Addr := fun _ => none
/-- a flat thing -/
def FlatV : D → V → Prop
  | .non, v => v = .non
  | .bl b, v => v = .bl b
  | .int i, v => v = .int i
  | .str s, v => v = .str s
  | _, _ => False
/-- an exception's fields as they stand -/
def XAt (x : Exc) (d : Option Addr) (H : Hp) : Prop := x.ns.length = x.ds.length ∧
  ((x.ns = [] ∧ d = none) ∨ ∃ dd vs, d = some dd ∧ H dd = some (.xd (x.ns.zip vs)) ∧ vs.length = x.ds.length ∧ ∀ (i : Nat) (v : V) (y : D), vs[i]? = some v → x.ds[i]? = some y → FlatV y v)
/-- what an exception is that flies -/
def XIs (P : TP) (x : Exc) (cls : Value) (d : Option Addr) (H : Hp) : Prop := cls = .ref (P.cls x.C) ∧ XAt x d H
abbrev AP := Addr → Prop
def Av (O W : AP) : AP := fun a => O a ∨ W a
def isMut : HO → Bool
  | .lst _ => true
  | .ins _ _ _ => true
  | .dK _ => true
  | _ => false
/-- the script's list: tracked, or of the written part -/
def ScrAt (K : PySem.W.Frag) (A : AP) (H : Hp) (a : Addr) (xs : List V) : Prop :=
  (Rd H a (.lst xs) ∧ ¬ A a) ∨ ∃ (o : Obj) (its : Array Value) (n : Nat), K.lookup a = some o ∧ o.cls = .type "list" ∧ o.dict = none ∧ o.data = .seq its n ∧ its.size ≤ sizeLine ∧ Vals xs its.toList
section
variable (P : TP) (A : AP) (H : Hp)
mutual
def RepV : D → V → Prop
  | .non, v => v = .non
  | .bl b, v => v = .bl b
  | .int i, v => v = .int i
  | .str s, v => v = .str s
  | .ty n, v => v = .ty n
  | .tup ds, v => ∃ a vs, v = .ref a ∧ TupAt P.K H a vs ∧ ds.length ≤ line ∧ RepVs ds vs
  | .lst ds, v => ∃ a vs, v = .ref a ∧ H a = some (.lst vs) ∧ ¬ A a ∧ ds.length ≤ line ∧ RepVs ds vs
  | .ins C ns ds, v => ∃ a dx vs, v = .ref a ∧ H a = some (.ins (P.cls C) dx (ns.zip vs)) ∧ ns.length = vs.length ∧ ¬ A a ∧ RepVs ds vs
  | .dct ks ds, v => ∃ a vs, v = .ref a ∧ H a = some (.dK (ks.zip vs)) ∧ ks.length = vs.length ∧ ¬ A a ∧ RepVs ds vs
  | .scr ns, v => ∃ a, v = .ref a ∧ ScrAt P.K A H a (ns.map V.int) ∧ ns.length ≤ line
  | .fn i, v => ∃ a, v = .ref a ∧ P.fn i = some a
  | .exc C ns ds, v => ∃ a d, P.exc = some (a, P.cls C, d) ∧ v = .ref a ∧ XAt ⟨C, ns, ds⟩ d H
def RepVs : List D → List V → Prop
  | [], vs => vs = []
  | d :: ds, vs => ∃ v r, vs = v :: r ∧ RepV d v ∧ RepVs ds r
end
/-- the content of an owned thing -/
def OwnV : D → Addr → Prop
  | .lst ds, a => ∃ vs, H a = some (.lst vs) ∧ ds.length ≤ line ∧ RepVs P A H ds vs
  | .ins C ns ds, a => ∃ dx vs, H a = some (.ins (P.cls C) dx (ns.zip vs)) ∧ ns.length = vs.length ∧ RepVs P A H ds vs
  | .dct ks ds, a => ∃ vs, H a = some (.dK (ks.zip vs)) ∧ ks.length = vs.length ∧ RepVs P A H ds vs
  | _, _ => False
/-- what an operation reads: the top may be owned -/
def RepB : D → V → Prop
  | .lst ds, v => ∃ a vs, v = .ref a ∧ H a = some (.lst vs) ∧ ds.length ≤ line ∧ RepVs P A H ds vs
  | .ins C ns ds, v => ∃ a dx vs, v = .ref a ∧ H a = some (.ins (P.cls C) dx (ns.zip vs)) ∧ ns.length = vs.length ∧ RepVs P A H ds vs
  | .dct ks ds, v => ∃ a vs, v = .ref a ∧ H a = some (.dK (ks.zip vs)) ∧ ks.length = vs.length ∧ RepVs P A H ds vs
  | d, v => RepV P A H d v
end
end Mi
set_option Elab.async false
set_option linter.all false
set_option maxRecDepth 100000
set_option maxHeartbeats 2000000
namespace Mi
open PySem PySem.Spec PyProof.Rows L2
def rSl (K : PySem.W.Frag) : V → Option Int → Option Int → Hp → VK → Prop := fun x lo hi H Q => rSlL K x lo hi H Q ∨ rSlN K x lo hi H Q
def iSeq (K : PySem.W.Frag) (tl : TE) : TI := fun σ H R => tl σ H fun x H1 => ∃ a, x = .ref a ∧ (((∃ xs, SqL K H1 a xs) ∧ R (Itl K a) H1) ∨ ((∃ xs, SqT K H1 a xs) ∧ R (Itt K a) H1))
def orE (t u : TE) : TE := fun σ H Q => t σ H Q ∨ u σ H Q
/-- t.index(x) of flat things -/
def rIndexT (K : PySem.W.Frag) : V → List V → Hp → VK → Prop := fun x xs H Q => ∃ (a : Addr) (ys : List V) (y : V) (j : Nat) (z : V), x = V.ref a ∧ xs = [y] ∧ SqT K H a ys ∧ flatV y = true ∧ ys.all flatV = true ∧
  ys[j]? = some z ∧ eqV z y = true ∧ (∀ (m : Nat) (z' : V), m < j → ys[m]? = some z' → eqV z' y = false) ∧ Q (.int (j : Nat)) H
def rCntT (K : PySem.W.Frag) : V → List V → Hp → VK → Prop := fun x xs H Q => ∃ (y : V) (d : PyData) (ds : List PyData), xs = [y] ∧ Dp K H y d ∧ SeqAt.shaped d = true ∧ Dp K H x (.tuple ds) ∧ SeqAt.shaped (.tuple ds) = true ∧ Q (.int (ds.countP (fun z => PyData.eqv z d) : Nat)) H
/-- xs.count(x), flat items -/
def rCntF (K : PySem.W.Frag) : V → List V → Hp → VK → Prop := fun x xs H Q => ∃ (p : Addr) (ys : List V) (y : V), x = .ref p ∧ xs = [y] ∧ SqL K H p ys ∧ flatV y = true ∧ ys.all flatV = true ∧ Q (.int (ys.countP (fun z => eqV z y) : Nat)) H
/-- xs.remove(k), ints -/
def rRem : V → List V → Hp → VK → Prop := rRemI
def rInsert : V → List V → Hp → VK → Prop := fun x vs H Q => ∃ (l : Addr) (xs : List V) (i : Int) (y : V), x = .ref l ∧ vs = [.int i, y] ∧ H l = some (.lst xs) ∧ xs.length < sizeLine ∧ 0 ≤ i ∧ i < 2 ^ 63 ∧ Q .non (upd H l (.lst (xs.take i.toNat ++ [y] ++ xs.drop i.toNat)))
def gLen : Tg → Nat
  | .cons _ r => gLen r + 1
  | _ => 0
section
variable (K : PySem.W.Frag)
mutual
def tG : Tg → TG
  | .var i => gName i
  | .nil => gTup K 0 gNil
  | .cons a r => gTup K (gLen r + 1) (gCons (tG a) (tGs r))
def tGs : Tg → TGs
  | .nil => gNil
  | .cons a r => gCons (tG a) (tGs r)
  | .var _ => fun _ _ _ _ => False
end
end
def gNames : List (Nat × Bool) → TGs
  | [] => gNil
  | (i, _) :: r => gCons (gName i) (gNames r)
/-- no table of code objects -/
def nT (o : HO) : Prop := ∀ ps, o ≠ .tbl ps
/-- all but the tables stays, the tables are right -/
structure Grow (T : List (Addr × Str)) (H H' : Hp) : Prop where
  keep : ∀ a o, H a = some o → nT o → H' a = some o
  alive : ∀ a, H a ≠ none → H' a ≠ none
  tabs : LamX.Tabs T H'
/-- dr handed back, what stands staying -/
def Ans (P : TP) (dr : D) (H : Hp) (Q : VK) : Prop := ∀ v H2, Grow P.tabs H H2 → RepV P (fun _ => False) H2 dr v → Q v H2
/-- what does not change stays -/
def KM (H H' : Hp) : Prop := ∀ a o, H a = some o → isMut o = false → nT o → H' a = some o
/-- what a def that calls what it got makes of the lambda's reading -/
def TTw (P : TP) (wd : Wd) (tl : XK → Hp → VK → Prop) (H : Hp) (Q : VK) : Prop :=
  tl (fun cls d H' => ∃ x dr, XIs P x cls d H' ∧ LamX.Tabs P.tabs H' ∧ KM H H' ∧ wd.onX x = some dr ∧ still dr = true ∧ Ans P dr H' Q) H fun v H' => ∃ dv dr A, RepV P A H' dv v ∧ (∀ a, A a → H' a ≠ none) ∧ LamX.Tabs P.tabs H' ∧ KM H H' ∧ wd.onV dv = some dr ∧ still dr = true ∧ Ans P dr H' Q
/-- x(lambda: e) -/
def tWd (P : TP) (f : Nat) (t : XK → TE) : TE := fun σ H Q => LamX.Tabs P.tabs H ∧ ∀ H1, Grow P.tabs H H1 → ∃ wd, P.wd f = some wd ∧ TTw P wd (fun E H' Q' => t E σ H' Q') H1 Q
/-- raise C(..) -/
def tRais (P : TP) (C : Nat) (ns : List Str) (ta : TA) (X : XK) : TS := fun _ σ H => ta σ H fun vs H1 => vs.length = ns.length ∧
  ((ns = [] ∧ X (.ref (P.cls C)) none H1) ∨ (∃ f v, ns = [f] ∧ vs = [v] ∧ ∀ dd, H1 dd = none → X (.ref (P.cls C)) (some dd) (upd H1 dd (.xd [(f, v)]))))
/-- isinstance(error, c) -/
def tIsx (P : TP) (cv : Value) (te : TE) : TE := fun σ H Q => te σ H fun x H1 => ∃ a C d b, P.exc = some (a, C, d) ∧ x = .ref a ∧ (d = none ∨ ∃ dd fs, d = some dd ∧ H1 dd = some (.xd fs)) ∧ PySem.W.kitOne P.K (.ref C) cv = some b ∧ Q (.bl b) H1
/-- error.f -/
def tXa (P : TP) (f : Str) (te : TE) : TE := fun σ H Q => te σ H fun x H1 => ∃ (a C dd : Addr) (fs : List (Str × V)) (v : V), P.exc = some (a, C, some dd) ∧ x = .ref a ∧ H1 dd = some (.xd fs) ∧ fs.lookup f = some v ∧ PySem.W.findIn P.K (.ref C) f = some none ∧ Q v H1
/-- f, a def as a value -/
def tFnv (P : TP) (i : Nat) : TE := fun _ H Q => ∃ a, P.fn i = some a ∧ Q (.ref a) H
/-- a slot's def called -/
def tCallv (P : TP) (call : Nat → Sp) (i : Nat) (ta : TA) (X : XK) : TE := fun σ H Q => ∃ g a, P.fn g = some a ∧ σ[i]? = some (some (.ref a)) ∧ ta σ H fun vs H1 => call g vs H1 Q X
/-- x == y, x != y: two instances of the class at C, by its __eq__ -/
def rEqi (K : PySem.W.Frag) (neg : Bool) (C : Addr) (sp : Sp) : R2 := fun x y H Q => ∃ (a dx : Addr) (fs : List (Str × V)), x = .ref a ∧ H a = some (.ins C dx fs) ∧ ((∃ (b dy : Addr) (gs : List (Str × V)), y = .ref b ∧ H b = some (.ins C dy gs)) ∨ ∃ n ∈ tyNames, TyX K H y (.type n)) ∧ sp [.ref a, y] H (fun v H2 => ∃ r, v = .bl r ∧ Q (.bl (r != neg)) H2) E0
def tEqi (K : PySem.W.Frag) (neg : Bool) (C : Addr) (sp : Sp) (ta : TA) : TE := fun σ H Q => ta σ H fun vs H1 => ∃ x y, vs = [x, y] ∧ rEqi K neg C sp x y H1 Q
/-- classes as they are laid in a tuple -/
def tTys : List String → TA
  | [] => tNil
  | n :: r => tCons (tC (.ty n)) (tTys r)
section
variable (P : TP) (call : Nat → Sp)
mutual
def tE : E → XK → TE
  | .var i, X => tVar i
  | .glob x, X => tC (P.glob x)
  | .cint i, X => tC (.int i)
  | .cbl b, X => tC (.bl b)
  | .cnon, X => tC .non
  | .cstr s, X => tC (.str s)
  | .cty n, X => tC (.ty n)
  | .tup es, X => tTupN (tEs es X)
  | .lst es, X => tLst (tEs es X)
  | .bin op a b, X => tOp (rBin P.K op) (tE a X) (tE b X)
  | .neg a, X => tUn (rU fun i => .int (-i)) (tE a X)
  | .notv a, X => tNotV (tE a X)
  | .andv a b, X => tAndV (tE a X) (tE b X)
  | .orv a b, X => tOrV (tE a X) (tE b X)
  | .cmp op a b, X => tOp (rCmp P.K op) (tE a X) (tE b X)
  | .chain op op' a b c, X => tChain (rCmp P.K op) (rCmp P.K op') (tE a X) (tE b X) (tE c X)
  | .ite c a b, X => tIf (tT c X) (tE a X) (tE b X)
  | .idx a i, X => orE (tOp (rIx P.K) (tE a X) (tE i X)) (tDGet (tE a X) (tE i X))
  | .sl a lo hi, X => tSl (rSl P.K) (tE a X) (tO lo X) (tO hi X)
  | .rev a, X => tUn (rRev P.K) (tE a X)
  | .call f es, X => tCall (call f) [] E0 (tEs es X)
  | .make C es, X => tMake (P.cls C) (call C) [] E0 (tEs es X)
  | .callb f es, X => tCB (rBlt P.K f) (tEs es X)
  | .meth .index o e, X => orE (tBM P.K "list" (rIndex P.K) (tE o X) (tCons (tE e X) tNil)) (tBD P.K "tuple" (rIndexT P.K) (tE o X) (tCons (tE e X) tNil))
  | .meth .countT o e, X => tBD P.K "tuple" (rCntT P.K) (tE o X) (tCons (tE e X) tNil)
  | .meth .countF o e, X => tBM P.K "list" (rCntF P.K) (tE o X) (tCons (tE e X) tNil)
  | .meth .count o e, X => tBM P.K "list" (rCntI P.K) (tE o X) (tCons (tE e X) tNil)
  | .mut .append i es, X => tBM P.K "list" rAppend (tVar i) (tEs es X)
  | .mut .pop0 i es, X => tBM0 P.K "list" rPop (tVar i)
  | .mut .pop i es, X => tBM P.K "list" rPopAt (tVar i) (tEs es X)
  | .mut .remove i es, X => tBM P.K "list" rRem (tVar i) (tEs es X)
  | .mut .extend i es, X => tBM P.K "list" rExtend (tVar i) (tEs es X)
  | .mut .insert i es, X => tBM P.K "list" rInsert (tVar i) (tEs es X)
  | .attr a f, X => tFld P.K (tE a X) f
  | .comp vs tg it c e, X => tLc (tIt it E0) (tG P.K tg) (tT c E0) (tE e E0) vs
  | .comp2 vs vs1 tg it c tg1 it1 c1 e, X => tLc2 (tIt it E0) (tG P.K tg) (tT c E0) (tIt it1 E0) (tG P.K tg1) (tT c1 E0) (tE e E0) vs vs1
  | .dic0, X => tDNewK
  | .dic1 k v, X => tDisp [(tE k X, tE v X)]
  | .lrange es, X => tLrange (tEs es X)
  | .callx f es, X => tCall (call f) [] X (tEs es X)
  | .fnv i, X => tFnv P i
  | .callv i es, X => tCallv P call i (tEs es X) X
  | .makex C es, X => tMake (P.cls C) (call C) [] X (tEs es X)
  | .word f e, X => tWd P f fun Y => tE e Y
  | .isx e k, X => tIsx P (.ref (P.cls k)) (tE e X)
  | .isb e n, X => tIsx P (.type n) (tE e X)
  | .xattr e f, X => tXa P f (tE e X)
  | .pure e, X => tE e X
  | .isit e ns, X => tCB (rIsiT P.K) (tCons (tE e X) (tCons (tTup (tTys ns)) tNil))
  | .eqi neg C k es, X => tEqi P.K neg (P.cls C) (call k) (tEs es X)
  | .isc e C, X => tCB (rIsi P.K) (tCons (tE e X) (tCons (tC (.ref (P.cls C))) tNil))
def tT : T → XK → TT
  | .yes, X => tYes
  | .val e, X => tTest (tE e X)
  | .and a b, X => tAnd (tT a X) (tT b X)
  | .or a b, X => tOr (tT a X) (tT b X)
  | .not a, X => tNot (tT a X)
def tEs : Es → XK → TA
  | .nil, X => tNil
  | .cons e r, X => tCons (tE e X) (tEs r X)
def tO : Oe → XK → TO
  | .none, X => tNoPart
  | .some e, X => tPart (tE e X)
def tIt : It → XK → TI
  | .seq e, X => iSeq P.K (tE e X)
  | .range1 a, X => iRng1 (tCons (tE a X) tNil)
  | .range2 a b, X => iRng2 (tCons (tE a X) (tCons (tE b X) tNil))
  | .zip a b, X => Zg.iZipG P.K (tCons (tE a X) (tCons (tE b X) tNil))
  | .enum a, X => iEnumA P.K (tCons (tE a X) tNil)
end
def tPars : Bool → List (Nat × Bool) → TA → TS
  | true, [(i, _), (j, _)], t => tPar i j t
  | true, [(i, _), (j, _), (l, _)], t => tPar3 i j l t
  | _, ts, t => tAsg (tTupN t) (gTup P.K ts.length (gNames ts))
mutual
def tS : S → XK → TS
  | .asg tg e, X => tAsg (tE P call e X) (tG P.K tg)
  | .own i e, X => tAsg (tE P call e X) (gName i)
  | .par sw ts es, X => tPars P sw ts (tEs P call es X)
  | .setix i ix e, X => tAsg (tE P call e X) (gSub (tVar i) (tE P call ix X) rSetA)
  | .setix2 i x y es, X => tAsg (tTupN (tEs P call es X)) (gTup P.K 2 (gCons (gSub (tVar i) (tE P call x X) rSetA) (gCons (gSub (tVar i) (tE P call y X) rSetA) gNil)))
  | .setat i f e, X => sFld P.K (tVar i) (tE P call e X) f
  | .aug i .add e, X => tAug i (tE P call e X) (ipI fun i j => i + j)
  | .aug i .sub e, X => tAug i (tE P call e X) (ipI fun i j => i - j)
  | .aug _ _ _, X => tNever
  | .augix i ix .add e, X => tAugS (tVar i) (tE P call ix X) (tE P call e X) rGetO (ipI fun i j => i + j) rSetA
  | .augix i ix .sub e, X => tAugS (tVar i) (tE P call ix X) (tE P call e X) rGetO (ipI fun i j => i - j) rSetA
  | .augix _ _ _ _, X => tNever
  | .expr e, X => tDrop (tE P call e X)
  | .ret e, X => tRet (tE P call e X)
  | .retn, X => tRetN
  | .ite c a b, X => tIfS (tT P call c X) (tSs a X) (tSs b X)
  | .whil c b, X => tWhile (tT P call c X) (tSs b X)
  | .for_ tg it b, X => tFor (tIt P call it X) (tG P.K tg) (tSs b X)
  | .pass, X => tNext
  | .brk, X => tBreak
  | .cnt, X => tCont
  | .never, X => tNever
  | .rais C ns es, X => tRais P C ns (tEs P call es X) X
def tSs : Ss → XK → TS
  | .nil, X => tNext
  | .cons s r, X => tSeq (tS s X) (tSs r X)
end
end
section
variable {X : Cx} {e : Expr} {t u : TE}
theorem PE.or (h : PE X e t) (h' : PE X e u) : PE X e (orE t u) := ⟨fun pins s σ H Q I hw => hw.elim (h.run pins s σ H Q I) (h'.run pins s σ H Q I)⟩
theorem pi_any {l tg : Expr} {tl : TE} (hl : PE X l tl) : PI X tg l (iSeq X.K tl) := by
  refine ⟨fun pins s σ H R I h => ?_⟩
  refine thn (hl.run pins s σ H _ I h) fun v s1 ⟨x, H1, I1, r1, q1⟩ => ?_
  obtain ⟨a, e, ⟨⟨xs, hq⟩, q⟩ | ⟨⟨xs, hq⟩, q⟩⟩ := q1
  · subst e
    cases r1
    obtain ⟨its, rv, p, hz⟩ := I1.list hq
    refine wpAny_pyIter_list p.isList ?_
    refine ⟨s1.heap.objs.size, [s1.heap.objs.size], _, _, H1, rfl, I1.kept (t' := s1.toks) fun b o e => Heap.get?_push_of_some _ e, turn_list a _, ⟨_, Heap.get?_push_size _ rfl, rfl, rfl⟩, fun b hb => ?_, q⟩
    have e : b = s1.heap.objs.size := by simpa using hb
    subst e
    exact I1.fpOk (Nat.le_refl _) (I1.hok.fresh (Nat.le_refl _))
  · subst e
    cases r1
    obtain ⟨its, rv, p, hz⟩ := I1.tuple hq
    refine wpAny_pyIter_tuple (show s1.heap.IsTuple a its.toArray from p) ?_
    refine ⟨s1.heap.objs.size, [s1.heap.objs.size], _, _, H1, rfl, I1.kept (t' := s1.toks) fun b o e => Heap.get?_push_of_some _ e, turn_tuple a _, ⟨_, Heap.get?_push_size _ rfl, rfl, rfl⟩, fun b hb => ?_, q⟩
    have e : b = s1.heap.objs.size := by simpa using hb
    subst e
    exact I1.fpOk (Nat.le_refl _) (I1.hok.fresh (Nat.le_refl _))
theorem sl_any : SlR X (rSl X.K) := sl_list.or sl_tupN
/-- t.index(x): flat items -/
theorem mt_indexT : MtR X "tuple.index" (rIndexT X.K) := by
  intro pins s σ H x xs v us Q I rx rs h
  obtain ⟨p, ys, y, j, z, rfl, rfl, hq, fy, fs, hy, hz', hno, q⟩ := h
  cases rx
  obtain ⟨u, rfl, ru⟩ := vals1 rs
  obtain ⟨its, r, pl, hz⟩ := I.tuple hq
  obtain ⟨⟨cls, dd, dt, sl⟩, ho, hc, n, hd⟩ := pl
  simp only at hc hd
  subst hc
  subst hd
  have hl : its.toArray.size = ys.length := by rw [List.size_toArray, ← r.length]
  have hj : j < its.toArray.size := by rw [hl]; exact (List.getElem?_eq_some_iff.mp hy).1
  have at' : ∀ (m : Nat) (hm : m < its.toArray.size), ∃ w, ys[m]? = some w ∧ eqU y its.toArray[m] = eqV w y := fun m hm => by
    have hm' : m < ys.length := by rw [← hl]; exact hm
    obtain ⟨w, hw, rw'⟩ := r.get (i := m) (x := ys[m]) (by simp [hm'])
    refine ⟨ys[m], List.getElem?_eq_getElem hm', ?_⟩
    have e := (List.getElem?_eq_some_iff.mp hw).2
    have e2 : its.toArray[m] = w := by rw [← e]; simp
    rw [e2]
    exact eqU_of rw' (by
      have := List.all_eq_true.mp fs ys[m] (List.getElem_mem hm')
      exact this)
  refine call_meets PySem.F.slot_tuple_index ⟨_, ho, rfl⟩ PySem.F.entry_tuple_index (PySem.F.args_tuple_index_2 _ _) (TI.tuple_indexAt p its.toArray n dd sl u (eqU y) j hj ?_ ?_)
    ⟨ho, fun w hw => mem_eqAt (x := y) ru fy r fs w (by simpa using hw), ⟨.int (j : Nat), H, I.tok _, ⟨_, rfl⟩, q⟩⟩
  · obtain ⟨w, h1, h2⟩ := at' j hj
    rw [hy] at h1
    cases h1
    rw [h2]
    exact hz'
  · intro m hm hmj
    obtain ⟨w, h1, h2⟩ := at' m hm
    rw [h2]
    exact hno m w hmj h1
theorem countF_vals {y : V} {u : Value} (ry : RelV y u) (fy : flatV y = true) : ∀ {ys : List V} {us : List Value}, Vals ys us → ys.all flatV = true → us.countP (eqU y) = ys.countP fun z => eqV z y
  | [], _, .nil, _ => rfl
  | z :: ys, _ :: us, .cons rz r, f => by
    rw [List.all_cons, Bool.and_eq_true] at f
    rw [List.countP_cons, List.countP_cons, countF_vals ry fy r f.2, eqU_of rz f.1]
theorem mt_countF : MtR X "list.count" (rCntF X.K) := by
  intro pins s σ H x xs v us Q I rx rs h
  obtain ⟨p, ys, y, rfl, rfl, hs, fy, fs, q⟩ := h
  cases rx
  obtain ⟨u, rfl, ru⟩ := vals1 rs
  obtain ⟨its, rv, ⟨⟨cls, dd, data, sl⟩, n, ho, hc, hdn, hd⟩, hlen⟩ := I.list hs
  simp only at hc hd
  subst hc hd
  refine call_meets PySem.F.slot_list_count ⟨_, ho, rfl⟩ PySem.F.entry_list_count (PySem.F.args_list_count_2 _ _)
    (SeqAt.list_countAt p its.toArray n dd sl u (eqU y)) ⟨ho, fun w hw => mem_eqAt (x := y) ru fy rv fs w (by simpa using hw), ?_⟩
  have ec : its.toArray.toList.countP (eqU y) = ys.countP fun z => eqV z y := countF_vals ru fy rv fs
  refine ⟨.int (ys.countP (fun z => eqV z y) : Nat), H, I.tok _, ⟨s.toks, ?_⟩, q⟩
  show Value.int ((its.toArray.toList.countP (eqU y) : Nat) : Int) s.toks = Value.int ((ys.countP (fun z => eqV z y) : Nat) : Int) s.toks
  rw [ec]
end
end Mi
set_option Elab.async false
set_option linter.all false
set_option maxRecDepth 100000
set_option maxHeartbeats 2000000
namespace Mi
open PySem PySem.Spec L2
section
variable {P : TP} {A A' : AP} {H H' : Hp}
theorem RepVs.length : ∀ {ds : List D} {vs : List V}, RepVs P A H ds vs → ds.length = vs.length
  | [], _, h => by unfold RepVs at h; subst h; rfl
  | d :: ds, _, h => by
    unfold RepVs at h
    obtain ⟨v, r, rfl, _, h2⟩ := h
    rw [List.length_cons, List.length_cons, RepVs.length h2]
theorem RepVs.get : ∀ {ds : List D} {vs : List V} {i : Nat} {d : D}, RepVs P A H ds vs → ds[i]? = some d → ∃ v, vs[i]? = some v ∧ RepV P A H d v
  | [], _, _, _, _, e => by simp at e
  | d :: ds, _, 0, x, h, e => by
    unfold RepVs at h
    obtain ⟨v, r, rfl, h1, _⟩ := h
    simp at e; subst e
    exact ⟨v, rfl, h1⟩
  | d :: ds, _, i + 1, x, h, e => by
    unfold RepVs at h
    obtain ⟨v, r, rfl, _, h2⟩ := h
    simpa using RepVs.get (i := i) h2 (by simpa using e)
theorem RepVs.nil : RepVs P A H [] [] := by unfold RepVs; rfl
theorem RepVs.cons {d : D} {ds : List D} {v : V} {vs : List V} (h : RepV P A H d v) (h2 : RepVs P A H ds vs) : RepVs P A H (d :: ds) (v :: vs) := by
  unfold RepVs; exact ⟨v, vs, rfl, h, h2⟩
theorem RepVs.uncons {d : D} {ds : List D} {vs : List V} (h : RepVs P A H (d :: ds) vs) : ∃ v r, vs = v :: r ∧ RepV P A H d v ∧ RepVs P A H ds r := by
  unfold RepVs at h; exact h
theorem RepVs.append : ∀ {ds es : List D} {vs ws : List V}, RepVs P A H ds vs → RepVs P A H es ws → RepVs P A H (ds ++ es) (vs ++ ws)
  | [], es, vs, ws, h, h2 => by unfold RepVs at h; subst h; exact h2
  | d :: ds, es, vs, ws, h, h2 => by
    obtain ⟨v, r, rfl, h1, h3⟩ := h.uncons
    exact .cons h1 (RepVs.append h3 h2)
theorem RepVs.take : ∀ {ds : List D} {vs : List V} (n : Nat), RepVs P A H ds vs → RepVs P A H (ds.take n) (vs.take n)
  | [], vs, n, h => by unfold RepVs at h; subst h; simpa using RepVs.nil
  | d :: ds, vs, 0, h => by simpa using RepVs.nil
  | d :: ds, vs, n + 1, h => by
    obtain ⟨v, r, rfl, h1, h3⟩ := h.uncons
    exact .cons h1 (RepVs.take n h3)
theorem RepVs.drop : ∀ {ds : List D} {vs : List V} (n : Nat), RepVs P A H ds vs → RepVs P A H (ds.drop n) (vs.drop n)
  | [], vs, n, h => by unfold RepVs at h; subst h; simpa using RepVs.nil
  | d :: ds, vs, 0, h => h
  | d :: ds, vs, n + 1, h => by
    obtain ⟨v, r, rfl, h1, h3⟩ := h.uncons
    exact RepVs.drop n h3
theorem RepVs.reverse : ∀ {ds : List D} {vs : List V}, RepVs P A H ds vs → RepVs P A H ds.reverse vs.reverse
  | [], vs, h => by unfold RepVs at h; subst h; exact RepVs.nil
  | d :: ds, vs, h => by
    obtain ⟨v, r, rfl, h1, h3⟩ := h.uncons
    rw [List.reverse_cons, List.reverse_cons]
    exact .append (RepVs.reverse h3) (.cons h1 .nil)
theorem RepVs.set {x : D} {u : V} (hx : RepV P A H x u) : ∀ {ds : List D} {vs : List V} (j : Nat), RepVs P A H ds vs → RepVs P A H (ds.set j x) (vs.set j u)
  | [], vs, j, h => by unfold RepVs at h; subst h; exact RepVs.nil
  | d :: ds, vs, 0, h => by
    obtain ⟨v, r, rfl, h1, h3⟩ := h.uncons
    exact .cons hx h3
  | d :: ds, vs, j + 1, h => by
    obtain ⟨v, r, rfl, h1, h3⟩ := h.uncons
    exact .cons h1 (RepVs.set hx j h3)
theorem RepVs.eraseIdx : ∀ {ds : List D} {vs : List V} (j : Nat), RepVs P A H ds vs → RepVs P A H (ds.eraseIdx j) (vs.eraseIdx j)
  | [], vs, j, h => by unfold RepVs at h; subst h; exact RepVs.nil
  | d :: ds, vs, 0, h => by
    obtain ⟨v, r, rfl, h1, h3⟩ := h.uncons
    exact h3
  | d :: ds, vs, j + 1, h => by
    obtain ⟨v, r, rfl, h1, h3⟩ := h.uncons
    exact .cons h1 (RepVs.eraseIdx j h3)
theorem RepVs.dropLast {ds : List D} {vs : List V} (h : RepVs P A H ds vs) : RepVs P A H ds.dropLast vs.dropLast := by
  rw [List.dropLast_eq_take, List.dropLast_eq_take, ← h.length]
  exact h.take _
theorem RepVs.rep {ds : List D} {vs : List V} (h : RepVs P A H ds vs) : ∀ k : Nat, RepVs P A H (List.replicate k ds).flatten (List.replicate k vs).flatten
  | 0 => RepVs.nil
  | k + 1 => by
    rw [List.replicate_succ, List.replicate_succ, List.flatten_cons, List.flatten_cons]
    exact h.append (RepVs.rep h k)
theorem RepVs.ofInts : ∀ (ns : List Int), RepVs P A H (ns.map .int) (ns.map V.int)
  | [] => .nil
  | n :: ns => .cons (by unfold RepV; rfl) (RepVs.ofInts ns)
theorem nT_lst {xs : List V} : nT (.lst xs) := fun _ z => nomatch z
theorem nT_ins {C dx : Addr} {fs : List (Str × V)} : nT (.ins C dx fs) := fun _ z => nomatch z
theorem nT_dK {kvs : List (L2.Key × V)} : nT (.dK kvs) := fun _ z => nomatch z
theorem nT_frz {o : Obj} {u : HO} : nT (.frz o u) := fun _ z => nomatch z
theorem nT_mut {o : HO} (h : isMut o = true) : nT o := fun ps z => by subst z; cases h
/-- only what is written changes; what is avoided grows by new places alone -/
structure Kp (Wr A A' : AP) (H H' : Hp) : Prop where
  keep : ∀ a o, H a = some o → nT o → ¬ Wr a → H' a = some o
  wm : ∀ a, Wr a → ∃ o, H a = some o ∧ isMut o = true
  wa : ∀ a, Wr a → A a
  av : ∀ a, A' a → A a ∨ H a = none
theorem Kp.tupAt {Wr : AP} {K : PySem.W.Frag} {a : Addr} {vs : List V} (k : Kp Wr A A' H H') (h : TupAt K H a vs) : TupAt K H' a vs := by
  have no : ∀ {o : HO}, H a = some o → isMut o = false → ¬ Wr a := fun {o} e hm w => by
    obtain ⟨o', e', m'⟩ := k.wm a w
    rw [e] at e'; cases e'
    rw [hm] at m'; cases m'
  rcases h with ⟨o, h, hd⟩ | h
  · exact .inl ⟨o, k.keep _ _ h nT_frz (no h rfl), hd⟩
  · exact .inr h
theorem Kp.na {Wr : AP} {a : Addr} {o : HO} (k : Kp Wr A A' H H') (e : H a = some o) (nt : nT o) (h : ¬ A a) : H' a = some o ∧ ¬ A' a := by
  refine ⟨k.keep _ _ e nt fun w => h (k.wa a w), fun z => ?_⟩
  rcases k.av a z with q | q
  · exact h q
  · rw [e] at q; cases q
theorem Kp.scr {Wr : AP} {K : PySem.W.Frag} {a : Addr} {vs : List V} (k : Kp Wr A A' H H') (h : ScrAt K A H a vs) : ScrAt K A' H' a vs := by
  rcases h with ⟨h | ⟨o, h⟩, n⟩ | h
  · obtain ⟨h1, h2⟩ := k.na h nT_lst n
    exact .inl ⟨.inl h1, h2⟩
  · obtain ⟨h1, h2⟩ := k.na h nT_frz n
    exact .inl ⟨.inr ⟨o, h1⟩, h2⟩
  · exact .inr h
theorem XAt.kp {x : Exc} {d : Option Addr} (h : XAt x d H) (k : ∀ a fs, H a = some (.xd fs) → H' a = some (.xd fs)) : XAt x d H' := by
  obtain ⟨h1, h2 | ⟨dd, vs, e1, e2, e3, e4⟩⟩ := h
  · exact ⟨h1, .inl h2⟩
  · exact ⟨h1, .inr ⟨dd, vs, e1, k _ _ e2, e3, e4⟩⟩
theorem nT_xd {fs : List (Str × V)} : nT (.xd fs) := fun _ z => nomatch z
theorem Kp.xat {Wr : AP} {x : Exc} {d : Option Addr} (k : Kp Wr A A' H H') (h : XAt x d H) : XAt x d H' := h.kp fun a fs e => k.keep _ _ e nT_xd fun w => by
  obtain ⟨o', e', m'⟩ := k.wm a w
  rw [e] at e'; cases e'
  cases m'
mutual
theorem RepV.kp {Wr : AP} (k : Kp Wr A A' H H') : ∀ {d : D} {v : V}, RepV P A H d v → RepV P A' H' d v
  | .non, _, h => by unfold RepV at h ⊢; exact h
  | .bl _, _, h => by unfold RepV at h ⊢; exact h
  | .int _, _, h => by unfold RepV at h ⊢; exact h
  | .str _, _, h => by unfold RepV at h ⊢; exact h
  | .ty _, _, h => by unfold RepV at h ⊢; exact h
  | .tup ds, _, h => by
    unfold RepV at h ⊢
    obtain ⟨a, vs, e, hs, hz, hr⟩ := h
    exact ⟨a, vs, e, k.tupAt hs, hz, RepVs.kp k hr⟩
  | .lst ds, _, h => by
    unfold RepV at h ⊢
    obtain ⟨a, vs, e, hs, hn, hz, hr⟩ := h
    obtain ⟨h1, h2⟩ := k.na hs nT_lst hn
    exact ⟨a, vs, e, h1, h2, hz, RepVs.kp k hr⟩
  | .ins C ns ds, _, h => by
    unfold RepV at h ⊢
    obtain ⟨a, dx, vs, e, hs, hl, hn, hr⟩ := h
    obtain ⟨h1, h2⟩ := k.na hs nT_ins hn
    exact ⟨a, dx, vs, e, h1, hl, h2, RepVs.kp k hr⟩
  | .dct ks ds, _, h => by
    unfold RepV at h ⊢
    obtain ⟨a, vs, e, hs, hl, hn, hr⟩ := h
    obtain ⟨h1, h2⟩ := k.na hs nT_dK hn
    exact ⟨a, vs, e, h1, hl, h2, RepVs.kp k hr⟩
  | .scr ns, _, h => by
    unfold RepV at h ⊢
    obtain ⟨a, e, hs, hz⟩ := h
    exact ⟨a, e, k.scr hs, hz⟩
  | .fn i, _, h => by unfold RepV at h ⊢; exact h
  | .exc C ns ds, _, h => by
    unfold RepV at h ⊢
    obtain ⟨a, dd, e1, e2, e3⟩ := h
    exact ⟨a, dd, e1, e2, k.xat e3⟩
theorem RepVs.kp {Wr : AP} (k : Kp Wr A A' H H') : ∀ {ds : List D} {vs : List V}, RepVs P A H ds vs → RepVs P A' H' ds vs
  | [], _, h => by unfold RepVs at h ⊢; exact h
  | d :: ds, _, h => by
    unfold RepVs at h ⊢
    obtain ⟨v, r, e, h1, h2⟩ := h
    exact ⟨v, r, e, RepV.kp k h1, RepVs.kp k h2⟩
end
/-- less is avoided -/
theorem Kp.less (h : ∀ a, A' a → A a) : Kp (fun _ => False) A A' H H := ⟨fun _ _ e _ _ => e, fun _ z => z.elim, fun _ z => z.elim, fun a z => .inl (h a z)⟩
theorem OwnV.kp {Wr : AP} {d : D} {a : Addr} (k : Kp Wr A A' H H') (nw : ¬ Wr a) (h : OwnV P A H d a) : OwnV P A' H' d a := by
  cases d with
  | lst ds => obtain ⟨vs, e, z, r⟩ := h; exact ⟨vs, k.keep _ _ e nT_lst nw, z, r.kp k⟩
  | ins C ns ds => obtain ⟨dx, vs, e, l, r⟩ := h; exact ⟨dx, vs, k.keep _ _ e nT_ins nw, l, r.kp k⟩
  | dct ks ds => obtain ⟨vs, e, l, r⟩ := h; exact ⟨vs, k.keep _ _ e nT_dK nw, l, r.kp k⟩
  | _ => exact (show False from h).elim
theorem OwnV.mut {d : D} {a : Addr} (h : OwnV P A H d a) : ∃ o, H a = some o ∧ isMut o = true := by
  cases d with
  | lst ds => obtain ⟨vs, e, _, r⟩ := h; exact ⟨_, e, rfl⟩
  | ins C ns ds => obtain ⟨dx, vs, e, l, r⟩ := h; exact ⟨_, e, rfl⟩
  | dct ks ds => obtain ⟨vs, e, l, r⟩ := h; exact ⟨_, e, rfl⟩
  | _ => exact (show False from h).elim
theorem OwnV.rep {d : D} {a : Addr} (h : OwnV P A H d a) (n : ¬ A a) : RepV P A H d (.ref a) := by
  cases d with
  | lst ds => obtain ⟨vs, e, z, r⟩ := h; unfold RepV; exact ⟨a, vs, rfl, e, n, z, r⟩
  | ins C ns ds => obtain ⟨dx, vs, e, l, r⟩ := h; unfold RepV; exact ⟨a, dx, vs, rfl, e, l, n, r⟩
  | dct ks ds => obtain ⟨vs, e, l, r⟩ := h; unfold RepV; exact ⟨a, vs, rfl, e, l, n, r⟩
  | _ => exact (show False from h).elim
theorem OwnV.repB {d : D} {a : Addr} (h : OwnV P A H d a) : RepB P A H d (.ref a) := by
  cases d with
  | lst ds => obtain ⟨vs, e, z, r⟩ := h; exact ⟨a, vs, rfl, e, z, r⟩
  | ins C ns ds => obtain ⟨dx, vs, e, l, r⟩ := h; exact ⟨a, dx, vs, rfl, e, l, r⟩
  | dct ks ds => obtain ⟨vs, e, l, r⟩ := h; exact ⟨a, vs, rfl, e, l, r⟩
  | _ => exact (show False from h).elim
theorem RepV.repB {d : D} {v : V} (h : RepV P A H d v) : RepB P A H d v := by
  cases d with
  | lst ds => unfold RepV at h; obtain ⟨a, vs, e, hs, hn, hz, hr⟩ := h; exact ⟨a, vs, e, hs, hz, hr⟩
  | ins C ns ds => unfold RepV at h; obtain ⟨a, dx, vs, e, hs, hl, hn, hr⟩ := h; exact ⟨a, dx, vs, e, hs, hl, hr⟩
  | dct ks ds => unfold RepV at h; obtain ⟨a, vs, e, hs, hl, hn, hr⟩ := h; exact ⟨a, vs, e, hs, hl, hr⟩
  | _ => exact h
mutual
theorem RepV.still : ∀ {d : D} {v : V}, still d = true → RepV P A H d v → RepV P A' H d v
  | .non, _, _, h => by unfold RepV at h ⊢; exact h
  | .bl _, _, _, h => by unfold RepV at h ⊢; exact h
  | .int _, _, _, h => by unfold RepV at h ⊢; exact h
  | .str _, _, _, h => by unfold RepV at h ⊢; exact h
  | .ty _, _, _, h => by unfold RepV at h ⊢; exact h
  | .tup ds, _, s, h => by
    unfold RepV at h ⊢
    unfold still at s
    obtain ⟨a, vs, e, hs, hz, hr⟩ := h
    exact ⟨a, vs, e, hs, hz, RepVs.still s hr⟩
  | .lst ds, _, s, h => by unfold still at s; cases s
  | .ins C ns ds, _, s, h => by unfold still at s; cases s
  | .dct ks ds, _, s, h => by unfold still at s; cases s
  | .scr ns, _, s, h => by unfold still at s; cases s
  | .fn i, _, s, h => by unfold RepV at h ⊢; exact h
  | .exc C ns ds, _, s, h => by unfold still at s; cases s
theorem RepVs.still : ∀ {ds : List D} {vs : List V}, stills ds = true → RepVs P A H ds vs → RepVs P A' H ds vs
  | [], _, _, h => by unfold RepVs at h ⊢; exact h
  | d :: ds, _, s, h => by
    unfold RepVs at h ⊢
    unfold stills at s
    rw [Bool.and_eq_true] at s
    obtain ⟨v, r, e, h1, h2⟩ := h
    exact ⟨v, r, e, RepV.still s.1 h1, RepVs.still s.2 h2⟩
end
end
/-- the places of the owned things -/
def OwnA (σ : L2.St) (ρ : Env) : AP := fun a => ∃ i d, eget ρ i = some (true, d) ∧ σ[i]? = some (some (.ref a))
structure Rel (P : TP) (O W : AP) (H : Hp) (σ : L2.St) (ρ : Env) : Prop where
  len : ρ.length = σ.length
  wmut : ∀ a, W a → ∃ o, H a = some o ∧ isMut o = true
  oal : ∀ a, O a → H a ≠ none
  ow : ∀ a, W a → ¬ O a
  fro : ∀ i d, eget ρ i = some (false, d) → ∃ v, σ[i]? = some (some v) ∧ RepV P (Av O W) H d v
  own : ∀ i d, eget ρ i = some (true, d) → ∃ a, σ[i]? = some (some (.ref a)) ∧ W a ∧ OwnV P (Av O W) H d a
  inj : ∀ i j a di dj, eget ρ i = some (true, di) → eget ρ j = some (true, dj) → σ[i]? = some (some (.ref a)) → σ[j]? = some (some (.ref a)) → i = j
  tabs : LamX.Tabs P.tabs H
/-- a place of one's own is written: the tables stay -/
theorem tabs_put {T : List (Addr × Str)} {H : Hp} {a : Addr} {o u : HO} (t : LamX.Tabs T H) (e : H a = some u) (m : isMut u = true) : LamX.Tabs T (upd H a o) := fun p hp => by
  obtain ⟨ps, h1, h2, h3⟩ := t p hp
  have n1 : p.1 ≠ a := fun z => by rw [z, e] at h1; cases h1; cases m
  refine ⟨ps, by rw [upd_ne n1]; exact h1, h2, fun pos cv hc => ?_⟩
  obtain ⟨c, e1, e2⟩ := h3 pos cv hc
  refine ⟨c, e1, ?_⟩
  have n2 : c ≠ a := fun z => by
    rw [z, e] at e2
    have := Option.some.inj e2
    subst this
    cases m
  rw [upd_ne n2]
  exact e2
theorem tabs_new {T : List (Addr × Str)} {H : Hp} {p : Addr} {o : HO} (t : LamX.Tabs T H) (e : H p = none) : LamX.Tabs T (upd H p o) := t.ext fun b u h => by rw [upd_ne (ne_of_none h e)]; exact h
/-- from one state to a later one, the slots' values as they were -/
structure Step (σ : L2.St) (ρ : Env) (W : AP) (H : Hp) (ρ' : Env) (W' : AP) (H' : Hp) : Prop where
  keep : ∀ a o, H a = some o → nT o → ¬ OwnA σ ρ a → H' a = some o
  new : ∀ a, W' a → W a ∨ H a = none
  stay : ∀ a, W a → ¬ OwnA σ ρ a → W' a
  own : ∀ a, OwnA σ ρ' a → OwnA σ ρ a
  there : ∀ i x, eget ρ i = some x → ∃ y, eget ρ' i = some y
  alive : ∀ a, H a ≠ none → H' a ≠ none
/-- a value in flight -/
def RepR (P : TP) (O W : AP) (H : Hp) (σ : L2.St) (ρ : Env) : R → V → Prop
  | .v d, v => RepV P (Av O W) H d v
  | .b s, v => σ[s]? = some (some v) ∧ ∃ x, eget ρ s = some x
  | .o d, v => ∃ a, v = .ref a ∧ W a ∧ ¬ OwnA σ ρ a ∧ OwnV P (Av O W) H d a
section
variable {P : TP} {O W W1 W2 : AP} {H H1 H2 : Hp} {σ : L2.St} {ρ ρ1 ρ2 : Env}
theorem Rel.ownW (L : Rel P O W H σ ρ) {a : Addr} (h : OwnA σ ρ a) : W a := by
  obtain ⟨i, d, e, q⟩ := h
  obtain ⟨b, e2, w, _⟩ := L.own i d e
  rw [q] at e2
  cases e2
  exact w
theorem Step.refl : Step σ ρ W H ρ W H := ⟨fun _ _ e _ _ => e, fun _ h => .inl h, fun _ h _ => h, fun _ h => h, fun _ x h => ⟨x, h⟩, fun _ h => h⟩
theorem Step.trans (s : Step σ ρ W H ρ1 W1 H1) (t : Step σ ρ1 W1 H1 ρ2 W2 H2) : Step σ ρ W H ρ2 W2 H2 where
  keep := fun a o e nt n => t.keep a o (s.keep a o e nt n) nt fun z => n (s.own a z)
  new := fun a h => by
    rcases t.new a h with h | h
    · exact s.new a h
    · by_cases q : H a = none
      · exact .inr q
      · exact absurd h (s.alive a q)
  stay := fun a h n => t.stay a (s.stay a h n) fun z => n (s.own a z)
  own := fun a h => s.own a (t.own a h)
  there := fun i x h => let ⟨y, e⟩ := s.there i x h; t.there i y e
  alive := fun a h => t.alive a (s.alive a h)
theorem Step.kp (L : Rel P O W H σ ρ) (s : Step σ ρ W H ρ1 W1 H1) : Kp (OwnA σ ρ) (Av O W) (Av O W1) H H1 where
  keep := s.keep
  wm := fun a h => L.wmut a (L.ownW h)
  wa := fun a h => .inr (L.ownW h)
  av := fun a h => h.elim (fun z => .inl (.inl z)) fun z => (s.new a z).elim (fun q => .inl (.inr q)) .inr
theorem RepR.step {r : R} {v : V} (L : Rel P O W H σ ρ) (s : Step σ ρ W H ρ1 W1 H1) (h : RepR P O W H σ ρ r v) : RepR P O W1 H1 σ ρ1 r v := by
  cases r with
  | v d => exact RepV.kp (s.kp L) (show RepV P (Av O W) H d v from h)
  | b i => obtain ⟨e, x, q⟩ := h; exact ⟨e, s.there i x q⟩
  | o d =>
    obtain ⟨a, e, w, n, q⟩ := h
    exact ⟨a, e, s.stay a w n, fun z => n (s.own a z), q.kp (s.kp L) n⟩
theorem RepR.deref {r : R} {v : V} {d : D} (L : Rel P O W H σ ρ) (h : RepR P O W H σ ρ r v) (e : deref ρ r = some d) : RepB P (Av O W) H d v := by
  cases r with
  | v x => cases e; exact RepV.repB (show RepV P (Av O W) H d v from h)
  | o x =>
    cases e
    obtain ⟨a, rfl, w, n, q⟩ := h
    exact q.repB
  | b i =>
    obtain ⟨e1, x, q⟩ := h
    have e' : (eget ρ i).map (·.2) = some d := e
    rw [q] at e'
    obtain ⟨o, y⟩ := x
    cases e'
    cases o with
    | true =>
      obtain ⟨a, e2, w, q2⟩ := L.own i _ q
      rw [e1] at e2
      cases e2
      exact q2.repB
    | false =>
      obtain ⟨u, e2, q2⟩ := L.fro i _ q
      rw [e1] at e2
      cases e2
      exact q2.repB
/-- something new that nobody may change -/
theorem Rel.laid {p : Addr} {o : HO} (L : Rel P O W H σ ρ) (hp : H p = none) : Rel P O W (upd H p o) σ ρ ∧ Step σ ρ W H ρ W (upd H p o) := by
  have st : Step σ ρ W H ρ W (upd H p o) := by
    refine ⟨fun a u e _ _ => ?_, fun _ h => .inl h, fun _ h _ => h, fun _ h => h, fun _ x h => ⟨x, h⟩, fun a h => ?_⟩
    · rw [upd_ne (ne_of_none e hp)]; exact e
    · by_cases e : a = p
      · subst e; rw [upd_same]; exact fun z => nomatch z
      · rw [upd_ne e]; exact h
  have k := st.kp L
  have kk : ∀ a u, H a = some u → (upd H p o) a = some u := fun a u e => by rw [upd_ne (ne_of_none e hp)]; exact e
  refine ⟨⟨L.len, fun a h => ?_, fun a h => st.alive a (L.oal a h), L.ow, fun i d e => ?_, fun i d e => ?_, L.inj, tabs_new L.tabs hp⟩, st⟩
  · obtain ⟨u, e, m⟩ := L.wmut a h
    exact ⟨u, kk a u e, m⟩
  · obtain ⟨v, e1, r⟩ := L.fro i d e
    exact ⟨v, e1, r.kp k⟩
  · obtain ⟨a, e1, w, r⟩ := L.own i d e
    refine ⟨a, e1, w, ?_⟩
    cases d with
    | lst ds => obtain ⟨vs, e, z, r⟩ := r; exact ⟨vs, kk _ _ e, z, r.kp k⟩
    | ins C ns ds => obtain ⟨dx, vs, e, l, r⟩ := r; exact ⟨dx, vs, kk _ _ e, l, r.kp k⟩
    | dct ks ds => obtain ⟨vs, e, l, r⟩ := r; exact ⟨vs, kk _ _ e, l, r.kp k⟩
    | _ => exact (show False from r).elim
/-- something new of one's own -/
theorem Rel.made {p : Addr} {o : HO} (L : Rel P O W H σ ρ) (hp : H p = none) (hm : isMut o = true) :
    Rel P O (fun a => W a ∨ a = p) (upd H p o) σ ρ ∧ Step σ ρ W H ρ (fun a => W a ∨ a = p) (upd H p o) ∧ ¬ OwnA σ ρ p := by
  obtain ⟨L1, s1⟩ := L.laid (o := o) hp
  have st : Step σ ρ W H ρ (fun a => W a ∨ a = p) (upd H p o) :=
    ⟨s1.keep, fun a h => h.elim .inl fun e => .inr (e ▸ hp), fun a h _ => .inl h, s1.own, s1.there, s1.alive⟩
  have k := st.kp L
  have no : ∀ a, W a → a ≠ p := fun a h e => by
    obtain ⟨u, e1, _⟩ := L.wmut a h
    rw [e, hp] at e1; cases e1
  refine ⟨⟨L.len, fun a h => ?_, fun a h => st.alive a (L.oal a h), fun a h => ?_, fun i d e => ?_, fun i d e => ?_, L.inj, tabs_new L.tabs hp⟩, st, fun z => no p (L.ownW z) rfl⟩
  · rcases h with h | rfl
    · exact L1.wmut a h
    · exact ⟨o, upd_same, hm⟩
  · rcases h with h | rfl
    · exact L.ow a h
    · exact fun z => L.oal _ z hp
  · obtain ⟨v, e1, r⟩ := L.fro i d e
    exact ⟨v, e1, r.kp k⟩
  · obtain ⟨a, e1, w, r⟩ := L1.own i d e
    refine ⟨a, e1, .inl w, ?_⟩
    obtain ⟨b, e2, _, r0⟩ := L.own i d e
    rw [e1] at e2; cases e2
    have kk : ∀ a u, H a = some u → (upd H p o) a = some u := fun a u e => by rw [upd_ne (ne_of_none e hp)]; exact e
    cases d with
    | lst ds => obtain ⟨vs, e, z, r⟩ := r0; exact ⟨vs, kk _ _ e, z, r.kp k⟩
    | ins C ns ds => obtain ⟨dx, vs, e, l, r⟩ := r0; exact ⟨dx, vs, kk _ _ e, l, r.kp k⟩
    | dct ks ds => obtain ⟨vs, e, l, r⟩ := r0; exact ⟨vs, kk _ _ e, l, r.kp k⟩
    | _ => exact (show False from r0).elim
/-- give up the care of a place that is no slot's -/
theorem Rel.drop {W' : AP} (L : Rel P O W H σ ρ) (h1 : ∀ a, W' a → W a) (h2 : ∀ a, OwnA σ ρ a → W' a) : Rel P O W' H σ ρ := by
  have k : Kp (fun _ => False) (Av O W) (Av O W') H H := Kp.less fun a z => z.elim .inl fun q => .inr (h1 a q)
  refine ⟨L.len, fun a h => L.wmut a (h1 a h), L.oal, fun a h => L.ow a (h1 a h), fun i d e => ?_, fun i d e => ?_, L.inj, L.tabs⟩
  · obtain ⟨v, e1, r⟩ := L.fro i d e
    exact ⟨v, e1, r.kp k⟩
  · obtain ⟨a, e1, w, r⟩ := L.own i d e
    exact ⟨a, e1, h2 a ⟨i, d, e, e1⟩, r.kp k fun z => z⟩
/-- what was new, or a slot's, is let go -/
structure Lose (σ : L2.St) (ρ : Env) (W : AP) (ρ' : Env) (W' : AP) (T : AP) : Prop where
  sub : ∀ a, W' a → W a
  lost : ∀ a, W a → ¬ W' a → T a ∨ OwnA σ ρ a
  own : ∀ a, OwnA σ ρ' a → OwnA σ ρ a
  there : ∀ i x, eget ρ i = some x → ∃ y, eget ρ' i = some y
theorem Lose.refl {T : AP} : Lose σ ρ W ρ W T := ⟨fun _ h => h, fun _ h n => (n h).elim, fun _ h => h, fun _ x h => ⟨x, h⟩⟩
theorem Lose.trans {T : AP} {W1 W2 : AP} (s : Lose σ ρ W ρ1 W1 T) (t : Lose σ ρ1 W1 ρ2 W2 T) : Lose σ ρ W ρ2 W2 T :=
  ⟨fun a h => s.sub a (t.sub a h), fun a h n => by
    by_cases q : W1 a
    · exact (t.lost a q n).imp (fun z => z) (s.own a)
    · exact s.lost a h q, fun a h => s.own a (t.own a h), fun i x h => let ⟨y, e⟩ := s.there i x h; t.there i y e⟩
theorem Lose.mono {T T' : AP} (s : Lose σ ρ W ρ1 W1 T) (h : ∀ a, T a → T' a) : Lose σ ρ W ρ1 W1 T' := ⟨s.sub, fun a w n => (s.lost a w n).imp (h a) (fun z => z), s.own, s.there⟩
theorem Step.lose {T : AP} (s : Step σ ρ W H ρ1 W1 H1) (L : Rel P O W H σ ρ) (l : Lose σ ρ1 W1 ρ2 W2 T) (ht : ∀ a, T a → H a = none) : Step σ ρ W H ρ2 W2 H1 where
  keep := s.keep
  new := fun a h => s.new a (l.sub a h)
  stay := fun a h n => by
    refine Classical.byContradiction fun q => ?_
    rcases l.lost a (s.stay a h n) q with z | z
    · obtain ⟨o, e, _⟩ := L.wmut a h
      rw [ht a z] at e; cases e
    · exact n (s.own a z)
  own := fun a h => s.own a (l.own a h)
  there := fun i x h => let ⟨y, e⟩ := s.there i x h; l.there i y e
  alive := s.alive
theorem RepR.lose {T : AP} {r : R} {v : V} (l : Lose σ ρ W ρ1 W1 T) (h : RepR P O W H σ ρ r v) (nt : ∀ d a, r = .o d → v = .ref a → ¬ T a) : RepR P O W1 H σ ρ1 r v := by
  have k : Kp (fun _ => False) (Av O W) (Av O W1) H H := Kp.less fun a z => z.elim .inl fun q => .inr (l.sub a q)
  cases r with
  | v d => exact RepV.kp k (show RepV P (Av O W) H d v from h)
  | b i => obtain ⟨e, x, q⟩ := h; exact ⟨e, l.there i x q⟩
  | o d =>
    obtain ⟨a, e, w, n, q⟩ := h
    refine ⟨a, e, Classical.byContradiction fun z => ?_, fun z => n (l.own a z), q.kp k fun z => z⟩
    rcases l.lost a w z with y | y
    · exact nt d a rfl e y
    · exact n y
/-- a slot's thing is frozen -/
theorem Rel.frozen {i : Nat} {o : Bool} {d : D} (L : Rel P O W H σ ρ) (e : eget ρ i = some (o, d)) : ∃ W', Rel P O W' H σ (ρ.set i (some (false, d))) ∧ (∀ T, Lose σ ρ W (ρ.set i (some (false, d))) W' T) ∧ ∃ v, σ[i]? = some (some v) ∧ RepV P (Av O W') H d v := by
  have hi : i < ρ.length := by
    unfold eget at e
    cases q : ρ[i]? with
    | none => rw [q] at e; cases e
    | some x => exact (List.getElem?_eq_some_iff.mp q).1
  have get1 : eget (ρ.set i (some (false, d))) i = some (false, d) := by unfold eget; rw [List.getElem?_set_self hi]; rfl
  have get2 : ∀ j, j ≠ i → eget (ρ.set i (some (false, d))) j = eget ρ j := fun j h => by unfold eget; rw [List.getElem?_set_ne (Ne.symm h)]
  have oo : ∀ j x, eget (ρ.set i (some (false, d))) j = some (true, x) → j ≠ i ∧ eget ρ j = some (true, x) := fun j x h => by
    by_cases q : j = i
    · subst q; rw [get1] at h; cases h
    · exact ⟨q, by rw [← get2 j q]; exact h⟩
  have th : ∀ j x, eget ρ j = some x → ∃ y, eget (ρ.set i (some (false, d))) j = some y := fun j x h => by
    by_cases q : j = i
    · subst q; exact ⟨_, get1⟩
    · exact ⟨x, by rw [get2 j q]; exact h⟩
  cases o with
  | false =>
    obtain ⟨v, e1, r⟩ := L.fro i d e
    have hs : ∀ j, eget (ρ.set i (some (false, d))) j = eget ρ j := fun j => by
      by_cases q : j = i
      · subst q; rw [get1, e]
      · exact get2 j q
    have ho : ∀ a, OwnA σ (ρ.set i (some (false, d))) a ↔ OwnA σ ρ a := fun a => by unfold OwnA; simp only [hs]
    refine ⟨W, ⟨by simpa using L.len, L.wmut, L.oal, L.ow, fun j x h => L.fro j x (by rw [← hs]; exact h), fun j x h => L.own j x (by rw [← hs]; exact h), fun j k a x y h1 h2 => L.inj j k a x y (by rw [← hs]; exact h1) (by rw [← hs]; exact h2), L.tabs⟩,
      fun T => ⟨fun _ h => h, fun _ h n => (n h).elim, fun a h => (ho a).mp h, th⟩, v, e1, r⟩
  | true =>
    obtain ⟨a, e1, w, r⟩ := L.own i d e
    have k : Kp (fun _ => False) (Av O W) (Av O fun b => W b ∧ b ≠ a) H H := Kp.less fun b z => z.elim .inl fun q => .inr q.1
    have nA : ¬ Av O (fun b => W b ∧ b ≠ a) a := fun z => z.elim (fun q => L.ow a w q) fun q => q.2 rfl
    have r' : RepV P (Av O fun b => W b ∧ b ≠ a) H d (.ref a) := OwnV.rep (r.kp k fun z => z) nA
    refine ⟨fun b => W b ∧ b ≠ a, ⟨by simpa using L.len, fun b h => L.wmut b h.1, L.oal, fun b h => L.ow b h.1, fun j x h => ?_, fun j x h => ?_, fun j j' b x y h1 h2 => L.inj j j' b x y (oo j x h1).2 (oo j' y h2).2, L.tabs⟩,
      fun T => ⟨fun _ h => h.1, fun b h n => .inr ?_, fun b h => ?_, th⟩, .ref a, e1, r'⟩
    · by_cases q : j = i
      · subst q; rw [get1] at h; cases h; exact ⟨_, e1, r'⟩
      · obtain ⟨v, e2, r2⟩ := L.fro j x (by rw [← get2 j q]; exact h)
        exact ⟨v, e2, r2.kp k⟩
    · obtain ⟨hj, h'⟩ := oo j x h
      obtain ⟨b, e2, w2, r2⟩ := L.own j x h'
      refine ⟨b, e2, ⟨w2, fun q => ?_⟩, r2.kp k fun z => z⟩
      subst q
      exact hj (L.inj j i b x d h' e e2 e1)
    · have hb : b = a := Classical.byContradiction fun q => n ⟨h, q⟩
      subst hb
      exact ⟨i, d, e, e1⟩
    · obtain ⟨j, x, h1, h2⟩ := h
      exact ⟨j, x, (oo j x h1).2, h2⟩
theorem freeze_ok {r : R} {v : V} {d : D} (L : Rel P O W H σ ρ) (h : RepR P O W H σ ρ r v) (e : freeze r ρ = some (d, ρ1)) :
    ∃ W1, Rel P O W1 H σ ρ1 ∧ Lose σ ρ W ρ1 W1 (fun a => (∃ x, r = .o x) ∧ v = .ref a) ∧ RepV P (Av O W1) H d v := by
  cases r with
  | v x => cases e; exact ⟨W, L, .refl, h⟩
  | b i =>
    obtain ⟨e1, x, q⟩ := h
    simp only [freeze, q] at e
    obtain ⟨o, y⟩ := x
    cases e
    obtain ⟨W', L', l, u, e2, r⟩ := L.frozen q
    rw [e1] at e2; cases e2
    exact ⟨W', L', l _, r⟩
  | o x =>
    cases e
    obtain ⟨a, rfl, w, n, q⟩ := h
    have hw : ∀ b, OwnA σ ρ b → (fun b => W b ∧ b ≠ a) b := fun b hb => ⟨L.ownW hb, fun z => n (z ▸ hb)⟩
    have k : Kp (fun _ => False) (Av O W) (Av O fun b => W b ∧ b ≠ a) H H := Kp.less fun b z => z.elim .inl fun q => .inr q.1
    refine ⟨fun b => W b ∧ b ≠ a, L.drop (fun b h => h.1) hw, ⟨fun b h => h.1, fun b h n2 => .inl ⟨⟨d, rfl⟩, ?_⟩, fun _ h => h, fun _ y h => ⟨y, h⟩⟩, OwnV.rep (q.kp k fun z => z) fun z => z.elim (fun q => L.ow a w q) fun q => q.2 rfl⟩
    have hb : b = a := Classical.byContradiction fun q => n2 ⟨h, q⟩
    rw [hb]
/-- the new things among values in flight -/
def tmps : List R → List V → List Addr
  | .o _ :: rs, .ref a :: vs => a :: tmps rs vs
  | _ :: rs, _ :: vs => tmps rs vs
  | _, _ => []
def RepRs (P : TP) (O W : AP) (H : Hp) (σ : L2.St) (ρ : Env) : List R → List V → Prop
  | [], vs => vs = []
  | r :: rs, vs => ∃ v us, vs = v :: us ∧ RepR P O W H σ ρ r v ∧ RepRs P O W H σ ρ rs us
theorem RepRs.step : ∀ {rs : List R} {vs : List V}, Rel P O W H σ ρ → Step σ ρ W H ρ1 W1 H1 → RepRs P O W H σ ρ rs vs → RepRs P O W1 H1 σ ρ1 rs vs
  | [], _, _, _, h => h
  | r :: rs, _, L, s, ⟨v, us, e, h1, h2⟩ => ⟨v, us, e, h1.step L s, RepRs.step L s h2⟩
theorem RepRs.lose {T : AP} : ∀ {rs : List R} {vs : List V}, Lose σ ρ W ρ1 W1 T → RepRs P O W H σ ρ rs vs → (∀ a ∈ tmps rs vs, ¬ T a) → RepRs P O W1 H σ ρ1 rs vs
  | [], _, _, h, _ => h
  | r :: rs, _, l, ⟨v, us, e, h1, h2⟩, n => by
    subst e
    refine ⟨v, us, rfl, h1.lose l fun d a e1 e2 => ?_, RepRs.lose l h2 fun a ha => ?_⟩
    · subst e1 e2; exact n a List.mem_cons_self
    · refine n a ?_
      cases r with
      | o d => cases v <;> first | exact List.mem_cons_of_mem _ ha | exact ha
      | v d => exact ha
      | b d => exact ha
theorem freezes_ok : ∀ {rs : List R} {vs : List V} {ds : List D} {W : AP} {ρ ρ1 : Env}, Rel P O W H σ ρ → RepRs P O W H σ ρ rs vs → (tmps rs vs).Nodup → freezes rs ρ = some (ds, ρ1) →
    ∃ W1, Rel P O W1 H σ ρ1 ∧ Lose σ ρ W ρ1 W1 (fun a => a ∈ tmps rs vs) ∧ RepVs P (Av O W1) H ds vs
  | [], _, _, W, ρ, _, L, h, _, e => by
    cases e
    have h : _ = _ := h
    subst h
    exact ⟨W, L, .refl, .nil⟩
  | r :: rs, _, ds, W, ρ, ρ1, L, ⟨v, us, e0, h1, h2⟩, nd, e => by
    subst e0
    unfold freezes at e
    cases q : freeze r ρ with
    | none => rw [q] at e; cases e
    | some x =>
      obtain ⟨d, ρ2⟩ := x
      rw [q] at e
      dsimp only at e
      cases q2 : freezes rs ρ2 with
      | none => rw [q2] at e; cases e
      | some y =>
        obtain ⟨ds2, ρ3⟩ := y
        rw [q2] at e
        cases e
        obtain ⟨W2, L2', l2, rd⟩ := freeze_ok L h1 q
        have nd2 : (tmps rs us).Nodup ∧ ∀ a, (∃ x, r = .o x) ∧ v = .ref a → a ∉ tmps rs us := by
          cases r with
          | o d =>
            cases v <;> first
              | exact ⟨(List.nodup_cons.mp nd).2, fun a h => by obtain ⟨_, e⟩ := h; cases e; exact (List.nodup_cons.mp nd).1⟩
              | exact ⟨nd, fun a h => by obtain ⟨_, e⟩ := h; cases e⟩
          | v d => exact ⟨nd, fun a h => by obtain ⟨⟨_, e⟩, _⟩ := h; cases e⟩
          | b d => exact ⟨nd, fun a h => by obtain ⟨⟨_, e⟩, _⟩ := h; cases e⟩
        obtain ⟨W3, L3, l3, rds⟩ := freezes_ok L2' (h2.lose l2 fun a ha h => nd2.2 a h ha) nd2.1 q2
        have inc : ∀ a, a ∈ tmps rs us → a ∈ tmps (r :: rs) (v :: us) := fun a ha => by
          cases r with
          | o d => cases v <;> first | exact List.mem_cons_of_mem _ ha | exact ha
          | v d => exact ha
          | b d => exact ha
        have k : Kp (fun _ => False) (Av O W2) (Av O W3) H H := Kp.less fun b z => z.elim .inl fun q => .inr (l3.sub b q)
        refine ⟨W3, L3, (l2.mono fun a h => ?_).trans (l3.mono inc), .cons (rd.kp k) rds⟩
        obtain ⟨⟨x, e⟩, e2⟩ := h
        subst e e2
        exact List.mem_cons_self
end
end Mi
set_option Elab.async false
set_option linter.all false
set_option maxRecDepth 100000
set_option maxHeartbeats 4000000
namespace Mi
open PySem PySem.Spec PyProof.Rows L2
def Cont (P : TP) (O : AP) (σ : L2.St) (ρ0 : Env) (W0 : AP) (H0 : Hp) (ρ : Env) (r : R) (Q : VK) : Prop :=
  ∀ v H W, Rel P O W H σ ρ → Step σ ρ0 W0 H0 ρ W H → RepR P O W H σ ρ r v → (∀ d a, r = .o d → v = .ref a → H0 a = none) → Q v H
section
variable {P : TP} {O W W0 A : AP} {H H0 : Hp} {σ : L2.St} {ρ ρ0 : Env} {r : R} {Q : VK}
theorem Cont.from {ρ1 : Env} (c : Cont P O σ ρ0 W0 H0 ρ1 r Q) (s : Step σ ρ0 W0 H0 ρ W H) : Cont P O σ ρ W H ρ1 r Q := fun v H1 W1 L t h f =>
  c v H1 W1 L (s.trans t) h fun d a e1 e2 => Classical.byContradiction fun q => s.alive a q (f d a e1 e2)
theorem Cont.val {d : D} {v : V} (c : Cont P O σ ρ W H ρ (.v d) Q) (L : Rel P O W H σ ρ) (h : RepV P (Av O W) H d v) : Q v H :=
  c v H W L .refl h fun _ _ e => nomatch e
theorem Cont.bl {b b' : Bool} (c : Cont P O σ ρ W H ρ (.v (.bl b)) Q) (L : Rel P O W H σ ρ) (e : b' = b) : Q (.bl b') H := c.val L (by unfold RepV; rw [e])
theorem Cont.int {i j : Int} (c : Cont P O σ ρ W H ρ (.v (.int i)) Q) (L : Rel P O W H σ ρ) (e : j = i) : Q (.int j) H := c.val L (by unfold RepV; rw [e])
theorem kp_same {p : Addr} {o : HO} (hp : H p = none) : Kp (fun _ => False) A A H (upd H p o) := ⟨fun a u e _ _ => by rw [upd_ne (ne_of_none e hp)]; exact e, fun _ z => z.elim, fun _ z => z.elim, fun _ z => .inl z⟩
theorem kp_grow {p : Addr} {o : HO} (hp : H p = none) : Kp (fun _ => False) (Av O W) (Av O fun a => W a ∨ a = p) H (upd H p o) :=
  ⟨fun a u e _ _ => by rw [upd_ne (ne_of_none e hp)]; exact e, fun _ z => z.elim, fun _ z => z.elim, fun a z => z.elim (fun q => .inl (.inl q)) fun q => q.elim (fun q => .inl (.inr q)) fun q => .inr (q ▸ hp)⟩
/-- a new tuple is handed back -/
theorem Cont.tup {ds : List D} {vs : List V} (c : Cont P O σ ρ W H ρ (.v (.tup ds)) Q) (L : Rel P O W H σ ρ) (h : RepVs P (Av O W) H ds vs) (hz : ds.length ≤ line) : NewT vs H Q := fun p o hp hd => by
  obtain ⟨L1, s1⟩ := L.laid (o := .frz o (.tup vs)) hp
  exact c _ _ _ L1 s1 (by show RepV _ _ _ _ _; unfold RepV; exact ⟨p, vs, rfl, .inl ⟨o, upd_same, hd⟩, hz, h.kp (kp_same hp)⟩) fun _ _ e => nomatch e
/-- a new list -/
theorem Cont.lst {ds : List D} {vs : List V} {p : Addr} (c : Cont P O σ ρ W H ρ (.o (.lst ds)) Q) (L : Rel P O W H σ ρ) (h : RepVs P (Av O W) H ds vs) (hz : ds.length ≤ line) (hp : H p = none) : Q (.ref p) (upd H p (.lst vs)) := by
  obtain ⟨L1, s1, n1⟩ := L.made (o := .lst vs) hp rfl
  exact c _ _ _ L1 s1 ⟨p, rfl, .inr rfl, n1, vs, upd_same, hz, h.kp (kp_grow hp)⟩ fun _ a _ e => by cases e; exact hp
theorem repInt {i : Int} {v : V} (h : RepB P A H (.int i) v) : v = .int i := by unfold RepB RepV at h; exact h
theorem repBl {b : Bool} {v : V} (h : RepB P A H (.bl b) v) : v = .bl b := by unfold RepB RepV at h; exact h
theorem repNon {v : V} (h : RepB P A H .non v) : v = .non := by unfold RepB RepV at h; exact h
theorem repTy {n : String} {v : V} (h : RepB P A H (.ty n) v) : v = .ty n := by unfold RepB RepV at h; exact h
theorem repStr {s : Str} {v : V} (h : RepB P A H (.str s) v) : v = .str s := by unfold RepB RepV at h; exact h
theorem repTup {ds : List D} {v : V} (h : RepB P A H (.tup ds) v) : ∃ a vs, v = .ref a ∧ TupAt P.K H a vs ∧ ds.length ≤ line ∧ RepVs P A H ds vs := by unfold RepB RepV at h; exact h
theorem repLst {ds : List D} {v : V} (h : RepB P A H (.lst ds) v) : ∃ a vs, v = .ref a ∧ H a = some (.lst vs) ∧ ds.length ≤ line ∧ RepVs P A H ds vs := h
theorem repItems {d : D} {l : List D} {v : V} (h : RepB P A H d v) (e : itemsD d = some l) : ∃ a vs, v = .ref a ∧ SqA P.K H a vs ∧ l.length ≤ line ∧ RepVs P A H l vs := by
  cases d with
  | lst ds => cases e; obtain ⟨a, vs, e, h1, z, h2⟩ := repLst h; exact ⟨a, vs, e, .inl (.inl (.inl h1)), z, h2⟩
  | tup ds => cases e; obtain ⟨a, vs, e, h1, z, h2⟩ := repTup h; exact ⟨a, vs, e, .inr h1.sqT, z, h2⟩
  | _ => cases e
theorem repInts : ∀ {l : List D} {ns : List Int} {vs : List V}, intsD l = some ns → RepVs P A H l vs → vs = ns.map V.int
  | [], ns, vs, e, h => by cases e; unfold RepVs at h; exact h
  | d :: r, ns, vs, e, h => by
    obtain ⟨v, us, rfl, h1, h2⟩ := h.uncons
    cases d with
    | int i =>
      unfold intsD at e
      cases q : intsD r with
      | none => rw [q] at e; cases e
      | some ms =>
        rw [q] at e
        cases e
        rw [List.map_cons, repInts q h2, repInt h1.repB]
    | _ => simp [intsD] at e
theorem repBls : ∀ {l : List D} {bs : List Bool} {vs : List V}, blsD l = some bs → RepVs P A H l vs → vs = bs.map V.bl
  | [], ns, vs, e, h => by cases e; unfold RepVs at h; exact h
  | d :: r, ns, vs, e, h => by
    obtain ⟨v, us, rfl, h1, h2⟩ := h.uncons
    cases d with
    | bl i =>
      unfold blsD at e
      cases q : blsD r with
      | none => rw [q] at e; cases e
      | some ms =>
        rw [q] at e
        cases e
        rw [List.map_cons, repBls q h2, repBl h1.repB]
    | _ => simp [blsD] at e
theorem line_eq : sizeLine = line := sizeLine_eq
theorem bin_ok {op : BOp} {x y d : D} {vx vy : V} (L : Rel P O W H σ ρ) (hx : RepB P (Av O W) H x vx) (hy : RepB P (Av O W) H y vy) (e : binD op x y = some d) (c : Cont P O σ ρ W H ρ (asR op d) Q) : rBin P.K op vx vy H Q := by
  cases op with
  | add =>
    cases x <;> cases y <;> first | (simp [binD] at e; done) | skip
    · simp only [binD] at e
      cases e
      exact .inl ⟨_, _, repInt hx, repInt hy, c.int L rfl⟩
    · simp only [binD] at e
      split at e
      · cases e
        rename_i hz
        obtain ⟨a, vs, rfl, ha, za, ra⟩ := repTup hx
        obtain ⟨b, us, rfl, hb, zb, rb⟩ := repTup hy
        refine .inr (.inr ⟨a, b, vs, us, rfl, rfl, ha.sqT, hb.sqT, by rw [line_eq, ← ra.length, ← rb.length]; exact hz, fun q => ?_, fun _ q => ?_, fun _ _ => c.tup L (ra.append rb) (by rw [List.length_append]; exact hz)⟩)
        · subst q
          have e0 := List.length_eq_zero_iff.mp ra.length
          subst e0
          exact c.val L (by unfold RepV; exact ⟨b, us, rfl, hb, by simpa using zb, by simpa using rb⟩)
        · subst q
          have e0 := List.length_eq_zero_iff.mp rb.length
          subst e0
          exact c.val L (by unfold RepV; exact ⟨a, vs, rfl, ha, by simpa using za, by simpa using ra⟩)
      · cases e
    · simp only [binD] at e
      split at e
      · cases e
        rename_i hz
        obtain ⟨a, vs, rfl, ha, za, ra⟩ := repLst hx
        obtain ⟨b, us, rfl, hb, zb, rb⟩ := repLst hy
        exact .inr (.inl ⟨a, b, vs, us, rfl, rfl, ha, hb, by rw [line_eq, ← ra.length, ← rb.length]; exact hz, fun p hp => c.lst L (ra.append rb) (by rw [List.length_append]; exact hz) hp⟩)
      · cases e
  | sub =>
    cases x <;> cases y <;> first | (simp [binD] at e; done) | skip
    simp only [binD] at e
    cases e
    exact ⟨_, _, repInt hx, repInt hy, c.int L rfl⟩
  | mul =>
    cases x <;> cases y <;> first | (simp [binD] at e; done) | skip
    · simp only [binD] at e
      split at e
      · cases e
        rename_i i j hz
        unfold mulOk at hz
        simp only [Bool.or_eq_true, Bool.and_eq_true, decide_eq_true_eq] at hz
        rcases hz with (hz | hz) | hz
        · exact .inl ⟨_, _, repInt hx, repInt hy, .inl hz, c.int L rfl⟩
        · exact .inl ⟨_, _, repInt hx, repInt hy, .inr hz, c.int L rfl⟩
        · exact .inr (.inl ⟨_, _, repInt hx, repInt hy, hz, c.int L rfl⟩)
      · cases e
    · simp only [binD] at e
      split at e
      · cases e
        rename_i ds k hz
        obtain ⟨a, vs, rfl, ha, za, ra⟩ := repTup hx
        obtain ⟨hne, k1, k2, hl⟩ := hz
        have hl0 : line = 16777216 := rfl
        have hlen := ra.length
        by_cases hk : k = 1
        · subst hk
          have e1 : (List.replicate (1 : Int).toNat ds).flatten = ds := by simp
          rw [e1] at c
          exact .inr (.inr (.inr (.inr ⟨a, vs, rfl, repInt hy, ha.sqT, c.val L (by unfold RepV; exact ⟨a, vs, rfl, ha, za, ra⟩)⟩)))
        · have hz2 : (List.replicate k.toNat ds).flatten.length ≤ line := by
            rw [List.length_flatten, List.map_replicate, List.sum_replicate_nat]
            have := Nat.mul_le_mul (show k.toNat ≤ 1000 by omega) hl
            omega
          exact .inr (.inr (.inr (.inl ⟨a, k, vs, rfl, repInt hy, ha.sqT, (fun z => hne (List.length_eq_zero_iff.mp (by rw [hlen, z]; rfl))), by omega, k2, by omega, c.tup L (ra.rep _) hz2⟩)))
      · cases e
    · simp only [binD] at e
      split at e
      · cases e
        rename_i ds k hz
        obtain ⟨a, vs, rfl, ha, za, ra⟩ := repLst hx
        have hl : line = 16777216 := rfl
        refine .inr (.inr (.inl ⟨a, _, vs, rfl, repInt hy, ha, by omega, by omega, by rw [line_eq, ← ra.length]; exact hz.2.2, fun p hp => c.lst L (ra.rep _) (by rw [List.length_flatten, List.map_replicate, List.sum_replicate_nat, Nat.mul_comm]; exact hz.2.2) hp⟩))
      · cases e
  | fdiv =>
    cases x <;> cases y <;> first | (simp [binD] at e; done) | skip
    simp only [binD] at e
    split at e
    · cases e
      rename_i i j hz
      rcases hz with ⟨h0, h1 | h1⟩
      · exact .inl ⟨_, _, repInt hx, repInt hy, ⟨h0, h1⟩, c.int L rfl⟩
      · exact .inr ⟨_, _, repInt hx, repInt hy, ⟨h0, h1⟩, c.int L rfl⟩
    · cases e
  | mod =>
    cases x <;> cases y <;> first | (simp [binD] at e; done) | skip
    simp only [binD] at e
    split at e
    · cases e
      rename_i i j hz
      exact ⟨_, _, repInt hx, repInt hy, hz, c.int L rfl⟩
    · cases e
  | pow =>
    cases x <;> cases y <;> first | (simp [binD] at e; done) | skip
    simp only [binD] at e
    split at e
    · cases e
      rename_i i j hz
      exact ⟨_, _, repInt hx, repInt hy, hz, c.int L rfl⟩
    · cases e
mutual
theorem rep_dp : ∀ {d : D} {x : PyData} {v : V}, toPy d = some x → RepB P A H d v → Dp P.K H v x
  | .non, _, _, e, h => by cases e; rw [repNon h]; exact .non
  | .bl b, _, _, e, h => by cases e; rw [repBl h]; exact .bl b
  | .int i, _, _, e, h => by cases e; rw [repInt h]; exact .int i
  | .str s, _, _, e, h => by cases e; rw [repStr h]; exact .str s
  | .tup l, x, v, e, h => by
    unfold toPy at e
    cases q : toPys l with
    | none => rw [q] at e; cases e
    | some xs =>
      rw [q] at e; cases e
      obtain ⟨a, vs, rfl, h1, _, h2⟩ := repTup h
      exact .tup h1.sqT (rep_dps q h2)
  | .lst l, x, v, e, h => by
    unfold toPy at e
    cases q : toPys l with
    | none => rw [q] at e; cases e
    | some xs =>
      rw [q] at e; cases e
      obtain ⟨a, vs, rfl, h1, _, h2⟩ := repLst h
      exact .lst (.inl (.inl h1)) (rep_dps q h2)
  | .ty n, _, _, e, _ => by simp [toPy] at e
  | .ins _ _ _, _, _, e, _ => by simp [toPy] at e
  | .scr _, _, _, e, _ => by simp [toPy] at e
theorem rep_dps : ∀ {l : List D} {xs : List PyData} {vs : List V}, toPys l = some xs → RepVs P A H l vs → DpAll P.K H vs xs
  | [], _, _, e, h => by simp [toPys] at e; subst e; unfold RepVs at h; subst h; exact .nil
  | d :: r, xs, vs, e, h => by
    obtain ⟨v, us, rfl, h1, h2⟩ := h.uncons
    unfold toPys at e
    cases q1 : toPy d with
    | none => rw [q1] at e; simp at e
    | some x =>
      cases q2 : toPys r with
      | none => rw [q1, q2] at e; simp at e
      | some ys =>
        rw [q1, q2] at e
        cases e
        exact .cons (rep_dp q1 h1.repB) (rep_dps q2 h2)
end
theorem flat_rep {d : D} {v : V} (f : flatD d = true) (h : RepB P A H d v) : flatV v = true ∧ (∀ (e : D) (u : V), flatD e = true → RepB P A H e u → eqV v u = eqF d e) := by
  cases d with
  | non =>
    rw [repNon h]
    refine ⟨rfl, fun e u fe he => ?_⟩
    cases e <;> first | (rw [repNon he]; rfl) | (rw [repBl he]; rfl) | (rw [repInt he]; rfl) | (rw [repStr he]; rfl) | cases fe
  | bl b =>
    rw [repBl h]
    refine ⟨rfl, fun e u fe he => ?_⟩
    cases e <;> first | (rw [repNon he]; rfl) | (rw [repBl he]; rfl) | (rw [repInt he]; rfl) | (rw [repStr he]; rfl) | cases fe
  | int b =>
    rw [repInt h]
    refine ⟨rfl, fun e u fe he => ?_⟩
    cases e <;> first | (rw [repNon he]; rfl) | (rw [repBl he]; rfl) | (rw [repInt he]; rfl) | (rw [repStr he]; rfl) | cases fe
  | str b =>
    rw [repStr h]
    refine ⟨rfl, fun e u fe he => ?_⟩
    cases e <;> first | (rw [repNon he]; rfl) | (rw [repBl he]; rfl) | (rw [repInt he]; rfl) | (rw [repStr he]; rfl) | cases fe
  | _ => cases f
theorem flats_rep : ∀ {l : List D} {vs : List V}, l.all flatD = true → RepVs P A H l vs → vs.all flatV = true
  | [], vs, _, h => by unfold RepVs at h; subst h; rfl
  | d :: r, vs, f, h => by
    obtain ⟨v, us, rfl, h1, h2⟩ := h.uncons
    rw [List.all_cons, Bool.and_eq_true] at f ⊢
    exact ⟨(flat_rep f.1 h1.repB).1, flats_rep f.2 h2⟩
theorem any_rep {x : D} {u : V} (fx : flatD x = true) (hx : RepB P A H x u) : ∀ {l : List D} {vs : List V}, l.all flatD = true → RepVs P A H l vs → inV u vs = l.any fun z => eqF z x
  | [], vs, _, h => by unfold RepVs at h; subst h; rfl
  | d :: r, vs, f, h => by
    obtain ⟨v, us, rfl, h1, h2⟩ := h.uncons
    rw [List.all_cons, Bool.and_eq_true] at f
    have ih := any_rep fx hx f.2 h2
    unfold inV at ih ⊢
    rw [List.any_cons, List.any_cons, ih, (flat_rep f.1 h1.repB).2 x u fx hx]
theorem countF_rep {x : D} {u : V} (fx : flatD x = true) (hx : RepB P A H x u) : ∀ {l : List D} {vs : List V}, l.all flatD = true → RepVs P A H l vs → vs.countP (fun z => eqV z u) = l.countP fun z => eqF z x
  | [], _, _, h => by unfold RepVs at h; rw [h]; rfl
  | d :: r, _, f, h => by
    unfold RepVs at h
    obtain ⟨v, vs, rfl, h1, h2⟩ := h
    rw [List.all_cons, Bool.and_eq_true] at f
    rw [List.countP_cons, List.countP_cons, countF_rep fx hx f.2 h2, (flat_rep f.1 h1.repB).2 x u fx hx]
theorem find_rep {x : D} {u : V} (fx : flatD x = true) (hx : RepB P A H x u) : ∀ {l : List D} {vs : List V} {j : Nat}, l.all flatD = true → RepVs P A H l vs → ixFind (fun z => eqF z x) l = some j →
    ∃ z, vs[j]? = some z ∧ eqV z u = true ∧ ∀ (m : Nat) (z' : V), m < j → vs[m]? = some z' → eqV z' u = false
  | [], vs, j, _, h, e => by cases e
  | d :: r, vs, j, f, h, e => by
    obtain ⟨v, us, rfl, h1, h2⟩ := h.uncons
    rw [List.all_cons, Bool.and_eq_true] at f
    have hq := (flat_rep f.1 h1.repB).2 x u fx hx
    unfold ixFind at e
    split at e
    · cases e
      rename_i hp
      exact ⟨v, rfl, hq.trans hp, fun m _ hm => absurd hm (Nat.not_lt_zero _)⟩
    · rename_i hp
      cases q : ixFind (fun z => eqF z x) r with
      | none => rw [q] at e; cases e
      | some k =>
        rw [q] at e
        cases e
        obtain ⟨z, g1, g2, g3⟩ := find_rep fx hx f.2 h2 q
        refine ⟨z, by simpa using g1, g2, fun m z' hm hz => ?_⟩
        cases m with
        | zero =>
          simp at hz
          subst hz
          rw [hq]
          simpa using hp
        | succ m => exact g3 m z' (Nat.lt_of_succ_lt_succ hm) (by simpa using hz)
theorem cmpI_ok {f : Int → Int → Bool} {x y : D} {b : Bool} {vx vy : V} (L : Rel P O W H σ ρ) (hx : RepB P (Av O W) H x vx) (hy : RepB P (Av O W) H y vy) (e : cmpI f x y = some b) (c : Cont P O σ ρ W H ρ (.v (.bl b)) Q) :
    rI0 (fun i j => .bl (f i j)) vx vy H Q := by
  cases x <;> cases y <;> first | (simp [cmpI] at e; done) | skip
  simp only [cmpI] at e
  cases e
  exact ⟨_, _, repInt hx, repInt hy, c.bl L rfl⟩
theorem isN_ok {x y : D} {b : Bool} {vx vy : V} (hx : RepB P A H x vx) (hy : RepB P A H y vy) (e : isN x y = some b) : (vy = .non ∧ decide (vx = .non) = b) ∨ ∃ p q, vx = .bl p ∧ vy = .bl q ∧ decide (p = q) = b := by
  cases y with
  | non =>
    refine .inl ⟨repNon hy, ?_⟩
    cases x <;> first
      | (have := repNon hx; simp [isN] at e; subst e this; rfl)
      | (have := repBl hx; simp [isN] at e; subst e this; rfl)
      | (have := repInt hx; simp [isN] at e; subst e this; rfl)
      | (have := repStr hx; simp [isN] at e; subst e this; rfl)
      | (have := repTy hx; simp [isN] at e; subst e this; rfl)
      | (obtain ⟨a, vs, this, _⟩ := repTup hx; simp [isN] at e; subst e this; rfl)
      | (obtain ⟨a, vs, this, _⟩ := repLst hx; simp [isN] at e; subst e this; rfl)
      | (obtain ⟨a, dx, vs, this, _⟩ := hx; simp [isN] at e; subst e this; rfl)
      | (obtain ⟨a, vs, this, _⟩ := hx; simp [isN] at e; subst e this; rfl)
      | (unfold RepB RepV at hx; obtain ⟨a, this, _⟩ := hx; simp [isN] at e; subst e this; rfl)
  | bl q =>
    cases x with
    | bl p =>
      refine .inr ⟨p, q, repBl hx, repBl hy, ?_⟩
      simp only [isN] at e
      cases e
      exact (Bool.beq_eq_decide_eq p q).symm
    | _ => simp [isN] at e
  | _ => cases x <;> simp [isN] at e
theorem repKey {x : D} {vx : V} {k : L2.Key} (hx : RepB P A H x vx) (e : keyD x = some k) : vx = L2.kV k := by
  cases x with
  | int i => cases e; exact repInt hx
  | str s => cases e; exact repStr hx
  | _ => cases e
theorem dget_rep {k : L2.Key} : ∀ {ks : List L2.Key} {ds : List D} {vs : List V}, ks.length = vs.length → RepVs P A H ds vs → (∀ d, dgetD k ks ds = some d → ∃ v, valV (ks.zip vs) k = some v ∧ RepV P A H d v) ∧ (dgetD k ks ds = none → valV (ks.zip vs) k = none)
  | [], ds, vs, l, h => by
    have : dgetD k [] ds = none := by cases ds <;> rfl
    rw [this]
    exact ⟨fun d e => (nomatch e), fun _ => rfl⟩
  | x :: ks, ds, [], l, h => by cases l
  | x :: ks, ds, v :: vs, l, h => by
    cases ds with
    | nil => unfold RepVs at h; cases h
    | cons d ds =>
      obtain ⟨v', r', e', h1, h2⟩ := h.uncons
      cases e'
      have ih := dget_rep (k := k) (ks := ks) (by simpa using l) h2
      unfold dgetD
      rw [List.zip_cons_cons]
      by_cases q : x = k
      · rw [if_pos q, valV_pos (p := (x, v)) q]
        exact ⟨fun d' e => by cases e; exact ⟨v, rfl, h1⟩, fun e => nomatch e⟩
      · rw [if_neg q, valV_neg (p := (x, v)) q]
        exact ih
theorem inK_rep {x y : D} {vx vy : V} {ks : List L2.Key} {ds : List D} {k : Bool} (hx : RepB P A H x vx) (hy : RepB P A H (.dct ks ds) vy) (e : (keyD x).map (fun k => (dgetD k ks ds).isSome) = some k) : ∃ a o, vy = .ref a ∧ DGet H a vx o ∧ o.isSome = k := by
  cases q : keyD x with
  | none => rw [q] at e; cases e
  | some ky =>
    rw [q] at e
    cases e
    obtain ⟨a, vs, rfl, ha, hl, hr⟩ := hy
    obtain ⟨g1, g2⟩ := dget_rep (k := ky) hl hr
    refine ⟨a, valV (ks.zip vs) ky, rfl, repKey hx q ▸ DGet.k ha, ?_⟩
    cases q2 : dgetD ky ks ds with
    | none => rw [g2 q2]; dsimp only; rw [q2]; rfl
    | some d => obtain ⟨v, e, _⟩ := g1 d q2; rw [e]; dsimp only; rw [q2]; rfl
theorem ltRow_eq : ∀ a b : List Int, ltRow a b = decide (a < b)
  | [], [] => by simp [ltRow]
  | [], _ :: _ => by simp [ltRow]
  | _ :: _, [] => by simp [ltRow]
  | x :: xs, y :: ys => by
    unfold ltRow
    by_cases h : x = y
    · rw [if_pos h, ltRow_eq xs ys]
      simp [h, List.cons_lt_cons_iff]
    · rw [if_neg h]
      simp [h, List.cons_lt_cons_iff]
theorem ints_toPys : ∀ {l : List D} {ns : List Int}, intsD l = some ns → toPys l = some (ns.map .int)
  | [], _, e => by cases e; rfl
  | .int i :: r, ns, e => by
    have e : (intsD r).map (i :: ·) = some ns := e
    cases q : intsD r with
    | none => rw [q] at e; cases e
    | some ms =>
      rw [q] at e
      cases e
      unfold toPys
      rw [ints_toPys q]
      rfl
  | .non :: _, _, e => by cases e
  | .bl _ :: _, _, e => by cases e
  | .str _ :: _, _, e => by cases e
  | .tup _ :: _, _, e => by cases e
  | .lst _ :: _, _, e => by cases e
  | .ty _ :: _, _, e => by cases e
  | .ins _ _ _ :: _, _, e => by cases e
  | .dct _ _ :: _, _, e => by cases e
  | .scr _ :: _, _, e => by cases e
  | .exc _ _ _ :: _, _, e => by cases e
  | .fn _ :: _, _, e => by cases e
theorem ltD_cs {x y : D} {b : Bool} (e : ltD x y = some b) : (∃ i j, x = .int i ∧ y = .int j ∧ b = decide (i < j)) ∨ ∃ l m p q, x = .tup l ∧ y = .tup m ∧ intsD l = some p ∧ intsD m = some q ∧ b = ltRow p q := by
  unfold ltD at e
  split at e
  · cases e; exact .inl ⟨_, _, rfl, rfl, rfl⟩
  · rename_i l m
    cases q1 : intsD l with
    | none => rw [q1] at e; cases e
    | some p =>
      cases q2 : intsD m with
      | none => rw [q1, q2] at e; cases e
      | some q => rw [q1, q2] at e; cases e; exact .inr ⟨l, m, p, q, rfl, rfl, q1, q2, rfl⟩
  · cases e
theorem cmp_ok {op : COp} {x y : D} {b : Bool} {vx vy : V} (L : Rel P O W H σ ρ) (hx : RepB P (Av O W) H x vx) (hy : RepB P (Av O W) H y vy) (e : cmpD op x y = some b) (c : Cont P O σ ρ W H ρ (.v (.bl b)) Q) : rCmp P.K op vx vy H Q := by
  have eqs : ∀ {k : Bool}, eqD x y = some k → ∃ d e, Dp P.K H vx d ∧ Dp P.K H vy e ∧ SeqAt.shaped d = true ∧ SeqAt.shaped e = true ∧ PyData.eqv d e = k := fun {k} h => by
    unfold eqD at h
    cases q1 : toPy x with
    | none => rw [q1] at h; simp at h
    | some px =>
      cases q2 : toPy y with
      | none => rw [q1, q2] at h; simp at h
      | some py =>
        rw [q1, q2] at h
        simp only at h
        split at h
        · rename_i hs
          cases h
          exact ⟨px, py, rep_dp q1 hx, rep_dp q2 hy, hs.1, hs.2, rfl⟩
        · cases h
  have ink : ∀ {k : Bool}, inD x y = some k → (∃ ks ds, y = .dct ks ds ∧ (keyD x).map (fun k => (dgetD k ks ds).isSome) = some k) ∨ inS x y = some k := fun {k} h => by
    cases y with
    | dct ks ds => exact .inl ⟨ks, ds, rfl, h⟩
    | _ => exact .inr h
  have ins : ∀ {k : Bool}, inS x y = some k → (∃ p xs, vy = .ref p ∧ (SqL P.K H p xs ∨ SqT P.K H p xs) ∧ flatV vx = true ∧ xs.all flatV = true ∧ inV vx xs = k) ∨
      (∃ d ds, Dp P.K H vx d ∧ SeqAt.shaped d = true ∧ ((Dp P.K H vy (.list ds) ∧ SeqAt.shaped (.list ds) = true) ∨ (Dp P.K H vy (.tuple ds) ∧ SeqAt.shaped (.tuple ds) = true)) ∧ (ds.any fun z => PyData.eqv z d) = k) := fun {k} h => by
    unfold inS at h
    cases q1 : itemsD y with
    | none => rw [q1] at h; simp at h
    | some ds =>
      rw [q1] at h
      simp only at h
      split at h
      · rename_i hf
        rw [Bool.and_eq_true] at hf
        cases h
        obtain ⟨a, vs, rfl, ha, _, ra⟩ := repItems hy q1
        exact .inl ⟨a, vs, rfl, ha, (flat_rep hf.1 hx).1, flats_rep hf.2 ra, any_rep hf.1 hx hf.2 ra⟩
      · cases y with
        | lst l =>
          cases q1
          simp only at h
          cases q2 : toPy x with
          | none => rw [q2] at h; simp at h
          | some px =>
            cases q3 : toPys ds with
            | none => rw [q2, q3] at h; simp at h
            | some ps =>
              rw [q2, q3] at h
              simp only at h
              split at h
              · rename_i hs
                cases h
                refine .inr ⟨px, ps, rep_dp q2 hx, hs.1, .inl ⟨rep_dp (d := .lst ds) ?_ hy, hs.2⟩, rfl⟩
                unfold toPy; rw [q3]; rfl
              · cases h
        | tup l =>
          cases q1
          simp only at h
          cases q2 : toPy x with
          | none => rw [q2] at h; simp at h
          | some px =>
            cases q3 : toPys ds with
            | none => rw [q2, q3] at h; simp at h
            | some ps =>
              rw [q2, q3] at h
              simp only at h
              split at h
              · rename_i hs
                cases h
                refine .inr ⟨px, ps, rep_dp q2 hx, hs.1, .inr ⟨rep_dp (d := .tup ds) ?_ hy, hs.2⟩, rfl⟩
                unfold toPy; rw [q3]; rfl
              · cases h
        | _ => simp at h
  cases op with
  | lt =>
    have e : ltD x y = some b := e
    rcases ltD_cs e with ⟨i, j, rfl, rfl, rfl⟩ | ⟨l, m, p, q, rfl, rfl, q1, q2, rfl⟩
    · exact .inl (cmpI_ok (f := fun i j => decide (i < j)) L hx hy rfl c)
    · exact .inr ⟨p, q, rep_dp (by unfold toPy; rw [ints_toPys q1]; rfl) hx, rep_dp (by unfold toPy; rw [ints_toPys q2]; rfl) hy, c.bl L (ltRow_eq p q).symm⟩
  | le => exact cmpI_ok L hx hy e c
  | gt => exact cmpI_ok L hx hy e c
  | ge => exact cmpI_ok L hx hy e c
  | eq =>
    obtain ⟨d, f, h1, h2, h3, h4, h5⟩ := eqs e
    exact ⟨d, f, h1, h2, h3, h4, c.bl L h5⟩
  | ne =>
    have e : (eqD x y).map not = some b := e
    cases q : eqD x y with
    | none => rw [q] at e; cases e
    | some k =>
      rw [q] at e; cases e
      obtain ⟨d, f, h1, h2, h3, h4, h5⟩ := eqs q
      exact ⟨d, f, h1, h2, h3, h4, c.bl L (by rw [h5])⟩
  | inn =>
    rcases ink e with ⟨ks, ds, rfl, e⟩ | e
    · obtain ⟨a, o, h0, h1, h2⟩ := inK_rep (y := x) hx hy e
      exact .inr (.inr ⟨a, o, h0, h1, c.bl L (by simp [h2])⟩)
    rcases ins e with ⟨p, xs, h0, h1, h2, h3, h4⟩ | ⟨d, ds, h1, h2, h3, h5⟩
    · exact .inl ⟨p, xs, h0, h1, h2, h3, c.bl L h4⟩
    · exact .inr (.inl ⟨d, ds, h1, h2, h3, c.bl L (by simp [h5])⟩)
  | nin =>
    have e : (inD x y).map not = some b := e
    cases q : inD x y with
    | none => rw [q] at e; cases e
    | some k =>
      rw [q] at e; cases e
      rcases ink q with ⟨ks, ds, rfl, q⟩ | q
      · obtain ⟨a, o, h0, h1, h2⟩ := inK_rep (y := x) hx hy q
        exact .inr (.inr ⟨a, o, h0, h1, c.bl L (by simp [h2])⟩)
      rcases ins q with ⟨p, xs, h0, h1, h2, h3, h4⟩ | ⟨d, ds, h1, h2, h3, h5⟩
      · exact .inl ⟨p, xs, h0, h1, h2, h3, c.bl L (by simp [h4])⟩
      · exact .inr (.inl ⟨d, ds, h1, h2, h3, c.bl L (by simp [h5])⟩)
  | iss =>
    rcases isN_ok hx hy e with ⟨h1, h2⟩ | ⟨p, q, h1, h2, h3⟩
    · exact .inl ⟨h1, c.bl L h2⟩
    · exact .inr ⟨p, q, h1, h2, c.bl L h3⟩
  | isn =>
    have e : (isN x y).map not = some b := e
    cases q : isN x y with
    | none => rw [q] at e; cases e
    | some k =>
      rw [q] at e; cases e
      rcases isN_ok hx hy q with ⟨h1, h2⟩ | ⟨p, q, h1, h2, h3⟩
      · exact .inl ⟨h1, c.bl L (by rw [h2])⟩
      · exact .inr ⟨p, q, h1, h2, c.bl L (by rw [h3])⟩
theorem ixOf_eq (n : Nat) (i : Int) : ixOf n i = ixN n i := rfl
theorem idx_cs {x y d : D} (e : idxD x y = some d) : (∃ ks ds, x = .dct ks ds ∧ ((keyD y).bind fun k => dgetD k ks ds) = some d) ∨ idxS x y = some d := by
  cases x with
  | dct ks ds => exact .inl ⟨ks, ds, rfl, e⟩
  | _ => exact .inr e
theorem idxK_ok {ks : List L2.Key} {ds : List D} {y d : D} {vx vy : V} (L : Rel P O W H σ ρ) (hx : RepB P (Av O W) H (.dct ks ds) vx) (hy : RepB P (Av O W) H y vy) (e : ((keyD y).bind fun k => dgetD k ks ds) = some d) (c : Cont P O σ ρ W H ρ (.v d) Q) : ∃ a v, vx = .ref a ∧ DGet H a vy (some v) ∧ Q v H := by
  cases q : keyD y with
  | none => rw [q] at e; cases e
  | some ky =>
    rw [q] at e
    obtain ⟨a, vs, rfl, ha, hl, hr⟩ := hx
    obtain ⟨v, h1, h2⟩ := (dget_rep (k := ky) hl hr).1 d e
    exact ⟨a, v, rfl, h1 ▸ repKey hy q ▸ DGet.k ha, c.val L h2⟩
theorem idx_ok {x y d : D} {vx vy : V} (L : Rel P O W H σ ρ) (hx : RepB P (Av O W) H x vx) (hy : RepB P (Av O W) H y vy) (e : idxS x y = some d) (c : Cont P O σ ρ W H ρ (.v d) Q) : rIx P.K vx vy H Q := by
  unfold idxS at e
  cases q : itemsD x with
  | none => rw [q] at e; simp at e
  | some l =>
    simp only [q] at e
    cases y with
    | int k =>
      simp only at e
      obtain ⟨a, vs, rfl, ha, _, ra⟩ := repItems hx q
      cases q2 : ixOf l.length k with
      | none => rw [q2] at e; cases e
      | some j =>
        rw [q2] at e
        have e : l[j]? = some d := e
        obtain ⟨v, hv, rv⟩ := ra.get e
        have at_ : atI vs k = some v := by
          unfold atI
          rw [← ra.length, ← ixOf_eq, q2]
          exact hv
        rcases ha with ha | ha
        · exact .inl ⟨a, vs, k, v, rfl, repInt hy, ha, at_, c.val L rv⟩
        · exact .inr (.inl ⟨a, vs, k, v, rfl, repInt hy, ha, at_, c.val L rv⟩)
    | _ => simp at e
theorem cut_rep {l : List D} {vs : List V} {lo hi : Option Int} (h : RepVs P A H l vs) : RepVs P A H (cut l lo hi) (cutV vs lo hi) := by
  unfold cut cutV
  rw [← h.length]
  exact (h.drop _).take _
theorem cut_len {l : List D} {lo hi : Option Int} (h : l.length ≤ line) : (cut l lo hi).length ≤ line := by
  unfold cut
  rw [List.length_take, List.length_drop]
  omega
theorem sl_ok {x : D} {lo hi : Option Int} {vx : V} (L : Rel P O W H σ ρ) (hx : RepB P (Av O W) H x vx) (e : slD x lo hi = some r) (c : Cont P O σ ρ W H ρ r Q) : rSl P.K vx lo hi H Q := by
  cases x with
  | lst l =>
    cases e
    obtain ⟨a, vs, rfl, ha, za, ra⟩ := repLst hx
    exact .inl ⟨a, vs, rfl, .inl (.inl ha), fun p hp => c.lst L (cut_rep ra) (cut_len za) hp⟩
  | tup l =>
    cases e
    obtain ⟨a, vs, rfl, ha, za, ra⟩ := repTup hx
    refine .inr ⟨a, vs, rfl, ha.sqT, fun hw => c.val L ?_, fun _ => c.tup L (cut_rep ra) (cut_len za)⟩
    unfold RepV
    refine ⟨a, vs, rfl, ha, cut_len za, ?_⟩
    unfold cut
    rw [ra.length, hw.1, hw.2]
    have e2 : (l.drop 0).take (vs.length - 0) = l := by rw [List.drop_zero, Nat.sub_zero, ← ra.length, List.take_length]
    rw [e2]
    exact ra
  | scr ns =>
    cases e
    unfold RepB RepV at hx
    obtain ⟨a, rfl, ha, za⟩ := hx
    have hs : SqL P.K H a (ns.map V.int) := by
      rcases ha with ⟨ha, _⟩ | ha
      · exact .inl ha
      · exact .inr ha
    refine .inl ⟨a, _, rfl, hs, fun p hp => c.lst L ?_ (by unfold cutI; rw [List.length_map, List.length_take, List.length_drop]; omega) hp⟩
    have e : cutV (ns.map V.int) lo hi = (cutI ns lo hi).map V.int := by
      unfold cutV cutI
      rw [List.length_map, ← List.map_drop, ← List.map_take]
    rw [e]
    exact .ofInts _
  | _ => cases e
theorem rev_ok {x : D} {vx : V} (L : Rel P O W H σ ρ) (hx : RepB P (Av O W) H x vx) (e : revD x = some r) (c : Cont P O σ ρ W H ρ r Q) : rRev P.K vx H Q := by
  cases x with
  | lst l =>
    cases e
    obtain ⟨a, vs, rfl, ha, za, ra⟩ := repLst hx
    exact .inl ⟨a, vs, rfl, .inl (.inl ha), fun p hp => c.lst L ra.reverse (by rw [List.length_reverse]; exact za) hp⟩
  | tup l =>
    cases e
    obtain ⟨a, vs, rfl, ha, za, ra⟩ := repTup hx
    exact .inr ⟨a, vs, rfl, ha.sqT, c.tup L ra.reverse (by rw [List.length_reverse]; exact za)⟩
  | _ => cases e
end
end Mi
set_option Elab.async false
set_option linter.all false
set_option maxRecDepth 100000
set_option maxHeartbeats 4000000
namespace Mi
open PySem PySem.Spec PyProof.Rows L2
theorem kits : (tyNames.all fun n => tyClasses.all fun t => kitB n t == some (isSub n t)) = true := by decide +kernel
theorem kit_at {n t : String} (hn : n ∈ tyNames) (ht : t ∈ tyClasses) : kitB n t = some (isSub n t) := by
  have h := List.all_eq_true.mp (List.all_eq_true.mp kits n hn) t ht
  exact eq_of_beq h
/-- the value of sorting -/
theorem insI_perm (x : Int) : ∀ l : List Int, (insI x l).Perm (x :: l)
  | [] => .refl _
  | y :: r => by
    unfold insI
    split
    · exact .refl _
    · exact ((insI_perm x r).cons y).trans (.swap x y r)
theorem sortI_perm : ∀ l : List Int, (sortI l).Perm l
  | [] => .refl _
  | x :: r => (insI_perm x (sortI r)).trans ((sortI_perm r).cons x)
theorem insI_sorted (x : Int) : ∀ l : List Int, l.Pairwise (· ≤ ·) → (insI x l).Pairwise (· ≤ ·)
  | [], _ => by simp [insI]
  | y :: r, h => by
    unfold insI
    obtain ⟨h1, h2⟩ := List.pairwise_cons.mp h
    split
    · rename_i hxy
      exact List.pairwise_cons.mpr ⟨fun z hz => by
        rcases List.mem_cons.mp hz with e | e
        · subst e; exact hxy
        · exact Int.le_trans hxy (h1 z e), h⟩
    · rename_i hxy
      refine List.pairwise_cons.mpr ⟨fun z hz => ?_, insI_sorted x r h2⟩
      rcases List.mem_cons.mp ((insI_perm x r).mem_iff.mp hz) with e | e
      · subst e; omega
      · exact h1 z e
theorem sortI_sorted : ∀ l : List Int, (sortI l).Pairwise (· ≤ ·)
  | [] => .nil
  | x :: r => insI_sorted x _ (sortI_sorted r)
theorem sorted_unique : ∀ {l m : List Int}, l.Perm m → l.Pairwise (· ≤ ·) → m.Pairwise (· ≤ ·) → l = m := fun {l m} p h1 h2 =>
  List.Perm.eq_of_pairwise (fun a b _ _ h h' => Int.le_antisymm h h') h1 h2 p
theorem minI_spec : ∀ {ns : List Int} {m : Int}, minI ns = some m → m ∈ ns ∧ ∀ y ∈ ns, m ≤ y
  | x :: r, m, h => by
    have h : some (r.foldl (fun a b => if b < a then b else a) x) = some m := h
    cases h
    have e : ∀ (r : List Int) (x : Int), r.foldl (fun a b => if b < a then b else a) x = r.foldl min x := by
      intro r
      induction r with
      | nil => intro x; rfl
      | cons y r ih =>
        intro x
        rw [List.foldl_cons, List.foldl_cons, ih]
        congr 1
        split <;> omega
    rw [e]
    exact foldl_min_mem r x
theorem maxI_spec : ∀ {ns : List Int} {m : Int}, maxI ns = some m → m ∈ ns ∧ ∀ y ∈ ns, y ≤ m
  | x :: r, m, h => by
    have h : some (r.foldl (fun a b => if a < b then b else a) x) = some m := h
    cases h
    have e : ∀ (r : List Int) (x : Int), r.foldl (fun a b => if a < b then b else a) x = r.foldl max x := by
      intro r
      induction r with
      | nil => intro x; rfl
      | cons y r ih =>
        intro x
        rw [List.foldl_cons, List.foldl_cons, ih]
        congr 1
        split <;> omega
    rw [e]
    exact foldl_max_mem r x
theorem dedup_spec : ∀ l : List Int, (dedup l).Nodup ∧ ∀ k, k ∈ dedup l ↔ k ∈ l
  | [] => ⟨.nil, fun k => .rfl⟩
  | x :: r => by
    obtain ⟨h1, h2⟩ := dedup_spec r
    unfold dedup
    split
    · rename_i hx
      refine ⟨h1, fun k => ?_⟩
      rw [h2 k, List.mem_cons]
      exact ⟨.inr, fun h => h.elim (fun e => e ▸ hx) fun h => h⟩
    · rename_i hx
      refine ⟨List.nodup_cons.mpr ⟨fun h => hx ((h2 x).mp h), h1⟩, fun k => ?_⟩
      rw [List.mem_cons, List.mem_cons, h2 k]
theorem nodup_len {l m : List Int} (h1 : l.Nodup) (h2 : m.Nodup) (h : ∀ k, k ∈ l ↔ k ∈ m) : l.length = m.length :=
  ((List.perm_ext_iff_of_nodup h1 h2).mpr h).length_eq
theorem intsD_len : ∀ {l : List D} {ns : List Int}, intsD l = some ns → l.length = ns.length
  | [], ns, e => by cases e; rfl
  | d :: r, ns, e => by
    cases d with
    | int i =>
      unfold intsD at e
      cases q : intsD r with
      | none => rw [q] at e; cases e
      | some ms => rw [q] at e; cases e; rw [List.length_cons, List.length_cons, intsD_len q]
    | _ => simp [intsD] at e
section
variable {P : TP} {O W W0 A : AP} {H H0 : Hp} {σ : L2.St} {ρ ρ0 : Env} {r : R} {Q : VK}
theorem intKs_eq : ∀ {ks : List L2.Key} {ns : List Int}, intKs ks = some ns → ks = ns.map Sum.inl
  | [], ns, e => by cases e; rfl
  | .inl i :: r, ns, e => by
    have e : (intKs r).map (i :: ·) = some ns := e
    cases q : intKs r with
    | none => rw [q] at e; cases e
    | some ms => rw [q] at e; cases e; rw [List.map_cons, ← intKs_eq q]
  | .inr _ :: _, _, e => by cases e
mutual
theorem of_to : ∀ {d : D} {x : PyData}, toPy d = some x → ofPy x = d
  | .non, _, e => by unfold toPy at e; cases e; rfl
  | .bl b, _, e => by unfold toPy at e; cases e; rfl
  | .int i, _, e => by unfold toPy at e; cases e; rfl
  | .str s, _, e => by unfold toPy at e; cases e; rfl
  | .tup l, x, e => by
    unfold toPy at e
    cases q : toPys l with
    | none => rw [q] at e; cases e
    | some xs => rw [q] at e; cases e; show D.tup (ofPys xs) = _; rw [ofs_tos q]
  | .lst l, x, e => by
    unfold toPy at e
    cases q : toPys l with
    | none => rw [q] at e; cases e
    | some xs => rw [q] at e; cases e; show D.lst (ofPys xs) = _; rw [ofs_tos q]
  | .ty _, _, e => by unfold toPy at e; cases e
  | .ins _ _ _, _, e => by unfold toPy at e; cases e
  | .dct _ _, _, e => by unfold toPy at e; cases e
  | .scr _, _, e => by unfold toPy at e; cases e
theorem ofs_tos : ∀ {l : List D} {xs : List PyData}, toPys l = some xs → ofPys xs = l
  | [], _, e => by unfold toPys at e; cases e; rfl
  | d :: r, xs, e => by
    unfold toPys at e
    cases q1 : toPy d with
    | none => rw [q1] at e; cases e
    | some x =>
      cases q2 : toPys r with
      | none => rw [q1, q2] at e; cases e
      | some ys => rw [q1, q2] at e; cases e; show ofPy x :: ofPys ys = _; rw [of_to q1, ofs_tos q2]
end
theorem toPys_get : ∀ {l : List D} {xs : List PyData} {i : Nat} {d : D}, toPys l = some xs → l[i]? = some d → ∃ x, xs[i]? = some x ∧ toPy d = some x
  | [], _, _, _, _, h => by simp at h
  | d :: r, xs, i, d', e, h => by
    unfold toPys at e
    cases q1 : toPy d with
    | none => rw [q1] at e; cases e
    | some x =>
      cases q2 : toPys r with
      | none => rw [q1, q2] at e; cases e
      | some ys =>
        rw [q1, q2] at e
        cases e
        cases i with
        | zero => simp at h; subst h; exact ⟨x, rfl, q1⟩
        | succ i => simpa using toPys_get q2 (by simpa using h)
theorem bestG_ok {f : PyData → List PyData → PyData} {d : D} {v : V} (L : Rel P O W H σ ρ) (hv : RepB P (Av O W) H d v) (e : bestG f d = some r) (c : Cont P O σ ρ W H ρ r Q) : rBestG P.K f [v] H Q := by
  unfold bestG at e
  cases q : itemsD d with
  | none => rw [q] at e; cases e
  | some l =>
    rw [q] at e
    have e : ((toPys l).bind fun xs => match xs with | [] => none | x :: r => if alikeB (x :: r) = true ∧ PyData.depthAll (x :: r) ≤ 60 then some (R.v (ofPy (f x r))) else none) = some r := e
    cases q2 : toPys l with
    | none => rw [q2] at e; cases e
    | some xs =>
      rw [q2] at e
      cases xs with
      | nil => cases e
      | cons x xs =>
        have e : (if alikeB (x :: xs) = true ∧ PyData.depthAll (x :: xs) ≤ 60 then some (R.v (ofPy (f x xs))) else none) = some r := e
        split at e
        · rename_i hz
          cases e
          obtain ⟨a, us, rfl, h1, z, h2⟩ := repItems hv q
          refine ⟨a, us, x, xs, rfl, h1, rep_dps q2 h2, ?_, hz.2, fun i w hw hx => ?_⟩
          · have h := hz.1
            unfold alikeB at h
            rw [Bool.and_eq_true, List.all_eq_true, List.all_eq_true] at h
            refine ⟨fun p hp y hy => List.all_eq_true.mp (h.1 p hp) y hy, fun p hp e => ?_⟩
            have := h.2 p hp
            rw [e] at this
            cases this
          · have hi : i < l.length := by rw [h2.length]; exact (List.getElem?_eq_some_iff.mp hw).1
            have hl : l[i]? = some l[i] := List.getElem?_eq_getElem hi
            obtain ⟨p, hp, tp⟩ := toPys_get q2 hl
            rw [hx] at hp
            cases hp
            obtain ⟨u, hu, ru⟩ := h2.get hl
            rw [hw] at hu
            cases hu
            exact c.val L (of_to tp ▸ ru)
        · cases e
theorem insRow_perm (x : List Int) : ∀ l, (insRow x l).Perm (x :: l)
  | [] => .refl _
  | y :: r => by
    unfold insRow
    split
    · exact ((insRow_perm x r).cons y).trans (.swap x y r)
    · exact .refl _
theorem sortRows_perm : ∀ l : List (List Int), (sortRows l).Perm l
  | [] => .refl _
  | x :: r => (insRow_perm x _).trans ((sortRows_perm r).cons x)
theorem insRow_sorted (x : List Int) : ∀ {l : List (List Int)}, l.Pairwise (· ≤ ·) → (insRow x l).Pairwise (· ≤ ·)
  | [], _ => List.pairwise_singleton _ _
  | y :: r, h => by
    obtain ⟨h1, h2⟩ := List.pairwise_cons.mp h
    unfold insRow
    split
    · rename_i q
      rw [ltRow_eq, decide_eq_true_eq] at q
      refine List.pairwise_cons.mpr ⟨fun z hz => ?_, insRow_sorted x h2⟩
      rcases List.mem_cons.mp ((insRow_perm x r).mem_iff.mp hz) with e | hz
      · subst e; exact List.le_of_lt q
      · exact h1 z hz
    · rename_i q
      rw [ltRow_eq, decide_eq_true_eq] at q
      have q : x ≤ y := List.not_lt.mp q
      refine List.pairwise_cons.mpr ⟨fun z hz => ?_, h⟩
      rcases List.mem_cons.mp hz with e | hz
      · subst e; exact q
      · exact List.le_trans q (h1 z hz)
theorem sortRows_sorted : ∀ l : List (List Int), (sortRows l).Pairwise (· ≤ ·)
  | [] => .nil
  | x :: r => insRow_sorted x (sortRows_sorted r)
theorem rows_sorted (bs : List (V × List Int)) : (sortRows (bs.map (·.2))).map rowT = (bs.mergeSort (fun p q => decide (p.2 ≤ q.2))).map fun b => rowT b.2 := by
  have e : sortRows (bs.map (·.2)) = (bs.mergeSort (fun p q => decide (p.2 ≤ q.2))).map (·.2) := by
    refine List.Perm.eq_of_pairwise (fun a b _ _ h1 h2 => List.le_antisymm h1 h2) (sortRows_sorted _) ?_ ((sortRows_perm _).trans ((List.mergeSort_perm _ _).map _).symm)
    refine List.pairwise_map.mpr ?_
    have := List.pairwise_mergeSort (le := fun p q : V × List Int => decide (p.2 ≤ q.2)) (fun a b c h1 h2 => by rw [decide_eq_true_eq] at *; exact List.le_trans h1 h2) (fun a b => by rw [Bool.or_eq_true, decide_eq_true_eq, decide_eq_true_eq]; exact List.le_total _ _) bs
    exact this.imp fun h => of_decide_eq_true h
  rw [e, List.map_map]
  rfl
theorem rows_reps {A : AP} {H : Hp} : ∀ {bs : List (V × List Int)}, (∀ b ∈ bs, RepV P A H (rowT b.2) b.1) → RepVs P A H (bs.map fun b => rowT b.2) (bs.map (·.1))
  | [], _ => by unfold RepVs; rfl
  | b :: r, h => by
    rw [List.map_cons, List.map_cons]
    unfold RepVs
    exact ⟨_, _, rfl, h b List.mem_cons_self, rows_reps fun c hc => h c (List.mem_cons_of_mem _ hc)⟩
theorem intsD_eq : ∀ {l : List D} {ns : List Int}, intsD l = some ns → l = ns.map .int
  | [], _, e => by cases e; rfl
  | .int i :: r, ns, e => by
    have e : (intsD r).map (i :: ·) = some ns := e
    cases q : intsD r with
    | none => rw [q] at e; cases e
    | some ms => rw [q] at e; cases e; rw [intsD_eq q]; rfl
  | .non :: _, _, e => by cases e
  | .bl _ :: _, _, e => by cases e
  | .str _ :: _, _, e => by cases e
  | .tup _ :: _, _, e => by cases e
  | .lst _ :: _, _, e => by cases e
  | .ty _ :: _, _, e => by cases e
  | .ins _ _ _ :: _, _, e => by cases e
  | .dct _ _ :: _, _, e => by cases e
  | .scr _ :: _, _, e => by cases e
  | .exc _ _ _ :: _, _, e => by cases e
  | .fn _ :: _, _, e => by cases e
theorem intsD_ofMap : ∀ r : List Int, intsD (r.map .int) = some r
  | [] => rfl
  | x :: r => by
    show (intsD (r.map .int)).map _ = _
    rw [intsD_ofMap r]
    rfl
theorem row_dp {A : AP} {H : Hp} {r : List Int} {v : V} (h : RepB P A H (rowT r) v) : Dp P.K H v (rowP r) :=
  rep_dp (by show (toPys _).map PyData.tuple = _; rw [ints_toPys (intsD_ofMap r)]; rfl) h
theorem rows_rep {A : AP} {H : Hp} : ∀ {l : List D} {rs : List (List Int)} {us : List V}, rowsD l = some rs → RepVs P A H l us → ∃ bs : List (V × List Int), us = bs.map (·.1) ∧ bs.map (·.2) = rs ∧ ∀ b ∈ bs, RepV P A H (rowT b.2) b.1 ∧ b.2 ≠ []
  | [], _, _, e, h => by cases e; unfold RepVs at h; subst h; exact ⟨[], rfl, rfl, fun _ z => nomatch z⟩
  | .tup l :: r, rs, us, e, h => by
    have e : ((intsD l).bind fun x => if x = [] then none else (rowsD r).map (x :: ·)) = some rs := e
    cases q : intsD l with
    | none => rw [q] at e; cases e
    | some x =>
      rw [q] at e
      have e : (if x = [] then none else (rowsD r).map (x :: ·)) = some rs := e
      split at e
      · cases e
      · rename_i hx
        cases q2 : rowsD r with
        | none => rw [q2] at e; cases e
        | some rs2 =>
          rw [q2] at e; cases e
          unfold RepVs at h
          obtain ⟨v, us2, rfl, h1, h2⟩ := h
          obtain ⟨bs, e1, e2, hb⟩ := rows_rep q2 h2
          refine ⟨(v, x) :: bs, by rw [e1]; rfl, by rw [List.map_cons, e2], fun b hb' => ?_⟩
          rcases List.mem_cons.mp hb' with e | hb'
          · subst e; exact ⟨by show RepV P A H (.tup (x.map .int)) v; rw [← intsD_eq q]; exact h1, hx⟩
          · exact hb b hb'
  | .non :: _, _, _, e, _ => by cases e
  | .int _ :: _, _, _, e, _ => by cases e
  | .bl _ :: _, _, _, e, _ => by cases e
  | .str _ :: _, _, _, e, _ => by cases e
  | .lst _ :: _, _, _, e, _ => by cases e
  | .ty _ :: _, _, _, e, _ => by cases e
  | .ins _ _ _ :: _, _, _, e, _ => by cases e
  | .dct _ _ :: _, _, _, e, _ => by cases e
  | .scr _ :: _, _, _, e, _ => by cases e
  | .exc _ _ _ :: _, _, _, e, _ => by cases e
  | .fn _ :: _, _, _, e, _ => by cases e
theorem rowsD_len : ∀ {l : List D} {rs : List (List Int)}, rowsD l = some rs → l.length = rs.length
  | [], _, e => by cases e; rfl
  | .tup l :: r, rs, e => by
    have e : ((intsD l).bind fun x => if x = [] then none else (rowsD r).map (x :: ·)) = some rs := e
    cases q : intsD l with
    | none => rw [q] at e; cases e
    | some x =>
      rw [q] at e
      have e : (if x = [] then none else (rowsD r).map (x :: ·)) = some rs := e
      split at e
      · cases e
      · cases q2 : rowsD r with
        | none => rw [q2] at e; cases e
        | some rs2 => rw [q2] at e; cases e; rw [List.length_cons, List.length_cons, rowsD_len q2]
  | .non :: _, _, e => by cases e
  | .int _ :: _, _, e => by cases e
  | .bl _ :: _, _, e => by cases e
  | .str _ :: _, _, e => by cases e
  | .lst _ :: _, _, e => by cases e
  | .ty _ :: _, _, e => by cases e
  | .ins _ _ _ :: _, _, e => by cases e
  | .dct _ _ :: _, _, e => by cases e
  | .scr _ :: _, _, e => by cases e
  | .exc _ _ _ :: _, _, e => by cases e
  | .fn _ :: _, _, e => by cases e
theorem blt_ok {f : Blt} {ds : List D} {vs : List V} (L : Rel P O W H σ ρ) (h : ds.length = vs.length ∧ ∀ (i : Nat) d v, ds[i]? = some d → vs[i]? = some v → RepB P (Av O W) H d v) (e : bltD f ds = some r) (c : Cont P O σ ρ W H ρ r Q) : rBlt P.K f vs H Q := by
  have one : ∀ {d : D}, ds = [d] → ∃ v, vs = [v] ∧ RepB P (Av O W) H d v := fun {d} e => by
    subst e
    match vs, h with
    | [v], h => exact ⟨v, rfl, h.2 0 d v rfl rfl⟩
  have two : ∀ {d d' : D}, ds = [d, d'] → ∃ v u, vs = [v, u] ∧ RepB P (Av O W) H d v ∧ RepB P (Av O W) H d' u := fun {d d'} e => by
    subst e
    match vs, h with
    | [v, u], h => exact ⟨v, u, rfl, h.2 0 d v rfl rfl, h.2 1 d' u rfl rfl⟩
  have itm : ∀ {d : D} {ns : List Int} {v : V}, (itemsD d).bind intsD = some ns → RepB P (Av O W) H d v → ∃ a, v = .ref a ∧ SqA P.K H a (ns.map V.int) := fun {d ns v} e h => by
    cases q : itemsD d with
    | none => rw [q] at e; cases e
    | some l =>
      rw [q] at e
      obtain ⟨a, us, e1, h1, _, h2⟩ := repItems h q
      rw [repInts e h2] at h1
      exact ⟨a, e1, h1⟩
  cases f with
  | len =>
    match ds, e with
    | [d], e =>
      obtain ⟨v, rfl, hv⟩ := one rfl
      have cs : (∃ ks vs, d = .dct ks vs ∧ r = .v (.int ks.length)) ∨ ((itemsD d).map fun l => R.v (.int l.length)) = some r := by
        cases d with
        | dct ks vs => cases e; exact .inl ⟨ks, vs, rfl, rfl⟩
        | _ => exact .inr e
      clear e
      rcases cs with ⟨ks, us, rfl, rfl⟩ | e
      · obtain ⟨a, vs, rfl, h1, hl, h2⟩ := hv
        exact .inr ⟨a, _, rfl, h1, c.int L (by rw [List.length_zip, ← hl, Nat.min_self])⟩
      cases q : itemsD d with
      | none => rw [q] at e; cases e
      | some l =>
        rw [q] at e; cases e
        obtain ⟨a, us, rfl, h1, z, h2⟩ := repItems hv q
        exact .inl ⟨a, us, rfl, h1, c.int L (by rw [h2.length])⟩
  | abs =>
    match ds, e with
    | [.int i], e =>
      obtain ⟨v, rfl, hv⟩ := one rfl
      cases e
      exact ⟨i, by rw [repInt hv], c.int L rfl⟩
  | int =>
    match ds, e with
    | [.int i], e =>
      obtain ⟨v, rfl, hv⟩ := one rfl
      cases e
      exact .inl ⟨i, by rw [repInt hv], c.int L rfl⟩
    | [.bl i], e =>
      obtain ⟨v, rfl, hv⟩ := one rfl
      cases e
      exact .inr ⟨i, by rw [repBl hv], c.int L rfl⟩
  | list =>
    match ds, e with
    | [d], e =>
      obtain ⟨v, rfl, hv⟩ := one rfl
      simp only [bltD] at e
      cases q : itemsD d with
      | none => rw [q] at e; cases e
      | some l =>
        rw [q] at e; cases e
        obtain ⟨a, us, rfl, h1, z, h2⟩ := repItems hv q
        exact ⟨a, us, rfl, h1, fun p hp => c.lst L h2 z hp⟩
  | tuple =>
    match ds, e with
    | [d], e =>
      obtain ⟨v, rfl, hv⟩ := one rfl
      cases d with
      | lst l =>
        cases e
        obtain ⟨a, us, rfl, h1, z, h2⟩ := repLst hv
        exact ⟨a, us, rfl, .inl ⟨.inl (.inl h1), c.tup L h2 z⟩⟩
      | tup l =>
        cases e
        obtain ⟨a, us, rfl, h1, z, h2⟩ := repTup hv
        exact ⟨a, us, rfl, .inr ⟨h1.sqT, c.val L (by unfold RepV; exact ⟨a, us, rfl, h1, z, h2⟩)⟩⟩
      | _ => cases e
  | sum =>
    match ds, e with
    | [d], e =>
      obtain ⟨v, rfl, hv⟩ := one rfl
      have e : (((itemsD d).bind intsD).map fun ns => R.v (.int ns.sum)) = some r := e
      cases q : (itemsD d).bind intsD with
      | none => rw [q] at e; cases e
      | some ns =>
        rw [q] at e; cases e
        obtain ⟨a, rfl, h1⟩ := itm q hv
        exact ⟨a, ns, rfl, h1, c.int L rfl⟩
  | min =>
    match ds, e with
    | [d], e =>
      obtain ⟨v, rfl, hv⟩ := one rfl
      have e : (match (itemsD d).bind intsD with | some ns => (minI ns).map fun i => R.v (.int i) | none => bestG PySem.W.minD d) = some r := e
      cases q : (itemsD d).bind intsD with
      | none => rw [q] at e; exact .inr (bestG_ok L hv e c)
      | some ns =>
        rw [q] at e
        have e : ((minI ns).map fun i => R.v (.int i)) = some r := e
        cases q2 : minI ns with
        | none => rw [q2] at e; cases e
        | some m =>
          rw [q2] at e; cases e
          obtain ⟨a, rfl, h1⟩ := itm q hv
          obtain ⟨m1, m2⟩ := minI_spec q2
          exact .inl (.inl ⟨a, ns, rfl, h1, by cases ns with | nil => cases q2 | cons x r => exact Nat.zero_lt_succ _, fun k k1 k2 => c.int L (Int.le_antisymm (k2 m m1) (m2 k k1))⟩)
    | [x, y], e =>
      obtain ⟨v, u, rfl, hv, hu⟩ := two rfl
      cases x <;> cases y <;> first | (simp [bltD, mm2] at e; done) | skip
      cases e
      exact .inl (.inr ⟨_, _, by rw [repInt hv, repInt hu], c.int L rfl⟩)
  | max =>
    match ds, e with
    | [d], e =>
      obtain ⟨v, rfl, hv⟩ := one rfl
      have e : (match (itemsD d).bind intsD with | some ns => (maxI ns).map fun i => R.v (.int i) | none => bestG PySem.W.maxD d) = some r := e
      cases q : (itemsD d).bind intsD with
      | none => rw [q] at e; exact .inr (bestG_ok L hv e c)
      | some ns =>
        rw [q] at e
        have e : ((maxI ns).map fun i => R.v (.int i)) = some r := e
        cases q2 : maxI ns with
        | none => rw [q2] at e; cases e
        | some m =>
          rw [q2] at e; cases e
          obtain ⟨a, rfl, h1⟩ := itm q hv
          obtain ⟨m1, m2⟩ := maxI_spec q2
          exact .inl (.inl ⟨a, ns, rfl, h1, by cases ns with | nil => cases q2 | cons x r => exact Nat.zero_lt_succ _, fun k k1 k2 => c.int L (Int.le_antisymm (m2 k k1) (k2 m m1))⟩)
    | [x, y], e =>
      obtain ⟨v, u, rfl, hv, hu⟩ := two rfl
      cases x <;> cases y <;> first | (simp [bltD, mm2] at e; done) | skip
      cases e
      exact .inl (.inr ⟨_, _, by rw [repInt hv, repInt hu], c.int L rfl⟩)
  | repr =>
    match ds, e with
    | [d], e =>
      obtain ⟨v, rfl, hv⟩ := one rfl
      have e : (reprD d).map (fun s => R.v (.str s)) = some r := e
      cases q : reprD d with
      | none => rw [q] at e; cases e
      | some s =>
        rw [q] at e; cases e
        refine ⟨v, rfl, ?_⟩
        have cs : (∃ ks vs, d = .dct ks vs ∧ (ks = [] ∧ vs = []) ∧ s = (PyData.dict []).shown) ∨ ∃ x, toPy d = some x ∧ (x.showable = true ∧ x.depth ≤ 60 ∧ x.shown.length ≤ line) ∧ s = x.shown := by
          have gen : ((toPy d).bind fun x => if x.showable = true ∧ x.depth ≤ 60 ∧ x.shown.length ≤ line then some x.shown else none) = some s → ∃ x, toPy d = some x ∧ (x.showable = true ∧ x.depth ≤ 60 ∧ x.shown.length ≤ line) ∧ s = x.shown := fun q => by
            cases q2 : toPy d with
            | none => rw [q2] at q; cases q
            | some x =>
              rw [q2] at q
              have q : (if x.showable = true ∧ x.depth ≤ 60 ∧ x.shown.length ≤ line then some x.shown else none) = some s := q
              split at q
              · rename_i hz; cases q; exact ⟨x, rfl, hz, rfl⟩
              · cases q
          cases d with
          | dct ks vs =>
            have q : (if ks = [] ∧ vs = [] then some (PyData.dict []).shown else none) = some s := q
            split at q
            · rename_i hz; cases q; exact .inl ⟨ks, vs, rfl, hz, rfl⟩
            · cases q
          | _ => exact .inr (gen q)
        rcases cs with ⟨ks, vs, rfl, ⟨rfl, rfl⟩, rfl⟩ | ⟨x, q2, ⟨s1, s2, s3⟩, rfl⟩
        · obtain ⟨a, us, rfl, h1, hl, h2⟩ := hv
          exact .inr ⟨a, rfl, h1, c.val L (by unfold RepV; rfl)⟩
        · exact .inl ⟨x, rep_dp q2 hv, s1, s2, by rw [line_eq]; exact s3, c.val L (by unfold RepV; rfl)⟩
  | sorted =>
    match ds, e with
    | [d], e =>
      obtain ⟨v, rfl, hv⟩ := one rfl
      have e : sortD d = some r := e
      cases d with
      | dct ks vs =>
        have e : ((intKs ks).bind fun ns => if ns.length < 64 then some (R.o (.lst ((sortI ns).map .int))) else none) = some r := e
        cases q : intKs ks with
        | none => rw [q] at e; cases e
        | some ns =>
          rw [q] at e
          have e : (if ns.length < 64 then some (R.o (.lst ((sortI ns).map .int))) else none) = some r := e
          split at e
          · rename_i h64
            cases e
            obtain ⟨a, us, rfl, h1, hl, h2⟩ := hv
            refine .inr (.inr (.inl ⟨a, _, ns, rfl, .inl h1, ?_, h64, fun ns' p k1 k2 hp => ?_⟩))
            · rw [← intKs_eq q]
              exact List.map_fst_zip (by omega)
            · have e : ns' = sortI ns := sorted_unique (k1.trans (sortI_perm ns).symm) k2 (sortI_sorted ns)
              subst e
              exact c.lst L (.ofInts _) (Nat.le_trans (by rw [List.length_map, (sortI_perm ns).length_eq]; exact Nat.le_of_lt h64) (by decide)) hp
          · cases e
      | tup l =>
        have e : ((intsD l).map fun ns => R.o (.lst ((sortI ns).map .int))) = some r := e
        cases q : intsD l with
        | none => rw [q] at e; cases e
        | some ns =>
          rw [q] at e; cases e
          obtain ⟨a, us, rfl, h1, z, h2⟩ := repTup hv
          rw [repInts q h2] at h1
          refine .inr (.inl ⟨a, ns, rfl, h1.sqT, fun ns' p k1 k2 hp => ?_⟩)
          have e : ns' = sortI ns := sorted_unique (k1.trans (sortI_perm ns).symm) k2 (sortI_sorted ns)
          subst e
          exact c.lst L (.ofInts _) (by rw [List.length_map, (sortI_perm ns).length_eq, ← intsD_len q]; exact z) hp
      | lst l => ?_
      | _ => cases e
      cases q : intsD l with
      | none =>
        have e : (match intsD l with | some ns => some (R.o (.lst ((sortI ns).map .int))) | none => (rowsD l).map fun rs => R.o (.lst ((sortRows rs).map rowT))) = some r := e
        rw [q] at e
        have e : ((rowsD l).map fun rs => R.o (.lst ((sortRows rs).map rowT))) = some r := e
        cases q2 : rowsD l with
        | none => rw [q2] at e; cases e
        | some rs =>
          rw [q2] at e; cases e
          obtain ⟨a, us, rfl, h1, z, h2⟩ := repLst hv
          obtain ⟨bs, e1, e2, hb⟩ := rows_rep q2 h2
          refine .inr (.inr (.inr ⟨a, bs, rfl, by rw [← e1]; exact .inl (.inl h1), fun b hb' => ⟨row_dp (hb b hb').1.repB, (hb b hb').2⟩, fun p hp => ?_⟩))
          refine c.lst L ?_ (by rw [List.length_map, (sortRows_perm rs).length_eq, ← rowsD_len q2]; exact z) hp
          rw [← e2, rows_sorted]
          refine rows_reps fun b hb' => (hb b ((List.mergeSort_perm _ _).mem_iff.mp hb')).1
      | some ns =>
        have e : (match intsD l with | some ns => some (R.o (.lst ((sortI ns).map .int))) | none => (rowsD l).map fun rs => R.o (.lst ((sortRows rs).map rowT))) = some r := e
        rw [q] at e; cases e
        left
        obtain ⟨a, us, rfl, h1, z, h2⟩ := repLst hv
        rw [repInts q h2] at h1
        refine ⟨a, ns, rfl, .inl (.inl h1), fun ns' p k1 k2 hp => ?_⟩
        have e : ns' = sortI ns := sorted_unique (k1.trans (sortI_perm ns).symm) k2 (sortI_sorted ns)
        subst e
        exact c.lst L (.ofInts _) (by rw [List.length_map, (sortI_perm ns).length_eq, ← intsD_len q]; exact z) hp
  | str =>
    match ds, e with
    | [.int i], e =>
      obtain ⟨v, rfl, hv⟩ := one rfl
      have e : (if i.natAbs.log2 < 1920 then some (R.v (.str (toString i))) else none) = some r := e
      have := repInt hv
      subst this
      split at e
      · rename_i hz
        cases e
        exact ⟨i, rfl, hz, c.val L (by unfold RepV; rfl)⟩
      · cases e
  | all =>
    match ds, e with
    | [.lst l], e =>
      obtain ⟨v, rfl, hv⟩ := one rfl
      simp only [bltD] at e
      cases q : blsD l with
      | none => rw [q] at e; cases e
      | some bs =>
        rw [q] at e; cases e
        obtain ⟨a, us, rfl, h1, z, h2⟩ := repLst hv
        rw [repBls q h2] at h1
        exact ⟨a, bs, rfl, .inl (.inl h1), c.bl L rfl⟩
  | any =>
    match ds, e with
    | [.lst l], e =>
      obtain ⟨v, rfl, hv⟩ := one rfl
      simp only [bltD] at e
      cases q : blsD l with
      | none => rw [q] at e; cases e
      | some bs =>
        rw [q] at e; cases e
        obtain ⟨a, us, rfl, h1, z, h2⟩ := repLst hv
        rw [repBls q h2] at h1
        exact ⟨a, bs, rfl, .inl (.inl h1), c.bl L rfl⟩
  | isi =>
    match ds, e with
    | [d, .ty t], e =>
      obtain ⟨v, u, rfl, hv, hu⟩ := two rfl
      simp only [bltD, isiD] at e
      split at e
      · rename_i ht
        cases q : tyName d with
        | none => rw [q] at e; cases e
        | some n =>
          rw [q] at e; cases e
          have fin : ∀ {n : String}, n ∈ tyNames → tyName d = some n → TyX P.K H v (.type n) → rBlt P.K .isi [v, u] H Q := fun {m} hm q' ty => by
            rw [q] at q'; cases q'
            rw [repTy hu]
            exact ⟨v, .ty t, .type n, .type t, _, rfl, .ty t, ty, kit_ty (kit_at hm ht), c.bl L rfl⟩
          cases d with
          | non => have := repNon hv; subst this; exact fin (by decide) rfl (.base .non)
          | bl b => have := repBl hv; subst this; exact fin (by decide) rfl (.base (.bl b))
          | int b => have := repInt hv; subst this; exact fin (by decide) rfl (.base (.int b))
          | str b => have := repStr hv; subst this; exact fin (by decide) rfl (.base (.str b))
          | tup l =>
            obtain ⟨a, vs, rfl, h1, _⟩ := repTup hv
            refine fin (by decide) rfl ?_
            rcases h1 with ⟨o, h1, _⟩ | ⟨o, its, n, h1, h2, _⟩
            · exact .fTuple h1
            · exact .kTuple h1 h2
          | lst l =>
            obtain ⟨a, vs, rfl, h1, _⟩ := repLst hv
            exact fin (by decide) rfl (.base (.lst h1))
          | dct ks vs =>
            obtain ⟨a, us, rfl, h1, hl, h2⟩ := hv
            exact fin (by decide) rfl (.base (.dK h1))
          | _ => cases q
      · cases e
  | lenset =>
    match ds, e with
    | [.tup l], e =>
      obtain ⟨v, rfl, hv⟩ := one rfl
      simp only [bltD] at e
      cases q : intsD l with
      | none => rw [q] at e; cases e
      | some ns =>
        rw [q] at e
        have e : (if ns.length < 64 then some (R.v (.int (dedup ns).length)) else none) = some r := e
        by_cases hl : ns.length < 64
        · rw [if_pos hl] at e
          cases e
          obtain ⟨a, us, rfl, h1, z, h2⟩ := repTup hv
          rw [repInts q h2] at h1
          obtain ⟨d1, d2⟩ := dedup_spec ns
          exact ⟨a, ns, rfl, h1.sqT, hl, fun out o1 o2 => c.int L (by rw [nodup_len o1 d1 fun k => (o2 k).trans (d2 k).symm])⟩
        · rw [if_neg hl] at e
          cases e
theorem neg_ok {x d : D} {vx : V} (L : Rel P O W H σ ρ) (hx : RepB P (Av O W) H x vx) (e : negD x = some d) (c : Cont P O σ ρ W H ρ (.v d) Q) : rU (fun i => .int (-i)) vx H Q := by
  cases x with
  | int i => cases e; exact ⟨i, repInt hx, c.int L rfl⟩
  | _ => cases e
theorem getN_zip {f : Str} : ∀ {ns : List Str} {ds : List D} {vs : List V} {d : D}, getN f ns ds = some d → ns.length = vs.length → RepVs P A H ds vs → ∃ v, (ns.zip vs).lookup f = some v ∧ RepV P A H d v
  | n :: ns, x :: ds, vs, d, e, l, h => by
    obtain ⟨v, us, rfl, h1, h2⟩ := h.uncons
    unfold getN at e
    rw [List.zip_cons_cons, List.lookup_cons]
    split at e
    · rename_i hf
      cases e
      have hb : (f == n) = true := beq_iff_eq.mpr hf
      rw [hb]
      exact ⟨v, rfl, h1⟩
    · rename_i hf
      have hb : (f == n) = false := beq_eq_false_iff_ne.mpr hf
      rw [hb]
      exact getN_zip e (by simpa using l) h2
  | [], _, _, _, e, _, _ => by simp [getN] at e
  | _ :: _, [], _, _, e, _, _ => by simp [getN] at e
end
end Mi
set_option Elab.async false
set_option linter.all false
set_option maxRecDepth 100000
set_option maxHeartbeats 4000000
namespace Mi
open PySem PySem.Spec PyProof.Rows L2
inductive ArgsRep (P : TP) (A : AP) (H : Hp) : List Arg → List V → List Addr → Prop
  | nil : ArgsRep P A H [] [] []
  | fro {d : D} {v : V} {as : List Arg} {vs : List V} {ads : List Addr} : RepV P A H d v → ArgsRep P A H as vs ads → ArgsRep P A H ((false, d) :: as) (v :: vs) ads
  | own {d : D} {a : Addr} {as : List Arg} {vs : List V} {ads : List Addr} : OwnV P A H d a → ArgsRep P A H as vs ads → ArgsRep P A H ((true, d) :: as) (.ref a :: vs) (a :: ads)
inductive OutsRep (P : TP) (A : AP) (H : Hp) : List D → List Addr → Prop
  | nil : OutsRep P A H [] []
  | cons {d : D} {a : Addr} {ds : List D} {ads : List Addr} : OwnV P A H d a → OutsRep P A H ds ads → OutsRep P A H (d :: ds) (a :: ads)
abbrev InL (ads : List Addr) : AP := fun a => a ∈ ads
structure Ret (P : TP) (O : AP) (H : Hp) (ads : List Addr) (r : R) (outs : List D) (v : V) (H' : Hp) (W' : AP) : Prop where
  keep : ∀ a o, H a = some o → nT o → a ∉ ads → H' a = some o
  alive : ∀ a, H a ≠ none → H' a ≠ none
  new : ∀ a, W' a → a ∈ ads ∨ H a = none
  muts : ∀ a, W' a → ∃ o, H' a = some o ∧ isMut o = true
  adsW : ∀ a ∈ ads, W' a
  outR : OutsRep P (Av O W') H' outs ads
  val : match r with
    | .v d => RepV P (Av O W') H' d v
    | .o d => ∃ a, v = .ref a ∧ W' a ∧ a ∉ ads ∧ OwnV P (Av O W') H' d a
    | .b _ => False
  tabs : LamX.Tabs P.tabs H'
/-- behind an exception that left a def -/
structure XRet (P : TP) (H : Hp) (ads : List Addr) (x : Exc) (cls : Value) (d : Option Addr) (H' : Hp) : Prop where
  keep : ∀ a o, H a = some o → nT o → a ∉ ads → H' a = some o
  alive : ∀ a, H a ≠ none → H' a ≠ none
  tabs : LamX.Tabs P.tabs H'
  is : XIs P x cls d H'
/-- what a def promises: it does what the mirror says, or ends with the exception that it tells -/
def spec (P : TP) (Φ : Phi) (f : Nat) : Sp := fun vs H Q X => ∃ (O : AP) (as : List Arg) (ads : List Addr),
  ArgsRep P (Av O (InL ads)) H as vs ads ∧ ads.Nodup ∧ (∀ a ∈ ads, ¬ O a) ∧ (∀ a, O a → H a ≠ none) ∧ LamX.Tabs P.tabs H ∧ ((∃ (r : R) (outs : List D), Φ f as = some (r, outs) ∧ ∀ v H' W', Ret P O H ads r outs v H' W' → Q v H') ∨
    ∃ x : Exc, Φ (f + xb) as = some (.v (.exc x.C x.ns x.ds), []) ∧ ∀ cls d H', XRet P H ads x cls d H' → X cls d H')
theorem ArgsRep.length {P : TP} {A : AP} {H : Hp} {as : List Arg} {vs : List V} {ads : List Addr} (h : ArgsRep P A H as vs ads) : as.length = vs.length := by
  induction h with
  | nil => rfl
  | fro _ _ ih => simp [ih]
  | own _ _ ih => simp [ih]
theorem ArgsRep.kp {P : TP} {Wr A A' : AP} {H H' : Hp} (k : Kp Wr A A' H H') {as : List Arg} {vs : List V} {ads : List Addr} (h : ArgsRep P A H as vs ads) : (∀ a ∈ ads, ¬ Wr a) → ArgsRep P A' H' as vs ads := by
  induction h with
  | nil => exact fun _ => .nil
  | fro h1 _ ih => exact fun n => .fro (h1.kp k) (ih n)
  | own h1 _ ih => exact fun n => .own (h1.kp k (n _ List.mem_cons_self)) (ih fun a ha => n a (List.mem_cons_of_mem _ ha))
section
variable {P : TP} {O W W0 A : AP} {H H0 : Hp} {σ : L2.St} {ρ ρ0 : Env} {r : R} {Q : VK}
/-- slots whose owned things stand at these places -/
def SlA (σ : L2.St) (ρ : Env) : List Nat → List Addr → Prop
  | [], [] => True
  | i :: is, a :: as => σ[i]? = some (some (.ref a)) ∧ (∃ d, eget ρ i = some (true, d)) ∧ SlA σ ρ is as
  | _, _ => False
theorem SlA.mem : ∀ {is : List Nat} {as : List Addr} {a : Addr}, SlA σ ρ is as → a ∈ as → ∃ i ∈ is, σ[i]? = some (some (.ref a)) ∧ ∃ d, eget ρ i = some (true, d)
  | i :: is, b :: as, a, ⟨h1, h2, h3⟩, hm => by
    rcases List.mem_cons.mp hm with e | e
    · subst e; exact ⟨i, List.mem_cons_self, h1, h2⟩
    · obtain ⟨j, hj, q⟩ := SlA.mem h3 e
      exact ⟨j, List.mem_cons_of_mem _ hj, q⟩
  | [], [], _, _, hm => by cases hm
theorem SlA.at : ∀ {is : List Nat} {as : List Addr} {i : Nat}, SlA σ ρ is as → i ∈ is → ∃ a ∈ as, σ[i]? = some (some (.ref a)) ∧ ∃ d, eget ρ i = some (true, d)
  | j :: is, b :: as, i, ⟨h1, h2, h3⟩, hm => by
    rcases List.mem_cons.mp hm with e | e
    · subst e; exact ⟨b, List.mem_cons_self, h1, h2⟩
    · obtain ⟨a, ha, q⟩ := SlA.at h3 e
      exact ⟨a, List.mem_cons_of_mem _ ha, q⟩
  | [], [], _, _, hm => by cases hm
theorem SlA.nodup (L : Rel P O W H σ ρ) : ∀ {is : List Nat} {as : List Addr}, SlA σ ρ is as → is.Nodup → as.Nodup
  | i :: is, b :: as, ⟨h1, ⟨d, h2⟩, h3⟩, nd => by
    obtain ⟨n1, n2⟩ := List.nodup_cons.mp nd
    refine List.nodup_cons.mpr ⟨fun hm => ?_, SlA.nodup L h3 n2⟩
    obtain ⟨j, hj, e, d', e'⟩ := h3.mem hm
    have := L.inj i j b d d' h2 e' h1 e
    subst this
    exact n1 hj
  | [], [], _, _ => .nil
  | [], _ :: _, h, _ => h.elim
  | _ :: _, [], h, _ => h.elim
/-- the arguments as a def takes them; T: what the caller lets go or lends -/
theorem takeArgs_ok : ∀ {rs : List R} {vs : List V} {io : List Bool} {as : List Arg} {ios ls : List Nat}, Rel P O W H σ ρ → RepRs P O W H σ ρ rs vs → takeArgs ρ rs io = some (as, ios, ls) →
    ∃ ads lads, SlA σ ρ ios ads ∧ SlA σ ρ ls lads ∧ ∀ T : AP, (∀ a ∈ lads, T a) → (∀ a ∈ tmps rs vs, T a) → ArgsRep P (fun a => Av O W a ∧ ¬ T a) H as vs ads
  | [], vs, [], as, ios, ls, L, h, e => by
    have h : vs = [] := h
    subst h
    cases e
    exact ⟨[], [], trivial, trivial, fun T _ _ => .nil⟩
  | r :: rs, _, m :: ms, as, ios, ls, L, ⟨v, us, e0, h1, h2⟩, e => by
    subst e0
    unfold takeArgs at e
    cases q : takeArgs ρ rs ms with
    | none => rw [q] at e; cases e
    | some x =>
      obtain ⟨as2, ios2, ls2⟩ := x
      rw [q] at e
      obtain ⟨ads, lads, s1, s2, k⟩ := takeArgs_ok L h2 q
      have less : ∀ T : AP, Kp (fun _ => False) (Av O W) (fun a => Av O W a ∧ ¬ T a) H H := fun T => Kp.less fun a z => z.1
      cases r with
      | v d =>
        cases m with
        | true => cases e
        | false =>
          cases e
          refine ⟨ads, lads, s1, s2, fun T t1 t2 => .fro ?_ (k T t1 t2)⟩
          exact RepV.kp (less T) (show RepV P (Av O W) H d v from h1)
      | o d =>
        obtain ⟨a, rfl, w, n, hq⟩ := h1
        cases m with
        | true => cases e
        | false =>
          cases e
          refine ⟨ads, lads, s1, s2, fun T t1 t2 => .fro ?_ (k T t1 fun a ha => t2 a (List.mem_cons_of_mem _ ha))⟩
          exact OwnV.rep (hq.kp (less T) fun z => z) fun z => z.2 (t2 a List.mem_cons_self)
      | b s =>
        obtain ⟨e1, x, hx⟩ := h1
        cases m with
        | true =>
          dsimp only at e
          rw [hx] at e
          obtain ⟨o, d⟩ := x
          cases o with
          | false => cases e
          | true =>
            cases e
            obtain ⟨a, e2, w, hq⟩ := L.own s d hx
            rw [e1] at e2; cases e2
            exact ⟨a :: ads, lads, ⟨e1, ⟨d, hx⟩, s1⟩, s2, fun T t1 t2 => .own (hq.kp (less T) fun z => z) (k T t1 t2)⟩
        | false =>
          dsimp only at e
          rw [hx] at e
          obtain ⟨o, d⟩ := x
          cases o with
          | false =>
            cases e
            obtain ⟨u, e2, hq⟩ := L.fro s d hx
            rw [e1] at e2; cases e2
            exact ⟨ads, lads, s1, s2, fun T t1 t2 => .fro (hq.kp (less T)) (k T t1 t2)⟩
          | true =>
            cases e
            obtain ⟨a, e2, w, hq⟩ := L.own s d hx
            rw [e1] at e2; cases e2
            exact ⟨ads, a :: lads, s1, ⟨e1, ⟨d, hx⟩, s2⟩, fun T t1 t2 => .fro (OwnV.rep (hq.kp (less T) fun z => z) fun z => z.2 (t1 a List.mem_cons_self)) (k T (fun b hb => t1 b (List.mem_cons_of_mem _ hb)) t2)⟩
  | [], _, _ :: _, _, _, _, _, _, e => by cases e
  | _ :: _, _, [], _, _, _, _, _, e => by cases e
theorem eget_set {ρ : Env} {i j : Nat} {x : Option (Bool × D)} : eget (ρ.set i x) j = if j = i ∧ i < ρ.length then x else eget ρ j := by
  unfold eget
  by_cases h : j = i
  · subst h
    by_cases hl : j < ρ.length
    · rw [List.getElem?_set_self hl, if_pos ⟨rfl, hl⟩]; rfl
    · rw [if_neg fun z => hl z.2, List.getElem?_eq_none (by simpa using hl), List.getElem?_eq_none (by simpa using hl)]
  · rw [List.getElem?_set_ne (Ne.symm h), if_neg fun z => h z.1]
theorem eget_lt {ρ : Env} {i : Nat} {x : Bool × D} (h : eget ρ i = some x) : i < ρ.length := by
  unfold eget at h
  cases q : ρ[i]? with
  | none => rw [q] at h; cases h
  | some y => exact (List.getElem?_eq_some_iff.mp q).1
theorem setOuts_len : ∀ {is : List Nat} {ds : List D} {ρ : Env}, (setOuts ρ is ds).length = ρ.length
  | [], _, _ => by unfold setOuts; rfl
  | _ :: _, [], _ => by unfold setOuts; rfl
  | i :: is, d :: ds, ρ => by unfold setOuts; rw [setOuts_len, List.length_set]
theorem setOuts_get : ∀ {is : List Nat} {ads : List Addr} {ds : List D} {ρ : Env} {A : AP} {H : Hp}, OutsRep P A H ds ads → SlA σ ρ is ads → is.Nodup → ∀ i,
    (i ∈ is ∧ ∃ d a, eget (setOuts ρ is ds) i = some (true, d) ∧ a ∈ ads ∧ σ[i]? = some (some (.ref a)) ∧ OwnV P A H d a) ∨ (i ∉ is ∧ eget (setOuts ρ is ds) i = eget ρ i)
  | [], _, _, ρ, A, H, ho, hs, nd, i => by
    refine .inr ⟨by simp, ?_⟩
    unfold setOuts; rfl
  | j :: is, b :: ads, d :: ds, ρ, A, H, .cons h1 h2, ⟨e1, ⟨d0, e2⟩, e3⟩, nd, i => by
    obtain ⟨n1, n2⟩ := List.nodup_cons.mp nd
    have hs2 : ∀ {is : List Nat} {ads : List Addr}, j ∉ is → SlA σ ρ is ads → SlA σ (ρ.set j (some (true, d))) is ads := by
      intro is
      induction is with
      | nil => intro ads _ h; cases ads with | nil => trivial | cons _ _ => exact h.elim
      | cons k is ih =>
        intro ads hn h
        cases ads with
        | nil => exact h.elim
        | cons a ads =>
          obtain ⟨f1, ⟨x, f2⟩, f3⟩ := h
          refine ⟨f1, ⟨x, ?_⟩, ih (fun z => hn (List.mem_cons_of_mem _ z)) f3⟩
          rw [eget_set, if_neg (fun (z : k = j ∧ j < ρ.length) => hn (z.1 ▸ List.mem_cons_self))]
          exact f2
    unfold setOuts
    rcases setOuts_get h2 (hs2 n1 e3) n2 i with ⟨m, x, a, g1, g2, g3, g4⟩ | ⟨m, g⟩
    · exact .inl ⟨List.mem_cons_of_mem _ m, x, a, g1, List.mem_cons_of_mem _ g2, g3, g4⟩
    · by_cases hij : i = j
      · subst hij
        refine .inl ⟨List.mem_cons_self, d, b, ?_, List.mem_cons_self, e1, h1⟩
        rw [g, eget_set, if_pos ⟨rfl, eget_lt e2⟩]
      · refine .inr ⟨fun z => (List.mem_cons.mp z).elim hij m, ?_⟩
        rw [g, eget_set, if_neg fun z => hij z.1]
theorem lose_len : ∀ {is : List Nat} {ρ : Env}, (lose ρ is).length = ρ.length
  | [], _ => by unfold lose; rfl
  | i :: is, ρ => by
    unfold lose
    split
    · rw [lose_len, List.length_set]
    · exact lose_len
theorem lose_get : ∀ {is : List Nat} {ρ : Env} (i : Nat), eget (lose ρ is) i = if i ∈ is then (eget ρ i).map fun x => (false, x.2) else eget ρ i
  | [], ρ, i => by unfold lose; simp
  | j :: is, ρ, i => by
    unfold lose
    cases q : eget ρ j with
    | none =>
      dsimp only
      rw [lose_get i]
      by_cases h : i = j
      · subst h; rw [q]; simp
      · simp [h]
    | some x =>
      obtain ⟨o, d⟩ := x
      dsimp only
      rw [lose_get i, eget_set]
      by_cases h : i = j
      · subst h
        rw [if_pos (⟨rfl, eget_lt q⟩ : i = i ∧ i < ρ.length), q, if_pos (List.mem_cons_self : i ∈ i :: is)]
        simp
      · simp [h]
theorem OutsRep.kp {Wr A A' : AP} {H H' : Hp} (k : Kp Wr A A' H H') : ∀ {ds : List D} {ads : List Addr}, (∀ a ∈ ads, ¬ Wr a) → OutsRep P A H ds ads → OutsRep P A' H' ds ads
  | _, _, _, .nil => .nil
  | _, _, n, .cons h1 h2 => .cons (h1.kp k (n _ List.mem_cons_self)) (OutsRep.kp k (fun a ha => n a (List.mem_cons_of_mem _ ha)) h2)
theorem OwnV.still {A A' : AP} {d : D} {a : Addr} (s : stillC d = true) (h : OwnV P A H d a) : OwnV P A' H d a := by
  cases d with
  | lst ds => obtain ⟨vs, e, z, r⟩ := h; exact ⟨vs, e, z, RepVs.still s r⟩
  | ins C ns ds => obtain ⟨dx, vs, e, l, r⟩ := h; exact ⟨dx, vs, e, l, RepVs.still s r⟩
  | dct ks ds => obtain ⟨vs, e, l, r⟩ := h; exact ⟨vs, e, l, RepVs.still s r⟩
  | _ => exact (show False from h).elim
theorem OutsRep.still {A A' : AP} : ∀ {ds : List D} {ads : List Addr}, ds.all stillC = true → OutsRep P A H ds ads → OutsRep P A' H ds ads
  | _, _, _, .nil => .nil
  | _, _, s, .cons h1 h2 => by
    rw [List.all_cons, Bool.and_eq_true] at s
    exact .cons (h1.still s.1) (OutsRep.still s.2 h2)
theorem OutsRep.len {A : AP} : ∀ {ds : List D} {ads : List Addr}, OutsRep P A H ds ads → ds.length = ads.length
  | _, _, .nil => rfl
  | _, _, .cons _ h => by simp [OutsRep.len h]
/-- a call of a def, its promise kept -/
theorem call_ok {Gm : Cfg} {Φ : Phi} {f : Nat} {rs : List R} {vs : List V} {ρ' : Env} {Hs : Hp} (L : Rel P O W H σ ρ) (h : RepRs P O W H σ ρ rs vs) (nd : (tmps rs vs).Nodup) (hs : ∀ a ∈ tmps rs vs, Hs a = none) (hal : ∀ a, Hs a ≠ none → H a ≠ none)
    (e : callF Gm Φ f rs ρ = some (r, ρ')) {W0 : AP} {ρ0 : Env} (st : Step σ ρ0 W0 Hs ρ W H) (L0 : Rel P O W0 Hs σ ρ0) (c : Cont P O σ ρ0 W0 Hs ρ' r Q) {X : XK} : spec P Φ f vs H Q X := by
  unfold callF at e
  cases q1 : Gm.io f with
  | none => rw [q1] at e; cases e
  | some io =>
    rw [q1] at e
    dsimp only at e
    cases q2 : takeArgs ρ rs io with
    | none => rw [q2] at e; cases e
    | some x =>
      obtain ⟨as, ios, ls⟩ := x
      rw [q2] at e
      dsimp only at e
      split at e
      · rename_i hnd
        cases q3 : Φ f as with
        | none => rw [q3] at e; cases e
        | some y =>
          obtain ⟨r1, outs⟩ := y
          rw [q3] at e
          dsimp only at e
          split at e
          · rename_i hol
            obtain ⟨ads, lads, s1, s2, k⟩ := takeArgs_ok L h q2
            obtain ⟨nd1, nd2, nd3⟩ := List.nodup_append.mp hnd
            -- what is lent and let go
            let T : AP := fun a => a ∈ lads ∨ a ∈ tmps rs vs
            have kA := k T (fun a ha => .inl ha) fun a ha => .inr ha
            have ownAds : ∀ a ∈ ads, OwnA σ ρ a := fun a ha => by
              obtain ⟨i, _, e1, d, e2⟩ := s1.mem ha
              exact ⟨i, d, e2, e1⟩
            have ownL : ∀ a ∈ lads, OwnA σ ρ a := fun a ha => by
              obtain ⟨i, _, e1, d, e2⟩ := s2.mem ha
              exact ⟨i, d, e2, e1⟩
            have tmpW : ∀ {rs : List R} {vs : List V}, RepRs P O W H σ ρ rs vs → ∀ a ∈ tmps rs vs, W a ∧ ¬ OwnA σ ρ a := by
              intro rs
              induction rs with
              | nil => intro vs h a ha; have h : vs = [] := h; subst h; cases ha
              | cons r rs ih =>
                rintro _ ⟨v, us, rfl, h1, h2⟩ a ha
                cases r with
                | o d =>
                  obtain ⟨b, rfl, w, n, _⟩ := h1
                  rcases List.mem_cons.mp ha with z | z
                  · subst z; exact ⟨w, n⟩
                  · exact ih h2 a z
                | v d => exact ih h2 a ha
                | b d => exact ih h2 a ha
            have adsNT : ∀ a ∈ ads, ¬ T a := fun a ha z => by
              rcases z with z | z
              · obtain ⟨i, hi, e1, d1, f1⟩ := s1.mem ha
                obtain ⟨j, hj, e2, d2, f2⟩ := s2.mem z
                have := L.inj i j a d1 d2 f1 f2 e1 e2
                subst this
                exact nd3 i hi i hj rfl
              · exact (tmpW h a z).2 (ownAds a ha)
            let O1 : AP := fun a => Av O W a ∧ a ∉ ads ∧ ¬ T a
            have avEq : ∀ a, Av O1 (InL ads) a → Av O W a ∧ ¬ T a := fun a z => z.elim (fun q => ⟨q.1, q.2.2⟩) fun q => ⟨.inr (L.ownW (ownAds a q)), adsNT a q⟩
            have kA2 : ArgsRep P (Av O1 (InL ads)) H as vs ads := by
              exact kA.kp (Kp.less fun a z => avEq a z) fun _ _ z => z
            refine ⟨O1, as, ads, kA2, s1.nodup L nd1, fun a ha (z : O1 a) => z.2.1 ha, fun a (z : O1 a) => z.1.elim (L.oal a) fun w => by
              obtain ⟨o, e, _⟩ := L.wmut a w
              rw [e]; exact (fun z => nomatch z), L.tabs, .inl ⟨r1, outs, q3, fun v H' W' rt => ?_⟩⟩
            -- behind the call
            let kept : Prop := (ls.isEmpty || (stillR r1 && outs.all stillC)) = true
            let T' : AP := fun a => a ∈ tmps rs vs ∨ (¬ kept ∧ a ∈ lads)
            let W2 : AP := fun a => (W a ∧ ¬ T' a) ∨ W' a
            have T'T : ∀ a, T' a → T a := fun a z => z.elim .inr fun q => .inl q.2
            have newH : ∀ a, W' a → a ∈ ads ∨ H a = none := rt.new
            have hnoT : ∀ a, W' a → ¬ T a := fun a wa z => by
              rcases newH a wa with q | q
              · exact adsNT a q z
              · rcases z with z | z
                · obtain ⟨o, e1, _⟩ := L.wmut a (L.ownW (ownL a z))
                  rw [q] at e1; cases e1
                · obtain ⟨o, e1, _⟩ := L.wmut a (tmpW h a z).1
                  rw [q] at e1; cases e1
            -- from the callee's care to ours
            have av2 : ∀ a, Av O W2 a → Av O1 W' a ∨ (kept ∧ a ∈ lads) := fun a z => by
              by_cases ha : a ∈ ads
              · exact .inl (.inr (rt.adsW a ha))
              · rcases z with z | ⟨z1, z2⟩ | z
                · refine .inl (.inl ⟨.inl z, ha, fun t => ?_⟩)
                  rcases t with t | t
                  · exact L.ow a (L.ownW (ownL a t)) z
                  · exact L.ow a (tmpW h a t).1 z
                · by_cases hl : a ∈ lads
                  · refine .inr ⟨Classical.byContradiction fun nk => z2 (.inr ⟨nk, hl⟩), hl⟩
                  · refine .inl (.inl ⟨.inr z1, ha, fun t => ?_⟩)
                    rcases t with t | t
                    · exact hl t
                    · exact z2 (.inl t)
                · exact .inl (.inr z)
            have kOut : ∀ {d : D} {a : Addr}, (kept → ls ≠ [] → stillC d = true) → OwnV P (Av O1 W') H' d a → OwnV P (Av O W2) H' d a := fun {d a} hst ho => by
              by_cases hk : kept ∧ ls ≠ []
              · exact ho.still (hst hk.1 hk.2)
              · refine ho.kp (Kp.less fun a z => (av2 a z).elim (fun q => q) fun q => ?_) fun z => z
                refine absurd ⟨q.1, ?_⟩ hk
                intro e0
                subst e0
                cases lads with
                | nil => cases q.2
                | cons _ _ => exact s2.elim
            have stills : kept → ls ≠ [] → stillR r1 = true ∧ outs.all stillC = true := fun hk hl => by
              have hk : (ls.isEmpty || (stillR r1 && outs.all stillC)) = true := hk
              cases ls with
              | nil => exact absurd rfl hl
              | cons x xs =>
                rw [List.isEmpty_cons, Bool.false_or, Bool.and_eq_true] at hk
                exact hk
            -- the frame's step, what was written being the lent-in things
            have kpC : Kp (InL ads) (Av O W) (Av O W2) H H' := by
              refine ⟨fun a o e nt n => rt.keep a o e nt n, fun a z => L.wmut a (L.ownW (ownAds a z)), fun a z => .inr (L.ownW (ownAds a z)), fun a z => ?_⟩
              rcases z with z | ⟨z, _⟩ | z
              · exact .inl (.inl z)
              · exact .inl (.inr z)
              · rcases newH a z with q | q
                · exact .inl (.inr (L.ownW (ownAds a q)))
                · exact .inr q
            -- the environment behind
            have hρ' : ρ' = if (ls.isEmpty || (stillR r1 && outs.all stillC)) = true then setOuts ρ ios outs else lose (setOuts ρ ios outs) ls := by
              have := congrArg (fun z => z.map (·.2)) e
              simp only [Option.map_some] at this
              cases this
              rfl
            have hr : r1 = r := by
              have := congrArg (fun z => z.map (·.1)) e
              simp only [Option.map_some] at this
              cases this
              rfl
            subst hr
            have outs2 : OutsRep P (Av O W2) H' outs ads := by
              have : ∀ {ds : List D} {bs : List Addr}, (kept → ls ≠ [] → ds.all stillC = true) → OutsRep P (Av O1 W') H' ds bs → OutsRep P (Av O W2) H' ds bs := by
                intro ds bs hst ho
                induction ho with
                | nil => exact .nil
                | cons h1 _ ih =>
                  refine .cons (kOut (fun k1 k2 => ?_) h1) (ih fun k1 k2 => ?_)
                  · have := hst k1 k2; rw [List.all_cons, Bool.and_eq_true] at this; exact this.1
                  · have := hst k1 k2; rw [List.all_cons, Bool.and_eq_true] at this; exact this.2
              exact this (fun k1 k2 => (stills k1 k2).2) rt.outR
            have getS := setOuts_get (σ := σ) outs2 s1 nd1
            have getF : ∀ i, (eget ρ' i = eget (setOuts ρ ios outs) i ∧ (i ∈ ls → kept)) ∨ (¬ kept ∧ i ∈ ls ∧ eget ρ' i = (eget ρ i).map fun x => (false, x.2)) := fun i => by
              rw [hρ']
              by_cases hk : (ls.isEmpty || (stillR r1 && outs.all stillC)) = true
              · rw [if_pos hk]; exact .inl ⟨rfl, fun _ => hk⟩
              · rw [if_neg hk, lose_get]
                by_cases hi : i ∈ ls
                · rw [if_pos hi]
                  refine .inr ⟨hk, hi, ?_⟩
                  rcases getS i with ⟨m, _⟩ | ⟨m, g⟩
                  · exact absurd rfl (nd3 i m i hi)
                  · rw [g]
                · rw [if_neg hi]; exact .inl ⟨rfl, fun z => absurd z hi⟩
            have lenρ : ρ'.length = ρ.length := by
              rw [hρ']
              split
              · exact setOuts_len
              · rw [lose_len, setOuts_len]
            have ownBack : ∀ a, OwnA σ ρ' a → OwnA σ ρ a := fun a ⟨i, d, e1, e2⟩ => by
              rcases getF i with ⟨g, _⟩ | ⟨_, _, g⟩
              · rw [g] at e1
                rcases getS i with ⟨m, x, b, g1, g2, g3, _⟩ | ⟨m, g1⟩
                · rw [e2] at g3; cases g3
                  exact ownAds _ g2
                · exact ⟨i, d, by rw [← g1]; exact e1, e2⟩
              · rw [g] at e1
                cases q : eget ρ i with
                | none => rw [q] at e1; cases e1
                | some x => rw [q] at e1; cases e1
            have L2' : Rel P O W2 H' σ ρ' := by
              refine ⟨lenρ.trans L.len, fun a z => ?_, fun a z => rt.alive a (L.oal a z), fun a z => ?_, fun i d e1 => ?_, fun i d e1 => ?_, fun i j a di dj e1 e2 => ?_, rt.tabs⟩
              · rcases z with ⟨z, _⟩ | z
                · by_cases ha : a ∈ ads
                  · exact rt.muts a (rt.adsW a ha)
                  · obtain ⟨o, e1, m⟩ := L.wmut a z
                    exact ⟨o, rt.keep a o e1 (nT_mut m) ha, m⟩
                · exact rt.muts a z
              · rcases z with ⟨z, _⟩ | z
                · exact L.ow a z
                · rcases newH a z with q | q
                  · exact L.ow a (L.ownW (ownAds a q))
                  · exact fun w => L.oal a w q
              · rcases getF i with ⟨g, _⟩ | ⟨nk, hi, g⟩
                · rw [g] at e1
                  rcases getS i with ⟨m, x, b, g1, _⟩ | ⟨m, g1⟩
                  · rw [g1] at e1; cases e1
                  · rw [g1] at e1
                    obtain ⟨v, e2, rv⟩ := L.fro i d e1
                    exact ⟨v, e2, rv.kp kpC⟩
                · rw [g] at e1
                  obtain ⟨a, ha, e2, d0, e3⟩ := s2.at hi
                  rw [e3] at e1
                  cases e1
                  obtain ⟨b, e4, w, ho⟩ := L.own i _ e3
                  rw [e2] at e4; cases e4
                  refine ⟨_, e2, OwnV.rep (ho.kp kpC fun z => ?_) fun z => ?_⟩
                  · exact adsNT a z (.inl ha)
                  · rcases z with z | ⟨_, z⟩ | z
                    · exact L.ow a w z
                    · exact z (.inr ⟨nk, ha⟩)
                    · exact hnoT a z (.inl ha)
              · rcases getF i with ⟨g, kl⟩ | ⟨_, _, g⟩
                · rw [g] at e1
                  rcases getS i with ⟨m, x, b, g1, g2, g3, g4⟩ | ⟨m, g1⟩
                  · rw [g1] at e1; cases e1
                    exact ⟨b, g3, .inr (rt.adsW b g2), g4⟩
                  · rw [g1] at e1
                    obtain ⟨a, e2, w, ho⟩ := L.own i d e1
                    have na : a ∉ ads := fun z => by
                      obtain ⟨j, hj, e3, d3, e4⟩ := s1.mem z
                      have := L.inj i j a d d3 e1 e4 e2 e3
                      subst this
                      exact m hj
                    refine ⟨a, e2, .inl ⟨w, fun z => ?_⟩, ho.kp kpC na⟩
                    rcases z with z | ⟨z1, z2⟩
                    · exact (tmpW h a z).2 ⟨i, d, e1, e2⟩
                    · obtain ⟨j, hj, e3, d3, e4⟩ := s2.mem z2
                      have := L.inj i j a d d3 e1 e4 e2 e3
                      subst this
                      exact z1 (kl hj)
                · rw [g] at e1
                  cases q : eget ρ i with
                  | none => rw [q] at e1; cases e1
                  | some x => rw [q] at e1; cases e1
              · intro e3 e4
                have toOwn : ∀ i d, eget ρ' i = some (true, d) → ∃ d', eget ρ i = some (true, d') := fun i d e1 => by
                  rcases getF i with ⟨g, _⟩ | ⟨_, _, g⟩
                  · rw [g] at e1
                    rcases getS i with ⟨m, _⟩ | ⟨m, g1⟩
                    · obtain ⟨_, _, _, d', e'⟩ := s1.at m
                      exact ⟨d', e'⟩
                    · exact ⟨d, by rw [← g1]; exact e1⟩
                  · rw [g] at e1
                    cases q : eget ρ i with
                    | none => rw [q] at e1; cases e1
                    | some x => rw [q] at e1; cases e1
                obtain ⟨d1, f1⟩ := toOwn i di e1
                obtain ⟨d2, f2⟩ := toOwn j dj e2
                exact L.inj i j a d1 d2 f1 f2 e3 e4
            have st2 : Step σ ρ0 W0 Hs ρ' W2 H' := by
              refine ⟨fun a o e1 nt n => ?_, fun a z => ?_, fun a z n => ?_, fun a z => st.own a (ownBack a z), fun i x e1 => ?_, fun a z => rt.alive a (st.alive a z)⟩
              · refine rt.keep a o (st.keep a o e1 nt n) nt fun z => n (st.own a (ownAds a z))
              · rcases z with ⟨z, _⟩ | z
                · exact st.new a z
                · rcases newH a z with q | q
                  · exact st.new a (L.ownW (ownAds a q))
                  · refine .inr (Classical.byContradiction fun w => st.alive a w q)
              · refine .inl ⟨st.stay a z n, fun t => ?_⟩
                rcases t with t | ⟨_, t⟩
                · obtain ⟨o, e1, _⟩ := L0.wmut a z
                  rw [hs a t] at e1; cases e1
                · exact n (st.own a (ownL a t))
              · obtain ⟨y, e2⟩ := st.there i x e1
                rcases getF i with ⟨g, _⟩ | ⟨_, _, g⟩
                · rcases getS i with ⟨m, z, b, g1, _⟩ | ⟨m, g1⟩
                  · exact ⟨_, by rw [g]; exact g1⟩
                  · exact ⟨y, by rw [g, g1]; exact e2⟩
                · exact ⟨_, by rw [g, e2]; rfl⟩
            have val := rt.val
            cases r1 with
            | b s => exact val.elim
            | v d =>
              refine c v H' W2 L2' st2 ?_ fun _ _ e => nomatch e
              have val : RepV P (Av O1 W') H' d v := val
              show RepV P (Av O W2) H' d v
              by_cases hk : kept ∧ ls ≠ []
              · exact RepV.still (stills hk.1 hk.2).1 val
              · refine val.kp (Kp.less fun a z => (av2 a z).elim (fun q => q) fun q => ?_)
                refine absurd ⟨q.1, ?_⟩ hk
                intro e0
                subst e0
                cases lads with
                | nil => cases q.2
                | cons _ _ => exact s2.elim
            | o d =>
              obtain ⟨a, e1, w, na, ho⟩ := val
              subst e1
              have fresh : H a = none := (newH a w).elim (fun z => absurd z na) fun z => z
              refine c (.ref a) H' W2 L2' st2 ⟨a, rfl, .inr w, fun z => ?_, kOut (fun k1 k2 => (stills k1 k2).1) ho⟩ fun _ b _ e => ?_
              · obtain ⟨o, e2, _⟩ := L.wmut a (L.ownW (ownBack a z))
                rw [fresh] at e2; cases e2
              · cases e
                exact Classical.byContradiction fun w => hal a w fresh
          · cases e
      · cases e
end
end Mi
set_option Elab.async false
set_option linter.all false
set_option maxRecDepth 100000
set_option maxHeartbeats 4000000
namespace Mi
open PySem PySem.Spec PyProof.Rows L2
section
variable {P : TP} {O W W0 W1 A : AP} {H H0 H1 : Hp} {σ σ1 : L2.St} {ρ ρ0 ρ1 : Env} {r : R} {Q : VK}
/-- an owned thing's content is changed -/
theorem Rel.write {i : Nat} {d d' : D} {a : Addr} {o' : HO} (L : Rel P O W H σ ρ) (hi : eget ρ i = some (true, d)) (hs : σ[i]? = some (some (.ref a))) (hm : isMut o' = true) (new : Kp (fun b => b = a) (Av O W) (Av O W) H (upd H a o') → OwnV P (Av O W) (upd H a o') d' a) :
    Rel P O W (upd H a o') σ (ρ.set i (some (true, d'))) ∧ Step σ ρ W H (ρ.set i (some (true, d'))) W (upd H a o') := by
  have oa : OwnA σ ρ a := ⟨i, d, hi, hs⟩
  have k : Kp (fun b => b = a) (Av O W) (Av O W) H (upd H a o') := ⟨fun b o e _ n => by rw [upd_ne n]; exact e, fun b z => z ▸ L.wmut a (L.ownW oa), fun b z => z ▸ .inr (L.ownW oa), fun b z => .inl z⟩
  have g : ∀ j, eget (ρ.set i (some (true, d'))) j = if j = i then some (true, d') else eget ρ j := fun j => by
    rw [eget_set]
    by_cases h : j = i
    · rw [if_pos ⟨h, eget_lt hi⟩, if_pos h]
    · rw [if_neg fun z => h z.1, if_neg h]
  have own : ∀ j x, eget (ρ.set i (some (true, d'))) j = some (true, x) → ∃ y, eget ρ j = some (true, y) := fun j x e => by
    rw [g] at e
    by_cases h : j = i
    · subst h; exact ⟨d, hi⟩
    · rw [if_neg h] at e; exact ⟨x, e⟩
  refine ⟨⟨by rw [List.length_set]; exact L.len, fun b z => ?_, fun b z => ?_, L.ow, fun j x e => ?_, fun j x e => ?_, fun j j' b x y e1 e2 => ?_, tabs_put L.tabs (L.wmut a (L.ownW oa)).choose_spec.1 (L.wmut a (L.ownW oa)).choose_spec.2⟩, ⟨fun b o e _ n => ?_, fun b z => .inl z, fun b z _ => z, fun b z => ?_, fun j x e => ?_, fun b z => ?_⟩⟩
  · by_cases h : b = a
    · subst h; exact ⟨o', upd_same, hm⟩
    · obtain ⟨o, e, m⟩ := L.wmut b z
      exact ⟨o, by rw [upd_ne h]; exact e, m⟩
  · by_cases h : b = a
    · subst h; rw [upd_same]; exact (fun z => nomatch z)
    · rw [upd_ne h]; exact L.oal b z
  · rw [g] at e
    by_cases h : j = i
    · rw [if_pos h] at e; cases e
    · rw [if_neg h] at e
      obtain ⟨v, e1, r⟩ := L.fro j x e
      exact ⟨v, e1, r.kp k⟩
  · by_cases h : j = i
    · subst h
      rw [g, if_pos rfl] at e
      cases e
      exact ⟨a, hs, L.ownW oa, new k⟩
    · rw [g, if_neg h] at e
      obtain ⟨b, e1, w, r⟩ := L.own j x e
      refine ⟨b, e1, w, r.kp k fun z => ?_⟩
      subst z
      exact h (L.inj j i b x d e hi e1 hs)
  · obtain ⟨x', f1⟩ := own j x e1
    obtain ⟨y', f2⟩ := own j' y e2
    exact L.inj j j' b x' y' f1 f2
  · rw [upd_ne (fun z : b = a => n (by rw [z]; exact oa))]; exact e
  · obtain ⟨j, x, e, q⟩ := z
    obtain ⟨y, f⟩ := own j x e
    exact ⟨j, y, f, q⟩
  · by_cases h : j = i
    · subst h; exact ⟨_, by rw [g, if_pos rfl]⟩
    · exact ⟨x, by rw [g, if_neg h]; exact e⟩
  · by_cases h : b = a
    · subst h; rw [upd_same]; exact (fun z => nomatch z)
    · rw [upd_ne h]; exact z
/-- slots that a target names -/
def tgHas : Tg → Nat → Prop
  | .var i, j => j = i
  | .nil, _ => False
  | .cons a r, j => tgHas a j ∨ tgHas r j
/-- slots outside T are as they were; those in T are frozen now, or as they were -/
structure Chg (T : Nat → Prop) (σ : L2.St) (ρ : Env) (σ1 : L2.St) (ρ1 : Env) : Prop where
  lenS : σ1.length = σ.length
  lenR : ρ1.length = ρ.length
  out : ∀ j, ¬ T j → σ1[j]? = σ[j]? ∧ eget ρ1 j = eget ρ j
  inn : ∀ j d, eget ρ1 j = some (true, d) → σ1[j]? = σ[j]? ∧ eget ρ j = some (true, d)
theorem Chg.refl {T : Nat → Prop} : Chg T σ ρ σ ρ := ⟨rfl, rfl, fun _ _ => ⟨rfl, rfl⟩, fun _ _ h => ⟨rfl, h⟩⟩
theorem Chg.trans {T : Nat → Prop} {σ2 : L2.St} {ρ2 : Env} (s : Chg T σ ρ σ1 ρ1) (t : Chg T σ1 ρ1 σ2 ρ2) : Chg T σ ρ σ2 ρ2 :=
  ⟨t.lenS.trans s.lenS, t.lenR.trans s.lenR, fun j h => ⟨(t.out j h).1.trans (s.out j h).1, (t.out j h).2.trans (s.out j h).2⟩, fun j d h =>
    let ⟨e1, h1⟩ := t.inn j d h
    let ⟨e2, h2⟩ := s.inn j d h1
    ⟨e1.trans e2, h2⟩⟩
theorem Chg.mono {T T' : Nat → Prop} (s : Chg T σ ρ σ1 ρ1) (h : ∀ j, T j → T' j) : Chg T' σ ρ σ1 ρ1 := ⟨s.lenS, s.lenR, fun j n => s.out j fun z => n (h j z), s.inn⟩
theorem Chg.ownA {T : Nat → Prop} (s : Chg T σ ρ σ1 ρ1) {a : Addr} (h : OwnA σ1 ρ1 a) : OwnA σ ρ a := by
  obtain ⟨i, d, e, q⟩ := h
  obtain ⟨e1, h1⟩ := s.inn i d e
  exact ⟨i, d, h1, by rw [← e1]; exact q⟩
/-- a slot is stored to: a frozen value -/
theorem Rel.store {i : Nat} {d : D} {v : V} (L : Rel P O W H σ ρ) (hi : i < ρ.length) (h : RepV P (Av O W) H d v) : Rel P O W H (σ.set i (some v)) (ρ.set i (some (false, d))) ∧ Chg (fun j => j = i) σ ρ (σ.set i (some v)) (ρ.set i (some (false, d))) := by
  have hs : i < σ.length := by rw [← L.len]; exact hi
  have g : ∀ j, eget (ρ.set i (some (false, d))) j = if j = i then some (false, d) else eget ρ j := fun j => by
    rw [eget_set]
    by_cases h : j = i
    · rw [if_pos ⟨h, hi⟩, if_pos h]
    · rw [if_neg fun z => h z.1, if_neg h]
  have s : ∀ j, j ≠ i → (σ.set i (some v))[j]? = σ[j]? := fun j h => List.getElem?_set_ne (Ne.symm h)
  have ow : ∀ j x, eget (ρ.set i (some (false, d))) j = some (true, x) → j ≠ i ∧ eget ρ j = some (true, x) := fun j x e => by
    rw [g] at e
    by_cases h : j = i
    · rw [if_pos h] at e; cases e
    · rw [if_neg h] at e; exact ⟨h, e⟩
  refine ⟨⟨by simp [L.len], L.wmut, L.oal, L.ow, fun j x e => ?_, fun j x e => ?_, fun j j' b x y e1 e2 f1 f2 => ?_, L.tabs⟩, ⟨by simp, by simp, fun j n => ⟨s j n, by rw [g, if_neg n]⟩, fun j x e => ⟨s j (ow j x e).1, (ow j x e).2⟩⟩⟩
  · by_cases hj : j = i
    · subst hj
      rw [g, if_pos rfl] at e
      cases e
      exact ⟨v, List.getElem?_set_self hs, h⟩
    · rw [g, if_neg hj] at e
      rw [s j hj]
      exact L.fro j x e
  · obtain ⟨n, e⟩ := ow j x e
    rw [s j n]
    exact L.own j x e
  · obtain ⟨n1, e1⟩ := ow j x e1
    obtain ⟨n2, e2⟩ := ow j' y e2
    rw [s j n1] at f1
    rw [s j' n2] at f2
    exact L.inj j j' b x y e1 e2 f1 f2
/-- .. a new thing of its own -/
theorem Rel.storeO {i : Nat} {d : D} {a : Addr} (L : Rel P O W H σ ρ) (hi : i < ρ.length) (w : W a) (n : ¬ OwnA σ ρ a) (h : OwnV P (Av O W) H d a) :
    Rel P O W H (σ.set i (some (.ref a))) (ρ.set i (some (true, d))) ∧ (∀ b, OwnA (σ.set i (some (.ref a))) (ρ.set i (some (true, d))) b → OwnA σ ρ b ∨ b = a) ∧
      (∀ j, j ≠ i → (σ.set i (some (V.ref a)))[j]? = σ[j]? ∧ eget (ρ.set i (some (true, d))) j = eget ρ j) := by
  have hs : i < σ.length := by rw [← L.len]; exact hi
  have g : ∀ j, eget (ρ.set i (some (true, d))) j = if j = i then some (true, d) else eget ρ j := fun j => by
    rw [eget_set]
    by_cases h : j = i
    · rw [if_pos ⟨h, hi⟩, if_pos h]
    · rw [if_neg fun z => h z.1, if_neg h]
  have s : ∀ j, j ≠ i → (σ.set i (some (V.ref a)))[j]? = σ[j]? := fun j h => List.getElem?_set_ne (Ne.symm h)
  refine ⟨⟨by simp [L.len], L.wmut, L.oal, L.ow, fun j x e => ?_, fun j x e => ?_, fun j j' b x y e1 e2 f1 f2 => ?_, L.tabs⟩, fun b hb => ?_, fun j hj => ⟨s j hj, by rw [g, if_neg hj]⟩⟩
  · by_cases hj : j = i
    · rw [g, if_pos hj] at e; cases e
    · rw [g, if_neg hj] at e
      rw [s j hj]
      exact L.fro j x e
  · by_cases hj : j = i
    · subst hj
      rw [g, if_pos rfl] at e
      cases e
      exact ⟨a, List.getElem?_set_self hs, w, h⟩
    · rw [g, if_neg hj] at e
      rw [s j hj]
      exact L.own j x e
  · by_cases hj : j = i
    · by_cases hj' : j' = i
      · rw [hj, hj']
      · subst hj
        rw [List.getElem?_set_self hs] at f1
        cases f1
        rw [g, if_neg hj'] at e2
        rw [s j' hj'] at f2
        exact absurd ⟨j', y, e2, f2⟩ n
    · by_cases hj' : j' = i
      · subst hj'
        rw [List.getElem?_set_self hs] at f2
        cases f2
        rw [g, if_neg hj] at e1
        rw [s j hj] at f1
        exact absurd ⟨j, x, e1, f1⟩ n
      · rw [g, if_neg hj] at e1
        rw [g, if_neg hj'] at e2
        rw [s j hj] at f1
        rw [s j' hj'] at f2
        exact L.inj j j' b x y e1 e2 f1 f2
  · obtain ⟨j, x, e, q⟩ := hb
    by_cases hj : j = i
    · subst hj
      rw [List.getElem?_set_self hs] at q
      cases q
      exact .inr rfl
    · rw [g, if_neg hj] at e
      rw [s j hj] at q
      exact .inl ⟨j, x, e, q⟩
theorem tgLen : ∀ {tg : Tg} {ds : List D} {ρ ρ1 : Env}, setTgs tg ds ρ = some ρ1 → ds.length = gLen tg
  | .var _, ds, _, _, e => by cases ds <;> cases e
  | .nil, ds, _, _, e => by cases ds <;> first | rfl | cases e
  | .cons a r, ds, ρ, ρ1, e => by
    cases ds with
    | nil => cases e
    | cons d ds =>
      have e : ((setTg a d ρ).bind fun ρ1 => setTgs r ds ρ1) = some ρ1 := e
      cases q1 : setTg a d ρ with
      | none => rw [q1] at e; cases e
      | some ρ2 =>
        rw [q1] at e
        rw [List.length_cons, tgLen (tg := r) (ds := ds) e]
        rfl
mutual
theorem tg_ok : ∀ {tg : Tg} {d : D} {v : V} {σ : L2.St} {ρ ρ1 : Env} {Qg : L2.St → Hp → Prop}, Rel P O W H σ ρ → RepV P (Av O W) H d v → setTg tg d ρ = some ρ1 →
    (∀ σ1, Rel P O W H σ1 ρ1 → Chg (tgHas tg) σ ρ σ1 ρ1 → Qg σ1 H) → tG P.K tg v σ H Qg
  | .var i, d, v, σ, ρ, ρ1, Qg, L, h, e, q => by
    unfold setTg at e
    split at e
    · rename_i hi
      cases e
      obtain ⟨L1, c1⟩ := L.store hi h
      exact q _ L1 c1
    · cases e
  | .nil, d, v, σ, ρ, ρ1, Qg, L, h, e, q => by
    cases d with
    | tup l =>
      cases l with
      | nil =>
        cases e
        obtain ⟨a, vs, rfl, ha, _, hr⟩ := repTup h.repB
        unfold RepVs at hr
        subst hr
        exact ⟨a, [], rfl, ha.sqT, rfl, rfl, q σ L .refl⟩
      | cons _ _ => cases e
    | _ => cases e
  | .cons a r, d, v, σ, ρ, ρ1, Qg, L, h, e, q => by
    cases d with
    | tup l =>
      cases l with
      | nil => cases e
      | cons d ds =>
        obtain ⟨p, vs, rfl, ha, _, hr⟩ := repTup h.repB
        have e : ((setTg a d ρ).bind fun ρ1 => setTgs r ds ρ1) = some ρ1 := e
        cases q1 : setTg a d ρ with
        | none => rw [q1] at e; cases e
        | some ρ2 =>
          rw [q1] at e
          have e : setTgs r ds ρ2 = some ρ1 := e
          obtain ⟨u, us, rfl, h1, h2⟩ := hr.uncons
          refine ⟨p, u :: us, rfl, ha.sqT, ?_, u, us, rfl, tg_ok L h1 q1 fun σ2 L2' c2 => tgs_ok L2' h2 e fun σ3 L3 c3 => q σ3 L3 ((c2.mono fun j z => .inl z).trans (c3.mono fun j z => .inr z))⟩
          rw [List.length_cons, ← h2.length, tgLen e]
    | _ => cases e
theorem tgs_ok : ∀ {tg : Tg} {ds : List D} {vs : List V} {σ : L2.St} {ρ ρ1 : Env} {Qg : L2.St → Hp → Prop}, Rel P O W H σ ρ → RepVs P (Av O W) H ds vs → setTgs tg ds ρ = some ρ1 →
    (∀ σ1, Rel P O W H σ1 ρ1 → Chg (tgHas tg) σ ρ σ1 ρ1 → Qg σ1 H) → tGs P.K tg vs σ H Qg
  | .var _, ds, _, _, _, _, _, _, _, e, _ => by cases ds <;> cases e
  | .nil, ds, vs, σ, ρ, ρ1, Qg, L, h, e, q => by
    cases ds with
    | nil =>
      cases e
      unfold RepVs at h
      exact ⟨h, q σ L .refl⟩
    | cons _ _ => cases e
  | .cons a r, ds, vs, σ, ρ, ρ1, Qg, L, h, e, q => by
    cases ds with
    | nil => cases e
    | cons d ds =>
      have e : ((setTg a d ρ).bind fun ρ1 => setTgs r ds ρ1) = some ρ1 := e
      cases q1 : setTg a d ρ with
      | none => rw [q1] at e; cases e
      | some ρ2 =>
        rw [q1] at e
        have e : setTgs r ds ρ2 = some ρ1 := e
        obtain ⟨u, us, rfl, h1, h2⟩ := h.uncons
        exact ⟨u, us, rfl, tg_ok L h1 q1 fun σ2 L2' c2 => tgs_ok L2' h2 e fun σ3 L3 c3 => q σ3 L3 ((c2.mono fun j z => .inl z).trans (c3.mono fun j z => .inr z))⟩
end
end
end Mi
set_option Elab.async false
set_option linter.all false
set_option maxRecDepth 100000
set_option maxHeartbeats 4000000
namespace Mi
open PySem PySem.Spec PyProof.Rows L2
def YOk (P : TP) (A : AP) (H H2 : Hp) (x : V) (H3 : Hp) : Itm → Prop
  | .one d => H3 = H2 ∧ ∀ A2 : AP, (∀ a, A2 a → A a ∨ H a = none) → RepV P A2 H2 d x
  | .two d e => ∃ p u v, x = .ref p ∧ H2 p = none ∧ H3 = upd H2 p (.tup [u, v]) ∧ ∀ A2 : AP, (∀ a, A2 a → A a ∨ H a = none) → RepV P A2 H2 d u ∧ RepV P A2 H2 e v
/-- all but what is owned, and some changing things that are avoided, stay -/
def Stays (O : AP) (σ : L2.St) (ρ : Env) (H H2 : Hp) : Prop := ∃ B : AP, (∀ a, B a → O a ∧ ∃ o, H a = some o ∧ isMut o = true) ∧ ∀ a o, H a = some o → nT o → ¬ OwnA σ ρ a → ¬ B a → H2 a = some o
theorem Stays.of {O : AP} {σ : L2.St} {ρ : Env} {H H2 : Hp} (h : ∀ a o, H a = some o → nT o → ¬ OwnA σ ρ a → H2 a = some o) : Stays O σ ρ H H2 := ⟨fun _ => False, fun _ z => z.elim, fun a o e nt n _ => h a o e nt n⟩
structure WOk (P : TP) (O : AP) (σ : L2.St) (ρ : Env) (W : AP) (H : Hp) (J : L2.It) (its : List Itm) : Prop where
  len : its.length ≤ line
  ex : ∃ (G : Hp → Prop) (Y : Nat → Hp → V → Hp → Prop), Walk J its.length G Y ∧ (∀ H2, Stays O σ ρ H H2 → G H2) ∧
    ∀ i H2 x H3 it, its[i]? = some it → Stays O σ ρ H H2 → Y i H2 x H3 → YOk P (Av O W) H H2 x H3 it
section
variable {P : TP} {O W W0 W1 A : AP} {H H0 H1 : Hp} {σ σ1 : L2.St} {ρ ρ0 ρ1 : Env} {r : R} {Q : VK}
theorem Rel.kpS (L : Rel P O W H σ ρ) {H2 : Hp} {A2 : AP} (s : Stays O σ ρ H H2) (h : ∀ a, A2 a → Av O W a ∨ H a = none) : Kp (fun a => OwnA σ ρ a ∨ s.choose a) (Av O W) A2 H H2 :=
  ⟨fun a o e nt n => s.choose_spec.2 a o e nt (fun z => n (.inl z)) fun z => n (.inr z), fun a z => z.elim (fun z => L.wmut a (L.ownW z)) fun z => (s.choose_spec.1 a z).2, fun a z => z.elim (fun z => .inr (L.ownW z)) fun z => .inl (s.choose_spec.1 a z).1, h⟩
theorem Stays.at {H2 : Hp} (s : Stays O σ ρ H H2) {a : Addr} {o : HO} (e : H a = some o) (nt : nT o) (n : ¬ OwnA σ ρ a) (no : ¬ O a) : H2 a = some o := let ⟨_, h1, h2⟩ := s; h2 a o e nt n fun z => no (h1 a z).1
theorem wok_seq {l : List D} {vs : List V} {a : Addr} (L : Rel P O W H σ ρ) (hl : l.length ≤ line) (hr : RepVs P (Av O W) H l vs) (ha : (H a = some (.lst vs) ∧ ¬ Av O W a) ∨ TupAt P.K H a vs) :
    (((∃ xs, SqL P.K H a xs) ∧ WOk P O σ ρ W H (Itl P.K a) (l.map .one)) ∨ ((∃ xs, SqT P.K H a xs) ∧ WOk P O σ ρ W H (Itt P.K a) (l.map .one))) := by
  have el : (l.map Itm.one).length = vs.length := by rw [List.length_map]; exact hr.length
  have yok : ∀ i H2 x H3 it, (l.map Itm.one)[i]? = some it → Stays O σ ρ H H2 → YAt vs i H2 x H3 → YOk P (Av O W) H H2 x H3 it := fun i H2 x H3 it e s y => by
    rw [List.getElem?_map] at e
    cases q : l[i]? with
    | none => rw [q] at e; cases e
    | some d =>
      rw [q] at e; cases e
      obtain ⟨v, hv, rv⟩ := hr.get q
      have hx : x = v := by
        have := y.2
        rw [hv] at this
        exact (Option.some.inj this).symm
      subst hx
      exact ⟨y.1, fun A2 h2 => rv.kp (L.kpS s h2)⟩
  rcases ha with ⟨ha, na⟩ | ha
  · refine .inl ⟨⟨vs, .inl (.inl ha)⟩, by rw [List.length_map]; exact hl, fun H2 => SqL P.K H2 a vs, YAt vs, by rw [el]; exact walk_list, fun H2 s => .inl (.inl (s.at ha nT_lst (fun z => na (.inr (L.ownW z))) fun z => na (.inl z))), yok⟩
  · refine .inr ⟨⟨vs, ha.sqT⟩, by rw [List.length_map]; exact hl, fun H2 => SqT P.K H2 a vs, YAt vs, by rw [el]; exact walk_tup, fun H2 s => ((L.kpS s fun a z => .inl z).tupAt ha).sqT, yok⟩
theorem wok_range {lo : Int} {n : Nat} (hn : n ≤ line) : WOk P O σ ρ W H (Itr lo n) (((List.range n).map fun (i : Nat) => D.int (lo + i)).map .one) := by
  have el : (((List.range n).map fun (i : Nat) => D.int (lo + i)).map Itm.one).length = n := by simp
  refine ⟨by rw [el]; exact hn, fun _ => True, YFn fun i => .int (lo + i), by rw [el]; exact walk_range, fun _ _ => trivial, fun i H2 x H3 it e s y => ?_⟩
  rw [List.getElem?_map, List.getElem?_map] at e
  cases q : (List.range n)[i]? with
  | none => rw [q] at e; cases e
  | some k =>
    rw [q] at e; cases e
    have hk : k = i := by
      rw [List.getElem?_range (by have := (List.getElem?_eq_some_iff.mp q).1; simpa using this)] at q
      exact (Option.some.inj q).symm
    subst hk
    refine ⟨y.1, fun A2 _ => ?_⟩
    unfold RepV
    exact y.2
theorem walk_zipG {K : PySem.W.Frag} {t u : Bool} {a b : Addr} {xs ys : List V} {n : Nat} (hn : n = min xs.length ys.length) : Walk (Zg.ItG K t u a b) n (fun H => Zg.SqOf K t H a xs ∧ Zg.SqOf K u H b ys) (YPair (fun i => xs[i]?) (fun i => ys[i]?)) := by
  subst hn
  refine ⟨fun i _ hi q => ?_, fun _ q => ⟨xs, ys, q.1, q.2, by omega⟩, fun i H v H' _ q y => ?_⟩
  · have h1 : i < xs.length := by omega
    have h2 : i < ys.length := by omega
    exact ⟨xs, ys, xs[i], ys[i], q.1, q.2, by simp [h1], by simp [h2]⟩
  · obtain ⟨T, x, z, h1, h2, h3, h4, h5⟩ := y
    exact ⟨T, x, z, h1, h2, h3, h4 xs q.1, h5 ys q.2⟩
/-- a list or a tuple of data, as a walk takes it -/
theorem seq_of (L : Rel P O W H σ ρ) {d : D} {l : List D} {v : V} (e : itemsD d = some l) (r : RepV P (Av O W) H d v) : ∃ p vs t, v = .ref p ∧ l.length ≤ line ∧ RepVs P (Av O W) H l vs ∧ Zg.SqOf P.K t H p vs ∧ ∀ H3, Stays O σ ρ H H3 → Zg.SqOf P.K t H3 p vs := by
  cases d with
  | lst x =>
    cases e
    unfold RepV at r
    obtain ⟨p, vs, rfl, hp, np, hl, hr⟩ := r
    exact ⟨p, vs, false, rfl, hl, hr, .inl (.inl hp), fun H3 s => .inl (.inl (s.at hp nT_lst (fun z => np (.inr (L.ownW z))) fun z => np (.inl z)))⟩
  | tup x =>
    cases e
    unfold RepV at r
    obtain ⟨p, vs, rfl, hp, hl, hr⟩ := r
    exact ⟨p, vs, true, rfl, hl, hr, hp.sqT, fun H3 s => ((L.kpS s fun a z => .inl z).tupAt hp).sqT⟩
  | _ => cases e
theorem zip_yok {l m : List D} {vs us : List V} (L : Rel P O W H σ ρ) (hr : RepVs P (Av O W) H l vs) (hq : RepVs P (Av O W) H m us) :
    ∀ i H2 x H3 it, (List.zipWith Itm.two l m)[i]? = some it → Stays O σ ρ H H2 → YPair (fun i => vs[i]?) (fun i => us[i]?) i H2 x H3 → YOk P (Av O W) H H2 x H3 it := fun i H2 x H3 it e s y => by
  rw [List.getElem?_zipWith] at e
  cases q1 : l[i]? with
  | none => rw [q1] at e; simp at e
  | some d =>
    cases q2 : m[i]? with
    | none => rw [q1, q2] at e; simp at e
    | some d' =>
      rw [q1, q2] at e
      simp at e
      subst e
      obtain ⟨v, hv, rv⟩ := hr.get q1
      obtain ⟨u, hu, ru⟩ := hq.get q2
      obtain ⟨T, x1, x2, h1, h2, h3, h4, h5⟩ := y
      have e1 : x1 = v := Option.some.inj (h4.symm.trans hv)
      have e2 : x2 = u := Option.some.inj (h5.symm.trans hu)
      subst e1 e2
      exact ⟨T, x1, x2, h1, h2, h3, fun A2 h => ⟨rv.kp (L.kpS s h), ru.kp (L.kpS s h)⟩⟩
theorem enumFrom_get : ∀ {l : List D} {k i : Nat}, (enumFrom k l)[i]? = (l[i]?).map fun d => Itm.two (.int (k + i : Nat)) d
  | [], _, _ => by simp [enumFrom]
  | d :: ds, k, 0 => by simp [enumFrom]
  | d :: ds, k, i + 1 => by
    rw [enumFrom, List.getElem?_cons_succ, List.getElem?_cons_succ, enumFrom_get]
    have : k + 1 + i = k + (i + 1) := by omega
    rw [this]
theorem enumFrom_len : ∀ {l : List D} {k : Nat}, (enumFrom k l).length = l.length
  | [], _ => rfl
  | d :: ds, k => by rw [enumFrom, List.length_cons, List.length_cons, enumFrom_len]
theorem wok_enum {l : List D} {vs : List V} {a : Addr} (L : Rel P O W H σ ρ) (hl : l.length ≤ line) (hr : RepVs P (Av O W) H l vs) (ha : H a = some (.lst vs)) (na : ¬ Av O W a) : WOk P O σ ρ W H (Ite P.K a) (enumFrom 0 l) := by
  refine ⟨by rw [enumFrom_len]; exact hl, fun H2 => SqL P.K H2 a vs, _, by rw [enumFrom_len, hr.length]; exact walk_enum, fun H2 s => .inl (.inl (s.at ha nT_lst (fun z => na (.inr (L.ownW z))) fun z => na (.inl z))), fun i H2 x H3 it e s y => ?_⟩
  rw [enumFrom_get] at e
  cases q : l[i]? with
  | none => rw [q] at e; cases e
  | some d =>
    rw [q] at e; cases e
    obtain ⟨v, hv, rv⟩ := hr.get q
    obtain ⟨T, x1, x2, h1, h2, h3, h4, h5⟩ := y
    have e1 : x1 = .int i := (Option.some.inj h4).symm
    have e2 : x2 = v := Option.some.inj (h5.symm.trans hv)
    subst e1 e2
    refine ⟨T, .int i, x2, h1, h2, h3, fun A2 h => ⟨?_, rv.kp (L.kpS s h)⟩⟩
    unfold RepV
    simp
theorem wok_enumT {l : List D} {vs : List V} {a : Addr} (L : Rel P O W H σ ρ) (hl : l.length ≤ line) (hr : RepVs P (Av O W) H l vs) (ha : TupAt P.K H a vs) : WOk P O σ ρ W H (IteT P.K a) (enumFrom 0 l) := by
  refine ⟨by rw [enumFrom_len]; exact hl, fun H2 => SqT P.K H2 a vs, _, by rw [enumFrom_len, hr.length]; exact walk_enumT, fun H2 s => ((L.kpS s fun a z => .inl z).tupAt ha).sqT, fun i H2 x H3 it e s y => ?_⟩
  rw [enumFrom_get] at e
  cases q : l[i]? with
  | none => rw [q] at e; cases e
  | some d =>
    rw [q] at e; cases e
    obtain ⟨v, hv, rv⟩ := hr.get q
    obtain ⟨T, x1, x2, h1, h2, h3, h4, h5⟩ := y
    have e1 : x1 = .int i := (Option.some.inj h4).symm
    have e2 : x2 = v := Option.some.inj (h5.symm.trans hv)
    subst e1 e2
    refine ⟨T, .int i, x2, h1, h2, h3, fun A2 h => ⟨?_, rv.kp (L.kpS s h)⟩⟩
    unfold RepV
    simp
/-- an item goes to its target -/
theorem itm_ok {tg : Tg} {it : Itm} {x : V} {H2 H3 : Hp} {B : AP} {Hs : Hp} {Qg : L2.St → Hp → Prop} (L : Rel P O W H2 σ ρ) (y : YOk P B Hs H2 x H3 it) (hb : ∀ a, Av O W a → B a ∨ Hs a = none) (e : setItm tg it ρ = some ρ1)
    (q : ∀ σ1, Rel P O W H3 σ1 ρ1 → Chg (tgHas tg) σ ρ σ1 ρ1 → Qg σ1 H3) : tG P.K tg x σ H3 Qg := by
  cases it with
  | one d =>
    obtain ⟨rfl, y⟩ := y
    exact tg_ok L (y _ hb) e q
  | two d d' =>
    obtain ⟨p, u, v, rfl, hp, rfl, y⟩ := y
    obtain ⟨y1, y2⟩ := y _ hb
    cases tg with
    | var i => cases e
    | nil => cases e
    | cons a r =>
      cases r with
      | var i => cases e
      | nil => cases e
      | cons b r =>
        cases r with
        | var i => cases e
        | cons _ _ => cases e
        | nil =>
          have e : (setTg a d ρ).bind (setTg b d') = some ρ1 := e
          cases q1 : setTg a d ρ with
          | none => rw [q1] at e; cases e
          | some ρ2 =>
            rw [q1] at e
            have e : setTg b d' ρ2 = some ρ1 := e
            obtain ⟨L1, s1⟩ := L.laid (o := .tup [u, v]) hp
            have k := kp_same (A := Av O W) (o := .tup [u, v]) hp
            refine ⟨p, [u, v], rfl, .inl (.inl upd_same), rfl, u, [v], rfl, tg_ok L1 (y1.kp k) q1 fun σ2 L2' c2 => ⟨v, [], rfl, tg_ok L2' (y2.kp k) e fun σ3 L3 c3 => ⟨rfl, ?_⟩⟩⟩
            exact q σ3 L3 ((c2.mono fun j z => .inl z).trans (c3.mono fun j z => .inr (.inl z)))
theorem wipeE_len : ∀ vs : List Nat, (wipeE ρ vs).length = ρ.length
  | [] => rfl
  | v :: vs => by unfold wipeE; rw [List.length_set, wipeE_len vs]
theorem wipeE_get : ∀ (vs : List Nat) (i : Nat), eget (wipeE ρ vs) i = if i ∈ vs then none else eget ρ i
  | [], i => by simp [wipeE]
  | v :: vs, i => by
    unfold wipeE
    rw [eget_set, wipeE_get vs]
    by_cases h : i = v
    · subst h
      by_cases hl : i < ρ.length
      · rw [if_pos ⟨rfl, by rw [wipeE_len]; exact hl⟩, if_pos List.mem_cons_self]
      · rw [if_neg fun z => hl (by rw [← wipeE_len (ρ := ρ) vs]; exact z.2), if_pos List.mem_cons_self]
        split
        · rfl
        · unfold eget
          rw [List.getElem?_eq_none (by omega)]
          rfl
    · rw [if_neg fun z => h z.1]
      by_cases hv : i ∈ vs
      · rw [if_pos hv, if_pos (List.mem_cons_of_mem _ hv)]
      · rw [if_neg hv, if_neg fun z => (List.mem_cons.mp z).elim h hv]
theorem back_len : ∀ (vs : List Nat), (back ρ ρ1 vs).length = ρ1.length
  | [] => rfl
  | v :: vs => by unfold back; rw [List.length_set, back_len vs]
theorem back_get (hl : ρ1.length = ρ.length) : ∀ (vs : List Nat) (i : Nat), eget (back ρ ρ1 vs) i = if i ∈ vs then eget ρ i else eget ρ1 i
  | [], i => by simp [back]
  | v :: vs, i => by
    unfold back
    rw [eget_set, back_get hl vs]
    by_cases h : i = v
    · subst h
      by_cases hi : i < ρ.length
      · rw [if_pos ⟨rfl, by rw [back_len, hl]; exact hi⟩, if_pos List.mem_cons_self]
      · rw [if_neg fun z => hi (by rw [← hl, ← back_len (ρ := ρ) vs]; exact z.2), if_pos List.mem_cons_self]
        split
        · rfl
        · unfold eget
          rw [List.getElem?_eq_none (by omega), List.getElem?_eq_none (by omega)]
    · rw [if_neg fun z => h z.1]
      by_cases hv : i ∈ vs
      · rw [if_pos hv, if_pos (List.mem_cons_of_mem _ hv)]
      · rw [if_neg hv, if_neg fun z => (List.mem_cons.mp z).elim h hv]
theorem Rel.wipe (L : Rel P O W H σ ρ) (vs : List Nat) : Rel P O W H (L2.wipe σ vs) (wipeE ρ vs) := by
  have g : ∀ i x, eget (wipeE ρ vs) i = some x → i ∉ vs ∧ eget ρ i = some x := fun i x e => by
    rw [wipeE_get] at e
    split at e
    · cases e
    · exact ⟨by assumption, e⟩
  refine ⟨by rw [wipeE_len, wipe_length]; exact L.len, L.wmut, L.oal, L.ow, fun i d e => ?_, fun i d e => ?_, fun i j a x y e1 e2 f1 f2 => ?_, L.tabs⟩
  · obtain ⟨n, e⟩ := g i _ e
    rw [wipe_out n]
    exact L.fro i d e
  · obtain ⟨n, e⟩ := g i _ e
    rw [wipe_out n]
    exact L.own i d e
  · obtain ⟨n1, e1⟩ := g i _ e1
    obtain ⟨n2, e2⟩ := g j _ e2
    rw [wipe_out n1] at f1
    rw [wipe_out n2] at f2
    exact L.inj i j a x y e1 e2 f1 f2
/-- behind a block's turn -/
theorem Rel.back {vs : List Nat} {T : Nat → Prop} {σ2 : L2.St} {ρ3 ρ6 : Env} {W6 : AP} {H4 : Hp} (L : Rel P O W H σ ρ) (Lw : Rel P O W H σ2 ρ3) (c : Chg T (L2.wipe σ vs) (wipeE ρ vs) σ2 ρ3) (ht : ∀ j, T j → j ∈ vs)
    (Li : Rel P O W6 H4 σ2 ρ6) (st : Step σ2 ρ3 W H ρ6 W6 H4) : Rel P O W6 H4 σ (back ρ ρ6 vs) ∧ Step σ ρ W H (back ρ ρ6 vs) W6 H4 := by
  have len6 : ρ6.length = ρ.length := by
    rw [Li.len, c.lenS, wipe_length, L.len]
  have g := back_get (ρ := ρ) (ρ1 := ρ6) len6 vs
  have s2 : ∀ i, i ∉ vs → σ2[i]? = σ[i]? ∧ eget ρ3 i = eget ρ i := fun i n => by
    obtain ⟨e1, e2⟩ := c.out i fun z => n (ht i z)
    rw [wipe_out n] at e1
    rw [wipeE_get, if_neg n] at e2
    exact ⟨e1, e2⟩
  have own3 : ∀ a, OwnA σ2 ρ3 a → ∃ i d, i ∉ vs ∧ eget ρ i = some (true, d) ∧ σ[i]? = some (some (.ref a)) := fun a z => by
    obtain ⟨i, d, e, q⟩ := c.ownA z
    rw [wipeE_get] at e
    by_cases n : i ∈ vs
    · rw [if_pos n] at e; cases e
    · rw [if_neg n] at e
      rw [wipe_out n] at q
      exact ⟨i, d, n, e, q⟩
  have own3' : ∀ a, OwnA σ2 ρ3 a → OwnA σ ρ a := fun a z => let ⟨i, d, _, e, q⟩ := own3 a z; ⟨i, d, e, q⟩
  have k := st.kp Lw
  refine ⟨⟨by rw [back_len, len6]; exact L.len, Li.wmut, Li.oal, Li.ow, fun i d e => ?_, fun i d e => ?_, fun i j a x y e1 e2 f1 f2 => ?_, Li.tabs⟩, ⟨fun a o e nt n => st.keep a o e nt fun z => n (own3' a z), st.new, fun a w n => st.stay a w fun z => n (own3' a z), fun a z => ?_, fun i x e => ?_, st.alive⟩⟩
  · rw [g] at e
    by_cases n : i ∈ vs
    · rw [if_pos n] at e
      obtain ⟨v, e1, rv⟩ := L.fro i d e
      exact ⟨v, e1, rv.kp k⟩
    · rw [if_neg n] at e
      rw [← (s2 i n).1]
      exact Li.fro i d e
  · rw [g] at e
    by_cases n : i ∈ vs
    · rw [if_pos n] at e
      obtain ⟨a, e1, w, ho⟩ := L.own i d e
      have na : ¬ OwnA σ2 ρ3 a := fun z => by
        obtain ⟨j, d', nj, e', q'⟩ := own3 a z
        exact nj (L.inj i j a d d' e e' e1 q' ▸ n)
      exact ⟨a, e1, st.stay a w na, ho.kp k na⟩
    · rw [if_neg n] at e
      rw [← (s2 i n).1]
      exact Li.own i d e
  · rw [g] at e1 e2
    have mix : ∀ {i j : Nat} {x y : D}, i ∈ vs → j ∉ vs → eget ρ i = some (true, x) → eget ρ6 j = some (true, y) → σ[i]? = some (some (.ref a)) → σ[j]? = some (some (.ref a)) → False := fun {i j x y} n1 n2 e1 e2 f1 f2 => by
      have z : OwnA σ2 ρ3 a := st.own a ⟨j, y, e2, by rw [(s2 j n2).1]; exact f2⟩
      obtain ⟨k, d', nk, e', q'⟩ := own3 a z
      exact nk (L.inj i k a x d' e1 e' f1 q' ▸ n1)
    by_cases n1 : i ∈ vs
    · by_cases n2 : j ∈ vs
      · rw [if_pos n1] at e1
        rw [if_pos n2] at e2
        exact L.inj i j a x y e1 e2 f1 f2
      · rw [if_pos n1] at e1
        rw [if_neg n2] at e2
        exact (mix n1 n2 e1 e2 f1 f2).elim
    · by_cases n2 : j ∈ vs
      · rw [if_neg n1] at e1
        rw [if_pos n2] at e2
        exact (mix n2 n1 e2 e1 f2 f1).elim
      · rw [if_neg n1] at e1
        rw [if_neg n2] at e2
        exact Li.inj i j a x y e1 e2 (by rw [(s2 i n1).1]; exact f1) (by rw [(s2 j n2).1]; exact f2)
  · obtain ⟨i, d, e, q⟩ := z
    rw [g] at e
    by_cases n : i ∈ vs
    · rw [if_pos n] at e; exact ⟨i, d, e, q⟩
    · rw [if_neg n] at e
      exact own3' a (st.own a ⟨i, d, e, by rw [(s2 i n).1]; exact q⟩)
  · by_cases n : i ∈ vs
    · exact ⟨x, by rw [g, if_pos n]; exact e⟩
    · obtain ⟨y, e2⟩ := st.there i x (by rw [(s2 i n).2]; exact e)
      exact ⟨y, by rw [g, if_neg n]; exact e2⟩
/-- what nobody of ours holds is written -/
theorem Rel.writeO {p : Addr} {o u : HO} (L : Rel P O W H σ ρ) (hp : O p) (hu : H p = some u) (hm : isMut u = true) : Rel P O W (upd H p o) σ ρ ∧ Kp (fun b => b = p) (Av O W) (Av O W) H (upd H p o) := by
  have k : Kp (fun b => b = p) (Av O W) (Av O W) H (upd H p o) := ⟨fun b o e _ n => by rw [upd_ne n]; exact e, fun b z => z ▸ ⟨u, hu, hm⟩, fun b z => z ▸ .inl hp, fun b z => .inl z⟩
  have nw : ∀ a, W a → a ≠ p := fun a w z => L.ow a w (z ▸ hp)
  refine ⟨⟨L.len, fun a w => ?_, fun a z => ?_, L.ow, fun i d e => ?_, fun i d e => ?_, L.inj, tabs_put L.tabs hu hm⟩, k⟩
  · obtain ⟨x, e, m⟩ := L.wmut a w
    exact ⟨x, by rw [upd_ne (nw a w)]; exact e, m⟩
  · by_cases h : a = p
    · subst h; rw [upd_same]; exact (fun z => nomatch z)
    · rw [upd_ne h]; exact L.oal a z
  · obtain ⟨v, e1, rv⟩ := L.fro i d e
    exact ⟨v, e1, rv.kp k⟩
  · obtain ⟨a, e1, w, ho⟩ := L.own i d e
    exact ⟨a, e1, w, ho.kp k (nw a w)⟩
theorem Step.writeO {p : Addr} {o : HO} (s : Step σ ρ0 W0 H0 ρ W H) (hp : H0 p = none) : Step σ ρ0 W0 H0 ρ W (upd H p o) :=
  ⟨fun a u e nt n => by rw [upd_ne (ne_of_none e hp)]; exact s.keep a u e nt n, s.new, s.stay, s.own, s.there, fun a z => by
    by_cases h : a = p
    · subst h; rw [upd_same]; exact (fun z => nomatch z)
    · rw [upd_ne h]; exact s.alive a z⟩
end
section
variable (P : TP) (call : Nat → Sp) (Gm : Cfg) (Φ : Phi) (X : XK)
def GoodE (e : E) : Prop := ∀ (O W : AP) (H : Hp) (σ : L2.St) (ρ ρ1 : Env) (r : R), Rel P O W H σ ρ → evE Gm Φ e ρ = some (r, ρ1) → ∀ Q : VK, Cont P O σ ρ W H ρ1 r Q → tE P call e X σ H Q
def GoodT (c : T) : Prop := ∀ (O W : AP) (H : Hp) (σ : L2.St) (ρ ρ1 : Env) (k : Bool), Rel P O W H σ ρ → evT Gm Φ c ρ = some (k, ρ1) → ∀ Q : Bool → Hp → Prop,
  (∀ H1 W1, Rel P O W1 H1 σ ρ1 → Step σ ρ W H ρ1 W1 H1 → Q k H1) → tT P call c X σ H Q
def GoodEs (es : Es) : Prop := ∀ (O W : AP) (H : Hp) (σ : L2.St) (ρ ρ1 : Env) (rs : List R), Rel P O W H σ ρ → evEs Gm Φ es ρ = some (rs, ρ1) → ∀ Q : List V → Hp → Prop,
  (∀ vs H1 W1, Rel P O W1 H1 σ ρ1 → Step σ ρ W H ρ1 W1 H1 → RepRs P O W1 H1 σ ρ1 rs vs → (tmps rs vs).Nodup → (∀ a ∈ tmps rs vs, H a = none) → Q vs H1) → tEs P call es X σ H Q
def GoodO (o : Oe) : Prop := ∀ (O W : AP) (H : Hp) (σ : L2.St) (ρ ρ1 : Env) (i : Option Int), Rel P O W H σ ρ → evOe Gm Φ o ρ = some (i, ρ1) → ∀ Q : Option Int → Hp → Prop,
  (∀ H1 W1, Rel P O W1 H1 σ ρ1 → Step σ ρ W H ρ1 W1 H1 → Q i H1) → tO P call o X σ H Q
def GoodI (it : It) : Prop := ∀ (O W : AP) (H : Hp) (σ : L2.St) (ρ ρ1 : Env) (its : List Itm), Rel P O W H σ ρ → evIt Gm Φ it ρ = some (its, ρ1) → ∀ R : L2.It → Hp → Prop,
  (∀ J H1 W1, Rel P O W1 H1 σ ρ1 → Step σ ρ W H ρ1 W1 H1 → WOk P O σ ρ1 W1 H1 J its → R J H1) → tIt P call it X σ H R
end
end Mi
set_option Elab.async false
set_option linter.all false
set_option maxRecDepth 100000
set_option maxHeartbeats 4000000
namespace Mi
open PySem PySem.Spec PyProof.Rows L2
theorem bindO_some {α β : Type} {x : Option (α × Env)} {f : α → Env → Option (β × Env)} {y : β × Env} (h : bindO x f = some y) : ∃ a ρ, x = some (a, ρ) ∧ f a ρ = some y := by
  cases x with
  | none => cases h
  | some p => exact ⟨p.1, p.2, rfl, h⟩
section
variable {P : TP} {O W W0 W1 W2 A : AP} {H H0 H1 H2 : Hp} {σ σ1 : L2.St} {ρ ρ0 ρ1 ρ2 : Env} {r : R} {Q : VK}
theorem repVInt {i : Int} {v : V} (h : RepV P A H (.int i) v) : v = .int i := by unfold RepV at h; exact h
theorem repVBl {b : Bool} {v : V} (h : RepV P A H (.bl b) v) : v = .bl b := by unfold RepV at h; exact h
theorem derefs_ok (L : Rel P O W H σ ρ) : ∀ {rs : List R} {vs : List V} {ds : List D}, RepRs P O W H σ ρ rs vs → derefs ρ rs = some ds → ds.length = vs.length ∧ ∀ (i : Nat) d v, ds[i]? = some d → vs[i]? = some v → RepB P (Av O W) H d v
  | [], vs, ds, h, e => by
    have h : vs = [] := h
    subst h
    cases e
    exact ⟨rfl, fun i d v e => by simp at e⟩
  | r :: rs, _, ds, ⟨v, us, e0, h1, h2⟩, e => by
    subst e0
    unfold derefs at e
    cases q1 : deref ρ r with
    | none => rw [q1] at e; cases e
    | some d =>
      cases q2 : derefs ρ rs with
      | none => rw [q1, q2] at e; cases e
      | some ds2 =>
        rw [q1, q2] at e
        cases e
        obtain ⟨l, k⟩ := derefs_ok L h2 q2
        refine ⟨by simp [l], fun i d' v' e1 e2 => ?_⟩
        cases i with
        | zero => cases e1; cases e2; exact h1.deref L q1
        | succ i => exact k i d' v' e1 e2
theorem RepRs.len : ∀ {rs : List R} {vs : List V}, RepRs P O W H σ ρ rs vs → rs.length = vs.length
  | [], vs, h => by have h : vs = [] := h; subst h; rfl
  | r :: rs, _, ⟨v, us, e0, h1, h2⟩ => by subst e0; simp [RepRs.len h2]
theorem RepR.mutAt {a : Addr} {d : D} (L : Rel P O W H σ ρ) (h : RepR P O W H σ ρ (.o d) (.ref a)) : H a ≠ none := by
  obtain ⟨b, e, w, _, _⟩ := h
  cases e
  obtain ⟨o, e, _⟩ := L.wmut _ w
  rw [e]; exact (fun z => nomatch z)
theorem RepRs.mutAt (L : Rel P O W H σ ρ) : ∀ {rs : List R} {vs : List V}, RepRs P O W H σ ρ rs vs → ∀ a ∈ tmps rs vs, H a ≠ none
  | [], vs, h, a, ha => by have h : vs = [] := h; subst h; cases ha
  | r :: rs, _, ⟨v, us, e0, h1, h2⟩, a, ha => by
    subst e0
    cases r with
    | o d =>
      obtain ⟨b, rfl, w, n, q⟩ := h1
      rcases List.mem_cons.mp ha with z | z
      · subst z
        obtain ⟨o, e, _⟩ := L.wmut _ w
        rw [e]; exact (fun z => nomatch z)
      · exact RepRs.mutAt L h2 a z
    | v d => exact RepRs.mutAt L h2 a ha
    | b d => exact RepRs.mutAt L h2 a ha
/-- a block's own slots wiped -/
theorem wipe_in {i : Nat} : ∀ {vs : List Nat}, i ∈ vs → i < σ.length → (L2.wipe σ vs)[i]? = some none
  | v :: vs, h, hl => by
    show ((L2.wipe σ vs).set v none)[i]? = _
    by_cases e : v = i
    · subst e
      rw [List.getElem?_set_self (by rw [wipe_length]; exact hl)]
    · rw [List.getElem?_set_ne e]
      exact wipe_in ((List.mem_cons.mp h).resolve_left fun z => e z.symm) hl
theorem wipe_eq {vs : List Nat} {σ2 : L2.St} (hl : σ2.length = σ.length) (h : ∀ i, i ∉ vs → σ2[i]? = σ[i]?) : L2.wipe σ2 vs = L2.wipe σ vs := by
  refine List.ext_getElem? fun i => ?_
  by_cases hi : i ∈ vs
  · by_cases hn : i < σ.length
    · rw [wipe_in hi hn, wipe_in hi (by rw [hl]; exact hn)]
    · rw [List.getElem?_eq_none (by rw [wipe_length]; omega), List.getElem?_eq_none (by rw [wipe_length]; omega)]
  · rw [wipe_out hi, wipe_out hi, h i hi]
theorem tgIn_has {vs : List Nat} : ∀ {tg : Tg}, tgIn vs tg = true → ∀ j, tgHas tg j → j ∈ vs
  | .var i, h, j, e => by
    have e : j = i := e
    subst e
    simpa [tgIn] using h
  | .nil, _, _, e => e.elim
  | .cons a r, h, j, e => by
    unfold tgIn at h
    rw [Bool.and_eq_true] at h
    exact e.elim (tgIn_has h.1 j) (tgIn_has h.2 j)
/-- something new that all let be -/
theorem Rel.laidO {p : Addr} {o : HO} (L : Rel P O W H σ ρ) (hp : H p = none) : Rel P (fun a => O a ∨ a = p) W (upd H p o) σ ρ ∧ Step σ ρ W H ρ W (upd H p o) := by
  obtain ⟨L1, s1⟩ := L.laid (o := o) hp
  have k : Kp (OwnA σ ρ) (Av O W) (Av (fun a => O a ∨ a = p) W) H (upd H p o) := ⟨s1.keep, fun a h => L.wmut a (L.ownW h), fun a h => .inr (L.ownW h), fun a z => by
    rcases z with (z | z) | z
    · exact .inl (.inl z)
    · exact .inr (z ▸ hp)
    · exact .inl (.inr z)⟩
  have no : ∀ a, W a → a ≠ p := fun a h e => by
    obtain ⟨u, e1, _⟩ := L.wmut a h
    rw [e, hp] at e1; cases e1
  have kk : ∀ a u, H a = some u → (upd H p o) a = some u := fun a u e => by rw [upd_ne (ne_of_none e hp)]; exact e
  refine ⟨⟨L.len, L1.wmut, fun a z => ?_, fun a w z => z.elim (L.ow a w) (no a w), fun i d e => ?_, fun i d e => ?_, L.inj, L1.tabs⟩, s1⟩
  · rcases z with z | z
    · exact L1.oal a z
    · subst z; rw [upd_same]; exact (fun z => nomatch z)
  · obtain ⟨v, e1, rv⟩ := L.fro i d e
    exact ⟨v, e1, rv.kp k⟩
  · obtain ⟨a, e1, w, ho⟩ := L.own i d e
    refine ⟨a, e1, w, ?_⟩
    have k' : Kp (fun _ => False) (Av O W) (Av (fun a => O a ∨ a = p) W) H (upd H p o) := ⟨fun a u e _ _ => kk a u e, fun _ z => z.elim, fun _ z => z.elim, k.av⟩
    exact ho.kp k' fun z => z
/-- what was let be is one's own new thing now -/
theorem Rel.takeO {p : Addr} {o : HO} (L : Rel P (fun a => O a ∨ a = p) W H σ ρ) (hp : H p = some o) (hm : isMut o = true) (no : ¬ O p) : Rel P O (fun a => W a ∨ a = p) H σ ρ ∧
    Kp (fun _ => False) (Av (fun a => O a ∨ a = p) W) (Av O fun a => W a ∨ a = p) H H := by
  have k : Kp (fun _ => False) (Av (fun a => O a ∨ a = p) W) (Av O fun a => W a ∨ a = p) H H := Kp.less fun a z => by
    rcases z with z | z | z
    · exact .inl (.inl z)
    · exact .inr z
    · exact .inl (.inr z)
  refine ⟨⟨L.len, fun a z => ?_, fun a z => L.oal a (.inl z), fun a z => ?_, fun i d e => ?_, fun i d e => ?_, L.inj, L.tabs⟩, k⟩
  · rcases z with z | z
    · exact L.wmut a z
    · exact ⟨o, z ▸ hp, hm⟩
  · rcases z with z | z
    · exact fun q => L.ow a z (.inl q)
    · exact z ▸ no
  · obtain ⟨v, e1, rv⟩ := L.fro i d e
    exact ⟨v, e1, rv.kp k⟩
  · obtain ⟨a, e1, w, ho⟩ := L.own i d e
    exact ⟨a, e1, .inl w, ho.kp k fun z => z⟩
/-- the heap that a walk's item was taken in -/
theorem yok_heap {it : Itm} {x : V} {H3 Hs : Hp} {B : AP} (L : Rel P O W H2 σ ρ) (y : YOk P B Hs H2 x H3 it) : Rel P O W H3 σ ρ ∧ Step σ ρ W H2 ρ W H3 := by
  cases it with
  | one d => obtain ⟨rfl, _⟩ := y; exact ⟨L, .refl⟩
  | two d d' =>
    obtain ⟨p, u, v, _, hp, rfl, _⟩ := y
    exact L.laid hp
end
end Mi
set_option Elab.async false
set_option linter.all false
set_option maxRecDepth 100000
set_option maxHeartbeats 4000000
namespace Mi
open PySem PySem.Spec PyProof.Rows L2
/-- what the mirror says of names and classes holds of the text -/
structure IskOk (K : PySem.W.Frag) (C : Addr) : Prop where
  cl : Cls K C
  ha : PySem.W.findIn K (.ref C) "__class__" = some (some (.builtin "object.__class__"))
  hn : PySem.W.specialIn K (.builtin "object.__class__") "__get__" = some (some (.builtin "getset_descriptor.__get__"))
  htk : PySem.W.takesIn K (.builtin "object.__class__") = some true
  hm : PySem.W.mroIn K C (.type "object") = some true
  ty : ∀ n ∈ tyNames, PySem.W.kitOne K (.type n) (.ref C) = some false
structure CfgOk (P : TP) (Gm : Cfg) : Prop where
  glob : ∀ x d, Gm.glob x = some d → ∀ A H, RepV P A H d (P.glob x)
  flds : ∀ C fs, Gm.fields C = some fs → Cls P.K (P.cls C) ∧ ∀ f ∈ fs, NoAttr P.K (P.cls C) f
  word : ∀ f wd, Gm.word f = some wd → P.wd f = some wd
  sub : ∀ C k b, Gm.sub C k = some b → PySem.W.kitOne P.K (.ref (P.cls C)) (.ref (P.cls k)) = some b
  subB : ∀ C n b, Gm.subB C n = some b → PySem.W.kitOne P.K (.ref (P.cls C)) (.type n) = some b
  xfld : ∀ C f, Gm.xfld C f = true → PySem.W.findIn P.K (.ref (P.cls C)) f = some none
  fn : ∀ i, Gm.isfn i = true → ∃ a, P.fn i = some a
  isk : ∀ C, Gm.isk C = true → IskOk P.K (P.cls C)
section
variable {P : TP} {Gm : Cfg} {Φ : Phi} {X : XK}
theorem rrBl {O W : AP} {H : Hp} {σ : L2.St} {ρ : Env} {b : Bool} {v : V} (h : RepR P O W H σ ρ (.v (.bl b)) v) : v = .bl b := repVBl (show RepV P (Av O W) H (.bl b) v from h)
theorem rrInt {O W : AP} {H : Hp} {σ : L2.St} {ρ : Env} {b : Int} {v : V} (h : RepR P O W H σ ρ (.v (.int b)) v) : v = .int b := repVInt (show RepV P (Av O W) H (.int b) v from h)
theorem ge_var {i : Nat} : (GoodE P (spec P Φ) Gm Φ X) (.var i) := fun O W H σ ρ ρ1 r L e Q c => by
  unfold evE at e
  cases q : eget ρ i with
  | none => rw [q] at e; cases e
  | some x =>
    obtain ⟨o, d⟩ := x
    rw [q] at e
    cases o with
    | true =>
      cases e
      obtain ⟨a, e1, w, _⟩ := L.own i d q
      exact ⟨_, e1, c _ _ _ L .refl ⟨e1, _, q⟩ fun _ _ e => nomatch e⟩
    | false =>
      cases e
      obtain ⟨v, e1, h⟩ := L.fro i d q
      exact ⟨_, e1, c.val L h⟩
theorem ge_glob {x : Nat} (ok : CfgOk P Gm) : (GoodE P (spec P Φ) Gm Φ X) (.glob x) := fun O W H σ ρ ρ1 r L e Q c => by
  unfold evE at e
  cases q : Gm.glob x with
  | none => rw [q] at e; cases e
  | some d => rw [q] at e; cases e; exact c.val L (ok.glob x d q _ _)
theorem ge_cint {i : Int} : (GoodE P (spec P Φ) Gm Φ X) (.cint i) := fun O W H σ ρ ρ1 r L e Q c => by
  unfold evE at e; cases e; exact c.val L (by unfold RepV; rfl)
theorem ge_cbl {i : Bool} : (GoodE P (spec P Φ) Gm Φ X) (.cbl i) := fun O W H σ ρ ρ1 r L e Q c => by
  unfold evE at e; cases e; exact c.val L (by unfold RepV; rfl)
theorem ge_cnon : (GoodE P (spec P Φ) Gm Φ X) .cnon := fun O W H σ ρ ρ1 r L e Q c => by
  unfold evE at e; cases e; exact c.val L (by unfold RepV; rfl)
theorem ge_cstr {i : Str} : (GoodE P (spec P Φ) Gm Φ X) (.cstr i) := fun O W H σ ρ ρ1 r L e Q c => by
  unfold evE at e; cases e; exact c.val L (by unfold RepV; rfl)
theorem ge_cty {i : String} : (GoodE P (spec P Φ) Gm Φ X) (.cty i) := fun O W H σ ρ ρ1 r L e Q c => by
  unfold evE at e; cases e; exact c.val L (by unfold RepV; rfl)
theorem ge_tup {es : Es} (h : (GoodEs P (spec P Φ) Gm Φ X) es) : (GoodE P (spec P Φ) Gm Φ X) (.tup es) := fun O W H σ ρ ρ1 r L e Q c => by
  unfold evE at e
  obtain ⟨rs, ρa, ea, e⟩ := bindO_some e
  obtain ⟨ds, ρb, eb, e⟩ := bindO_some e
  split at e
  · rename_i hz
    cases e
    refine h O W H σ ρ ρa rs L ea _ fun vs H1 W1 L1 s1 hr nd fr => ?_
    obtain ⟨W2, L2', l2, hv⟩ := freezes_ok L1 hr nd eb
    exact ⟨by rw [← hv.length, line_eq]; exact hz, (c.from (s1.lose L l2 fr)).tup L2' hv hz⟩
  · cases e
theorem ge_lst {es : Es} (h : (GoodEs P (spec P Φ) Gm Φ X) es) : (GoodE P (spec P Φ) Gm Φ X) (.lst es) := fun O W H σ ρ ρ1 r L e Q c => by
  unfold evE at e
  obtain ⟨rs, ρa, ea, e⟩ := bindO_some e
  obtain ⟨ds, ρb, eb, e⟩ := bindO_some e
  split at e
  · rename_i hz
    cases e
    refine h O W H σ ρ ρa rs L ea _ fun vs H1 W1 L1 s1 hr nd fr => ?_
    obtain ⟨W2, L2', l2, hv⟩ := freezes_ok L1 hr nd eb
    exact ⟨by rw [← hv.length, line_eq]; exact hz, fun p hp => (c.from (s1.lose L l2 fr)).lst L2' hv hz hp⟩
  · cases e
theorem ge_bin {op : BOp} {a b : E} (ha : (GoodE P (spec P Φ) Gm Φ X) a) (hb : (GoodE P (spec P Φ) Gm Φ X) b) : (GoodE P (spec P Φ) Gm Φ X) (.bin op a b) := fun O W H σ ρ ρ1 r L e Q c => by
  unfold evE at e
  obtain ⟨ra, ρa, ea, e⟩ := bindO_some e
  obtain ⟨rb, ρb, eb, e⟩ := bindO_some e
  refine ha O W H σ ρ ρa ra L ea _ fun va H1 W1 L1 s1 h1 f1 => hb O W1 H1 σ ρa ρb rb L1 eb _ fun vb H2 W2 L2' s2 h2 f2 => ?_
  cases q1 : deref ρb ra with
  | none => rw [q1] at e; cases e
  | some x =>
    cases q2 : deref ρb rb with
    | none => rw [q1, q2] at e; cases e
    | some y =>
      rw [q1, q2] at e
      dsimp only at e
      cases q3 : binD op x y with
      | none => rw [q3] at e; cases e
      | some d =>
        rw [q3] at e; cases e
        exact bin_ok L2' ((h1.step L1 s2).deref L2' q1) (h2.deref L2' q2) q3 (c.from (s1.trans s2))
theorem ge_cmp {op : COp} {a b : E} (ha : (GoodE P (spec P Φ) Gm Φ X) a) (hb : (GoodE P (spec P Φ) Gm Φ X) b) : (GoodE P (spec P Φ) Gm Φ X) (.cmp op a b) := fun O W H σ ρ ρ1 r L e Q c => by
  unfold evE at e
  obtain ⟨ra, ρa, ea, e⟩ := bindO_some e
  obtain ⟨rb, ρb, eb, e⟩ := bindO_some e
  refine ha O W H σ ρ ρa ra L ea _ fun va H1 W1 L1 s1 h1 f1 => hb O W1 H1 σ ρa ρb rb L1 eb _ fun vb H2 W2 L2' s2 h2 f2 => ?_
  cases q1 : deref ρb ra with
  | none => rw [q1] at e; cases e
  | some x =>
    cases q2 : deref ρb rb with
    | none => rw [q1, q2] at e; cases e
    | some y =>
      rw [q1, q2] at e
      dsimp only at e
      cases q3 : cmpD op x y with
      | none => rw [q3] at e; cases e
      | some d =>
        rw [q3] at e; cases e
        exact cmp_ok L2' ((h1.step L1 s2).deref L2' q1) (h2.deref L2' q2) q3 (c.from (s1.trans s2))
theorem ge_idx {a b : E} (ha : (GoodE P (spec P Φ) Gm Φ X) a) (hb : (GoodE P (spec P Φ) Gm Φ X) b) : (GoodE P (spec P Φ) Gm Φ X) (.idx a b) := fun O W H σ ρ ρ1 r L e Q c => by
  unfold evE at e
  obtain ⟨ra, ρa, ea, e⟩ := bindO_some e
  obtain ⟨rb, ρb, eb, e⟩ := bindO_some e
  cases q1 : deref ρb ra with
  | none => rw [q1] at e; cases e
  | some x =>
    cases q2 : deref ρb rb with
    | none => rw [q1, q2] at e; cases e
    | some y =>
      rw [q1, q2] at e
      dsimp only at e
      cases q3 : idxD x y with
      | none => rw [q3] at e; cases e
      | some d =>
        rw [q3] at e
        cases e
        rcases idx_cs q3 with ⟨ks, ds, rfl, q4⟩ | q4
        · refine .inr ?_
          refine ha O W H σ ρ ρa ra L ea _ fun va H1 W1 L1 s1 h1 f1 => hb O W1 H1 σ ρa ρ1 rb L1 eb _ fun vb H2 W2 L2' s2 h2 f2 => ?_
          exact idxK_ok L2' (RepR.deref L2' (h1.step L1 s2) q1) (h2.deref L2' q2) q4 (c.from (s1.trans s2))
        · refine .inl ?_
          refine ha O W H σ ρ ρa ra L ea _ fun va H1 W1 L1 s1 h1 f1 => hb O W1 H1 σ ρa ρ1 rb L1 eb _ fun vb H2 W2 L2' s2 h2 f2 => ?_
          exact idx_ok L2' (RepR.deref L2' (h1.step L1 s2) q1) (h2.deref L2' q2) q4 (c.from (s1.trans s2))
theorem ge_neg {a : E} (ha : (GoodE P (spec P Φ) Gm Φ X) a) : (GoodE P (spec P Φ) Gm Φ X) (.neg a) := fun O W H σ ρ ρ1 r L e Q c => by
  unfold evE at e
  obtain ⟨ra, ρa, ea, e⟩ := bindO_some e
  refine ha O W H σ ρ ρa ra L ea _ fun va H1 W1 L1 s1 h1 f1 => ?_
  cases q1 : deref ρa ra with
  | none => rw [q1] at e; cases e
  | some x =>
    rw [q1] at e
    cases q3 : negD x with
    | none => rw [Option.bind_some, q3] at e; cases e
    | some d =>
      rw [Option.bind_some, q3] at e; cases e
      exact neg_ok L1 (h1.deref L1 q1) q3 (c.from s1)
theorem ge_rev {a : E} (ha : (GoodE P (spec P Φ) Gm Φ X) a) : (GoodE P (spec P Φ) Gm Φ X) (.rev a) := fun O W H σ ρ ρ1 r L e Q c => by
  unfold evE at e
  obtain ⟨ra, ρa, ea, e⟩ := bindO_some e
  refine ha O W H σ ρ ρa ra L ea _ fun va H1 W1 L1 s1 h1 f1 => ?_
  cases q1 : deref ρa ra with
  | none => rw [q1] at e; cases e
  | some x =>
    rw [q1] at e
    cases q3 : revD x with
    | none => rw [Option.bind_some, q3] at e; cases e
    | some d =>
      rw [Option.bind_some, q3] at e; cases e
      exact rev_ok L1 (h1.deref L1 q1) q3 (c.from s1)
theorem ge_notv {a : E} (ha : (GoodE P (spec P Φ) Gm Φ X) a) : (GoodE P (spec P Φ) Gm Φ X) (.notv a) := fun O W H σ ρ ρ1 r L e Q c => by
  unfold evE at e
  obtain ⟨ra, ρa, ea, e⟩ := bindO_some e
  refine ha O W H σ ρ ρa ra L ea _ fun va H1 W1 L1 s1 h1 f1 => ?_
  split at e
  · rename_i b
    cases e
    have h1 : va = .bl b := rrBl h1
    exact ⟨b, h1, (c.from s1).bl L1 rfl⟩
  · cases e
theorem ge_andv {a b : E} (ha : (GoodE P (spec P Φ) Gm Φ X) a) (hb : (GoodE P (spec P Φ) Gm Φ X) b) : (GoodE P (spec P Φ) Gm Φ X) (.andv a b) := fun O W H σ ρ ρ1 r L e Q c => by
  unfold evE at e
  obtain ⟨ra, ρa, ea, e⟩ := bindO_some e
  refine ha O W H σ ρ ρa ra L ea _ fun va H1 W1 L1 s1 h1 f1 => ?_
  split at e
  · exact ⟨true, rrBl h1, by rw [if_pos rfl]; exact hb O W1 H1 σ ρa ρ1 r L1 e _ (c.from s1)⟩
  · cases e
    exact ⟨false, rrBl h1, by rw [if_neg (by decide)]; exact (c.from s1).bl L1 rfl⟩
  · cases e
theorem ge_orv {a b : E} (ha : (GoodE P (spec P Φ) Gm Φ X) a) (hb : (GoodE P (spec P Φ) Gm Φ X) b) : (GoodE P (spec P Φ) Gm Φ X) (.orv a b) := fun O W H σ ρ ρ1 r L e Q c => by
  unfold evE at e
  obtain ⟨ra, ρa, ea, e⟩ := bindO_some e
  refine ha O W H σ ρ ρa ra L ea _ fun va H1 W1 L1 s1 h1 f1 => ?_
  split at e
  · cases e
    exact ⟨true, rrBl h1, by rw [if_pos rfl]; exact (c.from s1).bl L1 rfl⟩
  · exact ⟨false, rrBl h1, by rw [if_neg (by decide)]; exact hb O W1 H1 σ ρa ρ1 r L1 e _ (c.from s1)⟩
  · cases e
theorem ge_chain {op op' : COp} {a b z : E} (ha : (GoodE P (spec P Φ) Gm Φ X) a) (hb : (GoodE P (spec P Φ) Gm Φ X) b) (hz : (GoodE P (spec P Φ) Gm Φ X) z) : (GoodE P (spec P Φ) Gm Φ X) (.chain op op' a b z) := fun O W H σ ρ ρ1 r L e Q c => by
  unfold evE at e
  obtain ⟨ra, ρa, ea, e⟩ := bindO_some e
  obtain ⟨rb, ρb, eb, e⟩ := bindO_some e
  refine ha O W H σ ρ ρa ra L ea _ fun va H1 W1 L1 s1 h1 f1 => hb O W1 H1 σ ρa ρb rb L1 eb _ fun vb H2 W2 L2' s2 h2 f2 => ?_
  have h1' := h1.step L1 s2
  split at e
  · rename_i x y e0
    split at e
    · rename_i hq
      refine cmp_ok L2' (RepV.repB h1') (RepV.repB h2) hq fun v H3 W3 L3 s3 h3 f3 => ⟨true, rrBl h3, ?_⟩
      rw [if_pos rfl]
      obtain ⟨rc, ρc, ec, e⟩ := bindO_some e
      refine hz O W3 H3 σ ρb ρc rc L3 ec _ fun vc H4 W4 L4 s4 h4 f4 => ?_
      cases q1 : deref ρc rc with
      | none => rw [q1] at e; cases e
      | some w =>
        rw [q1] at e
        dsimp only at e
        cases q3 : cmpD op' y w with
        | none => rw [q3] at e; cases e
        | some d =>
          rw [q3] at e; cases e
          exact cmp_ok L4 (RepV.repB (((show RepR P O W2 H2 σ ρb (.v y) vb from h2).step L2' s3).step L3 s4)) (h4.deref L4 q1) q3 (c.from ((s1.trans s2).trans (s3.trans s4)))
    · rename_i hq
      cases e
      refine cmp_ok L2' (RepV.repB h1') (RepV.repB h2) hq fun v H3 W3 L3 s3 h3 f3 => ⟨false, rrBl h3, ?_⟩
      rw [if_neg (by decide)]
      exact (c.from ((s1.trans s2).trans s3)).bl L3 rfl
    · cases e
  · cases e
theorem ge_ite {t : T} {a b : E} (ht : (GoodT P (spec P Φ) Gm Φ X) t) (ha : (GoodE P (spec P Φ) Gm Φ X) a) (hb : (GoodE P (spec P Φ) Gm Φ X) b) : (GoodE P (spec P Φ) Gm Φ X) (.ite t a b) := fun O W H σ ρ ρ1 r L e Q c => by
  unfold evE at e
  obtain ⟨k, ρa, ea, e⟩ := bindO_some e
  refine ht O W H σ ρ ρa k L ea _ fun H1 W1 L1 s1 => ?_
  cases k with
  | true => rw [if_pos rfl]; exact ha O W1 H1 σ ρa ρ1 r L1 e _ (c.from s1)
  | false => rw [if_neg (by decide)]; exact hb O W1 H1 σ ρa ρ1 r L1 e _ (c.from s1)
theorem ge_sl {a : E} {lo hi : Oe} (ha : (GoodE P (spec P Φ) Gm Φ X) a) (hl : (GoodO P (spec P Φ) Gm Φ X) lo) (hh : (GoodO P (spec P Φ) Gm Φ X) hi) : (GoodE P (spec P Φ) Gm Φ X) (.sl a lo hi) := fun O W H σ ρ ρ1 r L e Q c => by
  unfold evE at e
  obtain ⟨ra, ρa, ea, e⟩ := bindO_some e
  obtain ⟨l, ρb, eb, e⟩ := bindO_some e
  obtain ⟨h, ρc, ec, e⟩ := bindO_some e
  refine ha O W H σ ρ ρa ra L ea _ fun va H1 W1 L1 s1 h1 f1 => hl O W1 H1 σ ρa ρb l L1 eb _ fun H2 W2 L2' s2 => hh O W2 H2 σ ρb ρc h L2' ec _ fun H3 W3 L3 s3 => ?_
  cases q1 : deref ρc ra with
  | none => rw [q1] at e; cases e
  | some x =>
    rw [q1] at e
    dsimp only at e
    cases q3 : slD x l h with
    | none => rw [q3] at e; cases e
    | some d =>
      rw [q3] at e; cases e
      exact sl_ok L3 (((h1.step L1 s2).step L2' s3).deref L3 q1) q3 (c.from ((s1.trans s2).trans s3))
theorem ge_call {f : Nat} {es : Es} (h : (GoodEs P (spec P Φ) Gm Φ X) es) : (GoodE P (spec P Φ) Gm Φ X) (.call f es) := fun O W H σ ρ ρ1 r L e Q c => by
  unfold evE at e
  obtain ⟨rs, ρa, ea, e⟩ := bindO_some e
  refine h O W H σ ρ ρa rs L ea _ fun vs H1 W1 L1 s1 hr nd fr => ?_
  rw [List.append_nil]
  exact call_ok L1 hr nd fr s1.alive e s1 L c
theorem ge_callb {f : Blt} {es : Es} (h : (GoodEs P (spec P Φ) Gm Φ X) es) : (GoodE P (spec P Φ) Gm Φ X) (.callb f es) := fun O W H σ ρ ρ1 r L e Q c => by
  unfold evE at e
  obtain ⟨rs, ρa, ea, e⟩ := bindO_some e
  refine h O W H σ ρ ρa rs L ea _ fun vs H1 W1 L1 s1 hr nd fr => ?_
  cases q1 : derefs ρa rs with
  | none => rw [q1] at e; cases e
  | some ds =>
    rw [q1] at e
    dsimp only at e
    cases q3 : bltD f ds with
    | none => rw [q3] at e; cases e
    | some d =>
      rw [q3] at e; cases e
      exact blt_ok L1 (derefs_ok L1 hr q1) q3 (c.from s1)
theorem ge_attr {a : E} {f : Str} (ok : CfgOk P Gm) (ha : (GoodE P (spec P Φ) Gm Φ X) a) : (GoodE P (spec P Φ) Gm Φ X) (.attr a f) := fun O W H σ ρ ρ1 r L e Q c => by
  unfold evE at e
  obtain ⟨ra, ρa, ea, e⟩ := bindO_some e
  refine ha O W H σ ρ ρa ra L ea _ fun va H1 W1 L1 s1 h1 f1 => ?_
  cases q1 : deref ρa ra with
  | none => rw [q1] at e; cases e
  | some x =>
    rw [q1] at e
    cases q3 : attrD Gm.fields f x with
    | none => rw [Option.bind_some, q3] at e; cases e
    | some d =>
      rw [Option.bind_some, q3] at e; cases e
      have hb := h1.deref L1 q1
      cases x with
      | ins C ns ds =>
        obtain ⟨p, dx, vs, rfl, hp, hl, hr⟩ := hb
        have q3 : (match Gm.fields C with | some fs => if f ∈ fs then getN f ns ds else none | none => none) = some d := q3
        cases q4 : Gm.fields C with
        | none => rw [q4] at q3; cases q3
        | some fs =>
          rw [q4] at q3
          dsimp only at q3
          split at q3
          · rename_i hf
            obtain ⟨c1, c2⟩ := ok.flds C fs q4
            obtain ⟨v, e1, hv⟩ := getN_zip q3 hl hr
            exact ⟨p, P.cls C, dx, _, v, rfl, hp, c1, c2 f hf, e1, (c.from s1).val L1 hv⟩
          · cases q3
      | _ => cases q3
theorem ge_lrange {es : Es} (h : (GoodEs P (spec P Φ) Gm Φ X) es) : (GoodE P (spec P Φ) Gm Φ X) (.lrange es) := fun O W H σ ρ ρ1 r L e Q c => by
  unfold evE at e
  obtain ⟨rs, ρa, ea, e⟩ := bindO_some e
  refine h O W H σ ρ ρa rs L ea _ fun vs H1 W1 L1 s1 hr nd fr => ?_
  have reps : ∀ (lo : Int) (n : Nat), RepVs P (Av O W1) H1 ((List.range n).map fun (i : Nat) => D.int (lo + i)) ((List.range n).map fun (i : Nat) => V.int (lo + i)) := fun lo n => by
    generalize List.range n = l
    induction l with
    | nil => exact .nil
    | cons i l ih => exact .cons (by unfold RepV; rfl) ih
  have hl : ((line : Nat) : Int) = 16777216 := rfl
  have len : ∀ (lo : Int) (n : Nat), ((List.range n).map fun (i : Nat) => D.int (lo + i)).length = n := fun lo n => by rw [List.length_map, List.length_range]
  split at e
  · rename_i j
    unfold rangeD at e
    rw [hl] at e
    split at e
    · rename_i hz
      obtain ⟨z1, z2, z3, z4, z5⟩ := hz
      cases e
      obtain ⟨v, us, rfl, h1, h2⟩ := hr
      have h2 : us = [] := h2
      subst h2
      have h1 : v = .int j := rrInt h1
      subst h1
      refine .inl ⟨j, rfl, z4, z3, fun l hq => ?_⟩
      have k := reps 0 (j - 0).toNat
      have k2 := (c.from s1).lst L1 k (by rw [len]; show _ ≤ 16777216; omega) hq
      have e3 : ((List.range (j - 0).toNat).map fun (i : Nat) => V.int (0 + i)) = (List.range j.toNat).map fun (i : Nat) => V.int i := by rw [Int.sub_zero]; exact congrArg (fun f => List.map f _) (funext fun i => by rw [Int.zero_add])
      rw [← e3]
      exact k2
    · cases e
  · rename_i i j
    unfold rangeD at e
    rw [hl] at e
    split at e
    · rename_i hz
      obtain ⟨z1, z2, z3, z4, z5⟩ := hz
      cases e
      obtain ⟨v, us, rfl, h1, u, us, rfl, h2, h3⟩ := hr
      have h3 : us = [] := h3
      subst h3
      have h1 : v = .int i := rrInt h1
      have h2 : u = .int j := rrInt h2
      subst h1 h2
      refine .inr ⟨i, j, rfl, z2, z1, z4, z3, by omega, fun l hq => ?_⟩
      exact (c.from s1).lst L1 (reps i (j - i).toNat) (by rw [len]; show _ ≤ 16777216; omega) hq
    · cases e
  · cases e
theorem gt_yes : (GoodT P (spec P Φ) Gm Φ X) .yes := fun O W H σ ρ ρ1 k L e Q c => by
  unfold evT at e; cases e; exact c H W L .refl
theorem gt_val {a : E} (ha : (GoodE P (spec P Φ) Gm Φ X) a) : (GoodT P (spec P Φ) Gm Φ X) (.val a) := fun O W H σ ρ ρ1 k L e Q c => by
  unfold evT at e
  obtain ⟨ra, ρa, ea, e⟩ := bindO_some e
  refine ha O W H σ ρ ρa ra L ea _ fun va H1 W1 L1 s1 h1 f1 => ?_
  split at e
  · cases e; exact ⟨k, rrBl h1, c H1 W1 L1 s1⟩
  · cases e
theorem gt_and {a b : T} (ha : (GoodT P (spec P Φ) Gm Φ X) a) (hb : (GoodT P (spec P Φ) Gm Φ X) b) : (GoodT P (spec P Φ) Gm Φ X) (.and a b) := fun O W H σ ρ ρ1 k L e Q c => by
  unfold evT at e
  obtain ⟨j, ρa, ea, e⟩ := bindO_some e
  refine ha O W H σ ρ ρa j L ea _ fun H1 W1 L1 s1 => ?_
  cases j with
  | true => rw [if_pos rfl]; exact hb O W1 H1 σ ρa ρ1 k L1 e _ fun H2 W2 L2' s2 => c H2 W2 L2' (s1.trans s2)
  | false => rw [if_neg (by decide)]; cases e; exact c H1 W1 L1 s1
theorem gt_or {a b : T} (ha : (GoodT P (spec P Φ) Gm Φ X) a) (hb : (GoodT P (spec P Φ) Gm Φ X) b) : (GoodT P (spec P Φ) Gm Φ X) (.or a b) := fun O W H σ ρ ρ1 k L e Q c => by
  unfold evT at e
  obtain ⟨j, ρa, ea, e⟩ := bindO_some e
  refine ha O W H σ ρ ρa j L ea _ fun H1 W1 L1 s1 => ?_
  cases j with
  | true => rw [if_pos rfl]; cases e; exact c H1 W1 L1 s1
  | false => rw [if_neg (by decide)]; exact hb O W1 H1 σ ρa ρ1 k L1 e _ fun H2 W2 L2' s2 => c H2 W2 L2' (s1.trans s2)
theorem gt_not {a : T} (ha : (GoodT P (spec P Φ) Gm Φ X) a) : (GoodT P (spec P Φ) Gm Φ X) (.not a) := fun O W H σ ρ ρ1 k L e Q c => by
  unfold evT at e
  obtain ⟨j, ρa, ea, e⟩ := bindO_some e
  cases e
  exact ha O W H σ ρ ρ1 j L ea _ fun H1 W1 L1 s1 => c H1 W1 L1 s1
theorem ga_nil : (GoodEs P (spec P Φ) Gm Φ X) .nil := fun O W H σ ρ ρ1 rs L e Q c => by
  unfold evEs at e; cases e
  exact c [] H W L .refl rfl .nil fun a h => nomatch h
theorem ga_cons {a : E} {r : Es} (ha : (GoodE P (spec P Φ) Gm Φ X) a) (hb : (GoodEs P (spec P Φ) Gm Φ X) r) : (GoodEs P (spec P Φ) Gm Φ X) (.cons a r) := fun O W H σ ρ ρ1 rs L e Q c => by
  unfold evEs at e
  obtain ⟨x, ρa, ea, e⟩ := bindO_some e
  obtain ⟨xs, ρb, eb, e⟩ := bindO_some e
  cases e
  refine ha O W H σ ρ ρa x L ea _ fun va H1 W1 L1 s1 h1 f1 => hb O W1 H1 σ ρa ρ1 xs L1 eb _ fun vs H2 W2 L2' s2 h2 nd fr => ?_
  have fr' : ∀ a ∈ tmps xs vs, H a = none := fun a h => Classical.byContradiction fun q => s1.alive a q (fr a h)
  refine c (va :: vs) H2 W2 L2' (s1.trans s2) ⟨va, vs, rfl, h1.step L1 s2, h2⟩ ?_ ?_
  · cases x with
    | o d =>
      have h1' := h1
      obtain ⟨b, rfl, w, n, q⟩ := h1'
      refine List.nodup_cons.mpr ⟨fun z => ?_, nd⟩
      exact h1.mutAt L1 (fr b z)
    | v d => exact nd
    | b d => exact nd
  · intro a h
    cases x with
    | o d =>
      have h1' := h1
      obtain ⟨b, rfl, w, n, q⟩ := h1'
      rcases List.mem_cons.mp h with z | z
      · subst z; exact f1 d a rfl rfl
      · exact fr' a z
    | v d => exact fr' a h
    | b d => exact fr' a h
theorem go_none : (GoodO P (spec P Φ) Gm Φ X) .none := fun O W H σ ρ ρ1 i L e Q c => by
  unfold evOe at e; cases e; exact c H W L .refl
theorem go_some {a : E} (ha : (GoodE P (spec P Φ) Gm Φ X) a) : (GoodO P (spec P Φ) Gm Φ X) (.some a) := fun O W H σ ρ ρ1 i L e Q c => by
  unfold evOe at e
  obtain ⟨ra, ρa, ea, e⟩ := bindO_some e
  refine ha O W H σ ρ ρa ra L ea _ fun va H1 W1 L1 s1 h1 f1 => ?_
  split at e
  · cases e; exact ⟨_, rrInt h1, c H1 W1 L1 s1⟩
  · cases e
end
end Mi
set_option Elab.async false
set_option linter.all false
set_option maxRecDepth 100000
set_option maxHeartbeats 4000000
namespace Mi
open PySem PySem.Spec PyProof.Rows L2
section
variable {P : TP} {Gm : Cfg} {Φ : Phi} {X : XK}
theorem freshAt {O W : AP} {H : Hp} {r : R} {v : V} (fr : ∀ d a, r = .o d → v = .ref a → H a = none) : ∀ a, (∃ x, r = .o x) ∧ v = .ref a → H a = none := fun a ⟨⟨x, e⟩, e2⟩ => fr x a e e2
theorem gi_seq {a : E} (ha : (GoodE P (spec P Φ) Gm Φ X) a) : (GoodI P (spec P Φ) Gm Φ X) (.seq a) := fun O W H σ ρ ρ1 its L e R c => by
  unfold evIt at e
  obtain ⟨ra, ρa, ea, e⟩ := bindO_some e
  refine ha O W H σ ρ ρa ra L ea _ fun va H1 W1 L1 s1 h1 f1 => ?_
  unfold walkD at e
  cases q : freeze ra ρa with
  | none => rw [q] at e; cases e
  | some x =>
    obtain ⟨d, ρb⟩ := x
    rw [q] at e
    dsimp only at e
    obtain ⟨W2, L2', l2, rv⟩ := freeze_ok L1 h1 q
    have s2 := s1.lose L l2 (freshAt (O := O) (W := W) f1)
    cases d with
    | lst l =>
      cases e
      unfold RepV at rv
      obtain ⟨p, vs, rfl, hp, np, hl, hr⟩ := rv
      rcases wok_seq L2' hl hr (.inl ⟨hp, np⟩) with ⟨k, w⟩ | ⟨k, w⟩
      · exact ⟨p, rfl, .inl ⟨k, c _ _ _ L2' s2 w⟩⟩
      · exact ⟨p, rfl, .inr ⟨k, c _ _ _ L2' s2 w⟩⟩
    | tup l =>
      cases e
      unfold RepV at rv
      obtain ⟨p, vs, rfl, hp, hl, hr⟩ := rv
      rcases wok_seq L2' hl hr (.inr hp) with ⟨k, w⟩ | ⟨k, w⟩
      · exact ⟨p, rfl, .inl ⟨k, c _ _ _ L2' s2 w⟩⟩
      · exact ⟨p, rfl, .inr ⟨k, c _ _ _ L2' s2 w⟩⟩
    | _ => cases e
theorem gi_range1 {a : E} (ha : (GoodE P (spec P Φ) Gm Φ X) a) : (GoodI P (spec P Φ) Gm Φ X) (.range1 a) := fun O W H σ ρ ρ1 its L e R c => by
  unfold evIt at e
  obtain ⟨ra, ρa, ea, e⟩ := bindO_some e
  refine ha O W H σ ρ ρa ra L ea _ fun va H1 W1 L1 s1 h1 f1 => ?_
  split at e
  · rename_i j
    unfold rangeD at e
    have hl : ((line : Nat) : Int) = 16777216 := rfl
    rw [hl] at e
    split at e
    · rename_i hz
      obtain ⟨z1, z2, z3, z4, z5⟩ := hz
      cases e
      have h1 : va = .int j := rrInt h1
      subst h1
      refine ⟨j, rfl, by omega, by omega, ?_⟩
      have k := c (Itr 0 (j - 0).toNat) H1 W1 L1 s1 (wok_range (by show _ ≤ 16777216; omega))
      rw [Int.sub_zero] at k
      exact k
    · cases e
  · cases e
theorem gi_range2 {a b : E} (ha : (GoodE P (spec P Φ) Gm Φ X) a) (hb : (GoodE P (spec P Φ) Gm Φ X) b) : (GoodI P (spec P Φ) Gm Φ X) (.range2 a b) := fun O W H σ ρ ρ1 its L e R c => by
  unfold evIt at e
  obtain ⟨ra, ρa, ea, e⟩ := bindO_some e
  obtain ⟨rb, ρb, eb, e⟩ := bindO_some e
  refine ha O W H σ ρ ρa ra L ea _ fun va H1 W1 L1 s1 h1 f1 => hb O W1 H1 σ ρa ρb rb L1 eb _ fun vb H2 W2 L2' s2 h2 f2 => ?_
  split at e
  · rename_i i j e0
    unfold rangeD at e
    have hl : ((line : Nat) : Int) = 16777216 := rfl
    rw [hl] at e
    split at e
    · rename_i hz
      obtain ⟨z1, z2, z3, z4, z5⟩ := hz
      cases e
      have h1 : va = .int i := rrInt h1
      have h2 : vb = .int j := rrInt h2
      subst h1 h2
      exact ⟨i, j, rfl, ⟨by omega, by omega, by omega, by omega⟩, c (Itr i (j - i).toNat) H2 W2 L2' (s1.trans s2) (wok_range (by show _ ≤ 16777216; omega))⟩
    · cases e
  · cases e
theorem gi_zip {a b : E} (ha : (GoodE P (spec P Φ) Gm Φ X) a) (hb : (GoodE P (spec P Φ) Gm Φ X) b) : (GoodI P (spec P Φ) Gm Φ X) (.zip a b) := fun O W H σ ρ ρ1 its L e R c => by
  unfold evIt at e
  obtain ⟨ra, ρa, ea, e⟩ := bindO_some e
  obtain ⟨rb, ρb, eb, e⟩ := bindO_some e
  obtain ⟨d, ρc, ec, e⟩ := bindO_some e
  obtain ⟨d', ρd, ed, e⟩ := bindO_some e
  refine ha O W H σ ρ ρa ra L ea _ fun va H1 W1 L1 s1 h1 f1 => hb O W1 H1 σ ρa ρb rb L1 eb _ fun vb H2 W2 L2' s2 h2 f2 => ?_
  have h1' := h1.step L1 s2
  obtain ⟨W3, L3, l3, r1⟩ := freeze_ok L2' h1' ec
  have s3 := (s1.trans s2).lose L l3 (freshAt (O := O) (W := W) f1)
  have h2' : RepR P O W3 H2 σ ρc rb vb := h2.lose l3 fun x p e1 e2 z => by
    obtain ⟨⟨y, e3⟩, e4⟩ := z
    subst e3 e4
    exact h1.mutAt L1 (f2 x p e1 e2)
  obtain ⟨W4, L4, l4, r2⟩ := freeze_ok L3 h2' ed
  have f2' : ∀ d a, rb = .o d → vb = .ref a → H a = none := fun d a e1 e2 => Classical.byContradiction fun q => s1.alive a q (f2 d a e1 e2)
  have s4 := s3.lose L l4 (freshAt (O := O) (W := W) f2')
  have r1 : RepV P (Av O W4) H2 d va := r1.kp (Kp.less fun b z => z.elim .inl fun q => .inr (l4.sub b q))
  unfold zipD at e
  cases q1 : itemsD d with
  | none => rw [q1] at e; cases e
  | some x =>
    cases q2 : itemsD d' with
    | none => rw [q1, q2] at e; cases e
    | some y =>
      rw [q1, q2] at e
      cases e
      obtain ⟨p, vs, t, rfl, hl, hr, hp, kp⟩ := seq_of L4 q1 r1
      obtain ⟨p', us, u, rfl, hl', hr', hp', kp'⟩ := seq_of L4 q2 r2
      refine ⟨p, p', vs, us, t, u, rfl, hp, hp', c _ _ _ L4 s4 ⟨?_, _, _, walk_zipG (xs := vs) (ys := us) ?_, fun H3 s => ⟨kp H3 s, kp' H3 s⟩, zip_yok L4 hr hr'⟩⟩
      · rw [List.length_zipWith]; omega
      · rw [List.length_zipWith, hr.length, hr'.length]
theorem gi_enum {a : E} (ha : (GoodE P (spec P Φ) Gm Φ X) a) : (GoodI P (spec P Φ) Gm Φ X) (.enum a) := fun O W H σ ρ ρ1 its L e R c => by
  unfold evIt at e
  obtain ⟨ra, ρa, ea, e⟩ := bindO_some e
  obtain ⟨d, ρb, eb, e⟩ := bindO_some e
  refine ha O W H σ ρ ρa ra L ea _ fun va H1 W1 L1 s1 h1 f1 => ?_
  obtain ⟨W2, L2', l2, rv⟩ := freeze_ok L1 h1 eb
  have s2 := s1.lose L l2 (freshAt (O := O) (W := W) f1)
  cases d with
  | lst l =>
    cases e
    unfold RepV at rv
    obtain ⟨p, vs, rfl, hp, np, hl, hr⟩ := rv
    exact ⟨p, vs, rfl, .inl ⟨.inl (.inl hp), c _ _ _ L2' s2 (wok_enum L2' hl hr hp np)⟩⟩
  | tup l =>
    cases e
    unfold RepV at rv
    obtain ⟨p, vs, rfl, hp, hl, hr⟩ := rv
    exact ⟨p, vs, rfl, .inr ⟨hp.sqT, c _ _ _ L2' s2 (wok_enumT L2' hl hr hp)⟩⟩
  | _ => cases e
theorem ge_make {C : Nat} {es : Es} (h : (GoodEs P (spec P Φ) Gm Φ X) es) : (GoodE P (spec P Φ) Gm Φ X) (.make C es) := fun O W H σ ρ ρ1 r L e Q c => by
  unfold evE at e
  obtain ⟨rs, ρa, ea, e⟩ := bindO_some e
  refine h O W H σ ρ ρa rs L ea _ fun vs H1 W1 L1 s1 hr nd fr => ?_
  unfold makeF at e
  cases q : freezes rs ρa with
  | none => rw [q] at e; cases e
  | some x =>
    obtain ⟨ds, ρb⟩ := x
    rw [q] at e
    dsimp only at e
    obtain ⟨W2, L2', l2, hv⟩ := freezes_ok L1 hr nd q
    have s2 := s1.lose L l2 fr
    cases q2 : Gm.io C with
    | none => rw [q2] at e; cases e
    | some io =>
      rw [q2] at e
      dsimp only at e
      split at e
      · cases q3 : Φ C ((true, .ins C [] []) :: ds.map fun d => (false, d)) with
        | none => rw [q3] at e; cases e
        | some y =>
          rw [q3] at e
          split at e
          · rename_i d0 e1
            cases e1
            cases e
            intro x dx hx hdx hne
            rw [List.append_nil]
            have hdx' : ∀ a o, H1 a = some o → (upd (upd H1 dx (.own x)) x (.ins (P.cls C) dx [])) a = some o := fun a o e => by
              rw [upd_ne (ne_of_none e hx), upd_ne (ne_of_none e hdx)]; exact e
            have kA : Kp (fun _ => False) (Av O W2) (Av (Av O W2) (InL [x])) H1 (upd (upd H1 dx (.own x)) x (.ins (P.cls C) dx [])) := ⟨fun a o e _ _ => hdx' a o e, fun _ z => z.elim, fun _ z => z.elim, fun a z => by
              rcases z with z | z
              · exact .inl z
              · rw [List.mem_singleton.mp z]; exact .inr hx⟩
            have args : ∀ {ds : List D} {vs : List V}, RepVs P (Av O W2) H1 ds vs → ArgsRep P (Av (Av O W2) (InL [x])) (upd (upd H1 dx (.own x)) x (.ins (P.cls C) dx [])) (ds.map fun d => (false, d)) vs [] := by
              intro ds
              induction ds with
              | nil => intro vs h; unfold RepVs at h; subst h; exact .nil
              | cons d ds ih =>
                intro vs h
                obtain ⟨v, us, rfl, h1, h2⟩ := h.uncons
                exact .fro (h1.kp kA) (ih h2)
            refine ⟨Av O W2, _, [x], .own (show OwnV P _ _ (.ins C [] []) x from ⟨dx, [], by rw [upd_same]; rfl, rfl, .nil⟩) (args hv), by simp, fun a ha z => ?_, fun a z => ?_, tabs_new (tabs_new L2'.tabs hdx) (by rw [upd_ne (Ne.symm hne)]; exact hx), .inl ⟨_, _, q3, fun v H' W' rt => ⟨?_, ?_⟩⟩⟩
            · rw [List.mem_singleton.mp ha] at z
              rcases z with z | z
              · exact L2'.oal x z hx
              · obtain ⟨o, e, _⟩ := L2'.wmut x z
                rw [hx] at e; cases e
            · have : H1 a ≠ none := by
                rcases z with z | z
                · exact L2'.oal a z
                · obtain ⟨o, e, _⟩ := L2'.wmut a z
                  rw [e]; exact (fun z => nomatch z)
              cases q : H1 a with
              | none => exact absurd q this
              | some o => rw [hdx' a o q]; exact (fun z => nomatch z)
            · have hval : RepV P (Av (Av O W2) W') H' .non v := rt.val
              unfold RepV at hval; exact hval
            · -- behind
              have keep : ∀ a o, H1 a = some o → nT o → H' a = some o := fun a o e nt => rt.keep a o (hdx' a o e) nt fun z => by rw [List.mem_singleton.mp z, hx] at e; cases e
              have new : ∀ a, W' a → H1 a = none := fun a w => by
                rcases rt.new a w with z | z
                · rw [List.mem_singleton.mp z]; exact hx
                · cases q : H1 a with
                  | none => rfl
                  | some o => rw [hdx' a o q] at z; cases z
              have k3 : Kp (fun _ => False) (Av O W2) (Av O fun a => W2 a ∨ W' a) H1 H' := ⟨fun a o e nt _ => keep a o e nt, fun _ z => z.elim, fun _ z => z.elim, fun a z => by
                rcases z with z | z | z
                · exact .inl (.inl z)
                · exact .inl (.inr z)
                · exact .inr (new a z)⟩
              have alive : ∀ a, H1 a ≠ none → H' a ≠ none := fun a n => rt.alive a (by
                cases q : H1 a with
                | none => exact absurd q n
                | some o => rw [hdx' a o q]; exact (fun z => nomatch z))
              have wx : W' x := rt.adsW x List.mem_cons_self
              have L3 : Rel P O (fun a => W2 a ∨ W' a) H' σ ρ1 := by
                refine ⟨L2'.len, fun a z => ?_, fun a z => alive a (L2'.oal a z), fun a z q => ?_, fun i d e => ?_, fun i d e => ?_, L2'.inj, rt.tabs⟩
                · rcases z with z | z
                  · obtain ⟨o, e, m⟩ := L2'.wmut a z
                    exact ⟨o, keep a o e (nT_mut m), m⟩
                  · exact rt.muts a z
                · rcases z with z | z
                  · exact L2'.ow a z q
                  · exact L2'.oal a q (new a z)
                · obtain ⟨v, e1, rv⟩ := L2'.fro i d e
                  exact ⟨v, e1, rv.kp k3⟩
                · obtain ⟨a, e1, w, ho⟩ := L2'.own i d e
                  exact ⟨a, e1, .inl w, ho.kp k3 fun z => z⟩
              have s3 : Step σ ρ W H ρ1 (fun a => W2 a ∨ W' a) H' := by
                refine ⟨fun a o e nt n => keep a o (s2.keep a o e nt n) nt, fun a z => ?_, fun a z n => .inl (s2.stay a z n), s2.own, s2.there, fun a n => alive a (s2.alive a n)⟩
                rcases z with z | z
                · exact s2.new a z
                · exact .inr (Classical.byContradiction fun q => s2.alive a q (new a z))
              have ho : OwnV P (Av (Av O W2) W') H' d0 x := by
                have h := rt.outR
                cases h with
                | cons h _ => exact h
              refine c (.ref x) H' _ L3 s3 ⟨x, rfl, .inr wx, fun z => ?_, ho.kp (Kp.less fun a z => ?_) fun z => z⟩ fun d a _ e => ?_
              · obtain ⟨o, e, _⟩ := L2'.wmut x (L2'.ownW z)
                rw [hx] at e; cases e
              · rcases z with z | z | z
                · exact .inl (.inl z)
                · exact .inl (.inr z)
                · exact .inr z
              · cases e
                exact Classical.byContradiction fun q => s2.alive x q hx
          · cases e
      · cases e
theorem ge_meth {m : Mth} {a b : E} (ha : (GoodE P (spec P Φ) Gm Φ X) a) (hb : (GoodE P (spec P Φ) Gm Φ X) b) : (GoodE P (spec P Φ) Gm Φ X) (.meth m a b) := fun O W H σ ρ ρ1 r L e Q c => by
  unfold evE at e
  obtain ⟨ra, ρa, ea, e⟩ := bindO_some e
  obtain ⟨rb, ρb, eb, e⟩ := bindO_some e
  cases q0 : deref ρa ra with
  | none => rw [q0] at e; cases e
  | some x0 =>
    cases q1 : deref ρb ra with
    | none => rw [q0, q1] at e; cases e
    | some x =>
      cases q2 : deref ρb rb with
      | none => rw [q0, q1, q2] at e; cases e
      | some y =>
        rw [q0, q1, q2] at e
        dsimp only at e
        split at e
        · rename_i hk
          cases q3 : mthD m x y with
          | none => rw [q3] at e; cases e
          | some d =>
            rw [q3] at e; cases e
            have tyL : ∀ {H : Hp} {A : AP} {l : List D} {v : V}, RepB P A H (.lst l) v → tyV P.K "list" v H := fun h => by
              obtain ⟨p, vs, rfl, hp, _, _⟩ := repLst h
              exact .inl ⟨rfl, vs, .inl (.inl hp)⟩
            have tyT : ∀ {H : Hp} {A : AP} {l : List D} {v : V}, RepB P A H (.tup l) v → TyD P.K "tuple" v H := fun h => by
              obtain ⟨p, vs, rfl, hp, _, _⟩ := repTup h
              exact .inr ⟨rfl, p, vs, rfl, hp⟩
            cases x with
            | lst l =>
              cases x0 with
              | lst l0 =>
                cases m with
                | index =>
                  refine .inl (ha O W H σ ρ ρa ra L ea _ fun va H1 W1 L1 s1 h1 f1 => ⟨tyL (h1.deref L1 q0), hb O W1 H1 σ ρa ρ1 rb L1 eb _ fun vb H2 W2 L2' s2 h2 f2 => ?_⟩)
                  have k1 := (h1.step L1 s2).deref L2' q1
                  have k2 := h2.deref L2' q2
                  obtain ⟨p, vs, rfl, hp, hl, hr⟩ := repLst k1
                  simp only [mthD, itemsD, Option.bind_some] at q3
                  split at q3
                  · rename_i hf
                    rw [Bool.and_eq_true] at hf
                    cases q4 : ixFind (fun z => eqF z y) l with
                    | none => rw [q4] at q3; cases q3
                    | some j =>
                      rw [q4] at q3; cases q3
                      obtain ⟨z, g1, g2, g3⟩ := find_rep hf.1 k2 hf.2 hr q4
                      exact ⟨p, vs, vb, j, z, rfl, rfl, .inl (.inl hp), (flat_rep hf.1 k2).1, flats_rep hf.2 hr, g1, g2, g3, (c.from (s1.trans s2)).int L2' rfl⟩
                  · cases q3
                | count =>
                  refine ha O W H σ ρ ρa ra L ea _ fun va H1 W1 L1 s1 h1 f1 => ⟨tyL (h1.deref L1 q0), hb O W1 H1 σ ρa ρ1 rb L1 eb _ fun vb H2 W2 L2' s2 h2 f2 => ?_⟩
                  have k1 := (h1.step L1 s2).deref L2' q1
                  have k2 := h2.deref L2' q2
                  obtain ⟨p, vs, rfl, hp, hl, hr⟩ := repLst k1
                  cases y with
                  | int k =>
                    have q3 : ((intsD l).map fun ns => D.int (ns.count k)) = some d := q3
                    cases q4 : intsD l with
                    | none => rw [q4] at q3; cases q3
                    | some ns =>
                      rw [q4] at q3; cases q3
                      have e1 := repInt k2
                      subst e1
                      exact ⟨p, ns, k, rfl, rfl, by rw [← repInts q4 hr]; exact .inl (.inl hp), (c.from (s1.trans s2)).int L2' rfl⟩
                  | _ => cases q3
                | countF =>
                  refine ha O W H σ ρ ρa ra L ea _ fun va H1 W1 L1 s1 h1 f1 => ⟨tyL (h1.deref L1 q0), hb O W1 H1 σ ρa ρ1 rb L1 eb _ fun vb H2 W2 L2' s2 h2 f2 => ?_⟩
                  have k1 := (h1.step L1 s2).deref L2' q1
                  have k2 := h2.deref L2' q2
                  obtain ⟨p, vs, rfl, hp, hl, hr⟩ := repLst k1
                  have q3 : (if flatD y && l.all flatD then some (D.int (l.countP fun z => eqF z y : Nat)) else none) = some d := q3
                  split at q3
                  · rename_i hf
                    rw [Bool.and_eq_true] at hf
                    cases q3
                    refine ⟨p, vs, vb, rfl, rfl, .inl (.inl hp), (flat_rep hf.1 k2).1, flats_rep hf.2 hr, ?_⟩
                    rw [countF_rep hf.1 k2 hf.2 hr]
                    exact (c.from (s1.trans s2)).int L2' rfl
                  · cases q3
                | countT => cases q3
              | _ => cases hk
            | tup l =>
              cases x0 with
              | tup l0 =>
                cases m with
                | index =>
                  refine .inr (ha O W H σ ρ ρa ra L ea _ fun va H1 W1 L1 s1 h1 f1 => ⟨tyT (h1.deref L1 q0), hb O W1 H1 σ ρa ρ1 rb L1 eb _ fun vb H2 W2 L2' s2 h2 f2 => ?_⟩)
                  have k1 := (h1.step L1 s2).deref L2' q1
                  have k2 := h2.deref L2' q2
                  obtain ⟨p, vs, rfl, hp, hl, hr⟩ := repTup k1
                  simp only [mthD, itemsD, Option.bind_some] at q3
                  split at q3
                  · rename_i hf
                    rw [Bool.and_eq_true] at hf
                    cases q4 : ixFind (fun z => eqF z y) l with
                    | none => rw [q4] at q3; cases q3
                    | some j =>
                      rw [q4] at q3; cases q3
                      obtain ⟨z, g1, g2, g3⟩ := find_rep hf.1 k2 hf.2 hr q4
                      exact ⟨p, vs, vb, j, z, rfl, rfl, hp.sqT, (flat_rep hf.1 k2).1, flats_rep hf.2 hr, g1, g2, g3, (c.from (s1.trans s2)).int L2' rfl⟩
                  · cases q3
                | count => cases y <;> cases q3
                | countF => cases q3
                | countT =>
                  refine ha O W H σ ρ ρa ra L ea _ fun va H1 W1 L1 s1 h1 f1 => ⟨tyT (h1.deref L1 q0), hb O W1 H1 σ ρa ρ1 rb L1 eb _ fun vb H2 W2 L2' s2 h2 f2 => ?_⟩
                  have k1 := (h1.step L1 s2).deref L2' q1
                  have k2 := h2.deref L2' q2
                  have q3 : (match toPy y, toPys l with
                    | some px, some ps => if SeqAt.shaped px = true ∧ SeqAt.shaped (.tuple ps) = true then some (D.int (ps.countP fun z => PyData.eqv z px : Nat)) else none
                    | _, _ => none) = some d := q3
                  cases e1 : toPy y with
                  | none => rw [e1] at q3; cases q3
                  | some px =>
                    cases e2 : toPys l with
                    | none => rw [e1, e2] at q3; cases q3
                    | some ps =>
                      rw [e1, e2] at q3
                      dsimp only at q3
                      split at q3
                      · rename_i hs
                        cases q3
                        exact ⟨vb, px, ps, rfl, rep_dp e1 k2, hs.1, rep_dp (d := .tup l) (by unfold toPy; rw [e2]; rfl) k1, hs.2, (c.from (s1.trans s2)).int L2' rfl⟩
                      · cases q3
              | _ => cases hk
            | _ =>
              cases m with
              | index => cases q3
              | count => cases y <;> cases q3
              | countF => cases q3
              | countT => cases q3
        · cases e
end
end Mi
set_option Elab.async false
set_option linter.all false
set_option maxRecDepth 100000
set_option maxHeartbeats 4000000
namespace Mi
open PySem PySem.Spec PyProof.Rows L2
section
variable {P : TP} {Gm : Cfg} {Φ : Phi} {X : XK}
section
variable {O W : AP} {H : Hp} {σ : L2.St} {ρ : Env} {i : Nat} {l l' : List D} {ws ws' : List V} {a : Addr} {d : D} {v : V} {Q : VK}
theorem mut_go (L : Rel P O W H σ ρ) (hi : eget ρ i = some (true, .lst l)) (hs : σ[i]? = some (some (.ref a))) (hl : l'.length ≤ line) (hr : RepVs P (Av O W) H l' ws') (hd : RepV P (Av O W) H d v)
    (c : Cont P O σ ρ W H (ρ.set i (some (true, .lst l'))) (.v d) Q) : Q v (upd H a (.lst ws')) := by
  obtain ⟨L1, s1⟩ := L.write (o' := .lst ws') (d' := .lst l') hi hs rfl fun k => ⟨ws', upd_same, hl, hr.kp k⟩
  exact c v _ W L1 s1 (hd.kp (s1.kp L)) fun _ _ e => nomatch e
theorem intsD_flat : ∀ {l : List D} {ns : List Int}, intsD l = some ns → l.all flatD = true
  | [], _, _ => rfl
  | d :: r, ns, e => by
    cases d with
    | int k =>
      have e : (intsD r).map (k :: ·) = some ns := e
      cases q : intsD r with
      | none => rw [q] at e; cases e
      | some m => rw [List.all_cons, intsD_flat q]; rfl
    | _ => cases e
/-- what the method reads and writes -/
theorem mut_ok {m : Mut} {l : List D} {ds : List D} {vs : List V} {p : List D × D} (L : Rel P O W H σ ρ) (hi : eget ρ i = some (true, .lst l)) (hs : σ[i]? = some (some (.ref a))) (hv : RepVs P (Av O W) H ds vs) (e : mutD m l ds = some p)
    (c : Cont P O σ ρ W H (ρ.set i (some (true, .lst p.1))) (.v p.2) Q) :
    match m with
    | .append => rAppend (.ref a) vs H Q
    | .pop0 => vs = [] ∧ rPop (.ref a) [] H Q
    | .pop => rPopAt (.ref a) vs H Q
    | .remove => rRem (.ref a) vs H Q
    | .extend => rExtend (.ref a) vs H Q
    | .insert => rInsert (.ref a) vs H Q := by
  obtain ⟨b, e1, w, ws, ha, hl, hr⟩ := L.own i _ hi
  rw [hs] at e1
  cases e1
  have hlen := hr.length
  have one : ∀ {x : D}, ds = [x] → ∃ u, vs = [u] ∧ RepV P (Av O W) H x u := fun {x} e => by
    subst e
    obtain ⟨u, us, rfl, h1, h2⟩ := hv.uncons
    unfold RepVs at h2
    subst h2
    exact ⟨u, rfl, h1⟩
  cases m with
  | append =>
    cases ds with
    | nil => cases e
    | cons x r =>
      cases r with
      | cons _ _ => cases e
      | nil =>
        have e : (if l.length < line then some (l ++ [x], D.non) else none) = some p := e
        split at e
        · rename_i hz
          cases e
          obtain ⟨u, rfl, hu⟩ := one rfl
          exact ⟨a, ws, u, rfl, rfl, ha, by rw [← hlen, line_eq]; exact hz, mut_go L hi hs (by rw [List.length_append]; exact hz) (hr.append (.cons hu .nil)) (by unfold RepV; rfl) c⟩
        · cases e
  | pop0 =>
    cases ds with
    | cons x r => cases e
    | nil =>
      unfold RepVs at hv
      subst hv
      have e : ((l[l.length - 1]?).map fun y => (l.dropLast, y)) = some p := e
      cases q : l[l.length - 1]? with
      | none => rw [q] at e; cases e
      | some y =>
        rw [q] at e
        cases e
        obtain ⟨u, hu, ru⟩ := hr.get q
        exact ⟨rfl, a, ws, u, rfl, rfl, ha, by rw [← hlen]; exact hu, mut_go L hi hs (by rw [List.length_dropLast]; omega) hr.dropLast ru c⟩
  | pop =>
    cases ds with
    | nil => cases e
    | cons x r =>
      cases r with
      | cons _ _ => cases x <;> cases e
      | nil =>
        cases x with
        | int k =>
          have e : ((ixOf l.length k).bind fun j => (l[j]?).map fun y => (l.eraseIdx j, y)) = some p := e
          cases q1 : ixOf l.length k with
          | none => rw [q1] at e; cases e
          | some j =>
            rw [q1] at e
            have e : ((l[j]?).map fun y => (l.eraseIdx j, y)) = some p := e
            cases q : l[j]? with
            | none => rw [q] at e; cases e
            | some y =>
              rw [q] at e
              cases e
              obtain ⟨u, hu, ru⟩ := hr.get q
              obtain ⟨t, rfl, ht⟩ := one rfl
              have := repVInt ht
              subst this
              rw [ixOf_eq] at q1
              obtain ⟨g1, g2, g3, g4⟩ := ixN_seq q1
              have hz : (l.length : Int) ≤ 16777216 := Int.ofNat_le.mpr hl
              exact ⟨a, ws, k, j, u, rfl, rfl, ha, by omega, by omega, by rw [← hlen]; exact g1, hu, mut_go L hi hs (Nat.le_trans (List.length_eraseIdx_le l j) hl) (hr.eraseIdx j) ru c⟩
        | _ => cases e
  | remove =>
    cases ds with
    | nil => cases e
    | cons x r =>
      cases r with
      | cons _ _ => cases x <;> cases e
      | nil =>
        cases x with
        | int k =>
          have e : ((intsD l).bind fun ns => (ixFind (fun z => eqF z (.int k)) l).map fun j => (l.eraseIdx j, D.non)) = some p := e
          cases q1 : intsD l with
          | none => rw [q1] at e; cases e
          | some ns =>
            rw [q1] at e
            have e : ((ixFind (fun z => eqF z (.int k)) l).map fun j => (l.eraseIdx j, D.non)) = some p := e
            cases q : ixFind (fun z => eqF z (.int k)) l with
            | none => rw [q] at e; cases e
            | some j =>
              rw [q] at e
              cases e
              obtain ⟨t, rfl, ht⟩ := one rfl
              have ht' := repVInt ht
              subst ht'
              obtain ⟨z, g1, g2, g3⟩ := find_rep (x := .int k) rfl ht.repB (intsD_flat q1) hr q
              have hw := repInts q1 hr
              subst hw
              have get : ∀ (m : Nat) (z : V), (ns.map V.int)[m]? = some z → ∃ n, ns[m]? = some n ∧ z = .int n := fun m z h => by
                rw [List.getElem?_map] at h
                cases h' : ns[m]? with
                | none => rw [h'] at h; cases h
                | some n => rw [h'] at h; cases h; exact ⟨n, rfl, rfl⟩
              have eqi : ∀ n : Int, eqV (.int n) (.int k) = decide (n = k) := fun n => by simp only [eqV]; exact Bool.eq_iff_iff.mpr (by simp)
              obtain ⟨n, hn, rfl⟩ := get j z g1
              rw [eqi, decide_eq_true_eq] at g2
              subst g2
              refine ⟨a, ns, n, j, rfl, rfl, ha, hn, fun m hm hmk => ?_, ?_⟩
              · have := g3 m (.int n) hm (by rw [List.getElem?_map, hmk]; rfl)
                rw [eqi] at this
                simp at this
              · have hk := hr.eraseIdx j
                have he : (ns.eraseIdx j).map V.int = (ns.map V.int).eraseIdx j := by
                  rw [List.eraseIdx_eq_take_drop_succ, List.eraseIdx_eq_take_drop_succ, List.map_append, List.map_take, List.map_drop]
                rw [he]
                exact mut_go L hi hs (Nat.le_trans (List.length_eraseIdx_le l j) hl) hk (by unfold RepV; rfl) c
        | _ => cases e
  | extend =>
    cases ds with
    | nil => cases e
    | cons x r =>
      cases r with
      | cons _ _ => cases x <;> cases e
      | nil =>
        cases x with
        | lst y =>
          have e : (if l.length + y.length ≤ line then some (l ++ y, D.non) else none) = some p := e
          split at e
          · rename_i hz
            cases e
            obtain ⟨u, rfl, hu⟩ := one rfl
            unfold RepV at hu
            obtain ⟨b, zs, rfl, hb, nb, _, hrb⟩ := hu
            exact ⟨a, b, ws, zs, rfl, rfl, ha, hb, by rw [← hlen, ← hrb.length, line_eq]; exact hz, mut_go L hi hs (by rw [List.length_append]; exact hz) (hr.append hrb) (by unfold RepV; rfl) c⟩
          · cases e
        | _ => cases e
  | insert =>
    cases ds with
    | nil => cases e
    | cons x r =>
      cases r with
      | nil => cases x <;> cases e
      | cons y r =>
        cases r with
        | cons _ _ => cases x <;> cases e
        | nil =>
          cases x with
          | int k =>
            have e : (if l.length < line ∧ 0 ≤ k ∧ k < line then some (l.take k.toNat ++ [y] ++ l.drop k.toNat, D.non) else none) = some p := e
            split at e
            · rename_i hz
              obtain ⟨z1, z2, z3⟩ := hz
              cases e
              obtain ⟨u, us, rfl, h1, h2⟩ := hv.uncons
              obtain ⟨t, us, rfl, h3, h4⟩ := h2.uncons
              unfold RepVs at h4
              subst h4
              have := repVInt h1
              subst this
              have hl2 : ((line : Nat) : Int) = 16777216 := rfl
              rw [hl2] at z3
              refine ⟨a, ws, k, t, rfl, rfl, ha, by rw [← hlen, line_eq]; exact z1, z2, by omega, mut_go L hi hs ?_ (((hr.take k.toNat).append (.cons h3 .nil)).append (hr.drop k.toNat)) (by unfold RepV; rfl) c⟩
              simp only [List.length_append, List.length_take, List.length_drop, List.length_cons, List.length_nil]
              omega
            · cases e
          | _ => cases e
end
theorem ge_mut {m : Mut} {i : Nat} {es : Es} (h : (GoodEs P (spec P Φ) Gm Φ X) es) : (GoodE P (spec P Φ) Gm Φ X) (.mut m i es) := fun O W H σ ρ ρ1 r L e Q c => by
  unfold evE at e
  split at e
  · rename_i l0 hi
    obtain ⟨rs, ρa, ea, e⟩ := bindO_some e
    obtain ⟨ds, ρb, eb, e⟩ := bindO_some e
    split at e
    · rename_i l hib
      cases q : mutD m l ds with
      | none => rw [q] at e; cases e
      | some p =>
        rw [q] at e
        cases e
        obtain ⟨a, hs, w, ws, ha, hl, hr⟩ := L.own i _ hi
        have ty : tyV P.K "list" (.ref a) H := .inl ⟨rfl, ws, .inl (.inl ha)⟩
        have go : ∀ vs H1 W1, Rel P O W1 H1 σ ρa → Step σ ρ W H ρa W1 H1 → RepRs P O W1 H1 σ ρa rs vs → (tmps rs vs).Nodup → (∀ a ∈ tmps rs vs, H a = none) → ∃ W2, Rel P O W2 H1 σ ρb ∧ RepVs P (Av O W2) H1 ds vs ∧ Cont P O σ ρb W2 H1 (ρb.set i (some (true, .lst p.1))) (.v p.2) Q := fun vs H1 W1 L1 s1 hr nd fr => by
          obtain ⟨W2, L2', l2, hv⟩ := freezes_ok L1 hr nd eb
          exact ⟨W2, L2', hv, c.from (s1.lose L l2 fr)⟩
        cases m with
        | append => exact ⟨_, hs, ty, h O W H σ ρ ρa rs L ea _ fun vs H1 W1 L1 s1 hr nd fr => let ⟨_, L2', hv, c2⟩ := go vs H1 W1 L1 s1 hr nd fr; mut_ok L2' hib hs hv q c2⟩
        | pop => exact ⟨_, hs, ty, h O W H σ ρ ρa rs L ea _ fun vs H1 W1 L1 s1 hr nd fr => let ⟨_, L2', hv, c2⟩ := go vs H1 W1 L1 s1 hr nd fr; mut_ok L2' hib hs hv q c2⟩
        | remove => exact ⟨_, hs, ty, h O W H σ ρ ρa rs L ea _ fun vs H1 W1 L1 s1 hr nd fr => let ⟨_, L2', hv, c2⟩ := go vs H1 W1 L1 s1 hr nd fr; mut_ok L2' hib hs hv q c2⟩
        | extend => exact ⟨_, hs, ty, h O W H σ ρ ρa rs L ea _ fun vs H1 W1 L1 s1 hr nd fr => let ⟨_, L2', hv, c2⟩ := go vs H1 W1 L1 s1 hr nd fr; mut_ok L2' hib hs hv q c2⟩
        | insert => exact ⟨_, hs, ty, h O W H σ ρ ρa rs L ea _ fun vs H1 W1 L1 s1 hr nd fr => let ⟨_, L2', hv, c2⟩ := go vs H1 W1 L1 s1 hr nd fr; mut_ok L2' hib hs hv q c2⟩
        | pop0 =>
          have hn : es = .nil := by
            cases ds with
            | cons _ _ => cases q
            | nil =>
              cases rs with
              | nil =>
                cases es with
                | nil => rfl
                | cons x r =>
                  unfold evEs at ea
                  obtain ⟨x, ρ3, e3, ea⟩ := bindO_some ea
                  obtain ⟨xs, ρ4, e4, ea⟩ := bindO_some ea
                  cases ea
              | cons x xs =>
                unfold freezes at eb
                cases q1 : freeze x ρa with
                | none => rw [q1] at eb; cases eb
                | some y =>
                  obtain ⟨y1, y2⟩ := y
                  rw [q1] at eb
                  dsimp only at eb
                  cases q2 : freezes xs y2 with
                  | none => rw [q2] at eb; cases eb
                  | some z => rw [q2] at eb; cases eb
          subst hn
          unfold evEs at ea
          cases ea
          cases eb
          have k := mut_ok (Q := Q) L hib hs (ds := []) (vs := []) .nil q c
          exact ⟨_, hs, ty, k.2⟩
    · cases e
  · cases e
theorem wipe_eq_of {ns : List Nat} {T : Nat → Prop} {σ σ1 : L2.St} {ρ ρ1 : Env} (ch : Chg T (L2.wipe σ ns) ρ σ1 ρ1) (h : ∀ j, T j → j ∈ ns) : L2.wipe σ1 ns = L2.wipe σ ns :=
  wipe_eq (by rw [ch.lenS, wipe_length]) fun i n => by
    rw [(ch.out i fun z => n (h i z)).1, wipe_out n]
theorem ge_comp {ns : List Nat} {tg : Tg} {it : It} {t : T} {b : E} (hi : GoodI P (spec P Φ) Gm Φ E0 it) (ht : GoodT P (spec P Φ) Gm Φ E0 t) (hb : GoodE P (spec P Φ) Gm Φ E0 b) : (GoodE P (spec P Φ) Gm Φ X) (.comp ns tg it t b) := fun O W H σ ρ ρ1 r L e Q c => by
  unfold evE at e
  split at e
  · cases e
  · rename_i hin
    have hin : tgIn ns tg = true := by simpa using hin
    obtain ⟨its, ρa, ea, e⟩ := bindO_some e
    obtain ⟨accF, ρF, eb, e⟩ := bindO_some e
    cases e
    refine hi O W H σ ρ ρa its L ea _ fun J H1 W1 L1 s1 wok => fun D0 hD => ?_
    obtain ⟨hlen, G, Y, walk, stays, yok⟩ := wok
    have nO : ¬ O D0 := fun z => L1.oal D0 z hD
    let O' : AP := fun a => O a ∨ a = D0
    -- the turn
    let turn : Itm → Env → Option (Option D × Env) := fun d ρ2 => match setItm tg d ρ2 with
        | some ρ3 => bindO (evT Gm Φ t ρ3) fun k ρ4 => match k with
          | true => bindO (evE Gm Φ b ρ4) fun r ρ5 => bindO (freeze r ρ5) fun x ρ6 => some (some x, ρ6)
          | false => some (none, ρ4)
        | none => none
    let Pv : Nat → Hp → Prop := fun i Hh => ∃ acc us ρi Wi, compGo ns turn (its.drop i) acc ρi = some (accF, ρ1) ∧ Rel P O' Wi Hh σ ρi ∧ Step σ ρa W1 H1 ρi Wi Hh ∧ Hh D0 = some (.lst us) ∧ RepVs P (Av O' Wi) Hh acc us ∧ acc.length ≤ i
    have wD : ∀ {Wi Hh ρi}, Rel P O' Wi Hh σ ρi → ¬ OwnA σ ρi D0 := fun Li z => Li.ow D0 (Li.ownW z) (.inr rfl)
    refine lc_it walk Pv ?_ (fun i Hh hi p => ?_) (fun i x Hh H' hin' p y => ?_) fun Hh p => ?_
    · obtain ⟨L2', s2⟩ := L1.laidO (o := .lst []) hD
      exact ⟨[], [], ρa, W1, eb, L2', s2, upd_same, .nil, Nat.le_refl _⟩
    · obtain ⟨acc, us, ρi, Wi, _, Li, si, _⟩ := p
      exact stays Hh (.of si.keep)
    · obtain ⟨acc, us, ρi, Wi, go, Li, si, hus, hacc, hal⟩ := p
      have hget : its[i]? = some its[i] := List.getElem?_eq_getElem hin'
      have yk := yok i Hh x H' its[i] hget (.of si.keep) y
      rw [List.drop_eq_getElem_cons hin'] at go
      unfold compGo at go
      -- the item's heap
      obtain ⟨Lh, sh⟩ := yok_heap (Li.wipe ns) yk
      obtain ⟨Lh0, sh0⟩ := yok_heap Li yk
      have hus' : H' D0 = some (.lst us) := sh0.keep D0 _ hus nT_lst (wD Li)
      have hacc' := hacc.kp (sh0.kp Li)
      have hT : ∃ res, turn its[i] (wipeE ρi ns) = some res := by
        cases q : turn its[i] (wipeE ρi ns) with
        | none => rw [q] at go; cases go
        | some res => exact ⟨res, rfl⟩
      obtain ⟨res, hT⟩ := hT
      rw [hT] at go
      have hT0 := hT
      simp only [turn] at hT
      cases q1 : setItm tg its[i] (wipeE ρi ns) with
      | none => rw [q1] at hT; cases hT
      | some ρ3 =>
        rw [q1] at hT
        dsimp only at hT
        obtain ⟨k, ρ4, et, hT⟩ := bindO_some hT
        refine itm_ok (Li.wipe ns) yk (fun a z => ?_) q1 fun σ1 L3 ch => ?_
        · rcases z with (z | z) | z
          · exact .inl (.inl z)
          · exact .inr (z ▸ hD)
          · exact (si.new a z).imp .inr fun q => q
        · have inN := tgIn_has hin
          refine ⟨wipe_eq_of ch inN, ?_⟩
          refine ht O' Wi H' σ1 ρ3 ρ4 k L3 et _ fun H3 W3 L4 s4 => ?_
          cases k with
          | false =>
            cases hT
            dsimp only at go
            rw [if_neg (by decide)]
            obtain ⟨L5, s5⟩ := Rel.back Lh0 L3 ch inN L4 s4
            refine ⟨acc, us, _, W3, go, L5, si.trans (sh0.trans s5), s5.keep D0 _ hus' nT_lst (wD Lh0), hacc'.kp (s5.kp Lh0), Nat.le_succ_of_le hal⟩
          | true =>
            rw [if_pos rfl]
            obtain ⟨rx, ρ5, ex, hT⟩ := bindO_some hT
            obtain ⟨x6, ρ6, ef, hT⟩ := bindO_some hT
            cases hT
            dsimp only at go
            refine hb O' W3 H3 σ1 ρ4 ρ5 rx L4 ex _ fun v H4 W4 L5 s5 h5 f5 => ?_
            obtain ⟨W5, L6, l6, rv⟩ := freeze_ok L5 h5 ef
            have f5' : ∀ d a, rx = .o d → v = .ref a → H' a = none := fun d a e1 e2 => Classical.byContradiction fun q => s4.alive a q (f5 d a e1 e2)
            have s6 : Step σ1 ρ3 Wi H' ρ6 W5 H4 := (s4.trans s5).lose L3 l6 (freshAt (O := O) (W := W) f5')
            obtain ⟨L7, s7⟩ := Rel.back Lh0 L3 ch inN L6 s6
            have hus4 : H4 D0 = some (.lst us) := s7.keep D0 _ hus' nT_lst (wD Lh0)
            have hacc4 := hacc'.kp (s7.kp Lh0)
            obtain ⟨L8, k8⟩ := L7.writeO (o := .lst (us ++ [v])) (p := D0) (.inr rfl) hus4 rfl
            refine ⟨us, hus4, ?_, acc ++ [x6], us ++ [v], _, W5, go, L8, (si.trans (sh0.trans s7)).writeO hD, upd_same, (hacc4.append (.cons rv .nil)).kp k8, by simp; exact hal⟩
            rw [← hacc.length, line_eq]
            omega
    · obtain ⟨acc, us, ρi, Wi, go, Li, si, hus, hacc, hal⟩ := p
      rw [List.drop_length] at go
      unfold compGo at go
      cases go
      obtain ⟨L9, k9⟩ := Li.takeO hus rfl nO
      have s9 : Step σ ρa W1 H1 ρ1 (fun a => Wi a ∨ a = D0) Hh := ⟨si.keep, fun a z => z.elim (si.new a) fun q => .inr (q ▸ hD), fun a z n => .inl (si.stay a z n), si.own, si.there, si.alive⟩
      refine (c.from s1) (.ref D0) Hh _ L9 s9 ⟨D0, rfl, .inr rfl, wD Li, us, hus, by omega, hacc.kp k9⟩ fun d a _ e => ?_
      cases e
      exact hD
end
end Mi
set_option Elab.async false
set_option linter.all false
set_option maxRecDepth 100000
set_option maxHeartbeats 4000000
namespace Mi
open PySem PySem.Spec PyProof.Rows L2
section
variable {P : TP} {Gm : Cfg} {Φ : Phi} {X : XK}
section
variable {O W W1 : AP} {H H1 : Hp} {σ : L2.St} {ρ ρ1 : Env}
/-- one place not seen -/
def hid (p : Addr) (H : Hp) : Hp := fun a => if a = p then none else H a
theorem hid_same {p : Addr} : hid p H p = none := if_pos rfl
theorem hid_ne {p a : Addr} (h : a ≠ p) : hid p H a = H a := if_neg h
theorem hid_upd {p : Addr} {o : HO} (h : H p = some o) : upd (hid p H) p o = H := by
  funext a
  by_cases e : a = p
  · subst e; rw [upd_same, h]
  · rw [upd_ne e, hid_ne e]
theorem hid_kp {p : Addr} {o : HO} (hp : H p = some o) (hm : isMut o = true) : Kp (fun a => a = p) (Av (fun a => O a ∨ a = p) W) (Av O W) H (hid p H) :=
  ⟨fun a u e _ n => by rw [hid_ne n]; exact e, fun a z => z ▸ ⟨o, hp, hm⟩, fun a z => .inl (.inr z), fun a z => .inl (z.imp .inl id)⟩
theorem tabs_hid {T : List (Addr × Str)} {p : Addr} {u : HO} (t : LamX.Tabs T H) (e : H p = some u) (m : isMut u = true) : LamX.Tabs T (hid p H) := fun q hq => by
  obtain ⟨ps, h1, h2, h3⟩ := t q hq
  have n1 : q.1 ≠ p := fun z => by rw [z, e] at h1; cases h1; cases m
  refine ⟨ps, by rw [hid_ne n1]; exact h1, h2, fun pos cv hc => ?_⟩
  obtain ⟨c, e1, e2⟩ := h3 pos cv hc
  refine ⟨c, e1, ?_⟩
  have n2 : c ≠ p := fun z => by
    rw [z, e] at e2
    have := Option.some.inj e2
    subst this
    cases m
  rw [hid_ne n2]
  exact e2
theorem Rel.hide {p : Addr} {o : HO} (L : Rel P (fun a => O a ∨ a = p) W H σ ρ) (hp : H p = some o) (hm : isMut o = true) (no : ¬ O p) : Rel P O W (hid p H) σ ρ := by
  have k := hid_kp (O := O) (W := W) hp hm
  have nw : ∀ a, W a → a ≠ p := fun a w z => L.ow a w (.inr z)
  refine ⟨L.len, fun a w => ?_, fun a z => ?_, fun a w z => L.ow a w (.inl z), fun i d e => ?_, fun i d e => ?_, L.inj, tabs_hid L.tabs hp hm⟩
  · obtain ⟨u, e, m⟩ := L.wmut a w
    exact ⟨u, by rw [hid_ne (nw a w)]; exact e, m⟩
  · have ne : a ≠ p := fun e => no (by subst e; exact z)
    rw [hid_ne ne]
    exact L.oal a (.inl z)
  · obtain ⟨v, e1, rv⟩ := L.fro i d e
    exact ⟨v, e1, rv.kp k⟩
  · obtain ⟨a, e1, w, ho⟩ := L.own i d e
    exact ⟨a, e1, w, ho.kp k (nw a w)⟩
/-- from a heap that lacks it -/
theorem Step.hide {p : Addr} {o : HO} {K : Hp} {W0 : AP} {ρ0 : Env} (s : Step σ ρ0 W0 (upd K p o) ρ W H) (hk : K p = none) : Step σ ρ0 W0 K ρ W (hid p H) := by
  refine ⟨fun a u e nt n => ?_, fun a w => ?_, s.stay, s.own, s.there, fun a z => ?_⟩
  · have ne := ne_of_none e hk
    rw [hid_ne ne]
    exact s.keep a u (by rw [upd_ne ne]; exact e) nt n
  · rcases s.new a w with h | h
    · exact .inl h
    · by_cases e : a = p
      · subst e; rw [upd_same] at h; cases h
      · rw [upd_ne e] at h; exact .inr h
  · have ne : a ≠ p := fun e => z (e ▸ hk)
    rw [hid_ne ne]
    exact s.alive a (by rw [upd_ne ne]; exact z)
end
theorem ge_dic0 : (GoodE P (spec P Φ) Gm Φ X) .dic0 := fun O W H σ ρ ρ1 r L e Q c => by
  unfold evE at e
  cases e
  intro p hp
  obtain ⟨L1, s1, n1⟩ := L.made (o := .dK []) hp rfl
  exact c _ _ _ L1 s1 ⟨p, rfl, .inr rfl, n1, [], upd_same, rfl, .nil⟩ fun _ a _ e => by cases e; exact hp
theorem ge_dic1 {k v : E} (hk : (GoodE P (spec P Φ) Gm Φ X) k) (hv : (GoodE P (spec P Φ) Gm Φ X) v) : (GoodE P (spec P Φ) Gm Φ X) (.dic1 k v) := fun O W H σ ρ ρ1 r L e Q c => by
  unfold evE at e
  obtain ⟨rk, ρa, ea, e⟩ := bindO_some e
  obtain ⟨rv, ρb, eb, e⟩ := bindO_some e
  obtain ⟨d, ρc, ec, e⟩ := bindO_some e
  intro p hp
  have nO : ¬ O p := fun z => L.oal p z hp
  obtain ⟨L0, s0⟩ := L.laidO (o := .dK []) hp
  refine hk _ W _ σ ρ ρa rk L0 ea _ fun vk H1 W1 L1 s1 h1 f1 => hv _ W1 H1 σ ρa ρb rv L1 eb _ fun vv H2 W2 L2' s2 h2 f2 => ?_
  obtain ⟨W3, L3, l3, rr⟩ := freeze_ok L2' h2 ec
  cases rk with
  | v y =>
    have e : (keyD y).map (fun ky => (R.o (D.dct [ky] [d]), ρc)) = some (r, ρ1) := e
    cases q : keyD y with
    | none => rw [q] at e; cases e
    | some ky =>
      rw [q] at e
      cases e
      have ek : vk = kV ky := repKey (RepV.repB (show RepV P _ H1 y vk from h1)) q
      subst ek
      have nw : ∀ {Wi Hh ρi}, Rel P (fun a => O a ∨ a = p) Wi Hh σ ρi → ¬ OwnA σ ρi p := fun Li z => Li.ow p (Li.ownW z) (.inr rfl)
      have hp2 : H2 p = some (.dK []) := s2.keep p _ (s1.keep p _ upd_same nT_dK (nw L0)) nT_dK (nw L1)
      refine ⟨hp2, [(ky, vv)], rfl, (show 1 ≤ 15 by decide), ?_⟩
      show Q (.ref p) (upd H2 p (.dK [(ky, vv)]))
      have fr : ∀ x a, rv = .o x → vv = .ref a → (upd H p (.dK [])) a = none := fun x a e1 e2 => Classical.byContradiction fun z => s1.alive a z (f2 x a e1 e2)
      have s3 : Step σ ρ W (upd H p (.dK [])) ρ1 W3 H2 := (s1.trans s2).lose L0 l3 (freshAt (O := O) (W := W) fr)
      have L4 := L3.hide hp2 rfl nO
      have s4 := s3.hide hp
      have k4 := hid_kp (O := O) (W := W3) hp2 rfl
      obtain ⟨L5, s5, n5⟩ := L4.made (o := .dK [(ky, vv)]) hid_same rfl
      have eH : upd (hid p H2) p (.dK [(ky, vv)]) = upd H2 p (.dK [(ky, vv)]) := by
        funext a
        by_cases e : a = p
        · subst e; rw [upd_same, upd_same]
        · rw [upd_ne e, upd_ne e, hid_ne e]
      rw [eH] at L5 s5
      have rr2 := (rr.kp k4).kp (kp_grow (o := .dK [(ky, vv)]) hid_same)
      rw [eH] at rr2
      exact (c.from s4) _ _ _ L5 s5 ⟨p, rfl, .inr rfl, n5, [vv], upd_same, rfl, .cons rr2 .nil⟩ fun _ a _ e => by cases e; exact hid_same
  | _ => cases e
theorem compGo_mono {vs : List Nat} {turn : Itm → Env → Option (Option D × Env)} : ∀ {ds : List Itm} {acc acc' : List D} {ρ ρ' : Env}, compGo vs turn ds acc ρ = some (acc', ρ') → acc.length ≤ acc'.length
  | [], acc, acc', ρ, ρ', h => by unfold compGo at h; cases h; exact Nat.le_refl _
  | d :: ds, acc, acc', ρ, ρ', h => by
    unfold compGo at h
    split at h
    · have := compGo_mono h
      rw [List.length_append] at this
      exact Nat.le_trans (Nat.le_add_right _ _) this
    · exact compGo_mono h
    · cases h
theorem compGo2_mono {vs : List Nat} {turn : Itm → Env → List D → Option (List D × Env)} (ht : ∀ d ρ acc acc' ρ', turn d ρ acc = some (acc', ρ') → acc.length ≤ acc'.length) : ∀ {ds : List Itm} {acc acc' : List D} {ρ ρ' : Env}, compGo2 vs turn ds acc ρ = some (acc', ρ') → acc.length ≤ acc'.length
  | [], acc, acc', ρ, ρ', h => by unfold compGo2 at h; cases h; exact Nat.le_refl _
  | d :: ds, acc, acc', ρ, ρ', h => by
    unfold compGo2 at h
    split at h
    · rename_i q
      exact Nat.le_trans (ht _ _ _ _ _ q) (compGo2_mono ht h)
    · cases h
theorem ge_comp2 {ns ns1 : List Nat} {tg tg1 : Tg} {it it1 : It} {t t1 : T} {b : E} (hi : GoodI P (spec P Φ) Gm Φ E0 it) (ht : GoodT P (spec P Φ) Gm Φ E0 t) (hi1 : GoodI P (spec P Φ) Gm Φ E0 it1) (ht1 : GoodT P (spec P Φ) Gm Φ E0 t1) (hb : GoodE P (spec P Φ) Gm Φ E0 b) : (GoodE P (spec P Φ) Gm Φ X) (.comp2 ns ns1 tg it t tg1 it1 t1 b) := fun O W H σ ρ ρ1 r L e Q c => by
  unfold evE at e
  split at e
  · cases e
  · rename_i hin
    have hin : (tgIn ns tg = true ∧ tgIn ns1 tg1 = true) ∧ (ns1.all fun i => ns.contains i) = true := by
      simp only [Bool.or_eq_true, not_or, Bool.not_eq_true', Bool.not_eq_false] at hin; exact hin
    obtain ⟨⟨hin1, hin2⟩, hsub⟩ := hin
    obtain ⟨its, ρa, ea, e⟩ := bindO_some e
    obtain ⟨accF, ρF, eb, e⟩ := bindO_some e
    split at e
    case isFalse => cases e
    rename_i hline
    cases e
    refine hi O W H σ ρ ρa its L ea _ fun J H1 W1 L1 s1 wok => fun D0 hD => ?_
    obtain ⟨hlen, G, Y, walk, stays, yok⟩ := wok
    have nO : ¬ O D0 := fun z => L1.oal D0 z hD
    let O' : AP := fun a => O a ∨ a = D0
    let turn1 : Itm → Env → Option (Option D × Env) := fun d1 ρ6 => match setItm tg1 d1 ρ6 with
            | some ρ7 => bindO (evT Gm Φ t1 ρ7) fun k1 ρ8 => match k1 with
              | true => bindO (evE Gm Φ b ρ8) fun r ρ9 => bindO (freeze r ρ9) fun x ρ10 => some (some x, ρ10)
              | false => some (none, ρ8)
            | none => none
    let turn : Itm → Env → List D → Option (List D × Env) := fun d ρ2 acc => match setItm tg d ρ2 with
        | some ρ3 => bindO (evT Gm Φ t ρ3) fun k ρ4 => match k with
          | true => bindO (evIt Gm Φ it1 ρ4) fun w1 ρ5 => compGo ns1 turn1 w1 acc ρ5
          | false => some (acc, ρ4)
        | none => none
    have tm : ∀ d ρ acc acc' ρ', turn d ρ acc = some (acc', ρ') → acc.length ≤ acc'.length := fun d ρ2 acc acc' ρ' h => by
      simp only [turn] at h
      cases q1 : setItm tg d ρ2 with
      | none => rw [q1] at h; cases h
      | some ρ3 =>
        rw [q1] at h
        dsimp only at h
        obtain ⟨k, ρ4, et, h⟩ := bindO_some h
        cases k with
        | false => cases h; exact Nat.le_refl _
        | true =>
          obtain ⟨w1, ρ5, ei, h⟩ := bindO_some h
          exact compGo_mono h
    have wD : ∀ {Wi Hh ρi} {σi : L2.St}, Rel P O' Wi Hh σi ρi → ¬ OwnA σi ρi D0 := fun Li z => Li.ow D0 (Li.ownW z) (.inr rfl)
    let Pv : Nat → Hp → Prop := fun i Hh => ∃ acc us ρi Wi K, Hh = upd K D0 (.lst us) ∧ K D0 = none ∧ compGo2 ns turn (its.drop i) acc ρi = some (accF, ρ1) ∧ Rel P O Wi K σ ρi ∧ Step σ ρa W1 H1 ρi Wi K ∧ RepVs P (Av O Wi) K acc us
    refine ⟨fun i m Hh => m = its.length - i ∧ i ≤ its.length ∧ Pv i Hh, ⟨its.length, rfl, Nat.zero_le _, [], [], ρa, W1, H1, rfl, hD, eb, L1, .refl, .nil⟩, ?_⟩
    rintro i m Hh ⟨rfl, hi', acc, us, ρi, Wi, K, rfl, hK, go, Li, si, hacc⟩
    obtain ⟨Lu, su⟩ := Li.laidO (o := .lst us) hK
    have st0 : Stays O σ ρa H1 (upd K D0 (.lst us)) := .of (si.trans su).keep
    by_cases hlt : i < its.length
    · refine .inr ⟨walk.goes i _ hlt (stays _ st0), Pv (i + 1), fun H' p' => ⟨its.length - (i + 1), by omega, rfl, hlt, p'⟩, fun x H' y => ?_⟩
      have y := walk.yields i _ x H' hlt (stays _ st0) y
      have hget : its[i]? = some its[i] := List.getElem?_eq_getElem hlt
      have yk := yok i _ x H' its[i] hget st0 y
      rw [List.drop_eq_getElem_cons hlt] at go
      unfold compGo2 at go
      obtain ⟨Lh0, sh0⟩ := yok_heap Lu yk
      have hus' : H' D0 = some (.lst us) := sh0.keep D0 _ upd_same nT_lst (wD Lu)
      cases hT : turn its[i] (wipeE ρi ns) acc with
      | none => rw [hT] at go; cases go
      | some res =>
        obtain ⟨acc1, ρ6⟩ := res
        rw [hT] at go
        dsimp only at go
        have hl1 : acc1.length ≤ line := Nat.le_trans (compGo2_mono tm go) hline
        simp only [turn] at hT
        cases q1 : setItm tg its[i] (wipeE ρi ns) with
        | none => rw [q1] at hT; cases hT
        | some ρ3 =>
          rw [q1] at hT
          dsimp only at hT
          obtain ⟨k, ρ4, et, hT⟩ := bindO_some hT
          refine itm_ok (O := O') (W := Wi) (Lu.wipe ns) yk (fun a z => ?_) q1 fun σ1 L3 ch => ?_
          · rcases z with (z | z) | z
            · exact .inl (.inl z)
            · exact .inr (z ▸ hD)
            · exact (si.new a z).imp .inr fun q => q
          have inN := tgIn_has hin1
          refine ⟨wipe_eq_of ch inN, ht O' Wi H' σ1 ρ3 ρ4 k L3 et _ fun H3 W3 L4 s4 => ?_⟩
          -- the heap without the new list
          have hK' : H' = upd (hid D0 H') D0 (.lst us) := (hid_upd hus').symm
          have LiH : Rel P O Wi (hid D0 H') σ ρi := Lh0.hide hus' rfl nO
          have siH : Step σ ρi Wi K ρi Wi (hid D0 H') := sh0.hide hK
          have L3H : Rel P O Wi (hid D0 H') σ1 ρ3 := L3.hide hus' rfl nO
          have fin : ∀ {W6 : AP} {K6 : Hp} {us6 : List V}, K6 D0 = none → Rel P O W6 K6 σ1 ρ6 → Step σ1 ρ3 Wi (hid D0 H') ρ6 W6 K6 → RepVs P (Av O W6) K6 acc1 us6 → Pv (i + 1) (upd K6 D0 (.lst us6)) := fun {W6 K6 us6} k6 L6 s6 r6 => by
            obtain ⟨L7, s7⟩ := Rel.back LiH L3H ch inN L6 s6
            exact ⟨acc1, us6, _, W6, K6, rfl, k6, go, L7, (si.trans siH).trans s7, r6⟩
          have hacc0 : RepVs P (Av O Wi) (hid D0 H') acc us := hacc.kp (siH.kp Li)
          cases k with
          | false =>
            cases hT
            rw [if_neg (by decide)]
            have h3D : H3 D0 = some (.lst us) := s4.keep D0 _ hus' nT_lst (wD L3)
            rw [← hid_upd h3D]
            rw [hK'] at s4
            have s4' := s4.hide hid_same
            exact fin hid_same (L4.hide h3D rfl nO) s4' (hacc0.kp (s4'.kp L3H))
          | true =>
            rw [if_pos rfl]
            obtain ⟨w1, ρ5, ei, hT⟩ := bindO_some hT
            refine hi1 O' W3 H3 σ1 ρ4 ρ5 w1 L4 ei _ fun J1 H4 W4 L5 s5 wok1 => ?_
            obtain ⟨hlen1, G1, Y1, walk1, stays1, yok1⟩ := wok1
            have h4D : H4 D0 = some (.lst us) := s5.keep D0 _ (s4.keep D0 _ hus' nT_lst (wD L3)) nT_lst (wD L4)
            have s45 : Step σ1 ρ3 Wi (hid D0 H') ρ5 W4 (hid D0 H4) := by
              have z := s4.trans s5
              rw [hK'] at z
              exact z.hide hid_same
            have L5H : Rel P O W4 (hid D0 H4) σ1 ρ5 := L5.hide h4D rfl nO
            let Pw : Nat → Hp → Prop := fun j Hh => ∃ acc2 us2 ρj Wj Kj, Hh = upd Kj D0 (.lst us2) ∧ Kj D0 = none ∧ compGo ns1 turn1 (w1.drop j) acc2 ρj = some (acc1, ρ6) ∧ Rel P O Wj Kj σ1 ρj ∧ Step σ1 ρ5 W4 (hid D0 H4) ρj Wj Kj ∧ RepVs P (Av O Wj) Kj acc2 us2
            refine ⟨fun j m Hh => m = w1.length - j ∧ j ≤ w1.length ∧ Pw j Hh, ⟨w1.length, rfl, Nat.zero_le _, acc, us, ρ5, W4, hid D0 H4, (hid_upd h4D).symm, hid_same, hT, L5H, .refl, hacc0.kp (s45.kp L3H)⟩, ?_⟩
            rintro j m Hh ⟨rfl, hj', acc2, us2, ρj, Wj, Kj, rfl, hKj, goj, Lj, sj, haccj⟩
            obtain ⟨Lv, sv⟩ := Lj.laidO (o := .lst us2) hKj
            have st1 : Stays O' σ1 ρ5 H4 (upd Kj D0 (.lst us2)) := ⟨fun a => a = D0, fun a z => z ▸ ⟨.inr rfl, _, h4D, rfl⟩, fun a o e nt n nb => by
              rw [upd_ne nb]
              exact sj.keep a o (by rw [hid_ne nb]; exact e) nt n⟩
            by_cases hlt1 : j < w1.length
            · refine .inr ⟨walk1.goes j _ hlt1 (stays1 _ st1), Pw (j + 1), fun H5 p' => ⟨w1.length - (j + 1), by omega, rfl, hlt1, p'⟩, fun x1 H5 y1 => ?_⟩
              have y1 := walk1.yields j _ x1 H5 hlt1 (stays1 _ st1) y1
              have hget1 : w1[j]? = some w1[j] := List.getElem?_eq_getElem hlt1
              have yk1 := yok1 j _ x1 H5 w1[j] hget1 st1 y1
              rw [List.drop_eq_getElem_cons hlt1] at goj
              unfold compGo at goj
              obtain ⟨Lh1, sh1⟩ := yok_heap Lv yk1
              have hus5 : H5 D0 = some (.lst us2) := sh1.keep D0 _ upd_same nT_lst (wD Lv)
              have hK5 : H5 = upd (hid D0 H5) D0 (.lst us2) := (hid_upd hus5).symm
              have LjH : Rel P O Wj (hid D0 H5) σ1 ρj := Lh1.hide hus5 rfl nO
              have sjH : Step σ1 ρj Wj Kj ρj Wj (hid D0 H5) := sh1.hide hKj
              cases hT1 : turn1 w1[j] (wipeE ρj ns1) with
              | none => rw [hT1] at goj; cases goj
              | some res1 =>
                rw [hT1] at goj
                simp only [turn1] at hT1
                cases q2 : setItm tg1 w1[j] (wipeE ρj ns1) with
                | none => rw [q2] at hT1; cases hT1
                | some ρ7 =>
                  rw [q2] at hT1
                  dsimp only at hT1
                  obtain ⟨k1, ρ8, et1, hT1⟩ := bindO_some hT1
                  refine itm_ok (O := O') (W := Wj) (Lv.wipe ns1) yk1 (fun a z => ?_) q2 fun σ2 L7 ch1 => ?_
                  · rcases z with z | z
                    · exact .inl (.inl z)
                    · rcases sj.new a z with q | q
                      · exact .inl (.inr q)
                      · by_cases e : a = D0
                        · exact .inl (.inl (.inr e))
                        · rw [hid_ne e] at q; exact .inr q
                  have inN1 := tgIn_has hin2
                  have L7H : Rel P O Wj (hid D0 H5) σ2 ρ7 := L7.hide hus5 rfl nO
                  refine ⟨wipe_eq_of ch1 inN1, ht1 O' Wj H5 σ2 ρ7 ρ8 k1 L7 et1 _ fun H6 W6 L8 s8 => ?_⟩
                  have hacc5 : RepVs P (Av O Wj) (hid D0 H5) acc2 us2 := haccj.kp (sjH.kp Lj)
                  cases k1 with
                  | false =>
                    cases hT1
                    dsimp only at goj
                    rw [if_neg (by decide)]
                    have h6D : H6 D0 = some (.lst us2) := s8.keep D0 _ hus5 nT_lst (wD L7)
                    rw [hK5] at s8
                    have s8' := s8.hide hid_same
                    obtain ⟨L9, s9⟩ := Rel.back LjH L7H ch1 inN1 (L8.hide h6D rfl nO) s8'
                    exact ⟨acc2, us2, _, W6, hid D0 H6, (hid_upd h6D).symm, hid_same, goj, L9, (sj.trans sjH).trans s9, hacc5.kp (s9.kp LjH)⟩
                  | true =>
                    rw [if_pos rfl]
                    obtain ⟨rx, ρ9, ex, hT1⟩ := bindO_some hT1
                    obtain ⟨x6, ρ10, ef, hT1⟩ := bindO_some hT1
                    cases hT1
                    dsimp only at goj
                    refine hb O' W6 H6 σ2 ρ8 ρ9 rx L8 ex _ fun v H7 W7 L9 s9 h9 f9 => ?_
                    obtain ⟨W8, L10, l10, rv⟩ := freeze_ok L9 h9 ef
                    have f9' : ∀ d a, rx = .o d → v = .ref a → H5 a = none := fun d a e1 e2 => Classical.byContradiction fun q => s8.alive a q (f9 d a e1 e2)
                    have s10 : Step σ2 ρ7 Wj H5 ρ10 W8 H7 := (s8.trans s9).lose L7 l10 (freshAt (O := O) (W := W) f9')
                    have h7D : H7 D0 = some (.lst us2) := s10.keep D0 _ hus5 nT_lst (wD L7)
                    rw [hK5] at s10
                    have s10' := s10.hide hid_same
                    obtain ⟨L11, s11⟩ := Rel.back LjH L7H ch1 inN1 (L10.hide h7D rfl nO) s10'
                    have hl2 : (acc2 ++ [x6]).length ≤ line := Nat.le_trans (compGo_mono goj) hl1
                    have hacc7 := hacc5.kp (s11.kp LjH)
                    refine ⟨us2, h7D, ?_, acc2 ++ [x6], us2 ++ [v], _, W8, hid D0 H7, ?_, hid_same, goj, L11, (sj.trans sjH).trans s11, hacc7.append (.cons (rv.kp (hid_kp h7D rfl)) .nil)⟩
                    · rw [← hacc7.length, line_eq]
                      rw [List.length_append] at hl2
                      exact hl2
                    · funext a
                      by_cases e : a = D0
                      · subst e; rw [upd_same, upd_same]
                      · rw [upd_ne e, upd_ne e, hid_ne e]
            · have ej : j = w1.length := by omega
              subst ej
              refine .inl ⟨walk1.stops _ (stays1 _ st1), ?_⟩
              rw [List.drop_length] at goj
              unfold compGo at goj
              cases goj
              exact fin hKj Lj (s45.trans sj) haccj
    · have ei : i = its.length := by omega
      subst ei
      refine .inl ⟨walk.stops _ (stays _ st0), ?_⟩
      rw [List.drop_length] at go
      unfold compGo2 at go
      cases go
      obtain ⟨L9, s9, n9⟩ := Li.made (o := .lst us) hK rfl
      exact (c.from (s1.trans si)) (.ref D0) _ _ L9 s9 ⟨D0, rfl, .inr rfl, n9, us, upd_same, hline, hacc.kp (kp_grow hK)⟩ fun d a _ e => by cases e; exact hK
end
end Mi
set_option Elab.async false
set_option linter.all false
set_option maxRecDepth 100000
set_option maxHeartbeats 4000000
namespace Mi
open PySem PySem.Spec PyProof.Rows L2
section
variable {P : TP} {O W W0 W1 A : AP} {H H0 H' : Hp} {σ : L2.St} {ρ ρ0 ρ1 : Env}
theorem Rel.grown (L : Rel P O W H σ ρ) (g : Grow P.tabs H H') : Rel P O W H' σ ρ ∧ Step σ ρ W H ρ W H' := by
  have k : Kp (fun _ => False) (Av O W) (Av O W) H H' := ⟨fun a o e nt _ => g.keep a o e nt, fun _ z => z.elim, fun _ z => z.elim, fun a z => .inl z⟩
  refine ⟨⟨L.len, fun a h => ?_, fun a h => g.alive a (L.oal a h), L.ow, fun i d e => ?_, fun i d e => ?_, L.inj, g.tabs⟩, fun a o e nt _ => g.keep a o e nt, fun _ h => .inl h, fun _ h _ => h, fun _ h => h, fun _ x h => ⟨x, h⟩, g.alive⟩
  · obtain ⟨o, e, m⟩ := L.wmut a h
    exact ⟨o, g.keep a o e (nT_mut m), m⟩
  · obtain ⟨v, e1, r⟩ := L.fro i d e
    exact ⟨v, e1, r.kp k⟩
  · obtain ⟨a, e1, w, r⟩ := L.own i d e
    exact ⟨a, e1, w, r.kp k fun z => z⟩
/-- what an exception's wish gets to know -/
def XC (P : TP) (O : AP) (σ : L2.St) (ρ0 : Env) (W0 : AP) (H0 : Hp) (ρ : Env) (x : Exc) (X : XK) : Prop :=
  ∀ cls d H W, Rel P O W H σ ρ → Step σ ρ0 W0 H0 ρ W H → XIs P x cls d H → X cls d H
theorem XC.from {x : Exc} {X : XK} (c : XC P O σ ρ0 W0 H0 ρ1 x X) (s : Step σ ρ0 W0 H0 ρ W H) : XC P O σ ρ W H ρ1 x X := fun cls d H2 W2 L t h => c cls d H2 W2 L (s.trans t) h
/-- a call that ends with an exception -/
theorem callX_ok {Gm : Cfg} {Φ : Phi} {f : Nat} {rs : List R} {vs : List V} {ρ' : Env} {Q : VK} {X : XK} {x : Exc} (L : Rel P O W H σ ρ) (h : RepRs P O W H σ ρ rs vs) (e : callX Gm Φ f rs ρ = some (x, ρ')) (c : XC P O σ ρ W H ρ' x X) : spec P Φ f vs H Q X := by
  unfold callX at e
  cases q1 : Gm.io f with
  | none => rw [q1] at e; cases e
  | some io =>
    rw [q1] at e
    dsimp only at e
    split at e
    · rename_i as ls q2
      split at e
      · split at e
        · rename_i C ns ds q3
          cases e
          obtain ⟨ads, lads, s1, s2, k⟩ := takeArgs_ok L h q2
          cases ads with
          | cons a r => exact s1.elim
          | nil =>
            have kA := k (fun a => a ∈ lads ∨ a ∈ tmps rs vs) (fun a ha => .inl ha) fun a ha => .inr ha
            refine ⟨fun a => Av O W a ∧ ¬ (a ∈ lads ∨ a ∈ tmps rs vs), as, [], kA.kp (Kp.less fun a z => z.elim (fun q => q) fun q => nomatch q) (fun _ ha => nomatch ha), .nil, (fun _ ha => nomatch ha), fun a z => ?_, L.tabs, .inr ⟨⟨C, ns, ds⟩, q3, fun cls d H' xr => ?_⟩⟩
            · rcases z.1 with z | z
              · exact L.oal a z
              · obtain ⟨o, e, _⟩ := L.wmut a z
                rw [e]; exact (fun z => nomatch z)
            · obtain ⟨L2', s2'⟩ := L.grown ⟨fun a o e nt => xr.keep a o e nt (fun z => nomatch z), xr.alive, xr.tabs⟩
              exact c cls d H' W L2' s2' xr.is
        · cases e
      · cases e
    · cases e
theorem makeX_ok {Gm : Cfg} {Φ : Phi} {C : Nat} {rs : List R} {vs : List V} {ρ' : Env} {Q : VK} {X : XK} {x : Exc} (L : Rel P O W H σ ρ) (h : RepRs P O W H σ ρ rs vs) (nd : (tmps rs vs).Nodup) (fr : ∀ a ∈ tmps rs vs, H0 a = none) (st : Step σ ρ0 W0 H0 ρ W H) (L0 : Rel P O W0 H0 σ ρ0) (e : makeX Gm Φ C rs ρ = some (x, ρ')) (c : XC P O σ ρ0 W0 H0 ρ' x X) :
    ∀ y dx, H y = none → H dx = none → dx ≠ y → spec P Φ C (.ref y :: vs) (upd (upd H dx (.own y)) y (.ins (P.cls C) dx [])) Q X := by
  unfold makeX at e
  cases q : freezes rs ρ with
  | none => rw [q] at e; cases e
  | some z =>
    obtain ⟨ds, ρb⟩ := z
    rw [q] at e
    dsimp only at e
    obtain ⟨W2, L2', l2, hv⟩ := freezes_ok L h nd q
    have s2 := st.lose L0 l2 fr
    cases q2 : Gm.io C with
    | none => rw [q2] at e; cases e
    | some io =>
      rw [q2] at e
      dsimp only at e
      split at e
      · split at e
        · rename_i C' ns ds' q3
          cases e
          intro y dx hy hdx hne
          have hdx' : ∀ a o, H a = some o → (upd (upd H dx (.own y)) y (.ins (P.cls C) dx [])) a = some o := fun a o e => by
            rw [upd_ne (ne_of_none e hy), upd_ne (ne_of_none e hdx)]; exact e
          have kA : Kp (fun _ => False) (Av O W2) (Av (Av O W2) (InL [y])) H (upd (upd H dx (.own y)) y (.ins (P.cls C) dx [])) := ⟨fun a o e _ _ => hdx' a o e, fun _ z => z.elim, fun _ z => z.elim, fun a z => by
            rcases z with z | z
            · exact .inl z
            · rw [List.mem_singleton.mp z]; exact .inr hy⟩
          have args : ∀ {ds : List D} {vs : List V}, RepVs P (Av O W2) H ds vs → ArgsRep P (Av (Av O W2) (InL [y])) (upd (upd H dx (.own y)) y (.ins (P.cls C) dx [])) (ds.map fun d => (false, d)) vs [] := by
            intro ds
            induction ds with
            | nil => intro vs h; unfold RepVs at h; subst h; exact .nil
            | cons d ds ih =>
              intro vs h
              obtain ⟨v, us, rfl, h1, h2⟩ := h.uncons
              exact .fro (h1.kp kA) (ih h2)
          refine ⟨Av O W2, _, [y], .own (show OwnV P _ _ (.ins C [] []) y from ⟨dx, [], by rw [upd_same]; rfl, rfl, .nil⟩) (args hv), by simp, fun a ha z => ?_, fun a z => ?_, tabs_new (tabs_new L2'.tabs hdx) (by rw [upd_ne (Ne.symm hne)]; exact hy), .inr ⟨⟨C', ns, ds'⟩, q3, fun cls d H' xr => ?_⟩⟩
          · rw [List.mem_singleton.mp ha] at z
            rcases z with z | z
            · exact L2'.oal y z hy
            · obtain ⟨o, e, _⟩ := L2'.wmut y z
              rw [hy] at e; cases e
          · have : H a ≠ none := by
              rcases z with z | z
              · exact L2'.oal a z
              · obtain ⟨o, e, _⟩ := L2'.wmut a z
                rw [e]; exact (fun z => nomatch z)
            cases q : H a with
            | none => exact absurd q this
            | some o => rw [hdx' a o q]; exact (fun z => nomatch z)
          · obtain ⟨L3, s3⟩ := L2'.grown (H' := H') ⟨fun a o e nt => xr.keep a o (hdx' a o e) nt (fun z => by rw [List.mem_singleton.mp z, hy] at e; cases e), fun a n => xr.alive a (by
                cases q : H a with
                | none => exact absurd q n
                | some o => rw [hdx' a o q]; exact (fun z => nomatch z)), xr.tabs⟩
            exact c cls d H' W2 L3 (s2.trans s3) xr.is
        · cases e
      · cases e
end
section
variable (P : TP) (call : Nat → Sp) (Gm : Cfg) (Φ : Phi) (X : XK)
def BadE (e : E) : Prop := ∀ (O W : AP) (H : Hp) (σ : L2.St) (ρ ρ1 : Env) (x : Exc), Rel P O W H σ ρ → exE Gm Φ e ρ = some (x, ρ1) → XC P O σ ρ W H ρ1 x X → ∀ Q : VK, tE P call e X σ H Q
def BadEs (es : Es) : Prop := ∀ (O W : AP) (H : Hp) (σ : L2.St) (ρ ρ1 : Env) (x : Exc), Rel P O W H σ ρ → exEs Gm Φ es ρ = some (x, ρ1) → XC P O σ ρ W H ρ1 x X → ∀ Q : List V → Hp → Prop, tEs P call es X σ H Q
end
section
variable {P : TP} {Gm : Cfg} {Φ : Phi} {X : XK}
theorem ge_callx {f : Nat} {es : Es} (h : (GoodEs P (spec P Φ) Gm Φ X) es) : (GoodE P (spec P Φ) Gm Φ X) (.callx f es) := fun O W H σ ρ ρ1 r L e Q c => by
  unfold evE at e
  obtain ⟨rs, ρa, ea, e⟩ := bindO_some e
  refine h O W H σ ρ ρa rs L ea _ fun vs H1 W1 L1 s1 hr nd fr => ?_
  rw [List.append_nil]
  exact call_ok L1 hr nd fr s1.alive e s1 L c
theorem be_callx {f : Nat} {es : Es} (h : (GoodEs P (spec P Φ) Gm Φ X) es) (hb : (BadEs P (spec P Φ) Gm Φ X) es) : (BadE P (spec P Φ) Gm Φ X) (.callx f es) := fun O W H σ ρ ρ1 x L e c Q => by
  unfold exE at e
  cases q : exEs Gm Φ es ρ with
  | some y =>
    rw [q] at e
    cases e
    exact hb O W H σ ρ ρ1 x L q c _
  | none =>
    rw [q] at e
    obtain ⟨rs, ρa, ea, e⟩ := bindO_some e
    refine h O W H σ ρ ρa rs L ea _ fun vs H1 W1 L1 s1 hr nd fr => ?_
    rw [List.append_nil]
    exact callX_ok L1 hr e (c.from s1)
theorem ge_fnv {i : Nat} (ok : CfgOk P Gm) : (GoodE P (spec P Φ) Gm Φ X) (.fnv i) := fun O W H σ ρ ρ1 r L e Q c => by
  unfold evE at e
  split at e
  · rename_i hi
    cases e
    obtain ⟨a, ea⟩ := ok.fn i hi
    exact ⟨a, ea, c.val L (by unfold RepV; exact ⟨a, rfl, ea⟩)⟩
  · cases e
theorem fn_at {i g : Nat} (L : Rel P O W H σ ρ) (e : eget ρ i = some (false, .fn g)) : ∃ a, P.fn g = some a ∧ σ[i]? = some (some (.ref a)) := by
  obtain ⟨v, e1, r⟩ := L.fro i _ e
  unfold RepV at r
  obtain ⟨a, rfl, ea⟩ := r
  exact ⟨a, ea, e1⟩
theorem ge_callv {i : Nat} {es : Es} (h : (GoodEs P (spec P Φ) Gm Φ X) es) : (GoodE P (spec P Φ) Gm Φ X) (.callv i es) := fun O W H σ ρ ρ1 r L e Q c => by
  unfold evE at e
  split at e
  · rename_i g q
    obtain ⟨rs, ρa, ea, e⟩ := bindO_some e
    obtain ⟨a, e1, e2⟩ := fn_at L q
    exact ⟨g, a, e1, e2, h O W H σ ρ ρa rs L ea _ fun vs H1 W1 L1 s1 hr nd fr => call_ok L1 hr nd fr s1.alive e s1 L c⟩
  · cases e
theorem be_callv {i : Nat} {es : Es} (h : (GoodEs P (spec P Φ) Gm Φ X) es) (hb : (BadEs P (spec P Φ) Gm Φ X) es) : (BadE P (spec P Φ) Gm Φ X) (.callv i es) := fun O W H σ ρ ρ1 x L e c Q => by
  unfold exE at e
  split at e
  · rename_i g q0
    obtain ⟨a, e1, e2⟩ := fn_at L q0
    refine ⟨g, a, e1, e2, ?_⟩
    cases q : exEs Gm Φ es ρ with
    | some y =>
      rw [q] at e
      cases e
      exact hb O W H σ ρ ρ1 x L q c _
    | none =>
      rw [q] at e
      obtain ⟨rs, ρa, ea, e⟩ := bindO_some e
      exact h O W H σ ρ ρa rs L ea _ fun vs H1 W1 L1 s1 hr nd fr => callX_ok L1 hr e (c.from s1)
  · cases e
theorem be_makex {C : Nat} {es : Es} (h : (GoodEs P (spec P Φ) Gm Φ X) es) (hb : (BadEs P (spec P Φ) Gm Φ X) es) : (BadE P (spec P Φ) Gm Φ X) (.makex C es) := fun O W H σ ρ ρ1 x L e c Q => by
  unfold exE at e
  cases q : exEs Gm Φ es ρ with
  | some y =>
    rw [q] at e
    cases e
    exact hb O W H σ ρ ρ1 x L q c _
  | none =>
    rw [q] at e
    obtain ⟨rs, ρa, ea, e⟩ := bindO_some e
    refine h O W H σ ρ ρa rs L ea _ fun vs H1 W1 L1 s1 hr nd fr => ?_
    intro y dx h1 h2 h3
    rw [List.append_nil]
    exact makeX_ok L1 hr nd fr s1 L e c y dx h1 h2 h3
theorem be_tup {es : Es} (hb : (BadEs P (spec P Φ) Gm Φ X) es) : (BadE P (spec P Φ) Gm Φ X) (.tup es) := fun O W H σ ρ ρ1 x L e c Q => by unfold exE at e; exact hb O W H σ ρ ρ1 x L e c _
theorem be_lst {es : Es} (hb : (BadEs P (spec P Φ) Gm Φ X) es) : (BadE P (spec P Φ) Gm Φ X) (.lst es) := fun O W H σ ρ ρ1 x L e c Q => by unfold exE at e; exact hb O W H σ ρ ρ1 x L e c _
theorem be_callb {f : Blt} {es : Es} (hb : (BadEs P (spec P Φ) Gm Φ X) es) : (BadE P (spec P Φ) Gm Φ X) (.callb f es) := fun O W H σ ρ ρ1 x L e c Q => by unfold exE at e; exact hb O W H σ ρ ρ1 x L e c _
theorem be_idx {a i : E} (hb : (BadE P (spec P Φ) Gm Φ X) a) : (BadE P (spec P Φ) Gm Φ X) (.idx a i) := fun O W H σ ρ ρ1 x L e c Q => by unfold exE at e; exact .inl (hb O W H σ ρ ρ1 x L e c _)
theorem be_notv {a : E} (hb : (BadE P (spec P Φ) Gm Φ X) a) : (BadE P (spec P Φ) Gm Φ X) (.notv a) := fun O W H σ ρ ρ1 x L e c Q => by unfold exE at e; exact hb O W H σ ρ ρ1 x L e c _
theorem ba_cons {a : E} {r : Es} (h : (GoodE P (spec P Φ) Gm Φ X) a) (hb : (BadE P (spec P Φ) Gm Φ X) a) (hr : (BadEs P (spec P Φ) Gm Φ X) r) : (BadEs P (spec P Φ) Gm Φ X) (.cons a r) := fun O W H σ ρ ρ1 x L e c Q => by
  unfold exEs at e
  cases q : exE Gm Φ a ρ with
  | some y =>
    rw [q] at e
    cases e
    exact hb O W H σ ρ ρ1 x L q c _
  | none =>
    rw [q] at e
    obtain ⟨ra, ρa, ea, e⟩ := bindO_some e
    exact h O W H σ ρ ρa ra L ea _ fun v H1 W1 L1 s1 hv fr => hr O W1 H1 σ ρa ρ1 x L1 e (c.from s1) _
theorem XAt.dict {x : Exc} {d : Option Addr} {H : Hp} (h : XAt x d H) : d = none ∨ ∃ dd fs, d = some dd ∧ H dd = some (.xd fs) := by
  rcases h.2 with ⟨_, e⟩ | ⟨dd, vs, e1, e2, _⟩
  · exact .inl e
  · exact .inr ⟨dd, _, e1, e2⟩
theorem ge_isx {a : E} {k : Nat} (ok : CfgOk P Gm) (h : (GoodE P (spec P Φ) Gm Φ X) a) : (GoodE P (spec P Φ) Gm Φ X) (.isx a k) := fun O W H σ ρ ρ1 r L e Q c => by
  unfold evE at e
  obtain ⟨ra, ρa, ea, e⟩ := bindO_some e
  refine h O W H σ ρ ρa ra L ea _ fun v H1 W1 L1 s1 hv fr => ?_
  split at e
  · rename_i C ns ds
    cases q : Gm.sub C k with
    | none => rw [q] at e; cases e
    | some b =>
      rw [q] at e
      cases e
      have hv : RepV P (Av O W1) H1 (.exc C ns ds) v := hv
      unfold RepV at hv
      obtain ⟨a, d, e1, e2, e3⟩ := hv
      exact ⟨a, _, d, b, e1, e2, e3.dict, ok.sub C k b q, (c.from s1).bl L1 rfl⟩
  · cases e
theorem ge_isb {a : E} {n : String} (ok : CfgOk P Gm) (h : (GoodE P (spec P Φ) Gm Φ X) a) : (GoodE P (spec P Φ) Gm Φ X) (.isb a n) := fun O W H σ ρ ρ1 r L e Q c => by
  unfold evE at e
  obtain ⟨ra, ρa, ea, e⟩ := bindO_some e
  refine h O W H σ ρ ρa ra L ea _ fun v H1 W1 L1 s1 hv fr => ?_
  split at e
  · rename_i C ns ds
    cases q : Gm.subB C n with
    | none => rw [q] at e; cases e
    | some b =>
      rw [q] at e
      cases e
      have hv : RepV P (Av O W1) H1 (.exc C ns ds) v := hv
      unfold RepV at hv
      obtain ⟨a, d, e1, e2, e3⟩ := hv
      exact ⟨a, _, d, b, e1, e2, e3.dict, ok.subB C n b q, (c.from s1).bl L1 rfl⟩
  · cases e
theorem ty_rep {A : AP} {H : Hp} {d : D} {v : V} {n : String} (hv : RepB P A H d v) (q : tyName d = some n) : n ∈ tyNames ∧ TyX P.K H v (.type n) := by
  cases d with
  | non => cases q; have := repNon hv; subst this; exact ⟨by decide, .base .non⟩
  | bl b => cases q; have := repBl hv; subst this; exact ⟨by decide, .base (.bl b)⟩
  | int b => cases q; have := repInt hv; subst this; exact ⟨by decide, .base (.int b)⟩
  | str b => cases q; have := repStr hv; subst this; exact ⟨by decide, .base (.str b)⟩
  | tup l =>
    cases q
    obtain ⟨a, vs, rfl, h1, _⟩ := repTup hv
    refine ⟨by decide, ?_⟩
    rcases h1 with ⟨o, h1, _⟩ | ⟨o, its, n, h1, h2, _⟩
    · exact .fTuple h1
    · exact .kTuple h1 h2
  | lst l =>
    cases q
    obtain ⟨a, vs, rfl, h1, _⟩ := repLst hv
    exact ⟨by decide, .base (.lst h1)⟩
  | dct ks vs =>
    cases q
    obtain ⟨a, us, rfl, h1, hl, h2⟩ := hv
    exact ⟨by decide, .base (.dK h1)⟩
  | _ => cases q
theorem kit_self {K : PySem.W.Frag} {C : Addr} : PySem.W.kitOne K (.ref C) (.ref C) = some true := by
  unfold PySem.W.kitOne
  rw [if_pos (beq_self_eq_true _)]
theorem ge_isc {a : E} {k : Nat} (ok : CfgOk P Gm) (h : (GoodE P (spec P Φ) Gm Φ X) a) : (GoodE P (spec P Φ) Gm Φ X) (.isc a k) := fun O W H σ ρ ρ1 r L e Q c => by
  unfold evE at e
  obtain ⟨ra, ρa, ea, e⟩ := bindO_some e
  refine h O W H σ ρ ρa ra L ea _ fun v H1 W1 L1 s1 hv fr => ?_
  by_cases hk : Gm.isk k = true
  case neg => rw [if_neg hk] at e; cases e
  rw [if_pos hk] at e
  have I := ok.isk k hk
  cases q : deref ρa ra with
  | none => rw [q] at e; cases e
  | some d =>
    rw [q, Option.bind_some] at e
    cases q2 : iscD k d with
    | none => rw [q2] at e; cases e
    | some b =>
    rw [q2] at e
    cases e
    have hb := hv.deref L1 q
    have other : ∀ {n : String}, tyName d = some n → b = false → rIsi P.K [v, .ref (P.cls k)] H1 Q := fun {n} tn hr => by
      subst hr
      obtain ⟨m, ty⟩ := ty_rep hb tn
      exact ⟨v, .ref (P.cls k), .type n, .ref (P.cls k), _, rfl, .own _, ty, I.ty n m, (c.from s1).bl L1 rfl⟩
    show rIsi P.K [v, .ref (P.cls k)] H1 Q
    cases d with
    | ins C1 ns ds =>
      by_cases hc : C1 = k
      case neg => exact absurd ((if_neg hc).symm.trans q2) (fun z => nomatch z)
      have e2 : some true = some b := (if_pos hc).symm.trans q2
      cases e2
      subst hc
      obtain ⟨p, dx, vs, rfl, hp, hl, hr⟩ := hb
      exact ⟨.ref p, .ref (P.cls C1), .ref (P.cls C1), .ref (P.cls C1), _, rfl, .own _, .base (.ins hp I.cl I.ha I.hn I.htk I.hm), kit_self, (c.from s1).bl L1 rfl⟩
    | non => cases q2; exact other rfl rfl
    | bl b => cases q2; exact other rfl rfl
    | int b => cases q2; exact other rfl rfl
    | str b => cases q2; exact other rfl rfl
    | tup b => cases q2; exact other rfl rfl
    | lst b => cases q2; exact other rfl rfl
    | dct ks vs => cases q2; exact other rfl rfl
    | _ => cases q2
theorem eget_frz {ρ : Env} {i : Nat} : eget (frzE ρ) i = (eget ρ i).map fun y => (false, y.2) := by
  unfold eget frzE
  rw [List.getElem?_map]
  cases ρ[i]? with
  | none => rfl
  | some x => cases x <;> rfl
theorem frz_own {σ : L2.St} {ρ : Env} {a : Addr} : ¬ OwnA σ (frzE ρ) a := fun ⟨i, d, e, _⟩ => by
  rw [eget_frz] at e
  cases q : eget ρ i with
  | none => rw [q] at e; cases e
  | some x => rw [q] at e; cases e
theorem Rel.frz {O W : AP} {H : Hp} {σ : L2.St} {ρ : Env} (L : Rel P O W H σ ρ) : Rel P O (fun a => W a ∧ ¬ OwnA σ ρ a) H σ (frzE ρ) where
  len := by unfold frzE; rw [List.length_map]; exact L.len
  wmut := fun a h => L.wmut a h.1
  oal := L.oal
  ow := fun a h => L.ow a h.1
  fro := fun i d e => by
    rw [eget_frz] at e
    cases q : eget ρ i with
    | none => rw [q] at e; cases e
    | some x =>
      rw [q] at e
      obtain ⟨o, y⟩ := x
      cases e
      have less : ∀ a, Av O (fun a => W a ∧ ¬ OwnA σ ρ a) a → Av O W a := fun a z => z.imp (fun z => z) fun z => z.1
      cases o with
      | false =>
        obtain ⟨v, e1, h⟩ := L.fro i _ q
        exact ⟨v, e1, h.kp (Kp.less less)⟩
      | true =>
        obtain ⟨a, e1, w, h⟩ := L.own i _ q
        exact ⟨_, e1, (h.kp (Kp.less less) (fun z => z)).rep fun z => z.elim (L.ow a w) fun z => z.2 ⟨i, _, q, e1⟩⟩
  own := fun i d e => by
    rw [eget_frz] at e
    cases q : eget ρ i with
    | none => rw [q] at e; cases e
    | some x => rw [q] at e; cases e
  inj := fun i j a di dj e _ _ _ => by
    rw [eget_frz] at e
    cases q : eget ρ i with
    | none => rw [q] at e; cases e
    | some x => rw [q] at e; cases e
  tabs := L.tabs
theorem mut_nT {o : HO} (h : isMut o = true) : nT o := fun ps e => by subst e; cases h
theorem OwnV.stillC {A A' : AP} {H : Hp} {d : D} {a : Addr} (s : Mi.stillC d = true) (h : OwnV P A H d a) : OwnV P A' H d a := by
  cases d with
  | lst ds => obtain ⟨vs, e, z, r⟩ := h; exact ⟨vs, e, z, RepVs.still s r⟩
  | ins C ns ds => obtain ⟨dx, vs, e, l, r⟩ := h; exact ⟨dx, vs, e, l, RepVs.still s r⟩
  | dct ks ds => obtain ⟨vs, e, l, r⟩ := h; exact ⟨vs, e, l, RepVs.still s r⟩
  | _ => exact (show False from h).elim
theorem ge_pure {a : E} (h : (GoodE P (spec P Φ) Gm Φ X) a) : (GoodE P (spec P Φ) Gm Φ X) (.pure a) := fun O W H σ ρ ρ1 r L e Q c => by
  unfold evE at e
  cases ex : evE Gm Φ a (frzE ρ) with
  | none => rw [ex] at e; cases e
  | some y =>
    obtain ⟨rx, ρx⟩ := y
    rw [ex] at e
    dsimp only at e
    split at e
    case isFalse => cases e
    rename_i hs
    cases e
    refine h O _ H σ (frzE ρ) ρx r L.frz ex Q fun v H1 W1 L1 s1 hv fr => ?_
    have keep : ∀ a o, H a = some o → nT o → H1 a = some o := fun a o e nt => s1.keep a o e nt frz_own
    have av : ∀ a, Av O (fun a => W a ∨ W1 a) a → Av O W a ∨ H a = none := fun a z => z.elim (fun z => .inl (.inl z)) fun z => z.elim (fun z => .inl (.inr z)) fun z => (s1.new a z).elim (fun z => .inl (.inr z.1)) .inr
    have kp : Kp (fun _ => False) (Av O W) (Av O fun a => W a ∨ W1 a) H H1 := ⟨fun a o e nt _ => keep a o e nt, fun _ z => z.elim, fun _ z => z.elim, av⟩
    refine c v H1 (fun a => W a ∨ W1 a) ?_ ?_ ?_ fr
    · exact { len := L.len, wmut := fun a z => z.elim (fun z => let ⟨o, e, m⟩ := L.wmut a z; ⟨o, keep a o e (mut_nT m), m⟩) (L1.wmut a), oal := L1.oal, ow := fun a z => z.elim (L.ow a) (L1.ow a), fro := fun i d e => let ⟨v, e1, h⟩ := L.fro i d e; ⟨v, e1, h.kp kp⟩, own := fun i d e => let ⟨a, e1, w, h⟩ := L.own i d e; ⟨a, e1, .inl w, h.kp kp (fun z => z)⟩, inj := L.inj, tabs := L1.tabs }
    · exact ⟨fun a o e nt _ => keep a o e nt, fun a z => z.elim .inl fun z => (s1.new a z).imp (fun z => z.1) fun z => z, fun a z _ => .inl z, fun a z => z, fun i x z => ⟨x, z⟩, s1.alive⟩
    · cases r with
      | v d => exact RepV.still hs hv
      | o d =>
        obtain ⟨a, rfl, w, n, q⟩ := hv
        refine ⟨a, rfl, .inr w, fun z => ?_, q.stillC hs⟩
        obtain ⟨o, e, _⟩ := L.wmut a (L.ownW z)
        rw [fr d a rfl rfl] at e
        cases e
      | b s => cases hs
theorem tTys_run {σ : L2.St} {H : Hp} : ∀ {ns : List String} {R : List V → Hp → Prop}, R (ns.map V.ty) H → tTys ns σ H R
  | [], R, h => h
  | n :: r, R, h => tTys_run (ns := r) (R := fun vs H2 => R (.ty n :: vs) H2) h
theorem kitAny_of {K : PySem.W.Frag} {n : String} (hn : n ∈ tyNames) : ∀ {ns : List String}, (∀ t ∈ ns, t ∈ tyClasses) → PySem.W.kitAny K (.type n) (ns.map Value.type) = some (ns.any fun t => isSub n t)
  | [], _ => kitAny_nil
  | t :: r, h => by
    rw [List.map_cons, List.any_cons]
    refine kitAny_cons (kit_ty (kit_at hn (h t List.mem_cons_self))) (fun e => ?_) fun e => ?_
    · rw [e, Bool.false_or]; exact kitAny_of hn fun t ht => h t (List.mem_cons_of_mem _ ht)
    · rw [e, Bool.true_or]
theorem cls_all : ∀ {ns : List String}, Paired ClsV (ns.map V.ty) (ns.map Value.type)
  | [] => .nil
  | n :: r => .cons (.ty n) cls_all
theorem ge_isit {a : E} {ns : List String} (h : (GoodE P (spec P Φ) Gm Φ X) a) : (GoodE P (spec P Φ) Gm Φ X) (.isit a ns) := fun O W H σ ρ ρ1 r L e Q c => by
  unfold evE at e
  obtain ⟨ra, ρa, ea, e⟩ := bindO_some e
  refine h O W H σ ρ ρa ra L ea _ fun v H1 W1 L1 s1 hv fr => ?_
  cases q : deref ρa ra with
  | none => rw [q] at e; cases e
  | some d =>
    rw [q, Option.bind_some] at e
    cases q2 : isAnyD ns d with
    | none => rw [q2] at e; cases e
    | some b =>
    rw [q2] at e
    cases e
    unfold isAnyD at q2
    split at q2
    case isFalse => cases q2
    rename_i hns
    rw [Bool.and_eq_true, decide_eq_true_eq] at hns
    obtain ⟨hn1, hns⟩ := hns
    cases q3 : tyName d with
    | none => rw [q3] at q2; cases q2
    | some n =>
    rw [q3] at q2
    cases q2
    have hb := hv.deref L1 q
    show tTup (tTys ns) σ H1 fun y H2 => rIsiT P.K [v, y] H2 Q
    refine tTys_run ⟨?_, fun p hp => ?_⟩
    · rw [List.length_map]
      exact Nat.le_trans hn1 (by decide)
    · obtain ⟨L2', s2⟩ := L1.laid (o := .tup (ns.map V.ty)) hp
      obtain ⟨m, ty⟩ := ty_rep ((hv.step L1 s2).deref L2' q) q3
      have hns' : ∀ t ∈ ns, t ∈ tyClasses := fun t ht => List.contains_iff_mem.mp (List.all_eq_true.mp hns t ht)
      exact ⟨v, p, _, .type n, _, _, rfl, upd_same, cls_all, ty, kitAny_of m hns', (c.from (s1.trans s2)).bl L2' rfl⟩
theorem ge_eqi {neg : Bool} {C k : Nat} {es : Es} (h : (GoodEs P (spec P Φ) Gm Φ X) es) : (GoodE P (spec P Φ) Gm Φ X) (.eqi neg C k es) := fun O W H σ ρ ρ1 r L e Q c => by
  unfold evE at e
  obtain ⟨rs, ρa, ea, e⟩ := bindO_some e
  refine h O W H σ ρ ρa rs L ea _ fun vs H1 W1 L1 s1 hr nd fr => ?_
  by_cases hc : twoC C (derefs ρa rs) = true
  case neg => rw [if_neg hc] at e; cases e
  rw [if_pos hc] at e
  obtain ⟨n1, d1, y, q, hy⟩ := twoC_ex hc
  obtain ⟨rb, ρb, eb, e⟩ := bindO_some e
  cases q2 : negR neg rb with
  | none => rw [q2] at e; cases e
  | some x =>
  rw [q2] at e
  cases e
  obtain ⟨t, rfl, rfl⟩ := negR_ex q2
  have hds := derefs_ok L1 hr q
  obtain ⟨hl, hds⟩ := hds
  obtain ⟨v1, v2, rfl⟩ : ∃ v1 v2, vs = [v1, v2] := by
    match vs, hl with
    | [v1, v2], _ => exact ⟨v1, v2, rfl⟩
  have hb1 := hds 0 _ v1 rfl rfl
  have hb2 := hds 1 _ v2 rfl rfl
  obtain ⟨p1, dx, w1, rfl, hp1, _, _⟩ := hb1
  have ty : (∃ (b dy : Addr) (gs : List (Str × V)), v2 = .ref b ∧ H1 b = some (.ins (P.cls C) dy gs)) ∨ ∃ n ∈ tyNames, TyX P.K H1 v2 (.type n) := by
    rcases hy with ⟨n2, d2, rfl⟩ | ⟨n, hn⟩
    · obtain ⟨p2, dy, w2, rfl, hp2, _, _⟩ := hb2
      exact .inl ⟨p2, dy, _, rfl, hp2⟩
    · obtain ⟨m, t⟩ := ty_rep hb2 hn
      exact .inr ⟨n, m, t⟩
  refine ⟨.ref p1, v2, rfl, p1, dx, _, rfl, hp1, ty, ?_⟩
  refine call_ok L1 hr nd fr s1.alive eb s1 L fun v H2 W2 L2 s2 hv fr2 => ?_
  have hv := rrBl hv
  subst hv
  exact ⟨t, rfl, (c.from s2).bl L2 rfl⟩
theorem FlatV.rep {A : AP} {H : Hp} {y : D} {v : V} (h : FlatV y v) : RepV P A H y v := by
  cases y with
  | non => unfold RepV; exact h
  | bl b => unfold RepV; exact h
  | int i => unfold RepV; exact h
  | str s => unfold RepV; exact h
  | _ => exact (show False from h).elim
theorem getN_flat {A : AP} {H : Hp} {f : Str} : ∀ {ns : List Str} {ds : List D} {vs : List V} {d : D}, getN f ns ds = some d → vs.length = ds.length → (∀ (i : Nat) (v : V) (y : D), vs[i]? = some v → ds[i]? = some y → FlatV y v) → ∃ v, (ns.zip vs).lookup f = some v ∧ RepV P A H d v
  | n :: ns, x :: ds, v :: vs, d, e, l, h => by
    unfold getN at e
    rw [List.zip_cons_cons, List.lookup_cons]
    split at e
    · rename_i hf
      cases e
      have hb : (f == n) = true := beq_iff_eq.mpr hf
      rw [hb]
      exact ⟨v, rfl, (h 0 v x rfl rfl).rep⟩
    · rename_i hf
      have hb : (f == n) = false := beq_eq_false_iff_ne.mpr hf
      rw [hb]
      exact getN_flat e (by simpa using l) fun i v y e1 e2 => h (i + 1) v y (by simpa using e1) (by simpa using e2)
  | [], _, _, _, e, _, _ => by simp [getN] at e
  | _ :: _, [], _, _, e, _, _ => by simp [getN] at e
  | _ :: _, _ :: _, [], _, _, l, _ => by simp at l
theorem ge_xattr {a : E} {f : Str} (ok : CfgOk P Gm) (h : (GoodE P (spec P Φ) Gm Φ X) a) : (GoodE P (spec P Φ) Gm Φ X) (.xattr a f) := fun O W H σ ρ ρ1 r L e Q c => by
  unfold evE at e
  obtain ⟨ra, ρa, ea, e⟩ := bindO_some e
  refine h O W H σ ρ ρa ra L ea _ fun v H1 W1 L1 s1 hv fr => ?_
  split at e
  · rename_i C ns ds
    split at e
    case isFalse => cases e
    rename_i hxf
    cases q : getN f ns ds with
    | none => rw [q] at e; cases e
    | some y =>
      rw [q] at e
      cases e
      have hv : RepV P (Av O W1) H1 (.exc C ns ds) v := hv
      unfold RepV at hv
      obtain ⟨a, d, e1, e2, e3, e4⟩ := hv
      rcases e4 with ⟨e4, _⟩ | ⟨dd, vs, rfl, e5, e6, e7⟩
      · have e4 : ns = [] := e4
        subst e4
        simp [getN] at q
      · obtain ⟨u, l, ru⟩ := getN_flat (P := P) (A := Av O W1) (H := H1) q e6 e7
        exact ⟨a, _, dd, _, u, e1, e2, e5, l, ok.xfld _ _ hxf, (c.from s1).val L1 ru⟩
  · cases e
theorem ge_word {f : Nat} {e0 : E} (ok : CfgOk P Gm) (h : ∀ Y, GoodE P (spec P Φ) Gm Φ Y e0) (hb : ∀ Y, BadE P (spec P Φ) Gm Φ Y e0) : (GoodE P (spec P Φ) Gm Φ X) (.word f e0) := fun O W H σ ρ ρ1 r L e Q c => by
  refine ⟨L.tabs, fun H1 g => ?_⟩
  obtain ⟨L1, s1⟩ := L.grown g
  unfold evE at e
  cases qw : Gm.word f with
  | none => rw [qw] at e; cases e
  | some wd =>
    rw [qw] at e
    dsimp only at e
    refine ⟨wd, ok.word f wd qw, ?_⟩
    have ans : ∀ {dr : D} {H2 : Hp} {W2 : AP}, r = .v dr → still dr = true → Rel P O W2 H2 σ ρ1 → Step σ ρ W H ρ1 W2 H2 → Ans P dr H2 Q := fun {dr H2 W2} er st L2' s2 v H3 k rv => by
      subst er
      obtain ⟨L3, s3⟩ := L2'.grown (H' := H3) k
      exact c v H3 W2 L3 (s2.trans s3) (show RepV P (Av O W2) H3 dr v from RepV.still st rv) fun _ _ z => nomatch z
    have km : ∀ {ρ2 : Env} {H2 : Hp} {W2 : AP}, Step σ ρ W H1 ρ2 W2 H2 → KM H1 H2 := fun {ρ2 H2 W2} s a o e m nt => s.keep a o e nt fun z => by
      obtain ⟨o', e', m'⟩ := L1.wmut a (L1.ownW z)
      rw [e] at e'
      cases e'
      rw [m] at m'
      cases m'
    cases qx : exE Gm Φ e0 ρ with
    | some y =>
      obtain ⟨x, ρx⟩ := y
      rw [qx] at e
      dsimp only at e
      cases qo : wd.onX x with
      | none => rw [qo] at e; cases e
      | some dr =>
        rw [qo] at e
        dsimp only at e
        split at e
        · rename_i st
          cases e
          refine hb _ O W H1 σ ρ ρ1 x L1 qx (fun cls d H2 W2 L2' s2 is => ?_) _
          exact ⟨x, dr, is, L2'.tabs, km s2, qo, st, ans rfl st L2' (s1.trans s2)⟩
        · cases e
    | none =>
      rw [qx] at e
      dsimp only at e
      obtain ⟨ra, ρa, ea, e⟩ := bindO_some e
      obtain ⟨d, ρb, eb, e⟩ := bindO_some e
      cases qo : wd.onV d with
      | none => rw [qo] at e; cases e
      | some dr =>
        rw [qo] at e
        dsimp only at e
        split at e
        · rename_i st
          cases e
          refine h _ O W H1 σ ρ ρa ra L1 ea _ fun v H2 W2 L2' s2 hv fr => ?_
          obtain ⟨W3, L3, l3, rv⟩ := freeze_ok L2' hv eb
          have s3 := s2.lose L1 l3 (freshAt (O := O) (W := W) fr)
          exact ⟨d, dr, _, rv, (fun a z => z.elim (L3.oal a) fun z => let ⟨o, e, _⟩ := L3.wmut a z; by rw [e]; exact fun z => nomatch z), L3.tabs, km s3, qo, st, ans rfl st L3 (s1.trans s3)⟩
        · cases e
theorem ge_makex {C : Nat} {es : Es} (h : (GoodEs P (spec P Φ) Gm Φ X) es) : (GoodE P (spec P Φ) Gm Φ X) (.makex C es) := fun O W H σ ρ ρ1 r L e Q c => by
  unfold evE at e
  obtain ⟨rs, ρa, ea, e⟩ := bindO_some e
  refine h O W H σ ρ ρa rs L ea _ fun vs H1 W1 L1 s1 hr nd fr => ?_
  unfold makeF at e
  cases q : freezes rs ρa with
  | none => rw [q] at e; cases e
  | some x =>
    obtain ⟨ds, ρb⟩ := x
    rw [q] at e
    dsimp only at e
    obtain ⟨W2, L2', l2, hv⟩ := freezes_ok L1 hr nd q
    have s2 := s1.lose L l2 fr
    cases q2 : Gm.io C with
    | none => rw [q2] at e; cases e
    | some io =>
      rw [q2] at e
      dsimp only at e
      split at e
      · cases q3 : Φ C ((true, .ins C [] []) :: ds.map fun d => (false, d)) with
        | none => rw [q3] at e; cases e
        | some y =>
          rw [q3] at e
          split at e
          · rename_i d0 e1
            cases e1
            cases e
            intro x dx hx hdx hne
            rw [List.append_nil]
            have hdx' : ∀ a o, H1 a = some o → (upd (upd H1 dx (.own x)) x (.ins (P.cls C) dx [])) a = some o := fun a o e => by
              rw [upd_ne (ne_of_none e hx), upd_ne (ne_of_none e hdx)]; exact e
            have kA : Kp (fun _ => False) (Av O W2) (Av (Av O W2) (InL [x])) H1 (upd (upd H1 dx (.own x)) x (.ins (P.cls C) dx [])) := ⟨fun a o e _ _ => hdx' a o e, fun _ z => z.elim, fun _ z => z.elim, fun a z => by
              rcases z with z | z
              · exact .inl z
              · rw [List.mem_singleton.mp z]; exact .inr hx⟩
            have args : ∀ {ds : List D} {vs : List V}, RepVs P (Av O W2) H1 ds vs → ArgsRep P (Av (Av O W2) (InL [x])) (upd (upd H1 dx (.own x)) x (.ins (P.cls C) dx [])) (ds.map fun d => (false, d)) vs [] := by
              intro ds
              induction ds with
              | nil => intro vs h; unfold RepVs at h; subst h; exact .nil
              | cons d ds ih =>
                intro vs h
                obtain ⟨v, us, rfl, h1, h2⟩ := h.uncons
                exact .fro (h1.kp kA) (ih h2)
            refine ⟨Av O W2, _, [x], .own (show OwnV P _ _ (.ins C [] []) x from ⟨dx, [], by rw [upd_same]; rfl, rfl, .nil⟩) (args hv), by simp, fun a ha z => ?_, fun a z => ?_, tabs_new (tabs_new L2'.tabs hdx) (by rw [upd_ne (Ne.symm hne)]; exact hx), .inl ⟨_, _, q3, fun v H' W' rt => ⟨?_, ?_⟩⟩⟩
            · rw [List.mem_singleton.mp ha] at z
              rcases z with z | z
              · exact L2'.oal x z hx
              · obtain ⟨o, e, _⟩ := L2'.wmut x z
                rw [hx] at e; cases e
            · have : H1 a ≠ none := by
                rcases z with z | z
                · exact L2'.oal a z
                · obtain ⟨o, e, _⟩ := L2'.wmut a z
                  rw [e]; exact (fun z => nomatch z)
              cases q : H1 a with
              | none => exact absurd q this
              | some o => rw [hdx' a o q]; exact (fun z => nomatch z)
            · have hval : RepV P (Av (Av O W2) W') H' .non v := rt.val
              unfold RepV at hval; exact hval
            · -- behind
              have keep : ∀ a o, H1 a = some o → nT o → H' a = some o := fun a o e nt => rt.keep a o (hdx' a o e) nt fun z => by rw [List.mem_singleton.mp z, hx] at e; cases e
              have new : ∀ a, W' a → H1 a = none := fun a w => by
                rcases rt.new a w with z | z
                · rw [List.mem_singleton.mp z]; exact hx
                · cases q : H1 a with
                  | none => rfl
                  | some o => rw [hdx' a o q] at z; cases z
              have k3 : Kp (fun _ => False) (Av O W2) (Av O fun a => W2 a ∨ W' a) H1 H' := ⟨fun a o e nt _ => keep a o e nt, fun _ z => z.elim, fun _ z => z.elim, fun a z => by
                rcases z with z | z | z
                · exact .inl (.inl z)
                · exact .inl (.inr z)
                · exact .inr (new a z)⟩
              have alive : ∀ a, H1 a ≠ none → H' a ≠ none := fun a n => rt.alive a (by
                cases q : H1 a with
                | none => exact absurd q n
                | some o => rw [hdx' a o q]; exact (fun z => nomatch z))
              have wx : W' x := rt.adsW x List.mem_cons_self
              have L3 : Rel P O (fun a => W2 a ∨ W' a) H' σ ρ1 := by
                refine ⟨L2'.len, fun a z => ?_, fun a z => alive a (L2'.oal a z), fun a z q => ?_, fun i d e => ?_, fun i d e => ?_, L2'.inj, rt.tabs⟩
                · rcases z with z | z
                  · obtain ⟨o, e, m⟩ := L2'.wmut a z
                    exact ⟨o, keep a o e (nT_mut m), m⟩
                  · exact rt.muts a z
                · rcases z with z | z
                  · exact L2'.ow a z q
                  · exact L2'.oal a q (new a z)
                · obtain ⟨v, e1, rv⟩ := L2'.fro i d e
                  exact ⟨v, e1, rv.kp k3⟩
                · obtain ⟨a, e1, w, ho⟩ := L2'.own i d e
                  exact ⟨a, e1, .inl w, ho.kp k3 fun z => z⟩
              have s3 : Step σ ρ W H ρ1 (fun a => W2 a ∨ W' a) H' := by
                refine ⟨fun a o e nt n => keep a o (s2.keep a o e nt n) nt, fun a z => ?_, fun a z n => .inl (s2.stay a z n), s2.own, s2.there, fun a n => alive a (s2.alive a n)⟩
                rcases z with z | z
                · exact s2.new a z
                · exact .inr (Classical.byContradiction fun q => s2.alive a q (new a z))
              have ho : OwnV P (Av (Av O W2) W') H' d0 x := by
                have h := rt.outR
                cases h with
                | cons h _ => exact h
              refine c (.ref x) H' _ L3 s3 ⟨x, rfl, .inr wx, fun z => ?_, ho.kp (Kp.less fun a z => ?_) fun z => z⟩ fun d a _ e => ?_
              · obtain ⟨o, e, _⟩ := L2'.wmut x (L2'.ownW z)
                rw [hx] at e; cases e
              · rcases z with z | z | z
                · exact .inl (.inl z)
                · exact .inl (.inr z)
                · exact .inr z
              · cases e
                exact Classical.byContradiction fun q => s2.alive x q hx
          · cases e
      · cases e
mutual
theorem soundE (ok : CfgOk P Gm) : ∀ (e : E) (X : XK), GoodE P (spec P Φ) Gm Φ X e
  | .var _, X => ge_var
  | .glob _, X => ge_glob ok
  | .cint _, X => ge_cint
  | .cbl _, X => ge_cbl
  | .cnon, X => ge_cnon
  | .cstr _, X => ge_cstr
  | .cty _, X => ge_cty
  | .tup es, X => ge_tup (soundA ok es X)
  | .lst es, X => ge_lst (soundA ok es X)
  | .bin _ a b, X => ge_bin (soundE ok a X) (soundE ok b X)
  | .neg a, X => ge_neg (soundE ok a X)
  | .notv a, X => ge_notv (soundE ok a X)
  | .andv a b, X => ge_andv (soundE ok a X) (soundE ok b X)
  | .orv a b, X => ge_orv (soundE ok a X) (soundE ok b X)
  | .cmp _ a b, X => ge_cmp (soundE ok a X) (soundE ok b X)
  | .chain _ _ a b c, X => ge_chain (soundE ok a X) (soundE ok b X) (soundE ok c X)
  | .ite t a b, X => ge_ite (soundT ok t X) (soundE ok a X) (soundE ok b X)
  | .idx a b, X => ge_idx (soundE ok a X) (soundE ok b X)
  | .sl a lo hi, X => ge_sl (soundE ok a X) (soundO ok lo X) (soundO ok hi X)
  | .rev a, X => ge_rev (soundE ok a X)
  | .call _ es, X => ge_call (soundA ok es X)
  | .make _ es, X => ge_make (soundA ok es X)
  | .callb _ es, X => ge_callb (soundA ok es X)
  | .meth _ a b, X => ge_meth (soundE ok a X) (soundE ok b X)
  | .mut _ _ es, X => ge_mut (soundA ok es X)
  | .attr a _, X => ge_attr ok (soundE ok a X)
  | .comp _ _ it t b, X => ge_comp (soundI ok it E0) (soundT ok t E0) (soundE ok b E0)
  | .lrange es, X => ge_lrange (soundA ok es X)
  | .dic0, X => ge_dic0
  | .dic1 a b, X => ge_dic1 (soundE ok a X) (soundE ok b X)
  | .comp2 _ _ _ it t _ it1 t1 b, X => ge_comp2 (soundI ok it E0) (soundT ok t E0) (soundI ok it1 E0) (soundT ok t1 E0) (soundE ok b E0)
  | .callx _ es, X => ge_callx (soundA ok es X)
  | .fnv _, X => ge_fnv ok
  | .callv _ es, X => ge_callv (soundA ok es X)
  | .makex _ es, X => ge_makex (soundA ok es X)
  | .word _ e, X => ge_word ok (fun Y => soundE ok e Y) fun Y => soundXE ok e Y
  | .isx e _, X => ge_isx ok (soundE ok e X)
  | .isb e _, X => ge_isb ok (soundE ok e X)
  | .xattr e _, X => ge_xattr ok (soundE ok e X)
  | .isc e _, X => ge_isc ok (soundE ok e X)
  | .isit e _, X => ge_isit (soundE ok e X)
  | .pure e, X => ge_pure (soundE ok e X)
  | .eqi _ _ _ es, X => ge_eqi (soundA ok es X)
theorem soundXE (ok : CfgOk P Gm) : ∀ (e : E) (X : XK), BadE P (spec P Φ) Gm Φ X e
  | .callx _ es, X => be_callx (soundA ok es X) (soundXA ok es X)
  | .fnv _, X => fun O W H σ ρ ρ1 x L e => by unfold exE at e; cases e
  | .callv _ es, X => be_callv (soundA ok es X) (soundXA ok es X)
  | .makex _ es, X => be_makex (soundA ok es X) (soundXA ok es X)
  | .tup es, X => be_tup (soundXA ok es X)
  | .lst es, X => be_lst (soundXA ok es X)
  | .callb _ es, X => be_callb (soundXA ok es X)
  | .idx a _, X => be_idx (soundXE ok a X)
  | .notv a, X => be_notv (soundXE ok a X)
  | .var _, X => fun O W H σ ρ ρ1 x L e => by unfold exE at e; cases e
  | .glob _, X => fun O W H σ ρ ρ1 x L e => by unfold exE at e; cases e
  | .cint _, X => fun O W H σ ρ ρ1 x L e => by unfold exE at e; cases e
  | .cbl _, X => fun O W H σ ρ ρ1 x L e => by unfold exE at e; cases e
  | .cnon, X => fun O W H σ ρ ρ1 x L e => by unfold exE at e; cases e
  | .cstr _, X => fun O W H σ ρ ρ1 x L e => by unfold exE at e; cases e
  | .cty _, X => fun O W H σ ρ ρ1 x L e => by unfold exE at e; cases e
  | .bin _ _ _, X => fun O W H σ ρ ρ1 x L e => by unfold exE at e; cases e
  | .neg _, X => fun O W H σ ρ ρ1 x L e => by unfold exE at e; cases e
  | .andv _ _, X => fun O W H σ ρ ρ1 x L e => by unfold exE at e; cases e
  | .orv _ _, X => fun O W H σ ρ ρ1 x L e => by unfold exE at e; cases e
  | .cmp _ _ _, X => fun O W H σ ρ ρ1 x L e => by unfold exE at e; cases e
  | .chain _ _ _ _ _, X => fun O W H σ ρ ρ1 x L e => by unfold exE at e; cases e
  | .ite _ _ _, X => fun O W H σ ρ ρ1 x L e => by unfold exE at e; cases e
  | .sl _ _ _, X => fun O W H σ ρ ρ1 x L e => by unfold exE at e; cases e
  | .rev _, X => fun O W H σ ρ ρ1 x L e => by unfold exE at e; cases e
  | .call _ _, X => fun O W H σ ρ ρ1 x L e => by unfold exE at e; cases e
  | .make _ _, X => fun O W H σ ρ ρ1 x L e => by unfold exE at e; cases e
  | .meth _ _ _, X => fun O W H σ ρ ρ1 x L e => by unfold exE at e; cases e
  | .mut _ _ _, X => fun O W H σ ρ ρ1 x L e => by unfold exE at e; cases e
  | .attr _ _, X => fun O W H σ ρ ρ1 x L e => by unfold exE at e; cases e
  | .comp _ _ _ _ _, X => fun O W H σ ρ ρ1 x L e => by unfold exE at e; cases e
  | .comp2 _ _ _ _ _ _ _ _ _, X => fun O W H σ ρ ρ1 x L e => by unfold exE at e; cases e
  | .dic0, X => fun O W H σ ρ ρ1 x L e => by unfold exE at e; cases e
  | .dic1 _ _, X => fun O W H σ ρ ρ1 x L e => by unfold exE at e; cases e
  | .lrange _, X => fun O W H σ ρ ρ1 x L e => by unfold exE at e; cases e
  | .word _ _, X => fun O W H σ ρ ρ1 x L e => by unfold exE at e; cases e
  | .isx _ _, X => fun O W H σ ρ ρ1 x L e => by unfold exE at e; cases e
  | .isb _ _, X => fun O W H σ ρ ρ1 x L e => by unfold exE at e; cases e
  | .xattr _ _, X => fun O W H σ ρ ρ1 x L e => by unfold exE at e; cases e
  | .isc _ _, X => fun O W H σ ρ ρ1 x L e => by unfold exE at e; cases e
  | .isit _ _, X => fun O W H σ ρ ρ1 x L e => by unfold exE at e; cases e
  | .pure _, X => fun O W H σ ρ ρ1 x L e => by unfold exE at e; cases e
  | .eqi _ _ _ _, X => fun O W H σ ρ ρ1 x L e => by unfold exE at e; cases e
theorem soundXA (ok : CfgOk P Gm) : ∀ (es : Es) (X : XK), BadEs P (spec P Φ) Gm Φ X es
  | .nil, X => fun O W H σ ρ ρ1 x L e => by unfold exEs at e; cases e
  | .cons e r, X => ba_cons (soundE ok e X) (soundXE ok e X) (soundXA ok r X)
theorem soundT (ok : CfgOk P Gm) : ∀ (t : T) (X : XK), GoodT P (spec P Φ) Gm Φ X t
  | .yes, X => gt_yes
  | .val e, X => gt_val (soundE ok e X)
  | .and a b, X => gt_and (soundT ok a X) (soundT ok b X)
  | .or a b, X => gt_or (soundT ok a X) (soundT ok b X)
  | .not a, X => gt_not (soundT ok a X)
theorem soundA (ok : CfgOk P Gm) : ∀ (es : Es) (X : XK), GoodEs P (spec P Φ) Gm Φ X es
  | .nil, X => ga_nil
  | .cons e r, X => ga_cons (soundE ok e X) (soundA ok r X)
theorem soundO (ok : CfgOk P Gm) : ∀ (o : Oe) (X : XK), GoodO P (spec P Φ) Gm Φ X o
  | .none, X => go_none
  | .some e, X => go_some (soundE ok e X)
theorem soundI (ok : CfgOk P Gm) : ∀ (it : It) (X : XK), GoodI P (spec P Φ) Gm Φ X it
  | .seq e, X => gi_seq (soundE ok e X)
  | .range1 a, X => gi_range1 (soundE ok a X)
  | .range2 a b, X => gi_range2 (soundE ok a X) (soundE ok b X)
  | .zip a b, X => gi_zip (soundE ok a X) (soundE ok b X)
  | .enum a, X => gi_enum (soundE ok a X)
end
end
end Mi
set_option Elab.async false
set_option linter.all false
set_option maxRecDepth 100000
set_option maxHeartbeats 4000000
namespace Mi
open PySem PySem.Spec PyProof.Rows L2
/-- from one state to a later one, slots stored to; the slots fx keep their values -/
structure SStep (fx : List Nat) (σ : L2.St) (ρ : Env) (W : AP) (H : Hp) (σ' : L2.St) (ρ' : Env) (W' : AP) (H' : Hp) : Prop where
  keep : ∀ a o, H a = some o → nT o → ¬ OwnA σ ρ a → H' a = some o
  new : ∀ a, W' a → W a ∨ H a = none
  own : ∀ a, OwnA σ' ρ' a → OwnA σ ρ a ∨ H a = none
  alive : ∀ a, H a ≠ none → H' a ≠ none
  fixed : ∀ i ∈ fx, σ'[i]? = σ[i]?
  lenR : ρ'.length = ρ.length
section
variable {P : TP} {O W W1 W2 : AP} {H H1 H2 : Hp} {σ σ1 σ2 : L2.St} {ρ ρ1 ρ2 : Env} {fx : List Nat} {r : R}
theorem SStep.refl : SStep fx σ ρ W H σ ρ W H := ⟨fun _ _ e _ _ => e, fun _ h => .inl h, fun _ h => .inl h, fun _ h => h, fun _ _ => rfl, rfl⟩
theorem SStep.trans (s : SStep fx σ ρ W H σ1 ρ1 W1 H1) (t : SStep fx σ1 ρ1 W1 H1 σ2 ρ2 W2 H2) : SStep fx σ ρ W H σ2 ρ2 W2 H2 where
  keep := fun a o e nt n => t.keep a o (s.keep a o e nt n) nt fun z => (s.own a z).elim n fun q => by rw [e] at q; cases q
  new := fun a h => by
    rcases t.new a h with h | h
    · exact s.new a h
    · exact .inr (Classical.byContradiction fun q => s.alive a q h)
  own := fun a h => by
    rcases t.own a h with h | h
    · exact s.own a h
    · exact .inr (Classical.byContradiction fun q => s.alive a q h)
  alive := fun a h => t.alive a (s.alive a h)
  fixed := fun i h => (t.fixed i h).trans (s.fixed i h)
  lenR := t.lenR.trans s.lenR
theorem Step.ss (s : Step σ ρ W H ρ1 W1 H1) (L : Rel P O W H σ ρ) (L1 : Rel P O W1 H1 σ ρ1) : SStep fx σ ρ W H σ ρ1 W1 H1 :=
  ⟨s.keep, s.new, fun a h => .inl (s.own a h), s.alive, fun _ _ => rfl, by rw [L1.len, L.len]⟩
theorem Chg.ss {T : Nat → Prop} (c : Chg T σ ρ σ1 ρ1) (h : ∀ i ∈ fx, ¬ T i) : SStep fx σ ρ W H σ1 ρ1 W H :=
  ⟨fun _ _ e _ _ => e, fun _ h => .inl h, fun a h => .inl (c.ownA h), fun _ h => h, fun i hi => (c.out i (h i hi)).1, c.lenR⟩
theorem SStep.kp (L : Rel P O W H σ ρ) (s : SStep fx σ ρ W H σ1 ρ1 W1 H1) : Kp (OwnA σ ρ) (Av O W) (Av O W1) H H1 where
  keep := s.keep
  wm := fun a h => L.wmut a (L.ownW h)
  wa := fun a h => .inr (L.ownW h)
  av := fun a h => h.elim (fun z => .inl (.inl z)) fun z => (s.new a z).elim (fun q => .inl (.inr q)) .inr
theorem tgFree_has : ∀ {tg : Tg}, tgFree fx tg = true → ∀ i ∈ fx, ¬ tgHas tg i
  | .var j, h, i, hi, e => by
    have e : i = j := e
    subst e
    simp [tgFree] at h
    exact h hi
  | .nil, _, _, _, e => e
  | .cons a r, h, i, hi, e => by
    unfold tgFree at h
    rw [Bool.and_eq_true] at h
    exact e.elim (tgFree_has h.1 i hi) (tgFree_has h.2 i hi)
theorem own_ss (s : Step σ ρ W H ρ1 W1 H1) (L : Rel P O W H σ ρ) (L1 : Rel P O W1 H1 σ ρ1) (o : ∀ b, OwnA σ2 ρ2 b → OwnA σ ρ1 b ∨ H b = none) (k : ∀ i ∈ fx, σ2[i]? = σ[i]?) (l : ρ2.length = ρ1.length) : SStep fx σ ρ W H σ2 ρ2 W1 H1 :=
  ⟨s.keep, s.new, fun a h => (o a h).imp (s.own a) fun z => z, s.alive, k, by rw [l, L1.len, L.len]⟩
/-- what a statement hands on -/
def SCont (P : TP) (O : AP) (fx : List Nat) (σ : L2.St) (ρ : Env) (W : AP) (H : Hp) (ρ1 : Env) (fl : Fl) (D : Ends) : Prop :=
  ∀ σ1 W1 H1, Rel P O W1 H1 σ1 ρ1 → SStep fx σ ρ W H σ1 ρ1 W1 H1 → match fl with
    | .nx => D.nx σ1 H1
    | .rt r => ∀ v, RepR P O W1 H1 σ1 ρ1 r v → D.rt v H1
    | .brk => D.bk σ1 H1
    | .cnt => D.ct σ1 H1
theorem SCont.from {fl : Fl} {D : Ends} (c : SCont P O fx σ ρ W H ρ2 fl D) (s : SStep fx σ ρ W H σ1 ρ1 W1 H1) : SCont P O fx σ1 ρ1 W1 H1 ρ2 fl D := fun σ2 W2 H2 L t => c σ2 W2 H2 L (s.trans t)
end
section
variable (P : TP) (call : Nat → Sp) (Gm : Cfg) (Φ : Phi) (X : XK) (fx : List Nat)
def GoodS (s : S) : Prop := ∀ (O W : AP) (H : Hp) (σ : L2.St) (ρ ρ1 : Env) (fl : Fl), Rel P O W H σ ρ → evS Gm Φ fx s ρ = some (fl, ρ1) → ∀ D : Ends, SCont P O fx σ ρ W H ρ1 fl D → tS P call s X D σ H
def GoodSs (s : Ss) : Prop := ∀ (O W : AP) (H : Hp) (σ : L2.St) (ρ ρ1 : Env) (fl : Fl), Rel P O W H σ ρ → evSs Gm Φ fx s ρ = some (fl, ρ1) → ∀ D : Ends, SCont P O fx σ ρ W H ρ1 fl D → tSs P call s X D σ H
end
section
variable {P : TP} {Gm : Cfg} {Φ : Phi} {X : XK} {fx : List Nat}
theorem gs_asg {tg : Tg} {a : E} (ha : (GoodE P (spec P Φ) Gm Φ X) a) : (GoodS P (spec P Φ) Gm Φ X fx) (.asg tg a) := fun O W H σ ρ ρ1 fl L e D c => by
  unfold evS at e
  split at e
  · rename_i hf
    obtain ⟨r, ρa, ea, e⟩ := bindO_some e
    obtain ⟨d, ρb, eb, e⟩ := bindO_some e
    refine ha O W H σ ρ ρa r L ea _ fun v H1 W1 L1 s1 h1 f1 => ?_
    obtain ⟨W2, L2', l2, rv⟩ := freeze_ok L1 h1 eb
    have s2 := s1.lose L l2 (freshAt (O := O) (W := W) f1)
    cases q : setTg tg d ρb with
    | none => rw [q] at e; cases e
    | some ρc =>
      rw [q] at e
      cases e
      exact tg_ok L2' rv q fun σ1 L3 ch => c σ1 W2 H1 L3 ((s2.ss L L2').trans (ch.ss (tgFree_has hf)))
  · cases e
theorem gs_own {i : Nat} {a : E} (ha : (GoodE P (spec P Φ) Gm Φ X) a) : (GoodS P (spec P Φ) Gm Φ X fx) (.own i a) := fun O W H σ ρ ρ1 fl L e D c => by
  unfold evS at e
  split at e
  · cases e
  · rename_i hf
    obtain ⟨r, ρa, ea, e⟩ := bindO_some e
    refine ha O W H σ ρ ρa r L ea _ fun v H1 W1 L1 s1 h1 f1 => ?_
    have frz : ∀ {r : R}, RepR P O W1 H1 σ ρa r v → (∀ d a, r = .o d → v = .ref a → H a = none) → (bindO (freeze r ρa) fun d ρ2 => if i < ρ2.length then some (Fl.nx, ρ2.set i (some (false, d))) else none) = some (fl, ρ1) → gName i v σ H1 D.nx := fun {r} h1 f1 e => by
      obtain ⟨d, ρb, eb, e⟩ := bindO_some e
      obtain ⟨W2, L2', l2, rv⟩ := freeze_ok L1 h1 eb
      have s2 := s1.lose L l2 (freshAt (O := O) (W := W) f1)
      split at e
      · rename_i hi
        cases e
        obtain ⟨L3, ch⟩ := L2'.store hi rv
        exact c _ W2 H1 L3 ((s2.ss L L2').trans (ch.ss fun j hj z => hf (z ▸ hj)))
      · cases e
    cases r with
    | v d => exact frz h1 f1 e
    | b j => exact frz h1 f1 e
    | o d =>
      have e : (if i < ρa.length then some (Fl.nx, ρa.set i (some (true, d))) else none) = some (fl, ρ1) := e
      split at e
      · rename_i hi
        cases e
        obtain ⟨p, rfl, w, n, ho⟩ := h1
        obtain ⟨L3, o3, k3⟩ := L1.storeO hi w n ho
        exact c _ W1 H1 L3 (own_ss s1 L L1 (fun b hb => (o3 b hb).imp (fun z => z) fun z => by rw [z]; exact f1 d p rfl rfl) (fun j hj => (k3 j fun z => hf (z ▸ hj)).1) (by rw [List.length_set]))
      · cases e
inductive ParRep (P : TP) (A W : AP) (H : Hp) (N : AP) : List (Bool × D) → List V → List Addr → Prop
  | nil : ParRep P A W H N [] [] []
  | fro {d : D} {v : V} {xs : List (Bool × D)} {vs : List V} {as : List Addr} : RepV P A H d v → ParRep P A W H N xs vs as → ParRep P A W H N ((false, d) :: xs) (v :: vs) as
  | own {d : D} {a : Addr} {xs : List (Bool × D)} {vs : List V} {as : List Addr} : OwnV P A H d a → W a → ¬ N a → ParRep P A W H N xs vs as → ParRep P A W H N ((true, d) :: xs) (.ref a :: vs) (a :: as)
theorem ParRep.mono' {A W : AP} {H : Hp} {N N' : AP} {xs : List (Bool × D)} {vs : List V} {as : List Addr} (h : ParRep P A W H N xs vs as) : (∀ a ∈ as, ¬ N a → ¬ N' a) → ParRep P A W H N' xs vs as := by
  induction h with
  | nil => exact fun _ => .nil
  | fro h _ ih => exact fun k => .fro h (ih k)
  | own h w n _ ih => exact fun k => .own h w (k _ List.mem_cons_self n) (ih fun a ha => k a (List.mem_cons_of_mem _ ha))
theorem ParRep.mono {A W : AP} {H : Hp} {N N' : AP} {xs : List (Bool × D)} {vs : List V} {as : List Addr} (h : ParRep P A W H N xs vs as) (k : ∀ a, ¬ N a → ¬ N' a) : ParRep P A W H N' xs vs as := h.mono' fun a _ => k a
theorem ParRep.kp {A A' W : AP} {H H' : Hp} {N : AP} {xs : List (Bool × D)} {vs : List V} {as : List Addr} (k : Kp (fun _ => False) A A' H H') (h : ParRep P A W H N xs vs as) : ParRep P A' W H' N xs vs as := by
  induction h with
  | nil => exact .nil
  | fro h _ ih => exact .fro (h.kp k) ih
  | own h w n _ ih => exact .own (h.kp k fun z => z) w n ih
theorem prep_ok {O : AP} {H : Hp} {σ : L2.St} : ∀ {ts : List (Nat × Bool)} {rs : List R} {vs : List V} {W : AP} {ρ : Env} {p : List (Bool × D) × Env}, Rel P O W H σ ρ → RepRs P O W H σ ρ rs vs → (tmps rs vs).Nodup → prep ts rs ρ = some p →
    ∃ W1 as, Rel P O W1 H σ p.2 ∧ Lose σ ρ W p.2 W1 (fun a => a ∈ tmps rs vs) ∧ ParRep P (Av O W1) W1 H (OwnA σ p.2) p.1 vs as ∧ as.Nodup ∧ (∀ a ∈ as, a ∈ tmps rs vs) ∧ ts.length = vs.length
  | [], [], vs, W, ρ, p, L, h, nd, e => by
    cases e
    have h : vs = [] := h
    subst h
    exact ⟨W, [], L, .refl, .nil, .nil, (fun _ h => nomatch h), rfl⟩
  | [], _ :: _, _, _, _, _, _, _, _, e => by cases e
  | _ :: _, [], _, _, _, _, _, _, _, e => by cases e
  | (i, own) :: ts, r :: rs, _, W, ρ, p, L, ⟨v, us, e0, h1, h2⟩, nd, e => by
    subst e0
    have frz : (match freeze r ρ with
      | some (d, ρ1) => (prep ts rs ρ1).map fun p => ((false, d) :: p.1, p.2)
      | none => none) = some p → ∃ W1 as, Rel P O W1 H σ p.2 ∧ Lose σ ρ W p.2 W1 (fun a => a ∈ tmps (r :: rs) (v :: us)) ∧ ParRep P (Av O W1) W1 H (OwnA σ p.2) p.1 (v :: us) as ∧ as.Nodup ∧ (∀ a ∈ as, a ∈ tmps (r :: rs) (v :: us)) ∧ ((i, own) :: ts).length = (v :: us).length := fun e => by
      cases q : freeze r ρ with
      | none => rw [q] at e; cases e
      | some y =>
        obtain ⟨d, ρ2⟩ := y
        rw [q] at e
        dsimp only at e
        cases q2 : prep ts rs ρ2 with
        | none => rw [q2] at e; cases e
        | some z =>
          rw [q2] at e
          cases e
          obtain ⟨W2, L2', l2, rd⟩ := freeze_ok L h1 q
          have nd2 : (tmps rs us).Nodup ∧ ∀ a, (∃ x, r = .o x) ∧ v = .ref a → a ∉ tmps rs us := by
            cases r with
            | o d =>
              cases v <;> first
                | exact ⟨(List.nodup_cons.mp nd).2, fun a h => by obtain ⟨_, e⟩ := h; cases e; exact (List.nodup_cons.mp nd).1⟩
                | exact ⟨nd, fun a h => by obtain ⟨_, e⟩ := h; cases e⟩
            | v d => exact ⟨nd, fun a h => by obtain ⟨⟨_, e⟩, _⟩ := h; cases e⟩
            | b d => exact ⟨nd, fun a h => by obtain ⟨⟨_, e⟩, _⟩ := h; cases e⟩
          obtain ⟨W3, as, L3, l3, pr, ndA, sub, ln⟩ := prep_ok L2' (h2.lose l2 fun a ha h => nd2.2 a h ha) nd2.1 q2
          have inc : ∀ a, a ∈ tmps rs us → a ∈ tmps (r :: rs) (v :: us) := fun a ha => by
            cases r with
            | o d => cases v <;> first | exact List.mem_cons_of_mem _ ha | exact ha
            | v d => exact ha
            | b d => exact ha
          have k : Kp (fun _ => False) (Av O W2) (Av O W3) H H := Kp.less fun b z => z.elim .inl fun q => .inr (l3.sub b q)
          refine ⟨W3, as, L3, (l2.mono fun a h => ?_).trans (l3.mono inc), .fro (rd.kp k) pr, ndA, fun a ha => inc a (sub a ha), by simp [ln]⟩
          obtain ⟨⟨x, e⟩, e2⟩ := h
          subst e e2
          exact List.mem_cons_self
    unfold prep at e
    cases own with
    | false => exact frz e
    | true =>
      cases r with
      | v d => exact frz e
      | b d => exact frz e
      | o d =>
        dsimp only at e
        cases q2 : prep ts rs ρ with
        | none => rw [q2] at e; cases e
        | some z =>
          rw [q2] at e
          cases e
          have h1' := h1
          obtain ⟨a, rfl, w, n, ho⟩ := h1'
          obtain ⟨n1, n2⟩ := List.nodup_cons.mp nd
          obtain ⟨W3, as, L3, l3, pr, ndA, sub, ln⟩ := prep_ok L h2 n2 q2
          obtain ⟨b, eb, w', n', ho'⟩ := h1.lose l3 fun d b _ e z => by cases e; exact n1 z
          cases eb
          exact ⟨W3, a :: as, L3, l3.mono fun b hb => List.mem_cons_of_mem _ hb, .own ho' w' n' pr, List.nodup_cons.mpr ⟨fun z => n1 (sub a z), ndA⟩, fun b hb => by
            rcases List.mem_cons.mp hb with z | z
            · subst z; exact List.mem_cons_self
            · exact List.mem_cons_of_mem _ (sub b z), by simp [ln]⟩
theorem setAll_ok {O W : AP} {H : Hp} : ∀ {ts : List (Nat × Bool)} {xs : List (Bool × D)} {vs : List V} {as : List Addr} {σ : L2.St} {ρ : Env} {Q : L2.St → Hp → Prop}, Rel P O W H σ ρ → ParRep P (Av O W) W H (OwnA σ ρ) xs vs as → as.Nodup → ts.length = vs.length → (∀ t ∈ ts, t.1 < ρ.length) →
    (∀ σ1, Rel P O W H σ1 (setAll ts xs ρ) → (∀ b, OwnA σ1 (setAll ts xs ρ) b → OwnA σ ρ b ∨ b ∈ as) → (∀ j, j ∉ ts.map (·.1) → σ1[j]? = σ[j]?) → (setAll ts xs ρ).length = ρ.length → Q σ1 H) → gNames ts vs σ H Q
  | [], xs, vs, as, σ, ρ, Q, L, pr, nd, ln, lt, q => by
    cases vs with
    | nil => exact ⟨rfl, q σ L (fun b h => .inl h) (fun _ _ => rfl) rfl⟩
    | cons _ _ => cases ln
  | (i, own) :: ts, _, _, _, σ, ρ, Q, L, .nil, nd, ln, lt, q => by cases ln
  | (i, own) :: ts, _, _, as, σ, ρ, Q, L, .fro (d := d) (v := v) (xs := xs) (vs := vs) h pr, nd, ln, lt, q => by
    have hi : i < ρ.length := lt (i, own) List.mem_cons_self
    obtain ⟨L1, ch⟩ := L.store hi h
    refine ⟨v, vs, rfl, setAll_ok L1 (pr.mono fun a n z => n (ch.ownA z)) nd (by simpa using ln) (fun t ht => by rw [List.length_set]; exact lt t (List.mem_cons_of_mem _ ht)) fun σ1 L2' o2 k2 l2 => ?_⟩
    refine q σ1 L2' (fun b hb => (o2 b hb).imp ch.ownA fun z => z) (fun j hj => ?_) (by rw [← List.length_set (as := ρ) (i := i) (a := some (false, d))]; exact l2)
    rw [List.map_cons, List.mem_cons, not_or] at hj
    rw [k2 j hj.2]
    exact (ch.out j hj.1).1
  | (i, own) :: ts, _, _, _, σ, ρ, Q, L, .own (d := d) (a := a) (xs := xs) (vs := vs) (as := as) h w n pr, nd, ln, lt, q => by
    have hi : i < ρ.length := lt (i, own) List.mem_cons_self
    obtain ⟨n1, n2⟩ := List.nodup_cons.mp nd
    obtain ⟨L1, o1, k1⟩ := L.storeO hi w n h
    refine ⟨.ref a, vs, rfl, setAll_ok L1 (pr.mono' fun b hb n z => (o1 b z).elim n fun e => n1 (e ▸ hb)) n2 (by simpa using ln) (fun t ht => by rw [List.length_set]; exact lt t (List.mem_cons_of_mem _ ht)) fun σ1 L2' o2 k2 l2 => ?_⟩
    refine q σ1 L2' (fun b hb => ?_) (fun j hj => ?_) (by rw [← List.length_set (as := ρ) (i := i) (a := some (true, d))]; exact l2)
    · rcases o2 b hb with z | z
      · exact (o1 b z).imp (fun z => z) fun (e : b = a) => by rw [e]; exact List.mem_cons_self
      · exact .inr (List.mem_cons_of_mem _ z)
    · rw [List.map_cons, List.mem_cons, not_or] at hj
      rw [k2 j hj.2]
      exact (k1 j hj.1).1
theorem ParRep.len {A W : AP} {H : Hp} {N : AP} {xs : List (Bool × D)} {vs : List V} {as : List Addr} (h : ParRep P A W H N xs vs as) : xs.length = vs.length := by
  induction h with
  | nil => rfl
  | fro _ _ ih => simp [ih]
  | own _ _ _ _ ih => simp [ih]
theorem gs_par {sw : Bool} {ts : List (Nat × Bool)} {es : Es} (h : (GoodEs P (spec P Φ) Gm Φ X) es) : (GoodS P (spec P Φ) Gm Φ X fx) (.par sw ts es) := fun O W H σ ρ ρ1 fl L e D c => by
  unfold evS at e
  obtain ⟨rs, ρa, ea, e⟩ := bindO_some e
  split at e
  · rename_i hts
    obtain ⟨hts, hz⟩ := hts
    cases q : prep ts rs ρa with
    | none => rw [q] at e; cases e
    | some p =>
      rw [q] at e
      cases e
      have lt : ∀ t ∈ ts, t.1 ∉ fx ∧ t.1 < ρa.length := fun t ht => by
        have := List.all_eq_true.mp hts t ht
        rw [Bool.and_eq_true, decide_eq_true_eq, decide_eq_true_eq] at this
        exact this
      have fin : ∀ vs H1 W1, Rel P O W1 H1 σ ρa → Step σ ρ W H ρa W1 H1 → RepRs P O W1 H1 σ ρa rs vs → (tmps rs vs).Nodup → (∀ a ∈ tmps rs vs, H a = none) →
          ts.length = vs.length ∧ (∀ (p0 : Addr) o, H1 p0 = none → gNames ts vs σ (upd H1 p0 o) D.nx) ∧ gNames ts vs σ H1 D.nx := fun vs H1 W1 L1 s1 hr nd fr => by
        obtain ⟨W2, as, L2', l2, pr, ndA, sub, ln⟩ := prep_ok L1 hr nd q
        have s2 := s1.lose L l2 fr
        have lenp : p.2.length = ρa.length := by rw [L2'.len, L1.len]
        refine ⟨ln, fun p0 o hp0 => ?_, ?_⟩
        · obtain ⟨L3, s3⟩ := L2'.laid (o := o) hp0
          refine setAll_ok L3 (pr.kp (kp_same hp0)) ndA ln (fun t ht => by rw [lenp]; exact (lt t ht).2) fun σ1 L4 o4 k4 l4 => c σ1 W2 _ L4 (own_ss (s2.trans s3) L L3 (fun b hb => (o4 b hb).imp (fun z => z) fun z => fr b (sub b z)) (fun j hj => k4 j fun z => ?_) l4)
          obtain ⟨t, ht, e⟩ := List.mem_map.mp z
          exact (lt t ht).1 (e ▸ hj)
        · refine setAll_ok L2' pr ndA ln (fun t ht => by rw [lenp]; exact (lt t ht).2) fun σ1 L4 o4 k4 l4 => c σ1 W2 _ L4 (own_ss s2 L L2' (fun b hb => (o4 b hb).imp (fun z => z) fun z => fr b (sub b z)) (fun j hj => k4 j fun z => ?_) l4)
          obtain ⟨t, ht, e⟩ := List.mem_map.mp z
          exact (lt t ht).1 (e ▸ hj)
      have tup : tS P (spec P Φ) (.par false ts es) X D σ H := by
        refine h O W H σ ρ ρa rs L ea _ fun vs H1 W1 L1 s1 hr nd fr => ?_
        obtain ⟨ln, k1, _⟩ := fin vs H1 W1 L1 s1 hr nd fr
        refine ⟨?_, fun p0 o hp hd => ⟨p0, vs, rfl, .inl (.inr ⟨o, upd_same⟩), ln.symm, k1 p0 _ hp⟩⟩
        rw [← ln, line_eq]
        exact hz
      cases sw with
      | false => exact tup
      | true =>
        match ts, fin, tup with
        | [(i, x), (j, y)], fin, _ =>
          refine h O W H σ ρ ρa rs L ea _ fun vs H1 W1 L1 s1 hr nd fr => ?_
          obtain ⟨ln, _, k1⟩ := fin vs H1 W1 L1 s1 hr nd fr
          obtain ⟨v, us, e1, w, us', e2, e3, k1⟩ := k1
          subst e1 e2 e3
          exact ⟨v, w, rfl, k1⟩
        | [(i, x), (j, y), (l, z)], fin, _ =>
          refine h O W H σ ρ ρa rs L ea _ fun vs H1 W1 L1 s1 hr nd fr => ?_
          obtain ⟨ln, _, k1⟩ := fin vs H1 W1 L1 s1 hr nd fr
          obtain ⟨v, us, e1, w, us', e2, u, us2, e4, e3, k1⟩ := k1
          subst e1 e2 e4 e3
          exact ⟨v, w, u, rfl, k1⟩
        | [], _, tup => exact tup
        | [_], _, tup => exact tup
        | _ :: _ :: _ :: _ :: _, _, tup => exact tup
  · cases e
end
end Mi
set_option Elab.async false
set_option linter.all false
set_option maxRecDepth 100000
set_option maxHeartbeats 4000000
namespace Mi
open PySem PySem.Spec PyProof.Rows L2
section
variable {P : TP} {Gm : Cfg} {Φ : Phi} {X : XK} {fx : List Nat}
theorem anyK {k : L2.Key} : ∀ {ks : List L2.Key} {us : List V}, ks.length = us.length → ((ks.zip us).any fun kv => decide (kv.1 = k)) = ks.any fun x => decide (x = k)
  | [], _, _ => by simp
  | x :: ks, [], l => by cases l
  | x :: ks, u :: us, l => by rw [List.zip_cons_cons, List.any_cons, List.any_cons, anyK (by simpa using l)]
theorem mapK {k : L2.Key} {w : V} : ∀ {ks : List L2.Key} {us : List V}, ks.length = us.length → (ks.zip us).map (fun kv => if kv.1 = k then (kv.1, w) else kv) = ks.zip (List.zipWith (fun x u => if x = k then w else u) ks us)
  | [], _, _ => by simp
  | x :: ks, [], l => by cases l
  | x :: ks, u :: us, l => by
    rw [List.zip_cons_cons, List.map_cons, mapK (by simpa using l), List.zipWith_cons_cons, List.zip_cons_cons]
    by_cases h : x = k
    · simp [h]
    · simp [h]
theorem repK {A : AP} {H : Hp} {k : L2.Key} {d : D} {w : V} (hv : RepV P A H d w) : ∀ {ks : List L2.Key} {ds : List D} {us : List V}, RepVs P A H ds us → RepVs P A H (List.zipWith (fun x d' => if x = k then d else d') ks ds) (List.zipWith (fun x u => if x = k then w else u) ks us)
  | [], _, _, _ => by simpa using RepVs.nil
  | x :: ks, [], us, h => by unfold RepVs at h; subst h; simpa using RepVs.nil
  | x :: ks, d' :: ds, us, h => by
    obtain ⟨u, r, rfl, h1, h2⟩ := h.uncons
    rw [List.zipWith_cons_cons, List.zipWith_cons_cons]
    refine .cons ?_ (repK hv h2)
    by_cases q : x = k
    · rw [if_pos q, if_pos q]; exact hv
    · rw [if_neg q, if_neg q]; exact h1
theorem dput_rep {A : AP} {H : Hp} {k : L2.Key} {d : D} {w : V} (hv : RepV P A H d w) {ks : List L2.Key} {ds : List D} {us : List V} (l : ks.length = us.length) (h : RepVs P A H ds us) :
    ∃ us', putK (ks.zip us) k w = (dputD k d ks ds).1.zip us' ∧ (dputD k d ks ds).1.length = us'.length ∧ RepVs P A H (dputD k d ks ds).2 us' := by
  unfold putK dputD
  rw [anyK l]
  by_cases q : (ks.any fun x => decide (x = k)) = true
  · rw [if_pos q, if_pos q]
    exact ⟨_, mapK l, by rw [List.length_zipWith, ← l, Nat.min_self], repK hv h⟩
  · rw [if_neg q, if_neg q]
    refine ⟨us ++ [w], ?_, by simp [l], h.append (.cons hv .nil)⟩
    rw [List.zip_append l]
    rfl
theorem gs_setix {i : Nat} {x a : E} (hx : (GoodE P (spec P Φ) Gm Φ X) x) (ha : (GoodE P (spec P Φ) Gm Φ X) a) : (GoodS P (spec P Φ) Gm Φ X fx) (.setix i x a) := fun O W H σ ρ ρ1 fl L e D c => by
  unfold evS at e
  split at e
  · rename_i l0 hi0
    obtain ⟨p, hp, _⟩ := L.own i _ hi0
    obtain ⟨r, ρa, ea, e⟩ := bindO_some e
    obtain ⟨ri, ρb, eb, e⟩ := bindO_some e
    obtain ⟨d, ρc, ec, e⟩ := bindO_some e
    split at e
    · rename_i k l hi e0
      cases q : ixOf l.length k with
      | none => rw [q] at e; cases e
      | some j =>
        rw [q] at e
        cases e
        refine ha O W H σ ρ ρa r L ea _ fun v H1 W1 L1 s1 h1 f1 => ⟨_, hp, ?_⟩
        refine hx O W1 H1 σ ρa ρb _ L1 eb _ fun vi H2 W2 L2' s2 h2 f2 => ?_
        obtain ⟨W3, L3, l3, rv⟩ := freeze_ok L2' (h1.step L1 s2) ec
        have s3 := (s1.trans s2).lose L l3 (freshAt (O := O) (W := W) f1)
        have h2 : vi = .int k := rrInt h2
        subst h2
        obtain ⟨p', hp', w, ws, hw, hl, hr⟩ := L3.own i _ hi
        rw [hp] at hp'
        cases hp'
        refine .inl ⟨p, ws, k, j, rfl, rfl, hw, by rw [← ixOf_eq, ← hr.length]; exact q, ?_⟩
        obtain ⟨L4, s4⟩ := L3.write (o' := .lst (ws.set j v)) (d' := .lst (l.set j d)) hi hp rfl fun kk => ⟨_, upd_same, by rw [List.length_set]; exact hl, (RepVs.set rv j hr).kp kk⟩
        exact c σ W3 _ L4 ((s3.trans s4).ss L L4)
    · cases e
  · rename_i ks0 vs0 hi0
    obtain ⟨p, hp, _⟩ := L.own i _ hi0
    obtain ⟨r, ρa, ea, e⟩ := bindO_some e
    obtain ⟨ri, ρb, eb, e⟩ := bindO_some e
    obtain ⟨d, ρc, ec, e⟩ := bindO_some e
    split at e
    · rename_i y ks vs hi e0
      cases q : keyD y with
      | none => rw [q] at e; cases e
      | some ky =>
        rw [q] at e
        have e : (if ks.length < line then some (Fl.nx, ρc.set i (some (true, .dct (dputD ky d ks vs).1 (dputD ky d ks vs).2))) else none) = some (fl, ρ1) := e
        split at e
        case isFalse => cases e
        rename_i hz
        cases e
        refine ha O W H σ ρ ρa r L ea _ fun v H1 W1 L1 s1 h1 f1 => ⟨_, hp, ?_⟩
        refine hx O W1 H1 σ ρa ρb _ L1 eb _ fun vi H2 W2 L2' s2 h2 f2 => ?_
        obtain ⟨W3, L3, l3, rv⟩ := freeze_ok L2' (h1.step L1 s2) ec
        have s3 := (s1.trans s2).lose L l3 (freshAt (O := O) (W := W) f1)
        have h2 : vi = kV ky := repKey (RepV.repB (show RepV P _ H2 y vi from h2)) q
        subst h2
        obtain ⟨p', hp', w, us, hw, hl, hr⟩ := L3.own i _ hi
        rw [hp] at hp'
        cases hp'
        obtain ⟨us', g1, g2, g3⟩ := dput_rep (k := ky) rv hl hr
        refine .inr ⟨p, _, rfl, DPut.k hw (by rw [List.length_zip, ← hl, Nat.min_self, line_eq]; exact hz), ?_⟩
        rw [g1]
        obtain ⟨L4, s4⟩ := L3.write (o' := .dK ((dputD ky d ks vs).1.zip us')) (d' := .dct (dputD ky d ks vs).1 (dputD ky d ks vs).2) hi hp rfl fun kk => ⟨us', upd_same, g2, g3.kp kk⟩
        exact c σ W3 _ L4 ((s3.trans s4).ss L L4)
    · cases e
  · cases e
theorem gs_augix {i : Nat} {x : E} {op : BOp} {a : E} (hx : (GoodE P (spec P Φ) Gm Φ X) x) (ha : (GoodE P (spec P Φ) Gm Φ X) a) : (GoodS P (spec P Φ) Gm Φ X fx) (.augix i x op a) := fun O W H σ ρ ρ1 fl L e D c => by
  unfold evS at e
  split at e
  · rename_i l0 hi0
    obtain ⟨p, hp, _⟩ := L.own i _ hi0
    obtain ⟨ri, ρa, ea, e⟩ := bindO_some e
    split at e
    · rename_i k l hi
      cases q : ixOf l.length k with
      | none => rw [q] at e; cases e
      | some j =>
        rw [q] at e
        rw [Option.bind_some] at e
        split at e
        case h_2 => cases e
        rename_i z hz
        obtain ⟨r, ρb, eb, e⟩ := bindO_some e
        split at e
        case h_2 => cases e
        rename_i y l2 hi2
        have fin : ∀ v H2 W2, Rel P O W2 H2 σ ρb → Step σ ρ W H ρb W2 H2 → RepR P O W2 H2 σ ρb (.v (.int y)) v → ∀ w : Int, (ixOf l2.length k).map (fun j => (Fl.nx, ρb.set i (some (true, .lst (l2.set j (.int w)))))) = some (fl, ρ1) → v = .int y ∧ rSetA (.ref p) (.int k) (.int w) H2 fun H3 => D.nx σ H3 := fun v H2 W2 L2 s2 h2 w e => by
          refine ⟨rrInt h2, ?_⟩
          cases q2 : ixOf l2.length k with
          | none => rw [q2] at e; cases e
          | some j2 =>
            rw [q2] at e
            cases e
            obtain ⟨p', hp', ws, hw, hl, hr⟩ : ∃ p', σ[i]? = some (some (.ref p')) ∧ ∃ ws, H2 p' = some (.lst ws) ∧ l2.length ≤ line ∧ RepVs P (Av O W2) H2 l2 ws := by
              obtain ⟨p', hp', w, ws, hw, hl, hr⟩ := L2.own i _ hi2
              exact ⟨p', hp', ws, hw, hl, hr⟩
            rw [hp] at hp'
            cases hp'
            refine .inl ⟨p, ws, k, j2, rfl, rfl, hw, by rw [← ixOf_eq, ← hr.length]; exact q2, ?_⟩
            obtain ⟨L4, s4⟩ := L2.write (o' := .lst (ws.set j2 (.int w))) (d' := .lst (l2.set j2 (.int w))) hi2 hp rfl fun kk => ⟨_, upd_same, by rw [List.length_set]; exact hl, (RepVs.set (by unfold RepV; rfl) j2 hr).kp kk⟩
            exact c σ W2 _ L4 ((s2.trans s4).ss L L4)
        cases op with
        | add =>
          refine ⟨_, hp, ?_⟩
          refine hx O W H σ ρ ρa _ L ea _ fun vi H1 W1 L1 s1 h1 f1 => ?_
          have h1 := rrInt h1
          subst h1
          obtain ⟨p', hp', _, ws, hw, hl, hr⟩ := L1.own i _ hi
          rw [hp] at hp'
          cases hp'
          obtain ⟨u, hu, ru⟩ := hr.get hz
          have := repVInt ru
          subst this
          refine ⟨p, ws, k, j, _, rfl, rfl, hw, by rw [← ixOf_eq, ← hr.length]; exact q, hu, ?_⟩
          refine ha O W1 H1 σ ρa ρb _ L1 eb _ fun v2 H2 W2 L2 s2 h2 f2 => ?_
          obtain ⟨rfl, st⟩ := fin v2 H2 W2 L2 (s1.trans s2) h2 (z + y) e
          exact ⟨z, y, rfl, rfl, st⟩
        | sub =>
          refine ⟨_, hp, ?_⟩
          refine hx O W H σ ρ ρa _ L ea _ fun vi H1 W1 L1 s1 h1 f1 => ?_
          have h1 := rrInt h1
          subst h1
          obtain ⟨p', hp', _, ws, hw, hl, hr⟩ := L1.own i _ hi
          rw [hp] at hp'
          cases hp'
          obtain ⟨u, hu, ru⟩ := hr.get hz
          have := repVInt ru
          subst this
          refine ⟨p, ws, k, j, _, rfl, rfl, hw, by rw [← ixOf_eq, ← hr.length]; exact q, hu, ?_⟩
          refine ha O W1 H1 σ ρa ρb _ L1 eb _ fun v2 H2 W2 L2 s2 h2 f2 => ?_
          obtain ⟨rfl, st⟩ := fin v2 H2 W2 L2 (s1.trans s2) h2 (z - y) e
          exact ⟨z, y, rfl, rfl, st⟩
        | _ => cases e
    · cases e
  · cases e
theorem putN_rep {A : AP} {H : Hp} {f : Str} {d : D} {v : V} (hv : RepV P A H d v) : ∀ {ns : List Str} {ds : List D} {vs : List V}, ns.length = vs.length → RepVs P A H ds vs →
    ∃ us, putF f v (ns.zip vs) = (putN f d ns ds).1.zip us ∧ (putN f d ns ds).1.length = us.length ∧ RepVs P A H (putN f d ns ds).2 us
  | [], ds, vs, l, h => by
    cases vs with
    | cons _ _ => cases l
    | nil =>
      cases ds with
      | cons _ _ => have := h.length; cases this
      | nil => exact ⟨[v], rfl, rfl, .cons hv .nil⟩
  | n :: ns, ds, vs, l, h => by
    cases vs with
    | nil => cases l
    | cons u us =>
      cases ds with
      | nil => have := h.length; cases this
      | cons x ds =>
        obtain ⟨u', us', e, h1, h2⟩ := h.uncons
        cases e
        have l' : ns.length = us.length := by simpa using l
        obtain ⟨ws, g1, g2, g3⟩ := putN_rep hv l' h2
        by_cases hn : n = f
        · have hp : putN f d (n :: ns) (x :: ds) = (n :: ns, d :: ds) := by rw [putN, if_pos hn]
          rw [hp]
          refine ⟨v :: us, ?_, l, .cons hv h2⟩
          show (if n = f then (n, v) :: ns.zip us else _) = _
          rw [if_pos hn]
          rfl
        · have hp : putN f d (n :: ns) (x :: ds) = (n :: (putN f d ns ds).1, x :: (putN f d ns ds).2) := by rw [putN, if_neg hn]
          rw [hp]
          refine ⟨u :: ws, ?_, by simp [g2], .cons h1 g3⟩
          show (if n = f then _ else (n, u) :: putF f v (ns.zip us)) = _
          rw [if_neg hn, g1]
          rfl
theorem gs_setat (ok : CfgOk P Gm) {i : Nat} {f : Str} {a : E} (ha : (GoodE P (spec P Φ) Gm Φ X) a) : (GoodS P (spec P Φ) Gm Φ X fx) (.setat i f a) := fun O W H σ ρ ρ1 fl L e D c => by
  unfold evS at e
  obtain ⟨r, ρa, ea, e⟩ := bindO_some e
  obtain ⟨d, ρb, eb, e⟩ := bindO_some e
  refine ha O W H σ ρ ρa r L ea _ fun v H1 W1 L1 s1 h1 f1 => ?_
  obtain ⟨W2, L2', l2, rv⟩ := freeze_ok L1 h1 eb
  have s2 := s1.lose L l2 (freshAt (O := O) (W := W) f1)
  split at e
  · rename_i C ns vs hi
    cases q : Gm.fields C with
    | none => rw [q] at e; cases e
    | some fs =>
      rw [q] at e
      dsimp only at e
      split at e
      · rename_i hz
        cases e
        obtain ⟨p, hp, w, dx, us, hw, hl, hr⟩ := L2'.own i _ hi
        obtain ⟨c1, c2⟩ := ok.flds C fs q
        obtain ⟨ws, g1, g2, g3⟩ := putN_rep (f := f) rv hl hr
        refine ⟨_, hp, p, P.cls C, dx, ns.zip us, rfl, hw, c1, c2 f hz.1, ?_, ?_⟩
        · rw [List.length_zip, hl, ← hr.length]
          have := hz.2
          omega
        · rw [g1]
          obtain ⟨L4, s4⟩ := L2'.write (o' := .ins (P.cls C) dx ((putN f d ns vs).1.zip ws)) (d' := .ins C (putN f d ns vs).1 (putN f d ns vs).2) hi hp rfl fun kk => ⟨dx, ws, upd_same, g2, g3.kp kk⟩
          exact c σ W2 _ L4 ((s2.trans s4).ss L L4)
      · cases e
  · cases e
theorem gs_aug {i : Nat} {op : BOp} {a : E} (ha : (GoodE P (spec P Φ) Gm Φ X) a) : (GoodS P (spec P Φ) Gm Φ X fx) (.aug i op a) := fun O W H σ ρ ρ1 fl L e D c => by
  unfold evS at e
  split at e
  · cases e
  · rename_i hf
    split at e
    · rename_i x hi
      obtain ⟨r, ρa, ea, e⟩ := bindO_some e
      obtain ⟨v, hv, rv⟩ := L.fro i _ hi
      have := repVInt rv
      subst this
      have fin : ∀ (y z : Int) v H1 W1, Rel P O W1 H1 σ ρa → Step σ ρ W H ρa W1 H1 → RepR P O W1 H1 σ ρa (.v (.int y)) v → ρ1 = ρa.set i (some (false, .int z)) → fl = .nx → v = .int y ∧ D.nx (σ.set i (some (.int z))) H1 := fun y z v H1 W1 L1 s1 h1 e1 e2 => by
        subst e1 e2
        have hlt : i < ρa.length := by rw [L1.len, ← L.len]; exact eget_lt hi
        obtain ⟨L2', ch⟩ := L1.store (d := .int z) (v := .int z) hlt (by unfold RepV; rfl)
        exact ⟨rrInt h1, c _ W1 H1 L2' ((s1.ss L L1).trans (ch.ss fun j hj z => hf (z ▸ hj)))⟩
      cases op with
      | add =>
        refine ⟨_, hv, ha O W H σ ρ ρa r L ea _ fun v H1 W1 L1 s1 h1 f1 => ?_⟩
        split at e
        · rename_i y _
          cases e
          obtain ⟨e1, q⟩ := fin y (x + y) v H1 W1 L1 s1 h1 rfl rfl
          exact ⟨x, y, rfl, e1, q⟩
        · rename_i q; cases q
        · cases e
      | sub =>
        refine ⟨_, hv, ha O W H σ ρ ρa r L ea _ fun v H1 W1 L1 s1 h1 f1 => ?_⟩
        split at e
        · rename_i q; cases q
        · rename_i y _
          cases e
          obtain ⟨e1, q⟩ := fin y (x - y) v H1 W1 L1 s1 h1 rfl rfl
          exact ⟨x, y, rfl, e1, q⟩
        · cases e
      | _ =>
        exfalso
        split at e
        · rename_i q; cases q
        · rename_i q; cases q
        · cases e
    · cases e
theorem gs_expr {a : E} (ha : (GoodE P (spec P Φ) Gm Φ X) a) : (GoodS P (spec P Φ) Gm Φ X fx) (.expr a) := fun O W H σ ρ ρ1 fl L e D c => by
  unfold evS at e
  obtain ⟨r, ρa, ea, e⟩ := bindO_some e
  cases e
  exact ha O W H σ ρ ρ1 r L ea _ fun v H1 W1 L1 s1 h1 f1 => c σ W1 H1 L1 (s1.ss L L1)
theorem gs_ret {a : E} (ha : (GoodE P (spec P Φ) Gm Φ X) a) : (GoodS P (spec P Φ) Gm Φ X fx) (.ret a) := fun O W H σ ρ ρ1 fl L e D c => by
  unfold evS at e
  obtain ⟨r, ρa, ea, e⟩ := bindO_some e
  refine ha O W H σ ρ ρa r L ea _ fun v H1 W1 L1 s1 h1 f1 => ?_
  cases r with
  | v d => cases e; exact c σ W1 H1 L1 (s1.ss L L1) v h1
  | o d => cases e; exact c σ W1 H1 L1 (s1.ss L L1) v h1
  | b s =>
    dsimp only at e
    split at e
    · cases e
    · rename_i hf
      obtain ⟨hs, x, hx⟩ := h1
      rw [hx] at e
      obtain ⟨o, d⟩ := x
      cases o with
      | false =>
        cases e
        obtain ⟨u, e1, ru⟩ := L1.fro s d hx
        rw [hs] at e1
        cases e1
        exact c σ W1 H1 L1 (s1.ss L L1) v ru
      | true =>
        cases e
        obtain ⟨p, e1, w, ho⟩ := L1.own s d hx
        rw [hs] at e1
        cases e1
        have g : ∀ j x, eget (ρa.set s none) j = some x → j ≠ s ∧ eget ρa j = some x := fun j x e => by
          rw [eget_set] at e
          split at e
          · cases e
          · rename_i hn
            exact ⟨fun z => hn ⟨z, eget_lt hx⟩, e⟩
        have L2' : Rel P O W1 H1 σ (ρa.set s none) := ⟨by rw [List.length_set]; exact L1.len, L1.wmut, L1.oal, L1.ow, fun i d e => L1.fro i d (g i _ e).2, fun i d e => L1.own i d (g i _ e).2, fun i j a x y e1 e2 => L1.inj i j a x y (g i _ e1).2 (g j _ e2).2, L1.tabs⟩
        have oB : ∀ b, OwnA σ (ρa.set s none) b → OwnA σ ρa b := fun b ⟨i, x, e, q⟩ => ⟨i, x, (g i _ e).2, q⟩
        refine c σ W1 H1 L2' (own_ss s1 L L1 (fun b hb => .inl (oB b hb)) (fun _ _ => rfl) (by rw [List.length_set])) (.ref p) ⟨p, rfl, w, fun ⟨i, x, e, q⟩ => ?_, ho⟩
        obtain ⟨n, e⟩ := g i _ e
        exact n (L1.inj i s p x d e hx q hs)
theorem gs_retn : (GoodS P (spec P Φ) Gm Φ X fx) .retn := fun O W H σ ρ ρ1 fl L e D c => by
  unfold evS at e
  cases e
  exact c σ W H L .refl .non (show RepV P (Av O W) H .non .non by unfold RepV; rfl)
theorem gs_ite {t : T} {a b : Ss} (ht : (GoodT P (spec P Φ) Gm Φ X) t) (ha : (GoodSs P (spec P Φ) Gm Φ X fx) a) (hb : (GoodSs P (spec P Φ) Gm Φ X fx) b) : (GoodS P (spec P Φ) Gm Φ X fx) (.ite t a b) := fun O W H σ ρ ρ1 fl L e D c => by
  unfold evS at e
  obtain ⟨k, ρa, ea, e⟩ := bindO_some e
  refine ht O W H σ ρ ρa k L ea _ fun H1 W1 L1 s1 => ?_
  cases k with
  | true => rw [if_pos rfl]; exact ha O W1 H1 σ ρa ρ1 fl L1 e D (c.from (s1.ss L L1))
  | false => rw [if_neg (by decide)]; exact hb O W1 H1 σ ρa ρ1 fl L1 e D (c.from (s1.ss L L1))
theorem gb_nil : (GoodSs P (spec P Φ) Gm Φ X fx) .nil := fun O W H σ ρ ρ1 fl L e D c => by
  unfold evSs at e
  cases e
  exact c σ W H L .refl
theorem gb_cons {s : S} {r : Ss} (hs : (GoodS P (spec P Φ) Gm Φ X fx) s) (hr : (GoodSs P (spec P Φ) Gm Φ X fx) r) : (GoodSs P (spec P Φ) Gm Φ X fx) (.cons s r) := fun O W H σ ρ ρ1 fl L e D c => by
  unfold evSs at e
  cases q : evS Gm Φ fx s ρ with
  | none => rw [q] at e; cases e
  | some x =>
    obtain ⟨f1, ρa⟩ := x
    rw [q] at e
    refine hs O W H σ ρ ρa f1 L q _ fun σ1 W1 H1 L1 s1 => ?_
    cases f1 with
    | nx => exact hr O W1 H1 σ1 ρa ρ1 fl L1 e D (c.from s1)
    | rt r => cases e; exact c σ1 W1 H1 L1 s1
    | brk => cases e; exact c σ1 W1 H1 L1 s1
    | cnt => cases e; exact c σ1 W1 H1 L1 s1
theorem gs_pass : (GoodS P (spec P Φ) Gm Φ X fx) .pass := fun O W H σ ρ ρ1 fl L e D c => by
  unfold evS at e; cases e; exact c σ W H L .refl
theorem gs_brk : (GoodS P (spec P Φ) Gm Φ X fx) .brk := fun O W H σ ρ ρ1 fl L e D c => by
  unfold evS at e; cases e; exact c σ W H L .refl
theorem gs_cnt : (GoodS P (spec P Φ) Gm Φ X fx) .cnt := fun O W H σ ρ ρ1 fl L e D c => by
  unfold evS at e; cases e; exact c σ W H L .refl
theorem gs_never : (GoodS P (spec P Φ) Gm Φ X fx) .never := fun O W H σ ρ ρ1 fl L e D c => by
  unfold evS at e; cases e
/-- the given loop is the loop -/
def LoopOk (Gm : Cfg) : Prop := ∀ step ρ r, Gm.loop step ρ = some r → ∃ n, iterW step n ρ = some r
theorem gs_whil (lo : LoopOk Gm) {t : T} {b : Ss} (ht : (GoodT P (spec P Φ) Gm Φ X) t) (hb : (GoodSs P (spec P Φ) Gm Φ X fx) b) : (GoodS P (spec P Φ) Gm Φ X fx) (.whil t b) := fun O W H σ ρ ρ1 fl L e D c => by
  unfold evS at e
  obtain ⟨n, e⟩ := lo _ _ _ e
  refine ⟨fun m σ' H' => ∃ ρ' W', Rel P O W' H' σ' ρ' ∧ SStep fx σ ρ W H σ' ρ' W' H' ∧ iterW (turnW (fun ρ => evT Gm Φ t ρ) fun ρ => evSs Gm Φ fx b ρ) m ρ' = some (fl, ρ1), ⟨n, ρ, W, L, .refl, e⟩, ?_⟩
  rintro m σ' H' ⟨ρ', W', L', s', e'⟩
  cases m with
  | zero => cases e'
  | succ m =>
    unfold iterW turnW at e'
    dsimp only at e'
    cases q : evT Gm Φ t ρ' with
    | none => rw [q] at e'; cases e'
    | some x =>
      obtain ⟨k, ρa⟩ := x
      rw [q] at e'
      refine ht O W' H' σ' ρ' ρa k L' q _ fun H1 W1 L1 s1 => ?_
      have s2 := s'.trans (s1.ss L' L1)
      cases k with
      | false =>
        cases e'
        rw [if_neg (by decide)]
        exact c σ' W1 H1 L1 s2
      | true =>
        rw [if_pos rfl]
        refine ⟨fun σ' H' => ∃ ρ' W', Rel P O W' H' σ' ρ' ∧ SStep fx σ ρ W H σ' ρ' W' H' ∧ iterW (turnW (fun ρ => evT Gm Φ t ρ) fun ρ => evSs Gm Φ fx b ρ) m ρ' = some (fl, ρ1), fun σ2 H2 h => ⟨m, Nat.lt_succ_self m, h⟩, ?_⟩
        dsimp only at e'
        cases q2 : evSs Gm Φ fx b ρa with
        | none => rw [q2] at e'; cases e'
        | some x =>
          obtain ⟨f1, ρb⟩ := x
          rw [q2] at e'
          refine hb O W1 H1 σ' ρa ρb f1 L1 q2 _ fun σ2 W2 H2 L2' s3 => ?_
          cases f1 with
          | nx => exact ⟨ρb, W2, L2', s2.trans s3, e'⟩
          | cnt => exact ⟨ρb, W2, L2', s2.trans s3, e'⟩
          | brk => cases e'; exact c σ2 W2 H2 L2' (s2.trans s3)
          | rt r => cases e'; exact c σ2 W2 H2 L2' (s2.trans s3)
theorem gs_for {tg : Tg} {it : It} {b : Ss} (hi : (GoodI P (spec P Φ) Gm Φ X) it) (hb : (GoodSs P (spec P Φ) Gm Φ X fx) b) : (GoodS P (spec P Φ) Gm Φ X fx) (.for_ tg it b) := fun O W H σ ρ ρ1 fl L e D c => by
  unfold evS at e
  split at e
  · cases e
  · rename_i hf
    have hf : tgFree fx tg = true := by simpa using hf
    obtain ⟨its, ρa, ea, e⟩ := bindO_some e
    refine hi O W H σ ρ ρa its L ea _ fun J H1 W1 L1 s1 wok => ?_
    obtain ⟨hlen, G, Y, walk, stays, yok⟩ := wok
    let turn : Itm → Env → Option (Fl × Env) := fun d ρ2 => match setItm tg d ρ2 with
      | some ρ3 => evSs Gm Φ fx b ρ3
      | none => none
    have c1 := c.from (s1.ss L L1)
    let Pv : Nat → L2.St → Hp → Prop := fun i σi Hh => ∃ ρi Wi, forGo turn (its.drop i) ρi = some (fl, ρ1) ∧ Rel P O Wi Hh σi ρi ∧ SStep fx σ ρa W1 H1 σi ρi Wi Hh
    refine for_it walk Pv ⟨ρa, W1, e, L1, .refl⟩ (fun i σi Hh hi' p => ?_) (fun i x σi Hh H' hin p y => ?_) fun σi Hh p => ?_
    · obtain ⟨ρi, Wi, _, Li, si⟩ := p
      exact stays Hh (.of si.keep)
    · obtain ⟨ρi, Wi, go, Li, si⟩ := p
      have hget : its[i]? = some its[i] := List.getElem?_eq_getElem hin
      have yk := yok i Hh x H' its[i] hget (.of si.keep) y
      rw [List.drop_eq_getElem_cons hin] at go
      unfold forGo at go
      obtain ⟨Lh, sh⟩ := yok_heap Li yk
      cases q1 : setItm tg its[i] ρi with
      | none => simp only [turn, q1] at go; cases go
      | some ρ3 =>
        cases q2 : evSs Gm Φ fx b ρ3 with
        | none => simp only [turn, q1, q2] at go; cases go
        | some r =>
          obtain ⟨f1, ρ4⟩ := r
          have ht : turn its[i] ρi = some (f1, ρ4) := by simp only [turn, q1, q2]
          rw [ht] at go
          refine itm_ok Li yk (fun a z => ?_) q1 fun σ1 L3 ch => ?_
          · rcases z with z | z
            · exact .inl (.inl z)
            · exact (si.new a z).imp .inr fun q => q
          · have s3 : SStep fx σ ρa W1 H1 σ1 ρ3 Wi H' := (si.trans (sh.ss Li Lh)).trans (ch.ss (tgFree_has hf))
            refine hb O Wi H' σ1 ρ3 ρ4 f1 L3 q2 _ fun σ5 W5 H5 L5 s5 => ?_
            have s6 := s3.trans s5
            cases f1 with
            | nx => exact ⟨ρ4, W5, go, L5, s6⟩
            | cnt => exact ⟨ρ4, W5, go, L5, s6⟩
            | brk => cases go; exact c1 σ5 W5 H5 L5 s6
            | rt r => cases go; exact c1 σ5 W5 H5 L5 s6
    · obtain ⟨ρi, Wi, go, Li, si⟩ := p
      rw [List.drop_length] at go
      unfold forGo at go
      cases go
      exact c1 σi Wi Hh Li si
theorem gs_setix2 {i : Nat} {x y : E} {es : Es} (hx : (GoodE P (spec P Φ) Gm Φ X) x) (hy : (GoodE P (spec P Φ) Gm Φ X) y) (hs : (GoodEs P (spec P Φ) Gm Φ X) es) : (GoodS P (spec P Φ) Gm Φ X fx) (.setix2 i x y es) := fun O W H σ ρ ρ1 fl L e D c => by
  unfold evS at e
  split at e
  · rename_i l0 hi0
    obtain ⟨p, hp, _⟩ := L.own i _ hi0
    obtain ⟨rs, ρa, ea, e⟩ := bindO_some e
    split at e
    · rename_i d1 d2
      obtain ⟨r1, ρb, eb, e⟩ := bindO_some e
      split at e
      · rename_i k l hi
        cases q : ixOf l.length k with
        | none => rw [q] at e; cases e
        | some j =>
          rw [q] at e
          obtain ⟨r2, ρc, ec, e⟩ := bindO_some e
          split at e
          · rename_i k2 l2 hi2
            cases q2 : ixOf l2.length k2 with
            | none => rw [q2] at e; cases e
            | some j2 =>
              rw [q2] at e
              cases e
              refine hs O W H σ ρ ρa _ L ea _ fun vs H1 W1 L1 s1 hr nd fr => ?_
              obtain ⟨v1, us, rfl, hv1, v2, us2, rfl, hv2, rfl⟩ := hr
              refine ⟨by show 2 ≤ _; decide, fun p0 o hp0 hd => ⟨p0, [v1, v2], rfl, .inl (.inr ⟨o, upd_same⟩), rfl, ?_⟩⟩
              obtain ⟨L1', s1'⟩ := L1.laid (o := _) hp0
              refine ⟨v1, [v2], rfl, _, hp, ?_⟩
              refine hx O W1 _ σ ρa ρb _ L1' eb _ fun vi H2 W2 L2' s2 h2 f2 => ?_
              have h2 : vi = .int k := rrInt h2
              subst h2
              obtain ⟨p', hp', w, ws, hw, hl, hrr⟩ := L2'.own i _ hi
              rw [hp] at hp'
              cases hp'
              have hv1 : RepR P O W2 H2 σ ρb (.v d1) v1 := (hv1.step L1 s1').step L1' s2
              have hv2 : RepR P O W2 H2 σ ρb (.v d2) v2 := (hv2.step L1 s1').step L1' s2
              refine .inl ⟨p, ws, k, j, rfl, rfl, hw, by rw [← ixOf_eq, ← hrr.length]; exact q, ?_⟩
              obtain ⟨L4, s4⟩ := L2'.write (o' := .lst (ws.set j v1)) (d' := .lst (l.set j d1)) hi hp rfl fun kk => ⟨_, upd_same, by rw [List.length_set]; exact hl, (RepVs.set hv1 j hrr).kp kk⟩
              refine ⟨v2, [], rfl, _, hp, ?_⟩
              refine hy O W2 _ σ _ ρc _ L4 ec _ fun vi2 H5 W5 L5 s5 h5 f5 => ?_
              have h5 : vi2 = .int k2 := rrInt h5
              subst h5
              obtain ⟨p', hp', w2, ws2, hw2, hl2, hrr2⟩ := L5.own i _ hi2
              rw [hp] at hp'
              cases hp'
              have hv2 : RepR P O W5 H5 σ ρc (.v d2) v2 := (hv2.step L2' s4).step L4 s5
              refine .inl ⟨p, ws2, k2, j2, rfl, rfl, hw2, by rw [← ixOf_eq, ← hrr2.length]; exact q2, ?_⟩
              obtain ⟨L6, s6⟩ := L5.write (o' := .lst (ws2.set j2 v2)) (d' := .lst (l2.set j2 d2)) hi2 hp rfl fun kk => ⟨_, upd_same, by rw [List.length_set]; exact hl2, (RepVs.set hv2 j2 hrr2).kp kk⟩
              exact ⟨rfl, c σ W5 _ L6 ((((((s1.trans s1').trans s2).trans s4).trans s5).trans s6).ss L L6)⟩
          · cases e
      · cases e
    · cases e
  · cases e
theorem gs_rais {C : Nat} {ns : List Str} {es : Es} : (GoodS P (spec P Φ) Gm Φ X fx) (.rais C ns es) := fun O W H σ ρ ρ1 fl L e => by unfold evS at e; cases e
mutual
theorem soundS (ok : CfgOk P Gm) (lo : LoopOk Gm) : ∀ s : S, (GoodS P (spec P Φ) Gm Φ X fx) s
  | .asg _ e => gs_asg (soundE ok e X) | .own _ e => gs_own (soundE ok e X) | .par _ _ es => gs_par (soundA ok es X)
  | .setix2 _ x y es => gs_setix2 (soundE ok x X) (soundE ok y X) (soundA ok es X)
  | .setix _ x e => gs_setix (soundE ok x X) (soundE ok e X) | .setat _ _ e => gs_setat ok (soundE ok e X) | .aug _ _ e => gs_aug (soundE ok e X) | .augix _ x _ e => gs_augix (soundE ok x X) (soundE ok e X)
  | .expr e => gs_expr (soundE ok e X) | .ret e => gs_ret (soundE ok e X) | .retn => gs_retn
  | .ite t a b => gs_ite (soundT ok t X) (soundB ok lo a) (soundB ok lo b)
  | .whil t b => gs_whil lo (soundT ok t X) (soundB ok lo b) | .for_ _ it b => gs_for (soundI ok it X) (soundB ok lo b)
  | .pass => gs_pass | .brk => gs_brk | .cnt => gs_cnt | .never => gs_never | .rais _ _ _ => gs_rais
theorem soundB (ok : CfgOk P Gm) (lo : LoopOk Gm) : ∀ s : Ss, (GoodSs P (spec P Φ) Gm Φ X fx) s
  | .nil => gb_nil | .cons s r => gb_cons (soundS ok lo s) (soundB ok lo r)
end
end
end Mi
set_option Elab.async false
set_option linter.all false
set_option maxRecDepth 100000
set_option maxHeartbeats 4000000
namespace Mi
open PySem PySem.Spec PyProof.Rows L2
/-- what an exception's wish gets to know, behind statements -/
def XSC (P : TP) (O : AP) (fx : List Nat) (σ : L2.St) (ρ : Env) (W : AP) (H : Hp) (x : Exc) (X : XK) : Prop :=
  ∀ cls d σ1 ρ1 W1 H1, Rel P O W1 H1 σ1 ρ1 → SStep fx σ ρ W H σ1 ρ1 W1 H1 → XIs P x cls d H1 → X cls d H1
section
variable {P : TP} {O W W0 W1 A : AP} {H H0 H1 H' : Hp} {σ σ1 : L2.St} {ρ ρ0 ρ1 : Env} {fx : List Nat} {x : Exc} {X : XK}
theorem XSC.from (c : XSC P O fx σ ρ W H x X) (s : SStep fx σ ρ W H σ1 ρ1 W1 H1) : XSC P O fx σ1 ρ1 W1 H1 x X := fun cls d σ2 ρ2 W2 H2 L t h => c cls d σ2 ρ2 W2 H2 L (s.trans t) h
theorem XSC.xc (c : XSC P O fx σ ρ W H x X) (L : Rel P O W H σ ρ) : XC P O σ ρ W H ρ1 x X := fun cls d H2 W2 L2 t h => c cls d σ ρ1 W2 H2 L2 (t.ss L L2) h
theorem flat_of {d : D} {v : V} {A : AP} {H : Hp} (f : flatD d = true) (h : RepB P A H d v) : FlatV d v := by
  cases d with
  | non => have h : RepV P A H .non v := h; unfold RepV at h; exact h
  | bl b => have h : RepV P A H (.bl b) v := h; unfold RepV at h; exact h
  | int i => have h : RepV P A H (.int i) v := h; unfold RepV at h; exact h
  | str s => have h : RepV P A H (.str s) v := h; unfold RepV at h; exact h
  | _ => cases f
end
section
variable (P : TP) (call : Nat → Sp) (Gm : Cfg) (Φ : Phi) (X : XK) (fx : List Nat)
def BadS (s : S) : Prop := ∀ (O W : AP) (H : Hp) (σ : L2.St) (ρ ρ1 : Env) (x : Exc), Rel P O W H σ ρ → exS Gm Φ fx s ρ = some (x, ρ1) → XSC P O fx σ ρ W H x X → ∀ D : Ends, tS P call s X D σ H
def BadSs (s : Ss) : Prop := ∀ (O W : AP) (H : Hp) (σ : L2.St) (ρ ρ1 : Env) (x : Exc), Rel P O W H σ ρ → exSs Gm Φ fx s ρ = some (x, ρ1) → XSC P O fx σ ρ W H x X → ∀ D : Ends, tSs P call s X D σ H
end
section
variable {P : TP} {Gm : Cfg} {Φ : Phi} {X : XK} {fx : List Nat}
theorem bs_expr {a : E} (h : (BadE P (spec P Φ) Gm Φ X) a) : (BadS P (spec P Φ) Gm Φ X fx) (.expr a) := fun O W H σ ρ ρ1 x L e c D => by unfold exS at e; exact h O W H σ ρ ρ1 x L e (c.xc L) _
theorem bs_ret {a : E} (h : (BadE P (spec P Φ) Gm Φ X) a) : (BadS P (spec P Φ) Gm Φ X fx) (.ret a) := fun O W H σ ρ ρ1 x L e c D => by unfold exS at e; exact h O W H σ ρ ρ1 x L e (c.xc L) _
theorem bs_asg {tg : Tg} {a : E} (h : (BadE P (spec P Φ) Gm Φ X) a) : (BadS P (spec P Φ) Gm Φ X fx) (.asg tg a) := fun O W H σ ρ ρ1 x L e c D => by unfold exS at e; exact h O W H σ ρ ρ1 x L e (c.xc L) _
theorem bs_own {i : Nat} {a : E} (h : (BadE P (spec P Φ) Gm Φ X) a) : (BadS P (spec P Φ) Gm Φ X fx) (.own i a) := fun O W H σ ρ ρ1 x L e c D => by unfold exS at e; exact h O W H σ ρ ρ1 x L e (c.xc L) _
theorem bs_ite {t : T} {a b : Ss} (ht : (GoodT P (spec P Φ) Gm Φ X) t) (ha : (BadSs P (spec P Φ) Gm Φ X fx) a) (hb : (BadSs P (spec P Φ) Gm Φ X fx) b) : (BadS P (spec P Φ) Gm Φ X fx) (.ite t a b) := fun O W H σ ρ ρ1 x L e c D => by
  unfold exS at e
  obtain ⟨k, ρa, ea, e⟩ := bindO_some e
  refine ht O W H σ ρ ρa k L ea _ fun H1 W1 L1 s1 => ?_
  cases k with
  | true => rw [if_pos rfl]; exact ha O W1 H1 σ ρa ρ1 x L1 e (c.from (s1.ss L L1)) D
  | false => rw [if_neg (by decide)]; exact hb O W1 H1 σ ρa ρ1 x L1 e (c.from (s1.ss L L1)) D
theorem derefs_len {ρ : Env} : ∀ {rs : List R} {ds : List D}, derefs ρ rs = some ds → ds.length = rs.length
  | [], ds, e => by cases e; rfl
  | r :: rs, ds, e => by
    unfold derefs at e
    cases q : deref ρ r with
    | none => rw [q] at e; cases e
    | some d =>
      cases q2 : derefs ρ rs with
      | none => rw [q, q2] at e; cases e
      | some ds2 =>
        rw [q, q2] at e
        cases e
        rw [List.length_cons, List.length_cons, derefs_len q2]
theorem RepRs.length {O W : AP} {H : Hp} {σ : L2.St} {ρ : Env} : ∀ {rs : List R} {vs : List V}, RepRs P O W H σ ρ rs vs → vs.length = rs.length
  | [], vs, h => by have h : vs = [] := h; subst h; rfl
  | r :: rs, vs, ⟨v, us, e, _, h⟩ => by subst e; rw [List.length_cons, List.length_cons, RepRs.length h]
theorem bs_rais {C : Nat} {ns : List Str} {es : Es} (h : (GoodEs P (spec P Φ) Gm Φ X) es) : (BadS P (spec P Φ) Gm Φ X fx) (.rais C ns es) := fun O W H σ ρ ρ1 x L e c D => by
  unfold exS at e
  obtain ⟨rs, ρa, ea, e⟩ := bindO_some e
  refine h O W H σ ρ ρa rs L ea _ fun vs H1 W1 L1 s1 hr nd fr => ?_
  cases q : derefs ρa rs with
  | none => rw [q] at e; cases e
  | some ds =>
    rw [q] at e
    dsimp only at e
    split at e
    · rename_i hc
      obtain ⟨hf, hl, h1⟩ := hc
      cases e
      have lv : vs.length = ns.length := by rw [hr.length, hl, derefs_len q]
      refine ⟨lv, ?_⟩
      cases ns with
      | nil =>
        refine .inl ⟨rfl, c _ none σ _ W1 H1 L1 (s1.ss L L1) ⟨rfl, hl, .inl ⟨rfl, rfl⟩⟩⟩
      | cons f r =>
        have hr0 : r = [] := List.length_eq_zero_iff.mp (by simpa using h1)
        subst hr0
        obtain ⟨v, rfl⟩ : ∃ v, vs = [v] := List.length_eq_one_iff.mp lv
        obtain ⟨d, rfl⟩ : ∃ d, ds = [d] := List.length_eq_one_iff.mp hl.symm
        refine .inr ⟨f, v, rfl, rfl, fun dd hdd => ?_⟩
        obtain ⟨L2', s2⟩ := L1.laid (o := .xd [(f, v)]) hdd
        refine c _ _ σ _ W1 _ L2' ((s1.trans s2).ss L L2') ⟨rfl, rfl, .inr ⟨dd, [v], rfl, upd_same, rfl, fun i v' y e1 e2 => ?_⟩⟩
        have hfd : FlatV d v := by
          have hd : flatD d = true := by simpa using hf
          obtain ⟨v0, us, e0, hr1, _⟩ : ∃ v0 us, [v] = v0 :: us ∧ ∃ r rs', rs = r :: rs' ∧ RepR P O W1 H1 σ ρ1 r v0 ∧ deref ρ1 r = some d := by
            cases rs with
            | nil => cases q
            | cons r rs' =>
              obtain ⟨v0, us, e0, h0, _⟩ := hr
              refine ⟨v0, us, e0, r, rs', rfl, h0, ?_⟩
              unfold derefs at q
              cases q1 : deref ρ1 r with
              | none => rw [q1] at q; cases q
              | some d0 =>
                cases q2 : derefs ρ1 rs' with
                | none => rw [q1, q2] at q; cases q
                | some ds2 => rw [q1, q2] at q; cases q; rfl
          cases e0
          obtain ⟨rs', _, h0, h2⟩ := ‹∃ rs', _›
          exact flat_of hd (h0.deref L1 h2)
        cases i with
        | zero => cases e1; cases e2; exact hfd
        | succ i => simp at e1
    · cases e
theorem bb_nil : (BadSs P (spec P Φ) Gm Φ X fx) .nil := fun O W H σ ρ ρ1 x L e => by unfold exSs at e; cases e
theorem bb_cons {s : S} {r : Ss} (hs : (GoodS P (spec P Φ) Gm Φ X fx) s) (hx : (BadS P (spec P Φ) Gm Φ X fx) s) (hr : (BadSs P (spec P Φ) Gm Φ X fx) r) : (BadSs P (spec P Φ) Gm Φ X fx) (.cons s r) := fun O W H σ ρ ρ1 x L e c D => by
  unfold exSs at e
  cases q : exS Gm Φ fx s ρ with
  | some y =>
    rw [q] at e
    cases e
    exact hx O W H σ ρ ρ1 x L q c _
  | none =>
    rw [q] at e
    dsimp only at e
    cases q2 : evS Gm Φ fx s ρ with
    | none => rw [q2] at e; cases e
    | some y =>
      obtain ⟨f1, ρa⟩ := y
      rw [q2] at e
      cases f1 with
      | nx => exact hs O W H σ ρ ρa .nx L q2 _ fun σ1 W1 H1 L1 s1 => hr O W1 H1 σ1 ρa ρ1 x L1 e (c.from s1) D
      | rt r => cases e
      | brk => cases e
      | cnt => cases e
mutual
theorem soundXS (ok : CfgOk P Gm) (lo : LoopOk Gm) : ∀ s : S, (BadS P (spec P Φ) Gm Φ X fx) s
  | .asg _ e => bs_asg (soundXE ok e X) | .own _ e => bs_own (soundXE ok e X) | .expr e => bs_expr (soundXE ok e X) | .ret e => bs_ret (soundXE ok e X)
  | .ite t a b => bs_ite (soundT ok t X) (soundXB ok lo a) (soundXB ok lo b)
  | .rais _ _ es => bs_rais (soundA ok es X)
  | .par _ _ _ => fun O W H σ ρ ρ1 x L e => by unfold exS at e; cases e
  | .setix2 _ _ _ _ => fun O W H σ ρ ρ1 x L e => by unfold exS at e; cases e
  | .setix _ _ _ => fun O W H σ ρ ρ1 x L e => by unfold exS at e; cases e
  | .setat _ _ _ => fun O W H σ ρ ρ1 x L e => by unfold exS at e; cases e
  | .aug _ _ _ => fun O W H σ ρ ρ1 x L e => by unfold exS at e; cases e
  | .augix _ _ _ _ => fun O W H σ ρ ρ1 x L e => by unfold exS at e; cases e
  | .retn => fun O W H σ ρ ρ1 x L e => by unfold exS at e; cases e
  | .whil _ _ => fun O W H σ ρ ρ1 x L e => by unfold exS at e; cases e
  | .for_ _ _ _ => fun O W H σ ρ ρ1 x L e => by unfold exS at e; cases e
  | .pass => fun O W H σ ρ ρ1 x L e => by unfold exS at e; cases e
  | .brk => fun O W H σ ρ ρ1 x L e => by unfold exS at e; cases e
  | .cnt => fun O W H σ ρ ρ1 x L e => by unfold exS at e; cases e
  | .never => fun O W H σ ρ ρ1 x L e => by unfold exS at e; cases e
theorem soundXB (ok : CfgOk P Gm) (lo : LoopOk Gm) : ∀ s : Ss, (BadSs P (spec P Φ) Gm Φ X fx) s
  | .nil => bb_nil | .cons s r => bb_cons (soundS ok lo s) (soundXS ok lo s) (soundXB ok lo r)
end
end
end Mi
set_option Elab.async false
set_option linter.all false
set_option maxRecDepth 100000
set_option maxHeartbeats 4000000
namespace Mi
open PySem PySem.Spec PyProof.Rows L2
section
variable {P : TP} {Gm : Cfg} {O W A : AP} {H H1 : Hp} {σ σ1 : L2.St} {ρ ρ1 : Env}
theorem ArgsRep.at_fro {as : List Arg} {vs : List V} {ads : List Addr} (h : ArgsRep P A H as vs ads) : ∀ {i : Nat} {d : D}, as[i]? = some (false, d) → ∃ v, vs[i]? = some v ∧ RepV P A H d v := by
  induction h with
  | nil => intro i d e; simp at e
  | fro h1 _ ih =>
    intro i d e
    cases i with
    | zero => cases e; exact ⟨_, rfl, h1⟩
    | succ i => exact ih (by simpa using e)
  | own h1 _ ih =>
    intro i d e
    cases i with
    | zero => cases e
    | succ i => exact ih (by simpa using e)
theorem ArgsRep.at_own {as : List Arg} {vs : List V} {ads : List Addr} (h : ArgsRep P A H as vs ads) : ∀ {i : Nat} {d : D}, as[i]? = some (true, d) → ∃ a, vs[i]? = some (V.ref a) ∧ a ∈ ads ∧ OwnV P A H d a := by
  induction h with
  | nil => intro i d e; simp at e
  | fro h1 _ ih =>
    intro i d e
    cases i with
    | zero => cases e
    | succ i => exact ih (by simpa using e)
  | own h1 _ ih =>
    intro i d e
    cases i with
    | zero => cases e; exact ⟨_, rfl, List.mem_cons_self, h1⟩
    | succ i =>
      obtain ⟨a, e1, m, q⟩ := ih (i := i) (d := d) (by simpa using e)
      exact ⟨a, e1, List.mem_cons_of_mem _ m, q⟩
theorem ArgsRep.ads_at {as : List Arg} {vs : List V} {ads : List Addr} (h : ArgsRep P A H as vs ads) : ∀ {a : Addr}, a ∈ ads → ∃ (i : Nat) (d : D), as[i]? = some (true, d) ∧ vs[i]? = some (V.ref a) := by
  induction h with
  | nil => intro a e; cases e
  | fro h1 _ ih =>
    intro a e
    obtain ⟨i, d, e1, e2⟩ := ih e
    exact ⟨i + 1, d, e1, e2⟩
  | own h1 _ ih =>
    intro a e
    rcases List.mem_cons.mp e with z | z
    · subst z; exact ⟨0, _, rfl, rfl⟩
    · obtain ⟨i, d, e1, e2⟩ := ih z
      exact ⟨i + 1, d, e1, e2⟩
theorem ArgsRep.inj {as : List Arg} {vs : List V} {ads : List Addr} (h : ArgsRep P A H as vs ads) : ads.Nodup → ∀ {i j : Nat} {d e : D} {a : Addr}, as[i]? = some (true, d) → as[j]? = some (true, e) → vs[i]? = some (V.ref a) → vs[j]? = some (V.ref a) → i = j := by
  induction h with
  | nil => intro _ i j d e a e1; simp at e1
  | fro h1 _ ih =>
    intro nd i j d e a e1 e2 e3 e4
    cases i with
    | zero => cases e1
    | succ i =>
      cases j with
      | zero => cases e2
      | succ j => rw [ih nd (i := i) (j := j) (by simpa using e1) (by simpa using e2) (by simpa using e3) (by simpa using e4)]
  | @own d0 a0 as vs ads h1 hr ih =>
    intro nd i j d e a e1 e2 e3 e4
    obtain ⟨n1, n2⟩ := List.nodup_cons.mp nd
    cases i with
    | zero =>
      cases j with
      | zero => rfl
      | succ j =>
        simp at e3
        subst e3
        obtain ⟨b, e5, m, _⟩ := hr.at_own (i := j) (d := e) (by simpa using e2)
        have e4 : vs[j]? = some (V.ref a0) := by simpa using e4
        rw [e5] at e4
        cases e4
        exact absurd m n1
    | succ i =>
      cases j with
      | zero =>
        simp at e4
        subst e4
        obtain ⟨b, e5, m, _⟩ := hr.at_own (i := i) (d := d) (by simpa using e1)
        have e3 : vs[i]? = some (V.ref a0) := by simpa using e3
        rw [e5] at e3
        cases e3
        exact absurd m n1
      | succ j => rw [ih n2 (i := i) (j := j) (by simpa using e1) (by simpa using e2) (by simpa using e3) (by simpa using e4)]
/-- the slots at a def's entry -/
theorem start_rel {as : List Arg} {vs : List V} {ads : List Addr} {N : List Str} {k : Nat} (h : ArgsRep P (Av O (InL ads)) H as vs ads) (nd : ads.Nodup) (no : ∀ a ∈ ads, ¬ O a) (al : ∀ a, O a → H a ≠ none) (tb : LamX.Tabs P.tabs H) (hk : k = N.length - vs.length) :
    Rel P O (InL ads) H (L2.start N vs) (as.map some ++ List.replicate k none) ∧ ∀ a, OwnA (L2.start N vs) (as.map some ++ List.replicate k none) a → a ∈ ads := by
  have ge : ∀ i x, eget (as.map some ++ List.replicate k none) i = some x → as[i]? = some x := fun i x e => by
    unfold eget at e
    by_cases hi : i < as.length
    · rw [List.getElem?_append_left (by simpa using hi), List.getElem?_map] at e
      cases q : as[i]? with
      | none => rw [q] at e; cases e
      | some y => rw [q] at e; exact e
    · rw [List.getElem?_append_right (by simpa using hi)] at e
      cases q : (List.replicate k (none : Option (Bool × D)))[i - (as.map some).length]? with
      | none => rw [q] at e; cases e
      | some y =>
        rw [q] at e
        have := List.eq_of_mem_replicate (List.mem_of_getElem? q)
        subst this
        cases e
  have gs : ∀ i v, vs[i]? = some v → (L2.start N vs)[i]? = some (some v) := fun i v e => by
    unfold L2.start
    have hi : i < vs.length := (List.getElem?_eq_some_iff.mp e).1
    rw [List.getElem?_append_left (by simpa using hi), List.getElem?_map, e]
    rfl
  have go : ∀ i d, eget (as.map some ++ List.replicate k none) i = some (true, d) → ∃ a, vs[i]? = some (V.ref a) ∧ a ∈ ads ∧ OwnV P (Av O (InL ads)) H d a := fun i d e => h.at_own (ge i _ e)
  refine ⟨⟨?_, fun a w => ?_, al, fun a w => no a w, fun i d e => ?_, fun i d e => ?_, fun i j a x y e1 e2 f1 f2 => ?_, tb⟩, fun a z => ?_⟩
  · unfold L2.start
    rw [List.length_append, List.length_append, List.length_map, List.length_map, List.length_replicate, List.length_replicate, h.length, hk]
  · obtain ⟨i, d, e1, e2⟩ := h.ads_at w
    obtain ⟨b, e3, _, q⟩ := h.at_own e1
    rw [e2] at e3; cases e3
    exact q.mut
  · obtain ⟨v, e1, r⟩ := h.at_fro (ge i _ e)
    exact ⟨v, gs i v e1, r⟩
  · obtain ⟨a, e1, m, q⟩ := go i d e
    exact ⟨a, gs i _ e1, m, q⟩
  · obtain ⟨b, g1, _, _⟩ := go i x e1
    obtain ⟨c, g2, _, _⟩ := go j y e2
    have h1 := gs i _ g1
    have h2 := gs j _ g2
    rw [f1] at h1; cases h1
    rw [f2] at h2; cases h2
    exact h.inj nd (ge i _ e1) (ge j _ e2) g1 g2
  · obtain ⟨i, d, e, q⟩ := z
    obtain ⟨b, g1, m, _⟩ := go i d e
    rw [gs i _ g1] at q
    cases q
    exact m
theorem fixed_mem : ∀ {io : List Bool} {k i : Nat}, io[i]? = some true → k + i ∈ fixed io k
  | [], _, _, e => by simp at e
  | true :: r, k, 0, _ => List.mem_cons_self
  | false :: r, k, 0, e => by cases e
  | true :: r, k, i + 1, e => by
    have := fixed_mem (io := r) (k := k + 1) (i := i) (by simpa using e)
    rw [show k + (i + 1) = k + 1 + i by omega]
    exact List.mem_cons_of_mem _ this
  | false :: r, k, i + 1, e => by
    have := fixed_mem (io := r) (k := k + 1) (i := i) (by simpa using e)
    rw [show k + (i + 1) = k + 1 + i by omega]
    exact this
theorem outs_ok (L : Rel P O W H1 σ1 ρ1) : ∀ {as : List Arg} {vs : List V} {ads : List Addr} {k : Nat} {outs : List D}, ArgsRep P A H as vs ads → outsOf (as.map (·.1)) k ρ1 = some outs → (∀ j d v, as[j]? = some (true, d) → vs[j]? = some v → σ1[k + j]? = some (some v)) →
    OutsRep P (Av O W) H1 outs ads ∧ ∀ a ∈ ads, W a ∧ OwnA σ1 ρ1 a := by
  intro as vs ads k outs h
  induction h generalizing k outs with
  | nil => intro e _; cases e; exact ⟨.nil, fun a h => nomatch h⟩
  | fro _ _ ih =>
    intro e hs
    refine ih (k := k + 1) e fun j d v e1 e2 => ?_
    rw [show k + 1 + j = k + (j + 1) by omega]
    exact hs (j + 1) d v e1 e2
  | @own d0 a0 as vs ads h1 hr ih =>
    intro e hs
    have e : (match eget ρ1 k, outsOf (as.map (·.1)) (k + 1) ρ1 with
      | some (true, d), some ds => some (d :: ds)
      | _, _ => none) = some outs := e
    cases q1 : eget ρ1 k with
    | none => rw [q1] at e; cases e
    | some x =>
      obtain ⟨o, d⟩ := x
      cases q2 : outsOf (as.map (·.1)) (k + 1) ρ1 with
      | none => rw [q1, q2] at e; cases o <;> cases e
      | some ds =>
        rw [q1, q2] at e
        cases o with
        | false => cases e
        | true =>
          cases e
          obtain ⟨g1, g2⟩ := ih q2 fun j d v e1 e2 => by
            rw [show k + 1 + j = k + (j + 1) by omega]
            exact hs (j + 1) d v e1 e2
          obtain ⟨b, e3, w, ho⟩ := L.own k d q1
          have e4 := hs 0 d0 (.ref a0) rfl rfl
          rw [Nat.add_zero, e3] at e4
          cases e4
          refine ⟨.cons ho g1, fun a ha => ?_⟩
          rcases List.mem_cons.mp ha with z | z
          · subst z; exact ⟨w, k, d, q1, e3⟩
          · exact g2 a z
theorem ret_ok {r : R} {v : V} {outs : List D} {as : List Arg} {vs : List V} {ads : List Addr} {io : List Bool} {N : List Str} {W1 : AP} (L1 : Rel P O W1 H1 σ1 ρ1) (ha : ArgsRep P (Av O (InL ads)) H as vs ads) (hio : as.map (·.1) = io) (own : ∀ a, OwnA (L2.start N vs) ρ a → a ∈ ads)
    (s1 : SStep (fixed io 0) (L2.start N vs) ρ (InL ads) H σ1 ρ1 W1 H1) (eo : outsOf io 0 ρ1 = some outs) (hv : match r with
          | .v d => RepV P (Av O W1) H1 d v
          | .o d => ∃ a, v = .ref a ∧ W1 a ∧ ¬ OwnA σ1 ρ1 a ∧ OwnV P (Av O W1) H1 d a
          | .b _ => False) : Ret P O H ads r outs v H1 W1 := by
  have ⟨g1, g2⟩ := outs_ok L1 ha (k := 0) (outs := outs) (by rw [hio]; exact eo) fun j d v e1 e2 => by
    rw [Nat.zero_add]
    have hf : j ∈ fixed io 0 := by
      have := fixed_mem (io := io) (k := 0) (i := j) (by rw [← hio, List.getElem?_map, e1]; rfl)
      rwa [Nat.zero_add] at this
    rw [s1.fixed j hf]
    unfold L2.start
    rw [List.getElem?_append_left (by simpa using (List.getElem?_eq_some_iff.mp e2).1), List.getElem?_map, e2]
    rfl
  refine ⟨fun a o e nt n => s1.keep a o e nt fun z => n (own a z), s1.alive, fun a w => s1.new a w, L1.wmut, fun a m => (g2 a m).1, g1, ?_, L1.tabs⟩
  cases r with
  | v d => exact hv
  | o d =>
    obtain ⟨a, e1, w, n, ho⟩ := hv
    exact ⟨a, e1, w, fun m => n (g2 a m).2, ho⟩
  | b _ => exact hv
/-- a def's body does what its mirror says -/
theorem fn_sound {tab : Nat → Option Fn} {n : Nat} {f : Nat} {F : Fn} (ok : CfgOk P Gm) (lo : LoopOk Gm) (ht : tab f = some F) (ht2 : tab (f + xb) = none) {N : List Str} (hN : N.length = F.ns) (hp : F.io.length = F.np) {vs : List V} {Q : VK} {X : XK}
    (h : spec P (phi Gm tab (n + 1)) f vs H Q X) : vs.length = F.np ∧ tSs P (spec P (phi Gm tab n)) F.body X { nx := fun _ H' => Q .non H', rt := Q } (L2.start N vs) H := by
  obtain ⟨O, as, ads, ha, nd, no, al, tb, ⟨r, outs, e, k⟩ | ⟨x, e, k⟩⟩ := h
  · have hl := ha.length
    unfold phi at e
    rw [ht] at e
    dsimp only at e
    unfold runF at e
    split at e
    · rename_i hio
      have hlen : vs.length = F.np := by rw [← hp, ← hio, List.length_map, hl]
      refine ⟨hlen, ?_⟩
      obtain ⟨L, own⟩ := start_rel (N := N) (k := F.ns - F.np) ha nd no al tb (by rw [hN, hlen])
      cases q : evSs Gm (phi Gm tab n) (fixed F.io 0) F.body (as.map some ++ List.replicate (F.ns - F.np) none) with
      | none => rw [q] at e; cases e
      | some x =>
        obtain ⟨fl, ρ1⟩ := x
        rw [q] at e
        refine soundB ok lo F.body O (InL ads) H _ _ ρ1 fl L q _ fun σ1 W1 H1 L1 s1 => ?_
        cases fl with
        | nx =>
          dsimp only at e
          cases q2 : outsOf F.io 0 ρ1 with
          | none => rw [q2] at e; cases e
          | some o =>
            rw [q2] at e
            cases e
            exact k .non H1 W1 (ret_ok L1 ha hio own s1 q2 (show RepV P (Av O W1) H1 .non .non by unfold RepV; rfl))
        | rt r0 =>
          cases r0 with
          | b s => cases e
          | v d =>
            dsimp only at e
            cases q2 : outsOf F.io 0 ρ1 with
            | none => rw [q2] at e; cases e
            | some o =>
              rw [q2] at e
              cases e
              exact fun v hv => k v H1 W1 (ret_ok L1 ha hio own s1 q2 hv)
          | o d =>
            dsimp only at e
            cases q2 : outsOf F.io 0 ρ1 with
            | none => rw [q2] at e; cases e
            | some o =>
              rw [q2] at e
              cases e
              exact fun v hv => k v H1 W1 (ret_ok L1 ha hio own s1 q2 hv)
        | brk => cases e
        | cnt => cases e
    · cases e
  · have hl := ha.length
    unfold phi at e
    rw [ht2] at e
    dsimp only at e
    rw [if_pos (Nat.le_add_left _ _), Nat.add_sub_cancel, ht] at e
    dsimp only at e
    unfold runX at e
    split at e
    · rename_i hio
      have hlen : vs.length = F.np := by rw [← hp, ← hio, List.length_map, hl]
      refine ⟨hlen, ?_⟩
      obtain ⟨L, own⟩ := start_rel (N := N) (k := F.ns - F.np) ha nd no al tb (by rw [hN, hlen])
      cases q : exSs Gm (phi Gm tab n) (fixed F.io 0) F.body (as.map some ++ List.replicate (F.ns - F.np) none) with
      | none => rw [q] at e; cases e
      | some y =>
        obtain ⟨x', ρ1⟩ := y
        rw [q] at e
        have ex : x' = x := by
          cases x'; cases x
          simpa using e
        subst ex
        exact soundXB ok lo F.body O (InL ads) H _ _ ρ1 x' L q (fun cls d σ1 ρ2 W1 H1 L1 s1 is => k cls d H1 ⟨fun a o e nt n => s1.keep a o e nt fun z => n (own a z), s1.alive, L1.tabs, is⟩) _
    · cases e
end
end Mi
set_option Elab.async false
set_option linter.all false
set_option maxRecDepth 100000
set_option maxHeartbeats 4000000
namespace Mi
open PySem PySem.Spec PyProof.Rows L2
structure Rm (k : Nat) (A : Around) : Prop where
  rm : Room k A
  gs : A.guards = some []
theorem Rm.mono {j k : Nat} {A : Around} (r : Rm k A) (h : j ≤ k) : Rm j A := ⟨r.rm.mono h, r.gs⟩
theorem Rm.deeper {k : Nat} {A : Around} (r : Rm (k + 1) A) (env : PySem.Env) : Rm k (A.deeper env) := ⟨r.rm.deeper env, r.gs⟩
theorem Rm.un {k : Nat} {A : Around} (r : Rm k A) : A.units + 16 * k + 200 < cLine := r.rm.un
theorem make_gs {A : Around} {C : Addr} {us : List Value} {kw : List (Str × Value)} (g : A.guards = some []) : (A.under (.builtin "type.__call__" ⟨.ref C :: us, kw⟩)).guards = some [] := by
  first | (simp [Around.under, Code.guards, Code.isGuard, guardIds, pushGuards, g]; done) | (unfold Around.under; simp [Code.guards, Code.isGuard, guardIds, pushGuards, g])
theorem Rm.make {k : Nat} {A : Around} (r : Rm (k + 1) A) (C : Addr) (us : List Value) (kw : List (Str × Value)) : Rm k (A.under (.builtin "type.__call__" ⟨.ref C :: us, kw⟩)) := ⟨r.rm.make C us kw, make_gs r.gs⟩
/-- a def's promise, where guards are empty -/
structure FnG (P : Program) (w : World) (K : PySem.W.Frag) (mg : Str → Option Value) (base : Heap) (CX : CXT) (k : Nat) (f : Addr) (fd : FuncData) (ps : List Str) (sp : Sp) : Prop where
  len : ∀ vs H Q E, sp vs H Q E → vs.length = ps.length
  run : ∀ (A : Around) (outer : List PySem.Env) (s : Shared) (H : Hp) (args : Args) (us : List Value) (vs : List V) (Q : VK) (E : XK), Rm k A → Env0 P w K mg base A outer s H → BindsTo s fd args (ps.zip us) → Vals vs us → sp vs H Q E → codeAny (model P w) A (.call (.ref f) args) (CR CX outer P w H s Q E) s
section
variable {X : Cx} {CX : CXT} {k : Nat} {f C : Addr} {fd : FuncData} {ps : List Str} {sp : Sp} {E : XK} {x : Str} {p pos : Pos} {e : Expr} {es : List Expr} {t : TA}
theorem fin_ret {pins : List (Addr × Obj)} {σ : L2.St} {H : Hp} {s : Shared} {Q : VK} (px : Passes CX X E) (J : Inv X pins σ H s) : ∀ (r : Result) (s2 : Shared), CR CX X.stack X.prog X.w H s Q E r s2 → (match r with | .ok (.ret v) => EP X pins σ Q v s2 | .ok _ => False | .error er => X.xe er s2)
  | .error er, s2, z => px pins σ H s er s2 J z
  | .ok (.ret _), _, z => J.after z
  | .ok .next, _, z => z
  | .ok .brk, _, z => z
  | .ok .cont, _, z => z
theorem run_g {pins : List (Addr × Obj)} {σ : L2.St} {H : Hp} {s : Shared} {Q : VK} {us : List Value} {vs : List V} (F : FnG X.prog X.w X.K X.mg X.base CX k f fd ps sp) (rm : Rm k X.A) (bi : Binds X.K fd ps []) (px : Passes CX X E)
    (J : Inv X pins σ H s) (rv : Vals vs us) (pr : sp vs H Q E) : wpAny (model X.prog X.w) X.A (call (.ref f) us) (EP X pins σ Q) X.xe s := by
  have ln : (us ++ []).length = ps.length := by rw [List.append_nil, ← rv.length, F.len _ _ _ _ pr]
  have b2 := bi s us J.kIn ln
  rw [List.append_nil] at b2
  refine wpAny_call (codeAny_mono (F.run X.A X.stack s H ⟨us, []⟩ us vs Q E rm J.env0 b2 rv pr) fun r s2 z => ?_)
  have y := fin_ret px J r s2 z
  cases r with
  | error er => exact y
  | ok fl => cases fl <;> first | exact y | exact y.elim
theorem pg_call (F : FnG X.prog X.w X.K X.mg X.base CX k f fd ps sp) (rm : Rm k X.A) (gl : Gl X x) (mx : X.mg x = some (.ref f)) (kp : PySem.W.keepIn X.K (.ref f) = true) (bi : Binds X.K fd ps []) (px : Passes CX X E)
    (ha : PA X (e :: es) t) (hdb : (x == ("__debug__" : Str)) = false := by decide) (he : starEach (e :: es) X.env = (false, eval e X.env) :: starEach es X.env := by rfl) (hpl : (backTo pos (starEach es X.env)).any (·.1) = false := by rfl) :
    PE X (.Call (.Name x p) (e :: es) [] pos) (tCall sp [] E t) := ⟨fun pins s σ H Q J pr => wpAny_Call_Name_kw (ld_glob J gl mx (PySem.W.callWith_K (h₀ := X.base) J.ok.mod.kin kp (thn (ha.run pos pins s σ H _ J pr) fun us s1 ⟨vs, H1, J1, rv, q⟩ => ⟨J1.kIn, run_g F rm bi px J1 rv (by simpa using q)⟩) he hpl) hdb)⟩
theorem make_g {pins : List (Addr × Obj)} {σ : L2.St} {H : Hp} {s : Shared} {Q : VK} {us : List Value} {vs : List V} (M : Mk X.K C f) (F : FnG X.prog X.w X.K X.mg X.base CX k f fd ps sp) (rm : Rm (k + 1) X.A) (bi : Binds X.K fd ps []) (px : Passes CX X E) (J : Inv X pins σ H s) (rv : Vals vs us)
    (pr : ∀ x dx, H x = none → H dx = none → dx ≠ x → sp (.ref x :: (vs ++ [])) (upd (upd H dx (.own x)) x (.ins C dx [])) (fun v H2 => v = .non ∧ Q (.ref x) H2) E) :
    wpAny (model X.prog X.w) X.A (call (.ref C) us) (EP X pins σ Q) X.xe s := by
  have pq := pr (s.heap.objs.size + 1) s.heap.objs.size (J.hok.fresh (Nat.le_succ _)) (J.hok.fresh (Nat.le_refl _)) (Nat.ne_of_lt (Nat.lt_succ_self _))
  rw [List.append_nil] at pq
  have J2 := Inv.made (C := C) J
  have r2 : Vals (V.ref (s.heap.objs.size + 1) :: vs) (Value.ref (s.heap.objs.size + 1) :: us) := .cons rfl rv
  have ln : (Value.ref (s.heap.objs.size + 1) :: us ++ []).length = ps.length := by
    have z := r2.length
    rw [F.len _ _ _ _ pq] at z
    rw [List.append_nil]; exact z.symm
  have b2 := bi _ (Value.ref (s.heap.objs.size + 1) :: us) J2.kIn ln
  rw [List.append_nil] at b2
  refine wpAny_call (make_map (f := f) J.kIn M.makes M.init (beq_iff_eq.mp M.fn) (codeAny_mono (F.run _ X.stack _ _ ⟨Value.ref (s.heap.objs.size + 1) :: us, []⟩ (Value.ref (s.heap.objs.size + 1) :: us) _ _ E (rm.make C us []) (J2.env0.make C us []) b2 r2 pq) fun r s2 z => ?_))
  cases r with
  | error er => exact px pins σ _ _ er s2 J2 z
  | ok fl =>
    cases fl with
    | ret u => let ⟨v, H', J3, rw', ev, q3⟩ := J2.after z; exact (by subst ev; exact ⟨rw', ⟨V.ref (s.heap.objs.size + 1), H', J3, rfl, q3⟩⟩)
    | _ => exact (show False from z).elim
theorem pg_make (M : Mk X.K C f) (F : FnG X.prog X.w X.K X.mg X.base CX k f fd ps sp) (rm : Rm (k + 1) X.A) (gl : Gl X x) (mx : X.mg x = some (.ref C)) (bi : Binds X.K fd ps []) (px : Passes CX X E)
    (ha : PA X (e :: es) t) (hdb : (x == ("__debug__" : Str)) = false := by decide) (he : starEach (e :: es) X.env = (false, eval e X.env) :: starEach es X.env := by rfl) (hpl : (backTo pos (starEach es X.env)).any (·.1) = false := by rfl) :
    PE X (.Call (.Name x p) (e :: es) [] pos) (tMake C sp [] E t) := ⟨fun pins s σ H Q J pr => wpAny_Call_Name_kw (ld_glob J gl mx (PySem.W.callWith_K (h₀ := X.base) J.ok.mod.kin M.kp (thn (ha.run pos pins s σ H _ J pr) fun us s1 ⟨vs, H1, J1, rv, q⟩ => ⟨J1.kIn, make_g M F rm bi px J1 rv q⟩) he hpl) hdb)⟩
end
theorem fg_of {CX : CXT} {P : Program} {w : World} {K : PySem.W.Frag} {mg : Str → Option Value} {base : Heap} {k : Nat} {f : Addr} {name qual : Str} {params : Arguments} {body : List Stmt} {scope : Scope} {dV kV doc pm cdv ct oc : Value} {an od : Option Addr} {osl : Array (Option Value)} {N ps : List Str} {sp : Sp}
    (lk : K.lookup f = some ⟨oc, od, .func (PySem.W.fnOf name qual params body scope dV kV doc pm an cdv ct), osl⟩) (cd : PySem.W.codeIn K cdv qual = true) (S : FnScope N ps scope) (len : ∀ vs H Q E, sp vs H Q E → vs.length = ps.length)
    (hb : ∀ (A : Around) (outer : List PySem.Env) (s : Shared) (H : Hp) (vs : List V) (Q : VK) (E : XK), Rm k (A.deeper (envOfC qual scope s.heap.objs.size f cdv)) → sp vs H Q E → ∃ t, PSs (cxOf CX P w K mg base N qual scope f cdv A outer s H E) body t ∧ t { nx := fun _ H' => Q .non H', rt := Q } (start N vs) H) :
    FnG P w K mg base CX (k + 1) f (PySem.W.fnOf name qual params body scope dV kV doc pm an cdv ct) ps sp where
  len := len
  run := fun A outer s H args us vs Q E rm e0 bd r pr => by
    have ol : ∀ b o, base.get? b = some o → s.heap.get? b = some o := fun b o z => (e0.bs b o z).1
    have kind : ∀ y ∈ ps.zip us, scope.names.lookup y.1 = some .local ∨ (scope.names.lookup y.1 = some .cell ∧ ((cellsFrom (s.heap.objs.size + 1) scope.names []).lookup y.1).isSome = true) := fun ⟨n, v⟩ hy => (S.par n (List.of_mem_zip hy).1).imp id fun q => ⟨q, PySem.W.cellsFrom_some _ _ _ (.inl q)⟩
    refine codeAny_call_function rm.rm.depth (e0.mod.kin.keeps ol _ _ lk) rfl S.co S.gen rfl (PySem.W.codeRec_of (e0.mod.kin.keeps ol) cd) (bd _ _ _ _ (wpAny_newFunctionEnv_cells S.kind kind fun env he s1 x => ?_))
    subst he
    obtain ⟨t, ht, hq⟩ := hb A outer s H vs Q E (rm.deeper _) pr
    refine ⟨(e0.mod.nolimit.keeps ol).keeps x.toInCall.keep, codeAny_func (wpAny_mono (ht.run [] s1 (start N vs) H _ (inv_start S rm.rm.hd e0 (len _ _ _ _ pr) r x) hq) (fun fl s' z => ?_) fun _ _ z => z)⟩
    cases fl with
    | ret u => let ⟨v, σ', H', J, rv, q⟩ := z; exact ⟨v, H', J.os, J.bare, J.base, J.hok, rv, q⟩
    | next => let ⟨σ', H', J, q⟩ := z; exact ⟨V.non, H', J.os, J.bare, J.base, J.hok, rfl, q⟩
    | _ => let ⟨_, _, _, q⟩ := z; exact (show False from q).elim
theorem FnG.imp {P : Program} {w : World} {K : PySem.W.Frag} {mg : Str → Option Value} {base : Heap} {CX : CXT} {k : Nat} {f : Addr} {fd : FuncData} {ps : List Str} {sp sp' : Sp} (F : FnG P w K mg base CX k f fd ps sp) (h : ∀ vs H Q E, sp' vs H Q E → sp vs H Q E) : FnG P w K mg base CX k f fd ps sp' :=
  ⟨fun vs H Q E q => F.len vs H Q E (h _ _ _ _ q), fun A outer s H args us vs Q E rm e0 bd r q => F.run A outer s H args us vs Q E rm e0 bd r (h _ _ _ _ q)⟩
end Mi
set_option Elab.async false
set_option linter.all false
set_option maxRecDepth 100000
set_option maxHeartbeats 4000000
namespace Mi
open PySem PySem.Spec PyProof.Rows L2
/-- a def that may be called by its name -/
def Cal (prog : Program) (w : World) (K : PySem.W.Frag) (mg : Str → Option Value) (base : Heap) (k : Nat) (x : Str) (sp : Sp) : Prop :=
  ∃ f fd ps, FnG prog w K mg base (L2.CX prog w) k f fd ps sp ∧ mg x = some (.ref f) ∧ PySem.W.keepIn K (.ref f) = true ∧ Binds K fd ps []
/-- a class that may be made by its name -/
def Mak (prog : Program) (w : World) (K : PySem.W.Frag) (mg : Str → Option Value) (base : Heap) (k : Nat) (x : Str) (C : Addr) (sp : Sp) : Prop :=
  ∃ f fd ps, Mk K C f ∧ FnG prog w K mg base (L2.CX prog w) k f fd ps sp ∧ mg x = some (.ref C) ∧ Binds K fd ps []
/-- a def as it stands behind the top -/
def Dk (K : PySem.W.Frag) (mg : Str → Option Value) (x qual : Str) (st : Stmt) (ps : List Str) : Prop :=
  ∃ f fd, Fun K x qual st f fd ∧ mg x = some (.ref f) ∧ Binds K fd ps []
/-- .. an __init__ -/
def Dm (K : PySem.W.Frag) (mg : Str → Option Value) (x : Str) (C : Addr) (qual : Str) (st : Stmt) (ps : List Str) : Prop :=
  ∃ f fd, Fun K "__init__" qual st f fd ∧ Mk K C f ∧ mg x = some (.ref C) ∧ Binds K fd ps []
open Classical in
noncomputable def loopC (step : Env → Option (Env ⊕ (Fl × Env))) (ρ : Env) : Option (Fl × Env) := if h : ∃ n r, iterW step n ρ = some r then some (Classical.choose (Classical.choose_spec h)) else none
theorem loopC_ok {step : Env → Option (Env ⊕ (Fl × Env))} {ρ : Env} {r : Fl × Env} (h : loopC step ρ = some r) : ∃ n, iterW step n ρ = some r := by
  unfold loopC at h
  split at h
  · rename_i h0
    cases h
    exact ⟨_, Classical.choose_spec (Classical.choose_spec h0)⟩
  · cases h
section
variable {prog : Program} {w : World} {mg : Str → Option Value} {base : Heap} {P : TP} {Gm : Cfg} {tab : Nat → Option Fn} {n i : Nat}
theorem spec0 {vs : List V} {H : Hp} {Q : VK} {E : XK} (h : spec P (phi Gm tab 0) i vs H Q E) : False := by
  obtain ⟨_, _, _, _, _, _, _, _, ⟨_, _, e, _⟩ | ⟨_, e, _⟩⟩ := h <;> cases e
theorem cal0 {x qual : Str} {st : Stmt} {ps : List Str} {k : Nat} (d : Dk P.K mg x qual st ps) : Cal prog w P.K mg base k x (spec P (phi Gm tab 0) i) := by
  obtain ⟨f, fd, F, m, b⟩ := d
  exact ⟨f, fd, ps, ⟨fun _ _ _ _ h => (spec0 h).elim, fun _ _ _ _ _ _ _ _ _ _ _ _ _ h => (spec0 h).elim⟩, m, F.kp, b⟩
theorem mak0 {x qual : Str} {C : Addr} {st : Stmt} {ps : List Str} {k : Nat} (d : Dm P.K mg x C qual st ps) : Mak prog w P.K mg base k x C (spec P (phi Gm tab 0) i) := by
  obtain ⟨f, fd, F, M, m, b⟩ := d
  exact ⟨f, fd, ps, M, ⟨fun _ _ _ _ h => (spec0 h).elim, fun _ _ _ _ _ _ _ _ _ _ _ _ _ h => (spec0 h).elim⟩, m, b⟩
/-- a def's step from level to level, by its body's term -/
theorem fn_step {x qual : Str} {st : Stmt} {ps N : List Str} {F : Fn} {f : Addr} {fd : FuncData} (ok : CfgOk P Gm) (lo : LoopOk Gm) (ht : tab i = some F) (ht2 : tab (i + xb) = none) (S : FnScope N ps (defScope st)) (hN : N.length = F.ns) (hp : F.io.length = F.np) (hps : ps.length = F.np) (D : Fun P.K x qual st f fd)
    (hb : ∀ (cdv : Value) (A : Around) (outer : List PySem.Env) (s : Shared) (H : Hp) (E : XK), Rm (4 * n + 7) (A.deeper (envOfC qual (defScope st) s.heap.objs.size f cdv)) →
      PSs (cxOf (L2.CX prog w) prog w P.K mg base N qual (defScope st) f cdv A outer s H E) (defBody st) (tSs P (spec P (phi Gm tab n)) F.body E)) :
    FnG prog w P.K mg base (L2.CX prog w) (4 * (n + 2)) f fd ps (spec P (phi Gm tab (n + 1)) i) :=
  by
  obtain ⟨oc, od, kV, doc, pm, an, cdv, ct, osl, rfl, lk, hcd⟩ := D.ex
  exact fg_of lk hcd S (fun vs H Q E h => (fn_sound ok lo ht ht2 hN hp h).1.trans hps.symm) fun A outer s H vs Q E hr h => ⟨_, hb cdv A outer s H E hr, (fn_sound ok lo ht ht2 hN hp h).2⟩
theorem cal_step {x qual : Str} {st : Stmt} {ps N : List Str} {F : Fn} (ok : CfgOk P Gm) (lo : LoopOk Gm) (ht : tab i = some F) (ht2 : tab (i + xb) = none) (S : FnScope N ps (defScope st)) (hN : N.length = F.ns) (hp : F.io.length = F.np) (hps : ps.length = F.np) (d : Dk P.K mg x qual st ps)
    (hb : ∀ (f : Addr) (cdv : Value) (A : Around) (outer : List PySem.Env) (s : Shared) (H : Hp) (E : XK), Rm (4 * n + 7) (A.deeper (envOfC qual (defScope st) s.heap.objs.size f cdv)) →
      PSs (cxOf (L2.CX prog w) prog w P.K mg base N qual (defScope st) f cdv A outer s H E) (defBody st) (tSs P (spec P (phi Gm tab n)) F.body E)) : Cal prog w P.K mg base (4 * (n + 2)) x (spec P (phi Gm tab (n + 1)) i) := by
  obtain ⟨f, fd, D, m, b⟩ := d
  exact ⟨f, fd, ps, fn_step ok lo ht ht2 S hN hp hps D (hb f), m, D.kp, b⟩
theorem mak_step {x qual : Str} {C : Addr} {st : Stmt} {ps N : List Str} {F : Fn} (ok : CfgOk P Gm) (lo : LoopOk Gm) (ht : tab i = some F) (ht2 : tab (i + xb) = none) (S : FnScope N ps (defScope st)) (hN : N.length = F.ns) (hp : F.io.length = F.np) (hps : ps.length = F.np) (d : Dm P.K mg x C qual st ps)
    (hb : ∀ (f : Addr) (cdv : Value) (A : Around) (outer : List PySem.Env) (s : Shared) (H : Hp) (E : XK), Rm (4 * n + 7) (A.deeper (envOfC qual (defScope st) s.heap.objs.size f cdv)) →
      PSs (cxOf (L2.CX prog w) prog w P.K mg base N qual (defScope st) f cdv A outer s H E) (defBody st) (tSs P (spec P (phi Gm tab n)) F.body E)) : Mak prog w P.K mg base (4 * (n + 2)) x C (spec P (phi Gm tab (n + 1)) i) := by
  obtain ⟨f, fd, D, M, m, b⟩ := d
  exact ⟨f, fd, ps, M, fn_step ok lo ht ht2 S hN hp hps D (hb f), m, b⟩
end
section
variable {X : Cx} {prog : Program} {w : World} {K : PySem.W.Frag} {mg : Str → Option Value} {base : Heap} {N : List Str} {q : Str} {sc : Scope} {f : Addr} {cdv : Value} {A : Around} {outer : List PySem.Env} {s : Shared} {H : Hp} {E : XK}
/-- nothing flies: nothing is let pass -/
theorem passL : Passes (L2.CX X.prog X.w) X E0 := fun _ _ _ _ _ _ _ h => by
  obtain ⟨_, _, _, _, _, _, _, _, _, _, _, _, z⟩ := h
  exact (show False from z).elim
/-- a def's own air -/
theorem tk_cx : Takes (cxOf (L2.CX prog w) prog w K mg base N q sc f cdv A outer s H E) (fun cls d _ H' => E cls d H') := takes_of rfl rfl rfl rfl
theorem px_cx : Passes (L2.CX prog w) (cxOf (L2.CX prog w) prog w K mg base N q sc f cdv A outer s H E) E := fun pins σ H1 s1 e s' I c => passes_call (E := E) tk_cx (fun _ _ _ _ h => h) pins σ H1 s1 e s' I c
theorem po_cx : PassesOwn (model prog w) (cxOf (L2.CX prog w) prog w K mg base N q sc f cdv A outer s H E).A (cxOf (L2.CX prog w) prog w K mg base N q sc f cdv A outer s H E).env (cxOf (L2.CX prog w) prog w K mg base N q sc f cdv A outer s H E).xe := passes_of rfl
end
section
variable {X : Cx} {k j : Nat} {x : Str} {C : Addr} {sp : Sp} {e : Expr} {es : List Expr} {t : TA} {p pos : Pos}
theorem hu_one (hr : Rm k X.A) : X.A.units + 1 < cLine := by have := hr.un; omega
theorem hu_room (hr : Rm k X.A) : X.A.units + 65 < cLine := by have := hr.un; omega
theorem g_call (c : Cal X.prog X.w X.K X.mg X.base k x sp) (hr : Rm j X.A) (hk : k ≤ j) (hg : Gl X x) (ha : PA X (e :: es) t) (hdb : (x == ("__debug__" : Str)) = false := by decide)
    (he : starEach (e :: es) X.env = (false, eval e X.env) :: starEach es X.env := by rfl) (hpl : (backTo pos (starEach es X.env)).any (·.1) = false := by rfl) : PE X (.Call (.Name x p) (e :: es) [] pos) (tCall sp [] E0 t) := by
  obtain ⟨f, fd, ps, F, hm, kp, b⟩ := c
  exact pg_call F (hr.mono hk) hg hm kp b passL ha hdb he hpl
/-- .. whose exception is let pass -/
theorem g_callx {E : XK} (px : Passes (L2.CX X.prog X.w) X E) (c : Cal X.prog X.w X.K X.mg X.base k x sp) (hr : Rm j X.A) (hk : k ≤ j) (hg : Gl X x) (ha : PA X (e :: es) t) (hdb : (x == ("__debug__" : Str)) = false := by decide)
    (he : starEach (e :: es) X.env = (false, eval e X.env) :: starEach es X.env := by rfl) (hpl : (backTo pos (starEach es X.env)).any (·.1) = false := by rfl) : PE X (.Call (.Name x p) (e :: es) [] pos) (tCall sp [] E t) := by
  obtain ⟨f, fd, ps, F, hm, kp, b⟩ := c
  exact pg_call F (hr.mono hk) hg hm kp b px ha hdb he hpl
theorem g_makex {E : XK} (px : Passes (L2.CX X.prog X.w) X E) (c : Mak X.prog X.w X.K X.mg X.base k x C sp) (hr : Rm j X.A) (hk : k + 1 ≤ j) (hg : Gl X x) (ha : PA X (e :: es) t) (hdb : (x == ("__debug__" : Str)) = false := by decide)
    (he : starEach (e :: es) X.env = (false, eval e X.env) :: starEach es X.env := by rfl) (hpl : (backTo pos (starEach es X.env)).any (·.1) = false := by rfl) : PE X (.Call (.Name x p) (e :: es) [] pos) (tMake C sp [] E t) := by
  obtain ⟨f, fd, ps, M, F, hm, b⟩ := c
  exact pg_make M F (hr.mono hk) hg hm b px ha hdb he hpl
theorem g_glob {v : V} (h : ∃ u, X.mg x = some u ∧ RelV v u) (hg : Gl X x) (hd : (x == ("__debug__" : Str)) = false := by decide) : PE X (.Name x pos) (tC v) := by
  obtain ⟨u, hm, r⟩ := h
  exact pe_glob hg hm r hd
theorem g_par {P : Mi.TP} {i j : Nat} {o1 o2 : Bool} {x y : Str} {a b : Expr} {ta : TA} {px py pt pos : Pos} {kt k2 : Nat} {pt2 : Pos} (hc : X.calm = true) (hN : X.N.Nodup) (hi : X.N[i]? = some x) (hj : X.N[j]? = some y) (hij : i ≠ j)
    (hx : X.env.scope.names.lookup x = some .local) (hy : X.env.scope.names.lookup y = some .local) (ha : PA X [a, b] ta)
    (hw : swappedStores [.Tuple [.Name x px, .Name y py] kt pt] (.Tuple [a, b] k2 pt2) X.env = pure (some [x, y]))
    (hs : swapsWithSole [.Tuple [.Name x px, .Name y py] kt pt] (.Tuple [a, b] k2 pt2) pos.line X.env = pure false := by rfl) :
    PS X (.Assign [.Tuple [.Name x px, .Name y py] kt pt] (.Tuple [a, b] k2 pt2) pos) (tPars P true [(i, o1), (j, o2)] ta) := ps_par hc hN hi hj hij hx hy ha hw hs
theorem b_abs : bootBuiltins ("abs" : Str) = some (.builtin "abs") := by decide +kernel
theorem b_int : bootBuiltins ("int" : Str) = some (.type "int") := by decide +kernel
theorem b_list : bootBuiltins ("list" : Str) = some (.type "list") := by decide +kernel
theorem b_tuple : bootBuiltins ("tuple" : Str) = some (.type "tuple") := by decide +kernel
theorem b_bool : bootBuiltins ("bool" : Str) = some (.type "bool") := by decide +kernel
theorem b_str : bootBuiltins ("str" : Str) = some (.type "str") := by decide +kernel
theorem b_repr : bootBuiltins ("repr" : Str) = some (.builtin "repr") := by decide +kernel
theorem b_sum : bootBuiltins ("sum" : Str) = some (.builtin "sum") := by decide +kernel
theorem b_max : bootBuiltins ("max" : Str) = some (.builtin "max") := by decide +kernel
theorem b_sorted : bootBuiltins ("sorted" : Str) = some (.builtin "sorted") := by decide +kernel
theorem b_all : bootBuiltins ("all" : Str) = some (.builtin "all") := by decide +kernel
theorem b_any : bootBuiltins ("any" : Str) = some (.builtin "any") := by decide +kernel
theorem b_isi : bootBuiltins ("isinstance" : Str) = some (.builtin "isinstance") := by decide +kernel
theorem b_len : bootBuiltins ("len" : Str) = some (.builtin "len") := by decide +kernel
end
end Mi
namespace Mi
open PySem PySem.Spec PyProof.Rows L2
theorem dk_of {K : PySem.W.Frag} {h : Heap} {mg : Str → Option Value} {x : Str} {st : Stmt} {ps : List Str} {f : Addr} {oc : Value} {od an : Option Addr} {osl : Array (Option Value)} {kV doc pm cdv ct : Value} (X : K.In h) (G : h.Ns mainGlobals mg)
    (a : PySem.W.nsIn K mainGlobals x = some (some (.ref f))) (l : K.lookup f = some ⟨oc, od, .func (PySem.W.fnOf x x (defArgs st) (defBody st) (defScope st) .none kV doc pm an cdv ct), osl⟩) (c : PySem.W.codeIn K cdv x = true) (k : PySem.W.keepIn K (.ref f) = true)
    (hb : ∀ (kV doc pm : Value) (an : Option Addr) (cdv ct : Value) (us : List Value), us.length = ps.length → bindArgs (PySem.W.fnOf x x (defArgs st) (defBody st) (defScope st) .none kV doc pm an cdv ct) ⟨us, []⟩ = pure (ps.zip us)) : Dk K mg x x st ps :=
  ⟨f, _, fun_mk l c k, PySem.W.mg_of X G a, (fun_mk l c k).binds hb⟩
theorem dm_of {K : PySem.W.Frag} {h : Heap} {mg : Str → Option Value} {x qual : Str} {st : Stmt} {ps : List Str} {C f : Addr} {oc : Value} {od an : Option Addr} {osl : Array (Option Value)} {kV doc pm cdv ct : Value} (X : K.In h) (G : h.Ns mainGlobals mg)
    (aC : PySem.W.nsIn K mainGlobals x = some (some (.ref C))) (mk : PySem.W.makesIn K C = true) (a : PySem.W.findIn K (.ref C) "__init__" = some (some (.ref f))) (i : PySem.W.isFn K (.ref f) = true) (kc : PySem.W.keepIn K (.ref C) = true)
    (l : K.lookup f = some ⟨oc, od, .func (PySem.W.fnOf "__init__" qual (defArgs st) (defBody st) (defScope st) .none kV doc pm an cdv ct), osl⟩) (c : PySem.W.codeIn K cdv qual = true) (k : PySem.W.keepIn K (.ref f) = true)
    (hb : ∀ (kV doc pm : Value) (an : Option Addr) (cdv ct : Value) (us : List Value), us.length = ps.length → bindArgs (PySem.W.fnOf "__init__" qual (defArgs st) (defBody st) (defScope st) .none kV doc pm an cdv ct) ⟨us, []⟩ = pure (ps.zip us)) : Dm K mg x C qual st ps :=
  ⟨f, _, fun_mk l c k, ⟨mk, a, i, kc⟩, PySem.W.mg_of X G aC, (fun_mk l c k).binds hb⟩
def spLaw (m : Nat) (K : PySem.W.Frag) (T : List (Addr × Str)) : Sp := fun vs H Q _ => LamX.Tabs T H ∧ ∃ (a : Addr) (ns : List Int), vs = [.ref a] ∧ SqL K H a (ns.map V.int) ∧ ns.length ≤ m ∧ ∀ v H', v = .bl true → Q v H'
theorem law_spec {P : TP} {Gm : Cfg} {tab : Nat → Option Fn} {n i m : Nat} (hm : m ≤ 63) (law : ∀ ns : List Int, ns.length ≤ m → phi Gm tab n i [(false, .scr ns)] = some (.v (.bl true), [])) {vs : List V} {H : Hp} {Q : VK} {E : XK} (h : spLaw m P.K P.tabs vs H Q E) :
    spec P (phi Gm tab n) i vs H Q E := by
  obtain ⟨tb, a, ns, rfl, hS, hl, k⟩ := h
  refine ⟨fun _ => False, [(false, .scr ns)], [], .fro ?_ .nil, .nil, (fun _ h => nomatch h), fun _ z => z.elim, tb, .inl ⟨_, _, law ns hl, fun v H' W' rt => k v H' ?_⟩⟩
  · unfold RepV
    refine ⟨a, rfl, ?_, Nat.le_trans hl (Nat.le_trans hm (by decide))⟩
    rcases hS with h | h
    · exact .inl ⟨h, fun z => z.elim (fun q => q) fun q => nomatch q⟩
    · exact .inr h
  · have := rt.val
    exact repVBl (P := P) this
theorem law_fn {prog : Program} {w : World} {mg : Str → Option Value} {base : Heap} {P : TP} {Gm : Cfg} {tab : Nat → Option Fn} {n i m : Nat} {st : Stmt} {N : List Str} {F : Fn} {f : Addr} {fd : FuncData} (ok : CfgOk P Gm) (lo : LoopOk Gm) (ht : tab i = some F) (ht2 : tab (i + xb) = none) (S : FnScope N ["script"] (defScope st)) (hN : N.length = F.ns) (hp : F.io.length = F.np) (hps : ["script"].length = F.np)
    (hb : ∀ (cdv : Value) (A : Around) (outer : List PySem.Env) (s : Shared) (H : Hp) (E : XK), Rm (4 * n + 7) (A.deeper (envOfC "law" (defScope st) s.heap.objs.size f cdv)) →
      PSs (cxOf (L2.CX prog w) prog w P.K mg base N "law" (defScope st) f cdv A outer s H E) (defBody st) (tSs P (spec P (phi Gm tab n)) F.body E))
    (hm : m ≤ 63) (law : ∀ ns : List Int, ns.length ≤ m → phi Gm tab (n + 1) i [(false, .scr ns)] = some (.v (.bl true), [])) (D : Fun P.K "law" "law" st f fd) : FnG prog w P.K mg base (L2.CX prog w) (4 * (n + 2)) f fd ["script"] (spLaw m P.K P.tabs) :=
  (fn_step (i := i) (N := N) ok lo ht ht2 S hN hp hps D hb).imp fun _ _ _ _ h => law_spec hm law h
end Mi
set_option Elab.async false
set_option linter.all false
set_option maxRecDepth 100000
set_option maxHeartbeats 4000000
namespace Mi
open PySem PySem.Spec PyProof.Rows L2
end Mi
set_option Elab.async false
set_option linter.all false
set_option maxRecDepth 100000
set_option maxHeartbeats 4000000
namespace Mi
open PySem PySem.Spec PyProof.Rows L2
/-- what a class's __eq__ and __ne__ are -/
structure EqC (K : PySem.W.Frag) (C f : Addr) : Prop where
  eq : PySem.W.findIn K (.ref C) "__eq__" = some (some (.ref f))
  fn : PySem.W.isFn K (.ref f) = true
  ne : PySem.W.findIn K (.ref C) "__ne__" = some (some (.builtin "object.__ne__"))
  ob : PySem.W.subIn K (.ref C) (.type "object") = some true
def Eqk (prog : Program) (w : World) (K : PySem.W.Frag) (mg : Str → Option Value) (base : Heap) (k : Nat) (C : Addr) (sp : Sp) : Prop :=
  ∃ f fd ps, FnG prog w K mg base (L2.CX prog w) k f fd ps sp ∧ EqC K C f ∧ Binds K fd ps []
def De (K : PySem.W.Frag) (C : Addr) (qual : Str) (st : Stmt) (ps : List Str) : Prop :=
  ∃ f fd, Fun K "__eq__" qual st f fd ∧ EqC K C f ∧ Binds K fd ps []
section
variable {prog : Program} {w : World} {mg : Str → Option Value} {base : Heap} {P : TP} {Gm : Cfg} {tab : Nat → Option Fn} {n i : Nat}
theorem eq0 {qual : Str} {C : Addr} {st : Stmt} {ps : List Str} {k : Nat} (d : De P.K C qual st ps) : Eqk prog w P.K mg base k C (spec P (phi Gm tab 0) i) := by
  obtain ⟨f, fd, F, M, b⟩ := d
  exact ⟨f, fd, ps, ⟨fun _ _ _ _ h => (spec0 h).elim, fun _ _ _ _ _ _ _ _ _ _ _ _ _ h => (spec0 h).elim⟩, M, b⟩
theorem eq_step {qual : Str} {C : Addr} {st : Stmt} {ps N : List Str} {F : Fn} (ok : CfgOk P Gm) (lo : LoopOk Gm) (ht : tab i = some F) (ht2 : tab (i + xb) = none) (S : FnScope N ps (defScope st)) (hN : N.length = F.ns) (hp : F.io.length = F.np) (hps : ps.length = F.np) (d : De P.K C qual st ps)
    (hb : ∀ (f : Addr) (cdv : Value) (A : Around) (outer : List PySem.Env) (s : Shared) (H : Hp) (E : XK), Rm (4 * n + 7) (A.deeper (envOfC qual (defScope st) s.heap.objs.size f cdv)) →
      PSs (cxOf (L2.CX prog w) prog w P.K mg base N qual (defScope st) f cdv A outer s H E) (defBody st) (tSs P (spec P (phi Gm tab n)) F.body E)) : Eqk prog w P.K mg base (4 * (n + 2)) C (spec P (phi Gm tab (n + 1)) i) := by
  obtain ⟨f, fd, D, M, b⟩ := d
  exact ⟨f, fd, ps, fn_step ok lo ht ht2 S hN hp hps D (hb f), M, b⟩
end
section
variable {X : Cx} {k j : Nat} {C : Addr} {sp : Sp} {a b : Expr} {ta tb : TE} {pos : Pos}
theorem sub_no {K : PySem.W.Frag} {n : String} (hn : n ∈ tyNames) : PySem.W.subIn K (.type n) (.ref C) = some false := by
  show (PySem.fastBuiltinMro n).map (·.contains (.ref C)) = some false
  simp only [tyNames, List.mem_cons, List.not_mem_nil, or_false] at hn
  rcases hn with rfl | rfl | rfl | rfl | rfl | rfl | rfl <;> kernel_rfl
theorem eqi_ty {pins : List (Addr × Obj)} {s : Shared} {σ : L2.St} {H : Hp} {y : V} {u : Value} (I : Inv X pins σ H s) (ry : RelV y u) (hy : (∃ (b dy : Addr) (gs : List (Str × V)), y = .ref b ∧ H b = some (.ins C dy gs)) ∨ ∃ n ∈ tyNames, TyX X.K H y (.type n)) :
    ∃ tb, PySem.W.Looks (model X.prog X.w) s.heap (typeOf u) tb ∧ PySem.W.notFirst X.K C tb = true := by
  rcases hy with ⟨b, dy, gs, rfl, hb⟩ | ⟨n, hn, ty⟩
  · cases ry
    obtain ⟨mB, J', _⟩ := ins_get I.hok hb
    obtain ⟨od', J', _⟩ := J'.look
    exact ⟨_, J'.type, by simp [PySem.W.notFirst]⟩
  · obtain ⟨P, Z, p, hx⟩ := kit_of I ry ty
    refine ⟨_, Z.ty _ _ I.kIn p, ?_⟩
    unfold PySem.W.notFirst
    rw [sub_no hn, Bool.or_eq_true]
    exact .inr rfl
theorem op_eqi (c : Eqk X.prog X.w X.K X.mg X.base k C sp) (hr : Rm j X.A) (hk : k + 1 ≤ j) : OpR X (compareOp .Eq) (rEqi X.K false C sp) := by
  obtain ⟨f, fd, ps, F, M, bi⟩ := c
  intro pins s σ H x y v u Q I rx ry hq
  obtain ⟨a, dx, fs, rfl, ha, hy, pr⟩ := hq
  cases rx
  obtain ⟨mA, J, _⟩ := ins_get I.hok ha
  obtain ⟨od, J, _⟩ := J.look
  obtain ⟨tb, hb, hn⟩ := eqi_ty (C := C) I ry hy
  obtain ⟨m, hF⟩ := I.fr
  have un := hr.un
  show wpAny (model X.prog X.w) X.A (richCompare .Eq (.ref a) u) (EP X pins σ Q) X.xe s
  refine PySem.W.cmp_K (op := .Eq) (tb := tb) (by omega) hF I.ok.mod.kin J hb hn M.eq M.fn ?_
  have r2 : Vals [V.ref a, y] [Value.ref a, u] := .cons rfl (.cons ry .nil)
  refine wpAny_mono (run_g F (hr.mono (by omega)) bi passL I r2 pr) (fun v s' z => ?_) fun _ _ z => z
  obtain ⟨v', H', I', rv, t, rfl, q⟩ := z
  cases (show v = Value.bool t from rv)
  exact ⟨.bl t, H', I', rfl, by simpa using q⟩
theorem tEqi_op (neg : Bool) : tEqi X.K neg C sp (tCons ta (tCons tb tNil)) = tOp (rEqi X.K neg C sp) ta tb := by
  funext σ H Q
  show ta σ H (fun x H1 => tb σ H1 fun y H2 => ∃ x' y', [x, y] = [x', y'] ∧ rEqi X.K neg C sp x' y' H2 Q) = ta σ H fun x H1 => tb σ H1 fun y H2 => rEqi X.K neg C sp x y H2 Q
  congr 1
  funext x H1
  congr 1
  funext y H2
  refine propext ⟨fun h => ?_, fun h => ⟨x, y, rfl, h⟩⟩
  obtain ⟨x', y', e, h⟩ := h
  cases e
  exact h
theorem g_eqi (c : Eqk X.prog X.w X.K X.mg X.base k C sp) (hr : Rm j X.A) (hk : k + 1 ≤ j) (ha : PE X a ta) (hb : PE X b tb) : PE X (.Compare a [.Eq] [b] pos) (tEqi X.K false C sp (tCons ta (tCons tb tNil))) := by
  rw [tEqi_op]
  exact pe_cmpR (op_eqi c hr hk) ha hb (by first | exact nomark _ | rfl)
theorem gt_eqi (c : Eqk X.prog X.w X.K X.mg X.base k C sp) (hr : Rm j X.A) (hk : k + 1 ≤ j) (ha : PE X a ta) (hb : PE X b tb) : PT X (.Compare a [.Eq] [b] pos) (tTest (tEqi X.K false C sp (tCons ta (tCons tb tNil)))) := by
  rw [tEqi_op]
  exact pt_cmpR (op_eqi c hr hk) ha hb (by first | exact nomark _ | rfl)
/-- an own class by its name -/
theorem g_cn {cls : Str} {p2 : Pos} (hm : X.mg cls = some (.ref C)) (hg2 : Gl X cls) (hdb2 : (cls == ("__debug__" : Str)) = false := by decide) : PE X (.Name cls p2) (tC (.ref C)) := pe_glob hg2 hm rfl hdb2
end
/-- an __eq__ as it stands behind the top -/
theorem de_of {K : PySem.W.Frag} {qual : Str} {st : Stmt} {ps : List Str} {C f : Addr} {oc : Value} {od an : Option Addr} {osl : Array (Option Value)} {kV doc pm cdv ct : Value}
    (a : PySem.W.findIn K (.ref C) "__eq__" = some (some (.ref f))) (i : PySem.W.isFn K (.ref f) = true) (ne : PySem.W.findIn K (.ref C) "__ne__" = some (some (.builtin "object.__ne__"))) (ob : PySem.W.mroIn K C (.type "object") = some true)
    (l : K.lookup f = some ⟨oc, od, .func (PySem.W.fnOf "__eq__" qual (defArgs st) (defBody st) (defScope st) .none kV doc pm an cdv ct), osl⟩) (c : PySem.W.codeIn K cdv qual = true) (k : PySem.W.keepIn K (.ref f) = true)
    (hb : ∀ (kV doc pm : Value) (an : Option Addr) (cdv ct : Value) (us : List Value), us.length = ps.length → bindArgs (PySem.W.fnOf "__eq__" qual (defArgs st) (defBody st) (defScope st) .none kV doc pm an cdv ct) ⟨us, []⟩ = pure (ps.zip us)) : De K C qual st ps :=
  ⟨f, _, fun_mk l c k, ⟨a, i, ne, ob⟩, (fun_mk l c k).binds hb⟩
/-- a class whose isinstance is told -/
theorem isk_of {K : PySem.W.Frag} {C : Addr} {cd : ClassData} (cl : Cls K C) (ha : PySem.W.findIn K (.ref C) "__class__" = some (some (.builtin "object.__class__"))) (hn : PySem.W.specialIn K (.builtin "object.__class__") "__get__" = some (some (.builtin "getset_descriptor.__get__")))
    (htk : PySem.W.takesIn K (.builtin "object.__class__") = some true) (hm : PySem.W.mroIn K C (.type "object") = some true) (c1 : PySem.W.clsIn K C = some cd) (ty : PySem.W.typeIn K (.ref C) = some (.type "type")) : IskOk K C := by
  refine ⟨cl, ha, hn, htk, hm, fun n hn => ?_⟩
  unfold PySem.W.kitOne
  rw [if_neg (by intro z; exact nomatch (beq_iff_eq.mp z))]
  show (if ((PySem.W.clsIn K C).isSome && PySem.W.typeIn K (.ref C) == some (.type "type")) = true then PySem.W.subIn K (.type n) (.ref C) else none) = some false
  rw [c1, ty, if_pos (by rfl)]
  show (PySem.fastBuiltinMro n).map (·.contains (.ref C)) = some false
  simp only [tyNames, List.mem_cons, List.not_mem_nil, or_false] at hn
  rcases hn with rfl | rfl | rfl | rfl | rfl | rfl | rfl <;> kernel_rfl
end Mi
set_option Elab.async false
set_option linter.all false
set_option maxRecDepth 100000
set_option maxHeartbeats 4000000
namespace Mi
open PySem PySem.Spec PyProof.Rows L2
section
variable {X : Cx} {pins : List (Addr × Obj)} {σ : L2.St} {H HW : Hp} {s s1 : Shared}
/-- the lambda is made: its code object is new, or found in the table -/
theorem lam_mk {T : List (Addr × Str)} {c P : Addr} {params : Arguments} {body : Expr} {scope : Scope} {pos : Pos} {E : Value → Shared → Prop} {Q : Value → Shared → Prop} (I : Inv X pins σ H s) (TB : LamX.TabB X.base X.mg c P) (codeE : X.env.code = .ref c)
    (hm : (P, X.env.qual ++ "<lambda>") ∈ T) (hu : ∀ p ∈ T, p.1 = P → p.2 = X.env.qual ++ "<lambda>") (hT : LamX.Tabs T H) (defE : defaultsOf params X.env = ([], [])) (freeE : ∀ y ∈ scope.names, y.2 = .free → ∃ c, X.env.cells.lookup y.1 = some c)
    (h : ∀ (f c' : Addr) (pm ctv : Value) (H1 : Hp) (s' : Shared), Inv X pins σ H1 s' → Grow T H H1 →
      s'.heap.get? f = some (PySem.W.kla_obj "<lambda>" (X.env.qual ++ "<lambda>") params body scope (cloFrom X.env.cells scope.names []) pm c' ctv) → H1 f = none → f ∉ frs X.stack → H1 c' = some (LamX.CodeO c' (X.env.qual ++ "<lambda>")) → Q (.ref f) s') :
    wpAny (model X.prog X.w) X.A (eval (.Lambda params body scope pos) X.env) Q E s := by
  obtain ⟨ps, tP, ht, ha⟩ := hT _ hm
  refine PySem.W.kla_eval defE ?_
  have bmP : s.heap.BuiltinsAt X.mg P := TB.bm.keeps I.bk
  have tP2 : s.heap.get? P = some { cls := .none, data := .fields ps } := I.hok P _ tP
  have outF : ∀ f, s.heap.objs.size ≤ f → f ∉ frs X.stack := fun f hf z => by
    rcases List.mem_cons.mp (I.stkSub _ z) with e | e
    · have h1 := I.lt
      rw [← e] at h1
      exact Nat.lt_irrefl _ (Nat.lt_of_lt_of_le h1 hf)
    · exact I.nofs hf e
  cases hc : codeAmong pos ps.toList with
  | none =>
    refine PySem.W.kla_makeFunction (mg := X.mg) (c := c) (P := P) (ps := ps) (closure_ok freeE) I.ok.glob (I.mod.glob.keeps I.bk) codeE (TB.code.keeps I.bk) tP2 ht hc TB.gP bmP fun c' ctv h' tk hx geE ltE recE tbE => ?_
    obtain ⟨c2, oc, vs, t, e2, hoc, hd, hv⟩ := recE
    cases e2
    have szE : s.heap.objs.size ≤ h'.objs.size := Nat.le_trans geE (Nat.le_of_lt ltE)
    have cNo : H c' = none := I.hok.fresh geE
    have I1 := LamX.inv_table (t' := tk) (more := #[rawInt pos.line, rawInt pos.col, .ref c']) (h' := h'.push (PySem.W.kla_obj "<lambda>" (X.env.qual ++ "<lambda>") params body scope (cloFrom X.env.cells scope.names []) ((X.mg "__name__").getD .none) c' ctv)) I tP
      (fun b o hb e => Heap.get?_push_of_some _ (hx b o hb e)) (Heap.get?_push_of_some _ tbE) geE ⟨oc, vs, t, Heap.get?_push_of_some _ hoc, hd, hv⟩
    have stayE : ∀ b o, H b = some o → nT o → upd (upd H P (.tbl (ps ++ #[rawInt pos.line, rawInt pos.col, .ref c']))) c' (LamX.CodeO c' (X.env.qual ++ "<lambda>")) b = some o := fun b o e n => by
      rw [upd_ne (ne_of_none e cNo), upd_ne (fun z => n ps (Option.some.inj (e.symm.trans (by rw [z]; exact tP))))]
      exact e
    have apE : (ps ++ #[rawInt pos.line, rawInt pos.col, .ref c']).toList = ps.toList ++ [rawInt pos.line, rawInt pos.col, .ref c'] := by simp
    refine h h'.objs.size c' ((X.mg "__name__").getD .none) ctv _ _ I1 ⟨stayE, fun b z => ?_, fun p hp => ?_⟩ (Heap.get?_push_size _ rfl) ?_ (outF _ szE) upd_same
    · by_cases hb : b = c'
      · rw [hb, upd_same]; exact (fun z => nomatch z)
      · rw [upd_ne hb]
        by_cases hb2 : b = P
        · rw [hb2, upd_same]; exact (fun z => nomatch z)
        · rw [upd_ne hb2]; exact z
    · by_cases hb : p.1 = P
      · rw [hu p hp hb, hb]
        refine ⟨_, by rw [upd_ne (ne_of_none tP cNo), upd_same], by rw [apE]; exact PySem.TriplesOk_snoc _ _ _ _ ht, fun p' cv hcv => ?_⟩
        rw [apE] at hcv
        rcases LamX.among_app _ ht hcv with z | z
        · obtain ⟨c0, e1, e2⟩ := ha p' cv z
          exact ⟨c0, e1, stayE _ _ e2 LamX.codeO_ne⟩
        · exact ⟨c', z, upd_same⟩
      · obtain ⟨ps', a1, a2, a3⟩ := hT p hp
        refine ⟨ps', by rw [upd_ne (ne_of_none a1 cNo), upd_ne hb]; exact a1, a2, fun p' cv hcv => ?_⟩
        obtain ⟨c0, e1, e2⟩ := a3 p' cv hcv
        exact ⟨c0, e1, stayE _ _ e2 LamX.codeO_ne⟩
    · have n1 : h'.objs.size ≠ c' := Nat.ne_of_gt ltE
      have n2 : h'.objs.size ≠ P := Nat.ne_of_gt (Nat.lt_of_lt_of_le (Heap.lt_size tP2) szE)
      rw [upd_ne n1, upd_ne n2]
      exact I.hok.fresh szE
  | some cv =>
    obtain ⟨c', e, hco⟩ := ha pos cv hc
    subst e
    refine PySem.W.kla_makeFunctionHit (mg := X.mg) (c := c) (P := P) (ps := ps) (closure_ok freeE) I.ok.glob (I.mod.glob.keeps I.bk) codeE (TB.code.keeps I.bk) tP2 ht hc bmP fun ctv h' tk hx szE => ?_
    have I1 : Inv X pins σ H { s with heap := h'.push (PySem.W.kla_obj "<lambda>" (X.env.qual ++ "<lambda>") params body scope (cloFrom X.env.cells scope.names []) ((X.mg "__name__").getD .none) c' ctv), toks := tk } := I.kept fun b o e => Heap.get?_push_of_some _ (hx b o e)
    exact h h'.objs.size c' ((X.mg "__name__").getD .none) ctv H _ I1 ⟨fun _ _ h _ => h, fun _ h => h, hT⟩ (Heap.get?_push_size _ rfl) (I.hok.fresh szE) (outF _ szE) hco
/-- x(), in the def that got the lambda: Z is that def's context, entered at s -/
theorem pe_run {CXg : CXT} {Eg : XK} {Ng : List Str} {qg : Str} {sg : Scope} {g f c' : Addr} {cdg pm ctv : Value} {params : Arguments} {body : Expr} {scope : Scope} {k i : Nat} {a : Str} {pn : List (Addr × Obj)} {xe : Value → Shared → Prop} {W : WX} {tb : XK → TE} {p1 p2 : Pos}
    (I : Inv X pins σ H s) (L : LamX.LamS X.env.scope scope) (hf : s.heap.get? f = some (PySem.W.kla_obj "<lambda>" (X.env.qual ++ "<lambda>") params body scope (cloFrom X.env.cells scope.names []) pm c' ctv)) (fnE : H f = none) (frE : f ∉ frs X.stack)
    (bindE : bindArgs (PySem.W.kla_fn "<lambda>" (X.env.qual ++ "<lambda>") params body scope (cloFrom X.env.cells scope.names []) pm (.ref c') ctv) ⟨[], []⟩ = pure [])
    (tk : Takes ((cxOf CXg X.prog X.w X.K X.mg X.base Ng qg sg g cdg X.A X.stack s H Eg).tr pn xe) W) (hr : Rm (k + 1) (X.A.deeper (envOfC qg sg s.heap.objs.size g cdg)))
    (bodyP : ∀ (A : Around) (outer : List PySem.Env) (s : Shared) (H : Hp) (E : XK), Rm k (A.deeper (LamX.lamEnv X scope s.heap.objs.size f c')) → PE (LamX.lamCx X A outer s H E scope f c') body (tb E))
    (hN : Ng[i]? = some a) (hv : Vis sg a) (hd : (a == ("__debug__" : Str)) = false := by decide) (cdE : (a == ("__classdict__" : Str)) = false := by decide) :
    PE ((cxOf CXg X.prog X.w X.K X.mg X.base Ng qg sg g cdg X.A X.stack s H Eg).tr pn xe) (.Call (.Name a p1) [] [] p2)
      (fun σW HW Q => σW[i]? = some (some (.ref f)) ∧ HW c' = some (LamX.CodeO c' (X.env.qual ++ "<lambda>")) ∧ ∃ E : XK, (∀ cls d H', E cls d H' → W cls d σW H') ∧ tb E σ HW Q) := by
  refine ⟨fun pinsW sW σW HW Q IW h => ?_⟩
  obtain ⟨hs, hc, E, hW, ht⟩ := h
  refine wpAny_Call_Name_kw (thn ((pe_var (pos := p1) (i := i) hN hv hd cdE).run pinsW sW σW HW (fun v H1 => v = .ref f ∧ H1 = HW) IW ⟨.ref f, hs, rfl, rfl⟩) fun u s1 ⟨v, H1, I1, r1, q1⟩ => ?_)
  obtain ⟨ev, eH⟩ := q1
  subst ev
  rw [eH] at I1
  obtain rfl : u = Value.ref f := r1
  have of1 : s1.heap.get? f = some (PySem.W.kla_obj "<lambda>" (X.env.qual ++ "<lambda>") params body scope (cloFrom X.env.cells scope.names []) pm c' ctv) := I1.base.keep f _ hf fnE frE (fun z => nomatch (show f ∈ ([] : List Addr) from z))
  refine PySem.W.callWith_F0 ⟨_, _, _, _, of1⟩ ?_
  have un : Un (frs X.stack) [] H HW s.heap s1.heap := I1.base
  obtain ⟨⟨oc, vs, t, hoc, hdc, hvc⟩, _, _⟩ := I1.hok c' _ hc
  have rc : codeAny (model X.prog X.w) (X.A.deeper (envOfC qg sg s.heap.objs.size g cdg)) (.call (.ref f) ⟨[], []⟩) (CR (L2.CX X.prog X.w) (envOfC qg sg s.heap.objs.size g cdg :: X.stack) X.prog X.w HW s1 Q E) s1 := by
    refine PySem.W.kla_callFunE hr.rm.depth of1 rfl L.co L.gen rfl ⟨c', oc, vs, t, rfl, hoc, hdc, hvc⟩ ?_
    rw [bindE]
    refine wpAny_pure (wpAny_newFunctionEnv (fun y hy => (L.own y hy).2) (fun y hy => absurd hy (by simp)) (fun h₁ hns hsb => ⟨I1.nolimit.fresh _ hsb, ?_⟩) L.kind)
    show codeAny _ _ (.expr body (LamX.lamEnv X scope s1.heap.objs.size f c')) _ _
    have kp : ∀ b o, s1.heap.get? b = some o → h₁.get? b = some o := fun b o e => hsb.extBut b o (Nat.ne_of_lt (Heap.lt_size e)) (Heap.get?_push_of_some _ e)
    have J : Inv (LamX.lamCx X (X.A.deeper (envOfC qg sg s.heap.objs.size g cdg)) (envOfC qg sg s.heap.objs.size g cdg :: X.stack) s1 HW E scope f c') [] σ HW { s1 with heap := h₁, toks := s1.toks + ([] : List (Str × Value)).length } :=
      LamX.lam_start2 I L I1.env0 hr.rm.hd un hns kp
    refine PySem.W.kla_codeExpr (wpAny_mono ((bodyP _ _ s1 HW E (hr.deeper _)).run [] _ _ HW Q J ht) (fun v s' hq => ?_) fun e s' hq => hq)
    obtain ⟨w', H', J', rv, q⟩ := hq
    exact ⟨w', H', J'.os, J'.bare, J'.base, J'.hok, rv, q⟩
  refine wpAny_call (codeAny_mono rc fun r s' hq => ?_)
  cases r with
  | error e => exact tk e s' (XE.of_call I1 (fun cls d H' h => hW cls d H' h) hq)
  | ok fl =>
    cases fl with
    | ret u => exact I1.after hq
    | next => exact False.elim hq
    | brk => exact False.elim hq
    | cont => exact False.elim hq
end
theorem run_at {CX : CXT} {P : Program} {w : World} {K : PySem.W.Frag} {mg : Str → Option Value} {base : Heap} {k : Nat} {f : Addr} {name qual : Str} {params : Arguments} {body : List Stmt} {scope : Scope} {dV kV doc pm cdv ct oc : Value} {an od : Option Addr}
    {osl : Array (Option Value)} {N ps : List Str} (lkE : K.lookup f = some ⟨oc, od, .func (PySem.W.fnOf name qual params body scope dV kV doc pm an cdv ct), osl⟩) (cdE : PySem.W.codeIn K cdv qual = true) (S : FnScope N ps scope)
    {A : Around} {outer : List PySem.Env} {s : Shared} {H : Hp} {args : Args} {us : List Value} {vs : List V} {Q : VK} {E : XK} (hr : Rm (k + 1) A) (e0 : Env0 P w K mg base A outer s H) (hb : BindsTo s (PySem.W.fnOf name qual params body scope dV kV doc pm an cdv ct) args (ps.zip us)) (r : Vals vs us) (hl : vs.length = ps.length)
    (bodyP : Rm k (A.deeper (envOfC qual scope s.heap.objs.size f cdv)) → ∃ t, PSs (cxOf CX P w K mg base N qual scope f cdv A outer s H E) body t ∧ t { nx := fun _ H' => Q .non H', rt := Q } (L2.start N vs) H) :
    codeAny (model P w) A (.call (.ref f) args) (CR CX outer P w H s Q E) s := by
  have KX : K.In s.heap := e0.mod.kin.keeps fun b o e => (e0.bs b o e).1
  have lim : s.heap.NoLimit := e0.mod.nolimit.keeps fun b o e => (e0.bs b o e).1
  have kindE : ∀ y ∈ ps.zip us, scope.names.lookup y.1 = some .local ∨ (scope.names.lookup y.1 = some .cell ∧ ((cellsFrom (s.heap.objs.size + 1) scope.names []).lookup y.1).isSome = true) := fun ⟨n, v⟩ hy => by
    rcases S.par n (List.of_mem_zip hy).1 with q | q
    · exact .inl q
    · exact .inr ⟨q, PySem.W.cellsFrom_some _ _ _ (.inl q)⟩
  refine codeAny_call_function hr.rm.depth (KX _ _ lkE) rfl S.co S.gen rfl (PySem.W.codeRec_of KX cdE) (hb _ _ _ _ ?_)
  refine wpAny_newFunctionEnv_cells S.kind kindE fun env he s1 x => ?_
  subst he
  refine ⟨lim.keeps x.toInCall.keep, codeAny_func ?_⟩
  obtain ⟨t, ht, hq⟩ := bodyP (hr.deeper _)
  have I : Inv (cxOf CX P w K mg base N qual scope f cdv A outer s H E) [] (L2.start N vs) H s1 := inv_start S hr.rm.hd e0 hl r x
  refine wpAny_mono (ht.run [] s1 (L2.start N vs) H _ I hq) (fun fl s' hs => ?_) fun e s' hs => hs
  have fin : ∀ {σ' : L2.St} {H' : Hp} {v : V} {u : Value}, Inv (cxOf CX P w K mg base N qual scope f cdv A outer s H E) [] σ' H' s' → L2.RelV v u → Q v H' → CE outer P w H s Q u s' :=
    fun {σ' H' v u} J rv q => ⟨v, H', J.os, J.bare, J.base, J.hok, rv, q⟩
  cases fl with
  | ret u =>
    obtain ⟨v, σ', H', J, rv, q⟩ := hs
    exact fin J rv q
  | next =>
    obtain ⟨σ', H', J, q⟩ := hs
    exact fin (v := V.non) (u := Value.none) J rfl q
  | brk =>
    obtain ⟨_, _, _, q⟩ := hs
    exact False.elim q
  | cont =>
    obtain ⟨_, _, _, q⟩ := hs
    exact False.elim q
/-- the def that calls what it got: a calls it; TT: what it makes of the lambda's reading -/
def Gives (prog : Program) (w : World) (K : PySem.W.Frag) (mg : Str → Option Value) (base : Heap) (A0 : Around) (stack : List PySem.Env) (kk : Nat) (Ng : List Str) (x : Str) (sg : Scope) (g : Addr) (cdg : Value) (bg : List Stmt) (a : Str) (q : Str) (TT : (XK → Hp → VK → Prop) → Hp → VK → Prop) : Prop :=
  ∀ (f c' : Addr) (s : Shared) (H : Hp) (Q : VK) (tl : XK → Hp → VK → Prop), Rm kk (A0.deeper (envOfC x sg s.heap.objs.size g cdg)) →
    (∀ (W : WX) (pn : List (Addr × Obj)) (xe : Value → Shared → Prop) (p1 p2 : Pos), Takes ((cxOf C8.CX0 prog w K mg base Ng x sg g cdg A0 stack s H C8.E0).tr pn xe) W →
      PE ((cxOf C8.CX0 prog w K mg base Ng x sg g cdg A0 stack s H C8.E0).tr pn xe) (.Call (.Name a p1) [] [] p2) (fun σW HW Q => σW[0]? = some (some (.ref f)) ∧ HW c' = some (LamX.CodeO c' q) ∧ ∃ E : XK, (∀ cls d H', E cls d H' → W cls d σW H') ∧ tl E HW Q)) →
    H c' = some (LamX.CodeO c' q) → TT tl H Q →
    ∃ t, PSs (cxOf C8.CX0 prog w K mg base Ng x sg g cdg A0 stack s H C8.E0).nox bg t ∧ t { nx := fun _ H' => Q .non H', rt := Q } (L2.start Ng [.ref f]) H
section
variable {X : Cx}
/-- x(lambda: body) -/
theorem pe_word {T : List (Addr × Str)} {TT : (XK → Hp → VK → Prop) → Hp → VK → Prop} {x a : Str} {g c P : Addr} {k : Nat} {pg : Arguments} {bg : List Stmt} {sg : Scope} {dV kV doc pm cdv ct oc : Value} {an od : Option Addr} {osl : Array (Option Value)} {Ng : List Str}
    {params : Arguments} {body : Expr} {scope : Scope} {t : XK → TE} {p lpos pos : Pos} (hg : Gl X x) (hm : X.mg x = some (.ref g)) (hk : PySem.W.keepIn X.K (.ref g) = true)
    (lkE : X.K.lookup g = some ⟨oc, od, .func (PySem.W.fnOf x x pg bg sg dV kV doc pm an cdv ct), osl⟩) (cgE : PySem.W.codeIn X.K cdv x = true) (hb : L2.Binds X.K (PySem.W.fnOf x x pg bg sg dV kV doc pm an cdv ct) [a] []) (Sg : FnScope Ng [a] sg) (ngE : Ng[0]? = some a) (visE : Vis sg a)
    (givE : Gives X.prog X.w X.K X.mg X.base X.A X.stack (k + 1) Ng x sg g cdv bg a (X.env.qual ++ "<lambda>") TT)
    (TB : LamX.TabB X.base X.mg c P) (codeE : X.env.code = .ref c) (tabE : (P, X.env.qual ++ "<lambda>") ∈ T) (hu : ∀ p ∈ T, p.1 = P → p.2 = X.env.qual ++ "<lambda>") (hr : Rm (k + 2) X.A) (L : LamX.LamS X.env.scope scope) (defE : defaultsOf params X.env = ([], []))
    (bindE : ∀ (q : Str) (cl : List (Str × Addr)) (pm cv ctv : Value), bindArgs (PySem.W.kla_fn "<lambda>" q params body scope cl pm cv ctv) ⟨[], []⟩ = pure [])
    (bodyP : ∀ (A : Around) (outer : List PySem.Env) (s : Shared) (H : Hp) (E : XK) (f c' : Addr), Rm k (A.deeper (LamX.lamEnv X scope s.heap.objs.size f c')) → PE (LamX.lamCx X A outer s H E scope f c') body (t E))
    (dbE : (x == ("__debug__" : Str)) = false := by decide) (hd : (a == ("__debug__" : Str)) = false := by decide) (cdE : (a == ("__classdict__" : Str)) = false := by decide) :
    PE X (.Call (.Name x p) [.Lambda params body scope lpos] [] pos) (fun σ H Q => LamX.Tabs T H ∧ ∀ H1, Grow T H H1 → TT (fun E H' Q' => t E σ H' Q') H1 Q) := by
  refine ⟨fun pins s σ H Q I h => ?_⟩
  obtain ⟨hT, h⟩ := h
  refine wpAny_Call_Name_kw (ld_glob I hg hm ?_ dbE)
  refine PySem.W.callWith_K (h₀ := X.base) I.ok.mod.kin hk ?_ (by rfl) (by rfl)
  show wpAny _ _ (spliced ((false, eval (.Lambda params body scope lpos) X.env) :: backTo pos (starEach [] X.env))) _ _ s
  refine Calls.spliced_cons (lam_mk I TB codeE tabE hu hT defE (L.has I.ok) fun f c' pm' ctv H1 s' I1 eN hf fnE frE hco => ?_)
  refine Calls.spliced_nil ⟨I1.kIn, ?_⟩
  have rc : codeAny (model X.prog X.w) X.A (.call (.ref g) ⟨[.ref f], []⟩) (CR C8.CX0 X.stack X.prog X.w H1 s' Q C8.E0) s' := by
    refine run_at (N := Ng) (ps := [a]) (us := [.ref f]) (vs := [.ref f]) lkE cgE Sg hr I1.env0 (hb s' [.ref f] I1.kIn rfl) (.cons rfl .nil) rfl fun hr' => ?_
    obtain ⟨t', ht', hq'⟩ := givE f c' s' H1 Q (fun E H' Q' => t E σ H' Q') hr' (fun W pn xe p1 p2 tk => pe_run (i := 0) (tb := t) I1 L hf fnE frE (bindE _ _ _ _ _) tk hr' (fun A outer s H E hr2 => bodyP A outer s H E f c' hr2) ngE visE hd cdE) hco (h H1 eN)
    exact ⟨t', ht'.nox, hq'⟩
  refine wpAny_call (codeAny_mono rc fun r s2 hq => ?_)
  cases r with
  | error e => exact (show False from hq).elim
  | ok fl =>
    cases fl with
    | ret u => exact I1.after hq
    | next => exact False.elim hq
    | brk => exact False.elim hq
    | cont => exact False.elim hq
end
end Mi
set_option Elab.async false
set_option linter.all false
set_option maxRecDepth 100000
set_option maxHeartbeats 4000000
namespace Mi
open PySem
/-- a comprehension that leaves all slots as they were -/
theorem comp_pure {vs : List Nat} {turn : Itm → Env → Option (Option D × Env)} {f : Itm → Option D} : ∀ {its : List Itm} {acc : List D} {ρ : Env}, (∀ it ∈ its, ∃ ρ', turn it (wipeE ρ vs) = some (f it, ρ') ∧ back ρ ρ' vs = ρ) →
    compGo vs turn its acc ρ = some (acc ++ its.filterMap f, ρ)
  | [], acc, ρ, h => by simp [compGo]
  | d :: ds, acc, ρ, h => by
    obtain ⟨ρ', e, b⟩ := h d List.mem_cons_self
    have ih : ∀ acc, compGo vs turn ds acc ρ = some (acc ++ ds.filterMap f, ρ) := fun acc => comp_pure fun it hit => h it (List.mem_cons_of_mem _ hit)
    unfold compGo
    rw [e]
    cases q : f d with
    | none => dsimp only; rw [b, ih, List.filterMap_cons_none q]
    | some x => dsimp only; rw [b, ih, List.filterMap_cons_some q, List.append_assoc]; rfl
/-- a comprehension whose turns change slots: I by the turn, what is gathered, the slots -/
theorem comp_ind {vs : List Nat} {turn : Itm → Env → Option (Option D × Env)} (I : Nat → List D → Env → Prop) {its : List Itm} {ρ : Env} (h0 : I 0 [] ρ)
    (h : ∀ i it acc ρ, its[i]? = some it → I i acc ρ → ∃ x ρ', turn it (wipeE ρ vs) = some (some x, ρ') ∧ I (i + 1) (acc ++ [x]) (back ρ ρ' vs)) : ∃ acc ρ', compGo vs turn its [] ρ = some (acc, ρ') ∧ I its.length acc ρ' := by
  have gen : ∀ (l : List Itm) (i : Nat) (acc : List D) (ρ : Env), l = its.drop i → I i acc ρ → i ≤ its.length → ∃ acc' ρ', compGo vs turn l acc ρ = some (acc', ρ') ∧ I its.length acc' ρ' := by
    intro l
    induction l with
    | nil =>
      intro i acc ρ e hi hl
      have : its.length ≤ i := by
        have := congrArg List.length e
        rw [List.length_drop] at this
        simp at this
        omega
      have : i = its.length := by omega
      subst this
      exact ⟨acc, ρ, rfl, hi⟩
    | cons d ds ih =>
      intro i acc ρ e hi hl
      have hlt : i < its.length := by
        have := congrArg List.length e
        rw [List.length_drop] at this
        simp at this
        omega
      rw [List.drop_eq_getElem_cons hlt] at e
      cases e
      obtain ⟨x, ρ', e1, i1⟩ := h i _ acc ρ (List.getElem?_eq_getElem hlt) hi
      obtain ⟨acc2, ρ2, e2, i2⟩ := ih (i + 1) (acc ++ [x]) _ rfl i1 hlt
      exact ⟨acc2, ρ2, by unfold compGo; rw [e1]; exact e2, i2⟩
  exact gen its 0 [] ρ rfl h0 (Nat.zero_le _)
mutual
/-- without flags and texts -/
def pl : D → Bool
  | .non => true | .int _ => true
  | .tup l => pls l
  | .lst l => pls l
  | _ => false
def pls : List D → Bool
  | [] => true
  | d :: r => pl d && pls r
end
mutual
def dpt : D → Nat
  | .tup l => dpts l + 1
  | .lst l => dpts l + 1
  | _ => 0
def dpts : List D → Nat
  | [] => 0
  | d :: r => max (dpt d) (dpts r)
end
mutual
theorem pl_py : ∀ {d : D}, pl d = true → ∃ x, toPy d = some x ∧ PyData.canLay0 x = true ∧ PyData.depth x = dpt d
  | .non, _ => ⟨.none, rfl, rfl, rfl⟩
  | .int i, _ => ⟨.int i, rfl, rfl, rfl⟩
  | .tup l, h => by
    unfold pl at h
    obtain ⟨xs, e, c, d⟩ := pls_py h
    exact ⟨.tuple xs, by simp [toPy, e], by simpa [PyData.canLay0] using c, by simp [PyData.depth, dpt, d]⟩
  | .lst l, h => by
    unfold pl at h
    obtain ⟨xs, e, c, d⟩ := pls_py h
    exact ⟨.list xs, by simp [toPy, e], by simpa [PyData.canLay0] using c, by simp [PyData.depth, dpt, d]⟩
  | .bl _, h => by unfold pl at h; cases h
  | .str _, h => by unfold pl at h; cases h
  | .ty _, h => by unfold pl at h; cases h
  | .ins _ _ _, h => by unfold pl at h; cases h
  | .scr _, h => by unfold pl at h; cases h
theorem pls_py : ∀ {l : List D}, pls l = true → ∃ xs, toPys l = some xs ∧ PyData.canLayAll0 xs = true ∧ PyData.depthAll xs = dpts l
  | [], _ => ⟨[], rfl, rfl, rfl⟩
  | d :: r, h => by
    unfold pls at h
    rw [Bool.and_eq_true] at h
    obtain ⟨x, e1, c1, d1⟩ := pl_py h.1
    obtain ⟨xs, e2, c2, d2⟩ := pls_py h.2
    exact ⟨x :: xs, by simp [toPys, e1, e2], by simp [PyData.canLayAll0, c1, c2], by simp [PyData.depthAll, dpts, d1, d2]⟩
end
mutual
theorem eqv_pl : ∀ {a b : D} {x y : PyData}, pl a = true → pl b = true → toPy a = some x → toPy b = some y → (PyData.eqv x y = true ↔ a = b)
  | .non, b, x, y, _, hb, e1, e2 => by
    cases e1
    cases b with
    | non => cases e2; simp [PyData.eqv]
    | int i => cases e2; simp [PyData.eqv]
    | tup l => simp only [toPy, Option.map_eq_some_iff] at e2; obtain ⟨zs, _, rfl⟩ := e2; simp [PyData.eqv]
    | lst l => simp only [toPy, Option.map_eq_some_iff] at e2; obtain ⟨zs, _, rfl⟩ := e2; simp [PyData.eqv]
    | _ => unfold pl at hb; cases hb
  | .int i, b, x, y, _, hb, e1, e2 => by
    cases e1
    cases b with
    | non => cases e2; simp [PyData.eqv]
    | int j => cases e2; simp [PyData.eqv]
    | tup l => simp only [toPy, Option.map_eq_some_iff] at e2; obtain ⟨zs, _, rfl⟩ := e2; simp [PyData.eqv]
    | lst l => simp only [toPy, Option.map_eq_some_iff] at e2; obtain ⟨zs, _, rfl⟩ := e2; simp [PyData.eqv]
    | _ => unfold pl at hb; cases hb
  | .tup k, b, x, y, ha, hb, e1, e2 => by
    unfold pl at ha
    simp only [toPy, Option.map_eq_some_iff] at e1
    obtain ⟨ks, e1, rfl⟩ := e1
    cases b with
    | non => cases e2; simp [PyData.eqv]
    | int j => cases e2; simp [PyData.eqv]
    | tup l =>
      unfold pl at hb
      simp only [toPy, Option.map_eq_some_iff] at e2
      obtain ⟨zs, e2, rfl⟩ := e2
      have := eqv_pls ha hb e1 e2
      simp [PyData.eqv, this]
    | lst l => simp only [toPy, Option.map_eq_some_iff] at e2; obtain ⟨zs, _, rfl⟩ := e2; simp [PyData.eqv]
    | _ => unfold pl at hb; cases hb
  | .lst k, b, x, y, ha, hb, e1, e2 => by
    unfold pl at ha
    simp only [toPy, Option.map_eq_some_iff] at e1
    obtain ⟨ks, e1, rfl⟩ := e1
    cases b with
    | non => cases e2; simp [PyData.eqv]
    | int j => cases e2; simp [PyData.eqv]
    | lst l =>
      unfold pl at hb
      simp only [toPy, Option.map_eq_some_iff] at e2
      obtain ⟨zs, e2, rfl⟩ := e2
      have := eqv_pls ha hb e1 e2
      simp [PyData.eqv, this]
    | tup l => simp only [toPy, Option.map_eq_some_iff] at e2; obtain ⟨zs, _, rfl⟩ := e2; simp [PyData.eqv]
    | _ => unfold pl at hb; cases hb
  | .bl _, _, _, _, h, _, _, _ => by unfold pl at h; cases h
  | .str _, _, _, _, h, _, _, _ => by unfold pl at h; cases h
  | .ty _, _, _, _, h, _, _, _ => by unfold pl at h; cases h
  | .ins _ _ _, _, _, _, h, _, _, _ => by unfold pl at h; cases h
  | .scr _, _, _, _, h, _, _, _ => by unfold pl at h; cases h
theorem eqv_pls : ∀ {a b : List D} {x y : List PyData}, pls a = true → pls b = true → toPys a = some x → toPys b = some y → (PyData.eqvAll x y = true ↔ a = b)
  | [], [], _, _, _, _, e1, e2 => by cases e1; cases e2; simp [PyData.eqvAll]
  | [], d :: r, _, y, _, hb, e1, e2 => by
    cases e1
    unfold pls at hb
    rw [Bool.and_eq_true] at hb
    obtain ⟨z, f1, _⟩ := pl_py hb.1
    obtain ⟨zs, f2, _⟩ := pls_py hb.2
    simp [toPys, f1, f2] at e2
    subst e2
    simp [PyData.eqvAll]
  | d :: r, [], x, _, ha, _, e1, e2 => by
    cases e2
    unfold pls at ha
    rw [Bool.and_eq_true] at ha
    obtain ⟨z, f1, _⟩ := pl_py ha.1
    obtain ⟨zs, f2, _⟩ := pls_py ha.2
    simp [toPys, f1, f2] at e1
    subst e1
    simp [PyData.eqvAll]
  | d :: r, d' :: r', x, y, ha, hb, e1, e2 => by
    unfold pls at ha hb
    rw [Bool.and_eq_true] at ha hb
    obtain ⟨z, f1, _⟩ := pl_py ha.1
    obtain ⟨zs, f2, _⟩ := pls_py ha.2
    obtain ⟨z', f3, _⟩ := pl_py hb.1
    obtain ⟨zs', f4, _⟩ := pls_py hb.2
    simp [toPys, f1, f2] at e1
    simp [toPys, f3, f4] at e2
    subst e1 e2
    have h1 := eqv_pl ha.1 hb.1 f1 f3
    have h2 := eqv_pls ha.2 hb.2 f2 f4
    simp [PyData.eqvAll, h1, h2]
end
open Classical in
theorem eqD_pl {a b : D} (ha : pl a = true) (hb : pl b = true) (da : dpt a ≤ 64) (db : dpt b ≤ 64) : eqD a b = some (decide (a = b)) := by
  obtain ⟨x, e1, c1, d1⟩ := pl_py ha
  obtain ⟨y, e2, c2, d2⟩ := pl_py hb
  unfold eqD
  rw [e1, e2]
  dsimp only
  have s1 : SeqAt.shaped x = true := by unfold SeqAt.shaped; rw [c1, d1]; simpa using da
  have s2 : SeqAt.shaped y = true := by unfold SeqAt.shaped; rw [c2, d2]; simpa using db
  rw [if_pos ⟨s1, s2⟩]
  congr 1
  exact Bool.eq_iff_iff.mpr ((eqv_pl ha hb e1 e2).trans (by simp))
theorem eqD_self {a : D} (ha : pl a = true) (da : dpt a ≤ 64) : eqD a a = some true := by
  rw [eqD_pl ha ha da da]; simp
theorem eqD_int {i j : Int} : eqD (.int i) (.int j) = some (decide (i = j)) := by
  have h := eqD_pl (a := .int i) (b := .int j) rfl rfl (Nat.zero_le _) (Nat.zero_le _)
  rw [h]
  congr 1
  simp
end Mi
namespace Mi
open PySem
/-- what a def hands back -/
def Fin (io : List Bool) (post : R → List D → Prop) : Fl → Env → Prop
  | .nx, ρ => ∃ o, outsOf io 0 ρ = some o ∧ post (.v .non) o
  | .rt (.v d), ρ => ∃ o, outsOf io 0 ρ = some o ∧ post (.v d) o
  | .rt (.o d), ρ => ∃ o, outsOf io 0 ρ = some o ∧ post (.o d) o
  | _, _ => False
theorem phi_ex {Gm : Cfg} {tab : Nat → Option Fn} {n f : Nat} {F : Fn} {as : List Arg} {post : R → List D → Prop} (ht : tab f = some F) (hio : as.map (·.1) = F.io)
    (h : ∃ fl ρ, evSs Gm (phi Gm tab n) (fixed F.io 0) F.body (as.map some ++ List.replicate (F.ns - F.np) none) = some (fl, ρ) ∧ Fin F.io post fl ρ) : ∃ r o, phi Gm tab (n + 1) f as = some (r, o) ∧ post r o := by
  obtain ⟨fl, ρ, e, h⟩ := h
  unfold phi
  rw [ht]
  dsimp only
  unfold runF
  rw [if_pos hio, e]
  cases fl with
  | nx => obtain ⟨o, eo, p⟩ := h; exact ⟨_, o, by dsimp only; rw [eo]; rfl, p⟩
  | rt r =>
    cases r with
    | v d => obtain ⟨o, eo, p⟩ := h; exact ⟨_, o, by dsimp only; rw [eo]; rfl, p⟩
    | o d => obtain ⟨o, eo, p⟩ := h; exact ⟨_, o, by dsimp only; rw [eo]; rfl, p⟩
    | b s => exact h.elim
  | brk => exact h.elim
  | cnt => exact h.elim
end Mi
set_option Elab.async false
set_option linter.all false
set_option maxRecDepth 100000
set_option maxHeartbeats 4000000
namespace Mi
open PySem PySem.Spec PyProof.Rows L2
/-- what the text must say of an own exception class -/
structure XcC (K : PySem.W.Frag) (D : Addr) : Prop where
  cl : (PySem.W.clsIn K D).isSome = true
  ga : PySem.W.findIn K (.ref D) "__getattribute__" = some (some (.builtin "BaseException.__getattribute__"))
  gt : PySem.W.findIn K (.ref D) "__getattr__" = some none
  su : PySem.W.subIn K (.ref D) (.type "BaseException") = some true
  ct : PySem.W.findIn K (.ref D) "__class__" = some (some (.builtin "object.__class__"))
  sp : PySem.W.specialIn K (.builtin "object.__class__") "__get__" = some (some (.builtin "getset_descriptor.__get__"))
  tk : PySem.W.takesIn K (.builtin "object.__class__") = some true
  mr : PySem.W.mroIn K D (.type "object") = some true
  hd : PySem.W.hasDictIn K D = true
section
variable {X : Cx} {P : TP} {i : Nat} {p p1 p2 pos : Pos}
/-- isinstance(error, c) -/
theorem pe_isx {a D : Addr} {d : Option Addr} {oe : Obj} {pn : List (Addr × Obj)} {e c : Expr} {cc : V} {cv : Value} (hK : X.K = P.K) (hx : P.exc = some (a, D, d)) (C : XcC X.K D) (hz : Zc (.ref D) d oe) (hf : ∃ vs, oe.data = .fields vs)
    (hg : Gl X "isinstance") (hm : X.mg "isinstance" = none) (he : PE (X.suite a ((a, oe) :: pn)) e (tVar i)) (hc : PE (X.suite a ((a, oe) :: pn)) c (tC cc)) (hcv : ∀ u, RelV cc u → u = cv)
    (hs : starEach [e, c] X.env = (false, eval e X.env) :: starEach [c] X.env := by rfl) (hs2 : starEach [c] X.env = (false, eval c X.env) :: starEach [] X.env := by rfl) (hpl : (backTo pos (starEach [c] X.env)).any (·.1) = false := by rfl) :
    PE (X.suite a ((a, oe) :: pn)) (.Call (.Name "isinstance" p) [e, c] [] pos) (tIsx P cv (tVar i)) := by
  have ha : PA (X.suite a ((a, oe) :: pn)) [e, c] (tCons (tVar i) (tCons (tC cc) tNil)) := pa_cons he (pa_cons hc pa_nil hs2) hs
  refine ⟨fun pins s σ H Q I h => ?_⟩
  obtain ⟨v, e1, a2, D2, d2, b, e2, rfl, e3, e4, q⟩ := h
  rw [hx] at e2
  cases e2
  have key : CallR (X.suite a ((a, oe) :: pn)) (.builtin "isinstance") (fun xs H1 Q1 => xs = [.ref a, cc] ∧ H1 = H ∧ Q1 (.bl b) H1) := by
    intro pins2 s2 σ2 H1 xs us Q1 I2 r h
    obtain ⟨rfl, rfl, q1⟩ := h
    cases r with
    | cons rx rr =>
      cases rr with
      | cons rt rr =>
        cases rr
        cases rx
        have ec := hcv _ rt
        subst ec
        obtain ⟨hget, _⟩ := I2.pin (a, oe) (List.mem_append.mpr (.inl List.mem_cons_self))
        obtain ⟨vs, hv⟩ := hf
        obtain ⟨oc, od, oda, osl⟩ := oe
        obtain ⟨z1, z2⟩ := hz
        dsimp only at z1 z2 hv
        subst z1 z2 hv
        rcases e3 with rfl | ⟨dd, fs, rfl, e5⟩
        · have J : PySem.W.InstAt s2.heap a ⟨.ref D, none, .fields vs, osl⟩ D none := ⟨hget, rfl, rfl, trivial⟩
          exact PySem.W.kia_one (PySem.W.kitx_exc C.cl C.ga C.gt C.su C.ct C.sp C.tk C.mr) I2.kIn J (by rw [← hK] at e4; exact e4) (fun z => nomatch z) fun tk => ⟨.bl b, H1, I2.kept (t' := tk) fun _ _ z => z, rfl, q1⟩
        · have hx2 : ObjOk X.prog X.w H1 s2.heap dd (.xd fs) := I2.hok dd _ e5
          obtain ⟨mA, hns, _⟩ := hx2
          obtain ⟨od, ho, _⟩ := lookIn_ns hns
          have J : PySem.W.InstAt s2.heap a ⟨.ref D, some dd, .fields vs, osl⟩ D (some od) := ⟨hget, rfl, rfl, ho⟩
          exact PySem.W.kia_one (PySem.W.kitx_exc C.cl C.ga C.gt C.su C.ct C.sp C.tk C.mr) I2.kIn J (by rw [← hK] at e4; exact e4) (fun z => nomatch z) fun tk => ⟨.bl b, H1, I2.kept (t' := tk) fun _ _ z => z, rfl, q1⟩
  exact (pe_callB (X := X.suite a ((a, oe) :: pn)) key hg hm b_isi ha (by decide) (by decide) hs hpl).run pins s σ H Q I ⟨.ref a, e1, rfl, rfl, q⟩
end
abbrev TP.withX (P : TP) (a CA : Addr) (d : Option Addr) : TP := { P with exc := some (a, CA, d) }
mutual
theorem RepV.unX {P : TP} {A A' : AP} {H : Hp} {a CA : Addr} {dd : Option Addr} : ∀ {d : D} {v : V}, still d = true → RepV (P.withX a CA dd) A H d v → RepV P A' H d v
  | .non, _, _, h => by unfold RepV at h ⊢; exact h
  | .bl _, _, _, h => by unfold RepV at h ⊢; exact h
  | .int _, _, _, h => by unfold RepV at h ⊢; exact h
  | .str _, _, _, h => by unfold RepV at h ⊢; exact h
  | .ty _, _, _, h => by unfold RepV at h ⊢; exact h
  | .tup ds, _, s, h => by
    unfold RepV at h ⊢
    unfold still at s
    obtain ⟨a, vs, e, hs, hz, hr⟩ := h
    exact ⟨a, vs, e, hs, hz, RepVs.unX s hr⟩
  | .lst ds, _, s, h => by unfold still at s; cases s
  | .ins C ns ds, _, s, h => by unfold still at s; cases s
  | .dct ks ds, _, s, h => by unfold still at s; cases s
  | .scr ns, _, s, h => by unfold still at s; cases s
  | .fn i, _, s, h => by unfold RepV at h ⊢; exact h
  | .exc C ns ds, _, s, h => by unfold still at s; cases s
theorem RepVs.unX {P : TP} {A A' : AP} {H : Hp} {a CA : Addr} {dd : Option Addr} : ∀ {ds : List D} {vs : List V}, stills ds = true → RepVs (P.withX a CA dd) A H ds vs → RepVs P A' H ds vs
  | [], _, _, h => by unfold RepVs at h ⊢; exact h
  | d :: ds, _, s, h => by
    unfold RepVs at h ⊢
    unfold stills at s
    rw [Bool.and_eq_true] at s
    obtain ⟨v, r, e, h1, h2⟩ := h
    exact ⟨v, r, e, RepV.unX s.1 h1, RepVs.unX s.2 h2⟩
end
mutual
theorem RepV.toX {P : TP} {A : AP} {H : Hp} {a CA : Addr} {dd : Option Addr} (hx : P.exc = none) : ∀ {d : D} {v : V}, RepV P A H d v → RepV (P.withX a CA dd) A H d v
  | .non, _, h => by unfold RepV at h ⊢; exact h
  | .bl _, _, h => by unfold RepV at h ⊢; exact h
  | .int _, _, h => by unfold RepV at h ⊢; exact h
  | .str _, _, h => by unfold RepV at h ⊢; exact h
  | .ty _, _, h => by unfold RepV at h ⊢; exact h
  | .tup ds, _, h => by
    unfold RepV at h ⊢
    obtain ⟨a, vs, e, hs, hz, hr⟩ := h
    exact ⟨a, vs, e, hs, hz, RepVs.toX hx hr⟩
  | .lst ds, _, h => by
    unfold RepV at h ⊢
    obtain ⟨a, vs, e, hs, hn, hz, hr⟩ := h
    exact ⟨a, vs, e, hs, hn, hz, RepVs.toX hx hr⟩
  | .ins C ns ds, _, h => by
    unfold RepV at h ⊢
    obtain ⟨a, dx, vs, e, hs, hl, hn, hr⟩ := h
    exact ⟨a, dx, vs, e, hs, hl, hn, RepVs.toX hx hr⟩
  | .dct ks ds, _, h => by
    unfold RepV at h ⊢
    obtain ⟨a, vs, e, hs, hl, hn, hr⟩ := h
    exact ⟨a, vs, e, hs, hl, hn, RepVs.toX hx hr⟩
  | .scr ns, _, h => by unfold RepV at h ⊢; exact h
  | .fn i, _, h => by unfold RepV at h ⊢; exact h
  | .exc C ns ds, _, h => by
    unfold RepV at h
    obtain ⟨a, d, e, _⟩ := h
    rw [hx] at e
    cases e
theorem RepVs.toX {P : TP} {A : AP} {H : Hp} {a CA : Addr} {dd : Option Addr} (hx : P.exc = none) : ∀ {ds : List D} {vs : List V}, RepVs P A H ds vs → RepVs (P.withX a CA dd) A H ds vs
  | [], _, h => by unfold RepVs at h ⊢; exact h
  | d :: ds, _, h => by
    unfold RepVs at h ⊢
    obtain ⟨v, r, e, h1, h2⟩ := h
    exact ⟨v, r, e, RepV.toX hx h1, RepVs.toX hx h2⟩
end
theorem pe_weak {X : Cx} {e : Expr} {t : TE} (h : PE X e t) : PE X e (fun σ H Q => ∃ VW : VK, (∀ v H1, VW v H1 → Q v H1) ∧ t σ H VW) :=
  ⟨fun pins s σ H Q I ⟨VW, hv, h1⟩ => thn (h.run pins s σ H VW I h1) fun u s1 ⟨v, H1, I1, r1, q⟩ => ⟨v, H1, I1, r1, hv v H1 q⟩⟩
inductive WK | expr | asg (i : Nat) (tag : Option Str) | ret (tag : Option Str)
/-- a def that calls what it got: slots, the error's slot, the class that it catches, the slots when it calls, what it does with a value, its suite, what stands behind -/
structure WF where
  ns : Nat
  ei : Nat
  pe : Nat
  pre : Ss
  ρ0 : Env
  kind : WK
  suite : Ss
  rest : Ss
abbrev noPhi : Phi := fun _ _ => none
def tagD : Option Str → D → D
  | none, d => d
  | some s, d => .tup [.str s, d]
def restR (Gm0 : Cfg) (F : WF) (ρ : Env) : Option D := match evSs Gm0 noPhi [] F.rest ρ with
  | some (.rt (.v d), _) => some d
  | _ => none
def wdOf (Gm0 : Cfg) (F : WF) : Wd where
  onX x := if Gm0.sub x.C F.pe = some true then match evSs Gm0 noPhi [] F.suite (F.ρ0.set F.ei (some (false, .exc x.C x.ns x.ds))) with
      | some (.rt (.v d), _) => some d
      | some (.nx, ρ) => restR Gm0 F (ρ.set F.ei none)
      | _ => none
    else none
  onV dv := match F.kind with
    | .expr => restR Gm0 F F.ρ0
    | .asg i tag => restR Gm0 F (F.ρ0.set i (some (false, tagD tag dv)))
    | .ret tag => some (tagD tag dv)
def stillE (ρ : Env) : Bool := ρ.all fun s => match s with
  | none => true
  | some (o, d) => !o && still d
theorem stillE_get {ρ : Env} (h : stillE ρ = true) {i : Nat} {o : Bool} {d : D} (e : eget ρ i = some (o, d)) : o = false ∧ still d = true := by
  unfold eget at e
  cases q : ρ[i]? with
  | none => rw [q] at e; cases e
  | some y =>
    rw [q] at e
    obtain rfl : y = some (o, d) := e
    have := List.all_eq_true.mp h _ (List.mem_of_getElem? q)
    dsimp only at this
    rw [Bool.and_eq_true] at this
    exact ⟨(by cases o; rfl; cases this.1), this.2⟩
theorem still_im {P : TP} {A A' : AP} {H H' : Hp} {d : D} {v : V} (s : still d = true) (k : KM H H') (h : RepV P A H d v) : RepV P A' H' d v := by
  have h1 : RepV P (fun a => ∃ o, H a = some o ∧ isMut o = true) H d v := RepV.still s h
  have h2 : RepV P (fun _ => False) H' d v := h1.kp (Wr := fun a => ∃ o, H a = some o ∧ isMut o = true) ⟨fun a o e nt n => k a o e (by
    cases q : isMut o with
    | false => rfl
    | true => exact absurd ⟨o, e, q⟩ n) nt, fun a z => z, fun a z => z, fun a z => z.elim⟩
  exact RepV.still s h2
abbrev nob : AP := fun _ => False
theorem rel_still {P : TP} {O W A : AP} {H H' : Hp} {σ : L2.St} {ρ : Env} {a CA : Addr} {dd : Option Addr} (hx : P.exc = none) (L : Rel P O W H σ ρ) (s : stillE ρ = true) (k : KM H H') (ht : LamX.Tabs P.tabs H') (ho : ∀ a, A a → H' a ≠ none) : Rel (P.withX a CA dd) A nob H' σ ρ :=
  ⟨L.len, fun _ z => z.elim, ho, fun _ z => z.elim, fun i d e => let ⟨v, e1, r⟩ := L.fro i d e; ⟨v, e1, RepV.toX hx (still_im (stillE_get s e).2 k r)⟩, fun i d e => (nomatch (stillE_get s e).1), fun i j a di dj e => (nomatch (stillE_get s e).1), ht⟩
theorem CfgOk.withX {P : TP} {Gm0 : Cfg} {a CA : Addr} {d : Option Addr} (ok : CfgOk P Gm0) (hx : P.exc = none) : CfgOk (P.withX a CA d) Gm0 :=
  ⟨fun x d e A H => RepV.toX hx (ok.glob x d e A H), ok.flds, ok.word, ok.sub, ok.subB, ok.xfld, ok.fn, ok.isk⟩
section
variable {P : TP} {Gm0 : Cfg} {F : WF} {a CA : Addr} {d : Option Addr} {O W : AP} {H0 H1 : Hp} {σ : L2.St} {ρ : Env}
theorem rest_ok {dr : D} {Q : VK} (ok : CfgOk (P.withX a CA d) Gm0) (lo : LoopOk Gm0) (e : restR Gm0 F ρ = some dr) (L : Rel (P.withX a CA d) O W H1 σ ρ) (hno : ∀ b, OwnA σ ρ b → H0 b = none) (st : still dr = true) (ans : Ans P dr H0 Q) (g : Grow P.tabs H0 H1) :
    tSs (P.withX a CA d) (spec (P.withX a CA d) noPhi) F.rest E0 { nx := fun _ H' => Q .non H', rt := Q } σ H1 := by
  unfold restR at e
  cases q : evSs Gm0 noPhi [] F.rest ρ with
  | none => rw [q] at e; cases e
  | some x =>
    obtain ⟨fl, ρ1⟩ := x
    rw [q] at e
    refine soundB ok lo F.rest O W H1 σ ρ ρ1 fl L q _ fun σ1 W1 H2 L1 s1 => ?_
    cases fl with
    | rt r =>
      cases r with
      | v dv =>
        cases e
        exact fun v hv => ans v H2 ⟨fun b o e nt => s1.keep b o (g.keep b o e nt) nt fun z => (by rw [hno b z] at e; cases e), fun b n => s1.alive b (g.alive b n), L1.tabs⟩ (RepV.unX st (show RepV (P.withX a CA d) (Av O W1) H2 dr v from hv))
      | o _ => cases e
      | b _ => cases e
    | nx => cases e
    | brk => cases e
    | cnt => cases e
theorem own_still (s : stillE ρ = true) (b : Addr) : ¬ OwnA σ ρ b := fun ⟨_, _, e, _⟩ => nomatch (stillE_get s e).1
theorem own_set (s : stillE ρ = true) {i : Nat} {x : D} {v : V} (b : Addr) : ¬ OwnA (σ.set i (some v)) (ρ.set i (some (false, x))) b := fun ⟨j, _, e, _⟩ => by
  rw [eget_set] at e
  by_cases h : j = i ∧ i < ρ.length
  · rw [if_pos h] at e; cases e
  · rw [if_neg h] at e; exact nomatch (stillE_get s e).1
theorem rel_out {i : Nat} (L : Rel P O W H1 σ ρ) : Rel P O W H1 (σ.set i none) (ρ.set i none) ∧ ∀ b, OwnA (σ.set i none) (ρ.set i none) b → OwnA σ ρ b := by
  have g : ∀ j x, eget (ρ.set i none) j = some x → j ≠ i ∧ eget ρ j = some x := fun j x e => by
    rw [eget_set] at e
    by_cases h : j = i ∧ i < ρ.length
    · rw [if_pos h] at e; cases e
    · rw [if_neg h] at e
      refine ⟨fun z => ?_, e⟩
      subst z
      exact h ⟨rfl, eget_lt e⟩
  refine ⟨⟨by rw [List.length_set, List.length_set]; exact L.len, L.wmut, L.oal, L.ow, fun j x e => ?_, fun j x e => ?_, fun j k b x y e1 e2 f1 f2 => ?_, L.tabs⟩, fun b ⟨j, x, e, f⟩ => ?_⟩
  · obtain ⟨n, e⟩ := g j _ e
    obtain ⟨v, e1, r⟩ := L.fro j x e
    exact ⟨v, by rw [List.getElem?_set_ne (Ne.symm n)]; exact e1, r⟩
  · obtain ⟨n, e⟩ := g j _ e
    obtain ⟨b, e1, w, r⟩ := L.own j x e
    exact ⟨b, by rw [List.getElem?_set_ne (Ne.symm n)]; exact e1, w, r⟩
  · obtain ⟨n1, e1⟩ := g j _ e1
    obtain ⟨n2, e2⟩ := g k _ e2
    rw [List.getElem?_set_ne (Ne.symm n1)] at f1
    rw [List.getElem?_set_ne (Ne.symm n2)] at f2
    exact L.inj j k b x y e1 e2 f1 f2
  · obtain ⟨n, e⟩ := g j _ e
    rw [List.getElem?_set_ne (Ne.symm n)] at f
    exact ⟨j, x, e, f⟩
theorem rel_none {H : Hp} {n : Nat} (hl : σ.length = n) (tb : LamX.Tabs P.tabs H) : Rel P nob nob H σ (List.replicate n none) := by
  have g : ∀ i x, eget (List.replicate n (none : Option (Bool × D))) i = some x → False := fun i x e => by
    unfold eget at e
    cases q : (List.replicate n (none : Option (Bool × D)))[i]? with
    | none => rw [q] at e; cases e
    | some y =>
      rw [q] at e
      have := List.eq_of_mem_replicate (List.mem_of_getElem? q)
      subst this
      cases e
  exact ⟨by rw [List.length_replicate, hl], fun _ z => z.elim, fun _ z => z.elim, fun _ z => z.elim, fun i d e => (g i _ e).elim, fun i d e => (g i _ e).elim, fun i j a x y e => (g i _ e).elim, tb⟩
def tRest (P : TP) (F : WF) : TS := fun D σ H => ∃ a CA d, tSs (P.withX a CA d) (spec (P.withX a CA d) noPhi) F.rest E0 D σ H
def tSuite (P : TP) (F : WF) (a : Addr) (cls : Value) (d : Option Addr) : TS := fun D σ H => ∃ CA, cls = .ref CA ∧ XcC P.K CA ∧ tSs (P.withX a CA d) (spec (P.withX a CA d) noPhi) F.suite E0 D σ H
/-- an exception is caught -/
theorem caught {x : Exc} {dr : D} {Q : VK} {cls : Value} {ax : Addr} (ok : CfgOk P Gm0) (lo : LoopOk Gm0) (hexc : P.exc = none) (hei : F.ei < F.ns) (hl : F.ρ0.length = F.ns) (hs : stillE F.ρ0 = true) (hX : ∀ C, Gm0.sub C F.pe = some true → XcC P.K (P.cls C))
    (L : Rel P O W H0 σ F.ρ0) (km : KM H0 H1) (is : XIs P x cls d H1) (ht : LamX.Tabs P.tabs H1) (e : (wdOf Gm0 F).onX x = some dr) (st : still dr = true) (ans : Ans P dr H1 Q) (D : Ends) (hrt : D.rt = Q) (hnx : ∀ σ' H', tRest P F { nx := fun _ H' => Q .non H', rt := Q } (σ'.set F.ei none) H' → D.nx σ' H') :
    Gm0.sub x.C F.pe = some true ∧ tSuite P F ax cls d D (σ.set F.ei (some (.ref ax))) H1 := by
  unfold wdOf at e
  dsimp only at e
  split at e
  · rename_i hsub
    refine ⟨hsub, P.cls x.C, is.1, hX _ hsub, ?_⟩
    have L1 : Rel (P.withX ax (P.cls x.C) d) nob nob H1 σ F.ρ0 := rel_still hexc L hs km ht fun _ z => z.elim
    obtain ⟨L2, -⟩ := L1.store (i := F.ei) (d := .exc x.C x.ns x.ds) (v := .ref ax) (by rw [hl]; exact hei) (by unfold RepV; exact ⟨ax, d, rfl, rfl, is.2⟩)
    have no : ∀ b, ¬ OwnA (σ.set F.ei (some (.ref ax))) (F.ρ0.set F.ei (some (false, .exc x.C x.ns x.ds))) b := own_set hs
    cases q : evSs Gm0 noPhi [] F.suite (F.ρ0.set F.ei (some (false, .exc x.C x.ns x.ds))) with
    | none => rw [q] at e; cases e
    | some y =>
      obtain ⟨fl, ρ1⟩ := y
      rw [q] at e
      refine soundB (ok.withX hexc) lo F.suite nob nob H1 _ _ ρ1 fl L2 q D fun σ1 W1 H2 L3 s3 => ?_
      have g : Grow P.tabs H1 H2 := ⟨fun b o e nt => s3.keep b o e nt (no b), s3.alive, L3.tabs⟩
      cases fl with
      | rt r =>
        cases r with
        | v dv =>
          cases e
          intro v hv
          rw [hrt]
          exact ans v H2 g (RepV.unX st (show RepV (P.withX ax (P.cls x.C) d) (Av nob W1) H2 dr v from hv))
        | o _ => cases e
        | b _ => cases e
      | nx =>
        obtain ⟨L4, ho⟩ := rel_out (i := F.ei) L3
        exact hnx σ1 H2 ⟨ax, P.cls x.C, d, rest_ok (ok.withX hexc) lo e L4 (fun b z => (s3.own b (ho b z)).elim (fun z => absurd z (no b)) fun z => z) st ans g⟩
      | brk => cases e
      | cnt => cases e
  · cases e
end
def tKind : WK → TE → TS
  | .expr, te => tDrop te
  | .asg i none, te => tAsg te (gName i)
  | .asg i (some s), te => tAsg (tTupN (tCons (tC (.str s)) (tCons te tNil))) (gName i)
  | .ret none, te => tRet te
  | .ret (some s), te => tRet (tTupN (tCons (tC (.str s)) (tCons te tNil)))
def TTg (P : TP) (f : Nat) (tl : XK → Hp → VK → Prop) (H : Hp) (Q : VK) : Prop := LamX.Tabs P.tabs H ∧ ∀ H1, Grow P.tabs H H1 → ∃ wd, P.wd f = some wd ∧ TTw P wd tl H1 Q
abbrev ZC (prog : Program) (w : World) (K : PySem.W.Frag) (mg : Str → Option Value) (base : Heap) (A0 : Around) (stack : List PySem.Env) (Ng : List Str) (x : Str) (sg : Scope) (g : Addr) (cdg : Value) (s : Shared) (H : Hp) : Cx := (cxOf C8.CX0 prog w K mg base Ng x sg g cdg A0 stack s H C8.E0).nox
theorem rel_frz {P : TP} {A : AP} {H : Hp} {σ : L2.St} {ρ : Env} {p : Addr} {o : Obj} {s : Str} {dv : D} {v : V} (L : Rel P A nob H σ ρ) (hp : H p = none) (ho : o.dict = none) (hv : RepV P A H dv v) :
    Rel P A nob (upd H p (.frz o (.tup [.str s, v]))) σ ρ ∧ RepV P A (upd H p (.frz o (.tup [.str s, v]))) (.tup [.str s, dv]) (.ref p) ∧ Grow P.tabs H (upd H p (.frz o (.tup [.str s, v]))) := by
  obtain ⟨L1, s1⟩ := L.laid (o := .frz o (.tup [.str s, v])) hp
  have kp : Kp (fun _ => False) A A H (upd H p (.frz o (.tup [.str s, v]))) := ⟨fun a o e _ _ => by rw [upd_ne (ne_of_none e hp)]; exact e, fun _ z => z.elim, fun _ z => z.elim, fun a z => .inl z⟩
  refine ⟨L1, ?_, fun a o e _ => by rw [upd_ne (ne_of_none e hp)]; exact e, s1.alive, L1.tabs⟩
  unfold RepV
  refine ⟨p, _, rfl, .inl ⟨o, upd_same, ho⟩, (show 2 ≤ line by decide), ?_⟩
  unfold RepVs
  refine ⟨.str s, [v], rfl, by unfold RepV; rfl, ?_⟩
  unfold RepVs
  exact ⟨v, [], rfl, hv.kp kp, by unfold RepVs; rfl⟩
section
variable {prog : Program} {w : World} {mg : Str → Option Value} {base : Heap} {A0 : Around} {stack : List PySem.Env} {kk : Nat} {P : TP} {F : WF} {Gm0 : Cfg} {f : Nat} {Ng : List Str} {x a pe n q : Str} {sg : Scope} {g : Addr} {cdg : Value} {pre rest suite : List Stmt} {b₀ body : Stmt} {np p' pos : Pos}
theorem gives_word (lo : LoopOk Gm0) (ok : CfgOk P Gm0) (hexc : P.exc = none) (hwd : P.wd f = some (wdOf Gm0 F))
    (hX : ∀ C, Gm0.sub C F.pe = some true → XcC P.K (P.cls C) ∧ PySem.W.exmOne P.K (.ref (P.cls C)) (.ref (P.cls F.pe)) = some true)
    (e0 : evSs Gm0 noPhi [0] F.pre (List.replicate F.ns none) = some (.nx, F.ρ0)) (hs : stillE F.ρ0 = true) (hns : Ng.length = F.ns) (hei : F.ei < F.ns) (h0 : 0 < F.ns) (hl0 : F.ρ0.length = F.ns) (hki : ∀ i t, F.kind = .asg i t → i < F.ns)
    (hnd : Ng.Nodup) (hn : Ng[F.ei]? = some n)
    (hZ : ∀ s H, Names (ZC prog w P.K mg base A0 stack Ng x sg g cdg s H) pe (.ref (P.cls F.pe)) ∧ (ZC prog w P.K mg base A0 stack Ng x sg g cdg s H).env.kindOf n = some .local)
    (hpre : ∀ s H u st, Rm kk (A0.deeper (envOfC x sg s.heap.objs.size g cdg)) → PSs (ZC prog w P.K mg base A0 stack Ng x sg g cdg s H) st u → PSs (ZC prog w P.K mg base A0 stack Ng x sg g cdg s H) (pre ++ st) (tSeq (tSs P (spec P noPhi) F.pre E0) u))
    (hbody : ∀ s H pn xe te, Rm kk (A0.deeper (envOfC x sg s.heap.objs.size g cdg)) → (∀ p1 p2, PE ((ZC prog w P.K mg base A0 stack Ng x sg g cdg s H).tr pn xe) (.Call (.Name a p1) [] [] p2) te) → PS ((ZC prog w P.K mg base A0 stack Ng x sg g cdg s H).tr pn xe) body (tKind F.kind te))
    (hsu : ∀ s H ax CA oe d pn, Rm kk (A0.deeper (envOfC x sg s.heap.objs.size g cdg)) → Zc (.ref CA) d oe → (∃ vs, oe.data = .fields vs) → XcC P.K CA → PSs ((ZC prog w P.K mg base A0 stack Ng x sg g cdg s H).suite ax ((ax, oe) :: pn)) (b₀ :: suite) (tSs (P.withX ax CA d) (spec (P.withX ax CA d) noPhi) F.suite E0))
    (hrest : ∀ s H ax CA d, Rm kk (A0.deeper (envOfC x sg s.heap.objs.size g cdg)) → PSs (ZC prog w P.K mg base A0 stack Ng x sg g cdg s H) rest (tSs (P.withX ax CA d) (spec (P.withX ax CA d) noPhi) F.rest E0)) :
    Gives prog w P.K mg base A0 stack kk Ng x sg g cdg (pre ++ .Try [body] [.ExceptHandler (some (.Name pe np)) (some n) (b₀ :: suite) p'] [] [] pos :: rest) a q (TTg P f) := by
  intro fA c' s H Q tl hr act hco tt
  have core := pss_cons (ps_try_as (X := ZC prog w P.K mg base A0 stack Ng x sg g cdg s H) (x := pe) (n := n) (c := .ref (P.cls F.pe)) (i := F.ei) (body := [body]) (suite := suite) (b₀ := b₀) (np := np) (pos := pos) (pos' := p') (Wout := fun _ _ _ _ => False)
    (tb := fun W => tSeq (tKind F.kind (fun σW HW Q => ∃ VW : VK, (∀ v H1, VW v H1 → Q v H1) ∧ (σW[0]? = some (some (.ref fA)) ∧ HW c' = some (LamX.CodeO c' q) ∧ ∃ E : XK, (∀ cls d H', E cls d H' → W cls d σW H') ∧ tl E HW VW))) tNext)
    (ts := fun ax cls d => tSuite P F ax cls d) rfl rfl hnd hn (hZ s H).2 (hZ s H).1 (fun u s' ⟨_, _, _, _, _, _, _, _, _, _, _, _, _, _, _, _, w⟩ => w.elim)
    (fun W pn xe tk _ => pss_cons (hbody s H pn xe _ hr fun p1 p2 => pe_weak (act W pn xe p1 p2 tk)) pss_nil)
    (fun ax oe cls d pn hz hf => ⟨fun pins s1 σ1 H1 D I ⟨CA, e, xc, h⟩ => by subst e; exact (hsu s H ax CA oe d pn hr hz hf xc).run pins s1 σ1 H1 D I h⟩))
    (show PSs (ZC prog w P.K mg base A0 stack Ng x sg g cdg s H) rest (tRest P F) from ⟨fun pins s1 σ1 H1 D I ⟨ax, CA, d, h⟩ => (hrest s H ax CA d hr).run pins s1 σ1 H1 D I h⟩)
  refine ⟨_, hpre s H _ _ hr core, ?_⟩
  have hlen : (L2.start Ng [V.ref fA]).length = F.ns := by
    unfold L2.start
    rw [List.length_append, List.length_map, List.length_replicate, hns]
    show 1 + (F.ns - 1) = F.ns
    omega
  have own0 : ∀ b, ¬ OwnA (L2.start Ng [V.ref fA]) (List.replicate F.ns none) b := fun b ⟨i, d, e, _⟩ => by
    unfold eget at e
    cases q : (List.replicate F.ns (none : Option (Bool × D)))[i]? with
    | none => rw [q] at e; cases e
    | some y =>
      rw [q] at e
      have := List.eq_of_mem_replicate (List.mem_of_getElem? q)
      subst this
      cases e
  refine soundB ok lo F.pre nob nob H _ _ F.ρ0 .nx (rel_none hlen tt.1) e0 _ fun σ1 W1 H1 L1 s1 => ?_
  have g01 : Grow P.tabs H H1 := ⟨fun b o e nt => s1.keep b o e nt (own0 b), s1.alive, L1.tabs⟩
  obtain ⟨wd, ew, tt1⟩ := tt.2 H1 g01
  rw [hwd] at ew
  cases ew
  have slot : σ1[0]? = some (some (.ref fA)) := (s1.fixed 0 List.mem_cons_self).trans (by unfold L2.start; rfl)
  have code : H1 c' = some (LamX.CodeO c' q) := g01.keep c' _ hco LamX.codeO_ne
  -- the exception
  have hE : ∀ (D : Ends), D.rt = Q → (∀ σ' H', tRest P F { nx := fun _ H' => Q .non H', rt := Q } σ' H' → D.nx σ' H') → ∀ cls d H', (∃ x dr, XIs P x cls d H' ∧ LamX.Tabs P.tabs H' ∧ KM H1 H' ∧ (wdOf Gm0 F).onX x = some dr ∧ still dr = true ∧ Ans P dr H' Q) → wAs P.K (.ref (P.cls F.pe)) F.ei (fun ax cls d => tSuite P F ax cls d) (fun _ _ _ _ => False) D cls d σ1 H' := by
    intro D hrt hnx cls d H' ⟨xx, dr, is, ht, km, eo, st, ans⟩
    have c := fun ax => caught (ax := ax) ok lo hexc hei hl0 hs (fun C h => (hX C h).1) L1 km is ht eo st ans { nx := fun σ' H' => D.nx (σ'.set F.ei none) H', rt := D.rt, bk := fun σ' H' => D.bk (σ'.set F.ei none) H', ct := fun σ' H' => D.ct (σ'.set F.ei none) H' } hrt fun σ' H' h => hnx _ _ h
    refine ⟨true, ?_, fun _ ax _ => (c ax).2, fun z => nomatch z⟩
    rw [is.1]
    exact (hX _ (c 0).1).2
  -- the value
  have hV : ∀ {dv dr : D} {A : AP} {v : V} {H' : Hp}, RepV P A H' dv v → (∀ a, A a → H' a ≠ none) → LamX.Tabs P.tabs H' → KM H1 H' → Rel (P.withX 0 0 none) A nob H' σ1 F.ρ0 := fun hv al tb km => rel_still hexc L1 hs km tb al
  have fin : ∀ {A : AP} {ρ : Env} {dr : D} {H' H2 : Hp} {σ2 : L2.St}, Rel (P.withX 0 0 none) A nob H2 σ2 ρ → (∀ b, ¬ OwnA σ2 ρ b) → restR Gm0 F ρ = some dr → still dr = true → Ans P dr H' Q → Grow P.tabs H' H2 → tRest P F { nx := fun _ H' => Q .non H', rt := Q } σ2 H2 := fun L no e st ans g =>
    ⟨0, 0, none, rest_ok (ok.withX hexc) lo e L (fun b z => absurd z (no b)) st ans g⟩
  have refl : ∀ {H' : Hp}, LamX.Tabs P.tabs H' → Grow P.tabs H' H' := fun t => ⟨fun _ _ e _ => e, fun _ z => z, t⟩
  have up : ∀ {A : AP} {H' : Hp} {dv : D} {v : V}, RepV P A H' dv v → RepV (P.withX 0 0 none) (Av A nob) H' dv v := fun h => (RepV.toX hexc h).kp (Kp.less fun a z => z.elim id False.elim)
  have up2 : ∀ {A : AP} {H' : Hp} {dv : D} {v : V}, RepV P A H' dv v → RepV (P.withX 0 0 none) A H' dv v := fun h => RepV.toX hexc h
  show tSeq (tKind F.kind _) tNext _ σ1 H1
  cases hk : F.kind with
  | expr =>
    refine ⟨_, fun v H' h => ?_, slot, code, _, hE _ rfl (fun _ _ h => h), tt1⟩
    obtain ⟨dv, dr, A, hv, al, tb, km, eo, st, ans⟩ := h
    unfold wdOf at eo
    dsimp only at eo
    rw [hk] at eo
    exact fin (hV (dr := dr) hv al tb km) (own_still hs) eo st ans (refl tb)
  | asg i tag =>
    have hi : i < F.ρ0.length := by rw [hl0]; exact hki i tag hk
    cases tag with
    | none =>
      refine ⟨_, fun v H' h => ?_, slot, code, _, hE _ rfl (fun _ _ h => h), tt1⟩
      obtain ⟨dv, dr, A, hv, al, tb, km, eo, st, ans⟩ := h
      unfold wdOf at eo
      dsimp only at eo
      rw [hk] at eo
      exact fin ((hV (dr := dr) hv al tb km).store hi (up hv)).1 (own_set hs) eo st ans (refl tb)
    | some s0 =>
      refine ⟨_, fun v H' h => ?_, slot, code, _, hE _ rfl (fun _ _ h => h), tt1⟩
      obtain ⟨dv, dr, A, hv, al, tb, km, eo, st, ans⟩ := h
      unfold wdOf at eo
      dsimp only at eo
      rw [hk] at eo
      refine ⟨(show 2 ≤ sizeLine by decide), fun p o hp ho => ?_⟩
      obtain ⟨L2, r2, g2⟩ := rel_frz (s := s0) (hV (dr := dr) hv al tb km) hp ho (up2 hv)
      exact fin (L2.store hi (r2.kp (Kp.less fun a z => z.elim id False.elim))).1 (own_set hs) eo st ans g2
  | ret tag =>
    cases tag with
    | none =>
      refine ⟨_, fun v H' h => ?_, slot, code, _, hE _ rfl (fun _ _ h => h), tt1⟩
      obtain ⟨dv, dr, A, hv, al, tb, km, eo, st, ans⟩ := h
      unfold wdOf at eo
      dsimp only at eo
      rw [hk] at eo
      obtain rfl : dv = dr := Option.some.inj eo
      exact ans v H' (refl tb) (RepV.still st hv)
    | some s0 =>
      refine ⟨_, fun v H' h => ?_, slot, code, _, hE _ rfl (fun _ _ h => h), tt1⟩
      obtain ⟨dv, dr, A, hv, al, tb, km, eo, st, ans⟩ := h
      unfold wdOf at eo
      dsimp only at eo
      rw [hk] at eo
      obtain rfl : D.tup [.str s0, dv] = dr := Option.some.inj eo
      refine ⟨(show 2 ≤ sizeLine by decide), fun p o hp ho => ?_⟩
      obtain ⟨L2, r2, g2⟩ := rel_frz (s := s0) (hV (dr := dv) hv al tb km) hp ho (up2 hv)
      exact ans _ _ g2 (RepV.unX st r2)
end
end Mi
set_option Elab.async false
set_option linter.all false
set_option maxRecDepth 100000
set_option maxHeartbeats 4000000
namespace Mi
open PySem PySem.Spec PyProof.Rows L2
section
variable {X : Cx} {k j : Nat} {f C : Addr} {fd : FuncData} {ps : List Str} {sp : Sp} {E : XK} {x m : Str} {p p1 p2 pos : Pos} {e : Expr} {es : List Expr} {t : TA} {mc : Value}
/-- C.m(e, ..), m a def in C -/
theorem pg_clsfn {pl : Sem Bool} (F : FnG X.prog X.w X.K X.mg X.base (L2.CX X.prog X.w) k f fd ps sp) (rm : Rm j X.A) (hk : k ≤ j) (gl : Gl X x) (mx : X.mg x = some (.ref C)) (rd : PySem.W.readsIn X.K C mc = true) (ga : PySem.W.specialIn X.K (.ref C) "__getattribute__" = some (some (.builtin "type.__getattribute__")))
    (at_ : PySem.W.findCls X.K (.ref C) mc m = some (.val (.ref f))) (kp : PySem.W.keepIn X.K (.ref f) = true) (bi : Binds X.K fd ps []) (px : Passes (L2.CX X.prog X.w) X E) (ha : PA X (e :: es) t)
    (hc : eval (.Call (.Attribute (.Name x p1) m p2) (e :: es) [] pos) X.env = (do
      let ov ← eval (.Name x p1) X.env
      standAt p2.atName
      let (f, first) ← holding [ov] (getMethod ov m pl)
      callWith pos f first (backTo pos (starEach (e :: es) X.env)) (backToKw pos (keywordEach [] X.env))) := by rfl)
    (hdb : (x == ("__debug__" : Str)) = false := by decide) (he : starEach (e :: es) X.env = (false, eval e X.env) :: starEach es X.env := by rfl) (hpl : (backTo pos (starEach es X.env)).any (·.1) = false := by rfl) :
    PE X (.Call (.Attribute (.Name x p1) m p2) (e :: es) [] pos) (tCall sp [] E t) := by
  refine ⟨fun pins s σ H Q I pr => ?_⟩
  refine PySem.W.methodCall_KW (ld_glob I gl mx ?_ hdb) hc
  refine PySem.W.method_cls I.kIn ga (PySem.W.cls_value I.kIn rd at_ rfl ?_)
  show wpAny _ _ (callWith pos (Value.ref f) [] (backTo pos (starEach (e :: es) X.env)) []) _ _ _
  exact PySem.W.callWith_K (h₀ := X.base) I.ok.mod.kin kp (thn (ha.run pos pins _ σ H _ (I.tok _) pr) fun us s1 ⟨vs, H1, J1, rv, q⟩ => ⟨J1.kIn, run_g F (rm.mono hk) bi px J1 rv (by simpa using q)⟩) he hpl
end
def spX0 (K : PySem.W.Frag) : Sp := fun vs H Q _ => ∃ a C : Addr, vs = [.ref a] ∧ OexC K C ∧ H a = some (exo a C none) ∧ Q .non H
def spX1 (K : PySem.W.Frag) (fld : Str) : Sp := fun vs H Q _ => ∃ (a C : Addr) (y : V), vs = [.ref a, y] ∧ OexC K C ∧ PySem.W.findIn K (.ref C) fld = some none ∧ H a = some (exo a C none) ∧ ∀ dx, H dx = none → dx ≠ a → Q .non (upd (upd H dx (exd dx [(fld, y)])) a (exo a C (some dx)))
section
variable {prog : Program} {w : World} {K : PySem.W.Frag} {mg : Str → Option Value} {base : Heap} {k : Nat} {qual fld : Str} {st : Stmt} {f : Addr} {fd : FuncData}
theorem xin0 {N ps : List Str} (hN : N.length = 1) (hps : ps.length = 1) (S : FnScope N ps (defScope st)) (D : Fun K "__init__" qual st f fd)
    (hb : ∀ (cdv : Value) (A : Around) (outer : List PySem.Env) (s : Shared) (H : Hp) (E : XK), Rm k (A.deeper (envOfC qual (defScope st) s.heap.objs.size f cdv)) →
      PSs (cxOf (L2.CX prog w) prog w K mg base N qual (defScope st) f cdv A outer s H E) (defBody st) (tSeq (tDrop (tVeI K (tCons (tVar 0) tNil))) tNext)) : FnG prog w K mg base (L2.CX prog w) (k + 1) f fd ps (spX0 K) := by
  obtain ⟨oc, od, kV, doc, pm, an, cdv, ct, osl, rfl, lk, hcd⟩ := D.ex
  refine fg_of lk hcd S (fun vs H Q E ⟨a, C, e, _⟩ => by rw [e, hps]; rfl) fun A outer s H vs Q E hr h => ⟨_, hb cdv A outer s H E hr, ?_⟩
  obtain ⟨a, C, rfl, T, ha, q⟩ := h
  exact ⟨.ref a, rfl, a, C, [], rfl, Nat.zero_le _, T, ha, q⟩
theorem xin1 {N ps : List Str} (hN : N.length = 2) (hps : ps.length = 2) (S : FnScope N ps (defScope st)) (D : Fun K "__init__" qual st f fd)
    (hb : ∀ (cdv : Value) (A : Around) (outer : List PySem.Env) (s : Shared) (H : Hp) (E : XK), Rm k (A.deeper (envOfC qual (defScope st) s.heap.objs.size f cdv)) →
      PSs (cxOf (L2.CX prog w) prog w K mg base N qual (defScope st) f cdv A outer s H E) (defBody st) (tSeq (tDrop (tCall (spX0 K) [] E0 (tCons (tVar 0) tNil))) (tSeq (tOst K fld (tVar 0) (tVar 1)) tNext))) : FnG prog w K mg base (L2.CX prog w) (k + 1) f fd ps (spX1 K fld) := by
  obtain ⟨oc, od, kV, doc, pm, an, cdv, ct, osl, rfl, lk, hcd⟩ := D.ex
  refine fg_of lk hcd S (fun vs H Q E ⟨a, C, y, e, _⟩ => by rw [e, hps]; rfl) fun A outer s H vs Q E hr h => ⟨_, hb cdv A outer s H E hr, ?_⟩
  obtain ⟨a, C, y, rfl, T, hno, ha, q⟩ := h
  exact ⟨.ref a, rfl, a, C, rfl, T, ha, y, rfl, .ref a, rfl, a, C, rfl, T, hno, .inl ⟨ha, fun dx n ne => q dx n ne⟩⟩
end
/-- what an own exception class is, for raise -/
structure XMk (prog : Program) (w : World) (K : PySem.W.Frag) (mg : Str → Option Value) (base : Heap) (k : Nat) (x : Str) (C : Addr) (sp : Sp) : Prop where
  oex : OexC K C
  ini : ∃ fI fd ps, FnG prog w K mg base (L2.CX prog w) k fI fd ps sp ∧ PySem.W.findIn K (.ref C) "__init__" = some (some (.ref fI)) ∧ PySem.W.typeIn K (.ref fI) = some (.type "function") ∧ Binds K fd ps []
  mg : mg x = some (.ref C)
section
variable {X : Cx} {k j : Nat} {C : Addr} {sp : Sp} {E : XK} {x fld : Str} {p pos pos' : Pos} {e : Expr} {es : List Expr} {ta : TA} {te : TE}
/-- C(e) -/
theorem pmk_g1 (M : XMk X.prog X.w X.K X.mg X.base k x C (spX1 X.K fld)) (hno : PySem.W.findIn X.K (.ref C) fld = some none) (hr : Rm j X.A) (hk : k + 1 ≤ j) (hg : Gl X x) (ha : PE X e te) (hdb : (x == ("__debug__" : Str)) = false := by decide)
    (he : starEach [e] X.env = (false, eval e X.env) :: starEach [] X.env := by rfl) (hpl : (backTo pos (starEach [] X.env)).any (·.1) = false := by rfl) :
    PMk X (.Call (.Name x p) [e] [] pos) (fun σ H Q => te σ H fun y H1 => ∀ dd, H1 dd = none → Q (.ref C) (some dd) (upd H1 dd (.xd [(fld, y)]))) := by
  intro pins s σ H Q I h
  obtain ⟨fI, fd, ps, F1, iC, tI, hb⟩ := M.ini
  obtain ⟨nm, q, N, bs, bm, sn, sub, ab, col, dd, k0, k1, k2, k3, k5, hC, hbm⟩ := M.oex.cls
  refine wpAny_Call_Name_kw (ld_glob I hg M.mg ?_ hdb)
  refine PySem.W.callWith_K (h₀ := X.base) I.ok.mod.kin M.oex.kC (thn ((pa_cons (pe_weak ha) pa_nil he).run pos pins s σ H (fun vs H1 => ∃ y, vs = [y] ∧ ∀ dd, H1 dd = none → Q (.ref C) (some dd) (upd H1 dd (.xd [(fld, y)]))) I ⟨_, fun v H1 h => ⟨v, rfl, h⟩, h⟩) fun us s1 ⟨vs, H1, I1, r1, y, ev, q1⟩ => ⟨I1.kIn, ?_⟩) he hpl
  subst ev
  show wpAny _ _ (call (.ref C) us) _ _ _
  obtain ⟨hp, g, dr, tk, os⟩ := s1
  have hsz : hp.objs.size ≤ hp.objs.size + 1 := Nat.le_succ _
  have hn : H1 (hp.objs.size + 1) = none := I1.hok.fresh hsz
  have kk : ∀ b o, hp.get? b = some o → ((hp.push (PySem.W.kdv_tup us)).push (PySem.HandSPX.excO C hp.objs.size)).get? b = some o := fun b o e => Heap.get?_push_of_some _ (Heap.get?_push_of_some _ e)
  have hget : ((hp.push (PySem.W.kdv_tup us)).push (PySem.HandSPX.excO C hp.objs.size)).get? (hp.objs.size + 1) = some (PySem.HandSPX.excO C hp.objs.size) := by heap_get
  have I2 : Inv X pins σ (upd H1 (hp.objs.size + 1) (exo (hp.objs.size + 1) C none)) ⟨(hp.push (PySem.W.kdv_tup us)).push (PySem.HandSPX.excO C hp.objs.size), g, dr, tk, os⟩ :=
    I1.laid (t' := tk) (a := hp.objs.size + 1) (o := exo (hp.objs.size + 1) C none) (h' := (hp.push (PySem.W.kdv_tup us)).push (PySem.HandSPX.excO C hp.objs.size)) kk hsz (exo_ok hget)
  have r2 : Vals [V.ref (hp.objs.size + 1), y] (Value.ref (hp.objs.size + 1) :: us) := .cons rfl r1
  have hq : spX1 X.K fld [.ref (hp.objs.size + 1), y] (upd H1 (hp.objs.size + 1) (exo (hp.objs.size + 1) C none)) (fun v H2 => v = .non ∧ ∃ (d : Addr) (fs : List (Str × V)), H2 (hp.objs.size + 1) = some (exo (hp.objs.size + 1) C (some d)) ∧ H2 d = some (exd d fs) ∧ H1 d = none ∧
      Q (.ref C) (some d) (upd (del H2 (hp.objs.size + 1)) d (.xd fs))) E0 := by
    refine ⟨_, C, y, rfl, M.oex, hno, upd_same, fun dx n ne => ⟨rfl, dx, [(fld, y)], upd_same, by rw [upd_ne ne, upd_same], by rw [upd_ne ne] at n; exact n, ?_⟩⟩
    rw [upd_ne ne] at n
    have e : upd (del (upd (upd (upd H1 (hp.objs.size + 1) (exo (hp.objs.size + 1) C none)) dx (exd dx [(fld, y)])) (hp.objs.size + 1) (exo (hp.objs.size + 1) C (some dx))) (hp.objs.size + 1)) dx (.xd [(fld, y)]) = upd H1 dx (.xd [(fld, y)]) := by
      funext b
      by_cases hb : b = dx
      · rw [hb, upd_same, upd_same]
      · rw [upd_ne hb, upd_ne hb]
        by_cases hb2 : b = hp.objs.size + 1
        · rw [hb2, del_same, hn]
        · rw [del_ne hb2, upd_ne hb2, upd_ne hb, upd_ne hb2]
    rw [e]
    exact q1 dx n
  have hl : ((Value.ref (hp.objs.size + 1) :: us) ++ []).length = ps.length := by
    have e := r2.length
    rw [F1.len _ _ _ _ hq] at e
    rw [List.append_nil]
    exact e.symm
  have hus : us.length ≤ sizeLine := by
    rw [← Paired.length r1, sizeLine_eq]
    show 1 ≤ _
    omega
  refine wpAny_call (PySem.HandSPX.call_own F.excBase_ValueError (fun Y => PySem.HandSPX.refsVE_contains Y bm hbm) (I1.kIn _ _ hC) (PySem.W.looks_findIn I1.kIn iC) (fun self => PySem.W.bind_fn I1.kIn self tI) hus
    (codeAny_mono (F1.run _ X.stack _ _ ⟨Value.ref (hp.objs.size + 1) :: us, []⟩ (Value.ref (hp.objs.size + 1) :: us) _ _ E0 ((hr.mono hk).make C us []) (I2.env0.make C us []) (by simpa using hb _ (Value.ref (hp.objs.size + 1) :: us) I2.kIn hl) r2 hq) fun r s' hq' => ?_))
  cases r with
  | error er => exact passL pins σ _ _ er s' I2 hq'
  | ok fl =>
    cases fl with
    | ret u =>
      obtain ⟨v, H2, os2, bare2, un2, hok2, rv, ev, d, fs, ea, ed, hd1, q2⟩ := hq'
      subst ev
      obtain ⟨h2, g2, d2, t2, os'⟩ := s'
      exact ⟨rv, mk_end (raises_own M.oex.exC M.oex.tyC) I1 hsz kk un2 hok2 os2 bare2 ea ed hd1 q2⟩
    | next => exact False.elim hq'
    | brk => exact False.elim hq'
    | cont => exact False.elim hq'
end
section
variable {X : Cx} {P : TP} {k j Ci : Nat} {E : XK} {x fld f : Str} {p pos pos' : Pos} {e : Expr} {te : TE}
theorem ps_rais1 (hc : X.calm = true) (tk : Takes X (fun cls d _ H' => E cls d H')) (M : XMk X.prog X.w X.K X.mg X.base k x (P.cls Ci) (spX1 X.K fld)) (hno : PySem.W.findIn X.K (.ref (P.cls Ci)) fld = some none) (hr : Rm j X.A) (hk : k + 1 ≤ j) (hg : Gl X x) (ha : PE X e te) (hdb : (x == ("__debug__" : Str)) = false := by decide)
    (he : starEach [e] X.env = (false, eval e X.env) :: starEach [] X.env := by rfl) (hpl : (backTo pos (starEach [] X.env)).any (·.1) = false := by rfl) :
    PS X (.Raise (some (.Call (.Name x p) [e] [] pos)) none pos') (tRais P Ci [fld] (tCons te tNil) E) :=
  ⟨fun pins s σ H D I h => (ps_raise hc tk (pmk_g1 M hno hr hk hg (pe_weak ha) hdb he hpl)).run pins s σ H D I ⟨_, fun v H1 z => (z.2.elim (fun y => nomatch y.1) fun ⟨f, u, e1, e2, y⟩ => by cases e1; cases e2; exact y), h⟩⟩
/-- error.f -/
theorem pe_xat {a D : Addr} {d : Option Addr} {oe : Obj} {pn : List (Addr × Obj)} (hK : X.K = P.K) (hx : P.exc = some (a, D, d)) (T : XcC P.K D) (hz : Zc (.ref D) d oe) (hf : ∃ vs, oe.data = .fields vs) (he : PE (X.suite a ((a, oe) :: pn)) e te) (hb : attributeBase e f X.env (eval e X.env) = eval e X.env := by rfl) :
    PE (X.suite a ((a, oe) :: pn)) (.Attribute e f pos) (tXa P f te) := by
  by_cases hno : PySem.W.findIn X.K (.ref D) f = some none
  · refine ⟨fun pins s σ H Q I h => ?_⟩
    refine (pe_xf (X := X) (C := D) (cls := .ref D) (d := d) (pn := pn) (oe := oe) (n := f) (e := e) (pos := pos) ⟨by rw [hK]; exact T.ga, by rw [hK]; exact T.gt, by rw [hK]; exact T.su, by rw [hK]; exact T.hd⟩ hno hz hf (pe_weak he) hb).run pins s σ H Q I ⟨_, fun v H1 z => ?_, h⟩
    obtain ⟨a2, C2, dd, fs, v2, e1, ex, ea, l, -, q⟩ := z
    rw [hx] at e1
    cases e1
    exact ⟨ex, rfl, dd, fs, v2, rfl, ea, l, q⟩
  · refine ⟨fun pins s σ H Q I h => ?_⟩
    refine attr_of hb (thn (he.run pins s σ H _ I h) fun u s1 hh => ?_)
    obtain ⟨x, H1, I1, rx, a2, C2, dd, fs, v, e1, ex, ea, l, hn, q⟩ := hh
    rw [hx] at e1
    cases e1
    exact absurd (by rw [hK]; exact hn) hno
end
end Mi
set_option Elab.async false
set_option linter.all false
set_option maxRecDepth 100000
set_option maxHeartbeats 4000000
namespace Mi
open PySem PySem.Spec PyProof.Rows L2
theorem call_tabs {P : Program} {w : World} {K : PySem.W.Frag} {mg mb : Str → Option Value} {CX : CXT} {k : Nat} {fa a : Addr} {cs : List (Addr × Addr)} {fd : FuncData} {x : Str} {sp : Sp} {t₁ : Shared} {vs : List Value} {ns : List Int}
    (inK : K.In t₁.heap) (nsG : t₁.heap.Ns mainGlobals mg) (nsB : t₁.heap.Ns builtinsNs mb) (bbB : ∀ x : Str, x ≠ "__name__" → mb x = bootBuiltins x) (nlim : t₁.heap.NoLimit) (gen0 : t₁.gens = #[])
    (tab0 : ∀ p ∈ cs, t₁.heap.get? p.2 = some { cls := .none, data := .fields #[] }) (tabN : ∀ p ∈ cs, K.lookup p.2 = none) (codH : ∀ p ∈ cs, PySem.W.CodeHd t₁.heap p.1 p.2)
    (bmod : ∃ (bm : Addr) (ob : Obj), mg "__builtins__" = some (.ref bm) ∧ bm ≠ builtinsNs ∧ t₁.heap.get? bm = some ob ∧ ob.cls = .type "module" ∧ ob.dict = some builtinsNs ∧ ob.data = .plain)
    (lstA : t₁.heap.get? a = some { cls := .type "list", data := .seq vs.toArray }) (intA : IntsAre vs ns) (lenA : ns.length ≤ sizeLine) (rmA : Rm k callerA)
    (F : ∀ base : Heap, K.In base → base.Ns mainGlobals mg → (∀ p ∈ cs, LamX.TabB base mg p.1 p.2) → FnG P w K mg base CX k fa fd [x] sp) (bindA : ∀ (s : Shared) (u : Value), BindsTo s fd ⟨[u], []⟩ [(x, u)])
    (wish : ∀ H : Hp, (∀ p ∈ cs, H p.2 = some (.tbl #[])) → SqL K H a (ns.map V.int) → sp [.ref a] H (fun v _ => v = .bl true) fun _ _ _ => False)
    (airF : ∀ H e s', CX [] H t₁ (fun _ _ _ => False) e s' → False) :
    codeAny (model P w) callerA (.call (.ref fa) ⟨[.ref a], []⟩) (fun r s' => r = .ok (.ret (.bool true)) ∧ OldK t₁.heap s'.heap ∧ s'.os = t₁.os ∧ AllBare s'.gens) t₁ := by
  have rvals := vals_ints intA
  have lnV := intA.length
  have tAt : ∀ b : Addr, b ∈ cs.map (·.2) → t₁.heap.get? b = some { cls := .none, data := .fields #[] } := fun b nsB => by
    obtain ⟨p, pm, e⟩ := List.mem_map.mp nsB
    rw [← e]
    exact tab0 p pm
  have aNo : a ∉ cs.map (·.2) := fun z => by
    have q := tAt a z
    rw [lstA] at q
    have z' : Data.seq vs.toArray _ = Data.fields #[] := congrArg Obj.data (Option.some.inj q)
    cases z'
  have tMem : ∀ p ∈ cs, p.2 ∈ cs.map (·.2) := fun p pm => List.mem_map.mpr ⟨p, pm, rfl⟩
  -- from an abstract heap in which nothing but the script and the tables may be tracked
  have body0 : ∀ H : Hp, (∀ p ∈ cs, H p.2 = some (.tbl #[])) → (∀ b, H b = none ∨ b ∈ cs.map (·.2) ∨ ∃ o xs, H b = some (.frz o (.lst xs))) → SqL K H a (ns.map V.int) → HOk P w H t₁.heap → (∀ b, H b ≠ none → b = a ∨ b ∈ cs.map (·.2)) → (H a ≠ none → K.lookup a = none) →
      codeAny (model P w) callerA (.call (.ref fa) ⟨[.ref a], []⟩) (fun r s' => r = .ok (.ret (.bool true)) ∧ OldK t₁.heap s'.heap ∧ s'.os = t₁.os ∧ AllBare s'.gens) t₁ := by
    intro H tH oH sqH okH aH kH
    have bo : ∀ {b : Addr} {o : Obj}, t₁.heap.get? b = some o → H b = none → (hidT t₁.heap H).get? b = some o := fun e n => hidT_get e n
    have nd : ∀ {b : Addr} {o : Obj}, t₁.heap.get? b = some o → (∀ vs n, o.data ≠ .seq vs n) → o.data ≠ .fields #[] → H b = none := fun {b o} e h1 h2 => by
      cases q : H b with
      | none => rfl
      | some u =>
        rcases aH b (by rw [q]; simp) with e' | e'
        · rw [e', lstA] at e
          cases e
          exact (h1 _ _ rfl).elim
        · rw [tAt b e'] at e
          cases e
          exact (h2 rfl).elim
    have nda : ∀ {b : Addr} {o : Obj} {es : Array DictEntry} {pe : Nat}, t₁.heap.get? b = some o → o.data = .dict es pe → H b = none := fun {b o es pe} e d => by
      refine nd e (fun vs n z => ?_) fun z => ?_
      · rw [d] at z
        cases z
      · rw [d] at z
        cases z
    have nsv : ∀ {b : Addr} {m : Str → Option Value}, t₁.heap.Ns b m → (hidT t₁.heap H).Ns b m := fun {b m} ⟨o, es, pe, e, d, r⟩ => ⟨o, es, pe, bo e (nda e d), d, r⟩
    have KB : K.In (hidT t₁.heap H) := fun b o e => bo (inK b o e) (by
      cases q : H b with
      | none => rfl
      | some u =>
        rcases aH b (by rw [q]; simp) with e' | e'
        · rw [e'] at e q
          rw [kH (by rw [q]; simp)] at e
          cases e
        · obtain ⟨p, pm, pe⟩ := List.mem_map.mp e'
          rw [← pe, tabN p pm] at e
          cases e)
    have MM : L2.Mod K mg (hidT t₁.heap H) := ⟨KB, nsv nsG, ⟨mb, nsv nsB, bbB⟩, let ⟨mc, h1, h2⟩ := nlim; ⟨mc, nsv h1, h2⟩⟩
    have tbB : ∀ p ∈ cs, LamX.TabB (hidT t₁.heap H) mg p.1 p.2 := fun p pm => by
      have tp := tab0 p pm
      refine ⟨?_, ?_, fun z => ?_⟩
      · obtain ⟨o, us, file, tf, flags, tg, inF, text, tt, e1, r1, r2, r3, r4, r5, r6, r7, r8, hne⟩ := codH p pm
        refine ⟨o, us, file, tf, flags, tg, inF, text, tt, bo e1 (nd e1 (fun vs n z => ?_) fun z => ?_), r1, r2, r3, r4, r5, r6, r7, r8, hne⟩
        · rw [r2] at z
          cases z
        · rw [r2] at z
          cases z
          simp at r3
      · obtain ⟨bm, ob, b1, b2, b3, b4, b5, b6⟩ := bmod
        have bmG : bm ≠ mainGlobals := fun q => by
          obtain ⟨o, es, pe, e, hd, _⟩ := nsG
          rw [q, e] at b3
          cases b3
          rw [hd] at b6
          cases b6
        have bmP : bm ≠ p.2 := fun q => by
          rw [q, tp] at b3
          cases b3
          cases b6
        refine ⟨bm, ob, b1, b2, bmG, bmP, bo b3 (nd b3 (fun vs n z => ?_) fun z => ?_), b4, b5, b6⟩
        · rw [b6] at z
          cases z
        · rw [b6] at z
          cases z
      · obtain ⟨o, es, pe, e, hd, _⟩ := nsG
        rw [z, tp] at e
        cases e
        cases hd
    have en0 : Env0 P w K mg (hidT t₁.heap H) callerA [] t₁ H := ⟨rfl, MM, fun b o e => of_hidT e, Nat.le_of_eq (hidT_size _ _), trivial, fun b nsB => absurd (show b ∈ ([] : List Addr) from nsB) (by simp), okH, .of_eq gen0⟩
    refine codeAny_mono ((F _ KB (nsv nsG) tbB).run callerA [] t₁ H ⟨[.ref a], []⟩ [.ref a] [.ref a] _ _ rmA en0 (bindA t₁ (.ref a)) (.cons rfl .nil) (wish H tH sqH)) fun r s' h => ?_
    cases r with
    | error e => exact (airF H e s' h).elim
    | ok fl =>
      cases fl with
      | next => exact False.elim h
      | brk => exact False.elim h
      | cont => exact False.elim h
      | ret u =>
        obtain ⟨v, H', os, bare, un, okH', ru, q⟩ := h
        have vq : v = .bl true := q
        subst vq
        obtain rfl : u = Value.bool true := ru
        have stayK : ∀ b o, b ∉ cs.map (·.2) → t₁.heap.get? b = some o → s'.heap.get? b = some o := fun b o nb e => by
          cases q : H b with
          | none => exact un.keep b o e q (by intro z; exact absurd (show b ∈ ([] : List Addr) from z) (by simp)) (by simp)
          | some u =>
            rcases oH b with z | z | ⟨ob, xs, z⟩
            · rw [q] at z; cases z
            · exact absurd z nb
            · have z2 := un.frzs b ob _ z
              obtain ⟨e1, _⟩ := okH b _ z
              obtain ⟨e2, _⟩ := okH' b _ z2
              rw [e] at e1; cases e1
              exact e2
        have grew : ∀ p ∈ cs, ∃ more : Array Value, s'.heap.get? p.2 = some { cls := .none, data := .fields more } := fun p pm => by
          obtain ⟨more, z⟩ := un.tbls p.2 #[] (tH p pm)
          exact ⟨_, okH' p.2 _ z⟩
        refine ⟨rfl, ⟨fun b o e => ?_, fun b o e => ?_⟩, os, bare⟩
        · by_cases nsB : b ∈ cs.map (·.2)
          · obtain ⟨p, pm, pe⟩ := List.mem_map.mp nsB
            obtain ⟨more, mm⟩ := grew p pm
            rw [← pe] at e ⊢
            rw [tab0 p pm] at e
            cases e
            exact .inr (.inl ⟨((codH p pm).tab (tab0 p pm)).isCodeTable, rfl, #[], more, rfl, by rw [Array.empty_append]; exact mm⟩)
          · exact .inl (stayK b o nsB e)
        · by_cases nsB : b ∈ cs.map (·.2)
          · obtain ⟨p, pm, pe⟩ := List.mem_map.mp nsB
            obtain ⟨more, mm⟩ := grew p pm
            rw [← pe]
            exact ⟨_, mm⟩
          · exact ⟨o, stayK b o nsB e⟩
  cases lkA : K.lookup a with
  | some o =>
    have e := inK a o lkA
    rw [lstA] at e
    cases e
    refine body0 (fun b => if b ∈ cs.map (·.2) then some (.tbl #[]) else none) (fun p pm => if_pos (tMem p pm)) (fun b => ?_) (.inr ⟨_, vs.toArray, _, lkA, rfl, rfl, rfl, by rw [List.size_toArray, lnV]; exact lenA, by simpa using rvals⟩) (fun b u z => ?_) (fun b z => ?_) fun z => absurd (show (if a ∈ cs.map (·.2) then some (HO.tbl #[]) else none) = none from if_neg aNo) z
    · by_cases nsB : b ∈ cs.map (·.2)
      · exact .inr (.inl nsB)
      · exact .inl (if_neg nsB)
    · by_cases nsB : b ∈ cs.map (·.2)
      · have z' := (if_pos nsB).symm.trans z
        cases z'
        exact tAt b nsB
      · have z' := (if_neg nsB).symm.trans z
        cases z'
    · by_cases nsB : b ∈ cs.map (·.2)
      · exact .inr nsB
      · exact absurd (if_neg nsB) z
  | none =>
    refine body0 (fun b => if b = a then some (.frz { cls := .type "list", data := .seq vs.toArray } (.lst (ns.map V.int))) else if b ∈ cs.map (·.2) then some (.tbl #[]) else none) (fun p pm => (if_neg (show ¬ p.2 = a from fun z => aNo (by rw [← z]; exact tMem p pm))).trans (if_pos (tMem p pm))) (fun b => ?_)
      (.inl (.inr ⟨{ cls := .type "list", data := .seq vs.toArray }, if_pos rfl⟩)) (fun b u z => ?_) (fun b z => ?_) fun _ => lkA
    · by_cases nsB : b = a
      · exact .inr (.inr ⟨_, _, if_pos nsB⟩)
      · by_cases hb2 : b ∈ cs.map (·.2)
        · exact .inr (.inl hb2)
        · exact .inl ((if_neg nsB).trans (if_neg hb2))
    · by_cases nsB : b = a
      · have z' := (if_pos nsB).symm.trans z
        cases z'
        rw [nsB]
        exact ⟨lstA, by rw [List.length_map]; exact lenA, vs, _, rvals, lstA⟩
      · have z1 := (if_neg nsB).symm.trans z
        by_cases hb2 : b ∈ cs.map (·.2)
        · have z' := (if_pos hb2).symm.trans z1
          cases z'
          exact tAt b hb2
        · have z' := (if_neg hb2).symm.trans z1
          cases z'
    · by_cases nsB : b = a
      · exact .inl nsB
      · by_cases hb2 : b ∈ cs.map (·.2)
        · exact .inr hb2
        · exact absurd ((if_neg nsB).trans (if_neg hb2)) z
theorem law_walk {m k : Nat} {l : PySem.W.OpenLaw} {q : Program} {loose : List Str} {XP : (Str → Option Value) → Heap → Prop} {YP : World → Heap → Prop} {d : DefRec} {K : Params → PySem.W.Frag} (ls : List Str) (hrec : ∀ x ∈ ls, ∃ e, (recsOf q).find? (fun e => e.name == x) = some e)
    (hm : m ≤ 63) (hn : l.most = some m) (hdf : d.params.defaults = []) (hr : Rm k callerA) (hY : ∀ (w : World) (h : Heap), YP w h → (K w.params).In h)
    (F : ∀ (w : World) (mg : Str → Option Value) (fa : Addr) (h : Heap), (K w.params).In h → h.Ns mainGlobals mg → mg d.name = some (.ref fa) →
      ∃ (fd : FuncData) (T : List (Addr × Str)), (∀ p ∈ T, ∃ x ∈ ls, ∃ c, PySem.W.tabIn (K w.params) x = some (c, p.1)) ∧ (∀ x ∈ ls, ∀ c Pt, PySem.W.tabIn (K w.params) x = some (c, Pt) → (K w.params).lookup Pt = none) ∧
        (∀ (s : Shared) (u : Value), BindsTo s fd ⟨[u], []⟩ [("script", u)]) ∧ ∀ base : Heap, (K w.params).In base → base.Ns mainGlobals mg → (∀ x ∈ ls, ∀ c Pt, PySem.W.tabIn (K w.params) x = some (c, Pt) → LamX.TabB base mg c Pt) →
          FnG l.prog w (K w.params) mg base (L2.CX l.prog w) k fa fd ["script"] (spLaw m (K w.params) T)) :
    PySem.W.WalkO q loose XP YP l.row.toRowW d [] (fun f vs => PySem.call f vs) := by
  refine Att.attach_callB hn hdf fun w s₀ s₁ mg mb fa o pm cd doc a vs ns G Y ho hd hcd hmg hobj hints hlen hbits hg => ?_
  have KX := hY w _ Y
  obtain ⟨fd, T, hT, hN, hb, hF⟩ := F w mg fa _ KX G.T.g hmg
  have mem : ∀ p ∈ ls.filterMap (PySem.W.tabIn (K w.params)), ∃ x ∈ ls, PySem.W.tabIn (K w.params) x = some (p.1, p.2) := fun p hp => let ⟨x, hx, e⟩ := List.mem_filterMap.mp hp; ⟨x, hx, e⟩
  have tab := fun p hp => let ⟨x, hx, e⟩ := mem p hp; let ⟨r, hr⟩ := hrec x hx; PySem.W.tab_of G.T KX hr e
  refine call_tabs KX G.T.g G.T.b G.T.builtins G.T.nolimit hg (fun p hp => (tab p hp).2) (fun p hp => let ⟨x, hx, e⟩ := mem p hp; hN x hx _ _ e) (fun p hp => (tab p hp).1) G.T.bmain hobj hints (Nat.le_trans hlen (Nat.le_trans hm (by decide))) hr
    (fun base h1 h2 h3 => hF base h1 h2 fun x hx c Pt e => h3 (c, Pt) (List.mem_filterMap.mpr ⟨x, hx, e⟩)) hb (fun H hH hS => ⟨fun p hp => ?_, a, ns, rfl, hS, hlen, fun _ _ e => e⟩) fun H e s' h => ?_
  · obtain ⟨x, hx, c, e⟩ := hT p hp
    exact ⟨#[], hH (c, p.1) (List.mem_filterMap.mpr ⟨x, hx, e⟩), trivial, fun pos cv z => nomatch z⟩
  · obtain ⟨_, _, _, _, _, _, _, _, _, _, _, _, z⟩ := h
    exact z
/-- a def whose lambdas' table is the one of the name q -/
structure Lam (P : TP) (mg : Str → Option Value) (base : Heap) (x : Str) (st : Stmt) (ps : List Str) (q : Str) : Prop where
  ex : ∃ f fd c Pt, Fun P.K x x st f fd ∧ fd.code = .ref c ∧ mg x = some (.ref f) ∧ Binds P.K fd ps [] ∧ LamX.TabB base mg c Pt ∧ (Pt, q) ∈ P.tabs ∧ ∀ p ∈ P.tabs, p.1 = Pt → p.2 = q
section
variable {prog : Program} {w : World} {mg : Str → Option Value} {base : Heap} {P : TP} {Gm : Cfg} {tab : Nat → Option Fn} {n i : Nat}
theorem Lam.dk {x q : Str} {st : Stmt} {ps : List Str} (l : Lam P mg base x st ps q) : Dk P.K mg x x st ps := let ⟨f, fd, _, _, F, _, m, b, _⟩ := l.ex; ⟨f, fd, F, m, b⟩
theorem cal_stepL {x q : Str} {st : Stmt} {ps N : List Str} {F : Fn} (ok : CfgOk P Gm) (lo : LoopOk Gm) (ht : tab i = some F) (ht2 : tab (i + xb) = none) (S : FnScope N ps (defScope st)) (hN : N.length = F.ns) (hp : F.io.length = F.np) (hps : ps.length = F.np) (d : Lam P mg base x st ps q)
    (hb : ∀ (f c Pt : Addr) (A : Around) (outer : List PySem.Env) (s : Shared) (H : Hp) (E : XK), LamX.TabB base mg c Pt → (Pt, q) ∈ P.tabs → (∀ p ∈ P.tabs, p.1 = Pt → p.2 = q) → Rm (4 * n + 7) (A.deeper (envOfC x (defScope st) s.heap.objs.size f (.ref c))) →
      PSs (cxOf (L2.CX prog w) prog w P.K mg base N x (defScope st) f (.ref c) A outer s H E) (defBody st) (tSs P (spec P (phi Gm tab n)) F.body E)) : Cal prog w P.K mg base (4 * (n + 2)) x (spec P (phi Gm tab (n + 1)) i) := by
  obtain ⟨f, fd, c, Pt, D, hc, m, b, tb, h1, h2⟩ := d.ex
  refine ⟨f, fd, ps, ?_, m, D.kp, b⟩
  obtain ⟨oc, od, kV, doc, pm, an, cdv, ct, osl, rfl, lk, hcd⟩ := D.ex
  have hc : cdv = .ref c := hc
  subst hc
  exact fg_of lk hcd S (fun vs H Q E h => (fn_sound ok lo ht ht2 hN hp h).1.trans hps.symm) fun A outer s H vs Q E hr h => ⟨_, hb f c Pt A outer s H E tb h1 h2 hr, (fn_sound ok lo ht ht2 hN hp h).2⟩
end
end Mi
set_option Elab.async false
set_option linter.all false
set_option maxRecDepth 100000
set_option maxHeartbeats 4000000
namespace Mi
open PySem PySem.Spec PyProof.Rows L2
section
variable {X : Cx} {P : TP} {i k j : Nat} {x y a : Str} {p p1 p2 pos lpos : Pos} {e : Expr} {es : List Expr} {t : TA} {E : XK}
theorem g_isx {ax D : Addr} {d : Option Addr} {oe : Obj} {pn : List (Addr × Obj)} (hK : X.K = P.K) (C : XcC P.K D) (hz : Zc (.ref D) d oe) (hf : ∃ vs, oe.data = .fields vs) (hg : Gl X "isinstance") (hm : X.mg "isinstance" = none) (he : PE (X.suite ax ((ax, oe) :: pn)) e (tVar i))
    (hgc : Gl X x) (hmc : X.mg x = some (.ref (P.cls k))) (hd : (x == ("__debug__" : Str)) = false := by decide)
    (hs : starEach [e, .Name x p2] X.env = (false, eval e X.env) :: starEach [.Name x p2] X.env := by rfl) (hs2 : starEach [.Name x p2] X.env = (false, eval (.Name x p2) X.env) :: starEach [] X.env := by rfl) (hpl : (backTo pos (starEach [.Name x p2] X.env)).any (·.1) = false := by rfl) :
    PE (X.suite ax ((ax, oe) :: pn)) (.Call (.Name "isinstance" p) [e, .Name x p2] [] pos) (tIsx (P.withX ax D d) (.ref ((P.withX ax D d).cls k)) (tVar i)) :=
  pe_isx (P := P.withX ax D d) hK rfl (by rw [hK]; exact C) hz hf hg hm he (pe_glob (X := X.suite ax ((ax, oe) :: pn)) (v := .ref (P.cls k)) hgc hmc rfl hd) (fun u r => r) hs hs2 hpl
theorem g_isb {ax D : Addr} {d : Option Addr} {oe : Obj} {pn : List (Addr × Obj)} {c : Expr} {n : String} (hK : X.K = P.K) (C : XcC P.K D) (hz : Zc (.ref D) d oe) (hf : ∃ vs, oe.data = .fields vs) (hg : Gl X "isinstance") (hm : X.mg "isinstance" = none) (he : PE (X.suite ax ((ax, oe) :: pn)) e (tVar i))
    (hc : PE (X.suite ax ((ax, oe) :: pn)) c (tC (.ty n)))
    (hs : starEach [e, c] X.env = (false, eval e X.env) :: starEach [c] X.env := by rfl) (hs2 : starEach [c] X.env = (false, eval c X.env) :: starEach [] X.env := by rfl) (hpl : (backTo pos (starEach [c] X.env)).any (·.1) = false := by rfl) :
    PE (X.suite ax ((ax, oe) :: pn)) (.Call (.Name "isinstance" p) [e, c] [] pos) (tIsx (P.withX ax D d) (.type n) (tVar i)) :=
  pe_isx (P := P.withX ax D d) hK rfl (by rw [hK]; exact C) hz hf hg hm he hc (fun u r => r) hs hs2 hpl
theorem g_xat {ax D : Addr} {d : Option Addr} {oe : Obj} {pn : List (Addr × Obj)} {f : Str} {te : TE} (hK : X.K = P.K) (C : XcC P.K D) (hz : Zc (.ref D) d oe) (hf : ∃ vs, oe.data = .fields vs) (he : PE (X.suite ax ((ax, oe) :: pn)) e te) (hb : attributeBase e f X.env (eval e X.env) = eval e X.env := by rfl) :
    PE (X.suite ax ((ax, oe) :: pn)) (.Attribute e f pos) (tXa (P.withX ax D d) f te) := pe_xat (P := P.withX ax D d) hK rfl C hz hf he hb
/-- x(lambda: body) -/
theorem g_word {st : Stmt} {Ng : List Str} {params : Arguments} {body : Expr} {scope : Scope} {u : XK → TE} {c Pt : Addr} (dk : Dk X.K X.mg x x st [a]) (hk : k + 2 ≤ j) (hr : Rm j X.A) (hg : Gl X x) (Sg : FnScope Ng [a] (defScope st)) (ngE : Ng[0]? = some a) (visE : Vis (defScope st) a)
    (giv : ∀ g cdg q, Gives X.prog X.w X.K X.mg X.base X.A X.stack (k + 1) Ng x (defScope st) g cdg (defBody st) a q (TTg P i))
    (codeE : X.env.code = .ref c) (TB : LamX.TabB X.base X.mg c Pt) (tabE : (Pt, X.env.qual ++ "<lambda>") ∈ P.tabs) (hu : ∀ p ∈ P.tabs, p.1 = Pt → p.2 = X.env.qual ++ "<lambda>") (L : LamX.LamS X.env.scope scope) (defE : defaultsOf params X.env = ([], []))
    (bindE : ∀ (q : Str) (cl : List (Str × Addr)) (pm cv ctv : Value), bindArgs (PySem.W.kla_fn "<lambda>" q params body scope cl pm cv ctv) ⟨[], []⟩ = pure [])
    (bodyP : ∀ (A : Around) (outer : List PySem.Env) (s : Shared) (H : Hp) (E : XK) (f c' : Addr), Rm k (A.deeper (LamX.lamEnv X scope s.heap.objs.size f c')) → PE (LamX.lamCx X A outer s H E scope f c') body (u E))
    (dbE : (x == ("__debug__" : Str)) = false := by decide) (hd : (a == ("__debug__" : Str)) = false := by decide) (cdE : (a == ("__classdict__" : Str)) = false := by decide) :
    PE X (.Call (.Name x p) [.Lambda params body scope lpos] [] pos) (tWd P i u) := by
  obtain ⟨f, fd, D, m, b⟩ := dk
  have kp := D.kp
  obtain ⟨oc, od, kV, doc, pm, an, cdv, ct, osl, rfl, lk, hcd⟩ := D.ex
  have w := pe_word (T := P.tabs) (TT := TTg P i) (p := p) (pos := pos) (lpos := lpos) hg m kp lk hcd b Sg ngE visE (giv f cdv _) TB codeE tabE hu (hr.mono hk) L defE bindE bodyP dbE hd cdE
  exact ⟨fun pins s σ H Q I h => w.run pins s σ H Q I ⟨h.1, fun H1 g => ⟨g.tabs, fun H2 g2 => h.2 H2 ⟨fun a o e nt => g2.keep a o (g.keep a o e nt) nt, fun a n => g2.alive a (g.alive a n), g2.tabs⟩⟩⟩⟩
theorem tk_lam {A : Around} {outer : List PySem.Env} {s : Shared} {H : Hp} {scope : Scope} {f c' : Addr} : Takes (LamX.lamCx X A outer s H E scope f c') (fun cls d _ H' => E cls d H') := takes_of rfl rfl rfl rfl
theorem px_lam {A : Around} {outer : List PySem.Env} {s : Shared} {H : Hp} {scope : Scope} {f c' : Addr} : Passes (L2.CX (LamX.lamCx X A outer s H E scope f c').prog (LamX.lamCx X A outer s H E scope f c').w) (LamX.lamCx X A outer s H E scope f c') E := fun pins σ H1 s1 e s' I c => passes_call (E := E) tk_lam (fun _ _ _ _ h => h) pins σ H1 s1 e s' I c
theorem b_VE : bootBuiltins ("ValueError" : Str) = some (.type "ValueError") := by decide +kernel
end
def subOf (l : List (Nat × Nat × Bool)) (C k : Nat) : Option Bool := (l.find? fun t => t.1 == C && t.2.1 == k).map (·.2.2)
theorem subOf_mem {l : List (Nat × Nat × Bool)} {C k : Nat} {b : Bool} (h : subOf l C k = some b) : (C, k, b) ∈ l := by
  unfold subOf at h
  cases q : l.find? fun t => t.1 == C && t.2.1 == k with
  | none => rw [q] at h; cases h
  | some t =>
    rw [q] at h
    have m := List.mem_of_find?_eq_some q
    have e := List.find?_some q
    obtain ⟨a, c, d⟩ := t
    simp only [Bool.and_eq_true, beq_iff_eq] at e
    cases h
    rw [← e.1, ← e.2]
    exact m
def subBOf (l : List (Nat × String × Bool)) (C : Nat) (n : String) : Option Bool := (l.find? fun t => t.1 == C && t.2.1 == n).map (·.2.2)
theorem subBOf_mem {l : List (Nat × String × Bool)} {C : Nat} {n : String} {b : Bool} (h : subBOf l C n = some b) : (C, n, b) ∈ l := by
  unfold subBOf at h
  cases q : l.find? fun t => t.1 == C && t.2.1 == n with
  | none => rw [q] at h; cases h
  | some t =>
    rw [q] at h
    have m := List.mem_of_find?_eq_some q
    have e := List.find?_some q
    obtain ⟨a, c, d⟩ := t
    simp only [Bool.and_eq_true, beq_iff_eq] at e
    cases h
    rw [← e.1, ← e.2]
    exact m
def xfOf (l : List (Nat × Str)) (C : Nat) (f : Str) : Bool := l.any fun t => t.1 == C && decide (t.2 = f)
theorem xfOf_mem {l : List (Nat × Str)} {C : Nat} {f : Str} (h : xfOf l C f = true) : (C, f) ∈ l := by
  obtain ⟨⟨a, c⟩, m, e⟩ := List.any_eq_true.mp h
  simp only [Bool.and_eq_true, beq_iff_eq, decide_eq_true_eq] at e
  rw [← e.1, ← e.2]
  exact m
def rho (Gm0 : Cfg) (ns : Nat) (pre : Ss) : Env := match evSs Gm0 noPhi [0] pre (List.replicate ns none) with
  | some (.nx, ρ) => ρ
  | _ => []
theorem oex_of {K : PySem.W.Frag} {C : Addr} {nm : Str} {q N bs bm sn sub ab col dd k0 k1 k2 k3 k5} (l : K.lookup C = some (excClassObj nm q C N bs bm true sn sub ab col dd k0 k1 k2 k3 k5 "ValueError.__new__")) (r : PySem.HandSPX.refsVE bm = true)
    (sa : PySem.W.findIn K (.ref C) "__setattr__" = some (some (.builtin "object.__setattr__"))) (exC : PySem.W.subIn K (.ref C) (.type "BaseException") = some true) (tyC : PySem.W.typeIn K (.ref C) = some (.type "type")) (kC : PySem.W.keepIn K (.ref C) = true) : OexC K C :=
  ⟨⟨nm, q, N, bs, bm, sn, sub, ab, col, dd, k0, k1, k2, k3, k5, l, r⟩, sa, exC, tyC, kC⟩
theorem xc_of {K : PySem.W.Frag} {D : Addr} {cd : ClassData} (cl : PySem.W.clsIn K D = some cd) (ga : PySem.W.findIn K (.ref D) "__getattribute__" = some (some (.builtin "BaseException.__getattribute__"))) (gt : PySem.W.findIn K (.ref D) "__getattr__" = some none) (su : PySem.W.subIn K (.ref D) (.type "BaseException") = some true)
    (ct : PySem.W.findIn K (.ref D) "__class__" = some (some (.builtin "object.__class__"))) (sp : PySem.W.specialIn K (.builtin "object.__class__") "__get__" = some (some (.builtin "getset_descriptor.__get__"))) (tk : PySem.W.takesIn K (.builtin "object.__class__") = some true) (mr : PySem.W.mroIn K D (.type "object") = some true) (hd : PySem.W.hasDictIn K D = true) : XcC K D :=
  ⟨by rw [cl]; rfl, ga, gt, su, ct, sp, tk, mr, hd⟩
theorem kit_of {K : PySem.W.Frag} {C D : Addr} {cd : ClassData} {b : Bool} (cl : PySem.W.clsIn K D = some cd) (ty : PySem.W.typeIn K (.ref D) = some (.type "type")) (su : PySem.W.subIn K (.ref C) (.ref D) = some b) (hb : C = D → b = true) : PySem.W.kitOne K (.ref C) (.ref D) = some b := by
  unfold PySem.W.kitOne
  by_cases h : C = D
  · rw [if_pos (by rw [h]; exact beq_self_eq_true _), hb h]
  · rw [if_neg (by intro z; exact h (Value.ref.inj (beq_iff_eq.mp z)))]
    show (if ((PySem.W.clsIn K D).isSome && PySem.W.typeIn K (.ref D) == some (.type "type")) = true then PySem.W.subIn K (.ref C) (.ref D) else none) = some b
    rw [cl, ty, if_pos (by rfl)]
    exact su
theorem kitB_of {K : PySem.W.Frag} {C : Addr} {T : String} {b : Bool} (hT : PySem.W.kitMeta T = true) (su : PySem.W.subIn K (.ref C) (.type T) = some b) : PySem.W.kitOne K (.ref C) (.type T) = some b := by
  unfold PySem.W.kitOne
  rw [if_neg (by intro z; exact nomatch (beq_iff_eq.mp z))]
  show (if PySem.W.kitMeta T = true then _ else _) = _
  rw [if_pos hT]
  exact su
theorem tabIn_of {K : PySem.W.Frag} {x : Str} {f c Pt : Addr} {oc e : Value} {od dd : Option Addr} {fd : FuncData} {osl sl : Array (Option Value)} {vs : Array Value} (a : PySem.W.nsIn K mainGlobals x = some (some (.ref f))) (l : K.lookup f = some ⟨oc, od, .func fd, osl⟩) (hc : fd.code = .ref c)
    (l2 : K.lookup c = some ⟨e, dd, .fields vs, sl⟩) (h : vs[11]? = some (.ref Pt)) : PySem.W.tabIn K x = some (c, Pt) := by
  unfold PySem.W.tabIn
  rw [a]
  dsimp only
  rw [l]
  dsimp only
  rw [hc]
  dsimp only
  rw [l2]
  dsimp only
  rw [h]
theorem fa_nil {α : Type} {p : α → Prop} : ∀ x ∈ ([] : List α), p x := fun _ h => nomatch h
theorem fa_cons {α : Type} {p : α → Prop} {a : α} {l : List α} (h : p a) (t : ∀ x ∈ l, p x) : ∀ x ∈ a :: l, p x := fun x hx => by
  rcases List.mem_cons.mp hx with e | e
  · rw [e]; exact h
  · exact t x e
def fnOf (l : List (Nat × Addr)) (i : Nat) : Option Addr := (l.find? fun t => t.1 == i).map (·.2)
theorem fnOf_mem {l : List (Nat × Addr)} {i : Nat} {a : Addr} (h : fnOf l i = some a) : (i, a) ∈ l := by
  unfold fnOf at h
  cases q : l.find? fun t => t.1 == i with
  | none => rw [q] at h; cases h
  | some t =>
    rw [q] at h
    have m := List.mem_of_find?_eq_some q
    have e := List.find?_some q
    obtain ⟨b, c⟩ := t
    simp only [beq_iff_eq] at e
    cases h
    rw [← e]
    exact m
def XRoot (K : PySem.W.Frag) (R : Addr) (qual : Str) (st : Stmt) (ps : List Str) (Cs : List Addr) : Prop :=
  ∃ fI fd, Fun K "__init__" qual st fI fd ∧ Binds K fd ps [] ∧ PySem.W.typeIn K (.ref fI) = some (.type "function") ∧ PySem.W.keepIn K (.ref fI) = true ∧ PySem.W.findCls K (.ref R) (.type "type") "__init__" = some (.val (.ref fI)) ∧ PySem.W.readsIn K R (.type "type") = true ∧
    PySem.W.specialIn K (.ref R) "__getattribute__" = some (some (.builtin "type.__getattribute__")) ∧ ∀ C ∈ Cs, PySem.W.findIn K (.ref C) "__init__" = some (some (.ref fI))
def XOwn (K : PySem.W.Frag) (C : Addr) (qual : Str) (st : Stmt) (ps : List Str) : Prop :=
  ∃ fI fd, Fun K "__init__" qual st fI fd ∧ Binds K fd ps [] ∧ PySem.W.typeIn K (.ref fI) = some (.type "function") ∧ PySem.W.findIn K (.ref C) "__init__" = some (some (.ref fI))
theorem xroot_of {K : PySem.W.Frag} {R f : Addr} {qual : Str} {st : Stmt} {ps : List Str} {Cs : List Addr} {oc kV doc pm cdv ct : Value} {od an : Option Addr} {osl : Array (Option Value)} (a : PySem.W.findIn K (.ref R) "__init__" = some (some (.ref f)))
    (l : K.lookup f = some ⟨oc, od, .func (PySem.W.fnOf "__init__" qual (defArgs st) (defBody st) (defScope st) .none kV doc pm an cdv ct), osl⟩) (c : PySem.W.codeIn K cdv qual = true) (k : PySem.W.keepIn K (.ref f) = true) (ty : PySem.W.typeIn K (.ref f) = some (.type "function"))
    (fc : PySem.W.findCls K (.ref R) (.type "type") "__init__" = some (.val (.ref f))) (rd : PySem.W.readsIn K R (.type "type") = true) (ga : PySem.W.specialIn K (.ref R) "__getattribute__" = some (some (.builtin "type.__getattribute__"))) (hCs : ∀ C ∈ Cs, PySem.W.findIn K (.ref C) "__init__" = some (some (.ref f)))
    (hb : ∀ (kV doc pm : Value) (an : Option Addr) (cdv ct : Value) (us : List Value), us.length = ps.length → bindArgs (PySem.W.fnOf "__init__" qual (defArgs st) (defBody st) (defScope st) .none kV doc pm an cdv ct) ⟨us, []⟩ = pure (ps.zip us)) : XRoot K R qual st ps Cs :=
  ⟨f, _, fun_mk l c k, (fun_mk l c k).binds hb, ty, k, fc, rd, ga, hCs⟩
theorem xown_of {K : PySem.W.Frag} {C f : Addr} {qual : Str} {st : Stmt} {ps : List Str} {oc kV doc pm cdv ct : Value} {od an : Option Addr} {osl : Array (Option Value)} (a : PySem.W.findIn K (.ref C) "__init__" = some (some (.ref f)))
    (l : K.lookup f = some ⟨oc, od, .func (PySem.W.fnOf "__init__" qual (defArgs st) (defBody st) (defScope st) .none kV doc pm an cdv ct), osl⟩) (c : PySem.W.codeIn K cdv qual = true) (k : PySem.W.keepIn K (.ref f) = true) (ty : PySem.W.typeIn K (.ref f) = some (.type "function"))
    (hb : ∀ (kV doc pm : Value) (an : Option Addr) (cdv ct : Value) (us : List Value), us.length = ps.length → bindArgs (PySem.W.fnOf "__init__" qual (defArgs st) (defBody st) (defScope st) .none kV doc pm an cdv ct) ⟨us, []⟩ = pure (ps.zip us)) : XOwn K C qual st ps :=
  ⟨f, _, fun_mk l c k, (fun_mk l c k).binds hb, ty, a⟩
theorem vVE (K : PySem.W.Frag) : PySem.W.findCls K (.type "ValueError") (.type "type") "__init__" = some (.val (.builtin "ValueError.__init__")) := by kernel_rfl
section
variable {prog : Program} {w : World} {K : PySem.W.Frag} {mg : Str → Option Value} {base : Heap} {R C : Addr} {xR x qR q fld : Str} {sR st : Stmt} {Cs : List Addr}
/-- a class whose own __init__ calls the root's and keeps one field -/
theorem xm1 {N ps NR psR : List Str} (hNR : NR.length = 1) (hpsR : psR.length = 1) (SR : FnScope NR psR (defScope sR)) (r : XRoot K R qR sR psR Cs) (mR : mg xR = some (.ref R))
    (hbR : ∀ (f : Addr) (cdv : Value) (A : Around) (outer : List PySem.Env) (s : Shared) (H : Hp) (E : XK), PSs (cxOf (L2.CX prog w) prog w K mg base NR qR (defScope sR) f cdv A outer s H E) (defBody sR) (tSeq (tDrop (tVeI K (tCons (tVar 0) tNil))) tNext))
    (hN : N.length = 2) (hps : ps.length = 2) (S : FnScope N ps (defScope st)) (xo : XOwn K C q st ps) (o : OexC K C) (m : mg x = some (.ref C))
    (hb : ∀ (f fR : Addr) (fdR : FuncData) (cdv : Value) (A : Around) (outer : List PySem.Env) (s : Shared) (H : Hp) (E : XK), Rm 1 (A.deeper (envOfC q (defScope st) s.heap.objs.size f cdv)) → FnG prog w K mg base (L2.CX prog w) 1 fR fdR psR (spX0 K) → PySem.W.readsIn K R (.type "type") = true →
      PySem.W.specialIn K (.ref R) "__getattribute__" = some (some (.builtin "type.__getattribute__")) → PySem.W.findCls K (.ref R) (.type "type") "__init__" = some (.val (.ref fR)) → PySem.W.keepIn K (.ref fR) = true → Binds K fdR psR [] →
      PSs (cxOf (L2.CX prog w) prog w K mg base N q (defScope st) f cdv A outer s H E) (defBody st) (tSeq (tDrop (tCall (spX0 K) [] E0 (tCons (tVar 0) tNil))) (tSeq (tOst K fld (tVar 0) (tVar 1)) tNext))) : XMk prog w K mg base 2 x C (spX1 K fld) := by
  obtain ⟨fI, fd, F, b, ty, kp, fc, rd, ga, h⟩ := r
  obtain ⟨f1, fd1, F1, b1, ty1, i1⟩ := xo
  exact ⟨o, ⟨f1, fd1, ps, xin1 hN hps S F1 fun cdv A outer s H E hr => hb f1 fI fd cdv A outer s H E hr (xin0 hNR hpsR SR F fun cdv A outer s H E _ => hbR fI cdv A outer s H E) rd ga fc kp b, i1, ty1, b1⟩, m⟩
end
def Dkc (K : PySem.W.Frag) (mg : Str → Option Value) (x : Str) (st : Stmt) (ps : List Str) (c : Addr) : Prop := ∃ f fd, Fun K x x st f fd ∧ fd.code = .ref c ∧ mg x = some (.ref f) ∧ Binds K fd ps []
theorem dkc_of {K : PySem.W.Frag} {h : Heap} {mg : Str → Option Value} {x : Str} {st : Stmt} {ps : List Str} {f c : Addr} {oc : Value} {od an : Option Addr} {osl : Array (Option Value)} {kV doc pm ct : Value} (X : K.In h) (G : h.Ns mainGlobals mg)
    (a : PySem.W.nsIn K mainGlobals x = some (some (.ref f))) (l : K.lookup f = some ⟨oc, od, .func (PySem.W.fnOf x x (defArgs st) (defBody st) (defScope st) .none kV doc pm an (.ref c) ct), osl⟩) (cd : PySem.W.codeIn K (.ref c) x = true) (k : PySem.W.keepIn K (.ref f) = true)
    (hb : ∀ (kV doc pm : Value) (an : Option Addr) (cdv ct : Value) (us : List Value), us.length = ps.length → bindArgs (PySem.W.fnOf x x (defArgs st) (defBody st) (defScope st) .none kV doc pm an cdv ct) ⟨us, []⟩ = pure (ps.zip us)) : Dkc K mg x st ps c :=
  ⟨f, _, fun_mk l cd k, rfl, PySem.W.mg_of X G a, (fun_mk l cd k).binds hb⟩
theorem Dkc.dk {K : PySem.W.Frag} {mg : Str → Option Value} {x : Str} {st : Stmt} {ps : List Str} {c : Addr} (d : Dkc K mg x st ps c) : Dk K mg x x st ps := let ⟨f, fd, F, _, m, b⟩ := d; ⟨f, fd, F, m, b⟩
theorem Dkc.lam {P : TP} {mg : Str → Option Value} {base : Heap} {x q : Str} {st : Stmt} {ps : List Str} {c Pt : Addr} (d : Dkc P.K mg x st ps c) (tb : LamX.TabB base mg c Pt) (m : (Pt, q) ∈ P.tabs) (hu : ∀ p ∈ P.tabs, ∀ p' ∈ P.tabs, p.1 = p'.1 → p.2 = p'.2) : Lam P mg base x st ps q :=
  let ⟨f, fd, F, hc, hm, b⟩ := d
  ⟨f, fd, c, Pt, F, hc, hm, b, tb, m, fun p hp e => hu p hp (Pt, q) m e⟩
theorem hu_oneS {X : Cx} {k : Nat} {a : Addr} {pn : List (Addr × Obj)} (hr : Rm k X.A) : (X.suite a pn).A.units + 1 < cLine := hu_one (X := X) hr
theorem hu_roomS {X : Cx} {k : Nat} {a : Addr} {pn : List (Addr × Obj)} (hr : Rm k X.A) : (X.suite a pn).A.units + 65 < cLine := hu_room (X := X) hr
end Mi
set_option Elab.async false
set_option linter.all false
set_option maxRecDepth 100000
set_option maxHeartbeats 4000000
namespace Mi
open PySem
theorem bindO_s {α β : Type} {a : α} {ρ : Env} {f : α → Env → Option (β × Env)} : bindO (some (a, ρ)) f = f a ρ := rfl
end Mi
open Mi
local macro_rules | `(tactic| array_mem_dec) => `(tactic| ((try simp only [Bool.not_true, Bool.false_eq_true, if_false]); (try rw [bindO_s]); (try dsimp only); (try rw [Option.bind_some])))
namespace Mi
open PySem
section
variable {Gm : Cfg} {Φ : Phi} {fx : List Nat}
def wE (Gm : Cfg) (Φ : Phi) (e : E) (ρ : Env) (Q : R → Env → Prop) : Prop := ∃ r ρ', evE Gm Φ e ρ = some (r, ρ') ∧ Q r ρ'
def wT (Gm : Cfg) (Φ : Phi) (e : T) (ρ : Env) (Q : Bool → Env → Prop) : Prop := ∃ r ρ', evT Gm Φ e ρ = some (r, ρ') ∧ Q r ρ'
def wA (Gm : Cfg) (Φ : Phi) (e : Es) (ρ : Env) (Q : List R → Env → Prop) : Prop := ∃ r ρ', evEs Gm Φ e ρ = some (r, ρ') ∧ Q r ρ'
def wO (Gm : Cfg) (Φ : Phi) (e : Oe) (ρ : Env) (Q : Option Int → Env → Prop) : Prop := ∃ r ρ', evOe Gm Φ e ρ = some (r, ρ') ∧ Q r ρ'
def wI (Gm : Cfg) (Φ : Phi) (e : It) (ρ : Env) (Q : List Itm → Env → Prop) : Prop := ∃ r ρ', evIt Gm Φ e ρ = some (r, ρ') ∧ Q r ρ'
def wS (Gm : Cfg) (Φ : Phi) (fx : List Nat) (s : S) (ρ : Env) (Q : Fl → Env → Prop) : Prop := ∃ f ρ', evS Gm Φ fx s ρ = some (f, ρ') ∧ Q f ρ'
def wB (Gm : Cfg) (Φ : Phi) (fx : List Nat) (s : Ss) (ρ : Env) (Q : Fl → Env → Prop) : Prop := ∃ f ρ', evSs Gm Φ fx s ρ = some (f, ρ') ∧ Q f ρ'
variable {ρ : Env} {Q : R → Env → Prop}
theorem w_own {i : Nat} {d : D} (h : eget ρ i = some (true, d)) (q : Q (.b i) ρ) : wE Gm Φ (.var i) ρ Q := ⟨_, _, by unfold evE; rw [h], q⟩
theorem w_fro {i : Nat} {d : D} (h : eget ρ i = some (false, d)) (q : Q (.v d) ρ) : wE Gm Φ (.var i) ρ Q := ⟨_, _, by unfold evE; rw [h], q⟩
theorem w_glob {i : Nat} {d : D} (h : Gm.glob i = some d) (q : Q (.v d) ρ) : wE Gm Φ (.glob i) ρ Q := ⟨_, _, by unfold evE; rw [h]; rfl, q⟩
theorem w_cint {i : Int} (q : Q (.v (.int i)) ρ) : wE Gm Φ (.cint i) ρ Q := ⟨_, _, by unfold evE; rfl, q⟩
theorem w_cbl {i : Bool} (q : Q (.v (.bl i)) ρ) : wE Gm Φ (.cbl i) ρ Q := ⟨_, _, by unfold evE; rfl, q⟩
theorem w_cnon (q : Q (.v .non) ρ) : wE Gm Φ .cnon ρ Q := ⟨_, _, by unfold evE; rfl, q⟩
theorem w_cty {i : String} (q : Q (.v (.ty i)) ρ) : wE Gm Φ (.cty i) ρ Q := ⟨_, _, by unfold evE; rfl, q⟩
theorem w_cstr {i : Str} (q : Q (.v (.str i)) ρ) : wE Gm Φ (.cstr i) ρ Q := ⟨_, _, by unfold evE; rfl, q⟩
theorem w_tup {es : Es} (h : wA Gm Φ es ρ fun rs ρ1 => ∃ ds ρ2, freezes rs ρ1 = some (ds, ρ2) ∧ ds.length ≤ line ∧ Q (.v (.tup ds)) ρ2) : wE Gm Φ (.tup es) ρ Q := by
  obtain ⟨rs, ρ1, e1, ds, ρ2, e2, hz, q⟩ := h
  exact ⟨_, _, by unfold evE; rw [e1]; array_mem_dec; rw [e2]; array_mem_dec; rw [if_pos hz], q⟩
theorem w_lst {es : Es} (h : wA Gm Φ es ρ fun rs ρ1 => ∃ ds ρ2, freezes rs ρ1 = some (ds, ρ2) ∧ ds.length ≤ line ∧ Q (.o (.lst ds)) ρ2) : wE Gm Φ (.lst es) ρ Q := by
  obtain ⟨rs, ρ1, e1, ds, ρ2, e2, hz, q⟩ := h
  exact ⟨_, _, by unfold evE; rw [e1]; array_mem_dec; rw [e2]; array_mem_dec; rw [if_pos hz], q⟩
theorem w_bin {op : BOp} {a b : E} (h : wE Gm Φ a ρ fun ra ρ1 => wE Gm Φ b ρ1 fun rb ρ2 => ∃ x y d, deref ρ2 ra = some x ∧ deref ρ2 rb = some y ∧ binD op x y = some d ∧ Q (asR op d) ρ2) : wE Gm Φ (.bin op a b) ρ Q := by
  obtain ⟨ra, ρ1, e1, rb, ρ2, e2, x, y, d, h1, h2, h3, q⟩ := h
  exact ⟨_, _, by unfold evE; rw [e1]; array_mem_dec; rw [e2]; array_mem_dec; rw [h1, h2]; array_mem_dec; rw [h3]; rfl, q⟩
theorem w_cmp {op : COp} {a b : E} (h : wE Gm Φ a ρ fun ra ρ1 => wE Gm Φ b ρ1 fun rb ρ2 => ∃ x y d, deref ρ2 ra = some x ∧ deref ρ2 rb = some y ∧ cmpD op x y = some d ∧ Q (.v (.bl d)) ρ2) : wE Gm Φ (.cmp op a b) ρ Q := by
  obtain ⟨ra, ρ1, e1, rb, ρ2, e2, x, y, d, h1, h2, h3, q⟩ := h
  exact ⟨_, _, by unfold evE; rw [e1]; array_mem_dec; rw [e2]; array_mem_dec; rw [h1, h2]; array_mem_dec; rw [h3]; rfl, q⟩
theorem w_idx {a b : E} (h : wE Gm Φ a ρ fun ra ρ1 => wE Gm Φ b ρ1 fun rb ρ2 => ∃ x y d, deref ρ2 ra = some x ∧ deref ρ2 rb = some y ∧ idxD x y = some d ∧ Q (.v d) ρ2) : wE Gm Φ (.idx a b) ρ Q := by
  obtain ⟨ra, ρ1, e1, rb, ρ2, e2, x, y, d, h1, h2, h3, q⟩ := h
  exact ⟨_, _, by unfold evE; rw [e1]; array_mem_dec; rw [e2]; array_mem_dec; rw [h1, h2]; array_mem_dec; rw [h3]; rfl, q⟩
theorem w_neg {a : E} (h : wE Gm Φ a ρ fun ra ρ1 => ∃ x d, deref ρ1 ra = some x ∧ negD x = some d ∧ Q (.v d) ρ1) : wE Gm Φ (.neg a) ρ Q := by
  obtain ⟨ra, ρ1, e1, x, d, h1, h3, q⟩ := h
  exact ⟨_, _, by unfold evE; rw [e1]; array_mem_dec; rw [h1]; array_mem_dec; rw [h3]; rfl, q⟩
theorem w_rev {a : E} (h : wE Gm Φ a ρ fun ra ρ1 => ∃ x d, deref ρ1 ra = some x ∧ revD x = some d ∧ Q d ρ1) : wE Gm Φ (.rev a) ρ Q := by
  obtain ⟨ra, ρ1, e1, x, d, h1, h3, q⟩ := h
  exact ⟨_, _, by unfold evE; rw [e1]; array_mem_dec; rw [h1]; array_mem_dec; rw [h3]; rfl, q⟩
theorem w_attr {a : E} {f : Str} (h : wE Gm Φ a ρ fun ra ρ1 => ∃ x d, deref ρ1 ra = some x ∧ attrD Gm.fields f x = some d ∧ Q (.v d) ρ1) : wE Gm Φ (.attr a f) ρ Q := by
  obtain ⟨ra, ρ1, e1, x, d, h1, h3, q⟩ := h
  exact ⟨_, _, by unfold evE; rw [e1]; array_mem_dec; rw [h1]; array_mem_dec; rw [h3]; rfl, q⟩
theorem w_notv {a : E} (h : wE Gm Φ a ρ fun ra ρ1 => ∃ b, ra = .v (.bl b) ∧ Q (.v (.bl (!b))) ρ1) : wE Gm Φ (.notv a) ρ Q := by
  obtain ⟨ra, ρ1, e1, b, rfl, q⟩ := h
  exact ⟨_, _, by unfold evE; rw [e1]; rfl, q⟩
theorem w_andv {a b : E} (h : wE Gm Φ a ρ fun ra ρ1 => ∃ k, ra = .v (.bl k) ∧ (k = true → wE Gm Φ b ρ1 Q) ∧ (k = false → Q (.v (.bl false)) ρ1)) : wE Gm Φ (.andv a b) ρ Q := by
  obtain ⟨ra, ρ1, e1, k, rfl, h1, h2⟩ := h
  cases k with
  | true => obtain ⟨r, ρ2, e2, q⟩ := h1 rfl; exact ⟨_, _, by unfold evE; rw [e1]; exact e2, q⟩
  | false => exact ⟨_, _, by unfold evE; rw [e1]; rfl, h2 rfl⟩
theorem w_orv {a b : E} (h : wE Gm Φ a ρ fun ra ρ1 => ∃ k, ra = .v (.bl k) ∧ (k = true → Q (.v (.bl true)) ρ1) ∧ (k = false → wE Gm Φ b ρ1 Q)) : wE Gm Φ (.orv a b) ρ Q := by
  obtain ⟨ra, ρ1, e1, k, rfl, h1, h2⟩ := h
  cases k with
  | false => obtain ⟨r, ρ2, e2, q⟩ := h2 rfl; exact ⟨_, _, by unfold evE; rw [e1]; exact e2, q⟩
  | true => exact ⟨_, _, by unfold evE; rw [e1]; rfl, h1 rfl⟩
theorem w_chain {op op' : COp} {a b z : E} (h : wE Gm Φ a ρ fun ra ρ1 => wE Gm Φ b ρ1 fun rb ρ2 => ∃ x y k, ra = .v x ∧ rb = .v y ∧ cmpD op x y = some k ∧
    (k = true → wE Gm Φ z ρ2 fun rc ρ3 => ∃ w j, deref ρ3 rc = some w ∧ cmpD op' y w = some j ∧ Q (.v (.bl j)) ρ3) ∧ (k = false → Q (.v (.bl false)) ρ2)) : wE Gm Φ (.chain op op' a b z) ρ Q := by
  obtain ⟨ra, ρ1, e1, rb, ρ2, e2, x, y, k, rfl, rfl, h1, h2, h3⟩ := h
  cases k with
  | true =>
    obtain ⟨rc, ρ3, e3, w, j, h4, h5, q⟩ := h2 rfl
    exact ⟨_, _, by unfold evE; rw [e1]; array_mem_dec; rw [e2]; array_mem_dec; rw [h1]; array_mem_dec; rw [e3]; array_mem_dec; rw [h4]; array_mem_dec; rw [h5]; rfl, q⟩
  | false =>
    exact ⟨_, _, by unfold evE; rw [e1]; array_mem_dec; rw [e2]; array_mem_dec; rw [h1], h3 rfl⟩
theorem w_ite {c : T} {a b : E} (h : wT Gm Φ c ρ fun k ρ1 => (k = true → wE Gm Φ a ρ1 Q) ∧ (k = false → wE Gm Φ b ρ1 Q)) : wE Gm Φ (.ite c a b) ρ Q := by
  obtain ⟨k, ρ1, e1, h1, h2⟩ := h
  cases k with
  | true => obtain ⟨r, ρ2, e2, q⟩ := h1 rfl; exact ⟨_, _, by unfold evE; rw [e1]; exact e2, q⟩
  | false => obtain ⟨r, ρ2, e2, q⟩ := h2 rfl; exact ⟨_, _, by unfold evE; rw [e1]; exact e2, q⟩
theorem w_sl {a : E} {lo hi : Oe} (h : wE Gm Φ a ρ fun ra ρ1 => wO Gm Φ lo ρ1 fun l ρ2 => wO Gm Φ hi ρ2 fun u ρ3 => ∃ x r, deref ρ3 ra = some x ∧ slD x l u = some r ∧ Q r ρ3) : wE Gm Φ (.sl a lo hi) ρ Q := by
  obtain ⟨ra, ρ1, e1, l, ρ2, e2, u, ρ3, e3, x, r, h1, h2, q⟩ := h
  exact ⟨_, _, by unfold evE; rw [e1]; array_mem_dec; rw [e2]; array_mem_dec; rw [e3]; array_mem_dec; rw [h1]; array_mem_dec; rw [h2]; rfl, q⟩
theorem w_callb {f : Blt} {es : Es} (h : wA Gm Φ es ρ fun rs ρ1 => ∃ ds r, derefs ρ1 rs = some ds ∧ bltD f ds = some r ∧ Q r ρ1) : wE Gm Φ (.callb f es) ρ Q := by
  obtain ⟨rs, ρ1, e1, ds, r, h1, h2, q⟩ := h
  exact ⟨_, _, by unfold evE; rw [e1]; array_mem_dec; rw [h1]; array_mem_dec; rw [h2]; rfl, q⟩
theorem w_meth {m : Mth} {a b : E} (h : wE Gm Φ a ρ fun ra ρ1 => wE Gm Φ b ρ1 fun rb ρ2 => ∃ x0 x y d, deref ρ1 ra = some x0 ∧ deref ρ2 ra = some x ∧ deref ρ2 rb = some y ∧ kindD x0 = kindD x ∧ mthD m x y = some d ∧ Q (.v d) ρ2) : wE Gm Φ (.meth m a b) ρ Q := by
  obtain ⟨ra, ρ1, e1, rb, ρ2, e2, x0, x, y, d, h0, h1, h2, hk, h3, q⟩ := h
  exact ⟨_, _, by unfold evE; rw [e1]; array_mem_dec; rw [e2]; array_mem_dec; rw [h0, h1, h2]; array_mem_dec; rw [if_pos hk, h3]; rfl, q⟩
theorem w_mut {m : Mut} {i : Nat} {es : Es} {l0 : List D} (h0 : eget ρ i = some (true, .lst l0)) (h : wA Gm Φ es ρ fun rs ρ1 => ∃ ds ρ2 l p, freezes rs ρ1 = some (ds, ρ2) ∧ eget ρ2 i = some (true, .lst l) ∧ mutD m l ds = some p ∧ Q (.v p.2) (ρ2.set i (some (true, .lst p.1)))) : wE Gm Φ (.mut m i es) ρ Q := by
  obtain ⟨rs, ρ1, e1, ds, ρ2, l, p, h1, h2, h3, q⟩ := h
  exact ⟨_, _, by unfold evE; rw [h0]; array_mem_dec; rw [e1]; array_mem_dec; rw [h1]; array_mem_dec; rw [h2]; array_mem_dec; rw [h3]; rfl, q⟩
/-- a call, its arguments known -/
structure CallW (Gm : Cfg) (Φ : Phi) (f : Nat) (rs : List R) (ρ1 : Env) (Q : R → Env → Prop) : Prop where
  h : ∃ r ρ', callF Gm Φ f rs ρ1 = some (r, ρ') ∧ Q r ρ'
theorem w_call {f : Nat} {es : Es} (h : wA Gm Φ es ρ fun rs ρ1 => CallW Gm Φ f rs ρ1 Q) : wE Gm Φ (.call f es) ρ Q := by
  obtain ⟨rs, ρ1, e1, r, ρ', e2, q⟩ := h
  exact ⟨r, ρ', by unfold evE; rw [e1]; exact e2, q⟩
theorem w_callx {f : Nat} {es : Es} (h : wA Gm Φ es ρ fun rs ρ1 => CallW Gm Φ f rs ρ1 Q) : wE Gm Φ (.callx f es) ρ Q := by
  obtain ⟨rs, ρ1, e1, r, ρ', e2, q⟩ := h
  exact ⟨r, ρ', by unfold evE; rw [e1]; exact e2, q⟩
theorem w_isc {e : E} {C : Nat} (hk : Gm.isk C = true) (h : wE Gm Φ e ρ fun r ρ1 => ∃ d b, deref ρ1 r = some d ∧ iscD C d = some b ∧ Q (.v (.bl b)) ρ1) : wE Gm Φ (.isc e C) ρ Q := by
  obtain ⟨r, ρ1, e1, d, b, h1, h2, q⟩ := h
  exact ⟨_, _, by unfold evE; rw [e1]; array_mem_dec; rw [if_pos hk, h1]; array_mem_dec; rw [h2]; rfl, q⟩
theorem w_isit {e : E} {ns : List String} (h : wE Gm Φ e ρ fun r ρ1 => ∃ d b, deref ρ1 r = some d ∧ isAnyD ns d = some b ∧ Q (.v (.bl b)) ρ1) : wE Gm Φ (.isit e ns) ρ Q := by
  obtain ⟨r, ρ1, e1, d, b, h1, h2, q⟩ := h
  exact ⟨_, _, by unfold evE; rw [e1]; array_mem_dec; rw [h1]; array_mem_dec; rw [h2]; rfl, q⟩
/-- two instances compared, both known -/
structure EqW (Gm : Cfg) (Φ : Phi) (neg : Bool) (C k : Nat) (rs : List R) (ρ1 : Env) (Q : R → Env → Prop) : Prop where
  h : ∃ t ρ', twoC C (derefs ρ1 rs) = true ∧ callF Gm Φ k rs ρ1 = some (.v (.bl t), ρ') ∧ Q (.v (.bl (t != neg))) ρ'
theorem w_eqi {neg : Bool} {C k : Nat} {es : Es} (h : wA Gm Φ es ρ fun rs ρ1 => EqW Gm Φ neg C k rs ρ1 Q) : wE Gm Φ (.eqi neg C k es) ρ Q := by
  obtain ⟨rs, ρ1, e1, t, ρ', h1, h2, q⟩ := h
  exact ⟨_, _, by unfold evE; rw [e1]; array_mem_dec; rw [if_pos h1, h2]; rfl, q⟩
theorem w_fnv {i : Nat} (h : Gm.isfn i = true) (q : Q (.v (.fn i)) ρ) : wE Gm Φ (.fnv i) ρ Q := ⟨_, _, by unfold evE; rw [if_pos h], q⟩
/-- it lends no owned thing for reading -/
theorem call_by {f : Nat} {rs : List R} {ρ1 : Env} {io : List Bool} {as : List Arg} {ios : List Nat} {r : R} {outs : List D} (h1 : Gm.io f = some io) (h2 : takeArgs ρ1 rs io = some (as, ios, [])) (hn : decide ios.Nodup = true) (e : Φ f as = some (r, outs)) (hl : outs.length = ios.length) (q : Q r (setOuts ρ1 ios outs)) : CallW Gm Φ f rs ρ1 Q := by
  refine ⟨r, _, ?_, q⟩
  unfold callF
  rw [h1]
  dsimp only
  rw [h2]
  dsimp only
  rw [List.append_nil, if_pos (of_decide_eq_true hn), e]
  dsimp only
  rw [if_pos hl]
  rfl
theorem eq_by {neg : Bool} {C k : Nat} {rs : List R} {ρ1 : Env} {io : List Bool} {as : List Arg} {t : Bool} (h0 : twoC C (derefs ρ1 rs) = true) (h1 : Gm.io k = some io) (h2 : takeArgs ρ1 rs io = some (as, [], [])) (e : Φ k as = some (.v (.bl t), [])) (q : Q (.v (.bl (t != neg))) ρ1) : EqW Gm Φ neg C k rs ρ1 Q := by
  refine ⟨t, _, h0, ?_, q⟩
  unfold callF
  rw [h1]
  dsimp only
  rw [h2]
  dsimp only
  rw [if_pos (by exact List.nodup_nil), e]
  rfl
structure MakeW (Gm : Cfg) (Φ : Phi) (C : Nat) (rs : List R) (ρ1 : Env) (Q : R → Env → Prop) : Prop where
  h : ∃ r ρ', makeF Gm Φ C rs ρ1 = some (r, ρ') ∧ Q r ρ'
theorem w_make {C : Nat} {es : Es} (h : wA Gm Φ es ρ fun rs ρ1 => MakeW Gm Φ C rs ρ1 Q) : wE Gm Φ (.make C es) ρ Q := by
  obtain ⟨rs, ρ1, e1, r, ρ', e2, q⟩ := h
  exact ⟨r, ρ', by unfold evE; rw [e1]; exact e2, q⟩
theorem w_makex {C : Nat} {es : Es} (h : wA Gm Φ es ρ fun rs ρ1 => MakeW Gm Φ C rs ρ1 Q) : wE Gm Φ (.makex C es) ρ Q := by
  obtain ⟨rs, ρ1, e1, r, ρ', e2, q⟩ := h
  exact ⟨r, ρ', by unfold evE; rw [e1]; exact e2, q⟩
theorem make_by {C : Nat} {rs : List R} {ρ1 ρ2 : Env} {io : List Bool} {ds : List D} {d : D} (h1 : freezes rs ρ1 = some (ds, ρ2)) (h2 : Gm.io C = some io) (h3 : io = (true :: ds.map fun _ => false)) (e : Φ C ((true, .ins C [] []) :: ds.map fun d => (false, d)) = some (.v .non, [d])) (q : Q (.o d) ρ2) : MakeW Gm Φ C rs ρ1 Q := by
  refine ⟨_, _, ?_, q⟩
  unfold makeF
  rw [h1]
  dsimp only
  rw [h2]
  dsimp only
  rw [if_pos h3, e]
theorem w_lrange1 {a : E} (h : wE Gm Φ a ρ fun r ρ1 => ∃ j l, r = .v (.int j) ∧ rangeD 0 j = some l ∧ Q (.o (.lst l)) ρ1) : wE Gm Φ (.lrange (.cons a .nil)) ρ Q := by
  obtain ⟨r, ρ1, e1, j, l, rfl, h1, q⟩ := h
  refine ⟨_, _, ?_, q⟩
  unfold evE
  have e2 : evEs Gm Φ (.cons a .nil) ρ = some ([.v (.int j)], ρ1) := by unfold evEs; rw [e1]; rfl
  rw [e2]
  array_mem_dec
  rw [h1]
  rfl
theorem w_lrange2 {a b : E} (h : wE Gm Φ a ρ fun r ρ1 => wE Gm Φ b ρ1 fun r' ρ2 => ∃ i j l, r = .v (.int i) ∧ r' = .v (.int j) ∧ rangeD i j = some l ∧ Q (.o (.lst l)) ρ2) : wE Gm Φ (.lrange (.cons a (.cons b .nil))) ρ Q := by
  obtain ⟨r, ρ1, e1, r', ρ2, e2, i, j, l, rfl, rfl, h1, q⟩ := h
  refine ⟨_, _, ?_, q⟩
  unfold evE
  have e3 : evEs Gm Φ (.cons a (.cons b .nil)) ρ = some ([.v (.int i), .v (.int j)], ρ2) := by
    unfold evEs
    rw [e1]
    array_mem_dec
    unfold evEs
    rw [e2]
    rfl
  rw [e3]
  array_mem_dec
  rw [h1]
  rfl
theorem w_comp {vs : List Nat} {tg : Tg} {it : It} {c : T} {e : E} (hv : tgIn vs tg = true) (h : wI Gm Φ it ρ fun its ρ1 => ∃ acc ρ2, compGo vs (fun d ρ2 => match setItm tg d ρ2 with
        | some ρ3 => bindO (evT Gm Φ c ρ3) fun k ρ4 => match k with
          | true => bindO (evE Gm Φ e ρ4) fun r ρ5 => bindO (freeze r ρ5) fun x ρ6 => some (some x, ρ6)
          | false => some (none, ρ4)
        | none => none) its [] ρ1 = some (acc, ρ2) ∧ Q (.o (.lst acc)) ρ2) : wE Gm Φ (.comp vs tg it c e) ρ Q := by
  obtain ⟨its, ρ1, e1, acc, ρ2, h1, q⟩ := h
  refine ⟨_, _, ?_, q⟩
  unfold evE
  rw [hv]
  array_mem_dec
  rw [e1]
  array_mem_dec
  exact congrArg (fun z => bindO z fun acc ρ7 => some (R.o (.lst acc), ρ7)) h1
/-- a turn -/
theorem w_turn {tg : Tg} {c : T} {e : E} {d : Itm} {ρ2 ρ3 : Env} {X : Option D → Env → Prop} (h0 : setItm tg d ρ2 = some ρ3)
    (h : wT Gm Φ c ρ3 fun k ρ4 => (k = true → wE Gm Φ e ρ4 fun r ρ5 => ∃ x ρ6, freeze r ρ5 = some (x, ρ6) ∧ X (some x) ρ6) ∧ (k = false → X none ρ4)) :
    ∃ x ρ', (match setItm tg d ρ2 with
        | some ρ3 => bindO (evT Gm Φ c ρ3) fun k ρ4 => match k with
          | true => bindO (evE Gm Φ e ρ4) fun r ρ5 => bindO (freeze r ρ5) fun x ρ6 => some (some x, ρ6)
          | false => some (none, ρ4)
        | none => none) = some (x, ρ') ∧ X x ρ' := by
  obtain ⟨k, ρ4, e1, h1, h2⟩ := h
  rw [h0]
  dsimp only
  rw [e1]
  cases k with
  | true =>
    obtain ⟨r, ρ5, e2, x, ρ6, e3, q⟩ := h1 rfl
    exact ⟨some x, ρ6, by array_mem_dec; rw [e2]; array_mem_dec; rw [e3]; rfl, q⟩
  | false => exact ⟨none, ρ4, rfl, h2 rfl⟩
/-- a comprehension that leaves the slots as they were; f: what a turn gives -/
theorem w_compP {vs : List Nat} {tg : Tg} {it : It} {c : T} {e : E} (hv : tgIn vs tg = true) (h : wI Gm Φ it ρ fun its ρ1 => ∃ f : Itm → Option D, (∀ x ∈ its, ∃ ρ3, setItm tg x (wipeE ρ1 vs) = some ρ3 ∧ wT Gm Φ c ρ3 fun k ρ4 =>
      (k = true → wE Gm Φ e ρ4 fun r ρ5 => ∃ y ρ6, freeze r ρ5 = some (y, ρ6) ∧ f x = some y ∧ back ρ1 ρ6 vs = ρ1) ∧ (k = false → f x = none ∧ back ρ1 ρ4 vs = ρ1)) ∧ Q (.o (.lst (its.filterMap f))) ρ1) : wE Gm Φ (.comp vs tg it c e) ρ Q := by
  refine w_comp hv ?_
  obtain ⟨its, ρ1, e1, f, h, q⟩ := h
  refine ⟨its, ρ1, e1, _, _, comp_pure (f := f) fun x hx => ?_, by rw [List.nil_append]; exact q⟩
  obtain ⟨ρ3, h0, hk⟩ := h x hx
  have t := w_turn (Gm := Gm) (Φ := Φ) (tg := tg) (c := c) (e := e) (X := fun y ρ' => y = f x ∧ back ρ1 ρ' vs = ρ1) h0 (by
    obtain ⟨k, ρ4, e2, h1, h2⟩ := hk
    refine ⟨k, ρ4, e2, fun hk => ?_, fun hk => ?_⟩
    · obtain ⟨r, ρ5, e3, y, ρ6, e4, e5, e6⟩ := h1 hk
      exact ⟨r, ρ5, e3, y, ρ6, e4, e5.symm, e6⟩
    · exact ⟨(h2 hk).1.symm, (h2 hk).2⟩)
  obtain ⟨y, ρ', e3, rfl, e4⟩ := t
  exact ⟨ρ', e3, e4⟩
/-- a comprehension without tests whose turns change slots -/
theorem w_compI {vs : List Nat} {tg : Tg} {it : It} {e : E} (hv : tgIn vs tg = true) (h : wI Gm Φ it ρ fun its ρ1 => ∃ I : Nat → List D → Env → Prop, I 0 [] ρ1 ∧
      (∀ i x acc ρ, its[i]? = some x → I i acc ρ → ∃ ρ3, setItm tg x (wipeE ρ vs) = some ρ3 ∧ wE Gm Φ e ρ3 fun r ρ5 => ∃ y ρ6, freeze r ρ5 = some (y, ρ6) ∧ I (i + 1) (acc ++ [y]) (back ρ ρ6 vs)) ∧
      ∀ acc ρ2, I its.length acc ρ2 → Q (.o (.lst acc)) ρ2) : wE Gm Φ (.comp vs tg it .yes e) ρ Q := by
  refine w_comp hv ?_
  obtain ⟨its, ρ1, e1, I, h0, hs, q⟩ := h
  obtain ⟨acc, ρ2, e2, i⟩ := comp_ind (vs := vs) (turn := fun d ρ2 => match setItm tg d ρ2 with
        | some ρ3 => bindO (evT Gm Φ .yes ρ3) fun k ρ4 => match k with
          | true => bindO (evE Gm Φ e ρ4) fun r ρ5 => bindO (freeze r ρ5) fun x ρ6 => some (some x, ρ6)
          | false => some (none, ρ4)
        | none => none) I h0 fun i x acc ρ hx hi => by
    obtain ⟨ρ3, g0, r, ρ5, g1, y, ρ6, g2, g3⟩ := hs i x acc ρ hx hi
    refine ⟨y, ρ6, ?_, g3⟩
    simp only [g0]
    unfold evT
    show bindO (evE Gm Φ e ρ3) _ = _
    rw [g1, bindO_s, g2, bindO_s]
  exact ⟨its, ρ1, e1, acc, ρ2, e2, q acc ρ2 i⟩
section
variable {Q : Bool → Env → Prop}
theorem w_yes (q : Q true ρ) : wT Gm Φ .yes ρ Q := ⟨_, _, by unfold evT; rfl, q⟩
theorem w_val {a : E} (h : wE Gm Φ a ρ fun ra ρ1 => ∃ b, ra = .v (.bl b) ∧ Q b ρ1) : wT Gm Φ (.val a) ρ Q := by
  obtain ⟨ra, ρ1, e1, b, rfl, q⟩ := h
  exact ⟨_, _, by unfold evT; rw [e1]; rfl, q⟩
theorem w_and {a b : T} (h : wT Gm Φ a ρ fun k ρ1 => (k = true → wT Gm Φ b ρ1 Q) ∧ (k = false → Q false ρ1)) : wT Gm Φ (.and a b) ρ Q := by
  obtain ⟨k, ρ1, e1, h1, h2⟩ := h
  cases k with
  | true => obtain ⟨r, ρ2, e2, q⟩ := h1 rfl; exact ⟨_, _, by unfold evT; rw [e1]; exact e2, q⟩
  | false => exact ⟨_, _, by unfold evT; rw [e1]; rfl, h2 rfl⟩
theorem w_or {a b : T} (h : wT Gm Φ a ρ fun k ρ1 => (k = true → Q true ρ1) ∧ (k = false → wT Gm Φ b ρ1 Q)) : wT Gm Φ (.or a b) ρ Q := by
  obtain ⟨k, ρ1, e1, h1, h2⟩ := h
  cases k with
  | false => obtain ⟨r, ρ2, e2, q⟩ := h2 rfl; exact ⟨_, _, by unfold evT; rw [e1]; exact e2, q⟩
  | true => exact ⟨_, _, by unfold evT; rw [e1]; rfl, h1 rfl⟩
theorem w_not {a : T} (h : wT Gm Φ a ρ fun k ρ1 => Q (!k) ρ1) : wT Gm Φ (.not a) ρ Q := by
  obtain ⟨k, ρ1, e1, q⟩ := h
  exact ⟨_, _, by unfold evT; rw [e1]; rfl, q⟩
end
theorem w_anil {Q : List R → Env → Prop} (q : Q [] ρ) : wA Gm Φ .nil ρ Q := ⟨_, _, by unfold evEs; rfl, q⟩
theorem w_acons {Q : List R → Env → Prop} {a : E} {r : Es} (h : wE Gm Φ a ρ fun x ρ1 => wA Gm Φ r ρ1 fun xs ρ2 => Q (x :: xs) ρ2) : wA Gm Φ (.cons a r) ρ Q := by
  obtain ⟨x, ρ1, e1, xs, ρ2, e2, q⟩ := h
  exact ⟨_, _, by unfold evEs; rw [e1]; array_mem_dec; rw [e2]; rfl, q⟩
theorem w_onone {Q : Option Int → Env → Prop} (q : Q none ρ) : wO Gm Φ .none ρ Q := ⟨_, _, by unfold evOe; rfl, q⟩
theorem w_osome {Q : Option Int → Env → Prop} {a : E} (h : wE Gm Φ a ρ fun x ρ1 => ∃ i, x = .v (.int i) ∧ Q (some i) ρ1) : wO Gm Φ (.some a) ρ Q := by
  obtain ⟨x, ρ1, e1, i, rfl, q⟩ := h
  exact ⟨_, _, by unfold evOe; rw [e1]; rfl, q⟩
section
variable {Q : List Itm → Env → Prop}
theorem w_seq {a : E} (h : wE Gm Φ a ρ fun r ρ1 => ∃ d ρ2 l, freeze r ρ1 = some (d, ρ2) ∧ itemsD d = some l ∧ Q (l.map .one) ρ2) : wI Gm Φ (.seq a) ρ Q := by
  obtain ⟨r, ρ1, e1, d, ρ2, l, h1, h2, q⟩ := h
  exact ⟨_, _, by unfold evIt; rw [e1]; array_mem_dec; unfold walkD; rw [h1]; array_mem_dec; rw [h2]; rfl, q⟩
theorem w_range1 {a : E} (h : wE Gm Φ a ρ fun r ρ1 => ∃ j l, r = .v (.int j) ∧ rangeD 0 j = some l ∧ Q (l.map .one) ρ1) : wI Gm Φ (.range1 a) ρ Q := by
  obtain ⟨r, ρ1, e1, j, l, rfl, h1, q⟩ := h
  exact ⟨_, _, by unfold evIt; rw [e1]; array_mem_dec; rw [h1]; rfl, q⟩
theorem w_range2 {a b : E} (h : wE Gm Φ a ρ fun r ρ1 => wE Gm Φ b ρ1 fun r' ρ2 => ∃ i j l, r = .v (.int i) ∧ r' = .v (.int j) ∧ rangeD i j = some l ∧ Q (l.map .one) ρ2) : wI Gm Φ (.range2 a b) ρ Q := by
  obtain ⟨r, ρ1, e1, r', ρ2, e2, i, j, l, rfl, rfl, h1, q⟩ := h
  exact ⟨_, _, by unfold evIt; rw [e1]; array_mem_dec; rw [e2]; array_mem_dec; rw [h1]; rfl, q⟩
theorem w_zip {a b : E} (h : wE Gm Φ a ρ fun r ρ1 => wE Gm Φ b ρ1 fun r' ρ2 => ∃ d ρ3 d' ρ4 l, freeze r ρ2 = some (d, ρ3) ∧ freeze r' ρ3 = some (d', ρ4) ∧ zipD d d' = some l ∧ Q l ρ4) : wI Gm Φ (.zip a b) ρ Q := by
  obtain ⟨r, ρ1, e1, r', ρ2, e2, d, ρ3, d', ρ4, l, h1, h2, h3, q⟩ := h
  exact ⟨_, _, by unfold evIt; rw [e1]; array_mem_dec; rw [e2]; array_mem_dec; rw [h1]; array_mem_dec; rw [h2]; array_mem_dec; rw [h3]; rfl, q⟩
theorem w_enum {a : E} (h : wE Gm Φ a ρ fun r ρ1 => ∃ d ρ2 l, freeze r ρ1 = some (d, ρ2) ∧ enumD d = some l ∧ Q l ρ2) : wI Gm Φ (.enum a) ρ Q := by
  obtain ⟨r, ρ1, e1, d, ρ2, l, h1, h2, q⟩ := h
  exact ⟨_, _, by unfold evIt; rw [e1]; array_mem_dec; rw [h1]; array_mem_dec; rw [h2]; rfl, q⟩
end
section
variable {Q : Fl → Env → Prop}
def sq (k : Env → Prop) (Q : Fl → Env → Prop) : Fl → Env → Prop
  | .nx, ρ => k ρ
  | f, ρ => Q f ρ
theorem w_bnil (q : Q .nx ρ) : wB Gm Φ fx .nil ρ Q := ⟨_, _, by unfold evSs; rfl, q⟩
theorem w_bcons {s : S} {r : Ss} (h : wS Gm Φ fx s ρ (sq (fun ρ1 => wB Gm Φ fx r ρ1 Q) Q)) : wB Gm Φ fx (.cons s r) ρ Q := by
  obtain ⟨f, ρ1, e1, h1⟩ := h
  cases f with
  | nx => obtain ⟨f2, ρ2, e2, q⟩ := h1; exact ⟨_, _, by unfold evSs; rw [e1]; exact e2, q⟩
  | rt r => exact ⟨_, _, by unfold evSs; rw [e1], h1⟩
  | brk => exact ⟨_, _, by unfold evSs; rw [e1], h1⟩
  | cnt => exact ⟨_, _, by unfold evSs; rw [e1], h1⟩
theorem w_asg {tg : Tg} {a : E} (hf : tgFree fx tg = true) (h : wE Gm Φ a ρ fun r ρ1 => ∃ d ρ2 ρ3, freeze r ρ1 = some (d, ρ2) ∧ setTg tg d ρ2 = some ρ3 ∧ Q .nx ρ3) : wS Gm Φ fx (.asg tg a) ρ Q := by
  obtain ⟨r, ρ1, e1, d, ρ2, ρ3, h1, h2, q⟩ := h
  exact ⟨_, _, by unfold evS; rw [if_pos hf, e1]; array_mem_dec; rw [h1]; array_mem_dec; rw [h2]; rfl, q⟩
theorem w_sown {i : Nat} {a : E} (hf : i ∉ fx) (h : wE Gm Φ a ρ fun r ρ1 => ∃ d, r = .o d ∧ i < ρ1.length ∧ Q .nx (ρ1.set i (some (true, d)))) : wS Gm Φ fx (.own i a) ρ Q := by
  obtain ⟨r, ρ1, e1, d, rfl, hi, q⟩ := h
  exact ⟨_, _, by unfold evS; rw [if_neg hf, e1]; array_mem_dec; rw [if_pos hi], q⟩
theorem w_par {sw : Bool} {ts : List (Nat × Bool)} {es : Es} (h : wA Gm Φ es ρ fun rs ρ1 => ∃ p ρ2, (ts.all (fun t => decide (t.1 ∉ fx) && decide (t.1 < ρ1.length)) = true ∧ ts.length ≤ line) ∧ prep ts rs ρ1 = some (p, ρ2) ∧ Q .nx (setAll ts p ρ2)) : wS Gm Φ fx (.par sw ts es) ρ Q := by
  obtain ⟨rs, ρ1, e1, p, ρ2, h1, h2, q⟩ := h
  exact ⟨_, _, by unfold evS; rw [e1]; array_mem_dec; rw [if_pos h1, h2]; rfl, q⟩
theorem w_setix {i : Nat} {ix a : E} {l0 : List D} (h0 : eget ρ i = some (true, .lst l0)) (h : wE Gm Φ a ρ fun r ρ1 => wE Gm Φ ix ρ1 fun ri ρ2 => ∃ d ρ3 k l j, freeze r ρ2 = some (d, ρ3) ∧ ri = .v (.int k) ∧ eget ρ3 i = some (true, .lst l) ∧ ixOf l.length k = some j ∧ Q .nx (ρ3.set i (some (true, .lst (l.set j d))))) : wS Gm Φ fx (.setix i ix a) ρ Q := by
  obtain ⟨r, ρ1, e1, ri, ρ2, e2, d, ρ3, k, l, j, h1, rfl, h3, h4, q⟩ := h
  exact ⟨_, _, by unfold evS; rw [h0]; array_mem_dec; rw [e1]; array_mem_dec; rw [e2]; array_mem_dec; rw [h1]; array_mem_dec; rw [h3]; array_mem_dec; rw [h4]; rfl, q⟩
theorem w_setix2 {i : Nat} {x y : E} {es : Es} {l0 : List D} (h0 : eget ρ i = some (true, .lst l0)) (h : wA Gm Φ es ρ fun rs ρ1 => ∃ d1 d2, rs = [.v d1, .v d2] ∧ wE Gm Φ x ρ1 fun r1 ρ2 => ∃ k l j, r1 = .v (.int k) ∧ eget ρ2 i = some (true, .lst l) ∧ ixOf l.length k = some j ∧
    wE Gm Φ y (ρ2.set i (some (true, .lst (l.set j d1)))) fun r2 ρ3 => ∃ k2 l2 j2, r2 = .v (.int k2) ∧ eget ρ3 i = some (true, .lst l2) ∧ ixOf l2.length k2 = some j2 ∧ Q .nx (ρ3.set i (some (true, .lst (l2.set j2 d2))))) : wS Gm Φ fx (.setix2 i x y es) ρ Q := by
  obtain ⟨rs, ρ1, e1, d1, d2, rfl, r1, ρ2, e2, k, l, j, rfl, h1, h2, r2, ρ3, e3, k2, l2, j2, rfl, h3, h4, q⟩ := h
  exact ⟨_, _, by unfold evS; rw [h0]; array_mem_dec; rw [e1]; array_mem_dec; rw [e2]; array_mem_dec; rw [h1]; array_mem_dec; rw [h2]; array_mem_dec; rw [e3]; array_mem_dec; rw [h3]; array_mem_dec; rw [h4]; rfl, q⟩
theorem w_setat {i : Nat} {f : Str} {a : E} (h : wE Gm Φ a ρ fun r ρ1 => ∃ d ρ2 C ns vs fs, freeze r ρ1 = some (d, ρ2) ∧ eget ρ2 i = some (true, .ins C ns vs) ∧ Gm.fields C = some fs ∧ (f ∈ fs ∧ vs.length < 900) ∧ Q .nx (ρ2.set i (some (true, .ins C (putN f d ns vs).1 (putN f d ns vs).2)))) : wS Gm Φ fx (.setat i f a) ρ Q := by
  obtain ⟨r, ρ1, e1, d, ρ2, C, ns, vs, fs, h1, h2, h3, h4, q⟩ := h
  refine ⟨_, _, ?_, q⟩
  unfold evS
  rw [e1]
  array_mem_dec
  rw [h1]
  array_mem_dec
  rw [h2]
  array_mem_dec
  rw [h3]
  array_mem_dec
  rw [if_pos h4]
theorem w_augixA {i : Nat} {ix a : E} {l0 : List D} (h0 : eget ρ i = some (true, .lst l0)) (h : wE Gm Φ ix ρ fun ri ρ1 => ∃ k l j x, ri = .v (.int k) ∧ eget ρ1 i = some (true, .lst l) ∧ ixOf l.length k = some j ∧ l[j]? = some (.int x) ∧
    wE Gm Φ a ρ1 fun r ρ2 => ∃ y l2 j2, r = .v (.int y) ∧ eget ρ2 i = some (true, .lst l2) ∧ ixOf l2.length k = some j2 ∧ Q .nx (ρ2.set i (some (true, .lst (l2.set j2 (.int (x + y))))))) : wS Gm Φ fx (.augix i ix .add a) ρ Q := by
  obtain ⟨ri, ρ1, e1, k, l, j, x, rfl, h1, h2, h3, r, ρ2, e2, y, l2, j2, rfl, h4, h5, q⟩ := h
  exact ⟨_, _, by unfold evS; rw [h0]; array_mem_dec; rw [e1]; array_mem_dec; rw [h1]; array_mem_dec; rw [h2]; array_mem_dec; rw [h3]; array_mem_dec; rw [e2]; array_mem_dec; rw [h4]; array_mem_dec; rw [h5]; rfl, q⟩
theorem w_augixS {i : Nat} {ix a : E} {l0 : List D} (h0 : eget ρ i = some (true, .lst l0)) (h : wE Gm Φ ix ρ fun ri ρ1 => ∃ k l j x, ri = .v (.int k) ∧ eget ρ1 i = some (true, .lst l) ∧ ixOf l.length k = some j ∧ l[j]? = some (.int x) ∧
    wE Gm Φ a ρ1 fun r ρ2 => ∃ y l2 j2, r = .v (.int y) ∧ eget ρ2 i = some (true, .lst l2) ∧ ixOf l2.length k = some j2 ∧ Q .nx (ρ2.set i (some (true, .lst (l2.set j2 (.int (x - y))))))) : wS Gm Φ fx (.augix i ix .sub a) ρ Q := by
  obtain ⟨ri, ρ1, e1, k, l, j, x, rfl, h1, h2, h3, r, ρ2, e2, y, l2, j2, rfl, h4, h5, q⟩ := h
  exact ⟨_, _, by unfold evS; rw [h0]; array_mem_dec; rw [e1]; array_mem_dec; rw [h1]; array_mem_dec; rw [h2]; array_mem_dec; rw [h3]; array_mem_dec; rw [e2]; array_mem_dec; rw [h4]; array_mem_dec; rw [h5]; rfl, q⟩
theorem w_expr {a : E} (h : wE Gm Φ a ρ fun _ ρ1 => Q .nx ρ1) : wS Gm Φ fx (.expr a) ρ Q := by
  obtain ⟨r, ρ1, e1, q⟩ := h
  exact ⟨_, _, by unfold evS; rw [e1]; rfl, q⟩
/-- what a return hands back -/
def rtR (fx : List Nat) (Q : Fl → Env → Prop) : R → Env → Prop
  | .v d, ρ => Q (.rt (.v d)) ρ
  | .o d, ρ => Q (.rt (.o d)) ρ
  | .b s, ρ => s ∉ fx ∧ ((∃ d, eget ρ s = some (true, d) ∧ Q (.rt (.o d)) (ρ.set s none)) ∨ (∃ d, eget ρ s = some (false, d) ∧ Q (.rt (.v d)) ρ))
theorem w_ret {a : E} (h : wE Gm Φ a ρ fun r ρ1 => rtR fx Q r ρ1) : wS Gm Φ fx (.ret a) ρ Q := by
  obtain ⟨r, ρ1, e1, q⟩ := h
  cases r with
  | v d => exact ⟨_, _, by unfold evS; rw [e1]; rfl, q⟩
  | o d => exact ⟨_, _, by unfold evS; rw [e1]; rfl, q⟩
  | b s =>
    obtain ⟨hs, ⟨d, h1, q⟩ | ⟨d, h1, q⟩⟩ := q
    · exact ⟨_, _, by unfold evS; rw [e1]; array_mem_dec; rw [if_neg hs, h1], q⟩
    · exact ⟨_, _, by unfold evS; rw [e1]; array_mem_dec; rw [if_neg hs, h1], q⟩
theorem w_retn (q : Q (.rt (.v .non)) ρ) : wS Gm Φ fx .retn ρ Q := ⟨_, _, by unfold evS; rfl, q⟩
theorem w_pass (q : Q .nx ρ) : wS Gm Φ fx .pass ρ Q := ⟨_, _, by unfold evS; rfl, q⟩
theorem w_brk (q : Q .brk ρ) : wS Gm Φ fx .brk ρ Q := ⟨_, _, by unfold evS; rfl, q⟩
theorem w_cnt (q : Q .cnt ρ) : wS Gm Φ fx .cnt ρ Q := ⟨_, _, by unfold evS; rfl, q⟩
theorem w_site {c : T} {a b : Ss} (h : wT Gm Φ c ρ fun k ρ1 => (k = true → wB Gm Φ fx a ρ1 Q) ∧ (k = false → wB Gm Φ fx b ρ1 Q)) : wS Gm Φ fx (.ite c a b) ρ Q := by
  obtain ⟨k, ρ1, e1, h1, h2⟩ := h
  cases k with
  | true => obtain ⟨r, ρ2, e2, q⟩ := h1 rfl; exact ⟨_, _, by unfold evS; rw [e1]; exact e2, q⟩
  | false => obtain ⟨r, ρ2, e2, q⟩ := h2 rfl; exact ⟨_, _, by unfold evS; rw [e1]; exact e2, q⟩
end
end
structure Cut (k : Env → Prop) (ρ : Env) : Prop where
  h : k ρ
theorem w_cut {Gm : Cfg} {Φ : Phi} {fx : List Nat} {ρ : Env} {Q : Fl → Env → Prop} {s : S} {r : Ss} (h : wS Gm Φ fx s ρ (sq (Cut fun ρ1 => wB Gm Φ fx r ρ1 Q) Q)) : wB Gm Φ fx (.cons s r) ρ Q := by
  obtain ⟨f, ρ1, e, h⟩ := h
  refine w_bcons ⟨f, ρ1, e, ?_⟩
  cases f with
  | nx => exact h.h
  | rt r => exact h
  | brk => exact h
  | cnt => exact h
theorem sq_nx {k : Env → Prop} {Q : Fl → Env → Prop} {ρ : Env} (q : k ρ) : sq k Q .nx ρ := q
theorem sq_rt {k : Env → Prop} {Q : Fl → Env → Prop} {ρ : Env} {r : R} (q : Q (.rt r) ρ) : sq k Q (.rt r) ρ := q
theorem rt_v {fx : List Nat} {Q : Fl → Env → Prop} {ρ : Env} {d : D} (q : Q (.rt (.v d)) ρ) : rtR fx Q (.v d) ρ := q
theorem rt_o {fx : List Nat} {Q : Fl → Env → Prop} {ρ : Env} {d : D} (q : Q (.rt (.o d)) ρ) : rtR fx Q (.o d) ρ := q
theorem rt_b {fx : List Nat} {Q : Fl → Env → Prop} {ρ : Env} {s : Nat} {d : D} (hf : decide (s ∉ fx) = true) (h : eget ρ s = some (true, d)) (q : Q (.rt (.o d)) (ρ.set s none)) : rtR fx Q (.b s) ρ := ⟨of_decide_eq_true hf, .inl ⟨d, h, q⟩⟩
theorem w_sown' {Gm : Cfg} {Φ : Phi} {fx : List Nat} {ρ : Env} {Q : Fl → Env → Prop} {i : Nat} {a : E} (hf : decide (i ∉ fx) = true) (h : wE Gm Φ a ρ fun r ρ1 => ∃ d, r = .o d ∧ i < ρ1.length ∧ Q .nx (ρ1.set i (some (true, d)))) : wS Gm Φ fx (.own i a) ρ Q := w_sown (of_decide_eq_true hf) h
theorem w_dic0 {Gm : Cfg} {Φ : Phi} {ρ : Env} {Q : R → Env → Prop} (q : Q (.o (.dct [] [])) ρ) : wE Gm Φ .dic0 ρ Q := ⟨_, _, by unfold evE; rfl, q⟩
theorem w_dic1 {Gm : Cfg} {Φ : Phi} {ρ : Env} {Q : R → Env → Prop} {k v : E} (h : wE Gm Φ k ρ fun rk ρ1 => wE Gm Φ v ρ1 fun rv ρ2 => ∃ d ρ3 y ky, freeze rv ρ2 = some (d, ρ3) ∧ rk = .v y ∧ keyD y = some ky ∧ Q (.o (.dct [ky] [d])) ρ3) : wE Gm Φ (.dic1 k v) ρ Q := by
  obtain ⟨rk, ρ1, e1, rv, ρ2, e2, d, ρ3, y, ky, h1, rfl, h2, q⟩ := h
  exact ⟨_, _, by unfold evE; rw [e1]; array_mem_dec; rw [e2]; array_mem_dec; rw [h1]; array_mem_dec; rw [h2]; rfl, q⟩
theorem w_setixD {Gm : Cfg} {Φ : Phi} {fx : List Nat} {ρ : Env} {Q : Fl → Env → Prop} {i : Nat} {ix a : E} {ks0 : List L2.Key} {vs0 : List D} (h0 : eget ρ i = some (true, .dct ks0 vs0)) (h : wE Gm Φ a ρ fun r ρ1 => wE Gm Φ ix ρ1 fun ri ρ2 => ∃ d ρ3 y ks vs k, freeze r ρ2 = some (d, ρ3) ∧ ri = .v y ∧ eget ρ3 i = some (true, .dct ks vs) ∧ keyD y = some k ∧ ks.length < line ∧ Q .nx (ρ3.set i (some (true, .dct (dputD k d ks vs).1 (dputD k d ks vs).2)))) : wS Gm Φ fx (.setix i ix a) ρ Q := by
  obtain ⟨r, ρ1, e1, ri, ρ2, e2, d, ρ3, y, ks, vs, k, h1, rfl, h3, h4, h5, q⟩ := h
  exact ⟨_, _, by unfold evS; rw [h0]; array_mem_dec; rw [e1]; array_mem_dec; rw [e2]; array_mem_dec; rw [h1]; array_mem_dec; rw [h3]; array_mem_dec; rw [h4]; array_mem_dec; rw [if_pos h5], q⟩
theorem isRt {fx : List Nat} {Q : Fl → Env → Prop} {r : R} {ρ : Env} (h : rtR fx Q r ρ) : rtR fx Q r ρ := h
theorem isBr {k : Bool} {A B : Prop} (h : (k = true → A) ∧ (k = false → B)) : (k = true → A) ∧ (k = false → B) := h
theorem isEx {α : Sort _} {p : α → Prop} (h : ∃ x, p x) : ∃ x, p x := h
theorem fin_v {io : List Bool} {post : R → List D → Prop} {d : D} {ρ : Env} (h : ∃ o, outsOf io 0 ρ = some o ∧ post (.v d) o) : Fin io post (.rt (.v d)) ρ := h
theorem fin_o {io : List Bool} {post : R → List D → Prop} {d : D} {ρ : Env} (h : ∃ o, outsOf io 0 ρ = some o ∧ post (.o d) o) : Fin io post (.rt (.o d)) ρ := h
theorem fin_n {io : List Bool} {post : R → List D → Prop} {ρ : Env} (h : ∃ o, outsOf io 0 ρ = some o ∧ post (.v .non) o) : Fin io post .nx ρ := h
theorem br_t {A B : Prop} (h : A) : (true = true → A) ∧ (true = false → B) := ⟨fun _ => h, (fun z => nomatch z)⟩
theorem br_f {A B : Prop} (h : B) : (false = true → A) ∧ (false = false → B) := ⟨(fun z => nomatch z), fun _ => h⟩
theorem b_mulR {i j : Int} (h : (decide (-(2 ^ 64) < j) && decide (j < 2 ^ 64)) = true) : binD .mul (.int i) (.int j) = some (.int (i * j)) := by
  show (if mulOk i j then _ else _) = _
  rw [if_pos]
  unfold mulOk
  rw [h, Bool.or_true, Bool.true_or]
theorem b_mulL {i j : Int} (h : (decide (-(2 ^ 64) < i) && decide (i < 2 ^ 64)) = true) : binD .mul (.int i) (.int j) = some (.int (i * j)) := by
  show (if mulOk i j then _ else _) = _
  rw [if_pos]
  unfold mulOk
  rw [h, Bool.true_or, Bool.true_or]
theorem b_mulB {i j : Int} (h : -(2 ^ 64) < i ∧ i < 2 ^ 64) : binD .mul (.int i) (.int j) = some (.int (i * j)) := b_mulL (by rw [Bool.and_eq_true, decide_eq_true_eq, decide_eq_true_eq]; exact h)
theorem b_mod {i j : Int} (h : 0 < j) : binD .mod (.int i) (.int j) = some (.int (i % j)) := by
  show (if 0 < j then _ else _) = _
  rw [if_pos h]
theorem b_fdiv {i j : Int} (h : 0 < j) (h2 : j < 1073741824) : binD .fdiv (.int i) (.int j) = some (.int (i / j)) := by
  show (if 0 < j ∧ (j < 1073741824 ∨ j.natAbs.log2 < 9000) then _ else _) = _
  rw [if_pos ⟨h, .inl h2⟩]
theorem ixOf_nat {n j : Nat} (h : j < n) : ixOf n (j : Int) = some j := by
  unfold ixOf
  rw [if_pos (by omega), if_pos (by omega)]
  rfl
theorem ixOf_neg {n j : Nat} (h : j < n) : ixOf n (-((j : Int) + 1)) = some (n - 1 - j) := by
  unfold ixOf
  rw [if_neg (by omega), if_pos (by omega)]
  congr 1
  omega
theorem idx_l {l : List D} {j : Nat} {d : D} (h : l[j]? = some d) : idxD (.lst l) (.int j) = some d := by
  have hj := (List.getElem?_eq_some_iff.mp h).1
  show ((ixOf l.length (j : Int)).bind fun k => l[k]?) = _
  rw [ixOf_nat hj]
  exact h
theorem idx_t {l : List D} {j : Nat} {d : D} (h : l[j]? = some d) : idxD (.tup l) (.int j) = some d := by
  have hj := (List.getElem?_eq_some_iff.mp h).1
  show ((ixOf l.length (j : Int)).bind fun k => l[k]?) = _
  rw [ixOf_nat hj]
  exact h
theorem ne_int {i j : Int} : cmpD .ne (.int i) (.int j) = some (!decide (i = j)) := by
  simp only [cmpD, eqD_int, Option.map_some]
theorem fm_all {α β γ : Type} {g : α → β} {f : β → Option γ} {h : α → γ} : ∀ {l : List α}, (∀ x ∈ l, f (g x) = some (h x)) → (l.map g).filterMap f = l.map h
  | [], _ => rfl
  | x :: r, e => by
    rw [List.map_cons, List.map_cons, List.filterMap_cons_some (e x List.mem_cons_self), fm_all fun y hy => e y (List.mem_cons_of_mem _ hy)]
theorem range_ok {j : Nat} (h : j ≤ 100000) : rangeD 0 (j : Int) = some ((List.range j).map fun (i : Nat) => .int (i : Int)) := by
  have hl : ((line : Nat) : Int) = 16777216 := rfl
  unfold rangeD
  rw [hl, if_pos (by omega)]
  congr 1
  have : ((j : Int) - 0).toNat = j := by omega
  rw [this]
  exact congrArg (fun f => List.map f _) (funext fun i => by rw [Int.zero_add])
theorem range2_ok {i j : Nat} (h : i ≤ 100000) (h2 : j ≤ 100000) : rangeD (i : Int) (j : Int) = some ((List.range (j - i)).map fun (k : Nat) => .int ((i + k : Nat) : Int)) := by
  have hl : ((line : Nat) : Int) = 16777216 := rfl
  unfold rangeD
  rw [hl, if_pos (by omega)]
  congr 1
  have : ((j : Int) - i).toNat = j - i := by omega
  rw [this]
  exact congrArg (fun f => List.map f _) (funext fun k => by rw [Int.natCast_add])
theorem b_catT {a b : List D} (h : a.length + b.length ≤ line) : binD .add (.tup a) (.tup b) = some (.tup (a ++ b)) := by
  show (if a.length + b.length ≤ line then _ else _) = _
  rw [if_pos h]
theorem b_catL {a b : List D} (h : a.length + b.length ≤ line) : binD .add (.lst a) (.lst b) = some (.lst (a ++ b)) := by
  show (if a.length + b.length ≤ line then _ else _) = _
  rw [if_pos h]
theorem cut_from {l : List D} {k : Nat} : cut l (some (k : Int)) none = l.drop k := by
  unfold cut
  rw [HT.sIx_nat, HT.sIx_none]
  by_cases h : k ≤ l.length
  · rw [Nat.min_eq_left h, List.take_of_length_le (by rw [List.length_drop]; exact Nat.le_refl _)]
  · rw [Nat.min_eq_right (by omega), List.drop_of_length_le (Nat.le_refl _), List.drop_of_length_le (by omega), List.take_nil]
theorem cut_to {l : List D} {k : Nat} : cut l none (some (k : Int)) = l.take k := by
  unfold cut
  rw [HT.sIx_nat, HT.sIx_none, List.drop_zero, Nat.sub_zero]
  by_cases h : k ≤ l.length
  · rw [Nat.min_eq_left h]
  · rw [Nat.min_eq_right (by omega), List.take_of_length_le (Nat.le_refl _), List.take_of_length_le (by omega)]
theorem m_app {l : List D} {x : D} (h : l.length < line) : mutD .append l [x] = some (l ++ [x], .non) := by
  show (if l.length < line then _ else _) = _
  rw [if_pos h]
end Mi
open Mi
local macro_rules | `(tactic| array_get_dec) => `(tactic| repeat (first | (first | with_reducible apply w_bcons | with_reducible apply sq_nx | with_reducible apply sq_rt | with_reducible apply w_bnil | with_reducible apply w_acons | with_reducible apply w_anil | ((with_reducible apply w_fro); rfl) | ((with_reducible apply w_own); rfl) | with_reducible apply w_cint | with_reducible apply w_cbl | with_reducible apply w_cnon | with_reducible apply w_cstr | with_reducible apply w_cty | with_reducible apply w_tup | with_reducible apply w_lst | with_reducible apply w_bin | with_reducible apply w_cmp | with_reducible apply w_idx | with_reducible apply w_neg | with_reducible apply w_rev | with_reducible apply w_attr | with_reducible apply w_notv | with_reducible apply w_andv | with_reducible apply w_orv | with_reducible apply w_chain | with_reducible apply w_ite | with_reducible apply w_sl | with_reducible apply w_callb | with_reducible apply w_call | with_reducible apply w_callx | with_reducible apply w_makex | with_reducible apply w_make | with_reducible apply w_eqi | with_reducible apply w_isit | with_reducible apply w_meth | with_reducible apply w_dic0 | with_reducible apply w_dic1 | with_reducible apply w_yes | with_reducible apply w_val | with_reducible apply w_and | with_reducible apply w_or | with_reducible apply w_not | with_reducible apply w_onone | with_reducible apply w_osome | with_reducible apply w_lrange1 | with_reducible apply w_lrange2 | with_reducible apply w_seq | with_reducible apply w_range1 | with_reducible apply w_range2 | with_reducible apply w_zip | with_reducible apply w_enum | with_reducible apply w_par | with_reducible apply w_setat | with_reducible apply w_expr | with_reducible apply w_ret | with_reducible apply w_retn | with_reducible apply w_pass | with_reducible apply w_brk | with_reducible apply w_cnt | with_reducible apply w_site | ((with_reducible refine isRt ?_); first | refine rt_v ?_ | refine rt_o ?_ | refine rt_b rfl rfl ?_) | with_reducible apply fin_v | with_reducible apply fin_o | with_reducible apply fin_n | ((with_reducible apply w_glob); rfl) | ((with_reducible apply w_fnv); rfl) | ((with_reducible apply w_isc); rfl) | ((with_reducible apply w_mut); rfl) | ((with_reducible apply w_asg); rfl) | ((with_reducible apply w_sown'); rfl) | ((with_reducible apply w_setix2); rfl) | ((with_reducible apply w_setix); rfl) | ((with_reducible apply w_setixD); rfl) | ((with_reducible apply w_augixA); rfl) | ((with_reducible apply w_augixS); rfl)) | (first | ((with_reducible refine isEx ?_); first | refine ⟨_, rfl, ?_⟩ | refine ⟨_, _, _, rfl, rfl, eqD_int, ?_⟩ | refine ⟨_, _, _, rfl, rfl, ne_int, ?_⟩ | refine ⟨_, _, _, rfl, rfl, b_mulR rfl, ?_⟩ | refine ⟨_, _, _, rfl, rfl, b_mulL rfl, ?_⟩ | refine ⟨_, _, _, rfl, rfl, rfl, ?_⟩ | refine ⟨_, _, rfl, rfl, ?_⟩ | refine ⟨_, _, _, rfl, rfl, ?_⟩ | refine ⟨_, _, _, _, _, rfl, rfl, rfl, rfl, ?_⟩ | refine ⟨_, _, ⟨rfl, Nat.le_of_ble_eq_true rfl⟩, rfl, ?_⟩ | refine ⟨_, _, rfl, Nat.le_of_ble_eq_true rfl, ?_⟩ | refine ⟨_, rfl, Nat.le_of_ble_eq_true rfl, ?_⟩) | ((with_reducible refine isBr ?_); first | refine br_t ?_ | refine br_f ?_))))
namespace Mi
open PySem
end Mi
set_option Elab.async false
set_option linter.all false
set_option maxRecDepth 100000
set_option maxHeartbeats 4000000
namespace Mi
open PySem
mutual
def nxE : E → Bool
  | .callx _ _ => false
  | .makex _ _ => false
  | .callv _ _ => false
  | .tup es => nxEs es
  | .lst es => nxEs es
  | .callb _ es => nxEs es
  | .idx a _ => nxE a
  | .notv a => nxE a
  | _ => true
def nxEs : Es → Bool
  | .nil => true
  | .cons e r => nxE e && nxEs r
end
section
variable {Gm : Cfg} {Φ : Phi} {fx : List Nat}
mutual
theorem nxE_ok : ∀ (e : E) (ρ : Env), nxE e = true → exE Gm Φ e ρ = none
  | .callx _ _, _, h => by unfold nxE at h; cases h
  | .makex _ _, _, h => by unfold nxE at h; cases h
  | .callv _ _, _, h => by unfold nxE at h; cases h
  | .tup es, ρ, h => by unfold nxE at h; unfold exE; exact nxEs_ok es ρ h
  | .lst es, ρ, h => by unfold nxE at h; unfold exE; exact nxEs_ok es ρ h
  | .callb _ es, ρ, h => by unfold nxE at h; unfold exE; exact nxEs_ok es ρ h
  | .idx a _, ρ, h => by unfold nxE at h; unfold exE; exact nxE_ok a ρ h
  | .notv a, ρ, h => by unfold nxE at h; unfold exE; exact nxE_ok a ρ h
  | .var _, _, _ => by unfold exE; rfl
  | .glob _, _, _ => by unfold exE; rfl
  | .cint _, _, _ => by unfold exE; rfl
  | .cbl _, _, _ => by unfold exE; rfl
  | .cnon, _, _ => by unfold exE; rfl
  | .cstr _, _, _ => by unfold exE; rfl
  | .cty _, _, _ => by unfold exE; rfl
  | .bin _ _ _, _, _ => by unfold exE; rfl
  | .neg _, _, _ => by unfold exE; rfl
  | .andv _ _, _, _ => by unfold exE; rfl
  | .orv _ _, _, _ => by unfold exE; rfl
  | .cmp _ _ _, _, _ => by unfold exE; rfl
  | .chain _ _ _ _ _, _, _ => by unfold exE; rfl
  | .ite _ _ _, _, _ => by unfold exE; rfl
  | .sl _ _ _, _, _ => by unfold exE; rfl
  | .rev _, _, _ => by unfold exE; rfl
  | .call _ _, _, _ => by unfold exE; rfl
  | .make _ _, _, _ => by unfold exE; rfl
  | .meth _ _ _, _, _ => by unfold exE; rfl
  | .mut _ _ _, _, _ => by unfold exE; rfl
  | .attr _ _, _, _ => by unfold exE; rfl
  | .comp _ _ _ _ _, _, _ => by unfold exE; rfl
  | .comp2 _ _ _ _ _ _ _ _ _, _, _ => by unfold exE; rfl
  | .dic0, _, _ => by unfold exE; rfl
  | .dic1 _ _, _, _ => by unfold exE; rfl
  | .lrange _, _, _ => by unfold exE; rfl
  | .word _ _, _, _ => by unfold exE; rfl
  | .isx _ _, _, _ => by unfold exE; rfl
  | .isb _ _, _, _ => by unfold exE; rfl
  | .xattr _ _, _, _ => by unfold exE; rfl
  | .isc _ _, _, _ => by unfold exE; rfl
  | .isit _ _, _, _ => by unfold exE; rfl
  | .pure _, _, _ => by unfold exE; rfl
  | .eqi _ _ _ _, _, _ => by unfold exE; rfl
  | .fnv _, _, _ => by unfold exE; rfl
theorem nxEs_ok : ∀ (es : Es) (ρ : Env), nxEs es = true → exEs Gm Φ es ρ = none
  | .nil, _, _ => by unfold exEs; rfl
  | .cons e r, ρ, h => by
    unfold nxEs at h
    rw [Bool.and_eq_true] at h
    unfold exEs
    rw [nxE_ok e ρ h.1]
    dsimp only
    cases evE Gm Φ e ρ with
    | none => rfl
    | some x => exact nxEs_ok r x.2 h.2
end
def xE (Gm : Cfg) (Φ : Phi) (e : E) (ρ : Env) (Q : Exc → Env → Prop) : Prop := ∃ x ρ', exE Gm Φ e ρ = some (x, ρ') ∧ Q x ρ'
def xS (Gm : Cfg) (Φ : Phi) (fx : List Nat) (s : S) (ρ : Env) (Q : Exc → Env → Prop) : Prop := ∃ x ρ', exS Gm Φ fx s ρ = some (x, ρ') ∧ Q x ρ'
def xB (Gm : Cfg) (Φ : Phi) (fx : List Nat) (s : Ss) (ρ : Env) (Q : Exc → Env → Prop) : Prop := ∃ x ρ', exSs Gm Φ fx s ρ = some (x, ρ') ∧ Q x ρ'
variable {ρ : Env} {Q : Exc → Env → Prop}
theorem x_here {s : S} {r : Ss} (h : xS Gm Φ fx s ρ Q) : xB Gm Φ fx (.cons s r) ρ Q := by
  obtain ⟨x, ρ1, e, q⟩ := h
  exact ⟨x, ρ1, by unfold exSs; rw [e], q⟩
/-- if c: raise .. -/
theorem x_if {c : T} {a r : Ss} (h : wT Gm Φ c ρ fun k ρ1 => (k = true → xB Gm Φ fx a ρ1 Q) ∧ (k = false → xB Gm Φ fx r ρ1 Q)) : xB Gm Φ fx (.cons (.ite c a .nil) r) ρ Q := by
  obtain ⟨k, ρ1, e, h1, h2⟩ := h
  cases k with
  | true =>
    obtain ⟨x, ρ2, e2, q⟩ := h1 rfl
    exact ⟨x, ρ2, by unfold exSs exS; rw [e]; array_mem_dec; rw [e2], q⟩
  | false =>
    obtain ⟨x, ρ2, e2, q⟩ := h2 rfl
    refine ⟨x, ρ2, ?_, q⟩
    have n1 : exS Gm Φ fx (.ite c a .nil) ρ = none := by unfold exS; rw [e]; show exSs Gm Φ fx .nil ρ1 = none; unfold exSs; rfl
    have n2 : evS Gm Φ fx (.ite c a .nil) ρ = some (.nx, ρ1) := by unfold evS; rw [e]; show evSs Gm Φ fx .nil ρ1 = _; unfold evSs; rfl
    unfold exSs
    rw [n1, n2]
    exact e2
/-- raise C(e) -/
theorem x_rais1 {C : Nat} {f : Str} {e : E} (h : wE Gm Φ e ρ fun r ρ1 => ∃ d, deref ρ1 r = some d ∧ flatD d = true ∧ Q ⟨C, [f], [d]⟩ ρ1) : xS Gm Φ fx (.rais C [f] (.cons e .nil)) ρ Q := by
  obtain ⟨r, ρ1, e1, d, e2, f2, q⟩ := h
  refine ⟨_, ρ1, ?_, q⟩
  unfold exS evEs
  rw [e1]
  show bindO (bindO (evEs Gm Φ .nil ρ1) fun xs ρ2 => some (r :: xs, ρ2)) _ = _
  unfold evEs
  show (match derefs ρ1 [r] with
    | some ds => if ds.all flatD = true ∧ [f].length = ds.length ∧ [f].length ≤ 1 then some ((⟨C, [f], ds⟩ : Exc), ρ1) else none
    | none => none) = _
  have e3 : derefs ρ1 [r] = some [d] := by simp [derefs, e2]
  rw [e3]
  dsimp only
  rw [if_pos ⟨by simp [f2], rfl, Nat.le_refl _⟩]
theorem x_makex {C : Nat} {es : Es} (n : nxEs es = true) (h : wA Gm Φ es ρ fun rs ρ1 => ∃ io ds ρ2 x, freezes rs ρ1 = some (ds, ρ2) ∧ Gm.io C = some io ∧ io = (true :: ds.map fun _ => false) ∧ Φ (C + xb) ((true, .ins C [] []) :: ds.map fun d => (false, d)) = some (.v (.exc x.C x.ns x.ds), []) ∧ Q x ρ2) : xE Gm Φ (.makex C es) ρ Q := by
  obtain ⟨rs, ρ1, e1, io, ds, ρ2, x, h1, h2, h3, h4, q⟩ := h
  refine ⟨x, ρ2, ?_, q⟩
  unfold exE
  rw [nxEs_ok es ρ n]
  dsimp only
  rw [e1]
  show makeX Gm Φ C rs ρ1 = _
  unfold makeX
  rw [h1]
  dsimp only
  rw [h2]
  dsimp only
  rw [if_pos h3, h4]
end
/-- the exception that a def ends with -/
theorem phi_xx {Gm : Cfg} {tab : Nat → Option Fn} {n f : Nat} {F : Fn} {as : List Arg} {x : Exc} (ht : tab f = some F) (hn : tab (f + xb) = none) (hio : as.map (·.1) = F.io) (h : xB Gm (phi Gm tab n) (fixed F.io 0) F.body (as.map some ++ List.replicate (F.ns - F.np) none) fun y _ => y = x) :
    phi Gm tab (n + 1) (f + xb) as = some (.v (.exc x.C x.ns x.ds), []) := by
  obtain ⟨y, ρ1, e, rfl⟩ := h
  show (match tab (f + xb) with
    | some F => runF Gm (phi Gm tab n) F as
    | none => if xb ≤ f + xb then match tab (f + xb - xb) with
      | some F => runX Gm (phi Gm tab n) F as
      | none => none
      else none) = _
  rw [hn]
  dsimp only
  rw [if_pos (Nat.le_add_left _ _), Nat.add_sub_cancel, ht]
  dsimp only
  unfold runX
  rw [if_pos hio, e]
/-- x(lambda: e), e ends with an exception -/
theorem w_wordX {Gm : Cfg} {Φ : Phi} {ρ : Env} {Q : R → Env → Prop} {k : Nat} {e : E} {wd : Wd} (hw : Gm.word k = some wd) (h : xE Gm Φ e ρ fun x ρ1 => ∃ d, wd.onX x = some d ∧ still d = true ∧ Q (.v d) ρ1) : wE Gm Φ (.word k e) ρ Q := by
  obtain ⟨x, ρ1, e1, d, h1, h2, q⟩ := h
  refine ⟨_, ρ1, ?_, q⟩
  unfold evE
  rw [hw]
  dsimp only
  rw [e1]
  dsimp only
  rw [h1]
  dsimp only
  rw [if_pos h2]
end Mi
set_option Elab.async false
set_option linter.all false
set_option maxRecDepth 100000
set_option maxHeartbeats 4000000
namespace Mi
open PySem PySem.Spec PyProof.Rows L2
end Mi
set_option Elab.async false
set_option linter.all false
set_option maxRecDepth 100000
set_option maxHeartbeats 4000000
namespace Mi
open PySem
section
variable {Gm : Cfg} {Φ : Phi} {ρ : Env} {fx : List Nat}
theorem comp_pureL {α : Type} {vs : List Nat} {turn : Itm → Env → Option (Option D × Env)} {g : α → Itm} {f : α → Option D} : ∀ {L : List α} {acc : List D} {ρ : Env}, (∀ a ∈ L, ∃ ρ', turn (g a) (wipeE ρ vs) = some (f a, ρ') ∧ back ρ ρ' vs = ρ) →
    compGo vs turn (L.map g) acc ρ = some (acc ++ L.filterMap f, ρ)
  | [], acc, ρ, h => by simp [compGo]
  | d :: ds, acc, ρ, h => by
    obtain ⟨ρ', e, b⟩ := h d List.mem_cons_self
    have ih : ∀ acc, compGo vs turn (ds.map g) acc ρ = some (acc ++ ds.filterMap f, ρ) := fun acc => comp_pureL fun it hit => h it (List.mem_cons_of_mem _ hit)
    rw [List.map_cons]
    unfold compGo
    rw [e]
    cases q : f d with
    | none => dsimp only; rw [b, ih, List.filterMap_cons_none q]
    | some x => dsimp only; rw [b, ih, List.filterMap_cons_some q, List.append_assoc]; rfl
theorem fm_if {α : Type} {p : α → Bool} {v : α → D} : ∀ L : List α, L.filterMap (fun a => if p a = true then some (v a) else none) = (L.filter p).map v
  | [] => rfl
  | a :: r => by
    rw [List.filterMap_cons, List.filter_cons]
    by_cases h : p a = true
    · rw [if_pos h, if_pos h, List.map_cons, fm_if r]
    · rw [if_neg h, if_neg h, fm_if r]
/-- a comprehension over a told list: p: what is taken, v: what it gives -/
theorem w_compF {α : Type} {Q : R → Env → Prop} {vs : List Nat} {tg : Tg} {it : It} {c : T} {e : E} (hv : tgIn vs tg = true) (h : wI Gm Φ it ρ fun its ρ1 => ∃ (L : List α) (g : α → Itm) (p : α → Bool) (v : α → D), its = L.map g ∧
      (∀ a ∈ L, ∃ ρ3, setItm tg (g a) (wipeE ρ1 vs) = some ρ3 ∧ wT Gm Φ c ρ3 fun k ρ4 => k = p a ∧ back ρ1 ρ4 vs = ρ1 ∧ (p a = true → wE Gm Φ e ρ4 fun r ρ5 => ∃ y ρ6, freeze r ρ5 = some (y, ρ6) ∧ y = v a ∧ back ρ1 ρ6 vs = ρ1)) ∧
      Q (.o (.lst ((L.filter p).map v))) ρ1) : wE Gm Φ (.comp vs tg it c e) ρ Q := by
  refine w_comp hv ?_
  obtain ⟨its, ρ1, e1, L, g, p, v, rfl, h, q⟩ := h
  refine ⟨_, ρ1, e1, _, _, comp_pureL (f := fun a => if p a = true then some (v a) else none) fun x hx => ?_, by rw [List.nil_append, fm_if]; exact q⟩
  obtain ⟨ρ3, h0, hk⟩ := h x hx
  have t := w_turn (Gm := Gm) (Φ := Φ) (tg := tg) (c := c) (e := e) (X := fun y ρ' => y = (if p x = true then some (v x) else none) ∧ back ρ1 ρ' vs = ρ1) h0 (by
    obtain ⟨k, ρ4, e2, h1, h2, h3⟩ := hk
    refine ⟨k, ρ4, e2, fun hk => ?_, fun hk => ?_⟩
    · have hp : p x = true := h1 ▸ hk
      obtain ⟨r, ρ5, e3, y, ρ6, e4, e5, e6⟩ := h3 hp
      exact ⟨r, ρ5, e3, y, ρ6, e4, by rw [if_pos hp, e5], e6⟩
    · have hp : ¬ p x = true := by rw [← h1, hk]; decide
      exact ⟨by rw [if_neg hp], h2⟩)
  obtain ⟨y, ρ', e3, rfl, e4⟩ := t
  exact ⟨ρ', e3, e4⟩
theorem forR_indL {α : Type} {turn : Itm → Env → Option (Fl × Env)} {Q : Fl → Env → Prop} {g : α → Itm} (I : List α → Env → Prop) : ∀ (L pre : List α) (ρ : Env), I pre ρ →
    (∀ (p : List α) (a : α) (s : List α) ρ, pre ++ L = p ++ a :: s → I p ρ → ∃ f ρ', turn (g a) ρ = some (f, ρ') ∧ (match f with | .nx => I (p ++ [a]) ρ' | .rt r => Q (.rt r) ρ' | _ => False)) → (∀ ρ, I (pre ++ L) ρ → Q .nx ρ) → ∃ f ρ', forGo turn (L.map g) ρ = some (f, ρ') ∧ Q f ρ'
  | [], pre, ρ, h0, _, h2 => ⟨.nx, ρ, rfl, h2 ρ (by rw [List.append_nil]; exact h0)⟩
  | x :: its, pre, ρ, h0, h1, h2 => by
    obtain ⟨f, ρ1, e, h⟩ := h1 pre x its ρ rfl h0
    cases f with
    | nx =>
      obtain ⟨f2, ρ2, e2, q⟩ := forR_indL (turn := turn) (Q := Q) (g := g) I its (pre ++ [x]) ρ1 h (fun p a s ρ hy hi => h1 p a s ρ (by rw [← hy, List.append_assoc]; rfl) hi) (fun ρ hi => h2 ρ (by rw [List.append_assoc] at hi; exact hi))
      exact ⟨f2, ρ2, by rw [List.map_cons]; unfold forGo; rw [e]; exact e2, q⟩
    | rt r => exact ⟨.rt r, ρ1, by rw [List.map_cons]; unfold forGo; rw [e], h⟩
    | brk => exact h.elim
    | cnt => exact h.elim
/-- a `for` over a told list whose body may return; I: what holds behind the things already gone through -/
theorem w_forL {α : Type} {Q : Fl → Env → Prop} {tg : Tg} {it : It} {b : Ss} (hf : tgFree fx tg = true) (h : wI Gm Φ it ρ fun its ρ1 => ∃ (L : List α) (g : α → Itm) (I : List α → Env → Prop), its = L.map g ∧ I [] ρ1 ∧
      (∀ p a s ρ, L = p ++ a :: s → I p ρ → ∃ ρ2, setItm tg (g a) ρ = some ρ2 ∧ wB Gm Φ fx b ρ2 fun f ρ3 => (match f with | .nx => I (p ++ [a]) ρ3 | .rt r => Q (.rt r) ρ3 | _ => False)) ∧ ∀ ρ2, I L ρ2 → Q .nx ρ2) : wS Gm Φ fx (.for_ tg it b) ρ Q := by
  obtain ⟨its, ρ1, e1, L, g, I, rfl, h0, hs, q⟩ := h
  obtain ⟨f, ρ', e2, i⟩ := forR_indL (turn := fun d ρ2 => match setItm tg d ρ2 with
    | some ρ3 => evSs Gm Φ fx b ρ3
    | none => none) (Q := Q) (g := g) I L [] ρ1 h0 (fun p a s ρ hx hi => by
      obtain ⟨ρ2, e2, f, ρ3, e3, i'⟩ := hs p a s ρ hx hi
      exact ⟨f, ρ3, by simp only [e2]; exact e3, i'⟩) (fun ρ hi => q ρ hi)
  exact ⟨f, ρ', by unfold evS; rw [hf]; simp only [Bool.not_true, Bool.false_eq_true, if_false]; rw [e1, bindO_s]; exact e2, i⟩
theorem blsD_map {α : Type} (p : α → Bool) : ∀ L : List α, blsD (L.map fun a => D.bl (p a)) = some (L.map p)
  | [] => rfl
  | a :: r => by show (blsD (r.map fun a => D.bl (p a))).map _ = _; rw [blsD_map p r]; rfl
theorem all_map {α : Type} (p : α → Bool) (L : List α) : bltD .all [.lst (L.map fun a => .bl (p a))] = some (.v (.bl (L.all p))) := by
  show (blsD _).map _ = _
  rw [blsD_map]
  show some (R.v (D.bl ((L.map p).all id))) = _
  rw [List.all_map]
  rfl
theorem any_map {α : Type} (p : α → Bool) (L : List α) : bltD .any [.lst (L.map fun a => .bl (p a))] = some (.v (.bl (L.any p))) := by
  show (blsD _).map _ = _
  rw [blsD_map]
  show some (R.v (D.bl ((L.map p).any id))) = _
  rw [List.any_map]
  rfl
theorem enum_map {α : Type} (f : α → D) : ∀ (L : List α) (i : Nat), enumFrom i (L.map f) = (L.zipIdx i).map fun q => Itm.two (.int (q.2 : Nat)) (f q.1)
  | [], _ => rfl
  | a :: r, i => by rw [List.map_cons, List.zipIdx_cons, List.map_cons]; unfold enumFrom; rw [enum_map f r]
theorem zip_map {α β : Type} (f : α → D) (g : β → D) (L : List α) (M : List β) : List.zipWith Itm.two (L.map f) (M.map g) = (L.zip M).map fun q => Itm.two (f q.1) (g q.2) := by
  rw [List.zipWith_map, List.zip, List.map_zipWith]
end
end Mi
set_option Elab.async false
set_option linter.all false
set_option maxRecDepth 100000
set_option maxHeartbeats 4000000
namespace Mi
open PySem
theorem bindO_ex {α β : Type} {x : Option (α × Env)} {f : α → Env → Option (β × Env)} {y : β × Env} (h : bindO x f = some y) : ∃ a ρ, x = some (a, ρ) ∧ f a ρ = some y := by
  cases x with
  | none => cases h
  | some p => exact ⟨p.1, p.2, rfl, h⟩
section
variable {Gm : Cfg} {Φ : Phi} {fx : List Nat}
theorem callX_none (X : ∀ f as y, Φ f as = some y → Φ (f + xb) as = none) {f : Nat} {rs : List R} {ρ : Env} {y : R × Env} (h : callF Gm Φ f rs ρ = some y) : callX Gm Φ f rs ρ = none := by
  unfold callF at h
  unfold callX
  cases q1 : Gm.io f with
  | none => rfl
  | some io =>
    rw [q1] at h
    dsimp only at h ⊢
    cases q2 : takeArgs ρ rs io with
    | none => rfl
    | some p =>
      obtain ⟨as, ios, ls⟩ := p
      rw [q2] at h
      dsimp only at h
      split at h
      · cases q3 : Φ f as with
        | none => rw [q3] at h; cases h
        | some z =>
          cases ios with
          | nil =>
            dsimp only
            rw [X _ _ _ q3]
            split <;> rfl
          | cons _ _ => rfl
      · cases h
theorem makeX_none (X : ∀ f as y, Φ f as = some y → Φ (f + xb) as = none) {f : Nat} {rs : List R} {ρ : Env} {y : R × Env} (h : makeF Gm Φ f rs ρ = some y) : makeX Gm Φ f rs ρ = none := by
  unfold makeF at h
  unfold makeX
  cases q1 : freezes rs ρ with
  | none => rfl
  | some p =>
    obtain ⟨ds, ρ1⟩ := p
    rw [q1] at h
    dsimp only at h ⊢
    cases q2 : Gm.io f with
    | none => rfl
    | some io =>
      rw [q2] at h
      dsimp only at h ⊢
      split at h
      · rename_i hio
        rw [if_pos hio]
        cases q3 : Φ f ((true, .ins f [] []) :: ds.map fun d => (false, d)) with
        | none => rw [q3] at h; cases h
        | some z => rw [X _ _ _ q3]
      · cases h
mutual
theorem exE_none (X : ∀ f as y, Φ f as = some y → Φ (f + xb) as = none) : ∀ (e : E) (ρ : Env) (y : R × Env), evE Gm Φ e ρ = some y → exE Gm Φ e ρ = none
  | .callx f es, ρ, y, h => by
    unfold evE at h
    obtain ⟨rs, ρ1, h1, h2⟩ := bindO_ex h
    unfold exE
    rw [exEs_none X es ρ _ h1]
    dsimp only
    rw [h1]
    exact callX_none X h2
  | .makex f es, ρ, y, h => by
    unfold evE at h
    obtain ⟨rs, ρ1, h1, h2⟩ := bindO_ex h
    unfold exE
    rw [exEs_none X es ρ _ h1]
    dsimp only
    rw [h1]
    exact makeX_none X h2
  | .callv i es, ρ, y, h => by
    unfold evE at h
    unfold exE
    split at h
    · rename_i g hg
      try rw [hg]
      try dsimp only
      obtain ⟨rs, ρ1, h1, h2⟩ := bindO_ex h
      rw [exEs_none X es ρ _ h1]
      dsimp only
      rw [h1]
      exact callX_none X h2
    · cases h
  | .tup es, ρ, y, h => by
    unfold evE at h
    obtain ⟨rs, ρ1, h1, _⟩ := bindO_ex h
    unfold exE
    exact exEs_none X es ρ _ h1
  | .lst es, ρ, y, h => by
    unfold evE at h
    obtain ⟨rs, ρ1, h1, _⟩ := bindO_ex h
    unfold exE
    exact exEs_none X es ρ _ h1
  | .callb _ es, ρ, y, h => by
    unfold evE at h
    obtain ⟨rs, ρ1, h1, _⟩ := bindO_ex h
    unfold exE
    exact exEs_none X es ρ _ h1
  | .idx a _, ρ, y, h => by
    unfold evE at h
    obtain ⟨rs, ρ1, h1, _⟩ := bindO_ex h
    unfold exE
    exact exE_none X a ρ _ h1
  | .notv a, ρ, y, h => by
    unfold evE at h
    obtain ⟨rs, ρ1, h1, _⟩ := bindO_ex h
    unfold exE
    exact exE_none X a ρ _ h1
  | .var _, _, _, _ => by unfold exE; rfl
  | .glob _, _, _, _ => by unfold exE; rfl
  | .cint _, _, _, _ => by unfold exE; rfl
  | .cbl _, _, _, _ => by unfold exE; rfl
  | .cnon, _, _, _ => by unfold exE; rfl
  | .cstr _, _, _, _ => by unfold exE; rfl
  | .cty _, _, _, _ => by unfold exE; rfl
  | .bin _ _ _, _, _, _ => by unfold exE; rfl
  | .neg _, _, _, _ => by unfold exE; rfl
  | .andv _ _, _, _, _ => by unfold exE; rfl
  | .orv _ _, _, _, _ => by unfold exE; rfl
  | .cmp _ _ _, _, _, _ => by unfold exE; rfl
  | .chain _ _ _ _ _, _, _, _ => by unfold exE; rfl
  | .ite _ _ _, _, _, _ => by unfold exE; rfl
  | .sl _ _ _, _, _, _ => by unfold exE; rfl
  | .rev _, _, _, _ => by unfold exE; rfl
  | .call _ _, _, _, _ => by unfold exE; rfl
  | .make _ _, _, _, _ => by unfold exE; rfl
  | .meth _ _ _, _, _, _ => by unfold exE; rfl
  | .mut _ _ _, _, _, _ => by unfold exE; rfl
  | .attr _ _, _, _, _ => by unfold exE; rfl
  | .comp _ _ _ _ _, _, _, _ => by unfold exE; rfl
  | .comp2 _ _ _ _ _ _ _ _ _, _, _, _ => by unfold exE; rfl
  | .dic0, _, _, _ => by unfold exE; rfl
  | .dic1 _ _, _, _, _ => by unfold exE; rfl
  | .lrange _, _, _, _ => by unfold exE; rfl
  | .word _ _, _, _, _ => by unfold exE; rfl
  | .isx _ _, _, _, _ => by unfold exE; rfl
  | .isb _ _, _, _, _ => by unfold exE; rfl
  | .xattr _ _, _, _, _ => by unfold exE; rfl
  | .isc _ _, _, _, _ => by unfold exE; rfl
  | .isit _ _, _, _, _ => by unfold exE; rfl
  | .pure _, _, _, _ => by unfold exE; rfl
  | .eqi _ _ _ _, _, _, _ => by unfold exE; rfl
  | .fnv _, _, _, _ => by unfold exE; rfl
theorem exEs_none (X : ∀ f as y, Φ f as = some y → Φ (f + xb) as = none) : ∀ (es : Es) (ρ : Env) (y : List R × Env), evEs Gm Φ es ρ = some y → exEs Gm Φ es ρ = none
  | .nil, _, _, _ => by unfold exEs; rfl
  | .cons e r, ρ, y, h => by
    unfold evEs at h
    obtain ⟨x, ρ1, h1, h2⟩ := bindO_ex h
    obtain ⟨xs, ρ2, h3, _⟩ := bindO_ex h2
    unfold exEs
    rw [exE_none X e ρ _ h1]
    dsimp only
    rw [h1]
    exact exEs_none X r ρ1 _ h3
end
mutual
theorem exS_none (X : ∀ f as y, Φ f as = some y → Φ (f + xb) as = none) : ∀ (s : S) (ρ : Env) (y : Fl × Env), evS Gm Φ fx s ρ = some y → exS Gm Φ fx s ρ = none
  | .expr e, ρ, y, h => by
    unfold evS at h
    obtain ⟨rs, ρ1, h1, _⟩ := bindO_ex h
    unfold exS
    exact exE_none X e ρ _ h1
  | .ret e, ρ, y, h => by
    unfold evS at h
    obtain ⟨rs, ρ1, h1, _⟩ := bindO_ex h
    unfold exS
    exact exE_none X e ρ _ h1
  | .asg _ e, ρ, y, h => by
    unfold evS at h
    split at h
    · obtain ⟨rs, ρ1, h1, _⟩ := bindO_ex h
      unfold exS
      exact exE_none X e ρ _ h1
    · cases h
  | .own _ e, ρ, y, h => by
    unfold evS at h
    split at h
    · cases h
    · obtain ⟨rs, ρ1, h1, _⟩ := bindO_ex h
      unfold exS
      exact exE_none X e ρ _ h1
  | .ite c a b, ρ, y, h => by
    unfold evS at h
    obtain ⟨k, ρ1, h1, h2⟩ := bindO_ex h
    unfold exS
    rw [h1]
    show (match k with
      | true => exSs Gm Φ fx a ρ1
      | false => exSs Gm Φ fx b ρ1) = none
    cases k with
    | true => exact exSs_none X a ρ1 _ h2
    | false => exact exSs_none X b ρ1 _ h2
  | .rais _ _ _, ρ, y, h => by unfold evS at h; cases h
  | .par _ _ _, _, _, _ => by unfold exS; rfl
  | .setix2 _ _ _ _, _, _, _ => by unfold exS; rfl
  | .setix _ _ _, _, _, _ => by unfold exS; rfl
  | .setat _ _ _, _, _, _ => by unfold exS; rfl
  | .aug _ _ _, _, _, _ => by unfold exS; rfl
  | .augix _ _ _ _, _, _, _ => by unfold exS; rfl
  | .retn, _, _, _ => by unfold exS; rfl
  | .whil _ _, _, _, _ => by unfold exS; rfl
  | .for_ _ _ _, _, _, _ => by unfold exS; rfl
  | .pass, _, _, _ => by unfold exS; rfl
  | .never, _, _, _ => by unfold exS; rfl
  | .brk, _, _, _ => by unfold exS; rfl
  | .cnt, _, _, _ => by unfold exS; rfl
theorem exSs_none (X : ∀ f as y, Φ f as = some y → Φ (f + xb) as = none) : ∀ (s : Ss) (ρ : Env) (y : Fl × Env), evSs Gm Φ fx s ρ = some y → exSs Gm Φ fx s ρ = none
  | .nil, _, _, _ => by unfold exSs; rfl
  | .cons s r, ρ, y, h => by
    unfold evSs at h
    unfold exSs
    cases q : evS Gm Φ fx s ρ with
    | none => rw [q] at h; cases h
    | some z =>
      obtain ⟨f, ρ1⟩ := z
      rw [exS_none X s ρ _ q]
      rw [q] at h
      dsimp only
      cases f with
      | nx => exact exSs_none X r ρ1 _ h
      | rt _ => rfl
      | brk => rfl
      | cnt => rfl
end
end
theorem phi_x {Gm : Cfg} {tab : Nat → Option Fn} (T : ∀ f, xb ≤ f → tab f = none) : ∀ n f as y, phi Gm tab n f as = some y → phi Gm tab n (f + xb) as = none
  | 0, _, _, _, h => by cases h
  | n + 1, f, as, y, h => by
    unfold phi at h ⊢
    rw [T (f + xb) (Nat.le_add_left _ _)]
    dsimp only
    rw [if_pos (Nat.le_add_left _ _), Nat.add_sub_cancel]
    cases q : tab f with
    | none => rfl
    | some F =>
      rw [q] at h
      dsimp only at h ⊢
      unfold runF at h
      unfold runX
      split at h
      · rename_i hio
        rw [if_pos hio]
        cases q2 : evSs Gm (phi Gm tab n) (fixed F.io 0) F.body (as.map some ++ List.replicate (F.ns - F.np) none) with
        | none => rw [q2] at h; cases h
        | some z => rw [exSs_none (phi_x T n) F.body _ _ q2]
      · cases h
/-- x(lambda: e), e gives a value -/
theorem w_wordV {Gm : Cfg} {tab : Nat → Option Fn} (T : ∀ f, xb ≤ f → tab f = none) {n : Nat} {ρ : Env} {Q : R → Env → Prop} {k : Nat} {e : E} {wd : Wd} (hw : Gm.word k = some wd) (h : wE Gm (phi Gm tab n) e ρ fun r ρ1 => ∃ d ρ2 d', freeze r ρ1 = some (d, ρ2) ∧ wd.onV d = some d' ∧ still d' = true ∧ Q (.v d') ρ2) : wE Gm (phi Gm tab n) (.word k e) ρ Q := by
  obtain ⟨r, ρ1, e1, d, ρ2, d', h1, h2, h3, q⟩ := h
  refine ⟨_, ρ2, ?_, q⟩
  unfold evE
  rw [hw]
  dsimp only
  rw [exE_none (phi_x T n) e ρ _ e1]
  dsimp only
  rw [e1]
  show bindO (freeze r ρ1) _ = _
  rw [h1]
  show (match wd.onV d with
    | some d' => if still d' = true then some (R.v d', ρ2) else none
    | none => none) = _
  rw [h2]
  dsimp only
  rw [if_pos h3]
end Mi
set_option Elab.async false
set_option linter.all false
set_option maxRecDepth 100000
set_option maxHeartbeats 4000000
namespace K70
open PySem PySem.Spec PyProof.Rows L2 Mi
def top (i : Nat) : Stmt := PySem.Challenge.pw_playershouse_k70_whole_sales_dealt.main.body.getD i (.Pass ⟨0, 0, 0, 0⟩)
abbrev s__law_hand : Stmt := (top 22)
abbrev N__law_hand : List Str := ["script", "cells", "cell"]
theorem nd__law_hand : N__law_hand.Nodup := by decide +kernel
theorem sc__law_hand : FnScope N__law_hand ["script"] (defScope s__law_hand) := ⟨rfl, rfl, rfl, nd__law_hand, rfl, by decide +kernel, by decide +kernel⟩
abbrev F__law_hand : Fn := ⟨1, 3, [false], (.cons (.asg (.var 1) (.comp [2] (.var 2) (.seq (.sl (.var 0) .none (.some (.cint 63)))) .yes (.callb .abs (.cons (.callb .int (.cons (.var 2) .nil)) .nil)))) (.cons (.ret (.lst (.cons (.var 1) (.cons (.cint 0) (.cons (.cint 0) (.cons (.bin .add (.cint 61) (.bin .mul (.cint 9) (.callb .len (.cons (.var 1) .nil)))) (.cons (.cint 0) .nil))))))) .nil))⟩
abbrev s_is_integer : Stmt := (top 1)
abbrev N_is_integer : List Str := ["thing"]
theorem nd_is_integer : N_is_integer.Nodup := by decide +kernel
theorem sc_is_integer : FnScope N_is_integer ["thing"] (defScope s_is_integer) := ⟨rfl, rfl, rfl, nd_is_integer, rfl, by decide +kernel, by decide +kernel⟩
abbrev F_is_integer : Fn := ⟨1, 1, [false], (.cons (.ret (.andv (.callb .isi (.cons (.var 0) (.cons (.cty "int") .nil))) (.notv (.callb .isi (.cons (.var 0) (.cons (.cty "bool") .nil)))))) .nil)⟩
abbrev s_is_within : Stmt := (top 2)
abbrev N_is_within : List Str := ["thing", "least", "most"]
theorem nd_is_within : N_is_within.Nodup := by decide +kernel
theorem sc_is_within : FnScope N_is_within ["thing", "least", "most"] (defScope s_is_within) := ⟨rfl, rfl, rfl, nd_is_within, rfl, by decide +kernel, by decide +kernel⟩
abbrev F_is_within : Fn := ⟨3, 3, [false, false, false], (.cons (.ret (.andv (.call 1 (.cons (.var 0) .nil)) (.chain .le .le (.var 1) (.var 0) (.var 2)))) .nil)⟩
abbrev s_is_sized : Stmt := (top 5)
abbrev N_is_sized : List Str := ["thing", "least", "most"]
theorem nd_is_sized : N_is_sized.Nodup := by decide +kernel
theorem sc_is_sized : FnScope N_is_sized ["thing", "least", "most"] (defScope s_is_sized) := ⟨rfl, rfl, rfl, nd_is_sized, rfl, by decide +kernel, by decide +kernel⟩
abbrev F_is_sized : Fn := ⟨3, 3, [false, false, false], (.cons (.ret (.andv (.callb .isi (.cons (.var 0) (.cons (.cty "tuple") .nil))) (.chain .le .le (.var 1) (.callb .len (.cons (.var 0) .nil)) (.var 2)))) .nil)⟩
abbrev s_lots_of : Stmt := (top 7)
abbrev N_lots_of : List Str := ["many", "found", "one", "lot"]
theorem nd_lots_of : N_lots_of.Nodup := by decide +kernel
theorem sc_lots_of : FnScope N_lots_of ["many"] (defScope s_lots_of) := ⟨rfl, rfl, rfl, nd_lots_of, rfl, by decide +kernel, by decide +kernel⟩
abbrev F_lots_of : Fn := ⟨1, 4, [false], (.cons (.asg (.var 1) (.lst (.cons (.tup .nil) .nil))) (.cons (.for_ (.var 2) (.range1 (.var 0)) (.cons (.asg (.var 1) (.bin .add (.var 1) (.comp [3] (.var 3) (.seq (.var 1)) .yes (.bin .add (.var 3) (.tup (.cons (.var 2) .nil)))))) .nil)) (.cons (.ret (.var 1)) .nil)))⟩
abbrev s_is_tuple : Stmt := (top 4)
abbrev N_is_tuple : List Str := ["thing", "size"]
theorem nd_is_tuple : N_is_tuple.Nodup := by decide +kernel
theorem sc_is_tuple : FnScope N_is_tuple ["thing", "size"] (defScope s_is_tuple) := ⟨rfl, rfl, rfl, nd_is_tuple, rfl, by decide +kernel, by decide +kernel⟩
abbrev F_is_tuple : Fn := ⟨2, 2, [false, false], (.cons (.ret (.andv (.callb .isi (.cons (.var 0) (.cons (.cty "tuple") .nil))) (.cmp .eq (.callb .len (.cons (.var 0) .nil)) (.var 1)))) .nil)⟩
abbrev s_is_number : Stmt := (top 3)
abbrev N_is_number : List Str := ["thing"]
theorem nd_is_number : N_is_number.Nodup := by decide +kernel
theorem sc_is_number : FnScope N_is_number ["thing"] (defScope s_is_number) := ⟨rfl, rfl, rfl, nd_is_number, rfl, by decide +kernel, by decide +kernel⟩
abbrev F_is_number : Fn := ⟨1, 1, [false], (.cons (.ret (.andv (.call 1 (.cons (.var 0) .nil)) (.cmp .ge (.var 0) (.cint 0)))) .nil)⟩
abbrev s_are_worths : Stmt := (top 14)
abbrev N_are_worths : List Str := ["thing", "things", "lots", "k", "lot", "other", "more", "one"]
theorem nd_are_worths : N_are_worths.Nodup := by decide +kernel
theorem sc_are_worths : FnScope N_are_worths ["thing", "things"] (defScope s_are_worths) := ⟨rfl, rfl, rfl, nd_are_worths, rfl, by decide +kernel, by decide +kernel⟩
abbrev F_are_worths : Fn := ⟨2, 8, [false, false], (.cons (.asg (.var 2) (.call 4 (.cons (.var 1) .nil))) (.cons (.ite (.or (.not (.val (.call 5 (.cons (.var 0) (.cons (.callb .len (.cons (.var 2) .nil)) .nil))))) (.or (.not (.val (.callb .all (.cons (.comp [7] (.var 7) (.seq (.var 0)) .yes (.call 6 (.cons (.var 7) .nil))) .nil)))) (.val (.cmp .ne (.idx (.var 0) (.cint 0)) (.cint 0))))) (.cons (.ret (.cbl false)) .nil) .nil) (.cons (.for_ (.cons (.var 3) (.cons (.var 4) .nil)) (.enum (.var 2)) (.cons (.for_ (.cons (.var 5) (.cons (.var 6) .nil)) (.enum (.var 2)) (.cons (.ite (.and (.val (.callb .all (.cons (.comp [7] (.var 7) (.seq (.var 4)) .yes (.cmp .inn (.var 7) (.var 6))) .nil))) (.val (.cmp .gt (.idx (.var 0) (.var 3)) (.idx (.var 0) (.var 5))))) (.cons (.ret (.cbl false)) .nil) .nil) .nil)) .nil)) (.cons (.ret (.cbl true)) .nil))))⟩
abbrev s_Sale : Stmt := (inClass (top 15) 0)
abbrev N_Sale : List Str := ["self", "things", "bids", "bid"]
theorem nd_Sale : N_Sale.Nodup := by decide +kernel
theorem sc_Sale : FnScope N_Sale ["self", "things", "bids"] (defScope s_Sale) := ⟨rfl, rfl, rfl, nd_Sale, rfl, by decide +kernel, by decide +kernel⟩
abbrev F_Sale : Fn := ⟨3, 4, [true, false, false], (.cons (.ite (.not (.val (.call 2 (.cons (.var 1) (.cons (.cint 1) (.cons (.glob 0) .nil)))))) (.cons (.rais 1000 ["part"] (.cons (.cstr "things") .nil)) .nil) .nil) (.cons (.ite (.or (.not (.val (.call 3 (.cons (.var 2) (.cons (.cint 1) (.cons (.glob 1) .nil)))))) (.not (.val (.callb .all (.cons (.comp [3] (.var 3) (.seq (.var 2)) .yes (.call 7 (.cons (.var 3) (.cons (.var 1) .nil)))) .nil))))) (.cons (.rais 1000 ["part"] (.cons (.cstr "bids") .nil)) .nil) .nil) (.cons (.setat 0 "things" (.var 1)) (.cons (.setat 0 "bids" (.var 2)) .nil))))⟩
abbrev s__law_is : Stmt := (top 25)
abbrev N__law_is : List Str := ["got", "due", "one", "other"]
theorem nd__law_is : N__law_is.Nodup := by decide +kernel
theorem sc__law_is : FnScope N__law_is ["got", "due"] (defScope s__law_is) := ⟨rfl, rfl, rfl, nd__law_is, rfl, by decide +kernel, by decide +kernel⟩
abbrev F__law_is : Fn := ⟨2, 4, [false, false], (.cons (.ite (.val (.isit (.var 1) ["tuple", "list"])) (.cons (.ite (.val (.cmp .ne (.callb .isi (.cons (.var 0) (.cons (.cty "tuple") .nil))) (.callb .isi (.cons (.var 1) (.cons (.cty "tuple") .nil))))) (.cons (.ret (.cbl false)) .nil) .nil) (.cons (.ite (.or (.val (.cmp .ne (.callb .isi (.cons (.var 0) (.cons (.cty "list") .nil))) (.callb .isi (.cons (.var 1) (.cons (.cty "list") .nil))))) (.val (.cmp .ne (.callb .len (.cons (.var 0) .nil)) (.callb .len (.cons (.var 1) .nil))))) (.cons (.ret (.cbl false)) .nil) .nil) (.cons (.ret (.callb .all (.cons (.comp [2, 3] (.cons (.var 2) (.cons (.var 3) .nil)) (.zip (.var 0) (.var 1)) .yes (.call 9 (.cons (.var 2) (.cons (.var 3) .nil)))) .nil))) .nil))) .nil) (.cons (.ite (.or (.val (.cmp .iss (.var 1) .cnon)) (.val (.cmp .iss (.var 0) .cnon))) (.cons (.ret (.andv (.cmp .iss (.var 1) .cnon) (.cmp .iss (.var 0) .cnon))) .nil) .nil) (.cons (.ite (.val (.cmp .ne (.callb .isi (.cons (.var 0) (.cons (.cty "bool") .nil))) (.callb .isi (.cons (.var 1) (.cons (.cty "bool") .nil))))) (.cons (.ret (.cbl false)) .nil) .nil) (.cons (.ret (.andv (.cmp .eq (.callb .isi (.cons (.var 0) (.cons (.cty "str") .nil))) (.callb .isi (.cons (.var 1) (.cons (.cty "str") .nil)))) (.cmp .eq (.var 0) (.var 1)))) .nil))))⟩
abbrev s_all_tuples : Stmt := (top 6)
abbrev N_all_tuples : List Str := ["sizes", "found", "size", "row", "one"]
theorem nd_all_tuples : N_all_tuples.Nodup := by decide +kernel
theorem sc_all_tuples : FnScope N_all_tuples ["sizes"] (defScope s_all_tuples) := ⟨rfl, rfl, rfl, nd_all_tuples, rfl, by decide +kernel, by decide +kernel⟩
abbrev F_all_tuples : Fn := ⟨1, 5, [false], (.cons (.asg (.var 1) (.lst (.cons (.tup .nil) .nil))) (.cons (.for_ (.var 2) (.seq (.var 0)) (.cons (.asg (.var 1) (.comp2 [3, 4] [4] (.var 3) (.seq (.var 1)) .yes (.var 4) (.range1 (.var 2)) .yes (.bin .add (.var 3) (.tup (.cons (.var 4) .nil))))) .nil)) (.cons (.ret (.var 1)) .nil)))⟩
abbrev s_lot_number : Stmt := (top 16)
abbrev N_lot_number : List Str := ["lot", "thing"]
theorem nd_lot_number : N_lot_number.Nodup := by decide +kernel
theorem sc_lot_number : FnScope N_lot_number ["lot"] (defScope s_lot_number) := ⟨rfl, rfl, rfl, nd_lot_number, rfl, by decide +kernel, by decide +kernel⟩
abbrev F_lot_number : Fn := ⟨1, 2, [false], (.cons (.ret (.callb .sum (.cons (.comp [1] (.var 1) (.seq (.var 0)) .yes (.idx (.lst (.cons (.cint 1) (.cons (.cint 2) (.cons (.cint 4) .nil)))) (.var 1))) .nil))) .nil)⟩
abbrev s_all_deals : Stmt := (top 17)
abbrev N_all_deals : List Str := ["things", "bidders", "found", "owners", "one", "at"]
theorem nd_all_deals : N_all_deals.Nodup := by decide +kernel
theorem sc_all_deals : FnScope N_all_deals ["things", "bidders"] (defScope s_all_deals) := ⟨rfl, rfl, rfl, nd_all_deals, rfl, by decide +kernel, by decide +kernel⟩
abbrev F_all_deals : Fn := ⟨2, 6, [false, false], (.cons (.own 2 (.lst .nil)) (.cons (.for_ (.var 3) (.seq (.call 10 (.cons (.bin .mul (.lst (.cons (.bin .add (.var 1) (.cint 1)) .nil)) (.var 0)) .nil))) (.cons (.expr (.mut .append 2 (.cons (.callb .tuple (.cons (.comp [4] (.var 4) (.range1 (.var 1)) .yes (.call 11 (.cons (.comp [5] (.var 5) (.range1 (.var 0)) (.val (.cmp .eq (.idx (.var 3) (.var 5)) (.var 4))) (.var 5)) .nil))) .nil)) .nil))) .nil)) (.cons (.ret (.callb .sorted (.cons (.var 2) .nil))) .nil)))⟩
abbrev s_worth_of : Stmt := (top 18)
abbrev N_worth_of : List Str := ["bids", "deal", "left_out", "one", "lot"]
theorem nd_worth_of : N_worth_of.Nodup := by decide +kernel
theorem sc_worth_of : FnScope N_worth_of ["bids", "deal", "left_out"] (defScope s_worth_of) := ⟨rfl, rfl, rfl, nd_worth_of, rfl, by decide +kernel, by decide +kernel⟩
abbrev F_worth_of : Fn := ⟨3, 5, [false, false, false], (.cons (.ret (.callb .sum (.cons (.comp [3, 4] (.cons (.var 3) (.cons (.var 4) .nil)) (.enum (.var 1)) (.val (.cmp .ne (.var 3) (.var 2))) (.idx (.idx (.var 0) (.var 3)) (.var 4))) .nil))) .nil)⟩
abbrev s_best_deal : Stmt := (top 19)
abbrev N_best_deal : List Str := ["things", "bids", "best", "deal", "here"]
theorem nd_best_deal : N_best_deal.Nodup := by decide +kernel
theorem sc_best_deal : FnScope N_best_deal ["things", "bids"] (defScope s_best_deal) := ⟨rfl, rfl, rfl, nd_best_deal, rfl, by decide +kernel, by decide +kernel⟩
abbrev F_best_deal : Fn := ⟨2, 5, [false, false], (.cons (.asg (.var 2) .cnon) (.cons (.for_ (.var 3) (.seq (.call 12 (.cons (.var 0) (.cons (.callb .len (.cons (.var 1) .nil)) .nil)))) (.cons (.asg (.var 4) (.call 13 (.cons (.var 1) (.cons (.var 3) (.cons .cnon .nil))))) (.cons (.ite (.or (.val (.cmp .iss (.var 2) .cnon)) (.val (.cmp .gt (.var 4) (.idx (.var 2) (.cint 0))))) (.cons (.asg (.var 2) (.tup (.cons (.var 4) (.cons (.var 3) .nil)))) .nil) .nil) .nil))) (.cons (.ret (.var 2)) .nil)))⟩
abbrev s_dealt : Stmt := (top 20)
abbrev N_dealt : List Str := ["sale", "worth", "deal", "lots", "lot"]
theorem nd_dealt : N_dealt.Nodup := by decide +kernel
theorem sc_dealt : FnScope N_dealt ["sale"] (defScope s_dealt) := ⟨rfl, rfl, rfl, nd_dealt, rfl, by decide +kernel, by decide +kernel⟩
abbrev F_dealt : Fn := ⟨1, 5, [false], (.cons (.asg (.cons (.var 1) (.cons (.var 2) .nil)) (.call 14 (.cons (.attr (.var 0) "things") (.cons (.attr (.var 0) "bids") .nil)))) (.cons (.asg (.var 3) (.call 4 (.cons (.attr (.var 0) "things") .nil))) (.cons (.ret (.tup (.cons (.var 1) (.cons (.callb .tuple (.cons (.comp [4] (.var 4) (.seq (.var 2)) .yes (.idx (.var 3) (.var 4))) .nil)) .nil)))) .nil)))⟩
abbrev s__law_draw : Stmt := (top 23)
abbrev N__law_draw : List Str := ["hand", "many", "cell", "digit", "number"]
theorem nd__law_draw : N__law_draw.Nodup := by decide +kernel
theorem sc__law_draw : FnScope N__law_draw ["hand", "many"] (defScope s__law_draw) := ⟨rfl, rfl, rfl, nd__law_draw, rfl, by decide +kernel, by decide +kernel⟩
abbrev F__law_draw : Fn := ⟨2, 5, [true, false], (.cons (.ite (.and (.val (.cmp .eq (.idx (.var 0) (.cint 2)) (.cint 0))) (.val (.cmp .lt (.idx (.var 0) (.cint 1)) (.callb .len (.cons (.idx (.var 0) (.cint 0)) .nil))))) (.cons (.asg (.var 2) (.idx (.idx (.var 0) (.cint 0)) (.idx (.var 0) (.cint 1)))) (.cons (.setix 0 (.cint 1) (.bin .add (.idx (.var 0) (.cint 1)) (.cint 1))) (.cons (.setix 0 (.cint 3) (.bin .mod (.callb .int (.cons (.bin .add (.bin .add (.bin .mul (.idx (.var 0) (.cint 3)) (.cint 69621)) (.var 2)) (.cint 17)) .nil)) (.cint 2147483629))) (.cons (.ite (.val (.cmp .ge (.var 2) (.bin .pow (.cint 10) (.cint 18)))) (.cons (.setix 0 (.cint 2) (.var 2)) .nil) .nil) .nil)))) .nil) (.cons (.ite (.val (.cmp .gt (.idx (.var 0) (.cint 2)) (.cint 0))) (.cons (.asg (.var 3) (.bin .mod (.callb .int (.cons (.idx (.var 0) (.cint 2)) .nil)) (.var 1))) (.cons (.setix 0 (.cint 2) (.bin .fdiv (.idx (.var 0) (.cint 2)) (.var 1))) (.cons (.ret (.var 3)) .nil))) .nil) (.cons (.setix 0 (.cint 4) (.bin .add (.idx (.var 0) (.cint 4)) (.cint 1))) (.cons (.asg (.var 4) (.bin .mod (.callb .int (.cons (.bin .mul (.callb .int (.cons (.bin .add (.idx (.var 0) (.cint 3)) (.bin .mul (.cint 7919) (.idx (.var 0) (.cint 4)))) .nil)) (.cint 48271)) .nil)) (.cint 2147483647))) (.cons (.asg (.var 4) (.bin .mod (.callb .int (.cons (.bin .mul (.var 4) (.bin .add (.bin .fdiv (.var 4) (.cint 1009)) (.cint 69621))) .nil)) (.cint 2147483647))) (.cons (.asg (.var 4) (.bin .mod (.callb .int (.cons (.bin .mul (.var 4) (.bin .add (.bin .fdiv (.var 4) (.cint 2003)) (.cint 40692))) .nil)) (.cint 2147483399))) (.cons (.ret (.bin .mod (.callb .int (.cons (.bin .fdiv (.var 4) (.cint 16)) .nil)) (.var 1))) .nil)))))))⟩
abbrev s_Sale___eq__ : Stmt := (inClass (top 15) 1)
abbrev N_Sale___eq__ : List Str := ["self", "other"]
theorem nd_Sale___eq__ : N_Sale___eq__.Nodup := by decide +kernel
theorem sc_Sale___eq__ : FnScope N_Sale___eq__ ["self", "other"] (defScope s_Sale___eq__) := ⟨rfl, rfl, rfl, nd_Sale___eq__, rfl, by decide +kernel, by decide +kernel⟩
abbrev F_Sale___eq__ : Fn := ⟨2, 2, [false, false], (.cons (.ret (.andv (.isc (.var 1) 8) (.andv (.cmp .eq (.attr (.var 0) "things") (.attr (.var 1) "things")) (.cmp .eq (.attr (.var 0) "bids") (.attr (.var 1) "bids"))))) .nil)⟩
abbrev s__law_lots : Stmt := (top 28)
abbrev N__law_lots : List Str := ["things", "many", "found", "one", "more", "deal", "at"]
theorem nd__law_lots : N__law_lots.Nodup := by decide +kernel
theorem sc__law_lots : FnScope N__law_lots ["things", "many"] (defScope s__law_lots) := ⟨rfl, rfl, rfl, nd__law_lots, rfl, by decide +kernel, by decide +kernel⟩
abbrev F__law_lots : Fn := ⟨2, 7, [false, false], (.cons (.asg (.var 2) (.lst (.cons (.bin .mul (.tup (.cons (.cint 0) .nil)) (.var 1)) .nil))) (.cons (.for_ (.var 3) (.range1 (.var 0)) (.cons (.own 4 (.callb .list (.cons (.var 2) .nil))) (.cons (.for_ (.var 5) (.seq (.var 2)) (.cons (.expr (.mut .extend 4 (.cons (.comp [6] (.var 6) (.range1 (.var 1)) .yes (.bin .add (.bin .add (.sl (.var 5) .none (.some (.var 6))) (.tup (.cons (.bin .add (.idx (.var 5) (.var 6)) (.idx (.lst (.cons (.cint 1) (.cons (.cint 2) (.cons (.cint 4) .nil)))) (.var 3))) .nil))) (.sl (.var 5) (.some (.bin .add (.var 6) (.cint 1))) .none))) .nil))) .nil)) (.cons (.asg (.var 2) (.var 4)) .nil)))) (.cons (.ret (.var 2)) .nil)))⟩
abbrev s__law_best : Stmt := (top 29)
abbrev N__law_best : List Str := ["things", "bids", "best", "deal", "worth", "bid", "lot"]
theorem nd__law_best : N__law_best.Nodup := by decide +kernel
theorem sc__law_best : FnScope N__law_best ["things", "bids"] (defScope s__law_best) := ⟨rfl, rfl, rfl, nd__law_best, rfl, by decide +kernel, by decide +kernel⟩
abbrev F__law_best : Fn := ⟨2, 7, [false, false], (.cons (.asg (.var 2) .cnon) (.cons (.for_ (.var 3) (.seq (.call 18 (.cons (.var 0) (.cons (.callb .len (.cons (.var 1) .nil)) .nil)))) (.cons (.asg (.var 4) (.callb .sum (.cons (.comp [5, 6] (.cons (.var 5) (.cons (.var 6) .nil)) (.zip (.var 1) (.var 3)) .yes (.idx (.var 5) (.var 6))) .nil))) (.cons (.ite (.or (.val (.cmp .iss (.var 2) .cnon)) (.or (.val (.cmp .gt (.var 4) (.idx (.var 2) (.cint 0)))) (.and (.val (.cmp .eq (.var 4) (.idx (.var 2) (.cint 0)))) (.val (.cmp .lt (.var 3) (.idx (.var 2) (.cint 1))))))) (.cons (.asg (.var 2) (.tup (.cons (.var 4) (.cons (.var 3) .nil)))) .nil) .nil) .nil))) (.cons (.ret (.var 2)) .nil)))⟩
abbrev s__law_of : Stmt := (top 30)
abbrev N__law_of : List Str := ["lot", "one"]
theorem nd__law_of : N__law_of.Nodup := by decide +kernel
theorem sc__law_of : FnScope N__law_of ["lot"] (defScope s__law_of) := ⟨rfl, rfl, rfl, nd__law_of, rfl, by decide +kernel, by decide +kernel⟩
abbrev F__law_of : Fn := ⟨1, 2, [false], (.cons (.ret (.callb .tuple (.cons (.comp [1] (.var 1) (.range1 (.cint 3)) (.val (.cmp .eq (.bin .mod (.callb .int (.cons (.bin .fdiv (.var 0) (.idx (.lst (.cons (.cint 1) (.cons (.cint 2) (.cons (.cint 4) .nil)))) (.var 1))) .nil)) (.cint 2)) (.cint 1))) (.var 1)) .nil))) .nil)⟩
abbrev s__law_some : Stmt := (top 24)
abbrev N__law_some : List Str := ["hand", "things"]
theorem nd__law_some : N__law_some.Nodup := by decide +kernel
theorem sc__law_some : FnScope N__law_some ["hand", "things"] (defScope s__law_some) := ⟨rfl, rfl, rfl, nd__law_some, rfl, by decide +kernel, by decide +kernel⟩
abbrev F__law_some : Fn := ⟨2, 2, [true, false], (.cons (.ret (.idx (.var 1) (.call 16 (.cons (.var 0) (.cons (.callb .len (.cons (.var 1) .nil)) .nil))))) .nil)⟩
abbrev s__law_bent : Stmt := (top 34)
abbrev N__law_bent : List Str := ["hand", "bids", "at", "bid", "to", "odds", "rows", "some", "odd", "row"]
theorem nd__law_bent : N__law_bent.Nodup := by decide +kernel
theorem sc__law_bent : FnScope N__law_bent ["hand", "bids"] (defScope s__law_bent) := ⟨rfl, rfl, rfl, nd__law_bent, rfl, by decide +kernel, by decide +kernel⟩
abbrev F__law_bent : Fn := ⟨2, 10, [true, false], (.cons (.asg (.var 2) (.call 16 (.cons (.var 0) (.cons (.callb .len (.cons (.var 1) .nil)) .nil)))) (.cons (.asg (.var 3) (.idx (.var 1) (.var 2))) (.cons (.asg (.var 4) (.call 16 (.cons (.var 0) (.cons (.callb .len (.cons (.var 3) .nil)) .nil)))) (.cons (.asg (.var 5) (.lst (.cons (.neg (.cint 1)) (.cons (.bin .pow (.cint 10) (.cint 29)) (.cons .cnon (.cons (.cbl true) (.cons (.cstr "1") (.cons (.tup (.cons (.cint 1) .nil)) (.cons (.cint 0) (.cons (.bin .add (.idx (.var 3) (.var 4)) (.cint 1)) .nil)))))))))) (.cons (.asg (.var 6) (.comp [8] (.var 8) (.seq (.var 5)) .yes (.bin .add (.bin .add (.sl (.var 3) .none (.some (.var 4))) (.tup (.cons (.var 8) .nil))) (.sl (.var 3) (.some (.bin .add (.var 4) (.cint 1))) .none)))) (.cons (.asg (.var 6) (.bin .add (.var 6) (.lst (.cons (.sl (.var 3) (.some (.cint 1)) .none) (.cons (.bin .add (.var 3) (.tup (.cons (.idx (.var 3) (.neg (.cint 1))) .nil))) (.cons (.callb .list (.cons (.var 3) .nil)) (.cons (.rev (.var 3)) (.cons .cnon (.cons (.tup .nil) .nil))))))))) (.cons (.asg (.var 7) (.comp [9] (.var 9) (.seq (.var 6)) .yes (.bin .add (.bin .add (.sl (.var 1) .none (.some (.var 2))) (.tup (.cons (.var 9) .nil))) (.sl (.var 1) (.some (.bin .add (.var 2) (.cint 1))) .none)))) (.cons (.ret (.call 21 (.cons (.var 0) (.cons (.bin .add (.var 7) (.lst (.cons (.tup .nil) (.cons (.callb .list (.cons (.var 1) .nil)) (.cons (.bin .mul (.var 1) (.cint 5)) (.cons .cnon (.cons (.cint 0) (.cons .dic0 (.cons (.cstr "bids") (.cons (.var 3) .nil)))))))))) .nil)))) .nil))))))))⟩
abbrev s__law_are_bids : Stmt := (top 33)
abbrev N__law_are_bids : List Str := ["things", "thing", "size", "bid", "lot", "one"]
theorem nd__law_are_bids : N__law_are_bids.Nodup := by decide +kernel
theorem sc__law_are_bids : FnScope N__law_are_bids ["things", "thing"] (defScope s__law_are_bids) := ⟨rfl, rfl, rfl, nd__law_are_bids, rfl, by decide +kernel, by decide +kernel⟩
abbrev F__law_are_bids : Fn := ⟨2, 6, [false, false], (.cons (.asg (.var 2) (.idx (.lst (.cons (.cint 1) (.cons (.cint 2) (.cons (.cint 4) (.cons (.cint 8) .nil))))) (.var 0))) (.cons (.ite (.or (.not (.val (.callb .isi (.cons (.var 1) (.cons (.cty "tuple") .nil))))) (.not (.val (.chain .le .le (.cint 1) (.callb .len (.cons (.var 1) .nil)) (.cint 4))))) (.cons (.ret (.cbl false)) .nil) .nil) (.cons (.for_ (.var 3) (.seq (.var 1)) (.cons (.ite (.or (.not (.val (.callb .isi (.cons (.var 3) (.cons (.cty "tuple") .nil))))) (.val (.cmp .ne (.callb .len (.cons (.var 3) .nil)) (.var 2)))) (.cons (.ret (.cbl false)) .nil) .nil) (.cons (.ite (.not (.val (.callb .all (.cons (.comp [5] (.var 5) (.seq (.var 3)) .yes (.andv (.callb .isi (.cons (.var 5) (.cons (.cty "int") .nil))) (.andv (.notv (.callb .isi (.cons (.var 5) (.cons (.cty "bool") .nil)))) (.cmp .ge (.var 5) (.cint 0))))) .nil)))) (.cons (.ret (.cbl false)) .nil) .nil) (.cons (.ite (.val (.cmp .ne (.idx (.var 3) (.cint 0)) (.cint 0))) (.cons (.ret (.cbl false)) .nil) .nil) (.cons (.for_ (.var 4) (.range1 (.var 2)) (.cons (.ite (.val (.callb .any (.cons (.comp [5] (.var 5) (.seq (.tup (.cons (.cint 1) (.cons (.cint 2) (.cons (.cint 4) .nil))))) .yes (.andv (.cmp .eq (.bin .mod (.callb .int (.cons (.bin .fdiv (.var 4) (.var 5)) .nil)) (.cint 2)) (.cint 1)) (.cmp .gt (.idx (.var 3) (.bin .sub (.var 4) (.var 5))) (.idx (.var 3) (.var 4))))) .nil))) (.cons (.ret (.cbl false)) .nil) .nil) .nil)) .nil))))) (.cons (.ret (.cbl true)) .nil))))⟩
abbrev s__law_is_right : Stmt := (top 35)
abbrev N__law_is_right : List Str := ["hand", "things", "bids", "sale", "due", "told", "other", "turn", "kept", "word", "odd", "thing", "lot"]
theorem nd__law_is_right : N__law_is_right.Nodup := by decide +kernel
theorem sc__law_is_right : FnScope N__law_is_right ["hand", "things", "bids"] (defScope s__law_is_right) := ⟨rfl, rfl, rfl, nd__law_is_right, rfl, by decide +kernel, by decide +kernel⟩
abbrev F__law_is_right : Fn := ⟨3, 13, [true, false, false], (.cons (.par true [(3, false), (4, false)] (.cons (.makex 8 (.cons (.var 1) (.cons (.var 2) .nil))) (.cons (.call 19 (.cons (.var 1) (.cons (.var 2) .nil))) .nil))) (.cons (.asg (.var 5) (.tup (.cons (.idx (.var 4) (.cint 0)) (.cons (.callb .tuple (.cons (.comp [12] (.var 12) (.seq (.idx (.var 4) (.cint 1))) .yes (.call 20 (.cons (.var 12) .nil))) .nil)) .nil)))) (.cons (.ite (.not (.val (.call 9 (.cons (.lst (.cons (.call 15 (.cons (.var 3) .nil)) (.cons (.call 15 (.cons (.var 3) .nil)) (.cons (.attr (.var 3) "things") (.cons (.attr (.var 3) "bids") .nil))))) (.cons (.lst (.cons (.var 5) (.cons (.var 5) (.cons (.var 1) (.cons (.var 2) .nil))))) .nil))))) (.cons (.ret (.cbl false)) .nil) .nil) (.cons (.ite (.or (.not (.val (.eqi false 8 17 (.cons (.makex 8 (.cons (.var 1) (.cons (.var 2) .nil))) (.cons (.var 3) .nil))))) (.or (.val (.eqi false 8 17 (.cons (.var 3) (.cons (.tup (.cons (.var 1) (.cons (.var 2) .nil))) .nil)))) (.val (.eqi false 8 17 (.cons (.var 3) (.cons (.var 2) .nil)))))) (.cons (.ret (.cbl false)) .nil) .nil) (.cons (.asg (.var 6) (.makex 8 (.cons (.var 1) (.cons (.rev (.var 2)) .nil)))) (.cons (.ite (.val (.cmp .ne (.eqi false 8 17 (.cons (.var 6) (.cons (.var 3) .nil))) (.cmp .eq (.rev (.var 2)) (.var 2)))) (.cons (.ret (.cbl false)) .nil) .nil) (.cons (.for_ (.var 7) (.range1 (.cint 5)) (.cons (.asg (.var 11) (.call 22 (.cons (.var 0) (.cons (.var 2) .nil)))) (.cons (.asg (.var 8) (.callb .repr (.cons (.var 11) .nil))) (.cons (.asg (.var 9) (.ite (.val (.call 23 (.cons (.var 1) (.cons (.var 11) .nil)))) (.cstr "let") (.tup (.cons (.cstr "sale") (.cons (.cstr "bids") .nil))))) (.cons (.ite (.val (.cmp .ne (.word 2000 (.makex 8 (.cons (.var 1) (.cons (.var 11) .nil)))) (.var 9))) (.cons (.ret (.cbl false)) .nil) .nil) (.cons (.ite (.val (.cmp .ne (.callb .repr (.cons (.var 11) .nil)) (.var 8))) (.cons (.ret (.cbl false)) .nil) .nil) .nil)))))) (.cons (.asg (.var 10) (.call 21 (.cons (.var 0) (.cons (.lst (.cons (.cint 0) (.cons (.cint 4) (.cons (.neg (.cint 1)) (.cons .cnon (.cons (.cbl true) (.cons (.cstr "1") (.cons (.tup (.cons (.cint 1) .nil)) (.cons (.bin .pow (.cint 10) (.cint 29)) .nil))))))))) .nil)))) (.cons (.ret (.cmp .eq (.word 2000 (.makex 8 (.cons (.var 10) (.cons (.call 21 (.cons (.var 0) (.cons (.lst (.cons (.var 2) (.cons .cnon .nil))) .nil))) .nil)))) (.tup (.cons (.cstr "sale") (.cons (.cstr "things") .nil))))) .nil)))))))))⟩
abbrev s__law_bid : Stmt := (top 26)
abbrev N__law_bid : List Str := ["hand", "things", "most", "found", "lot", "less", "one"]
theorem nd__law_bid : N__law_bid.Nodup := by decide +kernel
theorem sc__law_bid : FnScope N__law_bid ["hand", "things", "most"] (defScope s__law_bid) := ⟨rfl, rfl, rfl, nd__law_bid, rfl, by decide +kernel, by decide +kernel⟩
abbrev F__law_bid : Fn := ⟨3, 7, [true, false, false], (.cons (.own 3 (.lst (.cons (.cint 0) .nil))) (.cons (.for_ (.var 4) (.range2 (.cint 1) (.bin .pow (.cint 2) (.cint 3))) (.cons (.ite (.val (.cmp .lt (.var 4) (.idx (.lst (.cons (.cint 1) (.cons (.cint 2) (.cons (.cint 4) (.cons (.cint 8) .nil))))) (.var 1)))) (.cons (.asg (.var 5) (.comp [6] (.var 6) (.seq (.tup (.cons (.cint 1) (.cons (.cint 2) (.cons (.cint 4) .nil))))) (.val (.cmp .eq (.bin .mod (.callb .int (.cons (.bin .fdiv (.var 4) (.var 6)) .nil)) (.cint 2)) (.cint 1))) (.idx (.var 3) (.bin .sub (.var 4) (.var 6))))) (.cons (.expr (.mut .append 3 (.cons (.bin .add (.callb .max (.cons (.var 5) .nil)) (.call 21 (.cons (.var 0) (.cons (.lst (.cons (.cint 0) (.cons (.cint 0) (.cons (.call 16 (.cons (.var 0) (.cons (.bin .add (.var 2) (.cint 1)) .nil))) .nil)))) .nil)))) .nil))) .nil)) .nil) .nil)) (.cons (.ret (.callb .tuple (.cons (.var 3) .nil))) .nil)))⟩
abbrev s__law_single_bid : Stmt := (top 27)
abbrev N__law_single_bid : List Str := ["hand", "things", "most", "worths", "found", "lot", "one"]
theorem nd__law_single_bid : N__law_single_bid.Nodup := by decide +kernel
theorem sc__law_single_bid : FnScope N__law_single_bid ["hand", "things", "most"] (defScope s__law_single_bid) := ⟨rfl, rfl, rfl, nd__law_single_bid, rfl, by decide +kernel, by decide +kernel⟩
abbrev F__law_single_bid : Fn := ⟨3, 7, [true, false, false], (.cons (.asg (.var 3) (.comp [6] (.var 6) (.range1 (.var 1)) .yes (.call 16 (.cons (.var 0) (.cons (.bin .add (.var 2) (.cint 1)) .nil))))) (.cons (.own 4 (.lst (.cons (.cint 0) .nil))) (.cons (.for_ (.var 5) (.range2 (.cint 1) (.idx (.lst (.cons (.cint 1) (.cons (.cint 2) (.cons (.cint 4) (.cons (.cint 8) .nil))))) (.var 1))) (.cons (.expr (.mut .append 4 (.cons (.callb .max (.cons (.comp [6] (.var 6) (.range1 (.var 1)) (.val (.cmp .eq (.bin .mod (.callb .int (.cons (.bin .fdiv (.var 5) (.idx (.lst (.cons (.cint 1) (.cons (.cint 2) (.cons (.cint 4) .nil)))) (.var 6))) .nil)) (.cint 2)) (.cint 1))) (.idx (.var 3) (.var 6))) .nil)) .nil))) .nil)) (.cons (.ret (.callb .tuple (.cons (.var 4) .nil))) .nil))))⟩
abbrev s__law_bids : Stmt := (top 32)
abbrev N__law_bids : List Str := ["hand", "things", "most", "some", "at", "odds", "odd", "turn"]
theorem nd__law_bids : N__law_bids.Nodup := by decide +kernel
theorem sc__law_bids : FnScope N__law_bids ["hand", "things"] (defScope s__law_bids) := ⟨rfl, rfl, rfl, nd__law_bids, rfl, by decide +kernel, by decide +kernel⟩
abbrev F__law_bids : Fn := ⟨2, 8, [true, false], (.cons (.asg (.var 2) (.call 21 (.cons (.var 0) (.cons (.lst (.cons (.cint 2) (.cons (.cint 6) (.cons (.cint 99) (.cons (.bin .pow (.cint 10) (.cint 29)) .nil))))) .nil)))) (.cons (.asg (.var 3) (.comp [7] (.var 7) (.range1 (.bin .add (.cint 1) (.call 16 (.cons (.var 0) (.cons (.cint 4) .nil))))) .yes (.call 25 (.cons (.var 0) (.cons (.var 1) (.cons (.var 2) .nil)))))) (.cons (.asg (.var 4) (.call 16 (.cons (.var 0) (.cons (.callb .len (.cons (.var 3) .nil)) .nil)))) (.cons (.asg (.var 5) (.lst (.cons (.idx (.var 3) (.var 4)) (.cons (.call 21 (.cons (.var 0) (.cons (.var 3) .nil))) (.cons (.call 26 (.cons (.var 0) (.cons (.var 1) (.cons (.var 2) .nil)))) (.cons (.bin .mul (.tup (.cons (.cint 0) .nil)) (.callb .len (.cons (.idx (.var 3) (.cint 0)) .nil))) .nil)))))) (.cons (.asg (.var 6) (.call 21 (.cons (.var 0) (.cons (.var 5) .nil)))) (.cons (.ret (.callb .tuple (.cons (.bin .add (.bin .add (.sl (.var 3) .none (.some (.var 4))) (.lst (.cons (.var 6) .nil))) (.sl (.var 3) (.some (.bin .add (.var 4) (.cint 1))) .none)) .nil))) .nil))))))⟩
abbrev s_law : Stmt := (top 36)
abbrev N_law : List Str := ["script", "hand", "known", "turn", "things"]
theorem nd_law : N_law.Nodup := by decide +kernel
theorem sc_law : FnScope N_law ["script"] (defScope s_law) := ⟨rfl, rfl, rfl, nd_law, rfl, by decide +kernel, by decide +kernel⟩
abbrev F_law : Fn := ⟨1, 5, [false], (.cons (.own 1 (.call 0 (.cons (.var 0) .nil))) (.cons (.asg (.var 2) (.makex 8 (.cons (.cint 2) (.cons (.tup (.cons (.tup (.cons (.cint 0) (.cons (.cint 5) (.cons (.cint 0) (.cons (.cint 5) .nil))))) (.cons (.tup (.cons (.cint 0) (.cons (.cint 3) (.cons (.cint 4) (.cons (.cint 8) .nil))))) (.cons (.tup (.cons (.cint 0) (.cons (.cint 0) (.cons (.cint 5) (.cons (.cint 5) .nil))))) .nil)))) .nil)))) (.cons (.ite (.not (.val (.call 9 (.cons (.call 15 (.cons (.var 2) .nil)) (.cons (.tup (.cons (.cint 10) (.cons (.tup (.cons (.tup (.cons (.cint 0) .nil)) (.cons (.tup .nil) (.cons (.tup (.cons (.cint 1) .nil)) .nil)))) .nil))) .nil))))) (.cons (.ret (.cbl false)) .nil) .nil) (.cons (.ite (.not (.val (.call 9 (.cons (.call 15 (.cons (.makex 8 (.cons (.cint 1) (.cons (.tup (.cons (.tup (.cons (.cint 0) (.cons (.cint 4) .nil))) (.cons (.tup (.cons (.cint 0) (.cons (.cint 4) .nil))) .nil))) .nil))) .nil)) (.cons (.tup (.cons (.cint 4) (.cons (.tup (.cons (.tup .nil) (.cons (.tup (.cons (.cint 0) .nil)) .nil))) .nil))) .nil))))) (.cons (.ret (.cbl false)) .nil) .nil) (.cons (.for_ (.var 3) (.range1 (.cint 5)) (.cons (.asg (.var 4) (.bin .add (.cint 1) (.call 16 (.cons (.var 1) (.cons (.cint 3) .nil))))) (.cons (.ite (.not (.val (.callx 24 (.cons (.var 1) (.cons (.var 4) (.cons (.call 27 (.cons (.var 1) (.cons (.var 4) .nil))) .nil)))))) (.cons (.ret (.cbl false)) .nil) .nil) .nil))) (.cons (.ret (.cbl true)) .nil))))))⟩
abbrev s__law_word : Stmt := (top 31)
abbrev N__law_word : List Str := ["call", "found", "error", "flags", "words"]
theorem nd__law_word : N__law_word.Nodup := by decide +kernel
theorem sc__law_word : FnScope N__law_word ["call"] (defScope s__law_word) := ⟨rfl, rfl, rfl, nd__law_word, rfl, by decide +kernel, by decide +kernel⟩
abbrev s_PlayError : Stmt := (inClass (top 9) 0)
abbrev N_PlayError : List Str := ["self"]
theorem nd_PlayError : N_PlayError.Nodup := by decide +kernel
theorem sc_PlayError : FnScope N_PlayError ["self"] (defScope s_PlayError) := ⟨rfl, rfl, rfl, nd_PlayError, rfl, by decide +kernel, by decide +kernel⟩
abbrev s_BadSale : Stmt := (inClass (top 10) 0)
abbrev N_BadSale : List Str := ["self", "part"]
theorem nd_BadSale : N_BadSale.Nodup := by decide +kernel
theorem sc_BadSale : FnScope N_BadSale ["self", "part"] (defScope s_BadSale) := ⟨rfl, rfl, rfl, nd_BadSale, rfl, by decide +kernel, by decide +kernel⟩
def tab : Nat → Option Fn
  | 0 => some F__law_hand
  | 1 => some F_is_integer
  | 2 => some F_is_within
  | 3 => some F_is_sized
  | 4 => some F_lots_of
  | 5 => some F_is_tuple
  | 6 => some F_is_number
  | 7 => some F_are_worths
  | 8 => some F_Sale
  | 9 => some F__law_is
  | 10 => some F_all_tuples
  | 11 => some F_lot_number
  | 12 => some F_all_deals
  | 13 => some F_worth_of
  | 14 => some F_best_deal
  | 15 => some F_dealt
  | 16 => some F__law_draw
  | 17 => some F_Sale___eq__
  | 18 => some F__law_lots
  | 19 => some F__law_best
  | 20 => some F__law_of
  | 21 => some F__law_some
  | 22 => some F__law_bent
  | 23 => some F__law_are_bids
  | 24 => some F__law_is_right
  | 25 => some F__law_bid
  | 26 => some F__law_single_bid
  | 27 => some F__law_bids
  | 28 => some F_law
  | _ => none
abbrev subs : List (Nat × Nat × Bool) := [(1000, 1000, true), (1000, 1001, true)]
abbrev subsB : List (Nat × String × Bool) := [(1000, "ValueError", true)]
abbrev xfl : List (Nat × Str) := [(1000, "part")]
def glb : Nat → Option D := fun n => match n with
    | 0 => some (.int 3)
    | 1 => some (.int 4)
    | _ => none
noncomputable def Gm0 : Cfg := { fields := fun _ => none, io := fun _ => none, glob := glb, loop := loopC, sub := subOf subs, subB := subBOf subsB, xfld := xfOf xfl }
noncomputable def W__law_word : WF := ⟨5, 2, 1001, (.cons (.asg (.var 1) (.cstr "let")) .nil), rho Gm0 5 (.cons (.asg (.var 1) (.cstr "let")) .nil), .expr, (.cons (.asg (.var 3) (.lst (.cons (.isx (.var 2) 1000) .nil))) (.cons (.asg (.var 4) (.lst (.cons (.cstr "sale") .nil))) (.cons (.asg (.var 1) (.ite (.and (.val (.cmp .eq (.meth .countF (.var 3) (.cbl true)) (.cint 1))) (.val (.isb (.var 2) "ValueError"))) (.idx (.var 4) (.meth .index (.var 3) (.cbl true))) (.cstr "other"))) (.cons (.ite (.val (.cmp .eq (.var 1) (.cstr "sale"))) (.cons (.asg (.var 1) (.tup (.cons (.var 1) (.cons (.xattr (.var 2) "part") .nil)))) .nil) .nil) .nil)))), (.cons (.ret (.var 1)) .nil)⟩
noncomputable def Gm : Cfg where
  fields := fun n => match n with
    | 8 => some ["things", "bids"]
    | _ => none
  io := fun n => match n with
    | 0 => some [false]
    | 1 => some [false]
    | 2 => some [false, false, false]
    | 3 => some [false, false, false]
    | 4 => some [false]
    | 5 => some [false, false]
    | 6 => some [false]
    | 7 => some [false, false]
    | 8 => some [true, false, false]
    | 9 => some [false, false]
    | 10 => some [false]
    | 11 => some [false]
    | 12 => some [false, false]
    | 13 => some [false, false, false]
    | 14 => some [false, false]
    | 15 => some [false]
    | 16 => some [true, false]
    | 17 => some [false, false]
    | 18 => some [false, false]
    | 19 => some [false, false]
    | 20 => some [false]
    | 21 => some [true, false]
    | 22 => some [true, false]
    | 23 => some [false, false]
    | 24 => some [true, false, false]
    | 25 => some [true, false, false]
    | 26 => some [true, false, false]
    | 27 => some [true, false]
    | 28 => some [false]
    | _ => none
  glob := glb
  loop := loopC
  word := fun n => if n = 2000 then some (wdOf Gm0 W__law_word) else none
  sub := subOf subs
  subB := subBOf subsB
  xfld := xfOf xfl
  isfn := fun n => [].contains n
  isk := fun n => [8].contains n
structure Txt (P : Mi.TP) (mg : Str → Option Value) : Prop where
  d__law_hand : Dk P.K mg "_law_hand" "_law_hand" s__law_hand ["script"]
  d_is_integer : Dk P.K mg "is_integer" "is_integer" s_is_integer ["thing"]
  d_is_within : Dk P.K mg "is_within" "is_within" s_is_within ["thing", "least", "most"]
  d_is_sized : Dk P.K mg "is_sized" "is_sized" s_is_sized ["thing", "least", "most"]
  d_lots_of : Dk P.K mg "lots_of" "lots_of" s_lots_of ["many"]
  d_is_tuple : Dk P.K mg "is_tuple" "is_tuple" s_is_tuple ["thing", "size"]
  d_is_number : Dk P.K mg "is_number" "is_number" s_is_number ["thing"]
  d_are_worths : Dk P.K mg "are_worths" "are_worths" s_are_worths ["thing", "things"]
  d_Sale : Dm P.K mg "Sale" (P.cls 8) "Sale.__init__" s_Sale ["self", "things", "bids"]
  d__law_is : Dk P.K mg "_law_is" "_law_is" s__law_is ["got", "due"]
  d_all_tuples : Dk P.K mg "all_tuples" "all_tuples" s_all_tuples ["sizes"]
  d_lot_number : Dk P.K mg "lot_number" "lot_number" s_lot_number ["lot"]
  d_all_deals : Dk P.K mg "all_deals" "all_deals" s_all_deals ["things", "bidders"]
  d_worth_of : Dk P.K mg "worth_of" "worth_of" s_worth_of ["bids", "deal", "left_out"]
  d_best_deal : Dk P.K mg "best_deal" "best_deal" s_best_deal ["things", "bids"]
  d_dealt : Dk P.K mg "dealt" "dealt" s_dealt ["sale"]
  d__law_draw : Dk P.K mg "_law_draw" "_law_draw" s__law_draw ["hand", "many"]
  d_Sale___eq__ : De P.K (P.cls 8) "Sale.__eq__" s_Sale___eq__ ["self", "other"]
  d__law_lots : Dk P.K mg "_law_lots" "_law_lots" s__law_lots ["things", "many"]
  d__law_best : Dk P.K mg "_law_best" "_law_best" s__law_best ["things", "bids"]
  d__law_of : Dk P.K mg "_law_of" "_law_of" s__law_of ["lot"]
  d__law_some : Dk P.K mg "_law_some" "_law_some" s__law_some ["hand", "things"]
  d__law_bent : Dk P.K mg "_law_bent" "_law_bent" s__law_bent ["hand", "bids"]
  d__law_are_bids : Dk P.K mg "_law_are_bids" "_law_are_bids" s__law_are_bids ["things", "thing"]
  d__law_is_right : Dk P.K mg "_law_is_right" "_law_is_right" s__law_is_right ["hand", "things", "bids"]
  d__law_bid : Dk P.K mg "_law_bid" "_law_bid" s__law_bid ["hand", "things", "most"]
  d__law_single_bid : Dk P.K mg "_law_single_bid" "_law_single_bid" s__law_single_bid ["hand", "things", "most"]
  d__law_bids : Dk P.K mg "_law_bids" "_law_bids" s__law_bids ["hand", "things"]
  d_law : Dk P.K mg "law" "law" s_law ["script"]
  d__law_word : Dk P.K mg "_law_word" "_law_word" s__law_word ["call"]
  mc_Sale : mg "Sale" = some (.ref (P.cls 8))
  isk_Sale : IskOk P.K (P.cls 8)
  wd : P.wd = Gm.word
  exc : P.exc = none
  m_BadSale : mg "BadSale" = some (.ref (P.cls 1000))
  m_PlayError : mg "PlayError" = some (.ref (P.cls 1001))
  o_BadSale : OexC P.K (P.cls 1000)
  n_BadSale : PySem.W.findIn P.K (.ref (P.cls 1000)) "part" = some none
  rt : XRoot P.K (P.cls 1001) "PlayError.__init__" s_PlayError ["self"] []
  i_BadSale : XOwn P.K (P.cls 1000) "BadSale.__init__" s_BadSale ["self", "part"]
  su : ∀ t ∈ subs, PySem.W.kitOne P.K (.ref (P.cls t.1)) (.ref (P.cls t.2.1)) = some t.2.2
  sb : ∀ t ∈ subsB, PySem.W.kitOne P.K (.ref (P.cls t.1)) (.type t.2.1) = some t.2.2
  xf : ∀ t ∈ xfl, PySem.W.findIn P.K (.ref (P.cls t.1)) t.2 = some none
  hx : ∀ t ∈ subs, t.2.1 = 1001 → t.2.2 = true → XcC P.K (P.cls t.1) ∧ PySem.W.exmOne P.K (.ref (P.cls t.1)) (.ref (P.cls 1001)) = some true
  fns : ∀ i a, P.fn i = some a → ∃ x : Str, (i, x) ∈ ([] : List (Nat × Str)) ∧ mg x = some (.ref a)
  fnx : ∀ i, Gm.isfn i = true → ∃ a, P.fn i = some a
  k_Sale : Cls P.K (P.cls 8)
  a_Sale_things : NoAttr P.K (P.cls 8) "things"
  a_Sale_bids : NoAttr P.K (P.cls 8) "bids"
  v_MOST_THINGS : P.glob 0 = (V.int 3)
  g_MOST_THINGS : ∃ u, mg "MOST_THINGS" = some u ∧ RelV (P.glob 0) u
  v_MOST_BIDDERS : P.glob 1 = (V.int 4)
  g_MOST_BIDDERS : ∃ u, mg "MOST_BIDDERS" = some u ∧ RelV (P.glob 1) u
  z_ValueError : mg "ValueError" = none
  z_abs : mg "abs" = none
  z_all : mg "all" = none
  z_any : mg "any" = none
  z_bool : mg "bool" = none
  z_enumerate : mg "enumerate" = none
  z_int : mg "int" = none
  z_isinstance : mg "isinstance" = none
  z_len : mg "len" = none
  z_list : mg "list" = none
  z_max : mg "max" = none
  z_range : mg "range" = none
  z_repr : mg "repr" = none
  z_sorted : mg "sorted" = none
  z_str : mg "str" = none
  z_sum : mg "sum" = none
  z_tuple : mg "tuple" = none
  z_zip : mg "zip" = none
section
variable {prog : Program} {w : World} {mg : Str → Option Value} {base : Heap} {P : Mi.TP}
theorem glok (T : Txt P mg) : ∀ x d, glb x = some d → ∀ A H, RepV P A H d (P.glob x) := fun x d e A H => by
    match x, e with
    | 0, e => cases e; show RepV P A H _ (P.glob 0); rw [T.v_MOST_THINGS]; unfold RepV; rfl
    | 1, e => cases e; show RepV P A H _ (P.glob 1); rw [T.v_MOST_BIDDERS]; unfold RepV; rfl
    | n + 2, e => cases e
theorem ok0 (T : Txt P mg) : CfgOk P Gm0 := ⟨glok T, fun C fs e => (by cases e), fun f wd e => (by cases e), fun C k b e => T.su _ (subOf_mem e), fun C n b e => T.sb _ (subBOf_mem e), fun C f e => T.xf _ (xfOf_mem e), fun i e => (by cases e), fun C e => (by cases e)⟩
theorem ok (T : Txt P mg) : CfgOk P Gm where
  word := fun f wd e => by rw [T.wd]; exact e
  sub := fun C k b e => T.su _ (subOf_mem e)
  subB := fun C n b e => T.sb _ (subBOf_mem e)
  xfld := fun C f e => T.xf _ (xfOf_mem e)
  fn := T.fnx
  isk := fun C hi => (by have h2 : C ∈ ([8] : List Nat) := (by simpa [Gm] using hi); simp only [List.mem_cons, List.not_mem_nil, or_false] at h2; rcases h2 with rfl <;> first | exact T.isk_Sale)
  glob := glok T
  flds := fun C fs e => by
    match C, e with
    | 0, e => cases e
    | 1, e => cases e
    | 2, e => cases e
    | 3, e => cases e
    | 4, e => cases e
    | 5, e => cases e
    | 6, e => cases e
    | 7, e => cases e
    | 8, e => cases e; exact ⟨T.k_Sale, fun f h => by simp only [List.mem_cons, List.not_mem_nil, or_false] at h; rcases h with rfl | rfl <;> first | exact T.a_Sale_things | exact T.a_Sale_bids⟩
    | n + 9, e => cases e
theorem lo : LoopOk Gm := fun _ _ _ h => loopC_ok h
theorem lo0 : LoopOk Gm0 := fun _ _ _ h => loopC_ok h
structure Lms (P : Mi.TP) (mg : Str → Option Value) (base : Heap) : Prop where
  yes : True
  l__law_is_right : Lam P mg base "_law_is_right" s__law_is_right ["hand", "things", "bids"] ((("_law_is_right" : Str) ++ ".<locals>.") ++ "<lambda>")
theorem w__law_word (T : Txt P mg) {A0 : Around} {stack : List PySem.Env} {kk : Nat} {g : Addr} {cdg : Value} {q : Str} : Gives prog w P.K mg base A0 stack kk N__law_word "_law_word" (defScope s__law_word) g cdg (defBody s__law_word) "call" q (TTg P 2000) :=
  gives_word (pre := [_]) (F := W__law_word) (Gm0 := Gm0) (n := "error") lo0 (ok0 T) T.exc (by rw [T.wd]; rfl) (fun C h => T.hx _ (subOf_mem h) rfl rfl) rfl rfl rfl (by decide) (by decide) rfl (fun i t e => by first | (cases e; done) | (cases e; decide)) nd__law_word rfl (fun s H => ⟨⟨rfl, rfl, .inl T.m_PlayError⟩, rfl⟩) (fun s H u st hr h => (pss_cons (ps_set (i := 1) nd__law_word rfl (Or.inl rfl) pe_str) h)) (fun s H pn xe te hr h => (ps_expr (h _ _))) (fun s H ax CA oe d pn hr hz hf xc => (pss_cons (ps_set (i := 3) nd__law_word rfl (Or.inl rfl) (pe_lst (pa_cons (g_isx rfl xc hz hf rfl T.z_isinstance (pv 2) rfl T.m_BadSale) pa_nil))) (pss_cons (ps_set (i := 4) nd__law_word rfl (Or.inl rfl) (pe_lst (pa_cons pe_str pa_nil))) (pss_cons (ps_set (i := 1) nd__law_word rfl (Or.inl rfl) (pe_ifExp (PW.pt (pw_and (pt_cmpR (op_cmp .eq (hu_roomS hr)) (pe_bm PySem.F.plainAttrs_list PySem.F.slot_list_count PySem.F.type_list_count mt_countF (pv 3) (pa_cons pe_bl pa_nil)) pe_int (by first | exact nomark _ | rfl)) (pw_and1 (pt_val (g_isb rfl xc hz hf rfl T.z_isinstance (pv 2) (pe_bltn rfl T.z_ValueError b_VE rfl)))))) (PE.or (pe_ix ix_seq (pv 4) (PE.or (pe_bm PySem.F.plainAttrs_list PySem.F.slot_list_index PySem.F.type_list_index mt_index (pv 3) (pa_cons pe_bl pa_nil)) (pe_bd PySem.F.plainAttrs_tuple PySem.F.slot_tuple_index PySem.F.type_tuple_index mt_indexT (pv 3) (pa_cons pe_bl pa_nil))) (fun _ _ => rfl)) (pe_dget (hu_oneS hr) (pv 4) (PE.or (pe_bm PySem.F.plainAttrs_list PySem.F.slot_list_index PySem.F.type_list_index mt_index (pv 3) (pa_cons pe_bl pa_nil)) (pe_bd PySem.F.plainAttrs_tuple PySem.F.slot_tuple_index PySem.F.type_tuple_index mt_indexT (pv 3) (pa_cons pe_bl pa_nil))) (fun _ _ => rfl))) pe_str)) (pss_cons (ps_if (pt_cmpR (op_cmp .eq (hu_roomS hr)) (pv 1) pe_str (by first | exact nomark _ | rfl)) (pss_cons (ps_set (i := 1) nd__law_word rfl (Or.inl rfl) (pe_tupN (pa_cons (pv 1) (pa_cons (g_xat rfl xc hz hf (pv 2)) pa_nil)))) pss_nil) pss_nil) pss_nil))))) (fun s H ax CA d hr => (pss_cons (ps_ret (pv 1)) pss_nil))
theorem rb (T : Txt P mg) (f : Addr) (cdv : Value) (A : Around) (outer : List PySem.Env) (s : Shared) (H : Hp) (E : XK) : PSs (cxOf (L2.CX prog w) prog w P.K mg base N_PlayError "PlayError.__init__" (defScope s_PlayError) f cdv A outer s H E) (defBody s_PlayError) (tSeq (tDrop (tVeI P.K (tCons (tVar 0) tNil))) tNext) := pss_cons (ps_expr (pe_veinit rfl T.z_ValueError (vVE _) (pa_cons (pv 0) pa_nil))) pss_nil
theorem xm_BadSale (T : Txt P mg) : XMk prog w P.K mg base 2 "BadSale" (P.cls 1000) (spX1 P.K "part") := xm1 rfl rfl sc_PlayError T.rt T.m_PlayError (fun f cdv A outer s H E => rb T f cdv A outer s H E) rfl rfl sc_BadSale T.i_BadSale T.o_BadSale T.m_BadSale fun f fR fdR cdv A outer s H E hr F0 rd ga fc kp b => pss_cons (ps_expr (pg_clsfn F0 hr (by decide) rfl T.m_PlayError rd ga fc kp b passL (pa_cons (pv 0) pa_nil))) (pss_cons (ps_ost (pv 0) (pv 1)) pss_nil)
structure All (P : Mi.TP) (prog : Program) (w : World) (mg : Str → Option Value) (base : Heap) (n : Nat) : Prop where
  c__law_hand : Cal prog w P.K mg base (4 * n + 4) "_law_hand" (spec P (phi Gm tab n) 0)
  c_is_integer : Cal prog w P.K mg base (4 * n + 4) "is_integer" (spec P (phi Gm tab n) 1)
  c_is_within : Cal prog w P.K mg base (4 * n + 4) "is_within" (spec P (phi Gm tab n) 2)
  c_is_sized : Cal prog w P.K mg base (4 * n + 4) "is_sized" (spec P (phi Gm tab n) 3)
  c_lots_of : Cal prog w P.K mg base (4 * n + 4) "lots_of" (spec P (phi Gm tab n) 4)
  c_is_tuple : Cal prog w P.K mg base (4 * n + 4) "is_tuple" (spec P (phi Gm tab n) 5)
  c_is_number : Cal prog w P.K mg base (4 * n + 4) "is_number" (spec P (phi Gm tab n) 6)
  c_are_worths : Cal prog w P.K mg base (4 * n + 4) "are_worths" (spec P (phi Gm tab n) 7)
  c_Sale : Mak prog w P.K mg base (4 * n + 4) "Sale" (P.cls 8) (spec P (phi Gm tab n) 8)
  c__law_is : Cal prog w P.K mg base (4 * n + 4) "_law_is" (spec P (phi Gm tab n) 9)
  c_all_tuples : Cal prog w P.K mg base (4 * n + 4) "all_tuples" (spec P (phi Gm tab n) 10)
  c_lot_number : Cal prog w P.K mg base (4 * n + 4) "lot_number" (spec P (phi Gm tab n) 11)
  c_all_deals : Cal prog w P.K mg base (4 * n + 4) "all_deals" (spec P (phi Gm tab n) 12)
  c_worth_of : Cal prog w P.K mg base (4 * n + 4) "worth_of" (spec P (phi Gm tab n) 13)
  c_best_deal : Cal prog w P.K mg base (4 * n + 4) "best_deal" (spec P (phi Gm tab n) 14)
  c_dealt : Cal prog w P.K mg base (4 * n + 4) "dealt" (spec P (phi Gm tab n) 15)
  c__law_draw : Cal prog w P.K mg base (4 * n + 4) "_law_draw" (spec P (phi Gm tab n) 16)
  c_Sale___eq__ : Eqk prog w P.K mg base (4 * n + 4) (P.cls 8) (spec P (phi Gm tab n) 17)
  c__law_lots : Cal prog w P.K mg base (4 * n + 4) "_law_lots" (spec P (phi Gm tab n) 18)
  c__law_best : Cal prog w P.K mg base (4 * n + 4) "_law_best" (spec P (phi Gm tab n) 19)
  c__law_of : Cal prog w P.K mg base (4 * n + 4) "_law_of" (spec P (phi Gm tab n) 20)
  c__law_some : Cal prog w P.K mg base (4 * n + 4) "_law_some" (spec P (phi Gm tab n) 21)
  c__law_bent : Cal prog w P.K mg base (4 * n + 4) "_law_bent" (spec P (phi Gm tab n) 22)
  c__law_are_bids : Cal prog w P.K mg base (4 * n + 4) "_law_are_bids" (spec P (phi Gm tab n) 23)
  c__law_is_right : Cal prog w P.K mg base (4 * n + 4) "_law_is_right" (spec P (phi Gm tab n) 24)
  c__law_bid : Cal prog w P.K mg base (4 * n + 4) "_law_bid" (spec P (phi Gm tab n) 25)
  c__law_single_bid : Cal prog w P.K mg base (4 * n + 4) "_law_single_bid" (spec P (phi Gm tab n) 26)
  c__law_bids : Cal prog w P.K mg base (4 * n + 4) "_law_bids" (spec P (phi Gm tab n) 27)
  c_law : Cal prog w P.K mg base (4 * n + 4) "law" (spec P (phi Gm tab n) 28)
  x_BadSale : XMk prog w P.K mg base 2 "BadSale" (P.cls 1000) (spX1 P.K "part")
theorem b__law_hand {n : Nat} (T : Txt P mg) (C : All P prog w mg base n) {f : Addr} {cdv : Value} {A : Around} {outer : List PySem.Env} {s : Shared} {H : Hp} {E : XK} (hr : Rm (4 * n + 7) (A.deeper (envOfC "_law_hand" (defScope s__law_hand) s.heap.objs.size f cdv))) :
    PSs (cxOf (L2.CX prog w) prog w P.K mg base N__law_hand "_law_hand" (defScope s__law_hand) f cdv A outer s H E) (defBody s__law_hand) (tSs P (spec P (phi Gm tab n)) F__law_hand.body E) :=
  (pss_cons (ps_setLc (i := 1) (own := [("cell", 2)]) rfl nd__law_hand rfl rfl (sw_true rfl rfl rfl (by decide +kernel)) (pi_any (pe_slice sl_any (pv 0) po_none (po_some pe_int))) (blkOk_by (own := [("cell", 2)]) (N := N__law_hand) (sc := (defScope (top 22))) (scope := (⟨.function, [(".0", .local), ("cell", .local), ("abs", .globalImplicit), ("int", .globalImplicit)], false, false, []⟩ : PySem.Scope)) (by decide +kernel)) (fun _ _ _ _ _ => (pg_name (i := 2) nd__law_hand rfl (Or.inl rfl))) (fun _ _ _ _ _ => pts_nil) (fun _ _ _ _ _ => (pe_callB call_abs rfl T.z_abs b_abs (pa_cons (pe_callTy call_int1 rfl T.z_int b_int (pa_cons (pv 2) pa_nil)) pa_nil)))) (pss_cons (ps_ret (pe_lst (pa_cons (pv 1) (pa_cons pe_int (pa_cons pe_int (pa_cons (pe_op (op_bin .add) pe_int (pe_op (op_bin .mul) pe_int (pe_callB cr_lenA rfl T.z_len b_len (pa_cons (pv 1) pa_nil)))) (pa_cons pe_int pa_nil))))))) pss_nil))
theorem b_is_integer {n : Nat} (T : Txt P mg) (C : All P prog w mg base n) {f : Addr} {cdv : Value} {A : Around} {outer : List PySem.Env} {s : Shared} {H : Hp} {E : XK} (hr : Rm (4 * n + 7) (A.deeper (envOfC "is_integer" (defScope s_is_integer) s.heap.objs.size f cdv))) :
    PSs (cxOf (L2.CX prog w) prog w P.K mg base N_is_integer "is_integer" (defScope s_is_integer) f cdv A outer s H E) (defBody s_is_integer) (tSs P (spec P (phi Gm tab n)) F_is_integer.body E) :=
  (pss_cons (ps_ret (pe_and (pe_callB call_isi rfl T.z_isinstance b_isi (pa_cons (pv 0) (pa_cons (pe_bltn rfl T.z_int b_int rfl) pa_nil))) (pe_one (pe_not (pe_callB call_isi rfl T.z_isinstance b_isi (pa_cons (pv 0) (pa_cons (pe_bltn rfl T.z_bool b_bool rfl) pa_nil))))))) pss_nil)
theorem b_is_within {n : Nat} (T : Txt P mg) (C : All P prog w mg base n) {f : Addr} {cdv : Value} {A : Around} {outer : List PySem.Env} {s : Shared} {H : Hp} {E : XK} (hr : Rm (4 * n + 7) (A.deeper (envOfC "is_within" (defScope s_is_within) s.heap.objs.size f cdv))) :
    PSs (cxOf (L2.CX prog w) prog w P.K mg base N_is_within "is_within" (defScope s_is_within) f cdv A outer s H E) (defBody s_is_within) (tSs P (spec P (phi Gm tab n)) F_is_within.body E) :=
  (pss_cons (ps_ret (pe_and (g_call C.c_is_integer hr (by omega) rfl (pa_cons (pv 0) pa_nil)) (pe_one (pe_chain (op_cmp .le (hu_room hr)) (op_cmp .le (hu_room hr)) (pv 1) (pv 0) (pv 2))))) pss_nil)
theorem b_is_sized {n : Nat} (T : Txt P mg) (C : All P prog w mg base n) {f : Addr} {cdv : Value} {A : Around} {outer : List PySem.Env} {s : Shared} {H : Hp} {E : XK} (hr : Rm (4 * n + 7) (A.deeper (envOfC "is_sized" (defScope s_is_sized) s.heap.objs.size f cdv))) :
    PSs (cxOf (L2.CX prog w) prog w P.K mg base N_is_sized "is_sized" (defScope s_is_sized) f cdv A outer s H E) (defBody s_is_sized) (tSs P (spec P (phi Gm tab n)) F_is_sized.body E) :=
  (pss_cons (ps_ret (pe_and (pe_callB call_isi rfl T.z_isinstance b_isi (pa_cons (pv 0) (pa_cons (pe_bltn rfl T.z_tuple b_tuple rfl) pa_nil))) (pe_one (pe_chain (op_cmp .le (hu_room hr)) (op_cmp .le (hu_room hr)) (pv 1) (pe_callB cr_lenA rfl T.z_len b_len (pa_cons (pv 0) pa_nil)) (pv 2))))) pss_nil)
theorem b_lots_of {n : Nat} (T : Txt P mg) (C : All P prog w mg base n) {f : Addr} {cdv : Value} {A : Around} {outer : List PySem.Env} {s : Shared} {H : Hp} {E : XK} (hr : Rm (4 * n + 7) (A.deeper (envOfC "lots_of" (defScope s_lots_of) s.heap.objs.size f cdv))) :
    PSs (cxOf (L2.CX prog w) prog w P.K mg base N_lots_of "lots_of" (defScope s_lots_of) f cdv A outer s H E) (defBody s_lots_of) (tSs P (spec P (phi Gm tab n)) F_lots_of.body E) :=
  (pss_cons (ps_set (i := 1) nd_lots_of rfl (Or.inl rfl) (pe_lst (pa_cons (pe_tupN pa_nil) pa_nil))) (pss_cons (ps_for po_cx rfl (pi_range1 rfl T.z_range (pa_cons (pv 0) pa_nil)) (pg_name (i := 2) nd_lots_of rfl (Or.inr rfl)) (pss_cons (ps_set (i := 1) nd_lots_of rfl (Or.inl rfl) (pe_op (op_bin .add) (pv 1) (pe_lc (own := [("lot", 3)]) rfl nd_lots_of (pi_any (pv 1)) (blkOk_by (own := [("lot", 3)]) (N := N_lots_of) (sc := (defScope (top 7))) (scope := (⟨.function, [(".0", .local), ("lot", .local), ("one", .free)], false, false, []⟩ : PySem.Scope)) (by decide +kernel)) (fun _ _ _ _ _ => (pg_name (i := 3) nd_lots_of rfl (Or.inl rfl))) (fun _ _ _ _ _ => pts_nil) (fun _ _ _ _ _ => (pe_op (op_bin .add) (pv 3) (pe_tupN (pa_cons (pv 2) pa_nil))))))) pss_nil)) (pss_cons (ps_ret (pv 1)) pss_nil)))
theorem b_is_tuple {n : Nat} (T : Txt P mg) (C : All P prog w mg base n) {f : Addr} {cdv : Value} {A : Around} {outer : List PySem.Env} {s : Shared} {H : Hp} {E : XK} (hr : Rm (4 * n + 7) (A.deeper (envOfC "is_tuple" (defScope s_is_tuple) s.heap.objs.size f cdv))) :
    PSs (cxOf (L2.CX prog w) prog w P.K mg base N_is_tuple "is_tuple" (defScope s_is_tuple) f cdv A outer s H E) (defBody s_is_tuple) (tSs P (spec P (phi Gm tab n)) F_is_tuple.body E) :=
  (pss_cons (ps_ret (pe_and (pe_callB call_isi rfl T.z_isinstance b_isi (pa_cons (pv 0) (pa_cons (pe_bltn rfl T.z_tuple b_tuple rfl) pa_nil))) (pe_one (pe_cmpR (op_cmp .eq (hu_room hr)) (pe_callB cr_lenA rfl T.z_len b_len (pa_cons (pv 0) pa_nil)) (pv 1) (by first | exact nomark _ | rfl))))) pss_nil)
theorem b_is_number {n : Nat} (T : Txt P mg) (C : All P prog w mg base n) {f : Addr} {cdv : Value} {A : Around} {outer : List PySem.Env} {s : Shared} {H : Hp} {E : XK} (hr : Rm (4 * n + 7) (A.deeper (envOfC "is_number" (defScope s_is_number) s.heap.objs.size f cdv))) :
    PSs (cxOf (L2.CX prog w) prog w P.K mg base N_is_number "is_number" (defScope s_is_number) f cdv A outer s H E) (defBody s_is_number) (tSs P (spec P (phi Gm tab n)) F_is_number.body E) :=
  (pss_cons (ps_ret (pe_and (g_call C.c_is_integer hr (by omega) rfl (pa_cons (pv 0) pa_nil)) (pe_one (pe_cmpR (op_cmp .ge (hu_room hr)) (pv 0) pe_int (by first | exact nomark _ | rfl))))) pss_nil)
theorem b_are_worths {n : Nat} (T : Txt P mg) (C : All P prog w mg base n) {f : Addr} {cdv : Value} {A : Around} {outer : List PySem.Env} {s : Shared} {H : Hp} {E : XK} (hr : Rm (4 * n + 7) (A.deeper (envOfC "are_worths" (defScope s_are_worths) s.heap.objs.size f cdv))) :
    PSs (cxOf (L2.CX prog w) prog w P.K mg base N_are_worths "are_worths" (defScope s_are_worths) f cdv A outer s H E) (defBody s_are_worths) (tSs P (spec P (phi Gm tab n)) F_are_worths.body E) :=
  (pss_cons (ps_set (i := 2) nd_are_worths rfl (Or.inl rfl) (g_call C.c_lots_of hr (by omega) rfl (pa_cons (pv 1) pa_nil))) (pss_cons (ps_if (PW.pt (pw_or (pt_not (pt_val (g_call C.c_is_tuple hr (by omega) rfl (pa_cons (pv 0) (pa_cons (pe_callB cr_lenA rfl T.z_len b_len (pa_cons (pv 2) pa_nil)) pa_nil))))) (pw_or (pt_not (pt_val (pe_callB (cr_all rfl) rfl T.z_all b_all (pa_cons (pe_lc (own := [("one", 7)]) rfl nd_are_worths (pi_any (pv 0)) (blkOk_by (own := [("one", 7)]) (N := N_are_worths) (sc := (defScope (top 14))) (scope := (⟨.function, [(".0", .local), ("one", .local), ("is_number", .globalImplicit)], false, false, []⟩ : PySem.Scope)) (by decide +kernel)) (fun _ _ _ _ _ => (pg_name (i := 7) nd_are_worths rfl (Or.inl rfl))) (fun _ _ _ _ _ => pts_nil) (fun _ _ _ _ _ => (g_call C.c_is_number hr (by omega) rfl (pa_cons (pv 7) pa_nil)))) pa_nil)))) (pw_or1 (pt_cmpR (op_cmp .ne (hu_room hr)) (PE.or (pe_ix ix_seq (pv 0) pe_int (fun _ _ => rfl)) (pe_dget (hu_one hr) (pv 0) pe_int (fun _ _ => rfl))) pe_int (by first | exact nomark _ | rfl)))))) (pss_cons (ps_ret pe_bl) pss_nil) pss_nil) (pss_cons (ps_for po_cx rfl (pi_enumA rfl T.z_enumerate (pa_cons (pv 2) pa_nil)) (pg_tup rfl (pgs_cons (pg_name (i := 3) nd_are_worths rfl (Or.inl rfl)) (pgs_cons (pg_name (i := 4) nd_are_worths rfl (Or.inl rfl)) pgs_nil))) (pss_cons (ps_for po_cx rfl (pi_enumA rfl T.z_enumerate (pa_cons (pv 2) pa_nil)) (pg_tup rfl (pgs_cons (pg_name (i := 5) nd_are_worths rfl (Or.inl rfl)) (pgs_cons (pg_name (i := 6) nd_are_worths rfl (Or.inr rfl)) pgs_nil))) (pss_cons (ps_if (PW.pt (pw_and (pt_val (pe_callB (cr_all rfl) rfl T.z_all b_all (pa_cons (pe_lc (own := [("one", 7)]) rfl nd_are_worths (pi_any (pv 4)) (blkOk_by (own := [("one", 7)]) (N := N_are_worths) (sc := (defScope (top 14))) (scope := (⟨.function, [(".0", .local), ("one", .local), ("more", .free)], false, false, []⟩ : PySem.Scope)) (by decide +kernel)) (fun _ _ _ _ _ => (pg_name (i := 7) nd_are_worths rfl (Or.inl rfl))) (fun _ _ _ _ _ => pts_nil) (fun _ _ _ _ _ => (pe_cmpR (op_cmp .inn (hu_room hr)) (pv 7) (pv 6) (by first | exact nomark _ | rfl)))) pa_nil))) (pw_and1 (pt_cmpR (op_cmp .gt (hu_room hr)) (PE.or (pe_ix ix_seq (pv 0) (pv 3) (fun _ _ => rfl)) (pe_dget (hu_one hr) (pv 0) (pv 3) (fun _ _ => rfl))) (PE.or (pe_ix ix_seq (pv 0) (pv 5) (fun _ _ => rfl)) (pe_dget (hu_one hr) (pv 0) (pv 5) (fun _ _ => rfl))) (by first | exact nomark _ | rfl))))) (pss_cons (ps_ret pe_bl) pss_nil) pss_nil) pss_nil)) pss_nil)) (pss_cons (ps_ret pe_bl) pss_nil))))
theorem b_Sale {n : Nat} (T : Txt P mg) (C : All P prog w mg base n) {f : Addr} {cdv : Value} {A : Around} {outer : List PySem.Env} {s : Shared} {H : Hp} {E : XK} (hr : Rm (4 * n + 7) (A.deeper (envOfC "Sale.__init__" (defScope s_Sale) s.heap.objs.size f cdv))) :
    PSs (cxOf (L2.CX prog w) prog w P.K mg base N_Sale "Sale.__init__" (defScope s_Sale) f cdv A outer s H E) (defBody s_Sale) (tSs P (spec P (phi Gm tab n)) F_Sale.body E) :=
  (pss_cons (ps_if (pt_not (pt_val (g_call C.c_is_within hr (by omega) rfl (pa_cons (pv 1) (pa_cons pe_int (pa_cons (g_glob T.g_MOST_THINGS rfl) pa_nil)))))) (pss_cons (ps_rais1 rfl tk_cx C.x_BadSale T.n_BadSale hr (by omega) rfl pe_str) pss_nil) pss_nil) (pss_cons (ps_if (PW.pt (pw_or (pt_not (pt_val (g_call C.c_is_sized hr (by omega) rfl (pa_cons (pv 2) (pa_cons pe_int (pa_cons (g_glob T.g_MOST_BIDDERS rfl) pa_nil)))))) (pw_or1 (pt_not (pt_val (pe_callB (cr_all rfl) rfl T.z_all b_all (pa_cons (pe_lc (own := [("bid", 3)]) rfl nd_Sale (pi_any (pv 2)) (blkOk_by (own := [("bid", 3)]) (N := N_Sale) (sc := (defScope (inClass (top 15) 0))) (scope := (⟨.function, [(".0", .local), ("bid", .local), ("are_worths", .globalImplicit), ("things", .free)], false, false, []⟩ : PySem.Scope)) (by decide +kernel)) (fun _ _ _ _ _ => (pg_name (i := 3) nd_Sale rfl (Or.inl rfl))) (fun _ _ _ _ _ => pts_nil) (fun _ _ _ _ _ => (g_call C.c_are_worths hr (by omega) rfl (pa_cons (pv 3) (pa_cons (pv 1) pa_nil))))) pa_nil))))))) (pss_cons (ps_rais1 rfl tk_cx C.x_BadSale T.n_BadSale hr (by omega) rfl pe_str) pss_nil) pss_nil) (pss_cons (ps_fld (pv 0) (pv 1) rfl) (pss_cons (ps_fld (pv 0) (pv 2) rfl) pss_nil))))
theorem b__law_is {n : Nat} (T : Txt P mg) (C : All P prog w mg base n) {f : Addr} {cdv : Value} {A : Around} {outer : List PySem.Env} {s : Shared} {H : Hp} {E : XK} (hr : Rm (4 * n + 7) (A.deeper (envOfC "_law_is" (defScope s__law_is) s.heap.objs.size f cdv))) :
    PSs (cxOf (L2.CX prog w) prog w P.K mg base N__law_is "_law_is" (defScope s__law_is) f cdv A outer s H E) (defBody s__law_is) (tSs P (spec P (phi Gm tab n)) F__law_is.body E) :=
  (pss_cons (ps_if (pt_val (pe_callB call_isiT rfl T.z_isinstance b_isi (pa_cons (pv 1) (pa_cons (pe_tup (pa_cons (pe_bltn rfl T.z_tuple b_tuple rfl) (pa_cons (pe_bltn rfl T.z_list b_list rfl) pa_nil))) pa_nil)))) (pss_cons (ps_if (pt_cmpR (op_cmp .ne (hu_room hr)) (pe_callB call_isi rfl T.z_isinstance b_isi (pa_cons (pv 0) (pa_cons (pe_bltn rfl T.z_tuple b_tuple rfl) pa_nil))) (pe_callB call_isi rfl T.z_isinstance b_isi (pa_cons (pv 1) (pa_cons (pe_bltn rfl T.z_tuple b_tuple rfl) pa_nil))) (by first | exact nomark _ | rfl)) (pss_cons (ps_ret pe_bl) pss_nil) pss_nil) (pss_cons (ps_if (PW.pt (pw_or (pt_cmpR (op_cmp .ne (hu_room hr)) (pe_callB call_isi rfl T.z_isinstance b_isi (pa_cons (pv 0) (pa_cons (pe_bltn rfl T.z_list b_list rfl) pa_nil))) (pe_callB call_isi rfl T.z_isinstance b_isi (pa_cons (pv 1) (pa_cons (pe_bltn rfl T.z_list b_list rfl) pa_nil))) (by first | exact nomark _ | rfl)) (pw_or1 (pt_cmpR (op_cmp .ne (hu_room hr)) (pe_callB cr_lenA rfl T.z_len b_len (pa_cons (pv 0) pa_nil)) (pe_callB cr_lenA rfl T.z_len b_len (pa_cons (pv 1) pa_nil)) (by first | exact nomark _ | rfl))))) (pss_cons (ps_ret pe_bl) pss_nil) pss_nil) (pss_cons (ps_ret (pe_callB (cr_all rfl) rfl T.z_all b_all (pa_cons (pe_lc (own := [("one", 2), ("other", 3)]) rfl nd__law_is (Zg.pi_zipG rfl T.z_zip (pa_cons (pv 0) (pa_cons (pv 1) pa_nil))) (blkOk_by (own := [("one", 2), ("other", 3)]) (N := N__law_is) (sc := (defScope (top 25))) (scope := (⟨.function, [(".0", .local), ("one", .local), ("other", .local), ("_law_is", .globalImplicit)], false, false, []⟩ : PySem.Scope)) (by decide +kernel)) (fun _ _ _ _ _ => (pg_tup rfl (pgs_cons (pg_name (i := 2) nd__law_is rfl (Or.inl rfl)) (pgs_cons (pg_name (i := 3) nd__law_is rfl (Or.inl rfl)) pgs_nil)))) (fun _ _ _ _ _ => pts_nil) (fun _ _ _ _ _ => (g_call C.c__law_is hr (by omega) rfl (pa_cons (pv 2) (pa_cons (pv 3) pa_nil))))) pa_nil))) pss_nil))) pss_nil) (pss_cons (ps_if (PW.pt (pw_or (pt_cmpR (op_cmp .iss (hu_room hr)) (pv 1) pe_non (by first | exact nomark _ | rfl)) (pw_or1 (pt_cmpR (op_cmp .iss (hu_room hr)) (pv 0) pe_non (by first | exact nomark _ | rfl))))) (pss_cons (ps_ret (pe_and (pe_cmpR (op_cmp .iss (hu_room hr)) (pv 1) pe_non (by first | exact nomark _ | rfl)) (pe_one (pe_cmpR (op_cmp .iss (hu_room hr)) (pv 0) pe_non (by first | exact nomark _ | rfl))))) pss_nil) pss_nil) (pss_cons (ps_if (pt_cmpR (op_cmp .ne (hu_room hr)) (pe_callB call_isi rfl T.z_isinstance b_isi (pa_cons (pv 0) (pa_cons (pe_bltn rfl T.z_bool b_bool rfl) pa_nil))) (pe_callB call_isi rfl T.z_isinstance b_isi (pa_cons (pv 1) (pa_cons (pe_bltn rfl T.z_bool b_bool rfl) pa_nil))) (by first | exact nomark _ | rfl)) (pss_cons (ps_ret pe_bl) pss_nil) pss_nil) (pss_cons (ps_ret (pe_and (pe_cmpR (op_cmp .eq (hu_room hr)) (pe_callB call_isi rfl T.z_isinstance b_isi (pa_cons (pv 0) (pa_cons (pe_bltn rfl T.z_str b_str rfl) pa_nil))) (pe_callB call_isi rfl T.z_isinstance b_isi (pa_cons (pv 1) (pa_cons (pe_bltn rfl T.z_str b_str rfl) pa_nil))) (by first | exact nomark _ | rfl)) (pe_one (pe_cmpR (op_cmp .eq (hu_room hr)) (pv 0) (pv 1) (by first | exact nomark _ | rfl))))) pss_nil))))
theorem b_all_tuples {n : Nat} (T : Txt P mg) (C : All P prog w mg base n) {f : Addr} {cdv : Value} {A : Around} {outer : List PySem.Env} {s : Shared} {H : Hp} {E : XK} (hr : Rm (4 * n + 7) (A.deeper (envOfC "all_tuples" (defScope s_all_tuples) s.heap.objs.size f cdv))) :
    PSs (cxOf (L2.CX prog w) prog w P.K mg base N_all_tuples "all_tuples" (defScope s_all_tuples) f cdv A outer s H E) (defBody s_all_tuples) (tSs P (spec P (phi Gm tab n)) F_all_tuples.body E) :=
  (pss_cons (ps_set (i := 1) nd_all_tuples rfl (Or.inl rfl) (pe_lst (pa_cons (pe_tupN pa_nil) pa_nil))) (pss_cons (ps_for po_cx rfl (pi_any (pv 0)) (pg_name (i := 2) nd_all_tuples rfl (Or.inr rfl)) (pss_cons (ps_setLc2 (i := 1) (own := [("row", 3), ("one", 4)]) (vs1 := [4]) rfl nd_all_tuples rfl rfl (sw_true rfl rfl rfl (by decide +kernel)) (pi_any (pv 1)) (blkOk_by (own := [("row", 3), ("one", 4)]) (N := N_all_tuples) (sc := (defScope (top 6))) (scope := (⟨.function, [(".0", .local), ("row", .local), ("one", .local), ("range", .globalImplicit), ("size", .free)], false, false, []⟩ : PySem.Scope)) (by decide +kernel)) (by decide) (fun _ _ _ _ _ => (pg_name (i := 3) nd_all_tuples rfl (Or.inl rfl))) (fun _ _ _ _ _ => pts_nil) (fun _ _ _ _ _ => (pi_range1 rfl T.z_range (pa_cons (pv 2) pa_nil))) (fun _ _ _ _ _ => (pg_name (i := 4) nd_all_tuples rfl (Or.inl rfl))) (fun _ _ _ _ _ => pts_nil) (fun _ _ _ _ _ => (pe_op (op_bin .add) (pv 3) (pe_tupN (pa_cons (pv 4) pa_nil))))) pss_nil)) (pss_cons (ps_ret (pv 1)) pss_nil)))
theorem b_lot_number {n : Nat} (T : Txt P mg) (C : All P prog w mg base n) {f : Addr} {cdv : Value} {A : Around} {outer : List PySem.Env} {s : Shared} {H : Hp} {E : XK} (hr : Rm (4 * n + 7) (A.deeper (envOfC "lot_number" (defScope s_lot_number) s.heap.objs.size f cdv))) :
    PSs (cxOf (L2.CX prog w) prog w P.K mg base N_lot_number "lot_number" (defScope s_lot_number) f cdv A outer s H E) (defBody s_lot_number) (tSs P (spec P (phi Gm tab n)) F_lot_number.body E) :=
  (pss_cons (ps_ret (pe_callB (cr_sumA rfl) rfl T.z_sum b_sum (pa_cons (pe_lc (own := [("thing", 1)]) rfl nd_lot_number (pi_any (pv 0)) (blkOk_by (own := [("thing", 1)]) (N := N_lot_number) (sc := (defScope (top 16))) (scope := (⟨.function, [(".0", .local), ("thing", .local)], false, false, []⟩ : PySem.Scope)) (by decide +kernel)) (fun _ _ _ _ _ => (pg_name (i := 1) nd_lot_number rfl (Or.inl rfl))) (fun _ _ _ _ _ => pts_nil) (fun _ _ _ _ _ => (PE.or (pe_ix ix_seq (pe_lst (pa_cons pe_int (pa_cons pe_int (pa_cons pe_int pa_nil)))) (pv 1) (fun _ _ => rfl)) (pe_dget (hu_one hr) (pe_lst (pa_cons pe_int (pa_cons pe_int (pa_cons pe_int pa_nil)))) (pv 1) (fun _ _ => rfl))))) pa_nil))) pss_nil)
theorem b_all_deals {n : Nat} (T : Txt P mg) (C : All P prog w mg base n) {f : Addr} {cdv : Value} {A : Around} {outer : List PySem.Env} {s : Shared} {H : Hp} {E : XK} (hr : Rm (4 * n + 7) (A.deeper (envOfC "all_deals" (defScope s_all_deals) s.heap.objs.size f cdv))) :
    PSs (cxOf (L2.CX prog w) prog w P.K mg base N_all_deals "all_deals" (defScope s_all_deals) f cdv A outer s H E) (defBody s_all_deals) (tSs P (spec P (phi Gm tab n)) F_all_deals.body E) :=
  (pss_cons (ps_set (i := 2) nd_all_deals rfl (Or.inl rfl) (pe_lst pa_nil)) (pss_cons (ps_for po_cx rfl (pi_any (g_call C.c_all_tuples hr (by omega) rfl (pa_cons (pe_op (op_bin .mul) (pe_lst (pa_cons (pe_op (op_bin .add) (pv 1) pe_int) pa_nil)) (pv 0)) pa_nil))) (pg_name (i := 3) nd_all_deals rfl (Or.inr rfl)) (pss_cons (ps_expr (pe_bm PySem.F.plainAttrs_list PySem.F.slot_list_append PySem.F.type_list_append mt_append (pv 2) (pa_cons (pe_callTy call_tupleN rfl T.z_tuple b_tuple (pa_cons (pe_lc (own := [("one", 4)]) rfl nd_all_deals (pi_range1 rfl T.z_range (pa_cons (pv 1) pa_nil)) (blkOk_by (own := [("one", 4)]) (N := N_all_deals) (sc := (defScope (top 17))) (scope := (⟨.function, [(".0", .local), ("one", .cell), ("lot_number", .globalImplicit), ("range", .globalImplicit), ("owners", .free), ("things", .free)], false, false, []⟩ : PySem.Scope)) (by decide +kernel)) (fun _ _ _ _ _ => (pg_name (i := 4) nd_all_deals rfl (Or.inr rfl))) (fun _ _ _ _ _ => pts_nil) (fun _ _ _ _ _ => (g_call C.c_lot_number hr (by omega) rfl (pa_cons (pe_lc (own := [("at", 5)]) rfl nd_all_deals (pi_range1 rfl T.z_range (pa_cons (pv 0) pa_nil)) (blkOk_by (own := [("at", 5)]) (N := N_all_deals) (sc := (⟨.function, [(".0", .local), ("one", .cell), ("lot_number", .globalImplicit), ("range", .globalImplicit), ("owners", .cell), ("things", .cell)], false, false, []⟩ : PySem.Scope)) (scope := (⟨.function, [(".0", .local), ("at", .local), ("one", .free), ("owners", .free)], false, false, []⟩ : PySem.Scope)) (by decide +kernel)) (fun _ _ _ _ _ => (pg_name (i := 5) nd_all_deals rfl (Or.inl rfl))) (fun _ _ _ _ _ => (pts_one (pt_cmpR (op_cmp .eq (hu_room hr)) (PE.or (pe_ix ix_seq (pv 3) (pv 5) (fun _ _ => rfl)) (pe_dget (hu_one hr) (pv 3) (pv 5) (fun _ _ => rfl))) (pv 4) (by first | exact nomark _ | rfl)))) (fun _ _ _ _ _ => (pv 5))) pa_nil)))) pa_nil)) pa_nil))) pss_nil)) (pss_cons (ps_ret (pe_callB (cr_sortA rfl (hu_room hr)) rfl T.z_sorted b_sorted (pa_cons (pv 2) pa_nil))) pss_nil)))
theorem b_worth_of {n : Nat} (T : Txt P mg) (C : All P prog w mg base n) {f : Addr} {cdv : Value} {A : Around} {outer : List PySem.Env} {s : Shared} {H : Hp} {E : XK} (hr : Rm (4 * n + 7) (A.deeper (envOfC "worth_of" (defScope s_worth_of) s.heap.objs.size f cdv))) :
    PSs (cxOf (L2.CX prog w) prog w P.K mg base N_worth_of "worth_of" (defScope s_worth_of) f cdv A outer s H E) (defBody s_worth_of) (tSs P (spec P (phi Gm tab n)) F_worth_of.body E) :=
  (pss_cons (ps_ret (pe_callB (cr_sumA rfl) rfl T.z_sum b_sum (pa_cons (pe_lc (own := [("one", 3), ("lot", 4)]) rfl nd_worth_of (pi_enumA rfl T.z_enumerate (pa_cons (pv 1) pa_nil)) (blkOk_by (own := [("one", 3), ("lot", 4)]) (N := N_worth_of) (sc := (defScope (top 18))) (scope := (⟨.function, [(".0", .local), ("one", .local), ("lot", .local), ("bids", .free), ("left_out", .free)], false, false, []⟩ : PySem.Scope)) (by decide +kernel)) (fun _ _ _ _ _ => (pg_tup rfl (pgs_cons (pg_name (i := 3) nd_worth_of rfl (Or.inl rfl)) (pgs_cons (pg_name (i := 4) nd_worth_of rfl (Or.inl rfl)) pgs_nil)))) (fun _ _ _ _ _ => (pts_one (pt_cmpR (op_cmp .ne (hu_room hr)) (pv 3) (pv 2) (by first | exact nomark _ | rfl)))) (fun _ _ _ _ _ => (PE.or (pe_ix ix_seq (PE.or (pe_ix ix_seq (pv 0) (pv 3) (fun _ _ => rfl)) (pe_dget (hu_one hr) (pv 0) (pv 3) (fun _ _ => rfl))) (pv 4) (fun _ _ => rfl)) (pe_dget (hu_one hr) (PE.or (pe_ix ix_seq (pv 0) (pv 3) (fun _ _ => rfl)) (pe_dget (hu_one hr) (pv 0) (pv 3) (fun _ _ => rfl))) (pv 4) (fun _ _ => rfl))))) pa_nil))) pss_nil)
theorem b_best_deal {n : Nat} (T : Txt P mg) (C : All P prog w mg base n) {f : Addr} {cdv : Value} {A : Around} {outer : List PySem.Env} {s : Shared} {H : Hp} {E : XK} (hr : Rm (4 * n + 7) (A.deeper (envOfC "best_deal" (defScope s_best_deal) s.heap.objs.size f cdv))) :
    PSs (cxOf (L2.CX prog w) prog w P.K mg base N_best_deal "best_deal" (defScope s_best_deal) f cdv A outer s H E) (defBody s_best_deal) (tSs P (spec P (phi Gm tab n)) F_best_deal.body E) :=
  (pss_cons (ps_set (i := 2) nd_best_deal rfl (Or.inl rfl) pe_non) (pss_cons (ps_for po_cx rfl (pi_any (g_call C.c_all_deals hr (by omega) rfl (pa_cons (pv 0) (pa_cons (pe_callB cr_lenA rfl T.z_len b_len (pa_cons (pv 1) pa_nil)) pa_nil)))) (pg_name (i := 3) nd_best_deal rfl (Or.inl rfl)) (pss_cons (ps_set (i := 4) nd_best_deal rfl (Or.inl rfl) (g_call C.c_worth_of hr (by omega) rfl (pa_cons (pv 1) (pa_cons (pv 3) (pa_cons pe_non pa_nil))))) (pss_cons (ps_if (PW.pt (pw_or (pt_cmpR (op_cmp .iss (hu_room hr)) (pv 2) pe_non (by first | exact nomark _ | rfl)) (pw_or1 (pt_cmpR (op_cmp .gt (hu_room hr)) (pv 4) (PE.or (pe_ix ix_seq (pv 2) pe_int (fun _ _ => rfl)) (pe_dget (hu_one hr) (pv 2) pe_int (fun _ _ => rfl))) (by first | exact nomark _ | rfl))))) (pss_cons (ps_set (i := 2) nd_best_deal rfl (Or.inl rfl) (pe_tupN (pa_cons (pv 4) (pa_cons (pv 3) pa_nil)))) pss_nil) pss_nil) pss_nil))) (pss_cons (ps_ret (pv 2)) pss_nil)))
theorem b_dealt {n : Nat} (T : Txt P mg) (C : All P prog w mg base n) {f : Addr} {cdv : Value} {A : Around} {outer : List PySem.Env} {s : Shared} {H : Hp} {E : XK} (hr : Rm (4 * n + 7) (A.deeper (envOfC "dealt" (defScope s_dealt) s.heap.objs.size f cdv))) :
    PSs (cxOf (L2.CX prog w) prog w P.K mg base N_dealt "dealt" (defScope s_dealt) f cdv A outer s H E) (defBody s_dealt) (tSs P (spec P (phi Gm tab n)) F_dealt.body E) :=
  (pss_cons (ps_asg (g_call C.c_best_deal hr (by omega) rfl (pa_cons (pe_fld (pv 0) rfl) (pa_cons (pe_fld (pv 0) rfl) pa_nil))) (pg_tup rfl (pgs_cons (pg_name (i := 1) nd_dealt rfl (Or.inl rfl)) (pgs_cons (pg_name (i := 2) nd_dealt rfl (Or.inl rfl)) pgs_nil)))) (pss_cons (ps_set (i := 3) nd_dealt rfl (Or.inr rfl) (g_call C.c_lots_of hr (by omega) rfl (pa_cons (pe_fld (pv 0) rfl) pa_nil))) (pss_cons (ps_ret (pe_tupN (pa_cons (pv 1) (pa_cons (pe_callTy call_tupleN rfl T.z_tuple b_tuple (pa_cons (pe_lc (own := [("lot", 4)]) rfl nd_dealt (pi_any (pv 2)) (blkOk_by (own := [("lot", 4)]) (N := N_dealt) (sc := (defScope (top 20))) (scope := (⟨.function, [(".0", .local), ("lot", .local), ("lots", .free)], false, false, []⟩ : PySem.Scope)) (by decide +kernel)) (fun _ _ _ _ _ => (pg_name (i := 4) nd_dealt rfl (Or.inl rfl))) (fun _ _ _ _ _ => pts_nil) (fun _ _ _ _ _ => (PE.or (pe_ix ix_seq (pv 3) (pv 4) (fun _ _ => rfl)) (pe_dget (hu_one hr) (pv 3) (pv 4) (fun _ _ => rfl))))) pa_nil)) pa_nil)))) pss_nil)))
theorem b__law_draw {n : Nat} (T : Txt P mg) (C : All P prog w mg base n) {f : Addr} {cdv : Value} {A : Around} {outer : List PySem.Env} {s : Shared} {H : Hp} {E : XK} (hr : Rm (4 * n + 7) (A.deeper (envOfC "_law_draw" (defScope s__law_draw) s.heap.objs.size f cdv))) :
    PSs (cxOf (L2.CX prog w) prog w P.K mg base N__law_draw "_law_draw" (defScope s__law_draw) f cdv A outer s H E) (defBody s__law_draw) (tSs P (spec P (phi Gm tab n)) F__law_draw.body E) :=
  (pss_cons (ps_if (PW.pt (pw_and (pt_cmpR (op_cmp .eq (hu_room hr)) (PE.or (pe_ix ix_seq (pv 0) pe_int (fun _ _ => rfl)) (pe_dget (hu_one hr) (pv 0) pe_int (fun _ _ => rfl))) pe_int (by first | exact nomark _ | rfl)) (pw_and1 (pt_cmpR (op_cmp .lt (hu_room hr)) (PE.or (pe_ix ix_seq (pv 0) pe_int (fun _ _ => rfl)) (pe_dget (hu_one hr) (pv 0) pe_int (fun _ _ => rfl))) (pe_callB cr_lenA rfl T.z_len b_len (pa_cons (PE.or (pe_ix ix_seq (pv 0) pe_int (fun _ _ => rfl)) (pe_dget (hu_one hr) (pv 0) pe_int (fun _ _ => rfl))) pa_nil)) (by first | exact nomark _ | rfl))))) (pss_cons (ps_set (i := 2) nd__law_draw rfl (Or.inl rfl) (PE.or (pe_ix ix_seq (PE.or (pe_ix ix_seq (pv 0) pe_int (fun _ _ => rfl)) (pe_dget (hu_one hr) (pv 0) pe_int (fun _ _ => rfl))) (PE.or (pe_ix ix_seq (pv 0) pe_int (fun _ _ => rfl)) (pe_dget (hu_one hr) (pv 0) pe_int (fun _ _ => rfl))) (fun _ _ => rfl)) (pe_dget (hu_one hr) (PE.or (pe_ix ix_seq (pv 0) pe_int (fun _ _ => rfl)) (pe_dget (hu_one hr) (pv 0) pe_int (fun _ _ => rfl))) (PE.or (pe_ix ix_seq (pv 0) pe_int (fun _ _ => rfl)) (pe_dget (hu_one hr) (pv 0) pe_int (fun _ _ => rfl))) (fun _ _ => rfl)))) (pss_cons (ps_asg (pe_op (op_bin .add) (PE.or (pe_ix ix_seq (pv 0) pe_int (fun _ _ => rfl)) (pe_dget (hu_one hr) (pv 0) pe_int (fun _ _ => rfl))) pe_int) (pg_sub (pv 0) pe_int (set_any (hu_one hr)) (fun _ => rfl))) (pss_cons (ps_asg (pe_op (op_bin .mod) (pe_callTy call_int1 rfl T.z_int b_int (pa_cons (pe_op (op_bin .add) (pe_op (op_bin .add) (pe_op (op_bin .mul) (PE.or (pe_ix ix_seq (pv 0) pe_int (fun _ _ => rfl)) (pe_dget (hu_one hr) (pv 0) pe_int (fun _ _ => rfl))) pe_int) (pv 2)) pe_int) pa_nil)) pe_int) (pg_sub (pv 0) pe_int (set_any (hu_one hr)) (fun _ => rfl))) (pss_cons (ps_if (pt_cmpR (op_cmp .ge (hu_room hr)) (pv 2) (pe_op (op_bin .pow) pe_int pe_int) (by first | exact nomark _ | rfl)) (pss_cons (ps_asg (pv 2) (pg_sub (pv 0) pe_int (set_any (hu_one hr)) (fun _ => rfl))) pss_nil) pss_nil) pss_nil)))) pss_nil) (pss_cons (ps_if (pt_cmpR (op_cmp .gt (hu_room hr)) (PE.or (pe_ix ix_seq (pv 0) pe_int (fun _ _ => rfl)) (pe_dget (hu_one hr) (pv 0) pe_int (fun _ _ => rfl))) pe_int (by first | exact nomark _ | rfl)) (pss_cons (ps_set (i := 3) nd__law_draw rfl (Or.inl rfl) (pe_op (op_bin .mod) (pe_callTy call_int1 rfl T.z_int b_int (pa_cons (PE.or (pe_ix ix_seq (pv 0) pe_int (fun _ _ => rfl)) (pe_dget (hu_one hr) (pv 0) pe_int (fun _ _ => rfl))) pa_nil)) (pv 1))) (pss_cons (ps_asg (pe_op (op_bin .fdiv) (PE.or (pe_ix ix_seq (pv 0) pe_int (fun _ _ => rfl)) (pe_dget (hu_one hr) (pv 0) pe_int (fun _ _ => rfl))) (pv 1)) (pg_sub (pv 0) pe_int (set_any (hu_one hr)) (fun _ => rfl))) (pss_cons (ps_ret (pv 3)) pss_nil))) pss_nil) (pss_cons (ps_asg (pe_op (op_bin .add) (PE.or (pe_ix ix_seq (pv 0) pe_int (fun _ _ => rfl)) (pe_dget (hu_one hr) (pv 0) pe_int (fun _ _ => rfl))) pe_int) (pg_sub (pv 0) pe_int (set_any (hu_one hr)) (fun _ => rfl))) (pss_cons (ps_set (i := 4) nd__law_draw rfl (Or.inl rfl) (pe_op (op_bin .mod) (pe_callTy call_int1 rfl T.z_int b_int (pa_cons (pe_op (op_bin .mul) (pe_callTy call_int1 rfl T.z_int b_int (pa_cons (pe_op (op_bin .add) (PE.or (pe_ix ix_seq (pv 0) pe_int (fun _ _ => rfl)) (pe_dget (hu_one hr) (pv 0) pe_int (fun _ _ => rfl))) (pe_op (op_bin .mul) pe_int (PE.or (pe_ix ix_seq (pv 0) pe_int (fun _ _ => rfl)) (pe_dget (hu_one hr) (pv 0) pe_int (fun _ _ => rfl))))) pa_nil)) pe_int) pa_nil)) pe_int)) (pss_cons (ps_set (i := 4) nd__law_draw rfl (Or.inl rfl) (pe_op (op_bin .mod) (pe_callTy call_int1 rfl T.z_int b_int (pa_cons (pe_op (op_bin .mul) (pv 4) (pe_op (op_bin .add) (pe_op (op_bin .fdiv) (pv 4) pe_int) pe_int)) pa_nil)) pe_int)) (pss_cons (ps_set (i := 4) nd__law_draw rfl (Or.inl rfl) (pe_op (op_bin .mod) (pe_callTy call_int1 rfl T.z_int b_int (pa_cons (pe_op (op_bin .mul) (pv 4) (pe_op (op_bin .add) (pe_op (op_bin .fdiv) (pv 4) pe_int) pe_int)) pa_nil)) pe_int)) (pss_cons (ps_ret (pe_op (op_bin .mod) (pe_callTy call_int1 rfl T.z_int b_int (pa_cons (pe_op (op_bin .fdiv) (pv 4) pe_int) pa_nil)) (pv 1))) pss_nil)))))))
theorem b_Sale___eq__ {n : Nat} (T : Txt P mg) (C : All P prog w mg base n) {f : Addr} {cdv : Value} {A : Around} {outer : List PySem.Env} {s : Shared} {H : Hp} {E : XK} (hr : Rm (4 * n + 7) (A.deeper (envOfC "Sale.__eq__" (defScope s_Sale___eq__) s.heap.objs.size f cdv))) :
    PSs (cxOf (L2.CX prog w) prog w P.K mg base N_Sale___eq__ "Sale.__eq__" (defScope s_Sale___eq__) f cdv A outer s H E) (defBody s_Sale___eq__) (tSs P (spec P (phi Gm tab n)) F_Sale___eq__.body E) :=
  (pss_cons (ps_ret (pe_and (pe_callB call_isi rfl T.z_isinstance b_isi (pa_cons (pv 1) (pa_cons (g_cn T.mc_Sale rfl) pa_nil))) (pe_and (pe_cmpR (op_cmp .eq (hu_room hr)) (pe_fld (pv 0) rfl) (pe_fld (pv 1) rfl) (by first | exact nomark _ | rfl)) (pe_one (pe_cmpR (op_cmp .eq (hu_room hr)) (pe_fld (pv 0) rfl) (pe_fld (pv 1) rfl) (by first | exact nomark _ | rfl)))))) pss_nil)
theorem b__law_lots {n : Nat} (T : Txt P mg) (C : All P prog w mg base n) {f : Addr} {cdv : Value} {A : Around} {outer : List PySem.Env} {s : Shared} {H : Hp} {E : XK} (hr : Rm (4 * n + 7) (A.deeper (envOfC "_law_lots" (defScope s__law_lots) s.heap.objs.size f cdv))) :
    PSs (cxOf (L2.CX prog w) prog w P.K mg base N__law_lots "_law_lots" (defScope s__law_lots) f cdv A outer s H E) (defBody s__law_lots) (tSs P (spec P (phi Gm tab n)) F__law_lots.body E) :=
  (pss_cons (ps_set (i := 2) nd__law_lots rfl (Or.inl rfl) (pe_lst (pa_cons (pe_op (op_bin .mul) (pe_tupN (pa_cons pe_int pa_nil)) (pv 1)) pa_nil))) (pss_cons (ps_for po_cx rfl (pi_range1 rfl T.z_range (pa_cons (pv 0) pa_nil)) (pg_name (i := 3) nd__law_lots rfl (Or.inr rfl)) (pss_cons (ps_set (i := 4) nd__law_lots rfl (Or.inl rfl) (pe_callTy call_list_of rfl T.z_list b_list (pa_cons (pv 2) pa_nil))) (pss_cons (ps_for po_cx rfl (pi_any (pv 2)) (pg_name (i := 5) nd__law_lots rfl (Or.inr rfl)) (pss_cons (ps_expr (pe_bm PySem.F.plainAttrs_list PySem.F.slot_list_extend PySem.F.type_list_extend mt_extend (pv 4) (pa_cons (pe_lc (own := [("at", 6)]) rfl nd__law_lots (pi_range1 rfl T.z_range (pa_cons (pv 1) pa_nil)) (blkOk_by (own := [("at", 6)]) (N := N__law_lots) (sc := (defScope (top 28))) (scope := (⟨.function, [(".0", .local), ("at", .local), ("deal", .free), ("one", .free)], false, false, []⟩ : PySem.Scope)) (by decide +kernel)) (fun _ _ _ _ _ => (pg_name (i := 6) nd__law_lots rfl (Or.inl rfl))) (fun _ _ _ _ _ => pts_nil) (fun _ _ _ _ _ => (pe_op (op_bin .add) (pe_op (op_bin .add) (pe_slice sl_any (pv 5) po_none (po_some (pv 6))) (pe_tupN (pa_cons (pe_op (op_bin .add) (PE.or (pe_ix ix_seq (pv 5) (pv 6) (fun _ _ => rfl)) (pe_dget (hu_one hr) (pv 5) (pv 6) (fun _ _ => rfl))) (PE.or (pe_ix ix_seq (pe_lst (pa_cons pe_int (pa_cons pe_int (pa_cons pe_int pa_nil)))) (pv 3) (fun _ _ => rfl)) (pe_dget (hu_one hr) (pe_lst (pa_cons pe_int (pa_cons pe_int (pa_cons pe_int pa_nil)))) (pv 3) (fun _ _ => rfl)))) pa_nil))) (pe_slice sl_any (pv 5) (po_some (pe_op (op_bin .add) (pv 6) pe_int)) po_none)))) pa_nil))) pss_nil)) (pss_cons (ps_set (i := 2) nd__law_lots rfl (Or.inl rfl) (pv 4)) pss_nil)))) (pss_cons (ps_ret (pv 2)) pss_nil)))
theorem b__law_best {n : Nat} (T : Txt P mg) (C : All P prog w mg base n) {f : Addr} {cdv : Value} {A : Around} {outer : List PySem.Env} {s : Shared} {H : Hp} {E : XK} (hr : Rm (4 * n + 7) (A.deeper (envOfC "_law_best" (defScope s__law_best) s.heap.objs.size f cdv))) :
    PSs (cxOf (L2.CX prog w) prog w P.K mg base N__law_best "_law_best" (defScope s__law_best) f cdv A outer s H E) (defBody s__law_best) (tSs P (spec P (phi Gm tab n)) F__law_best.body E) :=
  (pss_cons (ps_set (i := 2) nd__law_best rfl (Or.inl rfl) pe_non) (pss_cons (ps_for po_cx rfl (pi_any (g_call C.c__law_lots hr (by omega) rfl (pa_cons (pv 0) (pa_cons (pe_callB cr_lenA rfl T.z_len b_len (pa_cons (pv 1) pa_nil)) pa_nil)))) (pg_name (i := 3) nd__law_best rfl (Or.inl rfl)) (pss_cons (ps_set (i := 4) nd__law_best rfl (Or.inl rfl) (pe_callB (cr_sumA rfl) rfl T.z_sum b_sum (pa_cons (pe_lc (own := [("bid", 5), ("lot", 6)]) rfl nd__law_best (Zg.pi_zipG rfl T.z_zip (pa_cons (pv 1) (pa_cons (pv 3) pa_nil))) (blkOk_by (own := [("bid", 5), ("lot", 6)]) (N := N__law_best) (sc := (defScope (top 29))) (scope := (⟨.function, [(".0", .local), ("bid", .local), ("lot", .local)], false, false, []⟩ : PySem.Scope)) (by decide +kernel)) (fun _ _ _ _ _ => (pg_tup rfl (pgs_cons (pg_name (i := 5) nd__law_best rfl (Or.inl rfl)) (pgs_cons (pg_name (i := 6) nd__law_best rfl (Or.inl rfl)) pgs_nil)))) (fun _ _ _ _ _ => pts_nil) (fun _ _ _ _ _ => (PE.or (pe_ix ix_seq (pv 5) (pv 6) (fun _ _ => rfl)) (pe_dget (hu_one hr) (pv 5) (pv 6) (fun _ _ => rfl))))) pa_nil))) (pss_cons (ps_if (PW.pt (pw_or (pt_cmpR (op_cmp .iss (hu_room hr)) (pv 2) pe_non (by first | exact nomark _ | rfl)) (pw_or (pt_cmpR (op_cmp .gt (hu_room hr)) (pv 4) (PE.or (pe_ix ix_seq (pv 2) pe_int (fun _ _ => rfl)) (pe_dget (hu_one hr) (pv 2) pe_int (fun _ _ => rfl))) (by first | exact nomark _ | rfl)) (pw_or1 (PW.pt (pw_and (pt_cmpR (op_cmp .eq (hu_room hr)) (pv 4) (PE.or (pe_ix ix_seq (pv 2) pe_int (fun _ _ => rfl)) (pe_dget (hu_one hr) (pv 2) pe_int (fun _ _ => rfl))) (by first | exact nomark _ | rfl)) (pw_and1 (pt_cmpR (op_cmp .lt (hu_room hr)) (pv 3) (PE.or (pe_ix ix_seq (pv 2) pe_int (fun _ _ => rfl)) (pe_dget (hu_one hr) (pv 2) pe_int (fun _ _ => rfl))) (by first | exact nomark _ | rfl))))))))) (pss_cons (ps_set (i := 2) nd__law_best rfl (Or.inl rfl) (pe_tupN (pa_cons (pv 4) (pa_cons (pv 3) pa_nil)))) pss_nil) pss_nil) pss_nil))) (pss_cons (ps_ret (pv 2)) pss_nil)))
theorem b__law_of {n : Nat} (T : Txt P mg) (C : All P prog w mg base n) {f : Addr} {cdv : Value} {A : Around} {outer : List PySem.Env} {s : Shared} {H : Hp} {E : XK} (hr : Rm (4 * n + 7) (A.deeper (envOfC "_law_of" (defScope s__law_of) s.heap.objs.size f cdv))) :
    PSs (cxOf (L2.CX prog w) prog w P.K mg base N__law_of "_law_of" (defScope s__law_of) f cdv A outer s H E) (defBody s__law_of) (tSs P (spec P (phi Gm tab n)) F__law_of.body E) :=
  (pss_cons (ps_ret (pe_callTy call_tupleN rfl T.z_tuple b_tuple (pa_cons (pe_lc (own := [("one", 1)]) rfl nd__law_of (pi_range1 rfl T.z_range (pa_cons pe_int pa_nil)) (blkOk_by (own := [("one", 1)]) (N := N__law_of) (sc := (defScope (top 30))) (scope := (⟨.function, [(".0", .local), ("one", .local), ("int", .globalImplicit), ("lot", .free)], false, false, []⟩ : PySem.Scope)) (by decide +kernel)) (fun _ _ _ _ _ => (pg_name (i := 1) nd__law_of rfl (Or.inl rfl))) (fun _ _ _ _ _ => (pts_one (pt_cmpR (op_cmp .eq (hu_room hr)) (pe_op (op_bin .mod) (pe_callTy call_int1 rfl T.z_int b_int (pa_cons (pe_op (op_bin .fdiv) (pv 0) (PE.or (pe_ix ix_seq (pe_lst (pa_cons pe_int (pa_cons pe_int (pa_cons pe_int pa_nil)))) (pv 1) (fun _ _ => rfl)) (pe_dget (hu_one hr) (pe_lst (pa_cons pe_int (pa_cons pe_int (pa_cons pe_int pa_nil)))) (pv 1) (fun _ _ => rfl)))) pa_nil)) pe_int) pe_int (by first | exact nomark _ | rfl)))) (fun _ _ _ _ _ => (pv 1))) pa_nil))) pss_nil)
theorem b__law_some {n : Nat} (T : Txt P mg) (C : All P prog w mg base n) {f : Addr} {cdv : Value} {A : Around} {outer : List PySem.Env} {s : Shared} {H : Hp} {E : XK} (hr : Rm (4 * n + 7) (A.deeper (envOfC "_law_some" (defScope s__law_some) s.heap.objs.size f cdv))) :
    PSs (cxOf (L2.CX prog w) prog w P.K mg base N__law_some "_law_some" (defScope s__law_some) f cdv A outer s H E) (defBody s__law_some) (tSs P (spec P (phi Gm tab n)) F__law_some.body E) :=
  (pss_cons (ps_ret (PE.or (pe_ix ix_seq (pv 1) (g_call C.c__law_draw hr (by omega) rfl (pa_cons (pv 0) (pa_cons (pe_callB cr_lenA rfl T.z_len b_len (pa_cons (pv 1) pa_nil)) pa_nil))) (fun _ _ => rfl)) (pe_dget (hu_one hr) (pv 1) (g_call C.c__law_draw hr (by omega) rfl (pa_cons (pv 0) (pa_cons (pe_callB cr_lenA rfl T.z_len b_len (pa_cons (pv 1) pa_nil)) pa_nil))) (fun _ _ => rfl)))) pss_nil)
theorem b__law_bent {n : Nat} (T : Txt P mg) (C : All P prog w mg base n) {f : Addr} {cdv : Value} {A : Around} {outer : List PySem.Env} {s : Shared} {H : Hp} {E : XK} (hr : Rm (4 * n + 7) (A.deeper (envOfC "_law_bent" (defScope s__law_bent) s.heap.objs.size f cdv))) :
    PSs (cxOf (L2.CX prog w) prog w P.K mg base N__law_bent "_law_bent" (defScope s__law_bent) f cdv A outer s H E) (defBody s__law_bent) (tSs P (spec P (phi Gm tab n)) F__law_bent.body E) :=
  (pss_cons (ps_set (i := 2) nd__law_bent rfl (Or.inr rfl) (g_call C.c__law_draw hr (by omega) rfl (pa_cons (pv 0) (pa_cons (pe_callB cr_lenA rfl T.z_len b_len (pa_cons (pv 1) pa_nil)) pa_nil)))) (pss_cons (ps_set (i := 3) nd__law_bent rfl (Or.inr rfl) (PE.or (pe_ix ix_seq (pv 1) (pv 2) (fun _ _ => rfl)) (pe_dget (hu_one hr) (pv 1) (pv 2) (fun _ _ => rfl)))) (pss_cons (ps_set (i := 4) nd__law_bent rfl (Or.inr rfl) (g_call C.c__law_draw hr (by omega) rfl (pa_cons (pv 0) (pa_cons (pe_callB cr_lenA rfl T.z_len b_len (pa_cons (pv 3) pa_nil)) pa_nil)))) (pss_cons (ps_set (i := 5) nd__law_bent rfl (Or.inl rfl) (pe_lst (pa_cons (pe_un un_neg pe_int) (pa_cons (pe_op (op_bin .pow) pe_int pe_int) (pa_cons pe_non (pa_cons pe_bl (pa_cons pe_str (pa_cons (pe_tupN (pa_cons pe_int pa_nil)) (pa_cons pe_int (pa_cons (pe_op (op_bin .add) (PE.or (pe_ix ix_seq (pv 3) (pv 4) (fun _ _ => rfl)) (pe_dget (hu_one hr) (pv 3) (pv 4) (fun _ _ => rfl))) pe_int) pa_nil)))))))))) (pss_cons (ps_setLc (i := 6) (own := [("odd", 8)]) rfl nd__law_bent rfl rfl (sw_true rfl rfl rfl (by decide +kernel)) (pi_any (pv 5)) (blkOk_by (own := [("odd", 8)]) (N := N__law_bent) (sc := (defScope (top 34))) (scope := (⟨.function, [(".0", .local), ("odd", .local), ("bid", .free), ("to", .free)], false, false, []⟩ : PySem.Scope)) (by decide +kernel)) (fun _ _ _ _ _ => (pg_name (i := 8) nd__law_bent rfl (Or.inl rfl))) (fun _ _ _ _ _ => pts_nil) (fun _ _ _ _ _ => (pe_op (op_bin .add) (pe_op (op_bin .add) (pe_slice sl_any (pv 3) po_none (po_some (pv 4))) (pe_tupN (pa_cons (pv 8) pa_nil))) (pe_slice sl_any (pv 3) (po_some (pe_op (op_bin .add) (pv 4) pe_int)) po_none)))) (pss_cons (ps_set (i := 6) nd__law_bent rfl (Or.inl rfl) (pe_op (op_bin .add) (pv 6) (pe_lst (pa_cons (pe_slice sl_any (pv 3) (po_some pe_int) po_none) (pa_cons (pe_op (op_bin .add) (pv 3) (pe_tupN (pa_cons (PE.or (pe_ix ix_seq (pv 3) (pe_un un_neg pe_int) (fun _ _ => rfl)) (pe_dget (hu_one hr) (pv 3) (pe_un un_neg pe_int) (fun _ _ => rfl))) pa_nil))) (pa_cons (pe_callTy call_list_of rfl T.z_list b_list (pa_cons (pv 3) pa_nil)) (pa_cons (pe_rev (pv 3)) (pa_cons pe_non (pa_cons (pe_tupN pa_nil) pa_nil))))))))) (pss_cons (ps_setLc (i := 7) (own := [("row", 9)]) rfl nd__law_bent rfl rfl (sw_true rfl rfl rfl (by decide +kernel)) (pi_any (pv 6)) (blkOk_by (own := [("row", 9)]) (N := N__law_bent) (sc := (defScope (top 34))) (scope := (⟨.function, [(".0", .local), ("row", .local), ("at", .free), ("bids", .free)], false, false, []⟩ : PySem.Scope)) (by decide +kernel)) (fun _ _ _ _ _ => (pg_name (i := 9) nd__law_bent rfl (Or.inl rfl))) (fun _ _ _ _ _ => pts_nil) (fun _ _ _ _ _ => (pe_op (op_bin .add) (pe_op (op_bin .add) (pe_slice sl_any (pv 1) po_none (po_some (pv 2))) (pe_tupN (pa_cons (pv 9) pa_nil))) (pe_slice sl_any (pv 1) (po_some (pe_op (op_bin .add) (pv 2) pe_int)) po_none)))) (pss_cons (ps_ret (g_call C.c__law_some hr (by omega) rfl (pa_cons (pv 0) (pa_cons (pe_op (op_bin .add) (pv 7) (pe_lst (pa_cons (pe_tupN pa_nil) (pa_cons (pe_callTy call_list_of rfl T.z_list b_list (pa_cons (pv 1) pa_nil)) (pa_cons (pe_op (op_bin .mul) (pv 1) pe_int) (pa_cons pe_non (pa_cons pe_int (pa_cons pe_dnewK (pa_cons pe_str (pa_cons (pv 3) pa_nil)))))))))) pa_nil)))) pss_nil))))))))
theorem b__law_are_bids {n : Nat} (T : Txt P mg) (C : All P prog w mg base n) {f : Addr} {cdv : Value} {A : Around} {outer : List PySem.Env} {s : Shared} {H : Hp} {E : XK} (hr : Rm (4 * n + 7) (A.deeper (envOfC "_law_are_bids" (defScope s__law_are_bids) s.heap.objs.size f cdv))) :
    PSs (cxOf (L2.CX prog w) prog w P.K mg base N__law_are_bids "_law_are_bids" (defScope s__law_are_bids) f cdv A outer s H E) (defBody s__law_are_bids) (tSs P (spec P (phi Gm tab n)) F__law_are_bids.body E) :=
  (pss_cons (ps_set (i := 2) nd__law_are_bids rfl (Or.inl rfl) (PE.or (pe_ix ix_seq (pe_lst (pa_cons pe_int (pa_cons pe_int (pa_cons pe_int (pa_cons pe_int pa_nil))))) (pv 0) (fun _ _ => rfl)) (pe_dget (hu_one hr) (pe_lst (pa_cons pe_int (pa_cons pe_int (pa_cons pe_int (pa_cons pe_int pa_nil))))) (pv 0) (fun _ _ => rfl)))) (pss_cons (ps_if (PW.pt (pw_or (pt_not (pt_val (pe_callB call_isi rfl T.z_isinstance b_isi (pa_cons (pv 1) (pa_cons (pe_bltn rfl T.z_tuple b_tuple rfl) pa_nil))))) (pw_or1 (pt_not (pt_chain (op_cmp .le (hu_room hr)) (op_cmp .le (hu_room hr)) pe_int (pe_callB cr_lenA rfl T.z_len b_len (pa_cons (pv 1) pa_nil)) pe_int))))) (pss_cons (ps_ret pe_bl) pss_nil) pss_nil) (pss_cons (ps_for po_cx rfl (pi_any (pv 1)) (pg_name (i := 3) nd__law_are_bids rfl (Or.inr rfl)) (pss_cons (ps_if (PW.pt (pw_or (pt_not (pt_val (pe_callB call_isi rfl T.z_isinstance b_isi (pa_cons (pv 3) (pa_cons (pe_bltn rfl T.z_tuple b_tuple rfl) pa_nil))))) (pw_or1 (pt_cmpR (op_cmp .ne (hu_room hr)) (pe_callB cr_lenA rfl T.z_len b_len (pa_cons (pv 3) pa_nil)) (pv 2) (by first | exact nomark _ | rfl))))) (pss_cons (ps_ret pe_bl) pss_nil) pss_nil) (pss_cons (ps_if (pt_not (pt_val (pe_callB (cr_all rfl) rfl T.z_all b_all (pa_cons (pe_lc (own := [("one", 5)]) rfl nd__law_are_bids (pi_any (pv 3)) (blkOk_by (own := [("one", 5)]) (N := N__law_are_bids) (sc := (defScope (top 33))) (scope := (⟨.function, [(".0", .local), ("one", .local), ("isinstance", .globalImplicit), ("int", .globalImplicit), ("bool", .globalImplicit)], false, false, []⟩ : PySem.Scope)) (by decide +kernel)) (fun _ _ _ _ _ => (pg_name (i := 5) nd__law_are_bids rfl (Or.inl rfl))) (fun _ _ _ _ _ => pts_nil) (fun _ _ _ _ _ => (pe_and (pe_callB call_isi rfl T.z_isinstance b_isi (pa_cons (pv 5) (pa_cons (pe_bltn rfl T.z_int b_int rfl) pa_nil))) (pe_and (pe_not (pe_callB call_isi rfl T.z_isinstance b_isi (pa_cons (pv 5) (pa_cons (pe_bltn rfl T.z_bool b_bool rfl) pa_nil)))) (pe_one (pe_cmpR (op_cmp .ge (hu_room hr)) (pv 5) pe_int (by first | exact nomark _ | rfl))))))) pa_nil)))) (pss_cons (ps_ret pe_bl) pss_nil) pss_nil) (pss_cons (ps_if (pt_cmpR (op_cmp .ne (hu_room hr)) (PE.or (pe_ix ix_seq (pv 3) pe_int (fun _ _ => rfl)) (pe_dget (hu_one hr) (pv 3) pe_int (fun _ _ => rfl))) pe_int (by first | exact nomark _ | rfl)) (pss_cons (ps_ret pe_bl) pss_nil) pss_nil) (pss_cons (ps_for po_cx rfl (pi_range1 rfl T.z_range (pa_cons (pv 2) pa_nil)) (pg_name (i := 4) nd__law_are_bids rfl (Or.inr rfl)) (pss_cons (ps_if (pt_val (pe_callB (cr_any rfl) rfl T.z_any b_any (pa_cons (pe_lc (own := [("one", 5)]) rfl nd__law_are_bids (pi_any (pe_tupN (pa_cons pe_int (pa_cons pe_int (pa_cons pe_int pa_nil))))) (blkOk_by (own := [("one", 5)]) (N := N__law_are_bids) (sc := (defScope (top 33))) (scope := (⟨.function, [(".0", .local), ("one", .local), ("int", .globalImplicit), ("bid", .free), ("lot", .free)], false, false, []⟩ : PySem.Scope)) (by decide +kernel)) (fun _ _ _ _ _ => (pg_name (i := 5) nd__law_are_bids rfl (Or.inl rfl))) (fun _ _ _ _ _ => pts_nil) (fun _ _ _ _ _ => (pe_and (pe_cmpR (op_cmp .eq (hu_room hr)) (pe_op (op_bin .mod) (pe_callTy call_int1 rfl T.z_int b_int (pa_cons (pe_op (op_bin .fdiv) (pv 4) (pv 5)) pa_nil)) pe_int) pe_int (by first | exact nomark _ | rfl)) (pe_one (pe_cmpR (op_cmp .gt (hu_room hr)) (PE.or (pe_ix ix_seq (pv 3) (pe_op (op_bin .sub) (pv 4) (pv 5)) (fun _ _ => rfl)) (pe_dget (hu_one hr) (pv 3) (pe_op (op_bin .sub) (pv 4) (pv 5)) (fun _ _ => rfl))) (PE.or (pe_ix ix_seq (pv 3) (pv 4) (fun _ _ => rfl)) (pe_dget (hu_one hr) (pv 3) (pv 4) (fun _ _ => rfl))) (by first | exact nomark _ | rfl)))))) pa_nil))) (pss_cons (ps_ret pe_bl) pss_nil) pss_nil) pss_nil)) pss_nil))))) (pss_cons (ps_ret pe_bl) pss_nil))))
theorem b__law_is_right {n : Nat} (T : Txt P mg) (C : All P prog w mg base n) {f c Pt : Addr} {A : Around} {outer : List PySem.Env} {s : Shared} {H : Hp} {E : XK} (TB : LamX.TabB base mg c Pt) (hT : (Pt, (("_law_is_right" : Str) ++ ".<locals>.") ++ "<lambda>") ∈ P.tabs) (hu : ∀ p ∈ P.tabs, p.1 = Pt → p.2 = (("_law_is_right" : Str) ++ ".<locals>.") ++ "<lambda>") (hr : Rm (4 * n + 7) (A.deeper (envOfC "_law_is_right" (defScope s__law_is_right) s.heap.objs.size f (.ref c)))) :
    PSs (cxOf (L2.CX prog w) prog w P.K mg base N__law_is_right "_law_is_right" (defScope s__law_is_right) f (.ref c) A outer s H E) (defBody s__law_is_right) (tSs P (spec P (phi Gm tab n)) F__law_is_right.body E) :=
  (pss_cons (g_par (P := P) (o1 := false) (o2 := false) (i := 3) (j := 4) rfl nd__law_is_right rfl rfl (by decide) rfl rfl (pa_cons (g_makex px_cx C.c_Sale hr (by omega) rfl (pa_cons (pv 1) (pa_cons (pv 2) pa_nil))) (pa_cons (g_call C.c__law_best hr (by omega) rfl (pa_cons (pv 1) (pa_cons (pv 2) pa_nil))) pa_nil)) (by first | rfl | exact (by with_unfolding_all rfl))) (pss_cons (ps_set (i := 5) nd__law_is_right rfl (Or.inl rfl) (pe_tupN (pa_cons (PE.or (pe_ix ix_seq (pv 4) pe_int (fun _ _ => rfl)) (pe_dget (hu_one hr) (pv 4) pe_int (fun _ _ => rfl))) (pa_cons (pe_callTy call_tupleN rfl T.z_tuple b_tuple (pa_cons (pe_lc (own := [("lot", 12)]) rfl nd__law_is_right (pi_any (PE.or (pe_ix ix_seq (pv 4) pe_int (fun _ _ => rfl)) (pe_dget (hu_one hr) (pv 4) pe_int (fun _ _ => rfl)))) (blkOk_by (own := [("lot", 12)]) (N := N__law_is_right) (sc := (defScope (top 35))) (scope := (⟨.function, [(".0", .local), ("lot", .local), ("_law_of", .globalImplicit)], false, false, []⟩ : PySem.Scope)) (by decide +kernel)) (fun _ _ _ _ _ => (pg_name (i := 12) nd__law_is_right rfl (Or.inl rfl))) (fun _ _ _ _ _ => pts_nil) (fun _ _ _ _ _ => (g_call C.c__law_of hr (by omega) rfl (pa_cons (pv 12) pa_nil)))) pa_nil)) pa_nil)))) (pss_cons (ps_if (pt_not (pt_val (g_call C.c__law_is hr (by omega) rfl (pa_cons (pe_lst (pa_cons (g_call C.c_dealt hr (by omega) rfl (pa_cons (pv 3) pa_nil)) (pa_cons (g_call C.c_dealt hr (by omega) rfl (pa_cons (pv 3) pa_nil)) (pa_cons (pe_fld (pv 3) rfl) (pa_cons (pe_fld (pv 3) rfl) pa_nil))))) (pa_cons (pe_lst (pa_cons (pv 5) (pa_cons (pv 5) (pa_cons (pv 1) (pa_cons (pv 2) pa_nil))))) pa_nil))))) (pss_cons (ps_ret pe_bl) pss_nil) pss_nil) (pss_cons (ps_if (PW.pt (pw_or (pt_not (gt_eqi C.c_Sale___eq__ hr (by omega) (g_makex px_cx C.c_Sale hr (by omega) rfl (pa_cons (pv 1) (pa_cons (pv 2) pa_nil))) (pv 3))) (pw_or (gt_eqi C.c_Sale___eq__ hr (by omega) (pv 3) (pe_tupN (pa_cons (pv 1) (pa_cons (pv 2) pa_nil)))) (pw_or1 (gt_eqi C.c_Sale___eq__ hr (by omega) (pv 3) (pv 2)))))) (pss_cons (ps_ret pe_bl) pss_nil) pss_nil) (pss_cons (ps_set (i := 6) nd__law_is_right rfl (Or.inl rfl) (g_makex px_cx C.c_Sale hr (by omega) rfl (pa_cons (pv 1) (pa_cons (pe_rev (pv 2)) pa_nil)))) (pss_cons (ps_if (pt_cmpR (op_cmp .ne (hu_room hr)) (g_eqi C.c_Sale___eq__ hr (by omega) (pv 6) (pv 3)) (pe_cmpR (op_cmp .eq (hu_room hr)) (pe_rev (pv 2)) (pv 2) (by first | exact nomark _ | rfl)) (by first | exact nomark _ | rfl)) (pss_cons (ps_ret pe_bl) pss_nil) pss_nil) (pss_cons (ps_for po_cx rfl (pi_range1 rfl T.z_range (pa_cons pe_int pa_nil)) (pg_name (i := 7) nd__law_is_right rfl (Or.inl rfl)) (pss_cons (ps_set (i := 11) nd__law_is_right rfl (Or.inr rfl) (g_call C.c__law_bent hr (by omega) rfl (pa_cons (pv 0) (pa_cons (pv 2) pa_nil)))) (pss_cons (ps_set (i := 8) nd__law_is_right rfl (Or.inl rfl) (pe_callB (cr_repr hr.gs (hu_room hr)) rfl T.z_repr b_repr (pa_cons (pv 11) pa_nil))) (pss_cons (ps_set (i := 9) nd__law_is_right rfl (Or.inl rfl) (pe_ifExp (pt_val (g_call C.c__law_are_bids hr (by omega) rfl (pa_cons (pv 1) (pa_cons (pv 11) pa_nil)))) pe_str (pe_tupN (pa_cons pe_str (pa_cons pe_str pa_nil))))) (pss_cons (ps_if (pt_cmpR (op_cmp .ne (hu_room hr)) (g_word (k := 4 * n + 5) T.d__law_word (by omega) hr rfl sc__law_word rfl (.inl rfl) (fun _ _ _ => w__law_word T) rfl TB hT hu (LamX.lamS_by (sc := defScope s__law_is_right) (by decide +kernel)) rfl (fun _ _ _ _ _ => rfl) (fun A outer s H E f c hr => (g_makex px_lam C.c_Sale hr (by omega) rfl (pa_cons (pv 1) (pa_cons (pv 11) pa_nil))))) (pv 9) (by first | exact nomark _ | rfl)) (pss_cons (ps_ret pe_bl) pss_nil) pss_nil) (pss_cons (ps_if (pt_cmpR (op_cmp .ne (hu_room hr)) (pe_callB (cr_repr hr.gs (hu_room hr)) rfl T.z_repr b_repr (pa_cons (pv 11) pa_nil)) (pv 8) (by first | exact nomark _ | rfl)) (pss_cons (ps_ret pe_bl) pss_nil) pss_nil) pss_nil)))))) (pss_cons (ps_set (i := 10) nd__law_is_right rfl (Or.inr rfl) (g_call C.c__law_some hr (by omega) rfl (pa_cons (pv 0) (pa_cons (pe_lst (pa_cons pe_int (pa_cons pe_int (pa_cons (pe_un un_neg pe_int) (pa_cons pe_non (pa_cons pe_bl (pa_cons pe_str (pa_cons (pe_tupN (pa_cons pe_int pa_nil)) (pa_cons (pe_op (op_bin .pow) pe_int pe_int) pa_nil))))))))) pa_nil)))) (pss_cons (ps_ret (pe_cmpR (op_cmp .eq (hu_room hr)) (g_word (k := 4 * n + 5) T.d__law_word (by omega) hr rfl sc__law_word rfl (.inl rfl) (fun _ _ _ => w__law_word T) rfl TB hT hu (LamX.lamS_by (sc := defScope s__law_is_right) (by decide +kernel)) rfl (fun _ _ _ _ _ => rfl) (fun A outer s H E f c hr => (g_makex px_lam C.c_Sale hr (by omega) rfl (pa_cons (pv 10) (pa_cons (g_call C.c__law_some hr (by omega) rfl (pa_cons (pv 0) (pa_cons (pe_lst (pa_cons (pv 2) (pa_cons pe_non pa_nil))) pa_nil))) pa_nil))))) (pe_tupN (pa_cons pe_str (pa_cons pe_str pa_nil))) (by first | exact nomark _ | rfl))) pss_nil)))))))))
theorem b__law_bid {n : Nat} (T : Txt P mg) (C : All P prog w mg base n) {f : Addr} {cdv : Value} {A : Around} {outer : List PySem.Env} {s : Shared} {H : Hp} {E : XK} (hr : Rm (4 * n + 7) (A.deeper (envOfC "_law_bid" (defScope s__law_bid) s.heap.objs.size f cdv))) :
    PSs (cxOf (L2.CX prog w) prog w P.K mg base N__law_bid "_law_bid" (defScope s__law_bid) f cdv A outer s H E) (defBody s__law_bid) (tSs P (spec P (phi Gm tab n)) F__law_bid.body E) :=
  (pss_cons (ps_set (i := 3) nd__law_bid rfl (Or.inr rfl) (pe_lst (pa_cons pe_int pa_nil))) (pss_cons (ps_for po_cx rfl (pi_range2 rfl T.z_range (pa_cons pe_int (pa_cons (pe_op (op_bin .pow) pe_int pe_int) pa_nil))) (pg_name (i := 4) nd__law_bid rfl (Or.inr rfl)) (pss_cons (ps_if (pt_cmpR (op_cmp .lt (hu_room hr)) (pv 4) (PE.or (pe_ix ix_seq (pe_lst (pa_cons pe_int (pa_cons pe_int (pa_cons pe_int (pa_cons pe_int pa_nil))))) (pv 1) (fun _ _ => rfl)) (pe_dget (hu_one hr) (pe_lst (pa_cons pe_int (pa_cons pe_int (pa_cons pe_int (pa_cons pe_int pa_nil))))) (pv 1) (fun _ _ => rfl))) (by first | exact nomark _ | rfl)) (pss_cons (ps_setLc (i := 5) (own := [("one", 6)]) rfl nd__law_bid rfl rfl (sw_true rfl rfl rfl (by decide +kernel)) (pi_any (pe_tupN (pa_cons pe_int (pa_cons pe_int (pa_cons pe_int pa_nil))))) (blkOk_by (own := [("one", 6)]) (N := N__law_bid) (sc := (defScope (top 26))) (scope := (⟨.function, [(".0", .local), ("one", .local), ("int", .globalImplicit), ("found", .free), ("lot", .free)], false, false, []⟩ : PySem.Scope)) (by decide +kernel)) (fun _ _ _ _ _ => (pg_name (i := 6) nd__law_bid rfl (Or.inl rfl))) (fun _ _ _ _ _ => (pts_one (pt_cmpR (op_cmp .eq (hu_room hr)) (pe_op (op_bin .mod) (pe_callTy call_int1 rfl T.z_int b_int (pa_cons (pe_op (op_bin .fdiv) (pv 4) (pv 6)) pa_nil)) pe_int) pe_int (by first | exact nomark _ | rfl)))) (fun _ _ _ _ _ => (PE.or (pe_ix ix_seq (pv 3) (pe_op (op_bin .sub) (pv 4) (pv 6)) (fun _ _ => rfl)) (pe_dget (hu_one hr) (pv 3) (pe_op (op_bin .sub) (pv 4) (pv 6)) (fun _ _ => rfl))))) (pss_cons (ps_expr (pe_bm PySem.F.plainAttrs_list PySem.F.slot_list_append PySem.F.type_list_append mt_append (pv 3) (pa_cons (pe_op (op_bin .add) (pe_callB (cr_max2 rfl (hu_room hr)) rfl T.z_max b_max (pa_cons (pv 5) pa_nil)) (g_call C.c__law_some hr (by omega) rfl (pa_cons (pv 0) (pa_cons (pe_lst (pa_cons pe_int (pa_cons pe_int (pa_cons (g_call C.c__law_draw hr (by omega) rfl (pa_cons (pv 0) (pa_cons (pe_op (op_bin .add) (pv 2) pe_int) pa_nil))) pa_nil)))) pa_nil)))) pa_nil))) pss_nil)) pss_nil) pss_nil)) (pss_cons (ps_ret (pe_callTy call_tupleN rfl T.z_tuple b_tuple (pa_cons (pv 3) pa_nil))) pss_nil)))
theorem b__law_single_bid {n : Nat} (T : Txt P mg) (C : All P prog w mg base n) {f : Addr} {cdv : Value} {A : Around} {outer : List PySem.Env} {s : Shared} {H : Hp} {E : XK} (hr : Rm (4 * n + 7) (A.deeper (envOfC "_law_single_bid" (defScope s__law_single_bid) s.heap.objs.size f cdv))) :
    PSs (cxOf (L2.CX prog w) prog w P.K mg base N__law_single_bid "_law_single_bid" (defScope s__law_single_bid) f cdv A outer s H E) (defBody s__law_single_bid) (tSs P (spec P (phi Gm tab n)) F__law_single_bid.body E) :=
  (pss_cons (ps_set (i := 3) nd__law_single_bid rfl (Or.inr rfl) (pe_lc (own := [("one", 6)]) rfl nd__law_single_bid (pi_range1 rfl T.z_range (pa_cons (pv 1) pa_nil)) (blkOk_by (own := [("one", 6)]) (N := N__law_single_bid) (sc := (defScope (top 27))) (scope := (⟨.function, [(".0", .local), ("one", .local), ("_law_draw", .globalImplicit), ("hand", .free), ("most", .free)], false, false, []⟩ : PySem.Scope)) (by decide +kernel)) (fun _ _ _ _ _ => (pg_name (i := 6) nd__law_single_bid rfl (Or.inl rfl))) (fun _ _ _ _ _ => pts_nil) (fun _ _ _ _ _ => (g_call C.c__law_draw hr (by omega) rfl (pa_cons (pv 0) (pa_cons (pe_op (op_bin .add) (pv 2) pe_int) pa_nil)))))) (pss_cons (ps_set (i := 4) nd__law_single_bid rfl (Or.inl rfl) (pe_lst (pa_cons pe_int pa_nil))) (pss_cons (ps_for po_cx rfl (pi_range2 rfl T.z_range (pa_cons pe_int (pa_cons (PE.or (pe_ix ix_seq (pe_lst (pa_cons pe_int (pa_cons pe_int (pa_cons pe_int (pa_cons pe_int pa_nil))))) (pv 1) (fun _ _ => rfl)) (pe_dget (hu_one hr) (pe_lst (pa_cons pe_int (pa_cons pe_int (pa_cons pe_int (pa_cons pe_int pa_nil))))) (pv 1) (fun _ _ => rfl))) pa_nil))) (pg_name (i := 5) nd__law_single_bid rfl (Or.inr rfl)) (pss_cons (ps_expr (pe_bm PySem.F.plainAttrs_list PySem.F.slot_list_append PySem.F.type_list_append mt_append (pv 4) (pa_cons (pe_callB (cr_max2 rfl (hu_room hr)) rfl T.z_max b_max (pa_cons (pe_lc (own := [("one", 6)]) rfl nd__law_single_bid (pi_range1 rfl T.z_range (pa_cons (pv 1) pa_nil)) (blkOk_by (own := [("one", 6)]) (N := N__law_single_bid) (sc := (defScope (top 27))) (scope := (⟨.function, [(".0", .local), ("one", .local), ("int", .globalImplicit), ("lot", .free), ("worths", .free)], false, false, []⟩ : PySem.Scope)) (by decide +kernel)) (fun _ _ _ _ _ => (pg_name (i := 6) nd__law_single_bid rfl (Or.inl rfl))) (fun _ _ _ _ _ => (pts_one (pt_cmpR (op_cmp .eq (hu_room hr)) (pe_op (op_bin .mod) (pe_callTy call_int1 rfl T.z_int b_int (pa_cons (pe_op (op_bin .fdiv) (pv 5) (PE.or (pe_ix ix_seq (pe_lst (pa_cons pe_int (pa_cons pe_int (pa_cons pe_int pa_nil)))) (pv 6) (fun _ _ => rfl)) (pe_dget (hu_one hr) (pe_lst (pa_cons pe_int (pa_cons pe_int (pa_cons pe_int pa_nil)))) (pv 6) (fun _ _ => rfl)))) pa_nil)) pe_int) pe_int (by first | exact nomark _ | rfl)))) (fun _ _ _ _ _ => (PE.or (pe_ix ix_seq (pv 3) (pv 6) (fun _ _ => rfl)) (pe_dget (hu_one hr) (pv 3) (pv 6) (fun _ _ => rfl))))) pa_nil)) pa_nil))) pss_nil)) (pss_cons (ps_ret (pe_callTy call_tupleN rfl T.z_tuple b_tuple (pa_cons (pv 4) pa_nil))) pss_nil))))
theorem b__law_bids {n : Nat} (T : Txt P mg) (C : All P prog w mg base n) {f : Addr} {cdv : Value} {A : Around} {outer : List PySem.Env} {s : Shared} {H : Hp} {E : XK} (hr : Rm (4 * n + 7) (A.deeper (envOfC "_law_bids" (defScope s__law_bids) s.heap.objs.size f cdv))) :
    PSs (cxOf (L2.CX prog w) prog w P.K mg base N__law_bids "_law_bids" (defScope s__law_bids) f cdv A outer s H E) (defBody s__law_bids) (tSs P (spec P (phi Gm tab n)) F__law_bids.body E) :=
  (pss_cons (ps_set (i := 2) nd__law_bids rfl (Or.inr rfl) (g_call C.c__law_some hr (by omega) rfl (pa_cons (pv 0) (pa_cons (pe_lst (pa_cons pe_int (pa_cons pe_int (pa_cons pe_int (pa_cons (pe_op (op_bin .pow) pe_int pe_int) pa_nil))))) pa_nil)))) (pss_cons (ps_setLc (i := 3) (own := [("turn", 7)]) rfl nd__law_bids rfl rfl (sw_true rfl rfl rfl (by decide +kernel)) (pi_range1 rfl T.z_range (pa_cons (pe_op (op_bin .add) pe_int (g_call C.c__law_draw hr (by omega) rfl (pa_cons (pv 0) (pa_cons pe_int pa_nil)))) pa_nil)) (blkOk_by (own := [("turn", 7)]) (N := N__law_bids) (sc := (defScope (top 32))) (scope := (⟨.function, [(".0", .local), ("turn", .local), ("_law_bid", .globalImplicit), ("hand", .free), ("most", .free), ("things", .free)], false, false, []⟩ : PySem.Scope)) (by decide +kernel)) (fun _ _ _ _ _ => (pg_name (i := 7) nd__law_bids rfl (Or.inl rfl))) (fun _ _ _ _ _ => pts_nil) (fun _ _ _ _ _ => (g_call C.c__law_bid hr (by omega) rfl (pa_cons (pv 0) (pa_cons (pv 1) (pa_cons (pv 2) pa_nil)))))) (pss_cons (ps_set (i := 4) nd__law_bids rfl (Or.inl rfl) (g_call C.c__law_draw hr (by omega) rfl (pa_cons (pv 0) (pa_cons (pe_callB cr_lenA rfl T.z_len b_len (pa_cons (pv 3) pa_nil)) pa_nil)))) (pss_cons (ps_set (i := 5) nd__law_bids rfl (Or.inl rfl) (pe_lst (pa_cons (PE.or (pe_ix ix_seq (pv 3) (pv 4) (fun _ _ => rfl)) (pe_dget (hu_one hr) (pv 3) (pv 4) (fun _ _ => rfl))) (pa_cons (g_call C.c__law_some hr (by omega) rfl (pa_cons (pv 0) (pa_cons (pv 3) pa_nil))) (pa_cons (g_call C.c__law_single_bid hr (by omega) rfl (pa_cons (pv 0) (pa_cons (pv 1) (pa_cons (pv 2) pa_nil)))) (pa_cons (pe_op (op_bin .mul) (pe_tupN (pa_cons pe_int pa_nil)) (pe_callB cr_lenA rfl T.z_len b_len (pa_cons (PE.or (pe_ix ix_seq (pv 3) pe_int (fun _ _ => rfl)) (pe_dget (hu_one hr) (pv 3) pe_int (fun _ _ => rfl))) pa_nil))) pa_nil)))))) (pss_cons (ps_set (i := 6) nd__law_bids rfl (Or.inl rfl) (g_call C.c__law_some hr (by omega) rfl (pa_cons (pv 0) (pa_cons (pv 5) pa_nil)))) (pss_cons (ps_ret (pe_callTy call_tupleN rfl T.z_tuple b_tuple (pa_cons (pe_op (op_bin .add) (pe_op (op_bin .add) (pe_slice sl_any (pv 3) po_none (po_some (pv 4))) (pe_lst (pa_cons (pv 6) pa_nil))) (pe_slice sl_any (pv 3) (po_some (pe_op (op_bin .add) (pv 4) pe_int)) po_none)) pa_nil))) pss_nil))))))
theorem b_law {n : Nat} (T : Txt P mg) (C : All P prog w mg base n) {f : Addr} {cdv : Value} {A : Around} {outer : List PySem.Env} {s : Shared} {H : Hp} {E : XK} (hr : Rm (4 * n + 7) (A.deeper (envOfC "law" (defScope s_law) s.heap.objs.size f cdv))) :
    PSs (cxOf (L2.CX prog w) prog w P.K mg base N_law "law" (defScope s_law) f cdv A outer s H E) (defBody s_law) (tSs P (spec P (phi Gm tab n)) F_law.body E) :=
  (pss_cons (ps_set (i := 1) nd_law rfl (Or.inl rfl) (g_call C.c__law_hand hr (by omega) rfl (pa_cons (pv 0) pa_nil))) (pss_cons (ps_set (i := 2) nd_law rfl (Or.inl rfl) (g_makex px_cx C.c_Sale hr (by omega) rfl (pa_cons pe_int (pa_cons (pe_tupN (pa_cons (pe_tupN (pa_cons pe_int (pa_cons pe_int (pa_cons pe_int (pa_cons pe_int pa_nil))))) (pa_cons (pe_tupN (pa_cons pe_int (pa_cons pe_int (pa_cons pe_int (pa_cons pe_int pa_nil))))) (pa_cons (pe_tupN (pa_cons pe_int (pa_cons pe_int (pa_cons pe_int (pa_cons pe_int pa_nil))))) pa_nil)))) pa_nil)))) (pss_cons (ps_if (pt_not (pt_val (g_call C.c__law_is hr (by omega) rfl (pa_cons (g_call C.c_dealt hr (by omega) rfl (pa_cons (pv 2) pa_nil)) (pa_cons (pe_tupN (pa_cons pe_int (pa_cons (pe_tupN (pa_cons (pe_tupN (pa_cons pe_int pa_nil)) (pa_cons (pe_tupN pa_nil) (pa_cons (pe_tupN (pa_cons pe_int pa_nil)) pa_nil)))) pa_nil))) pa_nil))))) (pss_cons (ps_ret pe_bl) pss_nil) pss_nil) (pss_cons (ps_if (pt_not (pt_val (g_call C.c__law_is hr (by omega) rfl (pa_cons (g_call C.c_dealt hr (by omega) rfl (pa_cons (g_makex px_cx C.c_Sale hr (by omega) rfl (pa_cons pe_int (pa_cons (pe_tupN (pa_cons (pe_tupN (pa_cons pe_int (pa_cons pe_int pa_nil))) (pa_cons (pe_tupN (pa_cons pe_int (pa_cons pe_int pa_nil))) pa_nil))) pa_nil))) pa_nil)) (pa_cons (pe_tupN (pa_cons pe_int (pa_cons (pe_tupN (pa_cons (pe_tupN pa_nil) (pa_cons (pe_tupN (pa_cons pe_int pa_nil)) pa_nil))) pa_nil))) pa_nil))))) (pss_cons (ps_ret pe_bl) pss_nil) pss_nil) (pss_cons (ps_for po_cx rfl (pi_range1 rfl T.z_range (pa_cons pe_int pa_nil)) (pg_name (i := 3) nd_law rfl (Or.inl rfl)) (pss_cons (ps_set (i := 4) nd_law rfl (Or.inl rfl) (pe_op (op_bin .add) pe_int (g_call C.c__law_draw hr (by omega) rfl (pa_cons (pv 1) (pa_cons pe_int pa_nil))))) (pss_cons (ps_if (pt_not (pt_val (g_callx px_cx C.c__law_is_right hr (by omega) rfl (pa_cons (pv 1) (pa_cons (pv 4) (pa_cons (g_call C.c__law_bids hr (by omega) rfl (pa_cons (pv 1) (pa_cons (pv 4) pa_nil))) pa_nil)))))) (pss_cons (ps_ret pe_bl) pss_nil) pss_nil) pss_nil))) (pss_cons (ps_ret pe_bl) pss_nil))))))
theorem all (T : Txt P mg) (M : Lms P mg base) : ∀ n, All P prog w mg base n
  | 0 => { c__law_hand := cal0 T.d__law_hand, c_is_integer := cal0 T.d_is_integer, c_is_within := cal0 T.d_is_within, c_is_sized := cal0 T.d_is_sized, c_lots_of := cal0 T.d_lots_of, c_is_tuple := cal0 T.d_is_tuple, c_is_number := cal0 T.d_is_number, c_are_worths := cal0 T.d_are_worths, c_Sale := mak0 T.d_Sale, c__law_is := cal0 T.d__law_is, c_all_tuples := cal0 T.d_all_tuples, c_lot_number := cal0 T.d_lot_number, c_all_deals := cal0 T.d_all_deals, c_worth_of := cal0 T.d_worth_of, c_best_deal := cal0 T.d_best_deal, c_dealt := cal0 T.d_dealt, c__law_draw := cal0 T.d__law_draw, c_Sale___eq__ := eq0 T.d_Sale___eq__, c__law_lots := cal0 T.d__law_lots, c__law_best := cal0 T.d__law_best, c__law_of := cal0 T.d__law_of, c__law_some := cal0 T.d__law_some, c__law_bent := cal0 T.d__law_bent, c__law_are_bids := cal0 T.d__law_are_bids, c__law_is_right := cal0 T.d__law_is_right, c__law_bid := cal0 T.d__law_bid, c__law_single_bid := cal0 T.d__law_single_bid, c__law_bids := cal0 T.d__law_bids, c_law := cal0 T.d_law, x_BadSale := xm_BadSale T }
  | n + 1 => { c__law_hand := cal_step (ok T) lo rfl rfl sc__law_hand rfl rfl rfl T.d__law_hand fun _ _ _ _ _ _ _ hr => b__law_hand T (all T M n) hr, c_is_integer := cal_step (ok T) lo rfl rfl sc_is_integer rfl rfl rfl T.d_is_integer fun _ _ _ _ _ _ _ hr => b_is_integer T (all T M n) hr, c_is_within := cal_step (ok T) lo rfl rfl sc_is_within rfl rfl rfl T.d_is_within fun _ _ _ _ _ _ _ hr => b_is_within T (all T M n) hr, c_is_sized := cal_step (ok T) lo rfl rfl sc_is_sized rfl rfl rfl T.d_is_sized fun _ _ _ _ _ _ _ hr => b_is_sized T (all T M n) hr, c_lots_of := cal_step (ok T) lo rfl rfl sc_lots_of rfl rfl rfl T.d_lots_of fun _ _ _ _ _ _ _ hr => b_lots_of T (all T M n) hr, c_is_tuple := cal_step (ok T) lo rfl rfl sc_is_tuple rfl rfl rfl T.d_is_tuple fun _ _ _ _ _ _ _ hr => b_is_tuple T (all T M n) hr, c_is_number := cal_step (ok T) lo rfl rfl sc_is_number rfl rfl rfl T.d_is_number fun _ _ _ _ _ _ _ hr => b_is_number T (all T M n) hr, c_are_worths := cal_step (ok T) lo rfl rfl sc_are_worths rfl rfl rfl T.d_are_worths fun _ _ _ _ _ _ _ hr => b_are_worths T (all T M n) hr, c_Sale := mak_step (ok T) lo rfl rfl sc_Sale rfl rfl rfl T.d_Sale fun _ _ _ _ _ _ _ hr => b_Sale T (all T M n) hr, c__law_is := cal_step (ok T) lo rfl rfl sc__law_is rfl rfl rfl T.d__law_is fun _ _ _ _ _ _ _ hr => b__law_is T (all T M n) hr, c_all_tuples := cal_step (ok T) lo rfl rfl sc_all_tuples rfl rfl rfl T.d_all_tuples fun _ _ _ _ _ _ _ hr => b_all_tuples T (all T M n) hr, c_lot_number := cal_step (ok T) lo rfl rfl sc_lot_number rfl rfl rfl T.d_lot_number fun _ _ _ _ _ _ _ hr => b_lot_number T (all T M n) hr, c_all_deals := cal_step (ok T) lo rfl rfl sc_all_deals rfl rfl rfl T.d_all_deals fun _ _ _ _ _ _ _ hr => b_all_deals T (all T M n) hr, c_worth_of := cal_step (ok T) lo rfl rfl sc_worth_of rfl rfl rfl T.d_worth_of fun _ _ _ _ _ _ _ hr => b_worth_of T (all T M n) hr, c_best_deal := cal_step (ok T) lo rfl rfl sc_best_deal rfl rfl rfl T.d_best_deal fun _ _ _ _ _ _ _ hr => b_best_deal T (all T M n) hr, c_dealt := cal_step (ok T) lo rfl rfl sc_dealt rfl rfl rfl T.d_dealt fun _ _ _ _ _ _ _ hr => b_dealt T (all T M n) hr, c__law_draw := cal_step (ok T) lo rfl rfl sc__law_draw rfl rfl rfl T.d__law_draw fun _ _ _ _ _ _ _ hr => b__law_draw T (all T M n) hr, c_Sale___eq__ := eq_step (ok T) lo rfl rfl sc_Sale___eq__ rfl rfl rfl T.d_Sale___eq__ fun _ _ _ _ _ _ _ hr => b_Sale___eq__ T (all T M n) hr, c__law_lots := cal_step (ok T) lo rfl rfl sc__law_lots rfl rfl rfl T.d__law_lots fun _ _ _ _ _ _ _ hr => b__law_lots T (all T M n) hr, c__law_best := cal_step (ok T) lo rfl rfl sc__law_best rfl rfl rfl T.d__law_best fun _ _ _ _ _ _ _ hr => b__law_best T (all T M n) hr, c__law_of := cal_step (ok T) lo rfl rfl sc__law_of rfl rfl rfl T.d__law_of fun _ _ _ _ _ _ _ hr => b__law_of T (all T M n) hr, c__law_some := cal_step (ok T) lo rfl rfl sc__law_some rfl rfl rfl T.d__law_some fun _ _ _ _ _ _ _ hr => b__law_some T (all T M n) hr, c__law_bent := cal_step (ok T) lo rfl rfl sc__law_bent rfl rfl rfl T.d__law_bent fun _ _ _ _ _ _ _ hr => b__law_bent T (all T M n) hr, c__law_are_bids := cal_step (ok T) lo rfl rfl sc__law_are_bids rfl rfl rfl T.d__law_are_bids fun _ _ _ _ _ _ _ hr => b__law_are_bids T (all T M n) hr, c__law_is_right := cal_stepL (ok T) lo rfl rfl sc__law_is_right rfl rfl rfl M.l__law_is_right fun _ _ _ _ _ _ _ _ tb h1 h2 hr => b__law_is_right T (all T M n) tb h1 h2 hr, c__law_bid := cal_step (ok T) lo rfl rfl sc__law_bid rfl rfl rfl T.d__law_bid fun _ _ _ _ _ _ _ hr => b__law_bid T (all T M n) hr, c__law_single_bid := cal_step (ok T) lo rfl rfl sc__law_single_bid rfl rfl rfl T.d__law_single_bid fun _ _ _ _ _ _ _ hr => b__law_single_bid T (all T M n) hr, c__law_bids := cal_step (ok T) lo rfl rfl sc__law_bids rfl rfl rfl T.d__law_bids fun _ _ _ _ _ _ _ hr => b__law_bids T (all T M n) hr, c_law := cal_step (ok T) lo rfl rfl sc_law rfl rfl rfl T.d_law fun _ _ _ _ _ _ _ hr => b_law T (all T M n) hr, x_BadSale := xm_BadSale T }
end
end K70
set_option Elab.async false
set_option linter.all false
set_option maxRecDepth 100000
set_option maxHeartbeats 4000000
namespace Bal
open PySem Mi
/-- 0: slots script=0 cells=1 cell=2, owned [] -/
abbrev F__law_hand : Fn := ⟨1, 3, [false], (.cons (.asg (.var 1) (.comp [2] (.var 2) (.seq (.sl (.var 0) .none (.some (.cint 63)))) .yes (.callb .abs (.cons (.callb .int (.cons (.var 2) .nil)) .nil)))) (.cons (.ret (.lst (.cons (.var 1) (.cons (.cint 0) (.cons (.cint 0) (.cons (.bin .add (.cint 173) (.callb .len (.cons (.var 1) .nil))) (.cons (.cint 0) .nil))))))) .nil))⟩
/-- 1: slots hand=0 limit=1 cell=2 digit=3 number=4, owned ['hand'] -/
abbrev F__law_draw : Fn := ⟨2, 5, [true, false], (.cons (.ite (.and (.val (.cmp .eq (.idx (.var 0) (.cint 2)) (.cint 0))) (.val (.cmp .lt (.idx (.var 0) (.cint 1)) (.callb .len (.cons (.idx (.var 0) (.cint 0)) .nil))))) (.cons (.asg (.var 2) (.idx (.idx (.var 0) (.cint 0)) (.idx (.var 0) (.cint 1)))) (.cons (.setix 0 (.cint 1) (.bin .add (.idx (.var 0) (.cint 1)) (.cint 1))) (.cons (.setix 0 (.cint 3) (.bin .mod (.callb .int (.cons (.bin .add (.bin .add (.bin .mul (.idx (.var 0) (.cint 3)) (.cint 69621)) (.var 2)) (.cint 257)) .nil)) (.cint 2147483629))) (.cons (.ite (.val (.cmp .ge (.var 2) (.bin .pow (.cint 10) (.cint 18)))) (.cons (.setix 0 (.cint 2) (.var 2)) .nil) .nil) .nil)))) .nil) (.cons (.ite (.val (.cmp .gt (.idx (.var 0) (.cint 2)) (.cint 0))) (.cons (.asg (.var 3) (.bin .mod (.callb .int (.cons (.idx (.var 0) (.cint 2)) .nil)) (.var 1))) (.cons (.setix 0 (.cint 2) (.bin .fdiv (.idx (.var 0) (.cint 2)) (.var 1))) (.cons (.ret (.var 3)) .nil))) .nil) (.cons (.setix 0 (.cint 4) (.bin .add (.idx (.var 0) (.cint 4)) (.cint 1))) (.cons (.asg (.var 4) (.bin .mod (.callb .int (.cons (.bin .mul (.callb .int (.cons (.bin .add (.idx (.var 0) (.cint 3)) (.bin .mul (.cint 7919) (.idx (.var 0) (.cint 4)))) .nil)) (.cint 48271)) .nil)) (.cint 2147483647))) (.cons (.asg (.var 4) (.bin .mod (.callb .int (.cons (.bin .mul (.var 4) (.bin .add (.bin .fdiv (.var 4) (.cint 1009)) (.cint 69621))) .nil)) (.cint 2147483647))) (.cons (.asg (.var 4) (.bin .mod (.callb .int (.cons (.bin .mul (.var 4) (.bin .add (.bin .fdiv (.var 4) (.cint 2003)) (.cint 40692))) .nil)) (.cint 2147483399))) (.cons (.ret (.bin .mod (.callb .int (.cons (.bin .fdiv (.var 4) (.cint 16)) .nil)) (.var 1))) .nil)))))))⟩
/-- 2: slots hand=0 items=1, owned ['hand'] -/
abbrev F__law_some : Fn := ⟨2, 2, [true, false], (.cons (.ret (.idx (.var 1) (.call 1 (.cons (.var 0) (.cons (.callb .len (.cons (.var 1) .nil)) .nil))))) .nil)⟩
/-- 3: slots hand=0 things=1 remain=2 found=3, owned ['found', 'hand', 'remain'] -/
abbrev F__law_mixed : Fn := ⟨2, 4, [true, false], (.cons (.par true [(2, true), (3, true)] (.cons (.callb .list (.cons (.var 1) .nil)) (.cons (.lst .nil) .nil))) (.cons (.whil (.val (.cmp .gt (.callb .len (.cons (.var 2) .nil)) (.cint 0))) (.cons (.expr (.mut .append 3 (.cons (.mut .pop 2 (.cons (.call 1 (.cons (.var 0) (.cons (.callb .len (.cons (.var 2) .nil)) .nil))) .nil)) .nil))) .nil)) (.cons (.ret (.var 3)) .nil)))⟩
/-- 4: slots thing=0 due=1 one=2 other=3, owned [] -/
abbrev F__law_is : Fn := ⟨2, 4, [false, false], (.cons (.ite (.or (.val (.callb .isi (.cons (.var 1) (.cons (.cty "tuple") .nil)))) (.val (.callb .isi (.cons (.var 1) (.cons (.cty "list") .nil))))) (.cons (.ite (.or (.val (.cmp .ne (.callb .isi (.cons (.var 1) (.cons (.cty "tuple") .nil))) (.callb .isi (.cons (.var 0) (.cons (.cty "tuple") .nil))))) (.val (.cmp .ne (.callb .isi (.cons (.var 1) (.cons (.cty "list") .nil))) (.callb .isi (.cons (.var 0) (.cons (.cty "list") .nil)))))) (.cons (.ret (.cbl false)) .nil) .nil) (.cons (.ret (.andv (.cmp .eq (.callb .len (.cons (.var 0) .nil)) (.callb .len (.cons (.var 1) .nil))) (.callb .all (.cons (.comp [2, 3] (.cons (.var 2) (.cons (.var 3) .nil)) (.zip (.var 0) (.var 1)) .yes (.call 4 (.cons (.var 2) (.cons (.var 3) .nil)))) .nil)))) .nil)) .nil) (.cons (.ite (.or (.val (.cmp .iss (.var 1) .cnon)) (.val (.cmp .iss (.var 0) .cnon))) (.cons (.ret (.andv (.cmp .iss (.var 1) .cnon) (.cmp .iss (.var 0) .cnon))) .nil) .nil) (.cons (.ite (.or (.val (.callb .isi (.cons (.var 1) (.cons (.cty "bool") .nil)))) (.val (.callb .isi (.cons (.var 0) (.cons (.cty "bool") .nil))))) (.cons (.ret (.andv (.callb .isi (.cons (.var 1) (.cons (.cty "bool") .nil))) (.andv (.callb .isi (.cons (.var 0) (.cons (.cty "bool") .nil))) (.cmp .eq (.var 0) (.var 1))))) .nil) .nil) (.cons (.ite (.or (.val (.callb .isi (.cons (.var 1) (.cons (.cty "str") .nil)))) (.val (.callb .isi (.cons (.var 0) (.cons (.cty "str") .nil))))) (.cons (.ret (.andv (.callb .isi (.cons (.var 1) (.cons (.cty "str") .nil))) (.andv (.callb .isi (.cons (.var 0) (.cons (.cty "str") .nil))) (.cmp .eq (.var 0) (.var 1))))) .nil) .nil) (.cons (.ret (.andv (.callb .isi (.cons (.var 0) (.cons (.cty "int") .nil))) (.cmp .eq (.var 0) (.var 1)))) .nil)))))⟩
/-- 5: slots thing=0, owned [] -/
abbrev F_is_integer : Fn := ⟨1, 1, [false], (.cons (.ret (.andv (.callb .isi (.cons (.var 0) (.cons (.cty "int") .nil))) (.notv (.callb .isi (.cons (.var 0) (.cons (.cty "bool") .nil)))))) .nil)⟩
/-- 6: slots thing=0 least=1 most=2, owned [] -/
abbrev F_is_within : Fn := ⟨3, 3, [false, false, false], (.cons (.ret (.andv (.call 5 (.cons (.var 0) .nil)) (.chain .le .le (.var 1) (.var 0) (.var 2)))) .nil)⟩
/-- 7: slots thing=0 least=1 most=2, owned [] -/
abbrev F_is_sized : Fn := ⟨3, 3, [false, false, false], (.cons (.ret (.andv (.callb .isi (.cons (.var 0) (.cons (.cty "tuple") .nil))) (.chain .le .le (.var 1) (.callb .len (.cons (.var 0) .nil)) (.var 2)))) .nil)⟩
/-- 8: slots thing=0 size=1, owned [] -/
abbrev F_is_tuple : Fn := ⟨2, 2, [false, false], (.cons (.ret (.andv (.callb .isi (.cons (.var 0) (.cons (.cty "tuple") .nil))) (.cmp .eq (.callb .len (.cons (.var 0) .nil)) (.var 1)))) .nil)⟩
/-- 9: slots thing=0 many=1 one=2, owned [] -/
abbrev F_is_order : Fn := ⟨2, 3, [false, false], (.cons (.ite (.or (.not (.val (.call 8 (.cons (.var 0) (.cons (.var 1) .nil))))) (.not (.val (.callb .all (.cons (.comp [2] (.var 2) (.seq (.var 0)) .yes (.call 6 (.cons (.var 2) (.cons (.cint 0) (.cons (.bin .sub (.var 1) (.cint 1)) .nil))))) .nil))))) (.cons (.ret (.cbl false)) .nil) .nil) (.cons (.ret (.cmp .eq (.callb .lenset (.cons (.var 0) .nil)) (.var 1))) .nil))⟩
/-- 10: slots self=0 many=1 rows=2 row=3, owned ['self'] -/
abbrev F_BallotsN (nv : Ss) : Fn := ⟨3, 4, [true, false, false], (.cons (.ite (.or (.not (.val (.call 6 (.cons (.var 1) (.cons (.cint 1) (.cons (.glob 0) .nil)))))) (.not (.val (.call 7 (.cons (.var 2) (.cons (.cint 1) (.cons (.glob 1) .nil))))))) nv .nil) (.cons (.ite (.not (.val (.callb .all (.cons (.comp [3] (.var 3) (.seq (.var 2)) .yes (.andv (.call 8 (.cons (.var 3) (.cons (.cint 2) .nil))) (.andv (.call 6 (.cons (.idx (.var 3) (.cint 0)) (.cons (.cint 1) (.cons (.glob 2) .nil)))) (.call 9 (.cons (.idx (.var 3) (.cint 1)) (.cons (.var 1) .nil)))))) .nil)))) nv .nil) (.cons (.setat 0 "many" (.var 1)) (.cons (.setat 0 "rows" (.var 2)) .nil))))⟩
/-- 11: slots hand=0 most=1 many=2 kind=3 rows=4 turn=5 order=6, owned ['hand', 'rows'] -/
abbrev F__law_ballots : Fn := ⟨2, 7, [true, false], (.cons (.asg (.var 2) (.bin .add (.cint 1) (.call 1 (.cons (.var 0) (.cons (.var 1) .nil))))) (.cons (.par true [(3, false), (4, true)] (.cons (.call 1 (.cons (.var 0) (.cons (.cint 4) .nil))) (.cons (.lst .nil) .nil))) (.cons (.for_ (.var 5) (.range1 (.bin .add (.cint 1) (.call 1 (.cons (.var 0) (.cons (.cint 6) .nil))))) (.cons (.asg (.var 6) (.callb .tuple (.cons (.call 3 (.cons (.var 0) (.cons (.lrange (.cons (.var 2) .nil)) .nil))) .nil))) (.cons (.ite (.and (.val (.cmp .eq (.var 3) (.cint 0))) (.val (.cmp .gt (.callb .len (.cons (.var 4) .nil)) (.cint 0)))) (.cons (.asg (.var 6) (.ite (.val (.cmp .eq (.call 1 (.cons (.var 0) (.cons (.cint 2) .nil))) (.cint 0))) (.bin .add (.sl (.idx (.idx (.var 4) (.cint 0)) (.cint 1)) (.some (.cint 1)) .none) (.sl (.idx (.idx (.var 4) (.cint 0)) (.cint 1)) .none (.some (.cint 1)))) (.rev (.idx (.idx (.var 4) (.neg (.cint 1))) (.cint 1))))) .nil) .nil) (.cons (.expr (.mut .append 4 (.cons (.tup (.cons (.bin .add (.cint 1) (.call 1 (.cons (.var 0) (.cons (.call 2 (.cons (.var 0) (.cons (.lst (.cons (.cint 1) (.cons (.cint 4) (.cons (.cint 99) .nil)))) .nil))) .nil)))) (.cons (.var 6) .nil))) .nil))) .nil)))) (.cons (.ret (.tup (.cons (.var 2) (.cons (.callb .tuple (.cons (.var 4) .nil)) .nil)))) .nil))))⟩
/-- 37: slots many=0 found=1 one=2 lot=3, owned [] -/
abbrev F__law_lots : Fn := ⟨1, 4, [false], (.cons (.asg (.var 1) (.lst (.cons (.tup .nil) .nil))) (.cons (.for_ (.var 2) (.range1 (.var 0)) (.cons (.asg (.var 1) (.bin .add (.var 1) (.comp [3] (.var 3) (.seq (.var 1)) .yes (.bin .add (.var 3) (.tup (.cons (.var 2) .nil)))))) .nil)) (.cons (.ret (.var 1)) .nil)))⟩
/-- 43: slots thing=0, owned [] -/
abbrev F_is_number : Fn := ⟨1, 1, [false], (.cons (.ret (.andv (.call 5 (.cons (.var 0) .nil)) (.cmp .ge (.var 0) (.cint 0)))) .nil)⟩
/-- the def stands in the table -/
def Has (Gm : Cfg) (tab : Nat → Option Fn) (i : Nat) (F : Fn) : Prop := tab i = some F ∧ Gm.io i = some F.io
/-- what all laws of ballots have -/
structure BalS (Gm : Cfg) (tab : Nat → Option Fn) : Prop where
  hand : Has Gm tab 0 F__law_hand
  draw : Has Gm tab 1 F__law_draw
  pick : Has Gm tab 2 F__law_some
  mixed : Has Gm tab 3 F__law_mixed
  is : Has Gm tab 4 F__law_is
  isint : Has Gm tab 5 F_is_integer
  within : Has Gm tab 6 F_is_within
  sized : Has Gm tab 7 F_is_sized
  tuple : Has Gm tab 8 F_is_tuple
  order : Has Gm tab 9 F_is_order
  book : ∃ nv, Has Gm tab 10 (F_BallotsN nv)
  lballots : Has Gm tab 11 F__law_ballots
  flds : Gm.fields 10 = some (["many", "rows"] : List Str)
  g0 : Gm.glob 0 = some (.int 5)
  g1 : Gm.glob 1 = some (.int 12)
  g2 : Gm.glob 2 = some (.int 99)
  loop : Gm.loop = loopC
end Bal
set_option Elab.async false
set_option linter.all false
set_option maxRecDepth 100000
set_option maxHeartbeats 4000000
namespace Bal
open PySem Mi
section
variable {Gm : Cfg} {tab : Nat → Option Fn} (B : BalS Gm tab)
include B
def Hand (d : D) : Prop := ∃ (cs : List Int) (i : Nat) (v h c : Int), d = .lst [.lst (cs.map .int), .int i, .int v, .int h, .int c] ∧ i ≤ cs.length ∧ 0 ≤ v ∧ ∀ x ∈ cs, 0 ≤ x
/-- the part behind the taking of a cell -/
theorem draw_tail (n : Nat) {cs : List Int} {i : Nat} {v h c L : Int} {x3 : Option (Bool × D)} (h0 : 0 < L) (h1 : L < 1000) (hi : i ≤ cs.length) (hv : 0 ≤ v) (hcs : ∀ x ∈ cs, 0 ≤ x) :
    wB Gm (phi Gm tab n) [0] (match F__law_draw.body with | .cons _ r => r | b => b) [some (true, .lst [.lst (cs.map .int), .int i, .int v, .int h, .int c]), some (false, .int L), x3, none, none]
      (Fin [true, false] fun r o => ∃ d hd', r = .v (.int d) ∧ o = [hd'] ∧ 0 ≤ d ∧ d < L ∧ Hand hd') := by
  array_get_dec
  refine ⟨fun hc => ?_, fun hc => ?_⟩
  · array_get_dec
    refine ⟨_, _, _, rfl, rfl, b_mod h0, ?_⟩
    array_get_dec
    refine ⟨_, _, _, rfl, rfl, b_fdiv h0 (by omega), ?_⟩
    array_get_dec
    exact ⟨Int.emod_nonneg _ (by omega), Int.emod_lt_of_pos _ h0, cs, i, v / L, h, c, rfl, hi, Int.ediv_nonneg hv (by omega), hcs⟩
  · array_get_dec
    refine ⟨_, _, _, rfl, rfl, b_mulB (i := ((h + 7919 * (c + 1)) * 48271) % 2147483647) ⟨by omega, by omega⟩, ?_⟩
    array_get_dec
    refine ⟨_, _, _, rfl, rfl, b_mulB (i := (((h + 7919 * (c + 1)) * 48271) % 2147483647) * ((((h + 7919 * (c + 1)) * 48271) % 2147483647) / 1009 + 69621) % 2147483647) ⟨by omega, by omega⟩, ?_⟩
    array_get_dec
    refine ⟨_, _, _, rfl, rfl, b_mod h0, ?_⟩
    array_get_dec
    exact ⟨Int.emod_nonneg _ (by omega), Int.emod_lt_of_pos _ h0, cs, i, v, h, c + 1, rfl, hi, hv, hcs⟩
theorem draw_ok (n : Nat) {hd : D} (hh : Hand hd) {L : Int} (h0 : 0 < L) (h1 : L < 1000) : ∃ r o, phi Gm tab (n + 1) 1 [(true, hd), (false, .int L)] = some (r, o) ∧ ∃ d hd', r = .v (.int d) ∧ o = [hd'] ∧ 0 ≤ d ∧ d < L ∧ Hand hd' := by
  obtain ⟨cs, i, v, h, c, rfl, hi, hv, hcs⟩ := hh
  refine phi_ex B.draw.1 rfl ?_
  show wB Gm (phi Gm tab n) [0] F__law_draw.body [some (true, .lst [.lst (cs.map .int), .int i, .int v, .int h, .int c]), some (false, .int L), none, none, none] _
  refine w_cut ?_
  array_get_dec
  refine ⟨fun hv0 => ?_, fun hc => ?_⟩
  · array_get_dec
    refine ⟨fun hc => ?_, fun hc => ?_⟩
    · have hlt : i < cs.length := by
        have : (i : Int) < ((cs.map D.int).length : Nat) := of_decide_eq_true hc
        rw [List.length_map] at this
        omega
      array_get_dec
      refine ⟨_, _, _, rfl, rfl, idx_l (d := .int cs[i]) (by rw [List.getElem?_map, List.getElem?_eq_getElem hlt]; rfl), ?_⟩
      array_get_dec
      have hcell : 0 ≤ cs[i] := hcs _ (List.getElem_mem hlt)
      refine ⟨fun hc => ?_, fun hc => ?_⟩
      · array_get_dec
        exact ⟨draw_tail B n h0 h1 hlt hcell hcs⟩
      · array_get_dec
        exact ⟨draw_tail B n h0 h1 hlt hv hcs⟩
    · array_get_dec
      exact ⟨draw_tail B n h0 h1 hi hv hcs⟩
  · array_get_dec
    exact ⟨draw_tail B n h0 h1 hi hv hcs⟩
theorem hand_ok (n : Nat) (ns : List Int) : ∃ r o, phi Gm tab (n + 1) 0 [(false, .scr ns)] = some (r, o) ∧ ∃ hd, r = .o hd ∧ o = [] ∧ Hand hd := by
  refine phi_ex B.hand.1 rfl ?_
  show wB Gm (phi Gm tab n) [] F__law_hand.body [some (false, .scr ns), none, none] _
  array_get_dec
  refine w_compP rfl ?_
  array_get_dec
  refine ⟨fun it => match it with | .one (.int i) => some (.int (if i < 0 then -i else i)) | _ => none, fun it hit => ?_, ?_⟩
  · obtain ⟨d, hd, rfl⟩ := List.mem_map.mp hit
    obtain ⟨i, hi, rfl⟩ := List.mem_map.mp hd
    refine ⟨_, rfl, ?_⟩
    array_get_dec
    rfl
  · have e : ((cutI ns none (some 63)).map D.int |>.map Itm.one).filterMap (fun it => match it with | .one (.int i) => some (.int (if i < 0 then -i else i)) | _ => none) = ((cutI ns none (some 63)).map fun i => if i < 0 then -i else i).map D.int := by
      rw [List.map_map, List.map_map]
      exact fm_all fun x _ => rfl
    rw [e]
    array_get_dec
    refine ⟨rfl, _, 0, 0, _, 0, rfl, Nat.zero_le _, Int.le_refl _, fun x hx => ?_⟩
    obtain ⟨i, _, rfl⟩ := List.mem_map.mp hx
    split <;> omega
end
end Bal
set_option Elab.async false
set_option linter.all false
set_option maxRecDepth 100000
set_option maxHeartbeats 4000000
namespace Bal
open PySem Mi
section
variable {Gm : Cfg} {tab : Nat → Option Fn} (B : BalS Gm tab)
include B
abbrev nD (i : Nat) : D := .int (i : Int)
end
end Bal
set_option Elab.async false
set_option linter.all false
set_option maxRecDepth 100000
set_option maxHeartbeats 4000000
namespace Bal
open PySem Mi
section
variable {Gm : Cfg} {tab : Nat → Option Fn} (B : BalS Gm tab)
include B
omit B in
theorem fm_const {α β : Type} {c : β} : ∀ {l : List α}, l.filterMap (fun _ => some c) = l.map fun _ => c
  | [] => rfl
  | x :: r => by rw [List.filterMap_cons]; exact congrArg (c :: ·) fm_const
omit B in
theorem all_true {α : Type} (l : List α) : bltD .all [.lst (l.map fun _ => .bl true)] = some (.v (.bl true)) := by
  have h : blsD (l.map fun _ => D.bl true) = some (l.map fun _ => true) := by
    induction l with
    | nil => rfl
    | cons x r ih => show (blsD (r.map fun _ => D.bl true)).map _ = _; rw [ih]; rfl
  show (blsD _).map _ = _
  rw [h]
  show some (R.v (D.bl ((l.map fun _ => true).all id))) = _
  congr 3
  simp
omit B in
theorem zip_self {l : List D} {x : Itm} (h : x ∈ List.zipWith Itm.two l l) : ∃ a ∈ l, x = .two a a := by
  induction l with
  | nil => simp at h
  | cons a r ih =>
    rw [List.zipWith_cons_cons] at h
    rcases List.mem_cons.mp h with z | z
    · exact ⟨a, List.mem_cons_self, z⟩
    · obtain ⟨b, hb, e⟩ := ih z
      exact ⟨b, List.mem_cons_of_mem _ hb, e⟩
omit B in
theorem pls_mem : ∀ {l : List D} {a : D}, pls l = true → a ∈ l → pl a = true ∧ dpt a ≤ dpts l
  | d :: r, a, h, m => by
    unfold pls at h
    rw [Bool.and_eq_true] at h
    unfold dpts
    rcases List.mem_cons.mp m with z | z
    · subst z; exact ⟨h.1, Nat.le_max_left _ _⟩
    · exact ⟨(pls_mem h.2 z).1, Nat.le_trans (pls_mem h.2 z).2 (Nat.le_max_right _ _)⟩
theorem is_ok : ∀ (n : Nat) {d : D}, pl d = true → dpt d ≤ n → phi Gm tab (n + 1) 4 [(false, d), (false, d)] = some (.v (.bl true), []) := by
  intro n
  induction n with
  | zero =>
    intro d hd hn
    have key : ∃ r o, phi Gm tab (0 + 1) 4 [(false, d), (false, d)] = some (r, o) ∧ r = .v (.bl true) ∧ o = [] := by
      refine phi_ex B.is.1 rfl ?_
      show wB Gm (phi Gm tab 0) [] F__law_is.body [some (false, d), some (false, d), none, none] _
      cases d with
      | non => array_get_dec; exact ⟨rfl, rfl⟩
      | int i => array_get_dec; exact ⟨by simp, rfl⟩
      | tup l => unfold dpt at hn; omega
      | lst l => unfold dpt at hn; omega
      | _ => unfold pl at hd; cases hd
    obtain ⟨r, o, e, rfl, rfl⟩ := key
    exact e
  | succ n ih =>
    intro d hd hn
    have key : ∃ r o, phi Gm tab (n + 1 + 1) 4 [(false, d), (false, d)] = some (r, o) ∧ r = .v (.bl true) ∧ o = [] := by
      refine phi_ex B.is.1 rfl ?_
      show wB Gm (phi Gm tab (n + 1)) [] F__law_is.body [some (false, d), some (false, d), none, none] _
      cases d with
      | non => array_get_dec; exact ⟨rfl, rfl⟩
      | int i => array_get_dec; exact ⟨by simp, rfl⟩
      | tup l =>
        unfold pl at hd
        unfold dpt at hn
        array_get_dec
        refine ⟨fun _ => ?_, fun hc => by simp at hc⟩
        array_get_dec
        refine w_compP rfl ?_
        array_get_dec
        refine ⟨_, _, _, _, _, rfl, rfl, rfl, ?_⟩
        refine ⟨fun _ => some (.bl true), fun x hx => ?_, ?_⟩
        · obtain ⟨a, ha, rfl⟩ := zip_self hx
          obtain ⟨pa, da⟩ := pls_mem hd ha
          refine ⟨_, rfl, ?_⟩
          array_get_dec
          refine call_by B.is.2 rfl rfl (ih pa (by omega)) rfl ?_
          array_get_dec
          rfl
        · array_get_dec
          refine ⟨_, _, rfl, (by rw [fm_const]; exact all_true _), ?_⟩
          array_get_dec
          exact ⟨rfl, rfl⟩
      | lst l =>
        unfold pl at hd
        unfold dpt at hn
        array_get_dec
        refine ⟨fun _ => ?_, fun hc => by simp at hc⟩
        array_get_dec
        refine w_compP rfl ?_
        array_get_dec
        refine ⟨_, _, _, _, _, rfl, rfl, rfl, ?_⟩
        refine ⟨fun _ => some (.bl true), fun x hx => ?_, ?_⟩
        · obtain ⟨a, ha, rfl⟩ := zip_self hx
          obtain ⟨pa, da⟩ := pls_mem hd ha
          refine ⟨_, rfl, ?_⟩
          array_get_dec
          refine call_by B.is.2 rfl rfl (ih pa (by omega)) rfl ?_
          array_get_dec
          rfl
        · array_get_dec
          refine ⟨_, _, rfl, (by rw [fm_const]; exact all_true _), ?_⟩
          array_get_dec
          exact ⟨rfl, rfl⟩
      | _ => unfold pl at hd; cases hd
    obtain ⟨r, o, e, rfl, rfl⟩ := key
    exact e
omit B in
theorem of_ex {Φ : Option (R × List D)} {r0 : R} {o0 : List D} (h : ∃ r o, Φ = some (r, o) ∧ r = r0 ∧ o = o0) : Φ = some (r0, o0) := by
  obtain ⟨r, o, e, rfl, rfl⟩ := h
  exact e
end
end Bal
set_option Elab.async false
set_option linter.all false
set_option maxRecDepth 100000
set_option maxHeartbeats 4000000
namespace Bal
open PySem Mi
theorem sum_ints : ∀ l : List Int, bltD .sum [.lst (l.map .int)] = some (.v (.int l.sum)) := fun l => by
  have h : intsD (l.map .int) = some l := by
    induction l with
    | nil => rfl
    | cons x r ih => show (intsD (r.map .int)).map _ = _; rw [ih]; rfl
  show (intsD _).map _ = _
  rw [h]
  rfl
theorem bls_map {α : Type} (f : α → Bool) : ∀ l : List α, blsD (l.map fun x => .bl (f x)) = some (l.map f)
  | [] => rfl
  | x :: r => by show (blsD (r.map fun x => .bl (f x))).map _ = _; rw [bls_map f r]; rfl
theorem all_map {α : Type} (f : α → Bool) (l : List α) : bltD .all [.lst (l.map fun x => .bl (f x))] = some (.v (.bl (l.all f))) := by
  show (blsD _).map _ = _
  rw [bls_map]
  show some (R.v (D.bl ((l.map f).all id))) = _
  rw [List.all_map]
  rfl
end Bal
set_option Elab.async false
set_option linter.all false
set_option maxRecDepth 100000
set_option maxHeartbeats 4000000
namespace Bal
open PySem Mi
end Bal
set_option Elab.async false
set_option linter.all false
set_option maxRecDepth 100000
set_option maxHeartbeats 4000000
namespace Bal
open PySem Mi
end Bal
set_option Elab.async false
set_option linter.all false
set_option maxRecDepth 100000
set_option maxHeartbeats 4000000
namespace Bal
open PySem Mi
end Bal
set_option Elab.async false
set_option linter.all false
set_option maxRecDepth 100000
set_option maxHeartbeats 4000000
namespace Bal
open PySem Mi
theorem alike_ints : ∀ a b : List Nat, PySem.W.alikeAll (a.map fun (i : Nat) => .int (i : Int)) (b.map fun (i : Nat) => .int (i : Int)) = true
  | [], _ => by rw [List.map_nil]; unfold PySem.W.alikeAll; rfl
  | x :: r, [] => by rw [List.map_nil, List.map_cons]; unfold PySem.W.alikeAll; rfl
  | x :: r, y :: t => by
    rw [List.map_cons, List.map_cons]
    unfold PySem.W.alikeAll PySem.W.alike
    rw [alike_ints r t]
    rfl
end Bal
set_option Elab.async false
set_option linter.all false
set_option maxRecDepth 100000
set_option maxHeartbeats 4000000
namespace Bal
open PySem Mi
mutual
def blk : D → Nat
  | .str s => s.cps.size
  | .tup l => blks l
  | .lst l => blks l
  | _ => 0
def blks : List D → Nat
  | [] => 0
  | d :: r => blk d + 1 + blks r
end
mutual
def th : D → Bool
  | .non => true | .bl _ => true | .int _ => true | .str _ => true
  | .tup l => ths l
  | .lst l => ths l
  | .dct _ _ => true
  | _ => false
def ths : List D → Bool
  | [] => true
  | d :: r => th d && ths r
end
theorem ths_mem : ∀ {l : List D} {a : D}, ths l = true → a ∈ l → th a = true
  | d :: r, a, h, m => by
    unfold ths at h
    rw [Bool.and_eq_true] at h
    rcases List.mem_cons.mp m with z | z
    · subst z; exact h.1
    · exact ths_mem h.2 z
end Bal
set_option Elab.async false
set_option linter.all false
set_option maxRecDepth 100000
set_option maxHeartbeats 4000000
namespace Bal
open PySem Mi
def SA (t : Str) : Prop := ∀ c ∈ t.cps.toList, c < 0x110000
theorem sa_app {a b : Str} (ha : SA a) (hb : SA b) : SA (a ++ b) := fun c h => by
  rcases PyProof.Rows.mem_cps_append.mp h with h | h
  · exact ha c h
  · exact hb c h
theorem sa_text : ∀ (ts : List Str) (k : Nat) (acc : Str), SA acc → (∀ t ∈ ts, SA t) → SA (textFrom k acc ts)
  | [], k, acc, ha, _ => ha
  | t :: r, k, acc, ha, h => by
    refine sa_text r (k + 1) _ (sa_app (sa_app ha ?_) (h t List.mem_cons_self)) fun u hu => h u (List.mem_cons_of_mem _ hu)
    unfold SA
    split <;> decide
theorem sa_list {ts : List Str} (h : ∀ t ∈ ts, SA t) : SA (listText ts) := sa_app (sa_text ts 0 _ (by unfold SA; decide) h) (by unfold SA; decide)
theorem sa_join : ∀ {ts : List Str}, (∀ t ∈ ts, SA t) → SA (Str.join ", " ts)
  | [], _ => by unfold SA; decide
  | [x], h => h x List.mem_cons_self
  | x :: y :: r, h => sa_app (sa_app (h x List.mem_cons_self) (by unfold SA; decide)) (sa_join fun t ht => h t (List.mem_cons_of_mem _ ht))
theorem sa_tup {ts : List Str} (h : ∀ t ∈ ts, SA t) : SA (tupleText ts) := by
  refine sa_app (sa_app (by unfold SA; decide) (sa_join h)) ?_
  unfold SA
  split <;> decide
theorem sa_int (i : Int) : SA (PyData.int i).shown := fun c h => by
  by_cases hc : 57 < c
  · exact absurd h (PyProof.Rows.shown_int_free' ⟨by omega, .inr hc⟩ i)
  · omega
mutual
/-- what stands in it, shown, is of short signs -/
def smt : D → Prop
  | .non => True | .bl _ => True | .int _ => True
  | .str s => SA (reprText s)
  | .tup l => smts l
  | .lst l => smts l
  | _ => False
def smts : List D → Prop
  | [] => True
  | d :: r => smt d ∧ smts r
end
mutual
theorem shown_sa : ∀ {d : D} {x : PyData}, smt d → toPy d = some x → SA x.shown
  | .non, x, _, e => by cases e; unfold SA; decide
  | .bl b, x, _, e => by cases e; cases b <;> (unfold SA; decide)
  | .int i, x, _, e => by cases e; exact sa_int i
  | .str s, x, h, e => by unfold smt at h; cases e; exact h
  | .tup l, x, h, e => by
    unfold smt at h
    simp only [toPy, Option.map_eq_some_iff] at e
    obtain ⟨xs, e, rfl⟩ := e
    exact sa_tup (shown_sas h e)
  | .lst l, x, h, e => by
    unfold smt at h
    simp only [toPy, Option.map_eq_some_iff] at e
    obtain ⟨xs, e, rfl⟩ := e
    exact sa_list (shown_sas h e)
  | .ty _, x, h, _ => by unfold smt at h; cases h
  | .ins _ _ _, x, h, _ => by unfold smt at h; cases h
  | .dct _ _, x, h, _ => by unfold smt at h; cases h
  | .scr _, x, h, _ => by unfold smt at h; cases h
theorem shown_sas : ∀ {l : List D} {xs : List PyData}, smts l → toPys l = some xs → ∀ t ∈ PyData.shownAll xs, SA t
  | [], xs, _, e => by cases e; intro t ht; cases ht
  | d :: r, xs, h, e => by
    unfold smts at h
    unfold toPys at e
    cases q : toPy d with
    | none => rw [q] at e; cases e
    | some y =>
      cases q2 : toPys r with
      | none => rw [q, q2] at e; cases e
      | some ys =>
        rw [q, q2] at e
        cases e
        intro t ht
        unfold PyData.shownAll at ht
        rcases List.mem_cons.mp ht with z | z
        · rw [z]; exact shown_sa h.1 q
        · exact shown_sas h.2 q2 t z
end
/-- a text is alike to itself -/
theorem ne_str {s : Str} (h : SA s) : cmpD .ne (.str s) (.str s) = some false := by
  simp only [cmpD]
  unfold eqD
  have h1 : SeqAt.shaped (.str s) = true := by
    unfold SeqAt.shaped
    have : PyData.strOk s = true := by
      unfold PyData.strOk
      rw [← Array.all_toList, List.all_eq_true]
      exact fun c hc => decide_eq_true (h c hc)
    simp [PyData.canLay0, this, PyData.depth]
  show (if SeqAt.shaped (.str s) = true ∧ SeqAt.shaped (.str s) = true then some (PyData.eqv (.str s) (.str s)) else none).map not = _
  rw [if_pos ⟨h1, h1⟩]
  simp [PyData.eqv]
end Bal
set_option Elab.async false
set_option linter.all false
set_option maxRecDepth 100000
set_option maxHeartbeats 4000000
namespace Sd
open PySem Mi
open Bal (nD of_ex th ths ths_mem smt smts blk blks SA)
mutual
/-- its numbers have at most a hundred figures -/
def smq : D → Bool
  | .non => true | .bl _ => true
  | .int i => decide (i.natAbs < 10 ^ 100)
  | .str s => s.cps.toList.all fun c => decide (c < 16 ^ 8)
  | .tup l => smqs l
  | .lst l => smqs l
  | _ => false
def smqs : List D → Bool
  | [] => true
  | d :: r => smq d && smqs r
end
theorem shown_int100 {i : Int} (h : i.natAbs < 10 ^ 100) : (PyData.shown (.int i)).length ≤ 101 := by
  have e := int_text_length_le10 (k := 100) (by decide) h
  show (Str.ofString (toString i)).length ≤ 101
  rw [ofString_length]; exact e
mutual
theorem smq_py : ∀ {d : D}, smq d = true → ∃ x, toPy d = some x ∧ x.leavesShort 101 = true ∧ x.showable = true ∧ x.depth = dpt d ∧ x.bulk = blk d
  | .non, _ => ⟨.none, rfl, rfl, rfl, rfl, rfl⟩
  | .bl b, _ => ⟨.bool b, rfl, rfl, rfl, rfl, rfl⟩
  | .int i, h => by
    unfold smq at h
    have h := of_decide_eq_true h
    refine ⟨.int i, rfl, ?_, ?_, rfl, rfl⟩
    · simp only [PyData.leavesShort, decide_eq_true_eq]
      exact shown_int100 h
    · simp only [PyData.showable, decide_eq_true_eq]
      by_cases h0 : i.natAbs = 0
      · rw [h0]; decide
      · have h2 : i.natAbs < 2 ^ (4 * 100) := by rw [Nat.pow_mul]; exact Nat.lt_of_lt_of_le h (Nat.pow_le_pow_left (by decide) 100)
        exact Nat.lt_trans ((Nat.log2_lt h0).mpr h2) (by decide)
  | .str s, h => by
    unfold smq at h
    refine ⟨.str s, rfl, ?_, rfl, rfl, rfl⟩
    simpa only [PyData.leavesShort] using h
  | .tup l, h => by
    unfold smq at h
    obtain ⟨xs, e, a, b, c, d⟩ := smqs_py h
    exact ⟨.tuple xs, by simp [toPy, e], by simpa [PyData.leavesShort] using a, by simpa [PyData.showable] using b, by simp [PyData.depth, dpt, c], by simp [PyData.bulk, blk, d]⟩
  | .lst l, h => by
    unfold smq at h
    obtain ⟨xs, e, a, b, c, d⟩ := smqs_py h
    exact ⟨.list xs, by simp [toPy, e], by simpa [PyData.leavesShort] using a, by simpa [PyData.showable] using b, by simp [PyData.depth, dpt, c], by simp [PyData.bulk, blk, d]⟩
  | .ty _, h => by unfold smq at h; cases h
  | .ins _ _ _, h => by unfold smq at h; cases h
  | .dct _ _, h => by unfold smq at h; cases h
  | .scr _, h => by unfold smq at h; cases h
theorem smqs_py : ∀ {l : List D}, smqs l = true → ∃ xs, toPys l = some xs ∧ PyData.leavesShortAll 101 xs = true ∧ PyData.showableAll xs = true ∧ PyData.depthAll xs = dpts l ∧ PyData.bulkAll xs = blks l
  | [], _ => ⟨[], rfl, rfl, rfl, rfl, rfl⟩
  | d :: r, h => by
    unfold smqs at h
    rw [Bool.and_eq_true] at h
    obtain ⟨x, e1, a1, b1, c1, d1⟩ := smq_py h.1
    obtain ⟨xs, e2, a2, b2, c2, d2⟩ := smqs_py h.2
    exact ⟨x :: xs, by simp [toPys, e1, e2], by simp [PyData.leavesShortAll, a1, a2], by simp [PyData.showableAll, b1, b2], by simp [PyData.depthAll, dpts, c1, c2], by simp [PyData.bulkAll, blks, d1, d2]⟩
end
theorem repr_q {d : D} (h : smq d = true) (ht : smt d) (hd : dpt d ≤ 60) (hb : blk d ≤ 2 ^ 16) : ∃ s, reprD d = some s ∧ cmpD .ne (.str s) (.str s) = some false := by
  obtain ⟨x, e, a, b, c, k⟩ := smq_py h
  have hl : x.shown.length ≤ line := by
    have := PyData.shown_le_bulk 101 (by decide) x a
    have h2 : (101 + 2) * x.bulk ≤ 103 * 65536 := Nat.mul_le_mul (by decide) (by rw [k]; exact hb)
    unfold line
    omega
  have key : (toPy d).bind (fun x => if x.showable = true ∧ x.depth ≤ 60 ∧ x.shown.length ≤ line then some x.shown else none) = some x.shown := by
    rw [e]
    show (if _ then _ else _) = _
    rw [if_pos ⟨b, by rw [c]; exact hd, hl⟩]
  have n := Bal.ne_str (Bal.shown_sa ht e)
  cases d with
  | dct ks vs => unfold smq at h; cases h
  | _ => exact ⟨_, key, n⟩
/-- a thing that repr takes -/
structure Thing (x : D) : Prop where
  t : th x = true
  r : ∃ s, bltD .repr [x] = some (.v (.str s)) ∧ cmpD .ne (.str s) (.str s) = some false
structure Item (k b : Nat) (x : D) : Prop where
  t : th x = true
  s : smq x = true
  a : smt x
  d : dpt x ≤ k
  b : blk x ≤ b
theorem Item.thing {k b : Nat} {x : D} (h : Item k b x) (hk : k ≤ 60) (hb : b ≤ 2 ^ 16) : Thing x := by
  obtain ⟨s, e, n⟩ := repr_q h.s h.a (Nat.le_trans h.d hk) (Nat.le_trans h.b hb)
  exact ⟨h.t, s, by show (reprD x).map _ = _; rw [e]; rfl, n⟩
theorem Item.up {k b k2 b2 : Nat} {x : D} (h : Item k b x) (hk : k ≤ k2) (hb : b ≤ b2) : Item k2 b2 x := ⟨h.t, h.s, h.a, Nat.le_trans h.d hk, Nat.le_trans h.b hb⟩
theorem items {k b : Nat} {l : List D} : (∀ x ∈ l, Item k b x) → ths l = true ∧ smqs l = true ∧ smts l ∧ dpts l ≤ k ∧ blks l ≤ (b + 1) * l.length := by
  induction l with
  | nil => intro _; exact ⟨rfl, rfl, trivial, Nat.zero_le _, Nat.zero_le _⟩
  | cons x r ih =>
    intro h
    obtain ⟨i1, i2, i3, i4, i5⟩ := ih fun y hy => h y (List.mem_cons_of_mem _ hy)
    have hx := h x List.mem_cons_self
    unfold ths smqs smts dpts blks
    rw [i1, i2, hx.t, hx.s]
    refine ⟨rfl, rfl, ⟨hx.a, i3⟩, Nat.max_le.mpr ⟨hx.d, i4⟩, ?_⟩
    have := hx.b
    rw [List.length_cons, Nat.mul_add, Nat.mul_one]
    omega
theorem tup_item {k b m : Nat} {l : List D} (h : ∀ x ∈ l, Item k b x) (hl : l.length ≤ m) : Item (k + 1) ((b + 1) * m) (.tup l) := by
  obtain ⟨i1, i2, i3, i4, i5⟩ := items h
  exact ⟨by unfold th; exact i1, by unfold smq; exact i2, by unfold smt; exact i3, by unfold dpt; omega, by unfold blk; exact Nat.le_trans i5 (Nat.mul_le_mul_left _ hl)⟩
theorem lst_item {k b m : Nat} {l : List D} (h : ∀ x ∈ l, Item k b x) (hl : l.length ≤ m) : Item (k + 1) ((b + 1) * m) (.lst l) := by
  obtain ⟨i1, i2, i3, i4, i5⟩ := items h
  exact ⟨by unfold th; exact i1, by unfold smq; exact i2, by unfold smt; exact i3, by unfold dpt; omega, by unfold blk; exact Nat.le_trans i5 (Nat.mul_le_mul_left _ hl)⟩
theorem int_item {i : Int} (h : i.natAbs < 10 ^ 100) : Item 0 0 (.int i) := ⟨rfl, by unfold smq; exact decide_eq_true h, trivial, Nat.zero_le _, Nat.zero_le _⟩
theorem non_item : Item 0 0 .non := ⟨rfl, rfl, trivial, Nat.zero_le _, Nat.zero_le _⟩
theorem bl_item (b : Bool) : Item 0 0 (.bl b) := ⟨rfl, rfl, trivial, Nat.zero_le _, Nat.zero_le _⟩
theorem dct_thing : Thing (.dct [] []) := ⟨rfl, _, rfl, Bal.ne_str (by unfold SA; decide +kernel)⟩
def isIntB : D → Bool
  | .int _ => true
  | _ => false
def numB : D → Bool
  | .int i => decide (0 ≤ i)
  | _ => false
def inB (a b : Int) : D → Bool
  | .int i => decide (a ≤ i) && decide (i ≤ b)
  | _ => false
def tupB (k : Int) : D → Bool
  | .tup l => decide ((l.length : Int) = k)
  | _ => false
def szB (a b : Int) : D → Bool
  | .tup l => decide (a ≤ (l.length : Int)) && decide ((l.length : Int) ≤ b)
  | _ => false
theorem ths_of {l : List D} (h : ∀ x ∈ l, th x = true) : ths l = true := by
  induction l with
  | nil => rfl
  | cons x r ih =>
    unfold ths
    rw [h x List.mem_cons_self, ih fun y hy => h y (List.mem_cons_of_mem _ hy)]
    rfl
theorem ints_of : ∀ {l : List D}, l.all numB = true → ∃ ns : List Int, l = ns.map .int ∧ ∀ x ∈ ns, 0 ≤ x
  | [], _ => ⟨[], rfl, fun _ h => by cases h⟩
  | d :: r, h => by
    rw [List.all_cons, Bool.and_eq_true] at h
    obtain ⟨ns, e, hn⟩ := ints_of h.2
    cases d with
    | int i => exact ⟨i :: ns, by rw [e]; rfl, fun x hx => by
        rcases List.mem_cons.mp hx with e | hx
        · rw [e]; exact of_decide_eq_true h.1
        · exact hn x hx⟩
    | _ => cases h.1
theorem filt_t {α : Type} (l : List α) : l.filter (fun _ => true) = l := List.filter_eq_self.mpr fun _ _ => rfl
theorem range_itm (j : Nat) : ((List.range j).map fun (i : Nat) => D.int (i : Int)).map Itm.one = (List.range j).map fun (i : Nat) => Itm.one (.int (i : Int)) := by rw [List.map_map]; rfl
theorem idx_ofSplit {n : Nat} {pr sf : List Nat} {a : Nat} (e : List.range n = pr ++ a :: sf) : a < n := List.mem_range.mp (by rw [e]; simp)
theorem foldl_snoc {α β : Type} (f : α → β → α) (a : α) (l : List β) (x : β) : (l ++ [x]).foldl f a = f (l.foldl f a) x := by rw [List.foldl_append]; rfl
def dropS : Nat → Ss → Ss
  | 0, b => b
  | k + 1, .cons _ r => dropS k r
  | _ + 1, .nil => .nil
abbrev fz (d : D) : Option (Bool × D) := some (false, d)
theorem px_ints : ∀ l : List Int, pls (l.map .int) = true ∧ dpts (l.map .int) = 0
  | [] => ⟨rfl, rfl⟩
  | x :: r => by
    obtain ⟨a, b⟩ := px_ints r
    rw [List.map_cons]
    unfold pls pl dpts dpt
    rw [a, b]
    exact ⟨rfl, rfl⟩
mutual
/-- data without texts -/
def px : D → Bool
  | .non => true | .int _ => true | .bl _ => true
  | .tup l => pxs l
  | .lst l => pxs l
  | _ => false
def pxs : List D → Bool
  | [] => true
  | d :: r => px d && pxs r
end
theorem pxs_mem : ∀ {l : List D} {a : D}, pxs l = true → a ∈ l → px a = true ∧ dpt a ≤ dpts l
  | d :: r, a, h, m => by
    unfold pxs at h
    rw [Bool.and_eq_true] at h
    unfold dpts
    rcases List.mem_cons.mp m with z | z
    · subst z; exact ⟨h.1, Nat.le_max_left _ _⟩
    · exact ⟨(pxs_mem h.2 z).1, Nat.le_trans (pxs_mem h.2 z).2 (Nat.le_max_right _ _)⟩
theorem pxs_of {l : List D} {k : Nat} (h : ∀ x ∈ l, px x = true ∧ dpt x ≤ k) : pxs l = true ∧ dpts l ≤ k := by
  induction l with
  | nil => exact ⟨rfl, Nat.zero_le _⟩
  | cons x r ih =>
    obtain ⟨a, b⟩ := ih fun y hy => h y (List.mem_cons_of_mem _ hy)
    obtain ⟨c, d⟩ := h x List.mem_cons_self
    unfold pxs dpts
    rw [a, c]
    exact ⟨rfl, Nat.max_le.mpr ⟨d, b⟩⟩
theorem zip_self {l : List D} {q : D × D} (h : q ∈ l.zip l) : q.1 = q.2 := by
  induction l with
  | nil => cases h
  | cons x r ih2 =>
    rw [List.zip_cons_cons] at h
    rcases List.mem_cons.mp h with e | h
    · rw [e]
    · exact ih2 h
end Sd
namespace Sd
open PySem Mi
def gv (l : List Int) (i : Nat) : Int := l.getD i 0
theorem gv_get {l : List Int} {i : Nat} (h : i < l.length) : l[i]? = some (gv l i) := by
  unfold gv
  rw [List.getD_eq_getElem?_getD, List.getElem?_eq_getElem h]
  rfl
theorem gv_mem {l : List Int} {i : Nat} (h : i < l.length) : gv l i ∈ l := List.mem_of_getElem? (gv_get h)
theorem gv_app {l m : List Int} {i : Nat} : gv (l ++ m) i = if i < l.length then gv l i else gv m (i - l.length) := by
  unfold gv
  rw [List.getD_eq_getElem?_getD, List.getElem?_append]
  by_cases h : i < l.length
  · rw [if_pos h, if_pos h, List.getD_eq_getElem?_getD]
  · rw [if_neg h, if_neg h, List.getD_eq_getElem?_getD]
theorem idxL {l : List Int} {i : Nat} (h : i < l.length) : idxD (.lst (l.map .int)) (.int (i : Nat)) = some (.int (gv l i)) := idx_l (by rw [List.getElem?_map, gv_get h]; rfl)
theorem idxT {l : List Int} {i : Nat} (h : i < l.length) : idxD (.tup (l.map .int)) (.int (i : Nat)) = some (.int (gv l i)) := idx_t (by rw [List.getElem?_map, gv_get h]; rfl)
theorem foldl_max : ∀ (l : List Int) (a : Int), a ≤ l.foldl (fun a b => if a < b then b else a) a ∧ (∀ x ∈ l, x ≤ l.foldl (fun a b => if a < b then b else a) a) ∧ (l.foldl (fun a b => if a < b then b else a) a = a ∨ l.foldl (fun a b => if a < b then b else a) a ∈ l)
  | [], a => ⟨Int.le_refl _, (fun _ h => nomatch h), .inl rfl⟩
  | x :: r, a => by
    rw [List.foldl_cons]
    by_cases h : a < x
    · rw [if_pos h]
      obtain ⟨h1, h2, h3⟩ := foldl_max r x
      refine ⟨by omega, fun y hy => ?_, ?_⟩
      · rcases List.mem_cons.mp hy with e | hy
        · rw [e]; exact h1
        · exact h2 y hy
      · rcases h3 with e | h3
        · rw [e]; exact .inr List.mem_cons_self
        · exact .inr (List.mem_cons_of_mem _ h3)
    · rw [if_neg h]
      obtain ⟨h1, h2, h3⟩ := foldl_max r a
      refine ⟨h1, fun y hy => ?_, ?_⟩
      · rcases List.mem_cons.mp hy with e | hy
        · rw [e]; omega
        · exact h2 y hy
      · rcases h3 with e | h3
        · exact .inl e
        · exact .inr (List.mem_cons_of_mem _ h3)
def maxZ : List Int → Int
  | [] => 0
  | x :: r => r.foldl (fun a b => if a < b then b else a) x
theorem maxZ_ok {l : List Int} (h : l ≠ []) : maxZ l ∈ l ∧ ∀ x ∈ l, x ≤ maxZ l := by
  cases l with
  | nil => exact absurd rfl h
  | cons x r =>
    obtain ⟨h1, h2, h3⟩ := foldl_max r x
    refine ⟨?_, fun y hy => ?_⟩
    · rcases h3 with e | h3
      · show r.foldl _ x ∈ _
        rw [e]; exact List.mem_cons_self
      · exact List.mem_cons_of_mem _ h3
    · rcases List.mem_cons.mp hy with e | hy
      · rw [e]; exact h1
      · exact h2 y hy
theorem intsD_map : ∀ l : List Int, intsD (l.map .int) = some l
  | [] => rfl
  | x :: r => by show (intsD (r.map .int)).map _ = _; rw [intsD_map r]; rfl
theorem maxZ_b {l : List Int} (h : l ≠ []) : bltD .max [.lst (l.map .int)] = some (.v (.int (maxZ l))) := by
  show leastD maxI PySem.W.maxD (.lst (l.map .int)) = _
  unfold leastD
  show (match (itemsD (.lst (l.map .int))).bind intsD with
    | some ns => (maxI ns).map fun i => R.v (D.int i)
    | none => bestG PySem.W.maxD (.lst (l.map .int))) = _
  rw [show (itemsD (.lst (l.map .int))).bind intsD = some l from intsD_map l]
  cases l with
  | nil => exact absurd rfl h
  | cons x r => rfl
theorem sum_mapI {α : Type} (f : α → Int) (L : List α) : bltD .sum [.lst (L.map fun a => .int (f a))] = some (.v (.int (L.map f).sum)) := by
  show ((itemsD (.lst (L.map fun a => .int (f a)))).bind intsD).map _ = _
  rw [show (L.map fun a => D.int (f a)) = (L.map f).map .int by rw [List.map_map]; rfl]
  show (intsD ((L.map f).map .int)).map _ = _
  rw [intsD_map]
  rfl
end Sd
set_option Elab.async false
set_option linter.all false
set_option maxRecDepth 100000
set_option maxHeartbeats 1000000
namespace K70
open PySem Mi Sd
open Bal (nD of_ex th ths ths_mem Hand)
abbrev i__law_hand : Nat := 0
theorem h__law_hand : Bal.Has Gm tab 0 F__law_hand := ⟨rfl, rfl⟩
abbrev i_is_integer : Nat := 1
theorem h_is_integer : Bal.Has Gm tab 1 F_is_integer := ⟨rfl, rfl⟩
abbrev i_is_within : Nat := 2
theorem h_is_within : Bal.Has Gm tab 2 F_is_within := ⟨rfl, rfl⟩
abbrev i_is_sized : Nat := 3
theorem h_is_sized : Bal.Has Gm tab 3 F_is_sized := ⟨rfl, rfl⟩
abbrev i_lots_of : Nat := 4
theorem h_lots_of : Bal.Has Gm tab 4 F_lots_of := ⟨rfl, rfl⟩
abbrev i_is_tuple : Nat := 5
theorem h_is_tuple : Bal.Has Gm tab 5 F_is_tuple := ⟨rfl, rfl⟩
abbrev i_is_number : Nat := 6
theorem h_is_number : Bal.Has Gm tab 6 F_is_number := ⟨rfl, rfl⟩
abbrev i_are_worths : Nat := 7
theorem h_are_worths : Bal.Has Gm tab 7 F_are_worths := ⟨rfl, rfl⟩
abbrev i_Sale : Nat := 8
theorem h_Sale : Bal.Has Gm tab 8 F_Sale := ⟨rfl, rfl⟩
abbrev i__law_is : Nat := 9
theorem h__law_is : Bal.Has Gm tab 9 F__law_is := ⟨rfl, rfl⟩
abbrev i_all_deals : Nat := 12
theorem h_all_deals : Bal.Has Gm tab 12 F_all_deals := ⟨rfl, rfl⟩
abbrev i_worth_of : Nat := 13
theorem h_worth_of : Bal.Has Gm tab 13 F_worth_of := ⟨rfl, rfl⟩
abbrev i_best_deal : Nat := 14
theorem h_best_deal : Bal.Has Gm tab 14 F_best_deal := ⟨rfl, rfl⟩
abbrev i_dealt : Nat := 15
theorem h_dealt : Bal.Has Gm tab 15 F_dealt := ⟨rfl, rfl⟩
abbrev i__law_draw : Nat := 16
theorem h__law_draw : Bal.Has Gm tab 16 F__law_draw := ⟨rfl, rfl⟩
abbrev i_Sale___eq__ : Nat := 17
theorem h_Sale___eq__ : Bal.Has Gm tab 17 F_Sale___eq__ := ⟨rfl, rfl⟩
abbrev i__law_lots : Nat := 18
theorem h__law_lots : Bal.Has Gm tab 18 F__law_lots := ⟨rfl, rfl⟩
abbrev i__law_best : Nat := 19
theorem h__law_best : Bal.Has Gm tab 19 F__law_best := ⟨rfl, rfl⟩
abbrev i__law_of : Nat := 20
theorem h__law_of : Bal.Has Gm tab 20 F__law_of := ⟨rfl, rfl⟩
abbrev i__law_some : Nat := 21
theorem h__law_some : Bal.Has Gm tab 21 F__law_some := ⟨rfl, rfl⟩
abbrev i__law_bent : Nat := 22
theorem h__law_bent : Bal.Has Gm tab 22 F__law_bent := ⟨rfl, rfl⟩
abbrev i__law_are_bids : Nat := 23
theorem h__law_are_bids : Bal.Has Gm tab 23 F__law_are_bids := ⟨rfl, rfl⟩
abbrev i__law_is_right : Nat := 24
theorem h__law_is_right : Bal.Has Gm tab 24 F__law_is_right := ⟨rfl, rfl⟩
abbrev i__law_bid : Nat := 25
theorem h__law_bid : Bal.Has Gm tab 25 F__law_bid := ⟨rfl, rfl⟩
abbrev i__law_single_bid : Nat := 26
theorem h__law_single_bid : Bal.Has Gm tab 26 F__law_single_bid := ⟨rfl, rfl⟩
abbrev i__law_bids : Nat := 27
theorem h__law_bids : Bal.Has Gm tab 27 F__law_bids := ⟨rfl, rfl⟩
theorem h_law : Bal.Has Gm tab 28 F_law := ⟨rfl, rfl⟩
theorem hand_ok (n : Nat) (ns : List Int) : ∃ r o, phi Gm tab (n + 1) i__law_hand [(false, .scr ns)] = some (r, o) ∧ ∃ hd, r = .o hd ∧ o = [] ∧ Hand hd := by
  refine phi_ex h__law_hand.1 rfl ?_
  show wB Gm (phi Gm tab n) [] F__law_hand.body [some (false, .scr ns), none, none] _
  array_get_dec
  refine w_compF (α := Int) rfl ?_
  array_get_dec
  refine ⟨cutI ns none (some 63), fun i => .one (.int i), fun _ => true, fun i => .int (if i < 0 then -i else i), by rw [List.map_map]; rfl, fun i hi => ?_, ?_⟩
  · refine ⟨_, rfl, ?_⟩
    array_get_dec
    refine ⟨rfl, rfl, fun _ => ?_⟩
    array_get_dec
    rfl
  · have e : ((cutI ns none (some 63)).filter fun _ => true).map (fun i => D.int (if i < 0 then -i else i)) = ((cutI ns none (some 63)).map fun i => if i < 0 then -i else i).map D.int := by rw [filt_t, List.map_map]; rfl
    rw [e]
    have hcs : ∀ x ∈ (cutI ns none (some 63)).map (fun i => if i < 0 then -i else i), 0 ≤ x := fun x hx => by
      obtain ⟨i, _, rfl⟩ := List.mem_map.mp hx
      split <;> omega
    generalize (cutI ns none (some 63)).map (fun i => if i < 0 then -i else i) = cs at hcs ⊢
    repeat (first | with_reducible apply w_bcons | with_reducible apply sq_nx | with_reducible apply sq_rt | with_reducible apply w_bnil | with_reducible apply w_acons | with_reducible apply w_anil | ((with_reducible apply w_fro); rfl) | ((with_reducible apply w_own); rfl) | with_reducible apply w_cint | with_reducible apply w_cbl | with_reducible apply w_cnon | with_reducible apply w_cstr | with_reducible apply w_cty | with_reducible apply w_tup | with_reducible apply w_lst | with_reducible apply w_bin | with_reducible apply w_cmp | with_reducible apply w_idx | with_reducible apply w_neg | with_reducible apply w_rev | with_reducible apply w_attr | with_reducible apply w_notv | with_reducible apply w_andv | with_reducible apply w_orv | with_reducible apply w_chain | with_reducible apply w_ite | with_reducible apply w_sl | with_reducible apply w_callb | with_reducible apply w_call | with_reducible apply w_callx | with_reducible apply w_makex | with_reducible apply w_make | with_reducible apply w_eqi | with_reducible apply w_isit | with_reducible apply w_meth | with_reducible apply w_dic0 | with_reducible apply w_dic1 | with_reducible apply w_yes | with_reducible apply w_val | with_reducible apply w_and | with_reducible apply w_or | with_reducible apply w_not | with_reducible apply w_onone | with_reducible apply w_osome | with_reducible apply w_lrange1 | with_reducible apply w_lrange2 | with_reducible apply w_seq | with_reducible apply w_range1 | with_reducible apply w_range2 | with_reducible apply w_zip | with_reducible apply w_enum | with_reducible apply w_par | with_reducible apply w_setat | with_reducible apply w_expr | with_reducible apply w_ret | with_reducible apply w_retn | with_reducible apply w_pass | with_reducible apply w_brk | with_reducible apply w_cnt | with_reducible apply w_site | ((with_reducible refine isRt ?_); first | refine rt_v ?_ | refine rt_o ?_ | refine rt_b rfl rfl ?_) | with_reducible apply fin_v | with_reducible apply fin_o | with_reducible apply fin_n | ((with_reducible apply w_glob); rfl) | ((with_reducible apply w_fnv); rfl) | ((with_reducible apply w_isc); rfl) | ((with_reducible apply w_mut); rfl) | ((with_reducible apply w_asg); rfl) | ((with_reducible apply w_sown'); rfl) | ((with_reducible apply w_setix2); rfl) | ((with_reducible apply w_setix); rfl) | ((with_reducible apply w_setixD); rfl) | ((with_reducible apply w_augixA); rfl) | ((with_reducible apply w_augixS); rfl))
    refine ⟨_, _, _, rfl, rfl, ?_⟩
    repeat (first | with_reducible apply w_bcons | with_reducible apply sq_nx | with_reducible apply sq_rt | with_reducible apply w_bnil | with_reducible apply w_acons | with_reducible apply w_anil | ((with_reducible apply w_fro); rfl) | ((with_reducible apply w_own); rfl) | with_reducible apply w_cint | with_reducible apply w_cbl | with_reducible apply w_cnon | with_reducible apply w_cstr | with_reducible apply w_cty | with_reducible apply w_tup | with_reducible apply w_lst | with_reducible apply w_bin | with_reducible apply w_cmp | with_reducible apply w_idx | with_reducible apply w_neg | with_reducible apply w_rev | with_reducible apply w_attr | with_reducible apply w_notv | with_reducible apply w_andv | with_reducible apply w_orv | with_reducible apply w_chain | with_reducible apply w_ite | with_reducible apply w_sl | with_reducible apply w_callb | with_reducible apply w_call | with_reducible apply w_callx | with_reducible apply w_makex | with_reducible apply w_make | with_reducible apply w_eqi | with_reducible apply w_isit | with_reducible apply w_meth | with_reducible apply w_dic0 | with_reducible apply w_dic1 | with_reducible apply w_yes | with_reducible apply w_val | with_reducible apply w_and | with_reducible apply w_or | with_reducible apply w_not | with_reducible apply w_onone | with_reducible apply w_osome | with_reducible apply w_lrange1 | with_reducible apply w_lrange2 | with_reducible apply w_seq | with_reducible apply w_range1 | with_reducible apply w_range2 | with_reducible apply w_zip | with_reducible apply w_enum | with_reducible apply w_par | with_reducible apply w_setat | with_reducible apply w_expr | with_reducible apply w_ret | with_reducible apply w_retn | with_reducible apply w_pass | with_reducible apply w_brk | with_reducible apply w_cnt | with_reducible apply w_site | ((with_reducible refine isRt ?_); first | refine rt_v ?_ | refine rt_o ?_ | refine rt_b rfl rfl ?_) | with_reducible apply fin_v | with_reducible apply fin_o | with_reducible apply fin_n | ((with_reducible apply w_glob); rfl) | ((with_reducible apply w_fnv); rfl) | ((with_reducible apply w_isc); rfl) | ((with_reducible apply w_mut); rfl) | ((with_reducible apply w_asg); rfl) | ((with_reducible apply w_sown'); rfl) | ((with_reducible apply w_setix2); rfl) | ((with_reducible apply w_setix); rfl) | ((with_reducible apply w_setixD); rfl) | ((with_reducible apply w_augixA); rfl) | ((with_reducible apply w_augixS); rfl))
    refine ⟨_, _, rfl, rfl, ?_⟩
    refine ⟨_, _, _, rfl, rfl, b_mulL rfl, ?_⟩
    array_get_dec
    exact ⟨rfl, cs, 0, 0, _, 0, rfl, Nat.zero_le _, Int.le_refl _, hcs⟩
theorem draw_tail (n : Nat) {cs : List Int} {i : Nat} {v h c L : Int} {x3 : Option (Bool × D)} (h0 : 0 < L) (h1 : L.natAbs.log2 < 9000) (hi : i ≤ cs.length) (hv : 0 ≤ v) (hcs : ∀ x ∈ cs, 0 ≤ x) :
    wB Gm (phi Gm tab n) [0] (match F__law_draw.body with | .cons _ r => r | b => b) [some (true, .lst [.lst (cs.map .int), .int i, .int v, .int h, .int c]), some (false, .int L), x3, none, none]
      (Fin [true, false] fun r o => ∃ d hd', r = .v (.int d) ∧ o = [hd'] ∧ 0 ≤ d ∧ d < L ∧ Hand hd') := by
  array_get_dec
  refine ⟨fun hc => ?_, fun hc => ?_⟩
  · array_get_dec
    refine ⟨_, _, _, rfl, rfl, b_mod h0, ?_⟩
    array_get_dec
    refine ⟨_, _, _, rfl, rfl, (show (if 0 < L ∧ (L < 1073741824 ∨ L.natAbs.log2 < 9000) then some (D.int (v / L)) else none) = some (D.int (v / L)) from if_pos ⟨h0, .inr h1⟩), ?_⟩
    array_get_dec
    exact ⟨Int.emod_nonneg _ (by omega), Int.emod_lt_of_pos _ h0, cs, i, v / L, h, c, rfl, hi, Int.ediv_nonneg hv (by omega), hcs⟩
  · array_get_dec
    refine ⟨_, _, _, rfl, rfl, b_mulB ⟨by omega, by omega⟩, ?_⟩
    array_get_dec
    refine ⟨_, _, _, rfl, rfl, b_mulB ⟨by omega, by omega⟩, ?_⟩
    array_get_dec
    refine ⟨_, _, _, rfl, rfl, b_mod h0, ?_⟩
    array_get_dec
    exact ⟨Int.emod_nonneg _ (by omega), Int.emod_lt_of_pos _ h0, cs, i, v, h, c + 1, rfl, hi, hv, hcs⟩
theorem draw_ok (n : Nat) {hd : D} (hh : Hand hd) (L : Int) (h0 : 0 < L) (h1 : L.natAbs.log2 < 9000) : ∃ d hd', phi Gm tab (n + 1) i__law_draw [(true, hd), (false, .int L)] = some (.v (.int d), [hd']) ∧ 0 ≤ d ∧ d < L ∧ Hand hd' := by
  have key : ∃ r o, phi Gm tab (n + 1) i__law_draw [(true, hd), (false, .int L)] = some (r, o) ∧ ∃ d hd', r = .v (.int d) ∧ o = [hd'] ∧ 0 ≤ d ∧ d < L ∧ Hand hd' := by
    obtain ⟨cs, i, v, h, c, rfl, hi, hv, hcs⟩ := hh
    refine phi_ex h__law_draw.1 rfl ?_
    show wB Gm (phi Gm tab n) [0] F__law_draw.body [some (true, .lst [.lst (cs.map .int), .int i, .int v, .int h, .int c]), some (false, .int L), none, none, none] _
    refine w_cut ?_
    array_get_dec
    refine ⟨fun hv0 => ?_, fun hc => ?_⟩
    · array_get_dec
      refine ⟨fun hc => ?_, fun hc => ?_⟩
      · have hlt : i < cs.length := by
          have : (i : Int) < ((cs.map D.int).length : Nat) := of_decide_eq_true hc
          rw [List.length_map] at this
          omega
        array_get_dec
        refine ⟨_, _, _, rfl, rfl, idx_l (d := .int cs[i]) (by rw [List.getElem?_map, List.getElem?_eq_getElem hlt]; rfl), ?_⟩
        array_get_dec
        have hcell : 0 ≤ cs[i] := hcs _ (List.getElem_mem hlt)
        refine ⟨fun hc => ?_, fun hc => ?_⟩
        · array_get_dec
          exact ⟨draw_tail n h0 h1 hlt hcell hcs⟩
        · array_get_dec
          exact ⟨draw_tail n h0 h1 hlt hv hcs⟩
      · array_get_dec
        exact ⟨draw_tail n h0 h1 hi hv hcs⟩
    · array_get_dec
      exact ⟨draw_tail n h0 h1 hi hv hcs⟩
  obtain ⟨r, o, e, d, hd', rfl, rfl, q⟩ := key
  exact ⟨d, hd', e, q⟩
theorem draw_nat (n : Nat) {hd : D} (hh : Hand hd) {L : Nat} (h0 : 0 < L) (h1 : L < 9000) : ∃ (d : Nat) (hd' : D), phi Gm tab (n + 1) i__law_draw [(true, hd), (false, .int (L : Nat))] = some (.v (.int (d : Nat)), [hd']) ∧ d < L ∧ Hand hd' := by
  obtain ⟨d, hd', e, a, b, c⟩ := draw_ok n hh (L : Nat) (by omega) (Nat.lt_of_le_of_lt (Nat.log2_le_self _) (by omega))
  obtain ⟨d, rfl⟩ := Int.eq_ofNat_of_zero_le a
  exact ⟨d, hd', e, by omega, c⟩
theorem some_lst (n : Nat) {hd : D} (hh : Hand hd) {xs : List D} (h0 : 0 < xs.length) (hx : xs.length < 9000) : ∃ x hd', phi Gm tab (n + 2) i__law_some [(true, hd), (false, .lst xs)] = some (.v x, [hd']) ∧ x ∈ xs ∧ Hand hd' := by
  have key : ∃ r o, phi Gm tab (n + 2) i__law_some [(true, hd), (false, .lst xs)] = some (r, o) ∧ ∃ x hd', r = .v x ∧ o = [hd'] ∧ x ∈ xs ∧ Hand hd' := by
    obtain ⟨i, hd', e, hi, hh'⟩ := draw_nat n hh h0 hx
    refine phi_ex h__law_some.1 rfl ?_
    show wB Gm (phi Gm tab (n + 1)) [0] F__law_some.body [some (true, hd), some (false, .lst xs)] _
    array_get_dec
    refine call_by h__law_draw.2 rfl rfl e rfl ?_
    array_get_dec
    refine ⟨_, _, _, rfl, rfl, idx_l (j := i) (d := xs[i]) (List.getElem?_eq_getElem hi), ?_⟩
    array_get_dec
    exact ⟨List.getElem_mem hi, hh'⟩
  obtain ⟨r, o, e, x, hd', rfl, rfl, q⟩ := key
  exact ⟨x, hd', e, q⟩
theorem is_ok : ∀ (n : Nat) {d : D}, px d = true → dpt d ≤ n → phi Gm tab (n + 1) i__law_is [(false, d), (false, d)] = some (.v (.bl true), []) := by
  intro n
  induction n with
  | zero =>
    intro d hd hn
    refine of_ex ?_
    refine phi_ex h__law_is.1 rfl ?_
    show wB Gm (phi Gm tab 0) [] F__law_is.body [some (false, d), some (false, d), none, none] _
    cases d with
    | non => array_get_dec; exact ⟨rfl, rfl⟩
    | bl b => array_get_dec; exact ⟨by cases b <;> rfl, rfl⟩
    | int i => array_get_dec; exact ⟨by simp, rfl⟩
    | tup l => unfold dpt at hn; omega
    | lst l => unfold dpt at hn; omega
    | _ => unfold px at hd; cases hd
  | succ n ih =>
    intro d hd hn
    refine of_ex ?_
    refine phi_ex h__law_is.1 rfl ?_
    show wB Gm (phi Gm tab (n + 1)) [] F__law_is.body [some (false, d), some (false, d), none, none] _
    have inner : ∀ {l : List D}, pxs l = true → dpts l ≤ n → ∀ q ∈ l.zip l, ∃ a, q = (a, a) ∧ phi Gm tab (n + 1) i__law_is [(false, a), (false, a)] = some (.v (.bl true), []) := fun {l} h1 h2 q hq => by
      obtain ⟨p1, p2⟩ := pxs_mem h1 (List.of_mem_zip hq).1
      exact ⟨q.1, Prod.ext rfl (zip_self hq).symm, ih p1 (Nat.le_trans p2 h2)⟩
    cases d with
    | non => array_get_dec; exact ⟨rfl, rfl⟩
    | bl b => array_get_dec; exact ⟨by cases b <;> rfl, rfl⟩
    | int i => array_get_dec; exact ⟨by simp, rfl⟩
    | tup l =>
      unfold px at hd
      unfold dpt at hn
      array_get_dec
      refine ⟨fun hc => by simp at hc, fun _ => ?_⟩
      array_get_dec
      refine w_compF (α := D × D) rfl ?_
      array_get_dec
      refine ⟨_, _, _, _, _, rfl, rfl, rfl, ?_⟩
      refine ⟨l.zip l, fun q => .two q.1 q.2, fun _ => true, fun _ => .bl true, ?_, fun q hq => ?_, ?_⟩
      · have := zip_map (fun x : D => x) (fun x : D => x) l l
        simpa using this
      · obtain ⟨a, rfl, e⟩ := inner hd (by omega) q hq
        refine ⟨_, rfl, ?_⟩
        array_get_dec
        refine ⟨rfl, rfl, fun _ => ?_⟩
        array_get_dec
        refine call_by h__law_is.2 rfl rfl e rfl ?_
        array_get_dec
        rfl
      · array_get_dec
        refine ⟨_, _, rfl, all_map (fun _ => true) _, ?_⟩
        array_get_dec
        exact ⟨by simp, rfl⟩
    | lst l =>
      unfold px at hd
      unfold dpt at hn
      array_get_dec
      refine ⟨fun hc => by simp at hc, fun _ => ?_⟩
      array_get_dec
      refine w_compF (α := D × D) rfl ?_
      array_get_dec
      refine ⟨_, _, _, _, _, rfl, rfl, rfl, ?_⟩
      refine ⟨l.zip l, fun q => .two q.1 q.2, fun _ => true, fun _ => .bl true, ?_, fun q hq => ?_, ?_⟩
      · have := zip_map (fun x : D => x) (fun x : D => x) l l
        simpa using this
      · obtain ⟨a, rfl, e⟩ := inner hd (by omega) q hq
        refine ⟨_, rfl, ?_⟩
        array_get_dec
        refine ⟨rfl, rfl, fun _ => ?_⟩
        array_get_dec
        refine call_by h__law_is.2 rfl rfl e rfl ?_
        array_get_dec
        rfl
      · array_get_dec
        refine ⟨_, _, rfl, all_map (fun _ => true) _, ?_⟩
        array_get_dec
        exact ⟨by simp, rfl⟩
    | _ => unfold px at hd; cases hd
theorem isint_th (n : Nat) {d : D} (h : th d = true) : phi Gm tab (n + 1) i_is_integer [(false, d)] = some (.v (.bl (isIntB d)), []) := of_ex (by
  refine phi_ex h_is_integer.1 rfl ?_
  show wB Gm (phi Gm tab n) [] F_is_integer.body [some (false, d)] _
  cases d <;> first | (unfold th at h; cases h; done) | (array_get_dec; exact ⟨rfl, rfl⟩))
theorem within_th (n : Nat) {d : D} {a b : Int} (h : th d = true) : phi Gm tab (n + 2) i_is_within [(false, d), (false, .int a), (false, .int b)] = some (.v (.bl (inB a b d)), []) := of_ex (by
  refine phi_ex h_is_within.1 rfl ?_
  show wB Gm (phi Gm tab (n + 1)) [] F_is_within.body [some (false, d), some (false, .int a), some (false, .int b)] _
  array_get_dec
  refine call_by h_is_integer.2 rfl rfl (isint_th n h) rfl ?_
  cases d with
  | int i =>
    refine ⟨true, rfl, fun _ => ?_, fun hc => by cases hc⟩
    array_get_dec
    refine ⟨fun hc => ?_, fun hc => ?_⟩
    · array_get_dec
      exact ⟨by show R.v (D.bl (decide (i ≤ b))) = R.v (D.bl (decide (a ≤ i) && decide (i ≤ b))); rw [show decide (a ≤ i) = true from hc, Bool.true_and], rfl⟩
    · array_get_dec
      exact ⟨by show R.v (D.bl false) = R.v (D.bl (decide (a ≤ i) && decide (i ≤ b))); rw [show decide (a ≤ i) = false from hc, Bool.false_and], rfl⟩
  | _ => first | (unfold th at h; cases h; done) | (refine ⟨false, rfl, (fun hc => nomatch hc), fun _ => ?_⟩; array_get_dec; exact ⟨rfl, rfl⟩))
theorem number_th (n : Nat) {d : D} (h : th d = true) : phi Gm tab (n + 2) i_is_number [(false, d)] = some (.v (.bl (numB d)), []) := of_ex (by
  refine phi_ex h_is_number.1 rfl ?_
  show wB Gm (phi Gm tab (n + 1)) [] F_is_number.body [some (false, d)] _
  array_get_dec
  refine call_by h_is_integer.2 rfl rfl (isint_th n h) rfl ?_
  cases d with
  | int i =>
    refine ⟨true, rfl, fun _ => ?_, fun hc => by cases hc⟩
    array_get_dec
    exact ⟨rfl, rfl⟩
  | _ => first | (unfold th at h; cases h; done) | (refine ⟨false, rfl, (fun hc => nomatch hc), fun _ => ?_⟩; array_get_dec; exact ⟨rfl, rfl⟩))
theorem tuple_th (n : Nat) {d : D} {k : Int} (h : th d = true) : phi Gm tab (n + 1) i_is_tuple [(false, d), (false, .int k)] = some (.v (.bl (tupB k d)), []) := of_ex (by
  refine phi_ex h_is_tuple.1 rfl ?_
  show wB Gm (phi Gm tab n) [] F_is_tuple.body [some (false, d), some (false, .int k)] _
  cases d <;> first | (unfold th at h; cases h; done) | (array_get_dec; exact ⟨rfl, rfl⟩))
theorem sized_th (n : Nat) {d : D} {a b : Int} (h : th d = true) : phi Gm tab (n + 1) i_is_sized [(false, d), (false, .int a), (false, .int b)] = some (.v (.bl (szB a b d)), []) := of_ex (by
  refine phi_ex h_is_sized.1 rfl ?_
  show wB Gm (phi Gm tab n) [] F_is_sized.body [some (false, d), some (false, .int a), some (false, .int b)] _
  cases d with
  | tup l =>
    array_get_dec
    refine ⟨fun hc => ?_, fun hc => ?_⟩
    · array_get_dec
      exact ⟨by show R.v (D.bl (decide ((l.length : Int) ≤ b))) = R.v (D.bl (decide (a ≤ (l.length : Int)) && decide ((l.length : Int) ≤ b))); rw [show decide (a ≤ (l.length : Int)) = true from hc, Bool.true_and], rfl⟩
    · array_get_dec
      exact ⟨by show R.v (D.bl false) = R.v (D.bl (decide (a ≤ (l.length : Int)) && decide ((l.length : Int) ≤ b))); rw [show decide (a ≤ (l.length : Int)) = false from hc, Bool.false_and], rfl⟩
  | _ => first | (unfold th at h; cases h; done) | (array_get_dec; exact ⟨rfl, rfl⟩))
end K70
set_option Elab.async false
set_option linter.all false
set_option maxRecDepth 100000
set_option maxHeartbeats 400000
namespace K70
open PySem Mi Sd
open Bal (nD of_ex sum_ints th ths ths_mem Hand)
abbrev natT (l : List Nat) : D := .tup (l.map nD)
def lotsV : Nat → List (List Nat)
  | 0 => [[]]
  | k + 1 => lotsV k ++ (lotsV k).map (· ++ [k])
theorem th3 {t : Nat} (h1 : 1 ≤ t) (h3 : t ≤ 3) : t = 1 ∨ t = 2 ∨ t = 3 := by omega
theorem b4 {b : Nat} (h1 : 1 ≤ b) (h3 : b ≤ 4) : b = 1 ∨ b = 2 ∨ b = 3 ∨ b = 4 := by omega
theorem lots_ok (n : Nat) {t : Nat} (h1 : 1 ≤ t) (h3 : t ≤ 3) : phi Gm tab (n + 1) i_lots_of [(false, nD t)] = some (.v (.lst ((lotsV t).map natT)), []) := by
  rcases th3 h1 h3 with rfl | rfl | rfl
  · kernel_rfl
  · kernel_rfl
  · kernel_rfl
def ownersV (b : Nat) : Nat → List (List Nat)
  | 0 => [[]]
  | k + 1 => (ownersV b k).flatMap fun r => (List.range (b + 1)).map fun o => r ++ [o]
def dealOf (t b : Nat) (ow : List Nat) : List Int := (List.range b).map fun one => (((List.range t).filter fun a => decide (ow.getD a 9 = one)).map fun a => (2 : Int) ^ a).sum
def dealsP (t b : Nat) : List (List Int) := sortRows ((ownersV b t).map (dealOf t b))
theorem alldeals_ok (n : Nat) {t b : Nat} (h1 : 1 ≤ t) (h3 : t ≤ 3) (g1 : 1 ≤ b) (g4 : b ≤ 4) : phi Gm tab (n + 2) i_all_deals [(false, nD t), (false, nD b)] = some (.o (.lst ((dealsP t b).map rowT)), []) := by
  rcases th3 h1 h3 with rfl | rfl | rfl <;> rcases b4 g1 g4 with rfl | rfl | rfl | rfl <;> kernel_rfl
def lotsL (b : Nat) : Nat → List (List Int)
  | 0 => [List.replicate b 0]
  | k + 1 => lotsL b k ++ (lotsL b k).flatMap fun d => (List.range b).map fun a => d.take a ++ [d.getD a 0 + 2 ^ k] ++ d.drop (a + 1)
theorem llots_ok (n : Nat) {t b : Nat} (h1 : 1 ≤ t) (h3 : t ≤ 3) (g1 : 1 ≤ b) (g4 : b ≤ 4) : phi Gm tab (n + 1) i__law_lots [(false, nD t), (false, nD b)] = some (.v (.lst ((lotsL b t).map rowT)), []) := by
  rcases th3 h1 h3 with rfl | rfl | rfl <;> rcases b4 g1 g4 with rfl | rfl | rfl | rfl <;> kernel_rfl
/-- both list the same deals; what a deal is -/
def factB (t b : Nat) : Bool := (dealsP t b).all (fun d => (lotsL b t).contains d) && (lotsL b t).all (fun d => (dealsP t b).contains d) && (dealsP t b).all fun d => decide (d.length = b) && d.all fun x => decide (0 ≤ x) && decide (x < 2 ^ t)
theorem fact_ok {t b : Nat} (h1 : 1 ≤ t) (h3 : t ≤ 3) (g1 : 1 ≤ b) (g4 : b ≤ 4) : factB t b = true := by
  rcases th3 h1 h3 with rfl | rfl | rfl <;> rcases b4 g1 g4 with rfl | rfl | rfl | rfl <;> decide +kernel
theorem fact_mem {t b : Nat} (h1 : 1 ≤ t) (h3 : t ≤ 3) (g1 : 1 ≤ b) (g4 : b ≤ 4) (d : List Int) : d ∈ lotsL b t ↔ d ∈ dealsP t b := by
  have h := fact_ok h1 h3 g1 g4
  unfold factB at h
  simp only [Bool.and_eq_true, List.all_eq_true, List.contains_iff_mem] at h
  exact ⟨h.1.2 d, h.1.1 d⟩
theorem fact_deal {t b : Nat} (h1 : 1 ≤ t) (h3 : t ≤ 3) (g1 : 1 ≤ b) (g4 : b ≤ 4) {d : List Int} (hd : d ∈ dealsP t b) : d.length = b ∧ ∀ x ∈ d, 0 ≤ x ∧ x < 2 ^ t := by
  have h := fact_ok h1 h3 g1 g4
  unfold factB at h
  simp only [Bool.and_eq_true, List.all_eq_true, decide_eq_true_eq] at h
  exact ⟨(h.2 d hd).1, (h.2 d hd).2⟩
theorem deals_ne {t b : Nat} (h1 : 1 ≤ t) (h3 : t ≤ 3) (g1 : 1 ≤ b) (g4 : b ≤ 4) : dealsP t b ≠ [] ∧ lotsL b t ≠ [] := by
  rcases th3 h1 h3 with rfl | rfl | rfl <;> rcases b4 g1 g4 with rfl | rfl | rfl | rfl <;> decide +kernel
end K70
set_option Elab.async false
set_option linter.all false
set_option maxRecDepth 100000
set_option maxHeartbeats 400000
namespace K70
open PySem Mi Sd
open Bal (nD of_ex sum_ints th ths ths_mem Hand)
/-- a row of worths below a length -/
structure POk (r : List Int) (B : Int) : Prop where
  z : gv r 0 = 0
  nn : ∀ x ∈ r, 0 ≤ x ∧ x ≤ B
  up : ∀ k, k < r.length → ∀ j, j < 3 → k.testBit j = true → gv r (k - 2 ^ j) ≤ gv r k
structure BOk (t : Nat) (r : List Int) : Prop where
  len : r.length = 2 ^ t
  p : POk r (10 ^ 31)
theorem bit_b {k j : Nat} (hk : k < 8) (hj : j < 3) : (decide ((k : Int) / ((2 ^ j : Nat) : Int) % 2 = 1)) = k.testBit j := by
  have : ∀ k : Nat, k < 8 → ∀ j : Nat, j < 3 → (decide ((k : Int) / ((2 ^ j : Nat) : Int) % 2 = 1)) = k.testBit j := by decide
  exact this k hk j hj
theorem bit_le {k j : Nat} (hk : k < 8) (hj : j < 3) (h : k.testBit j = true) : 2 ^ j ≤ k := by
  have : ∀ k : Nat, k < 8 → ∀ j : Nat, j < 3 → k.testBit j = true → 2 ^ j ≤ k := by decide
  exact this k hk j hj h
theorem bit_some {k : Nat} (hk : k < 8) (h0 : 0 < k) : ∃ j, j < 3 ∧ k.testBit j = true := by
  have : ∀ k : Nat, k < 8 → 0 < k → ∃ j : Nat, j < 3 ∧ k.testBit j = true := by decide
  exact this k hk h0
abbrev p2 (j : Nat) : D := .int ((2 ^ j : Nat) : Int)
theorem size_ix {t : Nat} (h : t ≤ 3) : idxD (.lst [.int 1, .int 2, .int 4, .int 8]) (nD t) = some (p2 t) := by
  obtain rfl | rfl | rfl | rfl : t = 0 ∨ t = 1 ∨ t = 2 ∨ t = 3 := by omega
  all_goals kernel_rfl
theorem p2_ix {j : Nat} (h : j < 3) : idxD (.lst [.int 1, .int 2, .int 4]) (nD j) = some (p2 j) := by
  obtain rfl | rfl | rfl : j = 0 ∨ j = 1 ∨ j = 2 := by omega
  all_goals kernel_rfl
theorem b_fdivP {k j : Nat} (h : j < 3) : binD .fdiv (nD k) (p2 j) = some (.int ((k : Int) / ((2 ^ j : Nat) : Int))) := by
  refine b_fdiv ?_ ?_
  · have : 0 < 2 ^ j := Nat.pow_pos (by decide)
    omega
  · obtain rfl | rfl | rfl : j = 0 ∨ j = 1 ∨ j = 2 := by omega
    all_goals decide
theorem len8 {t : Nat} (h : t ≤ 3) : 2 ^ t ≤ 8 ∧ 1 ≤ 2 ^ t := ⟨Nat.pow_le_pow_right (by decide) h, Nat.pow_pos (by decide)⟩
def lessV (f : List Int) (k : Nat) : List Int := ([0, 1, 2].filter fun j => k.testBit j).map fun j => gv f (k - 2 ^ j)
theorem less_ne {f : List Int} {k : Nat} (hk : k < 8) (h0 : 0 < k) : lessV f k ≠ [] := fun e => by
  obtain ⟨j, hj, hb⟩ := bit_some hk h0
  have : gv f (k - 2 ^ j) ∈ lessV f k := List.mem_map.mpr ⟨j, List.mem_filter.mpr ⟨by simp; omega, hb⟩, rfl⟩
  rw [e] at this
  cases this
theorem less_mem {f : List Int} {k j : Nat} (hj : j < 3) (hb : k.testBit j = true) : gv f (k - 2 ^ j) ∈ lessV f k := List.mem_map.mpr ⟨j, List.mem_filter.mpr ⟨by simp; omega, hb⟩, rfl⟩
theorem less_in {f : List Int} {k : Nat} {x : Int} (hx : x ∈ lessV f k) (hk : k < 8) (hl : k = f.length) : x ∈ f := by
  obtain ⟨j, hj, rfl⟩ := List.mem_map.mp hx
  obtain ⟨hj, hb⟩ := List.mem_filter.mp hj
  have hj3 : j < 3 := by simp at hj; omega
  have := bit_le hk hj3 hb
  have := Nat.pow_pos (n := j) (show 0 < 2 by decide)
  exact gv_mem (by omega)
theorem pok_snoc {f : List Int} {B B2 x : Int} {k : Nat} (h : POk f B) (hk : k < 8) (h0 : 0 < k) (hl : k = f.length) (hx : ∀ y ∈ lessV f k, y ≤ x) (hx0 : 0 ≤ x) (hxB : x ≤ B2) (hB : B ≤ B2) : POk (f ++ [x]) B2 := by
  refine ⟨?_, fun y hy => ?_, fun m hm j hj hb => ?_⟩
  · rw [gv_app, if_pos (by omega)]; exact h.z
  · rcases List.mem_append.mp hy with hy | hy
    · have := h.nn y hy; omega
    · rw [List.mem_singleton.mp hy]; exact ⟨hx0, hxB⟩
  · rw [List.length_append] at hm
    have hm : m < f.length + 1 := hm
    have hb2 := bit_le (by omega) hj hb
    have hp := Nat.pow_pos (n := j) (show 0 < 2 by decide)
    by_cases q : m < f.length
    · rw [gv_app, gv_app, if_pos q, if_pos (by omega)]
      exact h.up m q j hj hb
    · have e : m = k := by omega
      subst e
      rw [gv_app, gv_app, if_pos (by omega), if_neg (by omega), ← hl, Nat.sub_self]
      exact hx _ (less_mem hj hb)
theorem bid_ok (n : Nat) {hd : D} (hh : Hand hd) {t : Nat} (h1 : 1 ≤ t) (h3 : t ≤ 3) {most : Int} (m0 : 0 ≤ most) (m1 : most ≤ 10 ^ 29) : ∃ r hd', phi Gm tab (n + 3) i__law_bid [(true, hd), (false, nD t), (false, .int most)] = some (.v (rowT r), [hd']) ∧ BOk t r ∧ Hand hd' := by
  have key : ∃ r o, phi Gm tab (n + 3) i__law_bid [(true, hd), (false, nD t), (false, .int most)] = some (r, o) ∧ ∃ q hd', r = .v (rowT q) ∧ o = [hd'] ∧ BOk t q ∧ Hand hd' := by
    obtain ⟨l8, l1⟩ := len8 h3
    refine phi_ex h__law_bid.1 rfl ?_
    show wB Gm (phi Gm tab (n + 2)) [0] F__law_bid.body [some (true, hd), fz (nD t), fz (.int most), none, none, none, none] _
    dsimp only [F__law_bid]
    array_get_dec
    refine ⟨Nat.le_of_ble_eq_true rfl, ?_⟩
    array_get_dec
    refine w_forL (α := Nat) rfl ?_
    array_get_dec
    refine ⟨List.range 7, fun k => .one (.int ((1 + k : Nat) : Int)), fun pre ρ => ∃ hd x4 x5 x6, ∃ f : List Int, ρ = [some (true, hd), fz (nD t), fz (.int most), some (true, .lst (f.map .int)), x4, x5, x6] ∧ Hand hd ∧ f.length = min (pre.length + 1) (2 ^ t) ∧ POk f (pre.length * most), rfl, ⟨hd, none, none, none, [0], rfl, hh, by show 1 = min (0 + 1) _; omega, rfl, by simp, fun k hk j hj hb => by have hk : k < 1 := hk; have := bit_le (show k < 8 by omega) hj hb; have := Nat.pow_pos (n := j) (show 0 < 2 by decide); omega⟩, fun pr k sf ρ he hI => ?_, fun ρ hI => ?_⟩
    · obtain ⟨hd, x4, x5, x6, f, rfl, hh, hl, hp⟩ := hI
      have hk : k < 7 := idx_ofSplit he
      have hpk : pr.length = k := by
        have := congrArg (fun l => l[pr.length]?) he
        simp only [List.getElem?_append_right (Nat.le_refl _), Nat.sub_self, List.getElem?_cons_zero] at this
        rw [List.getElem?_eq_some_iff] at this
        obtain ⟨_, e⟩ := this
        rw [List.getElem_range] at e
        exact e
      have hmm : ((pr.length : Nat) : Int) * most ≤ ((pr ++ [k]).length : Nat) * most := Int.mul_le_mul_of_nonneg_right (by rw [List.length_append]; omega) m0
      have hms : ((pr ++ [k]).length : Nat) * most = (pr.length : Nat) * most + most := by rw [List.length_append]; show ((pr.length + 1 : Nat) : Int) * most = _; rw [Int.natCast_add, Int.add_mul]; simp
      refine ⟨_, rfl, ?_⟩
      array_get_dec
      refine ⟨_, _, _, rfl, rfl, size_ix h3, ?_⟩
      array_get_dec
      refine ⟨fun hc => ?_, fun hc => ?_⟩
      · have hc : ((1 + k : Nat) : Int) < ((2 ^ t : Nat) : Int) := of_decide_eq_true hc
        have hl : f.length = 1 + k := by omega
        array_get_dec
        refine w_compF (α := Nat) rfl ?_
        array_get_dec
        refine ⟨[0, 1, 2], fun j => .one (p2 j), fun j => (1 + k).testBit j, fun j => .int (gv f (1 + k - 2 ^ j)), rfl, fun j hj => ?_, ?_⟩
        · have hj : j < 3 := by simp at hj; omega
          refine ⟨_, rfl, ?_⟩
          array_get_dec
          refine ⟨_, _, _, rfl, rfl, b_fdivP (k := 1 + k) hj, ?_⟩
          array_get_dec
          rw [bit_b (k := 1 + k) (by omega) hj]
          refine ⟨rfl, rfl, fun hb => ?_⟩
          have := bit_le (by omega) hj hb
          have := Nat.pow_pos (n := j) (show 0 < 2 by decide)
          array_get_dec
          refine ⟨_, _, _, rfl, rfl, (show idxD (.lst (f.map .int)) (.int (((1 + k : Nat) : Int) - ((2 ^ j : Nat) : Int))) = some (.int (gv f (1 + k - 2 ^ j))) by rw [show ((1 + k : Nat) : Int) - ((2 ^ j : Nat) : Int) = ((1 + k - 2 ^ j : Nat) : Int) by omega]; exact idxL (by omega)), ?_⟩
          array_get_dec
          rfl
        have hne := less_ne (f := f) (show 1 + k < 8 by omega) (by omega)
        obtain ⟨d, hd1, e1, a1, b1, hh1⟩ := draw_ok (n + 1) hh (most + 1) (by omega) (Nat.lt_of_le_of_lt (Nat.le_of_lt ((Nat.log2_lt (by omega)).mpr (Nat.lt_of_lt_of_le (show (most + 1).natAbs < 2 ^ 100 by omega) (Nat.le_refl _)))) (by decide))
        obtain ⟨y, hd2, e2, hy, hh2⟩ := some_lst n hh1 (xs := [.int 0, .int 0, .int d]) (by show 0 < 3; decide) (by show 3 < 9000; decide)
        obtain ⟨y, rfl, hy0, hy1⟩ : ∃ z : Int, y = .int z ∧ 0 ≤ z ∧ z ≤ most := by
          simp only [List.mem_cons, List.not_mem_nil, or_false] at hy
          rcases hy with rfl | rfl | rfl
          · exact ⟨0, rfl, by omega, m0⟩
          · exact ⟨0, rfl, by omega, m0⟩
          · exact ⟨d, rfl, a1, by omega⟩
        have e0 : (([0, 1, 2].filter fun j => (1 + k).testBit j).map fun j => D.int (gv f (1 + k - 2 ^ j))) = (lessV f (1 + k)).map .int := by unfold lessV; rw [List.map_map]; rfl
        rw [e0]
        array_get_dec
        refine ⟨_, _, rfl, maxZ_b hne, ?_⟩
        array_get_dec
        refine call_by h__law_draw.2 rfl rfl e1 rfl ?_
        array_get_dec
        refine call_by h__law_some.2 rfl rfl e2 rfl ?_
        array_get_dec
        obtain ⟨g1, g2⟩ := maxZ_ok hne
        have g3 := hp.nn _ (less_in g1 (by omega) hl.symm)
        refine ⟨_, _, _, _, rfl, rfl, m_app (by rw [List.length_map]; unfold line; omega), ?_⟩
        array_get_dec
        refine ⟨hd2, _, _, _, f ++ [maxZ (lessV f (1 + k)) + y], by rw [List.map_append]; rfl, hh2, by rw [List.length_append, List.length_append]; show f.length + 1 = min (pr.length + 1 + 1) _; omega, ?_⟩
        exact pok_snoc hp (by omega) (by omega) hl.symm (fun z hz => by have := g2 z hz; omega) (by omega) (by omega) hmm
      · have hc : ¬ ((1 + k : Nat) : Int) < ((2 ^ t : Nat) : Int) := of_decide_eq_false hc
        array_get_dec
        refine ⟨hd, _, _, _, f, rfl, hh, by rw [List.length_append]; show f.length = min (pr.length + 1 + 1) _; omega, hp.z, fun x hx => by have := hp.nn x hx; omega, hp.up⟩
    · obtain ⟨hd, x4, x5, x6, f, rfl, hh, hl, hp⟩ := hI
      rw [List.length_range] at hl hp
      array_get_dec
      refine ⟨⟨by omega, hp.z, fun x hx => ?_, hp.up⟩, hh⟩
      have := hp.nn x hx
      have : ((7 : Nat) : Int) * most ≤ 7 * 10 ^ 29 := Int.mul_le_mul_of_nonneg_left m1 (by decide)
      omega
  obtain ⟨r, o, e, q, hd', rfl, rfl, c⟩ := key
  exact ⟨q, hd', e, c⟩
end K70
set_option Elab.async false
set_option linter.all false
set_option maxRecDepth 100000
set_option maxHeartbeats 400000
namespace K70
open PySem Mi Sd
open Bal (nD of_ex sum_ints th ths ths_mem Hand)
def bestW (w : List Int) (t k : Nat) : Int := maxZ (((List.range t).filter fun j => k.testBit j).map fun j => gv w j)
theorem bits_ne {t k : Nat} (h3 : t ≤ 3) (hk : k < 2 ^ t) (h0 : 0 < k) (w : List Int) : ((List.range t).filter fun j => k.testBit j).map (fun j => gv w j) ≠ [] := fun e => by
  have h8 := (len8 h3).1
  obtain ⟨j, hj, hb⟩ := bit_some (k := k) (by omega) h0
  have hjt : j < t := by
    refine Decidable.byContradiction fun z => ?_
    have := bit_le (k := k) (by omega) hj hb
    have := Nat.pow_le_pow_right (show 0 < 2 by decide) (show t ≤ j by omega)
    omega
  have : gv w j ∈ ((List.range t).filter fun j => k.testBit j).map (fun j => gv w j) := List.mem_map.mpr ⟨j, List.mem_filter.mpr ⟨List.mem_range.mpr hjt, hb⟩, rfl⟩
  rw [e] at this
  cases this
theorem bit_sub {k j i : Nat} (hk : k < 8) (hj : j < 3) (hi : i < 3) (hb : k.testBit j = true) (h : (k - 2 ^ j).testBit i = true) : k.testBit i = true := by
  have : ∀ k : Nat, k < 8 → ∀ j : Nat, j < 3 → ∀ i : Nat, i < 3 → k.testBit j = true → (k - 2 ^ j).testBit i = true → k.testBit i = true := by decide
  exact this k hk j hj i hi hb h
theorem bestW_up {w : List Int} {t k j : Nat} (h3 : t ≤ 3) (hk : k < 2 ^ t) (hj : j < 3) (hb : k.testBit j = true) (hw : ∀ i < t, 0 ≤ gv w i) : (if k - 2 ^ j = 0 then 0 else bestW w t (k - 2 ^ j)) ≤ bestW w t k := by
  have h8 := (len8 h3).1
  have hle := bit_le (show k < 8 by omega) hj hb
  have hp := Nat.pow_pos (n := j) (show 0 < 2 by decide)
  obtain ⟨m1, m2⟩ := maxZ_ok (bits_ne h3 hk (by omega) w)
  by_cases q : k - 2 ^ j = 0
  · rw [if_pos q]
    obtain ⟨i, hi, e⟩ := List.mem_map.mp m1
    have := hw i (List.mem_range.mp (List.mem_filter.mp hi).1)
    unfold bestW
    omega
  · rw [if_neg q]
    obtain ⟨g1, g2⟩ := maxZ_ok (bits_ne h3 (show k - 2 ^ j < 2 ^ t by omega) (by omega) w)
    obtain ⟨i, hi, e⟩ := List.mem_map.mp g1
    obtain ⟨hi1, hi2⟩ := List.mem_filter.mp hi
    have hit := List.mem_range.mp hi1
    refine m2 _ (List.mem_map.mpr ⟨i, List.mem_filter.mpr ⟨hi1, bit_sub (by omega) hj (by omega) hb hi2⟩, e⟩)
theorem single_ok (n : Nat) {hd : D} (hh : Hand hd) {t : Nat} (h1 : 1 ≤ t) (h3 : t ≤ 3) {most : Int} (m0 : 0 ≤ most) (m1 : most ≤ 10 ^ 29) : ∃ r hd', phi Gm tab (n + 3) i__law_single_bid [(true, hd), (false, nD t), (false, .int most)] = some (.v (rowT r), [hd']) ∧ BOk t r ∧ Hand hd' := by
  have key : ∃ r o, phi Gm tab (n + 3) i__law_single_bid [(true, hd), (false, nD t), (false, .int most)] = some (r, o) ∧ ∃ q hd', r = .v (rowT q) ∧ o = [hd'] ∧ BOk t q ∧ Hand hd' := by
    obtain ⟨l8, l1⟩ := len8 h3
    refine phi_ex h__law_single_bid.1 rfl ?_
    show wB Gm (phi Gm tab (n + 2)) [0] F__law_single_bid.body [some (true, hd), fz (nD t), fz (.int most), none, none, none, none] _
    dsimp only [F__law_single_bid]
    array_get_dec
    refine w_compI rfl ?_
    array_get_dec
    refine ⟨t, _, rfl, range_ok (by omega), ?_⟩
    refine ⟨fun i acc ρ => ∃ hd, ∃ w : List Int, ρ = [some (true, hd), fz (nD t), fz (.int most), none, none, none, none] ∧ Hand hd ∧ acc = w.map .int ∧ w.length = i ∧ ∀ x ∈ w, 0 ≤ x ∧ x ≤ most, ⟨hd, [], rfl, hh, rfl, rfl, (fun _ z => nomatch z)⟩, fun i x acc ρ hx hI => ?_, fun acc ρ2 hI => ?_⟩
    · obtain ⟨hd, w, rfl, hh, rfl, hi, hw⟩ := hI
      obtain ⟨v, _, rfl⟩ := List.mem_map.mp (List.mem_of_getElem? hx)
      obtain ⟨d, hd1, e1, a1, b1, hh1⟩ := draw_ok (n + 1) hh (most + 1) (by omega) (Nat.lt_of_le_of_lt (Nat.le_of_lt ((Nat.log2_lt (by omega)).mpr (Nat.lt_of_lt_of_le (show (most + 1).natAbs < 2 ^ 100 by omega) (Nat.le_refl _)))) (by decide))
      refine ⟨_, rfl, ?_⟩
      array_get_dec
      refine call_by h__law_draw.2 rfl rfl e1 rfl ?_
      array_get_dec
      refine ⟨_, _, rfl, hd1, w ++ [d], rfl, hh1, by rw [List.map_append]; rfl, by rw [List.length_append, hi]; rfl, fun q hq => ?_⟩
      rcases List.mem_append.mp hq with hq | hq
      · exact hw q hq
      · rw [List.mem_singleton.mp hq]; omega
    · obtain ⟨hd, w, rfl, hh, rfl, hi, hw⟩ := hI
      have hi : w.length = t := by simpa using hi
      have hw0 : ∀ i < t, 0 ≤ gv w i := fun i hi' => (hw _ (gv_mem (by omega))).1
      array_get_dec
      refine ⟨Nat.le_of_ble_eq_true rfl, ?_⟩
      array_get_dec
      refine w_forL (α := Nat) rfl ?_
      array_get_dec
      refine ⟨_, _, _, rfl, rfl, size_ix h3, ?_⟩
      refine ⟨1, 2 ^ t, _, rfl, rfl, range2_ok (i := 1) (j := 2 ^ t) (by decide) (by omega), ?_⟩
      refine ⟨List.range (2 ^ t - 1), fun k => .one (.int ((1 + k : Nat) : Int)), fun pre ρ => ∃ x5, ρ = [some (true, hd), fz (nD t), fz (.int most), fz (.lst (w.map .int)), some (true, .lst ((0 :: pre.map fun k => bestW w t (1 + k)).map .int)), x5, none], by rw [List.map_map]; rfl, ⟨none, rfl⟩, fun pr k sf ρ he hI => ?_, fun ρ hI => ?_⟩
      · obtain ⟨x5, rfl⟩ := hI
        have hk : k < 2 ^ t - 1 := idx_ofSplit he
        have hpr : pr.length < 8 := by have := congrArg List.length he; rw [List.length_range, List.length_append, List.length_cons] at this; omega
        refine ⟨_, rfl, ?_⟩
        array_get_dec
        refine w_compF (α := Nat) rfl ?_
        array_get_dec
        refine ⟨t, _, rfl, range_ok (by omega), ?_⟩
        refine ⟨List.range t, fun j => .one (.int (j : Nat)), fun j => (1 + k).testBit j, fun j => .int (gv w j), range_itm _, fun j hj => ?_, ?_⟩
        · have hj := List.mem_range.mp hj
          refine ⟨_, rfl, ?_⟩
          array_get_dec
          refine ⟨_, _, _, rfl, rfl, p2_ix (j := j) (by omega), ?_⟩
          array_get_dec
          refine ⟨_, _, _, rfl, rfl, b_fdivP (k := 1 + k) (show j < 3 by omega), ?_⟩
          array_get_dec
          rw [bit_b (k := 1 + k) (by omega) (show j < 3 by omega)]
          refine ⟨rfl, rfl, fun hb => ?_⟩
          array_get_dec
          refine ⟨_, _, _, rfl, rfl, idxL (by omega), ?_⟩
          array_get_dec
          rfl
        have e0 : (((List.range t).filter fun j => (1 + k).testBit j).map fun j => D.int (gv w j)) = (((List.range t).filter fun j => (1 + k).testBit j).map fun j => gv w j).map .int := by rw [List.map_map]; rfl
        rw [e0]
        array_get_dec
        refine ⟨_, _, rfl, maxZ_b (bits_ne h3 (by omega) (by omega) w), ?_⟩
        array_get_dec
        refine ⟨_, _, _, _, rfl, rfl, m_app (by rw [List.length_map, List.length_cons, List.length_map]; unfold line; omega), ?_⟩
        array_get_dec
        exact ⟨_, by rw [List.map_append, List.map_cons, List.map_cons, List.map_append]; rfl⟩
      · obtain ⟨x5, rfl⟩ := hI
        array_get_dec
        have hg : ∀ i, i < 2 ^ t → gv (0 :: (List.range (2 ^ t - 1)).map fun k => bestW w t (1 + k)) i = if i = 0 then 0 else bestW w t i := fun i hi => by
          cases i with
          | zero => rfl
          | succ i =>
            rw [if_neg (by omega)]
            unfold gv
            rw [List.getD_eq_getElem?_getD, List.getElem?_cons_succ, List.getElem?_map, List.getElem?_range (by omega)]
            show bestW w t (1 + i) = _
            rw [Nat.add_comm]
        have hlen : (0 :: (List.range (2 ^ t - 1)).map fun k => bestW w t (1 + k)).length = 2 ^ t := by rw [List.length_cons, List.length_map, List.length_range]; omega
        refine ⟨⟨hlen, rfl, fun x hx => ?_, fun k hk j hj hb => ?_⟩, hh⟩
        · rcases List.mem_cons.mp hx with e | hx
          · rw [e]; decide
          · obtain ⟨k, hk, rfl⟩ := List.mem_map.mp hx
            have hk := List.mem_range.mp hk
            obtain ⟨g1, g2⟩ := maxZ_ok (bits_ne h3 (show 1 + k < 2 ^ t by omega) (by omega) w)
            obtain ⟨i, hi, e⟩ := List.mem_map.mp g1
            have := hw _ (gv_mem (show i < w.length by have := List.mem_range.mp (List.mem_filter.mp hi).1; omega))
            unfold bestW
            rw [← e]
            omega
        · rw [hlen] at hk
          have := bit_le (show k < 8 by omega) hj hb
          have hp := Nat.pow_pos (n := j) (show 0 < 2 by decide)
          rw [hg k hk, hg (k - 2 ^ j) (by omega), if_neg (show ¬ k = 0 by omega)]
          exact bestW_up h3 hk hj hb hw0
  obtain ⟨r, o, e, q, hd', rfl, rfl, c⟩ := key
  exact ⟨q, hd', e, c⟩
abbrev bidsD (B : List (List Int)) : D := .tup (B.map rowT)
structure WOk (t : Nat) (B : List (List Int)) : Prop where
  l1 : 1 ≤ B.length
  l4 : B.length ≤ 4
  row : ∀ r ∈ B, BOk t r
theorem zero_ok (t : Nat) : BOk t (List.replicate (2 ^ t) 0) := by
  have hg : ∀ i, gv (List.replicate (2 ^ t) 0) i = 0 := fun i => by
    unfold gv
    rw [List.getD_eq_getElem?_getD, List.getElem?_replicate]
    split <;> rfl
  refine ⟨List.length_replicate, hg 0, fun x hx => ?_, fun k hk j hj hb => by rw [hg, hg]; exact Int.le_refl _⟩
  rw [List.eq_of_mem_replicate hx]; decide
theorem zeros_mul {t : Nat} (h3 : t ≤ 3) : binD .mul (.tup [.int 0]) (.int (((2 ^ t : Nat)) : Int)) = some (rowT (List.replicate (2 ^ t) 0)) := by
  obtain rfl | rfl | rfl | rfl : t = 0 ∨ t = 1 ∨ t = 2 ∨ t = 3 := by omega
  all_goals kernel_rfl
theorem bids_ok (n : Nat) {hd : D} (hh : Hand hd) {t : Nat} (h1 : 1 ≤ t) (h3 : t ≤ 3) : ∃ B hd', phi Gm tab (n + 4) i__law_bids [(true, hd), (false, nD t)] = some (.v (bidsD B), [hd']) ∧ WOk t B ∧ Hand hd' := by
  have key : ∃ r o, phi Gm tab (n + 4) i__law_bids [(true, hd), (false, nD t)] = some (r, o) ∧ ∃ B hd', r = .v (bidsD B) ∧ o = [hd'] ∧ WOk t B ∧ Hand hd' := by
    refine phi_ex h__law_bids.1 rfl ?_
    show wB Gm (phi Gm tab (n + 3)) [0] F__law_bids.body [some (true, hd), fz (nD t), none, none, none, none, none, none] _
    obtain ⟨y, hd1, e1, hy, hh1⟩ := some_lst (n + 1) hh (xs := [.int 2, .int 6, .int 99, .int (10 ^ 29)]) (by show 0 < 4; decide) (by show 4 < 9000; decide)
    obtain ⟨most, rfl, m0, m1⟩ : ∃ z : Int, y = .int z ∧ 0 ≤ z ∧ z ≤ 10 ^ 29 := by
      simp only [List.mem_cons, List.not_mem_nil, or_false] at hy
      rcases hy with rfl | rfl | rfl | rfl
      · exact ⟨_, rfl, by decide, by decide⟩
      · exact ⟨_, rfl, by decide, by decide⟩
      · exact ⟨_, rfl, by decide, by decide⟩
      · exact ⟨_, rfl, by decide, by decide⟩
    obtain ⟨b, hd2, e2, hb, hh2⟩ := draw_nat (n + 2) hh1 (L := 4) (by decide) (by decide)
    dsimp only [F__law_bids]
    array_get_dec
    refine call_by h__law_some.2 rfl rfl e1 rfl ?_
    array_get_dec
    refine w_compI rfl ?_
    array_get_dec
    refine call_by h__law_draw.2 rfl rfl e2 rfl ?_
    array_get_dec
    refine ⟨1 + b, _, rfl, (show rangeD 0 (1 + (b : Int)) = _ by rw [show (1 : Int) + (b : Int) = ((1 + b : Nat) : Int) by omega]; exact range_ok (by omega)), ?_⟩
    refine ⟨fun i acc ρ => ∃ hd, ∃ B : List (List Int), ρ = [some (true, hd), fz (nD t), fz (.int most), none, none, none, none, none] ∧ Hand hd ∧ acc = B.map rowT ∧ B.length = i ∧ ∀ x ∈ B, BOk t x, ⟨hd2, [], rfl, hh2, rfl, rfl, (fun _ z => nomatch z)⟩, fun i x acc ρ hx hI => ?_, fun acc ρ2 hI => ?_⟩
    · obtain ⟨hd, B, rfl, hh, rfl, hi, hB⟩ := hI
      obtain ⟨v, _, rfl⟩ := List.mem_map.mp (List.mem_of_getElem? hx)
      obtain ⟨r, hd1, e1, hr, hh1⟩ := bid_ok n hh h1 h3 m0 m1
      refine ⟨_, rfl, ?_⟩
      array_get_dec
      refine call_by h__law_bid.2 rfl rfl e1 rfl ?_
      array_get_dec
      refine ⟨_, _, rfl, hd1, B ++ [r], rfl, hh1, by rw [List.map_append]; rfl, by rw [List.length_append, hi]; rfl, fun q hq => ?_⟩
      rcases List.mem_append.mp hq with hq | hq
      · exact hB q hq
      · rw [List.mem_singleton.mp hq]; exact hr
    · obtain ⟨hd, B, rfl, hh, rfl, hi, hB⟩ := hI
      have hl : B.length = 1 + b := by simpa using hi
      obtain ⟨a, hd1, e1, ha, hh1⟩ := draw_nat (n + 2) hh (L := B.length) (by omega) (by omega)
      have ea : ∀ j, j < B.length → idxD (.lst (B.map rowT)) (.int (j : Nat)) = some (rowT (B.getD j [])) := fun j hj => idx_l (by rw [List.getElem?_map, List.getElem?_eq_getElem hj, List.getD_eq_getElem?_getD, List.getElem?_eq_getElem hj]; rfl)
      have hmem : ∀ j, j < B.length → B.getD j [] ∈ B := fun j hj => by rw [List.getD_eq_getElem?_getD, List.getElem?_eq_getElem hj]; exact List.getElem_mem hj
      obtain ⟨y, hd2, e2, hy, hh2⟩ := some_lst (n + 1) hh1 (xs := B.map rowT) (by rw [List.length_map]; omega) (by rw [List.length_map]; omega)
      obtain ⟨y, hy2, rfl⟩ := List.mem_map.mp hy
      obtain ⟨s, hd3, e3, hs, hh3⟩ := single_ok n hh2 h1 h3 m0 m1
      obtain ⟨z, hd4, e4, hz, hh4⟩ := some_lst (n + 1) hh3 (xs := [rowT (B.getD a []), rowT y, rowT s, rowT (List.replicate (2 ^ t) 0)]) (by show 0 < 4; decide) (by show 4 < 9000; decide)
      obtain ⟨z, rfl, hzo⟩ : ∃ q, z = rowT q ∧ BOk t q := by
        simp only [List.mem_cons, List.not_mem_nil, or_false] at hz
        rcases hz with rfl | rfl | rfl | rfl
        · exact ⟨_, rfl, hB _ (hmem a ha)⟩
        · exact ⟨_, rfl, hB _ hy2⟩
        · exact ⟨_, rfl, hs⟩
        · exact ⟨_, rfl, zero_ok t⟩
      array_get_dec
      refine call_by h__law_draw.2 rfl rfl (show phi Gm tab (n + 3) i__law_draw [(true, hd), (false, .int (((B.map rowT).length : Nat)))] = _ by rw [List.length_map]; exact e1) rfl ?_
      array_get_dec
      refine ⟨_, _, _, rfl, rfl, ea a ha, ?_⟩
      array_get_dec
      refine call_by h__law_some.2 rfl rfl e2 rfl ?_
      array_get_dec
      refine call_by h__law_single_bid.2 rfl rfl e3 rfl ?_
      array_get_dec
      refine ⟨_, _, _, rfl, rfl, ea 0 (by omega), ?_⟩
      array_get_dec
      refine ⟨_, _, _, rfl, rfl, (show binD .mul (.tup [.int 0]) (.int ((((B.getD 0 []).map D.int).length : Nat))) = _ by rw [List.length_map, (hB _ (hmem 0 (by omega))).len]; exact zeros_mul h3), ?_⟩
      array_get_dec
      refine call_by h__law_some.2 rfl rfl e4 rfl ?_
      array_get_dec
      rw [show cut (B.map rowT) none (some ((a : Nat) : Int)) = (B.map rowT).take a from cut_to]
      refine ⟨_, _, _, rfl, rfl, b_catL (by rw [List.length_take]; show _ + 1 ≤ line; unfold line; omega), ?_⟩
      array_get_dec
      rw [show cut (B.map rowT) (some (((a : Nat) : Int) + 1)) none = (B.map rowT).drop (a + 1) by rw [show ((a : Nat) : Int) + 1 = ((a + 1 : Nat) : Int) by omega]; exact cut_from]
      refine ⟨_, _, _, rfl, rfl, b_catL (by rw [List.length_append, List.length_take, List.length_drop]; show _ + 1 + _ ≤ line; unfold line; rw [List.length_map]; omega), ?_⟩
      array_get_dec
      refine ⟨B.take a ++ [z] ++ B.drop (a + 1), _, by rw [bidsD, List.map_append, List.map_append, List.map_take, List.map_drop]; rfl, rfl, ⟨?_, ?_, fun r hr => ?_⟩, hh4⟩
      · rw [List.length_append, List.length_append]; show 1 ≤ _ + 1 + _; omega
      · rw [List.length_append, List.length_append, List.length_take, List.length_drop]; show _ + 1 + _ ≤ 4; omega
      · rcases List.mem_append.mp hr with hr | hr
        · rcases List.mem_append.mp hr with hr | hr
          · exact hB r (List.mem_of_mem_take hr)
          · rw [List.mem_singleton.mp hr]; exact hzo
        · exact hB r (List.mem_of_mem_drop hr)
  obtain ⟨r, o, e, B, hd', rfl, rfl, c⟩ := key
  exact ⟨B, hd', e, c⟩
end K70
set_option Elab.async false
set_option linter.all false
set_option maxRecDepth 100000
set_option maxHeartbeats 400000
namespace K70
open PySem Mi Sd
open Bal (nD of_ex sum_ints th ths ths_mem Hand)
theorem inNat {l : List Nat} {x : Nat} : inD (nD x) (natT l) = some (l.contains x) := by
  have h1 : ∀ l : List Nat, (l.map nD).all flatD = true := fun l => by rw [List.all_map, List.all_eq_true]; exact fun _ _ => rfl
  have h2 : ∀ l : List Nat, ((l.map nD).any fun z => eqF z (nD x)) = l.contains x := fun l => by
    induction l with
    | nil => rfl
    | cons a r ih =>
      rw [List.map_cons, List.any_cons, ih, List.contains_cons]
      congr 1
      show ((a : Int) == (x : Int)) = _
      rw [Bool.eq_iff_iff, beq_iff_eq, beq_iff_eq]
      omega
  show (if (flatD (nD x) && (l.map nD).all flatD) = true then some ((l.map nD).any fun z => eqF z (nD x)) else _) = _
  rw [if_pos (by rw [h1]; rfl), h2]
def toI : D → Int
  | .int i => i
  | _ => 0
def monoL (t : Nat) (r : List Int) : Bool := (List.range (2 ^ t)).all fun k => !([0, 1, 2].any fun j => k.testBit j && decide (gv r k < gv r (k - 2 ^ j)))
def subB (p q : List Nat × Nat) : Bool := p.1.all fun x => q.1.contains x
def monoP (t : Nat) (r : List Int) : Bool := (lotsV t).zipIdx.all fun q => (lotsV t).zipIdx.all fun q2 => !(subB q q2 && decide (gv r q2.2 < gv r q.2))
def rowB (t : Nat) : D → Bool
  | .tup l => decide (l.length = 2 ^ t) && (l.all numB && (decide (gv (l.map toI) 0 = 0) && monoL t (l.map toI)))
  | _ => false
def bidsB (t : Nat) : D → Bool
  | .tup l => (decide (1 ≤ l.length) && decide (l.length ≤ 4)) && l.all (rowB t)
  | _ => false
theorem toI_map (r : List Int) : (r.map D.int).map toI = r := by rw [List.map_map]; exact List.map_id r
theorem nums_map {r : List Int} (h : ∀ x ∈ r, 0 ≤ x) : (r.map D.int).all numB = true := by
  rw [List.all_map, List.all_eq_true]
  exact fun x hx => decide_eq_true (h x hx)
theorem monoL_of {t : Nat} {r : List Int} (h : BOk t r) (h3 : t ≤ 3) : monoL t r = true := by
  unfold monoL
  rw [List.all_eq_true]
  intro k hk
  rw [Bool.not_eq_true', List.any_eq_false]
  intro j hj hb
  rw [Bool.and_eq_true, decide_eq_true_eq] at hb
  have := h.p.up k (by rw [h.len]; exact List.mem_range.mp hk) j (by simp at hj; omega) hb.1
  omega
theorem rowB_of {t : Nat} {r : List Int} (h : BOk t r) (h3 : t ≤ 3) : rowB t (rowT r) = true := by
  show (decide ((r.map D.int).length = 2 ^ t) && ((r.map D.int).all numB && (decide (gv ((r.map D.int).map toI) 0 = 0) && monoL t ((r.map D.int).map toI)))) = true
  rw [toI_map, monoL_of h h3, nums_map fun x hx => (h.p.nn x hx).1, h.p.z, List.length_map, h.len]
  simp
theorem bidsB_of {t : Nat} {B : List (List Int)} (h : WOk t B) (h3 : t ≤ 3) : bidsB t (bidsD B) = true := by
  show ((decide (1 ≤ (B.map rowT).length) && decide ((B.map rowT).length ≤ 4)) && (B.map rowT).all (rowB t)) = true
  rw [List.length_map, decide_eq_true h.l1, decide_eq_true h.l4, List.all_map, show B.all (rowB t ∘ rowT) = true from List.all_eq_true.mpr fun r hr => rowB_of (h.row r hr) h3]
  rfl
theorem mono_eq {t : Nat} (h1 : 1 ≤ t) (h3 : t ≤ 3) {r : List Int} (hl : r.length = 2 ^ t) : monoP t r = monoL t r := by
  rcases th3 h1 h3 with rfl | rfl | rfl
  · match r, hl with
    | [a, b], _ =>
      rw [Bool.eq_iff_iff]
      simp +decide [monoP, monoL, subB, lotsV, gv, List.range_succ, Nat.testBit]
  · match r, hl with
    | [a, b, c, d], _ =>
      rw [Bool.eq_iff_iff]
      simp +decide [monoP, monoL, subB, lotsV, gv, List.range_succ, Nat.testBit]
      omega
  · match r, hl with
    | [a, b, c, d, e, f, g, h], _ =>
      rw [Bool.eq_iff_iff]
      simp +decide [monoP, monoL, subB, lotsV, gv, List.range_succ, Nat.testBit]
      omega
theorem lots_len {t : Nat} : (lotsV t).length = 2 ^ t := by
  induction t with
  | zero => rfl
  | succ k ih => unfold lotsV; rw [List.length_append, List.length_map, ih, Nat.pow_succ]; omega
theorem zipIdx_lt {α : Type} {l : List α} {q : α × Nat} (h : q ∈ l.zipIdx) : q.2 < l.length := by
  have := List.snd_lt_of_mem_zipIdx h
  omega
theorem worths_th (n : Nat) {t : Nat} (h1 : 1 ≤ t) (h3 : t ≤ 3) {d : D} (h : th d = true) : phi Gm tab (n + 3) i_are_worths [(false, d), (false, nD t)] = some (.v (.bl (rowB t d)), []) := of_ex (by
  obtain ⟨l8, l1⟩ := len8 h3
  refine phi_ex h_are_worths.1 rfl ?_
  show wB Gm (phi Gm tab (n + 2)) [] F_are_worths.body [fz d, fz (nD t), none, none, none, none, none, none] _
  dsimp only [F_are_worths]
  array_get_dec
  refine call_by h_lots_of.2 rfl rfl (lots_ok (n + 1) h1 h3) rfl ?_
  array_get_dec
  have ht := tuple_th (n + 1) (k := ((2 ^ t : Nat) : Int)) h
  refine call_by h_is_tuple.2 rfl rfl (show phi Gm tab (n + 2) i_is_tuple [(false, d), (false, .int ((((lotsV t).map natT).length : Nat)))] = _ by rw [List.length_map, lots_len]; exact ht) rfl ?_
  cases q : tupB ((2 ^ t : Nat) : Int) d with
  | false =>
    have e : rowB t d = false := by
      cases d with
      | tup l =>
        have : ¬ ((l.length : Int) = ((2 ^ t : Nat) : Int)) := of_decide_eq_false q
        show (decide (l.length = 2 ^ t) && _) = false
        rw [decide_eq_false (by omega), Bool.false_and]
      | _ => rfl
    array_get_dec
    exact ⟨by rw [e], rfl⟩
  | true =>
    obtain ⟨l, rfl, hl⟩ : ∃ l, d = .tup l ∧ l.length = 2 ^ t := by
      cases d with
      | tup l => exact ⟨l, rfl, by have : ((l.length : Int) = ((2 ^ t : Nat) : Int)) := of_decide_eq_true q; omega⟩
      | _ => cases q
    have hth : ∀ x ∈ l, th x = true := fun x hx => ths_mem (by unfold th at h; exact h) hx
    array_get_dec
    refine w_compF (α := D) rfl ?_
    array_get_dec
    refine ⟨l, Itm.one, fun _ => true, fun x => .bl (numB x), rfl, fun x hx => ?_, ?_⟩
    · refine ⟨_, rfl, ?_⟩
      array_get_dec
      refine ⟨rfl, rfl, fun _ => ?_⟩
      array_get_dec
      refine call_by h_is_number.2 rfl rfl (number_th n (hth x hx)) rfl ?_
      array_get_dec
      rfl
    rw [filt_t]
    array_get_dec
    refine ⟨_, _, rfl, all_map _ _, ?_⟩
    cases q2 : l.all numB with
    | false =>
      array_get_dec
      refine ⟨?_, rfl⟩
      show R.v (D.bl false) = R.v (D.bl (decide (l.length = 2 ^ t) && (l.all numB && _)))
      rw [q2, Bool.false_and, Bool.and_false]
    | true =>
      obtain ⟨r, rfl, hr⟩ := ints_of q2
      rw [List.length_map] at hl
      have eR : rowB t (.tup (r.map D.int)) = (decide (gv r 0 = 0) && monoL t r) := by
        show (decide ((r.map D.int).length = 2 ^ t) && ((r.map D.int).all numB && (decide (gv ((r.map D.int).map toI) 0 = 0) && monoL t ((r.map D.int).map toI)))) = _
        rw [toI_map, q2, List.length_map, hl]
        simp
      rw [eR]
      array_get_dec
      refine ⟨_, _, _, rfl, rfl, idxT (i := 0) (by omega), ?_⟩
      array_get_dec
      refine ⟨fun hc => ?_, fun hc => ?_⟩
      · have hc : ¬ gv r 0 = 0 := by simpa using hc
        array_get_dec
        exact ⟨by rw [decide_eq_false hc, Bool.false_and], rfl⟩
      · have hc : gv r 0 = 0 := by simpa using hc
        rw [decide_eq_true hc, Bool.true_and, ← mono_eq h1 h3 hl]
        array_get_dec
        refine w_forL (α := List Nat × Nat) rfl ?_
        array_get_dec
        refine ⟨(lotsV t).zipIdx, fun q => .two (.int (q.2 : Nat)) (natT q.1), fun pre ρ => (∀ q ∈ pre, ∀ q2 ∈ (lotsV t).zipIdx, (subB q q2 && decide (gv r q2.2 < gv r q.2)) = false) ∧ ∃ x3 x4 x5 x6, ρ = [fz (.tup (r.map .int)), fz (nD t), fz (.lst ((lotsV t).map natT)), x3, x4, x5, x6, none], enum_map natT (lotsV t) 0, ⟨(fun _ z => nomatch z), none, none, none, none, rfl⟩, fun pr q sf ρ he hI => ?_, fun ρ hI => ?_⟩
        · obtain ⟨hpr, x3, x4, x5, x6, rfl⟩ := hI
          have hq : q ∈ (lotsV t).zipIdx := by rw [he]; simp
          have hqr : q.2 < r.length := by rw [hl, ← lots_len]; exact zipIdx_lt hq
          refine ⟨_, rfl, ?_⟩
          array_get_dec
          refine w_forL (α := List Nat × Nat) rfl ?_
          array_get_dec
          refine ⟨(lotsV t).zipIdx, fun q => .two (.int (q.2 : Nat)) (natT q.1), fun pre ρ => (∀ q2 ∈ pre, (subB q q2 && decide (gv r q2.2 < gv r q.2)) = false) ∧ ∃ x5 x6, ρ = [fz (.tup (r.map .int)), fz (nD t), fz (.lst ((lotsV t).map natT)), fz (.int (q.2 : Nat)), fz (natT q.1), x5, x6, none], enum_map natT (lotsV t) 0, ⟨(fun _ z => nomatch z), _, _, rfl⟩, fun pr2 q2 sf2 ρ he2 hI => ?_, fun ρ hI => ?_⟩
          · obtain ⟨hpr2, x5, x6, rfl⟩ := hI
            have hq2 : q2 ∈ (lotsV t).zipIdx := by rw [he2]; simp
            have hqr2 : q2.2 < r.length := by rw [hl, ← lots_len]; exact zipIdx_lt hq2
            have bad : (subB q q2 && decide (gv r q2.2 < gv r q.2)) = true → monoP t r = false := fun hb => by
              unfold monoP
              rw [List.all_eq_false]
              refine ⟨q, hq, ?_⟩
              rw [Bool.not_eq_true, List.all_eq_false]
              exact ⟨q2, hq2, by rw [hb]; decide⟩
            have good : (subB q q2 && decide (gv r q2.2 < gv r q.2)) = false → ∀ z ∈ pr2 ++ [q2], (subB q z && decide (gv r z.2 < gv r q.2)) = false := fun hb z hz => by
              rcases List.mem_append.mp hz with hz | hz
              · exact hpr2 z hz
              · rw [List.mem_singleton.mp hz]; exact hb
            refine ⟨_, rfl, ?_⟩
            array_get_dec
            refine w_compF (α := Nat) rfl ?_
            array_get_dec
            refine ⟨q.1, fun x => .one (nD x), fun _ => true, fun x => .bl (q2.1.contains x), by rw [List.map_map]; rfl, fun x hx => ?_, ?_⟩
            · refine ⟨_, rfl, ?_⟩
              array_get_dec
              refine ⟨rfl, rfl, fun _ => ?_⟩
              array_get_dec
              refine ⟨_, _, _, rfl, rfl, inNat, ?_⟩
              array_get_dec
              rfl
            rw [filt_t]
            array_get_dec
            refine ⟨_, _, rfl, all_map (fun x => q2.1.contains x) _, ?_⟩
            array_get_dec
            refine ⟨fun hs => ?_, fun hs => ?_⟩
            · array_get_dec
              refine ⟨_, _, _, rfl, rfl, idxT hqr, ?_⟩
              array_get_dec
              refine ⟨_, _, _, rfl, rfl, idxT hqr2, ?_⟩
              array_get_dec
              refine ⟨fun hc => ?_, fun hc => ?_⟩
              · array_get_dec
                exact ⟨by rw [bad (by rw [show subB q q2 = true from hs]; exact hc)], rfl⟩
              · array_get_dec
                exact ⟨good (by rw [show decide (gv r q2.2 < gv r q.2) = false from hc, Bool.and_false]), _, _, rfl⟩
            · array_get_dec
              exact ⟨good (by rw [show subB q q2 = false from hs, Bool.false_and]), _, _, rfl⟩
          · obtain ⟨hpr2, x5, x6, rfl⟩ := hI
            array_get_dec
            refine ⟨fun z hz => ?_, _, _, _, _, rfl⟩
            rcases List.mem_append.mp hz with hz | hz
            · exact hpr z hz
            · rw [List.mem_singleton.mp hz]; exact hpr2
        · obtain ⟨hpr, x3, x4, x5, x6, rfl⟩ := hI
          array_get_dec
          refine ⟨?_, rfl⟩
          rw [show monoP t r = true from by
            unfold monoP
            rw [List.all_eq_true]
            intro q hq
            rw [List.all_eq_true]
            intro q2 hq2
            rw [hpr q hq q2 hq2]
            rfl])
end K70
set_option Elab.async false
set_option linter.all false
set_option maxRecDepth 100000
set_option maxHeartbeats 400000
namespace K70
open PySem Mi Sd
open Bal (nD of_ex sum_ints th ths ths_mem Hand)
theorem num_law {d : D} (h : th d = true) {Φ : Phi} {ρ : Mi.Env} {i : Nat} (he : eget ρ i = some (false, d)) : wE Gm Φ (.andv (.callb .isi (.cons (.var i) (.cons (.cty "int") .nil))) (.andv (.notv (.callb .isi (.cons (.var i) (.cons (.cty "bool") .nil)))) (.cmp .ge (.var i) (.cint 0)))) ρ fun r ρ' => r = .v (.bl (numB d)) ∧ ρ' = ρ := by
  have g : ∀ Q : R → Mi.Env → Prop, Q (.v d) ρ → wE Gm Φ (.var i) ρ Q := fun Q q => w_fro he q
  cases d with
  | int z =>
    refine w_andv (w_callb (w_acons (g _ (w_acons (w_cty (w_anil ?_))))))
    refine ⟨_, _, rfl, rfl, ?_⟩
    refine ⟨_, rfl, fun _ => ?_, fun z => nomatch z⟩
    refine w_andv (w_notv (w_callb (w_acons (g _ (w_acons (w_cty (w_anil ?_)))))))
    refine ⟨_, _, rfl, rfl, ?_⟩
    refine ⟨_, rfl, ?_⟩
    refine ⟨_, rfl, fun _ => ?_, fun z => nomatch z⟩
    refine w_cmp (g _ (w_cint ?_))
    exact ⟨_, _, _, rfl, rfl, rfl, rfl, rfl⟩
  | bl b =>
    refine w_andv (w_callb (w_acons (g _ (w_acons (w_cty (w_anil ?_))))))
    refine ⟨_, _, rfl, rfl, ?_⟩
    refine ⟨_, rfl, fun _ => ?_, fun z => nomatch z⟩
    refine w_andv (w_notv (w_callb (w_acons (g _ (w_acons (w_cty (w_anil ?_)))))))
    refine ⟨_, _, rfl, rfl, ?_⟩
    refine ⟨_, rfl, ?_⟩
    exact ⟨_, rfl, (fun z => nomatch z), fun _ => ⟨rfl, rfl⟩⟩
  | _ =>
    first
    | (unfold th at h; cases h; done)
    | (refine w_andv (w_callb (w_acons (g _ (w_acons (w_cty (w_anil ?_))))))
       refine ⟨_, _, rfl, rfl, ?_⟩
       exact ⟨_, rfl, (fun z => nomatch z), fun _ => ⟨rfl, rfl⟩⟩)
theorem arebids_th (n : Nat) {t : Nat} (h1 : 1 ≤ t) (h3 : t ≤ 3) {d : D} (h : th d = true) : phi Gm tab (n + 1) i__law_are_bids [(false, nD t), (false, d)] = some (.v (.bl (bidsB t d)), []) := of_ex (by
  obtain ⟨l8, l1⟩ := len8 h3
  refine phi_ex h__law_are_bids.1 rfl ?_
  show wB Gm (phi Gm tab n) [] F__law_are_bids.body [fz (nD t), fz d, none, none, none, none] _
  dsimp only [F__law_are_bids]
  array_get_dec
  refine ⟨_, _, _, rfl, rfl, size_ix h3, ?_⟩
  array_get_dec
  cases d with
  | tup l =>
    unfold th at h
    have eB : bidsB t (.tup l) = ((decide (1 ≤ l.length) && decide (l.length ≤ 4)) && l.all (rowB t)) := rfl
    have go : 1 ≤ l.length → l.length ≤ 4 → wB Gm (phi Gm tab n) [] (dropS 2 F__law_are_bids.body) [fz (nD t), fz (.tup l), fz (p2 t), none, none, none] (Mi.Fin [false, false] fun r o => r = .v (.bl (l.all (rowB t))) ∧ o = []) := fun _ _ => by
      dsimp only [dropS, F__law_are_bids]
      array_get_dec
      refine w_forL (α := D) rfl ?_
      array_get_dec
      refine ⟨l, Itm.one, fun pre ρ => (∀ x ∈ pre, rowB t x = true) ∧ ∃ x3 x4, ρ = [fz (nD t), fz (.tup l), fz (p2 t), x3, x4, none], rfl, ⟨(fun _ z => nomatch z), none, none, rfl⟩, fun pr x sf ρ he hI => ?_, fun ρ hI => ?_⟩
      · obtain ⟨hpr, x3, x4, rfl⟩ := hI
        have hx : x ∈ l := by rw [he]; simp
        have htx := ths_mem h hx
        have bad : rowB t x = false → l.all (rowB t) = false := fun e => by
          rw [List.all_eq_false]
          exact ⟨x, hx, by rw [e]; decide⟩
        have good : rowB t x = true → ∀ z ∈ pr ++ [x], rowB t z = true := fun e z hz => by
          rcases List.mem_append.mp hz with hz | hz
          · exact hpr z hz
          · rw [List.mem_singleton.mp hz]; exact e
        refine ⟨_, rfl, ?_⟩
        have notup : rowB t x = false → (∀ k, x ≠ .tup k) → ∃ nm, tyName x = some nm ∧ isSub nm "tuple" = false := fun _ hn => by
          cases x with
          | tup k => exact absurd rfl (hn k)
          | _ => first | exact ⟨_, rfl, by decide⟩ | (unfold th at htx; cases htx)
        cases x with
        | tup k =>
          unfold th at htx
          array_get_dec
          refine ⟨fun hc => ?_, fun hc => ?_⟩
          · have hc : ¬ (k.length : Int) = ((2 ^ t : Nat) : Int) := by simpa using hc
            array_get_dec
            refine ⟨?_, rfl⟩
            rw [bad]
            show (decide (k.length = 2 ^ t) && _) = false
            rw [decide_eq_false (by omega), Bool.false_and]
          · have hc : (k.length : Int) = ((2 ^ t : Nat) : Int) := by simpa using hc
            have hk : k.length = 2 ^ t := by omega
            array_get_dec
            refine w_compF (α := D) rfl ?_
            array_get_dec
            refine ⟨k, Itm.one, fun _ => true, fun x => .bl (numB x), rfl, fun x hx => ?_, ?_⟩
            · refine ⟨_, rfl, ?_⟩
              array_get_dec
              refine ⟨rfl, rfl, fun _ => ?_⟩
              obtain ⟨r, ρ', e, rfl, rfl⟩ := num_law (ths_mem htx hx) (Φ := phi Gm tab n) (ρ := List.set (wipeE (List.set [fz (nD t), fz (.tup l), fz (p2 t), x3, x4, none] 3 (some (false, .tup k))) [5]) 5 (some (false, x))) (i := 5) rfl
              exact ⟨_, _, e, _, _, rfl, rfl, rfl⟩
            rw [filt_t]
            array_get_dec
            refine ⟨_, _, rfl, all_map _ _, ?_⟩
            cases q2 : k.all numB with
            | false =>
              array_get_dec
              refine ⟨?_, rfl⟩
              rw [bad]
              show (decide (k.length = 2 ^ t) && (k.all numB && _)) = false
              rw [q2, Bool.false_and, Bool.and_false]
            | true =>
              obtain ⟨r, rfl, hr⟩ := ints_of q2
              rw [List.length_map] at hk
              have eR : rowB t (.tup (r.map D.int)) = (decide (gv r 0 = 0) && monoL t r) := by
                show (decide ((r.map D.int).length = 2 ^ t) && ((r.map D.int).all numB && (decide (gv ((r.map D.int).map toI) 0 = 0) && monoL t ((r.map D.int).map toI)))) = _
                rw [toI_map, q2, List.length_map, hk]
                simp
              rw [eR] at bad good
              array_get_dec
              refine ⟨_, _, _, rfl, rfl, idxT (i := 0) (by omega), ?_⟩
              array_get_dec
              refine ⟨fun hc => ?_, fun hc => ?_⟩
              · have hc : ¬ gv r 0 = 0 := by simpa using hc
                array_get_dec
                exact ⟨by rw [bad (by rw [decide_eq_false hc, Bool.false_and])], rfl⟩
              · have hc : gv r 0 = 0 := by simpa using hc
                rw [decide_eq_true hc, Bool.true_and] at bad good
                array_get_dec
                refine w_forL (α := Nat) rfl ?_
                array_get_dec
                refine ⟨_, _, rfl, range_ok (j := 2 ^ t) (by omega), ?_⟩
                refine ⟨List.range (2 ^ t), fun k => .one (.int (k : Nat)), fun pre ρ => (∀ k ∈ pre, ([0, 1, 2].any fun j => k.testBit j && decide (gv r k < gv r (k - 2 ^ j))) = false) ∧ ∃ x4, ρ = [fz (nD t), fz (.tup l), fz (p2 t), fz (.tup (r.map .int)), x4, none], range_itm _, ⟨(fun _ z => nomatch z), _, rfl⟩, fun pr2 k sf2 ρ he2 hI => ?_, fun ρ hI => ?_⟩
                · obtain ⟨hpr2, x4, rfl⟩ := hI
                  have hk2 : k < 2 ^ t := idx_ofSplit he2
                  refine ⟨_, rfl, ?_⟩
                  array_get_dec
                  refine w_compF (α := Nat) rfl ?_
                  array_get_dec
                  refine ⟨[0, 1, 2], fun j => .one (p2 j), fun _ => true, fun j => .bl (k.testBit j && decide (gv r k < gv r (k - 2 ^ j))), rfl, fun j hj => ?_, ?_⟩
                  · have hj : j < 3 := by simp at hj; omega
                    refine ⟨_, rfl, ?_⟩
                    array_get_dec
                    refine ⟨rfl, rfl, fun _ => ?_⟩
                    array_get_dec
                    refine ⟨_, _, _, rfl, rfl, b_fdivP (k := k) hj, ?_⟩
                    array_get_dec
                    rw [bit_b (by omega) hj]
                    refine ⟨fun hb => ?_, fun hb => ?_⟩
                    · have := bit_le (by omega) hj hb
                      have := Nat.pow_pos (n := j) (show 0 < 2 by decide)
                      array_get_dec
                      refine ⟨_, _, _, rfl, rfl, (show idxD (.tup (r.map .int)) (.int (((k : Nat) : Int) - ((2 ^ j : Nat) : Int))) = some (.int (gv r (k - 2 ^ j))) by rw [show ((k : Nat) : Int) - ((2 ^ j : Nat) : Int) = ((k - 2 ^ j : Nat) : Int) by omega]; exact idxT (by omega)), ?_⟩
                      array_get_dec
                      refine ⟨_, _, _, rfl, rfl, idxT (by omega), ?_⟩
                      array_get_dec
                      refine ⟨_, _, rfl, ?_, rfl⟩
                      show D.bl (decide (gv r k < gv r (k - 2 ^ j))) = D.bl (k.testBit j && decide (gv r k < gv r (k - 2 ^ j)))
                      rw [hb, Bool.true_and]
                    · array_get_dec
                      refine ⟨_, _, rfl, ?_, rfl⟩
                      show D.bl false = D.bl (k.testBit j && decide (gv r k < gv r (k - 2 ^ j)))
                      rw [hb, Bool.false_and]
                  rw [filt_t]
                  repeat (first | with_reducible apply w_bcons | with_reducible apply sq_nx | with_reducible apply sq_rt | with_reducible apply w_bnil | with_reducible apply w_acons | with_reducible apply w_anil | ((with_reducible apply w_fro); rfl) | ((with_reducible apply w_own); rfl) | with_reducible apply w_cint | with_reducible apply w_cbl | with_reducible apply w_cnon | with_reducible apply w_cstr | with_reducible apply w_cty | with_reducible apply w_tup | with_reducible apply w_lst | with_reducible apply w_bin | with_reducible apply w_cmp | with_reducible apply w_idx | with_reducible apply w_neg | with_reducible apply w_rev | with_reducible apply w_attr | with_reducible apply w_notv | with_reducible apply w_andv | with_reducible apply w_orv | with_reducible apply w_chain | with_reducible apply w_ite | with_reducible apply w_sl | with_reducible apply w_callb | with_reducible apply w_call | with_reducible apply w_callx | with_reducible apply w_makex | with_reducible apply w_make | with_reducible apply w_eqi | with_reducible apply w_isit | with_reducible apply w_meth | with_reducible apply w_dic0 | with_reducible apply w_dic1 | with_reducible apply w_yes | with_reducible apply w_val | with_reducible apply w_and | with_reducible apply w_or | with_reducible apply w_not | with_reducible apply w_onone | with_reducible apply w_osome | with_reducible apply w_lrange1 | with_reducible apply w_lrange2 | with_reducible apply w_seq | with_reducible apply w_range1 | with_reducible apply w_range2 | with_reducible apply w_zip | with_reducible apply w_enum | with_reducible apply w_par | with_reducible apply w_setat | with_reducible apply w_expr | with_reducible apply w_ret | with_reducible apply w_retn | with_reducible apply w_pass | with_reducible apply w_brk | with_reducible apply w_cnt | with_reducible apply w_site | ((with_reducible refine isRt ?_); first | refine rt_v ?_ | refine rt_o ?_ | refine rt_b rfl rfl ?_) | with_reducible apply fin_v | with_reducible apply fin_o | with_reducible apply fin_n | ((with_reducible apply w_glob); rfl) | ((with_reducible apply w_fnv); rfl) | ((with_reducible apply w_isc); rfl) | ((with_reducible apply w_mut); rfl) | ((with_reducible apply w_asg); rfl) | ((with_reducible apply w_sown'); rfl) | ((with_reducible apply w_setix2); rfl) | ((with_reducible apply w_setix); rfl) | ((with_reducible apply w_setixD); rfl) | ((with_reducible apply w_augixA); rfl) | ((with_reducible apply w_augixS); rfl))
                  refine ⟨_, _, rfl, any_map (fun j => k.testBit j && decide (gv r k < gv r (k - 2 ^ j))) _, ?_⟩
                  array_get_dec
                  refine ⟨fun hc => ?_, fun hc => ?_⟩
                  · array_get_dec
                    refine ⟨?_, rfl⟩
                    rw [bad]
                    unfold monoL
                    rw [List.all_eq_false]
                    exact ⟨k, List.mem_range.mpr hk2, by rw [hc]; decide⟩
                  · array_get_dec
                    refine ⟨fun z hz => ?_, _, rfl⟩
                    rcases List.mem_append.mp hz with hz | hz
                    · exact hpr2 z hz
                    · rw [List.mem_singleton.mp hz]; exact hc
                · obtain ⟨hpr2, x4, rfl⟩ := hI
                  array_get_dec
                  refine ⟨good ?_, _, _, rfl⟩
                  unfold monoL
                  rw [List.all_eq_true]
                  intro k hk
                  rw [hpr2 k hk]
                  rfl
        | _ =>
          first
          | (unfold th at htx; cases htx; done)
          | (array_get_dec
             exact ⟨by rw [bad rfl], rfl⟩)
      · obtain ⟨hpr, x3, x4, rfl⟩ := hI
        array_get_dec
        exact ⟨by rw [show l.all (rowB t) = true from List.all_eq_true.mpr hpr], rfl⟩
    rw [eB]
    dsimp only [dropS, F__law_are_bids] at go
    array_get_dec
    refine ⟨fun hc => ?_, fun hc => ?_⟩
    · have hc : (1 : Int) ≤ (l.length : Int) := of_decide_eq_true hc
      array_get_dec
      refine ⟨fun hc2 => ?_, fun hc2 => ?_⟩
      · have hc2 : ¬ (l.length : Int) ≤ 4 := by simpa using hc2
        array_get_dec
        exact ⟨by rw [decide_eq_false (show ¬ l.length ≤ 4 by omega), Bool.and_false, Bool.false_and], rfl⟩
      · have hc2 : (l.length : Int) ≤ 4 := by simpa using hc2
        have r := go (by omega) (by omega)
        rw [decide_eq_true (show 1 ≤ l.length by omega), decide_eq_true (show l.length ≤ 4 by omega), Bool.true_and, Bool.true_and]
        exact w_bnil (sq_nx r)
    · have hc : ¬ (1 : Int) ≤ (l.length : Int) := of_decide_eq_false hc
      array_get_dec
      exact ⟨by rw [decide_eq_false (show ¬ 1 ≤ l.length by omega), Bool.false_and, Bool.false_and], rfl⟩
  | _ =>
    first
    | (unfold th at h; cases h; done)
    | (array_get_dec
       exact ⟨rfl, rfl⟩))
end K70
set_option Elab.async false
set_option linter.all false
set_option maxRecDepth 100000
set_option maxHeartbeats 400000
namespace K70
open PySem Mi Sd
open Bal (nD of_ex sum_ints th ths ths_mem Hand)
abbrev saleD (t : Nat) (b : D) : D := .ins 8 ["things", "bids"] [nD t, b]
theorem bidsB_tup {t : Nat} {d : D} (h : bidsB t d = true) : ∃ l, d = .tup l ∧ szB 1 4 d = true ∧ l.all (rowB t) = true := by
  cases d with
  | tup l =>
    have h : ((decide (1 ≤ l.length) && decide (l.length ≤ 4)) && l.all (rowB t)) = true := h
    rw [Bool.and_eq_true, Bool.and_eq_true, decide_eq_true_eq, decide_eq_true_eq] at h
    refine ⟨l, rfl, ?_, h.2⟩
    show (decide (1 ≤ (l.length : Int)) && decide ((l.length : Int) ≤ 4)) = true
    rw [decide_eq_true (by omega), decide_eq_true (by omega)]
    rfl
  | _ => cases h
theorem sale_ok (n : Nat) {t : Nat} (h1 : 1 ≤ t) (h3 : t ≤ 3) {d : D} (ht : th d = true) (h : bidsB t d = true) : phi Gm tab (n + 4) i_Sale [(true, .ins 8 [] []), (false, nD t), (false, d)] = some (.v .non, [saleD t d]) := of_ex (by
  obtain ⟨l, rfl, hs, ha⟩ := bidsB_tup h
  refine phi_ex h_Sale.1 rfl ?_
  show wB Gm (phi Gm tab (n + 3)) [0] F_Sale.body [some (true, .ins 8 [] []), fz (nD t), fz (.tup l), none] _
  dsimp only [F_Sale]
  array_get_dec
  refine call_by h_is_within.2 rfl rfl (within_th (n + 1) (d := nD t) rfl) rfl ?_
  rw [show inB 1 3 (nD t) = true by show (decide ((1 : Int) ≤ (t : Int)) && decide ((t : Int) ≤ 3)) = true; rw [decide_eq_true (by omega), decide_eq_true (by omega)]; rfl]
  array_get_dec
  refine call_by h_is_sized.2 rfl rfl (sized_th (n + 2) ht) rfl ?_
  rw [hs]
  array_get_dec
  refine w_compF (α := D) rfl ?_
  array_get_dec
  unfold th at ht
  refine ⟨l, Itm.one, fun _ => true, fun x => .bl (rowB t x), rfl, fun x hx => ?_, ?_⟩
  · refine ⟨_, rfl, ?_⟩
    array_get_dec
    refine ⟨rfl, rfl, fun _ => ?_⟩
    array_get_dec
    refine call_by h_are_worths.2 rfl rfl (worths_th n h1 h3 (ths_mem ht hx)) rfl ?_
    array_get_dec
    rfl
  rw [filt_t]
  array_get_dec
  refine ⟨_, _, rfl, all_map _ _, ?_⟩
  rw [ha]
  array_get_dec
  refine ⟨_, _, _, _, _, _, rfl, rfl, rfl, ⟨List.mem_cons_self, (by show (0 : Nat) < 900; decide)⟩, ?_⟩
  array_get_dec
  refine ⟨_, _, _, _, _, _, rfl, rfl, rfl, ⟨List.mem_cons_of_mem _ List.mem_cons_self, (by show (1 : Nat) < 900; decide)⟩, ?_⟩
  array_get_dec
  exact ⟨rfl, rfl⟩)
theorem sale_no (n : Nat) {t : Nat} (h1 : 1 ≤ t) (h3 : t ≤ 3) {d : D} (ht : th d = true) (h : bidsB t d = false) : phi Gm tab (n + 4) (i_Sale + xb) [(true, .ins 8 [] []), (false, nD t), (false, d)] = some (.v (.exc 1000 ["part"] [.str "bids"]), []) := by
  refine phi_xx (x := ⟨1000, ["part"], [.str "bids"]⟩) h_Sale.1 rfl rfl ?_
  show xB Gm (phi Gm tab (n + 3)) [0] F_Sale.body [some (true, .ins 8 [] []), fz (nD t), fz d, none] _
  dsimp only [F_Sale]
  refine x_if ?_
  array_get_dec
  refine call_by h_is_within.2 rfl rfl (within_th (n + 1) (d := nD t) rfl) rfl ?_
  rw [show inB 1 3 (nD t) = true by show (decide ((1 : Int) ≤ (t : Int)) && decide ((t : Int) ≤ 3)) = true; rw [decide_eq_true (by omega), decide_eq_true (by omega)]; rfl]
  array_get_dec
  refine x_if ?_
  array_get_dec
  refine call_by h_is_sized.2 rfl rfl (sized_th (n + 2) ht) rfl ?_
  cases q : szB 1 4 d with
  | false =>
    array_get_dec
    refine x_here (x_rais1 ?_)
    array_get_dec
    exact ⟨rfl, rfl⟩
  | true =>
    obtain ⟨l, rfl⟩ : ∃ l, d = .tup l := by
      cases d with
      | tup l => exact ⟨l, rfl⟩
      | _ => cases q
    have ha : l.all (rowB t) = false := by
      have h : ((decide (1 ≤ l.length) && decide (l.length ≤ 4)) && l.all (rowB t)) = false := h
      have q : (decide (1 ≤ (l.length : Int)) && decide ((l.length : Int) ≤ 4)) = true := q
      rw [Bool.and_eq_true, decide_eq_true_eq, decide_eq_true_eq] at q
      rw [decide_eq_true (show 1 ≤ l.length by omega), decide_eq_true (show l.length ≤ 4 by omega), Bool.true_and, Bool.true_and] at h
      exact h
    unfold th at ht
    array_get_dec
    refine w_compF (α := D) rfl ?_
    array_get_dec
    refine ⟨l, Itm.one, fun _ => true, fun x => .bl (rowB t x), rfl, fun x hx => ?_, ?_⟩
    · refine ⟨_, rfl, ?_⟩
      array_get_dec
      refine ⟨rfl, rfl, fun _ => ?_⟩
      array_get_dec
      refine call_by h_are_worths.2 rfl rfl (worths_th n h1 h3 (ths_mem ht hx)) rfl ?_
      array_get_dec
      rfl
    rw [filt_t]
    array_get_dec
    refine ⟨_, _, rfl, all_map _ _, ?_⟩
    rw [ha]
    array_get_dec
    refine x_here (x_rais1 ?_)
    array_get_dec
    exact ⟨rfl, rfl⟩
theorem sale_odd (n : Nat) {o d : D} (ht : th o = true) (h : inB 1 3 o = false) : phi Gm tab (n + 3) (i_Sale + xb) [(true, .ins 8 [] []), (false, o), (false, d)] = some (.v (.exc 1000 ["part"] [.str "things"]), []) := by
  refine phi_xx (x := ⟨1000, ["part"], [.str "things"]⟩) h_Sale.1 rfl rfl ?_
  show xB Gm (phi Gm tab (n + 2)) [0] F_Sale.body [some (true, .ins 8 [] []), fz o, fz d, none] _
  dsimp only [F_Sale]
  refine x_if ?_
  array_get_dec
  refine call_by h_is_within.2 rfl rfl (within_th n ht) rfl ?_
  rw [h]
  array_get_dec
  refine x_here (x_rais1 ?_)
  array_get_dec
  exact ⟨rfl, rfl⟩
def worthV (B : List (List Int)) (d : List Int) : Int := ((B.zip d).map fun q => gv q.1 q.2.toNat).sum
def stepP (f : List Int → Int) (a : Option (Int × List Int)) (d : List Int) : Option (Int × List Int) := match a with
  | none => some (f d, d)
  | some (w, e) => if w < f d then some (f d, d) else some (w, e)
def stepL (f : List Int → Int) (a : Option (Int × List Int)) (d : List Int) : Option (Int × List Int) := match a with
  | none => some (f d, d)
  | some (w, e) => if w < f d ∨ f d = w ∧ d < e then some (f d, d) else some (w, e)
def IsBest (f : List Int → Int) (S : List (List Int)) (x : Int × List Int) : Prop := x.2 ∈ S ∧ x.1 = f x.2 ∧ ∀ e ∈ S, f e < x.1 ∨ f e = x.1 ∧ ¬ e < x.2
theorem best_one {f : List Int → Int} {S T : List (List Int)} (hST : ∀ e, e ∈ S ↔ e ∈ T) {x y : Int × List Int} (hx : IsBest f S x) (hy : IsBest f T y) : x = y := by
  obtain ⟨x1, x2, x3⟩ := hx
  obtain ⟨y1, y2, y3⟩ := hy
  have a := x3 y.2 ((hST _).mpr y1)
  have b := y3 x.2 ((hST _).mp x1)
  rw [← y2] at a
  rw [← x2] at b
  have e1 : x.1 = y.1 := by omega
  have a2 : ¬ y.2 < x.2 := by rcases a with a | a; omega; exact a.2
  have b2 : ¬ x.2 < y.2 := by rcases b with b | b; omega; exact b.2
  exact Prod.ext e1 (List.le_antisymm a2 b2)
theorem bestP {f : List Int → Int} : ∀ {S pre : List (List Int)} {a : Option (Int × List Int)}, (pre ++ S).Pairwise (· ≤ ·) → (match a with | none => pre = [] | some x => IsBest f pre x) → match S.foldl (stepP f) a with | none => pre ++ S = [] | some x => IsBest f (pre ++ S) x
  | [], pre, a, _, h => by rw [List.append_nil]; exact h
  | d :: S, pre, a, hs, h => by
    rw [List.foldl_cons]
    have key : match stepP f a d with | none => pre ++ [d] = [] | some x => IsBest f (pre ++ [d]) x := by
      cases a with
      | none =>
        cases h
        exact ⟨by simp, rfl, fun e he => .inr ⟨by rw [List.mem_singleton.mp he], by rw [List.mem_singleton.mp he]; exact List.lt_irrefl _⟩⟩
      | some x =>
        obtain ⟨w, e⟩ := x
        obtain ⟨h1, h2, h3⟩ := h
        have hed : e ≤ d := by
          rw [List.pairwise_append] at hs
          exact hs.2.2 e h1 d List.mem_cons_self
        show match (if w < f d then some (f d, d) else some (w, e)) with | none => _ | some x => _
        by_cases q : w < f d
        · rw [if_pos q]
          refine ⟨by simp, rfl, fun z hz => ?_⟩
          rcases List.mem_append.mp hz with hz | hz
          · left
            show f z < f d
            rcases h3 z hz with c | c <;> simp only at c <;> omega
          · rw [List.mem_singleton.mp hz]
            exact .inr ⟨rfl, List.lt_irrefl _⟩
        · rw [if_neg q]
          refine ⟨List.mem_append_left _ h1, h2, fun z hz => ?_⟩
          rcases List.mem_append.mp hz with hz | hz
          · exact h3 z hz
          · rw [List.mem_singleton.mp hz]
            by_cases q2 : f d < w
            · exact .inl q2
            · exact .inr ⟨by show f d = w; omega, hed⟩
    have := bestP (S := S) (pre := pre ++ [d]) (a := stepP f a d) (by rw [List.append_assoc]; exact hs) key
    rw [List.append_assoc] at this
    exact this
theorem bestL {f : List Int → Int} : ∀ {S pre : List (List Int)} {a : Option (Int × List Int)}, (match a with | none => pre = [] | some x => IsBest f pre x) → match S.foldl (stepL f) a with | none => pre ++ S = [] | some x => IsBest f (pre ++ S) x
  | [], pre, a, h => by rw [List.append_nil]; exact h
  | d :: S, pre, a, h => by
    rw [List.foldl_cons]
    have key : match stepL f a d with | none => pre ++ [d] = [] | some x => IsBest f (pre ++ [d]) x := by
      cases a with
      | none =>
        cases h
        exact ⟨by simp, rfl, fun e he => .inr ⟨by rw [List.mem_singleton.mp he], by rw [List.mem_singleton.mp he]; exact List.lt_irrefl _⟩⟩
      | some x =>
        obtain ⟨w, e⟩ := x
        obtain ⟨h1, h2, h3⟩ := h
        show match (if w < f d ∨ f d = w ∧ d < e then some (f d, d) else some (w, e)) with | none => _ | some x => _
        by_cases q : w < f d ∨ f d = w ∧ d < e
        · rw [if_pos q]
          refine ⟨by simp, rfl, fun z hz => ?_⟩
          rcases List.mem_append.mp hz with hz | hz
          · show f z < f d ∨ f z = f d ∧ ¬ z < d
            rcases h3 z hz with c | c
            · simp only at c; left; omega
            · simp only at c
              rcases q with q | q
              · left; omega
              · right
                exact ⟨by omega, fun hzd => c.2 (List.lt_trans hzd q.2)⟩
          · rw [List.mem_singleton.mp hz]
            exact .inr ⟨rfl, List.lt_irrefl _⟩
        · rw [if_neg q]
          refine ⟨List.mem_append_left _ h1, h2, fun z hz => ?_⟩
          rcases List.mem_append.mp hz with hz | hz
          · exact h3 z hz
          · rw [List.mem_singleton.mp hz]
            show f d < w ∨ f d = w ∧ ¬ d < e
            by_cases q2 : f d < w
            · exact .inl q2
            · exact .inr ⟨by omega, fun hz => q (.inr ⟨by omega, hz⟩)⟩
    have := bestL (S := S) (pre := pre ++ [d]) (a := stepL f a d) key
    rw [List.append_assoc] at this
    exact this
def bestV (t : Nat) (B : List (List Int)) : Int × List Int := match (dealsP t B.length).foldl (stepP (worthV B)) none with
  | some x => x
  | none => (0, [])
theorem bestV_ok {t : Nat} {B : List (List Int)} (h1 : 1 ≤ t) (h3 : t ≤ 3) (h : WOk t B) : (dealsP t B.length).foldl (stepP (worthV B)) none = some (bestV t B) ∧ IsBest (worthV B) (dealsP t B.length) (bestV t B) := by
  have k := bestP (f := worthV B) (S := dealsP t B.length) (pre := []) (a := none) (by rw [List.nil_append]; exact sortRows_sorted _) rfl
  rw [List.nil_append] at k
  unfold bestV
  cases q : (dealsP t B.length).foldl (stepP (worthV B)) none with
  | none => rw [q] at k; exact absurd k (deals_ne h1 h3 h.l1 h.l4).1
  | some x => rw [q] at k; exact ⟨rfl, k⟩
theorem bestL_ok {t : Nat} {B : List (List Int)} (h1 : 1 ≤ t) (h3 : t ≤ 3) (h : WOk t B) : (lotsL B.length t).foldl (stepL (worthV B)) none = some (bestV t B) := by
  have k := bestL (f := worthV B) (S := lotsL B.length t) (pre := []) (a := none) rfl
  rw [List.nil_append] at k
  cases q : (lotsL B.length t).foldl (stepL (worthV B)) none with
  | none => rw [q] at k; exact absurd k (deals_ne h1 h3 h.l1 h.l4).2
  | some x =>
    rw [q] at k
    rw [best_one (fact_mem h1 h3 h.l1 h.l4) k (bestV_ok h1 h3 h).2]
end K70
set_option Elab.async false
set_option linter.all false
set_option maxRecDepth 100000
set_option maxHeartbeats 400000
namespace K70
open PySem Mi Sd
open Bal (nD of_ex sum_ints th ths ths_mem Hand)
def optN : Option Nat → D
  | none => .non
  | some i => nD i
def worthX (B : List (List Int)) (d : List Int) (x : Option Nat) : Int := ((d.zipIdx.filter fun q => decide (some q.2 ≠ x)).map fun q => gv (B.getD q.2 []) q.1.toNat).sum
theorem ne_opt {i : Nat} {x : Option Nat} : cmpD .ne (nD i) (optN x) = some (decide (some i ≠ x)) := by
  cases x with
  | none => rw [decide_eq_true (by simp)]; rfl
  | some j =>
    show cmpD .ne (.int i) (.int j) = _
    rw [ne_int]
    congr 1
    by_cases h : i = j
    · subst h; simp
    · rw [decide_eq_false (by omega), decide_eq_true (by simpa using h)]; rfl
theorem rowAt {B : List (List Int)} {j : Nat} (h : j < B.length) : idxD (bidsD B) (nD j) = some (rowT (B.getD j [])) := idx_t (by rw [List.getElem?_map, List.getElem?_eq_getElem h, List.getD_eq_getElem?_getD, List.getElem?_eq_getElem h]; rfl)
theorem rowIn {B : List (List Int)} {j : Nat} (h : j < B.length) : B.getD j [] ∈ B := by rw [List.getD_eq_getElem?_getD, List.getElem?_eq_getElem h]; exact List.getElem_mem h
theorem cellAt {t : Nat} {r : List Int} (h : BOk t r) {x : Int} (h0 : 0 ≤ x) (h1 : x < 2 ^ t) : idxD (rowT r) (.int x) = some (.int (gv r x.toNat)) := by
  obtain ⟨k, rfl⟩ := Int.eq_ofNat_of_zero_le h0
  have : ((2 ^ t : Nat) : Int) = 2 ^ t := by rw [Int.natCast_pow]; rfl
  exact idxT (by rw [h.len]; omega)
structure DOk (t b : Nat) (d : List Int) : Prop where
  len : d.length = b
  c : ∀ x ∈ d, 0 ≤ x ∧ x < 2 ^ t
theorem worth_ok (n : Nat) {t : Nat} {B : List (List Int)} (h : WOk t B) {d : List Int} (hd : DOk t B.length d) (x : Option Nat) : phi Gm tab (n + 1) i_worth_of [(false, bidsD B), (false, rowT d), (false, optN x)] = some (.v (.int (worthX B d x)), []) := of_ex (by
  refine phi_ex h_worth_of.1 rfl ?_
  show wB Gm (phi Gm tab n) [] F_worth_of.body [fz (bidsD B), fz (rowT d), fz (optN x), none, none] _
  dsimp only [F_worth_of]
  array_get_dec
  refine w_compF (α := Int × Nat) rfl ?_
  array_get_dec
  refine ⟨d.zipIdx, fun q => .two (nD q.2) (.int q.1), fun q => decide (some q.2 ≠ x), fun q => .int (gv (B.getD q.2 []) q.1.toNat), enum_map _ _ _, fun q hq => ?_, ?_⟩
  · have h2 := List.snd_lt_of_mem_zipIdx hq
    have h1 := hd.c _ (List.fst_mem_of_mem_zipIdx hq)
    have hb : q.2 < B.length := by rw [← hd.len]; omega
    refine ⟨_, rfl, ?_⟩
    array_get_dec
    refine ⟨_, _, _, rfl, rfl, ne_opt, ?_⟩
    array_get_dec
    refine ⟨rfl, rfl, fun _ => ?_⟩
    array_get_dec
    refine ⟨_, _, _, rfl, rfl, rowAt hb, ?_⟩
    array_get_dec
    refine ⟨_, _, _, rfl, rfl, cellAt (h.row _ (rowIn hb)) h1.1 h1.2, ?_⟩
    array_get_dec
    rfl
  · array_get_dec
    refine ⟨_, _, rfl, sum_mapI (fun q : Int × Nat => gv (B.getD q.2 []) q.1.toNat) _, ?_⟩
    array_get_dec
    exact ⟨rfl, rfl⟩)
theorem worthX_none {B : List (List Int)} {d : List Int} (h : d.length = B.length) : worthX B d none = worthV B d := by
  unfold worthX worthV
  rw [show (d.zipIdx.filter fun q => decide (some q.2 ≠ (none : Option Nat))) = d.zipIdx from List.filter_eq_self.mpr fun q _ => by simp]
  congr 1
  refine List.ext_getElem (by simp; omega) fun i h1 h2 => ?_
  simp only [List.getElem_map, List.getElem_zipIdx, List.getElem_zip, Nat.zero_add]
  rw [List.getD_eq_getElem?_getD, List.getElem?_eq_getElem (by simp at h1; omega)]
  rfl
def optD : Option (Int × List Int) → D
  | none => .non
  | some x => .tup [.int x.1, rowT x.2]
theorem dok {t b : Nat} (h1 : 1 ≤ t) (h3 : t ≤ 3) (g1 : 1 ≤ b) (g4 : b ≤ 4) {d : List Int} (hd : d ∈ dealsP t b) : DOk t b d := ⟨(fact_deal h1 h3 g1 g4 hd).1, (fact_deal h1 h3 g1 g4 hd).2⟩
theorem bestdeal_ok (n : Nat) {t : Nat} {B : List (List Int)} (h1 : 1 ≤ t) (h3 : t ≤ 3) (h : WOk t B) : phi Gm tab (n + 3) i_best_deal [(false, nD t), (false, bidsD B)] = some (.v (optD (some (bestV t B))), []) := of_ex (by
  refine phi_ex h_best_deal.1 rfl ?_
  show wB Gm (phi Gm tab (n + 2)) [] F_best_deal.body [fz (nD t), fz (bidsD B), none, none, none] _
  dsimp only [F_best_deal]
  array_get_dec
  refine w_forL (α := List Int) rfl ?_
  array_get_dec
  refine call_by h_all_deals.2 rfl rfl (show phi Gm tab (n + 2) i_all_deals [(false, nD t), (false, .int (((B.map rowT).length : Nat)))] = _ by rw [List.length_map]; exact alldeals_ok n h1 h3 h.l1 h.l4) rfl ?_
  array_get_dec
  refine ⟨dealsP t B.length, fun d => .one (rowT d), fun pre ρ => ∃ x3 x4, ρ = [fz (nD t), fz (bidsD B), fz (optD (pre.foldl (stepP (worthV B)) none)), x3, x4], by rw [List.map_map]; rfl, ⟨_, _, rfl⟩, fun pr d sf ρ he hI => ?_, fun ρ hI => ?_⟩
  · obtain ⟨x3, x4, rfl⟩ := hI
    have hd : d ∈ dealsP t B.length := by rw [he]; simp
    have hdo := dok h1 h3 h.l1 h.l4 hd
    have e := worth_ok (n + 1) h hdo none
    rw [worthX_none hdo.len] at e
    refine ⟨_, rfl, ?_⟩
    have hs := foldl_snoc (stepP (worthV B)) none pr d
    cases q : pr.foldl (stepP (worthV B)) none with
    | none =>
      array_get_dec
      refine call_by h_worth_of.2 rfl rfl e rfl ?_
      array_get_dec
      exact ⟨_, _, by rw [hs, q]; rfl⟩
    | some x =>
      obtain ⟨w, y⟩ := x
      array_get_dec
      refine call_by h_worth_of.2 rfl rfl e rfl ?_
      array_get_dec
      refine ⟨fun hc => ?_, fun hc => ?_⟩
      · have hc : w < worthV B d := of_decide_eq_true hc
        array_get_dec
        exact ⟨_, _, by rw [hs, q, show stepP (worthV B) (some (w, y)) d = some (worthV B d, d) from if_pos hc]; rfl⟩
      · have hc : ¬ w < worthV B d := of_decide_eq_false hc
        array_get_dec
        exact ⟨_, _, by rw [hs, q, show stepP (worthV B) (some (w, y)) d = some (w, y) from if_neg hc]; rfl⟩
  · obtain ⟨x3, x4, rfl⟩ := hI
    array_get_dec
    rw [(bestV_ok h1 h3 h).1]
    exact ⟨rfl, rfl⟩)
theorem lbest_ok (n : Nat) {t : Nat} {B : List (List Int)} (h1 : 1 ≤ t) (h3 : t ≤ 3) (h : WOk t B) : phi Gm tab (n + 2) i__law_best [(false, nD t), (false, bidsD B)] = some (.v (optD (some (bestV t B))), []) := of_ex (by
  refine phi_ex h__law_best.1 rfl ?_
  show wB Gm (phi Gm tab (n + 1)) [] F__law_best.body [fz (nD t), fz (bidsD B), none, none, none, none, none] _
  dsimp only [F__law_best]
  array_get_dec
  refine w_forL (α := List Int) rfl ?_
  array_get_dec
  refine call_by h__law_lots.2 rfl rfl (show phi Gm tab (n + 1) i__law_lots [(false, nD t), (false, .int (((B.map rowT).length : Nat)))] = _ by rw [List.length_map]; exact llots_ok n h1 h3 h.l1 h.l4) rfl ?_
  array_get_dec
  refine ⟨lotsL B.length t, fun d => .one (rowT d), fun pre ρ => ∃ x3 x4, ρ = [fz (nD t), fz (bidsD B), fz (optD (pre.foldl (stepL (worthV B)) none)), x3, x4, none, none], by rw [List.map_map]; rfl, ⟨_, _, rfl⟩, fun pr d sf ρ he hI => ?_, fun ρ hI => ?_⟩
  · obtain ⟨x3, x4, rfl⟩ := hI
    have hd : d ∈ dealsP t B.length := (fact_mem h1 h3 h.l1 h.l4 d).mp (by rw [he]; simp)
    have hdo := dok h1 h3 h.l1 h.l4 hd
    refine ⟨_, rfl, ?_⟩
    have hs := foldl_snoc (stepL (worthV B)) none pr d
    repeat (first | with_reducible apply w_bcons | with_reducible apply sq_nx | with_reducible apply sq_rt | with_reducible apply w_bnil | with_reducible apply w_acons | with_reducible apply w_anil | ((with_reducible apply w_fro); rfl) | ((with_reducible apply w_own); rfl) | with_reducible apply w_cint | with_reducible apply w_cbl | with_reducible apply w_cnon | with_reducible apply w_cstr | with_reducible apply w_cty | with_reducible apply w_tup | with_reducible apply w_lst | with_reducible apply w_bin | with_reducible apply w_cmp | with_reducible apply w_idx | with_reducible apply w_neg | with_reducible apply w_rev | with_reducible apply w_attr | with_reducible apply w_notv | with_reducible apply w_andv | with_reducible apply w_orv | with_reducible apply w_chain | with_reducible apply w_ite | with_reducible apply w_sl | with_reducible apply w_callb | with_reducible apply w_call | with_reducible apply w_callx | with_reducible apply w_makex | with_reducible apply w_make | with_reducible apply w_eqi | with_reducible apply w_isit | with_reducible apply w_meth | with_reducible apply w_dic0 | with_reducible apply w_dic1 | with_reducible apply w_yes | with_reducible apply w_val | with_reducible apply w_and | with_reducible apply w_or | with_reducible apply w_not | with_reducible apply w_onone | with_reducible apply w_osome | with_reducible apply w_lrange1 | with_reducible apply w_lrange2 | with_reducible apply w_seq | with_reducible apply w_range1 | with_reducible apply w_range2 | with_reducible apply w_zip | with_reducible apply w_enum | with_reducible apply w_par | with_reducible apply w_setat | with_reducible apply w_expr | with_reducible apply w_ret | with_reducible apply w_retn | with_reducible apply w_pass | with_reducible apply w_brk | with_reducible apply w_cnt | with_reducible apply w_site | ((with_reducible refine isRt ?_); first | refine rt_v ?_ | refine rt_o ?_ | refine rt_b rfl rfl ?_) | with_reducible apply fin_v | with_reducible apply fin_o | with_reducible apply fin_n | ((with_reducible apply w_glob); rfl) | ((with_reducible apply w_fnv); rfl) | ((with_reducible apply w_isc); rfl) | ((with_reducible apply w_mut); rfl) | ((with_reducible apply w_asg); rfl) | ((with_reducible apply w_sown'); rfl) | ((with_reducible apply w_setix2); rfl) | ((with_reducible apply w_setix); rfl) | ((with_reducible apply w_setixD); rfl) | ((with_reducible apply w_augixA); rfl) | ((with_reducible apply w_augixS); rfl))
    refine w_compF (α := List Int × Int) rfl ?_
    array_get_dec
    refine ⟨_, _, _, _, _, rfl, rfl, rfl, ?_⟩
    refine ⟨B.zip d, fun q => .two (rowT q.1) (.int q.2), fun _ => true, fun q => .int (gv q.1 q.2.toNat), zip_map _ _ _ _, fun q hq => ?_, ?_⟩
    · obtain ⟨hq1, hq2⟩ := List.of_mem_zip hq
      refine ⟨_, rfl, ?_⟩
      array_get_dec
      refine ⟨rfl, rfl, fun _ => ?_⟩
      array_get_dec
      refine ⟨_, _, _, rfl, rfl, cellAt (h.row _ hq1) (hdo.c _ hq2).1 (hdo.c _ hq2).2, ?_⟩
      array_get_dec
      rfl
    rw [filt_t]
    array_get_dec
    refine ⟨_, _, rfl, sum_mapI (fun q : List Int × Int => gv q.1 q.2.toNat) _, ?_⟩
    rw [show ((B.zip d).map fun q : List Int × Int => gv q.1 q.2.toNat).sum = worthV B d from rfl]
    cases q : pr.foldl (stepL (worthV B)) none with
    | none =>
      array_get_dec
      exact ⟨_, _, by rw [hs, q]; rfl⟩
    | some x =>
      obtain ⟨w, y⟩ := x
      have lt : cmpD .lt (rowT d) (rowT y) = some (decide (d < y)) := by
        show (intsD (d.map D.int)).bind (fun x => (intsD (y.map D.int)).map fun y => ltRow x y) = _
        rw [intsD_map, intsD_map]
        show some (ltRow d y) = _
        rw [ltRow_eq]
      array_get_dec
      refine ⟨fun hc => ?_, fun hc => ?_⟩
      · have hc : w < worthV B d := of_decide_eq_true hc
        array_get_dec
        exact ⟨_, _, by rw [hs, q, show stepL (worthV B) (some (w, y)) d = some (worthV B d, d) from if_pos (.inl hc)]; rfl⟩
      · have hc : ¬ w < worthV B d := of_decide_eq_false hc
        array_get_dec
        refine ⟨fun hc2 => ?_, fun hc2 => ?_⟩
        · have hc2 : worthV B d = w := of_decide_eq_true hc2
          array_get_dec
          refine ⟨_, _, _, rfl, rfl, lt, ?_⟩
          array_get_dec
          refine ⟨fun hc3 => ?_, fun hc3 => ?_⟩
          · have hc3 : d < y := of_decide_eq_true hc3
            array_get_dec
            exact ⟨_, _, by rw [hs, q, show stepL (worthV B) (some (w, y)) d = some (worthV B d, d) from if_pos (.inr ⟨hc2, hc3⟩)]; rfl⟩
          · have hc3 : ¬ d < y := of_decide_eq_false hc3
            array_get_dec
            exact ⟨_, _, by rw [hs, q, show stepL (worthV B) (some (w, y)) d = some (w, y) from if_neg (fun z => z.elim hc fun z => hc3 z.2)]; rfl⟩
        · have hc2 : ¬ worthV B d = w := of_decide_eq_false hc2
          array_get_dec
          exact ⟨_, _, by rw [hs, q, show stepL (worthV B) (some (w, y)) d = some (w, y) from if_neg (fun z => z.elim hc fun z => hc2 z.1)]; rfl⟩
  · obtain ⟨x3, x4, rfl⟩ := hI
    array_get_dec
    rw [bestL_ok h1 h3 h]
    exact ⟨rfl, rfl⟩)
def lotAt (t : Nat) (x : Int) : D := natT ((lotsV t).getD x.toNat [])
def toldD (t : Nat) (B : List (List Int)) : D := .tup [.int (bestV t B).1, .tup ((bestV t B).2.map (lotAt t))]
theorem best_dok {t : Nat} {B : List (List Int)} (h1 : 1 ≤ t) (h3 : t ≤ 3) (h : WOk t B) : DOk t B.length (bestV t B).2 := dok h1 h3 h.l1 h.l4 (bestV_ok h1 h3 h).2.1
theorem lot_ix {t : Nat} {x : Int} (h0 : 0 ≤ x) (h1 : x < 2 ^ t) : idxD (.lst ((lotsV t).map natT)) (.int x) = some (lotAt t x) := by
  obtain ⟨k, rfl⟩ := Int.eq_ofNat_of_zero_le h0
  have : ((2 ^ t : Nat) : Int) = 2 ^ t := by rw [Int.natCast_pow]; rfl
  have hk : k < (lotsV t).length := by rw [lots_len]; omega
  refine idx_l ?_
  rw [List.getElem?_map, List.getElem?_eq_getElem hk]
  unfold lotAt
  rw [Int.toNat_natCast, List.getD_eq_getElem?_getD, List.getElem?_eq_getElem hk]
  rfl
theorem dealt_ok (n : Nat) {t : Nat} {B : List (List Int)} (h1 : 1 ≤ t) (h3 : t ≤ 3) (h : WOk t B) : phi Gm tab (n + 4) i_dealt [(false, saleD t (bidsD B))] = some (.v (toldD t B), []) := of_ex (by
  have hdo := best_dok h1 h3 h
  refine phi_ex h_dealt.1 rfl ?_
  show wB Gm (phi Gm tab (n + 3)) [] F_dealt.body [fz (saleD t (bidsD B)), none, none, none, none] _
  dsimp only [F_dealt]
  array_get_dec
  refine call_by h_best_deal.2 rfl rfl (bestdeal_ok n h1 h3 h) rfl ?_
  array_get_dec
  refine call_by h_lots_of.2 rfl rfl (lots_ok (n + 2) h1 h3) rfl ?_
  array_get_dec
  refine w_compF (α := Int) rfl ?_
  array_get_dec
  refine ⟨(bestV t B).2, fun x => .one (.int x), fun _ => true, lotAt t, by rw [List.map_map]; rfl, fun x hx => ?_, ?_⟩
  · refine ⟨_, rfl, ?_⟩
    array_get_dec
    refine ⟨rfl, rfl, fun _ => ?_⟩
    array_get_dec
    refine ⟨_, _, _, rfl, rfl, lot_ix (hdo.c x hx).1 (hdo.c x hx).2, ?_⟩
    array_get_dec
    rfl
  rw [filt_t]
  array_get_dec
  exact ⟨rfl, rfl⟩)
theorem lof_ok (n : Nat) {t : Nat} (h3 : t ≤ 3) {x : Int} (h0 : 0 ≤ x) (h1 : x < 2 ^ t) : phi Gm tab (n + 1) i__law_of [(false, .int x)] = some (.v (lotAt t x), []) := by
  obtain ⟨k, rfl⟩ := Int.eq_ofNat_of_zero_le h0
  have e : ((2 ^ t : Nat) : Int) = 2 ^ t := by rw [Int.natCast_pow]; rfl
  have h8 := (len8 h3).1
  have key : (lotsV t).getD k [] = (lotsV 3).getD k [] := by
    have : ∀ t : Nat, t ≤ 3 → ∀ k : Nat, k < 2 ^ t → (lotsV t).getD k [] = (lotsV 3).getD k [] := by decide +kernel
    exact this t h3 k (by omega)
  unfold lotAt
  rw [Int.toNat_natCast, key]
  have hk : k < 8 := by omega
  obtain rfl | rfl | rfl | rfl | rfl | rfl | rfl | rfl : k = 0 ∨ k = 1 ∨ k = 2 ∨ k = 3 ∨ k = 4 ∨ k = 5 ∨ k = 6 ∨ k = 7 := by omega
  all_goals kernel_rfl
theorem eqs_ok (n : Nat) {t : Nat} {a b : D} {x : Bool} (e : cmpD .eq a b = some x) : phi Gm tab (n + 1) i_Sale___eq__ [(false, saleD t a), (false, saleD t b)] = some (.v (.bl x), []) := of_ex (by
  refine phi_ex h_Sale___eq__.1 rfl ?_
  show wB Gm (phi Gm tab n) [] F_Sale___eq__.body [fz (saleD t a), fz (saleD t b)] _
  dsimp only [F_Sale___eq__]
  array_get_dec
  rw [show decide ((t : Int) = (t : Int)) = true by simp]
  array_get_dec
  refine ⟨_, _, _, rfl, rfl, e, ?_⟩
  array_get_dec
  exact ⟨rfl, rfl⟩)
theorem eqo_ok (n : Nat) {t : Nat} {a : D} {l : List D} : phi Gm tab (n + 1) i_Sale___eq__ [(false, saleD t a), (false, .tup l)] = some (.v (.bl false), []) := of_ex (by
  refine phi_ex h_Sale___eq__.1 rfl ?_
  show wB Gm (phi Gm tab n) [] F_Sale___eq__.body [fz (saleD t a), fz (.tup l)] _
  dsimp only [F_Sale___eq__]
  array_get_dec
  exact ⟨rfl, rfl⟩)
end K70
set_option Elab.async false
set_option linter.all false
set_option maxRecDepth 100000
set_option maxHeartbeats 400000
namespace K70
open PySem Mi Sd
open Bal (nD of_ex sum_ints th ths ths_mem smt SA Hand)
theorem row_item {t : Nat} {r : List Int} (h : BOk t r) {x : Int} (hx : x ∈ r) : Item 0 0 (.int x) := int_item (by have := h.p.nn x hx; omega)
theorem rowT_item {t : Nat} {r : List Int} (h3 : t ≤ 3) (h : BOk t r) : Item 1 9 (rowT r) := tup_item (k := 0) (b := 0) (m := 9) (fun x hx => by obtain ⟨y, hy, rfl⟩ := List.mem_map.mp hx; exact row_item h hy) (by rw [List.length_map, h.len]; have := (len8 h3).1; omega)
abbrev oddV (x : Int) : List D := [.int (-1), .int (10 ^ 29), .non, .bl true, .str "1", .tup [.int 1], .int 0, .int (x + 1)]
theorem str1_item : Item 0 1 (.str "1") := ⟨rfl, by decide +kernel, by unfold smt SA; decide +kernel, Nat.zero_le _, by decide +kernel⟩
theorem oddV_item {x : Int} (h0 : 0 ≤ x) (h1 : x ≤ 10 ^ 31) : ∀ q ∈ oddV x, Item 1 1 q := fun q hq => by
  simp only [oddV, List.mem_cons, List.not_mem_nil, or_false] at hq
  rcases hq with rfl | rfl | rfl | rfl | rfl | rfl | rfl | rfl
  · exact (int_item (by decide)).up (by decide) (by decide)
  · exact (int_item (by decide)).up (by decide) (by decide)
  · exact non_item.up (by decide) (by decide)
  · exact (bl_item _).up (by decide) (by decide)
  · exact str1_item.up (by decide) (by decide)
  · exact tup_item (k := 0) (b := 0) (m := 1) (fun y hy => by rw [List.mem_singleton.mp hy]; exact int_item (by decide)) (by decide)
  · exact (int_item (by decide)).up (by decide) (by decide)
  · exact (int_item (by omega)).up (by decide) (by decide)
abbrev rows1 (r : List Int) (k : Nat) (x : Int) : List D := (oddV x).map fun q => .tup ((r.map .int).take k ++ [q] ++ (r.map .int).drop (k + 1))
abbrev rows2 (r : List Int) (y : Int) : List D := [.tup ((r.map .int).drop 1), .tup (r.map .int ++ [.int y]), .lst (r.map .int), .tup (r.map .int).reverse, .non, .tup []]
theorem rows_item {t : Nat} {r : List Int} (h3 : t ≤ 3) (h : BOk t r) {k : Nat} (hk : k < 2 ^ t) {x y : Int} (hx : x ∈ r) (hy : y ∈ r) : ∀ q ∈ rows1 r k x ++ rows2 r y, Item 2 18 q := fun q hq => by
  have h8 := (len8 h3).1
  have hi : ∀ z ∈ r.map D.int, Item 1 1 z := fun z hz => by obtain ⟨w, hw, rfl⟩ := List.mem_map.mp hz; exact (row_item h hw).up (by decide) (by decide)
  have hl : (r.map D.int).length = 2 ^ t := by rw [List.length_map, h.len]
  have hxb := h.p.nn x hx
  rcases List.mem_append.mp hq with hq | hq
  · obtain ⟨z, hz, rfl⟩ := List.mem_map.mp hq
    refine tup_item (k := 1) (b := 1) (m := 9) (fun w hw => ?_) (by rw [List.length_append, List.length_append, List.length_take, List.length_drop]; show _ + 1 + _ ≤ 9; omega)
    rcases List.mem_append.mp hw with hw | hw
    · rcases List.mem_append.mp hw with hw | hw
      · exact hi w (List.mem_of_mem_take hw)
      · rw [List.mem_singleton.mp hw]; exact oddV_item hxb.1 hxb.2 z hz
    · exact hi w (List.mem_of_mem_drop hw)
  · simp only [rows2, List.mem_cons, List.not_mem_nil, or_false] at hq
    rcases hq with rfl | rfl | rfl | rfl | rfl | rfl
    · exact tup_item (k := 1) (b := 1) (m := 9) (fun w hw => hi w (List.mem_of_mem_drop hw)) (by rw [List.length_drop]; omega)
    · refine tup_item (k := 1) (b := 1) (m := 9) (fun w hw => ?_) (by rw [List.length_append]; show _ + 1 ≤ 9; omega)
      rcases List.mem_append.mp hw with hw | hw
      · exact hi w hw
      · rw [List.mem_singleton.mp hw]; exact (row_item h hy).up (by decide) (by decide)
    · exact lst_item (k := 1) (b := 1) (m := 9) hi (by omega)
    · exact tup_item (k := 1) (b := 1) (m := 9) (fun w hw => hi w (List.mem_reverse.mp hw)) (by rw [List.length_reverse]; omega)
    · exact non_item.up (by decide) (by decide)
    · exact tup_item (k := 1) (b := 1) (m := 9) (fun w hw => by cases hw) (by decide)
theorem bids_thing : Thing (.str "bids") := (show Item 0 4 (.str "bids") from ⟨rfl, by decide +kernel, by unfold smt SA; decide +kernel, Nat.zero_le _, by decide +kernel⟩).thing (by decide) (by decide)
abbrev some1 (B : List (List Int)) (at' : Nat) (rs : List D) : List D := rs.map fun q => .tup ((B.map rowT).take at' ++ [q] ++ (B.map rowT).drop (at' + 1))
abbrev some2 (B : List (List Int)) (r : List Int) : List D := [.tup [], .lst (B.map rowT), .tup (List.replicate 5 (B.map rowT)).flatten, .non, .int 0, .dct [] [], .str "bids", rowT r]
theorem some_thing {t : Nat} {B : List (List Int)} (h3 : t ≤ 3) (h : WOk t B) {a : Nat} {rs : List D} (hrs : ∀ q ∈ rs, Item 2 18 q) {r : List Int} (hr : r ∈ B) : ∀ q ∈ some1 B a rs ++ some2 B r, Thing q := fun q hq => by
  have hi : ∀ z ∈ B.map rowT, Item 2 18 z := fun z hz => by obtain ⟨w, hw, rfl⟩ := List.mem_map.mp hz; exact (rowT_item h3 (h.row w hw)).up (by decide) (by decide)
  have hl : (B.map rowT).length = B.length := List.length_map _
  have h4 := h.l4
  rcases List.mem_append.mp hq with hq | hq
  · obtain ⟨z, hz, rfl⟩ := List.mem_map.mp hq
    refine (tup_item (k := 2) (b := 18) (m := 9) (fun w hw => ?_) (by rw [List.length_append, List.length_append, List.length_take, List.length_drop]; show _ + 1 + _ ≤ 9; omega)).thing (by decide) (by decide)
    rcases List.mem_append.mp hw with hw | hw
    · rcases List.mem_append.mp hw with hw | hw
      · exact hi w (List.mem_of_mem_take hw)
      · rw [List.mem_singleton.mp hw]; exact hrs z hz
    · exact hi w (List.mem_of_mem_drop hw)
  · simp only [some2, List.mem_cons, List.not_mem_nil, or_false] at hq
    rcases hq with rfl | rfl | rfl | rfl | rfl | rfl | rfl | rfl
    · exact (tup_item (k := 1) (b := 1) (m := 9) (fun w hw => by cases hw) (by decide)).thing (by decide) (by decide)
    · exact (lst_item (k := 2) (b := 18) (m := 9) hi (by omega)).thing (by decide) (by decide)
    · refine (tup_item (k := 2) (b := 18) (m := 20) (fun w hw => ?_) (by rw [List.length_flatten, List.map_replicate, List.sum_replicate_nat, hl]; omega)).thing (by decide) (by decide)
      obtain ⟨l, hl, hw⟩ := List.mem_flatten.mp hw
      rw [List.eq_of_mem_replicate hl] at hw
      exact hi w hw
    · exact non_item.thing (by decide) (by decide)
    · exact (int_item (by decide)).thing (by decide) (by decide)
    · exact dct_thing
    · exact bids_thing
    · exact (rowT_item h3 (h.row r hr)).thing (by decide) (by decide)
theorem mul5 {B : List (List Int)} (h1 : 1 ≤ B.length) (h4 : B.length ≤ 4) : binD .mul (bidsD B) (.int 5) = some (.tup (List.replicate 5 (B.map rowT)).flatten) := by
  show (if _ then some (D.tup (List.replicate ((5 : Int)).toNat (B.map rowT)).flatten) else none) = _
  rw [if_pos ⟨fun e => by have := congrArg List.length e; rw [List.length_map, List.length_nil] at this; omega, by decide, by decide, by rw [List.length_map]; omega⟩]
  rfl
theorem idxT_neg1 {l : List Int} (h : 0 < l.length) : idxD (.tup (l.map .int)) (.int (-1)) = some (.int (gv l (l.length - 1))) := by
  show ((ixOf (l.map D.int).length (-1 : Int)).bind fun k => (l.map D.int)[k]?) = _
  have : ixOf (l.map D.int).length (-1 : Int) = some ((l.map D.int).length - 1 - 0) := ixOf_neg (j := 0) (by rw [List.length_map]; omega)
  rw [this]
  show (l.map D.int)[(l.map D.int).length - 1 - 0]? = _
  rw [List.length_map, List.getElem?_map, Nat.sub_zero, gv_get (by omega)]
  rfl
theorem bent_ok (n : Nat) {hd : D} (hh : Hand hd) {t : Nat} (h1 : 1 ≤ t) (h3 : t ≤ 3) {B : List (List Int)} (h : WOk t B) : ∃ x hd', phi Gm tab (n + 3) i__law_bent [(true, hd), (false, bidsD B)] = some (.v x, [hd']) ∧ Thing x ∧ Hand hd' := by
  have key : ∃ r o, phi Gm tab (n + 3) i__law_bent [(true, hd), (false, bidsD B)] = some (r, o) ∧ ∃ x hd', r = .v x ∧ o = [hd'] ∧ Thing x ∧ Hand hd' := by
    obtain ⟨l8, l1⟩ := len8 h3
    have hl1 := h.l1
    have hl4 := h.l4
    have hBl : (B.map rowT).length = B.length := List.length_map _
    obtain ⟨a, hd1, e1, ha, hh1⟩ := draw_nat (n + 1) hh (L := B.length) (by omega) (by omega)
    have hrow := h.row _ (rowIn ha)
    have hrl : ((B.getD a []).map D.int).length = 2 ^ t := by rw [List.length_map, hrow.len]
    obtain ⟨k, hd2, e2, hk, hh2⟩ := draw_nat (n + 1) hh1 (L := 2 ^ t) (by omega) (by omega)
    have hkr : k < (B.getD a []).length := by rw [hrow.len]; exact hk
    have hall := some_thing (a := a) h3 h (rows_item h3 hrow hk (gv_mem hkr) (gv_mem (i := (B.getD a []).length - 1) (by omega))) (rowIn ha)
    obtain ⟨x, hd3, e3, hx, hh3⟩ := some_lst (n := n) hh2 (xs := some1 B a (rows1 (B.getD a []) k (gv (B.getD a []) k) ++ rows2 (B.getD a []) (gv (B.getD a []) ((B.getD a []).length - 1))) ++ some2 B (B.getD a [])) (by rw [List.length_append]; show 0 < _ + 8; omega) (by rw [List.length_append, List.length_map, List.length_append, List.length_map]; show 8 + 6 + 8 < 9000; decide)
    have htx := hall x hx
    refine phi_ex h__law_bent.1 rfl ?_
    show wB Gm (phi Gm tab (n + 2)) [0] F__law_bent.body [some (true, hd), fz (bidsD B), none, none, none, none, none, none, none, none] _
    have hix := rowAt ha
    have hri := rowIn ha
    generalize B.getD a [] = r at *
    have rest : wB Gm (phi Gm tab (n + 2)) [0] (dropS 6 F__law_bent.body) [some (true, hd2), fz (bidsD B), fz (nD a), fz (rowT r), fz (nD k), fz (.lst (oddV (gv r k))), fz (.lst (rows1 r k (gv r k) ++ rows2 r (gv r (r.length - 1)))), none, none, none] (Mi.Fin F__law_bent.io fun r o => ∃ x hd', r = .v x ∧ o = [hd'] ∧ Thing x ∧ Hand hd') := by
      have hrs : (rows1 r k (gv r k) ++ rows2 r (gv r (r.length - 1))).length ≤ 100 := by rw [List.length_append, List.length_map]; show 8 + 6 ≤ 100; decide
      generalize rows1 r k (gv r k) ++ rows2 r (gv r (r.length - 1)) = rs at *
      dsimp only [dropS, F__law_bent]
      array_get_dec
      refine w_compF (α := D) rfl ?_
      array_get_dec
      refine ⟨rs, fun q => .one q, fun _ => true, fun q => .tup ((B.map rowT).take a ++ [q] ++ (B.map rowT).drop (a + 1)), rfl, fun q hq => ?_, ?_⟩
      · refine ⟨_, rfl, ?_⟩
        array_get_dec
        refine ⟨rfl, rfl, fun _ => ?_⟩
        array_get_dec
        rw [show cut (B.map rowT) none (some ((a : Nat) : Int)) = (B.map rowT).take a from cut_to]
        refine ⟨_, _, _, rfl, rfl, b_catT (by rw [List.length_take]; show _ + 1 ≤ line; unfold line; omega), ?_⟩
        array_get_dec
        rw [show cut (B.map rowT) (some (((a : Nat) : Int) + 1)) none = (B.map rowT).drop (a + 1) by rw [show ((a : Nat) : Int) + 1 = ((a + 1 : Nat) : Int) by omega]; exact cut_from]
        refine ⟨_, _, _, rfl, rfl, b_catT (by rw [List.length_append, List.length_take, List.length_drop]; show _ + 1 + _ ≤ line; unfold line; omega), ?_⟩
        array_get_dec
        rfl
      rw [filt_t]
      array_get_dec
      refine ⟨_, _, _, rfl, rfl, mul5 hl1 hl4, ?_⟩
      array_get_dec
      refine ⟨_, _, _, rfl, rfl, b_catL (by unfold line; rw [List.length_map]; show _ + 8 ≤ _; omega), ?_⟩
      array_get_dec
      refine call_by h__law_some.2 rfl rfl e3 rfl ?_
      array_get_dec
      exact ⟨htx, hh3⟩
    have rest5 : wB Gm (phi Gm tab (n + 2)) [0] (dropS 5 F__law_bent.body) [some (true, hd2), fz (bidsD B), fz (nD a), fz (rowT r), fz (nD k), fz (.lst (oddV (gv r k))), fz (.lst (rows1 r k (gv r k))), none, none, none] (Mi.Fin F__law_bent.io fun r o => ∃ x hd', r = .v x ∧ o = [hd'] ∧ Thing x ∧ Hand hd') := by
      dsimp only [dropS, F__law_bent] at rest ⊢
      refine w_cut ?_
      array_get_dec
      rw [show cut (r.map D.int) (some 1) none = (r.map D.int).drop 1 from cut_from (k := 1)]
      array_get_dec
      refine ⟨_, _, _, rfl, rfl, idxT_neg1 (by omega), ?_⟩
      array_get_dec
      refine ⟨_, _, _, rfl, rfl, b_catT (by rw [hrl]; show _ + 1 ≤ line; unfold line; omega), ?_⟩
      array_get_dec
      exact ⟨rest⟩
    have rest4 : wB Gm (phi Gm tab (n + 2)) [0] (dropS 4 F__law_bent.body) [some (true, hd2), fz (bidsD B), fz (nD a), fz (rowT r), fz (nD k), fz (.lst (oddV (gv r k))), none, none, none, none] (Mi.Fin F__law_bent.io fun r o => ∃ x hd', r = .v x ∧ o = [hd'] ∧ Thing x ∧ Hand hd') := by
      dsimp only [dropS, F__law_bent] at rest5 ⊢
      refine w_cut ?_
      array_get_dec
      refine w_compF (α := D) rfl ?_
      array_get_dec
      refine ⟨oddV (gv r k), fun q => .one q, fun _ => true, fun q => .tup ((r.map .int).take k ++ [q] ++ (r.map .int).drop (k + 1)), rfl, fun q hq => ?_, ?_⟩
      · refine ⟨_, rfl, ?_⟩
        array_get_dec
        refine ⟨rfl, rfl, fun _ => ?_⟩
        array_get_dec
        rw [show cut (r.map D.int) none (some ((k : Nat) : Int)) = (r.map D.int).take k from cut_to]
        refine ⟨_, _, _, rfl, rfl, b_catT (by rw [List.length_take]; show _ + 1 ≤ line; unfold line; omega), ?_⟩
        array_get_dec
        rw [show cut (r.map D.int) (some (((k : Nat) : Int) + 1)) none = (r.map D.int).drop (k + 1) by rw [show ((k : Nat) : Int) + 1 = ((k + 1 : Nat) : Int) by omega]; exact cut_from]
        refine ⟨_, _, _, rfl, rfl, b_catT (by rw [List.length_append, List.length_take, List.length_drop]; show _ + 1 + _ ≤ line; unfold line; omega), ?_⟩
        array_get_dec
        rfl
      rw [filt_t]
      array_get_dec
      exact ⟨rest5⟩
    have rest2 : wB Gm (phi Gm tab (n + 2)) [0] (dropS 2 F__law_bent.body) [some (true, hd1), fz (bidsD B), fz (nD a), fz (rowT r), none, none, none, none, none, none] (Mi.Fin F__law_bent.io fun r o => ∃ x hd', r = .v x ∧ o = [hd'] ∧ Thing x ∧ Hand hd') := by
      have rest3 : wB Gm (phi Gm tab (n + 2)) [0] (dropS 3 F__law_bent.body) [some (true, hd2), fz (bidsD B), fz (nD a), fz (rowT r), fz (nD k), none, none, none, none, none] (Mi.Fin F__law_bent.io fun r o => ∃ x hd', r = .v x ∧ o = [hd'] ∧ Thing x ∧ Hand hd') := by
        dsimp only [dropS, F__law_bent] at rest4 ⊢
        refine w_cut ?_
        array_get_dec
        refine ⟨_, _, _, rfl, rfl, idxT hkr, ?_⟩
        array_get_dec
        exact ⟨rest4⟩
      dsimp only [dropS, F__law_bent] at rest3 ⊢
      refine w_cut ?_
      array_get_dec
      refine call_by h__law_draw.2 rfl rfl (show phi Gm tab (n + 2) i__law_draw [(true, hd1), (false, .int (((r.map D.int).length : Nat)))] = _ by rw [hrl]; exact e2) rfl ?_
      array_get_dec
      exact ⟨rest3⟩
    have rest1 : wB Gm (phi Gm tab (n + 2)) [0] (dropS 1 F__law_bent.body) [some (true, hd1), fz (bidsD B), fz (nD a), none, none, none, none, none, none, none] (Mi.Fin F__law_bent.io fun r o => ∃ x hd', r = .v x ∧ o = [hd'] ∧ Thing x ∧ Hand hd') := by
      dsimp only [dropS, F__law_bent] at rest2 ⊢
      refine w_cut ?_
      array_get_dec
      refine ⟨_, _, _, rfl, rfl, hix, ?_⟩
      array_get_dec
      exact ⟨rest2⟩
    dsimp only [dropS, F__law_bent] at rest1 ⊢
    refine w_cut ?_
    array_get_dec
    refine call_by h__law_draw.2 rfl rfl (show phi Gm tab (n + 2) i__law_draw [(true, hd), (false, .int (((B.map rowT).length : Nat)))] = _ by rw [hBl]; exact e1) rfl ?_
    array_get_dec
    exact ⟨rest1⟩
  obtain ⟨r, o, e, x, hd', rfl, rfl, q⟩ := key
  exact ⟨x, hd', e, q⟩
end K70
set_option Elab.async false
set_option linter.all false
set_option maxRecDepth 100000
set_option maxHeartbeats 400000
namespace K70
open PySem Mi Sd
open Bal (nD of_ex sum_ints th ths ths_mem smt SA Hand)
abbrev Post : R → List D → Prop := fun r o => ∃ hd', r = .v (.bl true) ∧ o = [hd'] ∧ Hand hd'
theorem tab_x : ∀ f, xb ≤ f → tab f = none := fun f h => by
  unfold xb at h
  unfold tab
  split <;> first | (exfalso; omega) | rfl
abbrev sb : D := .tup [.str "sale", .str "bids"]
abbrev st : D := .tup [.str "sale", .str "things"]
theorem word_b : (wdOf Gm0 W__law_word).onX ⟨1000, ["part"], [.str "bids"]⟩ = some sb := by kernel_rfl
theorem word_t : (wdOf Gm0 W__law_word).onX ⟨1000, ["part"], [.str "things"]⟩ = some st := by kernel_rfl
theorem word_l (d : D) : (wdOf Gm0 W__law_word).onV d = some (.str "let") := by kernel_rfl
theorem ne_let : cmpD .ne (.str "let") (.str "let") = some false := by kernel_rfl
theorem ne_sb : cmpD .ne sb sb = some false := by kernel_rfl
theorem eq_st : cmpD .eq st st = some true := by kernel_rfl
theorem pl_bids (B : List (List Int)) : pl (bidsD B) = true ∧ dpt (bidsD B) ≤ 2 := by
  have k2 : ∀ V : List (List Int), pls (V.map rowT) = true ∧ dpts (V.map rowT) ≤ 1 := by
    intro V
    induction V with
    | nil => exact ⟨rfl, by decide⟩
    | cons r V ih =>
      rw [List.map_cons]
      unfold pls dpts rowT pl dpt
      rw [(px_ints r).1, (px_ints r).2, show pls (V.map fun r => D.tup (r.map .int)) = true from ih.1]
      exact ⟨rfl, Nat.max_le.mpr ⟨by decide, ih.2⟩⟩
  unfold bidsD pl dpt
  exact ⟨(k2 B).1, by have := (k2 B).2; omega⟩
mutual
theorem px_pl : ∀ {d : D}, pl d = true → px d = true
  | .non, _ => rfl
  | .int _, _ => rfl
  | .tup l, h => by unfold pl at h; unfold px; exact pxs_pls h
  | .lst l, h => by unfold pl at h; unfold px; exact pxs_pls h
  | .bl _, h => by unfold pl at h; cases h
  | .str _, h => by unfold pl at h; cases h
  | .ty _, h => by unfold pl at h; cases h
  | .ins _ _ _, h => by unfold pl at h; cases h
  | .scr _, h => by unfold pl at h; cases h
  | .dct _ _, h => by unfold pl at h; cases h
  | .exc _ _ _, h => by unfold pl at h; cases h
  | .fn _, h => by unfold pl at h; cases h
theorem pxs_pls : ∀ {l : List D}, pls l = true → pxs l = true
  | [], _ => rfl
  | d :: r, h => by
    unfold pls at h
    rw [Bool.and_eq_true] at h
    unfold pxs
    rw [px_pl h.1, pxs_pls h.2]
    rfl
end
theorem th_bids (B : List (List Int)) : th (bidsD B) = true := by
  unfold th
  refine ths_of fun x hx => ?_
  obtain ⟨r, _, rfl⟩ := List.mem_map.mp hx
  unfold rowT th
  exact ths_of fun y hy => by obtain ⟨z, _, rfl⟩ := List.mem_map.mp hy; rfl
theorem px_told (t : Nat) (B : List (List Int)) : px (toldD t B) = true ∧ dpt (toldD t B) ≤ 3 := by
  have k := pxs_of (l := (bestV t B).2.map (lotAt t)) (k := 1) fun x hx => by
    obtain ⟨y, _, rfl⟩ := List.mem_map.mp hx
    unfold lotAt
    have e := pxs_of (l := ((lotsV t).getD y.toNat []).map nD) (k := 0) fun z hz => by obtain ⟨w, _, rfl⟩ := List.mem_map.mp hz; exact ⟨rfl, Nat.le_refl _⟩
    unfold px dpt
    exact ⟨e.1, by have := e.2; omega⟩
  unfold toldD
  simp only [px, pxs, dpt, dpts, k.1, Bool.and_self]
  refine ⟨trivial, ?_⟩
  have := k.2
  omega
theorem rev_ok {t : Nat} {B : List (List Int)} (h : WOk t B) : WOk t B.reverse := ⟨by rw [List.length_reverse]; exact h.l1, by rw [List.length_reverse]; exact h.l4, fun r hr => h.row r (List.mem_reverse.mp hr)⟩
abbrev oddT : List D := [.int 0, .int 4, .int (-1), .non, .bl true, .str "1", .tup [.int 1], .int (10 ^ 29)]
theorem oddT_ok : ∀ q ∈ oddT, th q = true ∧ inB 1 3 q = false := fun q hq => by
  simp only [oddT, List.mem_cons, List.not_mem_nil, or_false] at hq
  rcases hq with rfl | rfl | rfl | rfl | rfl | rfl | rfl | rfl <;> exact ⟨rfl, by decide⟩
section
variable {hd : D} (hh : Hand hd) {t : Nat} (h1 : 1 ≤ t) (h3 : t ≤ 3) {B : List (List Int)} (h : WOk t B) {x6 x7 x8 x9 x10 x11 x12 : Option (Bool × D)} (n : Nat)
abbrev envA (hd : D) (t : Nat) (B : List (List Int)) (x6 x7 x8 x9 x10 x11 : Option (Bool × D)) : Mi.Env := [some (true, hd), fz (nD t), fz (bidsD B), fz (saleD t (bidsD B)), fz (optD (some (bestV t B))), fz (toldD t B), x6, x7, x8, x9, x10, x11, none]
include hh h h1 h3
theorem st7 : wB Gm (phi Gm tab (n + 5)) [0] (dropS 7 F__law_is_right.body) (envA hd t B x6 x7 x8 x9 x10 x11) (Mi.Fin F__law_is_right.io Post) := by
  obtain ⟨o, hd1, e1, ho, hh1⟩ := some_lst (n + 3) hh (xs := oddT) (by show 0 < 8; decide) (by show 8 < 9000; decide)
  obtain ⟨b, hd2, e2, hb, hh2⟩ := some_lst (n + 3) hh1 (xs := [bidsD B, .non]) (by show 0 < 2; decide) (by show 2 < 9000; decide)
  obtain ⟨o1, o2⟩ := oddT_ok o ho
  dsimp only [dropS, F__law_is_right, envA, fz]
  array_get_dec
  refine call_by h__law_some.2 rfl rfl e1 rfl ?_
  array_get_dec
  refine w_wordX rfl (x_makex rfl ?_)
  array_get_dec
  refine call_by h__law_some.2 rfl rfl e2 rfl ?_
  array_get_dec
  refine ⟨_, _, _, ⟨1000, ["part"], [.str "things"]⟩, rfl, rfl, rfl, sale_odd (n + 2) o1 o2, st, word_t, by decide, ?_⟩
  array_get_dec
  refine ⟨_, _, _, rfl, rfl, eq_st, ?_⟩
  array_get_dec
  exact ⟨_, rfl, rfl, hh2⟩
theorem st6 : wB Gm (phi Gm tab (n + 5)) [0] (dropS 6 F__law_is_right.body) (envA hd t B x6 x7 x8 x9 x10 x11) (Mi.Fin F__law_is_right.io Post) := by
  have rest : ∀ (hd : D) (hh : Hand hd) x7 x8 x9 x10 x11, _ := fun hd hh x7 x8 x9 x10 x11 => st7 hh h1 h3 h (x6 := x6) (x7 := x7) (x8 := x8) (x9 := x9) (x10 := x10) (x11 := x11) n
  dsimp only [dropS, F__law_is_right, envA, fz] at rest ⊢
  refine w_cut ?_
  refine w_forL (α := Nat) rfl ?_
  array_get_dec
  refine ⟨List.range 5, fun i => .one (.int (i : Nat)), fun pre ρ => ∃ hd x7 x8 x9 x11, ρ = envA hd t B x6 x7 x8 x9 x10 x11 ∧ Hand hd, rfl, ⟨_, _, _, _, _, rfl, hh⟩, fun pr i sf ρ he hI => ?_, fun ρ hI => ?_⟩
  · obtain ⟨hd, x7, x8, x9, x11, rfl, hh⟩ := hI
    obtain ⟨x, hd1, e1, hx, hh1⟩ := bent_ok (n + 2) hh h1 h3 h
    obtain ⟨s, hs, hne⟩ := hx.r
    refine ⟨_, rfl, ?_⟩
    dsimp only [envA, fz]
    cases q : bidsB t x with
    | true =>
      array_get_dec
      refine call_by h__law_bent.2 rfl rfl e1 rfl ?_
      array_get_dec
      refine ⟨_, _, rfl, hs, ?_⟩
      array_get_dec
      refine call_by h__law_are_bids.2 rfl rfl (arebids_th (n + 4) h1 h3 hx.t) rfl ?_
      rw [q]
      array_get_dec
      refine w_wordV tab_x rfl ?_
      array_get_dec
      refine make_by rfl rfl rfl (sale_ok (n + 1) h1 h3 hx.t q) ?_
      refine ⟨_, _, .str "let", rfl, word_l _, rfl, ?_⟩
      array_get_dec
      refine ⟨_, _, _, rfl, rfl, ne_let, ?_⟩
      array_get_dec
      refine ⟨_, _, rfl, hs, ?_⟩
      array_get_dec
      refine ⟨_, _, _, rfl, rfl, hne, ?_⟩
      array_get_dec
      exact ⟨_, _, _, _, _, rfl, hh1⟩
    | false =>
      array_get_dec
      refine call_by h__law_bent.2 rfl rfl e1 rfl ?_
      array_get_dec
      refine ⟨_, _, rfl, hs, ?_⟩
      array_get_dec
      refine call_by h__law_are_bids.2 rfl rfl (arebids_th (n + 4) h1 h3 hx.t) rfl ?_
      rw [q]
      array_get_dec
      refine w_wordX rfl (x_makex rfl ?_)
      array_get_dec
      refine ⟨_, _, _, ⟨1000, ["part"], [.str "bids"]⟩, rfl, rfl, rfl, sale_no (n + 1) h1 h3 hx.t q, sb, word_b, by decide, ?_⟩
      array_get_dec
      refine ⟨_, _, _, rfl, rfl, ne_sb, ?_⟩
      array_get_dec
      refine ⟨_, _, rfl, hs, ?_⟩
      array_get_dec
      refine ⟨_, _, _, rfl, rfl, hne, ?_⟩
      array_get_dec
      exact ⟨_, _, _, _, _, rfl, hh1⟩
  · obtain ⟨hd, x7, x8, x9, x11, rfl, hh⟩ := hI
    exact ⟨rest hd hh _ _ _ _ _⟩
theorem st3 : wB Gm (phi Gm tab (n + 5)) [0] (dropS 3 F__law_is_right.body) (envA hd t B x6 x7 x8 x9 x10 x11) (Mi.Fin F__law_is_right.io Post) := by
  obtain ⟨b, eb⟩ : ∃ b, cmpD .eq (bidsD B.reverse) (bidsD B) = some b := ⟨_, eqD_pl (pl_bids _).1 (pl_bids _).1 (Nat.le_trans (pl_bids _).2 (by decide)) (Nat.le_trans (pl_bids _).2 (by decide))⟩
  have hrv : bidsD B.reverse = .tup (B.map rowT).reverse := by rw [bidsD, List.map_reverse]
  have es := sale_ok (n + 1) h1 h3 (th_bids _) (bidsB_of (rev_ok h) h3)
  have eq2 := eqs_ok (n + 4) (t := t) eb
  have eqb := eb
  rw [hrv] at es eq2 eqb
  have st5 : wB Gm (phi Gm tab (n + 5)) [0] (dropS 5 F__law_is_right.body) (envA hd t B (fz (saleD t (bidsD B.reverse))) x7 x8 x9 x10 x11) (Mi.Fin F__law_is_right.io Post) := by
    have rest := st6 hh h1 h3 h (x6 := fz (saleD t (bidsD B.reverse))) (x7 := x7) (x8 := x8) (x9 := x9) (x10 := x10) (x11 := x11) n
    rw [hrv] at rest ⊢
    dsimp only [dropS, F__law_is_right, envA, fz] at rest ⊢
    refine w_cut ?_
    array_get_dec
    refine eq_by rfl rfl rfl eq2 ?_
    array_get_dec
    refine ⟨_, _, _, rfl, rfl, eqb, ?_⟩
    array_get_dec
    refine ⟨fun hc => absurd hc (by cases b <;> decide), fun _ => ?_⟩
    array_get_dec
    exact ⟨rest⟩
  have st4 : wB Gm (phi Gm tab (n + 5)) [0] (dropS 4 F__law_is_right.body) (envA hd t B x6 x7 x8 x9 x10 x11) (Mi.Fin F__law_is_right.io Post) := by
    rw [hrv] at st5
    dsimp only [dropS, F__law_is_right, envA, fz] at st5 ⊢
    refine w_cut ?_
    array_get_dec
    refine make_by rfl rfl rfl es ?_
    array_get_dec
    exact ⟨st5⟩
  dsimp only [dropS, F__law_is_right, envA, fz] at st4 ⊢
  refine w_cut ?_
  array_get_dec
  refine make_by rfl rfl rfl (sale_ok (n + 1) h1 h3 (th_bids _) (bidsB_of h h3)) ?_
  array_get_dec
  refine eq_by rfl rfl rfl (eqs_ok (n + 4) (eqD_self (pl_bids B).1 (Nat.le_trans (pl_bids _).2 (by decide)))) ?_
  array_get_dec
  refine eq_by rfl rfl rfl (eqo_ok (n + 4)) ?_
  array_get_dec
  refine eq_by rfl rfl rfl (eqo_ok (n + 4)) ?_
  array_get_dec
  exact ⟨st4⟩
theorem st2 : wB Gm (phi Gm tab (n + 5)) [0] (dropS 2 F__law_is_right.body) (envA hd t B x6 x7 x8 x9 x10 x11) (Mi.Fin F__law_is_right.io Post) := by
  have rest := st3 hh h1 h3 h (x6 := x6) (x7 := x7) (x8 := x8) (x9 := x9) (x10 := x10) (x11 := x11) n
  have hx : px (.lst [toldD t B, toldD t B, nD t, bidsD B]) = true := by
    have a := (px_told t B).1
    have b := px_pl (pl_bids B).1
    generalize toldD t B = z at *
    generalize bidsD B = y at *
    simp [px, pxs, a, b]
  have hdp : dpt (.lst [toldD t B, toldD t B, nD t, bidsD B]) ≤ 4 := by
    have a := (px_told t B).2
    have b := (pl_bids B).2
    generalize toldD t B = z at *
    generalize bidsD B = y at *
    simp only [dpt, dpts]
    omega
  dsimp only [dropS, F__law_is_right, envA, fz] at rest ⊢
  refine w_cut ?_
  array_get_dec
  refine call_by h_dealt.2 rfl rfl (dealt_ok (n + 1) h1 h3 h) rfl ?_
  array_get_dec
  refine call_by h_dealt.2 rfl rfl (dealt_ok (n + 1) h1 h3 h) rfl ?_
  array_get_dec
  refine call_by h__law_is.2 rfl rfl (is_ok (n + 4) hx (Nat.le_trans hdp (by omega))) rfl ?_
  array_get_dec
  exact ⟨rest⟩
theorem right_ok : ∃ hd', phi Gm tab (n + 6) i__law_is_right [(true, hd), (false, nD t), (false, bidsD B)] = some (.v (.bl true), [hd']) ∧ Hand hd' := by
  have key : ∃ r o, phi Gm tab (n + 6) i__law_is_right [(true, hd), (false, nD t), (false, bidsD B)] = some (r, o) ∧ Post r o := by
    have r2 := st2 hh h1 h3 h (x6 := none) (x7 := none) (x8 := none) (x9 := none) (x10 := none) (x11 := none) n
    have hdo := best_dok h1 h3 h
    have r1 : wB Gm (phi Gm tab (n + 5)) [0] (dropS 1 F__law_is_right.body) [some (true, hd), fz (nD t), fz (bidsD B), fz (saleD t (bidsD B)), fz (optD (some (bestV t B))), none, none, none, none, none, none, none, none] (Mi.Fin F__law_is_right.io Post) := by
      dsimp only [dropS, F__law_is_right, envA, fz] at r2 ⊢
      refine w_cut ?_
      array_get_dec
      refine w_compF (α := Int) rfl ?_
      array_get_dec
      refine ⟨(bestV t B).2, fun x => .one (.int x), fun _ => true, lotAt t, by rw [List.map_map]; rfl, fun x hx => ?_, ?_⟩
      · refine ⟨_, rfl, ?_⟩
        array_get_dec
        refine ⟨rfl, rfl, fun _ => ?_⟩
        array_get_dec
        refine call_by h__law_of.2 rfl rfl (lof_ok (n + 4) h3 (hdo.c x hx).1 (hdo.c x hx).2) rfl ?_
        array_get_dec
        rfl
      rw [filt_t]
      array_get_dec
      exact ⟨r2⟩
    refine phi_ex h__law_is_right.1 rfl ?_
    show wB Gm (phi Gm tab (n + 5)) [0] F__law_is_right.body [some (true, hd), fz (nD t), fz (bidsD B), none, none, none, none, none, none, none, none, none, none] _
    dsimp only [dropS, F__law_is_right, envA, fz] at r1 ⊢
    refine w_cut ?_
    array_get_dec
    refine make_by rfl rfl rfl (sale_ok (n + 1) h1 h3 (th_bids _) (bidsB_of h h3)) ?_
    array_get_dec
    refine call_by h__law_best.2 rfl rfl (lbest_ok (n + 3) h1 h3 h) rfl ?_
    array_get_dec
    exact ⟨r1⟩
  obtain ⟨r, o, e, hd', rfl, rfl, q⟩ := key
  exact ⟨hd', e, q⟩
end
end K70
set_option Elab.async false
set_option linter.all false
set_option maxRecDepth 100000
set_option maxHeartbeats 400000
namespace K70
open PySem Mi Sd
open Bal (nD of_ex sum_ints th ths ths_mem smt SA Hand)
abbrev B1 : List (List Int) := [[0, 5, 0, 5], [0, 3, 4, 8], [0, 0, 5, 5]]
abbrev B2 : List (List Int) := [[0, 4], [0, 4]]
theorem bok_of {t : Nat} {r : List Int} (h3 : t ≤ 3) (h : rowB t (rowT r) = true) (hb : ∀ x ∈ r, x ≤ 10 ^ 31) : BOk t r := by
  have h : (decide ((r.map D.int).length = 2 ^ t) && ((r.map D.int).all numB && (decide (gv ((r.map D.int).map toI) 0 = 0) && monoL t ((r.map D.int).map toI)))) = true := h
  rw [toI_map, List.length_map] at h
  simp only [Bool.and_eq_true, decide_eq_true_eq] at h
  obtain ⟨a, b, c, d⟩ := h
  refine ⟨a, c, fun x hx => ⟨?_, hb x hx⟩, fun k hk j hj hbit => ?_⟩
  · rw [List.all_eq_true] at b
    exact of_decide_eq_true (b (.int x) (List.mem_map.mpr ⟨x, hx, rfl⟩))
  · unfold monoL at d
    rw [List.all_eq_true] at d
    have := d k (List.mem_range.mpr (by rw [← a]; exact hk))
    rw [Bool.not_eq_true', List.any_eq_false] at this
    have := this j (by simp; omega)
    rw [hbit, Bool.true_and, decide_eq_true_eq] at this
    omega
theorem ok1 : WOk 2 B1 := ⟨by decide, by decide, fun r hr => bok_of (by decide) (by revert r; decide +kernel) (by revert r; decide +kernel)⟩
theorem ok2 : WOk 1 B2 := ⟨by decide, by decide, fun r hr => bok_of (by decide) (by revert r; decide +kernel) (by revert r; decide +kernel)⟩
abbrev T1 : D := .tup [.int 10, .tup [.tup [.int 0], .tup [], .tup [.int 1]]]
abbrev T2 : D := .tup [.int 4, .tup [.tup [], .tup [.int 0]]]
theorem told1 : toldD 2 B1 = T1 := by kernel_rfl
theorem told2 : toldD 1 B2 = T2 := by kernel_rfl
theorem law_ok (xs : List Int) : phi Gm tab 20 28 [(false, .scr xs)] = some (.v (.bl true), []) := of_ex (by
  refine phi_ex h_law.1 rfl ?_
  show wB Gm (phi Gm tab 19) [] F_law.body [some (false, .scr xs), none, none, none, none] _
  obtain ⟨r, ol, e, hd, rfl, rfl, hh⟩ := hand_ok 18 xs
  have e1 := dealt_ok 15 (by decide) (by decide) ok1
  have e2 := dealt_ok 15 (by decide) (by decide) ok2
  rw [told1] at e1
  rw [told2] at e2
  dsimp only [F_law]
  array_get_dec
  refine call_by h__law_hand.2 rfl rfl e rfl ?_
  array_get_dec
  refine ⟨Nat.le_of_ble_eq_true rfl, ?_⟩
  array_get_dec
  show MakeW Gm (phi Gm tab 19) 8 [R.v (nD 2), R.v (bidsD B1)] _ _
  refine make_by rfl rfl rfl (sale_ok 15 (by decide) (by decide) (th_bids _) (bidsB_of ok1 (by decide))) ?_
  array_get_dec
  refine call_by h_dealt.2 rfl rfl e1 rfl ?_
  array_get_dec
  refine call_by h__law_is.2 rfl rfl (is_ok 18 (d := T1) (by decide +kernel) (by decide +kernel)) rfl ?_
  array_get_dec
  show MakeW Gm (phi Gm tab 19) 8 [R.v (nD 1), R.v (bidsD B2)] _ _
  refine make_by rfl rfl rfl (sale_ok 15 (by decide) (by decide) (th_bids _) (bidsB_of ok2 (by decide))) ?_
  array_get_dec
  refine call_by h_dealt.2 rfl rfl e2 rfl ?_
  array_get_dec
  refine call_by h__law_is.2 rfl rfl (is_ok 18 (d := T2) (by decide +kernel) (by decide +kernel)) rfl ?_
  array_get_dec
  refine w_forL (α := Nat) rfl ?_
  array_get_dec
  refine ⟨List.range 5, fun i => .one (.int (i : Nat)), fun pre ρ => ∃ hd x3 x4, ρ = [some (false, .scr xs), some (true, hd), some (false, saleD 2 (bidsD B1)), x3, x4] ∧ Hand hd, rfl, ⟨_, _, _, rfl, hh⟩, fun pr i sf ρ he hI => ?_, fun ρ hI => ?_⟩
  · obtain ⟨hd, x3, x4, rfl, hh⟩ := hI
    obtain ⟨k, hd1, e1, hk, hh1⟩ := draw_nat 18 hh (L := 3) (by decide) (by decide)
    obtain ⟨B, hd2, e2, hB, hh2⟩ := bids_ok 15 hh1 (t := 1 + k) (by omega) (by omega)
    obtain ⟨hd3, e3, hh3⟩ := right_ok hh2 (by omega) (by omega) hB 13
    have et : (1 : Int) + (k : Int) = ((1 + k : Nat) : Int) := by omega
    refine ⟨_, rfl, ?_⟩
    array_get_dec
    refine call_by h__law_draw.2 rfl rfl e1 rfl ?_
    array_get_dec
    rw [et]
    array_get_dec
    refine call_by h__law_bids.2 rfl rfl e2 rfl ?_
    array_get_dec
    refine call_by h__law_is_right.2 rfl rfl e3 rfl ?_
    array_get_dec
    exact ⟨_, _, _, rfl, hh3⟩
  · obtain ⟨hd, x3, x4, rfl, hh⟩ := hI
    array_get_dec
    exact ⟨rfl, rfl⟩)
end K70
namespace K70
open PySem PySem.Spec PyProof.Rows L2 Mi
def LawTrue : Prop := ∀ xs : List Int, xs.length ≤ 63 → phi Gm tab 20 28 [(false, .scr xs)] = some (.v (.bl true), [])
abbrev lsM : List Str := ["_law_is_right"]
theorem fin (law : LawTrue) {l : PySem.W.OpenLaw} {w : World} {K : PySem.W.Frag} {h : Heap} {mg : Str → Option Value} {fa f0 C_Sale C_BadSale C_PlayError cc__law_is_right Pt__law_is_right : Addr} {oc kV doc pm cdv ct : Value} {od an : Option Addr} {osl : Array (Option Value)} {t_MOST_THINGS t_MOST_BIDDERS : Tok} (X : K.In h) (G : h.Ns mainGlobals mg) (hfa : mg "law" = some (.ref fa))
    (a0 : PySem.W.nsIn K mainGlobals "law" = some (some (.ref f0))) (l0 : K.lookup f0 = some ⟨oc, od, .func (PySem.W.fnOf "law" "law" (defArgs s_law) (defBody s_law) (defScope s_law) .none kV doc pm an cdv ct), osl⟩) (c0 : PySem.W.codeIn K cdv "law" = true) (k0 : PySem.W.keepIn K (.ref f0) = true)
    (d__law_hand : Dk K mg "_law_hand" "_law_hand" s__law_hand ["script"])
    (d_is_integer : Dk K mg "is_integer" "is_integer" s_is_integer ["thing"])
    (d_is_within : Dk K mg "is_within" "is_within" s_is_within ["thing", "least", "most"])
    (d_is_sized : Dk K mg "is_sized" "is_sized" s_is_sized ["thing", "least", "most"])
    (d_lots_of : Dk K mg "lots_of" "lots_of" s_lots_of ["many"])
    (d_is_tuple : Dk K mg "is_tuple" "is_tuple" s_is_tuple ["thing", "size"])
    (d_is_number : Dk K mg "is_number" "is_number" s_is_number ["thing"])
    (d_are_worths : Dk K mg "are_worths" "are_worths" s_are_worths ["thing", "things"])
    (d_Sale : Dm K mg "Sale" C_Sale "Sale.__init__" s_Sale ["self", "things", "bids"])
    (d__law_is : Dk K mg "_law_is" "_law_is" s__law_is ["got", "due"])
    (d_all_tuples : Dk K mg "all_tuples" "all_tuples" s_all_tuples ["sizes"])
    (d_lot_number : Dk K mg "lot_number" "lot_number" s_lot_number ["lot"])
    (d_all_deals : Dk K mg "all_deals" "all_deals" s_all_deals ["things", "bidders"])
    (d_worth_of : Dk K mg "worth_of" "worth_of" s_worth_of ["bids", "deal", "left_out"])
    (d_best_deal : Dk K mg "best_deal" "best_deal" s_best_deal ["things", "bids"])
    (d_dealt : Dk K mg "dealt" "dealt" s_dealt ["sale"])
    (d__law_draw : Dk K mg "_law_draw" "_law_draw" s__law_draw ["hand", "many"])
    (d_Sale___eq__ : De K C_Sale "Sale.__eq__" s_Sale___eq__ ["self", "other"])
    (d__law_lots : Dk K mg "_law_lots" "_law_lots" s__law_lots ["things", "many"])
    (d__law_best : Dk K mg "_law_best" "_law_best" s__law_best ["things", "bids"])
    (d__law_of : Dk K mg "_law_of" "_law_of" s__law_of ["lot"])
    (d__law_some : Dk K mg "_law_some" "_law_some" s__law_some ["hand", "things"])
    (d__law_bent : Dk K mg "_law_bent" "_law_bent" s__law_bent ["hand", "bids"])
    (d__law_are_bids : Dk K mg "_law_are_bids" "_law_are_bids" s__law_are_bids ["things", "thing"])
    (d__law_is_right : Dkc K mg "_law_is_right" s__law_is_right ["hand", "things", "bids"] cc__law_is_right)
    (tb__law_is_right : PySem.W.tabIn K "_law_is_right" = some (cc__law_is_right, Pt__law_is_right))
    (tn__law_is_right : K.lookup Pt__law_is_right = none)
    (d__law_bid : Dk K mg "_law_bid" "_law_bid" s__law_bid ["hand", "things", "most"])
    (d__law_single_bid : Dk K mg "_law_single_bid" "_law_single_bid" s__law_single_bid ["hand", "things", "most"])
    (d__law_bids : Dk K mg "_law_bids" "_law_bids" s__law_bids ["hand", "things"])
    (d__law_word : Dk K mg "_law_word" "_law_word" s__law_word ["call"])
    (hu : ∀ p ∈ ([(Pt__law_is_right, (("_law_is_right" : Str) ++ ".<locals>.") ++ "<lambda>")] : List (Addr × Str)), ∀ p' ∈ ([(Pt__law_is_right, (("_law_is_right" : Str) ++ ".<locals>.") ++ "<lambda>")] : List (Addr × Str)), p.1 = p'.1 → p.2 = p'.2)
    (k_Sale : Cls K C_Sale)
    (a_Sale_things : PySem.W.findIn K (.ref C_Sale) "things" = some none)
    (a_Sale_bids : PySem.W.findIn K (.ref C_Sale) "bids" = some none)
    (mc_Sale : PySem.W.nsIn K mainGlobals "Sale" = some (some (.ref C_Sale)))
    (isk_Sale : IskOk K C_Sale)
    (u_MOST_THINGS : PySem.W.nsIn K mainGlobals "MOST_THINGS" = some (some (.int 3 t_MOST_THINGS)))
    (u_MOST_BIDDERS : PySem.W.nsIn K mainGlobals "MOST_BIDDERS" = some (some (.int 4 t_MOST_BIDDERS)))
    (z_ValueError : PySem.W.nsIn K mainGlobals "ValueError" = some none)
    (z_abs : PySem.W.nsIn K mainGlobals "abs" = some none)
    (z_all : PySem.W.nsIn K mainGlobals "all" = some none)
    (z_any : PySem.W.nsIn K mainGlobals "any" = some none)
    (z_bool : PySem.W.nsIn K mainGlobals "bool" = some none)
    (z_enumerate : PySem.W.nsIn K mainGlobals "enumerate" = some none)
    (z_int : PySem.W.nsIn K mainGlobals "int" = some none)
    (z_isinstance : PySem.W.nsIn K mainGlobals "isinstance" = some none)
    (z_len : PySem.W.nsIn K mainGlobals "len" = some none)
    (z_list : PySem.W.nsIn K mainGlobals "list" = some none)
    (z_max : PySem.W.nsIn K mainGlobals "max" = some none)
    (z_range : PySem.W.nsIn K mainGlobals "range" = some none)
    (z_repr : PySem.W.nsIn K mainGlobals "repr" = some none)
    (z_sorted : PySem.W.nsIn K mainGlobals "sorted" = some none)
    (z_str : PySem.W.nsIn K mainGlobals "str" = some none)
    (z_sum : PySem.W.nsIn K mainGlobals "sum" = some none)
    (z_tuple : PySem.W.nsIn K mainGlobals "tuple" = some none)
    (z_zip : PySem.W.nsIn K mainGlobals "zip" = some none)
    (m_BadSale : PySem.W.nsIn K mainGlobals "BadSale" = some (some (.ref C_BadSale)))
    (m_PlayError : PySem.W.nsIn K mainGlobals "PlayError" = some (some (.ref C_PlayError)))
    (o_BadSale : OexC K C_BadSale)
    (xc_BadSale : XcC K C_BadSale)
    (ex_BadSale : PySem.W.exmOne K (.ref C_BadSale) (.ref C_PlayError) = some true)
    (n_BadSale : PySem.W.findIn K (.ref C_BadSale) "part" = some none)
    (rt : XRoot K C_PlayError "PlayError.__init__" s_PlayError ["self"] [])
    (i_BadSale : XOwn K C_BadSale "BadSale.__init__" s_BadSale ["self", "part"])
    (su_BadSale_BadSale : PySem.W.kitOne K (.ref C_BadSale) (.ref C_BadSale) = some true)
    (su_BadSale_PlayError : PySem.W.kitOne K (.ref C_BadSale) (.ref C_PlayError) = some true)
    (sb_BadSale : PySem.W.kitOne K (.ref C_BadSale) (.type "ValueError") = some true)
    : ∃ (fd : FuncData) (T : List (Addr × Str)), (∀ p ∈ T, ∃ x ∈ lsM, ∃ c, PySem.W.tabIn K x = some (c, p.1)) ∧ (∀ x ∈ lsM, ∀ c Pt, PySem.W.tabIn K x = some (c, Pt) → K.lookup Pt = none) ∧ (∀ (s : Shared) (v : Value), BindsTo s fd ⟨[v], []⟩ [("script", v)]) ∧
      ∀ base : Heap, K.In base → base.Ns mainGlobals mg → (∀ x ∈ lsM, ∀ c Pt, PySem.W.tabIn K x = some (c, Pt) → LamX.TabB base mg c Pt) → FnG l.prog w K mg base (L2.CX l.prog w) 84 fa fd ["script"] (spLaw 63 K T) := by
  have e := hfa.symm.trans (PySem.W.mg_of X G a0)
  cases e
  let P : Mi.TP := { K := K, glob := fun n => match n with | 0 => (V.int 3) | 1 => (V.int 4) | _ => V.non, cls := fun n => match n with | 8 => C_Sale | 1000 => C_BadSale | 1001 => C_PlayError | _ => fa, tabs := [(Pt__law_is_right, (("_law_is_right" : Str) ++ ".<locals>.") ++ "<lambda>")], wd := Gm.word, fn := fnOf [] }
  have T : Txt P mg := { d__law_hand := d__law_hand, d_is_integer := d_is_integer, d_is_within := d_is_within, d_is_sized := d_is_sized, d_lots_of := d_lots_of, d_is_tuple := d_is_tuple, d_is_number := d_is_number, d_are_worths := d_are_worths, d_Sale := d_Sale, d__law_is := d__law_is, d_all_tuples := d_all_tuples, d_lot_number := d_lot_number, d_all_deals := d_all_deals, d_worth_of := d_worth_of, d_best_deal := d_best_deal, d_dealt := d_dealt, d__law_draw := d__law_draw, d_Sale___eq__ := d_Sale___eq__, d__law_lots := d__law_lots, d__law_best := d__law_best, d__law_of := d__law_of, d__law_some := d__law_some, d__law_bent := d__law_bent, d__law_are_bids := d__law_are_bids, d__law_is_right := d__law_is_right.dk, d__law_bid := d__law_bid, d__law_single_bid := d__law_single_bid, d__law_bids := d__law_bids, d_law := ⟨_, _, fun_mk l0 c0 k0, hfa, (fun_mk l0 c0 k0).binds (fun _ _ _ _ _ _ us hl => match us, hl with | [_], _ => rfl)⟩, d__law_word := d__law_word, k_Sale := k_Sale, a_Sale_things := a_Sale_things, a_Sale_bids := a_Sale_bids, mc_Sale := PySem.W.mg_of X G mc_Sale, isk_Sale := isk_Sale, v_MOST_THINGS := rfl, g_MOST_THINGS := ⟨_, PySem.W.mg_of X G u_MOST_THINGS, ⟨_, rfl⟩⟩, v_MOST_BIDDERS := rfl, g_MOST_BIDDERS := ⟨_, PySem.W.mg_of X G u_MOST_BIDDERS, ⟨_, rfl⟩⟩, z_ValueError := PySem.W.mg_none_of X G z_ValueError, z_abs := PySem.W.mg_none_of X G z_abs, z_all := PySem.W.mg_none_of X G z_all, z_any := PySem.W.mg_none_of X G z_any, z_bool := PySem.W.mg_none_of X G z_bool, z_enumerate := PySem.W.mg_none_of X G z_enumerate, z_int := PySem.W.mg_none_of X G z_int, z_isinstance := PySem.W.mg_none_of X G z_isinstance, z_len := PySem.W.mg_none_of X G z_len, z_list := PySem.W.mg_none_of X G z_list, z_max := PySem.W.mg_none_of X G z_max, z_range := PySem.W.mg_none_of X G z_range, z_repr := PySem.W.mg_none_of X G z_repr, z_sorted := PySem.W.mg_none_of X G z_sorted, z_str := PySem.W.mg_none_of X G z_str, z_sum := PySem.W.mg_none_of X G z_sum, z_tuple := PySem.W.mg_none_of X G z_tuple, z_zip := PySem.W.mg_none_of X G z_zip, m_BadSale := PySem.W.mg_of X G m_BadSale, m_PlayError := PySem.W.mg_of X G m_PlayError, o_BadSale := o_BadSale, n_BadSale := n_BadSale, rt := rt, i_BadSale := i_BadSale, wd := rfl, exc := rfl, su := (fa_cons su_BadSale_BadSale (fa_cons su_BadSale_PlayError fa_nil)), sb := (fa_cons sb_BadSale fa_nil), xf := (fa_cons n_BadSale fa_nil), hx := (fa_cons (fun z => absurd z (by decide)) (fa_cons (fun _ _ => ⟨xc_BadSale, ex_BadSale⟩) fa_nil)), fns := fun i a e => (by have e : fnOf [] i = some a := e; exact absurd (fnOf_mem e) (by simp)), fnx := fun i hi => by simp [Gm] at hi }
  refine ⟨PySem.W.fnOf "law" "law" (defArgs s_law) (defBody s_law) (defScope s_law) .none kV doc pm an cdv ct, P.tabs, (fa_cons ⟨"_law_is_right", by simp, _, tb__law_is_right⟩ fa_nil), (fa_cons (fun c Pt e => by rw [tb__law_is_right] at e; cases e; exact tn__law_is_right) fa_nil), fun s v => .of_eq rfl, fun base _ _ tb => ?_⟩
  have M : Lms P mg base := { yes := trivial, l__law_is_right := d__law_is_right.lam (tb "_law_is_right" (by simp) _ _ tb__law_is_right) (by simp [P]) hu }
  exact law_fn (P := P) (ok T) lo rfl rfl sc_law rfl rfl rfl (fun cdv A outer s H E hr => b_law T (all T M 19) hr) (by decide) law (fun_mk l0 c0 k0)
end K70
set_option maxHeartbeats 0
open PySem PySem.W PyProof.Rows L2 Mi
theorem K70.law_true : K70.LawTrue := fun xs _ => K70.law_ok xs
theorem PySem.Challenge.cw_playershouse_k70_whole_sales_dealt_holds : PySem.Challenge.rw_playershouse_k70_whole_sales_dealt.Holds := by
  w_on; o_law; k_head; (case hw => w_witness2)
  k_fill
  refine Mi.law_walk (k := 84) (l := PySem.Challenge.rw_playershouse_k70_whole_sales_dealt) K70.lsM ?hrec (by decide) rfl rfl ⟨⟨rfl, by decide, by decide⟩, rfl⟩ (fun w h Y => PySem.W.km_in_of Y) ?F
  case hrec => exact (fa_cons ⟨_, rfl⟩ fa_nil)
  case F =>
    intro w mg fa h KX G hmg
    refine' K70.fin K70.law_true KX G hmg ?a0 ?l0 ?c0 ?k0 (dk_of KX G ?h1 ?h2 ?h3 ?h4 (fun _ _ _ _ _ _ us hl => match us, hl with | [_], _ => rfl)) (dk_of KX G ?h5 ?h6 ?h7 ?h8 (fun _ _ _ _ _ _ us hl => match us, hl with | [_], _ => rfl)) (dk_of KX G ?h9 ?h10 ?h11 ?h12 (fun _ _ _ _ _ _ us hl => match us, hl with | [_, _, _], _ => rfl)) (dk_of KX G ?h13 ?h14 ?h15 ?h16 (fun _ _ _ _ _ _ us hl => match us, hl with | [_, _, _], _ => rfl)) (dk_of KX G ?h17 ?h18 ?h19 ?h20 (fun _ _ _ _ _ _ us hl => match us, hl with | [_], _ => rfl)) (dk_of KX G ?h21 ?h22 ?h23 ?h24 (fun _ _ _ _ _ _ us hl => match us, hl with | [_, _], _ => rfl)) (dk_of KX G ?h25 ?h26 ?h27 ?h28 (fun _ _ _ _ _ _ us hl => match us, hl with | [_], _ => rfl)) (dk_of KX G ?h29 ?h30 ?h31 ?h32 (fun _ _ _ _ _ _ us hl => match us, hl with | [_, _], _ => rfl)) (dm_of KX G ?h33 ?h34 ?h35 ?h36 ?h37 ?h38 ?h39 ?h40 (fun _ _ _ _ _ _ us hl => match us, hl with | [_, _, _], _ => rfl)) (dk_of KX G ?h41 ?h42 ?h43 ?h44 (fun _ _ _ _ _ _ us hl => match us, hl with | [_, _], _ => rfl)) (dk_of KX G ?h45 ?h46 ?h47 ?h48 (fun _ _ _ _ _ _ us hl => match us, hl with | [_], _ => rfl)) (dk_of KX G ?h49 ?h50 ?h51 ?h52 (fun _ _ _ _ _ _ us hl => match us, hl with | [_], _ => rfl)) (dk_of KX G ?h53 ?h54 ?h55 ?h56 (fun _ _ _ _ _ _ us hl => match us, hl with | [_, _], _ => rfl)) (dk_of KX G ?h57 ?h58 ?h59 ?h60 (fun _ _ _ _ _ _ us hl => match us, hl with | [_, _, _], _ => rfl)) (dk_of KX G ?h61 ?h62 ?h63 ?h64 (fun _ _ _ _ _ _ us hl => match us, hl with | [_, _], _ => rfl)) (dk_of KX G ?h65 ?h66 ?h67 ?h68 (fun _ _ _ _ _ _ us hl => match us, hl with | [_], _ => rfl)) (dk_of KX G ?h69 ?h70 ?h71 ?h72 (fun _ _ _ _ _ _ us hl => match us, hl with | [_, _], _ => rfl)) (de_of ?h73 ?h74 ?h75 ?h76 ?h77 ?h78 ?h79 (fun _ _ _ _ _ _ us hl => match us, hl with | [_, _], _ => rfl)) (dk_of KX G ?h80 ?h81 ?h82 ?h83 (fun _ _ _ _ _ _ us hl => match us, hl with | [_, _], _ => rfl)) (dk_of KX G ?h84 ?h85 ?h86 ?h87 (fun _ _ _ _ _ _ us hl => match us, hl with | [_, _], _ => rfl)) (dk_of KX G ?h88 ?h89 ?h90 ?h91 (fun _ _ _ _ _ _ us hl => match us, hl with | [_], _ => rfl)) (dk_of KX G ?h92 ?h93 ?h94 ?h95 (fun _ _ _ _ _ _ us hl => match us, hl with | [_, _], _ => rfl)) (dk_of KX G ?h96 ?h97 ?h98 ?h99 (fun _ _ _ _ _ _ us hl => match us, hl with | [_, _], _ => rfl)) (dk_of KX G ?h100 ?h101 ?h102 ?h103 (fun _ _ _ _ _ _ us hl => match us, hl with | [_, _], _ => rfl)) (dkc_of KX G ?h104 ?h105 ?h106 ?h107 (fun _ _ _ _ _ _ us hl => match us, hl with | [_, _, _], _ => rfl)) (tabIn_of ?h108 ?h109 ?h110 ?h111 ?h112) ?h113 (dk_of KX G ?h114 ?h115 ?h116 ?h117 (fun _ _ _ _ _ _ us hl => match us, hl with | [_, _, _], _ => rfl)) (dk_of KX G ?h118 ?h119 ?h120 ?h121 (fun _ _ _ _ _ _ us hl => match us, hl with | [_, _, _], _ => rfl)) (dk_of KX G ?h122 ?h123 ?h124 ?h125 (fun _ _ _ _ _ _ us hl => match us, hl with | [_, _], _ => rfl)) (dk_of KX G ?h126 ?h127 ?h128 ?h129 (fun _ _ _ _ _ _ us hl => match us, hl with | [_], _ => rfl)) ?h130 ⟨?h131, ?h132, ?h133, ?h134⟩ ?h135 ?h136 ?h137 (isk_of ⟨?h144, ?h145, ?h146, ?h147⟩ ?h138 ?h139 ?h140 ?h141 ?h142 ?h143) ?h148 ?h149 ?h150 ?h151 ?h152 ?h153 ?h154 ?h155 ?h156 ?h157 ?h158 ?h159 ?h160 ?h161 ?h162 ?h163 ?h164 ?h165 ?h166 ?h167 ?h168 ?h169 (oex_of ?h170 ?h171 ?h172 ?h173 ?h174 ?h175) (xc_of ?h176 ?h177 ?h178 ?h179 ?h180 ?h181 ?h182 ?h183 ?h184) (PySem.W.exm_ref ?h185 ?h186 ?h187 ?h188) ?h189 (xroot_of ?h190 ?h191 ?h192 ?h193 ?h194 ?h195 ?h196 ?h197 fa_nil (fun _ _ _ _ _ _ us hl => match us, hl with | [_], _ => rfl)) (xown_of ?h198 ?h199 ?h200 ?h201 ?h202 (fun _ _ _ _ _ _ us hl => match us, hl with | [_, _], _ => rfl)) (kit_of ?h203 ?h204 ?h205 ?h206) (kit_of ?h207 ?h208 ?h209 ?h210) (kitB_of ?h211 ?h212)
    (case a0 => k_is)
    (case l0 => k_is)
    (case c0 => k_is)
    (case k0 => k_is)
    (case h1 => k_is)
    (case h2 => k_is)
    (case h3 => k_is)
    (case h4 => k_is)
    (case h5 => k_is)
    (case h6 => k_is)
    (case h7 => k_is)
    (case h8 => k_is)
    (case h9 => k_is)
    (case h10 => k_is)
    (case h11 => k_is)
    (case h12 => k_is)
    (case h13 => k_is)
    (case h14 => k_is)
    (case h15 => k_is)
    (case h16 => k_is)
    (case h17 => k_is)
    (case h18 => k_is)
    (case h19 => k_is)
    (case h20 => k_is)
    (case h21 => k_is)
    (case h22 => k_is)
    (case h23 => k_is)
    (case h24 => k_is)
    (case h25 => k_is)
    (case h26 => k_is)
    (case h27 => k_is)
    (case h28 => k_is)
    (case h29 => k_is)
    (case h30 => k_is)
    (case h31 => k_is)
    (case h32 => k_is)
    (case h33 => k_is)
    (case h34 => k_is)
    (case h35 => k_is)
    (case h36 => k_is)
    (case h37 => k_is)
    (case h38 => k_is)
    (case h39 => k_is)
    (case h40 => k_is)
    (case h41 => k_is)
    (case h42 => k_is)
    (case h43 => k_is)
    (case h44 => k_is)
    (case h45 => k_is)
    (case h46 => k_is)
    (case h47 => k_is)
    (case h48 => k_is)
    (case h49 => k_is)
    (case h50 => k_is)
    (case h51 => k_is)
    (case h52 => k_is)
    (case h53 => k_is)
    (case h54 => k_is)
    (case h55 => k_is)
    (case h56 => k_is)
    (case h57 => k_is)
    (case h58 => k_is)
    (case h59 => k_is)
    (case h60 => k_is)
    (case h61 => k_is)
    (case h62 => k_is)
    (case h63 => k_is)
    (case h64 => k_is)
    (case h65 => k_is)
    (case h66 => k_is)
    (case h67 => k_is)
    (case h68 => k_is)
    (case h69 => k_is)
    (case h70 => k_is)
    (case h71 => k_is)
    (case h72 => k_is)
    (case h73 => k_is)
    (case h74 => k_is)
    (case h75 => k_is)
    (case h76 => k_is)
    (case h77 => k_is)
    (case h78 => k_is)
    (case h79 => k_is)
    (case h80 => k_is)
    (case h81 => k_is)
    (case h82 => k_is)
    (case h83 => k_is)
    (case h84 => k_is)
    (case h85 => k_is)
    (case h86 => k_is)
    (case h87 => k_is)
    (case h88 => k_is)
    (case h89 => k_is)
    (case h90 => k_is)
    (case h91 => k_is)
    (case h92 => k_is)
    (case h93 => k_is)
    (case h94 => k_is)
    (case h95 => k_is)
    (case h96 => k_is)
    (case h97 => k_is)
    (case h98 => k_is)
    (case h99 => k_is)
    (case h100 => k_is)
    (case h101 => k_is)
    (case h102 => k_is)
    (case h103 => k_is)
    (case h104 => k_is)
    (case h105 => k_is)
    (case h106 => k_is)
    (case h107 => k_is)
    (case h108 => k_is)
    (case h109 => k_is)
    (case h110 => rfl)
    (case h111 => k_is)
    (case h112 => rfl)
    (case h113 => first | kernel_rfl | rfl)
    (case h114 => k_is)
    (case h115 => k_is)
    (case h116 => k_is)
    (case h117 => k_is)
    (case h118 => k_is)
    (case h119 => k_is)
    (case h120 => k_is)
    (case h121 => k_is)
    (case h122 => k_is)
    (case h123 => k_is)
    (case h124 => k_is)
    (case h125 => k_is)
    (case h126 => k_is)
    (case h127 => k_is)
    (case h128 => k_is)
    (case h129 => k_is)
    (case h130 => first | (simp; done) | (intro p hp p1 hp1 e; simp only [List.mem_cons, List.not_mem_nil, or_false] at hp hp1; rcases hp with rfl <;> rcases hp1 with rfl <;> first | rfl | exact absurd e (by decide)))
    (case h131 => k_is)
    (case h132 => k_is)
    (case h133 => k_is)
    (case h134 => k_is)
    (case h135 => k_is)
    (case h136 => k_is)
    (case h137 => k_is)
    (case h138 => k_is)
    (case h139 => k_is)
    (case h140 => k_is)
    (case h141 => k_is)
    (case h142 => k_is)
    (case h143 => k_is)
    (case h144 => k_is)
    (case h145 => k_is)
    (case h146 => k_is)
    (case h147 => k_is)
    (case h148 => k_is)
    (case h149 => k_is)
    (case h150 => k_is)
    (case h151 => k_is)
    (case h152 => k_is)
    (case h153 => k_is)
    (case h154 => k_is)
    (case h155 => k_is)
    (case h156 => k_is)
    (case h157 => k_is)
    (case h158 => k_is)
    (case h159 => k_is)
    (case h160 => k_is)
    (case h161 => k_is)
    (case h162 => k_is)
    (case h163 => k_is)
    (case h164 => k_is)
    (case h165 => k_is)
    (case h166 => k_is)
    (case h167 => k_is)
    (case h168 => k_is)
    (case h169 => k_is)
    (case h170 => k_is)
    (case h171 => first | rfl | decide)
    (case h172 => k_is)
    (case h173 => k_is)
    (case h174 => k_is)
    (case h175 => k_is)
    (case h176 => k_is)
    (case h177 => k_is)
    (case h178 => k_is)
    (case h179 => k_is)
    (case h180 => k_is)
    (case h181 => k_is)
    (case h182 => k_is)
    (case h183 => k_is)
    (case h184 => k_is)
    (case h185 => k_is)
    (case h186 => k_is)
    (case h187 => k_is)
    (case h188 => k_is)
    (case h189 => k_is)
    (case h190 => k_is)
    (case h191 => k_is)
    (case h192 => k_is)
    (case h193 => k_is)
    (case h194 => k_is)
    (case h195 => k_is)
    (case h196 => k_is)
    (case h197 => k_is)
    (case h198 => k_is)
    (case h199 => k_is)
    (case h200 => k_is)
    (case h201 => k_is)
    (case h202 => k_is)
    (case h203 => k_is)
    (case h204 => k_is)
    (case h205 => k_is)
    (case h206 => first | exact fun _ => rfl | exact fun z => absurd z (by decide))
    (case h207 => k_is)
    (case h208 => k_is)
    (case h209 => k_is)
    (case h210 => first | exact fun _ => rfl | exact fun z => absurd z (by decide))
    (case h211 => first | rfl | decide)
    (case h212 => k_is)
